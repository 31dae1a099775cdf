import PyProof.Rows.All
import Wide.All
import OpenK.AllK
import PyProof.ExcBaseAll.Exception
import Lean
import PySem.Challenge.RW_xm0829_01
set_option Elab.async false
set_option maxRecDepth 100000
set_option bootstrap.genMatcherCode false
set_option genInjectivity false
set_option genSizeOf false
set_option linter.all false
set_option genCtorIdx false
set_option tactic.hygienic false
open List renaming getElem?_eq_some_iff->Sj,mem_of_getElem?->Sk,getElem?_eq_getElem->Sn,length_map->Sp,length_append->Sq,mem_singleton->Sy,getElem?_map->SA,append_assoc->SG,getD_eq_getElem?_getD->SR,mem_append->SW,map_append->SX,mem_append_right->S9,all_eq_true->Tc,replicate->Tf,pairwise_iff_getElem->Th,append_nil->Ti,mem_cons->Tn,mem_map->Tr,getElem?_append_right->TG,mem_iff_getElem?->TJ,mem_append_left->TP,range->TR,mem_map_of_mem->TZ,lookup_cons->T9,getElem?_eq_none->Ua,getElem?_set_self->Ue,pairwise_append->Ug,mem_flatten->Uh,size_toArray->Ui,nodup_cons->Uj,getElem?_append_left->Un,map_map->Uo,getElem?_set_ne->Uq,getElem?_eq_none_iff->UB,length_take->UM,pairwise_map->UR,length_range->US,map_cons->UT,mem_filter->UU,length_filter_le->UW,mem_filterMap->UZ,not_mem_nil->U1,pairwise_singleton->U4,take_sublist->U5,length_set->U6,find?_cons_of_neg->U7,take_length->U9,length_replicate->Ve,getElem?_take_of_lt->Vf,take_of_length_le->Vn,flatten_cons->Vu,casesOn->VB,length->VN,ext_getElem?->VO,take_left->VQ,drop_zero->VR,take_append_drop->VU,mem_of_mem_take->V9,toList_toArray->Wd,sublist_flatten_of_mem->We,length_reverse->Wg,flatten_append->Wh,filterMap_cons->Wj,mem_range->Wr,drop_eq_getElem_cons->Wt,mem_finRange->WC,map_take->WL,set_append_right->WV,nil_append->WW,length_nil->WX,getElem?_reverse->WY,findSome?_append->WZ,drop_left->Xp,findSome?_cons->Xv,zip_cons_cons->XH,pairwise_cons->XI,map_replicate->XJ,getElem_range->XK,finRange->XM,map_set->X4,length_cons->Yg,isEmpty_iff->Yh,getElem_mem->Yi,exists_mem_of_length_pos->Yj,eq_nil_of_length_eq_zero->Yk,zip->Yo,sum_append->Yv,range'->Yw,exists_cons_of_ne_nil->YD,mem_of_find?_eq_some->YI,filterMap_cons_some->YS,eq_of_mem_replicate->YT,length_eq_zero_iff->YV,any_cons->YW,all_cons->YX,range_succ_eq_map->Y5,length_pos_of_mem->Y6,find?_cons_of_pos->Y7,filter_eq_nil_iff->Y8,drop_of_length_le->Y9,append_eq_nil_iff->Za,set_getElem_self->Zf,perm_append_comm->Zg,getElem?_of_mem->Zl,map_congr_left->Zt,length_pos_iff->Zu,getElem?_range->Zv,flatMap_append->Zw,filter_sublist->Zx,zip_nil_right->ZF,getElem?_take->ZG,find?_eq_none->ZH,filterMap_map->ZI,append_of_mem->ZJ,take_add_one->ZP,getElem?_set->ZQ,flatMap_cons->ZR,length_drop->Z3,filter_cons->Z4,drop_length->Z5,findSome?->aaY,sum_cons->abB,rec->abE,set_set->ab5,map_nil->ab6,flatten->ab7,filter->acv
open Nat renaming le_trans->Sl,le_refl->Sv,lt_of_lt_of_le->Sx,lt_of_le_of_lt->SD,le_add_right->SI,le_of_not_lt->SJ,lt_succ_self->SQ,ne_of_lt->SY,le_of_lt->Tj,lt_irrefl->To,le_succ_of_le->Tp,zero_le->Tq,lt_or_eq_of_le->Tt,lt_succ_of_lt->Tu,add_le_add_right->Tw,le_add_left->TA,lt_trans->TL,sub_add_cancel->TS,add_assoc->TU,one_pos->TV,zero_add->TX,add_right_comm->TY,le_succ->T8,le_of_eq->Ub,le_of_lt_succ->Uk,succ_pos->Ul,exists_eq_add_of_le'->Us,succ_ne_zero->Uv,succ_le_of_lt->Uw,not_lt->Ux,and_two_pow_sub_one_eq_mod->Uy,add_comm->Uz,mod_lt->UA,add_sub_cancel'->UD,ne_of_gt->UG,lt_of_succ_lt->UH,not_lt_zero->UK,lt_add_of_pos_right->UL,div_div_eq_div_mul->UP,sub_lt->U0,succ_le_succ->Vc,mod_eq_of_lt->Vd,lt_trichotomy->Vg,add_sub_cancel_left->Vi,add_lt_add_left->Vj,add_le_add_left->Vk,sub_le->Vl,add_le_add->Vm,eq_or_lt_of_le->Vo,min_eq_left->Vs,le_sub_one_of_lt->Vw,div_lt_of_lt_mul->Vx,add_lt_add_right->Vy,div_mul_le_self->VA,mul_comm->VC,le_antisymm->VJ,le_of_succ_le->VP,sub_self->VW,lt_or_ge->Wq,not_le->WH,lt_of_succ_le->WI,eq_zero_of_not_pos->WU,noConfusion->Xe,pow_lt_pow_right->Xo,lt_one_iff->Xu,lt_mul_div_succ->XA,pow_succ'->XU,lt_of_le_of_ne->XW,pow_zero->Ye,succ_ne_self->Ym,min_eq_right->Yn,mod_add_div->YB,min_le_left->YC,lt_of_succ_lt_succ->Ze,pow_le_pow_right->Zr,not_succ_le_self->Zs,pow_pos->ZD,casesOn->ZE,eq_zero_or_pos->ZO,add_sub_assoc->Z2,min_le_right->Z8,rec->aaI,min_assoc->ab4,mul_succ->acn,min_self->aco,lt_asymm->acp,le_total->acr,add_zero->acu
open Option.some renaming inj->Sm,injEq->Xd
open Bool renaming and_eq_true_iff->Su,noConfusion->Uu,and_eq_true->U3,not_eq_true'->Vv,false_eq_true->VI,or_eq_true_iff->Wm,or_eq_true->W4,eq_iff_iff->W5,false_ne_true->ZM,true_or->acg,or_true->ach
open PySem renaming wpAny_bind->Sw,wpAny_pure->SN,Value->Te,Shared->Tz,wpAny_of_eq->Ud,Addr->Um,mainGlobals->UC,Expr->UI,wpAny_newObj_type->UX,wpAny_specialOf->U8,wpAny_isInstance->Vp,Heap->Vr,wpAny_tupleItemsOf->Vt,wpAny_call_entry->VE,NameKind->VF,Stmt->VV,wpAny_load->VZ,builtinsNs->V5,DictEntry->Wb,Around->Wc,wpAny_mono->Wo,wpAny_richCompare_same_room->Wx,compareOp->Wy,wpAny_truthy_bool->WR,wpAny_rule->WS,wpAny_pyIter_list->WT,wpAny_holding->W6,wpAny_field->Xa,holding->Xb,FuncData->Xi,getItem->Xw,bootBuiltins->Xx,Program->Xz,standAt->XY,ExceptHandler->Yq,wpAny_lookBehind->YL,wpAny_forIn_list->YM,wpAny_eqBool_int->YN,World->YO,FuncBody->YZ,Scope->Y0,Model->Y3,recursionLimit->Zj,wpAny_getItem_list_slice->Zq,binaryOp->ZA,wpAny_storeName_local->ZX,Result->Z1,wpAny_loadName_local->Z7,wpAny_loadName_free->aai,wpAny_loadName_cell->aal,newList->aao,OsState->aaB,IsRangeIter->aa0,wpAny_pyIter_range->abo,wpAny_Constant_int->abt,sizeLine->abv,wpAny_sequenceKey->ab1,Const->acf,wpAny_comp_letGo->aci,wpAny_askSetting->acj
open Option renaming map_eq_some_iff->Sz,isSome_iff_exists->SM,bind_eq_some_iff->SV,map->Td,isSome->WB,map_some->Yd,isNone_iff_eq_none->Yu,elim->abz
open UInt8 renaming ofNat->SH,lt_irrefl->ZZ
open PySem.Heap renaming get?_push_of_some->SK,get?_push_size->TN,lt_size->Ur,get?_update_other->UO,get?_update_self->Vq,size_push->VT,get?_none_of_le->Wa,SameBut->Zh,get?_push_ne->ZT,get?_eq_some->ZU
open Array renaming length_toList->Tv,getD_eq_getD_getElem?->TQ,getElem?_toList->UE,getElem?_eq_getElem->YF,toArray_toList->Zi,toList_append->Zp,toList_push->ZN,any_toList->ZW
open Int renaming natCast_nonneg->TF,ofNat_lt->TM,ofNat_le->UN,not_lt->VD,zero_mul->VX,one_mul->Wn,zero_add->Wu,natAbs_natCast->Wv,le_of_lt->Ww,toNat_natCast->WJ,natCast_pow->Xg,add_zero->Xh,toNat_of_nonneg->XD,lt_irrefl->XX,not_le->X5,fdiv_eq_ediv_of_nonneg->YJ,mul_assoc->Zc,zero_sub->Zm,le_total->Zn,add_comm->Zo,sub_nonneg_of_le->Zy,mul_add->ZK,natCast_ediv->Z9,min_eq_right->aac,toNat->abd,natCast_add->abe,min_eq_left->abi,mul_nonneg->abH,add_assoc->ace,ne_of_gt->acC,mul_zero->acE,lt_trans->acI,le_trans->acJ,le_of_eq->acL,ediv_one->acN
open Prod renaming fst->TH,snd->Vz
open Eq renaming trans->Uc
open PySem.NameKind renaming free->Ut,noConfusion->UY
open PySem.W.Looks renaming of_pure->UJ,ld->XC,andThen->YR
open PySem.Obj renaming mapSeq->Va,mapBytearray->Vb,putName->YA
open PySem.PyData renaming keyHash->Vh
open PySem.Expr.Name renaming elim->VH
open PySem.Value renaming type->VK,noConfusion->VL,isInt->VM,builtin->V8,none->XT,ref->Yl,bool->YH,isStr->Zk,int->ZY
open Int.ofNat renaming inj->VS
open PySem.Around renaming under_plainId->VY,frames_deeper->Zd
open PySem.W.Fast renaming te17119622794617984870->Wl,te797321630700447069->YK
open False renaming elim->Wz
open PySem.Stmt.AugAssign renaming elim->WA
open PySem.FuncBody.stmts renaming elim->WD
open PySem.Expr.Subscript renaming elim->WE
open PySem.Expr.Attribute renaming elim->WG
open ForInStep renaming yield->WK
open PySem.Value.builtin renaming elim->WM
open PySem.Expr.ListComp renaming elim->WN
open PySem.Expr.Constant renaming elim->WO
open Ne renaming symm->WQ
open PySem.Expr.UnaryOp renaming elim->W0
open PySem.Expr.Compare renaming elim->W3
open PySem.Str renaming ofString->Xc
open PySem.W renaming Looks->Xf,Frag->abn
open And renaming intro->Xj
open List.Mem renaming tail->Xk,head->ZS
open PySem.W.FB renaming slot_bytes_getitem->Xl
open PySem.Stmt.Return renaming elim->Xm
open PySem.Stmt.Assign renaming elim->Xn
open PySem.Expr.BoolOp renaming elim->Xq
open PySem.Data.fields renaming elim->Xr
open PySem.Const.bytes renaming elim->Xs
open PySem.Sem renaming wp_mono->Xy
open PySem.Value.type renaming elim->XE
open PySem.Stmt.While renaming elim->XF
open PySem.Stmt.Raise renaming elim->XG
open PySem.Expr.Tuple renaming elim->XN
open PySem.Expr.Slice renaming elim->XO
open PySem.Expr.IfExp renaming elim->XQ
open PySem.Expr.BinOp renaming elim->XR
open PySem.Const.bool renaming elim->XS
open PySem.Value.str renaming elim->XZ
open PySem.Value.ref renaming elim->X0
open PySem.Stmt.Expr renaming elim->X3
open PySem.Expr.List renaming elim->X6
open PySem.Expr.Dict renaming elim->X7
open PySem.Expr.Call renaming elim->X8
open PySem.Data.func renaming elim->X9
open PySem.Const.str renaming elim->Yb
open PySem.Const.int renaming elim->Yc
open List.cons renaming inj->Yp
open PySem.Stmt.Try renaming elim->Yr
open PySem.Stmt.For renaming elim->Ys
open PyProof renaming noPylong_of_log2->Yt
open PySem.Keeper renaming machine->Yx,frame->YY
open Prod.mk renaming injEq->Yy
open PySem.Pin renaming globalOf_eq->Yz
open Fin renaming ofNat->YE
open PySem.Walks renaming list->YG,range->ab2
open PySem.Stmt.If renaming elim->YQ
open PySem.Shared renaming asleep_of_life->YU,rest_eq->Z0
open PySem.Manifest renaming canonical->Y4
open PySem.IsRange renaming new->Zb
open PySem.BoolOp renaming And->Zz,Or->ZV
open PySem.W.WData renaming list->ZC,bool->acm
open PySem.Code renaming quiet_builtin->ZL
open PySem.Env renaming kindOf->Z6
open PySem.W.WTm renaming holds->aaq
open Sum renaming inl->aas
open PySem.W.SharedT renaming abs->aaz
open PySem.Heap.IsSliceOf renaming new->abJ
open PySem.Stmt.Continue renaming elim->ab3
open List.Pairwise renaming imp->ab9,filter->acd
open PySem.Heap.SameBut renaming update->acR
namespace Mine.Ln
/-!acT Rx: a ab8 as a number, a ack, its RK -/
noncomputable def yw {α:Type} (d:α) (l:List α):Nat->α:=abE (λz=>d) (λa z f i=>ZE i a f) l
noncomputable def lc (a:Int) (l:List Int) (b:Int):List Int->List Int:=abE (λm=>m.map (b* ·)) (λx z f m=>(a*x+b*m.headD 0)::f m.tail) l
noncomputable def eu (l:List Int):(Nat->Int)->Int:=abE (λz=>0) (λa z f V=>a*V 0+f λk=>V (k+1)) l
noncomputable def uM (i:Nat) (z:Bool):List Int:=aaI (cond z [0,1] [1]) (λy f=>0::0::f) i
noncomputable abbrev C6 (l:List Int):Bool:=l.tail.all (· ==0)
noncomputable abbrev LK:=List (List Int)
noncomputable abbrev Ra (A:LK):Bool:=A.any λc=>C6 c&&decide (c.headD 0<0)
noncomputable def lfm (k:Nat):LK->Bool:=aaI Ra (λk f A=>Ra A||f ((A.filter λc=>c.getD (k+1) 0==0)++(A.filter λc=>decide (0<c.getD (k+1) 0)).flatMap λp=>(A.filter λc=>decide (c.getD (k+1) 0<0)).map λn=>lc (-(n.getD (k+1) 0)).toNat p (p.getD (k+1) 0).toNat n)) k
noncomputable def lW (k:Nat):(Nat->Int)->(Nat->Int)->Int:=aaI (λf z=>f 0) (λz r f g=>r g λi=>f (i+1)) k
noncomputable def lV (N:List Nat) (Z:List Int) (k:Nat):Int:=ZE k 1 λk=>lW k (λi=>((yw 0 N i:Nat):Int)) (yw 0 Z)
section
variable {V:Nat->Int} {N:List Nat} {Z:List Int}
theorem Ew (l:List Int):eu l V=l.headD 0*V 0+eu l.tail λk=>V (k+1):=by
 cases l with
 |nil=>exact (VX _).symm▸rfl
 |cons _ _=>rfl
theorem pS (a b:Int) (l:List Int): ∀m V,eu (lc a l b m) V=a*eu l V+b*eu m V:=by
 induction l with
 |nil=>
  intro m;refine λV=>Uc ?_ (show _=a*0+b*eu m V from (acE a).symm▸(Wu _).symm);show eu (m.map (b* ·)) V=_;induction m generalizing V with
  |nil=>exact (acE b).symm
  |cons x m ih=>exact (congr (congrArg HAdd.hAdd (Zc b x _)) (ih _)).trans (ZK b _ _).symm
 |cons x l ih=>intro m V;show (a*x+b*m.headD 0)*V 0+eu (lc a l b m.tail) _=a*(x*V 0+eu l _)+_;rw [Ew m,ih,ZK,ZK,Int.add_mul,Zc,Zc];rw [ace,ace,Int.add_left_comm (b*_)]
theorem Gs {l:List Int}: ∀V,l.all (· ==0)=true->eu l V=0:=by
 induction l with
 |nil=>exact λz z=>rfl
 |cons x l ih=>intro V h;have h1:=Su.mp h;show x*V 0+eu l _=0;rw [ih _ h1.2,eq_of_beq h1.1,VX];rfl
def OQ (V:Nat->Int) (A:LK):Prop:= ∀c∈A,0<=eu c V
theorem fG {c:List Int} {A:LK} (h:0<=eu c V) (hA:OQ V A):OQ V (c::A):=List.forall_mem_cons.mpr ⟨h,hA⟩
theorem uH (v:V 0=1) {l:List Int} (h:C6 l=true):eu l V=l.headD 0:=by rw [Ew,Gs _ h,v,Int.mul_one,Xh]
theorem DV (v:V 0=1) {A:LK} (hA:OQ V A) (h:Ra A=true):False:=by obtain ⟨c,m,h⟩:=List.any_eq_true.mp h;have h1:=Su.mp h;exact absurd (of_decide_eq_true h1.2) (VD.mpr (uH v h1.1▸hA c m))
theorem P8 (v:V 0=1) (k:Nat): ∀A,OQ V A->lfm k A=true->False:=by
 induction k with
 |zero=>exact λA=>DV v
 |succ k ih=>refine λA hA h=>(Wm.mp h).elim (DV v hA) (ih _ λc m=> ?_);refine (SW.mp m).elim (λm=>hA c (UU.mp m).1) λm=> ?_;obtain ⟨p,hp,m⟩:=List.mem_flatMap.mp m;obtain ⟨n,hn,rfl⟩:=Tr.mp m;rw [pS];exact Int.add_nonneg (abH (TF _) (hA _ (UU.mp hp).1)) (abH (TF _) (hA _ (UU.mp hn).1))
theorem oR (l m:List Int):eu (lc 1 l (-1) m) V=eu l V-eu m V:=by rw [pS,Wn,Int.neg_mul,Wn];rfl
theorem AM (l m:List Int):eu (lc 1 l 1 m) V=eu l V+eu m V:=by rw [pS,Wn,Wn]
theorem BB (a:Int) (l:List Int):eu (lc a l 0 []) V=a*eu l V:=by rw [pS,VX,Xh]
theorem iH {l m:List Int} (h:eu l V<=eu m V):0<=eu (lc 1 m (-1) l) V:=(oR m l).symm▸Zy h
theorem MT (v:V 0=1) {l m:List Int} (h:eu l V<eu m V):0<=eu (lc 1 (lc 1 m (-1) l) 1 [-1]) V:=by rw [AM,oR,show eu [-1] V= -1 by show-1*V 0+0= -1;rw [v];rfl];exact Zy (Int.le_sub_left_of_add_le h)
theorem Py (i:Nat) (z:Bool): ∀f g,eu (uM i z) (λk=>lW k f g)=cond z (g i) (f i):=by
 induction i with
 |zero=>
  intro f g;cases z with
  |true=>show 0*f 0+(1*g 0+0)=g 0;rw [VX,Wu,Wn,Xh]
  |false=>show 1*f 0+0=f 0;rw [Wn,Xh]
 |succ i ih=>intro f g;show 0*f 0+(0*g 0+eu (uM i z) _)=_;rw [VX,VX,Wu,Wu];exact ih (λi=>f (i+1)) λi=>g (i+1)
theorem wm (i:Nat) (z:Bool):eu (0::uM i z) (lV N Z)=cond z (yw 0 Z i) ((yw 0 N i:Nat):Int):=by show 0*1+eu (uM i z) _=_;exact (Wu _).trans (Py i z _ _)
theorem jJ {a b:Bool} {P:Prop} (h:(a&&b)=true) (k:a=true->b=true->P):P:=k (Su.mp h).1 (Su.mp h).2
end
noncomputable abbrev LC:=LK->(List Int->LK->Bool)->Bool
def bJ (N:List Nat) (Z:List Int) (C:LC) (x:Int):Prop:= ∀ ⦃A K⦄ ⦃R:Prop⦄,OQ (lV N Z) A->C A K=true->(∀l A,OQ (lV N Z) A->eu l (lV N Z)=x->K l A=true->R)->R
structure LT (N:List Nat) (Z:List Int) where
 n:Nat
 z:Int
 C:Bool->LC
 oN:bJ N Z (C false) n
 oZ:bJ N Z (C true) z
noncomputable abbrev LQ:=LK->(LK->Bool)->Bool
def d8 (N:List Nat) (Z:List Int) (C:LQ) (P:Prop):Prop:= ∀ ⦃A K⦄,P->OQ (lV N Z) A->C A K=true->(∀A,OQ (lV N Z) A->K A=true->False)->False
structure LF (N:List Nat) (Z:List Int) where
 P:Prop
 C:Bool->LQ
 t:d8 N Z (C true) P
 f:d8 N Z (C false) (¬P)
section
variable {N:List Nat} {Z:List Int} {x y:Int} {C D:LC} {E F:LQ} {P Q:Prop}
theorem bJ.no:bJ N Z (λz z=>false) x:=λz z z z h=>nomatch h
theorem bJ.var (i:Nat) (z:Bool):bJ N Z (λA K=>K (0::uM i z) A) (cond z (yw 0 Z i) ((yw 0 N i:Nat):Int)):=λy y y a h k=>k _ _ a (wm i z) h
theorem bJ.num (c:Nat):bJ N Z (λA K=>K [(c:Int)] A) c:=λz z z a h k=>k _ _ a ((Xh _).trans (Int.mul_one _)) h
theorem bJ.add (c:bJ N Z C x) (d:bJ N Z D y):bJ N Z (λA K=>C A λl A=>D A λm A=>K (lc 1 l 1 m) A) (x+y):=λz z z a h k=>c a h λl z a e h=>d a h λm z a f h=>k _ _ a (e▸f▸AM l m) h
theorem bJ.sub (c:bJ N Z C x) (d:bJ N Z D y):bJ N Z (λA K=>C A λl A=>D A λm A=>K (lc 1 l (-1) m) A) (x-y):=λz z z a h k=>c a h λl z a e h=>d a h λm z a f h=>k _ _ a (e▸f▸oR l m) h
theorem bJ.acQ {m n:Nat} (c:bJ N Z C m) (d:bJ N Z D n):bJ N Z (λA K=>C A λl A=>D A λm A=>K (lc 1 l (-1) m) (lc 1 l (-1) m::A)&&K [] (lc 1 m (-1) l::A)) ((m-n:Nat):Int):=λz z z a h k=>c a h λl z a e h=>d a h λm z a f h=>jJ h λh1 h2=>(acr n _).elim (λq=>k _ _ (fG (iH (e▸f▸UN.mpr q)) a) ((oR l m).trans (e▸f▸(Int.ofNat_sub q).symm)) h1) λq=>k _ _ (fG (iH (e▸f▸UN.mpr q)) a) (Nat.sub_eq_zero_of_le q▸rfl) h2
theorem bJ.mul (c:bJ N Z C x) (d:bJ N Z D y):bJ N Z (λA K=>C A λl A=>D A λm A=>cond (C6 l) (K (lc (l.headD 0) m 0 []) A) (C6 m&&K (lc (m.headD 0) l 0 []) A)) (x*y):=λz z z a h k=>c a h λl z a e h=>d a h λm A a f h=>by
 cases q:C6 l with
 |true=>exact k _ _ a ((BB _ m).trans (e▸f▸(uH (V:=lV N Z) rfl q).symm▸rfl)) (q▸h:cond true _ _=true)
 |false=>exact jJ (q▸h:cond false _ _=true) λh1 h2=>k _ _ a ((BB _ l).trans (e▸f▸(uH (V:=lV N Z) rfl h1).symm▸Int.mul_comm _ _)) h2
theorem bJ.min (c:bJ N Z C x) (d:bJ N Z D y):bJ N Z (λA K=>C A λl A=>D A λm A=>K l (lc 1 m (-1) l::A)&&K m (lc 1 l (-1) m::A)) (min x y):=λz z z a h k=>c a h λl z a e h=>d a h λm z a f h=>jJ h λh1 h2=>(Zn x y).elim (λq=>k _ _ (fG (iH (e▸f▸q)) a) (e.trans (abi q).symm) h1) λq=>k _ _ (fG (iH (e▸f▸q)) a) (f.trans (aac q).symm) h2
theorem AA {V:Nat->Int} (l:List Int):eu (lc 0 [] (-1) l) V= -eu l V:=by rw [pS,VX,Int.neg_mul,Wn,Wu]
theorem bJ.neg (c:bJ N Z C x):bJ N Z (λA K=>C A λl A=>K (lc 0 [] (-1) l) A) (-x):=λz z z a h k=>c a h λl z a e h=>k _ _ a (e▸AA l) h
theorem bJ.toNat (c:bJ N Z C x):bJ N Z (λA K=>C A λl A=>K l (lc 1 l (-1) []::A)&&K [] (lc 1 [] (-1) l::A)) (x.toNat:Int):=λz z z a h k=>c a h λl z a e h=>jJ h λh1 h2=>(Zn 0 x).elim (λq=>k _ _ (fG (iH (l:=[]) (e.symm▸q)) a) (e.trans (XD q).symm) h1) λq=>k _ _ (fG (iH (m:=[]) (e.symm▸q)) a) (Int.toNat_of_nonpos q▸rfl) h2
theorem bJ.abs (c:bJ N Z C x):bJ N Z (λA K=>C A λl A=>K l (lc 1 l (-1) []::A)&&K (lc 0 [] (-1) l) (lc 1 [] (-1) l::A)) (x.natAbs:Int):=λz z z a h k=>c a h λl z a e h=>jJ h λh1 h2=>(Zn 0 x).elim (λq=>k _ _ (fG (iH (l:=[]) (e.symm▸q)) a) (e.trans (Int.natAbs_of_nonneg q).symm) h1) λq=>k _ _ (fG (iH (m:=[]) (e.symm▸q)) a) ((AA l).trans (e.symm▸(Int.ofNat_natAbs_of_nonpos q).symm)) h2
noncomputable def I9 (C D:LC):LQ:=λA K=>C A λl A=>D A λm A=>K (lc 1 m (-1) l::A)
noncomputable def KD (C D:LC):LQ:=λA K=>C A λl A=>D A λm A=>K (lc 1 (lc 1 m (-1) l) 1 [-1]::A)
noncomputable def B0 (E F:LQ):LQ:=λA K=>E A λA=>F A K
noncomputable def PY (E F:LQ):LQ:=λA K=>E A K&&F A K
theorem d8.le (c:bJ N Z C x) (d:bJ N Z D y):d8 N Z (I9 C D) (x<=y):=λz z p a h k=>c a h λl z a e h=>d a h λm z a f h=>k _ (fG (iH (e▸f▸p)) a) h
theorem d8.lt (c:bJ N Z C x) (d:bJ N Z D y):d8 N Z (KD C D) (x<y):=λz z p a h k=>c a h λl z a e h=>d a h λm z a f h=>k _ (fG (MT rfl (e▸f▸p)) a) h
theorem d8.imp (e:d8 N Z E P) (h:Q->P):d8 N Z E Q:=λz z q=>e (h q)
theorem d8.and (e:d8 N Z E P) (f:d8 N Z F Q):d8 N Z (B0 E F) (P/\Q):=λz z p a h k=>e p.1 a h λz a h=>f p.2 a h k
theorem d8.or (e:d8 N Z E P) (f:d8 N Z F Q):d8 N Z (PY E F) (P∨Q):=λz z p a h k=>jJ h λh1 h2=>p.elim (λp=>e p a h1 k) λp=>f p a h2 k
theorem d8.eq (c:bJ N Z C x) (d:bJ N Z D y):d8 N Z (B0 (I9 C D) (I9 D C)) (x=y):=((d8.le c d).and (d8.le d c)).imp λh=>⟨acL h,acL h.symm⟩
theorem d8.ne (c:bJ N Z C x) (d:bJ N Z D y):d8 N Z (PY (KD C D) (KD D C)) (¬x=y):=((d8.lt c d).or (d8.lt d c)).imp Int.lt_or_gt_of_ne
end
section
variable (N:List Nat) (Z:List Int)
noncomputable abbrev lno:LC:=λz z=>false
noncomputable def tv (i:Nat):LT N Z:=⟨yw 0 N i,yw 0 Z i,λz A K=>K (0::uM i z) A,.var i false,.var i true⟩
noncomputable def tk (c:Nat):LT N Z:=⟨c,c,λz A K=>K [(c:Int)] A,.num c,.num c⟩
variable {N Z} (x y:LT N Z)
noncomputable def ta:LT N Z:=⟨x.n+y.n,x.z+y.z,λb A K=>x.C b A λl A=>y.C b A λm A=>K (lc 1 l 1 m) A,x.oN.add y.oN,x.oZ.add y.oZ⟩
noncomputable def ts:LT N Z:=⟨x.n-y.n,x.z-y.z,λb=>cond b (λA K=>x.C true A λl A=>y.C true A λm A=>K (lc 1 l (-1) m) A) λA K=>x.C false A λl A=>y.C false A λm A=>K (lc 1 l (-1) m) (lc 1 l (-1) m::A)&&K [] (lc 1 m (-1) l::A),x.oN.acQ y.oN,x.oZ.sub y.oZ⟩
noncomputable def tp:LT N Z:=⟨x.n*y.n,x.z*y.z,λb A K=>x.C b A λl A=>y.C b A λm A=>cond (C6 l) (K (lc (l.headD 0) m 0 []) A) (C6 m&&K (lc (m.headD 0) l 0 []) A),x.oN.mul y.oN,x.oZ.mul y.oZ⟩
theorem Ja (m n:Nat):min (m:Int) n=(min m n:Nat):=(acr m n).elim (λh=>(abi (UN.mpr h)).trans (congrArg _ (Vs h).symm)) λh=>(aac (UN.mpr h)).trans (congrArg _ (Yn h).symm)
noncomputable def tm:LT N Z:=⟨min x.n y.n,min x.z y.z,λb A K=>x.C b A λl A=>y.C b A λm A=>K l (lc 1 m (-1) l::A)&&K m (lc 1 l (-1) m::A),Ja _ _▸x.oN.min y.oN,x.oZ.min y.oZ⟩
noncomputable def tg:LT N Z:=⟨0,-x.z,λb=>cond b (λA K=>x.C true A λl A=>K (lc 0 [] (-1) l) A) lno,.no,x.oZ.neg⟩
noncomputable def tc:LT N Z:=⟨0,x.n,λb=>cond b (x.C false) lno,.no,x.oN⟩
noncomputable def tt:LT N Z:=⟨x.z.toNat,0,λb=>cond b lno λA K=>x.C true A λl A=>K l (lc 1 l (-1) []::A)&&K [] (lc 1 [] (-1) l::A),x.oZ.toNat,.no⟩
noncomputable def tb:LT N Z:=⟨x.z.natAbs,0,λb=>cond b lno λA K=>x.C true A λl A=>K l (lc 1 l (-1) []::A)&&K (lc 0 [] (-1) l) (lc 1 [] (-1) l::A),x.oZ.abs,.no⟩
noncomputable def flN:LF N Z:=⟨x.n<y.n,λb=>cond b (KD (x.C false) (y.C false)) (I9 (y.C false) (x.C false)),(d8.lt x.oN y.oN).imp TM.mpr,(d8.le y.oN x.oN).imp λh=>UN.mpr (Ux.mp h)⟩
noncomputable def flZ:LF N Z:=⟨x.z<y.z,λb=>cond b (KD (x.C true) (y.C true)) (I9 (y.C true) (x.C true)),d8.lt x.oZ y.oZ,(d8.le y.oZ x.oZ).imp VD.mp⟩
noncomputable def feN:LF N Z:=⟨x.n<=y.n,λb=>cond b (I9 (x.C false) (y.C false)) (KD (y.C false) (x.C false)),(d8.le x.oN y.oN).imp UN.mpr,(d8.lt y.oN x.oN).imp λh=>TM.mpr (WH.mp h)⟩
noncomputable def feZ:LF N Z:=⟨x.z<=y.z,λb=>cond b (I9 (x.C true) (y.C true)) (KD (y.C true) (x.C true)),d8.le x.oZ y.oZ,(d8.lt y.oZ x.oZ).imp X5.mp⟩
noncomputable def fqN:LF N Z:=⟨x.n=y.n,λb=>cond b (B0 (I9 (x.C false) (y.C false)) (I9 (y.C false) (x.C false))) (PY (KD (x.C false) (y.C false)) (KD (y.C false) (x.C false))),(d8.eq x.oN y.oN).imp (congrArg _),(d8.ne x.oN y.oN).imp λh q=>h (Int.ofNat_inj.mp q)⟩
noncomputable def fqZ:LF N Z:=⟨x.z=y.z,λb=>cond b (B0 (I9 (x.C true) (y.C true)) (I9 (y.C true) (x.C true))) (PY (KD (x.C true) (y.C true)) (KD (y.C true) (x.C true))),d8.eq x.oZ y.oZ,d8.ne x.oZ y.oZ⟩
variable (f g:LF N Z)
noncomputable def fn:LF N Z:=⟨¬f.P,λb=>f.C (!b),f.f,f.t.imp Classical.not_not.mp⟩
noncomputable def fi:LF N Z:=⟨f.P->g.P,λb=>cond b (PY (f.C false) (g.C true)) (B0 (f.C true) (g.C false)),(f.f.or g.t).imp λh=>(Classical.em f.P).elim (λp=>.inr (h p)) .inl,(f.t.and g.f).imp Classical.not_imp.mp⟩
noncomputable def fd:LF N Z:=⟨f.P/\g.P,λb=>cond b (B0 (f.C true) (g.C true)) (PY (f.C false) (g.C false)),f.t.and g.t,(f.f.or g.f).imp Classical.not_and_iff_not_or_not.mp⟩
noncomputable def fo:LF N Z:=⟨f.P∨g.P,λb=>cond b (PY (f.C true) (g.C true)) (B0 (f.C false) (g.C false)),f.t.or g.t,(f.f.and g.f).imp not_or.mp⟩
noncomputable def fw:LF N Z:=⟨f.P↔g.P,λb=>(fd (fi f g) (fi g f)).C b,(fd (fi f g) (fi g f)).t.imp λh=>⟨h.mp,h.mpr⟩,(fd (fi f g) (fi g f)).f.imp λh q=>h ⟨q.1,q.2⟩⟩
noncomputable def ff:LF N Z:=⟨False,λb A K=>cond b true (K A),λz z p=>p.elim,λz z z a h k=>k _ a h⟩
end
noncomputable abbrev LM (N:List Nat) (Z:List Int):=List (LT N Z)->List (LF N Z)->(List (LT N Z)->List (LF N Z)->LF N Z)->LF N Z
section
variable (N:List Nat) (Z:List Int)
noncomputable def mt2 (o:LT N Z->LT N Z->LT N Z):LM N Z:=λT F k=>VB T ff λy T=>VB T ff λx T=>k (o x y::T) F
noncomputable def mt1 (o:LT N Z->LT N Z):LM N Z:=λT F k=>VB T ff λx T=>k (o x::T) F
noncomputable def mr (o:LT N Z->LT N Z->LF N Z):LM N Z:=λT F k=>VB T ff λy T=>VB T ff λx T=>k T (o x y::F)
noncomputable def mf2 (o:LF N Z->LF N Z->LF N Z):LM N Z:=λT F k=>VB F ff λy F=>VB F ff λx F=>k T (o x y::F)
noncomputable def mf1 (o:LF N Z->LF N Z):LM N Z:=λT F k=>VB F ff λx F=>k T (o x::F)
noncomputable def acF:List (LM N Z):=[λT F k=>k T (ff::F),mt2 N Z ta,mt2 N Z ts,mt2 N Z tp,mt2 N Z tm,mt1 N Z tg,mt1 N Z tc,mt1 N Z tt,mt1 N Z tb,mr N Z flN,mr N Z flZ,mr N Z feN,mr N Z feZ,mr N Z fqN,mr N Z fqZ,mf2 N Z fi,mf2 N Z fd,mf2 N Z fo,mf2 N Z fw,mf1 N Z fn]
noncomputable def lop (d:Nat):LM N Z:=λT F k=>cond (Nat.ble d 7) (k (tv N Z d::T) F) (yw (λz F z=>F.headD ff) (acF N Z) (d-9) T F k)
noncomputable def uS (c:Nat):LF N Z:=aaI (motive:=λz=>Nat->Nat->List (LT N Z)->List (LF N Z)->LF N Z) (λz z z F=>F.headD ff) (λz r c a T F=>cond (Nat.beq c 0) (F.headD ff) (cond (Nat.ble 32 (c%64)) (r (c/64) (16*a+(c%64-32)) T F) (cond (Nat.beq (c%64) 8) (r (c/64) 0 (tk N Z a::T) F) (lop N Z (c%64) T F (r (c/64) 0))))) 99 c 0 [] []
noncomputable def Lc (c:Nat):Bool:=(uS N Z c).C false ((TR 8).map λi=>0::uM i false) (lfm 16)
theorem z (c:Nat) (h:Lc N Z c=true:=by kernel_rfl):(uS N Z c).P:=Classical.byContradiction λd=>(uS N Z c).f d (λc m=>by obtain ⟨i,_,rfl⟩:=Tr.mp m;exact wm i false▸TF _) h λA a h=>P8 rfl _ A a h
theorem n1 {a:Nat} (c:Nat) (h:Lc [a] [] c=true:=by kernel_rfl):(uS [a] [] c).P:=z _ _ c h
theorem n2 {a b:Nat} (c:Nat) (h:Lc [a,b] [] c=true:=by kernel_rfl):(uS [a,b] [] c).P:=z _ _ c h
theorem n3 {a b d:Nat} (c:Nat) (h:Lc [a,b,d] [] c=true:=by kernel_rfl):(uS [a,b,d] [] c).P:=z _ _ c h
theorem n4 {a b d e:Nat} (c:Nat) (h:Lc [a,b,d,e] [] c=true:=by kernel_rfl):(uS [a,b,d,e] [] c).P:=z _ _ c h
theorem n5 {a b d e f:Nat} (c:Nat) (h:Lc [a,b,d,e,f] [] c=true:=by kernel_rfl):(uS [a,b,d,e,f] [] c).P:=z _ _ c h
theorem n6 {a b d e f g:Nat} (c:Nat) (h:Lc [a,b,d,e,f,g] [] c=true:=by kernel_rfl):(uS [a,b,d,e,f,g] [] c).P:=z _ _ c h
theorem n7 {a b d e f g i:Nat} (c:Nat) (h:Lc [a,b,d,e,f,g,i] [] c=true:=by kernel_rfl):(uS [a,b,d,e,f,g,i] [] c).P:=z _ _ c h
theorem n8 {a b d e f g i k:Nat} (c:Nat) (h:Lc [a,b,d,e,f,g,i,k] [] c=true:=by kernel_rfl):(uS [a,b,d,e,f,g,i,k] [] c).P:=z _ _ c h
end
end Mine.Ln
namespace Mine.Ln
end Mine.Ln
namespace Mine
theorem aQ {G:Prop} (h: ∀ι:Prop,(G->ι)->ι):G:=h G id
theorem dD {p0 p1:Prop} {G:Prop} (h:p0/\p1) (k:p0->p1->G):G:=h.elim k
theorem g8 {p0 p1 p2:Prop} {G:Prop} (h:p0/\p1/\p2) (k:p0->p1->p2->G):G:=h.elim λa h=>dD h (k a)
theorem rP {p0 p1 p2 p3:Prop} {G:Prop} (h:p0/\p1/\p2/\p3) (k:p0->p1->p2->p3->G):G:=h.elim λa h=>g8 h (k a)
theorem aad {p0 p1 p2 p3 p4:Prop} {G:Prop} (h:p0/\p1/\p2/\p3/\p4) (k:p0->p1->p2->p3->p4->G):G:=h.elim λa h=>rP h (k a)
theorem RZ {p0 p1 p2 p3 p4 p5:Prop} {G:Prop} (h:p0/\p1/\p2/\p3/\p4/\p5) (k:p0->p1->p2->p3->p4->p5->G):G:=h.elim λa h=>aad h (k a)
theorem ada {p0 p1 p2 p3 p4 p5 p6:Prop} {G:Prop} (h:p0/\p1/\p2/\p3/\p4/\p5/\p6) (k:p0->p1->p2->p3->p4->p5->p6->G):G:=h.elim λa h=>RZ h (k a)
theorem abc {p0 p1 p2 p3 p4 p5 p6 p7:Prop} {G:Prop} (h:p0/\p1/\p2/\p3/\p4/\p5/\p6/\p7) (k:p0->p1->p2->p3->p4->p5->p6->p7->G):G:=h.elim λa h=>ada h (k a)
theorem adF {p0 p1 p2 p3 p4 p5 p6 p7 p8:Prop} {G:Prop} (h:p0/\p1/\p2/\p3/\p4/\p5/\p6/\p7/\p8) (k:p0->p1->p2->p3->p4->p5->p6->p7->p8->G):G:=h.elim λa h=>abc h (k a)
theorem fU {aX:Type} {p0:aX->Prop} {G:Prop} (h: ∃x0,p0 x0) (k: ∀x0,p0 x0->G):G:=h.elim k
theorem ay {aX:Type} {p0 p1:aX->Prop} {G:Prop} (h: ∃x0,p0 x0/\p1 x0) (k: ∀x0,p0 x0->p1 x0->G):G:=h.elim λa h=>dD h (k a)
theorem aH {aX:Type} {p0 p1:aX->Prop} (x0:aX) (h0:p0 x0) (h1:p1 x0): ∃x0,p0 x0/\p1 x0:=⟨x0,h0,h1⟩
theorem fY {aX:Type} {p0 p1 p2:aX->Prop} {G:Prop} (h: ∃x0,p0 x0/\p1 x0/\p2 x0) (k: ∀x0,p0 x0->p1 x0->p2 x0->G):G:=h.elim λa h=>g8 h (k a)
theorem iw {aX:Type} {p0 p1 p2:aX->Prop} (x0:aX) (h0:p0 x0) (h1:p1 x0) (h2:p2 x0): ∃x0,p0 x0/\p1 x0/\p2 x0:=⟨x0,h0,h1,h2⟩
theorem qS {aX:Type} {p0 p1 p2 p3:aX->Prop} {G:Prop} (h: ∃x0,p0 x0/\p1 x0/\p2 x0/\p3 x0) (k: ∀x0,p0 x0->p1 x0->p2 x0->p3 x0->G):G:=h.elim λa h=>rP h (k a)
theorem vD {aX:Type} {p0 p1 p2 p3:aX->Prop} (x0:aX) (h0:p0 x0) (h1:p1 x0) (h2:p2 x0) (h3:p3 x0): ∃x0,p0 x0/\p1 x0/\p2 x0/\p3 x0:=⟨x0,h0,h1,h2,h3⟩
theorem N7 {aX:Type} {p0 p1 p2 p3 p4:aX->Prop} {G:Prop} (h: ∃x0,p0 x0/\p1 x0/\p2 x0/\p3 x0/\p4 x0) (k: ∀x0,p0 x0->p1 x0->p2 x0->p3 x0->p4 x0->G):G:=h.elim λa h=>aad h (k a)
theorem Rp {aX:Type} {p0 p1 p2 p3 p4:aX->Prop} (x0:aX) (h0:p0 x0) (h1:p1 x0) (h2:p2 x0) (h3:p3 x0) (h4:p4 x0): ∃x0,p0 x0/\p1 x0/\p2 x0/\p3 x0/\p4 x0:=⟨x0,h0,h1,h2,h3,h4⟩
theorem ac0 {aX:Type} {p0 p1 p2 p3 p4 p5:aX->Prop} {G:Prop} (h: ∃x0,p0 x0/\p1 x0/\p2 x0/\p3 x0/\p4 x0/\p5 x0) (k: ∀x0,p0 x0->p1 x0->p2 x0->p3 x0->p4 x0->p5 x0->G):G:=h.elim λa h=>RZ h (k a)
theorem adL {aX:Type} {p0 p1 p2 p3 p4 p5 p6 p7:aX->Prop} {G:Prop} (h: ∃x0,p0 x0/\p1 x0/\p2 x0/\p3 x0/\p4 x0/\p5 x0/\p6 x0/\p7 x0) (k: ∀x0,p0 x0->p1 x0->p2 x0->p3 x0->p4 x0->p5 x0->p6 x0->p7 x0->G):G:=h.elim λa h=>abc h (k a)
theorem aec {aX:Type} {p0 p1 p2 p3 p4 p5 p6 p7 p8:aX->Prop} {G:Prop} (h: ∃x0,p0 x0/\p1 x0/\p2 x0/\p3 x0/\p4 x0/\p5 x0/\p6 x0/\p7 x0/\p8 x0) (k: ∀x0,p0 x0->p1 x0->p2 x0->p3 x0->p4 x0->p5 x0->p6 x0->p7 x0->p8 x0->G):G:=h.elim λa h=>adF h (k a)
theorem rY {aX α1:Type} {p0:aX->α1->Prop} {G:Prop} (h: ∃x0 x1,p0 x0 x1) (k: ∀x0 x1,p0 x0 x1->G):G:=h.elim λa h=>fU h (k a)
theorem BX {aX α1:Type} {p0:aX->α1->Prop} (x0:aX) (x1:α1) (h0:p0 x0 x1): ∃x0 x1,p0 x0 x1:=⟨x0,x1,h0⟩
theorem dM {aX α1:Type} {p0 p1:aX->α1->Prop} {G:Prop} (h: ∃x0 x1,p0 x0 x1/\p1 x0 x1) (k: ∀x0 x1,p0 x0 x1->p1 x0 x1->G):G:=h.elim λa h=>ay h (k a)
theorem gv {aX α1:Type} {p0 p1:aX->α1->Prop} (x0:aX) (x1:α1) (h0:p0 x0 x1) (h1:p1 x0 x1): ∃x0 x1,p0 x0 x1/\p1 x0 x1:=⟨x0,x1,h0,h1⟩
theorem ig {aX α1:Type} {p0 p1 p2:aX->α1->Prop} {G:Prop} (h: ∃x0 x1,p0 x0 x1/\p1 x0 x1/\p2 x0 x1) (k: ∀x0 x1,p0 x0 x1->p1 x0 x1->p2 x0 x1->G):G:=h.elim λa h=>fY h (k a)
theorem jn {aX α1:Type} {p0 p1 p2:aX->α1->Prop} (x0:aX) (x1:α1) (h0:p0 x0 x1) (h1:p1 x0 x1) (h2:p2 x0 x1): ∃x0 x1,p0 x0 x1/\p1 x0 x1/\p2 x0 x1:=⟨x0,x1,h0,h1,h2⟩
theorem xx {aX α1:Type} {p0 p1 p2 p3:aX->α1->Prop} {G:Prop} (h: ∃x0 x1,p0 x0 x1/\p1 x0 x1/\p2 x0 x1/\p3 x0 x1) (k: ∀x0 x1,p0 x0 x1->p1 x0 x1->p2 x0 x1->p3 x0 x1->G):G:=h.elim λa h=>qS h (k a)
theorem nN {aX α1:Type} {p0 p1 p2 p3:aX->α1->Prop} (x0:aX) (x1:α1) (h0:p0 x0 x1) (h1:p1 x0 x1) (h2:p2 x0 x1) (h3:p3 x0 x1): ∃x0 x1,p0 x0 x1/\p1 x0 x1/\p2 x0 x1/\p3 x0 x1:=⟨x0,x1,h0,h1,h2,h3⟩
theorem Gk {aX α1:Type} {p0 p1 p2 p3 p4:aX->α1->Prop} {G:Prop} (h: ∃x0 x1,p0 x0 x1/\p1 x0 x1/\p2 x0 x1/\p3 x0 x1/\p4 x0 x1) (k: ∀x0 x1,p0 x0 x1->p1 x0 x1->p2 x0 x1->p3 x0 x1->p4 x0 x1->G):G:=h.elim λa h=>N7 h (k a)
theorem J8 {aX α1:Type} {p0 p1 p2 p3 p4:aX->α1->Prop} (x0:aX) (x1:α1) (h0:p0 x0 x1) (h1:p1 x0 x1) (h2:p2 x0 x1) (h3:p3 x0 x1) (h4:p4 x0 x1): ∃x0 x1,p0 x0 x1/\p1 x0 x1/\p2 x0 x1/\p3 x0 x1/\p4 x0 x1:=⟨x0,x1,h0,h1,h2,h3,h4⟩
theorem qF {aX α1:Type} {p0 p1 p2 p3 p4 p5:aX->α1->Prop} {G:Prop} (h: ∃x0 x1,p0 x0 x1/\p1 x0 x1/\p2 x0 x1/\p3 x0 x1/\p4 x0 x1/\p5 x0 x1) (k: ∀x0 x1,p0 x0 x1->p1 x0 x1->p2 x0 x1->p3 x0 x1->p4 x0 x1->p5 x0 x1->G):G:=h.elim λa h=>ac0 h (k a)
theorem rJ {aX α1:Type} {p0 p1 p2 p3 p4 p5:aX->α1->Prop} (x0:aX) (x1:α1) (h0:p0 x0 x1) (h1:p1 x0 x1) (h2:p2 x0 x1) (h3:p3 x0 x1) (h4:p4 x0 x1) (h5:p5 x0 x1): ∃x0 x1,p0 x0 x1/\p1 x0 x1/\p2 x0 x1/\p3 x0 x1/\p4 x0 x1/\p5 x0 x1:=⟨x0,x1,h0,h1,h2,h3,h4,h5⟩
theorem acH {aX α1:Type} {p0 p1 p2 p3 p4 p5 p6 p7:aX->α1->Prop} {G:Prop} (h: ∃x0 x1,p0 x0 x1/\p1 x0 x1/\p2 x0 x1/\p3 x0 x1/\p4 x0 x1/\p5 x0 x1/\p6 x0 x1/\p7 x0 x1) (k: ∀x0 x1,p0 x0 x1->p1 x0 x1->p2 x0 x1->p3 x0 x1->p4 x0 x1->p5 x0 x1->p6 x0 x1->p7 x0 x1->G):G:=h.elim λa h=>adL h (k a)
theorem aej {aX α1:Type} {p0 p1 p2 p3 p4 p5 p6 p7 p8:aX->α1->Prop} {G:Prop} (h: ∃x0 x1,p0 x0 x1/\p1 x0 x1/\p2 x0 x1/\p3 x0 x1/\p4 x0 x1/\p5 x0 x1/\p6 x0 x1/\p7 x0 x1/\p8 x0 x1) (k: ∀x0 x1,p0 x0 x1->p1 x0 x1->p2 x0 x1->p3 x0 x1->p4 x0 x1->p5 x0 x1->p6 x0 x1->p7 x0 x1->p8 x0 x1->G):G:=h.elim λa h=>aec h (k a)
theorem IJ {aX α1 α2:Type} {p0:aX->α1->α2->Prop} {G:Prop} (h: ∃x0 x1 x2,p0 x0 x1 x2) (k: ∀x0 x1 x2,p0 x0 x1 x2->G):G:=h.elim λa h=>rY h (k a)
theorem Ho {aX α1 α2:Type} {p0:aX->α1->α2->Prop} (x0:aX) (x1:α1) (x2:α2) (h0:p0 x0 x1 x2): ∃x0 x1 x2,p0 x0 x1 x2:=⟨x0,x1,x2,h0⟩
theorem sZ {aX α1 α2:Type} {p0 p1:aX->α1->α2->Prop} {G:Prop} (h: ∃x0 x1 x2,p0 x0 x1 x2/\p1 x0 x1 x2) (k: ∀x0 x1 x2,p0 x0 x1 x2->p1 x0 x1 x2->G):G:=h.elim λa h=>dM h (k a)
theorem Ou {aX α1 α2:Type} {p0 p1:aX->α1->α2->Prop} (x0:aX) (x1:α1) (x2:α2) (h0:p0 x0 x1 x2) (h1:p1 x0 x1 x2): ∃x0 x1 x2,p0 x0 x1 x2/\p1 x0 x1 x2:=⟨x0,x1,x2,h0,h1⟩
theorem xJ {aX α1 α2:Type} {p0 p1 p2:aX->α1->α2->Prop} {G:Prop} (h: ∃x0 x1 x2,p0 x0 x1 x2/\p1 x0 x1 x2/\p2 x0 x1 x2) (k: ∀x0 x1 x2,p0 x0 x1 x2->p1 x0 x1 x2->p2 x0 x1 x2->G):G:=h.elim λa h=>ig h (k a)
theorem Nj {aX α1 α2:Type} {p0 p1 p2:aX->α1->α2->Prop} (x0:aX) (x1:α1) (x2:α2) (h0:p0 x0 x1 x2) (h1:p1 x0 x1 x2) (h2:p2 x0 x1 x2): ∃x0 x1 x2,p0 x0 x1 x2/\p1 x0 x1 x2/\p2 x0 x1 x2:=⟨x0,x1,x2,h0,h1,h2⟩
theorem Fg {aX α1 α2:Type} {p0 p1 p2 p3:aX->α1->α2->Prop} {G:Prop} (h: ∃x0 x1 x2,p0 x0 x1 x2/\p1 x0 x1 x2/\p2 x0 x1 x2/\p3 x0 x1 x2) (k: ∀x0 x1 x2,p0 x0 x1 x2->p1 x0 x1 x2->p2 x0 x1 x2->p3 x0 x1 x2->G):G:=h.elim λa h=>xx h (k a)
theorem N2 {aX α1 α2:Type} {p0 p1 p2 p3:aX->α1->α2->Prop} (x0:aX) (x1:α1) (x2:α2) (h0:p0 x0 x1 x2) (h1:p1 x0 x1 x2) (h2:p2 x0 x1 x2) (h3:p3 x0 x1 x2): ∃x0 x1 x2,p0 x0 x1 x2/\p1 x0 x1 x2/\p2 x0 x1 x2/\p3 x0 x1 x2:=⟨x0,x1,x2,h0,h1,h2,h3⟩
theorem gH {aX α1 α2:Type} {p0 p1 p2 p3 p4:aX->α1->α2->Prop} {G:Prop} (h: ∃x0 x1 x2,p0 x0 x1 x2/\p1 x0 x1 x2/\p2 x0 x1 x2/\p3 x0 x1 x2/\p4 x0 x1 x2) (k: ∀x0 x1 x2,p0 x0 x1 x2->p1 x0 x1 x2->p2 x0 x1 x2->p3 x0 x1 x2->p4 x0 x1 x2->G):G:=h.elim λa h=>Gk h (k a)
theorem d7 {aX α1 α2:Type} {p0 p1 p2 p3 p4:aX->α1->α2->Prop} (x0:aX) (x1:α1) (x2:α2) (h0:p0 x0 x1 x2) (h1:p1 x0 x1 x2) (h2:p2 x0 x1 x2) (h3:p3 x0 x1 x2) (h4:p4 x0 x1 x2): ∃x0 x1 x2,p0 x0 x1 x2/\p1 x0 x1 x2/\p2 x0 x1 x2/\p3 x0 x1 x2/\p4 x0 x1 x2:=⟨x0,x1,x2,h0,h1,h2,h3,h4⟩
theorem QF {aX α1 α2:Type} {p0 p1 p2 p3 p4 p5:aX->α1->α2->Prop} {G:Prop} (h: ∃x0 x1 x2,p0 x0 x1 x2/\p1 x0 x1 x2/\p2 x0 x1 x2/\p3 x0 x1 x2/\p4 x0 x1 x2/\p5 x0 x1 x2) (k: ∀x0 x1 x2,p0 x0 x1 x2->p1 x0 x1 x2->p2 x0 x1 x2->p3 x0 x1 x2->p4 x0 x1 x2->p5 x0 x1 x2->G):G:=h.elim λa h=>qF h (k a)
theorem Ml {aX α1 α2:Type} {p0 p1 p2 p3 p4 p5:aX->α1->α2->Prop} (x0:aX) (x1:α1) (x2:α2) (h0:p0 x0 x1 x2) (h1:p1 x0 x1 x2) (h2:p2 x0 x1 x2) (h3:p3 x0 x1 x2) (h4:p4 x0 x1 x2) (h5:p5 x0 x1 x2): ∃x0 x1 x2,p0 x0 x1 x2/\p1 x0 x1 x2/\p2 x0 x1 x2/\p3 x0 x1 x2/\p4 x0 x1 x2/\p5 x0 x1 x2:=⟨x0,x1,x2,h0,h1,h2,h3,h4,h5⟩
theorem acU {aX α1 α2:Type} {p0 p1 p2 p3 p4 p5 p6 p7:aX->α1->α2->Prop} {G:Prop} (h: ∃x0 x1 x2,p0 x0 x1 x2/\p1 x0 x1 x2/\p2 x0 x1 x2/\p3 x0 x1 x2/\p4 x0 x1 x2/\p5 x0 x1 x2/\p6 x0 x1 x2/\p7 x0 x1 x2) (k: ∀x0 x1 x2,p0 x0 x1 x2->p1 x0 x1 x2->p2 x0 x1 x2->p3 x0 x1 x2->p4 x0 x1 x2->p5 x0 x1 x2->p6 x0 x1 x2->p7 x0 x1 x2->G):G:=h.elim λa h=>acH h (k a)
theorem R9 {aX α1 α2:Type} {p0 p1 p2 p3 p4 p5 p6 p7:aX->α1->α2->Prop} (x0:aX) (x1:α1) (x2:α2) (h0:p0 x0 x1 x2) (h1:p1 x0 x1 x2) (h2:p2 x0 x1 x2) (h3:p3 x0 x1 x2) (h4:p4 x0 x1 x2) (h5:p5 x0 x1 x2) (h6:p6 x0 x1 x2) (h7:p7 x0 x1 x2): ∃x0 x1 x2,p0 x0 x1 x2/\p1 x0 x1 x2/\p2 x0 x1 x2/\p3 x0 x1 x2/\p4 x0 x1 x2/\p5 x0 x1 x2/\p6 x0 x1 x2/\p7 x0 x1 x2:=⟨x0,x1,x2,h0,h1,h2,h3,h4,h5,h6,h7⟩
theorem adS {aX α1 α2:Type} {p0 p1 p2 p3 p4 p5 p6 p7 p8:aX->α1->α2->Prop} {G:Prop} (h: ∃x0 x1 x2,p0 x0 x1 x2/\p1 x0 x1 x2/\p2 x0 x1 x2/\p3 x0 x1 x2/\p4 x0 x1 x2/\p5 x0 x1 x2/\p6 x0 x1 x2/\p7 x0 x1 x2/\p8 x0 x1 x2) (k: ∀x0 x1 x2,p0 x0 x1 x2->p1 x0 x1 x2->p2 x0 x1 x2->p3 x0 x1 x2->p4 x0 x1 x2->p5 x0 x1 x2->p6 x0 x1 x2->p7 x0 x1 x2->p8 x0 x1 x2->G):G:=h.elim λa h=>aej h (k a)
theorem aaN {aX α1 α2 α3:Type} {p0:aX->α1->α2->α3->Prop} {G:Prop} (h: ∃x0 x1 x2 x3,p0 x0 x1 x2 x3) (k: ∀x0 x1 x2 x3,p0 x0 x1 x2 x3->G):G:=h.elim λa h=>IJ h (k a)
theorem ad4 {aX α1 α2 α3:Type} {p0:aX->α1->α2->α3->Prop} (x0:aX) (x1:α1) (x2:α2) (x3:α3) (h0:p0 x0 x1 x2 x3): ∃x0 x1 x2 x3,p0 x0 x1 x2 x3:=⟨x0,x1,x2,x3,h0⟩
theorem QD {aX α1 α2 α3:Type} {p0 p1:aX->α1->α2->α3->Prop} {G:Prop} (h: ∃x0 x1 x2 x3,p0 x0 x1 x2 x3/\p1 x0 x1 x2 x3) (k: ∀x0 x1 x2 x3,p0 x0 x1 x2 x3->p1 x0 x1 x2 x3->G):G:=h.elim λa h=>sZ h (k a)
theorem abC {aX α1 α2 α3:Type} {p0 p1 p2:aX->α1->α2->α3->Prop} {G:Prop} (h: ∃x0 x1 x2 x3,p0 x0 x1 x2 x3/\p1 x0 x1 x2 x3/\p2 x0 x1 x2 x3) (k: ∀x0 x1 x2 x3,p0 x0 x1 x2 x3->p1 x0 x1 x2 x3->p2 x0 x1 x2 x3->G):G:=h.elim λa h=>xJ h (k a)
theorem aeu {aX α1 α2 α3:Type} {p0 p1 p2:aX->α1->α2->α3->Prop} (x0:aX) (x1:α1) (x2:α2) (x3:α3) (h0:p0 x0 x1 x2 x3) (h1:p1 x0 x1 x2 x3) (h2:p2 x0 x1 x2 x3): ∃x0 x1 x2 x3,p0 x0 x1 x2 x3/\p1 x0 x1 x2 x3/\p2 x0 x1 x2 x3:=⟨x0,x1,x2,x3,h0,h1,h2⟩
theorem vC {aX α1 α2 α3:Type} {p0 p1 p2 p3:aX->α1->α2->α3->Prop} {G:Prop} (h: ∃x0 x1 x2 x3,p0 x0 x1 x2 x3/\p1 x0 x1 x2 x3/\p2 x0 x1 x2 x3/\p3 x0 x1 x2 x3) (k: ∀x0 x1 x2 x3,p0 x0 x1 x2 x3->p1 x0 x1 x2 x3->p2 x0 x1 x2 x3->p3 x0 x1 x2 x3->G):G:=h.elim λa h=>Fg h (k a)
theorem AU {aX α1 α2 α3:Type} {p0 p1 p2 p3:aX->α1->α2->α3->Prop} (x0:aX) (x1:α1) (x2:α2) (x3:α3) (h0:p0 x0 x1 x2 x3) (h1:p1 x0 x1 x2 x3) (h2:p2 x0 x1 x2 x3) (h3:p3 x0 x1 x2 x3): ∃x0 x1 x2 x3,p0 x0 x1 x2 x3/\p1 x0 x1 x2 x3/\p2 x0 x1 x2 x3/\p3 x0 x1 x2 x3:=⟨x0,x1,x2,x3,h0,h1,h2,h3⟩
theorem adl {aX α1 α2 α3:Type} {p0 p1 p2 p3 p4:aX->α1->α2->α3->Prop} {G:Prop} (h: ∃x0 x1 x2 x3,p0 x0 x1 x2 x3/\p1 x0 x1 x2 x3/\p2 x0 x1 x2 x3/\p3 x0 x1 x2 x3/\p4 x0 x1 x2 x3) (k: ∀x0 x1 x2 x3,p0 x0 x1 x2 x3->p1 x0 x1 x2 x3->p2 x0 x1 x2 x3->p3 x0 x1 x2 x3->p4 x0 x1 x2 x3->G):G:=h.elim λa h=>gH h (k a)
theorem Sh {aX α1 α2 α3:Type} {p0 p1 p2 p3 p4 p5:aX->α1->α2->α3->Prop} {G:Prop} (h: ∃x0 x1 x2 x3,p0 x0 x1 x2 x3/\p1 x0 x1 x2 x3/\p2 x0 x1 x2 x3/\p3 x0 x1 x2 x3/\p4 x0 x1 x2 x3/\p5 x0 x1 x2 x3) (k: ∀x0 x1 x2 x3,p0 x0 x1 x2 x3->p1 x0 x1 x2 x3->p2 x0 x1 x2 x3->p3 x0 x1 x2 x3->p4 x0 x1 x2 x3->p5 x0 x1 x2 x3->G):G:=h.elim λa h=>QF h (k a)
theorem aeh {aX α1 α2 α3:Type} {p0 p1 p2 p3 p4 p5:aX->α1->α2->α3->Prop} (x0:aX) (x1:α1) (x2:α2) (x3:α3) (h0:p0 x0 x1 x2 x3) (h1:p1 x0 x1 x2 x3) (h2:p2 x0 x1 x2 x3) (h3:p3 x0 x1 x2 x3) (h4:p4 x0 x1 x2 x3) (h5:p5 x0 x1 x2 x3): ∃x0 x1 x2 x3,p0 x0 x1 x2 x3/\p1 x0 x1 x2 x3/\p2 x0 x1 x2 x3/\p3 x0 x1 x2 x3/\p4 x0 x1 x2 x3/\p5 x0 x1 x2 x3:=⟨x0,x1,x2,x3,h0,h1,h2,h3,h4,h5⟩
theorem ac5 {aX α1 α2 α3:Type} {p0 p1 p2 p3 p4 p5 p6 p7 p8:aX->α1->α2->α3->Prop} {G:Prop} (h: ∃x0 x1 x2 x3,p0 x0 x1 x2 x3/\p1 x0 x1 x2 x3/\p2 x0 x1 x2 x3/\p3 x0 x1 x2 x3/\p4 x0 x1 x2 x3/\p5 x0 x1 x2 x3/\p6 x0 x1 x2 x3/\p7 x0 x1 x2 x3/\p8 x0 x1 x2 x3) (k: ∀x0 x1 x2 x3,p0 x0 x1 x2 x3->p1 x0 x1 x2 x3->p2 x0 x1 x2 x3->p3 x0 x1 x2 x3->p4 x0 x1 x2 x3->p5 x0 x1 x2 x3->p6 x0 x1 x2 x3->p7 x0 x1 x2 x3->p8 x0 x1 x2 x3->G):G:=h.elim λa h=>adS h (k a)
theorem aaj {aX α1 α2 α3 fF:Type} {p0:aX->α1->α2->α3->fF->Prop} {G:Prop} (h: ∃x0 x1 x2 x3 x4,p0 x0 x1 x2 x3 x4) (k: ∀x0 x1 x2 x3 x4,p0 x0 x1 x2 x3 x4->G):G:=h.elim λa h=>aaN h (k a)
theorem aeA {aX α1 α2 α3 fF:Type} {p0:aX->α1->α2->α3->fF->Prop} (x0:aX) (x1:α1) (x2:α2) (x3:α3) (x4:fF) (h0:p0 x0 x1 x2 x3 x4): ∃x0 x1 x2 x3 x4,p0 x0 x1 x2 x3 x4:=⟨x0,x1,x2,x3,x4,h0⟩
theorem adE {aX α1 α2 α3 fF:Type} {p0 p1:aX->α1->α2->α3->fF->Prop} {G:Prop} (h: ∃x0 x1 x2 x3 x4,p0 x0 x1 x2 x3 x4/\p1 x0 x1 x2 x3 x4) (k: ∀x0 x1 x2 x3 x4,p0 x0 x1 x2 x3 x4->p1 x0 x1 x2 x3 x4->G):G:=h.elim λa h=>QD h (k a)
theorem acP {aX α1 α2 α3 fF:Type} {p0 p1 p2:aX->α1->α2->α3->fF->Prop} {G:Prop} (h: ∃x0 x1 x2 x3 x4,p0 x0 x1 x2 x3 x4/\p1 x0 x1 x2 x3 x4/\p2 x0 x1 x2 x3 x4) (k: ∀x0 x1 x2 x3 x4,p0 x0 x1 x2 x3 x4->p1 x0 x1 x2 x3 x4->p2 x0 x1 x2 x3 x4->G):G:=h.elim λa h=>abC h (k a)
theorem QH {aX α1 α2 α3 fF:Type} {p0 p1 p2:aX->α1->α2->α3->fF->Prop} (x0:aX) (x1:α1) (x2:α2) (x3:α3) (x4:fF) (h0:p0 x0 x1 x2 x3 x4) (h1:p1 x0 x1 x2 x3 x4) (h2:p2 x0 x1 x2 x3 x4): ∃x0 x1 x2 x3 x4,p0 x0 x1 x2 x3 x4/\p1 x0 x1 x2 x3 x4/\p2 x0 x1 x2 x3 x4:=⟨x0,x1,x2,x3,x4,h0,h1,h2⟩
theorem abh {aX α1 α2 α3 fF:Type} {p0 p1 p2 p3:aX->α1->α2->α3->fF->Prop} {G:Prop} (h: ∃x0 x1 x2 x3 x4,p0 x0 x1 x2 x3 x4/\p1 x0 x1 x2 x3 x4/\p2 x0 x1 x2 x3 x4/\p3 x0 x1 x2 x3 x4) (k: ∀x0 x1 x2 x3 x4,p0 x0 x1 x2 x3 x4->p1 x0 x1 x2 x3 x4->p2 x0 x1 x2 x3 x4->p3 x0 x1 x2 x3 x4->G):G:=h.elim λa h=>vC h (k a)
theorem adq {aX α1 α2 α3 fF:Type} {p0 p1 p2 p3:aX->α1->α2->α3->fF->Prop} (x0:aX) (x1:α1) (x2:α2) (x3:α3) (x4:fF) (h0:p0 x0 x1 x2 x3 x4) (h1:p1 x0 x1 x2 x3 x4) (h2:p2 x0 x1 x2 x3 x4) (h3:p3 x0 x1 x2 x3 x4): ∃x0 x1 x2 x3 x4,p0 x0 x1 x2 x3 x4/\p1 x0 x1 x2 x3 x4/\p2 x0 x1 x2 x3 x4/\p3 x0 x1 x2 x3 x4:=⟨x0,x1,x2,x3,x4,h0,h1,h2,h3⟩
theorem adM {aX α1 α2 α3 fF:Type} {p0 p1 p2 p3 p4:aX->α1->α2->α3->fF->Prop} {G:Prop} (h: ∃x0 x1 x2 x3 x4,p0 x0 x1 x2 x3 x4/\p1 x0 x1 x2 x3 x4/\p2 x0 x1 x2 x3 x4/\p3 x0 x1 x2 x3 x4/\p4 x0 x1 x2 x3 x4) (k: ∀x0 x1 x2 x3 x4,p0 x0 x1 x2 x3 x4->p1 x0 x1 x2 x3 x4->p2 x0 x1 x2 x3 x4->p3 x0 x1 x2 x3 x4->p4 x0 x1 x2 x3 x4->G):G:=h.elim λa h=>adl h (k a)
theorem acw {aX α1 α2 α3 fF:Type} {p0 p1 p2 p3 p4 p5:aX->α1->α2->α3->fF->Prop} (x0:aX) (x1:α1) (x2:α2) (x3:α3) (x4:fF) (h0:p0 x0 x1 x2 x3 x4) (h1:p1 x0 x1 x2 x3 x4) (h2:p2 x0 x1 x2 x3 x4) (h3:p3 x0 x1 x2 x3 x4) (h4:p4 x0 x1 x2 x3 x4) (h5:p5 x0 x1 x2 x3 x4): ∃x0 x1 x2 x3 x4,p0 x0 x1 x2 x3 x4/\p1 x0 x1 x2 x3 x4/\p2 x0 x1 x2 x3 x4/\p3 x0 x1 x2 x3 x4/\p4 x0 x1 x2 x3 x4/\p5 x0 x1 x2 x3 x4:=⟨x0,x1,x2,x3,x4,h0,h1,h2,h3,h4,h5⟩
theorem aaW {aX α1 α2 α3 fF:Type} {p0 p1 p2 p3 p4 p5 p6 p7 p8:aX->α1->α2->α3->fF->Prop} {G:Prop} (h: ∃x0 x1 x2 x3 x4,p0 x0 x1 x2 x3 x4/\p1 x0 x1 x2 x3 x4/\p2 x0 x1 x2 x3 x4/\p3 x0 x1 x2 x3 x4/\p4 x0 x1 x2 x3 x4/\p5 x0 x1 x2 x3 x4/\p6 x0 x1 x2 x3 x4/\p7 x0 x1 x2 x3 x4/\p8 x0 x1 x2 x3 x4) (k: ∀x0 x1 x2 x3 x4,p0 x0 x1 x2 x3 x4->p1 x0 x1 x2 x3 x4->p2 x0 x1 x2 x3 x4->p3 x0 x1 x2 x3 x4->p4 x0 x1 x2 x3 x4->p5 x0 x1 x2 x3 x4->p6 x0 x1 x2 x3 x4->p7 x0 x1 x2 x3 x4->p8 x0 x1 x2 x3 x4->G):G:=h.elim λa h=>ac5 h (k a)
theorem aa9 {aX α1 α2 α3 fF:Type} {p0 p1 p2 p3 p4 p5 p6 p7 p8:aX->α1->α2->α3->fF->Prop} (x0:aX) (x1:α1) (x2:α2) (x3:α3) (x4:fF) (h0:p0 x0 x1 x2 x3 x4) (h1:p1 x0 x1 x2 x3 x4) (h2:p2 x0 x1 x2 x3 x4) (h3:p3 x0 x1 x2 x3 x4) (h4:p4 x0 x1 x2 x3 x4) (h5:p5 x0 x1 x2 x3 x4) (h6:p6 x0 x1 x2 x3 x4) (h7:p7 x0 x1 x2 x3 x4) (h8:p8 x0 x1 x2 x3 x4): ∃x0 x1 x2 x3 x4,p0 x0 x1 x2 x3 x4/\p1 x0 x1 x2 x3 x4/\p2 x0 x1 x2 x3 x4/\p3 x0 x1 x2 x3 x4/\p4 x0 x1 x2 x3 x4/\p5 x0 x1 x2 x3 x4/\p6 x0 x1 x2 x3 x4/\p7 x0 x1 x2 x3 x4/\p8 x0 x1 x2 x3 x4:=⟨x0,x1,x2,x3,x4,h0,h1,h2,h3,h4,h5,h6,h7,h8⟩
theorem ac8 {aX α1 α2 α3 fF kC:Type} {p0:aX->α1->α2->α3->fF->kC->Prop} {G:Prop} (h: ∃x0 x1 x2 x3 x4 x5,p0 x0 x1 x2 x3 x4 x5) (k: ∀x0 x1 x2 x3 x4 x5,p0 x0 x1 x2 x3 x4 x5->G):G:=h.elim λa h=>aaj h (k a)
theorem acy {aX α1 α2 α3 fF kC:Type} {p0:aX->α1->α2->α3->fF->kC->Prop} (x0:aX) (x1:α1) (x2:α2) (x3:α3) (x4:fF) (x5:kC) (h0:p0 x0 x1 x2 x3 x4 x5): ∃x0 x1 x2 x3 x4 x5,p0 x0 x1 x2 x3 x4 x5:=⟨x0,x1,x2,x3,x4,x5,h0⟩
theorem adH {aX α1 α2 α3 fF kC:Type} {p0 p1:aX->α1->α2->α3->fF->kC->Prop} {G:Prop} (h: ∃x0 x1 x2 x3 x4 x5,p0 x0 x1 x2 x3 x4 x5/\p1 x0 x1 x2 x3 x4 x5) (k: ∀x0 x1 x2 x3 x4 x5,p0 x0 x1 x2 x3 x4 x5->p1 x0 x1 x2 x3 x4 x5->G):G:=h.elim λa h=>adE h (k a)
theorem ac6 {aX α1 α2 α3 fF kC:Type} {p0 p1:aX->α1->α2->α3->fF->kC->Prop} (x0:aX) (x1:α1) (x2:α2) (x3:α3) (x4:fF) (x5:kC) (h0:p0 x0 x1 x2 x3 x4 x5) (h1:p1 x0 x1 x2 x3 x4 x5): ∃x0 x1 x2 x3 x4 x5,p0 x0 x1 x2 x3 x4 x5/\p1 x0 x1 x2 x3 x4 x5:=⟨x0,x1,x2,x3,x4,x5,h0,h1⟩
theorem aed {aX α1 α2 α3 fF kC:Type} {p0 p1 p2 p3:aX->α1->α2->α3->fF->kC->Prop} {G:Prop} (h: ∃x0 x1 x2 x3 x4 x5,p0 x0 x1 x2 x3 x4 x5/\p1 x0 x1 x2 x3 x4 x5/\p2 x0 x1 x2 x3 x4 x5/\p3 x0 x1 x2 x3 x4 x5) (k: ∀x0 x1 x2 x3 x4 x5,p0 x0 x1 x2 x3 x4 x5->p1 x0 x1 x2 x3 x4 x5->p2 x0 x1 x2 x3 x4 x5->p3 x0 x1 x2 x3 x4 x5->G):G:=h.elim λa h=>abh h (k a)
theorem PK {aX α1 α2 α3 fF kC:Type} {p0 p1 p2 p3:aX->α1->α2->α3->fF->kC->Prop} (x0:aX) (x1:α1) (x2:α2) (x3:α3) (x4:fF) (x5:kC) (h0:p0 x0 x1 x2 x3 x4 x5) (h1:p1 x0 x1 x2 x3 x4 x5) (h2:p2 x0 x1 x2 x3 x4 x5) (h3:p3 x0 x1 x2 x3 x4 x5): ∃x0 x1 x2 x3 x4 x5,p0 x0 x1 x2 x3 x4 x5/\p1 x0 x1 x2 x3 x4 x5/\p2 x0 x1 x2 x3 x4 x5/\p3 x0 x1 x2 x3 x4 x5:=⟨x0,x1,x2,x3,x4,x5,h0,h1,h2,h3⟩
theorem aeD {aX α1 α2 α3 fF kC:Type} {p0 p1 p2 p3 p4:aX->α1->α2->α3->fF->kC->Prop} {G:Prop} (h: ∃x0 x1 x2 x3 x4 x5,p0 x0 x1 x2 x3 x4 x5/\p1 x0 x1 x2 x3 x4 x5/\p2 x0 x1 x2 x3 x4 x5/\p3 x0 x1 x2 x3 x4 x5/\p4 x0 x1 x2 x3 x4 x5) (k: ∀x0 x1 x2 x3 x4 x5,p0 x0 x1 x2 x3 x4 x5->p1 x0 x1 x2 x3 x4 x5->p2 x0 x1 x2 x3 x4 x5->p3 x0 x1 x2 x3 x4 x5->p4 x0 x1 x2 x3 x4 x5->G):G:=h.elim λa h=>adM h (k a)
theorem aeb {aX α1 α2 α3 fF kC vA:Type} {p0 p1 p2 p3:aX->α1->α2->α3->fF->kC->vA->Prop} {G:Prop} (h: ∃x0 x1 x2 x3 x4 x5 x6,p0 x0 x1 x2 x3 x4 x5 x6/\p1 x0 x1 x2 x3 x4 x5 x6/\p2 x0 x1 x2 x3 x4 x5 x6/\p3 x0 x1 x2 x3 x4 x5 x6) (k: ∀x0 x1 x2 x3 x4 x5 x6,p0 x0 x1 x2 x3 x4 x5 x6->p1 x0 x1 x2 x3 x4 x5 x6->p2 x0 x1 x2 x3 x4 x5 x6->p3 x0 x1 x2 x3 x4 x5 x6->G):G:=h.elim λa h=>aed h (k a)
theorem ady {aX α1 α2 α3 fF kC vA:Type} {p0 p1 p2 p3 p4:aX->α1->α2->α3->fF->kC->vA->Prop} {G:Prop} (h: ∃x0 x1 x2 x3 x4 x5 x6,p0 x0 x1 x2 x3 x4 x5 x6/\p1 x0 x1 x2 x3 x4 x5 x6/\p2 x0 x1 x2 x3 x4 x5 x6/\p3 x0 x1 x2 x3 x4 x5 x6/\p4 x0 x1 x2 x3 x4 x5 x6) (k: ∀x0 x1 x2 x3 x4 x5 x6,p0 x0 x1 x2 x3 x4 x5 x6->p1 x0 x1 x2 x3 x4 x5 x6->p2 x0 x1 x2 x3 x4 x5 x6->p3 x0 x1 x2 x3 x4 x5 x6->p4 x0 x1 x2 x3 x4 x5 x6->G):G:=h.elim λa h=>aeD h (k a)
theorem acB {aX α1 α2 α3 fF kC vA:Type} {p0 p1 p2 p3 p4:aX->α1->α2->α3->fF->kC->vA->Prop} (x0:aX) (x1:α1) (x2:α2) (x3:α3) (x4:fF) (x5:kC) (x6:vA) (h0:p0 x0 x1 x2 x3 x4 x5 x6) (h1:p1 x0 x1 x2 x3 x4 x5 x6) (h2:p2 x0 x1 x2 x3 x4 x5 x6) (h3:p3 x0 x1 x2 x3 x4 x5 x6) (h4:p4 x0 x1 x2 x3 x4 x5 x6): ∃x0 x1 x2 x3 x4 x5 x6,p0 x0 x1 x2 x3 x4 x5 x6/\p1 x0 x1 x2 x3 x4 x5 x6/\p2 x0 x1 x2 x3 x4 x5 x6/\p3 x0 x1 x2 x3 x4 x5 x6/\p4 x0 x1 x2 x3 x4 x5 x6:=⟨x0,x1,x2,x3,x4,x5,x6,h0,h1,h2,h3,h4⟩
theorem aa4 {aX α1 α2 α3 fF kC vA:Type} {p0 p1 p2 p3 p4 p5:aX->α1->α2->α3->fF->kC->vA->Prop} (x0:aX) (x1:α1) (x2:α2) (x3:α3) (x4:fF) (x5:kC) (x6:vA) (h0:p0 x0 x1 x2 x3 x4 x5 x6) (h1:p1 x0 x1 x2 x3 x4 x5 x6) (h2:p2 x0 x1 x2 x3 x4 x5 x6) (h3:p3 x0 x1 x2 x3 x4 x5 x6) (h4:p4 x0 x1 x2 x3 x4 x5 x6) (h5:p5 x0 x1 x2 x3 x4 x5 x6): ∃x0 x1 x2 x3 x4 x5 x6,p0 x0 x1 x2 x3 x4 x5 x6/\p1 x0 x1 x2 x3 x4 x5 x6/\p2 x0 x1 x2 x3 x4 x5 x6/\p3 x0 x1 x2 x3 x4 x5 x6/\p4 x0 x1 x2 x3 x4 x5 x6/\p5 x0 x1 x2 x3 x4 x5 x6:=⟨x0,x1,x2,x3,x4,x5,x6,h0,h1,h2,h3,h4,h5⟩
theorem adV {aX α1 α2 α3 fF kC vA K2:Type} {p0 p1 p2 p3:aX->α1->α2->α3->fF->kC->vA->K2->Prop} {G:Prop} (h: ∃x0 x1 x2 x3 x4 x5 x6 x7,p0 x0 x1 x2 x3 x4 x5 x6 x7/\p1 x0 x1 x2 x3 x4 x5 x6 x7/\p2 x0 x1 x2 x3 x4 x5 x6 x7/\p3 x0 x1 x2 x3 x4 x5 x6 x7) (k: ∀x0 x1 x2 x3 x4 x5 x6 x7,p0 x0 x1 x2 x3 x4 x5 x6 x7->p1 x0 x1 x2 x3 x4 x5 x6 x7->p2 x0 x1 x2 x3 x4 x5 x6 x7->p3 x0 x1 x2 x3 x4 x5 x6 x7->G):G:=h.elim λa h=>aeb h (k a)
theorem adn {aX α1 α2 α3 fF kC vA K2:Type} {p0 p1 p2 p3 p4:aX->α1->α2->α3->fF->kC->vA->K2->Prop} {G:Prop} (h: ∃x0 x1 x2 x3 x4 x5 x6 x7,p0 x0 x1 x2 x3 x4 x5 x6 x7/\p1 x0 x1 x2 x3 x4 x5 x6 x7/\p2 x0 x1 x2 x3 x4 x5 x6 x7/\p3 x0 x1 x2 x3 x4 x5 x6 x7/\p4 x0 x1 x2 x3 x4 x5 x6 x7) (k: ∀x0 x1 x2 x3 x4 x5 x6 x7,p0 x0 x1 x2 x3 x4 x5 x6 x7->p1 x0 x1 x2 x3 x4 x5 x6 x7->p2 x0 x1 x2 x3 x4 x5 x6 x7->p3 x0 x1 x2 x3 x4 x5 x6 x7->p4 x0 x1 x2 x3 x4 x5 x6 x7->G):G:=h.elim λa h=>ady h (k a)
theorem adw {aX α1 α2 α3 fF kC vA K2:Type} {p0 p1 p2 p3 p4:aX->α1->α2->α3->fF->kC->vA->K2->Prop} (x0:aX) (x1:α1) (x2:α2) (x3:α3) (x4:fF) (x5:kC) (x6:vA) (x7:K2) (h0:p0 x0 x1 x2 x3 x4 x5 x6 x7) (h1:p1 x0 x1 x2 x3 x4 x5 x6 x7) (h2:p2 x0 x1 x2 x3 x4 x5 x6 x7) (h3:p3 x0 x1 x2 x3 x4 x5 x6 x7) (h4:p4 x0 x1 x2 x3 x4 x5 x6 x7): ∃x0 x1 x2 x3 x4 x5 x6 x7,p0 x0 x1 x2 x3 x4 x5 x6 x7/\p1 x0 x1 x2 x3 x4 x5 x6 x7/\p2 x0 x1 x2 x3 x4 x5 x6 x7/\p3 x0 x1 x2 x3 x4 x5 x6 x7/\p4 x0 x1 x2 x3 x4 x5 x6 x7:=⟨x0,x1,x2,x3,x4,x5,x6,x7,h0,h1,h2,h3,h4⟩
theorem adv {aX α1 α2 α3 fF kC vA K2 α8:Type} {p0 p1 p2 p3:aX->α1->α2->α3->fF->kC->vA->K2->α8->Prop} {G:Prop} (h: ∃x0 x1 x2 x3 x4 x5 x6 x7 x8,p0 x0 x1 x2 x3 x4 x5 x6 x7 x8/\p1 x0 x1 x2 x3 x4 x5 x6 x7 x8/\p2 x0 x1 x2 x3 x4 x5 x6 x7 x8/\p3 x0 x1 x2 x3 x4 x5 x6 x7 x8) (k: ∀x0 x1 x2 x3 x4 x5 x6 x7 x8,p0 x0 x1 x2 x3 x4 x5 x6 x7 x8->p1 x0 x1 x2 x3 x4 x5 x6 x7 x8->p2 x0 x1 x2 x3 x4 x5 x6 x7 x8->p3 x0 x1 x2 x3 x4 x5 x6 x7 x8->G):G:=h.elim λa h=>adV h (k a)
theorem adi {aX α1 α2 α3 fF kC vA K2 α8:Type} {p0 p1 p2 p3:aX->α1->α2->α3->fF->kC->vA->K2->α8->Prop} (x0:aX) (x1:α1) (x2:α2) (x3:α3) (x4:fF) (x5:kC) (x6:vA) (x7:K2) (x8:α8) (h0:p0 x0 x1 x2 x3 x4 x5 x6 x7 x8) (h1:p1 x0 x1 x2 x3 x4 x5 x6 x7 x8) (h2:p2 x0 x1 x2 x3 x4 x5 x6 x7 x8) (h3:p3 x0 x1 x2 x3 x4 x5 x6 x7 x8): ∃x0 x1 x2 x3 x4 x5 x6 x7 x8,p0 x0 x1 x2 x3 x4 x5 x6 x7 x8/\p1 x0 x1 x2 x3 x4 x5 x6 x7 x8/\p2 x0 x1 x2 x3 x4 x5 x6 x7 x8/\p3 x0 x1 x2 x3 x4 x5 x6 x7 x8:=⟨x0,x1,x2,x3,x4,x5,x6,x7,x8,h0,h1,h2,h3⟩
structure Cl where
 n:Fin 18 deriving DecidableEq
noncomputable def Cl.of (k:Nat):Cl:=⟨YE 18 k⟩
structure Fd where
 n:Fin 55 deriving DecidableEq
noncomputable def Fd.of (k:Nat):Fd:=⟨YE 55 k⟩
structure Mt where
 n:Fin 32 deriving DecidableEq
noncomputable def Mt.of (k:Nat):Mt:=⟨YE 32 k⟩
structure Fn where
 n:Fin 105 deriving DecidableEq
noncomputable def Fn.of (k:Nat):Fn:=⟨YE 105 k⟩
structure Gl where
 n:Fin 14 deriving DecidableEq
noncomputable def Gl.of (k:Nat):Gl:=⟨YE 14 k⟩
inductive J where|none|bool (b:Bool)|int (i:Int)|bytes (b:List UInt8)|bW (l:List J)|O (l:List J)|obj (C:Cl) (fs:List (Fd×J))|gU (l:List (Int×J))|ref (x:Nat)|aI (C:Cl) (x:Nat)|ah deriving Inhabited
noncomputable abbrev J.ctorIdx (x:J):Nat:= @J.casesOn (λz=>Nat) x 0 (λz=>1) (λz=>2) (λz=>3) (λz=>4) (λz=>5) (λz z=>6) (λz=>7) (λz=>8) (λz z=>9) 10
inductive gm where|O (l:List J)|cj (fs:List (Fd×J))|gU (l:List (Int×J))|bar (b:List UInt8) deriving Inhabited
noncomputable abbrev gm.ctorIdx (x:gm):Nat:= @gm.casesOn (λz=>Nat) x (λz=>0) (λz=>1) (λz=>2) (λz=>3)
set_option genCtorIdx true in inductive BinOp where|add|sub|mul|fdiv|mod|pow|band|bor|shl|shr|bxor deriving DecidableEq
set_option genCtorIdx true in inductive vB where|eq|ne|lt|le|gt|ge|is_|nc|in_|w6 deriving DecidableEq
set_option genCtorIdx true in inductive Mn where|name (i:Nat)|bW (l:List Nat) deriving DecidableEq
mutual inductive Ex where|lit (v:J)|var (i:Nat)|cvar|glob (g:Gl)|bin (op:BinOp) (a b:Ex)|neg (a:Ex)|not (a:Ex)|and (l:ir)|or (l:ir)|cmp (op:vB) (a b:Ex)|ite (c a b:Ex)|attr (a:Ex) (f:Fd)|item (a i:Ex)|slice (a:Ex) (lo hi:sf)|bW (l:ir)|list (l:ir)|comp (elt:Ex) (it:Ex) (c:sf)|gp (elt:Ex) (r:ir) (c:sf)|ru|q7|call (f:Fn) (l:ir)|new (C:Cl) (l:ir)|iA (o:Ex) (m:Mt) (l:ir)|append (o e:Ex)|len (a:Ex)|bytesOf (a:Ex)|sum (a:Ex)|sorted (a:Ex)|all (a:Ex)|min (a b:Ex)|max (a b:Ex)|isBool (a:Ex)|freeze (a:Ex)|cQ (a:Ex) inductive sf where|none|some (e:Ex) inductive ir where|nil|cons (e:Ex) (l:ir) end
noncomputable abbrev Ex.ctorIdx (x:Ex):Nat:= @Ex.casesOn (λz=>Nat) x (λz=>0) (λz=>1) 2 (λz=>3) (λz z z=>4) (λz=>5) (λz=>6) (λz=>7) (λz=>8) (λz z z=>9) (λz z z=>10) (λz z=>11) (λz z=>12) (λz z z=>13) (λz=>14) (λz=>15) (λz z z=>16) (λz z z=>17) 18 19 (λz z=>20) (λz z=>21) (λz z z=>22) (λz z=>23) (λz=>24) (λz=>25) (λz=>26) (λz=>27) (λz=>28) (λz z=>29) (λz z=>30) (λz=>31) (λz=>32) (λz=>33)
noncomputable abbrev sf.ctorIdx (x:sf):Nat:= @sf.casesOn (λz=>Nat) x 0 (λz=>1)
noncomputable abbrev ir.ctorIdx (x:ir):Nat:= @ir.casesOn (λz=>Nat) x 0 (λz z=>1)
mutual inductive S where|assign (t:Mn) (e:Ex)|setAttr (o:Ex) (f:Fd) (e:Ex)|setItem (o i e:Ex)|iO (x:Nat) (op:BinOp) (e:Ex)|iF (o:Ex) (f:Fd) (op:BinOp) (e:Ex)|b9 (c:Ex) (a b:Ss)|while (c:Ex) (b:Ss)|forL (t:Mn) (e:Ex) (b:Ss)|forR (t:Mn) (r:ir) (b:Ss)|ret (e:Ex)|tG|expr (e:Ex)|raise|bad|xE (b:Ss) (v:J)|rH (b:Ss)|pass|cont|bI (x:Nat) inductive Ss where|nil|cons (s:S) (l:Ss) end
noncomputable abbrev S.ctorIdx (x:S):Nat:= @S.casesOn (λz=>Nat) x (λz z=>0) (λz z z=>1) (λz z z=>2) (λz z z=>3) (λz z z z=>4) (λz z z=>5) (λz z=>6) (λz z z=>7) (λz z z=>8) (λz=>9) 10 (λz=>11) 12 13 (λz z=>14) (λz=>15) 16 17 (λz=>18)
noncomputable abbrev Ss.ctorIdx (x:Ss):Nat:= @Ss.casesOn (λz=>Nat) x 0 (λz z=>1)
noncomputable def zx (x:Gl):J:=[(.int 1),(.int 2),(.int 48),(.int 40),(.int 0),(.int 1),(.int 1),(.int 15800726617472432983),(.int 4294967295),(.int 18446744073709551615),(.int 72057594037927935),(.int 0),(.int 8),(.int 5)].getD x.n.val .none
noncomputable def MC (x:Cl):List (Mt×Fn):=[[((.of 0),(.of 37))],[((.of 0),(.of 37))],[((.of 0),(.of 39))],[((.of 9),(.of 41))],[((.of 15),(.of 44)),((.of 21),(.of 43))],[((.of 1),(.of 57)),((.of 2),(.of 58)),((.of 3),(.of 49)),((.of 4),(.of 50)),((.of 5),(.of 48)),((.of 6),(.of 53)),((.of 7),(.of 54)),((.of 8),(.of 55)),((.of 13),(.of 47)),((.of 14),(.of 46)),((.of 16),(.of 51)),((.of 17),(.of 52)),((.of 18),(.of 56))],[],[],[((.of 12),(.of 66)),((.of 19),(.of 62)),((.of 20),(.of 63)),((.of 21),(.of 65)),((.of 22),(.of 64))],[((.of 1),(.of 79)),((.of 2),(.of 80)),((.of 3),(.of 70)),((.of 4),(.of 71)),((.of 5),(.of 68)),((.of 6),(.of 76)),((.of 7),(.of 77)),((.of 8),(.of 78)),((.of 13),(.of 69)),((.of 23),(.of 72)),((.of 24),(.of 73)),((.of 25),(.of 74)),((.of 26),(.of 75))],[((.of 12),(.of 83)),((.of 21),(.of 84)),((.of 27),(.of 82))],[((.of 1),(.of 91)),((.of 2),(.of 92)),((.of 4),(.of 93)),((.of 5),(.of 86)),((.of 6),(.of 88)),((.of 7),(.of 89)),((.of 8),(.of 90)),((.of 13),(.of 87))],[],[((.of 1),(.of 91)),((.of 2),(.of 92)),((.of 4),(.of 93)),((.of 5),(.of 86)),((.of 6),(.of 88)),((.of 7),(.of 89)),((.of 8),(.of 90)),((.of 13),(.of 87)),((.of 28),(.of 95)),((.of 29),(.of 96))],[((.of 22),(.of 98))],[((.of 10),(.of 104)),((.of 11),(.of 103)),((.of 12),(.of 101)),((.of 30),(.of 100)),((.of 31),(.of 102))],[],[]].getD x.n.val []
noncomputable def kM (C:Cl) (m:Mt):Option Fn:=(MC C).lookup m
noncomputable def jS (x:Cl):Option Fn:=[none,none,some (.of 38),some (.of 40),some (.of 42),some (.of 45),some (.of 59),some (.of 60),some (.of 61),some (.of 67),some (.of 81),some (.of 85),some (.of 94),some (.of 85),some (.of 97),some (.of 99),none,none].getD x.n.val none
noncomputable def G4 (x:Cl):List Fd:=[[],[],[(.of 6)],[(.of 7),(.of 8),(.of 9),(.of 10),(.of 11),(.of 12),(.of 13),(.of 14),(.of 15),(.of 16),(.of 3),(.of 17),(.of 18),(.of 19),(.of 20),(.of 21),(.of 22),(.of 23),(.of 24),(.of 25),(.of 26)],[(.of 27),(.of 28),(.of 29),(.of 30)],[(.of 31),(.of 28),(.of 32),(.of 33),(.of 34),(.of 35),(.of 36)],[(.of 0),(.of 1)],[(.of 37),(.of 38)],[(.of 27),(.of 39),(.of 28),(.of 40),(.of 41),(.of 38),(.of 42)],[(.of 43),(.of 44),(.of 45),(.of 46)],[(.of 47),(.of 39),(.of 28),(.of 4)],[(.of 48),(.of 28),(.of 46)],[(.of 49),(.of 1),(.of 50),(.of 2)],[(.of 48),(.of 28),(.of 46)],[(.of 51)],[(.of 19),(.of 28),(.of 5),(.of 52),(.of 53),(.of 54)],[],[]].getD x.n.val []
noncomputable def uD (C:Cl) (f:Fd):Bool:=(G4 C).contains f
noncomputable abbrev Ex.i (n:Int):Ex:=.lit (.int n)
noncomputable abbrev Ex.v (n:Nat):Ex:=.var n
noncomputable abbrev Ex.ad (a b:Ex):Ex:=.bin .add a b
noncomputable abbrev Ex.sb (a b:Ex):Ex:=.bin .sub a b
noncomputable abbrev Ex.md (a b:Ex):Ex:=.bin .mod a b
noncomputable abbrev Ex.ml (a b:Ex):Ex:=.bin .mul a b
noncomputable abbrev Ex.fd (a b:Ex):Ex:=.bin .fdiv a b
noncomputable abbrev Ex.f (a:Ex) (f:Fd):Ex:=.attr a f
noncomputable abbrev Ex.m (a:Ex) (m:Mt) (l:ir):Ex:=.iA a m l
noncomputable abbrev Ex.c (f:Fn) (l:ir):Ex:=.call f l
noncomputable abbrev Ex.g (a i:Ex):Ex:=.item a i
noncomputable abbrev S.a (n:Nat) (e:Ex):S:=.assign (.name n) e
noncomputable abbrev ir.k (a:Ex) (l:ir):ir:=.cons a l
noncomputable abbrev ir.o (a:Ex):ir:=.cons a .nil
noncomputable abbrev ir.t (a b:Ex):ir:=.cons a (.cons b .nil)
noncomputable abbrev ir.z:ir:=.nil
noncomputable abbrev Ss.k (a:S) (l:Ss):Ss:=.cons a l
noncomputable abbrev Ss.o (a:S):Ss:=.cons a .nil
noncomputable abbrev Ss.t (a b:S):Ss:=.cons a (.cons b .nil)
noncomputable abbrev Ss.z:Ss:=.nil
noncomputable def lE:Ss:=.k (.b9 (.or (.t (.cmp .lt (.v 0) (.i 0)) (.cmp .gt (.v 0) (.v 1)))) (.o .bad) .z) (.k (.a 2 .q7) (.k (.while (.cmp .ge (.v 0) (.i 128)) (.t (.expr (.append (.v 2) (.bin .bor (.bin .band (.v 0) (.i 127)) (.i 128)))) (.iO 0 .shr (.i 7)))) (.t (.expr (.append (.v 2) (.v 0))) (.ret (.bytesOf (.v 2))))))
noncomputable def nv:Ss:=.k (.b9 (.cmp .lt (.v 1) (.i 0)) (.o .bad) .z) (.k (.a 4 (.i 0)) (.k (.a 5 (.i 0)) (.t (.forR (.name 6) (.o (.v 2)) (.k (.b9 (.cmp .ge (.v 1) (.len (.v 0))) (.o .bad) .z) (.k (.a 7 (.g (.v 0) (.v 1))) (.k (.iO 1 .add (.i 1)) (.k (.iO 4 .bor (.bin .shl (.bin .band (.v 7) (.i 127)) (.v 5))) (.t (.b9 (.cmp .lt (.v 7) (.i 128)) (.t (.b9 (.cmp .gt (.v 4) (.v 3)) (.o .bad) .z) (.ret (.bW (.t (.v 4) (.v 1))))) .z) (.iO 5 .add (.i 7)))))))) .bad)))
noncomputable def xC:Ss:=.t (.b9 (.and (.t (.cmp .ge (.v 0) (.i 0)) (.cmp .lt (.v 0) (.i 128)))) (.o (.ret (.bytesOf (.freeze (.list (.o (.v 0))))))) .z) (.ret (.c (.of 0) (.t (.v 0) (.glob (.of 9)))))
noncomputable def vt:Ss:=.t (.b9 (.and (.k (.cmp .ge (.v 1) (.i 0)) (.t (.cmp .lt (.v 1) (.len (.v 0))) (.cmp .lt (.g (.v 0) (.v 1)) (.i 128))))) (.o (.ret (.bW (.t (.g (.v 0) (.v 1)) (.ad (.v 1) (.i 1)))))) .z) (.ret (.c (.of 1) (.k (.v 0) (.k (.v 1) (.t (.i 10) (.glob (.of 9)))))))
noncomputable def rN:Ss:=.t (.b9 (.and (.k (.cmp .ge (.v 1) (.i 0)) (.t (.cmp .lt (.v 1) (.len (.v 0))) (.cmp .lt (.g (.v 0) (.v 1)) (.i 128))))) (.o (.ret (.bW (.t (.g (.v 0) (.v 1)) (.ad (.v 1) (.i 1)))))) .z) (.ret (.c (.of 1) (.k (.v 0) (.k (.v 1) (.t (.i 5) (.glob (.of 8)))))))
noncomputable def vn:Ss:=.t (.b9 (.or (.t (.cmp .lt (.v 0) (.i 0)) (.cmp .gt (.v 0) (.glob (.of 8))))) (.o .bad) .z) (.ret (.bytesOf (.freeze (.list (.k (.bin .band (.v 0) (.i 255)) (.k (.bin .band (.bin .shr (.v 0) (.i 8)) (.i 255)) (.t (.bin .band (.bin .shr (.v 0) (.i 16)) (.i 255)) (.bin .shr (.v 0) (.i 24)))))))))
noncomputable def vU:Ss:=.t (.b9 (.or (.t (.cmp .lt (.v 0) (.i 0)) (.cmp .gt (.v 0) (.glob (.of 9))))) (.o .bad) .z) (.ret (.ad (.c (.of 5) (.o (.bin .band (.v 0) (.glob (.of 8))))) (.c (.of 5) (.o (.bin .shr (.v 0) (.i 32))))))
noncomputable def uU:Ss:=.t (.b9 (.or (.t (.cmp .lt (.v 1) (.i 0)) (.cmp .gt (.ad (.v 1) (.i 4)) (.len (.v 0))))) (.o .bad) .z) (.ret (.bin .bor (.bin .bor (.bin .bor (.g (.v 0) (.v 1)) (.bin .shl (.g (.v 0) (.ad (.v 1) (.i 1))) (.i 8))) (.bin .shl (.g (.v 0) (.ad (.v 1) (.i 2))) (.i 16))) (.bin .shl (.g (.v 0) (.ad (.v 1) (.i 3))) (.i 24))))
noncomputable def tU:Ss:=.t (.b9 (.or (.t (.cmp .lt (.v 1) (.i 0)) (.cmp .gt (.ad (.v 1) (.i 8)) (.len (.v 0))))) (.o .bad) .z) (.ret (.bin .bor (.c (.of 7) (.t (.v 0) (.v 1))) (.bin .shl (.c (.of 7) (.t (.v 0) (.ad (.v 1) (.i 4)))) (.i 32))))
noncomputable def C0:Ss:=.k (.b9 (.cmp .eq (.v 0) (.glob (.of 0))) (.o .bad) .z) (.t (.b9 (.cmp .eq (.v 0) (.glob (.of 1))) (.o (.ret (.bin .band (.ad (.ad (.ml (.sum (.v 1)) (.i 251)) (.ml (.len (.v 1)) (.i 65537))) (.i 7)) (.glob (.of 8))))) .z) .bad)
noncomputable def Ci:Ss:=.k (.b9 (.or (.t (.cmp .lt (.v 0) (.i 0)) (.cmp .gt (.v 0) (.glob (.of 10))))) (.o .bad) .z) (.t (.b9 (.and (.t (.cmp .ne (.v 1) (.glob (.of 4))) (.cmp .ne (.v 1) (.glob (.of 6))))) (.o .bad) .z) (.ret (.bin .bor (.bin .shl (.v 0) (.i 8)) (.v 1))))
noncomputable def Ay:Ss:=.o (.ret (.ad (.bytesOf (.v 0)) (.c (.of 6) (.o (.c (.of 10) (.t (.v 1) (.v 2)))))))
noncomputable def yM:Ss:=.k (.a 1 (.c (.of 13) (.o (.v 0)))) (.k (.a 2 (.c (.of 14) (.o (.v 0)))) (.k (.a 3 (.bin .band (.v 2) (.i 255))) (.t (.b9 (.cmp .gt (.v 3) (.glob (.of 6))) (.o .bad) .z) (.ret (.bW (.k (.v 1) (.t (.bin .shr (.v 2) (.i 8)) (.v 3))))))))
noncomputable def GI:Ss:=.t (.b9 (.cmp .lt (.len (.v 0)) (.glob (.of 12))) (.o .bad) .z) (.ret (.bytesOf (.slice (.v 0) .none (.some (.sb (.len (.v 0)) (.glob (.of 12)))))))
noncomputable def Hr:Ss:=.t (.b9 (.cmp .lt (.len (.v 0)) (.glob (.of 12))) (.o .bad) .z) (.ret (.c (.of 8) (.t (.v 0) (.sb (.len (.v 0)) (.glob (.of 12))))))
noncomputable def vX:Ss:=.k (.assign (.bW [2,1]) (.c (.of 3) (.t (.v 0) (.v 1)))) (.t (.assign (.bW [3,1]) (.c (.of 3) (.t (.v 0) (.v 1)))) (.ret (.bW (.t (.cQ (.new (.of 6) (.t (.v 2) (.v 3)))) (.v 1)))))
noncomputable def ze:Ss:=.k (.a 3 (.ad (.f (.v 1) (.of 0)) (.f (.v 1) (.of 1)))) (.k (.b9 (.cmp .gt (.ad (.v 3) (.glob (.of 13))) (.len (.v 0))) (.o .bad) .z) (.k (.a 4 (.bytesOf (.slice (.v 0) (.some (.f (.v 1) (.of 0))) (.some (.ad (.v 3) (.i 1)))))) (.k (.b9 (.cmp .ne (.c (.of 7) (.t (.v 0) (.ad (.v 3) (.i 1)))) (.c (.of 9) (.t (.v 2) (.v 4)))) (.o .bad) .z) (.t (.b9 (.cmp .ne (.g (.v 4) (.f (.v 1) (.of 1))) (.glob (.of 11))) (.o .bad) .z) (.ret (.slice (.v 4) .none (.some (.f (.v 1) (.of 1)))))))))
noncomputable def vG:Ss:=.k (.b9 (.cmp .lt (.len (.v 0)) (.glob (.of 2))) (.o .bad) .z) (.k (.a 1 (.bytesOf (.slice (.v 0) (.some (.sb (.len (.v 0)) (.glob (.of 2)))) .none))) (.k (.b9 (.cmp .ne (.c (.of 8) (.t (.v 1) (.glob (.of 3)))) (.glob (.of 7))) (.o .bad) .z) (.k (.a 2 (.slice (.v 1) .none (.some (.glob (.of 3))))) (.k (.assign (.bW [3,4]) (.c (.of 15) (.t (.v 2) (.i 0)))) (.k (.assign (.bW [5,4]) (.c (.of 15) (.t (.v 2) (.v 4)))) (.t (.b9 (.cmp .ne (.slice (.v 2) (.some (.v 4)) .none) (.bytesOf (.sb (.glob (.of 3)) (.v 4)))) (.o .bad) .z) (.ret (.cQ (.new (.of 7) (.t (.v 3) (.v 5)))))))))))
noncomputable def rf:Ss:=.k (.a 3 (.i 0)) (.k (.a 4 (.len (.v 0))) (.t (.while (.cmp .lt (.v 3) (.v 4)) (.t (.a 5 (.fd (.ad (.v 3) (.v 4)) (.i 2))) (.b9 (.cmp .lt (.m (.v 2) (.of 0) (.t (.f (.g (.v 0) (.v 5)) (.of 2)) (.v 1))) (.i 0)) (.o (.a 3 (.ad (.v 5) (.i 1)))) (.o (.a 4 (.v 5)))))) (.ret (.v 3))))
noncomputable def Cf:Ss:=.o (.ret (.ad (.g (.v 0) (.md (.v 1) (.len (.v 0)))) (.ml (.i 7919) (.fd (.v 1) (.len (.v 0))))))
noncomputable def CG:Ss:=.o (.ret (.g (.freeze (.list (.k (.lit (.bytes [])) (.k (.lit (.bytes [97])) (.k (.lit (.bytes [97,0])) (.t (.lit (.bytes [98])) (.lit (.bytes [255])))))))) (.v 0)))
noncomputable def Cj:Ss:=.o (.ret (.ad (.ad (.c (.of 20) (.o (.g (.v 0) (.i 0)))) (.bytesOf (.freeze (.list (.o (.sb (.i 0) (.g (.v 0) (.i 2)))))))) (.bytesOf (.freeze (.gp (.md (.fd (.sb (.i 0) (.g (.v 0) (.i 1))) (.bin .pow (.i 256) .cvar)) (.i 256)) (.o (.i 7)) .none)))))
noncomputable def Af:Ss:=.o (.ret (.bytesOf (.freeze (.list (.t (.ad (.i 65) (.g (.v 0) (.i 0))) (.g (.v 0) (.i 3)))))))
noncomputable def wZ:Ss:=.k (.a 1 (.lit (.bytes []))) (.t (.while (.cmp .gt (.v 0) (.i 127)) (.t (.a 1 (.ad (.v 1) (.bytesOf (.freeze (.list (.o (.ad (.md (.v 0) (.i 128)) (.i 128)))))))) (.a 0 (.fd (.v 0) (.i 128))))) (.ret (.ad (.v 1) (.bytesOf (.freeze (.list (.o (.v 0))))))))
noncomputable def yS:Ss:=.t (.a 1 (.ad (.ad (.ml (.sum (.v 0)) (.i 251)) (.ml (.ad (.len (.v 0)) (.i 1)) (.i 65537))) (.i 7))) (.ret (.ad (.ad (.v 0) (.lit (.bytes [0]))) (.bytesOf (.freeze (.gp (.md (.fd (.v 1) (.bin .pow (.i 256) .cvar)) (.i 256)) (.o (.i 4)) .none)))))
noncomputable def pJ:Ss:=.k (.a 1 (.ad (.bytesOf (.i 4)) (.lit (.bytes [1,0,0,0])))) (.k (.a 2 (.lit (.bytes []))) (.k (.forL (.name 3) (.v 0) (.t (.a 4 (.c (.of 21) (.o (.v 3)))) (.a 2 (.ad (.ad (.ad (.v 2) (.bytesOf (.freeze (.list (.k (.i 0) (.t (.len (.v 4)) (.i 2))))))) (.v 4)) (.c (.of 22) (.o (.v 3))))))) (.k (.a 2 (.ad (.v 2) (.v 1))) (.k (.a 5 (.c (.of 21) (.o (.g (.v 0) (.sb (.len (.v 0)) (.i 1)))))) (.k (.a 6 (.ad (.lit (.bytes [0])) (.c (.of 23) (.o (.len (.v 2)))))) (.k (.a 7 (.ad (.ad (.ad (.bytesOf (.freeze (.list (.k (.i 0) (.t (.len (.v 5)) (.len (.v 6))))))) (.v 5)) (.v 6)) (.v 1))) (.k (.a 8 (.ad (.len (.v 2)) (.i 5))) (.k (.a 9 (.ad (.ad (.ad (.c (.of 23) (.o (.v 8))) (.lit (.bytes [8]))) (.c (.of 23) (.o (.ad (.v 8) (.i 13))))) (.c (.of 23) (.o (.len (.v 7)))))) (.t (.a 10 (.ad (.ad (.ad (.ad (.c (.of 24) (.o (.v 2))) (.c (.of 24) (.o (.v 1)))) (.c (.of 24) (.o (.v 7)))) (.v 9)) (.bytesOf (.sb (.i 40) (.len (.v 9)))))) (.ret (.ad (.v 10) (.bytesOf (.freeze (.list (.k (.i 87) (.k (.i 251) (.k (.i 128) (.k (.i 139) (.k (.i 36) (.k (.i 117) (.t (.i 71) (.i 219))))))))))))))))))))))
noncomputable def rg:Ss:=.k (.a 2 (.list .z)) (.t (.forR (.name 3) (.o (.len (.v 0))) (.k (.a 4 (.g (.g (.v 0) (.v 3)) (.i 0))) (.t (.b9 (.or (.t (.cmp .eq (.v 3) (.i 0)) (.and (.t (.cmp .ne (.g (.g (.v 0) (.sb (.v 3) (.i 1))) (.i 0)) (.v 4)) (.cmp .eq (.md (.fd (.v 1) (.bin .pow (.i 2) (.v 4))) (.i 2)) (.i 0)))))) (.o (.expr (.append (.v 2) (.list .z)))) .z) (.expr (.append (.g (.v 2) (.sb (.len (.v 2)) (.i 1))) (.g (.v 0) (.v 3))))))) (.ret (.freeze (.v 2))))
noncomputable def nu:Ss:=.k (.a 3 (.g (.freeze (.list (.k (.i 0) (.k (.i 250) (.k (.i 65400) (.t (.bin .pow (.i 2) (.i 40)) (.bin .pow (.i 2) (.i 55)))))))) (.md (.c (.of 19) (.t (.v 0) (.i 1))) (.i 5)))) (.k (.a 4 (.list (.k (.i 0) (.k (.i 0) (.k (.i 0) (.t (.i 0) (.i 0))))))) (.k (.a 5 (.list .z)) (.t (.forR (.name 6) (.o (.v 1)) (.k (.a 7 (.c (.of 19) (.t (.v 0) (.ad (.i 2) (.v 6))))) (.k (.a 8 (.md (.ad (.v 7) (.ml (.i 2) (.v 6))) (.i 5))) (.k (.setItem (.v 4) (.v 8) (.min (.sb (.v 2) (.i 1)) (.ad (.g (.v 4) (.v 8)) (.md (.ad (.fd (.v 7) (.i 10)) (.v 6)) (.i 3))))) (.t (.a 9 (.ad (.ad (.v 3) (.ml (.i 60) (.sb (.v 1) (.v 6)))) (.md (.fd (.v 7) (.i 30)) (.i 50)))) (.expr (.append (.v 5) (.bW (.k (.v 8) (.k (.sb (.i 0) (.v 9)) (.k (.sb (.md (.ad (.fd (.v 7) (.i 5)) (.fd (.v 6) (.i 3))) (.i 2)) (.i 1)) (.t (.v 6) (.g (.v 4) (.v 8)))))))))))))) (.ret (.freeze (.v 5))))))
noncomputable def kg:Ss:=.k (.a 4 (.gp (.list .z) (.o (.v 1)) .none)) (.t (.forR (.name 5) (.o (.sb (.ad (.v 2) (.v 1)) (.i 1))) (.k (.a 6 (.freeze (.sorted (.freeze (.comp .cvar (.v 0) (.some (.cmp .eq (.g .cvar (.i 4)) (.v 5)))))))) (.k (.a 7 (.max (.i 0) (.ad (.sb (.v 5) (.v 2)) (.i 1)))) (.k (.a 8 (.freeze (.list (.o (.v 6))))) (.t (.b9 (.cmp .gt (.v 7) (.i 0)) (.o (.a 8 (.c (.of 26) (.t (.v 6) (.v 3))))) .z) (.forL (.name 9) (.v 8) (.o (.b9 (.cmp .gt (.len (.v 9)) (.i 0)) (.o (.expr (.append (.g (.v 4) (.v 7)) (.v 9)))) .z)))))))) (.ret (.freeze (.v 4))))
noncomputable def vg:Ss:=.k (.a 2 (.sum (.freeze (.comp (.len .cvar) (.v 0) .none)))) (.k (.a 3 (.freeze (.gp (.ad (.i 1) (.md (.ad (.v 1) (.ml (.i 4001) .cvar)) (.i 20011))) (.o (.v 2)) .none))) (.k (.a 4 (.len (.g (.v 0) (.i 0)))) (.k (.a 5 (.freeze (.slice (.v 3) (.some (.v 4)) .none))) (.t (.a 3 (.freeze (.sorted (.freeze (.slice (.v 3) .none (.some (.v 4))))))) (.ret (.freeze (.ad (.freeze (.gp (.g (.v 3) (.sb (.sb (.v 4) (.i 1)) .cvar)) (.o (.v 4)) .none)) (.v 5))))))))
noncomputable def lX:Ss:=.k (.a 1 (.comp .cvar (.g (.v 0) (.i 0)) .none)) (.t (.forL (.name 2) (.freeze (.slice (.v 0) (.some (.i 1)) .none)) (.k (.a 3 (.freeze (.list .z))) (.t (.forL (.name 4) (.v 2) (.o (.a 3 (.freeze (.ad (.v 3) (.v 4)))))) (.b9 (.cmp .gt (.len (.v 3)) (.i 0)) (.o (.expr (.append (.v 1) (.v 3)))) .z)))) (.ret (.freeze (.v 1))))
noncomputable def vp:Ss:=.t (.xE (.o (.b9 (.cmp .eq (.v 1) (.i 0)) (.o (.expr (.m (.v 0) (.of 1) .z))) (.o (.b9 (.cmp .eq (.v 1) (.i 1)) (.o (.expr (.m (.v 0) (.of 2) .z))) (.o (.b9 (.cmp .eq (.v 1) (.i 2)) (.o (.expr (.m (.v 0) (.of 3) .z))) (.o (.expr (.m (.v 0) (.of 4) .z))))))))) (.bool true)) (.ret (.lit (.bool false)))
noncomputable def yh:Ss:=.t (.b9 (.and (.t (.cmp .ge (.v 2) (.i 0)) (.cmp .lt (.v 2) (.len (.v 1))))) (.t (.a 3 (.g (.v 1) (.v 2))) (.ret (.and (.t (.m (.v 0) (.of 5) .z) (.cmp .eq (.bW (.t (.m (.v 0) (.of 3) .z) (.m (.v 0) (.of 4) .z))) (.bW (.t (.c (.of 21) (.o (.v 3))) (.c (.of 22) (.o (.v 3)))))))))) .z) (.ret (.and (.k (.not (.m (.v 0) (.of 5) .z)) (.t (.all (.freeze (.gp (.c (.of 31) (.t (.v 0) .cvar)) (.o (.i 4)) .none))) (.not (.m (.v 0) (.of 5) .z))))))
noncomputable def pU:Ss:=.k (.b9 (.not (.c (.of 32) (.k (.v 0) (.t (.v 1) (.sb (.i 0) (.i 1)))))) (.o (.ret (.lit (.bool false)))) .z) (.k (.expr (.m (.v 0) (.of 6) .z)) (.t (.forR (.name 2) (.o (.len (.v 1))) (.t (.b9 (.not (.c (.of 32) (.k (.v 0) (.t (.v 1) (.v 2))))) (.o (.ret (.lit (.bool false)))) .z) (.expr (.m (.v 0) (.of 1) .z)))) (.ret (.c (.of 32) (.k (.v 0) (.t (.v 1) (.len (.v 1))))))))
noncomputable def lF:Ss:=.k (.a 5 (.sb (.i 0) (.i 1))) (.t (.forR (.name 6) (.o (.i 5)) (.k (.a 7 (.c (.of 19) (.t (.v 2) (.ad (.v 3) (.v 6))))) (.k (.a 8 (.md (.ad (.ad (.v 7) (.ml (.i 2) (.v 6))) (.i 1)) (.i 5))) (.k (.b9 (.and (.t (.cmp .gt (.v 8) (.i 2)) (.or (.t (.cmp .lt (.v 5) (.i 0)) (.cmp .ge (.v 5) (.len (.v 1))))))) (.o (.a 8 (.sb (.v 8) (.i 2)))) .z) (.k (.a 9 (.g (.v 4) (.md (.fd (.v 7) (.i 25)) (.len (.v 4))))) (.k (.a 10 (.bW (.k (.md (.fd (.v 7) (.i 5)) (.i 5)) (.t (.sb (.ad (.g (.v 9) (.i 1)) (.md (.fd (.v 7) (.i 7)) (.i 3))) (.i 1)) (.sb (.i 0) (.md (.fd (.v 7) (.i 3)) (.i 2))))))) (.k (.b9 (.cmp .eq (.md (.fd (.v 7) (.i 11)) (.i 2)) (.i 0)) (.o (.a 10 (.ad (.slice (.v 9) .none (.some (.i 2))) (.bW (.o (.g (.v 10) (.i 2))))))) .z) (.t (.b9 (.cmp .eq (.v 8) (.i 0)) (.t (.expr (.m (.v 0) (.of 6) .z)) (.a 5 (.i 0))) (.o (.b9 (.cmp .eq (.v 8) (.i 1)) (.t (.expr (.m (.v 0) (.of 7) .z)) (.a 5 (.sb (.len (.v 1)) (.i 1)))) (.o (.b9 (.cmp .eq (.v 8) (.i 2)) (.t (.expr (.m (.v 0) (.of 8) (.o (.c (.of 21) (.o (.v 10)))))) (.a 5 (.len (.freeze (.comp .cvar (.v 1) (.some (.cmp .lt (.slice .cvar .none (.some (.i 3))) (.v 10)))))))) (.o (.b9 (.cmp .eq (.v 8) (.i 3)) (.t (.expr (.m (.v 0) (.of 1) .z)) (.a 5 (.ad (.v 5) (.i 1)))) (.t (.expr (.m (.v 0) (.of 2) .z)) (.a 5 (.sb (.v 5) (.i 1))))))))))) (.b9 (.not (.c (.of 32) (.k (.v 0) (.t (.v 1) (.v 5))))) (.o (.ret (.lit (.bool false)))) .z))))))))) (.ret (.lit (.bool true))))
noncomputable def oX:Ss:=.t (.forL (.name 3) (.v 0) (.o (.b9 (.and (.t (.cmp .eq (.g (.v 3) (.i 0)) (.v 1)) (.cmp .ge (.g (.v 3) (.i 1)) (.v 2)))) (.t (.b9 (.cmp .eq (.g (.v 3) (.i 2)) (.i 0)) (.o (.ret (.bW (.k (.lit (.bool true)) (.t (.i 0) (.lit (.bytes []))))))) .z) (.ret (.bW (.k (.lit (.bool true)) (.t (.i 1) (.c (.of 22) (.o (.v 3)))))))) .z))) (.ret (.bW (.k (.lit (.bool false)) (.t (.i 0) (.lit (.bytes []))))))
noncomputable def cB:Ss:=.k (.a 1 (.freeze (.comp (.md .cvar (.i 999983)) (.freeze (.slice (.v 0) .none (.some (.i 20)))) .none))) (.k (.b9 (.cmp .eq (.len (.v 1)) (.i 0)) (.o (.a 1 (.freeze (.list (.o (.i 0)))))) .z) (.k (.a 2 (.c (.of 19) (.t (.v 1) (.i 0)))) (.k (.a 3 (.g (.freeze (.list (.k (.i 3) (.t (.i 4) (.i 2))))) (.md (.v 2) (.i 3)))) (.k (.a 4 (.g (.freeze (.list (.k (.i 2) (.t (.i 1) (.i 3))))) (.md (.fd (.v 2) (.i 3)) (.i 3)))) (.k (.a 5 (.c (.of 27) (.k (.v 1) (.t (.ad (.i 5) (.md (.fd (.v 2) (.i 9)) (.i 4))) (.sb (.ad (.v 4) (.v 3)) (.i 1)))))) (.k (.a 6 (.c (.of 28) (.k (.v 5) (.k (.v 3) (.t (.v 4) (.fd (.v 2) (.i 36))))))) (.k (.a 7 (.c (.of 29) (.t (.v 6) (.fd (.c (.of 19) (.t (.v 1) (.i 1))) (.i 5))))) (.k (.a 8 (.cQ (.new (.of 2) .z))) (.k (.a 9 (.m (.new (.of 3) .z) (.of 9) .z)) (.k (.setAttr (.v 9) (.of 3) (.i 0)) (.k (.bI 9) (.k (.a 10 (.new (.of 10) (.k (.lit .none) (.t (.v 9) (.v 8))))) (.k (.a 11 (.new (.of 15) (.t (.v 3) (.v 8)))) (.k (.a 12 (.i 0)) (.k (.forR (.name 13) (.o (.v 3)) (.o (.forL (.name 14) (.g (.v 6) (.v 13)) (.k (.a 15 (.c (.of 25) (.o (.v 14)))) (.k (.a 16 (.g (.v 7) (.v 12))) (.k (.a 12 (.ad (.v 12) (.i 1))) (.k (.setItem (.f (.v 10) (.of 4)) (.v 16) (.cQ (.new (.of 8) (.k (.v 15) (.t (.v 9) (.v 8)))))) (.t (.a 17 (.cQ (.new (.of 12) (.k (.v 16) (.k (.len (.v 15)) (.t (.c (.of 21) (.o (.g (.v 14) (.i 0)))) (.c (.of 21) (.o (.g (.v 14) (.sb (.len (.v 14)) (.i 1))))))))))) (.b9 (.cmp .eq (.v 13) (.i 0)) (.o (.setItem (.f (.v 11) (.of 5)) (.i 0) (.ad (.freeze (.list (.o (.v 17)))) (.g (.f (.v 11) (.of 5)) (.i 0))))) (.o (.expr (.append (.g (.f (.v 11) (.of 5)) (.v 13)) (.v 17))))))))))))) (.k (.forL (.name 16) (.v 7) (.o (.forL (.name 18) (.freeze (.list (.k (.md (.v 16) (.i 128)) (.t (.ad (.i 128) (.md (.v 16) (.i 128))) (.fd (.v 16) (.i 128)))))) (.o (.b9 (.cmp .w6 (.v 18) (.f (.v 10) (.of 4))) (.o (.setItem (.f (.v 10) (.of 4)) (.v 18) (.g (.f (.v 10) (.of 4)) (.g (.v 7) (.i 0))))) .z))))) (.k (.bI 10) (.k (.bI 11) (.k (.expr (.m (.v 11) (.of 10) .z)) (.k (.a 19 (.c (.of 30) (.o (.v 6)))) (.k (.a 20 (.m (.v 11) (.of 11) (.o (.v 10)))) (.k (.b9 (.cmp .ne (.len (.v 20)) (.len (.v 19))) (.o (.ret (.lit (.bool false)))) .z) (.k (.forR (.name 21) (.o (.len (.v 19))) (.t (.b9 (.not (.c (.of 33) (.t (.g (.v 20) (.v 21)) (.g (.v 19) (.v 21))))) (.o (.ret (.lit (.bool false)))) .z) (.expr (.m (.g (.v 20) (.v 21)) (.of 6) .z)))) (.k (.a 22 (.m (.v 11) (.of 11) (.o (.v 10)))) (.k (.b9 (.not (.c (.of 32) (.k (.g (.v 22) (.sb (.len (.v 19)) (.i 1))) (.t (.g (.v 19) (.sb (.len (.v 19)) (.i 1))) (.sb (.i 0) (.i 1)))))) (.o (.ret (.lit (.bool false)))) .z) (.k (.forR (.name 23) (.o (.ite (.cmp .gt (.len (.v 1)) (.i 4)) (.i 2) (.i 1))) (.k (.a 21 (.sb (.len (.v 19)) (.i 1))) (.t (.b9 (.cmp .eq (.v 23) (.i 1)) (.o (.a 21 (.md (.c (.of 19) (.t (.v 1) (.i 10))) (.len (.v 19))))) .z) (.b9 (.not (.c (.of 34) (.k (.g (.v 22) (.v 21)) (.k (.g (.v 19) (.v 21)) (.k (.v 1) (.t (.sb (.i 11) (.ml (.i 5) (.v 23))) (.v 5))))))) (.o (.ret (.lit (.bool false)))) .z)))) (.k (.b9 (.not (.all (.freeze (.gp (.c (.of 32) (.k (.g (.v 20) .cvar) (.t (.g (.v 19) .cvar) (.i 0)))) (.o (.len (.v 19))) .none)))) (.o (.ret (.lit (.bool false)))) .z) (.t (.forR (.name 24) (.o (.ite (.cmp .gt (.len (.v 1)) (.i 2)) (.i 5) (.i 3))) (.k (.a 25 (.c (.of 19) (.t (.v 1) (.ad (.i 15) (.v 24))))) (.k (.a 26 (.md (.ad (.v 25) (.ml (.i 2) (.v 24))) (.i 5))) (.k (.a 27 (.sb (.ad (.g (.g (.v 5) (.md (.ad (.fd (.v 25) (.i 5)) (.v 24)) (.len (.v 5)))) (.i 1)) (.md (.fd (.v 25) (.i 50)) (.i 3))) (.i 1))) (.t (.a 28 (.m (.v 11) (.of 12) (.k (.v 10) (.t (.c (.of 20) (.o (.v 26))) (.sb (.i 0) (.v 27)))))) (.b9 (.or (.t (.cmp .ne (.v 28) (.c (.of 35) (.k (.v 5) (.t (.v 26) (.v 27))))) (.not (.isBool (.g (.v 28) (.i 0)))))) (.o (.ret (.lit (.bool false)))) .z)))))) (.ret (.lit (.bool true)))))))))))))))))))))))))))))))
noncomputable def sd:Ss:=.k (.b9 (.cmp .lt (.v 1) (.v 2)) (.o (.ret (.neg (.i 1)))) .z) (.t (.b9 (.cmp .gt (.v 1) (.v 2)) (.o (.ret (.i 1))) .z) (.ret (.i 0)))
noncomputable def kJ:Ss:=.o (.setAttr (.v 0) (.of 6) (.cQ (.new (.of 1) .z)))
noncomputable def jH:Ss:=.k (.a 3 (.m (.f (.v 0) (.of 6)) (.of 0) (.t (.c (.of 13) (.o (.v 1))) (.c (.of 13) (.o (.v 2)))))) (.k (.b9 (.cmp .ne (.v 3) (.i 0)) (.o (.ret (.v 3))) .z) (.k (.a 4 (.c (.of 14) (.o (.v 1)))) (.k (.a 5 (.c (.of 14) (.o (.v 2)))) (.k (.b9 (.cmp .gt (.v 4) (.v 5)) (.o (.ret (.neg (.i 1)))) .z) (.t (.b9 (.cmp .lt (.v 4) (.v 5)) (.o (.ret (.i 1))) .z) (.ret (.i 0)))))))
noncomputable def rM:Ss:=.k (.setAttr (.v 0) (.of 7) (.glob (.of 0))) (.k (.setAttr (.v 0) (.of 8) (.i 32768)) (.k (.setAttr (.v 0) (.of 9) (.lit (.bool true))) (.k (.setAttr (.v 0) (.of 10) (.lit (.bool true))) (.k (.setAttr (.v 0) (.of 11) (.lit (.bool false))) (.k (.setAttr (.v 0) (.of 12) (.i 4194304)) (.k (.setAttr (.v 0) (.of 13) (.i 12)) (.k (.setAttr (.v 0) (.of 14) (.bW (.k (.i 1) (.k (.i 2) (.k (.i 1) (.k (.i 3) (.k (.i 1) (.k (.i 2) (.t (.i 1) (.i 4)))))))))) (.k (.setAttr (.v 0) (.of 15) (.i 4096)) (.k (.setAttr (.v 0) (.of 16) (.i 16)) (.k (.setAttr (.v 0) (.of 3) (.i 10)) (.k (.setAttr (.v 0) (.of 17) (.i 11)) (.k (.setAttr (.v 0) (.of 18) (.i 2097152)) (.k (.setAttr (.v 0) (.of 19) (.i 7)) (.k (.setAttr (.v 0) (.of 20) (.i 4)) (.k (.setAttr (.v 0) (.of 21) (.i 12)) (.k (.setAttr (.v 0) (.of 22) (.i 10485760)) (.k (.setAttr (.v 0) (.of 23) (.i 10)) (.k (.setAttr (.v 0) (.of 24) (.i 2)) (.t (.setAttr (.v 0) (.of 25) (.i 10)) (.setAttr (.v 0) (.of 26) (.i 25)))))))))))))))))))))
noncomputable def uu:Ss:=.k (.setAttr (.v 0) (.of 7) (.glob (.of 1))) (.k (.setAttr (.v 0) (.of 8) (.i 32)) (.k (.setAttr (.v 0) (.of 12) (.i 96)) (.k (.setAttr (.v 0) (.of 13) (.i 4)) (.k (.setAttr (.v 0) (.of 15) (.i 48)) (.k (.setAttr (.v 0) (.of 16) (.i 2)) (.k (.setAttr (.v 0) (.of 3) (.i 4)) (.k (.setAttr (.v 0) (.of 17) (.i 5)) (.k (.setAttr (.v 0) (.of 18) (.i 128)) (.k (.setAttr (.v 0) (.of 19) (.i 4)) (.k (.setAttr (.v 0) (.of 20) (.i 2)) (.k (.setAttr (.v 0) (.of 21) (.i 4)) (.k (.setAttr (.v 0) (.of 22) (.i 256)) (.t (.setAttr (.v 0) (.of 23) (.i 2)) (.ret (.v 0)))))))))))))))
noncomputable def nA:Ss:=.k (.setAttr (.v 0) (.of 27) (.bytesOf (.v 1))) (.k (.setAttr (.v 0) (.of 28) (.v 2)) (.k (.a 3 (.len (.f (.v 0) (.of 27)))) (.k (.b9 (.cmp .lt (.v 3) (.i 4)) (.o .bad) .z) (.k (.a 4 (.c (.of 7) (.t (.f (.v 0) (.of 27)) (.sb (.v 3) (.i 4))))) (.k (.b9 (.cmp .lt (.v 4) (.i 1)) (.o .bad) .z) (.k (.b9 (.cmp .gt (.ml (.i 4) (.ad (.v 4) (.i 1))) (.v 3)) (.o .bad) .z) (.k (.setAttr (.v 0) (.of 29) (.sb (.v 3) (.ml (.i 4) (.ad (.v 4) (.i 1))))) (.t (.setAttr (.v 0) (.of 30) (.list .z)) (.forR (.name 5) (.o (.v 4)) (.k (.a 6 (.c (.of 7) (.t (.f (.v 0) (.of 27)) (.ad (.f (.v 0) (.of 29)) (.ml (.i 4) (.v 5)))))) (.t (.b9 (.cmp .eq (.v 5) (.i 0)) (.o (.b9 (.cmp .ne (.v 6) (.i 0)) (.o .bad) .z)) (.o (.b9 (.or (.t (.cmp .le (.v 6) (.g (.f (.v 0) (.of 30)) (.sb (.v 5) (.i 1)))) (.cmp .ge (.v 6) (.f (.v 0) (.of 29))))) (.o .bad) .z))) (.expr (.append (.f (.v 0) (.of 30)) (.v 6))))))))))))))
noncomputable def yk:Ss:=.o (.ret (.new (.of 5) (.o (.v 0))))
noncomputable def qz:Ss:=.k (.assign (.bW [2,3]) (.c (.of 4) (.t (.f (.v 0) (.of 27)) (.v 1)))) (.k (.assign (.bW [4,3]) (.c (.of 4) (.t (.f (.v 0) (.of 27)) (.v 3)))) (.k (.assign (.bW [5,3]) (.c (.of 4) (.t (.f (.v 0) (.of 27)) (.v 3)))) (.k (.a 6 (.ad (.v 3) (.v 4))) (.k (.a 7 (.ad (.v 6) (.v 5))) (.t (.b9 (.cmp .gt (.v 7) (.f (.v 0) (.of 29))) (.o .bad) .z) (.ret (.bW (.k (.v 2) (.k (.v 3) (.t (.v 6) (.v 7)))))))))))
noncomputable def pZ:Ss:=.k (.setAttr (.v 0) (.of 31) (.v 1)) (.k (.setAttr (.v 0) (.of 28) (.f (.v 1) (.of 28))) (.k (.setAttr (.v 0) (.of 32) (.f (.v 1) (.of 29))) (.k (.setAttr (.v 0) (.of 33) (.f (.v 1) (.of 29))) (.k (.setAttr (.v 0) (.of 34) (.i 0)) (.t (.setAttr (.v 0) (.of 35) (.lit (.bytes []))) (.setAttr (.v 0) (.of 36) (.i 0)))))))
noncomputable def qo:Ss:=.k (.setAttr (.v 0) (.of 32) (.f (.f (.v 0) (.of 31)) (.of 29))) (.t (.setAttr (.v 0) (.of 33) (.f (.f (.v 0) (.of 31)) (.of 29))) (.setAttr (.v 0) (.of 35) (.lit (.bytes []))))
noncomputable def qT:Ss:=.o (.b9 (.cmp .ge (.f (.v 0) (.of 32)) (.f (.f (.v 0) (.of 31)) (.of 29))) (.o .bad) .z)
noncomputable def pP:Ss:=.o (.ret (.cmp .lt (.f (.v 0) (.of 32)) (.f (.f (.v 0) (.of 31)) (.of 29))))
noncomputable def rF:Ss:=.t (.expr (.m (.v 0) (.of 13) .z)) (.ret (.f (.v 0) (.of 35)))
noncomputable def pR:Ss:=.t (.expr (.m (.v 0) (.of 13) .z)) (.ret (.slice (.f (.f (.v 0) (.of 31)) (.of 27)) (.some (.f (.v 0) (.of 36))) (.some (.f (.v 0) (.of 33)))))
noncomputable def j5:Ss:=.k (.expr (.m (.v 0) (.of 14) .z)) (.t (.setAttr (.v 0) (.of 34) (.v 1)) (.setAttr (.v 0) (.of 33) (.g (.f (.f (.v 0) (.of 31)) (.of 30)) (.v 1))))
noncomputable def jd:Ss:=.k (.a 1 (.f (.v 0) (.of 33))) (.k (.a 2 (.f (.v 0) (.of 35))) (.k (.expr (.m (.v 0) (.of 14) .z)) (.k (.b9 (.cmp .ge (.v 1) (.f (.f (.v 0) (.of 31)) (.of 29))) (.o (.ret (.lit (.bool false)))) .z) (.k (.assign (.bW [3,4,5,6]) (.m (.f (.v 0) (.of 31)) (.of 15) (.o (.v 1)))) (.k (.b9 (.cmp .gt (.v 3) (.len (.v 2))) (.o .bad) .z) (.k (.a 7 (.f (.f (.v 0) (.of 31)) (.of 30))) (.k (.while (.and (.t (.cmp .lt (.ad (.f (.v 0) (.of 34)) (.i 1)) (.len (.v 7))) (.cmp .le (.g (.v 7) (.ad (.f (.v 0) (.of 34)) (.i 1))) (.v 1)))) (.o (.iF (.v 0) (.of 34) .add (.i 1)))) (.k (.b9 (.and (.t (.cmp .eq (.v 1) (.g (.v 7) (.f (.v 0) (.of 34)))) (.cmp .ne (.v 3) (.i 0)))) (.o .bad) .z) (.k (.b9 (.and (.t (.cmp .lt (.ad (.f (.v 0) (.of 34)) (.i 1)) (.len (.v 7))) (.cmp .lt (.g (.v 7) (.ad (.f (.v 0) (.of 34)) (.i 1))) (.v 6)))) (.o .bad) .z) (.k (.setAttr (.v 0) (.of 35) (.ad (.slice (.v 2) .none (.some (.v 3))) (.slice (.f (.f (.v 0) (.of 31)) (.of 27)) (.some (.v 4)) (.some (.v 5))))) (.k (.setAttr (.v 0) (.of 36) (.v 5)) (.k (.setAttr (.v 0) (.of 32) (.v 1)) (.t (.setAttr (.v 0) (.of 33) (.v 6)) (.ret (.lit (.bool true))))))))))))))))
noncomputable def jQ:Ss:=.t (.expr (.m (.v 0) (.of 16) (.o (.i 0)))) (.expr (.m (.v 0) (.of 17) .z))
noncomputable def gO:Ss:=.k (.expr (.m (.v 0) (.of 16) (.o (.sb (.len (.f (.f (.v 0) (.of 31)) (.of 30))) (.i 1))))) (.t (.expr (.m (.v 0) (.of 17) .z)) (.while (.and (.t (.m (.v 0) (.of 5) .z) (.cmp .lt (.f (.v 0) (.of 33)) (.f (.f (.v 0) (.of 31)) (.of 29))))) (.o (.expr (.m (.v 0) (.of 17) .z)))))
noncomputable def qB:Ss:=.o (.rH (.o (.expr (.m (.v 0) (.of 18) (.o (.v 1))))))
noncomputable def dN:Ss:=.k (.a 2 (.i 0)) (.k (.a 3 (.sb (.len (.f (.f (.v 0) (.of 31)) (.of 30))) (.i 1))) (.k (.a 4 (.i 0)) (.k (.a 5 (.m (.v 0) (.of 5) .z)) (.k (.b9 (.v 5) (.k (.a 4 (.m (.f (.v 0) (.of 28)) (.of 0) (.t (.f (.v 0) (.of 35)) (.v 1)))) (.t (.b9 (.cmp .eq (.v 4) (.i 0)) (.o .tG) .z) (.b9 (.cmp .lt (.v 4) (.i 0)) (.o (.a 2 (.f (.v 0) (.of 34)))) (.o (.a 3 (.f (.v 0) (.of 34))))))) .z) (.k (.while (.cmp .lt (.v 2) (.v 3)) (.k .bad (.t .bad .bad))) (.t (.b9 (.not (.and (.k (.v 5) (.t (.cmp .lt (.v 4) (.i 0)) (.cmp .eq (.v 2) (.f (.v 0) (.of 34))))))) (.o (.expr (.m (.v 0) (.of 16) (.o (.v 2))))) .z) (.while (.m (.v 0) (.of 17) .z) (.o (.b9 (.cmp .ge (.m (.f (.v 0) (.of 28)) (.of 0) (.t (.f (.v 0) (.of 35)) (.v 1))) (.i 0)) (.o .tG) .z)))))))))
noncomputable def qh:Ss:=.t (.expr (.m (.v 0) (.of 13) .z)) (.expr (.m (.v 0) (.of 17) .z))
noncomputable def eV:Ss:=.k (.expr (.m (.v 0) (.of 13) .z)) (.k (.a 1 (.f (.v 0) (.of 32))) (.k (.a 2 (.f (.v 0) (.of 34))) (.k (.while (.cmp .ge (.g (.f (.f (.v 0) (.of 31)) (.of 30)) (.v 2)) (.v 1)) (.t (.b9 (.cmp .eq (.v 2) (.i 0)) (.t (.expr (.m (.v 0) (.of 14) .z)) .tG) .z) (.iO 2 .sub (.i 1)))) (.k (.expr (.m (.v 0) (.of 16) (.o (.v 2)))) (.t (.expr (.m (.v 0) (.of 17) .z)) (.while (.and (.t (.m (.v 0) (.of 5) .z) (.cmp .lt (.f (.v 0) (.of 33)) (.v 1)))) (.o (.expr (.m (.v 0) (.of 17) .z)))))))))
noncomputable def tK:Ss:=.t (.setAttr (.v 0) (.of 0) (.v 1)) (.setAttr (.v 0) (.of 1) (.v 2))
noncomputable def uQ:Ss:=.t (.setAttr (.v 0) (.of 37) (.v 1)) (.setAttr (.v 0) (.of 38) (.v 2))
noncomputable def vV:Ss:=.k (.setAttr (.v 0) (.of 27) (.bytesOf (.v 1))) (.k (.setAttr (.v 0) (.of 39) (.v 2)) (.k (.setAttr (.v 0) (.of 28) (.v 3)) (.k (.setAttr (.v 0) (.of 40) (.c (.of 17) (.o (.f (.v 0) (.of 27))))) (.k (.setAttr (.v 0) (.of 41) (.sb (.len (.f (.v 0) (.of 27))) (.glob (.of 2)))) (.k (.setAttr (.v 0) (.of 38) (.cQ (.new (.of 4) (.t (.m (.v 0) (.of 19) (.o (.f (.f (.v 0) (.of 40)) (.of 38)))) (.v 3))))) (.k (.setAttr (.v 0) (.of 42) (.lit .none)) (.k (.a 4 (.cQ (.new (.of 4) (.t (.m (.v 0) (.of 19) (.o (.f (.f (.v 0) (.of 40)) (.of 37)))) (.cQ (.new (.of 1) .z)))))) (.t (.b9 (.cmp .gt (.f (.v 2) (.of 3)) (.i 0)) (.o .bad) .z) (.b9 (.f (.v 2) (.of 11)) (.o .bad) .z)))))))))
noncomputable def nT:Ss:=.t (.b9 (.cmp .gt (.ad (.ad (.f (.v 1) (.of 0)) (.f (.v 1) (.of 1))) (.glob (.of 13))) (.f (.v 0) (.of 41))) (.o .bad) .z) (.ret (.c (.of 16) (.k (.f (.v 0) (.of 27)) (.t (.v 1) (.f (.f (.v 0) (.of 39)) (.of 7))))))
noncomputable def kT:Ss:=.k (.assign (.bW [2,3]) (.c (.of 15) (.t (.v 1) (.i 0)))) (.t (.b9 (.cmp .ne (.v 3) (.len (.v 1))) (.o .bad) .z) (.ret (.v 2)))
noncomputable def oj:Ss:=.t (.a 2 (.m (.v 0) (.of 19) (.o (.m (.v 0) (.of 20) (.o (.v 1)))))) (.ret (.m (.cQ (.new (.of 4) (.t (.v 2) (.f (.v 0) (.of 28))))) (.of 21) .z))
noncomputable def xu:Ss:=.o (.ret (.new (.of 9) (.t (.m (.f (.v 0) (.of 38)) (.of 21) .z) (.v 0))))
noncomputable def BC:Ss:=.k (.a 2 (.m (.f (.v 0) (.of 38)) (.of 21) .z)) (.k (.expr (.m (.v 2) (.of 8) (.o (.v 1)))) (.k (.b9 (.not (.m (.v 2) (.of 5) .z)) (.o (.ret (.lit .none))) .z) (.k (.a 3 (.m (.v 2) (.of 4) .z)) (.k (.b9 (.cmp .nc (.f (.v 0) (.of 42)) (.lit .none)) (.t .bad .bad) .z) (.k (.a 5 (.m (.v 0) (.of 22) (.o (.v 3)))) (.k (.expr (.m (.v 5) (.of 8) (.o (.v 1)))) (.t (.b9 (.not (.m (.v 5) (.of 5) .z)) (.o (.ret (.lit .none))) .z) (.ret (.bW (.t (.m (.v 5) (.of 3) .z) (.m (.v 5) (.of 4) .z)))))))))))
noncomputable def lz:Ss:=.k (.setAttr (.v 0) (.of 43) (.v 1)) (.k (.setAttr (.v 0) (.of 44) (.v 2)) (.t (.setAttr (.v 0) (.of 45) (.lit .none)) (.setAttr (.v 0) (.of 46) (.lit (.bytes [])))))
noncomputable def lq:Ss:=.o (.ret (.and (.t (.cmp .nc (.f (.v 0) (.of 45)) (.lit .none)) (.m (.f (.v 0) (.of 45)) (.of 5) .z))))
noncomputable def mU:Ss:=.o (.b9 (.not (.m (.v 0) (.of 5) .z)) (.o .raise) .z)
noncomputable def oF:Ss:=.t (.expr (.m (.v 0) (.of 13) .z)) (.ret (.m (.f (.v 0) (.of 45)) (.of 3) .z))
noncomputable def kX:Ss:=.t (.expr (.m (.v 0) (.of 13) .z)) (.ret (.m (.f (.v 0) (.of 45)) (.of 4) .z))
noncomputable def lB:Ss:=.k (.a 1 (.f (.v 0) (.of 45))) (.t (.setAttr (.v 0) (.of 45) (.lit .none)) (.ret (.v 1)))
noncomputable def lY:Ss:=.k (.b9 (.not (.m (.f (.v 0) (.of 43)) (.of 5) .z)) (.o .tG) .z) (.k (.a 2 (.m (.f (.v 0) (.of 43)) (.of 4) .z)) (.k (.b9 (.and (.t (.cmp .nc (.v 1) (.lit .none)) (.cmp .eq (.v 2) (.f (.v 0) (.of 46))))) (.t (.setAttr (.v 0) (.of 45) (.v 1)) .tG) .z) (.t (.setAttr (.v 0) (.of 45) (.m (.f (.v 0) (.of 44)) (.of 22) (.o (.v 2)))) (.setAttr (.v 0) (.of 46) (.v 2)))))
noncomputable def eZ:Ss:=.o (.while (.and (.t (.m (.f (.v 0) (.of 43)) (.of 5) .z) (.not (.m (.v 0) (.of 5) .z)))) (.k (.a 1 (.m (.v 0) (.of 23) .z)) (.k (.expr (.m (.f (.v 0) (.of 43)) (.of 1) .z)) (.t (.expr (.m (.v 0) (.of 24) (.o (.v 1)))) (.b9 (.cmp .nc (.f (.v 0) (.of 45)) (.lit .none)) (.o (.expr (.m (.f (.v 0) (.of 45)) (.of 6) .z))) .z)))))
noncomputable def eN:Ss:=.o (.while (.and (.t (.m (.f (.v 0) (.of 43)) (.of 5) .z) (.not (.m (.v 0) (.of 5) .z)))) (.k (.a 1 (.m (.v 0) (.of 23) .z)) (.k (.expr (.m (.f (.v 0) (.of 43)) (.of 2) .z)) (.t (.expr (.m (.v 0) (.of 24) (.o (.v 1)))) (.b9 (.cmp .nc (.f (.v 0) (.of 45)) (.lit .none)) (.o (.expr (.m (.f (.v 0) (.of 45)) (.of 7) .z))) .z)))))
noncomputable def i9:Ss:=.k (.a 1 (.m (.v 0) (.of 23) .z)) (.k (.expr (.m (.f (.v 0) (.of 43)) (.of 6) .z)) (.k (.expr (.m (.v 0) (.of 24) (.o (.v 1)))) (.t (.b9 (.cmp .nc (.f (.v 0) (.of 45)) (.lit .none)) (.o (.expr (.m (.f (.v 0) (.of 45)) (.of 6) .z))) .z) (.expr (.m (.v 0) (.of 25) .z)))))
noncomputable def jm:Ss:=.k (.a 1 (.m (.v 0) (.of 23) .z)) (.k (.expr (.m (.f (.v 0) (.of 43)) (.of 7) .z)) (.k (.expr (.m (.v 0) (.of 24) (.o (.v 1)))) (.t (.b9 (.cmp .nc (.f (.v 0) (.of 45)) (.lit .none)) (.o (.expr (.m (.f (.v 0) (.of 45)) (.of 7) .z))) .z) (.expr (.m (.v 0) (.of 26) .z)))))
noncomputable def mS:Ss:=.k (.a 2 (.m (.v 0) (.of 23) .z)) (.k (.expr (.m (.f (.v 0) (.of 43)) (.of 8) (.o (.v 1)))) (.k (.expr (.m (.v 0) (.of 24) (.o (.v 2)))) (.t (.b9 (.cmp .nc (.f (.v 0) (.of 45)) (.lit .none)) (.o (.expr (.m (.f (.v 0) (.of 45)) (.of 8) (.o (.v 1))))) .z) (.expr (.m (.v 0) (.of 25) .z)))))
noncomputable def mV:Ss:=.k (.expr (.m (.v 0) (.of 13) .z)) (.t (.expr (.m (.f (.v 0) (.of 45)) (.of 1) .z)) (.expr (.m (.v 0) (.of 25) .z)))
noncomputable def mT:Ss:=.k (.expr (.m (.v 0) (.of 13) .z)) (.t (.expr (.m (.f (.v 0) (.of 45)) (.of 2) .z)) (.expr (.m (.v 0) (.of 26) .z)))
noncomputable def nZ:Ss:=.k (.setAttr (.v 0) (.of 47) (.v 1)) (.k (.setAttr (.v 0) (.of 39) (.v 2)) (.t (.setAttr (.v 0) (.of 28) (.v 3)) (.setAttr (.v 0) (.of 4) .ru)))
noncomputable def oA:Ss:=.t (.b9 (.cmp .w6 (.v 1) (.f (.v 0) (.of 4))) (.t .bad .bad) .z) (.ret (.g (.f (.v 0) (.of 4)) (.v 1)))
noncomputable def qj:Ss:=.o (.ret (.m (.m (.v 0) (.of 27) (.o (.v 1))) (.of 12) (.o (.v 2))))
noncomputable def pI:Ss:=.o (.ret (.m (.m (.v 0) (.of 27) (.o (.v 1))) (.of 21) .z))
noncomputable def qN:Ss:=.k (.setAttr (.v 0) (.of 48) (.v 1)) (.t (.setAttr (.v 0) (.of 28) (.v 2)) (.setAttr (.v 0) (.of 46) (.neg (.i 1))))
noncomputable def qA:Ss:=.o (.ret (.and (.t (.cmp .le (.i 0) (.f (.v 0) (.of 46))) (.cmp .lt (.f (.v 0) (.of 46)) (.len (.f (.v 0) (.of 48)))))))
noncomputable def rW:Ss:=.o (.b9 (.not (.m (.v 0) (.of 5) .z)) (.o .bad) .z)
noncomputable def kP:Ss:=.o (.setAttr (.v 0) (.of 46) (.i 0))
noncomputable def kU:Ss:=.o (.setAttr (.v 0) (.of 46) (.sb (.len (.f (.v 0) (.of 48))) (.i 1)))
noncomputable def kG:Ss:=.k (.a 2 (.i 0)) (.k (.a 3 (.len (.f (.v 0) (.of 48)))) (.t (.while (.cmp .lt (.v 2) (.v 3)) (.t (.a 4 (.fd (.ad (.v 2) (.v 3)) (.i 2))) (.b9 (.cmp .lt (.m (.f (.v 0) (.of 28)) (.of 0) (.t (.m (.v 0) (.of 28) (.o (.v 4))) (.v 1))) (.i 0)) (.o (.a 2 (.ad (.v 4) (.i 1)))) (.o (.a 3 (.v 4)))))) (.setAttr (.v 0) (.of 46) (.v 2))))
noncomputable def rX:Ss:=.t (.expr (.m (.v 0) (.of 13) .z)) (.iF (.v 0) (.of 46) .add (.i 1))
noncomputable def rZ:Ss:=.t (.expr (.m (.v 0) (.of 13) .z)) (.iF (.v 0) (.of 46) .sub (.i 1))
noncomputable def qt:Ss:=.t (.expr (.m (.v 0) (.of 13) .z)) (.ret (.m (.v 0) (.of 29) (.o (.f (.v 0) (.of 46)))))
noncomputable def qy:Ss:=.k (.setAttr (.v 0) (.of 49) (.v 1)) (.k (.setAttr (.v 0) (.of 1) (.v 2)) (.t (.setAttr (.v 0) (.of 50) (.v 3)) (.setAttr (.v 0) (.of 2) (.v 4))))
noncomputable def mO:Ss:=.o (.ret (.f (.g (.f (.v 0) (.of 48)) (.v 1)) (.of 2)))
noncomputable def kO:Ss:=.o (.ret (.c (.of 2) (.o (.f (.g (.f (.v 0) (.of 48)) (.v 1)) (.of 49)))))
noncomputable def oE:Ss:=.o (.setAttr (.v 0) (.of 51) (.v 1))
noncomputable def jx:Ss:=.t (.assign (.bW [2,3]) (.c (.of 3) (.t (.v 1) (.i 0)))) (.ret (.m (.f (.v 0) (.of 51)) (.of 21) (.o (.v 2))))
noncomputable def kj:Ss:=.k (.setAttr (.v 0) (.of 19) (.v 1)) (.k (.setAttr (.v 0) (.of 28) (.v 2)) (.k (.setAttr (.v 0) (.of 5) (.list .z)) (.k (.forR (.name 3) (.o (.v 1)) (.o (.expr (.append (.f (.v 0) (.of 5)) (.list .z))))) (.k (.setAttr (.v 0) (.of 52) (.i 0)) (.t (.setAttr (.v 0) (.of 53) (.bW (.t (.i 0) (.i 1)))) (.setAttr (.v 0) (.of 54) (.neg (.i 1))))))))
noncomputable def eK:Ss:=.k (.a 2 (.c (.of 13) (.o (.v 1)))) (.k (.a 3 (.list .z)) (.k (.a 4 (.g (.f (.v 0) (.of 5)) (.i 0))) (.k (.forR (.name 5) (.k (.sb (.len (.v 4)) (.i 1)) (.t (.neg (.i 1)) (.neg (.i 1)))) (.t (.a 6 (.g (.v 4) (.v 5))) (.b9 (.and (.t (.cmp .le (.c (.of 13) (.o (.f (.v 6) (.of 50)))) (.v 2)) (.cmp .le (.v 2) (.c (.of 13) (.o (.f (.v 6) (.of 2))))))) (.o (.expr (.append (.v 3) (.bW (.t (.i 0) (.v 6)))))) .z))) (.t (.forR (.name 7) (.t (.i 1) (.f (.v 0) (.of 19))) (.k (.a 8 (.g (.f (.v 0) (.of 5)) (.v 7))) (.t (.a 5 (.c (.of 18) (.k (.v 8) (.t (.v 1) (.f (.v 0) (.of 28)))))) (.b9 (.and (.t (.cmp .lt (.v 5) (.len (.v 8))) (.cmp .le (.c (.of 13) (.o (.f (.g (.v 8) (.v 5)) (.of 50)))) (.v 2)))) (.o (.expr (.append (.v 3) (.bW (.t (.v 7) (.g (.v 8) (.v 5))))))) .z)))) (.ret (.freeze (.v 3)))))))
noncomputable def ni:Ss:=.k (.a 4 (.c (.of 11) (.k (.v 2) (.t (.v 3) (.glob (.of 5)))))) (.t (.forL (.bW [5,6]) (.m (.v 0) (.of 30) (.o (.v 4))) (.k (.a 7 (.m (.v 1) (.of 12) (.t (.f (.v 6) (.of 49)) (.v 4)))) (.k (.b9 (.cmp .is_ (.v 7) (.lit .none)) (.o .cont) .z) (.t (.assign (.bW [8,9,10]) (.c (.of 12) (.o (.g (.v 7) (.i 0))))) (.b9 (.cmp .eq (.v 8) (.v 2)) (.t (.b9 (.cmp .eq (.v 10) (.glob (.of 4))) (.o (.ret (.bW (.k (.lit (.bool true)) (.t (.glob (.of 4)) (.lit (.bytes []))))))) .z) (.ret (.bW (.k (.lit (.bool true)) (.t (.glob (.of 6)) (.g (.v 7) (.i 1))))))) .z))))) (.ret (.bW (.k (.lit (.bool false)) (.t (.i 0) (.lit (.bytes [])))))))
noncomputable def gz:Ss:=.k (.a 1 (.list .z)) (.t (.forL (.name 2) (.f (.v 0) (.of 5)) (.o (.forL (.name 3) (.v 2) (.o (.expr (.append (.v 1) (.f (.v 3) (.of 49)))))))) (.ret (.freeze (.sorted (.v 1)))))
noncomputable def fj:Ss:=.k (.a 2 (.list .z)) (.k (.forR (.name 3) (.k (.sb (.len (.g (.f (.v 0) (.of 5)) (.i 0))) (.i 1)) (.t (.neg (.i 1)) (.neg (.i 1)))) (.o (.expr (.append (.v 2) (.m (.v 1) (.of 21) (.o (.f (.g (.g (.f (.v 0) (.of 5)) (.i 0)) (.v 3)) (.of 49)))))))) (.t (.forR (.name 4) (.t (.i 1) (.f (.v 0) (.of 19))) (.o (.b9 (.cmp .gt (.len (.g (.f (.v 0) (.of 5)) (.v 4))) (.i 0)) (.t (.a 5 (.new (.of 13) (.t (.g (.f (.v 0) (.of 5)) (.v 4)) (.f (.v 0) (.of 28))))) (.expr (.append (.v 2) (.new (.of 9) (.t (.v 5) (.cQ (.new (.of 14) (.o (.v 1))))))))) .z))) (.ret (.freeze (.v 2)))))
noncomputable def iy:Ss:=.k (.a 1 (.m (.v 0) (.of 31) .z)) (.t (.forR (.name 2) (.t (.i 1) (.len (.v 1))) (.o (.b9 (.cmp .eq (.g (.v 1) (.sb (.v 2) (.i 1))) (.g (.v 1) (.v 2))) (.o .bad) .z))) (.forR (.name 3) (.o (.f (.v 0) (.of 19))) (.t (.a 4 (.g (.f (.v 0) (.of 5)) (.v 3))) (.forR (.name 2) (.o (.len (.v 4))) (.k (.a 5 (.g (.v 4) (.v 2))) (.k (.b9 (.cmp .gt (.m (.f (.v 0) (.of 28)) (.of 0) (.t (.f (.v 5) (.of 50)) (.f (.v 5) (.of 2)))) (.i 0)) (.o .bad) .z) (.k (.b9 (.cmp .eq (.v 2) (.i 0)) (.o .cont) .z) (.t (.a 6 (.g (.v 4) (.sb (.v 2) (.i 1)))) (.b9 (.cmp .eq (.v 3) (.i 0)) (.o (.b9 (.cmp .ge (.f (.v 6) (.of 49)) (.f (.v 5) (.of 49))) (.o .bad) .z)) (.o (.b9 (.cmp .ge (.c (.of 13) (.o (.f (.v 6) (.of 2)))) (.c (.of 13) (.o (.f (.v 5) (.of 50))))) (.o .bad) .z)))))))))))
noncomputable def nk (x:Fn):Ss:=[lE,nv,xC,vt,rN,vn,vU,uU,tU,C0,Ci,Ay,yM,GI,Hr,vX,ze,vG,rf,Cf,CG,Cj,Af,wZ,yS,pJ,rg,nu,kg,vg,lX,vp,yh,pU,lF,oX,cB,sd,kJ,jH,rM,uu,nA,yk,qz,pZ,qo,qT,pP,rF,pR,j5,jd,jQ,gO,qB,dN,qh,eV,tK,uQ,vV,nT,kT,oj,xu,BC,lz,lq,mU,oF,kX,lB,lY,eZ,eN,i9,jm,mS,mV,mT,nZ,oA,qj,pI,qN,qA,rW,kP,kU,kG,rX,rZ,qt,qy,mO,kO,oE,jx,kj,eK,ni,gz,fj,iy].getD x.n.val .nil
noncomputable def b8 (x:Fn):Nat×Nat:=[(2,3),(4,8),(1,1),(2,2),(2,2),(1,1),(1,1),(2,2),(2,2),(2,2),(2,2),(3,3),(1,4),(1,1),(1,1),(2,4),(3,5),(1,6),(3,6),(2,2),(1,1),(1,1),(1,1),(1,2),(1,2),(1,11),(2,5),(3,10),(4,10),(2,6),(1,5),(2,2),(3,4),(2,3),(5,11),(3,4),(1,29),(3,3),(1,1),(3,6),(1,1),(1,1),(3,7),(1,1),(2,8),(2,2),(1,1),(1,1),(1,1),(1,1),(1,1),(2,2),(1,8),(1,1),(1,1),(2,2),(2,8),(1,1),(1,3),(3,3),(3,3),(4,5),(2,2),(2,4),(2,3),(1,1),(2,6),(3,3),(1,1),(1,1),(1,1),(1,1),(1,2),(2,3),(1,2),(1,2),(1,2),(1,2),(2,3),(1,1),(1,1),(4,4),(2,3),(3,3),(2,2),(3,3),(1,1),(1,1),(1,1),(1,1),(2,5),(1,1),(1,1),(1,1),(5,5),(2,2),(2,2),(2,2),(2,4),(3,4),(2,9),(4,11),(1,4),(2,6),(1,7)].getD x.n.val ((0,0))
structure U where
 h:Nat->Option gm
 n:Nat
noncomputable def U.set (Y:U) (x:Nat) (o:gm):U:=⟨λy=>if y=x then some o else Y.h y,Y.n⟩
noncomputable def U.del (Y:U) (x:Nat):U:=⟨λy=>if y=x then none else Y.h y,Y.n⟩
noncomputable def U.new (Y:U) (o:gm):U:=⟨λy=>if y=Y.n then some o else Y.h y,Y.n+1⟩
structure St where
 ls:List J
 hs:U
inductive aA (τ α:Type) where|ok (a:α) (s:τ)|exc (s:τ)|bad
noncomputable abbrev aA.ctorIdx {τ α:Type} (x:aA τ α):Nat:= @aA.casesOn τ α (λz=>Nat) x (λz z=>0) (λz=>1) 2
noncomputable def aA.bind {τ α β:Type} (x:aA τ α) (f:α->τ->aA τ β):aA τ β:=match x with
 | .ok a s=>f a s
 | .exc s=>.exc s
 | .bad=>.bad
noncomputable def aA.cC {τ α:Type} (s:τ):Option α->aA τ α
 |some a=>.ok a s
 |none=>.bad
inductive bw where|next|ret (v:J)|cont
noncomputable abbrev bw.ctorIdx (x:bw):Nat:= @bw.casesOn (λz=>Nat) x 0 (λz=>1) 2
noncomputable def blt:List UInt8->List UInt8->Bool
 |_,[]=>false
 |[],_::_=>true
 |a::x,b::y=>if a=b then blt x y else decide (a<b)
noncomputable def H8:List J->List J->Option Bool
 |_,[]=>some false
 |[],_::_=>some true
 | .int a::x,.int b::y=>if a=b then H8 x y else some (decide (a<b))
 |_,_=>none
noncomputable def Rc (a b:J):Option Bool:=match a with
 | .int a=>(match b with
  | .int b=>some (decide (a=b))
  |_=>none)
 | .bool a=>(match b with
  | .bool b=>some (a==b)
  |_=>none)
 | .bytes a=>(match b with
  | .bytes b=>some (decide (a=b))
  |_=>none)
 |_=>none
noncomputable def Jd:List J->List J->Option Bool
 |[],[]=>some true
 |a::x,b::y=>match Rc a b with
  |some true=>Jd x y
  |some false=>if x.length=y.length then some false else none
  |none=>none
 |_,_=>none
noncomputable def small (a:Int):Bool:=decide (a.natAbs<2^64)
noncomputable def iop:BinOp->Int->Int->Option Int
 | .add,a,b=>some (a+b)
 | .sub,a,b=>some (a-b)
 | .mul,a,b=>if small a||small b then some (a*b) else none
 | .fdiv,a,b=>if decide (0<b)&&small b then some (a/b) else none
 | .mod,a,b=>if 0<b then some (a%b) else none
 | .pow,a,b=>if small a&&decide (0<=b)&&decide (b<=64) then some (a^b.toNat) else none
 | .band,a,b=>if decide (0<=a)&&decide (0<=b) then some ((a.toNat&&&b.toNat:Nat):Int) else none
 | .bor,a,b=>if decide (0<=a)&&decide (0<=b) then some ((a.toNat|||b.toNat:Nat):Int) else none
 | .shl,a,b=>if small a&&decide (0<=b)&&decide (b<=64) then some (a*2^b.toNat) else none
 | .shr,a,b=>if decide (0<=a)&&decide (0<=b) then some (a/2^b.toNat) else none
 | .bxor,_,_=>none
noncomputable def bop (op:BinOp) (a b:List UInt8):Option (List UInt8):=match op with
 | .add=>if a.length+b.length<=4096 then some (a++b) else none
 |_=>none
noncomputable def aam (op:BinOp) (a b:List J):Option (List J):=match op with
 | .add=>if !a.isEmpty&& !b.isEmpty&&decide (a.length+b.length<=4096) then some (a++b) else none
 |_=>none
noncomputable def gK (op:BinOp) (a b:J):Option J:=match a with
 | .int a=>(match b with
  | .int b=>(iop op a b).map .int
  |_=>none)
 | .bytes a=>(match b with
  | .bytes b=>(bop op a b).map .bytes
  |_=>none)
 | .bW a=>(match b with
  | .bW b=>(aam op a b).map .bW
  |_=>none)
 |_=>none
noncomputable def jop:BinOp->Int->Int->Option Int
 | .add,a,b=>some (a+b)
 | .sub,a,b=>some (a-b)
 | .bor,a,b=>if decide (0<=a)&&decide (0<=b) then some ((a.toNat|||b.toNat:Nat):Int) else none
 | .shr,a,b=>if decide (0<=a)&&decide (0<=b) then some (a/2^b.toNat) else none
 |_,_,_=>none
noncomputable def tF (op:BinOp) (a b:J):Option J:=match a with
 | .int a=>(match b with
  | .int b=>(jop op a b).map .int
  |_=>none)
 |_=>none
noncomputable def abN:vB->Int->Int->Option Bool
 | .eq,a,b=>some (decide (a=b))
 | .ne,a,b=>some (decide (a≠b))
 | .lt,a,b=>some (decide (a<b))
 | .le,a,b=>some (decide (a<=b))
 | .gt,a,b=>some (decide (b<a))
 | .ge,a,b=>some (decide (b<=a))
 |_,_,_=>none
noncomputable def aaR:vB->List UInt8->List UInt8->Option Bool
 | .eq,a,b=>some (decide (a=b))
 | .ne,a,b=>some (decide (a≠b))
 | .lt,a,b=>some (blt a b)
 | .le,a,b=>some (!blt b a)
 | .gt,a,b=>some (blt b a)
 | .ge,a,b=>some (!blt a b)
 |_,_,_=>none
noncomputable def aaf:vB->List J->List J->Option Bool
 | .lt,a,b=>H8 a b
 | .eq,a,b=>Jd a b
 | .ne,a,b=>(Jd a b).map (!·)
 |_,_,_=>none
noncomputable def Sb (a:J):Option Bool:=match a with
 | .none=>some true
 | .ah=>none
 |_=>some false
noncomputable def ads (op:vB) (a:J):Option Bool:=match op with
 | .is_=>Sb a
 | .nc=>(Sb a).map (!·)
 |_=>none
noncomputable def aae (op:vB) (a b:J):Option Bool:=match b with
 | .none=>ads op a
 | .int b=>(match a with
  | .int a=>abN op a b
  |_=>none)
 | .bytes b=>(match a with
  | .bytes a=>aaR op a b
  |_=>none)
 | .bW b=>(match a with
  | .bW a=>aaf op a b
  |_=>none)
 |_=>none
noncomputable def items (Y:U):J->Option (List J)
 | .O l=>some l
 | .ref x=>match Y.h x with
  |some (.O l)=>some l
  |_=>none
 |_=>none
noncomputable def rows (Y:U):J->Option (List (Int×J))
 | .gU l=>some l
 | .ref x=>match Y.h x with
  |some (.gU l)=>some l
  |_=>none
 |_=>none
noncomputable def oz (Y:U) (op:BinOp) (x y:J):Option (List J):=match op with
 | .add=>(items Y x).bind λl=>(items Y y).map λr=>l++r
 |_=>none
noncomputable def fieldsOf (Y:U):J->Option (Cl×List (Fd×J))
 | .obj C fs=>some (C,fs)
 | .aI C x=>match Y.h x with
  |some (.cj fs)=>some (C,fs)
  |_=>none
 |_=>none
noncomputable def o8 (f:Fd):List (Fd×J)->Option J
 |[]=>none
 |(g,v)::r=>if f=g then some v else o8 f r
noncomputable def AP (Y:U) (x:J) (f:Fd):Option J:=(fieldsOf Y x).bind λy=>if uD y.1 f then o8 f y.2 else none
noncomputable def kI (f:Fd) (v:J):List (Fd×J)->List (Fd×J)
 |[]=>[(f,v)]
 |(g,u)::r=>if f=g then (g,v)::r else (g,u)::kI f v r
noncomputable def getD (k:Int):List (Int×J)->Option J
 |[]=>none
 |(j,v)::r=>if k=j then some v else getD k r
noncomputable def rt (Y:U) (op:vB) (x y:J):Option Bool:=match op with
 | .in_=>(match x with
  | .int k=>(rows Y y).map λl=>(getD k l).isSome
  |_=>none)
 | .w6=>(match x with
  | .int k=>(rows Y y).map λl=>(getD k l).isNone
  |_=>none)
 |op=>aae op x y
noncomputable def gJ (k:Int) (v:J):List (Int×J)->List (Int×J)
 |[]=>[(k,v)]
 |(j,u)::r=>if k=j then (j,v)::r else (j,u)::gJ k v r
noncomputable def itemAt {α:Type} (l:List α) (i:Int):Option α:=if 0<=i then l[i.toNat]? else none
noncomputable def cz (Y:U) (a i:J):Option J:=match i with
 | .int i=>match a with
  | .bytes b=>(itemAt b i).map λu=>.int u.toNat
  | .bW l=>itemAt l i
  | .O l=>itemAt l i
  | .gU l=>getD i l
  | .ref x=>match Y.h x with
   |some (.O l)=>itemAt l i
   |some (.gU l)=>getD i l
   |_=>none
  |_=>none
 |_=>none
noncomputable def cut {α:Type} (l:List α) (lo:Int) (hi:Option Int):List α:=((match hi with
 |some h=>l.take h.toNat
 |none=>l)).drop lo.toNat
noncomputable def FQ (o:Option J):Option (Option Int):=match o with
 |none=>some none
 |some (.int i)=>if 0<=i then some (some i) else none
 |_=>none
noncomputable def cN (Y:U) (a:J) (lo hi:Option J):Option (J⊕List J):=match FQ lo,FQ hi with
 |some lo,some hi=>match a with
  | .bytes b=>some (.inl (.bytes (cut b (lo.getD 0) hi)))
  | .bW l=>match lo,hi with
   |none,some h=>if 0<h/\h<l.length then some (.inl (.bW (l.take h.toNat))) else none
   |_,_=>none
  |a=>(items Y a).bind λl=>match lo,hi with
   |none,some h=>some (.inr (l.take h.toNat))
   |some h,none=>some (.inr (l.drop h.toNat))
   |_,_=>none
 |_,_=>none
noncomputable def fV:List J->Option (List Int)
 |[]=>some []
 | .int i::r=>(fV r).map (i:: ·)
 |_=>none
noncomputable def iD:List J->Option (List Bool)
 |[]=>some []
 | .bool i::r=>(iD r).map (i:: ·)
 |_=>none
noncomputable def octets:List Int->Option (List UInt8)
 |[]=>some []
 |i::r=>if 0<=i/\i<256 then (octets r).map (SH i.toNat:: ·) else none
noncomputable def IX (Y:U):J->Option Int
 | .bytes b=>some b.length
 | .bW l=>some l.length
 |a=>(items Y a).map λl=>(l.length:Int)
noncomputable def iB (Y:U):J->Option (List UInt8)
 | .bytes b=>some b
 | .int i=>if 0<=i/\i<=4096 then some (Tf i.toNat 0) else none
 | .ref x=>match Y.h x with
  |some (.bar b)=>some b
  |some (.O l)=>(fV l).bind octets
  |_=>none
 | .O l=>(fV l).bind octets
 |_=>none
noncomputable def FP (Y:U):J->Option Int
 | .bytes b=>some ((b.map λu=>(u.toNat:Int)).sum)
 |a=>((items Y a).bind fV).map List.sum
noncomputable def Ie:J->J->Option Bool
 | .int a,.int b=>some (decide (a<b))
 | .bW a,.bW b=>H8 a b
 |_,_=>none
noncomputable def dh {α:Type} (l:List J):PySem.W.KasT α->Option α
 | .ret a=>some a
 | .ask i j k=>match l[i]?,l[j]? with
  |some a,some b=>match Ie a b with
   |some c=>dh l (k c)
   |none=>none
  |_,_=>none
set_option smartUnfolding false in theorem mj {α:Type} {l:List J} {i j:Nat} {k:Bool->PySem.W.KasT α}:dh l (.ask i j k)=(match l[i]?,l[j]? with
 |some a,some b=>(match Ie a b with
  |some c=>dh l (k c)
  |none=>none)
 |_,_=>none):=rfl
noncomputable def picks (l:List J):List Nat->Option (List J)
 |[]=>some []
 |i::r=>match l[i]? with
  |some a=>(picks l r).map (a:: ·)
  |none=>none
noncomputable def isInt:J->Bool
 | .int _=>true
 |_=>false
noncomputable def ux:J->Bool
 | .bW (.int _::_)=>true
 |_=>false
noncomputable def kh (l:List J):Option (List J):=if l.length<64 then if l.length<2 then some l else if l.all isInt||l.all ux then (dh l (PySem.W.kas_sort l.length)).bind λp=>picks l p.toList else none else none
noncomputable def gG (f:J->U->Option (J×U)):List J->U->Option (List J×U)
 |[],Y=>some ([],Y)
 |a::r,Y=>(f a Y).bind λx=>(gG f r x.2).map λy=>(x.1::y.1,y.2)
noncomputable def iY {κ:Type} (f:J->U->Option (J×U)):List (κ×J)->U->Option (List (κ×J)×U)
 |[],Y=>some ([],Y)
 |a::r,Y=>(f a.2 Y).bind λx=>(iY f r x.2).map λy=>((a.1,x.1)::y.1,y.2)
noncomputable def aaE (d:Bool) (f:J->U->Option (J×U)) (x:Nat) (Y:U):gm->Option (J×U)
 | .O l=>(gG f l Y).map λy=>(.O y.1,y.2.del x)
 | .gU l=>if d then (iY f l Y).map λy=>(.gU y.1,y.2.del x) else none
 |_=>none
noncomputable def aaK (f:J->U->Option (J×U)) (C:Cl) (x:Nat) (Y:U):gm->Option (J×U)
 | .cj l=>(iY f l Y).map λy=>(.obj C y.1,y.2.del x)
 |_=>none
noncomputable def aq (d:Bool):Nat->J->U->Option (J×U)
 |0,_,_=>none
 |k+1,v,Y=>match v with
  | .ref x=>(Y.h x).bind (aaE d (aq d k) x Y)
  | .aI C x=>if d then (Y.h x).bind (aaK (aq d k) C x Y) else some (v,Y)
  | .O l=>(gG (aq d k) l Y).map λy=>(.O y.1,y.2)
  | .ah=>none
  |v=>some (v,Y)
noncomputable def bK (Y:U) (x:J) (m:Mt):Option Fn:=(fieldsOf Y x).bind λy=>if m=(.of 10)/\(o8 (.of 7) y.2).isSome=true then none else kM y.1 m
section
variable (K:Fn->List J->U->aA U J)
noncomputable def gM (f:Fn) (args:List J) (Y:St):aA St J:=match K f args Y.hs with
 | .ok v hs=>.ok v ⟨Y.ls,hs⟩
 | .exc hs=>.exc ⟨Y.ls,hs⟩
 | .bad=>.bad
noncomputable def cg (Y:St) (i:Nat):aA St J:=match Y.ls[i]? with
 |some .ah=>.bad
 |some v=>.ok v Y
 |none=>.bad
noncomputable def jj (a:Int):Bool:=decide (a.natAbs<2^60)
noncomputable def cG:List J->Option (List Int)
 |[.int n]=>if jj n&&decide (n<=4096) then some ((TR n.toNat).map λk:Nat=>(k:Int)) else none
 |[.int a,.int b]=>if jj a&&jj b&&decide (b-a<=4096) then some ((TR (b-a).toNat).map λk:Nat=>a+(k:Int)) else none
 |[.int a,.int b,.int (-1)]=>if jj a&&jj b&&decide (a-b<=4096) then some ((TR (a-b).toNat).map λk:Nat=>a-(k:Int)) else none
 |_=>none
noncomputable def aA.calm {τ α:Type}:aA τ α->aA τ α
 | .exc _=>.bad
 |o=>o
noncomputable def each (f:J->St->aA St (Option J)):List J->St->aA St (List J)
 |[],Y=>.ok [] Y
 |a::r,Y=>(f a Y).calm.bind λo Y=>(each f r Y).bind λl Y=>.ok (match o with
  |some v=>v::l
  |none=>l) Y
mutual noncomputable def bk (cv:J):Ex->St->aA St J
 | .lit v,Y=>.ok v Y
 | .var i,Y=>cg Y i
 | .cvar,Y=>.ok cv Y
 | .glob g,Y=>.ok (zx g) Y
 | .bin op a b,Y=>(bk cv a Y).bind λx Y=>(bk cv b Y).bind λy Y=>match oz Y.hs op x y with
  |some l=>if l.length<=4096 then .ok (.ref Y.hs.n) ⟨Y.ls,Y.hs.new (.O l)⟩ else .bad
  |none=>.cC Y (gK op x y)
 | .neg a,Y=>(bk cv a Y).bind λx Y=>match x with
  | .int i=>.ok (.int (-i)) Y
  |_=>.bad
 | .not a,Y=>(bk cv a Y).bind λx Y=>match x with
  | .bool b=>.ok (.bool (!b)) Y
  |_=>.bad
 | .and l,Y=>D9 cv l Y
 | .or l,Y=>Mu cv l Y
 | .cmp op a b,Y=>(bk cv a Y).bind λx Y=>(bk cv b Y).bind λy Y=>.cC Y ((rt Y.hs op x y).map .bool)
 | .ite c a b,Y=>(bk cv c Y).bind λx Y=>match x with
  | .bool true=>bk cv a Y
  | .bool false=>bk cv b Y
  |_=>.bad
 | .attr a f,Y=>(bk cv a Y).bind λx Y=>.cC Y (AP Y.hs x f)
 | .item a i,Y=>(bk cv a Y).bind λx Y=>(bk cv i Y).bind λy Y=>.cC Y (cz Y.hs x y)
 | .slice a lo hi,Y=>(bk cv a Y).bind λx Y=>(Rz cv lo Y).bind λl Y=>(Rz cv hi Y).bind λh Y=>match cN Y.hs x l h with
  |some (.inl v)=>.ok v Y
  |some (.inr l)=>.ok (.ref Y.hs.n) ⟨Y.ls,Y.hs.new (.O l)⟩
  |none=>.bad
 | .bW l,Y=>(m5 cv l Y).bind λl Y=>.ok (.bW l) Y
 | .list l,Y=>(m5 cv l Y).bind λl Y=>.ok (.ref Y.hs.n) ⟨Y.ls,Y.hs.new (.O l)⟩
 | .comp e it c,Y=>(bk cv it Y).bind λx Y=>match x with
  | .O l=>(each (λv Y=>(match c with
   | .none=>.ok true Y
   | .some c=>(bk v c Y).bind λb Y=>match b with
    | .bool b=>.ok b Y
    |_=>.bad:aA St Bool).bind λb Y=>if b then (bk v e Y).bind λu Y=>.ok (some u) Y else .ok none Y) l Y).bind λl Y=>.ok (.ref Y.hs.n) ⟨Y.ls,Y.hs.new (.O l)⟩
  |_=>.bad
 | .gp e r c,Y=>(m5 cv r Y).bind λx Y=>match cG x with
  |some l=>(each (λv Y=>(match c with
   | .none=>.ok true Y
   | .some c=>(bk v c Y).bind λb Y=>match b with
    | .bool b=>.ok b Y
    |_=>.bad:aA St Bool).bind λb Y=>if b then (bk v e Y).bind λu Y=>.ok (some u) Y else .ok none Y) (l.map .int) Y).bind λl Y=>.ok (.ref Y.hs.n) ⟨Y.ls,Y.hs.new (.O l)⟩
  |none=>.bad
 | .ru,Y=>.ok (.ref Y.hs.n) ⟨Y.ls,Y.hs.new (.gU [])⟩
 | .q7,Y=>.ok (.ref Y.hs.n) ⟨Y.ls,Y.hs.new (.bar [])⟩
 | .call f l,Y=>(m5 cv l Y).bind λl Y=>gM K f l Y
 | .new C l,Y=>(m5 cv l Y).bind λl Y=>let x:=Y.hs.n;match jS C with
  |some f=>(gM K f (.aI C x::l) ⟨Y.ls,Y.hs.new (.cj [])⟩).bind λv Y=>match v with
   | .none=>.ok (.aI C x) Y
   |_=>.bad
  |none=>match l with
   |[]=>if C=(.of 1) then .ok (.aI C x) ⟨Y.ls,Y.hs.new (.cj [])⟩ else .bad
   |_=>.bad
 | .iA o m l,Y=>(bk cv o Y).bind λx Y=>match bK Y.hs x m with
  |some f=>(m5 cv l Y).bind λl Y=>gM K f (x::l) Y
  |none=>.bad
 | .append o e,Y=>(bk cv o Y).bind λx Y=>match x with
  | .ref x=>match Y.hs.h x with
   |some (.O _)=>(bk cv e Y).bind λv Y=>match Y.hs.h x with
    |some (.O l)=>if l.length<4096 then .ok .none ⟨Y.ls,Y.hs.set x (.O (l++[v]))⟩ else .bad
    |_=>.bad
   |some (.bar _)=>(bk cv e Y).bind λv Y=>match Y.hs.h x,v with
    |some (.bar b),.int i=>if 0<=i/\i<256/\b.length<4096 then .ok .none ⟨Y.ls,Y.hs.set x (.bar (b++[SH i.toNat]))⟩ else .bad
    |_,_=>.bad
   |_=>.bad
  |_=>.bad
 | .len a,Y=>(bk cv a Y).bind λx Y=>.cC Y ((IX Y.hs x).map .int)
 | .bytesOf a,Y=>(bk cv a Y).bind λx Y=>.cC Y ((iB Y.hs x).map .bytes)
 | .sum a,Y=>(bk cv a Y).bind λx Y=>.cC Y ((FP Y.hs x).map .int)
 | .sorted a,Y=>(bk cv a Y).bind λx Y=>match (items Y.hs x).bind kh with
  |some l=>.ok (.ref Y.hs.n) ⟨Y.ls,Y.hs.new (.O l)⟩
  |none=>.bad
 | .all a,Y=>(bk cv a Y).bind λx Y=>.cC Y (((items Y.hs x).bind iD).map λl=>.bool (l.all id))
 | .min a b,Y=>(bk cv a Y).bind λx Y=>(bk cv b Y).bind λy Y=>match x,y with
  | .int i,.int j=>.ok (.int (if j<i then j else i)) Y
  |_,_=>.bad
 | .max a b,Y=>(bk cv a Y).bind λx Y=>(bk cv b Y).bind λy Y=>match x,y with
  | .int i,.int j=>.ok (.int (if i<j then j else i)) Y
  |_,_=>.bad
 | .isBool a,Y=>(bk cv a Y).bind λx Y=>match x with
  | .bool _=>.ok (.bool true) Y
  |_=>.bad
 | .freeze a,Y=>(bk cv a Y).bind λx Y=>match aq false 8 x Y.hs with
  |some (v,hs)=>.ok v ⟨Y.ls,hs⟩
  |none=>.bad
 | .cQ a,Y=>(bk cv a Y).bind λx Y=>match aq true 12 x Y.hs with
  |some (v,hs)=>.ok v ⟨Y.ls,hs⟩
  |none=>.bad noncomputable def Rz (cv:J):sf->St->aA St (Option J)
 | .none,Y=>.ok none Y
 | .some e,Y=>(bk cv e Y).bind λv Y=>.ok (some v) Y noncomputable def m5 (cv:J):ir->St->aA St (List J)
 | .nil,Y=>.ok [] Y
 | .cons e l,Y=>(bk cv e Y).bind λv Y=>(m5 cv l Y).bind λr Y=>.ok (v::r) Y noncomputable def D9 (cv:J):ir->St->aA St J
 | .nil,_=>.bad
 | .cons e .nil,Y=>bk cv e Y
 | .cons e l,Y=>(bk cv e Y).bind λv Y=>match v with
  | .bool true=>D9 cv l Y
  | .bool false=>.ok (.bool false) Y
  |_=>.bad noncomputable def Mu (cv:J):ir->St->aA St J
 | .nil,_=>.bad
 | .cons e .nil,Y=>bk cv e Y
 | .cons e l,Y=>(bk cv e Y).bind λv Y=>match v with
  | .bool false=>Mu cv l Y
  | .bool true=>.ok (.bool true) Y
  |_=>.bad end
noncomputable def mW (Y:St) (i:Nat) (v:J):aA St Unit:=if i<Y.ls.length then .ok () ⟨Y.ls.set i v,Y.hs⟩ else .bad
noncomputable def Az (Y:St):List Nat->List J->aA St Unit
 |[],[]=>.ok () Y
 |i::r,v::l=>(mW Y i v).bind λz Y=>Az Y r l
 |_,_=>.bad
noncomputable def store (Y:St):Mn->J->aA St Unit
 | .name i,v=>mW Y i v
 | .bW l,.bW vs=>Az Y l vs
 |_,_=>.bad
noncomputable def cU (f:J->St->aA St bw):List J->St->aA St bw
 |[],Y=>.ok .next Y
 |a::r,Y=>(f a Y).calm.bind λfl Y=>match fl with
  | .ret v=>.ok (.ret v) Y
  |_=>cU f r Y
noncomputable def ja (c:St->aA St J) (f:St->aA St bw):Nat->St->aA St bw
 |0,_=>.bad
 |k+1,Y=>(c Y).calm.bind λv Y=>match v with
  | .bool true=>(f Y).calm.bind λfl Y=>match fl with
   | .ret v=>.ok (.ret v) Y
   |_=>ja c f k Y
  | .bool false=>.ok .next Y
  |_=>.bad
mutual noncomputable def eB:S->St->aA St bw
 | .assign t e,Y=>(bk K .ah e Y).bind λv Y=>(store Y t v).bind λz Y=>.ok .next Y
 | .setAttr o f e,Y=>(bk K .ah e Y).bind λv Y=>(bk K .ah o Y).bind λx Y=>match x with
  | .aI C x=>match Y.hs.h x with
   |some (.cj fs)=>if uD C f&&decide (fs.length<100) then .ok .next ⟨Y.ls,Y.hs.set x (.cj (kI f v fs))⟩ else .bad
   |_=>.bad
  |_=>.bad
 | .setItem o i e,Y=>(bk K .ah e Y).bind λv Y=>(bk K .ah o Y).bind λx Y=>(bk K .ah i Y).bind λj Y=>match x,j with
  | .ref x,.int j=>match Y.hs.h x with
   |some (.O l)=>if 0<=j/\j<l.length then .ok .next ⟨Y.ls,Y.hs.set x (.O (l.set j.toNat v))⟩ else .bad
   |some (.gU l)=>if l.length<4096 then .ok .next ⟨Y.ls,Y.hs.set x (.gU (gJ j v l))⟩ else .bad
   |_=>.bad
  |_,_=>.bad
 | .iO x op e,Y=>(cg Y x).bind λa Y=>(bk K .ah e Y).bind λb Y=>(aA.cC Y (tF op a b)).bind λv Y=>(mW Y x v).bind λz Y=>.ok .next Y
 | .iF o f op e,Y=>(bk K .ah o Y).bind λx Y=>(aA.cC Y (AP Y.hs x f)).bind λa Y=>(bk K .ah e Y).bind λb Y=>(aA.cC Y (tF op a b)).bind λv Y=>match x with
  | .aI C x=>match Y.hs.h x with
   |some (.cj fs)=>if uD C f&&decide (fs.length<100) then .ok .next ⟨Y.ls,Y.hs.set x (.cj (kI f v fs))⟩ else .bad
   |_=>.bad
  |_=>.bad
 | .b9 c a b,Y=>(bk K .ah c Y).bind λv Y=>match v with
  | .bool true=>cu a Y
  | .bool false=>cu b Y
  |_=>.bad
 | .while c b,Y=>ja (λY=>bk K .ah c Y) (λY=>cu b Y) 100 Y
 | .forL t e b,Y=>(bk K .ah e Y).bind λx Y=>match x with
  | .O l=>cU (λv Y=>(store Y t v).bind λz Y=>cu b Y) l Y
  |_=>.bad
 | .forR t r b,Y=>(m5 K .ah r Y).bind λx Y=>match cG x with
  |some l=>cU (λv Y=>(store Y t v).bind λz Y=>cu b Y) (l.map .int) Y
  |none=>.bad
 | .ret e,Y=>(bk K .ah e Y).bind λv Y=>.ok (.ret v) Y
 | .tG,Y=>.ok (.ret .none) Y
 | .expr e,Y=>(bk K .ah e Y).bind λz Y=>.ok .next Y
 | .raise,Y=>.exc Y
 | .bad,_=>.bad
 | .xE b v,Y=>match cu b Y with
  | .exc Y=>.ok (.ret v) Y
  |o=>o
 | .rH b,Y=>match cu b Y with
  | .exc _=>.bad
  |o=>o
 | .pass,Y=>.ok .next Y
 | .cont,Y=>.ok .cont Y
 | .bI x,Y=>(cg Y x).bind λv Y=>match aq true 12 v Y.hs with
  |some (v,hs)=>mW ⟨Y.ls,hs⟩ x v|>.bind λz Y=>.ok .next Y
  |none=>.bad noncomputable def cu:Ss->St->aA St bw
 | .nil,Y=>.ok .next Y
 | .cons s l,Y=>(eB s Y).bind λfl Y=>match fl with
  | .next=>cu l Y
  |fl=>.ok fl Y end
end
noncomputable def ak:Nat->Fn->List J->U->aA U J
 |0,_,_,_=>.bad
 |k+1,f,args,hs=>if args.length=(b8 f).1 then match cu (ak k) (nk f) ⟨args++Tf ((b8 f).2-(b8 f).1) .ah,hs⟩ with
  | .ok (.ret v) Y=>.ok v Y.hs
  | .ok .next Y=>.ok .none Y.hs
  | .ok .cont _=>.bad
  | .exc Y=>.exc Y.hs
  | .bad=>.bad else .bad
end Mine
namespace Mine
open PySem PySem.W PyProof.Rows
set_option tactic.hygienic true
structure eS where
 K:abn
 prog:Xz
 w:YO
 cl:Cl->Um
 fn:Fn->Um
 aY:Fd->Str
 mname:Mt->Str
noncomputable def cap:Nat:=65536
def rK (F:List Um) (X:Nat->Um) (H:U) (a:Um):Prop:=a∈F∨ ∃x,(H.h x).isSome=true/\X x=a
section
variable (T:eS) (F:List Um) (X:Nat->Um) (H:U) (h:Vr)
mutual noncomputable def aE:J->Te->Prop
 | .none,v=>v=.none
 | .bool b,v=>v=.bool b
 | .int i,v=> ∃t,v=.int i t
 | .bytes b,v=> ∃t,v=.bytes b.toArray t/\b.length<=cap
 | .bW l,v=>l.length<=cap/\ ∃a o vs ep,v=.ref a/\h.get? a=some o/\o.cls=.type "tuple"/\o.data=.seq vs ep/\ ¬rK F X H a/\aB l vs.toList
 | .O l,v=>l.length<=cap/\ ∃a o vs ep,v=.ref a/\h.get? a=some o/\o.cls=.type "list"/\o.data=.seq vs ep/\ ¬rK F X H a/\aB l vs.toList
 | .obj C fs,v=> ∃a dx es n,v=.ref a/\h.get? a=some (instObj (T.cl C) dx)/\h.get? dx=some (dictOf es n)/\ ¬rK F X H a/\ ¬rK F X H dx/\dJ fs es
 | .gU l,v=> ∃a kvs,v=.ref a/\h.DictOf (intKind T.prog T.w) a kvs/\(a==sysModules)=false/\ ¬rK F X H a/\eO l kvs
 | .ref x,v=>v=.ref (X x)/\x<H.n
 | .aI C x,v=> ∃a,v=.ref a/\h.get? a=some (instObj (T.cl C) (X x))/\ ¬rK F X H a/\x<H.n
 | .ah,_=>False noncomputable def aB:List J->List Te->Prop
 |[],[]=>True
 |a::l,v::r=>aE a v/\aB l r
 |_,_=>False noncomputable def dJ:List (Fd×J)->List Wb->Prop
 |[],[]=>True
 |a::l,e::r=>(∃t,e.key=.str (T.aY a.1) t)/\e.hash=Vh T.w.params (T.aY a.1)/\aE a.2 e.val/\dJ l r
 |_,_=>False noncomputable def eO:List (Int×J)->List (Int×Te)->Prop
 |[],[]=>True
 |a::l,e::r=>e.1=a.1/\aE a.2 e.2/\eO l r
 |_,_=>False end
noncomputable def qe:gm->Um->Prop
 | .O l,a=>l.length<=cap/\ ∃o vs ep,h.get? a=some o/\o.cls=.type "list"/\o.data=.seq vs ep/\aB T F X H h l vs.toList/\o.dict=none
 | .cj fs,a=> ∃es n,h.get? a=some (dictOf es n)/\dJ T F X H h fs es
 | .gU l,a=> ∃kvs,h.DictOf (intKind T.prog T.w) a kvs/\(a==sysModules)=false/\eO T F X H h l kvs
 | .bar b,a=>b.length<=cap/\ ∃o,h.get? a=some o/\o.cls=.type "bytearray"/\o.data=.bytearray b.toArray 0/\o.dict=none
end
structure RH (T:eS) (B:Vr) (F:List Um) (X:Nat->Um) (H:U) (h:Vr):Prop where
 base: ∀b o,B.get? b=some o->h.get? b=some o
 fin: ∀x,H.n<=x->H.h x=none
 obj: ∀x o,H.h x=some o->qe T F X H h o (X x)
 inj: ∀x y,(H.h x).isSome=true->(H.h y).isSome=true->X x=X y->x=y
 fc: ∀x,(H.h x).isSome=true->X x∉F/\B.get? (X x)=none
 fr: ∀a∈F,B.get? a=none/\ ∃o,h.get? a=some o
structure Step (P F:List Um) (X:Nat->Um) (H:U) (h:Vr) (ι':Nat->Um) (H':U) (h':Vr):Prop where
 keep: ∀a o,h.get? a=some o-> ¬rK F X H a->h'.get? a=some o
 slots: ∀a∈P,∀o,h.get? a=some o-> ∃sl,h'.get? a=some {o with slots:=sl}/\((∃vs,o.data=.fields vs)->sl=o.slots)
 alive: ∀a,(h.get? a).isSome=true->(h'.get? a).isSome=true
 ext: ∀x,x<H.n->ι' x=X x
 dom: ∀x,x<H.n->(H'.h x).isSome=true->(H.h x).isSome=true
 new: ∀x,H.n<=x->(H'.h x).isSome=true->h.get? (ι' x)=none
 mono:H.n<=H'.n
theorem rK.lt (R:RH T B F X H h) (e:(H.h x).isSome=true):x<H.n:=by
 rcases Wq x H.n with q|q;·exact q
 ·replace e:=(R.fin x q)▸e;cases e
theorem qe.there (r:qe T F X H h o a):(h.get? a).isSome=true:=by
 cases o;·obtain ⟨_,o,_,_,e,_⟩:=r;rw [e];rfl
 ·refine dM r λz z e z=> ?_;rw [e];rfl
 ·refine ay r λz adN z=>sZ adN λz z z e z=> ?_;rw [e];rfl
 ·obtain ⟨_,o,e,_⟩:=r;rw [e];rfl
theorem RH.there (R:RH T B F X H h) (e:(H.h x).isSome=true):(h.get? (X x)).isSome=true:=by obtain ⟨o,ho⟩:=SM.mp e;exact (R.obj x o ho).there
theorem RH.E1 (R:RH T B F X H h) (e:rK F X H a):(h.get? a).isSome=true:=by
 rcases e with e|⟨x,e,rfl⟩;·obtain ⟨_,o,ho⟩:=R.fr a e;refine (ho).symm▸ ?_;rfl
 ·exact R.there e
theorem Step.refl (R:RH T B F X H h):Step F F X H h X H h:=⟨λz z e z=>e,λz z o e=>(aH o.slots e (λz=>rfl)),λz e=>e,λz z=>rfl,λz z e=>e,λx hx e=>(by replace e:=(R.fin x hx)▸e;cases e),Sv _⟩
theorem Step.sub (S:Step P F X H h ι' H' h') (k: ∀a∈P',a∈P):Step P' F X H h ι' H' h':=⟨S.keep,λa ha=>S.slots a (k a ha),S.alive,S.ext,S.dom,S.new,S.mono⟩
theorem Step.refl' (R:RH T B F X H h):Step P F X H h X H h:=⟨λz z e z=>e,λz z o e=>(aH o.slots e (λz=>rfl)),λz e=>e,λz z=>rfl,λz z e=>e,λx hx e=>(by replace e:=(R.fin x hx)▸e;cases e),Sv _⟩
theorem Step.fc (S:Step P F X H h ι' H' h') (e:(h.get? a).isSome=true) (n: ¬rK F X H a): ¬rK F ι' H' a:=by
 rintro (q|⟨x,q,rfl⟩);·exact n (.inl q)
 ·rcases Wq x H.n with hx|hx;·exact n (.inr (aH x (S.dom x hx q) ((S.ext x hx).symm)))
  ·replace e:=(S.new x hx q)▸e;cases e
theorem Step.trans (S:Step P F X H h ι' H' h') (HS:Step P F ι' H' h' vZ H'' h''):Step P F X H h vZ H'' h'' where
 keep a o e n:=HS.keep a o (S.keep a o e n) (S.fc (by rw [e];rfl) n)
 slots a ha o e:=by exact ay (S.slots a ha o e) λsl e1 q1=>ay (HS.slots a ha _ e1) λsl' e2 q2=>aH sl' e2 (λn=>(q2 n).trans (q1 n))
 alive a e:=HS.alive a (S.alive a e)
 ext x hx:=(HS.ext x (Sx hx S.mono)).trans (S.ext x hx)
 dom x hx e:=S.dom x hx (HS.dom x (Sx hx S.mono) e)
 new x hx e:=by
  rcases Wq x H'.n with q|q;·rw [HS.ext x q];exact S.new x hx (HS.dom x q e)
  ·cases z:h.get? (vZ x) with
   |none=>rfl
   |some o=>have:=S.alive (vZ x) (by rw [z];rfl);replace this:=(HS.new x q e)▸this;cases this
 mono:=Sl S.mono HS.mono
theorem Step.slots' (S:Step P F X H h ι' H' h'): ∀a∈P,∀o,h.get? a=some o-> ∃sl,h'.get? a=some {o with slots:=sl}:=λa ha o e=>let ⟨sl,e1,_⟩:=S.slots a ha o e;⟨sl,e1⟩
structure Carry (F:List Um) (X:Nat->Um) (H:U) (h:Vr) (F':List Um) (ι':Nat->Um) (H':U) (h':Vr):Prop where
 keep: ∀a o,h.get? a=some o->(∀vs,o.data≠.fields vs)-> ¬rK F X H a->h'.get? a=some o/\ ¬rK F' ι' H' a
 ext: ∀x,x<H.n->ι' x=X x
 mono:H.n<=H'.n
theorem Step.aO (S:Step P F X H h ι' H' h'):Carry F X H h F ι' H' h':=⟨λa o e z n=>⟨S.keep a o e n,S.fc (by refine (e).symm▸ ?_;rfl) n⟩,S.ext,S.mono⟩
section
mutual theorem aE.aO (S:Carry F X H h F' ι' H' h'): ∀(a:J) (v:Te),aE T F X H h a v->aE T F' ι' H' h' a v
 | .none,_,r=>r
 | .bool _,_,r=>r
 | .int _,_,r=>r
 | .bytes _,_,r=>r
 | .bW l,v,r=>by obtain ⟨e0,a,o,vs,ep,e1,e2,e3,e4,e5,e6⟩:=r;exact ⟨e0,a,o,vs,ep,e1,(S.keep _ _ e2 (λy z=>by rw [e4] at z;cases z) e5).1,e3,e4,(S.keep _ _ e2 (λy z=>by rw [e4] at z;cases z) e5).2,aB.aO S l _ e6⟩
 | .O l,v,r=>by obtain ⟨e0,a,o,vs,ep,e1,e2,e3,e4,e5,e6⟩:=r;exact ⟨e0,a,o,vs,ep,e1,(S.keep _ _ e2 (λy z=>by rw [e4] at z;cases z) e5).1,e3,e4,(S.keep _ _ e2 (λy z=>by rw [e4] at z;cases z) e5).2,aB.aO S l _ e6⟩
 | .obj C fs,v,r=>by exact Sh r λa dx es n e1 e2 e3 e4 e5 e6=>aeh a dx es n e1 ((S.keep _ _ e2 (λy z=>by cases z) e4).1) ((S.keep _ _ e3 (λy z=>by cases z) e5).1) ((S.keep _ _ e2 (λy z=>by cases z) e4).2) ((S.keep _ _ e3 (λy z=>by cases z) e5).2) (dJ.aO S fs _ e6)
 | .gU l,v,r=>by exact Gk r λa kvs e1 acX e5 e4 e6=>sZ acX λo es n e2 e3=>J8 a kvs e1 (Ou o es n ((S.keep _ _ e2 (λy z=>by rw [e3.2.1] at z;cases z) e4).1) e3) e5 ((S.keep _ _ e2 (λy z=>by rw [e3.2.1] at z;cases z) e4).2) (eO.aO S l _ e6)
 | .ref x,v,r=>by exact ⟨by rw [S.ext x r.2];exact r.1,Sx r.2 S.mono⟩
 | .aI C x,v,r=>by exact qS r λa e1 e2 e3 e4=>vD a e1 (by rw [S.ext x e4];exact (S.keep _ _ e2 (λy z=>by cases z) e3).1) ((S.keep _ _ e2 (λy z=>by cases z) e3).2) (Sx e4 S.mono)
 | .ah,_,r=>r theorem aB.aO (S:Carry F X H h F' ι' H' h'): ∀(l:List J) (vs:List Te),aB T F X H h l vs->aB T F' ι' H' h' l vs
 |[],[],_=>trivial
 |[],_::_,r=>r
 |_::_,[],r=>r
 |a::l,v::vs,r=>⟨aE.aO S a v r.1,aB.aO S l vs r.2⟩ theorem dJ.aO (S:Carry F X H h F' ι' H' h'): ∀(l:List (Fd×J)) (es:List Wb),dJ T F X H h l es->dJ T F' ι' H' h' l es
 |[],[],_=>trivial
 |[],_::_,r=>r
 |_::_,[],r=>r
 |a::l,v::vs,r=>⟨r.1,r.2.1,aE.aO S a.2 _ r.2.2.1,dJ.aO S l vs r.2.2.2⟩ theorem eO.aO (S:Carry F X H h F' ι' H' h'): ∀(l:List (Int×J)) (es:List (Int×Te)),eO T F X H h l es->eO T F' ι' H' h' l es
 |[],[],_=>trivial
 |[],_::_,r=>r
 |_::_,[],r=>r
 |a::l,v::vs,r=>⟨r.1,aE.aO S a.2 _ r.2.1,eO.aO S l vs r.2.2⟩ end
theorem aE.step (S:Step P F X H h ι' H' h') (a:J) (v:Te) (r:aE T F X H h a v):aE T F ι' H' h' a v:=r.aO S.aO
theorem aB.step (S:Step P F X H h ι' H' h') (a:List J) (v:List Te) (r:aB T F X H h a v):aB T F ι' H' h' a v:=r.aO S.aO
theorem dJ.step (S:Step P F X H h ι' H' h') (a:List (Fd×J)) (v:List Wb) (r:dJ T F X H h a v):dJ T F ι' H' h' a v:=r.aO S.aO
theorem eO.step (S:Step P F X H h ι' H' h') (a:List (Int×J)) (v:List (Int×Te)) (r:eO T F X H h a v):eO T F ι' H' h' a v:=r.aO S.aO
end
theorem aB.length: ∀{l:List J} {vs:List Te},aB T F X H h l vs->l.length=vs.length:=by
 intro l_;induction l_ with
 |nil=>
  intro m_;cases m_ with
  |nil=>exact @λz=>rfl
  |cons _ _=>exact @λr=>r.elim
 |cons _ LB aG=>
  intro m_;cases m_ with
  |nil=>exact @λr=>r.elim
  |cons _ _=>exact @λr=>congrArg (· +1) (aG r.2)
theorem aB.get: ∀{l:List J} {vs:List Te} (i:Nat) {a:J},aB T F X H h l vs->l[i]? =some a-> ∃v,vs[i]? =some v/\aE T F X H h a v
 |[],_,i,_,_,e=>by simp at e
 |_::_,[],_,_,r,_=>r.elim
 |a::_,v::_,0,b,r,e=>by simp at e;subst e;exact aH v rfl r.1
 |_::_,_::_,i+1,_,r,e=>by exact aB.get i r.2 e
theorem aB.append: ∀{l l':List J} {vs vs':List Te},aB T F X H h l vs->aB T F X H h l' vs'->aB T F X H h (l++l') (vs++vs'):=by
 intro l_;induction l_ with
 |nil=>
  intro _ m_;cases m_ with
  |nil=>exact @λz z r=>r
  |cons _ _=>exact @λz r z=>r.elim
 |cons _ LB aG=>
  intro _ m_;cases m_ with
  |nil=>exact @λz r z=>r.elim
  |cons _ _=>exact @λz r r'=>⟨r.1,aG r.2 r'⟩
theorem aB.take: ∀{l:List J} {vs:List Te} (k:Nat),aB T F X H h l vs->aB T F X H h (l.take k) (vs.take k)
 |[],[],0,_=>trivial
 |[],[],_+1,_=>trivial
 |[],_::_,_,r=>r.elim
 |_::_,[],_,r=>r.elim
 |_::_,_::_,0,_=>trivial
 |_::_,_::_,k+1,r=>⟨r.1,aB.take k r.2⟩
theorem aB.drop: ∀{l:List J} {vs:List Te} (k:Nat),aB T F X H h l vs->aB T F X H h (l.drop k) (vs.drop k)
 |[],[],0,_=>trivial
 |[],[],_+1,_=>trivial
 |[],_::_,_,r=>r.elim
 |_::_,[],_,r=>r.elim
 |_::_,_::_,0,r=>r
 |_::_,_::_,k+1,r=>aB.drop k r.2
theorem aB.set: ∀{l:List J} {vs:List Te} (k:Nat) {a v},aB T F X H h l vs->aE T F X H h a v->aB T F X H h (l.set k a) (vs.set k v)
 |[],[],k,_,_,_,_=>trivial
 |[],_::_,_,_,_,r,_=>r.elim
 |_::_,[],_,_,_,r,_=>r.elim
 |_::_,_::_,0,_,_,r,r'=>⟨r',r.2⟩
 |_::_,_::_,k+1,_,_,r,r'=>⟨r.1,aB.set k r.2 r'⟩
theorem qe.aO (S:Carry F X H h F' ι' H' h') (k: ∀ob,h.get? a=some ob->h'.get? a=some ob) (r:qe T F X H h o a):qe T F' ι' H' h' o a:=by
 cases o;·obtain ⟨e0,o,vs,ep,e1,e2,e3,e4,e5⟩:=r;exact ⟨e0,o,vs,ep,k _ e1,e2,e3,e4.aO S,e5⟩
 ·exact dM r λes n e1 e2=>gv es n (k _ e1) (e2.aO S)
 ·exact fY r λkvs adX e3 e4=>sZ adX λo es n e1 e2=>iw kvs (Ou o es n (k _ e1) e2) e3 (e4.aO S)
 ·obtain ⟨e0,o,e1,e2,e3⟩:=r;exact ⟨e0,o,k _ e1,e2,e3⟩
theorem qe.step (S:Step P F X H h ι' H' h') (k: ∀ob,h.get? a=some ob->h'.get? a=some ob) (r:qe T F X H h o a):qe T F ι' H' h' o a:=r.aO S.aO k
section
theorem RH.grow (R:RH T B F X H h) (k: ∀b o,h.get? b=some o->h'.get? b=some o):RH T B F X H h'/\Step F F X H h X H h':=by have S:Step F F X H h X H h':=⟨λa o e z=>k a o e,λa z o e=>(aH o.slots (k a o e) (λz=>rfl)),λa e=>by obtain ⟨o,ho⟩:=SM.mp e;refine (k a o ho).symm▸ ?_;rfl,λz z=>rfl,λz z e=>e,λx hx e=>(by replace e:=(R.fin x hx)▸e;cases e),Sv _⟩;exact ⟨⟨λb o e=>k b o (R.base b o e),R.fin,λx o e=>(R.obj x o e).step S (λob=>k _ ob),R.inj,R.fc,λa ha=>⟨(R.fr a ha).1,by obtain ⟨_,o,e⟩:=R.fr a ha;exact ⟨o,k _ _ e⟩⟩⟩,S⟩
theorem RH.new (R:RH T B F X H h) (k: ∀b o,h.get? b=some o->h'.get? b=some o) (fresh:h.get? a=none) (r: ∀ι' H',Step F F X H h ι' H' h'->qe T F ι' H' h' o a): ∃ι',ι' H.n=a/\RH T B F ι' (H.new o) h'/\Step F F X H h ι' (H.new o) h':=by
 have e0: ∀x,x<H.n->(if x=H.n then a else X x)=X x:=λx hx=>if_neg (SY hx);have e1: ∀x,x<H.n->(H.new o).h x=H.h x:=λx hx=>if_neg (SY hx);have e2:(H.new o).h H.n=some o:=if_pos rfl;have e3: ∀x,H.n<x->(H.new o).h x=none:=λx hx=>(if_neg (UG hx)).trans (R.fin x (Tj hx));have S:Step F F X H h (λx=>if x=H.n then a else X x) (H.new o) h':=by
  refine ⟨λa o e u=>k a o e,λa u o e=>(aH o.slots (k a o e) (λu=>rfl)),λa e=> ?_,e0,λx hx e=>by rw [e1 x hx] at e;exact e,λx hx e=> ?_,T8 _⟩;·obtain ⟨o,ho⟩:=SM.mp e;rw [k a o ho];rfl
  ·rcases Vo hx with q|q;·subst q;rw [if_pos rfl];exact fresh
   ·replace e:=(e3 x q)▸e;cases e
 refine iw (λx=>if x=H.n then a else X x) (if_pos rfl) ⟨λb o e=>k b o (R.base b o e),λx hx=>e3 x hx,λx o' e=> ?_,λx y ex ey Cs=> ?_,λx e=> ?_,λa ha=>⟨(R.fr a ha).1,?_⟩⟩ S;·
  rcases Vg x H.n with q|q|q;·rw [e1 x q] at e;(try dsimp only);rw [e0 x q];exact (R.obj x o' e).step S (λob=>k _ ob)
  ·subst q;replace e:=(e2)▸e;obtain rfl:=Sm e;(try dsimp only);rw [if_pos rfl];exact r _ _ S
  ·replace e:=(e3 x q)▸e;cases e
 ·have old: ∀z,z<H.n->((H.new o).h z).isSome=true->X z≠a:=λz hz ez q=>by have:=R.there (x:=z) (by exact (e1 z hz)▸(ez));replace this:=(q)▸this;replace this:=(fresh)▸this;cases this
  have lt: ∀z,((H.new o).h z).isSome=true->z<=H.n:=λz ez=>by
   rcases Wq H.n z with q|q;·replace ez:=(e3 z q)▸ez;cases ez
   ·exact q
  (try dsimp only at Cs);rcases Vo (lt x ex) with q|q<;>rcases Vo (lt y ey) with q'|q';·refine (q).symm▸((q').symm▸ ?_);rfl
  ·rw [if_pos q,e0 y q'] at Cs;exact absurd Cs.symm (old y q' ey)
  ·rw [if_pos q',e0 x q] at Cs;exact absurd Cs (old x q ex)
  ·rw [e0 x q,e0 y q'] at Cs;rw [e1 x q] at ex;rw [e1 y q'] at ey;exact R.inj x y ex ey Cs
 ·rcases Vg x H.n with q|q|q;·rw [e1 x q] at e;(try dsimp only);rw [e0 x q];exact R.fc x e
  ·subst q;(try dsimp only);refine (if_pos rfl).symm▸(⟨λha=> ?_,?_⟩);·obtain ⟨_,o',e'⟩:=R.fr a ha;replace e':=(fresh)▸e';cases e'
   ·cases z:B.get? a with
    |none=>rfl
    |some ob=>have:=R.base a ob z;replace this:=(fresh)▸this;cases this
  ·rw [e3 x q] at e;exact Uu e
 ·obtain ⟨_,o,e⟩:=R.fr a ha;exact ⟨o,k _ _ e⟩
theorem U.Jz (H:U) (x:Nat) (o:gm) (y:Nat):(H.set x o).h y=if y=x then some o else H.h y:=rfl
theorem U.A7 (H:U) (x:Nat) (y:Nat):(H.del x).h y=if y=x then none else H.h y:=rfl
theorem U.abq (H:U) (o:gm) (y:Nat):(H.new o).h y=if y=H.n then some o else H.h y:=rfl
theorem RH.set (R:RH T B F X H h) (hx:(H.h x).isSome=true) (k: ∀b o,b≠X x->h.get? b=some o->h'.get? b=some o) (al:(h'.get? (X x)).isSome=true) (r:Step F F X H h X (H.set x o) h'->qe T F X (H.set x o) h' o (X x)):RH T B F X (H.set x o) h'/\Step F F X H h X (H.set x o) h':=by
 have hxn:=rK.lt R hx;have iff: ∀y,((H.set x o).h y).isSome=true↔(H.h y).isSome=true:=λy=>by
  rw [U.Jz];by_cases q:y=x;·cases q;simp [hx]
  ·rw [if_neg q]
 have S:Step F F X H h X (H.set x o) h':=by
  refine ⟨λa ob e n=>k a ob (λq=>n (.inr (aH x hx q.symm))) e,λa ha ob e=>(aH ob.slots (k a ob (λq=>(R.fc x hx).1 (q▸ha)) e) (λu=>rfl)),λa e=> ?_,λu u=>rfl,λy u e=>(iff y).mp e,λy hy e=> ?_,Sv _⟩;·
   obtain ⟨ob,ho⟩:=SM.mp e;by_cases q:a=X x;·exact (q).symm▸(al)
   ·refine (k a ob q ho).symm▸ ?_;rfl
  ·have:=(iff y).mp e;replace this:=(R.fin y hy)▸this;exact Uu this
 refine ⟨⟨λb ob e=>k b ob (λq=>by replace e:=(q)▸e;replace e:=((R.fc x hx).2)▸e;cases e) (R.base b ob e),λy hy=> ?_,λy ob e=> ?_,λy z ey ez=>R.inj y z ((iff y).mp ey) ((iff z).mp ez),λy e=>R.fc y ((iff y).mp e),λa ha=>⟨(R.fr a ha).1,?_⟩⟩,S⟩;·have hy':H.n<=y:=hy;rw [U.Jz,if_neg (by exact (Ln.n3 0x618716002502052040) hxn hy')];exact R.fin y hy'
 ·rw [U.Jz] at e;by_cases q:y=x;·replace e:=(if_pos q)▸e;obtain rfl:=Sm e;cases q;exact r S
  ·replace e:=(if_neg q)▸e;refine (R.obj y ob e).step S λobj=>k _ obj λz=>q (R.inj y x (by refine (e).symm▸ ?_;rfl) hx z)
 ·obtain ⟨_,ob,e⟩:=R.fr a ha;exact ⟨ob,k _ _ (λq=>(R.fc x hx).1 (q▸ha)) e⟩
theorem RH.del (R:RH T B F X H h):RH T B F X (H.del x) h/\Step F F X H h X (H.del x) h:=by
 have sub: ∀y,((H.del x).h y).isSome=true->(H.h y).isSome=true:=λy e=>by
  rw [U.A7] at e;by_cases q:y=x;·replace e:=(if_pos q)▸e;exact nomatch e
  ·rwa [if_neg q] at e
 have S:Step F F X H h X (H.del x) h:=⟨λu u e u=>e,λu u o e=>(aH o.slots e (λu=>rfl)),λu e=>e,λu u=>rfl,λy u e=>sub y e,λy hy e=>(by have:=sub y e;replace this:=(R.fin y hy)▸this;exact nomatch this),Sv _⟩;refine ⟨⟨R.base,λy hy=> ?_,λy ob e=> ?_,λy z ey ez=>R.inj y z (sub y ey) (sub z ez),λy e=>R.fc y (sub y e),R.fr⟩,S⟩;·
  rw [U.A7];by_cases q:y=x;·rw [if_pos q]
  ·rw [if_neg q];exact R.fin y hy
 ·rw [U.A7] at e;by_cases q:y=x;·rw [if_pos q] at e;exact nomatch e
  ·rw [if_neg q] at e;exact (R.obj y ob e).step S λu z=>z
end
def Rest (s s':Tz):Prop:=s'.gens=s.gens/\s'.os=s.os
theorem Rest.refl:Rest s s:=⟨rfl,rfl⟩
theorem Rest.trans (a:Rest s s') (b:Rest s' s''):Rest s s'':=⟨b.1.trans a.1,b.2.trans a.2⟩
def Cont (T:eS) (B:Vr) (F:List Um) (X:Nat->Um) (H:U) (s:Tz) (r:J) (Q:Te->Tz->Prop):Prop:= ∀v s',aE T F X H s'.heap r v->RH T B F X H s'.heap->Step F F X H s.heap X H s'.heap->Rest s s'->Q v s'
theorem Cont.tok (k:Cont T B F X H s r Q) (R:RH T B F X H s.heap) (V:aE T F X H s.heap r v):Q v {s with toks:=t}:=k v {s with toks:=t} V R (Step.refl R) ⟨rfl,rfl⟩
theorem Cont.same (k:Cont T B F X H s r Q) (R:RH T B F X H s.heap) (V:aE T F X H s.heap r v):Q v s:=k v s V R (Step.refl R) ⟨rfl,rfl⟩
theorem Cont.push (k:Cont T B F X H s r Q) (R:RH T B F X H s.heap) (V: ∀h',Step F F X H s.heap X H h'->RH T B F X H h'->h'=s.heap.push o->aE T F X H h' r v):Q v {s with heap:=s.heap.push o,toks:=t}:=by refine dD (R.grow (h':=s.heap.push o) λb o' e=>SK _ e) λR' S=> ?_;exact k v {s with heap:=s.heap.push o,toks:=t} (V _ S R' rfl) R' S ⟨rfl,rfl⟩
noncomputable def BinOp.py:BinOp->Operator
 | .add=>.Add
 | .sub=>.Sub
 | .mul=>.Mult
 | .fdiv=>.FloorDiv
 | .mod=>.Mod
 | .pow=>.Pow
 | .band=>.BitAnd
 | .bor=>.BitOr
 | .shl=>.LShift
 | .shr=>.RShift
 | .bxor=>.BitXor
noncomputable def vB.py:vB->CmpOp
 | .eq=>.Eq
 | .ne=>.NotEq
 | .lt=>.Lt
 | .le=>.LtE
 | .gt=>.Gt
 | .ge=>.GtE
 | .is_=>.Is
 | .nc=>.IsNot
 | .in_=>.In
 | .w6=>.NotIn
theorem bitAnd_nn (ha:0<=a) (hb:0<=b):Builtin.bitAnd a b=((a.toNat&&&b.toNat:Nat):Int):=by unfold Builtin.bitAnd;simp only [decide_eq_true ha,decide_eq_true hb]
theorem A5 (ha:0<=a) (hb:0<=b):Builtin.bitOr a b=((a.toNat|||b.toNat:Nat):Int):=by
 have e1: ∀x:Int,0<=x->decide (0<=Builtin.bitNot x)=false:=λx hx=>by apply decide_eq_false;exact (Ln.z [] [_] 0x61c54b221380215008) hx
 unfold Builtin.bitOr Builtin.bitAnd;simp only [e1 a ha,e1 b hb,(λx=>by unfold Builtin.bitNot;exact (Ln.z [] [_] 0x1700b22138b221380): ∀x:Int,Builtin.bitNot (Builtin.bitNot x)=x)]
theorem jK (h:small a=true):a.natAbs<2^64:=of_decide_eq_true h
theorem HG {a b:Int}:a.fdiv (2^b.toNat)=a/2^b.toNat:=by rw [YJ];exact Ww (Int.pow_pos (by decide))
section
theorem ns {α:Type} {a:α} {p:Prop} (h:(none:Option α)=some a):p:=(by cases h)
theorem dw {α:Type} [Decidable c] {a r:α} (e:(if c then some a else none)=some r):c/\r=a:=by
 by_cases h:c;·rw [if_pos h] at e;exact ⟨h,(Sm e).symm⟩
 ·exact nomatch (if_neg h).symm.trans e
theorem M8 (e:iop op a b=some r) (R:RH T B F X H s.heap) (k:Cont T B F X H s (.int r) Q):wpAny (model T.prog T.w) A (ZA op.py (.int a t) (.int b u)) Q E s:=by
 have fin: ∀{i:Int},r=i->Q (.int i s.toks) {s with toks:=s.toks+1}:=λ{i} q=>k.tok R (by exact (q).symm▸(⟨_,rfl⟩));cases op;case add=>exact P.add_int (fin (Sm e).symm)
 case sub=>exact P.sub_int (fin (Sm e).symm)
 case mul=>
  obtain ⟨g,e⟩:=dw e;refine P.mul_int (fin e) ?_;rcases Wm.mp g with g|g;·exact IntMulOk.of_left (intBits_le (jK g))
  ·exact IntMulOk.of_right (intBits_le (jK g))
 case fdiv=>
  obtain ⟨g,e⟩:=dw e;obtain ⟨g1,g2⟩:=Su.mp g;have g1:=of_decide_eq_true g1;refine floordiv_int (acC g1) (fin (by rw [YJ _ (Ww g1)];exact e)) (.inl (Yt ?_));have:=jK g2;by_cases z:b.natAbs=0;·rw [z];decide
  ·have:=(Nat.log2_lt z).mpr this;exact (Ln.n1 0x18488a228e2012220900) this
 case mod=>obtain ⟨g,e⟩:=dw e;exact mod_int' (acC g) (fin (by rw [Int.fmod_eq_emod_of_nonneg _ (Ww g)];exact e))
 case pow=>obtain ⟨g,e⟩:=dw e;obtain ⟨g,g3⟩:=Su.mp g;obtain ⟨g1,g2⟩:=Su.mp g;exact pow_int_small (of_decide_eq_true g2) (acJ (of_decide_eq_true g3) (by decide)) (jK g1) (fin e)
 case band=>obtain ⟨g,e⟩:=dw e;obtain ⟨g1,g2⟩:=Su.mp g;exact and_int (by rw [bitAnd_nn (of_decide_eq_true g1) (of_decide_eq_true g2)];exact fin e)
 case bor=>obtain ⟨g,e⟩:=dw e;obtain ⟨g1,g2⟩:=Su.mp g;exact or_int (by rw [A5 (of_decide_eq_true g1) (of_decide_eq_true g2)];exact fin e)
 case shl=>obtain ⟨g,e⟩:=dw e;obtain ⟨g,g3⟩:=Su.mp g;obtain ⟨g1,g2⟩:=Su.mp g;exact lshift_int_small (of_decide_eq_true g2) (acJ (of_decide_eq_true g3) (by decide)) (jK g1) (fin e)
 case shr=>obtain ⟨g,e⟩:=dw e;obtain ⟨g1,g2⟩:=Su.mp g;exact rshift_int (of_decide_eq_true g2) (by rw [HG];exact fin e)
 case bxor=>exact ns e
theorem Hj (e:jop op a b=some r) (R:RH T B F X H s.heap) (k:Cont T B F X H s (.int r) Q):wpAny (model T.prog T.w) A (inplaceOp op.py (.int a t) (.int b u)) Q E s:=by
 have fin: ∀{i:Int},r=i->Q (.int i s.toks) {s with toks:=s.toks+1}:=λ{i} q=>k.tok R (by exact (q).symm▸(⟨_,rfl⟩));cases op;case add=>exact P.iadd_int (fin (Sm e).symm)
 case sub=>exact P.isub_int (fin (Sm e).symm)
 case bor=>obtain ⟨g,e⟩:=dw e;obtain ⟨g1,g2⟩:=Su.mp g;exact ior_int (by rw [A5 (of_decide_eq_true g1) (of_decide_eq_true g2)];exact fin e)
 case shr=>obtain ⟨g,e⟩:=dw e;obtain ⟨g1,g2⟩:=Su.mp g;exact irshift_int (of_decide_eq_true g2) (by rw [HG];exact fin e)
 all_goals exact ns e
end
structure CC where
 T:eS
 nm:List Str
 sc:List (Str×VF)
 zo:Str->Bool
 cv:Option Str
section
variable [DecidableEq Str]
noncomputable def CC.glob (c:CC) (x:Str):Bool:=(c.sc.lookup x==some .globalImplicit)&& !(x==("__debug__":Str))
noncomputable def CC.top (c:CC) (x:Str):Option Te:=if c.glob x then (match nsIn c.T.K UC x with
 |some (some v)=>some v
 |_=>none) else none
noncomputable def CC.bi (c:CC) (x:Str):Option Te:=if c.glob x&& !(x==("__name__":Str)) then (match nsIn c.T.K UC x with
 |some none=>Xx x
 |_=>none) else none
end
noncomputable def As (o:Option Te) (n:String):Bool:=match o with
 |some (.builtin m)=>m==n
 |_=>false
noncomputable def Gu (o:Option Te) (n:String):Bool:=match o with
 |some (.type m)=>m==n
 |_=>false
noncomputable def isRef (o:Option Te) (a:Um):Bool:=match o with
 |some (.ref b)=>b==a
 |_=>false
noncomputable def gV {p:Prop} (h:false=true):p:=nomatch h
theorem jX (h:As o n=true):o=some (.builtin n):=by
 cases o with
 |none=>exact gV h
 |some v=>cases v<;>first|exact gV h|exact eq_of_beq h▸rfl
theorem mh (h:Gu o n=true):o=some (.type n):=by
 cases o with
 |none=>exact gV h
 |some v=>cases v<;>first|exact gV h|exact eq_of_beq h▸rfl
theorem o6 (h:isRef o n=true):o=some (.ref n):=by
 cases o with
 |none=>exact gV h
 |some v=>cases v<;>first|exact gV h|exact eq_of_beq h▸rfl
theorem di {G:Prop} (h:(a&&b)=true) (k:a=true->b=true->G):G:=k (Su.mp h).1 (Su.mp h).2
theorem qf {G:Prop} (h:(a&&b&&c)=true) (k:a=true->b=true->c=true->G):G:=di h λh h3=>di h λh1 h2=>k h1 h2 h3
theorem lZ {G:Prop} (h:(a&&b&&c&&d)=true) (k:a=true->b=true->c=true->d=true->G):G:=di h λh h4=>qf h λh1 h2 h3=>k h1 h2 h3 h4
theorem F6 {G:Prop} (h:(a&&b&&c&&d&&e)=true) (k:a=true->b=true->c=true->d=true->e=true->G):G:=di h λh h5=>lZ h λh1 h2 h3 h4=>k h1 h2 h3 h4 h5
theorem Ip {α:Type} [Decidable c] {o:Option α} {r:α} (e:(if c then o else none)=some r):c/\o=some r:=by
 by_cases h:c;·rw [if_pos h] at e;exact ⟨h,e⟩
 ·rw [if_neg h] at e;cases e
noncomputable def one {α:Type} (l:List α) (f:α->Bool):Bool:=match l with
 |[]=>false
 |z::r=>r.isEmpty&&f z
noncomputable def two {α:Type} (l:List α) (f:α->α->Bool):Bool:=match l with
 |[]=>false
 |y::r=>one r λz=>f y z
theorem eg {α:Type} {l:List α} {f:α->Bool} {M:List α->Prop} (h:one l f=true) (k: ∀z,f z=true->M [z]):M l:=by
 cases l with
 |nil=>exact gV h
 |cons z r=>
  cases r with
  |nil=>exact k z h
  |cons _ _=>exact gV h
theorem ym {α:Type} {l:List α} {f:α->α->Bool} {M:List α->Prop} (h:two l f=true) (k: ∀y z,f y z=true->M [y,z]):M l:=by
 cases l with
 |nil=>exact gV h
 |cons y r=>exact eg (M:=λr=>M (y::r)) h (k y)
theorem xU {α:Type} {o:Option α} {f:α->Bool} (h:o.any f=true): ∃a,o=some a/\f a=true:=by
 cases o with
 |none=>cases h
 |some a=>exact ⟨a,rfl,h⟩
noncomputable def kL {n m:Nat} (k:n=m->Bool):Bool:=if h:n=m then k h else false
theorem bF {k:n=m->Bool} (h:kL k=true): ∃e,k e=true:=by
 by_cases z:n=m;·exact ⟨z,((dif_pos z).symm.trans h:k z=true)⟩
 ·exact gV ((dif_neg z).symm.trans h)
section views
variable {x:UI} {M:UI->Prop}
noncomputable def iz (x:UI) (P:Str->Bool):Bool:=kL (n:=x.ctorIdx) (m:=23) λh=>VH (motive_1:=λz=>Bool) x h λn z=>P n
theorem fu (h:iz x P=true) (k: ∀n p,P n=true->M (.Name n p)):M x:=by obtain ⟨e,h⟩:=bF h;exact VH (motive_1:=λx=> ∀e:x.ctorIdx=23,VH (motive_1:=λz=>Bool) x e (λn z=>P n)=true->M x) x e (λn p z h=>k n p h) e h
noncomputable def sq (x:UI) (P:acf->Bool):Bool:=kL (n:=x.ctorIdx) (m:=19) λh=>WO (motive_1:=λz=>Bool) x h λc z z=>P c
theorem qE (h:sq x P=true) (k: ∀c kk p,P c=true->M (.Constant c kk p)):M x:=by obtain ⟨e,h⟩:=bF h;exact WO (motive_1:=λx=> ∀e:x.ctorIdx=19,WO (motive_1:=λz=>Bool) x e (λc z z=>P c)=true->M x) x e (λc kk p z h=>k c kk p h) e h
noncomputable def Pb (x:UI) (P:UI->Operator->UI->Bool):Bool:=kL (n:=x.ctorIdx) (m:=2) λh=>XR (motive_1:=λz=>Bool) x h λl o r z=>P l o r
theorem MM (h:Pb x P=true) (k: ∀l o r p,P l o r=true->M (.BinOp l o r p)):M x:=by obtain ⟨e,h⟩:=bF h;exact XR (motive_1:=λx=> ∀e:x.ctorIdx=2,XR (motive_1:=λz=>Bool) x e (λl o r z=>P l o r)=true->M x) x e (λl o r p z h=>k l o r p h) e h
noncomputable def QV (x:UI) (P:UnaryOp->UI->Bool):Bool:=kL (n:=x.ctorIdx) (m:=3) λh=>W0 (motive_1:=λz=>Bool) x h λuo a z=>P uo a
theorem Jp (h:QV x P=true) (k: ∀uo a p,P uo a=true->M (.UnaryOp uo a p)):M x:=by obtain ⟨e,h⟩:=bF h;exact W0 (motive_1:=λx=> ∀e:x.ctorIdx=3,W0 (motive_1:=λz=>Bool) x e (λuo a z=>P uo a)=true->M x) x e (λuo a p z h=>k uo a p h) e h
noncomputable def CY (x:UI) (P:BoolOp->List UI->Bool):Bool:=kL (n:=x.ctorIdx) (m:=0) λh=>Xq (motive_1:=λz=>Bool) x h λbo ls z=>P bo ls
theorem Ax (h:CY x P=true) (k: ∀bo ls p,P bo ls=true->M (.BoolOp bo ls p)):M x:=by obtain ⟨e,h⟩:=bF h;exact Xq (motive_1:=λx=> ∀e:x.ctorIdx=0,Xq (motive_1:=λz=>Bool) x e (λbo ls z=>P bo ls)=true->M x) x e (λbo ls p z h=>k bo ls p h) e h
noncomputable def KX (x:UI) (P:UI->List CmpOp->List UI->Bool):Bool:=kL (n:=x.ctorIdx) (m:=15) λh=>W3 (motive_1:=λz=>Bool) x h λl os rs z=>P l os rs
theorem Hs (h:KX x P=true) (k: ∀l os rs p,P l os rs=true->M (.Compare l os rs p)):M x:=by obtain ⟨e,h⟩:=bF h;exact W3 (motive_1:=λx=> ∀e:x.ctorIdx=15,W3 (motive_1:=λz=>Bool) x e (λl os rs z=>P l os rs)=true->M x) x e (λl os rs p z h=>k l os rs p h) e h
noncomputable def abD (x:UI) (P:UI->UI->UI->Bool):Bool:=kL (n:=x.ctorIdx) (m:=5) λh=>XQ (motive_1:=λz=>Bool) x h λt a b z=>P t a b
theorem Q5 (h:abD x P=true) (k: ∀t a b p,P t a b=true->M (.IfExp t a b p)):M x:=by obtain ⟨e,h⟩:=bF h;exact XQ (motive_1:=λx=> ∀e:x.ctorIdx=5,XQ (motive_1:=λz=>Bool) x e (λt a b z=>P t a b)=true->M x) x e (λt a b p z h=>k t a b p h) e h
noncomputable def sW (x:UI) (P:UI->Str->Pos->Bool):Bool:=kL (n:=x.ctorIdx) (m:=20) λh=>WG (motive_1:=λz=>Bool) x h λv bP p=>P v bP p
theorem pW (h:sW x P=true) (k: ∀v bP p,P v bP p=true->M (.Attribute v bP p)):M x:=by obtain ⟨e,h⟩:=bF h;exact WG (motive_1:=λx=> ∀e:x.ctorIdx=20,WG (motive_1:=λz=>Bool) x e (λv bP p=>P v bP p)=true->M x) x e (λv bP p z h=>k v bP p h) e h
noncomputable def D7 (x:UI) (P:UI->UI->Bool):Bool:=kL (n:=x.ctorIdx) (m:=21) λh=>WE (motive_1:=λz=>Bool) x h λv s z=>P v s
theorem xQ (h:D7 x P=true) (k: ∀v s p,P v s=true->M (.Subscript v s p)):M x:=by obtain ⟨e,h⟩:=bF h;exact WE (motive_1:=λx=> ∀e:x.ctorIdx=21,WE (motive_1:=λz=>Bool) x e (λv s z=>P v s)=true->M x) x e (λv s p z h=>k v s p h) e h
noncomputable def BH (x:UI) (P:Option UI->Option UI->Option UI->Bool):Bool:=kL (n:=x.ctorIdx) (m:=26) λh=>XO (motive_1:=λz=>Bool) x h λlo hi st z=>P lo hi st
theorem CS (h:BH x P=true) (k: ∀lo hi st p,P lo hi st=true->M (.Slice lo hi st p)):M x:=by obtain ⟨e,h⟩:=bF h;exact XO (motive_1:=λx=> ∀e:x.ctorIdx=26,XO (motive_1:=λz=>Bool) x e (λlo hi st z=>P lo hi st)=true->M x) x e (λlo hi st p z h=>k lo hi st p h) e h
noncomputable def DK (x:UI) (P:List UI->Bool):Bool:=kL (n:=x.ctorIdx) (m:=25) λh=>XN (motive_1:=λz=>Bool) x h λls z z=>P ls
theorem yZ (h:DK x P=true) (k: ∀ls kk p,P ls=true->M (.Tuple ls kk p)):M x:=by obtain ⟨e,h⟩:=bF h;exact XN (motive_1:=λx=> ∀e:x.ctorIdx=25,XN (motive_1:=λz=>Bool) x e (λls z z=>P ls)=true->M x) x e (λls kk p z h=>k ls kk p h) e h
noncomputable def HH (x:UI) (P:List UI->Bool):Bool:=kL (n:=x.ctorIdx) (m:=24) λh=>X6 (motive_1:=λz=>Bool) x h λls z=>P ls
theorem HT (h:HH x P=true) (k: ∀ls p,P ls=true->M (.List ls p)):M x:=by obtain ⟨e,h⟩:=bF h;exact X6 (motive_1:=λx=> ∀e:x.ctorIdx=24,X6 (motive_1:=λz=>Bool) x e (λls z=>P ls)=true->M x) x e (λls p z h=>k ls p h) e h
noncomputable def JY (x:UI) (P:List (Option UI)->List UI->Bool):Bool:=kL (n:=x.ctorIdx) (m:=6) λh=>X7 (motive_1:=λz=>Bool) x h λok ls z=>P ok ls
theorem GZ (h:JY x P=true) (k: ∀ok ls p,P ok ls=true->M (.Dict ok ls p)):M x:=by obtain ⟨e,h⟩:=bF h;exact X7 (motive_1:=λx=> ∀e:x.ctorIdx=6,X7 (motive_1:=λz=>Bool) x e (λok ls z=>P ok ls)=true->M x) x e (λok ls p z h=>k ok ls p h) e h
noncomputable def su (x:UI) (P:UI->List UI->List Keyword->Pos->Bool):Bool:=kL (n:=x.ctorIdx) (m:=16) λh=>X8 (motive_1:=λz=>Bool) x h λf ls ks p=>P f ls ks p
theorem wX (h:su x P=true) (k: ∀f ls ks p,P f ls ks p=true->M (.Call f ls ks p)):M x:=by obtain ⟨e,h⟩:=bF h;exact X8 (motive_1:=λx=> ∀e:x.ctorIdx=16,X8 (motive_1:=λz=>Bool) x e (λf ls ks p=>P f ls ks p)=true->M x) x e (λf ls ks p z h=>k f ls ks p h) e h
noncomputable def Dw (x:UI) (P:UI->List Comprehension->Y0->Bool):Bool:=kL (n:=x.ctorIdx) (m:=8) λh=>WN (motive_1:=λz=>Bool) x h λe gs sc z=>P e gs sc
theorem Gf (h:Dw x P=true) (k: ∀e gs sc p,P e gs sc=true->M (.ListComp e gs sc p)):M x:=by obtain ⟨e,h⟩:=bF h;exact WN (motive_1:=λx=> ∀e:x.ctorIdx=8,WN (motive_1:=λz=>Bool) x e (λe gs sc z=>P e gs sc)=true->M x) x e (λe gs sc p z h=>k e gs sc p h) e h
noncomputable def OZ (x:UI) (P:UI->CmpOp->UI->Bool):Bool:=KX x λl os rs=>one os λo=>one rs λr=>P l o r
theorem MF (h:OZ x P=true) (k: ∀l o r p,P l o r=true->M (.Compare l [o] [r] p)):M x:=Hs h λl os rs p h=>eg (M:=λos=>M (.Compare l os rs p)) h λo h=>eg (M:=λrs=>M (.Compare l [o] rs p)) h λr h=>k l o r p h
noncomputable def DW (x:UI) (P:Option UI->Option UI->Bool):Bool:=BH x λa b c=>c.isNone&&P a b
theorem FF (h:DW x P=true) (k: ∀a b p,P a b=true->M (.Slice a b none p)):M x:=CS h λa b c p h=>by
 cases c with
 |none=>exact k a b p h
 |some _=>exact gV h
noncomputable def fP (x:UI) (P:Str->List UI->Bool):Bool:=su x λf l k z=>k.isEmpty&&iz f λn=>P n l
theorem cP (h:fP x P=true) (k: ∀n p l q,P n l=true->M (.Call (.Name n p) l [] q)):M x:=wX h λf l ks q h=>by
 cases ks with
 |nil=>exact fu (M:=λf=>M (.Call f l [] q)) h λn p h=>k n p l q h
 |cons _ _=>exact gV h
noncomputable def C5 (x:UI) (P:UI->Str->List UI->Bool):Bool:=su x λf l k q=>k.isEmpty&&sW f λv a p=>(p.endLine==q.line)&&decide (l.length<30)&&P v a l
theorem Bt (h:C5 x P=true) (k: ∀v a p l q,(p.endLine==q.line)=true->l.length<30->P v a l=true->M (.Call (.Attribute v a p) l [] q)):M x:=by
 refine wX h λf l ks q h=> ?_;cases ks with
 |cons _ _=>exact gV h
 |nil=>refine pW (M:=λf=>M (.Call f l [] q)) h λv a p h=> ?_;have h1:=Su.mp h;have h2:=Su.mp h1.1;exact k v a p l q h2.1 (of_decide_eq_true h2.2) h1.2
noncomputable def gA:Option UI->List UI
 |none=>[]
 |some c=>[c]
noncomputable def OE (l:List UI) (P:Option UI->Bool):Bool:=match l with
 |[]=>P none
 |c::r=>r.isEmpty&&P (some c)
theorem Mg {M:List UI->Prop} (h:OE l P=true) (k: ∀w,P w=true->M (gA w)):M l:=by
 cases l with
 |nil=>exact k none h
 |cons c r=>
  cases r with
  |nil=>exact k (some c) h
  |cons _ _=>exact gV h
noncomputable def CZ (x:UI) (P:UI->Str->UI->Option UI->Y0->Bool):Bool:=Dw x λe gs sc=>one gs λg=>iz g.target λt=>g.is_async==0&&OE g.ifs λw=>P e t g.iter w sc
theorem oM (h:CZ x P=true) (k: ∀e t q it w sc p,P e t it w sc=true->M (.ListComp e [⟨.Name t q,it,gA w,0⟩] sc p)):M x:=by refine Gf h λe gs sc p h=>eg (M:=λgs=>M (.ListComp e gs sc p)) h λg h=> ?_;obtain ⟨tg,it,ifs,as⟩:=g;refine fu (M:=λtg=>M (.ListComp e [⟨tg,it,ifs,as⟩] sc p)) h λt q h=> ?_;obtain ⟨h1,h⟩:=Su.mp h;rw [show as=0 from beq_iff_eq.mp h1];exact Mg (M:=λifs=>M (.ListComp e [⟨.Name t q,it,ifs,0⟩] sc p)) h λw h=>k e t q it w sc p h
noncomputable def zf (x:UI):Bool:= !(x.ctorIdx==26)
noncomputable def uJ (x:UI):Bool:= !(x.ctorIdx==7)
noncomputable def jO (x:UI):Bool:= !(su x λf z z z=>iz f λid=>id==("super":Str))
end views
noncomputable def aN (x:UI):Bool:= !(x.ctorIdx==22)
noncomputable def tw (v:J) (k:acf):Bool:=match v with
 | .none=>k.ctorIdx==0
 | .bool a=>kL (n:=k.ctorIdx) (m:=1) λh=>XS (motive:=λz=>Bool) k h λb=>a==b
 | .int a=>kL (n:=k.ctorIdx) (m:=2) λh=>Yc (motive:=λz=>Bool) k h λb=>a==b
 | .bytes a=>kL (n:=k.ctorIdx) (m:=6) λh=>Xs (motive:=λz=>Bool) k h λb=>a==b&&decide (a.length<=4096)
 |_=>false
theorem Ef {M:J->acf->Prop} (h:tw v k=true) (h0:M .none .none) (h1: ∀b,M (.bool b) (.bool b)) (h2: ∀i,M (.int i) (.int i)) (h3: ∀b,b.length<=4096->M (.bytes b) (.bytes b)):M v k:=by
 cases v<;>first|exact gV h|skip
 ·exact Const.none.elim (motive:=λk=>M .none k) k (beq_iff_eq.mp h) h0
 ·obtain ⟨e,h⟩:=bF h;exact XS (motive:=λk=> ∀e:k.ctorIdx=1,XS (motive:=λz=>Bool) k e (λb=>_==b)=true->M _ k) k e (λb z h=>beq_iff_eq.mp h▸h1 _) e h
 ·obtain ⟨e,h⟩:=bF h;exact Yc (motive:=λk=> ∀e:k.ctorIdx=2,Yc (motive:=λz=>Bool) k e (λb=>_==b)=true->M _ k) k e (λb z h=>beq_iff_eq.mp h▸h2 _) e h
 ·obtain ⟨e,h⟩:=bF h;exact Xs (motive:=λk=> ∀e:k.ctorIdx=6,Xs (motive:=λz=>Bool) k e (λb=>_==b&&decide (_<=4096))=true->M _ k) k e (λb z h=>beq_iff_eq.mp (Su.mp h).1▸h3 _ (of_decide_eq_true (Su.mp h).2)) e h
noncomputable def litVal (v:J) (u:Te):Bool:=match v with
 | .none=>(match u with
  | .none=>true
  |_=>false)
 | .bool a=>(match u with
  | .bool b=>a==b
  |_=>false)
 | .int a=>(match u with
  | .int b _=>a==b
  |_=>false)
 | .bytes a=>(match u with
  | .bytes b _=>a==b.toList&&decide (a.length<=4096)
  |_=>false)
 |_=>false
section
variable [DecidableEq Str]
noncomputable def eE (sc:List (Str×VF)) (s:Y0):List (Str×VF):=s.names.map λ(n,k)=>if k== .free&&sc.lookup n==some .cell then (n,.cell) else (n,k)
noncomputable def CC.inner (c:CC) (t:Str) (s:Y0):CC:={T:=c.T,nm:=c.nm,sc:=eE c.sc s,zo:=λx=>c.zo x&&(eE c.sc s).lookup x==some .cell&& !(x==t),cv:=some t}
noncomputable def gB (sc:List (Str×VF)) (t:Str) (s:Y0):Bool:=s.kind== .function&&s.names.lookup t==some .local&&s.names.all λ(n,k)=>(s.names.lookup n==some .local&&k== .local)||(k== .globalImplicit&& !(n==t))||(k== .free&&sc.lookup n==some .cell&& !(n==t))
mutual noncomputable def cF (c:CC):Ex->UI->Bool
 | .lit v,x=>sq x λk=>tw v k
 | .var i,x=>iz x λn=>c.nm[i]? ==some n&&c.zo n&& !(n==("__debug__":Str))&& !(n==("__classdict__":Str))
 | .cvar,x=>iz x λn=>c.cv==some n&& !(n==("__debug__":Str))&& !(n==("__classdict__":Str))
 | .glob g,x=>iz x λn=>(c.top n).any λv=>litVal (zx g) v
 | .bin op a b,x=>Pb x λl o r=>o==op.py&&cF c a l&&cF c b r
 | .neg a,x=>QV x λo y=>o== .USub&&cF c a y
 | .not a,x=>QV x λo y=>o== .Not&&cF c a y
 | .and l,x=>CY x λo r=>o== .And&&uT c l r
 | .or l,x=>CY x λo r=>o== .Or&&uT c l r
 | .cmp op a b,x=>OZ x λl o r=>o==op.py&& !behindInMarks o r&&cF c a l&&cF c b r
 | .ite t a b,x=>abD x λy l r=>cF c t y&&cF c a l&&cF c b r
 | .attr a f,x=>sW x λy n u=>n==c.T.aY f&&jO y&&cF c a y
 | .item a i,x=>D7 x λy z=>zf z&&cF c a y&&cF c i z
 | .slice a lo hi,x=>D7 x λy z=>DW z λl h=>cF c a y&&JX c lo l&&JX c hi h
 | .bW l,x=>DK x λr=>decide (r.length<=1000)&&uT c l r
 | .list l,x=>HH x λr=>decide (r.length<=1000)&&uT c l r
 | .comp e it q,x=>CZ x λy t z w s=>uJ z&&gB c.sc t s&&cF (c.inner t s) e y&&cF c it z&&JX (c.inner t s) q w
 | .gp e r q,x=>CZ x λy t z w s=>(fP z λn l=>Gu (c.bi n) "range"&&uT c r l)&&gB c.sc t s&&cF (c.inner t s) e y&&JX (c.inner t s) q w
 | .ru,x=>JY x λa b=>a.isEmpty&&b.isEmpty
 | .q7,x=>fP x λn l=>Gu (c.bi n) "bytearray"&&l.isEmpty
 | .call f l,x=>fP x λn r=>isRef (c.top n) (c.T.fn f)&&uT c l r
 | .new C l,x=>fP x λn r=>isRef (c.top n) (c.T.cl C)&&uT c l r
 | .iA o m l,x=>C5 x λy n r=>n==c.T.mname m&&jO y&&cF c o y&&uT c l r
 | .append o e,x=>C5 x λy n r=>n==("append":Str)&&jO y&&cF c o y&&(one r λz=>aN z&&cF c e z)
 | .len a,x=>fP x λn r=>As (c.bi n) "len"&&(one r λz=>aN z&&cF c a z)
 | .bytesOf a,x=>fP x λn r=>Gu (c.bi n) "bytes"&&(one r λz=>aN z&&cF c a z)
 | .sum a,x=>fP x λn r=>As (c.bi n) "sum"&&(one r λz=>aN z&&cF c a z)
 | .sorted a,x=>fP x λn r=>As (c.bi n) "sorted"&&(one r λz=>aN z&&cF c a z)
 | .all a,x=>fP x λn r=>As (c.bi n) "all"&&(one r λz=>aN z&&cF c a z)
 | .min a b,x=>fP x λn r=>As (c.bi n) "min"&&(two r λy z=>aN y&&aN z&&cF c a y&&cF c b z)
 | .max a b,x=>fP x λn r=>As (c.bi n) "max"&&(two r λy z=>aN y&&aN z&&cF c a y&&cF c b z)
 | .isBool a,x=>fP x λn r=>As (c.bi n) "isinstance"&&(two r λy z=>aN y&&cF c a y&&(iz z λm=>Gu (c.bi m) "bool"))
 | .freeze a,x=>cF c a x
 | .cQ a,x=>cF c a x noncomputable def JX (c:CC):sf->Option UI->Bool
 | .none,x=>x.isNone
 | .some e,x=>x.any λy=>cF c e y noncomputable def uT (c:CC):ir->List UI->Bool
 | .nil,l=>l.isEmpty
 | .cons e r,l=>match l with
  |y::z=>aN y&&cF c e y&&uT c r z
  |[]=>false end
end
theorem mJ: ∀a b:List UInt8,blt a b=(Builtin.Bytes.order a b== .lt)/\(!blt b a)=(Builtin.Bytes.order a b != .gt):=by
 intro l_;induction l_ with
 |nil=>
  intro m_;cases m_ with
  |nil=>exact ⟨rfl,rfl⟩
  |cons _ _=>exact ⟨rfl,rfl⟩
 |cons x a aG=>
  intro m_;cases m_ with
  |nil=>exact ⟨rfl,rfl⟩
  |cons y b=>
   exact by
    dsimp only [blt,Builtin.Bytes.order];by_cases h:x=y;·subst h;have e: ¬x<x:=ZZ x;simp only [if_true,if_neg e,gt_iff_lt];exact aG b
    ·have h': ¬y=x:=λe=>h e.symm;simp only [if_neg h,if_neg h'];by_cases h1:x<y;·have h2: ¬y<x:=λe=>ZZ x (UInt8.lt_trans h1 e);simp [h1,h2]
     ·have h2:y<x:=UInt8.lt_of_le_of_ne (UInt8.not_lt.mp h1) (λe=>h e.symm);simp [h1,h2]
section
open Builtin
theorem oK.N9:Slot "bytes" (cmpInfo .Lt).2.1 "bytes.__lt__":=.of (owner:="bytes") (n:="__lt__") (by rw [typeLookup_type,builtinLookup_eq_fast];kernel_rfl) (by decide+kernel) (by decide+kernel) (by decide+kernel) (by first|exact .inl (by decide+kernel)|exact .inr (by decide+kernel)) (by rw [isSubtype_type];kernel_rfl)
theorem oK.N3:Slot "bytes" (cmpInfo .LtE).2.1 "bytes.__le__":=.of (owner:="bytes") (n:="__le__") (by rw [typeLookup_type,builtinLookup_eq_fast];kernel_rfl) (by decide+kernel) (by decide+kernel) (by decide+kernel) (by first|exact .inl (by decide+kernel)|exact .inr (by decide+kernel)) (by rw [isSubtype_type];kernel_rfl)
theorem oK.Nq:Slot "bytes" (cmpInfo .Gt).2.1 "bytes.__gt__":=.of (owner:="bytes") (n:="__gt__") (by rw [typeLookup_type,builtinLookup_eq_fast];kernel_rfl) (by decide+kernel) (by decide+kernel) (by decide+kernel) (by first|exact .inl (by decide+kernel)|exact .inr (by decide+kernel)) (by rw [isSubtype_type];kernel_rfl)
theorem oK.Ng:Slot "bytes" (cmpInfo .GtE).2.1 "bytes.__ge__":=.of (owner:="bytes") (n:="__ge__") (by rw [typeLookup_type,builtinLookup_eq_fast];kernel_rfl) (by decide+kernel) (by decide+kernel) (by decide+kernel) (by first|exact .inl (by decide+kernel)|exact .inr (by decide+kernel)) (by rw [isSubtype_type];kernel_rfl)
theorem oK.Ir:entryFor table "bytes.__lt__"=some Builtin.«bytes.__lt__»:=entryFor_of_tree (by kernel_rfl)
theorem oK.Hf:entryFor table "bytes.__le__"=some Builtin.«bytes.__le__»:=entryFor_of_tree (by kernel_rfl)
theorem oK.KL:entryFor table "bytes.__gt__"=some Builtin.«bytes.__gt__»:=entryFor_of_tree (by kernel_rfl)
theorem oK.Lh:entryFor table "bytes.__ge__"=some Builtin.«bytes.__ge__»:=entryFor_of_tree (by kernel_rfl)
theorem oK.Oq (a b:Te):argsOk "bytes.__lt__" ⟨[a,b],[]⟩:=by kernel_rfl
theorem oK.Mi (a b:Te):argsOk "bytes.__le__" ⟨[a,b],[]⟩:=by kernel_rfl
theorem oK.Nz (a b:Te):argsOk "bytes.__gt__" ⟨[a,b],[]⟩:=by kernel_rfl
theorem oK.LV (a b:Te):argsOk "bytes.__ge__" ⟨[a,b],[]⟩:=by kernel_rfl
theorem oK.HY (b c:Array UInt8) (t u:Tok):Gives («bytes.__lt__» ⟨[.bytes b t,.bytes c u],[]⟩) (.val (.bool (Bytes.order b.toList c.toList== .lt))):=by refine .of_wp λM A E s Q hq=>(?_:wpAny M A (isInstance (.bytes c u) (.type "bytes")>>=λr=>_) _ E s);refine Sw (Vp (typeIs_bytes s c u) PySem.F.sub_bytes_bytes ?_);exact SN (aH _ rfl hq)
theorem oK.Ib (b c:Array UInt8) (t u:Tok):Gives («bytes.__le__» ⟨[.bytes b t,.bytes c u],[]⟩) (.val (.bool (Bytes.order b.toList c.toList != .gt))):=by refine .of_wp λM A E s Q hq=>(?_:wpAny M A (isInstance (.bytes c u) (.type "bytes")>>=λr=>_) _ E s);refine Sw (Vp (typeIs_bytes s c u) PySem.F.sub_bytes_bytes ?_);exact SN (aH _ rfl hq)
theorem oK.Hv (b c:Array UInt8) (t u:Tok):Gives («bytes.__gt__» ⟨[.bytes b t,.bytes c u],[]⟩) (.val (.bool (Bytes.order b.toList c.toList== .gt))):=by refine .of_wp λM A E s Q hq=>(?_:wpAny M A (isInstance (.bytes c u) (.type "bytes")>>=λr=>_) _ E s);refine Sw (Vp (typeIs_bytes s c u) PySem.F.sub_bytes_bytes ?_);exact SN (aH _ rfl hq)
theorem oK.Jl (b c:Array UInt8) (t u:Tok):Gives («bytes.__ge__» ⟨[.bytes b t,.bytes c u],[]⟩) (.val (.bool (Bytes.order b.toList c.toList != .lt))):=by refine .of_wp λM A E s Q hq=>(?_:wpAny M A (isInstance (.bytes c u) (.type "bytes")>>=λr=>_) _ E s);refine Sw (Vp (typeIs_bytes s c u) PySem.F.sub_bytes_bytes ?_);exact SN (aH _ rfl hq)
end
theorem Jb (a b:List UInt8):(Builtin.Bytes.order a b== .gt)=blt b a:=by have:=(mJ a b).2;cases h:blt b a<;>rw [h] at this<;>cases e:Builtin.Bytes.order a b<;>rw [e] at this<;>first|rfl|exact Uu this
theorem Gw (a b:List UInt8):(Builtin.Bytes.order a b != .lt)= !blt a b:=by rw [(mJ a b).1];rfl
section
variable {T:eS} {B:Vr} {F:List Um} {X:Nat->Um} {H:U} {A:Wc} {E:Te->Tz->Prop} {s:Tz} {Q:Te->Tz->Prop}
theorem N4 (e:abN op a b=some r) (k:Q (.bool r) s):wpAny (model T.prog T.w) A (Wy op.py (.int a t) (.int b u)) Q E s:=by
 cases op<;>first|exact ns e|skip
 all_goals obtain rfl:=Sm e
 ·exact P.eq_int (by rw [show (a==b)=decide (a=b) from rfl];exact k)
 ·exact P.ne_int (by rw [show (a != b)=decide (a≠b) from by rw [W5];simp];exact k)
 ·exact P.lt_int k
 ·exact P.le_int k
 ·exact P.gt_int k
 ·exact P.ge_int k
theorem F7 (e:aaR op a b=some r) (k:Q (.bool r) s):wpAny (model T.prog T.w) A (Wy op.py (.bytes a.toArray t) (.bytes b.toArray u)) Q E s:=by
 cases op<;>first|exact ns e|skip
 all_goals obtain rfl:=Sm e
 ·exact eq_bytes (by rw [show (a.toArray.toList==b.toArray.toList)=decide (a=b) from by rw [W5];simp];exact k)
 ·exact ne_bytes (by rw [show (a.toArray.toList != b.toArray.toList)=decide (a≠b) from by rw [W5];simp];exact k)
 ·refine compareOp_gives (op:=.Lt) (typeIs_bytes s _ t) (typeIs_bytes s _ u) oK.N9 oK.Ir (oK.Oq _ _) (oK.HY _ _ t u) (λe=>VL e) ((?_:Q (.bool (Builtin.Bytes.order a b== .lt)) s));exact ((mJ a b).1)▸(k)
 ·refine compareOp_gives (op:=.LtE) (typeIs_bytes s _ t) (typeIs_bytes s _ u) oK.N3 oK.Hf (oK.Mi _ _) (oK.Ib _ _ t u) (λe=>VL e) ((?_:Q (.bool (Builtin.Bytes.order a b != .gt)) s));exact ((mJ a b).2)▸(k)
 ·refine compareOp_gives (op:=.Gt) (typeIs_bytes s _ t) (typeIs_bytes s _ u) oK.Nq oK.KL (oK.Nz _ _) (oK.Hv _ _ t u) (λe=>VL e) ((?_:Q (.bool (Builtin.Bytes.order a b== .gt)) s));rw [Jb];exact k
 ·refine compareOp_gives (op:=.GtE) (typeIs_bytes s _ t) (typeIs_bytes s _ u) oK.Ng oK.Lh (oK.LV _ _) (oK.Jl _ _ t u) (λe=>VL e) ((?_:Q (.bool (Builtin.Bytes.order a b != .lt)) s));rw [Gw];exact k
theorem o9 {Q:Bool->Tz->Prop} (e:Rc a b=some r) (ha:aE T F X H s.heap a va) (hb:aE T F X H s.heap b vb) (k:Q r s):wpAny (model T.prog T.w) A (eqBool va vb) Q E s:=by
 refine aQ λcT k_1=> ?_;cases a<;>first|exact ns e|skip
 case int a=>
  cases b<;>first|exact ns e|skip
  obtain ⟨t,rfl⟩:=ha;obtain ⟨u,rfl⟩:=hb;obtain rfl:=Sm e;exact k_1 (YN k)
 case bytes a=>
  cases b<;>first|exact ns e|skip
  obtain ⟨t,rfl,_⟩:=ha;obtain ⟨u,rfl,_⟩:=hb;cases e;exact k_1 (eqBool_bytes k)
 case bool x=>
  cases b<;>first|exact ns e|skip
  rename_i y;cases e;subst (ha) (hb);refine k_1 ((?_:wpAny _ _ (if (YH x==YH y)=true then _ else _) Q E s));by_cases hab:(YH x==YH y)=true;·
   rw [if_pos hab];have e:x=y:=by have:=eq_of_beq hab;injection this
   clear k_1 hab;subst e;exact Sw (WS (SN (by simpa using k)))
  ·rw [if_neg hab];exact Sw (show wpAny _ _ (richCompare .Eq (.bool x) (.bool y)) _ E s from eq_bool (WR k))
end
section
theorem Bc (e:H8 (p::a) (q::b)=some c): ∃u v,p=.int u/\q=.int v/\(if u=v then H8 a b else some (decide (u<v)))=some c:=by
 cases p<;>first|exact ns e|skip
 cases q<;>first|exact ns e|skip
 exact jn _ _ rfl rfl e
theorem Bb (e:Jd (p::a) (q::b)=some c):(Rc p q=some true/\Jd a b=some c)∨(Rc p q=some false/\c=false):=by
 have g: ∀o,Rc p q=o->(match o with
  |some true=>Jd a b
  |some false=>if a.length=b.length then some false else none
  |none=>none)=some c->(Rc p q=some true/\Jd a b=some c)∨(Rc p q=some false/\c=false):=λo h e=>by
  cases o with
  |none=>exact ns e
  |some v=>
   cases v with
   |true=>exact .inl ⟨h,e⟩
   |false=>exact .inr ⟨h,(dw e).2⟩
 exact g _ rfl e
theorem aB.bV (r:aB T F X H h [] vs):vs=[]:=by
 cases vs with
 |nil=>rfl
 |cons _ _=>exact r.elim
theorem aB.cons_inv (r:aB T F X H h (a::l) vs): ∃v r',vs=v::r'/\aE T F X H h a v/\aB T F X H h l r':=by
 cases vs with
 |nil=>exact r.elim
 |cons v r'=>exact jn v r' rfl r.1 r.2
theorem yc (hx:aB T F X H h x xs) (hy:aB T F X H h y ys) (hz:(u,v)::rest=Yo xs ys): ∃p x' xs' q y' ys',x=p::x'/\xs=u::xs'/\y=q::y'/\ys=v::ys'/\rest=Yo xs' ys'/\aE T F X H h p u/\aE T F X H h q v/\aB T F X H h x' xs'/\aB T F X H h y' ys':=by
 cases x with
 |nil=>replace hz:=(hx.bV)▸hz;cases hz
 |cons p x'=>
  refine ig hx.cons_inv λu' xs' d9 a1 a2=> ?_;clear hx;subst d9;cases y with
  |nil=>replace hz:=(hy.bV)▸hz;exact nomatch hz
  |cons q y'=>refine ig hy.cons_inv λv' ys' K1 b1 b2=> ?_;clear hy;subst K1;rw [XH] at hz;obtain ⟨hz1,hz2⟩:=Yp hz;clear hz;obtain ⟨e1,e2⟩:=Prod.mk.inj hz1;clear hz1;subst e1 e2 hz2;exact ⟨_,_,_,_,_,_,rfl,rfl,rfl,rfl,rfl,a1,b1,a2,b2⟩
theorem Cn (hx:aB T F X H h x xs) (hy:aB T F X H h y ys) (hz:[]=Yo xs ys):x=[]∨y=[]:=by
 cases x with
 |nil=>exact .inl rfl
 |cons p x'=>
  refine aQ λcT k_1=> ?_;cases y with
  |nil=>exact k_1 (.inr rfl)
  |cons q y'=>refine dM hx.cons_inv λu' xs' cK z=> ?_;clear hx;subst cK;refine dM hy.cons_inv λv' ys' d9 z=> ?_;clear hy;subst d9;cases hz
theorem vR {oa ob:Obj} {xs ys:Array Te} {na nb:Nat} {la lb:List J} (hoa:s.heap.get? a=some oa) (hda:oa.data=.seq xs na) (hcb:ob.cls=.type "tuple") (hob:s.heap.get? b=some ob) (hdb:ob.data=.seq ys nb) (ra:aB T F X H s.heap la xs.toList) (rb:aB T F X H s.heap lb ys.toList) (e:Jd la lb=some r) (h:P (.done (.ret (.bool r))) s):wpAny (model T.prog T.w) A (Builtin.«tuple.__eq__» ⟨[.ref a,.ref b],[]⟩) P E s:=by
 refine (?_:wpAny _ _ (isInstance (.ref b) (.type "tuple")>>=_) _ _ s);refine Sw (Vp ((aH ob hob hcb)) isSubtype_tuple_tuple ?_);refine Sw (Vt hoa hda ?_);refine Sw (Vt hob hdb ?_);refine Sw ?_;refine YM _ (λrest q s'=>q.1=none/\s'=s/\ ∃x' y' xs' ys',rest=Yo xs' ys'/\aB T F X H s.heap x' xs'/\aB T F X H s.heap y' ys'/\Jd x' y'=some r/\(xs'.length==ys'.length)=(xs.size==ys.size)) _ ?_ ?_ _ _ ⟨rfl,rfl,la,lb,xs.toList,ys.toList,rfl,ra,rb,e,rfl⟩;·
  clear hoa hob ra rb e;rintro ⟨u,v⟩ rest q s' ⟨hr,rfl,x',y',xs',ys',hz,hx',hy',iJ,hlen⟩;refine aQ λcT k_1=> ?_;obtain ⟨p,x'',Kg,p',y'',HN,rfl,rfl,rfl,rfl,rfl,a1,b1,a2,b2⟩:=yc hx' hy' hz;rcases Bb iJ with ⟨hv,iJ⟩|⟨hv,rfl⟩;·refine k_1 (Sw (o9 hv a1 b1 ?_));exact SN ⟨rfl,rfl,x'',y'',Kg,HN,rfl,a2,b2,iJ,by simpa using hlen⟩
  ·refine k_1 (Sw (o9 hv a1 b1 ?_));exact Sw (SN (SN (SN h)))
 ·clear hoa hob ra rb e;rintro ⟨r1,r2⟩ s' ⟨hr,rfl,x',y',xs',ys',hz,hx',hy',iJ,hlen⟩;subst hr;refine SN ?_;have JE:(xs.size==ys.size)=r:=by
   refine (hlen)▸ ?_;clear h;rcases Cn hx' hy' hz with rfl|rfl;·
    cases y' with
    |nil=>cases iJ;rw [hx'.bV,hy'.bV];rfl
    |cons _ _=>cases iJ
   ·cases x' with
    |nil=>cases iJ;rw [hx'.bV,hy'.bV];rfl
    |cons _ _=>cases iJ
  refine (?_:P (.done (.ret (.bool (xs.size==ys.size)))) s');exact (JE).symm▸(h)
theorem vm {oa ob:Obj} {xs ys:Array Te} {na nb:Nat} {la lb:List J} (hoa:s.heap.get? a=some oa) (hda:oa.data=.seq xs na) (hcb:ob.cls=.type "tuple") (hob:s.heap.get? b=some ob) (hdb:ob.data=.seq ys nb) (ra:aB T F X H s.heap la xs.toList) (rb:aB T F X H s.heap lb ys.toList) (e:Jd la lb=some r) (h:P (.done (.ret (.bool (!r)))) s):wpAny (model T.prog T.w) A (Builtin.«tuple.__ne__» ⟨[.ref a,.ref b],[]⟩) P E s:=by
 refine (?_:wpAny _ _ (isInstance (.ref b) (.type "tuple")>>=_) _ _ s);refine Sw (Vp ((aH ob hob hcb)) isSubtype_tuple_tuple ?_);refine Sw (Vt hoa hda ?_);refine Sw (Vt hob hdb ?_);refine Sw ?_;refine YM _ (λrest q s'=>q.1=none/\s'=s/\ ∃x' y' xs' ys',rest=Yo xs' ys'/\aB T F X H s.heap x' xs'/\aB T F X H s.heap y' ys'/\Jd x' y'=some r/\(xs'.length==ys'.length)=(xs.size==ys.size)) _ ?_ ?_ _ _ ⟨rfl,rfl,la,lb,xs.toList,ys.toList,rfl,ra,rb,e,rfl⟩;·
  clear hoa hob ra rb e;rintro ⟨u,v⟩ rest q s' ⟨hr,rfl,x',y',xs',ys',hz,hx',hy',iJ,hlen⟩;refine aQ λcT k_1=> ?_;obtain ⟨p,x'',Kg,p',y'',HN,rfl,rfl,rfl,rfl,rfl,a1,b1,a2,b2⟩:=yc hx' hy' hz;rcases Bb iJ with ⟨hv,iJ⟩|⟨hv,rfl⟩;·refine k_1 (Sw (o9 hv a1 b1 ?_));exact SN ⟨rfl,rfl,x'',y'',Kg,HN,rfl,a2,b2,iJ,by simpa using hlen⟩
  ·refine k_1 (Sw (o9 hv a1 b1 ?_));exact Sw (SN (SN (SN h)))
 ·clear hoa hob ra rb e;rintro ⟨r1,r2⟩ s' ⟨hr,rfl,x',y',xs',ys',hz,hx',hy',iJ,hlen⟩;subst hr;refine SN ?_;have JE:(xs.size==ys.size)=r:=by
   refine (hlen)▸ ?_;clear h;rcases Cn hx' hy' hz with rfl|rfl;·
    cases y' with
    |nil=>cases iJ;rw [hx'.bV,hy'.bV];rfl
    |cons _ _=>cases iJ
   ·cases x' with
    |nil=>cases iJ;rw [hx'.bV,hy'.bV];rfl
    |cons _ _=>cases iJ
  refine (?_:P (.done (.ret (.bool (xs.size != ys.size)))) s');rw [bne];exact (JE).symm▸(h)
theorem vH {oa ob:Obj} {xs ys:Array Te} {na nb:Nat} {la lb:List J} (hoa:s.heap.get? a=some oa) (hda:oa.data=.seq xs na) (hcb:ob.cls=.type "tuple") (hob:s.heap.get? b=some ob) (hdb:ob.data=.seq ys nb) (ra:aB T F X H s.heap la xs.toList) (rb:aB T F X H s.heap lb ys.toList) (e:H8 la lb=some r) (h:P (.done (.ret (.bool r))) s):wpAny (model T.prog T.w) A (Builtin.«tuple.__lt__» ⟨[.ref a,.ref b],[]⟩) P E s:=by
 refine (?_:wpAny _ _ (isInstance (.ref b) (.type "tuple")>>=_) _ _ s);refine Sw (Vp ((aH ob hob hcb)) isSubtype_tuple_tuple ?_);refine Sw (Vt hoa hda ?_);refine Sw (Vt hob hdb ?_);refine Sw ?_;refine YM _ (λrest q s'=>q.1=none/\s'=s/\ ∃x' y' xs' ys',rest=Yo xs' ys'/\aB T F X H s.heap x' xs'/\aB T F X H s.heap y' ys'/\H8 x' y'=some r/\decide (xs'.length<ys'.length)=decide (xs.size<ys.size)) _ ?_ ?_ _ _ ⟨rfl,rfl,la,lb,xs.toList,ys.toList,rfl,ra,rb,e,rfl⟩;·
  clear hoa hob ra rb e;rintro ⟨u,v⟩ rest q s' ⟨hr,rfl,x',y',xs',ys',hz,hx',hy',iJ,hlen⟩;refine aQ λcT k_1=> ?_;obtain ⟨p,x'',Kg,p',y'',HN,rfl,rfl,rfl,rfl,rfl,a1,b1,a2,b2⟩:=yc hx' hy' hz;refine ig (Bc iJ) λi j d9 Kf hd=> ?_;clear hx' hy' hz;subst d9;subst Kf;clear iJ;obtain ⟨t,rfl⟩:=a1;obtain ⟨t',rfl⟩:=b1;refine k_1 (Sw (YN ?_));by_cases hv:i=j;·replace hd:=(if_pos hv)▸hd;clear k_1;subst hv;simp only [beq_self_eq_true,Bool.not_true,VI,if_false];exact SN ⟨rfl,rfl,x'',y'',Kg,HN,rfl,a2,b2,hd,by simpa using hlen⟩
  ·replace hd:=(if_neg hv)▸hd;clear k_1;obtain rfl:=Sm hd;refine (show (i==j)=false by simpa using hv).symm▸ ?_;refine Sw (WS (Sw (show wpAny _ _ (Wy .Lt (.int i t) (.int j t')) _ _ _ from PySem.P.lt_int ?_)));exact Sw (SN (SN (SN h)))
 ·clear hoa hob ra rb e;rintro ⟨r1,r2⟩ s' ⟨hr,rfl,x',y',xs',ys',hz,hx',hy',iJ,hlen⟩;subst hr;refine SN ?_;have JE:decide (xs.size<ys.size)=r:=by
   refine (hlen)▸ ?_;clear h hlen;rcases Cn hx' hy' hz with rfl|rfl;·
    clear hz;cases y' with
    |nil=>obtain rfl:=Sm iJ;rw [hx'.bV,hy'.bV];rfl
    |cons _ _=>obtain rfl:=Sm iJ;obtain ⟨_,_,rfl,_⟩:=hy'.cons_inv;refine (hx'.bV).symm▸ ?_;simp
   ·refine (hy'.bV).symm▸ ?_;clear hx';cases x'<;>(cases iJ;simp)
  refine (?_:P (.done (.ret (.bool (decide (xs.size<ys.size))))) s');exact (JE).symm▸(h)
theorem Om (hu:A.units<cLine) (e:aaf op a b=some r) (ha:aE T F X H s.heap (.bW a) va) (hb:aE T F X H s.heap (.bW b) vb) (k:Q (.bool r) s):wpAny (model T.prog T.w) A (Wy op.py va vb) Q E s:=by
 refine aQ λcT k_1=> ?_;obtain ⟨-,x,ox,xs,nx,rfl,hx,cx,dx,-,rx⟩:=ha;obtain ⟨-,y,oy,ys,ny,rfl,hy,cy,dy,-,ry⟩:=hb;have tx:s.TypeIs (.ref x) "tuple":=(aH ox hx cx);have ty:s.TypeIs (.ref y) "tuple":=(aH oy hy cy);cases op<;>first|exact ns e|skip
 ·refine k_1 ?_;exact show wpAny _ _ (richCompare .Eq (.ref x) (.ref y)) Q E s from Wx (op:=.Eq) tx ty PySem.F.slot_tuple_eq (VE PySem.F.slot_tuple_eq tx PySem.F.entry_tuple_eq (vR hx dx cy hy dy rx ry e ⟨_,rfl,(λe=>nomatch e),k⟩) (PySem.F.args_tuple_eq_2 _ _)) hu
 ·refine ay (Sz.mp e) λr' e' cK=> ?_;clear e;subst cK;refine k_1 ?_;exact show wpAny _ _ (richCompare .NotEq (.ref x) (.ref y)) Q E s from Wx (op:=.NotEq) tx ty PySem.F.slot_tuple_ne (VE PySem.F.slot_tuple_ne tx PySem.F.entry_tuple_ne (vm hx dx cy hy dy rx ry e' (iw _ rfl (λe=>VL e) k)) (PySem.F.args_tuple_ne_2 _ _)) hu
 ·refine k_1 ?_;exact show wpAny _ _ (richCompare .Lt (.ref x) (.ref y)) Q E s from Wx (op:=.Lt) tx ty PySem.F.slot_tuple_lt (VE PySem.F.slot_tuple_lt tx PySem.F.entry_tuple_lt (vH hx dx cy hy dy rx ry e ⟨_,rfl,(λe=>nomatch e),k⟩) (PySem.F.args_tuple_lt_2 _ _)) hu
theorem aE.none_or (r:aE T F X H h a va):(a=.none/\va=.none)∨(a≠.none/\va≠.none/\plainIs va .none=true):=by
 cases a<;>first|exact Wz r|skip
 ·exact .inl ⟨rfl,r⟩
 ·obtain rfl:=r;exact .inr ⟨by simp,by simp,rfl⟩
 ·obtain ⟨t,rfl⟩:=r;exact .inr ⟨by simp,by simp,rfl⟩
 ·obtain ⟨t,rfl,_⟩:=r;exact .inr ⟨by simp,by simp,rfl⟩
 ·obtain ⟨_,a,_,_,_,rfl,_⟩:=r;exact .inr ⟨by simp,by simp,rfl⟩
 ·obtain ⟨_,a,_,_,_,rfl,_⟩:=r;exact .inr ⟨by simp,by simp,rfl⟩
 ·refine QD r λa z z z HW z=> ?_;clear r;subst HW;exact .inr ⟨by simp,by simp,rfl⟩
 ·refine dM r λa z d9 z=> ?_;clear r;subst d9;exact .inr ⟨by simp,by simp,rfl⟩
 ·obtain ⟨rfl,_⟩:=r;exact .inr ⟨by simp,by simp,rfl⟩
 ·refine ay r λa IE z=> ?_;subst IE;exact .inr ⟨by simp,by simp,rfl⟩
theorem DR (e:Sb a=some r):(a=.none/\r=true)∨(a≠.none/\r=false):=by
 cases a;case none=>exact .inl ⟨rfl,(Sm e).symm⟩
 case ah=>exact ns e
 all_goals exact .inr ⟨(λz=>J.noConfusion z),(Sm e).symm⟩
theorem Qn (hu:A.units<cLine) (e:aae op a b=some r) (ha:aE T F X H s.heap a va) (hb:aE T F X H s.heap b vb) (k:Q (.bool r) s):wpAny (model T.prog T.w) A (Wy op.py va vb) Q E s:=by
 refine aQ λcT k_1=> ?_;cases b<;>first|exact ns e|skip
 case int b=>
  cases a<;>first|exact ns e|skip
  obtain ⟨t,rfl⟩:=ha;obtain ⟨u,rfl⟩:=hb;exact k_1 (N4 e k)
 case bytes b=>
  cases a<;>first|exact ns e|skip
  obtain ⟨t,rfl,-⟩:=ha;obtain ⟨u,rfl,-⟩:=hb;exact k_1 (F7 e k)
 case bW b=>
  cases a<;>first|exact ns e|skip
  exact k_1 (Om hu e ha hb k)
 case none=>
  subst (hb);cases op<;>first|exact ns e|skip
  ·have e2:Sb a=some r:=e;clear e;rcases ha.none_or with ⟨rfl,rfl⟩|⟨n1,n2,n3⟩<;>rcases DR e2 with ⟨q,rfl⟩|⟨q,rfl⟩;·exact k_1 (wpAny_is_self rfl k)
   ·exact absurd rfl q
   ·exact absurd q n1
   ·exact k_1 (wpAny_is_other n3 n2 k)
  ·have e:(Sb a).map (!·)=some r:=e;refine ay (Sz.mp e) λr' e2 cK=> ?_;clear e;subst cK;clear e;rcases ha.none_or with ⟨rfl,rfl⟩|⟨n1,n2,n3⟩<;>rcases DR e2 with ⟨q,rfl⟩|⟨q,rfl⟩;·exact k_1 (wpAny_isNot_self rfl k)
   ·exact absurd rfl q
   ·exact absurd q n1
   ·exact k_1 (wpAny_isNot_other n3 n2 k)
end
section
variable {T:eS} {B:Vr} {F:List Um} {X:Nat->Um} {H:U} {A:Wc} {E:Te->Tz->Prop} {s:Tz} {Q:Te->Tz->Prop}
theorem Cont.grow (k:Cont T B F X H s r Q) (R:RH T B F X H s.heap) (g: ∀b o,s.heap.get? b=some o->h'.get? b=some o) (V:aE T F X H h' r v):Q v {s with heap:=h',toks:=t}:=by exact dD (R.grow g) λR' S=>k v {s with heap:=h',toks:=t} V R' S ⟨rfl,rfl⟩
theorem fS (R:RH T B F X H s.heap) (e:items H a=some l) (ha:aE T F X H s.heap a va):l.length<=cap/\ ∃x o vs ep,va=.ref x/\s.heap.get? x=some o/\o.cls=.type "list"/\o.data=.seq vs ep/\aB T F X H s.heap l vs.toList:=by
 refine aQ λcT k_1=> ?_;cases a<;>first|exact ns e|skip
 ·obtain rfl:=Sm e;obtain ⟨c,x,o,vs,ep,h1,h2,h3,h4,_,h6⟩:=ha;exact k_1 ⟨c,x,o,vs,ep,h1,h2,h3,h4,h6⟩
 ·rename_i x;have g: ∀o,H.h x=o->(match o with
   |some (.O l)=>some l
   |_=>none)=some l->cT:=λo hx e=>by
   cases o with
   |none=>exact ns e
   |some o=>
    cases o<;>first|exact ns e|skip
    obtain rfl:=Sm e;obtain ⟨c,o,vs,ep,h2,h3,h4,h6,_⟩:=R.obj x _ hx;exact k_1 ⟨c,X x,o,vs,ep,ha.1,h2,h3,h4,h6⟩
  exact g _ rfl e
theorem Qd (R:RH T B F X H s.heap) (e:IX H a=some n) (ha:aE T F X H s.heap a va) (k:Cont T B F X H s (.int n) Q):wpAny (model T.prog T.w) A (call (.builtin "len") [va]) Q E s:=by
 have hcap:cap=65536:=rfl;have ls: ∀(a:J) {va:Te},aE T F X H s.heap a va->(items H a).map (λl=>(l.length:Int))=some n->wpAny (model T.prog T.w) A (call (.builtin "len") [va]) Q E s:=λa va ha e=>by refine aQ λJV k_2=> ?_;obtain ⟨l,e1,rfl⟩:=Sz.mp e;obtain ⟨c,x,o,vs,ep,rfl,h2,h3,h4,h6⟩:=fS R e1 ha;have hl:=h6.length;refine k_2 (len_list (items:=vs) ⟨o,h2,h3,ep,h4⟩ (by rw [<-Tv,<-hl];omega) ?_);exact k.tok R ⟨_,by rw [<-Tv,<-hl]⟩
 cases a<;>first|exact ls .none ha e|exact ls (.bool _) ha e|exact ls (.int _) ha e|exact ls (.O _) ha e|exact ls (.obj _ _) ha e|exact ls (.gU _) ha e|exact ls (.ref _) ha e|exact ls (.aI _ _) ha e|exact ls .ah ha e|skip
 ·obtain rfl:=Sm e;obtain ⟨t,rfl,c⟩:=ha;exact len_bytes (by rw [Ui];exact (Ln.n2 0x18614220820820820820821054001588820820840) hcap c) (k.tok R ⟨_,by rw [Ui]⟩)
 ·refine aQ λcT k_1=> ?_;cases e;obtain ⟨c,x,o,vs,ep,rfl,h2,h3,h4,_,h6⟩:=ha;have hl:=h6.length;refine k_1 (len_tuple (items:=vs) ⟨o,h2,h3,ep,h4⟩ (by rw [<-Tv,<-hl];omega) ?_);exact k.tok R ⟨_,by rw [<-Tv,<-hl]⟩
theorem lN {α:Type} {l:List α} {r:α} (e:itemAt l i=some r):0<=i/\l[i.toNat]? =some r/\i<(l.length:Int):=by
 unfold itemAt at e;split at e;·rename_i h;have:=(Sj.mp e).1;exact ⟨h,e,by exact (Ln.z [_] [_] 0x184cf000480400) this⟩
 ·exact ns e
theorem om {M:List Te->Prop} (V:aB T F X H h (.int a::as) vs) (k: ∀t ws,aB T F X H h as ws->M (.int a t::ws)):M vs:=by
 cases vs with
 |nil=>exact V.elim
 |cons v ws=>obtain ⟨⟨t,rfl⟩,W⟩:=V;exact k t ws W
theorem yf {M:List Te->Prop} (V:aB T F X H h [] vs) (k:M []):M vs:=by
 cases vs with
 |nil=>exact k
 |cons v ws=>exact V.elim
theorem uB: ∀{l:List J} {ns:List Int} {vs:List Te},fV l=some ns->aB T F X H s.heap l vs->IntsAre vs ns:=by
 intro l_;induction l_ with
 |nil=>exact @λz vs e r=>Sm e▸yf (M:=λvs=>IntsAre vs []) r .nil
 |cons a l aG=>
  exact @λms vs e r=>by
   cases a<;>first|exact Mine.ns e|skip
   refine ay (Sz.mp e) λms e1 qV=> ?_;clear e;subst qV;exact om (M:=λvs=>IntsAre vs (_::ms)) r λt ws W=>.cons _ t (aG e1 W)
theorem sY: ∀{vs:List Te} {ns:List Int},IntsAre vs ns-> ∀(i:Nat) {v:Te},vs[i]? =some v-> ∃t,v=.int (ns.getD i 0) t
 |_,_,.nil,i,_,e=>by simp at e
 |_,_,.cons n t r,0,v,e=>by simp at e;subst e;exact ⟨t,rfl⟩
 |_,_,.cons n t r,i+1,v,e=>by exact fU (sY r i e) λt' h=>⟨t',h⟩
theorem RG {a b:Int} (hh:A.handled=none) (R:RH T B F X H s.heap) (k:Cont T B F X H s (.int (if b<a then b else a)) Q):wpAny (model T.prog T.w) A (call (.builtin "min") [.int a t,.int b u]) Q E s:=min_two_ints hh λh' tk g=>k.grow R g (by split<;>exact ⟨_,rfl⟩)
theorem PJ (hh:A.handled=none) (R:RH T B F X H s.heap) (k:Cont T B F X H s (.int (if a<b then b else a)) Q):wpAny (model T.prog T.w) A (call (.builtin "max") [.int a t,.int b u]) Q E s:=max_two_ints hh λh' tk g=>k.grow R g (by
 by_cases q:a<b;·rw [if_pos q,if_pos (show b>a from q)];exact ⟨_,rfl⟩
 ·rw [if_neg q,if_neg (show ¬b>a from q)];exact ⟨_,rfl⟩)
theorem ri: ∀(ns:List Int),preSum (λi=>ns.getD i 0) ns.length=ns.sum:=by
 intro ns;have gen: ∀(k:Nat),k<=ns.length->preSum (λi=>ns.getD i 0) k=(ns.take k).sum:=by
  intro k;induction k with
  |zero=>intro _;simp [preSum]
  |succ k ih=>
   intro hk;have:k<ns.length:=by exact (Ln.n2 0x612040501288840) hk
   rw [show preSum (λi=>ns.getD i 0) (k+1)=preSum (λi=>ns.getD i 0) k+ns.getD k 0 from rfl,ih (by exact (Ln.n2 0x614040501288840) hk)];rw [List.take_succ_eq_append_getElem this,Yv];simp [SR,this]
 rw [gen _ (Sv _),U9]
theorem fJ {h:Vr}:(h.push {cls:=.type "list_iterator",data:=.fields #[.ref l,.int 0 0]}).IsListIter h.objs.size l 0:=(iw _ (TN _ rfl) rfl rfl)
theorem AQ {ns:List Int} (hh:A.handled=none) (R:RH T B F X H s.heap) (e:items H a=some l) (e2:fV l=some ns) (ha:aE T F X H s.heap a va) (k:Cont T B F X H s (.int ns.sum) Q):wpAny (model T.prog T.w) A (call (.builtin "sum") [va]) Q E s:=by
 refine aQ λcT k_1=> ?_;obtain ⟨c,x,o,vs,ep,rfl,h2,h3,h4,h6⟩:=fS R e ha;have hi:=uB e2 h6;have hL:s.heap.IsList x vs:=⟨o,h2,h3,ep,h4⟩;refine k_1 (call_sum_walkG (WT hL ?_));have hx:x<s.heap.objs.size:=Ur h2;refine aa4 s.heap.objs.size _ _ _ _ _ (λi=>ns.getD i 0) rfl (YG (A:=A.in1) hh s.heap.objs.size x (SY hx) vs) ⟨fJ,hL.push _⟩ ?_ ?_ ?_;·
  intro b hb;rw [VT];simp only [Tn,U1,or_false] at hb;clear ha k_1 h2 hL;rcases hb with rfl|rfl;·exact SQ _
  ·exact Tu hx
 ·intro i v hv;rw [<-UE] at hv;exact sY hi i hv
 ·intro h' tk t' kk;have len:vs.size=ns.length:=by refine (Tv)▸((hi.length).symm▸ ?_);rfl
  rw [len,ri];exact k.grow R (λb o e=>kk b o (by simp only [Sy];exact SY (Ur e)) (SK _ e)) ⟨_,rfl⟩
end
section
variable {T:eS} {B:Vr} {F:List Um} {X:Nat->Um} {H:U} {A:Wc} {E:Te->Tz->Prop} {s:Tz} {Q:Te->Tz->Prop}
theorem C3: ∀{ns:List Int} {bs:List UInt8},octets ns=some bs->byteArr ns=bs.toArray/\ ∀n∈ns,0<=n/\n<256:=by
 intro l_;induction l_ with
 |nil=>exact @λz e=>by obtain rfl:=Sm e;exact ⟨rfl,λz h=>((by cases h))⟩
 |cons n ns aG=>
  exact @λbs e=>by
   dsimp only [octets] at e;split at e;·
    rename_i hn;refine ay (Sz.mp e) λcs e1 qV=> ?_;clear e;subst qV;obtain ⟨h1,h2⟩:=aG e1;refine ⟨?_,λm hm=> ?_⟩;·
     have:byteArr (n::ns)= #[n.toNat.toUInt8]++byteArr ns:=by simp [byteArr]
     rw [this,h1];apply Array.toList_inj.mp;simp
    ·rcases Tn.mp hm with rfl|hm;·exact hn
     ·exact h2 m hm
   ·exact nomatch e
theorem nJ (h:wpAny (model T.prog T.w) A.in1.in1 (Builtin.«bytes.__new__» ⟨[.type "bytes",x],[]⟩) (λfin s'=>match fin with
 | .done f=>wants (λobj s₁=>s₁.TypeIs obj "bytes"/\Q obj s₁) E (.ok f) s'
 | .again c'=>c'.quiet=true/\codeAny (model T.prog T.w) A.in1 c' (wants (λobj s₁=>s₁.TypeIs obj "bytes"/\Q obj s₁) E) s') (λe s'=>E e s') s):wpAny (model T.prog T.w) A (call (.type "bytes") [x]) Q E s:=by
 refine callType_codes (Q₁:=λobj s₁=>s₁.TypeIs obj "bytes"/\Q obj s₁) PySem.F.bm_called (PySem.F.bm_typeCall _) PySem.F.entry_object_init ?_ λobj s₁ h₁=> ?_;·refine codeAny_of_tree ?_;refine Sw (Ud (PySem.F.bm_newCall _) (SN ⟨plainId_quiet PySem.F.bm_plain _,codeAny_builtin PySem.F.bm_entry ?_⟩));exact (VY PySem.F.bm_plain _).symm▸(h)
 ·exact ⟨h₁.1,PySem.F.args_object_init_2 obj _,object_init_meets PySem.F.bm_called.init.lookup PySem.F.bm_called.made (by decide) T.prog T.w A.in1 _ s₁ ⟨h₁.1,rfl,h₁.2⟩⟩
end
namespace O8
theorem yX:typeLookup (.type "int") "__bytes__"=pure none:=by rw [typeLookup_type,builtinLookup_eq_fast];kernel_rfl
theorem By:typeLookup (.type "bytes") "__bytes__"=pure (some (.builtin "bytes.__bytes__")):=by rw [typeLookup_type,builtinLookup_eq_fast];kernel_rfl
theorem Aw:typeLookup (.type "bytearray") "__bytes__"=pure none:=by rw [typeLookup_type,builtinLookup_eq_fast];kernel_rfl
theorem AL:typeLookup (.type "bytearray") "__index__"=pure none:=by rw [typeLookup_type,builtinLookup_eq_fast];kernel_rfl
theorem Gz:typeLookup (.type "bytearray") "__buffer__"=pure (some (.builtin "bytearray.__buffer__")):=by rw [typeLookup_type,builtinLookup_eq_fast];kernel_rfl
theorem uY:typeLookup (.type "bytearray") "__release_buffer__"=pure (some (.builtin "bytearray.__release_buffer__")):=by rw [typeLookup_type,builtinLookup_eq_fast];kernel_rfl
end O8
section
theorem zm (h0:0<=n) (h1:n<=4096) (R:RH T B F X H s.heap) (k:Cont T B F X H s (.bytes (Tf n.toNat 0)) Q):wpAny (model T.prog T.w) A (call (.type "bytes") [.int n t]) Q E s:=by refine nJ ?_;have hT:s.TypeIs (.int n t) "int":=typeIs_int s n t;refine Sw (Ud (a:=true) rfl ?_);refine bm_if_false rfl (Sw (Ud PySem.F.bm_sub ?_));refine bm_if_false rfl (Sw (Ud (PySem.F.bm_bind _) ?_));refine Sw (Ud (a:=()) rfl ?_);refine Sw (Ud (a:=()) rfl ?_);refine bm_if_false rfl (Sw (U8 hT O8.yX ?_));refine Sw (Ud (a:=false) rfl ?_);refine bm_if_false rfl (Sw (U8 hT PySem.F.slot_int_index.lookup ?_));refine bm_if_false rfl (Sw (wpAny_attempt (Ud (a:=n) rfl ?_)));dsimp only;rw [if_neg (by unfold Builtin.Bytes.fitsIndex;simp;exact (Ln.z [] [_] 0x618653220820820820820820820820a00540388820820820820820820820828548820821015008) h0 h1),if_neg (by exact (Ln.z [] [_] 0x61c4c8015008) h0),if_neg (by omega),if_neg (by unfold Builtin.Bytes.tooLong;rw [sizeLine_eq];simp;exact (Ln.z [] [_] 0x615220820820821015220820840) h1)];refine Sw (WS (Sw (wpAny_mkBytes ?_ (by rw [Array.size_replicate,sizeLine_eq];exact (Ln.z [] [_] 0x18508820820820850015220820840) h1))));refine SN ⟨PySem.W.typeIs_bytes _ _ _,k.tok R ⟨_,by rw [List.toArray_replicate],?_⟩⟩;rw [Ve];exact (Ln.z [] [_] 0x18508820820850015220820840) h1
theorem u9 (hb:b.length<=cap) (R:RH T B F X H s.heap) (k:Cont T B F X H s (.bytes b) Q):wpAny (model T.prog T.w) A (call (.type "bytes") [.bytes b.toArray t]) Q E s:=by refine nJ ?_;have hT:s.TypeIs (.bytes b.toArray t) "bytes":=typeIs_bytes s _ t;refine Sw (Ud (a:=true) rfl ?_);refine bm_if_false rfl (Sw (Ud PySem.F.bm_sub ?_));refine bm_if_false rfl (Sw (Ud (PySem.F.bm_bind _) ?_));refine Sw (Ud (a:=()) rfl ?_);refine Sw (Ud (a:=()) rfl ?_);refine bm_if_false rfl (Sw (U8 hT O8.By ?_));refine Sw (WS (Sw (wpAny_typeOf hT ?_)));exact SN ⟨hT,k.same R (aH t rfl hb)⟩
theorem zd (hx:H.h x=some (.bar b)) (R:RH T B F X H s.heap) (k:Cont T B F X H s (.bytes b) Q):wpAny (model T.prog T.w) A (call (.type "bytes") [.ref (X x)]) Q E s:=by
 refine nJ ?_;have ho:=R.obj x _ hx;refine aQ λcT k_1=> ?_;obtain ⟨hc,o,h1,h2,h3,_⟩:=ho;have hT:s.TypeIs (.ref (X x)) "bytearray":=(aH o h1 h2);refine k_1 (Sw (Ud (a:=true) rfl ?_));refine bm_if_false rfl (Sw (Ud PySem.F.bm_sub ?_));refine bm_if_false rfl (Sw (Ud (PySem.F.bm_bind _) ?_));refine Sw (Ud (a:=()) rfl ?_);refine Sw (Ud (a:=()) rfl ?_);refine bm_if_false rfl (Sw (U8 hT O8.Aw ?_));refine Sw (Sw ?_);refine Sw (VZ h1 ?_);refine (h3).symm▸(SN (SN ?_));refine bm_if_false rfl (Sw (U8 hT O8.AL ?_));refine bm_if_true rfl ?_;refine Sw ?_;clear k_1 hT;obtain ⟨h,g,d,tk,os⟩:=s;have L0: ∀M:Y3,Xf M h (typeOf (.ref (X x))) (.type "bytearray"):=λM=>by exact (h2)▸((XC h1).andThen .now)
 have L1: ∀M:Y3,Xf M h (specialOf (.ref (X x)) "__buffer__") (some (.builtin "bytearray.__buffer__")):=λM=>(L0 M).andThen (UJ O8.Gz);have key: ∀(M:Y3) (z:String),z="bytearray"->Xf M h (isInstance (.ref (X x)) (.type z)) true:=λM z hz=>by exact (hz).symm▸((λM=>(L0 M).andThen (UJ (by rw [isSubtype_type];kernel_rfl))) M)
 have L4: ∀M:Y3,Xf M h (Builtin.Bytes.slotIsOwn (.ref (X x)) "__buffer__") true:=λM=>by
  refine (L1 M).andThen ?_;dsimp only;split;·rename_i hz;exact absurd hz (by decide+kernel)
  ·exact key M _ (by decide+kernel)
 have L5: ∀M:Y3,Xf M h (Builtin.Bytes.ownRelease (.ref (X x))) false:=λM=>by
  refine YR (a:=true) (((λM=>(L0 M).andThen (UJ O8.uY)) M).andThen ?_) .now;dsimp only;split;·rename_i hz;exact absurd hz (by decide+kernel)
  ·exact key M _ (by decide+kernel)
 have L6: ∀M:Y3,Xf M h (Builtin.Bytes.payload (.ref (X x))) b.toArray:=λM=>by refine YR (a:=some b.toArray) ((XC (part:=none) h1).andThen ?_) .now;exact (h3).symm▸(.now)
 have L7: ∀M:Y3,Xf M h (Builtin.Bytes.buffer? "bytes.__new__" (.ref (X x)) true) (some b.toArray):=λM=>by
  refine (L1 M).andThen ?_;try skip
  refine (L4 M).andThen ((L1 M).andThen ?_);try dsimp only
  refine (L5 M).andThen ((L6 M).andThen .now)
 refine (L7 _).at (Sw (WS (Sw (wpAny_mkBytes ?_ (by rw [Ui,sizeLine_eq];exact Sl hc (by decide))))));exact SN ⟨PySem.W.typeIs_bytes _ _ _,k.tok R (aH _ rfl hc)⟩
theorem JM (hh:A.handled=none) (R:RH T B F X H s.heap) (e:iB H a=some b) (ha:aE T F X H s.heap a va) (k:Cont T B F X H s (.bytes b) Q):wpAny (model T.prog T.w) A (call (.type "bytes") [va]) Q E s:=by
 have O: ∀{l:List J} {x:Um} {o:Obj} {vs:Array Te} {ep:Nat},l.length<=cap->s.heap.get? x=some o->o.cls=.type "list"->o.data=.seq vs ep->aB T F X H s.heap l vs.toList->(fV l).bind octets=some b->wpAny (model T.prog T.w) A (call (.type "bytes") [.ref x]) Q E s:=λ{l x o vs ep} c h2 h3 h4 h6 e=>by
  refine ay (SV.mp e) λns e1 e2=>dD (C3 e2) λh7 h8=> ?_;have hi:=uB e1 h6;have hl:=h6.length;have hb:b.length=ns.length:=by
   have:(byteArr ns).size=b.length:=by rw [h7,Ui]
   rw [byteArr_size] at this;exact this.symm
  refine call_bytes_ints (vs:=vs.toList) ⟨o,h2,h3,ep,by refine (h4).symm▸ ?_;rfl⟩ hi h8 (by refine (hl)▸((sizeLine_eq).symm▸ ?_);exact Sl c (by decide)) hh λh' t k' g=> ?_;refine (h7).symm▸ ?_;exact k.grow R g ⟨_,rfl,by refine (hb).symm▸(((hi.length))▸ ?_);exact (hl)▸(c)⟩
 cases a<;>first|exact ns e|skip
 ·clear O;obtain ⟨h,rfl⟩:=dw e;obtain ⟨t,rfl⟩:=ha;exact zm h.1 h.2 R k
 ·clear O;obtain rfl:=Sm e;obtain ⟨t,rfl,c⟩:=ha;exact u9 c R k
 ·obtain ⟨c,x,o,vs,ep,rfl,h2,h3,h4,_,h6⟩:=ha;exact O c h2 h3 h4 h6 e
 ·rename_i x;obtain ⟨rfl,_⟩:=ha;have g: ∀o,H.h x=o->(match o with
   |some (.bar b)=>some b
   |some (.O l)=>(fV l).bind octets
   |_=>none)=some b->wpAny (model T.prog T.w) A (call (.type "bytes") [.ref (X x)]) Q E s:=λo hx e=>by
   cases o with
   |none=>exact ns e
   |some o=>
    cases o<;>first|exact ns e|skip
    ·obtain ⟨c,o,vs,ep,h2,h3,h4,h6,_⟩:=R.obj x _ hx;exact O c h2 h3 h4 h6 e
    ·obtain rfl:=Sm e;exact zd hx R k
  exact g _ rfl e
end
open PySem.Sem (wp)
noncomputable def qX:List String:=["bytearray.__contains__","bytearray.__mod__","bytearray.__rmod__","_struct.pack_into.held","bytearray.find.held"]++Builtin.Bytes.decodersThatHold
noncomputable def OS:Code->Bool
 | .builtin id _=> !qX.contains id
 |_=>true
def Ord (Γ:Ctx):Prop:=OS Γ.code=true/\ ∀x∈Γ.below,OS x.1=true
def dH {α:Type} (M:Y3) (A:Wc) (t:Sem α) (Q:α->Tz->Prop) (E:Te->Tz->Prop) (s:Tz):Prop:= ∀Γ p,Γ.In A->Ord Γ->wp M Γ t (λa z s'=>Q a s') (λe z s'=>E e s') p s
def cW (M:Y3) (A:Wc) (c:Code) (R:Z1->Tz->Prop) (s:Tz):Prop:= ∀Γ p,Γ.code=c->Γ.Below A->(∀x∈Γ.below,OS x.1=true)->wpCode M Γ R p s
section
variable {α β:Type} {M:Y3} {A:Wc} {E:Te->Tz->Prop} {s:Tz}
theorem av (h:wpAny M A t Q E s):dH M A t Q E s:=λΓ p hΓ z=>h Γ p hΓ
theorem Fj (h:codeAny M A c R s):cW M A c R s:=λΓ p hc hΓ z=>h Γ p hc hΓ
theorem ao (h:Q a s):dH M A (pure a) Q E s:=λz z z z=>h
theorem aK (h:dH M A t Q E s) (hQ: ∀a s,Q a s->Q' a s) (hE: ∀e s,E e s->E' e s):dH M A t Q' E' s:=λΓ p hΓ hO=>Xy M Γ t (λa z s=>hQ a s) (λe z s=>hE e s) p s (h Γ p hΓ hO)
theorem cJ (h:dH M A t Q E s) (hQ: ∀a s,Q a s->Q' a s):dH M A t Q' E s:=aK h hQ λz z x=>x
theorem aj (h:dH M A m (λa s'=>dH M A (f a) Q E s') E s):dH M A (m>>=f) Q E s:=λΓ p hΓ hO=>by rw [Sem.wp_bind'];exact Xy M Γ m (λa p' s' h'=>h' Γ p' hΓ hO) (λz z z h'=>h') p s (h Γ p hΓ hO)
theorem cO (h:dH M A m Q (λe s'=>dH M A (k e) (λz s''=>E e s'') E s') s):dH M A (m.onRaise k) Q E s:=λΓ p hΓ hO=>by rw [Sem.wp_onRaise];exact Xy M Γ m (λz z z h'=>h') (λe p' s' h'=>h' Γ p' hΓ hO) p s (h Γ p hΓ hO)
theorem rz {m:Sem α} (h:dH M A m (λa=>Q (.ok a)) (λe=>Q (.error e)) s):dH M A m.attempt Q E s:=λΓ p hΓ hO=>by rw [Sem.wp_attempt];exact h Γ p hΓ hO
theorem aD (h:dH M A m Q E s):dH M A (Xb vs m) Q E s:=λΓ p hΓ hO=>by rw [Sem.wp_holding];exact h Γ p hΓ hO
theorem lM (h:Q () s):dH M A (XY pos) Q E s:=λz z z z=>h
theorem La (h:Q () s):dH M A (rule tag) Q E s:=λz z z z=>h
theorem wO (h:Q () s):dH M A point Q E s:=λz z z z=>h
theorem gg (h:dH M A (f ()) Q E s):dH M A (XY pos>>=f) Q E s:=aj (lM h)
theorem f7 (h:dH M A m Q E s):dH M A (operate vs m) Q E s:=λΓ p hΓ hO=>by rw [Sem.wp_operate];exact h Γ p hΓ hO
theorem oV (h:dH M A (storeName env x v) Q E s):dH M A (bindName env x v) Q E s:=λΓ p hΓ hO=>by rw [Sem.wp_bindName];exact h Γ p hΓ hO
theorem jb (h:Q () s):dH M A (release vs keep) Q E s:=λΓ p hΓ hO=>by rw [Sem.wp_release];exact h
theorem DB (hc:cW M (A.mark h) c (λr s'=>match r with
 | .ok f=>Q f s'
 | .error e=>E e s') s) (hnb:h≠some byPass):dH M A (run c h) Q E s:=λΓ p hΓ hO=>by
 rw [Sem.wp_run];refine hc _ p rfl (hΓ.enter c h p hnb) λx hx=> ?_;rcases Tn.mp hx with rfl|hx;·exact hO.1
 ·exact hO.2 x hx
theorem xK (hc:cW M A c (λr s'=>match r with
 | .ok (.ret v)=>Q v s'
 | .ok _=>False
 | .error e=>E e s') s):dH M A (runValue c) Q E s:=λΓ p hΓ hO=>by
 rw [Sem.wp_runValue];refine hc _ p rfl (hΓ.enter c none p (by intro x;cases x)) λx hx=> ?_;rcases Tn.mp hx with rfl|hx;·exact hO.1
 ·exact hO.2 x hx
theorem ia (hc:cW M A (.call f ⟨pos,kw⟩) (λr s'=>match r with
 | .ok (.ret v)=>Q v s'
 | .ok _=>False
 | .error e=>E e s') s):dH M A (call f pos kw) Q E s:=xK hc
theorem cM (h:cW M A c R s) (k: ∀r s',R r s'->R' r s'):cW M A c R' s:=λΓ p hc hΓ hO=>wpCode_mono k (h Γ p hc hΓ hO)
theorem bB (ok:OS c=true) (h:dH M (A.under c) (M.den c) (λfin s'=>match fin with
 | .done f=>R (.ok f) s'
 | .again c'=>c'.quiet=true/\cW M A c' R s') (λe s'=>R (.error e) s') s):cW M A c R s:=λΓ p hc hΓ hO=>by
 rw [wpCode_iff_wp,hc];refine Xy M Γ _ (λfin p' s' h'=> ?_) (λz z z h'=>h') p s (h Γ p (hc▸hΓ.in) ⟨by exact (hc).symm▸(ok),hO⟩);cases fin with
 |done f=>exact h'
 |again c'=>exact ⟨h'.1,h'.2 (Γ.goto c') p' rfl (hΓ.goto c') hO⟩
theorem nK (hc:cW M (A.mark h) c (λr s'=>match r with
 | .ok f=>Q f s'
 | .error e=>cameBackBy M A env E e s') s) (hnb:h≠some byPass):dH M A (runOwn c env h) Q E s:=by
 refine cO (DB (cM hc λr s' h'=> ?_) hnb);cases r with
 |ok f=>exact h'
 |error e=>exact av h'
theorem qc [Decidable p] (ha: ¬p) (hb:b ha=false):dite p a b=false:=(dif_neg ha).trans hb
theorem pD (h:Q false s):dH M A (Builtin.Bytes.exported v) Q E s:=λΓ p y hO=>by
 have e: ∀b:Bool,b=false->Q b s:=λb hb=>hb▸h;refine e _ (List.any_eq_false.mpr λx hx=>ne_true_of_eq_false ?_);have ok:OS x.1=true:=(Tn.mp hx).elim (λe=>e▸hO.1) (hO.2 x);obtain ⟨c,q⟩:=x;clear hx;cases c<;>first|rfl|skip
 rename_i id args;have no: ∀z,qX.contains z=true-> ¬id=z:=λz h e=>by subst e;exact nomatch (congrArg not h).symm.trans ok
 delta Builtin.Bytes.exported.match_1;refine qc (no "bytearray.__contains__" (by decide+kernel)) (qc (no "bytearray.__mod__" (by decide+kernel)) ?_);refine qc (no "bytearray.__rmod__" (by decide+kernel)) (qc (no "_struct.pack_into.held" (by decide+kernel)) ?_);refine qc (no "bytearray.find.held" (by decide+kernel)) ?_;obtain ⟨_|⟨w,l⟩,kw⟩:=args;·rfl
 ·dsimp only [OS] at ok;simp only [qX,List.contains_eq_mem,SW,Vv,decide_eq_false_iff_not,not_or] at ok;have:=ok.2;refine (?_:(Builtin.Bytes.sameRef w v&&_)=false);simp [this]
end
def iE (T:eS) (B:Vr) (F:List Um) (X:Nat->Um) (H:U) (s:Tz) (o:gm) (Q:Te->Tz->Prop):Prop:= ∀a s' ι',ι' H.n=a->RH T B F ι' (H.new o) s'.heap->Step F F X H s.heap ι' (H.new o) s'.heap->Rest s s'->Q (.ref a) s'
section
variable {T:eS} {B:Vr} {F:List Um} {X:Nat->Um} {H:U} {A:Wc} {E:Te->Tz->Prop} {s:Tz} {Q:Te->Tz->Prop}
theorem rK.JW (R:RH T B F X H s.heap): ¬rK F X H s.heap.objs.size:=λq=>by have:=R.E1 q;obtain ⟨o,ho⟩:=SM.mp this;exact absurd (Ur ho) (To _)
theorem eU {h:Vr}:h.get? h.objs.size=none:=Wa (Sv _)
theorem Cont.tuple (k:Cont T B F X H s (.bW l) Q) (R:RH T B F X H s.heap) (c:l.length<=cap) (V:aB T F X H s.heap l vs):Q (.ref s.heap.objs.size) {s with heap:=s.heap.push {cls:=.type "tuple",data:=.seq vs.toArray},toks:=t}:=by refine k.push R λh' S R' e=> ?_;clear R';subst e;exact ⟨c,_,_,vs.toArray,_,rfl,TN _ rfl,rfl,rfl,(rK.JW R),by exact (Wd).symm▸(V.step S)⟩
theorem iE.list (k:iE T B F X H s (.O l) Q) (R:RH T B F X H s.heap) (c:l.length<=cap) (V:aB T F X H s.heap l vs):Q (.ref s.heap.objs.size) {s with heap:=s.heap.push {cls:=.type "list",data:=.seq vs.toArray},toks:=t}:=by refine fY (R.new (h':=s.heap.push {cls:=.type "list",data:=.seq vs.toArray}) (o:=.O l) (λb o' e=>SK _ e) eU λι' H' S=>by exact ⟨c,_,vs.toArray,_,TN _ rfl,rfl,rfl,by rw [Wd];exact V.step S,rfl⟩) λι' e R' S=> ?_;exact k _ _ ι' e R' S ⟨rfl,rfl⟩
theorem add_lists (R:RH T B F X H s.heap) (hl:items H x=some l) (hr:items H y=some r) (ha:aE T F X H s.heap x vx) (hb:aE T F X H s.heap y vy) (c:l.length+r.length<=4096) (k:iE T B F X H s (.O (l++r)) Q):wpAny (model T.prog T.w) A (ZA .Add vx vy) Q E s:=by refine aQ λcT k_1=> ?_;obtain ⟨_,a,o,vs,ep,rfl,h1,h2,h3,h4⟩:=fS R hl ha;obtain ⟨_,b,o',ws,ep',rfl,g1,g2,g3,g4⟩:=fS R hr hb;obtain ⟨oc,od,odt,osl⟩:=o;obtain ⟨oc',od',aeo,aee⟩:=o';simp only at h2 h3 g2 g3;subst h2 h3 g2 g3;have e1:=h4.length;have e2:=g4.length;refine k_1 (concat_meets ⟨_,h1,rfl⟩ ⟨_,g1,rfl⟩ noFill_list_add seq_list_add PySem.F.slot_list_add PySem.F.entry_list_add (PySem.F.args_list_add_2 _ _) (list_addW a b vs ws _ _ _ _ _ _ (by rw [sizeLine_eq];exact (Ln.n4 0x6186142208208208212830960c158201422082084a040) c e1 e2)) ⟨h1,g1,?_⟩);have:=k.list (t:=s.toks) R (by rw [Sq];exact (Ln.n2 0x61422082082128101422082084a040) c) (h4.append g4);rw [<-Zp,Zi] at this;exact this
theorem EX (R:RH T B F X H s.heap) (e:oz H op x y=some l) (ha:aE T F X H s.heap x vx) (hb:aE T F X H s.heap y vy) (c:l.length<=4096) (k:iE T B F X H s (.O l) Q):wpAny (model T.prog T.w) A (ZA op.py vx vy) Q E s:=by
 refine aQ λcT k_1=> ?_;cases op<;>first|exact ns e|skip
 ·refine ay (SV.mp e) λl1 h1 e=>ay (Sz.mp e) λl2 h2 d9=> ?_;clear e;subst d9;exact k_1 (add_lists R h1 h2 ha hb (by rw [Sq] at c;exact c) k)
theorem Lq {i j:List J} (hc:(!i.isEmpty&& !j.isEmpty&&decide (i.length+j.length<=4096))=true) (R:RH T B F X H s.heap) (ha:aE T F X H s.heap (.bW i) va) (hb:aE T F X H s.heap (.bW j) vb) (k:Cont T B F X H s (.bW (i++j)) Q):wpAny (model T.prog T.w) A (ZA .Add va vb) Q E s:=by
 have hcap:cap=65536:=rfl;refine aQ λcT k_1=> ?_;obtain ⟨_,x,⟨oc,od,odt,osl⟩,vs,ep,rfl,h1,h2,h3,_,h4⟩:=ha;obtain ⟨_,y,⟨oc',od',aeo,aee⟩,ws,ep',rfl,g1,g2,g3,_,g4⟩:=hb;simp only at h2 h3 g2 g3;subst h2 h3 g2 g3;have e1:=h4.length;have e2:=g4.length;obtain ⟨hc,hc3⟩:=Su.mp hc;obtain ⟨hc1,hc2⟩:=Su.mp hc;have hc3:=of_decide_eq_true hc3;have n1:i.length≠0:=λz=>by rw [YV.mp z] at hc1;cases hc1
 have n2:j.length≠0:=λz=>by rw [YV.mp z] at hc2;cases hc2
 have ne: ∀{ws:Array Te} {n:Nat},n=ws.size->n≠0->ws≠ #[]:=λe1 n1 z=>n1 (((e1).symm▸((z).symm▸rfl)));refine k_1 ?_;refine concat_meets ⟨_,h1,rfl⟩ ⟨_,g1,rfl⟩ noFill_tuple_add seq_tuple_add PySem.F.slot_tuple_add PySem.F.entry_tuple_add (PySem.F.args_tuple_add_2 _ _) (tuple_addW2 x y vs ws _ _ _ _ _ _ (by simpa using ne e1 n1) (by simpa using ne e2 n2) (by rw [sizeLine_eq];exact (Ln.n4 0x61861422082082082128305422082084a080583096040) e1 e2 hc3)) ⟨h1,g1,?_⟩;have:=k.tuple (t:=s.toks) R (by rw [Sq];exact (Ln.n3 0x61850028205422082084a081588820820840) hcap hc3) (h4.append g4);rw [<-Zp,Zi] at this;exact this
theorem RE (e:gK op a b=some r) (R:RH T B F X H s.heap) (ha:aE T F X H s.heap a va) (hb:aE T F X H s.heap b vb) (k:Cont T B F X H s r Q):wpAny (model T.prog T.w) A (ZA op.py va vb) Q E s:=by
 have hcap:cap=65536:=rfl;cases a<;>first|exact ns e|skip
 case int i=>
  cases b<;>first|exact ns e|skip
  obtain ⟨t,rfl⟩:=ha;obtain ⟨u,rfl⟩:=hb;obtain ⟨r',e2,rfl⟩:=Sz.mp e;exact M8 e2 R k
 case bytes i=>
  cases b<;>first|exact ns e|skip
  obtain ⟨t,rfl,_⟩:=ha;obtain ⟨u,rfl,_⟩:=hb;obtain ⟨r',e2,rfl⟩:=Sz.mp e;clear e;cases op<;>first|exact ns e2|skip
  obtain ⟨hc,rfl⟩:=dw e2;refine KBy.add_bytes (by refine (Ui).symm▸((Ui).symm▸ ?_);exact (Ln.n2 0x61422082082082128101422082084a040) hc) λt' k'=> ?_;refine k.tok R (aH t' ?_ ?_);·rw [List.append_toArray]
  ·rw [Sq];exact (Ln.n3 0x61850028205422082084a081588820820840) hcap hc
 case bW i=>
  cases b<;>first|exact ns e|skip
  obtain ⟨r',e2,rfl⟩:=Sz.mp e;clear e;cases op<;>first|exact ns e2|skip
  obtain ⟨hc,rfl⟩:=dw e2;exact Lq hc R ha hb k
end
section
variable {T:eS} {B:Vr} {F:List Um} {X:Nat->Um} {H:U} {A:Wc} {E:Te->Tz->Prop} {s:Tz} {Q:Te->Tz->Prop}
theorem eO.get: ∀{l:List (Int×J)} {kvs:List (Int×Te)} {k:Int} {r:J},eO T F X H s.heap l kvs->getD k l=some r-> ∃v,valueAt kvs k=some v/\aE T F X H s.heap r v:=by
 intro l_;induction l_ with
 |nil=>exact @λy y y y e=>by cases e
 |cons p_ l aG=>
  obtain ⟨j,a⟩:=p_;intro m_;cases m_ with
  |nil=>exact @λy y h y=>h.elim
  |cons q_ kvs=>
   obtain ⟨j',v⟩:=q_;exact @λk r h e=>by
    obtain ⟨h1,h2,h3⟩:=h;simp only at h1;subst h1;by_cases q:k=j';·obtain rfl:=Sm ((if_pos q).symm.trans e);subst q;exact aH v (by unfold valueAt;simp) h2
    ·replace e:=(if_neg q).symm.trans e;refine ay (aG h3 e) λw e1 e2=>aH w ?_ e2;unfold valueAt;rw [U7 (by simpa using λz=>q z.symm)];exact e1
theorem eO.isSome: ∀{l:List (Int×J)} {kvs:List (Int×Te)} {k:Int},eO T F X H s.heap l kvs->(valueAt kvs k).isSome=(getD k l).isSome:=by
 intro l_;induction l_ with
 |nil=>
  intro m_;cases m_ with
  |nil=>exact @λy y=>rfl
  |cons _ _=>exact @λy h=>h.elim
 |cons p_ l aG=>
  obtain ⟨j,a⟩:=p_;intro m_;cases m_ with
  |nil=>exact @λy h=>h.elim
  |cons q_ kvs=>
   obtain ⟨j',v⟩:=q_;exact @λk h=>by
    obtain ⟨h1,h2,h3⟩:=h;simp only at h1;subst h1;by_cases q:k=j';·refine Uc ?_ (congrArg WB (if_pos q:getD k ((j',a)::l)=some a)).symm;subst q;unfold valueAt;simp
    ·refine Uc ?_ (congrArg WB (if_neg q:getD k ((j',a)::l)=getD k l)).symm;unfold valueAt;rw [U7 (by simpa using λz=>q z.symm)];exact aG h3
def w9 (s:Tz) (o:Te):Prop:= ∃T id,s.TypeIs o T/\typeLookup (.type T) "__getitem__"=pure (some (.builtin id))
theorem wz (R:RH T B F X H s.heap) (e:rows H a=some l) (ha:aE T F X H s.heap a va): ∃x kvs,va=.ref x/\s.heap.DictOf (intKind T.prog T.w) x kvs/\(x==sysModules)=false/\eO T F X H s.heap l kvs:=by
 refine aQ λcT k_1=> ?_;cases a<;>first|exact ns e|skip
 ·obtain rfl:=Sm e;exact Gk ha λx kvs h1 h2 h3 z h4=>k_1 (nN x kvs h1 h2 h3 h4)
 ·rename_i x;have g: ∀o,H.h x=o->(match o with
   |some (.gU l)=>some l
   |_=>none)=some l->cT:=λo hx e=>by
   cases o with
   |none=>exact ns e
   |some o=>
    cases o<;>first|exact ns e|skip
    obtain rfl:=Sm e;exact fY (R.obj x _ hx) λkvs h2 h3 h4=>k_1 (nN (X x) kvs ha.1 h2 h3 h4)
  exact g _ rfl e
theorem Lu (x:Nat):rows H (.ref x)=(match H.h x with
 |some (.gU l)=>some l
 |_=>none):=rfl
theorem EL (R:RH T B F X H s.heap) (e:cz H a i=some r) (ha:aE T F X H s.heap a va) (hi:aE T F X H s.heap i vi) (k:Cont T B F X H s r Q):w9 s va/\wpAny (model T.prog T.w) A (Xw va vi) Q E s:=by
 have hcap:cap=65536:=rfl;refine aQ λcT k_1=> ?_;cases i<;>first|exact ns e|skip
 ·rename_i n;obtain ⟨t,rfl⟩:=hi;have O: ∀{l:List J} {x:Um} {o:Obj} {vs:Array Te} {ep:Nat},l.length<=cap->s.heap.get? x=some o->o.cls=.type "list"->o.data=.seq vs ep->aB T F X H s.heap l vs.toList->itemAt l n=some r->w9 s (.ref x)/\wpAny (model T.prog T.w) A (Xw (.ref x) (.int n t)) Q E s:=λ{l x o vs ep} c h2 h3 h4 h6 e=>by refine g8 (lN e) λe1 e2 e3=>ay (aB.get _ h6 e2) λv hv hr=> ?_;have hl:s.heap.IsList x vs:=⟨o,h2,h3,ep,h4⟩;exact ⟨(gv _ _ hl.typeIs slot_list_getitem.lookup),wpAny_getItem_list hl e1 (by omega) (by rw [<-hv];simp) (k.same R hr)⟩
  have gU: ∀{a:J} {va:Te} {l:List (Int×J)},rows H a=some l->aE T F X H s.heap a va->getD n l=some r->w9 s va/\wpAny (model T.prog T.w) A (Xw va (.int n t)) Q E s:=λ{a va l} e1 ha e=>by refine xx (wz R e1 ha) λx kvs qV h1 h2 h3=> ?_;clear ha;subst qV;exact ay (h3.get e) λv hv hr=>⟨(gv _ _ h1.typeIs slot_dict_getitem.lookup),wpAny_getItem_of (knd:=intKind T.prog T.w) (k:=n) (show VM n (.int n t)=true by simp [VM]) h1.mapOf hv (k.tok R hr)⟩
  cases a<;>first|exact ns e|skip
  ·clear O gU;obtain ⟨u,rfl,c⟩:=ha;refine ay (Sz.mp e) λz e1 K1=> ?_;clear e;subst K1;refine g8 (lN e1) λe1 e2 e3=>k_1 (⟨(gv _ _ (typeIs_bytes _ _ _) Xl.lookup),getItem_bytes (by exact (Ln.n2 0x18614220820820820820821054001588820820840) hcap c) e1 e3 (k.tok R ⟨s.toks,?_⟩)⟩);rw [SR,e2];rfl
  ·rename_i l;obtain ⟨c,x,o,vs,ep,rfl,h1,h2,h3,_,h4⟩:=ha;obtain ⟨e1,e2,e3⟩:=lN e;refine ay (aB.get _ h4 e2) λv hv hr=> ?_;have ht:IsTup s.heap x vs:=⟨o,h1,h2,ep,h3⟩;have hl:l.length=vs.size:=by have:=h4.length;rwa [Tv] at this
   refine k_1 (⟨(gv _ _ ht.typeIs slot_tuple_getitem.lookup),getItem_tuple ht (by lia) (by lia) (j:=n.toNat) ?_ (by refine (hv)▸ ?_;simp) (k.same R hr)⟩);have hn: ¬n<0:=by exact (Ln.z [] [_] 0x61c4c8015008) e1
   simp [seqIndex?,hn,e1];exact (Ln.z [_,_] [_] 0x186133c10160404cf000) e3 hl
  ·obtain ⟨c,x,o,vs,ep,rfl,h2,h3,h4,_,h6⟩:=ha;exact k_1 (O c h2 h3 h4 h6 e)
  ·exact k_1 (gU (a:=.gU _) rfl ha e)
  ·rename_i x;have g: ∀o,H.h x=o->(match o with
    |some (.O l)=>itemAt l n
    |some (.gU l)=>getD n l
    |_=>none)=some r->cT:=λo hx e=>by
    cases o with
    |none=>exact ns e
    |some o=>
     cases o<;>first|exact ns e|skip
     ·obtain ⟨rfl,_⟩:=ha;obtain ⟨c,o,vs,ep,h2,h3,h4,h6,_⟩:=R.obj x _ hx;exact k_1 (O c h2 h3 h4 h6 e)
     ·rename_i l;exact k_1 (gU (a:=.ref x) (l:=l) ((Lu x).trans (hx▸rfl)) ha e)
   exact g _ rfl e
theorem ON {op:vB} (R:RH T B F X H s.heap) (e:rows H y=some l) (hy:aE T F X H s.heap y vy) (hb:(op=.in_/\b=(getD n l).isSome)∨(op=.w6/\b=(getD n l).isNone)) (k:Cont T B F X H s (.bool b) Q):wpAny (model T.prog T.w) A (Wy op.py (.int n t) vy) Q E s:=by
 refine xx (wz R e hy) λx kvs cK h1 h2 h3=> ?_;clear hy;subst cK;have q:=h3.isSome (k:=n);rcases hb with ⟨rfl,rfl⟩|⟨rfl,rfl⟩;·refine wpAny_in_of (knd:=intKind T.prog T.w) (k:=n) (show VM n (.int n t)=true by simp [VM]) h2 h1.mapOf (k.tok R ?_);rw [q];rfl
 ·refine wpAny_notIn_of (knd:=intKind T.prog T.w) (k:=n) (show VM n (.int n t)=true by simp [VM]) h2 h1.mapOf (k.tok R ?_);rw [q];cases getD n l<;>rfl
theorem EJ (hu:A.units<cLine) (R:RH T B F X H s.heap) (e:rt H op a b=some r) (ha:aE T F X H s.heap a va) (hb:aE T F X H s.heap b vb) (k:Cont T B F X H s (.bool r) Q):wpAny (model T.prog T.w) A (Wy op.py va vb) Q E s:=by
 refine aQ λcT k_1=> ?_;cases op<;>first|exact k_1 (Qn hu e ha hb (k.same R rfl))|skip
 ·cases a<;>first|exact ns e|skip
  obtain ⟨l,h1,rfl⟩:=Sz.mp e;obtain ⟨t,rfl⟩:=ha;exact k_1 (ON R h1 hb (.inl ⟨rfl,rfl⟩) k)
 ·cases a<;>first|exact ns e|skip
  obtain ⟨l,h1,rfl⟩:=Sz.mp e;obtain ⟨t,rfl⟩:=ha;exact k_1 (ON R h1 hb (.inr ⟨rfl,rfl⟩) k)
end
theorem Ab (b n:Nat) (hb:b<=n):Builtin.Slice.sliceAdjust none (some (b:Int)) 1 (n:Int)=((0:Int),(b:Int)):=by unfold Builtin.Slice.sliceAdjust;congr 1;lia
theorem AY (b:Nat):Builtin.Slice.slicePlaces (0:Int) (b:Int) 1=b:=by
 unfold Builtin.Slice.slicePlaces;have h1:(1:Int)>0:=by exact (Ln.z [] [] 0x4c8848)
 simp only [h1,if_true,acN];split<;>lia
theorem GG (xs:Array Te) (b:Nat):((TR b).filterMap λ(k:Nat)=>xs[((0:Int)+(k:Int)*1).toNat]?).toArray=(xs.toList.take b).toArray:=by
 have e:(λ(k:Nat)=>xs[((0:Int)+(k:Int)*1).toNat]?)=λk=>xs[0+k]? :=by
  funext k;have:((0:Int)+(k:Int)*1).toNat=0+k:=by exact (Ln.n1 0x58a00840a30884f008)
  refine (this).symm▸ ?_;rfl
 refine (e).symm▸ ?_;have:=pick_run xs 0 b;rw [ZI] at this;rw [(rfl:((λx=>xs[x]?)∘λx=>0+x)=λk=>xs[0+k]?)] at this;refine (this).symm▸((VR).symm▸ ?_);rfl
section
theorem oq {items:Array Te} {b:Nat} (ht:IsTup s.heap t items) (hs:s.heap.IsSliceOf sl .none (.int b u) .none) (hb:b<items.size) (h:Q (.ref s.heap.objs.size) {s with heap:=s.heap.push {cls:=.type "tuple",data:=.seq (items.toList.take b).toArray}}) (hsz:items.size<=abv):wpAny (model prog w) A (Xw (.ref t) (.ref sl)) Q E s:=by
 have DU:sizeOk (.seq (items.toList.take b).toArray):=by refine (?_:(items.toList.take b).toArray.size<=abv);rw [Ui,UM,Tv];lia
 refine fY (id hs) λos hos hcs hds=> ?_;unfold Xw;try with_reducible refine W6 ?_
 first|refine Sw (SN ?_)|skip
 refine Sw (ab1 ht.typeIs (by decide) ?_);refine Sw (wpAny_callSpecial?_slot (name:=Xc "__getitem__") ht.typeIs slot_tuple_getitem (VE slot_tuple_getitem ht.typeIs entry_tuple_getitem ?_ (args_tuple_getitem _ _)));refine (?_:wpAny _ _ (Builtin.Tuple.tupleItemsOf (.ref t)>>=_) _ _ s);refine Sw (tupleItemsOf_ ht ?_);refine Sw (wpAny_typeOf ((aH os hos hcs)) ?_);rw [if_pos (by decide)];have app:wpAny (model prog w) A.in1 (Builtin.Slice.sliceApplied (.ref sl) (pure ((items.size:Nat):Int))) (λr s'=>r=((0:Int),1,b)/\s'=s) (λz z=>False) s:=by refine Sw (Sw (Xa hos hds (x:=.none) rfl (Sw (Xa hos hds (x:=.int b u) rfl (Sw (Xa hos hds (x:=.none) rfl (SN ?_)))))));refine Sw (slicePart_none ?_);rw [if_neg (by decide)];refine Sw (slicePart_none (Sw (slicePart_int (Sw (SN ?_)))));refine (Ab b items.size (by lia)).symm▸((?_:wpAny _ _ (pure ((0:Int),(1:Int),Builtin.Slice.slicePlaces (0:Int) (b:Int) 1)) _ _ s));exact (AY b).symm▸(SN ⟨rfl,rfl⟩)
 refine Sw (Wo app (λr s' hr=> ?_) λz z e=>e.elim);clear ht hs hos app;obtain ⟨rfl,rfl⟩:=hr;have hno: ¬(((0:Int)==0&&(1:Int)==1&&b==items.size)=true):=by
  have:(b==items.size)=false:=by rw [beq_eq_false_iff_ne];lia
  refine (this).symm▸ ?_;simp
 refine (?_:wpAny _ _ (if ((0:Int)==0&&(1:Int)==1&&b==items.size)=true then _ else _) _ _ _);refine (if_neg hno).symm▸((GG items b).symm▸ ?_);first|exact Sw (m:=Builtin.Tuple.tupleExact _) (UX (SN (aH _ rfl (SN h))) DU)|exact Sw (m:=Builtin.Tuple.tupleExact _) (UX (Sw (SN (SN ⟨_,rfl,SN h⟩))) DU)|exact Sw (Sw (m:=Builtin.Tuple.tupleExact _) (UX (SN (SN ⟨_,rfl,SN h⟩)) DU))|exact Sw (Sw (m:=Builtin.Tuple.tupleExact _) (UX (SN ⟨_,rfl,SN h⟩) DU))
end
section
noncomputable def je (T:eS) (F:List Um) (X:Nat->Um) (H:U) (h:Vr):Option J->Te->Prop
 |none,v=>v=.none
 |some a,v=>aE T F X H h a v
theorem je.G7 (e:FQ o=some r) (p:je T F X H h o v):IsPart v r/\ ∀i,r=some i->0<=i:=by
 cases o with
 |none=>obtain rfl:=Sm e;subst p;exact ⟨.none,(by decide)⟩
 |some a=>
  cases a<;>first|exact ns e|skip
  obtain ⟨hi,rfl⟩:=dw e;obtain ⟨t,rfl⟩:=p;exact ⟨.int _ t,λj z=>Sm z▸hi⟩
theorem sG (h:0<=i):clipAt n i=min i.toNat n:=by have:=clipAt_nat n i.toNat;rwa [XD h] at this
theorem Cq (b:List UInt8) {lo hi:Option Int} (h1: ∀i,lo=some i->0<=i) (h2: ∀i,hi=some i->0<=i):KBy.picked b.toArray lo hi=(cut b (lo.getD 0) hi).toArray:=by
 rw [KBc.picked_eq];have e1:lo.elim 0 (clipAt b.length)=min (lo.getD 0).toNat b.length:=by
  cases lo with
  |none=>simp
  |some i=>exact sG (h1 i rfl)
 have e2:hi.elim b.length (clipAt b.length)=min (hi.elim b.length abd) b.length:=by
  cases hi with
  |none=>simp
  |some i=>exact sG (h2 i rfl)
 have e3:cut b (lo.getD 0) hi=(b.take (hi.elim b.length abd)).drop (lo.getD 0).toNat:=by
  unfold cut;clear h2 e2;cases hi with
  |none=>simp
  |some i=>rfl
 refine (e1).symm▸((e2).symm▸ ?_);refine (e3).symm▸ ?_;congr 1;generalize (lo.getD 0).toNat=x;generalize (hi.elim b.length abd)=y;apply VO;intro k;simp only [ZG,List.getElem?_drop];by_cases q:k<min y b.length-min x b.length;·rw [if_pos q,if_pos (by exact (Ln.n4 0x184812800d22cd083342040) q)];congr 1;exact (Ln.n4 0x1858a0032803420d22cd083342040) q
 ·rw [if_neg q];by_cases z:x+k<y;·rw [if_pos z,Ua (by exact (Ln.n4 0x61850a00309204a0037122cd083342040) q z)]
  ·rw [if_neg z]
theorem vj (items:Array Te) (h:0<=i):slicePick items none (some i) none=(items.toList.take i.toNat).toArray:=by
 have:slicePick items none (some i) none=slicePick items none (some ((min i.toNat items.size:Nat):Int)) none:=by unfold slicePick;rw [sliceBounds_plain,sliceBounds_plain];simp only [abz];rw [sG h,clipAt_nat,ab4,aco]
 rw [this,slicePick_upto _ _ (Z8 _ _)];congr 1;apply VO;intro k;simp only [ZG];by_cases q:k<items.size;·
  by_cases z:k<i.toNat;·rw [if_pos (by exact (Ln.z [_,_] [_] 0x18612341400012400012040) q z),if_pos z]
  ·rw [if_neg (by exact (Ln.z [_,_] [_] 0x1871234140001c490000) z),if_neg z]
 ·rw [Ua (by simp;exact (Ln.n2 0x614001712040) q)];simp
theorem vF (items:Array Te) (h:0<=i):slicePick items (some i) none none=(items.toList.drop i.toNat).toArray:=by
 have:slicePick items (some i) none none=slicePick items (some ((min i.toNat items.size:Nat):Int)) none none:=by unfold slicePick;rw [sliceBounds_plain,sliceBounds_plain];simp only [abz];rw [sG h,clipAt_nat,ab4,aco]
 refine (this).symm▸((slicePick_from _ _ (Z8 _ _)).symm▸ ?_);congr 1;by_cases z:i.toNat<=items.size;·rw [Vs z]
 ·rw [Yn (by exact (Ln.z [_] [_] 0x61440001c500400) z),Y9 (by simp),Y9 (by simp;exact (Ln.z [_] [_] 0x61440001c500400) z)]
theorem tC {lo hi:Option J} {sl:Um} {res:J⊕List J} (R:RH T B F X H s.heap) (e:cN H a lo hi=some res) (ha:aE T F X H s.heap a va) (hs:s.heap.IsSliceOf sl vl vu .none) (hlo:je T F X H s.heap lo vl) (hhi:je T F X H s.heap hi vu) (k1: ∀v,res=.inl v->Cont T B F X H s v Q) (k2: ∀l,res=.inr l->iE T B F X H s (.O l) Q):w9 s va/\wpAny (model T.prog T.w) A (Xw va (.ref sl)) Q E s:=by
 have hcap:cap=65536:=rfl;refine aQ λcT k_1=> ?_;revert e;have g: ∀ol oh,FQ lo=ol->FQ hi=oh->(match ol,oh with
  |some lo,some hi=>(match (generalizing:=false) a with
   | .bytes b=>some (.inl (.bytes (cut b (lo.getD 0) hi)))
   | .bW l=>(match lo,hi with
    |none,some h=>if 0<h/\h<l.length then some (.inl (.bW (l.take h.toNat))) else none
    |_,_=>none)
   |a=>(items H a).bind λl=>match lo,hi with
    |none,some h=>some (.inr (l.take h.toNat))
    |some h,none=>some (.inr (l.drop h.toNat))
    |_,_=>none)
  |_,_=>none)=some res->cT:=λol oh el eh e=>by
  cases ol with
  |none=>exact ns e
  |some lo'=>
   cases oh with
   |none=>exact ns e
   |some hi'=>
    obtain ⟨p1,n1⟩:=hlo.G7 el;clear hlo el;obtain ⟨p2,n2⟩:=hhi.G7 eh;clear hhi eh;have ls: ∀(a:J) {va:Te},aE T F X H s.heap a va->((items H a).bind λl=>match lo',hi' with
     |none,some h=>some (.inr (l.take h.toNat))
     |some h,none=>some (.inr (l.drop h.toNat))
     |_,_=>none)=some res->w9 s va/\wpAny (model T.prog T.w) A (Xw va (.ref sl)) Q E s:=λa va ha e=>by
     refine ay (SV.mp e) λl e1 e=> ?_;clear k1;obtain ⟨c,x,o,vs,ep,rfl,h2,h3,h4,h6⟩:=fS R e1 ha;have hl:s.heap.IsList x vs:=⟨o,h2,h3,ep,h4⟩;have hlen:l.length=vs.size:=by have:=h6.length;rwa [Tv] at this
     refine ⟨(gv _ _ hl.typeIs slot_list_getitem.lookup),?_⟩;refine aQ λJV k_2=> ?_;cases lo' with
     |none=>
      cases hi' with
      |none=>exact ns e
      |some hi'=>cases e;refine k_2 (Zq hl hs p1 p2 .none (by simp) ?_ (by rw [sizeLine_eq];exact (Ln.n3 0x18618508820820820842582054001588820820840) hcap c hlen));rw [vj vs (n2 _ rfl)];have:=(k2 _ rfl).list (t:=s.toks) R (by rw [UM];exact (Ln.z [_,_] [_] 0x61404d010014040) c) (h6.take _);exact this
     |some lo'=>
      cases hi' with
      |some _=>exact ns e
      |none=>cases e;refine k_2 (Zq hl hs p1 p2 .none (by simp) ?_ (by rw [sizeLine_eq];exact (Ln.n3 0x18618508820820820842582054001588820820840) hcap c hlen));rw [vF vs (n1 _ rfl)];have:=(k2 _ rfl).list (t:=s.toks) R (by rw [Z3];exact (Ln.z [_,_] [_] 0x61404b400014040) c) (h6.drop _);exact this
    cases a<;>first|exact k_1 (ls .none ha e)|exact k_1 (ls (.bool _) ha e)|exact k_1 (ls (.int _) ha e)|exact k_1 (ls (.O _) ha e)|exact k_1 (ls (.obj _ _) ha e)|exact k_1 (ls (.gU _) ha e)|exact k_1 (ls (.ref _) ha e)|exact k_1 (ls (.aI _ _) ha e)|exact k_1 (ls .ah ha e)|skip
    ·rename_i b;clear k2 ls;obtain rfl:=Sm e;clear e;obtain ⟨t,rfl,c⟩:=ha;refine k_1 (⟨(gv _ _ (typeIs_bytes _ _ _) Xl.lookup),getItem_meets (typeIs_bytes _ _ _) (by decide) Xl FB.entry_bytes_getitem (FB.args_bytes_getitem_2 _ _) (KBc.meets_slice2 b.toArray t sl p1 p2) ⟨hs,Sl (KBc.size_picked_le _ _ _) (by rw [Ui,sizeLine_eq];exact (Ln.n2 0x18614220820820821054001588820820840) hcap c),λt' k=> ?_⟩⟩);refine (?_:Q _ _);refine (Cq b n1 n2).symm▸((k1 _ rfl).tok R (aH t' rfl (Sl ?_ c)));unfold cut;rw [Z3];clear p2 n2 k1;split;·rw [UM];exact (Ln.z [_] [_,_] 0x1400b401340400)
     ·exact (Ln.z [_] [_] 0x5002d0000)
    ·rename_i l;clear k2 n1 n2 ls;cases lo' with
     |some _=>cases hi'<;>exact ns e
     |none=>
      cases hi' with
      |none=>exact ns e
      |some hi'=>
       obtain ⟨hh,rfl⟩:=dw e;clear e;cases p1;cases p2;obtain ⟨c,x,o,vs,ep,rfl,h1,h2,h3,_,h4⟩:=ha;have ht:IsTup s.heap x vs:=⟨o,h1,h2,ep,h3⟩;have hl:l.length=vs.size:=by have:=h4.length;rwa [Tv] at this
       obtain ⟨n,rfl⟩: ∃n:Nat,hi'=n:=⟨hi'.toNat,by exact (Ln.z [_] [_] 0x6173d00006533c0013008) hh⟩;refine k_1 (⟨(gv _ _ ht.typeIs slot_tuple_getitem.lookup),oq ht hs (by exact (Ln.n3 0x6184810994cf00f0933c2216040) hl hh) ?_ (by rw [sizeLine_eq];exact (Ln.n3 0x18618508820820820842582054001588820820840) hcap c hl)⟩);have:=(k1 _ rfl).tuple (t:=s.toks) R (by rw [UM];exact (Ln.n3 0x1850134040f094040) c) (h4.take n);exact this
 exact g _ _ rfl rfl
end
noncomputable def Jc (K:abn) (C:Um) (name:Str):Bool:=plainGet K C name&&hasDictIn K C&&(match findIn K (.ref C) name with
 |some attr=>noGet K attr
 |none=>false)
noncomputable def setB (K:abn) (C:Um) (name:Str):Bool:=(findIn K (.ref C) "__setattr__"==some (some (.builtin "object.__setattr__")))&&plainOver K C&&(takerIn K C name==some none)&&hasDictIn K C
section
variable {T:eS} {B:Vr} {F:List Um} {X:Nat->Um} {H:U} {A:Wc} {E:Te->Tz->Prop} {s:Tz}
theorem aE.handedIn (r:aE T F X H h a v):handedIn v=true:=by
 cases a<;>first|exact Wz r|skip
 ·obtain rfl:=r;rfl
 ·obtain rfl:=r;rfl
 ·obtain ⟨t,rfl⟩:=r;rfl
 ·obtain ⟨t,rfl,_⟩:=r;rfl
 ·obtain ⟨_,a,_,_,_,rfl,_⟩:=r;rfl
 ·obtain ⟨_,a,_,_,_,rfl,_⟩:=r;rfl
 ·refine QD r λa z z z HW z=> ?_;clear r;subst HW;rfl
 ·refine dM r λa z d9 z=> ?_;clear r;subst d9;rfl
 ·obtain ⟨rfl,_⟩:=r;rfl
 ·obtain ⟨a,rfl,_⟩:=r;rfl
theorem q6 (R:RH T B F X H s.heap) (e:fieldsOf H x=some (C,fs)) (hx:aE T F X H s.heap x vx): ∃a dx es n,vx=.ref a/\s.heap.get? a=some (instObj (T.cl C) dx)/\s.heap.get? dx=some (dictOf es n)/\dJ T F X H s.heap fs es:=by
 refine aQ λcT k_1=> ?_;cases x<;>first|exact ns e|skip
 ·cases Sm e;exact Sh hx λa dx es n h1 h2 h3 z z h4=>k_1 (AU a dx es n h1 h2 h3 h4)
 ·rename_i D x;have g: ∀o,H.h x=o->(match o with
   |some (.cj fs)=>some (D,fs)
   |_=>none)=some (C,fs)->cT:=λo hh e=>by
   cases o with
   |none=>exact ns e
   |some o=>
    cases o<;>first|exact ns e|skip
    cases Sm e;exact fY hx λa h1 h2 z=>dM (R.obj x _ hh) λes n h3 h4=>k_1 (AU a (X x) es n h1 h2 h3 h4)
  exact g _ rfl e
theorem xq (h1:h.get? a=some (instObj C dx)) (h2:h.get? dx=some (dictOf es n)):InstAt h a (instObj C dx) C (some (dictOf es n)):=⟨h1,rfl,rfl,h2⟩
theorem dJ.refKey: ∀{fs:List (Fd×J)} {es:List Wb},dJ T F X H h fs es->es.any (·.refKey)=false:=by
 intro l_;induction l_ with
 |nil=>
  intro m_;cases m_ with
  |nil=>exact @λz=>rfl
  |cons _ _=>exact @λr=>r.elim
 |cons _ fs aG=>
  intro m_;cases m_ with
  |nil=>exact @λr=>r.elim
  |cons e es=>exact @λr=>by refine rP r λtH z z h4=> ?_;obtain ⟨t,h1⟩:=tH;rw [YW,aG h4];simp [DictEntry.refKey,h1]
theorem dJ.get (inj: ∀f g,T.aY f=T.aY g->f=g): ∀{fs:List (Fd×J)} {es:List Wb},dJ T F X H h fs es->o8 f fs=some r-> ∃e,es.find? (·.key.isStr (T.aY f))=some e/\aE T F X H h r e.val:=by
 intro l_;induction l_ with
 |nil=>exact @λy y e=>by cases e
 |cons p_ fs aG=>
  obtain ⟨g,u⟩:=p_;intro m_;cases m_ with
  |nil=>exact @λr y=>r.elim
  |cons en es=>
   exact @λR e=>by
    refine rP R λtH y h3 h4=> ?_;clear R;obtain ⟨t,h1⟩:=tH;simp only at h1 h3;by_cases q:f=g;·obtain rfl:=Sm ((if_pos q).symm.trans e);subst q;refine aH en ?_ h3;rw [Y7];rw [h1];simp [Zk]
    ·replace e:=(if_neg q).symm.trans e;refine ay (aG h4 e) λe' h5 h6=>aH e' ?_ h6;rw [U7,h5];rw [h1];intro z;exact q (inj _ _ ((beq_iff_eq.mp z).symm))|>.elim
theorem DZ (inj: ∀f g,T.aY f=T.aY g->f=g) (ok: ∀C f,uD C f=true->Jc T.K (T.cl C) (T.aY f)=true) (ι:T.K.In s.heap) (R:RH T B F X H s.heap) (e:AP H x f=some r) (hx:aE T F X H s.heap x vx) (k:Cont T B F X H s r Q):wpAny (model T.prog T.w) A (getAttr vx (T.aY f) b) Q E s:=by
 refine aQ λcT k_1=>ay (SV.mp e) λtH e1 e=> ?_;obtain ⟨C,fs⟩:=tH;split at e;·
  rename_i hf;refine vC (q6 R e1 hx) λa dx es n J5 h1 h2 h3=> ?_;clear hx;subst J5;have ab:=ok C f hf;refine dD (Su.mp ab) λab a3=> ?_;obtain ⟨a1,a2⟩:=Su.mp ab;split at a3;·rename_i attr ha;exact ay (h3.get inj e) λen h4 h5=>k_1 (get_value ι (xq h1 h2) (plainGet_of a1).1 (findObj_own a2 ha a3 (by rw [lookIn_dict];unfold getL;rw [h4])) h5.handedIn (k.tok R h5))
  ·cases a3
 ·exact ns e
theorem dJ.set (inj: ∀f g,T.aY f=T.aY g->f=g) (V:aE T F X H h v vv): ∀{fs:List (Fd×J)} {es:List Wb},dJ T F X H h fs es->dJ T F X H h (kI f v fs) (putL (T.aY f) (Vh T.w.params (T.aY f)) (.str (T.aY f) t) vv es):=by
 intro l_;induction l_ with
 |nil=>
  intro m_;cases m_ with
  |nil=>exact @λy=>⟨⟨t,rfl⟩,rfl,V,trivial⟩
  |cons _ _=>exact @λr=>r.elim
 |cons p_ fs aG=>
  obtain ⟨g,u⟩:=p_;intro m_;cases m_ with
  |nil=>exact @λr=>r.elim
  |cons en es=>
   exact @λR=>by
    refine rP R λtH h2 h3 h4=> ?_;clear R;obtain ⟨t',h1⟩:=tH;simp only at h1 h2 h3;unfold putL;by_cases q:f=g;·
     subst q;have:en.key.isStr (T.aY f)=true:=by rw [h1];simp [Zk]
     refine (show kI f v ((f,u)::fs)=(f,v)::fs from if_pos rfl).symm▸ ?_;rw [this];exact ⟨⟨t',h1⟩,h2,V,h4⟩
    ·have:en.key.isStr (T.aY f)=false:=by rw [h1];simp only [Zk];rw [beq_eq_false_iff_ne];exact λz=>q (inj _ _ z.symm)
     refine (show kI f v ((g,u)::fs)=(g,u)::kI f v fs from if_neg q).symm▸ ?_;rw [this];exact ⟨⟨t',h1⟩,h2,h3,aG h4⟩
theorem dJ.length: ∀{fs:List (Fd×J)} {es:List Wb},dJ T F X H h fs es->fs.length=es.length:=by
 intro l_;induction l_ with
 |nil=>
  intro m_;cases m_ with
  |nil=>exact @λz=>rfl
  |cons _ _=>exact @λr=>r.elim
 |cons _ LB aG=>
  intro m_;cases m_ with
  |nil=>exact @λr=>r.elim
  |cons _ _=>exact @λr=>congrArg (· +1) (aG r.2.2.2)
theorem BD (f:Fd) (v:J): ∀fs:List (Fd×J),(kI f v fs).length<=fs.length+1:=by
 intro l_;induction l_ with
 |nil=>exact Sv 1
 |cons p_ fs aG=>
  obtain ⟨g,u⟩:=p_;exact by
   by_cases q:f=g;·exact Sl (Ub (congrArg VN (if_pos q:kI f v ((g,u)::fs)=(g,v)::fs))) (T8 _)
   ·refine Sl (Ub (congrArg VN (if_neg q:kI f v ((g,u)::fs)=(g,u)::kI f v fs))) ?_;have:=aG;exact (Ln.n2 0x1850a22128884128884050a221040) this
def pC (T:eS) (B:Vr) (F:List Um) (X:Nat->Um) (H:U) (s:Tz) (x:Nat) (o:gm) (Q:Unit->Tz->Prop):Prop:= ∀s',RH T B F X (H.set x o) s'.heap->Step F F X H s.heap X (H.set x o) s'.heap->Rest s s'->Q () s'
theorem tZ (inj: ∀f g,T.aY f=T.aY g->f=g) (ok: ∀C f,uD C f=true->setB T.K (T.cl C) (T.aY f)=true) (ι:T.K.In s.heap) (R:RH T B F X H s.heap) (hx:aE T F X H s.heap (.aI C x) vx) (hh:H.h x=some (.cj fs)) (hf:uD C f=true) (hl:fs.length<100) (hv:aE T F X H s.heap v vv) (k:pC T B F X H s x (.cj (kI f v fs)) Q):wpAny (model T.prog T.w) A (setAttr vx (T.aY f) vv) Q E s:=by
 refine fY hx λa nR h1 z=> ?_;clear hx;subst nR;have hb:=ok C f hf;refine aQ λcT k_1=>dD (Su.mp hb) λhb b4=> ?_;obtain ⟨hb,b3⟩:=Su.mp hb;obtain ⟨b1,b2⟩:=Su.mp hb;have ho:=R.obj x _ hh;refine dM ho λes n h3 h4=> ?_;have I:=xq h1 h3;refine k_1 (set_plain ι I (beq_iff_eq.mp b1) ?_);refine osa_open (s:={s with toks:=s.toks+1}) ι I b2 (beq_iff_eq.mp b3) λb=>ay (any_some b4) λcd hc hd'=> ?_;refine Sw (SN (Sw (Sw (wpAny_loadPart h1 (Sw ((looks_clsIn ι hc) _ _ _ {s with toks:=s.toks+1} (λz z e=>e) ?_))))));refine (hd').symm▸(SN (a:=some (X x)) (Sw (SN (Sw ?_))));refine Sw (Sw (acj (SN (Sw (wpAny_mkText (Sw (wpAny_loadPart h3 ?_)))))));have c:(!es.toArray.any (·.key.isStr (T.aY f))&&es.toArray.any (·.refKey))=false:=by refine (ZW)▸((ZW)▸ ?_);refine (Wd).symm▸((h4.refKey).symm▸ ?_);rw [Bool.and_false]
 dsimp only [dictOf];rw [aRefKeyMayBeTheName_at,c];have kp: ∀b o,b≠X x->s.heap.get? b=some o->(s.heap.update (X x) (YA (T.aY f) (Vh T.w.params (T.aY f)) (.str (T.aY f) (s.toks+1)) vv)).get? b=some o:=λb o q e=>(Uc (UO _ _ (WQ q)) (e));have he:YA (T.aY f) (Vh T.w.params (T.aY f)) (.str (T.aY f) (s.toks+1)) vv (dictOf es n)=dictOf (putL (T.aY f) (Vh T.w.params (T.aY f)) (.str (T.aY f) (s.toks+1)) vv es) (putN (T.aY f) es n):=putName_dict _ _ _ _ _ _;have D':(s.heap.update (X x) (YA (T.aY f) (Vh T.w.params (T.aY f)) (.str (T.aY f) (s.toks+1)) vv)).get? (X x)=some (dictOf (putL (T.aY f) (Vh T.w.params (T.aY f)) (.str (T.aY f) (s.toks+1)) vv es) (putN (T.aY f) es n)):=by exact (he)▸(Vq _ h3 (by refine (he).symm▸ ?_;rfl))
 refine dD (R.set (x:=x) (o:=.cj (kI f v fs)) (by refine (hh).symm▸ ?_;rfl) kp (by refine (D').symm▸ ?_;rfl) λS=>by exact gv _ _ D' ((h4.step S).set inj (hv.step S))) λR' S=> ?_;have hlen:=(dJ.set (f:=f) (t:=s.toks+1) inj hv h4).length;have hlen2:=BD f v fs;refine wpAny_updatePart h3 ?_;refine Sw (YL D' (pastItsLine_dict (by rw [Ui];exact (sizeLine_eq).symm▸((Ln.n3 0x1861850886082082084250a221001582052224980) hl hlen hlen2))) ?_);exact SN (k {s with heap:=s.heap.update (X x) (YA (T.aY f) (Vh T.w.params (T.aY f)) (.str (T.aY f) (s.toks+1)) vv),toks:=s.toks+1+1} R' S ⟨rfl,rfl⟩)
end
structure Wf0 (T:eS) (B:Vr):Prop where
 wJ:T.K.In B
 ns: ∃mg,B.Ns UC mg
 bi: ∃mb,B.Ns V5 mb/\ ∀x:Str,x≠"__name__"->mb x=Xx x
 nolimit:B.NoLimit
 JN:(B.get? sysModules).isSome=true
 aY: ∀f g,T.aY f=T.aY g->f=g
 fm: ∀g m,T.aY g=T.mname m->g=(.of 7)/\m=(.of 10)
 HC: ∀f,keepIn T.K (.ref (T.fn f))=true
 Oz: ∀C,keepIn T.K (.ref (T.cl C))=true
 attr: ∀C f,uD C f=true->Jc T.K (T.cl C) (T.aY f)=true
 set: ∀C f,uD C f=true->setB T.K (T.cl C) (T.aY f)=true
 iA: ∀C m f,kM C m=some f->plainGet T.K (T.cl C) (T.mname m)=true/\findIn T.K (.ref (T.cl C)) (T.mname m)=some (some (.ref (T.fn f)))/\isFn T.K (.ref (T.fn f))=true
structure abp (T:eS):Prop where
 own: ∀C f,jS C=some f->makesIn T.K (T.cl C)=true/\findIn T.K (.ref (T.cl C)) "__init__"=some (some (.ref (T.fn f)))/\typeIn T.K (.ref (T.fn f))=some (.type "function")
 tN:makesIn T.K (T.cl (.of 1))=true/\findIn T.K (.ref (T.cl (.of 1))) "__init__"=some (some (.builtin "object.__init__"))
structure Wf (T:eS) (B:Vr):Prop extends Wf0 T B,abp T
structure Cx where
 T:eS
 B:Vr
 P:List Um
 F:List Um
 fr:List Env
 A:Wc
 env:Env
 names:List Str
 zo:Str->Bool
 cv:Option Str
noncomputable def Cx.cc (c:Cx):CC:=⟨c.T,c.names,c.env.scope.names,c.zo,c.cv⟩
def Pw (env:Env) (h:Vr) (x:Str) (v:Te):Prop:=(env.kindOf x=some .local/\ ∃m,h.Ns env.locals m/\m x=some v)∨((env.kindOf x=some .cell∨env.kindOf x=some .free)/\ ∃c,env.cells.lookup x=some c/\h.IsCell c (some v))
structure Loc (c:Cx) (X:Nat->Um) (H:U) (h:Vr) (ls:List J) (cv:J):Prop where
 ns: ∃m,h.Ns c.env.locals m
 cells: ∀x a,c.env.cells.lookup x=some a-> ∃v,h.IsCell a v
 len:ls.length=c.names.length
 has: ∀(i:Nat) (a:J) (x:Str),ls[i]? =some a->a≠.ah->c.names[i]? =some x->c.zo x=true-> ∃v,Pw c.env h x v/\aE c.T c.F X H h a v
 comp: ∀x,c.cv=some x-> ∃v,Pw c.env h x v/\aE c.T c.F X H h cv v
structure Cx.Ok (c:Cx) (n:Nat):Prop where
 wf:Wf c.T c.B
 kind:c.env.scope.kind=.function
 glob:c.env.globals=UC
 bi:c.env.builtins=V5
 AN:c.env.locals∈c.F
 rU: ∀x a,c.env.cells.lookup x=some a->a∈c.F
 PF: ∀a∈c.P,a∈c.F
 handled:c.A.handled=none
 frames:c.A.frames=some c.fr
 yv: ∀e∈c.fr,∀L,e.frame=some L->L∈c.F
 depth:c.A.depth+8*n+14<=Zj
 units:c.A.units+40*n+80<=cLine
structure Inv (c:Cx) (cv:J) (X:Nat->Um) (Y:St) (s:Tz):Prop where
 rh:RH c.T c.B c.F X Y.hs s.heap
 loc:Loc c X Y.hs s.heap Y.ls cv
 kN:s.heap.FunFrames c.B c.fr
theorem Pw.slots (k: ∀a o,(a=env.locals∨ ∃y,env.cells.lookup y=some a)->h.get? a=some o-> ∃sl,h'.get? a=some {o with slots:=sl}) (r:Pw env h x v):Pw env h' x v:=by
 refine aQ λcT k_1=> ?_;rcases r with ⟨e,m,⟨o,es,ep,h1,h2,h3,h4⟩,hm⟩|⟨e,c,hc,o,h1,h2⟩;·obtain ⟨sl,e'⟩:=k _ o (.inl rfl) h1;exact k_1 (.inl ⟨e,m,(N2 _ es ep e' h2 h3 h4),hm⟩)
 ·obtain ⟨sl,e'⟩:=k _ o (.inr ⟨x,hc⟩) h1;exact k_1 (.inr ⟨e,c,hc,_,e',h2⟩)
theorem Loc.step (ok:c.Ok n) (S:Step c.F c.F X H h ι' H' h') (L:Loc c X H h ls cv):Loc c ι' H' h' ls cv:=by
 have k: ∀a o,(a=c.env.locals∨ ∃y,c.env.cells.lookup y=some a)->h.get? a=some o-> ∃sl,h'.get? a=some {o with slots:=sl}:=λa o ha e=>by
  refine S.slots' a ?_ o e;clear e;rcases ha with rfl|⟨y,hy⟩;·exact ok.AN
  ·exact ok.rU y a hy
 refine ⟨?_,λx a hx=> ?_,L.len,λi a x h1 h2 h3 h6=> ?_,λx hx=> ?_⟩;·refine vC L.ns λm o es ep h1 h2 h3 h4=> ?_;obtain ⟨sl,e'⟩:=k _ o (.inl rfl) h1;exact AU m _ es ep e' h2 h3 h4
 ·refine dM (L.cells x a hx) λv o h1 h2=> ?_;obtain ⟨sl,e'⟩:=k _ o (.inr ⟨x,hx⟩) h1;exact gv v _ e' h2
 ·exact ay (L.has i a x h1 h2 h3 h6) λv h4 h5=>aH v (h4.slots k) (h5.step S)
 ·exact ay (L.comp x hx) λv h4 h5=>(aH v (h4.slots k) (h5.step S))
theorem eG {B h h':Vr} {F:List Um} (k: ∀a∈F,∀o,h.get? a=some o-> ∃sl,h'.get? a=some {o with slots:=sl}): ∀{l:List Env},(∀e∈l,∀L,e.frame=some L->L∈F)->h.FunFrames B l->h'.FunFrames B l:=by
 intro l_;induction l_ with
 |nil=>exact @λz z=>trivial
 |cons e l aG=>exact @λhf Rk=>by obtain ⟨h1,⟨L,o,h2,h3,h4,h5⟩,h6⟩:=Rk;obtain ⟨sl,e'⟩:=k L (hf e (.head _) L h2) o h4;exact ⟨h1,(nN L _ h2 h3 e' h5),aG (λe he=>hf e (.tail _ he)) h6⟩
theorem Inv.step (ok:c.Ok n) (I:Inv c cv X ⟨ls,H⟩ s) (R:RH c.T c.B c.F ι' H' s'.heap) (S:Step c.F c.F X H s.heap ι' H' s'.heap):Inv c cv ι' ⟨ls,H'⟩ s':=⟨R,I.loc.step ok S,eG S.slots' ok.yv I.kN⟩
def Ly (T:eS) (h₀ :Vr) (e:Te) (h:Vr):Prop:= ∃a,e=.ref a/\h₀.get? a=none/\((∃o vs,h.get? a=some o/\o.cls=.ref (T.cl (.of 16))/\o.data=.fields vs/\vs[1]? =some .none)∨h.Traced h₀ a (.ref (T.cl (.of 16))))
def Res {α β:Type} (c:Cx) (P:List Um) (cv:J) (rel:(Nat->Um)->U->Vr->α->β->Prop) (X:Nat->Um) (H:U) (s:Tz) (o:aA St α) (b:β) (s':Tz):Prop:= ∃a σ' ι',o=.ok a σ'/\rel ι' σ'.hs s'.heap a b/\Inv c cv ι' σ' s'/\Step P c.F X H s.heap ι' σ'.hs s'.heap/\Rest s s'
def IS {α:Type} (c:Cx) (P:List Um) (cv:J) (X:Nat->Um) (H:U) (s:Tz) (o:aA St α) (e:Te) (s':Tz):Prop:= ∃σ' ι',o=.exc σ'/\Ly c.T s.heap e s'.heap/\RH c.T c.B c.F ι' σ'.hs s'.heap/\Inv c cv ι' σ' s'/\Step P c.F X H s.heap ι' σ'.hs s'.heap/\Rest s s'
theorem Ly.older {h₀ h₁ h:Vr} (k: ∀a,(h₀.get? a).isSome=true->(h₁.get? a).isSome=true) (f:Ly T h₁ e h):Ly T h₀ e h:=by
 have old: ∀a,h₁.get? a=none->h₀.get? a=none:=λa ha=>by
  cases z:h₀.get? a with
  |none=>rfl
  |some o=>have:=k a (((z).symm▸rfl));replace this:=(ha)▸this;cases this
 refine fY f λa Lg hn q=> ?_;clear f;subst Lg;refine iw a rfl (old a hn) (q.imp id ?_);rintro ⟨oe,vs,T,oT,ts,h1,h2,h3,h4,h5,h6⟩;exact acw oe vs T oT ts h1 h2 h3 h4 (old T h5) h6
section
variable {α β γ δ:Type} {c:Cx} {P:List Um} {cv:J} {X:Nat->Um} {H:U} {M:Y3} {A:Wc} {s:Tz} {n:Nat}
theorem IS.older {o:aA St α} {o':aA St γ} {s':Tz} {e:Te} {s'':Tz} (S:Step P c.F X H s.heap ι' H' s'.heap) (r:Rest s s') (x:IS c P cv ι' H' s' o e s'') (k: ∀Y,o=.exc Y->o'=.exc Y):IS c P cv X H s o' e s'':=by exact qF x λσ' vZ h1 h2 h3 h6 h4 h5=>rJ σ' vZ (k _ h1) (h2.older S.alive) h3 h6 (S.trans h4) (r.trans h5)
theorem Res.older {rel:(Nat->Um)->U->Vr->α->β->Prop} (S:Step P c.F X H s.heap ι' H' s'.heap) (r:Rest s s') (x:Res c P cv rel ι' H' s' o b s''):Res c P cv rel X H s o b s'':=by exact gH x λa σ' vZ h1 h2 h3 h4 h5=>d7 a σ' vZ h1 h2 h3 (S.trans h4) (r.trans h5)
abbrev fH (c:Cx) (P:List Um) (cv:J) (A:Wc) (rel:(Nat->Um)->U->Vr->α->β->Prop) (X:Nat->Um) (H:U) (s:Tz) (m:Sem β) (o:aA St α):Prop:=dH (model c.T.prog c.T.w) A m (Res c P cv rel X H s o) (IS c P cv X H s o) s
theorem aC {rel:(Nat->Um)->U->Vr->α->β->Prop} {rel':(Nat->Um)->U->Vr->γ->δ->Prop} (nb:o.bind g≠.bad) (h:o≠.bad->fH c P cv A rel X H s m o) (k: ∀a σ' ι' b s',g a σ'≠.bad->Step P c.F X H s.heap ι' σ'.hs s'.heap->rel ι' σ'.hs s'.heap a b->Inv c cv ι' σ' s'->fH c P cv A rel' ι' σ'.hs s' (f b) (g a σ')):fH c P cv A rel' X H s (m>>=f) (o.bind g):=by
 refine aj (aK (h (λe=>nb (by refine (e).symm▸ ?_;rfl))) (λb s' r=> ?_) λe s' x=> ?_);·refine gH r λa σ' ι' h1 h2 h3 h4 h5=> ?_;clear h r;subst h1;exact aK (k a σ' ι' b s' nb h4 h2 h3) (λz z r=>r.older h4 h5) λz z x=>x.older h4 h5 λz e=>e
 ·exact qF x λσ' ι' h1 h2 h3 h6 h4 h5=>rJ σ' ι' (by refine (h1).symm▸ ?_;rfl) h2 h3 h6 h4 h5
theorem cE (h:fH c P cv A rel X H s m o):fH c P cv A rel X H s (Xb vs m) o:=aD h
theorem az (h:fH c P cv A rel X H s (f ()) o):fH c P cv A rel X H s (XY pos>>=f) o:=gg h
theorem bE (I:Inv c cv X Y s) (r:rel X Y.hs s.heap a b) (e:Y.hs=H):fH c P cv A rel X H s (pure b) (.ok a Y):=by subst e;exact ao (d7 a Y X rfl r I (Step.refl' I.rh) Rest.refl)
theorem Ah (ok:c.Ok n) (I:Inv c cv X Y s) (hP: ∀a∈P,a∈c.F):Cont c.T c.B c.F X Y.hs s r (Res c P cv (aE c.T c.F) X Y.hs s (.ok r Y)):=λv s' V R S Re=>(d7 r Y X rfl V (I.step ok R S) (S.sub hP) Re)
end
theorem iZ (env:Env): ∀(l:List UI),l.all aN=true->starEach l env=l.map λe=>(false,eval e env):=by
 intro l_;induction l_ with
 |nil=>exact @λz=>rfl
 |cons e l aG=>
  exact @λh=>by
   obtain ⟨h1,h2⟩:=Su.mp (show (aN e&&l.all aN)=true from h);have:starEach (e::l) env=(false,eval e env)::starEach l env:=by clear h;cases e<;>first|rfl|exact gV h1
   rw [this,aG h2];rfl
theorem jV (env:Env) (pos:Pos): ∀(l:List UI),backTo pos (l.map λe=>(false,eval e env))=l.map λe=>(false,eval e env):=by
 intro l_;induction l_ with
 |nil=>exact rfl
 |cons e l aG=>exact congrArg (_::·) aG
theorem Gq (env:Env): ∀(l:List UI),((l.map λe=>((false,eval e env):Bool×Sem Te)).any (·.1))=false:=by
 intro l_;induction l_ with
 |nil=>exact rfl
 |cons e l aG=>exact by refine (aG).symm▸ ?_;rfl
section
theorem CL (l:List UI) (h:dH M A (spliced (l.map λe=>(false,eval e env))) (λvs s'=>Q ⟨vs,[]⟩ s') E s):dH M A (evalArgs f true (l.map λe=>(false,eval e env)) []) Q E s:=by
 have fin: ∀{t:Sem (List Te)},dH M A t (λvs s'=>Q ⟨vs,[]⟩ s') E s->dH M A (t>>=λvs=>pure (vs,(none:Option Te))>>=λ(pos,late)=>Xb (pos++late.toList) ((if ([]:List (Option Str×Sem Te)).all (·.1.isSome) then do
  let kw:=(([]:List (Option Str×Sem Te)).filterMap (·.1)).zip (<-evalAll (([]:List (Option Str×Sem Te)).map (·.2)))
  return ⟨<-(pure pos:Sem (List Te)),kw⟩ else (pure ⟨pos,[]⟩:Sem Args)))) Q E s:=λh=>by refine aj (cJ h λvs s' h'=> ?_);refine aj (ao ?_);refine aD ?_;exact aj (ao (aj (ao (ao h'))))
 cases l with
 |nil=>exact fin h
 |cons e l=>exact fin h
theorem nV (hp:args.all aN=true) (h:dH M A (spliced (args.map λe=>(false,eval e env))) (λvs s₁=>(∃k,(k=YY∨k=Yx)/\Xf M s₁.heap (keeperOf f) k)/\dH M A (call f (first++vs)) Q E s₁) E s):dH M A (callWith pos f first (backTo pos (starEach args env)) []) Q E s:=by
 rw [iZ env args hp,jV];refine aj (aD (cJ (CL (Q:=λ(a:Args) s₁=>(∃k,(k=YY∨k=Yx)/\Xf M s₁.heap (keeperOf f) k)/\dH M A (call f (first++a.pos) a.kw) Q E s₁) args h) λa s₁ h₁=>gg ?_));refine aQ λcT k_1=> ?_;obtain ⟨⟨k,hk',L⟩,h₁⟩:=h₁;refine k_1 ?_;simp only [Gq,List.any_nil,Bool.or_false];refine aj (av (L.here ?_));have tail: ∀{t:Sem Te},dH M A t Q E s₁->dH M A (t>>=λr=>Xb [r] point>>=λz=>pure r) Q E s₁:=λht=>aj (cJ ht λr s₂ hr=>aj (aD (wO (ao hr))));have marked (mk:Te):dH M A (callMarked mk f (first++a.pos) a.kw) Q E s₁:=by unfold callMarked;exact λΓ p hΓ hO=>by rw [Sem.wp_keep];exact h₁ Γ p hΓ hO
 clear L;rcases hk' with rfl|rfl<;>dsimp only<;>first|exact tail h₁|(split<;>first|exact tail h₁|exact tail (marked _))
theorem m9 (h:Q [] s):dH M A (spliced []) Q E s:=ao h
theorem spliced_cons (x:Sem Te) (rest:List (Bool×Sem Te)):spliced ((false,x)::rest)=(x>>=λv=>(pure [v]:Sem (List Te))>>=λhere=>Xb here (spliced rest)>>=λr=>pure (here++r)):=rfl
end
section
variable {T:eS} {B:Vr} {F:List Um} {X:Nat->Um} {H:U} {A:Wc} {E:Te->Tz->Prop} {s:Tz} {Q:Te->Tz->Prop}
theorem Q4 (R:RH T B F X H s.heap) (ha:aE T F X H s.heap (.int a) va) (k:Cont T B F X H s (.int (-a)) Q):wpAny (model T.prog T.w) A (unaryOp .USub va) Q E s:=by obtain ⟨t,rfl⟩:=ha;exact neg_int (k.tok R ⟨_,rfl⟩)
theorem Qm (R:RH T B F X H s.heap) (ha:aE T F X H s.heap (.bool b) va) (k:Cont T B F X H s (.bool (!b)) Q):wpAny (model T.prog T.w) A (unaryOp .Not va) Q E s:=by subst ha;exact not_of (WR (k.same R rfl))
theorem yd {b:List UInt8} (hh:A.handled=none) (R:RH T B F X H s.heap) (k:Cont T B F X H s (.int ((b.map λu=>(u.toNat:Int)).sum)) Q):wpAny (model T.prog T.w) A (call (.builtin "sum") [.bytes b.toArray t]) Q E s:=by
 refine call_sum_walkG (KBw.pyIter_bytes ?_);refine aa4 s.heap.objs.size _ _ _ _ _ (λi=>(b.map λu=>(u.toNat:Int)).getD i 0) rfl (KBw.walks (A:=A.in1) hh s.heap.objs.size b.toArray t) (iw _ (TN _ rfl) rfl rfl) ?_ ?_ ?_;·intro c hc;rw [VT];simp only [Tn,U1,or_false] at hc;subst hc;exact SQ _
 ·rintro i v ⟨c,u,h1,rfl⟩;refine ⟨u,?_⟩;simp only [List.getElem?_toArray] at h1;refine (?_:_=ZY ((List.map (λu:UInt8=>(u.toNat:Int)) b).getD i 0) u);rw [SR,SA,h1];rfl
 ·intro h' tk t' kk;have len:b.toArray.size=(b.map λu=>(u.toNat:Int)).length:=by simp
  rw [len,ri];exact k.grow R (λb o e=>kk b o (by simp only [Sy];exact SY (Ur e)) (SK _ e)) ⟨_,rfl⟩
theorem Ri {a:J} {n:Int} (hh:A.handled=none) (R:RH T B F X H s.heap) (e:FP H a=some n) (ha:aE T F X H s.heap a va) (k:Cont T B F X H s (.int n) Q):wpAny (model T.prog T.w) A (call (.builtin "sum") [va]) Q E s:=by
 refine aQ λcT k_1=> ?_;have ls: ∀(a:J) {va:Te},aE T F X H s.heap a va->(((items H a).bind fV).map λns=>ns.sum)=some n->wpAny (model T.prog T.w) A (call (.builtin "sum") [va]) Q E s:=λa va ha e=>by refine ay (Sz.mp e) λns e1 qV=> ?_;clear e;subst qV;exact ay (SV.mp e1) λl e1 e2=>AQ hh R e1 e2 ha k
 cases a<;>first|exact k_1 (ls .none ha e)|exact k_1 (ls (.bool _) ha e)|exact k_1 (ls (.int _) ha e)|exact k_1 (ls (.bW _) ha e)|exact k_1 (ls (.O _) ha e)|exact k_1 (ls (.obj _ _) ha e)|exact k_1 (ls (.gU _) ha e)|exact k_1 (ls (.ref _) ha e)|exact k_1 (ls (.aI _ _) ha e)|exact k_1 (ls .ah ha e)|skip
 clear ls;obtain rfl:=Sm e;refine ay ha λt Lg z=> ?_;clear ha;subst Lg;exact k_1 (yd hh R k)
theorem CA: ∀{l:List J} {bs:List Bool} {vs:List Te},iD l=some bs->aB T F X H s.heap l vs->vs=bs.map .bool:=by
 intro l_;induction l_ with
 |nil=>
  intro _ m_;cases m_ with
  |nil=>exact @λe z=>Sm e▸rfl
  |cons _ _=>exact @λz r=>r.elim
 |cons a l aG=>
  intro bs m_;cases m_ with
  |nil=>exact @λz r=>r.elim
  |cons v vs=>
   exact @λe r=>by
    refine aQ λcT k_1=> ?_;cases a<;>first|exact ns e|skip
    ·refine ay (Sz.mp e) λcs e1 d9=> ?_;clear e;subst d9;refine dD r λr1 r2=> ?_;refine k_1 ((aG e1 r2).symm▸ ?_);refine (r1).symm▸ ?_;rfl
theorem all_range: ∀(bs:List Bool),(TR bs.length).all (λi=>bs.getD i false)=bs.all id:=by
 intro bs;rw [W5,Tc,Tc];constructor;·intro h b hb;obtain ⟨i,hi,rfl⟩:=List.getElem_of_mem hb;have:=h i (Wr.mpr hi);simpa [SR,hi] using this
 ·intro h i hi;have hi:=Wr.mp hi;have:=h bs[i] (Yi hi);simpa [SR,hi] using this
theorem QO (hh:A.handled=none) (R:RH T B F X H s.heap) (e:items H a=some l) (e2:iD l=some bs) (ha:aE T F X H s.heap a va) (k:Cont T B F X H s (.bool (bs.all id)) Q):wpAny (model T.prog T.w) A (call (.builtin "all") [va]) Q E s:=by
 refine aQ λcT k_1=> ?_;obtain ⟨c,x,o,vs,ep,rfl,h2,h3,h4,h6⟩:=fS R e ha;have hb:=CA e2 h6;have hL:s.heap.IsList x vs:=⟨o,h2,h3,ep,h4⟩;refine k_1 (call_all_walk (WT hL ?_));have hx:x<s.heap.objs.size:=Ur h2;have hne:x≠s.heap.objs.size:=SY hx;refine acB s.heap.objs.size _ _ _ _ _ (λi=>bs.getD i false) rfl (YG (A:=A.in1) hh s.heap.objs.size x hne vs) ⟨fJ,hL.push _⟩ ?_ ?_;·intro i v s' Q' E' hv hq;replace hv:=(UE).symm▸hv;replace hv:=(hb)▸hv;replace hv:=(SA)▸hv;refine ay (Sz.mp hv) λb h5 qV=> ?_;clear hv;subst qV;refine WR ?_;have hq:Q' (bs.getD i false) s':=hq;rw [SR,h5] at hq;exact hq
 ·intro h' tk kk;have len:vs.size=bs.length:=by refine (Tv)▸((hb).symm▸ ?_);rw [Sp]
  rw [len,all_range];exact k.grow R (λb o e=>kk b o (by simp only [Sy];exact SY (Ur e)) (SK _ e)) rfl
theorem GL:typeOf (.type "bool")=pure (.type "type"):=by kernel_rfl
theorem JQ:isSubtype (.type "bool") (.type "bool")=pure true:=by rw [isSubtype_type];kernel_rfl
theorem E7 (R:RH T B F X H s.heap) (k:Cont T B F X H s (.bool true) Q):wpAny (model T.prog T.w) A (call (.builtin "isinstance") [.bool b,.type "bool"]) Q E s:=call_isinstance (isinstance_true (Tx:="bool") GL JQ) ⟨rfl,k.same R rfl⟩
theorem iE.dict (sm:(B.get? sysModules).isSome=true) (k:iE T B F X H s (.gU []) Q) (R:RH T B F X H s.heap):Q (.ref s.heap.objs.size) {s with heap:=s.heap.push {cls:=.type "dict",data:=.dict #[]},toks:=t}:=by refine fY (R.new (h':=s.heap.push {cls:=.type "dict",data:=.dict #[]}) (o:=.gU []) (λb o' e=>SK _ e) eU λι' H' S=>by refine iw ([]) (Heap.DictOf.new _) ?_ trivial;rw [beq_eq_false_iff_ne];intro z;obtain ⟨o,ho⟩:=SM.mp sm;have:=R.base _ _ ho;replace this:=(z).symm▸this;replace this:=(eU)▸this;cases this) λι' e R' S=> ?_;exact k _ _ ι' e R' S ⟨rfl,rfl⟩
theorem Jt (sm:(B.get? sysModules).isSome=true) (R:RH T B F X H s.heap) (k:iE T B F X H s (.gU []) Q):wpAny M A (eval (.Dict [] [] pos) env) Q E s:=by rw [eval_Dict_empty];refine Sw (wpAny_standAt ?_);first|exact UX (k.dict (t:=s.toks) sm R)|(refine Sw (wpAny_alloc ?_);exact SN (k.dict (t:=s.toks) sm R))
theorem uf (R:RH T B F X H s.heap) (hx:H.h x=some (.O l)) (hl:l.length<4096) (hv:aE T F X H s.heap v vv) (k:pC T B F X H s x (.O (l++[v])) λz=>Q .none):wpAny (model T.prog T.w) A (call (.builtin "list.append") [.ref (X x),vv]) Q E s:=by
 have hcap:cap=65536:=rfl;have:=R.obj x _ hx;refine aQ λcT k_1=> ?_;obtain ⟨c,o,vs,ep,h2,h3,h4,h6,h7⟩:=this;have hlen:l.length=vs.size:=by have:=h6.length;rwa [Tv] at this
 refine k_1 (list_append_plainL (its:=vs) (nN o ep h2 h3 h7 h4) (λh' hl' hs=> ?_) (by rw [sizeLine_eq];exact (Ln.n2 0x618508820820820841581012220820840) hl hlen));refine xx hl' λo' n' g1 g2 g4 g3=> ?_;obtain ⟨R',S⟩:=R.set (x:=x) (o:=.O (l++[v])) (h':=h') ((Uc (congrArg _ (hx)) rfl)) (λb o q e=>(hs.2 b q).trans e) (by refine (g1).symm▸ ?_;rfl) λS=>by refine ⟨by rw [Sq];simp;exact (Ln.n2 0x1861404a221016220820821052220820840) hl hcap,o',_,_,g1,g2,g3,?_,g4⟩;rw [ZN];exact (h6.step S).append ⟨hv.step S,trivial⟩
 exact k _ R' S ⟨rfl,rfl⟩
theorem eO.stored (V:aE T F X H h v vv): ∀{l:List (Int×J)} {kvs:List (Int×Te)},eO T F X H h l kvs->(kvs.map (·.1)).Nodup->eO T F X H h (gJ k v l) (PySem.stored kvs k vv):=by
 intro l_;induction l_ with
 |nil=>
  intro m_;cases m_ with
  |nil=>exact @λy y=>⟨rfl,V,trivial⟩
  |cons _ _=>exact @λr y=>r.elim
 |cons p_ l aG=>
  obtain ⟨j,a⟩:=p_;intro m_;cases m_ with
  |nil=>exact @λr y=>r.elim
  |cons q_ kvs=>
   obtain ⟨j',w⟩:=q_;exact @λr nd=>by
    obtain ⟨r1,r2,r3⟩:=r;simp only at r1;subst r1;rw [UT,Uj] at nd;have ih:=aG r3 nd.2;unfold PySem.stored at ih⊢;by_cases q:k=j';·
     clear r2;subst q;refine (show gJ k v ((k,a)::l)=(k,v)::l from if_pos rfl).symm▸ ?_;have hno:(kvs.map λkv=>if kv.1=k then (kv.1,vv) else kv)=kvs:=by
      conv=>rhs;rw [<-List.map_id kvs]
      refine Zt λkv hkv=> ?_;rw [if_neg (λz=>nd.1 (by show k∈_;exact (z)▸(TZ hkv)))];rfl
     simp only [YW,decide_true,acg,if_true,UT,hno];exact ⟨rfl,V,r3⟩
    ·have q': ¬j'=k:=λz=>q z.symm;refine (show gJ k v ((j',a)::l)=(j',a)::gJ k v l from if_neg q).symm▸ ?_;simp only [YW,decide_eq_false q',Bool.false_or,UT,if_neg q',List.cons_append];split at ih;·rename_i hh;rw [if_pos hh];exact ⟨rfl,r2,ih⟩
     ·rename_i hh;rw [if_neg hh];exact ⟨rfl,r2,ih⟩
theorem eO.length: ∀{l:List (Int×J)} {kvs:List (Int×Te)},eO T F X H h l kvs->l.length=kvs.length:=by
 intro l_;induction l_ with
 |nil=>
  intro m_;cases m_ with
  |nil=>exact @λz=>rfl
  |cons _ _=>exact @λr=>r.elim
 |cons _ LB aG=>
  intro m_;cases m_ with
  |nil=>exact @λr=>r.elim
  |cons _ _=>exact @λr=>congrArg (· +1) (aG r.2.2)
theorem pG {l:Um} {items:Array Te} {k:Int} {Q:Unit->Tz->Prop} (ho:s.heap.get? l=some o) (hc:o.cls=.type "list") (hd:o.data=.seq items ep) (h0:0<=k) (hfit:k<2^63) (hn:k<items.size) (hQ: ∀h' o' n',h'.get? l=some o'->o'.cls=.type "list"->o'.data=.seq (items.setIfInBounds k.toNat v) n'->o'.dict=o.dict->Zh l s.heap h'->Q () {s with heap:=h'}):wpAny (model T.prog T.w) A (setItem (.ref l) (.int k t) v) Q E s:=by
 have hl:s.heap.IsList l items:=⟨o,ho,hc,ep,hd⟩;unfold setItem;try with_reducible refine W6 ?_
 first|refine Sw (SN ?_)|skip
 refine Sw (ab1 hl.typeIs (by decide) ?_);refine Sw (wpAny_callSpecial?_slot (name:=Xc "__setitem__") hl.typeIs slot_list_setitem (VE slot_list_setitem hl.typeIs entry_list_setitem ?_ (args_list_setitem _ _ _)));refine (?_:wpAny _ _ (Builtin.List.listSubscript? (.int k t)>>=_) _ _ s);refine Sw (wpAny_listSubscript_int (fitsIndex_of h0 hfit) ?_);clear hfit;obtain ⟨j,rfl⟩:=Int.eq_ofNat_of_zero_le h0;have hj:j<items.size:=by exact (Ln.n2 0x184810133c13c0) hn
 refine Sw (Sw (wpAny_seqItemAt ho hd (SN ?_)));refine ((YF hj)).symm▸ ?_;obtain ⟨n',hd'⟩:=Obj.data_mapSeq hd (·.setIfInBounds j v);have hdd:(Va (·.setIfInBounds j v) o).dict=o.dict:=by clear ho hc hQ hd';obtain ⟨c,d,dt,sl⟩:=o;subst hd;rfl
 refine Sw (wpAny_setSeqItemAt ho hd ?_);have fin:=hQ _ _ n' (Vq _ ho (Obj.isFreed_of_seq hd')) ((Obj.cls_mapSeq ..).trans hc) hd' hdd (acR ..);first|exact Sw (SN (SN (BX .none rfl (SN fin))))|exact SN (aH .none rfl (SN fin))
theorem rT {j:Int} {Q:Unit->Tz->Prop} (R:RH T B F X H s.heap) (hx:H.h x=some (.O l)) (hj:0<=j/\j<l.length) (hv:aE T F X H s.heap v vv) (k:pC T B F X H s x (.O (l.set j.toNat v)) Q):wpAny (model T.prog T.w) A (setItem (.ref (X x)) (.int j t) vv) Q E s:=by
 have hcap:cap=65536:=rfl;have:=R.obj x _ hx;refine aQ λcT k_1=> ?_;obtain ⟨c,o,vs,ep,h2,h3,h4,h6,h7⟩:=this;have hlen:l.length=vs.size:=by have:=h6.length;rwa [Tv] at this
 refine k_1 (pG h2 h3 h4 hj.1 (by lia) (by exact (Ln.z [_,_] [_] 0x186133c10160406533c0015008) hj hlen) λh' o' n' g1 g2 g3 g4 hs=> ?_);obtain ⟨R',S⟩:=R.set (x:=x) (o:=.O (l.set j.toNat v)) (h':=h') ((Uc (congrArg _ (hx)) rfl)) (λb o q e=>(hs.2 b q).trans e) (by refine (g1).symm▸ ?_;rfl) λS=>by refine ⟨by rw [U6];exact c,o',_,_,g1,g2,g3,?_,g4.trans h7⟩;rw [Array.toList_setIfInBounds];exact (h6.step S).set _ (hv.step S)
 exact k _ R' S ⟨rfl,rfl⟩
theorem se {Q:Unit->Tz->Prop} (R:RH T B F X H s.heap) (hx:H.h x=some (.gU l)) (hl:l.length<4096) (hv:aE T F X H s.heap v vv) (k:pC T B F X H s x (.gU (gJ j v l)) Q):wpAny (model T.prog T.w) A (setItem (.ref (X x)) (.int j t) vv) Q E s:=by
 have:=R.obj x _ hx;refine fY this λkvs h1 h2 h3=> ?_;have hlen:=h3.length;refine QF (id h1) λz z z z z z z z nd=>wpAny_setItem_pairs (knd:=intKind T.prog T.w) (k:=j) (show VM j (.int j t)=true by simp [VM]) h1 (λh' hd hs=> ?_) (by exact (sizeLine_eq).symm▸((Ln.n2 0x618508820820820841581012220820840) hl hlen));have al:(h'.get? (X x)).isSome=true:=by refine sZ hd λz z z e z=>(e).symm▸ ?_;rfl
 obtain ⟨R',S⟩:=R.set (x:=x) (o:=.gU (gJ j v l)) (h':=h') (by refine (hx).symm▸ ?_;rfl) (λb o q e=>(hs.2 b q).trans e) al λS=>by exact iw _ hd h2 ((h3.step S).stored (hv.step S) nd)
 exact k {s with heap:=h',toks:=s.toks+1} R' S ⟨rfl,rfl⟩
end
theorem aA.eT {τ α β:Type} {a:α} {s:τ} {f:α->τ->aA τ β}:(aA.ok a s).bind f=f a s:=rfl
section
theorem Br (hk:env.scope.kind=.function) (h1:(x==("__debug__":Str))=false) (h2:(x==("__classdict__":Str))=false) (h:Pw env s.heap x v) (q:Q v s):wpAny M A (eval (.Name x pos) env) Q E s:=by
 refine wpAny_Name ?_ h1;refine aQ λcT k_1=> ?_;rcases h with ⟨e,m,hm,hv⟩|⟨e|e,c,hc,hi⟩;·exact k_1 (Z7 hk e hm hv q)
 ·exact k_1 (aal hk e hc hi q)
 ·exact k_1 (aai hk e hc hi q h2)
end
section
theorem Inv.wJ (ok:c.Ok n) (I:Inv c cv X Y s):c.T.K.In s.heap:=ok.wf.wJ.keeps I.rh.base
theorem lJ (ok:c.Ok n) (I:Inv c cv X Y s) (e:c.cc.top x=some v) (q:Q v s):wpAny M A (eval (.Name x pos) c.env) Q E s:=by
 refine aQ λcT k_1=>dD (Ip e) λhg e=> ?_;·
  refine dD (Su.mp hg) λg1 g2=> ?_;have g: ∀o,nsIn c.cc.T.K UC x=o->(match o with
   |some (some v)=>some v
   |_=>none)=some v->cT:=λo hn e=>by
   cases o with
   |none=>exact ns e
   |some o=>
    cases o with
    |none=>exact ns e
    |some v'=>obtain rfl:=Sm e;obtain ⟨mg,hm⟩:=ok.wf.ns;have hm':=hm.keeps I.rh.base;exact k_1 (PySem.Calls.Name_function_global ok.kind (beq_iff_eq.mp g1) (PySem.Calls.loadGlobal_global (by exact (ok.glob).symm▸(hm')) (mg_of (I.wJ ok) hm' hn) q) (by simpa using g2))
  exact g _ rfl e
theorem l7 (ok:c.Ok n) (I:Inv c cv X Y s) (e:c.cc.bi x=some v) (q:Q v s):wpAny M A (eval (.Name x pos) c.env) Q E s:=by
 refine aQ λcT k_1=>dD (Ip e) λhg e=> ?_;·
  refine dD (Su.mp hg) λhg g3=>dD (Su.mp hg) λg1 g2=> ?_;clear hg;have g: ∀o,nsIn c.cc.T.K UC x=o->(match o with
   |some none=>Xx x
   |_=>none)=some v->cT:=λo hn e=>by
   cases o with
   |none=>exact ns e
   |some o=>
    cases o with
    |some _=>exact ns e
    |none=>obtain ⟨mg,hm⟩:=ok.wf.ns;have hm':=hm.keeps I.rh.base;refine ay ok.wf.bi λmb hb hb2=> ?_;refine k_1 ?_;exact PySem.Calls.Name_function_global ok.kind (beq_iff_eq.mp g1) (PySem.Calls.loadGlobal_builtin (by rw [ok.glob];exact hm') (mg_none_of (I.wJ ok) hm' hn) (by rw [ok.bi];exact hb.keeps I.rh.base) ((hb2 x (λz=>by clear k_1 g1 g2 hn e;subst z;simp at g3)).trans e) q) (by simpa using g2)
  exact g _ rfl e
end
def gw (T:eS) (B:Vr) (K:Fn->List J->U->aA U J) (n:Nat):Prop:= ∀(F:List Um) (fr:List Env) (A:Wc) (X:Nat->Um) (H:U) (s:Tz) (f:Fn) (args:List J) (vs:List Te),A.handled=none->A.frames=some fr->(∀e∈fr,∀L,e.frame=some L->L∈F)->A.depth+8*n+12<=Zj->A.units+40*n+60<=cLine->Wf T B->RH T B F X H s.heap->s.heap.FunFrames B fr->aB T F X H s.heap args vs->K f args H≠.bad->cW (model T.prog T.w) A (.call (.ref (T.fn f)) ⟨vs,[]⟩) (λr s'=>match r with
 | .ok (.ret v)=> ∃a H' ι',K f args H=.ok a H'/\aE T F ι' H' s'.heap a v/\RH T B F ι' H' s'.heap/\Step F F X H s.heap ι' H' s'.heap/\Rest s s'
 | .ok _=>False
 | .error e=> ∃H' ι',K f args H=.exc H'/\Ly T s.heap e s'.heap/\RH T B F ι' H' s'.heap/\Step F F X H s.heap ι' H' s'.heap/\Rest s s') s
section
variable {K:Fn->List J->U->aA U J} {c:Cx} {n:Nat} {cv:J}
structure SE (K:Fn->List J->U->aA U J) (c:Cx) (cv:J) (e:Ex) (x:UI):Prop where
 run: ∀{Y X s},Inv c cv X Y s->bk K cv e Y≠.bad->fH c c.F cv c.A (aE c.T c.F) X Y.hs s (eval x c.env) (bk K cv e Y)
structure SL (K:Fn->List J->U->aA U J) (c:Cx) (cv:J) (l:ir) (x:List UI):Prop where
 run: ∀{Y X s},Inv c cv X Y s->m5 K cv l Y≠.bad->fH c c.F cv c.A (aB c.T c.F) X Y.hs s (spliced (x.map λe=>(false,eval e c.env))) (m5 K cv l Y)
theorem bX (ok:c.Ok n) (I:Inv c cv X Y s) (h: ∀Q,Cont c.T c.B c.F X Y.hs s r Q->wpAny (model c.T.prog c.T.w) c.A m Q (IS c c.F cv X Y.hs s (.ok r Y:aA St J)) s):fH c c.F cv c.A (aE c.T c.F) X Y.hs s m (.ok r Y):=av (h _ (Ah ok I λz h=>h))
theorem PE (h:tw v k=true) (ok:c.Ok n) (I:Inv c cv X Y s):fH c c.F cv c.A (aE c.T c.F) X Y.hs s (eval (.Constant k kk pos) c.env) (.ok v Y):=by exact bX ok I λQ kk=>Ef (M:=λv k=>Cont c.T c.B c.F X Y.hs s v Q->wpAny _ _ (eval (.Constant k _ _) c.env) Q _ s) h (λkk=>Constant_none (kk.same I.rh rfl)) (λz kk=>Constant_bool (kk.same I.rh rfl)) (λz kk=>abt (kk.tok I.rh ⟨_,rfl⟩)) (λz h2 kk=>Constant_bytes (kk.tok I.rh ⟨_,rfl,Sl h2 (by decide)⟩)) kk
theorem Cm (h:litVal v u=true):aE T F X H hp v u:=by
 cases v<;>first|exact gV h|skip
 ·cases u<;>first|rfl|exact gV h
 ·cases u<;>first|exact (beq_iff_eq.mp h)▸rfl|exact gV h
 ·cases u<;>first|exact ⟨_,by rw [beq_iff_eq.mp h]⟩|exact gV h
 ·cases u<;>first|exact gV h|skip
  have h:=Su.mp h;exact ⟨_,by rw [beq_iff_eq.mp h.1],Sl (of_decide_eq_true h.2) (by decide)⟩
theorem Qv (ok:c.Ok n) (h:tw v k=true):SE K c cv (.lit v) (.Constant k kk p):=by refine ⟨@λY X s I nb=> ?_⟩;exact PE h ok I
theorem yG (nb:cg Y i≠.bad): ∃v,Y.ls[i]? =some v/\v≠.ah/\cg Y i=.ok v Y:=by
 unfold cg at nb⊢;cases h:Y.ls[i]? with
 |none=>rw [h] at nb;exact absurd rfl nb
 |some v=>
  replace nb:=(h)▸nb;refine iw v rfl (λe=> ?_) ?_;·subst e;exact absurd rfl nb
  ·clear h;cases v<;>first|rfl|exact absurd rfl nb
theorem RB (ok:c.Ok n) (h:(c.cc.nm[i]? ==some nm&&c.cc.zo nm&& !(nm==("__debug__":Str))&& !(nm==("__classdict__":Str)))=true):SE K c cv (.var i) (.Name nm p):=by refine ⟨@λY X s I nb=> ?_⟩;refine aQ λcT k_1=> ?_;obtain ⟨h,h4⟩:=Su.mp h;obtain ⟨h,h3⟩:=Su.mp h;obtain ⟨h1,h2⟩:=Su.mp h;refine fY (yG (Y:=Y) (i:=i) nb) λv hi hv e=>ay (I.loc.has i v nm hi hv (beq_iff_eq.mp h1) h2) λu g1 g2=>k_1 ((?_:fH c c.F cv c.A _ X Y.hs s _ (cg Y i)));rw [e];exact bX ok I λQ k=>Br ok.kind (by simpa using h3) (by simpa using h4) g1 (k.same I.rh g2)
theorem NW (ok:c.Ok n) (h:(c.cc.cv==some nm&& !(nm==("__debug__":Str))&& !(nm==("__classdict__":Str)))=true):SE K c cv .cvar (.Name nm p):=by refine ⟨@λY X s I nb=> ?_⟩;obtain ⟨h,h4⟩:=Su.mp h;obtain ⟨h1,h3⟩:=Su.mp h;exact ay (I.loc.comp nm (beq_iff_eq.mp h1)) λu g1 g2=>bX ok I λQ k=>Br ok.kind (by simpa using h3) (by simpa using h4) g1 (k.same I.rh g2)
theorem Oo (ok:c.Ok n) (h:((c.cc.top nm).any λv=>litVal (zx g) v)=true):SE K c cv (.glob g) (.Name nm p):=by refine ⟨@λY X s I nb=> ?_⟩;exact ay (xU h) λv hv h=>bX ok I λQ k=>lJ ok I hv (k.same I.rh (Cm h))
theorem oH (h:(a&&b)=true):a=true/\b=true:=Su.mp h
theorem cL {τ α:Type} {s:τ} {o:Option α} (nb:aA.cC s o≠.bad): ∃a,o=some a:=by
 cases o with
 |none=>exact absurd rfl nb
 |some a=>exact ⟨a,rfl⟩
theorem pB (ok:c.Ok n) (I:Inv c cv X Y s) (h: ∀Q,iE c.T c.B c.F X Y.hs s o Q->wpAny (model c.T.prog c.T.w) c.A m Q (IS c c.F cv X Y.hs s (.ok (.ref Y.hs.n) ⟨Y.ls,Y.hs.new o⟩:aA St J)) s):fH c c.F cv c.A (aE c.T c.F) X Y.hs s m (.ok (.ref Y.hs.n) ⟨Y.ls,Y.hs.new o⟩):=by refine av (h _ λa s' ι' e R S Re=>(d7 _ _ ι' rfl ?_ (I.step ok R S) S Re));exact ⟨((e).symm▸rfl),SQ _⟩
theorem Pu (ok:c.Ok n) (ha:SE K c cv a l) (hb:SE K c cv b r):SE K c cv (.bin op a b) (.BinOp l op.py r pos):=by
 refine ⟨@λY X s I nb=> ?_⟩;rw [arm_eval_BinOp];refine aC nb (ha.run I) λx σ1 dY v s1 ck S1 V1 I1=>aC ck (λh=>cE (hb.run I1 h)) λy σ2 sJ u s2 kK S2 V2 I2=>az (f7 ?_);have V1:=V1.step S2;split at kK;·
  rename_i l hl;split at kK;·rename_i hc;simp only [if_pos hc];exact pB ok I2 λQ k=>EX I2.rh hl V1 V2 hc k
  ·exact absurd rfl kK
 ·exact fU (cL kK) λr hr=>(hr).symm▸(bX ok I2 λQ k=>RE hr I2.rh V1 V2 k)
theorem Ru (ok:c.Ok n) (ha:SE K c cv a x):SE K c cv (.neg a) (.UnaryOp .USub x pos):=by
 refine ⟨@λY X s I nb=> ?_⟩;rw [arm_eval_UnaryOp];refine aC nb (ha.run I) λx σ1 dY v s1 ck S1 V1 I1=>az (cE ?_);cases x<;>first|exact absurd rfl ck|skip
 exact bX ok I1 λQ k=>Q4 I1.rh V1 k
theorem RC (ok:c.Ok n) (ha:SE K c cv a x):SE K c cv (.not a) (.UnaryOp .Not x pos):=by
 refine ⟨@λY X s I nb=> ?_⟩;rw [arm_eval_UnaryOp];refine aC nb (ha.run I) λx σ1 dY v s1 ck S1 V1 I1=>az (cE ?_);cases x<;>first|exact absurd rfl ck|skip
 exact bX ok I1 λQ k=>Qm I1.rh V1 k
theorem Cx.Ok.Bf (ok:c.Ok n):c.A.units<cLine:=by have:=ok.units;exact (Ln.n3 0x1848201408a22094a301228880) this
theorem QG (ok:c.Ok n) (hm:behindInMarks op.py r=false) (ha:SE K c cv a l) (hb:SE K c cv b r):SE K c cv (.cmp op a b) (.Compare l [op.py] [r] pos):=by refine ⟨@λY X s I nb=> ?_⟩;rw [eval_Compare1,markedBehindIn_of_false hm];refine aC nb (ha.run I) λx σ1 dY v s1 ck S1 V1 I1=>aC ck (λh=>cE (hb.run I1 h)) λy σ2 sJ u s2 kK S2 V2 I2=>az (f7 ?_);refine fU (cL kK) λr hr=>(hr).symm▸(ay (Sz.mp hr) λb hb uW=> ?_);clear hr;subst uW;exact bX ok I2 λQ k=>EJ ok.Bf I2.rh hb (V1.step S2) V2 k
theorem fk (h:jO y=true):attributeBase y a env whole=whole:=by
 cases y<;>first|rfl|skip
 rename_i f l k p;cases f<;>first|rfl|skip
 rename_i id q;cases l<;>first|rfl|skip
 cases k<;>first|rfl|skip
 have h:(id==("super":Str))=false:=Vv .. ▸h;have:(id != ("super":Str))=true:=by simp only [bne,h];rfl
 exact if_pos (congrArg (λb:Bool=>b||_||_||_) this)
theorem AD {α:Type} {rel:(Nat->Um)->U->Vr->α->Te->Prop} {o:aA St α} (h:fH c P cv c.A rel X H s m o):fH c P cv c.A rel X H s (m>>=λr=>letTemporaryGo base v r>>=λz=>pure r) o:=aj (aK h (λz z q=>aj (av (wpAny_letTemporaryGo (ao q)))) λz z x=>x)
theorem NR (ok:c.Ok n) (hs:jO x=true) (ha:SE K c cv a x):SE K c cv (.attr a f) (.Attribute x (c.T.aY f) pos):=by refine ⟨@λY X s I nb=> ?_⟩;rw [arm_eval_Attribute,fk hs];refine aC nb (ha.run I) λx σ1 dY v s1 ck S1 V1 I1=>az ?_;obtain ⟨r,hr⟩:=cL ck;exact (hr).symm▸(AD (cE (bX ok I1 λQ k=>DZ ok.wf.aY ok.wf.attr (I1.wJ ok) I1.rh hr V1 k)))
end
section
variable {K:Fn->List J->U->aA U J} {c:Cx} {n:Nat} {cv:J}
theorem AV (ok:c.Ok n) (hs:subscripted slice false va vi=operate ops (Xw va vi)) (t:w9 s va) (h:fH c c.F cv c.A (aE c.T c.F) X Y s (Xw va vi) o):fH c c.F cv c.A (aE c.T c.F) X Y s (getitemInPython va>>=λb=>subscripted slice b va vi>>=λr=>letTemporaryGo value va r>>=λz=>pure r) o:=by
 refine dM t λT id hT hl=>aj ?_;rw [getitemInPython_of_ne hT.not_modules];have fin:fH c c.F cv c.A (aE c.T c.F) X Y s (subscripted slice false va vi>>=λr=>letTemporaryGo value va r>>=λz=>pure r) o:=by rw [hs];exact AD (f7 h)
 refine av (Sw (U8 hT hl ?_));exact SN fin
theorem o4 (h:zf slice=true):subscripted slice false va vi=operate [va,vi] (Xw va vi):=by cases slice<;>first|rfl|exact gV h
theorem Mw (ok:c.Ok n) (hn:zf y=true) (ha:SE K c cv a x) (hi:SE K c cv i y):SE K c cv (.item a i) (.Subscript x y pos):=by refine ⟨@λY X s I nb=> ?_⟩;rw [arm_eval_Subscript];refine aC nb (ha.run I) λu σ1 dY v s1 ck S1 V1 I1=>aC ck (λh=>cE (hi.run I1 h)) λw σ2 sJ z s2 kK S2 V2 I2=>az ?_;obtain ⟨r,hr⟩:=cL kK;refine (hr).symm▸ ?_;have V1:=V1.step S2;have t:=(EL (A:=c.A) (E:=λg g=>True) (Q:=λg g=>True) I2.rh hr V1 V2 λg g g g g g=>trivial).1;exact AV ok (o4 hn) t (bX ok I2 λQ k=>(EL I2.rh hr V1 V2 k).2)
structure SO (K:Fn->List J->U->aA U J) (c:Cx) (cv:J) (e:sf) (x:Option UI):Prop where
 run: ∀{Y X s},Inv c cv X Y s->Rz K cv e Y≠.bad->fH c c.F cv c.A (je c.T c.F) X Y.hs s (valueOrNone (evalOpt x c.env)) (Rz K cv e Y)
theorem Nx:SO K c cv .none none:=by refine ⟨@λY X s I nb=> ?_⟩;exact bE I rfl rfl
theorem Nh (h:SE K c cv e x):SO K c cv (.some e) (some x):=by
 refine ⟨@λY X s I nb=> ?_⟩;dsimp only [Rz] at nb⊢;refine aK (h.run I (λz=>nb (by rw [z];rfl))) (λv s' q=> ?_) λv s' q=> ?_;·exact sZ q λa σ' ι' h1 h2=>Ou (some a) σ' ι' (by rw [h1];rfl) h2
 ·exact dM q λσ' ι' h1 h2=>gv σ' ι' (by rw [h1];rfl) h2
theorem je.step (S:Step P F X H h ι' H' h') (p:je T F X H h o v):je T F ι' H' h' o v:=by
 cases o with
 |none=>exact p
 |some a=>exact aE.step S a v p
theorem G8 (ok:c.Ok n) {lo hi:sf} (ha:SE K c cv a x) (hlo:SO K c cv lo l) (hhi:SO K c cv hi h):SE K c cv (.slice a lo hi) (.Subscript x (.Slice l h none p) pos):=by
 refine ⟨@λY X s I nb=> ?_⟩;rw [arm_eval_Subscript];refine aC nb (ha.run I) λu σ1 dY v s1 ck S1 V1 I1=> ?_;rw [arm_eval_Slice];refine aj (aD ?_);refine aj (aK (hlo.run I1 (λz=>ck (by rw [z];rfl))) (λb s2 q=> ?_) λe s2 q=> ?_);rotate_left;·exact dM q λσ' ι' h1 h2=>gv σ' ι' (((h1).symm▸rfl)) h2
 refine gH q λlo' σ2 sJ h1 P2 I2 S2 zE=> ?_;rw [h1] at ck⊢;simp only [aA.eT] at ck⊢;refine aj (aD (aK (hhi.run I2 (λz=>ck (by rw [z];rfl))) (λb' s3 q=> ?_) λe s3 q=> ?_));rotate_left;·exact qF q λσ' ι' h1 h2 h3 h4 h5 h6=>rJ σ' ι' (by rw [h1];rfl) (h2.older S2.alive) h3 h4 (S2.trans h5) (zE.trans h6)
 refine gH q λhi' σ3 GR h2 P3 I3 S3 Na=> ?_;rw [h2] at ck⊢;simp only [aA.eT] at ck⊢;refine aj (aD (ao ?_));refine av (UX ?_);refine gg ?_;let s4:Tz:={s3 with heap:=s3.heap.push {cls:=.type "slice",data:=.fields #[b,b',.none]}};obtain ⟨R4,S4⟩:=I3.rh.grow (h':=s4.heap) λb o e=>SK _ e;have I4:Inv c cv GR σ3 s4:=I3.step ok R4 S4;have P2:=(P2.step S3).step S4;have P3:=P3.step S4;have V:=((V1.step S2).step S3).step S4;have sl:s4.heap.IsSliceOf s3.heap.objs.size b b' .none:=abJ _ _ _ _;have S24:=(S2.trans S3).trans S4;have Re:Rest s1 s4:=(zE.trans Na).trans ⟨rfl,rfl⟩;suffices z:fH c c.F cv c.A (aE c.T c.F) GR σ3.hs s4 (getitemInPython v>>=λb=>subscripted (.Slice l h none p) b v (.ref s3.heap.objs.size)>>=λr=>letTemporaryGo x v r>>=λy=>pure r) (match cN σ3.hs u lo' hi' with
  |some (.inl v)=>.ok v σ3
  |some (.inr l)=>.ok (.ref σ3.hs.n) ⟨σ3.ls,σ3.hs.new (.O l)⟩
  |none=>.bad) from aK z (λy y r=>r.older S24 Re) λy y x=>x.older S24 Re λy e=>e;cases hr:cN σ3.hs u lo' hi' with
 |none=>replace ck:=(hr)▸ck;exact absurd rfl ck
 |some res=>
  refine AV ok (ops:=[.ref s3.heap.objs.size,v]) rfl ((tC (A:=c.A) (E:=λy y=>True) (Q:=λy y=>True) I4.rh hr V sl P2 P3 (λy y y y y y y y=>trivial) (λy y y y y y y y y=>trivial)).1) ?_;cases res with
  |inl w=>exact bX ok I4 λQ k=>(tC I4.rh hr V sl P2 P3 (λw' e=>by cases e;exact k) (λy e=>(by cases e))).2
  |inr w=>exact pB ok I4 λQ k=>(tC I4.rh hr V sl P2 P3 (λy e=>(by cases e)) (λw' e=>by cases e;exact k)).2
end
noncomputable def iW (P:Ex->UI->Prop):ir->List UI->Prop
 | .nil,[]=>True
 | .cons e r,x::l=>P e x/\iW P r l
 |_,_=>False
noncomputable def jN (o:aA St J):aA St Bool:=o.bind λv Y=>match v with
 | .bool b=>.ok b Y
 |_=>.bad
def abO (_:Nat->Um) (_:U) (_:Vr) (a b:Bool):Prop:=a=b
theorem aA.bind_assoc {τ α β γ:Type} (o:aA τ α) (f:α->τ->aA τ β) (g:β->τ->aA τ γ):(o.bind f).bind g=o.bind λa s=>(f a s).bind g:=by cases o<;>rfl
theorem aA.bind_congr {τ α β:Type} {o:aA τ α} {f g:α->τ->aA τ β} (h: ∀a s,f a s=g a s):o.bind f=o.bind g:=by cases o<;>first|rfl|exact h _ _
section
variable {K:Fn->List J->U->aA U J} {c:Cx} {n:Nat} {cv:J}
theorem wD {α β γ δ:Type} {rel:(Nat->Um)->U->Vr->α->β->Prop} {rel':(Nat->Um)->U->Vr->γ->δ->Prop} {m:Sem β} {f:β->Sem δ} {o:aA St α} {g:α->St->aA St γ} (nb:o.bind g≠.bad) (h:o≠.bad->fH c P cv A rel X H s m o) (k: ∀a σ' ι' b s',o=.ok a σ'->g a σ'≠.bad->Step P c.F X H s.heap ι' σ'.hs s'.heap->rel ι' σ'.hs s'.heap a b->Inv c cv ι' σ' s'->fH c P cv A rel' ι' σ'.hs s' (f b) (g a σ')):fH c P cv A rel' X H s (m>>=f) (o.bind g):=by
 refine aj (aK (h (λe=>nb (by refine (e).symm▸ ?_;rfl))) (λb s' r=> ?_) λe s' x=> ?_);·refine gH r λa σ' ι' h1 h2 h3 h4 h5=> ?_;have e:=h1;clear h r e;subst h1;exact aK (k a σ' ι' b s' rfl nb h4 h2 h3) (λz z r=>r.older h4 h5) λz z x=>x.older h4 h5 λz e=>e
 ·exact qF x λσ' ι' h1 h2 h3 h6 h4 h5=>rJ σ' ι' (by refine (h1).symm▸ ?_;rfl) h2 h3 h6 h4 h5
theorem Ey: ∀{l:ir} {xs:List UI},iW (SE K c cv) l xs->SL K c cv l xs
 | .nil,[],_=>by refine ⟨@λY X s I nb=> ?_⟩;exact bE I trivial rfl
 | .nil,_::_,h=>h.elim
 | .cons _ _,[],h=>h.elim
 | .cons e r,x::xs,h=>by refine ⟨@λY X s I nb=> ?_⟩;rw [UT,spliced_cons];refine aC nb (h.1.run I) λa σ1 dY v s1 ck S1 V1 I1=>aj (ao ?_);exact aC ck (λz=>cE ((Ey h.2).run I1 z)) λb σ2 sJ w s2 kK S2 V2 I2=>bE I2 ⟨V1.step S2,V2⟩ rfl
theorem tn (env:Env) (l:List UI) (hp:l.all aN=true) (pos:Pos):spliced (backTo pos (starEach l env))=spliced (l.map λe=>(false,eval e env)):=by rw [iZ env l hp,jV]
theorem aB.G0 (r:aB T F X H h l vs):vs.length=l.length:=r.length.symm
theorem yO: ∀{l:ir} {xs:List UI},iW (SE K c cv) l xs-> ∀{Y r σ'},m5 K cv l Y=.ok r σ'->r.length=xs.length
 | .nil,[],_,Y,r,σ',e=>by cases e;rfl
 | .nil,_::_,h,_,_,_,_=>h.elim
 | .cons _ _,[],h,_,_,_,_=>h.elim
 | .cons e r,x::xs,h,Y,q,σ',z=>by
  change aA.bind (bk K cv e Y) _=_ at z;refine aQ λcT k_1=> ?_;cases h1:bk K cv e Y with
  |bad=>replace z:=(h1)▸z;cases z
  |exc=>rw [h1] at z;cases z
  |ok a σ1=>
   replace z:=(h1)▸z;change aA.bind (m5 K cv r σ1) _=_ at z;cases h2:m5 K cv r σ1 with
   |bad=>replace z:=(h2)▸z;cases z
   |exc=>rw [h2] at z;cases z
   |ok b σ2=>replace z:=(h2)▸z;cases z;refine k_1 ((Yg).symm▸ ?_);refine (Yg).symm▸((yO h.2 h2).symm▸ ?_);rfl
theorem QY (ok:c.Ok n) (hp:xs.all aN=true) (hl:xs.length<=1000) (h:iW (SE K c cv) l xs):SE K c cv (.bW l) (.Tuple xs k pos):=by refine ⟨@λY X s I nb=> ?_⟩;rw [arm_eval_Tuple,tn _ _ hp];change aA.bind _ _≠aA.bad at nb;refine az ?_;refine wD nb (λz=>(Ey h).run I z) λr σ1 dY vs s1 hr ck S1 V1 I1=> ?_;have hr:=(yO h) hr;refine av (UX ?_ (by refine (?_:vs.toArray.size<=abv);rw [Ui,V1.G0,sizeLine_eq];exact (Ln.n2 0x18614220820820821056001508a2e8c0) hl hr));exact (Ah ok I1 λy h=>h).tuple (t:=s1.toks) I1.rh (by rw [hr];exact Sl hl (by decide)) V1
theorem Mz (ok:c.Ok n) (hp:xs.all aN=true) (hl:xs.length<=1000) (h:iW (SE K c cv) l xs):SE K c cv (.list l) (.List xs pos):=by refine ⟨@λY X s I nb=> ?_⟩;rw [arm_eval_List,tn _ _ hp];refine az (wD nb (λz=>(Ey h).run I z) λr σ1 dY vs s1 hr ck S1 V1 I1=> ?_);have hr:=(yO h) hr;refine pB ok I1 λQ k=>UX ?_ (by refine (?_:vs.toArray.size<=abv);rw [Ui,V1.G0,sizeLine_eq];exact (Ln.n2 0x18614220820820821056001508a2e8c0) hl hr);exact k.list (t:=s1.toks) I1.rh (by rw [hr];exact Sl hl (by decide)) V1
theorem Lo (ok:c.Ok n):SE K c cv .ru (.Dict [] [] pos):=by refine ⟨@λY X s I nb=> ?_⟩;exact pB ok I λQ k=>Jt ok.wf.JN I.rh k
theorem oW (h:Q b s):dH M A (truthy (.bool b)) Q E s:=av (WR h)
theorem G2 (ok:c.Ok n): ∀{l:ir} {xs:List UI},iW (SE K c cv) l xs->SE K c cv (.and l) (.BoolOp .And xs pos)
 | .nil,[],_=>⟨@λY X s I nb=>absurd rfl nb⟩
 | .nil,_::_,h=>h.elim
 | .cons _ _,[],h=>h.elim
 | .cons e .nil,[x],h=>by refine ⟨@λY X s I nb=> ?_⟩;exact h.1.run I nb
 | .cons e .nil,x::y::r,h=>h.2.elim
 | .cons e (.cons _ _),[_],h=>h.2.elim
 | .cons e (.cons e2 l),x::y::xs,h=>by
  refine ⟨@λY X s I nb=> ?_⟩;have eq:eval (.BoolOp .And (x::y::xs) pos) c.env=(eval x c.env>>=λv=>XY pos>>=λz=>Xb [v] (truthy v)>>=λt=>match Zz,t with
   | .And,false| .Or,true=>pure v
   |_,_=>eval (.BoolOp .And (y::xs) pos) c.env):=rfl;rw [eq];refine aC nb (h.1.run I) λa σ1 dY v s1 ck S1 V1 I1=>az ?_;cases a<;>first|exact absurd rfl ck|skip
  rename_i b;cases (show v=.bool b from V1);refine aj (aD (oW ?_));clear V1;cases b;·exact bE I1 rfl rfl
  ·exact (G2 ok (pos:=pos) h.2).run I1 ck
theorem OG (ok:c.Ok n): ∀{l:ir} {xs:List UI},iW (SE K c cv) l xs->SE K c cv (.or l) (.BoolOp .Or xs pos)
 | .nil,[],_=>⟨@λY X s I nb=>absurd rfl nb⟩
 | .nil,_::_,h=>h.elim
 | .cons _ _,[],h=>h.elim
 | .cons e .nil,[x],h=>by refine ⟨@λY X s I nb=> ?_⟩;exact h.1.run I nb
 | .cons e .nil,x::y::r,h=>h.2.elim
 | .cons e (.cons _ _),[_],h=>h.2.elim
 | .cons e (.cons e2 l),x::y::xs,h=>by
  refine ⟨@λY X s I nb=> ?_⟩;have eq:eval (.BoolOp .Or (x::y::xs) pos) c.env=(eval x c.env>>=λv=>XY pos>>=λz=>Xb [v] (truthy v)>>=λt=>match ZV,t with
   | .And,false| .Or,true=>pure v
   |_,_=>eval (.BoolOp .Or (y::xs) pos) c.env):=rfl;rw [eq];refine aC nb (h.1.run I) λa σ1 dY v s1 ck S1 V1 I1=>az ?_;cases a<;>first|exact absurd rfl ck|skip
  rename_i b;cases (show v=.bool b from V1);refine aj (aD (oW ?_));clear V1;cases b;·exact (OG ok (pos:=pos) h.2).run I1 ck
  ·exact bE I1 rfl rfl
theorem tW (h: ∀v Y,jN (f v Y)=(jN (.ok v Y)).bind g):jN (x.bind f)=(jN x).bind g:=by
 cases x with
 |ok v Y=>exact h v Y
 |_=>rfl
theorem P9 {f:J->St->aA St J} (h: ∀v Y,f v Y=(jN (.ok v Y)).bind g):x.bind f=(jN x).bind g:=by
 cases x with
 |ok v Y=>exact h v Y
 |_=>rfl
structure wV (K:Fn->List J->U->aA U J) (c:Cx) (cv:J) (e:Ex) (x:UI):Prop where
 run: ∀{Y X s},Inv c cv X Y s->jN (bk K cv e Y)≠.bad->fH c c.F cv c.A abO X Y.hs s (isTrue x c.env (eval x c.env)) (jN (bk K cv e Y))
theorem Ro (ok:c.Ok n) (ha:wV K c cv a x):wV K c cv (.not a) (.UnaryOp .Not x pos):=by
 refine ⟨@λY X s I nb=> ?_⟩;have eq:jN (bk K cv (.not a) Y)=(jN (bk K cv a Y)).bind λb Y=>.ok (!b) Y:=by exact tW λv Y=>by cases v<;>rfl
 rw [eq] at nb⊢;refine aC nb (ha.run I) λb σ1 dY v s1 ck S1 V1 I1=> ?_;subst V1;exact bE I1 rfl rfl
theorem Rf (ok:c.Ok n) {l r:UI} (hm:behindInMarks op.py r=false) (ha:SE K c cv a l) (hb:SE K c cv b r):wV K c cv (.cmp op a b) (.Compare l [op.py] [r] pos):=by
 refine ⟨@λY X s I nb=> ?_⟩;rw [isTrue_Compare1,markedBehindIn_of_false hm];have e2:jN (bk K cv (.cmp op a b) Y)=(bk K cv a Y).bind λx Y=>(bk K cv b Y).bind λy Y=>jN (.cC Y ((rt Y.hs op x y).map .bool)):=by
  refine (?_:jN (aA.bind _ _)=_);cases bk K cv a Y with
  |ok x Y=>refine (?_:jN ((bk K cv b Y).bind _)=(bk K cv b Y).bind _);cases bk K cv b Y<;>rfl
  |_=>rfl
 rw [e2] at nb⊢;refine aC nb (ha.run I) λx σ1 dY v s1 ck S1 V1 I1=>aC ck (λh=>cE (hb.run I1 h)) λy σ2 sJ u s2 kK S2 V2 I2=>az ?_;refine aC (rel:=aE c.T c.F) kK (λh=>f7 (m:=Wy op.py v u) ?_) λz σ3 GR w s3 NC S3 V3 I3=> ?_;·refine fU (cL h) λr hr=>(hr).symm▸(ay (Sz.mp hr) λb hb uW=> ?_);clear hr;subst uW;exact bX ok I2 λQ k=>EJ ok.Bf I2.rh hb (V1.step S2) V2 k
 ·cases z<;>first|exact absurd rfl NC|skip
  subst V3;exact cE (oW (d7 _ _ GR rfl rfl I3 (Step.refl' I3.rh) Rest.refl))
theorem Ku (ok:c.Ok n): ∀{l:ir} {xs:List UI},iW (wV K c cv) l xs->wV K c cv (.and l) (.BoolOp .And xs pos)
 | .nil,[],_=>⟨@λY X s I nb=>absurd rfl nb⟩
 | .nil,_::_,h=>h.elim
 | .cons _ _,[],h=>h.elim
 | .cons e .nil,[x],h=>by
  refine ⟨@λY X s I nb=> ?_⟩;have eq:isTrue (.BoolOp .And [x] pos) c.env (eval (.BoolOp .And [x] pos) c.env)=(isTrue x c.env (eval x c.env)>>=λb=>match Zz,b with
   | .And,false=>pure false
   | .Or,true=>pure true
   |_,_=>allTrue .And [] c.env):=rfl;refine (eq).symm▸ ?_;have e2:jN (bk K cv (.and (.cons e .nil)) Y)=(jN (bk K cv e Y)).bind λb Y=>.ok b Y:=by refine (?_:jN (bk K cv e Y)=_);cases jN (bk K cv e Y)<;>rfl
  rw [e2] at nb⊢;refine aC nb (h.1.run I) λb σ1 dY v s1 ck S1 V1 I1=> ?_;clear ck;subst V1;cases b;·exact bE I1 rfl rfl
  ·exact bE I1 rfl rfl
 | .cons e .nil,x::y::r,h=>h.2.elim
 | .cons e (.cons _ _),[_],h=>h.2.elim
 | .cons e (.cons e2 l),x::y::xs,h=>by
  refine ⟨@λY X s I nb=> ?_⟩;have eq:isTrue (.BoolOp .And (x::y::xs) pos) c.env (eval (.BoolOp .And (x::y::xs) pos) c.env)=(isTrue x c.env (eval x c.env)>>=λb=>match Zz,b with
   | .And,false=>pure false
   | .Or,true=>pure true
   |_,_=>isTrue (.BoolOp .And (y::xs) pos) c.env (eval (.BoolOp .And (y::xs) pos) c.env)):=rfl;rw [eq];have e2:jN (bk K cv (.and (.cons e (.cons e2 l))) Y)=(jN (bk K cv e Y)).bind λb Y=>if b then jN (bk K cv (.and (.cons e2 l)) Y) else .ok false Y:=by
   refine tW λv Y=> ?_;cases v<;>try rfl
   rename_i b;cases b<;>rfl
  rw [e2] at nb⊢;refine aC nb (h.1.run I) λb σ1 dY v s1 ck S1 V1 I1=> ?_;cases V1;cases b;·exact bE I1 rfl rfl
  ·exact (Ku ok (pos:=pos) h.2).run I1 ck
theorem OR (ok:c.Ok n): ∀{l:ir} {xs:List UI},iW (wV K c cv) l xs->wV K c cv (.or l) (.BoolOp .Or xs pos)
 | .nil,[],_=>⟨@λY X s I nb=>absurd rfl nb⟩
 | .nil,_::_,h=>h.elim
 | .cons _ _,[],h=>h.elim
 | .cons e .nil,[x],h=>by
  refine ⟨@λY X s I nb=> ?_⟩;have eq:isTrue (.BoolOp .Or [x] pos) c.env (eval (.BoolOp .Or [x] pos) c.env)=(isTrue x c.env (eval x c.env)>>=λb=>match ZV,b with
   | .And,false=>pure false
   | .Or,true=>pure true
   |_,_=>allTrue .Or [] c.env):=rfl;refine (eq).symm▸ ?_;have e2:jN (bk K cv (.or (.cons e .nil)) Y)=(jN (bk K cv e Y)).bind λb Y=>.ok b Y:=by refine (?_:jN (bk K cv e Y)=_);cases jN (bk K cv e Y)<;>rfl
  rw [e2] at nb⊢;refine aC nb (h.1.run I) λb σ1 dY v s1 ck S1 V1 I1=> ?_;clear ck;subst V1;cases b;·exact bE I1 rfl rfl
  ·exact bE I1 rfl rfl
 | .cons e .nil,x::y::r,h=>h.2.elim
 | .cons e (.cons _ _),[_],h=>h.2.elim
 | .cons e (.cons e2 l),x::y::xs,h=>by
  refine ⟨@λY X s I nb=> ?_⟩;have eq:isTrue (.BoolOp .Or (x::y::xs) pos) c.env (eval (.BoolOp .Or (x::y::xs) pos) c.env)=(isTrue x c.env (eval x c.env)>>=λb=>match ZV,b with
   | .And,false=>pure false
   | .Or,true=>pure true
   |_,_=>isTrue (.BoolOp .Or (y::xs) pos) c.env (eval (.BoolOp .Or (y::xs) pos) c.env)):=rfl;rw [eq];have e2:jN (bk K cv (.or (.cons e (.cons e2 l))) Y)=(jN (bk K cv e Y)).bind λb Y=>if b then .ok true Y else jN (bk K cv (.or (.cons e2 l)) Y):=by
   refine tW λv Y=> ?_;cases v<;>try rfl
   rename_i b;cases b<;>rfl
  rw [e2] at nb⊢;refine aC nb (h.1.run I) λb σ1 dY v s1 ck S1 V1 I1=> ?_;cases V1;cases b;·exact (OR ok (pos:=pos) h.2).run I1 ck
  ·exact bE I1 rfl rfl
theorem PU (ok:c.Ok n) {t a b:Ex} (ht:wV K c cv t x) (ha:SE K c cv a l) (hb:SE K c cv b r):SE K c cv (.ite t a b) (.IfExp x l r pos):=by
 refine ⟨@λY X s I nb=> ?_⟩;rw [arm_eval_IfExp];have e2:bk K cv (.ite t a b) Y=(jN (bk K cv t Y)).bind λz Y=>if z then bk K cv a Y else bk K cv b Y:=by
  refine P9 λv Y=> ?_;cases v<;>try rfl
  rename_i b;cases b<;>rfl
 rw [e2] at nb⊢;refine aC nb (ht.run I) λz σ1 dY v s1 ck S1 V1 I1=> ?_;subst V1;cases z;·exact hb.run I1 ck
 ·exact ha.run I1 ck
end
section
variable {K:Fn->List J->U->aA U J} {c:Cx} {n:Nat} {cv:J}
def Kept (T:eS) (f:Te):Prop:= ∀h,T.K.In h-> ∃k,(k=YY∨k=Yx)/\Xf (model T.prog T.w) h (keeperOf f) k
theorem jf {id:String}:Kept T (.builtin id):=λz z=>⟨.machine,.inr rfl,UJ rfl⟩
theorem D5 {id:String}:Kept T (.type id):=λz z=>⟨.machine,.inr rfl,UJ rfl⟩
theorem yx (h:keepIn T.K f=true):Kept T f:=λz ι=>looks_keep h ι
theorem gb {β:Type} {rel:(Nat->Um)->U->Vr->β->Te->Prop} {g:List J->St->aA St β} (ok:c.Ok n) (hp:args.all aN=true) (hl:iW (SE K c cv) l args) (kf:Kept c.T f) (I:Inv c cv X Y s) (nb:(m5 K cv l Y).bind g≠.bad) (k: ∀as σ' ι' vs s',m5 K cv l Y=.ok as σ'->g as σ'≠.bad->Step c.F c.F X Y.hs s.heap ι' σ'.hs s'.heap->aB c.T c.F ι' σ'.hs s'.heap as vs->Inv c cv ι' σ' s'->fH c c.F cv c.A rel ι' σ'.hs s' (call f (first++vs)) (g as σ')):fH c c.F cv c.A rel X Y.hs s (callWith q f first (backTo q (starEach args c.env)) []) ((m5 K cv l Y).bind g):=by
 refine nV hp (aK ((Ey hl).run I (λz=>nb (by refine (z).symm▸ ?_;rfl))) (λvs s' r=> ?_) λe s' x=> ?_);·
  refine gH r λas σ' ι' h1 h2 h3 h4 h5=>⟨kf _ (h3.wJ ok),?_⟩;rw [h1] at nb;refine aK (k as σ' ι' vs s' h1 nb h4 h2 h3) (λy y r=> ?_) λy y x=> ?_;·exact (h1).symm▸(r.older h4 h5)
  ·rw [h1];exact x.older h4 h5 λy e=>e
 ·exact qF x λσ' ι' h1 h2 h3 h6 h4 h5=>rJ σ' ι' (by refine (h1).symm▸ ?_;rfl) h2 h3 h6 h4 h5
noncomputable def EB {β:Type} (g:J->St->aA St β) (l:List J) (Y:St):aA St β:=match l with
 |[v]=>g v Y
 |_=>.bad
noncomputable def Aa {β:Type} (g:J->J->St->aA St β) (l:List J) (Y:St):aA St β:=match l with
 |[v,w]=>g v w Y
 |_=>.bad
theorem Dq {β:Type} {g:J->St->aA St β} {M:aA St β->List Te->Prop} (V:aB c.T c.F X H h as vs) (nb:EB g as Y≠.bad) (k: ∀v vv,aE c.T c.F X H h v vv->g v Y≠.bad->M (g v Y) [vv]):M (EB g as Y) vs:=by
 rcases as with _|⟨v,_|_⟩<;>first|exact absurd rfl nb|skip
 rcases vs with _|⟨vv,_|_⟩;·exact V.elim
 ·exact k v vv V.1 nb
 ·exact V.2.elim
theorem Rw {β:Type} {g:J->J->St->aA St β} {M:aA St β->List Te->Prop} (V:aB c.T c.F X H h as vs) (nb:Aa g as Y≠.bad) (k: ∀v vv w ww,aE c.T c.F X H h v vv->aE c.T c.F X H h w ww->g v w Y≠.bad->M (g v w Y) [vv,ww]):M (Aa g as Y) vs:=by
 rcases as with _|⟨v,_|⟨w,_|_⟩⟩<;>first|exact absurd rfl nb|skip
 rcases vs with _|⟨vv,_|⟨ww,_|_⟩⟩;·exact V.elim
 ·exact V.2.elim
 ·exact k v vv w ww V.1 V.2.1 nb
 ·exact V.2.2.elim
theorem xY {β:Type} {g:J->St->aA St β}:(bk K cv a Y).bind g=(m5 K cv (.cons a .nil) Y).bind (EB g):=by exact (aA.bind_assoc (bk K cv a Y) (λv Y=>.ok [v] Y) (EB g)).symm
theorem M5 {β:Type} {g:J->J->St->aA St β}:((bk K cv a Y).bind λx Y=>(bk K cv b Y).bind λy Y=>g x y Y)=(m5 K cv (.cons a (.cons b .nil)) Y).bind (Aa g):=by have e:m5 K cv (.cons a (.cons b .nil)) Y=(bk K cv a Y).bind λv Y=>(bk K cv b Y).bind λw Y=>.ok [v,w] Y:=aA.bind_congr (o:=bk K cv a Y) λv Y=>aA.bind_assoc (bk K cv b Y) (λw Y=>.ok [w] Y) (λr Y=>.ok (v::r) Y);have h (v:J) (Y:St):=(aA.bind_assoc (bk K cv b Y) (λw Y=>.ok [v,w] Y) (Aa g)).symm;exact ((aA.bind_congr (o:=bk K cv a Y) h).trans (aA.bind_assoc (bk K cv a Y) (λv Y=>(bk K cv b Y).bind λw Y=>.ok [v,w] Y) (Aa g)).symm).trans (congrArg (λo=>aA.bind o _) e.symm)
theorem kY (ok:c.Ok n) (he: ∀Y,bk K cv e Y=(bk K cv a Y).bind g) (hb:c.cc.bi nm=some f) (kf:Kept c.T f) (hp:aN z=true) (ha:SE K c cv a z) (k: ∀{X Y s v vv},Inv c cv X Y s->aE c.T c.F X Y.hs s.heap v vv->g v Y≠.bad->fH c c.F cv c.A (aE c.T c.F) X Y.hs s (call f [vv]) (g v Y)):SE K c cv e (.Call (.Name nm p) [z] [] q):=by
 refine ⟨@λY X s I nb=> ?_⟩;refine aj (av (l7 ok I hb ?_));rw [he,xY] at nb⊢;have u6:[z].all aN=true:=by refine (?_:(aN z&&true)=true);rw [hp];rfl
 exact gb ok u6 ⟨ha,trivial⟩ kf I nb λas σ' ι' vs s' e1 ck S1 V1 I1=>Dq (M:=λo vs=>fH c c.F cv c.A (aE c.T c.F) ι' σ'.hs s' (call f vs) o) V1 ck λv vv V nb=>k I1 V nb
theorem zS (ok:c.Ok n) {g:J->J->St->aA St J} (he: ∀Y,bk K cv e Y=(bk K cv a Y).bind λx Y=>(bk K cv b Y).bind λy Y=>g x y Y) (hb:c.cc.bi nm=some f) (kf:Kept c.T f) (hp:aN z=true) (hp2:aN y=true) (ha:SE K c cv a z) (hb':SE K c cv b y) (k: ∀{X Y s v vv w ww},Inv c cv X Y s->aE c.T c.F X Y.hs s.heap v vv->aE c.T c.F X Y.hs s.heap w ww->g v w Y≠.bad->fH c c.F cv c.A (aE c.T c.F) X Y.hs s (call f [vv,ww]) (g v w Y)):SE K c cv e (.Call (.Name nm p) [z,y] [] q):=by
 refine ⟨@λY X s I nb=> ?_⟩;refine aj (av (l7 ok I hb ?_));rw [he,M5] at nb⊢;have u6:[z,y].all aN=true:=by have h1:aN z=true:=hp;have h2:aN y=true:=hp2;simp [h1,h2]
 exact gb ok u6 ⟨ha,hb',trivial⟩ kf I nb λas σ' ι' vs s' e1 ck S1 V1 I1=>Rw (M:=λo vs=>fH c c.F cv c.A (aE c.T c.F) ι' σ'.hs s' (call f vs) o) V1 ck λv vv w ww V W nb=>k I1 V W nb
theorem Rd (ok:c.Ok n) (hb:c.cc.bi nm=some (.builtin "len")) (hp:aN z=true) (ha:SE K c cv a z):SE K c cv (.len a) (.Call (.Name nm p) [z] [] q):=kY ok (λY=>rfl) hb jf hp ha (g:=λx Y=>.cC Y ((IX Y.hs x).map .int)) λ{X Y s v vv} I V nb=>by obtain ⟨r,hr⟩:=cL nb;refine (hr).symm▸(ay (Sz.mp hr) λm hm d9=> ?_);clear hr;subst d9;exact bX ok I λQ k=>Qd I.rh hm V k
theorem Il (ok:c.Ok n) (hb:c.cc.bi nm=some (.type "bytes")) (hp:aN z=true) (ha:SE K c cv a z):SE K c cv (.bytesOf a) (.Call (.Name nm p) [z] [] q):=kY ok (λY=>rfl) hb D5 hp ha (g:=λx Y=>.cC Y ((iB Y.hs x).map .bytes)) λ{X Y s v vv} I V nb=>by obtain ⟨r,hr⟩:=cL nb;refine (hr).symm▸(ay (Sz.mp hr) λm hm d9=> ?_);clear hr;subst d9;exact bX ok I λQ k=>JM ok.handled I.rh hm V k
theorem Qe (ok:c.Ok n) (hb:c.cc.bi nm=some (.builtin "sum")) (hp:aN z=true) (ha:SE K c cv a z):SE K c cv (.sum a) (.Call (.Name nm p) [z] [] q):=kY ok (λY=>rfl) hb jf hp ha (g:=λx Y=>.cC Y ((FP Y.hs x).map .int)) λ{X Y s v vv} I V nb=>by obtain ⟨r,hr⟩:=cL nb;refine (hr).symm▸(ay (Sz.mp hr) λm hm d9=> ?_);clear hr;subst d9;exact bX ok I λQ k=>Ri ok.handled I.rh hm V k
theorem Rq (ok:c.Ok n) (hb:c.cc.bi nm=some (.builtin "all")) (hp:aN z=true) (ha:SE K c cv a z):SE K c cv (.all a) (.Call (.Name nm p) [z] [] q):=kY ok (λY=>rfl) hb jf hp ha (g:=λx Y=>.cC Y (((items Y.hs x).bind iD).map λl=>.bool (l.all id))) λ{X Y s v vv} I V nb=>by obtain ⟨r,hr⟩:=cL nb;refine (hr).symm▸(ay (Sz.mp hr) λm hm d9=> ?_);clear hr;subst d9;exact ay (SV.mp hm) λl h1 h2=>bX ok I λQ k=>QO ok.handled I.rh h1 h2 V k
theorem QT (ok:c.Ok n) (hb:c.cc.bi nm=some (.builtin "min")) (hp:aN z=true) (hp2:aN y=true) (ha:SE K c cv a z) (hb':SE K c cv b y):SE K c cv (.min a b) (.Call (.Name nm p) [z,y] [] q):=zS ok (λY=>rfl) hb jf hp hp2 ha hb' (g:=λx y Y=>match x,y with
 | .int i,.int j=>.ok (.int (if j<i then j else i)) Y
 |_,_=>.bad) λ{X Y s v vv w ww} I V W nb=>by
 cases v<;>first|exact absurd rfl nb|skip
 cases w<;>first|exact absurd rfl nb|skip
 obtain ⟨t,rfl⟩:=V;obtain ⟨u,rfl⟩:=W;exact bX ok I λQ k=>RG ok.handled I.rh k
theorem QX (ok:c.Ok n) (hb:c.cc.bi nm=some (.builtin "max")) (hp:aN z=true) (hp2:aN y=true) (ha:SE K c cv a z) (hb':SE K c cv b y):SE K c cv (.max a b) (.Call (.Name nm p) [z,y] [] q):=zS ok (λY=>rfl) hb jf hp hp2 ha hb' (g:=λx y Y=>match x,y with
 | .int i,.int j=>.ok (.int (if i<j then j else i)) Y
 |_,_=>.bad) λ{X Y s v vv w ww} I V W nb=>by
 cases v<;>first|exact absurd rfl nb|skip
 cases w<;>first|exact absurd rfl nb|skip
 obtain ⟨t,rfl⟩:=V;obtain ⟨u,rfl⟩:=W;exact bX ok I λQ k=>PJ ok.handled I.rh k
theorem wI (ok:c.Ok n) (call:gw c.T c.B K n) (I:Inv c cv X Y s) (V:aB c.T c.F X Y.hs s.heap as vs) (nb:gM K f as Y≠.bad):fH c c.F cv c.A (aE c.T c.F) X Y.hs s (PySem.call (.ref (c.T.fn f)) vs) (gM K f as Y):=by
 refine ia (cM (call c.F c.fr c.A X Y.hs s f as vs ok.handled ok.frames ok.yv (by have:=ok.depth;exact (Ln.n3 0x18502288b0a30122801408a22e28c048a00) this) (by have:=ok.units;exact (Ln.n3 0x18502288b2328c048a2201408a22094a301228880) this) ok.wf I.rh I.kN V (λz=>nb (by unfold gM;rw [z]))) λr s' h=> ?_);cases r with
 |error e=>exact Gk h λH' ι' h1 h2 h3 h4 h5=>rJ ⟨Y.ls,H'⟩ ι' (by unfold gM;rw [h1]) h2 h3 (I.step ok h3 h4) h4 h5
 |ok fl=>
  cases fl with
  |ret v=>exact gH h λa H' ι' h1 h2 h3 h4 h5=>d7 a ⟨Y.ls,H'⟩ ι' (by unfold gM;rw [h1]) h2 (I.step ok h3 h4) h4 h5
  |_=>exact h.elim
theorem MO (ok:c.Ok n) (call:gw c.T c.B K n) (ht:c.cc.top nm=some (.ref (c.T.fn f))) (hp:xs.all aN=true) (hl:iW (SE K c cv) l xs):SE K c cv (.call f l) (.Call (.Name nm p) xs [] q):=by refine ⟨@λY X s I nb=> ?_⟩;refine aj (av (lJ ok I ht ?_));exact gb ok hp hl (yx (ok.wf.HC f)) I nb λas σ' ι' vs s' e1 ck S1 V1 I1=>wI ok call I1 V1 ck
theorem Ft: ∀{fs:List (Fd×J)} {es:List Wb},dJ T F X H h fs es->(∀p∈fs,T.aY p.1≠nm)->getL nm es=some none:=by
 intro fs es r hn;have fnd: ∀{fs:List (Fd×J)} {es:List Wb},dJ T F X H h fs es->(∀p∈fs,T.aY p.1≠nm)->es.find? (·.key.isStr nm)=none:=by
  intro fs;induction fs with
  |nil=>
   intro es r _;cases es with
   |nil=>rfl
   |cons _ _=>exact r.elim
  |cons p fs ih=>
   intro es r hn;cases es with
   |nil=>exact r.elim
   |cons e es=>
    refine rP r λtH y y h4=> ?_;obtain ⟨t,h1⟩:=tH;rw [U7];·exact ih h4 λq hq=>hn q (.tail _ hq)
    ·rw [h1];intro z;exact hn p (.head _) (beq_iff_eq.mp z)
 unfold getL;refine (fnd r hn).symm▸((r.refKey).symm▸ ?_);rfl
theorem JC: ∀{fs:List (Fd×J)},(o8 f fs).isSome=false-> ∀p∈fs,p.1≠f:=by
 intro l_;induction l_ with
 |nil=>exact @λy y hp=>((by cases hp))
 |cons p_ fs aG=>
  obtain ⟨g,u⟩:=p_;exact @λh p hp=>by
   by_cases q:f=g;·cases (congrArg WB (if_pos q:o8 f ((g,u)::fs)=some u)).symm.trans h
   ·replace h:=(congrArg WB (if_neg q:o8 f ((g,u)::fs)=o8 f fs)).symm.trans h;rcases Tn.mp hp with rfl|hp;·exact λz=>q z.symm
    ·exact aG h p hp
theorem Nu (ok:c.Ok n) (I:Inv c cv X Y s) (e:bK Y.hs x m=some f) (V:aE c.T c.F X Y.hs s.heap x vx) (h:Q (.ref (c.T.fn f),[vx]) s):wpAny (model c.T.prog c.T.w) A (getMethod vx (c.T.mname m) pl) Q E s:=by
 refine ay (SV.mp e) λtH e1 e=> ?_;obtain ⟨C,fs⟩:=tH;split at e;·exact ns e
 ·rename_i hno;refine vC (q6 I.rh e1 V) λa dx es k ad1 h1 h2 h3=> ?_;clear V;subst ad1;refine g8 (ok.wf.iA C m f e) λm1 m2 m3=> ?_;have nof: ∀p∈fs,c.T.aY p.1≠c.T.mname m:=λp hp z=>by
   obtain ⟨z1,z2⟩:=ok.wf.fm _ _ z;have:(o8 (.of 7) fs).isSome=false:=by
    cases q:(o8 (.of 7) fs).isSome with
    |false=>rfl
    |true=>exact (hno ⟨z2,q⟩).elim
   exact JC this p hp z1
  exact method_fn (I.wJ ok) (xq h1 h2) (plainGet_of m1).1 (plainGet_of m1).2 m2 (beq_iff_eq.mp m3) (by refine (?_:(lookIn _ (dictOf es k)).map _=_);rw [lookIn_dict,Ft h3 nof];rfl) h
theorem Bs (hp:xs.all aN=true) (hl:xs.length<30):methodCallForm (xs.length+([]:List Keyword).length) (backTo q (starEach xs env)) (backToKw q (keywordEach [] env))=true:=by rw [iZ env xs hp,jV];unfold methodCallForm;refine (((Uc (List.all_map) (Tc.mpr λz z=>rfl)):(xs.map λe=>((false,eval e env):Bool×Sem Te)).all (λx=> !x.1)=true)).symm▸ ?_;have h2:backToKw q (keywordEach [] env)=[]:=rfl;refine (h2).symm▸ ?_;simp;exact (Ln.n1 0x18488ba101222e840) hl
theorem MJ (ok:c.Ok n) (call:gw c.T c.B K n) (hs:jO y=true) (hp:xs.all aN=true) (hq:(p.endLine==q.line)=true) (h30:xs.length<30) (ho:SE K c cv o y) (hl:iW (SE K c cv) l xs):SE K c cv (.iA o m l) (.Call (.Attribute y (c.T.mname m) p) xs [] q):=by
 refine ⟨@λY X s I nb=> ?_⟩;rw [arm_eval_Call,fk hs];refine aC nb (ho.run I) λx σ1 dY v s1 ck S1 V1 I1=>az ?_;unfold methodCall;refine (Bs hp h30).symm▸ ?_;cases hm:bK σ1.hs x m with
 |none=>rw [hm] at ck;exact absurd rfl ck
 |some f=>
  rw [hm] at ck;refine aj (aD (av (Nu ok I1 hm V1 ?_)));have hpos:methodCallPos true y c.env p q=pure q:=by unfold methodCallPos;simp [hq]
  refine aj ((hpos).symm▸ ?_);refine ao ?_;exact gb ok hp hl (yx (ok.wf.HC f)) I1 ck λas σ' ι' vs s' e1 kK S2 V2 I2=>wI ok call I2 (as:=x::as) (vs:=v::vs) ⟨V1.step S2,V2⟩ kK
end
structure mQ (T:eS) (B:Vr) (F:List Um) (X:Nat->Um) (H H':U) (h:Vr):Prop where
 rh:RH T B F X H' h
 st:Step F F X H h X H' h
 sub: ∀x,(H'.h x).isSome=true->H'.h x=H.h x
theorem mQ.refl (R:RH T B F X H h):mQ T B F X H H h:=⟨R,Step.refl R,λz z=>rfl⟩
theorem mQ.trans (a:mQ T B F X H H' h) (b:mQ T B F X H' H'' h):mQ T B F X H H'' h:=⟨b.rh,a.st.trans b.st,λx hx=>(b.sub x hx).trans (a.sub x (by exact (b.sub x hx)▸(hx)))⟩
theorem mQ.del (a:mQ T B F X H H' h) (R:RH T B F X H h) (hx:(H.h x).isSome=true):mQ T B F X H (H'.del x) h/\ ¬rK F X (H'.del x) (X x):=by
 refine dD (a.rh.del (x:=x)) λR' S'=>⟨⟨R',a.st.trans S',λy hy=> ?_⟩,?_⟩;·
  rw [U.A7] at hy⊢;by_cases q:y=x;·replace hy:=(if_pos q)▸hy;cases hy
  ·rw [if_neg q] at hy⊢;exact a.sub y hy
 ·rintro (q|⟨y,e,q⟩);·exact (R.fc x hx).1 q
  ·rw [U.A7] at e;by_cases z:y=x;·replace e:=(if_pos z)▸e;cases e
   ·rw [if_neg z] at e;exact z (R.inj y x (by exact (a.sub y e)▸(e)) hx q)
def uV (T:eS) (B:Vr) (F:List Um) (X:Nat->Um) (h:Vr) (f:J->U->Option (J×U)):Prop:= ∀{v v':J} {H H':U} {vv:Te},f v H=some (v',H')->RH T B F X H h->aE T F X H h v vv->mQ T B F X H H' h/\aE T F X H' h v' vv
section
theorem DJ (ih:uV T B F X h f): ∀{l:List J} {H H':U} {r:List J} {vs:List Te},gG f l H=some (r,H')->RH T B F X H h->aB T F X H h l vs->mQ T B F X H H' h/\aB T F X H' h r vs/\r.length=l.length:=by
 intro l_;induction l_ with
 |nil=>exact @λz z z z e R V=>by cases e;exact ⟨.refl R,V,rfl⟩
 |cons a l aG=>
  intro _ _ _ m_;cases m_ with
  |nil=>exact @λz z V=>V.elim
  |cons w ws=>exact @λe R V=>by refine ay (SV.mp e) λx1 e1 e=>ay (Sz.mp e) λx2 e2 e=> ?_;cases e;obtain ⟨t1,v1⟩:=ih e1 R V.1;exact g8 (aG e2 t1.rh (V.2.step t1.st)) λt2 v2 hl=>⟨t1.trans t2,⟨v1.step t2.st,v2⟩,congrArg (· +1) hl⟩
theorem NG (ih:uV T B F X h f): ∀{l:List (Fd×J)} {H H':U} {r:List (Fd×J)} {es:List Wb},iY f l H=some (r,H')->RH T B F X H h->dJ T F X H h l es->mQ T B F X H H' h/\dJ T F X H' h r es:=by
 intro l_;induction l_ with
 |nil=>exact @λz z z z e R V=>by cases e;exact ⟨.refl R,V⟩
 |cons a l aG=>
  intro _ _ _ m_;cases m_ with
  |nil=>exact @λz z V=>V.elim
  |cons w ws=>exact @λe R V=>by refine ay (SV.mp e) λx1 e1 e=>ay (Sz.mp e) λx2 e2 e=> ?_;cases e;obtain ⟨t1,v1⟩:=ih e1 R V.2.2.1;exact dD (aG e2 t1.rh (V.2.2.2.step t1.st)) λt2 v2=>⟨t1.trans t2,V.1,V.2.1,v1.step t2.st,v2⟩
theorem NZ (ih:uV T B F X h f): ∀{l:List (Int×J)} {H H':U} {r:List (Int×J)} {es:List (Int×Te)},iY f l H=some (r,H')->RH T B F X H h->eO T F X H h l es->mQ T B F X H H' h/\eO T F X H' h r es:=by
 intro l_;induction l_ with
 |nil=>exact @λz z z z e R V=>by cases e;exact ⟨.refl R,V⟩
 |cons a l aG=>
  intro _ _ _ m_;cases m_ with
  |nil=>exact @λz z V=>V.elim
  |cons w ws=>exact @λe R V=>by refine ay (SV.mp e) λx1 e1 e=>ay (Sz.mp e) λx2 e2 e=> ?_;cases e;obtain ⟨t1,v1⟩:=ih e1 R V.2.1;exact dD (aG e2 t1.rh (V.2.2.step t1.st)) λt2 v2=>⟨t1.trans t2,V.1,v1.step t2.st,v2⟩
theorem NN (ih:uV T B F X h f) (hl:H.h x=some o) (e:aaE d f x H o=some (v',H')) (R:RH T B F X H h) (V:aE T F X H h (.ref x) vv):mQ T B F X H H' h/\aE T F X H' h v' vv:=by
 refine aQ λcT k_1=> ?_;obtain ⟨rfl,hx⟩:=V;have ho:=R.obj x _ hl;have hs:(H.h x).isSome=true:=by refine (hl).symm▸ ?_;rfl
 clear hl;cases o<;>first|exact ns e|skip
 ·refine aQ λJV k_2=> ?_;obtain ⟨y,e1,e⟩:=Sz.mp e;cases e;obtain ⟨c,o,vs,ep,g1,g2,g3,g4,_⟩:=ho;refine g8 (DJ ih e1 R g4) λt1 v1 hlen=>dD (t1.del (x:=x) R hs) λt2 hc=>k_2 (k_1 ?_);exact ⟨t2,hlen▸c,X x,o,vs,ep,rfl,g1,g2,g3,hc,v1.step (t1.rh.del (x:=x)).2⟩
 ·cases d with
  |false=>exact ns e
  |true=>obtain ⟨y,e1,e⟩:=Sz.mp e;cases e;refine fY ho λkvs g1 g2 g3=> ?_;obtain ⟨t1,v1⟩:=NZ ih e1 R g3;obtain ⟨t2,hc⟩:=t1.del (x:=x) R hs;exact k_1 (⟨t2,X x,kvs,rfl,g1,g2,hc,v1.step (t1.rh.del (x:=x)).2⟩)
theorem MB (ih:uV T B F X h f) (hl:H.h x=some o) (e:aaK f C x H o=some (v',H')) (R:RH T B F X H h) (V:aE T F X H h (.aI C x) vv):mQ T B F X H H' h/\aE T F X H' h v' vv:=by
 refine aQ λcT k_1=>qS V λa nR g1 g2 g3=> ?_;clear V;subst nR;cases o<;>first|exact ns e|skip
 refine ay (Sz.mp e) λy e1 e=> ?_;cases e;exact dM (R.obj x _ hl) λes n g4 g5=>dD (NG ih e1 R g5) λt1 v1=>dD (t1.del (x:=x) R (((hl).symm▸rfl))) λt2 hc=>k_1 (⟨t2,a,X x,es,n,rfl,g1,g4,t2.st.fc (by refine (g1).symm▸ ?_;rfl) g2,hc,v1.step (t1.rh.del (x:=x)).2⟩)
theorem qG: ∀(k:Nat),uV T B F X h (aq d k):=by
 intro l_;induction l_ with
 |zero=>exact @λz z z z z e z z=>ns e
 |succ k aG=>
  exact @λv v' H H' vv e R V=>by
   have ih:uV T B F X h (aq d k):=aG;have same: ∀{v:J},some (v,H)=some (v',H')->aE T F X H h v vv->mQ T B F X H H' h/\aE T F X H' h v' vv:=λe V=>by cases e;exact ⟨.refl R,V⟩
   cases v<;>first|exact ns e|exact same e V|skip
   ·refine aQ λcT k_1=>ay (Sz.mp e) λy e1 e=> ?_;clear same;cases e;obtain ⟨c,a,o,vs,ep,rfl,g1,g2,g3,g4,g5⟩:=V;exact g8 (DJ ih e1 R g5) λt1 v1 hlen=>k_1 (⟨t1,hlen▸c,a,o,vs,ep,rfl,g1,g2,g3,t1.st.fc (by refine (g1).symm▸ ?_;rfl) g4,v1⟩)
   ·exact ay (SV.mp e) λo ho e=>NN ih ho e R V
   ·refine aQ λJV k_2=> ?_;cases d with
    |false=>exact k_2 (same e V)
    |true=>exact ay (SV.mp e) λo ho e=>k_2 (MB ih ho e R V)
end
section
variable {K:Fn->List J->U->aA U J} {c:Cx} {n:Nat} {cv:J}
theorem zv (ok:c.Ok n) (hP: ∀a∈P,a∈c.F) (nb:(o.bind λx Y=>match aq d k x Y.hs with
 |some (v,hs)=>aA.ok v ⟨Y.ls,hs⟩
 |none=>.bad)≠.bad) (h:o≠.bad->fH c P cv c.A (aE c.T c.F) X H s m o):fH c P cv c.A (aE c.T c.F) X H s m (o.bind λx Y=>match aq d k x Y.hs with
 |some (v,hs)=>aA.ok v ⟨Y.ls,hs⟩
 |none=>.bad):=by
 refine aK (h (λz=>nb (((z).symm▸rfl)))) (λv s' r=> ?_) λe s' x=> ?_;·
  refine gH r λa σ' ι' G9 h2 h3 h4 h5=> ?_;clear h r;subst G9;dsimp only [aA.eT] at nb⊢;cases hf:aq d k a σ'.hs with
  |none=>replace nb:=(hf)▸nb;exact absurd rfl nb
  |some p=>obtain ⟨v',H'⟩:=p;obtain ⟨t,V⟩:=qG k hf h3.rh h2;exact d7 v' ⟨σ'.ls,H'⟩ ι' rfl V (h3.step ok t.rh t.st) (h4.trans (t.st.sub hP)) h5
 ·exact qF x λσ' ι' h1 h2 h3 h6 h4 h5=>rJ σ' ι' (by refine (h1).symm▸ ?_;rfl) h2 h3 h6 h4 h5
theorem GF (ok:c.Ok n) (ha:SE K c cv a x):SE K c cv (.freeze a) x:=by refine ⟨@λY X s I nb=> ?_⟩;exact zv ok (λz h=>h) nb λh=>ha.run I h
theorem CU (ok:c.Ok n) (ha:SE K c cv a x):SE K c cv (.cQ a) x:=by refine ⟨@λY X s I nb=> ?_⟩;exact zv ok (λz h=>h) nb λh=>ha.run I h
theorem E0 (ok:c.Ok n) (hb:c.cc.bi nm=some (.builtin "isinstance")) (hb2:c.cc.bi bn=some (.type "bool")) (hp:aN z=true) (ha:SE K c cv a z):SE K c cv (.isBool a) (.Call (.Name nm p) [z,.Name bn bp] [] q):=by
 refine ⟨@λY X s I nb=> ?_⟩;refine aj (av (l7 ok I hb ?_));have e0:bk K cv (.isBool a) Y=(bk K cv a Y).bind λx Y=>match x with
  | .bool _=>.ok (.bool true) Y
  |_=>.bad:=rfl;rw [e0] at nb⊢;have u6:[z,Expr.Name bn bp].all aN=true:=by have h1:aN z=true:=hp;simp [h1];rfl
 refine nV u6 ?_;rw [UT,spliced_cons];refine aj (aK (ha.run I (λz=>nb (by rw [z];rfl))) (λv s1 r=> ?_) λe s' x=> ?_);·
  refine gH r λx σ1 dY e1 V1 I1 S1 Re=> ?_;rw [e1] at nb⊢;clear r e1;cases x<;>first|exact absurd rfl nb|skip
  rename_i b0;subst V1;refine aj (ao ?_);refine aj (aD ?_);rw [UT,ab6,spliced_cons];refine aj (av (l7 ok I1 hb2 ?_));refine aj (ao ?_);refine aj (aD (m9 ?_));refine ao (ao ⟨(aH .machine (.inr rfl) (UJ rfl)),?_⟩);have:=bX ok I1 (r:=.bool true) λQ k=>E7 (b:=b0) I1.rh k;exact aK this (λy y r=>r.older S1 Re) λy y x=>x.older S1 Re λy e=>e
 ·exact dM x λσ' ι' h1 h2=>gv σ' ι' (by rw [h1];rfl) h2
end
theorem nB {id:String} (ok:OS (.builtin id args)=true) (hb:entryFor table id=some b) (h:dH (model prog w) (A.under (.builtin id args)) (b args) (λfin s'=>match fin with
 | .done f=>R (.ok f) s'
 | .again c'=>c'.quiet=true/\cW (model prog w) A c' R s') (λe s'=>R (.error e) s') s):cW (model prog w) A (.builtin id args) R s:=by
 refine bB ok ((?_:dH _ _ (match entryFor table id with
  |some b=>b args
  |none=>unsupported ((withoutEnding? id "#data").getD id)) _ _ s));exact (hb).symm▸(h)
theorem fQ {id:String} (ok:OS (.builtin id args)=true) (hq:(Code.builtin id args).quiet=true) (hb:entryFor table id=some b) (h:dH (model prog w) A.in1 (checkBuiltinCall id args) (λz s₁=>dH (model prog w) (A.under (.builtin id args)) (b args) (λfin s'=>match fin with
 | .done f=>R (.ok f) s'
 | .again c'=>c'.quiet=true/\cW (model prog w) A c' R s') (λe s'=>R (.error e) s') s₁) (λe s'=>R (.error e) s') s):cW (model prog w) A (.call (.builtin id) args) R s:=by refine bB rfl ?_;exact aj (cJ h λz s₁ h₁=>ao (Xj hq (nB ok hb h₁)))
section
theorem NJ (σ:Makes (model prog w) s.heap C) (h:dH (model prog w) (A.under (.builtin "type.__call__" ⟨.ref C::rest,[]⟩)) (Builtin.«type.__call__» ⟨.ref C::rest,[]⟩) (λfin s'=>match fin with
 | .done f=>R (.ok f) s'
 | .again c'=>c'.quiet=true/\cW (model prog w) A c' R s') (λe s'=>R (.error e) s') s):cW (model prog w) A (.call (.ref C) ⟨rest,[]⟩) R s:=by refine aQ λcT k_1=> ?_;obtain ⟨⟨oc,od,cd,sl,hC,e1,e2,e4⟩,made,base,self,top,call,typ⟩:=σ;refine k_1 (bB rfl ?_);refine aj (av (VZ hC ?_));refine aj (av (call.here ?_));dsimp only;rw [tc_bind];refine aj (ao (aj (ao ?_)));refine ao (a:=Fin.again (.call (.builtin "type.__call__") ⟨.ref C::rest,[]⟩)) (Xj rfl ?_);refine fQ (by refine (?_:(!qX.contains "type.__call__")=true);decide+kernel) (ZL _ (by decide+kernel)) entry_typeCall ?_;exact av (check_slot tc_kind tc_split typ (tc_args _ _ _) h)
theorem IA (σ:Makes (model prog w) s.heap C) (hi:Xf (model prog w) s.heap (typeLookup (.ref C) "__init__") (some init)) (hb: ∀self,Xf (model prog w) s.heap (bindSpecial init self) (init,[self])) (hne:(some init != some (V8 "object.__init__"))=true∨rest=[]) (hq:cW (model prog w) (A.under (.builtin "type.__call__" ⟨.ref C::rest,[]⟩)) (.call init ⟨.ref (s.heap.objs.size+1)::rest,[]⟩) (InitBack (s.heap.objs.size+1) R) {s with heap:=(s.heap.push emptyDict).push (instObj C s.heap.objs.size)}):cW (model prog w) A (.call (.ref C) ⟨rest,[]⟩) R s:=by
 refine NJ σ (aQ λcT k_1=> ?_);obtain ⟨h,g,d,t,os⟩:=s;dsimp only at σ hi hb hq⊢;have Y':=σ;obtain ⟨⟨oc,od,cd,sl,hC,e1,e2,e4⟩,made,base,self,top,call,typ⟩:=σ;have k: ∀b o,h.get? b=some o->((h.push emptyDict).push (instObj C h.objs.size)).get? b=some o:=λb o e=>SK _ (SK _ e);have hx:((h.push emptyDict).push (instObj C h.objs.size)).get? (h.objs.size+1)=some (instObj C h.objs.size):=by heap_get
 have t1:Xf (model prog w) ((h.push emptyDict).push (instObj C h.objs.size)) (typeOf (.ref (h.objs.size+1))) (.ref C):=(XC hx).andThen .now;have tail:dH (model prog w) (A.under (.builtin "type.__call__" ⟨.ref C::rest,[]⟩)) (Xb [V8 "object.__new__"] (PySem.call (.builtin "object.__new__") (.ref C::rest) [])>>=λobj=>do
  if !(<-isInstance obj (.ref C)) then
   rule "type.call.new-gave-other-type";
   return<-ret obj
  match<-Xb [obj] (callSpecial? obj "__init__" rest []) with
   |none=>ret obj
   |some r=>
    if r != .none then
     rule "type.call.init-returned-value"
     raiseError "TypeError" s!"__init__() should return None, not '{<-typeNameOf r}'"
    ret obj) (λfin s'=>match fin with
  | .done f=>R (.ok f) s'
  | .again c'=>c'.quiet=true/\cW (model prog w) A c' R s') (λe s'=>R (.error e) s') ⟨h,g,d,t,os⟩:=by
  refine aj (aD (av (wpAny_call (new_K Y' hi (hne.imp id λe=>⟨e,rfl⟩) ?_))));refine aj (av ((t1.andThen (self.keeps k):Xf (model prog w) ((h.push emptyDict).push (instObj C h.objs.size)) (isInstance (.ref (h.objs.size+1)) (.ref C)) true).at ?_));refine aj (aD ?_);refine aj (av ((t1.andThen (hi.keeps k)).at ?_));refine aD (aj (av (((hb (.ref (h.objs.size+1))).keeps k).at ?_)));refine aj (ia (cM hq λr s' z=> ?_));cases r with
  |error e=>exact z
  |ok fl=>
   cases fl with
   |ret v=>obtain ⟨rfl,z⟩:=z;exact ao (ao z)
   |_=>exact z.elim
 refine k_1 (aj (av ((((XC (part:=none) hC).andThen .now).andThen .now:Xf (model prog w) h (mroOf (.ref C)) cd.mro).at ?_)));refine (e4).symm▸(aj (av (made.at ?_)));refine aj (ao ?_);exact tail
end
section
variable {K:Fn->List J->U->aA U J} {c:Cx} {n:Nat} {cv:J}
theorem IG {T B F X H} {h:Vr} (R:RH T B F X H h) (C:Cl): ∃ι',ι' H.n=h.objs.size/\RH T B F ι' (H.new (.cj [])) ((h.push emptyDict).push (instObj (T.cl C) h.objs.size))/\Step F F X H h ι' (H.new (.cj [])) ((h.push emptyDict).push (instObj (T.cl C) h.objs.size))/\aE T F ι' (H.new (.cj [])) ((h.push emptyDict).push (instObj (T.cl C) h.objs.size)) (.aI C H.n) (.ref (h.objs.size+1)):=by
 have g2:((h.push emptyDict).push (instObj (T.cl C) h.objs.size)).get? (h.objs.size+1)=some (instObj (T.cl C) h.objs.size):=by have:=TN (h.push emptyDict) (o:=instObj (T.cl C) h.objs.size) rfl;rwa [VT] at this
 have f2:h.get? (h.objs.size+1)=none:=Wa (by exact (Ln.n1 0x50a221000));refine fY (R.new (a:=h.objs.size) (o:=.cj []) (λb o e=>SK _ (SK _ e)) eU λι' H' S=>by exact gv ([]) 0 (SK _ (TN _ rfl):((h.push emptyDict).push (instObj (T.cl C) h.objs.size)).get? h.objs.size=some (dictOf [] 0)) trivial) λι' e R' S=> ?_;refine vD ι' e R' S ?_;refine vD _ rfl (by exact (e).symm▸(g2)) ?_ (SQ _);rintro (q|⟨y,q,z⟩);·obtain ⟨_,o,ho⟩:=R.fr _ q;replace ho:=(f2)▸ho;cases ho
 ·rw [U.abq] at q;by_cases w:y=H.n;·clear q;subst w;rw [e] at z;exact (Ym _ z.symm).elim
  ·replace q:=(if_neg w)▸q;replace z:=(S.ext y (rK.lt R q))▸z;have:=R.there q;replace this:=(z)▸this;replace this:=(f2)▸this;cases this
theorem yT {A:Wc} {C:Um} {rest:List Te}:(A.under (.builtin "type.__call__" ⟨.ref C::rest,[]⟩)).frames=A.frames/\(A.under (.builtin "type.__call__" ⟨.ref C::rest,[]⟩)).handled=A.handled/\(A.under (.builtin "type.__call__" ⟨.ref C::rest,[]⟩)).depth=A.depth+1/\(A.under (.builtin "type.__call__" ⟨.ref C::rest,[]⟩)).units=A.units+1:=by refine ⟨?_,rfl,rfl,rfl⟩;simp [Around.under,Code.envs,Code.isFrame,pushEnvs]
theorem Hy (ok:c.Ok n) (call:gw c.T c.B K n) {X Y s} (I:Inv c cv X Y s) {C:Cl} {as:List J} {vs:List Te} (V:aB c.T c.F X Y.hs s.heap as vs) {o:aA St J} (ho:o=(match (generalizing:=false) jS C with
 |some f=>(gM K f (.aI C Y.hs.n::as) ⟨Y.ls,Y.hs.new (.cj [])⟩).bind λv σ'=>match (generalizing:=false) v with
  | .none=>.ok (.aI C Y.hs.n) σ'
  |_=>.bad
 |none=>match (generalizing:=false) as with
  |[]=>if C=(.of 1) then .ok (.aI C Y.hs.n) ⟨Y.ls,Y.hs.new (.cj [])⟩ else .bad
  |_=>.bad)) (nb:o≠.bad):fH c c.F cv c.A (aE c.T c.F) X Y.hs s (PySem.call (.ref (c.T.cl C)) vs) o:=by
 refine qS (IG I.rh C) λdY e1 R1 S1 V1=> ?_;let s1:Tz:={s with heap:=(s.heap.push emptyDict).push (instObj (c.T.cl C) s.heap.objs.size)};have I1:Inv c cv dY ⟨Y.ls,Y.hs.new (.cj [])⟩ s1:=I.step ok R1 S1;have wY:Rest s s1:=⟨rfl,rfl⟩;have ι:=I.wJ ok;cases hi:jS C with
 |some f=>
  replace ho:=(hi)▸ho;dsimp only at ho;refine aQ λcT k_1=>g8 (ok.wf.own C f hi) λm1 m2 m3=> ?_;have no:K f (.aI C Y.hs.n::as) (Y.hs.new (.cj []))≠.bad:=λz=>nb (by rw [ho];unfold gM;refine (z).symm▸ ?_;rfl);refine rP (@yT c.A (c.T.cl C) vs) λu1 u2 u3 u4=>k_1 (ia (IA (makes_of ι m1) (looks_findIn ι m2) (λself=>bind_fn ι self m3) (.inl rfl) (cM (call c.F c.fr _ dY (Y.hs.new (.cj [])) s1 f (.aI C Y.hs.n::as) (.ref (s.heap.objs.size+1)::vs) (u2.trans ok.handled) (u1.trans ok.frames) ok.yv (by refine (u3).symm▸ ?_;have:=ok.depth;exact (Ln.n3 0x61408a22c28c048a0a22101408a22e28c048a00) this) (by refine (u4).symm▸ ?_;have:=ok.units;exact (Ln.n3 0x61408a22c8ca30122888a22101408a22094a301228880) this) ok.wf R1 I1.kN ⟨V1,V.step S1⟩ no) λr s' h=> ?_)));cases r with
  |error e=>refine Gk h λH' ι' h1 h2 h3 h4 h5=>IS.older S1 wY (o:=o) (rJ ⟨Y.ls,H'⟩ ι' (by rw [ho];unfold gM;refine (h1).symm▸ ?_;rfl) h2 h3 (I1.step ok h3 h4) h4 h5) λy e=>e
  |ok fl=>
   refine aQ λJV k_2=> ?_;cases fl with
   |ret v=>
    refine gH h λa H' ι' h1 h2 h3 h4 h5=> ?_;have e2:o=(match (generalizing:=false) a with
     | .none=>.ok (.aI C Y.hs.n) ⟨Y.ls,H'⟩
     |_=>.bad):=by rw [ho];unfold gM;refine (h1).symm▸ ?_;rfl
    clear h1;cases a<;>first|exact absurd e2 nb|skip
    refine k_2 (⟨h2,?_⟩);exact Res.older S1 wY (d7 _ _ ι' e2 (V1.step h4) (I1.step ok h3 h4) h4 h5)
   |_=>exact h.elim
 |none=>
  rw [hi] at ho;dsimp only at ho;cases as with
  |cons _ _=>exact absurd ho nb
  |nil=>
   cases vs with
   |cons _ _=>exact V.elim
   |nil=>
    dsimp only at ho;by_cases hC:C=(.of 1);·
     rw [if_pos hC] at ho;subst hC;obtain ⟨m1,m2⟩:=ok.wf.tN;have σ:=makes_of (M:=model c.T.prog c.T.w) ι m1;refine ia (IA σ (looks_findIn ι m2) (λself=>UJ (oi_bind self)) (.inr rfl) (Fj ?_));have g2:s1.heap.get? (s.heap.objs.size+1)=some (instObj (c.T.cl (.of 1)) s.heap.objs.size):=by have:=TN (s.heap.push emptyDict) (o:=instObj (c.T.cl (.of 1)) s.heap.objs.size) rfl;rwa [VT] at this
     refine codeAny_call_builtin oi_plain entry_oi (@check_slot (model c.T.prog c.T.w) _ _ s1 "object.__init__" "object" "__init__" (.ref (s.heap.objs.size+1)) [] [] _ oi_kind oi_split (((XC g2).andThen .now).andThen (σ.top.keeps λb o e=>SK _ (SK _ e))) (oi_args (.ref (s.heap.objs.size+1))) ?_);rw [oi_run];refine SN (Xj rfl ?_);exact Res.older S1 wY (d7 _ _ dY ho V1 I1 (Step.refl' R1) Rest.refl)
    ·rw [if_neg hC] at ho;exact absurd ho nb
theorem P7 (ok:c.Ok n) (call:gw c.T c.B K n) {C:Cl} {l:ir} {nm:Str} {xs:List UI} {p q:Pos} (ht:c.cc.top nm=some (.ref (c.T.cl C))) (hp:xs.all aN=true) (hl:iW (SE K c cv) l xs):SE K c cv (.new C l) (.Call (.Name nm p) xs [] q):=by refine ⟨@λY X s I nb=> ?_⟩;refine aj (av (lJ ok I ht ?_));exact gb ok hp hl (yx (ok.wf.Oz C)) I nb λas σ' ι' vs s' e1 ck S1 V1 I1=>Hy ok call I1 V1 rfl ck
theorem q8 {α β:Type} (ok:c.Ok n) {X Y s} (I:Inv c cv X Y s) {x:Nat} {o:gm} {m:Sem β} {r:α} {rel:(Nat->Um)->U->Vr->α->β->Prop} {aan :Unit->Tz->Prop} (h: ∀Q:Tz->Prop,(∀s',RH c.T c.B c.F X (Y.hs.set x o) s'.heap->Step c.F c.F X Y.hs s.heap X (Y.hs.set x o) s'.heap->Rest s s'->Q s')->dH (model c.T.prog c.T.w) c.A m (λb s'=>rel X (Y.hs.set x o) s'.heap r b/\Q s') (IS c c.F cv X Y.hs s (.ok r ⟨Y.ls,Y.hs.set x o⟩:aA St α)) s):fH c c.F cv c.A rel X Y.hs s m (.ok r ⟨Y.ls,Y.hs.set x o⟩):=cJ (h (λs'=>RH c.T c.B c.F X (Y.hs.set x o) s'.heap/\Step c.F c.F X Y.hs s.heap X (Y.hs.set x o) s'.heap/\Rest s s') λs' R S Re=>⟨R,S,Re⟩) λz z q=>(d7 r _ X rfl q.1 (I.step ok q.2.1 q.2.2.1) q.2.2.1 q.2.2.2)
end
namespace J0
theorem rR:typeLookup (.type "bytearray") "__getattribute__"=pure (some (.builtin "bytearray.__getattribute__")):=by rw [typeLookup_type,builtinLookup_eq_fast];kernel_rfl
theorem Jg:(Y4 "bytearray.__getattribute__" != "object.__getattribute__")=false:=by decide+kernel
theorem vJ:typeLookup (.type "bytearray") "__getattr__"=pure none:=by rw [typeLookup_type,builtinLookup_eq_fast];kernel_rfl
theorem tB:typeOf (.builtin "bytearray.append")=pure (.type "method_descriptor"):=by show builtinType _=_;rw [builtinType_eq_fast];kernel_rfl
theorem sF:Slot "bytearray" "append" "bytearray.append":=Slot.of (T:="bytearray") (name:="append") (owner:="bytearray") (n:="append") (by rw [typeLookup_type,builtinLookup_eq_fast];kernel_rfl) (by decide+kernel) (by decide+kernel) (by decide+kernel) (by first|exact .inl (by decide+kernel)|exact .inr (by decide+kernel)) (by rw [isSubtype_type];kernel_rfl)
theorem IC:entryFor table "bytearray.append"=some Builtin.«bytearray.append»:=entryFor_of_tree (by kernel_rfl)
theorem NK (a b:Te):argsOk "bytearray.append" ⟨[a,b],[]⟩:=by kernel_rfl
end J0
section
theorem kZ (ho:s.heap.get? l=some o) (hc:o.cls=.type "bytearray") (hd:o.dict=none) (h:Q (.builtin "bytearray.append",[.ref l]) s):wpAny M A (getMethod (.ref l) "append" pl) Q E s:=by have hT:s.TypeIs (.ref l) "bytearray":=(aH o ho hc);refine Sw (U8 hT J0.rR ?_);refine (?_:wpAny M A (if (Y4 "bytearray.__getattribute__" != "object.__getattribute__")=true then _ else _) Q E s);refine (J0.Jg).symm▸((if_neg ZM).symm▸ ?_);refine Sw (U8 hT J0.vJ ?_);refine Sw (U8 hT J0.sF.lookup ?_);refine Sw (Ud J0.tB ?_);refine Sw (VZ ho ?_);exact (hd).symm▸(Sw (WS (SN h)))
end
section
theorem AJ (hd:o.data=.bytearray b n) (f:Array UInt8->Array UInt8):(Vb f o).data=.bytearray (f b) n/\(Vb f o).cls=o.cls/\(Vb f o).dict=o.dict:=by obtain ⟨c,d,dt,sl⟩:=o;subst hd;exact ⟨rfl,rfl,rfl⟩
theorem Bo {o:Obj} (h:o.data=.bytearray b n):o.isFreed=false:=by obtain ⟨c,d,dt,sl⟩:=o;subst h;rfl
theorem vY (R:RH T B F X H s.heap) (hx:H.h x=some (.bar b)) (h0:0<=i) (h1:i<256) (hl:b.length<4096) (k:pC T B F X H s x (.bar (b++[SH i.toNat])) λy=>Q .none):dH (model T.prog T.w) A (PySem.call (.builtin "bytearray.append") [.ref (X x),.int i t]) Q E s:=by
 have hcap:cap=65536:=rfl;have:=R.obj x _ hx;refine aQ λcT k_1=> ?_;obtain ⟨c,o,g1,g2,g3,g4⟩:=this;refine k_1 (ia (fQ (by refine (?_:(!qX.contains "bytearray.append")=true);decide+kernel) (plainId_quiet J0.sF.plain _) J0.IC (av (J0.sF.check _ _ _ _ _ _ _ _ ((aH o g1 g2)) (J0.NK _ _) ?_))));refine (VY J0.sF.plain _).symm▸ ?_;refine (?_:dH _ _ (do
  let c<-Builtin.Bytes.byteValue (.int i t)
  Builtin.Bytes.checkResize (.ref (X x))
  Builtin.Bytes.write (.ref (X x)) (·.push c)
  ret .none) _ _ s);refine aj (av ?_);refine Sw (Ud (a:=i) rfl ?_);have hr: ¬((decide (i<0)||decide (i>=256))=true):=by simp;exact (Ln.z [] [_] 0x186194c8820840540213220821015008) h0 h1
 refine (if_neg hr).symm▸(SN ?_);refine aj ?_;refine aj (aj (pD ?_));refine aj (av (Sw (VZ g1 ?_)));refine (g3).symm▸(SN ?_);refine ao ?_;rw [if_neg (by decide)];refine ao (aj (av ?_));refine Sw (VZ g1 ?_);rw [g3];refine Sw (wpAny_update g1 ?_);refine g8 (AJ g3 (·.push i.toNat.toUInt8)) λd1 d2 d3=> ?_;have g5:(s.heap.update (X x) (Vb (·.push i.toNat.toUInt8))).get? (X x)=some (Vb (·.push i.toNat.toUInt8) o):=Vq _ g1 (Bo d1);obtain ⟨R',S⟩:=R.set (x:=x) (o:=.bar (b++[SH i.toNat])) (h':=s.heap.update (X x) (Vb (·.push i.toNat.toUInt8))) (by refine (hx).symm▸ ?_;rfl) (λa o q e=>(Uc (UO _ _ (WQ q)) (e))) (by refine (g5).symm▸ ?_;rfl) λS=>by refine ⟨by rw [Sq];simp;exact (Ln.n2 0x1861404a221016220820821052220820840) hl hcap,_,g5,d2.trans g2,?_,d3.trans g4⟩;rw [d1];simp
 exact YL g5 (by rw [d1];unfold Data.pastItsLine;simp [sizeLine_eq];exact (Ln.n1 0x18508befbefbef012220820840) hl) (ao (k _ R' S ⟨rfl,rfl⟩))
end
section
variable {K:Fn->List J->U->aA U J} {c:Cx} {n:Nat} {cv:J}
noncomputable def Dg (x:Nat) (v:J) (Y:St):aA St J:=match Y.hs.h x with
 |some (.O l)=>if l.length<4096 then .ok .none ⟨Y.ls,Y.hs.set x (.O (l++[v]))⟩ else .bad
 |_=>.bad
noncomputable def Dk (x:Nat) (v:J) (Y:St):aA St J:=match Y.hs.h x,v with
 |some (.bar b),.int i=>if 0<=i/\i<256/\b.length<4096 then .ok .none ⟨Y.ls,Y.hs.set x (.bar (b++[SH i.toNat]))⟩ else .bad
 |_,_=>.bad
noncomputable def CT (o:aA St J) (x:Nat) (c:Option gm):aA St J:=match c with
 |some (.O _)=>o.bind (Dg x)
 |some (.bar _)=>o.bind (Dk x)
 |_=>.bad
theorem Kx {α:Type} [Decidable p] {o:aA St α} {M:aA St α->Prop} (nb:(if p then o else .bad)≠.bad) (k:p->M o):M (if p then o else .bad):=by
 by_cases z:p;·rw [if_pos z];exact k z
 ·rw [if_neg z] at nb;exact absurd rfl nb
theorem Kr {M:aA St J->Prop} (nb:Dg x v Y≠.bad) (k: ∀l,Y.hs.h x=some (.O l)->l.length<4096->M (.ok .none ⟨Y.ls,Y.hs.set x (.O (l++[v]))⟩)):M (Dg x v Y):=by unfold Dg at nb⊢;rcases h:Y.hs.h x with _|_|_|_|_<;>rw [h] at nb<;>first|exact absurd rfl nb|exact Kx nb (k _ h)
theorem JS {M:J->aA St J->Prop} (nb:Dk x v Y≠.bad) (k: ∀b i,Y.hs.h x=some (.bar b)->0<=i/\i<256/\b.length<4096->M (.int i) (.ok .none ⟨Y.ls,Y.hs.set x (.bar (b++[SH i.toNat]))⟩)):M v (Dk x v Y):=by
 unfold Dk at nb⊢;rcases h:Y.hs.h x with _|_|_|_|_<;>rw [h] at nb<;>first|exact absurd rfl nb|skip
 cases v<;>first|exact absurd rfl nb|exact Kx (M:=M _) nb (k _ _ h)
theorem E4 (ok:c.Ok n) (hs:jO y=true) (hp:aN z=true) (hq:(p.endLine==q.line)=true) (ho:SE K c cv o y) (he:SE K c cv e z):SE K c cv (.append o e) (.Call (.Attribute y "append" p) [z] [] q):=by
 refine ⟨@λY X s I nb=> ?_⟩;rw [arm_eval_Call,fk hs];have u6:[z].all aN=true:=by refine (?_:(aN z&&true)=true);rw [hp];rfl
 have hpos:methodCallPos true y c.env p q=pure q:=by unfold methodCallPos;simp [hq]
 refine aC nb (ho.run I) λx σ1 dY v s1 ck S1 V1 I1=>az ?_;cases x<;>first|exact absurd rfl ck|skip
 rename_i x;obtain ⟨rfl,hxn⟩:=V1;unfold methodCall;refine (Bs u6 (by refine (?_:1<30);decide)).symm▸ ?_;change CT (bk K cv e σ1) x (σ1.hs.h x)≠.bad at ck;refine (?_:fH c c.F cv c.A _ dY σ1.hs s1 _ (CT (bk K cv e σ1) x (σ1.hs.h x)));rcases h1:σ1.hs.h x with _|ob;·rw [h1] at ck;exact absurd rfl ck
 rw [h1] at ck;have ho:=I1.rh.obj x _ h1;refine aQ λcT k_1=> ?_;clear h1;cases ob<;>first|exact absurd rfl ck|skip
 ·obtain ⟨_,ob,_,_,g1,g2,_,_,g4⟩:=ho;refine k_1 (aj (aD (av (Calls.getMethod_list_append g1 g2 g4 ?_))));refine aj (hpos.symm▸ao ?_);change (bk K cv e σ1).bind (Dg x)≠.bad at ck;refine (?_:fH c c.F cv c.A _ dY σ1.hs s1 (callWith q (.builtin "list.append") [.ref (dY x)] (backTo q (starEach [z] c.env)) []) ((bk K cv e σ1).bind (Dg x)));rw [xY] at ck⊢;exact gb ok u6 ⟨he,trivial⟩ jf I1 ck λas σ' ι' vs s' e1 kK S2 V2 I2=>Dq (M:=λo vs=>fH c c.F cv c.A _ ι' σ'.hs s' (call (.builtin "list.append") ([.ref (dY x)]++vs)) o) V2 kK λw ww V2 kK=>Kr (M:=λo=>fH c c.F cv c.A _ ι' σ'.hs s' (call (.builtin "list.append") ([.ref (dY x)]++[ww])) o) kK λl hl hlen=>(S2.ext x hxn)▸(q8 (aan :=λu u=>True) ok I2 λQ k=>av (uf I2.rh hl hlen V2 λs'' R S Re=>⟨rfl,k s'' R S Re⟩))
 ·obtain ⟨_,ob,g1,g2,_,g4⟩:=ho;refine k_1 (aj (aD (av (kZ g1 g2 g4 ?_))));refine aj (hpos.symm▸ao ?_);change (bk K cv e σ1).bind (Dk x)≠.bad at ck;refine (?_:fH c c.F cv c.A _ dY σ1.hs s1 (callWith q (.builtin "bytearray.append") [.ref (dY x)] (backTo q (starEach [z] c.env)) []) ((bk K cv e σ1).bind (Dk x)));rw [xY] at ck⊢;refine gb ok u6 ⟨he,trivial⟩ jf I1 ck λas σ' ι' vs s' e1 kK S2 V2 I2=>Dq (M:=λo vs=>fH c c.F cv c.A _ ι' σ'.hs s' (call (.builtin "bytearray.append") ([.ref (dY x)]++vs)) o) V2 kK λw ww V2 kK=>JS (M:=λw o=>aE c.T c.F ι' σ'.hs s'.heap w ww->fH c c.F cv c.A _ ι' σ'.hs s' (call (.builtin "bytearray.append") ([.ref (dY x)]++[ww])) o) kK (λb i hl hh V2=> ?_) V2;refine (S2.ext x hxn)▸ ?_;obtain ⟨t,rfl⟩:=V2;exact q8 (aan :=λu u=>True) ok I2 λQ k=>vY I2.rh hl hh.1 hh.2.1 hh.2.2 λs'' R S Re=>⟨rfl,k s'' R S Re⟩
end
namespace vz
theorem mro:mroOf (.type "bytearray")=pure [.type "bytearray",.type "object"]:=by rw [mroOf_type];kernel_rfl
theorem De:typeLookup (.type "bytearray") "__new__"=pure (some (.builtin "bytearray.__new__")):=by rw [typeLookup_type,builtinLookup_eq_fast];kernel_rfl
theorem iN:Slot "bytearray" "__init__" "bytearray.__init__":=.of (owner:="bytearray") (n:="__init__") (by rw [typeLookup_type,builtinLookup_eq_fast];kernel_rfl) (by decide+kernel) (by decide+kernel) (by decide+kernel) (by first|exact .inl (by decide+kernel)|exact .inr (by decide+kernel)) (by rw [isSubtype_type];kernel_rfl)
theorem called:TypeCalled "bytearray" "bytearray.__new__" "bytearray.__init__":=⟨by decide+kernel,by decide+kernel,(BX _ _ mro),madeBy_type mro De (by decide+kernel),by decide+kernel,by rw [isSubtype_type];kernel_rfl,iN⟩
theorem typeCall:checkTypeCall "bytearray" ⟨[],[]⟩=pure ():=by kernel_rfl
theorem Np:checkBuiltinCall "bytearray.__new__" ⟨[.type "bytearray"],[]⟩=pure ():=by kernel_rfl
theorem GC:entryFor table "bytearray.__new__"=some Builtin.«list.__new__»:=entryFor_alias (id':="list.__new__") (by rw [fastTable_eq_tree];kernel_rfl) (by decide+kernel) (by decide+kernel) (by rw [fastTable_eq_tree];kernel_rfl)
theorem wG:plainId "bytearray.__new__"=true:=by decide+kernel
theorem Df:entryFor table "bytearray.__init__"=some Builtin.«bytearray.__init__»:=entryFor_of_tree (by kernel_rfl)
theorem GA (a:Te):argsOk "bytearray.__init__" ⟨[a],[]⟩:=by kernel_rfl
set_option maxRecDepth 1000000 in set_option maxHeartbeats 4000000 in theorem FG:("bytearray.__new__".splitOn ".__new__").headD ""="bytearray":=by simp+decide [String.splitOn,String.splitOnAux]
theorem sub_self:isSubtype (.type "bytearray") (.type "bytearray")=pure true:=by rw [isSubtype_type];kernel_rfl
theorem LY:Builtin.Bytes.bindOptional "bytearray.__init__" "bytearray" ["source","encoding","errors"] [] []=pure [none,none,none]:=by kernel_rfl
end vz
section
theorem yQ (h:Q₁ (.ref s.heap.objs.size) {s with heap:=s.heap.push {cls:=.type "bytearray",data:=.bytearray #[]}}):codeAny (model prog w) A (.call (.builtin "bytearray.__new__") ⟨[.type "bytearray"],[]⟩) (wants Q₁ E) s:=by refine codeAny_of_tree ?_;refine Sw (Ud vz.Np (SN ⟨plainId_quiet vz.wG _,codeAny_builtin_stack vz.GC rfl λp st=> ?_⟩));refine (VY vz.wG _).symm▸ ?_;have hsub:=vz.sub_self;obtain ⟨hp,g,d,tk,os⟩:=s;simp only [(vz.FG)];wp_walk;exact h
noncomputable abbrev AB:Obj:={cls:=.type "bytearray",data:=.bytearray #[]}
theorem BY (ho:s.heap.get? a=some AB) (h:R (.ok (.ret .none)) {s with heap:=s.heap.update a (Vb λy=> #[])}):cW (model prog w) A (.call (.builtin "bytearray.__init__") ⟨[.ref a],[]⟩) R s:=by
 refine fQ (by refine (?_:(!qX.contains "bytearray.__init__")=true);decide+kernel) (plainId_quiet vz.iN.plain _) vz.Df (av (vz.iN.check _ _ _ _ _ _ _ _ ((aH _ ho rfl)) (vz.GA _) ?_));refine (VY vz.iN.plain _).symm▸ ?_;obtain ⟨hp,g,d,tk,os⟩:=s;dsimp only at ho;have L0:Xf (model prog w) hp (typeOf (.ref a)) (.type "bytearray"):=(XC ho).andThen .now;have L5:Xf (model prog w) hp (Builtin.Bytes.ownRelease (.ref a)) false:=by
  refine YR (a:=true) ((L0.andThen (UJ O8.uY)).andThen ?_) .now;dsimp only;split;·rename_i hz;exact absurd hz (by decide+kernel)
  ·exact (λz hz=>by exact (hz).symm▸((L0.andThen (UJ (by rw [isSubtype_type];kernel_rfl)))): ∀z:String,z="bytearray"->Xf (model prog w) hp (isInstance (.ref a) (.type z)) true) _ (by decide+kernel)
 refine aj (av (L5.at ?_));rw [if_neg (by decide)];refine aj ((vz.LY).symm▸ ?_);refine ao (aj (ao (aj (ao ?_))));refine aj (aj (pD ?_));refine aj (av (Sw (VZ ho ?_)));refine SN (ao ?_);rw [if_neg (by decide)];refine aj (av ?_);refine Sw (VZ ho ?_);refine Sw (wpAny_update ho ?_);refine YL (o:=Vb (λy=> #[]) AB) (Vq _ ho rfl) rfl ?_;first|exact ao h|exact aj (ao (ao h))|exact aj (aj (ao (ao (ao h))))|exact aj (aj (ao (ao h)))
theorem Cb (h: ∀h',h'.get? s.heap.objs.size=some AB->(∀b o,s.heap.get? b=some o->h'.get? b=some o)->Q (.ref s.heap.objs.size) {s with heap:=h'}):dH (model prog w) A (PySem.call (.type "bytearray") []) Q E s:=by
 refine ia (bB rfl ?_);refine ao ⟨ZL _ (by decide+kernel),nB (by decide+kernel) PySem.F.entry_type_call ?_⟩;refine (Around.under_plain (weight_type_call_type "bytearray" [] []) rfl).symm▸ ?_;unfold Builtin.«type.__call__»;have iff: ∀{α:Type} {M:Y3} {A:Wc} {E:Te->Tz->Prop} {s:Tz} {c:Bool} {a b:Sem α} {Q:α->Tz->Prop},c=false->dH M A b Q E s->dH M A (if c=true then a else b) Q E s:=λhc h=>by subst hc;exact h
 refine iff vz.called.notType (iff vz.called.canCreate ?_);refine (vz.typeCall).symm▸(aj (ao ?_));obtain ⟨hp,g,d,tk,os⟩:=s;refine (vz.mro).symm▸((vz.called.made).symm▸ ?_);refine aj (ao ?_);refine iff rfl (aj (ao ?_));refine aj (ao ?_);refine aj (aD (av (wpAny_call (codeAny_mono (yQ (E:=λe s'=>E e s') (Q₁:=λv s'=>v=.ref hp.objs.size/\s'=⟨hp.push {cls:=.type "bytearray",data:=.bytearray #[]},g,d,tk,os⟩) ⟨rfl,rfl⟩) λr s' z=> ?_))));cases r with
 |error e=>exact z
 |ok fl=>
  cases fl with
  |ret v=>obtain ⟨rfl,rfl⟩:=z;have ho:(hp.push AB).get? hp.objs.size=some AB:=TN _ rfl;have L0:Xf (model prog w) (hp.push AB) (typeOf (.ref hp.objs.size)) (.type "bytearray"):=(XC ho).andThen .now;refine aj (av ((L0.andThen (UJ vz.sub_self):Xf (model prog w) (hp.push AB) (isInstance (.ref hp.objs.size) (.type "bytearray")) true).at ?_));refine iff rfl (aj (aD ?_));refine aj (av ((L0.andThen (UJ vz.iN.lookup)).at ?_));refine aD ?_;rw [vz.iN.bind];refine aj (ao ?_);refine aj (ia (BY (s:=⟨hp.push AB,g,d,tk,os⟩) ho ?_));refine ao (iff rfl ?_);refine ao (h _ (Vq _ ho rfl) λb o e=> ?_);rw [UO _ _ (WQ (SY (Ur e)))];exact SK _ e
  |_=>exact z.elim
end
section
variable {K:Fn->List J->U->aA U J} {c:Cx} {n:Nat} {cv:J}
theorem Iw (ok:c.Ok n) (hb:c.cc.bi nm=some (.type "bytearray")):SE K c cv .q7 (.Call (.Name nm p) [] [] q):=by refine ⟨@λY X s I nb=> ?_⟩;refine aj (av (l7 ok I hb ?_));refine nV rfl (m9 ⟨⟨.machine,.inr rfl,UJ rfl⟩,?_⟩);refine Cb λh' g k=> ?_;refine fY (I.rh.new (h':=h') (a:=s.heap.objs.size) (o:=.bar []) k eU λι' H' S=>by exact ⟨Tq _,_,g,rfl,rfl,rfl⟩) λι' e R' S=> ?_;refine d7 _ ⟨Y.ls,Y.hs.new (.bar [])⟩ ι' rfl ?_ (I.step (s':={s with heap:=h'}) ok R' S) S ⟨rfl,rfl⟩;exact ⟨by rw [e],SQ _⟩
end
section
theorem rK.more (q:rK F X H a):rK (N++F) X H a:=q.imp (S9 _) id
theorem RH.enter (R:RH T B F X H h) (k: ∀b o,h.get? b=some o->h1.get? b=some o) (fresh: ∀a∈N,h.get? a=none/\(h1.get? a).isSome=true):RH T B (N++F) X H h1/\Carry F X H h (N++F) X H h1:=by
 have C:Carry F X H h (N++F) X H h1:=by
  refine ⟨λa o e y n=>⟨k a o e,?_⟩,λy y=>rfl,Sv _⟩;rintro (q|q);·
   rcases SW.mp q with q|q;·replace e:=((fresh a q).1)▸e;cases e
   ·exact n (.inl q)
  ·exact n (.inr q)
 refine ⟨⟨λb o e=>k b o (R.base b o e),R.fin,λx o e=>(R.obj x o e).aO C (λob=>k _ ob),R.inj,λx e=>⟨λq=> ?_,(R.fc x e).2⟩,λa ha=> ?_⟩,C⟩;·
  rcases SW.mp q with q|q;·have:=R.there e;replace this:=((fresh _ q).1)▸this;cases this
  ·exact (R.fc x e).1 q
 ·rcases SW.mp ha with q|q;·
   refine ⟨?_,SM.mp (fresh a q).2⟩;cases z:B.get? a with
   |none=>rfl
   |some o=>have:=R.base a o z;replace this:=((fresh a q).1)▸this;cases this
  ·obtain ⟨e1,o,e2⟩:=R.fr a q;exact ⟨e1,o,k _ _ e2⟩
theorem RH.leave (R:RH T B (N++F) X H h):RH T B F X H h/\Carry (N++F) X H h F X H h:=by have C:Carry (N++F) X H h F X H h:=⟨λa o e z n=>⟨e,λq=>n q.more⟩,λz z=>rfl,Sv _⟩;exact ⟨⟨R.base,R.fin,λx o e=>(R.obj x o e).aO C λz e=>e,R.inj,λx e=>⟨λq=>(R.fc x e).1 (S9 _ q),(R.fc x e).2⟩,λa ha=>R.fr a (S9 _ ha)⟩,C⟩
theorem Step.within (S:Step P' (N++F) X H h1 ι' H' h2) (k: ∀b o,h.get? b=some o->h1.get? b=some o) (fresh: ∀a∈N,h.get? a=none) (hP: ∀a∈P,a∈P'):Step P F X H h ι' H' h2 where
 keep a o e n:=S.keep a o (k a o e) (by
  rintro (q|q);·
   rcases SW.mp q with q|q;·replace e:=(fresh a q)▸e;cases e
   ·exact n (.inl q)
  ·exact n (.inr q))
 slots a ha o e:=S.slots a (hP a ha) o (k a o e)
 alive a e:=by obtain ⟨o,ho⟩:=SM.mp e;exact S.alive a (by refine (k a o ho).symm▸ ?_;rfl)
 ext:=S.ext
 dom:=S.dom
 new x hx e:=by
  have:=S.new x hx e;cases z:h.get? (ι' x) with
  |none=>rfl
  |some o=>replace this:=(k _ o z)▸this;cases this
 mono:=S.mono
end
noncomputable def Cx.more (c:Cx) (I:Um):Cx:={c with F:=I::c.F,P:=I::c.P}
theorem Cx.Ok.more {c:Cx} (ok:c.Ok n) (I:Um):(c.more I).Ok n:=⟨ok.wf,ok.kind,ok.glob,ok.bi,.tail _ ok.AN,λx a e=>.tail _ (ok.rU x a e),λa ha=>by
 rcases Tn.mp ha with rfl|ha;·exact .head _
 ·exact .tail _ (ok.PF a ha),ok.handled,ok.frames,λe he L hL=>.tail _ (ok.yv e he L hL),ok.depth,ok.units⟩
theorem Loc.aO (hc:c'.env=c.env/\c'.names=c.names/\c'.zo=c.zo/\c'.cv=c.cv/\c'.T=c.T) (C:Carry c.F X H h c'.F ι' H' h') (k: ∀a,(a=c.env.locals∨ ∃y,c.env.cells.lookup y=some a)-> ∀o,h.get? a=some o-> ∃sl,h'.get? a=some {o with slots:=sl}) (L:Loc c X H h ls cv):Loc c' ι' H' h' ls cv:=by
 refine aQ λcT k_1=> ?_;obtain ⟨T',B',P',F',fr',A',env',names',afJ,cv'⟩:=c';refine aQ λJV k_2=> ?_;obtain ⟨T₀,agd,agx,F₀,aeH,A₀,env₀,aaw,aei,afh⟩:=c;simp only at hc;obtain ⟨rfl,rfl,rfl,rfl,rfl⟩:=hc;have k': ∀a o,(a=env'.locals∨ ∃y,env'.cells.lookup y=some a)->h.get? a=some o-> ∃sl,h'.get? a=some {o with slots:=sl}:=λa o ha e=>k a ha o e;refine k_2 (k_1 ?_);refine ⟨?_,λx a hx=> ?_,L.len,λi a x h1 h2 h3 h6=> ?_,λx hx=> ?_⟩;·refine vC L.ns λm o es ep h1 h2 h3 h4=> ?_;obtain ⟨sl,e'⟩:=k' _ o (.inl rfl) h1;exact AU m _ es ep e' h2 h3 h4
 ·refine dM (L.cells x a hx) λv o h1 h2=> ?_;obtain ⟨sl,e'⟩:=k' _ o (.inr ⟨x,hx⟩) h1;exact gv v _ e' h2
 ·exact ay (L.has i a x h1 h2 h3 h6) λv h4 h5=>aH v (h4.slots k') (h5.aO C)
 ·exact ay (L.comp x hx) λv h4 h5=>(aH v (h4.slots k') (h5.aO C))
theorem iT {B h h':Vr} (k: ∀b o,h.get? b=some o->h'.get? b=some o): ∀{l:List Env},h.FunFrames B l->h'.FunFrames B l:=by
 intro l_;induction l_ with
 |nil=>exact @λz=>trivial
 |cons _ LB aG=>exact @λsP=>by obtain ⟨h1,⟨L,o,h2,h3,h4,h5⟩,h6⟩:=sP;exact ⟨h1,(nN L o h2 h3 (k _ _ h4) h5),aG h6⟩
theorem Inv.more (Iv:Inv c cv X Y s) (k: ∀b o,s.heap.get? b=some o->s'.heap.get? b=some o) (f1:s.heap.get? I=none) (f2:(s'.heap.get? I).isSome=true):Inv (c.more I) cv X Y s'/\Carry c.F X Y.hs s.heap (c.more I).F X Y.hs s'.heap:=by refine dD (Iv.rh.enter (N:=[I]) k λa ha=>by rcases Sy.mp ha with rfl;exact ⟨f1,f2⟩) λR C=> ?_;exact ⟨⟨R,Loc.aO (c:=c) (c':=c.more I) ⟨rfl,rfl,rfl,rfl,rfl⟩ C (λa z o e=>⟨o.slots,k a o e⟩) Iv.loc,iT k Iv.kN⟩,C⟩
theorem Inv.less (Iv:Inv (c.more I) cv X Y s):Inv c cv X Y s/\Carry (c.more I).F X Y.hs s.heap c.F X Y.hs s.heap:=by exact dD (RH.leave (N:=[I]) (F:=c.F) Iv.rh) λR C=>⟨⟨R,Loc.aO (c:=c.more I) (c':=c) ⟨rfl,rfl,rfl,rfl,rfl⟩ C (λa z o e=>⟨o.slots,e⟩) Iv.loc,Iv.kN⟩,C⟩
section
theorem RH.own (R:RH T B F X H h) (hL:L∈F) (nP:L∉P) (k: ∀b,b≠L->h'.get? b=h.get? b) (al:(h'.get? L).isSome=true):RH T B F X H h'/\Step P F X H h X H h'/\Carry F X H h F X H h':=by
 have S:Step P F X H h X H h':=by
  refine ⟨λa o e n=> ?_,λa ha o e=>(aH o.slots ?_ (λy=>rfl)),λa e=> ?_,λy y=>rfl,λy y e=>e,λx hx e=>(by replace e:=(R.fin x hx)▸e;cases e),Sv _⟩;·rw [k a λq=>n (.inl (q▸hL))];exact e
  ·rw [k a λq=>nP (q▸ha)];exact e
  ·by_cases q:a=L;·rw [q];exact al
   ·rw [k a q];exact e
 refine ⟨⟨λb o e=> ?_,R.fin,λx o e=> ?_,R.inj,R.fc,λa ha=>⟨(R.fr a ha).1,?_⟩⟩,S,S.aO⟩;·rw [k b λq=>by replace e:=(q)▸e;replace e:=((R.fr L hL).1)▸e;cases e];exact R.base b o e
 ·exact (R.obj x o e).aO S.aO λob z=>(Uc (k (X x) λq=>(R.fc x (by refine (e).symm▸ ?_;rfl)).1 (by rw [q];exact hL)) (z))
 ·by_cases q:a=L;·rw [q];exact SM.mp al
  ·rw [k a q];exact (R.fr a ha).2
end
structure Cx.Own (c:Cx):Prop where
 loc:c.env.locals∉c.P
 cel: ∀x a,c.env.kindOf x=some .cell->c.env.cells.lookup x=some a->a∉c.P
 inj: ∀x y a,c.env.cells.lookup x=some a->c.env.cells.lookup y=some a->x=y
 nd:c.names.Nodup
 Og:c.cv=none
theorem Cx.Own.more {c:Cx} (o:c.Own) (h1:I≠c.env.locals) (h2: ∀x a,c.env.cells.lookup x=some a->a≠I):(c.more I).Own:=⟨λq=>by rcases Tn.mp q with q|q;exact h1 q.symm;exact o.loc q,λx a k e q=>by rcases Tn.mp q with q|q;exact h2 x a e q;exact o.cel x a k e q,o.inj,o.nd,o.Og⟩
theorem xG {α:Type} {l:List α} {a b:α} (h:(l.set i a)[j]? =some b):(j=i/\b=a/\i<l.length)∨(j≠i/\l[j]? =some b):=by
 by_cases q:j=i;·
  subst q;rw [ZQ] at h;replace h:=(if_pos rfl)▸h;split at h;·rename_i hl;obtain rfl:=Sm h;exact .inl ⟨rfl,rfl,hl⟩
  ·exact ns h
 ·rw [Uq (WQ q)] at h;exact .inr ⟨q,h⟩
theorem wj {α:Type} {l:List α} (nd:l.Nodup) {i j:Nat} {x:α} (h1:l[i]? =some x) (h2:l[j]? =some x):i=j:=by
 obtain ⟨hi,e1⟩:=Sj.mp h1;obtain ⟨hj,e2⟩:=Sj.mp h2;have key:=Th.mp nd;rcases Vg i j with q|q|q;·exact absurd (e1.trans e2.symm) (key i j hi hj q)
 ·exact q
 ·exact absurd (e2.trans e1.symm) (key j i hj hi q)
theorem gW {B h h':Vr} (k: ∀a o,h.get? a=some o->(∀vs,o.data≠.fields vs)-> ∃o',h'.get? a=some o'/\ ∀vs,o'.data≠.fields vs): ∀{l:List Env},h.FunFrames B l->h'.FunFrames B l:=by
 intro l_;induction l_ with
 |nil=>exact @λz=>trivial
 |cons _ LB aG=>exact @λsP=>by obtain ⟨h1,⟨L,o,h2,h3,h4,h5⟩,h6⟩:=sP;exact ay (k L o h4 h5) λo' g1 g2=>⟨h1,(nN L o' h2 h3 g1 g2),aG h6⟩
section
theorem Ic (ok:c.Ok n) (ow:c.Own) {v:Te} (I:Inv c .ah X Y s) (hi:c.names[i]? =some x) (hk:c.env.kindOf x=some .local∨c.env.kindOf x=some .cell) (V:aE c.T c.F X Y.hs s.heap a v) (k: ∀s',Inv c .ah X ⟨Y.ls.set i a,Y.hs⟩ s'->Step c.P c.F X Y.hs s.heap X Y.hs s'.heap->Rest s s'->Q () s') (hcell:c.env.kindOf x=some .cell->(c.env.cells.lookup x).isSome=true):wpAny M A (storeName c.env x v) Q E s:=by
 refine fU I.loc.ns λm hm=> ?_;have abk: ∃o es ep,s.heap.get? c.env.locals=some o/\o.data=.dict es ep:=by exact xJ hm λo es ep e1 e2 u=>Ou o es ep e1 e2
 have Hg: ∀y b w,c.env.cells.lookup y=some b->s.heap.IsCell b w->b≠c.env.locals:=λy b w u hc q=>by refine sZ abk λo es ep e1 e2=>ay hc λo' e3 e4=> ?_;replace e3:=(q)▸e3;replace e3:=(e1)▸e3;obtain rfl:=Sm e3;replace e4:=(e2)▸e4;cases e4
 rcases hk with hk|hk;·
  refine ZX hk hm (λh' hn hs=> ?_) (by refine (ok.kind).symm▸ ?_;rfl);refine g8 (I.rh.own (P:=c.P) ok.AN ow.loc (h':=h') (λb q=>hs.2 b q) (by refine sZ hn λo u u e u=> ?_;rw [e];rfl)) λR' S C=> ?_;refine k {s with heap:=h',toks:=s.toks+1} ⟨R',⟨⟨_,hn⟩,λy b e=> ?_,?_,λj b y h1 h2 h3 h4=> ?_,λy e=> ?_⟩,?_⟩ S ⟨rfl,rfl⟩;·obtain ⟨w,hw⟩:=I.loc.cells y b e;exact ay (id hw) λo e1 e2=>gv w o ((hs.2 b (Hg y b w e hw)).trans e1) e2
  ·rw [U6];exact I.loc.len
  ·clear k;rcases xG h1 with ⟨rfl,rfl,_⟩|⟨hj,h1⟩;·replace h3:=(hi)▸h3;obtain rfl:=Sm h3;exact aH v (.inl ⟨hk,_,hn,by simp⟩) (V.aO C)
   ·refine ay (I.loc.has j b y h1 h2 h3 h4) λw g1 g2=> ?_;have ne:y≠x:=λq=>hj (wj ow.nd (q▸h3) hi);refine aH w ?_ (g2.aO C);refine aQ λcT k_1=> ?_;rcases g1 with ⟨e1,m',hm',e2⟩|⟨e1,b',e2,e3⟩;·refine k_1 (.inl ⟨e1,_,hn,?_⟩);rw [if_neg ne];refine Fg hm λo es ep z1 z2 u z3=>Fg hm' λo' es' ep' y1 y2 u y3=> ?_;replace y1:=(z1)▸y1;obtain rfl:=Sm y1;replace y2:=(z2)▸y2;cases y2;rw [<-z3,y3];exact e2
    ·exact ay (id e3) λo z1 z2=>k_1 (.inr ⟨e1,b',e2,o,(hs.2 b' (Hg y b' _ e2 e3)).trans z1,z2⟩)
  ·exact nomatch (ow.Og).symm.trans e
  ·refine gW (λb o e hd=> ?_) I.kN;by_cases q:b=c.env.locals;·exact xJ hn λo' es ep z1 z2 u=>aH o' ((Uc (congrArg _ (q)) (z1))) (λvs z=>by replace z:=(z2)▸z;cases z)
   ·exact ⟨o,(hs.2 b q).trans e,hd⟩
 ·refine fU (SM.mp (hcell hk)) λb hb=> ?_;obtain ⟨w0,hw0⟩:=I.loc.cells x b hb;refine wpAny_storeName_cell ok.kind hk hb hw0 λh' hc hs=>g8 (I.rh.own (P:=c.P) (ok.rU x b hb) (ow.cel x b hk hb) (h':=h') (λb' q=>hs.2 b' q) (by refine ay hc λo e u=> ?_;rw [e];rfl)) λR' S C=> ?_;have bL:c.env.locals≠b:=λq=>Hg x b _ hb hw0 q.symm;refine k {s with heap:=h'} ⟨R',⟨⟨m,?_⟩,λy b' e=> ?_,?_,λj b' y h1 h2 h3 h4=> ?_,λy e=> ?_⟩,?_⟩ S ⟨rfl,rfl⟩;·exact hm.sameBut hs bL
  ·by_cases q:b'=b;·clear hb hw0 hs bL;subst q;exact ⟨_,hc⟩
   ·exact dM (I.loc.cells y b' e) λw o e1 e2=>gv w o ((hs.2 b' q).trans e1) e2
  ·rw [U6];exact I.loc.len
  ·clear k;rcases xG h1 with ⟨rfl,rfl,_⟩|⟨hj,h1⟩;·rw [hi] at h3;obtain rfl:=Sm h3;exact aH v (.inr ⟨.inl hk,b,hb,hc⟩) (V.aO C)
   ·refine ay (I.loc.has j b' y h1 h2 h3 h4) λw g1 g2=> ?_;have ne:y≠x:=λq=>hj (wj ow.nd (q▸h3) hi);refine (aH w ?_ (g2.aO C));refine aQ λJV k_2=> ?_;rcases g1 with ⟨e1,m',hm',e2⟩|⟨e1,b2,e2,o,z1,z2⟩;·exact k_2 (.inl ⟨e1,m',hm'.sameBut hs bL,e2⟩)
    ·have:b2≠b:=λq=>ne (ow.inj y x b (q▸e2) hb);exact k_2 (.inr ⟨e1,b2,e2,o,(hs.2 b2 this).trans z1,z2⟩)
  ·exact nomatch (ow.Og).symm.trans e
  ·refine gW (λb' o e hd=> ?_) I.kN;by_cases q:b'=b;·exact ay hc λo' z1 z2=>aH o' (by exact (q).symm▸(z1)) (λvs z=>by replace z:=(z2)▸z;cases z)
   ·exact ⟨o,(hs.2 b' q).trans e,hd⟩
end
def Gd (c:Cx) (X:Nat->Um) (H:U) (h:Vr) (a:bw) (b:PySem.Flow):Prop:=match a,b with
 | .next,.next=>True
 | .cont,.cont=>True
 | .ret v,.ret w=>aE c.T c.F X H h v w
 |_,_=>False
noncomputable def jP (x:UI):Bool:= !(x.ctorIdx==8||x.ctorIdx==9||x.ctorIdx==10)
theorem pF (h:jP x=true):swapsWith x t l env=pure false:=by cases x<;>first|rfl|exact gV h
section
variable {K:Fn->List J->U->aA U J} {c:Cx} {n:Nat}
structure SS (K:Fn->List J->U->aA U J) (c:Cx) (st:S) (x:VV):Prop where
 run: ∀{Y X s},Inv c .ah X Y s->eB K st Y≠.bad->fH c c.P .ah c.A (Gd c) X Y.hs s (exec x c.env) (eB K st Y)
structure Cv (K:Fn->List J->U->aA U J) (c:Cx) (st:Ss) (x:List VV):Prop where
 run: ∀{Y X s},Inv c .ah X Y s->cu K st Y≠.bad->fH c c.P .ah c.A (Gd c) X Y.hs s (execs x c.env) (cu K st Y)
theorem bU {α β:Type} {rel:(Nat->Um)->U->Vr->α->β->Prop} {m:Sem β} {o:aA St α} (ok:c.Ok n) (h:fH c c.F cv A rel X H s m o):fH c c.P cv A rel X H s m o:=aK h (λz z r=>gH r λa Y ι' h1 h2 h3 h4 h5=>(d7 a Y ι' h1 h2 h3 (h4.sub ok.PF) h5)) λz z r=>qF r λY ι' h1 h2 h3 h4 h5 h6=>(rJ Y ι' h1 h2 h3 h4 (h5.sub ok.PF) h6)
theorem QL:Cv K c .nil []:=⟨@λY X s I nb=>by exact bE I trivial rfl⟩
theorem MP {st:S} (h1:SS K c st x) (h2:Cv K c l xs):Cv K c (.cons st l) (x::xs):=by
 refine ⟨@λY X s I nb=> ?_⟩;rw [execs_cons];refine aC nb (h1.run I) λa σ1 dY f s1 ck S1 V1 I1=> ?_;cases a<;>cases f<;>first|exact Wz V1|skip
 ·exact h2.run I1 ck
 ·exact bE I1 V1 rfl
 ·exact bE I1 trivial rfl
theorem qi (ok:c.Ok n) (ow:c.Own) {X Y s} {i:Nat} (I:Inv c .ah X Y s) (hi:c.names[i]? =some x) (hk:c.env.kindOf x=some .local∨c.env.kindOf x=some .cell) (hc:c.env.kindOf x=some .cell->(c.env.cells.lookup x).isSome=true) (V:aE c.T c.F X Y.hs s.heap a v):fH c c.P .ah c.A (λ_ _ _ (_:Unit) (_:Unit)=>True) X Y.hs s (bindName c.env x v) (mW Y i a):=by
 have hl:i<Y.ls.length:=by rw [I.loc.len];exact (Sj.mp hi).1
 unfold mW;rw [if_pos hl];exact oV (av (Ic ok ow I hi hk V (λs' I' S Re=>(d7 () _ X rfl trivial I' S Re)) hc))
structure nq (c:Cx) (i:Nat) (x:Str):Prop where
 bP:c.names[i]? =some x
 kind:c.env.kindOf x=some .local∨c.env.kindOf x=some .cell
 cell:c.env.kindOf x=some .cell->(c.env.cells.lookup x).isSome=true
theorem PB (ok:c.Ok n) (he:SE K c .ah e y):SS K c (.ret e) (.Return (some y) q):=by refine ⟨@λY X s I nb=> ?_⟩;rw [exec_Return_some];refine az (aC nb (λz=>bU ok (he.run I z)) λa σ1 dY v s1 ck S1 V1 I1=> ?_);exact bE I1 V1 rfl
theorem ML:SS K c .tG (.Return none q):=by refine ⟨@λY X s I nb=> ?_⟩;rw [exec_Return_none];refine az (bE I ?_ rfl);rfl
theorem M9:SS K c .pass (.Pass q):=by refine ⟨@λY X s I nb=> ?_⟩;rw [exec_Pass];exact az (bE I trivial rfl)
theorem NH:SS K c .cont (.Continue q):=by refine ⟨@λY X s I nb=> ?_⟩;rw [arm_exec_Continue];exact az (bE I trivial rfl)
theorem abr (ok:c.Ok n) {a b:Ss} (ht:wV K c .ah t x) (ha:Cv K c a xs) (hb:Cv K c b ys):SS K c (.b9 t a b) (.If x xs ys q):=by
 refine ⟨@λY X s I nb=> ?_⟩;rw [exec_If];have e2:eB K (.b9 t a b) Y=(jN (bk K .ah t Y)).bind λz Y=>if z then cu K a Y else cu K b Y:=by
  refine Uc (aA.bind_congr (o:=bk K .ah t Y) λv Y=> ?_) (aA.bind_assoc ..).symm;cases v<;>try rfl
  rename_i b;cases b<;>rfl
 rw [e2] at nb⊢;refine az (aC nb (λz=>bU ok (ht.run I z)) λz σ1 dY v s1 ck S1 V1 I1=> ?_);subst V1;cases z;·exact hb.run I1 ck
 ·exact ha.run I1 ck
theorem uv (h:env.scope.kind=.function):interactive env=false:=by unfold interactive;rw [h];rfl
theorem NB (ok:c.Ok n) (hn:jP y=true) (he:SE K c .ah e y):SS K c (.expr e) (.Expr y q):=by refine ⟨@λY X s I nb=> ?_⟩;rw [exec_Expr _ _ _ (uv ok.kind) (pF hn)];refine az (aC nb (λz=>bU ok (he.run I z)) λa σ1 dY v s1 ck S1 V1 I1=> ?_);exact av (wpAny_dropValue (d7 _ _ dY rfl trivial I1 (Step.refl' I1.rh) Rest.refl))
def adx (_:Nat->Um) (_:U) (_:Vr) (a:bw) (_:Unit):Prop:=a=.next
theorem zF (h:fH c c.P .ah c.A adx X H s m o):fH c c.P .ah c.A (Gd c) X H s (m>>=λz=>pure PySem.Flow.next) o:=aj (cJ h λz z r=>xJ r λa Y ι' h1 h2 h3=>ao (Nj a Y ι' h1 (by clear h1;subst h2;trivial) h3))
noncomputable def HL (C:Cl) (f:Fd) (v:J) (x:Nat) (Y:St):aA St bw:=match Y.hs.h x with
 |some (.cj fs)=>if uD C f&&decide (fs.length<100) then .ok .next ⟨Y.ls,Y.hs.set x (.cj (kI f v fs))⟩ else .bad
 |_=>.bad
theorem xg {M:aA St bw->Prop} (nb:HL C f v x Y≠.bad) (k: ∀fs,Y.hs.h x=some (.cj fs)->uD C f=true->fs.length<100->M (.ok .next ⟨Y.ls,Y.hs.set x (.cj (kI f v fs))⟩)):M (HL C f v x Y):=by unfold HL at nb⊢;rcases h:Y.hs.h x with _|_|_|_|_<;>rw [h] at nb<;>first|exact absurd rfl nb|exact Kx nb λz=>di z λa b=>k _ h a (of_decide_eq_true b)
theorem Ce (ok:c.Ok n) (hn:jP z=true) (he:SE K c .ah e z) (ho:SE K c .ah o y):SS K c (.setAttr o f e) (.Assign [.Attribute y (c.T.aY f) p] z q):=by
 refine ⟨@λY X s I nb=> ?_⟩;rw [plainObj_exec_Assign_Attribute _ _ _ _ _ (pF hn)];refine az (aC nb (λz=>bU ok (he.run I z)) λa σ1 dY v s1 ck S1 V1 I1=>zF ?_);rw [assign_Attribute];refine aC ck (λz=>cE (bU ok (ho.run I1 z))) λx σ2 sJ w s2 kK S2 V2 I2=>az ?_;cases x<;>first|exact absurd rfl kK|skip
 exact xg (M:=λo=>fH c _ .ah c.A _ sJ σ2.hs s2 _ o) kK λfs hh c1 c2=>aj (aD (av (tZ ok.wf.aY ok.wf.set (I2.wJ ok) I2.rh V2 hh c1 c2 (V1.step S2) λs3 R3 S3 Na=>jb (d7 _ _ sJ rfl rfl (I2.step ok R3 S3) (S3.sub ok.PF) Na))))
noncomputable def HD (v:J) (x:Nat) (j:Int) (Y:St):aA St bw:=match Y.hs.h x with
 |some (.O l)=>if 0<=j/\j<l.length then .ok .next ⟨Y.ls,Y.hs.set x (.O (l.set j.toNat v))⟩ else .bad
 |some (.gU l)=>if l.length<4096 then .ok .next ⟨Y.ls,Y.hs.set x (.gU (gJ j v l))⟩ else .bad
 |_=>.bad
theorem FU {M:aA St bw->Prop} (nb:HD v x j Y≠.bad) (k1: ∀l,Y.hs.h x=some (.O l)->0<=j/\j<l.length->M (.ok .next ⟨Y.ls,Y.hs.set x (.O (l.set j.toNat v))⟩)) (k2: ∀l,Y.hs.h x=some (.gU l)->l.length<4096->M (.ok .next ⟨Y.ls,Y.hs.set x (.gU (gJ j v l))⟩)):M (HD v x j Y):=by unfold HD at nb⊢;rcases h:Y.hs.h x with _|_|_|_|_<;>rw [h] at nb<;>first|exact absurd rfl nb|exact Kx nb (k1 _ h)|exact Kx nb (k2 _ h)
theorem Dj (ok:c.Ok n) (hn:jP z=true) (he:SE K c .ah e z) (ho:SE K c .ah o y) (hi:SE K c .ah i w):SS K c (.setItem o i e) (.Assign [.Subscript y w p] z q):=by
 refine ⟨@λY X s I nb=> ?_⟩;rw [exec_Assign_Subscript _ _ _ _ _ (pF hn)];refine az (aC nb (λz=>bU ok (he.run I z)) λa σ1 dY v s1 ck S1 V1 I1=>zF ?_);rw [assign_Subscript];refine aC ck (λz=>cE (bU ok (ho.run I1 z))) λx σ2 sJ u s2 kK S2 V2 I2=>aC kK (λz=>cE (bU ok (hi.run I2 z))) λj σ3 GR t s3 NC S3 V3 I3=>az ?_;have V1:=(V1.step S2).step S3;have V2:=V2.step S3;clear kK;cases x<;>first|exact absurd rfl NC|skip
 cases j<;>first|exact absurd rfl NC|skip
 rename_i x j;clear x;obtain ⟨rfl,_⟩:=V2;obtain ⟨tk,rfl⟩:=V3;refine FU (M:=λo=>fH c _ .ah c.A _ GR σ3.hs s3 _ o) NC (λl hh hc=> ?_) λl hh hc=> ?_;·exact aj (aD (av (rT I3.rh hh hc V1 λs4 R4 S4 Re4=>jb (d7 _ _ GR rfl rfl (I3.step ok R4 S4) (S4.sub ok.PF) Re4))))
 ·exact aj (aD (av (se I3.rh hh hc V1 λs4 R4 S4 Re4=>jb (d7 _ _ GR rfl rfl (I3.step ok R4 S4) (S4.sub ok.PF) Re4))))
theorem AF (I:Inv c .ah X Y s) (e:tF op a b=some r) (ha:aE c.T c.F X Y.hs s.heap a va) (hb:aE c.T c.F X Y.hs s.heap b vb) (k:Cont c.T c.B c.F X Y.hs s r Q):wpAny (model c.T.prog c.T.w) A (inplaceOp op.py va vb) Q E s:=by
 refine aQ λcT k_1=> ?_;cases a<;>first|exact ns e|skip
 cases b<;>first|exact ns e|skip
 obtain ⟨t,rfl⟩:=ha;obtain ⟨u,rfl⟩:=hb;refine ay (Sz.mp e) λr' e2 cK=> ?_;clear e;subst cK;exact k_1 (Hj e2 I.rh k)
theorem JO (hk:env.scope.kind=.function) (h2:(x==("__classdict__":Str))=false) (h:Pw env s.heap x v) (q:Q v s):wpAny M A (loadName env x) Q E s:=by
 refine aQ λcT k_1=> ?_;rcases h with ⟨e,m,hm,hv⟩|⟨e|e,c,hc,hi⟩;·exact k_1 (Z7 hk e hm hv q)
 ·exact k_1 (aal hk e hc hi q)
 ·exact k_1 (aai hk e hc hi q h2)
theorem AO {R:Prop} (nb:cg Y i≠.bad) (k: ∀v,Y.ls[i]? =some v->v≠.ah->cg Y i=.ok v Y->R):R:=by
 have g: ∀o,Y.ls[i]? =o->(match o with
  |some .ah=>.bad
  |some v=>.ok v Y
  |none=>.bad:aA St J)=cg Y i->R:=λo h e=>by
  cases o with
  |none=>exact absurd e.symm nb
  |some v=>cases v<;>first|exact absurd e.symm nb|exact k _ h (λz=>J.noConfusion z) e.symm
 exact g _ rfl rfl
theorem GY (ok:c.Ok n) (I:Inv c .ah X Y s) (hi:c.names[i]? =some x) (hv:c.zo x=true) (h2:(x==("__classdict__":Str))=false) (nb:cg Y i≠.bad):fH c c.F .ah c.A (aE c.T c.F) X Y.hs s (loadName c.env x) (cg Y i):=by exact AO nb λv hl hne e=>ay (I.loc.has i v x hl hne hi hv) λu g1 g2=>e.symm▸(bX ok I λQ k=>JO ok.kind h2 g1 (k.same I.rh g2))
theorem Gp (ok:c.Ok n) (ow:c.Own) (nm:nq c i x) (hv:c.zo x=true) (h2:(x==("__classdict__":Str))=false) (he:SE K c .ah e y):SS K c (.iO i op e) (.AugAssign (.Name x p) op.py y q):=by
 refine ⟨@λY X s I nb=> ?_⟩;rw [exec_AugAssign_Name];refine az (aC nb (λz=>bU ok (GY ok I nm.bP hv h2 z)) λa σ1 dY v s1 ck S1 V1 I1=> ?_);refine aC ck (λz=>cE (bU ok (he.run I1 z))) λb σ2 sJ w s2 kK S2 V2 I2=>az ?_;refine aC (rel:=aE c.T c.F) kK (λz=>f7 (bU ok ?_)) λr σ3 GR u s3 NC S3 V3 I3=>az ?_;·exact fU (cL z) λr hr=>(hr).symm▸(bX ok I2 λQ k=>AF I2 hr (V1.step S2) V2 k)
 ·exact aC NC (λz=>qi ok ow I3 nm.bP nm.kind nm.cell V3) λt PC ι4 t s4 nb4 S4 V4 I4=>bE I4 trivial rfl
theorem CE (ok:c.Ok n) (he:SE K c .ah e z) (ho:SE K c .ah o y):SS K c (.iF o f op e) (.AugAssign (.Attribute y (c.T.aY f) p) op.py z q):=by
 refine ⟨@λY X s I nb=> ?_⟩;rw [arm_exec_AugAssign_2];refine az (aC nb (λz=>bU ok (ho.run I z)) λx σ1 dY v s1 ck S1 V1 I1=> ?_);have assoc: ∀(o1:aA St J) (f2:J->St->aA St J) (f3:J->J->St->aA St J) (g:J->St->aA St bw),(o1.bind λa Y=>(f2 a Y).bind λb Y=>(f3 a b Y).bind g)=((o1.bind λa Y=>(f2 a Y).bind λb Y=>f3 a b Y).bind g):=λo1 f2 f3 g=>by rw [aA.bind_assoc];refine aA.bind_congr λa Y=> ?_;rw [aA.bind_assoc]
 rw [assoc] at ck⊢;refine aC (rel:=aE c.T c.F) ck (λnb=>cE (az ?_)) λr PC ι4 u s4 nb4 S4 V4 I4=>az ?_;·
  refine aC (rel:=aE c.T c.F) nb (λz=>bU ok ?_) λa σ2 sJ w s2 kK S2 V2 I2=> ?_;·exact fU (cL z) λr hr=>(hr).symm▸(bX ok I1 λQ k=>DZ ok.wf.aY ok.wf.attr (I1.wJ ok) I1.rh hr V1 k)
  ·refine aC kK (λz=>cE (bU ok (he.run I2 z))) λb σ3 GR t s3 NC S3 V3 I3=>az (f7 (bU ok ?_));refine fU (cL NC) λr hr=> ?_;rw [hr];exact bX ok I3 λQ k=>AF I3 hr (V2.step S3) V3 k
 ·clear ck;cases x<;>first|exact absurd rfl nb4|skip
  exact xg (M:=λo=>fH c _ .ah c.A _ ι4 PC.hs s4 _ o) nb4 λfs hh c1 c2=>aj (aD (av (tZ ok.wf.aY ok.wf.set (I4.wJ ok) I4.rh (V1.step S4) hh c1 c2 V4 λs5 R5 S5 Re5=>aj (jb (ao (d7 _ _ ι4 rfl trivial (I4.step ok R5 S5) (S5.sub ok.PF) Re5))))))
end
section
variable {K:Fn->List J->U->aA U J} {c:Cx} {n:Nat}
theorem yK {τ α:Type} {o:aA τ α} (nb:o.calm≠.bad):o≠.bad/\o.calm=o/\ ∀Y,o≠.exc Y:=by
 cases o with
 |ok a s=>exact ⟨λe=>((by cases e)),rfl,λz e=>((by cases e))⟩
 |exc s=>exact absurd rfl nb
 |bad=>exact absurd rfl nb
theorem pL {α β:Type} {rel:(Nat->Um)->U->Vr->α->β->Prop} {m:Sem β} {o:aA St α} (h:fH c P cv A rel X H s m o) (nb: ∀Y,o≠.exc Y):dH (model c.T.prog c.T.w) A m (Res c P cv rel X H s o) (λz z=>False) s:=aK h (λz z r=>r) λz z x=>qF x λY z e z z z z z=>nb Y e
def Lp (c:Cx) (X:Nat->Um) (H:U) (s:Tz) (o:aA St bw) (r:Z1) (s':Tz):Prop:=match r with
 | .ok fl=>Res c c.P .ah (Gd c) X H s o fl s'
 | .error _=>False
theorem Lp.older (S:Step c.P c.F X H s.heap ι' H' s'.heap) (Re:Rest s s') (x:Lp c ι' H' s' o r s''):Lp c X H s o r s'':=by
 cases r with
 |error _=>exact x
 |ok fl=>exact Res.older S Re x
theorem NY (ok:c.Ok n) (ht:wV K c .ah t x) (hb:Cv K c b xs): ∀(k:Nat) {Y X s},Inv c .ah X Y s->ja (λY=>bk K .ah t Y) (λY=>cu K b Y) k Y≠.bad->cW (model c.T.prog c.T.w) c.A (.whileLoop x xs [] c.env) (Lp c X Y.hs s (ja (λY=>bk K .ah t Y) (λY=>cu K b Y) k Y)) s:=by
 intro l_;induction l_ with
 |zero=>exact @λY X s I nb=>absurd rfl nb
 |succ k aG=>
  exact @λY X s I nb=>by
   refine bB rfl ((?_:dH _ c.A ((whileTurn x xs [] c.env).onRaise (λe=>do
    noteFrame e c.env;
    theTreesLotGoes e)) _ _ s));refine cO (aK (E:=λy y=>False) ?_ (λy y q=>q) λy y q=>q.elim);have e2:ja (λY=>bk K .ah t Y) (λY=>cu K b Y) (k+1) Y=(jN (bk K .ah t Y).calm).bind λz Y=>if z then (cu K b Y).calm.bind λfl Y=>match fl with
    | .ret v=>.ok (.ret v) Y
    |_=>ja (λY=>bk K .ah t Y) (λY=>cu K b Y) k Y else .ok .next Y:=by
    refine Uc (aA.bind_congr λv Y=> ?_) (aA.bind_assoc _ _ _).symm;cases v<;>try rfl
    rename_i b;cases b<;>rfl
   rw [e2] at nb⊢;have nt:jN (bk K .ah t Y).calm≠.bad:=λz=>nb (by refine (z).symm▸ ?_;rfl);refine g8 (yK (λz=>nt (by refine (z).symm▸ ?_;rfl))) λy ec ne=> ?_;rw [ec] at nb nt⊢;have ne': ∀σ',jN (bk K .ah t Y)≠.exc σ':=λσ' z=>by
    cases h:bk K .ah t Y with
    |ok v σ1=>replace z:=(h)▸z;cases v<;>cases z
    |exc σ1=>exact ne _ h
    |bad=>replace z:=(h)▸z;cases z
   refine aj (cJ (pL (bU ok (ht.run I nt)) ne') λz s1 r=> ?_);refine gH r λa σ1 dY e1 V1 I1 S1 wY=> ?_;clear r;subst (V1);rw [e1] at nb⊢;rw [aA.eT] at nb⊢;clear e1;cases a with
   |false=>exact aj (ao (ao (d7 _ σ1 dY rfl trivial I1 S1 wY)))
   |true=>
    refine g8 (yK (λz=>nb (by refine (z).symm▸ ?_;rfl))) λkK ec2 ne2=> ?_;rw [ec2] at nb⊢;refine aj (cJ (pL (hb.run I1 kK) ne2) λfl s2 r=> ?_);refine gH r λa σ2 sJ e2 V2 I2 S2 zE=> ?_;rw [e2] at nb⊢;clear r e2;cases a<;>cases fl<;>first|exact Wz V2|skip
    ·exact ao ⟨rfl,cM (aG I2 nb) λr s' q=>q.older (S1.trans S2) (wY.trans zE)⟩
    ·exact ao (d7 _ σ2 sJ rfl V2 I2 (S1.trans S2) (wY.trans zE))
    ·exact ao ⟨rfl,cM (aG I2 nb) λr s' q=>q.older (S1.trans S2) (wY.trans zE)⟩
theorem H6 (ok:c.Ok n) (ht:wV K c .ah t x) (hb:Cv K c b xs):SS K c (.while t b) (.While x xs [] q):=by
 refine ⟨@λY X s I nb=> ?_⟩;rw [exec_While];refine az (nK (cM (NY ok ht hb 100 I nb) λr s' q=> ?_) (λx=>ns x));cases r with
 |error e=>exact q.elim
 |ok fl=>exact q
theorem RH.own' {B:Vr} {h h':Vr} (R:RH T B F X H h) (hL:L∈F) (nP:L∉P) (k: ∀b o,b≠L->h.get? b=some o->h'.get? b=some o) (al:(h'.get? L).isSome=true):RH T B F X H h'/\Step P F X H h X H h':=by
 have S:Step P F X H h X H h':=by
  refine ⟨λa o e n=>k a o (λq=>n (.inl (q▸hL))) e,λa ha o e=>(aH o.slots (k a o (λq=>nP (q▸ha)) e) (λy=>rfl)),λa e=> ?_,λy y=>rfl,λy y e=>e,λx hx e=>(by replace e:=(R.fin x hx)▸e;cases e),Sv _⟩;obtain ⟨o,ho⟩:=SM.mp e;by_cases q:a=L;·exact (q).symm▸(al)
  ·refine (k a o q ho).symm▸ ?_;rfl
 refine ⟨⟨λb o e=>k b o (λq=>by replace e:=(q)▸e;replace e:=((R.fr L hL).1)▸e;cases e) (R.base b o e),R.fin,λx o e=> ?_,R.inj,R.fc,λa ha=>⟨(R.fr a ha).1,?_⟩⟩,S⟩;·exact (R.obj x o e).aO S.aO λob z=>k _ ob (λq=>(R.fc x (by refine (e).symm▸ ?_;rfl)).1 (by rw [q];exact hL)) z
 ·by_cases q:a=L;·rw [q];exact SM.mp al
  ·exact fU ((R.fr a ha).2) λo e=>⟨o,k a o q e⟩
structure Source (c:Cx) (I:Um) (l:List J) (fp wr:List Um) (P:Nat->Te->Prop) (St:Nat->Vr->Prop):Prop where
 W:Walks c.T.prog c.T.w c.A I fp wr l.length P St
 wr:wr=[I]
 cls: ∀i h,St i h-> ∃o,h.get? I=some o/\o.cls≠.type "frame"/\ ∃vs,o.data=.fields vs
 nF:I∉c.F
def Fp (c:Cx) (I:Um) (fp:List Um) (X:Nat->Um) (H:U) (h:Vr):Prop:= ∀b∈fp,b≠I-> ∃o,h.get? b=some o/\ ¬rK (c.more I).F X H b
theorem Fp.step (S:Step P (c.more I).F X H h ι' H' h') (f:Fp c I fp X H h):Fp c I fp ι' H' h':=λb hb ne=>by exact ay (f b hb ne) λo e q=>aH o (S.keep b o e q) (S.fc (by refine (e).symm▸ ?_;rfl) q)
theorem Source.keep {l fp wr P St} (so:Source c I l fp wr P St) {X H h ι' H' h'} (S:Step (c.more I).P (c.more I).F X H h ι' H' h') (f:Fp c I fp X H h) (st:St i h):St i h':=by
 refine so.W.frame i h h' st λb hb o e=> ?_;by_cases q:b=I;·clear f;subst q;refine fY (so.cls i h st) λo' e1 z e2=> ?_;rw [e1] at e;injection e with e;subst e;refine ay (S.slots b (.head _) o' e1) λsl z1 z2=> ?_;rw [z2 e2] at z1;exact z1
 ·refine ay (f b hb q) λo' e1 e2=> ?_;rw [e1] at e;injection e with e;subst e;exact S.keep b o' e1 e2
theorem Step.pH (S:Step P F eY H₀ h₀ X H h) (f0:h₀.get? I=none) (k: ∀b o,b≠I->h.get? b=some o->h'.get? b=some o):Step P F eY H₀ h₀ X H h' where
 keep a o e nn:=k a o (λq=>by replace e:=(q)▸e;exact nomatch (f0).symm.trans e) (S.keep a o e nn)
 slots a ha o e:=by exact ay (S.slots a ha o e) λsl e1 e2=>aH sl (k a _ (λq=>by rw [q,f0] at e;exact nomatch e) e1) e2
 alive a e:=by obtain ⟨o,ho⟩:=SM.mp (S.alive a e);refine (k a o (λq=>by replace e:=(q)▸e;replace e:=(f0)▸e;cases e) ho).symm▸ ?_;rfl
 ext:=S.ext
 dom:=S.dom
 new:=S.new
 mono:=S.mono
theorem Inv.drop (ok:c.Ok n) (nF:I∉c.F) (Iv:Inv (c.more I) cv X Y s) (k: ∀b o,b≠I->s.heap.get? b=some o->s'.heap.get? b=some o):Inv c cv X Y s':=by
 have R:=Iv.rh;have C:Carry (c.more I).F X Y.hs s.heap c.F X Y.hs s'.heap:=⟨λa o e u nn=>⟨k a o (λq=>nn (.inl (q▸ZS _))) e,λq=>nn (q.imp (Xk _) id)⟩,λu u=>rfl,Sv _⟩;refine ⟨⟨λb o e=>k b o (λq=>by have z:=(R.fr I (.head _)).1;replace e:=(q)▸e;exact absurd (z.symm.trans e) (by simp)) (R.base b o e),R.fin,λx o e=>(R.obj x o e).aO C λob z=>k _ ob (λq=>(R.fc x (by refine (e).symm▸ ?_;rfl)).1 (by rw [q];exact .head _)) z,R.inj,λx e=>⟨λq=>(R.fc x e).1 (.tail _ q),(R.fc x e).2⟩,λa ha=>⟨(R.fr a (.tail _ ha)).1,?_⟩⟩,?_,?_⟩;·exact fU ((R.fr a (.tail _ ha)).2) λo e=>⟨o,k a o (λq=>nF (q▸ha)) e⟩
 ·refine Loc.aO (c:=c.more I) (c':=c) ⟨rfl,rfl,rfl,rfl,rfl⟩ C (λa ha o e=>⟨o.slots,k a o (λq=>nF ?_) e⟩) Iv.loc;clear nF Iv k R C;subst q;rcases ha with e|⟨y,e⟩;·rw [e];exact ok.AN
  ·exact ok.rU y a e
 ·exact eG (F:=c.F) (λa ha o e=>⟨o.slots,k a o (λq=>nF (q▸ha)) e⟩) ok.yv Iv.kN
theorem Inv.move (ok:c.Ok n) (nF:I∉c.F) (Iv:Inv (c.more I) cv X Y s) (k: ∀b o,b≠I->s.heap.get? b=some o->s'.heap.get? b=some o) (al: ∃o,s'.heap.get? I=some o/\ ∃vs,o.data=.fields vs):Inv (c.more I) cv X Y s'/\Step c.P (c.more I).F X Y.hs s.heap X Y.hs s'.heap:=by
 refine ay al λo ho z=> ?_;clear al;obtain ⟨R',S⟩:=RH.own' (P:=c.P) Iv.rh (L:=I) (.head _) (λq=>nF (ok.PF I q)) k (by refine (ho).symm▸ ?_;rfl);refine ⟨⟨R',?_,?_⟩,S⟩;·
  refine Loc.aO (c:=c.more I) (c':=c.more I) ⟨rfl,rfl,rfl,rfl,rfl⟩ S.aO (λa ha o e=>⟨o.slots,k a o (λq=>nF ?_) e⟩) Iv.loc;clear nF Iv k ho R' S;subst q;rcases ha with e|⟨y,e⟩;·exact (e).symm▸(ok.AN)
  ·exact ok.rU y a e
 ·exact eG (F:=c.F) (λa ha o e=>⟨o.slots,k a o (λq=>nF (q▸ha)) e⟩) ok.yv Iv.kN
theorem Ox (ok:c.Ok n) {St:Nat->Vr->Prop} (so:Source c I l fp wr P St) (hgo: ∀i v,∀(s:Tz) (Q:Unit->Tz->Prop) (E:Te->Tz->Prop),St i s.heap->Q () s->wpAny (model c.T.prog c.T.w) c.A (letOwnedTupleGo x (.ref I) v) Q E s) (hst: ∀{Y X s a v},Inv (c.more I) .ah X Y s->aE c.T (c.more I).F X Y.hs s.heap a v->store Y t a≠.bad->fH (c.more I) (c.more I).P .ah c.A (λ_ _ _ (_:Unit) (_:Unit)=>True) X Y.hs s (assign x c.env v) (store Y t a)) (hb:Cv K (c.more I) b xs) {eY :Nat->Um} {H₀ :U} {s₀ :Tz} (k0: ∀b o,s₀.heap.get? b=some o->h₁.get? b=some o) (f0:s₀.heap.get? I=none) (RP: ∀ι' H' h',Step c.P (c.more I).F eY H₀ h₁ ι' H' h'-> ∀i v a,P i v->l[i]? =some a->aE c.T (c.more I).F ι' H' h' a v): ∀(k i:Nat) {Y X s},l.length-i=k->i<=l.length->Inv (c.more I) .ah X Y s->Step c.P (c.more I).F eY H₀ h₁ X Y.hs s.heap->Rest s₀ s->Fp c I fp X Y.hs s.heap->St i s.heap->cU (λv Y=>(store Y t v).bind λy Y=>cu K b Y) (l.drop i) Y≠.bad->cW (model c.T.prog c.T.w) c.A (.forLoop x (.ref I) xs [] c.env) (Lp c eY H₀ s₀ (cU (λv Y=>(store Y t v).bind λy Y=>cu K b Y) (l.drop i) Y)) s:=by
 have wn: ∀{b:Um},b≠I->b∉wr:=λne q=>by rw [so.wr] at q;exact ne (Sy.mp q)
 have win: ∀{X H h},Step c.P (c.more I).F eY H₀ h₁ X H h->Step c.P c.F eY H₀ s₀.heap X H h:=λS=>Step.within (N:=[I]) S k0 (λa ha=>by exact (Sy.mp ha).symm▸(f0)) λy h=>h;intro k;induction k with
 |zero=>
  intro i Y X s hk hi Iv S0 Re f st nb;have hin:i=l.length:=by exact (Ln.n2 0x1861600150005620b040) hk hi
  clear hk nb;subst hin;refine bB rfl ((?_:dH _ c.A ((forTurn x (.ref I) xs [] c.env).onRaise (λe=>do
   noteFrame e c.env;
   theTreesLotGoes e)) _ _ s));refine cO (aK (E:=λy y=>False) ?_ (λy y q=>q) λy y q=>q.elim);refine gg (aj (cO (av (so.W.done s _ _ st λh' tk kk=> ?_))));refine ao ⟨rfl,bB rfl ?_⟩;refine aj (cO (ao (ao ?_)));refine (Z5).symm▸ ?_;have LG: ∀b o,b≠I->s.heap.get? b=some o->h'.get? b=some o:=λb o ne e=>kk b o (wn ne) e;exact d7 .next Y X rfl trivial (Iv.drop (s':={s with heap:=h',toks:=tk}) ok so.nF LG) ((win S0).pH f0 LG) Re
 |succ k ih=>
  intro i Y X s hk hi Iv S0 Re f st nb;have hlt:i<l.length:=by exact (Ln.n3 0x61200158a22108b040) hk
  have hd:l.drop i=l[i]::l.drop (i+1):=Wt hlt;rw [hd] at nb⊢;dsimp only [cU] at nb⊢;refine bB rfl ?_;show dH _ c.A ((forTurn x (.ref I) xs [] c.env).onRaise (λe=>do
   noteFrame e c.env;
   theTreesLotGoes e)) _ _ s;refine cO (aK (E:=λy y=>False) ?_ (λy y q=>q) λy y q=>q.elim);refine gg (aj (cO (av (so.W.item i s _ _ hlt st λv h' tk hv st' kk=> ?_))));refine fY (so.cls _ _ st') λo ho y hf=>dD (Iv.move (s':={s with heap:=h',toks:=tk}) ok so.nF (λb o ne e=>kk b o (wn ne) e) (aH o ho hf)) λI1 S1=> ?_;have RY:=S0.trans S1;have f1:=f.step S1;refine aj (av (hgo (i+1) v {s with heap:=h',toks:=tk} _ _ st' ?_));refine g8 (yK (λz=>nb (by refine (z).symm▸ ?_;rfl))) λck ec ne=> ?_;rw [ec] at nb⊢;refine aj (cJ (pL (c:=c.more I) (hst I1 (RP _ _ _ RY i v l[i] hv (Sn hlt)) (λz=>ck (by rw [z];rfl))) λσ' z=>ne σ' (by rw [z];rfl)) λu s2 r=> ?_);refine gH r λy σ2 sJ e2 y I2 S2 zE=> ?_;rw [e2] at nb ck ne⊢;simp only [aA.eT] at nb ck ne⊢;refine aj (cJ (pL (c:=c.more I) (hb.run I2 ck) ne) λfl s3 r=> ?_);refine gH r λa σ3 GR e3 V3 I3 S3 Na=> ?_;rw [e3] at nb⊢;simp only [aA.eT] at nb⊢;have S23:=S2.trans S3;have RQ:=RY.trans (S23.sub λa ha=>Xk _ ha);have Re':Rest s₀ s3:=Re.trans ((show Rest s {s with heap:=h',toks:=tk} from ⟨rfl,rfl⟩).trans (zE.trans Na));have st3:=so.keep S23 f1 st';have f3:=f1.step S23;clear r e3;cases a<;>cases fl<;>first|exact Wz V3|skip
  ·exact ao ⟨rfl,ih (i+1) (by exact (Ln.n3 0x185822ca22104058a22108b040) hk) hlt I3 RQ Re' f3 st3 nb⟩
  ·exact dD I3.less λI4 C4=>ao (d7 _ σ3 GR rfl (V3.aO C4) I4 (win RQ) Re')
  ·exact ao ⟨rfl,ih (i+1) (by exact (Ln.n3 0x185822ca22104058a22108b040) hk) hlt I3 RQ Re' f3 st3 nb⟩
end
theorem l8 (h:uJ x=true):foldedSetIterable x env v=pure v:=by cases x<;>first|rfl|exact gV h
section
variable {K:Fn->List J->U->aA U J} {c:Cx} {n:Nat}
theorem rC (ho:s.heap.get? I=some o) (hc:o.cls=.type "list_iterator"∨o.cls=.type "range_iterator") (h:Q () s):wpAny M A (letOwnedTupleGo x (.ref I) v) Q E s:=by
 have body: ∀a:Um,wpAny M A (do
  let o<-load I
  match o.cls,o.data with
   | .type n,.fields vs=>
    if ["enumerate","zip","dict_itemiterator","dict_reverseitemiterator","odict_iterator","itertools.zip_longest","itertools.pairwise"].contains n&&vs[0]? ==some (rawInt a) then
     rule "for.unpacks-the-owned-tuple"
     updateField I 0 .none
   |_,_=>pure ():Sem Unit) Q E s:=λa=>by refine Sw (VZ ho ?_);clear ho;obtain ⟨oc,od,dt,sl⟩:=o;simp only at hc;rcases hc with rfl|rfl<;>(cases dt<;>exact SN h)
 cases x<;>first|exact SN h|(cases v<;>first|exact SN h|exact body _)
theorem jZ (ok:c.Ok n) (ow:c.Own) (nm:nq c i x) (I:Inv c .ah X Y s) (V:aE c.T c.F X Y.hs s.heap a v):fH c c.P .ah c.A (λ_ _ _ (_:Unit) (_:Unit)=>True) X Y.hs s (assign (.Name x p) c.env v) (store Y (.name i) a):=by rw [arm_assign_Name];exact az (qi ok ow I nm.bP nm.kind nm.cell V)
structure Tg (c:Cx) (t:Mn) (x:UI):Prop where
 run: ∀(I:Option Um),(∀a,I=some a->a≠c.env.locals/\ ∀y b,c.env.cells.lookup y=some b->b≠a)-> ∀{Y X s a v},Inv (match I with
 |some a=>c.more a
 |none=>c) .ah X Y s->aE c.T (match I with
 |some a=>c.more a
 |none=>c).F X Y.hs s.heap a v->store Y t a≠.bad->fH (match I with
 |some a=>c.more a
 |none=>c) (match I with
 |some a=>c.more a
 |none=>c).P .ah c.A (λ_ _ _ (_:Unit) (_:Unit)=>True) X Y.hs s (assign x c.env v) (store Y t a)
theorem ME (ok:c.Ok n) (ow:c.Own) (nm:nq c i x):Tg c (.name i) (.Name x p):=⟨λI hI {Y X s a v} Iv V _=>by
 cases I with
 |none=>exact jZ ok ow nm Iv V
 |some b=>exact dD (hI b rfl) λh1 h2=>jZ (c:=c.more b) (ok.more b) (ow.more h1 h2) ⟨nm.bP,nm.kind,nm.cell⟩ Iv V⟩
theorem mG (I:Inv c cv X Y s):s.heap.objs.size∉c.F:=λq=>by obtain ⟨o,e⟩:=(I.rh.fr _ q).2;exact absurd (Ur e) (To _)
theorem pM (ok:c.Ok n) {I:Um} (nF:I∉c.F):I≠c.env.locals/\ ∀y b,c.env.cells.lookup y=some b->b≠I:=⟨λq=>nF (q▸ok.AN),λy b e q=>nF (q▸ok.rU y b e)⟩
theorem Ow (ok:c.Ok n) (hn:uJ y=true) (he:SE K c .ah e y) (ht:Tg c t x) (hb: ∀I,I∉c.F->Cv K (c.more I) b xs):SS K c (.forL t e b) (.For x y xs [] q):=by
 refine ⟨@λY X s I nb=> ?_⟩;rw [arm_exec_For];refine az (aC nb (λz=>bU ok (he.run I z)) λa σ1 dY v s1 ck S1 V1 I1=> ?_);refine aQ λcT k_1=> ?_;cases a<;>first|exact absurd rfl ck|skip
 rename_i l;have V0:=V1;clear V0;obtain ⟨cl,ax,o,vs,ep,rfl,h1,h2,h3,h4,h5⟩:=V1;refine k_1 ((l8 hn).symm▸ ?_);refine aj (ao (az ?_));have hL:s1.heap.IsList ax vs:=⟨o,h1,h2,ep,h3⟩;refine aj (aD (av (WT hL ?_)));have hlen:vs.size=l.length:=by have:=h5.length;rw [Tv] at this;exact this.symm
 have k0: ∀b o,s1.heap.get? b=some o->(s1.heap.push {cls:=.type "list_iterator",data:=.fields #[.ref ax,.int 0 0]}).get? b=some o:=λb o e=>SK _ e;have nF:=mG I1;obtain ⟨I2,C2⟩:=I1.more (s':={s1 with heap:=s1.heap.push {cls:=.type "list_iterator",data:=.fields #[.ref ax,.int 0 0]}}) (I:=s1.heap.objs.size) k0 eU ((Uc (congrArg _ (TN _ rfl)) rfl));have so:Source c s1.heap.objs.size l [s1.heap.objs.size,ax] [s1.heap.objs.size] (λi v=>vs[i]? =some v) (λi h=>h.IsListIter s1.heap.objs.size ax i/\h.IsList ax vs):=⟨hlen▸YG ok.handled s1.heap.objs.size ax (SY (Ur h1)) vs,rfl,λi h st=>by obtain ⟨⟨o,e1,e2,e3⟩,_⟩:=st;exact ⟨o,e1,by rw [e2];decide,_,e3⟩,nF⟩;have:=Ox ok so (t:=t) (x:=x) (b:=b) (xs:=xs) (λi v s' Q E st h=>by obtain ⟨⟨o,e1,e2,e3⟩,_⟩:=st;exact rC e1 (.inl e2) h) (λ{Y X s a v} Iv V nb=>ht.run (some s1.heap.objs.size) (λa e=>by obtain rfl:=Sm e;exact pM ok nF) Iv V nb) (hb _ nF) (s₀ :=s1) k0 eU (eY :=dY) (H₀ :=σ1.hs) (λι' H' h' S i v a hv ha=>by refine ay (aB.get i ((h5.aO C2).step S) ha) λw e1 e2=> ?_;replace e1:=(UE)▸e1;replace e1:=(hv)▸e1;obtain rfl:=Sm e1;exact e2) l.length 0 (by exact (Ln.n1 0x1600b200)) (Tq _) I2 (Step.refl' I2.rh) ⟨rfl,rfl⟩ (λb hb ne=>by
  rcases Tn.mp hb with rfl|hb;·exact absurd rfl ne
  ·exact (Sy.mp hb).symm▸(⟨o,C2.keep ax o h1 (λu z=>by replace z:=(h3)▸z;cases z) h4⟩)) ⟨fJ,hL.push _⟩ (by exact (VR).symm▸(ck));rw [VR] at this;refine nK (cM this λr s' z=> ?_) (λx=>ns x);cases r with
 |error e=>exact z.elim
 |ok fl=>exact z
end
def zj (h:Vr) (r:Um) (l:List Int):Prop:= ∃a b c t u v,IsRange h r a b c t u v/\Builtin.Range.small a b c=true/\Builtin.Range.rangeSize a b c=l.length/\ ∀(i:Nat) (x:Int),l[i]? =some x->x=a+i*c
theorem JH (ha:jj a=true) (hb:jj b=true) (h:b-a<=4096):Builtin.Range.small a b 1=true/\Builtin.Range.rangeSize a b 1=(b-a).toNat:=by
 have ha:=of_decide_eq_true ha;have hb:=of_decide_eq_true hb;have hs:Builtin.Range.rangeSize a b 1=(b-a).toNat:=by rw [rangeSize_one];split<;>lia
 refine ⟨?_,hs⟩;unfold Builtin.Range.small;refine (hs).symm▸ ?_;simp only [Builtin.Range.rangeFitsLong,U3,decide_eq_true_eq,W4,beq_iff_eq];have h1:(1:Int)>0:=by decide
 simp only [h1,if_true,decide_eq_true_eq,U3];refine ⟨⟨⟨⟨by lia,by omega⟩,by lia⟩,by lia⟩,?_⟩;right;omega
theorem Qa (ha:jj a=true) (hb:jj b=true) (h:a-b<=4096):Builtin.Range.small a b (-1)=true/\Builtin.Range.rangeSize a b (-1)=(a-b).toNat:=by
 have ha:=of_decide_eq_true ha;have hb:=of_decide_eq_true hb;have hs:Builtin.Range.rangeSize a b (-1)=(a-b).toNat:=by
  unfold Builtin.Range.rangeSize;have h1: ¬((-1:Int)>0):=by decide
  have h2:(-(-1):Int)=1:=by decide
  simp only [h1,if_false,h2,acN];split<;>lia
 refine ⟨?_,hs⟩;unfold Builtin.Range.small;refine (hs).symm▸ ?_;have h1: ¬((-1:Int)>0):=by decide
 simp only [Builtin.Range.rangeFitsLong,U3,decide_eq_true_eq,W4,beq_iff_eq,h1,if_false];refine ⟨⟨⟨⟨by lia,by omega⟩,by lia⟩,by lia⟩,?_⟩;right;lia
section
theorem xO {α:Type} {a r:α} {M:α->Prop} (e:(if c=true then some a else none)=some r) (k:c=true->M a):M r:=by
 cases c;·exact ns e
 ·exact Sm e▸k rfl
theorem wB {M:List J->List Int->Prop} {as:List J} (e:cG as=some l) (k1: ∀n,(jj n&&decide (n<=4096))=true->M [.int n] ((TR n.toNat).map λk:Nat=>(k:Int))) (k2: ∀a b,(jj a&&jj b&&decide (b-a<=4096))=true->M [.int a,.int b] ((TR (b-a).toNat).map λk:Nat=>a+(k:Int))) (k3: ∀a b,(jj a&&jj b&&decide (a-b<=4096))=true->M [.int a,.int b,.int (-1)] ((TR (a-b).toNat).map λk:Nat=>a-(k:Int))):M as l:=by
 rcases as with _|⟨a,r⟩;·exact ns e
 cases a<;>first|exact ns e|skip
 rename_i a;rcases r with _|⟨b,r⟩;·exact xO e (k1 a)
 cases b<;>first|exact ns e|skip
 rename_i b;rcases r with _|⟨c,r⟩;·exact xO e (k2 a b)
 cases c<;>first|exact ns e|skip
 rename_i c;rcases c with _|_|_<;>first|exact ns e|skip
 rcases r with _|_;·exact xO e (k3 a b)
 ·exact ns e
theorem CO {f:Nat->Int} (h:((TR n).map f)[i]? =some x):x=f i:=by rw [SA] at h;obtain ⟨k,hk,rfl⟩:=Sz.mp h;obtain ⟨_,hk⟩:=Sj.mp hk;rw [XK] at hk;rw [hk]
theorem sO {f:Nat->Int}:((TR n).map f).length=n:=by rw [Sp,US]
theorem vo (e:cG as=some l) (V:aB T F X H s.heap as vs) (hQ: ∀o t,zj (s.heap.push o) s.heap.objs.size l->Q (.ref s.heap.objs.size) {s with heap:=s.heap.push o,toks:=t}):wpAny (model T.prog T.w) A (PySem.call (.type "range") vs) Q E s:=by
 refine wB (M:=λas l=>aB T F X H s.heap as vs->(∀o t,zj (s.heap.push o) s.heap.objs.size l->Q (.ref s.heap.objs.size) {s with heap:=s.heap.push o,toks:=t})->wpAny (model T.prog T.w) A (PySem.call (.type "range") vs) Q E s) e ?_ ?_ ?_ V hQ;·refine λn hh V hQ=>di hh λh1 h2=>om (M:=λvs=>wpAny (model T.prog T.w) A (PySem.call (.type "range") vs) Q E s) V λt ws V=>yf (M:=λws=>wpAny (model T.prog T.w) A (PySem.call (.type "range") (.int n t::ws)) Q E s) V ?_;obtain ⟨g1,g2⟩:=JH (a:=0) (by decide) h1 (by have:=of_decide_eq_true h2;exact (Ln.z [] [_] 0x185488208212c8015220820840) this);exact call_range_1 (hQ _ _ (PK 0 n 1 _ _ _ (Zb _ _ _ _ _ _ _) g1 (by rw [g2,sO,Int.sub_zero]) λi x hx=>by rw [CO hx];exact (Ln.n1 0x5ca30884f0083c0)))
 ·refine λa b hh V hQ=>qf hh λh0 h1 h2=>om (M:=λvs=>wpAny (model T.prog T.w) A (PySem.call (.type "range") vs) Q E s) V λt ws V=>om (M:=λws=>wpAny (model T.prog T.w) A (PySem.call (.type "range") (.int a t::ws)) Q E s) V λu ws V=>yf (M:=λws=>wpAny (model T.prog T.w) A (PySem.call (.type "range") (.int a t:: .int b u::ws)) Q E s) V ?_;obtain ⟨g1,g2⟩:=JH h0 h1 (of_decide_eq_true h2);exact call_range_2 (hQ _ _ (PK a b 1 _ _ _ (Zb _ _ _ _ _ _ _) g1 (by rw [g2,sO]) λi x hx=>by rw [CO hx];exact (Ln.z [_] [_] 0x5ca30884f00028f000)))
 ·refine λa b hh V hQ=>qf hh λh0 h1 h2=>om (M:=λvs=>wpAny (model T.prog T.w) A (PySem.call (.type "range") vs) Q E s) V λt ws V=>om (M:=λws=>wpAny (model T.prog T.w) A (PySem.call (.type "range") (.int a t::ws)) Q E s) V λu ws V=>om (M:=λws=>wpAny (model T.prog T.w) A (PySem.call (.type "range") (.int a t:: .int b u::ws)) Q E s) V λy ws V=>yf (M:=λws=>wpAny (model T.prog T.w) A (PySem.call (.type "range") (.int a t:: .int b u:: .int (-1) y::ws)) Q E s) V ?_;obtain ⟨g1,g2⟩:=Qa h0 h1 (of_decide_eq_true h2);exact call_range_3 (by decide) (hQ _ _ (PK a b (-1) _ _ _ (Zb _ _ _ _ _ _ _) g1 (by rw [g2,sO]) λi x hx=>by rw [CO hx];exact (Ln.z [_] [_] 0x1728c38884f0002cf000))) (.inl (Yt (by decide+kernel)))
end
section
variable {K:Fn->List J->U->aA U J} {c:Cx} {n:Nat} {cv:J}
def aex (_:Nat->Um) (_:U) (h:Vr) (l:List Int) (v:Te):Prop:= ∃r,v=.ref r/\zj h r l
noncomputable def RI (o:aA St (List J)):aA St (List Int):=o.bind λas Y=>match cG as with
 |some l=>.ok l Y
 |none=>.bad
theorem wc (ok:c.Ok n) (hb:c.cc.bi nm=some (.type "range")) (hp:xs.all aN=true) (hl:iW (SE K c cv) r xs) (I:Inv c cv X Y s) (nb:RI (m5 K cv r Y)≠.bad):fH c c.F cv c.A aex X Y.hs s (eval (.Call (.Name nm p) xs [] q) c.env) (RI (m5 K cv r Y)):=by
 refine (?_:fH c c.F cv c.A _ X Y.hs s (eval (.Name nm p) c.env>>=λf=>callWith q f [] (backTo q (starEach xs c.env)) []) _);refine aj (av (l7 ok I hb ?_));refine gb ok hp hl D5 I nb λas σ' ι' vs s' e1 ck S1 V1 I1=> ?_;split at ck;·rename_i l hl;refine av (vo hl V1 λo t R=> ?_);obtain ⟨R',S'⟩:=I1.rh.grow (h':=s'.heap.push o) λb o' e=>SK _ e;exact d7 l σ' ι' rfl (aH _ rfl R) (I1.step (s':={s' with heap:=s'.heap.push o,toks:=t}) ok R' S') S' ⟨rfl,rfl⟩
 ·exact absurd rfl ck
theorem LO (ok:c.Ok n) (hbi:c.cc.bi nm=some (.type "range")) (hp:ys.all aN=true) (hl:iW (SE K c .ah) r ys) (ht:Tg c t x) (hb: ∀I,I∉c.F->Cv K (c.more I) b xs):SS K c (.forR t r b) (.For x (.Call (.Name nm p) ys [] q') xs [] q):=by
 refine ⟨@λY X s I nb=> ?_⟩;rw [arm_exec_For];have eq:eB K (.forR t r b) Y=(RI (m5 K .ah r Y)).bind λl Y=>cU (λv Y=>(store Y t v).bind λy Y=>cu K b Y) (l.map .int) Y:=by refine Uc (aA.bind_congr (o:=m5 K .ah r Y) λas Y=> ?_) (aA.bind_assoc ..).symm;cases cG as<;>rfl
 rw [eq] at nb⊢;refine az (aC nb (λz=>bU ok (wc ok hbi hp hl I z)) λl σ1 dY v s1 ck S1 V1 I1=> ?_);refine aQ λcT k_1=> ?_;obtain ⟨rr,rfl,a,d,st,t1,t2,t3,hr,hsm,hsz,hx⟩:=V1;refine k_1 ?_;rw [l8 rfl];refine aj (ao (az ?_));refine aj (aD (av (abo hr hsm ?_)));refine (hsz).symm▸ ?_;have k0: ∀b o,s1.heap.get? b=some o->(s1.heap.push {cls:=.type "range_iterator",data:=.fields #[rawInt a,rawInt l.length,rawInt st]}).get? b=some o:=λb o e=>SK _ e;have nF:=mG I1;refine dD (I1.more (s':={s1 with heap:=s1.heap.push {cls:=.type "range_iterator",data:=.fields #[rawInt a,rawInt l.length,rawInt st]}}) (I:=s1.heap.objs.size) k0 eU ((Uc (congrArg _ (TN _ rfl)) rfl))) λI2 C2=> ?_;have so:Source c s1.heap.objs.size (l.map .int) [s1.heap.objs.size] [s1.heap.objs.size] (λi v=> ∃t,v=.int (a+i*st) t) (λi h=>aa0 h s1.heap.objs.size (a+(i:Nat)*st) ((l.length:Int)-(i:Nat)) st):=⟨by rw [(Sp _)];exact ab2 ok.handled s1.heap.objs.size a st l.length,rfl,λi h z=>⟨_,z,(by refine (?_:VK "range_iterator"≠.type "frame");decide),_,rfl⟩,nF⟩;have:=Ox ok so (t:=t) (x:=x) (b:=b) (xs:=xs) (λi v s' Q E z h=>rC z (.inr rfl) h) (λ{Y X s a v} Iv V nb=>ht.run (some s1.heap.objs.size) (λa e=>by obtain rfl:=Sm e;exact pM ok nF) Iv V nb) (hb _ nF) (s₀ :=s1) k0 eU (eY :=dY) (H₀ :=σ1.hs) (λι' H' h' S i v w hv ha=>by replace ha:=(SA)▸ha;refine ay (Sz.mp ha) λk hk K1=> ?_;clear ha;subst K1;obtain ⟨tk,rfl⟩:=hv;rw [hx i k hk];exact ⟨tk,rfl⟩) (l.map J.int).length 0 (by exact (Ln.n1 0x1600b200)) (Tq _) I2 (Step.refl' I2.rh) ⟨rfl,rfl⟩ (λb hb ne=>absurd (Sy.mp hb) ne) (by
  refine (?_:aa0 (s1.heap.push _) _ _ _ _);have:(a+((0:Nat):Int)*st)=a:=by simp
  refine (this).symm▸ ?_;have:((l.length:Int)-((0:Nat):Int))=l.length:=rfl;rw [this];exact TN _ rfl) (by exact (VR).symm▸(ck));rw [VR] at this;refine nK (cM this λr s' z=> ?_) (λx=>ns x);cases r with
 |error e=>exact z.elim
 |ok fl=>exact z
end
section
theorem Dn (h:dH (model prog w) (A.deeper env) (execs body env) (λf s'=>R (.ok (.ret (match f with
 | .ret v=>v
 |_=>.none))) s') (λe s'=>dH (model prog w) (A.deeper env) (leaving env e) (λz s''=>R (.error e) s'') (λe' s''=>R (.error e') s'') s') s):cW (model prog w) A (.func body env) R s:=by
 refine bB rfl ((?_:dH _ (A.deeper env) (do
  point;
  match<-(execs body env).onRaise (leaving env) with
   | .ret v=>ret v
   |_=>ret .none) _ _ s));refine aj (wO (aj (cO (aK h (λf s' h'=> ?_) λz z h'=>h'))));cases f<;>exact ao h'
theorem mX {a:Um} {o:Obj} (hroom:A.depth<Zj) (ho:s.heap.get? a=some o) (hd':o.data=.func fd) (hco:fd.scope.isCoroutine=false) (hgen:fd.scope.isGenerator=false) (hbody:fd.body=.stmts body) (hcd:s.heap.CodeRec fd.code fd.qualname) (h:wpAny (model prog w) A.in1 (bindArgs fd args) (λbinds s₁=>wpAny (model prog w) A.in1 (newFunctionEnv fd.scope fd.globals fd.closure binds (fd.qualname++".<locals>.") (some a) fd.code none fd.builtins) (λenv s₂=>s₂.heap.NoLimit/\cW (model prog w) A (.func body env) R s₂) (λe s'=>R (.error e) s') s₁) (λe s'=>R (.error e) s') s):cW (model prog w) A (.call (.ref a) args) R s:=by refine bB rfl (av ?_);refine (?_:wpAny _ A.in1 (callAny (.ref a) args) _ _ s);refine Sw (VZ ho ?_);refine vC hcd λc oc vs tq hc hoc hdc hq=> ?_;simp only [hd',callFunction,hco,hgen,hbody,hc];rw [hc] at h;refine Sw (m:=field (.ref c) 1) (Xa hoc hdc hq (Sw (SN ?_)));exact Sw (Wo h (λbinds s₁ h₁=>Sw (Wo h₁ (λenv s₂ h₂=>Sw (wpAny_enterFrame h₂.1 hroom (SN (Xj rfl h₂.2)))) λz z h'=>h')) λz z h'=>h')
end
section
noncomputable def cV (c:Cx):List Nat->List UI->Prop
 |[],[]=>True
 |i::l,x::xs=>(∃nm p,x=.Name nm p/\nq c i nm)/\cV c l xs
 |_,_=>False
theorem cV.more: ∀{l:List Nat} {xs:List UI},cV c l xs->cV (c.more I) l xs:=by
 intro l_;induction l_ with
 |nil=>
  intro m_;cases m_ with
  |nil=>exact @λz=>trivial
  |cons _ _=>exact @λh=>h.elim
 |cons _ LB aG=>
  intro m_;cases m_ with
  |nil=>exact @λh=>h.elim
  |cons _ _=>exact @λsP=>by obtain ⟨⟨nm,p,e,m⟩,h⟩:=sP;exact ⟨(gv nm p e ⟨m.bP,m.kind,m.cell⟩),aG h⟩
theorem qD: ∀{l:List Nat} {xs:List UI},cV c l xs->assignEach xs env=xs.map λx=>(false,assign x env):=by
 intro l_;induction l_ with
 |nil=>
  intro m_;cases m_ with
  |nil=>exact @λz=>rfl
  |cons _ _=>exact @λh=>h.elim
 |cons _ LB aG=>
  intro m_;cases m_ with
  |nil=>exact @λh=>h.elim
  |cons _ ys=>exact @λsP=>by obtain ⟨⟨nm,p,e,m⟩,h⟩:=sP;subst e;have:assignEach (.Name nm p::ys) env=(false,assign (.Name nm p) env)::assignEach ys env:=rfl;rw [this,aG h];rfl
theorem cV.length: ∀{l:List Nat} {xs:List UI},cV c l xs->l.length=xs.length:=by
 intro l_;induction l_ with
 |nil=>
  intro m_;cases m_ with
  |nil=>exact @λz=>rfl
  |cons _ _=>exact @λh=>h.elim
 |cons _ LB aG=>
  intro m_;cases m_ with
  |nil=>exact @λh=>h.elim
  |cons _ _=>exact @λsP=>by obtain ⟨_,h⟩:=sP;exact congrArg (· +1) (aG h)
theorem Gh: ∀{l:List Nat} {as:List J} {Y:St},Az Y l as≠.bad->l.length=as.length:=by
 intro l_;induction l_ with
 |nil=>
  intro m_;cases m_ with
  |nil=>exact @λy y=>rfl
  |cons _ _=>exact @λy h=>absurd rfl h
 |cons i l aG=>
  intro m_;cases m_ with
  |nil=>exact @λy h=>absurd rfl h
  |cons a as=>
   exact @λY h=>by
    by_cases q:i<Y.ls.length;·exact congrArg (· +1) (aG (λz=>h ((congrArg (aA.bind · _) (if_pos q)).trans z)))
    ·exact absurd (congrArg (aA.bind · _) (if_neg q)) h
theorem Cw (ok:c.Ok n) (ow:c.Own): ∀{l:List Nat} {xs:List UI} {as:List J} {vs:List Te} {Y X s},cV c l xs->Inv c .ah X Y s->aB c.T c.F X Y.hs s.heap as vs->Az Y l as≠.bad->fH c c.P .ah c.A (λ_ _ _ (_:Unit) (_:Unit)=>True) X Y.hs s (assignInOrder (xs.map λx=>assign x c.env) vs) (Az Y l as):=by
 intro l_;induction l_ with
 |nil=>
  intro xs as vs Y X s h I V nb;cases xs with
  |cons _ _=>exact h.elim
  |nil=>
   cases as with
   |cons _ _=>exact absurd rfl nb
   |nil=>
    cases vs with
    |cons _ _=>exact V.elim
    |nil=>exact bE I trivial rfl
 |cons i l aG=>
  intro xs as vs Y X s h I V nb;cases xs with
  |nil=>exact h.elim
  |cons x xs=>
   cases as with
   |nil=>exact absurd rfl nb
   |cons a as=>
    cases vs with
    |nil=>exact V.elim
    |cons v vs=>obtain ⟨⟨nm,p,e,m⟩,h⟩:=h;subst e;exact aC nb (λz=>cE (jZ ok ow m I V.1)) λz σ1 dY z s1 ck S1 z I1=>aG h I1 (V.2.step S1) ck
theorem qU (ok:c.Ok n) (ow:c.Own) (h:cV c l xs) (I:Inv c .ah X Y s) (V:aE c.T c.F X Y.hs s.heap a v) (nb:store Y (.bW l) a≠.bad):fH c c.P .ah c.A (λ_ _ _ (_:Unit) (_:Unit)=>True) X Y.hs s (assign (.Tuple xs k p) c.env v) (store Y (.bW l) a):=by
 rw [arm_assign_Tuple];refine az (aQ λcT k_1=> ?_);cases a<;>first|exact absurd rfl nb|skip
 rename_i as;obtain ⟨cl,ax,o,vs,ep,rfl,h1,h2,h3,h4,h5⟩:=V;have hlen:xs.length=vs.size:=by
  have e1:l.length=as.length:=Gh nb;have e2:l.length=xs.length:=h.length;have e3:as.length=vs.size:=by have:=h5.length;rwa [Tv] at this
  exact (Ln.n4 0x186185830960c1582016040) e1 e2 e3
 refine k_1 ?_;unfold unpack;refine (qD h).symm▸ ?_;have e1:(xs.map λx=>((false,assign x c.env):Bool×(Te->Sem Unit))).findIdx? (·.1)=none:=by rw [List.findIdx?_eq_none_iff];intro x hx;refine ay (Tr.mp hx) λy z d9=> ?_;clear hx;subst d9;rfl
 rw [e1,Sp,hlen];refine aj (aD (av (unpackItems_tuple ok.handled (⟨o,h1,h2,ep,h3⟩) λh' he=> ?_)));refine dD (I.rh.grow (h':=h') λb o e=>he b o (SY (Ur e)) e) λR' S=> ?_;have I':Inv c .ah X Y {s with heap:=h'}:=I.step (s':={s with heap:=h'}) ok R' S;rw [Uo];have:=Cw ok ow h I' (h5.step S) nb;exact aK this (λz z r=>Res.older (s:=s) (s':={s with heap:=h'}) (S.sub ok.PF) ⟨rfl,rfl⟩ r) λz z x=>IS.older (s:=s) (s':={s with heap:=h'}) (S.sub ok.PF) ⟨rfl,rfl⟩ x λz e=>e
theorem Q0 (ok:c.Ok n) (ow:c.Own) (h:cV c l xs):Tg c (.bW l) (.Tuple xs k p):=⟨λI hI {Y X s a v} Iv V nb=>by
 cases I with
 |none=>exact qU ok ow h Iv V nb
 |some b=>exact dD (hI b rfl) λh1 h2=>qU (c:=c.more b) (ok.more b) (ow.more h1 h2) h.more Iv V nb⟩
end
noncomputable def IQ (x:UI):Bool:= !(x.ctorIdx==25)
theorem Ct (h:IQ y=true):swappedStores [.Tuple xs k p] y env=pure none:=by cases y<;>first|rfl|exact gV h
section
variable {K:Fn->List J->U->aA U J} {c:Cx} {n:Nat}
theorem B6 (ok:c.Ok n) (ow:c.Own) (h:cV c l xs) (hn:jP y=true) (ht:IQ y=true) (he:SE K c .ah e y):SS K c (.assign (.bW l) e) (.Assign [.Tuple xs k p] y q):=by
 refine ⟨@λY X s I nb=> ?_⟩;rw [arm_exec_Assign];have e1:swapsWithSole [.Tuple xs k p] y q.line c.env=pure false:=by unfold swapsWithSole;exact pF hn
 refine (e1).symm▸((Ct ht).symm▸ ?_);refine az (aj (ao ?_));refine aC nb (λz=>bU ok (he.run I z)) λa σ1 dY v s1 ck S1 V1 I1=>aj (ao ?_);refine (?_:fH c c.P .ah c.A (Gd c) dY σ1.hs s1 (assign (.Tuple xs k p) c.env v>>=λu=>pure PySem.Flow.next) _);exact aC ck (λz=>qU ok ow h I1 V1 z) λu σ2 sJ u s2 kK S2 V2 I2=>bE I2 trivial rfl
end
theorem funFrames_base {B base h:Vr}: ∀{l:List Env},(∀e∈l,∀L,e.frame=some L->base.get? L=none)->h.FunFrames B l->h.FunFrames base l:=by
 intro l_;induction l_ with
 |nil=>exact @λz z=>trivial
 |cons e l aG=>exact @λk Rk=>by obtain ⟨h1,⟨L,o,h2,h3,h4,h5⟩,h6⟩:=Rk;exact ⟨h1,(nN L o h2 (k e (.head _) L h2) h4 h5),aG (λe he=>k e (.tail _ he)) h6⟩
theorem yu {B h:Vr}: ∀{l:List Env},h.FunFrames B l-> ∀e∈l,∀L,e.frame=some L-> ∃o,h.get? L=some o/\(∀vs,o.data≠.fields vs)/\B.get? L=none:=by
 intro l_;induction l_ with
 |nil=>exact @λz z he z z=>((by cases he))
 |cons e l aG=>
  exact @λsP e' he L' hL=>by
   obtain ⟨_,⟨L,o,h2,h3,h4,h5⟩,h6⟩:=sP;rcases Tn.mp he with rfl|he;·replace hL:=(h2)▸hL;obtain rfl:=Sm hL;exact iw o h4 h5 h3
   ·exact aG h6 e' he L' hL
theorem uR {B:Vr} {eY X:Nat->Um} {h₀ h h':Vr} (R:RH T B F X H h) (Fr:h.FunFrames B l) (yv: ∀e∈l,∀L,e.frame=some L->L∈F) (S:Step P F eY H₀ h₀ X H h) (hB: ∀b o,B.get? b=some o->h₀.get? b=some o) (hF: ∀b∈F,(h₀.get? b).isSome=true) (fX: ∀x∈a::ι,h₀.get? x=none/\ ∃o vs,h.get? x=some o/\o.data=.fields vs) (Lf:Heap.Left (hideAll h (l.filterMap (·.frame)++(a::ι))) l a cls h h') (hc:cls=.ref (T.cl (.of 16))):(RH T B F X H h'/\Carry F X H h F X H h'/\ ∀b o,h.get? b=some o->(∀vs,o.data≠.fields vs)-> ∃sl,h'.get? b=some {o with slots:=sl})/\h'.FunFrames B l/\Step P F eY H₀ h₀ X H h'/\Ly T h₀ (.ref a) h':=by
 refine rP Lf λk1 k2 k3 k4=> ?_;have Ck: ∀b,b∈l.filterMap (·.frame)-> ∃o,h.get? b=some o/\(∀vs,o.data≠.fields vs)/\b∈F/\B.get? b=none:=λb hb=>by exact ay (UZ.mp hb) λe he hL=>fY (yu Fr e he b hL) λo z1 z2 z3=>vD o z1 z2 (yv e he b hL) z3
 have wF: ∀b o,h.get? b=some o->b∉l.filterMap (·.frame)->b∉a::ι->h'.get? b=some o:=λb o e n1 n2=>k1 b o (hideAll_get _ e λq=>by rcases SW.mp q with q|q;exact n1 q;exact n2 q);have aaP: ∀b o,h.get? b=some o->(∀vs,o.data≠.fields vs)->b∉a::ι:=λb o e nd q=>by obtain ⟨_,o',vs,z1,z2⟩:=fX b q;replace z1:=(e)▸z1;obtain rfl:=Sm z1;exact nd vs z2
 have C:Carry F X H h F X H h':=⟨λb o e nd n=>⟨wF b o e (λq=>n (.inl (by exact qS (Ck b q) λy y y z y=>z))) (aaP b o e nd),n⟩,λy y=>rfl,Sv _⟩;have al: ∀b,(h₀.get? b).isSome=true->(h'.get? b).isSome=true:=λb e=>by
  obtain ⟨o,ho⟩:=SM.mp (S.alive b e);by_cases q:b∈l.filterMap (·.frame);·refine fY (Ck b q) λo' z1 z2 y=> ?_;obtain ⟨sl,z⟩:=k4 b o' z1 z2;rw [z];rfl
  ·rw [wF b o ho q λz=>by replace e:=((fX b z).1)▸e;cases e];rfl
 refine ⟨⟨⟨λb o e=> ?_,R.fin,λx o e=> ?_,R.inj,R.fc,λb hb=>⟨(R.fr b hb).1,SM.mp (al b (hF b hb))⟩⟩,C,k4⟩,?_,?_,?_⟩;·refine wF b o (R.base b o e) (λq=>by refine qS (Ck b q) λy y y y z=> ?_;replace e:=(z)▸e;cases e) λq=> ?_;have:=hB b o e;rw [(fX b q).1] at this;cases this
 ·have nf: ∀ob,h.get? (X x)=some ob->X x∉l.filterMap (·.frame):=λob y q=>by exact qS (Ck _ q) λy y y z y=>(R.fc x (by refine (e).symm▸ ?_;rfl)).1 z
  refine (R.obj x o e).aO C λob eb=>wF _ ob eb (nf ob eb) (aaP _ ob eb ?_);have ro:=R.obj x o e;clear e;cases o<;>simp only [qe] at ro;·obtain ⟨_,o',_,_,z1,_,z2,_⟩:=ro;replace z1:=(eb)▸z1;obtain rfl:=Sm z1;exact λvs z=>by replace z:=(z2)▸z;cases z
  ·refine dM ro λy y z1 y=> ?_;replace z1:=(eb)▸z1;obtain rfl:=Sm z1;exact λvs z=>by cases z
  ·refine ay ro λy abw y=>Fg abw λo' y y z1 y z2 y=> ?_;replace z1:=(eb)▸z1;obtain rfl:=Sm z1;exact λvs z=>by replace z:=(z2)▸z;cases z
  ·obtain ⟨_,o',z1,_,z2,_⟩:=ro;replace z1:=(eb)▸z1;obtain rfl:=Sm z1;exact λvs z=>by replace z:=(z2)▸z;cases z
 ·refine gW (λb o e nd=> ?_) Fr;obtain ⟨sl,z⟩:=k4 b o e nd;exact aH _ z nd
 ·refine ⟨λb o e n=> ?_,λb hb o e=> ?_,al,S.ext,S.dom,S.new,S.mono⟩;·refine wF b o (S.keep b o e n) (λq=>n (.inl (by exact qS (Ck b q) λy y y z y=>z))) λz=>by rw [(fX b z).1] at e;cases e
  ·refine ay (S.slots b hb o e) λsl e1 e2=> ?_;by_cases q:b∈l.filterMap (·.frame);·refine qS (Ck b q) λo' z1 z2 y y=> ?_;replace z1:=(e1)▸z1;obtain rfl:=Sm z1;obtain ⟨sl',z⟩:=k4 b _ e1 z2;exact aH sl' z (λ⟨vs,hv⟩=>absurd hv (z2 vs))
   ·exact aH sl (wF b _ e1 q (λz=>by replace e:=((fX b z).1)▸e;cases e)) e2
 ·refine iw a rfl ((fX a (.head _)).1) (.inr ?_);clear Lf;subst hc;refine aaW k3 λoe vs T' oT ts t1 t2 t3 t4 t5 t6 t7 t8 t9=>aa9 oe vs T' oT ts t1 t2 t3 t4 ?_ t6 t7 t8 t9;cases z:h₀.get? T' with
  |none=>rfl
  |some o=>
   exfalso;obtain ⟨o',ho'⟩:=SM.mp (S.alive T' (by refine (z).symm▸ ?_;rfl));by_cases q:T'∈l.filterMap (·.frame);·refine fY (Ck T' q) λo2 z1 z2 y=> ?_;obtain ⟨sl,w⟩:=k4 T' o2 z1 z2;replace w:=(t7)▸w;obtain rfl:=Sm w;exact z2 _ t8
   ·have nX:T'∉a::ι:=λw=>by replace z:=((fX T' w).1)▸z;cases z
    have:=hideAll_get (l.filterMap (·.frame)++(a::ι)) ho' λw=>by rcases SW.mp w with w|w;exact q w;exact nX w
    replace this:=(t5)▸this;cases this
theorem zY (hfr:A.frames=some (env::outer)) (hf:env.frame=some L) (R:RH T B F X H s.heap) (Fr:s.heap.FunFrames B (env::outer)) (yv: ∀e∈env::outer,∀L,e.frame=some L->L∈F) (S:Step P F eY H₀ h₀ X H s.heap) (hB: ∀b o,B.get? b=some o->h₀.get? b=some o) (hF: ∀b∈F,(h₀.get? b).isSome=true) (f:Ly T h₀ e s.heap) (hQ: ∀h',RH T B F X H h'->Carry F X H s.heap F X H h'->(∀b o,s.heap.get? b=some o->(∀vs,o.data≠.fields vs)-> ∃sl,h'.get? b=some {o with slots:=sl})->h'.FunFrames B (env::outer)->Step P F eY H₀ h₀ X H h'->Ly T h₀ e h'->Q () {s with heap:=h'}):wpAny M A (leaving env e) Q E s:=by
 refine fY f λa nR fa q=> ?_;clear f;subst nR;have hid: ∀(ι:List Um),∀e∈env::outer,∀L,e.frame=some L->(hideAll s.heap ((env::outer).filterMap (·.frame)++(a::ι))).get? L=none:=λι e he L hL=>hideAll_none _ (TP _ (UZ.mpr (aH e he hL)));rcases q with ⟨o,vs,h1,h2,h3,h4⟩|ht;·refine wpAny_leaving_first (base:=hideAll s.heap ((env::outer).filterMap (·.frame)++[a])) hfr (funFrames_base (hid []) Fr) hf h1 (λb o e=>of_hideAll _ e) (hideAll_none _ (S9 _ (.head _))) h3 h4 λh' Lf=> ?_;rw [h2] at Lf;refine rP (uR (ι:=[]) R Fr yv S hB hF (λx hx=>by exact (Sy.mp hx).symm▸(⟨fa,o,vs,h1,h3⟩)) Lf rfl) λaeg r2 r3 r4=> ?_;exact g8 aeg λr1 r5 r6=>hQ h' r1 r5 r6 r2 r3 r4
 ·refine aaW ht λoe vs T' oT ts t1 t2 t3 t4 t5 t6 t7 t8 t9=> ?_;refine wpAny_leaving_next (base:=hideAll s.heap ((env::outer).filterMap (·.frame)++[a,T'])) (cls:=.ref (T.cl (.of 16))) hfr (funFrames_base (hid [T']) Fr) hf (aa9 oe vs T' oT ts t1 t2 t3 t4 (hideAll_none _ (S9 _ (.tail _ (.head _)))) t6 t7 t8 t9) (λb o e=>of_hideAll _ e) (hideAll_none _ (S9 _ (.head _))) λh' Lf=> ?_;refine rP (uR (ι:=[T']) R Fr yv S hB hF (λx hx=>by
   clear hQ hid ht t6 Lf;rcases Tn.mp hx with rfl|hx;·exact ⟨fa,oe,vs,t1,t3⟩
   ·exact (Sy.mp hx).symm▸(⟨t5,oT,ts,t7,t8⟩)) Lf rfl) λac1 r2 r3 r4=> ?_;exact g8 ac1 λr1 r5 r6=>hQ h' r1 r5 r6 r2 r3 r4
theorem m6 {G:Prop} (q:excIn.match_6 (λz=>Bool) o f (λz=>false)=true) (k: ∀dd cd sl,o=some ⟨.type "type",dd,.cls cd,sl⟩->f dd cd sl=true->G):G:=by
 cases o with
 |none=>exact gV q
 |some o=>
  obtain ⟨cls,dd,data,sl⟩:=o;cases cls<;>first|exact gV q|skip
  rename_i s;by_cases hs:s="type";·
   subst hs;cases data<;>first|exact gV q|skip
   exact k dd _ sl rfl q
  ·delta excIn.match_6 at q;exact absurd q (ne_true_of_eq_false ((dif_neg hs).trans rfl))
theorem m1 {G:Prop} {m:List Te} (q:excIn.match_1 (λz z=>Bool) m l f (λz z=>false)=true) (k: ∀C bm k0 k1 k2 k3 n k5,m=.ref C::bm->l=[k0,k1,k2,k3,some (.builtin n),k5]->f C bm k0 k1 k2 k3 n k5=true->G):G:=by
 rcases m with _|⟨m,bm⟩;·exact gV q
 cases m<;>first|exact gV q|skip
 rcases l with _|⟨k0,_|⟨k1,_|⟨k2,_|⟨k3,_|⟨k4,r⟩⟩⟩⟩⟩<;>first|exact gV q|skip
 rcases k4 with _|v;·exact gV q
 cases v<;>first|exact gV q|skip
 rcases r with _|⟨k5,_|_⟩<;>first|exact gV q|skip
 exact k _ _ _ _ _ _ _ _ rfl rfl q
theorem m2 (hm:cd.mro=.ref C::bm) (hl:sl.toList=[k0,k1,k2,k3,some (.builtin n),k5]) (hd:cd.hasDel=false):(⟨.type "type",dd,.cls cd,sl⟩:Obj)=excClassObj cd.name cd.qualname C cd.ns cd.bases bm cd.hasDict cd.slotNames cd.subclasses cd.abstract cd.collection dd k0 k1 k2 k3 k5 n:=by obtain ⟨l⟩:=sl;cases cd;cases hm;cases hl;cases hd;rfl
theorem wA {K:abn} (ι:K.In h) (q:excIn K C bmB newId=true): ∃bm N nm qn bs hd sn sub ab col dd k0 k1 k2 k3 k5,∃mN:Str->Option Te,h.get? C=some (excClassObj nm qn C N bs bm hd sn sub ab col dd k0 k1 k2 k3 k5 newId)/\h.Ns N mN/\mN "__init__"=none/\OwnTail h bmB bm:=by refine m6 q λdd cd sl ho q=>m1 q λC' bm k0 k1 k2 k3 n k5 hm hl q=> ?_;exact di q λq hni=>F6 q λq1 q2 aet ht hok=>⟨bm,cd.ns,cd.name,cd.qualname,cd.bases,cd.hasDict,cd.slotNames,cd.subclasses,cd.abstract,cd.collection,dd,k0,k1,k2,k3,k5,_,(ι _ _ ho).trans (congrArg some (m2 (hm.trans (congrArg (λc=>Yl c::bm) (beq_iff_eq.mp q1))) (hl.trans (congrArg (λn=>[k0,k1,k2,k3,some (.builtin n),k5]) (beq_iff_eq.mp q2))) ((Vv _).mp aet))),.of_isNs (isNs_of_in ι hok),nsMap_none_of_in ι hok (beq_iff_eq.mp hni),tail_of_in ι ht⟩
section
variable {K:Fn->List J->U->aA U J} {c:Cx} {n:Nat}
theorem Iz (ok:c.Ok n) (F:ExcBaseFacts B newId initId bmB) (hB:bmB.contains (.type "BaseException")=true) (hx:excIn c.T.K (c.T.cl (.of 16)) bmB newId=true) (ht:c.cc.top nm=some (.ref (c.T.cl (.of 16)))):SS K c .raise (.Raise (some (.Call (.Name nm p) [.Constant (.str w) kk p2] [] q)) none q2):=by refine ⟨@λY X s I nb=> ?_⟩;refine aQ λcT k_1=> ?_;obtain ⟨bm,N,n1,qn,bs,hd,sn,sub,ab,col,dd,k0,k1,k2,k3,k5,mN,g1,g2,g3,g4⟩:=wA (I.wJ ok) hx;refine k_1 (av (wpAny_Raise_call_subT (nm:=n1) (q:=qn) (C:=c.T.cl (.of 16)) (N:=N) (bs:=bs) (bm:=bm) (hdct:=hd) (sn:=sn) (sub:=sub) (ab:=ab) (col:=col) (dd:=dd) (k0:=k0) (k1:=k1) (k2:=k2) (k3:=k3) (k5:=k5) F (g4.hasType hB) ok.handled rfl g3 (lJ ok I ht ⟨rfl,?_⟩)));refine Calls.evalArgs_plain (Calls.spliced_cons (wpAny_Constant_str (k:=kk) (pos:=p2) (Calls.spliced_nil ⟨rfl,(by refine (sizeLine_eq).symm▸((?_:1<=_));exact (Ln.z [] [] 0x14220820820821221)),g1,g2,g4,λh' e hm=> ?_⟩)));exact dD (I.rh.grow (h':=h') hm.keeps) λR' S=>fY hm.there λt h1 y y=>rJ Y X rfl (iw e rfl hm.new (.inl (nN _ _ h1 rfl rfl rfl))) R' (I.step (s':={s with heap:=h',toks:=s.toks+1}) ok R' S) (S.sub ok.PF) ⟨rfl,rfl⟩
end
noncomputable def aA.gr {α:Type} (ls:List J):aA St α->Prop
 | .ok _ Y=>Y.ls=ls
 | .exc Y=>Y.ls=ls
 | .bad=>True
theorem aA.gr.bind {α β:Type} {o:aA St α} {f:α->St->aA St β} (h:o.gr ls) (k: ∀a Y,Y.ls=ls->(f a Y).gr ls):(o.bind f).gr ls:=by
 cases o with
 |ok a Y=>exact k a Y h
 |exc Y=>exact h
 |bad=>trivial
theorem aA.gr.calm {α:Type} {o:aA St α} (h:o.gr ls):o.calm.gr ls:=by
 cases o with
 |ok a Y=>exact h
 |exc Y=>trivial
 |bad=>trivial
theorem aA.gr.cC {α:Type} {o:Option α} (h:Y.ls=ls):(aA.cC Y o).gr ls:=by
 cases o with
 |none=>trivial
 |some a=>exact h
theorem zb (hf: ∀a Y,Y.ls=ls->(f a Y).gr ls): ∀(l:List J) (Y:St),Y.ls=ls->(each f l Y).gr ls:=by
 intro l_;induction l_ with
 |nil=>exact @λY h=>h
 |cons a r aG=>exact @λY h=>by exact (hf a Y h).calm.bind λo σ1 h1=>(aG σ1 h1).bind λl σ2 h2=>h2
section
variable (K:Fn->List J->U->aA U J)
theorem ue (h:Y.ls=ls):(gM K f args Y).gr ls:=by unfold gM;cases K f args Y.hs<;>first|exact h|trivial
theorem aA.gr.ite {α:Type} [Decidable p] {a:α} (h:Y.ls=ls):(if p then aA.ok a Y else .bad).gr ls:=by
 by_cases z:p;·rw [if_pos z];exact h
 ·rw [if_neg z];trivial
noncomputable def JP (Y:St) (o:Option (J⊕List J)):aA St J:=match o with
 |some (.inl v)=>.ok v Y
 |some (.inr l)=>.ok (.ref Y.hs.n) ⟨Y.ls,Y.hs.new (.O l)⟩
 |none=>.bad
noncomputable def K5 (C:Cl) (l:List J) (Y:St):aA St J:=match jS C with
 |some f=>(gM K f (.aI C Y.hs.n::l) ⟨Y.ls,Y.hs.new (.cj [])⟩).bind λv σ'=>match v with
  | .none=>.ok (.aI C Y.hs.n) σ'
  |_=>.bad
 |none=>match l with
  |[]=>if C=(.of 1) then .ok (.aI C Y.hs.n) ⟨Y.ls,Y.hs.new (.cj [])⟩ else .bad
  |_=>.bad
noncomputable def M4 (o:aA St (List J)) (K:Fn->List J->U->aA U J) (x:J) (f:Option Fn):aA St J:=match f with
 |some f=>o.bind λl Y=>gM K f (x::l) Y
 |none=>.bad
noncomputable def Hh (v:J) (c:sf) (Y:St):aA St Bool:=match c with
 | .none=>.ok true Y
 | .some c=>jN (bk K v c Y)
noncomputable def fE (e:Ex) (c:sf) (v:J) (Y:St):aA St (Option J):=(Hh K v c Y).bind λb Y=>if b then (bk K v e Y).bind λu Y=>.ok (some u) Y else .ok none Y
set_option smartUnfolding false in theorem k8:bk K cv (.comp e it c) Y=(bk K cv it Y).bind λx Y=>match x with
 | .O l=>(each (fE K e c) l Y).bind λl Y=>.ok (.ref Y.hs.n) ⟨Y.ls,Y.hs.new (.O l)⟩
 |_=>.bad:=by cases c<;>rfl
set_option smartUnfolding false in theorem jC:bk K cv (.gp e r c) Y=(RI (m5 K cv r Y)).bind λl Y=>(each (fE K e c) (l.map .int) Y).bind λl Y=>.ok (.ref Y.hs.n) ⟨Y.ls,Y.hs.new (.O l)⟩:=by
 refine Uc (b:=(m5 K cv r Y).bind λx Y=>match cG x with
  |some l=>(each (fE K e c) (l.map .int) Y).bind λl Y=>.ok (.ref Y.hs.n) ⟨Y.ls,Y.hs.new (.O l)⟩
  |none=>.bad) ?_ ((aA.bind_congr λx Y=> ?_).trans (aA.bind_assoc ..).symm);·cases c<;>rfl
 ·cases cG x<;>rfl
mutual theorem br: ∀(cv:J) (e:Ex) (Y:St),Y.ls=ls->(bk K cv e Y).gr ls
 |cv,.lit v,Y,h=>h
 |cv,.var i,Y,h=>by
  refine (?_:aA.gr ls (cg Y i));unfold cg;cases Y.ls[i]? with
  |none=>trivial
  |some v=>cases v<;>first|exact h|trivial
 |cv,.cvar,Y,h=>h
 |cv,.glob g,Y,h=>h
 |cv,.bin op a b,Y,h=>(br cv a Y h).bind λx σ1 h1=>(br cv b σ1 h1).bind λy σ2 h2=>by
  cases oz σ2.hs op x y with
  |none=>exact .cC h2
  |some l=>exact .ite h2
 |cv,.neg a,Y,h=>(br cv a Y h).bind λx σ1 h1=>by cases x<;>first|exact h1|trivial
 |cv,.not a,Y,h=>(br cv a Y h).bind λx σ1 h1=>by cases x<;>first|exact h1|trivial
 |cv,.and l,Y,h=>zI cv l Y h
 |cv,.or l,Y,h=>D0 cv l Y h
 |cv,.cmp op a b,Y,h=>(br cv a Y h).bind λx σ1 h1=>(br cv b σ1 h1).bind λy σ2 h2=>.cC h2
 |cv,.ite c a b,Y,h=>(br cv c Y h).bind λx σ1 h1=>by
  cases x<;>first|trivial|skip
  rename_i b;cases b;·exact br cv _ σ1 h1
  ·exact br cv a σ1 h1
 |cv,.attr a f,Y,h=>(br cv a Y h).bind λx σ1 h1=>.cC h1
 |cv,.item a i,Y,h=>(br cv a Y h).bind λx σ1 h1=>(br cv i σ1 h1).bind λy σ2 h2=>.cC h2
 |cv,.slice a lo hi,Y,h=>(br cv a Y h).bind λx σ1 h1=>(Ia cv lo σ1 h1).bind λy σ2 h2=>(Ia cv hi σ2 h2).bind λz σ3 h3=>by refine (?_:aA.gr ls (JP σ3 (cN σ3.hs x y z)));rcases cN σ3.hs x y z with _|_|_<;>first|exact h3|trivial
 |cv,.bW l,Y,h=>(nW cv l Y h).bind λx σ1 h1=>h1
 |cv,.list l,Y,h=>(nW cv l Y h).bind λx σ1 h1=>h1
 |cv,.comp e it c,Y,h=>by
  rw [k8];refine (br cv it Y h).bind λx σ1 h1=> ?_;cases x<;>first|trivial|skip
  refine (zb (λv Y hσ=> ?_) _ σ1 h1).bind λl σ2 h2=>h2;refine aA.gr.bind (ls:=ls) ?_ λb σ3 h3=> ?_;·
   cases c with
   |none=>exact hσ
   |some c=>refine (br v c Y hσ).bind λb PC h4=> ?_;cases b<;>first|exact h4|trivial
  ·cases b;·exact h3
   ·exact (br v e σ3 h3).bind λu PC h4=>h4
 |cv,.gp e r c,Y,h=>by
  rw [jC];refine aA.gr.bind (ls:=ls) ((nW cv r Y h).bind λx σ1 h1=>by cases cG x<;>first|exact h1|trivial) λl σ1 h1=>(zb (λv Y hσ=> ?_) _ σ1 h1).bind λl σ2 h2=>h2;refine aA.gr.bind (ls:=ls) ?_ λb σ3 h3=> ?_;·
   cases c with
   |none=>exact hσ
   |some c=>refine (br v c Y hσ).bind λb PC h4=> ?_;cases b<;>first|exact h4|trivial
  ·cases b;·exact h3
   ·exact (br v e σ3 h3).bind λu PC h4=>h4
 |cv,.ru,Y,h=>h
 |cv,.q7,Y,h=>h
 |cv,.call f l,Y,h=>(nW cv l Y h).bind λx σ1 h1=>ue K h1
 |cv,.new C l,Y,h=>(nW cv l Y h).bind λx σ1 h1=>by
  refine (?_:aA.gr ls (K5 K C x σ1));unfold K5;cases jS C with
  |none=>
   cases x with
   |nil=>exact .ite h1
   |cons _ _=>trivial
  |some f=>refine (ue (Y:=⟨σ1.ls,σ1.hs.new (.cj [])⟩) K h1).bind λv σ2 h2=> ?_;cases v<;>first|exact h2|trivial
 |cv,.iA o m l,Y,h=>(br cv o Y h).bind λx σ1 h1=>by
  refine (?_:aA.gr ls (M4 (m5 K cv l σ1) K x (bK σ1.hs x m)));cases bK σ1.hs x m with
  |none=>trivial
  |some f=>exact (nW cv l σ1 h1).bind λx σ2 h2=>ue K h2
 |cv,.append o e,Y,h=>(br cv o Y h).bind λx σ1 h1=>by
  cases x<;>first|trivial|skip
  rename_i x;refine (?_:aA.gr ls (CT (bk K cv e σ1) x (σ1.hs.h x)));have H:=br cv e σ1 h1;rcases σ1.hs.h x with _|_|_|_|_<;>first|trivial|skip
  ·refine H.bind λv σ2 h2=> ?_;unfold Dg;rcases σ2.hs.h x with _|_|_|_|_<;>first|trivial|exact .ite h2
  ·refine H.bind λv σ2 h2=> ?_;unfold Dk;rcases σ2.hs.h x with _|_|_|_|_<;>first|trivial|(cases v<;>first|trivial|exact .ite h2)
 |cv,.len a,Y,h=>(br cv a Y h).bind λx σ1 h1=>.cC h1
 |cv,.bytesOf a,Y,h=>(br cv a Y h).bind λx σ1 h1=>.cC h1
 |cv,.sum a,Y,h=>(br cv a Y h).bind λx σ1 h1=>.cC h1
 |cv,.sorted a,Y,h=>(br cv a Y h).bind λx σ1 h1=>by cases (items σ1.hs x).bind kh<;>first|exact h1|trivial
 |cv,.all a,Y,h=>(br cv a Y h).bind λx σ1 h1=>.cC h1
 |cv,.min a b,Y,h=>(br cv a Y h).bind λx σ1 h1=>(br cv b σ1 h1).bind λy σ2 h2=>by cases x<;>first|trivial|(cases y<;>first|exact h2|trivial)
 |cv,.max a b,Y,h=>(br cv a Y h).bind λx σ1 h1=>(br cv b σ1 h1).bind λy σ2 h2=>by cases x<;>first|trivial|(cases y<;>first|exact h2|trivial)
 |cv,.isBool a,Y,h=>(br cv a Y h).bind λx σ1 h1=>by cases x<;>first|exact h1|trivial
 |cv,.freeze a,Y,h=>(br cv a Y h).bind λx σ1 h1=>by cases aq false 8 x σ1.hs<;>first|exact h1|trivial
 |cv,.cQ a,Y,h=>(br cv a Y h).bind λx σ1 h1=>by cases aq true 12 x σ1.hs<;>first|exact h1|trivial theorem Ia {ls:List J}: ∀(cv:J) (e:sf) (Y:St),Y.ls=ls->(Rz K cv e Y).gr ls
 |cv,.none,Y,h=>h
 |cv,.some e,Y,h=>by exact (br cv e Y h).bind λv σ1 h1=>h1 theorem nW {ls:List J}: ∀(cv:J) (e:ir) (Y:St),Y.ls=ls->(m5 K cv e Y).gr ls
 |cv,.nil,Y,h=>h
 |cv,.cons e l,Y,h=>by exact (br cv e Y h).bind λv σ1 h1=>(nW cv l σ1 h1).bind λr σ2 h2=>h2 theorem zI {ls:List J}: ∀(cv:J) (e:ir) (Y:St),Y.ls=ls->(D9 K cv e Y).gr ls
 |cv,.nil,Y,h=>trivial
 |cv,.cons e .nil,Y,h=>by exact br cv e Y h
 |cv,.cons e (.cons e2 l),Y,h=>by
  refine (br cv e Y h).bind λv σ1 h1=> ?_;cases v<;>first|trivial|skip
  rename_i b;cases b<;>first|exact h1|exact zI cv (.cons e2 l) σ1 h1 theorem D0 {ls:List J}: ∀(cv:J) (e:ir) (Y:St),Y.ls=ls->(Mu K cv e Y).gr ls
 |cv,.nil,Y,h=>trivial
 |cv,.cons e .nil,Y,h=>by exact br cv e Y h
 |cv,.cons e (.cons e2 l),Y,h=>by
  refine (br cv e Y h).bind λv σ1 h1=> ?_;cases v<;>first|trivial|skip
  rename_i b;cases b<;>first|exact h1|exact D0 cv (.cons e2 l) σ1 h1 end
end
noncomputable def dK (env:Env):List (Str×VF)->List (Str×Um)->List (Str×Um)
 |[],acc=>acc
 |(n,k)::r,acc=>dK env r (if k== .free then (n,(env.cells.lookup n).getD 0)::acc else acc)
theorem Ak: ∀(l:List (Str×VF)) (acc:List (Str×Um)),(∀x∈l,x.2=.free->(env.cells.lookup x.1).isSome=true)->(forIn l acc λ(x:Str×VF) (cs:List (Str×Um))=>if (x.2==Ut)=true then (do
 let a<-cellOf env x.1;
 pure (WK ((x.1,a)::cs)):Sem (ForInStep (List (Str×Um)))) else pure (WK cs))=pure (dK env l acc):=by
 intro l_;induction l_ with
 |nil=>exact @λacc z=>rfl
 |cons p_ r aG=>
  obtain ⟨n,k⟩:=p_;exact @λacc h=>by
   rw [List.forIn_cons];refine (?_:_=(pure (dK env r (if (k==Ut)=true then (n,(env.cells.lookup n).getD 0)::acc else acc)):Sem _));have ih:=λacc=>aG acc λx hx=>h x (.tail _ hx);by_cases q:(k==Ut)=true;·simp only [q,if_true];refine fU (SM.mp (h (n,k) (.head _) (by simpa using q))) λa ha=> ?_;simp only at ha;unfold cellOf;refine (ha).symm▸ ?_;exact ih _
   ·simp only [q,if_false,VI];exact ih _
theorem uZ (h: ∀x∈scope.names,x.2=.free->(env.cells.lookup x.1).isSome=true):closureFor scope env=pure (dK env scope.names []):=by unfold closureFor;have:=Ak scope.names [] h;first|exact this|(rw [bind_pure];exact this)
theorem Bv: ∀{l:List (Str×VF)} {acc:List (Str×Um)},(∀x∈l,x.2=.free->(env.cells.lookup x.1).isSome=true)->(∀x a,acc.lookup x=some a->env.cells.lookup x=some a)-> ∀x a,(dK env l acc).lookup x=some a->env.cells.lookup x=some a:=by
 intro l_;induction l_ with
 |nil=>exact @λacc u h x a e=>h x a e
 |cons p_ r aG=>
  obtain ⟨n,k⟩:=p_;exact @λacc hl h x a e=>by
   refine aG (λy hy=>hl y (.tail _ hy)) (λy b e=> ?_) x a e;by_cases q:(k==Ut)=true;·
    rw [if_pos q] at e;rw [T9] at e;split at e;·rename_i z;obtain ⟨c,hc⟩:=SM.mp (hl (n,k) (.head _) (by simpa using q));obtain rfl:=Sm e;refine (beq_iff_eq.mp z).symm▸((hc).symm▸ ?_);rfl
    ·exact h y b e
   ·rw [if_neg q] at e;exact h y b e
theorem yz: ∀{l:List (Str×VF)} {acc:List (Str×Um)} {x:Str},(acc.lookup x).isSome=true->((dK env l acc).lookup x).isSome=true:=by
 intro l_;induction l_ with
 |nil=>exact @λz z h=>h
 |cons p_ r aG=>
  obtain ⟨n,k⟩:=p_;exact @λacc x h=>by
   refine aG ?_;split;·
    rw [T9];split;·rfl
    ·exact h
   ·exact h
theorem zK: ∀{l:List (Str×VF)} {acc:List (Str×Um)} {x:Str},(x,Ut)∈l->((dK env l acc).lookup x).isSome=true:=by
 intro l_;induction l_ with
 |nil=>exact @λz z h=>((by cases h))
 |cons p_ r aG=>
  obtain ⟨n,k⟩:=p_;exact @λacc x h=>by
   rcases Tn.mp h with e|h;·clear h;cases e;refine yz (l:=r) ?_;simp
   ·exact aG h
section
def postR (M:Y3) (A:Wc) (E:Te->Tz->Prop) (use:Option (Te->Sem Unit)) (Q:Te->Tz->Prop) (acc:Te) (C:Um) (r:Z1) (s':Tz):Prop:=match r,use with
 | .ok _,none=> ∃m,s'.heap.Ns C m/\ ∀h',Zh C s'.heap h'->Q acc {s' with heap:=h'}
 | .ok _,some u=>dH M A (u acc) (λz s''=> ∃m,s''.heap.Ns C m/\ ∀h',Zh C s''.heap h'->Q .none {s'' with heap:=h'}) E s'
 | .error _,_=>False
theorem Bw {α:Type} [Decidable c] {k:PUnit->Sem α} {Q:α->Tz->Prop} (h:dH M A (k ()) Q E s):dH M A (if c then (XY pos>>=k) else k ()) Q E s:=by
 split;·exact aj (lM h)
 ·exact h
theorem J4 (hcl:clausesOf e=g::gs) (hs: ∀x,foldedSetIterable g.iter env x=pure x) (hclos:closureFor scope env=pure cl) (hkind:scope.kind=.function) (hnames: ∀x∈scope.names,x.2=.local->scope.names.lookup x.1=some .local) (h:dH M A first (λx s₁=>wpAny M A (pyIter x) (λit s₂=>wpAny M A (aao []) (λacc s₃=>wpAny M A (newFunctionEnv scope env.globals cl [] env.qual none .none (some env)) (λcenv s₄=>cW M A (.compStart e 0 it acc {cenv with scope:=relabel scope env}) (postR M A E use Q acc cenv.locals) s₄) E s₃) E s₂) E s₁) E s):dH M A (comprehension e scope env pos (aao []) false first use) Q E s:=by
 unfold comprehension;refine (hclos).symm▸((hcl).symm▸ ?_);refine aj (aK h (λx s₁ h₁=>aj (lM (aj ?_))) λz z h'=>h');refine av (Ud (hs x) ?_);refine aj (aD (av (Wo h₁ (λit s₂ h₂=> ?_) λz z h'=>h')));refine Bw (aj (av (Wo h₂ (λacc s₃ h₃=> ?_) λz z h'=>h')));refine aj (ao (aj (av (Wo h₃ (λcenv s₄ h₄=> ?_) λz z h'=>h'))));dsimp only;have hv: ∀x∈(scope.names.filter λx=>(x.2== .local||x.2== .cell)&&x.1 != (".0":Str)).reverse,x.2=.local->Z6 {cenv with scope:=relabel scope env} x.1=some .local:=λx hx hl=>lookup_relabel_local (hnames x (UU.mp (List.mem_reverse.mp hx)).1 hl);have hv': ∀x∈(scope.names.filter λx=>(x.2== .local||x.2== .cell)&&x.1 != (".0":Str)).reverse.drop 1++(scope.names.filter λx=>(x.2== .local||x.2== .cell)&&x.1 != (".0":Str)).reverse.take 1,x.2=.local->Z6 {cenv with scope:=relabel scope env} x.1=some .local:=λx hx hl=>by
  rcases SW.mp hx with h1|h1;·exact hv x (List.mem_of_mem_drop h1) hl
  ·exact hv x (V9 h1) hl
 refine aD (aj (rz (aD (DB (cM h₄ λr s' hr=> ?_) (λx=>ns x)))));clear h h₁ h₂ h₃ h₄;cases r with
 |ok f=>
  cases use with
  |none=>exact ay hr λm hn hr=>av (Sw (W6 (aci (cenv:={cenv with scope:=relabel scope env}) hkind _ s' m hv hn λh' m' z aJ=>SN (hr h' aJ))))
  |some u=>refine aj (La (aj (aD (aK hr (λz s'' hr'=> ?_) λz z h'=>h'))));exact ay hr' λm hn hr'=>av (Sw (aci (cenv:={cenv with scope:=relabel scope env}) hkind _ s'' m hv' hn λh' m' z aJ=>SN (hr' h' aJ)))
 |error x=>cases use<;>exact hr.elim
end
section
theorem RH.adopt (R:RH T B (N++F) X H h) (hD:D∈N) (nF:D∉F) (r: ∀{ι' H'},Carry (N++F) X H h F ι' H' h->qe T F ι' H' h o D): ∃ι',ι' H.n=D/\(∀x,x<H.n->ι' x=X x)/\RH T B F ι' (H.new o) h/\Carry (N++F) X H h F ι' (H.new o) h:=by
 have e0: ∀x,x<H.n->(if x=H.n then D else X x)=X x:=λx hx=>if_neg (SY hx);have e1: ∀x,x<H.n->(H.new o).h x=H.h x:=λx hx=>if_neg (SY hx);have e2:(H.new o).h H.n=some o:=if_pos rfl;have e3: ∀x,H.n<x->(H.new o).h x=none:=λx hx=>(if_neg (UG hx)).trans (R.fin x (Tj hx));have DN:D∈N++F:=TP _ hD;have lt: ∀z,((H.new o).h z).isSome=true->z<=H.n:=λz ez=>by
  rcases Wq H.n z with q|q;·replace ez:=(e3 z q)▸ez;cases ez
  ·exact q
 have C:Carry (N++F) X H h F (λx=>if x=H.n then D else X x) (H.new o) h:=by
  refine ⟨λa ob e u n=>⟨e,?_⟩,e0,T8 _⟩;clear e;rintro (q|⟨x,ex,rfl⟩);·exact n (.inl (S9 _ q))
  ·rcases Vo (lt x ex) with q|q;·refine n (.inl ?_);(try dsimp only);rw [if_pos q];exact DN
   ·refine n (.inr ⟨x,?_,?_⟩);·rw [e1 x q] at ex;exact ex
    ·exact (e0 x q).symm
 refine vD (λx=>if x=H.n then D else X x) (if_pos rfl) e0 ⟨R.base,λx hx=>e3 x hx,λx o' e=> ?_,λx y ex ey Cs=> ?_,λx e=> ?_,λa ha=>R.fr a (S9 _ ha)⟩ C;·
  rcases Vg x H.n with q|q|q;·rw [e1 x q] at e;(try dsimp only);rw [e0 x q];exact (R.obj x o' e).aO C (λob z=>z)
  ·subst q;replace e:=(e2)▸e;obtain rfl:=Sm e;(try dsimp only);exact (if_pos rfl).symm▸(r C)
  ·replace e:=(e3 x q)▸e;cases e
 ·have old: ∀z,z<H.n->((H.new o).h z).isSome=true->X z≠D:=λz hz ez q=>by rw [e1 z hz] at ez;exact (R.fc z ez).1 (q▸DN)
  (try dsimp only at Cs);rcases Vo (lt x ex) with q|q<;>rcases Vo (lt y ey) with q'|q';·refine (q).symm▸((q').symm▸ ?_);rfl
  ·rw [if_pos q,e0 y q'] at Cs;exact absurd Cs.symm (old y q' ey)
  ·rw [if_pos q',e0 x q] at Cs;exact absurd Cs (old x q ex)
  ·rw [e0 x q,e0 y q'] at Cs;rw [e1 x q] at ex;rw [e1 y q'] at ey;exact R.inj x y ex ey Cs
 ·rcases Vg x H.n with q|q|q;·rw [e1 x q] at e;(try dsimp only);rw [e0 x q];exact ⟨λz=>(R.fc x e).1 (S9 _ z),(R.fc x e).2⟩
  ·clear e;subst q;(try dsimp only);exact (if_pos rfl).symm▸(⟨nF,(R.fr D DN).1⟩)
  ·rw [e3 x q] at e;exact Uu e
theorem Step.adopt (S:Step P F' eY H₀ h₀ X H h) (e:ι' H.n=D) (e0: ∀x,x<H.n->ι' x=X x) (f0:h₀.get? D=none) (fin: ∀x,H.n<=x->H.h x=none):Step P F' eY H₀ h₀ ι' (H.new o) h:=by
 have e1: ∀x,x<H.n->(H.new o).h x=H.h x:=λx hx=>if_neg (SY hx);refine ⟨S.keep,S.slots,S.alive,λx hx=>(e0 x (Sx hx S.mono)).trans (S.ext x hx),λx hx ex=>S.dom x hx (((e1 x (Sx hx S.mono))▸(ex))),λx hx ex=> ?_,Sl S.mono (T8 _)⟩;by_cases q:x=H.n;·refine (q).symm▸((e).symm▸ ?_);exact f0
 ·by_cases z:x<H.n;·exact (e0 x z).symm▸(S.new x hx (by exact (e1 x z)▸(ex)))
  ·have:(H.new o).h x=H.h x:=if_neg q;replace ex:=(this)▸ex;replace ex:=(fin x (SJ z))▸ex;exact Uu ex
end
section
variable {c:Cx} {n:Nat}
theorem Inv.Iu (ok:c.Ok n) {P:List Um} (Iv:Inv c cv X Y s) (hL:L∈c.F) (nP:L∉P) (nE:L≠c.env.locals) (nC: ∀y b,c.env.cells.lookup y=some b->b≠L) (nf: ∀e∈c.fr,∀L',e.frame=some L'->L'≠L) (k: ∀b o,b≠L->s.heap.get? b=some o->s'.heap.get? b=some o) (al:(s'.heap.get? L).isSome=true):Inv c cv X Y s'/\Step P c.F X Y.hs s.heap X Y.hs s'.heap:=by
 refine dD (RH.own' (P:=P) Iv.rh hL nP k al) λR' S=>⟨⟨R',?_,?_⟩,S⟩;·
  refine Loc.aO (c:=c) (c':=c) ⟨rfl,rfl,rfl,rfl,rfl⟩ S.aO (λa ha o e=>⟨o.slots,k a o (λq=> ?_) e⟩) Iv.loc;clear e;rcases ha with rfl|⟨y,hy⟩;·exact nE q.symm
  ·exact nC y a hy q
 ·exact eG (F:=c.fr.filterMap (·.frame)) (λa ha o e=>⟨o.slots,k a o (λq=>by exact ay (UZ.mp ha) λe' he hL'=>nf e' he a hL' q) e⟩) (λe he L hL=>UZ.mpr (aH e he hL)) Iv.kN
noncomputable def Cx.OD (c:Cx) (C D:Um) (cl:List (Str×Um)) (sc:Y0) (t:Str) (KJ :Bool):Cx:={((c.more C).more D) with env:=compEnvC sc cl C c.env,zo:=λx=>c.zo x&&(eE c.env.scope.names sc).lookup x==some .cell&& !(x==t),cv:=if KJ then some t else none}
noncomputable def Cx.fD (c:Cx) (C I D:Um) (cl:List (Str×Um)) (sc:Y0) (t:Str) (KJ :Bool):Cx:=(c.OD C D cl sc t KJ).more I
theorem fB (hk:env.scope.kind=.function):(relabel sc env).names=eE env.scope.names sc:=by unfold relabel eE Z6;simp [hk]
theorem lT (hk:c.env.scope.kind=.function):(c.fD C I D cl sc t true).cc=c.cc.inner t sc:=by refine (?_:CC.mk _ _ (relabel sc c.env).names _ _=CC.mk _ _ _ _ _);refine (fB hk).symm▸ ?_;rfl
theorem ji (ok:c.Ok n) (hk:sc.kind=.function) (hcl: ∀x a,cl.lookup x=some a->c.env.cells.lookup x=some a):(c.fD C I D cl sc t b).Ok n:=have o:=((ok.more C).more D).more I;⟨o.wf,hk,ok.glob,ok.bi,.tail _ (.tail _ (.head _)),λx a e=>.tail _ (.tail _ (.tail _ (ok.rU x a (hcl x a e)))),o.PF,o.handled,o.frames,o.yv,o.depth,o.units⟩
theorem kr (ok:gB sc t s=true) (h:(eE sc s).lookup x=some .cell):(x,Ut)∈s.names/\sc.lookup x=some .cell:=by
 have key: ∀(l:List (Str×VF)),(l.all λ(n,k)=>(s.names.lookup n==some .local&&k== .local)||(k== .globalImplicit&& !(n==t))||(k== .free&&sc.lookup n==some .cell&& !(n==t)))=true->(l.map λ(n,k)=>if k==Ut&&sc.lookup n==some .cell then (n,NameKind.cell) else (n,k)).lookup x=some .cell->(x,Ut)∈l/\sc.lookup x=some .cell:=by
  intro l;induction l with
  |nil=>intro _ h;simp at h
  |cons a l ih=>
   obtain ⟨n,k⟩:=a;intro ha h;rw [YX] at ha;obtain ⟨ha1,ha2⟩:=Su.mp ha;rw [UT] at h;by_cases q:(k==Ut&&sc.lookup n==some .cell)=true;·
    simp only [q,if_true] at h;rw [T9] at h;clear ha ha1;split at h;·rename_i z;obtain ⟨q1,q2⟩:=Su.mp q;have e:=beq_iff_eq.mp z;clear q z;subst e;exact ⟨by exact (beq_iff_eq.mp q1).symm▸(.head _),beq_iff_eq.mp q2⟩
    ·obtain ⟨z1,z2⟩:=ih ha2 h;exact ⟨.tail _ z1,z2⟩
   ·simp only [q,if_false,VI] at h;rw [T9] at h;clear ha q;split at h;·obtain rfl:=Sm h;exfalso;simp at ha1
    ·obtain ⟨z1,z2⟩:=ih ha2 h;exact ⟨.tail _ z1,z2⟩
 obtain ⟨_,o2⟩:=Su.mp ok;exact key s.names o2 h
theorem qY (h:s.names.lookup x=some .local):(eE sc s).lookup x=some .local:=by
 unfold eE;generalize s.names=l at h⊢;induction l with
 |nil=>simp at h
 |cons a l ih=>
  obtain ⟨n,k⟩:=a;rw [UT];rw [T9] at h;cases hx:x==n with
  |true=>replace h:=(hx)▸h;obtain rfl:=Sm h;simp [T9,hx]
  |false=>
   rw [hx] at h;have:=ih h;by_cases q:(k==Ut&&sc.lookup n==some .cell)=true;·simp only [q,if_true,T9,hx];exact this
   ·simp only [q,if_false,T9,hx,VI];exact this
theorem M7 {Y:St} {cv:J} (hk:c.env.scope.kind=.function) (RD:gB c.env.scope.names t sc=true) (hcl: ∀x a,cl.lookup x=some a->c.env.cells.lookup x=some a) (hcn: ∀x,(x,Ut)∈sc.names->(cl.lookup x).isSome=true) (L:Loc c X Y.hs h Y.ls cv) {F':List Um} {h':Vr} (hF:F'=(c.fD C I D cl sc t false).F) (Ca:Carry c.F X Y.hs h F' ι' H' h') (k: ∀a,(∃y,c.env.cells.lookup y=some a)-> ∀o,h.get? a=some o-> ∃sl,h'.get? a=some {o with slots:=sl}) (hns: ∃m,h'.Ns C m):Loc (c.fD C I D cl sc t false) ι' H' h' Y.ls .ah:=by
 subst hF;refine ⟨hns,λx a hx=> ?_,L.len,λi a x h1 h2 h3 h4=> ?_,λx e=>by cases e⟩;·refine dM (L.cells x a (hcl x a hx)) λv o e1 e2=> ?_;obtain ⟨sl,e⟩:=k a ⟨x,hcl x a hx⟩ o e1;exact gv v _ e e2
 ·refine aQ λcT k_1=> ?_;obtain ⟨h4,_⟩:=oH h4;obtain ⟨h4,h5⟩:=oH h4;obtain ⟨z1,z2⟩:=kr RD (beq_iff_eq.mp h5);refine ay (L.has i a x h1 h2 h3 h4) λv g1 g2=>k_1 (aH v (.inr ⟨.inl ?_,?_⟩) (g2.aO Ca));·refine (?_:(relabel sc c.env).names.lookup x=_);rw [fB hk];exact beq_iff_eq.mp h5
  ·refine aQ λJV k_2=> ?_;rcases g1 with ⟨e1,_⟩|⟨_,b,e2,o,y1,y2⟩;·have:c.env.scope.names.lookup x=some .local:=e1;replace this:=(z2)▸this;exact absurd this (by decide)
   ·obtain ⟨b',hb'⟩:=SM.mp (hcn x z1);have:=hcl x b' hb';obtain rfl:=Sm ((e2).symm.trans this);obtain ⟨sl,e⟩:=k b ⟨x,e2⟩ o y1;exact k_2 (⟨b,hb',_,e,y2⟩)
theorem Gn (ok:c.Ok n) (hsk:sc.kind=.function) (hk:c.env.scope.kind=.function) (RD:gB c.env.scope.names t sc=true) (hcl: ∀x a,cl.lookup x=some a->c.env.cells.lookup x=some a) (nC:C∉c.F) (nP:C∉P) (Iv:Inv (c.fD C I D cl sc t false) .ah X Y s) (V:aE c.T (c.fD C I D cl sc t false).F X Y.hs s.heap a v) (k: ∀s',Inv (c.fD C I D cl sc t true) a X Y s'->Step P (c.fD C I D cl sc t true).F X Y.hs s.heap X Y.hs s'.heap->Rest s s'->(∀b o,b≠C->s.heap.get? b=some o->s'.heap.get? b=some o)->Q () s'):wpAny M A (storeName (compEnvC sc cl C c.env) t v) Q E s:=by
 refine fU Iv.loc.ns λm hm=> ?_;have hl:sc.names.lookup t=some .local:=by exact dD (oH RD) λo1 z=>beq_iff_eq.mp (oH o1).2
 have hloc:(compEnvC sc cl C c.env).kindOf t=some .local:=by refine (?_:(relabel sc c.env).names.lookup t=_);rw [fB hk];exact qY hl
 refine ZX hloc hm (λh' hn hs=> ?_) (by refine (hsk).symm▸ ?_;rfl);have kk: ∀b o,b≠C->s.heap.get? b=some o->h'.get? b=some o:=λb o q e=>(hs.2 b q).trans e;have al:(h'.get? C).isSome=true:=by exact sZ hn λo z z e z=>SM.mpr ⟨o,e⟩
 obtain ⟨R',S⟩:=RH.own' (P:=P) Iv.rh (.tail _ (.tail _ (.head _))) nP kk al;have cne: ∀y b,cl.lookup y=some b->b≠C:=λy b e q=>nC (q▸ok.rU y b (hcl y b e));refine k {s with heap:=h',toks:=s.toks+1} ⟨R',⟨⟨_,hn⟩,λy b e=> ?_,Iv.loc.len,λj b y h1 h2 h3 h4=> ?_,λy e=> ?_⟩,?_⟩ S ⟨rfl,rfl⟩ kk;·exact dM (Iv.loc.cells y b e) λw o e1 e2=>gv w o (kk b o (cne y b e) e1) e2
 ·refine ay (Iv.loc.has j b y h1 h2 h3 h4) λw g1 g2=>aH w ?_ (g2.aO S.aO);refine aQ λcT k_1=> ?_;rcases g1 with ⟨e1,_⟩|⟨e1,b',e2,o,y1,y2⟩;·exfalso;obtain ⟨z1,_⟩:=oH h4;have:(relabel sc c.env).names.lookup y=some .local:=e1;replace this:=(fB hk)▸this;exact nomatch ((beq_iff_eq.mp (oH z1).2)).symm.trans this
  ·exact k_1 (.inr ⟨e1,b',e2,o,kk b' o (cne y b' e2) y1,y2⟩)
 ·obtain rfl:=Sm e;exact aH v (.inl ⟨hloc,_,hn,by simp⟩) (V.aO S.aO)
 ·refine eG (F:=c.fr.filterMap (·.frame)) (λa ha o e=>⟨o.slots,kk a o (λq=> ?_) e⟩) (λe he L hL=>UZ.mpr (aH e he hL)) Iv.kN;exact ay (UZ.mp ha) λe' he hL'=>nC (q▸ok.yv e' he a hL')
theorem zz (Iv:Inv (c.fD C I D cl sc t true) a X Y s):Inv (c.fD C I D cl sc t false) .ah X Y s:=⟨Iv.rh,⟨Iv.loc.ns,Iv.loc.cells,Iv.loc.len,Iv.loc.has,λx e=>by cases e⟩,Iv.kN⟩
end
section
variable (K:Fn->List J->U->aA U J)
end
theorem xN: ∀(l:List J) (Y:St),each f l Y≠.bad-> ∃r σ',each f l Y=.ok r σ'/\r.length<=l.length:=by
 intro l_;induction l_ with
 |nil=>exact @λY y=>(gv ([]) Y rfl (Sv _))
 |cons a r aG=>
  exact @λY nb=>by
   change aA.bind (aA.calm (f a Y)) _≠_ at nb;refine (?_: ∃_ _,aA.bind (aA.calm (f a Y)) _=_/\_);cases h:f a Y with
   |bad=>rw [h] at nb;exact absurd rfl nb
   |exc σ1=>rw [h] at nb;exact absurd rfl nb
   |ok o σ1=>replace nb:=(h)▸nb;refine dM (aG σ1 (λz=>nb (by refine (?_:((each f r σ1).bind _)=_);refine (z).symm▸ ?_;rfl))) λr' σ2 e hl=> ?_;refine gv _ σ2 (by refine (?_:((each f r σ1).bind _)=_);rw [e];rfl) ?_;clear h nb;cases o<;>simp<;>omega
theorem FN (h:each f (a::l) Y=.ok r σ'): ∃o σ1 r',f a Y=.ok o σ1/\each f l σ1=.ok r' σ'/\r=o.toList++r':=by
 change aA.bind (aA.calm (f a Y)) _=_ at h;cases e:f a Y with
 |bad=>replace h:=(e)▸h;cases h
 |exc σ1=>replace h:=(e)▸h;cases h
 |ok o σ1=>
  rw [e] at h;change ((each f l σ1).bind _)=_ at h;clear e;cases e2:each f l σ1 with
  |bad=>replace h:=(e2)▸h;cases h
  |exc σ2=>replace h:=(e2)▸h;cases h
  |ok r' σ2=>replace h:=(e2)▸h;cases h;refine Nj o σ1 r' rfl e2 ?_;cases o<;>rfl
section
variable {K:Fn->List J->U->aA U J} {c:Cx} {n:Nat}
structure STO (K:Fn->List J->U->aA U J) (c:Cx) (cv:J) (e:sf) (x:Option UI):Prop where
 run: ∀{Y X s},Inv c cv X Y s->Hh K cv e Y≠.bad->fH c c.F cv c.A abO X Y.hs s (forIn (gA x) true λt r=>if r=true then do
 let ok<-isTrue t c.env (eval t c.env);
 pure (WK ok) else pure (WK r)) (Hh K cv e Y)
theorem Jm:STO K c cv .none none:=⟨@λY X s I nb=>bE I rfl rfl⟩
theorem JJ (h:wV K c cv e x):STO K c cv (.some e) (some x):=⟨@λY X s I nb=>by have:=h.run I nb;refine aj (aj (aK this (λb s' hb=>ao (ao hb)) λz z x=>x))⟩
def RJ (F:List Um) (I:Um) (fp:List Um) (X:Nat->Um) (H:U) (h:Vr):Prop:= ∀b∈fp,b≠I-> ∃o,h.get? b=some o/\ ¬rK F X H b
theorem RJ.step (S:Step P F X H h ι' H' h') (f:RJ F I fp X H h):RJ F I fp ι' H' h':=λb hb ne=>by exact ay (f b hb ne) λo e q=>aH o (S.keep b o e q) (S.fc (by refine (e).symm▸ ?_;rfl) q)
theorem Source.OO {l fp wr P St} (so:Source c I l fp wr P St) {P' X H h ι' H' h'} (hI:I∈P') (S:Step P' F X H h ι' H' h') (f:RJ F I fp X H h) (st:St i h):St i h':=by
 refine so.W.frame i h h' st λb hb o e=> ?_;by_cases q:b=I;·clear f;subst q;refine fY (so.cls i h st) λo' e1 z e2=> ?_;rw [e1] at e;injection e with e;subst e;refine ay (S.slots b hI o' e1) λsl z1 z2=> ?_;rw [z2 e2] at z1;exact z1
 ·refine ay (f b hb q) λo' e1 e2=> ?_;rw [e1] at e;injection e with e;subst e;exact S.keep b o' e1 e2
theorem Source.Iu {l fp wr P St} (so:Source c I l fp wr P St) {X H h h'} (hL:L∈F) (ne:I≠L) (k: ∀b o,b≠L->h.get? b=some o->h'.get? b=some o) (f:RJ F I fp X H h) (st:St i h):St i h':=by
 refine so.W.frame i h h' st λb hb o e=>k b o (λq=> ?_) e;by_cases z:b=I;·exact ne (z.symm.trans q)
 ·exact ay (f b hb z) λo' e1 e2=>e2 (.inl (q▸hL))
theorem PlainList.slots (hD:D∈P) (S:Step P F X H h ι' H' h') (p:PlainL h D ys):PlainL h' D ys:=by exact xx p λo k e e1 e2 e3=>ay (S.slots D hD _ e) λsl z1 z2=>nN _ k z1 e1 e2 e3
theorem PlainL.at (p:PlainL h D ys) (k: ∀o,h.get? D=some o->h'.get? D=some o):PlainL h' D ys:=by exact dM p λo n e r=>gv o n (k o e) r
theorem E8 (ok:c.Ok n) {C I D:Um} {l:List J} {fp wr:List Um} {St:Nat->Vr->Prop} (so:Source c I l fp wr P St) (hsk:sc.kind=.function) (RD:gB c.env.scope.names t sc=true) (hcl: ∀x a,cl.lookup x=some a->c.env.cells.lookup x=some a) (nC:C∉c.F) (nD:D∉c.F) (P4:I≠D) (hIC:I≠C) (hDC:D≠C) (hl:l.length<=cap) (he: ∀v,SE K (c.fD C I D cl sc t true) v e elt) (ht: ∀v,STO K (c.fD C I D cl sc t true) v cd w) {s₀ :Tz} (k0: ∀b o,s₀.heap.get? b=some o->h₁.get? b=some o) (fr: ∀a∈[I,D,C],s₀.heap.get? a=none) (RP: ∀ι' H' h',Step c.F (c.fD C I D cl sc t true).F KO H₁ h₁ ι' H' h'-> ∀i v a,P i v->l[i]? =some a->aE c.T (c.fD C I D cl sc t true).F ι' H' h' a v): ∀(k i:Nat) {Y X s done ys r σ'},l.length-i=k->i<=l.length->Inv (c.fD C I D cl sc t false) .ah X Y s->Step c.F (c.fD C I D cl sc t true).F KO H₁ h₁ X Y.hs s.heap->Rest s₀ s->RJ (c.fD C I D cl sc t true).F I fp X Y.hs s.heap->St i s.heap->PlainL s.heap D ys->aB c.T (c.fD C I D cl sc t true).F X Y.hs s.heap done ys.toList->done.length<=i->each (fE K e cd) (l.drop i) Y=.ok r σ'->cW (model c.T.prog c.T.w) c.A (.compLoop (.ListComp elt [⟨.Name t q,iter,gA w,0⟩] sc pos) 0 (.ref I) (.ref D) (compEnvC sc cl C c.env)) (λres s'=> ∃fl ι' ys',res=.ok fl/\Inv (c.OD C D cl sc t false) .ah ι' σ' s'/\Step c.F c.F KO H₁ s₀.heap ι' σ'.hs s'.heap/\Rest s₀ s'/\PlainL s'.heap D ys'/\aB c.T (c.OD C D cl sc t false).F ι' σ'.hs s'.heap (done++r) ys'.toList) s:=by
 have KW:(c.fD C I D cl sc t false).Ok n:=ji ok hsk hcl;have okt:(c.fD C I D cl sc t true).Ok n:=ji ok hsk hcl;have hk:=ok.kind;have wn: ∀{b:Um},b≠I->b∉wr:=λne q=>by rw [so.wr] at q;exact ne (Sy.mp q)
 have cne: ∀{L:Um},L∉c.F-> ∀y b,cl.lookup y=some b->b≠L:=λnL y b e q=>nL (q▸ok.rU y b (hcl y b e));have fne: ∀{L:Um},L∉c.F-> ∀e∈c.fr,∀L',e.frame=some L'->L'≠L:=λnL e he L' hL q=>nL (q▸ok.yv e he L' hL);have IF:I∈(c.fD C I D cl sc t true).F:=.head _;have DF:D∈(c.fD C I D cl sc t true).F:=.tail _ (.head _);have sub: ∀{a},a∈c.F->a∈(c.fD C I D cl sc t true).F:=λha=>.tail _ (.tail _ (.tail _ ha));intro k;clear okt;induction k with
 |zero=>
  intro i Y X s done ys r σ' hk' hi Iv S0 Re f st pl vr dl ev;have hin:i=l.length:=by exact (Ln.n2 0x1861600150005620b040) hk' hi
  clear nC nD hDC he ht RP IF DF sub hk' hi f dl;subst hin;replace ev:=(Z5)▸ev;cases ev;refine bB rfl ((?_:dH _ c.A ((compTurn (.ListComp elt [⟨.Name t q,iter,gA w,0⟩] sc pos) 0 (.ref I) (.ref D) (compEnvC sc cl C c.env)).onRaise (λx=>do
   noteFrame x (compEnvC sc cl C c.env);
   theTreesLotGoes x)) _ _ s));refine cO (aK (E:=λg g=>False) ?_ (λg g q=>q) λg g q=>q.elim);rw [compTurn_list];refine gg (aj (av (so.W.done s _ _ st λh' tk kk=> ?_)));have LG: ∀b o,b≠I->s.heap.get? b=some o->h'.get? b=some o:=λb o ne e=>kk b o (wn ne) e;have ok0:(c.OD C D cl sc t false).Ok n:=⟨KW.wf,KW.kind,KW.glob,KW.bi,.tail _ (.head _),λx a e=>.tail _ (.tail _ (ok.rU x a (hcl x a e))),λa ha=>(by
   clear P4 hIC fr KW Iv S0 pl vr;rcases Tn.mp ha with rfl|ha;·exact .head _
   ·rcases Tn.mp ha with rfl|ha;·exact .tail _ (.head _)
    ·exact .tail _ (.tail _ (ok.PF a ha))),KW.handled,KW.frames,λe he L hL=>.tail _ (.tail _ (ok.yv e he L hL)),KW.depth,KW.units⟩;have nI:I∉(c.OD C D cl sc t false).F:=λz=>by
   rcases Tn.mp z with z|z;·exact P4 z
   ·rcases Tn.mp z with z|z;·exact hIC z
    ·exact so.nF z
  have I1:=Inv.drop (c:=c.OD C D cl sc t false) (s':={s with heap:=h',toks:=tk}) ok0 nI Iv LG;have W:=(Step.within (N:=[I,D,C]) (F:=c.F) S0 k0 fr (λg h=>h)).pH (fr I (.head _)) LG;refine ao (Ml _ X ys rfl I1 W (Re.trans ⟨rfl,rfl⟩) (PlainL.at pl (λo e=>LG D o (WQ P4) e)) ?_);rw [Ti];exact vr.aO (⟨λa o e g nn=>⟨LG a o (λq=>nn (.inl (q▸ZS _))) e,λq=>nn (q.imp (Xk _) id)⟩,λg g=>rfl,Sv _⟩)
 |succ k ih=>
  intro i Y X s done ys r σ' hk' hi Iv S0 Re f st pl vr dl ev;have hlt:i<l.length:=by exact (Ln.n3 0x61200158a22108b040) hk'
  replace ev:=(Wt hlt)▸ev;refine xJ (FN ev) λo σ3 r' e1 e2 adD=> ?_;clear ev;cases adD;refine bB rfl ?_;show dH _ c.A ((compTurn (.ListComp elt [⟨.Name t q,iter,gA w,0⟩] sc pos) 0 (.ref I) (.ref D) (compEnvC sc cl C c.env)).onRaise (λx=>do
   noteFrame x (compEnvC sc cl C c.env);
   theTreesLotGoes x)) _ _ s;refine cO (aK (E:=λg g=>False) ?_ (λg g q=>q) λg g q=>q.elim);rw [compTurn_list];refine gg (aj (av (so.W.item i s _ _ hlt st λv h' tk hv st1 kk=> ?_)));have LG: ∀b o,b≠I->s.heap.get? b=some o->h'.get? b=some o:=λb o ne e=>kk b o (wn ne) e;refine fY (so.cls _ _ st1) λoi hoi g g=> ?_;obtain ⟨I1,S1⟩:=Iv.Iu (P:=c.F) (s':={s with heap:=h',toks:=tk}) KW (L:=I) IF so.nF hIC (cne so.nF) (fne so.nF) LG ((Uc (congrArg _ (hoi)) rfl));have RY:=S0.trans S1;have f1:=f.step S1;have O6:PlainL h' D ys:=PlainL.at pl (λo e=>LG D o (WQ P4) e);refine aj (av (Ud (a:=()) rfl ?_));rw [arm_assign_Name];refine aj (gg (oV (av (Gn (P:=c.F) ok hsk hk RD hcl nC nC I1 (RP _ _ _ RY i v l[i] hv (Sn hlt)) λs2 I2 S2 zE k2=> ?_))));have f2:=f1.step S2;have pl2:PlainL s2.heap D ys:=PlainL.at O6 (λo e=>k2 D o hDC e);have e1':=e1;unfold fE at e1;refine aj (aK ((ht l[i]).run I2 (λz=>by replace e1:=(z)▸e1;cases e1)) (λb s3 q=> ?_) λe' s' q=> ?_);rotate_left;·refine dM q λQA g z g=> ?_;replace e1:=(z)▸e1;cases e1
  refine gH q λb' σ2 sJ z V3 I3 S3 Na=> ?_;clear e1' q;subst (V3);rw [z] at e1;simp only [aA.eT] at e1;have st3:=so.OO IF S3 f2 (so.Iu (.tail _ (.tail _ (.head _))) hIC k2 f1 st1);have f3:=f2.step S3;have pl3:=PlainList.slots DF S3 pl2;have vr3:=((vr.step S1).step S2).step S3;have RQ:=(RY.trans S2).trans (S3.sub λa ha=>sub ha);have aax:Rest s₀ s3:=(Re.trans ⟨rfl,rfl⟩:Rest s₀ {s with heap:=h',toks:=tk}).trans (zE.trans Na);clear z S3;cases b' with
  |false=>cases e1;refine ao ⟨rfl,?_⟩;exact ih (i+1) (by exact (Ln.n3 0x185822ca22104058a22108b040) hk') hlt (zz I3) RQ aax f3 st3 pl3 vr3 (by exact (Ln.n2 0x614288841014040) dl) e2
  |true=>
   have ne:bk K l[i] e σ2≠.bad:=λz=>by rw [z] at e1;cases e1
   refine aj (aj (aK ((he l[i]).run I3 ne) (λu s4 q=> ?_) λe' s' q=> ?_));rotate_left;·refine dM q λQA g z g=> ?_;replace e1:=(z)▸e1;cases e1
   refine gH q λa' PC ι4 z V4 I4 S4 Re4=> ?_;rw [z] at e1;clear z;cases e1;have f4:=f3.step S4;have vr4:=vr3.step S4;have hys:ys.size=done.length:=by have:=vr4.length;rw [Tv] at this;exact this.symm
   refine aj (av (list_append_plainL (PlainList.slots DF S4 pl3) (λh5 pl5 hs5=> ?_) (by refine (sizeLine_eq).symm▸ ?_;have:cap=65536:=rfl;exact (Ln.n5 0x18618618508820820820844588820820841582112003503094040) hl dl hlt hys this)));obtain ⟨I5,S5⟩:=(zz I4).Iu (P:=c.F) (s':={s4 with heap:=h5}) KW (L:=D) DF nD hDC (cne nD) (fne nD) (λb o ne e=>(hs5.2 b ne).trans e) (by refine dM pl5 λg g e g=> ?_;skip;rw [e];rfl);have st5:=so.Iu DF P4 (λb o ne e=>(hs5.2 b ne).trans e) f4 (so.OO IF S4 f3 st3);refine ao (ao ⟨rfl,?_⟩);have:=ih (i+1) (done:=done++[a']) (ys:=ys.push u) (by exact (Ln.n3 0x185822ca22104058a22108b040) hk') hlt I5 ((RQ.trans (S4.sub λa ha=>sub ha)).trans S5) ((aax.trans Re4).trans ⟨rfl,rfl⟩) (f4.step S5) st5 pl5 (by rw [ZN];exact (vr4.step S5).append ⟨V4.step S5,trivial⟩) (by rw [Sq];simp;exact (Ln.n2 0x18501014040) dl) e2;rw [SG] at this;exact this
end
theorem abI (K:Fn->List J->U->aA U J) {ls:List J} (a:J) (Y:St) (h:Y.ls=ls):(fE K e c a Y).gr ls:=by
 refine aA.gr.bind ?_ λb σ1 h1=> ?_;·
  cases c with
  |none=>exact h
  |some c=>refine (br K a c Y h).bind λv σ1 h1=> ?_;cases v<;>first|exact h1|trivial
 ·split;·exact (br K a e σ1 h1).bind λu σ2 h2=>h2
  ·exact h1
section
variable {K:Fn->List J->U->aA U J} {c:Cx} {n:Nat} {cv:J}
structure nM (K:Fn->List J->U->aA U J) (c:Cx) (sc:Y0) (t:Str) (e:Ex) (cd:sf) (elt:UI) (w:Option UI):Prop where
 el: ∀C I D cl v,(∀x a,cl.lookup x=some a->c.env.cells.lookup x=some a)->(∀x,(x,Ut)∈sc.names->(cl.lookup x).isSome=true)->SE K (c.fD C I D cl sc t true) v e elt
 te: ∀C I D cl v,(∀x a,cl.lookup x=some a->c.env.cells.lookup x=some a)->(∀x,(x,Ut)∈sc.names->(cl.lookup x).isSome=true)->STO K (c.fD C I D cl sc t true) v cd w
 kind:sc.kind=.function
 ok:gB c.env.scope.names t sc=true
def Cx.i7 (c:Cx):Prop:= ∀x,c.env.kindOf x=some .cell->(c.env.cells.lookup x).isSome=true
theorem iC (h:gB sn t sc=true): ∀x∈sc.names,(x.2=.free->sn.lookup x.1=some .cell)/\x.2≠.cell/\(x.2=.local->sc.names.lookup x.1=some .local):=by
 refine dD (oH h) λh1 h2=> ?_;obtain ⟨_,h1⟩:=oH h1;intro x hx;have:=Tc.mp h2 x hx;clear hx;obtain ⟨n,k⟩:=x;simp only [W4,U3,beq_iff_eq,Vv] at this;rcases this with (⟨z,rfl⟩|⟨rfl,_⟩)|⟨⟨rfl,z⟩,_⟩;·exact ⟨λz=>(UY z),λz=>(UY z),λy=>z⟩
 ·exact ⟨λz=>(UY z),λz=>(UY z),λz=>(UY z)⟩
 ·exact ⟨λy=>z,λz=>(UY z),λz=>(UY z)⟩
theorem xX (th:c.i7) (h:gB c.env.scope.names t sc=true):closureFor sc c.env=pure (dK c.env sc.names [])/\(∀x a,(dK c.env sc.names []).lookup x=some a->c.env.cells.lookup x=some a)/\(∀x,(x,Ut)∈sc.names->((dK c.env sc.names []).lookup x).isSome=true):=by have key: ∀x∈sc.names,x.2=.free->(c.env.cells.lookup x.1).isSome=true:=λx hx e=>th x.1 ((iC h x hx).1 e);exact ⟨uZ key,Bv key (λx a e=>by simp at e),λx hx=>zK hx⟩
theorem v9 (ok:c.Ok n) (th:c.i7) {l r:List J} {fp wr:List Um} {P:Nat->Te->Prop} (cp:nM K c sc t e cd elt w) {s1:Tz} (I1:Inv c cv dY σ1 s1) (so:Source c s1.heap.objs.size l fp wr P St') (RU:oi.isFreed=false) (st0:St' 0 (s1.heap.push oi)) (fpN: ∀b∈fp,b≠s1.heap.objs.size-> ∃o,s1.heap.get? b=some o/\ ¬rK c.F dY σ1.hs b) (hl:l.length<=cap) (RP: ∀F' ι' H' h',Carry c.F dY σ1.hs s1.heap F' ι' H' h'-> ∀i v a,P i v->l[i]? =some a->aE c.T F' ι' H' h' a v) (ev:each (fE K e cd) l σ1=.ok r σ') {RR:Te->Um->Z1->Tz->Prop} (k: ∀C D m s' ι' fl,C∉c.F->s1.heap.get? C=none->s'.heap.Ns C m->Inv (c.more C) cv ι' ⟨σ'.ls,σ'.hs.new (.O r)⟩ s'->ι' σ'.hs.n=D->Step c.F c.F dY σ1.hs s1.heap ι' (σ'.hs.new (.O r)) s'.heap->Rest s1 s'->RR (.ref D) C (.ok fl) s'):wpAny (model c.T.prog c.T.w) c.A (aao []) (λacc s₃=>wpAny (model c.T.prog c.T.w) c.A (newFunctionEnv sc c.env.globals (dK c.env sc.names []) [] c.env.qual none .none (some c.env)) (λcenv s₄=>cW (model c.T.prog c.T.w) c.A (.compStart (.ListComp elt [⟨.Name t q,iter,gA w,0⟩] sc pos) 0 (.ref s1.heap.objs.size) acc {cenv with scope:=relabel sc c.env}) (RR acc cenv.locals) s₄) E s₃) E {s1 with heap:=s1.heap.push oi}:=by
 refine g8 (xX th cp.ok) λu hcl hcn=>UX (wpAny_newFunctionEnv (λy hy=>(iC cp.ok y hy).2.1) (by intro y hy;simp at hy) (λh4 Ht Ke=> ?_) cp.kind);dsimp only at Ht Ke⊢;generalize hH2:s1.heap.push oi=H2 at Ht Ke st0⊢;have z2:H2.objs.size=s1.heap.objs.size+1:=by rw [<-hH2,VT]
 generalize hH3:H2.push {cls:=.type "list",dict:=none,data:=.seq ([]:List Te).toArray}=H3 at Ht Ke⊢;have z3:H3.objs.size=s1.heap.objs.size+2:=by rw [<-hH3,VT,z2]
 have P4:s1.heap.objs.size≠H2.objs.size:=by exact (Ln.n2 0x1871600158a221040) z2
 have hIC:s1.heap.objs.size≠H3.objs.size:=by exact (Ln.n2 0x1871600158a222040) z3
 have hDC:H2.objs.size≠H3.objs.size:=by exact (Ln.n3 0x61871608058a22204258a221040) z2 z3
 have fresh: ∀a,s1.heap.objs.size<=a->s1.heap.get? a=none:=λa ha=>by
  cases z:s1.heap.get? a with
  |none=>rfl
  |some o'=>exact absurd (Ur z) (Ux.mpr ha)
 have BO: ∀a,s1.heap.objs.size<=a->a∉c.F:=λa ha z=>by obtain ⟨o,e⟩:=(I1.rh.fr a z).2;exact absurd (Ur e) (Ux.mpr ha)
 have lt2: ∀b o,H2.get? b=some o->b≠H3.objs.size:=λb o e q=>by
  have h23:H2.objs.size<=H3.objs.size:=by exact (Ln.n3 0x1861408058a22204258a221040) z2 z3
  exact SY (Sx (Ur e) h23) q
 have g2: ∀b o,H2.get? b=some o->h4.get? b=some o:=λb o e=>Ke.extBut b o (lt2 b o e) (SK _ (hH3▸SK _ e));have k0: ∀b o,s1.heap.get? b=some o->h4.get? b=some o:=λb o e=>g2 b o (hH2▸SK _ e);have gI:h4.get? s1.heap.objs.size=some oi:=g2 _ _ (hH2▸TN _ RU);have gD:PlainL h4 H2.objs.size #[]:=(nN _ _ (Ke.extBut _ _ hDC (SK _ (hH3▸TN _ rfl))) rfl rfl rfl);have gC:(h4.get? H3.objs.size).isSome=true:=by refine sZ Ht λo u u e u=> ?_;rw [e];rfl
 have frs: ∀a∈[s1.heap.objs.size,H2.objs.size,H3.objs.size],s1.heap.get? a=none/\(h4.get? a).isSome=true:=λa ha=>by
  simp only [Tn,U1,or_false] at ha;rcases ha with rfl|rfl|rfl;·exact ⟨fresh _ (Sv _),by rw [gI];rfl⟩
  ·exact ⟨fresh _ (by exact (Ln.n2 0x61400158a221040) z2),by refine dM gD λu u e u=> ?_;rw [e];rfl⟩
  ·exact ⟨fresh _ (by exact (Ln.n2 0x61400158a222040) z3),gC⟩
 obtain ⟨R4,Ca4⟩:=RH.enter (N:=[s1.heap.objs.size,H2.objs.size,H3.objs.size]) I1.rh k0 frs;let s4:Tz:={s1 with heap:=h4,toks:=s1.toks+([]:List (Str×Te)).length};have I4:Inv (c.fD H3.objs.size s1.heap.objs.size H2.objs.size (dK c.env sc.names []) sc t false) .ah dY σ1 s4:=⟨R4,M7 ok.kind cp.ok hcl hcn I1.loc rfl Ca4 (λa u o e=>⟨o.slots,k0 a o e⟩) ⟨_,Ht⟩,iT k0 I1.kN⟩;have loop:=E8 (K:=K) (q:=q) (pos:=pos) (iter:=iter) ok so cp.kind cp.ok hcl (BO H3.objs.size (by exact (Ln.n2 0x61400158a222040) z3)) (BO H2.objs.size (by exact (Ln.n2 0x61400158a221040) z2)) P4 hIC hDC hl (λv=>cp.el _ _ _ _ v hcl hcn) (λv=>cp.te _ _ _ _ v hcl hcn) (s₀ :=s1) k0 (λa ha=>(frs a ha).1) (KO:=dY) (H₁:=σ1.hs) (λι' H' h' S i v a hv ha=>(RP _ _ _ _ Ca4 i v a hv ha).aO S.aO) l.length 0 (done:=[]) (ys:= #[]) (by exact (Ln.n1 0x1600b200)) (Tq _) I4 (Step.refl' R4) ⟨rfl,rfl⟩ (λb hb ne=>by
  refine ay (fpN b hb ne) λo e1 e2=>aH o (k0 b o e1) ?_;rintro (q|q);·
   rcases SW.mp (show b∈[s1.heap.objs.size,H2.objs.size,H3.objs.size]++c.F from q) with q|q;·exact nomatch ((frs b q).1).symm.trans e1
   ·exact e2 (.inl q)
  ·exact e2 (.inr q)) (so.W.frame _ _ _ st0 λb u o e=>g2 b o e) gD trivial (Sv _) (by rw [VR];exact ev);refine cM (R:=λres s'=> ∃fl ι' ys',res=.ok fl/\Inv (c.OD H3.objs.size H2.objs.size (dK c.env sc.names []) sc t false) .ah ι' σ' s'/\Step c.F c.F dY σ1.hs s1.heap ι' σ'.hs s'.heap/\Rest s1 s'/\PlainL s'.heap H2.objs.size ys'/\aB c.T (c.OD H3.objs.size H2.objs.size (dK c.env sc.names []) sc t false).F ι' σ'.hs s'.heap ([]++r) ys'.toList) ?_ λres s' z=> ?_;·
  refine bB rfl (av ?_);refine (?_:wpAny _ c.A ((compStart (.ListComp elt [⟨.Name t q,iter,gA w,0⟩] sc pos) 0 (.ref s1.heap.objs.size) (.ref H2.objs.size) (compEnvC sc (dK c.env sc.names []) H3.objs.size c.env)).onRaise (λx=>do
   noteFrame x _;
   XY theWindowsPlace)) _ _ s4);refine wpAny_notedAt ?_;refine Sw (acj (wpAny_ite ?_));split;·first|exact Sw (SN (SN (Xj rfl loop)))|exact SN (Xj rfl loop)
  ·refine Sw (WS ?_);exact Sw (wpAny_standAt (Sw (so.W.self 0 _ _ _ (so.W.frame _ _ _ st0 λb u o e=>g2 b o e) (SN (Xj rfl loop)))))
 ·refine aQ λcT k_1=>QF z λfl ι' ys' aez I5 S5 Re5 pl5 vr5=> ?_;clear z;subst aez;rw [WW] at vr5;refine dM (xN l σ1 (by rw [ev];intro z;cases z)) λu u z5 hlen=> ?_;replace z5:=(ev)▸z5;cases z5;have hls:σ'.ls=σ1.ls:=by have:=zb (ls:=σ1.ls) (abI K (e:=e) (c:=cd)) l σ1 rfl;rw [ev] at this;exact this
  refine xx pl5 λod kk gD5 c5 d5 t5=> ?_;refine qS (RH.adopt (N:=[H2.objs.size]) (F:=(c.more H3.objs.size).F) (D:=H2.objs.size) (o:=.O r) I5.rh (.head _) (λz=>by
   rcases Tn.mp z with z|z;·exact hDC z
   ·exact BO _ (by exact (Ln.n2 0x61400158a221040) z2) z) λCa=>by exact ⟨by exact (Ln.n3 0x18614042500094040) hl hlen,_,_,_,gD5,c5,t5,vr5.aO Ca,d5⟩) λvZ e1 e2 R6 Ca6=> ?_;have S6:=Step.adopt (o:=.O r) S5 e1 e2 (fresh _ (by exact (Ln.n2 0x61400158a221040) z2)) I5.rh.fin;obtain ⟨m,hm⟩:=(I5.loc.ns);have Ca7:Carry c.F dY σ1.hs s1.heap (c.more H3.objs.size).F vZ (σ'.hs.new (.O r)) s'.heap:=⟨λa o e u nn=>⟨S6.keep a o e nn,by
   rintro (z|z);·
    rcases Tn.mp z with rfl|z;·exact nomatch (fresh _ (by exact (Ln.n2 0x61400158a222040) z3)).symm.trans e
    ·exact nn (.inl z)
   ·exact S6.fc ((Uc (congrArg _ (e)) rfl)) nn (.inr z)⟩,S6.ext,S6.mono⟩;refine k_1 (k H3.objs.size H2.objs.size m s' vZ fl (BO _ (by exact (Ln.n2 0x61400158a222040) z3)) (fresh _ (by exact (Ln.n2 0x61400158a222040) z3)) hm ⟨R6,?_,I5.kN⟩ e1 S6 Re5);refine (hls).symm▸(Loc.aO (c:=c) (c':=c.more H3.objs.size) ⟨rfl,rfl,rfl,rfl,rfl⟩ Ca7 (λa ha o e=>S6.slots' a ?_ o e) I1.loc);clear e;rcases ha with rfl|⟨y,hy⟩;·exact ok.AN
  ·exact ok.rU y a hy
end
section
variable {K:Fn->List J->U->aA U J} {c:Cx} {n:Nat} {cv:J}
theorem Bx (ok:c.Ok n) (th:c.i7) {sc:Y0} {t:Str} {e it:Ex} (cp:nM K c sc t e cd elt w) (hn:uJ iter=true) (hi:SE K c cv it iter) (I:Inv c cv X Y s) (nb:bk K cv (.comp e it cd) Y≠.bad) (kE: ∀x s',IS c c.F cv X Y.hs s (bk K cv it Y) x s'->E x s') (kQ: ∀(r:List J) (σ':St) (C D:Um) (m:Str->Option Te) (s':Tz) (ι':Nat->Um) (fl:Flow),bk K cv (.comp e it cd) Y=.ok (.ref σ'.hs.n) ⟨σ'.ls,σ'.hs.new (.O r)⟩->C∉c.F->s.heap.get? C=none->s'.heap.Ns C m->Inv (c.more C) cv ι' ⟨σ'.ls,σ'.hs.new (.O r)⟩ s'->ι' σ'.hs.n=D->Step c.F c.F X Y.hs s.heap ι' (σ'.hs.new (.O r)) s'.heap->Rest s s'->postR (model c.T.prog c.T.w) c.A E use Q (.ref D) C (.ok fl) s'):dH (model c.T.prog c.T.w) c.A (comprehension (.ListComp elt [⟨.Name t q,iter,gA w,0⟩] sc pos) sc c.env pos' (aao []) false (eval iter c.env) use) Q E s:=by
 refine g8 (xX th cp.ok) λh1 h2 h3=>J4 rfl (λx=>l8 hn) h1 cp.kind (λx hx=>(iC cp.ok x hx).2.2) ?_;rw [k8] at nb;refine aK (hi.run I (λz=>nb (((z).symm▸rfl)))) (λv s1 z=> ?_) kE;refine aQ λcT k_1=>gH z λa σ1 dY e1 V1 I1 S1 wY=> ?_;replace nb:=(e1)▸nb;clear z;cases a<;>first|exact absurd rfl nb|skip
 rename_i l;change aA.bind (each _ l σ1) _≠_ at nb;refine dM (xN l σ1 (λz=>nb (by refine (z).symm▸ ?_;rfl))) λr σ' ev hlr=> ?_;have V0:=V1;clear V0;obtain ⟨cl,ax,o,vs,ep,rfl,g1,g2,g3,g4,g5⟩:=V1;have hL:s1.heap.IsList ax vs:=⟨o,g1,g2,ep,g3⟩;refine k_1 (WT hL ?_);have hlen:vs.size=l.length:=by have:=g5.length;rw [Tv] at this;exact this.symm
 have so:Source c s1.heap.objs.size l [s1.heap.objs.size,ax] [s1.heap.objs.size] (λi v=>vs[i]? =some v) (λi h=>h.IsListIter s1.heap.objs.size ax i/\h.IsList ax vs):=⟨hlen▸YG ok.handled s1.heap.objs.size ax (SY (Ur g1)) vs,rfl,λi h st=>by obtain ⟨⟨o,e1,e2,e3⟩,_⟩:=st;exact ⟨o,e1,by rw [e2];decide,_,e3⟩,(mG I1)⟩;refine v9 (r:=r) (σ':=σ') (RR:=λacc C=>postR (model c.T.prog c.T.w) c.A E use Q acc C) ok th cp I1 so rfl ⟨fJ,hL.push _⟩ (λb hb ne=>by
  rcases Tn.mp hb with rfl|hb;·exact absurd rfl ne
  ·exact (Sy.mp hb).symm▸(aH o g1 g4)) cl (λF' ι' H' h' Ca i v a hv ha=>by refine ay (aB.get i (g5.aO Ca) ha) λw' e1 e2=> ?_;replace e1:=(UE)▸e1;replace e1:=(hv)▸e1;obtain rfl:=Sm e1;exact e2) ev λC D m s' ι' fl nC fC hm I6 eD S6 CP=> ?_;refine kQ r σ' C D m s' ι' fl ?_ nC ?_ hm I6 eD (S1.trans S6) (wY.trans CP);·rw [k8,e1];refine (?_:aA.bind (each _ l σ1) _=_);rw [ev];rfl
 ·cases z:s.heap.get? C with
  |none=>rfl
  |some o=>have:=S1.alive C (((z).symm▸rfl));replace this:=(fC)▸this;cases this
theorem Be (ok:c.Ok n) (th:c.i7) {sc:Y0} {t:Str} {q pos pos' p1 p2:Pos} {e:Ex} {r:ir} {xs:List UI} {w:Option UI} (cp:nM K c sc t e cd elt w) (hb:c.cc.bi nm=some (.type "range")) (hp:xs.all aN=true) (hl:iW (SE K c cv) r xs) {s:Tz} (I:Inv c cv X Y s) (nb:bk K cv (.gp e r cd) Y≠.bad) (kE: ∀x s',IS c c.F cv X Y.hs s (RI (m5 K cv r Y)) x s'->E x s') (kQ: ∀(rr:List J) (σ':St) (C D:Um) (m:Str->Option Te) (s':Tz) (ι':Nat->Um) (fl:Flow),bk K cv (.gp e r cd) Y=.ok (.ref σ'.hs.n) ⟨σ'.ls,σ'.hs.new (.O rr)⟩->C∉c.F->s.heap.get? C=none->s'.heap.Ns C m->Inv (c.more C) cv ι' ⟨σ'.ls,σ'.hs.new (.O rr)⟩ s'->ι' σ'.hs.n=D->Step c.F c.F X Y.hs s.heap ι' (σ'.hs.new (.O rr)) s'.heap->Rest s s'->postR (model c.T.prog c.T.w) c.A E use Q (.ref D) C (.ok fl) s'):dH (model c.T.prog c.T.w) c.A (comprehension (.ListComp elt [⟨.Name t q,.Call (.Name nm p1) xs [] p2,gA w,0⟩] sc pos) sc c.env pos' (aao []) false (eval (.Call (.Name nm p1) xs [] p2) c.env) use) Q E s:=by
 refine g8 (xX th cp.ok) λh1 h2 h3=>J4 rfl (λx=>l8 rfl) h1 cp.kind (λx hx=>(iC cp.ok x hx).2.2) ?_;rw [jC] at nb;refine aK (wc ok hb hp hl I (λz=>nb (by rw [z];rfl))) (λv s1 z=> ?_) kE;refine aQ λcT k_1=>gH z λl σ1 dY e1 V1 I1 S1 wY=> ?_;rw [e1] at nb;simp only [aA.eT] at nb;have kK:each (fE K e cd) (l.map .int) σ1≠.bad:=λz=>nb (by refine (z).symm▸ ?_;rfl);refine dM (xN (l.map .int) σ1 kK) λrr σ' ev hlr=> ?_;have hcap:l.length<=cap:=by
  unfold RI at e1;cases hv:m5 K cv r Y with
  |bad=>replace e1:=(hv)▸e1;cases e1
  |exc _=>replace e1:=(hv)▸e1;cases e1
  |ok as σ2=>
   replace e1:=(hv)▸e1;dsimp only [aA.eT] at e1;have lc: ∀{as l},cG as=some l->l.length<=cap:=by intro as l h;have hcap:cap=65536:=rfl;refine wB (M:=λy l=>l.length<=cap) h (λn hh=> ?_) (λa b hh=> ?_) λa b hh=> ?_;all_goals rw [sO];lia
   clear hv;cases hr:cG as with
   |none=>replace e1:=(hr)▸e1;cases e1
   |some l'=>replace e1:=(hr)▸e1;cases e1;exact lc hr
 clear z;obtain ⟨rr0,rfl,a,d,st,t1,t2,t3,hr,hsm,hsz,hx⟩:=V1;refine k_1 (abo hr hsm ?_);refine (hsz).symm▸ ?_;have hlen:(l.map J.int).length=l.length:=Sp _;have so:Source c s1.heap.objs.size (l.map .int) [s1.heap.objs.size] [s1.heap.objs.size] (λi v=> ∃t,v=.int (a+i*st) t) (λi h=>aa0 h s1.heap.objs.size (a+(i:Nat)*st) ((l.length:Int)-(i:Nat)) st):=⟨by rw [hlen];exact ab2 ok.handled s1.heap.objs.size a st l.length,rfl,λi h z=>⟨_,z,(by refine (?_:VK "range_iterator"≠.type "frame");decide),_,rfl⟩,(mG I1)⟩;refine v9 (r:=rr) (σ':=σ') (RR:=λacc C=>postR (model c.T.prog c.T.w) c.A E use Q acc C) ok th cp I1 so rfl (by
  have z1:(a+((0:Nat):Int)*st)=a:=by simp
  refine (z1).symm▸(((rfl:((l.length:Int)-((0:Nat):Int))=l.length)).symm▸ ?_);exact TN _ rfl) (λb hb ne=>absurd (Sy.mp hb) ne) (by rw [hlen];exact hcap) (λF' ι' H' h' Ca i v w' hv ha=>by rw [SA] at ha;refine ay (Sz.mp ha) λk hk aaM=> ?_;clear ha;subst aaM;obtain ⟨tk,rfl⟩:=hv;rw [hx i k hk];exact ⟨tk,rfl⟩) ev λC D m s' ι' fl nC fC hm I6 eD S6 CP=> ?_;refine kQ rr σ' C D m s' ι' fl ?_ nC ?_ hm I6 eD (S1.trans S6) (wY.trans CP);·rw [jC,e1];simp only [aA.eT,ev]
 ·cases z:s.heap.get? C with
  |none=>rfl
  |some o=>have:=S1.alive C (((z).symm▸rfl));replace this:=(fC)▸this;cases this
theorem w7 (ok:c.Ok n) {Y:St} {σ':St} (eo:o=.ok (.ref σ'.hs.n) ⟨σ'.ls,σ'.hs.new (.O r)⟩) (nC:C∉c.F) (fC:s.heap.get? C=none) (hm:s'.heap.Ns C m) (I6:Inv (c.more C) cv ι' ⟨σ'.ls,σ'.hs.new (.O r)⟩ s') (eD:ι' σ'.hs.n=D) (S6:Step c.F c.F X Y.hs s.heap ι' (σ'.hs.new (.O r)) s'.heap) (CP:Rest s s'):postR (model c.T.prog c.T.w) c.A E none (Res c c.F cv (aE c.T c.F) X Y.hs s o) (.ref D) C (.ok fl) s':=by refine aH m hm (λh' hs=> ?_);have kk: ∀b o,b≠C->s'.heap.get? b=some o->h'.get? b=some o:=λb o ne e=>(hs.2 b ne).trans e;refine d7 _ _ ι' eo ?_ (I6.drop (s':={s' with heap:=h'}) ok nC kk) (S6.pH fC kk) (CP.trans ⟨rfl,rfl⟩);exact ⟨by refine (eD).symm▸ ?_;rfl,SQ _⟩
theorem NO (ok:c.Ok n) (th:c.i7) (cp:nM K c sc t e cd elt w) (hn:uJ iter=true) (hi:SE K c cv it iter):SE K c cv (.comp e it cd) (.ListComp elt [⟨.Name t q,iter,gA w,0⟩] sc pos):=by refine ⟨@λY X s I nb=> ?_⟩;rw [eval_ListComp];refine Bx (use:=none) ok th cp hn hi I nb (λx s' z=> ?_) λr σ' C D m s' ι' fl eo nC fC hm I6 eD S6 CP=>w7 ok eo nC fC hm I6 eD S6 CP;exact dM z λσ' ι' h1 h2=>gv σ' ι' (by rw [k8,h1];rfl) h2
theorem KU (ok:c.Ok n) (th:c.i7) (cp:nM K c sc t e cd elt w) (hb:c.cc.bi nm=some (.type "range")) (hp:xs.all aN=true) (hl:iW (SE K c cv) r xs):SE K c cv (.gp e r cd) (.ListComp elt [⟨.Name t q,.Call (.Name nm p1) xs [] p2,gA w,0⟩] sc pos):=by refine ⟨@λY X s I nb=> ?_⟩;rw [eval_ListComp];refine Be (use:=none) ok th cp hb hp hl I nb (λx s' z=> ?_) λr σ' C D m s' ι' fl eo nC fC hm I6 eD S6 CP=>w7 ok eo nC fC hm I6 eD S6 CP;exact dM z λσ' ι' h1 h2=>gv σ' ι' (by rw [jC,h1];rfl) h2
end
noncomputable def kR (names:List (Str×VF)) (x:Str) (p:Pos):UI->Bool
 | .ListComp _ _ s q=>names.lookup x==some .local&&p.line==q.line&& !(s.names.any λ(n,k)=>n==x&&(k== .local||k== .cell))
 |_=>false
noncomputable def Pq (x:UI):Bool:= !(x.ctorIdx==9||x.ctorIdx==10)
theorem yq (hk:env.scope.kind=.function) (hn:Pq y=true):swapsWith y (some (.Name x p)) l env=pure (kR env.scope.names x p y):=by
 unfold swapsWith;cases y<;>first|rfl|exact gV hn|skip
 have:env.blockKind=.function:=by unfold Env.blockKind;refine (hk).symm▸ ?_;rfl
 rw [this];rfl
section
variable {K:Fn->List J->U->aA U J} {c:Cx} {n:Nat}
theorem Dl (ok:c.Ok n) (ow:c.Own) (nm:nq c i x) (hn:Pq y=true) (hsw:kR c.env.scope.names x p y=false) (he:SE K c .ah e y):SS K c (.assign (.name i) e) (.Assign [.Name x p] y q):=by refine ⟨@λY X s I nb=> ?_⟩;rw [exec_Assign_Name _ _ _ _ _ (by rw [yq ok.kind hn,hsw])];refine az (aC nb (λz=>bU ok (he.run I z)) λa σ1 dY v s1 ck S1 V1 I1=>az ?_);exact aC ck (λz=>qi ok ow I1 nm.bP nm.kind nm.cell V1) λu σ2 sJ u s2 kK S2 V2 I2=>bE I2 trivial rfl
theorem Step.widen (S:Step P F X H h ι' H' h'):Step P (C::F) X H h ι' H' h':=⟨λa o e n=>S.keep a o e λq=>n (q.imp (Xk _) id),S.slots,S.alive,S.ext,S.dom,S.new,S.mono⟩
noncomputable def zX (fz:Bool) (v:J) (Y:St):aA St J:=if fz then (match aq false 8 v Y.hs with
 |some (v,hs)=>.ok v ⟨Y.ls,hs⟩
 |none=>.bad) else .ok v Y
theorem uy (ok:c.Ok n) (ow:c.Own) (nm:nq c i x) {Y:St} {X ι':Nat->Um} {s s':Tz} {C D:Um} {m:Str->Option Te} {σ':St} {o:aA St J} {fz:Bool} (eo:o=.ok (.ref σ'.hs.n) ⟨σ'.ls,σ'.hs.new (.O r)⟩) (nb:(o.bind λv Y=>(zX fz v Y).bind λv Y=>(mW Y i v).bind λy Y=>(.ok .next Y:aA St bw))≠.bad) (nC:C∉c.F) (fC:s.heap.get? C=none) (hm:s'.heap.Ns C m) (I6:Inv (c.more C) .ah ι' ⟨σ'.ls,σ'.hs.new (.O r)⟩ s') (eD:ι' σ'.hs.n=D) (S6:Step c.F c.F X Y.hs s.heap ι' (σ'.hs.new (.O r)) s'.heap) (CP:Rest s s'):postR (model c.T.prog c.T.w) c.A E (some (assign (.Name x p) c.env)) (λy s''=>Res c c.P .ah (Gd c) X Y.hs s (o.bind λv Y=>(zX fz v Y).bind λv Y=>(mW Y i v).bind λy Y=>(.ok .next Y:aA St bw)) .next s'') (.ref D) C (.ok fl) s':=by
 subst eo;simp only [aA.eT] at nb⊢;have V6:aE c.T (c.more C).F ι' (σ'.hs.new (.O r)) s'.heap (.ref σ'.hs.n) (.ref D):=by exact ⟨by rw [eD],SQ _⟩
 have okm:=ok.more C;obtain ⟨ne1,ne2⟩:=pM ok nC;have th: ∃v' H7,zX fz (.ref σ'.hs.n) ⟨σ'.ls,σ'.hs.new (.O r)⟩=.ok v' ⟨σ'.ls,H7⟩/\aE c.T (c.more C).F ι' H7 s'.heap v' (.ref D)/\Inv (c.more C) .ah ι' ⟨σ'.ls,H7⟩ s'/\Step (c.more C).F (c.more C).F ι' (σ'.hs.new (.O r)) s'.heap ι' H7 s'.heap:=by
  cases fz with
  |false=>exact nN _ _ rfl V6 I6 (Step.refl I6.rh)
  |true=>
   unfold zX at nb⊢;cases hf:aq false 8 (.ref σ'.hs.n) (σ'.hs.new (.O r)) with
   |none=>rw [hf] at nb;exact absurd rfl nb
   |some pr=>obtain ⟨v',H7⟩:=pr;obtain ⟨t,V⟩:=qG 8 hf I6.rh V6;exact nN v' H7 rfl V (I6.step okm t.rh t.st) t.st
 refine xx th λv' H7 e7 V7 I7 S7=> ?_;rw [e7] at nb⊢;simp only [aA.eT] at nb⊢;have:=jZ (c:=c.more C) (p:=p) okm (ow.more (WQ (WQ ne1)) ne2) ⟨nm.bP,nm.kind,nm.cell⟩ I7 V7;refine aK this (λy s8 z=> ?_) λe s8 z=> ?_;·
  refine gH z λy σ8 ι8 e8 y I8 S8 Re8=>(show mW ⟨σ'.ls,H7⟩ i v'=.ok _ σ8 from e8).symm▸ ?_;have hm8: ∃m,s8.heap.Ns C m:=by refine Fg hm λob es ep g1 g2 g3 g4=> ?_;obtain ⟨sl,z⟩:=S8.slots' C (.head _) ob g1;exact AU m _ es ep z g2 g3 g4
  obtain ⟨m8,hm8⟩:=hm8;refine aH m8 hm8 (λh' hs=> ?_);have kk: ∀b o,b≠C->s8.heap.get? b=some o->h'.get? b=some o:=λb o ne e=>(hs.2 b ne).trans e;exact d7 _ σ8 ι8 rfl trivial (I8.drop (s':={s8 with heap:=h'}) ok nC kk) ((Step.within (N:=[C]) (((S6.widen.sub ok.PF).trans (S7.sub λa ha=>.tail _ (ok.PF a ha))).trans (S8.sub λa ha=>.tail _ ha)) (λy y e=>e) (λa ha=>((Sy.mp ha).symm▸(fC))) λy h=>h).pH fC kk) ((CP.trans Re8).trans ⟨rfl,rfl⟩)
 ·refine dM z λσ8 y e8 y=> ?_;by_cases q:i<σ'.ls.length;·cases (if_pos q).symm.trans e8
  ·cases (if_neg q).symm.trans e8
noncomputable def k9:Ex->Ex×Bool
 | .freeze e=>(e,true)
 |e=>(e,false)
theorem Dz {Y:St} {i:Nat}:eB K (.assign (.name i) e) Y=(bk K .ah (k9 e).1 Y).bind λv Y=>(zX (k9 e).2 v Y).bind λv Y=>(mW Y i v).bind λz Y=>.ok .next Y:=by cases e<;>first|(refine aA.bind_congr λv Y=> ?_;rfl)|(refine Uc (aA.bind_assoc ..) (aA.bind_congr λv Y=> ?_);rfl)
theorem vK (ok:c.Ok n) (ow:c.Own) (th:c.i7) (nm:nq c i x) (hc:(k9 e0).1=.comp e it cd) (hsw:kR c.env.scope.names x p (.ListComp elt [⟨.Name t q1,iter,gA w,0⟩] sc pq)=true) (cp:nM K c sc t e cd elt w) (hn:uJ iter=true) (hi:SE K c .ah it iter):SS K c (.assign (.name i) e0) (.Assign [.Name x p] (.ListComp elt [⟨.Name t q1,iter,gA w,0⟩] sc pq) q):=by refine ⟨@λY X s I nb=> ?_⟩;rw [exec_Assign_Name_used _ _ _ _ (by rw [yq ok.kind rfl,hsw])];rw [Dz,hc] at nb⊢;refine az ?_;refine aj (aj (cJ (Bx (use:=some (assign (.Name x p) c.env)) ok th cp hn hi I (λz=>nb (by rw [z];rfl)) (λx s' z=> ?_) λr σ' C D m s' ι' fl eo nC fC hm I6 eD S6 CP=>uy ok ow nm eo nb nC fC hm I6 eD S6 CP) λy s' z=>ao (ao z)));exact qF z λσ' ι' h1 h2 h3 h4 h5 h6=>rJ σ' ι' (by rw [k8,h1];rfl) h2 h3 h4 (h5.sub ok.PF) h6
theorem tY (ok:c.Ok n) (ow:c.Own) (th:c.i7) (nm:nq c i x) (hc:(k9 e0).1=.gp e r cd) (hsw:kR c.env.scope.names x p (.ListComp elt [⟨.Name t q1,.Call (.Name nmr p1) xs [] p2,gA w,0⟩] sc pq)=true) (cp:nM K c sc t e cd elt w) (hb:c.cc.bi nmr=some (.type "range")) (hp:xs.all aN=true) (hl:iW (SE K c .ah) r xs):SS K c (.assign (.name i) e0) (.Assign [.Name x p] (.ListComp elt [⟨.Name t q1,.Call (.Name nmr p1) xs [] p2,gA w,0⟩] sc pq) q):=by refine ⟨@λY X s I nb=> ?_⟩;rw [exec_Assign_Name_used _ _ _ _ (by rw [yq ok.kind rfl,hsw])];rw [Dz,hc] at nb⊢;refine az ?_;refine aj (aj (cJ (Be (use:=some (assign (.Name x p) c.env)) ok th cp hb hp hl I (λz=>nb (by rw [z];rfl)) (λx s' z=> ?_) λr σ' C D m s' ι' fl eo nC fC hm I6 eD S6 CP=>uy ok ow nm eo nb nC fC hm I6 eD S6 CP) λy s' z=>ao (ao z)));exact qF z λσ' ι' h1 h2 h3 h4 h5 h6=>rJ σ' ι' (by rw [jC,h1];rfl) h2 h3 h4 (h5.sub ok.PF) h6
end
section
variable {prog:Xz} {w:YO} {A:Wc} {E:Te->Tz->Prop} {s:Tz} {vs out:List Te}
def Je (prog:Xz) (w:YO) (h0:Vr) (vs out:List Te):Prop:=(vs.length<2/\out=vs)∨(2<=vs.length/\ ∃κ,∃p:Array Nat,(∀A Q s',(∀b o,h0.get? b=some o->s'.heap.get? b=some o)->Q κ s'->wpAny (model prog w) A (keyKind' vs.toArray) Q (λz z=>False) s')/\(∀A G s',(∀b o,h0.get? b=some o->s'.heap.get? b=some o)->G p s'->(kas_sort vs.length).kasWp (kas_ask prog w A κ vs) G s')/\out=p.toList.map λi=>vs.getD i XT)
theorem vh (k0: ∀b o,h0.get? b=some o->s.heap.get? b=some o) (na:h0.get? a=none) (ho:s.heap.get? a=some (seqObj "list" vs.toArray n)) (h64:vs.length<64) (hs:Je prog w h0 vs out) (h:out.length<64->P (.done (.ret .none)) {s with heap:=sortedHeap s.heap a vs out.toArray}):wpAny (model prog w) A (Builtin.«list.sort» ⟨[.ref a],[]⟩) P E s:=by
 rw [list_sort_plain];refine Sw (listItems_at ho rfl ?_);refine Sw (listUpdate_at ho rfl ?_ (by rw [Ui,sizeLine_eq];exact (Ln.n1 0x614220820820821012220900) h64) (Tq _));obtain ⟨e1,ho1⟩: ∃e1,(s.heap.update a (Va λy=>(#[]:Array Te))).get? a=some (seqObj "list" #[] e1):=⟨_,get?_update_seq ho (λy=> #[])⟩;refine Sw (seqEpoch_at ho1 rfl ?_);refine Sw (wpAny_newTuple ?_ (by rw [sizeLine_eq];exact (Ln.n1 0x614220820820821012220900) h64));refine Sw (wpAny_newList ?_ (Tq _));refine W6 ?_;have ho6:(((s.heap.update a (Va λy=>(#[]:Array Te))).push (seqObj "tuple" vs.toArray 0)).push (seqObj "list" #[] 0)).get? a=some (seqObj "list" #[] e1):=SK _ (SK _ ho1);have k6: ∀b o,h0.get? b=some o->(((s.heap.update a (Va λy=>(#[]:Array Te))).push (seqObj "tuple" vs.toArray 0)).push (seqObj "list" #[] 0)).get? b=some o:=λb o e=>by refine SK _ (SK _ ?_);rw [UO _ _ (λz=>by replace e:=(z).symm▸e;replace e:=(na)▸e;cases e)];exact k0 b o e
 refine (?_:wpAny (model prog w) A _ P E {s with heap:=((s.heap.update a (Va λy=>(#[]:Array Te))).push (seqObj "tuple" vs.toArray 0)).push (seqObj "list" #[] 0)});dsimp only;have hsz:vs.toArray.size=vs.length:=rfl;have fin: ∀st':SortSt,(arrOf st').map (·.2)=out.toArray->out.length<64->failedOf st'=none->wpAny (model prog w) A (do
  let sorted:=(arrOf st').map (·.2)
  let touched:=(<-seqEpoch a) != e1
  Builtin.List.listUpdate (.ref a) λy=>sorted
  if let some e:=failedOf st' then
   rule "list.sort.comparison-raised";
   throw e
  if touched then
   rule "list.sort.modified";
   raiseError "ValueError" "list modified during sort"
  ret .none) P E {s with heap:=((s.heap.update a (Va λy=>(#[]:Array Te))).push (seqObj "tuple" vs.toArray 0)).push (seqObj "list" #[] 0)}:=by intro st' e1' hl hf;refine Sw (seqEpoch_at ho6 rfl ?_);refine (e1').symm▸(Sw (listUpdate_at ho6 rfl ?_ (Tq _) (by rw [Ui,sizeLine_eq];exact (Ln.n1 0x614221820820821012220900) hl)));refine (hf).symm▸ ?_;simp only [bne_self_eq_false,VI,if_false];exact SN (h hl)
 refine aQ λcT k_1=> ?_;clear h;rcases hs with ⟨h2,e0⟩|⟨h2,κ,p,hk,hg,rfl⟩;·refine k_1 ?_;rw [if_pos (by omega),if_pos (by omega)];refine Sw (SN ?_);rw [StateT.run_pure];refine Sw (SN ?_);refine fin (SortSt.mk' general' (vs.toArray.zip vs.toArray) #[] 7 none) ?_ (by rw [e0];exact (Ln.n1 0x18488824012220900) h64) rfl;refine (?_:(vs.toArray.zip vs.toArray).map (·.2)=_);rw [e0];simp;exact List.map_snd_zip (Sv _)
 ·refine k_1 ?_;rw [if_neg (by exact (Ln.n2 0x618712222014048896040) hsz h2),if_neg (by exact (Ln.n2 0x618712222014048896040) hsz h2)];refine Sw (Wo (hk A _ _ k6 ?_) (λy y x=>x) λy y x=>x.elim);refine Sw (Wo (kat_run (Q:=λst' s'=>p.size=vs.length/\arrOf st'=p.map (kas_item (vs.toArray.zip vs.toArray))/\failedOf st'=none/\s'={s with heap:=((s.heap.update a (Va λy=>(#[]:Array Te))).push (seqObj "tuple" vs.toArray 0)).push (seqObj "list" #[] 0)}) (G:=λp' s'=>p'=p/\s'={s with heap:=((s.heap.update a (Va λy=>(#[]:Array Te))).push (seqObj "tuple" vs.toArray 0)).push (seqObj "list" #[] 0)}) rfl h2 h64 (λp' st' s' a1 a2 a3 a4=>⟨a4.1▸a1,a4.1▸a2,a3,a4.2⟩) (hg A _ _ k6 ⟨rfl,rfl⟩)) ?_ λy y e=>e);rintro ⟨⟨⟩,st'⟩ s' ⟨hp,har,hf,rfl⟩;exact fin st' (kat_snds rfl har) (by rw [Sp,Tv,hp];exact h64) hf
theorem sortedHeap_at {n:Nat} (ho:h.get? a=some (seqObj "list" vs.toArray n)):(∃m,(sortedHeap h a vs out.toArray).get? a=some (seqObj "list" out.toArray m))/\ ∀b o,b≠a->h.get? b=some o->(sortedHeap h a vs out.toArray).get? b=some o:=by obtain ⟨e1,ho1⟩: ∃e1,(h.update a (Va λz=>(#[]:Array Te))).get? a=some (seqObj "list" #[] e1):=⟨_,get?_update_seq ho (λz=> #[])⟩;refine ⟨⟨_,get?_update_seq (SK _ (SK _ ho1)) λz=>out.toArray⟩,λb o q e=> ?_⟩;unfold sortedHeap;rw [UO _ _ (WQ q)];refine SK _ (SK _ ?_);rw [UO _ _ (WQ q)];exact e
theorem BV (hl:s.heap.IsList l vs.toArray) (h64:vs.length<64) (hs:Je prog w s.heap vs out) (h: ∀h' m,out.length<64->(∀b o,s.heap.get? b=some o->h'.get? b=some o)->h'.get? (s.heap.objs.size+1)=some (seqObj "list" out.toArray m)->Q (.ref (s.heap.objs.size+1)) {s with heap:=h'}):wpAny (model prog w) A (call (.builtin "sorted") [.ref l]) Q E s:=by
 refine Calls.call_function_entry kind_sorted plain_sorted entry_sorted (args_sorted1 _) ?_;refine Sw (m:=checkCount "sorted" 1 1 _) (SN ?_);refine Sw (collect_list hl ?_ (by rw [sizeLine_eq];exact (Ln.n1 0x614220820820821012220900) h64));refine Sw (wpAny_newList ?_ (by rw [sizeLine_eq];exact (Ln.n1 0x614220820820821012220900) h64));have hsz:((s.heap.push (seqObj "list" #[] 0)).update s.heap.objs.size (Va (· ++vs.toArray))).objs.size=s.heap.objs.size+1:=by rw [Heap.size_update,size_push']
 have hoL:(((s.heap.push (seqObj "list" #[] 0)).update s.heap.objs.size (Va (· ++vs.toArray))).push (seqObj "list" vs.toArray 0)).get? (s.heap.objs.size+1)=some (seqObj "list" vs.toArray 0):=by exact (hsz)▸(TN _ rfl)
 have keep: ∀b o,s.heap.get? b=some o->(((s.heap.push (seqObj "list" #[] 0)).update s.heap.objs.size (Va (· ++vs.toArray))).push (seqObj "list" vs.toArray 0)).get? b=some o:=λb o q=>by have hlt:b<s.heap.objs.size:=Ur q;rw [ZT _ _ _ (((hsz).symm▸(SY (Tu hlt)))),Heap.get?_update_ne _ _ _ _ (SY hlt),ZT _ _ _ (SY hlt)];exact q
 refine (?_:wpAny _ _ _ _ _ {s with heap:=((s.heap.push (seqObj "list" #[] 0)).update s.heap.objs.size (Va (· ++vs.toArray))).push (seqObj "list" vs.toArray 0)});refine (hsz).symm▸ ?_;have na:s.heap.get? (s.heap.objs.size+1)=none:=Wa (by exact (Ln.n1 0x50a221000));refine Sw (W6 (VE slot_list_sort (aH _ hoL rfl) entry_list_sort (vh (s:={s with heap:=((s.heap.push (seqObj "list" #[] 0)).update s.heap.objs.size (Va (· ++vs.toArray))).push (seqObj "list" vs.toArray 0)}) keep na hoL h64 hs λhz=>(aH _ rfl ?_)) (args_list_sort _)));obtain ⟨⟨m,hm⟩,hk⟩:=sortedHeap_at (out:=out) hoL;exact SN ⟨_,rfl,h _ m hz (λb o e=>hk b o (λz=>by replace e:=(z)▸e;replace e:=(na)▸e;cases e) (keep b o e)) hm⟩
end
section
variable {T:eS} {B:Vr} {F:List Um} {X:Nat->Um} {H:U} {A:Wc} {E:Te->Tz->Prop} {s:Tz} {Q:Te->Tz->Prop}
theorem aB.at {i:Nat} (r:aB T F X H h l vs) (e:l[i]? =some a): ∃v,vs[i]? =some v/\aE T F X H h a v:=aB.get i r e
theorem qO {κ:SortKind} {l:List J} {α:Type} (ask: ∀i j a b c,l[i]? =some a->l[j]? =some b->Ie a b=some c-> ∀C:Bool->Tz->Prop,C c s0->kas_ask prog w A κ vs i j C s0) {G:α->Tz->Prop}: ∀{t:KasT α} {r:α},dh l t=some r->G r s0->t.kasWp (kas_ask prog w A κ vs) G s0
 | .ret a,r,e,g=>Sm e▸g
 | .ask i j k,r,e,g=>by
  have q: ∀o p,l[i]? =o->l[j]? =p->(match o,p with
   |some a,some b=>(match Ie a b with
    |some c=>dh l (k c)
    |none=>none)
   |_,_=>none)=some r->PySem.W.KasT.kasWp (kas_ask prog w A κ vs) (.ask i j k) G s0:=λo p h1 h2 e=>by
   cases o with
   |none=>exact ns e
   |some a=>
    cases p with
    |none=>exact ns e
    |some b=>
     have q2: ∀o,Ie a b=o->(match o with
      |some c=>dh l (k c)
      |none=>none)=some r->PySem.W.KasT.kasWp (kas_ask prog w A κ vs) (.ask i j k) G s0:=λo h3 e=>by
      cases o with
      |none=>exact ns e
      |some c=>exact ask i j a b c h1 h2 h3 _ (qO ask e g)
     exact q2 _ rfl e
  exact q _ _ rfl rfl (mj.symm.trans e)
theorem CF (V:aB T F X H h l vs): ∀{p:List Nat} {r:List J},picks l p=some r->aB T F X H h r (p.map λi=>vs.getD i XT):=by
 intro l_;induction l_ with
 |nil=>exact @λr e=>Sm e▸trivial
 |cons i p aG=>
  exact @λr e=>by
   refine aQ λcT k_1=> ?_;have q: ∀o,l[i]? =o->(match o with
    |some a=>(picks l p).map (a:: ·)
    |none=>none)=some r->cT:=λo ha e=>by
    cases o with
    |none=>exact ns e
    |some a=>refine ay (Sz.mp e) λr' e' cK=> ?_;clear e;subst cK;refine ay (V.at ha) λv h1 h2=>k_1 (⟨?_,aG e'⟩);refine (?_:aE T F X H h a (vs.getD i XT));rw [SR,h1];exact h2
   exact q _ rfl e
theorem v7 (h:isInt a=true): ∃i,a=.int i:=by cases a<;>first|exact gV h|exact ⟨_,rfl⟩
theorem nY (h:ux a=true): ∃i m,a=.bW (.int i::m):=by
 cases a<;>first|exact gV h|skip
 rename_i l;cases l with
 |nil=>exact gV h
 |cons b m=>cases b<;>first|exact gV h|exact BX _ _ rfl
theorem Rv: ∀{a:List J} {b:List J} {xs ys:List Te} {i:Nat} {c:Bool},aB T F X H s.heap a xs->aB T F X H s.heap b ys->H8 a b=some c->C c s0->KatLex T.prog T.w A true (decide (xs.length<ys.length)) C (xs.zip ys) i s0:=by
 intro a;induction a with
 |nil=>
  intro b xs ys i c ra rb e h;cases xs with
  |cons _ _=>exact ra.elim
  |nil=>
   cases b with
   |nil=>
    cases ys with
    |nil=>obtain rfl:=Sm e;exact kat_nil h
    |cons _ _=>exact rb.elim
   |cons _ _=>
    cases ys with
    |nil=>exact rb.elim
    |cons _ _=>obtain rfl:=Sm e;exact kat_nil (by simpa using h)
 |cons p a ih=>
  intro b xs ys i c ra rb e h;cases xs with
  |nil=>exact ra.elim
  |cons x xs=>
   cases b with
   |nil=>
    cases ys with
    |nil=>cases e;rw [ZF];exact kat_nil (by simpa using h)
    |cons _ _=>exact rb.elim
   |cons q b=>
    cases ys with
    |nil=>exact rb.elim
    |cons y ys=>
     refine ig (Bc e) λu v qV aek e2=> ?_;clear e;subst qV;subst aek;obtain ⟨t,rfl⟩:=ra.1;obtain ⟨t',rfl⟩:=rb.1;refine kat_cons (YN ?_);by_cases huv:u=v;·
      rw [if_pos huv] at e2;refine (show (u==v)=true by simpa using huv).symm▸(kat_yes ?_);have:=ih (i:=i+1) ra.2 rb.2 e2 h;have e3:decide ((ZY u t::xs).length<(ZY v t'::ys).length)=decide (xs.length<ys.length):=by simp
      exact (e3).symm▸(this)
     ·replace e2:=(if_neg huv)▸e2;obtain rfl:=Sm e2;rw [show (u==v)=false by simpa using huv];refine kat_no ?_;cases hb:(true&&i==0) with
      |true=>exact oneLt_int h
      |false=>exact kat_one _ _ (show wpAny _ _ (Wy .Lt (.int u t) (.int v t')) _ _ _ from PySem.P.lt_int h)
theorem E3 (k: ∀b o,h.get? b=some o->h'.get? b=some o): ∀{vs fs:List Te},KatTups h vs fs->KatTups h' vs fs:=by
 intro l_;induction l_ with
 |nil=>
  intro m_;cases m_ with
  |nil=>exact λz=>trivial
  |cons _ _=>exact λr=>r
 |cons _ _ aG=>
  intro m_;cases m_ with
  |nil=>exact λr=>r
  |cons _ _=>intro r;obtain ⟨⟨a,o,xs,n,e,g,r⟩,t⟩:=r;exact ⟨(aeu a o xs n e (k _ _ g) r),aG t⟩
theorem aB.ints: ∀{l:List J} {vs:List Te},aB T F X H h l vs->l.all isInt=true-> ∀v∈vs,∃i t,v=.int i t:=by
 intro l_;induction l_ with
 |nil=>
  intro m_;cases m_ with
  |nil=>exact λz z v hv=>(by cases hv)
  |cons _ _=>exact λr=>r.elim
 |cons a l aG=>
  intro m_;cases m_ with
  |nil=>exact λr=>r.elim
  |cons v vs=>
   intro r e u hu;refine dD (Su.mp e) λe1 e2=> ?_;rcases Tn.mp hu with rfl|hu;·cases a<;>first|exact gV e1|exact ⟨_,r.1⟩
   ·exact aG r.2 e2 u hu
theorem aB.tups: ∀{l:List J} {vs:List Te},aB T F X H h l vs->l.all ux=true-> ∃fs,KatTups h vs fs/\fs.length=vs.length/\ ∀v∈fs,∃i t,v=.int i t
 |[],[],_,_=>(iw ([]) KatTups.nil rfl (λv hv=>by cases hv))
 |a::l,v::vs,r,e=>by
  simp only [YX,U3] at e;refine aQ λcT k_1=>fY (aB.tups r.2 e.2) λfs h1 h2 h3=>rY (nY e.1) λi m e1=> ?_;have r1:=r.1;rw [e1] at r1;obtain ⟨_,x,o,ws,ep,e2,g1,g2,g3,_,g4⟩:=r1;cases hw:ws.toList with
  |nil=>replace g4:=(hw)▸g4;exact g4.elim
  |cons u us=>
   rw [hw] at g4;obtain ⟨t,e3⟩:=g4.1;refine k_1 ((e2).symm▸ ?_);refine iw (.int i t::fs) (KatTups.cons g1 g2 g3 ?_ h1) (congrArg (· +1) h2) (λv hv=> ?_);·
    have:ws[0]? =ws.toList[0]? :=by simp
    refine (this).symm▸((hw).symm▸ ?_);refine (e3).symm▸ ?_;rfl
   ·rcases Tn.mp hv with e4|hv;·exact BX _ _ e4
    ·exact h3 v hv
theorem Ji (V:aB T F X H s.heap l vs) (e:kh l=some r): ∃out,Je T.prog T.w s.heap vs out/\aB T F X H s.heap r out/\vs.length<64:=by
 have len:=V.length;unfold kh at e;split at e;·
  rename_i h64;split at e;·rename_i h2;obtain rfl:=Sm e;exact iw vs (.inl ⟨by exact (Ln.n2 0x18612222052222016040) len h2,rfl⟩) V (by exact (Ln.n2 0x18612220901488824016040) len h64)
  ·rename_i h2;split at e;·
    rename_i hk;refine ay (SV.mp e) λp hp e=> ?_;replace hp:=(len)▸hp;refine iw _ ?_ (CF V e) (by exact (Ln.n2 0x18612220901488824016040) len h64);have JB: ∀(i:Int) (t:Tok) (h:Vr),Xf (model T.prog T.w) h (typeOf (.int i t)) (.type "int"):=λi t h=>UJ rfl;rw [W4] at hk;rcases hk with hk|hk;·
     refine .inr ⟨by exact (Ln.n2 0x618501222712222016040) len h2,oneType',p,λA Q s' k q=>kas_kind (T:=.type "int") (by exact (Ln.n2 0x618501222712222016040) len h2) (λv hv=> ?_) (by decide+kernel) (by decide+kernel) q,λA G s' k g=>qO (λi j a b c h1 h2 h3 C hc=> ?_) hp g,rfl⟩;·refine rY (V.ints hk v hv) λi t acz=> ?_;clear hv;subst acz;exact JB i t _
     ·refine aQ λcT k_1=>ay (V.at h1) λv e1 r1=>ay (V.at h2) λu e2 r2=> ?_;obtain ⟨i',t,rfl⟩:=V.ints hk v (Sk e1);refine aQ λJV k_2=> ?_;obtain ⟨j',t',rfl⟩:=V.ints hk u (Sk e2);refine k_2 (k_1 ?_);unfold kas_ask;refine (SR).symm▸ ?_;refine (SR).symm▸ ?_;refine (e1).symm▸((e2).symm▸ ?_);have ha:=Tc.mp hk a (Sk h1);have hb:=Tc.mp hk b (Sk h2);refine aQ λX_3 Pg=>fU (v7 ha) λx adC=> ?_;clear h1 h2 ha;subst adC;obtain ⟨y,rfl⟩:=v7 hb;obtain ⟨_,z1⟩:=r1;obtain ⟨_,z2⟩:=r2;cases z1;cases z2;obtain rfl:=Sm h3;exact Pg (kat_lt_int hc)
    ·refine fY (V.tups hk) λfs t1 t2 t3=>.inr ⟨by exact (Ln.n2 0x618501222712222016040) len h2,tuples' (VK "int" != VK "tuple"),p,λA Q s' k q=>kat_kind (fs:=fs) (T:=.type "int") ?_ (by exact (Ln.n3 0x18618482216042712222016040) len h2 t2) (λv hv=> ?_) (by decide+kernel) q,λA G s' k g=>qO (λi j a b c h1 h2 h3 C hc=> ?_) hp g,rfl⟩;·exact E3 k t1
     ·refine rY (t3 v hv) λi t aaQ=> ?_;clear hv;subst aaQ;exact JB i t _
     ·obtain ⟨v,e1,r1⟩:=V.at h1;obtain ⟨u,e2,r2⟩:=V.at h2;unfold kas_ask;rw [SR,SR,e1,e2];refine aQ λX_4 k_4=>rY (nY (Tc.mp hk a (Sk h1))) λz z aaU=> ?_;clear h1 e1 e2;subst aaU;refine rY (nY (Tc.mp hk b (Sk h2))) λz z aab=> ?_;clear h2;subst aab;obtain ⟨_,xa,ox,xs,nx,rfl,gx,_,dx,_,rx⟩:=r1;obtain ⟨_,ya,oy,ys,ny,rfl,gy,_,dy,_,ry⟩:=r2;refine k_4 ((?_:wpAny _ _ (keyLt' (tuples' _) (.ref xa) (.ref ya)) _ _ _));refine (show (VK "int" != VK "tuple")=true by decide+kernel).symm▸(kat_lt (k _ _ gx) dx (k _ _ gy) dy ?_);have:=Rv (A:=A) (C:=C) (i:=0) (s0:=s') rx ry h3 hc;simpa using this
   ·exact ns e
 ·exact ns e
end
section
variable {K:Fn->List J->U->aA U J} {c:Cx} {n:Nat} {cv:J}
theorem F9 (ok:c.Ok n) (hb:c.cc.bi nm=some (.builtin "sorted")) (hp:aN z=true) (ha:SE K c cv a z):SE K c cv (.sorted a) (.Call (.Name nm p) [z] [] q):=kY ok (g:=λx Y=>match (items Y.hs x).bind kh with
 |some l=>.ok (.ref Y.hs.n) ⟨Y.ls,Y.hs.new (.O l)⟩
 |none=>.bad) (λY=>by try rfl) hb jf hp ha λ{X Y s v vv} I V nb=>by
 cases h1:(items Y.hs v).bind kh with
 |none=>rw [h1] at nb;exact absurd rfl nb
 |some r=>refine aQ λcT k_1=>ay (SV.mp h1) λl h2 h3=> ?_;obtain ⟨_,x,o,vs,ep,rfl,g1,g2,g3,g4⟩:=fS I.rh h2 V;refine fY (Ji g4 h3) λout s1 s2 s3=>k_1 (pB ok I λQ k=> ?_);refine BV (vs:=vs.toList) ⟨o,g1,g2,ep,by simpa using g3⟩ s3 s1 λh' m hz keep hn=> ?_;refine fY (I.rh.new (h':=h') (a:=s.heap.objs.size+1) (o:=.O r) keep (Wa (by exact (Ln.n1 0x50a221000))) λι' H' S=>by have:=s2.length;have hc:cap=65536:=rfl;exact ⟨by exact (Ln.n3 0x618614081588820820842580052220900) hz this hc,_,out.toArray,_,hn,rfl,rfl,by rw [Wd];exact s2.step S,rfl⟩) λι' e R' S=> ?_;exact k _ _ ι' e R' S ⟨rfl,rfl⟩
end
section
variable {K:Fn->List J->U->aA U J} {c:Cx} {n:Nat} {cv:J}
structure iX (K:Fn->List J->U->aA U J) (c:Cx) (cv:J) (e:Ex) (x:UI):Prop where
 val:SE K c cv e x
 GO:wV K c cv e x
theorem iW.mono (h: ∀e x,P e x->Q e x): ∀{l:ir} {xs:List UI},iW P l xs->iW Q l xs
 | .nil,[],_=>trivial
 | .nil,_::_,h=>h.elim
 | .cons _ _,[],h=>h.elim
 | .cons _ _,_::_,⟨a,b⟩=>⟨h _ _ a,iW.mono h b⟩
theorem Kz (h: ∀env whole,isTrue x env whole=(do
 let v<-whole;
 XY x.pos;
 Xb [v] (truthy v))) (hs:SE K c cv e x):wV K c cv e x:=by
 refine ⟨@λY X s I nb=> ?_⟩;rw [h];refine aC nb (hs.run I) λa σ1 dY v s1 ck S1 V1 I1=>az (cE ?_);cases a<;>first|exact absurd rfl ck|skip
 subst V1;exact oW ⟨_,_,dY,rfl,rfl,I1,Step.refl' I1.rh,Rest.refl⟩
theorem aL (hs:SE K c cv e x) (h: ∀env whole,isTrue x env whole=(do
 let v<-whole;
 XY x.pos;
 Xb [v] (truthy v))):iX K c cv e x:=⟨hs,Kz h hs⟩
theorem Rg (ok:c.Ok n) {t a b:Ex} (ht:wV K c cv t x) (ha:wV K c cv a l) (hb:wV K c cv b r):wV K c cv (.ite t a b) (.IfExp x l r pos):=by
 refine ⟨@λY X s I nb=> ?_⟩;have eq:isTrue (.IfExp x l r pos) c.env (eval (.IfExp x l r pos) c.env)=(isTrue x c.env (eval x c.env)>>=λz=>if z=true then isTrue l c.env (eval l c.env) else isTrue r c.env (eval r c.env)):=rfl;rw [eq];have e2:jN (bk K cv (.ite t a b) Y)=(jN (bk K cv t Y)).bind λz Y=>if z then jN (bk K cv a Y) else jN (bk K cv b Y):=by
  refine Uc (Uc (aA.bind_assoc ..) (aA.bind_congr (o:=bk K cv t Y) λv Y=> ?_)) (aA.bind_assoc ..).symm;cases v<;>try rfl
  rename_i b;cases b<;>rfl
 rw [e2] at nb⊢;refine aC nb (ht.run I) λz σ1 dY v s1 ck S1 V1 I1=> ?_;cases V1;cases z;·exact hb.run I1 ck
 ·exact ha.run I1 ck
theorem yb (h:aq d (k+1) v H=some (.bool b,H')):v=.bool b/\H'=H:=by
 cases v<;>first|exact ns h|(cases h<;>exact ⟨rfl,rfl⟩)|skip
 ·obtain ⟨_,_,e⟩:=Sz.mp h;cases e
 ·obtain ⟨o,_,e⟩:=SV.mp h;clear h;cases o<;>first|exact ns e|skip
  ·obtain ⟨_,_,e⟩:=Sz.mp e;cases e
  ·cases d<;>first|exact ns e|(obtain ⟨_,_,e⟩:=Sz.mp e;cases e)
 ·cases d<;>first|(cases h;done)|skip
  obtain ⟨o,_,e⟩:=SV.mp h;cases o<;>first|exact ns e|(obtain ⟨_,_,e⟩:=Sz.mp e;cases e)
theorem EI (he: ∀Y,bk K cv e Y=(bk K cv a Y).bind λx Y=>match aq d (k+1) x Y.hs with
 |some (v,hs)=>.ok v ⟨Y.ls,hs⟩
 |none=>.bad) (ha:wV K c cv a x):wV K c cv e x:=by
 refine ⟨@λY X s I nb=> ?_⟩;have key:jN (bk K cv e Y)=jN (bk K cv a Y):=by
  rw [he] at nb⊢;cases h:bk K cv a Y with
  |bad=>rfl
  |exc _=>rfl
  |ok v σ1=>
   rw [h] at nb;simp only [aA.eT] at nb⊢;clear h;cases hf:aq d (k+1) v σ1.hs with
   |none=>rw [hf] at nb;exact absurd rfl nb
   |some p=>
    obtain ⟨v',H'⟩:=p;rw [hf] at nb;cases v'<;>first|exact absurd rfl nb|skip
    clear nb;obtain ⟨rfl,rfl⟩:=yb hf;rfl
 rw [key] at nb⊢;exact ha.run I nb
theorem f9 (hk:c.env.scope.kind=.function) (RD:gB c.env.scope.names t sc=true) (hcn: ∀x,(x,Ut)∈sc.names->(cl.lookup x).isSome=true):(c.fD C I D cl sc t b).i7:=λx hx=>by have:(relabel sc c.env).names.lookup x=some .cell:=hx;rw [fB hk] at this;exact hcn x (kr RD this).1
theorem eqB {α:Type} [BEq α] [LawfulBEq α] {a b:α} (h:(a==b)=true) {M:α->Prop} (k:M b):M a:=(beq_iff_eq.mp h)▸k
theorem fM (h:gB nm t s=true):s.kind=.function:=by exact beq_iff_eq.mp (oH (oH h).1).1
mutual theorem aZ {K:Fn->List J->U->aA U J}: ∀(e:Ex) {c:Cx} {n:Nat} {cv:J} {x:UI},c.Ok n->c.i7->gw c.T c.B K n->cF c.cc e x=true->iX K c cv e x
 | .lit _,_,_,cv,_,ok,th,call,h=>qE h λu u u h=>aL (Qv ok h) λu u=>rfl
 | .var _,_,_,cv,_,ok,th,call,h=>fu h λu u h=>aL (RB ok h) λu u=>rfl
 | .cvar,_,_,cv,_,ok,th,call,h=>fu h λu u h=>aL (NW ok h) λu u=>rfl
 | .glob _,_,_,cv,_,ok,th,call,h=>fu h λu u h=>aL (Oo ok h) λu u=>rfl
 | .bin _ a b,_,_,cv,_,ok,th,call,h=>MM h λl o r p h=>qf h λh1 h2 h3=>eqB (M:=λo=>iX K _ _ _ (.BinOp l o r p)) h1 (aL (Pu ok (aZ a ok th call h2).val (aZ b ok th call h3).val) λu u=>rfl)
 | .neg a,_,_,cv,_,ok,th,call,h=>Jp h λo y p h=>di h λh1 h2=>eqB (M:=λo=>iX K _ _ _ (.UnaryOp o y p)) h1 (aL (Ru ok (aZ a ok th call h2).val) λu u=>rfl)
 | .not a,_,_,cv,_,ok,th,call,h=>Jp h λo y p h=>di h λh1 h2=>eqB (M:=λo=>iX K _ _ _ (.UnaryOp o y p)) h1 ⟨RC ok (aZ a ok th call h2).val,Ro ok (aZ a ok th call h2).GO⟩
 | .and l,_,_,cv,_,ok,th,call,h=>Ax h λo y p h=>di h λh1 h2=>eqB (M:=λo=>iX K _ _ _ (.BoolOp o y p)) h1 ⟨G2 ok ((fq l ok th call h2).1.mono λu u b=>b.val),Ku ok ((fq l ok th call h2).1.mono λu u b=>b.GO)⟩
 | .or l,_,_,cv,_,ok,th,call,h=>Ax h λo y p h=>di h λh1 h2=>eqB (M:=λo=>iX K _ _ _ (.BoolOp o y p)) h1 ⟨OG ok ((fq l ok th call h2).1.mono λu u b=>b.val),OR ok ((fq l ok th call h2).1.mono λu u b=>b.GO)⟩
 | .cmp op a b,_,_,cv,_,ok,th,call,h=>by
  refine MF h λl o r p h=>lZ h λh1 h2 h3 h4=> ?_;clear h;obtain rfl:=beq_iff_eq.mp h1;have h2:behindInMarks op.py r=false:=by simpa using h2
  exact ⟨QG ok h2 (aZ a ok th call h3).val (aZ b ok th call h4).val,Rf ok h2 (aZ a ok th call h3).val (aZ b ok th call h4).val⟩
 | .ite t a b,_,_,cv,_,ok,th,call,h=>Q5 h λu u u u h=>qf h λh1 h2 h3=>⟨PU ok (aZ t ok th call h1).GO (aZ a ok th call h2).val (aZ b ok th call h3).val,Rg ok (aZ t ok th call h1).GO (aZ a ok th call h2).GO (aZ b ok th call h3).GO⟩
 | .attr a f,_,_,cv,_,ok,th,call,h=>pW h λy n p h=>qf h λh1 h2 h3=>eqB (M:=λn=>iX K _ _ _ (.Attribute y n p)) h1 (aL (NR ok h2 (aZ a ok th call h3).val) λu u=>rfl)
 | .item a i,_,_,cv,_,ok,th,call,h=>xQ h λu u u h=>qf h λh1 h2 h3=>aL (Mw ok h1 (aZ a ok th call h2).val (aZ i ok th call h3).val) λu u=>rfl
 | .slice a lo hi,_,_,cv,_,ok,th,call,h=>xQ h λy z p h=>FF (M:=λz=>iX K _ _ _ (.Subscript y z p)) h λu u u h=>qf h λh1 h2 h3=>aL (G8 ok (aZ a ok th call h1).val (wu lo ok th call h2).1 (wu hi ok th call h3).1) λu u=>rfl
 | .bW l,_,_,cv,_,ok,th,call,h=>yZ h λu u u h=>di h λh1 h2=>aL (QY ok (fq (K:=K) (cv:=cv) l ok th call h2).2 (of_decide_eq_true h1) ((fq l ok th call h2).1.mono λu u b=>b.val)) λu u=>rfl
 | .list l,_,_,cv,_,ok,th,call,h=>HT h λu u h=>di h λh1 h2=>aL (Mz ok (fq (K:=K) (cv:=cv) l ok th call h2).2 (of_decide_eq_true h1) ((fq l ok th call h2).1.mono λu u b=>b.val)) λu u=>rfl
 | .comp e it w,_,_,cv,_,ok,th,call,h=>oM h λu u u u u u u h=>F6 h λh1 h2 h3 h4 h5=>aL (NO ok th ⟨λC I D cl v hcl hcn=>(aZ e (ji ok (fM h2) hcl) (f9 ok.kind h2 hcn) call (by rw [lT ok.kind];exact h3)).val,λC I D cl v hcl hcn=>(wu w (ji ok (fM h2) hcl) (f9 ok.kind h2 hcn) call (by rw [lT ok.kind];exact h5)).2,fM h2,h2⟩ h1 (aZ it ok th call h4).val) λu u=>rfl
 | .gp e r w,_,_,cv,_,ok,th,call,h=>oM h λy t q z w' s p h=>lZ h λh1 h2 h3 h5=>cP (M:=λz=>iX K _ _ _ (.ListComp y [⟨.Name t q,z,gA w',0⟩] s p)) h1 λu u u u h1=>di h1 λg1 g2=>aL (KU ok th ⟨λC I D cl v hcl hcn=>(aZ e (ji ok (fM h2) hcl) (f9 ok.kind h2 hcn) call (by rw [lT ok.kind];exact h3)).val,λC I D cl v hcl hcn=>(wu w (ji ok (fM h2) hcl) (f9 ok.kind h2 hcn) call (by rw [lT ok.kind];exact h5)).2,fM h2,h2⟩ (mh g1) (fq (K:=K) (cv:=cv) r ok th call g2).2 ((fq r ok th call g2).1.mono λu u b=>b.val)) λu u=>rfl
 | .ru,_,_,cv,_,ok,th,call,h=>GZ h λa b u h=>by
  cases a with
  |cons _ _=>exact gV h
  |nil=>
   cases b with
   |cons _ _=>exact gV h
   |nil=>exact aL (Lo ok) λu u=>rfl
 | .q7,_,_,cv,_,ok,th,call,h=>cP h λu u l u h=>di h λh1 h2=>by
  clear h;cases l with
  |nil=>exact aL (Iw ok (mh h1)) λu u=>rfl
  |cons _ _=>exact gV h2
 | .call _ l,_,_,cv,_,ok,th,call,h=>cP h λu u u u h=>di h λh1 h2=>aL (MO ok call (o6 h1) (fq (K:=K) (cv:=cv) l ok th call h2).2 ((fq l ok th call h2).1.mono λu u b=>b.val)) λu u=>rfl
 | .new _ l,_,_,cv,_,ok,th,call,h=>cP h λu u u u h=>di h λh1 h2=>aL (P7 ok call (o6 h1) (fq (K:=K) (cv:=cv) l ok th call h2).2 ((fq l ok th call h2).1.mono λu u b=>b.val)) λu u=>rfl
 | .iA o _ l,_,_,cv,_,ok,th,call,h=>Bt h λy n p l0 q hq hl h=>lZ h λh1 h2 h3 h4=>eqB (M:=λn=>iX K _ _ _ (.Call (.Attribute y n p) l0 [] q)) h1 (aL (MJ ok call h2 (fq (K:=K) (cv:=cv) l ok th call h4).2 hq hl (aZ o ok th call h3).val ((fq l ok th call h4).1.mono λu u b=>b.val)) λu u=>rfl)
 | .append o e,_,_,cv,_,ok,th,call,h=>Bt h λy n p l0 q hq hl h=>lZ h λh1 h2 h3 h4=>eqB (M:=λn=>iX K _ _ _ (.Call (.Attribute y n p) l0 [] q)) h1 (eg (M:=λl0=>iX K _ _ _ (.Call (.Attribute y _ p) l0 [] q)) h4 λz h4=>di h4 λg1 g2=>aL (E4 ok h2 g1 hq (aZ o ok th call h3).val (aZ e ok th call g2).val) λu u=>rfl)
 | .len a,_,_,cv,_,ok,th,call,h=>cP h λn p l q h=>di h λh1 h2=>eg (M:=λl=>iX K _ _ _ (.Call (.Name n p) l [] q)) h2 λz h2=>di h2 λg1 g2=>aL (Rd ok (jX h1) g1 (aZ a ok th call g2).val) λu u=>rfl
 | .bytesOf a,_,_,cv,_,ok,th,call,h=>cP h λn p l q h=>di h λh1 h2=>eg (M:=λl=>iX K _ _ _ (.Call (.Name n p) l [] q)) h2 λz h2=>di h2 λg1 g2=>aL (Il ok (mh h1) g1 (aZ a ok th call g2).val) λu u=>rfl
 | .sum a,_,_,cv,_,ok,th,call,h=>cP h λn p l q h=>di h λh1 h2=>eg (M:=λl=>iX K _ _ _ (.Call (.Name n p) l [] q)) h2 λz h2=>di h2 λg1 g2=>aL (Qe ok (jX h1) g1 (aZ a ok th call g2).val) λu u=>rfl
 | .sorted a,_,_,cv,_,ok,th,call,h=>cP h λn p l q h=>di h λh1 h2=>eg (M:=λl=>iX K _ _ _ (.Call (.Name n p) l [] q)) h2 λz h2=>di h2 λg1 g2=>aL (F9 ok (jX h1) g1 (aZ a ok th call g2).val) λu u=>rfl
 | .all a,_,_,cv,_,ok,th,call,h=>cP h λn p l q h=>di h λh1 h2=>eg (M:=λl=>iX K _ _ _ (.Call (.Name n p) l [] q)) h2 λz h2=>di h2 λg1 g2=>aL (Rq ok (jX h1) g1 (aZ a ok th call g2).val) λu u=>rfl
 | .min a b,_,_,cv,_,ok,th,call,h=>cP h λn p l q h=>di h λh1 h2=>ym (M:=λl=>iX K _ _ _ (.Call (.Name n p) l [] q)) h2 λy z h2=>lZ h2 λg1 g2 g3 g4=>aL (QT ok (jX h1) g1 g2 (aZ a ok th call g3).val (aZ b ok th call g4).val) λu u=>rfl
 | .max a b,_,_,cv,_,ok,th,call,h=>cP h λn p l q h=>di h λh1 h2=>ym (M:=λl=>iX K _ _ _ (.Call (.Name n p) l [] q)) h2 λy z h2=>lZ h2 λg1 g2 g3 g4=>aL (QX ok (jX h1) g1 g2 (aZ a ok th call g3).val (aZ b ok th call g4).val) λu u=>rfl
 | .isBool a,_,_,cv,_,ok,th,call,h=>cP h λn p l q h=>di h λh1 h2=>ym (M:=λl=>iX K _ _ _ (.Call (.Name n p) l [] q)) h2 λy z h2=>qf h2 λg1 g2 g3=>fu (M:=λz=>iX K _ _ _ (.Call (.Name n p) [y,z] [] q)) g3 λu u g3=>aL (E0 ok (jX h1) (mh g3) g1 (aZ a ok th call g2).val) λu u=>rfl
 | .freeze a,_,_,cv,_,ok,th,call,h=>⟨GF ok (aZ a ok th call h).val,EI (d:=false) (k:=7) (λY=>rfl) (aZ a ok th call h).GO⟩
 | .cQ a,_,_,cv,_,ok,th,call,h=>⟨CU ok (aZ a ok th call h).val,EI (d:=true) (k:=11) (λY=>rfl) (aZ a ok th call h).GO⟩ theorem wu {K:Fn->List J->U->aA U J}: ∀(e:sf) {c:Cx} {n:Nat} {cv:J} {x:Option UI},c.Ok n->c.i7->gw c.T c.B K n->JX c.cc e x=true->SO K c cv e x/\STO K c cv e x
 | .none,c,n,cv,x,ok,th,call,h=>by
  cases x with
  |none=>exact ⟨Nx,Jm⟩
  |some _=>exact gV h
 | .some e,c,n,cv,x,ok,th,call,h=>by obtain ⟨y,rfl,h0⟩:=xU h;have:=aZ (K:=K) (cv:=cv) e ok th call h0;exact ⟨Nh this.val,JJ this.GO⟩ theorem fq {K:Fn->List J->U->aA U J}: ∀(e:ir) {c:Cx} {n:Nat} {cv:J} {x:List UI},c.Ok n->c.i7->gw c.T c.B K n->uT c.cc e x=true->iW (iX K c cv) e x/\x.all aN=true
 | .nil,c,n,cv,x,ok,th,call,h=>by
  cases x with
  |nil=>exact ⟨trivial,rfl⟩
  |cons _ _=>exact gV h
 | .cons e l,c,n,cv,x,ok,th,call,h=>by
  cases x with
  |nil=>exact gV h
  |cons y z=>obtain ⟨h,h3⟩:=oH h;obtain ⟨h1,h2⟩:=oH h;have:=fq (K:=K) (cv:=cv) l ok th call h3;refine ⟨⟨aZ e ok th call h2,this.1⟩,?_⟩;rw [YX,h1,this.2];rfl end
end
section
theorem q9 (h:dH M A body (λf s₁=>match f with
 | .next=>dH M A orelse Q E s₁
 |f=>Q f s₁) (λe s₁=>dH M A (leaving env e) (λz s₂=>dH M A (handleBy e env (h₀ ::hs)) Q E s₂) E s₁) s):dH M A (tryStmt false body (h₀ ::hs) orelse [] env) Q E s:=by
 refine aj (rz (aK h (λf s₁ h₁=> ?_) λe s₁ h₁=> ?_));·cases f<;>first|exact h₁|exact ao h₁
 ·have:=aj (f:=λz=>handleBy e env (h₀ ::hs)) h₁;unfold leaving at this;rw [bind_assoc] at this;exact this
end
section
theorem Inv.aeF (ok:c.Ok n) {eY X:Nat->Um} {Y:St} {s s':Tz} {oT:Obj} (Iv:Inv c cv X Y s) (S:Step P c.F eY H₀ h₀ X Y.hs s.heap) (hB: ∀b o,c.B.get? b=some o->h₀.get? b=some o) (hF: ∀b∈c.F,(h₀.get? b).isSome=true) (fT:h₀.get? Tb=none) (hT:s.heap.get? Tb=some oT) (dT:oT.data=.fields ts) (k: ∀b o,b≠Tb->s.heap.get? b=some o->s'.heap.get? b=some o):Inv c cv X Y s'/\Step P c.F eY H₀ h₀ X Y.hs s'.heap:=by
 have R:=Iv.rh;have nd: ∀b o,s.heap.get? b=some o->(∀vs,o.data≠.fields vs)->b≠Tb:=λb o e q z=>by replace e:=(z)▸e;replace e:=(hT)▸e;obtain rfl:=Sm e;exact q ts dT
 have nF: ∀b∈c.F,b≠Tb:=λb hb z=>by have:=hF b hb;rw [z,fT] at this;exact nomatch this
 have C:Carry c.F X Y.hs s.heap c.F X Y.hs s'.heap:=⟨λb o e q n=>⟨k b o (nd b o e q) e,n⟩,λu u=>rfl,Sv _⟩;refine ⟨⟨⟨λb o e=> ?_,R.fin,λx o e=> ?_,R.inj,R.fc,λb hb=>⟨(R.fr b hb).1,?_⟩⟩,?_,?_⟩,?_⟩;·refine k b o (λz=> ?_) (R.base b o e);have:=hB b o e;replace this:=(z)▸this;replace this:=(fT)▸this;cases this
 ·refine (R.obj x o e).aO C λob eb=>k _ ob (nd _ ob eb ?_) eb;have ro:=R.obj x o e;clear e;cases o<;>simp only [qe] at ro;·obtain ⟨_,o',_,_,z1,_,z2,_⟩:=ro;replace z1:=(eb)▸z1;obtain rfl:=Sm z1;exact λvs z=>by replace z:=(z2)▸z;cases z
  ·refine dM ro λu u z1 u=> ?_;replace z1:=(eb)▸z1;obtain rfl:=Sm z1;exact λvs z=>by cases z
  ·refine ay ro λu aah u=>Fg aah λo' u u z1 u z2 u=> ?_;replace z1:=(eb)▸z1;obtain rfl:=Sm z1;exact λvs z=>by replace z:=(z2)▸z;cases z
  ·obtain ⟨_,o',z1,_,z2,_⟩:=ro;replace z1:=(eb)▸z1;obtain rfl:=Sm z1;exact λvs z=>by replace z:=(z2)▸z;cases z
 ·obtain ⟨o,e⟩:=(R.fr b hb).2;exact ⟨o,k b o (nF b hb) e⟩
 ·refine Loc.aO (c:=c) (c':=c) ⟨rfl,rfl,rfl,rfl,rfl⟩ C (λa ha o e=>⟨o.slots,k a o (nF a ?_) e⟩) Iv.loc;clear e;rcases ha with rfl|⟨y,hy⟩;·exact ok.AN
  ·exact ok.rU y a hy
 ·exact gW (λb o e q=>(aH o (k b o (nd b o e q) e) q)) Iv.kN
 ·have old: ∀b,(h₀.get? b).isSome=true->b≠Tb:=λb e z=>by replace e:=(z)▸e;replace e:=(fT)▸e;exact nomatch e
  refine ⟨λb o e n=>k b o (old b (by refine (e).symm▸ ?_;rfl)) (S.keep b o e n),λb hb o e=> ?_,λb e=> ?_,S.ext,S.dom,S.new,S.mono⟩;·exact ay (S.slots b hb o e) λsl e1 e2=>aH sl (k b _ (old b (by refine (e).symm▸ ?_;rfl)) e1) e2
  ·obtain ⟨o,ho⟩:=SM.mp (S.alive b e);refine (k b o (old b e) ho).symm▸ ?_;rfl
theorem Ko (ok:c.Ok n) (hB:bmB.contains (.type "BaseException")=true) (hx:excIn c.T.K (c.T.cl (.of 16)) bmB newId=true) (ht:c.cc.top nm=some (.ref (c.T.cl (.of 16)))) (hv:tw v kc=true) {s:Tz} (Iv:Inv c .ah X Y s) (S:Step P c.F eY H₀ h₀ X Y.hs s.heap) (hBh: ∀b o,c.B.get? b=some o->h₀.get? b=some o) (hF: ∀b∈c.F,(h₀.get? b).isSome=true) {a:Um} (f:Ly c.T h₀ (.ref a) s.heap) (hP: ∀b∈P,b∈c.F) (k: ∀w s',aE c.T c.F X Y.hs s'.heap v w->Inv c .ah X Y s'->Step P c.F eY H₀ h₀ X Y.hs s'.heap->Rest s s'->Q (.ret w) s'):wpAny (model c.T.prog c.T.w) c.A (handleBy (.ref a) c.env [.ExceptHandler (some (.Name nm np)) none [.Return (some (.Constant kc kk cp)) rp] hp]) Q E s:=by
 refine aQ λcT k_1=> ?_;obtain ⟨bm,N,n1,qn,bs,hd,sn,sub,ab,col,dd,k0,k1,k2,k3,k5,mN,g1,g2,g3,g4⟩:=wA (Iv.wJ ok) hx;refine fY f λa' e fa q=> ?_;clear fa;cases e;have ob: ∃o,s.heap.get? a=some o/\o.cls=.ref (c.T.cl (.of 16)):=by rcases q with ⟨o,vs,h1,h2,_⟩|⟨o,vs,_,_,_,h1,h2,_⟩<;>exact (aH o h1 h2)
 refine ay ob λo h1 h2=> ?_;have fin: ∀s',Inv c .ah X Y s'->Step P c.F eY H₀ h₀ X Y.hs s'.heap->Rest s s'->wpAny (model c.T.prog c.T.w) (c.A.mark (some (.ref a))) (execs [.Return (some (.Constant kc kk cp)) rp] c.env) (λf s₂=>match (Except.ok f:Z1) with
  | .ok f=>Q f s₂
  | .error x=>cameBackBy (model c.T.prog c.T.w) c.A c.env E x s₂) (notedBy (model c.T.prog c.T.w) (c.A.mark (some (.ref a))) c.env λx s₂=>cameBackBy (model c.T.prog c.T.w) c.A c.env E x s₂) s':=λs' I' S' Re'=>by
  rw [execs_cons];refine Sw (wpAny_Return_some ?_);have key: ∀Q':Te->Tz->Prop,Cont c.T c.B c.F X Y.hs s' v Q'->wpAny (model c.T.prog c.T.w) (c.A.mark (some (.ref a))) (eval (.Constant kc kk cp) c.env) Q' (notedBy (model c.T.prog c.T.w) (c.A.mark (some (.ref a))) c.env λx s₂=>cameBackBy (model c.T.prog c.T.w) c.A c.env E x s₂) s':=λQ' kq=>by exact Ef (M:=λv k=>Cont c.T c.B c.F X Y.hs s' v Q'->wpAny _ _ (eval (.Constant k kk cp) c.env) Q' _ s') hv (λkq=>Constant_none (kq.same I'.rh rfl)) (λz kq=>Constant_bool (kq.same I'.rh rfl)) (λz kq=>abt (kq.tok I'.rh ⟨_,rfl⟩)) (λz z2 kq=>Constant_bytes (kq.tok I'.rh (aH _ rfl (Sl z2 (by decide))))) kq
  exact key _ λw s2 V R2 S2 zE=>SN (k w s2 V (I'.step ok R2 S2) (S'.trans (S2.sub hP)) (Re'.trans zE))
 refine k_1 (wpAny_handleBy_cons (codeAny_handlers_test (lJ ok Iv ht ?_)) (by intro q;cases q));refine wpAny_excMatches_sub_self g1 h1 h2 (g4.hasType hB) (codeAny_handlers_suite ?_);refine aQ λX_3 Pg=> ?_;rcases q with ⟨o,vs,q1,q2,q3,q4⟩|⟨oe,vs,Tb,oT,ts,t1,t2,t3,t4,t5,t6,t7,t8,t9⟩;·refine Pg (Sw (Xa q1 q3 q4 ?_));rw [if_neg (by decide)];exact SN (fin s Iv S Rest.refl)
 ·refine Pg ?_;refine Sw (Xa t1 t3 t4 ?_);refine (if_pos (show (Yl Tb != XT)=true from rfl)).symm▸(wpAny_setField t7 t8 (Array.getElem?_eq_some_iff.mp t9).1 ?_);obtain ⟨I',S'⟩:=Iv.aeF (s':={s with heap:=s.heap.update Tb (Obj.mapFields (·.setIfInBounds 3 ((none:Option Um).elim XT λf=>rawInt f)))}) ok S hBh hF t5 t7 t8 λb o ne e=>(UO _ _ (WQ ne)).trans e;exact fin _ I' S' ⟨rfl,rfl⟩
end
structure Cx.LP (c:Cx):Prop where
 own:c.Own
 there:c.i7
 top: ∃outer L,c.fr=c.env::outer/\c.env.frame=some L
theorem Cx.LP.more {c:Cx} (ok:c.Ok n) (f:c.LP) {I:Um} (nF:I∉c.F):(c.more I).LP:=⟨f.own.more (pM ok nF).1 (pM ok nF).2,f.there,f.top⟩
section
variable {K:Fn->List J->U->aA U J} {c:Cx} {n:Nat}
noncomputable def RA (v:J) (o:aA St bw):aA St bw:=match o with
 | .exc Y=>.ok (.ret v) Y
 |o=>o
noncomputable def rH (o:aA St bw):aA St bw:=match o with
 | .exc _=>.bad
 |o=>o
theorem MQ (ok:c.Ok n) (fn:c.LP) (hB:bmB.contains (.type "BaseException")=true) (hx:excIn c.T.K (c.T.cl (.of 16)) bmB newId=true) (ht:c.cc.top nm=some (.ref (c.T.cl (.of 16)))) (hv:tw v kc=true) (hb:Cv K c b xs):SS K c (.xE b v) (.Try xs [.ExceptHandler (some (.Name nm np)) none [.Return (some (.Constant kc kk cp)) rp] hp] [] [] pos):=by
 refine ⟨@λY X s I nb=> ?_⟩;rw [arm_exec_Try];refine az (q9 (aK (hb.run I (λz=>nb (congrArg (RA v) z))) (λf s1 r=> ?_) λe s1 x=> ?_));·
  refine gH r λa σ1 dY e1 V1 I1 S1 wY=> ?_;have e2:eB K (.xE b v) Y=.ok a σ1:=congrArg (RA v) e1;refine (e2).symm▸ ?_;clear r;cases f with
  |next=>exact ao (d7 a σ1 dY rfl V1 I1 S1 wY)
  |_=>exact d7 a σ1 dY rfl V1 I1 S1 wY
 ·refine qF x λσ1 dY e1 F R1 I1 S1 wY=> ?_;have e2:eB K (.xE b v) Y=.ok (.ret v) σ1:=congrArg (RA v) e1;rw [e2];refine dM fn.top λouter L hfr hL=> ?_;have hF: ∀b∈c.F,(s.heap.get? b).isSome=true:=λb hb=>SM.mpr (I.rh.fr b hb).2;refine av (zY (outer:=outer) (L:=L) (by refine (ok.frames).symm▸((hfr).symm▸ ?_);rfl) hL R1 (by exact (hfr)▸(I1.kN)) (by exact (hfr)▸(ok.yv)) S1 I.rh.base hF F λh' R' Ca k4 Fr' S' F'=> ?_);have I2:Inv c .ah dY σ1 {s1 with heap:=h'}:=by
   refine ⟨R',?_,by exact (hfr).symm▸(Fr')⟩;refine Loc.aO (c:=c) (c':=c) ⟨rfl,rfl,rfl,rfl,rfl⟩ Ca (λa ha o e=>k4 a o e ?_) I1.loc;rcases ha with rfl|⟨y,hy⟩;·refine abC I1.loc.ns λm o' es ep z1 z2 u=> ?_;rw [z1] at e;obtain rfl:=Sm e;exact λvs z=>by replace z:=(z2)▸z;cases z
   ·refine dM (I1.loc.cells y a hy) λw o' z1 z2=> ?_;cases (z1).symm.trans e;exact λvs z=>by cases (z2).symm.trans z
  refine ay (id F') λa abV u=> ?_;clear x F;subst abV;exact av (Ko ok hB hx ht hv I2 S' I.rh.base hF F' ok.PF λw s' V I3 S3 Na=>(d7 _ σ1 dY rfl V I3 S3 ((wY.trans ⟨rfl,rfl⟩).trans Na)))
theorem Nr (ok:c.Ok n) (hb:Cv K c b xs):SS K c (.rH b) (.Try xs (h₀ ::hs) [] [] pos):=by
 refine ⟨@λY X s I nb=> ?_⟩;rw [arm_exec_Try];refine az (q9 (aK (hb.run I (λz=>nb (congrArg rH z))) (λf s1 r=> ?_) λe s1 x=> ?_));·
  refine gH r λa σ1 dY e1 V1 I1 S1 wY=> ?_;have e2:eB K (.rH b) Y=.ok a σ1:=congrArg rH e1;refine (e2).symm▸ ?_;clear r;cases f with
  |next=>exact ao (d7 a σ1 dY rfl V1 I1 S1 wY)
  |_=>exact d7 a σ1 dY rfl V1 I1 S1 wY
 ·exact dM x λσ1 dY e1 y=>absurd (congrArg rH e1) nb
theorem Inv.MN (ok:c.Ok n) (ow:c.Own) (I:Inv c .ah X Y s) (hx:c.names[i]? =some x) (PV:c.zo x=true) (hi:Y.ls[i]? =some v) (hv:v≠.ah) (hf:aq true 12 v Y.hs=some (v',H')):Inv c .ah X ⟨Y.ls.set i v',H'⟩ s/\Step c.P c.F X Y.hs s.heap X H' s.heap:=by
 refine ay (I.loc.has i v x hi hv hx PV) λvv g1 g2=> ?_;clear hi;obtain ⟨t,V⟩:=qG 12 hf I.rh g2;have L:=I.loc.step ok t.st;refine ⟨⟨t.rh,⟨L.ns,L.cells,by exact (U6).symm▸(L.len),λj a y h1 h2 h3 h4=> ?_,λy e=>by replace e:=(ow.Og)▸e;cases e⟩,I.kN⟩,t.st.sub ok.PF⟩;clear hf;rcases xG h1 with ⟨rfl,rfl,_⟩|⟨hj,h1⟩;·replace h3:=(hx)▸h3;obtain rfl:=Sm h3;exact aH vv g1 V
 ·exact L.has j a y h1 h2 h3 h4
noncomputable def Li (i:Nat) (Y:St) (o:Option (J×U)):aA St bw:=match o with
 |some (v,hs)=>(mW ⟨Y.ls,hs⟩ i v).bind λz Y=>.ok .next Y
 |none=>.bad
theorem KC (nb:eB K (.bI i) Y≠.bad): ∃v v' H',v≠.ah/\Y.ls[i]? =some v/\aq true 12 v Y.hs=some (v',H')/\i<Y.ls.length/\eB K (.bI i) Y=.ok .next ⟨Y.ls.set i v',H'⟩:=by
 have e:eB K (.bI i) Y=(cg Y i).bind λv Y=>Li i Y (aq true 12 v Y.hs):=rfl;rw [e] at nb⊢;cases hi:Y.ls[i]? with
 |none=>exact absurd (congrArg (λo=>aA.bind o _) (show cg Y i=.bad by unfold cg;rw [hi])) nb
 |some v=>
  have hne:v≠.ah:=λz=>nb (congrArg (λo=>aA.bind o _) (show cg Y i=.bad by unfold cg;rw [hi,z]));have e1:cg Y i=.ok v Y:=by unfold cg;rw [hi];cases v<;>first|rfl|exact absurd rfl hne
  rw [e1] at nb⊢;change Li i Y (aq true 12 v Y.hs)≠.bad at nb;refine (?_: ∃v_1 v' H',_/\_/\_/\_/\Li i Y (aq true 12 v Y.hs)=_);cases hf:aq true 12 v Y.hs with
  |none=>rw [hf] at nb;exact absurd rfl nb
  |some p=>obtain ⟨v',H'⟩:=p;rw [hf] at nb;have hl:i<Y.ls.length:=Decidable.byContradiction λz=>nb (congrArg (λo:aA St Unit=>o.bind λy Y=>aA.ok bw.next Y) (show mW ⟨Y.ls,H'⟩ i v'=.bad from if_neg z));exact ⟨v,v',H',hne,rfl,hf,hl,congrArg (λo:aA St Unit=>o.bind λy Y=>aA.ok bw.next Y) (show mW ⟨Y.ls,H'⟩ i v'=.ok () ⟨Y.ls.set i v',H'⟩ from if_pos hl)⟩
theorem Cu (ok:c.Ok n) (ow:c.Own) (hx:c.names[i]? =some x) (PV:c.zo x=true) (h:Cv K c l xs):Cv K c (.cons (.bI i) l) xs:=by refine ⟨@λY X s I nb=> ?_⟩;have ck:eB K (.bI i) Y≠.bad:=λz=>nb (congrArg (λo=>aA.bind o _) z);obtain ⟨v,v',H',hne,hi,hf,hl,e⟩:=KC ck;have e2:cu K (.cons (.bI i) l) Y=cu K l ⟨Y.ls.set i v',H'⟩:=congrArg (λo=>aA.bind o _) e;rw [e2] at nb⊢;exact dD (I.MN ok ow hx PV hi hne hf) λI' S=>aK (h.run I' nb) (λy y r=>r.older S Rest.refl) λy y x=>x.older S Rest.refl λy e=>e
end
noncomputable def xd (x:VV) (P:List UI->UI->Bool):Bool:=kL (n:=x.ctorIdx) (m:=5) λh=>Xn (motive_2:=λz=>Bool) x h λts y z=>P ts y
theorem An {M:VV->Prop} (h:xd x P=true) (k: ∀ts y p,P ts y=true->M (.Assign ts y p)):M x:=by obtain ⟨e,h⟩:=bF h;exact Xn (motive_2:=λx=> ∀e:x.ctorIdx=5,Xn (motive_2:=λz=>Bool) x e (λts y z=>P ts y)=true->M x) x e (λts y p z h=>k ts y p h) e h
noncomputable def Ij (x:VV) (P:UI->Operator->UI->Bool):Bool:=kL (n:=x.ctorIdx) (m:=7) λh=>WA (motive_2:=λz=>Bool) x h λt o y z=>P t o y
theorem D6 {M:VV->Prop} (h:Ij x P=true) (k: ∀t o y p,P t o y=true->M (.AugAssign t o y p)):M x:=by obtain ⟨e,h⟩:=bF h;exact WA (motive_2:=λx=> ∀e:x.ctorIdx=7,WA (motive_2:=λz=>Bool) x e (λt o y z=>P t o y)=true->M x) x e (λt o y p z h=>k t o y p h) e h
noncomputable def OV (x:VV) (P:UI->List VV->List VV->Bool):Bool:=kL (n:=x.ctorIdx) (m:=12) λh=>YQ (motive_2:=λz=>Bool) x h λt a b z=>P t a b
theorem Mf {M:VV->Prop} (h:OV x P=true) (k: ∀t a b p,P t a b=true->M (.If t a b p)):M x:=by obtain ⟨e,h⟩:=bF h;exact YQ (motive_2:=λx=> ∀e:x.ctorIdx=12,YQ (motive_2:=λz=>Bool) x e (λt a b z=>P t a b)=true->M x) x e (λt a b p z h=>k t a b p h) e h
noncomputable def Bp (x:VV) (P:UI->List VV->List VV->Bool):Bool:=kL (n:=x.ctorIdx) (m:=11) λh=>XF (motive_2:=λz=>Bool) x h λt a b z=>P t a b
theorem B3 {M:VV->Prop} (h:Bp x P=true) (k: ∀t a b p,P t a b=true->M (.While t a b p)):M x:=by obtain ⟨e,h⟩:=bF h;exact XF (motive_2:=λx=> ∀e:x.ctorIdx=11,XF (motive_2:=λz=>Bool) x e (λt a b z=>P t a b)=true->M x) x e (λt a b p z h=>k t a b p h) e h
noncomputable def IV (x:VV) (P:UI->UI->List VV->List VV->Bool):Bool:=kL (n:=x.ctorIdx) (m:=9) λh=>Ys (motive_2:=λz=>Bool) x h λt i a b z=>P t i a b
theorem HJ {M:VV->Prop} {P:UI->UI->List VV->List VV->Bool} (h:IV x P=true) (k: ∀t i a b p,P t i a b=true->M (.For t i a b p)):M x:=by obtain ⟨e,h⟩:=bF h;exact Ys (motive_2:=λx=> ∀e:x.ctorIdx=9,Ys (motive_2:=λz=>Bool) x e (λt i a b z=>P t i a b)=true->M x) x e (λt i a b p z h=>k t i a b p h) e h
noncomputable def Em (x:VV) (P:Option UI->Bool):Bool:=kL (n:=x.ctorIdx) (m:=3) λh=>Xm (motive_2:=λz=>Bool) x h λoe z=>P oe
theorem yD {M:VV->Prop} (h:Em x P=true) (k: ∀oe p,P oe=true->M (.Return oe p)):M x:=by obtain ⟨e,h⟩:=bF h;exact Xm (motive_2:=λx=> ∀e:x.ctorIdx=3,Xm (motive_2:=λz=>Bool) x e (λoe z=>P oe)=true->M x) x e (λoe p z h=>k oe p h) e h
noncomputable def D8 (x:VV) (P:UI->Bool):Bool:=kL (n:=x.ctorIdx) (m:=24) λh=>X3 (motive_2:=λz=>Bool) x h λy z=>P y
theorem Fc {M:VV->Prop} (h:D8 x P=true) (k: ∀y p,P y=true->M (.Expr y p)):M x:=by obtain ⟨e,h⟩:=bF h;exact X3 (motive_2:=λx=> ∀e:x.ctorIdx=24,X3 (motive_2:=λz=>Bool) x e (λy z=>P y)=true->M x) x e (λy p z h=>k y p h) e h
noncomputable def A2 (x:VV) (P:Option UI->Option UI->Bool):Bool:=kL (n:=x.ctorIdx) (m:=16) λh=>XG (motive_2:=λz=>Bool) x h λoe of z=>P oe of
theorem B5 {M:VV->Prop} (h:A2 x P=true) (k: ∀oe of p,P oe of=true->M (.Raise oe of p)):M x:=by obtain ⟨e,h⟩:=bF h;exact XG (motive_2:=λx=> ∀e:x.ctorIdx=16,XG (motive_2:=λz=>Bool) x e (λoe of z=>P oe of)=true->M x) x e (λoe of p z h=>k oe of p h) e h
noncomputable def Dc (x:VV) (P:List VV->List Yq->List VV->List VV->Bool):Bool:=kL (n:=x.ctorIdx) (m:=17) λh=>Yr (motive_2:=λz=>Bool) x h λxs hs a b z=>P xs hs a b
theorem zu {M:VV->Prop} {P:List VV->List Yq->List VV->List VV->Bool} (h:Dc x P=true) (k: ∀xs hs a b p,P xs hs a b=true->M (.Try xs hs a b p)):M x:=by obtain ⟨e,h⟩:=bF h;exact Yr (motive_2:=λx=> ∀e:x.ctorIdx=17,Yr (motive_2:=λz=>Bool) x e (λxs hs a b z=>P xs hs a b)=true->M x) x e (λxs hs a b p z h=>k xs hs a b p h) e h
noncomputable def ED (x:UI) (P:Str->Pos->Bool):Bool:=kL (n:=x.ctorIdx) (m:=23) λh=>VH (motive_1:=λz=>Bool) x h λn p=>P n p
theorem Gy {M:UI->Prop} (h:ED x P=true) (k: ∀n p,P n p=true->M (.Name n p)):M x:=by obtain ⟨e,h⟩:=bF h;exact VH (motive_1:=λx=> ∀e:x.ctorIdx=23,VH (motive_1:=λz=>Bool) x e (λn p=>P n p)=true->M x) x e (λn p z h=>k n p h) e h
noncomputable def onStr (x:acf) (P:Str->Bool):Bool:=kL (n:=x.ctorIdx) (m:=5) λh=>Yb (motive:=λz=>Bool) x h λw=>P w
theorem Me {M:acf->Prop} (h:onStr x P=true) (k: ∀w,P w=true->M (.str w)):M x:=by obtain ⟨e,h⟩:=bF h;exact Yb (motive:=λx=> ∀e:x.ctorIdx=5,Yb (motive:=λz=>Bool) x e (λw=>P w)=true->M x) x e (λw z h=>k w h) e h
theorem bV {α:Type} {l:List α} {M:List α->Prop} (h:l.isEmpty=true) (k:M []):M l:=Yh.mp h▸k
theorem none_inv {α:Type} {o:Option α} {M:Option α->Prop} (h:o.isNone=true) (k:M none):M o:=Yu.mp h▸k
theorem gX {α:Type} {o:Option α} {f:α->Bool} {M:Option α->Prop} (h:o.any f=true) (k: ∀a,f a=true->M (some a)):M o:=by
 cases o with
 |none=>exact gV h
 |some a=>exact k a h
noncomputable def ly (x:VV) (P:UI->UI->Bool):Bool:=xd x λl y=>one l λt=>P t y
theorem j7 {M:VV->Prop} (h:ly x P=true) (k: ∀t y q,P t y=true->M (.Assign [t] y q)):M x:=An h λl y q h=>eg (M:=λl=>M (.Assign l y q)) h λt h=>k t y q h
noncomputable def DT (x:VV) (P:UI->List VV->Bool):Bool:=Bp x λt a o=>o.isEmpty&&P t a
theorem Ga {M:VV->Prop} (h:DT x P=true) (k: ∀t a q,P t a=true->M (.While t a [] q)):M x:=B3 h λt a o q h=>di h λh1 h2=>bV (M:=λo=>M (.While t a o q)) h1 (k t a q h2)
noncomputable def Kl (x:VV) (P:UI->UI->List VV->Bool):Bool:=IV x λt i a o=>o.isEmpty&&P t i a
theorem ES {M:VV->Prop} (h:Kl x P=true) (k: ∀t i a q,P t i a=true->M (.For t i a [] q)):M x:=HJ h λt i a o q h=>di h λh1 h2=>bV (M:=λo=>M (.For t i a o q)) h1 (k t i a q h2)
noncomputable def onRaise (x:VV) (P:Str->Bool):Bool:=A2 x λe f=>f.isNone&&e.any λe=>fP e λn l=>one l λz=>sq z λc=>onStr c λy=>P n
theorem F4 {M:VV->Prop} {P:Str->Bool} (h:onRaise x P=true) (k: ∀nm p w k p2 q q2,P nm=true->M (.Raise (some (.Call (.Name nm p) [.Constant (.str w) k p2] [] q)) none q2)):M x:=B5 h λe f q2 h=>di h λh1 h=>none_inv (M:=λf=>M (.Raise e f q2)) h1 (gX (M:=λe=>M (.Raise e none q2)) h λe h=>cP (M:=λe=>M (.Raise (some e) none q2)) h λn p l q h=>eg (M:=λl=>M (.Raise (some (.Call (.Name n p) l [] q)) none q2)) h λz h=>qE (M:=λz=>M (.Raise (some (.Call (.Name n p) [z] [] q)) none q2)) h λc kk p2 h=>Me (M:=λc=>M (.Raise (some (.Call (.Name n p) [.Constant c kk p2] [] q)) none q2)) h λw h=>k n p w kk p2 q q2 h)
noncomputable def HF (l:List VV) (P:acf->Bool):Bool:=one l λs=>Em s λe=>e.any λe=>sq e P
theorem Jx {M:List VV->Prop} (h:HF l P=true) (k: ∀kc kk cp rp,P kc=true->M [.Return (some (.Constant kc kk cp)) rp]):M l:=eg (M:=M) h λs h=>yD (M:=λs=>M [s]) h λe rp h=>gX (M:=λe=>M [.Return e rp]) h λe h=>qE (M:=λe=>M [.Return (some e) rp]) h λc kk cp h=>k c kk cp rp h
noncomputable def aa8 (x:Yq) (P:Str->acf->Bool):Bool:=match x with
 | .ExceptHandler t n b _=>n.isNone&&t.any λt=>iz t λnm=>HF b λk=>P nm k
theorem Rh {M:Yq->Prop} (h:aa8 x P=true) (k: ∀nm np kc kk cp rp hp,P nm kc=true->M (.ExceptHandler (some (.Name nm np)) none [.Return (some (.Constant kc kk cp)) rp] hp)):M x:=by obtain ⟨t,n,b,hp⟩:=x;exact di h λh1 h=>none_inv (M:=λn=>M (.ExceptHandler t n b hp)) h1 (gX (M:=λt=>M (.ExceptHandler t none b hp)) h λt h=>fu (M:=λt=>M (.ExceptHandler (some t) none b hp)) h λnm np h=>Jx (M:=λb=>M (.ExceptHandler (some (.Name nm np)) none b hp)) h λkc kk cp rp h=>k nm np kc kk cp rp hp h)
noncomputable def JR (x:VV) (P:List VV->Str->acf->Bool):Bool:=Dc x λxs hs a b=>a.isEmpty&&b.isEmpty&&one hs λh=>aa8 h λnm k=>P xs nm k
theorem HA {M:VV->Prop} (h:JR x P=true) (k: ∀xs nm np kc kk cp rp hp pos,P xs nm kc=true->M (.Try xs [.ExceptHandler (some (.Name nm np)) none [.Return (some (.Constant kc kk cp)) rp] hp] [] [] pos)):M x:=zu h λxs hs a b pos h=>qf h λh1 h2 h=>bV (M:=λa=>M (.Try xs hs a b pos)) h1 (bV (M:=λb=>M (.Try xs hs [] b pos)) h2 (eg (M:=λhs=>M (.Try xs hs [] [] pos)) h λhd h=>Rh (M:=λhd=>M (.Try xs [hd] [] [] pos)) h λnm np kc kk cp rp hp h=>k xs nm np kc kk cp rp hp pos h))
noncomputable def Ih (x:VV) (P:List VV->Bool):Bool:=Dc x λxs hs a b=>a.isEmpty&&b.isEmpty&&(!hs.isEmpty&&P xs)
theorem HK {M:VV->Prop} (h:Ih x P=true) (k: ∀xs h0 hs pos,P xs=true->M (.Try xs (h0::hs) [] [] pos)):M x:=zu h λxs hs a b pos h=>qf h λh1 h2 h=>bV (M:=λa=>M (.Try xs hs a b pos)) h1 (bV (M:=λb=>M (.Try xs hs [] b pos)) h2 (di h λh3 h=>by
 cases hs with
 |nil=>exact gV h3
 |cons h0 hs=>exact k xs h0 hs pos h))
section
variable [DecidableEq Str]
noncomputable def pg (c:CC) (i:Nat) (x:Str):Bool:=c.nm[i]? ==some x&&(c.sc.lookup x==some .local||c.sc.lookup x==some .cell)
noncomputable def pY (c:CC):List Nat->List UI->Bool
 |[],xs=>xs.isEmpty
 |i::l,xs=>match xs with
  |[]=>false
  |x::xs=>iz x (λnm=>pg c i nm)&&pY c l xs
noncomputable def Im (e:Ex):Bool:=e.ctorIdx==16||e.ctorIdx==17
noncomputable def JZ (c:CC):Mn->UI->Bool
 | .name i,x=>iz x λnm=>pg c i nm
 | .bW l,x=>DK x λxs=>pY c l xs
noncomputable def abZ (c:CC) (nm:Str):Bool:=Gu (c.bi nm) "range"
noncomputable def ghost (s:S):Option Nat:=match s with|.bI i=>some i|_=>none
theorem Lk (h:ghost s=some i):s=.bI i:=by cases s<;>first|exact ns h|exact congrArg _ (Sm h)
noncomputable def gh (o:Option Nat) (f:Nat->Bool) (b:Bool):Bool:=match o with
 |some i=>f i
 |none=>b
mutual noncomputable def R7 (c:CC):S->VV->Bool
 | .assign (.name i) e,x=>ly x λtg y=>ED tg λnm p=>pg c i nm&&Pq y&&(!kR c.sc nm p y||Im (k9 e).1)&&cF c e y
 | .assign (.bW l) e,x=>ly x λtg y=>DK tg λxs=>pY c l xs&&jP y&&IQ y&&cF c e y
 | .setAttr o f e,x=>ly x λtg z=>sW tg λy a u=>a==c.T.aY f&&jP z&&cF c e z&&cF c o y
 | .setItem o i e,x=>ly x λtg z=>D7 tg λy w=>jP z&&cF c e z&&cF c o y&&cF c i w
 | .iO i op e,x=>Ij x λtg o y=>iz tg λnm=>pg c i nm&&c.zo nm&& !(nm==("__classdict__":Str))&&o==op.py&&cF c e y
 | .iF ob f op e,x=>Ij x λtg o z=>sW tg λy a u=>a==c.T.aY f&&o==op.py&&cF c e z&&cF c ob y
 | .b9 t a b,x=>OV x λy l r=>cF c t y&&jr c a l&&jr c b r
 | .while t b,x=>DT x λy l=>cF c t y&&jr c b l
 | .forL t e b,x=>Kl x λtg y l=>JZ c t tg&&uJ y&&cF c e y&&jr c b l
 | .forR t r b,x=>Kl x λtg y l=>fP y λnm ys=>JZ c t tg&&abZ c nm&&uT c r ys&&jr c b l
 | .ret e,x=>Em x λy=>y.any λy=>cF c e y
 | .tG,x=>Em x λy=>y.isNone
 | .expr e,x=>D8 x λy=>jP y&&cF c e y
 | .raise,x=>onRaise x λnm=>isRef (c.top nm) (c.T.cl (.of 16))
 | .bad,_=>true
 | .xE b v,x=>JR x λl nm k=>isRef (c.top nm) (c.T.cl (.of 16))&&tw v k&&jr c b l
 | .rH b,x=>Ih x λl=>jr c b l
 | .pass,x=>x.ctorIdx==25
 | .cont,x=>x.ctorIdx==27
 | .bI _,_=>false noncomputable def jr (c:CC):Ss->List VV->Bool
 | .nil,l=>l.isEmpty
 | .cons s l,xs=>gh (ghost s) (λi=>(c.nm[i]?.any λx=>c.zo x)&&jr c l xs) (match xs with
  |y::ys=>R7 c s y&&jr c l ys
  |[]=>false) end
end
structure wU (T:eS):Prop where
 facts: ∃(newId initId B:String) (bmB:List Te),ExcBaseFacts B newId initId bmB/\bmB.contains (.type "BaseException")=true/\excIn T.K (T.cl (.of 16)) bmB newId=true
section
variable {K:Fn->List J->U->aA U J} {c:Cx} {n:Nat}
theorem lP (th:c.i7) (h:pg c.cc i x=true):nq c i x:=by
 obtain ⟨h1,h2⟩:=oH h;refine ⟨beq_iff_eq.mp h1,?_,λe=>th x e⟩;rcases Wm.mp h2 with q|q;·exact .inl (beq_iff_eq.mp q)
 ·exact .inr (beq_iff_eq.mp q)
theorem zH (th:c.i7): ∀{l:List Nat} {xs:List UI},pY c.cc l xs=true->cV c l xs:=by
 intro l_;induction l_ with
 |nil=>exact @λxs h=>bV (M:=λxs=>cV c [] xs) h trivial
 |cons i l aG=>
  intro m_;cases m_ with
  |nil=>exact @λh=>gV h
  |cons x xs=>exact @λh=>di h λh1 h2=>fu (M:=λx=>cV c (i::l) (x::xs)) h1 λnm p h1=>⟨⟨nm,p,rfl,lP th h1⟩,aG h2⟩
theorem Pf (ok:c.Ok n) (fn:c.LP) (h:JZ c.cc t x=true):Tg c t x:=by
 cases t with
 |name i=>exact fu h λz z h=>ME ok fn.own (lP fn.there h)
 |bW l=>exact yZ h λz z z h=>Q0 ok fn.own (zH fn.there h)
theorem Qu:SS K c .bad x:=⟨@λY X s I nb=>absurd rfl nb⟩
theorem KN (h:cF cc e y=true):cF cc (k9 e).1 y=true:=by cases e<;>exact h
theorem N8 (ok:c.Ok n) (fn:c.LP) (call:gw c.T c.B K n) (nm:nq c i x) (hsw:kR c.env.scope.names x p y=true) (hc:Im (k9 e).1=true) (h0:cF c.cc e y=true):SS K c (.assign (.name i) e) (.Assign [.Name x p] y q):=by
 have h:=KN h0;clear h0;cases HE:(k9 e).1<;>rw [HE] at hc h<;>first|exact gV hc|skip
 ·rename_i e1 it w;refine oM (M:=λy=>kR c.env.scope.names x p y=true->SS K c (.assign (.name i) e) (.Assign [.Name x p] y q)) h (λu u u u u u u h hsw=>F6 h λh1 h2 h3 h4 h5=> ?_) hsw;exact vK ok fn.own fn.there nm HE hsw ⟨λC I D cl v hcl hcn=>(aZ e1 (ji ok (fM h2) hcl) (f9 ok.kind h2 hcn) call (by rw [lT ok.kind];exact h3)).val,λC I D cl v hcl hcn=>(wu w (ji ok (fM h2) hcl) (f9 ok.kind h2 hcn) call (by rw [lT ok.kind];exact h5)).2,fM h2,h2⟩ h1 (aZ it ok fn.there call h4).val
 ·rename_i e1 r w;refine oM (M:=λy=>kR c.env.scope.names x p y=true->SS K c (.assign (.name i) e) (.Assign [.Name x p] y q)) h (λy0 t0 q0 z w' s pp h hsw=>lZ h λh1 h2 h3 h5=> ?_) hsw;refine cP (M:=λz=>kR c.env.scope.names x p (.ListComp y0 [⟨.Name t0 q0,z,gA w',0⟩] s pp)=true->SS K c (.assign (.name i) e) (.Assign [.Name x p] (.ListComp y0 [⟨.Name t0 q0,z,gA w',0⟩] s pp) q)) h1 (λu u u u h1 hsw=>di h1 λg1 g2=> ?_) hsw;exact tY ok fn.own fn.there nm HE hsw ⟨λC I D cl v hcl hcn=>(aZ e1 (ji ok (fM h2) hcl) (f9 ok.kind h2 hcn) call (by rw [lT ok.kind];exact h3)).val,λC I D cl v hcl hcn=>(wu w (ji ok (fM h2) hcl) (f9 ok.kind h2 hcn) call (by rw [lT ok.kind];exact h5)).2,fM h2,h2⟩ (mh g1) (fq (K:=K) (cv:=.ah) r ok fn.there call g2).2 ((fq (K:=K) (cv:=.ah) r ok fn.there call g2).1.mono λu u b=>b.val)
mutual theorem abQ {K:Fn->List J->U->aA U J}: ∀(st:S) {c:Cx} {n:Nat} {x:VV},c.Ok n->c.LP->gw c.T c.B K n->wU c.T->R7 c.cc st x=true->SS K c st x
 | .assign (.name i) e,_,_,_,ok,fn,call,ex,h=>by
  rename_i c n x;refine j7 h λtg y q h=>Gy (M:=λtg=>SS K _ _ (.Assign [tg] y q)) h λnm p h=>lZ h λh1 h2 h3 h4=> ?_;cases hs:kR c.env.scope.names nm p y with
  |false=>exact Dl ok fn.own (lP fn.there h1) h2 hs (aZ e ok fn.there call h4).val
  |true=>have:kR c.cc.sc nm p y=true:=hs;rw [this] at h3;exact N8 ok fn call (lP fn.there h1) hs h3 h4
 | .assign (.bW l) e,_,_,_,ok,fn,call,ex,h=>j7 h λtg y q h=>yZ (M:=λtg=>SS K _ _ (.Assign [tg] y q)) h λu u u h=>lZ h λh1 h2 h3 h4=>B6 ok fn.own (zH fn.there h1) h2 h3 (aZ e ok fn.there call h4).val
 | .setAttr o f e,_,_,_,ok,fn,call,ex,h=>j7 h λtg z q h=>pW (M:=λtg=>SS K _ _ (.Assign [tg] z q)) h λy a p h=>lZ h λh1 h2 h3 h4=>eqB (M:=λa=>SS K _ _ (.Assign [.Attribute y a p] z q)) h1 (Ce ok h2 (aZ e ok fn.there call h3).val (aZ o ok fn.there call h4).val)
 | .setItem o i e,_,_,_,ok,fn,call,ex,h=>j7 h λtg z q h=>xQ (M:=λtg=>SS K _ _ (.Assign [tg] z q)) h λu u u h=>lZ h λh1 h2 h3 h4=>Dj ok h1 (aZ e ok fn.there call h2).val (aZ o ok fn.there call h3).val (aZ i ok fn.there call h4).val
 | .iO i op e,_,_,_,ok,fn,call,ex,h=>D6 h λtg o y q h=>fu (M:=λtg=>SS K _ _ (.AugAssign tg o y q)) h λnm p h=>F6 h λh1 h2 h3 h4 h5=>eqB (M:=λo=>SS K _ _ (.AugAssign (.Name nm p) o y q)) h4 (Gp ok fn.own (lP fn.there h1) h2 (by simpa using h3) (aZ e ok fn.there call h5).val)
 | .iF ob f op e,_,_,_,ok,fn,call,ex,h=>D6 h λtg o z q h=>pW (M:=λtg=>SS K _ _ (.AugAssign tg o z q)) h λy a p h=>lZ h λh1 h2 h3 h4=>eqB (M:=λo=>SS K _ _ (.AugAssign (.Attribute y a p) o z q)) h2 (eqB (M:=λa=>SS K _ _ (.AugAssign (.Attribute y a p) _ z q)) h1 (CE ok (aZ e ok fn.there call h3).val (aZ ob ok fn.there call h4).val))
 | .b9 t a b,_,_,_,ok,fn,call,ex,h=>Mf h λu u u u h=>qf h λh1 h2 h3=>abr ok (aZ t ok fn.there call h1).GO (jk a ok fn call ex h2) (jk b ok fn call ex h3)
 | .while t b,_,_,_,ok,fn,call,ex,h=>Ga h λu u u h=>di h λh1 h2=>H6 ok (aZ t ok fn.there call h1).GO (jk b ok fn call ex h2)
 | .forL t e b,_,_,_,ok,fn,call,ex,h=>ES h λu u u u h=>lZ h λh1 h2 h3 h4=>Ow ok h2 (aZ e ok fn.there call h3).val (Pf ok fn h1) λI nF=>jk b (ok.more I) (fn.more ok nF) call ex h4
 | .forR t r b,_,_,_,ok,fn,call,ex,h=>ES h λtg y l q h=>cP (M:=λy=>SS K _ _ (.For tg y l [] q)) h λu u u u h=>lZ h λh1 h2 h3 h4=>LO ok (mh h2) (fq (K:=K) (cv:=.ah) r ok fn.there call h3).2 ((fq r ok fn.there call h3).1.mono λu u b=>b.val) (Pf ok fn h1) λI nF=>jk b (ok.more I) (fn.more ok nF) call ex h4
 | .ret e,_,_,_,ok,fn,call,ex,h=>yD h λy q h=>gX (M:=λy=>SS K _ _ (.Return y q)) h λu h=>PB ok (aZ e ok fn.there call h).val
 | .tG,_,_,_,ok,fn,call,ex,h=>yD h λy q h=>none_inv (M:=λy=>SS K _ _ (.Return y q)) h ML
 | .expr e,_,_,_,ok,fn,call,ex,h=>Fc h λu u h=>di h λh1 h2=>NB ok h1 (aZ e ok fn.there call h2).val
 | .raise,_,_,_,ok,fn,call,ex,h=>by obtain ⟨newId,initId,B,bmB,F,hB,hx⟩:=ex.facts;exact F4 h λu u u u u u u h=>Iz ok F hB hx (o6 h)
 | .bad,_,_,_,ok,fn,call,ex,h=>Qu
 | .xE b v,_,_,_,ok,fn,call,ex,h=>by obtain ⟨newId,initId,B,bmB,F,hB,hx⟩:=ex.facts;exact HA h λu u u u u u u u u h=>qf h λh1 h2 h3=>MQ ok fn hB hx (o6 h1) h2 (jk b ok fn call ex h3)
 | .rH b,_,_,_,ok,fn,call,ex,h=>HK h λu u u u h=>Nr ok (jk b ok fn call ex h)
 | .pass,_,_,_,ok,fn,call,ex,h=>Stmt.Pass.elim (motive_2:=λx=>SS K _ .pass x) _ (beq_iff_eq.mp h) λu=>M9
 | .cont,_,_,_,ok,fn,call,ex,h=>ab3 (motive_2:=λx=>SS K _ .cont x) _ (beq_iff_eq.mp h) λu=>NH
 | .bI _,_,_,_,ok,fn,call,ex,h=>gV h theorem jk {K:Fn->List J->U->aA U J}: ∀(l:Ss) {c:Cx} {n:Nat} {xs:List VV},c.Ok n->c.LP->gw c.T c.B K n->wU c.T->jr c.cc l xs=true->Cv K c l xs
 | .nil,c,n,xs,ok,fn,call,ex,h=>by
  cases xs with
  |nil=>exact QL
  |cons _ _=>exact gV h
 | .cons s l,c,n,xs,ok,fn,call,ex,h=>by
  change gh (ghost s) _ _=true at h;cases hg:ghost s with
  |some i=>rw [hg] at h;have e:=Lk hg;obtain ⟨h1,h2⟩:=oH h;have ih:=jk l (K:=K) ok fn call ex h2;obtain ⟨x,hx,h1⟩:=xU h1;rw [e];exact Cu ok fn.own hx h1 ih
  |none=>
   rw [hg] at h;cases xs with
   |nil=>exact gV h
   |cons y ys=>obtain ⟨h1,h2⟩:=oH h;exact MP (abQ s ok fn call ex h1) (jk l ok fn call ex h2) end
end
structure MY (T:eS) (B:Vr) (f:Fn) (o:Obj) (fd:Xi) (body:List VV) (names:List Str):Prop where
 bP:B.get? (T.fn f)=some o
 data:o.data=.func fd
 bdy:fd.body=.stmts body
 co:fd.scope.isCoroutine=false
 gen:fd.scope.isGenerator=false
 kind:fd.scope.kind=.function
 glob:fd.globals=UC
 bi:fd.builtins=V5
 clo:fd.closure=[]
 code:B.CodeRec fd.code fd.qualname
 bind: ∀vals:List Te,vals.length=(b8 f).1->bindArgs fd ⟨vals,[]⟩=pure ((names.take (b8 f).1).zip vals)
 pk: ∀x∈names.take (b8 f).1,fd.scope.names.lookup x=some .local∨fd.scope.names.lookup x=some .cell
 nd:names.Nodup
 len:names.length=(b8 f).2
 le:(b8 f).1<=(b8 f).2
 Lc:jr ⟨T,names,fd.scope.names,λ_=>true,none⟩ (nk f) body=true
def DO (T:eS) (B:Vr):Prop:= ∀f,∃o fd body names,MY T B f o fd body names
theorem tS: ∀{l:List (Str×VF)} {n:Nat} {acc:List (Str×Um)},(acc.lookup x).isSome=true->((cellsFrom n l acc).lookup x).isSome=true:=by
 intro l_;induction l_ with
 |nil=>exact @λz z h=>h
 |cons p_ r aG=>
  obtain ⟨a,k⟩:=p_;exact @λn acc h=>by
   unfold cellsFrom;split;·
    refine aG ?_;rw [T9];split;·rfl
    ·exact h
   ·exact aG h
theorem kF: ∀{l:List (Str×VF)} {n:Nat} {acc:List (Str×Um)},l.lookup x=some .cell->((cellsFrom n l acc).lookup x).isSome=true:=by
 intro l_;induction l_ with
 |nil=>exact @λz z h=>by simp at h
 |cons p_ r aG=>
  obtain ⟨a,k⟩:=p_;exact @λn acc h=>by
   unfold cellsFrom;rw [T9] at h;split at h;·rename_i q;obtain rfl:=Sm h;refine tS ?_;rw [T9,q];rfl
   ·split;·exact aG h
    ·exact aG h
theorem Cr: ∀{l:List (Str×Te)} {m:Str->Option Te},(∀p∈l,p.1≠x)->bindL ko l m x=m x:=by
 intro l_;induction l_ with
 |nil=>exact @λy y=>rfl
 |cons p_ r aG=>
  obtain ⟨n,v⟩:=p_;exact @λm h=>by
   unfold bindL;rw [aG λp hp=>h p (.tail _ hp)];split;·exact if_neg λz=>h (n,v) (.head _) z.symm
   ·rfl
theorem CR: ∀{l:List (Str×Te)} {m:Str->Option Te},(∀p∈l,p.1≠x)->bindC ko l m x=m x:=by
 intro l_;induction l_ with
 |nil=>exact @λy y=>rfl
 |cons p_ r aG=>
  obtain ⟨n,v⟩:=p_;exact @λm h=>by
   unfold bindC;rw [aG λp hp=>h p (.tail _ hp)];split;·rfl
   ·exact if_neg λz=>h (n,v) (.head _) z.symm
theorem qI {ns:List Str} {vals:List Te}: ∀p∈ns.zip vals,p.1∈ns:=λp hp=>(List.of_mem_zip hp).1
theorem Bk: ∀{ns:List Str} {vals:List Te} {i:Nat} {x:Str} {v:Te} {m:Str->Option Te},ns.Nodup->ns[i]? =some x->vals[i]? =some v->ko x=some .local->bindL ko (ns.zip vals) m x=some v
 |[],_,_,_,_,_,_,h,_,_=>by simp at h
 |_::_,[],_,_,_,_,_,_,h,_=>by simp at h
 |n::ns,u::vals,0,x,v,m,nd,h1,h2,hk=>by simp at h1 h2;subst h1 h2;refine (?_:bindL ko ((n,u)::ns.zip vals) m n=some u);unfold bindL;rw [Cr (λp hp (z:p.1=n)=>(Uj.mp nd).1 (by exact (z)▸(qI p hp))),if_pos hk];exact if_pos rfl
 |n::ns,u::vals,i+1,x,v,m,nd,h1,h2,hk=>by unfold bindL;exact Bk (Uj.mp nd).2 h1 h2 hk
theorem Ae: ∀{ns:List Str} {vals:List Te} {i:Nat} {x:Str} {v:Te} {m:Str->Option Te},ns.Nodup->ns[i]? =some x->vals[i]? =some v->ko x≠some .local->bindC ko (ns.zip vals) m x=some v
 |[],_,_,_,_,_,_,h,_,_=>by simp at h
 |_::_,[],_,_,_,_,_,_,h,_=>by simp at h
 |n::ns,u::vals,0,x,v,m,nd,h1,h2,hk=>by simp at h1 h2;subst h1 h2;refine (?_:bindC ko ((n,u)::ns.zip vals) m n=some u);unfold bindC;rw [CR (λp hp (z:p.1=n)=>(Uj.mp nd).1 (by exact (z)▸(qI p hp))),if_neg hk];exact if_pos rfl
 |n::ns,u::vals,i+1,x,v,m,nd,h1,h2,hk=>by unfold bindC;exact Ae (Uj.mp nd).2 h1 h2 hk
def Ret (k:Nat) (T:eS) (B:Vr) (F:List Um) (X:Nat->Um) (H:U) (s:Tz) (f:Fn) (args:List J) (r:Z1) (s':Tz):Prop:=match r with
 | .ok (.ret v)=> ∃a H' ι',ak k f args H=.ok a H'/\aE T F ι' H' s'.heap a v/\RH T B F ι' H' s'.heap/\Step F F X H s.heap ι' H' s'.heap/\Rest s s'
 | .ok _=>False
 | .error e=> ∃H' ι',ak k f args H=.exc H'/\Ly T s.heap e s'.heap/\RH T B F ι' H' s'.heap/\Step F F X H s.heap ι' H' s'.heap/\Rest s s'
theorem FH (ex:wU T) (fns:DO T B) (ih:gw T B (ak k) k):gw T B (ak (k+1)) (k+1):=by
 intro F fr A X H s f args vs hh hfr yv hd hu wf R Fr V nb;refine (?_:cW (model T.prog T.w) A _ (Ret (k+1) T B F X H s f args) s);refine aaN (fns f) λo fd body names fo=> ?_;have hal:args.length=(b8 f).1:=by
  by_cases q:args.length=(b8 f).1;·exact q
  ·exact absurd (if_neg q) nb
 have hvl:vs.length=(b8 f).1:=by exact (V.length)▸(hal)
 have sS:ak (k+1) f args H=(match cu (ak k) (nk f) ⟨args++Tf ((b8 f).2-(b8 f).1) .ah,H⟩ with
  | .ok (.ret v) Y=>.ok v Y.hs
  | .ok .next Y=>.ok .none Y.hs
  | .ok .cont _=>.bad
  | .exc Y=>.exc Y.hs
  | .bad=>.bad):=by exact if_pos hal
 refine mX (by exact (Ln.n3 0x612080502288b0a30a221048a00) hd) (R.base _ _ fo.bP) fo.data fo.co fo.gen fo.bdy ((fo.code).keeps R.base) ((fo.bind vs hvl).symm▸ ?_);refine (fo.clo).symm▸(SN (wpAny_newFunctionEnv_cells fo.kind (λp hp=> ?_) λenv he s1 x=> ?_));·
  rcases fo.pk _ (qI p hp) with q|q;·exact .inl q
  ·exact .inr ⟨q,kF q⟩
 have hkind:env.kindOf=λy=>fd.scope.names.lookup y:=(Uc (congrArg _ (he)) rfl);have Nb:env.frame=some env.locals:=((he).symm▸rfl);have aat:env.scope.kind=.function:=((he).symm▸(fo.kind));have adm:env.globals=UC:=((he).symm▸(fo.glob));have ad3:env.builtins=V5:=(Uc (congrArg _ (he)) (fo.bi));have kp:=x.toInCall.keep;refine ⟨wf.nolimit.keeps λb o e=>kp b o (R.base b o e),Dn ?_⟩;let N:List Um:=env.locals::(env.cells.map (·.1)).filterMap λy=>env.cells.lookup y;let c:Cx:={T:=T,B:=B,P:=F,F:=N++F,fr:=env::fr,A:=A.deeper env,env:=env,names:=names,zo:=λu=>true,cv:=none};have qJ: ∀a∈N,s.heap.get? a=none/\(s1.heap.get? a).isSome=true:=λa ha=>by
  refine aQ λcT k_1=> ?_;rcases Tn.mp ha with rfl|ha;·
   refine k_1 (⟨?_,?_⟩);·
    cases z:s.heap.get? env.locals with
    |none=>rfl
    |some o'=>exact absurd (Ur z) (Ux.mpr x.toInCall.fresh)
   ·refine sZ x.toInCall.ns λu u u e u=> ?_;rw [e];rfl
  ·refine ay (UZ.mp ha) λy u hy=>k_1 (⟨?_,?_⟩);·
    cases z:s.heap.get? a with
    |none=>rfl
    |some o'=>exact absurd (Sx (Ur z) (Sl x.toInCall.fresh (Tj (x.above y a (mem_of_lookup hy))))) (To _)
   ·refine ay (x.cell y a hy) λo' e' u=> ?_;rw [e'];rfl
 have BO: ∀a∈N,a∉F:=λa ha q=>by obtain ⟨o',e⟩:=(R.fr a q).2;replace e:=((qJ a ha).1)▸e;cases e
 have aa3: ∀y a,env.cells.lookup y=some a->a∈N:=λy a e=>.tail _ (UZ.mpr (aH y (Tr.mpr (aH (y,a) (mem_of_lookup e) rfl)) e));have okc:c.Ok k:=⟨wf,aat,adm,ad3,.head _,λy a e=>TP _ (aa3 y a e),λa ha=>S9 _ ha,hh,Zd hfr,λe he' L hL=>by
  rcases Tn.mp he' with rfl|he';·replace hL:=(Nb)▸hL;obtain rfl:=Sm hL;exact .head _
  ·exact S9 _ (yv e he' L hL),by exact (Ln.n3 0x18502288b8a301228288840502288b0a30a221048a00) hd,by exact (Ln.n3 0x1850228882528c048a222888c0502288b2328c288841228880) hu⟩;have fnc:c.LP:=⟨⟨BO _ (.head _),λy a u e=>BO a (aa3 y a e),λy z a e1 e2=>name_of_addr x.apart (mem_of_lookup e1) (mem_of_lookup e2),fo.nd,rfl⟩,λy hy=>by
  have hy':fd.scope.names.lookup y=some .cell:=by have:env.kindOf y=some .cell:=hy;rw [hkind] at this;exact this
  exact (((Uc (congrArg _ (he)) rfl):env.cells=cellsFrom (s.heap.objs.size+1) fd.scope.names [])).symm▸(kF hy'),(gv fr env.locals rfl Nb)⟩;obtain ⟨R1,Ca1⟩:=R.enter (N:=N) kp qJ;have I1:Inv c .ah X ⟨args++Tf ((b8 f).2-(b8 f).1) .ah,H⟩ s1:=by
  refine ⟨R1,⟨⟨_,x.toInCall.ns⟩,λy a e=>⟨_,x.cell y a e⟩,?_,λi a y h1 h2 h3 h4=> ?_,λy e=>by cases e⟩,?_⟩;·refine (?_:_=names.length);refine (Sq).symm▸((Ve).symm▸ ?_);refine (hal).symm▸((fo.len).symm▸ ?_);have:=fo.le;exact (Ln.n2 0x1858128b001014040) this
  ·have hi:i<args.length:=by
    rcases Wq i args.length with q|q;·exact q
    ·exfalso;replace h1:=(TG q)▸h1;replace h1:=(List.getElem?_replicate)▸h1;split at h1;·obtain rfl:=Sm h1;exact h2 rfl
     ·cases h1
   replace h1:=(Un hi)▸h1;refine ay (aB.get i (V.aO Ca1) h1) λv g1 g2=>aH v ?_ g2;have h3':(names.take (b8 f).1)[i]? =some y:=(Uc (Vf (by exact (Ln.n3 0x18612042480096040) hal hi)) ((h3)));have K4:(names.take (b8 f).1).Nodup:=fo.nd.sublist (U5 _ _);rcases (fo.pk y (Sk h3')) with q|q;·exact .inl ⟨by refine (?_:env.kindOf y=_);rw [hkind];exact q,_,x.toInCall.ns,Bk K4 h3' g1 (by rw [hkind];exact q)⟩
   ·refine fU (SM.mp (fnc.there y (by rw [hkind];exact q))) λb hb=> ?_;have:=x.cell y b hb;rw [Ae K4 h3' g1 (by rw [hkind];refine (?_:List.lookup y fd.scope.names≠_);refine (q).symm▸ ?_;decide)] at this;exact .inr ⟨.inl (by rw [hkind];exact q),b,hb,this⟩
  ·refine xJ x.toInCall.ns λoL es ep e1 e2 u=>⟨by rw [aat];decide,(nN env.locals oL Nb ?_ e1 (λvs z=>by replace z:=(e2)▸z;cases z)),iT kp Fr⟩;cases z:B.get? env.locals with
   |none=>rfl
   |some ob=>have:=R.base _ ob z;replace this:=((qJ _ (.head _)).1)▸this;cases this
 have SSb:=jk (K:=ak k) (nk f) okc fnc ih ex (xs:=body) (by refine (?_:jr (CC.mk T names env.scope.names (λu=>true) none) _ _=true);exact ((((he).symm▸rfl):env.scope.names=fd.scope.names)).symm▸(fo.Lc));have Re0:Rest s s1:=by refine rY x.toInCall.same λh' tk aau=> ?_;clear x kp qJ R1 Ca1 I1;subst aau;exact ⟨rfl,rfl⟩
 refine aK (SSb.run I1 (λz=>nb (by rw [sS,z]))) (λfl s2 r=> ?_) λe s2 r=> ?_;·
  refine gH r λa σ2 sJ e2 V2 I2 S2 zE=> ?_;rw [e2] at sS;clear r e2;obtain ⟨R3,Ca3⟩:=RH.leave (N:=N) (F:=F) I2.rh;have S3:Step F F X H s.heap sJ σ2.hs s2.heap:=Step.within (N:=N) S2 kp (λa ha=>(qJ a ha).1) λu h=>h;cases a with
  |ret v=>
   cases fl<;>first|exact Wz V2|skip
   exact d7 v _ sJ sS (V2.aO Ca3) R3 S3 (Re0.trans zE)
  |next=>
   cases fl<;>first|exact Wz V2|skip
   exact d7 .none _ sJ sS rfl R3 S3 (Re0.trans zE)
  |cont=>exact absurd sS nb
 ·refine qF r λσ2 sJ e2 Fl R2 I2 S2 zE=> ?_;rw [e2] at sS;have hF: ∀b∈c.F,(s1.heap.get? b).isSome=true:=λb hb=>SM.mpr (R1.fr b hb).2;refine av (zY (A:=A.deeper env) (outer:=fr) (L:=env.locals) (Zd hfr) Nb R2 I2.kN okc.yv S2 R1.base hF Fl λh' R' u u Fr' S' F'=> ?_);obtain ⟨R3,_⟩:=RH.leave (N:=N) (F:=F) R';have S3:Step F F X H s.heap sJ σ2.hs h':=Step.within (N:=N) S' kp (λa ha=>(qJ a ha).1) λu h=>h;refine J8 σ2.hs sJ sS (F'.older λa ha=> ?_) R3 S3 ((Re0.trans zE).trans ⟨rfl,rfl⟩);obtain ⟨o',e'⟩:=SM.mp ha;rw [kp a o' e'];rfl
theorem Qp (ex:wU T) (fns:DO T B): ∀k,gw T B (ak k) k:=by
 intro l_;induction l_ with
 |zero=>exact by intro F fr A X H s f args vs _ _ _ _ _ _ _ _ _ nb;exact absurd rfl nb
 |succ k aG=>exact FH ex fns (aG)
noncomputable def qd (x:Fd):PySem.Str:=Xc ((["offset","size","largest","filter_bits","tables","files","user_order","check","log_block","sync_writes","create_missing","paranoid","write_buffer","max_height","heights","block_size","restart_interval","filter_base_lg","max_file_size","num_levels","l0_trigger","l0_stop","base_bytes","level_factor","max_mem_level","grandparent_factor","expand_factor","data","order","limit","restarts","block","current","ahead","turn","held_key","value_from","meta","index","options","footer","body_end","filters","outer","maker","inner","place","disk","rows","number","smallest","cache","refs","score","score_level"]:List String).getD x.n.val "check")
noncomputable def A6 (x:Mt):PySem.Str:=Xc ((["compare","step","back","key","value","valid","seek_first","seek_last","seek","tiny","check","iterators","get","need","lose","entry_at","go_restart","parse","narrow","read_block","whole_handle","walk","block_iter","aside","enter","skip_ahead","skip_behind","table","key_at","value_at","candidates","numbers"]:List String).getD x.n.val "check")
noncomputable def zy:List Fd:=(XM 55).map .mk
noncomputable def HB:List Mt:=(XM 32).map .mk
noncomputable def zA:List Cl:=(XM 18).map .mk
noncomputable def Ep:List Fn:=(XM 105).map .mk
noncomputable def fnNames (x:Fn):List PySem.Str:=(([["n","most","out"],["data","at","octets","most","n","shift","turn","octet"],["n"],["data","at"],["data","at"],["n"],["n"],["data","at"],["data","at"],["kind","data"],["seq","kind"],["user","seq","kind"],["ik","user","tag","kind"],["ik"],["ik"],["data","at","offset","size"],["data","handle","check","end","body"],["data","tail","handles","meta","at","index"],["files","ikey","order","low","high","mid"],["nums","i"],["u"],["e"],["e"],["n","out"],["content","total"],["rows","ends","content","e","key","top","place","index","meta","tail","data"],["rows","bits","parts","i","u"],["nums","size","shelves","big","at","history","i","y","u","seq"],["history","count","fronts","bits","levels","s","rows","level","parts","part"],["levels","start","n","pool","fronts","rest"],["levels","lists","parts","rows","part"],["walker","way"],["walker","rows","place","e"],["walker","rows","place"],["walker","rows","nums","first","history","place","i","y","act","near","target"],["history","u","minus","e"],["script","nums","a","count","fronts","history","levels","numbers","order","opts","cache","version","used","level","part","data","number","meta","other","lists","walkers","i","again","turn","k","y","u","minus","got"],["self","a","b"],["self"],["self","a","b","c","tag_a","tag_b"],["self"],["self"],["self","data","order","size","count","turn","place"],["self"],["self","at","shared","place","unshared","length","value_at","end"],["self","block"],["self"],["self"],["self"],["self"],["self"],["self","turn"],["self","start","before","shared","place","value_at","end","restarts"],["self"],["self"],["self","target"],["self","target","left","right","side","standing","middle","found"],["self"],["self","original","turn"],["self","offset","size"],["self","meta","index"],["self","data","options","order","metas"],["self","handle"],["self","octets","handle","at"],["self","octets","content"],["self"],["self","ikey","outer","place","handle","inner"],["self","outer","maker"],["self"],["self"],["self"],["self"],["self","held"],["self","held","place"],["self","held"],["self","held"],["self","held"],["self","held"],["self","target","held"],["self"],["self"],["self","disk","options","order"],["self","number","data"],["self","number","ikey"],["self","number"],["self","rows","order"],["self"],["self"],["self"],["self"],["self","target","low","high","mid"],["self"],["self"],["self"],["self","number","size","smallest","largest"],["self","i"],["self","i"],["self","cache"],["self","handle","number","at"],["self","num_levels","order","level"],["self","ikey","user","found","level0","i","meta","level","files"],["self","cache","user","seq","ikey","level","meta","entry","there","its_seq","kind"],["self","found","files","meta"],["self","cache","found","i","level","outer"],["self","numbers","i","level","files","meta","before"]]:List (List String)).getD x.n.val []).map Xc
noncomputable def iQ (x:Cl):Um:=[266,301,355,388,437,549,584,703,815,927,976,1074,1102,1137,1163,1247,92,56].getD x.n.val 0
noncomputable def gS (x:Fn):Um:=[101,108,115,122,129,136,143,150,157,186,200,207,214,221,228,595,602,714,1113,1258,1265,1270,1277,1284,1289,1296,1303,1310,1315,1320,1325,1332,1337,1344,1349,1356,1361,242,317,324,371,385,406,420,427,455,462,469,476,483,490,497,504,511,518,525,532,539,546,567,686,728,735,749,756,763,770,833,840,847,854,861,868,875,882,889,896,903,910,917,924,945,952,966,973,994,1015,1022,1029,1036,1043,1050,1057,1071,1092,1127,1134,1153,1160,1181,1195,1202,1230,1237,1244].getD x.n.val 0
noncomputable def dZ:List Um:=[3,31,30,44,43,56,55,68,67,80,79,92,91,266,265,301,300,355,354,388,387,437,436,549,548,584,583,633,632,661,660,703,702,815,814,927,926,976,975,1074,1073,1102,1101,1137,1136,1163,1162,1247,1246,101,100,108,107,115,114,122,121,129,128,136,135,143,142,150,149,157,156,186,185,200,199,207,206,214,213,221,220,228,227,595,594,602,601,714,713,1113,1112,1258,1257,1265,1264,1270,1269,1277,1276,1284,1283,1289,1288,1296,1295,1303,1302,1310,1309,1315,1314,1320,1319,1325,1324,1332,1331,1337,1336,1344,1343,1349,1348,1356,1355,1361,1360,242,241,317,316,324,323,371,370,385,384,406,405,420,419,427,426,455,454,462,461,469,468,476,475,483,482,490,489,497,496,504,503,511,510,518,517,525,524,532,531,539,538,546,545,567,566,686,685,728,727,735,734,749,748,756,755,763,762,770,769,833,832,840,839,847,846,854,853,861,860,868,867,875,874,882,881,889,888,896,895,903,902,910,909,917,916,924,923,945,944,952,951,966,965,973,972,994,993,1015,1014,1022,1021,1029,1028,1036,1035,1043,1042,1050,1049,1057,1056,1071,1070,1092,1091,1127,1126,1134,1133,1153,1152,1160,1159,1181,1180,1195,1194,1202,1201,1230,1229,1237,1236,1244,1243]
section
theorem jB: ∀f:Fd,f∈zy:=λ⟨i⟩=>TZ (WC i)
theorem wW: ∀f:Mt,f∈HB:=λ⟨i⟩=>TZ (WC i)
theorem jA: ∀f:Cl,f∈zA:=λ⟨i⟩=>TZ (WC i)
theorem wM: ∀f:Fn,f∈Ep:=λ⟨i⟩=>TZ (WC i)
end
noncomputable def mP (t:BT) (as:List Um):abn:=as.filterMap λa=>(t.get a).map (a,·)
noncomputable def KP (n:Nat) (K:abn):Bool:=K.all λx=>Nat.blt x.1 n&&x.2.alive
noncomputable def jU (K:abn) (p:Xz) (w:YO):eS:=⟨K,p,w,iQ,gS,qd,A6⟩
theorem Nn {t:BT} {a:Um} {o:Obj}: ∀{as:List Um},(mP t as).lookup a=some o->t.get a=some o/\(a,o)∈mP t as:=by
 intro l_;induction l_ with
 |nil=>exact @λh=>by simp [mP] at h
 |cons b as aG=>
  exact @λh=>by
   unfold mP at h⊢;rw [Wj] at h⊢;cases hb:t.get b with
   |none=>rw [hb] at h;exact aG h
   |some ob=>
    rw [hb] at h;simp only [Yd] at h⊢;rw [T9] at h;by_cases q:a=b;·subst q;simp only [beq_self_eq_true,Xd] at h;subst h;exact ⟨hb,.head _⟩
    ·have:(a==b)=false:=beq_eq_false_iff_ne.mpr q;rw [this] at h;exact dD (aG h) λh1 h2=>⟨h1,.tail _ h2⟩
theorem Of {t:BT} {as:List Um} {n:Nat} {life:Life} (ok:KP n (mP t as)=true):(mP t as).In (absHeap t n life):=by intro a o h;obtain ⟨h1,h2⟩:=Nn h;have:=Tc.mp ok _ h2;obtain ⟨h3,h4⟩:=Su.mp this;exact (ZU _ _ _).mpr ⟨by rw [absHeap_at,if_pos (Nat.blt_eq.mp h3),h1];rfl,h4⟩
noncomputable def Dh (x:Te) (P:Um->Bool):Bool:=kL (n:=x.ctorIdx) (m:=10) λh=>X0 (motive:=λz=>Bool) x h λa=>P a
theorem AW {x:Te} {M:Te->Prop} {P:Um->Bool} (h:Dh x P=true) (k: ∀a,P a=true->M (.ref a)):M x:=by obtain ⟨e,h⟩:=bF h;exact X0 (motive:=λx=> ∀e:x.ctorIdx=10,X0 (motive:=λz=>Bool) x e (λa=>P a)=true->M x) x e (λa z h=>k a h) e h
noncomputable def Ig (x:Te) (P:Str->Bool):Bool:=kL (n:=x.ctorIdx) (m:=6) λh=>XZ (motive:=λz=>Bool) x h λs z=>P s
theorem HO {x:Te} {M:Te->Prop} {P:Str->Bool} (h:Ig x P=true) (k: ∀s t,P s=true->M (.str s t)):M x:=by obtain ⟨e,h⟩:=bF h;exact XZ (motive:=λx=> ∀e:x.ctorIdx=6,XZ (motive:=λz=>Bool) x e (λs z=>P s)=true->M x) x e (λs t z h=>k s t h) e h
noncomputable def EC (x:Te) (P:String->Bool):Bool:=kL (n:=x.ctorIdx) (m:=8) λh=>XE (motive:=λz=>Bool) x h λn=>P n
theorem Fv {x:Te} {M:Te->Prop} {P:String->Bool} (h:EC x P=true) (k: ∀n,P n=true->M (.type n)):M x:=by obtain ⟨e,h⟩:=bF h;exact XE (motive:=λx=> ∀e:x.ctorIdx=8,XE (motive:=λz=>Bool) x e (λn=>P n)=true->M x) x e (λn z h=>k n h) e h
noncomputable def ur (x:Te) (P:String->Bool):Bool:=kL (n:=x.ctorIdx) (m:=9) λh=>WM (motive:=λz=>Bool) x h λn=>P n
theorem xR {x:Te} {M:Te->Prop} {P:String->Bool} (h:ur x P=true) (k: ∀n,P n=true->M (.builtin n)):M x:=by obtain ⟨e,h⟩:=bF h;exact WM (motive:=λx=> ∀e:x.ctorIdx=9,WM (motive:=λz=>Bool) x e (λn=>P n)=true->M x) x e (λn z h=>k n h) e h
noncomputable def HZ (x:Data) (P:Xi->Bool):Bool:=kL (n:=x.ctorIdx) (m:=7) λh=>X9 (motive:=λz=>Bool) x h λf=>P f
theorem J3 {x:Data} {M:Data->Prop} {P:Xi->Bool} (h:HZ x P=true) (k: ∀f,P f=true->M (.func f)):M x:=by obtain ⟨e,h⟩:=bF h;exact X9 (motive:=λx=> ∀e:x.ctorIdx=7,X9 (motive:=λz=>Bool) x e (λf=>P f)=true->M x) x e (λf z h=>k f h) e h
noncomputable def Bq (x:Data) (P:Array Te->Bool):Bool:=kL (n:=x.ctorIdx) (m:=9) λh=>Xr (motive:=λz=>Bool) x h λvs=>P vs
theorem CV {x:Data} {M:Data->Prop} {P:Array Te->Bool} (h:Bq x P=true) (k: ∀vs,P vs=true->M (.fields vs)):M x:=by obtain ⟨e,h⟩:=bF h;exact Xr (motive:=λx=> ∀e:x.ctorIdx=9,Xr (motive:=λz=>Bool) x e (λvs=>P vs)=true->M x) x e (λvs z h=>k vs h) e h
noncomputable def DQ (x:YZ) (P:List VV->Bool):Bool:=kL (n:=x.ctorIdx) (m:=0) λh=>WD (motive:=λz=>Bool) x h λb=>P b
theorem FZ {x:YZ} {M:YZ->Prop} {P:List VV->Bool} (h:DQ x P=true) (k: ∀b,P b=true->M (.stmts b)):M x:=by obtain ⟨e,h⟩:=bF h;exact WD (motive:=λx=> ∀e:x.ctorIdx=0,WD (motive:=λz=>Bool) x e (λb=>P b)=true->M x) x e (λb z h=>k b h) e h
theorem CW {α:Type} {o:Option α} {f:α->Bool} {G:Prop} (h:o.any f=true) (k: ∀a,o=some a->f a=true->G):G:=gX (M:=λz=>o=z->G) h (λa h e=>k a e h) rfl
noncomputable def ET (o:Option (Option Te)) (a:Um):Bool:=o.any λo=>o.any λv=>Dh v λb=>b==a
theorem uC {o:Option (Option Te)} {a:Um} (h:ET o a=true):o=some (some (.ref a)):=gX (M:=λo=>o=some (some (.ref a))) h λo h=>gX (M:=λo=>some o=some (some (.ref a))) h λv h=>AW (M:=λv=>some (some v)=some (some (.ref a))) h λb h=>eqB (M:=λb=>some (some (Yl b))=some (some (Yl a))) h rfl
noncomputable def Ky (K:abn):Bool:=zA.all λC=>zy.all λf=> !uD C f||(Jc K (iQ C) (qd f)&&setB K (iQ C) (qd f))
noncomputable def Ju (K:abn):Bool:=zA.all λC=>HB.all λm=>match kM C m with
 |some f=>plainGet K (iQ C) (A6 m)&&ET (findIn K (.ref (iQ C)) (A6 m)) (gS f)&&isFn K (.ref (gS f))
 |none=>true
noncomputable def Km (K:abn):Bool:=zA.all λC=>match jS C with
 |some f=>makesIn K (iQ C)&&ET (findIn K (.ref (iQ C)) "__init__") (gS f)&&(typeIn K (.ref (gS f))).any λv=>EC v λn=>n=="function"
 |none=>true
noncomputable def GX (K:abn):Bool:=(Ep.all λf=>keepIn K (.ref (gS f)))&&zA.all λC=>keepIn K (.ref (iQ C))
noncomputable def Hi (K:abn):Bool:=makesIn K (iQ (.of 1))&&(findIn K (.ref (iQ (.of 1))) "__init__").any λo=>o.any λv=>ur v λn=>n=="object.__init__"
theorem Rj: ∀f g,qd f=qd g->f=g:=by
 have h:(zy.all λf=>zy.all λg=>f==g|| !(qd f==qd g))=true:=by decide+kernel
 intro f g e;have:=Tc.mp (Tc.mp h f (jB f)) g (jB g);rw [e,beq_self_eq_true] at this;simpa using this
theorem abb: ∀g m,qd g=A6 m->g=(.of 7)/\m=(.of 10):=by
 have h:(zy.all λf=>HB.all λg=>(f==(.of 7)&&g==(.of 10))|| !(qd f==A6 g))=true:=by decide+kernel
 intro f g e;have:=Tc.mp (Tc.mp h f (jB f)) g (wW g);rw [e,beq_self_eq_true] at this;simpa using this
theorem abA {K:abn} {p:Xz} {w:YO} {B:Vr} (wJ:K.In B) (ns: ∃mg,B.Ns UC mg) (bi: ∃mb,B.Ns V5 mb/\ ∀x:Str,x≠"__name__"->mb x=Xx x) (nl:B.NoLimit) (sm:(B.get? sysModules).isSome=true) (h1:Ky K=true) (h2:Ju K=true) (h3:Km K=true) (h4:GX K=true) (h5:Hi K=true):Wf (jU K p w) B where
 wJ:=wJ
 ns:=ns
 bi:=bi
 nolimit:=nl
 JN:=sm
 aY:=Rj
 fm:=abb
 HC f:=Tc.mp (Su.mp h4).1 f (wM f)
 Oz f:=Tc.mp (Su.mp h4).2 f (jA f)
 attr C f e:=by have:=Tc.mp (Tc.mp h1 C (jA C)) f (jB f);rw [e] at this;exact (Su.mp this).1
 set C f e:=by have:=Tc.mp (Tc.mp h1 C (jA C)) f (jB f);rw [e] at this;exact (Su.mp this).2
 iA C m f e:=by have:=Tc.mp (Tc.mp h2 C (jA C)) m (wW m);rw [e] at this;refine dD (Su.mp this) λa b=> ?_;obtain ⟨a,c⟩:=Su.mp a;exact ⟨a,uC c,b⟩
 own C f e:=by have:=Tc.mp h3 C (jA C);rw [e] at this;obtain ⟨a,b⟩:=Su.mp this;obtain ⟨a,c⟩:=Su.mp a;exact ⟨a,uC c,gX (M:=λo=>o=some (VK "function")) b λv h=>Fv (M:=λv=>some v=some (VK "function")) h λn h=>eqB (M:=λn=>some (.type n)=some (VK "function")) h rfl⟩
 tN:=di h5 λa b=>⟨a,gX (M:=λo=>o=some (some (V8 "object.__init__"))) b λo h=>gX (M:=λo=>some o=some (some (V8 "object.__init__"))) h λv h=>xR (M:=λv=>some (some v)=some (some (V8 "object.__init__"))) h λn h=>eqB (M:=λn=>some (some (.builtin n))=some (some (V8 "object.__init__"))) h rfl⟩
noncomputable def RT (K:abn):Bool:=excIn K (iQ (.of 16)) [.type "Exception",.type "BaseException",.type "object"] "Exception.__new__"
theorem Ry {K:abn} {p:Xz} {w:YO} (h:RT K=true):wU (jU K p w):=⟨_,_,_,_,PySem.F.excBase_Exception,by decide+kernel,h⟩
noncomputable def CI [DecidableEq Str] (fd:Xi) (ps:List Str):Bool:=fd.params.posonlyargs.isEmpty&&(fd.params.args.map (·.arg)==ps)&&fd.params.vararg.isNone&&fd.params.kwonlyargs.isEmpty&&fd.params.kwarg.isNone&&(fd.defaults.ctorIdx==0)
theorem BR {β:Type}: ∀{ps:List Str} {vs:List β} {x:Str},vs.length=ps.length->x∈ps->((ps.zip vs).lookup x).isSome=true:=by
 intro l_;induction l_ with
 |cons p ps aG=>
  intro m_;cases m_ with
  |cons v vs=>
   exact @λx e h=>by
    rw [XH,T9];by_cases q:x=p;·simp [q]
    ·have:(x==p)=false:=beq_eq_false_iff_ne.mpr q;exact (this).symm▸(aG (by simpa using e) ((Tn.mp h).resolve_left q))
  |nil=>exact @λz e z=>by simp at e
 |nil=>exact @λz z z h=>by cases h
theorem Fx {β:Type}: ∀{ps:List Str} {vs:List β},vs.length=ps.length->ps.Nodup->(ps.filterMap λn=>((ps.zip vs).lookup n).map (n,·))=ps.zip vs:=by
 intro l_;induction l_ with
 |nil=>
  intro m_;cases m_ with
  |nil=>exact @λz z=>rfl
  |cons _ _=>exact @λe z=>by simp at e
 |cons p ps aG=>
  intro m_;cases m_ with
  |cons v vs=>
   exact @λe nd=>by
    have K4:=Uj.mp nd;refine (XH).symm▸ ?_;rw [Wj,T9,beq_self_eq_true];simp only [Yd];congr 1;have go: ∀l:List Str,(∀x∈l,x∈ps)->(l.filterMap λn=>(((p,v)::ps.zip vs).lookup n).map (n,·))=l.filterMap λn=>((ps.zip vs).lookup n).map (n,·):=by
     intro l;induction l with
     |nil=>intro _;rfl
     |cons x l ihl=>intro hl;rw [Wj,Wj,ihl λy hy=>hl y (.tail _ hy)];have:(x==p)=false:=beq_eq_false_iff_ne.mpr λq=>K4.1 (q▸hl x (.head _));rw [T9,this]
    exact (go ps λx hx=>hx).symm▸((aG (by simpa using e) K4.2))
  |nil=>exact @λe z=>by simp at e
theorem OI {α:Type _} {c:Bool} {a b d:α} (h:c=false) (k:b=d):(if c=true then a else b)=d:=by cases h;exact k
theorem LW {α β Y ρ:Type} {l:List α} {d:List β} {s:Y} {f:α×β->Y->Sem (ForInStep Y)} {k:Y->Sem ρ} {r:Sem ρ} (e:d=[]) (h:k s=r):(forIn (l.zip d) s f>>=k)=r:=by subst e;rw [ZF];exact h
theorem bind1 {n q ar kd ds b s g c Lw d pm an co ct bu} {vals:List Te} (nd:(ar.map (·.arg)).Nodup) (len:vals.length=(ar.map (·.arg)).length):bindArgs ⟨n,q,⟨[],ar,none,[],kd,none,ds⟩,b,s,g,c,.none,Lw,d,pm,an,co,ct,bu⟩ ⟨vals,[]⟩=pure ((ar.map (·.arg)).zip vals):=by
 have g1:(decide (vals.length>(ar.map (·.arg)).length)&&true)=false:=by rw [len];simp
 refine (?_:(if (decide (vals.length>(ar.map (·.arg)).length)&&true)=true then _ else _)=_);refine OI g1 (OI (congrArg (λl=> !List.isEmpty l) (a₂:=[]) (Y8.mpr λx hx z=> ?_)) ?_);·have h:=BR len (V9 hx);exact absurd ((congrArg WB (Yu.mp z)).symm.trans h) (λz=>Uu z)
 ·exact LW List.drop_nil (congrArg (pure (f:=Sem)) ((congrArg _ (Ti _)).trans (Fx len nd)))
theorem FL {M:Xi->Prop} {fd:Xi} {ps:List Str} (h:CI fd ps=true) (k: ∀n q ar kd ds b s g c Lw d pm an co ct bu,ar.map (·.arg)=ps->M ⟨n,q,⟨[],ar,none,[],kd,none,ds⟩,b,s,g,c,.none,Lw,d,pm,an,co,ct,bu⟩):M fd:=match fd,h with
 |⟨n,q,⟨po,ar,va,ko,kd,kw,ds⟩,b,s,g,c,df,Lw,d,pm,an,co,ct,bu⟩,h=>di h λh h6=>F6 h λh1 h2 h3 h4 h5=>bV (M:=λpo=>M ⟨n,q,⟨po,ar,va,ko,kd,kw,ds⟩,b,s,g,c,df,Lw,d,pm,an,co,ct,bu⟩) h1<|none_inv (M:=λva=>M ⟨n,q,⟨[],ar,va,ko,kd,kw,ds⟩,b,s,g,c,df,Lw,d,pm,an,co,ct,bu⟩) h3<|bV (M:=λko=>M ⟨n,q,⟨[],ar,none,ko,kd,kw,ds⟩,b,s,g,c,df,Lw,d,pm,an,co,ct,bu⟩) h4<|none_inv (M:=λkw=>M ⟨n,q,⟨[],ar,none,[],kd,kw,ds⟩,b,s,g,c,df,Lw,d,pm,an,co,ct,bu⟩) h5<|Value.none.elim (motive:=λdf=>M ⟨n,q,⟨[],ar,none,[],kd,none,ds⟩,b,s,g,c,df,Lw,d,pm,an,co,ct,bu⟩) df (beq_iff_eq.mp h6) (k n q ar kd ds b s g c Lw d pm an co ct bu (beq_iff_eq.mp h2))
theorem B8 {fd:Xi} {ps:List Str} {vals:List Te} (h:CI fd ps=true) (nd:ps.Nodup) (len:vals.length=ps.length):bindArgs fd ⟨vals,[]⟩=pure (ps.zip vals):=FL (M:=λfd=>bindArgs fd ⟨vals,[]⟩=pure (ps.zip vals)) h λz z z z z z z z z z z z z z z z e=>by clear h;subst e;exact bind1 nd len
noncomputable def codeB [DecidableEq Str] (K:abn) (fd:Xi):Bool:=Dh fd.code λc=>(K.lookup c).any λo=>Bq o.data λvs=>(vs[1]?).any λv=>Ig v λq=>q==fd.qualname
theorem MU {K:abn} {B:Vr} {fd:Xi} (ι:K.In B) (h:codeB K fd=true):B.CodeRec fd.code fd.qualname:=AW (M:=λv=>B.CodeRec v fd.qualname) h λc h=>CW h λo ho h=>CV (M:=λd=>o.data=d->B.CodeRec (.ref c) fd.qualname) h (λvs h hv=>CW h λv h1 h=>HO (M:=λv=>vs[1]? =some v->B.CodeRec (.ref c) fd.qualname) h (λq t h h1=>⟨c,o,vs,t,rfl,ι _ _ ho,hv,h1.trans (eqB (M:=λq=>some (Value.str q t)=some (.str fd.qualname t)) h rfl)⟩) h1) rfl
noncomputable def fnB [DecidableEq Str] (T:eS) (f:Fn):Bool:=(T.K.lookup (T.fn f)).any λo=>HZ o.data λfd=>DQ fd.body λbody=>(!fd.scope.isCoroutine&& !fd.scope.isGenerator&&fd.scope.kind== .function&&fd.globals==UC&&fd.builtins==V5)&&(fd.closure.isEmpty&&codeB T.K fd&&CI fd ((fnNames f).take (b8 f).1)&&((fnNames f).take (b8 f).1).all (λx=>fd.scope.names.lookup x==some .local||fd.scope.names.lookup x==some .cell))&&(decide (fnNames f).Nodup&&(fnNames f).length==(b8 f).2&&Nat.ble (b8 f).1 (b8 f).2&&jr ⟨T,fnNames f,fd.scope.names,λz=>true,none⟩ (nk f) body)
theorem abX {T:eS} {B:Vr} {f:Fn} (ι:T.K.In B) (h:fnB T f=true): ∃o fd body,MY T B f o fd body (fnNames f):=CW h λo ho h=>J3 (M:=λd=>o.data=d-> ∃o fd body,MY T B f o fd body (fnNames f)) h (λfd h hfd=>FZ (M:=λb=>fd.body=b-> ∃o fd body,MY T B f o fd body (fnNames f)) h (λbody h hb=>qf h λh h' h''=>F6 h λc1 c2 c3 c4 c5=>lZ h' λc6 c7 c8 c9=>lZ h'' λRN c11 c12 c13=>have RN:=of_decide_eq_true RN;have tl:((fnNames f).take (b8 f).1).length=(b8 f).1:=UM.trans (Vs ((beq_iff_eq.mp c11).symm▸Nat.ble_eq.mp c12));⟨o,fd,body,ι _ _ ho,hfd,hb,(Vv _).mp c1,(Vv _).mp c2,beq_iff_eq.mp c3,beq_iff_eq.mp c4,beq_iff_eq.mp c5,Yh.mp c6,MU ι c7,λvals e=>B8 c8 (RN.sublist (U5 _ _)) (e.trans tl.symm),λx hx=>(Wm.mp (Tc.mp c9 x hx)).imp beq_iff_eq.mp beq_iff_eq.mp,RN,beq_iff_eq.mp c11,Nat.ble_eq.mp c12,c13⟩) rfl) rfl
noncomputable def RX (T:eS):Bool:=Ep.all λf=>fnB T f
theorem JL {T:eS} {B:Vr} (ι:T.K.In B) (h:RX T=true):DO T B:=λf=>by exact IJ (abX ι (Tc.mp h f (wM f))) λo fd body r=>ad4 o fd body _ r
section
theorem AK (t:Thread):through t=(endAt 0 t).isSome:=by
 obtain ⟨cur,code,pos,st⟩:=t;cases st with
 |nil=>
  cases cur with
  |pure x=>cases x<;>rfl
  |_=>rfl
 |cons a b=>rfl
theorem Ll: ∀{n:Nat} {s s':Tz} {t:Thread} {f:Flow} {c:Code} {q:Pos},segRun tb p w n₀ ann 0 n s t=some (f,s',c,q)->topRun tb p w n₀ ann n s t=some s':=by
 intro l_;induction l_ with
 |zero=>exact @λz z z z z z h=>by cases h
 |succ n aG=>
  exact @λs s' t f c q h=>by
   unfold segRun at h;unfold topRun;rw [AK];cases he:endAt 0 t with
   |some g=>rw [he] at h;simp only [Xd,Yy] at h;obtain ⟨_,rfl,_⟩:=h;rfl
   |none=>
    rw [he] at h;dsimp only [Option.isSome_none] at h⊢;cases hk:stepOk n₀ ann t with
    |false=>replace h:=(hk)▸h;cases h
    |true=>
     replace h:=(hk)▸h;dsimp only at h⊢;cases hs:step (denote tb) p w s t with
     |halt o s₂=>replace h:=(hs)▸h;cases h
     |go s₂ t₂=>replace h:=(hs)▸h;exact aG h
end
theorem Cc:Ord ⟨.builtin "claim.caller" {},none,none,[],none⟩:=by refine ⟨by decide+kernel,λx hx=>by cases hx⟩
theorem QZ {R:Z1->Tz->Prop} (hreg:s.asleep) (h:dH (model prog w) callerA t (λfin s'=> ∃f,fin=.done f/\(R (.ok f) s'/\leftWithCleanup s'.gens=false)) (λe s'=>R (.error e) s'/\leftWithCleanup s'.gens=false) s): ∃n r s' s'',schedN (denote table) prog w n (.single s ⟨t,.builtin "claim.caller" {},default,[]⟩)=.halted (outcomeOf r) s'/\s'.forget=s''.forget/\R r s''/\s'.heap.life=s.heap.life:=by refine vC (wp_halts_full (M:=model prog w) (R:=R) hreg (Xy (model prog w) _ t (λfin p' s' h'=>by refine ay h' λf Lg hf=> ?_;clear h';subst Lg;exact hf) (λz z z h'=>h') default s (h _ default caller_in Cc))) λn r s₁ s₂ hs hn hfo hR=> ?_;exact AU n r s₂ s₁ hs hfo hR (runN_life _ _ _ hn)
theorem Mr: ∀{ds:List WData} {vs:List Te} {as:List Um},ReadsAllW [] cl h vs ds as->WShape.hasItems [] ds .int=true-> ∃l:List Int,aB T F X H h (l.map .int) vs/\l.length=ds.length:=by
 intro l_;induction l_ with
 |nil=>exact @λvs z r z=>by cases r;exact aH ([]) trivial rfl
 |cons d ds aG=>
  exact @λvs z r e=>by
   obtain ⟨e1,e2⟩:=Su.mp e;clear e;obtain ⟨i,rfl⟩:=hasW_int e1;refine aQ λcT k_1=> ?_;cases r with
   |cons r1 r2=>refine ay (aG r2 e2) λl h1 h2=>ay (readsW_int_inv r1) λt IE z=> ?_;clear r1;subst IE;exact k_1 (aH (i::l) ⟨⟨t,rfl⟩,h1⟩ (by simp [h2]))
end Mine
namespace Mine
open PySem PySem.W PyProof.Rows
set_option maxHeartbeats 0
noncomputable abbrev pT:Xz:=PySem.Challenge.pw_xm0829_01
theorem EH:PySem.Challenge.pw_xm0829_01=pT:=rfl
noncomputable def xT (P:Params):BT:=.node (boot_o_0 P) (.node (boot_o_1 P) (.node (boot_o_3 P) (.node (boot_o_7 P) .nil .nil) .nil) (.node (boot_o_5 P) (.node (boot_o_9 P) .nil .nil) .nil)) (.node (boot_o_2 P) (.node (boot_o_4 P) (.node (boot_o_8 P) .nil .nil) .nil) (.node (boot_o_6 P) (.node (boot_o_10 P) .nil .nil) .nil))
theorem zw (P:Params):absHeap (xT P) 11 {}=boot_heap P:=by kernel_rfl
noncomputable abbrev Za0:=Option (Flow×SharedT×Code×Pos)
noncomputable def Zb1 (i:SharedT→Thread→Za0) (x:Option (SharedT×Thread)):Za0:=match x with
 |some (s,t)=>i s t
 |none=>none
noncomputable def Za1 (w:YO) (i:SharedT→Thread→Za0) (s:SharedT) (t:Thread):Za0:=Zb1 i (Fast.tw10156331382660048174 (Fast.tw11892475500146522536 Fast.tw14364793385576792824) pT w s t)
noncomputable def Za2 (w:YO) (i:SharedT→Thread→Za0) (s:SharedT) (t:Thread):Za0:=match endAt 0 t with
 |some f=>some (f,s,t.code,t.pos)
 |none=>match Fast.tw6613529449190102663 11 (some (.ref 6)) t with
  |false=>none
  |true=>Za1 w i s t
noncomputable def Zb2 (s:SharedT) (a:Nat) (k:Obj→Thread):Option (SharedT×Thread):=@SharedT.casesOn (λz=>Option (SharedT×Thread)) s λT n z z z z z=>match Nat.blt a n with
 |true=>match T.get a with
  |some o=>match alive o with
   |some o=>some (s,k o)
   |none=>none
  |none=>none
 |false=>none
noncomputable def Zb3 (g f:Za0) (i:SharedT→Thread→Za0) (s:SharedT) (c:Code) (q:Pos) (r:List Frame) (x:Sem PySem.Fin):Za0:=@Sem.casesOn PySem.Fin (λz=>Za0) x (λz=>g) (λz=>g) (λz=>g) (λz=>g) (λz k=>i s ⟨k (),c,q,r⟩) (λq k=>i s ⟨k (),c,q,r⟩) (λa z k=>Zb1 i (Zb2 s a λo=>⟨k o,c,q,r⟩)) (λz z z z=>g) (λz z=>f) (λz z=>f) (λz k=>i s ⟨k (),c,q,r⟩) (λz z=>g) (λz=>f) (λz=>f) (λz z z=>g) (λz z z=>g) (λz z z z z=>f) (λz z=>f) (λz z=>g) (λz z=>g) (λz z z z=>g) (λz z z z=>g) (λz=>f) (λz z=>g) (λz=>g) (λz z z z z=>g)
noncomputable def Za3 (w:YO) (n:Nat):SharedT→Thread→Za0:=@Nat.rec (λz=>SharedT→Thread→Za0) (λz z=>none) (λz i s t=>@Thread.casesOn (λz=>Za0) t λx c q r=>Zb3 (Za2 w i s t) (Za1 w i s t) i s c q r x) n
theorem Za4 {w:YO}: ∀{n},Za3 w n=Fast.tw10110043849684766642 Fast.tw14364793385576792824 pT w 11 (some (.ref 6)) 0 n
 |0=>rfl
 |n+1=>by
  funext s ⟨x,c,q,r⟩;show Zb3 (Za2 w (Za3 w n) s ⟨x,c,q,r⟩) (Za1 w (Za3 w n) s ⟨x,c,q,r⟩) (Za3 w n) s c q r x=Za2 w (Fast.tw10110043849684766642 Fast.tw14364793385576792824 pT w 11 (some (.ref 6)) 0 n) s ⟨x,c,q,r⟩;rw [Za4];cases s;cases x<;>first|rfl|cases r<;>rfl
noncomputable def EP (w:YO) (os:aaB):Za0:=Za3 w 10000 ⟨xT w.params,11,{},#[],boot_drawn,boot_toks,os⟩ (topStub pT)
noncomputable def Pd (s:SharedT):Bool:=KP s.n (mP s.tree dZ)&&Ky (mP s.tree dZ)&&Ju (mP s.tree dZ)&&Km (mP s.tree dZ)&&GX (mP s.tree dZ)&&Hi (mP s.tree dZ)&&RT (mP s.tree dZ)
noncomputable def Se (p:Xz) (w:YO) (s:Tz):Bool:=staticsOk (importedModules p.main.body) (boot_heap w.params) s.heap&&namesBound p s.heap&&gensDone s&&laidKept (boot_heap w.params) s.heap&&s.heap.accountedOkI (importedModules p.main.body)&&s.heap.isNs UC&&s.heap.isNs V5&&s.heap.bmainOk&&s.heap.noLimitOk&&s.gens.size==0&&(s.heap.get? sysModules).isSome&&ET (some (s.heap.nsMap UC "law")) (gS (.of 36))
noncomputable def Eu (t:BT):Option ((Str×Str×Um×List (Str×Um)×Um×Te×Te)×Arguments×YZ×Y0):=match t.get (gS (.of 36)) with
 |some o=>(match o.data with
  | .func fd=>some ((fd.name,fd.qualname,fd.globals,fd.closure,fd.builtins,fd.defaults,fd.kwdefaults),fd.params,fd.body,fd.scope)
  |_=>none)
 |none=>none
noncomputable def mE (p:Xz):Option ((Str×Str×Um×List (Str×Um)×Um×Te×Te)×Arguments×YZ×Y0):=(p.theDef "law").map λx=>(("law","law",mainNs,[],V5,.none,.none),x.1,.stmts x.2.1,x.2.2)
noncomputable def Zz1 [DecidableEq Str] (w:YO) (s:SharedT) (f:Fn):=fnB (jU (mP s.tree dZ) pT w) f
noncomputable def yj (w:YO) (s:SharedT):Bool:=Pd s&&Ep.all (Zz1 w s)&&Se pT w s.abs
noncomputable def Hq {α:Type _} (d:α) (F:SharedT→α) (r:Za0):α:=match r with
 |some r=>F r.2.1
 |none=>d
theorem Q2: ∀w os,Hq (false,(none,[]),none) (λs=>(Pd s,s.abs.heap.bltView,Eu s.tree)) (EP w os)=(true,bltViewBooted,mE pT):=λw os=>by kernel_rfl
theorem Zz2: ∀w os,Hq (false,false) (λs=>(Se pT w s.abs,(Ep.take 12).all (@Zz1 Fast.sDec w s))) (EP w os)=(true,true):=λw os=>by kernel_rfl
theorem Zz3: ∀w os,Hq false (λs=>((Ep.drop 12).take 42).all (@Zz1 Fast.sDec w s)) (EP w os)=true:=λw os=>by kernel_rfl
theorem Zz4: ∀w os,Hq false (λs=>((Ep.drop 12).drop 42).all (@Zz1 Fast.sDec w s)) (EP w os)=true:=λw os=>by kernel_rfl
theorem K0 {w:YO} {os:aaB}: ∃x s c q,EP w os=some (x,s,c,q)/\yj w s=true/\s.abs.heap.bltView=bltViewBooted/\Eu s.tree=mE pT:=by
 have a:=Q2 w os;have b:=Zz2 w os;have c:=Zz3 w os;have d:=Zz4 w os;rw [<-Fast.sDec_eq] at b c d;revert a b c d
 cases EP w os with
 |none=>exact λa=>gV (congrArg (·.1) a)
 |some r=>exact λa b c d=>⟨r.1,r.2.1,r.2.2.1,r.2.2.2,rfl,Su.mpr ⟨Su.mpr ⟨congrArg (·.1) a,by rw [<-VU 12 Ep,List.all_append,<-VU 42 (Ep.drop 12),List.all_append];exact Su.mpr ⟨congrArg (·.2) b,Su.mpr ⟨c,d⟩⟩⟩,congrArg (·.1) b⟩,congrArg (·.2.1) a,congrArg (·.2.2) a⟩
theorem zk:(mE pT).isSome=true:=by kernel_rfl
end Mine
namespace Mine
open PySem PySem.W PyProof.Rows
set_option maxHeartbeats 0
noncomputable abbrev L0:OpenLaw:=PySem.Challenge.rw_xm0829_01
theorem Za5:namesResolve L0.prog=true:=by rw [Fast.te8377067652309620493];kernel_rfl
theorem Za6:(["vars","dir","locals"]:List Str).filter (readsOut L0.prog L0.prog.main.body)=[]:=by rw [Fast.te13343964577679436407];kernel_rfl
theorem Za7:noRoadLSs {strict:= !(importedModules L0.prog.main.body).all cThrough.contains,foot:=none,bare:=[]} L0.prog.main.body=true:=by rw [Fast.te8326940854005059898];kernel_rfl
theorem Za8:(namesMeet L0.prog L0.prog.main.body λz n=>attrL n)=true:=by rw [Wl,Fast.te17868728402115742887];kernel_rfl
theorem R8:L0.row.wellSaid=true:=by delta OpenRow.wellSaid OpenRow.partSaid looksOpen;rw [show L0.row.prog=L0.prog from rfl,Za5,Za6,Za7,Za8];kernel_rfl
theorem abg:noClassBlock L0.prog L0.footing=true:=by rw [Fast.te8179353310426384613];kernel_rfl
theorem aa2:noRoadLSs {strict:=true,foot:=some L0.bound',writes:=L0.writes,may:=L0.may} L0.footing=true:=by rw [YK,Fast.te8326940854005059898,Fast.te9572597257264208301];kernel_rfl
theorem abR:defStands L0.about L0.above=true:=by rw [Fast.te9558739934217749035];kernel_rfl
theorem aaA:L0.namesIt=true:=by rw [Fast.te16286561074155671207];kernel_rfl
theorem abW:decide (L0.foot<=(behindTheImports L0.prog).length)=true:=by kernel_rfl
theorem abY:(L0.footing.all footLine)=true:=by kernel_rfl
theorem aa5:(L0.most.all (λn=>decide (63<=n))&&L0.bound.all (λn=>decide (2^63<=n)))=true:=by kernel_rfl
theorem aby:((["type","isinstance","issubclass","getattr","hasattr"]:List Str).all (λn=>L0.about != [n]))=true:=by kernel_rfl
theorem PA:L0.bound'.all (λn=> !builtinNamed n||L0.about==[n]|| !L0.reads n)=true:=by simp only [Fast.named_eq,Fast.te6984425678791042302,YK];kernel_rfl
theorem Qy:(!L0.writes||(L0.prog.main.body.flatMap importedNames).all λn=> !L0.reads n)=true:=by kernel_rfl
theorem Qt:(L0.prog.main.body.flatMap importedNames).all (λn=> !L0.reads n||(drawsOf n L0.prog.main.body).all λmn=>mn.2 != ("attrgetter":Str)&&mn.2 != ("methodcaller":Str))=true:=by kernel_rfl
theorem Q7:(namesMeet L0.prog L0.footing (λsc n=>(!(["type","isinstance","issubclass","getattr","hasattr"]:List Str).contains n||sc.names.lookup n==some .globalImplicit)&&(L0.may != some n||sc.kind== .module||sc.names.lookup n==some .globalImplicit)))=true:=by rw [Wl];kernel_rfl
theorem P6:(L0.own.contains L0.name&&L0.own.eraseDups.length==L0.own.length&&L0.own.all (λn=> !builtinNamed n))=true:=by kernel_rfl
theorem Rb:namesMeet L0.prog L0.above (λz n=> !L0.own.contains n)=true:=by rw [Wl,Fast.te10792542408131684335];kernel_rfl
theorem QJ:namesMeet L0.prog L0.footing (λsc n=>sc.kind== .module||sc.names.lookup n != some .globalExplicit)=true:=by rw [Wl];kernel_rfl
theorem said:L0.wellSaid=true:=by unfold OpenLaw.wellSaid;obtain ⟨a4,a5⟩:=Su.mp aa5;obtain ⟨a14,a16⟩:=Su.mp P6;obtain ⟨a14,a15⟩:=Su.mp a14;rw [R8,abW,abY,abg,a4,a5,aa2,abR,aaA,aby,PA,Qy,Qt,Q7,a14,a15,a16,Rb,QJ];rfl
end Mine
namespace Mine
open PySem PySem.W PyProof.Rows
set_option maxHeartbeats 0
noncomputable abbrev pw:Xz:=PySem.Challenge.pw_xm0829_01
abbrev row:OpenRow:=PySem.Challenge.rw_xm0829_01.row
structure O7 (w:YO) (os:aaB) (s:Tz):Prop where
 ran:TopRan pw w ⟨boot_heap w.params,#[],boot_drawn,boot_toks,os⟩ s
 gens:s.gens= #[]
 asleep:s.asleep
 main:s.heap.isNs UC=true
 law:s.heap.nsMap UC "law"=some (.ref (gS (.of 36)))
 defs:isTheDefsW pw s.heap "law"
 tabs: ∃K,Wf (jU K pw w) s.heap/\DO (jU K pw w) s.heap/\wU (jU K pw w)
theorem J7:(match pT.theDef "law" with
 |some (a,_,_)=>a.defaults.isEmpty&&a.kwonlyargs.isEmpty&&a.kw_defaults.isEmpty
 |none=>false)=true:=by kernel_rfl
set_option tactic.hygienic true in theorem LR (w:YO) (os:aaB): ∃s,O7 w os s:=by
 obtain ⟨x,s,c,q,e,hT,hV,hL⟩:=K0 (w:=w) (os:=os);obtain ⟨hA,hT⟩:=Su.mp hT;obtain ⟨hA,hF⟩:=Su.mp hA;have r0:segRunT treeTable pw w 11 (some (.ref 6)) 0 10000 ⟨xT w.params,11,{},#[],boot_drawn,boot_toks,os⟩ (topStub pw)=some (x,s,c,q):=by rw [PySem.W.Fast.te10110043849684766642,PySem.W.Fast.te14364793385576792824,show pw=pT from EH,<-Za4];exact e
 have r1:=Ll (segRun_of r0);rw [<-table_eq_tree] at r1;have h0:aaz ⟨xT w.params,11,{},#[],boot_drawn,boot_toks,os⟩=⟨boot_heap w.params,#[],boot_drawn,boot_toks,os⟩:=by unfold aaz;rw [zw]
 rw [h0] at r1;refine ⟨s.abs,?_⟩;unfold Se at hT;simp only [U3] at hT;obtain ⟨⟨⟨⟨⟨⟨⟨⟨⟨⟨⟨t1,t2⟩,t3⟩,t4⟩,t5⟩,t6⟩,t7⟩,t8⟩,t9⟩,t10⟩,t11⟩,t12⟩:=hT;rw [<-EH] at t1 t2 t5;have z:(⟨boot_heap w.params,#[],boot_drawn,boot_toks,os⟩:Tz).asleep:=⟨rfl,rfl⟩;obtain ⟨a,l,o,fr⟩:=topRun_spec _ _ _ _ z r1;have bi: ∀y:Str,y≠"__name__"->s.abs.heap.nsMap V5 y=Xx y:=λy hy=>Heap.of_bltView t7 hV y hy;have hg:s.abs.gens= #[]:=Array.eq_empty_of_size_eq_zero (beq_iff_eq.mp t10);have aay:s.abs.heap.nsMap UC "law"=some (.ref (gS (.of 36))):=Sm (uC t12);unfold Pd at hA;simp only [U3] at hA;obtain ⟨⟨⟨⟨⟨⟨k0,k1⟩,k2⟩,k3⟩,k4⟩,k5⟩,k6⟩:=hA;have wJ:(mP s.tree dZ).In s.abs.heap:=Of k0;have fns:RX (jU (mP s.tree dZ) pw w)=true:=hF;have ann: ∀b,(some (Yl 6):Option Te)=some (.ref b)->globalOf (boot_heap w.params) "__annotations__"=some (.ref b):=λb hb=>by
  have e1:(boot_heap w.params).isNs UC=true:=by kernel_rfl
  rw [Yz e1,<-hb];kernel_rfl
 have sz:(boot_heap w.params).objs.size=11:=by kernel_rfl
 refine ⟨⟨a,l,Z0 o,λb o hb hn=> ?_,?_,?_,?_,?_,?_,?_,?_,?_⟩,hg,YU l z,t6,aay,?_,_,abA wJ ⟨_,.of_isNs t6⟩ ⟨_,.of_isNs t7,bi⟩ (.of_ok t9) t11 k1 k2 k3 k4 k5,JL wJ fns,Ry k6⟩;·have lt:=Ur hb;refine fr b o (sz▸lt) (λq=>hn (.inl q)) (λq=>hn (.inr (.inl q))) (λq=>hn (.inr (.inr (ann b q)))) hb
 ·exact Heap.accountedI_of_ok t5
 ·exact statics_of_ok t1
 ·exact Pin.keysAreStrs_of t6
 ·exact λy hy=>(Pin.builtinOf_eq t7 y).trans (bi y hy)
 ·obtain ⟨bm,ob,b1,_,b3,b4,b5,_⟩:=Heap.bmainOk_spec t8;exact ⟨bm,ob,(Yz t6 _).trans b1,b3,b4,b5⟩
 ·exact gens_of_done t3
 ·exact names_of_bound t2
 ·exact laid_of_kept t4
 ·obtain ⟨y,hy⟩:=SM.mp zk;rw [hy] at hL;unfold Eu at hL;split at hL;·
   rename_i o ho;split at hL;·
    rename_i fd hfd;unfold mE at hy;obtain ⟨⟨p1,p2,p3⟩,hp,rfl⟩:=Sz.mp hy;simp only [Xd,Yy] at hL;obtain ⟨⟨c1,c2,c3,c4,c5,c6,c7⟩,c8,c9,RN⟩:=hL;rw [<-EH] at hp;have d:=J7;rw [<-EH,hp] at d;simp only [U3,Yh] at d;obtain ⟨⟨d1,d2⟩,d3⟩:=d;have inB:s.abs.heap.get? (gS (.of 36))=some o:=by
     obtain ⟨o',_,_,_,F⟩:=JL wJ fns (.of 36);have g:s.abs.heap.get? (gS (.of 36))=some o':=F.bP;have g1:=((ZU _ _ _).mp g).1;have g2:(absHeap s.tree s.n s.life).objs[gS (.of 36)]? =some o':=g1;rw [absHeap_at,ho] at g2;split at g2;·cases g2;exact g
     ·cases g2
    exact ⟨_,o,fd,p1,p2,p3,(Yz t6 _).trans aay,inB,hfd,hp,c1,c2,c8,c9,RN,c3,c4,c5,.inl ⟨d1,c6⟩,[],by rw [d2,d3];rfl,.inl ⟨rfl,c7⟩⟩
   ·cases hL
  ·cases hL
def Plain:Prop:= ∀l:List Int,l.length<=63-> ∃H',ak 18 (.of 36) [.O (l.map .int)] ⟨λz=>none,0⟩=.ok (.bool true) H'
theorem Fq (ds:List WData):row.claim.post [ZC ds] (acm true) [ZC ds]=true:=by refine (?_:(WShape.has [] (acm true) .bool&&aaq [] (.eq .res (.lit (.bool true))) ⟨_,_,_,_⟩)=true);kernel_rfl
theorem Mj {ds:List WData} (h:row.claim.pre [ZC ds]=true):ds.length<=63:=by
 have h:=(pre_splitW h).2;change aaq [] (.and (.not (.lt (.lit (.int 63)) (.len (.arg 0)))) (.lit (.bool true))) ⟨_,_,_,_⟩=true at h;simp [aaq,WTm.value] at h;have e:less? (WData.int 63) (WData.int (ds.length:Int))=some (decide ((63:Int)<ds.length)):=by rfl
 rw [e] at h;simp only [Yd] at h;by_cases q:(63:Int)<ds.length;·simp [q] at h
 ·exact (Ln.n1 0x18508be301c4cf008be3) q
theorem NL {T:eS} {B h:Vr} (k: ∀b o,B.get? b=some o->h.get? b=some o):RH T B [] (λz=>0) ⟨λz=>none,0⟩ h:=⟨k,λz z=>rfl,λz z e=>(nomatch e),λz z e=>(nomatch e),λz e=>(nomatch e),λz e=>(nomatch e)⟩
theorem G1 (plain:Plain) {w:YO} {os:aaB} {s:Tz} (At:O7 w os s) {free:Um->Prop} {kept:Vr->Prop} (hk: ∀h,kept h):row.claim.CallFrom (callStub row.name) w free (row.writes=false) kept s:=by
 obtain ⟨K,wf,fns,ex⟩:=At.tabs;intro args hpre hlay ord hord;refine aQ λι k=> ?_;obtain ⟨⟨vs,s₁⟩,hlaid⟩:=SM.mp (layAllW_isSome (R:=row.claim.records) (cl:=classAt s.heap) (P:=w.params) (ord:=ord) (λc hc=>by cases hc) args row.args s (pre_splitW hpre).1);have keeps:=layAllW_keeps _ _ _ hlaid;have hal:=layAllW_rest _ _ _ hlaid;obtain ⟨as,hrd,hin,hold⟩:=reads_layAllW hord _ _ _ hlaid hlay s₁.heap (λu u e=>e);have L:Laid row.claim.records w s s₁ args vs as:=⟨⟨ord,hord,hlaid⟩,hrd,hin,hold,keeps,hal.1.trans At.gens,hal.2.2.1⟩;obtain ⟨d,r,rfl,e1,e2⟩:=hasAllW_cons (pre_splitW hpre).1;obtain rfl:=hasAllW_nil e2;obtain ⟨ds,rfl,e3⟩:=hasW_list e1;have hlen:=Mj hpre;obtain ⟨v,vs',as1,as2,rfl,rfl,r1,r2⟩:=readsAllW_cons_inv hrd;obtain ⟨rfl,rfl⟩:=readsAllW_nil_inv r2;obtain ⟨a,xs,as',rfl,⟨o,ho,hc,nn,hd⟩,r3,rfl⟩:=readsW_list_inv r1;obtain ⟨l,V,ll⟩:=Mr (T:=jU K pw w) (F:=[]) (X:=λu=>0) (H:=⟨λu=>none,0⟩) r3 e3;obtain ⟨H',run⟩:=plain l (by exact (Ln.n2 0x1861422f8c158005422f8c0) hlen ll);have V1:aB (jU K pw w) [] (λu=>0) ⟨λu=>none,0⟩ s₁.heap [.O (l.map .int)] [.ref a]:=by refine ⟨?_,trivial⟩;refine ⟨by rw [Sp];have:cap=65536:=rfl;exact (Ln.n3 0x61861408158882082084258005422f8c0) hlen ll this,a,o,xs,nn,rfl,ho,hc,hd,?_,V⟩;rintro (q|⟨x,q,_⟩)<;>cases q
 have call:=Qp ex fns 18 [] [] callerA (λu=>0) ⟨λu=>none,0⟩ s₁ (.of 36) [.O (l.map .int)] [.ref a] rfl rfl (λu h=>nomatch h) (by decide) (by decide) wf (NL keeps) trivial V1 (by rw [run];simp);have hz:s₁.asleep:=YU hal.2.2.2 At.asleep;have ac2:s₁.gens= #[]:=hal.1.trans At.gens;obtain ⟨n,r,s',s'',QC,hfo,g,abG⟩:=QZ (prog:=pw) (w:=w) (t:=(callStub row.name [.ref a]).cur) (s:=s₁) (R:=λr s'=>(∃v,r=.ok (.ret v))/\GoodWG row.claim (classAt s.heap) (ExcName.means s.heap) [.list ds] s₁ r s') hz (by
  have hg:s₁.heap.Ns UC (s.heap.nsMap UC):=(Heap.Ns.of_isNs At.main).keeps keeps;show dH _ _ (nsGet mainNs "law">>=_) _ _ _;refine aj (av (wpAny_nsGet hg ?_));rw [At.law];refine aj (ia (cM call λr s' h=> ?_));cases r with
  |error e=>obtain ⟨H2,_,h1,_⟩:=h;rw [run] at h1;cases h1
  |ok fl=>
   cases fl with
   |ret v=>obtain ⟨b,H2,ι',h1,h2,h3,h4,h5⟩:=h;rw [run] at h1;cases h1;obtain rfl:=h2;have keep': ∀b o,s₁.heap.get? b=some o->s'.heap.get? b=some o:=λb o e=>h4.keep b o e (by rintro (q|⟨x,q,_⟩)<;>cases q);have bare:AllBare s'.gens:=.of_eq (h5.1.trans ac2);refine ao ⟨_,rfl,⟨⟨_,rfl⟩,.inl ⟨_,.bool true,[],rfl,λcls=>rfl,.bool true,?_,λu=>⟨List.nodup_nil,λu h=>nomatch h⟩⟩,.of_keep keep',h5.2,bare⟩,leftWithCleanup_false_of_bare bare⟩;exact Fq ds
   |_=>exact h.elim);obtain ⟨⟨v,rfl⟩,g⟩:=g;have z:=g.laid (c:=row.claim) rfl rfl (ident_freeW (r:=row.toRowW) rfl rfl rfl) L;obtain ⟨eh,_,_,eo,_⟩:=Shared.forget_eq hfo;have aaa:=z.1.congr eh;refine k ⟨[.ref a],s₁,hlaid,n,_,s',QC,?_,(λu i x hx=>by rw [At.gens] at hx;simp at hx),hk _,by rw [abG,hal.2.2.2],Z0 (eo.trans z.2.1)⟩;rcases aaa with ⟨v',e,d1,d2,d3,d4,d5⟩|⟨e',ob,cls,e,_⟩;·simp only [Except.ok.injEq,Flow.ret.injEq] at e;subst e;exact .inl ⟨v,rfl,d1,d2,d3,λb o y u=>d4 b o y,d5⟩
 ·cases e
theorem Gi (plain:Plain) (said:row.wellSaid=true):row.Holds:=by
 refine ⟨said,by w_witness2,⟨⟨rfl,rfl,rfl,rfl,rfl,by decide+kernel⟩,by kernel_rfl,rfl⟩,⟨[.list []],by decide+kernel,by decide+kernel⟩,λw=> ?_⟩;have b:=boot_open (p:=pw) (N:=600) rfl (by decide) (λs=>rfl) w;rw [<-table_eq_tree] at b;obtain ⟨s₀,h1,h2⟩:=Sz.mp b;obtain ⟨s,h4,h5⟩:=SV.mp h1;have A:=AfterImport.of_importEnds h4;refine ⟨⟨s,A⟩,λs' aJ=> ?_⟩;obtain rfl:s'=s:=AfterImport.unique aJ A;obtain ⟨hp,gs,dr,tk,os⟩:=s₀;simp only [Yy] at h2;obtain ⟨rfl,rfl,rfl,rfl⟩:=h2;obtain ⟨s₁,At⟩:=LR w os;refine ⟨_,h5,rfl,s₁,At.ran,λn hn=> ?_,λx hx=>(nomatch hx),λx hx=>(nomatch hx),G1 plain At λh hw=>(nomatch hw)⟩;have:n="law":=by have h':n∈[("law":Str)]:=hn;simpa using h'
 rw [this];exact At.defs
theorem Gv (plain:Plain):PySem.Challenge.rw_xm0829_01.Holds:=holds_law said λh=>Gi plain h
end Mine
namespace Mine
noncomputable abbrev Kt (α:Type):=aA St α->Prop
section
variable {α β:Type}
noncomputable def vb (k:Kt β) (g:α->St->Prop):Kt α:=λo=>match o with
 | .ok a Y=>g a Y
 | .exc Y=>k (.exc Y)
 | .bad=>True
def vP (o:Option J) (Y:St) (k:Kt J):Prop:= ∀v,o=some v->k (.ok v Y)
def vN (o:Option (List J)) (Y:St) (k:Kt J):Prop:= ∀l,o=some l->k (.ok (.ref Y.hs.n) ⟨Y.ls,Y.hs.new (.O l)⟩)
def vFz (o:Option (J×U)) (Y:St) (k:Kt J):Prop:= ∀v hs,o=some (v,hs)->k (.ok v ⟨Y.ls,hs⟩)
noncomputable def Qz (o:Option (J⊕List J)) (Y:St):aA St J:=match o with
 |some (.inl v)=>.ok v Y
 |some (.inr l)=>.ok (.ref Y.hs.n) ⟨Y.ls,Y.hs.new (.O l)⟩
 |none=>.bad
def vSl (o:Option (J⊕List J)) (Y:St) (k:Kt J):Prop:= ∀x,o=some x->match x with
 | .inl v=>k (.ok v Y)
 | .inr l=>k (.ok (.ref Y.hs.n) ⟨Y.ls,Y.hs.new (.O l)⟩)
noncomputable def KG (l:List J) (Y:St):aA St J:=.ok (.ref Y.hs.n) ⟨Y.ls,Y.hs.new (.O l)⟩
def vCm (o:aA St (List J)) (Y:St) (k:Kt J):Prop:= ∀l hs,o=.ok l ⟨Y.ls,hs⟩->k (.ok (.ref hs.n) ⟨Y.ls,hs.new (.O l)⟩)
def vBr (x:J) (A B:Prop):Prop:=match x with
 | .bool b=> ∀c,b=c->cond c A B
 |_=>True
def RO (x:Nat) (Y:St) (g:gm->Prop):Prop:= ∀o,Y.hs.h x=some o->g o
def vW (a:α) (ls:List J) (H:U) (k:Kt α):Prop:= ∀τ,H=τ->k (.ok a ⟨ls,τ⟩)
theorem Ei (h:k (o.bind f)) (H: ∀a Y,k (f a Y)->g a Y):vb k g o:=by
 cases o with
 |ok a Y=>exact H _ _ h
 |exc Y=>exact h
 |bad=>trivial
theorem Bh (h:k (.cC Y o)):vP o Y k:=λz e=>by rw [e] at h;exact h
theorem PL (h:k (Qz o Y)):vSl o Y k:=λx e=>by rw [e] at h;clear e;cases x<;>exact h
theorem HM (h:k (o.bind KG)):vCm o Y k:=λz z e=>by rw [e] at h;exact h
set_option tactic.hygienic true in theorem yR (a:x=.bool true->A) (b:x=.bool false->B):vBr x A B:=by
 cases x<;>first|trivial|skip
 rename_i t;intro c e;subst e;cases t;·exact b rfl
 ·exact a rfl
end
section ev
variable (K:Fn->List J->U->aA U J) (cv:J)
noncomputable def IW (op:BinOp) (x y:J) (Y:St):aA St J:=match oz Y.hs op x y with
 |some l=>if l.length<=4096 then .ok (.ref Y.hs.n) ⟨Y.ls,Y.hs.new (.O l)⟩ else .bad
 |none=>.cC Y (gK op x y)
noncomputable def acO (x:J) (Y:St):aA St J:=match x with
 | .int i=>.ok (.int (-i)) Y
 |_=>.bad
noncomputable def aen (x:J) (Y:St):aA St J:=match x with
 | .bool b=>.ok (.bool (!b)) Y
 |_=>.bad
noncomputable def Ez (b:J) (Y:St):aA St Bool:=match b with
 | .bool b=>.ok b Y
 |_=>.bad
noncomputable def QW (c:sf) (v:J) (Y:St):aA St Bool:=match c with
 | .none=>.ok true Y
 | .some c=>(bk K v c Y).bind Ez
noncomputable def aag (u:J) (Y:St):aA St (Option J):=.ok (some u) Y
noncomputable def abP (e:Ex) (v:J) (b:Bool) (Y:St):aA St (Option J):=if b then (bk K v e Y).bind aag else .ok none Y
noncomputable def jh (e:Ex) (c:sf) (v:J) (Y:St):aA St (Option J):=(QW K c v Y).bind (abP K e v)
noncomputable def aaX (e:Ex) (c:sf) (x:J) (Y:St):aA St J:=match x with
 | .O l=>(each (jh K e c) l Y).bind KG
 |_=>.bad
noncomputable def BP (e:Ex) (c:sf) (x:List J) (Y:St):aA St J:=match cG x with
 |some l=>(each (jh K e c) (l.map .int) Y).bind KG
 |none=>.bad
noncomputable def abu (x y:J) (Y:St):aA St J:=match x,y with
 | .int i,.int j=>.ok (.int (if j<i then j else i)) Y
 |_,_=>.bad
noncomputable def abL (x y:J) (Y:St):aA St J:=match x,y with
 | .int i,.int j=>.ok (.int (if i<j then j else i)) Y
 |_,_=>.bad
noncomputable def aep (x:J) (Y:St):aA St J:=match x with
 | .bool _=>.ok (.bool true) Y
 |_=>.bad
noncomputable def aaL (d:Bool) (n:Nat) (x:J) (Y:St):aA St J:=match aq d n x Y.hs with
 |some (v,hs)=>.ok v ⟨Y.ls,hs⟩
 |none=>.bad
noncomputable def xM (f:Fd) (v x:J) (Y:St):aA St bw:=match x with
 | .aI C x=>match Y.hs.h x with
  |some (.cj fs)=>if uD C f&&decide (fs.length<100) then .ok .next ⟨Y.ls,Y.hs.set x (.cj (kI f v fs))⟩ else .bad
  |_=>.bad
 |_=>.bad
noncomputable def Jy (v x j:J) (Y:St):aA St bw:=match x,j with
 | .ref x,.int j=>match Y.hs.h x with
  |some (.O l)=>if 0<=j/\j<l.length then .ok .next ⟨Y.ls,Y.hs.set x (.O (l.set j.toNat v))⟩ else .bad
  |some (.gU l)=>if l.length<4096 then .ok .next ⟨Y.ls,Y.hs.set x (.gU (gJ j v l))⟩ else .bad
  |_=>.bad
 |_,_=>.bad
def DA (f:Fn) (l:List J) (Y:St) (k:Kt J):Prop:= ∀o,K f l Y.hs=o->match o with
 | .ok v hs=>k (.ok v ⟨Y.ls,hs⟩)
 | .exc hs=>k (.exc ⟨Y.ls,hs⟩)
 | .bad=>True
theorem uF {Y:St} {k:Kt J} (h:k (gM K f l Y)):DA K f l Y k:=λo e=>by unfold gM at h;replace h:=(e)▸h;clear e;cases o<;>first|exact h|trivial
def HR (f:Fd) (x:J) (Y:St) (k:Kt J):Prop:=match x with
 | .aI C a=>RO a Y λo=>match o with
  | .cj fs=>cond (uD C f) (k (.cC Y (o8 f fs))) True
  |_=>True
 |x=>k (.cC Y (AP Y.hs x f))
set_option tactic.hygienic true in theorem AR (h:k (.cC Y (AP Y.hs x f))):HR f x Y k:=by
 cases x<;>first|exact h|skip
 rename_i C a;intro o e;cases o<;>first|trivial|skip
 rename_i fs;refine (?_:cond (uD C f) _ _);cases z:uD C f with
 |false=>trivial
 |true=>
  refine (congrArg (λo=>k (.cC Y o)) ?_).mp h;refine (?_:(Option.bind (match Y.hs.h a with
   |some (.cj fs)=>some (C,fs)
   |_=>none) λy:Cl×List (Fd×J)=>if uD y.1 f then o8 f y.2 else none)=_);rw [e];refine (?_:(if uD C f then o8 f fs else none)=_);refine (z).symm▸ ?_;rfl
def Lj (f:Fd) (v x:J) (Y:St) (k:Kt bw):Prop:=match x with
 | .aI C a=>RO a Y λo=>match o with
  | .cj fs=>cond (uD C f&&decide (fs.length<100)) (vW .next Y.ls (Y.hs.set a (.cj (kI f v fs))) k) True
  |_=>True
 |_=>True
set_option tactic.hygienic true in theorem AE (h:k (xM f v x Y)):Lj f v x Y k:=by
 cases x<;>first|trivial|skip
 rename_i C a;intro o e;cases o<;>first|trivial|skip
 rename_i fs;refine (?_:cond (uD C f&&decide (fs.length<100)) _ _);cases z:uD C f&&decide (fs.length<100) with
 |false=>trivial
 |true=>intro τ q;subst q;unfold xM at h;dsimp only at h;rw [e] at h;dsimp only at h;rw [if_pos z] at h;exact h
def O9 (v x j:J) (Y:St) (k:Kt bw):Prop:=match x with
 | .ref a=>(match j with
  | .int j=>RO a Y λo=>match o with
   | .O l=>(0<=j/\j<l.length)->vW .next Y.ls (Y.hs.set a (.O (l.set j.toNat v))) k
   | .gU l=>l.length<4096->vW .next Y.ls (Y.hs.set a (.gU (gJ j v l))) k
   |_=>True
  |_=>True)
 |_=>True
theorem KS (h:k (Jy v x j Y)):O9 v x j Y k:=by
 cases x<;>first|trivial|skip
 cases j<;>first|trivial|skip
 intro o e;unfold Jy at h;dsimp only at h;rw [e] at h;clear e;cases o<;>first|trivial|(intro c τ q;subst q;dsimp only at h;rw [if_pos c] at h;exact h)
noncomputable def aaC (x:J):Bool:=match x with
 | .O _=>true
 | .ref _=>true
 |_=>false
theorem Kn (h:k (aaL d n x Y)):vFz (aq d n x Y.hs) Y k:=λv hs e=>by unfold aaL at h;rw [e] at h;exact h
noncomputable def sX (op:BinOp) (x:J):Bool:=match op with
 | .add=>isInt x
 | .sub=>isInt x
 |_=>false
noncomputable def Jv (x y:J):Bool:=match x with
 | .bW _=>false
 |_=>match y with
  | .ref _=>false
  |_=>true
noncomputable def Hl (x:J):Bool:=match x with
 | .ref _=>false
 |_=>true
def vQ (b:Bool) (o:Option J) (Y:St) (k:Kt J):Prop:=cond b (k (.cC Y o)) (vP o Y k)
theorem Av (h:k (.cC Y o)):vQ b o Y k:=by
 cases b with
 |true=>exact h
 |false=>exact Bh h
def QM (op:BinOp) (x y:J) (Y:St) (k:Kt J):Prop:=cond (aaC x) (∀l,oz Y.hs op x y=some l->l.length<=4096->k (.ok (.ref Y.hs.n) ⟨Y.ls,Y.hs.new (.O l)⟩)) (vQ (sX op x) (gK op x y) Y k)
theorem M3 (h:k (IW op x y Y)):QM op x y Y k:=by
 unfold QM;cases q:aaC x with
 |true=>intro l e c;unfold IW at h;rw [e] at h;dsimp only at h;rw [if_pos c] at h;exact h
 |false=>
  have e:oz Y.hs op x y=none:=by clear h;cases op<;>first|rfl|(cases x<;>first|rfl|cases q)
  unfold IW at h;rw [e] at h;exact Av h
mutual noncomputable def vE (cv:J):Ex->St->Kt J->Prop
 | .lit v,Y,k=>k (.ok v Y)
 | .var i,Y,k=>k (cg Y i)
 | .cvar,Y,k=>k (.ok cv Y)
 | .glob g,Y,k=>k (.ok (zx g) Y)
 | .bin op a b,Y,k=>vE cv a Y (vb k λx Y=>vE cv b Y (vb k λy Y=>QM op x y Y k))
 | .neg a,Y,k=>vE cv a Y (vb k λx Y=>k (acO x Y))
 | .not a,Y,k=>vE cv a Y (vb k λx Y=>k (aen x Y))
 | .and l,Y,k=>QE cv l Y k
 | .or l,Y,k=>vOr cv l Y k
 | .cmp op a b,Y,k=>vE cv a Y (vb k λx Y=>vE cv b Y (vb k λy Y=>vQ (Jv x y) ((rt Y.hs op x y).map .bool) Y k))
 | .ite c a b,Y,k=>vE cv c Y (vb k λx Y=>vBr x (vE cv a Y k) (vE cv b Y k))
 | .attr a f,Y,k=>vE cv a Y (vb k λx Y=>HR f x Y k)
 | .item a i,Y,k=>vE cv a Y (vb k λx Y=>vE cv i Y (vb k λy Y=>vP (cz Y.hs x y) Y k))
 | .slice a lo hi,Y,k=>vE cv a Y (vb k λx Y=>vO cv lo Y (vb k λl Y=>vO cv hi Y (vb k λh Y=>vSl (cN Y.hs x l h) Y k)))
 | .bW l,Y,k=>vL cv l Y (vb k λl Y=>k (.ok (.bW l) Y))
 | .list l,Y,k=>vL cv l Y (vb k λl Y=>k (.ok (.ref Y.hs.n) ⟨Y.ls,Y.hs.new (.O l)⟩))
 | .comp e it c,Y,k=>vE cv it Y (vb k λx Y=>match x with
  | .O l=>vCm (each (jh K e c) l Y) Y k
  |_=>True)
 | .gp e r c,Y,k=>vL cv r Y (vb k λx Y=> ∀l,cG x=some l->vCm (each (jh K e c) (l.map .int) Y) Y k)
 | .ru,Y,k=>k (.ok (.ref Y.hs.n) ⟨Y.ls,Y.hs.new (.gU [])⟩)
 | .q7,Y,k=>k (.ok (.ref Y.hs.n) ⟨Y.ls,Y.hs.new (.bar [])⟩)
 | .call f l,Y,k=>vL cv l Y (vb k λl Y=>DA K f l Y k)
 | .new C l,Y,k=>vL cv l Y (vb k λl Y=>match jS C with
  |some f=>DA K f (.aI C Y.hs.n::l) ⟨Y.ls,Y.hs.new (.cj [])⟩ (vb k λv τ=>match v with
   | .none=>k (.ok (.aI C Y.hs.n) τ)
   |_=>True)
  |none=>match l with
   |[]=>if C=(.of 1) then k (.ok (.aI C Y.hs.n) ⟨Y.ls,Y.hs.new (.cj [])⟩) else True
   |_=>True)
 | .iA o m l,Y,k=>vE cv o Y (vb k λx Y=> ∀f,bK Y.hs x m=some f->vL cv l Y (vb k λl Y=>DA K f (x::l) Y k))
 | .append o e,Y,k=>vE cv o Y (vb k λx Y=>match x with
  | .ref a=>RO a Y λo=>match o with
   | .O _=>vE cv e Y (vb k λv Y=>RO a Y λo=>match o with
    | .O l=>l.length<4096->vW .none Y.ls (Y.hs.set a (.O (l++[v]))) k
    |_=>True)
   | .bar _=>vE cv e Y (vb k λv Y=>RO a Y λo=>match o with
    | .bar b=>(match v with
     | .int i=>(0<=i/\i<256/\b.length<4096)->vW .none Y.ls (Y.hs.set a (.bar (b++[SH i.toNat]))) k
     |_=>True)
    |_=>True)
   |_=>True
  |_=>True)
 | .len a,Y,k=>vE cv a Y (vb k λx Y=>vQ (Hl x) ((IX Y.hs x).map .int) Y k)
 | .bytesOf a,Y,k=>vE cv a Y (vb k λx Y=>vP ((iB Y.hs x).map .bytes) Y k)
 | .sum a,Y,k=>vE cv a Y (vb k λx Y=>vP ((FP Y.hs x).map .int) Y k)
 | .sorted a,Y,k=>vE cv a Y (vb k λx Y=>vN ((items Y.hs x).bind kh) Y k)
 | .all a,Y,k=>vE cv a Y (vb k λx Y=>vP (((items Y.hs x).bind iD).map λl=>.bool (l.all id)) Y k)
 | .min a b,Y,k=>vE cv a Y (vb k λx Y=>vE cv b Y (vb k λy Y=>k (abu x y Y)))
 | .max a b,Y,k=>vE cv a Y (vb k λx Y=>vE cv b Y (vb k λy Y=>k (abL x y Y)))
 | .isBool a,Y,k=>vE cv a Y (vb k λx Y=>k (aep x Y))
 | .freeze a,Y,k=>vE cv a Y (vb k λx Y=>vFz (aq false 8 x Y.hs) Y k)
 | .cQ a,Y,k=>vE cv a Y (vb k λx Y=>vFz (aq true 12 x Y.hs) Y k) noncomputable def vO (cv:J):sf->St->Kt (Option J)->Prop
 | .none,Y,k=>k (.ok none Y)
 | .some e,Y,k=>vE cv e Y (vb k λv Y=>k (.ok (some v) Y)) noncomputable def vL (cv:J):ir->St->Kt (List J)->Prop
 | .nil,Y,k=>k (.ok [] Y)
 | .cons e l,Y,k=>vE cv e Y (vb k λv Y=>vL cv l Y (vb k λr Y=>k (.ok (v::r) Y))) noncomputable def QE (cv:J):ir->St->Kt J->Prop
 | .nil,_,_=>True
 | .cons e .nil,Y,k=>vE cv e Y k
 | .cons e l,Y,k=>vE cv e Y (vb k λv Y=>vBr v (QE cv l Y k) (k (.ok (.bool false) Y))) noncomputable def vOr (cv:J):ir->St->Kt J->Prop
 | .nil,_,_=>True
 | .cons e .nil,Y,k=>vE cv e Y k
 | .cons e l,Y,k=>vE cv e Y (vb k λv Y=>vBr v (k (.ok (.bool true) Y)) (vOr cv l Y k)) end
theorem NS (e it:Ex) (c:sf) (Y:St):bk K cv (.comp e it c) Y=(bk K cv it Y).bind (aaX K e c):=by cases c<;>kernel_rfl
theorem GW (e:Ex) (r:ir) (c:sf) (Y:St):bk K cv (.gp e r c) Y=(m5 K cv r Y).bind (BP K e c):=by cases c<;>kernel_rfl
theorem Ov (h:k (BP K e c x Y)): ∀l,cG x=some l->vCm (each (jh K e c) (l.map .int) Y) Y k:=λl q=>by unfold BP at h;rw [q] at h;exact HM h
variable {K} in theorem gn {α β:Type} {o:aA St α} {f:α->St->aA St β} {g:α->St->Prop} {k:Kt β} {V:Kt α->Prop} (h:k (o.bind f)) (IH: ∀k,k o->V k) (H: ∀a Y,k (f a Y)->g a Y):V (vb k g):=IH _ (Ei h H)
mutual theorem bz (cv:J): ∀(e:Ex) (Y:St) (k:Kt J),k (bk K cv e Y)->vE K cv e Y k
 | .lit _,_,_,h=>h
 | .var _,_,_,h=>h
 | .cvar,_,_,h=>h
 | .glob _,_,_,h=>h
 | .bin _ a b,_,_,h=>gn h (bz cv a _) λy y h=>gn h (bz cv b _) λy y h=>M3 h
 | .neg a,_,_,h=>gn h (bz cv a _) λy y h=>h
 | .not a,_,_,h=>gn h (bz cv a _) λy y h=>h
 | .and l,_,_,h=>Eh cv l _ _ h
 | .or l,_,_,h=>Js cv l _ _ h
 | .cmp _ a b,_,_,h=>gn h (bz cv a _) λy y h=>gn h (bz cv b _) λy y h=>Av h
 | .ite c a b,_,_,h=>gn h (bz cv c _) λy y h=>yR (λe=>by subst e;exact bz cv a _ _ h) (λe=>by subst e;exact bz cv b _ _ h)
 | .attr a _,_,_,h=>gn h (bz cv a _) λy y h=>AR h
 | .item a b,_,_,h=>gn h (bz cv a _) λy y h=>gn h (bz cv b _) λy y h=>Bh h
 | .slice a b c,_,_,h=>gn h (bz cv a _) λy y h=>gn h (OC cv b _) λy y h=>gn h (OC cv c _) λy y h=>PL h
 | .bW l,_,_,h=>gn h (rB cv l _) λy y h=>h
 | .list l,_,_,h=>gn h (rB cv l _) λy y h=>h
 | .comp e it c,_,_,h=>gn (NS K cv e it c _▸h) (bz cv it _) λx y h=>by cases x<;>first|trivial|exact HM h
 | .gp e r c,_,_,h=>gn (GW K cv e r c _▸h) (rB cv r _) λy y h=>Ov K h
 | .ru,_,_,h=>h
 | .q7,_,_,h=>h
 | .call _ l,_,_,h=>gn h (rB cv l _) λy y h=>uF K h
 | .new C l,_,_,h=>gn h (rB cv l _) λl Y h=>by
  dsimp only at h⊢;cases e:jS C with
  |some f=>rw [e] at h;intro o q;refine uF K (k:=vb _ _) ?_ o q;exact Ei h λv τ h=>by cases v<;>first|trivial|exact h
  |none=>
   rw [e] at h;cases l with
   |nil=>
    by_cases z:C=(.of 1);·exact (if_pos (c:=C=(.of 1)) (α:=Prop) z).mpr (by rw [if_pos z] at h;exact h)
    ·exact (if_neg (c:=C=(.of 1)) (α:=Prop) z).mpr trivial
   |cons a l=>trivial
 | .iA o m l,_,_,h=>gn h (bz cv o _) λx Y h f e=>by rw [e] at h;exact gn h (rB cv l _) λy y h=>uF K h
 | .append o e,_,_,h=>gn h (bz cv o _) λx Y h=>by
  cases x<;>first|trivial|skip
  intro ob q;dsimp only at h;rw [q] at h;clear q;cases ob<;>first|trivial|skip
  ·refine gn h (bz cv e _) λv Y h ob q=> ?_;rw [q] at h;clear q;cases ob<;>first|trivial|(intro c τ r;subst r;dsimp only at h;rw [if_pos c] at h;exact h)
  ·refine gn h (bz cv e _) λv Y h ob q=> ?_;rw [q] at h;clear q;cases ob<;>first|trivial|skip
   cases v<;>first|trivial|(intro c τ r;subst r;dsimp only at h;rw [if_pos c] at h;exact h)
 | .len a,_,_,h=>gn h (bz cv a _) λy y h=>Av h
 | .bytesOf a,_,_,h=>gn h (bz cv a _) λy y h=>Bh h
 | .sum a,_,_,h=>gn h (bz cv a _) λy y h=>Bh h
 | .sorted a,_,_,h=>gn h (bz cv a _) λx Y h l q=>by rw [q] at h;exact h
 | .all a,_,_,h=>gn h (bz cv a _) λy y h=>Bh h
 | .min a b,_,_,h=>gn h (bz cv a _) λy y h=>gn h (bz cv b _) λy y h=>h
 | .max a b,_,_,h=>gn h (bz cv a _) λy y h=>gn h (bz cv b _) λy y h=>h
 | .isBool a,_,_,h=>gn h (bz cv a _) λy y h=>h
 | .freeze a,_,_,h=>gn h (bz cv a _) λy y h=>Kn h
 | .cQ a,_,_,h=>gn h (bz cv a _) λy y h=>Kn h theorem OC (cv:J): ∀(e:sf) (Y:St) (k:Kt (Option J)),k (Rz K cv e Y)->vO K cv e Y k
 | .none,_,_,h=>h
 | .some e,_,_,h=>gn h (bz cv e _) λy y h=>h theorem rB (cv:J): ∀(e:ir) (Y:St) (k:Kt (List J)),k (m5 K cv e Y)->vL K cv e Y k
 | .nil,_,_,h=>h
 | .cons e l,_,_,h=>gn h (bz cv e _) λy y h=>gn h (rB cv l _) λy y h=>h theorem Eh (cv:J): ∀(e:ir) (Y:St) (k:Kt J),k (D9 K cv e Y)->QE K cv e Y k
 | .nil,_,_,_=>trivial
 | .cons e .nil,_,_,h=>bz cv e _ _ h
 | .cons e (.cons a l),_,_,h=>gn h (bz cv e _) λy y h=>yR (λq=>by subst q;exact Eh cv (.cons a l) _ _ h) (λq=>by subst q;exact h) theorem Js (cv:J): ∀(e:ir) (Y:St) (k:Kt J),k (Mu K cv e Y)->vOr K cv e Y k
 | .nil,_,_,_=>trivial
 | .cons e .nil,_,_,h=>bz cv e _ _ h
 | .cons e (.cons a l),_,_,h=>gn h (bz cv e _) λy y h=>yR (λq=>by subst q;exact h) (λq=>by subst q;exact Js cv (.cons a l) _ _ h) end
end ev
end Mine
namespace Mine
section ev
variable (K:Fn->List J->U->aA U J)
noncomputable def cA (t:Mn) (b:Ss) (v:J) (Y:St):aA St bw:=(store Y t v).bind λz Y=>cu K b Y
noncomputable def jg (t:Mn) (b:Ss) (x:List J) (Y:St):aA St bw:=match cG x with
 |some l=>cU (cA K t b) (l.map .int) Y
 |none=>.bad
noncomputable def kW (c:Ex) (b:Ss) (n:Nat) (Y:St):aA St bw:=ja (λY=>bk K .ah c Y) (λY=>cu K b Y) n Y
noncomputable def vNx (k:Kt bw):Kt Unit:=vb k λz Y=>k (.ok .next Y)
def vLp (res:aA St bw) (k:Kt bw):Prop:= ∀fl Y,res=.ok fl Y->k (.ok fl Y)
theorem CK (h:k res):vLp res k:=λz z e=>e▸h
noncomputable def RV (v:J):aA St bw->aA St bw
 | .exc Y=>.ok (.ret v) Y
 |o=>o
noncomputable def aaZ:aA St bw->aA St bw
 | .exc _=>.bad
 |o=>o
mutual noncomputable def vS:S->St->Kt bw->Prop
 | .assign t e,Y,k=>vE K .ah e Y (vb k λv Y=>vNx k (store Y t v))
 | .setAttr o f e,Y,k=>vE K .ah e Y (vb k λv Y=>vE K .ah o Y (vb k λx Y=>Lj f v x Y k))
 | .setItem o i e,Y,k=>vE K .ah e Y (vb k λv Y=>vE K .ah o Y (vb k λx Y=>vE K .ah i Y (vb k λj Y=>O9 v x j Y k)))
 | .iO x op e,Y,k=>vE K .ah (.var x) Y (vb k λa Y=>vE K .ah e Y (vb k λb Y=>vQ (sX op a) (tF op a b) Y (vb k λv Y=>vNx k (mW Y x v))))
 | .iF o f op e,Y,k=>vE K .ah o Y (vb k λx Y=>HR f x Y (vb k λa Y=>vE K .ah e Y (vb k λb Y=>vQ (sX op a) (tF op a b) Y (vb k λv Y=>Lj f v x Y k))))
 | .b9 c a b,Y,k=>vE K .ah c Y (vb k λv Y=>vBr v (OA a Y k) (OA b Y k))
 | .while c b,Y,k=>vLp (kW K c b 100 Y) k
 | .forL t e b,Y,k=>vE K .ah e Y (vb k λx Y=>match x with
  | .O l=>vLp (cU (cA K t b) l Y) k
  |_=>True)
 | .forR t r b,Y,k=>vL K .ah r Y (vb k λx Y=>vLp (jg K t b x Y) k)
 | .ret e,Y,k=>vE K .ah e Y (vb k λv Y=>k (.ok (.ret v) Y))
 | .tG,Y,k=>k (.ok (.ret .none) Y)
 | .expr e,Y,k=>vE K .ah e Y (vb k λz Y=>k (.ok .next Y))
 | .raise,Y,k=>k (.exc Y)
 | .bad,_,_=>True
 | .xE b v,Y,k=>OA b Y λo=>k (RV v o)
 | .rH b,Y,k=>OA b Y λo=>k (aaZ o)
 | .pass,Y,k=>k (.ok .next Y)
 | .cont,Y,k=>k (.ok .cont Y)
 | .bI x,Y,k=>vE K .ah (.var x) Y (vb k λv Y=>vFz (aq true 12 v Y.hs) Y (vb k λv Y=>vNx k (mW Y x v))) noncomputable def OA:Ss->St->Kt bw->Prop
 | .nil,Y,k=>k (.ok .next Y)
 | .cons s l,Y,k=>vS s Y (vb k λfl Y=>match fl with
  | .next=>OA l Y k
  | .ret v=>k (.ok (.ret v) Y)
  | .cont=>k (.ok .cont Y)) end
theorem Ds (h:k (o.bind λz Y=>.ok .next Y)):vNx k o:=Ei h λz z h=>h
mutual theorem Pc: ∀(s:S) (Y:St) (k:Kt bw),k (eB K s Y)->vS K s Y k
 | .assign _ e,_,_,h=>gn h (bz K _ e _) λz z h=>Ds h
 | .setAttr o _ e,_,_,h=>gn h (bz K _ e _) λz z h=>gn h (bz K _ o _) λz z h=>AE h
 | .setItem o i e,_,_,h=>gn h (bz K _ e _) λz z h=>gn h (bz K _ o _) λz z h=>gn h (bz K _ i _) λz z h=>KS h
 | .iO i _ e,Y,_,h=>gn h (bz K .ah (.var i) _) λz z h=>gn h (bz K _ e _) λz z h=>gn h (λz h=>Av h) λz z h=>Ds h
 | .iF o _ _ e,_,_,h=>gn h (bz K _ o _) λz z h=>gn h (λz h=>AR h) λz z h=>gn h (bz K _ e _) λz z h=>gn h (λz h=>Av h) λz z h=>AE h
 | .b9 c a b,_,_,h=>gn h (bz K _ c _) λz z h=>yR (λe=>by subst e;exact oJ a _ _ h) (λe=>by subst e;exact oJ b _ _ h)
 | .while _ _,_,_,h=>CK h
 | .forL _ e _,_,_,h=>gn h (bz K _ e _) λx z h=>by cases x<;>first|trivial|exact CK h
 | .forR _ r _,_,_,h=>gn h (rB K _ r _) λx z h=>CK h
 | .ret e,_,_,h=>gn h (bz K _ e _) λz z h=>h
 | .tG,_,_,h=>h
 | .expr e,_,_,h=>gn h (bz K _ e _) λz z h=>h
 | .raise,_,_,h=>h
 | .bad,_,_,_=>trivial
 | .xE b v,Y,k,h=>oJ b Y _ (by
  change k (match cu K b Y with
   | .exc Y=>.ok (.ret v) Y
   |o=>o) at h;cases e:cu K b Y<;>rw [e] at h<;>exact h)
 | .rH b,Y,k,h=>oJ b Y _ (by
  change k (match cu K b Y with
   | .exc _=>.bad
   |o=>o) at h;cases e:cu K b Y<;>rw [e] at h<;>exact h)
 | .pass,_,_,h=>h
 | .cont,_,_,h=>h
 | .bI x,Y,k,h=>gn h (bz K .ah (.var x) _) λv Y h w hs e=>by refine Ei (o:=.ok w ⟨Y.ls,hs⟩) (f:=λv Y=>(mW Y x v).bind λz Y=>.ok .next Y) ?_ λz z h=>Ds h;rw [e] at h;exact h theorem oJ: ∀(s:Ss) (Y:St) (k:Kt bw),k (cu K s Y)->OA K s Y k
 | .nil,_,_,h=>h
 | .cons s l,_,_,h=>gn h (Pc s _) λfl z h=>by
  cases fl with
  |next=>exact oJ l _ _ h
  |ret v=>exact h
  |cont=>exact h end
end ev
noncomputable def fin:aA St bw->aA U J
 | .ok (.ret v) Y=>.ok v Y.hs
 | .ok .next Y=>.ok .none Y.hs
 | .ok .cont _=>.bad
 | .exc Y=>.exc Y.hs
 | .bad=>.bad
def Pe (n:Nat) (f:Fn) (args:List J) (hs:U):Prop:=cond (args.length==(b8 f).1) (OA (ak n) (nk f) ⟨args++Tf ((b8 f).2-(b8 f).1) .ah,hs⟩ λo=>ak (n+1) f args hs=fin o) True
theorem xD (e:cu (ak n) (nk f) ⟨ls,hs⟩=o) (hl:args.length=(b8 f).1) (h:args++Tf ((b8 f).2-(b8 f).1) .ah=ls):ak (n+1) f args hs=fin o:=by
 refine (if_pos hl).trans ?_;subst h e;cases cu (ak n) (nk f) ⟨args++Tf ((b8 f).2-(b8 f).1) .ah,hs⟩ with
 |ok fl Y=>cases fl<;>rfl
 |exc Y=>rfl
 |bad=>rfl
theorem aF (k:Pe n f args hs->ak (n+1) f args hs=res):ak (n+1) f args hs=res:=k (by
 unfold Pe;cases q:args.length==(b8 f).1 with
 |false=>trivial
 |true=>exact oJ _ _ _ _ (xD rfl (beq_iff_eq.mp q) rfl))
theorem dU (k:vE (ak n) cv e Y (λo=>bk (ak n) cv e Y=o)->bk (ak n) cv e Y=res):bk (ak n) cv e Y=res:=k (bz _ _ _ _ _ rfl)
theorem bg (k:OA (ak n) s Y (λo=>cu (ak n) s Y=o)->cu (ak n) s Y=res):cu (ak n) s Y=res:=k (oJ _ _ _ _ rfl)
theorem bH (k:vS (ak n) s Y (λo=>eB (ak n) s Y=o)->eB (ak n) s Y=res):eB (ak n) s Y=res:=k (Pc _ _ _ _ rfl)
noncomputable abbrev B:=List UInt8
noncomputable def le:Nat->Nat->B
 |0,_=>[]
 |k+1,t=>SH t::le k (t/256)
theorem dX: ∀k t,(le k t).length=k:=by
 intro l_;induction l_ with
 |zero=>exact @λz=>rfl
 |succ k aG=>exact @λt=>congrArg (· +1) (aG (t/256))
theorem lS (h:a<2^k):a|||b*2^k=a+b*2^k:=by rw [Nat.or_comm,VC,<-Nat.two_pow_add_eq_or_of_lt h,Uz]
theorem u8 (t:Nat):(SH t).toNat=t%256:=UInt8.toNat_ofNat'
/-!operators on numbers -/
theorem map_if {α β:Type} [Decidable c] {f:α->β} {x:α} {y:β} (h:c) (e:f x=y):Td f (if c then some x else none)=some y:=by rw [if_pos h,<-e];rfl
theorem nn2 (x y:Nat):(decide (0<=(x:Int))&&decide (0<=(y:Int)))=true:=by rw [decide_eq_true (TF x),decide_eq_true (TF y)];rfl
theorem qK {x y z:Nat} (h:x|||y=z):gK .bor (.int x) (.int y)=some (.int z):=map_if (nn2 x y) (by refine (h)▸ ?_;rfl)
theorem iI {x y z:Nat} (h:x&&&y=z):gK .band (.int x) (.int y)=some (.int z):=map_if (nn2 x y) (by refine (h)▸ ?_;rfl)
theorem sR {x:Nat} (h:x<2^64):small (x:Int)=true:=decide_eq_true (by rw [Wv];exact h)
theorem oG {x k:Nat} (h:x<2^64) (hk:k<=64):gK .shl (.int x) (.int k)=some (.int (x*2^k:Nat)):=map_if (by refine (sR h).symm▸((decide_eq_true (TF k)).symm▸ ?_);refine (decide_eq_true (show (k:Int)<=64 from UN.mpr hk)).symm▸ ?_;rfl) (by rw [WJ,Int.natCast_mul,Xg];rfl)
theorem tR {x k:Nat}:gK .shr (.int x) (.int k)=some (.int (x/2^k:Nat)):=map_if (nn2 x k) (by rw [WJ,Z9,Xg];rfl)
theorem Qc (h:y.natAbs<2^64):gK .mul (.int x) (.int y)=some (.int (x*y)):=map_if (by rw [show small y=true from decide_eq_true h,ach]) rfl
theorem j9 (h:x.natAbs<2^64):gK .mul (.int x) (.int y)=some (.int (x*y)):=map_if (by rw [show small x=true from decide_eq_true h,acg]) rfl
theorem Pz (h:0<y):gK .mod (.int x) (.int y)=some (.int (x%y)):=map_if h rfl
theorem PS {x y:Int} (h:0<y) (h2:y.natAbs<2^64):gK .fdiv (.int x) (.int y)=some (.int (x/y)):=map_if (by refine (decide_eq_true h).symm▸((show small y=true from decide_eq_true h2).symm▸ ?_);rfl) rfl
theorem cY (h:a.length+b.length<=4096):gK .add (.bytes a) (.bytes b)=some (.bytes (a++b)):=map_if h rfl
theorem yo {α:Type} {l:List α} {k:Nat}:itemAt l (k:Int)=l[k]? :=if_pos (TF k)
theorem B9 {k:Nat} (Y:U) (h:d[k]? =some u):cz Y (.bytes d) (.int k)=some (.int u.toNat):=congrArg (Td _) (yo.trans h)
theorem jo {k:Nat} (Y:U) (h:l[k]? =some v):cz Y (.O l) (.int k)=some v:=yo.trans h
theorem nO {k:Nat} (Y:U) (h:l[k]? =some v):cz Y (.bW l) (.int k)=some v:=yo.trans h
theorem jw {k:Nat} {i:Int} (h:i=k):FQ (some (.int i))=some (some (k:Int)):=by subst h;exact if_pos (e:=none) (TF k)
theorem Hx {k:Nat} {i:Int} (Y:U) (h:i=k):cN Y (.bytes d) none (some (.int i))=some (.inl (.bytes (d.take k))):=by unfold cN;refine (jw h).symm▸ ?_;rfl
theorem DL {k:Nat} {i:Int} (Y:U) (h:i=k):cN Y (.bytes d) (some (.int i)) none=some (.inl (.bytes (d.drop k))):=by unfold cN;refine (jw h).symm▸ ?_;rfl
theorem Cy {j k:Nat} {i l:Int} (Y:U) (h:i=j) (h2:l=k):cN Y (.bytes d) (some (.int i)) (some (.int l))=some (.inl (.bytes ((d.take k).drop j))):=by unfold cN;rw [jw h,jw h2];rfl
theorem dF [Decidable p] (h: ¬p):decide p=false:=decide_eq_false h
theorem dT [Decidable p] (h:p):decide p=true:=decide_eq_true h
theorem nS {pre l post:B} (hk:k=pre.length+i) (h:l[i]? =some u):(pre++(l++post))[k]? =some u:=by
 subst hk;have hi:i<l.length:=by
  by_cases q:i<l.length;·exact q
  ·replace h:=(Ua (SJ q))▸h;cases h
 rw [TG (SI _ _),Vi,Un hi,h]
noncomputable abbrev it (k:Nat):J:=.int (k:Int)
noncomputable def mY (a b:Nat):Bool:=decide ((a:Int)<(b:Int))
noncomputable def nle (a b:Nat):Bool:=decide ((a:Int)<=(b:Int))
noncomputable def neq (a b:Nat):Bool:=decide ((a:Int)=(b:Int))
theorem dW (h:a<b):mY a b=true:=dT (TM.mpr h)
theorem dg (h:b<=a):mY a b=false:=dF (VD.mpr (UN.mpr h))
theorem A9 (h:a<=b):nle a b=true:=dT (UN.mpr h)
theorem BJ (h:b<a):nle a b=false:=dF (X5.mpr (TM.mpr h))
theorem Cz (h:a=b):neq a b=true:=dT (congrArg _ h)
theorem uE (h:a≠b):neq a b=false:=dF λe=>h (VS e)
theorem Nc:mY a 0=false:=dg (Tq a)
theorem cD {a b c:Nat} (h:a=b+c):(a:Int)-(c:Int)=b:=by subst h;rw [abe,Int.add_sub_cancel]
/-!afi -/
noncomputable def U.bY (Y:U):U:=⟨λy=>if y=Y.n then none else Y.h y,Y.n+1⟩
noncomputable def U.iP:Nat->U->U
 |0,Y=>Y
 |k+1,Y=>iP k Y.bY
theorem U.sr (Y:U) (o:gm):(Y.new o).del Y.n=Y.bY:=by
 unfold U.new U.del U.bY;congr 1;funext y;by_cases h:y=Y.n;·rw [if_pos h,if_pos h]
 ·show (if _ then _ else if _ then _ else _)=(if _ then _ else _);rw [if_neg h,if_neg h,if_neg h]
structure bG (Y τ:U):Prop where
 n:Y.n<=τ.n
 h: ∀y,y<Y.n->τ.h y=Y.h y
theorem bG.refl (Y:U):bG Y Y:=⟨Sv _,λz z=>rfl⟩
theorem bG.trans (x:bG a b) (y:bG b c):bG a c:=⟨Sl x.n y.n,λi h=>(y.h i (Sx h x.n)).trans (x.h i h)⟩
theorem bG.new (Y:U) (o:gm):bG Y (Y.new o):=⟨T8 _,λz h=>if_neg (SY h)⟩
theorem bG.bY (Y:U):bG Y Y.bY:=⟨T8 _,λz h=>if_neg (SY h)⟩
theorem bG.iP: ∀k Y,bG Y (U.iP k Y):=by
 intro l_;induction l_ with
 |zero=>exact @λY=>.refl Y
 |succ k aG=>exact @λY=>(bG.bY Y).trans (aG Y.bY)
noncomputable def atomic:J->Bool
 | .ah=>false
 | .ref _=>false
 | .O _=>false
 |_=>true
theorem Dd (h:atomic v=true):aq false (k+1) v Y=some (v,Y):=by cases v<;>first|rfl|cases h
theorem l6: ∀l:List J,l.all atomic=true->gG (aq false (k+1)) l Y=some (l,Y):=by
 intro l_;induction l_ with
 |nil=>exact @λz=>rfl
 |cons a l aG=>exact @λh=>by obtain ⟨h1,h2⟩:=Su.mp h;refine (?_:((aq false (k+1) a Y).bind λx=>(gG (aq false (k+1)) l x.2).map λy=>(x.1::y.1,y.2))=_);rw [Dd h1];refine (?_:Td _ (gG (aq false (k+1)) l Y)=_);rw [aG h2];rfl
theorem aS {Y:U} (h:l.all atomic=true):aq false 8 (.ref Y.n) (Y.new (.O l))=some (.O l,Y.bY):=by refine (?_:((Y.new (.O l)).h Y.n).bind _=_);rw [show (Y.new (.O l)).h Y.n=some (.O l) from if_pos rfl];refine (?_:Td _ (gG (aq false 7) l (Y.new (.O l)))=_);rw [l6 l h];refine (?_:some (J.O l,(Y.new (.O l)).del Y.n)=_);rw [U.sr]
noncomputable def its (l:List Nat):List J:=l.map it
theorem cH: ∀l:List Nat,(its l).all atomic=true:=by
 intro l_;induction l_ with
 |nil=>exact rfl
 |cons _ l aG=>exact aG
theorem adQ (Y:U): ∀l:List Nat,(∀i∈l,i<256)->iB Y (.O (its l))=some (l.map SH):=by
 intro l_;induction l_ with
 |nil=>exact @λz=>rfl
 |cons a l aG=>
  exact @λh=>by
   have e:=aG λi hi=>h i (.tail _ hi);change (fV (its l)).bind octets=_ at e;refine (?_:(Td _ (fV (its l))).bind octets=_);cases q:fV (its l) with
   |none=>replace e:=(q)▸e;cases e
   |some is=>replace e:=(q)▸e;refine (?_:(if 0<=(a:Int)/\(a:Int)<256 then _ else _)=_);rw [if_pos ⟨TF a,TM.mpr (h a (.head _))⟩,show octets is=_ from e];rfl
theorem iK (Y:U) (h: ∀i∈l,i<256) (e:l.map SH=b):Td J.bytes (iB Y (.O (its l)))=some (.bytes b):=by refine (adQ Y l h).symm▸((e)▸ ?_);rfl
/-!the ad9 -/
theorem mod_lt (h:0<b):a%b<b:=UA _ h
theorem mods (t a b:Nat):t%a+t/a%b*a=t%(a*b):=by rw [Nat.mod_mul,VC]
theorem dz (n:Nat) (hs:U) {bP t:Nat} (hd:d=pre++(le 4 t++post)) (ha:bP=pre.length) (ht:t<2^32):ak (n+1) (.of 7) [.bytes d,it bP] hs=.ok (it t) hs:=by
 have hl:bP+4<=d.length:=by rw [hd,ha,Sq,Sq,dX];exact Vk (SI _ _) _
 have g: ∀i u,(le 4 t)[i]? =some u->cz hs (.bytes d) (it (bP+i))=some (it u.toNat):=λi u h=>B9 hs (by rw [hd];exact nS (by rw [ha]) h);have a0:=g 0 _ rfl;have a1:=g 1 _ rfl;have a2:=g 2 _ rfl;have a3:=g 3 _ rfl;rw [u8] at a0 a1 a2 a3;have e3:t/256/256/256%256=t/(256*256*256):=by rw [UP,UP];exact Vd (Vx ht)
 have c2:t%65536+t/256/256%256*2^16=t%16777216:=by rw [UP];exact mods t 65536 256
 have c3:t%16777216+t/256/256/256%256*2^24=t:=by rw [e3,VC];exact YB t 16777216
 exact aF λH=>H _ Nc _ (dg hl) _ a0 _ a1 _ (oG (TL (mod_lt (by decide)) (by decide)) (by decide)) _ (qK ((lS (k:=8) (mod_lt (by decide))).trans (mods t 256 256))) _ a2 _ (oG (TL (mod_lt (by decide)) (by decide)) (by decide)) _ (qK ((lS (k:=16) (mod_lt (by decide))).trans c2)) _ a3 _ (oG (TL (mod_lt (by decide)) (by decide)) (by decide)) _ (qK ((lS (k:=24) (mod_lt (by decide))).trans c3))
theorem ofNat_mod (t:Nat):SH (t%256)=SH t:=UInt8.toNat_inj.mp (by rw [u8,u8,Nat.mod_mod])
theorem Cg: ∀k t,le k (t%256^k)=le k t:=by
 intro l_;induction l_ with
 |zero=>exact @λz=>rfl
 |succ k aG=>exact @λt=>by refine (?_:SH _::le k _=SH t::le k (t/256));rw [<-ofNat_mod,Nat.pow_succ,Nat.mod_mul_left_mod,ofNat_mod,VC,Nat.mod_mul_right_div_self,aG]
theorem J6: ∀j k t,le (j+k) t=le j t++le k (t/256^j):=by
 intro l_;induction l_ with
 |zero=>exact @λk t=>by rw [TX,Ye,Nat.div_one];rfl
 |succ j aG=>exact @λk t=>by rw [TY];refine (?_:SH t::le (j+k) (t/256)=_);rw [aG k,UP,<-XU];rfl
theorem JK: ∀k t,le k t=((TR k).map λi=>t/256^i%256).map SH:=by
 intro l_;induction l_ with
 |zero=>exact @λz=>rfl
 |succ k aG=>exact @λt=>by rw [Y5];refine (?_:SH t::le k (t/256)=SH (t/256^0%256)::_);rw [Ye,Nat.div_one,ofNat_mod,aG,Uo,Uo,Uo];refine congrArg _ (Zt λi z=> ?_);refine (?_:SH (t/256/256^i%256)=SH (t/256^(i+1)%256));rw [UP,<-XU]
theorem jv (n:Nat) (hs:U) (hd:d=pre++(le 8 t++post)) (ha:bP=pre.length) (ht:t<2^64):ak (n+2) (.of 8) [.bytes d,it bP] hs=.ok (it t) hs:=by
 have e:le 8 t=le 4 (t%2^32)++le 4 (t/2^32):=by rw [show (2^32:Nat)=256^4 by rfl,Cg 4];exact J6 4 4 t
 have d1:d=pre++(le 4 (t%2^32)++(le 4 (t/2^32)++post)):=by rw [hd,e,SG]
 have d2:d=(pre++le 4 (t%2^32))++(le 4 (t/2^32)++post):=by rw [d1,SG]
 have hl:bP+8<=d.length:=by rw [hd,ha,Sq,Sq,dX];exact Vk (SI _ _) _
 have hi:t/2^32<2^32:=Vx ht;exact aF λH=>H _ Nc _ (dg hl) _ (dz n hs d1 ha (mod_lt (by decide))) _ (dz n hs d2 (by rw [Sq,dX,ha]) hi) _ (oG (TL hi (by decide)) (by decide)) _ (qK ((lS (k:=32) (mod_lt (by decide))).trans (by rw [VC];exact YB t (2^32))))
theorem yN (x:Nat):x&&&255=x%256:=Uy x 8
theorem kD (n:Nat) (hs:U) {t:Nat} (ht:t<2^32):ak (n+1) (.of 5) [it t] hs=.ok (.bytes (le 4 t)) hs.bY:=by exact aF λH=>H _ Nc _ (dg (Uk ht)) _ (iI (yN _)) _ tR _ (iI (yN _)) _ tR _ (iI (yN _)) _ tR _ _ (aS rfl) _ (iK _ (l:=[t%256,t/2^8%256,t/2^16%256,t/2^24]) (λi hi=>by simp only [Tn,U1,or_false] at hi;rcases hi with rfl|rfl|rfl|rfl<;>first|exact (mod_lt (by decide))|exact (Vx ht)) (by rw [show le 4 t=[SH t,SH (t/256),SH (t/256/256),SH (t/256/256/256)] from rfl,UP,UP];refine (?_:[SH (t%256),SH (t/256%256),SH (t/65536%256),_]=_);rw [ofNat_mod,ofNat_mod,ofNat_mod]))
theorem rL (n:Nat) (hs:U) (ht:t<2^64):ak (n+2) (.of 6) [it t] hs=.ok (.bytes (le 8 t)) hs.bY.bY:=by
 have e:le 8 t=le 4 (t%2^32)++le 4 (t/2^32):=by rw [show (2^32:Nat)=256^4 by rfl,Cg 4];exact J6 4 4 t
 exact aF λH=>H _ Nc _ (dg (Uk ht)) _ (iI (Uy t 32)) _ (kD n hs (mod_lt (by decide))) _ tR _ (kD n hs.bY (Vx ht)) ((.bytes (le 8 t))) (by rw [e];exact cY (by rw [dX,dX];decide))
theorem zg (n:Nat) (hs:U) (hq:q<2^56) (hk:k=1):ak (n+1) (.of 10) [it q,it k] hs=.ok (it (q*256+k)) hs:=aF λH=>H _ Nc _ (dg (Uk hq)) true (by subst hk;rfl) false (by subst hk;rfl) _ (oG (TL hq (by decide)) (by decide)) _ (qK (by clear H;subst hk;rw [Nat.or_comm,lS (k:=8) (by decide),Uz]))
theorem lK (hq:q<2^56) (hk:k<256):q*256+k<2^64:=by exact (Ln.n2 0x18612220820820820820820820820821281308820840488820841488820820820820820820820840) hq hk
theorem u7 (n:Nat) (hs:U) (hq:q<2^56) (hu:u.length<=4000):ak (n+3) (.of 11) [.bytes u,it q,it 1] hs=.ok (.bytes (u++le 8 (q*256+1))) hs.bY.bY:=aF λH=>H _ rfl _ (zg (n+1) hs hq rfl) _ (rL n hs (lK hq (by decide))) _ (cY (by rw [dX];exact Sl (Tw hu 8) (by decide)))
noncomputable def kb (u:B) (t:Nat):B:=u++le 8 t
theorem jG (u:B) (t:Nat):(kb u t).length=u.length+8:=by rw [kb,Sq,dX]
theorem GV (u:B) (t:Nat):((kb u t).length:Int)-8=(u.length:Int):=cD (jG u t)
theorem dI (n:Nat) (hs:U) (u:B) (t:Nat):ak (n+1) (.of 13) [.bytes (kb u t)] hs=.ok (.bytes u) hs:=aF λH=>H _ (dg (by rw [jG];exact TA _ _)) (.inl ((.bytes u))) (by rw [Hx hs (GV u t),kb,VQ]) _ rfl
theorem nU (n:Nat) (hs:U) (u:B) (ht:t<2^64):ak (n+3) (.of 14) [.bytes (kb u t)] hs=.ok (it t) hs:=aF λH=>H _ (dg (by rw [jG];exact TA _ _)) (.ok ((it t)) _) (by exact (GV u t).symm▸(jv n hs (post:=[]) (by rw [kb,Ti]) rfl ht))
theorem tX (n:Nat) (hs:U) (u:B) (ht:t<2^64) (hk:t%256<=1):ak (n+4) (.of 12) [.bytes (kb u t)] hs=.ok (.bW [.bytes u,it (t/256),it (t%256)]) hs:=aF λH=>H _ (dI (n+2) hs u t) _ (nU n hs u ht) _ (iI (yN t)) _ (dg hk) _ tR
noncomputable def PO (a b:B):Int:=if blt a b=true then-1 else if blt b a=true then 1 else 0
noncomputable def Nv (u:B) (t:Nat) (v:B) (s:Nat):Int:=if blt u v=true then-1 else if blt v u=true then 1 else if s<t then-1 else if t<s then 1 else 0
noncomputable abbrev rD:J:=.obj (.of 1) []
noncomputable abbrev cS:J:=.obj (.of 2) [((.of 6),rD)]
theorem oQ (n:Nat) (hs:U) (o:J) (a b:B):ak (n+1) (.of 37) [o,.bytes a,.bytes b] hs=.ok (.int (PO a b)) hs:=by
 unfold PO;cases h1:blt a b with
 |true=>exact aF λH=>H _ h1
 |false=>
  cases h2:blt b a with
  |true=>exact aF λH=>H _ h1 _ h2
  |false=>exact aF λH=>H _ h1 _ h2
theorem zD (n:Nat) (hs:U) (u v:B) (ht:t<2^64) (aJ:s<2^64):ak (n+4) (.of 39) [cS,.bytes (kb u t),.bytes (kb v s)] hs=.ok (.int (Nv u t v s)) hs:=by
 have a1: ∀{c:Int},PO u v=c->ak (n+3) (.of 37) [rD,.bytes u,.bytes v] hs=.ok (.int c) hs:=λe=>e▸oQ (n+2) hs rD u v;have HS:=dI (n+2) hs u t;have V:=dI (n+2) hs v s;have b1:=nU n hs u ht;have b2:=nU n hs v aJ;unfold Nv;by_cases h1:blt u v=true;·rw [if_pos h1];exact aF λH=>H _ rfl _ HS _ V _ (a1 (if_pos h1)) _ rfl
 ·rw [if_neg h1];by_cases h2:blt v u=true;·rw [if_pos h2];exact aF λH=>H _ rfl _ HS _ V _ (a1 ((if_neg h1).trans (if_pos h2))) _ rfl
  ·rw [if_neg h2];have a1:=a1 ((if_neg h1).trans (if_neg h2));by_cases h3:s<t;·rw [if_pos h3];exact aF λH=>H _ rfl _ HS _ V _ a1 _ rfl _ b1 _ b2 _ (dW h3)
   ·rw [if_neg h3];by_cases h4:t<s;·rw [if_pos h4];exact aF λH=>H _ rfl _ HS _ V _ a1 _ rfl _ b1 _ b2 _ (dg (SJ h3)) _ (dW h4)
    ·rw [if_neg h4];exact aF λH=>H _ rfl _ HS _ V _ a1 _ rfl _ b1 _ b2 _ (dg (SJ h3)) _ (dg (SJ h4))
/-!comprehensions and loops -/
noncomputable def Ec (n:Nat):List Int:=(TR n).map λk:Nat=>(k:Int)
theorem ug {n:Nat} (h:n<=4096):jj (n:Int)=true:=decide_eq_true (by rw [Wv];exact SD h (by decide))
theorem dG {n:Nat} (h:n<=4096):cG [it n]=some (Ec n):=if_pos (c:=(jj (n:Int)&&decide ((n:Int)<=4096))=true) (e:=none) (by refine (ug h).symm▸((decide_eq_true (show (n:Int)<=4096 from UN.mpr h)).symm▸ ?_);rfl)
section
theorem mH {e:Ex} {v u:J} {Y τ:St} (h:bk K v e Y=.ok u τ):jh K e .none v Y=.ok (some u) τ:=by show (bk K v e Y).bind aag=_;rw [h];rfl
theorem jE {f:J->St->aA St (Option J)} {a u:J} {l r:List J} {Y τ ρ:St} (h:f a Y=.ok (some u) τ) (h2:each f l τ=.ok r ρ):each f (a::l) Y=.ok (u::r) ρ:=by refine (?_:(f a Y).calm.bind _=_);rw [h];refine (?_:(each f l τ).bind _=_);rw [h2];rfl
theorem E6 {f:J->St->aA St (Option J)} {a:J} {l r:List J} {Y τ ρ:St} (h:f a Y=.ok none τ) (h2:each f l τ=.ok r ρ):each f (a::l) Y=.ok r ρ:=by refine (?_:(f a Y).calm.bind _=_);rw [h];refine (?_:(each f l τ).bind _=_);rw [h2];rfl
theorem lA {e:Ex} {Y:St} {g:Nat->J} {n:Nat} (h: ∀i,i<n->bk K (it i) e Y=.ok (g i) Y):each (jh K e .none) ((Ec n).map .int) Y=.ok ((TR n).map g) Y:=by
 have H: ∀l:List Nat,(∀i∈l,bk K (it i) e Y=.ok (g i) Y)->each (jh K e .none) ((l.map λk:Nat=>(k:Int)).map .int) Y=.ok (l.map g) Y:=λl=>by
  induction l with
  |nil=>exact λz=>rfl
  |cons a l ih=>exact λh=>jE (mH (h a (.head _))) (ih λi hi=>h i (.tail _ hi))
 exact H _ λi hi=>h i (Wr.mp hi)
end
theorem jI {f:J->St->aA St bw} {a v:J} {l:List J} {Y τ:St} (h:f a Y=.ok (.ret v) τ):cU f (a::l) Y=.ok (.ret v) τ:=by show (f a Y).calm.bind _=_;rw [h];rfl
theorem bS {f:J->St->aA St bw} {a:J} {l:List J} {Y τ:St} {r:aA St bw} (h:f a Y=.ok .next τ∨f a Y=.ok .cont τ) (h2:cU f l τ=r):cU f (a::l) Y=r:=by refine (?_:(f a Y).calm.bind _=_);rcases h with h|h<;>(exact (h).symm▸(h2))
theorem gY {c:St->aA St J} {f:St->aA St bw} {k:Nat} {Y τ ρ:St} {r:aA St bw} (h:c Y=.ok (.bool true) τ) (h2:f τ=.ok .next ρ) (h3:ja c f k ρ=r):ja c f (k+1) Y=r:=by refine (?_:(c Y).calm.bind _=_);rw [h];refine (?_:(f τ).calm.bind _=_);exact (h2).symm▸(h3)
theorem wK {c:St->aA St J} {f:St->aA St bw} {k:Nat} {Y τ ρ:St} {v:J} (h:c Y=.ok (.bool true) τ) (h2:f τ=.ok (.ret v) ρ):ja c f (k+1) Y=.ok (.ret v) ρ:=by refine (?_:(c Y).calm.bind _=_);rw [h];refine (?_:(f τ).calm.bind _=_);rw [h2];rfl
theorem dB {c:St->aA St J} {f:St->aA St bw} {k:Nat} {Y τ:St} (h:c Y=.ok (.bool false) τ):ja c f (k+1) Y=.ok .next τ:=by refine (?_:(c Y).calm.bind _=_);refine (h).symm▸ ?_;rfl
/-!the RW keys and values -/
noncomputable def F5:List B:=[[],[97],[97,0],[98],[255]]
noncomputable def jM (u:Nat):B:=F5[u]?.getD []
theorem Qj {u:Nat} (h:u<5):F5[u]? =some (jM u):=by unfold jM;rw [Sn (show u<F5.length from h)];rfl
theorem yV {u:Nat}:(jM u).length<=2:=by
 unfold jM;cases h:F5[u]? with
 |none=>decide
 |some b=>exact (show ∀b∈F5,b.length<=2 by decide) b (Sk h)
theorem oY (n:Nat) (hs:U) {u:Nat} (h:u<5):ak (n+1) (.of 20) [it u] hs=.ok (.bytes (jM u)) hs.bY:=aF λH=>H ((.O (F5.map .bytes))) hs.bY (aS rfl) ((.bytes (jM u))) (jo _ (by refine (SA).symm▸ ?_;refine (Qj h).symm▸ ?_;rfl))
theorem CX {x k:Nat} (h:x<2^64) (hk:k<=64):gK .pow (it x) (it k)=some (it (x^k)):=map_if (by refine (sR h).symm▸((decide_eq_true (TF k)).symm▸ ?_);refine (decide_eq_true (show (k:Int)<=64 from UN.mpr hk)).symm▸ ?_;rfl) (by rw [WJ,<-Xg])
theorem bT {x:Int} {a b:Nat} (e:x=a) (h:0<b) (h2:b<2^64):gK .fdiv (.int x) (it b)=some (it (a/b)):=by subst e;exact PS (TM.mpr h) (by rw [Wv];exact h2)
theorem bO {x:Int} {a b:Nat} (e:x=a) (h:0<b):gK .mod (.int x) (it b)=some (it (a%b)):=by subst e;exact Pz (TM.mpr h)
theorem uA (q:Nat):(0:Int)- -(q:Int)=q:=by rw [Zm,Int.neg_neg]
noncomputable def Pp:Ex:=.bin .mod (.bin .fdiv (.bin .sub (.lit (.int 0)) (.item (.var 0) (.lit (.int 1)))) (.bin .pow (.lit (.int 256)) .cvar)) (.lit (.int 256))
noncomputable abbrev neg (q:Nat):J:=.int (-(q:Int))
theorem B4 (n:Nat) (hs:U) (a c:J) (r:List J) {q i:Nat} (hi:i<8):bk (ak n) (it i) Pp ⟨[.bW (a::neg q::c::r)],hs⟩=.ok (it (q/256^i%256)) ⟨[.bW (a::neg q::c::r)],hs⟩:=dU λH=>H _ (nO _ rfl) _ (CX (by decide) (Sl (Tj hi) (by decide))) _ (bT (uA q) (ZD (by decide)) (Sx (Xo (by decide) hi) (by decide))) _ (bO rfl (by decide))
theorem le7 {q k:Nat} (h:k<256):le 8 (q*256+k)=SH k::le 7 q:=by refine (?_:SH _::le 7 _=_);rw [<-ofNat_mod,Uz,Nat.add_mul_mod_self_right,ofNat_mod,Nat.add_mul_div_right _ _ (by decide),Nat.div_eq_of_lt h,TX]
theorem aak {u:B} {q k:Nat} (h:k<256):u++[SH k]++le 7 q=kb u (q*256+k):=by rw [kb,le7 h,SG];rfl
theorem pQ (n:Nat) (hs:U) {u q k:Nat} (hu:u<5) (hk:k<256) (r:List J):ak (n+2) (.of 21) [.bW (it u::neg q::neg k::r)] hs=.ok (.bytes (kb (jM u) (q*256+k))) (hs.iP 3):=by
 have l2:(jM u).length<=2:=yV;exact aF λH=>H _ (nO _ rfl) _ (oY n hs hu) _ (nO _ rfl) _ _ (aS rfl) ((.bytes [SH k])) (by
  rw [uA];exact iK _ (l:=[k]) (λi hi=>by
   cases hi with
   |head=>exact hk
   |tail _ h=>cases h) rfl) _ (cY (Sl (Tw l2 1) (by decide))) _ (dG (by decide)) ((its ((TR 7).map λi=>q/256^i%256))) ((hs.iP 2)) (by rw [its,Uo];exact lA λi hi=>B4 (n+1) _ _ _ _ (Tu hi)) _ _ (aS (cH _)) _ (iK _ (λi hi=>by refine ay (Tr.mp hi) λj z cK=> ?_;clear hi;subst cK;exact (mod_lt (by decide))) (JK 7 q).symm) ((.bytes (kb (jM u) (q*256+k)))) (by exact (aak hk)▸(cY (by refine (Sq).symm▸ ?_;rw [dX];exact Sl (Tw (Tw l2 1) 7) (by decide))))
noncomputable def vb' (u i:Nat):B:=[SH (65+u),SH i]
theorem vd (n:Nat) (hs:U) {u i:Nat} (hu:u<5) (hi:i<256) (a b:J) (r:List J):ak (n+1) (.of 22) [.bW (it u::a::b::it i::r)] hs=.ok (.bytes (vb' u i)) hs.bY:=by
 exact aF λH=>H ((it u)) (nO _ rfl) ((it i)) (nO _ rfl) ((.O (its [65+u,i]))) hs.bY (aS rfl) ((.bytes (vb' u i))) (iK _ (λj hj=>by
  cases hj with
  |head=>exact TL (Vj hu 65) (by decide)
  |tail _ hj=>
   cases hj with
   |head=>exact hi
   |tail _ h=>cases h) rfl)
noncomputable def gZ:Nat->Nat->B
 |0,m=>[SH m]
 |k+1,m=>if m<128 then [SH m] else SH (m%128+128)::gZ k (m/128)
theorem eH (h:m<128):gZ k m=[SH m]:=by
 cases k with
 |zero=>rfl
 |succ k=>exact if_pos h
theorem jy (h: ¬m<128):gZ (k+1) m=SH (m%128+128)::gZ k (m/128):=if_neg h
theorem Jj: ∀k m,(gZ k m).length<=k+1:=by
 intro l_;induction l_ with
 |zero=>exact @λz=>Sv _
 |succ k aG=>
  exact @λm=>by
   by_cases h:m<128;·rw [eH h];exact TA _ _
   ·rw [jy h];exact Vc (aG _)
theorem BZ (h:m<128^(k+2)):m/128<128^(k+1):=Vx (by rw [<-XU];exact h)
noncomputable def OX:Ex×Ss:=match wZ with
 | .cons _ (.cons (.while c b) _)=>(c,b)
 |_=>(.cvar,.nil)
theorem Rr {i:Nat} (h:i<256):Td J.bytes (iB Y (.O (its [i])))=some (.bytes [SH i]):=iK Y (λj hj=>by
 cases hj with
 |head=>exact h
 |tail _ h=>cases h) rfl
def OW (n k m j:Nat) (out:B) (hs:U):Prop:= ∃m' out' aJ,kW (ak n) OX.1 OX.2 (k+1+j) ⟨[it m,.bytes out],hs⟩=.ok .next ⟨[it m',.bytes out'],aJ⟩/\m'<128/\out'++[SH m']=out++gZ k m/\bG hs aJ/\out'.length<=100
theorem rA (h:m<128) (ho:out.length+k<=100):OW n k m j out hs:=by refine d7 m out hs ?_ h (by rw [eH h]) (.refl hs) (Sl (SI _ _) ho);rw [TY];exact dB (dU λH=>(H).trans (show (aA.ok (.bool (mY 127 m)) ⟨[it m,.bytes out],hs⟩:aA St J)=.ok (.bool false) ⟨[it m,.bytes out],hs⟩ from (by refine (dg (Uk h)).symm▸ ?_;rfl)))
theorem yr (n:Nat): ∀(k m j:Nat) (out:B) (hs:U),m<128^(k+1)->out.length+k<=100->OW n k m j out hs:=by
 intro l_;induction l_ with
 |zero=>exact @λz z z z hm ho=>rA hm ho
 |succ k aG=>
  exact @λm j out hs hm ho=>by
   by_cases h:m<128;·exact rA h ho
   ·refine gH (aG (m/128) j (out++[SH (m%128+128)]) hs.bY (BZ hm) (by rw [Sq,TU,Uz _ k];exact ho)) λm' out' aJ e r1 r2 r3 r4=>d7 m' out' aJ ?_ r1 (by rw [r2,jy h,SG];rfl) ((bG.bY hs).trans r3) r4;rw [TY];refine gY (τ:=⟨[it m,.bytes out],hs⟩) (ρ:=⟨[it (m/128),.bytes (out++[SH (m%128+128)])],hs.bY⟩) (dU λH=>(H).trans (show (aA.ok (.bool (mY 127 m)) ⟨[it m,.bytes out],hs⟩:aA St J)=.ok (.bool true) ⟨[it m,.bytes out],hs⟩ from (by refine (dW (WI (SJ h))).symm▸ ?_;rfl))) ?_ e;exact bg λH=>H _ (bO rfl (by decide)) _ _ (aS rfl) _ (Rr (Vy ((mod_lt (b:=128) (by decide))) 128)) _ (cY (Sl (Tw (Sl (SI _ _) ho) 1) (by decide))) _ (bT rfl (by decide) (by decide))
theorem zB (n:Nat) (hs:U) (hm:m<128^(k+1)) (hk:k<100) {R_:Prop} (k_: ∀aJ,ak (n+1) (.of 23) [it m] hs=.ok (.bytes (gZ k m)) aJ->bG hs aJ->R_):R_:=by refine gH (yr n k m (99-k) [] hs hm (by rw [WX,TX];exact Tj hk)) λm' out' aJ e r1 r2 r3 r4=> ?_;rw [TY,UD (Uk hk)] at e;refine k_ aJ.bY ?_ (r3.trans (bG.bY aJ));exact aF λH=>H _ _ e _ _ (aS rfl) _ (Rr (TL r1 (by decide))) ((.bytes (gZ k m))) (by refine (WW (gZ k m))▸((r2)▸ ?_);exact cY (Sl (Tw r4 1) (by decide)))
theorem U.bR (Y:U) (o:gm):(Y.new o).h Y.n=some o:=if_pos rfl
theorem U.bA (Y:U) (x:Nat) (o:gm):(Y.set x o).h x=some o:=if_pos rfl
theorem U.bM {Y:U} (h:y≠x):(Y.set x o).h y=Y.h y:=if_neg h
theorem U.fh {Y:U} (h:y≠Y.n):(Y.new o).h y=Y.h y:=if_neg h
theorem U.ext' {Y τ:U} (h: ∀y,Y.h y=τ.h y) (n:Y.n=τ.n):Y=τ:=by cases Y;cases τ;subst n;exact congrArg (U.mk · _) (funext h)
theorem U.set_set (Y:U) (x:Nat) (o p:gm):(Y.set x o).set x p=Y.set x p:=U.ext' (λy=>by
 show (if _ then _ else if _ then _ else _)=(if _ then _ else _);by_cases h:y=x;·rw [if_pos h,if_pos h]
 ·rw [if_neg h,if_neg h,if_neg h]) rfl
theorem U.fN (Y:U) (o p:gm):(Y.new o).set Y.n p=Y.new p:=U.ext' (λy=>by
 show (if _ then _ else if _ then _ else _)=(if _ then _ else _);by_cases h:y=Y.n;·rw [if_pos h,if_pos h]
 ·rw [if_neg h,if_neg h,if_neg h]) rfl
theorem BW (h:Y.h x=some (.bar b)):Td J.bytes (iB Y (.ref x))=some (.bytes b):=by
 refine (?_:Td _ (match Y.h x with
  |some (.bar b)=>some b
  |some (.O l)=>_
  |_=>_)=_);refine (h).symm▸ ?_;rfl
theorem NP:tF .shr (it x) (it k)=some (it (x/2^k)):=map_if (nn2 x k) (by refine (?_:_=J.int ((x/2^k:Nat):Int));rw [WJ,Z9,Xg];rfl)
theorem DY (h:x|||y=z):tF .bor (it x) (it y)=some (it z):=map_if (nn2 x y) (by refine (h)▸ ?_;rfl)
noncomputable def aap:Ex×Ss:=match lE with
 | .cons _ (.cons _ (.cons (.while c b) _))=>(c,b)
 |_=>(.cvar,.nil)
def aaJ (n:Nat) (w:J) (k m j:Nat) (out:B) (hs:U):Prop:= ∃m' out',kW (ak n) aap.1 aap.2 (k+1+j) ⟨[it m,w,.ref hs.n],hs.new (.bar out)⟩=.ok .next ⟨[it m',w,.ref hs.n],hs.new (.bar out')⟩/\m'<128/\out'++[SH m']=out++gZ k m/\out'.length<=100
theorem IP (h:m<128) (ho:out.length+k<=100):aaJ n w k m j out hs:=by refine nN m out ?_ h (by rw [eH h]) (Sl (SI _ _) ho);rw [TY];exact dB (dU λH=>(H).trans (show (aA.ok (.bool (nle 128 m)) ⟨[it m,w,.ref hs.n],hs.new (.bar out)⟩:aA St J)=.ok (.bool false) ⟨[it m,w,.ref hs.n],hs.new (.bar out)⟩ from (by rw [BJ h])))
theorem Ma (n:Nat) (w:J): ∀(k m j:Nat) (out:B) (hs:U),m<128^(k+1)->out.length+k<=100->aaJ n w k m j out hs:=by
 intro l_;induction l_ with
 |zero=>exact @λz z z z hm ho=>IP hm ho
 |succ k aG=>
  exact @λm j out hs hm ho=>by
   by_cases h:m<128;·exact IP h ho
   ·refine xx (aG (m/128) j (out++[SH (m%128+128)]) hs (BZ hm) (by rw [Sq,TU,Uz _ k];exact ho)) λm' out' e r1 r2 r4=>nN m' out' ?_ r1 (by rw [r2,jy h,SG];rfl) r4;rw [TY];have h0:(hs.new (.bar out)).h hs.n=some (.bar out):=U.bR _ _;refine gY (τ:=⟨[it m,w,.ref hs.n],hs.new (.bar out)⟩) (ρ:=⟨[it (m/128),w,.ref hs.n],hs.new (.bar (out++[SH (m%128+128)]))⟩) (dU λH=>(H).trans (show (aA.ok (.bool (nle 128 m)) ⟨[it m,w,.ref hs.n],hs.new (.bar out)⟩:aA St J)=.ok (.bool true) ⟨[it m,w,.ref hs.n],hs.new (.bar out)⟩ from (by rw [A9 (SJ h)]))) ?_ e;exact bg λH=>(H _ h0 _ (iI (Uy m 7)) _ (qK (lS (b:=1) (k:=7) ((mod_lt (b:=128) (by decide))))) _ h0 ⟨TF _,TM.mpr (Vy ((mod_lt (b:=128) (by decide))) 128),(SD (Sl (SI _ _) ho) (by decide))⟩ _ (U.fN _ _ _) _ NP)
theorem tD (n:Nat) (hs:U) {k m:Nat} (hm:m<128^(k+1)) (hk:k<=8) {R_:Prop} (k_: ∀aJ,ak (n+2) (.of 2) [it m] hs=.ok (.bytes (gZ k m)) aJ->bG hs aJ->R_):R_:=by
 by_cases h:m<128;·exact k_ hs.bY (aF λH=>H _ (A9 (Tq m)) _ (dW h) _ _ (aS rfl) ((.bytes (gZ k m))) (by exact (eH h).symm▸(Rr (TL h (by decide))))) (bG.bY hs)
 ·refine xx (Ma n (it 18446744073709551615) k m (99-k) [] hs hm (by rw [WX,TX];exact Sl hk (by decide))) λm' out' e r1 r2 r4=> ?_;rw [TY,UD (Sl hk (by decide))] at e;have h0:(hs.new (.bar out')).h hs.n=some (.bar out'):=U.bR _ _;have h2:(hs.new (.bar (out'++[SH m']))).h hs.n=some (.bar (gZ k m)):=by exact (r2).symm▸(U.bR _ _)
  refine k_ (hs.new (.bar (out'++[SH m']))) ?_ (bG.new _ _);have W:ak (n+1) (.of 0) [it m,it 18446744073709551615] hs=.ok (.bytes (gZ k m)) (hs.new (.bar (out'++[SH m']))):=aF λH=>H _ Nc _ (dg (Sl (Tj (Sx hm (Zr (by decide) (Vc hk)))) (by decide))) _ _ e _ h0 _ h0 ⟨TF _,TM.mpr (TL r1 (by decide)),SD r4 (by decide)⟩ _ (U.fN _ _ _) _ (BW h2);exact aF λH=>H _ (A9 (Tq m)) _ (dg (SJ h)) _ W
noncomputable def acK:Ss:=match nv with
 | .cons _ (.cons _ (.cons _ (.cons (.forR _ _ b) _)))=>b
 |_=>.nil
theorem EM (n:Nat) (hs:U) (d:B) (w:J) (most:Nat): ∀(k m acc s:Nat) (pre post:B) (l:List J) (turn o:J),d=pre++(gZ k m++post)->m<128^(k+1)->acc<2^s->s+7*k<=57->acc+m*2^s<=most->k<l.length-> ∀{R_:Prop} (k_: ∀Y,cU (cA (ak n) (.name 6) acK) l ⟨[.bytes d,it pre.length,w,it most,it acc,it s,turn,o],hs⟩=.ok (.ret (.bW [it (acc+m*2^s),it (pre.length+(gZ k m).length)])) Y->Y.hs=hs->R_),R_
 |k,m,acc,s,pre,post,[],turn,o,_,_,_,_,_,hl,_,k_=>absurd hl (UK _)
 |k,m,acc,s,pre,post,a::l,turn,o,hd,hm,ha,hk,hmo,hl,_,k_=>by
  have aba:s<=57:=Sl (SI _ _) hk;by_cases h:m<128;·
   rw [eH h] at hd k_;have g:d[pre.length]? =some (SH m):=by rw [hd];exact nS (i:=0) rfl rfl
   exact k_ _ (jI (bg λH=>H _ (BJ (Sj.mp g).1) _ ((B9 hs g).trans (by rw [u8,Vd (TL h (by decide))]):cz hs (.bytes d) (it pre.length)=some (it m)) _ (iI ((Uy m 7).trans (Vd h))) _ (oG (TL h (by decide)) (Sl aba (by decide))) _ (DY (lS ha)) _ (dW h) _ (dg hmo))) rfl
  ·cases k with
   |zero=>exact absurd hm h
   |succ k=>
    rw [jy h] at hd k_;have g:d[pre.length]? =some (SH (m%128+128)):=by rw [hd];exact nS (i:=0) rfl rfl
    have e1:acc+m%128*2^s+m/128*2^(s+7)=acc+m*2^s:=by rw [TU,Nat.pow_add,VC (2^s) (2^7),<-Nat.mul_assoc,<-Nat.add_mul,VC (m/128),YB m 128]
    have a2:acc+m%128*2^s<2^(s+7):=by rw [Nat.pow_add,VC (2^s)];exact Sx (Vy ha _) (by rw [Uz,<-Nat.succ_mul];exact Nat.mul_le_mul_right _ (Uw ((mod_lt (b:=128) (by decide)))))
    refine EM (k_:=λY e he=> ?_) n hs d w most k (m/128) (acc+m%128*2^s) (s+7) (pre++[SH (m%128+128)]) post l a (it (m%128+128)) (by rw [hd,SG];rfl) (BZ hm) a2 (by rw [TU,Uz 7];exact hk) (by rw [e1];exact hmo) (Ze hl);rw [e1,Sq] at e;refine k_ Y (bS (.inl (bg λH=>H _ (BJ (Sj.mp g).1) _ ((B9 hs g).trans (by rw [u8,Vd (Vy ((mod_lt (b:=128) (by decide))) 128)]):cz hs (.bytes d) (it pre.length)=some (it (m%128+128))) _ (iI (z:=m%128) ((Uc (Uy _ 7) ((Nat.add_mod_right (m%128) 128).trans (Nat.mod_mod m 128))))) _ (oG (TL ((mod_lt (b:=128) (by decide))) (by decide)) (Sl aba (by decide))) _ (DY (lS ha)) _ (dg (TA _ _)))) ?_) he;rw [show pre.length+(SH (m%128+128)::gZ k (m/128)).length=pre.length+[SH (m%128+128)].length+(gZ k (m/128)).length by rw [TU,Uz [_].length];rfl];exact e
theorem rE (n:Nat) (hs:U) (hd:d=pre++(gZ k m++post)) (hm:m<128^(k+1)) (hk:k<t) (ht:t<=10) (hk8:k<=8) (hmo:m<=most):ak (n+1) (.of 1) [.bytes d,it pre.length,it t,it most] hs=.ok (.bW [it m,it (pre.length+(gZ k m).length)]) hs:=by refine EM (k_:=λY e he=> ?_) n hs d (it t) most k m 0 0 pre post ((Ec t).map .int) .ah .ah hd hm TV (by rw [TX];exact Sl (Nat.mul_le_mul_left 7 hk8) (by decide)) (by rw [TX,Ye,Nat.mul_one];exact hmo) (by rw [Sp,Ec,Sp,US];exact hk);rw [TX,Ye,Nat.mul_one] at e;refine aF λH=>(H _ Nc (.ret (.bW [it m,it (pre.length+(gZ k m).length)])) Y ?_).trans (((he)▸rfl));unfold jg;exact (dG (Sl ht (by decide))).symm▸(e)
theorem E5 (h: ¬m<128) (hm:m<128^(k+1)): ∃j,k=j+1:=by
 cases k with
 |zero=>exact absurd hm h
 |succ k=>exact ⟨k,rfl⟩
theorem Lm (k m:Nat):0<(gZ k m).length:=by
 cases k with
 |zero=>exact TV
 |succ k=>
  by_cases h:m<128;·rw [eH h];exact TV
  ·rw [jy h];exact Ul _
theorem Jh {pre l post:B} (h:0<l.length):pre.length<(pre++(l++post)).length:=by rw [Sq,Sq];exact UL (Sx h (SI _ _))
theorem dS (n:Nat) (hs:U) (hd:d=pre++(gZ k m++post)) (hp:p=pre.length) (hm:m<128^(k+1)) (hk:k<=8):ak (n+2) (.of 3) [.bytes d,it p] hs=.ok (.bW [it m,it (p+(gZ k m).length)]) hs:=by
 have hl:p<d.length:=by rw [hd];exact (hp).symm▸(Jh (Lm k m))
 by_cases h:m<128;·
  have g:cz hs (.bytes d) (it p)=some (it m):=by have:=B9 hs (d:=d) (k:=p) (u:=SH m) (by refine (hd).symm▸((eH h).symm▸ ?_);exact nS (i:=0) hp rfl);rw [u8,Vd (TL h (by decide))] at this;exact this
  exact (show (gZ k m).length=1 by rw [eH h];rfl).symm▸(aF λH=>H _ (A9 (Tq _)) _ (dW hl) _ g _ (dW h) _ g)
 ·have m64:m<=18446744073709551615:=Sl (Tj (Sx hm (Zr (by decide) (Vc hk)))) (by decide);have R:=rE n hs (t:=10) (most:=18446744073709551615) hd hm (SD hk (by decide)) (Sv _) hk m64;replace R:=(hp).symm▸R;refine fU (E5 h hm) λj acs=> ?_;clear hm hk;subst acs;have um:(SH (m%128+128)).toNat=m%128+128:=by rw [u8,Vd (Vy ((mod_lt (b:=128) (by decide))) 128)]
  have g:cz hs (.bytes d) (it p)=some (it (m%128+128)):=by have:=B9 hs (d:=d) (k:=p) (u:=SH (m%128+128)) (by refine (hd).symm▸((jy h).symm▸ ?_);exact nS (i:=0) hp rfl);rw [um] at this;exact this
  exact aF λH=>H _ (A9 (Tq _)) _ (dW hl) _ g _ (dg (TA _ _)) _ R
theorem gF (n:Nat) (hs:U) {m p:Nat} (hd:d=pre++(SH m::post)) (hp:p=pre.length) (h:m<128):ak (n+1) (.of 4) [.bytes d,it p] hs=.ok (.bW [it m,it (p+1)]) hs:=by
 have hl:p<d.length:=by rw [hd,hp];exact Jh (l:=[SH m]) TV
 have g:cz hs (.bytes d) (it p)=some (it m):=by have:=B9 hs (d:=d) (k:=p) (u:=SH m) (by rw [hd];exact nS (l:=[SH m]) (i:=0) hp rfl);rw [u8,Vd (TL h (by decide))] at this;exact this
 exact aF λH=>H _ (A9 (Tq _)) _ (dW hl) _ g _ (dW h) _ g
/-!instances made by plain assignments -/
mutual noncomputable def pureE (ls:List J):Ex->Option J
 | .lit v=>some v
 | .glob g=>some (zx g)
 | .var i=>(ls[i]?).bind λv=>match v with
  | .ah=>none
  |v=>some v
 | .neg a=>(pureE ls a).bind λv=>match v with
  | .int i=>some (.int (-i))
  |_=>none
 | .bW l=>(Hz ls l).map .bW
 | .attr a f=>(pureE ls a).bind λv=>match v with
  | .obj C fs=>if uD C f then o8 f fs else none
  |_=>none
 |_=>none noncomputable def Hz (ls:List J):ir->Option (List J)
 | .nil=>some []
 | .cons e l=>(pureE ls e).bind λv=>(Hz ls l).map λr=>v::r end
section
theorem ns' {α:Type} {a:α} {p:Prop} (h:none=some a):p:=(by cases h)
theorem dR {τ α β:Type} {o:aA τ α} {a:α} {s:τ} {f:α->τ->aA τ β} {r:aA τ β} (h:o=.ok a s) (h2:f a s=r):o.bind f=r:=by rw [h];exact h2
set_option tactic.hygienic true in mutual theorem o5: ∀(e:Ex) {v:J},pureE ls e=some v->bk K cv e ⟨ls,H⟩=.ok v ⟨ls,H⟩
 |e,v,h=>by
  cases e<;>first|exact ns' h|exact congrArg (λv=>aA.ok v (St.mk ls H)) (Sm h)|skip
  ·rename_i i;obtain ⟨u,h1,h2⟩:=SV.mp h;refine (?_:(match ls[i]? with
    |some .ah=>.bad
    |some v=>.ok v (St.mk ls H)
    |none=>.bad:aA St J)=_);refine (h1).symm▸ ?_;clear h1;cases u<;>first|exact ns' h2|exact congrArg (λv=>aA.ok v (St.mk ls H)) (Sm h2)
  ·rename_i a;obtain ⟨u,h1,h2⟩:=SV.mp h;refine dR (o5 a h1) ?_;clear h1;cases u<;>first|exact ns' h2|exact congrArg (λv=>aA.ok v (St.mk ls H)) (Sm h2)
  ·rename_i a f;obtain ⟨u,h1,h2⟩:=SV.mp h;refine dR (o5 a h1) ?_;clear h1;cases u<;>first|exact ns' h2|exact congrArg (aA.cC (St.mk ls H)) h2
  ·rename_i l;refine ay (Sz.mp h) λu h1 h2=> ?_;exact dR (A8 l h1) (by refine (h2)▸ ?_;rfl) theorem A8: ∀(l:ir) {v:List J},Hz ls l=some v->m5 K cv l ⟨ls,H⟩=.ok v ⟨ls,H⟩
 | .nil,_,h=>by obtain rfl:=Sm h;rfl
 | .cons e l,v,h=>by refine ay (SV.mp h) λu h1 h2=>ay (Sz.mp h2) λr h3 h4=> ?_;exact dR (o5 e h1) (dR (A8 l h3) (by refine (h4)▸ ?_;rfl)) end
end
noncomputable def QK (C:Cl) (ls:List J) (fs:List (Fd×J)) (s:S):Option (List (Fd×J)):=match s with
 | .setAttr o f e=>match o with
  | .var i=>match i with
   |0=>(pureE ls e).bind λv=>if uD C f&&decide (fs.length<100) then some (kI f v fs) else none
   |_=>none
  |_=>none
 |_=>none
noncomputable def El (C:Cl) (ls:List J):Ss->List (Fd×J)->Option (List (Fd×J))
 | .nil,fs=>some fs
 | .cons s l,fs=>(QK C ls fs s).bind λfs=>El C ls l fs
set_option tactic.hygienic true in theorem Dy {hs:U} (h:QK C (.aI C hs.n::a) fs s=some fs'):eB K s ⟨.aI C hs.n::a,hs.new (.cj fs)⟩=.ok .next ⟨.aI C hs.n::a,hs.new (.cj fs')⟩:=by
 cases s<;>first|exact ns' h|skip
 rename_i o f e;cases o<;>first|exact ns' h|skip
 rename_i i;cases i with
 |succ i=>exact ns' h
 |zero=>
  refine ay (SV.mp h) λv h1 h2=> ?_;by_cases z:(uD C f&&decide (fs.length<100))=true;·rw [if_pos z] at h2;refine dR (o5 e h1) ((?_:xM f v (.aI C hs.n) ⟨.aI C hs.n::a,hs.new (.cj fs)⟩=_));unfold xM;dsimp only;rw [U.bR];dsimp only;rw [if_pos z,U.fN,Sm h2]
  ·rw [if_neg z] at h2;exact ns' h2
theorem zV {C:Cl} {hs:U} {a:List J}: ∀{l:Ss} {fs fs':List (Fd×J)},El C (.aI C hs.n::a) l fs=some fs'->cu K l ⟨.aI C hs.n::a,hs.new (.cj fs)⟩=.ok .next ⟨.aI C hs.n::a,hs.new (.cj fs')⟩
 | .nil,_,_,h=>by refine (Sm h).symm▸ ?_;rfl
 | .cons s l,fs,fs',h=>by exact ay (SV.mp h) λg h1 h2=>dR (Dy h1) (zV h2)
theorem gq {f:Fn} {hs:U} (hl:((args.length+1==(b8 f).1)&&(b8 f).1==(b8 f).2)=true) (h:El C (.aI C hs.n::args) (nk f) fs=some fs'):ak (n+1) f (.aI C hs.n::args) (hs.new (.cj fs))=.ok .none (hs.new (.cj fs')):=by refine dD (Su.mp hl) λh1 h2=> ?_;unfold ak;rw [if_pos (show (J.aI C hs.n::args).length=(b8 f).1 from beq_iff_eq.mp h1),<-beq_iff_eq.mp h2,VW,List.replicate_zero,Ti,zV h]
/-!blocks -/
noncomputable def fW (r:B×B):B:=0::SH r.1.length::SH r.2.length::(r.1++r.2)
noncomputable def enc:List (B×B)->B
 |[]=>[]
 |r::R=>fW r++enc R
noncomputable abbrev L (R:List (B×B)):Nat:=(enc R).length
noncomputable def b7:B:=[0,0,0,0,1,0,0,0]
noncomputable def adP (o:J) (R:List (B×B)):List (Fd×J):=[((.of 27),.bytes (enc R++b7)),((.of 28),o),((.of 29),it (L R)),((.of 30),.O [it 0])]
noncomputable abbrev zU (o:J) (R:List (B×B)):J:=.obj (.of 4) (adP o R)
noncomputable def mL (R:List (B×B)) (c a:Nat) (k:B) (v:Nat):gm:=.cj [((.of 31),zU cS R),((.of 28),cS),((.of 32),it c),((.of 33),it a),((.of 34),it 0),((.of 35),.bytes k),((.of 36),it v)]
noncomputable abbrev mC (x:Nat):J:=.aI (.of 5) x
theorem uI: ∀A C:List (B×B),enc (A++C)=enc A++enc C:=by
 intro l_;induction l_ with
 |nil=>exact @λz=>rfl
 |cons r A aG=>exact @λC=>by refine (?_:fW r++enc (A++C)=_);rw [aG C,<-SG];rfl
section
variable (n:Nat) {hs:U} {R:List (B×B)} {x c a v:Nat} {k:B}
theorem j8 (h:hs.h x=some (mL R c a k v)):ak (n+1) (.of 48) [mC x] hs=.ok (.bool (mY c (L R))) hs:=aF λH=>H _ h _ h
theorem jc (h:hs.h x=some (mL R c a k v)) (hc:c<L R):ak (n+1) (.of 47) [mC x] hs=.ok .none hs:=aF λH=>H _ h _ h _ (BJ hc)
theorem g9 (h:hs.h x=some (mL R c a k v)):ak (n+1) (.of 46) [mC x] hs=.ok .none (hs.set x (mL R (L R) (L R) [] v)):=by have h1: ∀o,(hs.set x o).h x=some o:=λo=>U.bA _ _ _;have h2: ∀o p,(hs.set x o).set x p=hs.set x p:=λo p=>U.set_set _ _ _ _;exact aF λH=>H _ h _ h _ rfl _ (h1 _) _ (h1 _) _ (h2 _ _) _ (h1 _) _ (h2 _ _)
end
theorem aR (h:hs.h x=some (.cj fs)) (hm:kM C m=some f) (hc:decide (m=(.of 10))=false):bK hs (.aI C x) m=some f:=by unfold bK fieldsOf;dsimp only;rw [h];show (if m=(.of 10)/\_ then _ else _)=_;rw [if_neg λq=>of_decide_eq_false hc q.1];exact hm
def EU (r:B×B):Prop:=r.1.length<128/\r.2.length<128
theorem j3 (r:B×B):(fW r).length=r.1.length+r.2.length+3:=by refine (Sq).symm▸ ?_;rfl
theorem sy (h:R=A++r::C):L R=L A+((fW r).length+L C):=by rw [h];refine (?_:(enc (A++r::C)).length=_);rw [uI,Sq];exact congrArg _ Sq
theorem BQ {d a b c:B} (h:d=a++(b++c)) (hi:i=a.length) (hj:j=a.length+b.length):(d.take j).drop i=b:=by subst h hi hj;rw [<-SG,<-Sq,VQ,Xp]
section
variable (n:Nat) {hs:U} {R A C:List (B×B)} {r:B×B} {x c v:Nat} {k:B} {o:J}
theorem C7 (h:R=A++r::C):enc R++b7=enc A++(0::SH r.1.length::SH r.2.length::(r.1++(r.2++(enc C++b7)))):=by rw [h,uI,SG];refine (?_:enc A++((fW r++enc C)++b7)=_);rw [SG,fW];refine (?_:enc A++(0::_::_::((r.1++r.2)++(enc C++b7)))=_);rw [SG]
theorem p9 (h:R=A++r::C) (ok:EU r):ak (n+2) (.of 44) [zU o R,it (L A)] hs=.ok (.bW [it 0,it (L A+1+1+1),it (L A+1+1+1+r.1.length),it (L A+1+1+1+r.1.length+r.2.length)]) hs:=by have e:=C7 h;exact aF λH=>H _ (gF n hs (m:=0) e rfl (by decide)) _ (gF n hs (m:=r.1.length) (p:=L A+1) (pre:=enc A++[0]) (e.trans (SG (enc A) [0] _).symm) (Sq (bs:=[0])).symm ok.1) _ (gF n hs (m:=r.2.length) (p:=L A+1+1) (pre:=enc A++[0,SH r.1.length]) (e.trans (SG (enc A) [0,SH r.1.length] _).symm) (Sq (bs:=[0,SH r.1.length])).symm ok.2) _ (dg (by rw [sy h,j3];exact (Ln.n4 0x1428a0ca22328204028228128884a221288840)))
noncomputable def DM:Ex×Ss:=match jd with
 | .cons _ (.cons _ (.cons _ (.cons _ (.cons _ (.cons _ (.cons _ (.cons (.while c b) _)))))))=>(c,b)
 |_=>(.cvar,.nil)
theorem zh (h:hs.h x=some (mL R c a k v)) (ha:L R<=a):ak (n+2) (.of 52) [mC x] hs=.ok (.bool false) (hs.set x (mL R (L R) (L R) [] v)):=aF λH=>H _ h _ h _ (aR h rfl rfl) _ (g9 n h) _ (U.bA _ _ _) _ (A9 ha)
theorem ve (h:hs.h x=some (mL R c a k v)) (hR:R=A++r::C) (ok:EU r) (ha:a=L A):ak (n+3) (.of 52) [mC x] hs=.ok (.bool true) (hs.set x (mL R (L A) (L (A++[r])) r.1 (L A+1+1+1+r.1.length))):=by
 subst ha;have he:L (A++[r])=L A+1+1+1+r.1.length+r.2.length:=by rw [sy (A:=A) (C:=[]) rfl,j3];exact (Ln.n3 0x1628228128884a22128884028a20a223282040)
 have hlt:L A<L R:=by rw [sy hR,j3];exact (Ln.n4 0x48a2832888ca081000)
 refine (he).symm▸ ?_;let p1:=L A+1+1+1;let p2:=p1+r.1.length;let p3:=p2+r.2.length;let H0:U:=hs.set x (mL R (L R) (L R) [] v);let Y:St:=⟨[mC x,it (L A),.bytes k,it 0,it p1,it p2,it p3,.O [it 0]],H0⟩;have h1: ∀o,(hs.set x o).h x=some o:=λo=>U.bA _ _ _;have h2: ∀o p,(hs.set x o).set x p=hs.set x p:=λo p=>U.set_set _ _ _ _;have hw:kW (ak (n+2)) DM.1 DM.2 100 Y=.ok .next Y:=dB (dU λH=>H _ (h1 _) _ rfl);have hp:p1=(enc A++[0,SH r.1.length,SH r.2.length]).length:=(Sq (bs:=[0,SH r.1.length,SH r.2.length])).symm;have Mx:cN H0 (.bytes (enc R++b7)) (some (it p1)) (some (it p2))=some (.inl (.bytes r.1)):=by
  rw [Cy H0 rfl rfl];refine congrArg (λb=>some (aas (J.bytes b))) (BQ (a:=enc A++[0,SH r.1.length,SH r.2.length]) (c:=r.2++(enc C++b7)) ?_ ?_ ?_);·rw [SG];exact C7 hR
  ·exact hp
  ·exact congrArg (· +r.1.length) hp
 obtain ⟨b,hb⟩: ∃b,neq (L A) 0=b:=⟨_,rfl⟩;cases b;·exact aF λH=>H _ h _ h _ (aR h rfl rfl) _ (g9 (n+1) h) _ (h1 _) _ (BJ hlt) _ (h1 _) _ rfl _ (p9 n hR ok) _ Nc _ (h1 _) _ _ hw _ (h1 _) _ rfl _ hb _ rfl _ (h1 _) _ rfl _ rfl _ rfl _ (h1 _) _ Mx _ (cY (Sl (Vk (Tj ok.1) 0) (by decide))) _ (h1 _) _ (h2 _ _) _ (h1 _) _ (h2 _ _) _ (h1 _) _ (h2 _ _) _ (h1 _) _ (h2 _ _)
 ·exact aF λH=>H _ h _ h _ (aR h rfl rfl) _ (g9 (n+1) h) _ (h1 _) _ (BJ hlt) _ (h1 _) _ rfl _ (p9 n hR ok) _ Nc _ (h1 _) _ _ hw _ (h1 _) _ rfl _ hb _ rfl _ (h1 _) _ rfl _ rfl _ rfl _ (h1 _) _ Mx _ (cY (Sl (Vk (Tj ok.1) 0) (by decide))) _ (h1 _) _ (h2 _ _) _ (h1 _) _ (h2 _ _) _ (h1 _) _ (h2 _ _) _ (h1 _) _ (h2 _ _)
end
noncomputable def aM:Ss->Nat->S
 | .nil,_=>.pass
 | .cons s _,0=>s
 | .cons _ l,k+1=>aM l k
noncomputable def bf:S->Ex×Ss
 | .while c b=>(c,b)
 | .forL _ e b=>(e,b)
 | .forR _ _ b=>(.cvar,b)
 |_=>(.cvar,.nil)
section
variable {R:List (B×B)}
noncomputable def off (R:List (B×B)) (p:Nat):Nat:=L (R.take p)
noncomputable def gc (R:List (B×B)) (p:Nat):B:=(R[p]?.map TH).getD []
theorem tE (h:R[p]? =some r):R=R.take p++r::R.drop (p+1):=by obtain ⟨hp,e⟩:=Sj.mp h;refine (e)▸((Wt hp)▸ ?_);rw [VU]
theorem qH (h:R[p]? =some r):R.take (p+1)=R.take p++[r]:=by rw [ZP,h];rfl
theorem u0 (h:R[p]? =some r):off R (p+1)=off R p+(fW r).length:=by unfold off;rw [qH h];exact (sy (A:=R.take p) (C:=[]) rfl).trans (congrArg _ (acu _))
theorem fO (h:R.length<=p):off R p=L R:=by unfold off;rw [Vn h]
theorem zZ: ∀{p q:Nat},p<=q->off R p<=off R q:=λ{p q} h=>by
 induction h with
 |refl=>exact Sv _
 | @step m _ ih=>
  refine Sl ih ?_;cases e:R[m]? with
  |none=>refine (fO (UB.mp e)).symm▸ ?_;refine (fO (Tp (UB.mp e))).symm▸ ?_;exact Sv _
  |some r=>rw [u0 e];exact SI _ _
theorem fL (h:p<R.length): ∃r,R[p]? =some r:=⟨_,Sn h⟩
theorem Dp (h:p<q) (hp:p<R.length):off R p<off R q:=by refine fU (fL hp) λr e=>Sx ?_ (zZ (Uw h));rw [u0 e,j3];exact UL (Ul _)
def B7 (R:List (B×B)) (p v:Nat):Prop:= ∀r,R[p]? =some r->v=off R p+1+1+1+r.1.length
noncomputable abbrev bo (R:List (B×B)) (p v:Nat):gm:=mL R (off R p) (off R (p+1)) (gc R p) v
def BI (R:List (B×B)) (x p:Nat) (hs:U):Prop:= ∃v,hs.h x=some (bo R p v)/\B7 R p v
def yJ (R:List (B×B)) (n:Nat) (f:Fn) (args:List J) (r:J) (x p:Nat) (hs:U):Prop:= ∃v,ak n f (mC x::args) hs=.ok r (hs.set x (bo R p v))/\B7 R p v
variable (n:Nat) {hs:U} {x p c v:Nat} {k:B} (ok: ∀r∈R,EU r)
include ok in theorem iU (h:hs.h x=some (mL R c (off R p) k v)):yJ R (n+3) (.of 52) [] (.bool (mY p R.length)) x p hs:=by
 by_cases q:p<R.length;·
  refine fU (fL q) λr e=>⟨off R p+1+1+1+r.1.length,?_,λr' e'=> ?_⟩;·rw [dW q];have:=ve n h (tE e) (ok r (Sk e)) rfl;rw [<-qH e] at this;rw [show (off R p+1+1+1+r.1.length)=L (R.take p)+1+1+1+r.1.length from rfl];refine (?_:_=aA.ok _ (hs.set x (mL R (off R p) (off R (p+1)) (gc R p) _)));rw [show gc R p=r.1 by unfold gc;rw [e];rfl];exact this
  ·rw [e] at e';rw [Sm e']
 ·have q:=SJ q;have e:R[p]? =none:=UB.mpr q;refine ⟨v,?_,λr' e'=> ?_⟩;·refine (?_:_=aA.ok (J.bool (mY p R.length)) (hs.set x (mL R (off R p) (off R (p+1)) (gc R p) v)));refine (dg q).symm▸((zh (n+1) h (Ub (fO q).symm)).symm▸ ?_);refine (fO q).symm▸((fO (Tp q)).symm▸ ?_);refine (show gc R p=[] by unfold gc;refine (e).symm▸ ?_;rfl).symm▸ ?_;rfl
  ·rw [e] at e';exact nomatch e'
theorem gu (h:hs.h x=some (mL R c a k v)):ak (n+2) (.of 51) [mC x,it 0] hs=.ok .none (hs.set x (mL R (L R) (off R 0) [] v)):=by have h1: ∀o,(hs.set x o).h x=some o:=λo=>U.bA _ _ _;have h2: ∀o p,(hs.set x o).set x p=hs.set x p:=λo p=>U.set_set _ _ _ _;exact aF λH=>H _ (aR h rfl rfl) _ (g9 n h) _ (h1 _) _ (h2 _ _) _ (h1 _) _ rfl _ (h1 _) _ (h2 _ _)
theorem jt (h:yJ R m f args r x p (hs.set x o)) {R_:Prop} (k_: ∀v,ak m f (mC x::args) (hs.set x o)=.ok r (hs.set x (bo R p v))->B7 R p v->R_):R_:=by exact ay h λv e h=>k_ v (by rw [e,U.set_set]) h
include ok in theorem yl (h:BI R x p hs):yJ R (n+4) (.of 53) [] .none x 0 hs:=by refine ay h λv h z=> ?_;have h1:=U.bA hs x (mL R (L R) (off R 0) [] v);refine jt (k_:=λw e2 hw=> ?_) (iU n ok h1);exact aH w (aF λH=>H _ (aR h rfl rfl) _ (gu (n+1) h) _ (aR h1 rfl rfl) _ e2) hw
noncomputable def Ob:Ss:=.cons (.expr (.iA (.var 0) (.of 17) .nil)) .nil
include ok in theorem DC (ls:List J) (cd:Ex) (hb:b<=R.length) (hc: ∀p v,p<R.length->bk (ak (n+3)) .ah cd ⟨mC x::ls,hs.set x (bo R p v)⟩=.ok (.bool (mY (p+1) b)) ⟨mC x::ls,hs.set x (bo R p v)⟩): ∀(j k p v:Nat),p+1+j=b->B7 R p v-> ∀{R_:Prop} (k_: ∀w,kW (ak (n+3)) cd Ob (j+1+k) ⟨mC x::ls,hs.set x (bo R p v)⟩=.ok .next ⟨mC x::ls,hs.set x (bo R (p+j) w)⟩->B7 R (p+j) w->R_),R_:=by
 intro l_;induction l_ with
 |zero=>exact @λk p v hj hv z k_=>by have e:=hc p v (Sx (WI (Ub hj)) hb);rw [dg (Ub hj.symm)] at e;refine k_ v ?_ hv;rw [TX,Uz 1];exact dB e
 |succ j aG=>exact @λk p v hj hv z k_=>by have e:=hc p v (Sx (WI (hj▸SI _ _)) hb);rw [dW (by exact (hj)▸(UL (Ul j)))] at e;have h1:=U.bA hs x (bo R p v);refine jt (k_:=λw e2 hw=> ?_) (iU n ok h1);refine aG (k_:=λu e3 hu=> ?_) k (p+1) w (by exact (hj)▸((Ln.n2 0x1628a22104a22100a04a221288840))) hw;rw [show p+1+j=p+(j+1) by lia] at e3 hu;refine k_ u ?_ hu;rw [TY];refine gY e (ρ:=⟨mC x::ls,hs.set x (bo R (p+1) w)⟩) ?_ e3;exact bg λH=>H _ (aR h1 rfl rfl) _ e2
end
noncomputable def MV:B->Nat
 |[]=>0
 |b::r=>b.toNat+256*MV r
theorem Nm: ∀k t,MV (le k t)=t%256^k:=by
 intro l_;induction l_ with
 |zero=>exact @λt=>(Nat.mod_one t).symm
 |succ k aG=>exact @λt=>by refine (?_:(SH t).toNat+256*MV (le k (t/256))=_);rw [u8,aG,XU,Nat.mod_mul]
noncomputable def ku (a:B):B:=a.take (a.length-8)
noncomputable def kt (a:B):Nat:=MV (a.drop (a.length-8))
theorem EE (u:B) (t:Nat):(kb u t).length-8=u.length:=by rw [jG,Nat.add_sub_cancel]
theorem wh (u:B) (t:Nat):ku (kb u t)=u:=by unfold ku;rw [EE,kb,VQ]
theorem ER (u:B) (h:t<2^64):kt (kb u t)=t:=by unfold kt;rw [EE,kb,Xp,Nm];exact Vd h
def eF (a:B):Prop:= ∃u t,a=kb u t/\t<2^64
noncomputable def kc (a b:B):Int:=Nv (ku a) (kt a) (ku b) (kt b)
theorem qu (n:Nat) (hs:U) (ha:eF a) (hb:eF b):ak (n+4) (.of 39) [cS,.bytes a,.bytes b] hs=.ok (.int (kc a b)) hs:=by refine dM ha λu t cK ht=> ?_;subst cK;refine dM hb λv s d9 aJ=> ?_;clear hb;subst d9;unfold kc;rw [wh,wh,ER u ht,ER v aJ];exact zD n hs u v ht aJ
theorem U.zO {hs:U} (h:hs.h x=some o):hs.set x o=hs:=U.ext' (λy=>by
 show (if _ then _ else _)=_;by_cases q:y=x;·rw [if_pos q,q,h]
 ·rw [if_neg q]) rfl
structure Lb (R:List (B×B)) (tg:B) (q:Nat):Prop where
 le:q<=R.length
 lo: ∀i r,i<q->R[i]? =some r->kc r.1 tg<0
 bP: ∀r,R[q]? =some r->0<=kc r.1 tg
 hi: ∀i r,q<i->R[i]? =some r->0<kc r.1 tg
structure tT (R:List (B×B)):Prop where
 fW: ∀r∈R,EU r
 key: ∀r∈R,eF r.1
 few:R.length<=90
section
variable {R:List (B×B)} (n:Nat) {hs:U} {x p c v:Nat} {k tg:B} (ok:tT R)
theorem i8 (h:R[p]? =some r):gc R p=r.1:=by unfold gc;rw [h];rfl
theorem yC (hp:p<=R.length) (hq:q<=R.length):mY (off R p) (off R q)=mY p q:=by
 by_cases h:p<q;·rw [dW h,dW (Dp h (Sx h hq))]
 ·rw [dg (SJ h),dg (zZ (SJ h))]
theorem zG (hp:p<=R.length) (h:BI R x p hs):ak (n+1) (.of 48) [mC x] hs=.ok (.bool (mY p R.length)) hs:=by refine ay h λv h z=>(j8 n h).symm▸((yC hp (Sv _))▸ ?_);refine (fO (Sv _)).symm▸ ?_;rfl
theorem wg (hp:p<R.length):off R p<L R:=by rw [<-fO (Sv R.length)];exact Dp hp hp
theorem PG (h:BI R x p hs) (hr:R[p]? =some r):ak (n+2) (.of 49) [mC x] hs=.ok (.bytes r.1) hs:=by exact ay h λv h z=>(i8 hr)▸(aF λH=>H _ (aR h rfl rfl) _ (jc n h (wg (Sj.mp hr).1)) _ h)
theorem zM (h:BI R x p hs) (hr:R[p]? =some r):ak (n+2) (.of 50) [mC x] hs=.ok (.bytes r.2) hs:=by
 refine ay h λv h hv=> ?_;have Mx:cN hs (.bytes (enc R++b7)) (some (it v)) (some (it (off R (p+1))))=some (.inl (.bytes r.2)):=by
  rw [Cy hs rfl rfl];have el:v=(enc (R.take p)++([0,SH r.1.length,SH r.2.length]++r.1)).length:=by rw [hv r hr,Sq,Sq];exact TU (off R p) 3 r.1.length
  refine congrArg (λb=>some (aas (J.bytes b))) (BQ (a:=enc (R.take p)++([0,SH r.1.length,SH r.2.length]++r.1)) (c:=enc (R.drop (p+1))++b7) ?_ el ?_);·rw [SG,SG];exact (C7 (tE hr))
  ·rw [<-el,hv r hr,u0 hr,j3];exact (Ln.n3 0x1628228128884a22128884028a223282040)
 exact aF λH=>H _ (aR h rfl rfl) _ (jc n h (wg (Sj.mp hr).1)) _ h _ h _ h _ Mx
include ok in theorem NU (h:BI R x p hs) (hp:p<R.length):yJ R (n+4) (.of 57) [] .none x (p+1) hs:=by exact ay h λv h z=>ay (iU n ok.fW h) λw e2 hw=>aH w (aF λH=>H _ (aR h rfl rfl) _ (jc (n+2) h (wg hp)) _ (aR h rfl rfl) _ e2) hw
include ok in theorem Bl (h:BI R x p hs) (h0:0<R.length):yJ R (n+4) (.of 54) [] .none x (R.length-1) hs:=by
 refine ay h λv h z=> ?_;have h1:=U.bA hs x (mL R (L R) (off R 0) [] v);refine jt (k_:=λw e2 hw=> ?_) (iU n ok.fW h1);refine DC (k_:=λu e3 hu=> ?_) n (hs:=hs) (x:=x) ok.fW [] (bf (aM gO 2)).1 (Sv R.length) (λp v hp=>by
  have h2:=U.bA hs x (bo R p v);have e4:=j8 (n+2) h2;rw [dW (wg hp)] at e4;have e5:mY (off R (p+1)) (L R)=mY (p+1) R.length:=by refine (yC (Uw hp) (Sv _))▸((fO (Sv R.length)).symm▸ ?_);rfl
  exact dU λH=>(H _ (aR h2 rfl rfl) _ e4 _ rfl _ h2 _ h2).trans (show (aA.ok (.bool (mY (off R (p+1)) (L R))) ⟨[mC x],hs.set x (bo R p v)⟩:aA St J)=.ok (.bool (mY (p+1) R.length)) ⟨[mC x],hs.set x (bo R p v)⟩ from by rw [e5])) (R.length-1) (100-R.length) 0 w (by exact (Ln.n1 0x1858028b221008852008) h0) hw;rw [TX,TS h0,UD (Sl ok.few (by decide))] at e3;rw [TX] at hu;exact aH u (aF λH=>H _ (aR h rfl rfl) _ h _ (gu (n+1) h) _ (aR h1 rfl rfl) _ e2 _ _ e3) hu
include ok in theorem MI (h:BI R x p hs) (hp:p<R.length):yJ R (n+4) (.of 58) [] .none x (if p=0 then R.length else p-1) hs:=by
 refine ay h λv h hv=> ?_;have e0:=jc (n+2) h (wg hp);have m0:bK hs (mC x) (.of 13)=some (.of 47):=aR h rfl rfl;clear hv;cases p with
 |zero=>
  refine (if_pos rfl).symm▸ ?_;have hz:bo R R.length v=mL R (L R) (L R) [] v:=by refine (?_:mL R (off R R.length) (off R (R.length+1)) (gc R R.length) v=_);refine (fO (Sv _)).symm▸((fO (T8 _)).symm▸ ?_);refine (show gc R R.length=[] by unfold gc;refine (Ua (Sv _)).symm▸ ?_;rfl).symm▸ ?_;rfl
  refine aH v ?_ (λr e=>by replace e:=(Ua (Sv _))▸e;cases e);refine (hz).symm▸ ?_;have hw:kW (ak (n+3)) (bf (aM eV 3)).1 (bf (aM eV 3)).2 100 ⟨[mC x,it (off R 0),it 0],hs⟩=.ok (.ret .none) ⟨[mC x,it (off R 0),it 0],hs.set x (mL R (L R) (L R) [] v)⟩:=wK (τ:=⟨[mC x,it (off R 0),it 0],hs⟩) (dU λH=>H _ h _ rfl) (bg λH=>H _ rfl _ (aR h rfl rfl) _ (g9 (n+2) h));exact aF λH=>H _ m0 _ e0 _ h _ h _ _ hw
 |succ p=>refine (if_neg (Uv p)).symm▸ ?_;have h1:=U.bA hs x (mL R (L R) (off R 0) [] v);refine jt (k_:=λw e2 hw=> ?_) (iU n ok.fW h1);refine DC (k_:=λu e3 hu=> ?_) n (hs:=hs) (x:=x) ok.fW [it (off R (p+1)),it 0] (bf (aM eV 6)).1 (Tj hp) (λq v hq=>by have h2:=U.bA hs x (bo R q v);have e4:=j8 (n+2) h2;rw [dW (wg hq)] at e4;exact dU λH=>(H _ (aR h2 rfl rfl) _ e4 _ rfl _ h2).trans (show (aA.ok (.bool (mY (off R (q+1)) (off R (p+1)))) ⟨[mC x,it (off R (p+1)),it 0],hs.set x (bo R q v)⟩:aA St J)=.ok (.bool (mY (q+1) (p+1))) ⟨[mC x,it (off R (p+1)),it 0],hs.set x (bo R q v)⟩ from by rw [(yC (Uw hq) (Tj hp))])) p (99-p) 0 w (by rw [TX,Uz]) hw;rw [TX] at e3 hu;rw [TY,UD (Sl (Tj (UH hp)) (Sl ok.few (by decide)))] at e3;refine aH u ?_ hu;let Y:St:=⟨[mC x,it (off R (p+1)),it 0],hs⟩;exact aF λH=>H _ m0 _ e0 _ h _ h _ _ (dB (dU λH=>(H _ h _ rfl).trans (show (aA.ok (.bool (nle (off R (p+1)) 0)) Y:aA St J)=.ok (.bool false) Y from by rw [BJ (SD (Tq _) (Dp (Ul p) (SD (Tq _) hp)):0<off R (p+1))]))) _ (aR h rfl rfl) _ (gu (n+1) h) _ (aR h1 rfl rfl) _ e2 _ _ e3
end
section
variable {R:List (B×B)} (n:Nat) {hs:U} {x p c v q:Nat} {k tg:B} (ok:tT R)
noncomputable def xr (x:Nat) (tg:B) (side:Int) (st:Bool):List J:=[mC x,.bytes tg,it 0,it 0,.int side,.bool st,.ah,.ah]
noncomputable def zT:Ex×Ss:=bf (aM dN 7)
include ok in theorem MZ (ht:eF tg) (side:Int) (st:Bool) (lb:Lb R tg q): ∀(j f p c v:Nat) (k:B),p+j=q-> ∃w,kW (ak (n+4)) zT.1 zT.2 (j+1+f) ⟨xr x tg side st,hs.set x (mL R c (off R p) k v)⟩=.ok (cond (mY q R.length) (.ret .none) .next) ⟨xr x tg side st,hs.set x (bo R q w)⟩/\B7 R q w:=by
 intro j;induction j with
 |zero=>
  intro f p c v k hp;have hp:p=q:=hp;subst hp;have h1:=U.bA hs x (mL R c (off R p) k v);refine jt (k_:=λw e hw=> ?_) (iU (n+1) ok.fW h1);have h2:=U.bA hs x (bo R p w);have ec: ∀b,mY p R.length=b->bk (ak (n+4)) .ah zT.1 ⟨xr x tg side st,hs.set x (mL R c (off R p) k v)⟩=.ok (.bool b) ⟨xr x tg side st,hs.set x (bo R p w)⟩:=λb hb=>dU λH=>H _ (aR h1 rfl rfl) (.ok ((.bool b)) ((hs.set x (bo R p w)))) (by exact (hb)▸(e));refine aH w ?_ hw;rw [TX,Uz 1 f];by_cases z:p<R.length;·
   rw [dW z] at ec⊢;refine aQ λcT k_1=> ?_;obtain ⟨r,hr⟩:=fL z;have hc:=qu n (hs.set x (bo R p w)) (ok.key r (Sk hr)) ht;rw [<-i8 hr] at hc;have g:decide ((0:Int)<=kc (gc R p) tg)=true:=by rw [i8 hr];exact dT (lb.bP r hr)
   exact k_1 (wK (ec true rfl) (bg λH=>H _ h2 _ rfl _ h2 _ hc _ g))
  ·rw [dg (SJ z)] at ec⊢;exact dB (ec false rfl)
 |succ j ih=>
  intro f p c v k hp;have z:p<q:=((hp)▸(UL (Ul j)));have z2:p<R.length:=Sx z lb.le;have h1:=U.bA hs x (mL R c (off R p) k v);refine jt (k_:=λw e hw=> ?_) (iU (n+1) ok.fW h1);rw [dW z2] at e;have h2:=U.bA hs x (bo R p w);refine ay (ih f (p+1) (off R p) w (gc R p) (by exact (hp)▸(TY p 1 j))) λu e2 hu=> ?_;refine aH u ?_ hu;obtain ⟨r,hr⟩:=fL z2;have hc:=qu n (hs.set x (bo R p w)) (ok.key r (Sk hr)) ht;rw [<-i8 hr] at hc;have g:decide ((0:Int)<=kc (gc R p) tg)=false:=by rw [i8 hr];exact dF (X5.mpr (lb.lo p r z hr))
  rw [TY];exact gY (τ:=⟨xr x tg side st,hs.set x (bo R p w)⟩) (dU λH=>H _ (aR h1 rfl rfl) _ e) (bg λH=>H _ h2 _ rfl _ h2 _ hc _ g) e2
theorem uO:kW K (bf (aM dN 5)).1 (bf (aM dN 5)).2 100 ⟨xr x tg side st,hs⟩=.ok .next ⟨xr x tg side st,hs⟩:=dB rfl
include ok in theorem Fb (ht:eF tg) (lb:Lb R tg q) (h:BI R x p hs) (hp:p<=R.length):yJ R (n+5) (.of 56) [.bytes tg] .none x q hs:=by
 have hvalid:=zG (n+3) hp h;refine aQ λcT k_1=>ay h λv h hv=> ?_;have mv:bK hs (mC x) (.of 5)=some (.of 48):=aR h rfl rfl;have mg:bK hs (mC x) (.of 16)=some (.of 51):=aR h rfl rfl;have e1:=gu (n+2) h;have few:q<=99:=Sl lb.le (Sl ok.few (by decide));let H0:=hs.set x (mL R (L R) (off R 0) [] v);obtain ⟨b,hb⟩: ∃b,mY q R.length=b:=⟨_,rfl⟩;let fl:bw:=cond b (.ret .none) .next;let Hw (w:Nat):U:=hs.set x (bo R q w);have Pn: ∀(H:U) (side:Int) (st:Bool) (p c v:Nat) (k:B),p<=q->H=hs.set x (mL R c (off R p) k v)-> ∃w,kW (ak (n+4)) zT.1 zT.2 100 ⟨xr x tg side st,H⟩=.ok fl ⟨xr x tg side st,Hw w⟩/\B7 R q w:=λH side st p c v k hpq hH=>by refine ay (MZ n (hs:=hs) (x:=x) ok ht side st lb (q-p) (99-(q-p)) p c v k (UD hpq)) λw e hw=> ?_;rw [TY,UD (Sl (Vl _ _) few),hb] at e;exact aH w (hH▸e) hw
 by_cases z:p<R.length;·
  replace hvalid:=(dW z)▸hvalid;refine fU (fL z) λr hr=> ?_;have hc:=qu n hs (ok.key r (Sk hr)) ht;replace hc:=(i8 hr).symm▸hc;obtain ⟨s,hs0⟩: ∃s,kc (gc R p) tg=s:=⟨_,rfl⟩;replace hc:=(hs0)▸hc;replace hs0:=(i8 hr)▸hs0;by_cases s0:s=0;·
   have pq:p=q:=by
    rw [s0] at hs0;refine VJ (SJ λhlt=> ?_) (SJ λhlt=> ?_);·have:=lb.hi p r hlt hr;rw [hs0] at this;exact absurd this (XX 0)
    ·have:=lb.lo p r hlt hr;rw [hs0] at this;exact absurd this (XX 0)
   refine aQ λJV k_2=> ?_;subst pq;refine k_2 (k_1 ?_);exact aH v (aF λH=>(H _ h _ mv _ hvalid _ rfl _ h _ rfl _ h _ hc _ (dT s0)).trans (congrArg (aA.ok J.none) (U.zO h).symm)) hv
  ·by_cases s1:s<0;·
    have pq:p+1<=q:=SJ λhlt=>by
     have hqp:=Uk hlt;rw [<-hs0] at s1;rcases Tt hqp with hqp|hqp;·exact absurd (acI s1 (lb.hi p r hqp hr)) (XX _)
     ·rw [<-hqp] at hr;exact absurd (lb.bP r hr) (X5.mpr s1)
    exact ay (Pn hs s true (p+1) (off R p) v (gc R p) pq (U.zO h).symm) λw e hw=>k_1 (aH w (by cases b<;>exact aF λH=>H _ h _ mv _ hvalid _ rfl _ h _ rfl _ h _ hc _ (dF s0) _ (dT s1) _ h _ _ uO _ rfl _ (dT s1) _ h _ rfl _ _ e) hw)
   ·obtain ⟨w,e,hw⟩:=Pn H0 s true 0 (L R) v [] (Tq q) rfl;exact k_1 (aH w (by cases b<;>exact aF λH=>H _ h _ mv _ hvalid _ rfl _ h _ rfl _ h _ hc _ (dF s0) _ (dF s1) _ h _ _ uO _ rfl _ (dF s1) _ rfl _ mg _ e1 _ _ e) hw)
 ·replace hvalid:=(dg (SJ z))▸hvalid;refine aQ λX_3 Pg=>ay (Pn H0 0 false 0 (L R) v [] (Tq q) rfl) λw e hw=>Pg (k_1 ?_);exact aH w (by cases b<;>exact aF λH=>H _ h _ mv _ hvalid _ rfl _ _ uO _ rfl _ rfl _ mg _ e1 _ _ e) hw
include ok in theorem LZ (ht:eF tg) (lb:Lb R tg q) (h:BI R x p hs) (hp:p<=R.length):yJ R (n+6) (.of 55) [.bytes tg] .none x q hs:=by exact ay (Fb n ok ht lb h hp) λw e hw=>ay h λv h z=>aH w (aF λH=>H _ (aR h rfl rfl) _ e) hw
end
structure Mv (S:List Nat) (hs:U) (S':List Nat) (aJ:U):Prop where
 n:hs.n<=aJ.n
 h: ∀y,y<hs.n->y∉S->aJ.h y=hs.h y
 s: ∀y,y∈S'->y∈S∨hs.n<=y
theorem Mv.trans {S S' S'':List Nat} (x:Mv S a S' b) (y:Mv S' b S'' c):Mv S a S'' c where
 n:=Sl x.n y.n
 h i hi hn:=(y.h i (Sx hi x.n) λq=>(x.s i q).elim hn λq=>absurd hi (Ux.mpr q)).trans (x.h i hi hn)
 s i hi:=(y.s i hi).elim (x.s i) λq=>.inr (Sl x.n q)
theorem Mv.ext {S:List Nat} (e:bG a b):Mv S a S b:=⟨e.n,λy h z=>e.h y h,λz h=>.inl h⟩
theorem Mv.set {x:Nat} {S:List Nat} (h:x∈S):Mv S hs S (hs.set x o):=⟨Sv _,λz z hn=>U.bM λq=>hn (q▸h),λz h=>.inl h⟩
structure Kind where
 C:Cl
 valid:Fn
 key:Fn
 value:Fn
 first:Fn
 last:Fn
 seek:Fn
 step:Fn
 back:Fn
noncomputable abbrev qQ:=Nat->List Nat->Nat->U->Prop
def mR (m:Nat) (C:Cl) (I:qQ) (f:Fn) (args:List J) (x:Nat) (S:List Nat) (p:Nat) (hs:U):Prop:= ∃aJ S',ak m f (.aI C x::args) hs=.ok .none aJ/\I x S' p aJ/\Mv S hs S' aJ
structure Itr (m:Nat) (k:Kind) (R:List (B×B)) (I:qQ):Prop where
 lQ:kM k.C (.of 5)=some k.valid
 tO:kM k.C (.of 4)=some k.value
 qM:kM k.C (.of 6)=some k.first
 v8:kM k.C (.of 7)=some k.last
 we:kM k.C (.of 8)=some k.seek
 z6:kM k.C (.of 1)=some k.step
 Bj:kM k.C (.of 2)=some k.back
 cell: ∀{x S p hs},I x S p hs-> ∃fs,hs.h x=some (.cj fs)
 mem: ∀{x S p hs},I x S p hs->x∈S
 own: ∀{x S p hs},I x S p hs-> ∀y∈S,y<hs.n
 le: ∀{x S p hs},I x S p hs->p<=R.length
 frame: ∀{x S p hs aJ},I x S p hs->hs.n<=aJ.n->(∀y∈S,aJ.h y=hs.h y)->I x S p aJ
 valid: ∀{x S p hs},I x S p hs->ak m k.valid [.aI k.C x] hs=.ok (.bool (mY p R.length)) hs
 value: ∀{x S p hs r},I x S p hs->R[p]? =some r-> ∃aJ,ak m k.value [.aI k.C x] hs=.ok (.bytes r.2) aJ/\bG hs aJ
 first: ∀{x S p hs},I x S p hs->mR m k.C I k.first [] x S 0 hs
 last: ∀{x S p hs},I x S p hs->mR m k.C I k.last [] x S (R.length-1) hs
 seek: ∀{x S p hs tg q},I x S p hs->eF tg->Lb R tg q->mR m k.C I k.seek [.bytes tg] x S q hs
 step: ∀{x S p hs},I x S p hs->p<R.length->mR m k.C I k.step [] x S (p+1) hs
 back: ∀{x S p hs},I x S p hs->p<R.length->mR m k.C I k.back [] x S (if p=0 then R.length else p-1) hs
structure AS (m:Nat) (k:Kind) (R:List (B×B)) (I:qQ):Prop extends Itr m k R I where
 Qx:kM k.C (.of 3)=some k.key
 key': ∀{x S p hs r},I x S p hs->R[p]? =some r->ak m k.key [.aI k.C x] hs=.ok (.bytes r.1) hs
 value': ∀{x S p hs r},I x S p hs->R[p]? =some r->ak m k.value [.aI k.C x] hs=.ok (.bytes r.2) hs
noncomputable def biK:Kind:=⟨(.of 5),(.of 48),(.of 49),(.of 50),(.of 53),(.of 54),(.of 55),(.of 57),(.of 58)⟩
noncomputable def Fw (R:List (B×B)):qQ:=λx S p hs=>S=[x]/\x<hs.n/\p<=R.length/\BI R x p hs
theorem KR {S:List Nat} (I:Fw R x S q hs) (hp:p<=R.length) (h:yJ R m f args .none x p hs):mR m (.of 5) (Fw R) f args x S p hs:=by refine ay h λv e hv=>rP I λado hx z z=> ?_;clear I;subst ado;exact jn _ ([x]) e ⟨rfl,hx,hp,v,U.bA _ _ _,hv⟩ (Mv.set (.head _))
theorem xB (n:Nat) (ok:tT R) (h0:0<R.length):AS (n+6) biK R (Fw R) where
 lQ:=rfl
 tO:=rfl
 qM:=rfl
 v8:=rfl
 we:=rfl
 z6:=rfl
 Bj:=rfl
 Qx:=rfl
 cell I:=⟨_,I.2.2.2.choose_spec.1⟩
 mem I:=by rw [I.1];exact .head _
 own I y hy:=by rw [I.1,Sy] at hy;rw [hy];exact I.2.1
 le I:=I.2.2.1
 frame I hn h:=⟨I.1,Sx I.2.1 hn,I.2.2.1,I.2.2.2.choose,(h _ (by rw [I.1];exact .head _)).trans I.2.2.2.choose_spec.1,I.2.2.2.choose_spec.2⟩
 valid I:=zG (n+5) I.2.2.1 I.2.2.2
 value I hr:=(aH _ (zM (n+4) I.2.2.2 hr) (.refl _))
 key' I hr:=PG (n+4) I.2.2.2 hr
 value' I hr:=zM (n+4) I.2.2.2 hr
 first I:=KR I (Tq _) (yl (n+2) ok.fW I.2.2.2)
 last I:=KR I (Vl _ _) (Bl (n+2) ok I.2.2.2 h0)
 seek I ht lb:=KR I lb.le (LZ n ok ht lb I.2.2.2 I.2.2.1)
 step I hp:=KR I (Uw hp) (NU (n+2) ok I.2.2.2 hp)
 back I hp:=KR I (by split<;>first|exact Sv _|exact Sl (Vl _ _) I.2.2.1) (MI (n+2) ok I.2.2.2 hp)
structure nH where
 ko:Kind
 ki:Kind
 au:List (B×B)
 Io:qQ
 zp:B->List (B×B)
 GP:B->qQ
 mkr:J
section
variable (w:nH) (d:Nat)
structure Od:Prop where
 outer: ∀N,d<=N->Itr N w.ko w.au w.Io
 inner: ∀N,d<=N-> ∀r∈w.au,AS N w.ki (w.zp r.2) (w.GP r.2)
 kH: ∀r∈w.au,0<(w.zp r.2).length
 make: ∃f,(∀hs,bK hs w.mkr (.of 22)=some f)/\ ∀N,d<=N-> ∀hs r,r∈w.au-> ∃aJ xi S,ak N f [w.mkr,.bytes r.2] hs=.ok (.aI w.ki.C xi) aJ/\w.GP r.2 xi S (w.zp r.2).length aJ/\Mv [] hs S aJ
noncomputable def yH (xo:Nat) (fD:J) (pl:B):gm:=.cj [((.of 43),.aI w.ko.C xo),((.of 44),w.mkr),((.of 45),fD),((.of 46),.bytes pl)]
noncomputable abbrev eX (x:Nat):J:=.aI (.of 9) x
def PX (x:Nat) (So Si:List Nat) (fD:J) (pl:B) (hs:U):Prop:=(fD=.none/\Si=[])∨ ∃xi i r,fD=.aI w.ki.C xi/\r∈w.au/\r.2=pl/\w.GP pl xi Si i hs/\x∉Si/\ ∀y∈Si,y∉So
structure Any (x:Nat) (S:List Nat) (xo:Nat) (So Si:List Nat) (fD:J) (pl:B) (j:Nat) (hs:U):Prop where
 bP:hs.h x=some (yH w xo fD pl)
 lt:x<hs.n
 out:w.Io xo So j hs
 no:x∉So
 held:PX w x So Si fD pl hs
 eq:S=x::(So++Si)
def LH (x:Nat) (S:List Nat) (j i:Nat) (hs:U):Prop:= ∃xo So Si xi r,w.au[j]? =some r/\Any w x S xo So Si (.aI w.ki.C xi) r.2 j hs/\w.GP r.2 xi Si i hs
def OffI (x:Nat) (S:List Nat) (hs:U):Prop:= ∃xo So pl,Any w x S xo So [] .none pl w.au.length hs
end
section
variable {w:nH} {d:Nat} (W:Od w d)
variable {x xo xi j i:Nat} {S So Si:List Nat} {fD:J} {pl:B} {hs:U} {N:Nat}
theorem f6 (h:y∈S) (hx:x∉S):y≠x:=λq=>hx (q▸h)
theorem Kw (h:hs.h x=some (yH w xo fD pl)) (hu:fD=.none∨ ∃C y,fD=.aI C y):ak (N+1) (.of 72) [eX x] hs=.ok fD (hs.set x (yH w xo .none pl)):=by rcases hu with rfl|⟨C,y,rfl⟩<;>exact aF λH=>H _ h _ h _ rfl
theorem aT (c: ∃fs,hs.h x=some (.cj fs)) (hm:kM C m=some f) (hc:decide (m=(.of 10))=false):bK hs (.aI C x) m=some f:=c.elim λz h=>aR h hm hc
include W in theorem xA (hN:d<=N) (h:hs.h x=some (yH w xo fD pl)) (ho:w.Io xo So w.au.length hs):ak (N+1) (.of 73) [eX x,held] hs=.ok .none hs:=by have V:=W.outer N hN;have e:=V.valid ho;rw [dg (Sv _)] at e;exact aF λH=>H _ h _ (aT (V.cell ho) V.lQ rfl) _ e _ rfl
def Ent (w:nH) (x xo j:Nat) (So Si:List Nat) (v:B) (hs aJ:U):Prop:= ∃xi GQ i,aJ.h x=some (yH w xo (.aI w.ki.C xi) v)/\w.GP v xi GQ i aJ/\x∉GQ/\(∀y∈GQ,y∉So)/\(∀y∈GQ,y∈Si∨hs.n<=y)/\hs.n<=aJ.n/\(∀y,y<hs.n->y≠x->aJ.h y=hs.h y)/\w.Io xo So j aJ
include W in theorem Ai (hN:d<=N) (h:hs.h x=some (yH w xo .none pl)) (hx:x<hs.n) (ho:w.Io xo So j hs) (hxo:x∉So) (hr:w.au[j]? =some r) (hh:PX w x So Si held pl hs) {R_:Prop} (k_: ∀aJ,ak (N+1) (.of 73) [eX x,held] hs=.ok .none aJ->Ent w x xo j So Si r.2 hs aJ->R_):R_:=by
 have V:=W.outer N hN;have e:=V.valid ho;have rO:=Sk hr;replace e:=(dW (Sj.mp hr).1)▸e;refine ay (V.value ho hr) λh1 e1 x1=> ?_;have m0:bK hs (.aI w.ko.C xo) (.of 5)=some w.ko.valid:=aT (V.cell ho) V.lQ rfl;have m1:bK hs (.aI w.ko.C xo) (.of 4)=some w.ko.value:=aT (V.cell ho) V.tO rfl;have a1:h1.h x=some (yH w xo .none pl):=(x1.h x hx).trans h;have o1:w.Io xo So j h1:=V.frame ho x1.n λy hy=>x1.h y (V.own ho y hy);refine ay W.make λf hf M=>xJ (M N hN h1 r rO) λh2 xi S2 e2 i2 nh=> ?_;have a2:h2.h x=some (yH w xo .none pl):=(nh.h x (Sx hx x1.n) λq=>nomatch q).trans a1;let H:=h2.set x (yH w xo (.aI w.ki.C xi) pl);let H':=h2.set x (yH w xo (.aI w.ki.C xi) r.2);have a3:H.h x=some (yH w xo (.aI w.ki.C xi) pl):=U.bA _ _ _;have fresh: ∀y∈S2,h1.n<=y:=λy hy=>(nh.s y hy).elim (λq=>nomatch q) id;have ent:Ent w x xo j So Si r.2 hs H':=by
  have xS:x∉S2:=λq=>absurd (fresh x q) (WH.mpr (Sx hx x1.n));refine R9 xi S2 _ (U.bA _ _ _) ((W.inner N hN r rO).frame i2 (Sv _) λy hy=>U.bM (f6 hy xS)) xS (λy hy q=>absurd (fresh y hy) (WH.mpr (V.own o1 y q))) (λy hy=>.inr (Sl x1.n (fresh y hy))) (Sl x1.n nh.n) (λy hy hne=> ?_) ?_;·exact (U.bM hne).trans ((nh.h y (Sx hy x1.n) λq=>nomatch q).trans (x1.h y hy))
  ·exact V.frame o1 nh.n λy hy=>(U.bM (f6 hy hxo)).trans (nh.h y (V.own o1 y hy) λq=>(by cases q))
 rcases hh with ⟨rfl,rfl⟩|⟨xh,i,r',rfl,r'w.au,rfl,ih,ihx,ihd⟩;·exact k_ H' (aF λH=>H _ h _ m0 _ e _ rfl _ h _ m1 _ e1 _ rfl _ rfl _ a1 _ (hf h1) _ e2 _ a2 _ rfl _ a3 _ (U.set_set _ _ _ _)) ent
 ·by_cases z:r.2=r'.2;·let G:=h1.set x (yH w xo (.aI w.ki.C xh) r'.2);have J':=W.inner N hN r' r'w.au;refine k_ G (aF λH=>H _ h _ m0 _ e _ rfl _ h _ m1 _ e1 _ rfl _ a1 _ (dT z) _ a1 _ rfl) ((z).symm▸ ?_);exact R9 xh Si i (U.bA _ _ _) (J'.frame ih x1.n λy hy=>(U.bM (f6 hy ihx)).trans (x1.h y ((J'.own ih) y hy))) ihx ihd (λy hy=>.inl hy) x1.n (λy hy hne=>(U.bM hne).trans (x1.h y hy)) (V.frame o1 (Sv _) λy hy=>U.bM (f6 hy hxo))
  ·exact k_ H' (aF λH=>H _ h _ m0 _ e _ rfl _ h _ m1 _ e1 _ rfl _ a1 _ (dF z) _ a1 _ (hf h1) _ e2 _ a2 _ rfl _ a3 _ (U.set_set _ _ _ _)) ent
end
section
variable {w:nH} {d:Nat} (W:Od w d)
variable {x xo xi j i:Nat} {S So Si:List Nat} {fD:J} {pl:B} {hs:U} {N:Nat}
theorem Any.v5 (A:Any w x S xo So Si fD pl j hs):fD=.none∨ ∃C y,fD=.aI C y:=A.held.imp (·.1) λ⟨y,_,_,h,_⟩=>(BX _ y h)
structure Rs (w:nH) (N x xo:Nat) (fD:J) (pl:B) (hs h1 h2 h3:U) (mo:Mt) (fo:Fn) (args:List J) (ad5:J) (EO:B):Prop where
 m1:bK hs (eX x) (.of 23)=some (.of 72)
 e1:ak (N+1) (.of 72) [eX x] hs=.ok fD h1
 a1:h1.h x=some (yH w xo .none pl)
 m2:bK h1 (.aI w.ko.C xo) mo=some fo
 e2:ak (N+1) fo (.aI w.ko.C xo::args) h1=.ok .none h2
 m3:bK h2 (eX x) (.of 24)=some (.of 73)
 e3:ak (N+1) (.of 73) [eX x,fD] h2=.ok .none h3
 a3:h3.h x=some (yH w xo ad5 EO)
include W in theorem k7 {G:Prop} (hN:d<=N) (A:Any w x S xo So Si fD pl j hs) {i':B×B->Nat} (hj:j'<=w.au.length) (mho:kM w.ko.C mo=some fo) (mco:decide (mo=(.of 10))=false) (mhi:kM w.ki.C mi=some fi) (mci:decide (mi=(.of 10))=false) (ho: ∀{aJ},w.Io xo So j aJ->mR (N+1) w.ko.C w.Io fo args xo So j' aJ) (hi: ∀r,w.au[j']? =some r-> ∀{xi Si i aJ},w.GP r.2 xi Si i aJ->mR (N+1) w.ki.C (w.GP r.2) fi args2 xi Si (i' r) aJ) (off: ∀h1 h2 h3 S',j'=w.au.length->Rs w N x xo fD pl hs h1 h2 h3 mo fo args .none pl->OffI w x S' h3->Mv S hs S' h3->G) (on: ∀h1 h2 h3 r xi h4 S',w.au[j']? =some r->Rs w N x xo fD pl hs h1 h2 h3 mo fo args (.aI w.ki.C xi) r.2->bK h3 (.aI w.ki.C xi) mi=some fi->ak (N+1) fi (.aI w.ki.C xi::args2) h3=.ok .none h4->LH w x S' j' (i' r) h4->Mv S hs S' h4->G):G:=by
 have V:=W.outer (N+1) (Tp hN);obtain ⟨ha,hx,hout,hno,hheld,heq⟩:=A;let h1:=hs.set x (yH w xo .none pl);have a1:h1.h x=some (yH w xo .none pl):=U.bA _ _ _;have o1:w.Io xo So j h1:=V.frame hout (Sv _) λy hy=>U.bM (f6 hy hno);refine ig (ho o1) λh2 ND e2 o2 nh=> ?_;have a2:h2.h x=some (yH w xo .none pl):=(nh.h x hx hno).trans a1;have no2:x∉ND:=λq=>(nh.s x q).elim hno λq=>absurd hx (Ux.mpr q);have hx2:x<h2.n:=Sx hx nh.n;have v5:PX w x ND Si fD pl h2:=by
  clear heq;rcases hheld with ⟨rfl,rfl⟩|⟨xh,i,r',rfl,r'w.au,rfl,ih,ihx,ihd⟩;·exact .inl ⟨rfl,rfl⟩
  ·have aa:=W.inner (N+1) (Tp hN) r' r'w.au;have own:=aa.own ih;exact .inr (Ml xh i r' rfl r'w.au rfl (aa.frame ih nh.n λy hy=>(nh.h y (own y hy) (ihd y hy)).trans (U.bM (f6 hy ihx))) ihx (λy hy q=>(nh.s y q).elim (ihd y hy) λq=>absurd (own y hy) (Ux.mpr q)))
 have OB: ∀y,y<hs.n->y∉S->h2.h y=hs.h y:=λy hy hn=>by rw [heq] at hn;exact (nh.h y hy λq=>hn (.tail _ (TP _ q))).trans (U.bM λq=>hn (q▸.head _))
 have so': ∀y,y∈ND->y∈S∨hs.n<=y:=λy q=>(nh.s y q).imp (λq=>by rw [heq];exact .tail _ (TP _ q)) id;have si': ∀y,y∈Si->y∈S:=λy q=>by rw [heq];exact .tail _ (S9 _ q)
 have xS:x∈S:=by rw [heq];exact .head _
 have m1:bK hs (eX x) (.of 23)=some (.of 72):=aR ha rfl rfl;have m2:bK h1 (.aI w.ko.C xo) mo=some fo:=aT (V.cell o1) mho mco;have m3:bK h2 (eX x) (.of 24)=some (.of 73):=aR a2 rfl rfl;have e1:=Kw (N:=N) ha (Any.v5 ⟨ha,hx,hout,hno,hheld,heq⟩);clear ho;rcases Tt hj with hj|rfl;·
  obtain ⟨r,hr⟩:=fL hj;refine Ai W hN a2 hx2 o2 no2 hr v5 λh3 e3 ent=>acU ent λxi Si3 i3 a3 in3 x3 d3 s3 n3 f3 o3=>ig (hi r hr in3) λh4 Si4 e4 in4 FD=> ?_;have hx3:x<h3.n:=Sx hx2 n3;have abj:=V.own o3;refine on h1 h2 h3 r xi h4 (x::(ND++Si4)) hr ⟨m1,e1,a1,m2,e2,m3,e3,a3⟩ (aT ((W.inner (N+1) (Tp hN) r (Sk hr)).cell in3) mhi mci) e4 ?_ ?_;·exact QH xo ND Si4 xi r hr ⟨(FD.h x hx3 x3).trans a3,Sx hx3 FD.n,(V.frame o3 FD.n λy hy=>FD.h y (abj y hy) λq=>d3 y q hy),no2,.inr (Ml xi _ r rfl (Sk hr) rfl in4 (λq=>(FD.s x q).elim x3 λq=>absurd hx3 (Ux.mpr q)) (λy hy q=>(FD.s y hy).elim (λz=>d3 y z q) λz=>absurd (abj y q) (Ux.mpr z))),rfl⟩ in4
  ·refine ⟨Sl nh.n (Sl n3 FD.n),λy hy hn=> ?_,λy hy=> ?_⟩;·have y2:=Sx hy nh.n;refine (FD.h y (Sx y2 n3) λq=> ?_).trans ((f3 y y2 λq=>hn (q▸xS)).trans (OB y hy hn));exact (s3 y q).elim (λq=>hn (si' y q)) λq=>absurd y2 (Ux.mpr q)
   ·cases hy with
    |head=>exact .inl xS
    |tail _ hy=>
     rcases SW.mp hy with q|q;·exact so' y q
     ·rcases FD.s y q with q|q;·exact (s3 y q).imp (si' y) (Sl nh.n)
      ·exact .inr (Sl nh.n (Sl n3 q))
 ·refine off h1 h2 h2 (x::ND) rfl ⟨m1,e1,a1,m2,e2,m3,xA W hN a2 o2,a2⟩ ?_ ?_;·exact ⟨xo,ND,pl,a2,hx2,o2,no2,.inl ⟨rfl,rfl⟩,by rw [Ti]⟩
  ·refine ⟨nh.n,OB,λy hy=> ?_⟩;cases hy with
   |head=>exact .inl xS
   |tail _ hy=>exact so' y hy
end
section
variable (f:B×B->List (B×B))
noncomputable def gE (au:List (B×B)):List (B×B):=au.flatMap f
noncomputable def bh (au:List (B×B)) (j:Nat):Nat:=(gE f (au.take j)).length
variable {f} {au:List (B×B)} {r:B×B} {j i:Nat}
theorem BS (h:au[j]? =some r):gE f au=gE f (au.take j)++(f r++gE f (au.drop (j+1))):=by
 conv=>lhs;rw [tE h]
 unfold gE;rw [Zw,ZR]
theorem dP (h:au[j]? =some r):bh f au (j+1)=bh f au j+(f r).length:=by unfold bh gE;rw [qH h,Zw,Sq,ZR,List.flatMap_nil,Ti]
theorem gk:bh f au au.length=(gE f au).length:=by unfold bh;rw [U9]
theorem oU (h:au[j]? =some r) (ha:(f r)[i]? =some a):(gE f au)[bh f au j+i]? =some a:=by rw [BS h];unfold bh;rw [TG (SI _ _),Vi,Un (Sj.mp ha).1,ha]
theorem n9: ∀{k:Nat},j<=k->bh f au j<=bh f au k:=λ{k} h=>by
 induction h with
 |refl=>exact Sv _
 | @step m _ ih=>
  refine Sl ih ?_;cases e:au[m]? with
  |none=>unfold bh;rw [Vn (UB.mp e),Vn (Tp (UB.mp e))];exact Sv _
  |some r=>rw [dP e];exact SI _ _
theorem AH (h:au[j]? =some r) (hi:i<(f r).length):bh f au j+i<(gE f au).length:=by rw [<-gk];exact Sx (by rw [dP h];exact Vj hi _) (n9 (Uw (Sj.mp h).1))
theorem locate: ∀{k q:Nat},k<=au.length->q<bh f au k-> ∀{R_:Prop} (k_: ∀j r i,au[j]? =some r->i<(f r).length->q=bh f au j+i->R_),R_:=by
 intro l_;induction l_ with
 |zero=>exact @λy y h y k_=>absurd h (UK _)
 |succ k aG=>
  exact @λq hk h y k_=>by
   refine fU (fL (R:=au) (p:=k) hk) λr hr=> ?_;by_cases z:q<bh f au k;·exact aG (VP hk) z k_
   ·have z:=SJ z;rw [dP hr] at h;exact k_ k r (q-bh f au k) hr (Nat.sub_lt_left_of_lt_add z h) ((UD z).symm)
def tL (f:B×B->List (B×B)) (au:List (B×B)):Prop:= ∀r∈au,∃a,(f r)[(f r).length-1]? =some a/\a.1=r.1
theorem yI (hl:tL f au) (h:au[j]? =some r) {R_:Prop} (k_: ∀i a,i<(f r).length->bh f au (j+1)=bh f au j+i+1->(gE f au)[bh f au j+i]? =some a->a.1=r.1->R_):R_:=by refine ay (hl r (Sk h)) λa ha he=> ?_;have hi:=(Sj.mp ha).1;exact k_ _ a hi (by rw [dP h,TU,TS (SD (Tq _) hi)]) (oU h ha) he
theorem jq (hl:tL f au) (lb:Lb (gE f au) tg q) (hj:j<=au.length) (h1:bh f au j<=q) (h2:j<au.length->q<bh f au (j+1)):Lb au tg j where
 le:=hj
 lo k r hk h:=by refine yI (k_:=λi a y e ha he=> ?_) hl h;exact (he)▸(lb.lo _ a (Sx (WI (Sl (Ub e.symm) (n9 hk))) h1) ha)
 bP r h:=by
  refine yI (k_:=λi a y e ha he=> ?_) hl h;rw [<-he];rcases Tt (Uk (e▸(h2 (Sj.mp h).1))) with z|z;·exact Ww (lb.hi _ a z ha)
  ·exact lb.bP a (z▸ha)
 hi k r hk h:=by refine yI (k_:=λi a y e ha he=> ?_) hl h;rw [<-he];exact lb.hi _ a (Sx (h2 (TL hk ((Sj.mp h).1))) (Sl (n9 hk) (SI _ _))) ha
theorem A3 (lb:Lb (gE f au) tg (bh f au j+i)) (h:au[j]? =some r) (hi:i<=(f r).length):Lb (f r) tg i where
 le:=hi
 lo k a hk ha:=lb.lo _ a (Vj hk _) (oU h ha)
 bP a ha:=lb.bP a (oU h ha)
 hi k a hk ha:=lb.hi _ a (Vj hk _) (oU h ha)
end
section
variable {w:nH} {d:Nat} (W:Od w d)
noncomputable abbrev fR (w:nH):B×B->List (B×B):=λr=>w.zp r.2
noncomputable abbrev flat (w:nH):List (B×B):=gE (fR w) w.au
noncomputable def TI (w:nH):qQ:=λx S p hs=>(∃j i r,w.au[j]? =some r/\LH w x S j i hs/\i<(w.zp r.2).length/\p=bh (fR w) w.au j+i)∨(OffI w x S hs/\p=(flat w).length)
variable {x xo j i:Nat} {S So Si:List Nat} {fD:J} {pl:B} {hs:U} {N:Nat} {r:B×B}
theorem LH.fW (A:LH w x S j i hs) (hr:w.au[j]? =some r) {R_:Prop} (k_: ∀xo So Si xi,Any w x S xo So Si (.aI w.ki.C xi) r.2 j hs->w.GP r.2 xi Si i hs->R_):R_:=by refine acP A λxo So Si xi r' hr' A I=> ?_;replace hr':=(hr)▸hr';obtain rfl:=Sm hr';exact k_ xo So Si xi A I
include W in theorem qZ (hN:d<=N) (A:LH w x S j i hs) (hr:w.au[j]? =some r):ak (N+1) (.of 68) [eX x] hs=.ok (.bool (mY i (w.zp r.2).length)) hs:=by refine A.fW (k_:=λxo So Si xi h_2 I=> ?_) hr;obtain ⟨h,_,_,_,_,_⟩:=h_2;have aa:=W.inner N hN r (Sk hr);exact aF λH=>H _ h _ rfl _ h _ (aT (aa.cell I) aa.lQ rfl) _ (aa.valid I)
theorem xm (A:OffI w x S hs):ak (N+1) (.of 68) [eX x] hs=.ok (.bool false) hs:=by refine IJ A λxo So pl QU=> ?_;obtain ⟨h,_,_,_,_,_⟩:=QU;exact aF λH=>H _ h _ rfl
noncomputable def Gm:Ex×Ss:=bf (aM eZ 0)
noncomputable def ac7:Ex×Ss:=bf (aM eN 0)
include W in theorem tM (hN:d<=N) (hv:J) (A:LH w x S j i hs) (hr:w.au[j]? =some r) (hb:mY i (w.zp r.2).length=b):bk (ak (N+1)) .ah Gm.1 ⟨[eX x,hv],hs⟩=.ok (.bool (!b)) ⟨[eX x,hv],hs⟩:=by have e:=qZ W hN A hr;rw [hb] at e;refine A.fW (k_:=λxo So Si xi h_3 I=> ?_) hr;obtain ⟨h,_,ho,_,_,_⟩:=h_3;have V:=W.outer (N+1) (Tp hN);have e2:=V.valid ho;rw [dW (Sj.mp hr).1] at e2;exact dU λH=>H _ h _ (aT (V.cell ho) V.lQ rfl) _ e2 _ rfl _ (aR h rfl rfl) _ e
include W in theorem zN (hN:d<=N) (hv:J) (A:OffI w x S hs):bk (ak (N+1)) .ah Gm.1 ⟨[eX x,hv],hs⟩=.ok (.bool false) ⟨[eX x,hv],hs⟩:=by refine IJ A λxo So pl QU=> ?_;obtain ⟨h,_,ho,_,_,_⟩:=QU;have V:=W.outer (N+1) (Tp hN);have e2:=V.valid ho;rw [dg (Sv _)] at e2;exact dU λH=>H _ h _ (aT (V.cell ho) V.lQ rfl) _ e2 _ rfl
include W in theorem yt (hN:d<=N) (hv:J) (I:TI w x S p hs):bk (ak (N+1)) .ah Gm.1 ⟨[eX x,hv],hs⟩=.ok (.bool false) ⟨[eX x,hv],hs⟩:=by
 refine aQ λcT k_1=> ?_;rcases I with ⟨j,i,r,hr,A,hi,_⟩|⟨A,_⟩;·exact k_1 (tM W hN hv A hr (dW hi))
 ·exact k_1 (zN W hN hv A)
include W in theorem mz (hN:d<=N) (I:TI w x S p hs):ak (N+2) (.of 74) [eX x] hs=.ok .none hs/\ak (N+2) (.of 75) [eX x] hs=.ok .none hs:=by have e: ∀b,ja (λY=>bk (ak (N+1)) .ah Gm.1 Y) (λY=>cu (ak (N+1)) b Y) 100 ⟨[eX x,.ah],hs⟩=.ok .next ⟨[eX x,.ah],hs⟩:=λb=>dB (yt W hN .ah I);exact ⟨aF λH=>H _ _ (e _),aF λH=>H _ _ (e _)⟩
end
section
variable {w:nH} {d:Nat} (W:Od w d)
variable {x xo j i p:Nat} {S So Si:List Nat} {fD:J} {pl:B} {hs:U} {N:Nat} {r:B×B}
theorem TI.any (I:TI w x S p hs) {R_:Prop} (k_: ∀xo So Si fD pl j,Any w x S xo So Si fD pl j hs->R_):R_:=by
 rcases I with ⟨j,i,r,hr,A,_,_⟩|⟨⟨xo,So,pl,A⟩,_⟩;·refine A.fW (k_:=λxo So Si xi A z=> ?_) hr;exact k_ _ _ _ _ _ _ A
 ·exact k_ _ _ _ _ _ _ A
theorem TI.iA (I:TI w x S p hs) (hm:kM (.of 9) m=some f) (hc:decide (m=(.of 10))=false):bK hs (eX x) m=some f:=by refine I.any (k_:=λxo So Si fD pl j A=> ?_);exact aR A.bP hm hc
theorem wo (hr:w.au[j]? =some r) (A:LH w x S j i hs) (hi:i<(w.zp r.2).length):TI w x S (bh (fR w) w.au j+i) hs:=.inl (N2 j i r hr A hi rfl)
include W in theorem IK (hN:d<=N) (h0:0<w.au.length) (I:TI w x S p hs):mR (N+3) (.of 9) (TI w) (.of 76) [] x S 0 hs:=by refine I.any (k_:=λxo So Si fD pl j A=> ?_);have O0:d<=N+2:=Sl hN (SI _ _);obtain ⟨r0,hr0⟩:=fL h0;have aa:=W.inner (N+2) O0;have V:=W.outer (N+2) O0;refine k7 W (N:=N+1) (Tp hN) A (mi:=(.of 6)) (args2:=[]) (i':=λz=>0) (Tq _) V.qM rfl (aa r0 (Sk hr0)).qM rfl (λI=>V.first I) (λr hr z z z z I=>(aa r (Sk hr)).first I) (λz z z z hj=>absurd h0 (by exact (hj)▸(To _))) λh1 h2 h3 r xi h4 S' hr ⟨m1,e1,a1,m2,e2,m3,e3,a3⟩ m4 e4 PW mv=> ?_;have I4:TI w x S' 0 h4:=wo hr PW (W.kH r (Sk hr));refine jn h4 S' ?_ I4 mv;rcases (A.v5) with rfl|⟨C,y,rfl⟩<;>exact aF λH=>H _ m1 _ e1 _ a1 _ m2 _ e2 _ m3 _ e3 _ a3 _ rfl _ a3 _ m4 _ e4 _ (I4.iA rfl rfl) _ (mz W hN I4).1
include W in theorem Mk (hN:d<=N) (h0:0<w.au.length) (I:TI w x S p hs):mR (N+3) (.of 9) (TI w) (.of 77) [] x S ((flat w).length-1) hs:=by
 refine I.any (k_:=λxo So Si fD pl j A=> ?_);have O0:d<=N+2:=Sl hN (SI _ _);refine aQ λcT k_1=> ?_;obtain ⟨r0,hr0⟩:=fL h0;have aa:=W.inner (N+2) O0;have V:=W.outer (N+2) O0;refine k7 W (N:=N+1) (Tp hN) A (mi:=(.of 7)) (args2:=[]) (i':=λr=>(w.zp r.2).length-1) (Vl _ _) V.v8 rfl (aa r0 (Sk hr0)).v8 rfl (λI=>V.last I) (λr hr z z z z I=>(aa r (Sk hr)).last I) (λz z z z hj=>absurd hj (SY (U0 h0 TV))) λh1 h2 h3 r xi h4 S' hr ⟨m1,e1,a1,m2,e2,m3,e3,a3⟩ m4 e4 PW mv=> ?_;have pos:=W.kH r (Sk hr);have hp:bh (fR w) w.au (w.au.length-1)+((w.zp r.2).length-1)=(flat w).length-1:=by rw [<-Z2 pos,<-dP (f:=fR w) hr,TS h0,gk]
 have I4:TI w x S' ((flat w).length-1) h4:=hp▸wo hr PW (U0 pos TV);refine k_1 (jn h4 S' ?_ I4 mv);rcases (A.v5) with rfl|⟨C,y,rfl⟩<;>exact aF λH=>H _ m1 _ e1 _ a1 _ m2 _ e2 _ m3 _ e3 _ a3 _ rfl _ a3 _ m4 _ e4 _ (I4.iA rfl rfl) _ (mz W hN I4).2
include W in theorem Ni (hN:d<=N) (h0:0<w.au.length) (hl:tL (fR w) w.au) (ht:eF tg) (lb:Lb (flat w) tg q) (I:TI w x S p hs):mR (N+3) (.of 9) (TI w) (.of 78) [.bytes tg] x S q hs:=by
 refine I.any (k_:=λxo So Si fD pl j A=> ?_);have O0:d<=N+2:=Sl hN (SI _ _);refine aQ λcT k_1=> ?_;obtain ⟨r0,hr0⟩:=fL h0;have aa:=W.inner (N+2) O0;have V:=W.outer (N+2) O0;have m0:=(aa r0 (Sk hr0)).we;have hin:=A.v5;by_cases z:q<(flat w).length;·
  replace z:=(gk).symm▸z;refine locate (k_:=λj' r i' hr hi' e_1=> ?_) (f:=fR w) (Sv _) z;clear z;subst e_1;have hj':=(Sj.mp hr).1;have lo:Lb w.au tg j':=jq hl lb (Tj hj') (SI _ _) λu=>by rw [dP hr];exact Vj hi' _
  refine k7 W (N:=N+1) (Tp hN) A (mi:=(.of 8)) (args2:=[.bytes tg]) (i':=λu=>i') (Tj hj') V.we rfl m0 rfl (λI=>V.seek I ht lo) (λr2 hr2 u u u u I=>by replace hr2:=(hr)▸hr2;obtain rfl:=Sm hr2;exact (aa r (Sk hr)).seek I ht (A3 lb hr (Tj hi'))) (λu u u u hj=>absurd hj (SY hj')) λh1 h2 h3 r xi h4 S' hr2 ⟨m1,e1,a1,m2,e2,m3,e3,a3⟩ m4 e4 PW mv=> ?_;have I4:TI w x S' (bh (fR w) w.au j'+i') h4:=wo hr PW hi';refine k_1 (jn h4 S' ?_ I4 mv);clear A;rcases hin with rfl|⟨C,y,rfl⟩<;>exact aF λH=>H _ m1 _ e1 _ a1 _ m2 _ e2 _ m3 _ e3 _ a3 _ rfl _ a3 _ m4 _ e4 _ (I4.iA rfl rfl) _ (mz W hN I4).1
 ·have hq:q=(flat w).length:=VJ lb.le (SJ z);refine k7 W (N:=N+1) (Tp hN) A (mi:=(.of 8)) (fi:=w.ki.seek) (args2:=[.bytes tg]) (i':=λu=>0) (Sv _) V.we rfl m0 rfl (λI=>V.seek I ht (jq hl lb (Sv _) (by rw [gk,hq];exact Sv _) λh=>absurd h (To _))) (λr2 hr2=>absurd (Sj.mp hr2).1 (To _)) (λh1 h2 h3 S' _ ⟨m1,e1,a1,m2,e2,m3,e3,a3⟩ off mv=> ?_) λu u u u u u u hr2=>absurd (Sj.mp hr2).1 (To _);have I3:TI w x S' q h3:=.inr ⟨off,hq⟩;refine k_1 (jn h3 S' ?_ I3 mv);clear A;rcases hin with rfl|⟨C,y,rfl⟩<;>exact aF λH=>H _ m1 _ e1 _ a1 _ m2 _ e2 _ m3 _ e3 _ a3 _ rfl _ (I3.iA rfl rfl) _ (mz W hN I3).1
end
section
variable {w:nH} {d:Nat} (W:Od w d)
variable {x xo xi j i p:Nat} {S So Si:List Nat} {fD:J} {pl:B} {hs:U} {N:Nat} {r:B×B}
theorem zC (V:Itr N w.ko w.au w.Io) (A:Any w x S xo So Si (.aI w.ki.C xi) r.2 j hs) (hr:w.au[j]? =some r) (hSi:x∉Si/\ ∀y∈Si,y∉So) (I:w.GP r.2 xi GQ i' h1) (mv:Mv Si hs GQ h1):LH w x (x::(So++GQ)) j i' h1/\Mv S hs (x::(So++GQ)) h1:=by
 obtain ⟨ha,hx,ho,hno,_,heq⟩:=A;have d4: ∀y∈GQ,y∉So:=λy hy q=>(mv.s y hy).elim (λz=>hSi.2 y z q) λz=>absurd (V.own ho y q) (Ux.mpr z);refine ⟨(QH xo So GQ xi r hr ⟨(mv.h x hx hSi.1).trans ha,Sx hx mv.n,V.frame ho mv.n λy hy=>mv.h y (V.own ho y hy) λq=>hSi.2 y q hy,hno,.inr (Ml xi i' r rfl (Sk hr) rfl I (λq=>(mv.s x q).elim hSi.1 λq=>absurd hx (Ux.mpr q)) d4),rfl⟩ I),mv.n,λy hy hn=> ?_,λy hy=> ?_⟩;·rw [heq] at hn;exact mv.h y hy λq=>hn (.tail _ (S9 _ q))
 ·rw [heq];cases hy with
  |head=>exact .inl (.head _)
  |tail _ hy=>
   rcases SW.mp hy with q|q;·exact .inl (.tail _ (TP _ q))
   ·exact (mv.s y q).imp (λq=>.tail _ (S9 _ q)) id
theorem Du (A:Any w x S xo So Si (.aI w.ki.C xi) pl j hs):x∉Si/\ ∀y∈Si,y∉So:=by
 rcases A.held with ⟨h,_⟩|⟨_,_,_,_,_,_,_,h1,h2⟩;·cases h
 ·exact ⟨h1,h2⟩
include W in theorem Ek (hN:d<=N) (A:LH w x S j i hs) (hr:w.au[j]? =some r) (hi:(w.zp r.2).length<=i) {i':B×B->Nat} (hj:j'<=w.au.length) (mho:kM w.ko.C mo=some fo) (mco:decide (mo=(.of 10))=false) (mhi:kM w.ki.C mi=some fi) (mci:decide (mi=(.of 10))=false) (ho: ∀{xo So aJ},w.Io xo So j aJ->mR (N+1) w.ko.C w.Io fo [] xo So j' aJ) (hi': ∀r,w.au[j']? =some r-> ∀{xi Si i aJ},w.GP r.2 xi Si i aJ->mR (N+1) w.ki.C (w.GP r.2) fi [] xi Si (i' r) aJ) (hp:j'=w.au.length->p'=(flat w).length) (u6: ∀r,w.au[j']? =some r->i' r<(w.zp r.2).length/\p'=bh (fR w) w.au j'+i' r) (b1: ∀{xo y pl h1 h2 h3 xi EO h4},Rs w N x xo (.aI w.ki.C y) pl hs h1 h2 h3 mo fo [] (.aI w.ki.C xi) EO->bK h3 (.aI w.ki.C xi) mi=some fi->ak (N+1) fi [.aI w.ki.C xi] h3=.ok .none h4->cu (ak (N+1)) b ⟨[eX x,.ah],hs⟩=.ok .next ⟨[eX x,.aI w.ki.C y],h4⟩) (b2: ∀{xo y pl h1 h2 h3 EO},Rs w N x xo (.aI w.ki.C y) pl hs h1 h2 h3 mo fo [] .none EO->cu (ak (N+1)) b ⟨[eX x,.ah],hs⟩=.ok .next ⟨[eX x,.aI w.ki.C y],h3⟩) {R_:Prop} (k_: ∀h4 S' hv,ja (λY=>bk (ak (N+1)) .ah Gm.1 Y) (λY=>cu (ak (N+1)) b Y) 100 ⟨[eX x,.ah],hs⟩=.ok .next ⟨[eX x,hv],h4⟩->TI w x S' p' h4->Mv S hs S' h4->R_):R_:=by
 have c1:=tM W hN .ah A hr (dg hi);refine A.fW (k_:=λxo So Si xi0 A I=> ?_) hr;refine k7 W hN A (mo:=mo) (mi:=mi) (args:=[]) (args2:=[]) hj mho mco mhi mci ho hi' (λh1 h2 h3 S' hj R off mv=> ?_) λh1 h2 h3 r xi h4 S' hr R m4 e4 PW mv=> ?_;·have I3:TI w x S' p' h3:=.inr ⟨off,hp hj⟩;exact k_ h3 S' _ (gY c1 (b2 R) (dB (yt W hN _ I3))) I3 mv
 ·obtain ⟨hi4,hp4⟩:=u6 r hr;have I4:TI w x S' p' h4:=hp4▸wo hr PW hi4;exact k_ h4 S' _ (gY c1 (b1 R m4 e4) (dB (yt W hN _ I4))) I4 mv
end
section
variable {w:nH} {d:Nat} (W:Od w d)
variable {x xo xi j i p:Nat} {S So Si:List Nat} {fD:J} {pl:B} {hs:U} {N:Nat} {r:B×B}
include W in theorem uq (hN:d<=N) (I:TI w x S p hs):ak (N+1) (.of 68) [eX x] hs=.ok (.bool (mY p (flat w).length)) hs:=by
 refine aQ λcT k_1=> ?_;rcases I with ⟨j,i,r,hr,A,hi,rfl⟩|⟨A,rfl⟩;·refine k_1 ?_;rw [qZ W hN A hr,dW hi,dW (AH hr hi)]
 ·refine k_1 ?_;rw [xm A,dg (Sv _)]
theorem TI.le (I:TI w x S p hs):p<=(flat w).length:=by
 rcases I with ⟨j,i,r,hr,A,hi,rfl⟩|⟨A,rfl⟩;·exact Tj (AH hr hi)
 ·exact Sv _
include W in theorem xj (hN:d<=N) (I:TI w x S p hs) (hp:p<(flat w).length):ak (N+2) (.of 69) [eX x] hs=.ok .none hs:=by have e:=uq W hN I;rw [dW hp] at e;exact aF λH=>H _ (I.iA rfl rfl) _ e _ rfl
include W in theorem tu (hN:d<=N) (I:TI w x S (flat w).length hs): ∀f∈([(.of 79),(.of 80),(.of 70),(.of 71)]:List Fn),ak (N+3) f [eX x] hs=.exc hs:=by have e:=uq W hN I;rw [dg (Sv _)] at e;have n:ak (N+2) (.of 69) [eX x] hs=.exc hs:=aF λH=>H _ (I.iA rfl rfl) _ e _ rfl;have m:bK hs (eX x) (.of 13)=some (.of 69):=I.iA rfl rfl;intro f hf;simp only [Tn,U1,or_false] at hf;rcases hf with rfl|rfl|rfl|rfl<;>exact aF λH=>H _ m _ n
theorem TI.K8 (I:TI w x S p hs) (hp:p<(flat w).length) {R_:Prop} (k_: ∀j i r,w.au[j]? =some r->LH w x S j i hs->i<(w.zp r.2).length->p=bh (fR w) w.au j+i->R_):R_:=by
 rcases I with ⟨j,i,r,h1,h2,h3,h4⟩|⟨A,rfl⟩;·exact k_ j i r h1 h2 h3 h4
 ·exact absurd hp (To _)
include W in theorem BU (hN:d<=N) (I:TI w x S p hs) {a:B×B} (ha:(flat w)[p]? =some a):ak (N+3) (.of 70) [eX x] hs=.ok (.bytes a.1) hs/\ak (N+3) (.of 71) [eX x] hs=.ok (.bytes a.2) hs:=by have n:=xj W hN I (Sj.mp ha).1;have m:bK hs (eX x) (.of 13)=some (.of 69):=I.iA rfl rfl;refine I.K8 (k_:=λj i r hr A hi e_5=> ?_) (Sj.mp ha).1;clear I;subst e_5;obtain ⟨b,hb⟩:=fL hi;rw [oU hr hb] at ha;obtain rfl:=Sm ha;refine A.fW (k_:=λxo So Si xi h_4 I=> ?_) hr;obtain ⟨h,_,_,_,_,_⟩:=h_4;have aa:=W.inner (N+2) (Sl hN (SI _ _)) r (Sk hr);exact ⟨aF λH=>H _ m _ n _ h _ (aT (aa.cell I) aa.Qx rfl) _ (aa.key' I hb),aF λH=>H _ m _ n _ h _ (aT (aa.cell I) aa.tO rfl) _ (aa.value' I hb)⟩
include W in theorem Nl (hN:d<=N) (h0:0<w.au.length) (I:TI w x S p hs) (hp:p<(flat w).length):mR (N+3) (.of 9) (TI w) (.of 79) [] x S (p+1) hs:=by
 have n:=xj W hN I hp;have I0:=I;refine I.K8 (k_:=λj i r hr A0 hi e_6=> ?_) hp;refine aQ λcT k_1=> ?_;clear I hp;subst e_6;refine A0.fW (k_:=λxo So Si xi A I=> ?_) hr;have aa:=W.inner (N+2) (Sl hN (SI _ _)) r (Sk hr);refine ig (aa.step I hi) λh1 GQ e1 I1 mv1=> ?_;obtain ⟨A1,mvA⟩:=zC (W.outer N hN) A hr (Du A) I1 mv1;refine A1.fW (k_:=λxo' ND Si2 xi' A1' I1'=> ?_) hr;have m1:bK hs (.aI w.ki.C xi) (.of 1)=some w.ki.step:=aT (aa.cell I) aa.z6 rfl;have m2:bK h1 (eX x) (.of 25)=some (.of 74):=aR A1'.bP rfl rfl;by_cases z:i+1<(w.zp r.2).length;·have I2:TI w x _ (bh (fR w) w.au j+i+1) h1:=wo hr A1 z;exact k_1 (jn h1 _ (aF λH=>H _ (I0.iA rfl rfl) _ n _ A.bP _ m1 _ e1 _ m2 _ (mz W hN I2).1) I2 mvA)
 ·have z:i+1=(w.zp r.2).length:=VJ (Uw hi) (SJ z);have hs1:bh (fR w) w.au (j+1)=bh (fR w) w.au j+i+1:=by rw [dP (f:=fR w) hr,TU,z]
  have V:=W.outer (N+1) (Tp hN);refine Ek (k_:=λh4 S' hv e4 I4 FD=> ?_) W hN A1 hr (Ub z.symm) (b:=Gm.2) (mo:=(.of 1)) (mi:=(.of 6)) (j':=j+1) (p':=bh (fR w) w.au j+i+1) (i':=λy=>0) (Uw (Sj.mp hr).1) V.z6 rfl (W.inner N hN r (Sk hr)).qM rfl (λI=>V.step I (Sj.mp hr).1) (λr hr y y y y I=>(W.inner (N+1) (Tp hN) r (Sk hr)).first I) (λh=>by refine (hs1)▸((h).symm▸ ?_);refine (gk).symm▸ ?_;rfl) (λr hr=>⟨W.kH r (Sk hr),hs1.symm⟩) (λ⟨m1,e1,a1,m2,e2,m3,e3,a3⟩ m4 e4=>bg λH=>H _ m1 _ e1 _ a1 _ m2 _ e2 _ m3 _ e3 _ a3 _ rfl _ a3 _ m4 _ e4) (λ⟨m1,e1,a1,m2,e2,m3,e3,a3⟩=>bg λH=>H _ m1 _ e1 _ a1 _ m2 _ e2 _ m3 _ e3 _ a3 _ rfl);exact k_1 (jn h4 S' (aF λH=>H _ (I0.iA rfl rfl) _ n _ A.bP _ m1 _ e1 _ m2 _ (aF λH=>H _ _ e4:ak (N+2) (.of 74) [eX x] h1=.ok .none h4)) I4 (mvA.trans FD))
include W in theorem LJ (hN:d<=N) (h0:0<w.au.length) (I:TI w x S p hs) (hp:p<(flat w).length):mR (N+3) (.of 9) (TI w) (.of 80) [] x S (if p=0 then (flat w).length else p-1) hs:=by
 have n:=xj W hN I hp;have I0:=I;refine I.K8 (k_:=λj i r hr A0 hi e_7=> ?_) hp;clear I hp;subst e_7;refine A0.fW (k_:=λxo So Si xi A I=> ?_) hr;have aa:=W.inner (N+2) (Sl hN (SI _ _)) r (Sk hr);have m1:bK hs (.aI w.ki.C xi) (.of 2)=some w.ki.back:=aT (aa.cell I) aa.Bj rfl;refine ig (aa.back I hi) λh1 GQ e1 I1 mv1=> ?_;clear A0 I;obtain ⟨A1,mvA⟩:=zC (W.outer N hN) A hr (Du A) I1 mv1;refine A1.fW (k_:=λxo' ND Si2 xi' A1' I1'=> ?_) hr;have m2:bK h1 (eX x) (.of 26)=some (.of 75):=aR A1'.bP rfl rfl;clear I1 A1' I1';cases i with
 |succ i=>rw [if_neg (Uv i)] at A1;rw [if_neg (show bh (fR w) w.au j+(i+1)≠0 from Uv _)];have I2:TI w x _ (bh (fR w) w.au j+(i+1)-1) h1:=wo hr A1 (UH hi);exact jn h1 _ (aF λH=>H _ (I0.iA rfl rfl) _ n _ A.bP _ m1 _ e1 _ m2 _ (mz W hN I2).2) I2 mvA
 |zero=>
  have V:=W.outer (N+1) (Tp hN);have hj:=(Sj.mp hr).1;refine Ek (k_:=λh4 S' hv e4 I4 FD=> ?_) W hN A1 hr (Sv _) (b:=ac7.2) (mo:=(.of 2)) (mi:=(.of 7)) (j':=if j=0 then w.au.length else j-1) (p':=if bh (fR w) w.au j+0=0 then (flat w).length else bh (fR w) w.au j+0-1) (i':=λr=>(w.zp r.2).length-1) (by split<;>first|exact Sv _|exact Sl (Vl _ _) (Tj hj)) V.Bj rfl (W.inner N hN r (Sk hr)).v8 rfl (λI=>V.back I hj) (λr hr y y y y I=>(W.inner (N+1) (Tp hN) r (Sk hr)).last I) (λh=>by
   refine aQ λcT k_1=> ?_;cases j with
   |zero=>exact k_1 (if_pos rfl)
   |succ j=>rw [if_neg (Uv j)] at h;exact absurd h (SY (UH hj))) (λr hr=>by
   have pos:=W.kH r (Sk hr);refine ⟨U0 pos TV,?_⟩;cases j with
   |zero=>rw [if_pos rfl] at hr;exact absurd (Sj.mp hr).1 (To _)
   |succ j=>rw [if_neg (Uv j)] at hr⊢;have e:=dP (f:=fR w) hr;rw [acu,if_neg (show bh (fR w) w.au (j+1)≠0 from λz=>by rw [show j+1=j+1-1+1 from rfl,e] at z;exact absurd (Sl pos (TA _ _)) (((z).symm▸(Nat.not_succ_le_zero _))))];refine (?_:bh (fR w) w.au (j+1)-1=_);rw [show bh (fR w) w.au (j+1)=bh (fR w) w.au (j+1-1)+(w.zp r.2).length from e,Z2 pos]) (λ⟨m1,e1,a1,m2,e2,m3,e3,a3⟩ m4 e4=>bg λH=>H _ m1 _ e1 _ a1 _ m2 _ e2 _ m3 _ e3 _ a3 _ rfl _ a3 _ m4 _ e4) (λ⟨m1,e1,a1,m2,e2,m3,e3,a3⟩=>bg λH=>H _ m1 _ e1 _ a1 _ m2 _ e2 _ m3 _ e3 _ a3 _ rfl);exact jn h4 S' (aF λH=>H _ (I0.iA rfl rfl) _ n _ A.bP _ m1 _ e1 _ m2 _ (aF λH=>H _ _ e4:ak (N+2) (.of 75) [eX x] h1=.ok .none h4)) I4 (mvA.trans FD)
end
/-!abM whole instances -/
noncomputable def solid:Nat->J->Bool
 |0,_=>false
 |k+1,v=>match v with
  | .ah=>false
  | .ref _=>false
  | .aI _ _=>false
  | .O l=>l.all (solid k)
  |_=>true
theorem iL: ∀{l:List J},(∀v∈l,f v Y=some (v,Y))->gG f l Y=some (l,Y):=by
 intro l_;induction l_ with
 |nil=>exact @λz=>rfl
 |cons a l aG=>exact @λh=>by refine (?_:((f a Y).bind λx=>(gG f l x.2).map λy=>(x.1::y.1,y.2))=_);rw [h a (.head _)];refine (?_:Td _ (gG f l Y)=_);rw [aG λv hv=>h v (.tail _ hv)];rfl
theorem qR: ∀{k:Nat} {v:J},solid k v=true->aq true k v Y=some (v,Y):=by
 intro l_;induction l_ with
 |zero=>exact @λz h=>Uu h
 |succ k aG=>
  exact @λv h=>by
   cases v<;>first|rfl|(cases h;done)|skip
   refine (?_:Td _ (gG (aq true k) _ Y)=_);refine (iL λv hv=>aG (Tc.mp h v hv)).symm▸ ?_;rfl
theorem w5 {κ:Type}: ∀{l:List (κ×J)},(l.all λa=>solid k a.2)=true->iY (aq true k) l Y=some (l,Y):=by
 intro l_;induction l_ with
 |nil=>exact @λz=>rfl
 |cons a l aG=>exact @λh=>by obtain ⟨h1,h2⟩:=Su.mp h;refine (?_:((aq true k a.2 Y).bind λx=>(iY (aq true k) l x.2).map λy=>((a.1,x.1)::y.1,y.2))=_);rw [qR h1];refine (?_:Td _ (iY (aq true k) l Y)=_);rw [aG h2];rfl
theorem pN (h:Y.h x=some (.cj fs)) (hs:(fs.all λa=>solid k a.2)=true):aq true (k+1) (.aI C x) Y=some (.obj C fs,Y.del x):=by refine (?_:(Y.h x).bind _=_);rw [h];refine (?_:Td _ (iY (aq true k) fs Y)=_);rw [w5 hs];rfl
theorem bG.del (e:bG a b) (h:a.n<=x):bG a (b.del x):=⟨e.n,λy hy=>(if_neg (SY (Sx hy h))).trans (e.h y hy)⟩
theorem bG.set (e:bG a b) (h:a.n<=x):bG a (b.set x o):=⟨e.n,λy hy=>(if_neg (SY (Sx hy h))).trans (e.h y hy)⟩
theorem lC {Y:U} (hs:(fs.all λa=>solid k a.2)=true):aq true (k+1) (.aI C Y.n) (Y.new (.cj fs))=some (.obj C fs,Y.bY):=by rw [pN (U.bR _ _) hs,U.sr]
/-!acq -/
noncomputable abbrev jz (a b:Nat):J:=.obj (.of 6) [((.of 0),it a),((.of 1),it b)]
noncomputable def var (m:Nat):B:=gZ 2 m
theorem iu (n:Nat) (hs:U) (hd:d=pre++(var a++(var b++post))) (hp:p=pre.length) (ha:a<128^3) (hb:b<128^3):ak (n+3) (.of 15) [.bytes d,it p] hs=.ok (.bW [jz a b,it (p+(var a).length+(var b).length)]) hs.bY:=by exact aF λH=>H _ (dS n hs hd hp ha (by decide)) _ (dS n hs (d:=d) (pre:=pre++var a) (k:=2) (m:=b) (p:=p+(var a).length) (by rw [hd,SG];rfl) (by rw [hp,Sq]) hb (by decide)) _ (gq (n:=n+1) (f:=(.of 59)) (C:=(.of 6)) (args:=[it a,it b]) (hs:=hs) (fs:=[]) (fs':=[((.of 0),it a),((.of 1),it b)]) rfl rfl) _ _ (lC rfl)
/-!RL -/
noncomputable def sm:B->Nat
 |[]=>0
 |b::r=>b.toNat+sm r
theorem OT (Y:U) (b:B):FP Y (.bytes b)=some (sm b:Int):=by
 have: ∀b:B,((b.map λu=>(u.toNat:Int)).sum)=(sm b:Int):=λb=>by
  induction b with
  |nil=>rfl
  |cons u b ih=>refine (?_:(u.toNat:Int)+(b.map λu=>(u.toNat:Int)).sum=_);rw [ih];rfl
 exact congrArg some (this b)
theorem GH: ∀a b:B,sm (a++b)=sm a+sm b:=by
 intro l_;induction l_ with
 |nil=>exact @λz=>(TX _).symm
 |cons u a aG=>exact @λb=>by refine (?_:u.toNat+sm (a++b)=u.toNat+sm a+sm b);rw [aG b,TU]
noncomputable def tot (c:B):Nat:=sm c*251+(c.length+1)*65537+7
theorem sM {x y:Nat} (h:y<2^64):gK .mul (it x) (it y)=some (it (x*y)):=Qc (by rw [Wv];exact h)
theorem xH (n:Nat) (hs:U) (b:B):ak (n+1) (.of 9) [it 2,.bytes b] hs=.ok (it ((sm b*251+b.length*65537+7)%2^32)) hs:=aF λH=>H _ rfl _ rfl ((it (sm b))) (by rw [OT];rfl) _ (sM (by decide)) _ (sM (by decide)) _ (iI (Uy _ 32))
noncomputable def bC (c:B):B:=c++(0::le 4 (tot c))
theorem cZ (c:B):(bC c).length=c.length+5:=by rw [bC,Sq,Yg,dX]
theorem Kv {a b:Nat} (h:a=b):decide ((a:Int)≠(b:Int))=false:=dF λq=>q (congrArg _ h)
theorem lI (n:Nat) (hs:U) (hd:d=pre++(bC c++post)) (hp:p=pre.length):ak (n+2) (.of 16) [.bytes d,jz p c.length,it 2] hs=.ok (.bytes c) hs:=by
 have hl:p+c.length+5<=d.length:=by rw [hd,Sq,Sq,cZ,hp,<-TU,<-TU];exact SI _ _
 have d1:d=pre++((c++[0])++(le 4 (tot c%2^32)++post)):=by rw [hd,bC,show (2^32:Nat)=256^4 by rfl,Cg,SG,SG];rfl
 have d2:d=(pre++(c++[0]))++(le 4 (tot c%2^32)++post):=d1.trans (SG pre (c++[0]) _).symm;have cl:(c++[0]).length=c.length+1:=Sq;have e1:=dz n hs (bP:=p+c.length+1) d2 (by refine (Sq).symm▸((cl).symm▸ ?_);exact (hp).symm▸(TU _ _ _)) (mod_lt (by decide));have e2:ak (n+1) (.of 9) [it 2,.bytes (c++[0])] hs=.ok (it (tot c%2^32)) hs:=by have:=xH n hs (c++[0]);rw [GH,cl] at this;exact this
 have e3:cN hs (.bytes d) (some (it p)) (some (it (p+c.length+1)))=some (.inl (.bytes (c++[0]))):=by rw [Cy hs rfl rfl];exact congrArg (λb=>some (aas (J.bytes b))) (BQ d1 hp (by refine (cl).symm▸((hp).symm▸ ?_);exact TU _ _ _))
 have e5:cN hs (.bytes (c++[0])) none (some (it c.length))=some (.inl (.bytes c)):=by rw [Hx hs rfl,VQ]
 exact aF λH=>H _ (dg hl) _ e3 _ rfl _ e1 _ e2 _ (Kv rfl) _ (B9 hs (u:=0) (nS (l:=[0]) (post:=[]) (i:=0) rfl rfl)) _ (Kv rfl) _ e5
theorem Gr {κ:Type} {f:κ} (h:aq true k v Y=some (v',σ')): ∀{l:List (κ×J)},(l.all λa=>solid k a.2)=true->iY (aq true k) (l++[(f,v)]) Y=some (l++[(f,v')],σ'):=by
 intro l_;induction l_ with
 |nil=>exact @λz=>by refine (?_:((aq true k v Y).bind _)=_);rw [h];rfl
 |cons a l aG=>exact @λhl=>by obtain ⟨h1,h2⟩:=Su.mp hl;refine (?_:((aq true k a.2 Y).bind λx=>(iY (aq true k) (l++[(f,v)]) x.2).map λy=>((a.1,x.1)::y.1,y.2))=_);rw [qR h1];refine (?_:Td _ (iY (aq true k) (l++[(f,v)]) Y)=_);rw [aG h2];rfl
theorem MX (h:Y.h y=some (.O l)) (hl:l.all (solid k)=true):aq true (k+1) (.ref y) Y=some (.O l,Y.del y):=by refine (?_:(Y.h y).bind _=_);rw [h];refine (?_:Td _ (gG (aq true k) l Y)=_);rw [iL λv hv=>qR (Tc.mp hl v hv)];rfl
section
variable (n:Nat) (hs:U) (R:List (B×B)) (Co:Cl) (fo:List (Fd×J))
noncomputable def F0:List (Fd×J):=[((.of 27),.bytes (enc R++b7))]
noncomputable def F1:List (Fd×J):=[((.of 27),.bytes (enc R++b7)),((.of 28),.obj Co fo)]
noncomputable def F2:List (Fd×J):=[((.of 27),.bytes (enc R++b7)),((.of 28),.obj Co fo),((.of 29),it (L R))]
noncomputable def F3:List (Fd×J):=F2 R Co fo++[((.of 30),.ref (hs.n+1))]
noncomputable def IZ (x:Nat):List J:=[.aI (.of 4) x,.bytes (enc R++b7),.obj Co fo,it (enc R++b7).length,it 1]
noncomputable def R0:Ss:=(bf (aM nA 9)).2
theorem Kh:(enc R++b7).length=L R+8:=Sq
theorem qP {R_:Prop} (k_: ∀h1 h2,ak (n+2) (.of 42) [.aI (.of 4) hs.n,.bytes (enc R++b7),.obj Co fo] (hs.new (.cj []))=.ok .none h1->aq true 12 (.aI (.of 4) hs.n) h1=some (zU (.obj Co fo) R,h2)->bG hs h2->R_):R_:=by
 let x:=hs.n;let y:=hs.n+1;let H2:=hs.new (.cj (F2 R Co fo));let H3:=H2.new (.O []);let H4:=H3.set x (.cj (F3 hs R Co fo));let H5:=H4.set y (.O [it 0]);have xy:x≠y:=SY (SQ _);have n0: ∀o,(hs.new o).h x=some o:=λo=>U.bR _ _;have n1: ∀o p,(hs.new o).set x p=hs.new p:=λo p=>U.fN _ _ _;have x4:H4.h x=some (.cj (F3 hs R Co fo)):=U.bA _ _ _;have y4:H4.h y=some (.O []):=(U.bM xy.symm).trans (U.bR _ _);have hlen:=Kh R;have h4:((enc R++b7).length:Int)-4=((enc R).length+4:Nat):=cD (c:=4) (by refine (hlen).symm▸ ?_;rfl);have e1: ∀H,ak (n+1) (.of 7) [.bytes (enc R++b7),.int (((enc R++b7).length:Int)-4)] H=.ok (it 1) H:=λH=>by rw [h4];exact dz n H (pre:=enc R++[0,0,0,0]) (post:=[]) (by rw [SG];rfl) (Sq (bs:=[0,0,0,0])).symm (by decide)
 have eb:cU (cA (ak (n+1)) (.name 5) R0) [it 0] ⟨IZ R Co fo x++[.ah,.ah],H4⟩=.ok .next ⟨IZ R Co fo x++[it 0,it 0],H5⟩:=bS (.inl (bg λH=>H _ x4 _ x4 _ rfl _ ((λH=>dz n H (pre:=enc R) (post:=[1,0,0,0]) rfl rfl (by decide): ∀H,ak (n+1) (.of 7) [.bytes (enc R++b7),it (L R)] H=.ok (it 0) H) _) _ rfl _ rfl _ x4 _ y4 _ y4 (by decide) _ rfl)) rfl;have er:jg (ak (n+1)) (.name 5) R0 [it 1] ⟨IZ R Co fo x++[.ah,.ah],H4⟩=.ok .next ⟨IZ R Co fo x++[it 0,it 0],H5⟩:=by unfold jg;rw [dG (by decide)];exact eb
 refine k_ H5 ((H5.del y).del x) (aF λH=>H _ rfl ((.cj [])) (n0 _) ((hs.new (.cj (F0 R)))) (n1 _ _) ((.cj (F0 R))) (n0 _) ((hs.new (.cj (F1 R Co fo)))) (n1 _ _) ((.cj (F1 R Co fo))) (n0 _) false (dg (by rw [hlen];exact Sl (by decide) (TA 8 _))) ((.cj (F1 R Co fo))) (n0 _) (.ok ((it 1)) _) (e1 _) false rfl _ rfl false (dg (by rw [hlen];exact TA 8 _)) _ rfl ((.cj (F1 R Co fo))) (n0 _) H2 (by exact ((cD hlen)).symm▸(n1 _ _):(hs.new (.cj (F1 R Co fo))).set x (.cj (F1 R Co fo++[((.of 29),.int (((enc R++b7).length:Int)-8))]))=H2) ((.cj (F2 R Co fo))) ((U.fh xy).trans (n0 _)) H4 rfl .next ⟨IZ R Co fo x++[it 0,it 0],H5⟩ er) ?_ ?_;·refine (?_:(H5.h x).bind _=_);rw [((U.bM xy).trans x4)];refine (?_:Td _ (iY (aq true 11) (F3 hs R Co fo) H5)=_);rw [show iY (aq true 11) (F3 hs R Co fo) H5=some (F2 R Co fo++[((.of 30),.O [it 0])],H5.del y) from Gr (MX (U.bA _ _ _) rfl) rfl];rfl
 ·exact (((((bG.new hs _).trans (bG.new _ _)).set (Sv _)).set (T8 _)).del (T8 _)).del (Sv _)
theorem nG:ak (n+2) (.of 43) [zU cS R] hs=.ok (mC hs.n) (hs.new (mL R (L R) (L R) [] 0)):=aF λH=>H _ (gq (C:=(.of 5)) (args:=[zU cS R]) rfl rfl)
theorem oO:Fw R hs.n [hs.n] R.length (hs.new (mL R (L R) (L R) [] 0)):=⟨rfl,SQ _,Sv _,0,by refine (?_:(hs.new _).h hs.n=some (mL R (off R R.length) (off R (R.length+1)) (gc R R.length) 0));refine (fO (Sv _)).symm▸((fO (T8 _)).symm▸ ?_);refine (show gc R R.length=[] by unfold gc;refine (Ua (Sv _)).symm▸ ?_;rfl).symm▸ ?_;exact U.bR _ _,λr e=>by replace e:=(Ua (Sv _))▸e;cases e⟩
end
noncomputable def cont (R:List (B×B)):B:=enc R++b7
theorem uG (R:List (B×B)):(cont R).length=L R+8:=Kh R
noncomputable def EA (R:List (B×B)):B:=0::var (cont R).length
noncomputable def ee (R:List (B×B)) (top:B):List (B×B):=[(top,EA R)]
noncomputable def iS (R:List (B×B)) (top:B):B:=var ((cont R).length+5)++(var 8++(var ((cont R).length+18)++var (cont (ee R top)).length))
noncomputable def pO:B:=[87,251,128,139,36,117,71,219]
noncomputable def zeros (R:List (B×B)) (top:B):B:=Tf (40-(iS R top).length) 0
noncomputable def gP (R:List (B×B)) (top:B):B:=bC (cont R)++(bC b7++(bC (cont (ee R top))++(iS R top++(zeros R top++pO))))
theorem eW (m:Nat):(var m).length<=3:=Jj 2 m
theorem l9 (R:List (B×B)) (top:B):(iS R top).length<=12:=by unfold iS;rw [Sq,Sq,Sq];exact Vm (eW _) (Vm (eW _) (Vm (eW _) (eW _)))
theorem JI (R:List (B×B)) (top:B):(iS R top++zeros R top).length=40:=by rw [Sq,zeros,Ve,UD (Sl (l9 R top) (by decide))]
structure LU (R:List (B×B)) (top:B):Prop where
 rows:tT R
 kH:0<R.length
 tk:eF top
 short:top.length<128
 c:(cont R).length<=4000
 last: ∃a,R[R.length-1]? =some a/\a.1=top
noncomputable abbrev JU (R:List (B×B)) (top:B):J:=.obj (.of 7) [((.of 37),jz ((cont R).length+5) 8),((.of 38),jz ((cont R).length+18) (cont (ee R top)).length)]
section
variable (n:Nat) (hs:U) {R:List (B×B)} {top:B} (ok:LU R top)
include ok in theorem DE:(cont (ee R top)).length<150:=by have h1:=ok.short;have h2:=eW (cont R).length;rw [uG];refine (?_:(fW (top,EA R)++[]).length+8<150);rw [Ti,j3];exact (Ln.n2 0x18612226a4a2282888ca288841014223052220a00) h1 h2
theorem yU (Y:U) (h:k<=4096):iB Y (it k)=some (Tf k 0):=by show (if 0<=(k:Int)/\(k:Int)<=4096 then some (Tf (k:Int).toNat 0) else none)=_;rw [if_pos ⟨TF k,UN.mpr h⟩];rfl
include ok in theorem rV {R_:Prop} (k_: ∀aJ,ak (n+4) (.of 17) [.bytes (gP R top)] hs=.ok (JU R top) aJ->bG hs aJ->R_):R_:=by
 let c:=(cont R).length;let li:=(cont (ee R top)).length;have hli:li<150:=DE ok;have hc:c<=4000:=ok.c;let d:=gP R top;let pre:=bC (cont R)++(bC b7++bC (cont (ee R top)));let tz:=iS R top++zeros R top;have htz:tz.length=40:=JI R top;have hd:d=pre++(tz++pO):=by refine (?_:bC (cont R)++(bC b7++(bC (cont (ee R top))++(iS R top++(zeros R top++pO))))=(bC (cont R)++(bC b7++bC (cont (ee R top))))++((iS R top++zeros R top)++pO));rw [SG,SG,SG]
 have hl:d.length=pre.length+48:=(Uc (congrArg _ (hd)) (Sq.trans (congrArg _ (Sq.trans (congrArg (· +8) htz)))));have hsub:(d.length:Int)-48=(pre.length:Int):=cD hl;have e1:cN hs (.bytes d) (some (.int ((d.length:Int)-48))) none=some (.inl (.bytes (tz++pO))):=by rw [DL hs hsub,hd,Xp]
 have e3:cN hs (.bytes (tz++pO)) none (some (it 40))=some (.inl (.bytes tz)):=by rw [Hx hs rfl,<-htz,VQ]
 have ht:tz=[]++(var (c+5)++(var 8++(var (c+18)++(var li++zeros R top)))):=by refine (?_:iS R top++zeros R top=_);unfold iS;rw [SG,SG,SG];rfl
 have e4:=iu n hs ht rfl (show c+5<128^3 by exact (Ln.n1 0x1848882082082228894050882abc0) hc) (show 8<128^3 by decide);let a1:=0+(var (c+5)).length+(var 8).length;let a2:=a1+(var (c+18)).length+(var li).length;have e5:=iu n hs.bY (d:=tz) (pre:=var (c+5)++var 8) (p:=a1) (by rw [ht,SG];rfl) (by rw [Sq];exact congrArg (· +_) (TX _)) (show c+18<128^3 by exact (Ln.n1 0x61222082082088a22284050882abc0) hc) (show li<128^3 by exact (Ln.n1 0x18488820820822012226a40) hli);have ha2:a2=(iS R top).length:=by unfold iS;rw [Sq,Sq,Sq];refine (?_:0+_+_+_+_=_);rw [TX,TU,TU]
 have e6:cN hs.bY.bY (.bytes tz) (some (it a2)) none=some (.inl (.bytes (zeros R top))):=by rw [DL _ rfl,ha2];exact congrArg (λb=>some (aas (J.bytes b))) Xp
 have e7:Td J.bytes (iB hs.bY.bY (.int (((40:Nat):Int)-(a2:Int))))=some (.bytes (zeros R top)):=by rw [(cD (TS (by rw [ha2];exact Sl (l9 R top) (by decide))).symm),yU _ (Sl (Vl _ _) (by decide)),ha2];rfl
 refine k_ hs.bY.bY.bY (aF λH=>H _ (dg (by rw [hl];exact TA _ _)) _ e1 _ rfl _ (jv (n+1) hs (pre:=tz) (post:=[]) rfl htz.symm (by decide)) _ (Kv rfl) _ e3 _ e4 _ e5 _ e6 _ e7 _ (dF λh=>h rfl) _ (gq (n:=n+2) (f:=(.of 60)) (C:=(.of 7)) (args:=[jz (c+5) 8,jz (c+18) li]) (hs:=hs.bY.bY) (fs:=[]) (fs':=[((.of 37),jz (c+5) 8),((.of 38),jz (c+18) li)]) rfl rfl) _ _ (lC rfl)) (bG.iP 3 hs)
end
noncomputable def zL:List (Fd×J):=[((.of 7),it 2),((.of 8),it 32),((.of 9),.bool true),((.of 10),.bool true),((.of 11),.bool false),((.of 12),it 96),((.of 13),it 4),((.of 14),.bW [it 1,it 2,it 1,it 3,it 1,it 2,it 1,it 4]),((.of 15),it 48),((.of 16),it 2),((.of 3),it 0),((.of 17),it 5),((.of 18),it 128),((.of 19),it 4),((.of 20),it 2),((.of 21),it 4),((.of 22),it 256),((.of 23),it 2),((.of 24),it 2),((.of 25),it 10),((.of 26),it 25)]
noncomputable abbrev ie:J:=.obj (.of 3) zL
noncomputable def Jo (R:List (B×B)) (top:B):Nat:=(cont R).length+(cont (ee R top)).length+23
noncomputable def Kd (R:List (B×B)) (top:B) (rest:List (Fd×J)):List (Fd×J):=((.of 27),.bytes (gP R top))::((.of 39),ie)::((.of 28),cS)::((.of 40),JU R top)::((.of 41),it (Jo R top))::rest
noncomputable def Px (R:List (B×B)) (top:B):List (Fd×J):=Kd R top [((.of 38),zU cS (ee R top)),((.of 42),.none)]
noncomputable abbrev iG (R:List (B×B)) (top:B):J:=.obj (.of 8) (Px R top)
theorem FA (R:List (B×B)) (top:B):(gP R top).length=Jo R top+48:=by have h:=JI R top;rw [Sq] at h;unfold gP Jo;rw [Sq,Sq,Sq,Sq,Sq,cZ,cZ,cZ,<-TU (iS R top).length,h];exact (Ln.n2 0x58a2208ca22784a04028a28882328894122d288940)
section
variable (n:Nat) {hs:U} {R:List (B×B)} {top:B} {x:Nat} {rest:List (Fd×J)} {pre c post:B}
theorem ng (h:hs.h x=some (.cj (Kd R top rest))) (hd:gP R top=pre++(bC c++post)) (hb:pre.length+c.length+5<=Jo R top):ak (n+3) (.of 62) [.aI (.of 8) x,jz pre.length c.length] hs=.ok (.bytes c) hs:=aF λH=>H _ h _ (dg hb) _ h _ h _ (lI n hs hd rfl)
theorem uN (hs:U) (hd:gP R top=pre++(bC c++post)) (hb:pre.length+c.length+5<=Jo R top):ak (n+3) (.of 62) [.obj (.of 8) (Kd R top rest),jz pre.length c.length] hs=.ok (.bytes c) hs:=aF λH=>H _ (dg hb) _ (lI n hs hd rfl)
end
section
variable (n:Nat) (hs:U) {R:List (B×B)} {top:B} (ok:LU R top)
include ok in theorem qC (s:List (Fd×J)):ak (n+4) (.of 63) [.obj (.of 8) s,.bytes (EA R)] hs=.ok (jz 0 (cont R).length) hs.bY:=by
 have hc:=ok.c;have e:=iu n hs (d:=EA R) (pre:=[]) (post:=[]) (a:=0) (b:=(cont R).length) (by rw [Ti];rfl) rfl (by decide) (by exact (Ln.n1 0x61222082082088050882abc0) hc);have hl:0+(var 0).length+(var (cont R).length).length=(EA R).length:=by refine (?_:0+1+_=(var (cont R).length).length+1);rw [TX,Uz]
 rw [show ([]:B).length=0 from rfl,hl] at e;exact aF λH=>H _ e _ (Kv rfl)
include ok in theorem l5 {R_:Prop} (k_: ∀aJ,ak (n+5) (.of 64) [iG R top,.bytes (EA R)] hs=.ok (mC aJ.n) (aJ.new (mL R (L R) (L R) [] 0))->bG hs aJ->R_):R_:=by refine qP (k_:=λh1 h2 e3 e4 x2=> ?_) (n+2) hs.bY R (.of 2) [((.of 6),rD)];exact k_ h2 (aF λH=>H _ rfl _ rfl _ (qC n hs ok (Px R top)) _ (uN (n+1) (R:=R) (top:=top) (rest:=[((.of 38),zU cS (ee R top)),((.of 42),.none)]) (pre:=[]) (c:=cont R) hs.bY rfl (by exact (Ln.n2 0x50a22784a04028894a008))) _ e3 _ _ e4 _ rfl _ (nG (n+2) h2 R)) ((bG.bY hs).trans x2)
theorem JF:ak (n+4) (.of 65) [iG R top] hs=.ok (eX (hs.n+1)) ((hs.new (mL (ee R top) (L (ee R top)) (L (ee R top)) [] 0)).new (.cj [((.of 43),mC hs.n),((.of 44),iG R top),((.of 45),.none),((.of 46),.bytes [])])):=by let h1:=hs.new (mL (ee R top) (L (ee R top)) (L (ee R top)) [] 0);exact aF λH=>H _ rfl _ (nG (n+1) hs (ee R top)) _ (gq (n:=n+2) (f:=(.of 67)) (C:=(.of 9)) (args:=[mC hs.n,iG R top]) (hs:=h1) (fs:=[]) (fs':=[((.of 43),mC hs.n),((.of 44),iG R top),((.of 45),.none),((.of 46),.bytes [])]) rfl rfl)
end
noncomputable def RM:Kind:=⟨(.of 9),(.of 68),(.of 70),(.of 71),(.of 76),(.of 77),(.of 78),(.of 79),(.of 80)⟩
section
variable {w:nH} {d:Nat} (W:Od w d)
theorem Any.frame {S:List Nat} {So Si:List Nat} (V:Itr N w.ko w.au w.Io) (aa: ∀r∈w.au,AS N w.ki (w.zp r.2) (w.GP r.2)) (A:Any w x S xo So Si fD pl j hs) (hn:hs.n<=aJ.n) (h: ∀y∈S,aJ.h y=hs.h y):Any w x S xo So Si fD pl j aJ:=by
 obtain ⟨ha,hx,ho,hno,hh,heq⟩:=A;subst heq;refine ⟨(h x (.head _)).trans ha,Sx hx hn,V.frame ho hn λy hy=>h y (.tail _ (TP _ hy)),hno,?_,rfl⟩;clear ha;rcases hh with hh|⟨xi,i,r,hi,hr,rfl,I,q⟩;·exact .inl hh
 ·exact .inr (d7 xi i r hi hr rfl ((aa r hr).frame I hn λy hy=>h y (.tail _ (S9 _ hy))) q)
include W in theorem TI.frame {S:List Nat} (I:TI w x S p hs) (hn:hs.n<=aJ.n) (h: ∀y∈S,aJ.h y=hs.h y):TI w x S p aJ:=by
 have V:=W.outer d (Sv _);have aa:=W.inner d (Sv _);refine aQ λcT k_1=> ?_;rcases I with ⟨j,i,r,hr,⟨xo,So,Si,xi,r',hr',A,I⟩,hi,hp⟩|⟨⟨xo,So,pl,A⟩,hp⟩;·refine k_1 (.inl (N2 j i r hr (QH xo So Si xi r' hr' (A.frame V aa hn h) ((aa r' (Sk hr')).frame I hn λy hy=>h y ?_)) hi hp));rw [A.eq];exact .tail _ (S9 _ hy)
 ·exact k_1 (.inr ⟨(Ho xo So pl (A.frame V aa hn h)),hp⟩)
include W in theorem TI.own {S:List Nat} (I:TI w x S p hs): ∀y∈S,y<hs.n:=by
 refine I.any λxo So Si fD pl j A=> ?_;clear I;obtain ⟨ha,hx,ho,hno,hh,heq⟩:=A;clear ha;subst heq;intro y hy;cases hy with
 |head=>exact hx
 |tail _ hy=>
  rcases SW.mp hy with q|q;·exact (W.outer d (Sv _)).own ho y q
  ·clear hy;rcases hh with ⟨_,rfl⟩|⟨xi,i,r,hi,hr,hp,I,_⟩;·cases q
   ·subst hp;exact (W.inner d (Sv _) r hr).own I y q
include W in theorem Jk (h0:0<w.au.length) (hl:tL (fR w) w.au): ∀M,d+3<=M->AS M RM (flat w) (TI w):=λM hM=>by refine fU (Us (Sl (TA 3 d) hM)) λN nR=> ?_;subst nR;have hN:d<=N:=Nat.le_of_add_le_add_right hM;exact {lQ:=rfl,tO:=rfl,qM:=rfl,v8:=rfl,we:=rfl,z6:=rfl,Bj:=rfl,Qx:=rfl,cell:=λI=>by refine I.any (k_:=λz z z z z z A=> ?_);exact ⟨_,A.bP⟩,mem:=λI=>by refine I.any (k_:=λz z z z z z A=> ?_);exact (A.eq).symm▸(.head _),own:=λI=>I.own W,le:=λI=>I.le,frame:=λI=>I.frame W,valid:=λI=>uq W (Sl hN (SI N 2)) I,value:=λI hr=>(aH _ ((BU W hN I hr).2) (.refl _)),key':=λI hr=>(BU W hN I hr).1,value':=λI hr=>(BU W hN I hr).2,first:=λI=>IK W hN h0 I,last:=λI=>Mk W hN h0 I,seek:=λI ht lb=>Ni W hN h0 hl ht lb I,step:=λI hp=>Nl W hN h0 I hp,back:=λI hp=>LJ W hN h0 I hp}
end
section
variable {R:List (B×B)} {top:B} (ok:LU R top)
noncomputable def wT (R:List (B×B)) (top:B):nH:=⟨biK,biK,ee R top,Fw (ee R top),λz=>R,λz=>Fw R,iG R top⟩
theorem sL:flat (wT R top)=R:=Ti R
theorem D4 (R:List (B×B)):(EA R).length<=4:=Vc (eW _)
include ok in theorem KQ:tT (ee R top) where
 fW r hr:=by rw [Sy.mp hr];exact ⟨ok.short,SD (D4 R) (by decide)⟩
 key r hr:=by rw [Sy.mp hr];exact ok.tk
 few:=show 1<=90 by decide
include ok in theorem OP:Od (wT R top) 6 where
 outer N hN:=by obtain ⟨n,rfl⟩:=Us hN;exact (xB n (KQ ok) TV).toItr
 inner N hN r _:=by obtain ⟨n,rfl⟩:=Us hN;exact xB n ok.rows ok.kH
 kH _ _:=ok.kH
 make:=(aH (.of 64) (λz=>rfl) (λN hN hs r hr=>by refine fU (Us hN) λn nR=> ?_;clear hN;subst nR;refine (Sy.mp hr).symm▸(l5 (k_:=λh1 e x=> ?_) (n+1) hs ok);exact ⟨_,_,_,e,oO h1 R,Sl x.n (T8 _),λy hy z=>((bG.new h1 _).h y (Sx hy x.n)).trans (x.h y hy),λy hy=>.inr (by exact (Sy.mp hy).symm▸(x.n))⟩))
include ok in theorem ye:tL (fR (wT R top)) (wT R top).au:=λr hr=>by exact ay ok.last λa h1 h2=>(Sy.mp hr).symm▸(aH a h1 h2)
include ok in theorem EK (M:Nat) (hM:9<=M):AS M RM R (TI (wT R top)):=by have:=Jk (OP ok) TV (ye ok) M hM;rw [sL] at this;exact this
theorem KH (n:Nat) (hs:U) {R_:Prop} (k_: ∀aJ,ak (n+4) (.of 65) [iG R top] hs=.ok (eX (hs.n+1)) aJ->TI (wT R top) (hs.n+1) [hs.n+1,hs.n] R.length aJ->bG hs aJ->R_):R_:=by
 refine k_ _ (JF n hs) (.inr ⟨⟨hs.n,[hs.n],[],U.bR _ _,SQ _,⟨rfl,Tu (SQ _),Sv _,?_⟩,?_,.inl ⟨rfl,rfl⟩,rfl⟩,congrArg VN sL.symm⟩) ((bG.new hs _).trans (bG.new _ _));·refine aQ λcT k_1=> ?_;obtain ⟨_,_,_,v,h,hv⟩:=oO hs (ee R top);exact k_1 (aH v ((U.fh (SY (SQ _))).trans h) hv)
 ·exact λq=>absurd (Sy.mp q) (Ym _)
end
section
variable {R:List (B×B)} {top:B} (ok:LU R top)
noncomputable def FO (R:List (B×B)) (q:Nat):J:=match R[q]? with
 |some r=>.bW [.bytes r.1,.bytes r.2]
 |none=>.none
include ok in theorem vq (n:Nat) (hs:U) (hk:eF ik) (lb:Lb R ik q) {R_:Prop} (k_: ∀aJ,ak (n+7) (.of 66) [iG R top,.bytes ik] hs=.ok (FO R q) aJ->bG hs aJ->R_):R_:=by
 have V:=xB n (KQ ok) (show 0<(ee R top).length from TV);have aa:=xB n ok.rows ok.kH;have e1:=nG (n+4) hs (ee R top);have I1:=oO hs (ee R top);have fl:gE (fR (wT R top)) (ee R top)=R:=sL;have st:bh (fR (wT R top)) (ee R top) 1=R.length:=(gk (f:=fR (wT R top)) (au:=ee R top)).trans (congrArg VN fl);have lb':Lb (gE (fR (wT R top)) (ee R top)) ik q:=by rw [fl];exact lb
 by_cases z:q<R.length;·
  obtain ⟨r,hr⟩:=fL z;have lo:Lb (ee R top) ik 0:=jq (ye ok) lb' (Tq _) (Tq _) λu=>((st).symm▸(z));refine ig (V.seek I1 hk lo) λh2 S2 e2 I2 nh=> ?_;have e3:=V.valid I2;rw [dW (show 0<(ee R top).length from TV)] at e3;refine l5 (k_:=λh3 e5 x3=> ?_) (n+1) h2 ok;have I5:=oO h3 R;refine ig (aa.seek I5 hk lb) λh6 S6 e6 I6 mv6=> ?_;have e7:=aa.valid I6;rw [dW z] at e7;have c2:=V.cell I2;have c6:=aa.cell I6;refine k_ h6 ?_ ?_;·rw [FO,hr];exact aF λH=>H _ rfl _ e1 _ (aT (V.cell I1) rfl rfl) _ e2 _ (aT c2 rfl rfl) _ e3 _ rfl _ (aT c2 rfl rfl) _ (V.value' I2 (r:=(top,EA R)) rfl) _ rfl _ rfl _ e5 _ (aT (aa.cell I5) rfl rfl) _ e6 _ (aT c6 rfl rfl) _ e7 _ rfl _ (aT c6 rfl rfl) _ (aa.key' I6 hr) _ (aT c6 rfl rfl) _ (aa.value' I6 hr)
  ·have a2:=(⟨Sl (T8 _) nh.n,λy hy=>(nh.h y (Tu hy) λq=>absurd (Sy.mp q) (SY hy)).trans (U.fh (SY hy))⟩:bG hs h2).trans x3;exact ⟨Sl a2.n (Sl (T8 _) mv6.n),λy hy=>(mv6.h y (Tu (Sx hy a2.n)) λq=>absurd (Sy.mp q) (SY (Sx hy a2.n))).trans ((U.fh (SY (Sx hy a2.n))).trans (a2.h y hy))⟩
 ·have lo:Lb (ee R top) ik 1:=jq (ye ok) lb' (Sv _) (by refine (st).symm▸(((VJ lb.le (SJ z))).symm▸ ?_);exact Sv _) λh=>absurd h (To _);obtain ⟨h2,S2,e2,I2,nh⟩:=V.seek I1 hk lo;have e3:=V.valid I2;rw [dg (show (ee R top).length<=1 from Sv _)] at e3;refine k_ h2 ?_ ⟨Sl (T8 _) nh.n,λy hy=>(nh.h y (Tu hy) λq=>absurd (Sy.mp q) (SY hy)).trans (U.fh (SY hy))⟩;rw [FO,Ua (SJ z)];exact aF λH=>H _ rfl _ e1 _ (aT (V.cell I1) rfl rfl) _ e2 _ (aT (V.cell I2) rfl rfl) _ e3 _ rfl
end
/-!ad2 -/
noncomputable def abF (t:List (Int×J)):List (Fd×J):=[((.of 47),.none),((.of 39),ie),((.of 28),cS),((.of 4),.gU t)]
noncomputable abbrev dc (t:List (Int×J)):J:=.obj (.of 10) (abF t)
section
variable {t:List (Int×J)} {num:Nat} {R:List (B×B)} {top:B} (ht:getD num t=some (iG R top))
include ht in theorem rj (n:Nat) (hs:U):ak (n+1) (.of 82) [dc t,it num] hs=.ok (iG R top) hs:=aF λH=>H false (by refine (ht).symm▸ ?_;rfl:(getD (num:Int) t).isNone=false) ((iG R top)) ht
include ht in theorem EW (ok:LU R top) (n:Nat) (hs:U) (hk:eF ik) (lb:Lb R ik q) {R_:Prop} (k_: ∀aJ,ak (n+8) (.of 83) [dc t,it num,.bytes ik] hs=.ok (FO R q) aJ->bG hs aJ->R_):R_:=by refine vq (k_:=λh1 e x=> ?_) ok n hs hk lb;exact k_ h1 (aF λH=>H _ rfl _ (rj ht (n+6) hs) _ rfl _ e) x
include ht in theorem uh (n:Nat) (hs:U) {R_:Prop} (k_: ∀aJ,ak (n+5) (.of 84) [dc t,it num] hs=.ok (eX (hs.n+1)) aJ->TI (wT R top) (hs.n+1) [hs.n+1,hs.n] R.length aJ->bG hs aJ->R_):R_:=by refine KH (k_:=λh1 e I x=> ?_) (R:=R) (top:=top) n hs;exact k_ h1 (aF λH=>H _ rfl _ (rj ht (n+3) hs) _ rfl _ e) I x
end
structure Meta where
 num:Nat
 size:Nat
 lo:B
 hi:B
noncomputable def aem (m:Meta):List (Fd×J):=[((.of 49),it m.num),((.of 1),it m.size),((.of 50),.bytes m.lo),((.of 2),.bytes m.hi)]
noncomputable abbrev fy (m:Meta):J:=.obj (.of 12) (aem m)
noncomputable abbrev bQ (ms:List Meta):List J:=ms.map fy
theorem yE {ms:List Meta} {i:Nat} {m:Meta} (Y:U) (h:ms[i]? =some m):cz Y (.O (bQ ms)) (it i)=some (fy m):=jo Y (by refine (SA).symm▸ ?_;refine (h).symm▸ ?_;rfl)
theorem DG (Y:Nat->Nat->J->St) (hc: ∀lo hi md,c (Y lo hi md)=.ok (.bool (mY lo hi)) (Y lo hi md)) (hb: ∀lo hi md,lo<hi->hi<=len->b (Y lo hi md)=.ok .next (if (lo+hi)/2<q then Y ((lo+hi)/2+1) hi (it ((lo+hi)/2)) else Y lo ((lo+hi)/2) (it ((lo+hi)/2)))): ∀(fuel lo hi:Nat) (md:J),hi<lo+fuel->lo<=q->q<=hi->hi<=len-> ∃md',ja c b fuel (Y lo hi md)=.ok .next (Y q q md'):=by
 intro l_;induction l_ with
 |zero=>exact @λlo hi u h h1 h2 u=>absurd h (Ux.mpr (Sl h1 h2))
 |succ fuel aG=>
  exact @λlo hi md h h1 h2 h3=>by
   have c1:=hc lo hi md;by_cases z:lo<hi;·
    rw [dW z] at c1;have b1:=hb lo hi md z h3;by_cases y:(lo+hi)/2<q;·rw [if_pos y] at b1;obtain ⟨md',e⟩:=aG ((lo+hi)/2+1) hi (it ((lo+hi)/2)) (by exact (Ln.n4 0x1861228228884301230a2210c888a00148a288842040) h (@XA 2 _ (by decide))) y h2 h3;exact ⟨md',gY c1 b1 e⟩
    ·rw [if_neg y] at b1;obtain ⟨md',e⟩:=aG lo ((lo+hi)/2) (it ((lo+hi)/2)) (by exact (Ln.n4 0x1861848a0810d428004c2220d200148a288842040) h z (VA _ _)) h1 (SJ y) (by exact (Ln.n5 0x61861850311428200c2221140c2502054040) h1 h2 h3 (VA _ _));exact ⟨md',gY c1 b1 e⟩
   ·replace c1:=(dg (SJ z))▸c1;have e1:lo=q:=by exact (Ln.n3 0x618616040712080502054040) h1 h2 z
    have e2:hi=q:=by exact (Ln.n3 0x61861600158009c481094040) h2 z e1
    clear hb h h1 h2 z;subst e1 e2;exact ⟨md,dB c1⟩
theorem OM (lb:Lb R tg q) (h:R[i]? =some r):decide (kc r.1 tg<0)=decide (i<q):=by
 by_cases z:i<q;·rw [dT z,dT (lb.lo i r z h)]
 ·rw [dF z];refine dF (VD.mpr ?_);rcases Tt (SJ z) with y|y;·exact Ww (lb.hi i r y h)
  ·exact lb.bP r (y▸h)
noncomputable def xe (ms:List Meta) (p:Int):gm:=.cj [((.of 48),.O (bQ ms)),((.of 28),cS),((.of 46),.int p)]
noncomputable def xV (ms:List Meta):List (B×B):=ms.map λm=>(m.hi,var m.num)
noncomputable abbrev BK (x:Nat):J:=.aI (.of 13) x
theorem CJ {i:Nat} (h:ms[i]? =some m):(xV ms)[i]? =some (m.hi,var m.num):=by unfold xV;rw [SA,h];rfl
theorem cR (ms:List Meta):(xV ms).length=ms.length:=Sp _
theorem pX (ms:List Meta):(bQ ms).length=ms.length:=Sp _
section
variable (n:Nat) {hs:U} {ms:List Meta} {x:Nat} {p:Int}
theorem Ka (h:hs.h x=some (xe ms p)) (hm:ms[i]? =some m):ak (n+1) (.of 95) [BK x,it i] hs=.ok (.bytes m.hi) hs:=aF λH=>H _ h _ (yE hs hm)
theorem Aj (h:hs.h x=some (xe ms p)):ak (n+1) (.of 86) [BK x] hs=.ok (.bool (decide (0<=p)&&decide (p<ms.length))) hs:=by
 rw [<-pX];cases z:decide (0<=p) with
 |true=>exact aF λH=>H _ h _ z _ h _ h
 |false=>exact aF λH=>H _ h _ z
theorem zc (h:hs.h x=some (xe ms p)) (h0:0<=p) (h1:p<ms.length):ak (n+2) (.of 87) [BK x] hs=.ok .none hs:=by have e:=Aj n h;rw [dT h0,dT h1] at e;exact aF λH=>H _ (aR h rfl rfl) _ e _ rfl
theorem G3 {i:Nat} (h:hs.h x=some (xe ms i)) (hm:ms[i]? =some m) (hn:m.num<128^3) {R_:Prop} (k_: ∀aJ,ak (n+4) (.of 93) [BK x] hs=.ok (.bytes (var m.num)) aJ->bG hs aJ->R_):R_:=by refine tD (k_:=λh1 e2 x2=> ?_) n hs (k:=2) hn (by decide);have e3:ak (n+3) (.of 96) [BK x,it i] hs=.ok (.bytes (var m.num)) h1:=aF λH=>H _ h _ (yE hs hm) _ e2;exact k_ h1 (aF λH=>H _ (aR h rfl rfl) _ (zc (n+1) h (TF i) (TM.mpr (Sj.mp hm).1)) _ (aR h rfl rfl) _ h _ e3) x2
theorem Jw (h:hs.h x=some (xe ms p)):ak (n+1) (.of 88) [BK x] hs=.ok .none (hs.set x (xe ms 0)):=aF λH=>H _ h _ rfl
theorem L8 (h:hs.h x=some (xe ms p)):ak (n+1) (.of 89) [BK x] hs=.ok .none (hs.set x (xe ms ((bQ ms).length-1))):=aF λH=>H _ h _ h _ rfl
theorem MD (h:hs.h x=some (xe ms p)) (h0:0<=p) (h1:p<ms.length):ak (n+3) (.of 91) [BK x] hs=.ok .none (hs.set x (xe ms (p+1))):=aF λH=>H _ (aR h rfl rfl) _ (zc n h h0 h1) _ h _ h _ rfl
theorem MG (h:hs.h x=some (xe ms p)) (h0:0<=p) (h1:p<ms.length):ak (n+3) (.of 92) [BK x] hs=.ok .none (hs.set x (xe ms (p-1))):=aF λH=>H _ (aR h rfl rfl) _ (zc n h h0 h1) _ h _ h _ rfl
noncomputable def M6:Ex×Ss:=bf (aM kG 2)
theorem LX (h:hs.h x=some (xe ms p)) (hk: ∀m∈ms,eF m.hi) (ht:eF tg) (few:ms.length<=90) (lb:Lb (xV ms) tg q):ak (n+5) (.of 90) [BK x,.bytes tg] hs=.ok .none (hs.set x (xe ms q)):=by
 refine fU (DG (c:=λY=>bk (ak (n+4)) .ah M6.1 Y) (b:=λY=>cu (ak (n+4)) M6.2 Y) (λlo hi md=>⟨[BK x,.bytes tg,it lo,it hi,md],hs⟩) (q:=q) (len:=ms.length) (λlo hi md=>dU λH=>H) (λlo hi md h1 h2=>by
  let mid:=(lo+hi)/2;have hm:mid<ms.length:=by lia
  have e0:=Sn hm;have e1:=Ka (n+3) h e0;have e2:=qu n hs (hk _ (Sk e0)) ht;have e3:=OM lb (CJ e0);by_cases z:(lo+hi)/2<q;·rw [if_pos z];exact bg λH=>H _ (bT rfl (by decide) (by decide)) _ h _ rfl _ (aR h rfl rfl) _ e1 _ e2 _ (e3.trans (dT z))
  ·rw [if_neg z];exact bg λH=>H _ (bT rfl (by decide) (by decide)) _ h _ rfl _ (aR h rfl rfl) _ e1 _ e2 _ (e3.trans (dF z))) 100 0 ms.length .ah (by exact (Ln.n1 0x1848892601422a940) few) (Tq _) (by rw [<-cR];exact lb.le) (Sv _)) λmd e=> ?_;have hl:=pX ms;exact aF λH=>H ((xe ms p)) h .next ⟨[BK x,.bytes tg,it q,it q,md],hs⟩ (by exact (hl).symm▸(e):kW (ak (n+4)) M6.1 M6.2 100 ⟨[BK x,.bytes tg,it 0,it (bQ ms).length,.ah],hs⟩=.ok .next ⟨[BK x,.bytes tg,it q,it q,md],hs⟩) ((xe ms p)) h _ rfl
end
structure File where
 m:Meta
 R:List (B×B)
structure File.Ok (f:File):Prop where
 fit:LU f.R f.m.hi
 num:f.m.num<128^3
noncomputable def ju (fs:List File):List Meta:=fs.map File.m
noncomputable def liK:Kind:=⟨(.of 13),(.of 86),(.of 93),(.of 93),(.of 88),(.of 89),(.of 90),(.of 91),(.of 92)⟩
noncomputable def NF (ms:List Meta):qQ:=λx S p hs=>S=[x]/\x<hs.n/\p<=ms.length/\ ∃i:Int,hs.h x=some (xe ms i)/\((p<ms.length/\i=p)∨(p=ms.length/\ ¬(0<=i/\i<ms.length)))
section
variable {ms:List Meta} (hk: ∀m∈ms,eF m.hi) (hn: ∀m∈ms,m.num<128^3) (few:ms.length<=90) (h0:0<ms.length)
theorem EY {S:List Nat} (I:NF ms x S q hs) (hp:p<=ms.length) (e:ak N f (BK x::args) hs=.ok .none (hs.set x (xe ms i))) (h:(p<ms.length/\i=p)∨(p=ms.length/\ ¬(0<=i/\i<ms.length))):mR N (.of 13) (NF ms) f args x S p hs:=by refine g8 I λacG hx z=> ?_;clear I;subst acG;exact jn _ ([x]) e ⟨rfl,hx,hp,i,U.bA _ _ _,h⟩ (Mv.set (.head _))
include hk hn few h0 in theorem QB (n:Nat):Itr (n+5) liK (xV ms) (NF ms) where
 lQ:=rfl
 tO:=rfl
 qM:=rfl
 v8:=rfl
 we:=rfl
 z6:=rfl
 Bj:=rfl
 cell I:=⟨_,I.2.2.2.choose_spec.1⟩
 mem I:=by rw [I.1];exact .head _
 own I y hy:=by rw [I.1,Sy] at hy;rw [hy];exact I.2.1
 le I:=by rw [cR];exact I.2.2.1
 frame I hn h:=⟨I.1,Sx I.2.1 hn,I.2.2.1,I.2.2.2.choose,(h _ (by rw [I.1];exact .head _)).trans I.2.2.2.choose_spec.1,I.2.2.2.choose_spec.2⟩
 valid I:=by
  refine aQ λcT k_1=> ?_;obtain ⟨_,_,_,i,h,q⟩:=I;refine k_1 ?_;rw [cR];refine (Aj (n+4) h).trans (congrArg (λb=>aA.ok (J.bool b) _) ?_);clear k_1 h;rcases q with ⟨hp,rfl⟩|⟨rfl,hi⟩;·refine (dT (TF _)).symm▸((dT (TM.mpr hp)).symm▸ ?_);refine (dW hp).symm▸ ?_;rfl
  ·refine (dg (Sv _)).symm▸ ?_;cases z:decide (0<=i) with
   |false=>rfl
   |true=>exact dF λy=>hi ⟨of_decide_eq_true z,y⟩
 value {x S p hs r} I hr:=by
  obtain ⟨_,_,_,i,h,q⟩:=I;have hp:p<ms.length:=by exact (cR ms)▸((Sj.mp hr).1)
  rcases q with ⟨_,rfl⟩|⟨rfl,_⟩;·have e0:=Sn hp;replace hr:=(CJ e0)▸hr;obtain rfl:=Sm hr;exact G3 (n+1) h e0 (hn _ (Sk e0)) λu e x=>(aH _ e x)
  ·exact absurd hp (To _)
 first I:=EY I (Tq _) (Jw (n+4) I.2.2.2.choose_spec.1) (.inl ⟨h0,rfl⟩)
 last I:=EY I (by rw [cR];exact Vl _ _) (L8 (n+4) I.2.2.2.choose_spec.1) (.inl ⟨by rw [cR];exact U0 h0 TV,by rw [cR,pX];exact cD (c:=1) (TS h0).symm⟩)
 seek {x S p hs tg q} I ht lb:=EY I (by rw [<-cR];exact lb.le) (LX n I.2.2.2.choose_spec.1 hk ht few lb) (by
  have:=lb.le;rw [cR] at this;rcases Tt this with z|z;·exact .inl ⟨z,rfl⟩
  ·exact .inr ⟨z,λy=>absurd (TM.mp y.2) (by exact (z).symm▸(To _))⟩)
 step {x S p hs} I hp:=by
  rw [cR] at hp;have h:=I.2.2.2.choose_spec.1;rcases I.2.2.2.choose_spec.2 with ⟨_,e⟩|⟨e,_⟩;·
   rw [e] at h;refine EY I (Uw hp) (MD (n+2) h (TF _) (TM.mpr hp)) ?_;rcases Tt (Uw hp) with z|z;·exact .inl ⟨z,rfl⟩
   ·exact .inr ⟨z,λy=>absurd (TM.mp (show ((p+1:Nat):Int)<_ from y.2)) (by exact (z)▸(To _))⟩
  ·exact absurd hp (by rw [e];exact To _)
 back {x S p hs} I hp:=by
  rw [cR] at hp⊢;have h:=I.2.2.2.choose_spec.1;rcases I.2.2.2.choose_spec.2 with ⟨_,e⟩|⟨e,_⟩;·
   rw [e] at h;have E:=MG (n+2) h (TF _) (TM.mpr hp);clear h e;cases p with
   |zero=>exact (if_pos rfl).symm▸(EY I (Sv _) E (.inr ⟨rfl,λy=>absurd y.1 (by decide)⟩))
   |succ p=>rw [if_neg (Uv p)];exact EY I (Tj (UH hp)) E (.inl ⟨UH hp,cD (c:=1) rfl⟩)
  ·exact absurd hp (by rw [e];exact To _)
end
theorem N6 (ha:a<128^3) (hb:b<128^3) (h:var a=var b):a=b:=by
 have e1:=dS 0 ⟨λz=>none,0⟩ (d:=var a) (pre:=[]) (post:=[]) (k:=2) (p:=0) (by rw [Ti];rfl) rfl ha (by decide);have e2:=dS 0 ⟨λz=>none,0⟩ (d:=var a) (pre:=[]) (post:=[]) (k:=2) (p:=0) (by rw [Ti];exact h) rfl hb (by decide);rw [e1] at e2;exact congrArg (λo:aA U J=>match o with
  | .ok v _=>(match v with
   | .bW l=>(match l with
    | .cons x _=>(match x with
     | .int i=>i.toNat
     |_=>0)
    |_=>0)
   |_=>0)
  |_=>0) e2
noncomputable abbrev aaO (t:List (Int×J)):J:=.obj (.of 14) [((.of 51),dc t)]
noncomputable def e9 (fs:List File) (v:B):File:=(fs.find? λf=>var f.m.num==v).getD ⟨⟨0,0,[],[]⟩,[]⟩
noncomputable def wL (fs:List File) (t:List (Int×J)):nH:=⟨liK,RM,xV (ju fs),NF (ju fs),λv=>(e9 fs v).R,λv=>TI (wT (e9 fs v).R (e9 fs v).m.hi),aaO t⟩
structure Lev (fs:List File) (t:List (Int×J)):Prop where
 ok: ∀f∈fs,f.Ok
 tab: ∀f∈fs,getD f.m.num t=some (iG f.R f.m.hi)
 one: ∀f∈fs,∀g∈fs,f.m.num=g.m.num->f=g
 few:fs.length<=90
section
variable {fs:List File} {t:List (Int×J)} (Lv:Lev fs t)
include Lv in theorem iM (hf:f∈fs):e9 fs (var f.m.num)=f:=by
 unfold e9;cases e:fs.find? (λg=>var g.m.num==var f.m.num) with
 |none=>exact absurd (ZH.mp e f hf) (by rw [beq_self_eq_true];exact λh=>h rfl)
 |some g=>exact Lv.one g (YI e) f hf (N6 (Lv.ok g (YI e)).num (Lv.ok f hf).num (beq_iff_eq.mp (List.find?_some (p:=λg:File=>var g.m.num==var f.m.num) e)))
theorem sE (h:r∈xV (ju fs)): ∃f∈fs,r=(f.m.hi,var f.m.num):=by refine ay (Tr.mp h) λm hm cK=> ?_;clear h;subst cK;refine ay (Tr.mp hm) λf hf d9=> ?_;clear hm;subst d9;exact aH f hf rfl
theorem sD (h:m∈ju fs): ∃f∈fs,m=f.m:=by refine ay (Tr.mp h) λf hf cK=> ?_;subst cK;exact aH f hf rfl
theorem Dm {num:Nat} (ht:getD num t=some (iG R top)) (hn:num<128^3) (n:Nat) (hs:U) {R_:Prop} (k_: ∀aJ S,ak (n+6) (.of 98) [aaO t,.bytes (var num)] hs=.ok (eX (hs.n+1)) aJ->TI (wT R top) (hs.n+1) S R.length aJ->Mv [] hs S aJ->R_):R_:=by
 refine uh (k_:=λh1 e I x=> ?_) ht n hs;refine k_ h1 _ (aF λH=>H _ (dS (n+3) hs (d:=var num) (pre:=[]) (post:=[]) (k:=2) (p:=0) (by rw [Ti];rfl) rfl hn (by decide)) _ rfl _ e) I ⟨x.n,λy hy z=>x.h y hy,λy hy=>.inr ?_⟩;cases hy with
 |head=>exact T8 _
 |tail _ hy=>rw [Sy.mp hy];exact Sv _
include Lv in theorem OJ (h0:0<fs.length):Od (wL fs t) 9 where
 outer N hN:=by
  obtain ⟨n,rfl⟩:=Us (Sl (show 5<=9 by decide) hN);refine QB (λm hm=> ?_) (λm hm=> ?_) (by rw [ju,Sp];exact Lv.few) (by rw [ju,Sp];exact h0) n;·obtain ⟨f,hf,rfl⟩:=sD hm;exact (Lv.ok f hf).fit.tk
  ·obtain ⟨f,hf,rfl⟩:=sD hm;exact (Lv.ok f hf).num
 inner N hN r hr:=by refine ay (sE hr) λf hf cK=> ?_;clear hr;subst cK;refine (?_:AS N RM (e9 fs (var f.m.num)).R (TI (wT (e9 fs (var f.m.num)).R (e9 fs (var f.m.num)).m.hi)));exact (iM Lv hf).symm▸(EK (Lv.ok f hf).fit N hN)
 kH r hr:=by obtain ⟨f,hf,rfl⟩:=sE hr;refine (?_:0<(e9 fs (var f.m.num)).R.length);rw [iM Lv hf];exact (Lv.ok f hf).fit.kH
 make:=(aH (.of 98) (λz=>rfl) (λN hN hs r hr=>by refine fU (Us (Sl (show 6<=9 by decide) hN)) λn IE=> ?_;clear hN;subst IE;obtain ⟨f,hf,rfl⟩:=sE hr;refine Dm (k_:=λh1 S e I mv=> ?_) (Lv.tab f hf) (Lv.ok f hf).num n hs;refine Nj h1 (hs.n+1) S e ?_ mv;refine (?_:TI (wT (e9 fs (var f.m.num)).R (e9 fs (var f.m.num)).m.hi) _ _ (e9 fs (var f.m.num)).R.length _);rw [iM Lv hf];exact I))
include Lv in theorem DI:tL (fR (wL fs t)) (wL fs t).au:=λr hr=>by refine ay (sE hr) λf hf cK=> ?_;clear hr;subst cK;refine (?_: ∃a,(e9 fs (var f.m.num)).R[(e9 fs (var f.m.num)).R.length-1]? =some a/\a.1=f.m.hi);exact (iM Lv hf).symm▸((Lv.ok f hf).fit.last)
include Lv in theorem uX: ∀gs:List File,(∀g∈gs,g∈fs)->gE (fR (wL fs t)) (xV (ju gs))=gs.flatMap File.R:=λgs=>by
 induction gs with
 |nil=>exact λz=>rfl
 |cons g gs ih=>intro h;refine (?_:(e9 fs (var g.m.num)).R++gE (fR (wL fs t)) (xV (ju gs))=g.R++gs.flatMap File.R);refine (iM Lv (h g (.head _))).symm▸((ih λg hg=>h g (.tail _ hg)).symm▸ ?_);rfl
include Lv in theorem yp:flat (wL fs t)=fs.flatMap File.R:=uX Lv fs λz h=>h
include Lv in theorem Mc (h0:0<fs.length) (M:Nat) (hM:12<=M):AS M RM (fs.flatMap File.R) (TI (wL fs t)):=by have:=Jk (OJ Lv h0) (by refine (?_:0<(xV (ju fs)).length);rw [cR,ju,Sp];exact h0) (DI Lv) M hM;rw [yp Lv] at this;exact this
noncomputable def MK:Ex×Ss:=bf (aM rf 2)
theorem m7 (n:Nat) (hs:U) {ms:List Meta} (hk: ∀m∈ms,eF m.hi) (ht:eF tg) (few:ms.length<=90) (lb:Lb (xV ms) tg q):ak (n+5) (.of 18) [.O (bQ ms),.bytes tg,cS] hs=.ok (it q) hs:=by
 refine fU (DG (c:=λY=>bk (ak (n+4)) .ah MK.1 Y) (b:=λY=>cu (ak (n+4)) MK.2 Y) (λlo hi md=>⟨[.O (bQ ms),.bytes tg,cS,it lo,it hi,md],hs⟩) (q:=q) (len:=ms.length) (λlo hi md=>dU λH=>H) (λlo hi md h1 h2=>by
  let mid:=(lo+hi)/2;have hm:mid<ms.length:=by lia
  have e0:=Sn hm;have e2:=qu n hs (hk _ (Sk e0)) ht;have e3:=OM lb (CJ e0);by_cases z:(lo+hi)/2<q;·rw [if_pos z];exact bg λH=>H _ (bT rfl (by decide) (by decide)) _ rfl _ (yE hs e0) _ e2 _ (e3.trans (dT z))
  ·rw [if_neg z];exact bg λH=>H _ (bT rfl (by decide) (by decide)) _ rfl _ (yE hs e0) _ e2 _ (e3.trans (dF z))) 100 0 ms.length .ah (by exact (Ln.n1 0x1848892601422a940) few) (Tq _) (by rw [<-cR];exact lb.le) (Sv _)) λmd e=> ?_;have hl:=pX ms;exact aF λH=>H .next ⟨[.O (bQ ms),.bytes tg,cS,it q,it q,md],hs⟩ (by exact (hl).symm▸(e):kW (ak (n+4)) MK.1 MK.2 100 ⟨[.O (bQ ms),.bytes tg,cS,it 0,it (bQ ms).length,.ah],hs⟩=.ok .next ⟨[.O (bQ ms),.bytes tg,cS,it q,it q,md],hs⟩)
end
end Mine
namespace Mine
open PySem.W PyProof.Rows
section kas
structure aa6 (l:List J) (N:Nat) (lt:Nat->Nat->Bool):Prop where
 ask: ∀i j,i<N->j<N->i≠j-> ∃a b,l[i]? =some a/\l[j]? =some b/\Ie a b=some (lt i j)
 tot: ∀i j,i<N->j<N->i≠j->lt i j= !lt j i
 trans: ∀i j k,i<N->j<N->k<N->lt i j=true->lt j k=true->lt i k=true
abbrev PN (N:Nat) (p:Array Nat):Prop:=p.toList.Perm (TR N)
theorem PN.size (h:PN N p):p.size=N:=by rw [<-Tv,h.length_eq,US]
theorem QI (h:PN N p) (hi:i<N):p[i]? =some (p.getD i 0):=by rw [TQ,YF (h.size▸hi)];rfl
theorem e_lt (h:PN N p) (hi:i<N):p.getD i 0<N:=by have e:=QI h hi;rw [<-UE] at e;exact Wr.mp (h.mem_iff.mp (Sk e))
theorem zJ (h:PN N p) (hi:i<N) (hj:j<N) (hn:i≠j):p.getD i 0≠p.getD j 0:=λe=>by have nd:p.toList.Nodup:=h.nodup_iff.mpr List.nodup_range;have e1:=QI h hi;have e2:=QI h hj;rw [<-UE] at e1 e2;rw [<-e] at e2;obtain ⟨h1,g1⟩:=Sj.mp e1;obtain ⟨h2,g2⟩:=Sj.mp e2;exact hn ((List.getElem_inj (h₀ :=h1) (h₁:=h2) nd).mp (g1.trans g2.symm))
variable (K:aa6 l N lt)
include K in theorem kas_ask {α:Type} {k:Bool->KasT α} (hi:i<N) (hj:j<N) (hn:i≠j):dh l (.ask i j k)=dh l (k (lt i j)):=by
 refine ig (K.ask i j hi hj hn) λa b h1 h2 h3=> ?_;rw [mj,h1,h2];refine (?_:(match Ie a b with
  |some c=>dh l (k c)
  |none=>none)=_);refine (h3).symm▸ ?_;rfl
theorem jF {α β:Type} {f:α->KasT β}: ∀(t:KasT α),dh l (t.bind f)=(dh l t).bind λa=>dh l (f a)
 | .ret _=>rfl
 | .ask i j k=>by
  refine (?_:dh l (.ask i j λc=>(k c).bind f)=_);rw [mj,mj];cases l[i]? with
  |none=>rfl
  |some a=>
   cases l[j]? with
   |none=>rfl
   |some b=>
    refine (?_:(match Ie a b with
     |some c=>dh l ((k c).bind f)
     |none=>none)=(match Ie a b with
     |some c=>dh l (k c)
     |none=>none).bind λa=>dh l (f a));cases Ie a b with
    |none=>rfl
    |some c=>exact jF (k c)
def SP (lt:Nat->Nat->Bool) (p:Array Nat) (n:Nat):Prop:= ∀i j,i<j->j<n->lt (p.getD i 0) (p.getD j 0)=true
def DP (lt:Nat->Nat->Bool) (p:Array Nat) (n:Nat):Prop:= ∀i j,i<j->j<n->lt (p.getD j 0) (p.getD i 0)=true
include K in theorem sQ (h:PN N p): ∀(f n:Nat),1<=n->n+f=N->SP lt p n-> ∃m,dh l (kas_asc p f n)=some m/\n<=m/\m<=N/\SP lt p m/\(m<N->lt (p.getD m 0) (p.getD (m-1) 0)=true):=by
 intro l_;induction l_ with
 |zero=>exact @λn y hf hs=>(Rp n rfl (Sv _) (Ub hf) hs (λz=>absurd z (by exact (hf)▸(To _))))
 |succ f aG=>
  exact @λn h1 hf hs=>by
   have hn:n<N:=by exact (Ln.n3 0x61208058228a221040) hf
   have hn1:n-1<N:=by exact (Ln.n3 0x184822c884058228a221040) hf
   have e:=kas_ask K (k:=λc=>if c=true then .ret n else kas_asc p f (n+1)) (e_lt h hn) (e_lt h hn1) (zJ h hn hn1 (by exact (Ln.n1 0x61c58b221000500221) h1));cases c:lt (p.getD n 0) (p.getD (n-1) 0) with
   |true=>rw [c] at e;exact Rp n e (Sv _) (Tj hn) hs (λy=>c)
   |false=>
    rw [c] at e;have c':lt (p.getD (n-1) 0) (p.getD n 0)=true:=by rw [K.tot _ _ (e_lt h hn1) (e_lt h hn) (zJ h hn1 hn (by exact (Ln.n1 0x61c5802c8840500221) h1)),c];rfl
    refine N7 (aG (n+1) (TA _ _) (by exact (Ln.n3 0x1858228128884058228a221040) hf) (λi j hij hj=>by
     clear hf e c;rcases Tt (Uk hj) with z|rfl;·exact hs i j hij z
     ·rcases Tt (Vw hij) with z|rfl;·exact K.trans _ _ _ (e_lt h (TL hij hn)) (e_lt h hn1) (e_lt h hn) (hs i (j-1) z (by exact (Ln.n1 0x184802c8840500221) h1)) c'
      ·exact c')) λm e2 g1 g2 g3 g4=> ?_;exact Rp m (e.trans e2) (VP g1) g2 g3 g4
include K in theorem zR (h:PN N p): ∀(f n:Nat),1<=n->n+f=N->DP lt p n-> ∃m,dh l (kas_desc f p n 0)=some (p,m,0)/\n<=m/\m<=N/\DP lt p m:=by
 intro l_;induction l_ with
 |zero=>exact @λn y hf hs=>(vD n rfl (Sv _) (Ub hf) hs)
 |succ f aG=>
  exact @λn h1 hf hs=>by
   have hn:n<N:=by exact (Ln.n3 0x61208058228a221040) hf
   have hn1:n-1<N:=by exact (Ln.n3 0x184822c884058228a221040) hf
   have e:=kas_ask K (k:=λc=>if c=true then (if 0>0 then kas_desc f (kas_rev p (n-(0+1)) n) (n+1) 0 else kas_desc f p (n+1) 0) else .ask (p.getD (n-1) 0) (p.getD n 0) λd=>if d=true then .ret (p,n,0) else kas_desc f p (n+1) (0+1)) (e_lt h hn) (e_lt h hn1) (zJ h hn hn1 (by exact (Ln.n1 0x61c58b221000500221) h1));cases c:lt (p.getD n 0) (p.getD (n-1) 0) with
   |true=>
    replace e:=(c)▸e;refine qS (aG (n+1) (TA _ _) (by exact (Ln.n3 0x1858228128884058228a221040) hf) (λi j hij hj=>by
     clear hf e;rcases Tt (Uk hj) with z|rfl;·exact hs i j hij z
     ·rcases Tt (Vw hij) with z|rfl;·exact K.trans _ _ _ (e_lt h hn) (e_lt h hn1) (e_lt h (TL hij hn)) c (hs i (j-1) z (by exact (Ln.n1 0x184802c8840500221) h1))
      ·exact c)) λm e2 g1 g2 g3=> ?_;exact vD m (e.trans e2) (VP g1) g2 g3
   |false=>
    rw [c] at e;have c':lt (p.getD (n-1) 0) (p.getD n 0)=true:=by refine (K.tot _ _ (e_lt h hn1) (e_lt h hn) (zJ h hn1 hn (by exact (Ln.n1 0x61c5802c8840500221) h1))).symm▸((c).symm▸ ?_);rfl
    have e3:=kas_ask K (k:=λd=>if d=true then .ret (p,n,0) else kas_desc f p (n+1) (0+1)) (e_lt h hn1) (e_lt h hn) (zJ h hn1 hn (by exact (Ln.n1 0x61c5802c8840500221) h1));rw [c'] at e3;exact vD n (e.trans e3) (Sv _) (Tj hn) hs
theorem IU (h:PN N p):PN N (kas_rev p i j):=(mirror_perm p i j _).toList.trans h
theorem JT (h:PN N p) (hn:n<=N):(kas_rev p 0 n).getD i 0=if i<n then p.getD (n-1-i) 0 else p.getD i 0:=by
 unfold kas_rev;rw [TQ,getElem?_mirror_all (by rw [h.size];exact hn)];by_cases z:i<n;·rw [if_pos ⟨Tq _,z⟩,if_pos z,TX,<-TQ]
 ·rw [if_neg λq=>z q.2,if_neg z,<-TQ]
theorem PM (h:PN N p) (hn:n<=N) (d:DP lt p n):SP lt (kas_rev p 0 n) n:=λi j hij hj=>by rw [JT h hn,JT h hn,if_pos (TL hij hj),if_pos hj];exact d _ _ (by exact (Ln.n3 0x186122c02c88422c12c8842482052040) hij hj) (by exact (Ln.n3 0x61204b08b221052040) hj)
include K in theorem za (h:PN N p) (h2:2<=N): ∃m p',dh l (kas_count N p)=some (m,p')/\PN N p'/\1<=m/\m<=N/\SP lt p' m:=by
 refine N7 (sQ K h (N-1) 1 (Sv _) (by exact (Ln.n1 0x61600a2c8840221500222) h2) (λi j hij hj=>by exact ((Ln.n2 0x618252221052040) hij hj).elim)) λn e g1 g2 g3 g4=> ?_;unfold kas_count;rw [jF,e];refine (?_: ∃m p',dh l (if (n==N)=true then .ret (n,p) else if n>1 then .ask (p.getD 0 0) (p.getD (n-1) 0) λc=>if c=true then .ret (n,p) else kas_descPart n N (kas_rev p 0 n) else kas_descPart n N p)=some (m,p')/\_);by_cases z:n=N;·rw [if_pos (beq_iff_eq.mpr z)];exact J8 n p rfl h g1 g2 g3
 ·rw [if_neg λq=>z (beq_iff_eq.mp q)];by_cases y:n>1;·rw [if_pos y,kas_ask K (e_lt h (Sx TV (Tj (Sx y g2)))) (e_lt h (by exact (Ln.n2 0x1861204b221012008854040) g2 y)) (zJ h (by exact (Ln.n1 0x612008500222) h2) (by exact (Ln.n2 0x1861204b221012008854040) g2 y) (by exact (Ln.n1 0x61c58b221008480221) y)),g3 0 (n-1) (by exact (Ln.n1 0x1848b221008480221) y) (by exact (Ln.n1 0x184802c8840480221) y)];exact J8 n p rfl h g1 g2 g3
  ·rw [if_neg y];have n1:n=1:=by exact (Ln.n1 0x1861622101c480221500221) g1 y
   clear e g1 g3 y;subst n1;have d2:DP lt p 2:=λi j hij hj=>by
    obtain ⟨rfl,rfl⟩:i=0/\j=1:=by exact (Ln.n2 0x18619588841588012222052040) hij hj
    exact g4 (XW g2 z)
   refine qS (zR K h (N-2) 2 (by decide) (by exact (Ln.n1 0x61600a2c8880222500222) h2) d2) λm e2 q1 q2 q3=> ?_;unfold kas_descPart;rw [jF,e2];refine (?_: ∃m' p',dh l (kas_tail3 m N p)=some (m',p')/\_);refine N7 (sQ K (IU h (i:=0) (j:=m)) (N-m) m (by exact (Ln.n1 0x18500221500222) q1) (by exact (Ln.n2 0x1858128b001014040) q2) (PM h q2 q3)) λm' e3 r1 r2 r3 u=> ?_;unfold kas_tail3;rw [jF,e3];exact J8 m' _ rfl (IU h) (by exact (Ln.n2 0x18614048854040500222) q1 r1) r2 r3
include K in theorem yi (h:PN N p) {k:Nat} (hk:k<N) (hs:SP lt p k): ∀(f a r:Nat),r<=a+f->a<=r->r<=k->(∀i,i<a->lt (p.getD i 0) (p.getD k 0)=true)->(∀i,r<=i->i<k->lt (p.getD k 0) (p.getD i 0)=true)-> ∃b,dh l (kas_place p k f a r)=some b/\b<=k/\(∀i,i<b->lt (p.getD i 0) (p.getD k 0)=true)/\(∀i,b<=i->i<k->lt (p.getD k 0) (p.getD i 0)=true):=by
 intro l_;induction l_ with
 |zero=>exact @λa r h1 h2 h3 lo hi=>(vD a rfl (Sl h2 h3) lo (λi ha hik=>hi i (by exact (Ln.n3 0x18614080502054288040) h1 ha) hik))
 |succ f aG=>
  exact @λa r h1 h2 h3 lo hi=>by
   refine (?_: ∃b,dh l (if a>=r then .ret a else .ask (p.getD k 0) (p.getD ((a+r)/2) 0) λc=>if c=true then kas_place p k f a ((a+r)/2) else kas_place p k f ((a+r)/2+1) r)=some b/\_);by_cases z:a>=r;·exact (if_pos z).symm▸(vD a rfl (Sl h2 h3) lo (λi ha hik=>hi i (Sl z ha) hik))
   ·have hm:(a+r)/2<k:=by exact (Ln.n4 0x186184810d428008c2220dc502014040) h3 z (VA _ _)
    have hmN:=TL hm hk;refine (if_neg z).symm▸((kas_ask K (e_lt h hk) (e_lt h hmN) (zJ h hk hmN (by exact (Ln.n2 0x61c580052040) hm))).symm▸ ?_);cases c:lt (p.getD k 0) (p.getD ((a+r)/2) 0) with
    |true=>
     exact aG a _ (by exact (Ln.n4 0x1861428204350a00130888350a288842040) h1 (VA _ _)) (by exact (Ln.n3 0x61850205230a22108888a001714040) z (@XA 2 _ (by decide))) (by exact (Ln.n2 0x18501012040) hm) lo λi hi1 hi2=>by
      rcases Tt hi1 with y|rfl;·exact K.trans _ _ _ (e_lt h hk) (e_lt h hmN) (e_lt h (TL hi2 hk)) c (hs _ i y hi2)
      ·exact c
    |false=>
     exact aG _ r (by exact (Ln.n4 0x1861428228884301230a2210c888a00150a288842040) h1 (@XA 2 _ (by decide))) (by exact (Ln.n3 0x61850028884250a001308882714040) z (VA _ _)) h3 (λi hi1=>by
      have c':lt (p.getD ((a+r)/2) 0) (p.getD k 0)=true:=by rw [K.tot _ _ (e_lt h hmN) (e_lt h hk) (zJ h hmN hk (by exact (Ln.n2 0x61c581012040) hm)),c];rfl
      rcases Tt (Uk hi1) with y|rfl;·exact K.trans _ _ _ (e_lt h (TL (TL y hm) hk)) (e_lt h hmN) (e_lt h hk) (hs i _ y hm) c'
      ·exact c') hi
theorem KY (h:PN N p) (hk:k<N) (hd:d<=k):(bubble p k d).getD i 0=if i=k-d then p.getD k 0 else if k-d<i/\i<=k then p.getD (i-1) 0 else p.getD i 0:=by
 rw [TQ,getElem?_bubble (((h.size).symm▸(hk))) d hd];by_cases z:i=k-d;·rw [if_pos z];refine (if_pos z).symm▸((TQ)▸ ?_);rfl
 ·rw [if_neg z,if_neg z];by_cases y:k-d<i/\i<=k;·rw [if_pos y,if_pos y];refine (TQ)▸ ?_;rfl
  ·rw [if_neg y,if_neg y];refine (TQ)▸ ?_;rfl
theorem PZ (h:PN N p) (hk:k<N) (hb:b<=k) (hs:SP lt p k) (lo: ∀i,i<b->lt (p.getD i 0) (p.getD k 0)=true) (hi: ∀i,b<=i->i<k->lt (p.getD k 0) (p.getD i 0)=true):SP lt (bubble p k (k-b)) (k+1):=λi j hij hj=>by
 rw [KY h hk (Vl _ _),KY h hk (Vl _ _),Nat.sub_sub_self hb];by_cases z1:i=b;·rw [if_pos z1,if_neg (by exact (Ln.n3 0x618716081582012040) hij z1),if_pos (by exact (Ln.n4 0x618619502052043583012288842052040) hij hj z1)];exact hi _ (by exact (Ln.n3 0x61850b221042582012040) hij z1) (by exact (Ln.n3 0x1861208b221052288842052040) hij hj)
 ·rw [if_neg z1];by_cases z2:j=b;·rw [if_neg (by exact (Ln.n4 0x618719503012002582052040) hij z2),if_pos z2];exact lo i (by exact (Ln.n3 0x18612080582052040) hij z2)
  ·rw [if_neg z2];by_cases z3:b<i/\i<=k;·rw [if_pos z3,if_pos (by exact (Ln.n4 0x6186195020520436540804800d2288842052040) hij hj z3)];exact hs _ _ (by exact (Ln.n4 0x186122c88412c88406540c0480092040) hij z3) (by exact (Ln.n3 0x1861208b221052288842052040) hij hj)
   ·rw [if_neg z3];by_cases z4:b<j/\j<=k;·rw [if_pos z4];exact hs _ _ (by exact (Ln.n4 0x61861848b2210406540c148109c6540c048009c582012040) hij z1 z3 z4) (by exact (Ln.n3 0x1861208b221052288842052040) hij hj)
    ·rw [if_neg z4];exact hs _ _ hij (by exact (Ln.n3 0x61861848109c65404248201c580092288841094040) hb hj z2 z4)
include K in theorem BN: ∀(f k:Nat) {p:Array Nat},PN N p->k+f=N->SP lt p k-> ∃p',dh l (kas_bin f p k)=some p'/\PN N p'/\SP lt p' N:=by
 intro l_;induction l_ with
 |zero=>exact @λk p h hf hs=>(iw p rfl h (hf▸hs))
 |succ f aG=>
  exact @λk p h hf hs=>by
   have hk:k<N:=by exact (Ln.n3 0x61208058228a221040) hf
   refine qS (yi K h hk hs k 0 k (by exact (Ln.n1 0x14280200)) (Tq _) (Sv _) (λi hi=>absurd hi (UK _)) (λi h1 h2=>absurd h2 (Ux.mpr h1))) λb e g1 g2 g3=>ay (aG (k+1) (p:=bubble p k (k-b)) ((bubble_perm p k (k-b)).toList.trans h) (by exact (Ln.n3 0x1858228128884058228a221040) hf) (PZ h hk g1 hs g2 g3)) λp' e2 r=>aH p' ?_ r;refine (?_:dh l ((kas_place p k k 0 k).bind λl=>kas_bin f (bubble p k (k-l)) (k+1))=_);rw [jF,e];exact e2
include K in theorem AG (h2:2<=N): ∃p,dh l (kas_sort N)=some p/\PN N p/\SP lt p N:=by
 refine Gk (za K (p:=List.toArray (TR N)) (List.Perm.refl _) h2) λm p e h g1 g2 g3=> ?_;unfold kas_sort;rw [jF,e];refine (?_: ∃p',dh l (if m<N then kas_bin (N-max m 1) p (max m 1) else .ret p)=some p'/\_);refine (Nat.max_eq_left g1).symm▸ ?_;by_cases z:m<N;·rw [if_pos z];exact BN K _ _ h (UD g2) g3
 ·rw [if_neg z];exact iw p rfl h (λi j hij hj=>g3 i j hij (by exact (Ln.n3 0x618480092042712040) z hj))
end kas
end Mine
namespace Mine
open PySem.W
noncomputable def lex:List Int->List Int->Bool
 |_,[]=>false
 |[],_::_=>true
 |a::x,b::y=>if a=b then lex x y else decide (a<b)
theorem Ej: ∀a b:List Int,H8 (a.map .int) (b.map .int)=some (lex a b):=by
 intro l_;induction l_ with
 |nil=>
  intro m_;cases m_ with
  |nil=>exact rfl
  |cons _ _=>exact rfl
 |cons a x aG=>
  intro m_;cases m_ with
  |nil=>exact rfl
  |cons b y=>exact by refine (?_:(if a=b then H8 (x.map .int) (y.map .int) else some (decide (a<b)))=some (if a=b then lex x y else decide (a<b)));rw [aG y];split<;>rfl
theorem lex_trans: ∀{a b c:List Int},lex a b=true->lex b c=true->lex a c=true
 |[],[],_,h,_=>Uu h
 |_::_,[],_,h,_=>Uu h
 |_,_::_,[],_,h=>Uu h
 |[],_::_,_::_,_,_=>rfl
 |a::x,b::y,c::z,h1,h2=>by
  change (if a=b then lex x y else decide (a<b))=true at h1;change (if b=c then lex y z else decide (b<c))=true at h2;refine (?_:(if a=c then lex x z else decide (a<c))=true);by_cases e1:a=b;·
   subst e1;replace h1:=(if_pos rfl)▸h1;by_cases e2:a=c;·rw [if_pos e2] at h2⊢;exact lex_trans h1 h2
   ·rw [if_neg e2] at h2⊢;exact h2
  ·rw [if_neg e1] at h1;have h1:=of_decide_eq_true h1;by_cases e2:b=c;·clear h2;subst e2;rw [if_neg e1];exact dT h1
   ·rw [if_neg e2] at h2;have h2:=of_decide_eq_true h2;have h3:=acI h1 h2;rw [if_neg (Int.ne_of_lt h3)];exact dT h3
theorem yF: ∀{a b:List Int},a.length=b.length->a≠b->lex a b= !lex b a
 |[],[],_,h=>absurd rfl h
 |[],_::_,h,_=>Xe h
 |_::_,[],h,_=>Xe h
 |a::x,b::y,hl,hn=>by
  refine (?_:(if a=b then lex x y else decide (a<b))= !(if b=a then lex y x else decide (b<a)));by_cases e:a=b;·subst e;rw [if_pos rfl,if_pos rfl];exact yF (Nat.succ.inj hl) λq=>hn (by refine (q).symm▸ ?_;rfl)
  ·rw [if_neg e,if_neg λq=>e q.symm];by_cases h:a<b;·rw [dT h,dF (VD.mpr (Ww h))];rfl
   ·rw [dF h,dT (Int.lt_iff_le_and_ne.mpr ⟨VD.mp h,λq=>e q.symm⟩)];rfl
theorem Gj {α:Type}: ∀l:List α,(TR l.length).filterMap (λi=>l[i]?)=l:=by
 intro l_;induction l_ with
 |nil=>exact rfl
 |cons a l aG=>exact by refine (?_:(TR (l.length+1)).filterMap _=_);rw [Y5,YS (f:=λi=>(a::l)[i]?) (b:=a) rfl,ZI];exact congrArg _ (aG)
theorem JA {α:Type} {val:α->J} {l:List α}: ∀{p:List Nat},(∀i∈p,i<l.length)->picks (l.map val) p=some ((p.filterMap λi=>l[i]?).map val):=by
 intro l_;induction l_ with
 |nil=>exact @λz=>rfl
 |cons i p aG=>
  exact @λh=>by
   obtain ⟨a,ha⟩: ∃a,l[i]? =some a:=⟨_,Sn (h i (.head _))⟩;refine (?_:(match (l.map val)[i]? with
    |some a=>(picks (l.map val) p).map (a:: ·)
    |none=>none)=_);refine (SA).symm▸ ?_;refine (ha).symm▸((aG λj hj=>h j (.tail _ hj)).symm▸ ?_);rw [YS (f:=λi=>l[i]?) ha];rfl
theorem K9 {α:Type} {R:α->α->Prop} {l:List α} (h:l.length<2):l.Pairwise R:=by
 cases l with
 |nil=>exact .nil
 |cons a l=>
  cases l with
  |nil=>exact U4 _ _
  |cons b l=>exact absurd h (Ux.mpr (TA 2 l.length))
theorem Au {α:Type} {val:α->J} {R:α->α->Bool} {l:List α} (h64:l.length<64) (hk:((l.map val).all isInt||(l.map val).all ux)=true) (hv: ∀a b,Ie (val a) (val b)=some (R a b)) (ht: ∀a b c,R a b=true->R b c=true->R a c=true) (hd:l.Pairwise λa b=>R a b= !R b a): ∃l':List α,kh (l.map val)=some (l'.map val)/\l'.Perm l/\l'.Pairwise λa b=>R a b=true:=by
 unfold kh;rw [Sp,if_pos h64];by_cases h2:l.length<2;·rw [if_pos h2];exact iw l rfl (.refl _) (K9 h2)
 ·rw [if_neg h2,if_pos hk];have K:aa6 (l.map val) l.length (λi j=>match l[i]?,l[j]? with
   |some a,some b=>R a b
   |_,_=>false):=by
   refine ⟨λi j hi hj y=> ?_,λi j hi hj hn=> ?_,λi j k hi hj hk h1 h2=> ?_⟩;·refine (SA).symm▸ ?_;refine (SA).symm▸ ?_;refine (Sn hi).symm▸ ?_;refine (Sn hj).symm▸ ?_;exact jn _ _ rfl rfl (hv _ _)
   ·refine (Sn hi).symm▸ ?_;refine (Sn hj).symm▸ ?_;have P:=Th.mp hd;rcases Nat.lt_or_gt_of_ne hn with z|z;·exact P i j hi hj z
    ·refine (?_:R l[i] l[j]= !R l[j] l[i]);rw [P j i hj hi z,Bool.not_not]
   ·rw [Sn hi,Sn hj] at h1;rw [Sn hj,Sn hk] at h2;rw [Sn hi,Sn hk];exact ht _ _ _ h1 h2
  refine fY (AG K (SJ h2)) λp e hp hs=>(e).symm▸(iw (p.toList.filterMap λi=>l[i]?) ?_ ?_ ?_);·exact JA λi hi=>Wr.mp (hp.mem_iff.mp hi)
  ·exact (hp.filterMap _).trans (by rw [Gj])
  ·refine List.pairwise_filterMap.mpr (Th.mpr λi j hi hj hij a ha b hb=> ?_);have hN:p.toList.length=l.length:=by rw [hp.length_eq,US]
   have:=hs i j hij (hN▸hj);have gi:p.getD i 0=p.toList[i]:=by refine (TQ).symm▸((UE)▸ ?_);refine (Sn hi).symm▸ ?_;rfl
   have gj:p.getD j 0=p.toList[j]:=by refine (TQ).symm▸((UE)▸ ?_);refine (Sn hj).symm▸ ?_;rfl
   rw [gi,gj] at this;dsimp only at this;rw [ha,hb] at this;exact this
end Mine
namespace Mine
structure En where
 u:Nat
 q:Nat
 k:Nat
 i:Nat
 s:Nat
noncomputable def En.ints (e:En):List Int:=[e.u,-(e.q:Int),-(e.k:Int),e.i,e.s]
noncomputable abbrev En.v (e:En):J:=.bW [it e.u,neg e.q,neg e.k,it e.i,it e.s]
noncomputable abbrev aV (es:List En):List J:=es.map En.v
structure En.Ok (e:En):Prop where
 u:e.u<5
 q:e.q+2<2^56
 q0:2<=e.q
 k:e.k<=1
 i:e.i<256
structure lD (es:List En) (sh:Nat):Prop where
 ok: ∀e∈es,e.Ok
 bP: ∀(j:Nat) (e:En),es[j]? =some e->e.i=j
 down:es.Pairwise λa b=>b.q<a.q
 gf: ∀e∈es,e.s<sh
 rise:es.Pairwise λa b=>a.u=b.u->a.s<=b.s
noncomputable def draw (ms:List Nat) (i:Nat):Nat:=ms.getD (i%ms.length) 0+7919*(i/ms.length)
theorem nQ {i:Nat} (h:i<l.length):(its l)[i]? =some (it (l.getD i 0)):=by refine (SA).symm▸ ?_;refine (SR).symm▸ ?_;refine (Sn h).symm▸ ?_;rfl
theorem yW (l:List Nat):(its l).length=l.length:=Sp _
theorem dQ (n:Nat) (hs:U) {ms:List Nat} (h0:0<ms.length) (h1:ms.length<=20) (i:Nat):ak (n+1) (.of 19) [.O (its ms),it i] hs=.ok (it (draw ms i)) hs:=by have hl:=yW ms;exact aF λH=>H ((it (i%ms.length))) (by rw [hl];exact bO rfl h0:gK .mod (it i) (it (its ms).length)=some (it (i%ms.length))) ((it (ms.getD (i%ms.length) 0))) (jo _ (nQ (UA _ h0))) ((it (i/ms.length))) (by rw [hl];exact bT rfl h0 (SD h1 (by decide)):gK .fdiv (it i) (it (its ms).length)=some (it (i/ms.length))) ((it (7919*(i/ms.length)))) (j9 (by decide))
theorem lD.snoc (H:lD es sh) (ok:e.Ok) (hi:e.i=es.length) (hq: ∀a∈es,e.q<a.q) (hs:e.s<sh) (hr: ∀a∈es,a.u=e.u->a.s<=e.s):lD (es++[e]) sh where
 ok a ha:=by
  rcases SW.mp ha with h|h;·exact H.ok a h
  ·rw [Sy.mp h];exact ok
 bP j a h:=by
  by_cases z:j<es.length;·rw [Un z] at h;exact H.bP j a h
  ·rw [TG (SJ z)] at h;have e0:j=es.length:=VJ (Nat.le_of_sub_eq_zero (Xu.mp (Sj.mp h).1)) (SJ z);rw [e0,VW] at h;refine (Sm h)▸((e0).symm▸ ?_);exact hi
 down:=Ug.mpr ⟨H.down,U4 _ _,λa ha b hb=>by rw [Sy.mp hb];exact hq a ha⟩
 gf a ha:=by
  rcases SW.mp ha with h|h;·exact H.gf a h
  ·rw [Sy.mp h];exact hs
 rise:=Ug.mpr ⟨H.rise,U4 _ _,λa ha b hb=>by rw [Sy.mp hb];exact hr a ha⟩
noncomputable def Ms:List Nat:=[0,250,65400,2^40,2^55]
noncomputable def hy (ms:List Nat) (i:Nat):Nat:=draw ms (2+i)
noncomputable def hu (ms:List Nat) (i:Nat):Nat:=(hy ms i+2*i)%5
noncomputable def hq (ms:List Nat) (big size i:Nat):Nat:=big+60*(size-i)+hy ms i/30%50
noncomputable def aJ (ms:List Nat) (sh:Nat) (bP:List Nat) (i:Nat):Nat:=min (sh-1) (bP.getD (hu ms i) 0+(hy ms i/10+i)%3)
noncomputable def hk (ms:List Nat) (i:Nat):Nat:=1-(hy ms i/5+i/3)%2
structure HSt (sh size big:Nat) (bP:List Nat) (es:List En) (i:Nat):Prop where
 H:lD es sh
 len:es.length=i
 QS:bP.length=5
 lo: ∀e∈es,e.s<=bP.getD e.u 0
 hi: ∀e∈es,big+60*(size-e.i)<=e.q
noncomputable def Ks:Ss:=(bf (aM nu 3)).2
theorem A4 {l:List Nat} (h:i<l.length):(l.set i v).getD j 0=if i=j then v else l.getD j 0:=by
 rw [SR,ZQ,SR];by_cases z:i=j;·rw [if_pos z,if_pos z,if_pos (z▸h)];rfl
 ·rw [if_neg z,if_neg z]
theorem Gx (S:HSt sh size big bP es i) (hi:i<size) (hsz:size<=8) (hsh:0<sh) (hb:big<=2^55):HSt sh size big (bP.set (hu ms i) (aJ ms sh bP i)) (es++[⟨hu ms i,hq ms big size i,hk ms i,i,aJ ms sh bP i⟩]) (i+1):=by
 have u5:hu ms i<5:=UA _ (by decide);have r50:hy ms i/30%50<50:=UA _ (by decide);have a5:hu ms i<bP.length:=by rw [S.QS];exact u5
 refine ⟨S.H.snoc ⟨u5,?_,?_,?_,?_⟩ S.len.symm (λa ha=> ?_) (SD (YC _ _) (U0 hsh TV)) (λa ha Mm=> ?_),((Sq).symm▸((S.len).symm▸rfl)),(Uc (U6) (S.QS)),λe he=> ?_,λe he=> ?_⟩;·exact (Ln.n4 0x61861222082082082082082082082128888a08a30b0c022c8c14888a3094220820820820820820820a01508a00) hsz hb r50
 ·exact (Ln.n4 0x61428328c2c0048b23088892040) hi
 ·exact Vl _ _
 ·exact (Ln.n2 0x18612220821014228052040) hi hsz
 ·have h1:=S.hi a ha;refine fU (Zl ha) λj hj=> ?_;have h2:=S.H.bP j a hj;have h3:=(Sj.mp hj).1;rw [S.len] at h3;have:60*(size-i)+60<=60*(size-a.i):=by exact (Ln.n4 0x1861850c2c2048b23288b2330b00122c8d2003583092040) hi h2 h3
  exact (Ln.n6 0x1861848428028c2c5088b2305430b0c222c8ca22c8cc2c5088b2350428c2c3088b230522228c0) r50 h1 this
 ·have h1:=S.lo a ha;replace h1:=(show a.u=hu ms i from Mm)▸h1;exact Nat.le_min.mpr ⟨Vw (S.H.gf a ha),Sl h1 (SI _ _)⟩
 ·refine (A4 a5).symm▸ ?_;rcases SW.mp he with h|h;·
   have h1:=S.lo e h;by_cases z:hu ms i=e.u;·rw [if_pos z];rw [<-z] at h1;exact Nat.le_min.mpr ⟨Vw (S.H.gf e h),Sl h1 (SI _ _)⟩
   ·rw [if_neg z];exact h1
  ·rw [Sy.mp h,if_pos rfl];exact Sv _
 ·rcases SW.mp he with h|h;·exact S.hi e h
  ·rw [Sy.mp h];exact SI _ _
theorem BG {Q:Nat->St->Prop} (step: ∀i Y,i<n->Q i Y-> ∃τ,(f (it i) Y=.ok .next τ∨f (it i) Y=.ok .cont τ)/\Q (i+1) τ): ∀(m s:Nat) (Y:St),s+m=n->Q s Y-> ∃τ,cU f ((Yw s m).map it) Y=.ok .next τ/\Q n τ:=by
 intro l_;induction l_ with
 |zero=>exact @λs Y h q=>(aH Y rfl (h▸q))
 |succ m aG=>exact @λs Y h q=>by refine ay (step s Y (by exact (h)▸(UL (Ul m))) q) λτ e q1=> ?_;refine ay (aG (s+1) τ (by exact (h)▸(TY s 1 m)) q1) λρ e2 q2=> ?_;exact aH ρ (bS e e2) q2
theorem qg (n:Nat):(Ec n).map J.int=(Yw 0 n).map it:=by rw [Ec,Uo,List.range_eq_range'];rfl
theorem fK {Q:Nat->St->Prop} (hn:n<=4096) (q:Q 0 Y) (step: ∀i Y,i<n->Q i Y-> ∃τ,(cA K t b (it i) Y=.ok .next τ∨cA K t b (it i) Y=.ok .cont τ)/\Q (i+1) τ): ∃τ,jg K t b [it n] Y=.ok .next τ/\Q n τ:=by refine ay (BG step n 0 Y (TX n) q) λτ e h=>aH τ ?_ h;unfold jg;rw [dG hn];refine (?_:cU _ ((Ec n).map J.int) Y=_);rw [qg];exact e
section
variable (h:U) (o p:gm)
noncomputable abbrev nn (h:U) (o p:gm):U:=(h.new o).new p
theorem qp:(nn h o p).h h.n=some o:=(U.fh (SY (SQ _))).trans (U.bR _ _)
theorem CH:(nn h o p).h (h.n+1)=some p:=U.bR (h.new o) p
theorem xZ (q:gm):(nn h o p).set h.n q=nn h q p:=U.ext' (λy=>by
 refine (?_:(if y=h.n then _ else if y=h.n+1 then _ else if y=h.n then _ else _)=(if y=h.n+1 then _ else if y=h.n then _ else _));by_cases e:y=h.n;·rw [if_pos e,if_neg (((e)▸(SY (SQ _)))),if_pos e]
 ·rw [if_neg e,if_neg e,if_neg e]) rfl
theorem My (q:gm):(nn h o p).set (h.n+1) q=nn h o q:=U.fN (h.new o) p q
end
theorem zQ (h:Y.h y=some (.O l)) (hl:l.all atomic=true):aq false 8 (.ref y) Y=some (.O l,Y.del y):=by refine (?_:(Y.h y).bind _=_);rw [h];refine (?_:Td _ (gG (aq false 7) l Y)=_);rw [l6 l hl];rfl
theorem cI: ∀es:List En,(aV es).all atomic=true:=by
 intro l_;induction l_ with
 |nil=>exact rfl
 |cons _ es aG=>exact aG
theorem ou {l:List J} (h:Y.h y=some (.O l)) (hv:l[k]? =some v):cz Y (.ref y) (it k)=some v:=by
 refine (?_:(match Y.h y with
  |some (.O l)=>itemAt l (k:Int)
  |some (.gU l)=>getD k l
  |_=>none)=_);exact (h).symm▸(yo.trans hv)
theorem Oh {a b:Nat} {c:Int} (h:c=a):(J.int (if (b:Int)<c then (b:Int) else c))=it (min a b):=by
 subst h;by_cases z:b<a;·rw [if_pos (TM.mpr z),Yn (Tj z)]
 ·rw [if_neg (VD.mpr (UN.mpr (SJ z))),Vs (SJ z)]
section
variable (n:Nat) {ms:List Nat} (m0:0<ms.length) (mK:ms.length<=20) {sh size big:Nat} (hsz:size<=8) (hsh:0<sh) (hb:big<=2^55) (h1:U)
noncomputable def PD (ms:List Nat) (sh size big:Nat) (h1:U) (a b c d:J):List J:=[.O (its ms),it size,it sh,it big,.ref h1.n,.ref (h1.n+1),a,b,c,d]
def HQ (ms:List Nat) (sh size big:Nat) (h1:U) (i:Nat) (Y:St):Prop:= ∃bP es a b c d,HSt sh size big bP es i/\Y=⟨PD ms sh size big h1 a b c d,nn h1 (.O (its bP)) (.O (aV es))⟩
include m0 mK hsz hsh hb in theorem IL (hi:i<size) (q:HQ ms sh size big h1 i Y): ∃τ,(cA (ak (n+1)) (.name 6) Ks (it i) Y=.ok .next τ∨cA (ak (n+1)) (.name 6) Ks (it i) Y=.ok .cont τ)/\HQ ms sh size big h1 (i+1) τ:=by
 refine adH q λbP es a b c d S aea=> ?_;clear q;subst aea;let y:=hy ms i;let u:=hu ms i;let s:=aJ ms sh bP i;let at2:=bP.set u s;let e:En:=⟨u,hq ms big size i,hk ms i,i,s⟩;have u5:u<bP.length:=by rw [S.QS];exact UA _ (by decide)
 let H0:=nn h1 (.O (its bP)) (.O (aV es));let H1:=nn h1 (.O (its at2)) (.O (aV es));let H2:=nn h1 (.O (its at2)) (.O (aV (es++[e])));have a0:H0.h h1.n=some (.O (its bP)):=qp _ _ _;have b0:H1.h (h1.n+1)=some (.O (aV es)):=CH _ _ _;have w1:H0.set h1.n (.O ((its bP).set u (.int (if ((bP.getD u 0+(y/10+i)%3:Nat):Int)<(sh:Int)-1 then ((bP.getD u 0+(y/10+i)%3:Nat):Int) else (sh:Int)-1))))=H1:=by rw [Oh (show (sh:Int)-1=((sh-1:Nat):Int) from cD (c:=1) (TS hsh).symm)];exact (xZ _ _ _ _).trans (by refine (?_:nn h1 (.O ((bP.map it).set u (it s))) _=nn h1 (.O ((bP.set u s).map it)) _);rw [X4])
 have w2:H1.set (h1.n+1) (.O (aV es++[.bW [it u,.int (0-(hq ms big size i:Int)),.int (((y/5+i/3)%2:Nat)-1),it i,it s]]))=H2:=by
  have e1:(((y/5+i/3)%2:Nat):Int)-1= -((1-(y/5+i/3)%2:Nat):Int):=by have:(y/5+i/3)%2<2:=UA _ (by decide);exact (Ln.n1 0x185ce3cb00884b2213c0488880) this
  rw [e1,Zm];exact (My _ _ _ _).trans (by refine (?_:nn h1 _ (.O (aV es++[e.v]))=nn h1 _ (.O ((es++[e]).map En.v)));rw [SX];rfl)
 refine ⟨⟨PD ms sh size big h1 (it i) (it y) (it u) (it (hq ms big size i)),H2⟩,.inl ?_,at2,es++[e],it i,it y,it u,it (hq ms big size i),(Gx (ms:=ms) S hi hsz hsh hb),rfl⟩;exact bg λH=>H (.ok ((it y)) _) (dQ n H0 m0 mK (2+i)) ((it (2*i))) (j9 (by decide)) ((it u)) (bO rfl (by decide)) ((it (bP.getD u 0))) (ou a0 (nQ u5)) ((it (y/10))) (bT rfl (by decide) (by decide)) ((it ((y/10+i)%3))) (bO rfl (by decide)) ((.O (its bP))) a0 ⟨TF _,by rw [yW];exact TM.mpr u5⟩ H1 w1 ((it (60*(size-i)))) (by exact (cD (TS (Tj hi)).symm).symm▸(j9 (by decide))) ((it (y/30))) (bT rfl (by decide) (by decide)) ((it (y/30%50))) (bO rfl (by decide)) ((.O (aV es))) b0 ((it (y/5))) (bT rfl (by decide) (by decide)) ((it (i/3))) (bT rfl (by decide) (by decide)) ((it ((y/5+i/3)%2))) (bO rfl (by decide)) ((it s)) (ou (qp _ _ _) ((nQ (by rw [U6];exact u5)).trans (by rw [A4 u5,if_pos rfl]))) ((.O (aV es))) b0 (by rw [Sp,S.len];exact Sx (Sx hi hsz) (by decide)) H2 w2
end
theorem rS (n:Nat) (hs:U) (m0:0<ms.length) (mK:ms.length<=20) (hsz:size<=8) (hsh:0<sh) {R_:Prop} (k_: ∀es aJ,ak (n+2) (.of 27) [.O (its ms),it size,it sh] hs=.ok (.O (aV es)) aJ->bG hs aJ->lD es sh->es.length=size->R_):R_:=by
 let big:=Ms.getD (draw ms 1%5) 0;have b5:draw ms 1%5<Ms.length:=UA _ (by decide);have hb:big<=2^55:=by refine (?_:Ms.getD (draw ms 1%5) 0<=2^55);rw [SR,Sn b5];exact (show ∀x∈Ms,x<=2^55 by decide) _ (Yi b5)
 let h1:=hs.bY;have q0:HQ ms sh size big h1 0 ⟨PD ms sh size big h1 .ah .ah .ah .ah,nn h1 (.O (its [0,0,0,0,0])) (.O (aV []))⟩:=(ac6 _ ([]) _ _ _ _ ⟨⟨λz h=>(nomatch h),λz z h=>(by cases h),.nil,λz h=>(nomatch h),.nil⟩,rfl,rfl,λz h=>(nomatch h),λz h=>(nomatch h)⟩ rfl);obtain ⟨τ,e,bP,es,a,b,c,d,S,rfl⟩:=fK (Sl hsz (by decide)) q0 λi Y hi q=>IL n m0 mK hsz hsh hb h1 hi q;let H:=nn h1 (.O (its bP)) (.O (aV es));refine k_ es (H.del (h1.n+1)) (aF λH=>H _ rfl _ rfl _ _ (aS rfl) _ (dQ n h1 m0 mK 1) _ (bO rfl (by decide)) _ (jo _ (nQ b5)) _ _ e _ _ (zQ (CH _ _ _) (cI es))) ((((bG.bY hs).trans (bG.new _ _)).trans (bG.new _ _)).del (Sl (T8 hs.n) (T8 _))) S.H S.len
noncomputable def CellsAre (Y:U):List Nat->List (List J)->Prop
 |[],[]=>True
 |c::cs,l::ls=>Y.h c=some (.O l)/\CellsAre Y cs ls
 |_,_=>False
theorem U.j6 {Y:U} (h:y≠x):(Y.del x).h y=Y.h y:=if_neg h
theorem cX: ∀{cs:List Nat} {ls:List (List J)},CellsAre Y cs ls->(∀c∈cs,τ.h c=Y.h c)->CellsAre τ cs ls:=by
 intro l_;induction l_ with
 |nil=>
  intro m_;cases m_ with
  |nil=>exact @λz z=>trivial
  |cons _ _=>exact @λh z=>h.elim
 |cons c cs aG=>
  intro m_;cases m_ with
  |nil=>exact @λh z=>h.elim
  |cons l ls=>exact @λh e=>⟨(e c (.head _)).trans h.1,aG h.2 λc hc=>e c (.tail _ hc)⟩
theorem CM (hc:Y.h c=some (.O l)): ∀{cs:List Nat} {ls:List (List J)},CellsAre Y cs ls->CellsAre Y (cs++[c]) (ls++[l]):=by
 intro l_;induction l_ with
 |nil=>
  intro m_;cases m_ with
  |nil=>exact @λz=>⟨hc,trivial⟩
  |cons _ _=>exact @λh=>h.elim
 |cons _ LB aG=>
  intro m_;cases m_ with
  |nil=>exact @λh=>h.elim
  |cons _ _=>exact @λh=>⟨h.1,aG h.2⟩
theorem lG: ∀{cs:List Nat} {ls:List (List J)} {j c:Nat},CellsAre Y cs ls->cs[j]? =some c-> ∀{R_:Prop} (k_: ∀l,ls[j]? =some l->Y.h c=some (.O l)->R_),R_
 |[],_,_,_,_,h,_,k_=>by cases h
 |_::_,[],_,_,h,_,_,k_=>h.elim
 |c::cs,l::ls,0,_,h,e,_,k_=>k_ l rfl (Sm e▸h.1)
 |c::cs,l::ls,j+1,_,h,e,_,k_=>lG (cs:=cs) (ls:=ls) (j:=j) h.2 e k_
theorem ql: ∀{cs:List Nat} {ls:List (List J)},CellsAre Y cs ls->cs.length=ls.length:=by
 intro l_;induction l_ with
 |nil=>
  intro m_;cases m_ with
  |nil=>exact @λz=>rfl
  |cons _ _=>exact @λh=>h.elim
 |cons _ LB aG=>
  intro m_;cases m_ with
  |nil=>exact @λh=>h.elim
  |cons _ _=>exact @λh=>congrArg (· +1) (aG h.2)
theorem wC: ∀{cs:List Nat} {ls:List (List J)} {j c:Nat},CellsAre Y cs ls->cs.Nodup->cs[j]? =some c->CellsAre (Y.set c (.O l')) cs (ls.set j l')
 |[],_,_,_,_,_,h=>by cases h
 |_::_,[],_,_,h,_,_=>h.elim
 |c::cs,l::ls,0,_,h,nd,e=>by cases Sm e;exact ⟨U.bA _ _ _,cX h.2 λy hy=>U.bM (f6 hy (Uj.mp nd).1)⟩
 |c::cs,l::ls,j+1,d,h,nd,e=>⟨(U.bM (f6 (Sk (l:=cs) (i:=j) e) (Uj.mp nd).1).symm).trans h.1,wC (cs:=cs) (ls:=ls) (j:=j) h.2 (Uj.mp nd).2 e⟩
theorem qq: ∀{cs:List Nat} {ls:List (List J)} {Y:U},CellsAre Y cs ls->cs.Nodup->(∀l∈ls,gG (aq d (k+1)) l=λY=>some (l,Y))->(∀c∈cs,b.n<=c)->bG b Y-> ∀{R_:Prop} (k_: ∀σ',gG (aq d (k+2)) (cs.map .ref) Y=some (ls.map .O,σ')->bG b σ'->(∀y,y∉cs->σ'.h y=Y.h y)->R_),R_
 |[],[],Y,_,_,_,_,e,_,k_=>k_ Y rfl e (λz z=>rfl)
 |[],_::_,_,h,_,_,_,_,_,k_=>h.elim
 |_::_,[],_,h,_,_,_,_,_,k_=>h.elim
 |c::cs,l::ls,Y,h,nd,ha,hb,e,_,k_=>by have K4:=Uj.mp nd;refine qq (k_:=λσ' e1 e2 e3=> ?_) (Y:=Y.del c) (k:=k) (cX h.2 λy hy=>U.j6 (f6 hy K4.1)) K4.2 (λl hl=>ha l (.tail _ hl)) (λc hc=>hb c (.tail _ hc)) (e.del (hb c (.head _)));refine k_ σ' ?_ e2 (λy hy=>(e3 y λq=>hy (.tail _ q)).trans (U.j6 λq=>hy (by exact (q).symm▸(.head _))));refine (?_:((aq d (k+2) (.ref c) Y).bind λx=>(gG (aq d (k+2)) (cs.map .ref) x.2).map λy=>(x.1::y.1,y.2))=_);rw [show aq d (k+2) (.ref c) Y=some (.O l,Y.del c) by refine (?_:(Y.h c).bind _=_);rw [h.1];refine (?_:Td _ (gG (aq d (k+1)) l Y)=_);rw [ha l (.head _)];rfl];refine (?_:Td _ (gG (aq d (k+2)) (cs.map .ref) (Y.del c))=_);rw [e1];rfl
theorem zP (h:l.all atomic=true):gG (aq false (k+1)) l=λY=>some (l,Y):=funext λY=>l6 l h
structure Own (b:U) (P:Nat) (cs:List Nat) (ls:List (List J)) (hs:U):Prop where
 bP:hs.h P=some (.O (cs.map .ref))
 cells:CellsAre hs cs ls
 nd:cs.Nodup
 no:P∉cs
 P0:b.n<=P
 P1:P<hs.n
 c0: ∀c∈cs,b.n<=c
 c1: ∀c∈cs,c<hs.n
 ext:bG b hs
theorem Own.add (au:Own b P cs ls hs):Own b P (cs++[hs.n]) (ls++[[]]) ((hs.new (.O [])).set P (.O (cs.map .ref++[.ref hs.n]))) where
 bP:=by rw [U.bA];refine (SX).symm▸ ?_;rfl
 cells:=CM ((U.bM (UG au.P1)).trans (U.bR _ _)) (cX au.cells λc hc=>(U.bM (f6 hc au.no)).trans (U.fh (SY (au.c1 c hc))))
 nd:=List.nodup_append.mpr ⟨au.nd,Uj.mpr ⟨U1,.nil⟩,λa ha c hc q=>absurd (au.c1 a ha) (by refine (q).symm▸((Sy.mp hc).symm▸ ?_);exact To _)⟩
 no h:=(SW.mp h).elim au.no λh=>absurd au.P1 (by exact (Sy.mp h).symm▸(To _))
 P0:=au.P0
 P1:=Tu au.P1
 c0 c hc:=(SW.mp hc).elim (au.c0 c) λh=>((Sy.mp h).symm▸(au.ext.n))
 c1 c hc:=(SW.mp hc).elim (λh=>Tu (au.c1 c h)) λh=>by exact (Sy.mp h).symm▸(SQ _)
 ext:=(au.ext.trans (bG.new _ _)).set au.P0
theorem Own.set (au:Own b P cs ls hs) (hj:cs[j]? =some c) (l':List J):Own b P cs (ls.set j l') (hs.set c (.O l')) where
 bP:=(U.bM (f6 (Sk hj) au.no).symm).trans au.bP
 cells:=wC au.cells au.nd hj
 nd:=au.nd
 no:=au.no
 P0:=au.P0
 P1:=au.P1
 c0:=au.c0
 c1:=au.c1
 ext:=au.ext.set (au.c0 c (Sk hj))
theorem Own.frame {hs aJ:U} (au:Own b P cs ls hs) (e:bG hs aJ):Own b P cs ls aJ where
 bP:=(e.h P au.P1).trans au.bP
 cells:=cX au.cells λc hc=>e.h c (au.c1 c hc)
 nd:=au.nd
 no:=au.no
 P0:=au.P0
 P1:=Sx au.P1 e.n
 c0:=au.c0
 c1 c hc:=Sx (au.c1 c hc) e.n
 ext:=au.ext.trans e
theorem Own.freeze (au:Own b P cs ls hs) (ha: ∀l∈ls,gG (aq false 6) l=λY=>some (l,Y)) {R_:Prop} (k_: ∀aJ,aq false 8 (.ref P) hs=some (.O (ls.map .O),aJ)->bG b aJ->R_):R_:=by refine qq (k_:=λσ' e1 e2 z=> ?_) (k:=5) au.cells au.nd ha au.c0 au.ext;refine k_ (σ'.del P) ?_ (e2.del au.P0);refine (?_:(hs.h P).bind _=_);rw [au.bP];refine (?_:Td _ (gG (aq false 7) (cs.map .ref) hs)=_);rw [e1];rfl
theorem zW (h:Y.h P=some (.O l)):Td J.int (IX Y (.ref P))=some (it l.length):=by
 refine (?_:Td J.int (Td (λl=>(l.length:Int)) (match Y.h P with
  |some (.O l)=>some l
  |_=>none))=_);refine (h).symm▸ ?_;rfl
structure jW (rows:List En) (ps:List (List En)) (i:Nat):Prop where
 flat:ps.flatten=rows.take i
 ne: ∀p∈ps,p≠[]
 lt:ps.Pairwise λp p'=> ∀a∈p,∀b∈p',a.u<b.u
theorem take_snoc {α:Type} {l:List α} {e:α} (h:l[i]? =some e):l.take (i+1)=l.take i++[e]:=by rw [ZP,h];rfl
theorem EV {rows:List En} {i:Nat} (hr:rows.Pairwise λa b=>a.u<=b.u) (P:jW rows ps i) (he:rows[i]? =some e) (hc: ∀j a,i=j+1->rows[j]? =some a->a.u≠e.u):jW rows (ps++[[e]]) (i+1) where
 flat:=by rw [Wh,P.flat,take_snoc he];rfl
 ne p hp:=(SW.mp hp).elim (P.ne p) λh=>by exact (Sy.mp h).symm▸(λq=>(by cases q))
 lt:=Ug.mpr ⟨P.lt,U4 _ _,λp hp p' u6 a ha b hb=>by
  rw [Sy.mp u6] at hb;rw [Sy.mp hb];have ha':a∈rows.take i:=by exact (P.flat)▸(Uh.mpr ⟨p,hp,ha⟩)
  clear P;obtain ⟨j,hj⟩:=Zl ha';have hji:j<i:=by have:=(Sj.mp hj).1;rw [UM] at this;exact Sx this (YC _ _)
  replace hj:=(Vf hji)▸hj;clear ha';obtain ⟨k,rfl⟩: ∃k,i=k+1:=⟨i-1,(TS (SD (Tq _) hji)).symm⟩;obtain ⟨c,hc'⟩: ∃c,rows[k]? =some c:=⟨_,Sn (UH ((Sj.mp he).1))⟩;have hr':=Th.mp hr;have get: ∀{x y:Nat} {a b:En},rows[x]? =some a->rows[y]? =some b->x<y->a.u<=b.u:=λ{x y a b} h1 h2 hxy=>by obtain ⟨g1,rfl⟩:=Sj.mp h1;obtain ⟨g2,rfl⟩:=Sj.mp h2;exact hr' x y g1 g2 hxy
  have h1:a.u<=c.u:=by
   clear he hc;rcases Tt (Uk hji) with z|rfl;·exact get hj hc' z
   ·rw [hj] at hc';exact (Sm hc').symm▸(Sv _)
  exact SD h1 (XW (get hc' he (SQ k)) (hc k c rfl hc'))⟩
theorem Fy {rows:List En} {e:En} (hr:rows.Pairwise λa b=>a.u<=b.u) (P:jW rows (qs++[l]) i) (he:rows[i]? =some e):jW rows (qs++[l++[e]]) (i+1) where
 flat:=by have h:=P.flat;rw [Wh] at h⊢;rw [take_snoc he,<-h,SG];refine (?_:qs.flatten++((l++[e])++[])=qs.flatten++((l++[])++[e]));rw [Ti,Ti]
 ne p hp:=(SW.mp hp).elim (λh=>P.ne p (TP _ h)) λh=>by exact (Sy.mp h).symm▸(λq=>nomatch (Za.mp q).2)
 lt:=by
  refine g8 (Ug.mp P.lt) λh1 z h3=>Ug.mpr ⟨h1,U4 _ _,λp hp p' u6 a ha b hb=> ?_⟩;replace hb:=(Sy.mp u6)▸hb;have h4:=h3 p hp l (.head _) a ha;clear h3 u6;rcases SW.mp hb with h|h;·exact h4 b h
  ·rw [Sy.mp h];refine rY (YD (P.ne l (S9 _ (.head _)))) λc cs uW=> ?_;clear hb;subst uW;have hc:c∈rows.take i:=by exact (P.flat)▸(Uh.mpr ⟨_,S9 _ (.head _),.head _⟩)
   have:=(Ug.mp (show (rows.take i++[e]).Pairwise _ by rw [<-take_snoc he];exact hr.sublist (U5 _ _))).2.2 c hc e (.head _);exact Sx (h4 c (.head _)) this
noncomputable def dO:Ss:=(bf (aM rg 1)).2
section
variable (n:Nat) {rows:List En} (hr:rows.Pairwise λa b=>a.u<=b.u) (h5: ∀e∈rows,e.u<5) (few:rows.length<=90) (bits P:Nat) (b:U)
def PQ (rows:List En) (bits P:Nat) (b:U) (i:Nat) (Y:St):Prop:= ∃ps cs hs x y,jW rows ps i/\Own b P cs (ps.map aV) hs/\cs.length<=i/\Y=⟨[.O (aV rows),it bits,.ref P,x,y],hs⟩
theorem pA {rows:List En} {i:Nat} {e:En} (Y:U) (h:rows[i]? =some e):cz Y (.O (aV rows)) (it i)=some e.v:=jo Y (by refine (SA).symm▸ ?_;refine (h).symm▸ ?_;rfl)
include hr h5 few in theorem Cp (hi:i<rows.length) (q:PQ rows bits P b i Y): ∃τ,(cA (ak n) (.name 3) dO (it i) Y=.ok .next τ∨cA (ak n) (.name 3) dO (it i) Y=.ok .cont τ)/\PQ rows bits P b (i+1) τ:=by
 refine abh q λps cs hs x y Po au hc acD=> ?_;subst acD;obtain ⟨e,he⟩: ∃e,rows[i]? =some e:=⟨_,Sn hi⟩;have hu:=h5 e (Sk he);have hcl:=ql au.cells;rw [Sp] at hcl;have hlen:i<=90:=Sl (Tj hi) few;let L:List J:=[.O (aV rows),it bits,.ref P,it i,it e.u];have run: ∀{H1 H2:U},eB (ak n) (aM dO 1) ⟨L,hs⟩=.ok .next ⟨L,H1⟩->eB (ak n) (aM dO 2) ⟨L,H1⟩=.ok .next ⟨L,H2⟩->cA (ak n) (.name 3) dO (it i) ⟨[.O (aV rows),it bits,.ref P,x,y],hs⟩=.ok .next ⟨L,H2⟩:=λ{H1 H2} s1 s2=>by refine (?_:cu (ak n) (.cons (aM dO 0) (.cons (aM dO 1) (.cons (aM dO 2) .nil))) ⟨[.O (aV rows),it bits,.ref P,it i,y],hs⟩=_);exact dR (bH λH=>H _ (pA hs he) _ (nO hs rfl)) (dR s1 (dR s2 rfl))
 have RS:(∀(j:Nat) (a:En),i=j+1->rows[j]? =some a->a.u≠e.u)->eB (ak n) (aM dO 1) ⟨L,hs⟩=.ok .next ⟨L,(hs.new (.O [])).set P (.O (cs.map .ref++[.ref hs.n]))⟩-> ∃τ,(cA (ak n) (.name 3) dO (it i) ⟨[.O (aV rows),it bits,.ref P,x,y],hs⟩=.ok .next τ∨cA (ak n) (.name 3) dO (it i) ⟨[.O (aV rows),it bits,.ref P,x,y],hs⟩=.ok .cont τ)/\PQ rows bits P b (i+1) τ:=λhne s1=>by
  have O1:=au.add;have hcn:(cs++[hs.n])[cs.length]? =some hs.n:=by rw [TG (Sv _),VW];rfl
  refine lG (k_:=λl0 hl0 hn0=> ?_) O1.cells hcn;have Qs:l0=[]:=by rw [hcl,<- @Sp _ _ ps aV,TG (Sv _),VW] at hl0;exact (Sm hl0).symm
  rw [Qs] at hn0;have aaD:(cs++[hs.n]).length=cs.length+1:=Sq;have al:=zW O1.bP;rw [Sp,aaD] at al;refine ⟨_,.inl (run s1 (bH λH=>H _ al _ (by exact (show ((cs.length+1:Nat):Int)-1=(cs.length:Int) from cD (c:=1) rfl).symm▸(ou O1.bP (by rw [SA,hcn];rfl)):cz ((hs.new (.O [])).set P (.O (cs.map .ref++[.ref hs.n]))) (.ref P) (.int (((cs.length+1:Nat):Int)-1))=some (.ref hs.n)) _ hn0 _ (pA _ he) _ hn0 (by decide) _ rfl)),ps++[[e]],cs++[hs.n],_,it i,it e.u,EV hr Po he hne,?_,by rw [aaD];exact Vc hc,rfl⟩;have:(ps.map aV++[[]]).set cs.length [e.v]=(ps++[[e]]).map aV:=by rw [hcl,<- @Sp _ _ ps aV,WV _ _ (Sv _),VW,SX];rfl
  exact this▸(O1.set hcn [e.v])
 have Old: ∀{k:Nat},i=k+1->eB (ak n) (aM dO 1) ⟨L,hs⟩=.ok .next ⟨L,hs⟩-> ∃τ,(cA (ak n) (.name 3) dO (it i) ⟨[.O (aV rows),it bits,.ref P,x,y],hs⟩=.ok .next τ∨cA (ak n) (.name 3) dO (it i) ⟨[.O (aV rows),it bits,.ref P,x,y],hs⟩=.ok .cont τ)/\PQ rows bits P b (i+1) τ:=λ{k} hk s1=>by
  have pne:ps≠[]:=λq=>by have:=Po.flat;rw [q] at this;have h2:=congrArg VN this;rw [UM,Vs (Tj hi),hk] at h2;exact Xe h2
  obtain ⟨qs,l,hps⟩: ∃qs l,ps=qs++[l]:=(BX ps.dropLast (ps.getLast pne) ((List.dropLast_concat_getLast pne).symm));refine aQ λcT k_1=> ?_;clear pne;subst hps;have aaF:cs.length=qs.length+1:=(Uc (hcl) (Sq));obtain ⟨c,hcq⟩: ∃c,cs[qs.length]? =some c:=⟨_,Sn (by rw [aaF];exact SQ _)⟩;refine lG (k_:=λl0 hl0 hn0=> ?_) au.cells hcq;have Qs:l0=aV l:=by rw [SX,TG (by rw [Sp];exact Sv _),Sp,VW] at hl0;exact (Sm hl0).symm
  rw [Qs] at hn0;have hll:l.length<=i:=by have h2:=congrArg VN Po.flat;rw [Wh,Sq,UM,Vs (Tj hi)] at h2;refine (h2)▸((show [l].flatten=l from Ti l).symm▸ ?_);exact TA _ _
  have al:=zW au.bP;rw [Sp] at al;refine k_1 ?_;refine ⟨_,.inl (run s1 (bH λH=>H _ al _ (by exact (show (cs.length:Int)-1=(qs.length:Int) from cD (c:=1) aaF).symm▸(ou au.bP (by rw [SA,hcq];rfl)):cz hs (.ref P) (.int ((cs.length:Int)-1))=some (.ref c)) _ hn0 _ (pA _ he) _ hn0 (by rw [Sp];exact SD (Sl hll hlen) (by decide)) _ rfl)),qs++[l++[e]],cs,_,it i,it e.u,Fy hr Po he,?_,Tp hc,rfl⟩;have:((qs++[l]).map aV).set qs.length (aV l++[e.v])=(qs++[l++[e]]).map aV:=by rw [SX,<- @Sp _ _ qs aV,WV _ _ (Sv _),VW,SX];refine (?_:_++[aV l++[e.v]]=_++[aV (l++[e])]);rw [aV,aV,SX];rfl
  exact this▸(au.set hcq (aV l++[e.v]))
 have ap:(cs.map J.ref).length<4096:=by rw [Sp];exact SD (Sl hc hlen) (by decide)
 have o1:=(U.fh (o:=.O []) (SY au.P1)).trans au.bP;refine aQ λJV k_2=> ?_;cases i with
 |zero=>exact k_2 (RS (λj a h=>Xe h) (bH λH=>H _ rfl _ rfl _ au.bP _ o1 ap _ rfl))
 |succ k=>
  obtain ⟨a,ha⟩: ∃a,rows[k]? =some a:=⟨_,Sn (UH hi)⟩;have g0:neq (k+1) 0=false:=uE (Uv k);have g1:cz hs (.O (aV rows)) (.int (((k+1:Nat):Int)-1))=some a.v:=by rw [show ((k+1:Nat):Int)-1=(k:Int) from cD (c:=1) rfl];exact pA hs ha
  have g2:cz hs a.v (it 0)=some (it a.u):=nO hs rfl;by_cases z:a.u=e.u;·exact k_2 (Old rfl (bH λH=>H _ g0 _ g1 _ g2 _ (Kv z) _ rfl))
  ·have g3:decide ((a.u:Int)≠(e.u:Int))=true:=dT λq=>z (VS q);have g4:gK .pow (it 2) (it e.u)=some (it (2^e.u)):=CX (by decide) (Sl (Tj hu) (by decide));have g5:gK .fdiv (it bits) (it (2^e.u))=some (it (bits/2^e.u)):=bT rfl (ZD (by decide)) (Xo (by decide) (TL hu (by decide)));have g6:gK .mod (it (bits/2^e.u)) (it 2)=some (it (bits/2^e.u%2)):=bO rfl (by decide);cases g7:neq (bits/2^e.u%2) 0 with
   |true=>exact k_2 (RS (λj c h hc=>by cases h;replace hc:=(ha)▸hc;obtain rfl:=Sm hc;exact z) (bH λH=>H _ g0 _ g1 _ g2 _ g3 _ g4 _ g5 _ g6 _ g7 _ au.bP _ o1 ap _ rfl))
   |false=>exact k_2 (Old rfl (bH λH=>H _ g0 _ g1 _ g2 _ g3 _ g4 _ g5 _ g6 _ g7))
include hr h5 few in theorem vI (hs:U) {R_:Prop} (k_: ∀ps aJ,ak (n+1) (.of 26) [.O (aV rows),it bits] hs=.ok (.O (ps.map λp=>.O (aV p))) aJ->bG hs aJ->jW rows ps rows.length->R_):R_:=by have q0:PQ rows bits hs.n hs 0 ⟨[.O (aV rows),it bits,.ref hs.n,.ah,.ah],hs.new (.O [])⟩:=(adq ([]) ([]) _ _ _ ⟨rfl,λz h=>((by cases h)),.nil⟩ ⟨U.bR _ _,trivial,.nil,λh=>((by cases h)),Sv _,SQ _,λz h=>(nomatch h),λz h=>(nomatch h),bG.new _ _⟩ (Sv _) rfl);obtain ⟨τ,e,ps,cs,h1,x,y,Po,au,_,rfl⟩:=fK (Sl few (by decide)) q0 λi Y hi q=>Cp n hr h5 few bits hs.n hs hi q;refine au.freeze (k_:=λh2 e2 x2=> ?_) (λl hl=>by refine ay (Tr.mp hl) λp z cK=> ?_;clear hl;subst cK;exact zP (cI p));rw [Uo] at e2;have hl:(aV rows).length=rows.length:=Sp _;exact k_ ps h2 (aF λH=>H .next ⟨[.O (aV rows),it bits,.ref hs.n,x,y],h1⟩ (by exact (hl).symm▸(e):jg (ak n) (.name 3) dO [it (aV rows).length] ⟨[.O (aV rows),it bits,.ref hs.n,.ah,.ah],hs.new (.O [])⟩=.ok .next ⟨[.O (aV rows),it bits,.ref hs.n,x,y],h1⟩) ((.O (ps.map λp=>.O (aV p)))) h2 e2) x2 Po
end
noncomputable def QN (a b:En):Bool:=lex a.ints b.ints
theorem OY (h:QN a b=true):a.u<=b.u:=by
 change (if (a.u:Int)=b.u then _ else decide ((a.u:Int)<b.u))=true at h;by_cases z:(a.u:Int)=b.u;·exact Ub (VS z)
 ·rw [if_neg z] at h;exact Tj (TM.mp (of_decide_eq_true h))
theorem Sa (h:QN a b=true) (hu:a.u=b.u) (hn:a.q≠b.q):b.q<a.q:=by change (if (a.u:Int)=b.u then (if-(a.q:Int)= -(b.q:Int) then _ else decide (-(a.q:Int)< -(b.q:Int))) else _)=true at h;rw [if_pos (congrArg _ hu),if_neg (c:= -(a.q:Int)= -(b.q:Int)) λq=>hn (VS (Int.neg_inj.mp q))] at h;exact TM.mp (Int.neg_lt_neg_iff.mp (of_decide_eq_true h))
abbrev PT (l:List En):Prop:=l.Pairwise λa b=>QN a b=true
theorem N5: ∀l:List En,(aV l).all ux=true:=by
 intro l_;induction l_ with
 |nil=>exact rfl
 |cons _ l aG=>exact aG
theorem xF (H:lD es sh) (few:es.length<=8) (s:Nat): ∃rows:List En,kh (aV (es.filter λe=>e.s==s))=some (aV rows)/\rows.Perm (es.filter λe=>e.s==s)/\PT rows:=by refine Au (R:=QN) (SD (Sl (UW _ _) few) (by decide)) (by rw [N5,ach]) (λa b=>Ej a.ints b.ints) (λa b c=>lex_trans) (ab9 (R:=λa b:En=>b.q<a.q) (S:=λa b=>QN a b= !QN b a) (λ{a b} h=>yF (a:=a.ints) (b:=b.ints) rfl λq=> ?_) (H.down.sublist Zx));have:=(Yp (Yp q).2).1;exact absurd (VS (Int.neg_inj.mp this)) (UG h)
structure OU (es:List En) (p:List En):Prop where
 ne:p≠[]
 rG:PT p
 mem: ∀a∈p,a∈es
structure Lv (es:List En) (fr:Nat) (LS:List (List (List En))) (s:Nat):Prop where
 part: ∀(l:Nat) (ps:List (List En)),LS[l]? =some ps-> ∀p∈ps,OU es p
 gf: ∀(l:Nat) (ps:List (List En)),LS[l]? =some ps-> ∀p∈ps,∀a∈p,a.s+1-fr=l/\a.s<s
 zero: ∀ps:List (List En),LS[0]? =some ps->ps.Pairwise λp p'=> ∀a∈p,∀b∈p',a.s<b.s
 deep: ∀(l:Nat) (ps:List (List En)),0<l->LS[l]? =some ps->ps.Pairwise λp p'=> ∀a∈p,∀b∈p',a.u<b.u
 all: ∀a∈es,a.s<s-> ∃ps p,LS[a.s+1-fr]? =some ps/\p∈ps/\a∈p
structure RS (es:List En) (fr s:Nat) (ps:List (List En)):Prop where
 part: ∀p∈ps,OU es p
 gf: ∀p∈ps,∀a∈p,a.s=s
 zero:s+1-fr=0->ps.Pairwise λ_ _=>False
 deep:0<s+1-fr->ps.Pairwise λp p'=> ∀a∈p,∀b∈p',a.u<b.u
 all: ∀a∈es,a.s=s-> ∃p∈ps,a∈p
theorem Lv.step (L:Lv es fr LS s) (hl:LS[s+1-fr]? =some old) (N:RS es fr s ps):Lv es fr (LS.set (s+1-fr) (old++ps)) (s+1):=by
 have lt:=(Sj.mp hl).1;have bP: ∀{l:Nat} {qs:List (List En)},(LS.set (s+1-fr) (old++ps))[l]? =some qs->(l=s+1-fr/\qs=old++ps)∨(l≠s+1-fr/\LS[l]? =some qs):=λ{l qs} h=>by
  by_cases z:s+1-fr=l;·subst z;rw [Ue lt] at h;exact .inl ⟨rfl,(Sm h).symm⟩
  ·rw [Uq z] at h;exact .inr ⟨λq=>z q.symm,h⟩
 refine ⟨λl qs h p hp=> ?_,λl qs h p hp a ha=> ?_,λqs h=> ?_,λl qs h0 h=> ?_,λa ha hs=> ?_⟩;·
  refine aQ λcT k_1=> ?_;rcases bP h with ⟨rfl,rfl⟩|⟨_,h⟩;·exact k_1 ((SW.mp hp).elim (L.part _ _ hl p) (N.part p))
  ·exact k_1 (L.part l qs h p hp)
 ·rcases bP h with ⟨rfl,rfl⟩|⟨_,h⟩;·
   rcases SW.mp hp with h|h;·exact ⟨(L.gf _ _ hl p h a ha).1,Tu (L.gf _ _ hl p h a ha).2⟩
   ·rw [N.gf p h a ha];exact ⟨rfl,SQ _⟩
  ·exact ⟨(L.gf l qs h p hp a ha).1,Tu (L.gf l qs h p hp a ha).2⟩
 ·rcases bP h with ⟨e,rfl⟩|⟨_,h⟩;·replace hl:=(e).symm▸hl;refine Ug.mpr ⟨L.zero _ hl,(N.zero e.symm).imp λh=>h.elim,λp hp p' u6 a ha b hb=> ?_⟩;rw [N.gf p' u6 b hb];exact (L.gf _ _ hl p hp a ha).2
  ·exact L.zero qs h
 ·rcases bP h with ⟨rfl,rfl⟩|⟨_,h⟩;·
   have:old=[]:=by
    clear bP h;cases old with
    |nil=>rfl
    |cons p qs=>refine rY (YD (L.part _ _ hl p (.head _)).ne) λa as' hp=> ?_;have h1:=L.gf _ _ hl p (.head _) a (by rw [hp];exact .head _);exact ((Ln.n3 0x6182594800962c12888402c128884248b04a221008) h0 h1).elim
   exact (this).symm▸(N.deep h0)
  ·exact L.deep l qs h0 h
 ·rcases Tt (Uk hs) with z|z;·
   refine ig (L.all a ha z) λqs p h1 h2 h3=> ?_;by_cases y:s+1-fr=a.s+1-fr;·rw [<-y] at h1⊢;replace h1:=(hl)▸h1;obtain rfl:=Sm h1;exact jn _ p (Ue lt) (TP _ h2) h3
   ·exact jn qs p ((Uc (Uq y) (h1))) h2 h3
  ·exact ay (N.all a ha z) λp h2 h3=>(z).symm▸(jn _ p (Ue lt) (S9 _ h2) h3)
theorem fZ {es:List En} {rows:List En} (h:rows.Perm (es.filter λe=>e.s==s)) (a:En):a∈rows↔a∈es/\a.s=s:=by rw [h.mem_iff,UU,beq_iff_eq]
theorem HX {rows:List En} (h:rows.Perm (es.filter λe=>e.s==s)) (hs:PT rows) (h0:s+1-fr=0):RS es fr s ([rows].filter λp=> !p.isEmpty) where
 part p hp:=by obtain ⟨h1,h2⟩:=UU.mp hp;rw [Sy.mp h1] at h2⊢;exact ⟨λq=>(by replace h2:=(q)▸h2;cases h2),hs,λa ha=>((fZ h a).mp ha).1⟩
 gf p hp a ha:=by rw [Sy.mp (UU.mp hp).1] at ha;exact ((fZ h a).mp ha).2
 zero _:=(U4 _ rows).sublist Zx
 deep h1:=absurd h0 (UG h1)
 all a ha hs:=by
  have:a∈rows:=(fZ h a).mpr ⟨ha,hs⟩;exact aH rows (UU.mpr ⟨.head _,by
   clear h;cases rows with
   |nil=>cases this
   |cons=>rfl⟩) this
theorem KA {rows:List En} (h:rows.Perm (es.filter λe=>e.s==s)) (hs:PT rows) (h0:0<s+1-fr) (P:jW rows ps rows.length):RS es fr s (ps.filter λp=> !p.isEmpty):=by
 have hf:ps.flatten=rows:=by rw [P.flat,U9]
 have e:(ps.filter λp=> !p.isEmpty)=ps:=List.filter_eq_self.mpr λp hp=>by
  cases p with
  |nil=>exact absurd rfl (P.ne _ hp)
  |cons=>rfl
 refine (e).symm▸ ?_;have mem: ∀p∈ps,∀a∈p,a∈rows:=λp hp a ha=>by exact (hf)▸(Uh.mpr (aH p hp ha))
 exact ⟨λp hp=>⟨P.ne p hp,(hf▸hs).sublist (We hp),λa ha=>((fZ h a).mp (mem p hp a ha)).1⟩,λp hp a ha=>((fZ h a).mp (mem p hp a ha)).2,λq=>absurd q (UG h0),λz=>P.lt,λa ha hs=>by have:=(fZ h a).mpr ⟨ha,hs⟩;rw [<-hf] at this;exact Uh.mp this⟩
theorem Fi (h:bk K v c Y=.ok (.bool b) Y):jh K .cvar (.some c) v Y=.ok (cond b (some v) none) Y:=by refine (?_:((bk K v c Y).bind Ez).bind (abP K .cvar v)=_);refine (h).symm▸ ?_;clear h;cases b<;>rfl
theorem pK: ∀{es:List En},(∀e∈es,bk K e.v c Y=.ok (.bool (f e)) Y)->each (jh K .cvar (.some c)) (aV es) Y=.ok (aV (es.filter f)) Y:=by
 intro l_;induction l_ with
 |nil=>exact @λy=>rfl
 |cons e es aG=>
  exact @λh=>by
   have h1:=Fi (h e (.head _));have ih:=aG λe he=>h e (.tail _ he);refine (Z4).symm▸ ?_;cases z:f e with
   |true=>rw [z] at h1;exact jE h1 ih
   |false=>rw [z] at h1;exact E6 h1 ih
theorem Gb: ∀(m s:Nat) (hs:U),bG b hs-> ∀{R_:Prop} (k_: ∀cs h1,each (jh K (.list .nil) .none) ((Yw s m).map it) ⟨ls,hs⟩=.ok (cs.map .ref) ⟨ls,h1⟩->CellsAre h1 cs (Tf m [])->cs.Nodup->(∀c∈cs,hs.n<=c/\c<h1.n)->bG hs h1->R_),R_:=by
 intro l_;induction l_ with
 |zero=>exact @λs hs e z k_=>k_ ([]) hs rfl trivial .nil (λz h=>((by cases h))) (.refl hs)
 |succ m aG=>
  exact @λs hs e z k_=>by
   refine aG (k_:=λcs h1 e1 c1 nd g x=> ?_) (s+1) (hs.new (.O [])) (e.trans (bG.new _ _));refine k_ (hs.n::cs) h1 (jE (mH rfl) e1) ⟨(x.h hs.n (SQ _)).trans (U.bR _ _),c1⟩ (Uj.mpr ⟨λh=>absurd (g _ h).1 (Zs _),nd⟩) (λc hc=> ?_) ((bG.new _ _).trans x);cases hc with
   |head=>exact ⟨Sv _,Sx (SQ _) x.n⟩
   |tail _ hc=>exact ⟨VP (g c hc).1,(g c hc).2⟩
noncomputable def Pr (s fr:Nat):Int:=if (0:Int)<(s:Int)-(fr:Int)+1 then (s:Int)-(fr:Int)+1 else 0
theorem C1 (s fr:Nat):Pr s fr=((s+1-fr:Nat):Int):=by unfold Pr;split<;>omega
noncomputable abbrev pV (p:List En):J:=.O (aV p)
noncomputable abbrev Ag (LS:List (List (List En))):List (List J):=LS.map λps=>ps.map pV
noncomputable def Mh:Ss:=(bf (aM (bf (aM kg 1)).2 4)).2
section
variable (n:Nat) {P:Nat} {b:U} {cs:List Nat} {s fr c:Nat} {a0 a1 a2 a3 a5 a6 a8:J}
noncomputable def EZ (P s fr:Nat) (a0 a1 a2 a3 a5 a6 a8 x:J):List J:=[a0,a1,a2,a3,.ref P,a5,a6,.int (Pr s fr),a8,x]
theorem w4 (hc:cs[s+1-fr]? =some c): ∀(qs:List (List En)) {LS:List (List (List En))} {old:List (List En)} (hs:U) (x:J),Own b P cs (Ag LS) hs->LS[s+1-fr]? =some old->old.length+qs.length<=4000-> ∀{R_:Prop} (k_: ∀aJ x',cU (cA (ak n) (.name 9) Mh) (qs.map pV) ⟨EZ P s fr a0 a1 a2 a3 a5 a6 a8 x,hs⟩=.ok .next ⟨EZ P s fr a0 a1 a2 a3 a5 a6 a8 x',aJ⟩->Own b P cs (Ag (LS.set (s+1-fr) (old++qs.filter λp=> !p.isEmpty))) aJ->R_),R_:=by
 intro l_;induction l_ with
 |nil=>
  exact @λLS old hs x au ho z z k_=>k_ hs x rfl (by
   have:LS.set (s+1-fr) old=LS:=by obtain ⟨h1,h2⟩:=Sj.mp ho;exact (h2)▸(Zf h1)
   rw [show ([]:List (List En)).filter _=[] from rfl,Ti,this];exact au)
 |cons q qs aG=>
  exact @λLS old hs x au ho hl z k_=>by
   have hql:(aV q).length=q.length:=Sp _;have lt:=(Sj.mp ho).1;clear hql;cases q with
   |nil=>refine aG (k_:=λaJ x' e O'=> ?_) hs (pV []) au ho (Sl (Vk (T8 _) _) hl);refine k_ aJ x' (bS (.inl ?_) e) O';exact bg λH=>H _ rfl
   |cons a q=>
    refine lG (k_:=λl hl1 hl2=> ?_) au.cells hc;replace hl1:=(SA)▸hl1;replace hl1:=(ho)▸hl1;obtain rfl:=Sm hl1;have O2:=au.set hc (old.map pV++[pV (a::q)]);have eq:(Ag LS).set (s+1-fr) (old.map pV++[pV (a::q)])=Ag (LS.set (s+1-fr) (old++[a::q])):=by rw [Ag,Ag,X4,SX];rfl
    rw [eq] at O2;refine aG (k_:=λaJ x' e O'=> ?_) (LS:=LS.set (s+1-fr) (old++[a::q])) (hs.set c (.O (old.map pV++[pV (a::q)]))) (pV (a::q)) O2 (Ue lt) (by rw [Sq];exact Sl (by rw [TU,Uz [_].length];exact Sv _) hl);rw [ab5,SG] at O';refine k_ aJ x' (bS (.inl ?_) e) O';exact bg λH=>H _ (dW (Ul _)) ((.ref c)) (by rw [C1];exact ou au.bP (by rw [SA,hc];rfl)) _ hl2 _ hl2 (by rw [Sp];exact SD (Sl (SI _ _) hl) (by decide)) _ rfl
end
theorem FT {rows:List En} {ps:List (List En)} (h: ∀p∈ps,p≠[]) (e:ps.flatten=rows):ps.length<=rows.length:=by
 subst e;induction ps with
 |nil=>exact Tq _
 |cons p ps ih=>rw [Vu,Sq];exact Sl (Vm (ih λp hp=>h p (.tail _ hp)) (Zu.mpr (h p (.head _)))) (Ub (Uz _ _))
theorem Et {Y:U} (h:l.all atomic=true):aq false 8 (.ref Y.n) (Y.new (.O [.O l]))=some (.O [.O l],Y.bY):=by refine (?_:((Y.new (.O [.O l])).h Y.n).bind _=_);rw [U.bR];refine (?_:Td _ (((Td _ (gG (aq false 6) l (Y.new (.O [.O l])))).bind _))=_);rw [l6 l h];refine (?_:some (J.O [.O l],(Y.new (.O [.O l])).del Y.n)=_);rw [U.sr]
noncomputable def Jq:Ss:=(bf (aM kg 1)).2
section
variable (n:Nat) {es:List En} {sh:Nat} (H:lD es sh) (few:es.length<=8) {cnt fr:Nat} (c0:0<cnt) (f0:0<fr) (small:fr+cnt<=8) (bits P:Nat) (b:U)
def LQ (es:List En) (cnt fr bits P:Nat) (b:U) (s:Nat) (Y:St):Prop:= ∃LS cs hs x5 x6 x7 x8 x9,Lv es fr LS s/\LS.length=cnt/\(∀(l:Nat) (ps:List (List En)),LS[l]? =some ps->ps.length<=8*s)/\Own b P cs (Ag LS) hs/\Y=⟨[.O (aV es),it cnt,it fr,it bits,.ref P,x5,x6,x7,x8,x9],hs⟩
noncomputable def abS:Ex:=.cmp .eq (.item .cvar (.lit (.int 4))) (.var 5)
include H few c0 small in theorem ID (hs0:s<fr+cnt-1) (q:LQ es cnt fr bits P b s Y): ∃τ,(cA (ak (n+1)) (.name 5) Jq (it s) Y=.ok .next τ∨cA (ak (n+1)) (.name 5) Jq (it s) Y=.ok .cont τ)/\LQ es cnt fr bits P b (s+1) τ:=by
 refine aQ λcT k_1=>adn q λLS cs hs x5 x6 x7 x8 x9 L hlen hps au aaT=> ?_;clear q;subst aaT;refine fY (xF H few s) λrows O4 Er P5=> ?_;have rl:rows.length<=8:=by rw [Er.length_eq];exact Sl (UW _ _) few
 have hlv:s+1-fr<LS.length:=by rw [hlen];exact (Ln.n3 0x1861200b08a2210522c884a002052008) c0 hs0
 obtain ⟨old,hold⟩: ∃old,LS[s+1-fr]? =some old:=⟨_,Sn hlv⟩;have hcl:=ql au.cells;rw [Sp] at hcl;obtain ⟨c,hc⟩: ∃c,cs[s+1-fr]? =some c:=⟨_,Sn (by rw [hcl];exact hlv)⟩;let ls:List J:=[.O (aV es),it cnt,it fr,it bits,.ref P,it s,x6,x7,x8,x9];let fl:=es.filter λe=>e.s==s;have e1:each (jh (ak (n+1)) .cvar (.some abS)) (aV es) ⟨ls,hs⟩=.ok (aV fl) ⟨ls,hs⟩:=pK λe y=>by
  have:(e.s==s)=neq e.s s:=by
   by_cases z:e.s=s;·rw [Cz z,z,beq_self_eq_true]
   ·rw [uE z];exact beq_eq_false_iff_ne.mpr z
  rw [this];exact dU λH=>H _ (nO hs rfl)
 let h1:=hs.bY;let h2:=h1.bY;let h3:=h2.bY;have ab0: ∀k,k<=8->old.length+k<=4000:=λk hk=>Sl (Vm (hps _ _ hold) hk) (by exact (Ln.n4 0x618614220aaf288a0c0c8a1208b00a2210d6042508a0a040) small hlen hlv);have bound: ∀k:List (List En),k.length<=8-> ∀(l:Nat) (ps:List (List En)),(LS.set (s+1-fr) (old++k))[l]? =some ps->ps.length<=8*(s+1):=λk hk l ps h=>by
  rw [acn];by_cases z:s+1-fr=l;·subst z;rw [Ue hlv] at h;refine (Sm h)▸((Sq).symm▸ ?_);exact Vm (hps _ _ hold) hk
  ·rw [Uq z] at h;exact Sl (hps l ps h) (SI _ _)
 by_cases z:0<s+1-fr;·refine vI (k_:=λps h4 e4 x4 Po=> ?_) n (rows:=rows) (P5.imp OY) (λe he=>(H.ok e ((fZ Er e).mp he).1).u) (Sl rl (by decide)) bits h3;have pl:ps.length<=8:=Sl (FT Po.ne (by refine (Po.flat).symm▸((U9).symm▸ ?_);rfl)) rl;refine w4 (k_:=λh5 x' e5 O5=> ?_) (n+1) (a0:=.O (aV es)) (a1:=it cnt) (a2:=it fr) (a3:=it bits) (a5:=it s) (a6:=pV rows) (a8:=.O (ps.map pV)) hc ps h4 x9 (au.frame ((bG.iP 3 hs).trans x4)) hold (ab0 _ pl);refine k_1 (⟨⟨EZ P s fr (.O (aV es)) (it cnt) (it fr) (it bits) (it s) (pV rows) (.O (ps.map pV)) x',h5⟩,.inl ?_,_,cs,h5,it s,pV rows,.int (Pr s fr),.O (ps.map pV),x',L.step hold (KA Er P5 z Po),(Uc (U6) (hlen)),bound _ (Sl (UW _ _) pl),O5,rfl⟩);exact bg λH=>H ((aV fl)) hs e1 ((.O (aV fl))) h1 (aS (cI _)) ((aV rows)) O4 ((pV rows)) h2 (aS (cI _)) ((.O [pV rows])) h3 (Et (cI _)) true (by rw [C1];exact dT (TM.mpr z):decide ((0:Int)<Pr s fr)=true) (.ok ((.O (ps.map pV))) h4) e4 .next ⟨EZ P s fr (.O (aV es)) (it cnt) (it fr) (it bits) (it s) (pV rows) (.O (ps.map pV)) x',h5⟩ e5
 ·have z0:s+1-fr=0:=WU z;refine w4 (k_:=λh5 x' e5 O5=> ?_) (n+1) (a0:=.O (aV es)) (a1:=it cnt) (a2:=it fr) (a3:=it bits) (a5:=it s) (a6:=pV rows) (a8:=.O [pV rows]) hc [rows] h3 x9 (au.frame (bG.iP 3 hs)) hold (ab0 1 (by decide));refine k_1 (⟨⟨EZ P s fr (.O (aV es)) (it cnt) (it fr) (it bits) (it s) (pV rows) (.O [pV rows]) x',h5⟩,.inl ?_,_,cs,h5,it s,pV rows,.int (Pr s fr),.O [pV rows],x',L.step hold (HX Er P5 z0),(Uc (U6) (hlen)),bound _ (Sl (UW _ _) (show 1<=8 by decide)),O5,rfl⟩);exact bg λH=>H ((aV fl)) hs e1 ((.O (aV fl))) h1 (aS (cI _)) ((aV rows)) O4 ((pV rows)) h2 (aS (cI _)) ((.O [pV rows])) h3 (Et (cI _)) false (by rw [C1,z0];rfl:decide ((0:Int)<Pr s fr)=false) .next ⟨EZ P s fr (.O (aV es)) (it cnt) (it fr) (it bits) (it s) (pV rows) (.O [pV rows]) x',h5⟩ e5
include H few c0 f0 small in theorem ud (hs:U) {R_:Prop} (k_: ∀LS aJ,ak (n+2) (.of 28) [.O (aV es),it cnt,it fr,it bits] hs=.ok (.O (LS.map λps=>.O (ps.map pV))) aJ->bG hs aJ->Lv es fr LS (fr+cnt-1)->LS.length=cnt->(∀(l:Nat) (ps:List (List En)),LS[l]? =some ps->ps.length<=56)->R_):R_:=by refine Gb (k_:=λcs h1 e1 c1 nd g x=> ?_) (K:=ak (n+1)) (ls:=[.O (aV es),it cnt,it fr,it bits,.ah,.ah,.ah,.ah,.ah,.ah]) cnt 0 hs (.refl hs);let h2:=h1.new (.O (cs.map .ref));have r0: ∀{l:Nat} {ps:List (List En)},(Tf cnt ([]:List (List En)))[l]? =some ps->ps=[]:=λh=>YT (Sk h);have q0:LQ es cnt fr bits h1.n hs 0 ⟨[.O (aV es),it cnt,it fr,it bits,.ref h1.n,.ah,.ah,.ah,.ah,.ah],h2⟩:=(adw _ cs h2 _ _ _ _ _ ⟨λl ps h p hp=>(by rw [r0 h] at hp;cases hp),λl ps h p hp=>(by rw [r0 h] at hp;cases hp),λps h=>(by rw [r0 h];exact .nil),λl ps z h=>(by rw [r0 h];exact .nil),λa z h=>absurd h (UK _)⟩ Ve (λl ps h=>(((r0 h).symm▸(Tq _)))) (⟨U.bR _ _,by rw [Ag,XJ];exact cX c1 λc hc=>U.fh (SY (g c hc).2),nd,λh=>absurd (g _ h).2 (To _),x.n,SQ _,λc hc=>(g c hc).1,λc hc=>Tu (g c hc).2,x.trans (bG.new _ _)⟩) rfl);obtain ⟨τ,e,LS,cs',h3,x5,x6,x7,x8,x9,L,hlen,hps,O3,rfl⟩:=fK (n:=fr+cnt-1) (by exact (Ln.n2 0x185088208212c884a040508a0a040) small) q0 λs Y hs0 q=>ID n H few c0 small bits h1.n hs hs0 q;refine O3.freeze (k_:=λh4 e4 x4=> ?_) (λl hl=>by refine ay (Tr.mp hl) λps z cK=> ?_;clear hl;subst cK;refine funext λY=>iL λv hv=>ay (Tr.mp hv) λp z d9=> ?_;clear hv;subst d9;refine (?_:Td _ (gG (aq false 5) (aV p) Y)=_);refine (l6 _ (cI p)).symm▸ ?_;rfl);rw [Uo] at e4;have LI:((fr+cnt:Nat):Int)-1=((fr+cnt-1:Nat):Int):=cD (c:=1) (by exact (Ln.n2 0x1858a2212c884a001280052008) c0);rw [<-qg] at e1;exact k_ LS h4 (aF λH=>H _ (dG (by exact (Ln.n2 0x614220820841508a0a040) small)) _ _ e1 _ _ (by exact (LI).symm▸(e):jg (ak (n+1)) (.name 5) Jq [.int (((fr+cnt:Nat):Int)-1)] ⟨[.O (aV es),it cnt,it fr,it bits,.ref h1.n,.ah,.ah,.ah,.ah,.ah],h2⟩=.ok .next ⟨[.O (aV es),it cnt,it fr,it bits,.ref h1.n,x5,x6,x7,x8,x9],h3⟩) _ _ e4) x4 L hlen (λl ps h=>Sl (hps l ps h) (by exact (Ln.n2 0x6142288cc2c884a040228508a0a040) small))
end
theorem z8: ∀l:List Nat,fV (its l)=some (l.map λk:Nat=>(k:Int)):=by
 intro l_;induction l_ with
 |nil=>exact rfl
 |cons a l aG=>exact by refine (?_:Td ((a:Int):: ·) (fV (its l))=_);refine (aG).symm▸ ?_;rfl
theorem NX (Y:U) (l:List Nat):Td J.int (FP Y (.O (its l)))=some (it l.sum):=by
 have h: ∀l:List Nat,(l.map λk:Nat=>(k:Int)).sum=(l.sum:Int):=λl=>by
  induction l with
  |nil=>rfl
  |cons a l ih=>rw [UT,abB,abB,ih,abe]
 refine (?_:Td J.int (Td List.sum ((some (its l)).bind fV))=_);rw [Option.bind_some,z8];exact congrArg (λi=>some (J.int i)) (h l)
theorem zq:cN Y (.O l) (some (it k)) none=some (.inr (l.drop k)):=by unfold cN;refine (jw rfl).symm▸ ?_;rfl
theorem Ao:cN Y (.O l) none (some (it k))=some (.inr (l.take k)):=by unfold cN;refine (jw rfl).symm▸ ?_;rfl
theorem J9 (l:List Nat) (k:Nat):(its l).take k=its (l.take k):=WL.symm
theorem Kp (l:List Nat) (k:Nat):(its l).drop k=its (l.drop k):=List.map_drop.symm
theorem FW: ∀l:List Nat,(its l).all isInt=true:=by
 intro l_;induction l_ with
 |nil=>exact rfl
 |cons _ l aG=>exact aG
theorem wR (few:l.length<64) (nd:l.Nodup) {R_:Prop} (k_: ∀(l':List Nat),kh (its l)=some (its l')->l'.Perm l->l'.Pairwise (· < ·)->R_):R_:=by
 refine fY (Au (val:=it) (R:=λa b=>decide (a<b)) few (by refine (show (l.map it).all isInt=true from FW l).symm▸ ?_;rfl) (λa b=>by
  refine (?_:some (decide ((a:Int)<(b:Int)))=_);by_cases z:a<b;·rw [dT z,dT (TM.mpr z)]
  ·rw [dF z,dF λq=>z (TM.mp q)]) (λa b c h1 h2=>dT (TL (of_decide_eq_true h1) (of_decide_eq_true h2))) (nd.imp λ{a b} h=>by
  by_cases z:a<b;·rw [dT z,dF (acp z)];rfl
  ·rw [dF z];refine (dT (XW (SJ z) λq=>h q.symm)).symm▸ ?_;rfl)) λl' h1 h2 h3=> ?_;exact k_ l' h1 h2 (h3.imp of_decide_eq_true)
theorem tQ {α:Type} {f g:α->J}: ∀{l:List α},(∀a∈l,bk K (f a) e Y=.ok (g a) Y)->each (jh K e .none) (l.map f) Y=.ok (l.map g) Y:=by
 intro l_;induction l_ with
 |nil=>exact @λz=>rfl
 |cons a l aG=>exact @λh=>jE (mH (h a (.head _))) (aG λb hb=>h b (.tail _ hb))
noncomputable abbrev MH (ps:List (List En)):J:=.O (ps.map pV)
noncomputable abbrev BL (LS:List (List (List En))):J:=.O (LS.map MH)
noncomputable def total (LS:List (List (List En))):Nat:=(LS.map VN).sum
noncomputable def OH (start m:Nat):List Nat:=(TR m).map λj=>1+(start+4001*j)%20011
theorem CQ (start:Nat) (h:m<=20000):(OH start m).Nodup:=by refine UR.mpr (Th.mpr λi j hi hj hij=> ?_);rw [US] at hi hj;rw [XK,XK];omega
theorem Mq {l:List Nat} (h:l.length=f):((TR f).map λi=>it (l.getD (f-1-i) 0))=its l.reverse:=by
 refine VO λi=> ?_;unfold its;rw [SA,SA];by_cases z:i<f;·rw [Zv z,WY (by rw [h];exact z),h];refine (?_:some (it (l.getD (f-1-i) 0))=_);rw [SR,Sn (show f-1-i<l.length by exact (Ln.n3 0x6184802c22c8841481096040) h z)];rfl
 ·rw [Ua (by rw [US];exact SJ z),Ua (by rw [Wg,h];exact SJ z)];rfl
noncomputable def Q3:Ex:=.bin .add (.lit (.int 1)) (.bin .mod (.bin .add (.var 1) (.bin .mul (.lit (.int 4001)) .cvar)) (.lit (.int 20011)))
noncomputable def abT:Ex:=.item (.var 3) (.bin .sub (.bin .sub (.var 4) (.lit (.int 1))) .cvar)
theorem rI (n:Nat) (hs:U) (h0:LS[0]? =some p0) (ht:total LS<=4000) (h56:p0.length<=56) (hp:p0.length<=total LS) (start:Nat) {R_:Prop} (k_: ∀nums aJ,ak (n+1) (.of 29) [BL LS,it start] hs=.ok (.O (its nums)) aJ->bG hs aJ->nums.length=total LS->nums.Nodup->(∀x∈nums,1<=x/\x<=20011)->(nums.take p0.length).Pairwise (· > ·)->R_):R_:=by
 let m:=total LS;have hf:(p0.map pV).length=p0.length:=Sp _;let f:=(p0.map pV).length;let pool:=OH start m;have pl:pool.length=m:=by refine (?_:((TR m).map _).length=m);rw [Sp,US]
 have nd:pool.Nodup:=CQ start (Sl ht (by decide));have tl:(pool.take f).length=f:=by rw [UM,pl];exact Vs (Sl (Ub hf) hp)
 refine wR (k_:=λrG e1 e2 e3=> ?_) (l:=pool.take f) (((tl).symm▸(SD (Sl (Ub hf) h56) (by decide)))) (nd.sublist (U5 _ _));have sl:rG.length=f:=by rw [e2.length_eq,tl]
 let nums:=rG.reverse++pool.drop f;have perm:nums.Perm pool:=((List.reverse_perm rG).append_right _).trans ((e2.append_right _).trans (by rw [VU]));let h1:=hs.bY;let h2:=h1.bY;let h3:=h2.bY;let h4:=h3.bY;let h5:=h4.bY;let h6:=h5.bY;let h7:=h6.bY;let lens:=LS.map VN;let l0:List J:=[BL LS,it start,.ah,.ah,.ah,.ah];let l1:List J:=[BL LS,it start,it m,.ah,.ah,.ah];let l2:List J:=[BL LS,it start,it m,.O (its rG),it f,.O (its (pool.drop f))];have c1:each (jh (ak n) (.len .cvar) .none) (LS.map MH) ⟨l0,hs⟩=.ok (its lens) ⟨l0,hs⟩:=by rw [its,Uo];exact tQ λps z=>dU λH=>(H).trans (show (aA.ok (it (ps.map pV).length) ⟨l0,hs⟩:aA St J)=.ok (it ps.length) ⟨l0,hs⟩ from (by rw [Sp]))
 have c2:each (jh (ak n) Q3 .none) ((Ec m).map .int) ⟨l1,h1⟩=.ok (its pool) ⟨l1,h1⟩:=by refine (?_:_=aA.ok (((TR m).map _).map it) _);rw [Uo];exact lA λj z=>dU λH=>H _ (j9 (by decide)) _ (bO rfl (by decide))
 have c3:each (jh (ak n) abT .none) ((Ec f).map .int) ⟨l2,h5⟩=.ok (its rG.reverse) ⟨l2,h5⟩:=by
  rw [<-Mq sl];refine lA λi hi=> ?_;have e:(f:Int)-1-(i:Int)=((f-1-i:Nat):Int):=by exact (Ln.n2 0x6173cb00b22104b3c02c884f052040) hi
  exact dU λH=>H ((it (rG.getD (f-1-i) 0))) (by exact (e).symm▸(jo _ (nQ (by exact (Ln.n3 0x1861200b08b2210573cb08b22104b3c22c884f056040) sl e))))
 refine k_ nums h7 ?_ (bG.iP 7 hs) (by refine (perm.length_eq).symm▸((pl).symm▸ ?_);rfl) (perm.nodup_iff.mpr nd) (λx hx=> ?_) ?_;·exact aF λH=>H ((its lens)) hs c1 ((.O (its lens))) h1 (aS (cH _)) ((it m)) (NX _ _) ((Ec m)) (dG (Sl ht (by decide))) ((its pool)) h1 c2 ((.O (its pool))) h2 (aS (cH _)) ((MH p0)) (jo _ (by refine (SA).symm▸ ?_;refine (h0).symm▸ ?_;rfl)) (.inr ((its (pool.drop f)))) (by rw [<-Kp];exact zq) ((.O (its (pool.drop f)))) h3 (aS (cH _)) (.inr ((its (pool.take f)))) (by rw [<-J9];exact Ao) ((.O (its (pool.take f)))) h4 (aS (cH _)) ((its rG)) e1 ((.O (its rG))) h5 (aS (cH _)) ((Ec f)) (dG (Sl (Sl (Ub hf) h56) (by decide))) ((its rG.reverse)) h5 c3 ((.O (its rG.reverse))) h6 (aS (cH _)) ((its nums)) (congrArg some (SX.symm)) (by rw [yW,perm.length_eq,pl];exact Sl ht (by decide)) ((.O (its nums))) h7 (aS (cH _))
 ·refine ay (Tr.mp (perm.mem_iff.mp hx)) λj z uW=> ?_;clear hx;subst uW;exact ⟨SI _ _,by have:=UA (start+4001*j) (show 0<20011 by decide);exact (Ln.n1 0x61422b8ae90a00885222b8ae900) this⟩
 ·rw [show nums.take p0.length=rG.reverse from by rw [<-hf,show (p0.map pV).length=f from rfl,<-sl,<-Wg,VQ]];exact List.pairwise_reverse.mpr e3
noncomputable def ky (e:En):B:=kb (jM e.u) (e.q*256+e.k)
noncomputable def vl (e:En):B:=vb' e.u e.i
noncomputable def aU (es:List En):List (B×B):=es.map λe=>(ky e,vl e)
theorem uw (e:En):(ky e).length<=10:=by unfold ky;rw [jG];exact Tw yV 8
theorem Ii: ∀es:List En,L (aU es)<=15*es.length:=by
 intro l_;induction l_ with
 |nil=>exact Sv _
 |cons e es aG=>exact by refine (?_:(fW (ky e,vl e)++enc (aU es)).length<=_);rw [Sq,j3];have h1:=uw e;have h2:=aG;refine (?_:(ky e).length+2+3+L (aU es)<=15*(es.length+1));exact (Ln.n3 0x1861430a221088bca04a22328888050c088bc1508a80) h1 h2
theorem lO (n:Nat) (hs:U) (ok:e.Ok):ak (n+2) (.of 21) [e.v] hs=.ok (.bytes (ky e)) (hs.iP 3):=pQ n hs ok.u (SD ok.k (by decide)) [it e.i,it e.s]
theorem qw (n:Nat) (hs:U) (ok:e.Ok):ak (n+1) (.of 22) [e.v] hs=.ok (.bytes (vl e)) hs.bY:=vd n hs ok.u ok.i (neg e.q) (neg e.k) [it e.s]
noncomputable def Qg:Ex:=.bin .mod (.bin .fdiv (.var 1) (.bin .pow (.lit (.int 256)) .cvar)) (.lit (.int 256))
theorem iR (n:Nat) (hs:U) (hc:c.length<=4000):ak (n+1) (.of 24) [.bytes c] hs=.ok (.bytes (bC c)) hs.bY:=by
 let t:=tot c;let o:=its ((TR 4).map λi=>t/256^i%256);have c1:each (jh (ak n) Qg .none) ((Ec 4).map .int) ⟨[.bytes c,it t],hs⟩=.ok o ⟨[.bytes c,it t],hs⟩:=by refine (?_:_=aA.ok (((TR 4).map _).map it) _);rw [Uo];exact lA λi hi=>dU λH=>H _ (CX (by decide) (Sl (Tj hi) (by decide))) _ (bT rfl (ZD (by decide)) (Sx (Xo (by decide) hi) (by decide))) _ (bO rfl (by decide))
 exact aF λH=>H ((it (sm c))) (by rw [OT];rfl) _ (sM (by decide)) _ (sM (by decide)) _ (cY (Sl (Tw hc 1) (by decide))) _ (dG (by decide)) _ _ c1 _ _ (aS (cH _)) _ (iK _ (λi hi=>by refine ay (Tr.mp hi) λj z cK=> ?_;clear hi;subst cK;exact (mod_lt (by decide))) (JK 4 t).symm) _ ((cY (by rw [Sq,dX];exact Sl (Tw (Tw hc 1) 4) (by decide))).trans (by rw [bC,SG];rfl))
noncomputable def abU:Ss:=(bf (aM pJ 2)).2
noncomputable def Qf (R:J) (c:B) (x y:J):List J:=[R,.bytes b7,.bytes c,x,y,.ah,.ah,.ah,.ah,.ah,.ah]
theorem IB (n:Nat) (R:J): ∀(es:List En) (c:B) (x y:J) (hs:U),(∀e∈es,e.Ok)->c.length+15*es.length<=4000-> ∀{R_:Prop} (k_: ∀x' y' aJ,cU (cA (ak (n+2)) (.name 3) abU) (aV es) ⟨Qf R c x y,hs⟩=.ok .next ⟨Qf R (c++enc (aU es)) x' y',aJ⟩->bG hs aJ->R_),R_:=by
 intro l_;induction l_ with
 |nil=>exact @λc x y hs z z z k_=>k_ x y hs (by rw [show enc (aU [])=[] from rfl,Ti];rfl) (.refl hs)
 |cons e es aG=>
  exact @λc x y hs h hl z k_=>by
   have ok:=h e (.head _);have kl:=uw e;let c1:=c++[0,SH (ky e).length,2];let c2:=c1++ky e;let c3:=c2++vl e;have l1:c1.length=c.length+3:=Sq;have l2:c2.length=c.length+3+(ky e).length:=((l1)▸(Sq));have l3:c3.length=c.length+3+(ky e).length+2:=by exact (l2)▸(Sq)
   have hl':c.length+15*(es.length+1)<=4000:=hl;have e3:c3=c++fW (ky e,vl e):=by refine (?_:c++[0,SH (ky e).length,2]++ky e++vl e=_);rw [SG,SG];rfl
   let H1:=hs.iP 3;let H2:=H1.bY;let H3:=H2.bY;refine aG (k_:=λx' y' aJ e1 x1=> ?_) c3 e.v (.bytes (ky e)) H3 (λe he=>h e (.tail _ he)) (by rw [l3];exact (Ln.n3 0x18614220aaf28c088bca2222802888c150882abca30a221088bc1508a80) kl hl');rw [e3,SG] at e1;refine k_ x' y' aJ (bS (.inl ?_) e1) ((bG.iP 5 hs).trans x1);rw [<-e3];exact bg λH=>H (.ok ((.bytes (ky e))) H1) (lO n hs ok) ((.O (its [0,(ky e).length,2]))) H2 (aS rfl) ((.bytes [0,SH (ky e).length,2])) (iK _ (λi hi=>by
    simp only [Tn,U1,or_false] at hi;rcases hi with rfl|rfl|rfl;·decide
    ·exact SD kl (by decide)
    ·decide) rfl) ((.bytes c1)) (cY (show c.length+3<=4096 by exact (Ln.n2 0x61422082084a223014220aaf28c048bc0) hl)) ((.bytes c2)) (cY (by rw [l1];exact (Ln.n3 0x6185088208212802888c150882abca30a221088bc1508a80) kl hl')) (.ok ((.bytes (vl e))) H3) (qw (n+1) H2 ok) ((.bytes c3)) (cY (show c2.length+2<=4096 by rw [l2];exact (Ln.n3 0x1861422082084a2222802888c150882abca30a221088bc1508a80) kl hl'))
theorem sC (n:Nat) (hs:U) (h:m<128^3) {R_:Prop} (k_: ∀aJ,ak (n+1) (.of 23) [it m] hs=.ok (.bytes (var m)) aJ->bG hs aJ->R_):R_:=zB n hs (k:=2) h (by decide) k_
theorem uK (e:a++b=c) (ha:a.length<=x) (hb:b.length<=y) (h:x+y<=4096):gK .add (.bytes a) (.bytes b)=some (.bytes c):=e▸cY (Sl (Vm ha hb) h)
theorem dj {a b:B} (ha:a.length<=x) (hb:b.length<=y):(a++b).length<=x+y:=by rw [Sq];exact Vm ha hb
theorem xW (ok:e.Ok):eF (ky e):=(gv (jM e.u) (e.q*256+e.k) rfl (lK (SD (SI _ 2) ok.q) (SD ok.k (by decide))))
theorem bN (es:List En):(aU es).length=es.length:=Sp _
theorem HU (h: ∀e∈es,e.Ok) (few:es.length<=8) (he:es[es.length-1]? =some e):LU (aU es) (ky e) where
 rows:=⟨λr hr=>by obtain ⟨a,_,rfl⟩:=Tr.mp hr;exact ⟨SD (uw a) (by decide),show 2<128 by decide⟩,λr hr=>by obtain ⟨a,ha,rfl⟩:=Tr.mp hr;exact xW (h a ha),by rw [bN];exact Sl few (by decide)⟩
 kH:=by rw [bN];exact SD (Tq _) (Sj.mp he).1
 tk:=xW (h e (Sk he))
 short:=SD (uw e) (by decide)
 c:=by have:=Ii es;rw [uG];exact (Ln.n2 0x18614220aaf288a0150c008bc1508a00) few this
 last:=(aH (ky e,vl e) (by rw [bN,aU,SA,he];rfl) rfl)
theorem tV (n:Nat) (hs:U) (h: ∀e∈es,e.Ok) (few:es.length<=8) (he:es[es.length-1]? =some e) {R_:Prop} (k_: ∀aJ,ak (n+3) (.of 25) [pV es] hs=.ok (.bytes (gP (aU es) (ky e))) aJ->bG hs aJ->R_):R_:=by
 let R:=aU es;let top:=ky e;let c:=cont R;let ix:=cont (ee R top);have hL:=Ii es;have cl:c.length<=128:=by rw [uG];exact (Ln.n2 0x618508828288a0150c008bc1508a00) few hL
 have il:ix.length<=150:=Tj (DE (HU h few he));have tl:=uw e;have pl:=D4 R;refine IB (k_:=λx' y' h1 e1 x1=> ?_) n (pV es) es [] .ah .ah hs h (by exact (Ln.n1 0x614220aaf28c008bc8508a00) few);rw [WW] at e1;let h2:=h1.iP 3;refine sC (k_:=λh3 e3 x3=> ?_) (n+1) h2 (m:=c.length) (SD cl (by decide));let h4:=h3.bY;refine sC (k_:=λh5 e5 x5=> ?_) (n+1) h4 (m:=c.length+5) (SD (Tw cl 5) (by decide));refine sC (k_:=λh6 e6 x6=> ?_) (n+1) h5 (m:=c.length+18) (SD (Tw cl 18) (by decide));refine sC (k_:=λh7 e7 x7=> ?_) (n+1) h6 (m:=ix.length) (SD il (by decide));let h8:=h7.bY;let h9:=h8.bY;let Sg:=h9.bY;let h11:=Sg.bY;let hd:B:=[0,SH top.length,SH (EA R).length];let i1:=hd++top;let i2:=i1++EA R;have ei:i2++b7=ix:=by refine (?_:hd++top++EA R++b7=(fW (top,EA R)++[])++b7);rw [Ti,SG hd];rfl
 let t1:=var (c.length+5)++[8];let t2:=t1++var (c.length+18);let t3:=t2++var ix.length;have et:t3=iS R top:=by refine (?_:var (c.length+5)++[8]++var (c.length+18)++var ix.length=_);rw [SG,SG];rfl
 have tl3:t3.length<=12:=by rw [et];exact l9 R top
 let s1:=bC c++bC b7;let s2:=s1++bC ix;let s3:=s2++t3;let s4:=s3++zeros R top;have ed:s4++pO=gP R top:=by refine (?_:bC c++bC b7++bC ix++t3++zeros R top++pO=_);rw [et,SG,SG,SG,SG];rfl
 have q1:(bC c).length<=133:=by rw [cZ];exact Tw cl 5
 have q2:(bC b7).length<=13:=by rw [cZ];decide
 have q3:(bC ix).length<=155:=by rw [cZ];exact Tw il 5
 have zl:(zeros R top).length<=40:=by rw [zeros,Ve];exact Vl _ _
 have hz:((40:Nat):Int)-(t3.length:Int)=((40-(iS R top).length:Nat):Int):=by exact (et).symm▸(cD (TS (Sl (l9 R top) (by decide))).symm)
 refine k_ h11 (aF λH=>H ((.bytes [0,0,0,0])) ((Uc (congrArg _ (yU _ (by decide))) rfl):Td J.bytes (iB hs (it 4))=some (.bytes [0,0,0,0])) ((.bytes b7)) (cY (by decide)) .next ⟨Qf (pV es) (enc R) x' y',h1⟩ e1 ((.bytes c)) (cY (by refine (?_:L (aU es)+8<=4096);exact (Ln.n2 0x618508820821288a0150c008bc1508a00) few hL)) e.v (by refine (((((Sp _)).symm▸(cD (c:=1) (TS (SD (Tq _) (Sj.mp he).1)).symm)):((aV es).length:Int)-1=((es.length-1:Nat):Int))).symm▸ ?_;exact pA h1 he:cz h1 (pV es) (.int (((aV es).length:Int)-1))=some e.v) (.ok ((.bytes top)) h2) (lO n h1 (h e (Sk he))) (.ok ((.bytes (var c.length))) h3) e3 ((.bytes (EA R))) (cY (show 1+(var c.length).length<=4096 from Sl (Vk (eW _) 1) (by decide))) ((.O (its [0,top.length,(EA R).length]))) h4 (aS rfl) ((.bytes hd)) (iK _ (λi hi=>by
  simp only [Tn,U1,or_false] at hi;rcases hi with rfl|rfl|rfl;·decide
  ·exact SD tl (by decide)
  ·exact SD pl (by decide)) rfl) ((.bytes i1)) (uK rfl (Sv 3) tl (by decide)) ((.bytes i2)) (uK rfl (dj (Sv 3) tl) pl (by decide)) ((.bytes ix)) (uK ei (dj (dj (Sv 3) tl) pl) (Sv 8) (by decide)) (.ok ((.bytes (var (c.length+5)))) h5) e5 ((.bytes t1)) (uK rfl (eW _) (Sv 1) (by decide)) (.ok ((.bytes (var (c.length+18)))) h6) e6 ((.bytes t2)) (uK rfl (dj (eW _) (Sv 1)) (eW _) (by decide)) (.ok ((.bytes (var ix.length))) h7) e7 ((.bytes t3)) (uK rfl (dj (dj (eW _) (Sv 1)) (eW _)) (eW _) (by decide)) (.ok ((.bytes (bC c))) h8) (iR (n+1) h7 (Sl cl (by decide))) (.ok ((.bytes (bC b7))) h9) (iR (n+1) h8 (by decide)) ((.bytes s1)) (uK rfl q1 q2 (by decide)) (.ok ((.bytes (bC ix))) Sg) (iR (n+1) h9 (Sl il (by decide))) ((.bytes s2)) (uK rfl (dj q1 q2) q3 (by decide)) ((.bytes s3)) (uK rfl (dj (dj q1 q2) q3) tl3 (by decide)) ((.bytes (zeros R top))) (by rw [hz,yU _ (Sl (Vl _ _) (by decide))];rfl:Td J.bytes (iB Sg (.int (((40:Nat):Int)-(t3.length:Int))))=some (.bytes (zeros R top))) ((.bytes s4)) (uK rfl (dj (dj (dj q1 q2) q3) tl3) zl (by decide)) ((.O (its [87,251,128,139,36,117,71,219]))) h11 (aS rfl) ((.bytes pO)) (iK _ (by decide) rfl) ((.bytes (gP R top))) (uK ed (dj (dj (dj (dj q1 q2) q3) tl3) zl) (Sv 8) (by decide))) ((((((x1.trans (bG.iP 3 h1)).trans x3).trans (bG.bY h3)).trans x5).trans x6).trans (x7.trans (bG.iP 4 h7)))
theorem Ba (Y:U):aq true 12 (.aI (.of 1) Y.n) (Y.new (.cj []))=some (rD,Y.bY):=lC rfl
theorem FJ (n:Nat) (hs:U) {R:List (B×B)} {top:B} (ok:LU R top) {R_:Prop} (k_: ∀h1 h2,ak (n+5) (.of 61) [.aI (.of 8) hs.n,.bytes (gP R top),ie,cS] (hs.new (.cj []))=.ok .none h1->aq true 12 (.aI (.of 8) hs.n) h1=some (iG R top,h2)->bG hs h2->R_):R_:=by
 let x:=hs.n;let d:B:=gP R top;let c:=cont R;let ix:=cont (ee R top);let T3:List (Fd×J):=[((.of 27),.bytes d),((.of 39),ie),((.of 28),cS)];let T4:List (Fd×J):=[((.of 27),.bytes d),((.of 39),ie),((.of 28),cS),((.of 40),JU R top)];let T5:List (Fd×J):=Kd R top [];let T6:List (Fd×J):=Kd R top [((.of 38),zU cS (ee R top))];let T7:List (Fd×J):=Px R top;have n0: ∀o,(hs.new o).h x=some o:=λo=>U.bR _ _;have n1: ∀o p,(hs.new o).set x p=hs.new p:=λo p=>U.fN _ _ _;refine rV (k_:=λg1 e1 y1=> ?_) n (hs.new (.cj T3)) ok;have lt1:x<g1.n:=Sx (SQ hs.n) y1.n;let g2:=g1.set x (.cj T4);let g3:=g2.set x (.cj T5);have a2:g2.h x=some (.cj T4):=U.bA _ _ _;have a3:g3.h x=some (.cj T5):=U.bA _ _ _;have p1:(bC c++bC b7).length=c.length+18:=by rw [Sq,cZ,cZ];rfl
 have e2:ak (n+4) (.of 62) [.aI (.of 8) x,jz (c.length+18) ix.length] g3=.ok (.bytes ix) g3:=by have:=ng (n+1) a3 ((SG _ _ _).symm) (by rw [p1];exact (Ln.n2 0x50a22784a04028894a04a222840));rw [p1] at this;exact this
 refine qP (k_:=λk1 k2 e3 e4 y2=> ?_) (n+2) g3 (ee R top) (.of 2) [((.of 6),rD)];have lt2:x<k2.n:=Sx lt1 y2.n;have a4:k2.h x=some (.cj T5):=(y2.h x lt1).trans a3;let g4:=k2.set x (.cj T6);let g5:=g4.set x (.cj T7);have a5:g4.h x=some (.cj T6):=U.bA _ _ _;have a6:g5.h x=some (.cj T7):=U.bA _ _ _;have p2:(bC c).length=c.length+5:=cZ c;have e5:ak (n+4) (.of 62) [.aI (.of 8) x,jz (c.length+5) 8] g5=.ok (.bytes b7) g5:=by have:=ng (n+1) (c:=b7) a6 (show gP R top=bC c++(bC b7++_) from rfl) (by rw [p2];exact (Ln.n2 0x50a22784a04028894a228288940));rw [p2] at this;exact this
 let g6:=g5.bY;refine qP (k_:=λm1 m2 e6 e7 y3=> ?_) (n+2) g6 [] (.of 1) [];have a7:m2.h x=some (.cj T7):=(y3.h x (Tu lt2)).trans (((bG.bY g5).h x lt2).trans a6);refine k_ m2 (m2.del x) (aF λH=>H _ rfl _ (n0 _) _ (n1 _ _) _ (n0 _) _ (n1 _ _) _ (n0 _) _ (n1 _ _) _ (n0 _) _ e1 _ ((y1.h x (SQ _)).trans (n0 _)) _ rfl _ a2 _ a2 g3 (by refine ((cD (FA R top))).symm▸ ?_;rfl) _ (aR a3 rfl rfl) _ a3 _ e2 _ e3 _ _ e4 _ a4 _ rfl _ a5 _ rfl _ (aR a6 rfl rfl) _ a6 _ e5 _ _ (Ba g5) _ e6 _ _ e7 _ rfl _ rfl) (pN a7 rfl) ?_;have z2:bG hs g5:=((((((bG.new hs _).trans y1).set (Sv _)).set (Sv _)).trans y2).set (Sv _)).set (Sv _);exact ((z2.trans (bG.bY g5)).trans y3).del (Sv _)
noncomputable def xw:List (Fd×J):=zL.map λa=>if a.1=(.of 3) then (a.1,it 4) else a
noncomputable def xP (t:Nat):List (Fd×J):=[((.of 47),.none),((.of 39),ie),((.of 28),cS),((.of 4),.ref t)]
theorem Fe (n:Nat) (hs:U):ak (n+1) (.of 81) [.aI (.of 10) hs.n,.none,ie,cS] (hs.new (.cj []))=.ok .none (nn hs (.cj (xP (hs.n+1))) (.gU [])):=by let x:=hs.n;have n0: ∀o,(hs.new o).h x=some o:=λo=>U.bR _ _;have n1: ∀o p,(hs.new o).set x p=hs.new p:=λo p=>U.fN _ _ _;exact aF λH=>H _ (n0 _) _ (n1 _ _) _ (n0 _) _ (n1 _ _) _ (n0 _) _ (n1 _ _) _ (qp _ _ _) _ (xZ _ _ _ _)
theorem ltS {P:Nat->Prop} (h0:P 0) (hs: ∀n,n<k->P (n+1)) (n:Nat):n<k+1->P n:=ZE (motive:=λn=>n<k+1->P n) n (λz=>h0) λn h=>hs n (Ze h)
theorem lt4 {P:Nat->Prop} (h0:P 0) (h1:P 1) (h2:P 2) (h3:P 3): ∀n,n<4->P n:=ltS h0 (ltS (P:=λn=>P (n+1)) h1 (ltS (P:=λn=>P (n+2)) h2 (ltS (P:=λn=>P (n+3)) h3 λn h=>absurd h (UK n))))
theorem lt5 {P:Nat->Prop} (h0:P 0) (h1:P 1) (h2:P 2) (h3:P 3) (h4:P 4): ∀n,n<5->P n:=ltS h0 (lt4 (P:=λn=>P (n+1)) h1 h2 h3 h4)
theorem bZ (h:eB K s Y=.ok .next τ) (h2:cu K l τ=r):cu K (.cons s l) Y=r:=dR h h2
structure Wk (M:Nat) (es:List En) (I:qQ):Prop where
 GU: ∀N,M<=N->AS N RM (aU es) I
 off: ∀N,M<=N-> ∀{x S hs},I x S es.length hs-> ∀f∈([(.of 79),(.of 80),(.of 70),(.of 71)]:List Fn),ak N f [eX x] hs=.exc hs
 ok: ∀e∈es,e.Ok
 rG:PT es
 pos:0<es.length
 few:es.length<=8
section
variable {M:Nat} {es:List En} {I:qQ} (W:Wk M es I) {x p:Nat} {S:List Nat} {hs:U} {N:Nat} (hN:M<=N)
include W hN in theorem Am (h:I x S es.length hs): ∀way,way<4->ak (N+1) (.of 31) [eX x,it way] hs=.ok (.bool true) hs:=λway hw=>by
 have c:=(W.GU N hN).cell h;have o:=W.off N hN h;refine lt4 (P:=λway=>ak (N+1) (.of 31) [eX x,it way] hs=.ok (.bool true) hs) ?_ ?_ ?_ ?_ way hw;·exact aF λH=>H _ rfl _ (aT c rfl rfl) _ (o _ (.head _))
 ·exact aF λH=>H _ rfl _ rfl _ (aT c rfl rfl) _ (o _ (.tail _ (.head _)))
 ·exact aF λH=>H _ rfl _ rfl _ rfl _ (aT c rfl rfl) _ (o _ (.tail _ (.tail _ (.head _))))
 ·exact aF λH=>H _ rfl _ rfl _ rfl _ (aT c rfl rfl) _ (o _ (.tail _ (.tail _ (.tail _ (.head _)))))
theorem adY (Y:U) (a b:B):Td J.bool (rt Y .eq (.bW [.bytes a,.bytes b]) (.bW [.bytes a,.bytes b]))=some (.bool true):=by
 refine (?_:Td J.bool (match some (decide (a=a)) with
  |some true=>(match some (decide (b=b)) with
   |some true=>some true
   |some false=>_
   |none=>_)
  |some false=>_
  |none=>_)=_);rw [dT rfl,dT rfl];rfl
include W hN in theorem qv (h:I x S p hs) (he:es[p]? =some e) {R_:Prop} (k_: ∀aJ,ak (N+4) (.of 32) [eX x,pV es,it p] hs=.ok (.bool true) aJ->bG hs aJ->R_):R_:=by
 have V:=W.GU (N+3) (Sl hN (SI _ _));have c:=V.cell h;have lp:=(Sj.mp he).1;have hr:(aU es)[p]? =some (ky e,vl e):=by rw [aU,SA,he];rfl
 have e1:=V.valid h;rw [bN,dW lp] at e1;have ok:=W.ok e (Sk he);let h1:=hs.iP 3;let h2:=h1.bY;exact k_ h2 (aF λH=>H _ (A9 (Tq _)) _ ((Uc (congrArg _ ((Sp _))) (dW lp)):mY p (aV es).length=true) _ (pA hs he) _ (aT c rfl rfl) _ e1 _ rfl _ (aT c rfl rfl) _ (V.key' h hr) _ (aT c rfl rfl) _ (V.value' h hr) _ (lO (N+1) hs ok) _ (qw (N+2) h1 ok) _ (adY h2 _ _)) (bG.iP 4 hs)
noncomputable def aaH:Ex:=.call (.of 31) (.cons (.var 0) (.cons .cvar .nil))
include W hN in theorem jR (h:I x S es.length hs) {pl:Int} (hp: ¬(0<=pl/\pl<es.length)) {R_:Prop} (k_: ∀aJ,ak (N+4) (.of 32) [eX x,pV es,.int pl] hs=.ok (.bool true) aJ->bG hs aJ->R_):R_:=by
 have V:=W.GU (N+3) (Sl hN (SI _ _));have c:=V.cell h;have e1:=V.valid h;rw [bN,dg (Sv _)] at e1;have h2:=(V.toItr).frame h (bG.bY hs).n λy hy=>(bG.bY hs).h y (V.own h y hy);have c2:=V.cell h2;have e2:=V.valid h2;rw [bN,dg (Sv _)] at e2;let ls:List J:=[eX x,pV es,.int pl,.ah];let tr:List J:=[.bool true,.bool true,.bool true,.bool true];have e3:each (jh (ak (N+3)) aaH .none) ((Ec 4).map .int) ⟨ls,hs⟩=.ok tr ⟨ls,hs⟩:=lA (g:=λu=>.bool true) λi hi=>dU λH=>H _ (Am W (Sl hN (SI N 2)) h i hi);refine k_ hs.bY ?_ (bG.bY hs);by_cases z:0<=pl;·exact aF λH=>H _ (dT z) _ (dF λq=>hp ⟨z,by exact ((Sp _:(aV es).length=es.length))▸(q)⟩) _ (aT c rfl rfl) _ e1 _ rfl _ (dG (by decide)) _ _ e3 _ _ (aS rfl) _ rfl _ rfl _ (aT c2 rfl rfl) _ e2
 ·exact aF λH=>H _ (dF z) _ rfl _ (aT c rfl rfl) _ e1 _ rfl _ (dG (by decide)) _ _ e3 _ _ (aS rfl) _ rfl _ rfl _ (aT c2 rfl rfl) _ e2
include W hN in theorem iV {aJ:U} (h:I x S p hs) (e:bG hs aJ):I x S p aJ:=have V:=W.GU N hN;V.frame h e.n λy hy=>e.h y (V.own h y hy)
noncomputable def Kc:Ss:=(bf (aM pU 2)).2
include W hN in theorem CN (h:I x S es.length hs) {R_:Prop} (k_: ∀aJ S',ak (N+5) (.of 33) [eX x,pV es] hs=.ok (.bool true) aJ->I x S' es.length aJ->Mv S hs S' aJ->R_):R_:=by
 have V:=W.GU (N+4) (Sl hN (SI _ _));refine jR (k_:=λh1 e1 x1=> ?_) W hN h (pl:=0-1) (λq=>absurd q.1 (by decide));have i1:=iV W hN h x1;refine ig (V.first i1) λh2 S2 e2 i2 nh=> ?_;let Q:Nat->St->Prop:=λi Y=> ∃aJ S' a,Y=⟨[eX x,pV es,a],aJ⟩/\I x S' i aJ/\Mv S hs S' aJ;have q0:Q 0 ⟨[eX x,pV es,.ah],h2⟩:=(Nj h2 S2 _ rfl i2 ((Mv.ext x1).trans nh));obtain ⟨τ,e3,h3,S3,a,rfl,i3,mv3⟩:=fK (K:=ak (N+4)) (t:=.name 2) (b:=Kc) (Sl W.few (by decide)) q0 λi Y hi q=>by refine xJ q λg S' a Kf I1 mv=> ?_;clear q;subst Kf;obtain ⟨e,he⟩: ∃e,es[i]? =some e:=⟨_,Sn hi⟩;refine qv (k_:=λg1 s1 y1=> ?_) W hN I1 he;have I2:=iV W hN I1 y1;refine ig (V.step I2 (by rw [bN];exact hi)) λg2 S2 s2 I3 nh=>⟨⟨[eX x,pV es,it i],g2⟩,.inl ?_,g2,S2,it i,rfl,I3,mv.trans ((Mv.ext y1).trans nh)⟩;exact bg λH=>H _ s1 _ rfl _ (aT (V.cell I2) rfl rfl) _ s2
 have el:(aV es).length=es.length:=Sp _;refine jR (k_:=λh4 e4 x4=> ?_) W hN i3 (pl:=(aV es).length) (λq=>absurd q.2 (((el).symm▸(XX _))));refine k_ h4 S3 (aF λH=>H _ e1 _ rfl _ (aT (V.cell i1) rfl rfl) _ e2 _ _ (by exact (el).symm▸(e3):jg (ak (N+4)) (.name 2) Kc [it (aV es).length] ⟨[eX x,pV es,.ah],h2⟩=.ok .next ⟨[eX x,pV es,a],h3⟩) _ e4) (iV W hN i3 x4) (mv3.trans (Mv.ext x4))
end
noncomputable def K3 (u q k:Nat):List Int:=[u,-(q:Int),-(k:Int)]
noncomputable abbrev l3 (e:En):List Int:=K3 e.u e.q e.k
theorem oS: ∀u,u<5-> ∀v,v<5->blt (jM u) (jM v)=decide (u<v):=by decide
theorem uL (u q k v p j:Nat):lex (K3 u q k) (K3 v p j)=true↔u<v∨(u=v/\(p<q∨(p=q/\j<k))):=by
 refine (?_:(if (u:Int)=v then (if-(q:Int)= -(p:Int) then (if-(k:Int)= -(j:Int) then false else decide (-(k:Int)< -(j:Int))) else decide (-(q:Int)< -(p:Int))) else decide ((u:Int)<v))=true↔_);split;·
  split;·
   split;·exact ⟨λh=>(Uu h),λh=>by omega⟩
   ·rw [decide_eq_true_iff];omega
  ·rw [decide_eq_true_iff];omega
 ·rw [decide_eq_true_iff];omega
theorem Jr (hu:u<5) (hv:v<5) (hq:q<2^56) (hp:p<2^56) (hk:k<=1) (hj:j<=1):(kc (kb (jM u) (q*256+k)) (kb (jM v) (p*256+j))<0↔lex (K3 u q k) (K3 v p j)=true)/\(0<kc (kb (jM u) (q*256+k)) (kb (jM v) (p*256+j))↔lex (K3 v p j) (K3 u q k)=true):=by
 rw [uL,uL];unfold kc;rw [wh,wh,ER _ (lK hq (SD hk (show 1<256 by decide))),ER _ (lK hp (SD hj (show 1<256 by decide)))];unfold Nv;refine (oS u hu v hv).symm▸((oS v hv u hu).symm▸ ?_);simp only [decide_eq_true_iff];split;·omega
 ·split;·omega
  ·split;·omega
   ·split<;>omega
theorem jT {α:Type} {p:α->Bool}: ∀{l:List α},(l.Pairwise λa b=>p b=true->p a=true)-> ∀{i:Nat} {a:α},l[i]? =some a->(i<(l.filter p).length↔p a=true):=by
 intro l_;induction l_ with
 |nil=>exact @λy i a h=>by cases h
 |cons x l aG=>
  exact @λhl i a h=>by
   refine dD (XI.mp hl) λh1 h2=> ?_;cases z:p x with
   |true=>
    rw [List.filter_cons_of_pos z];cases i with
    |zero=>obtain rfl:=Sm h;exact ⟨λy=>z,λy=>Ul _⟩
    |succ i=>exact (Nat.succ_lt_succ_iff).trans (aG h2 (i:=i) h)
   |false=>
    rw [List.filter_cons_of_neg (by exact (z).symm▸(λq=>(by cases q))),(Y8.mpr λb hb q=>by replace z:=(h1 b hb q)▸z;cases z)];refine ⟨λq=>absurd q (UK _),λq=> ?_⟩;cases i with
    |zero=>cases h;exact nomatch (z).symm.trans q
    |succ i=>replace z:=(h1 a (Sk (l:=l) (i:=i) h) q)▸z;cases z
abbrev Di (es:List En):Prop:=es.Pairwise λa b=>lex (l3 a) (l3 b)=true
noncomputable def lH (es:List En) (u q k:Nat):Nat:=(es.filter λe=>lex (l3 e) (K3 u q k)).length
theorem yL (ok: ∀e∈es,e.Ok) (s3:Di es) (hu:u<5) (hq:q<2^56) (hk:k<=1):Lb (aU es) (kb (jM u) (q*256+k)) (lH es u q k):=by
 have P:es.Pairwise λa b=>lex (l3 b) (K3 u q k)=true->lex (l3 a) (K3 u q k)=true:=s3.imp λh h2=>lex_trans h h2;have bP: ∀{i:Nat} {r:B×B},(aU es)[i]? =some r-> ∃e,es[i]? =some e/\r.1=ky e/\e.Ok:=λ{i r} h=>by rw [aU,SA] at h;refine ay (Sz.mp h) λe he cK=> ?_;clear h;subst cK;exact iw e he rfl (ok e (Sk he))
 have sg: ∀{e:En},e.Ok->_:=λ{e} o=>Jr (u:=e.u) (q:=e.q) (k:=e.k) o.u hu (SD (SI _ 2) o.q) hq o.k hk;refine ⟨by rw [bN];exact UW _ _,λi r hi h=> ?_,λr h=> ?_,λi r hi h=> ?_⟩;·obtain ⟨e,he,hr,o⟩:=bP h;rw [hr];exact (sg o).1.mpr ((jT P he).mp hi)
 ·obtain ⟨e,he,hr,o⟩:=bP h;rw [hr];exact VD.mp λq=>absurd ((jT P he).mpr ((sg o).1.mp q)) (To _)
 ·obtain ⟨e,he,hr,o⟩:=bP h;rw [hr];clear hr;obtain ⟨c,hc⟩: ∃c,es[lH es u q k]? =some c:=⟨_,Sn (TL hi ((Sj.mp he).1))⟩;refine (sg o).2.mpr ?_;clear o;obtain ⟨g1,rfl⟩:=Sj.mp hc;obtain ⟨g2,rfl⟩:=Sj.mp he;have h2:=Th.mp s3 _ _ g1 g2 hi;by_cases z:l3 (es[lH es u q k])=K3 u q k;·exact (z)▸(h2)
  ·have:=yF (a:=l3 (es[lH es u q k])) (b:=K3 u q k) rfl z;refine lex_trans ?_ h2;cases y:lex (K3 u q k) (l3 (es[lH es u q k])) with
   |true=>rfl
   |false=>rw [y] at this;exact absurd this (λz=>absurd ((jT P hc).mpr z) (To _))
def PR (len:Nat) (pl:Int) (p:Nat):Prop:=(p<len/\pl=p)∨(p=len/\ ¬(0<=pl/\pl<len))
section
variable {M:Nat} {es:List En} {I:qQ} (W:Wk M es I) (s3:Di es) {x p:Nat} {S:List Nat} {hs:U} {N:Nat} (hN:M<=N)
noncomputable def Lx (x:Nat) (es:List En) (ms:List Nat) (first:Nat) (hist:List En) (pl:Int) (i:Nat) (y a n t:J):List J:=[eX x,pV es,.O (its ms),it first,pV hist,.int pl,it i,y,a,n,t]
noncomputable abbrev JG (u q k:Nat):J:=.bW [it u,neg q,neg k]
noncomputable def Ph:Mine.S:=aM (bf (aM lF 1)).2 6
noncomputable def abx:Ex:=.cmp .lt (.slice .cvar .none (.some (.lit (.int 3)))) (.var 10)
include W s3 hN in theorem Nf {pl:Int} (hu:u<5) (hq:q<2^56) (hk:k<=1) (h:I x S p hs) (ha:a<5) (hpl:a<=2∨(p<es.length/\pl=p)) {R_:Prop} (k_: ∀aJ S' p' EO,eB (ak (N+4)) Ph ⟨Lx x es ms first hist pl i y (it a) n (JG u q k),hs⟩=.ok .next ⟨Lx x es ms first hist EO i y (it a) n (JG u q k),aJ⟩->I x S' p' aJ->Mv S hs S' aJ->PR es.length EO p'->R_):R_:=by
 have V:=W.GU (N+4) (Sl hN (SI _ _));have c:=V.cell h;have rl:=bN es;revert hpl k_;refine lt5 (P:=λa=>(a<=2∨(p<es.length/\pl=p))->(∀aJ S' p' EO,eB (ak (N+4)) Ph ⟨Lx x es ms first hist pl i y (it a) n (JG u q k),hs⟩=.ok .next ⟨Lx x es ms first hist EO i y (it a) n (JG u q k),aJ⟩->I x S' p' aJ->Mv S hs S' aJ->PR es.length EO p'->R_)->R_) ?_ ?_ ?_ ?_ ?_ a ha;·intro hpl k_;exact ig (V.first h) λh1 S1 e1 i1 mv=>k_ h1 S1 0 0 (bH λH=>H _ rfl _ (aT c rfl rfl) _ e1) i1 mv (.inl ⟨W.pos,rfl⟩)
 ·intro hpl k_;refine ig (V.last h) λh1 S1 e1 i1 mv=> ?_;refine k_ h1 S1 _ (((aV es).length:Int)-1) (bH λH=>H _ rfl _ rfl _ (aT c rfl rfl) _ e1) i1 mv (.inl ⟨by rw [rl];exact U0 W.pos TV,by refine ((Sp _)).symm▸((rl).symm▸ ?_);exact cD (c:=1) (TS W.pos).symm⟩)
 ·intro hpl k_;have i0:=iV W hN h (bG.iP 3 hs);refine ig (V.seek i0 (gv _ _ rfl (lK hq (SD hk (by decide)))) (yL W.ok s3 hu hq hk)) λh1 S1 e1 i1 mv=> ?_;let fl:=es.filter λe=>lex (l3 e) (K3 u q k);let ls:=Lx x es ms first hist pl i y (it 2) n (JG u q k);have e2:each (jh (ak (N+4)) .cvar (.some abx)) (aV es) ⟨ls,h1⟩=.ok (aV fl) ⟨ls,h1⟩:=pK λe v=>dU λH=>H _ rfl _ (by rw [Ej];rfl:Td J.bool (H8 ((l3 e).map .int) ((K3 u q k).map .int))=some (.bool (lex (l3 e) (K3 u q k))));have Rm:(aV fl).length=lH es u q k:=Sp _;refine k_ h1.bY S1 (lH es u q k) ((aV fl).length:Int) (bH λH=>H _ rfl _ rfl _ rfl _ (aT c rfl rfl) _ (pQ (N+2) hs hu (SD hk (by decide)) []) _ e1 _ _ e2 _ _ (aS (cI _))) (iV W hN i1 (bG.bY h1)) ((Mv.ext (bG.iP 3 hs)).trans (mv.trans (Mv.ext (bG.bY h1)))) ((Rm).symm▸ ?_);rcases Tt (show lH es u q k<=es.length from UW _ _) with z|z;·exact .inl ⟨z,rfl⟩
  ·exact .inr ⟨z,λr=>absurd (TM.mp r.2) (by exact (z).symm▸(To _))⟩
 ·intro hpl k_;obtain ⟨hp,rfl⟩:=hpl.resolve_left (by decide);refine ig (V.step h (by rw [rl];exact hp)) λh1 S1 e1 i1 mv=>k_ h1 S1 (p+1) ((p+1:Nat):Int) (bH λH=>H _ rfl _ rfl _ rfl _ rfl _ (aT c rfl rfl) _ e1) i1 mv ?_;rcases Tt (Uw hp) with z|z;·exact .inl ⟨z,rfl⟩
  ·exact .inr ⟨z,λr=>absurd (TM.mp r.2) (by exact (z)▸(To _))⟩
 ·intro hpl k_;obtain ⟨hp,rfl⟩:=hpl.resolve_left (by decide);refine ig (V.back h (by rw [rl];exact hp)) λh1 S1 e1 i1 mv=>k_ h1 S1 _ ((p:Int)-1) (bH λH=>H _ rfl _ rfl _ rfl _ rfl _ (aT c rfl rfl) _ e1) i1 mv ((rl).symm▸ ?_);clear h hpl k_ i1;cases p with
  |zero=>exact (if_pos rfl).symm▸(.inr ⟨rfl,λr=>absurd r.1 (by decide)⟩)
  |succ p=>exact (if_neg (Uv p)).symm▸(.inl ⟨UH hp,cD (c:=1) rfl⟩)
end
noncomputable def yP:Ss:=(bf (aM lF 1)).2
section
variable {M:Nat} {es:List En} {I:qQ} (W:Wk M es I) (s3:Di es) {x p:Nat} {S:List Nat} {hs:U} {N:Nat} (hN:M<=N) {ms:List Nat} (m0:0<ms.length) (mK:ms.length<=20) {hist:List En} {sh:Nat} (H:lD hist sh) (h0:0<hist.length) (first:Nat)
include W s3 hN m0 mK H h0 in theorem MR {pl:Int} {y a n t:J} (h:I x S p hs) (hp:0<=pl/\pl<es.length->pl=p) {R_:Prop} (k_: ∀aJ S' p' EO y' a' n' t',cu (ak (N+4)) yP ⟨Lx x es ms first hist pl i y a n t,hs⟩=.ok .next ⟨Lx x es ms first hist EO i y' a' n' t',aJ⟩->I x S' p' aJ->Mv S hs S' aJ->PR es.length EO p'->R_):R_:=by
 let yy:=draw ms (first+i);let ac:=(yy+2*i+1)%5;have a5:ac<5:=UA _ (by decide);have el:(aV es).length=es.length:=Sp _;let L (y a n t:J):=Lx x es ms first hist pl i y a n t;have s0:eB (ak (N+4)) (aM yP 0) ⟨L y a n t,hs⟩=.ok .next ⟨L (it yy) a n t,hs⟩:=bH λH=>H _ (dQ (N+3) hs m0 mK _);have s1:eB (ak (N+4)) (aM yP 1) ⟨L (it yy) a n t,hs⟩=.ok .next ⟨L (it yy) (it ac) n t,hs⟩:=bH λH=>H _ (j9 (by decide)) _ (bO rfl (by decide));obtain ⟨a2,a25,ha2,s2⟩: ∃a2,a2<5/\(a2<=2∨(p<es.length/\pl=p))/\eB (ak (N+4)) (aM yP 2) ⟨L (it yy) (it ac) n t,hs⟩=.ok .next ⟨L (it yy) (it a2) n t,hs⟩:=by
  by_cases z:2<ac;·
   have adA:(ac:Int)-2=((ac-2:Nat):Int):=cD (c:=2) (TS (Tj z)).symm;have E2:(aA.ok .next ⟨L (it yy) (.int ((ac:Int)-2)) n t,hs⟩:aA St bw)=.ok .next ⟨L (it yy) (it (ac-2)) n t,hs⟩:=by refine (adA).symm▸ ?_;rfl
   by_cases y0:pl<0;·exact iw (ac-2) (by exact (Ln.n1 0x6122252c8880488940) a5) (.inl (by exact (Ln.n1 0x6142222c8880488940) a5)) (bH λH=>(H _ (dW z) _ (dT y0) _ rfl).trans E2)
   ·by_cases y1:pl<es.length;·have:=hp ⟨VD.mp y0,y1⟩;exact iw ac a5 (.inr ⟨TM.mp (this▸y1),this⟩) (bH λH=>H _ (dW z) _ (dF y0) _ (by exact (el).symm▸(dF (X5.mpr y1)):decide (((aV es).length:Int)<=pl)=false))
    ·exact iw (ac-2) (by exact (Ln.n1 0x6122252c8880488940) a5) (.inl (by exact (Ln.n1 0x6142222c8880488940) a5)) (bH λH=>(H _ (dW z) _ (dF y0) _ (by exact (el).symm▸(dT (VD.mp y1)):decide (((aV es).length:Int)<=pl)=true)).trans E2)
  ·exact iw ac a5 (.inl (SJ z)) (bH λH=>H _ (dg (SJ z)) _ rfl)
 let j:=yy/25%hist.length;obtain ⟨e,he⟩: ∃e,hist[j]? =some e:=⟨_,Sn (UA _ h0)⟩;have ok:=H.ok e (Sk he);have h3:eB (ak (N+4)) (aM yP 3) ⟨L (it yy) (it a2) n t,hs⟩=.ok .next ⟨L (it yy) (it a2) e.v t,hs⟩:=bH λH=>H _ (bT rfl (by decide) (by decide)) _ (by exact ((Sp _)).symm▸(bO rfl h0):gK .mod (it (yy/25)) (it (aV hist).length)=some (it j)) _ (pA hs he);let u:=yy/5%5;let c:=yy/7%3;let k:=yy/3%2;have c3:c<3:=UA _ (by decide);have q0:=ok.q0;have q1:=ok.q;have e4: -(e.q:Int)+(c:Int)-1= -((e.q+1-c:Nat):Int):=by exact (Ln.n2 0x6185ce3cb00a22104b22128f00e3c15012224888c0) c3 q0
 have s4:eB (ak (N+4)) (aM yP 4) ⟨L (it yy) (it a2) e.v t,hs⟩=.ok .next ⟨L (it yy) (it a2) e.v (JG u (e.q+1-c) k),hs⟩:=bH λH=>(H _ (bT rfl (by decide) (by decide)) _ (bO rfl (by decide)) _ (nO hs rfl) _ (bT rfl (by decide) (by decide)) _ (bO rfl (by decide)) _ (bT rfl (by decide) (by decide)) _ (bO rfl (by decide))).trans (by rw [e4,Zm];rfl);obtain ⟨u',q',Mm,hq',s5⟩: ∃u' q',u'<5/\q'<2^56/\eB (ak (N+4)) (aM yP 5) ⟨L (it yy) (it a2) e.v (JG u (e.q+1-c) k),hs⟩=.ok .next ⟨L (it yy) (it a2) e.v (JG u' q' k),hs⟩:=by
  have d1:gK .fdiv (it yy) (it 11)=some (it (yy/11)):=bT rfl (by decide) (by decide);have d2:gK .mod (it (yy/11)) (it 2)=some (it (yy/11%2)):=bO rfl (by decide);cases z:neq (yy/11%2) 0 with
  |true=>exact jn e.u e.q ok.u (SD (SI _ 2) q1) (bH λH=>H _ d1 _ d2 _ z _ rfl _ (nO hs rfl) _ rfl)
  |false=>exact jn u (e.q+1-c) (UA _ (by decide)) (by exact (Ln.n2 0x1848882082082082082082082084b04a221012220820820820820820820821288880) q1) (bH λH=>H _ d1 _ d2 _ z)
 refine Nf (k_:=λh1 S1 p1 O6 e6 i6 mv6 pr=> ?_) W s3 hN (first:=first) (ms:=ms) (i:=i) (hist:=hist) (y:=it yy) (n:=e.v) Mm hq' (Uk (UA _ (by decide):k<2)) h a25 ha2;have st: ∃h2,ak (N+4) (.of 32) [eX x,pV es,.int O6] h1=.ok (.bool true) h2/\bG h1 h2:=by
  rcases pr with ⟨g1,g2⟩|⟨g1,g2⟩;·exact (g2).symm▸(qv W hN i6 (Sn g1) λh a b=>(aH h a b))
  ·rw [g1] at i6;exact jR W hN i6 g2 λh a b=>(aH h a b)
 refine ay st λh2 e7 x7=>k_ h2 S1 p1 O6 (it yy) (it a2) e.v (JG u' q' k) ?_ (iV W hN i6 x7) (mv6.trans (Mv.ext x7)) pr;have s7:eB (ak (N+4)) (aM yP 7) ⟨Lx x es ms first hist O6 i (it yy) (it a2) e.v (JG u' q' k),h1⟩=.ok .next ⟨Lx x es ms first hist O6 i (it yy) (it a2) e.v (JG u' q' k),h2⟩:=bH λH=>H _ e7 _ rfl;exact bZ s0 (bZ s1 (bZ s2 (bZ h3 (bZ s4 (bZ s5 (bZ e6 (bZ s7 rfl)))))))
include W s3 hN m0 mK H h0 in theorem E9 (h:I x S p hs) {R_:Prop} (k_: ∀aJ S' p',ak (N+5) (.of 34) [eX x,pV es,.O (its ms),it first,pV hist] hs=.ok (.bool true) aJ->I x S' p' aJ->Mv S hs S' aJ->R_):R_:=by
 let Q:Nat->St->Prop:=λz Y=> ∃aJ S' p' pl i y a n t,Y=⟨[eX x,pV es,.O (its ms),it first,pV hist,.int pl,i,y,a,n,t],aJ⟩/\I x S' p' aJ/\Mv S hs S' aJ/\(0<=pl/\pl<es.length->pl=p');have q0:Q 0 ⟨[eX x,pV es,.O (its ms),it first,pV hist,.int (0-1),.ah,.ah,.ah,.ah,.ah],hs⟩:=(adi hs S p _ _ _ _ _ _ rfl h (Mv.ext (.refl hs)) (λq=>absurd q.1 (by decide)));obtain ⟨τ,e,h1,S1,p1,pl,i,y,a,n,t,rfl,i1,mv,_⟩:=fK (K:=ak (N+4)) (t:=.name 6) (b:=yP) (n:=5) (by decide) q0 λi Y hi q=>by
  refine adv q λg S' p' pl j y a n t adf I1 mv hp=> ?_;clear q;subst adf;refine MR (k_:=λg1 S1 p1 O6 y1 a1 n1 t1 e1 I2 nh pr=> ?_) W s3 hN m0 mK H h0 first (i:=i) (y:=y) (a:=a) (n:=n) (t:=t) I1 hp;refine ⟨_,.inl e1,g1,S1,p1,O6,_,_,_,_,_,rfl,I2,mv.trans nh,λq=> ?_⟩;rcases pr with ⟨_,g⟩|⟨_,g⟩;·exact g
  ·exact absurd q g
 exact k_ h1 S1 p1 (aF λH=>H _ _ e) i1 mv
end
noncomputable def Ny:Ss:=(bf (aM (bf (aM lX 1)).2 1)).2
noncomputable def abf:Ss:=(bf (aM lX 1)).2
def Fz (k:Nat) (l:List J):Prop:= ∀v∈l,∀Y,aq false k v Y=some (v,Y)
theorem abm (p:List En) (Y:U):aq false (k+2) (pV p) Y=some (pV p,Y):=by refine (?_:Td _ (gG (aq false (k+1)) _ Y)=_);rw [l6 _ (cI p)];rfl
theorem KV (ps:List (List En)):Fz (k+2) (ps.map pV):=λv hv Y=>by refine ay (Tr.mp hv) λp z cK=> ?_;clear hv;subst cK;exact abm p Y
theorem Qk (LS:List (List (List En))):Fz (k+3) (LS.map MH):=λv hv Y=>by refine ay (Tr.mp hv) λps z cK=> ?_;clear hv;subst cK;refine (?_:Td _ (gG (aq false (k+2)) _ Y)=_);refine (iL λv hv=>KV ps v hv Y).symm▸ ?_;rfl
theorem BE (h:Y.h y=some (.O l)) (hl:Fz 7 l):aq false 8 (.ref y) Y=some (.O l,Y.del y):=by refine (?_:(Y.h y).bind _=_);rw [h];refine (?_:Td _ (gG (aq false 7) l Y)=_);rw [iL λv hv=>hl v hv Y];rfl
theorem Lr {Y:U} (hl:Fz 7 l):aq false 8 (.ref Y.n) (Y.new (.O l))=some (.O l,Y.bY):=by rw [BE (U.bR _ _) hl,U.sr]
noncomputable def bD (LS:List (List (List En))):List (List En):=(LS.map ab7).filter λl=> !l.isEmpty
section
theorem Rl (a b c:J): ∀(ps:List (List En)) (r:List En) (x:J) (hs:U),r.length+ps.flatten.length<=4096-> ∀{R_:Prop} (k_: ∀x' aJ,cU (cA (ak n) (.name 4) Ny) (ps.map pV) ⟨[a,b,c,pV r,x],hs⟩=.ok .next ⟨[a,b,c,pV (r++ps.flatten),x'],aJ⟩->bG hs aJ->R_),R_:=by
 intro l_;induction l_ with
 |nil=>exact @λr x hs z z k_=>k_ x hs (by rw [List.flatten_nil,Ti];rfl) (.refl hs)
 |cons p ps aG=>exact @λr x hs h z k_=>by rw [Vu,Sq,<-TU,<-Sq] at h;refine aG (k_:=λx' aJ e ex=> ?_) (r++p) (pV p) hs.bY h;rw [SG] at e;refine k_ x' aJ (bS (.inl ?_) e) ((bG.bY hs).trans ex);exact bg λH=>H _ (congrArg some SX.symm) (by rw [(Sp _)];exact Sl (SI _ _) h) _ _ (aS (cI _))
theorem Oe (a:J) (hP:b.n<=P): ∀(LS:List (List (List En))) (acc:List (List En)) (x y z:J) (hs:U),(∀ps∈LS,ps.flatten.length<=4096)->acc.length+LS.length<=4000->hs.h P=some (.O (acc.map pV))->P<hs.n->bG b hs-> ∀{R_:Prop} (k_: ∀x' y' z' aJ,cU (cA (ak n) (.name 2) abf) (LS.map MH) ⟨[a,.ref P,x,y,z],hs⟩=.ok .next ⟨[a,.ref P,x',y',z'],aJ⟩->aJ.h P=some (.O ((acc++bD LS).map pV))->P<aJ.n->bG b aJ->R_),R_:=by
 intro l_;induction l_ with
 |nil=>exact @λacc x y z hs u u h lt e u k_=>k_ x y z hs rfl (by rw [show bD []=[] from rfl,Ti];exact h) lt e
 |cons ps LS aG=>
  exact @λacc x y z hs hf hl h lt e u k_=>by
   refine Rl (k_:=λx' h1 e1 x1=> ?_) (n:=n) a (.ref P) (MH ps) ps [] z hs.bY (by rw [WX,TX];exact hf ps (.head _));have NQ:h1.h P=some (.O (acc.map pV)):=(((bG.bY hs).trans x1).h P lt).trans h;have lt1:P<h1.n:=Sx lt ((bG.bY hs).trans x1).n;have Qi:bG b h1:=e.trans ((bG.bY hs).trans x1);let l:=ps.flatten;have hd:bD (ps::LS)=if l.isEmpty then bD LS else l::bD LS:=by refine (?_:acv _ (l::LS.map ab7)=_);rw [Z4];cases l<;>rfl
   rw [hd] at k_;cases z0:l with
   |nil=>replace e1:=(show ps.flatten=[] from z0)▸e1;rw [if_pos (by rw [z0];rfl)] at k_;exact aG acc (MH ps) (pV []) x' h1 (λq hq=>hf q (.tail _ hq)) (Sl (T8 _) hl) NQ lt1 Qi λa1 a2 a3 h2 e2=>k_ a1 a2 a3 h2 (bS (.inl (bg λH=>H _ _ (aS rfl) _ _ e1 _ rfl)) e2)
   |cons r rs=>
    let H:=h1.set P (.O (acc.map pV++[pV l]));have hH:H.h P=some (.O ((acc++[l]).map pV)):=by rw [SX];exact U.bA _ _ _
    rw [if_neg (((z0).symm▸(ZM)))] at k_;refine aG (k_:=λa1 a2 a3 h2 e2 q=> ?_) (acc++[l]) (MH ps) (pV l) x' H (λq hq=>hf q (.tail _ hq)) (by rw [Sq];exact Sl (Ub (by rw [TU,Uz [l].length];rfl)) hl) hH lt1 (Qi.set hP);rw [SG] at q;refine k_ a1 a2 a3 h2 (bS (.inl ?_) e2) q;exact bg λH=>H _ _ (aS rfl) _ _ e1 _ (by refine ((Sp _)).symm▸((z0).symm▸ ?_);exact dW (Ul _):mY 0 (aV l).length=true) _ NQ _ NQ (by rw [Sp];exact SD (Sl (SI _ _) hl) (by decide):(acc.map pV).length<4096) _ rfl
theorem vf (hs:U) (hf: ∀ps∈LS,ps.flatten.length<=4096) (hl:p0.length+LS.length<=4000) {R_:Prop} (k_: ∀aJ,ak (n+1) (.of 30) [BL (p0::LS)] hs=.ok (.O ((p0++bD LS).map pV)) aJ->bG hs aJ->R_):R_:=by let h1:=hs.new (.O (p0.map pV));refine Oe (k_:=λx y z h3 e at3 u x3=> ?_) (n:=n) (BL (p0::LS)) (P:=hs.n) (b:=hs) (Sv _) LS p0 .ah .ah .ah h1.bY hf hl (((bG.bY h1).h hs.n (SQ _)).trans (U.bR _ _)) (Tu (SQ _)) ((bG.new _ _).trans (bG.bY h1));exact k_ (h3.del hs.n) (aF λH=>H _ (jo hs rfl) _ _ (tQ λu u=>rfl) _ zq _ _ (Lr (Qk LS)) _ _ e _ _ (BE at3 (KV _))) (x3.del (Sv _))
end
noncomputable def yY (cnt:Nat) (fl:J):List (Fd×J):=[((.of 19),it cnt),((.of 28),cS),((.of 5),fl),((.of 52),it 0),((.of 53),.bW [it 0,it 1]),((.of 54),.int (-1))]
noncomputable abbrev qk (MS:List (List Meta)):J:=.O (MS.map λms=>.O (bQ ms))
noncomputable abbrev gQ (cnt:Nat) (MS:List (List Meta)):J:=.obj (.of 15) (yY cnt (qk MS))
noncomputable def Qh:Ss:=(bf (aM kj 3)).2
theorem AZ (n:Nat) (hs:U) {cnt:Nat} (small:cnt<=8) {R_:Prop} (k_: ∀cs H,ak (n+1) (.of 99) [.aI (.of 15) hs.n,it cnt,cS] (hs.new (.cj []))=.ok .none H->Own hs (hs.n+1) cs (Tf cnt []) H->H.h hs.n=some (.cj (yY cnt (.ref (hs.n+1))))->(∀c∈cs,hs.n+1<c)->R_):R_:=by
 let x:=hs.n;let P:=hs.n+1;let F3:List (Fd×J):=[((.of 19),it cnt),((.of 28),cS),((.of 5),.ref P)];let H0:=nn hs (.cj F3) (.O []);let Q:Nat->St->Prop:=λi Y=> ∃cs H y,Y=⟨[.aI (.of 15) x,it cnt,cS,y],H⟩/\Own hs P cs (Tf i []) H/\H.h x=some (.cj F3)/\cs.length=i/\ ∀c∈cs,P<c;have q0:Q 0 ⟨[.aI (.of 15) x,it cnt,cS,.ah],H0⟩:=(d7 ([]) H0 .ah rfl ⟨U.bR _ _,trivial,.nil,U1,T8 _,SQ _,λz h=>(nomatch h),λz h=>(nomatch h),(bG.new hs _).trans (bG.new _ _)⟩ (qp _ _ _) rfl (λz h=>(nomatch h)));obtain ⟨τ,e,cs,H,y,rfl,au,hx,_,lo⟩:=fK (K:=ak n) (t:=.name 3) (b:=Qh) (n:=cnt) (Sl small (by decide)) q0 λi Y hi q=>by refine gH q λcs H y G9 au hx hl lo=> ?_;clear q;subst G9;refine ⟨⟨[.aI (.of 15) x,it cnt,cS,it i],(H.new (.O [])).set P (.O (cs.map .ref++[.ref H.n]))⟩,.inl ?_,_,_,_,rfl,by rw [List.replicate_succ'];exact au.add,(U.bM (SY (SQ _))).trans ((U.fh (SY (TL (SQ _) au.P1))).trans hx),by rw [Sq,hl];rfl,λc hc=>(SW.mp hc).elim (lo c) λh=>by rw [Sy.mp h];exact au.P1⟩;exact bg λH=>H _ hx _ au.bP _ ((U.fh (SY au.P1)).trans au.bP) (by rw [Sp,hl];exact Sx hi (Sl small (by decide))) _ rfl
 have n0: ∀o,(hs.new o).h x=some o:=λo=>U.bR _ _;have n1: ∀o p,(hs.new o).set x p=hs.new p:=λo p=>U.fN _ _ _;exact k_ cs (H.set x (.cj (yY cnt (.ref P)))) (aF λH=>H _ (n0 _) _ (n1 _ _) _ (n0 _) _ (n1 _ _) _ (qp _ _ _) _ (xZ _ _ _ _) _ _ e _ hx _ rfl _ (U.bA _ _ _) _ (U.set_set _ _ _ _) _ (U.bA _ _ _) _ (U.set_set _ _ _ _)) ((λo=>⟨(U.bM (Ym _)).trans au.bP,cX au.cells λc hc=>U.bM (f6 hc (λh=>acp (lo x h) (SQ _))),au.nd,au.no,au.P0,au.P1,au.c0,au.c1,au.ext.set (Sv _)⟩: ∀o,Own hs P cs (Tf cnt []) (H.set x o)) _) (U.bA _ _ _) lo
theorem gT {κ:Type} {a:κ×J} {r l:List (κ×J)} (h:f a.2 Y=some (v,σ')) (h2:iY f r σ'=some (l,QA)):iY f (a::r) Y=some ((a.1,v)::l,QA):=by refine (?_:((f a.2 Y).bind λx=>(iY f r x.2).map λy=>((a.1,x.1)::y.1,y.2))=_);rw [h];refine (?_:Td _ (iY f r σ')=_);rw [h2];rfl
theorem z7 (au:Own b P cs (MS.map bQ) hs) (hx:hs.h x=some (.cj (yY cnt (.ref P)))) (bx:b.n<=x) {R_:Prop} (k_: ∀aJ,aq true 12 (.aI (.of 15) x) hs=some (gQ cnt MS,aJ)->bG b aJ->R_):R_:=by
 refine qq (k_:=λh1 e1 e2 z=> ?_) (d:=true) (k:=8) au.cells au.nd (λl hl=>by refine ay (Tr.mp hl) λms z cK=> ?_;clear hl;subst cK;exact funext λY=>iL λv hv=>by refine ay (Tr.mp hv) λm z d9=> ?_;clear hv;subst d9;rfl) au.c0 au.ext;have e3:aq true 11 (.ref P) hs=some (.O ((MS.map bQ).map .O),h1.del P):=by refine (?_:(hs.h P).bind _=_);rw [au.bP];refine (?_:Td _ (gG (aq true 10) (cs.map .ref) hs)=_);rw [e1];rfl
 rw [Uo] at e3;refine k_ ((h1.del P).del x) ?_ ((e2.del au.P0).del bx);refine (?_:(hs.h x).bind _=_);refine (hx).symm▸ ?_;have e4:iY (aq true 11) (yY cnt (.ref P)) hs=some (yY cnt (qk MS),h1.del P):=gT rfl (gT rfl (gT e3 rfl));refine (?_:Td _ (iY (aq true 11) (yY cnt (.ref P)) hs)=_);rw [e4];rfl
theorem KI {l:List J} {Q:Nat->St->Prop} (step: ∀(i:Nat) (v:J) (Y:St),l[i]? =some v->Q i Y-> ∃τ,(f v Y=.ok .next τ∨f v Y=.ok .cont τ)/\Q (i+1) τ) {Y:St} (q:Q 0 Y): ∃τ,cU f l Y=.ok .next τ/\Q l.length τ:=by
 induction l generalizing Q Y with
 |nil=>exact aH Y rfl q
 |cons a l ih=>exact ay (step 0 a Y rfl q) λτ e q1=>ay (ih (Q:=λi=>Q (i+1)) (λi v Y h q=>step (i+1) v Y h q) q1) λρ e2 q2=>aH ρ (bS e e2) q2
theorem sV (ha:a<=4096) (hb:b<=4096):cG [it a,it b]=some ((TR (b-a)).map λk:Nat=>(a:Int)+(k:Int)):=by
 have e:((b:Int)-(a:Int)).toNat=b-a:=by exact (Ln.n2 0x58b04040b3c13c0)
 refine (?_:(if (jj (a:Int)&&jj (b:Int)&&decide ((b:Int)-(a:Int)<=4096))=true then some ((TR ((b:Int)-(a:Int)).toNat).map _) else none)=_);refine (ug ha).symm▸((ug hb).symm▸ ?_);refine (dT (show (b:Int)-(a:Int)<=4096 by exact (Ln.n2 0x185488208212cf04f014220820840) hb)).symm▸((e).symm▸ ?_);rfl
theorem Ar {b:Nat} (h:a=(b:Int)-1) (hb:b<=4096):cG [.int a,.int (-1),.int (-1)]=some ((TR b).map λk:Nat=>a-(k:Int)):=by
 have e:(a- -1).toNat=b:=by exact (Ln.z [_] [_] 0x6160102ce2210172c884f000) h
 refine (?_:(if (jj a&&jj (-1)&&decide (a- -1<=4096))=true then some ((TR (a- -1).toNat).map _) else none)=_);refine (show jj a=true from decide_eq_true (by exact (Ln.z [_] [_] 0x6184888208208208208208208208214405088208210172c884f000) h hb)).symm▸((dT (show a- -1<=4096 by exact (Ln.z [_] [_] 0x1861522082084b3888405088208210172c884f000) h hb)).symm▸ ?_);refine (e).symm▸ ?_;rfl
section
variable {K:Fn->List J->U->aA U J} {t:Mn} {b:Ss} {Q:Nat->St->Prop} {n:Nat} {Y:St}
theorem lU (hr:cG x=some ((TR n).map g)) (q:Q 0 Y) (step: ∀i Y,i<n->Q i Y-> ∃τ,(cA K t b (.int (g i)) Y=.ok .next τ∨cA K t b (.int (g i)) Y=.ok .cont τ)/\Q (i+1) τ): ∃τ,jg K t b x Y=.ok .next τ/\Q n τ:=by
 refine ay (KI (f:=cA K t b) (l:=((TR n).map g).map .int) (Q:=Q) (λi v Y h q=>by
  replace h:=(SA)▸h;replace h:=(SA)▸h;by_cases z:i<n;·rw [Zv z] at h;obtain rfl:=Sm h;exact step i Y z q
  ·replace h:=(Ua (by rw [US];exact SJ z))▸h;cases h) q) λτ e h=> ?_;rw [Sp,Sp,US] at h;refine aH τ ?_ h;unfold jg;exact (hr).symm▸(e)
end
/-!numbers -/
noncomputable def adT:Ss:=(bf (aM gz 1)).2
noncomputable def adg:Ss:=(bf (aM (bf (aM gz 1)).2 0)).2
noncomputable abbrev numsOf (MS:List (List Meta)):List Nat:=MS.flatten.map Meta.num
section
variable (n:Nat) (hs:U) (P:Nat)
theorem PI (a c:J): ∀(ms:List Meta) (acc:List Nat) (x:J),acc.length+ms.length<=4096-> ∀{R_:Prop} (k_: ∀x',cU (cA (ak n) (.name 3) adg) (bQ ms) ⟨[a,.ref P,c,x],hs.set P (.O (its acc))⟩=.ok .next ⟨[a,.ref P,c,x'],hs.set P (.O (its (acc++ms.map Meta.num)))⟩->R_),R_:=by
 intro l_;induction l_ with
 |nil=>exact @λacc x z z k_=>k_ x (by rw [ab6,Ti];rfl)
 |cons m ms aG=>
  exact @λacc x h z k_=>by
   have h':(acc++[m.num]).length+ms.length<=4096:=by rw [Sq,TU,Uz [m.num].length];exact h
   refine aG (k_:=λx' e=> ?_) (acc++[m.num]) (fy m) h';rw [SG] at e;refine k_ x' (bS (.inl ?_) e);have H:(hs.set P (.O (its acc))).set P (.O (its acc++[it m.num]))=hs.set P (.O (its (acc++[m.num]))):=by rw [U.set_set,its,its,SX];rfl
   exact bg λZ=>Z _ (U.bA _ _ _) _ (U.bA _ _ _) (by rw [its,Sp];exact Sx (UL (Ul _)) h) _ H
theorem Oi (a:J): ∀(MS:List (List Meta)) (acc:List Nat) (x y:J),acc.length+(numsOf MS).length<=4096-> ∀{R_:Prop} (k_: ∀x' y',cU (cA (ak n) (.name 2) adT) (MS.map λms=>.O (bQ ms)) ⟨[a,.ref P,x,y],hs.set P (.O (its acc))⟩=.ok .next ⟨[a,.ref P,x',y'],hs.set P (.O (its (acc++numsOf MS)))⟩->R_),R_:=by
 intro l_;induction l_ with
 |nil=>exact @λacc x y u u k_=>k_ x y (by rw [show numsOf []=[] from rfl,Ti];rfl)
 |cons ms MS aG=>
  exact @λacc x y h u k_=>by
   have e0:numsOf (ms::MS)=ms.map Meta.num++numsOf MS:=by rw [numsOf,Vu,SX]
   rw [e0,Sq,<-TU] at h;refine PI (k_:=λz e1=> ?_) n hs P a (.O (bQ ms)) ms acc y (Sl (Ub (by rw [Sp])) (Sl (SI _ _) h));refine aG (k_:=λx' y' e=> ?_) (acc++ms.map Meta.num) (.O (bQ ms)) z (by rw [(Sq)];exact h);rw [SG,<-e0] at e;refine k_ x' y' (bS (.inl ?_) e);exact bg λH=>H _ _ e1
end
theorem Bg (n:Nat) (hs:U) (few:(numsOf MS).length<64) (nd:(numsOf MS).Nodup) {R_:Prop} (k_: ∀l aJ,ak (n+1) (.of 102) [gQ cnt MS] hs=.ok (.O (its l)) aJ->bG hs aJ->l.Pairwise (· < ·)->l.length=(numsOf MS).length->R_):R_:=by
 refine wR (k_:=λl e1 e2 e3=> ?_) few nd;refine Oi (k_:=λx y e=> ?_) n (hs.new (.O [])) hs.n (gQ cnt MS) MS [] .ah .ah (Sl (Tj (by rw [WX,TX];exact few)) (by decide));let h1:=hs.new (.O (its (numsOf MS)));rw [U.fN,U.fN,WW] at e;have e4:((match h1.h hs.n with
  |some (.O l)=>some l
  |_=>none:Option (List J))).bind kh=some (its l):=by exact (show h1.h hs.n=some (.O (its (numsOf MS))) from U.bR _ _).symm▸(e1)
 exact k_ l h1.bY (aF λH=>H _ _ e _ e4 _ _ (aS (cH _))) ((bG.new _ _).trans (bG.bY _)) e3 e2.length_eq
structure VOk (MS:List (List Meta)):Prop where
 key: ∀ms∈MS,∀m∈ms,eF m.lo/\eF m.hi/\ ¬0<kc m.lo m.hi
 zero: ∀ms:List Meta,MS[0]? =some ms->ms.Pairwise λm m'=>m.num<m'.num
 deep: ∀(l:Nat) (ms:List Meta),0<l->MS[l]? =some ms->ms.Pairwise λm m'=>blt (ku m.hi) (ku m'.lo)=true
 nd:(numsOf MS).Nodup
 few:(numsOf MS).length<64
 lv: ∀ms∈MS,ms.length<=90
theorem Bu (n:Nat) (hs:U) (h:eF a):ak (n+1) (.of 13) [.bytes a] hs=.ok (.bytes (ku a)) hs:=by refine dM h λu t cK z=> ?_;clear h;subst cK;rw [wh];exact dI n hs u t
theorem LI (i:Nat):((i+1:Nat):Int)-1=(i:Int):=cD (c:=1) rfl
noncomputable def ad6:Ss:=(bf (aM iy 1)).2
noncomputable def Sd:Ss:=(bf (aM iy 2)).2
noncomputable def ad8:Ss:=(bf (aM Sd 1)).2
theorem jY {ms:List Meta} {i:Nat} {m:Meta} (Y:U) (h:ms[i]? =some m):cz Y (.O (bQ ms)) (it i)=some (fy m):=jo Y (by refine (SA).symm▸ ?_;refine (h).symm▸ ?_;rfl)
theorem lR {MS:List (List Meta)} {i:Nat} {ms:List Meta} (Y:U) (h:MS[i]? =some ms):cz Y (qk MS) (it i)=some (.O (bQ ms)):=jo Y (by refine (SA).symm▸ ?_;refine (h).symm▸ ?_;rfl)
theorem K7 {α:Type} {R:α->α->Prop} {l:List α} (h:l.Pairwise R) {a b:α} (ha:l[i]? =some a) (hb:l[i+1]? =some b):R a b:=by obtain ⟨h1,e1⟩:=Sj.mp ha;obtain ⟨h2,e2⟩:=Sj.mp hb;refine (e1)▸((e2)▸ ?_);exact Th.mp h i (i+1) h1 h2 (SQ i)
theorem FI (n:Nat) (hs:U) (hc:MS.length=cnt) (c8:cnt<=8) (V:VOk MS) {R_:Prop} (k_: ∀aJ,ak (n+5) (.of 104) [gQ cnt MS] hs=.ok .none aJ->bG hs aJ->R_):R_:=by
 refine Bg (k_:=λnums h1 e1 x1 up hl=> ?_) (n+3) hs (cnt:=cnt) V.few V.nd;let v:=gQ cnt MS;obtain ⟨τ,e2,x,rfl⟩:=lU (K:=ak (n+4)) (t:=.name 2) (b:=ad6) (n:=nums.length-1) (Y:=⟨[v,.O (its nums),.ah,.ah,.ah,.ah,.ah],h1⟩) (Q:=λg Y=> ∃x,Y=⟨[v,.O (its nums),x,.ah,.ah,.ah,.ah],h1⟩) (sV (show 1<=4096 by decide) (Sl (Tj (hl▸V.few)) (by decide))) ⟨_,rfl⟩ λi Y hi q=>by obtain ⟨x,rfl⟩:=q;have j1:i+1<nums.length:=Nat.add_lt_of_lt_sub hi;refine aQ λcT k_1=> ?_;obtain ⟨a,ha⟩: ∃a,nums[i]? =some a:=⟨_,Sn (UH j1)⟩;obtain ⟨b,hb⟩: ∃b,nums[i+1]? =some b:=⟨_,Sn j1⟩;have lt:=K7 up ha hb;have c:(1:Int)+(i:Int)=((i+1:Nat):Int):=Zo _ _;refine k_1 (⟨⟨[v,.O (its nums),it (i+1),.ah,.ah,.ah,.ah],h1⟩,.inl ?_,_,rfl⟩);rw [show (((1:Nat):Int)+(i:Int))=((i+1:Nat):Int) from c];exact bg λZ=>Z ((it a)) (by rw [LI];exact jo h1 (by rw [its,SA,ha];rfl)) ((it b)) (jo h1 (by rw [its,SA,hb];rfl)) false (uE (SY lt))
 obtain ⟨τ,e3,y2,y3,y4,y5,y6,rfl⟩:=fK (K:=ak (n+4)) (t:=.name 3) (b:=Sd) (n:=cnt) (Y:=⟨[v,.O (its nums),x,.ah,.ah,.ah,.ah],h1⟩) (Q:=λg Y=> ∃x y z u w,Y=⟨[v,.O (its nums),x,y,z,u,w],h1⟩) (Sl c8 (by decide)) (aeA _ _ _ _ _ rfl) λj Y hj q=>by
  refine aaj q λa2 a3 a4 a5 a6 ad0=> ?_;clear q;subst ad0;obtain ⟨ms,hms⟩: ∃ms,MS[j]? =some ms:=⟨_,Sn (hc▸hj)⟩;have mm:=Sk hms;clear hj;obtain ⟨τ,e,b2,b5,b6,rfl⟩:=fK (K:=ak (n+4)) (t:=.name 2) (b:=ad8) (n:=ms.length) (Y:=⟨[v,.O (its nums),a2,it j,.O (bQ ms),a5,a6],h1⟩) (Q:=λg Y=> ∃x y z,Y=⟨[v,.O (its nums),x,it j,.O (bQ ms),y,z],h1⟩) (Sl (V.lv ms mm) (by decide)) (Ho _ _ _ rfl) λi Y hi q=>by
   obtain ⟨c2,c5,c6,rfl⟩:=q;obtain ⟨m,hm⟩: ∃m,ms[i]? =some m:=⟨_,Sn hi⟩;refine g8 (V.key ms mm m (Sk hm)) λk1 k2 k3=> ?_;have ec:=qu n h1 k1 k2;let L (c5 c6:J):List J:=[v,.O (its nums),it i,it j,.O (bQ ms),c5,c6];have M1:bK h1 cS (.of 0)=some (.of 39):=rfl;cases i with
   |zero=>exact ⟨⟨L (fy m) c6,h1⟩,.inr (bg λZ=>Z _ (jY h1 hm) _ M1 _ ec _ (dF k3) _ rfl),_,_,_,rfl⟩
   |succ i=>
    obtain ⟨m',hm'⟩: ∃m',ms[i]? =some m':=⟨_,Sn (UH hi)⟩;refine g8 (V.key ms mm m' (Sk hm')) λg k2' g=> ?_;have im:cz h1 (.O (bQ ms)) (.int (((i+1:Nat):Int)-1))=some (fy m'):=by rw [LI];exact jY h1 hm'
    refine ⟨⟨L (fy m) (fy m'),h1⟩,.inl ?_,_,_,_,rfl⟩;cases j with
    |zero=>have lt:=K7 (V.zero ms hms) hm' hm;exact bg λZ=>Z _ (jY h1 hm) _ M1 _ ec _ (dF k3) _ (uE (Uv i)) _ im _ rfl _ (BJ lt)
    |succ j=>exact bg λZ=>Z _ (jY h1 hm) _ M1 _ ec _ (dF k3) _ (uE (Uv i)) _ im _ (uE (Uv j)) _ (Bu (n+3) h1 k2') _ (Bu (n+3) h1 k1) false (by refine ((K7 (V.deep (j+1) ms (Ul j) hms) hm' hm)).symm▸ ?_;rfl)
  replace e:=((Sp _:(bQ ms).length=ms.length)).symm▸e;refine ⟨⟨[v,.O (its nums),b2,it j,.O (bQ ms),b5,b6],h1⟩,.inl ?_,_,_,_,_,_,rfl⟩;exact bg λZ=>Z _ (lR h1 hms) _ _ e
 replace e2:=((Sp _:(its nums).length=nums.length)).symm▸e2;exact k_ h1 (aF λZ=>Z _ rfl _ e1 _ _ e2 _ _ e3) x1
structure rq where
 es:List En
 I:qQ
 x:Nat
 S:List Nat
 p:Nat
structure Ws (M:Nat) (l:List rq) (hs:U):Prop where
 wk: ∀w∈l,Wk M w.es w.I/\Di w.es
 inv: ∀w∈l,w.I w.x w.S w.p hs
 Pk: ∀(i j:Nat) (w v:rq) (y:Nat),l[i]? =some w->l[j]? =some v->y∈w.S->y∈v.S->i=j
section
variable {M:Nat} {l k:List rq} {hs aJ:U}
theorem Ws.own (W:Ws M l hs) (hw:w∈l): ∀y∈w.S,y<hs.n:=((W.wk w hw).1.GU M (Sv _)).own (W.inv w hw)
theorem Ws.keep (W:Ws M l hs) (hn:hs.n<=aJ.n) (h: ∀w∈l,∀y∈w.S,aJ.h y=hs.h y):Ws M l aJ:=⟨W.wk,λw hw=>((W.wk w hw).1.GU M (Sv _)).frame (W.inv w hw) hn (h w hw),W.Pk⟩
theorem Ws.ext (W:Ws M l hs) (e:bG hs aJ):Ws M l aJ:=W.keep e.n λz hw y hy=>e.h y (W.own hw y hy)
theorem Ws.append (W:Ws M l hs) (e:bG hs aJ) (V:Ws M k aJ) (new: ∀w∈k,∀y∈w.S,hs.n<=y):Ws M (l++k) aJ where
 wk w hw:=(SW.mp hw).elim (W.wk w) (V.wk w)
 inv w hw:=(SW.mp hw).elim ((W.ext e).inv w) (V.inv w)
 Pk i j w v y hi hj hw hv:=by
  by_cases a:i<l.length;·
   rw [Un a] at hi;by_cases b:j<l.length;·rw [Un b] at hj;exact W.Pk i j w v y hi hj hw hv
   ·rw [TG (SJ b)] at hj;exact absurd (W.own (Sk hi) y hw) (Ux.mpr (new v (Sk hj) y hv))
  ·rw [TG (SJ a)] at hi;by_cases b:j<l.length;·rw [Un b] at hj;exact absurd (W.own (Sk hj) y hv) (Ux.mpr (new w (Sk hi) y hw))
   ·rw [TG (SJ b)] at hj;have:=V.Pk _ _ w v y hi hj hw hv;refine (TS (SJ a))▸((this).symm▸ ?_);refine (TS (SJ b)).symm▸ ?_;rfl
theorem Ws.one (hw:Wk M w.es w.I/\Di w.es) (I:w.I w.x w.S w.p hs):Ws M [w] hs where
 wk v hv:=Sy.mp hv▸hw
 inv v hv:=Sy.mp hv▸I
 Pk i j _ _ _ hi hj _ _:=by have a:=(Sj.mp hi).1;have b:=(Sj.mp hj).1;exact (Xu.mp a).trans (Xu.mp b).symm
theorem Ws.move (W:Ws M l hs) {w:rq} (hi:l[i]? =some w) {S:List Nat} (I:w.I w.x S p aJ) (mv:Mv w.S hs S aJ):Ws M (l.set i ⟨w.es,w.I,w.x,S,p⟩) aJ:=by
 have bP: ∀{j:Nat} {v:rq},(l.set i ⟨w.es,w.I,w.x,S,p⟩)[j]? =some v->(j=i/\v=⟨w.es,w.I,w.x,S,p⟩)∨(j≠i/\l[j]? =some v):=λ{j v} h=>by
  by_cases z:i=j;·subst z;rw [Ue ((Sj.mp hi).1)] at h;exact .inl ⟨rfl,(Sm h).symm⟩
  ·rw [Uq z] at h;exact .inr ⟨λq=>z q.symm,h⟩
 have no: ∀{j:Nat} {v:rq} {y:Nat},j≠i->l[j]? =some v->y∈S->y∈v.S->False:=λ{j v y} hj hv h1 h2=>(mv.s y h1).elim (λq=>hj (W.Pk i j w v y hi hv q h2).symm) λq=>absurd (W.own (Sk hv) y h2) (Ux.mpr q);refine ⟨λv hv=> ?_,λv hv=> ?_,λa b v u y ha hb hy hz=> ?_⟩;·
  obtain ⟨j,hj⟩:=TJ.mp hv;rcases bP hj with ⟨_,rfl⟩|⟨_,hj⟩;·exact W.wk w (Sk hi)
  ·exact W.wk v (Sk hj)
 ·obtain ⟨j,hj⟩:=TJ.mp hv;rcases bP hj with ⟨_,rfl⟩|⟨nj,hj⟩;·exact I
  ·have hv:=Sk hj;exact ((W.wk v hv).1.GU M (Sv _)).frame (W.inv v hv) mv.n λy hy=>mv.h y (W.own hv y hy) λq=>nj (W.Pk i j w v y hi hj q hy).symm
 ·rcases bP ha with ⟨ea,qa⟩|⟨na,ka⟩;·
   rcases bP hb with ⟨eb,qb⟩|⟨nb,kb⟩;·exact ea.trans eb.symm
   ·rw [qa] at hy;exact (no nb kb hy hz).elim
  ·rcases bP hb with ⟨eb,qb⟩|⟨nb,kb⟩;·rw [qb] at hz;exact (no na ka hz hy).elim
   ·exact W.Pk a b v u y ka kb hy hz
end
/-!the walkers of a file and of a level -/
noncomputable abbrev G:=List En×Nat
noncomputable def e0:En:=⟨0,0,0,0,0⟩
noncomputable def top (p:List En):En:=p.getD (p.length-1) e0
noncomputable def aP (g:G):File:=⟨⟨g.2,(gP (aU g.1) (ky (top g.1))).length,ky (g.1.getD 0 e0),ky (top g.1)⟩,aU g.1⟩
structure Es (es:List En):Prop where
 ok: ∀e∈es,e.Ok
 rG:PT es
 s3:Di es
 pos:0<es.length
 few:es.length<=8
theorem Es.fit (E:Es es):LU (aU es) (ky (top es)):=by
 have h:es[es.length-1]? =some (top es):=by have:=Sn (U0 E.pos TV);rw [this,top,SR,this];rfl
 exact HU E.ok E.few h
theorem Q6 (E:Es es):Wk 12 es (TI (wT (aU es) (ky (top es)))) where
 GU N hN:=EK E.fit N (Sl (by decide) hN)
 off N hN x S hs I:=by refine fU (Us (Sl (show 9<=12 by decide) hN)) λn nR=> ?_;clear hN;subst nR;exact tu (OP E.fit) (N:=n+6) (TA _ _) (by rw [sL,bN];exact I)
 ok:=E.ok
 rG:=E.rG
 pos:=E.pos
 few:=E.few
theorem jD: ∀gs:List G,(gs.map aP).flatMap File.R=aU (gs.map TH).flatten:=by
 intro l_;induction l_ with
 |nil=>exact rfl
 |cons g gs aG=>exact by refine (?_:aU g.1++(gs.map aP).flatMap File.R=aU (g.1++(gs.map TH).flatten));rw [aG,aU,aU,aU,SX]
theorem Qo {gs:List G} (E:Es (gs.map TH).flatten) (L:Lev (gs.map aP) t) (g0:0<gs.length):Wk 12 (gs.map TH).flatten (TI (wL (gs.map aP) t)) where
 GU N hN:=by rw [<-jD];exact Mc L (by rw [Sp];exact g0) N hN
 off N hN x S hs I:=by refine fU (Us hN) λn nR=> ?_;clear hN;subst nR;exact tu (OJ L (by rw [Sp];exact g0)) (N:=n+9) (TA _ _) (by rw [yp L,jD,bN];exact I)
 ok:=E.ok
 rG:=E.rG
 pos:=E.pos
 few:=E.few
theorem Oa (hs:U) (L:Lev fs t):TI (wL fs t) (hs.n+2) [hs.n+2,hs.n] (fs.flatMap File.R).length ((hs.new (xe (ju fs) (-1))).bY.new (yH (wL fs t) hs.n .none [])):=by
 refine .inr ⟨⟨hs.n,[hs.n],[],U.bR _ _,SQ _,⟨rfl,Tu (Tu (SQ _)),?_,-1,?_,.inr ⟨?_,λq=>absurd q.1 (by decide)⟩⟩,λq=> ?_,.inl ⟨rfl,rfl⟩,rfl⟩,by rw [yp L]⟩;·exact Ub (cR _)
 ·exact (U.fh (SY (Tu (SQ _)))).trans (((bG.bY _).h hs.n (SQ _)).trans (U.bR _ _))
 ·exact cR _
 ·exact absurd (Sy.mp q) (UG (Tu (SQ _)))
noncomputable abbrev vM (GS:List (List G)):List (List Meta):=GS.map λgs=>ju (gs.map aP)
structure VG (GS:List (List G)) (t:List (Int×J)):Prop where
 lev: ∀gs∈GS,Lev (gs.map aP) t
 es: ∀gs∈GS,∀g∈gs,Es g.1
 deep: ∀(l:Nat) (gs:List G),0<l->GS[l]? =some gs->0<gs.length->Es (gs.map TH).flatten
noncomputable abbrev aW (l:List rq):List J:=l.map λw=>eX w.x
structure It (b:U) (P:Nat) (l:List rq) (hs:U):Prop where
 bP:hs.h P=some (.O (aW l))
 P0:b.n<=P
 P1:P<hs.n
 ext:bG b hs
 ws:Ws 12 l hs
 new: ∀w∈l,w.p=w.es.length/\ ∀y∈w.S,P<y
theorem It.add (aa:It b P l hs) {w:rq} (e:bG hs h1) (hw:Wk 12 w.es w.I/\Di w.es) (I:w.I w.x w.S w.p h1) (new: ∀y∈w.S,hs.n<=y) (hp:w.p=w.es.length):It b P (l++[w]) (h1.set P (.O (aW l++[eX w.x]))):=by
 have nw: ∀v∈l++[w],v.p=v.es.length/\ ∀y∈v.S,P<y:=λv hv=>(SW.mp hv).elim (aa.new v) λh=>by exact (Sy.mp h).symm▸(⟨hp,λy hy=>Sx aa.P1 (new y hy)⟩)
 refine ⟨by rw [U.bA,aW,aW,SX];rfl,aa.P0,Sx aa.P1 e.n,(aa.ext.trans e).set aa.P0,(aa.ws.append e (Ws.one hw I) λv hv=>by exact (Sy.mp hv).symm▸(new)).keep (Sv _) λv hv y hy=>U.bM (UG ((nw v hv).2 y hy)),nw⟩
noncomputable def ad7:Ss:=(bf (aM fj 1)).2
noncomputable def ael:Ss:=(bf (aM fj 2)).2
theorem wQ:bD (A++[p])=bD A++bD [p]:=by rw [bD,SX,List.filter_append];rfl
theorem Ad (h:0<p.flatten.length):bD [p]=[p.flatten]:=by
 refine (?_:acv _ [p.flatten]=_);cases e:p.flatten with
 |nil=>replace h:=(e)▸h;cases h
 |cons a b=>rfl
theorem mZ (n:Nat) (hs:U) {g0:List G} {GD:List (List G)} {t:List (Int×J)} (hc:GD.length+1=cnt) (c8:cnt<=8) (V:VG (g0::GD) t) {R_:Prop} (k_: ∀l aJ,ak (n+6) (.of 103) [gQ cnt (vM (g0::GD)),dc t] hs=.ok (.O (aW l)) aJ->bG hs aJ->Ws 12 l aJ->(∀w∈l,w.p=w.es.length/\ ∀y∈w.S,hs.n<=y)->l.map rq.es=g0.reverse.map TH++bD (GD.map λgs=>gs.map TH)->R_):R_:=by
 let P:=hs.n;let v:=gQ cnt (vM (g0::GD));let m0:=ju (g0.map aP);have L0:=V.lev g0 (.head _);have m0l:m0.length=g0.length:=by refine (?_:((g0.map aP).map File.m).length=_);rw [Sp,Sp]
 have C9:g0.length<=90:=by have:=L0.few;rw [Sp] at this;exact this
 have ll:(bQ m0).length=g0.length:=(Sp _).trans m0l;have a0: ∀Y,cz Y (qk (vM (g0::GD))) (.int 0)=some (.O (bQ m0)):=λY=>lR Y (i:=0) rfl;obtain ⟨τ,e1,l1,h1,x3,rfl,J1,es1,Qw⟩:=lU (K:=ak (n+5)) (t:=.name 3) (b:=ad7) (n:=g0.length) (Y:=⟨[v,dc t,.ref P,.ah,.ah,.ah],hs.new (.O [])⟩) (x:=[.int (((bQ m0).length:Int)-1),.int (-1),.int (-1)]) (g:=λk:Nat=>((bQ m0).length:Int)-1-(k:Int)) (Q:=λi Y=> ∃l h x,Y=⟨[v,dc t,.ref P,x,.ah,.ah],h⟩/\It hs P l h/\l.map rq.es=(g0.reverse.take i).map TH/\l.length=i) (Ar (by rw [ll]) (Sl C9 (by decide))) (N2 _ _ _ rfl (⟨U.bR _ _,Sv _,SQ _,bG.new _ _,⟨λu h=>(nomatch h),λu h=>(nomatch h),λu u u u u h=>((by cases h))⟩,λu h=>(nomatch h)⟩:It hs P [] (hs.new (.O []))) rfl rfl) λi Y hi q=>by
  refine aQ λcT k_1=> ?_;obtain ⟨l,h,x,rfl,aa,he,hl⟩:=q;have hr:g0.reverse[i]? =g0[g0.length-1-i]? :=WY hi;obtain ⟨g,hg⟩: ∃g,g0[g0.length-1-i]? =some g:=⟨_,Sn (by exact (Ln.n2 0x61204b00b221052040) hi)⟩;replace hr:=(hg)▸hr;have mg:=Sk hg;have E:=V.es g0 (.head _) g mg;let f:=aP g;have hm:m0[g0.length-1-i]? =some f.m:=by show ((g0.map aP).map File.m)[_]? =_;rw [SA,SA,hg];rfl
  have ei:((bQ m0).length:Int)-1-(i:Int)=((g0.length-1-i:Nat):Int):=by rw [ll];exact (Ln.n2 0x6173cb00b22104b3c02c884f052040) hi
  have ai:cz h (.O (bQ m0)) (.int (((bQ m0).length:Int)-1-(i:Int)))=some (fy f.m):=by rw [ei];exact jY h hm
  refine uh (k_:=λh2 e2 I x2=> ?_) (L0.tab f (TZ mg)) n h;have J2:=aa.add (w:=⟨g.1,TI (wT f.R f.m.hi),h.n+1,[h.n+1,h.n],g.1.length⟩) x2 ⟨Q6 E,E.s3⟩ (by have:=I;rw [show f.R.length=g.1.length from bN _] at this;exact this) (λy hy=>by
   cases hy with
   |head=>exact T8 _
   |tail _ hy=>rw [Sy.mp hy];exact Sv _) rfl;refine k_1 (⟨⟨[v,dc t,.ref P,.int (((bQ m0).length:Int)-1-(i:Int)),.ah,.ah],h2.set P (.O (aW l++[eX (h.n+1)]))⟩,.inl ?_,_,_,_,rfl,J2,by rw [SX,he,take_snoc hr,SX];rfl,by rw [Sq,hl];rfl⟩);exact bg λZ=>Z _ aa.bP _ rfl _ (a0 h) _ ai _ e2 _ ((x2.h P aa.P1).trans aa.bP) (by rw [Sp,hl];exact Sx hi (Sl C9 (by decide))) _ rfl
 obtain ⟨τ,e2,l2,h2,x4,x5,rfl,J2,es2,ade⟩:=lU (K:=ak (n+5)) (t:=.name 4) (b:=ael) (n:=cnt-1) (Y:=⟨[v,dc t,.ref P,x3,.ah,.ah],h1⟩) (x:=[it 1,it cnt]) (Q:=λi Y=> ∃l h x y,Y=⟨[v,dc t,.ref P,x3,x,y],h⟩/\It hs P l h/\l.map rq.es=g0.reverse.map TH++bD ((GD.take i).map λgs=>gs.map TH)/\l.length<=90+i) (sV (show 1<=4096 by decide) (Sl c8 (by decide))) (AU l1 h1 _ _ rfl J1 (by refine (es1).symm▸((Wg)▸ ?_);exact (U9).symm▸((Ti _).symm)) (by rw [Qw];exact C9)) λi Y hi q=>by
  refine vC q λl h x y J5 aa he hl=> ?_;clear q;subst J5;obtain ⟨gs,hg⟩: ∃gs,GD[i]? =some gs:=⟨_,Sn (by exact (Ln.n3 0x1861200248b221042581288840) hc hi)⟩;have hG:(g0::GD)[i+1]? =some gs:=hg;have L:=V.lev gs (Sk hG);let m:=ju (gs.map aP);have hm:(vM (g0::GD))[i+1]? =some m:=by rw [SA,hG];rfl
  have lm:(bQ m).length=gs.length:=by refine (?_:(((gs.map aP).map File.m).map fy).length=_);rw [Sp,Sp,Sp]
  have af: ∀Y,cz Y (qk (vM (g0::GD))) (it (i+1))=some (.O (bQ m)):=λY=>lR Y hm;have snoc:bD ((GD.take (i+1)).map λgs=>gs.map TH)=bD ((GD.take i).map λgs=>gs.map TH)++bD [gs.map TH]:=by rw [take_snoc hg,SX];exact wQ
  refine ((Zo _ _)).symm▸((snoc).symm▸ ?_);by_cases z:0<gs.length;·
   have E:=V.deep (i+1) gs (Ul i) hG z;rw [Ad E.pos,<-SG];let fs:=gs.map aP;let k1:=h.new (xe m (-1));let k3:=k1.bY;let k4:=k3.new (yH (wL fs t) h.n .none []);have x4:bG h k4:=((bG.new h _).trans (bG.bY _)).trans (bG.new _ _);have I:=Oa h L;have J2:=aa.add (w:=⟨(gs.map TH).flatten,TI (wL fs t),h.n+2,[h.n+2,h.n],(gs.map TH).flatten.length⟩) x4 ⟨Qo E L z,E.s3⟩ (by rw [jD,bN] at I;exact I) (λy hy=>by
    cases hy with
    |head=>exact SI _ _
    |tail _ hy=>rw [Sy.mp hy];exact Sv _) rfl;let H:=k4.set P (.O (aW l++[eX (h.n+2)]));refine ⟨⟨[v,dc t,.ref P,x3,it (i+1),BK h.n],H⟩,.inl ?_,_,_,_,_,rfl,J2,by rw [SX,he];rfl,by rw [Sq];exact Tw hl 1⟩;exact bg λZ=>Z _ (af h) _ (by exact (lm).symm▸(dW z):mY 0 (bQ m).length=true) _ (af h) _ (gq rfl rfl) _ (((bG.new h _).h P aa.P1).trans aa.bP) _ (gq rfl rfl) _ _ (lC rfl) _ (gq rfl rfl) _ ((x4.h P aa.P1).trans aa.bP) (by rw [Sp];exact SD hl (by exact (Ln.n2 0x1861222082084a048aa548b221001508a00) c8 hi):(aW l).length<4096) _ rfl
  ·have Lz:gs=[]:=Yk (WU z);have lm0:(bQ m).length=0:=by refine (lm).symm▸((Lz).symm▸ ?_);rfl
   refine ⟨⟨[v,dc t,.ref P,x3,it (i+1),y],h⟩,.inl ?_,_,_,_,_,rfl,aa,by refine (he).symm▸((Lz).symm▸ ?_);exact (congrArg _ (Ti _).symm),Tp hl⟩;exact bg λZ=>Z _ (af h) _ (by refine (lm0).symm▸ ?_;rfl:mY 0 (bQ m).length=false)
 have fin:aq false 8 (.ref P) h2=some (.O (aW l2),h2.del P):=zQ J2.bP (Tc.mpr λv hv=>by refine ay (Tr.mp hv) λw u adW=> ?_;clear hv;subst adW;rfl);refine k_ l2 (h2.del P) (aF λZ=>Z _ (a0 _) _ _ e1 _ _ e2 _ _ fin) (J2.ext.del (Sv _)) (J2.ws.keep (Sv _) λw hw y hy=>U.j6 (UG ((J2.new w hw).2 y hy))) (λw hw=>⟨(J2.new w hw).1,λy hy=>Tj ((J2.new w hw).2 y hy)⟩) ?_;rw [es2,Vn (by exact (Ln.n2 0x1850b221040581288840) hc)]
/-!the newest write, in lists from the newest gf on -/
noncomputable def kB (u:Nat) (es:List En) (i:Nat):Option En:=match es[i]? with
 |some e=>if e.u=u then some e else none
 |none=>none
noncomputable def qx (u q:Nat) (es:List En):Option En:=kB u es (lH es u q 1)
theorem oB (h:kB u es i=some m):es[i]? =some m/\m.u=u:=by
 unfold kB at h;cases e:es[i]? with
 |none=>replace h:=(e)▸h;cases h
 |some a=>
  replace h:=(e)▸h;by_cases z:a.u=u;·
   replace h:=(show (match some a with
    |some e=>if e.u=u then some e else none
    |none=>none)=some a from if_pos z)▸h;obtain rfl:=Sm h;exact ⟨rfl,z⟩
  ·replace h:=(show (match some a with
    |some e=>if e.u=u then some e else none
    |none=>none)=none from if_neg z)▸h;cases h
theorem wH (h:es[i]? =some m) (hu:m.u=u):kB u es i=some m:=by unfold kB;exact (h).symm▸(if_pos hu)
theorem gR (h: ∀m,es[i]? =some m->m.u≠u):kB u es i=none:=by
 cases e:kB u es i with
 |none=>rfl
 |some m=>exact absurd (oB e).2 (h m (oB e).1)
section
variable {es:List En} (E:Es es) {u q:Nat}
include E
theorem sA (h:es[i]? =some a):i<lH es u q 1↔lex (l3 a) (K3 u q 1)=true:=jT (p:=λe=>lex (l3 e) (K3 u q 1)) (E.s3.imp λh h2=>lex_trans h h2) h
theorem AI (h:qx u q es=none): ∀e∈es,e.u=u-> ¬e.q<=q:=λe he hu hq=>by
 obtain ⟨i,hi⟩:=TJ.mp he;have k1:=(E.ok e he).k;have ge:lH es u q 1<=i:=SJ λx=>(λx=>by rw [uL] at x;exact (Ln.n5 0x186186096996994842215820d2083581012040508844503096040) hu hq k1 x) ((sA E hi).mp x);have li:=(Sj.mp hi).1;have hm:=Sn (SD ge li);have nm: ¬lex (l3 (es[lH es u q 1]'(SD ge li))) (K3 u q 1)=true:=λx=>To _ ((sA (u:=u) (q:=q) E hm).mpr x);have mu:(es[lH es u q 1]'(SD ge li)).u=u:=by
  rw [uL] at nm;rcases Tt ge with z|z;·have:=Th.mp E.s3 _ _ (SD ge li) li z;rw [uL,show es[i]=e from (Sj.mp hi).2] at this;exact (Ln.n8 0x1861858109a65a65214758419210658009200271a65a6521488561034840d6042481096040) hu nm this
  ·rw [<-z] at hi;rw [hi] at hm;exact (Sm hm)▸(hu)
 rw [qx,wH hm mu] at h;cases h
theorem Iq (h:qx u q es=some m):m∈es/\m.u=u/\m.q<=q/\ ∀e∈es,e.u=u->e.q<=q->e.q<=m.q:=by
 refine dD (oB h) λhm mu=> ?_;have nm: ¬lex (l3 m) (K3 u q 1)=true:=λx=>To _ ((sA (u:=u) (q:=q) E hm).mpr x);rw [uL] at nm;refine ⟨Sk hm,mu,by exact (Ln.n5 0x1861408371a65a6521088560c2483096040481016040) mu nm,λe he hu hq=> ?_⟩;obtain ⟨i,hi⟩:=TJ.mp he;have k1:=(E.ok e he).k;rcases Tt (SJ λx=>(λx=>by rw [uL] at x;exact (Ln.n5 0x186186096996994842215820d2083581012040508844503096040) hu hq k1 x) ((sA E hi).mp x):lH es u q 1<=i) with z|z;·obtain ⟨a1,a2⟩:=Sj.mp hm;obtain ⟨b1,b2⟩:=Sj.mp hi;have:=Th.mp E.s3 _ _ a1 b1 z;rw [uL,a2,b2] at this;exact (Ln.n7 0x186185040da65a6521855840d2103582012080581096040) mu hu this
 ·rw [<-z,hm] at hi;rw [Sm hi];exact Sv _
end
structure Ed (hist:List En) (ls:List (List En)):Prop where
 mem: ∀l∈ls,∀e∈l,e∈hist
 all: ∀e∈hist,∃l∈ls,e∈l
 rise:ls.Pairwise λl l'=> ∀a∈l,∀b∈l',a.s<b.s
 es: ∀l∈ls,Es l
noncomputable def GN (u q:Nat) (e:En):Bool:=e.u==u&&decide (e.q<=q)
theorem mF:GN u q e=true↔e.u=u/\e.q<=q:=by unfold GN;rw [U3,beq_iff_eq,decide_eq_true_iff]
theorem Ge (H:lD hist sh) (T:Ed hist ls) (u q:Nat):ls.findSome? (qx u q)=hist.find? (GN u q):=by
 cases h:ls.findSome? (qx u q) with
 |none=>refine (ZH.mpr λe he hp=> ?_).symm;obtain ⟨hu,hq⟩:=mF.mp hp;exact ay (T.all e he) λl hl he=>AI (T.es l hl) (List.findSome?_eq_none_iff.mp h l hl) e he hu hq
 |some m=>
  refine xJ (List.findSome?_eq_some_iff.mp h) λl1 a l2 Kf ha hn=> ?_;clear h;subst Kf;have am:a∈l1++a::l2:=S9 _ (.head _);refine rP (Iq (T.es a am) ha) λm1 m2 m3 m4=>rY (ZJ (T.mem a am m m1)) λp s hps=>(List.find?_eq_some_iff_append.mpr ⟨mF.mpr ⟨m2,m3⟩,p,s,hps,λb hb=> ?_⟩).symm;cases z:GN u q b with
  |false=>rfl
  |true=>
   obtain ⟨bu,bq⟩:=mF.mp z;have dn:=H.down;have rs:=H.rise;rw [hps] at dn rs;have lt:=(Ug.mp dn).2.2 b hb m (.head _);have le:=(Ug.mp rs).2.2 b hb m (.head _) (bu.trans m2.symm);refine ay (T.all b (by rw [hps];exact TP _ hb)) λl hl bl=> ?_;rcases SW.mp hl with q1|q1;·exact absurd bq (AI (T.es l hl) (hn l q1) b bl bu)
   ·clear hl;cases q1 with
    |head=>exact absurd (m4 b bl bu bq) (WH.mpr lt)
    |tail _ q2=>exact absurd ((XI.mp (Ug.mp T.rise).2.1).1 l q2 m m1 b bl) (Ux.mpr le)
theorem uc (E:Es es) (he:e∈es):(es.getD 0 e0).u<=e.u/\e.u<=(top es).u:=by
 refine fU (TJ.mp he) λi hi=> ?_;obtain ⟨li,ei⟩:=Sj.mp hi;have P:=Th.mp E.s3;have bP: ∀j,(h:j<es.length)->es.getD j e0=es[j]:=λj h=>by rw [SR,Sn h];rfl
 have l1:=U0 E.pos TV;rw [top,bP 0 E.pos,bP _ l1];constructor;·
  clear hi;rcases ZO i with z|z;·subst z;rw [ei];exact Sv _
  ·have:=P 0 i E.pos li z;rw [uL,ei] at this;exact (Ln.n6 0x1850101a65a6521445830920c2581012040) this
 ·rcases Tt (Vw li) with z|z;·have:=P i _ li l1 z;rw [uL,ei] at this;exact (Ln.n6 0x1850101a65a6521445830920c2581012040) this
  ·rw [show es[es.length-1]=es[i] from by simp only [z],ei];exact Sv _
noncomputable abbrev vc (u q:Nat):B:=kb (jM u) (q*256+1)
section
variable {u q:Nat} (hu:u<5) (hq:q<2^56)
theorem HV {gs:List G} (h:gs[j]? =some g) (hi:i<g.1.length):(gs.map TH).flatten[((gs.take j).map TH).flatten.length+i]? =g.1[i]? :=by
 have e:gs=gs.take j++g::gs.drop (j+1):=by obtain ⟨l,e⟩:=Sj.mp h;rw [<-e,List.getElem_cons_drop,VU]
 conv=>lhs;rw [e,SX,Wh,<-e,TG (SI _ _),Vi]
 rw [UT,Vu,Un hi]
include hu hq in theorem K6 {gs:List G} (L:Lev (gs.map aP) t) (E:Es (gs.map TH).flatten): ∃j,Lb (xV (ju (gs.map aP))) (vc u q) j/\((j=gs.length/\qx u q (gs.map TH).flatten=none)∨ ∃g i,gs[j]? =some g/\Lb (aU g.1) (vc u q) i/\qx u q (gs.map TH).flatten=kB u g.1 i):=by
 let es:=(gs.map TH).flatten;let fs:=gs.map aP;let au:=xV (ju fs);let f:=fR (wL fs t);let p:=lH es u q 1;have fl:gE f au=aU es:=(uX L fs λv h=>h).trans (jD gs);have Ol:au.length=gs.length:=by rw [cR,ju,Sp,Sp]
 have lb:Lb (gE f au) (vc u q) p:=by rw [fl];exact yL E.ok E.s3 hu hq (Sv 1)
 have hl:tL f au:=DI L;by_cases z:p<(aU es).length;·
  refine locate (k_:=λj r i hr hi hp=> ?_) (f:=f) (au:=au) (Sv au.length) (show p<bh f au au.length by refine (gk).symm▸((fl).symm▸ ?_);exact z);have lj:=(Sj.mp hr).1;obtain ⟨g,hg⟩: ∃g,gs[j]? =some g:=⟨_,Sn (Ol▸lj)⟩;have hO:au[j]? =some ((aP g).m.hi,var (aP g).m.num):=by refine (?_:(xV (ju (gs.map aP)))[j]? =_);rw [xV,ju,Uo,Uo,SA,hg];rfl
  replace hr:=(hO)▸hr;have fr:f r=aU g.1:=by rw [<-Sm hr];refine (?_:(e9 fs (var (aP g).m.num)).R=_);refine (iM L (TZ (Sk hg))).symm▸ ?_;rfl
  have st:bh f au j=((gs.take j).map TH).flatten.length:=by
   have e:au.take j=xV (ju ((gs.take j).map aP)):=by refine (?_:(xV (ju (gs.map aP))).take j=_);rw [xV,xV,ju,ju,<-WL,<-WL,<-WL]
   rw [bh,e,uX L _ λx hx=>by refine ay (Tr.mp hx) λy hy uW=> ?_;clear hx;subst uW;exact TZ (V9 hy),jD,bN]
  have lo:=jq hl lb (Tj lj) (by refine (hp).symm▸ ?_;exact SI _ _) λv=>by refine (hp).symm▸((dP (hO.trans hr)).symm▸ ?_);exact Vj hi _
  have li:=A3 (((hp)▸(lb))) (hO.trans hr) (Tj hi);rw [fr] at li hi;rw [bN] at hi;refine aH j lo (.inr (jn g i hg li ?_));refine (?_:kB u es p=_);rw [kB,kB,hp,st,HV hg hi]
 ·have pe:p=es.length:=by rw [<-bN];exact VJ (by exact (fl)▸(lb.le)) (SJ z)
  refine aH au.length (jq hl lb (Sv _) (by refine (gk).symm▸((fl).symm▸ ?_);exact SJ z) λh=>absurd h (To _)) (.inl ⟨Ol,gR λm hm=> ?_⟩);have:=(Sj.mp hm).1;exact absurd this (by refine (show lH _ u q 1=p from rfl).symm▸((pe).symm▸ ?_);exact To _)
end
structure Cd where
 lvl:Nat
 g:G
 i:Nat
noncomputable def wN (c:Cd):J:=.bW [it c.lvl,fy (aP c.g).m]
structure Ot (u q:Nat) (t:List (Int×J)) (c:Cd):Prop where
 tab:getD c.g.2 t=some (iG (aU c.g.1) (ky (top c.g.1)))
 es:Es c.g.1
 lb:Lb (aU c.g.1) (vc u q) c.i
noncomputable abbrev qm (u:Nat) (c:Cd):Option En:=kB u c.g.1 c.i
theorem C8 {α γ:Type} {f:α->Option γ} {a:α}:[a].findSome? f=f a:=by
 refine (?_:(match f a with
  |some b=>some b
  |none=>none)=f a);cases f a<;>rfl
theorem EN {α β γ:Type} {f:α->Option γ} {g:β->Option γ} {as:List α} {bs:List β} {a:α} {b:β} (h:as.findSome? f=bs.findSome? g) (h2:f a=g b):(as++[a]).findSome? f=(bs++[b]).findSome? g:=by rw [WZ,WZ,h,C8,C8,h2]
theorem sH {β γ:Type} {g:β->Option γ} {bs:List β} {b:β} (h:g b=none):(bs++[b]).findSome? g=bs.findSome? g:=by rw [WZ,C8,h,Option.or_none]
noncomputable def adb:Ss:=(bf (aM eK 3)).2
noncomputable def adu:Ss:=(bf (aM eK 4)).2
theorem Dv (hu:u<5) (hv:v<5) (h:v<=u):(!blt (jM u) (jM v))=true:=by rw [oS u hu v hv,dF (Ux.mpr h)];rfl
theorem G5 (hu:u<5) (hv:v<5) (h:u<v):(!blt (jM u) (jM v))=false:=by rw [oS u hu v hv,dT h];rfl
theorem Pj (e:En):ku (ky e)=jM e.u:=wh _ _
theorem getD_mem {es:List En} {i:Nat} (h:i<es.length):es.getD i e0∈es:=by rw [SR,Sn h];exact Yi h
theorem uP (n:Nat) (hs:U) (hc:GD.length+1=cnt) (c8:cnt<=8) (V:VG (g0::GD) t) (hu:u<5) (hq:q<2^56) {R_:Prop} (k_: ∀(cs:List Cd) (aJ:U),ak (n+6) (.of 100) [gQ cnt (vM (g0::GD)),.bytes (vc u q)] hs=.ok (.O (cs.map wN)) aJ->bG hs aJ->(∀c∈cs,Ot u q t c)->cs.findSome? (qm u)=(g0.reverse.map TH++bD (GD.map λgs=>gs.map TH)).findSome? (qx u q)->R_):R_:=by
 let P:=hs.n;let v:=gQ cnt (vM (g0::GD));let ik:J:=.bytes (vc u q);let us:J:=.bytes (jM u);let m0:=ju (g0.map aP);let M0:J:=.O (bQ m0);let Hp (cs:List Cd):U:=hs.new (.O (cs.map wN));have L0:=V.lev g0 (.head _);have m0l:m0.length=g0.length:=by refine (?_:((g0.map aP).map File.m).length=_);rw [Sp,Sp]
 have C9:g0.length<=90:=by have:=L0.few;rw [Sp] at this;exact this
 have ll:(bQ m0).length=g0.length:=(Sp _).trans m0l;have tk:eF (vc u q):=⟨_,_,rfl,lK hq (by decide)⟩;have hP: ∀cs,(Hp cs).h P=some (.O (cs.map wN)):=λcs=>U.bR _ _;have hA: ∀(cs:List Cd) (c:Cd),(Hp cs).set P (.O (cs.map wN++[wN c]))=Hp (cs++[c]):=λcs c=>by refine (?_:(hs.new _).set hs.n _=hs.new _);rw [U.fN,SX];rfl
 obtain ⟨τ,e1,cs1,x5,x6,rfl,ok1,fs1,Qw⟩:=lU (K:=ak (n+5)) (t:=.name 5) (b:=adb) (n:=g0.length) (Y:=⟨[v,ik,us,.ref P,M0,.ah,.ah,.ah,.ah],Hp []⟩) (x:=[.int (((bQ m0).length:Int)-1),.int (-1),.int (-1)]) (g:=λk:Nat=>((bQ m0).length:Int)-1-(k:Int)) (Q:=λi Y=> ∃cs x y,Y=⟨[v,ik,us,.ref P,M0,x,y,.ah,.ah],Hp cs⟩/\(∀c∈cs,Ot u q t c)/\cs.findSome? (qm u)=((g0.reverse.take i).map TH).findSome? (qx u q)/\cs.length<=i) (Ar (by rw [ll]) (Sl C9 (by decide))) ⟨[],_,_,rfl,λw h=>((by cases h)),rfl,Sv _⟩ λi Y hi Q=>by
  obtain ⟨cs,x,y,rfl,ok,fs,hl⟩:=Q;have hr:g0.reverse[i]? =g0[g0.length-1-i]? :=WY hi;obtain ⟨g,hg⟩: ∃g,g0[g0.length-1-i]? =some g:=⟨_,Sn (by exact (Ln.n2 0x61204b00b221052040) hi)⟩;rw [hg] at hr;have mg:=Sk hg;have E:=V.es g0 (.head _) g mg;let m:=(aP g).m;let a:=g.1.getD 0 e0;let b:=top g.1;have oa:=E.ok a (getD_mem E.pos);have ob:=E.ok b (getD_mem (U0 E.pos TV));let ci:Int:=((bQ m0).length:Int)-1-(i:Int);have hm:m0[g0.length-1-i]? =some m:=by show ((g0.map aP).map File.m)[_]? =_;rw [SA,SA,hg];rfl
  have ei:ci=((g0.length-1-i:Nat):Int):=by refine (?_:((bQ m0).length:Int)-1-(i:Int)=_);rw [ll];exact (Ln.n2 0x6173cb00b22104b3c02c884f052040) hi
  have ai:cz (Hp cs) M0 (.int ci)=some (fy m):=by rw [ei];exact jY _ hm
  have ea:ak (n+5) (.of 13) [.bytes m.lo] (Hp cs)=.ok (.bytes (jM a.u)) (Hp cs):=dI (n+4) _ _ _;have eb:ak (n+5) (.of 13) [.bytes m.hi] (Hp cs)=.ok (.bytes (jM b.u)) (Hp cs):=dI (n+4) _ _ _;have snoc:(g0.reverse.take (i+1)).map TH=(g0.reverse.take i).map TH++[g.1]:=by rw [take_snoc hr,SX];rfl
  refine (snoc).symm▸ ?_;let Ls (x y:J):List J:=[v,ik,us,.ref P,M0,x,y,.ah,.ah];by_cases z1:u<a.u;·refine ⟨⟨Ls (.int ci) (fy m),Hp cs⟩,.inl ?_,cs,_,_,rfl,ok,fs.trans (sH (g:=qx u q) (b:=g.1) (gR λe he Mm=>absurd (uc E (Sk he)).1 (by rw [Mm];exact WH.mpr z1))).symm,Tp hl⟩;exact bg λZ=>Z _ ai _ ea _ (G5 hu oa.u z1) _ rfl
  ·by_cases z2:b.u<u;·refine ⟨⟨Ls (.int ci) (fy m),Hp cs⟩,.inl ?_,cs,_,_,rfl,ok,fs.trans (sH (g:=qx u q) (b:=g.1) (gR λe he Mm=>absurd (uc E (Sk he)).2 (by rw [Mm];exact WH.mpr z2))).symm,Tp hl⟩;exact bg λZ=>Z _ ai _ ea _ (Dv hu oa.u (SJ z1)) _ eb _ (G5 ob.u hu z2)
   ·let c:Cd:=⟨0,g,lH g.1 u q 1⟩;refine ⟨⟨Ls (.int ci) (fy m),Hp (cs++[c])⟩,.inl ?_,cs++[c],_,_,rfl,λd hd=>(SW.mp hd).elim (ok d) λh=> ?_,EN fs rfl,by rw [Sq];exact Tw hl 1⟩;·exact bg λZ=>Z _ ai _ ea _ (Dv hu oa.u (SJ z1)) _ eb _ (Dv ob.u hu (SJ z2)) _ (hP cs) _ (hP cs) (by rw [Sp];exact SD hl (by exact (Ln.n2 0x1861222082084148005422a940) C9 hi)) _ (hA cs c)
    ·rw [Sy.mp h];exact ⟨L0.tab (aP g) (TZ mg),E,yL E.ok E.s3 hu hq (Sv 1)⟩
 obtain ⟨τ,e2,cs2,y5,y7,y8,rfl,ok2,fs2,ade⟩:=lU (K:=ak (n+5)) (t:=.name 7) (b:=adu) (n:=cnt-1) (Y:=⟨[v,ik,us,.ref P,M0,x5,x6,.ah,.ah],Hp cs1⟩) (x:=[it 1,it cnt]) (Q:=λi Y=> ∃cs x y z,Y=⟨[v,ik,us,.ref P,M0,x,x6,y,z],Hp cs⟩/\(∀c∈cs,Ot u q t c)/\cs.findSome? (qm u)=(g0.reverse.map TH++bD ((GD.take i).map λgs=>gs.map TH)).findSome? (qx u q)/\cs.length<=90+i) (sV (show 1<=4096 by decide) (Sl c8 (by decide))) ⟨cs1,_,_,_,rfl,ok1,by refine (fs1).symm▸((Wg)▸ ?_);exact (U9).symm▸(congrArg (aaY _) (Ti _).symm),Sl Qw C9⟩ λi Y hi Q=>by
  refine vC Q λcs x y z0 J5 ok fs hl=> ?_;clear Q;subst J5;obtain ⟨gs,hg⟩: ∃gs,GD[i]? =some gs:=⟨_,Sn (by exact (Ln.n3 0x1861200248b221042581288840) hc hi)⟩;have hG:(g0::GD)[i+1]? =some gs:=hg;have mg:=Sk hG;have L:=V.lev gs mg;let ms:=ju (gs.map aP);let MS:J:=.O (bQ ms);have hm:(vM (g0::GD))[i+1]? =some ms:=by rw [SA,hG];rfl
  have lm:(bQ ms).length=gs.length:=by refine (?_:(((gs.map aP).map File.m).map fy).length=_);rw [Sp,Sp,Sp]
  have c:((1:Nat):Int)+(i:Int)=((i+1:Nat):Int):=Zo _ _;have af: ∀Y,cz Y (qk (vM (g0::GD))) (it (i+1))=some MS:=λY=>lR Y hm;have snoc:bD ((GD.take (i+1)).map λgs=>gs.map TH)=bD ((GD.take i).map λgs=>gs.map TH)++bD [gs.map TH]:=by rw [take_snoc hg,SX];exact wQ
  rw [c,snoc,<-SG];have hk: ∀m∈ms,eF m.hi:=λm hm=>by obtain ⟨f,hf,rfl⟩:=sD hm;exact (L.ok f hf).fit.tk
  have few:ms.length<=90:=by rw [show ms.length=(gs.map aP).length from Sp _];exact L.few
  let Ls (x y z:J):List J:=[v,ik,us,.ref P,M0,x,x6,y,z];by_cases z:0<gs.length;·
   have E:=V.deep (i+1) gs (Ul i) hG z;rw [Ad E.pos];obtain ⟨j,lb,h⟩:=K6 hu hq L E;have ef:=m7 n (Hp cs) hk tk few lb;rcases h with ⟨hj,hn⟩|⟨g,i',hgj,li,ha⟩;·refine ⟨⟨Ls (it j) (it (i+1)) MS,Hp cs⟩,.inl ?_,cs,_,_,_,rfl,ok,fs.trans (sH hn).symm,Tp hl⟩;exact bg λZ=>Z _ (af _) _ ef _ (by rw [lm];exact dg (Ub hj.symm):mY j (bQ ms).length=false) _ rfl
   ·have mgj:=Sk hgj;have Eg:=V.es gs mg g mgj;let m:=(aP g).m;let a:=g.1.getD 0 e0;have oa:=Eg.ok a (getD_mem Eg.pos);have hmj:ms[j]? =some m:=by refine (?_:((gs.map aP).map File.m)[j]? =_);rw [SA,SA,hgj];rfl
    have jl:mY j (bQ ms).length=true:=by rw [lm];exact dW (Sj.mp hgj).1
    have am:=jY (Hp cs) hmj;have ea:ak (n+5) (.of 13) [.bytes m.lo] (Hp cs)=.ok (.bytes (jM a.u)) (Hp cs):=dI (n+4) _ _ _;by_cases z1:u<a.u;·refine ⟨⟨Ls (it j) (it (i+1)) MS,Hp cs⟩,.inl ?_,cs,_,_,_,rfl,ok,fs.trans (sH (ha.trans (gR λe he Mm=>absurd (uc Eg (Sk he)).1 (by rw [Mm];exact WH.mpr z1)))).symm,Tp hl⟩;exact bg λZ=>Z _ (af _) _ ef _ jl _ am _ ea _ (G5 hu oa.u z1)
    ·let d:Cd:=⟨i+1,g,i'⟩;refine ⟨⟨Ls (it j) (it (i+1)) MS,Hp (cs++[d])⟩,.inl ?_,cs++[d],_,_,_,rfl,λd hd=>(SW.mp hd).elim (ok d) λh=> ?_,EN fs ha.symm,by rw [Sq];exact Tw hl 1⟩;·exact bg λZ=>Z _ (af _) _ ef _ jl _ am _ ea _ (Dv hu oa.u (SJ z1)) _ (hP cs) _ am _ (hP cs) (by rw [Sp];exact SD hl (by exact (Ln.n2 0x1861222082084a048aa548b221001508a00) c8 hi)) _ (hA cs d)
     ·rw [Sy.mp h];exact ⟨L.tab (aP g) (TZ mgj),Eg,li⟩
  ·have Lz:gs=[]:=Yk (WU z);have lm0:(bQ ms).length=0:=by rw [lm,Lz];rfl
   have ef:=m7 n (Hp cs) hk tk few (q:=0) ⟨Tq _,λw w h=>absurd h (UK _),λr h=>by have:=(Sj.mp h).1;rw [cR,<-show (bQ ms).length=ms.length from Sp _,lm0] at this;exact absurd this (UK _),λi r w h=>by have:=(Sj.mp h).1;rw [cR,<-show (bQ ms).length=ms.length from Sp _,lm0] at this;exact absurd this (UK _)⟩;refine ⟨⟨Ls (it 0) (it (i+1)) MS,Hp cs⟩,.inl ?_,cs,_,_,_,rfl,ok,by rw [fs,Lz];exact congrArg (aaY _) (Ti _).symm,Tp hl⟩;exact bg λZ=>Z _ (af _) _ ef _ (by rw [lm0];rfl:mY 0 (bQ ms).length=false) _ rfl
 refine k_ cs2 hs.bY (aF λZ=>Z _ (dI (n+4) _ _ _) _ (lR _ (i:=0) rfl) _ _ e1 _ _ e2 _ _ (aS (Tc.mpr λv hv=>by obtain ⟨c,_,rfl⟩:=Tr.mp hv;rfl))) (bG.bY hs) ok2 ?_;rw [fs2,Vn (by exact (Ln.n2 0x1850b221040581288840) hc)]
noncomputable def j4 (e:En):J:=if e.k=0 then .bW [.bool true,it 0,.bytes []] else .bW [.bool true,it 1,.bytes (vl e)]
noncomputable def aav:J:=.bW [.bool false,it 0,.bytes []]
noncomputable def NI (o:Option En):J:=match o with
 |some e=>j4 e
 |none=>aav
theorem H9: ∀u,u<5-> ∀v,v<5->decide (jM u=jM v)=decide (u=v):=by decide
noncomputable def B_g:Ss:=(bf (aM ni 1)).2
section
variable {cnt:Nat} {MS:List (List Meta)} {t:List (Int×J)} {u q:Nat} (hu:u<5)
include hu in theorem IT (n:Nat): ∀(cs:List Cd) (x1 x2 x3 x4 x5 x6:J) (hs:U),(∀c∈cs,Ot u q t c)->eF (vc u q)-> ∀{R_:Prop} (k_: ∀y1 y2 y3 y4 y5 y6 aJ,bG hs aJ->cU (cA (ak (n+8)) (.bW [5,6]) B_g) (cs.map wN) ⟨[gQ cnt MS,dc t,.bytes (jM u),it q,.bytes (vc u q),x1,x2,x3,x4,x5,x6],hs⟩=.ok (match cs.findSome? (qm u) with
 |some e=>.ret (j4 e)
 |none=>.next) ⟨[gQ cnt MS,dc t,.bytes (jM u),it q,.bytes (vc u q),y1,y2,y3,y4,y5,y6],aJ⟩->R_),R_:=by
 intro l_;induction l_ with
 |nil=>exact @λx1 x2 x3 x4 x5 x6 hs y y y k_=>k_ x1 x2 x3 x4 x5 x6 hs (.refl hs) rfl
 |cons c cs aG=>
  exact @λx1 x2 x3 x4 x5 x6 hs ok tk y k_=>by
   have oc:=ok c (.head _);have E:=oc.es;refine EW (k_:=λh1 e1 Qi=> ?_) oc.tab E.fit n hs tk oc.lb;let m:=(aP c.g).m;have M0:bK hs (dc t) (.of 12)=some (.of 83):=rfl;cases he:c.g.1[c.i]? with
   |none=>
    have ro:(aU c.g.1)[c.i]? =none:=by rw [aU,SA,he];rfl
    rw [FO,ro] at e1;have an:qm u c=none:=gR λm hm=>by replace hm:=(he)▸hm;cases hm
    refine aG (k_:=λy1 y2 y3 y4 y5 y6 h2 ex2 e2=> ?_) (it c.lvl) (fy m) .none x4 x5 x6 h1 (λd hd=>ok d (.tail _ hd)) tk;replace k_:=(show (c::cs).findSome? (qm u)=cs.findSome? (qm u) from by refine (Xv).symm▸ ?_;refine (an).symm▸ ?_;rfl)▸k_;refine k_ y1 y2 y3 y4 y5 y6 h2 (Qi.trans ex2) (bS (.inr ?_) e2);exact bg λZ=>Z _ M0 _ e1 _ rfl
   |some e=>
    have oe:=E.ok e (Sk he);have ro:(aU c.g.1)[c.i]? =some (ky e,vl e):=by rw [aU,SA,he];rfl
    rw [FO,ro] at e1;have hk:(e.q*256+e.k)%256=e.k:=by have:=oe.k;lia
    have e2:=tX (n+4) h1 (jM e.u) (t:=e.q*256+e.k) (lK (SD (SI _ 2) oe.q) (SD oe.k (by decide))) (by rw [hk];exact oe.k);rw [hk] at e2;let s:=(e.q*256+e.k)/256;let W:J:=.bW [.bytes (ky e),.bytes (vl e)];have is0:Td J.bool (rt h1 .is_ W .none)=some (.bool false):=rfl;by_cases z:e.u=u;·
     have an:qm u c=some e:=wH he z;rw [show (c::cs).findSome? (qm u)=some e from by rw [Xv,an]] at k_;have eq:decide (jM e.u=jM u)=true:=by rw [H9 _ oe.u _ hu,dT z]
     by_cases k0:e.k=0;·refine k_ (it c.lvl) (fy m) W (.bytes (jM e.u)) (it s) (it e.k) h1 Qi (jI ?_);rw [show j4 e=.bW [.bool true,it 0,.bytes []] from if_pos k0];exact bg λZ=>Z _ M0 _ e1 _ is0 _ rfl _ rfl _ e2 _ eq _ (Cz k0)
     ·refine k_ (it c.lvl) (fy m) W (.bytes (jM e.u)) (it s) (it e.k) h1 Qi (jI ?_);rw [show j4 e=.bW [.bool true,it 1,.bytes (vl e)] from if_neg k0];exact bg λZ=>Z _ M0 _ e1 _ is0 _ rfl _ rfl _ e2 _ eq _ (uE k0) _ rfl
    ·have an:qm u c=none:=gR λm hm=>by rw [he] at hm;exact (Sm hm)▸(z)
     refine aG (k_:=λy1 y2 y3 y4 y5 y6 h2 ex2 e3=> ?_) (it c.lvl) (fy m) W (.bytes (jM e.u)) (it s) (it e.k) h1 (λd hd=>ok d (.tail _ hd)) tk;replace k_:=(show (c::cs).findSome? (qm u)=cs.findSome? (qm u) from by rw [Xv,an])▸k_;refine k_ y1 y2 y3 y4 y5 y6 h2 (Qi.trans ex2) (bS (.inl ?_) e3);exact bg λZ=>Z _ M0 _ e1 _ is0 _ rfl _ rfl _ e2 false (by refine (H9 _ oe.u _ hu).symm▸((dF z).symm▸ ?_);rfl)
end
theorem NV (n:Nat) (hs:U) (hc:GD.length+1=cnt) (c8:cnt<=8) (V:VG (g0::GD) t) (hu:u<5) (hq:q<2^56) {R_:Prop} (k_: ∀aJ,ak (n+9) (.of 101) [gQ cnt (vM (g0::GD)),dc t,.bytes (jM u),it q] hs=.ok (NI ((g0.reverse.map TH++bD (GD.map λgs=>gs.map TH)).findSome? (qx u q))) aJ->bG hs aJ->R_):R_:=by
 have e1:=u7 (n+5) hs (u:=jM u) hq (Sl yV (by decide));refine uP (k_:=λcs h2 e2 x2 ok fs=> ?_) (n+2) hs.bY.bY hc c8 V hu hq;refine IT (k_:=λy1 y2 y3 y4 y5 y6 h3 x3 e3=> ?_) (cnt:=cnt) (MS:=vM (g0::GD)) hu n cs .ah .ah .ah .ah .ah .ah h2 ok (gv _ _ rfl (lK hq (by decide)));have M0:bK hs.bY.bY (gQ cnt (vM (g0::GD))) (.of 30)=some (.of 100):=rfl;rw [<-fs] at k_;refine k_ h3 ?_ (((bG.bY hs).trans (bG.bY _)).trans (x2.trans x3));cases h:cs.findSome? (qm u) with
 |none=>replace e3:=(h)▸e3;exact aF λZ=>Z _ e1 _ M0 _ e2 _ _ e3
 |some e=>rw [h] at e3;exact aF λZ=>Z _ e1 _ M0 _ e2 _ _ e3
/-!the RW own answer -/
noncomputable def acA:Ss:=(bf (aM oX 0)).2
theorem BA (n:Nat) (a:J) (u q:Nat): ∀(es:List En) (x:J) (hs:U),(∀e∈es,e.Ok)-> ∀{R_:Prop} (k_: ∀y aJ,bG hs aJ->cU (cA (ak (n+1)) (.name 3) acA) (aV es) ⟨[a,it u,neg q,x],hs⟩=.ok (match es.find? (GN u q) with
 |some e=>.ret (j4 e)
 |none=>.next) ⟨[a,it u,neg q,y],aJ⟩->R_),R_:=by
 intro l_;induction l_ with
 |nil=>exact @λx hs z z k_=>k_ x hs (.refl hs) rfl
 |cons e es aG=>
  exact @λx hs ok z k_=>by
   have i0:cz hs e.v (it 0)=some (it e.u):=nO hs rfl;have i1:cz hs e.v (it 1)=some (neg e.q):=nO hs rfl;have i2:cz hs e.v (it 2)=some (neg e.k):=nO hs rfl;by_cases z1:e.u=u;·
    by_cases z2:e.q<=q;·
     have w:GN u q e=true:=mF.mpr ⟨z1,z2⟩;have m1:decide (-(q:Int)<= -(e.q:Int))=true:=dT (Int.neg_le_neg (UN.mpr z2));replace k_:=(Y7 w)▸k_;refine aQ λcT k_1=> ?_;by_cases k0:e.k=0;·refine k_1 (k_ e.v hs (.refl hs) (jI ?_));rw [show j4 e=.bW [.bool true,it 0,.bytes []] from if_pos k0];exact bg λZ=>Z _ i0 _ (Cz z1) _ i1 _ m1 _ i2 true (by refine (k0).symm▸ ?_;rfl)
     ·refine k_1 (k_ e.v hs.bY (bG.bY hs) (jI ?_));rw [show j4 e=.bW [.bool true,it 1,.bytes (vl e)] from if_neg k0];exact bg λZ=>Z _ i0 _ (Cz z1) _ i1 _ m1 _ i2 _ (dF (by exact (Ln.n1 0x1871720e3c0716200) k0)) _ (qw n hs (ok e (.head _)))
    ·have w: ¬GN u q e=true:=λh=>z2 (mF.mp h).2;replace k_:=(U7 w)▸k_;refine aG (k_:=λy h2 x2 e2=> ?_) e.v hs λd hd=>ok d (.tail _ hd);refine k_ y h2 x2 (bS (.inl ?_) e2);exact bg λZ=>Z _ i0 _ (Cz z1) _ i1 _ (dF (by exact (Ln.n2 0x1871538f00e3c1714040) z2))
   ·have w: ¬GN u q e=true:=λh=>z1 (mF.mp h).1;replace k_:=(U7 w)▸k_;refine aG (k_:=λy h2 x2 e2=> ?_) e.v hs λd hd=>ok d (.tail _ hd);refine k_ y h2 x2 (bS (.inl ?_) e2);exact bg λZ=>Z _ i0 _ (uE z1) _ rfl
theorem CB (n:Nat) (hs:U) (ok: ∀e∈es,e.Ok) (u q:Nat) {R_:Prop} (k_: ∀aJ,ak (n+2) (.of 35) [pV es,it u,neg q] hs=.ok (NI (es.find? (GN u q))) aJ->bG hs aJ->R_):R_:=by
 refine BA (k_:=λy h1 x1 e1=> ?_) n (pV es) u q es .ah hs ok;refine k_ h1 ?_ x1;cases h:es.find? (GN u q) with
 |none=>replace e1:=(h)▸e1;exact aF λZ=>Z _ _ e1
 |some e=>rw [h] at e1;exact aF λZ=>Z _ _ e1
theorem Own.base (au:Own b' P cs ls hs) (e:bG b b'):Own b P cs ls hs where
 bP:=au.bP
 cells:=au.cells
 nd:=au.nd
 no:=au.no
 P0:=Sl e.n au.P0
 P1:=au.P1
 c0 c hc:=Sl e.n (au.c0 c hc)
 c1:=au.c1
 ext:=e.trans au.ext
theorem Own.off (au:Own b P cs ls hs) (hx:b.n<=x) (h1:x≠P) (h2:x∉cs):Own b P cs ls (hs.set x o) where
 bP:=(U.bM h1.symm).trans au.bP
 cells:=cX au.cells λz hc=>U.bM (f6 hc h2)
 nd:=au.nd
 no:=au.no
 P0:=au.P0
 P1:=au.P1
 c0:=au.c0
 c1:=au.c1
 ext:=au.ext.set hx
theorem Own.abl (au:Own b P (c::cs) (l::ls) hs) (l':List J):Own b P (hs.n::cs) (l'::ls) ((hs.new (.O l')).set P (.O (.ref hs.n::cs.map .ref))) where
 bP:=U.bA _ _ _
 cells:=⟨(U.bM (UG au.P1)).trans (U.bR _ _),cX au.cells.2 λy hy=>(U.bM (f6 (.tail c hy) au.no)).trans (U.fh (SY (au.c1 y (.tail _ hy))))⟩
 nd:=Uj.mpr ⟨λh=>To _ (au.c1 _ (.tail _ h)),(Uj.mp au.nd).2⟩
 no h:=by
  cases h with
  |head=>exact To _ au.P1
  |tail _ h=>exact au.no (.tail _ h)
 P0:=au.P0
 P1:=Tu au.P1
 c0 y hy:=by
  cases hy with
  |head=>exact au.ext.n
  |tail _ h=>exact au.c0 y (.tail _ h)
 c1 y hy:=by
  cases hy with
  |head=>exact SQ _
  |tail _ h=>exact Tu (au.c1 y (.tail _ h))
 ext:=(au.ext.trans (bG.new _ _)).set au.P0
structure Bd (b:U) (cnt:Nat) (cs:List Nat) (GS:List (List G)) (t:List (Int×J)) (hs:U):Prop where
 own:Own b (b.n+3) cs ((vM GS).map bQ) hs
 lo: ∀c∈cs,b.n+3<c
 hC:hs.h b.n=some (.cj (xP (b.n+1)))
 hT:hs.h (b.n+1)=some (.gU t)
 hV:hs.h (b.n+2)=some (.cj (yY cnt (.ref (b.n+3))))
section
variable {b:U} {cnt:Nat} {cs:List Nat} {GS:List (List G)} {t:List (Int×J)} {hs aJ:U}
theorem Bd.n3 (D:Bd b cnt cs GS t hs):b.n+3<hs.n:=D.own.P1
theorem Bd.frame (D:Bd b cnt cs GS t hs) (e:bG hs aJ):Bd b cnt cs GS t aJ:=have h:=D.n3;⟨D.own.frame e,D.lo,(e.h _ (by exact (Ln.n2 0x6120404812888c0) h)).trans D.hC,(e.h _ (by exact (Ln.n2 0x184812888404812888c0) h)).trans D.hT,(e.h _ (by exact (Ln.n2 0x184812888804812888c0) h)).trans D.hV⟩
theorem Bd.table (D:Bd b cnt cs GS t hs) (t':List (Int×J)):Bd b cnt cs GS t' (hs.set (b.n+1) (.gU t')):=⟨D.own.off (T8 _) (by exact (Ln.n1 0x7162888c0288840)) λh=>by have:=D.lo _ h;exact (Ln.n1 0x182522888402888c0) this,D.lo,(U.bM (by exact (Ln.n1 0x1c58a221000))).trans D.hC,U.bA _ _ _,(U.bM (by exact (Ln.n1 0x716288840288880))).trans D.hV⟩
theorem Ql:(vM (GS.set j gs)).map bQ=((vM GS).map bQ).set j (bQ (ju (gs.map aP))):=by rw [vM,X4,X4]
theorem Bd.push (D:Bd b cnt cs GS t hs) (hj:cs[j]? =some c) (gs:List G):Bd b cnt cs (GS.set j gs) t (hs.set c (.O (bQ (ju (gs.map aP))))):=by have lo:=D.lo c (Sk hj);exact ⟨by rw [Ql];exact D.own.set hj _,D.lo,(U.bM (by exact (Ln.n2 0x187160404812888c0) lo)).trans D.hC,(U.bM (by exact (Ln.n2 0x61c5812888404812888c0) lo)).trans D.hT,(U.bM (by exact (Ln.n2 0x61c5812888804812888c0) lo)).trans D.hV⟩
theorem Bd.aa1 (D:Bd b cnt (c::cs) (g0::GS) t hs) (g:G):Bd b cnt (hs.n::cs) ((g::g0)::GS) t ((hs.new (.O (fy (aP g).m::bQ (ju (g0.map aP))))).set (b.n+3) (.O (.ref hs.n::cs.map .ref))):=by
 have h:=D.n3;refine ⟨D.own.abl _,λy hy=> ?_,(U.bM (by exact (Ln.n1 0x1c58a223000))).trans ((U.fh (by exact (Ln.n2 0x187160404812888c0) h)).trans D.hC),(U.bM (by exact (Ln.n1 0x7162888c0288840))).trans ((U.fh (by exact (Ln.n2 0x61c5812888404812888c0) h)).trans D.hT),(U.bM (by exact (Ln.n1 0x7162888c0288880))).trans ((U.fh (by exact (Ln.n2 0x61c5812888804812888c0) h)).trans D.hV)⟩;cases hy with
 |head=>exact h
 |tail _ hy=>exact D.lo y (.tail _ hy)
end
theorem Gg (n:Nat) (b:U) (small:cnt<=8) {R_:Prop} (k_: ∀cs H,ak (n+1) (.of 81) [.aI (.of 10) b.n,.none,ie,cS] (b.new (.cj []))=.ok .none (nn b (.cj (xP (b.n+1))) (.gU []))->ak (n+1) (.of 99) [.aI (.of 15) (b.n+2),it cnt,cS] ((nn b (.cj (xP (b.n+1))) (.gU [])).new (.cj []))=.ok .none H->Bd b cnt cs (Tf cnt []) [] H->R_):R_:=by let h1:=nn b (.cj (xP (b.n+1))) (.gU []);refine AZ (k_:=λcs H e au hx lo=> ?_) n h1 small;refine k_ cs H (Fe n b) e ⟨?_,lo,(au.ext.h b.n (Tu (SQ _))).trans (qp _ _ _),(au.ext.h (b.n+1) (SQ _)).trans (CH _ _ _),hx⟩;rw [vM,XJ,XJ];exact au.base ((bG.new b _).trans (bG.new _ _))
noncomputable def Ik:Ss:=(bf (aM cB 15)).2
noncomputable def rQ:Ss:=(bf (aM Ik 0)).2
noncomputable def LA (j:Nat->J) (cnt:Nat) (LS:List (List (List En))):List J:=[j 0,j 1,j 2,it cnt,j 4,j 5,BL LS]
noncomputable def bL (A:List J) (nz:List Nat) (x:Nat) (used:Nat) (l:J) (p d k m o:J):List J:=[A.getD 0 .none,A.getD 1 .none,A.getD 2 .none,A.getD 3 .none,A.getD 4 .none,A.getD 5 .none,A.getD 6 .none,.O (its nz),cS,ie,.aI (.of 10) x,.aI (.of 15) (x+2),it used,l,p,d,k,m,o,.ah,.ah,.ah,.ah,.ah,.ah,.ah,.ah,.ah,.ah]
section
variable {b:U} {cnt:Nat} {cs:List Nat} {GS:List (List G)} {t:List (Int×J)} {hs:U} {A:List J} {nz:List Nat} {used k l:Nat} {p:List En}
theorem EF (n:Nat) (D:Bd b cnt cs GS t hs) (E:Es p) (hk:nz[used]? =some k) (ht:t.length<4096) (d0 k0 m0 o:J) {R_:Prop} (k_: ∀h7,Bd b cnt cs GS (gJ k (iG (aU p) (ky (top p))) t) h7->(∀r,eB (ak (n+5)) (aM rQ 5) ⟨bL A nz b.n (used+1) (it l) (pV p) (.bytes (gP (aU p) (ky (top p)))) (it k) (fy (aP (p,k)).m) o,h7⟩=.ok .next r->cu (ak (n+5)) rQ ⟨bL A nz b.n used (it l) (pV p) d0 k0 m0 o,hs⟩=.ok .next r)->R_):R_:=by
 let R:=aU p;let tp:=ky (top p);let d:=gP R tp;let fst:=p.getD 0 e0;have l1:=U0 E.pos TV;have at0:p[0]? =some fst:=by rw [Sn E.pos];refine (?_:_=some (p.getD 0 e0));rw [SR,Sn E.pos];rfl
 have NQ:p[p.length-1]? =some (top p):=by rw [Sn l1,top,SR,Sn l1];rfl
 refine tV (k_:=λh1 e1 x1=> ?_) (n+2) hs E.ok E.few NQ;refine FJ (k_:=λh2 h3 e2 e3 x3=> ?_) n h1 E.fit;have D3:=D.frame (x1.trans x3);let t':=gJ (k:Int) (iG R tp) t;let h4:=h3.set (b.n+1) (.gU t');have e5:=lO (n+3) h4 (E.ok _ (Sk at0));let h5:=h4.iP 3;let h6:=h5.iP 3;let m:=(aP (p,k)).m;let K:=ak (n+5);let Z (used:Nat) (d k m:J):=bL A nz b.n used (it l) (pV p) d k m o;have s0:eB K (aM rQ 0) ⟨Z used d0 k0 m0,hs⟩=.ok .next ⟨Z used (.bytes d) k0 m0,h1⟩:=bH λZ=>Z _ e1;have s1:eB K (aM rQ 1) ⟨Z used (.bytes d) k0 m0,h1⟩=.ok .next ⟨Z used (.bytes d) (it k) m0,h1⟩:=bH λZ=>Z _ (jo h1 (by rw [its,SA,hk];rfl));have s2:eB K (aM rQ 2) ⟨Z used (.bytes d) (it k) m0,h1⟩=.ok .next ⟨Z (used+1) (.bytes d) (it k) m0,h1⟩:=bH λZ=>Z;have s3:eB K (aM rQ 3) ⟨Z (used+1) (.bytes d) (it k) m0,h1⟩=.ok .next ⟨Z (used+1) (.bytes d) (it k) m0,h4⟩:=bH λZ=>Z _ e2 _ _ e3 _ D3.hC _ D3.hT ht _ rfl;have s4:eB K (aM rQ 4) ⟨Z (used+1) (.bytes d) (it k) m0,h4⟩=.ok .next ⟨Z (used+1) (.bytes d) (it k) (fy m),h6.bY⟩:=bH λZ=>Z _ (pA h4 at0) _ e5 _ (by refine ((Sp _)).symm▸(((cD (c:=1) (TS E.pos).symm)).symm▸ ?_);exact pA h5 NQ:cz h5 (pV p) (.int (((aV p).length:Int)-1))=some (top p).v) _ (lO (n+3) h5 (E.ok _ (Sk NQ))) _ (gq rfl rfl) _ _ (lC rfl);exact k_ h6.bY ((D3.table t').frame (((bG.iP 3 h4).trans (bG.iP 3 h5)).trans (bG.bY h6))) (λr h=>bZ s0 (bZ s1 (bZ s2 (bZ s3 (bZ s4 (bZ h rfl))))))
end
section
variable {b:U} {cnt:Nat} {cs:List Nat} {GS:List (List G)} {t:List (Int×J)} {hs:U} {A:List J} {nz:List Nat} {used k l:Nat} {p:List En}
theorem Mp (n:Nat) (D:Bd b cnt (c::cs) (g0::GS) t hs) (E:Es p) (hk:nz[used]? =some k) (ht:t.length<4096) (hl:g0.length<4000) (d0 k0 m0 o:J) {R_:Prop} (k_: ∀cs' d k' m H,Bd b cnt cs' (((p,k)::g0)::GS) (gJ k (iG (aU p) (ky (top p))) t) H->cu (ak (n+5)) rQ ⟨bL A nz b.n used (it 0) (pV p) d0 k0 m0 o,hs⟩=.ok .next ⟨bL A nz b.n (used+1) (it 0) (pV p) d k' m o,H⟩->R_):R_:=by
 refine EF (k_:=λh D q=> ?_) n D E hk ht d0 k0 m0 o (A:=A) (l:=0);have Dt:=D.frame (bG.bY h);let m:=(aP (p,k)).m;let h8:=h.bY;let L:=fy m::bQ (ju (g0.map aP));let H:=(h8.new (.O L)).set (b.n+3) (.O (.ref h8.n::cs.map .ref));have x:=bG.new h8 (.O L);have lt:b.n+3<h8.n:=Dt.n3;have ll:L.length=g0.length+1:=by refine (?_:(((g0.map aP).map File.m).map fy).length+1=_);rw [Sp,Sp,Sp]
 have e2:oz h8 .add (.O [fy m]) (.ref c)=some L:=by
  have ic:items h8 (.ref c)=some (bQ (ju (g0.map aP))):=by
   refine (?_:(match h8.h c with
    |some (.O l)=>some l
    |_=>none:Option (List J))=_);refine ((Dt.own.cells.1)).symm▸ ?_;rfl
  refine (?_:(some [fy m]).bind (λl=>(items h8 (.ref c)).map λr=>l++r)=_);refine (ic).symm▸ ?_;rfl
 refine k_ (h8.n::cs) (.bytes (gP (aU p) (ky (top p)))) (it k) (fy m) H (Dt.aa1 (p,k)) (q _ ?_);exact bH λZ=>Z _ rfl _ _ (aS rfl) _ Dt.hV _ (ou Dt.own.bP rfl) _ e2 (by rw [ll];exact (Ln.n1 0x1850882082128884048882abc0) hl) _ ((x.h (b.n+2) (by exact (Ln.n2 0x184812888804812888c0) lt)).trans Dt.hV) _ ((x.h (b.n+3) (by exact (Ln.n2 0x184812888c04812888c0) lt)).trans Dt.own.bP) ⟨by decide,TM.mpr (Ul _)⟩ _ rfl
theorem Mb (n:Nat) (D:Bd b cnt cs GS t hs) (E:Es p) (hk:nz[used]? =some k) (ht:t.length<4096) (h0:0<l) (hc:cs[l]? =some c) (hg:GS[l]? =some gs) (hl:gs.length<4000) (d0 k0 m0 o:J) {R_:Prop} (k_: ∀d k' m H,Bd b cnt cs (GS.set l (gs++[(p,k)])) (gJ k (iG (aU p) (ky (top p))) t) H->cu (ak (n+5)) rQ ⟨bL A nz b.n used (it l) (pV p) d0 k0 m0 o,hs⟩=.ok .next ⟨bL A nz b.n (used+1) (it l) (pV p) d k' m o,H⟩->R_):R_:=by
 refine EF (k_:=λh D q=> ?_) n D E hk ht d0 k0 m0 o (A:=A) (l:=l);let m:=(aP (p,k)).m;let L:=bQ (ju (gs.map aP));have ll:L.length=gs.length:=by refine (?_:(((gs.map aP).map File.m).map fy).length=_);rw [Sp,Sp,Sp]
 refine lG (k_:=λL' hL hcl=> ?_) D.own.cells hc;rw [SA,vM,SA,hg] at hL;obtain rfl:=Sm hL;let H:=h.set c (.O (L++[fy m]));have DH:=D.push hc (gs++[(p,k)]);rw [show bQ (ju ((gs++[(p,k)]).map aP))=L++[fy m] from by rw [ju,bQ,SX,SX,SX];rfl] at DH;refine k_ (.bytes (gP (aU p) (ky (top p)))) (it k) (fy m) H DH (q _ ?_);exact bH λZ=>Z false (uE (UG h0)) ((.cj (yY cnt (.ref (b.n+3))))) D.hV ((.ref c)) (ou D.own.bP (by rw [SA,hc];rfl)) ((.O L)) hcl ((.O L)) hcl (by rw [ll];exact (Ln.n1 0x61222082084048882abc0) hl) H rfl
end
/-!what is known of numbers -/
theorem IY (k:Int) (v:J): ∀t:List (Int×J),getD k (gJ k v t)=some v:=by
 intro l_;induction l_ with
 |nil=>exact if_pos rfl
 |cons p_ t aG=>
  obtain ⟨j,w⟩:=p_;exact by
   refine (?_:getD k (if k=j then (j,v)::t else (j,w)::gJ k v t)=_);by_cases z:k=j;·rw [if_pos z];exact if_pos z
   ·rw [if_neg z];refine (?_:(if k=j then some w else getD k (gJ k v t))=_);rw [if_neg z];exact aG
theorem DS (h:j≠k) (v:J): ∀t:List (Int×J),getD j (gJ k v t)=getD j t:=by
 intro l_;induction l_ with
 |nil=>exact if_neg h
 |cons p_ t aG=>
  obtain ⟨i,w⟩:=p_;exact by
   refine (?_:getD j (if k=i then (i,v)::t else (i,w)::gJ k v t)=if j=i then some w else getD j t);by_cases z:k=i;·subst z;rw [if_pos rfl,if_neg h];exact if_neg h
   ·rw [if_neg z];refine (?_:(if j=i then some w else getD j (gJ k v t))=_);rw [aG]
theorem BF (k:Int) (v:J): ∀t:List (Int×J),(gJ k v t).length<=t.length+1:=by
 intro l_;induction l_ with
 |nil=>exact Sv _
 |cons p_ t aG=>
  obtain ⟨i,w⟩:=p_;exact by
   refine (?_:(if k=i then (i,v)::t else (i,w)::gJ k v t).length<=_);by_cases z:k=i;·rw [if_pos z];exact T8 _
   ·rw [if_neg z];exact Vc (aG)
theorem Aq {p:J->Bool} (k:Int) (hv:p v=true): ∀{t:List (Int×J)},(t.all λa=>p a.2)=true->((gJ k v t).all λa=>p a.2)=true:=by
 intro l_;induction l_ with
 |nil=>exact @λy=>by refine (?_:(p v&&true)=true);refine (hv).symm▸ ?_;rfl
 |cons p_ t aG=>
  obtain ⟨i,w⟩:=p_;exact @λh=>by
   obtain ⟨h1,h2⟩:=Su.mp h;refine (?_:((if k=i then (i,v)::t else (i,w)::gJ k v t).all _)=true);by_cases z:k=i;·rw [if_pos z];exact Su.mpr ⟨hv,h2⟩
   ·rw [if_neg z];exact Su.mpr ⟨h1,aG h2⟩
structure Ld (nz:List Nat) (GS:List (List G)) (D:List G) (t:List (Int×J)):Prop where
 perm:GS.flatten.Perm D
 dn:D.map Vz=nz.take D.length
 tab: ∀g∈D,getD g.2 t=some (iG (aU g.1) (ky (top g.1)))
 vals:(t.all λa=>solid 10 a.2)=true
 tl:t.length<=D.length
 es: ∀g∈D,Es g.1
section
theorem sU (L:Ld nz GS D t) (hg:g∈D) {R_:Prop} (k_: ∀(i:Nat),i<D.length->nz[i]? =some g.2->R_):R_:=by obtain ⟨i,hi⟩:=TJ.mp (L.dn▸TZ hg);have li:=(Sj.mp hi).1;rw [UM] at li;have l2:=Sx li (YC _ _);rw [Vf l2] at hi;exact k_ i l2 hi
theorem Ld.step (L:Ld nz GS D t) (nd:nz.Nodup) (hk:nz[D.length]? =some k) (E:Es p) (hp:GS'.flatten.Perm (D++[(p,k)])):Ld nz GS' (D++[(p,k)]) (gJ k (iG (aU p) (ky (top p))) t) where
 perm:=hp
 dn:=by rw [SX,L.dn,Sq];exact (take_snoc hk).symm
 tab g hg:=by
  rcases SW.mp hg with h|h;·refine sU (k_:=λi hi e=> ?_) L h;rw [DS (λq=> ?_) _ t];exact L.tab g h;obtain ⟨a1,a2⟩:=Sj.mp e;obtain ⟨b1,b2⟩:=Sj.mp hk;exact Th.mp nd i _ a1 b1 hi (by refine (a2).symm▸((b2).symm▸ ?_);exact VS q)
  ·exact (Sy.mp h).symm▸(IY _ _ t)
 vals:=Aq _ rfl L.vals
 tl:=by rw [Sq];exact Sl (BF _ _ t) (Vc L.tl)
 es g hg:=(SW.mp hg).elim (L.es g) λh=>by exact (Sy.mp h).symm▸(E)
theorem JD: ∀{GS:List (List G)} {l:Nat} {gs:List G},GS[l]? =some gs->(GS.set l (gs++[g])).flatten.Perm (GS.flatten++[g]):=by
 intro l_;induction l_ with
 |nil=>exact @λz z h=>by cases h
 |cons a GS aG=>
  intro m_;cases m_ with
  |zero=>exact @λgs h=>by obtain rfl:=Sm h;refine (?_:((a++[g])++GS.flatten).Perm (a++GS.flatten++[g]));rw [SG,SG];exact Zg.append_left a
  |succ l=>exact @λgs h=>by refine (?_:(a++(GS.set l (gs++[g])).flatten).Perm (a++GS.flatten++[g]));rw [SG];exact (aG h).append_left a
end
section
variable {b:U} {cnt:Nat} {A:List J} {nz:List Nat} (nd:nz.Nodup) (n:Nat)
include nd
theorem G6 (dec:(nz.take f).Pairwise (· > ·)) (few:nz.length<=60): ∀(ps:List (List En)) (g0 D:List G) (c:Nat) (cs:List Nat) (t:List (Int×J)) (hs:U) (x d k m o:J),(∀p∈ps,Es p)->Bd b cnt (c::cs) (g0::GD) t hs->Ld nz (g0::GD) D t->(g0.map Vz).Pairwise (· < ·)->D.length+ps.length<=f->f<=nz.length-> ∀{R_:Prop} (k_: ∀Lz D' cs' t' H x' d' k' m',cU (cA (ak (n+5)) (.name 14) rQ) (ps.map pV) ⟨bL A nz b.n D.length (it 0) x d k m o,hs⟩=.ok .next ⟨bL A nz b.n D'.length (it 0) x' d' k' m' o,H⟩->Bd b cnt cs' (Lz::GD) t' H->Ld nz (Lz::GD) D' t'->(Lz.map Vz).Pairwise (· < ·)->Lz.reverse.map TH=g0.reverse.map TH++ps->D'.length=D.length+ps.length->R_),R_:=by
 intro l_;induction l_ with
 |nil=>exact @λg0 D c cs t hs x d k m o z B L up z z z k_=>k_ g0 D (c::cs) t hs x d k m rfl B L up ((Ti _).symm) rfl
 |cons p ps aG=>
  exact @λg0 D c cs t hs x d k m o E B L up hf fn z k_=>by
   have lt:D.length<nz.length:=Sx (Sx (UL (Ul _)) hf) fn;obtain ⟨j,hj⟩: ∃j,nz[D.length]? =some j:=⟨_,Sn lt⟩;have gD:g0.length<=D.length:=by rw [<-L.perm.length_eq,Vu,Sq];exact SI _ _
   refine Mp (k_:=λcs1 d1 k1 m1 H1 B1 e1=> ?_) n B (E p (.head _)) hj (SD L.tl (by exact (Ln.n2 0x1861222082084148005422c8c0) few lt)) (by exact (Ln.n5 0x61861848882abc450111400350328205422c8c0) few hf fn gD) d k m o (A:=A);have up1:(((p,j)::g0).map Vz).Pairwise (· < ·):=XI.mpr ⟨λy hy=>by
    refine ay (Tr.mp hy) λg hg cK=> ?_;clear hy;subst cK;refine sU (k_:=λi hi e=> ?_) L (L.perm.subset (TP _ hg));have ff:D.length<f:=by have:(p::ps).length=ps.length+1:=rfl;exact (Ln.n4 0x61848201628884305408a040) hf this
    obtain ⟨b1,b2⟩:=Sj.mp ((Uc (Vf (TL hi ff)) (e)));obtain ⟨c1,c2⟩:=Sj.mp ((Uc (Vf ff) (hj)));have:=Th.mp dec i _ b1 c1 hi;rw [b2,c2] at this;exact this,up⟩;have ld:(D++[(p,j)]).length=D.length+1:=Sq;obtain ⟨c1,acM,rfl⟩: ∃a r,cs1=a::r:=by
    cases cs1 with
    |nil=>exact (B1.own.cells).elim
    |cons a r=>exact BX a r rfl
   refine aG ((p,j)::g0) (D++[(p,j)]) c1 acM _ H1 (pV p) d1 k1 m1 o (λq hq=>E q (.tail _ hq)) B1 (L.step nd hj (E p (.head _)) ((Zg (l₁:=[(p,j)]) (l₂:=(g0::GD).flatten)).trans (L.perm.append_right _))) up1 (by refine (ld).symm▸ ?_;have:(p::ps).length=ps.length+1:=rfl;exact (Ln.n4 0x1861408a0ca22101628884305408a040) hf this) fn λg' D' cs' t' H x' d' k' m' e2 B2 L2 up2 hr hd=> ?_;rw [ld] at e2 hd;refine k_ g' D' cs' t' H x' d' k' m' (bS (.inl e1) e2) B2 L2 up2 ?_ ?_;·rw [hr,List.reverse_cons,SX,SG];rfl
   ·rw [hd];have:(p::ps).length=ps.length+1:=rfl;exact (Ln.n3 0x1858a00228128884258a221040) this
end
section
variable {b:U} {cnt:Nat} {A:List J} {nz:List Nat} (nd:nz.Nodup) (n:Nat)
include nd
theorem Kq (few:nz.length<=60) (h0:0<l): ∀(ps:List (List En)) (gs:List G) (GS:List (List G)) (D:List G) (cs:List Nat) (t:List (Int×J)) (hs:U) (x d k m o:J),(∀p∈ps,Es p)->Bd b cnt cs GS t hs->Ld nz GS D t->GS[l]? =some gs->D.length+ps.length<=nz.length-> ∀{R_:Prop} (k_: ∀gs' D' t' H x' d' k' m',cU (cA (ak (n+5)) (.name 14) rQ) (ps.map pV) ⟨bL A nz b.n D.length (it l) x d k m o,hs⟩=.ok .next ⟨bL A nz b.n D'.length (it l) x' d' k' m' o,H⟩->Bd b cnt cs (GS.set l gs') t' H->Ld nz (GS.set l gs') D' t'->gs'.map TH=gs.map TH++ps->D'.length=D.length+ps.length->R_),R_:=by
 intro l_;induction l_ with
 |nil=>
  exact @λgs GS D cs t hs x d k m o z B L hg z z k_=>by
   have e:GS.set l gs=GS:=by obtain ⟨h1,h2⟩:=Sj.mp hg;exact (h2)▸(Zf h1)
   exact k_ gs D t hs x d k m rfl (by exact (e).symm▸(B)) (by exact (e).symm▸(L)) ((Ti _).symm) rfl
 |cons p ps aG=>
  exact @λgs GS D cs t hs x d k m o E B L hg fn z k_=>by
   have lp:(p::ps).length=ps.length+1:=rfl;have lt:D.length<nz.length:=by exact (Ln.n4 0x61848201628884305408a040) fn lp
   obtain ⟨j,hj⟩: ∃j,nz[D.length]? =some j:=⟨_,Sn lt⟩;have lg:=(Sj.mp hg).1;have cl:=ql B.own.cells;rw [Sp,vM,Sp] at cl;obtain ⟨c,hc⟩: ∃c,cs[l]? =some c:=⟨_,Sn (by rw [cl];exact lg)⟩;have gD:gs.length<=D.length:=by exact (L.perm.length_eq)▸((We (Sk hg)).length_le)
   refine Mb (k_:=λd1 k1 m1 H1 B1 e1=> ?_) n B (E p (.head _)) hj (SD L.tl (by exact (Ln.n2 0x1861222082084148005422c8c0) few lt)) h0 hc hg (by exact (Ln.n4 0x618612220aaf0d404350028205422c8c0) few fn gD) d k m o (A:=A);have ld:(D++[(p,j)]).length=D.length+1:=Sq;refine aG (gs++[(p,j)]) (GS.set l (gs++[(p,j)])) (D++[(p,j)]) cs _ H1 (pV p) d1 k1 m1 o (λq hq=>E q (.tail _ hq)) B1 (L.step nd hj (E p (.head _)) ((JD hg).trans (L.perm.append_right _))) (Ue lg) (by exact (ld).symm▸((Ln.n4 0x1861408a0ca22101628884305408a040) fn lp)) λg' D' t' H x' d' k' m' e2 B2 L2 hr hd=> ?_;rw [ld] at e2 hd;rw [ab5] at B2 L2;refine k_ g' D' t' H x' d' k' m' (bS (.inl e1) e2) B2 L2 ?_ ?_;·rw [hr,SX,SG];rfl
   ·rw [hd];exact (Ln.n3 0x1858a00228128884258a221040) lp
end
theorem CD {LS:List (List (List En))} (h:LS[s]? =some ps):total (LS.take (s+1))=total (LS.take s)+ps.length:=by rw [total,take_snoc h,SX,Yv];rfl
theorem HP (LS:List (List (List En))) (s:Nat):total (LS.take s)<=total LS:=by
 have e:total LS=total (LS.take s)+total (LS.drop s):=by rw [total,total,total,<-Yv,<-SX,VU]
 rw [e];exact SI _ _
noncomputable def ua (l:Nat) (gs:List G):List (List En):=(if l=0 then gs.reverse else gs).map TH
structure Up (nz:List Nat) (LS:List (List (List En))) (cnt s:Nat) (GS:List (List G)) (D:List G) (t:List (Int×J)):Prop extends Ld nz GS D t where
 len:GS.length=cnt
 rest: ∀l:Nat,s<=l-> ∀gs:List G,GS[l]? =some gs->gs=[]
 done: ∀(l:Nat) (gs:List G) (ps:List (List En)),l<s->GS[l]? =some gs->LS[l]? =some ps->ua l gs=ps
 rise: ∀g0:List G,GS[0]? =some g0->(g0.map Vz).Pairwise (· < ·)
 used:D.length=total (LS.take s)
section
variable {b:U} {cnt:Nat} {j:Nat->J} {nz:List Nat} {LS:List (List (List En))} (nd:nz.Nodup) (n:Nat) (few:nz.length<=60) (hl:LS.length=cnt) (ht:nz.length=total LS) (hE: ∀(l:Nat) (ps:List (List En)),LS[l]? =some ps-> ∀p∈ps,Es p) (dec: ∀p0:List (List En),LS[0]? =some p0->(nz.take p0.length).Pairwise (· > ·))
def UQ (b:U) (cnt:Nat) (A:List J) (nz:List Nat) (LS:List (List (List En))) (o:J) (s:Nat) (Y:St):Prop:= ∃GS D cs t H l x d k m,Y=⟨bL A nz b.n D.length l x d k m o,H⟩/\Bd b cnt cs GS t H/\Up nz LS cnt s GS D t
include nd few hl ht hE dec in theorem Hu (o:J) (hs:s<cnt) (q:UQ b cnt (LA j cnt LS) nz LS o s Y): ∃τ,(cA (ak (n+5)) (.name 13) Ik (it s) Y=.ok .next τ∨cA (ak (n+5)) (.name 13) Ik (it s) Y=.ok .cont τ)/\UQ b cnt (LA j cnt LS) nz LS o (s+1) τ:=by
 refine aQ λcT k_1=> ?_;obtain ⟨GS,D,cs,t,H,l,x,d,k,m,rfl,B,HS⟩:=q;obtain ⟨ps,hp⟩: ∃ps,LS[s]? =some ps:=⟨_,Sn (hl▸hs)⟩;obtain ⟨gs,hg⟩: ∃gs,GS[s]? =some gs:=⟨_,Sn (HS.len▸hs)⟩;have g0:=HS.rest s (Sv _) gs hg;subst g0;have tt:=CD hp;have fits:D.length+ps.length<=nz.length:=by refine (HS.used).symm▸((ht).symm▸ ?_);exact (tt)▸((HP LS (s+1)))
 have fin: ∀{D':List G} {x' d' k' m':J} {H':U},cU (cA (ak (n+5)) (.name 14) rQ) (ps.map pV) ⟨bL (LA j cnt LS) nz b.n D.length (it s) x d k m o,H⟩=.ok .next ⟨bL (LA j cnt LS) nz b.n D'.length (it s) x' d' k' m' o,H'⟩->cA (ak (n+5)) (.name 13) Ik (it s) ⟨bL (LA j cnt LS) nz b.n D.length l x d k m o,H⟩=.ok .next ⟨bL (LA j cnt LS) nz b.n D'.length (it s) x' d' k' m' o,H'⟩:=λ{D' x' d' k' m' H'} e=>bg λZ=>Z _ (jo H (((SA).symm▸((hp).symm▸rfl))):cz H (BL LS) (it s)=some (MH ps)) _ _ e;refine aQ λJV k_2=> ?_;cases s with
 |zero=>
  cases GS with
  |nil=>cases hg
  |cons g GD=>
   obtain rfl:=Sm hg;cases cs with
   |nil=>exact (B.own.cells).elim
   |cons c cs=>
    refine G6 (k_:=λg' D' cs' t' H' x' d' k' m' e B' L' up hr hd=> ?_) nd n (dec ps hp) few ps [] D c cs t H x d k m o (A:=LA j cnt LS) (hE 0 ps hp) B HS.toLd .nil (by rw [HS.used];exact Ub (TX _)) (by rw [HS.used] at fits;exact Sl (TA _ _) fits);refine k_2 (k_1 ?_);refine ⟨_,.inl (fin e),g'::GD,D',cs',t',H',it 0,x',d',k',m',rfl,B',L',HS.len,λl h gs hg=> ?_,λl gs qs h hg hq=> ?_,λg hg=>by obtain rfl:=Sm hg;exact up,by rw [hd,HS.used,tt]⟩;·
     refine aQ λX_3 Pg=> ?_;cases l with
     |zero=>cases h
     |succ l=>exact Pg (HS.rest (l+1) (Tq _) gs hg)
    ·have l0:l=0:=Xu.mp h;clear h;subst l0;obtain rfl:=Sm hg;replace hq:=(hp)▸hq;obtain rfl:=Sm hq;exact hr
 |succ s=>
  refine Kq (k_:=λg' D' t' H' x' d' k' m' e B' L' hr hd=> ?_) nd n few (Ul s) ps [] GS D cs t H x d k m o (A:=LA j cnt LS) (hE (s+1) ps hp) B HS.toLd hg fits;refine k_2 (k_1 ?_);refine ⟨_,.inl (fin e),GS.set (s+1) g',D',cs,t',H',it (s+1),x',d',k',m',rfl,B',L',(Uc (U6) (HS.len)),λl h gs hg=> ?_,λl gs qs h hg hq=> ?_,λg hg=> ?_,by rw [hd,HS.used,tt]⟩;·rw [Uq (SY h)] at hg;exact HS.rest l (VP h) gs hg
  ·by_cases z:s+1=l;·clear h;subst z;replace hg:=(Ue (HS.len▸hs))▸hg;obtain rfl:=Sm hg;replace hq:=(hp)▸hq;obtain rfl:=Sm hq;exact hr
   ·rw [Uq z] at hg;exact HS.done l gs qs (by exact (Ln.n2 0x61848a22104071600a22105228884a221040) h z) hg hq
  ·rw [Uq (Uv s)] at hg;exact HS.rise g hg
end
noncomputable def abK:Ss:=(bf (aM cB 16)).2
noncomputable def aey:Ss:=(bf (aM abK 0)).2
structure Al (D:List G) (t:List (Int×J)):Prop where
 tab: ∀g∈D,getD g.2 t=some (iG (aU g.1) (ky (top g.1)))
 vals:(t.all λa=>solid 10 a.2)=true
section
variable {b:U} {cnt:Nat} {cs:List Nat} {GS:List (List G)} {A:List J} {nz:List Nat} {D:List G} {f:G} (hf:f∈D) (h0:nz[0]? =some f.2) (n used k:Nat) (l p d m:J)
include hf h0
theorem aa7: ∀(xs:List Nat) (t:List (Int×J)) (H:U) (o:J),Bd b cnt cs GS t H->Al D t->t.length+xs.length<=4000-> ∀{R_:Prop} (k_: ∀t' H' o',cU (cA (ak n) (.name 18) aey) (its xs) ⟨bL A nz b.n used l p d (it k) m o,H⟩=.ok .next ⟨bL A nz b.n used l p d (it k) m o',H'⟩->Bd b cnt cs GS t' H'->Al D t'->t'.length<=t.length+xs.length->R_),R_:=by
 intro l_;induction l_ with
 |nil=>exact @λt H o B L z z k_=>k_ t H o rfl B L (Sv _)
 |cons x xs aG=>
  exact @λt H o B L few z k_=>by
   have lx:(x::xs).length=xs.length+1:=rfl;have rw_: ∀r,(getD (x:Int) t).isNone=r->Td J.bool (rt H .w6 (it x) (.ref (b.n+1)))=some (.bool r):=λr h=>by
    have:rows H (.ref (b.n+1))=some t:=by
     refine (?_:(match H.h (b.n+1) with
      |some (.gU l)=>some l
      |_=>none:Option (List (Int×J)))=_);rw [B.hT]
    refine (?_:Td J.bool ((rows H (.ref (b.n+1))).map λl=>(getD (x:Int) l).isNone)=_);refine (this).symm▸((h)▸ ?_);rfl
   cases g:getD (x:Int) t with
   |none=>
    let v:=iG (aU f.1) (ky (top f.1));let t1:=gJ (x:Int) v t;let H1:=H.set (b.n+1) (.gU t1);have tb: ∀e∈D,getD e.2 t1=some (iG (aU e.1) (ky (top e.1))):=λe he=>by have h:=L.tab e he;rw [DS (λq=> ?_) v t];exact h;replace h:=(q)▸h;replace h:=(g)▸h;cases h
    have l1:t1.length<=t.length+1:=BF (x:Int) v t;refine aG (k_:=λt' H' o' e B' L' ll=> ?_) t1 H1 (it x) (B.table t1) (⟨tb,Aq (p:=solid 10) (x:Int) (v:=v) rfl L.vals⟩) (by exact (Ln.n4 0x1861850882abca08350a22100358a22108150882abca040) few lx l1);refine k_ t' H' o' (bS (.inl ?_) e) B' L' (by exact (Ln.n5 0x1861850a00311428108450a2210c258a221040) lx l1 ll);have it1:cz H (.ref (b.n+1)) (it f.2)=some v:=by
     refine (?_:(match H.h (b.n+1) with
      |some (.O l)=>itemAt l (f.2:Int)
      |some (.gU l)=>getD (f.2:Int) l
      |_=>none)=_);rw [B.hT];exact L.tab f hf
    exact bg λZ=>Z _ B.hC _ (rw_ true (by refine (g).symm▸ ?_;rfl)) _ rfl _ B.hC _ (jo H (by rw [its,SA,h0];rfl)) _ it1 _ B.hC _ B.hT (by exact (Ln.n2 0x61222082084050882abca040) few) _ rfl
   |some w=>refine aG (k_:=λt' H' o' e B' L' ll=> ?_) t H (it x) B L (by exact (Ln.n3 0x61850882abca08058a22108150882abca040) few lx);refine k_ t' H' o' (bS (.inl ?_) e) B' L' (by exact (Ln.n4 0x61850a0030942810c258a221040) lx ll);exact bg λZ=>Z _ B.hC _ (rw_ false (by refine (g).symm▸ ?_;rfl)) _ rfl
end
section
variable {b:U} {cnt:Nat} {cs:List Nat} {GS:List (List G)} {A:List J} {nz:List Nat} {D:List G} {f:G} (hf:f∈D) (h0:nz[0]? =some f.2) (n used:Nat) (l p d m:J)
include hf h0
theorem Rt: ∀(xs:List Nat) (t:List (Int×J)) (H:U) (k o:J),Bd b cnt cs GS t H->Al D t->t.length+3*xs.length<=4000-> ∀{R_:Prop} (k_: ∀t' H' k' o',cU (cA (ak n) (.name 16) abK) (its xs) ⟨bL A nz b.n used l p d k m o,H⟩=.ok .next ⟨bL A nz b.n used l p d k' m o',H'⟩->Bd b cnt cs GS t' H'->Al D t'->R_),R_:=by
 intro l_;induction l_ with
 |nil=>exact @λt H k o B L z z k_=>k_ t H k o rfl B L
 |cons x xs aG=>exact @λt H k o B L few z k_=>by have lx:(x::xs).length=xs.length+1:=rfl;let r:List Nat:=[x%128,128+x%128,x/128];have lr:r.length=3:=rfl;refine aa7 (k_:=λt1 H1 o1 e1 B1 L1 l1=> ?_) hf h0 n used x l p d m (A:=A) r t H.bY o (B.frame (bG.bY H)) L (by exact (Ln.n4 0x618614220aaf2830162230d6288842054220aaf28c0488c0) few lx lr);refine aG (k_:=λt' H' k' o' e2 B' L'=> ?_) t1 H1 (it x) o1 B1 L1 (by exact (Ln.n5 0x18618614220aaf28c0888c450a0c01162230d6288842054220aaf28c0488c0) few lx lr l1);refine k_ t' H' k' o' (bS (.inl ?_) e2) B' L';exact bg λZ=>Z _ (bO rfl (by decide)) _ (bO rfl (by decide)) _ (bT rfl (by decide) (by decide)) _ _ (aS (cH r)) _ _ e1
end
theorem GK (hC:hs.h x=some (.cj (xP T))) (hT:hs.h T=some (.gU t)) (hv:(t.all λa=>solid 10 a.2)=true):aq true 12 (.aI (.of 10) x) hs=some (dc t,(hs.del T).del x):=by
 have e3:aq true 11 (.ref T) hs=some (.gU t,hs.del T):=by refine (?_:(hs.h T).bind _=_);rw [hT];refine (?_:Td _ (iY (aq true 10) t hs)=_);rw [w5 hv];rfl
 refine (?_:(hs.h x).bind _=_);refine (hC).symm▸ ?_;have e4:iY (aq true 11) (xP T) hs=some (abF t,hs.del T):=gT rfl (gT rfl (gT rfl (gT e3 rfl)));refine (?_:Td _ (iY (aq true 11) (xP T) hs)=_);rw [e4];rfl
theorem tP {α:Type}: ∀{l m:List α},l.Nodup->(∀a∈l,a∈m)->l.length<=m.length
 |[],_,_,_=>Tq _
 |a::l,m,nd,h=>by
  refine rY (ZJ (h a (.head _))) λp s cK=> ?_;subst cK;have K4:=Uj.mp nd;have:=tP (l:=l) (m:=p++s) K4.2 λb hb=>by
   rcases SW.mp (h b (.tail _ hb)) with q|q;·exact TP _ q
   ·refine aQ λcT k_1=> ?_;cases q with
    |head=>exact absurd hb K4.1
    |tail _ q=>exact k_1 (S9 _ q)
  rw [Sq] at this⊢;exact Vc this
theorem sj: ∀l:List Int,lex l l=true->False:=by
 intro l_;induction l_ with
 |nil=>exact @λh=>Uu h
 |cons a l aG=>exact @λh=>by have h:(if a=a then lex l l else decide (a<a))=true:=h;rw [if_pos rfl] at h;exact aG h
section
variable {hist:List En} {sh:Nat} (H:lD hist sh)
include H
theorem aar (ha:a∈hist) (hb:b∈hist) (h:a.q=b.q):a=b:=by
 obtain ⟨i,hi⟩:=TJ.mp ha;obtain ⟨j,hj⟩:=TJ.mp hb;obtain ⟨a1,a2⟩:=Sj.mp hi;obtain ⟨b1,b2⟩:=Sj.mp hj;have P:=Th.mp H.down;rcases Vg i j with z|z|z;·have:=P i j a1 b1 z;rw [a2,b2] at this;exact ((Ln.n2 0x18609480056040) h this).elim
 ·clear b1 b2;subst z;rw [hi] at hj;exact Sm hj
 ·have:=P j i b1 a1 z;rw [a2,b2] at this;exact ((Ln.n2 0x18609481016040) h this).elim
theorem Es.of (few:hist.length<=8) (rG:PT l) (mem: ∀a∈l,a∈hist) (ne:l≠[]):Es l where
 ok e he:=H.ok e (mem e he)
 rG:=rG
 s3:=rG.imp_of_mem λ{a b} ha hb h=>by
  rw [uL];rcases Tt (OY h) with z|z;·exact .inl z
  ·refine .inr ⟨z,.inl (Sa h z λq=> ?_)⟩;have:=aar H (mem a ha) (mem b hb) q;clear hb z q;subst this;exact sj _ h
 pos:=Zu.mpr ne
 few:=Sl (tP (rG.imp λ{a b} h q=>by subst q;exact sj _ h) mem) few
end
theorem Q9 (h:a.u<b.u):QN a b=true:=by refine (?_:(if (a.u:Int)=b.u then _ else decide ((a.u:Int)<b.u))=true);rw [if_neg (by exact (Ln.n2 0x61c5cf04f012040) h)];exact dT (TM.mpr h)
section
variable {hist:List En} {fr cnt:Nat} (H:lD hist (fr+cnt-1)) (few:hist.length<=8) {p0:List (List En)} {LD:List (List (List En))} (L:Lv hist fr (p0::LD) (fr+cnt-1))
include H few L
theorem DX {l:Nat} (h:(p0::LD)[l]? =some ps) (hp:p∈ps):Es p:=have g:=L.part l ps h p hp;Es.of H few g.rG g.mem g.ne
theorem y9 (h0:0<l) (h:(p0::LD)[l]? =some ps) (ne:ps.flatten≠[]):Es ps.flatten:=by refine Es.of H few (List.pairwise_flatten.mpr ⟨λp hp=>(L.part l ps h p hp).rG,(L.deep l ps h0 h).imp λq a ha b hb=>Q9 (q a ha b hb)⟩) (λa ha=> ?_) ne;exact ay (Uh.mp ha) λp hp ha=>(L.part l ps h p hp).mem a ha
theorem II:Ed hist (p0++bD LD):=by
 have dm: ∀l∈bD LD,∃(j:Nat) (ps:List (List En)),LD[j]? =some ps/\l=ps.flatten/\l≠[]:=λl hl=>by refine dD (UU.mp hl) λh1 h2=>ay (Tr.mp h1) λps hp d9=> ?_;clear hl h1;subst d9;obtain ⟨j,hj⟩:=TJ.mp hp;exact jn j ps hj rfl (λq=>by replace h2:=(q)▸h2;cases h2)
 have sh: ∀{j:Nat} {ps:List (List En)} {a:En},(p0::LD)[j]? =some ps->a∈ps.flatten->a.s+1-fr=j:=λ{j ps a} h ha=>by exact ay (Uh.mp ha) λp hp ha=>(L.gf j ps h p hp a ha).1
 refine ⟨λl hl e he=> ?_,λe he=> ?_,Ug.mpr ⟨L.zero p0 rfl,?_,λp hp l hl a ha b hb=> ?_⟩,λl hl=> ?_⟩;·
  rcases SW.mp hl with h|h;·exact (L.part 0 p0 rfl l h).mem e he
  ·refine ig (dm l h) λj ps hj ac9 y=> ?_;clear hl;subst ac9;exact ay (Uh.mp he) λp hp he=>(L.part (j+1) ps hj p hp).mem e he
 ·refine ig (L.all e he (H.gf e he)) λps p h hp ep=> ?_;cases z:e.s+1-fr with
  |zero=>replace h:=(z)▸h;obtain rfl:=Sm h;exact aH p (TP _ hp) ep
  |succ j=>
   rw [z] at h;have ef:e∈ps.flatten:=Uh.mpr (aH p hp ep);refine aH ps.flatten (S9 _ (UU.mpr ⟨TZ (Sk (l:=LD) (i:=j) h),?_⟩)) ef;cases q:ps.flatten with
   |nil=>replace ef:=(q)▸ef;cases ef
   |cons a r=>rfl
 ·refine acd _ (UR.mpr (Th.mpr λi j hi hj hij a ha b hb=> ?_));have e1:=sh (j:=i+1) (Sn hi) ha;have e2:=sh (j:=j+1) (Sn hj) hb;exact (Ln.n5 0x186184840962888412c328884458a22100b0ca221092040) hij e1 e2
 ·refine ig (dm l hl) λj ps hj aaG y=> ?_;subst aaG;have e1:=(L.gf 0 p0 rfl p hp a ha).1;have e2:=sh (j:=j+1) hj hb;exact (Ln.n4 0x6184820162888432c12888425882c1288840) e1 e2
 ·refine aQ λcT k_1=> ?_;rcases SW.mp hl with h|h;·exact k_1 (DX H few L (l:=0) rfl h)
  ·refine ig (dm l h) λj ps hj aaV ne=> ?_;clear hl h;subst aaV;exact k_1 (y9 H few L (Ul j) hj ne)
end
theorem EG: ∀GS:List (List G),numsOf (vM GS)=GS.flatten.map Vz:=by
 intro l_;induction l_ with
 |nil=>exact rfl
 |cons gs GS aG=>
  exact by
   have h:(ju (gs.map aP)).map Meta.num=gs.map Vz:=by rw [ju,Uo,Uo];rfl
   refine (?_:((ju (gs.map aP))++(vM GS).flatten).map Meta.num=(gs++GS.flatten).map Vz);rw [SX,SX,h];exact congrArg _ (aG)
theorem FE (E:Es p): ¬0<kc (ky (p.getD 0 e0)) (ky (top p)):=λh=>by
 have oa:=E.ok _ (getD_mem E.pos);have ob:=E.ok _ (getD_mem (U0 E.pos TV));have h:=(Jr (u:=(p.getD 0 e0).u) (q:=(p.getD 0 e0).q) (k:=(p.getD 0 e0).k) (v:=(top p).u) (p:=(top p).q) (j:=(top p).k) oa.u ob.u (SD (SI _ 2) oa.q) (SD (SI _ 2) ob.q) oa.k ob.k).2.mp h;have l1:=U0 E.pos TV;have bP: ∀j,(h:j<p.length)->p.getD j e0=p[j]:=λj h=>by rw [SR,Sn h];rfl
 rcases ZO (p.length-1) with z|z;·rw [top,z] at h;exact sj _ h
 ·have:=Th.mp E.s3 0 _ E.pos l1 z;rw [top,bP 0 E.pos,bP _ l1] at h;exact sj _ (lex_trans h this)
section
variable {hist:List En} {fr cnt:Nat} (H:lD hist (fr+cnt-1)) (few:hist.length<=8) {p0:List (List En)} {LD:List (List (List En))} (L:Lv hist fr (p0::LD) (fr+cnt-1)) (hl:(p0::LD).length=cnt)
variable {nz:List Nat} (nd:nz.Nodup) (nf:nz.length<=60) {GS:List (List G)} {D:List G} {t:List (Int×J)} (HS:Up nz (p0::LD) cnt cnt GS D t)
include HS hl in theorem yg (h:GS[l]? =some gs) {R_:Prop} (k_: ∀ps,(p0::LD)[l]? =some ps->ua l gs=ps->R_):R_:=by have lt:=(Sj.mp h).1;replace lt:=(HS.len)▸lt;obtain ⟨ps,hp⟩: ∃ps,(p0::LD)[l]? =some ps:=⟨_,Sn (hl▸lt)⟩;exact k_ ps hp (HS.done l gs ps lt h hp)
include HS hl nd nf H few L in theorem vok:VOk (vM GS) where
 key ms hm m hmm:=by refine ay (Tr.mp hm) λgs hg cK=> ?_;subst cK;refine ay (sD hmm) λf hf d9=> ?_;subst d9;refine ay (Tr.mp hf) λg hgg qV=> ?_;subst qV;have E:=HS.es g (HS.perm.subset (Uh.mpr ⟨gs,hg,hgg⟩));exact ⟨xW (E.ok _ (getD_mem E.pos)),xW (E.ok _ (getD_mem (U0 E.pos TV))),FE E⟩
 zero ms h:=by rw [vM,SA] at h;refine ay (Sz.mp h) λgs hg uW=> ?_;clear h;subst uW;have:=HS.rise gs hg;rw [UR] at this;rw [ju,UR,UR];exact this
 deep l ms h0 h:=by rw [vM,SA] at h;obtain ⟨gs,hg,rfl⟩:=Sz.mp h;refine yg (k_:=λps hp hs=> ?_) hl HS hg;have q:=L.deep l ps h0 hp;rw [<-hs,ua,if_neg (UG h0),UR] at q;rw [ju,UR,UR];refine q.imp_of_mem λ{a b} ha hb r=> ?_;have Ea:=HS.es a (HS.perm.subset (Uh.mpr ⟨gs,Sk hg,ha⟩));have Eb:=HS.es b (HS.perm.subset (Uh.mpr ⟨gs,Sk hg,hb⟩));have m1:top a.1∈a.1:=getD_mem (U0 Ea.pos TV);have m2:=getD_mem Eb.pos;refine (?_:blt (ku (ky (top a.1))) (ku (ky (b.1.getD 0 e0)))=true);rw [Pj,Pj,oS _ (Ea.ok _ m1).u _ (Eb.ok _ m2).u];exact dT (r _ m1 _ m2)
 nd:=by rw [EG];exact ((HS.perm.map Vz).nodup_iff).mpr (by rw [HS.dn];exact nd.sublist (U5 _ _))
 few:=by
  rw [EG,Sp,HS.perm.length_eq];have:(D.map Vz).length<=nz.length:=by rw [HS.dn];exact (U5 _ _).length_le
  rw [Sp] at this;exact (Ln.n2 0x1861222090150005422c8c0) nf this
 lv ms hm:=by
  refine aQ λcT k_1=> ?_;obtain ⟨gs,hg,rfl⟩:=Tr.mp hm;have h1:gs.length<=D.length:=by exact (HS.perm.length_eq)▸((We hg).length_le)
  have:(D.map Vz).length<=nz.length:=by rw [HS.dn];exact (U5 _ _).length_le
  rw [Sp] at this;refine k_1 ?_;rw [ju,Sp,Sp];exact (Ln.n3 0x18618508aa505400250205422c8c0) nf h1 this
end
section
variable {hist:List En} {fr cnt:Nat} (H:lD hist (fr+cnt-1)) (few:hist.length<=8) {p0:List (List En)} {LD:List (List (List En))} (L:Lv hist fr (p0::LD) (fr+cnt-1)) (hl:(p0::LD).length=cnt)
variable {nz:List Nat} (nd:nz.Nodup) (nf:nz.length<=60) (nb: ∀x∈nz,x<=20011) {GS:List (List G)} {D:List G} {t0 t:List (Int×J)} (HS:Up nz (p0::LD) cnt cnt GS D t0) (T:Al D t)
include HS hl nd nf nb H few L T
theorem Pa:VG GS t where
 lev gs hg:=by
  have mD: ∀g∈gs,g∈D:=λg h=>HS.perm.subset (Uh.mpr ⟨gs,hg,h⟩);refine ⟨λf hf=> ?_,λf hf=> ?_,λf hf f' hf' e=> ?_,?_⟩;·obtain ⟨g,h,rfl⟩:=Tr.mp hf;refine sU (k_:=λi y hi=> ?_) HS.toLd (mD g h);exact ⟨(HS.es g (mD g h)).fit,SD (nb _ (Sk hi)) (by decide)⟩
  ·obtain ⟨g,h,rfl⟩:=Tr.mp hf;exact T.tab g (mD g h)
  ·obtain ⟨g,h,rfl⟩:=Tr.mp hf;refine ay (Tr.mp hf') λg' h' cK=> ?_;clear hf';subst cK;have e:g.2=g'.2:=e;have N:(D.map Vz).Nodup:=by rw [HS.dn];exact nd.sublist (U5 _ _)
   obtain ⟨i,hi⟩:=TJ.mp (mD g h);obtain ⟨j,hj⟩:=TJ.mp (mD g' h');have hi':(D.map Vz)[i]? =some g.2:=by rw [SA,hi];rfl
   have hj':(D.map Vz)[j]? =some g.2:=by rw [SA,hj,e];rfl
   obtain ⟨a1,a2⟩:=Sj.mp hi';obtain ⟨b1,b2⟩:=Sj.mp hj';have P:=Th.mp N;clear hj';rcases Vg i j with z|z|z;·exact absurd (a2.trans b2.symm) (P i j a1 b1 z)
   ·clear b1 b2;subst z;rw [hi] at hj;rw [Sm hj]
   ·exact absurd (b2.trans a2.symm) (P j i b1 a1 z)
  ·have h:=(vok H few L hl nd nf HS).lv (ju (gs.map aP)) (TZ hg);rw [ju,Sp] at h;exact h
 es gs hg g h:=HS.es g (HS.perm.subset (Uh.mpr ⟨gs,hg,h⟩))
 deep l gs h0 hg pos:=by refine yg (k_:=λps hp hs=> ?_) hl HS hg;rw [ua,if_neg (UG h0)] at hs;rw [hs];refine y9 H few L h0 hp λq=>rY (List.exists_cons_of_length_pos pos) λg r d9=> ?_;clear pos;subst d9;rw [<-hs,UT,Vu] at q;exact absurd (HS.es g (HS.perm.subset (Uh.mpr ⟨_,Sk hg,.head _⟩))).pos (by rw [(Za.mp q).1];exact To _)
end
noncomputable def AX:Nat->Ss->Ss
 |0,l=>l
 |_+1,.nil=>.nil
 |k+1,.cons _ l=>AX k l
noncomputable def lw (l:List J):List J:=l++Tf (29-l.length) .ah
def Rn (n i:Nat) (Y:St) (j:Nat) (τ:St):Prop:= ∀r,cu (ak n) (AX j cB) τ=r->cu (ak n) (AX i cB) Y=r
theorem Rn.trans (x:Rn n i Y j τ) (y:Rn n j τ k υ):Rn n i Y k υ:=λr h=>x r (y r h)
theorem Rn.one (h:eB (ak n) (aM cB i) Y=.ok .next τ) (e:AX i cB=.cons (aM cB i) (AX (i+1) cB)):Rn n i Y (i+1) τ:=λr q=>by exact (e).symm▸(bZ h q)
noncomputable abbrev nx (ls:List J) (h:U):aA St bw:=.ok .next ⟨ls,h⟩
noncomputable def aaS:Ex:=.bin .mod .cvar (.lit (.int 999983))
noncomputable def MW (a:Int):Nat:=(a%999983).toNat
theorem Nt (n:Nat) (l:List Int) (hs:U) {R_:Prop} (k_: ∀(ms:List Nat) (h:U),Rn n 0 ⟨lw [.O (l.map .int)],hs⟩ 2 ⟨lw [.O (l.map .int),.O (its ms)],h⟩->0<ms.length->ms.length<=20->R_):R_:=by
 let S:J:=.O (l.map .int);let r:=(l.map J.int).take 20;let ms:=(l.take 20).map MW;let h1:=hs.bY;let h2:=h1.bY;have NQ:r.all atomic=true:=Tc.mpr λv hv=>by refine ay (Tr.mp (V9 hv)) λi y cK=> ?_;clear hv;subst cK;rfl
 have e1:each (jh (ak n) aaS .none) r ⟨lw [S],h1⟩=.ok (its ms) ⟨lw [S],h1⟩:=by refine (?_:each _ ((l.map J.int).take 20) _=.ok (((l.take 20).map MW).map it) _);refine (WL)▸((Uo).symm▸ ?_);refine tQ λa y=> ?_;have m:a%999983=((MW a:Nat):Int):=(XD (Int.emod_nonneg a (by decide))).symm;exact dU λZ=>Z (it (MW a)) (by refine (?_:some (J.int (a%999983))=_);rw [m])
 have s0:eB (ak n) (aM cB 0) ⟨lw [S],hs⟩=nx (lw [S,.O (its ms)]) h2:=bH λZ=>Z _ Ao _ _ (aS NQ) _ _ e1 _ _ (aS (cH _));have ll:(its ms).length=ms.length:=Sp _;have mK:ms.length<=20:=by rw [Sp];exact List.length_take_le _ _
 by_cases z:ms.length=0;·refine k_ ([0]) h2.bY ((Rn.one s0 rfl).trans (Rn.one (?_:_=nx (lw [S,.O (its [0])]) h2.bY) rfl)) TV (by decide);exact bH λZ=>Z _ (by rw [ll];exact Cz z:neq (its ms).length 0=true) _ _ (aS rfl)
 ·refine k_ ms h2 ((Rn.one s0 rfl).trans (Rn.one (?_:_=nx (lw [S,.O (its ms)]) h2) rfl)) (Nat.pos_of_ne_zero z) mK;exact bH λZ=>Z _ (by rw [ll];exact uE z:neq (its ms).length 0=false)
theorem L3 (n:Nat) {ms:List Nat} (m0:0<ms.length) (mK:ms.length<=20) (S:J) (hs:U) {R_:Prop} (k_: ∀(a cnt fr:Nat) (h:U),Rn (n+1) 2 ⟨lw [S,.O (its ms)],hs⟩ 5 ⟨lw [S,.O (its ms),it a,it cnt,it fr],h⟩->2<=cnt->cnt<=4->1<=fr->fr<=3->R_):R_:=by
 let N:J:=.O (its ms);let a:=draw ms 0;let cs:=[3,4,2];let fs:=[2,1,3];let cnt:=cs.getD (a%3) 0;let fr:=fs.getD (a/3%3) 0;let h1:=hs.bY;let h2:=h1.bY;have r3: ∀x:Nat,x<3->(2<=cs.getD x 0/\cs.getD x 0<=4)/\1<=fs.getD x 0/\fs.getD x 0<=3:=by decide
 have x3: ∀x:Nat,x%3<3:=λx=>UA x (by decide);have s2:eB (ak (n+1)) (aM cB 2) ⟨lw [S,N],hs⟩=nx (lw [S,N,it a]) hs:=bH λZ=>Z _ (dQ n hs m0 mK 0);have s3:eB (ak (n+1)) (aM cB 3) ⟨lw [S,N,it a],hs⟩=nx (lw [S,N,it a,it cnt]) h1:=bH λZ=>Z ((.O (its cs))) h1 (aS rfl) ((it (a%3))) (bO rfl (by decide)) ((it cnt)) (jo _ (nQ (x3 _)));have s4:eB (ak (n+1)) (aM cB 4) ⟨lw [S,N,it a,it cnt],h1⟩=nx (lw [S,N,it a,it cnt,it fr]) h2:=bH λZ=>Z ((.O (its fs))) h2 (aS rfl) ((it (a/3))) (bT rfl (by decide) (by decide)) ((it (a/3%3))) (bO rfl (by decide)) ((it fr)) (jo _ (nQ (x3 _)));exact k_ a cnt fr h2 ((Rn.one s2 rfl).trans ((Rn.one s3 rfl).trans (Rn.one s4 rfl))) ((r3 _ (x3 a)).1.1) ((r3 _ (x3 a)).1.2) ((r3 _ (x3 (a/3))).2.1) ((r3 _ (x3 (a/3))).2.2)
theorem sI {fr s l:Nat} (L:Lv es fr LS s) (h:LS[l]? =some ps):ps.length<=es.length:=by
 have hd: ∀p∈ps,p.getD 0 e0∈p:=λp hp=>by
  cases e:p with
  |nil=>exact absurd e (L.part l ps h p hp).ne
  |cons a r=>exact .head _
 have nd:(ps.map λp=>p.getD 0 e0).Nodup:=by
  refine UR.mpr ?_;cases l with
  |zero=>exact (L.zero ps h).imp_of_mem λ{p p'} hp u6 q e=>To _ (by have:=q _ (hd p hp) _ (hd p' u6);rwa [e] at this)
  |succ l=>exact (L.deep _ ps (Ul l) h).imp_of_mem λ{p p'} hp u6 q e=>To _ (by have:=q _ (hd p hp) _ (hd p' u6);rwa [e] at this)
 have:=tP nd (m:=es) λa ha=>by refine ay (Tr.mp ha) λp hp cK=> ?_;clear ha;subst cK;exact (L.part l ps h p hp).mem _ (hd p hp)
 rwa [Sp] at this
theorem Ac: ∀{LS:List (List (List En))},(∀ps∈LS,ps.length<=k)->total LS<=k*LS.length:=by
 intro l_;induction l_ with
 |nil=>exact @λz=>Tq _
 |cons ps LS aG=>exact @λh=>by have a:=h ps (.head _);have b:=aG λp hp=>h p (.tail _ hp);refine (?_:ps.length+total LS<=k*(LS.length+1));rw [acn];lia
structure Drawn (ms:List Nat) (cnt fr:Nat) (es:List En) (p0:List (List En)) (LD:List (List (List En))) (nz:List Nat):Prop where
 m0:0<ms.length
 mK:ms.length<=20
 c2:2<=cnt
 c4:cnt<=4
 H:lD es (fr+cnt-1)
 e8:es.length<=8
 e0:0<es.length
 L:Lv es fr (p0::LD) (fr+cnt-1)
 len:(p0::LD).length=cnt
 nl:nz.length=total (p0::LD)
 nd:nz.Nodup
 nb: ∀x∈nz,x<=20011
 dec:(nz.take p0.length).Pairwise (· > ·)
 Qq:nz.length<=60
theorem Oc (n:Nat) (m0:0<ms.length) (mK:ms.length<=20) (c2:2<=cnt) (c4:cnt<=4) (f1:1<=fr) (f3:fr<=3) (S:J) (hs:U) {R_:Prop} (k_: ∀es p0 LD nz h,Rn (n+2) 5 ⟨lw [S,.O (its ms),it a,it cnt,it fr],hs⟩ 8 ⟨lw [S,.O (its ms),it a,it cnt,it fr,pV es,BL (p0::LD),.O (its nz)],h⟩->Drawn ms cnt fr es p0 LD nz->R_):R_:=by
 let N:J:=.O (its ms);refine rS (k_:=λes h1 e1 z H el=> ?_) n hs m0 mK (sh:=fr+cnt-1) (size:=5+a/9%4) (by exact (Ln.n1 0x614228280225488900) (UA _ (by decide))) (by exact (Ln.n2 0x1848b221280048500222) c2);have e8:es.length<=8:=by exact (Ln.n2 0x618508a0048890158a048940) el (UA _ (by decide))
 refine ud (k_:=λLS h2 e2 z L ll z=> ?_) n H e8 (cnt:=cnt) (fr:=fr) (by exact (Ln.n1 0x612008500222) c2) f1 (by exact (Ln.n2 0x618508a0a0015088c1508900) c4 f3) (a/36) h1;cases LS with
 |nil=>exact absurd ll.symm (UG (Sx (by decide) c2))
 |cons p0 LD=>
  have tt:total (p0::LD)<=60:=by
   have:=Ac (LS:=p0::LD) (k:=8) λps hp=>by obtain ⟨l,h⟩:=TJ.mp hp;exact Sl (sI L h) e8
   rw [ll] at this;exact (Ln.n2 0x1861422c8c150c008a01508900) c4 this
  refine rI (k_:=λnz h3 e3 z n1 n2 n3 n4=> ?_) (n+1) h2 (LS:=p0::LD) rfl (Sl tt (by decide)) (Sl (Sl (sI L (l:=0) rfl) e8) (by decide)) (SI _ _) (draw ms 1/5);have sh:((fr:Int)+cnt-1)=((fr+cnt-1:Nat):Int):=by exact (Ln.n2 0x185cf2c884a0012c884a3c03c1500222) c2
  rw [show it (fr+cnt-1)=.int ((fr:Int)+cnt-1) from congrArg _ sh.symm] at e1;have s5:eB (ak (n+2)) (aM cB 5) ⟨lw [S,N,it a,it cnt,it fr],hs⟩=nx (lw [S,N,it a,it cnt,it fr,pV es]) h1:=bH λZ=>Z _ (bT rfl (by decide) (by decide)) _ (bO rfl (by decide)) _ e1;have s6:eB (ak (n+2)) (aM cB 6) ⟨lw [S,N,it a,it cnt,it fr,pV es],h1⟩=nx (lw [S,N,it a,it cnt,it fr,pV es,BL (p0::LD)]) h2:=bH λZ=>Z _ (bT rfl (by decide) (by decide)) _ e2;have s7:eB (ak (n+2)) (aM cB 7) ⟨lw [S,N,it a,it cnt,it fr,pV es,BL (p0::LD)],h2⟩=nx (lw [S,N,it a,it cnt,it fr,pV es,BL (p0::LD),.O (its nz)]) h3:=bH λZ=>Z _ (dQ (n+1) _ m0 mK 1) _ (bT rfl (by decide) (by decide)) _ e3;exact k_ es p0 LD nz h3 ((Rn.one s5 rfl).trans ((Rn.one s6 rfl).trans (Rn.one s7 rfl))) ⟨m0,mK,c2,c4,H,e8,by exact (Ln.n2 0x61200858a048940) el,L,ll,n1,n2,λx hx=>(n3 x hx).2,n4,by rw [n1];exact tt⟩
theorem Fo (n:Nat) (hs:U) {R_:Prop} (k_: ∀h,ak (n+1) (.of 38) [.aI (.of 2) hs.n] (hs.new (.cj []))=.ok .none h->h.h hs.n=some (.cj [((.of 6),rD)])->R_):R_:=by let g:=(hs.new (.cj [])).bY;exact k_ (g.set hs.n (.cj [((.of 6),rD)])) (aF λZ=>Z _ _ (Ba _) _ (((bG.bY _).h _ (SQ _)).trans (U.bR _ _)) _ rfl) (U.bA _ _ _)
noncomputable def OF (C:Cl) (ls:List J):Nat->Ss->List (Fd×J)->Option (List (Fd×J)×Ss)
 |0,l,fs=>some (fs,l)
 |_+1,.nil,_=>none
 |k+1,.cons s l,fs=>(QK C ls fs s).bind (OF C ls k l)
theorem z9 {C:Cl} {hs:U} {fs':List (Fd×J)} {l':Ss} (q:cu K l' ⟨[.aI C hs.n],hs.new (.cj fs')⟩=r): ∀{k:Nat} {l:Ss} {fs:List (Fd×J)},OF C [.aI C hs.n] k l fs=some (fs',l')->cu K l ⟨[.aI C hs.n],hs.new (.cj fs)⟩=r
 |0,_,_,h=>by cases h;exact q
 |_+1,.nil,_,h=>(by cases h)
 |k+1,.cons s l,fs,h=>by exact ay (SV.mp h) λg h1 h2=>dR (Dy h1) (z9 q h2)
noncomputable def OL:List (Fd×J):=(El (.of 3) [.none] (nk (.of 40)) []).getD []
theorem KZ (n:Nat) (hs:U):ak (n+1) (.of 40) [.aI (.of 3) hs.n] (hs.new (.cj []))=.ok .none (hs.new (.cj OL))/\ak (n+1) (.of 41) [.aI (.of 3) hs.n] (hs.new (.cj OL))=.ok (.aI (.of 3) hs.n) (hs.new (.cj xw)):=by exact ⟨gq rfl (by kernel_rfl),xD (f:=(.of 41)) (z9 (l':=.cons (.ret (.var 0)) .nil) (fs':=xw) (k:=14) rfl (by kernel_rfl)) rfl rfl⟩
theorem Jf (n:Nat) (c8:cnt<=8) (hs:U) {R_:Prop} (k_: ∀b cs H,Rn (n+1) 8 ⟨lw (LA j cnt LS++[.O (its nz)]),hs⟩ 15 ⟨bL (LA j cnt LS) nz b.n 0 .ah .ah .ah .ah .ah .ah,H⟩->Bd b cnt cs (Tf cnt []) [] H->R_):R_:=by let B:List J:=LA j cnt LS++[.O (its nz)];refine Fo (k_:=λg1 e1 x1=> ?_) n hs;let g2:=g1.del hs.n;let o:J:=.aI (.of 3) g2.n;refine dD (KZ n g2) λe2 e3=> ?_;let g3:=(g2.new (.cj zL)).del g2.n;refine Gg (k_:=λcs H e4 e5 D=> ?_) n g3 c8;let g4:=nn g3 (.cj (xP (g3.n+1))) (.gU []);have s8:eB (ak (n+1)) (aM cB 8) ⟨lw B,hs⟩=nx (lw (B++[cS])) g2:=bH λZ=>Z _ e1 _ _ (pN x1 rfl);have s9:eB (ak (n+1)) (aM cB 9) ⟨lw (B++[cS]),g2⟩=nx (lw (B++[cS,o])) (g2.new (.cj xw)):=bH λZ=>Z _ e2 _ (aR (U.bR _ _) rfl rfl) _ e3;have s10:eB (ak (n+1)) (aM cB 10) ⟨lw (B++[cS,o]),g2.new (.cj xw)⟩=nx (lw (B++[cS,o])) (g2.new (.cj zL)):=bH λZ=>Z _ (U.bR _ _) _ (U.fN _ _ _);have s11:eB (ak (n+1)) (aM cB 11) ⟨lw (B++[cS,o]),g2.new (.cj zL)⟩=nx (lw (B++[cS,ie])) g3:=bH λZ=>Z _ _ (pN (U.bR _ _) rfl);have s12:eB (ak (n+1)) (aM cB 12) ⟨lw (B++[cS,ie]),g3⟩=nx (lw (B++[cS,ie,.aI (.of 10) g3.n])) g4:=bH λZ=>Z _ e4;have s13:eB (ak (n+1)) (aM cB 13) ⟨lw (B++[cS,ie,.aI (.of 10) g3.n]),g4⟩=nx (lw (B++[cS,ie,.aI (.of 10) g3.n,.aI (.of 15) (g3.n+2)])) H:=bH λZ=>Z _ e5;exact k_ g3 cs H ((Rn.one s8 rfl).trans ((Rn.one s9 rfl).trans ((Rn.one s10 rfl).trans ((Rn.one s11 rfl).trans ((Rn.one s12 rfl).trans ((Rn.one s13 rfl).trans (Rn.one (rfl) rfl))))))) D
theorem Own.del (au:Own b P cs ls hs) (hx:b.n<=x) (h1:x≠P) (h2:x∉cs):Own b P cs ls (hs.del x) where
 bP:=(U.j6 h1.symm).trans au.bP
 cells:=cX au.cells λz hc=>U.j6 (f6 hc h2)
 nd:=au.nd
 no:=au.no
 P0:=au.P0
 P1:=au.P1
 c0:=au.c0
 c1:=au.c1
 ext:=au.ext.del hx
theorem GJ: ∀{LS:List (List (List En))},ps∈LS->ps.length<=total LS:=by
 intro l_;induction l_ with
 |nil=>exact λh=>(by cases h)
 |cons q LS aG=>exact λh=>(Tn.mp h).elim (λe=>e▸SI _ (total LS)) λh=>Sl (aG h) (TA _ q.length)
theorem F8 (n:Nat) (Dr:Drawn ms cnt fr es p0 LD nz) (B:Bd b cnt cs (Tf cnt []) [] H) {R_:Prop} (k_: ∀(GS:List (List G)) (D:List G) (t0 t:List (Int×J)) (l x d k m o:J) (h:U),Rn (n+5) 15 ⟨bL (LA j cnt (p0::LD)) nz b.n 0 .ah .ah .ah .ah .ah .ah,H⟩ 19 ⟨[j 0,j 1,j 2,it cnt,j 4,j 5,BL (p0::LD),.O (its nz),cS,ie,dc t,gQ cnt (vM GS),it D.length,l,x,d,k,m,o,.ah,.ah,.ah,.ah,.ah,.ah,.ah,.ah,.ah,.ah],h⟩->Up nz (p0::LD) cnt cnt GS D t0->Al D t->R_):R_:=by
 let A:=LA j cnt (p0::LD);have r0: ∀{l:Nat} {gs:List G},(Tf cnt ([]:List G))[l]? =some gs->gs=[]:=λh=>YT (Sk h);have fl: ∀k:Nat,(Tf k ([]:List G)).flatten=[]:=λk=>by
  induction k with
  |zero=>rfl
  |succ k ih=>exact ih
 have q0:UQ b cnt A nz (p0::LD) .ah 0 ⟨bL A nz b.n 0 .ah .ah .ah .ah .ah .ah,H⟩:=⟨_,[],cs,[],H,_,_,_,_,_,rfl,B,⟨⟨by rw [fl],rfl,λz h=>(nomatch h),rfl,Sv _,λz h=>(nomatch h)⟩,Ve,λl z gs h=>r0 h,λz z z h=>absurd h (UK _),λg0 h=>(((r0 h).symm▸(.nil))),rfl⟩⟩;obtain ⟨τ,e15,GS,D,cs',t0,h1,l,x,d,k,m,rfl,B1,HS⟩:=fK (K:=ak (n+5)) (t:=.name 13) (b:=Ik) (Sl Dr.c4 (by decide)) q0 λs Y hs q=>Hu Dr.nd n Dr.Qq Dr.len Dr.nl (λl ps h p hp=>DX Dr.H Dr.e8 Dr.L h hp) (λq hq=>by obtain rfl:=Sm hq;exact Dr.dec) .ah hs q;have dl:D.length=nz.length:=by refine (HS.used).symm▸((Dr.nl).symm▸ ?_);refine (Dr.len)▸((U9).symm▸ ?_);rfl
 have tl:=HS.tl;have Qq:=Dr.Qq;have pos:0<total (p0::LD):=by refine fU (Yj Dr.e0) λa ha=>ig (Dr.L.all a ha (Dr.H.gf a ha)) λps p h1 h2 z=> ?_;have h3:ps.length<=total (p0::LD):=GJ (Sk h1);exact Sx (Y6 h2) h3
 obtain ⟨f,hf,h0⟩: ∃f∈D,nz[0]? =some f.2:=by
  have dn:=HS.dn;cases D with
  |nil=>rw [Dr.nl] at dl;exact absurd pos (Ux.mpr (Ub dl.symm))
  |cons f D=>refine aH f (.head _) ?_;rw [dl,U9] at dn;refine (dn)▸ ?_;rfl
 refine Rt (k_:=λt h2 k' o' e16 B2 T=> ?_) hf h0 (n+5) D.length l x d m (A:=A) nz t0 h1 k .ah B1 (⟨HS.tab,HS.vals⟩) (by exact (Ln.n3 0x1861850882abca30122309422c8c1500096040) dl tl Qq);let h3:=(h2.del (b.n+1)).del b.n;have lo: ∀c∈cs',b.n+3<c:=B2.lo;have O3:Own b (b.n+3) cs' ((vM GS).map bQ) h3:=(B2.own.del (T8 _) (by exact (Ln.n1 0x7162888c0288840)) λh=>by have:=lo _ h;exact (Ln.n1 0x182522888402888c0) this).del (Sv _) (by exact (Ln.n1 0x1c58a223000)) λh=>by have:=lo _ h;exact (Ln.n1 0x6094802888c0) this
 refine z7 (k_:=λh4 e18 z=> ?_) O3 (x:=b.n+2) ((U.j6 (by exact (Ln.n1 0x1c580288880))).trans ((U.j6 (by exact (Ln.n1 0x716288840288880))).trans B2.hV)) (by exact (Ln.n1 0x50a222000));let R (c v:J):List J:=[j 0,j 1,j 2,it cnt,j 4,j 5,BL (p0::LD),.O (its nz),cS,ie,c,v,it D.length,l,x,d,k',m,o',.ah,.ah,.ah,.ah,.ah,.ah,.ah,.ah,.ah,.ah];have s15:eB (ak (n+5)) (aM cB 15) ⟨bL A nz b.n 0 .ah .ah .ah .ah .ah .ah,H⟩=nx (bL A nz b.n D.length l x d k m .ah) h1:=bH λZ=>Z _ _ e15;have s16:eB (ak (n+5)) (aM cB 16) ⟨bL A nz b.n D.length l x d k m .ah,h1⟩=nx (bL A nz b.n D.length l x d k' m o') h2:=bH λZ=>Z _ _ e16;have s17:eB (ak (n+5)) (aM cB 17) ⟨bL A nz b.n D.length l x d k' m o',h2⟩=nx (R (dc t) (.aI (.of 15) (b.n+2))) h3:=bH λZ=>Z _ _ (GK B2.hC B2.hT T.vals);have s18:eB (ak (n+5)) (aM cB 18) ⟨R (dc t) (.aI (.of 15) (b.n+2)),h3⟩=nx (R (dc t) (gQ cnt (vM GS))) h4:=bH λZ=>Z _ _ e18;exact k_ GS D t0 t l x d k' m o' h4 ((Rn.one s15 rfl).trans ((Rn.one s16 rfl).trans ((Rn.one s17 rfl).trans (Rn.one s18 rfl)))) HS T
noncomputable def qL (j:Nat->J) (N c H C V:J) (r:List J):List J:=[j 0,N,j 2,c,j 4,H,j 6,j 7,j 8,j 9,C,V,j 12,j 13,j 14,j 15,j 16,j 17,j 18]++(r++Tf (10-r.length) .ah)
noncomputable def jL (j:Nat->J) (LS:List (List (List En))) (i:Nat):J:=cond (i==6) (BL LS) (j i)
theorem Eo (hl:(p0::LD).length=cnt) (HS:Up nz (p0::LD) cnt cnt (g0::GD) D t):g0.reverse.map TH=p0/\GD.map (λgs=>gs.map TH)=LD:=by
 have s: ∀(l:Nat) (gs:List G),(g0::GD)[l]? =some gs->(p0::LD)[l]? =some (ua l gs):=λl gs h=>by refine yg (k_:=λps h1 h2=> ?_) hl HS h;exact (h2).symm▸(h1)
 refine ⟨(Sm (s 0 g0 rfl)).symm,VO λi=> ?_⟩;refine (SA).symm▸ ?_;cases h:GD[i]? with
 |some gs=>exact (s (i+1) gs h).symm
 |none=>have e:=HS.len;have:=UB.mp h;refine (UB.mpr ?_).symm;rw [<-hl] at e;exact (Ln.n3 0x1861404258a22108a221014040) this e
theorem Ff (n:Nat) (Dr:Drawn ms cnt fr es p0 LD nz) (HS:Up nz (p0::LD) cnt cnt (g0::GD) D t0) (T:Al D t) (j:Nat->J) (N c H:J) (hs:U) {R_:Prop} (k_: ∀l h,Rn (n+6) 19 ⟨qL (jL j (p0::LD)) N c H (dc t) (gQ cnt (vM (g0::GD))) [],hs⟩ 23 ⟨qL (jL j (p0::LD)) N c H (dc t) (gQ cnt (vM (g0::GD))) [.O ((p0++bD LD).map pV),.O (aW l)],h⟩->Ws 12 l h->(∀w∈l,w.p=w.es.length)->l.map rq.es=p0++bD LD->R_):R_:=by
 have c8:cnt<=8:=Sl Dr.c4 (by decide);have hc:GD.length+1=cnt:=HS.len;let v:=gQ cnt (vM (g0::GD));let LL:List J:=(p0++bD LD).map pV;refine FI (k_:=λh1 e1 y=> ?_) (n+1) hs (cnt:=cnt) (MS:=vM (g0::GD)) (by rw [vM,Sp];exact hc) c8 (vok Dr.H Dr.e8 Dr.L Dr.len Dr.nd Dr.Qq HS);refine vf (k_:=λh2 e2 y=> ?_) (n:=n+5) (p0:=p0) (LS:=LD) h1 (λps hp=>by
  by_cases z:ps.flatten=[];·exact (z).symm▸(Tq _)
  ·obtain ⟨l,h⟩:=TJ.mp hp;exact Sl (y9 Dr.H Dr.e8 Dr.L (l:=l+1) (Ul l) h z).few (by decide)) (by have:=sI Dr.L (l:=0) rfl;have:=Dr.len;have:LD.length+1=cnt:=this;have:=Dr.e8;lia);refine mZ (k_:=λl h3 e3 y W pn el=> ?_) n h2 hc c8 (Pa Dr.H Dr.e8 Dr.L Dr.len Dr.nd Dr.Qq Dr.nb HS T);replace el:=((Eo Dr.len HS).1)▸el;replace el:=((Eo Dr.len HS).2)▸el;have ll:(aW l).length=LL.length:=by show (l.map _).length=((p0++bD LD).map pV).length;refine (el)▸ ?_;rw [Sp,Sp,Sp]
 have s19:eB (ak (n+6)) (aM cB 19) ⟨qL (jL j (p0::LD)) N c H (dc t) v [],hs⟩=nx (qL (jL j (p0::LD)) N c H (dc t) v []) h1:=bH λZ=>Z _ rfl _ e1;have s20:eB (ak (n+6)) (aM cB 20) ⟨qL (jL j (p0::LD)) N c H (dc t) v [],h1⟩=nx (qL (jL j (p0::LD)) N c H (dc t) v [.O LL]) h2:=bH λZ=>Z _ e2;have s21:eB (ak (n+6)) (aM cB 21) ⟨qL (jL j (p0::LD)) N c H (dc t) v [.O LL],h2⟩=nx (qL (jL j (p0::LD)) N c H (dc t) v [.O LL,.O (aW l)]) h3:=bH λZ=>Z _ rfl _ e3;have s22:eB (ak (n+6)) (aM cB 22) ⟨qL (jL j (p0::LD)) N c H (dc t) v [.O LL,.O (aW l)],h3⟩=nx (qL (jL j (p0::LD)) N c H (dc t) v [.O LL,.O (aW l)]) h3:=bH λZ=>Z _ (by exact (ll).symm▸(dF (λq=>q rfl)):decide (((aW l).length:Int)≠(LL.length:Int))=false);exact k_ l h3 ((Rn.one s19 rfl).trans ((Rn.one s20 rfl).trans ((Rn.one s21 rfl).trans (Rn.one s22 rfl)))) W (λw hw=>(pn w hw).1) el
theorem o7 {α β:Type} {f:α->β} {l:List α} {w w':α} (h:l[i]? =some w) (e:f w'=f w):(l.set i w').map f=l.map f:=by
 refine VO λk=> ?_;rw [SA,SA];by_cases z:i=k;·subst z;rw [Ue (Sj.mp h).1,h];exact congrArg some e
 ·rw [Uq z]
theorem uz (h:l[i]? =some w) (Y:U):cz Y (.O (aW l)) (it i)=some (eX w.x):=jo Y (by rw [aW,SA,h];rfl)
theorem sN {l:List rq} {i:Nat} {w:rq} (h:l[i]? =some w) {LL:List (List En)} (e:l.map rq.es=LL) (Y:U):cz Y (.O (LL.map pV)) (it i)=some (pV w.es):=jo Y (by refine (e)▸((SA).symm▸ ?_);refine (SA).symm▸ ?_;refine (h).symm▸ ?_;rfl)
noncomputable def Sf:Ss:=(bf (aM cB 23)).2
section
variable (n:Nat) (j:Nat->J) (N c H C V:J) {LL:List (List En)}
theorem NT (W:Ws 12 l hs) (pn: ∀w∈l,w.p=w.es.length) (el:l.map rq.es=LL) (few:LL.length<=4096) {R_:Prop} (k_: ∀k x h,Rn (n+17) 23 ⟨qL j N c H C V [.O (LL.map pV),.O (aW l)],hs⟩ 24 ⟨qL j N c H C V [.O (LL.map pV),.O (aW k),x],h⟩->Ws 12 k h->(∀w∈k,w.p=0)->k.map rq.es=LL->R_):R_:=by
 let Q:Nat->St->Prop:=λi Y=> ∃k x h,Y=⟨qL j N c H C V [.O (LL.map pV),.O (aW l),x],h⟩/\Ws 12 k h/\aW k=aW l/\k.map rq.es=LL/\ ∀(a:Nat) (w:rq),k[a]? =some w->(a<i->w.p=0)/\(i<=a->w.p=w.es.length);have q0:Q 0 ⟨qL j N c H C V [.O (LL.map pV),.O (aW l)],hs⟩:=(d7 l .ah hs rfl W rfl el (λa w h=>⟨λq=>absurd q (UK _),λy=>pn w (Sk h)⟩));obtain ⟨τ,e,k,x,h,rfl,W',rk,ek,pk⟩:=fK (K:=ak (n+17)) (t:=.name 21) (b:=Sf) (n:=LL.length) few q0 λi Y hi q=>by
  refine gH q λk x h G9 W rk ek pk=> ?_;subst G9;refine aQ λcT k_1=> ?_;obtain ⟨w,hw⟩: ∃w,k[i]? =some w:=⟨_,Sn (by rw [<-ek,Sp] at hi;exact hi)⟩;have Wi:=W.wk w (Sk hw);have I:=W.inv w (Sk hw);replace I:=((pk i w hw).2 (Sv _))▸I;refine CN (k_:=λh1 S1 e1 I1 m1=> ?_) Wi.1 (N:=n+12) (TA _ _) I;have ι:=Wi.1.GU (n+17) (Sl (show 12<=17 by decide) (TA _ _));refine ig (ι.first I1) λh2 S2 e2 I2 m2=> ?_;refine k_1 (⟨⟨qL j N c H C V [.O (LL.map pV),.O (aW l),it i],h2⟩,.inl ?_,_,it i,h2,rfl,(W.move hw I2 (m1.trans m2)),(o7 (w':=⟨w.es,w.I,w.x,S2,0⟩) hw rfl).trans rk,(o7 (w':=⟨w.es,w.I,w.x,S2,0⟩) hw rfl).trans ek,λa v ha=> ?_⟩);·rw [<-rk];exact bg λZ=>Z _ (uz hw _) _ (sN hw ek _) _ e1 _ rfl _ (uz hw _) _ (aT (ι.cell I1) rfl rfl) _ e2
  ·by_cases z:i=a;·subst z;replace ha:=(Ue (Sj.mp hw).1)▸ha;obtain rfl:=Sm ha;exact ⟨λy=>rfl,λq=>absurd q (Zs _)⟩
   ·replace ha:=(Uq z)▸ha;exact ⟨λq=>(pk a v ha).1 (by exact (Ln.n2 0x1861200148a221001716040) z q),λq=>(pk a v ha).2 (by exact (Ln.n2 0x614040501288840) q)⟩
 have s23:eB (ak (n+17)) (aM cB 23) ⟨qL j N c H C V [.O (LL.map pV),.O (aW l)],hs⟩=nx (qL j N c H C V [.O (LL.map pV),.O (aW l),x]) h:=bH λZ=>Z _ _ (by rw [(Sp _)];exact e:jg (ak (n+17)) (.name 21) Sf [it (LL.map pV).length] ⟨qL j N c H C V [.O (LL.map pV),.O (aW l)],hs⟩=nx (qL j N c H C V [.O (LL.map pV),.O (aW l),x]) h);refine k_ k x h (by rw [rk];exact Rn.one s23 rfl) W' (λw hw=> ?_) ek;obtain ⟨a,ha⟩:=TJ.mp hw;refine (pk a w ha).1 ((ek)▸ ?_);rw [Sp];exact (Sj.mp ha).1
end
theorem all_true: ∀n:Nat,iD (Tf n (.bool true))=some (Tf n true)/\(Tf n true).all id=true/\(Tf n (J.bool true)).all atomic=true:=by
 intro l_;induction l_ with
 |zero=>exact ⟨rfl,rfl,rfl⟩
 |succ n aG=>exact by exact g8 (aG) λh1 h2 h3=>⟨by show Td _ (iD (Tf n (.bool true)))=_;rw [h1];rfl,h2,h3⟩
theorem IM {Q:Nat->St->Prop}: ∀(m s:Nat) (Y:St),(∀i Y,s<=i->i<s+m->Q i Y-> ∃τ,f (it i) Y=.ok (some v) τ/\Q (i+1) τ)->Q s Y-> ∃τ,each f ((Yw s m).map it) Y=.ok (Tf m v) τ/\Q (s+m) τ:=by
 intro l_;induction l_ with
 |zero=>exact @λz Y z q=>(aH Y rfl q)
 |succ m aG=>exact @λs Y step q=>by refine ay (step s Y (Sv _) (by exact (Ln.n2 0x48a288841000)) q) λτ e q1=> ?_;obtain ⟨υ,e2,q2⟩:=aG (s+1) τ (λi Y h1 h2=>step i Y (by exact (Ln.n2 0x614040501288840) h1) (by exact (Ln.n3 0x1848a28884204048a08a221040) h2)) q1;exact aH (υ) (jE e e2) (by rw [<-TU,TY];exact q2)
noncomputable def Bm:Ss:=(bf (aM cB 26)).2
noncomputable def adO:Ex:=.call (.of 32) (.cons (.item (.var 20) .cvar) (.cons (.item (.var 19) .cvar) (.cons (.lit (.int 0)) .nil)))
section
variable (n:Nat) (j:Nat->J) (c:J) {LL:List (List En)} {ms:List Nat} (m0:0<ms.length) (mK:ms.length<=20) {hist:List En} {sh:Nat} (H:lD hist sh) (h0:0<hist.length) (few:LL.length<=4096) (pos:0<LL.length)
include m0 mK H h0 pos few in theorem Nk (C V:J) {k l:List rq} (x:J) (W:Ws 12 (k++l) hs) (el:l.map rq.es=LL) {R_:Prop} (k_: ∀(x' y':J) (m:List rq) (h:U),Rn (n+17) 26 ⟨qL j (.O (its ms)) c (pV hist) C V [.O (LL.map pV),.O (aW k),x,.O (aW l)],hs⟩ 27 ⟨qL j (.O (its ms)) c (pV hist) C V [.O (LL.map pV),.O (aW k),x',.O (aW l),y'],h⟩->Ws 12 (k++m) h->R_):R_:=by
 let L (x y:J):List J:=qL j (.O (its ms)) c (pV hist) C V [.O (LL.map pV),.O (aW k),x,.O (aW l),y];let Q:Nat->St->Prop:=λu Y=> ∃x y m h,Y=⟨L x y,h⟩/\Ws 12 (k++m) h/\aW m=aW l/\m.map rq.es=LL;have q0:Q 0 ⟨L x .ah,hs⟩:=(AU x .ah l hs rfl W rfl el);have N1:(LL.map pV).length=LL.length:=Sp _;have lm:((LL.map pV).length:Int)-1=((LL.length-1:Nat):Int):=by exact (Ln.n2 0x186173cb22100b2213c1580052008) pos N1
 obtain ⟨nt,nt2,G⟩: ∃nt:Nat,nt<=2/\ ∀τ,jg (ak (n+17)) (.name 23) Bm [it nt] ⟨L x .ah,hs⟩=.ok .next τ->eB (ak (n+17)) (aM cB 26) ⟨L x .ah,hs⟩=.ok .next τ:=by
  by_cases z:(4:Int)<((its ms).length:Int);·exact ⟨2,Sv _,λτ e=>bH λZ=>Z _ (dT z) _ _ e⟩
  ·exact ⟨1,by decide,λτ e=>bH λZ=>Z _ (dF z) _ _ e⟩
 obtain ⟨τ,e,x',y',m,h,rfl,W',_,_⟩:=fK (K:=ak (n+17)) (t:=.name 23) (b:=Bm) (n:=nt) (Sl nt2 (by decide)) q0 λi Y hi q=>by
  refine aQ λcT k_1=>vC q λx y m h HW W rm em=> ?_;subst HW;have i2:i<2:=Sx hi nt2;have s0:eB (ak (n+17)) (aM Bm 0) ⟨L x (it i),h⟩=nx (L (it (LL.length-1)) (it i)) h:=bH λZ=>(Z).trans (show nx (L (.int (((LL.map pV).length:Int)-1)) (it i)) h=nx (L (it (LL.length-1)) (it i)) h from (by rw [lm]));obtain ⟨p,hp,s1⟩: ∃p,p<LL.length/\eB (ak (n+17)) (aM Bm 1) ⟨L (it (LL.length-1)) (it i),h⟩=nx (L (it p) (it i)) h:=by
   by_cases z:i=1;·refine ⟨draw ms 10%LL.length,UA _ pos,?_⟩;exact bH λZ=>Z _ (Cz z) _ (dQ (n+16) h m0 mK 10) _ (by exact (N1).symm▸(bO rfl pos):gK .mod (it (draw ms 10)) (it (LL.map pV).length)=some (it (draw ms 10%LL.length)))
   ·refine ⟨LL.length-1,U0 pos TV,?_⟩;exact bH λZ=>Z _ (uE z)
  obtain ⟨w,hw⟩: ∃w,m[p]? =some w:=⟨_,Sn (by rw [<-em,Sp] at hp;exact hp)⟩;have hw':(k++m)[k.length+p]? =some w:=by rw [TG (SI _ _),Vi];exact hw
  have Wi:=W.wk w (Sk hw');refine E9 (k_:=λh2 S2 p2 e2 I2 m2=> ?_) Wi.1 Wi.2 (N:=n+12) (TA _ _) m0 mK H h0 (11-5*i) (W.inv w (Sk hw'));have W2:=W.move hw' I2 m2;rw [WV _ _ (SI _ _),Vi] at W2;have f5:(11:Int)-((5*i:Nat):Int)=((11-5*i:Nat):Int):=by exact (Ln.n1 0x6173cb30022522b2cf30022522b488880) i2
  rw [<-show J.int ((11:Int)-((5*i:Nat):Int))=it (11-5*i) from congrArg _ f5] at e2;have s2:eB (ak (n+17)) (aM Bm 2) ⟨L (it p) (it i),h⟩=nx (L (it p) (it i)) h2:=bH λZ=>Z ((eX w.x)) (by exact (rm)▸(uz hw _)) _ (sN hw em _) _ (j9 (by decide)) _ e2 _ rfl;exact k_1 (⟨⟨L (it p) (it i),h2⟩,.inl (bZ s0 (bZ s1 (bZ s2 rfl)):cu (ak (n+17)) (.cons (aM Bm 0) (.cons (aM Bm 1) (.cons (aM Bm 2) .nil))) ⟨L x (it i),h⟩=nx (L (it p) (it i)) h2),it p,it i,_,h2,rfl,W2,(o7 (w':=⟨w.es,w.I,w.x,S2,p2⟩) hw rfl).trans rm,(o7 (w':=⟨w.es,w.I,w.x,S2,p2⟩) hw rfl).trans em⟩)
 exact k_ x' y' m h (Rn.one (G _ e) rfl) W'
end
section
variable (n:Nat) (j:Nat->J) (N c H C V x R y:J) {LL:List (List En)} (few:LL.length<=4096)
include few in theorem MA (W:Ws 12 (k++m) hs) (p0: ∀w∈k,w.p=0) (ek:k.map rq.es=LL) {R_:Prop} (k_: ∀h,Rn (n+17) 27 ⟨qL j N c H C V [.O (LL.map pV),.O (aW k),x,R,y],hs⟩ 28 ⟨qL j N c H C V [.O (LL.map pV),.O (aW k),x,R,y],h⟩->R_):R_:=by
 let L:List J:=qL j N c H C V [.O (LL.map pV),.O (aW k),x,R,y];obtain ⟨τ,e,h,rfl,ex⟩:=IM (f:=jh (ak (n+17)) adO .none) (v:=.bool true) (Q:=λz Y=> ∃h,Y=⟨L,h⟩/\bG hs h) LL.length 0 ⟨L,hs⟩ (λi Y z hi q=>by refine ay q λh nR ex=> ?_;subst nR;rw [TX] at hi;obtain ⟨w,hw⟩: ∃w,k[i]? =some w:=⟨_,Sn (by rw [<-ek,Sp] at hi;exact hi)⟩;have mw:=TP m (Sk hw);have Wi:=(W.wk w mw).1;have I:=W.inv w mw;rw [p0 w (Sk hw)] at I;refine qv (k_:=λh2 e2 x2=> ?_) Wi (N:=n+13) (TA 12 (n+1)) (iV Wi (Sv _) I ex) (Sn Wi.pos);refine ⟨⟨L,h2⟩,mH ?_,h2,rfl,ex.trans x2⟩;exact dU λZ=>Z _ (uz hw _) _ (sN hw ek _) _ e2) (aH hs rfl (.refl hs));rw [<-qg] at e;refine g8 (all_true LL.length) λa1 a2 a3=> ?_;have ab:Td (λl:List Bool=>J.bool (l.all id)) (iD (Tf LL.length (.bool true)))=some (.bool true):=by rw [a1];show some (J.bool ((Tf LL.length true).all id))=_;refine (a2).symm▸ ?_;rfl
 exact k_ h.bY (Rn.one (bH λZ=>Z _ (by exact ((Sp _)).symm▸(dG few):cG [it (LL.map pV).length]=some (Ec LL.length)) _ _ e _ _ (aS a3) _ ab _ rfl) rfl)
end
theorem FY (n:Nat) (j:Nat->J) (N c H x:J) {LL:List (List En)} (pos:0<LL.length) {cnt:Nat} {g0:List G} {GD:List (List G)} (hc:GD.length+1=cnt) (c8:cnt<=8) (V:VG (g0::GD) t) (eL:g0.reverse.map TH++bD (GD.map λgs=>gs.map TH)=LL) {hs:U} (W:Ws 12 k hs) {R_:Prop} (k_: ∀l h,Rn (n+17) 24 ⟨qL j N c H (dc t) (gQ cnt (vM (g0::GD))) [.O (LL.map pV),.O (aW k),x],hs⟩ 26 ⟨qL j N c H (dc t) (gQ cnt (vM (g0::GD))) [.O (LL.map pV),.O (aW k),x,.O (aW l)],h⟩->Ws 12 (k++l) h->l.map rq.es=LL->R_):R_:=by
 refine mZ (k_:=λl h1 e1 x1 W1 pn el=> ?_) (n+11) hs hc c8 V;replace el:=(eL)▸el;let v:=gQ cnt (vM (g0::GD));let A:List J:=qL j N c H (dc t) v [.O (LL.map pV),.O (aW k),x];let B:List J:=qL j N c H (dc t) v [.O (LL.map pV),.O (aW k),x,.O (aW l)];have N1:(LL.map pV).length=LL.length:=Sp _;have lm:((LL.map pV).length:Int)-1=((LL.length-1:Nat):Int):=by exact (Ln.n2 0x186173cb22100b2213c1580052008) pos N1
 obtain ⟨w,hw⟩: ∃w,l[LL.length-1]? =some w:=⟨_,Sn (by rw [<-el,Sp] at pos⊢;exact U0 pos TV)⟩;have mw:=Sk hw;have I:=W1.inv w mw;rw [(pn w mw).1] at I;refine jR (k_:=λh2 e2 x2=> ?_) (W1.wk w mw).1 (N:=n+13) (TA 12 (n+1)) I (pl:=0-1) (λq=>absurd q.1 (by decide));have s24:eB (ak (n+17)) (aM cB 24) ⟨A,hs⟩=nx B h1:=bH λZ=>Z _ rfl _ e1;have s25:eB (ak (n+17)) (aM cB 25) ⟨B,h1⟩=nx B h2:=bH λZ=>Z ((eX w.x)) (by rw [lm];exact uz hw _) ((pV w.es)) (by rw [lm];exact sN hw el _) _ e2 _ rfl;exact k_ l h2 ((Rn.one s24 rfl).trans (Rn.one s25 rfl)) ((W.append x1 W1 λw hw=>(pn w hw).2).ext x2) el
noncomputable def qW:Ss:=(bf (aM cB 28)).2
theorem Q8 (Y:U) (p:Bool) (m:Nat) (d:List UInt8):Td J.bool (rt Y .ne (.bW [.bool p,it m,.bytes d]) (.bW [.bool p,it m,.bytes d]))=some (.bool false):=by
 show Td J.bool (Td (!·) (match some (p==p) with
  |some true=>(match some (decide ((m:Int)=m)) with
   |some true=>(match some (decide (d=d)) with
    |some true=>some true
    |some false=>_
    |none=>_)
   |some false=>_
   |none=>_)
  |some false=>_
  |none=>_))=_;rw [beq_self_eq_true,dT rfl,dT rfl];rfl
theorem LN (o:Option En): ∃(p:Bool) (m:Nat) (d:List UInt8),NI o=.bW [.bool p,it m,.bytes d]:=by
 cases o with
 |none=>exact Ho _ _ _ rfl
 |some e=>
  show ∃p m d,j4 e=_;unfold j4;by_cases z:e.k=0;·rw [if_pos z];exact Ho _ _ _ rfl
  ·rw [if_neg z];exact (Ho _ _ _ rfl)
section
variable (n:Nat) (j:Nat->J) (c L R x Q y:J) {ms:List Nat} (m0:0<ms.length) (mK:ms.length<=20) {hist:List En} {sh:Nat} (H:lD hist sh) (h0:0<hist.length) {LL:List (List En)} (T:Ed hist LL) {cnt:Nat} {g0:List G} {GD:List (List G)} {t:List (Int×J)} (hc:GD.length+1=cnt) (c8:cnt<=8) (V:VG (g0::GD) t) (eL:g0.reverse.map TH++bD (GD.map λgs=>gs.map TH)=LL)
include m0 mK H h0 T hc c8 V eL
theorem Le (hi:i<5) (k a b m g:J) (hs:U) {R_:Prop} (k_: ∀a' b' m' g' h,cA (ak (n+17)) (.name 24) qW (it i) ⟨qL j (.O (its ms)) c (pV hist) (dc t) (gQ cnt (vM (g0::GD))) [L,R,x,Q,y,k,a,b,m,g],hs⟩=nx (qL j (.O (its ms)) c (pV hist) (dc t) (gQ cnt (vM (g0::GD))) [L,R,x,Q,y,it i,a',b',m',g']) h->R_):R_:=by
 let v:=gQ cnt (vM (g0::GD));let S (a b m g:J):List J:=qL j (.O (its ms)) c (pV hist) (dc t) v [L,R,x,Q,y,it i,a,b,m,g];let d:=draw ms (15+i);let u:=(d+2*i)%5;let p:=(d/5+i)%hist.length;let z:=d/50%3;have hu:u<5:=UA _ (by decide);have hz:z<3:=UA _ (by decide);obtain ⟨e,he⟩: ∃e,hist[p]? =some e:=⟨_,Sn (UA _ h0)⟩;have oe:=H.ok e (Sk he);have q0:=oe.q0;have q1:=oe.q;let q:=e.q+1-z;have mq: -(e.q:Int)+(z:Int)-1= -(q:Int):=by exact (Ln.n2 0x6185ce3cb00a22104b22128f00e3c15012224888c0) hz q0
 have hq:q<2^56:=by exact (Ln.n3 0x6184888208208208208208208208425ce3c22c884a3c138f012220820820820820820820821288880) q1 mq
 refine NV (k_:=λh2 e2 x2=> ?_) (n+8) hs.bY hc c8 V hu hq;rw [eL,Ge H T] at e2;let o:=hist.find? (GN u q);refine CB (k_:=λh3 e3 x3=> ?_) (n+15) h2 H.ok u q;refine IJ (LN o) λbb mm dd ea=> ?_;let r:J:=.bW [.bool bb,it mm,.bytes dd];rw [show NI (hist.find? (GN u q))=r from ea] at e2 e3;have lu:((d:Int)+((2*i:Nat):Int))=((d+2*i:Nat):Int):=by exact (Ln.n2 0x5cf28c04888028f3012223c0)
 have lp:(((d/5:Nat):Int)+(i:Int))=((d/5+i:Nat):Int):=by exact (Ln.n2 0x5cf28100a3c13c0)
 have s0:eB (ak (n+17)) (aM qW 0) ⟨S a b m g,hs⟩=nx (S (it d) b m g) hs:=bH λZ=>Z _ (dQ (n+16) hs m0 mK (15+i));have s1:eB (ak (n+17)) (aM qW 1) ⟨S (it d) b m g,hs⟩=nx (S (it d) (it u) m g) hs:=bH λZ=>Z _ (j9 (by decide)) _ (bO lu (by decide));have eh:cz hs (pV hist) (it p)=some e.v:=jo hs (by refine (SA).symm▸ ?_;refine (he).symm▸ ?_;rfl);have s2:eB (ak (n+17)) (aM qW 2) ⟨S (it d) (it u) m g,hs⟩=nx (S (it d) (it u) (neg q) g) hs:=bH λZ=>(Z _ (bT rfl (by decide) (by decide)) _ ((((Sp _)).symm▸(bO lp h0)):gK .mod (.int (((d/5:Nat):Int)+(i:Int))) (it (aV hist).length)=some (it p)) _ eh (neg e.q) (nO hs rfl) _ (bT rfl (by decide) (by decide)) _ (bO rfl (by decide))).trans (show nx (S (it d) (it u) (.int (-(e.q:Int)+(z:Int)-1)) g) hs=nx (S (it d) (it u) (neg q) g) hs by rw [mq]);have s3:eB (ak (n+17)) (aM qW 3) ⟨S (it d) (it u) (neg q) g,hs⟩=nx (S (it d) (it u) (neg q) r) h2:=bH λZ=>Z _ rfl _ (oY (n+16) hs hu) (.ok r h2) (by rw [uA];exact e2);have s4:eB (ak (n+17)) (aM qW 4) ⟨S (it d) (it u) (neg q) r,h2⟩=nx (S (it d) (it u) (neg q) r) h3:=bH λZ=>Z _ e3 _ (Q8 h3 bb mm dd) _ rfl _ (nO h3 rfl) _ rfl;exact k_ _ _ _ _ h3 (bZ s0 (bZ s1 (bZ s2 (bZ s3 (bZ s4 rfl)))):cu (ak (n+17)) (.cons (aM qW 0) (.cons (aM qW 1) (.cons (aM qW 2) (.cons (aM qW 3) (.cons (aM qW 4) .nil))))) ⟨S a b m g,hs⟩=nx (S (it d) (it u) (neg q) r) h3)
end
section
variable (n:Nat) (j:Nat->J) (c:J) {ms:List Nat} (m0:0<ms.length) (mK:ms.length<=20) {hist:List En} {sh:Nat} (H:lD hist sh) (h0:0<hist.length) {LL:List (List En)} (T:Ed hist LL) {cnt:Nat} {g0:List G} {GD:List (List G)} {t:List (Int×J)} (hc:GD.length+1=cnt) (c8:cnt<=8) (V:VG (g0::GD) t) (eL:g0.reverse.map TH++bD (GD.map λgs=>gs.map TH)=LL)
include m0 mK H h0 T hc c8 V eL
theorem Nd (L R x Q y:J) (hs:U) {R_:Prop} (k_: ∀Y,Rn (n+17) 28 ⟨qL j (.O (its ms)) c (pV hist) (dc t) (gQ cnt (vM (g0::GD))) [L,R,x,Q,y],hs⟩ 29 Y->R_):R_:=by
 let v:=gQ cnt (vM (g0::GD));let A (k a b m g:J):List J:=qL j (.O (its ms)) c (pV hist) (dc t) v [L,R,x,Q,y,k,a,b,m,g];have W: ∀nt:Nat,nt<=5-> ∃τ,jg (ak (n+17)) (.name 24) qW [it nt] ⟨A .ah .ah .ah .ah .ah,hs⟩=.ok .next τ:=λnt h5=>by
  obtain ⟨τ,e,_⟩:=fK (K:=ak (n+17)) (t:=.name 24) (b:=qW) (n:=nt) (Q:=λu Y=> ∃k a b m g h,Y=⟨A k a b m g,h⟩) (Sl h5 (by decide)) (acy _ _ _ _ _ _ rfl) λi Y hi q=>by refine ac8 q λk a b m g h aev=> ?_;subst aev;refine Le (k_:=λa' b' m' g' h' e=> ?_) n j c L R x Q y m0 mK H h0 T hc c8 V eL (Sx hi h5) k a b m g h;exact ⟨_,.inl e,_,_,_,_,_,_,rfl⟩
  exact ⟨τ,e⟩
 by_cases z:(2:Int)<((its ms).length:Int);·obtain ⟨τ,e⟩:=W 5 (Sv _);exact k_ τ (Rn.one (bH λZ=>Z _ (dT z) _ _ e) rfl)
 ·obtain ⟨τ,e⟩:=W 3 (by decide);exact k_ τ (Rn.one (bH λZ=>Z _ (dF z) _ _ e) rfl)
end
theorem Oj (n:Nat) (l:List Int) (hs:U): ∃h,ak (n+18) (.of 36) [.O (l.map .int)] hs=.ok (.bool true) h:=by
 refine Nt (k_:=λms h1 r1 m0 mK=> ?_) (n+17) l hs;refine L3 (k_:=λa cnt fr h2 r2 c2 c4 f1 f3=> ?_) (n+16) m0 mK (.O (l.map .int)) h1;refine Oc (k_:=λes p0 LD nz h3 r3 Dr=> ?_) (n+15) m0 mK (a:=a) c2 c4 f1 f3 (.O (l.map .int)) h2;have c8:cnt<=8:=Sl c4 (by decide);let j0:Nat->J:=λi=>[.O (l.map .int),.O (its ms),it a,.none,it fr,pV es].getD i .none;refine Jf (k_:=λb cs h4 r4 B=> ?_) (n+16) (j:=j0) (LS:=p0::LD) (nz:=nz) c8 h3;refine F8 (k_:=λGS D t0 t x1 x2 x3 x4 x5 x6 h5 r5 HS T=> ?_) (n+12) Dr (j:=j0) B;refine aQ λcT k_1=> ?_;cases GS with
 |nil=>exact absurd HS.len.symm (UG (Sx (by decide) c2))
 |cons g0 GD=>
  let ls:List J:=[.O (l.map .int),.none,it a,.none,it fr,.none,BL (p0::LD),.O (its nz),cS,ie,.none,.none,it D.length,x1,x2,x3,x4,x5,x6];let j:Nat->J:=jL (λi=>ls.getD i .none) (p0::LD);let v:=gQ cnt (vM (g0::GD));refine Ff (k_:=λk h6 r6 W pn el=> ?_) (n+11) Dr HS T (λi=>ls.getD i .none) (.O (its ms)) (it cnt) (pV es) h5;have Ls:=II Dr.H Dr.e8 Dr.L;have hc:GD.length+1=cnt:=HS.len;have V:=Pa Dr.H Dr.e8 Dr.L Dr.len Dr.nd Dr.Qq Dr.nb HS T;have eL:g0.reverse.map TH++bD (GD.map λgs=>gs.map TH)=p0++bD LD:=by refine ((Eo Dr.len HS).1).symm▸(((Eo Dr.len HS).2).symm▸ ?_);rfl
  have pos:0<(p0++bD LD).length:=by obtain ⟨e,he⟩:=Yj Dr.e0;exact ay (Ls.all e he) λq hq z=>Y6 hq
  have few:(p0++bD LD).length<=4096:=by have a1:=sI Dr.L (l:=0) rfl;have a2:(bD LD).length<=LD.length:=Sl (UW _ _) (Ub (Sp _));have a3:LD.length+1=cnt:=Dr.len;have a4:=Dr.e8;exact (Sq).symm▸((Ln.n5 0x61861861422082084a0c1508a025802888445040d4081508900) c4 a1 a2 a3 a4)
  refine NT (k_:=λk2 x h7 r7 W7 p7 e7=> ?_) n j (.O (its ms)) (it cnt) (pV es) (dc t) v W pn el few;refine FY (k_:=λm h8 r8 W8 e8=> ?_) n j (.O (its ms)) (it cnt) (pV es) x pos hc c8 V eL W7;refine Nk (k_:=λx' y' m2 h9 r9 W9=> ?_) n j (it cnt) m0 mK Dr.H Dr.e0 few pos (dc t) v x W8 e8;refine MA (k_:=λSg r10=> ?_) n j (.O (its ms)) (it cnt) (pV es) (dc t) v x' (.O (aW m)) y' few W9 p7 e7;refine Nd (k_:=λY r11=> ?_) n j (it cnt) m0 mK Dr.H Dr.e0 Ls hc c8 V eL (.O ((p0++bD LD).map pV)) (.O (aW k2)) x' (.O (aW m)) y' Sg;exact k_1 (⟨Y.hs,xD (f:=(.of 36)) (args:=[.O (l.map .int)]) ((r1.trans (r2.trans (r3.trans (r4.trans (r5.trans (r6.trans (r7.trans (r8.trans (r9.trans (r10.trans r11)))))))))) (.ok (.ret (.bool true)) Y) rfl) rfl rfl⟩)
end Mine
namespace Mine
theorem GB:PySem.Challenge.rw_xm0829_01.Holds:=Gv λl z=>let ⟨h,e⟩:=Oj 0 l _;⟨h,e⟩
end Mine
theorem PySem.Challenge.cw_xm0829_01_holds : PySem.Challenge.rw_xm0829_01.Holds :=
  Mine.GB
