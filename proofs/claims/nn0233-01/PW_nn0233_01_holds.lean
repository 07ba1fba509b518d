import PyProof.Rows.All
import Wide.All
import OpenK.AllK
import Wide.FinOn
import Lean
import PySem.Challenge.RW_nn0233_01
set_option maxHeartbeats 0
open PySem PySem.W PyProof.Rows PySem.Calls
set_option Elab.async false
set_option maxRecDepth 100000
set_option linter.all false
set_option compiler.extract_closed false
set_option bootstrap.genMatcherCode false
set_option genInjectivity false
set_option genSizeOf false
set_option genSizeOfSpec false
set_option genCtorIdx false
set_option tactic.hygienic false
open Sem (wp)
namespace Mine.Internal
open _root_.PySem.Str renaming ofString->aA
open _root_.Nat renaming le_of_ble_eq_true->aB,le_refl->aR,le_trans->aS,zero_le->bG,succ_le_succ->bL,ne_of_lt->bQ,add_sub_cancel_left->cA,lt_succ_self->cU,le_add_right->dC,min_eq_left->dH,lt_of_lt_of_le->dK,add_le_add_right->dM,mul_le_mul_left->dS,le_of_eq->dZ,add_comm->eK,le_succ->fE,lt_of_le_of_lt->fR,min_le_left->fT,ne_of_gt->gF,sub_lt_sub_left->gJ,add_le_add_left->gK,lt_irrefl->gO,mul_div_cancel_left->gX,zero_add->hZ,sub_self->iA,le_succ_of_le->iB,min_le_right->iN,succ_mul->iZ,lt_trans->jA,lt_or_ge->jB,le_of_lt->jC,succ_add_eq_add_succ->kC,min_eq_right->kF,mul_comm->kK,pow_le_pow_right->lC,one_pos->lD,add_assoc->lR,add_sub_cancel->lX
open _root_.List renaming mem_append_right->aC,mem_append_left->aG,length_append->aI,getD_eq_getElem?_getD->aK,mem_singleton->aL,getElem?_eq_getElem->aM,append_assoc->aP,length_map->aQ,getElem?_eq_some_iff->aT,take_add_one->aV,size_toArray->aX,mem_map_of_mem->aY,nodup_cons->aZ,append_nil->bA,map_append->bB,take_length->bD,mem_cons->bE,length_take->bK,take_of_length_le->bN,replicate->bO,mem_of_getElem?->bT,length_cons->bW,getElem?_append_left->cD,getElem?_append_right->cF,getElem?_map->cJ,length_replicate->cL,mem_append->cM,map_cons->cP,perm_append_comm->cV,range->cX,not_mem_nil->cZ,drop_eq_getElem_cons->dD,flatten_cons->dF,getElem?_eq_none->dG,length_take_le'->dL,length_range->dQ,all_eq_true->dU,mem_map->dX,mem_cons_of_mem->eA,nodup_append->eC,toArray->eG,drop_eq_nil_of_le->eH,length_drop->eN,length_nil->eW,mem_of_mem_take->eZ,mem_of_mem_drop->fA,flatMap_cons->fB,all_cons->fF,flatMap_append->fG,nodup_nil->fH,length_singleton->fU,perm_middle->gB,map_map->gC,cons_ne_nil->gD,range_succ->gQ,take_append_drop->iI,isEmpty_iff->iJ,drop_length->iK,getElem?_range->iP,flatten_append->iQ,mem_cons_self->jG,drop_zero->jH,reverse_cons->jT,length->jU,reverse_reverse->kY,replicate_succ'->kZ,drop_drop->lA,length_flatten->lM
open _root_.PySem renaming wpAny_bind->aD,Expr->aE,Value->aF,Shared->aH,Addr->aJ,wpAny_pure->aO,Heap->bF,wpAny_of_eq->bH,World->bP,Around->bS,builtinLookup_eq_fast->bV,Program->bY,wpAny_specialOf->bZ,Scope->cB,Comprehension->cI,typeLookup_type->cQ,wpAny_newObj_type->cS,wpAny_field->dA,Params->dB,DictEntry->dO,Arguments->dP,sizeLine_eq->dT,Stmt->dY,wpAny_isInstance->eB,Result->eI,wpAny_holding->eP,isSubtype_type->eU,wpAny_rule->fL,wpAny_mono->fM,plainId_quiet->fX,wpAny_loadPart_at->gA,wpAny_load->gH,bm_if_false->gI,wpAny_typeOf->gM,wpAny_call_entry->gN,stored->gY,wpAny_callSpecial?_slot->iE,wpAny_setField->iL,BindsTo->iT,codeAny_call_builtin->iV,codeAny_of_tree->jI,codeAny_builtin->jJ,wpAny_isSubtype_exc->jO,Model->jP,evalPart_none_step->jZ,Flow->kA,wpAny_standAt->kI,Operator->kT,NameKind->kU,wpAny_execs_nil->lJ,valueAt->lK,strKind->lL,wpAny_storeName_cell->lS,wpAny_ite_true->lT,wpAny_bindName->lU,callType_codes->lV,CmpOp->lW,PassesOwn->lY
open _root_.PySem.Heap renaming get?_push_of_some->aN,get?_push_size->bC,lt_size->bM,get?_update_self->bU,dictOf_iff->cC,SameBut->eF,ExtBut->gU,size_push->gZ,get?_update_other->kH
open _root_.Option.some renaming inj->aU
open _root_.PySem.Builtin.Range renaming rangeSize->aW,small->eQ
open _root_.Bool renaming and_eq_true_iff->bI,false_ne_true->eO,and_eq_true->fK,false_eq_true->gT,and_false->hV,not_eq_true'->jV
open _root_.PySem.Challenge renaming rw_nn0233_01->bJ
open _root_.Int renaming emod_lt_of_pos->bR,emod_nonneg->bX,eq_ofNat_of_zero_le->cG,zero_add->cW,emod_eq_of_lt->dR,toNat_natCast->eD,ediv_ediv_of_nonneg->eE,ediv_eq_zero_of_lt->eM,toNat_sub->fV,add_comm->gG,natCast_nonneg->gV,ediv_one->iC,add_mul_ediv_right->iD,le_refl->iO,sub_le_self->iR,toNat_of_nonneg->iU,ne_of_gt->jD,le_of_lt->jE,lt_of_le_of_lt->jM,add_sub_cancel->jN,one_mul->jX,mul_one->jY,ofNat_lt->kM,ediv_nonneg->kQ,mul_ediv_add_emod->kW,ediv_lt_of_lt_mul->kX,sub_nonneg_of_le->lE,pow_pos->lF,mul_nonneg->lG,le_of_lt_add_one->lH,add_mul->lI
open _root_.PyProof.Rows renaming IntsAre->cE,News->fQ,subscriptTail_builtin->fZ,assignInOrder_cons->kB
open _root_.PySem.PyData renaming keyHash->cH
open _root_.PySem.W.Fast renaming tw14364793385576792824->cK,te14364793385576792824->cY,te5923862056798008813->fY
open _root_.PySem.W.KBw renaming bInts->cN,IsBytesIter->eX,ints_length->fS,pyIter_bytes->iM,iter_typeIs->kN,slot_next->lP
open _root_.PySem.W renaming typeIs_bytes->cO,boot_heap->iF,hideAll_get->iW,putName_dict->jR,hideAll_none->jS,Looks->kR
open _root_.Option renaming map_eq_some_iff->cR,isSome_iff_exists->jQ
open _root_.PySem.Around renaming frames_deeper->dI,under_plainId->dW
open _root_.PySem.Heap.SameBut renaming update->dJ
open _root_.PySem.Value renaming none->dN,str->gR,ref->gS,type->iX,bytes->kS
open _root_.PySem.Builtin renaming bitAnd->eJ,bitOr->fN
open _root_.PySem.Builtin.Bytes renaming decodersThatHold->eR,ownRelease->fW,exported->gE,payload->gL,write->hM
open _root_.PySem.Builtin.Int renaming intBits->eS
open _root_.PySem.W.SharedT renaming mk->eV
open _root_.Prod renaming ext->eY
open _root_.PySem.Sem renaming wp_mono->fC
open _root_.PySem.Keeper renaming boundFrame->gW,machine->iS,frame->kE
open _root_.PySem.Expr renaming Name->iG
open _root_.PySem.Builtin.List renaming listExtendWith->iH,listItems->jF
open _root_.PySem.Flow renaming next->iY
open _root_.PySem.Obj renaming data_mapFields->jK,putName->lB
open _root_.PySem.F renaming slot_list_extend->jL,args_object_init_2->lO
open _root_.LawfulBEq renaming eq_of_beq->jW
open _root_.List.Perm renaming append_left->kD
open _root_.And renaming intro->kG
open _root_.PySem.Env renaming kindOf->kJ
open _root_.PySem.W.InstAt renaming of_news->kO
open _root_.Ne renaming symm->kP
open _root_.PySem.Heap.DictOf renaming new->lN
open _root_.PySem.Code renaming quiet_builtin->lQ,builtin->lZ
set_option hygiene false
set_option hygiene true
section
theorem M7{P:Prop}(h:∀ G:Prop,(P->G)->G):P:=h P id
theorem XD{p0 p1 p2:Prop}{G:Prop}(h:p0/\p1/\p2)(k:p0->p1->p2->G):G:=k h.1 h.2.1 h.2.2
theorem XC{α0:Type _}{p0:α0->Prop}{G:Prop}(h:∃ x0,p0 x0)(k:∀ x0,p0 x0->G):G:=h.elim λ x0 h0=>k x0 h0
theorem C8{α0:Type _}{p0 p1:α0->Prop}{G:Prop}(h:∃ x0,p0 x0/\p1 x0)(k:∀ x0,p0 x0->p1 x0->G):G:=h.elim λ x0 h0=>k x0 h0.1 h0.2
theorem R9{α0:Type _}{p0 p1 p2:α0->Prop}{G:Prop}(h:∃ x0,p0 x0/\p1 x0/\p2 x0)(k:∀ x0,p0 x0->p1 x0->p2 x0->G):G:=h.elim λ x0 h0=>k x0 h0.1 h0.2.1 h0.2.2
theorem DI{α0:Type _}{p0 p1 p2 p3:α0->Prop}{G:Prop}(h:∃ x0,p0 x0/\p1 x0/\p2 x0/\p3 x0)(k:∀ x0,p0 x0->p1 x0->p2 x0->p3 x0->G):G:=h.elim λ x0 h0=>k x0 h0.1 h0.2.1 h0.2.2.1 h0.2.2.2
theorem VN{α0:Type _}{α1:Type _}{p0:α0->α1->Prop}{G:Prop}(h:∃ x0 x1,p0 x0 x1)(k:∀ x0 x1,p0 x0 x1->G):G:=h.elim λ x0 h0=>h0.elim λ x1 h1=>k x0 x1 h1
theorem Q4{α0:Type _}{α1:Type _}{p0 p1:α0->α1->Prop}{G:Prop}(h:∃ x0 x1,p0 x0 x1/\p1 x0 x1)(k:∀ x0 x1,p0 x0 x1->p1 x0 x1->G):G:=h.elim λ x0 h0=>h0.elim λ x1 h1=>k x0 x1 h1.1 h1.2
theorem w9{α0:Type _}{α1:Type _}{p0 p1 p2:α0->α1->Prop}{G:Prop}(h:∃ x0 x1,p0 x0 x1/\p1 x0 x1/\p2 x0 x1)(k:∀ x0 x1,p0 x0 x1->p1 x0 x1->p2 x0 x1->G):G:=h.elim λ x0 h0=>h0.elim λ x1 h1=>k x0 x1 h1.1 h1.2.1 h1.2.2
theorem VM{α0:Type _}{α1:Type _}{p0 p1 p2 p3:α0->α1->Prop}{G:Prop}(h:∃ x0 x1,p0 x0 x1/\p1 x0 x1/\p2 x0 x1/\p3 x0 x1)(k:∀ x0 x1,p0 x0 x1->p1 x0 x1->p2 x0 x1->p3 x0 x1->G):G:=h.elim λ x0 h0=>h0.elim λ x1 h1=>k x0 x1 h1.1 h1.2.1 h1.2.2.1 h1.2.2.2
theorem XB{α0:Type _}{α1:Type _}{α2:Type _}{p0:α0->α1->α2->Prop}{G:Prop}(h:∃ x0 x1 x2,p0 x0 x1 x2)(k:∀ x0 x1 x2,p0 x0 x1 x2->G):G:=h.elim λ x0 h0=>h0.elim λ x1 h1=>h1.elim λ x2 h2=>k x0 x1 x2 h2
theorem k3{α0:Type _}{α1:Type _}{α2:Type _}{p0 p1 p2:α0->α1->α2->Prop}{G:Prop}(h:∃ x0 x1 x2,p0 x0 x1 x2/\p1 x0 x1 x2/\p2 x0 x1 x2)(k:∀ x0 x1 x2,p0 x0 x1 x2->p1 x0 x1 x2->p2 x0 x1 x2->G):G:=h.elim λ x0 h0=>h0.elim λ x1 h1=>h1.elim λ x2 h2=>k x0 x1 x2 h2.1 h2.2.1 h2.2.2
theorem VL{α0:Type _}{α1:Type _}{α2:Type _}{α3:Type _}{p0:α0->α1->α2->α3->Prop}{G:Prop}(h:∃ x0 x1 x2 x3,p0 x0 x1 x2 x3)(k:∀ x0 x1 x2 x3,p0 x0 x1 x2 x3->G):G:=h.elim λ x0 h0=>h0.elim λ x1 h1=>h1.elim λ x2 h2=>h2.elim λ x3 h3=>k x0 x1 x2 x3 h3
theorem OJ{α0:Type _}{α1:Type _}{α2:Type _}{α3:Type _}{α4:Type _}{p0:α0->α1->α2->α3->α4->Prop}{G:Prop}(h:∃ x0 x1 x2 x3 x4,p0 x0 x1 x2 x3 x4)(k:∀ x0 x1 x2 x3 x4,p0 x0 x1 x2 x3 x4->G):G:=h.elim λ x0 h0=>h0.elim λ x1 h1=>h1.elim λ x2 h2=>h2.elim λ x3 h3=>h3.elim λ x4 h4=>k x0 x1 x2 x3 x4 h4
theorem BW{α:Type _}{p q:α}{l:List α}{G:Prop}(h:p∈q::l)(h1:p=q->G)(h2:p∈l->G):G:=(bE.mp h).elim h1 h2
theorem S3{α:Type _}{C:α->Prop}{p q:α}{l:List α}(h:p∈q::l)(h1:C q)(h2:p∈l->C p):C p:=(bE.mp h).elim (λ e=>e▸h1) h2
theorem CQ{α:Type _}{p:α}{l r:List α}{G:Prop}(h:p∈l++r)(h1:p∈l->G)(h2:p∈r->G):G:=(cM.mp h).elim h1 h2
theorem j7{α β:Type _}{f:α->β}{l:List α}{b:β}{G:Prop}(h:b∈l.map f)(q:∀ a,a∈l->f a=b->G):G:=C8 (dX.mp h) q
theorem LR{α β:Type _}{C:β->Prop}{f:α->β}{l:List α}{b:β}(h:b∈l.map f)(q:∀ a,a∈l->C (f a)):C b:=C8 (dX.mp h) λ a h e=>e▸q a h
theorem ff{P:Prop}(h:false=true):P:=nomatch h
theorem nn{α:Type _}{i:α}{P:Prop}(h:none=some i):P:=nomatch h
theorem nm{α:Type _}{i:α}{P:Prop}(h:i∈[]):P:=nomatch h
theorem Eh{α β:Type _}{M:α×β->Prop}(k:∀ a b,M (a,b)):∀ s,M s:=λ s=>k s.1 s.2
theorem Bw{α β γ:Type _}{M:α×β×γ->Prop}(k:∀ a b c,M (a,b,c)):∀ s,M s:=λ s=>k s.1 s.2.1 s.2.2
theorem MQ{α β γ δ:Type _}{M:α×β×γ×δ->Prop}(k:∀ a b c d,M (a,b,c,d)):∀ s,M s:=λ s=>k s.1 s.2.1 s.2.2.1 s.2.2.2
theorem Yd{α β γ δ ε:Type _}{M:α×β×γ×δ×ε->Prop}(k:∀ a b c d e,M (a,b,c,d,e)):∀ s,M s:=λ s=>k s.1 s.2.1 s.2.2.1 s.2.2.2.1 s.2.2.2.2
end
section
set_option linter.unusedVariables false
noncomputable abbrev PR:bY:=PySem.Challenge.rw_nn0233_01.row.toRowW.1
noncomputable def st(i:Nat):dY:=PR.main.body.getD i (.Pass ⟨0,0,0,0⟩)
noncomputable def mt(i j:Nat):dY:=match st i with | .ClassDef _ _ _ b .. =>b.getD j (.Pass ⟨0,0,0,0⟩) | s=>s
noncomputable def tE:Obj:=⟨.type "tuple",none,.seq #[] 0,#[]⟩
noncomputable def nE:Obj:=⟨.none,none,.fields #[],#[]⟩
noncomputable abbrev dE(P:dB)(k:Str)(t:Tok)(v:aF):dO:=⟨cH P k,.str k t,v⟩
noncomputable abbrev nd:=@BT.node
noncomputable abbrev nl:=BT.nil
noncomputable def fO{n:Str}{a:dP}{b:List dY}{d r tp sc ts bd ps}(s:dY)(_:s= .FunctionDef n a b d r tp sc ts bd ps)(c:aF)(di:Option aJ)(q:Str)(g:aJ)(dV kV dc pm:aF)(an:Option aJ)(cd ct:aF)(bi:aJ)(sl:Array (Option aF)):Obj:=
 ⟨c,di,.func {name:=n,qualname:=q,params:=a,body:= .stmts b,scope:=sc,globals:=g,closure:=[],defaults:=dV,kwdefaults:=kV,doc:=dc,pyModule:=pm,annotations:=an,code:=cd,closureTuple:=ct,builtins:=bi},sl⟩
noncomputable def fI(s:dY)(di:Option aJ)(q:Str)(g:aJ)(dV kV dc pm:aF)(an:Option aJ)(cd ct:aF)(bi:aJ)(sl:Array (Option aF)):Obj:=match s with
 | .FunctionDef n a b _ _ _ sc _ _ _=>⟨.none,di,.func {name:=n,qualname:=q,params:=a,body:= .stmts b,scope:=sc,globals:=g,closure:=[],defaults:=dV,kwdefaults:=kV,doc:=dc,pyModule:=pm,annotations:=an,code:=cd,closureTuple:=ct,builtins:=bi},sl⟩
 | _=>tE
noncomputable abbrev Vi(n:Int):aF:= .int n 0
noncomputable abbrev Vr(a:aJ):aF:= .ref a
noncomputable abbrev Oz(c:aF)(a:Array aF):Obj:=⟨c,none,.fields a,#[]⟩
noncomputable abbrev Ot(a:Array aF):Obj:=⟨.type "tuple",none,.seq a 0,#[]⟩
noncomputable abbrev Od(a:Array dO)(n:Nat):Obj:=⟨.none,none,.dict a n,#[]⟩
noncomputable abbrev Oh(a:Array dO)(n:Nat):Obj:=⟨.type "dict",none,.dict a n,#[]⟩
noncomputable abbrev Oq(n:Str)(c d:aJ)(t u:Tok):Obj:=⟨.type "type",none,.cls {name:=n,bases:=[.type "object"],mro:=[Vr c,.type "object"],ns:=d,qualname:=n,hasDict:=true,slotNames:=[],subclasses:=[],abstract:=false,collection:=none,hasDel:=false},#[none,none,some (.str n t),some (.str n u),some (.builtin "object.__new__"),some (.bool true)]⟩
noncomputable abbrev Oc(n q:Str)(t:Tok)(l a f:Int)(c:aJ)(b:Bool)(d:aJ)(x y z:aF)(k:Nat):Obj:=⟨.type "code",none,.fields #[.str n t,.str q (t+1),.str "/claim/cut.py" (t+2),Vi l,Vi a,Vi 0,Vi 0,Vi f,Vr c,.bool b,Vi 181,Vr d,.none,x,y,z,Vi k,Vi l,.str "/claim/cut.py" (k+1)],#[]⟩
noncomputable abbrev Of(a g l:aJ)(s:aF):Obj:=⟨.type "frame",none,.plain,#[some (Vr a),some (Vr g),some (Vr l),none,some s,none,some (Vr 0)]⟩
noncomputable abbrev fP{n:Str}{a:dP}{b:List dY}{d r tp sc ts bd ps}(s:dY)(h:s= .FunctionDef n a b d r tp sc ts bd ps)(q:Str)(m:Str)(t:Tok)(c:aJ)(dV:aF:= .none):Obj:=fO s h (.type "function") none q 3 dV .none .none (.str m t) none (Vr c) .none 0 #[]
noncomputable abbrev fJ(s:dY)(q:Str):Obj:=fI s none q 0 .none .none .none .none none .none .none 0 #[]
noncomputable def o2(P:dB):=Od #[dE P "type.__subclasses__.Exception.0" 248 (Vi 54),dE P "type.__subclasses__.Exception.n" 249 (Vi 1)] 2
noncomputable def o3(P:dB):=Oh #[dE P "__name__" 165 (.str "law_nn0233_01" 1284),dE P "__doc__" 166 .none,dE P "__package__" 167 .none,dE P "__loader__" 168 (.builtin "__main__.__loader__#opaque"),dE P "__spec__" 169 .none,dE P "__annotations__" 170 (Vr 6),dE P "__builtins__" 171 (Vr 4),dE P "__file__" 173 (.str "/claim/cut.py" 172),dE P "__cached__" 174 .none,dE P "_wall" 193 (Vr 21),dE P "WHITE" 202 (Vr 22),dE P "is_white" 209 (Vr 29),dE P "PaperError" 251 (Vr 54),dE P "FilterFault" 267 (Vr 67),dE P "HEX_END" 271 (.int 62 270),dE P "TILDE" 273 (.int 126 272),dE P "LEAST_SIGN" 275 (.int 33 274),dE P "MOST_SIGN" 277 (.int 117 276),dE P "FOUR_NOUGHTS" 279 (.int 122 278),dE P "MOST_GROUP" 285 (.int 4294967295 284),dE P "RUN_END" 287 (.int 128 286),dE P "figure_worth" 294 (Vr 76),dE P "hex_decoded" 300 (Vr 81),dE P "octets_of_group" 313 (Vr 88),dE P "is_end_at" 322 (Vr 95),dE P "base85_decoded" 334 (Vr 102),dE P "run_decoded" 345 (Vr 109),dE P "OCTET" 349 (.int 8 348),dE P "low_bits" 357 (Vr 116),dE P "BitsIn" 430 (Vr 169),dE P "HighBitsIn" 485 (Vr 211),dE P "greatest_length" 494 (Vr 222),dE P "tally_of" 503 (Vr 229),dE P "room_left" 512 (Vr 236),dE P "is_full" 519 (Vr 243),dE P "is_over" 526 (Vr 250),dE P "symbols_of" 532 (Vr 255),dE P "Decoder" 574 (Vr 279),dE P "END" 578 (.int 256 577),dE P "SUM_BASE" 580 (.int 65521 579),dE P "length_rows" 591 (Vr 290),dE P "distance_rows" 602 (Vr 297),dE P "length_order" 610 (Vr 304),dE P "fixed_lengths" 616 (Vr 311),dE P "repeated" 625 (Vr 318),dE P "read_lengths" 642 (Vr 325),dE P "is_usable" 649 (Vr 332),dE P "read_decoders" 658 (Vr 339),dE P "read_part" 671 (Vr 346),dE P "lay_part" 683 (Vr 353),dE P "read_stored" 691 (Vr 360),dE P "block_decoders" 701 (Vr 367),dE P "inflate_into" 715 (Vr 374),dE P "inflate" 726 (Vr 382),dE P "adler" 736 (Vr 389),dE P "check_frame" 743 (Vr 396),dE P "check_sum" 754 (Vr 403),dE P "zlib_decoded" 763 (Vr 410),dE P "BITS_lzw" 767 (.int 8 766),dE P "WIDEST" 769 (.int 12 768),dE P "Sizes" 816 (Vr 435),dE P "Count" 862 (Vr 470),dE P "read_codes" 874 (Vr 481),dE P "word_of" 885 (Vr 488),dE P "unpacked_codes" 898 (Vr 495),dE P "lzw_decoded" 908 (Vr 503),dE P "MOST_HOPS" 912 (.int 30 911),dE P "Name" 941 (Vr 520),dE P "Stream" 972 (Vr 541),dE P "Reference" 1010 (Vr 569),dE P "Lookup" 1062 (Vr 605),dE P "BITS_predictors" 1070 (Vr 610),dE P "Shape" 1105 (Vr 627),dE P "rows_of_octets" 1111 (Vr 636),dE P "samples_of" 1117 (Vr 641),dE P "octets_of" 1130 (Vr 648),dE P "turned_row" 1143 (Vr 655),dE P "tiff_undone" 1153 (Vr 662),dE P "paeth" 1163 (Vr 669),dE P "guess_at" 1176 (Vr 676),dE P "png_undone" 1190 (Vr 683),dE P "parm" 1200 (Vr 690),dE P "shape_of" 1208 (Vr 697),dE P "unpredicted" 1217 (Vr 704),dE P "full_name" 1227 (Vr 711),dE P "filter_names" 1239 (Vr 718),dE P "filter_parms" 1245 (Vr 723),dE P "early_of" 1253 (Vr 730),dE P "undo_plain" 1261 (Vr 737),dE P "undo_one" 1271 (Vr 744),dE P "decoded" 1283 (Vr 751),dE P "_law_names" 1296 (Vr 757),dE P "_law_draw" 1308 (Vr 764),dE P "_law_pen" 1315 (Vr 771),dE P "_law_octets" 1326 (Vr 778),dE P "_law_heard" 1336 (Vr 785),dE P "_law_framed" 1348 (Vr 792),dE P "_law_coded" 1354 (Vr 797),dE P "_law_signs" 1360 (Vr 802),dE P "_law_foretold" 1366 (Vr 807),dE P "_law_encoded" 1372 (Vr 812),dE P "_law_laid" 1383 (Vr 819),dE P "_law_head" 1389 (Vr 824),dE P "_law_foul" 1400 (Vr 831),dE P "law" 1406 (Vr 836)] 105
noncomputable def WT:=Oc "<module>" "<module>" 182 1 0 0 11 false 12 .none .none .none 185
noncomputable def WS:=Of 13 3 3 (.str "__main__" 164)
noncomputable def YE:=Oc "_wall" "_wall" 187 1 1 3 15 true 16 (Vr 17) (Vr 18) (Vr 19) 191
noncomputable def YD:=fP (st 0) rfl "_wall" "__main__" 164 20
noncomputable def YC:=Ot #[.int 0 196,.int 9 197,.int 10 198,.int 12 199,.int 13 200,.int 32 201]
noncomputable def YB:=Oc "is_white" "is_white" 203 6 1 3 23 true 24 (Vr 25) (Vr 26) (Vr 27) 207
noncomputable def YA:=fP (st 3) rfl "is_white" "paperhold.cursor" 194 28
noncomputable def Yz:=Ot #[.type "Exception"]
noncomputable def Yy:=Ot #[.int (-1) 225]
noncomputable def Yx:=Oc "__init__" "PaperError.__init__" 226 11 3 3 38 true 39 (Vr 40) (Vr 41) (Vr 42) 232
noncomputable def Yw:=fP (mt 5 0) rfl "PaperError.__init__" "paperhold.errors" 210 43 (Vr 37)
noncomputable def Yv:=Oc "told" "PaperError.told" 235 16 1 3 45 true 46 (Vr 47) (Vr 48) (Vr 49) 239
noncomputable def Yu:=fP (mt 5 1) rfl "PaperError.told" "paperhold.errors" 210 50
noncomputable def Yt:=Ot #[.str "at" 242,.str "what" 243]
noncomputable def Ys(P:dB):=Oh #[dE P "__module__" 219 (.str "paperhold.errors" 210),dE P "__firstlineno__" 223 (.int 9 222),dE P "__init__" 234 (Vr 44),dE P "told" 241 (Vr 51),dE P "__static_attributes__" 244 (Vr 52),dE P "__weakref__" 246 (Vr 55),dE P "__doc__" 247 .none] 3
noncomputable def Yr:Obj:=⟨(.type "type"),none,(.cls {name:="PaperError",bases:=[(.type "Exception")],mro:=[(Vr 54),(.type "Exception"),(.type "BaseException"),(.type "object")],ns:=53,qualname:="PaperError",hasDict:=true,slotNames:=[],subclasses:=[(Vr 67)],abstract:=false,collection:=none,hasDel:=false}),#[(some (Vr 30)),none,(some (.str "PaperError" 212)),(some (.str "PaperError" 220)),(some (.builtin "Exception.__new__")),(some (.bool true))]⟩
noncomputable def Yq:=Oz (.type "getset_descriptor") #[.str "__weakref__" 245,Vr 54,.builtin "ExceptionGroup.__weakref__",.none]
noncomputable def Yp:=Ot #[Vr 54]
noncomputable def Yo(P:dB):=Oh #[dE P "__module__" 259 (.str "paperhold.errors" 210),dE P "__firstlineno__" 263 (.int 18 262),dE P "__static_attributes__" 264 (Vr 65),dE P "__doc__" 265 .none] 2
noncomputable def Yn:Obj:=⟨(.type "type"),none,(.cls {name:="FilterFault",bases:=[(Vr 54)],mro:=[(Vr 67),(Vr 54),(.type "Exception"),(.type "BaseException"),(.type "object")],ns:=66,qualname:="FilterFault",hasDict:=true,slotNames:=[],subclasses:=[],abstract:=false,collection:=none,hasDel:=false}),#[(some (Vr 58)),none,(some (.str "FilterFault" 252)),(some (.str "FilterFault" 260)),(some (.builtin "Exception.__new__")),(some (.bool true))]⟩
noncomputable def Ym:=Oc "figure_worth" "figure_worth" 288 28 1 3 70 true 71 (Vr 72) (Vr 73) (Vr 74) 292
noncomputable def Yl:=fP (st 15) rfl "figure_worth" "paperhold.asciis" 268 75
noncomputable def Yk:=Oc "hex_decoded" "hex_decoded" 295 36 1 3 77 true 78 .none .none (Vr 79) 298
noncomputable def Yj:=fP (st 16) rfl "hex_decoded" "paperhold.asciis" 268 80
noncomputable def Yi:=Oc "octets_of_group" "octets_of_group" 301 49 2 3 82 true 83 (Vr 84) (Vr 85) (Vr 86) 311
noncomputable def Yh:=fP (st 17) rfl "octets_of_group" "paperhold.asciis" 268 87
noncomputable def Yg:=Oc "is_end_at" "is_end_at" 314 61 2 3 89 true 90 (Vr 91) (Vr 92) (Vr 93) 320
noncomputable def Ye:=fP (st 18) rfl "is_end_at" "paperhold.asciis" 268 94
noncomputable def Vo:=Oc "base85_decoded" "base85_decoded" 323 68 1 3 96 true 97 (Vr 98) (Vr 99) (Vr 100) 332
noncomputable def Vn:=fP (st 19) rfl "base85_decoded" "paperhold.asciis" 268 101
noncomputable def Vm:=Oc "run_decoded" "run_decoded" 335 90 1 3 103 true 104 (Vr 105) (Vr 106) (Vr 107) 343
noncomputable def Vl:=fP (st 20) rfl "run_decoded" "paperhold.asciis" 268 108
noncomputable def Vk:=Oc "low_bits" "low_bits" 350 108 2 3 110 true 111 (Vr 112) (Vr 113) (Vr 114) 355
noncomputable def Vj:=fP (st 23) rfl "low_bits" "paperhold.bits" 346 115
noncomputable def Vh:=Ot #[.int 0 370]
noncomputable def Vg:=Oc "__init__" "BitsIn.__init__" 371 112 3 3 125 true 126 (Vr 127) (Vr 128) (Vr 129) 377
noncomputable def Vf:=fP (mt 24 0) rfl "BitsIn.__init__" "paperhold.bits" 346 130 (Vr 124)
noncomputable def Ve:=Oc "left" "BitsIn.left" 380 118 1 3 132 true 133 (Vr 134) (Vr 135) (Vr 136) 384
noncomputable def Vd:=fP (mt 24 1) rfl "BitsIn.left" "paperhold.bits" 346 137
noncomputable def Vc:=Oc "need" "BitsIn.need" 387 121 2 3 139 true 140 (Vr 141) (Vr 142) (Vr 143) 392
noncomputable def Vb:=fP (mt 24 2) rfl "BitsIn.need" "paperhold.bits" 346 144
noncomputable def Va:=Oc "take" "BitsIn.take" 395 125 2 3 146 true 147 (Vr 148) (Vr 149) (Vr 150) 401
noncomputable def UZ:=fP (mt 24 3) rfl "BitsIn.take" "paperhold.bits" 346 151
noncomputable def UY:=Oc "align" "BitsIn.align" 404 136 1 3 153 true 154 (Vr 155) (Vr 156) (Vr 157) 408
noncomputable def UX:=fP (mt 24 4) rfl "BitsIn.align" "paperhold.bits" 346 158
noncomputable def UW:=Oc "octets" "BitsIn.octets" 411 140 2 3 160 true 161 (Vr 162) (Vr 163) (Vr 164) 416
noncomputable def UV:=fP (mt 24 5) rfl "BitsIn.octets" "paperhold.bits" 346 165
noncomputable def UU:=Ot #[.str "at" 419,.str "count" 420,.str "data" 421,.str "held" 422]
noncomputable def UT(P:dB):=Oh #[dE P "__module__" 365 (.str "paperhold.bits" 346),dE P "__firstlineno__" 369 (.int 110 368),dE P "__init__" 379 (Vr 131),dE P "left" 386 (Vr 138),dE P "need" 394 (Vr 145),dE P "take" 403 (Vr 152),dE P "align" 410 (Vr 159),dE P "octets" 418 (Vr 166),dE P "__static_attributes__" 423 (Vr 167),dE P "__dict__" 425 (Vr 170),dE P "__weakref__" 427 (Vr 171),dE P "__doc__" 428 .none] 4
noncomputable def US:=Oq "BitsIn" 169 168 358 366
noncomputable def UR:=Oz (.type "getset_descriptor") #[.str "__dict__" 424,Vr 169,.builtin "function.__dict__",.builtin "function.__dict__#set"]
noncomputable def UQ:=Oz (.type "getset_descriptor") #[.str "__weakref__" 426,Vr 169,.builtin "ExceptionGroup.__weakref__",.none]
noncomputable def UP:=Oc "__init__" "HighBitsIn.__init__" 443 147 2 3 181 true 182 (Vr 183) (Vr 184) (Vr 185) 448
noncomputable def UO:=fP (mt 25 0) rfl "HighBitsIn.__init__" "paperhold.bits" 346 186
noncomputable def UN:=Oc "left" "HighBitsIn.left" 451 153 1 3 188 true 189 (Vr 190) (Vr 191) (Vr 192) 455
noncomputable def UM:=fP (mt 25 1) rfl "HighBitsIn.left" "paperhold.bits" 346 193
noncomputable def UL:=Oc "take" "HighBitsIn.take" 458 156 2 3 195 true 196 (Vr 197) (Vr 198) (Vr 199) 464
noncomputable def UK:=fP (mt 25 2) rfl "HighBitsIn.take" "paperhold.bits" 346 200
noncomputable def UJ:=Oc "align" "HighBitsIn.align" 467 168 1 3 202 true 203 (Vr 204) (Vr 205) (Vr 206) 471
noncomputable def UI:=fP (mt 25 3) rfl "HighBitsIn.align" "paperhold.bits" 346 207
noncomputable def UH:=Ot #[.str "at" 474,.str "count" 475,.str "data" 476,.str "held" 477]
noncomputable def UG(P:dB):=Oh #[dE P "__module__" 438 (.str "paperhold.bits" 346),dE P "__firstlineno__" 442 (.int 145 441),dE P "__init__" 450 (Vr 187),dE P "left" 457 (Vr 194),dE P "take" 466 (Vr 201),dE P "align" 473 (Vr 208),dE P "__static_attributes__" 478 (Vr 209),dE P "__dict__" 480 (Vr 212),dE P "__weakref__" 482 (Vr 213),dE P "__doc__" 483 .none] 4
noncomputable def UF:=Oq "HighBitsIn" 211 210 431 439
noncomputable def UE:=Oz (.type "getset_descriptor") #[.str "__dict__" 479,Vr 211,.builtin "function.__dict__",.builtin "function.__dict__#set"]
noncomputable def UD:=Oz (.type "getset_descriptor") #[.str "__weakref__" 481,Vr 211,.builtin "ExceptionGroup.__weakref__",.none]
noncomputable def UC:=Oc "greatest_length" "greatest_length" 488 172 1 3 216 true 217 (Vr 218) (Vr 219) (Vr 220) 492
noncomputable def UB:=fP (st 27) rfl "greatest_length" "paperhold.huffman" 486 221
noncomputable def UA:=Oc "tally_of" "tally_of" 495 174 1 3 223 true 224 (Vr 225) (Vr 226) (Vr 227) 501
noncomputable def Uz:=fP (st 28) rfl "tally_of" "paperhold.huffman" 486 228
noncomputable def Uy:=Oc "room_left" "room_left" 504 180 1 3 230 true 231 (Vr 232) (Vr 233) (Vr 234) 510
noncomputable def Ux:=fP (st 29) rfl "room_left" "paperhold.huffman" 486 235
noncomputable def Uw:=Oc "is_full" "is_full" 513 185 1 3 237 true 238 (Vr 239) (Vr 240) (Vr 241) 517
noncomputable def Uv:=fP (st 30) rfl "is_full" "paperhold.huffman" 486 242
noncomputable def Uu:=Oc "is_over" "is_over" 520 187 1 3 244 true 245 (Vr 246) (Vr 247) (Vr 248) 524
noncomputable def Ut:=fP (st 31) rfl "is_over" "paperhold.huffman" 486 249
noncomputable def Us:=Oc "symbols_of" "symbols_of" 527 189 1 3 251 true 252 .none .none (Vr 253) 530
noncomputable def Ur:=fP (st 32) rfl "symbols_of" "paperhold.huffman" 486 254
noncomputable def Uq:=Oc "__init__" "Decoder.__init__" 545 199 2 3 263 true 264 (Vr 265) (Vr 266) (Vr 267) 550
noncomputable def Up:=fP (mt 33 0) rfl "Decoder.__init__" "paperhold.huffman" 486 268
noncomputable def Uo:=Oc "read" "Decoder.read" 553 205 2 3 270 true 271 (Vr 272) (Vr 273) (Vr 274) 562
noncomputable def Um:=fP (mt 33 1) rfl "Decoder.read" "paperhold.huffman" 486 275
noncomputable def Ul:=Ot #[.str "symbols" 565,.str "tally" 566]
noncomputable def Uk(P:dB):=Oh #[dE P "__module__" 540 (.str "paperhold.huffman" 486),dE P "__firstlineno__" 544 (.int 197 543),dE P "__init__" 552 (Vr 269),dE P "read" 564 (Vr 276),dE P "__static_attributes__" 567 (Vr 277),dE P "__dict__" 569 (Vr 280),dE P "__weakref__" 571 (Vr 281),dE P "__doc__" 572 .none] 4
noncomputable def Uj:=Oq "Decoder" 279 278 533 541
noncomputable def Ui:=Oz (.type "getset_descriptor") #[.str "__dict__" 568,Vr 279,.builtin "function.__dict__",.builtin "function.__dict__#set"]
noncomputable def Uh:=Oz (.type "getset_descriptor") #[.str "__weakref__" 570,Vr 279,.builtin "ExceptionGroup.__weakref__",.none]
noncomputable def Ug:=Oc "length_rows" "length_rows" 581 219 0 3 284 true 285 (Vr 286) (Vr 287) (Vr 288) 589
noncomputable def Uf:=fP (st 37) rfl "length_rows" "paperhold.inflate" 575 289
noncomputable def Ue:=Oc "distance_rows" "distance_rows" 592 229 0 3 291 true 292 (Vr 293) (Vr 294) (Vr 295) 600
noncomputable def Uc:=fP (st 38) rfl "distance_rows" "paperhold.inflate" 575 296
noncomputable def Ub:=Oc "length_order" "length_order" 603 239 0 3 298 true 299 (Vr 300) (Vr 301) (Vr 302) 608
noncomputable def Ua:=fP (st 39) rfl "length_order" "paperhold.inflate" 575 303
noncomputable def TZ:=Oc "fixed_lengths" "fixed_lengths" 611 247 0 3 305 true 306 (Vr 307) (Vr 308) (Vr 309) 614
noncomputable def TY:=fP (st 40) rfl "fixed_lengths" "paperhold.inflate" 575 310
noncomputable def TX:=Oc "repeated" "repeated" 617 249 3 3 312 true 313 (Vr 314) (Vr 315) (Vr 316) 623
noncomputable def TV:=fP (st 41) rfl "repeated" "paperhold.inflate" 575 317
noncomputable def TU:=Oc "read_lengths" "read_lengths" 626 257 1 3 319 true 320 (Vr 321) (Vr 322) (Vr 323) 640
noncomputable def TT:=fP (st 42) rfl "read_lengths" "paperhold.inflate" 575 324
noncomputable def TS:=Oc "is_usable" "is_usable" 643 280 1 3 326 true 327 (Vr 328) (Vr 329) (Vr 330) 647
noncomputable def TR:=fP (st 43) rfl "is_usable" "paperhold.inflate" 575 331
noncomputable def TQ:=Oc "read_decoders" "read_decoders" 650 282 1 3 333 true 334 (Vr 335) (Vr 336) (Vr 337) 656
noncomputable def TP:=fP (st 44) rfl "read_decoders" "paperhold.inflate" 575 338
noncomputable def TN:=Oc "read_part" "read_part" 659 289 4 3 340 true 341 (Vr 342) (Vr 343) (Vr 344) 669
noncomputable def TM:=fP (st 45) rfl "read_part" "paperhold.inflate" 575 345
noncomputable def TL:=Oc "lay_part" "lay_part" 672 303 3 3 347 true 348 (Vr 349) (Vr 350) (Vr 351) 681
noncomputable def TK:=fP (st 46) rfl "lay_part" "paperhold.inflate" 575 352
noncomputable def TJ:=Oc "read_stored" "read_stored" 684 312 1 3 354 true 355 (Vr 356) (Vr 357) (Vr 358) 689
noncomputable def TH:=fP (st 47) rfl "read_stored" "paperhold.inflate" 575 359
noncomputable def TG:=Oc "block_decoders" "block_decoders" 692 318 2 3 361 true 362 (Vr 363) (Vr 364) (Vr 365) 699
noncomputable def TF:=fP (st 48) rfl "block_decoders" "paperhold.inflate" 575 366
noncomputable def TC:=Oc "inflate_into" "inflate_into" 702 325 2 3 368 true 369 (Vr 370) (Vr 371) (Vr 372) 713
noncomputable def TB:=fP (st 49) rfl "inflate_into" "paperhold.inflate" 575 373
noncomputable def TA:=Ot #[.int 0 716]
noncomputable def Tz:=Oc "inflate" "inflate" 717 340 2 3 376 true 377 (Vr 378) (Vr 379) (Vr 380) 724
noncomputable def Ty:=fP (st 50) rfl "inflate" "paperhold.inflate" 575 381 (Vr 375)
noncomputable def Tx:=Oc "adler" "adler" 727 345 1 3 383 true 384 (Vr 385) (Vr 386) (Vr 387) 734
noncomputable def Tw:=fP (st 51) rfl "adler" "paperhold.inflate" 575 388
noncomputable def Tv:=Oc "check_frame" "check_frame" 737 352 1 3 390 true 391 (Vr 392) (Vr 393) (Vr 394) 741
noncomputable def Tu:=fP (st 52) rfl "check_frame" "paperhold.inflate" 575 395
noncomputable def Tt:=Oc "check_sum" "check_sum" 744 361 3 3 397 true 398 (Vr 399) (Vr 400) (Vr 401) 752
noncomputable def Ts:=fP (st 53) rfl "check_sum" "paperhold.inflate" 575 402
noncomputable def Tq:=Oc "zlib_decoded" "zlib_decoded" 755 369 1 3 404 true 405 (Vr 406) (Vr 407) (Vr 408) 761
noncomputable def Tp:=fP (st 54) rfl "zlib_decoded" "paperhold.inflate" 575 409
noncomputable def To:=Ot #[.int 8 766,.int 12 768,.int 1 782]
noncomputable def Tm:=Oc "__init__" "Sizes.__init__" 783 379 4 3 419 true 420 (Vr 421) (Vr 422) (Vr 423) 790
noncomputable def Tl:=fP (mt 58 0) rfl "Sizes.__init__" "paperhold.lzw" 764 424 (Vr 418)
noncomputable def Tk:=Oc "width" "Sizes.width" 793 388 2 3 426 true 427 (Vr 428) (Vr 429) (Vr 430) 799
noncomputable def Tj:=fP (mt 58 1) rfl "Sizes.width" "paperhold.lzw" 764 431
noncomputable def Ti:=Ot #[.str "bits" 802,.str "clear" 803,.str "early" 804,.str "end" 805,.str "first" 806,.str "full" 807,.str "widest" 808]
noncomputable def Th(P:dB):=Oh #[dE P "__module__" 777 (.str "paperhold.lzw" 764),dE P "__firstlineno__" 781 (.int 377 780),dE P "__init__" 792 (Vr 425),dE P "width" 801 (Vr 432),dE P "__static_attributes__" 809 (Vr 433),dE P "__dict__" 811 (Vr 436),dE P "__weakref__" 813 (Vr 437),dE P "__doc__" 814 .none] 4
noncomputable def Tf:=Oq "Sizes" 435 434 770 778
noncomputable def Te:=Oz (.type "getset_descriptor") #[.str "__dict__" 810,Vr 435,.builtin "function.__dict__",.builtin "function.__dict__#set"]
noncomputable def Td:=Oz (.type "getset_descriptor") #[.str "__weakref__" 812,Vr 435,.builtin "ExceptionGroup.__weakref__",.none]
noncomputable def Tc:=Oc "__init__" "Count.__init__" 829 393 2 3 447 true 448 (Vr 449) (Vr 450) (Vr 451) 834
noncomputable def Tb:=fP (mt 59 0) rfl "Count.__init__" "paperhold.lzw" 764 452
noncomputable def Ta:=Oc "width" "Count.width" 837 398 1 3 454 true 455 (Vr 456) (Vr 457) (Vr 458) 841
noncomputable def SZ:=fP (mt 59 1) rfl "Count.width" "paperhold.lzw" 764 459
noncomputable def SY:=Oc "passed" "Count.passed" 844 401 2 3 461 true 462 (Vr 463) (Vr 464) (Vr 465) 849
noncomputable def SX:=fP (mt 59 2) rfl "Count.passed" "paperhold.lzw" 764 466
noncomputable def SW:=Ot #[.str "count" 852,.str "is_begun" 853,.str "sizes" 854]
noncomputable def SV(P:dB):=Oh #[dE P "__module__" 824 (.str "paperhold.lzw" 764),dE P "__firstlineno__" 828 (.int 391 827),dE P "__init__" 836 (Vr 453),dE P "width" 843 (Vr 460),dE P "passed" 851 (Vr 467),dE P "__static_attributes__" 855 (Vr 468),dE P "__dict__" 857 (Vr 471),dE P "__weakref__" 859 (Vr 472),dE P "__doc__" 860 .none] 4
noncomputable def SU:=Oq "Count" 470 469 817 825
noncomputable def ST:=Oz (.type "getset_descriptor") #[.str "__dict__" 856,Vr 470,.builtin "function.__dict__",.builtin "function.__dict__#set"]
noncomputable def SS:=Oz (.type "getset_descriptor") #[.str "__weakref__" 858,Vr 470,.builtin "ExceptionGroup.__weakref__",.none]
noncomputable def SR:=Oc "read_codes" "read_codes" 863 409 2 3 475 true 476 (Vr 477) (Vr 478) (Vr 479) 872
noncomputable def SQ:=fP (st 60) rfl "read_codes" "paperhold.lzw" 764 480
noncomputable def SP:=Oc "word_of" "word_of" 875 419 4 3 482 true 483 (Vr 484) (Vr 485) (Vr 486) 883
noncomputable def SO:=fP (st 61) rfl "word_of" "paperhold.lzw" 764 487
noncomputable def SN:=Oc "unpacked_codes" "unpacked_codes" 886 428 2 3 489 true 490 (Vr 491) (Vr 492) (Vr 493) 896
noncomputable def SM:=fP (st 62) rfl "unpacked_codes" "paperhold.lzw" 764 494
noncomputable def SL:=Ot #[.int 1 899]
noncomputable def SK:=Oc "lzw_decoded" "lzw_decoded" 900 445 2 3 497 true 498 (Vr 499) (Vr 500) (Vr 501) 906
noncomputable def SJ:=fP (st 63) rfl "lzw_decoded" "paperhold.lzw" 764 502 (Vr 496)
noncomputable def SI:=Oc "__init__" "Name.__init__" 925 452 2 3 511 true 512 (Vr 513) (Vr 514) (Vr 515) 930
noncomputable def SH:=fP (mt 66 0) rfl "Name.__init__" "paperhold.objects" 909 516
noncomputable def SG:=Ot #[.str "text" 933]
noncomputable def SE(P:dB):=Oh #[dE P "__module__" 920 (.str "paperhold.objects" 909),dE P "__firstlineno__" 924 (.int 450 923),dE P "__init__" 932 (Vr 517),dE P "__static_attributes__" 934 (Vr 518),dE P "__dict__" 936 (Vr 521),dE P "__weakref__" 938 (Vr 522),dE P "__doc__" 939 .none] 4
noncomputable def SD:=Oq "Name" 520 519 913 921
noncomputable def SC:=Oz (.type "getset_descriptor") #[.str "__dict__" 935,Vr 520,.builtin "function.__dict__",.builtin "function.__dict__#set"]
noncomputable def SA:=Oz (.type "getset_descriptor") #[.str "__weakref__" 937,Vr 520,.builtin "ExceptionGroup.__weakref__",.none]
noncomputable def Sz:=Oc "__init__" "Stream.__init__" 954 456 3 3 532 true 533 (Vr 534) (Vr 535) (Vr 536) 960
noncomputable def Sy:=fP (mt 67 0) rfl "Stream.__init__" "paperhold.objects" 909 537
noncomputable def Sx:=Ot #[.str "head" 963,.str "octets" 964]
noncomputable def Sw(P:dB):=Oh #[dE P "__module__" 949 (.str "paperhold.objects" 909),dE P "__firstlineno__" 953 (.int 454 952),dE P "__init__" 962 (Vr 538),dE P "__static_attributes__" 965 (Vr 539),dE P "__dict__" 967 (Vr 542),dE P "__weakref__" 969 (Vr 543),dE P "__doc__" 970 .none] 4
noncomputable def Sv:=Oq "Stream" 541 540 942 950
noncomputable def Su:=Oz (.type "getset_descriptor") #[.str "__dict__" 966,Vr 541,.builtin "function.__dict__",.builtin "function.__dict__#set"]
noncomputable def Ss:=Oz (.type "getset_descriptor") #[.str "__weakref__" 968,Vr 541,.builtin "ExceptionGroup.__weakref__",.none]
noncomputable def Sr:=Oc "__init__" "Reference.__init__" 985 461 3 3 553 true 554 (Vr 555) (Vr 556) (Vr 557) 991
noncomputable def Sq:=fP (mt 68 0) rfl "Reference.__init__" "paperhold.objects" 909 558
noncomputable def Sp:=Oc "pair" "Reference.pair" 994 465 1 3 560 true 561 (Vr 562) (Vr 563) (Vr 564) 998
noncomputable def So:=fP (mt 68 1) rfl "Reference.pair" "paperhold.objects" 909 565
noncomputable def Sn:=Ot #[.str "generation" 1001,.str "number" 1002]
noncomputable def Sm(P:dB):=Oh #[dE P "__module__" 980 (.str "paperhold.objects" 909),dE P "__firstlineno__" 984 (.int 459 983),dE P "__init__" 993 (Vr 559),dE P "pair" 1000 (Vr 566),dE P "__static_attributes__" 1003 (Vr 567),dE P "__dict__" 1005 (Vr 570),dE P "__weakref__" 1007 (Vr 571),dE P "__doc__" 1008 .none] 4
noncomputable def Sl:=Oq "Reference" 569 568 973 981
noncomputable def Sk:=Oz (.type "getset_descriptor") #[.str "__dict__" 1004,Vr 569,.builtin "function.__dict__",.builtin "function.__dict__#set"]
noncomputable def Sj:=Oz (.type "getset_descriptor") #[.str "__weakref__" 1006,Vr 569,.builtin "ExceptionGroup.__weakref__",.none]
noncomputable def Si:=Ot #[.none,.none]
noncomputable def Sh:=Oc "__init__" "Lookup.__init__" 1023 469 3 3 582 true 583 (Vr 584) (Vr 585) (Vr 586) 1029
noncomputable def Sg:=fP (mt 69 0) rfl "Lookup.__init__" "paperhold.objects" 909 587 (Vr 581)
noncomputable def Sf:=Oc "fetch" "Lookup.fetch" 1032 473 2 3 589 true 590 (Vr 591) (Vr 592) (Vr 593) 1041
noncomputable def Se:=fP (mt 69 1) rfl "Lookup.fetch" "paperhold.objects" 909 594
noncomputable def Sa:=Oc "get" "Lookup.get" 1044 484 3 3 596 true 597 (Vr 598) (Vr 599) (Vr 600) 1050
noncomputable def RZ:=fP (mt 69 2) rfl "Lookup.get" "paperhold.objects" 909 601
noncomputable def RY:=Ot #[.str "table" 1053,.str "trailer" 1054]
noncomputable def RX(P:dB):=Oh #[dE P "__module__" 1018 (.str "paperhold.objects" 909),dE P "__firstlineno__" 1022 (.int 467 1021),dE P "__init__" 1031 (Vr 588),dE P "fetch" 1043 (Vr 595),dE P "get" 1052 (Vr 602),dE P "__static_attributes__" 1055 (Vr 603),dE P "__dict__" 1057 (Vr 606),dE P "__weakref__" 1059 (Vr 607),dE P "__doc__" 1060 .none] 4
noncomputable def RW:=Oq "Lookup" 605 604 1011 1019
noncomputable def RV:=Oz (.type "getset_descriptor") #[.str "__dict__" 1056,Vr 605,.builtin "function.__dict__",.builtin "function.__dict__#set"]
noncomputable def RU:=Oz (.type "getset_descriptor") #[.str "__weakref__" 1058,Vr 605,.builtin "ExceptionGroup.__weakref__",.none]
noncomputable def RT:=Ot #[.int 1 1065,.int 2 1066,.int 4 1067,.int 8 1068,.int 16 1069]
noncomputable def RS:=Oc "__init__" "Shape.__init__" 1083 490 4 3 618 true 619 (Vr 620) (Vr 621) (Vr 622) 1090
noncomputable def RR:=fP (mt 72 0) rfl "Shape.__init__" "paperhold.predictors" 1063 623
noncomputable def RQ:=Ot #[.str "bits" 1093,.str "colors" 1094,.str "columns" 1095,.str "pixel_octets" 1096,.str "row_octets" 1097]
noncomputable def RP(P:dB):=Oh #[dE P "__module__" 1078 (.str "paperhold.predictors" 1063),dE P "__firstlineno__" 1082 (.int 488 1081),dE P "__init__" 1092 (Vr 624),dE P "__static_attributes__" 1098 (Vr 625),dE P "__dict__" 1100 (Vr 628),dE P "__weakref__" 1102 (Vr 629),dE P "__doc__" 1103 .none] 4
noncomputable def RO:=Oq "Shape" 627 626 1071 1079
noncomputable def RN:=Oz (.type "getset_descriptor") #[.str "__dict__" 1099,Vr 627,.builtin "function.__dict__",.builtin "function.__dict__#set"]
noncomputable def RM:=Oz (.type "getset_descriptor") #[.str "__weakref__" 1101,Vr 627,.builtin "ExceptionGroup.__weakref__",.none]
noncomputable def RL:=Oc "rows_of_octets" "rows_of_octets" 1106 496 2 3 632 true 633 .none .none (Vr 634) 1109
noncomputable def RK:=fP (st 73) rfl "rows_of_octets" "paperhold.predictors" 1063 635
noncomputable def RJ:=Oc "samples_of" "samples_of" 1112 498 2 3 637 true 638 .none .none (Vr 639) 1115
noncomputable def RI:=fP (st 74) rfl "samples_of" "paperhold.predictors" 1063 640
noncomputable def RH:=Oc "octets_of" "octets_of" 1118 506 2 3 642 true 643 (Vr 644) (Vr 645) (Vr 646) 1128
noncomputable def RG:=fP (st 75) rfl "octets_of" "paperhold.predictors" 1063 647
noncomputable def RE:=Oc "turned_row" "turned_row" 1131 520 3 3 649 true 650 (Vr 651) (Vr 652) (Vr 653) 1141
noncomputable def RD:=fP (st 76) rfl "turned_row" "paperhold.predictors" 1063 654
noncomputable def RC:=Oc "tiff_undone" "tiff_undone" 1144 530 2 3 656 true 657 (Vr 658) (Vr 659) (Vr 660) 1151
noncomputable def RB:=fP (st 77) rfl "tiff_undone" "paperhold.predictors" 1063 661
noncomputable def RA:=Oc "paeth" "paeth" 1154 535 3 3 663 true 664 (Vr 665) (Vr 666) (Vr 667) 1161
noncomputable def Ry:=fP (st 78) rfl "paeth" "paperhold.predictors" 1063 668
noncomputable def Rx:=Oc "guess_at" "guess_at" 1164 540 5 3 670 true 671 (Vr 672) (Vr 673) (Vr 674) 1174
noncomputable def Rw:=fP (st 79) rfl "guess_at" "paperhold.predictors" 1063 675
noncomputable def Rv:=Oc "png_undone" "png_undone" 1177 552 2 3 677 true 678 (Vr 679) (Vr 680) (Vr 681) 1188
noncomputable def Ru:=fP (st 80) rfl "png_undone" "paperhold.predictors" 1063 682
noncomputable def Rt:=Oc "parm" "parm" 1191 566 3 3 684 true 685 (Vr 686) (Vr 687) (Vr 688) 1198
noncomputable def Rs:=fP (st 81) rfl "parm" "paperhold.predictors" 1063 689
noncomputable def Rr:=Oc "shape_of" "shape_of" 1201 573 1 3 691 true 692 (Vr 693) (Vr 694) (Vr 695) 1206
noncomputable def Rq:=fP (st 82) rfl "shape_of" "paperhold.predictors" 1063 696
noncomputable def Rp:=Oc "unpredicted" "unpredicted" 1209 578 2 3 698 true 699 (Vr 700) (Vr 701) (Vr 702) 1215
noncomputable def Ro:=fP (st 83) rfl "unpredicted" "paperhold.predictors" 1063 703
noncomputable def Rn:=Oc "full_name" "full_name" 1220 588 1 3 705 true 706 (Vr 707) (Vr 708) (Vr 709) 1225
noncomputable def Rm:=fP (st 85) rfl "full_name" "paperhold.filters" 1218 710
noncomputable def Rk:=Oc "filter_names" "filter_names" 1228 591 2 3 712 true 713 (Vr 714) (Vr 715) (Vr 716) 1237
noncomputable def Rj:=fP (st 86) rfl "filter_names" "paperhold.filters" 1218 717
noncomputable def Ri:=Oc "filter_parms" "filter_parms" 1240 602 3 3 719 true 720 .none .none (Vr 721) 1243
noncomputable def Rh:=fP (st 87) rfl "filter_parms" "paperhold.filters" 1218 722
noncomputable def Rg:=Oc "early_of" "early_of" 1246 618 1 3 724 true 725 (Vr 726) (Vr 727) (Vr 728) 1251
noncomputable def Rf:=fP (st 88) rfl "early_of" "paperhold.filters" 1218 729
noncomputable def Re:=Oc "undo_plain" "undo_plain" 1254 625 2 3 731 true 732 (Vr 733) (Vr 734) (Vr 735) 1259
noncomputable def Rc:=fP (st 89) rfl "undo_plain" "paperhold.filters" 1218 736
noncomputable def Rb:=Oc "undo_one" "undo_one" 1262 631 3 3 738 true 739 (Vr 740) (Vr 741) (Vr 742) 1269
noncomputable def Ra:=fP (st 90) rfl "undo_one" "paperhold.filters" 1218 743
noncomputable def QZ:=Oc "decoded" "decoded" 1272 640 2 3 745 true 746 (Vr 747) (Vr 748) (Vr 749) 1281
noncomputable def QY:=fP (st 91) rfl "decoded" "paperhold.filters" 1218 750
noncomputable def QX:=Ot #[.str "ASCIIHexDecode" 1286,.str "AHx" 1287]
noncomputable def QW:=Ot #[.str "ASCII85Decode" 1288,.str "A85" 1289]
noncomputable def QV:=Ot #[.str "RunLengthDecode" 1290,.str "RL" 1291]
noncomputable def QU:=Ot #[.str "FlateDecode" 1292,.str "Fl" 1293]
noncomputable def QT:=Ot #[.str "LZWDecode" 1294,.str "LZW" 1295]
noncomputable def QS:=Ot #[Vr 752,Vr 753,Vr 754,Vr 755,Vr 756]
noncomputable def QR:=Oc "_law_draw" "_law_draw" 1297 648 2 3 758 true 759 (Vr 760) (Vr 761) (Vr 762) 1306
noncomputable def QQ:=fP (st 94) rfl "_law_draw" "law_nn0233_01" 1284 763
noncomputable def QP:=Oc "_law_pen" "_law_pen" 1309 663 1 3 765 true 766 (Vr 767) (Vr 768) (Vr 769) 1313
noncomputable def QO:=fP (st 95) rfl "_law_pen" "law_nn0233_01" 1284 770
noncomputable def QN:=Oc "_law_octets" "_law_octets" 1316 665 2 3 772 true 773 (Vr 774) (Vr 775) (Vr 776) 1324
noncomputable def QM:=fP (st 96) rfl "_law_octets" "law_nn0233_01" 1284 777
noncomputable def QL:=Oc "_law_heard" "_law_heard" 1327 671 1 3 779 true 780 (Vr 781) (Vr 782) (Vr 783) 1334
noncomputable def QK:=fP (st 97) rfl "_law_heard" "law_nn0233_01" 1284 784
noncomputable def QJ:=Oc "_law_framed" "_law_framed" 1337 678 1 3 786 true 787 (Vr 788) (Vr 789) (Vr 790) 1346
noncomputable def QI:=fP (st 98) rfl "_law_framed" "law_nn0233_01" 1284 791
noncomputable def QH:=Oc "_law_coded" "_law_coded" 1349 686 1 3 793 true 794 .none .none (Vr 795) 1352
noncomputable def QG:=fP (st 99) rfl "_law_coded" "law_nn0233_01" 1284 796
noncomputable def QF:=Oc "_law_signs" "_law_signs" 1355 692 1 3 798 true 799 .none .none (Vr 800) 1358
noncomputable def QE:=fP (st 100) rfl "_law_signs" "law_nn0233_01" 1284 801
noncomputable def QD:=Oc "_law_foretold" "_law_foretold" 1361 699 3 3 803 true 804 .none .none (Vr 805) 1364
noncomputable def QC:=fP (st 101) rfl "_law_foretold" "law_nn0233_01" 1284 806
noncomputable def QB:=Oc "_law_encoded" "_law_encoded" 1367 707 3 3 808 true 809 .none .none (Vr 810) 1370
noncomputable def QA:=fP (st 102) rfl "_law_encoded" "law_nn0233_01" 1284 811
noncomputable def Qz:=Oc "_law_laid" "_law_laid" 1373 716 3 3 813 true 814 (Vr 815) (Vr 816) (Vr 817) 1381
noncomputable def Qy:=fP (st 103) rfl "_law_laid" "law_nn0233_01" 1284 818
noncomputable def Qx:=Oc "_law_head" "_law_head" 1384 722 4 3 820 true 821 .none .none (Vr 822) 1387
noncomputable def Qw:=fP (st 104) rfl "_law_head" "law_nn0233_01" 1284 823
noncomputable def Qv:=Oc "_law_foul" "_law_foul" 1390 734 3 3 825 true 826 (Vr 827) (Vr 828) (Vr 829) 1398
noncomputable def Qu:=fP (st 105) rfl "_law_foul" "law_nn0233_01" 1284 830
noncomputable def Qt:=Oc "law" "law" 1401 745 1 3 832 true 833 .none .none (Vr 834) 1404
noncomputable def Qs:=fP (st 106) rfl "law" "law_nn0233_01" 1284 835
noncomputable def h0(P:dB):bF:=⟨⟨[boot_o_0 P,boot_o_1 P,boot_o_2 P,boot_o_3 P,boot_o_4 P,boot_o_5 P,boot_o_6 P,boot_o_7 P,boot_o_8 P,boot_o_9 P,boot_o_10 P,tE,nE,WT,WS]⟩,{}⟩
noncomputable def t0(P:dB):BT:=(nd (boot_o_0 P) (nd (boot_o_1 P) (nd (boot_o_3 P) (nd (boot_o_7 P) nl nl) (nd tE nl nl)) (nd (boot_o_5 P) (nd (boot_o_9 P) nl nl) (nd WT nl nl))) (nd (boot_o_2 P) (nd (boot_o_4 P) (nd (boot_o_8 P) nl nl) (nd nE nl nl)) (nd (boot_o_6 P) (nd (boot_o_10 P) nl nl) (nd WS nl nl))))
noncomputable def ev:List Obj->List Obj×List Obj
 | []=>([],[])
 | x::r=>(x::(ev r).2,(ev r).1)
noncomputable def mk:Nat->List Obj->BT
 | n+1,x::r=>nd x (mk n (ev r).1) (mk n (ev r).2)
 | _,_=>nl
noncomputable def hl(P:dB):List Obj:=[boot_o_0 P,boot_o_1 P,o2 P,o3 P,boot_o_4 P,boot_o_5 P,boot_o_6 P,boot_o_7 P,boot_o_8 P,boot_o_9 P,boot_o_10 P,tE,Oz .none #[Vi 1,Vi 0,Vr 20,Vi 6,Vi 0,Vr 28,Vi 9,Vi 0,Vr 35,Vi 18,Vi 0,Vr 63,Vi 28,Vi 0,Vr 75,Vi 36,Vi 0,Vr 80,Vi 49,Vi 0,Vr 87,Vi 61,Vi 0,Vr 94,Vi 68,Vi 0,Vr 101,Vi 90,Vi 0,Vr 108,Vi 108,Vi 0,Vr 115,Vi 110,Vi 0,Vr 122,Vi 145,Vi 0,Vr 179,Vi 172,Vi 0,Vr 221,Vi 174,Vi 0,Vr 228,Vi 180,Vi 0,Vr 235,Vi 185,Vi 0,Vr 242,Vi 187,Vi 0,Vr 249,Vi 189,Vi 0,Vr 254,Vi 197,Vi 0,Vr 261,Vi 219,Vi 0,Vr 289,Vi 229,Vi 0,Vr 296,Vi 239,Vi 0,Vr 303,Vi 247,Vi 0,Vr 310,Vi 249,Vi 0,Vr 317,Vi 257,Vi 0,Vr 324,Vi 280,Vi 0,Vr 331,Vi 282,Vi 0,Vr 338,Vi 289,Vi 0,Vr 345,Vi 303,Vi 0,Vr 352,Vi 312,Vi 0,Vr 359,Vi 318,Vi 0,Vr 366,Vi 325,Vi 0,Vr 373,Vi 340,Vi 0,Vr 381,Vi 345,Vi 0,Vr 388,Vi 352,Vi 0,Vr 395,Vi 361,Vi 0,Vr 402,Vi 369,Vi 0,Vr 409,Vi 377,Vi 0,Vr 416,Vi 391,Vi 0,Vr 445,Vi 409,Vi 0,Vr 480,Vi 419,Vi 0,Vr 487,Vi 428,Vi 0,Vr 494,Vi 445,Vi 0,Vr 502,Vi 450,Vi 0,Vr 509,Vi 454,Vi 0,Vr 530,Vi 459,Vi 0,Vr 551,Vi 467,Vi 0,Vr 579,Vi 488,Vi 0,Vr 616,Vi 496,Vi 0,Vr 635,Vi 498,Vi 0,Vr 640,Vi 506,Vi 0,Vr 647,Vi 520,Vi 0,Vr 654,Vi 530,Vi 0,Vr 661,Vi 535,Vi 0,Vr 668,Vi 540,Vi 0,Vr 675,Vi 552,Vi 0,Vr 682,Vi 566,Vi 0,Vr 689,Vi 573,Vi 0,Vr 696,Vi 578,Vi 0,Vr 703,Vi 588,Vi 0,Vr 710,Vi 591,Vi 0,Vr 717,Vi 602,Vi 0,Vr 722,Vi 618,Vi 0,Vr 729,Vi 625,Vi 0,Vr 736,Vi 631,Vi 0,Vr 743,Vi 640,Vi 0,Vr 750,Vi 648,Vi 0,Vr 763,Vi 663,Vi 0,Vr 770,Vi 665,Vi 0,Vr 777,Vi 671,Vi 0,Vr 784,Vi 678,Vi 0,Vr 791,Vi 686,Vi 0,Vr 796,Vi 692,Vi 0,Vr 801,Vi 699,Vi 0,Vr 806,Vi 707,Vi 0,Vr 811,Vi 716,Vi 0,Vr 818,Vi 722,Vi 0,Vr 823,Vi 734,Vi 0,Vr 830,Vi 745,Vi 0,Vr 835],WT,WS,tE,nE,Ot #[.str "k" 190],tE,fJ (st 0) "_wall",YE,YD,YC,tE,nE,Ot #[.str "code" 206],tE,fJ (st 3) "is_white",YB,YA,Yz,Oz (.type "builtin_function_or_method") #[.builtin "type.__prepare__",.type "type"],Oh #[dE P "__module__" 219 (.str "paperhold.errors" 210),dE P "__qualname__" 221 (.str "PaperError" 220),dE P "__firstlineno__" 223 (.int 9 222),dE P "__init__" 234 (Vr 44),dE P "told" 241 (Vr 51),dE P "__static_attributes__" 244 (Vr 52)] 6,tE,Oz .none #[Vi 11,Vi 4,Vr 43,Vi 16,Vi 4,Vr 50],Oc "PaperError" "PaperError" 214 9 0 0 33 false 34 .none .none .none 217,Of 35 3 32 (.str "paperhold.errors" 210),Yy,tE,nE,Ot #[.str "self" 229,.str "what" 230,.str "at" 231],tE,fJ (mt 5 0) "PaperError.__init__",Yx,Yw,tE,nE,Ot #[.str "self" 238],tE,fJ (mt 5 1) "PaperError.told",Yv,Yu,Yt,Ys P,Yr,Yq,Oz (.type "super") #[Vr 54,Vr 54,Vr 54],Oz (.type "builtin_function_or_method") #[.builtin "object.__init_subclass__",Vr 54],Yp,Oz (.type "builtin_function_or_method") #[.builtin "type.__prepare__",.type "type"],Oh #[dE P "__module__" 259 (.str "paperhold.errors" 210),dE P "__qualname__" 261 (.str "FilterFault" 260),dE P "__firstlineno__" 263 (.int 18 262),dE P "__static_attributes__" 264 (Vr 65)] 4,tE,nE,Oc "FilterFault" "FilterFault" 254 18 0 0 61 false 62 .none .none .none 257,Of 63 3 60 (.str "paperhold.errors" 210),tE,Yo P,Yn,Oz (.type "super") #[Vr 67,Vr 67,Vr 67],Oz (.type "builtin_function_or_method") #[.builtin "object.__init_subclass__",Vr 67],tE,nE,Ot #[.str "code" 291],tE,fJ (st 15) "figure_worth",Ym,Yl,tE,nE,fJ (st 16) "hex_decoded",Yk,Yj,tE,nE,Ot #[.str "signs" 304,.str "at" 305,.str "missing" 306,.str "total" 307,.str "sign" 308,.str "octets" 309,.str "turn" 310],tE,fJ (st 17) "octets_of_group",Yi,Yh,tE,nE,Ot #[.str "data" 317,.str "at" 318,.str "here" 319],tE,fJ (st 18) "is_end_at",Yg,Ye,tE,nE,Ot #[.str "data" 326,.str "octets" 327,.str "signs" 328,.str "last" 329,.str "at" 330,.str "code" 331],tE,fJ (st 19) "base85_decoded",Vo,Vn,tE,nE,Ot #[.str "data" 338,.str "octets" 339,.str "at" 340,.str "length" 341,.str "row" 342],tE,fJ (st 20) "run_decoded",Vm,Vl,tE,nE,Ot #[.str "value" 353,.str "count" 354],tE,fJ (st 23) "low_bits",Vk,Vj,tE,Oz (.type "builtin_function_or_method") #[.builtin "type.__prepare__",.type "type"],Oh #[dE P "__module__" 365 (.str "paperhold.bits" 346),dE P "__qualname__" 367 (.str "BitsIn" 366),dE P "__firstlineno__" 369 (.int 110 368),dE P "__init__" 379 (Vr 131),dE P "left" 386 (Vr 138),dE P "need" 394 (Vr 145),dE P "take" 403 (Vr 152),dE P "align" 410 (Vr 159),dE P "octets" 418 (Vr 166),dE P "__static_attributes__" 423 (Vr 167)] 10,tE,Oz .none #[Vi 112,Vi 4,Vr 130,Vi 118,Vi 4,Vr 137,Vi 121,Vi 4,Vr 144,Vi 125,Vi 4,Vr 151,Vi 136,Vi 4,Vr 158,Vi 140,Vi 4,Vr 165],Oc "BitsIn" "BitsIn" 360 110 0 0 120 false 121 .none .none .none 363,Of 122 3 119 (.str "paperhold.bits" 346),Vh,tE,nE,Ot #[.str "self" 374,.str "data" 375,.str "at" 376],tE,fJ (mt 24 0) "BitsIn.__init__",Vg,Vf,tE,nE,Ot #[.str "self" 383],tE,fJ (mt 24 1) "BitsIn.left",Ve,Vd,tE,nE,Ot #[.str "self" 390,.str "count" 391],tE,fJ (mt 24 2) "BitsIn.need",Vc,Vb,tE,nE,Ot #[.str "self" 398,.str "count" 399,.str "value" 400],tE,fJ (mt 24 3) "BitsIn.take",Va,UZ,tE,nE,Ot #[.str "self" 407],tE,fJ (mt 24 4) "BitsIn.align",UY,UX,tE,nE,Ot #[.str "self" 414,.str "count" 415],tE,fJ (mt 24 5) "BitsIn.octets",UW,UV,UU,UT P,US,UR,UQ,Oz (.type "super") #[Vr 169,Vr 169,Vr 169],Oz (.type "builtin_function_or_method") #[.builtin "object.__init_subclass__",Vr 169],tE,Oz (.type "builtin_function_or_method") #[.builtin "type.__prepare__",.type "type"],Oh #[dE P "__module__" 438 (.str "paperhold.bits" 346),dE P "__qualname__" 440 (.str "HighBitsIn" 439),dE P "__firstlineno__" 442 (.int 145 441),dE P "__init__" 450 (Vr 187),dE P "left" 457 (Vr 194),dE P "take" 466 (Vr 201),dE P "align" 473 (Vr 208),dE P "__static_attributes__" 478 (Vr 209)] 8,tE,Oz .none #[Vi 147,Vi 4,Vr 186,Vi 153,Vi 4,Vr 193,Vi 156,Vi 4,Vr 200,Vi 168,Vi 4,Vr 207],Oc "HighBitsIn" "HighBitsIn" 433 145 0 0 177 false 178 .none .none .none 436,Of 179 3 176 (.str "paperhold.bits" 346),tE,nE,Ot #[.str "self" 446,.str "data" 447],tE,fJ (mt 25 0) "HighBitsIn.__init__",UP,UO,tE,nE,Ot #[.str "self" 454],tE,fJ (mt 25 1) "HighBitsIn.left",UN,UM,tE,nE,Ot #[.str "self" 461,.str "count" 462,.str "value" 463],tE,fJ (mt 25 2) "HighBitsIn.take",UL,UK,tE,nE,Ot #[.str "self" 470],tE,fJ (mt 25 3) "HighBitsIn.align",UJ,UI,UH,UG P,UF,UE,UD,Oz (.type "super") #[Vr 211,Vr 211,Vr 211],Oz (.type "builtin_function_or_method") #[.builtin "object.__init_subclass__",Vr 211],tE,nE,Ot #[.str "lengths" 491],tE,fJ (st 27) "greatest_length",UC,UB,tE,nE,Ot #[.str "lengths" 498,.str "tally" 499,.str "length" 500],tE,fJ (st 28) "tally_of",UA,Uz,tE,nE,Ot #[.str "lengths" 507,.str "room" 508,.str "taken" 509],tE,fJ (st 29) "room_left",Uy,Ux,tE,nE,Ot #[.str "lengths" 516],tE,fJ (st 30) "is_full",Uw,Uv,tE,nE,Ot #[.str "lengths" 523],tE,fJ (st 31) "is_over",Uu,Ut,tE,nE,fJ (st 32) "symbols_of",Us,Ur,tE,Oz (.type "builtin_function_or_method") #[.builtin "type.__prepare__",.type "type"],Oh #[dE P "__module__" 540 (.str "paperhold.huffman" 486),dE P "__qualname__" 542 (.str "Decoder" 541),dE P "__firstlineno__" 544 (.int 197 543),dE P "__init__" 552 (Vr 269),dE P "read" 564 (Vr 276),dE P "__static_attributes__" 567 (Vr 277)] 6,tE,Oz .none #[Vi 199,Vi 4,Vr 268,Vi 205,Vi 4,Vr 275],Oc "Decoder" "Decoder" 535 197 0 0 259 false 260 .none .none .none 538,Of 261 3 258 (.str "paperhold.huffman" 486),tE,nE,Ot #[.str "self" 548,.str "lengths" 549],tE,fJ (mt 33 0) "Decoder.__init__",Uq,Up,tE,nE,Ot #[.str "self" 556,.str "bits" 557,.str "code" 558,.str "first" 559,.str "place" 560,.str "taken" 561],tE,fJ (mt 33 1) "Decoder.read",Uo,Um,Ul,Uk P,Uj,Ui,Uh,Oz (.type "super") #[Vr 279,Vr 279,Vr 279],Oz (.type "builtin_function_or_method") #[.builtin "object.__init_subclass__",Vr 279],tE,nE,Ot #[.str "bases" 584,.str "extras" 585,.str "base" 586,.str "place" 587,.str "extra" 588],tE,fJ (st 37) "length_rows",Ug,Uf,tE,nE,Ot #[.str "bases" 595,.str "extras" 596,.str "base" 597,.str "place" 598,.str "extra" 599],tE,fJ (st 38) "distance_rows",Ue,Uc,tE,nE,Ot #[.str "order" 606,.str "place" 607],tE,fJ (st 39) "length_order",Ub,Ua,tE,nE,tE,tE,fJ (st 40) "fixed_lengths",TZ,TY,tE,nE,Ot #[.str "bits" 620,.str "symbol" 621,.str "lengths" 622],tE,fJ (st 41) "repeated",TX,TV,tE,nE,Ot #[.str "bits" 629,.str "literals" 630,.str "distances" 631,.str "count" 632,.str "small" 633,.str "place" 634,.str "decoder" 635,.str "lengths" 636,.str "symbol" 637,.str "length" 638,.str "times" 639],tE,fJ (st 42) "read_lengths",TU,TT,tE,nE,Ot #[.str "lengths" 646],tE,fJ (st 43) "is_usable",TS,TR,tE,nE,Ot #[.str "bits" 653,.str "literals" 654,.str "distances" 655],tE,fJ (st 44) "read_decoders",TQ,TP,tE,nE,Ot #[.str "bits" 662,.str "literals" 663,.str "distances" 664,.str "rows" 665,.str "symbol" 666,.str "place" 667,.str "length" 668],tE,fJ (st 45) "read_part",TN,TM,tE,nE,Ot #[.str "out" 675,.str "part" 676,.str "at" 677,.str "length" 678,.str "distance" 679,.str "turn" 680],tE,fJ (st 46) "lay_part",TL,TK,tE,nE,Ot #[.str "bits" 687,.str "count" 688],tE,fJ (st 47) "read_stored",TJ,TH,tE,nE,Ot #[.str "bits" 695,.str "way" 696,.str "literals" 697,.str "distances" 698],tE,fJ (st 48) "block_decoders",TG,TF,tE,nE,Ot #[.str "out" 705,.str "bits" 706,.str "rows" 707,.str "is_last" 708,.str "way" 709,.str "literals" 710,.str "distances" 711,.str "part" 712],tE,fJ (st 49) "inflate_into",TC,TB,TA,tE,nE,Ot #[.str "data" 720,.str "at" 721,.str "bits" 722,.str "out" 723],tE,fJ (st 50) "inflate",Tz,Ty,tE,nE,Ot #[.str "octets" 730,.str "low" 731,.str "high" 732,.str "octet" 733],tE,fJ (st 51) "adler",Tx,Tw,tE,nE,Ot #[.str "data" 740],tE,fJ (st 52) "check_frame",Tv,Tu,tE,nE,Ot #[.str "data" 747,.str "at" 748,.str "octets" 749,.str "total" 750,.str "octet" 751],tE,fJ (st 53) "check_sum",Tt,Ts,tE,nE,Ot #[.str "data" 758,.str "octets" 759,.str "at" 760],tE,fJ (st 54) "zlib_decoded",Tq,Tp,tE,Oz (.type "builtin_function_or_method") #[.builtin "type.__prepare__",.type "type"],Oh #[dE P "__module__" 777 (.str "paperhold.lzw" 764),dE P "__qualname__" 779 (.str "Sizes" 778),dE P "__firstlineno__" 781 (.int 377 780),dE P "__init__" 792 (Vr 425),dE P "width" 801 (Vr 432),dE P "__static_attributes__" 809 (Vr 433)] 6,tE,Oz .none #[Vi 379,Vi 4,Vr 424,Vi 388,Vi 4,Vr 431],Oc "Sizes" "Sizes" 772 377 0 0 414 false 415 .none .none .none 775,Of 416 3 413 (.str "paperhold.lzw" 764),To,tE,nE,Ot #[.str "self" 786,.str "bits" 787,.str "widest" 788,.str "early" 789],tE,fJ (mt 58 0) "Sizes.__init__",Tm,Tl,tE,nE,Ot #[.str "self" 796,.str "count" 797,.str "needed" 798],tE,fJ (mt 58 1) "Sizes.width",Tk,Tj,Ti,Th P,Tf,Te,Td,Oz (.type "super") #[Vr 435,Vr 435,Vr 435],Oz (.type "builtin_function_or_method") #[.builtin "object.__init_subclass__",Vr 435],tE,Oz (.type "builtin_function_or_method") #[.builtin "type.__prepare__",.type "type"],Oh #[dE P "__module__" 824 (.str "paperhold.lzw" 764),dE P "__qualname__" 826 (.str "Count" 825),dE P "__firstlineno__" 828 (.int 391 827),dE P "__init__" 836 (Vr 453),dE P "width" 843 (Vr 460),dE P "passed" 851 (Vr 467),dE P "__static_attributes__" 855 (Vr 468)] 7,tE,Oz .none #[Vi 393,Vi 4,Vr 452,Vi 398,Vi 4,Vr 459,Vi 401,Vi 4,Vr 466],Oc "Count" "Count" 819 391 0 0 443 false 444 .none .none .none 822,Of 445 3 442 (.str "paperhold.lzw" 764),tE,nE,Ot #[.str "self" 832,.str "sizes" 833],tE,fJ (mt 59 0) "Count.__init__",Tc,Tb,tE,nE,Ot #[.str "self" 840],tE,fJ (mt 59 1) "Count.width",Ta,SZ,tE,nE,Ot #[.str "self" 847,.str "code" 848],tE,fJ (mt 59 2) "Count.passed",SY,SX,SW,SV P,SU,ST,SS,Oz (.type "super") #[Vr 470,Vr 470,Vr 470],Oz (.type "builtin_function_or_method") #[.builtin "object.__init_subclass__",Vr 470],tE,nE,Ot #[.str "sizes" 866,.str "data" 867,.str "source" 868,.str "count" 869,.str "codes" 870,.str "code" 871],tE,fJ (st 60) "read_codes",SR,SQ,tE,nE,Ot #[.str "sizes" 878,.str "words" 879,.str "code" 880,.str "before" 881,.str "place" 882],tE,fJ (st 61) "word_of",SP,SO,tE,nE,Ot #[.str "sizes" 889,.str "codes" 890,.str "signs" 891,.str "words" 892,.str "before" 893,.str "code" 894,.str "word" 895],tE,fJ (st 62) "unpacked_codes",SN,SM,SL,tE,nE,Ot #[.str "data" 903,.str "early" 904,.str "sizes" 905],tE,fJ (st 63) "lzw_decoded",SK,SJ,tE,Oz (.type "builtin_function_or_method") #[.builtin "type.__prepare__",.type "type"],Oh #[dE P "__module__" 920 (.str "paperhold.objects" 909),dE P "__qualname__" 922 (.str "Name" 921),dE P "__firstlineno__" 924 (.int 450 923),dE P "__init__" 932 (Vr 517),dE P "__static_attributes__" 934 (Vr 518)] 5,tE,Oz .none #[Vi 452,Vi 4,Vr 516],Oc "Name" "Name" 915 450 0 0 507 false 508 .none .none .none 918,Of 509 3 506 (.str "paperhold.objects" 909),tE,nE,Ot #[.str "self" 928,.str "text" 929],tE,fJ (mt 66 0) "Name.__init__",SI,SH,SG,SE P,SD,SC,SA,Oz (.type "super") #[Vr 520,Vr 520,Vr 520],Oz (.type "builtin_function_or_method") #[.builtin "object.__init_subclass__",Vr 520],tE,Oz (.type "builtin_function_or_method") #[.builtin "type.__prepare__",.type "type"],Oh #[dE P "__module__" 949 (.str "paperhold.objects" 909),dE P "__qualname__" 951 (.str "Stream" 950),dE P "__firstlineno__" 953 (.int 454 952),dE P "__init__" 962 (Vr 538),dE P "__static_attributes__" 965 (Vr 539)] 5,tE,Oz .none #[Vi 456,Vi 4,Vr 537],Oc "Stream" "Stream" 944 454 0 0 528 false 529 .none .none .none 947,Of 530 3 527 (.str "paperhold.objects" 909),tE,nE,Ot #[.str "self" 957,.str "head" 958,.str "octets" 959],tE,fJ (mt 67 0) "Stream.__init__",Sz,Sy,Sx,Sw P,Sv,Su,Ss,Oz (.type "super") #[Vr 541,Vr 541,Vr 541],Oz (.type "builtin_function_or_method") #[.builtin "object.__init_subclass__",Vr 541],tE,Oz (.type "builtin_function_or_method") #[.builtin "type.__prepare__",.type "type"],Oh #[dE P "__module__" 980 (.str "paperhold.objects" 909),dE P "__qualname__" 982 (.str "Reference" 981),dE P "__firstlineno__" 984 (.int 459 983),dE P "__init__" 993 (Vr 559),dE P "pair" 1000 (Vr 566),dE P "__static_attributes__" 1003 (Vr 567)] 6,tE,Oz .none #[Vi 461,Vi 4,Vr 558,Vi 465,Vi 4,Vr 565],Oc "Reference" "Reference" 975 459 0 0 549 false 550 .none .none .none 978,Of 551 3 548 (.str "paperhold.objects" 909),tE,nE,Ot #[.str "self" 988,.str "number" 989,.str "generation" 990],tE,fJ (mt 68 0) "Reference.__init__",Sr,Sq,tE,nE,Ot #[.str "self" 997],tE,fJ (mt 68 1) "Reference.pair",Sp,So,Sn,Sm P,Sl,Sk,Sj,Oz (.type "super") #[Vr 569,Vr 569,Vr 569],Oz (.type "builtin_function_or_method") #[.builtin "object.__init_subclass__",Vr 569],tE,Oz (.type "builtin_function_or_method") #[.builtin "type.__prepare__",.type "type"],Oh #[dE P "__module__" 1018 (.str "paperhold.objects" 909),dE P "__qualname__" 1020 (.str "Lookup" 1019),dE P "__firstlineno__" 1022 (.int 467 1021),dE P "__init__" 1031 (Vr 588),dE P "fetch" 1043 (Vr 595),dE P "get" 1052 (Vr 602),dE P "__static_attributes__" 1055 (Vr 603)] 7,tE,Oz .none #[Vi 469,Vi 4,Vr 587,Vi 473,Vi 4,Vr 594,Vi 484,Vi 4,Vr 601],Oc "Lookup" "Lookup" 1013 467 0 0 577 false 578 .none .none .none 1016,Of 579 3 576 (.str "paperhold.objects" 909),Si,tE,nE,Ot #[.str "self" 1026,.str "table" 1027,.str "trailer" 1028],tE,fJ (mt 69 0) "Lookup.__init__",Sh,Sg,tE,nE,Ot #[.str "self" 1035,.str "value" 1036,.str "here" 1037,.str "hop" 1038,.str "generation" 1039,.str "found" 1040],tE,fJ (mt 69 1) "Lookup.fetch",Sf,Se,tE,nE,Ot #[.str "self" 1047,.str "head" 1048,.str "key" 1049],tE,fJ (mt 69 2) "Lookup.get",Sa,RZ,RY,RX P,RW,RV,RU,Oz (.type "super") #[Vr 605,Vr 605,Vr 605],Oz (.type "builtin_function_or_method") #[.builtin "object.__init_subclass__",Vr 605],RT,tE,Oz (.type "builtin_function_or_method") #[.builtin "type.__prepare__",.type "type"],Oh #[dE P "__module__" 1078 (.str "paperhold.predictors" 1063),dE P "__qualname__" 1080 (.str "Shape" 1079),dE P "__firstlineno__" 1082 (.int 488 1081),dE P "__init__" 1092 (Vr 624),dE P "__static_attributes__" 1098 (Vr 625)] 5,tE,Oz .none #[Vi 490,Vi 4,Vr 623],Oc "Shape" "Shape" 1073 488 0 0 614 false 615 .none .none .none 1076,Of 616 3 613 (.str "paperhold.predictors" 1063),tE,nE,Ot #[.str "self" 1086,.str "colors" 1087,.str "bits" 1088,.str "columns" 1089],tE,fJ (mt 72 0) "Shape.__init__",RS,RR,RQ,RP P,RO,RN,RM,Oz (.type "super") #[Vr 627,Vr 627,Vr 627],Oz (.type "builtin_function_or_method") #[.builtin "object.__init_subclass__",Vr 627],tE,nE,fJ (st 73) "rows_of_octets",RL,RK,tE,nE,fJ (st 74) "samples_of",RJ,RI,tE,nE,Ot #[.str "levels" 1121,.str "bits" 1122,.str "octets" 1123,.str "sample" 1124,.str "count" 1125,.str "at" 1126,.str "total" 1127],tE,fJ (st 75) "octets_of",RH,RG,tE,nE,Ot #[.str "row" 1134,.str "shape" 1135,.str "is_undone" 1136,.str "levels" 1137,.str "later" 1138,.str "at" 1139,.str "octets" 1140],tE,fJ (st 76) "turned_row",RE,RD,tE,nE,Ot #[.str "octets" 1147,.str "shape" 1148,.str "found" 1149,.str "row" 1150],tE,fJ (st 77) "tiff_undone",RC,RB,tE,nE,Ot #[.str "a" 1157,.str "b" 1158,.str "c" 1159,.str "guess" 1160],tE,fJ (st 78) "paeth",RA,Ry,tE,nE,Ot #[.str "row" 1167,.str "above" 1168,.str "at" 1169,.str "step" 1170,.str "way" 1171,.str "left" 1172,.str "up" 1173],tE,fJ (st 79) "guess_at",Rx,Rw,tE,nE,Ot #[.str "octets" 1180,.str "shape" 1181,.str "found" 1182,.str "above" 1183,.str "at" 1184,.str "way" 1185,.str "row" 1186,.str "octet" 1187],tE,fJ (st 80) "png_undone",Rv,Ru,tE,nE,Ot #[.str "parms" 1194,.str "key" 1195,.str "default" 1196,.str "value" 1197],tE,fJ (st 81) "parm",Rt,Rs,tE,nE,Ot #[.str "parms" 1204,.str "bits" 1205],tE,fJ (st 82) "shape_of",Rr,Rq,tE,nE,Ot #[.str "octets" 1212,.str "parms" 1213,.str "way" 1214],tE,fJ (st 83) "unpredicted",Rp,Ro,tE,nE,Ot #[.str "text" 1223,.str "short" 1224],tE,fJ (st 85) "full_name",Rn,Rm,tE,nE,Ot #[.str "shelf" 1231,.str "head" 1232,.str "given" 1233,.str "names" 1234,.str "item" 1235,.str "name" 1236],tE,fJ (st 86) "filter_names",Rk,Rj,tE,nE,fJ (st 87) "filter_parms",Ri,Rh,tE,nE,Ot #[.str "parms" 1249,.str "early" 1250],tE,fJ (st 88) "early_of",Rg,Rf,tE,nE,Ot #[.str "name" 1257,.str "octets" 1258],tE,fJ (st 89) "undo_plain",Re,Rc,tE,nE,Ot #[.str "name" 1265,.str "octets" 1266,.str "parms" 1267,.str "plain" 1268],tE,fJ (st 90) "undo_one",Rb,Ra,tE,nE,Ot #[.str "shelf" 1275,.str "stream" 1276,.str "names" 1277,.str "octets" 1278,.str "name" 1279,.str "parms" 1280],tE,fJ (st 91) "decoded",QZ,QY,QX,QW,QV,QU,QT,QS,tE,nE,Ot #[.str "pen" 1300,.str "many" 1301,.str "digit" 1302,.str "spot" 1303,.str "cell" 1304,.str "great" 1305],tE,fJ (st 94) "_law_draw",QR,QQ,tE,nE,Ot #[.str "script" 1312],tE,fJ (st 95) "_law_pen",QP,QO,tE,nE,Ot #[.str "pen" 1319,.str "most" 1320,.str "found" 1321,.str "turn" 1322,.str "way" 1323],tE,fJ (st 96) "_law_octets",QN,QM,tE,nE,Ot #[.str "work" 1330,.str "caught" 1331,.str "found" 1332,.str "error" 1333],tE,fJ (st 97) "_law_heard",QL,QK,tE,nE,Ot #[.str "octets" 1340,.str "low" 1341,.str "high" 1342,.str "octet" 1343,.str "size" 1344,.str "head" 1345],tE,fJ (st 98) "_law_framed",QJ,QI,tE,nE,fJ (st 99) "_law_coded",QH,QG,tE,nE,fJ (st 100) "_law_signs",QF,QE,tE,nE,fJ (st 101) "_law_foretold",QD,QC,tE,nE,fJ (st 102) "_law_encoded",QB,QA,tE,nE,Ot #[.str "pen" 1376,.str "table" 1377,.str "value" 1378,.str "turn" 1379,.str "number" 1380],tE,fJ (st 103) "_law_laid",Qz,Qy,tE,nE,fJ (st 104) "_law_head",Qx,Qw,tE,nE,Ot #[.str "pen" 1393,.str "head" 1394,.str "count" 1395,.str "way" 1396,.str "found" 1397],tE,fJ (st 105) "_law_foul",Qv,Qu,tE,nE,fJ (st 106) "law",Qt,Qs]
noncomputable def t1(P:dB):BT:=mk 11 (hl P)
noncomputable def h1(P:dB):bF:=⟨⟨hl P⟩,{}⟩
noncomputable def p3(P:dB):=Oh #[dE P "__name__" 165 (.str "paperhold.lzw" 764),dE P "__doc__" 166 .none,dE P "__package__" 167 .none,dE P "__loader__" 168 (.builtin "__main__.__loader__#opaque"),dE P "__spec__" 169 .none,dE P "__annotations__" 170 (Vr 6),dE P "__builtins__" 171 (Vr 4),dE P "__file__" 173 (.str "/claim/cut.py" 172),dE P "__cached__" 174 .none,dE P "_wall" 193 (Vr 21),dE P "WHITE" 202 (Vr 22),dE P "is_white" 209 (Vr 29),dE P "PaperError" 251 (Vr 54),dE P "FilterFault" 267 (Vr 67),dE P "HEX_END" 271 (.int 62 270),dE P "TILDE" 273 (.int 126 272),dE P "LEAST_SIGN" 275 (.int 33 274),dE P "MOST_SIGN" 277 (.int 117 276),dE P "FOUR_NOUGHTS" 279 (.int 122 278),dE P "MOST_GROUP" 285 (.int 4294967295 284),dE P "RUN_END" 287 (.int 128 286),dE P "figure_worth" 294 (Vr 76),dE P "hex_decoded" 300 (Vr 81),dE P "octets_of_group" 313 (Vr 88),dE P "is_end_at" 322 (Vr 95),dE P "base85_decoded" 334 (Vr 102),dE P "run_decoded" 345 (Vr 109),dE P "OCTET" 349 (.int 8 348),dE P "low_bits" 357 (Vr 116),dE P "BitsIn" 430 (Vr 169),dE P "HighBitsIn" 485 (Vr 211),dE P "greatest_length" 494 (Vr 222),dE P "tally_of" 503 (Vr 229),dE P "room_left" 512 (Vr 236),dE P "is_full" 519 (Vr 243),dE P "is_over" 526 (Vr 250),dE P "symbols_of" 532 (Vr 255),dE P "Decoder" 574 (Vr 279),dE P "END" 578 (.int 256 577),dE P "SUM_BASE" 580 (.int 65521 579),dE P "length_rows" 591 (Vr 290),dE P "distance_rows" 602 (Vr 297),dE P "length_order" 610 (Vr 304),dE P "fixed_lengths" 616 (Vr 311),dE P "repeated" 625 (Vr 318),dE P "read_lengths" 642 (Vr 325),dE P "is_usable" 649 (Vr 332),dE P "read_decoders" 658 (Vr 339),dE P "read_part" 671 (Vr 346),dE P "lay_part" 683 (Vr 353),dE P "read_stored" 691 (Vr 360),dE P "block_decoders" 701 (Vr 367),dE P "inflate_into" 715 (Vr 374),dE P "inflate" 726 (Vr 382),dE P "adler" 736 (Vr 389),dE P "check_frame" 743 (Vr 396),dE P "check_sum" 754 (Vr 403),dE P "zlib_decoded" 763 (Vr 410),dE P "BITS_lzw" 767 (.int 8 766),dE P "WIDEST" 769 (.int 12 768),dE P "Sizes" 816 (Vr 435)] 61
noncomputable def YX:=Oz .none #[Vi 1,Vi 0,Vr 20,Vi 6,Vi 0,Vr 28,Vi 9,Vi 0,Vr 35,Vi 18,Vi 0,Vr 63,Vi 28,Vi 0,Vr 75,Vi 36,Vi 0,Vr 80,Vi 49,Vi 0,Vr 87,Vi 61,Vi 0,Vr 94,Vi 68,Vi 0,Vr 101,Vi 90,Vi 0,Vr 108,Vi 108,Vi 0,Vr 115,Vi 110,Vi 0,Vr 122,Vi 145,Vi 0,Vr 179,Vi 172,Vi 0,Vr 221,Vi 174,Vi 0,Vr 228,Vi 180,Vi 0,Vr 235,Vi 185,Vi 0,Vr 242,Vi 187,Vi 0,Vr 249,Vi 189,Vi 0,Vr 254,Vi 197,Vi 0,Vr 261,Vi 219,Vi 0,Vr 289,Vi 229,Vi 0,Vr 296,Vi 239,Vi 0,Vr 303,Vi 247,Vi 0,Vr 310,Vi 249,Vi 0,Vr 317,Vi 257,Vi 0,Vr 324,Vi 280,Vi 0,Vr 331,Vi 282,Vi 0,Vr 338,Vi 289,Vi 0,Vr 345,Vi 303,Vi 0,Vr 352,Vi 312,Vi 0,Vr 359,Vi 318,Vi 0,Vr 366,Vi 325,Vi 0,Vr 373,Vi 340,Vi 0,Vr 381,Vi 345,Vi 0,Vr 388,Vi 352,Vi 0,Vr 395,Vi 361,Vi 0,Vr 402,Vi 369,Vi 0,Vr 409,Vi 377,Vi 0,Vr 416]
noncomputable def tm(P:dB):BT:=mk 11 ((((hl P).take 440).set 3 (p3 P)).set 12 YX)
noncomputable def KF:dB->Frag:=λ P=>(nat_lit 2,o2 P)::(nat_lit 3,o3 P)::(nat_lit 20,YE)::(nat_lit 21,YD)::(nat_lit 22,YC)::(nat_lit 28,YB)::(nat_lit 29,YA)::(nat_lit 30,Yz)::(nat_lit 37,Yy)::(nat_lit 43,Yx)::(nat_lit 44,Yw)::(nat_lit 50,Yv)::(nat_lit 51,Yu)::(nat_lit 52,Yt)::(nat_lit 53,Ys P)::(nat_lit 54,Yr)::(nat_lit 55,Yq)::(nat_lit 58,Yp)::(nat_lit 65,tE)::(nat_lit 66,Yo P)::(nat_lit 67,Yn)::(nat_lit 75,Ym)::(nat_lit 76,Yl)::(nat_lit 80,Yk)::(nat_lit 81,Yj)::(nat_lit 87,Yi)::(nat_lit 88,Yh)::(nat_lit 94,Yg)::(nat_lit 95,Ye)::(nat_lit 101,Vo)::(nat_lit 102,Vn)::(nat_lit 108,Vm)::(nat_lit 109,Vl)::(nat_lit 115,Vk)::(nat_lit 116,Vj)::(nat_lit 124,Vh)::(nat_lit 130,Vg)::(nat_lit 131,Vf)::(nat_lit 137,Ve)::(nat_lit 138,Vd)::(nat_lit 144,Vc)::(nat_lit 145,Vb)::(nat_lit 151,Va)::(nat_lit 152,UZ)::(nat_lit 158,UY)::(nat_lit 159,UX)::(nat_lit 165,UW)::(nat_lit 166,UV)::(nat_lit 167,UU)::(nat_lit 168,UT P)::(nat_lit 169,US)::(nat_lit 170,UR)::(nat_lit 171,UQ)::(nat_lit 186,UP)::(nat_lit 187,UO)::(nat_lit 193,UN)::(nat_lit 194,UM)::(nat_lit 200,UL)::(nat_lit 201,UK)::(nat_lit 207,UJ)::(nat_lit 208,UI)::(nat_lit 209,UH)::(nat_lit 210,UG P)::(nat_lit 211,UF)::(nat_lit 212,UE)::(nat_lit 213,UD)::(nat_lit 221,UC)::(nat_lit 222,UB)::(nat_lit 228,UA)::(nat_lit 229,Uz)::(nat_lit 235,Uy)::(nat_lit 236,Ux)::(nat_lit 242,Uw)::(nat_lit 243,Uv)::(nat_lit 249,Uu)::(nat_lit 250,Ut)::(nat_lit 254,Us)::(nat_lit 255,Ur)::(nat_lit 268,Uq)::(nat_lit 269,Up)::(nat_lit 275,Uo)::(nat_lit 276,Um)::(nat_lit 277,Ul)::(nat_lit 278,Uk P)::(nat_lit 279,Uj)::(nat_lit 280,Ui)::(nat_lit 281,Uh)::(nat_lit 289,Ug)::(nat_lit 290,Uf)::(nat_lit 296,Ue)::(nat_lit 297,Uc)::(nat_lit 303,Ub)::(nat_lit 304,Ua)::(nat_lit 310,TZ)::(nat_lit 311,TY)::(nat_lit 317,TX)::(nat_lit 318,TV)::(nat_lit 324,TU)::(nat_lit 325,TT)::(nat_lit 331,TS)::(nat_lit 332,TR)::(nat_lit 338,TQ)::(nat_lit 339,TP)::(nat_lit 345,TN)::(nat_lit 346,TM)::(nat_lit 352,TL)::(nat_lit 353,TK)::(nat_lit 359,TJ)::(nat_lit 360,TH)::(nat_lit 366,TG)::(nat_lit 367,TF)::(nat_lit 373,TC)::(nat_lit 374,TB)::(nat_lit 375,TA)::(nat_lit 381,Tz)::(nat_lit 382,Ty)::(nat_lit 388,Tx)::(nat_lit 389,Tw)::(nat_lit 395,Tv)::(nat_lit 396,Tu)::(nat_lit 402,Tt)::(nat_lit 403,Ts)::(nat_lit 409,Tq)::(nat_lit 410,Tp)::(nat_lit 418,To)::(nat_lit 424,Tm)::(nat_lit 425,Tl)::(nat_lit 431,Tk)::(nat_lit 432,Tj)::(nat_lit 433,Ti)::(nat_lit 434,Th P)::(nat_lit 435,Tf)::(nat_lit 436,Te)::(nat_lit 437,Td)::(nat_lit 452,Tc)::(nat_lit 453,Tb)::(nat_lit 459,Ta)::(nat_lit 460,SZ)::(nat_lit 466,SY)::(nat_lit 467,SX)::(nat_lit 468,SW)::(nat_lit 469,SV P)::(nat_lit 470,SU)::(nat_lit 471,ST)::(nat_lit 472,SS)::(nat_lit 480,SR)::(nat_lit 481,SQ)::(nat_lit 487,SP)::(nat_lit 488,SO)::(nat_lit 494,SN)::(nat_lit 495,SM)::(nat_lit 496,SL)::(nat_lit 502,SK)::(nat_lit 503,SJ)::(nat_lit 516,SI)::(nat_lit 517,SH)::(nat_lit 518,SG)::(nat_lit 519,SE P)::(nat_lit 520,SD)::(nat_lit 521,SC)::(nat_lit 522,SA)::(nat_lit 537,Sz)::(nat_lit 538,Sy)::(nat_lit 539,Sx)::(nat_lit 540,Sw P)::(nat_lit 541,Sv)::(nat_lit 542,Su)::(nat_lit 543,Ss)::(nat_lit 558,Sr)::(nat_lit 559,Sq)::(nat_lit 565,Sp)::(nat_lit 566,So)::(nat_lit 567,Sn)::(nat_lit 568,Sm P)::(nat_lit 569,Sl)::(nat_lit 570,Sk)::(nat_lit 571,Sj)::(nat_lit 581,Si)::(nat_lit 587,Sh)::(nat_lit 588,Sg)::(nat_lit 594,Sf)::(nat_lit 595,Se)::(nat_lit 601,Sa)::(nat_lit 602,RZ)::(nat_lit 603,RY)::(nat_lit 604,RX P)::(nat_lit 605,RW)::(nat_lit 606,RV)::(nat_lit 607,RU)::(nat_lit 610,RT)::(nat_lit 623,RS)::(nat_lit 624,RR)::(nat_lit 625,RQ)::(nat_lit 626,RP P)::(nat_lit 627,RO)::(nat_lit 628,RN)::(nat_lit 629,RM)::(nat_lit 635,RL)::(nat_lit 636,RK)::(nat_lit 640,RJ)::(nat_lit 641,RI)::(nat_lit 647,RH)::(nat_lit 648,RG)::(nat_lit 654,RE)::(nat_lit 655,RD)::(nat_lit 661,RC)::(nat_lit 662,RB)::(nat_lit 668,RA)::(nat_lit 669,Ry)::(nat_lit 675,Rx)::(nat_lit 676,Rw)::(nat_lit 682,Rv)::(nat_lit 683,Ru)::(nat_lit 689,Rt)::(nat_lit 690,Rs)::(nat_lit 696,Rr)::(nat_lit 697,Rq)::(nat_lit 703,Rp)::(nat_lit 704,Ro)::(nat_lit 710,Rn)::(nat_lit 711,Rm)::(nat_lit 717,Rk)::(nat_lit 718,Rj)::(nat_lit 722,Ri)::(nat_lit 723,Rh)::(nat_lit 729,Rg)::(nat_lit 730,Rf)::(nat_lit 736,Re)::(nat_lit 737,Rc)::(nat_lit 743,Rb)::(nat_lit 744,Ra)::(nat_lit 750,QZ)::(nat_lit 751,QY)::(nat_lit 752,QX)::(nat_lit 753,QW)::(nat_lit 754,QV)::(nat_lit 755,QU)::(nat_lit 756,QT)::(nat_lit 757,QS)::(nat_lit 763,QR)::(nat_lit 764,QQ)::(nat_lit 770,QP)::(nat_lit 771,QO)::(nat_lit 777,QN)::(nat_lit 778,QM)::(nat_lit 784,QL)::(nat_lit 785,QK)::(nat_lit 791,QJ)::(nat_lit 792,QI)::(nat_lit 796,QH)::(nat_lit 797,QG)::(nat_lit 801,QF)::(nat_lit 802,QE)::(nat_lit 806,QD)::(nat_lit 807,QC)::(nat_lit 811,QB)::(nat_lit 812,QA)::(nat_lit 818,Qz)::(nat_lit 819,Qy)::(nat_lit 823,Qx)::(nat_lit 824,Qw)::(nat_lit 825,tE)::(nat_lit 830,Qv)::(nat_lit 831,Qu)::(nat_lit 835,Qt)::(nat_lit 836,Qs)::[]
noncomputable def loose:List Str:=(["_wall","WHITE","is_white","PaperError","FilterFault","HEX_END","TILDE","LEAST_SIGN","MOST_SIGN","FOUR_NOUGHTS","MOST_GROUP","RUN_END","figure_worth","hex_decoded","octets_of_group","is_end_at","base85_decoded","run_decoded","OCTET","low_bits","BitsIn","HighBitsIn","greatest_length","tally_of","room_left","is_full","is_over","symbols_of","Decoder","END","SUM_BASE","length_rows","distance_rows","length_order","fixed_lengths","repeated","read_lengths","is_usable","read_decoders","read_part","lay_part","read_stored","block_decoders","inflate_into","inflate","adler","check_frame","check_sum","zlib_decoded","BITS_lzw","WIDEST","Sizes","Count","read_codes","word_of","unpacked_codes","lzw_decoded","MOST_HOPS","Name","Stream","Reference","Lookup","BITS_predictors","Shape","rows_of_octets","samples_of","octets_of","turned_row","tiff_undone","paeth","guess_at","png_undone","parm","shape_of","unpredicted","full_name","filter_names","filter_parms","early_of","undo_plain","undo_one","decoded","_law_names","_law_draw","_law_pen","_law_octets","_law_heard","_law_framed","_law_coded","_law_signs","_law_foretold","_law_encoded","_law_laid","_law_head","_law_foul"]:List String).map aA
noncomputable def qv:bY:={PR with main:={PR.main with body:=[st 106]}}
end
section
noncomputable abbrev PG:bY:=bJ.row.prog
noncomputable abbrev Ev:=Str->Option aF
noncomputable abbrev L5:=List (aJ×Obj)
structure U6(A:bS)(d:Nat):Prop where
 hh:A.handled=none
 dep:A.depth+d < 990
 un:A.units+8*d < 9800
theorem U6.deeper{A:bS}{d:Nat}{env:Env}(R:U6 A (d+1)):U6 (A.deeper env) d:=
 ⟨R.hh,by show A.depth+1+d < 990; rw[lR,eK 1]; exact R.dep,fR (by show A.units+3+8*d<=A.units+(8*d+8); rw[lR,eK 3]; exact gK (gK (by decide) _) _) R.un⟩
theorem U6.le{A:bS}{d e:Nat}(R:U6 A d)(h:e<=d):U6 A e:=⟨R.hh,fR (gK h _) R.dep,fR (gK (dS 8 h) _) R.un⟩
theorem U6.lt{A:bS}{d:Nat}(R:U6 A d):A.depth < recursionLimit:=fR (dC _ _) (jA R.dep (by decide))
section
variable{w:bP}{K:Frag}{p:bY}{loose:List Str}{mean:ExcName->Option aF}{mg mb:Ev}
end
section
variable{σ:Type}{g:bF}{L:aJ}{Pn Pe:σ->Prop}{Ld:σ->L5}{ps:σ->List (Str×aF)}{Qr:aF->aH->Prop}{s₁:aH}{h':bF}{tk:Nat}{m':Ev}{led':L5}
end
noncomputable def PD(b:aJ):L5->Prop
 | []=>True
 | p::r=>@Ne Nat p.1 b/\PD b r
theorem PD.of{b:aJ}{l:L5}(h:∀ p∈l,p.1≠b):PD b l:=by
 induction l with
 | nil=>trivial
 | cons q r ih=>exact⟨h q jG,ih λ p hp=>h p (eA _ hp)⟩
noncomputable def l7:List aJ->L5->Prop
 | [],_=>True
 | b::r,l=>PD b l/\l7 r l
section
variable{prog:bY}{w:bP}{A:bS}{E:aF->aH->Prop}{s:aH}{env:Env}{g:bF}{target:Expr}{body:List dY}{Q:kA->aH->Prop}
end
end
section
section
variable{prog:bY}{w:bP}{A:bS}{E:aF->aH->Prop}{s:aH}{env:Env}{g:bF}
theorem J6{g h:bF}{L D:aJ}{its:Array aF}{n:Nat}{led:L5}(N:fQ g L h led)(hm:(D,listOf its n)∈led):h.IsList D its:=⟨_,(N _ hm).1,rfl,n,rfl⟩
theorem Ck{l:aJ}{its:Array aF}{n:Nat}{x:aF}{Q:aF->aH->Prop}(hl:s.heap.get? l=some (listOf its n))
  (hQ:∀ h',h'.get? l=some (listOf (its.push x) (n+1))->eF l s.heap h'->Q .none {s with heap:=h'}) (hsz:its.size<=sizeLine):
  wpAny (model prog w) A (call (.builtin "list.append") [.ref l,x]) Q E s:=by
 refine gN slot_list_append (⟨_,hl,rfl⟩:s.TypeIs (.ref l) "list") entry_list_append ?_ (args_list_append _ _)
 show wpAny _ _ (updateSeq l (·.push x) >>=λ V=>ret .none) _ _ s
 refine aD ?_
 refine wpAny_updateSeq hl rfl (aO ⟨.none,rfl,hQ _ ?_ (dJ ..)⟩)
 have e:Obj.mapSeq (·.push x) (listOf its n)=listOf (its.push x) (n+1):=by
  show(⟨_,_,.seq (its.push x) (if(its.push x).size== its.size then n else n+1),_⟩:Obj)=_
  have:((its.push x).size== its.size)=false:=by simp
  rw[this]; rfl
 rw[←e]
 exact bU _ hl (by rw[e]; rfl)
section
variable{σ:Type}{elt target iter:aE}{ifs:List aE}{scope:cB}{cl:List (Str×aJ)}{pos:Pos}{I:aJ}{fp wr:List aJ}{n:Nat}{P Md:Nat->aF->bF->Prop}{St:Nat->bF->Prop}{m:Ev}{led:L5}
end
end
end
section
open AutoSeq1 (wpAny_loadPart')
section
variable{prog:bY}{w:bP}{A:bS}{E:aF->aH->Prop}{s:aH}{b:Array UInt8}{t:Tok}
theorem q0{it:aJ}{i:Nat}{c:UInt8}{Q:aF->aH->Prop}(hit:eX s.heap it b t i)(hx:b[i]? =some c)
  (hQ:∀ h',eX h' it b t (i+1)->eF it s.heap h'->Q (.int (c.toNat:Int) s.toks) {s with heap:=h',toks:=s.toks+1}):wpAny (model prog w) A (Builtin.SmallTypes.nextOf (.ref it)) Q E s:=by
 obtain⟨o,ho,hc,hd⟩:=id hit
 refine aD (iE (name:=aA "__next__") (kN hit) lP
  (gN lP (kN hit) KBw.entry_next ?_ (KBw.args_next _)))
 show wpAny _ _ (field (.ref it) 0 >>=_) _ _ s
 refine aD (dA ho hd (x:= .bytes b t) rfl ?_)
 show wpAny _ _ (if(kS b t== dN)=true then _ else _) _ _ s
 rw[if_neg (show ¬ ((kS b t== dN)=true)from eO)]
 show wpAny _ _ (field (.ref it) 1 >>=_) _ _ s
 refine aD (dA ho hd (x:= .int i 0) rfl ?_)
 refine aD (bH (a:=b) rfl ?_)
 simp only[eD,hx]
 refine aD (iL ho hd (by simp) (aD (wpAny_mkInt (aO ⟨_,rfl,aO (hQ _ ?_ (dJ ..))⟩))))
 exact⟨_,bU _ ho (Obj.isFreed_of_fields (jK hd _)),(Obj.cls_mapFields ..).trans hc,by
  rw[jK hd]; simp[rawInt]⟩
theorem w5{it:aJ}{i:Nat}{Q:aF->aH->Prop}(hh:A.handled=none)(hit:eX s.heap it b t i)(hx:b[i]? =none)
  (hE:∀ h' e,gU it s.heap h'->(∃ o,h'.get? e=some o/\o.cls= .type "StopIteration")->E (.ref e) {s with heap:=h'}):wpAny (model prog w) A (Builtin.SmallTypes.nextOf (.ref it)) Q E s:=by
 obtain⟨o,ho,hc,hd⟩:=id hit
 refine aD (iE (name:=aA "__next__") (kN hit) lP
  (gN lP (kN hit) KBw.entry_next ?_ (KBw.args_next _)))
 show wpAny _ _ (field (.ref it) 0 >>=_) _ _ s
 refine aD (dA ho hd (x:= .bytes b t) rfl ?_)
 show wpAny _ _ (if(kS b t== dN)=true then _ else _) _ _ s
 rw[if_neg (show ¬ ((kS b t== dN)=true)from eO)]
 show wpAny _ _ (field (.ref it) 1 >>=_) _ _ s
 refine aD (dA ho hd (x:= .int i 0) rfl ?_)
 refine aD (bH (a:=b) rfl ?_)
 simp only[eD,hx]
 refine aD (fL (aD (iL ho hd (by simp) ?_)))
 show wpAny _ _ (newExc (.type "StopIteration") [] >>=_) _ _ _
 refine aD ?_
 refine aD (cS ?_ (by size_fits))
 refine aD (m:=firstArgMember _ _) (bH (a:=dN) (by first | rfl | (simp only[firstArgMember]; rfl)) ?_)
 refine cS ?_ (by size_fits)
 refine aD (wpAny_handled ?_)
 first | rw[show A.in1.handled=none from hh] | rw[hh]
 refine aD (aO (wpAny_throw ?_))
 exact hE _ _ (((dJ ..).extBut.push _).push _) ⟨_,bC _ rfl,rfl⟩
theorem ER(hh:A.handled=none)(it:aJ)(b:Array UInt8)(t:Tok):
  Draws prog w A it [it] b.size (λ i v=>∃ c u,b[i]? =some c/\v= .int (c.toNat:Int) u) (λ i h=>eX h it b t i) where
 live:=λ V V st=>let ⟨o,ho,_⟩:=st; ⟨o,ho⟩
 frame:=λ V V V st hk=>let ⟨o,ho,r⟩:=st; ⟨o,hk it (by simp) o ho,r⟩
 item:=λ i s Q E hi st hQ=>q0 st (c:=b[i]) (by simp[hi]) λ h' hit' hs'=>hQ _ h' (s.toks+1) ⟨_,_,by simp[hi],rfl⟩ hit' hs'
 done:=λ s Q E st hE=>w5 hh st (by simp) hE
set_option tactic.hygienic true in
set_option maxHeartbeats 1000000 in
theorem c7(b:Array UInt8)(t:Tok):
  Meets (Builtin.«enumerate.__new__» ⟨[.type "enumerate",.bytes b t],[]⟩) (λ V R s=>
   R (.ok (.ret (.ref (s.heap.push {cls:= .type "bytes_iterator",data:= .fields #[.bytes b t,.int 0 0]}).objs.size)))
    {s with heap:=(s.heap.push {cls:= .type "bytes_iterator",data:= .fields #[.bytes b t,.int 0 0]}).push {cls:= .type "enumerate",data:= .fields #[.none,.bool false,.ref s.heap.objs.size,rawInt 0,.none,.none]}}):=
 .of_wp λ prog w A R s h=>by
  obtain⟨hp,g,d,tk,os⟩:=s
  have hsub:=PySem.sub_enumerate
  wp_walk
  refine wpAny_stack_any λ st=>aO ?_
  split
  ·rename_i c _ _ _ _ _
   cases (c== iX "enumerate")
   ·wp_walk using iM
    exact⟨_,rfl,h⟩
   ·wp_walk using iM
    exact⟨_,rfl,h⟩
  ·wp_walk using iM
   exact⟨_,rfl,h⟩
theorem d2{Q:aF->aH->Prop}
  (h:∀ h',IsEnum h' (s.heap.objs.size+1) s.heap.objs.size 0 .none->eX h' s.heap.objs.size b t 0->h'.objs.size=s.heap.objs.size+2->
   (∀ b o,s.heap.get? b=some o->h'.get? b=some o)->Q (.ref (s.heap.objs.size+1)) {s with heap:=h'}):
  wpAny (model prog w) A (call (.type "enumerate") [.bytes b t]) Q E s:=by
 refine callType_new F.called_enumerate (by decide) (F.typeCall_enumerate_1 _) (F.newCall_enumerate_1 _) (λ obj=>lO obj _) F.entry_enumerate_new
  (c7 b t) ?_
 have hz:(s.heap.push {cls:= .type "bytes_iterator",data:= .fields #[.bytes b t,.int 0 0]}).objs.size=s.heap.objs.size+1:=gZ ..
 show _/\_
 rw[hz]
 have he:IsEnum ((s.heap.push {cls:= .type "bytes_iterator",data:= .fields #[.bytes b t,.int 0 0]}).push
   {cls:= .type "enumerate",data:= .fields #[.none,.bool false,.ref s.heap.objs.size,rawInt 0,.none,.none]}) (s.heap.objs.size+1) s.heap.objs.size 0 .none:=by
  have:=bC (s.heap.push {cls:= .type "bytes_iterator",data:= .fields #[.bytes b t,.int 0 0]})
   (o:={cls:= .type "enumerate",data:= .fields #[.none,.bool false,.ref s.heap.objs.size,rawInt 0,.none,.none]}) rfl
  rw[hz]at this; exact this
 refine⟨⟨_,he,rfl⟩,h _ he ⟨_,aN _ (bC _ rfl),rfl,rfl⟩ (by rw[gZ,hz]) λ b o y=>aN _ (aN _ y)⟩
theorem PT{K:Frag}{g h:bF}{L a:aJ}{m:Ev}{d:Option aJ}{items:Array aF}{n:Nat}{sl:Array (Option aF)}(F:Fr g L h m)(X:K.In g)(e:K.lookup a=some ⟨.type "tuple",d,.seq items n,sl⟩):IsTup h a items:=
 ⟨_,F.keep _ _ (X _ _ e),rfl,n,rfl⟩
theorem Ma{K:Frag}{w:bP}{A:bS}{E:aF->aH->Prop}{s:aH}{g:bF}{L t:aJ}{m:Ev}{d:Option aJ}{items:List aF}{n:Nat}{sl:Array (Option aF)}{ns:List Int}{x:Int}{u:Tok}{Q:aF->aH->Prop}
  (F:Fr g L s.heap m) (X:K.In g) (e:K.lookup t=some ⟨.type "tuple",d,.seq items.toArray n,sl⟩) (hi:cE items ns) (h:Q (.bool (ns.any (· == x))) s):
  wpAny (model PG w) A (compareOp .In (.int x u) (.ref t)) Q E s:=in_tuple_ints (PT F X e) (by simpa using hi) h
theorem EE{K:Frag}{w:bP}{A:bS}{E:aF->aH->Prop}{s:aH}{g:bF}{L t:aJ}{m:Ev}{d:Option aJ}{items:List aF}{n:Nat}{sl:Array (Option aF)}{ns:List Int}{x:Int}{u:Tok}{Q:aF->aH->Prop}
  (F:Fr g L s.heap m) (X:K.In g) (e:K.lookup t=some ⟨.type "tuple",d,.seq items.toArray n,sl⟩) (hi:cE items ns) (h:Q (.bool (!(ns.any (· == x)))) s):
  wpAny (model PG w) A (compareOp .NotIn (.int x u) (.ref t)) Q E s:=notin_tuple_ints (PT F X e) (by simpa using hi) h
end
end
section
section
variable{prog:bY}{w:bP}{A:bS}{E:aF->aH->Prop}{s:aH}{env:Env}{g:bF}{body:List dY}{Q:kA->aH->Prop}
theorem Z7{g h:bF}{L:aJ}{m:Ev}(F:Fr g L h m){a:aJ}(ha:h.objs.size<=a):g.get? a=none:=by
 cases e:g.get? a with
 | none=>rfl
 | some o=>exact absurd (bM (F.keep a o e)) (Nat.not_lt.mpr ha)
theorem AT{g h:bF}{L a:aJ}{l led:L5}(N:fQ g L h led)(hs:∀ p∈l,p∈led)(ha:h.objs.size<=a):PD a l:=
 PD.of λ p hp=>bQ (dK (bM (N p (hs p hp)).1) ha)
end
end
section
section
variable{prog:bY}{w:bP}{A:bS}{E:aF->aH->Prop}{s:aH}{env:Env}{g:bF}{L:aJ}{body:List dY}{Q:kA->aH->Prop}
structure Po(prog:bY)(w:bP)(A:bS)(g:bF)(L:aJ)(n:Nat)(Pv:Nat->aF->Prop)(I:aJ)(fpN:List aJ)(kp:L5)(St:Nat->bF->Prop)(h:bF):Prop where
 ex:∃ fp wr,Walks prog w A I fp wr n Pv St/\(∀ b∈wr,b∈fpN)/\(∀ b∈fp,g.get? b=none->b∈fpN∨b∈kp.map (·.1))/\(∀ b∈fpN,b∈fp/\g.get? b=none)/\L∉fp/\(∀ b∈wr,g.get? b=none)
 live:∀ i h,St i h->∀ b∈fpN,∃ o,h.get? b=some o
 st:St 0 h
theorem Gp{r:aJ}{a b c:Int}{t u v:Tok}{m:Ev}{led:L5}{n:Nat}{K:aF->aH->Prop}(hh:A.handled=none)(F:Fr g L s.heap m)(N:fQ g L s.heap led)(hr:IsRange s.heap r a b c t u v)(hs:eQ a b c=true)(hn:aW a b c=(n:Int))
  (k:∀ I h',Fr g L h' m->fQ g L h' led->s.heap.objs.size<=I->Po prog w A g L n (λ i v=>∃ t,v= .int (a+i*c) t) I [I] [] (λ i h=>IsRangeIter h I (a+(i:Nat)*c) ((n:Int) - (i:Nat)) c) h'->(∀ l:L5,(∀ p∈l,p∈led)->l7 [I] l)->K (.ref I) {s with heap:=h'}):
  wpAny (model prog w) A (pyIter (.ref r)) K E s:=by
 refine wpAny_pyIter_range hr hs ?_
 have gi:g.get? s.heap.objs.size=none:=Z7 F (aR _)
 have hlt:L≠s.heap.objs.size:=bQ F.ns.lt
 refine k _ _ (F.push _) (λ p hp=>⟨aN _ (N p hp).1,(N p hp).2⟩) (aR _) ⟨⟨_,_,Walks.range hh _ a c n,λ b hb=>hb,λ b hb V=> .inl hb,λ b hb=>⟨hb,by rw[aL.mp hb]; exact gi⟩,by rw[aL]; exact hlt,λ b hb=>by rw[aL.mp hb]; exact gi⟩,
  λ i h st b hb=>by rw[aL.mp hb]; exact⟨_,st⟩,?_⟩ (λ l hl=>⟨AT N hl (aR _),trivial⟩)
 ·have e1:a+((0:Nat):Int)*c=a:=by simp
  have e2:(n:Int) - ((0:Nat):Int)=aW a b c:=by rw[hn]; simp
  show IsRangeIter _ _ (a+((0:Nat):Int)*c) ((n:Int) - ((0:Nat):Int)) c
  rw[e1,e2]
  exact bC s.heap rfl
theorem Gq{b:Array UInt8}{t:Tok}{m:Ev}{led:L5}{K:aF->aH->Prop}(hh:A.handled=none)(F:Fr g L s.heap m)(N:fQ g L s.heap led)
  (k:∀ I h',Fr g L h' m->fQ g L h' led->s.heap.objs.size<=I->Po prog w A g L (cN b).length (λ i v=>∃ n t,(cN b)[i]? =some n/\0<=n/\n < 256/\v= .int n t) I [I] [] (λ i h=>eX h I b t i) h'->(∀ l:L5,(∀ p∈l,p∈led)->l7 [I] l)->K (.ref I) {s with heap:=h'}):
  wpAny (model prog w) A (pyIter (.bytes b t)) K E s:=by
 refine iM ?_
 have gi:g.get? s.heap.objs.size=none:=Z7 F (aR _)
 have hlt:L≠s.heap.objs.size:=bQ F.ns.lt
 have W:=KBw.walks (prog:=prog) (w:=w) hh s.heap.objs.size b t
 have W':Walks prog w A s.heap.objs.size [s.heap.objs.size] [s.heap.objs.size] (cN b).length (λ i v=>∃ n t,(cN b)[i]? =some n/\0<=n/\n < 256/\v= .int n t) (λ i h=>eX h s.heap.objs.size b t i):=by
  rw[fS]
  refine⟨W.sub,W.frame,λ i s Q E hi st hQ=>W.item i s Q E hi st λ v h' tk hP=>hQ v h' tk ?_,W.done,W.self⟩
  obtain⟨c,u,hc,rfl⟩:=hP
  have h1:=KBw.ints_get hc
  have h2:=KBw.ints_in (bT h1)
  exact⟨_,u,h1,h2.1,h2.2,rfl⟩
 refine k _ _ (F.push _) (λ p hp=>⟨aN _ (N p hp).1,(N p hp).2⟩) (aR _) ⟨⟨_,_,W',λ b hb=>hb,λ b hb V=> .inl hb,λ b hb=>⟨hb,by rw[aL.mp hb]; exact gi⟩,by rw[aL]; exact hlt,λ b hb=>by rw[aL.mp hb]; exact gi⟩,
  λ i h st b hb=>by rw[aL.mp hb]; obtain⟨o,ho,_⟩:=st; exact⟨o,ho⟩,⟨_,bC _ rfl,rfl,rfl⟩⟩ (λ l hl=>⟨AT N hl (aR _),trivial⟩)
theorem Dd{l:aJ}{items:Array aF}{nD:Nat}{m:Ev}{led:L5}{K:aF->aH->Prop}(hh:A.handled=none)(F:Fr g L s.heap m)(N:fQ g L s.heap led)(hm:(l,listOf items nD)∈led)
  (k:∀ I h',Fr g L h' m->fQ g L h' led->s.heap.objs.size<=I->Po prog w A g L items.size (λ i v=>items[i]? =some v) I [I] [(l,listOf items nD)] (λ i h=>h.IsListIter I l i/\h.IsList l items) h'->(∀ l:L5,(∀ p∈l,p∈led)->l7 [I] l)->K (.ref I) {s with heap:=h'}):
  wpAny (model prog w) A (pyIter (.ref l)) K E s:=by
 have hl:=J6 N hm
 refine wpAny_pyIter_list hl ?_
 have gi:g.get? s.heap.objs.size=none:=Z7 F (aR _)
 have hlt:L≠s.heap.objs.size:=bQ F.ns.lt
 have hls:l≠s.heap.objs.size:=bQ (bM (N _ hm).1)
 have W:=Walks.list (prog:=prog) (w:=w) hh s.heap.objs.size l hls items
 refine k _ _ (F.push _) (λ p hp=>⟨aN _ (N p hp).1,(N p hp).2⟩) (aR _) ⟨⟨_,_,W,λ b hb=>hb,λ b hb V=>?_,λ b hb=>⟨List.mem_cons.mpr (.inl (aL.mp hb)),by rw[aL.mp hb]; exact gi⟩,?_,λ b hb=>by rw[aL.mp hb]; exact gi⟩,
  λ i h st b hb=>by rw[aL.mp hb]; obtain⟨⟨o,ho,_⟩,_⟩:=st; exact⟨o,ho⟩,⟨⟨_,bC _ rfl,rfl,rfl⟩,hl.at λ o e=>aN _ e⟩⟩ (λ l hl=>⟨AT N hl (aR _),trivial⟩)
 ·rcases bE.mp hb with e | hb
  ·exact .inl (aL.mpr e)
  ·exact .inr (by rw[aL.mp hb]; exact aL.mpr rfl)
 ·intro hb
  rcases bE.mp hb with e | hb
  ·exact hlt e
  ·exact(N _ hm).2.1 (aL.mp hb).symm
theorem P2{a b c:Int}(hc:0 < c)(h1: -1000000000000 < a/\a < 1000000000000)(h2: -1000000000000 < b/\b < 1000000000000)(h3:c < 1000000000000):
  eQ a b c=true/\aW a b c=((aW a b c).toNat:Int):=by
 have e:aW a b c=if a < b then(b - a - 1) / c+1 else 0:=by unfold aW; rw[if_pos hc]
 have hs0:0<=aW a b c:=by
  rw[e]; split
  ·have:0<=(b - a - 1) / c:=kQ (by lia) (by lia)
   lia
  ·lia
 have hs1:aW a b c < 2 ^ 62:=by
  rw[e]; split
  ·have:(b - a - 1) / c<=b - a - 1:=Int.ediv_le_self _ (by lia)
   lia
  ·lia
 refine⟨?_,(iU hs0).symm⟩
 have fit:∀ x:Int,-(2 ^ 62) < x->x < 2 ^ 62->Builtin.Range.rangeFitsLong x=true:=by
  intro x h1 h2
  unfold Builtin.Range.rangeFitsLong
  simp only[fK,decide_eq_true_eq]
  lia
 unfold eQ
 rw[fit a (by lia) (by lia),fit b (by lia) (by lia),fit c (by lia) (by lia),fit _ (by lia) hs1,if_pos hc,fit (b+(c - 1)) (by lia) (by lia)]
 simp
theorem K9{a b c:Int}{n:Nat}(hc:0 < c)(h0:a+(n - 1)*c < b)(h1:b<=a+n*c)(hn:0 < n):aW a b c=n:=by
 unfold aW
 have h2:0<=((n:Int) - 1)*c:=lG (by lia) (by lia)
 rw[if_pos hc,if_pos (by lia)]
 have h3:((n:Int) - 1)*c=n*c - c:=by rw[Int.sub_mul,jX]
 have:(b - a - 1) / c=n - 1:=by
  rw[show b - a - 1=(b - a - 1 - (n - 1)*c)+(n - 1)*c by lia,iD _ _ (by lia),eM (by lia) (by lia)]
  lia
 lia
section
variable{σ:Type}{elt iter:aE}{x:Str}{px:Pos}{scope:cB}{cl:List (Str×aJ)}{pos:Pos}{I:aJ}{n:Nat}{Pv:Nat->aF->Prop}{St:Nat->bF->Prop}{m:Ev}{led:L5}{fpN:List aJ}{kp:L5}
end
section
variable{M:jP}{A:bS}{E:aF->aH->Prop}{s:aH}{env:Env}{g:bF}{L:aJ}{m mg mb:Ev}{K:Frag}{p:bY}{loose:List Str}{mean:ExcName->Option aF}{x:Str}{pos:Pos}{v:aF}{Q:aF->aH->Prop}{led:L5}{c:aJ}{o:Obj}
theorem YF(hx:env.kindOf x=some .globalImplicit)(e:nsIn K mainGlobals x=some (some v))(F:Fr g L s.heap m)(X:K.In g)(T:Top p loose mean mg mb g)(h:Q v s)(hk:env.scope.kind= .function)(hg:env.globals=mainGlobals)(hd:(x== ("__debug__":Str))=false):
  wpAny M A (eval (.Name x pos) env) Q E s:=Name_function_global hk hx (loadGlobal_global (by rw[hg]; exact T.g.keeps F.keep) (mg_of X T.g e) h) hd
theorem YZ(hx:env.kindOf x=some .globalImplicit)(e:nsIn K mainGlobals x=some none)(F:Fr g L s.heap m)(X:K.In g)(T:Top p loose mean mg mb g)(hv:bootBuiltins x=some v)(h:Q v s)(hn:x≠"__name__")(hk:env.scope.kind= .function)(hg:env.globals=mainGlobals)(hb:env.builtins=builtinsNs)(hd:(x== ("__debug__":Str))=false):
  wpAny M A (eval (.Name x pos) env) Q E s:=
 Name_function_global hk hx (loadGlobal_builtin (by rw[hg]; exact T.g.keeps F.keep) (mg_none_of X T.g e) (by rw[hb]; exact T.b.keeps F.keep) ((T.builtins x hn).trans hv) h) hd
end
end
theorem BG{ns:List Int}(hr:∀ n∈ns,0<=n/\n < 256):cN (byteArr ns)=ns:=by
 unfold cN byteArr
 induction ns with
 | nil=>rfl
 | cons a r ih=>
  have h1:=hr a jG
  have h2:=ih λ n hn=>hr n (eA _ hn)
  simp only[cP,List.cons.injEq]
  exact⟨byte_back h1.1 h1.2,by simpa using h2⟩
theorem OM{prog:bY}{w:bP}{A:bS}{E:aF->aH->Prop}{s:aH}{g:bF}{L l:aJ}{m:Ev}{led:L5}{vs:List aF}{ns:List Int}{nD:Nat}{Q:aF->aH->Prop}(hh:A.handled=none)(F:Fr g L s.heap m)(N:fQ g L s.heap led)(hm:(l,listOf vs.toArray nD)∈led)(hi:cE vs ns)(hr:∀ n∈ns,0<=n/\n < 256)(hz:ns.length<=100000)
  (h:∀ h' t k b,Fr g L h' m->fQ g L h' led->cN b=ns->Q (.bytes b t) {s with heap:=h',toks:=k}):wpAny (model prog w) A (call (.type "bytes") [.ref l]) Q E s:=
 call_bytes_ints (J6 N hm) hi hr (by rw[hi.length,dT]; lia) hh λ h' t' k hk=>h h' t' k _ (F.keeps hk) (N.grown hk) (BG hr)
end
section
section
variable{prog:bY}{w:bP}{A:bS}{E:aF->aH->Prop}{s:aH}{b:Array UInt8}{t:Tok}
theorem BB{R:eI->aH->Prop}(hh:A.handled=none)(S:aJ)(res:aF)(c₀:Nat)(hS:s.heap.get? S=some {cls:= .type "list",data:= .seq #[] c₀})
  (hR:∀ h' tk acc' c',(∀ b o,b≠S->s.heap.get? b=some o->h'.get? b=some o)->h'.get? S=some {cls:= .type "list",dict:=none,data:= .seq acc' c',slots:=#[]}->
   ItemsOf (λ i v=>∃ c u,b[i]? =some c/\v= .int (c.toNat:Int) u) acc' b.size->R (.ok (.ret res)) {s with heap:=h',toks:=tk}) (hn:b.size<=sizeLine):
  wpAny (model prog w) A.in1 (iH (.ref S) (.bytes b t) res)
   (λ fin s'=>match fin with | .done f=>R (.ok f) s' | .again c'=>c'.quiet=true/\codeAny (model prog w) A c' R s') (λ e s'=>R (.error e) s') s:=by
 have hSI:S≠s.heap.objs.size:=bQ (bM hS)
 have hSf:S∉[s.heap.objs.size]:=λ hm=>hSI (aL.mp hm)
 refine aD (gM (T:="bytes") (v:= .bytes b t) rfl ?_)
 have h1:Builtin.List.listSameRef (.ref S) (.bytes b t)=false:=rfl
 have h2:(iX "bytes" == iX "list")=false:=by decide
 have h3:(iX "bytes" == iX "tuple")=false:=by decide
 refine aD (iM ?_)
 have hst:eX (s.heap.push {cls:= .type "bytes_iterator",data:= .fields #[.bytes b t,.int 0 0]}) s.heap.objs.size b t 0:=⟨_,bC _ rfl,rfl,rfl⟩
 refine aD (eP ?_)
 refine aD (bZ (T:="bytes") (v:= .bytes b t) rfl FB.slot_bytes_len.lookup ?_)
 wp_delta
 refine aD (eB (T:="bytes") (v:= .bytes b t) (b:=true) rfl (by rw[eU]; kernel_rfl) ?_)
 show wpAny _ _ (typeOf (kS b t) >>=_) _ _ _
 refine aD (gM (T:="bytes") (v:= .bytes b t) rfl ?_)
 refine aO ?_
 rw[if_neg (by decide)]
 refine aO ⟨fX F.plain_extend_loop _,codeAny_extend_loopS (KBw.walks (A:=A.in1) hh s.heap.objs.size b t).toS hn _ hSf _ b.size 0 _ _ _ rfl (bG _) hst (aN _ hS) (ItemsOf.nil _) λ s' acc' c' hm hS' hacc=>?_⟩
 rw[Moved.eq_with hm]
 refine hR s'.heap s'.toks acc' c' (λ b ob hb e=>hm.heap b ob (λ hmem=>?_) (aN _ e)) hS' hacc
 rcases bE.mp hmem with e' | hmem
 ·exact hb e'
 ·exact absurd (bM e) (by rw[aL.mp hmem]; exact gO _)
theorem Aa{Q:aF->aH->Prop}(hh:A.handled=none)
  (hQ:∀ h' tk acc' c',(∀ b o,s.heap.get? b=some o->h'.get? b=some o)->
   h'.get? s.heap.objs.size=some {cls:= .type "list",dict:=none,data:= .seq acc' c',slots:=#[]}->ItemsOf (λ i v=>∃ c u,b[i]? =some c/\v= .int (c.toNat:Int) u) acc' b.size->Q (.ref s.heap.objs.size) {s with heap:=h',toks:=tk}) (hn:b.size<=sizeLine):
  wpAny (model prog w) A (call (.type "list") [.bytes b t]) Q E s:=by
 refine lV (Q₁:=λ obj s₁=>obj= .ref s.heap.objs.size/\s₁={s with heap:=s.heap.push {cls:= .type "list",data:= .seq #[]}}) F.called_list (F.typeCall_list_1 _) F.entry_list_init
  (code_list_new _ ⟨rfl,rfl⟩) λ obj s₁ h₁=>?_
 obtain⟨rfl,rfl⟩:=h₁
 have hS:(s.heap.push {cls:= .type "list",data:= .seq #[]}).get? s.heap.objs.size=some {cls:= .type "list",data:= .seq #[]}:=bC _ rfl
 refine⟨⟨_,hS,rfl⟩,F.args_list_init_2 _ _,?_⟩
 show wpAny _ _ (do let old←jF (.ref s.heap.objs.size); Builtin.List.listUpdate (.ref s.heap.objs.size) (λ V=>#[]); letGo old.toList.reverse; iH (.ref s.heap.objs.size) (.bytes b t) .none) _ _ _
 generalize hse:s.heap.objs.size=S at*
 refine aD ?_
 refine aD (wpAny_seqItems hS rfl (aO ?_))
 show wpAny _ _ (updateSeq S (λ V=>#[]) >>=λ V=>letGo (#[]:Array aF).toList.reverse >>=λ V=>iH (.ref S) (.bytes b t) .none) _ _ _
 refine aD (wpAny_updateSeq hS rfl ?_)
 have hS2:=bU (Obj.mapSeq (λ V=>(#[]:Array aF))) hS rfl
 refine aD (wpAny_letGo ?_)
 refine BB (A:=A.in1) (hn:=hn) hh S .none _ hS2 λ h' tk acc' c' hk hS' hacc=>?_
 refine⟨rfl,hQ h' tk acc' c' (λ b o e=>?_) hS' hacc⟩
 have hb:b≠S:=hse▸bQ (bM e)
 exact hk b o hb ((kH _ _ (kP hb)).trans (aN _ e))
theorem Oy:∀ {vs:List aF} {ns:List Int},vs.length=ns.length->(∀ (i:Nat) v,vs[i]? =some v->∃ m u,ns[i]? =some m/\v= .int m u)->cE vs ns:=by
 intro vs
 induction vs with
 | nil=>intro ns hl _; induction ns with
  | nil=>exact .nil
  | cons a r=>simp at hl
 | cons v r ih=>
  intro ns hl h
  induction ns with
  | nil=>simp at hl
  | cons a q=>
   refine M7 λ G87 hG87=>?_; obtain⟨m,u,h1,h2⟩:=h 0 v rfl; refine hG87 ?_
   have h1:some a=some m:=h1
   obtain rfl:=aU h1
   rw[h2]
   exact .cons _ _ (ih (by simpa using hl) λ i v hv=>h (i+1) v hv)
theorem DB{acc:Array aF}{b:Array UInt8}(h:ItemsOf (λ i v=>∃ c u,b[i]? =some c/\v= .int (c.toNat:Int) u) acc b.size):cE acc.toList (cN b):=by
 refine Oy ?_ λ i v hv=>?_
 ·rw[fS,Array.length_toList,h.1]
 ·obtain⟨c,u,hc,rfl⟩:=h.2 i v (by simpa using hv)
  exact⟨_,u,KBw.ints_get hc,rfl⟩
end
section
variable{prog:bY}{w:bP}{A:bS}{E:aF->aH->Prop}{s:aH}{g:bF}{L:aJ}{b:Array UInt8}{t:Tok}{m:Ev}{led:L5}{Q:aF->aH->Prop}
theorem Vv(hh:A.handled=none)(F:Fr g L s.heap m)(N:fQ g L s.heap led)(hn:(cN b).length<=100000)
  (h:∀ D n vs h' t,Fr g L h' m->fQ g L h' ((D,listOf vs.toArray n)::led)->(∀ p∈led,p.1 < D)->cE vs (cN b)->Q (.ref D) {s with heap:=h',toks:=t}):
  wpAny (model prog w) A (call (.type "list") [.bytes b t]) Q E s:=by
 refine Aa hh (λ h' tk acc' c' hk hD hi=>?_) (by rw[fS]at hn; rw[dT]; lia)
 refine h _ c' acc'.toList h' tk (F.keeps hk) (λ p hp=>?_) (λ p hp=>bM (N p hp).1) (DB hi)
 rcases bE.mp hp with e | hp
 ·subst e; exact⟨hD,gF F.ns.lt,Z7 F (aR _)⟩
 ·have:=N p hp; exact⟨hk _ _ this.1,this.2⟩
variable{l l2:aJ}{vs ws:List aF}{ns ms:List Int}{n k:Nat}
theorem XO(F:Fr g L s.heap m)(N:fQ g L s.heap led)(ha:(l,listOf vs.toArray n)∈led)(hb:(l2,listOf ws.toArray k)∈led)(hi:cE vs ns)(hj:cE ws ms)(hz:ns.length+ms.length<=100000)
  (h:∀ D us h',Fr g L h' m->fQ g L h' ((D,listOf (eG us) 0)::led)->(∀ p∈led,p.1 < D)->cE us (ns++ms)->Q (.ref D) {s with heap:=h'}):wpAny (model prog w) A (binaryOp .Add (.ref l) (.ref l2)) Q E s:=
 kmk_add_ints F N (J6 N ha) (J6 N hb) hi hj h (by rw[dT]; lia)
theorem WU{x:Int}{u:Tok}(F:Fr g L s.heap m)(N:fQ g L s.heap led)(ha:(l,listOf vs.toArray n)∈led)(hi:cE vs ns)(h0:0<=x)(h1:x<=10000)(hz:ns.length<=10)
  (h:∀ D us h',Fr g L h' m->fQ g L h' ((D,listOf (eG us) 0)::led)->(∀ p∈led,p.1 < D)->cE us (bO x.toNat ns).flatten->Q (.ref D) {s with heap:=h'}):wpAny (model prog w) A (binaryOp .Mult (.ref l) (.int x u)) Q E s:=by
 have h2:=hi.length
 refine KM.mul F N (J6 N ha) hi (by lia) (by lia) ?_ λ D h' F N hl hi V V V V V=>h D _ h' F N hl hi
 have:vs.length*x.toNat<=10*10000:=Nat.mul_le_mul (by lia) (by lia)
 lia
theorem VP(F:Fr g L s.heap m)(N:fQ g L s.heap led)(ha:(l,listOf vs.toArray n)∈led)(hi:cE vs ns)(hz:ns.length<=100000)
  (h:∀ D c h',Fr g L h' m->fQ g L h' ((D,listOf vs.toArray c)::led)->(∀ p∈led,p.1 < D)->Q (.ref D) {s with heap:=h'}):wpAny (model prog w) A (call (.type "list") [.ref l]) Q E s:=by
 have h2:=hi.length
 exact kup_listOf F N ha rfl h (by rw[dT]; simpa using (by lia:vs.length<=16777216))
end
section
variable{prog:bY}{w:bP}{A:bS}{E:aF->aH->Prop}{s:aH}{g:bF}{L:aJ}{b:Array UInt8}{t:Tok}{m:Ev}{led:L5}{Q:aF->aH->Prop}{ks:List Int}{value slice:aE}
noncomputable def T2(ks:List Int)(lo hi:Option Int):List Int:=(ks.drop (lo.elim 0 (clipAt ks.length))).take (hi.elim ks.length (clipAt ks.length) - lo.elim 0 (clipAt ks.length))
theorem As{n:Nat}{x:Int}(h:0<=x):clipAt n x=min x.toNat n:=by
 obtain⟨k,rfl⟩:=cG h
 exact clipAt_nat n k
theorem JD(ks:List Int)(a c:Nat):(ks.drop (min a ks.length)).take (min c ks.length - min a ks.length)=(ks.drop a).take (c - a):=by
 refine(Nat.le_total a ks.length).elim (λ h=>?_) (λ h=>?_)
 ·rw[dH h]
  refine(Nat.le_total c ks.length).elim (λ g=>?_) (λ g=>?_)
  ·rw[dH g]
  ·rw[kF g,bN (dZ eN),bN (eN▸Nat.sub_le_sub_right g a)]
 ·rw[kF h,eH (aR _),eH h,List.take_nil,List.take_nil]
theorem V7{ks:List Int}{x y:Int}(h0:0<=x)(h1:0<=y):T2 ks (some x) (some y)=(ks.drop x.toNat).take (y.toNat - x.toNat):=by
 show(ks.drop (clipAt ks.length x)).take (clipAt ks.length y - clipAt ks.length x)=_
 rw[As h0,As h1,JD]
theorem Mo{ks:List Int}{x:Int}(h0:0<=x):T2 ks (some x) none=ks.drop x.toNat:=by
 show(ks.drop (clipAt ks.length x)).take (ks.length - clipAt ks.length x)=_
 rw[As h0]
 by_cases h:x.toNat<=ks.length
 ·rw[dH h,bN (by rw[eN]; exact aR _)]
 ·rw[kF (by lia),eH (aR _),eH (by lia),List.take_nil]
theorem Ga{ks:List Int}{y:Int}(h1:0<=y):T2 ks none (some y)=ks.take y.toNat:=by
 show(ks.drop 0).take (clipAt ks.length y - 0)=_
 rw[As h1,jH,Nat.sub_zero]
 by_cases h:y.toNat<=ks.length
 ·rw[dH h]
 ·rw[kF (by lia),bN (aR _),bN (by lia)]
theorem VH{i n:Int}{ui:Tok}(hk:cN b=ks)(h0:0<=i)(h1:i < (ks.length:Int))(hfit:ks.length<=100000)(e:ks.getD i.toNat 0=n)
  (h:∀ t' k,0<=n->n < 256->Q (.int n t') {s with toks:=k})
  (hs:subscripted slice false (.bytes b t) (.int i ui)=operate [.bytes b t,.int i ui] (getItem (.bytes b t) (.int i ui)))
  (ht:∀ r,letTemporaryGo value (.bytes b t) r=pure ()):wpAny (model prog w) A (subscriptTail value slice (.bytes b t) (.int i ui)) Q E s:=
 KBw.item_K hk (by lia) h0 h1 (λ t' k hl hh=>by rw[e]at hl hh ⊢; exact h t' k hl hh) hs ht
theorem Nz{lo hi:Option Int}{u l:aF}{ms:List Int}(F:Fr g L s.heap m)(N:fQ g L s.heap led)(hk:cN b=ks)(hl:IsPart l lo)(hu:IsPart u hi)(hz:ks.length<=100000)(e:T2 ks lo hi=ms)
  (h:∀ c h' t' k,Fr g L h' m->fQ g L h' led->cN c=ms->Q (.bytes c t') {s with heap:=h',toks:=k})
  (hs:subscripted slice false (.bytes b t) (.ref s.heap.objs.size)=operate [.ref s.heap.objs.size,.bytes b t] (getItem (.bytes b t) (.ref s.heap.objs.size)))
  (ht:∀ r,letTemporaryGo value (.bytes b t) r=pure ()):
  wpAny (model prog w) A (subscriptTail value slice (.bytes b t) (.ref s.heap.objs.size)) Q E {s with heap:=s.heap.push {cls:= .type "slice",data:= .fields #[l,u,.none]}}:=
 KBc.slice_K F N hk hl hu (by lia) (λ h' t' k F N hb=>h _ h' t' k F N (hb.trans e)) hs ht
theorem Xf{l:aJ}{vs:List aF}{ns:List Int}{n:Nat}(N:fQ g L s.heap led)(ha:(l,listOf vs.toArray n)∈led)(hi:cE vs ns)(hz:ns.length<=100000)
  (h:∀ t k,Q (.int (ns.length:Nat) t) {s with toks:=k}):wpAny (model prog w) A (call (.builtin "len") [.ref l]) Q E s:=
 KM.len_K N ha (by rw[aX]; exact hi.length) (by lia) (h _ _)
theorem DM{vs:List aF}{ns:List Int}(h:cE vs ns)(lo hi:Option Int):cE (slicePick vs.toArray lo hi none).toList (T2 ns lo hi):=by
 rw[kmk_pick_nat _ (sliceBounds_plain lo hi vs.toArray.size)]
 show cE ((vs.drop _).take _) _
 rw[aX,h.length]
 exact(h.drop _).take _
theorem Ny{l:aJ}{vs:List aF}{ns ms:List Int}{n:Nat}{lo hi:Option Int}{vl vu:aF}(F:Fr g L s.heap m)(N:fQ g L s.heap led)(ha:(l,listOf vs.toArray n)∈led)(pl:IsPart vl lo)(pu:IsPart vu hi)(hi':cE vs ns)(hz:ns.length<=100000)(e:T2 ns lo hi=ms)
  (h:∀ D us h',Fr g L h' m->fQ g L h' ((D,listOf (eG us) 0)::led)->(∀ p∈led,p.1 < D)->cE us ms->Q (.ref D) {s with heap:=h'})
  (hs:subscripted slice false (.ref l) (.ref s.heap.objs.size)=operate [.ref s.heap.objs.size,.ref l] (getItem (.ref l) (.ref s.heap.objs.size))) (ht:∀ r,letTemporaryGo value (.ref l) r=pure ()):
  wpAny (model prog w) A (subscriptTail value slice (.ref l) (.ref s.heap.objs.size)) Q E {s with heap:=s.heap.push {cls:= .type "slice",data:= .fields #[vl,vu,.none]}}:=
 kmk_slice F N (J6 N ha) pl pu (λ D h' F N l1=>h D _ h' F (by rw[Array.toArray_toList]; exact N) l1 (e▸DM hi' lo hi)) hs ht (by rw[aX,hi'.length,dT]; lia)
theorem WP{l:aJ}{vs:List aF}{ns:List Int}{n:Nat}{vk:aF}{ops:List aF}(F:Fr g L s.heap m)(N:fQ g L s.heap led)(ha:(l,listOf vs.toArray n)∈led)(pk:IsPart vk (some (-1)))(hi':cE vs ns)(hz:ns.length<=100000)
  (h:∀ D us h',Fr g L h' m->fQ g L h' ((D,listOf (eG us) 0)::led)->(∀ p∈led,p.1 < D)->cE us ns.reverse->Q (.ref D) {s with heap:=h'})
  (hs:subscripted slice false (.ref l) (.ref s.heap.objs.size)=operate ops (getItem (.ref l) (.ref s.heap.objs.size))) (ht:∀ r,letTemporaryGo value (.ref l) r=pure ()):
  wpAny (model prog w) A (subscriptTail value slice (.ref l) (.ref s.heap.objs.size)) Q E {s with heap:=s.heap.push {cls:= .type "slice",data:= .fields #[.none,.none,vk]}}:=
 krv_ints F N (J6 N ha) pk hi' (λ D us h' F N l1 i V=>h D us h' F N l1 i) hs ht (by rw[aX,hi'.length,dT]; lia)
theorem VG{l:aJ}{vs:List aF}{ns:List Int}{n:Nat}{i x:Int}{ui:Tok}(N:fQ g L s.heap led)(ha:(l,listOf vs.toArray n)∈led)(hi':cE vs ns)(h0:0<=i)(h1:i < (ns.length:Int))(hz:ns.length<=100000)(e:ns.getD i.toNat 0=x)
  (h:∀ t,Q (.int x t) s):wpAny (model prog w) A (getItem (.ref l) (.int i ui)) Q E s:=
 getItem_intsK (J6 N ha) hi' h0 h1 (by lia) λ t=>by rw[e]; exact h t
end
section
variable{prog:bY}{w:bP}{A:bS}{E:aF->aH->Prop}{s:aH}{g:bF}{L:aJ}{m:Ev}{led:L5}
theorem HV{l:aJ}{vs:List aF}{ns:List Int}{nD:Nat}{K:aF->aH->Prop}(hh:A.handled=none)(F:Fr g L s.heap m)(N:fQ g L s.heap led)(hm:(l,listOf vs.toArray nD)∈led)(hi:cE vs ns)
  (k:∀ I h',Fr g L h' m->fQ g L h' led->s.heap.objs.size<=I->Po prog w A g L ns.length (λ i v=>∃ n t,ns[i]? =some n/\v= .int n t) I [I] [(l,listOf vs.toArray nD)] (λ i h=>h.IsListIter I l i/\h.IsList l vs.toArray) h'->(∀ l:L5,(∀ p∈l,p∈led)->l7 [I] l)->K (.ref I) {s with heap:=h'}):
  wpAny (model prog w) A (pyIter (.ref l)) K E s:=by
 refine Dd hh F N hm λ I h' F' N' hI S ho=>k I h' F' N' hI ?_ ho
 refine M7 λ G88 hG88=>?_; obtain⟨⟨fp,wr,W,r⟩,a,b⟩:=S; refine hG88 ?_
 refine⟨⟨fp,wr,?_,r⟩,a,b⟩
 rw[aX,hi.length]at W
 refine⟨W.sub,W.frame,λ i s Q E hlt st hQ=>W.item i s Q E hlt st λ v h' tk hP=>hQ v h' tk ?_,W.done,W.self⟩
 obtain⟨n,t,rfl,hn⟩:=hi.at i v (by simpa using hP)
 exact⟨n,t,hn,rfl⟩
end
section
variable{prog:bY}{w:bP}{A:bS}{E:aF->aH->Prop}{s:aH}{g:bF}{L:aJ}{m:Ev}{led:L5}{Q:aF->aH->Prop}
theorem U6.u64{A:bS}{d:Nat}(R:U6 A d):A.units+64 < cLine:=by have:=R.un; show A.units+64 < 9900; lia
theorem Zu{l l2:aJ}{vs ws:List aF}{ns ms:List Int}{n k d:Nat}(R:U6 A d)(N:fQ g L s.heap led)(ha:(l,listOf vs.toArray n)∈led)(hb:(l2,listOf ws.toArray k)∈led)(hi:cE vs ns)(hj:cE ws ms)
  (h:Q (.bool (decide (ns=ms))) s):wpAny (model prog w) A (compareOp .Eq (.ref l) (.ref l2)) Q E s:=eq_intsK (J6 N ha) hi (J6 N hb) hj R.u64 h
theorem Za{l l2:aJ}{vs ws:List aF}{ns ms:List Int}{n k d:Nat}(R:U6 A d)(N:fQ g L s.heap led)(ha:(l,listOf vs.toArray n)∈led)(hb:(l2,listOf ws.toArray k)∈led)(hi:cE vs ns)(hj:cE ws ms)
  (h:Q (.bool (!decide (ns=ms))) s):wpAny (model prog w) A (compareOp .NotEq (.ref l) (.ref l2)) Q E s:=ne_intsK (J6 N ha) hi (J6 N hb) hj R.u64 h
end
section
variable{h g:bF}{L a b c d:aJ}{m:Ev}{r:L5}{oa ob oc od:Obj}
end
section
variable{h h':bF}{g:bF}{L D:aJ}{m:Ev}{led:L5}{o:Obj}
end
theorem Ci{v:Int}{c:Nat}(h:0<=v):eJ v (2 ^ c - 1)=v % 2 ^ c:=by
 obtain⟨n,rfl⟩:=cG h
 have e2:(2:Int) ^ c=((2 ^ c:Nat):Int):=(Int.natCast_pow 2 c).symm
 rw[bitAnd_pp h (Int.le_sub_one_of_lt (lF (by decide))),e2,show(((2 ^ c:Nat):Int) - 1).toNat=2 ^ c - 1 from fV (2 ^ c) 1,eD,Nat.and_two_pow_sub_one_eq_mod]
 rfl
theorem Ch{h d:Int}{c:Nat}(h0:0<=h)(h1:h < 2 ^ c)(hd:0<=d):fN h (d*2 ^ c)=h+d*2 ^ c:=by
 obtain⟨n,rfl⟩:=cG h0
 obtain⟨k,rfl⟩:=cG hd
 have hn:n < 2 ^ c:=by
  rw[show(2:Int) ^ c=((2 ^ c:Nat):Int)from(Int.natCast_pow 2 c).symm]at h1; exact kM.mp h1
 have e:(k:Int)*2 ^ c=((k*2 ^ c:Nat):Int):=by simp
 rw[e,bitOr_and,bitAnd_pp (by lia) (by lia),eD,eD]
 have:n &&& (k*2 ^ c)=0:=by
  refine Nat.eq_of_testBit_eq λ i=>?_
  rw[Nat.testBit_and,Nat.zero_testBit,Nat.testBit_mul_two_pow]
  by_cases hi:c<=i
  ·rw[Nat.testBit_lt_two_pow (dK hn (lC (by decide) hi)),Bool.false_and]
  ·rw[decide_eq_false hi,Bool.false_and,hV]
 rw[this]; simp
section
variable{prog:bY}{w:bP}{A:bS}{E:aF->aH->Prop}{s:aH}{Q:aF->aH->Prop}{a n r:Int}{t u:Tok}
theorem LU(hn:0<=n)(hn2:n<=1000)(ha:a.natAbs < 18446744073709551616)(e:a*2 ^ n.toNat=r)(h:Q (.int r s.toks) {s with toks:=s.toks+1}):wpAny (model prog w) A (binaryOp .LShift (.int a t) (.int n u)) Q E s:=
 lshift_int_small hn (by lia) (by lia) (by rw[e]; exact h)
theorem KG(hn:0<=n)(e:a.fdiv (2 ^ n.toNat)=r)(h:Q (.int r s.toks) {s with toks:=s.toks+1}):wpAny (model prog w) A (binaryOp .RShift (.int a t) (.int n u)) Q E s:=
 rshift_int hn (by rw[e]; exact h)
theorem XH(e:fN a n=r)(h:Q (.int r s.toks) {s with toks:=s.toks+1}):wpAny (model prog w) A (binaryOp .BitOr (.int a t) (.int n u)) Q E s:=
 or_int (by rw[e]; exact h)
theorem VU(e:eJ a n=r)(h:Q (.int r s.toks) {s with toks:=s.toks+1}):wpAny (model prog w) A (binaryOp .BitAnd (.int a t) (.int n u)) Q E s:=
 and_int (by rw[e]; exact h)
end
end
section
noncomputable def S4:Code->Bool
 | .builtin id _=>(["bytearray.__contains__","bytearray.__mod__","bytearray.__rmod__","_struct.pack_into.held","bytearray.find.held"]++eR).contains id
 | _=>false
noncomputable def Ef(l:List (Code×Pos)):Prop:=∀ x∈l,S4 x.1=false
noncomputable def C5(b:Prop){α:Type}(M:jP)(A:bS)(t:Sem α)(Q:α->aH->Prop)(E:aF->aH->Prop)(s:aH):Prop:=
 ∀ Γ p,Γ.In A->(b->S4 Γ.code=false/\Ef Γ.below)->wp M Γ t (λ a V s'=>Q a s') (λ e V s'=>E e s') p s
noncomputable def G2(b:Prop)(M:jP)(A:bS)(c:Code)(R:eI->aH->Prop)(s:aH):Prop:=
 ∀ Γ p,Γ.code=c->Γ.Below A->(b->Ef Γ.below)->wpCode M Γ R p s
noncomputable abbrev z5{α:Type}(M:jP)(A:bS)(t:Sem α)(Q:α->aH->Prop)(s:aH):Prop:=C5 True M A t Q (λ V V=>False) s
noncomputable abbrev z0(M:jP)(A:bS)(c:Code)(R:eI->aH->Prop)(s:aH):Prop:=G2 True M A c R s
section
variable{α β:Type}{M:jP}{A:bS}{s:aH}{b:Prop}{E:aF->aH->Prop}
theorem A4{t:Sem α}{Q:α->aH->Prop}(h:wpAny M A t Q E s):C5 b M A t Q E s:=λ Γ p hΓ V=>h Γ p hΓ
theorem Y4{t:Sem α}{Q:α->aH->Prop}(h:C5 False M A t Q E s):wpAny M A t Q E s:=λ Γ p hΓ=>h Γ p hΓ False.elim
theorem Bn{c:Code}{R:eI->aH->Prop}(h:codeAny M A c R s):G2 b M A c R s:=λ Γ p hc hΓ V=>h Γ p hc hΓ
theorem Cf{c:Code}{R:eI->aH->Prop}(h:G2 False M A c R s):codeAny M A c R s:=λ Γ p hc hΓ=>h Γ p hc hΓ False.elim
theorem A7{a:α}{Q:α->aH->Prop}(h:Q a s):C5 b M A (pure a) Q E s:=λ V V V V=>h
theorem D6{t:Sem α}{Q Q':α->aH->Prop}{E':aF->aH->Prop}(h:C5 b M A t Q E s)(hQ:∀ a s,Q a s->Q' a s)(hE:∀ e s,E e s->E' e s):C5 b M A t Q' E' s:=
 λ Γ p h1 h2=>fC M Γ t (λ a V s=>hQ a s) (λ e V s=>hE e s) p s (h Γ p h1 h2)
theorem Ax{t:Sem α}{Q Q':α->aH->Prop}(h:z5 M A t Q s)(hQ:∀ a s,Q a s->Q' a s):z5 M A t Q' s:=D6 h hQ λ V V x=>x
theorem U2{c:Code}{R R':eI->aH->Prop}(h:G2 b M A c R s)(hR:∀ r s,R r s->R' r s):G2 b M A c R' s:=
 λ Γ p hc hΓ hb=>wpCode_mono hR (h Γ p hc hΓ hb)
theorem B5{m:Sem α}{f:α->Sem β}{Q:β->aH->Prop}(h:C5 b M A m (λ a s'=>C5 b M A (f a) Q E s') E s):C5 b M A (m >>=f) Q E s:=λ Γ p h1 h2=>by
 rw[Sem.wp_bind']
 exact fC M Γ m (λ a p' s' h'=>h' Γ p' h1 h2) (λ V V V h'=>h') p s (h Γ p h1 h2)
theorem B8{m:Sem α}{f:α->Sem β}{Q:β->aH->Prop}{R:α->aH->Prop}(h:C5 b M A m R E s)(g:∀ a s',R a s'->C5 b M A (f a) Q E s'):C5 b M A (m >>=f) Q E s:=B5 (D6 h g λ V V x=>x)
theorem D7{m:Sem α}{f:α->Sem β}{Q:β->aH->Prop}(h:wpAny M A m (λ a s'=>C5 b M A (f a) Q E s') E s):C5 b M A (m >>=f) Q E s:=B5 (A4 h)
theorem D5{m:Sem α}{f:α->Sem β}{Q:β->aH->Prop}(h:wpAny M A m (λ a s'=>z5 M A (f a) Q s') (λ V V=>False) s):z5 M A (m >>=f) Q s:=D7 h
theorem A9{pos:Pos}{f:Unit->Sem β}{Q:β->aH->Prop}(h:C5 b M A (f ()) Q E s):C5 b M A (standAt pos >>=f) Q E s:=D7 (kI h)
theorem M1{m:Sem α}{k:aF->Sem Unit}{Q:α->aH->Prop}(h:C5 b M A m Q (λ e s'=>wpAny M A (k e) (λ V s''=>E e s'') E s') s):C5 b M A (m.onRaise k) Q E s:=λ Γ p h1 h2=>by
 rw[Sem.wp_onRaise]
 exact fC M Γ m (λ V V V h'=>h') (λ e p' s' h'=>h' Γ p' h1) p s (h Γ p h1 h2)
theorem y5{m:Sem α}{Q:Except aF α->aH->Prop}(h:C5 b M A m (λ a=>Q (.ok a)) (λ e=>Q (.error e)) s):C5 b M A m.attempt Q E s:=λ Γ p h1 h2=>by
 rw[Sem.wp_attempt]; exact h Γ p h1 h2
theorem B0{vs:List aF}{m:Sem α}{Q:α->aH->Prop}(h:C5 b M A m Q E s):C5 b M A (holding vs m) Q E s:=λ Γ p h1 h2=>by
 rw[Sem.wp_holding]; exact h Γ p h1 h2
theorem R0{vs:List aF}{m:Sem aF}{Q:aF->aH->Prop}(h:C5 b M A m Q E s):C5 b M A (operate vs m) Q E s:=λ Γ p h1 h2=>by
 rw[Sem.wp_operate]; exact h Γ p h1 h2
theorem HF{vs:List aF}{m:Sem α}{Q:α->aH->Prop}(h:C5 b M A m Q E s):C5 b M A (m.keep vs) Q E s:=λ Γ p h1 h2=>by
 rw[Sem.wp_keep]; exact h Γ p h1 h2
theorem z2{Γ:Ctx}{c:Code}{hd:Option aF}{p:Pos}(h:S4 Γ.code=false/\Ef Γ.below):Ef (Γ.enter c hd p).below:=λ x hx=>by
 rcases bE.mp (show x∈(Γ.code,p)::Γ.below from hx)with e | hx
 ·rw[e]; exact h.1
 ·exact h.2 x hx
theorem Fh{c:Code}{Q:kA->aH->Prop}(hc:G2 b M A c (λ r s'=>match r with | .ok f=>Q f s' | .error e=>E e s') s):C5 b M A (run c) Q E s:=λ Γ p h1 h2=>by
 rw[Sem.wp_run]
 refine wpCode_mono (λ r s' hr=>?_) (hc _ p rfl (h1.enter c none p (by intro x; contradiction)) λ hb=>z2 (h2 hb))
 rcases r<;>exact hr
theorem Cn{c:Code}{Q:aF->aH->Prop}(hc:G2 b M A c (λ r s'=>match r with | .ok (.ret v)=>Q v s' | .ok _=>False | .error e=>E e s') s):C5 b M A (runValue c) Q E s:=λ Γ p h1 h2=>by
 rw[Sem.wp_runValue]
 refine wpCode_mono (λ r s' hr=>?_) (hc _ p rfl (h1.enter c none p (by intro x; contradiction)) λ hb=>z2 (h2 hb))
 induction r with
 | error e=>exact hr
 | ok f=>rcases f<;>first | exact hr | exact hr.elim
theorem a6{f:aF}{pos:List aF}{kw:List (Str×aF)}{Q:aF->aH->Prop}
  (hc:G2 b M A (.call f ⟨pos,kw⟩) (λ r s'=>match r with | .ok (.ret v)=>Q v s' | .ok _=>False | .error e=>E e s') s):C5 b M A (call f pos kw) Q E s:=Cn hc
theorem L4{c:Code}{R:eI->aH->Prop}(hd:S4 c=false)
  (h:C5 b M (A.under c) (M.den c) (λ fin s'=>match fin with | .done f=>R (.ok f) s' | .again c'=>c'.quiet=true/\G2 b M A c' R s') (λ e s'=>R (.error e) s') s):G2 b M A c R s:=λ Γ p hc hΓ hb=>by
 rw[wpCode_iff_wp,hc]
 refine fC M Γ _ (λ fin p' s' h'=>?_) (λ V V V h'=>h') p s (h Γ p (hc▸hΓ.in) λ x=>⟨hc▸hd,hb x⟩)
 induction fin with
 | done f=>exact h'
 | again c'=>exact⟨h'.1,h'.2 (Γ.goto c') p' rfl (hΓ.goto c') hb⟩
theorem Ay{f:aF}{pos:List aF}{kw:List (Str×aF)}{Q:aF->aH->Prop}
  (hc:z0 M A (.call f ⟨pos,kw⟩) (λ r s'=>match r with | .ok (.ret v)=>Q v s' | _=>False) s):z5 M A (call f pos kw) Q s:=a6 (U2 hc λ r V x=>by
 induction r with
 | error e=>exact x
 | ok f=>rcases f<;>exact x)
theorem W8{c:Code}{R:eI->aH->Prop}(hd:S4 c=false)
  (h:z5 M (A.under c) (M.den c) (λ fin s'=>match fin with | .done f=>R (.ok f) s' | .again c'=>c'.quiet=true/\z0 M A c' R s') s):z0 M A c R s:=L4 hd (D6 h (λ V V x=>x) λ V V x=>x.elim)
theorem l3{c:Code}{R:eI->aH->Prop}(hd:S4 c=false)(hq:c.quiet=true)(I:Nat->aH->Prop)
  (turn:∀ n s,I n s->C5 b M (A.under c) (M.den c)
   (λ fin s'=>match fin with
    | .done f=>R (.ok f) s'
    | .again c'=>(c'=c/\∃ m,m < n/\I m s')∨(c'.quiet=true/\G2 b M A c' R s')) (λ e s'=>R (.error e) s') s)
  (n:Nat) (h:I n s):G2 b M A c R s:=by
 induction n using Nat.strongRecOn generalizing s with
 | ind n ih=>
  refine L4 hd (D6 (turn n s h) (λ fin s' hf=>?_) λ V V x=>x)
  induction fin with
  | done f=>exact hf
  | again c'=>
   rcases hf with ⟨rfl,m,hm,hI⟩ | hf
   ·exact⟨hq,ih m hm hI⟩
   ·exact hf
theorem Mn{id:String}{args:Args}(h:S4 (.builtin id args)=false):Builtin.Bytes.decodersThatHold.contains id=false:=by
 cases e:Builtin.Bytes.decodersThatHold.contains id with
 | false=>rfl
 | true=>
  have:S4 (.builtin id args)=true:=by
   unfold S4
   rw[List.contains_iff_mem]at e ⊢
   exact aC _ e
  rw[h]at this; contradiction
theorem Mm{id:String}{args:Args}(h:(["bytearray.__contains__","bytearray.__mod__","bytearray.__rmod__","_struct.pack_into.held","bytearray.find.held"]++eR).contains id=true):¬ S4 (.builtin id args)=false:=λ e=>by
 have:S4 (.builtin id args)=true:=h
 rw[e]at this; contradiction
set_option tactic.hygienic true in
theorem l8{self:aF}{Q:Bool->aH->Prop}(h:Q false s):z5 M A (gE self) Q s:=λ Γ p V h23=>by
 obtain⟨h2,h3⟩:=h23 trivial
 unfold gE
 show Q (((Γ.code,p)::Γ.below).any _) s
 rw[List.any_eq_false.mpr λ x hm=>?_]
 ·exact h
 have hx:S4 x.1=false:=BW hm (λ e=>e▸h2) (h3 x)
 clear hm
 obtain⟨c,q⟩:=x
 induction c
 case builtin id args=>
  have n:∀ s:String,(["bytearray.__contains__","bytearray.__mod__","bytearray.__rmod__","_struct.pack_into.held","bytearray.find.held"]++eR).contains s=true->id≠s:=λ s hs e=>Mm (id:=id) (args:=args) (by rw[e]; exact hs) hx
  rw[Bool.not_eq_true]
  delta Builtin.Bytes.exported.match_1
  refine(dif_neg (n "bytearray.__contains__" (by decide))).trans ?_
  refine(dif_neg (n "bytearray.__mod__" (by decide))).trans ?_
  refine(dif_neg (n "bytearray.__rmod__" (by decide))).trans ?_
  refine(dif_neg (n "_struct.pack_into.held" (by decide))).trans ?_
  refine(dif_neg (n "bytearray.find.held" (by decide))).trans ?_
  obtain⟨pos,kw⟩:=args
  induction pos with
  | nil=>rfl
  | cons v l _=>exact(congrArg (_ && ·) (Mn hx)).trans (hV _)
 all_goals exact eO
end
end
section
noncomputable def EM(p:bY):Env:={scope:=p.main.scope,locals:=mainNs,globals:=mainNs,cells:=[],code:= .ref 13,frame:=some 14}
noncomputable abbrev pz:Pos:=⟨0,0,0,0⟩
noncomputable abbrev pe:Pos:=⟨745,0,766,85⟩
noncomputable abbrev pm:Pos:=⟨377,0,390,59⟩
noncomputable abbrev cT(p:bY):Code:= .body (behindTheImports p) (EM p)
noncomputable abbrev Hv:Option aF:=some (.ref 6)
noncomputable abbrev gn:Array GenState:=Array.mk []
theorem WR:∀ w:bP,(λ os=>PySem.W.Fast.tw15667345088766844465 cK PR w 11 Hv 12 ⟨iF w.params,gn,boot_drawn,boot_toks,os⟩ (topStub PR))=
  λ os=>some (⟨h0 w.params,gn,{},187,os⟩,⟨PySem.W.Fast.tw11892475500146522536 cK (cT PR),cT PR,pz,[topFrame pz]⟩):=by intro w; kernel_rfl
theorem OR:∀ w:bP,(λ os=>PySem.W.Fast.tw14374325043358763698 cK PR w 11 Hv 1 1 ⟨h0 w.params,gn,{},187,os⟩ (blockOf (behindTheImports PR) (EM PR) (cT PR) pz [topFrame pz]))=
  λ os=>some (iY,(eV (t0 w.params) 15 {} gn {} 187 os).abs,cT PR,pz):=by intro w; kernel_rfl
theorem XA:∀ w:bP,(λ os=>PySem.W.Fast.tw14082659384304107361 cK PR w 11 Hv 2 (eV (t1 w.params) 837 {} gn {} 1407 os).abs ⟨doneF .next,cT PR,pe,[topFrame pz]⟩)=
  λ os=>some ⟨h1 w.params,gn,{},1407,os⟩:=by intro w; kernel_rfl
theorem WQ:∀ w:bP,(λ os=>topGo treeTable PR w 11 Hv 12 ⟨iF w.params,gn,boot_drawn,boot_toks,os⟩ (topStub PR))=
  λ os=>some (⟨h0 w.params,gn,{},187,os⟩,⟨denote treeTable (cT PR),cT PR,pz,[topFrame pz]⟩):=by
 rw[PySem.W.Fast.te15667345088766844465,cY,PySem.W.Fast.te11892475500146522536]; exact WR
theorem OQ:∀ w:bP,(λ os=>segRun treeTable PR w 11 Hv 1 1 ⟨h0 w.params,gn,{},187,os⟩ (blockOf (behindTheImports PR) (EM PR) (cT PR) pz [topFrame pz]))=
  λ os=>some (iY,(eV (t0 w.params) 15 {} gn {} 187 os).abs,cT PR,pz):=by
 rw[PySem.W.Fast.te14374325043358763698,cY]; exact OR
theorem Xy:∀ w:bP,(λ os=>topRun treeTable PR w 11 Hv 2 (eV (t1 w.params) 837 {} gn {} 1407 os).abs ⟨doneF .next,cT PR,pe,[topFrame pz]⟩)=
  λ os=>some ⟨h1 w.params,gn,{},1407,os⟩:=by
 rw[PySem.W.Fast.te14082659384304107361,cY]; exact XA
end
section
theorem Zz:∀ w:bP,(λ os=>PySem.W.Fast.tw10110043849684766642 cK PR w 11 Hv 1 2951 (eV (t0 w.params) 15 {} gn {} 187 os) (piecesOf ((behindTheImports PR).take 59) (EM PR) (cT PR) pz [topFrame pz]))=
  λ os=>some (iY,eV (tm w.params) 440 {} gn {} 817 os,cT PR,pm):=by intro w; kernel_rfl
theorem Zy:∀ w:bP,(λ os=>PySem.W.Fast.tw10110043849684766642 cK PR w 11 Hv 1 2686 (eV (tm w.params) 440 {} gn {} 817 os) (piecesOf ((behindTheImports PR).drop 59) (EM PR) (cT PR) pm [topFrame pz]))=
  λ os=>some (iY,eV (t1 w.params) 837 {} gn {} 1407 os,cT PR,pe):=by intro w; kernel_rfl
theorem ZB:∀ w:bP,(λ os=>segRunT treeTable PR w 11 Hv 1 2951 (eV (t0 w.params) 15 {} gn {} 187 os) (piecesOf ((behindTheImports PR).take 59) (EM PR) (cT PR) pz [topFrame pz]))=
  λ os=>some (iY,eV (tm w.params) 440 {} gn {} 817 os,cT PR,pm):=by
 rw[PySem.W.Fast.te10110043849684766642,cY]; exact Zz
theorem ZA:∀ w:bP,(λ os=>segRunT treeTable PR w 11 Hv 1 2686 (eV (tm w.params) 440 {} gn {} 817 os) (piecesOf ((behindTheImports PR).drop 59) (EM PR) (cT PR) pm [topFrame pz]))=
  λ os=>some (iY,eV (t1 w.params) 837 {} gn {} 1407 os,cT PR,pe):=by
 rw[PySem.W.Fast.te10110043849684766642,cY]; exact Zy
theorem WO(w:bP)(os:OsState):topRun treeTable PR w 11 Hv (12+(1+(2951+(2686+2)))) ⟨iF w.params,gn,boot_drawn,boot_toks,os⟩ (topStub PR)=some ⟨h1 w.params,gn,{},1407,os⟩:=by
 refine go_top (congrFun (WQ w) os) (piece_block (congrFun (OQ w) os) ?_)
 have:=piece_app (rest:=[]) (segRun_of (congrFun (ZA w) os)) (piece_nil (congrFun (Xy w) os))
 rw[bA]at this
 have:=piece_app (segRun_of (congrFun (ZB w) os)) this
 rw[iI]at this
 exact this
end
section
noncomputable abbrev PA:aH->Bool:=λ s=>(xlAt qv [] s && (s.heap.get? sysModules).isSome) && recOk (RowW.records PySem.Challenge.rw_nn0233_01.row.toRowW) s
noncomputable abbrev sF(w:bP)(os:OsState):aH:=⟨h1 w.params,gn,{},1407,os⟩
theorem NK:opening PR=plainProg PR.main.scope.names:=by kernel_rfl
theorem Mh(s:aH):fenceModules? PR s=some s:=by kernel_rfl
theorem PX:∀ w:bP,((iF w.params).isNs mainGlobals && gn.size== 0,(iF w.params).objs.size,(iF w.params).nsMap mainGlobals "__annotations__")=(true,11,Hv):=by
 rw[PySem.W.Fast.te8920871248978507458]; intro w; kernel_rfl
theorem Zk:∀ w:bP,(λ os=>staticsOk (importedModules PR.main.body) (iF w.params) (h1 w.params) && namesBound PR (h1 w.params) && gensDone (sF w os) && laidKept (iF w.params) (h1 w.params))=λ V=>true:=by
 rw[fY]; intro w; kernel_rfl
theorem Zj:∀ w:bP,(λ os=>seen ((recsOf qv).map (·.name)) (ownsOf qv) [] {sF w os with gens:=#[]})=λ V=>expectedOf qv:=by
 rw[PySem.W.Fast.te5160383126252970620,PySem.W.Fast.te3399658132070893891,PySem.W.Fast.te5991557255702980513]; intro w; kernel_rfl
theorem Zi:∀ w:bP,(λ os=>(sF w os).heap.bltView)=λ V=>bltViewBooted:=by intro w; kernel_rfl
theorem Xc:∀ w:bP,(h1 w.params).keysOk (looseW qv loose) ((recsOf qv).map (·.name)) ((litsOf qv).map (·.1)) ((clssOf qv (looseW qv loose)).map (·.name))=true:=by
 rw[PySem.W.Fast.te10880121769531294198,PySem.W.Fast.te821141287760084731,PySem.W.Fast.te3399658132070893891,PySem.W.Fast.te7409074990110511671,PySem.W.Fast.te13664370479719496447]; intro w; kernel_rfl
theorem Xb:∀ w:bP,(h1 w.params).accountedOkI (importedModules PR.main.body)=true:=by
 rw[PySem.W.Fast.te14722251495701143533,fY]; intro w; kernel_rfl
theorem Xa:∀ w:bP,(h1 w.params).isNs mainGlobals=true:=by intro w; kernel_rfl
theorem WZ:∀ w:bP,(h1 w.params).isNs builtinsNs=true:=by intro w; kernel_rfl
theorem WY:∀ w:bP,tablesOk qv (h1 w.params)=true:=by
 rw[PySem.W.Fast.te10994771534591457954]; intro w; kernel_rfl
theorem WX:∀ (w:bP) (os:OsState),PA (sF w os)=true:=by intro w os; kernel_rfl
theorem Zh:∀ w:bP,(λ os=>tabsOk qv (sF w os))=λ V=>true:=by
 rw[PySem.W.Fast.te479339242167458305]; intro w; kernel_rfl
theorem Zg:∀ w:bP,(λ os=>pinSeenD qv (drecsOf qv) (sF w os))=λ V=>pinGoodD (drecsOf qv):=by
 rw[PySem.W.Fast.te16090120013241838585,PySem.W.Fast.te3247288618530077131]; intro w; kernel_rfl
theorem Zf:∀ w:bP,(λ os=>plainSeenE qv (looseW qv loose) (sF w os))=λ V=>plainGoodE qv (looseW qv loose):=by
 rw[PySem.W.Fast.te2386780881361962483,PySem.W.Fast.te821141287760084731]; intro w; kernel_rfl
theorem Ze:∀ w:bP,(λ os=>plainSeenD qv loose (sF w os))=λ V=>plainGoodD qv loose:=by
 rw[PySem.W.Fast.te11698064438423848299]; intro w; kernel_rfl
theorem Zd:∀ w:bP,(λ os=>wideSeen qv (sF w os))=λ V=>wideGood qv:=by
 rw[PySem.W.Fast.te7317090234206586261]; intro w; kernel_rfl
theorem Xe:∀ w:bP,(λ os=>clsSeenW qv loose (sF w os))=λ V=>clsGoodW qv loose:=by
 rw[PySem.W.Fast.te7369524293546568484]; intro w; kernel_rfl
noncomputable def YM:List aJ:=[nat_lit 2,nat_lit 3,nat_lit 20,nat_lit 21,nat_lit 22,nat_lit 28,nat_lit 29,nat_lit 30,nat_lit 37,nat_lit 43,nat_lit 44,nat_lit 50,nat_lit 51,nat_lit 52,nat_lit 53,nat_lit 54,nat_lit 55,nat_lit 58,nat_lit 65,nat_lit 66,nat_lit 67,nat_lit 75,nat_lit 76,nat_lit 80,nat_lit 81,nat_lit 87,nat_lit 88,nat_lit 94,nat_lit 95,nat_lit 101,nat_lit 102,nat_lit 108,nat_lit 109,nat_lit 115,nat_lit 116,nat_lit 124,nat_lit 130,nat_lit 131,nat_lit 137,nat_lit 138,nat_lit 144,nat_lit 145,nat_lit 151,nat_lit 152,nat_lit 158,nat_lit 159,nat_lit 165,nat_lit 166,nat_lit 167,nat_lit 168,nat_lit 169,nat_lit 170,nat_lit 171,nat_lit 186,nat_lit 187,nat_lit 193,nat_lit 194,nat_lit 200,nat_lit 201,nat_lit 207,nat_lit 208,nat_lit 209,nat_lit 210,nat_lit 211,nat_lit 212,nat_lit 213,nat_lit 221,nat_lit 222,nat_lit 228,nat_lit 229,nat_lit 235,nat_lit 236,nat_lit 242,nat_lit 243,nat_lit 249,nat_lit 250,nat_lit 254,nat_lit 255,nat_lit 268,nat_lit 269,nat_lit 275,nat_lit 276,nat_lit 277,nat_lit 278,nat_lit 279,nat_lit 280,nat_lit 281,nat_lit 289,nat_lit 290,nat_lit 296,nat_lit 297,nat_lit 303,nat_lit 304,nat_lit 310,nat_lit 311,nat_lit 317,nat_lit 318,nat_lit 324,nat_lit 325,nat_lit 331,nat_lit 332,nat_lit 338,nat_lit 339,nat_lit 345,nat_lit 346,nat_lit 352,nat_lit 353,nat_lit 359,nat_lit 360,nat_lit 366,nat_lit 367,nat_lit 373,nat_lit 374,nat_lit 375,nat_lit 381,nat_lit 382,nat_lit 388,nat_lit 389,nat_lit 395,nat_lit 396,nat_lit 402,nat_lit 403,nat_lit 409,nat_lit 410,nat_lit 418,nat_lit 424,nat_lit 425,nat_lit 431,nat_lit 432,nat_lit 433,nat_lit 434,nat_lit 435,nat_lit 436,nat_lit 437,nat_lit 452,nat_lit 453,nat_lit 459,nat_lit 460,nat_lit 466,nat_lit 467,nat_lit 468,nat_lit 469,nat_lit 470,nat_lit 471,nat_lit 472,nat_lit 480,nat_lit 481,nat_lit 487,nat_lit 488,nat_lit 494,nat_lit 495,nat_lit 496,nat_lit 502,nat_lit 503,nat_lit 516,nat_lit 517,nat_lit 518,nat_lit 519,nat_lit 520,nat_lit 521,nat_lit 522,nat_lit 537,nat_lit 538,nat_lit 539,nat_lit 540,nat_lit 541,nat_lit 542,nat_lit 543,nat_lit 558,nat_lit 559,nat_lit 565,nat_lit 566,nat_lit 567,nat_lit 568,nat_lit 569,nat_lit 570,nat_lit 571,nat_lit 581,nat_lit 587,nat_lit 588,nat_lit 594,nat_lit 595,nat_lit 601,nat_lit 602,nat_lit 603,nat_lit 604,nat_lit 605,nat_lit 606,nat_lit 607,nat_lit 610,nat_lit 623,nat_lit 624,nat_lit 625,nat_lit 626,nat_lit 627,nat_lit 628,nat_lit 629,nat_lit 635,nat_lit 636,nat_lit 640,nat_lit 641,nat_lit 647,nat_lit 648,nat_lit 654,nat_lit 655,nat_lit 661,nat_lit 662,nat_lit 668,nat_lit 669,nat_lit 675,nat_lit 676,nat_lit 682,nat_lit 683,nat_lit 689,nat_lit 690,nat_lit 696,nat_lit 697,nat_lit 703,nat_lit 704,nat_lit 710,nat_lit 711,nat_lit 717,nat_lit 718,nat_lit 722,nat_lit 723,nat_lit 729,nat_lit 730,nat_lit 736,nat_lit 737,nat_lit 743,nat_lit 744,nat_lit 750,nat_lit 751,nat_lit 752,nat_lit 753,nat_lit 754,nat_lit 755,nat_lit 756,nat_lit 757,nat_lit 763,nat_lit 764,nat_lit 770,nat_lit 771,nat_lit 777,nat_lit 778,nat_lit 784,nat_lit 785,nat_lit 791,nat_lit 792,nat_lit 796,nat_lit 797,nat_lit 801,nat_lit 802,nat_lit 806,nat_lit 807,nat_lit 811,nat_lit 812,nat_lit 818,nat_lit 819,nat_lit 823,nat_lit 824,nat_lit 825,nat_lit 830,nat_lit 831,nat_lit 835,nat_lit 836]
theorem Ph:∀ P,YM=(KF P).map (·.1):=λ P=>by kernel_rfl
noncomputable abbrev HK:Hook:=kHook KF YM Ph
theorem Zc:∀ w:bP,(λ os=>HK.obs (sF w os))=λ V=>HK.val w:=by intro w; kernel_rfl
theorem Ob(w:bP):(λ os=>((staticsOk (importedModules PR.main.body) (iF w.params) (h1 w.params) && namesBound PR (h1 w.params) && gensDone (sF w os) && laidKept (iF w.params) (h1 w.params)),
  openSeen qv loose (importedModules PR.main.body) PA true (sF w os),HK.obs (sF w os)))=λ V=>(true,openGood qv loose,HK.val w):=by
 funext os
 refine eY (congrFun (Zk w) os) (eY ?_ (congrFun (Zc w) os))
 show openSeen qv loose _ PA true (sF w os)=openGood qv loose
 refine eY (congrFun (Zj w) os) (eY (congrFun (Zi w) os) (eY ?_ (eY (congrFun (Zh w) os) (eY (congrFun (Zg w) os) (eY (congrFun (Zf w) os) (eY (congrFun (Ze w) os) (eY (congrFun (Zd w) os) (congrFun (Xe w) os))))))))
 show((h1 w.params).keysOk (looseW qv loose) ((recsOf qv).map (·.name)) ((litsOf qv).map (·.1)) ((clssOf qv (looseW qv loose)).map (·.name)) && (h1 w.params).accountedOkI (importedModules PR.main.body) && (h1 w.params).isNs mainGlobals && (h1 w.params).isNs builtinsNs && tablesOk qv (h1 w.params) && PA (sF w os) && true)=true
 rw[Xc,Xb,Xa,WZ,WY,WX]; rfl
theorem Vw:LeftO PR qv loose PA HK.obs HK.val 12000:=
 LeftO.of_pieces (boot_open NK (by decide) Mh) PX WO (by decide) Ob
end
section
theorem Aw{M:jP}{A:bS}{Γ:Ctx}{t:Sem Fin}{R:eI->aH->Prop}{s:aH}(hin:Γ.In A)(hd:S4 Γ.code=false)(hb:Ef Γ.below)
  (h:z5 M A t (λ fin s'=>∃ f,fin= .done f/\R (.ok f) s') s) (p:Pos):
  wp M Γ t (Sem.finPost M Γ R) (λ e V s'=>R (.error e) s') p s:=by
 refine fC M Γ t (λ fin p' s' h'=>?_) (λ V V V h'=>h'.elim) p s (h Γ p hin λ V=>⟨hd,hb⟩)
 exact C8 h' λ f e hf=>by subst e; exact hf
theorem Cq{prog:bY}{w:bP}{t:Sem Fin}{s:aH}{R:eI->aH->Prop}(hreg:s.asleep)
  (h:z5 (model prog w) callerA t (λ fin s'=>∃ f,fin= .done f/\(R (.ok f) s'/\leftWithCleanup s'.gens=false)) s):
  ∃ n r s' s'',runN (denote table) prog w n s ⟨t,.builtin "claim.caller" {},default,[]⟩= .halted (outcomeOf r) s'/\
   schedN (denote table) prog w n (.single s ⟨t,.builtin "claim.caller" {},default,[]⟩)= .halted (outcomeOf r) s'/\s'.forget=s''.forget/\R r s'':=by
 refine M7 λ G76 hG76=>?_; obtain⟨n,r,s₁,s₂,hs,hn,hfo,hR⟩:=wp_halts_full (M:=model prog w) (R:=R) hreg (Aw (R:=λ r s'=>R r s'/\leftWithCleanup s'.gens=false) caller_in (by decide) (λ V hx=>nomatch hx) h default); refine hG76 ?_
 exact⟨n,r,s₂,s₁,hn,hs,hfo,hR⟩
theorem s7{c:ClaimW}{tree:List aF->Sem Fin}{w:bP}{s:aH}{free:aJ->Prop}{gens:Prop}{kept:bF->Prop}(hz:s.asleep)(hgens:s.gens=#[])
  (hspec:∀ args,c.pre args=true->WData.layableAll args=true->
   ∀ ord:List dO->List dO,(∀ l,(ord l).Perm l)->
   ∃ vs s₁,layAllW c.records (classAt s.heap) w.params ord args s=some (vs,s₁)/\
    z5 (model c.prog w) callerA (tree vs) (λ fin s'=>∃ f,fin= .done f/\(c.Ends s args vs s₁ (.ok f) s'/\s'.os=s.os/\AllBare s'.gens/\kept s'.heap)) s₁):
  c.CallFrom (λ vs=>⟨tree vs,.builtin "claim.caller" {},default,[]⟩) w free gens kept s:=by
 intro args hpre hlay ord hord
 refine M7 λ G hG=>?_
 obtain⟨vs,s₁,hlaid,hcode⟩:=hspec args hpre hlay ord hord
 have hal:=layAllW_rest _ _ _ hlaid
 obtain⟨k,r,s',s'',hrun,hsched,hfo,hcase,hos,hkp⟩:=Cq (prog:=c.prog) (w:=w) (t:=tree vs) (s:=s₁)
  (R:=λ r s'=>c.Ends s args vs s₁ r s'/\s'.os=s.os/\kept s'.heap)
  (Shared.asleep_of_life hal.2.2.2 hz)
  (Ax hcode (λ fin s' h=>h.imp λ V h=>⟨h.1,⟨h.2.1,h.2.2.1,h.2.2.2.2⟩,leftWithCleanup_false_of_bare h.2.2.2.1⟩))
 refine M7 λ G78 hG78=>?_; obtain⟨eh,_,_,eo,_⟩:=Shared.forget_eq hfo; refine hG78 ?_
 have hcase:=hcase.congr eh
 have hlife:s'.heap.life=s.heap.life:=(runN_life _ _ _ hrun).trans hal.2.2.2
 refine hG ⟨vs,s₁,hlaid,k,_,s',hsched,?_,(λ V i x hx=>nn (show none=some x from(congrArg (·[i]?) hgens).symm.trans hx)),eh▸hkp,by rw[hlife],Shared.rest_eq (eo▸hos)⟩
 exact hcase.imp (λ h=>h.imp λ V h=>⟨by rw[h.1]; rfl,h.2.1,h.2.2.1,h.2.2.2.1,λ b o y V=>h.2.2.2.2.1 b o y,h.2.2.2.2.2⟩) λ h=>h.imp λ V h=>h.imp λ V h=>h.imp λ V h=>⟨by rw[h.1]; rfl,h.2.1,h.2.2.1,h.2.2.2.1,h.2.2.2.2.1,λ b o y V=>h.2.2.2.2.2 b o y⟩
noncomputable abbrev Kc(q:bY)(loose:List Str)(XP:(Str->Option aF)->bF->Prop)(YP:bP->bF->Prop)(r:RowW)(d:DefRec)(kwd:List (Str×aE)):Prop:=
 ∀ (w:bP) (s₀ s₁:aH) (mg mb:Str->Option aF),Ground q loose r.records XP w s₀ mg mb s₁.heap->YP w s₁.heap->∀ (a:aJ) (o:Obj) (pm cd doc dV kV:aF),s₁.heap.get? a=some o->
  o.data= .func {docDef d.name d.params d.body d.scope pm cd doc with defaults:=dV,kwdefaults:=kV}->s₁.heap.CodeRec cd d.name->Dflts mg s₁.heap d.params kwd dV kV->mg d.name=some (.ref a)->s₁.gens=#[]->
  ∀ (args:List WData) (vals:List aF) (as:List aJ),r.claim.pre args=true->WData.layableAll args=true->ReadsAllW r.records (classAt s₀.heap) s₁.heap vals args as->WellAll w.params s₁.heap vals args->(∀ a∈as,(a== sysModules)=false)->
   z5 (model r.prog w) callerA (PySem.call (.ref a) vals) (λ v s'=>GoodWG r.claim (classAt s₀.heap) (ExcName.means s₀.heap) args s₁ (.ok (.ret v)) s') s₁
theorem DC{r:OpenRow}{q:bY}{loose:List Str}{Xt:aH->Bool}{XP:(Str->Option aF)->bF->Prop}{α:Type}{Yf:aH->α}{Ya:bP->α}{YP:bP->bF->Prop}{d:DefRec}{kwd:List (Str×aE)}{N:Nat}
  (left:LeftO r.prog q loose Xt Yf Ya N) (hY:∀ w s,Yf s=Ya w->YP w s.heap) (hYk:∀ w h h',YP w h->(∀ b o,h.get? b=some o->h'.get? b=some o)->YP w h')
  (hX:∀ s,Xt s=true->XP (s.heap.nsMap mainGlobals) s.heap) (hXk:∀ mg h h',XP mg h->(∀ b o,h.get? b=some o->h'.get? b=some o)->XP mg h')
  (hdef:defOf q r.name=some (d,kwd)) (hp:r.prog.theDef r.name=some (d.params,d.body,d.scope)) (hk:kwWritten? d.params.kwonlyargs d.params.kw_defaults=some kwd) (hRf:∀ s,Xt s=true->RecFacts r.records s.heap) (hwr:(!r.writes || r.records.isEmpty)=true)
  (k1:r.wellSaid=true) (ok:(chainsOk q && opensWell r.prog && (frees r.toRowW && r.within.isEmpty))=true) (hb:r.prog.bare) (hw:r.toRowW.promised)
  (call:Kc q loose XP YP r.toRowW d kwd):r.Holds:=by
 refine⟨k1,hw,M7 λ G0 hG0=>?_⟩
 obtain⟨ok,k5⟩:=bI.mp ok
 obtain⟨hch,o1⟩:=bI.mp ok
 obtain⟨k5,k6⟩:=bI.mp k5
 obtain⟨hsame,hu,ha,hap,hm⟩:=frees_parts k5
 refine hG0 ⟨⟨hb,o1,by show r.makers.map _=[]; rw[hm]; rfl⟩,hw.witness,λ w=>⟨(left.behind hX hch w).1,λ s' hs'=>M7 λ G hG1=>?_⟩⟩
 obtain⟨s₀,hf,hg0,s,hT,hz,hgens,hg,G00,y⟩:=(left.behind (XP:=λ mg h=>XP mg h/\RecFacts r.records h) (λ s hs=>⟨hX s hs,hRf s hs⟩) hch w).2 s' hs'
 have G0:Ground q loose [] XP w s (s.heap.nsMap mainGlobals) (s.heap.nsMap builtinsNs) s.heap:=⟨G00.T,G00.B,G00.D,G00.TE,G00.TD,G00.W,G00.X.1,G00.cls,G00.has,G00.apart,G00.once,G00.K⟩
 have RF:=G00.X.2
 have hT':=hT
 refine hG1 ⟨s₀,hf,hg0,s,hT,λ n hn=>?_,RF.1,RF.2.1,?_⟩
 ·obtain rfl:n=r.name:=by split at hn<;>first | exact aL.mp hn | exact nm hn
  exact pinned_of_view hg G0 hdef hp hk
 have hgens:s.gens=#[]:=Array.eq_empty_of_size_eq_zero (beq_iff_eq.mp hgens)
 have G:Ground q loose r.records XP w s _ _ s.heap:=RF.ground G0
 refine s7 (c:=r.toRowW.claim) (tree:=λ vs=>do match←nsGet mainNs r.name with
   | some f=>do ret (←PySem.call f vs)
   | none=>unsupported "claim.caller:no-such-global") hz hgens λ args hpre hlay ord hord=>M7 λ V hG=>?_
 obtain⟨⟨vs,s₁⟩,hlaid⟩:=jQ.mp (layAllW_isSome (P:=w.params) (ord:=ord) G.has args r.args s (pre_splitW hpre).1)
 have keeps:=layAllW_keeps _ _ _ hlaid
 have hal:=layAllW_rest _ _ _ hlaid
 obtain⟨as,hrd,hin,hold⟩:=reads_layAllW hord _ _ _ hlaid hlay s₁.heap (λ V V e=>e)
 have L:Laid r.records w s s₁ args vs as:=⟨⟨ord,hord,hlaid⟩,hrd,hin,hold,keeps,hal.1.trans hgens,hal.2.2.1⟩
 have G₁:=G.keeps hXk keeps
 obtain⟨a,o,pm,cd,doc,dV,kV,h1,h2,h3,h4,h5⟩:=G₁.fn hdef
 have h:=call w s s₁ _ _ G₁ (hYk _ _ _ (hY w s y) keeps) a o pm cd doc dV kV h2 h3 h4 h5 (defOf_name hdef▸h1) L.gens args vs as hpre hlay L.reads L.well (L.low G.low)
 have hi:=ident_freeW hu ha hap
 have hwi:r.toRowW.claim.within=[]:=iJ.mp k6
 refine hG ⟨vs,s₁,hlaid,?_⟩
 refine D5 (wpAny_nsGet G₁.T.g ?_)
 rw[h1]
 refine B5 (Ax h λ v s' g=>A7 ⟨_,rfl,?_⟩)
 have z:=g.laid (c:=r.toRowW.claim) hsame hwi hi L
 exact⟨z.1,z.2.1,z.2.2,λ q=>⟨namesKept_of hT' hg _ keeps g.2.1.old,noTable hwr q⟩⟩
end
section
theorem Qb:namesResolve bJ.row.prog=true:=by
 rw[PySem.W.Fast.te8377067652309620493]; kernel_rfl
theorem Qa:noRoadLSs {strict:= !(importedModules bJ.row.prog.main.body).all cThrough.contains,foot:=none,bare:=(["vars","dir","locals"]:List Str).filter (readsOut bJ.row.prog bJ.row.prog.main.body)} bJ.row.prog.main.body=true:=by
 rw[PySem.W.Fast.te3471404346716756564,PySem.W.Fast.te8326940854005059898,fY,PySem.W.Fast.te17691160309236699985,PySem.W.Fast.te13343964577679436407,PySem.W.Fast.sDec_eq]; kernel_rfl
theorem PZ:(namesMeet bJ.row.prog bJ.row.prog.main.body λ _ n=>attrL n)=true:=by
 rw[PySem.W.Fast.te17119622794617984870,PySem.W.Fast.te17868728402115742887]; kernel_rfl
theorem WL:PySem.Challenge.rw_nn0233_01.wellSaid=true:=by
 unfold OpenLaw.wellSaid OpenRow.wellSaid OpenRow.partSaid looksOpen
 (repeat' (with_reducible refine look_both ?_ ?_))
 all_goals first | with_reducible exact Qb | with_reducible exact Qa | with_reducible exact PZ | skip
 all_goals (
  (try rw[PySem.W.Fast.te11788848310118352699])
  (try rw[PySem.W.Fast.te9807087744658564304])
  (try rw[PySem.W.Fast.te12862048085361865435])
  (try rw[PySem.W.Fast.te18344453789297297638])
  (try rw[PySem.W.Fast.te3471404346716756564])
  (try rw[PySem.W.Fast.te14412699480532031325])
  (try rw[PySem.W.Fast.te8326940854005059898])
  (try rw[PySem.W.Fast.te17119622794617984870])
  (try rw[PySem.W.Fast.te9706382859710513879])
  (try rw[PySem.W.Fast.te2357444279172408678])
  (try rw[PySem.W.Fast.te4857012375875476094])
  (try rw[PySem.W.Fast.te13582783067957832011])
  (try rw[PySem.W.Fast.te5318747976498570220])
  (try rw[PySem.W.Fast.te4579403493507170074])
  (try rw[PySem.W.Fast.te4274047373036748609])
  (try rw[PySem.W.Fast.te12749700546528644094])
  (try rw[PySem.W.Fast.te10501279942588096481])
  (try rw[PySem.W.Fast.te8179353310426384613])
  (try rw[PySem.W.Fast.te797321630700447069])
  (try rw[PySem.W.Fast.te9572597257264208301])
  (try rw[PySem.W.Fast.te9558739934217749035])
  (try rw[PySem.W.Fast.te16286561074155671207])
  (try rw[PySem.W.Fast.te6984425678791042302])
  (try rw[PySem.W.Fast.te17095254045102204799])
  (try rw[PySem.W.Fast.te12879404354523853263])
  (try rw[PySem.W.Fast.te482687673346738481])
  (try rw[PySem.W.Fast.te10792542408131684335])
  (try rw[PySem.W.Fast.te7723801398212525404])
  (try rw[PySem.W.Fast.named_eq])
  (try rw[PySem.W.Fast.sDec_eq])
  skip)
 all_goals first | done | kernel_rfl
end
section
noncomputable def Om:DefRec:=match defOf qv "law" with | some (d,_)=>d | none=>⟨"",⟨[],[],none,[],[],none,[]⟩,[],⟨.module,[],false,false,[]⟩,⟨0,0,0,0⟩⟩
noncomputable abbrev YN(mg:Str->Option aF)(h:bF):Prop:=XL qv [] mg h/\∃ o,h.get? sysModules=some o
theorem Id(call:Kc qv loose YN HK.says PySem.Challenge.rw_nn0233_01.row.toRowW Om []):bJ.Holds:=by
 refine holds_law WL λ said'=>?_
 refine DC (q:=qv) (loose:=loose) (Xt:=PA) (XP:=YN) (Yf:=HK.obs) (Ya:=HK.val) (YP:=HK.says) (N:=12000) Vw HK.of HK.keeps (λ s e=>⟨xl_of s (bI.mp (bI.mp e).1).1,jQ.mp (bI.mp (bI.mp e).1).2⟩) (λ mg h h' x k=>⟨XL.keeps mg h h' x.1 k,let ⟨o,e⟩:=x.2; ⟨o,k _ o e⟩⟩) (d:=Om) (kwd:=[]) ?_ ?_ ?_ (λ s e=>recFacts_of (bI.mp e).2) ?_ said' ?_ ?_ ?_ call
 ·kernel_rfl
 ·kernel_rfl
 ·kernel_rfl
 ·kernel_rfl
 ·decide+kernel
 ·exact⟨rfl,rfl,rfl,rfl,rfl,by decide+kernel⟩
 ·w_witness2
end
section
theorem Am{P:dB}{loose:List Str}{mean:ExcName->Option aF}{mg mb:Ev}{h:bF}(T:Top qv loose mean mg mb h)(X:(KF P).In h):CodeHd h 835 833/\h.get? 833=some (tabObj #[]):=by
 have hr:((recsOf qv).find? (λ e=>e.name== ("law":Str))).isSome=true:=by kernel_rfl
 obtain⟨d,hd⟩:=jQ.mp hr
 exact tab_of T X hd (by kernel_rfl)
set_option tactic.hygienic true in
theorem Nx(law:∀ (w:bP) (s:aH) {loose:List Str} {mean:ExcName->Option aF} {mg mb:Ev},Top qv loose mean mg mb s.heap->(KF w.params).In s.heap->(∃ o,s.heap.get? sysModules=some o)->∀ (l:aJ) (vs:List aF) (ns:List Int),l≠sysModules->s.heap.IsList l vs.toArray->cE vs ns->ns.length<=63->(∀ n∈ns,eS n<=1048576)->
  z5 (model PG w) callerA (call (.ref 836) [.ref l]) (λ v s'=>∃ h' tk more,v= .bool true/\s'={s with heap:=h',toks:=tk}/\gU 833 s.heap h'/\h'.get? 833=some (tabObj more)) s):bJ.Holds:=by
 refine Id ?_
 intro w s₀ s₁ mg mb G Y fa o pm cd doc dV kV ho hd hcd hD hmg hg args vals as hpre hlay hrd hwl hlo
 have KX:=kIn_of Y
 refine Ground.open G ?_
 intro T B D TE TW
 have hlo2:=hlo
 refine M7 λ GA hGA=>?_
 wrow_args hpre hlay hrd hwl hlo
 refine hGA ?_
 rename_i ns _ _ _ _ _ _ _ l vs _ hL _ _ _ hI _ hc _
 have hfa:fa=836:=by
  have e:=mg_of KX T.g (show nsIn (KF w.params) mainGlobals "law"=some (some (.ref 836))by kernel_rfl)
  have hn:Om.name="law":=by kernel_rfl
  rw[hn,e]at hmg
  exact(Value.ref.inj (aU hmg)).symm
 subst hfa
 have hlen:ns.length<=63:=by omega
 rename_i hlay1 _ _ _ _ _ _ _ _ _ _
 have hbits:∀ n∈ns,eS n<=1048576:=λ n hn=>by
  have:=PyData.weight_item_of_list hlay1 (aY (f:=PyData.int) hn)
  simpa only[PyData.weight,eS] using this
 have hls:l≠sysModules:=λ q=>by
  have hr:∃ as',Reads s₁.heap (.ref l) (.list (ns.map .int)) as'/\∀ a∈as',(a== sysModules)=false:=⟨_,by assumption,λ a ha=>hlo2 a (aG _ ha)⟩
  refine M7 λ G83 hG83=>?_; obtain⟨as',hr,hn⟩:=hr; refine hG83 ?_
  cases hr
  have:=hn l (.head _)
  rw[q]at this
  exact absurd this (by decide)
 refine M7 λ G84 hG84=>?_; obtain⟨C,hP⟩:=Am T KX; refine hG84 ?_
 refine Ax (law w s₁ T KX G.X.2 l vs ns hls hL hI hlen hbits) λ v s' hv=>?_
 obtain⟨h',tk,more,rfl,rfl,hk,hP'⟩:=hv
 refine⟨.inl ⟨.bool true,.bool true,[],rfl,λ cls=>rfl,.bool true,?_,λ V=>⟨fH,λ a ha=>nomatch ha⟩⟩,?_,rfl,.of_eq hg⟩
 ·kernel_rfl
 ·have hne:(833:aJ)≠cStatics:=by decide
  have ht:=C.tab hP
  refine(OldK.refl s₁.heap).step_table ht ht (ps:=#[]) (more:=more) ?_ hk hne
  refine M7 λ G85 hG85=>?_; obtain⟨o,vs,_,_,_,_,_,_,_,e1,e2,e3,e4,_,_,_,_,_,ne⟩:=C; refine hG85 ?_
  exact⟨⟨o,vs,hk _ _ ne e1,e2,e3,e4⟩,by rw[Array.empty_append]; exact hP'⟩
end
section
theorem EQ{p0 p1:Prop}{G:Prop}(k:p0->p1->G):(p0/\p1)->G:=λ h=>k h.1 h.2
theorem Mk{p0 p1 p2:Prop}{G:Prop}(k:p0->p1->p2->G):(p0/\p1/\p2)->G:=λ h=>k h.1 h.2.1 h.2.2
theorem Wq{p0 p1 p2 p3:Prop}{G:Prop}(k:p0->p1->p2->p3->G):(p0/\p1/\p2/\p3)->G:=λ h=>k h.1 h.2.1 h.2.2.1 h.2.2.2
theorem Zx{p0 p1 p2 p3 p4:Prop}{G:Prop}(k:p0->p1->p2->p3->p4->G):(p0/\p1/\p2/\p3/\p4)->G:=λ h=>k h.1 h.2.1 h.2.2.1 h.2.2.2.1 h.2.2.2.2
theorem XE{p0 p1 p2 p3 p4 p5:Prop}{G:Prop}(k:p0->p1->p2->p3->p4->p5->G):(p0/\p1/\p2/\p3/\p4/\p5)->G:=λ h=>k h.1 h.2.1 h.2.2.1 h.2.2.2.1 h.2.2.2.2.1 h.2.2.2.2.2
theorem Zw{p0 p1 p2 p3 p4 p5 p6:Prop}{G:Prop}(k:p0->p1->p2->p3->p4->p5->p6->G):(p0/\p1/\p2/\p3/\p4/\p5/\p6)->G:=λ h=>k h.1 h.2.1 h.2.2.1 h.2.2.2.1 h.2.2.2.2.1 h.2.2.2.2.2.1 h.2.2.2.2.2.2
theorem Wo{α0:Type _}{p0:α0->Prop}{G:Prop}(k:∀ x0,p0 x0->G):(∃ x0,p0 x0)->G:=λ h=>h.elim λ x0 h0=>k x0 h0
theorem Bx{α0:Type _}{p0 p1:α0->Prop}{G:Prop}(k:∀ x0,p0 x0->p1 x0->G):(∃ x0,p0 x0/\p1 x0)->G:=λ h=>h.elim λ x0 h0=>k x0 h0.1 h0.2
theorem Wn{α0:Type _}{p0 p1 p2 p3:α0->Prop}{G:Prop}(k:∀ x0,p0 x0->p1 x0->p2 x0->p3 x0->G):(∃ x0,p0 x0/\p1 x0/\p2 x0/\p3 x0)->G:=λ h=>h.elim λ x0 h0=>k x0 h0.1 h0.2.1 h0.2.2.1 h0.2.2.2
theorem YK{α0:Type _}{p0 p1 p2 p3 p4 p5:α0->Prop}{G:Prop}(k:∀ x0,p0 x0->p1 x0->p2 x0->p3 x0->p4 x0->p5 x0->G):(∃ x0,p0 x0/\p1 x0/\p2 x0/\p3 x0/\p4 x0/\p5 x0)->G:=λ h=>h.elim λ x0 h0=>k x0 h0.1 h0.2.1 h0.2.2.1 h0.2.2.2.1 h0.2.2.2.2.1 h0.2.2.2.2.2
theorem Zv{α0:Type _}{α1:Type _}{α2:Type _}{α3:Type _}{p0 p1 p2:α0->α1->α2->α3->Prop}{G:Prop}(k:∀ x0 x1 x2 x3,p0 x0 x1 x2 x3->p1 x0 x1 x2 x3->p2 x0 x1 x2 x3->G):(∃ x0 x1 x2 x3,p0 x0 x1 x2 x3/\p1 x0 x1 x2 x3/\p2 x0 x1 x2 x3)->G:=λ h=>h.elim λ x0 h0=>h0.elim λ x1 h1=>h1.elim λ x2 h2=>h2.elim λ x3 h3=>k x0 x1 x2 x3 h3.1 h3.2.1 h3.2.2
end
section
theorem YL{x:Int}(h0:0<=x)(h1:x < 65521):0<=x / 256/\x / 256 < 256:=⟨kQ h0 (by decide),kX (by decide) (Int.lt_trans h1 (by decide))⟩
theorem WW(x:Int):0<=x % 256/\x % 256 < 256:=⟨bX _ (by decide),bR _ (by decide)⟩
theorem WV(x:Int):0<=255 - x % 256/\255 - x % 256 < 256:=⟨lE (lH (WW x).2),jM (iR _ (WW x).1) (by decide)⟩
theorem e9(L:Nat):2*L+2<=9*(2*L+2) / 8:=(Nat.le_div_iff_mul_le (by decide)).mpr (by rw[kK]; exact Nat.mul_le_mul_right _ (by decide))
theorem Wm{X L:Nat}(h:X<=2*L+2+12):X<=9*(2*L+2) / 8+12:=aS h (dM (e9 L) 12)
end
section
section
variable{α β:Type}{M:jP}{A:bS}{s:aH}{env:Env}{b:Prop}{E:aF->aH->Prop}
theorem Ku{l op r pos}{Q:aF->aH->Prop}(h:C5 b M A (eval l env) (λ u s₁=>C5 b M A (eval r env) (λ v s₂=>C5 b M A (binaryOp op u v) Q E s₂) E s₁) E s):C5 b M A (eval (.BinOp l op r pos) env) Q E s:=by
 rw[eval_BinOp]
 exact B8 h λ u s₁ h=>B8 (B0 h) λ v s₂ h=>A9 (R0 h)
theorem Ko{op x pos}{Q:aF->aH->Prop}(h:C5 b M A (eval x env) (λ v s₁=>C5 b M A (unaryOp op v) Q E s₁) E s):C5 b M A (eval (.UnaryOp op x pos) env) Q E s:=by
 rw[eval_UnaryOp]
 exact B8 h λ v s₁ h=>A9 (B0 h)
theorem PL{l op r pos}{Q:aF->aH->Prop}(h:C5 b M A (eval l env) (λ u s₁=>C5 b M A (eval r env) (λ v s₂=>C5 b M A (compareOp op u v) Q E s₂) E s₁) E s)(hm:behindInMarks op r=false):C5 b M A (eval (.Compare l [op] [r] pos) env) Q E s:=by
 rw[eval_Compare1,markedBehindIn_of_false hm]
 exact B8 h λ u s₁ h=>B8 (B0 h) λ v s₂ h=>A9 (R0 h)
theorem Ks{t x y pos}{Q:aF->aH->Prop}(h:C5 b M A (isTrue t env (eval t env)) (λ c s₂=>if c then C5 b M A (eval x env) Q E s₂ else C5 b M A (eval y env) Q E s₂) E s):C5 b M A (eval (.IfExp t x y pos) env) Q E s:=by
 rw[eval_IfExp]
 refine B8 h λ c s₂ h=>?_
 rcases c<;>exact h
theorem Ni{elts:List aE}{pos:Pos}{Q:aF->aH->Prop}(h:C5 b M A (spliced (backTo pos (starEach elts env))) (λ vs s₁=>C5 b M A (newList vs) Q E s₁) E s):C5 b M A (eval (.List elts pos) env) Q E s:=by
 show C5 b M A (do standAt pos; newList (←spliced (backTo pos (starEach elts env)))) Q E s
 exact A9 (B5 h)
theorem Kq{elts:List aE}{k:Nat}{pos:Pos}{Q:aF->aH->Prop}(h:C5 b M A (spliced (backTo pos (starEach elts env))) (λ vs s₁=>C5 b M A (newTuple vs) Q E s₁) E s):C5 b M A (eval (.Tuple elts k pos) env) Q E s:=by
 show C5 b M A (do standAt pos; newTuple (←spliced (backTo pos (starEach elts env)))) Q E s
 exact A9 (B5 h)
theorem Nn{id:Str}{p pos:Pos}{args:List aE}{Q:aF->aH->Prop}(h:C5 b M A (eval (.Name id p) env) (λ f s₁=>C5 b M A (callWith pos f [] (backTo pos (starEach args env)) []) Q E s₁) E s):C5 b M A (eval (.Call (.Name id p) args [] pos) env) Q E s:=by
 show C5 b M A (do callWith pos (←eval (.Name id p) env) [] (backTo pos (starEach args env)) (backToKw pos (keywordEach [] env))) Q E s
 exact B5 h
theorem Ej{P:bF->Prop}{pos:Pos}{f:aF}{first:List aF}{args:List (Bool×Sem aF)}{keywords:List (Option Str×Sem aF)}{Q:aF->aH->Prop}(hplain:(args.any (·.1) || keywords.any (·.1.isNone))=false)
  (hk:∀ h,P h->∃ k,(k=kE∨k=iS∨k=gW)/\kR M h (keeperOf f) k)
  (h:C5 b M A (evalArgs f true args keywords) (λ a s₁=>P s₁.heap/\C5 b M A (call f (first++a.pos) a.kw) Q E s₁) E s):C5 b M A (callWith pos f first args keywords) Q E s:=by
 refine B8 (B0 h) λ a s₁ h₁=>A9 ?_
 obtain⟨k,hk',L⟩:=hk _ h₁.1
 simp only[hplain]
 refine D7 (L.here ?_)
 have tail:∀ {t:Sem aF},C5 b M A t Q E s₁->C5 b M A (t >>=λ r=>holding [r] point >>=λ V=>pure r) Q E s₁:=
  λ ht=>B8 ht λ r s₂ hr=>D7 (eP (wpAny_point (A7 hr)))
 have marked (mk:aF):C5 b M A (callMarked mk f (first++a.pos) a.kw) Q E s₁:=by unfold callMarked; exact HF h₁.2
 rcases hk' with rfl | rfl | rfl<;>dsimp only<;>first | exact tail h₁.2 | (split<;>first | exact tail h₁.2 | exact tail (marked _))
theorem Np{f:aF}{x:Sem aF}{rest:List (Bool×Sem aF)}{Q:Args->aH->Prop}(h:C5 b M A (spliced ((false,x)::rest)) (λ vs s'=>Q ⟨vs,[]⟩ s') E s):C5 b M A (evalArgs f true ((false,x)::rest) []) Q E s:=by
 show C5 b M A (spliced ((false,x)::rest) >>=_) Q E s
 exact B8 h λ vs s' h=>B0 (B5 (A7 (B5 (A7 (A7 h)))))
theorem Ng{e:aE}{rest:List aE}{pos:Pos}{Q:List aF->aH->Prop}(h:C5 b M A (eval e env) (λ v s₁=>C5 b M A (spliced (backTo pos (starEach rest env))) (λ vs s₂=>Q (v::vs) s₂) E s₁) E s)
  (he:starEach (e::rest) env=(false,eval e env)::starEach rest env):C5 b M A (spliced (backTo pos (starEach (e::rest) env))) Q E s:=by
 rw[he]
 show C5 b M A (spliced ((false,eval e env)::backTo pos (starEach rest env))) Q E s
 rw[spliced]
 refine B8 h λ v s₁ h=>?_
 exact B5 (A7 (B8 (B0 h) λ vs s₂ h=>A7 h))
theorem Nh{o:aE}{name:Str}{apos pos:Pos}{args:List aE}{kws:List Keyword}{pl:Sem Bool}{Q:aF->aH->Prop}
  (h:C5 b M A (eval o env) (λ ov s₁=>C5 b M A (getMethod ov name pl) (λ fx s₂=>C5 b M A (callWith pos fx.1 fx.2 (backTo pos (starEach args env)) (backToKw pos (keywordEach kws env))) Q E s₂) E s₁) E s)
  (he:eval (.Call (.Attribute o name apos) args kws pos) env=(do
   let ov←eval o env
   standAt apos.atName
   let (f,first)←holding [ov] (getMethod ov name pl)
   callWith pos f first (backTo pos (starEach args env)) (backToKw pos (keywordEach kws env)))):C5 b M A (eval (.Call (.Attribute o name apos) args kws pos) env) Q E s:=by
 rw[he]
 exact B8 h λ ov s₁ h=>A9 (B8 (B0 h) λ fx s₂ h=>h)
theorem HA{value slice pos}{Q:aF->aH->Prop}(h:C5 b M A (eval value env) (λ o s₁=>C5 b M A (eval slice env) (λ i s₂=>C5 b M A (subscriptTail value slice o i) Q E s₂) E s₁) E s):C5 b M A (eval (.Subscript value slice pos) env) Q E s:=by
 rw[eval_Subscript]
 exact B8 h λ o s₁ h=>B8 (B0 h) λ i s₂ h=>A9 h
theorem Ff{lower upper step:Option aE}{p:Pos}{Q:aF->aH->Prop}(h:C5 b M A (evalPart lower env) (λ l s₁=>C5 b M A (evalPart upper env) (λ u s₂=>C5 b M A (evalPart step env) (λ st s₃=>
   Q (.ref s₃.heap.objs.size) {s₃ with heap:=s₃.heap.push {cls:= .type "slice",data:= .fields #[l,u,st]}}) E s₂) E s₁) E s):C5 b M A (eval (.Slice lower upper step p) env) Q E s:=by
 rw[arm_eval_Slice]
 exact B8 h λ l s₁ h=>B8 (B0 h) λ u s₂ h=>B8 (B0 h) λ st s₃ h=>A4 (cS h)
theorem PO{x rest pos whole}{Q:Bool->aH->Prop}(h:C5 b M A (isTrue x env (eval x env)) (λ c s'=>if c then C5 b M A (isTrue (.BoolOp .And rest pos) env whole) Q E s' else Q false s') E s):C5 b M A (isTrue (.BoolOp .And (x::rest) pos) env whole) Q E s:=by
 show C5 b M A (do
  match BoolOp.And,←isTrue x env (eval x env)with
  | .And,false=>pure false
  | .Or,true=>pure true
  | _,_=>allTrue .And rest env) Q E s
 refine B8 h λ c s' h=>?_
 induction c with
 | false=>exact A7 h
 | true=>exact h
theorem Wz{x rest pos whole}{Q:Bool->aH->Prop}(h:C5 b M A (isTrue x env (eval x env)) (λ c s'=>if c then Q true s' else C5 b M A (isTrue (.BoolOp .Or rest pos) env whole) Q E s') E s):C5 b M A (isTrue (.BoolOp .Or (x::rest) pos) env whole) Q E s:=by
 show C5 b M A (do
  match BoolOp.Or,←isTrue x env (eval x env)with
  | .And,false=>pure false
  | .Or,true=>pure true
  | _,_=>allTrue .Or rest env) Q E s
 refine B8 h λ c s' h=>?_
 induction c with
 | false=>exact h
 | true=>exact A7 h
theorem PJ{x pos whole}{Q:Bool->aH->Prop}(h:C5 b M A (isTrue x env (eval x env)) (λ c s'=>Q (!c) s') E s):C5 b M A (isTrue (.UnaryOp .Not x pos) env whole) Q E s:=by
 show C5 b M A (do return !(←isTrue x env (eval x env))) Q E s
 exact B8 h λ c s' h=>A7 h
theorem Kr{e:aE}{whole:Sem aF}{Q:Bool->aH->Prop}(h:C5 b M A whole (λ v s₁=>C5 b M A (truthy v) Q E s₁) E s)(he:isTrue e env whole=(do let v←whole; standAt e.pos; holding [v] (truthy v))):C5 b M A (isTrue e env whole) Q E s:=by
 rw[he]
 exact B8 h λ v s₁ h=>A9 (B0 h)
theorem Nf{l op r pos whole}{Q:Bool->aH->Prop}(h:C5 b M A (eval l env) (λ u s₁=>C5 b M A (eval r env) (λ v s₂=>C5 b M A (compareOp op u v) (λ c s₃=>C5 b M A (truthy c) Q E s₃) E s₂) E s₁) E s)(hm:behindInMarks op r=false):C5 b M A (isTrue (.Compare l [op] [r] pos) env whole) Q E s:=by
 rw[isTrue_Compare1,markedBehindIn_of_false hm]
 exact B8 h λ u s₁ h=>B8 (B0 h) λ v s₂ h=>A9 (B8 (R0 h) λ c s₃ h=>B0 h)
theorem Kt{l op1 op₂ ops r₁ r₂ rs pos whole}{Q:Bool->aH->Prop}(h:C5 b M A (eval l env) (λ a s₁=>C5 b M A (testChain pos a (op1::op₂::ops) (eval r₁ env::eval r₂ env::evalEach rs env)) Q E s₁) E s)
  (hm:lastMarks (op1::op₂::ops) (r₁::r₂::rs)=false):C5 b M A (isTrue (.Compare l (op1::op₂::ops) (r₁::r₂::rs) pos) env whole) Q E s:=by
 show C5 b M A (do testChain pos (←eval l env) (op1::op₂::ops) (markedEach (op1::op₂::ops) (r₁::r₂::rs) (evalEach (r₁::r₂::rs) env))) Q E s
 rw[PyProof.Rows.markedEach_of_false _ _ _ hm]
 exact B5 h
theorem Nj{pos:Pos}{a:aF}{op op':lW}{ops:List lW}{r r':Sem aF}{rs:List (Sem aF)}{Q:Bool->aH->Prop}
  (h:C5 b M A r (λ v s₁=>C5 b M A (compareOp op a v) (λ c s₂=>C5 b M A (truthy c) (λ t s₃=>if t then C5 b M A (testChain pos v (op'::ops) (r'::rs)) Q E s₃ else Q false s₃) E s₂) E s₁) E s):C5 b M A (testChain pos a (op::op'::ops) (r::r'::rs)) Q E s:=by
 show C5 b M A (do
  let rv←holding [a] r
  standAt pos
  let c←holding [a,rv] (compareOp op a rv)
  release [a,rv] [c]
  if←holding [c,rv] (truthy c)then testChain pos rv (op'::ops) (r'::rs)else pure false) Q E s
 refine B8 (B0 h) λ v s₁ h=>A9 (B8 (B0 h) λ c s₂ h=>D7 (PyProof.Rows.wpAny_release' (B8 (B0 h) λ t s₃ h=>?_)))
 induction t with
 | false=>exact A7 h
 | true=>exact h
theorem Nk{pos:Pos}{a:aF}{op:lW}{r:Sem aF}{Q:Bool->aH->Prop}(h:C5 b M A r (λ v s₁=>C5 b M A (compareOp op a v) (λ c s₂=>C5 b M A (truthy c) Q E s₂) E s₁) E s):C5 b M A (testChain pos a [op] [r]) Q E s:=by
 show C5 b M A (do
  let rv←holding [a] r
  standAt pos
  let c←operate [a,rv] (compareOp op a rv)
  holding [c] (truthy c)) Q E s
 exact B8 (B0 h) λ v s₁ h=>A9 (B8 (R0 h) λ c s₂ h=>B0 h)
theorem Nm{st rest}{Q:kA->aH->Prop}(h:C5 b M A (exec st env) (λ f s'=>match f with | .next=>C5 b M A (execs rest env) Q E s' | f=>Q f s') E s):C5 b M A (execs (st::rest) env) Q E s:=by
 rw[execs_cons]
 exact B8 h λ f s' h=>by rcases f<;>first | exact h | exact A7 h
theorem PI{e pos}{Q:kA->aH->Prop}(h:C5 b M A (eval e env) (λ v=>Q (.ret v)) E s):C5 b M A (exec (.Return (some e) pos) env) Q E s:=by
 rw[exec_Return_some]
 exact A9 (B8 h λ v s' h=>A7 h)
theorem PN{x pos' value pos}{Q:kA->aH->Prop}(h:C5 b M A (eval value env) (λ v s₁=>C5 b M A (storeName env x v) (λ V=>Q .next) E s₁) E s)(hs:swapsWith value (some (.Name x pos')) pos.line env=pure false):C5 b M A (exec (.Assign [.Name x pos'] value pos) env) Q E s:=by
 rw[exec_Assign_Name env x pos' value pos hs]
 refine A9 (B8 h λ v s₁ h=>A9 (B8 (R:=λ V=>Q .next) (λ Γ p h1 h2=>?_) λ V V h=>A7 h))
 rw[Sem.wp_bindName]; exact h Γ p h1 h2
theorem No{o attr pos' value pos}{Q:kA->aH->Prop}(h:C5 b M A (eval value env) (λ v s₁=>C5 b M A (eval o env) (λ ov s₂=>C5 b M A (setAttr ov attr v) (λ V=>Q .next) E s₂) E s₁) E s)
  (hs:swapsWith value (some (.Attribute o attr pos')) pos.line env=pure false):C5 b M A (exec (.Assign [.Attribute o attr pos'] value pos) env) Q E s:=λ Γ p h1 h2=>by
 simp only[plainObj_exec_Assign_Attribute o attr pos' value pos hs,assign_Attribute,Sem.wp_bind',Sem.wp_holding,Sem.wp_cmd_standAt,Sem.wp_release,Sem.wp_pure']
 exact fC M Γ _ (λ v p₁ s₁ h₁=>fC M Γ _ (λ ov V s₂ h₃=>h₃ Γ _ h1 h2) (λ V V V h'=>h') _ _ (h₁ Γ p₁ h1 h2)) (λ V V V h'=>h') _ _ (h Γ _ h1 h2)
theorem Nl{prog:bY}{w:bP}{e pos}{Q:kA->aH->Prop}(h:C5 b (model prog w) A (eval e env) (λ V=>Q .next) E s)(hi:interactive env=false)(hs:swapsWith e none pos.line env=pure false):C5 b (model prog w) A (exec (.Expr e pos) env) Q E s:=by
 rw[exec_Expr env e pos hi hs]
 exact A9 (B8 h λ v s' h=>A4 (wpAny_dropValue h))
theorem WA{test body orelse pos}{Q:kA->aH->Prop}(h:C5 b M A (isTrue test env (eval test env)) (λ c s₂=>if c then C5 b M A (execs body env) Q E s₂ else C5 b M A (execs orelse env) Q E s₂) E s):C5 b M A (exec (.If test body orelse pos) env) Q E s:=by
 rw[exec_If]
 refine A9 (B8 h λ c s₂ h=>?_)
 rcases c<;>exact h
theorem Gh{o i pos' value pos}{Q:kA->aH->Prop}(h:C5 b M A (eval value env) (λ v s₁=>C5 b M A (eval o env) (λ ov s₂=>C5 b M A (eval i env) (λ iv s₃=>C5 b M A (setItem ov iv v) (λ V=>Q .next) E s₃) E s₂) E s₁) E s)
  (hs:swapsWith value (some (.Subscript o i pos')) pos.line env=pure false):C5 b M A (exec (.Assign [.Subscript o i pos'] value pos) env) Q E s:=λ Γ p h1 h2=>by
 simp only[exec_Assign_Subscript o i pos' value pos hs,assign_Subscript,Sem.wp_bind',Sem.wp_holding,Sem.wp_cmd_standAt,Sem.wp_release,Sem.wp_pure']
 exact fC M Γ _ (λ v p₁ s₁ h₃=>fC M Γ _ (λ ov p₂ s₂ h₄=>fC M Γ _ (λ iv V s₃ h₅=>h₅ Γ _ h1 h2) (λ V V V h'=>h') _ _ (h₄ Γ p₂ h1 h2)) (λ V V V h'=>h') _ _ (h₃ Γ p₁ h1 h2)) (λ V V V h'=>h') _ _ (h Γ _ h1 h2)
theorem PM{x pos' op value pos}{Q:kA->aH->Prop}(h:C5 b M A (loadName env x) (λ old s₁=>C5 b M A (eval value env) (λ v s₂=>C5 b M A (inplaceOp op old v) (λ r s₃=>C5 b M A (storeName env x r) (λ V=>Q .next) E s₃) E s₂) E s₁) E s):C5 b M A (exec (.AugAssign (.Name x pos') op value pos) env) Q E s:=by
 rw[exec_AugAssign_Name]
 refine A9 (B8 h λ old s₁ h=>B8 (B0 h) λ v s₂ h=>A9 (B8 (R0 h) λ r s₃ h=>A9 (B8 (R:=λ V=>Q .next) (λ Γ p h1 h2=>?_) λ V V h=>A7 h)))
 rw[Sem.wp_bindName]; exact h Γ p h1 h2
theorem Av{c:Code}{Q:kA->aH->Prop}(hc:G2 b M A c (λ r s'=>match r with | .ok f=>Q f s' | .error e=>cameBackBy M A env E e s') s):C5 b M A (runOwn c env) Q E s:=by
 exact M1 (Fh hc)
theorem Kn{test body pos}{Q:kA->aH->Prop}(h:G2 b M A (.whileLoop test body [] env) (λ r s'=>match r with | .ok f=>Q f s' | .error e=>cameBackBy M A env E e s') s):C5 b M A (exec (.While test body [] pos) env) Q E s:=by
 rw[exec_While]
 exact A9 (Av h)
theorem PK{target iter body pos}{Q:kA->aH->Prop}(h:C5 b M A (eval iter env) (λ x s₁=>C5 b M A (pyIter x) (λ it s₂=>G2 b M A (.forLoop target it body [] env) (λ r s'=>match r with | .ok f=>Q f s' | .error e=>cameBackBy M A env E e s') s₂) E s₁) E s)
  (hs:∀ x,foldedSetIterable iter env x=pure x):C5 b M A (exec (.For target iter body [] pos) env) Q E s:=by
 rw[exec_For]
 exact A9 (B8 h λ x s₁ h=>D7 (bH (hs x) (A9 (B8 (B0 h) λ it s₂ h=>Av h))))
theorem Fg{m:Sem α}{Q:α->aH->Prop}(h:C5 b M A m Q (notedBy M A env E) s):C5 b M A (m.onRaise λ x=>do noteFrame x env; theTreesLotGoes x) Q E s:=
 M1 (D6 h (λ V V q=>q) λ V V hx=>aD (fM hx (λ V V e=>wpAny_theTreesLotGoes e) λ V V e=>e))
theorem Ei{t:Sem α}{Q:α->aH->Prop}(hE:lY M A env E)(h:C5 b M A t Q E s):C5 b M A t Q (notedBy M A env (cameBackBy M A env E)) s:=D6 h (λ V V x=>x) λ e s x=>hE e s x
end
section
variable{prog:bY}{w:bP}{A:bS}{s:aH}{b:Prop}{R:eI->aH->Prop}
theorem Mr{test body env}(I:Nat->aH->Prop)
  (turn:∀ n s,I n s->C5 b (model prog w) A (isTrue test env (eval test env)) (λ c s₂=>
    if c then C5 b (model prog w) A (execs body env) (λ f s₃=>match f with
      | .next | .cont=>∃ m,m < n/\I m s₃
      | .brk=>R (.ok .next) s₃
      | .ret v=>R (.ok (.ret v)) s₃) (notedBy (model prog w) A env λ e s'=>R (.error e) s') s₂
    else R (.ok .next) s₂) (notedBy (model prog w) A env λ e s'=>R (.error e) s') s)
  (n:Nat) (h:I n s):G2 b (model prog w) A (.whileLoop test body [] env) R s:=by
 refine l3 rfl rfl I (λ n s hI=>?_) n h
 show C5 b _ A ((whileTurn test body [] env).onRaise (λ x=>do noteFrame x env; theTreesLotGoes x)) _ _ s
 refine Fg ?_
 refine B8 (turn n s hI) λ c s₂ h=>?_
 induction c with
 | false=>
  simp only[gT,if_false]at h ⊢
  exact D7 (lJ (A7 h))
 | true=>
  simp only[if_true]at h ⊢
  refine B8 h λ f s₃ h=>?_
  induction f with
  | next=>exact A7 (.inl ⟨rfl,h⟩)
  | cont=>exact A7 (.inl ⟨rfl,h⟩)
  | brk=>exact A7 h
  | ret v=>exact A7 h
noncomputable def MH(b:Prop)(prog:bY)(w:bP)(A:bS)(env:Env)(target:aE)(it:aF)(go:aH->Prop)(stop:aH->Prop)(E:aF->aH->Prop)(s:aH):Prop:=
 C5 b (model prog w) A (pyNext it) (λ r s₁=>match r with
  | none=>stop s₁
  | some v=>C5 b (model prog w) A (letOwnedTupleGo target it v) (λ V s₂=>C5 b (model prog w) A (assign target env v) (λ V s₃=>go s₃) E s₂) E s₁) E s
theorem VR{target it body env}(I:Nat->aH->Prop)
  (turn:∀ n s,I n s->MH b prog w A env target it (λ s₂=>C5 b (model prog w) A (execs body env) (λ f s₃=>match f with
     | .next | .cont=>∃ m,m < n/\I m s₃
     | .brk=>R (.ok .next) s₃
     | .ret v=>R (.ok (.ret v)) s₃) (notedBy (model prog w) A env λ e s'=>R (.error e) s') s₂) (R (.ok .next)) (notedBy (model prog w) A env λ e s'=>R (.error e) s') s)
  (n:Nat) (h:I n s):G2 b (model prog w) A (.forLoop target it body [] env) R s:=by
 refine l3 rfl rfl I (λ n s hI=>?_) n h
 show C5 b _ _ ((forTurn target it body [] env).onRaise (λ x=>do noteFrame x env; theTreesLotGoes x)) _ _ s
 refine Fg ?_
 refine A9 (B8 (R:=λ r s₁=>match r with
  | none=>R (.ok .next) s₁
  | some v=>C5 b (model prog w) A (letOwnedTupleGo target it v) (λ V s₂=>C5 b (model prog w) A (assign target env v) (λ V s₃=>_) _ s₂) _ s₁) (M1 (D6 (turn n s hI) (λ V V x=>x) λ e s x=>kI x)) λ r s₁ h=>?_)
 induction r with
 | none=>exact A7 (.inr ⟨rfl,Bn (codeAny_block (lJ h))⟩)
 | some v=>
  refine B8 h λ V s₂ h=>B8 h λ V s₃ h=>B8 h λ f s₄ h=>?_
  induction f with
  | next=>exact A7 (.inl ⟨rfl,h⟩)
  | cont=>exact A7 (.inl ⟨rfl,h⟩)
  | brk=>exact A7 h
  | ret v=>exact A7 h
end
end
section
noncomputable def Kg(b:Prop)(M:jP)(A:bS)(E:aF->aH->Prop)(use:Option (aF->Sem Unit))(Q:aF->aH->Prop)(acc:aF)(C:aJ)(r:eI)(s':aH):Prop:=
 match r,use with
 | .ok _,none=>∃ m,s'.heap.Ns C m/\∀ h',eF C s'.heap h'->Q acc {s' with heap:=h'}
 | .ok _,some u=>C5 b M A (u acc) (λ V s''=>∃ m,s''.heap.Ns C m/\∀ h',eF C s''.heap h'->Q .none {s'' with heap:=h'}) E s'
 | .error _,_=>False
section
variable{M:jP}{A:bS}{E:aF->aH->Prop}{s:aH}{env:Env}{b:Prop}
theorem HB{e:aE}{scope:cB}{pos:Pos}{newAcc first:Sem aF}{g:cI}{gs:List cI}{cl:List (Str×aJ)}{use:Option (aF->Sem Unit)}{Q:aF->aH->Prop}
  (hcl:clausesOf e=g::gs) (hs:∀ x,foldedSetIterable g.iter env x=pure x) (hclos:closureFor scope env=pure cl) (hkind:scope.kind= .function) (hnames:∀ x∈scope.names,x.2= .local->scope.names.lookup x.1=some .local)
  (h:C5 b M A first (λ x s₁=>C5 b M A (pyIter x) (λ it s₂=>C5 b M A newAcc (λ acc s₃=>C5 b M A (newFunctionEnv scope env.globals cl [] env.qual none .none (some env)) (λ cenv s₄=>
    G2 b M A (.compStart e 0 it acc {cenv with scope:=relabel scope env}) (Kg b M A E use Q acc cenv.locals) s₄) E s₃) E s₂) E s₁) E s):
  C5 b M A (comprehension e scope env pos newAcc false first use) Q E s:=by
 unfold comprehension
 rw[hclos,hcl]
 refine B8 h λ x s₁ h=>A9 (D7 (bH (hs x) (B8 (B0 h) λ it s₂ h=>?_)))
 have stand:∀ {α:Type} {c:Prop} [Decidable c] {pos:Pos} {k:PUnit->Sem α} {Q:α->aH->Prop} {s:aH},C5 b M A (k ()) Q E s->C5 b M A (if c then(standAt pos >>=k)else k ()) Q E s:=λ h=>by
  split
  ·exact A9 h
  ·exact h
 refine stand (B8 h λ acc s₃ h=>B5 (A7 (B8 h λ cenv s₄ h₄=>?_)))
 dsimp only
 have hv:∀ x∈(scope.names.filter λ x=>(x.2== .local || x.2== .cell) && x.1 != (".0":Str)).reverse,x.2= .local->
   kJ {cenv with scope:=relabel scope env} x.1=some .local:=λ x hx hl=>lookup_relabel_local (hnames x (List.mem_filter.mp (List.mem_reverse.mp hx)).1 hl)
 have hv':∀ x∈(scope.names.filter λ x=>(x.2== .local || x.2== .cell) && x.1 != (".0":Str)).reverse.drop 1++(scope.names.filter λ x=>(x.2== .local || x.2== .cell) && x.1 != (".0":Str)).reverse.take 1,
   x.2= .local->kJ {cenv with scope:=relabel scope env} x.1=some .local:=λ x hx hl=>by
  rcases cM.mp hx with h1 | h1
  ·exact hv x (fA h1) hl
  ·exact hv x (eZ h1) hl
 refine B0 (B5 (y5 (B0 (Fh (U2 h₄ λ r s' hr=>?_)))))
 cases r with
 | ok f=>
  cases use with
  | none=>
   obtain⟨m,hn,hr⟩:=hr
   exact D7 (eP (wpAny_comp_letGo (cenv:={cenv with scope:=relabel scope env}) hkind _ s' m hv hn λ h' m' V hs'=>A7 (hr h' hs')))
  | some u=>
   refine D7 (fL (B8 (B0 hr) λ V s'' hr'=>?_))
   obtain⟨m,hn,hr'⟩:=hr'
   exact D7 (wpAny_comp_letGo (cenv:={cenv with scope:=relabel scope env}) hkind _ s'' m hv' hn λ h' m' V hs'=>A7 (hr' h' hs'))
 | error x=>cases use<;>exact hr.elim
end
noncomputable def Da(ifs:List aE)(env:Env):Sem Bool:=forIn ifs true λ c r=>if r=true then do let ok←isTrue c env (eval c env); pure (ForInStep.yield ok)else pure (ForInStep.yield r)
noncomputable def Bh(e:aE)(gens:List cI)(depth:Nat)(elt:aE)(acc:aF)(env:Env):Sem Unit:=match gens[depth+1]? with
 | none=>do let x←eval elt env; let _←call (.builtin "list.append") [acc,x]; pure ()
 | some g'=>do
  let x←eval g'.iter env
  standAt g'.iter.pos
  let x←foldedSetIterable g'.iter env x
  let i←holding [x] (pyIter x)
  let _←runOwn (.compStart e (depth+1) i acc env) env
  pure ()
theorem DQ{elt:aE}{gens:List cI}{scope:cB}{pos:Pos}{depth:Nat}{it acc:aF}{env:Env}{g:cI}(hg:gens[depth]? =some g)(ha:g.is_async=0)(hn:∀ g',gens[depth+1]? =some g'->g'.is_async=0):
  compTurn (.ListComp elt gens scope pos) depth it acc env=(do
   standAt g.iter.pos
   match←pyNext it with
   | none=>pure (.done .next)
   | some v=>
    letOwnedTupleGo g.target it v
    assign g.target env v
    let ok←Da g.ifs env
    if ok=true then do
     let _←Bh (.ListComp elt gens scope pos) gens depth elt acc env
     again (.compLoop (.ListComp elt gens scope pos) depth it acc env)
    else again (.compLoop (.ListComp elt gens scope pos) depth it acc env)):=by
 unfold compTurn Bh
 cases hl:gens[depth+1]? with
 | none=>simp only[hg,hl,ha]; rfl
 | some g'=>simp only[hg,hl,ha,hn g' hl,bind_assoc]; rfl
section
variable{prog:bY}{w:bP}{A:bS}{s:aH}{b:Prop}{R:eI->aH->Prop}{elt:aE}{gens:List cI}{scope:cB}{pos:Pos}{depth:Nat}{it acc:aF}{env:Env}{g g':cI}
theorem Ms(hg:gens[depth]? =some g)(ha:g.is_async=0)(h0:G2 b (model prog w) A (.compLoop (.ListComp elt gens scope pos) depth it acc env) R s)
  (h:wpAny (model prog w) A (pyIter it) (λ it' s'=>G2 b (model prog w) A (.compLoop (.ListComp elt gens scope pos) depth it' acc env) R s') (λ V V=>False) s):
  G2 b (model prog w) A (.compStart (.ListComp elt gens scope pos) depth it acc env) R s:=by
 refine L4 rfl ?_
 show C5 b _ _ ((compStart (.ListComp elt gens scope pos) depth it acc env).onRaise (λ x=>do noteFrame x env; standAt theWindowsPlace)) _ _ s
 refine M1 (D6 (E:=λ V V=>False) ?_ (λ V V x=>x) λ V V x=>x.elim)
 unfold compStart
 have e:(clausesOf (.ListComp elt gens scope pos))=gens:=rfl
 simp only[e,hg,Option.elim_some,ha,bne_self_eq_false,gT,if_false]
 refine D7 (wpAny_askSetting ?_)
 split
 ·exact A7 (kG rfl h0)
 ·refine D7 (fL (A9 (D7 (fM h (λ it' s' h'=>A7 (kG rfl h')) λ V V x=>x))))
theorem OL(hg:gens[depth]? =some g)(ha:g.is_async=0)(hn:∀ g',gens[depth+1]? =some g'->g'.is_async=0)(I:Nat->aH->Prop)
  (turn:∀ n s,I n s->MH b prog w A env g.target it (λ s₂=>C5 b (model prog w) A (Da g.ifs env) (λ ok s₃=>
    if ok=true then C5 b (model prog w) A (Bh (.ListComp elt gens scope pos) gens depth elt acc env) (λ V s₅=>∃ m,m < n/\I m s₅) (λ V V=>False) s₃
    else ∃ m,m < n/\I m s₃) (λ V V=>False) s₂) (R (.ok .next)) (λ V V=>False) s)
  (n:Nat) (h:I n s):G2 b (model prog w) A (.compLoop (.ListComp elt gens scope pos) depth it acc env) R s:=by
 refine l3 rfl rfl I (λ n s hI=>?_) n h
 show C5 b _ A ((compTurn (.ListComp elt gens scope pos) depth it acc env).onRaise (λ x=>do noteFrame x env; theTreesLotGoes x)) _ _ s
 refine M1 (D6 (E:=λ V V=>False) ?_ (λ V V x=>x) λ V V x=>x.elim)
 rw[DQ hg ha hn]
 refine A9 (B8 (turn n s hI) λ r s₁ h=>?_)
 rcases r with _ | v
 ·exact A7 h
 ·refine B8 h λ V s₂ h=>B8 h λ V s₃ h=>B8 h λ ok s₄ h=>?_
  rcases ok with _ | _
  ·exact A7 (.inl ⟨rfl,h⟩)
  ·exact B8 h λ V s₅ h=>A7 (.inl ⟨rfl,h⟩)
end
end
section
section
variable{prog:bY}{w:bP}{A:bS}{E:aF->aH->Prop}{s:aH}{b:Array UInt8}{t:Tok}
theorem JL:typeLookup (.type "bytes") "__bytes__"=pure (some (.builtin "bytes.__bytes__")):=by rw[cQ,bV]; kernel_rfl
theorem OO{Q:aF->aH->Prop}(hQ:Q (.bytes b t) s):
  codeAny (model prog w) A (.call (.builtin "bytes.__new__") ⟨[.type "bytes",.bytes b t],[]⟩) (wants Q E) s:=by
 refine jI ?_
 show wpAny _ A.in1 (do checkBuiltinCall "bytes.__new__" ⟨[.type "bytes",.bytes b t],[]⟩; again (.builtin "bytes.__new__" ⟨[.type "bytes",.bytes b t],[]⟩)) _ _ s
 refine aD (bH (F.bm_newCall _) (aO ⟨fX F.bm_plain _,jJ F.bm_entry ?_⟩))
 rw[dW F.bm_plain _]
 refine aD (bH (a:=true) rfl ?_)
 refine gI rfl ?_
 refine aD (bH F.bm_sub ?_)
 refine gI rfl ?_
 refine aD (bH (F.bm_bind _) ?_)
 refine aD (bH (a:=()) rfl ?_)
 refine aD (bH (a:=()) rfl ?_)
 refine gI rfl ?_
 refine aD (bZ (T:="bytes") (v:= .bytes b t) rfl JL ?_)
 show wpAny _ _ (rule "bytes.__new__.of-bytes" >>=_) _ _ _
 refine aD (fL ?_)
 refine aD (gM (T:="bytes") (v:= .bytes b t) rfl ?_)
 refine bm_if_true (by decide) ?_
 exact aO hQ
theorem y1{Q:aF->aH->Prop}(hQ:Q (.bytes b t) s):wpAny (model prog w) A (call (.type "bytes") [.bytes b t]) Q E s:=by
 refine lV (Q₁:=λ obj s₁=>s₁.TypeIs obj "bytes"/\Q obj s₁) F.bm_called (F.bm_typeCall _) F.entry_object_init
  (OO ⟨cO _ _ _,hQ⟩) λ obj s₁ h₁=>?_
 exact⟨h₁.1,lO obj _,object_init_meets F.bm_called.init.lookup F.bm_called.made (by decide) prog w A.in1 _ s₁ ⟨h₁.1,rfl,h₁.2⟩⟩
end
end
section
noncomputable def Lv(M:jP)(A:bS)(env:Env)(R:eI->aH->Prop):aF->aH->Prop:=λ e s'=>wpAny M (A.deeper env) (leaving env e) (λ V s''=>R (.error e) s'') (λ e' s''=>R (.error e') s'') s'
section
variable{prog:bY}{w:bP}{A:bS}{s:aH}{b:Prop}{R:eI->aH->Prop}
theorem EU{body env}(h:C5 b (model prog w) (A.deeper env) (execs body env) (λ f s'=>R (.ok (.ret (match f with | .ret v=>v | _=> .none))) s') (Lv (model prog w) A env R) s):G2 b (model prog w) A (.func body env) R s:=by
 refine L4 rfl ?_
 show C5 b _ (A.deeper env) (do point; match←(execs body env).onRaise (leaving env)with | .ret v=>ret v | _=>ret .none) _ _ s
 exact D7 (wpAny_point (B8 (M1 h) λ f s' h=>by rcases f<;>exact A7 h))
noncomputable def JO:FuncBody->Env->Code
 | .stmts b,env=> .func b env
 | .expr e,env=> .expr e env
theorem S5{a:aJ}{args:Args}{o:Obj}{fd:FuncData}(hroom:A.depth < recursionLimit)(ho:s.heap.get? a=some o)
  (hd':o.data= .func fd) (hco:fd.scope.isCoroutine=false) (hgen:fd.scope.isGenerator=false) (hcd:s.heap.CodeRec fd.code fd.qualname)
  (h:wpAny (model prog w) A.in1 (bindArgs fd args) (λ binds s₁=>
   wpAny (model prog w) A.in1 (newFunctionEnv fd.scope fd.globals fd.closure binds (fd.qualname++".<locals>.") (some a) fd.code none fd.builtins)
    (λ env s₂=>s₂.heap.NoLimit/\G2 b (model prog w) A (JO fd.body env) R s₂) (λ V V=>False) s₁) (λ V V=>False) s):
  G2 b (model prog w) A (.call (.ref a) args) R s:=by
 refine L4 rfl (D6 (E:=λ V V=>False) (A4 ?_) (λ V V x=>x) λ V V x=>x.elim)
 show wpAny _ A.in1 (callAny (.ref a) args) _ _ s
 refine aD (gH ho ?_)
 obtain⟨c,oc,vs,tq,hc,hoc,hdc,hq⟩:=hcd
 simp only[hd',callFunction,hco,hgen,hc]
 rw[hc]at h
 refine aD (m:=field (.ref c) 1) (dA hoc hdc hq (aD (aO ?_)))
 refine aD (fM h (λ binds s₁ h₁=>aD (fM h₁ (λ env s₂ h₂=>aD (wpAny_enterFrame h₂.1 hroom ?_)) λ V V h'=>h')) λ V V h'=>h')
 have h3:=h₂.2
 revert h3
 generalize fd.body=bd
 intro h3
 rcases bd<;>exact aO (kG rfl h3)
end
section
variable{w:bP}{K:Frag}{p:bY}{loose:List Str}{mean:ExcName->Option aF}{mg mb:Ev}
theorem Mj{A:bS}{s:aH}{b₀:bF}{prog:bY}{b:Prop}
  {led:L5} {f:aJ} {vals:List aF} {R:eI->aH->Prop} {name qual:Str} {params:dP} {body:List dY} {scope:cB} {dV kV doc pm cdv ct oc:aF} {an od:Option aJ} {osl:Array (Option aF)} {d:Nat} (binds:List (Str×aF))
  (hb:∀ b o,b₀.get? b=some o->s.heap.get? b=some o) (X:K.In b₀) (T:Top p loose mean mg mb b₀) (hl:∀ q∈led,s.heap.get? q.1=some q.2/\b₀.get? q.1=none)
  (hroom:U6 A (d+1))
  (ho:K.lookup f=some ⟨oc,od,.func (fnOf name qual params body scope dV kV doc pm an cdv ct),osl⟩) (hcd:codeIn K cdv qual=true)
  (hbind:iT s (fnOf name qual params body scope dV kV doc pm an cdv ct) ⟨vals,[]⟩ binds) (hkind:(binds.all λ y=>scope.names.lookup y.1== some .local || scope.names.lookup y.1== some .cell)=true)
  (hnd:((cellsFrom 0 scope.names []).map (·.1)).Nodup)
  (h:∀ g L' h₁ tk cells,Fr g L' h₁ (bindL (envOfC qual scope L' f cdv).kindOf binds λ V=>none)->fQ g L' h₁ (cells++led)->
   CellsAre (bindC (envOfC qual scope L' f cdv).kindOf binds λ V=>none) (cellsFrom (L'+1) scope.names []) cells->K.In g->Top p loose mean mg mb g->
   (∀ b o,s.heap.get? b=some o->b∉led.map (·.1)->g.get? b=some o)->U6 (A.deeper (envOfC qual scope L' f cdv)) d->(∀ q∈led,q.1 < L')->(∀ n c,(n,c)∈cellsFrom (L'+1) scope.names []->L' < c)->
   C5 b (model prog w) (A.deeper (envOfC qual scope L' f cdv)) (execs body (envOfC qual scope L' f cdv))
    (λ fl s'=>R (.ok (.ret (match fl with | .ret v=>v | _=> .none))) s') (Lv (model prog w) A (envOfC qual scope L' f cdv) R)
    {s with heap:=h₁,toks:=tk})
  (hco:scope.isCoroutine=false) (hgen:scope.isGenerator=false) (hk:scope.kind= .function)
  :G2 b (model prog w) A (.call (.ref f) ⟨vals,[]⟩) R s:=by
 have st:∀ b o,b₀.get? b=some o->(hideAll s.heap (led.map (·.1))).get? b=some o:=λ b o e=>iW _ (hb b o e) λ q=>j7 q λ p hp q=>nn ((hl p hp).2.symm.trans ((congrArg b₀.get? q).trans e))
 refine S5 (fd:=fnOf name qual params body scope dV kV doc pm an cdv ct) hroom.lt (hb _ _ (X _ _ ho)) rfl hco hgen (codeRec_of (X.keeps hb) hcd) (hbind _ _ _ _ ?_)
 refine wpAny_newFunctionEnv_cells hk (kindsX hkind _) λ env' he s' x=>?_
 subst he
 refine⟨(T.nolimit.keeps hb).keeps x.toInCall.keep,EU ?_⟩
 obtain⟨h₁,tk,rfl,_⟩:=x.done
 have hk₁:=x.toInCall.keep
 obtain⟨cells,NC,Y⟩:=Cl.news (h₀:=s.heap) (aR _) λ n c hm=>⟨x.cell n c (lookup_of_mem_nodup (cellsFrom_names scope.names 0 (s.heap.objs.size+1) [] [] rfl▸hnd) hm),x.above n c hm⟩
 refine D6 (h (hideAll s.heap (led.map (·.1))) s.heap.objs.size h₁ tk cells ⟨x.toInCall.ns,λ b o e=>hk₁ b o (of_hideAll _ e),dZ (hideAll_size _ _)⟩ (λ q hq=>?_) Y (X.keeps st) (T.keeps st) (λ b o e n=>iW _ e n) hroom.deeper
  (λ q hq=>bM (hl q hq).1) x.above) (λ V V x=>x) λ V V x=>x
 refine CQ hq (λ hq=>⟨(NC q hq).1,(NC q hq).2.1,?_⟩) λ hq=>⟨hk₁ _ _ (hl q hq).1,bQ (bM (hl q hq).1),jS _ (aY hq)⟩
 cases e:(hideAll s.heap (led.map (·.1))).get? q.1 with
 | none=>rfl
 | some o=>exact nn ((NC q hq).2.2.symm.trans (of_hideAll _ e))
end
end
section
set_option backward.match.sparseCases false
set_option genCtorIdx true in
inductive AV where
 | none
 | bool (b:Bool)
 | int (i:Int)
 | str (x:Str)
 | bytes (ns:List Int)
 | ref (a:aJ)
 | fn (v:aF)
noncomputable def Rl:AV->aF->Prop
 | .none,v=>v= .none
 | .bool b,v=>v= .bool b
 | .int i,v=>∃ t,v= .int i t
 | .str x,v=>∃ t,v= .str x t
 | .bytes ns,v=>∃ b t,v= .bytes b t/\cN b=ns
 | .ref a,v=>v= .ref a
 | .fn x,v=>v=x
noncomputable def Q1:List AV->List aF->Prop
 | [],[]=>True
 | a::r,v::s=>Rl a v/\Q1 r s
 | _,_=>False
set_option genCtorIdx true in
inductive AO where
 | ints (ns:List Int)
 | list (vs:List AV)
 | tup (vs:List AV)
 | inst (C d:aJ)
 | dict (es:List (Str×AV))
 | barr (ns:List Int)
 | cell (v:Option AV)
 | range (a b s:Int)
 | sd (es:List (Str×AV))
 | kd (es:List (Int×AV))
 | raw (o:Obj)
noncomputable def l4(P:dB):List (Str×AV)->List dO->Prop
 | [],[]=>True
 | p::r,e::s=>(∃ t v,e=⟨cH P p.1,.str p.1 t,v⟩/\Rl p.2 v)/\l4 P r s
 | _,_=>False
noncomputable def X4{κ:Type}:List (κ×AV)->List (κ×aF)->Prop
 | [],[]=>True
 | p::r,q::s=>p.1=q.1/\Rl p.2 q.2/\X4 r s
 | _,_=>False
noncomputable abbrev Hp:List (Str×AV)->List (Str×aF)->Prop:=X4
theorem X4.c{κ:Type}{C:List (κ×aF)->Prop}{p:κ×AV}{r:List (κ×AV)}{kvs:List (κ×aF)}(h:X4 (p::r) kvs)(q:∀ v s,Rl p.2 v->X4 r s->C ((p.1,v)::s)):C kvs:=by
 rcases kvs with _ | ⟨⟨x,v⟩,s⟩
 ·exact h.elim
 ·exact(show p.1=x from h.1)▸q v s h.2.1 h.2.2
theorem X4.n{κ:Type}{C:List (κ×aF)->Prop}{kvs:List (κ×aF)}(h:X4 [] kvs)(q:C []):C kvs:=by
 rcases kvs with _ | ⟨_,_⟩
 ·exact q
 ·exact h.elim
theorem X4.keys{κ:Type}{es:List (κ×AV)}:∀ {kvs:List (κ×aF)},X4 es kvs->kvs.map (·.1)=es.map (·.1):=by
 induction es with
 | nil=>exact λ h=>X4.n (C:=λ kvs=>kvs.map (·.1)=[]) h rfl
 | cons p r ih=>exact λ h=>X4.c (C:=λ kvs=>kvs.map (·.1)=p.1::r.map (·.1)) h λ V V V h2=>congrArg (List.cons p.1) (ih h2)
noncomputable def L9(w:bP):AO->Obj->Prop
 | .ints ns,o=>∃ vs n,o=listOf vs.toArray n/\cE vs ns
 | .list as,o=>∃ vs n,o=listOf vs.toArray n/\Q1 as vs
 | .tup as,o=>∃ vs,o={cls:= .type "tuple",data:= .seq vs.toArray}/\Q1 as vs
 | .inst C d,o=>o=instObj C d
 | .dict es,o=>∃ ds n,o=dictOf ds n/\l4 w.params es ds
 | .barr ns,o=>∃ c,o={cls:= .type "bytearray",data:= .bytearray c}/\cN c=ns
 | .cell (some a),o=>∃ v,o.data= .cell (some v)/\Rl a v
 | .cell none,o=>o.data= .cell none
 | .sd es,o=>∃ kvs,o.IsDictOf (lL PG w) kvs/\X4 es kvs
 | .kd es,o=>∃ kvs,o.IsDictOf (PySem.intKind PG w) kvs/\X4 es kvs
 | .range a b s,o=>∃ t u v,o={cls:= .type "range",data:= .fields #[.int a t,.int b u,.int s v]}
 | .raw x,o=>o=x
noncomputable abbrev Lm:=List (Str×AV)
noncomputable abbrev La:=List (aJ×AO)
noncomputable def lk(x:Str):Lm->Option AV
 | []=>none
 | p::r=>if x=p.1 then some p.2 else lk x r
noncomputable def G3(x:Str)(v:AV):Lm->Lm
 | []=>[(x,v)]
 | p::r=>if x=p.1 then(x,v)::r else p::G3 x v r
theorem BX{x:Str}{p:Str×AV}{r:Lm}(h:x=p.1):lk x (p::r)=some p.2:=if_pos h
theorem y9{x:Str}{p:Str×AV}{r:Lm}(h:¬ x=p.1):lk x (p::r)=lk x r:=if_neg h
theorem q7{x y:Str}{v:AV}{m:Lm}:lk y (G3 x v m)=if y=x then some v else lk y m:=by
 induction m with
 | nil=>rfl
 | cons p r ih=>
  by_cases h:x=p.1
  ·exact(congrArg (lk y) (if_pos h:G3 x v (p::r)=(x,v)::r)).trans (by
    by_cases hy:y=x
    ·exact(BX hy).trans (if_pos hy).symm
    ·exact(y9 hy).trans ((if_neg hy).trans (y9 λ e=>hy (e.trans h.symm))).symm)
  ·exact(congrArg (lk y) (if_neg h:G3 x v (p::r)=p::G3 x v r)).trans (by
    by_cases hp:y=p.1
    ·exact(BX hp).trans ((if_neg λ e=>h (e.symm.trans hp)).trans (BX hp)).symm
    ·exact(y9 hp).trans (ih.trans (congrArg (λ o=>if y=x then some v else o) (y9 hp).symm)))
structure Cx where
 w:bP
 A:bS
 g:bF
 env:Env
 s:aH
 E:aF->aH->Prop
 b:Prop
noncomputable def Kf(m:Lm)(mm:Ev):Prop:=∀ x v,lk x m=some v->∃ u,mm x=some u/\Rl v u
noncomputable def CV(c:Cx)(h:bF)(p:aJ×AO):Prop:=∃ o,L9 c.w p.2 o/\h.get? p.1=some o/\p.1≠c.env.locals/\c.g.get? p.1=none
structure B6(c:Cx)(m:Lm)(led:La)(h:bF):Prop where
 fr:∃ mm:Ev,Fr c.g c.env.locals h mm/\Kf m mm
 nw:∀ p∈led,CV c h p
 nd:(led.map (·.1)).Nodup
 fk:c.env.scope.kind= .function
 lc:∀ x v,lk x m=some v->c.env.kindOf x=some .local/\(x== ("__debug__":Str))=false
section
variable{c:Cx}{m:Lm}{led:La}{h h':bF}{G:Prop}
theorem Kf.at{mm:Ev}{x:Str}{v:AV}(hm:Kf m mm)(e:lk x m=some v)(q:∀ {u},mm x=some u->Rl v u->G):G:=(hm x v e).elim λ V z=>q z.1 z.2
theorem B6.frE(r:B6 c m led h)(q:∀ {mm:Ev},Fr c.g c.env.locals h mm->Kf m mm->G):G:=r.fr.elim λ V z=>q z.1 z.2
theorem B6.at(r:B6 c m led h){p:aJ×AO}(hp:p∈led)(q:∀ {o},L9 c.w p.2 o->h.get? p.1=some o->p.1≠c.env.locals->c.g.get? p.1=none->G):G:=(r.nw p hp).elim λ V z=>q z.1 z.2.1 z.2.2.1 z.2.2.2
end
noncomputable abbrev Cx.at(c:Cx)(h:bF)(tk:Nat):aH:={c.s with heap:=h,toks:=tk}
noncomputable def E2{α:Type}(c:Cx)(m:Lm)(k:α->La->Prop)(v:α)(s':aH):Prop:=∃ h' tk' led',s'=c.at h' tk'/\B6 c m led' h'/\k v led'
noncomputable def Pr{α:Type}(c:Cx)(t:Sem α)(m:Lm)(led:La)(k:α->La->Prop):Prop:=
 ∀ h tk,B6 c m led h->C5 c.b (model PG c.w) c.A t (E2 c m k) c.E (c.at h tk)
noncomputable def K5(c:Cx)(t:Sem aF)(m:Lm)(led:La)(k:AV->La->Prop):Prop:=Pr c t m led λ v led'=>∃ a,Rl a v/\k a led'
noncomputable def V9(c:Cx)(m:Lm)(k:AV->La->Prop):aF->aH->Prop:=E2 c m λ v led'=>∃ a,Rl a v/\k a led'
noncomputable def Op(c:Cx)(f:List aF->Sem aF)(as:List AV)(m:Lm)(led:La)(k:AV->La->Prop):Prop:=∀ vs,Q1 as vs->K5 c (f vs) m led k
noncomputable def XV(c:Cx)(f:List aF->Sem Bool)(as:List AV)(m:Lm)(led:La)(k:Bool->La->Prop):Prop:=∀ vs,Q1 as vs->Pr c (f vs) m led k
noncomputable def MJ(c:Cx)(f:List aF->Sem Unit)(as:List AV)(m:Lm)(led:La)(k:La->Prop):Prop:=∀ vs,Q1 as vs->Pr c (f vs) m led λ V led'=>k led'
noncomputable def Y3(c:Cx)(e:aE)(m:Lm)(led:La)(k:AV->La->Prop):Prop:=K5 c (eval e c.env) m led k
noncomputable def Wt(c:Cx)(e:aE)(m:Lm)(led:La)(k:Bool->La->Prop):Prop:=Pr c (isTrue e c.env (eval e c.env)) m led k
noncomputable def Hw(c:Cx)(name:Str)(v:AV)(m:Lm)(led:La)(k:AV->List AV->La->Prop):Prop:=
 ∀ u,Rl v u->∀ pl:Sem Bool,Pr c (getMethod u name pl) m led λ fx led'=>∃ f as,Rl f fx.1/\Q1 as fx.2/\k f as led'
noncomputable def Kp(c:Cx)(f:AV)(m:Lm)(led:La):Prop:=∀ u,Rl f u->∀ h,B6 c m led h->∃ k,(k=kE∨k=iS∨k=gW)/\kR (model PG c.w) h (keeperOf u) k
noncomputable def C9(c:Cx)(f:AV)(as:List AV)(m:Lm)(led:La)(k:AV->La->Prop):Prop:=
 Kp c f m led/\∀ u,Rl f u->Op c (λ vs=>call u vs) as m led k
noncomputable def Fd(c:Cx)(value slice:aE)(o l u:AV)(m:Lm)(led:La)(k:AV->La->Prop):Prop:=
 ∀ ov lv uv,Rl o ov->Rl l lv->Rl u uv->∀ h tk,B6 c m led h->
  C5 c.b (model PG c.w) c.A (subscriptTail value slice ov (.ref h.objs.size)) (E2 c m λ v led'=>∃ a,Rl a v/\k a led') c.E (c.at (h.push {cls:= .type "slice",data:= .fields #[lv,uv,.none]}) tk)
noncomputable def Pq(c:Cx)(value slice:aE)(o x:AV)(m:Lm)(led:La)(k:AV->La->Prop):Prop:=
 ∀ ov xv,Rl o ov->Rl x xv->∀ h tk,B6 c m led h->
  C5 c.b (model PG c.w) c.A (subscriptTail value slice ov (.ref h.objs.size)) (E2 c m λ v led'=>∃ a,Rl a v/\k a led') c.E (c.at (h.push {cls:= .type "slice",data:= .fields #[.none,.none,xv]}) tk)
noncomputable def Br(b:Bool)(P Q:Prop):Prop:=(b=true->P)/\(b=false->Q)
set_option genCtorIdx true in
inductive Fl where
 | next | brk | cont
 | ret (v:AV)
noncomputable def Wb:Fl->kA->Prop
 | .next,f=>f= .next
 | .brk,f=>f= .brk
 | .cont,f=>f= .cont
 | .ret v,f=>∃ u,f= .ret u/\Rl v u
noncomputable def H1(c:Cx)(k:Fl->Lm->La->Prop)(f:kA)(s':aH):Prop:=∃ h' tk' m' led' fl,s'=c.at h' tk'/\B6 c m' led' h'/\Wb fl f/\k fl m' led'
noncomputable def Ed(c:Cx)(t:Sem kA)(m:Lm)(led:La)(k:Fl->Lm->La->Prop):Prop:=
 ∀ h tk,B6 c m led h->C5 c.b (model PG c.w) c.A t (H1 c k) c.E (c.at h tk)
noncomputable def Ac(c:Cx)(st:dY)(m:Lm)(led:La)(k:Fl->Lm->La->Prop):Prop:=Ed c (exec st c.env) m led k
noncomputable def I7(c:Cx)(x:Str):Prop:=c.env.kindOf x=some .local/\(x== ("__debug__":Str))=false
section
variable(c:Cx)(m:Lm)
noncomputable def VI(x y:Int):kT->Option Int
 | .Add=>some (x+y)
 | .Sub=>some (x - y)
 | _=>none
noncomputable def VZ(op:kT):AV->AV->Option Int
 | .int x,.int y=>VI x y op
 | _,_=>none
noncomputable def PQ(op:kT)(a b:AV)(led:La)(k:AV->La->Prop):Prop:=match VZ op a b with
 | some v=>k (.int v) led
 | none=>Op c (λ vs=>binaryOp op (vs.getD 0 .none) (vs.getD 1 .none)) [a,b] m led k
noncomputable def PP(a:AV)(led:La)(k:AV->La->Prop):Prop:=match a with
 | .int i=>k (.int (-i)) led
 | a=>Op c (λ vs=>unaryOp .USub (vs.getD 0 .none)) [a] m led k
noncomputable def Xv(x y:Int):lW->Option Bool
 | .Eq=>some (x== y)
 | .NotEq=>some (x != y)
 | .Lt=>some (decide (x < y))
 | .LtE=>some (decide (x<=y))
 | .Gt=>some (decide (x > y))
 | .GtE=>some (decide (x≥y))
 | _=>none
noncomputable def VY(op:lW):AV->AV->Option Bool
 | .int x,.int y=>Xv x y op
 | _,_=>none
noncomputable def Nq(op:lW)(a b:AV)(led:La)(k:AV->La->Prop):Prop:=match VY op a b with
 | some v=>k (.bool v) led
 | none=>Op c (λ vs=>compareOp op (vs.getD 0 .none) (vs.getD 1 .none)) [a,b] m led k
noncomputable def WB(v:AV)(led:La)(k:Bool->La->Prop):Prop:=match v with
 | .bool b=>k b led
 | .none=>k false led
 | v=>XV c (λ vs=>truthy (vs.getD 0 .none)) [v] m led k
noncomputable def Zm(v:AV)(k:List AV->La->Prop):List AV->La->Prop:=λ vs led=>k (v::vs) led
noncomputable def kL(vl:La->(List AV->La->Prop)->Prop)(k:List AV->La->Prop):AV->La->Prop:=λ v led=>vl led (Zm v k)
noncomputable def vL(ev:aE->La->(AV->La->Prop)->Prop):List aE->La->(List AV->La->Prop)->Prop
 | [],led,k=>k [] led
 | e::r,led,k=>ev e led (kL (vL ev r) k)
noncomputable def Xu(va:La->(Bool->La->Prop)->Prop)(k:Bool->La->Prop):Bool->La->Prop:=λ b led=>Br b (va led k) (k false led)
noncomputable def Zl(va:La->(Bool->La->Prop)->Prop)(k:Bool->La->Prop):Bool->La->Prop:=λ b led=>Br b (k true led) (va led k)
noncomputable def Nr(ev:aE->La->(Bool->La->Prop)->Prop):List aE->La->(Bool->La->Prop)->Prop
 | [],led,k=>k true led
 | e::r,led,k=>ev e led (Xu (Nr ev r) k)
noncomputable def WC(ev:aE->La->(Bool->La->Prop)->Prop):List aE->La->(Bool->La->Prop)->Prop
 | [],led,k=>k false led
 | e::r,led,k=>ev e led (Zl (WC ev r) k)
noncomputable def W7:aE->Bool
 | .Starred .. =>false
 | _=>true
noncomputable def Es:aE->Bool
 | .Name .. | .Attribute .. | .BinOp .. | .Subscript .. | .Dict .. | .Constant .. =>true
 | _=>false
noncomputable def CY(ev:aE->La->(AV->La->Prop)->Prop):Option aE->La->(AV->La->Prop)->Prop
 | none,led,k=>k .none led
 | some e,led,k=>ev e led k
noncomputable abbrev KV:=AV->La->Prop
noncomputable abbrev EV:=aE->La->KV->Prop
noncomputable def MV(name:Str)(k:KV):KV:=λ v led=>Op c (λ vs=>getAttr (vs.getD 0 .none) name true) [v] m led k
noncomputable def VD(op:kT)(a:AV)(k:KV):KV:=λ b led=>PQ c m op a b led k
noncomputable def VE(ev:EV)(op:kT)(r:aE)(k:KV):KV:=λ a led=>ev r led (VD c m op a k)
noncomputable def Xm(k:KV):KV:=λ a led=>PP c m a led k
noncomputable def MT(op:lW)(a:AV)(k:KV):KV:=λ b led=>Nq c m op a b led k
noncomputable def MU(ev:EV)(op:lW)(r:aE)(k:KV):KV:=λ a led=>ev r led (MT c m op a k)
noncomputable def MS(k:Bool->La->Prop):KV:=λ v led=>WB c m v led k
noncomputable def Zn(ev:EV)(a b:aE)(k:KV):Bool->La->Prop:=λ x led=>Br x (ev a led k) (ev b led k)
noncomputable def Xl(k:Bool->La->Prop):Bool->La->Prop:=λ b led=>k (!b) led
noncomputable def YH(f:List aF->Sem aF)(k:KV):List AV->La->Prop:=λ vs led=>Op c f vs m led k
noncomputable def VC(f:AV)(k:KV):List AV->La->Prop:=λ vs led=>C9 c f vs m led k
noncomputable def Os(ev:EV)(es:List aE)(k:KV):KV:=λ f led=>vL ev es led (VC c m f k)
noncomputable def Ou(f:AV)(fs:List AV)(k:KV):List AV->La->Prop:=λ vs led=>C9 c f (fs++vs) m led k
noncomputable def On(ev:EV)(es:List aE)(k:KV):AV->List AV->La->Prop:=λ f fs led=>vL ev es led (Ou c m f fs k)
noncomputable def Vz(ev:EV)(name:Str)(es:List aE)(k:KV):KV:=λ v led=>Hw c name v m led (On c m ev es k)
noncomputable def Xg(v:aE)(l u:Option aE)(sp:Pos)(o a:AV)(k:KV):KV:=λ b led=>Fd c v (.Slice l u none sp) o a b m led k
noncomputable def Xh(ev:EV)(v:aE)(l u:Option aE)(sp:Pos)(o:AV)(k:KV):KV:=λ a led=>CY ev u led (Xg c m v l u sp o a k)
noncomputable def Xi(ev:EV)(v:aE)(l u:Option aE)(sp:Pos)(k:KV):KV:=λ o led=>CY ev l led (Xh c m ev v l u sp o k)
noncomputable def Xj(v st:aE)(sp:Pos)(o:AV)(k:KV):KV:=λ x led=>Pq c v (.Slice none none (some st) sp) o x m led k
noncomputable def Xk(ev:EV)(v st:aE)(sp:Pos)(k:KV):KV:=λ o led=>ev st led (Xj c m v st sp o k)
noncomputable def Vx(v i:aE)(o:AV)(k:KV):KV:=λ x led=>Op c (λ vs=>subscriptTail v i (vs.getD 0 .none) (vs.getD 1 .none)) [o,x] m led k
noncomputable def Vy(ev:EV)(v i:aE)(k:KV):KV:=λ o led=>ev i led (Vx c m v i o k)
noncomputable def Xp(ev:EV)(op₂:lW)(r₂:aE)(b:AV)(k:Bool->La->Prop):Bool->La->Prop:=λ x led=>Br x (ev r₂ led (MT c m op₂ b (MS c m k))) (k false led)
noncomputable def Xq(ev:EV)(op1 op₂:lW)(r₂:aE)(a:AV)(k:Bool->La->Prop):KV:=λ b led=>Nq c m op1 a b led (MS c m (Xp c m ev op₂ r₂ b k))
noncomputable def Xr(ev:EV)(op1 op₂:lW)(r₁ r₂:aE)(k:Bool->La->Prop):KV:=λ a led=>ev r₁ led (Xq c m ev op1 op₂ r₂ a k)
mutual
noncomputable def I0:Nat->aE->La->(AV->La->Prop)->Prop
 | 0,e,led,k=>Y3 c e m led k
 | n+1,e,led,k=>match e with
  | .Name x p=>(match lk x m with
   | some v=>k v led
   | none=>Y3 c (.Name x p) m led k)
  | .Constant (.int i) _ _=>k (.int i) led
  | .Constant (.str x) _ _=>k (.str x) led
  | .Constant (.bool b) _ _=>k (.bool b) led
  | .Constant .none _ _=>k .none led
  | .BinOp l op r _=>I0 n l led (VE c m (I0 n) op r k)
  | .UnaryOp .USub x _=>I0 n x led (Xm c m k)
  | .Compare l [op] [r] p=>if !behindInMarks op r then I0 n l led (MU c m (I0 n) op r k)else Y3 c (.Compare l [op] [r] p) m led k
  | .IfExp t a b _=>Hs n t led (Zn (I0 n) a b k)
  | .List es p=>if es.all W7 then vL (I0 n) es led (YH c m newList k)else Y3 c (.List es p) m led k
  | .Tuple es x p=>if es.all W7 then vL (I0 n) es led (YH c m newTuple k)else Y3 c (.Tuple es x p) m led k
  | .Call (.Name f fp) es [] _=>if es.all W7 then I0 n (.Name f fp) led (Os c m (I0 n) es k)else Y3 c e m led k
  | .Call (.Attribute o name ap) es [] p=>if(es.all W7 && Es o && (ap.endLine== p.line && decide (es.length < 9)))then I0 n o led (Vz c m (I0 n) name es k)else Y3 c e m led k
  | .Attribute (.Name o op) name _=>I0 n (.Name o op) led (MV c m name k)
  | .Subscript v (.Slice l u none sp) _=>I0 n v led (Xi c m (I0 n) v l u sp k)
  | .Subscript v (.Slice none none (some st) sp) _=>I0 n v led (Xk c m (I0 n) v st sp k)
  | .Subscript v i _=>I0 n v led (Vy c m (I0 n) v i k)
  | e=>Y3 c e m led k
noncomputable def Hs:Nat->aE->La->(Bool->La->Prop)->Prop
 | 0,e,led,k=>Wt c e m led k
 | n+1,e,led,k=>match e with
  | .Compare l [op] [r] p=>if !behindInMarks op r then I0 n l led (MU c m (I0 n) op r (MS c m k))else Wt c (.Compare l [op] [r] p) m led k
  | .Compare l [op1,op₂] [r₁,r₂] p=>if !behindInMarks op₂ r₂ then I0 n l led (Xr c m (I0 n) op1 op₂ r₁ r₂ k)else Wt c (.Compare l [op1,op₂] [r₁,r₂] p) m led k
  | .BoolOp .And es _=>Nr (Hs n) es led k
  | .BoolOp .Or es _=>WC (Hs n) es led k
  | .UnaryOp .Not x _=>Hs n x led (Xl k)
  | .Name x p=>I0 n (.Name x p) led (MS c m k)
  | .Call f es ks p=>I0 n (.Call f es ks p) led (MS c m k)
  | .Attribute f es p=>I0 n (.Attribute f es p) led (MS c m k)
  | .BinOp l op r p=>I0 n (.BinOp l op r p) led (MS c m k)
  | .Constant x y p=>I0 n (.Constant x y p) led (MS c m k)
  | e=>Wt c e m led k
end
end
section
variable(c:Cx)
noncomputable def O9:aE->Bool
 | .ListComp .. | .SetComp .. | .DictComp .. =>false
 | _=>true
noncomputable def Kl(next:Lm->La->Prop)(k:Fl->Lm->La->Prop)(fl:Fl)(m:Lm)(led:La):Prop:=match fl with
 | .next=>next m led
 | fl=>k fl m led
noncomputable def PC(c:Cx)(x:Str)(v:AV)(m:Lm)(led:La)(k:La->Prop):Prop:=∀ u,Rl v u->Pr c (storeName c.env x u) m led λ V led'=>k led'
noncomputable def O6(cs:List Str):Nat->List dY->Lm->La->(Fl->Lm->La->Prop)->Prop
 | _,[],m,led,k=>k .next m led
 | 0,st::rest,m,led,k=>Ed c (execs (st::rest) c.env) m led k
 | n+1,st::rest,m,led,k=>
  let next:=λ m led=>O6 cs n rest m led k
  match st with
  | .Assign [.Name x _] e _=>if O9 e then I0 c m 30 e led λ v led=>(match cs.contains x with | false=>I7 c x/\next (G3 x v m) led | true=>PC c x v m led λ led=>next m led)else Ac c st m led (Kl next k)
  | .Assign [.Attribute o name _] e _=>if O9 e then I0 c m 30 e led λ v led=>I0 c m 30 o led λ ov led=>MJ c (λ vs=>setAttr (vs.getD 0 .none) name (vs.getD 1 .none)) [ov,v] m led λ led=>next m led else Ac c st m led (Kl next k)
  | .Expr e _=>if O9 e then I0 c m 30 e led λ V led=>next m led else Ac c st m led (Kl next k)
  | .If t a b _=>Hs c m 30 t led λ x led=>Br x (O6 cs n a m led (Kl next k)) (O6 cs n b m led (Kl next k))
  | .Return (some e) _=>I0 c m 30 e led λ v led=>k (.ret v) m led
  | .Return none _=>k (.ret .none) m led
  | .Break _=>k .brk m led
  | .Continue _=>k .cont m led
  | .Pass _=>next m led
  | st=>Ac c st m led (Kl next k)
end
end
section
theorem Pr.seq{α:Type}{c:Cx}{t:Sem α}{m:Lm}{led:La}{k:α->La->Prop}{Q:α->aH->Prop}(p:Pr c t m led k)
  (q:∀ v led',k v led'->∀ h tk,B6 c m led' h->Q v (c.at h tk)) {h:bF} {tk:Nat} (r:B6 c m led h):C5 c.b (model PG c.w) c.A t Q c.E (c.at h tk):=
 D6 (p h tk r) (λ V V x=>k3 x λ V V V e r' k'=>e▸q _ _ k' _ _ r') λ V V x=>x
theorem K5.seq{c:Cx}{t:Sem aF}{m:Lm}{led:La}{k:AV->La->Prop}{Q:aF->aH->Prop}(p:K5 c t m led k)
  (q:∀ v a led',Rl a v->k a led'->∀ h tk,B6 c m led' h->Q v (c.at h tk)) {h:bF} {tk:Nat} (r:B6 c m led h):C5 c.b (model PG c.w) c.A t Q c.E (c.at h tk):=
 Pr.seq p (λ v _ ⟨a,ha,k'⟩=>q v a _ ha k') r
theorem E2.ofV{c:Cx}{m:Lm}{k:AV->La->Prop}{v:aF}{a:AV}{led:La}{h:bF}{tk:Nat}(r:B6 c m led h)(e:Rl a v)(q:k a led):E2 c m (λ v led'=>∃ a,Rl a v/\k a led') v (c.at h tk):=
 ⟨h,tk,led,rfl,r,a,e,q⟩
theorem NF{c:Cx}{m:Lm}{x:Str}{p:Pos}{v:AV}{led:La}{k:AV->La->Prop}(e:lk x m=some v)(q:k v led):K5 c (eval (.Name x p) c.env) m led k:=by
 intro h tk r
 refine M7 λ G95 hG95=>?_; obtain⟨mm,F,hm⟩:=r.fr
 obtain⟨u,hu,hr⟩:=hm x v e; refine hG95 ?_
 exact A4 (wpAny_Name (wpAny_loadName_local r.fk (r.lc x v e).1 F.ns hu (E2.ofV r hr q)) (r.lc x v e).2)
theorem Qg{c:Cx}{m:Lm}{i:Int}{kk}{p:Pos}{led:La}{k:AV->La->Prop}(q:k (.int i) led):K5 c (eval (.Constant (.int i) kk p) c.env) m led k:=
 λ V V r=>A4 (wpAny_Constant_int (E2.ofV (a:= .int _) r ⟨_,rfl⟩ q))
theorem Ha{op:kT}{x y i:Int}(e:VI x y op=some i){P:Prop}(h1:op= .Add->i=x+y->P)(h2:op= .Sub->i=x - y->P):P:=by
 rcases op<;>first | exact nn e | exact h1 rfl (aU e).symm | exact h2 rfl (aU e).symm
theorem Qi{c:Cx}{m:Lm}{op:kT}{a b:AV}{u v:aF}{led:La}{k:AV->La->Prop}(hu:Rl a u)(hv:Rl b v)(q:PQ c m op a b led k):K5 c (binaryOp op u v) m led k:=by
 have go:∀ o,VZ op a b=o->(match o with | some v=>k (.int v) led | none=>Op c (λ vs=>binaryOp op (vs.getD 0 .none) (vs.getD 1 .none)) [a,b] m led k)->K5 c (binaryOp op u v) m led k:=λ o=>by
  induction o with
  | none=>exact λ V q=>q [u,v] ⟨hu,hv,trivial⟩
  | some i=>
   intro e q
   induction a with
   | int x=>
    induction b with
    | int y=>
     exact Ha e (λ ho he=>ho▸hu.elim λ V hu=>hv.elim λ V hv=>hu▸hv▸λ V V r=>A4<|P.add_int (E2.ofV (a:= .int _) r ⟨_,rfl⟩ (he▸q))) (λ ho he=>ho▸hu.elim λ V hu=>hv.elim λ V hv=>hu▸hv▸λ V V r=>A4<|P.sub_int (E2.ofV (a:= .int _) r ⟨_,rfl⟩ (he▸q)))
    | _=>exact nn e
   | _=>exact nn e
 exact go _ rfl q
theorem Fn{c:Cx}{m:Lm}{op:lW}{a b:AV}{u v:aF}{led:La}{k:AV->La->Prop}(hu:Rl a u)(hv:Rl b v)(q:Nq c m op a b led k):K5 c (compareOp op u v) m led k:=by
 have go:∀ o,VY op a b=o->(match o with | some v=>k (.bool v) led | none=>Op c (λ vs=>compareOp op (vs.getD 0 .none) (vs.getD 1 .none)) [a,b] m led k)->K5 c (compareOp op u v) m led k:=λ o=>by
  induction o with
  | none=>exact λ V q=>q [u,v] ⟨hu,hv,trivial⟩
  | some i=>
   intro e q
   induction a with
   | int x=>
    induction b with
    | int y=>
     have q2:∀ j,j=i->∀ h tk,B6 c m led h->E2 c m (λ v led'=>∃ a,Rl a v/\k a led') (.bool j) (c.at h tk):=λ V e V V r=>E2.ofV (a:= .bool _) r rfl (e▸q)
     refine hu.elim λ V hu=>hv.elim λ V hv=>hu▸hv▸λ V V r=>A4 ?_
     induction op with
     | Eq=>exact P.eq_int (q2 _ (aU e) _ _ r)
     | NotEq=>exact P.ne_int (q2 _ (aU e) _ _ r)
     | Lt=>exact P.lt_int (q2 _ (aU e) _ _ r)
     | LtE=>exact P.le_int (q2 _ (aU e) _ _ r)
     | Gt=>exact P.gt_int (q2 _ (aU e) _ _ r)
     | GtE=>exact P.ge_int (q2 _ (aU e) _ _ r)
     | _=>exact nn e
    | _=>exact nn e
   | _=>exact nn e
 exact go _ rfl q
theorem KC{c:Cx}{m:Lm}{a:AV}{u:aF}{led:La}{k:Bool->La->Prop}(hu:Rl a u)(q:WB c m a led k):Pr c (truthy u) m led k:=by
 induction a with
 | bool b=>subst hu; exact λ h tk r=>A4<|wpAny_truthy_bool ⟨h,tk,led,rfl,r,q⟩
 | none=>subst hu; exact λ h tk r=>A4<|truthy_none ⟨h,tk,led,rfl,r,q⟩
 | _=>exact q [u] ⟨hu,trivial⟩
theorem V6{e:aE}{r:List aE}{env:Env}(h:W7 e=true):starEach (e::r) env=(false,eval e env)::starEach r env:=by
 cases e<;>first | rfl | contradiction
theorem Bq{env:Env}{pos:Pos}:∀ {es:List aE},es.all W7=true->(backTo pos (starEach es env)).any (·.1)=false
 | [],_=>rfl
 | e::r,h=>by
  have h:=fF.symm.trans h
  rw[fK]at h
  rw[V6 h.1]
  have:=Bq (env:=env) (pos:=pos) h.2
  simp[backTo]at this ⊢
  exact this
noncomputable def ZD(c:Cx)(t:Sem (List aF))(m:Lm)(led:La)(k:List AV->La->Prop):Prop:=Pr c t m led λ vs led'=>∃ as,Q1 as vs/\k as led'
theorem Cs{c:Cx}{m:Lm}{ev:aE->La->(AV->La->Prop)->Prop}(H:∀ e led k,ev e led k->K5 c (eval e c.env) m led k){pos:Pos}:∀ {es:List aE} {led:La} {k:List AV->La->Prop},
  es.all W7=true->vL ev es led k->ZD c (spliced (backTo pos (starEach es c.env))) m led k
 | [],led,k,_,q=>λ h tk r=>A4<|spliced_none ⟨h,tk,led,rfl,r,[],trivial,q⟩
 | e::rest,led,k,hs,q=>λ h tk r=>by
  have hs:=fF.symm.trans hs
  rw[fK]at hs
  refine Ng ?_ (V6 hs.1)
  refine K5.seq (H _ _ _ q) (λ v a led' ha q h tk r=>?_) r
  refine Pr.seq (Cs H hs.2 q) (λ vs led' ⟨as,has,q⟩ h tk r=>?_) r
  exact⟨h,tk,led',rfl,r,a::as,⟨ha,has⟩,q⟩
theorem Rl.append{as bs:List AV}{us vs:List aF}(h:Q1 as us)(h':Q1 bs vs):Q1 (as++bs) (us++vs):=by
 induction as generalizing us with
 | nil=>
  induction us with
  | nil=>exact h'
  | cons=>exact h.elim
 | cons a as ih=>
  induction us with
  | nil=>exact h.elim
  | cons u us _=>exact⟨h.1,ih h.2⟩
theorem Fo{c:Cx}{m:Lm}{ev:aE->La->(AV->La->Prop)->Prop}(H:∀ e led k,ev e led k->K5 c (eval e c.env) m led k){pos:Pos}{es:List aE}{f:AV}{u:aF}{fs:List AV}{us:List aF}{led:La}{k:AV->La->Prop}
  (hs:es.all W7=true) (hu:Rl f u) (hus:Q1 fs us) (q:vL ev es led λ vs led=>C9 c f (fs++vs) m led k):K5 c (callWith pos u us (backTo pos (starEach es c.env)) []) m led k:=by
 intro h tk r
 refine Ej (P:=λ h=>∃ k,(k=kE∨k=iS∨k=gW)/\kR (model PG c.w) h (keeperOf u) k) (by rw[Bq hs]; rfl) (λ h p=>p) ?_
 have tail:∀ vs led',(∃ as,Q1 as vs/\C9 c f (fs++as) m led' k)->∀ h tk,B6 c m led' h->(∃ k,(k=kE∨k=iS∨k=gW)/\kR (model PG c.w) h (keeperOf u) k)/\
   C5 c.b (model PG c.w) c.A (call u (us++vs)) (E2 c m λ v led'=>∃ a,Rl a v/\k a led') c.E (c.at h tk):=
  λ _ _ ⟨_,has,q⟩ h _ r=>⟨q.1 u hu h r,q.2 u hu _ (Rl.append hus has) h _ r⟩
 induction es with
 | nil=>exact A4<|evalArgs_nil3 (tail [] led ⟨[],trivial,q⟩ h tk r)
 | cons e rest=>
  have hs':=fF.symm.trans hs
  rw[fK]at hs'
  have:=Pr.seq (Q:=λ vs s=>(∃ k,(k=kE∨k=iS∨k=gW)/\kR (model PG c.w) s.heap (keeperOf u) k)/\C5 c.b (model PG c.w) c.A (call u (us++vs)) (E2 c m λ v led'=>∃ a,Rl a v/\k a led') c.E s) (Cs (pos:=pos) H hs q) tail (tk:=tk) r
  rw[V6 hs'.1]at this ⊢
  exact Np this
theorem Qc{c:Cx}{m:Lm}{i:Str}{kk}{p:Pos}{led:La}{k:AV->La->Prop}(q:k (.str i) led):K5 c (eval (.Constant (.str i) kk p) c.env) m led k:=
 λ V V r=>A4<|wpAny_Constant_str (E2.ofV (a:= .str _) r ⟨_,rfl⟩ q)
theorem Dy{env:Env}{pos:Pos}:∀ {es:List aE},es.all W7=true->(backTo pos (starEach es env)).all (λ x=> !x.1)=true
 | [],_=>rfl
 | e::r,h=>by
  have h:=fF.symm.trans h
  rw[fK]at h
  rw[V6 h.1]
  have:=Dy (env:=env) (pos:=pos) h.2
  simp[backTo]at this ⊢
  exact this
theorem EZ{env:Env}{o:aE}{name:Str}{x:Sem aF}(h:Es o=true):attributeBase o name env x=x:=by
 rcases o<;>first | rfl | exact ff h
theorem KE{env:Env}{o:aE}{name:Str}{ap pos:Pos}{n:Nat}{as:List (Bool×Sem aF)}{ks:List (Option Str×Sem aF)}(hb:attributeBase o name env (eval o env)=eval o env)(hform:methodCallForm n as ks=true)(hl:(ap.endLine== pos.line)=true):
  (do let ov←attributeBase o name env (eval o env); standAt ap.atName; methodCall o name ap pos env ov n as ks)=(do let ov←eval o env; standAt ap.atName; let (f,first)←holding [ov] (getMethod ov name (do return (←importBound o env).getD true)); callWith pos f first as ks):=by
 have e:methodCallPos true o env ap pos=pure pos:=if_pos (by rw[hl]; rfl)
 unfold methodCall
 rw[hb,hform,e]
 rfl
theorem NG{c:Cx}{m:Lm}{ev:aE->La->(AV->La->Prop)->Prop}(H:∀ e led k,ev e led k->K5 c (eval e c.env) m led k){pos:Pos}{o:aE}{name:Str}{ap:Pos}{es:List aE}{led:La}{k:AV->La->Prop}
  (hg:(es.all W7 && Es o && (ap.endLine== pos.line && decide (es.length < 9)))=true) (q:ev o led λ v led=>Hw c name v m led λ f fs led=>vL ev es led λ vs led=>C9 c f (fs++vs) m led k):K5 c (eval (.Call (.Attribute o name ap) es [] pos) c.env) m led k:=by
 have h1:=bI.mp hg
 have hs:=(bI.mp h1.1).1
 have ho:=(bI.mp h1.1).2
 have hl:=(bI.mp h1.2).1
 have hn:=of_decide_eq_true (bI.mp h1.2).2
 intro h tk r
 refine Nh (pl:=do return (←importBound o c.env).getD true) ?_ ?_
 ·refine K5.seq (H _ _ _ q) (λ v a led' ha q h tk r=>?_) r
  refine Pr.seq (q v ha _) (λ fx led' x h tk r=>w9 x λ f as hf has q=>?_) r
  exact Fo H hs hf has q h tk r
 ·have hform:methodCallForm (es.length+([]:List Keyword).length) (backTo pos (starEach es c.env)) (backToKw pos (keywordEach [] c.env))=true:=
   Bool.and_eq_true_iff.mpr ⟨Bool.and_eq_true_iff.mpr ⟨Dy hs,rfl⟩,decide_eq_true (dK (show es.length+0+0 < 9 from hn) (by decide))⟩
  exact KE (EZ ho) hform hl
theorem NI{c:Cx}{m:Lm}{x name:Str}{p ap:Pos}{led:La}{k:AV->La->Prop}(ih:K5 c (eval (.Name x p) c.env) m led λ v led=>Op c (λ vs=>getAttr (vs.getD 0 .none) name true) [v] m led k):K5 c (eval (.Attribute (.Name x p) name ap) c.env) m led k:=by
 intro h tk r
 rw[arm_eval_Attribute]
 refine B5 (m:=eval (.Name x p) c.env) (K5.seq ih (λ v a led' ha q h tk r=>A9 (B5 (B0 ?_))) r)
 refine K5.seq (q [v] ⟨ha,trivial⟩) (λ v a led' ha q h tk r=>?_) r
 exact B5 (A7 (A7 (E2.ofV r ha q)))
theorem Ic{c:Cx}{m:Lm}{ev:aE->La->(AV->La->Prop)->Prop}(H:∀ e led k,ev e led k->K5 c (eval e c.env) m led k){o:Option aE}{led:La}{k:AV->La->Prop}(q:CY ev o led k):K5 c (evalPart o c.env) m led k:=by
 intro h tk r
 induction o with
 | none=>exact A4 (jZ (E2.ofV (a:= .none) r rfl q))
 | some e=>exact H _ _ _ q h tk r
theorem KD{c:Cx}{m:Lm}{ev:aE->La->(AV->La->Prop)->Prop}(H:∀ e led k,ev e led k->K5 c (eval e c.env) m led k){v:aE}{l u:Option aE}{sp p:Pos}{led:La}{k:AV->La->Prop}
  (q:ev v led λ o led=>CY ev l led λ a led=>CY ev u led λ b led=>Fd c v (.Slice l u none sp) o a b m led k):K5 c (eval (.Subscript v (.Slice l u none sp) p) c.env) m led k:=by
 intro h tk r
 refine HA (K5.seq (H _ _ _ q) (λ ov o led' ho q h tk r=>?_) r)
 refine Ff (K5.seq (Ic H q) (λ lv a led' ha q h tk r=>?_) r)
 refine K5.seq (Ic H q) (λ uv b led' hb q h tk r=>?_) r
 exact A4 (jZ (q ov lv uv ho ha hb h tk r))
theorem Qd{c:Cx}{m:Lm}{ev:aE->La->(AV->La->Prop)->Prop}(H:∀ e led k,ev e led k->K5 c (eval e c.env) m led k){v st:aE}{sp p:Pos}{led:La}{k:AV->La->Prop}
  (q:ev v led λ o led=>ev st led λ x led=>Pq c v (.Slice none none (some st) sp) o x m led k):K5 c (eval (.Subscript v (.Slice none none (some st) sp) p) c.env) m led k:=by
 intro h tk r
 refine HA (K5.seq (H _ _ _ q) (λ ov o led' ho q h tk r=>?_) r)
 refine Ff (A4 (jZ (A4 (jZ ?_))))
 exact K5.seq (H _ _ _ q) (λ xv x led' hx q h tk r=>q ov xv ho hx h tk r) r
theorem u8{op:lW}{e:aE}(h:(!behindInMarks op e)=true):behindInMarks op e=false:=by
 rwa [jV]at h
theorem MP{c:Cx}{m:Lm}{ev:aE->La->(Bool->La->Prop)->Prop}(H:∀ e led k,ev e led k->Pr c (isTrue e c.env (eval e c.env)) m led k){pos:Pos}{whole:Sem aF}:∀ {es:List aE} {led:La} {k:Bool->La->Prop},
  Nr ev es led k->Pr c (isTrue (.BoolOp .And es pos) c.env whole) m led k
 | [],led,_,q=>λ h tk r=>A4<|isTrue_and_nil ⟨h,tk,led,rfl,r,q⟩
 | e::rest,led,k,q=>λ h tk r=>PO (Pr.seq (H _ _ _ q) (λ b led' q h tk r=>by
   induction b with
   | false=>exact⟨h,tk,led',rfl,r,q.2 rfl⟩
   | true=>exact MP H (q.1 rfl) h tk r) r)
theorem Qe{c:Cx}{m:Lm}{ev:aE->La->(Bool->La->Prop)->Prop}(H:∀ e led k,ev e led k->Pr c (isTrue e c.env (eval e c.env)) m led k){pos:Pos}{whole:Sem aF}:∀ {es:List aE} {led:La} {k:Bool->La->Prop},
  WC ev es led k->Pr c (isTrue (.BoolOp .Or es pos) c.env whole) m led k
 | [],led,_,q=>λ h tk r=>A4<|isTrue_or_nil ⟨h,tk,led,rfl,r,q⟩
 | e::rest,led,k,q=>λ h tk r=>Wz (Pr.seq (H _ _ _ q) (λ b led' q h tk r=>by
   induction b with
   | true=>exact⟨h,tk,led',rfl,r,q.1 rfl⟩
   | false=>exact Qe H (q.2 rfl) h tk r) r)
theorem Ki{p:Bool}{P Q R:Prop}(h1:p=true->P->R)(h2:Q->R)(h:if p=true then P else Q):R:=by
 induction p with
 | true=>exact h1 rfl h
 | false=>exact h2 h
theorem Qf{c:Cx}{m:Lm}{a:AV}{u:aF}{led:La}{k:AV->La->Prop}(hu:Rl a u)(q:PP c m a led k):K5 c (unaryOp .USub u) m led k:=by
 induction a with
 | int i=>obtain⟨t,rfl⟩:=hu; exact λ V V r=>A4<|P.neg_int (E2.ofV (a:= .int _) r ⟨_,rfl⟩ q)
 | _=>exact q [u] ⟨hu,trivial⟩
theorem Yc{c:Cx}{m:Lm}(n:Nat):(∀ e led k,I0 c m n e led k->K5 c (eval e c.env) m led k)/\(∀ e led k,Hs c m n e led k->Pr c (isTrue e c.env (eval e c.env)) m led k):=by
 induction n with
 | zero=>exact⟨λ V V V q=>q,λ V V V q=>q⟩
 | succ n ih=>
 have HE:=ih.1
 have HT:=ih.2
 have Gn:∀ {v i:aE} {p:Pos} {led k},(I0 c m n v led λ o led=>I0 c m n i led λ x led=>Op c (λ vs=>subscriptTail v i (vs.getD 0 .none) (vs.getD 1 .none)) [o,x] m led k)->K5 c (eval (.Subscript v i p) c.env) m led k:=λ q h tk r=>
  HA (K5.seq (HE _ _ _ q) (λ u a led' ha q h tk r=>K5.seq (HE _ _ _ q) (λ v b led' hb q h tk r=>q [u,v] ⟨ha,hb,trivial⟩ h tk r) r) r)
 constructor
 ·intro e led k q
  cases e with
  | Name x p=>
   have q':(match lk x m with | some v=>k v led | none=>Y3 c (.Name x p) m led k):=q
   cases e:lk x m with
   | some v=>rw[e]at q'; exact NF e q'
   | none=>rw[e]at q'; exact q'
  | Constant v kk p=>
   induction v with
   | int i=>exact Qg q
   | str x=>exact Qc q
   | bool b=>exact λ V V r=>A4<|wpAny_Constant_bool (E2.ofV (a:= .bool _) r rfl q)
   | none=>exact λ V V r=>A4<|wpAny_Constant_none (E2.ofV (a:= .none) r rfl q)
   | _=>exact q
  | BinOp l op r p=>exact λ h tk r=>Ku (K5.seq (HE _ _ _ q) (λ u a led' ha q h tk r=>K5.seq (HE _ _ _ q) (λ v b led' hb q h tk r=>Qi ha hb q h tk r) r) r)
  | UnaryOp op x p=>
   induction op with
   | USub=>exact λ h tk r=>Ko (K5.seq (HE _ _ _ q) (λ u a led' ha q h tk r=>Qf ha q h tk r) r)
   | _=>exact q
  | Compare l ops cs p=>
   rcases ops with _ | ⟨op,_ | ⟨op2,ops⟩⟩
   ·exact q
   ·rcases cs with _ | ⟨r,_ | ⟨r2,cs⟩⟩
    ·exact q
    ·exact Ki (λ hs q h tk r=>PL (K5.seq (HE _ _ _ q) (λ u a led' ha q h tk r=>K5.seq (HE _ _ _ q) (λ v b led' hb q h tk r=>Fn ha hb q h tk r) r) r) (u8 hs)) (λ q=>q) q
    ·exact q
   ·exact q
  | IfExp t a b p=>
   refine λ h tk r=>Ks (Pr.seq (HT _ _ _ q) (λ b led' q h tk r=>?_) r)
   induction b with
   | true=>exact HE _ _ _ (q.1 rfl) h tk r
   | false=>exact HE _ _ _ (q.2 rfl) h tk r
  | List es p=>exact Ki (λ hs q h tk r=>Ni (Pr.seq (Cs HE hs q) (λ vs led' ⟨as,has,q⟩ h tk r=>q vs has h tk r) r)) (λ q=>q) q
  | Tuple es x p=>exact Ki (λ hs q h tk r=>Kq (Pr.seq (Cs HE hs q) (λ vs led' ⟨as,has,q⟩ h tk r=>q vs has h tk r) r)) (λ q=>q) q
  | Call f es ks p=>
   induction ks with
   | cons _ _=>rcases f<;>exact q
   | nil=>
    cases f with
    | Name f fp=>exact Ki (λ hs q h tk r=>Nn (K5.seq (HE _ _ _ q) (λ u f led' hf q h tk r=>Fo HE hs hf (us:=[]) (fs:=[]) trivial q h tk r) r)) (λ q=>q) q
    | Attribute o name ap=>exact Ki (λ hs q=>NG HE hs q) (λ q=>q) q
    | _=>exact q
  | Attribute o name ap=>
   cases o with
   | Name x p=>exact NI (HE _ _ _ q)
   | _=>exact q
  | Subscript v i p=>
   cases i with
   | Slice l u st sp=>
    induction st with
    | none=>exact KD HE q
    | some _=>
     induction l with
     | none=>
      induction u with
      | none=>exact Qd HE q
      | some _=>exact Gn q
     | some _=>exact Gn q
   | _=>exact Gn q
  | _=>exact q
 ·intro e led k q
  have plain:∀ {e:aE} {k},(I0 c m n e led λ v led=>WB c m v led k)->(isTrue e c.env (eval e c.env)=(do let v←eval e c.env; standAt e.pos; holding [v] (truthy v)))->Pr c (isTrue e c.env (eval e c.env)) m led k:=
   λ q he h tk r=>Kr (K5.seq (HE _ _ _ q) (λ v a led' ha q h tk r=>KC ha q h tk r) r) he
  cases e with
  | Compare l ops cs p=>
   rcases ops with _ | ⟨op,_ | ⟨op2,_ | ⟨op3,ops⟩⟩⟩
   ·exact q
   ·rcases cs with _ | ⟨r,_ | ⟨r2,cs⟩⟩
    ·exact q
    ·exact Ki (λ hs q h tk r=>Nf (K5.seq (HE _ _ _ q) (λ u a led' ha q h tk r=>K5.seq (HE _ _ _ q) (λ v b led' hb q h tk r=>K5.seq (Fn ha hb q) (λ v a led' ha q h tk r=>KC ha q h tk r) r) r) r) (u8 hs)) (λ q=>q) q
    ·exact q
   ·rcases cs with _ | ⟨r,_ | ⟨r2,_ | ⟨r3,cs⟩⟩⟩
    ·exact q
    ·exact q
    ·refine Ki (λ hs q h tk r=>Kt (K5.seq (HE _ _ _ q) (λ u a led' ha q h tk r=>Nj (K5.seq (HE _ _ _ q) (λ v b led' hb q h tk r=>K5.seq (Fn ha hb q) (λ v a led' ha q h tk r=>Pr.seq (KC ha q) (λ x led' q h tk r=>?_) r) r) r)) r) (u8 hs)) (λ q=>q) q
     induction x with
     | false=>exact⟨h,tk,_,rfl,r,q.2 rfl⟩
     | true=>exact Nk (K5.seq (HE _ _ _ (q.1 rfl)) (λ v d led' hd q h tk r=>K5.seq (Fn hb hd q) (λ v a led' ha q h tk r=>KC ha q h tk r) r) r)
    ·exact q
   ·exact q
  | BoolOp op es p=>
   induction op with
   | And=>exact MP HT q
   | Or=>exact Qe HT q
  | UnaryOp op x p=>
   induction op with
   | Not=>exact λ h tk r=>PJ (Pr.seq (HT _ _ _ q) (λ b led' q h tk r=>⟨h,tk,led',rfl,r,q⟩) r)
   | _=>exact q
  | Name x p=>exact plain q rfl
  | Call f es ks p=>exact plain q rfl
  | Attribute f es p=>exact plain q rfl
  | BinOp l op r p=>exact plain q rfl
  | Constant x y p=>exact plain q rfl
  | _=>exact q
end
section
theorem Ed.seq{c:Cx}{t:Sem kA}{m:Lm}{led:La}{k:Fl->Lm->La->Prop}{Q:kA->aH->Prop}(p:Ed c t m led k)
  (q:∀ f fl m' led',Wb fl f->k fl m' led'->∀ h tk,B6 c m' led' h->Q f (c.at h tk)) {h:bF} {tk:Nat} (r:B6 c m led h):C5 c.b (model PG c.w) c.A t Q c.E (c.at h tk):=
 D6 (p h tk r) (λ V V x=>VL x λ V V V V x=>DI x λ V e r' hf k'=>e▸q _ _ _ _ hf k' _ _ r') λ V V x=>x
theorem Wb.cases{fl:Fl}{f:kA}(h:Wb fl f):(fl= .next/\f= .next)∨(fl≠ .next/\f≠ .next):=by
 induction fl with
 | next=>exact .inl ⟨rfl,h⟩
 | brk=>subst h; exact .inr ⟨by simp,by simp⟩
 | cont=>subst h; exact .inr ⟨by simp,by simp⟩
 | ret v=>obtain⟨u,rfl,_⟩:=h; exact .inr ⟨by simp,by simp⟩
theorem H1.of{c:Cx}{k:Fl->Lm->La->Prop}{fl:Fl}{f:kA}{m:Lm}{led:La}{h:bF}{tk:Nat}(r:B6 c m led h)(e:Wb fl f)(q:k fl m led):H1 c k f (c.at h tk):=⟨h,tk,m,led,fl,rfl,r,e,q⟩
theorem U8{e:aE}{t:Option aE}{l:Nat}{env:Env}(h:O9 e=true):swapsWith e t l env=pure false:=by
 cases e<;>first | rfl | contradiction
theorem B6.st{c:Cx}{m:Lm}{led:La}{h h':bF}{mm:Ev}{x:Str}{v:aF}{a:AV}(r:B6 c m led h)(F:Fr c.g c.env.locals h mm)(hm:Kf m mm)(ok:I7 c x)(ha:Rl a v)(hn:h'.Ns c.env.locals λ y=>if y=x then some v else mm y)(hs:eF c.env.locals h h'):B6 c (G3 x a m) led h':=by
 refine⟨⟨_,F.set hn hs,λ y u hy=>?_⟩,λ p hp=>r.at hp λ ho hg hl hz=>⟨_,ho,(hs.2 _ hl).trans hg,hl,hz⟩,r.nd,r.fk,λ y u hy=>?_⟩
 ·rw[q7]at hy
  by_cases e:y=x
  ·rw[if_pos e]at hy; exact⟨v,if_pos e,aU hy▸ha⟩
  ·rw[if_neg e]at hy; exact hm.at hy λ h1 h2=>⟨_,(if_neg e).trans h1,h2⟩
 ·rw[q7]at hy
  by_cases e:y=x
  ·rw[e]; exact ok
  ·rw[if_neg e]at hy; exact r.lc y u hy
theorem I7.setA{E:aF->aH->Prop}{c:Cx}{m:Lm}{led:La}{x:Str}{v:aF}{a:AV}(ok:I7 c x)(ha:Rl a v){h:bF}{tk:Nat}(r:B6 c m led h){Q:Unit->aH->Prop}
  (q:∀ h' tk',B6 c (G3 x a m) led h'->Q () (c.at h' tk')):wpAny (model PG c.w) c.A (storeName c.env x v) Q E (c.at h tk):=
 r.frE λ F hm=>wpAny_storeName_local ok.1 F.ns (λ h' hn hs=>q h' _ (r.st F hm ok ha hn hs)) (by rw[r.fk]; rfl)
theorem I7.set{c:Cx}{m:Lm}{led:La}{x:Str}{v:aF}{a:AV}(ok:I7 c x)(ha:Rl a v){h:bF}{tk:Nat}(r:B6 c m led h){Q:Unit->aH->Prop}
  (q:∀ h' tk',B6 c (G3 x a m) led h'->Q () (c.at h' tk')):C5 c.b (model PG c.w) c.A (storeName c.env x v) Q c.E (c.at h tk):=A4 (ok.setA ha r q)
theorem Cr{c:Cx}{m:Lm}{led:La}{st:dY}{rest:List dY}{k:Fl->Lm->La->Prop}{k0:Fl->Lm->La->Prop}(p:Ed c (exec st c.env) m led k0)
  (hn:∀ m led,k0 .next m led->Ed c (execs rest c.env) m led k) (ho:∀ fl m led,fl≠ .next->k0 fl m led->k fl m led):Ed c (execs (st::rest) c.env) m led k:=by
 intro h tk r
 refine Nm (Ed.seq p (λ f fl m' led' hf q h tk r=>?_) r)
 rcases hf.cases with ⟨rfl,rfl⟩ | ⟨hfl,hff⟩
 ·exact hn _ _ q h tk r
 ·have:H1 c k f (c.at h tk):=H1.of r hf (ho _ _ _ hfl q)
  rcases f<;>first | exact absurd rfl hff | exact this
theorem sE{c:Cx}{m:Lm}{n:Nat}{e:aE}{led:La}{k:AV->La->Prop}(q:I0 c m n e led k):K5 c (eval e c.env) m led k:=(Yc n).1 e led k q
theorem sT{c:Cx}{m:Lm}{n:Nat}{e:aE}{led:La}{k:Bool->La->Prop}(q:Hs c m n e led k):Pr c (isTrue e c.env (eval e c.env)) m led k:=(Yc n).2 e led k q
theorem FU{nx:Lm->La->Prop}{k:Fl->Lm->La->Prop}{fl:Fl}{m:Lm}{led:La}(hfl:fl≠ .next)(q:Kl nx k fl m led):k fl m led:=by
 induction fl with
 | next=>exact absurd rfl hfl
 | _=>exact q
theorem sS{c:Cx}{cs:List Str}(hi:interactive c.env=false)(n:Nat):∀ (sts:List dY) (m:Lm) (led:La) (k:Fl->Lm->La->Prop),O6 c cs n sts m led k->Ed c (execs sts c.env) m led k:=by
 have none:∀ {n m led k},O6 c cs n [] m led k->Ed c (execs [] c.env) m led k:=λ{n _ _ _} q _ _ r=>by
  rcases n<;>exact A4<|lJ (H1.of r (fl:= .next) rfl q)
 induction n with
 | zero=>
  intro sts m led k q
  induction sts with
  | nil=>exact none q
  | cons st rest=>exact q
 | succ n H=>
  intro sts m led k q
  induction sts with
  | nil=>exact none q
  | cons st rest=>
  have raw:∀ {st:dY} {m led},(Ac c st m led (Kl (λ m led=>O6 c cs n rest m led k) k))->Ed c (execs (st::rest) c.env) m led k:=
   λ p=>Cr p (λ m led q=>H _ _ _ _ q) (λ fl m led hfl q=>FU hfl q)
  have nx:∀ {m led h tk},B6 c m led h->O6 c cs n rest m led k->H1 c (λ fl m led=>fl= .next/\O6 c cs n rest m led k) .next (c.at h tk):=λ r q=>H1.of (fl:= .next) r rfl ⟨rfl,q⟩
  have nxs:∀ {st:dY} {m led},Ed c (exec st c.env) m led (λ fl m led=>fl= .next/\O6 c cs n rest m led k)->Ed c (execs (st::rest) c.env) m led k:=
   λ p=>Cr p (λ m led q=>H _ _ _ _ q.2) (λ fl m led hfl q=>absurd q.1 hfl)
  have lst:∀ {st:dY} {m led},Ed c (exec st c.env) m led (λ fl m led=>fl≠ .next/\k fl m led)->Ed c (execs (st::rest) c.env) m led k:=
   λ p=>Cr p (λ m led q=>absurd rfl q.1) (λ fl m led hfl q=>q.2)
  cases st with
  | Assign ts e p=>
   rcases ts with _ | ⟨t,_ | ⟨t2,ts⟩⟩
   ·exact raw q
   ·cases t with
    | Name x xp=>
     refine Ki (λ hc q=>nxs λ h tk r=>PN (K5.seq (sE q) (λ v a led' ha q h tk r=>?_) r) (U8 hc)) (λ q=>raw q) q
     have q':(match cs.contains x with | false=>I7 c x/\O6 c cs n rest (G3 x a m) led' k | true=>PC c x a m led' λ led=>O6 c cs n rest m led k):=q
     cases hcs:cs.contains x with
     | false=>rw[hcs]at q'; exact q'.1.set ha r λ h tk r=>nx r q'.2
     | true=>rw[hcs]at q'; exact Pr.seq (q' v ha) (λ V led' q h tk r=>nx r q) r
    | Attribute o name ap=>
     exact Ki (λ hc q=>nxs λ h tk r=>No (K5.seq (sE q) (λ v a led' ha q h tk r=>K5.seq (sE q) (λ ov b led' hb q h tk r=>Pr.seq (q [ov,v] ⟨hb,ha,trivial⟩) (λ V led' q h tk r=>nx r q) r) r) r) (U8 hc)) (λ q=>raw q) q
    | _=>exact raw q
   ·rcases t<;>exact raw q
  | Expr e p=>exact Ki (λ hc q=>nxs λ h tk r=>Nl (K5.seq (sE q) (λ v a led' ha q h tk r=>nx r q) r) hi (U8 hc)) (λ q=>raw q) q
  | If t a b p=>
   refine Cr (k0:=Kl (λ m led=>O6 c cs n rest m led k) k) (λ h tk r=>WA (Pr.seq (sT q) (λ b led' q h tk r=>?_) r)) (λ m led q=>H _ _ _ _ q) (λ fl m led hfl q=>FU hfl q)
   induction b with
   | true=>exact H _ _ _ _ (q.1 rfl) h tk r
   | false=>exact H _ _ _ _ (q.2 rfl) h tk r
  | Return e p=>
   induction e with
   | some e=>exact lst λ h tk r=>PI (K5.seq (sE q) (λ v a led' ha q h tk r=>H1.of (fl:= .ret a) r ⟨v,rfl,ha⟩ ⟨(nomatch ·),q⟩) r)
   | none=>exact lst λ h tk r=>A4<|wpAny_Return_none (H1.of (fl:= .ret .none) r ⟨_,rfl,rfl⟩ ⟨(nomatch ·),q⟩)
  | Break p=>exact lst λ h tk r=>A4<|wpAny_Break (H1.of (fl:= .brk) r rfl ⟨(nomatch ·),q⟩)
  | Continue p=>exact lst λ h tk r=>A4<|wpAny_Continue (H1.of (fl:= .cont) r rfl ⟨(nomatch ·),q⟩)
  | Pass p=>exact nxs λ h tk r=>A4<|wpAny_Pass (nx r q)
  | _=>exact raw q
end
section
inductive C1(p:aJ×AO):La->La->Prop
 | head (r:La):C1 p (p::r) r
 | tail {q:aJ×AO} {l r:La}:C1 p l r->C1 p (q::l) (q::r)
theorem C1.perm{p:aJ×AO}{led rest:La}(h:C1 p led rest):led.Perm (p::rest):=by
 induction h with
 | head r=>exact .refl _
 | @tail q l r _ ih=>exact(ih.cons q).trans (.swap _ _ _)
noncomputable def Sb(l r:La):Prop:=∃ x,l.Perm (r++x)
theorem Sb.nil{l:La}:Sb l []:=⟨l,.refl _⟩
theorem Sb.of{l r:La}(h:l.Perm r):Sb l r:=⟨[],by rw[bA]; exact h⟩
theorem Sb.refl{l:La}:Sb l l:= .of (.refl _)
theorem Sb.left{l r:La}:Sb (l++r) l:=⟨r,.refl _⟩
theorem Sb.trans{a b c:La}:Sb a b->Sb b c->Sb a c:=λ⟨x,h⟩ ⟨y,g⟩=>⟨y++x,h.trans (by rw[←aP]; exact g.append_right x)⟩
theorem Sb.drop{p:aJ×AO}{l r:La}:Sb l r->Sb (p::l) r:=λ⟨x,h⟩=>⟨p::x,(h.cons p).trans gB.symm⟩
theorem Sb.cons{p:aJ×AO}{l l' r:La}(hp:C1 p l l'):Sb l' r->Sb l (p::r):=λ⟨x,h⟩=>⟨x,hp.perm.trans (h.cons p)⟩
theorem Sb.app{X l r:La}:Sb l r->Sb (l++X) (r++X):=λ⟨x,h⟩=>⟨x,(h.append_right X).trans (by rw[aP,aP]; exact kD _ cV)⟩
theorem Sb.pre{X l r:La}:Sb l r->Sb (X++l) (X++r):=λ⟨x,h⟩=>⟨x,by rw[aP]; exact kD _ h⟩
theorem Sb.skip{X l:La}:Sb (l++X) X:=⟨l,cV⟩
theorem Sb.mid{X Y Z:La}:Sb (X++(Y++Z)) (X++Z):= .pre .skip
theorem C1.mem{p:aJ×AO}{l r:La}(h:C1 p l r):p∈l/\(∀ q∈r,q∈l)/\((l.map (·.1)).Nodup->p.1∉r.map (·.1)/\(r.map (·.1)).Nodup):=by
 induction h with
 | head r=>exact⟨.head _,λ q h=> .tail _ h,λ h=>by rw[cP,aZ]at h; exact h⟩
 | @tail q l r _ ih=>
  refine⟨.tail _ ih.1,λ x hx=>?_,λ h=>?_⟩
  ·rcases bE.mp hx with e | hx
   ·rw[e]; exact .head _
   ·exact .tail _ (ih.2.1 x hx)
  ·rw[cP,aZ]at h ⊢
   have:=ih.2.2 h.2
   refine⟨λ e=>?_,λ e=>?_,this.2⟩
   ·rcases bE.mp e with e | e
    ·exact h.1 (e▸aY ih.1)
    ·exact this.1 e
   ·obtain⟨x,hx,e⟩:=dX.mp e
    exact h.1 (e▸aY (ih.2.1 x hx))
theorem Sb.mem{l r:La}:Sb l r->(∀ q∈r,q∈l)/\((l.map (·.1)).Nodup->(r.map (·.1)).Nodup):=λ⟨x,h⟩=>
 ⟨λ q hq=>h.mem_iff.mpr (aG _ hq),λ hn=>by
  have:=(h.map (·.1)).nodup_iff.mp hn
  rw[bB,eC]at this; exact this.1⟩
section
variable{c:Cx}{m:Lm}{led:La}{h h':bF}
theorem B6.get(r:B6 c m led h){a:aJ}{ao:AO}(hm:(a,ao)∈led):∃ o,L9 c.w ao o/\h.get? a=some o:=r.at hm λ ho hg V V=>⟨_,ho,hg⟩
theorem B6.base(r:B6 c m led h){a:aJ}{o:Obj}(e:c.g.get? a=some o):h.get? a=some o:=r.frE λ F V=>F.keep a o e
theorem B6.keep(r:B6 c m led h)(hk:∀ b o,h.get? b=some o->h'.get? b=some o):B6 c m led h':=
 r.frE λ F hm=>⟨⟨_,F.keeps hk,hm⟩,λ p hp=>r.at hp λ ho hg hl hz=>⟨_,ho,hk _ _ hg,hl,hz⟩,r.nd,r.fk,r.lc⟩
theorem B6.sub{led':La}(r:B6 c m led h)(s:Sb led led'):B6 c m led' h:=
 ⟨r.fr,λ p hp=>r.nw p (s.mem.1 p hp),s.mem.2 r.nd,r.fk,r.lc⟩
theorem B6.locs{m':Lm}(r:B6 c m led h)(s:∀ x v,lk x m'=some v->lk x m=some v):B6 c m' led h:=
 r.frE λ F hm=>⟨⟨_,F,λ x v e=>hm x v (s x v e)⟩,r.nw,r.nd,r.fk,λ x v e=>r.lc x v (s x v e)⟩
theorem B6.gl(r:B6 c m led h):c.g.get? c.env.locals=none:=r.frE λ F V=>by
 cases e:c.g.get? c.env.locals with
 | none=>rfl
 | some o=>exact absurd (dK (bM e) F.above) (gO _)
theorem B6.nl(r:B6 c m led h):c.env.locals∉led.map (·.1):=λ e=>j7 e λ V hq e=>r.at hq λ V V hl V=>hl e
theorem B6.ng(r:B6 c m led h){b:aJ}{o:Obj}(e:c.g.get? b=some o):b∉led.map (·.1):=λ h=>j7 h λ V hq e2=>r.at hq λ V V V hz=>nn (hz.symm.trans ((congrArg c.g.get? e2).trans e))
theorem B6.fresh(r:B6 c m led h){D:aJ}(hD:h.objs.size<=D):D≠c.env.locals/\c.g.get? D=none/\D∉led.map (·.1):=
 r.frE λ F V=>⟨gF (dK F.ns.lt hD),Z7 F hD,λ e=>j7 e λ p hp e=>r.at hp λ V hg V V=>absurd (bM hg) (Nat.not_lt.mpr (show @LE.le Nat _ h.objs.size p.1 from e▸hD))⟩
theorem B6.new(r:B6 c m led h){D:aJ}{o:Obj}{ao:AO}(hk:∀ b o,h.get? b=some o->h'.get? b=some o)(hD:h.objs.size<=D)(hg:h'.get? D=some o)(ho:L9 c.w ao o):B6 c m ((D,ao)::led) h':=
 have f:=r.fresh hD
 have r':=r.keep hk
 ⟨r'.fr,λ p hp=>S3 (C:=CV c h') hp ⟨o,ho,hg,f.1,f.2.1⟩ (r'.nw p),aZ.mpr ⟨f.2.2,r.nd⟩,r.fk,r.lc⟩
theorem B6.push(r:B6 c m led h){o:Obj}{ao:AO}(ho:L9 c.w ao o)(hf:o.isFreed=false:=by rfl):B6 c m ((h.objs.size,ao)::led) (h.push o):=
 r.new (λ V V e=>aN _ e) (aR _) (bC h hf) ho
theorem B6.set(r:B6 c m led h){a:aJ}{o':Obj}{ao ao':AO}{rest:La}(hp:C1 (a,ao) led rest)(hs:eF a h h')(hg:h'.get? a=some o')(ho:L9 c.w ao' o'):B6 c m ((a,ao')::rest) h':=
 r.frE λ F hm=>r.at hp.mem.1 λ V V hl hz=>
 have nd:=hp.mem.2.2 r.nd
 ⟨⟨_,F.change hs hl hz,hm⟩,λ p hq=>S3 (C:=CV c h') hq ⟨o',ho,hg,hl,hz⟩ λ hq=>r.at (hp.mem.2.1 p hq) λ ho hg hl hz=>⟨_,ho,(hs.2 p.1 λ e=>nd.1 (show a∈_ from e▸aY hq)).trans hg,hl,hz⟩,aZ.mpr nd,r.fk,r.lc⟩
end
structure Ok(c:Cx)(d:Nat):Prop where
 X:(KF c.w.params).In c.g
 T:∃ p loose mean mg mb,Top p loose mean mg mb c.g
 R:U6 c.A d
 fk:c.env.scope.kind= .function
 gl:c.env.globals=mainGlobals
 bl:c.env.builtins=builtinsNs
 pe:lY (model PG c.w) c.A c.env c.E
 sm:∃ o,c.g.get? sysModules=some o
theorem Ok.ni{c:Cx}{d:Nat}(H:Ok c d):interactive c.env=false:=by
 unfold interactive
 rw[H.fk]; rfl
theorem Ok.le{c:Cx}{d e:Nat}(H:Ok c d)(h:e<=d):Ok c e:=⟨H.X,H.T,H.R.le h,H.fk,H.gl,H.bl,H.pe,H.sm⟩
inductive Kj(k:AV->La->Prop):Fl->Lm->La->Prop
 | ret {v:AV} {m:Lm} {led led':La}:Sb led led'->k v led'->Kj k (.ret v) m led
 | next {m:Lm} {led led':La}:Sb led led'->k .none led'->Kj k .next m led
theorem A5{k:AV->La->Prop}{v:AV}{m:Lm}{led led':La}(s:Sb led led')(h:k v led'):Kj k (.ret v) m led:= .ret s h
theorem I5{k:AV->La->Prop}{m:Lm}{led led':La}(s:Sb led led')(h:k .none led'):Kj k .next m led:= .next s h
theorem Ns.ex{h:bF}{L:aJ}{mm:Ev}(n:h.Ns L mm):∃ oL,h.get? L=some oL/\(∀ vs,oL.data≠ .fields vs)/\∀ (h':bF) sl,h'.get? L=some {oL with slots:=sl}->h'.Ns L mm:=by
 refine M7 λ G114 hG114=>?_; obtain⟨oL,es,ep,e,hd,r⟩:=n; refine hG114 ?_
 exact⟨oL,e,λ vs x=>(nomatch hd.symm.trans x),λ h' sl e'=>⟨_,es,ep,e',hd,r⟩⟩
theorem B6.backTo{c c':Cx}{m m2:Lm}{led led3:La}{h' h2:bF}(r:B6 c m led h')(hw:c'.w=c.w)(hg':∀ b o,h'.get? b=some o->b∉led.map (·.1)->c'.g.get? b=some o)(r3:B6 c' m2 led3 h2):B6 c m led3 h2:=
 r.frE λ F hm=>r3.frE λ F2 V=>R9 (Ns.ex F.ns) λ oL hoL V ns=>
 have hcg:∀ b o,c.g.get? b=some o->c'.g.get? b=some o:=λ b o e=>hg' b o (r.base e) (r.ng e)
 have hLoc:c'.g.get? c.env.locals=some oL:=hg' _ _ hoL r.nl
 ⟨⟨_,⟨ns _ oL.slots (F2.keep _ _ hLoc),λ b o e=>F2.keep b o (hcg b o e),F.above⟩,hm⟩,λ q hq=>r3.at hq λ ho hg V hz=>⟨_,hw▸ho,hg,λ e=>nn (hz.symm.trans ((congrArg c'.g.get? e).trans hLoc)),by
  cases e:c.g.get? q.1 with
  | none=>rfl
  | some o=>exact nn (hz.symm.trans (hcg _ _ e))⟩,r3.nd,r.fk,r.lc⟩
theorem Dh{c c':Cx}{m:Lm}{led:La}{h':bF}{k:AV->La->Prop}(r:B6 c m led h')(hw:c'.w=c.w)(hs:c'.s=c.s)
  (hg':∀ b o,h'.get? b=some o->b∉led.map (·.1)->c'.g.get? b=some o) {fl:kA} {s':aH} (x:H1 c' (Kj k) fl s'):
  V9 c m k (match (generalizing:=false) fl with | .ret v=>v | _=> .none) s':=by
 obtain⟨h2,tk2,m2,led2,fl2,e,r2,hf,hret⟩:=x
 have e:s'=c.at h2 tk2:=e.trans (congrArg (λ z:aH=>{z with heap:=h2,toks:=tk2}) hs)
 subst e
 induction hret with
 | ret s h=>exact C8 hf λ u e hu=>by subst e; exact E2.ofV (r.backTo hw hg' (r2.sub s)) hu h
 | next s h=>obtain rfl:fl=_:=hf; exact E2.ofV (a:= .none) (r.backTo hw hg' (r2.sub s)) rfl h
theorem AW{c:Cx}{m:Lm}{led:La}{h':bF}(r:B6 c m led h'):∃ ol:L5,(∀ q∈ol,h'.get? q.1=some q.2/\c.g.get? q.1=none)/\(∀ p∈led,∃ o,L9 c.w p.2 o/\(p.1,o)∈ol)/\ol.map (·.1)=led.map (·.1):=by
 have:∀ led:La,(∀ p∈led,CV c h' p)->∃ ol:L5,(∀ q∈ol,h'.get? q.1=some q.2/\c.g.get? q.1=none)/\(∀ p∈led,∃ o,L9 c.w p.2 o/\(p.1,o)∈ol)/\ol.map (·.1)=led.map (·.1):=by
  intro led
  induction led with
  | nil=>exact λ V=>⟨[],λ V h=>nm h,λ V h=>nm h,rfl⟩
  | cons p t ih=>exact λ hn=>R9 (ih λ q hq=>hn q (.tail _ hq)) λ ol h1 h2 h3=>DI (hn p (.head _)) λ o ho hg V hz=>
    ⟨(p.1,o)::ol,λ q hq=>S3 (C:=λ q:aJ×Obj=>h'.get? q.1=some q.2/\c.g.get? q.1=none) hq ⟨hg,hz⟩ (h1 q),λ q hq=>S3 (C:=λ q:aJ×AO=>∃ o',L9 c.w q.2 o'/\(q.1,o')∈(p.1,o)::ol) hq ⟨o,ho,.head _⟩ λ hq=>C8 (h2 q hq) λ o a b=>⟨o,a,.tail _ b⟩,congrArg (List.cons p.1) h3⟩
 exact this led r.nw
theorem Dw{scope:cB}{ps:Lm}{x:Str}{v:AV}(ha:(ps.all λ p=>scope.names.lookup p.1== some .local && p.1 != ("__debug__":Str))=true)(e:lk x ps=some v):scope.names.lookup x=some .local/\(x== ("__debug__":Str))=false:=by
 induction ps with
 | nil=>exact nn e
 | cons p t ih=>
  have ha:=bI.mp (fF.symm.trans ha)
  by_cases h:x=p.1
  ·have h1:=bI.mp ha.1
   rw[h]
   exact⟨jW h1.1,by rw[←jV]; exact h1.2⟩
  ·exact ih ha.2 ((y9 h).symm.trans e)
noncomputable def Hy(c:Cx)(f:aJ)(as:List AV)(m:Lm)(led:La)(k:AV->La->Prop):Prop:=∀ vs,Q1 as vs->∀ h tk,B6 c m led h->
 G2 c.b (model PG c.w) c.A (.call (.ref f) ⟨vs,[]⟩) (λ r s'=>match r with | .ok (.ret v)=>E2 c m (λ v led'=>∃ a,Rl a v/\k a led') v s' | .ok _=>False | .error e=>c.E e s') (c.at h tk)
theorem Hy.toC{c:Cx}{f:aJ}{as:List AV}{m:Lm}{led:La}{k:AV->La->Prop}{d:Nat}(H:Ok c d)(hf:keepIn (KF c.w.params) (.ref f)=true)(h:Hy c f as m led k):C9 c (.ref f) as m led k:=
 ⟨λ u hu h' r=>by obtain rfl:u=_:=hu; exact keeps_K hf h' λ b o e=>r.base (H.X b o e),λ u hu vs hvs h' tk r=>by obtain rfl:u=_:=hu; exact a6 (h vs hvs h' tk r)⟩
theorem Hy.toF{c:Cx}{f:aJ}{as:List AV}{m:Lm}{led:La}{k:AV->La->Prop}{d:Nat}{oc:aF}{od:Option aJ}{fd:FuncData}{osl:Array (Option aF)}(H:Ok c d)(hf:(KF c.w.params).lookup f=some ⟨oc,od,.func fd,osl⟩)(h:Hy c f as m led k):C9 c (.ref f) as m led k:=h.toC H (by unfold keepIn; dsimp only; rw[hf])
end
section
set_option backward.match.sparseCases false
noncomputable def J7(P:bP):La->L5->Prop
 | [],[]=>True
 | p::r,q::s=>p.1=q.1/\L9 P p.2 q.2/\J7 P r s
 | _,_=>False
theorem J7.c{P:bP}{C:L5->Prop}{p:aJ×AO}{r:La}{ol:L5}(h:J7 P (p::r) ol)(q:∀ o s,L9 P p.2 o->J7 P r s->C ((p.1,o)::s)):C ol:=by
 rcases ol with _ | ⟨⟨a,o⟩,s⟩
 ·exact h.elim
 ·exact(show p.1=a from h.1)▸q o s h.2.1 h.2.2
theorem J7.n{P:bP}{C:L5->Prop}{ol:L5}(h:J7 P [] ol)(q:C []):C ol:=by
 rcases ol with _ | ⟨_,_⟩
 ·exact q
 ·exact h.elim
theorem J7.mem{P:bP}{led:La}:∀ {ol:L5} {a:aJ} {ao:AO},J7 P led ol->(a,ao)∈led->∃ o,L9 P ao o/\(a,o)∈ol:=by
 induction led with
 | nil=>exact λ V hm=>nm hm
 | cons p r ih=>exact λ{ol a ao} h hm=>J7.c (C:=λ ol=>∃ o,L9 P ao o/\(a,o)∈ol) h λ o s h1 h2=>BW hm (λ e=>by subst e; exact⟨o,h1,.head _⟩) λ hm=>C8 (ih h2 hm) λ o a b=>⟨o,a,.tail _ b⟩
theorem J7.mem'{P:bP}:∀ {led:La} {ol:L5} {p:aJ×AO},J7 P led ol->p∈led->∃ o,L9 P p.2 o/\(p.1,o)∈ol:=λ h hm=>J7.mem h hm
section
variable{c:Cx}{m:Lm}{led:La}{h h':bF}
theorem B6.real(r:B6 c m led h):∃ mm ol,Fr c.g c.env.locals h mm/\Kf m mm/\fQ c.g c.env.locals h ol/\J7 c.w led ol:=by
 have:∀ led:La,(∀ p∈led,CV c h p)->∃ ol,fQ c.g c.env.locals h ol/\J7 c.w led ol:=by
  intro led
  induction led with
  | nil=>exact λ V=>⟨[],λ V h=>(nomatch h),trivial⟩
  | cons p t ih=>
   intro hn
   obtain⟨ol,h1,h2⟩:=ih λ q hq=>hn q (.tail _ hq)
   obtain⟨o,ho,hg⟩:=hn p (.head _)
   exact⟨(p.1,o)::ol,λ q hq=>by rcases bE.mp hq with e | hq; (rw[e]; exact hg); exact h1 q hq,rfl,ho,h2⟩
 exact r.frE λ F hm=>C8 (this led r.nw) λ ol a b=>⟨_,ol,F,hm,a,b⟩
theorem B6.of{mm:Ev}{ol:L5}(r:B6 c m led h)(F:Fr c.g c.env.locals h' mm)(hm:Kf m mm)(N:fQ c.g c.env.locals h' ol)(A:J7 c.w led ol):B6 c m led h':=
 ⟨⟨mm,F,hm⟩,λ p hp=>by obtain⟨o,a,b⟩:=A.mem' hp; exact⟨o,a,N _ b⟩,r.nd,r.fk,r.lc⟩
theorem J7.lt{P:bP}{D:aJ}{led:La}{ol:L5}(A:J7 P led ol)(lt:∀ p∈ol,p.1 < D):D∉led.map (·.1):=λ e=>by
 obtain⟨p,hp,e⟩:=dX.mp e
 obtain⟨o,_,b⟩:=A.mem' hp
 have:=lt _ b
 rw[show(p.1,o).1=D from e]at this
 exact gO _ this
theorem B6.ofNew{mm:Ev}{ol:L5}{D:aJ}{o:Obj}{ao:AO}(r:B6 c m led h)(F:Fr c.g c.env.locals h' mm)(hm:Kf m mm)(N:fQ c.g c.env.locals h' ((D,o)::ol))(A:J7 c.w led ol)
  (lt:∀ p∈ol,p.1 < D) (ho:L9 c.w ao o):B6 c m ((D,ao)::led) h':=by
 have r':=r.of F hm (λ p hp=>N p (.tail _ hp)) A
 refine⟨r'.fr,λ p hp=>?_,?_,r.fk,r.lc⟩
 ·rcases bE.mp hp with e | hp
  ·rw[e]; exact⟨o,ho,N _ (.head _)⟩
  ·exact r'.nw p hp
 ·rw[cP,aZ]
  exact⟨A.lt lt,r.nd⟩
theorem XS{vs:List aF}(h:Q1 [] vs):vs=[]:=by
 cases vs with
 | nil=>rfl
 | cons v r=>exact h.elim
theorem S8{C:List aF->Prop}{a:AV}{as:List AV}{vs:List aF}(h:Q1 (a::as) vs)(q:∀ v r,Rl a v->Q1 as r->C (v::r)):C vs:=by
 rcases vs with _ | ⟨v,r⟩
 ·exact h.elim
 ·exact q v r h.1 h.2
theorem a0{C:List aF->Prop}{vs:List aF}(h:Q1 [] vs)(q:C []):C vs:=by
 rcases vs with _ | ⟨v,r⟩
 ·exact q
 ·exact h.elim
theorem Cm{C:List aF->Prop}{a:AV}{vs:List aF}(h:Q1 [a] vs)(q:∀ v,Rl a v->C [v]):C vs:=S8 h λ v V h1 h=>a0 (C:=λ r=>C (v::r)) h (q v h1)
theorem z4{C:List aF->Prop}{a b:AV}{vs:List aF}(h:Q1 [a,b] vs)(q:∀ v u,Rl a v->Rl b u->C [v,u]):C vs:=S8 h λ v V h1 h=>Cm (C:=λ r=>C (v::r)) h (q v · h1)
theorem z3{C:List aF->Prop}{a b d:AV}{vs:List aF}(h:Q1 [a,b,d] vs)(q:∀ v u x,Rl a v->Rl b u->Rl d x->C [v,u,x]):C vs:=S8 h λ v V h1 h=>z4 (C:=λ r=>C (v::r)) h (q v · · h1)
theorem Kd{C:List aF->Prop}{a b d e:AV}{vs:List aF}(h:Q1 [a,b,d,e] vs)(q:∀ v u x y,Rl a v->Rl b u->Rl d x->Rl e y->C [v,u,x,y]):C vs:=S8 h λ v V h1 h=>z3 (C:=λ r=>C (v::r)) h (q v · · · h1)
theorem Wa{C:List aF->Prop}{a b d e f:AV}{vs:List aF}(h:Q1 [a,b,d,e,f] vs)(q:∀ v u x y z,Rl a v->Rl b u->Rl d x->Rl e y->Rl f z->C [v,u,x,y,z]):C vs:=S8 h λ v V h1 h=>Kd (C:=λ r=>C (v::r)) h (q v · · · · h1)
theorem CR{a:AV}{vs:List aF}(h:Q1 [a] vs):∃ v,vs=[v]/\Rl a v:=Cm (C:=λ vs=>∃ v,vs=[v]/\Rl a v) h λ v h1=>⟨v,rfl,h1⟩
theorem U3{a b:AV}{vs:List aF}(h:Q1 [a,b] vs):∃ v u,vs=[v,u]/\Rl a v/\Rl b u:=z4 (C:=λ vs=>∃ v u,vs=[v,u]/\Rl a v/\Rl b u) h λ v u h1 h2=>⟨v,u,rfl,h1,h2⟩
theorem XT{a b d:AV}{vs:List aF}(h:Q1 [a,b,d] vs):∃ v u x,vs=[v,u,x]/\Rl a v/\Rl b u/\Rl d x:=z3 (C:=λ vs=>∃ v u x,vs=[v,u,x]/\Rl a v/\Rl b u/\Rl d x) h λ v u x h1 h2 h3=>⟨v,u,x,rfl,h1,h2,h3⟩
theorem Rl.i{C:aF->Prop}{x:Int}{v:aF}(h:Rl (.int x) v)(q:∀ t,C (.int x t)):C v:=h.elim λ t e=>e▸q t
theorem Rl.s{C:aF->Prop}{x:Str}{v:aF}(h:Rl (.str x) v)(q:∀ t,C (.str x t)):C v:=h.elim λ t e=>e▸q t
theorem Rl.B{C:aF->Prop}{ns:List Int}{v:aF}(h:Rl (.bytes ns) v)(q:∀ {b} t,cN b=ns->C (.bytes b t)):C v:=h.elim λ V h=>h.elim λ t h=>h.1▸q t h.2
theorem Rl.r{C:aF->Prop}{a:aJ}{v:aF}(h:Rl (.ref a) v)(q:C (.ref a)):C v:=(show v= .ref a from h)▸q
end
section
variable{c:Cx}{m:Lm}{led:La}{k:AV->La->Prop}{d:Nat}
theorem br{b:Bool}{P Q:Prop}(h1:b=true->P)(h2:b=false->Q):Br b P Q:=⟨h1,h2⟩
theorem J5{P Q:Prop}(h:P):Br true P Q:=⟨λ V=>h,λ e=>nomatch e⟩
theorem G1{P Q:Prop}(h:Q):Br false P Q:=⟨(λ e=>nomatch e),λ V=>h⟩
theorem s8{p:Prop} [Decidable p]{P Q:Prop}(h1:p->P)(h2:¬ p->Q):Br (decide p) P Q:=⟨λ h=>h1 (of_decide_eq_true h),λ h=>h2 (of_decide_eq_false h)⟩
theorem P9{p:Prop} [Decidable p]{P Q:Prop}(h:p)(hP:P):Br (decide p) P Q:=⟨λ V=>hP,λ e=>absurd h (of_decide_eq_false e)⟩
theorem S7{p:Prop} [Decidable p]{P Q:Prop}(h:¬ p)(hQ:Q):Br (decide p) P Q:=⟨λ e=>absurd (of_decide_eq_true e) h,λ V=>hQ⟩
theorem S6{a b:Int}{P Q:Prop}(h1:a=b->P)(h2:a≠b->Q):Br (a== b) P Q:=⟨λ h=>h1 (by simpa using h),λ h=>h2 (by simpa using h)⟩
theorem L8{a b:Int}{P Q:Prop}(h:a=b)(hP:P):Br (a== b) P Q:=⟨λ V=>hP,λ e=>absurd h (by simpa using e)⟩
theorem F7{a b:Int}{P Q:Prop}(h:a≠b)(hQ:Q):Br (a== b) P Q:=⟨λ e=>absurd (by simpa using e) h,λ V=>hQ⟩
theorem MZ{a b:Int}{P Q:Prop}(h1:a≠b->P)(h2:a=b->Q):Br (a != b) P Q:=⟨λ h=>h1 (by simpa using h),λ h=>h2 (by simpa using h)⟩
theorem JN{a b:Int}{P Q:Prop}(h:a≠b)(hP:P):Br (a != b) P Q:=⟨λ V=>hP,λ e=>absurd (by simpa using e) h⟩
theorem W9{a b:Int}{P Q:Prop}(h:a=b)(hQ:Q):Br (a != b) P Q:=⟨λ e=>absurd h (by simpa using e),λ V=>hQ⟩
theorem X3{b:Bool}{P Q:Prop}(h:Br b Q P):Br (!b) P Q:=by cases b; exact⟨λ V=>h.2 rfl,λ e=>nomatch e⟩; exact⟨(λ e=>nomatch e),λ V=>h.1 rfl⟩
noncomputable def W(c:Cx)(m:Lm)(k:AV->La->Prop)(t:Sem aF)(s:aH):Prop:=wpAny (model PG c.w) c.A t (V9 c m k) c.E s
noncomputable def WI(c:Cx)(m:Lm)(led:La)(k:AV->La->Prop)(t:Sem aF):Prop:=∀ h tk,B6 c m led h->W c m k t (c.at h tk)
variable{f:List aF->Sem aF}{a a':aJ}{x y:Int}{ns ns':List Int}{xs ys:Str}{av:AV}
theorem WI.op{as:List AV}(H:∀ vs,Q1 as vs->WI c m led k (f vs)):Op c f as m led k:=λ vs hv hh tk r=>A4 (H vs hv hh tk r)
theorem WI.v(H:∀ u,Rl av u->WI c m led k (f [u])):Op c f [av] m led k:=WI.op λ V hv=>Cm (C:=λ vs=>WI c m led k (f vs)) hv H
theorem WI.vv{av':AV}(H:∀ u u',Rl av u->Rl av' u'->WI c m led k (f [u,u'])):Op c f [av,av'] m led k:=WI.op λ V hv=>z4 (C:=λ vs=>WI c m led k (f vs)) hv H
theorem WI.r(H:WI c m led k (f [.ref a])):Op c f [.ref a] m led k:=WI.v λ V h=>Rl.r (C:=λ u=>WI c m led k (f [u])) h H
theorem WI.i(H:∀ t,WI c m led k (f [.int x t])):Op c f [.int x] m led k:=WI.v λ V h=>Rl.i (C:=λ u=>WI c m led k (f [u])) h H
theorem WI.B(H:∀ {b} t,cN b=ns->WI c m led k (f [.bytes b t])):Op c f [.bytes ns] m led k:=WI.v λ V h=>Rl.B (C:=λ u=>WI c m led k (f [u])) h H
theorem WI.s(H:∀ t,WI c m led k (f [.str xs t])):Op c f [.str xs] m led k:=WI.v λ V h=>Rl.s (C:=λ u=>WI c m led k (f [u])) h H
theorem WI.rv(H:∀ u,Rl av u->WI c m led k (f [.ref a,u])):Op c f [.ref a,av] m led k:=WI.vv λ V u h h'=>Rl.r (C:=λ w=>WI c m led k (f [w,u])) h (H u h')
theorem WI.iv(H:∀ t u,Rl av u->WI c m led k (f [.int x t,u])):Op c f [.int x,av] m led k:=WI.vv λ V u h h'=>Rl.i (C:=λ w=>WI c m led k (f [w,u])) h λ t=>H t u h'
theorem WI.Bv(H:∀ {b} t u,cN b=ns->Rl av u->WI c m led k (f [.bytes b t,u])):Op c f [.bytes ns,av] m led k:=WI.vv λ V u h h'=>Rl.B (C:=λ w=>WI c m led k (f [w,u])) h λ t hb=>H t u hb h'
theorem WI.rr(H:WI c m led k (f [.ref a,.ref a'])):Op c f [.ref a,.ref a'] m led k:=WI.rv λ V h=>Rl.r (C:=λ u=>WI c m led k (f [_,u])) h H
theorem WI.ri(H:∀ t,WI c m led k (f [.ref a,.int x t])):Op c f [.ref a,.int x] m led k:=WI.rv λ V h=>Rl.i (C:=λ u=>WI c m led k (f [_,u])) h H
theorem WI.ii(H:∀ t u,WI c m led k (f [.int x t,.int y u])):Op c f [.int x,.int y] m led k:=WI.iv λ t V h=>Rl.i (C:=λ u=>WI c m led k (f [_,u])) h (H t)
theorem WI.ir(H:∀ t,WI c m led k (f [.int x t,.ref a])):Op c f [.int x,.ref a] m led k:=WI.iv λ t V h=>Rl.r (C:=λ u=>WI c m led k (f [_,u])) h (H t)
theorem WI.Bi(H:∀ {b} t u,cN b=ns->WI c m led k (f [.bytes b t,.int y u])):Op c f [.bytes ns,.int y] m led k:=WI.Bv λ t V hb h=>Rl.i (C:=λ u=>WI c m led k (f [_,u])) h λ u=>H t u hb
theorem B6.i{h:bF}{tk:Nat}{t:Tok}(r:B6 c m led h)(q:k (.int x) led):V9 c m k (.int x t) (c.at h tk):=E2.ofV (a:= .int _) r ⟨_,rfl⟩ q
theorem B6.bl{h:bF}{tk:Nat}{b:Bool}(r:B6 c m led h)(q:k (.bool b) led):V9 c m k (.bool b) (c.at h tk):=E2.ofV (a:= .bool _) r rfl q
theorem B6.n{h:bF}{tk:Nat}(r:B6 c m led h)(q:k .none led):V9 c m k .none (c.at h tk):=E2.ofV (a:= .none) r rfl q
theorem B6.s{h:bF}{tk:Nat}{t:Tok}(r:B6 c m led h)(q:k (.str xs) led):V9 c m k (.str xs t) (c.at h tk):=E2.ofV (a:= .str _) r ⟨_,rfl⟩ q
theorem B6.B{h:bF}{tk:Nat}{b:Array UInt8}{t:Tok}(r:B6 c m led h)(e:cN b=ns)(q:k (.bytes ns) led):V9 c m k (.bytes b t) (c.at h tk):=E2.ofV (a:= .bytes _) r ⟨b,t,rfl,e⟩ q
theorem B6.R{h:bF}{tk:Nat}(r:B6 c m led h)(q:k (.ref a) led):V9 c m k (.ref a) (c.at h tk):=E2.ofV (a:= .ref _) r rfl q
structure Rd(c:Cx)(m:Lm)(led:La)(h:bF)(mm:Ev)(ol:L5):Prop where
 r:B6 c m led h
 F:Fr c.g c.env.locals h mm
 hl:Kf m mm
 N:fQ c.g c.env.locals h ol
 A:J7 c.w led ol
section
variable{h h':bF}{G:Prop}{mm:Ev}{ol:L5}{tk:Nat}
theorem B6.op(r:B6 c m led h)(q:∀ {mm ol},Rd c m led h mm ol->G):G:=VM r.real λ V V a b d e=>q ⟨r,a,b,d,e⟩
theorem Rd.get{a:aJ}{ao:AO}(R:Rd c m led h mm ol)(ha:(a,ao)∈led)(q:∀ {o},L9 c.w ao o->(a,o)∈ol->G):G:=C8 (R.A.mem ha) λ V=>q
theorem Rd.L(R:Rd c m led h mm ol)(ha:(a,AO.ints ns)∈led)(q:∀ {vs n},(a,listOf vs.toArray n)∈ol->cE vs ns->G):G:=
 R.get ha λ h hm=>Q4 h λ V V e hi=>q (e▸hm) hi
theorem Rd.LL{as:List AV}(R:Rd c m led h mm ol)(ha:(a,AO.list as)∈led)(q:∀ {vs n},(a,listOf vs.toArray n)∈ol->Q1 as vs->G):G:=
 R.get ha λ h hm=>Q4 h λ V V e hi=>q (e▸hm) hi
theorem Rd.T{as:List AV}(R:Rd c m led h mm ol)(ha:(a,AO.tup as)∈led)(q:∀ {vs:List aF},(a,({cls:= .type "tuple",data:= .seq vs.toArray}:Obj))∈ol->Q1 as vs->G):G:=
 R.get ha λ h hm=>C8 h λ V e hi=>q (e▸hm) hi
theorem Rd.I{C d:aJ}(R:Rd c m led h mm ol)(ha:(a,AO.inst C d)∈led)(q:(a,instObj C d)∈ol->G):G:=R.get ha λ h hm=>q ((show _=instObj C d from h)▸hm)
theorem Rd.D{es:List (Str×AV)}(R:Rd c m led h mm ol)(ha:(a,AO.dict es)∈led)(q:∀ {ds n},(a,dictOf ds n)∈ol->l4 c.w.params es ds->G):G:=
 R.get ha λ h hm=>Q4 h λ V V e hi=>q (e▸hm) hi
theorem Rd.X{o:Obj}(R:Rd c m led h mm ol)(ha:(a,AO.raw o)∈led)(q:(a,o)∈ol->G):G:=R.get ha λ h hm=>q ((show _=o from h)▸hm)
theorem Rd.new{D:aJ}{o:Obj}{ao:AO}(R:Rd c m led h mm ol)(F:Fr c.g c.env.locals h' mm)(N:fQ c.g c.env.locals h' ((D,o)::ol))(lt:∀ p∈ol,p.1 < D)(ho:L9 c.w ao o)(q:k (.ref D) ((D,ao)::led)):V9 c m k (.ref D) (c.at h' tk):=
 (R.r.ofNew F R.hl N R.A lt ho).R q
theorem Rd.newL{D:aJ}{us:List aF}{n:Nat}(R:Rd c m led h mm ol)(F:Fr c.g c.env.locals h' mm)(N:fQ c.g c.env.locals h' ((D,listOf us.toArray n)::ol))(lt:∀ p∈ol,p.1 < D)(hu:cE us ns)(q:k (.ref D) ((D,.ints ns)::led)):V9 c m k (.ref D) (c.at h' tk):=
 R.new F N lt (ao:= .ints ns) ⟨us,n,rfl,hu⟩ q
theorem Rd.same(R:Rd c m led h mm ol)(F:Fr c.g c.env.locals h' mm)(N:fQ c.g c.env.locals h' ol):B6 c m led h':=R.r.of F R.hl N R.A
end
theorem Z0{x y:Int}(hy: -(2 ^ 64) < y/\y < 2 ^ 64)(h:k (.int (x*y)) led):Op c (λ vs=>binaryOp .Mult (vs.getD 0 .none) (vs.getD 1 .none)) [.int x,.int y] m led k:=
 WI.ii λ V V V V r=>P.mul_int (r.i h) (.of_right (intBits_le_64 hy.1 hy.2))
theorem U9{x y:Int}(hx: -(2 ^ 64) < x/\x < 2 ^ 64)(h:k (.int (x*y)) led):Op c (λ vs=>binaryOp .Mult (vs.getD 0 .none) (vs.getD 1 .none)) [.int x,.int y] m led k:=
 WI.ii λ V V V V r=>P.mul_int (r.i h) (.of_left (intBits_le_64 hx.1 hx.2))
theorem G5{x y:Int}(hy:0 < y)(h:k (.int (x % y)) led):Op c (λ vs=>binaryOp .Mod (vs.getD 0 .none) (vs.getD 1 .none)) [.int x,.int y] m led k:=
 WI.ii λ V V V V r=>mod_int' (jD hy) (Int.fmod_eq_emod_of_nonneg _ (jE hy)▸r.i h)
theorem M4{x y:Int}(hy:0 < y/\y < 1073741824)(h:k (.int (x / y)) led):Op c (λ vs=>binaryOp .FloorDiv (vs.getD 0 .none) (vs.getD 1 .none)) [.int x,.int y] m led k:=
 WI.ii λ V V V V r=>floordiv_int (jD hy.1) (Int.fdiv_eq_ediv_of_nonneg _ (jE hy.1)▸r.i h) (.inl (PyProof.noPylong_small (Int.natAbs_lt_natAbs_of_nonneg_of_lt (jE hy.1) hy.2)))
theorem a9{x n:Int}(hn:0<=n)(hn2:n<=1000)(hx:x.natAbs < 18446744073709551616)(h:k (.int (x*2 ^ n.toNat)) led):Op c (λ vs=>binaryOp .LShift (vs.getD 0 .none) (vs.getD 1 .none)) [.int x,.int n] m led k:=
 WI.ii λ V V V V r=>LU hn hn2 hx rfl (r.i h)
theorem Cu{x n:Int}(hn:0<=n)(h:k (.int (x / 2 ^ n.toNat)) led):Op c (λ vs=>binaryOp .RShift (vs.getD 0 .none) (vs.getD 1 .none)) [.int x,.int n] m led k:=
 WI.ii λ V V V V r=>KG hn rfl (Int.fdiv_eq_ediv_of_nonneg x (jE (lF (by decide):(0:Int) < 2 ^ n.toNat))▸r.i h)
theorem MR{x y:Int}(h:k (.int (fN x y)) led):Op c (λ vs=>binaryOp .BitOr (vs.getD 0 .none) (vs.getD 1 .none)) [.int x,.int y] m led k:=
 WI.ii λ V V V V r=>XH rfl (r.i h)
theorem EC{x y:Int}(h:k (.int (eJ x y)) led):Op c (λ vs=>binaryOp .BitAnd (vs.getD 0 .none) (vs.getD 1 .none)) [.int x,.int y] m led k:=
 WI.ii λ V V V V r=>VU rfl (r.i h)
theorem Kh{S:cB}{x:Str}{r:Option kU}(hs:c.env.scope=S)(hx:S.names.lookup x=r):c.env.kindOf x=r:=by subst hs; exact hx
theorem Ok.top{d:Nat}(H:Ok c d){G:Prop}(q:∀ {p loose mean mg mb},Top p loose mean mg mb c.g->G):G:=OJ H.T λ V V V V V=>q
theorem FE{d:Nat}{x:Str}{p:Pos}{v:aF}{a:AV}{S:cB}(H:Ok c d)(hs:c.env.scope=S)(hx:S.names.lookup x=some .globalImplicit)(e:nsIn (KF c.w.params) mainGlobals x=some (some v))(ha:Rl a v)(h:k a led)(hd:(x== ("__debug__":Str))=false):Y3 c (.Name x p) m led k:=
 λ V V r=>H.top λ T=>r.frE λ F V=>A4<|YF (Kh hs hx) e F H.X T (E2.ofV r ha h) H.fk H.gl hd
theorem A0{d:Nat}{x:Str}{p:Pos}{v:aF}{S:cB}(H:Ok c d)(hs:c.env.scope=S)(h:k (.fn v) led)(hx:some .globalImplicit=S.names.lookup x:=by exact rfl)(e:nsIn (KF c.w.params) mainGlobals x=some none:=by k_is)(hv:bootBuiltins x=some v:=by boot_by_name)(hn:true=(x != ("__name__":Str)):=by exact rfl)(hd:false=(x== ("__debug__":Str)):=by exact rfl):Y3 c (.Name x p) m led k:=
 λ V V r=>H.top λ T=>r.frE λ F V=>A4<|YZ (Kh hs hx.symm) e F H.X T hv (E2.ofV (a:= .fn _) r rfl h) (bne_iff_ne.mp hn.symm) H.fk H.gl H.bl hd.symm
theorem q9{n:String}:Kp c (.fn (.type n)) m led:=λ u hu h V=>⟨.machine,.inr (.inl rfl),by cases hu; exact .now⟩
theorem M5{n:String}:Kp c (.fn (.builtin n)) m led:=λ u hu h V=>⟨.machine,.inr (.inl rfl),by cases hu; exact .now⟩
end
end
section
section
variable{c:Cx}{m:Lm}{led rest:La}{k:AV->La->Prop}{d:Nat}
theorem B6.isList{h:bF}{a:aJ}{ns:List Int}(r:B6 c m led h)(hm:(a,AO.ints ns)∈led):∃ vs n,h.get? a=some (listOf vs.toArray n)/\cE vs ns:=by
 obtain⟨o,⟨vs,n,rfl,hi⟩,hg⟩:=r.get hm
 exact⟨vs,n,hg,hi⟩
theorem GZ{h:bF}{a:aJ}{its:Array aF}{n:Nat}(e:h.get? a=some (listOf its n)):h.IsList a its:=⟨_,e,rfl,n,rfl⟩
theorem U7{n z:Nat}(e:n=z)(hz:z<=100000):n<=sizeLine:=by rw[e,dT]; exact aS hz (aB rfl)
theorem Ol{n:Nat}(h:n<=100000):n<=1099511627776:=aS h (aB rfl)
theorem G4{as:List AV}:∀ {vs:List aF},Q1 as vs->vs.length=as.length:=by
 induction as with
 | nil=>exact λ h=>a0 (C:=λ vs=>vs.length=0) h rfl
 | cons a t ih=>exact λ h=>S8 (C:=λ vs=>vs.length=t.length+1) h λ V V V h2=>congrArg Nat.succ (ih h2)
theorem d7{as:List AV}:∀ {vs:List aF} {i:Nat} {a:AV},Q1 as vs->as[i]? =some a->∃ v,vs[i]? =some v/\Rl a v:=by
 induction as with
 | nil=>exact λ V e=>nn e
 | cons b t ih=>
  intro _ i a h
  rcases i with _ | i
  ·exact S8 (C:=λ vs=>some b=some a->∃ v,vs[0]? =some v/\Rl a v) h λ v s h1 h2 e=>⟨v,rfl,aU e▸h1⟩
  ·exact S8 (C:=λ vs=>t[i]? =some a->∃ v,vs[i+1]? =some v/\Rl a v) h λ v s h1 h2 e=>ih (vs:=s) (i:=i) h2 e
theorem Er{as:List AV}{vs:List aF}{i:Nat}{v:aF}(h:Q1 as vs)(e:vs[i]? =some v):∃ a,as[i]? =some a/\Rl a v:=
 have hi:i < as.length:=G4 h▸(aT.mp e).1
 C8 (d7 h (aM hi)) λ V h1 h2=>⟨_,aM hi,aU (h1.symm.trans e)▸h2⟩
theorem P6{w:bP}{A:bS}{E:aF->aH->Prop}{s:aH}{value slice:aE}{o i:aF}{Q:aF->aH->Prop}
  (h:∀ value,(∀ r,letTemporaryGo value o r=pure ())->wpAny (model PG w) A (subscriptTail value slice o i) Q E s):wpAny (model PG w) A (subscriptTail value slice o i) Q E s:=
 kba_turn (value':= .Name (aA "x") ⟨0,0,0,0⟩) (λ V=>rfl) (h _ λ V=>rfl)
theorem Y7{ns:List Int}:∀ {vs:List aF},Q1 (ns.map .int) vs->cE vs ns:=by
 induction ns with
 | nil=>exact λ h=>a0 (C:=λ vs=>cE vs []) h .nil
 | cons n r ih=>exact λ h=>S8 (C:=λ vs=>cE vs (n::r)) h λ V s h1 h2=>Rl.i (C:=λ v=>cE (v::s) (n::r)) h1 λ t=> .cons n t (ih h2)
theorem C3{ns:List Int}{as:List AV}(e:as=ns.map .int)(hz:ns.length<=100000)(h:∀ D,k (.ref D) ((D,.ints ns)::led)):Op c newList as m led k:=WI.op λ vs hv hh tk r=>
 have hi:=Y7 (e▸hv)
 cS ((r.push (ao:= .ints ns) ⟨vs,0,rfl,hi⟩).R (h _)) (U7 (aX.trans hi.length) hz)
theorem H3{as:List AV}(hz:as.length<=100000)(h:∀ D,k (.ref D) ((D,.list as)::led)):Op c newList as m led k:=WI.op λ vs hv hh tk r=>
 cS ((r.push (ao:= .list as) ⟨vs,0,rfl,hv⟩).R (h _)) (U7 (aX.trans (G4 hv)) hz)
theorem E4{as:List AV}(hz:as.length<=100000)(h:∀ D,k (.ref D) ((D,.tup as)::led)):Op c newTuple as m led k:=WI.op λ vs hv hh tk r=>
 cS ((r.push (ao:= .tup as) ⟨vs,rfl,hv⟩).R (h _)) (U7 (aX.trans (G4 hv)) hz)
theorem N9{f:aF}{as:List AV}(kp:Kp c (.fn f) m led)(h:Op c (λ vs=>call f vs) as m led k):C9 c (.fn f) as m led k:=⟨kp,λ V hu=>by obtain rfl:_=f:=hu; exact h⟩
theorem a4{f:String}{as:List AV}(h:Op c (λ vs=>call (.builtin f) vs) as m led k):C9 c (.fn (.builtin f)) as m led k:=N9 M5 h
theorem z8{f:String}{as:List AV}(h:Op c (λ vs=>call (.type f) vs) as m led k):C9 c (.fn (.type f)) as m led k:=N9 q9 h
theorem M2{a:aJ}{ns:List Int}(hm:(a,AO.ints ns)∈led)(hz:ns.length<=100000)(h:k (.int ns.length) led):C9 c (.fn (.builtin "len")) [.ref a] m led k:=
 a4<|WI.r λ hh tk r=>r.op λ R=>R.L hm λ hmo hi=>Xf R.N hmo hi hz λ t k'=>r.i h
theorem N7{ns:List Int}(hz:ns.length<=100000)(h:k (.int ns.length) led):C9 c (.fn (.builtin "len")) [.bytes ns] m led k:=
 a4<|WI.B λ t hb hh tk r=>KBw.len_K hb (Ol hz) (r.i h)
theorem N3{a:aJ}{as:List AV}(hm:(a,AO.list as)∈led)(hz:as.length<=100000)(h:k (.int as.length) led):C9 c (.fn (.builtin "len")) [.ref a] m led k:=
 a4<|WI.r λ hh tk r=>r.op λ R=>R.LL hm λ hmo hi=>KM.len_K R.N hmo (aX.trans (G4 hi)) (fR hz (aB (n:=100001) rfl)) (r.i h)
theorem L7{a:aJ}{ns:List Int}{x:Int}(hp:C1 (a,.ints ns) led rest)(hz:ns.length<=100000)(h:k .none ((a,.ints (ns++[x]))::rest)):C9 c (.fn (.builtin "list.append")) [.ref a,.int x] m led k:=
 a4<|WI.ri λ t hh tk r=>Q4 (r.isList hp.mem.1) λ vs n hg hi=>
  Ck hg (λ h' hs hl=>(r.set (ao':= .ints _) hp hl hs ⟨vs++[.int x t],n+1,List.push_toArray .. ▸rfl,hi.append (.cons x t .nil)⟩).n h) (U7 (aX.trans hi.length) hz)
theorem Fs{as:List AV}{a:AV}{v:aF}(h':Rl a v):∀ {vs:List aF},Q1 as vs->Q1 (as++[a]) (vs++[v]):=by
 induction as with
 | nil=>exact λ h=>a0 (C:=λ vs=>Q1 ([]++[a]) (vs++[v])) h ⟨h',trivial⟩
 | cons b as ih=>exact λ h=>S8 (C:=λ vs=>Q1 (b::as++[a]) (vs++[v])) h λ V V h1 h2=>⟨h1,ih h2⟩
theorem O8{a:aJ}{as:List AV}{x:AV}(hp:C1 (a,.list as) led rest)(hz:as.length<=100000)(h:k .none ((a,.list (as++[x]))::rest)):C9 c (.fn (.builtin "list.append")) [.ref a,x] m led k:=
 a4<|WI.rv λ v hx hh tk r=>r.at hp.mem.1 λ ho hg V V=>Q4 ho λ vs n e hi=>
  Ck (e▸hg) (λ h' hs hl=>(r.set (ao':= .list _) hp hl hs ⟨vs++[v],n+1,List.push_toArray .. ▸rfl,Fs hx hi⟩).n h) (U7 (aX.trans (G4 hi)) hz)
theorem AJ{a:aJ}{name:Str}{id:String}{k:AV->List AV->La->Prop}{ao:AO}(hl:∀ P o,L9 P ao o->∃ its n,o=listOf its n)(hm:(a,ao)∈led)(slot:Slot "list" name id)(hty:typeOf (.builtin id)=pure (.type "method_descriptor"))
  (h:k (.fn (.builtin id)) [.ref a] led):Hw c name (.ref a) m led k:=λ u hu pl hh tk r=>A4<|Rl.r (C:=λ u=>wpAny _ _ (getMethod u name pl) _ _ _) hu<|r.op λ R=>R.get hm λ ho hmo=>VN (hl _ _ ho) λ its n e=>
 listMethod_K R.N (e▸hmo) slot hty ⟨_,_,led,rfl,r,.fn (.builtin id),[.ref a],rfl,⟨rfl,trivial⟩,h⟩
theorem Dg{ns:List Int}(P:bP)(o:Obj)(h:L9 P (.ints ns) o):∃ its n,o=listOf its n:=Q4 h λ V V e V=>⟨_,_,e⟩
theorem Ii{as:List AV}(P:bP)(o:Obj)(h:L9 P (.list as) o):∃ its n,o=listOf its n:=Q4 h λ V V e V=>⟨_,_,e⟩
theorem K1{a:aJ}{k:AV->List AV->La->Prop}{ns:List Int}(hm:(a,AO.ints ns)∈led)(h:k (.fn (.builtin "list.append")) [.ref a] led):Hw c (aA "append") (.ref a) m led k:=
 AJ Dg hm PySem.F.slot_list_append PySem.F.type_list_append h
theorem R5{a:aJ}{k:AV->List AV->La->Prop}{as:List AV}(hm:(a,AO.list as)∈led)(h:k (.fn (.builtin "list.append")) [.ref a] led):Hw c (aA "append") (.ref a) m led k:=
 AJ Ii hm PySem.F.slot_list_append PySem.F.type_list_append h
theorem V0{a:aJ}{k:AV->List AV->La->Prop}{ns:List Int}(hm:(a,AO.ints ns)∈led)(h:k (.fn (.builtin "list.extend")) [.ref a] led):Hw c (aA "extend") (.ref a) m led k:=
 AJ Dg hm jL PySem.F.type_list_extend h
theorem PU{n z:Nat}(e:n=z)(hz:z<=100000):Builtin.List.listTooLong n=false:=decide_eq_false (Nat.not_lt.mpr (aS (U7 e hz) (by rw[dT]; exact aB rfl)))
theorem v8{a b:aJ}{ns ms:List Int}(hp:C1 (a,.ints ns) led rest)(hb:(b,AO.ints ms)∈rest)(hz:ns.length+ms.length<=100000)(h:k .none ((a,.ints (ns++ms))::rest)):C9 c (.fn (.builtin "list.extend")) [.ref a,.ref b] m led k:=
 a4<|WI.rr λ hh tk r=>Q4 (r.isList hp.mem.1) λ vs n hg hi=>Q4 (r.isList (hp.mem.2.1 _ hb)) λ ws n2 hg2 hj=>
  have h1:vs.toArray.size+ws.toArray.size=ns.length+ms.length:=by rw[aX,aX,hi.length,hj.length]
  call_meets jL ⟨_,hg,rfl⟩ PySem.F.entry_list_extend (PySem.F.args_list_extend_2 _ _) (PySem.AutoSeq1.list_extend_list_list_0 a _ n b _ n2 (by rw[PU h1 hz,hV]; exact eO) (aS (dC _ _) (U7 h1 hz)) (iB (U7 h1 hz)))
   ⟨hg,hg2,(r.set (ao':= .ints _) hp (dJ ..) (PySem.IsL.update hg λ x=>x++ws.toArray) ⟨vs++ws,_,by rw[List.append_toArray],hi.append hj⟩).n h⟩
theorem I4{a b:aJ}{ns ms:List Int}(ha:(a,AO.ints ns)∈led)(hb:(b,AO.ints ms)∈led)(hz:ns.length+ms.length<=100000)(h:∀ D,k (.ref D) ((D,.ints (ns++ms))::led)):Op c (λ vs=>binaryOp .Add (vs.getD 0 .none) (vs.getD 1 .none)) [.ref a,.ref b] m led k:=
 WI.rr λ hh tk r=>r.op λ R=>R.L ha λ hmo hi=>R.L hb λ hmo2 hj=>XO R.F R.N hmo hmo2 hi hj hz λ D us h' F' N' lt hu=>R.newL F' N' lt hu (h D)
theorem Ai{a:aJ}{ns:List Int}{x:Int}(ha:(a,AO.ints ns)∈led)(h0:0<=x)(h1:x<=10000)(hz:ns.length<=10)(h:∀ D,k (.ref D) ((D,.ints (bO x.toNat ns).flatten)::led)):Op c (λ vs=>binaryOp .Mult (vs.getD 0 .none) (vs.getD 1 .none)) [.ref a,.int x] m led k:=
 WI.ri λ t hh tk r=>r.op λ R=>R.L ha λ hmo hi=>WU R.F R.N hmo hi h0 h1 hz λ D us h' F' N' lt hu=>R.newL F' N' lt hu (h D)
theorem Dk{a:aJ}{ns:List Int}(ha:(a,AO.ints ns)∈led)(hz:ns.length<=100000)(h:∀ D,k (.ref D) ((D,.ints ns)::led)):C9 c (.fn (.type "list")) [.ref a] m led k:=
 z8<|WI.r λ hh tk r=>r.op λ R=>R.L ha λ hmo hi=>VP R.F R.N hmo hi hz λ D n' h' F' N' lt=>R.newL F' N' lt hi (h D)
theorem T8(H:Ok c d){ns:List Int}(hz:ns.length<=100000)(h:∀ D,k (.ref D) ((D,.ints ns)::led)):C9 c (.fn (.type "list")) [.bytes ns] m led k:=
 z8<|WI.B λ t hb hh tk r=>r.op λ R=>Vv H.R.hh R.F R.N (hb▸hz) λ D n' us h' t' F' N' lt hu=>R.newL F' N' lt (hb▸hu) (h D)
theorem H6(H:Ok c d){a:aJ}{ns:List Int}(ha:(a,AO.ints ns)∈led)(hr:∀ n∈ns,0<=n/\n < 256)(hz:ns.length<=100000)(h:k (.bytes ns) led):C9 c (.fn (.type "bytes")) [.ref a] m led k:=
 z8<|WI.r λ hh tk r=>r.op λ R=>R.L ha λ hmo hi=>OM H.R.hh R.F R.N hmo hi hr hz λ h' t k' b F' N' hb=>(R.same F' N').B hb h
theorem GO{ns:List Int}(h:k (.bytes ns) led):C9 c (.fn (.type "bytes")) [.bytes ns] m led k:=
 z8<|WI.B λ t hb hh tk r=>y1 (r.B hb h)
theorem K8{ns:List Int}{i n:Int}{value slice:aE}(h0:0<=i)(h1:i < (ns.length:Int))(hz:ns.length<=100000)(e:ns.getD i.toNat 0=n)(h:0<=n->n < 256->k (.int n) led)
  (hs:∀ o i,subscripted slice false o i=operate [o,i] (getItem o i):=by intro _ _; rfl):Op c (λ vs=>subscriptTail value slice (vs.getD 0 .none) (vs.getD 1 .none)) [.bytes ns,.int i] m led k:=
 WI.Bi λ t u hb hh tk r=>P6 λ value hv=>VH hb h0 h1 hz e (λ t' k' a b=>r.i (h a b)) (hs _ _) hv
theorem M3{a:aJ}{ns:List Int}{i n:Int}{value slice:aE}(ha:(a,AO.ints ns)∈led)(h0:0<=i)(h1:i < (ns.length:Int))(hz:ns.length<=100000)(e:ns.getD i.toNat 0=n)(h:k (.int n) led)
  (hs:∀ o i,subscripted slice false o i=operate [o,i] (getItem o i):=by intro _ _; rfl):Op c (λ vs=>subscriptTail value slice (vs.getD 0 .none) (vs.getD 1 .none)) [.ref a,.int i] m led k:=
 WI.ri λ u hh tk r=>r.op λ R=>R.L ha λ hmo hi=>P6 λ value hv=>fZ ⟨_,(R.N _ hmo).1,rfl⟩ list_getitem_lookup (VG R.N hmo hi h0 h1 hz e λ t=>r.i h) (hs _ _) hv
inductive Bt:AV->Option Int->Prop
 | none:Bt .none none
 | int (i:Int):Bt (.int i) (some i)
theorem Bt.real{a:AV}{o:Option Int}{v:aF}(h:Bt a o)(e:Rl a v):IsPart v o:=by
 induction h with
 | none=>subst e; exact .none
 | int i=>obtain⟨t,rfl⟩:=e; exact .int _ _
theorem M9{ns ms:List Int}{l u:AV}{lo hi:Option Int}{value:aE}{la ua:Option aE}{sp:Pos}(hl:Bt l lo)(hu:Bt u hi)(hz:ns.length<=100000)(e:T2 ns lo hi=ms)(h:k (.bytes ms) led):Fd c value (.Slice la ua none sp) (.bytes ns) l u m led k:=
 λ ov lv uv ho hl' hu' hh tk r=>A4<|Rl.B (C:=λ ov=>W c m k (subscriptTail value _ ov _) _) ho λ t hb=>r.op λ R=>
  P6 λ value hv=>Nz (s:=c.at hh tk) R.F R.N hb (hl.real hl') (hu.real hu') hz e (λ b' h' t' k' F' N' hb'=>(R.same F' N').B hb' h) rfl hv
theorem BO{a:aJ}{ns ms:List Int}{l u:AV}{lo hi:Option Int}{value:aE}{la ua:Option aE}{sp:Pos}(ha:(a,AO.ints ns)∈led)(hl:Bt l lo)(hu:Bt u hi)(hz:ns.length<=100000)(e:T2 ns lo hi=ms)(h:∀ D,k (.ref D) ((D,.ints ms)::led)):Fd c value (.Slice la ua none sp) (.ref a) l u m led k:=
 λ ov lv uv ho hl' hu' hh tk r=>A4<|Rl.r (C:=λ ov=>W c m k (subscriptTail value _ ov _) _) ho<|r.op λ R=>R.L ha λ hmo hi=>
  P6 λ value hv=>Ny (s:=c.at hh tk) R.F R.N hmo (hl.real hl') (hu.real hu') hi hz e (λ D us h' F' N' lt hu=>R.newL F' N' lt hu (h D)) rfl hv
theorem Lb{a:aJ}{ns:List Int}{value st:aE}{sp:Pos}(ha:(a,AO.ints ns)∈led)(hz:ns.length<=100000)(h:∀ D,k (.ref D) ((D,.ints ns.reverse)::led)):Pq c value (.Slice none none (some st) sp) (.ref a) (.int (-1)) m led k:=
 λ ov xv ho hx hh tk r=>A4<|Rl.r (C:=λ ov=>W c m k (subscriptTail value _ ov _) _) ho<|r.op λ R=>R.L ha λ hmo hi=>
  P6 λ value hv=>WP (s:=c.at hh tk) R.F R.N hmo ((Bt.int (-1)).real hx) hi hz (λ D us h' F' N' lt hu=>R.newL F' N' lt hu (h D)) (by with_unfolding_all rfl) hv
theorem EB{a b:aJ}{ns ms:List Int}(H:Ok c d)(ha:(a,AO.ints ns)∈led)(hb:(b,AO.ints ms)∈led)(h:k (.bool (decide (ns=ms))) led):Op c (λ vs=>compareOp .Eq (vs.getD 0 .none) (vs.getD 1 .none)) [.ref a,.ref b] m led k:=
 WI.rr λ hh tk r=>r.op λ R=>R.L ha λ hmo hi=>R.L hb λ hmo2 hj=>Zu H.R R.N hmo hmo2 hi hj (r.bl h)
theorem II{a b:aJ}{ns ms:List Int}(H:Ok c d)(ha:(a,AO.ints ns)∈led)(hb:(b,AO.ints ms)∈led)(h:k (.bool (!decide (ns=ms))) led):Op c (λ vs=>compareOp .NotEq (vs.getD 0 .none) (vs.getD 1 .none)) [.ref a,.ref b] m led k:=
 WI.rr λ hh tk r=>r.op λ R=>R.L ha λ hmo hi=>R.L hb λ hmo2 hj=>Za H.R R.N hmo hmo2 hi hj (r.bl h)
end
end
section
set_option backward.match.sparseCases false
noncomputable def Q8(m:Lm):Lm->Prop
 | []=>True
 | p::r=>lk p.1 m=some p.2/\Q8 m r
set_option tactic.hygienic true in
theorem Q8.lk{m:Lm}:∀ {m':Lm} {x:Str} {v:AV},Q8 m m'->Internal.lk x m'=some v->Internal.lk x m=some v
 | p::r,x,v,h,e=>by
  unfold Internal.lk at e
  split at e
  ·rename_i e'; cases e; rw[e']; exact h.1
  ·exact Q8.lk h.2 e
 | [],_,_,_,e=>nomatch e
theorem B6.lsub{c:Cx}{m m':Lm}{led:La}{h:bF}(r:B6 c m led h)(s:Q8 m m'):B6 c m' led h:=r.locs λ V V=>s.lk
noncomputable def Go{σ:Type}(P:σ->Prop)(M:σ->Lm)(L:σ->La)(rw:La)(m':Lm)(led':La):Prop:=∃ s,P s/\Q8 m' (M s)/\Sb led' (L s++rw)
theorem go{σ:Type}{P:σ->Prop}{M:σ->Lm}{L:σ->La}{rw:La}{m':Lm}{led':La}(s:σ)(h:P s)(hm:Q8 m' (M s))(hl:Sb led' (L s++rw)):Go P M L rw m' led':=⟨s,h,hm,hl⟩
noncomputable def PF{σ:Type}(P:σ->Prop)(M:σ->Lm)(L:σ->La)(m':Lm)(led':La):Prop:=∃ s,P s/\Q8 m' (M s)/\Sb led' (L s)
theorem Ht{σ:Type}{P:σ->Prop}{M:σ->Lm}{L:σ->La}{m':Lm}{led':La}(s:σ)(h:P s)(hm:Q8 m' (M s))(hl:Sb led' (L s)):PF P M L m' led':=⟨s,h,hm,hl⟩
noncomputable def ZC{σ:Type}(P Pe:σ->Prop)(M:σ->Lm)(L:σ->La)(k:Fl->Lm->La->Prop)(fl:Fl)(m':Lm)(led':La):Prop:=match fl with
 | .ret v=>k (.ret v) m' led'
 | .brk=>PF Pe M L m' led'
 | _=>PF P M L m' led'
noncomputable def Tn{σ:Type}(P Pe:σ->Prop)(M:σ->Lm)(L:σ->La)(rw:La)(k:Fl->Lm->La->Prop)(fl:Fl)(m':Lm)(led':La):Prop:=match fl with
 | .ret v=>k (.ret v) m' led'
 | .brk=>Go Pe M L rw m' led'
 | _=>Go P M L rw m' led'
section
variable{c:Cx}{m:Lm}{led rest:La}{k:Fl->Lm->La->Prop}{d:Nat}{σ:Type}
theorem X8(cs:List Str)(M:σ->Lm)(L:σ->La)(P:σ->Prop)(μ:σ->Nat)(Pe:σ->Prop)(s₀:σ){test:aE}{body:List dY}{pos:Pos}(H:Ok c d)
  (h0:P s₀) (hm:Q8 m (M s₀)) (hl:Sb led (L s₀))
  (turn:∀ s (K:Fl->Lm->La->Prop) (K2:La->Prop),(∀ fl m' led',ZC (λ s'=>P s'/\μ s' < μ s) Pe M L k fl m' led'->K fl m' led')->(∀ led',PF Pe M L (M s) led'->K2 led')->P s->Hs c (M s) 30 test (L s) λ b led'=>Br b (O6 c cs 40 body (M s) led' K) (K2 led'))
  (fin:∀ s,Pe s->k .next (M s) (L s)):Ac c (.While test body [] pos) m led k:=by
 intro hh tk r
 refine Kn (Mr (λ n s'=>∃ s h tk,s'=c.at h tk/\n=μ s/\P s/\B6 c (M s) (L s) h) ?_ (μ s₀) ⟨s₀,hh,tk,rfl,rfl,h0,(r.sub hl).lsub hm⟩)
 rintro n s' ⟨s,h,tk,rfl,rfl,hP,r⟩
 have out:∀ {m' led' h tk},B6 c m' led' h->PF Pe M L m' led'->H1 c k .next (c.at h tk):=λ r ⟨s,hs,a,b⟩=>by
  exact H1.of (fl:= .next) ((r.sub b).lsub a) rfl (fin s hs)
 refine Ei H.pe (Pr.seq (sT (turn s _ _ (λ V V V h=>h) (λ V h=>h) hP)) (λ b led' q h' tk' r'=>?_) r)
 cases b with
 | false=>
  exact out r' (q.2 rfl)
 | true=>
  refine Ei H.pe (Ed.seq (sS H.ni _ _ _ _ _ (q.1 rfl)) (λ f fl m2 led2 hf q h2 tk2 r2=>?_) r')
  have nxt:PF (λ s'=>P s'/\μ s' < μ s) M L m2 led2->∃ n',n' < μ s/\∃ s h tk,c.at h2 tk2=c.at h tk/\n'=μ s/\P s/\B6 c (M s) (L s) h:=by
   rintro⟨s',⟨hp,hμ⟩,a,b⟩
   exact⟨μ s',hμ,s',h2,tk2,rfl,rfl,hp,(r2.sub b).lsub a⟩
  cases fl with
  | next=>cases hf; exact nxt q
  | cont=>cases hf; exact nxt q
  | brk=>cases hf; exact out r2 q
  | ret v=>obtain⟨u,rfl,hu⟩:=hf; exact H1.of (fl:= .ret v) r2 ⟨u,rfl,hu⟩ q
theorem J7.addrs{P:bP}{led:La}:∀ {ol:L5},J7 P led ol->ol.map (·.1)=led.map (·.1):=by
 induction led with
 | nil=>exact λ h=>J7.n (C:=λ ol=>ol.map (·.1)=[]) h rfl
 | cons p r ih=>exact λ h=>J7.c (C:=λ ol=>ol.map (·.1)=p.1::r.map (·.1)) h λ o s V h2=>congrArg (List.cons p.1) (ih h2)
noncomputable def E7(ol:L5):La:=ol.map λ q=>(q.1,.raw q.2)
end
end
section
set_option backward.match.sparseCases false
noncomputable def AV.plain:AV->Bool
 | .fn _=>false
 | _=>true
theorem Js{a:AV}{v:aF}(h:Rl a v)(p:a.plain=true):handedIn v=true:=by
 rcases a with _ | _ | _ | _ | _ | _ | _
 ·exact(show v=_ from h)▸rfl
 ·exact(show v=_ from h)▸rfl
 ·exact Rl.i (C:=λ v=>handedIn v=true) h λ V=>rfl
 ·exact Rl.s (C:=λ v=>handedIn v=true) h λ V=>rfl
 ·exact Rl.B (C:=λ v=>handedIn v=true) h λ V V=>rfl
 ·exact(show v=_ from h)▸rfl
 ·exact ff p
section
variable{P:dB}
theorem He{x y:Str}{hs:Int}{t:Tok}{v:aF}{s:List dO}:getL x (⟨hs,.str y t,v⟩::s)=if x=y then some (some v)else getL x s:=by
 unfold getL
 rw[List.find?_cons,List.any_cons]
 by_cases hx:x=y
 ·have:(gR y t).isStr x=true:=by rw[hx]; exact beq_self_eq_true _
  rw[this,if_pos hx]
 ·have:(gR y t).isStr x=false:=by
   cases e:(gR y t).isStr x with
   | false=>rfl
   | true=>exact absurd (jW (show(y== x)=true from e)).symm hx
  rw[this,if_neg hx]
  rfl
theorem l4.c{C:List dO->Prop}{p:Str×AV}{r:List (Str×AV)}{ds:List dO}(h:l4 P (p::r) ds)(q:∀ t v s,Rl p.2 v->l4 P r s->C (⟨cH P p.1,.str p.1 t,v⟩::s)):C ds:=by
 rcases ds with _ | ⟨e,s⟩
 ·exact h.elim
 ·exact Q4 h.1 λ t v e1 hv=>e1▸q t v s hv h.2
theorem l4.n{C:List dO->Prop}{ds:List dO}(h:l4 P [] ds)(q:C []):C ds:=by
 rcases ds with _ | ⟨_,_⟩
 ·exact q
 ·exact h.elim
theorem l4.get{es:List (Str×AV)}{x:Str}:∀ {ds:List dO},l4 P es ds->(match lk x es with | some a=>∃ v,getL x ds=some (some v)/\Rl a v | none=>getL x ds=some none):=by
 induction es with
 | nil=>exact λ h=>l4.n (C:=λ ds=>getL x ds=some none) h rfl
 | cons p r ih=>
  exact λ h=>l4.c (C:=λ ds=>match lk x (p::r)with | some a=>∃ v,getL x ds=some (some v)/\Rl a v | none=>getL x ds=some none) h λ t v s hv h2=>by
   rw[He]
   by_cases hx:x=p.1
   ·rw[if_pos hx,BX hx]; exact⟨v,rfl,hv⟩
   ·rw[if_neg hx,y9 hx]; exact ih h2
theorem l4.someE{es:List (Str×AV)}{x:Str}{a:AV}{ds:List dO}{G:Prop}(h:l4 P es ds)(e:lk x es=some a)(q:∀ {v},getL x ds=some (some v)->Rl a v->G):G:=by
 have:=h.get (x:=x); rw[e]at this; exact C8 this λ V=>q
theorem l4.noneE{es:List (Str×AV)}{x:Str}{ds:List dO}(h:l4 P es ds)(e:lk x es=none):getL x ds=some none:=by
 have:=h.get (x:=x); rw[e]at this; exact this
theorem l4.isS{es:List (Str×AV)}{x:Str}{ds:List dO}(h:l4 P es ds):(getL x ds).isSome=true:=by
 cases e:lk x es with
 | none=>rw[h.noneE e]; rfl
 | some a=>exact h.someE e λ e V=>by rw[e]; rfl
theorem l4.put{es:List (Str×AV)}{x:Str}{a:AV}{v:aF}{t:Tok}(ha:Rl a v):∀ {ds:List dO},l4 P es ds->l4 P (G3 x a es) (putL x (cH P x) (.str x t) v ds):=by
 induction es with
 | nil=>exact λ h=>l4.n (C:=λ ds=>l4 P (G3 x a []) (putL x (cH P x) (.str x t) v ds)) h ⟨⟨t,v,rfl,ha⟩,trivial⟩
 | cons p r ih=>
  exact λ h=>l4.c (C:=λ ds=>l4 P (G3 x a (p::r)) (putL x (cH P x) (.str x t) v ds)) h λ t' v' s hv h2=>by
   by_cases hx:x=p.1
   ·rw[show G3 x a (p::r)=(x,a)::r from if_pos hx]
    show l4 P _ (if(gR p.1 t').isStr x=true then _ else _)
    rw[if_pos (show(gR p.1 t').isStr x=true from hx▸beq_self_eq_true p.1)]
    exact⟨⟨t',v,by rw[hx],ha⟩,h2⟩
   ·rw[show G3 x a (p::r)=p::G3 x a r from if_neg hx]
    show l4 P _ (if(gR p.1 t').isStr x=true then _ else _)
    rw[if_neg λ e:(gR p.1 t').isStr x=true=>hx (jW (show(p.1== x)=true from e)).symm]
    exact⟨⟨t',v',rfl,hv⟩,ih h2⟩
theorem l4.len{es:List (Str×AV)}:∀ {ds:List dO},l4 P es ds->ds.length=es.length:=by
 induction es with
 | nil=>exact λ h=>l4.n (C:=λ ds=>ds.length=0) h rfl
 | cons p r ih=>exact λ h=>l4.c (C:=λ ds=>ds.length=r.length+1) h λ V V V V h2=>congrArg Nat.succ (ih h2)
theorem Ia{x:Str}{a:AV}{es:Lm}:(G3 x a es).length<=es.length+1:=by
 induction es with
 | nil=>exact aR _
 | cons p r ih=>
  by_cases hx:x=p.1
  ·rw[show G3 x a (p::r)=(x,a)::r from if_pos hx]; exact fE _
  ·rw[show G3 x a (p::r)=p::G3 x a r from if_neg hx]; exact bL ih
noncomputable def XR(w:bP)(led:La)(ol:L5):Prop:=∀ p∈led,∃ o,L9 w p.2 o/\(p.1,o)∈ol
noncomputable def Ud(w:bP)(a:aJ)(rest:La)(ol:L5)(o:Obj):Prop:=∀ o',∃ ol',Upd a o o' ol ol'/\∀ ao',L9 w ao' o'->XR w ((a,ao')::rest) ol'
theorem Nt{w:bP}{a:aJ}{ao:AO}{led rest:La}(hp:C1 (a,ao) led rest):∀ {ol:L5},(led.map (·.1)).Nodup->J7 w led ol->
  ∃ o,L9 w ao o/\(a,o)∈ol/\Ud w a rest ol o:=by
 induction hp with
 | head r=>exact λ nd A=>J7.c (C:=λ ol=>∃ o,L9 w ao o/\(a,o)∈ol/\Ud w a r ol o) A λ o s ho A=>
   ⟨o,ho,.head _,λ o'=>⟨(a,o')::s,.head λ p hp e=>(aZ.mp nd).1 (A.addrs▸e▸aY (f:=λ p:aJ×Obj=>p.1) hp),λ ao' ho' p hp=>S3 (C:=λ p=>∃ o,L9 w p.2 o/\(p.1,o)∈(a,o')::s) hp ⟨o',ho',.head _⟩ λ hp=>C8 (A.mem' hp) λ o x y=>⟨o,x,.tail _ y⟩⟩⟩
 | @tail q l r hp ih=>exact λ nd A=>J7.c (C:=λ ol=>∃ o,L9 w ao o/\(a,o)∈ol/\Ud w a (q::r) ol o) A λ oq s hq A=>R9 (ih (aZ.mp nd).2 A) λ o ho hm hu=>
   ⟨o,ho,.tail _ hm,λ o'=>C8 (hu o') λ ol' U hall=>⟨(q.1,oq)::ol',.tail (λ e=>(aZ.mp nd).1 (show q.1∈_ from(show q.1=a from e)▸aY (f:=λ p:aJ×AO=>p.1) hp.mem.1)) U,λ ao' ho' p hpm=>
    have up:p∈(a,ao')::r->∃ o,L9 w p.2 o/\(p.1,o)∈(q.1,oq)::ol':=λ h=>C8 (hall ao' ho' p h) λ o2 x y=>⟨o2,x,.tail _ y⟩
    BW hpm (λ e=>up (e▸ .head _)) λ hpm=>S3 (C:=λ p=>∃ o,L9 w p.2 o/\(p.1,o)∈(q.1,oq)::ol') hpm ⟨oq,hq,.head _⟩ λ h=>up (.tail _ h)⟩⟩
end
section
variable{c:Cx}{m:Lm}{led rest:La}{d:Nat}{x dx C:aJ}{es:List (Str×AV)}{name:Str}
theorem A2{k:AV->La->Prop}{a:AV}(H:Ok c d)(h:k a led)(hx:(x,AO.inst C dx)∈led:=by tm_at "b")(hd:(dx,AO.dict es)∈led:=by tm_at "b")(he:some a=lk name es:=by exact rfl)(pl:true=a.plain:=by exact rfl)(hg:plainGet (KF c.w.params) C name=true:=by k_is)(hh:hasDictIn (KF c.w.params) C=true:=by k_is)(ha:findIn (KF c.w.params) (.ref C) name=some none:=by k_is):Op c (λ vs=>getAttr (vs.getD 0 .none) name true) [.ref x] m led k:=
 WI.r λ hh' tk r=>r.op λ R=>R.I hx λ hm=>R.D hd λ{ds n} hm2 hds=>hds.someE he.symm λ hv hr=>get_own (es:=ds) (n:=n) R.F H.X (kO R.N hm hm2) hg hh ha rfl hv (Js hr pl.symm) (E2.ofV (a:=a) r hr h)
theorem C7{k:AV->List AV->La->Prop}{f:aJ}(H:Ok c d)(h:k (.ref f) [.ref x] led)(hx:(x,AO.inst C dx)∈led:=by tm_at "b")(hd:(dx,AO.dict es)∈led:=by tm_at "b")(he:none=lk name es:=by exact rfl)(hg:plainGet (KF c.w.params) C name=true:=by k_is)(hf:findIn (KF c.w.params) (.ref C) name=some (some (.ref f)):=by k_is)(ht:isFn (KF c.w.params) (.ref f)=true:=by k_is):Hw c name (.ref x) m led k:=λ u hu pl hh' tk r=>A4<|
 Rl.r (C:=λ u=>wpAny _ _ (getMethod u name pl) _ _ _) hu<|r.op λ R=>R.I hx λ hm=>R.D hd λ{ds n} hm2 hds=>method_inst (es:=ds) (n:=n) R.F H.X (kO R.N hm hm2) hg hf ht (hds.noneE he.symm) ⟨_,_,led,rfl,r,.ref f,[.ref x],rfl,⟨rfl,trivial⟩,h⟩
theorem A8{k:La->Prop}{a:AV}(H:Ok c d)(h:k ((dx,.dict (G3 name a es))::rest))(hx:(x,AO.inst C dx)∈led:=by tm_at "b")(hp:C1 (dx,.dict es) led rest:=by tm_at "e")(hz:es.length<=900:=by exact aB rfl)(hs:findIn (KF c.w.params) (.ref C) "__setattr__"=some (some (.builtin "object.__setattr__")):=by k_is)(hpl:plainOver (KF c.w.params) C=true:=by k_is)(ht:takerIn (KF c.w.params) C name=some none:=by k_is)(hh:hasDictIn (KF c.w.params) C=true:=by k_is):MJ c (λ vs=>setAttr (vs.getD 0 .none) name (vs.getD 1 .none)) [.ref x,a] m led k:=λ vs hv hh' tk r=>A4<|
 z4 (C:=λ vs=>wpAny _ _ (setAttr (vs.getD 0 .none) name (vs.getD 1 .none)) _ _ _) hv λ V v hr ha=>Rl.r (C:=λ u=>wpAny _ _ (setAttr u name v) _ _ _) hr<|r.op λ R=>R.I hx λ hm=>R9 (Nt hp r.nd R.A) λ o ho hm2 hU=>Q4 ho λ ds n e hds=>
  C8 (hU (dictOf (putL name (cH c.w.params name) (.str name (tk+1)) v ds) (putN name ds n))) λ ol' U hall=>
  set_dict (es:=ds) (n:=n) R.F H.X R.N (kO R.N hm (e▸hm2)) rfl hs hpl ht hh hds.isS rfl (e▸U)
   (aS (dZ (hds.put ha).len) (aS Ia (aS (bL hz) (aB rfl)))) λ h' F' N'=>
   ⟨h',tk+2,_,rfl,⟨⟨_,F',R.hl⟩,λ p hpm=>C8 (hall (.dict (G3 name a es)) ⟨_,_,rfl,hds.put ha⟩ p hpm) λ o a b=>⟨o,a,N' _ b⟩,aZ.mpr (hp.mem.2.2 r.nd),r.fk,r.lc⟩,h⟩
noncomputable def Px(c:Cx)(x:Str)(a b:AV)(m:Lm)(led:La)(k:Fl->Lm->La->Prop):Prop:=match a,b with
 | .int p,.int q=>I7 c x/\k .next (G3 x (.int (p+q)) m) led
 | _,_=>False
theorem Px.el{k:Fl->Lm->La->Prop}{x:Str}{a b:AV}{G:Prop}(q:Px c x a b m led k)(h:∀ i j,a= .int i->b= .int j->I7 c x->k .next (G3 x (.int (i+j)) m) led->G):G:=by
 rcases a<;>first | exact q.elim | (rcases b<;>first | exact q.elim | exact h _ _ rfl rfl q.1 q.2)
theorem IZ{k:Fl->Lm->La->Prop}{x:Str}{px pos:Pos}{e:aE}{a:AV}(hx:lk x m=some a)(h:I0 c m 30 e led λ b led=>Px c x a b m led k):Ac c (.AugAssign (.Name x px) .Add e pos) m led k:=
 λ hh tk r=>r.frE λ F hl=>hl.at hx λ hu ha=>PM (A4<|wpAny_loadName_local r.fk (r.lc x a hx).1 F.ns hu (K5.seq (sE h) (λ v b led' hb q h tk r=>q.el λ i j ea eb ok hk=>
  Rl.i (C:=λ u=>C5 _ _ _ (inplaceOp .Add u v) _ _ _) (show Rl (.int i) _ from ea▸ha) λ t=>Rl.i (C:=λ v=>C5 _ _ _ (inplaceOp .Add _ v) _ _ _) (show Rl (.int j) _ from eb▸hb) λ t'=>
   A4 (P.iadd_int (A4<|ok.setA (a:= .int _) ⟨_,rfl⟩ (tk:=tk+1) r λ h' tk' r'=>H1.of (fl:= .next) r' rfl hk))) r))
noncomputable def H0:List Str->List AV->Lm->Lm
 | x::xs,a::as,m=>H0 xs as (G3 x a m)
 | _,_,m=>m
theorem XK{E:aF->aH->Prop}{Q:Unit->aH->Prop}{xs:List Str}:∀ {as:List AV} {vs:List aF} {m:Lm} {h:bF} {tk:Nat},(∀ x∈xs,I7 c x)->Q1 as vs->B6 c m led h->(∀ h' tk',B6 c (H0 xs as m) led h'->Q () (c.at h' tk'))->
  wpAny (model PG c.w) c.A (assignInOrder (xs.map λ n=>bindName c.env n) vs) Q E (c.at h tk):=by
 induction xs with
 | nil=>intro as _ _ _ _ _ _ r q; rcases as with _ | _<;>exact assignInOrder_nil (q _ _ r)
 | cons x xs ih=>
  intro as vs m h tk ok hv r q
  rcases as with _ | ⟨a,as⟩
  ·exact a0 (C:=λ vs=>wpAny _ _ (assignInOrder ((x::xs).map λ n=>bindName c.env n) vs) Q E (c.at h tk)) hv (aO (q h tk r))
  ·exact S8 (C:=λ vs=>wpAny _ _ (assignInOrder ((x::xs).map λ n=>bindName c.env n) vs) Q E (c.at h tk)) hv λ v vs h1 h2=>kB (lU ((ok x (.head _)).setA h1 r λ h' tk' r'=>ih (λ y hy=>ok y (.tail _ hy)) h2 r' q))
noncomputable def Fc(c:Cx)(xs:List Str)(rev:Bool)(v:AV)(m:Lm)(led:La)(k:Fl->Lm->La->Prop):Prop:=match v with
 | .ref D=>∃ as,(D,AO.tup as)∈led/\as.length=xs.length/\(∀ x∈xs,I7 c x)/\k .next (if rev then H0 xs.reverse as.reverse m else H0 xs as m) led
 | _=>False
theorem Fc.el{xs:List Str}{rev:Bool}{v:AV}{u:aF}{k:Fl->Lm->La->Prop}{G:aF->Prop}{h:bF}(q:Fc c xs rev v m led k)(hu:Rl v u)(r:B6 c m led h)
  (g:∀ D as (vs:List aF),h.get? D=some {cls:= .type "tuple",data:= .seq vs.toArray}->Q1 as vs->vs.toArray.size=xs.length->(∀ x∈xs,I7 c x)->k .next (if rev then H0 xs.reverse as.reverse m else H0 xs as m) led->G (.ref D)):G u:=by
 rcases v with _ | _ | _ | _ | _ | D | _<;>first | exact q.elim | exact Rl.r hu (DI q λ as hm hn ok hk=>r.at hm λ ho hg V V=>C8 ho λ vs e hv=>g D as vs (e▸hg) hv (aX.trans ((G4 hv).trans hn)) ok hk)
theorem E6{S:cB}{x:Str}(hs:c.env.scope=S)(h:some .local=S.names.lookup x)(hd:false=(x== ("__debug__":Str))):I7 c x:=⟨Kh hs h.symm,hd.symm⟩
theorem i5{S:cB}{xs:List Str}(hs:c.env.scope=S)(h:(xs.all λ x=>S.names.lookup x== some .local && x != ("__debug__":Str))=true):∀ x∈xs,I7 c x:=λ x hx=>
 have h:=bI.mp (dU.mp h x hx)
 E6 hs (jW h.1).symm (by rw[eq_comm,←jV]; exact h.2)
theorem W4{xs:List Str}{rev:Bool}{D:aJ}{as:List AV}{k:Fl->Lm->La->Prop}(hm:(D,AO.tup as)∈led)(hn:as.length=xs.length)(ok:∀ x∈xs,I7 c x)(h:k .next (if rev then H0 xs.reverse as.reverse m else H0 xs as m) led):Fc c xs rev (.ref D) m led k:=⟨as,hm,hn,ok,h⟩
theorem KJ{as:List AV}:∀ {vs:List aF},Q1 as vs->Q1 as.reverse vs.reverse:=by
 induction as with
 | nil=>exact λ h=>a0 (C:=λ vs=>Q1 [] vs.reverse) h trivial
 | cons a as ih=>exact λ h=>S8 (C:=λ vs=>Q1 (a::as).reverse vs.reverse) h λ v vs h1 h2=>by rw[jT,jT]; exact Fs h1 (ih h2)
theorem HC{r:Option (List Str)}{ts:List aE}{value:aE}{pos:Pos}{Q:kA->aH->Prop}{s:aH}(hs:swapsWithSole ts value pos.line c.env=pure false)(hw:swappedStores ts value c.env=pure r)
  (h:C5 c.b (model PG c.w) c.A (eval value c.env) (λ v s=>C5 c.b (model PG c.w) c.A (assignStores c.env v r ((assignEach ts c.env).map (·.2))) Q c.E s) c.E s):C5 c.b (model PG c.w) c.A (exec (.Assign ts value pos) c.env) Q c.E s:=by
 rw[PyProof.Rows.exec_Assign,hs,hw]
 exact A9 (B5 (A7 (B5 h)))
theorem B6.off1{h h':bF}(r:B6 c m led h)(he:gU h.objs.size h h'):B6 c m led h':=r.keep λ b o e=>he b o (bQ (bM e)) e
theorem KS{k:Fl->Lm->La->Prop}{elts:List aE}{kk:Nat}{tpos pos:Pos}{value:aE}(xs:List Str)(H:Ok c d)(h:I0 c m 30 value led λ v led=>Fc c xs true v m led k)
  (hs:swapsWithSole [.Tuple elts kk tpos] value pos.line c.env=pure false:=by rfl) (hw:swappedStores [.Tuple elts kk tpos] value c.env=pure (some xs):=by rfl):Ac c (.Assign [.Tuple elts kk tpos] value pos) m led k:=
 λ hh tk r=>HC hs hw (K5.seq (sE h) (λ v a led' ha q h tk r=>q.el (G:=λ v=>C5 _ _ _ (assignStores c.env v (some xs) _) _ _ _) ha r λ D as vs hg hv hn ok hk=>
  D7 (fL (D7 (hn▸wpAny_unpackItems_tuple H.R.hh ⟨_,hg,rfl,0,rfl⟩ λ h' he=>B5 (D6 (A4<|XK (E:=c.E) (λ x hx=>ok x (List.mem_reverse.mp hx)) (KJ hv) (r.off1 he) (Q:=λ V=>H1 c k .next) (λ h2 tk2 r2=>H1.of (fl:= .next) r2 rfl hk)) (λ V V x=>A7 x) λ V V x=>x))))) r)
theorem Nc{E:aF->aH->Prop}{Q:Unit->aH->Prop}{xs:List (Str×Pos)}:∀ {as:List AV} {vs:List aF} {m:Lm} {h:bF} {tk:Nat},(∀ x∈xs.map (·.1),I7 c x)->Q1 as vs->B6 c m led h->(∀ h' tk',B6 c (H0 (xs.map (·.1)) as m) led h'->Q () (c.at h' tk'))->
  wpAny (model PG c.w) c.A (assignInOrder ((assignEach (xs.map λ x=>iG x.1 x.2) c.env).map (·.2)) vs) Q E (c.at h tk):=by
 induction xs with
 | nil=>intro as _ _ _ _ _ _ r q; rcases as with _ | _<;>exact assignInOrder_nil (q _ _ r)
 | cons x xs ih=>
  intro as vs m h tk ok hv r q
  rcases as with _ | ⟨a,as⟩
  ·exact a0 (C:=λ vs=>wpAny _ _ (assignInOrder ((assignEach ((x::xs).map λ x=>iG x.1 x.2) c.env).map (·.2)) vs) Q E (c.at h tk)) hv (aO (q h tk r))
  ·exact S8 (C:=λ vs=>wpAny _ _ (assignInOrder ((assignEach ((x::xs).map λ x=>iG x.1 x.2) c.env).map (·.2)) vs) Q E (c.at h tk)) hv λ v vs h1 h2=>kB (aD (kI (lU ((ok x.1 (.head _)).setA h1 r λ h' tk' r'=>ih (λ y hy=>ok y (.tail _ hy)) h2 r' q))))
theorem Y2{env:Env}{xs:List (Str×Pos)}:(assignEach (xs.map λ x=>iG x.1 x.2) env).length=xs.length/\(assignEach (xs.map λ x=>iG x.1 x.2) env).findIdx? (·.1)=none:=by
 induction xs with
 | nil=>exact⟨rfl,rfl⟩
 | cons x xs ih=>
  refine⟨congrArg Nat.succ ih.1,?_⟩
  show List.findIdx? _ ((false,_)::_)=none
  rw[List.findIdx?_cons,ih.2]
  rfl
theorem KT{k:Fl->Lm->La->Prop}{kk:Nat}{tpos pos:Pos}{value:aE}(xs:List (Str×Pos)){elts:List aE}(H:Ok c d)(h:I0 c m 30 value led λ v led=>Fc c (xs.map (·.1)) false v m led k)(he:elts=xs.map (λ x=> .Name x.1 x.2):=by rfl)
  (hs:swapsWithSole [.Tuple elts kk tpos] value pos.line c.env=pure false:=by rfl) (hw:swappedStores [.Tuple elts kk tpos] value c.env=pure none:=by rfl):Ac c (.Assign [.Tuple elts kk tpos] value pos) m led k:=by
 subst he
 exact λ hh tk r=>HC hs hw (K5.seq (sE h) (λ v a led' ha q h tk r=>q.el (G:=λ v=>C5 _ _ _ (assignStores c.env v none _) _ _ _) ha r λ D as vs hg hv hn ok hk=>
  D7 (show wpAny _ _ (assign (.Tuple (xs.map λ x=> .Name x.1 x.2) kk tpos) c.env (.ref D)) (λ V s'=>C5 c.b (model PG c.w) c.A (pure iY) (H1 c k) c.E s') c.E (c.at h tk)from wpAny_assign_Tuple H.R.hh ⟨_,hg,rfl,0,rfl⟩ (Y2.1.trans ((aQ ..).symm.trans hn.symm)) Y2.2 λ h' (he:gU h.objs.size h h')=>Nc (E:=c.E) ok hv (r.off1 he) λ h2 tk2 r2=>A7 (H1.of (fl:= .next) r2 rfl hk))) r)
theorem E5{k:Fl->Lm->La->Prop}{value o i:aE}{px pos:Pos}(hc:O9 value=true)
  (h:I0 c m 30 value led λ v led=>I0 c m 30 o led λ ov led=>I0 c m 30 i led λ iv led=>MJ c (λ vs=>setItem (vs.getD 0 .none) (vs.getD 1 .none) (vs.getD 2 .none)) [ov,iv,v] m led λ led=>k .next m led):
  Ac c (.Assign [.Subscript o i px] value pos) m led k:=λ hh tk r=>
 Gh (K5.seq (sE h) (λ v a led' ha q h tk r=>K5.seq (sE q) (λ ov b led' hb q h tk r=>K5.seq (sE q) (λ iv d led' hd q h tk r=>Pr.seq (q [ov,iv,v] ⟨hb,hd,ha,trivial⟩) (λ V led' q h tk r=>H1.of (fl:= .next) r rfl q) r) r) r) r) (U8 hc)
end
end
section
theorem C1.app{X:La}{p:aJ×AO}{l r:La}(h:C1 p l r):C1 p (l++X) (r++X):=by
 induction h with
 | head r=>exact .head _
 | tail _ ih=>exact .tail ih
noncomputable def v3(own:List aJ)(os:aJ->Obj):La:=own.map λ a=>(a,.raw (os a))
theorem Fv{own:List aJ}{os:aJ->Obj}:(v3 own os).map (·.1)=own:=by unfold v3; rw[gC]; exact List.map_id' _
theorem Di{kp:L5}:(E7 kp).map (·.1)=kp.map (·.1):=by unfold E7; rw[gC]; rfl
theorem B6.perm{c:Cx}{m:Lm}{l l':La}{h:bF}(r:B6 c m l h)(p:l.Perm l'):B6 c m l' h:=⟨r.fr,λ q hq=>r.nw q (p.mem_iff.mpr hq),((p.map _).nodup_iff).mp r.nd,r.fk,r.lc⟩
structure Sc(c:Cx)(target:aE)(I:aJ)(own:List aJ)(kp:L5)(n:Nat)(P:Nat->aF->bF->Prop)(St:Nat->bF->Prop):Prop where
 tn:∃ fp wr Md,KTurns PG c.w c.A target I fp wr n P Md St/\(∀ b∈wr,b∈own)/\(∀ b∈fp,b∈own∨b∈kp.map (·.1)∨∃ o,c.g.get? b=some o)
 live:∀ i h,St i h->∀ b∈own,∃ o,h.get? b=some o
 self:∀ s Q E,St 0 s.heap->Q (.ref I) s->wpAny (model PG c.w) c.A (pyIter (.ref I)) Q E s
section
variable{c:Cx}{target:aE}{I:aJ}{own:List aJ}{kp:L5}{n i:Nat}{P:Nat->aF->bF->Prop}{St:Nat->bF->Prop}{m m':Lm}{X X':La}{os:aJ->Obj}{h h':bF}{tk:Nat}
theorem B6.rawE(r:B6 c m X h){b:aJ}{o:Obj}(hb:(b,AO.raw o)∈X):h.get? b=some o:=r.at hb λ ho e V V=>(show _=o from ho)▸e
theorem Ir{b:aJ}(hb:b∈own):(b,AO.raw (os b))∈X++(v3 own os++E7 kp):=aC _ (aG _ (aY (f:=λ a=>(a,AO.raw (os a))) hb))
theorem B6.owns(r:B6 c m (X++(v3 own os++E7 kp)) h){b:aJ}(hb:b∈own):h.get? b=some (os b):=r.rawE (Ir hb)
theorem B6.kps(r:B6 c m (X++(v3 own os++E7 kp)) h){p:aJ×Obj}(hp:p∈kp):h.get? p.1=some p.2:=
 r.rawE (aC _ (aC _ (aY (f:=λ q:aJ×Obj=>(q.1,AO.raw q.2)) hp)))
theorem Sc.keep(S:Sc c target I own kp n P St)(r:B6 c m (X++(v3 own os++E7 kp)) h)(r':B6 c m' (X'++(v3 own os++E7 kp)) h')(st:St i h):St i h':=
 k3 S.tn λ V V V W V hf=>W.frame _ _ _ st λ b hb o e=>(hf b hb).elim (λ q=>(r'.owns q).trans ((r.owns q).symm.trans e)) λ q=>q.elim (λ q=>LR (C:=λ b=>h.get? b=some o->h'.get? b=some o) q (λ V hp e=>(r'.kps hp).trans ((r.kps hp).symm.trans e)) e) λ q=>q.elim λ V q=>(r'.base q).trans ((r.base q).symm.trans e)
theorem B6.chg{led led':La}(r:B6 c m led h)(ho:∀ b∈own,b≠c.env.locals/\c.g.get? b=none)(hk:∀ b o,b∉own->h.get? b=some o->h'.get? b=some o)(hn:∀ p∈led',(p∈led/\p.1∉own)∨CV c h' p)(nd:(led'.map (·.1)).Nodup):B6 c m led' h':=
 r.frE λ F hm=>⟨⟨_,⟨F.ns.at' λ o e=>hk _ o (λ hb=>(ho _ hb).1 rfl) e,λ b o e=>hk b o (λ hb=>nn ((ho b hb).2.symm.trans e)) (F.keep b o e),F.above⟩,hm⟩,λ p hp=>(hn p hp).elim (λ q=>r.at q.1 λ ho hg hl hz=>⟨_,ho,hk _ _ q.2 hg,hl,hz⟩) id,nd,r.fk,r.lc⟩
theorem B6.ownd(r:B6 c m (X++(v3 own os++E7 kp)) h):∀ b∈own,b≠c.env.locals/\c.g.get? b=none:=λ V hb=>r.at (Ir hb) λ V V a z=>⟨a,z⟩
theorem B6.ndo(r:B6 c m (X++(v3 own os++E7 kp)) h):(∀ p∈X,p.1∉own)/\(∀ p∈E7 kp,p.1∉own)/\∀ os',((X++(v3 own os'++E7 kp)).map (·.1)).Nodup:=by
 have nd:=r.nd
 rw[bB,bB,Fv]at nd
 have n1:=eC.mp nd
 have n2:=eC.mp n1.2.1
 refine⟨λ p hp hb=>n1.2.2 _ (aY hp) _ (aG _ hb) rfl,λ p hp hb=>n2.2.2 _ hb _ (aY hp) rfl,λ os'=>?_⟩
 rw[bB,bB,Fv]
 exact nd
theorem B6.stepped(r:B6 c m (X++(v3 own os++E7 kp)) h)(hk:∀ b o,b∉own->h.get? b=some o->h'.get? b=some o)(hl:∀ b∈own,∃ o,h'.get? b=some o):B6 c m (X++(v3 own (λ b=>(h'.get? b).getD default)++E7 kp)) h':=
 r.chg r.ownd hk (λ p hp=>CQ hp (λ hp=> .inl ⟨aG _ hp,r.ndo.1 p hp⟩) λ hp=>CQ hp (λ hp=> .inr (LR hp λ b hb=>(hl b hb).elim λ o e=>⟨o,show o=(h'.get? b).getD default by rw[e]; rfl,e,r.ownd b hb⟩)) λ hp=> .inl ⟨aC _ (aC _ hp),r.ndo.2.1 p hp⟩) (r.ndo.2.2 _)
theorem Sc.next{go stop:aH->Prop}{E:aF->aH->Prop}(S:Sc c target I own kp n P St)(hi:i < n)(st:St i h)(r:B6 c m (X++(v3 own os++E7 kp)) h)
  (q:∀ v h' tk' os',P i v h'->St (i+1) h'->B6 c m (X++(v3 own os'++E7 kp)) h'->C5 c.b (model PG c.w) c.A (assign target c.env v) (λ V s=>go s) E (c.at h' tk')):MH c.b PG c.w c.A c.env target (.ref I) go stop E (c.at h tk):=
 k3 S.tn λ V V V W hw V=>A4 (W.item i _ _ _ hi st λ v h1 tk1 hMd hk1=>A4 (W.go i v _ _ _ hMd λ h2 hP st2 hk2=>
  q v h2 tk1 _ hP st2 (r.stepped (λ b o hb e=>hk2 b o (λ x=>hb (hw b x)) (hk1 b o (λ x=>hb (hw b x)) e)) (S.live _ _ st2))))
theorem Sc.stop{go stop:aH->Prop}{E:aF->aH->Prop}(S:Sc c target I own kp n P St)(st:St n h)(r:B6 c m (X++(v3 own os++E7 kp)) h)
  (q:∀ h' tk',B6 c m (X++E7 kp) h'->stop (c.at h' tk')):MH c.b PG c.w c.A c.env target (.ref I) go stop E (c.at h tk):=
 k3 S.tn λ V V V W hw V=>A4 (W.done _ _ _ st λ h1 tk1 hk=>q h1 tk1 (r.chg r.ownd (λ b o hb e=>hk b o (λ x=>hb (hw b x)) e) (λ p hp=> .inl (CQ hp (λ hp=>⟨aG _ hp,r.ndo.1 p hp⟩) λ hp=>⟨aC _ (aC _ hp),r.ndo.2.1 p hp⟩)) (r.sub (Sb.mid (X:=X))).nd))
end
noncomputable def Bd(t:aE)(v:aF)(h:bF)(as:List AV):Prop:=if t.ctorIdx=25 then ∃ T vs,v= .ref T/\h.IsTuple T vs.toArray/\Q1 as vs else ∃ a,as=[a]/\Rl a v
inductive Tg(c:Cx):aE->List Str->Prop
 | name {x:Str} {px:Pos}:I7 c x->Tg c (.Name x px) [x]
 | tup {xs:List (Str×Pos)} {k:Nat} {p:Pos}:(∀ x,x∈xs->I7 c x.1)->Tg c (.Tuple (xs.map λ x=> .Name x.1 x.2) k p) (xs.map (·.1))
theorem Tg.go{c:Cx}{target:aE}{xs:List Str}{v:aF}{as:List AV}{h:bF}{tk:Nat}{m:Lm}{led:La}{Q:Unit->aH->Prop}{E:aF->aH->Prop}(hh:c.A.handled=none)(g:Tg c target xs)(hb:Bd target v h as)(hl:as.length=xs.length)(r:B6 c m led h)(q:∀ h' tk',B6 c (H0 xs as m) led h'->Q () (c.at h' tk')):
  C5 c.b (model PG c.w) c.A (assign target c.env v) Q E (c.at h tk):=by
 induction g with
 | name ok=>
  refine C8 hb λ a e ha=>?_
  subst e
  exact A4 (wpAny_assign_Name (ok.setA ha r q))
 | @tup xs k p ok=>
  refine w9 hb λ T vs e hT hv=>?_
  subst e
  exact A4 (wpAny_assign_Tuple hh hT (Y2.1.trans ((aQ ..).symm.trans (hl.symm.trans ((G4 hv).symm.trans List.size_toArray.symm)))) Y2.2 λ h' (he:gU h.objs.size h h')=>Nc (λ x hx=>LR hx ok) hv (r.off1 he) λ h2 tk2 r2=>q h2 tk2 r2)
noncomputable def By(c:Cx)(target:aE)(src:AV)(led:La)(n:Nat)(It:Nat->List AV->Prop)(rest back:La)(KP:L5->Prop:=λ V=>True):Prop:=
 ∀ v,Rl src v->∀ m h tk,B6 c m led h->∀ (K E:aF->aH->Prop),
  (∀ I h' own os kp P St,(∀ i v h,P i v h->∃ as,It i as/\Bd target v h as)->Sc c target I own kp n P St->St 0 h'->B6 c m (rest++(v3 own os++E7 kp)) h'->(∀ {c' m led h},c'.w=c.w->B6 c' m (led++E7 kp) h->B6 c' m (led++back) h)->KP kp->K (.ref I) (c.at h' tk))->
  wpAny (model PG c.w) c.A (pyIter v) K E (c.at h tk)
section
variable{c:Cx}{m:Lm}{led rest:La}{k:Fl->Lm->La->Prop}{d:Nat}{σ:Type}
noncomputable def Ge(c:Cx)(M:σ->Lm)(L:σ->La)(P:Nat->σ->Prop)(kp:L5)(own:List aJ)(n:Nat)(St:Nat->bF->Prop)(k':Nat)(s':aH):Prop:=∃ i s h tk os,s'=c.at h tk/\k'=n - i/\i<=n/\P i s/\St i h/\B6 c (M s) (L s++(v3 own os++E7 kp)) h
theorem HL(cs:List Str)(M:σ->Lm)(L:σ->La)(P:Nat->σ->Prop)(Pe:σ->Prop)(s₀:σ){back:La}{target:aE}{body:List dY}{n:Nat}{I:aJ}{own:List aJ}{kp:L5}{Pv:Nat->aF->bF->Prop}{St:Nat->bF->Prop}{It:Nat->List AV->Prop}{os:aJ->Obj}{h:bF}{tk:Nat}(mt:List AV->σ->Lm)(Lt:List AV->σ->La)
  (H:Ok c d) (hIt:∀ i v h,Pv i v h->∃ as,It i as/\Bd target v h as) (asg:∀ {i as s v h tk rw} {Q:Unit->aH->Prop} {E},It i as->Bd target v h as->B6 c (M s) (L s++rw) h->(∀ h' tk',B6 c (mt as s) (Lt as s++rw) h'->Q () (c.at h' tk'))->C5 c.b (model PG c.w) c.A (assign target c.env v) Q E (c.at h tk))
  (S:Sc c target I own kp n Pv St) (st:St 0 h) (r:B6 c m (L s₀++(v3 own os++E7 kp)) h) (hm:Q8 m (M s₀)) (h0:P 0 s₀)
  (turn:∀ i as s rw,i < n->It i as->P i s->O6 c cs 40 body (mt as s) (Lt as s++rw) (Tn (P (i+1)) Pe M L rw k))
  (hdone:∀ s,P n s->Pe s) (hb:∀ {m led h},B6 c m (led++E7 kp) h->B6 c m (led++back) h) (fin:∀ s,Pe s->k .next (M s) (L s++back)):
  G2 c.b (model PG c.w) c.A (.forLoop target (.ref I) body [] c.env) (λ r s'=>match r with | .ok f=>H1 c k f s' | .error e=>cameBackBy (model PG c.w) c.A c.env c.E e s') (c.at h tk):=by
 have done:∀ {s h tk},B6 c (M s) (L s++E7 kp) h->Pe s->H1 c k .next (c.at h tk):=λ r hs=>H1.of (fl:= .next) (hb r) rfl (fin _ hs)
 refine VR (Ge c M L P kp own n St) ?_ n ⟨0,s₀,h,tk,os,rfl,rfl,bG _,h0,st,r.lsub hm⟩
 rintro k' s' ⟨i,s,h,tk,os,rfl,rfl,hi,hP,st,r⟩
 by_cases hin:i < n
 ·refine S.next hin st r λ v h' tk' os' hv st' r'=>C8 (hIt i v h' hv) λ as ha hbd=>asg ha hbd r' λ h2 tk2 r2=>?_
  refine Ei H.pe (Ed.seq (sS H.ni _ _ _ _ _ (turn i as s _ hin ha hP)) (λ f fl m3 led3 hf q h3 tk3 r3=>?_) r2)
  have nx:Go (P (i+1)) M L (v3 own os'++E7 kp) m3 led3->∃ k',k' < n - i/\Ge c M L P kp own n St k' (c.at h3 tk3):=λ q=>R9 q λ s' hQ a b=>
   have r4:=(r3.sub b).lsub a
   ⟨n - (i+1),gJ hin (cU i),i+1,s',h3,tk3,os',rfl,rfl,hin,hQ,S.keep r2 r4 (S.keep r' r2 st'),r4⟩
  rcases fl with _ | _ | _ | v
  ·obtain rfl:f=_:=hf; exact nx q
  ·obtain rfl:f=_:=hf; exact R9 q λ s' hQ a b=>done (((r3.sub b).sub Sb.mid).lsub a) hQ
  ·obtain rfl:f=_:=hf; exact nx q
  ·exact C8 hf λ u e hu=>by subst e; exact H1.of (fl:= .ret v) r3 ⟨u,rfl,hu⟩ q
 ·obtain rfl:i=n:=Nat.le_antisymm hi (Nat.not_lt.mp hin)
  exact S.stop st r λ h' tk' r'=>done r' (hdone s hP)
theorem Nv(cs:List Str)(M:σ->Lm)(L:σ->La)(P:Nat->σ->Prop)(Pe:σ->Prop)(s₀:σ){back:La}{target:aE}{xs:List Str}{body:List dY}{n:Nat}{I:aJ}{own:List aJ}{kp:L5}{Pv:Nat->aF->bF->Prop}{St:Nat->bF->Prop}{It:Nat->List AV->Prop}{os:aJ->Obj}{h:bF}{tk:Nat}
  (H:Ok c d) (tg:Tg c target xs) (hIt:∀ i v h,Pv i v h->∃ as,It i as/\Bd target v h as) (hlen:∀ i as,It i as->as.length=xs.length) (S:Sc c target I own kp n Pv St) (st:St 0 h) (r:B6 c m (L s₀++(v3 own os++E7 kp)) h) (hm:Q8 m (M s₀)) (h0:P 0 s₀)
  (turn:∀ i as s rw,i < n->It i as->P i s->O6 c cs 40 body (H0 xs as (M s)) (L s++rw) (Tn (P (i+1)) Pe M L rw k))
  (hdone:∀ s,P n s->Pe s) (hb:∀ {m led h},B6 c m (led++E7 kp) h->B6 c m (led++back) h) (fin:∀ s,Pe s->k .next (M s) (L s++back)):
  G2 c.b (model PG c.w) c.A (.forLoop target (.ref I) body [] c.env) (λ r s'=>match r with | .ok f=>H1 c k f s' | .error e=>cameBackBy (model PG c.w) c.A c.env c.E e s') (c.at h tk):=
 HL cs M L P Pe s₀ (λ as s=>H0 xs as (M s)) (λ V s=>L s) H hIt (λ ha hbd r q=>Tg.go H.R.hh tg hbd (hlen _ _ ha) r q) S st r hm h0 turn hdone hb fin
end
end
section
section
variable{c:Cx}{m:Lm}{led rest:La}{k:AV->La->Prop}{d:Nat}
theorem H9{b:Int}(h:∀ D,k (.ref D) ((D,.range 0 b 1)::led)):C9 c (.fn (.type "range")) [.int b] m led k:=
 z8<|WI.i λ t hh tk r=>call_range_1 ((r.push (ao:= .range 0 b 1) ⟨_,_,_,rfl⟩).R (h _))
theorem BQ{a b:Int}(h:∀ D,k (.ref D) ((D,.range a b 1)::led)):C9 c (.fn (.type "range")) [.int a,.int b] m led k:=
 z8<|WI.ii λ t u hh tk r=>call_range_2 ((r.push (ao:= .range a b 1) ⟨_,_,_,rfl⟩).R (h _))
theorem T5{a b s:Int}(hs:0 < s/\s < 1073741824)(h:∀ D,k (.ref D) ((D,.range a b s)::led)):C9 c (.fn (.type "range")) [.int a,.int b,.int s] m led k:=
 z8<|WI.op λ vs hv hh tk r=>z3 (C:=λ vs=>W c m k (call (.type "range") vs) (c.at hh tk)) hv λ v u x h1 h2 h3=>Rl.i (C:=λ v=>W c m k (call (.type "range") [v,u,x]) (c.at hh tk)) h1 λ t=>Rl.i (C:=λ u=>W c m k (call (.type "range") [_,u,x]) (c.at hh tk)) h2 λ u=>Rl.i (C:=λ x=>W c m k (call (.type "range") [_,_,x]) (c.at hh tk)) h3 λ x=>
  call_range_3 (jD hs.1) ((r.push (ao:= .range a b s) ⟨_,_,_,rfl⟩).R (h _)) (.inl (PyProof.noPylong_small (Int.natAbs_lt_natAbs_of_nonneg_of_lt (jE hs.1) hs.2)))
theorem B6.off{c:Cx}{m:Lm}{led:La}{h:bF}(r:B6 c m led h){I:aJ}(hI:h.objs.size<=I):I∉led.map (·.1):=(r.fresh hI).2.2
theorem B6.as{c:Cx}{m:Lm}{X led:La}{h:bF}{a:aJ}{ao ao':AO}(r:B6 c m (X++(a,ao)::led) h)(q:∀ {o},h.get? a=some o->L9 c.w ao o->L9 c.w ao' o):B6 c m (X++(a,ao')::led) h:=
 ⟨r.fr,λ p hp=>CQ hp (λ hp=>r.nw p (aG _ hp)) λ hp=>S3 (C:=CV c h) hp (r.at (p:=(a,ao)) (aC _ (.head _)) λ ho e x z=>⟨_,q e ho,e,x,z⟩) λ hp=>r.nw p (aC _ (.tail _ hp)),by have:=r.nd; rw[bB]at this ⊢; exact this,r.fk,r.lc⟩
theorem B6.rawAt{c:Cx}{m:Lm}{X led:La}{h:bF}{a:aJ}{ao:AO}{o:Obj}(r:B6 c m (X++(a,ao)::led) h)(hg:h.get? a=some o):B6 c m (X++(a,.raw o)::led) h:=r.as λ e V=>aU (e.symm.trans hg)
theorem Il{c:Cx}{m:Lm}{led:La}{h:bF}{l:aJ}{ao:AO}{o:Obj}(ho:L9 c.w ao o)(r:B6 c m (led++E7 [(l,o)]) h):B6 c m (led++[(l,ao)]) h:=B6.as (X:=led) (led:=[]) (ao:= .raw o) r λ{o'} _ h=>(show o'=o from h)▸ho
theorem d8{c:Cx}{m:Lm}{led rest led':La}{h:bF}{l:aJ}{ao:AO}{o:Obj}(r:B6 c m led h)(hp:C1 (l,ao) led rest)(hg:h.get? l=some o)(hl:Sb rest led'):B6 c m (led'++E7 [(l,o)]) h:=
 ((r.sub (.cons hp hl)).rawAt (X:=[]) hg).perm (List.perm_append_singleton (l,AO.raw o) led').symm
end
noncomputable def t9(c:Cx)(src:AV)(led:La)(n:Nat)(It:Nat->AV->Prop)(rest back:La):Prop:=
 ∀ v,Rl src v->∀ m h tk,B6 c m led h->∀ (K E:aF->aH->Prop),
  (∀ I h' kp Pv St,(∀ i v,Pv i v->∃ a,It i a/\Rl a v)->Po PG c.w c.A c.g c.env.locals n Pv I [I] kp St h'->B6 c m (rest++E7 kp) h'->I∉(rest++E7 kp).map (·.1)->(∀ {c' m led h},c'.w=c.w->B6 c' m (led++E7 kp) h->B6 c' m (led++back) h)->K (.ref I) (c.at h' tk))->
  wpAny (model PG c.w) c.A (pyIter v) K E (c.at h tk)
section
variable{c:Cx}{m:Lm}{led rest:La}{k:AV->La->Prop}{d:Nat}
theorem R4{l:La}:l++E7 []=l:=bA _
theorem P7{D:aJ}{a b s:Int}(n:Nat)(H:Ok c d)(hD:(D,AO.range a b s)∈led)(hs:eQ a b s=true)(hn:aW a b s=(n:Int)):t9 c (.ref D) led n (λ i x=>x= .int (a+(i:Int)*s)) led []:=
 λ v hv m h tk r K E q=>Rl.r (C:=λ v=>wpAny _ _ (pyIter v) K E (c.at h tk)) hv<|r.at hD λ ho hg V V=>XB ho λ t u w e=>r.op λ R=>Gp H.R.hh R.F R.N (e▸hg) hs hn λ I h' F' N' hI S V=>
  q I h' [] _ _ (λ i v h=>h.elim λ t e=>⟨_,rfl,t,e⟩) S (R4.symm▸R.same F' N') (R4.symm▸r.off hI) (λ V r=>r)
theorem AX{ns:List Int}(H:Ok c d):t9 c (.bytes ns) led ns.length (λ i x=>∃ n,ns[i]? =some n/\0<=n/\n < 256/\x= .int n) led []:=
 λ v hv m h tk r K E q=>Rl.B (C:=λ v=>wpAny _ _ (pyIter v) K E (c.at h tk)) hv λ t hb=>r.op λ R=>Gq H.R.hh R.F R.N λ I h' F' N' hI S V=>
  q I h' [] _ _ (λ i v h=>VM h λ n t h1 h2 h3 e=>⟨.int n,⟨n,h1,h2,h3,rfl⟩,t,e⟩) (hb▸S) (R4.symm▸R.same F' N') (R4.symm▸r.off hI) (λ V r=>r)
theorem X7{c:Cx}{m:Lm}{led:La}{h:bF}{l:aJ}{ao:AO}{o:Obj}{w:bP}(ho:L9 w ao o)(hw:c.w=w)(r:B6 c m (led++E7 [(l,o)]) h):B6 c m (led++[(l,ao)]) h:=Il (hw▸ho) r
theorem CF{l:aJ}{as:List AV}(H:Ok c d)(hp:C1 (l,AO.list as) led rest):t9 c (.ref l) led as.length (λ i a=>as[i]? =some a) rest [(l,.list as)]:=
 λ v hv m h tk r K E q=>Rl.r (C:=λ v=>wpAny _ _ (pyIter v) K E (c.at h tk)) hv<|r.op λ R=>R.LL hp.mem.1 λ{vs nD} hmo hi=>Dd H.R.hh R.F R.N hmo λ I h' F' N' hI S V=>
  q I h' [(l,listOf vs.toArray nD)] _ _ (λ i v e=>Er hi (by simpa using e)) (aX.trans (G4 hi)▸S) (d8 (R.same F' N') hp (N' _ hmo).1 .refl) ((d8 r hp (R.N _ hmo).1 .refl).off hI) (λ hw r=>X7 (ao:= .list as) ⟨vs,nD,rfl,hi⟩ hw r)
theorem An{l:aJ}{ns:List Int}(H:Ok c d)(hp:C1 (l,AO.ints ns) led rest):t9 c (.ref l) led ns.length (λ i a=>∃ n,ns[i]? =some n/\a= .int n) rest [(l,.ints ns)]:=
 λ v hv m h tk r K E q=>Rl.r (C:=λ v=>wpAny _ _ (pyIter v) K E (c.at h tk)) hv<|r.op λ R=>R.L hp.mem.1 λ{vs nD} hmo hi=>HV H.R.hh R.F R.N hmo hi λ I h' F' N' hI S V=>
  q I h' [(l,listOf vs.toArray nD)] _ _ (λ i v h=>Q4 h λ n t h1 e=>⟨.int n,⟨n,h1,rfl⟩,t,e⟩) S (d8 (R.same F' N') hp (N' _ hmo).1 .refl) ((d8 r hp (R.N _ hmo).1 .refl).off hI) (λ hw r=>X7 (ao:= .ints ns) ⟨vs,nD,rfl,hi⟩ hw r)
theorem t9.x{x:Str}{px:Pos}{src:AV}{n:Nat}{It:Nat->AV->Prop}{back:La}(I:t9 c src led n It rest back):By c (.Name x px) src led n (λ i as=>∃ a,as=[a]/\It i a) rest back:=by
 refine λ v hv m h tk r K E q=>I v hv m h tk r K E λ I h' kp Pv St hIt S r' hI hb=>?_
 refine M7 λ G143 hG143=>?_; obtain⟨⟨fp,wr,W,hw,hf,hf2,hL,_⟩,hlive,st⟩:=S; refine hG143 ?_
 refine(hlive _ _ st I (.head _)).elim λ o ho=>?_
 have hI2:=hf2 I (.head _)
 exact q I h' [I] (λ V=>o) kp (λ i v V=>Pv i v) St (λ i v h hv=>C8 (hIt i v hv) λ a h1 h2=>⟨[a],⟨a,rfl,h1⟩,a,rfl,h2⟩) ⟨⟨fp,wr,_,KTurns.ofWalks W (λ i v s Q E V q=>bH (a:=()) rfl q),hw,λ b hb=>by
   cases e:c.g.get? b with
   | some o=>exact .inr (.inr ⟨o,rfl⟩)
   | none=>exact(hf b hb e).elim .inl λ x=> .inr (.inl x)⟩,hlive,λ s Q E st q=>W.self 0 s Q E st q⟩ st
  (B6.perm (l:=(I,.raw o)::(rest++E7 kp)) ⟨r'.fr,λ p hp=>S3 (C:=CV c h') hp ⟨o,rfl,ho,λ e=>hL (e▸hI2.1),hI2.2⟩ (r'.nw p),aZ.mpr ⟨hI,r'.nd⟩,r'.fk,r'.lc⟩ gB.symm) hb trivial
end
section
variable{c:Cx}{m:Lm}{led rest:La}{k:Fl->Lm->La->Prop}{d:Nat}{σ:Type}
noncomputable def l5(c:Cx)(target:aE)(body:List dY)(src:AV)(m:Lm)(led:La)(k:Fl->Lm->La->Prop):Prop:=
 ∀ v,Rl src v->∀ h tk,B6 c m led h->C5 c.b (model PG c.w) c.A (pyIter v) (λ it s₂=>G2 c.b (model PG c.w) c.A (.forLoop target it body [] c.env) (λ r s'=>match r with | .ok f=>H1 c k f s' | .error e=>cameBackBy (model PG c.w) c.A c.env c.E e s') s₂) c.E (c.at h tk)
noncomputable def Ee(c:Cx)(cs:List Str)(x:Str)(px:Pos)(body:List dY)(src:AV)(m:Lm)(led:La)(k:Fl->Lm->La->Prop):Prop:=l5 c (.Name x px) body src m led k
noncomputable def Xo(c:Cx)(cs:List Str)(x:Str)(px:Pos)(body:List dY)(m:Lm)(k:Fl->Lm->La->Prop):AV->La->Prop:=λ src led'=>Ee c cs x px body src m led' k
noncomputable def VA(c:Cx)(target:aE)(body:List dY)(m:Lm)(k:Fl->Lm->La->Prop):AV->La->Prop:=λ src led'=>l5 c target body src m led' k
theorem T1{target:aE}{pos:Pos}{iter:aE}{body:List dY}(h:I0 c m 30 iter led (VA c target body m k))(hs:∀ x,foldedSetIterable iter c.env x=pure x:=by intro _; rfl):Ac c (.For target iter body [] pos) m led k:=by
 intro hh tk r
 exact PK (K5.seq (sE h) (λ v a led' ha q h tk r=>q v ha h tk r) r) hs
theorem G6(cs:List Str){x:Str}{px pos:Pos}{iter:aE}{body:List dY}(H:Ok c d)(h:I0 c m 30 iter led (Xo c cs x px body m k))
  (hs:∀ x,foldedSetIterable iter c.env x=pure x:=by intro _; rfl):Ac c (.For (.Name x px) iter body [] pos) m led k:=T1 h hs
theorem Z5(cs:List Str)(M:σ->Lm)(L:σ->La)(P:Nat->σ->Prop)(Pe:σ->Prop)(s₀:σ){target:aE}{xs:List Str}{body:List dY}{src:AV}{n:Nat}{It:Nat->List AV->Prop}{back:La}(I:By c target src led n It rest back)(H:Ok c d)(tg:Tg c target xs)(hlen:∀ i as,It i as->as.length=xs.length)(hm:Q8 m (M s₀))(hl:Sb rest (L s₀))(h0:P 0 s₀)
  (turn:∀ i as s rw (K:Fl->Lm->La->Prop),(∀ fl m' led',Tn (P (i+1)) Pe M L rw k fl m' led'->K fl m' led')->i < n->It i as->P i s->O6 c cs 40 body (H0 xs as (M s)) (L s++rw) K)
  (hdone:∀ s,P n s->Pe s) (fin:∀ s,Pe s->k .next (M s) (L s++back)):l5 c target body src m led k:=by
 intro v hv h tk r
 refine A4 (I v hv m h tk r _ _ λ I h' own os kp Pv St hIt S st r' hb V=>?_)
 exact Nv cs M L P Pe s₀ H tg hIt hlen S st (r'.sub hl.app) hm h0 (λ i as s rw hi ha hP=>turn i as s rw _ (λ V V V h=>h) hi ha hP) hdone (λ r=>hb rfl r) fin
theorem DA{It:Nat->AV->Prop}{x:Str}(i:Nat)(as:List AV)(h:∃ a,as=[a]/\It i a):as.length=[x].length:=C8 h λ V e V=>e▸rfl
theorem E8(cs:List Str)(M:σ->Lm)(L:σ->La)(P:Nat->σ->Prop)(Pe:σ->Prop)(s₀:σ){x:Str}{px:Pos}{body:List dY}{D:aJ}{a b s:Int}(n:Nat)(H:Ok c d)(sk:I7 c x)(hD:(D,AO.range a b s)∈led)
  (hs:eQ a b s=true) (hn:aW a b s=(n:Int)) (hm:Q8 m (M s₀)) (hl:Sb led (L s₀)) (h0:P 0 s₀)
  (turn:∀ i t rw (K:Fl->Lm->La->Prop),(∀ fl m' led',Tn (P (i+1)) Pe M L rw k fl m' led'->K fl m' led')->i < n->P i t->O6 c cs 40 body (G3 x (.int (a+(i:Int)*s)) (M t)) (L t++rw) K) (hdone:∀ s,P n s->Pe s) (fin:∀ s,Pe s->k .next (M s) (L s)):
  Ee c cs x px body (.ref D) m led k:=
 Z5 cs M L P Pe s₀ (xs:=[x]) (P7 n H hD hs hn).x H (.name sk) DA hm hl h0 (λ i as s rw K hK hi h hP=>C8 h λ a e1 e2=>by subst e1 e2; exact turn i s rw K hK hi hP) hdone (λ s hs=>by rw[bA]; exact fin s hs)
theorem P3(cs:List Str)(M:σ->Lm)(L:σ->La)(P:Nat->σ->Prop)(Pe:σ->Prop)(s₀:σ){x:Str}{px:Pos}{body:List dY}{ns:List Int}(H:Ok c d)(sk:I7 c x)(hm:Q8 m (M s₀))(hl:Sb led (L s₀))(h0:P 0 s₀)
  (turn:∀ i n t rw (K:Fl->Lm->La->Prop),(∀ fl m' led',Tn (P (i+1)) Pe M L rw k fl m' led'->K fl m' led')->ns[i]? =some n->0<=n->n < 256->P i t->O6 c cs 40 body (G3 x (.int n) (M t)) (L t++rw) K) (hdone:∀ s,P ns.length s->Pe s) (fin:∀ s,Pe s->k .next (M s) (L s)):
  Ee c cs x px body (.bytes ns) m led k:=
 Z5 cs M L P Pe s₀ (xs:=[x]) (AX H).x H (.name sk) DA hm hl h0 (λ i as s rw K hK hi h hP=>C8 h λ a e1 h=>DI h λ n h1 h2 h3 e2=>by subst e1 e2; exact turn i n s rw K hK h1 h2 h3 hP) hdone (λ s hs=>by rw[bA]; exact fin s hs)
theorem V3(cs:List Str)(M:σ->Lm)(L:σ->La)(P:Nat->σ->Prop)(Pe:σ->Prop)(s₀:σ){x:Str}{px:Pos}{body:List dY}{l:aJ}{ns:List Int}(H:Ok c d)(sk:I7 c x)(hp:C1 (l,AO.ints ns) led rest)(hm:Q8 m (M s₀))(hl:Sb rest (L s₀))(h0:P 0 s₀)
  (turn:∀ i n t rw (K:Fl->Lm->La->Prop),(∀ fl m' led',Tn (P (i+1)) Pe M L rw k fl m' led'->K fl m' led')->ns[i]? =some n->P i t->O6 c cs 40 body (G3 x (.int n) (M t)) (L t++rw) K) (hdone:∀ s,P ns.length s->Pe s) (fin:∀ s,Pe s->k .next (M s) (L s++[(l,.ints ns)])):
  Ee c cs x px body (.ref l) m led k:=
 Z5 cs M L P Pe s₀ (xs:=[x]) (An H hp).x H (.name sk) DA hm hl h0 (λ i as s rw K hK hi h hP=>C8 h λ a e1 h=>C8 h λ n h1 e2=>by subst e1 e2; exact turn i n s rw K hK h1 hP) hdone fin
theorem P0(cs:List Str)(M:σ->Lm)(L:σ->La)(P:Nat->σ->Prop)(Pe:σ->Prop)(s₀:σ){x:Str}{px:Pos}{body:List dY}{l:aJ}{as:List AV}(H:Ok c d)(sk:I7 c x)(hp:C1 (l,AO.list as) led rest)(hm:Q8 m (M s₀))(hl:Sb rest (L s₀))(h0:P 0 s₀)
  (turn:∀ i a t rw (K:Fl->Lm->La->Prop),(∀ fl m' led',Tn (P (i+1)) Pe M L rw k fl m' led'->K fl m' led')->as[i]? =some a->P i t->O6 c cs 40 body (G3 x a (M t)) (L t++rw) K) (hdone:∀ s,P as.length s->Pe s) (fin:∀ s,Pe s->k .next (M s) (L s++[(l,.list as)])):
  Ee c cs x px body (.ref l) m led k:=
 Z5 cs M L P Pe s₀ (xs:=[x]) (CF H hp).x H (.name sk) DA hm hl h0 (λ i as s rw K hK hi h hP=>C8 h λ a e1 h1=>by subst e1; exact turn i a s rw K hK h1 hP) hdone fin
end
end
section
theorem Iq{ol:L5}{os:aJ->Obj}:(∀ p∈ol,os p.1=p.2)->v3 (ol.map (·.1)) os=E7 ol:=by
 induction ol with
 | nil=>exact λ V=>rfl
 | cons p r ih=>
  intro h
  show(p.1,AO.raw (os p.1))::v3 (r.map (·.1)) os=(p.1,AO.raw p.2)::E7 r
  rw[h p (.head _),ih λ q hq=>h q (.tail _ hq)]
theorem B6.many{c:Cx}{m:Lm}{led:La}{h h':bF}(r:B6 c m led h)(nl:La)(hk:∀ b o,h.get? b=some o->h'.get? b=some o)(hn:∀ p∈nl,h.objs.size<=p.1/\∃ o,L9 c.w p.2 o/\h'.get? p.1=some o)(nd:(nl.map (·.1)).Nodup):B6 c m (nl++led) h':=
 have r':=r.keep hk
 ⟨r'.fr,λ p hp=>CQ hp (λ hp=>C8 (hn p hp).2 λ o ho e=>have f:=r.fresh (hn p hp).1; ⟨o,ho,e,f.1,f.2.1⟩) (r'.nw p),by
  rw[bB,eC]
  exact⟨nd,r.nd,λ a ha b hb e=>j7 ha λ p hp ep=>(r.fresh (hn p hp).1).2.2 (show p.1∈_ from ep▸e▸hb)⟩,r.fk,r.lc⟩
theorem AU{l:List aJ}(nd:l.Nodup)(i j:Nat){a b:aJ}(hi:l[i]? =some a)(hj:l[j]? =some b)(h:i < j):a≠b:=by
 obtain⟨l1,e1⟩:=aT.mp hi
 obtain⟨l2,e2⟩:=aT.mp hj
 exact e1▸e2▸List.pairwise_iff_getElem.mp nd i j l1 l2 h
theorem By.ofU{c:Cx}{elts:List aE}{k:Nat}{pos:Pos}{I:aJ}{led rest back:La}{n:Nat}{It:Nat->List AV->Prop}{fp wr:List aJ}{Pt:Nat->Array aF->Prop}{St:Nat->bF->Prop}{Mid:Nat->aJ->bF->Prop}(ol kp:L5)(hp:led.Perm (rest++(E7 ol++E7 kp)))
  (hW:((ol++kp).map (·.1)).Nodup->WalksU PG c.w c.A I fp wr n Pt St Mid) (hwr:∀ b∈wr,b∈ol.map (·.1)) (hfp:∀ b∈fp,b∈ol.map (·.1)∨b∈kp.map (·.1)) (hlive:∀ i h,St i h->∀ b∈ol.map (·.1),∃ o,h.get? b=some o)
  (hst:∀ h:bF,(∀ p∈ol++kp,h.get? p.1=some p.2)->St 0 h) (hPt:∀ i vals,Pt i vals->∃ as,It i as/\Q1 as vals.toList)
  (hback:∀ {c' m led h},c'.w=c.w->B6 c' m (led++E7 kp) h->B6 c' m (led++back) h):By c (.Tuple elts k pos) (.ref I) led n It rest back:=by
 refine λ v hv m h tk r K E q=>Rl.r (C:=λ v=>wpAny _ _ (pyIter v) K E (c.at h tk)) hv ?_
 have r':=r.perm hp
 have hg:∀ p∈ol++kp,h.get? p.1=some p.2:=λ p hp=>r'.rawE (aC _ (CQ hp (λ hp=>aG _ (aY (f:=λ q:aJ×Obj=>(q.1,AO.raw q.2)) hp)) λ hp=>aC _ (aY (f:=λ q:aJ×Obj=>(q.1,AO.raw q.2)) hp)))
 have nd:((ol++kp).map (·.1)).Nodup:=by
  have:=r'.nd
  rw[bB,bB,Di,Di,eC]at this
  rw[bB]; exact this.2.1
 have W:=hW nd
 have st:=hst h hg
 exact W.self 0 _ _ _ st (q I h (ol.map (·.1)) (λ b=>(h.get? b).getD default) kp (λ i v h=>∃ T vals,v= .ref T/\Pt i vals/\h.IsTuple T vals) St (λ i v h x=>w9 x λ T vals e hP hT=>C8 (hPt i vals hP) λ as ha hr=>⟨as,ha,T,vals.toList,e,hT,hr⟩) ⟨⟨fp,wr,_,KTurns.ofWalksU W,hwr,λ b hb=>(hfp b hb).elim .inl λ x=> .inr (.inl x)⟩,hlive,λ s Q E st q=>W.self 0 s Q E st q⟩ st
  (by rw[Iq λ p hp=>by rw[hg p (aG _ hp)]; rfl]; exact r') hback trivial)
section
variable{c:Cx}{m:Lm}{led rest:La}{k:AV->La->Prop}{d:Nat}
noncomputable def Pu(o:Obj)(it:aJ):Prop:=o={cls:= .type "enumerate",dict:=none,data:= .fields #[.none,.bool false,.ref it,rawInt 0,.none,.none],slots:=#[]}
noncomputable def XZ(o:Obj)(ns:List Int):Prop:=∃ b t,cN b=ns/\o.cls= .type "bytes_iterator"/\o.data= .fields #[.bytes b t,.int 0 0]
noncomputable def XX(o:Obj)(l:aJ):Prop:=o.cls= .type "list_iterator"/\o.data= .fields #[.ref l,.int 0 0]
theorem B6.enum{h h':bF}{tk:Nat}{oi:Obj}(r:B6 c m led h)(he:h'.get? (h.objs.size+1)=some {cls:= .type "enumerate",dict:=none,data:= .fields #[.none,.bool false,.ref h.objs.size,rawInt 0,.none,.none],slots:=#[]})(ho:h'.get? h.objs.size=some oi)(hk:∀ b o,h.get? b=some o->h'.get? b=some o)
  (q:∀ e it oe,Pu oe it->k (.ref e) ((e,.raw oe)::(it,.raw oi)::led)):V9 c m k (.ref (h.objs.size+1)) (c.at h' tk):=
 (r.many [(h.objs.size+1,.raw _),(h.objs.size,.raw oi)] hk (λ p hp=>S3 (C:=λ p:aJ×AO=>h.objs.size<=p.1/\∃ o,L9 c.w p.2 o/\h'.get? p.1=some o) hp ⟨fE _,_,rfl,he⟩ λ hp=>S3 (C:=λ p:aJ×AO=>h.objs.size<=p.1/\∃ o,L9 c.w p.2 o/\h'.get? p.1=some o) hp ⟨aR _,_,rfl,ho⟩ nm) (aZ.mpr ⟨λ hp=>BW hp (λ e=>Nat.succ_ne_self _ e) nm,aZ.mpr ⟨nm,fH⟩⟩)).R (q _ _ _ rfl)
theorem Dq{ns:List Int}(h:∀ e it oe oi,Pu oe it->XZ oi ns->k (.ref e) ((e,.raw oe)::(it,.raw oi)::led)):C9 c (.fn (.type "enumerate")) [.bytes ns] m led k:=
 z8<|WI.B λ t hb hh tk r=>d2 λ h' he hi hz hk=>R9 hi λ oi ho h1 h2=>r.enum he ho hk λ e it oe ee=>h e it oe oi ee ⟨_,t,hb,h1,h2⟩
theorem Dp{l:aJ}{ns:List Int}(hl:(l,AO.ints ns)∈led)(h:∀ e it oe oi,Pu oe it->XX oi l->k (.ref e) ((e,.raw oe)::(it,.raw oi)::led)):C9 c (.fn (.type "enumerate")) [.ref l] m led k:=
 z8<|WI.r λ hh tk r=>Q4 (r.isList hl) λ us n hg V=>call_enumerate_1 hg λ h' he hi hz hk=>R9 hi λ oi ho h1 h2=>r.enum he ho hk λ e it oe ee=>h e it oe oi ee ⟨h1,h2⟩
theorem Jo{elts:List aE}{kk:Nat}{pos:Pos}{e it:aJ}{oe oi:Obj}{ns:List Int}{r1:La}(H:Ok c d)(he:C1 (e,.raw oe) led r1)(hi:C1 (it,.raw oi) r1 rest)(h1:Pu oe it)(h2:XZ oi ns):
  By c (.Tuple elts kk pos) (.ref e) led ns.length (λ i as=>∃ n,as=[.int i,.int n]/\ns[i]? =some n/\0<=n/\n < 256) rest []:=by
 obtain⟨b,t,rfl,h2,h3⟩:=h2
 rw[fS]
 refine By.ofU (ol:=[(e,oe),(it,oi)]) (kp:=[]) (((he.perm.trans (hi.perm.cons _))).trans ?_) (λ nd=>(WalksT.enumerateD (ER (prog:=PG) (w:=c.w) (A:=c.A.in1) H.R.hh it b t) e (AU nd 0 1 rfl rfl lD) (λ q=>BW q (AU nd 0 1 rfl rfl lD) nm) (.head _)).toU) (λ b hb=>hb) (λ b hb=> .inl hb) ?_ ?_ ?_ (λ V r=>r)
 ·rw[show E7 ([]:L5)=[]from rfl,bA]
  exact(cV (l₁:=[(e,AO.raw oe),(it,AO.raw oi)]))
 ·exact λ i h x b hb=>S3 (C:=λ b=>∃ o,h.get? b=some o) hb (x.1.elim λ V x=>⟨_,x⟩) λ hb=>S3 (C:=λ b=>∃ o,h.get? b=some o) hb (x.2.elim λ V x=>⟨_,x.1⟩) nm
 ·exact λ h hg=>⟨⟨_,(hg _ (.head _)).trans (congrArg some h1)⟩,oi,hg _ (.tail _ (.head _)),h2,h3⟩
 ·exact λ i vals x=>Q4 x λ t0 x y e1=>Q4 y λ c u hc e2=>by
   subst e1 e2
   have:=KBw.ints_get hc
   exact⟨_,⟨_,rfl,this,KBw.ints_in (bT this)⟩,⟨t0,rfl⟩,⟨u,rfl⟩,trivial⟩
theorem Jn{elts:List aE}{kk:Nat}{pos:Pos}{e it l:aJ}{oe oi:Obj}{ns:List Int}{r1 r2:La}(H:Ok c d)(he:C1 (e,.raw oe) led r1)(hi:C1 (it,.raw oi) r1 r2)(hl:C1 (l,.ints ns) r2 rest)(h1:Pu oe it)(h2:XX oi l):
  By c (.Tuple elts kk pos) (.ref e) led ns.length (λ i as=>∃ n,as=[.int i,.int n]/\ns[i]? =some n) rest [(l,.ints ns)]:=by
 refine λ v hv m h tk r=>Q4 (r.isList (he.mem.2.1 _ (hi.mem.2.1 _ hl.mem.1))) λ us n hg hu=>?_
 have e0:us.toArray.size=ns.length:=hu.length
 have I:By c (.Tuple elts kk pos) (.ref e) ((e,.raw oe)::(it,.raw oi)::(l,.raw (listOf us.toArray n))::rest) us.toArray.size (λ i as=>∃ n,as=[.int i,.int n]/\ns[i]? =some n) rest [(l,.ints ns)]:=by
  refine By.ofU (ol:=[(e,oe),(it,oi)]) (kp:=[(l,listOf us.toArray n)]) (cV (l₁:=[(e,AO.raw oe),(it,AO.raw oi),(l,AO.raw (listOf us.toArray n))])) (λ nd=>(WalksT.enumerateD (Draws.list (prog:=PG) (w:=c.w) (A:=c.A.in1) H.R.hh it l (AU nd 1 2 rfl rfl (cU 1)).symm us.toArray) e (AU nd 0 1 rfl rfl lD) (λ q=>BW q (AU nd 0 1 rfl rfl lD) λ q=>BW q (AU nd 0 2 rfl rfl Nat.two_pos) nm) (.head _)).toU) (λ b hb=>hb)
   (λ b hb=>BW hb (λ q=> .inl (q▸ .head _)) λ hb=>BW hb (λ q=> .inl (q▸ .tail _ (.head _))) .inr) ?_ ?_ ?_ (λ hw r=>X7 (ao:= .ints ns) ⟨us,n,rfl,hu⟩ hw r)
  ·exact λ i h x b hb=>S3 (C:=λ b=>∃ o,h.get? b=some o) hb (x.1.elim λ V x=>⟨_,x⟩) λ hb=>S3 (C:=λ b=>∃ o,h.get? b=some o) hb (x.2.1.elim λ V x=>⟨_,x.1⟩) nm
  ·exact λ h hg=>⟨⟨_,(hg _ (.head _)).trans (congrArg some h1)⟩,⟨oi,hg _ (.tail _ (.head _)),h2⟩,⟨_,hg _ (.tail _ (.tail _ (.head _))),rfl,n,rfl⟩⟩
  ·exact λ i vals X=>Q4 X λ t0 x hx e1=>by
    subst e1
    have hx:us[i]? =some x:=by simpa using hx
    have hi:i < ns.length:=hu.length▸(aT.mp hx).1
    exact(hu.get i _ (aM hi)).elim λ t1 h4=>⟨_,⟨_,rfl,aM hi⟩,⟨t0,rfl⟩,⟨t1,aU (hx.symm.trans h4)⟩,trivial⟩
 rw[e0]at I
 exact I v hv m h tk ((r.perm (he.perm.trans ((hi.perm.trans (hl.perm.cons _)).cons _))).rawAt (X:=[(e,.raw oe),(it,.raw oi)]) hg)
theorem Yb{x y:Str}{px py:Pos}(sx:I7 c x)(sy:I7 c y)(q:Str×Pos)(hq:q∈[(x,px),(y,py)]):I7 c q.1:=S3 (C:=λ q:Str×Pos=>I7 c q.1) hq sx λ hq=>S3 (C:=λ q:Str×Pos=>I7 c q.1) hq sy nm
theorem o7{σ:Type}{k:Fl->Lm->La->Prop}(cs:List Str)(M:σ->Lm)(L:σ->La)(P:Nat->σ->Prop)(Pe:σ->Prop)(s₀:σ){x y:Str}{px py pt:Pos}{x1:Nat}{body:List dY}{e it:aJ}{oe oi:Obj}{ns:List Int}{r1:La}(H:Ok c d)(sx:I7 c x)(sy:I7 c y)
  (he:C1 (e,.raw oe) led r1) (hi:C1 (it,.raw oi) r1 rest) (h1:Pu oe it) (h2:XZ oi ns) (hm:Q8 m (M s₀)) (hl:Sb rest (L s₀)) (h0:P 0 s₀)
  (turn:∀ i n t rw (K:Fl->Lm->La->Prop),(∀ fl m' led',Tn (P (i+1)) Pe M L rw k fl m' led'->K fl m' led')->ns[i]? =some n->0<=n->n < 256->P i t->O6 c cs 40 body (G3 y (.int n) (G3 x (.int i) (M t))) (L t++rw) K) (hdone:∀ s,P ns.length s->Pe s) (fin:∀ s,Pe s->k .next (M s) (L s)):
  l5 c (.Tuple [.Name x px,.Name y py] x1 pt) body (.ref e) m led k:=
 Z5 cs M L P Pe s₀ (xs:=[x,y]) (Jo H he hi h1 h2) H (Tg.tup (xs:=[(x,px),(y,py)]) (Yb sx sy)) (λ i as h=>C8 h λ n e V=>e▸rfl) hm hl h0 (λ i as s rw K hK hi h hP=>DI h λ n e a b c'=>by subst e; exact turn i n s rw K hK a b c' hP) hdone (λ s hs=>by rw[bA]; exact fin s hs)
end
end
section
set_option backward.match.sparseCases false
section
variable{c:Cx}{m:Lm}{led rest:La}{k:AV->La->Prop}{d:Nat}
theorem M0{b:Bool}{P Q:Prop}(h:b=false)(q:Q):Br b P Q:=⟨λ e=>absurd (h.symm.trans e) (by decide),λ V=>q⟩
theorem d4{b:Bool}{P Q:Prop}(h:b=true)(p:P):Br b P Q:=⟨λ V=>p,λ e=>absurd (h.symm.trans e) (by decide)⟩
theorem YG{p:Prop} [Decidable p]{a b:Int}{h:bF}{tk:Nat}{t u:Tok}(r:B6 c m led h)(q:k (.int (if p then b else a)) led):V9 c m k (if p then .int b u else .int a t) (c.at h tk):=by
 by_cases e:p
 ·rw[if_pos e]at q ⊢; exact r.i q
 ·rw[if_neg e]at q ⊢; exact r.i q
theorem CA{a b:Int}(H:Ok c d)(h:k (.int (if b > a then b else a)) led):C9 c (.fn (.builtin "max")) [.int a,.int b] m led k:=
 a4<|WI.ii λ t u hh tk r=>max_two_ints H.R.hh λ h' tk' hk=>YG (r.keep hk) h
theorem IK{a b:Int}(H:Ok c d)(h:k (.int (if b < a then b else a)) led):C9 c (.fn (.builtin "min")) [.int a,.int b] m led k:=
 a4<|WI.ii λ t u hh tk r=>min_two_ints H.R.hh λ h' tk' hk=>YG (r.keep hk) h
theorem C9.perm{p:aJ×AO}{f:AV}{as:List AV}(hp:C1 p led rest)(h:C9 c f as m (p::rest) k):C9 c f as m led k:=
 ⟨λ u hu hh r=>h.1 u hu hh (r.sub (.cons hp .refl)),λ u hu vs hv hh tk r=>h.2 u hu vs hv hh tk (r.sub (.cons hp .refl))⟩
theorem NT{t:aJ}{dd:Option aJ}{items:List aF}{n:Nat}{sl:Array (Option aF)}{ns:List Int}{x:Int}(H:Ok c d)(e:(KF c.w.params).lookup t=some ⟨.type "tuple",dd,.seq items.toArray n,sl⟩)(hi:cE items ns)(h:k (.bool (ns.any (· == x))) led):
  Op c (λ vs=>compareOp .In (vs.getD 0 .none) (vs.getD 1 .none)) [.int x,.ref t] m led k:=
 WI.ir λ u hh tk r=>r.frE λ F V=>Ma F H.X e hi (r.bl h)
theorem Le{t:aJ}{dd:Option aJ}{items:List aF}{n:Nat}{sl:Array (Option aF)}{ns:List Int}{x:Int}(H:Ok c d)(e:(KF c.w.params).lookup t=some ⟨.type "tuple",dd,.seq items.toArray n,sl⟩)(hi:cE items ns)(h:k (.bool (!(ns.any (· == x)))) led):
  Op c (λ vs=>compareOp .NotIn (vs.getD 0 .none) (vs.getD 1 .none)) [.int x,.ref t] m led k:=
 WI.ir λ u hh tk r=>r.frE λ F V=>EE F H.X e hi (r.bl h)
theorem C6{x:Str}{p:Pos}{i:Int}{t:Tok}{S:cB}(H:Ok c d)(hs:c.env.scope=S)(h:k (.int i) led)(hx:some .globalImplicit=S.names.lookup x:=by exact rfl)(e:nsIn (KF c.w.params) mainGlobals x=some (some (.int i t)):=by k_is)(hd:false=(x== ("__debug__":Str)):=by exact rfl):Y3 c (.Name x p) m led k:=FE H hs hx.symm e (a:= .int i) ⟨t,rfl⟩ h hd.symm
theorem A1{x:Str}{p:Pos}{a:aJ}{S:cB}(H:Ok c d)(hs:c.env.scope=S)(h:k (.ref a) led)(hx:some .globalImplicit=S.names.lookup x:=by exact rfl)(e:nsIn (KF c.w.params) mainGlobals x=some (some (.ref a)):=by k_is)(hd:false=(x== ("__debug__":Str)):=by exact rfl):Y3 c (.Name x p) m led k:=FE H hs hx.symm e (a:= .ref a) rfl h hd.symm
noncomputable def GT:List aE->List (Str×Pos)
 | .Name x p::r=>(x,p)::GT r
 | _=>[]
theorem j6{ts:List aE}{v:aE}{env env':Env}(h:env.scope=env'.scope):swappedStores ts v env=swappedStores ts v env':=by
 unfold swappedStores Env.blockKind kJ
 rw[h]
theorem m9{k:Fl->Lm->La->Prop}{kk:Nat}{tpos pos:Pos}{value:aE}{elts:List aE}{S:cB}(H:Ok c d)(hS:c.env.scope=S)(h:I0 c m 30 value led λ v led=>Fc c ((GT elts).map (·.1)) false v m led k)(he:elts=(GT elts).map (λ x=> .Name x.1 x.2):=by rfl)
  (hs:swapsWithSole [.Tuple elts kk tpos] value pos.line c.env=pure false:=by rfl) (hw:swappedStores [.Tuple elts kk tpos] value (envOf "" S 0 0 .none)=pure none:=by rfl):Ac c (.Assign [.Tuple elts kk tpos] value pos) m led k:=KT (GT elts) H h he hs ((j6 hS).trans hw)
theorem m8{k:Fl->Lm->La->Prop}{kk:Nat}{tpos pos:Pos}{value:aE}{elts:List aE}{S:cB}(H:Ok c d)(hS:c.env.scope=S)(h:I0 c m 30 value led λ v led=>Fc c ((GT elts).map (·.1)) true v m led k)
  (hs:swapsWithSole [.Tuple elts kk tpos] value pos.line c.env=pure false:=by rfl) (hw:swappedStores [.Tuple elts kk tpos] value (envOf "" S 0 0 .none)=pure (some ((GT elts).map (·.1))):=by rfl):Ac c (.Assign [.Tuple elts kk tpos] value pos) m led k:=KS _ H h hs ((j6 hS).trans hw)
theorem Ik{a:AV}{v:aF}{G:Prop}(ha:Rl a v)(p:a.plain=true)(h1:a= .none->v= .none->G)(h2:v≠ .none->(match (generalizing:=false) a with | .none=>true | _=>false)=false->(match (generalizing:=false) a with | .none=>false | _=>true)=true->G):G:=by
 rcases a with _ | _ | _ | _ | _ | _ | _
 ·exact h1 rfl ha
 ·exact h2 (λ e=>nomatch (show v=_ from ha).symm.trans e) rfl rfl
 ·exact h2 (Rl.i (C:=(· ≠dN)) ha λ V e=>nomatch e) rfl rfl
 ·exact h2 (Rl.s (C:=(· ≠dN)) ha λ V e=>nomatch e) rfl rfl
 ·exact h2 (Rl.B (C:=(· ≠dN)) ha λ V V e=>nomatch e) rfl rfl
 ·exact h2 (λ e=>nomatch (show v=_ from ha).symm.trans e) rfl rfl
 ·exact ff p
theorem L6{a:AV}(p:a.plain=true)(h:k (.bool (match (generalizing:=false) a with | .none=>true | _=>false)) led):Op c (λ vs=>compareOp .Is (vs.getD 0 .none) (vs.getD 1 .none)) [a,.none] m led k:=
 WI.vv λ u u' hu hu' hh tk r=>by
  obtain rfl:u'=_:=hu'
  exact Ik hu p (λ e1 e2=>by subst e1 e2; exact wpAny_is_self rfl (r.bl h)) λ ne e V=>is_none_ne ne (r.bl (Eq.mp (congrArg (λ b=>k (.bool b) led) e) h))
theorem Aj{a:AV}(p:a.plain=true)(h:k (.bool (match (generalizing:=false) a with | .none=>false | _=>true)) led):Op c (λ vs=>compareOp .IsNot (vs.getD 0 .none) (vs.getD 1 .none)) [a,.none] m led k:=
 WI.vv λ u u' hu hu' hh tk r=>by
  obtain rfl:u'=_:=hu'
  exact Ik hu p (λ e1 e2=>by subst e1 e2; exact wpAny_isNot_self rfl (r.bl h)) λ ne V e=>isnot_none_ne ne (r.bl (Eq.mp (congrArg (λ b=>k (.bool b) led) e) h))
end
end
section
section
variable{c:Cx}{m:Lm}{led rest:La}{k:AV->La->Prop}{d:Nat}
theorem A3{x:Str}{p:Pos}{a:AV}{W:aJ}{S:cB}{cl:List (Str×aJ)}(H:Ok c d)(hs:c.env.scope=S)(hc:c.env.cells=cl)(h:k a led)(hx:some .cell=S.names.lookup x:=by exact rfl)(hl:some W=cl.lookup x:=by exact rfl)(hm:(W,AO.cell (some a))∈led:=by tm_at "b")(hd:false=(x== ("__debug__":Str)):=by exact rfl):Y3 c (.Name x p) m led k:=
 λ hh tk r=>r.at hm λ ho hg V V=>C8 ho λ v ho hv=>A4 (wpAny_Name (wpAny_loadName_cell H.fk (Kh hs hx.symm) (hc▸hl.symm) ⟨_,hg,ho⟩ (E2.ofV r hv h)) hd.symm)
theorem I2{k:La->Prop}{x:Str}{v:AV}{o:Option AV}{W:aJ}{S:cB}{cl:List (Str×aJ)}(H:Ok c d)(hs:c.env.scope=S)(hx:some .cell=S.names.lookup x)(hc:c.env.cells=cl)(hl:some W=cl.lookup x)(hp:C1 (W,AO.cell o) led rest)(h:k ((W,AO.cell (some v))::rest)):PC c x v m led k:=
 λ u hu hh tk r=>r.at hp.mem.1 λ{ob} ho hg _ _=>
 have⟨v₀,hv₀⟩:∃ v₀,ob.data= .cell v₀:=by
  rcases o with _ | a
  ·exact⟨_,ho⟩
  ·exact C8 ho λ v e V=>⟨_,e⟩
 A4 (lS H.fk (Kh hs hx.symm) (hc▸hl.symm) ⟨ob,hg,hv₀⟩ λ h' x hsb=>C8 x λ ob' hg' hd'=>⟨h',tk,_,rfl,r.set (ao':= .cell (some v)) hp hsb hg' ⟨u,hd',hu⟩,h⟩)
end
noncomputable def Bu:List (Str×Option AV)->(List (Str×aJ)->La->Prop)->Prop
 | [],K=>K [] []
 | p::r,K=>∀ W,Bu r λ cl l=>K ((p.1,W)::cl) ((W,.cell p.2)::l)
theorem s9{kf:Str->Option kU}{n:Str}{v:aF}:∀ {a:List (Str×aF)} {m:Ev},bindL kf (a++[(n,v)]) m=if kf n=some .local then(λ y=>if y=n then some v else bindL kf a m y)else bindL kf a m
 | [],m=>rfl
 | p::r,m=>by show bindL kf (r++[(n,v)]) _=_; rw[s9]; rfl
theorem t7{kf:Str->Option kU}{n:Str}{v:aF}:∀ {a:List (Str×aF)} {m:Ev},bindC kf (a++[(n,v)]) m=if kf n=some .local then bindC kf a m else(λ y=>if y=n then some v else bindC kf a m y)
 | [],m=>rfl
 | p::r,m=>by show bindC kf (r++[(n,v)]) _=_; rw[t7]; rfl
theorem JP{kf:Str->Option kU}{x:Str}(hx:kf x=some .local){a:AV}{nb:List (Str×AV)}:∀ {qs:List (Str×aF)},Hp nb qs->lk x nb=some a->∃ u,bindL kf qs.reverse (λ V=>none) x=some u/\Rl a u:=by
 induction nb with
 | nil=>exact λ V e=>nn e
 | cons p r ih=>
  refine λ h e=>X4.c (C:=λ qs=>∃ u,bindL kf qs.reverse (λ V=>none) x=some u/\Rl a u) h λ v s h1 h2=>?_
  rw[jT,s9 (n:=p.1) (v:=v)]
  by_cases q:x=p.1
  ·obtain rfl:=aU ((BX q).symm.trans e)
   rw[if_pos (q▸hx)]; exact⟨v,if_pos q,h1⟩
  ·refine C8 (ih h2 ((y9 q).symm.trans e)) λ u h3 h4=>?_
   split
   ·exact⟨u,(if_neg q).trans h3,h4⟩
   ·exact⟨u,h3,h4⟩
noncomputable def g9:Option AV->Option aF->Prop
 | some a,some v=>Rl a v
 | none,none=>True
 | _,_=>False
theorem JQ{kf:Str->Option kU}{x:Str}(hx:kf x≠some .local){nb:List (Str×AV)}:∀ {qs:List (Str×aF)},Hp nb qs->g9 (lk x nb) (bindC kf qs.reverse (λ V=>none) x):=by
 induction nb with
 | nil=>exact λ h=>X4.n (C:=λ qs=>g9 none (bindC kf qs.reverse (λ V=>none) x)) h trivial
 | cons p r ih=>
  refine λ h=>X4.c (C:=λ qs=>g9 (lk x (p::r)) (bindC kf qs.reverse (λ V=>none) x)) h λ v s h1 h2=>?_
  rw[jT,t7 (n:=p.1) (v:=v)]
  by_cases e:x=p.1
  ·rw[BX e,if_neg (e▸hx)]
   show g9 _ (if x=p.1 then _ else _)
   rw[if_pos e]; exact h1
  ·rw[y9 e]
   split
   ·exact ih h2
   ·show g9 _ (if x=p.1 then _ else _)
    rw[if_neg e]; exact ih h2
theorem Mq{w:bP}{a:Option AV}{b:Option aF}{o:Obj}(h:g9 a b)(hd:o.data= .cell b):L9 w (.cell a) o:=by
 rcases a with _ | a
 ·rcases b with _ | b
  ·exact hd
  ·exact h.elim
 ·rcases b with _ | b
  ·exact h.elim
  ·exact⟨b,hd,h⟩
theorem JJ{w:bP}{cm:Ev}{cs:List (Str×aJ)}{cells:List (aJ×Obj)}(x:CellsAre cm cs cells):∀ {cn:List (Str×Option AV)} {K:List (Str×aJ)->La->Prop},cn.map (·.1)=cs.map (·.1)->(∀ p∈cn,g9 p.2 (cm p.1))->Bu cn K->∃ l,K cs l/\J7 w l cells:=by
 induction x with
 | nil=>
  intro cn K e _ h
  rcases cn with _ | ⟨_,_⟩
  ·exact⟨[],h,trivial⟩
  ·exact nomatch e
 | @cons n a o cs cells hd _ ih=>
  intro cn K e hr h
  rcases cn with _ | ⟨⟨x,p⟩,r⟩
  ·exact nomatch e
  have e:=List.cons.inj e
  obtain rfl:x=n:=e.1
  exact C8 (ih e.2 (λ q hq=>hr q (.tail _ hq)) (h a)) λ l h1 h2=>⟨_,h1,rfl,Mq (hr _ (.head _)) hd,h2⟩
theorem JI(names:List (Str×kU)):∀ (n:Nat) (acc:List (Str×aJ)),(acc.map (·.2)).Nodup->(∀ p∈acc,@LT.lt Nat _ p.2 n)->((cellsFrom n names acc).map (·.2)).Nodup:=by
 induction names with
 | nil=>exact λ V V h V=>h
 | cons p r ih=>
  intro n acc h hl
  unfold cellsFrom
  split
  ·exact ih _ _ (aZ.mpr ⟨λ e=>j7 e λ p hp e=>absurd (hl p hp) (Nat.not_lt.mpr (dZ e.symm)),h⟩) λ p hp=>S3 (C:=λ p:Str×aJ=>@LT.lt Nat _ p.2 (n+1)) hp (cU _) λ hp=>Nat.lt_succ_of_lt (hl p hp)
  ·exact ih _ _ h hl
theorem Q6{names:List (Str×kU)}:∀ {n:Nat} {acc:List (Str×aJ)},(names.all λ x=>x.2 != .cell)=true->cellsFrom n names acc=acc:=by
 induction names with
 | nil=>exact λ V=>rfl
 | cons p r ih=>
  intro n acc h
  have h:=bI.mp (fF.symm.trans h)
  unfold cellsFrom
  rw[if_neg λ e=>by rw[bne,e]at h; exact ff h.1]
  exact ih h.2
theorem CJ{cm:Ev}{cs:List (Str×aJ)}{cells:List (aJ×Obj)}(x:CellsAre cm cs cells):cells.map (·.1)=cs.map (·.2):=by
 induction x with
 | nil=>rfl
 | cons _ _ ih=>rw[cP,cP,ih]
noncomputable def Q0(K:Frag)(fd:FuncData)(as:List AV)(nb:List (Str×AV)):Prop:=∀ s vs,Q1 as vs->K.In s.heap->∃ binds,iT s fd ⟨vs,[]⟩ binds/\Hp nb binds.reverse
structure Nd(c':Cx)(w:bP)(A:bS)(b:Prop)(s₀:aH)(E':Env->aF->aH->Prop)(scope:cB)(qual:Str)(cdv:aF)(d:Nat)(h0 b₀:bF)(cal:La):Prop where
 ok:Ok c' d
 sc:c'.env.scope=scope
 w:c'.w=w
 b:c'.b=b
 s:c'.s=s₀
 A:c'.A=A.deeper c'.env
 fr:c'.env.frame=some c'.env.locals
 cd:c'.env.code=cdv
 ql:c'.env.qual=qual++".<locals>."
 E:c'.E=E' c'.env
 keep:∀ b o,h0.get? b=some o->b∉cal.map (·.1)->c'.g.get? b=some o
 base:∀ b o,b₀.get? b=some o->c'.g.get? b=some o
theorem CH{w:bP}{A:bS}{b:Prop}{s₀:aH}{h0 b₀:bF}{tk0:Nat}{E':Env->aF->aH->Prop}{cal:La}{ol:L5}{R:eI->aH->Prop}{k':Fl->Lm->La->Prop}{f:aJ}{as:List AV}{vs:List aF}{d:Nat}{name qual:Str}{params:dP}{body:List dY}{scope:cB}{dV kV doc pm cdv ct oc:aF}{an od:Option aJ}{osl:Array (Option aF)}{nb names:List (Str×AV)}{cn:List (Str×Option AV)}
  (hb:∀ b o,b₀.get? b=some o->h0.get? b=some o) (X:(KF w.params).In b₀) (T:∃ p loose mean mg mb,Top p loose mean mg mb b₀) (hl:∀ q∈ol,h0.get? q.1=some q.2/\b₀.get? q.1=none) (hcal:∀ p∈cal,∃ o,L9 w p.2 o/\(p.1,o)∈ol) (nd:(cal.map (·.1)).Nodup) (hl3:ol.map (·.1)=cal.map (·.1)) (hR:U6 A (d+1)) (sm:∃ o,b₀.get? sysModules=some o)
  (ho:(KF w.params).lookup f=some ⟨oc,od,.func (fnOf name qual params body scope dV kV doc pm an cdv ct),osl⟩) (hcd:codeIn (KF w.params) cdv qual=true) (hbind:Q0 (KF w.params) (fnOf name qual params body scope dV kV doc pm an cdv ct) as nb) (hvs:Q1 as vs)
  (pe:∀ env,env.frame=some env.locals->lY (model PG w) (A.deeper env) env (E' env))
  (h:∀ c',Nd c' w A b s₀ E' scope qual cdv d h0 b₀ cal->Bu cn λ cl l=>c'.env.cells=cl->O6 c' (cn.map (·.1)) 40 body names (l++cal) k')
  (out:∀ c',Nd c' w A b s₀ E' scope qual cdv d h0 b₀ cal->∀ fl s',H1 c' k' fl s'->R (.ok (.ret (match fl with | .ret v=>v | _=> .none))) s')
  (err:∀ c',Nd c' w A b s₀ E' scope qual cdv d h0 b₀ cal->∀ e s',E' c'.env e s'->Lv (model PG w) A c'.env R e s')
  (hnb:(nb.all λ p=>scope.names.lookup p.1== some .local || scope.names.lookup p.1== some .cell)=true)
  (hnm:(names.all λ p=>scope.names.lookup p.1== some .local && p.1 != ("__debug__":Str))=true) (hsub:∀ x v,lk x names=some v->lk x nb=some v)
  (hcn:cn=(cellsFrom 0 scope.names []).map λ p=>(p.1,lk p.1 nb)) (hck:(cn.all λ p=>scope.names.lookup p.1== some .cell)=true) (hnd:((cellsFrom 0 scope.names []).map (·.1)).Nodup)
  (hco:scope.isCoroutine=false) (hgen:scope.isGenerator=false) (hk:scope.kind= .function):G2 b (model PG w) A (.call (.ref f) ⟨vs,[]⟩) R {s₀ with heap:=h0,toks:=tk0}:=by
 refine OJ T λ p loose mean mg mb T=>C8 (hbind {s₀ with heap:=h0,toks:=tk0} vs hvs λ b o e=>hb b o (X b o e)) λ binds hb1 hr=>?_
 refine Mj (led:=ol) (K:=KF w.params) binds hb X T hl hR ho hcd hb1 (List.all_eq_true.mpr λ y hy=>j7 (show y.1∈nb.map (·.1)from X4.keys hr▸aY (List.mem_reverse.mpr hy)) λ q hq e=>e▸dU.mp hnb q hq) hnd (λ g' L' h₁ tk' cells F' N' C' X' T' hg' R' hL' hL2=>?_) hco hgen hk
 have hcg:∀ b o,b₀.get? b=some o->g'.get? b=some o:=λ b o e=>hg' b o (hb b o e) λ e2=>j7 e2 λ q hq e3=>nn ((hl q hq).2.symm.trans ((congrArg b₀.get? e3).trans e))
 have O':Ok ⟨w,A.deeper (envOfC qual scope L' f cdv),g',envOfC qual scope L' f cdv,s₀,E' (envOfC qual scope L' f cdv),b⟩ d:=⟨X',⟨_,_,_,_,_,T'⟩,R',hk,rfl,rfl,pe _ rfl,sm.elim λ o e=>⟨o,hcg _ o e⟩⟩
 have EN:Nd ⟨w,A.deeper (envOfC qual scope L' f cdv),g',envOfC qual scope L' f cdv,s₀,E' (envOfC qual scope L' f cdv),b⟩ w A b s₀ E' scope qual cdv d h0 b₀ cal:=⟨O',rfl,rfl,rfl,rfl,rfl,rfl,rfl,rfl,rfl,λ b o e n=>hg' b o e (hl3▸n),hcg⟩
 refine C8 (JJ (w:=w) C' (cn:=cn) (by rw[hcn,gC]; exact(cellsFrom_names scope.names 0 (L'+1) [] [] rfl)) (λ q hq=>?_) (h _ EN)) λ l hK hl'=>?_
 ·have e:q.2=lk q.1 nb:=LR (C:=λ q:Str×Option AV=>q.2=lk q.1 nb) (hcn▸hq) λ V V=>rfl
  have:=JQ (kf:=(envOfC qual scope L' f cdv).kindOf) (x:=q.1) (by show scope.names.lookup q.1≠_; rw[jW (dU.mp hck q hq)]; decide) hr
  rw[kY]at this
  rw[e]; exact this
 have r':B6 ⟨w,A.deeper (envOfC qual scope L' f cdv),g',envOfC qual scope L' f cdv,s₀,E' (envOfC qual scope L' f cdv),b⟩ names (l++cal) h₁:=by
  refine⟨⟨_,F',λ x v e=>?_⟩,λ q hq=>CQ hq (λ hq=>C8 (hl'.mem' hq) λ o a b=>⟨o,a,N' _ (aG _ b)⟩) λ hq=>C8 (hcal q hq) λ o ho hm=>⟨o,ho,N' _ (aC _ hm)⟩,?_,hk,λ x v e=>Dw hnm e⟩
  ·have:=JP (kf:=(envOfC qual scope L' f cdv).kindOf) (x:=x) (Dw hnm e).1 hr (hsub x v e)
   rw[kY]at this
   exact this
  ·rw[bB,eC,←hl'.addrs,CJ C']
   exact⟨JI _ _ _ fH (λ V h=>nm h),nd,λ a ha b hb e=>j7 ha λ z hz e2=>j7 hb λ q hq e3=>C8 (hcal q hq) λ o V hm=>
    absurd (jA (hL2 z.1 z.2 hz) (show @LT.lt Nat _ z.2 L' from(e3.trans (e.symm.trans e2.symm))▸hL' _ hm)) (gO _)⟩
 exact D6 (sS O'.ni _ _ _ _ _ (hK rfl) h₁ tk' r') (λ fl s' x=>out _ EN fl s' x) λ e s' x=>err _ EN e s' x
theorem Jd{scope:cB}{names:List (Str×AV)}(h:(names.all λ p=>scope.names.lookup p.1== some .local && p.1 != ("__debug__":Str))=true):(names.all λ p=>scope.names.lookup p.1== some .local || scope.names.lookup p.1== some .cell)=true:=
 List.all_eq_true.mpr λ p hp=>by rw[(bI.mp (dU.mp h p hp)).1]; rfl
theorem FV{c:Cx}{f:aJ}{as:List AV}{m:Lm}{led:La}{k:AV->La->Prop}{d:Nat}{name qual:Str}{params:dP}{body:List dY}{scope:cB}{dV kV doc pm cdv ct oc:aF}{an od:Option aJ}{osl:Array (Option aF)}(nb names:List (Str×AV))(cn:List (Str×Option AV))
  (H:Ok c (d+1)) (ho:(KF c.w.params).lookup f=some ⟨oc,od,.func (fnOf name qual params body scope dV kV doc pm an cdv ct),osl⟩) (hcd:codeIn (KF c.w.params) cdv qual=true)
  (hbind:Q0 (KF c.w.params) (fnOf name qual params body scope dV kV doc pm an cdv ct) as nb)
  (h:∀ c',Ok c' d->c'.env.scope=scope->(c'.w=c.w/\c'.b=c.b)->(∀ b o,c.g.get? b=some o->c'.g.get? b=some o)->Bu cn λ cl l=>c'.env.cells=cl->O6 c' (cn.map (·.1)) 40 body names (l++led) (Kj k))
  (hnb:(nb.all λ p=>scope.names.lookup p.1== some .local || scope.names.lookup p.1== some .cell)=true)
  (hnm:(names.all λ p=>scope.names.lookup p.1== some .local && p.1 != ("__debug__":Str))=true) (hsub:∀ x v,lk x names=some v->lk x nb=some v)
  (hcn:cn=(cellsFrom 0 scope.names []).map λ p=>(p.1,lk p.1 nb)) (hck:(cn.all λ p=>scope.names.lookup p.1== some .cell)=true) (hnd:((cellsFrom 0 scope.names []).map (·.1)).Nodup)
  (hco:scope.isCoroutine=false) (hgen:scope.isGenerator=false) (hk:scope.kind= .function):Hy c f as m led k:=
 λ vs hvs h' tk r=>R9 (AW r) λ ol hl1 hl2 hl3=>CH (E':=λ V V V=>False) (k':=Kj k) (λ b o e=>r.base e) H.X H.T hl1 hl2 r.nd hl3 H.R H.sm ho hcd hbind hvs (λ V V=> .never) (λ c' N=>h c' N.ok N.sc ⟨N.w,N.b⟩ N.base) (λ c' N fl s' x=>Dh r N.w N.s N.keep x) (λ V V V V x=>x.elim) hnb hnm hsub hcn hck hnd hco hgen hk
theorem T9{c:Cx}{f:aJ}{as:List AV}{m:Lm}{led:La}{k:AV->La->Prop}{d:Nat}{name qual:Str}{params:dP}{body:List dY}{scope:cB}{dV kV doc pm cdv ct oc:aF}{an od:Option aJ}{osl:Array (Option aF)}(names:List (Str×AV))
  (H:Ok c (d+1)) (ho:(KF c.w.params).lookup f=some ⟨oc,od,.func (fnOf name qual params body scope dV kV doc pm an cdv ct),osl⟩) (hcd:codeIn (KF c.w.params) cdv qual=true)
  (hbind:Q0 (KF c.w.params) (fnOf name qual params body scope dV kV doc pm an cdv ct) as names)
  (h:∀ c',Ok c' d->c'.env.scope=scope->(c'.w=c.w/\c'.b=c.b)->(∀ b o,c.g.get? b=some o->c'.g.get? b=some o)->O6 c' [] 40 body names led (Kj k))
  (hnm:(names.all λ p=>scope.names.lookup p.1== some .local && p.1 != ("__debug__":Str))=true)
  (hcell:(scope.names.all λ x=>x.2 != .cell)=true) (hco:scope.isCoroutine=false) (hgen:scope.isGenerator=false) (hk:scope.kind= .function):Hy c f as m led k:=
 FV names names [] H ho hcd hbind (λ c' O hs hw hg V=>h c' O hs hw hg) (Jd hnm) hnm (λ V V e=>e) (by rw[Q6 hcell]; rfl) rfl (by rw[Q6 hcell]; exact fH) hco hgen hk
theorem C4{c:Cx}{f:aJ}{as:List AV}{m:Lm}{led:La}{k:AV->La->Prop}{d:Nat}{name qual:Str}{params:dP}{body:List dY}{scope:cB}{dV kV doc pm cdv ct oc:aF}{an od:Option aJ}{osl:Array (Option aF)}(names:List (Str×AV))
  (H:Ok c (d+1)) (h:∀ c',Ok c' d->c'.env.scope=scope->(c'.w=c.w/\c'.b=c.b)->(∀ b o,c.g.get? b=some o->c'.g.get? b=some o)->O6 c' [] 40 body names led (Kj k)) (ho:(KF c.w.params).lookup f=some ⟨oc,od,.func (fnOf name qual params body scope dV kV doc pm an cdv ct),osl⟩:=by k_is) (hcd:codeIn (KF c.w.params) cdv qual=true:=by k_is) (hbind:Q0 (KF c.w.params) (fnOf name qual params body scope dV kV doc pm an cdv ct) as names:=by tm_at "h") (hnm:(names.all λ p=>scope.names.lookup p.1== some .local && p.1 != ("__debug__":Str))=true:=by kernel_rfl) (hcell:(scope.names.all λ x=>x.2 != .cell)=true:=by decide) (hco:scope.isCoroutine=false:=by exact rfl) (hgen:scope.isGenerator=false:=by exact rfl) (hk:scope.kind= .function:=by exact rfl):C9 c (.ref f) as m led k:=
 (T9 names H ho hcd hbind h hnm hcell hco hgen hk).toF H ho
theorem Q3{c:Cx}{f:aJ}{as:List AV}{m:Lm}{led:La}{k:AV->La->Prop}{d:Nat}{name qual:Str}{params:dP}{body:List dY}{scope:cB}{dV kV doc pm cdv ct oc:aF}{an od:Option aJ}{osl:Array (Option aF)}(nb names:List (Str×AV))(cn:List (Str×Option AV))
  (H:Ok c (d+1)) (h:∀ c',Ok c' d->c'.env.scope=scope->(c'.w=c.w/\c'.b=c.b)->(∀ b o,c.g.get? b=some o->c'.g.get? b=some o)->Bu cn λ cl l=>c'.env.cells=cl->O6 c' (cn.map (·.1)) 40 body names (l++led) (Kj k)) (ho:(KF c.w.params).lookup f=some ⟨oc,od,.func (fnOf name qual params body scope dV kV doc pm an cdv ct),osl⟩:=by k_is) (hcd:codeIn (KF c.w.params) cdv qual=true:=by k_is) (hbind:Q0 (KF c.w.params) (fnOf name qual params body scope dV kV doc pm an cdv ct) as nb:=by tm_at "h") (hnb:(nb.all λ p=>scope.names.lookup p.1== some .local || scope.names.lookup p.1== some .cell)=true:=by kernel_rfl) (hnm:(names.all λ p=>scope.names.lookup p.1== some .local && p.1 != ("__debug__":Str))=true:=by kernel_rfl) (hsub:Q8 nb names:=by repeat constructor) (hcn:cn=(cellsFrom 0 scope.names []).map λ p=>(p.1,lk p.1 nb):=by exact rfl) (hck:(cn.all λ p=>scope.names.lookup p.1== some .cell)=true:=by kernel_rfl) (hnd:((cellsFrom 0 scope.names []).map (·.1)).Nodup:=by decide) (hco:scope.isCoroutine=false:=by exact rfl) (hgen:scope.isGenerator=false:=by exact rfl) (hk:scope.kind= .function:=by exact rfl):C9 c (.ref f) as m led k:=
 (FV nb names cn H ho hcd hbind h hnb hnm (λ V V=>hsub.lk) hcn hck hnd hco hgen hk).toF H ho
section
variable{K:Frag}{fd:FuncData}{x y z q:Str}{a b d f:AV}
theorem OW(e:bindArgs fd ⟨[],[]⟩=pure []):Q0 K fd [] []:=λ s V hv V=>a0 (C:=λ vs=>∃ binds,iT s fd ⟨vs,[]⟩ binds/\Hp [] binds.reverse) hv ⟨[],.of_eq e,trivial⟩
theorem EY(e:∀ v,bindArgs fd ⟨[v],[]⟩=pure [(x,v)]):Q0 K fd [a] [(x,a)]:=λ s V hv V=>Cm (C:=λ vs=>∃ binds,iT s fd ⟨vs,[]⟩ binds/\Hp [(x,a)] binds.reverse) hv λ v h1=>⟨_,.of_eq (e v),rfl,h1,trivial⟩
theorem OV(e:∀ v u,bindArgs fd ⟨[v,u],[]⟩=pure [(x,v),(y,u)]):Q0 K fd [a,b] [(y,b),(x,a)]:=λ s V hv V=>z4 (C:=λ vs=>∃ binds,iT s fd ⟨vs,[]⟩ binds/\Hp [(y,b),(x,a)] binds.reverse) hv λ v u h1 h2=>⟨_,.of_eq (e v u),rfl,h2,rfl,h1,trivial⟩
theorem OU(e:∀ v u w,bindArgs fd ⟨[v,u,w],[]⟩=pure [(x,v),(y,u),(z,w)]):Q0 K fd [a,b,d] [(z,d),(y,b),(x,a)]:=λ s V hv V=>z3 (C:=λ vs=>∃ binds,iT s fd ⟨vs,[]⟩ binds/\Hp [(z,d),(y,b),(x,a)] binds.reverse) hv λ v u w h1 h2 h3=>⟨_,.of_eq (e v u w),rfl,h3,rfl,h2,rfl,h1,trivial⟩
theorem OT(e:∀ v u w o,bindArgs fd ⟨[v,u,w,o],[]⟩=pure [(x,v),(y,u),(z,w),(q,o)]):Q0 K fd [a,b,d,f] [(q,f),(z,d),(y,b),(x,a)]:=λ s V hv V=>Kd (C:=λ vs=>∃ binds,iT s fd ⟨vs,[]⟩ binds/\Hp [(q,f),(z,d),(y,b),(x,a)] binds.reverse) hv λ v u w o h1 h2 h3 h4=>⟨_,.of_eq (e v u w o),rfl,h4,rfl,h3,rfl,h2,rfl,h1,trivial⟩
theorem OS{w1:Str}{g:AV}(e:∀ v u w o g1,bindArgs fd ⟨[v,u,w,o,g1],[]⟩=pure [(x,v),(y,u),(z,w),(q,o),(w1,g1)]):Q0 K fd [a,b,d,f,g] [(w1,g),(q,f),(z,d),(y,b),(x,a)]:=λ s V hv V=>Wa (C:=λ vs=>∃ binds,iT s fd ⟨vs,[]⟩ binds/\Hp [(w1,g),(q,f),(z,d),(y,b),(x,a)] binds.reverse) hv λ v u w o g1 h1 h2 h3 h4 h5=>⟨_,.of_eq (e v u w o g1),rfl,h5,rfl,h4,rfl,h3,rfl,h2,rfl,h1,trivial⟩
section
variable{T:aJ}{oc:aF}{od:Option aJ}{items:Array aF}{n:Nat}{sl:Array (Option aF)}(hT:fd.defaults= .ref T)(hK:K.lookup T=some ⟨oc,od,.seq items n,sl⟩)
include hT hK
theorem Pa{kk:aF->aF->Option (Array aF)->Sem (List (Str×aF))}(h1:∀ v u,bindArgs fd ⟨[v,u],[]⟩=seqItems? fd.defaults >>=kk v u)(h2:∀ v u,kk v u (some items)=pure [(x,v),(y,u)]):Q0 K fd [a,b] [(y,b),(x,a)]:=λ s V hv X=>z4 (C:=λ vs=>∃ binds,iT s fd ⟨vs,[]⟩ binds/\Hp [(y,b),(x,a)] binds.reverse) hv λ v u r0 r1=>⟨_,.of_defaults hT (X _ _ hK) rfl (h1 v u) (h2 v u),rfl,r1,rfl,r0,trivial⟩
theorem OZ{kk:aF->aF->aF->Option (Array aF)->Sem (List (Str×aF))}(h1:∀ v u w,bindArgs fd ⟨[v,u,w],[]⟩=seqItems? fd.defaults >>=kk v u w)(h2:∀ v u w,kk v u w (some items)=pure [(x,v),(y,u),(z,w)]):Q0 K fd [a,b,d] [(z,d),(y,b),(x,a)]:=λ s V hv X=>z3 (C:=λ vs=>∃ binds,iT s fd ⟨vs,[]⟩ binds/\Hp [(z,d),(y,b),(x,a)] binds.reverse) hv λ v u w r0 r1 r2=>⟨_,.of_defaults hT (X _ _ hK) rfl (h1 v u w) (h2 v u w),rfl,r2,rfl,r1,rfl,r0,trivial⟩
theorem OY{kk:aF->aF->aF->aF->Option (Array aF)->Sem (List (Str×aF))}(h1:∀ v u w o,bindArgs fd ⟨[v,u,w,o],[]⟩=seqItems? fd.defaults >>=kk v u w o)(h2:∀ v u w o,kk v u w o (some items)=pure [(x,v),(y,u),(z,w),(q,o)]):Q0 K fd [a,b,d,f] [(q,f),(z,d),(y,b),(x,a)]:=λ s V hv X=>Kd (C:=λ vs=>∃ binds,iT s fd ⟨vs,[]⟩ binds/\Hp [(q,f),(z,d),(y,b),(x,a)] binds.reverse) hv λ v u w o r0 r1 r2 r3=>⟨_,.of_defaults hT (X _ _ hK) rfl (h1 v u w o) (h2 v u w o),rfl,r3,rfl,r2,rfl,r1,rfl,r0,trivial⟩
end
end
end
section
noncomputable abbrev I8(c:Cx)(sc:cB)(cl:List (Str×aJ))(C:aJ):Cx:=⟨c.w,c.A,c.g,compEnvC sc cl C c.env,c.s,λ V V=>False,c.b⟩
theorem Y8{sc:cB}{env:Env}{S:cB}(h:env.scope=S):relabel sc env=relabel sc (envOf "" S 0 0 .none):=by
 unfold relabel kJ
 rw[h]
 rfl
theorem Ok.comp{c:Cx}{d:Nat}(H:Ok c d){sc:cB}{cl:List (Str×aJ)}{C:aJ}(hk:sc.kind= .function):Ok (I8 c sc cl C) d:=⟨H.X,H.T,H.R,hk,H.gl,H.bl,.never,H.sm⟩
noncomputable def ML{σ:Type}(P:σ->AV->Prop)(L:σ->La)(rw:La)(y:AV)(led':La):Prop:=∃ s,P s y/\Sb led' (L s++rw)
theorem Hu{σ:Type}{P:σ->AV->Prop}{L:σ->La}{rw:La}{y:AV}{led':La}(s:σ)(h:P s y)(hl:Sb led' (L s++rw)):ML P L rw y led':=⟨s,h,hl⟩
theorem B6.conv{c:Cx}{m:Lm}{l:La}{D:aJ}{a b:AO}{h:bF}(r:B6 c m ((D,a)::l) h)(e:∀ o,L9 c.w a o->L9 c.w b o):B6 c m ((D,b)::l) h:=B6.as (X:=[]) r λ{_} _=>e _
theorem H4{sc:cB}{env:Env}{cl:List (Str×aJ)}(h:env.cells=cl):closureFor sc env=closureFor sc {envOf "" sc 0 0 .none with cells:=cl}:=by
 unfold closureFor cellOf
 rw[h]
noncomputable abbrev EK(h:bF):bF:=h.push {cls:= .type "list",dict:=none,data:= .seq ([]:List aF).toArray}
theorem B6.into{c:Cx}{m:Lm}{X:La}{h h₁:bF}{sc:cB}{cl:List (Str×aJ)}{mC:Ev}(r:B6 c m X h)(hk:sc.kind= .function)
  (hn:h₁.Ns (EK h).objs.size mC) (hs:eF (EK h).objs.size ((EK h).push {cls:= .type "dict",data:= .dict #[]}) h₁):
  ∃ oL,B6 (I8 c sc cl (EK h).objs.size) [] ((h.objs.size,.list [])::(c.env.locals,.raw oL)::X) h₁/\(∀ b o,h.get? b=some o->h₁.get? b=some o)/\
   ∀ (m':Lm) (Y:La) (h':bF),B6 (I8 c sc cl (EK h).objs.size) m' ((c.env.locals,.raw oL)::Y) h'->
    ∃ oC mm,(∀ h'':bF,h''.get? (EK h).objs.size=some oC->h''.Ns (EK h).objs.size mm)/\B6 c m (((EK h).objs.size,.raw oC)::Y) h':=by
 refine r.frE λ F hm=>R9 (Ns.ex F.ns) λ oL hoL V nsL=>?_
 have hC:(EK h).objs.size=h.objs.size+1:=gZ ..
 have hlt:∀ {b:aJ} {o},h.get? b=some o->@LT.lt Nat _ b (EK h).objs.size:=λ e=>Nat.lt_of_lt_of_eq (Nat.lt_succ_of_lt (bM e)) hC.symm
 have old:∀ b o,h.get? b=some o->h₁.get? b=some o:=λ b o e=>hs.extBut b o (bQ (hlt e)) (aN _ (aN _ e))
 have hD:@LT.lt Nat _ h.objs.size (EK h).objs.size:=Nat.lt_of_lt_of_eq (cU _) hC.symm
 have fD:=r.fresh (aR h.objs.size)
 generalize (EK h).objs.size=C at*
 refine⟨oL,⟨⟨_,⟨hn,λ b o e=>old b o (F.keep b o e),jC (fR F.above (hlt hoL))⟩,λ x v e=>nn e⟩,λ p hp=>S3 (C:=CV (I8 c sc cl C) h₁) hp ⟨_,⟨[],0,rfl,trivial⟩,hs.extBut _ _ (bQ hD) (aN _ (bC _ rfl)),bQ hD,fD.2.1⟩ λ hp=>S3 (C:=CV (I8 c sc cl C) h₁) hp ⟨oL,rfl,old _ _ hoL,bQ (hlt hoL),r.gl⟩ λ hp=>r.at hp λ ho e V z=>⟨_,ho,old _ _ e,bQ (hlt e),z⟩,
  aZ.mpr ⟨λ e=>BW e (λ e=>absurd e (gF F.ns.lt)) fD.2.2,aZ.mpr ⟨r.nl,r.nd⟩⟩,hk,λ x v e=>nn e⟩,old,λ m' Y h' r'=>?_⟩
 refine r'.frE λ F' V=>R9 (Ns.ex F'.ns) λ oC hoC V nsC=>?_
 have nd:=aZ.mp r'.nd
 exact⟨oC,_,λ h'' e=>nsC h'' oC.slots e,⟨⟨_,⟨nsL _ oL.slots (r'.rawE (.head _)),λ b o e=>F'.keep b o e,F.above⟩,hm⟩,λ p hp=>S3 (C:=CV c h') hp ⟨oC,rfl,hoC,gF (hlt hoL),by
   cases e:c.g.get? C with
   | none=>rfl
   | some o=>exact absurd (hlt (F.keep _ _ e)) (gO _)⟩ λ hp=>r'.at (.tail _ hp) λ ho e V z=>⟨_,ho,e,λ e=>nd.1 (show c.env.locals∈_ from e▸aY hp),z⟩,aZ.mpr ⟨λ e=>j7 e λ p hp e=>r'.at (.tail _ hp) λ V V hC' V=>hC' e,nd.2⟩,r.fk,r.lc⟩⟩
theorem B6.butC{c:Cx}{m:Lm}{Y:La}{C:aJ}{ao:AO}{h h':bF}(r:B6 c m ((C,ao)::Y) h)(hs:eF C h h'):B6 c m Y h':=
 r.frE λ F hm=>r.at (p:=(C,ao)) (.head _) λ V V hL hz=>
 have nd:=aZ.mp r.nd
 ⟨⟨_,F.change hs hL hz,hm⟩,λ p hp=>r.at (.tail _ hp) λ ho e a z=>⟨_,ho,(hs.2 p.1 λ q=>nd.1 (show C∈_ from q▸aY hp)).trans e,a,z⟩,nd.2,r.fk,r.lc⟩
end
section
set_option backward.match.sparseCases false
noncomputable def Gf(c:Cx)(m:Lm)(k:La->Prop)(s':aH):Prop:=∃ h' tk' led',s'=c.at h' tk'/\B6 c m led' h'/\k led'
noncomputable def YR(c:Cx)(elt:aE)(gens:List cI)(sc:cB)(pos:Pos)(depth:Nat)(D:aJ)(src:AV)(m:Lm)(led:La)(k:La->Prop):Prop:=
 ∀ v,Rl src v->∀ h tk,B6 c m led h->C5 c.b (model PG c.w) c.A (pyIter v) (λ it s=>G2 c.b (model PG c.w) c.A (.compStart (.ListComp elt gens sc pos) depth it (.ref D) c.env) (λ r s'=>match r with | .ok _=>Gf c m k s' | .error _=>False) s) (λ V V=>False) (c.at h tk)
noncomputable def MO(c:Cx)(m:Lm)(ifs:List aE)(led:La)(k:Bool->La->Prop):Prop:=match ifs with
 | []=>k true led
 | [t]=>Hs c m 30 t led k
 | _=>False
noncomputable def WD(c:Cx)(elt:aE)(gens:List cI)(sc:cB)(pos:Pos)(depth:Nat)(D:aJ)(m:Lm)(led:La)(k:La->Prop):Prop:=match gens[depth+1]? with
 | none=>Y3 c elt m led λ y led'=>∃ ys rest,C1 (D,.list ys) led' rest/\ys.length<=100000/\k ((D,.list (ys++[y]))::rest)
 | some g'=>I0 c m 30 g'.iter led λ src led'=>YR c elt gens sc pos (depth+1) D src m led' k
noncomputable def Gl{σ:Type}(P:σ->Prop)(L:σ->La)(rw:La)(led':La):Prop:=∃ s,P s/\Sb led' (L s++rw)
noncomputable def EJ{σ:Type}(c:Cx)(elt:aE)(gens:List cI)(sc:cB)(pos:Pos)(depth:Nat)(D:aJ)(m:Lm)(P:σ->Prop)(L:σ->La)(rw:La):Bool->La->Prop:=λ ok led'=>Br ok (WD c elt gens sc pos depth D m led' (Gl P L rw)) (Gl P L rw led')
section
variable{c:Cx}{m m0:Lm}{led rest:La}{d:Nat}{σ:Type}{elt:aE}{gens:List cI}{sc:cB}{pos:Pos}{depth:Nat}{D:aJ}{g:cI}{xs:List Str}{n:Nat}{It:Nat->List AV->Prop}
theorem Gk{t:aE}{env:Env}:Da [t] env=(isTrue t env (eval t env) >>=λ ok=>pure ok):=by
 unfold Da
 rw[List.forIn_cons]
 simp only[if_true,bind_assoc,pure_bind,List.forIn_nil]
theorem Qh{ifs:List aE}{k:Bool->La->Prop}(q:MO c m ifs led k):Pr c (Da ifs c.env) m led k:=λ h tk r=>by
 match ifs,q with
 | [],q=>exact A7 ⟨h,tk,led,rfl,r,q⟩
 | [t],q=>
  rw[Gk]
  exact B5 (D6 (sT q h tk r) (λ V V x=>A7 x) λ V V x=>x)
 | _::_::_,q=>exact q.elim
theorem MN{α:Type}{M:jP}{A:bS}{b:Prop}{s:aH}{t:Sem α}{Q:α->aH->Prop}{E E':aF->aH->Prop}(h:E=E')(x:C5 b M A t Q E s):C5 b M A t Q E' s:=h▸x
theorem NH{k:La->Prop}{h:bF}{tk:Nat}(hs:∀ g',gens[depth+1]? =some g'->g'.is_async=0/\∀ x,foldedSetIterable g'.iter c.env x=pure x)(q:WD c elt gens sc pos depth D m led k)(r:B6 c m led h):
  C5 c.b (model PG c.w) c.A (Bh (.ListComp elt gens sc pos) gens depth elt (.ref D) c.env) (λ V=>Gf c m k) c.E (c.at h tk):=by
 unfold WD at q
 unfold Bh
 cases hl:gens[depth+1]? with
 | none=>
  rw[hl]at q
  exact B5 (K5.seq (show K5 c _ _ _ _ from q) (λ x y led4 hy q h4 tk4 r4=>w9 q λ ys rest hp hz q=>B5 (D6 ((O8 (c:=c) (m:=m) (x:=y) (k:=λ V led5=>k led5) hp hz q).2 _ rfl [.ref D,x] ⟨rfl,hy,trivial⟩ h4 tk4 r4) (λ V V p=>A7 (k3 p λ h5 tk5 led5 e r5 q=>⟨h5,tk5,led5,e,r5,q.elim λ V q=>q.2⟩)) λ V V x=>x)) r)
 | some g'=>
  rw[hl]at q
  exact B5 (K5.seq (sE q) (λ x a led4 hy q h4 tk4 r4=>A9 (D7 (bH ((hs g' hl).2 x) (B5 (B0 (D6 (q x hy h4 tk4 r4) (λ i s₅ hc=>B5 (Av (U2 hc λ r s₆ hr=>by
   rcases r with _ | _
   ·exact hr.elim
   ·exact A7 hr))) λ V V x=>x.elim)))))) r)
noncomputable def Wj(P:Nat->σ->Prop)(L:σ->La)(kp:L5)(n:Nat):La->Prop:=λ led'=>∃ s,P n s/\led'=L s++E7 kp
theorem DS{I:aJ}{own:List aJ}{kp:L5}{Pv:Nat->aF->bF->Prop}{St:Nat->bF->Prop}{os:aJ->Obj}{h:bF}{tk:Nat}(L:σ->La)(P:Nat->σ->Prop)(s₀:σ)(hE:c.E=λ V V=>False)
  (H:Ok c d) (hg:gens[depth]? =some g) (ha:g.is_async=0) (hnest:∀ g',gens[depth+1]? =some g'->g'.is_async=0/\∀ x,foldedSetIterable g'.iter c.env x=pure x) (tg:Tg c g.target xs) (hIt:∀ i v h,Pv i v h->∃ as,It i as/\Bd g.target v h as) (hlen:∀ i as,It i as->as.length=xs.length) (hm0:∀ i as,It i as->Q8 (H0 xs as m0) m0)
  (S:Sc c g.target I own kp n Pv St) (st:St 0 h) (r:B6 c m0 (L s₀++(v3 own os++E7 kp)) h) (h0:P 0 s₀)
  (turn:∀ i as s rw,(∀ q∈E7 kp,q∈rw)->i < n->It i as->P i s->MO c (H0 xs as m0) g.ifs (L s++rw) (EJ c elt gens sc pos depth D (H0 xs as m0) (P (i+1)) L rw)):
  G2 c.b (model PG c.w) c.A (.compStart (.ListComp elt gens sc pos) depth (.ref I) (.ref D) c.env) (λ r s'=>match r with | .ok _=>Gf c m0 (Wj P L kp n) s' | .error _=>False) (c.at h tk):=by
 have loop:G2 c.b (model PG c.w) c.A (.compLoop (.ListComp elt gens sc pos) depth (.ref I) (.ref D) c.env) (λ r s'=>match r with | .ok _=>Gf c m0 (Wj P L kp n) s' | .error _=>False) (c.at h tk):=by
  refine OL hg ha (λ g' h=>(hnest g' h).1) (Ge c (λ V=>m0) L P kp own n St) (λ k' s' x=>?_) n ⟨0,s₀,h,tk,os,rfl,rfl,bG _,h0,st,r⟩
  obtain⟨i,s,h,tk,os,rfl,rfl,hi,hP,st,r⟩:=x
  by_cases hin:i < n
  ·refine S.next hin st r λ v h' tk' os' hv st' r'=>C8 (hIt i v h' hv) λ as ha hbd=>Tg.go H.R.hh tg hbd (hlen i as ha) r' λ h2 tk2 r2=>?_
   have nx:∀ {led3 h3 tk3},B6 c (H0 xs as m0) led3 h3->Gl (P (i+1)) L (v3 own os'++E7 kp) led3->∃ k',k' < n - i/\Ge c (λ V=>m0) L P kp own n St k' (c.at h3 tk3):=λ r3 q=>C8 q λ s' hQ b=>
    have r4:=(r3.sub b).lsub (hm0 i as ha)
    ⟨n - (i+1),gJ hin (cU i),i+1,s',_,_,os',rfl,rfl,hin,hQ,S.keep r2 r4 (S.keep r' r2 st'),r4⟩
   refine MN hE (Pr.seq (Qh (turn i as s _ (λ q hq=>aC _ hq) hin ha hP)) (λ ok led3 hk h3 tk3 r3=>?_) r2)
   rcases ok with _ | _
   ·exact nx r3 (hk.2 rfl)
   ·exact MN hE (D6 (NH hnest (hk.1 rfl) r3) (λ V V p=>k3 p λ h5 tk5 led5 e r5 q=>e▸nx r5 q) λ V V x=>x)
  ·obtain rfl:i=n:=Nat.le_antisymm hi (Nat.not_lt.mp hin)
   exact S.stop st r λ h' tk' r'=>⟨h',tk',_,rfl,r',s,hP,rfl⟩
 exact Ms hg ha loop (S.self _ _ _ st loop)
theorem JG{src:AV}{back:La}{k:La->Prop}(I:By c g.target src led n It rest back)(L:σ->La)(P:Nat->σ->Prop)(s₀:σ)(hE:c.E=λ V V=>False)
  (H:Ok c d) (hg:gens[depth]? =some g) (ha:g.is_async=0) (hnest:∀ g',gens[depth+1]? =some g'->g'.is_async=0/\∀ x,foldedSetIterable g'.iter c.env x=pure x) (tg:Tg c g.target xs) (hlen:∀ i as,It i as->as.length=xs.length) (hm0:∀ i as,It i as->Q8 (H0 xs as m0) m0) (hl:Sb rest (L s₀)) (h0:P 0 s₀)
  (turn:∀ i as s rw,i < n->It i as->P i s->MO c (H0 xs as m0) g.ifs (L s++rw) (EJ c elt gens sc pos depth D (H0 xs as m0) (P (i+1)) L rw)) (fin:∀ s,P n s->k (L s++back)):YR c elt gens sc pos depth D src m0 led k:=
 λ v hv h tk r=>A4 (I v hv m0 h tk r _ _ λ I h' own os kp Pv St hIt S st r' hb V=>U2 (DS L P s₀ hE H hg ha hnest tg hIt hlen hm0 S st (r'.sub hl.app) h0 λ i as s rw V=>turn i as s rw) λ r s' x=>by
  rcases r with _ | _
  ·exact x.elim
  ·exact k3 x λ h2 tk2 led2 e r2 q=>C8 q λ s hs e2=>⟨h2,tk2,_,e,hb rfl (e2▸r2),fin s hs⟩)
end
section
variable{c:Cx}{m:Lm}{led rest:La}{d:Nat}{σ:Type}{elt iter target:aE}{ifs:List aE}{gs:List cI}{sc:cB}{pos:Pos}{cl:List (Str×aJ)}{xs:List Str}{n:Nat}{It:Nat->List AV->Prop}
noncomputable def Pw(c:Cx)(elt target iter:aE)(ifs:List aE)(gs:List cI)(sc:cB)(pos:Pos)(cl:List (Str×aJ))(use:Option (aF->Sem Unit))(Q:aF->aH->Prop)(src:AV)(m:Lm)(led:La):Prop:=
 ∀ v,Rl src v->∀ h tk,B6 c m led h->C5 c.b (model PG c.w) c.A (pyIter v) (λ it s₂=>C5 c.b (model PG c.w) c.A (newList []) (λ acc s₃=>C5 c.b (model PG c.w) c.A (newFunctionEnv sc c.env.globals cl [] c.env.qual none .none (some c.env)) (λ cenv s₄=>
  G2 c.b (model PG c.w) c.A (.compStart (.ListComp elt (⟨target,iter,ifs,0⟩::gs) sc pos) 0 it acc {cenv with scope:=relabel sc c.env}) (Kg c.b (model PG c.w) c.A c.E use Q acc cenv.locals) s₄) c.E s₃) c.E s₂) c.E (c.at h tk)
theorem YT{X Y Z:La}{p q:aJ×AO}:(p::q::(X++(Y++Z))).Perm (p::X++(Y++(q::Z))):=by
 refine List.Perm.cons _ ?_
 show(q::(X++(Y++Z))).Perm (X++(Y++q::Z))
 rw[←aP,←aP]
 exact gB.symm
theorem DN{KP:L5->Prop}{src:AV}{back:La}{use:Option (aF->Sem Unit)}{Q:aF->aH->Prop}(I:By c target src led n It rest back KP)(L:σ->La)(P:Nat->σ->List AV->Prop)(s₀:σ)(H:Ok c d)(hl:Sb rest (L s₀))(h0:P 0 s₀ [])(hkind:sc.kind= .function)(hcell:(sc.names.all λ y=>y.2 != .cell)=true)
  (hnest:∀ g',gs[0]? =some g'->g'.is_async=0/\∀ env x,foldedSetIterable g'.iter env x=pure x) (tg:∀ C,Tg (I8 c sc cl C) target xs) (hlen:∀ i as,It i as->as.length=xs.length)
  (turn:∀ C,Ok (I8 c sc cl C) d->∀ i as D t ys rw,(∃ kp,KP kp/\∀ q∈E7 kp,q∈rw)->i < n->It i as->P i t ys->MO (I8 c sc cl C) (H0 xs as []) ifs ((D,.list ys)::L t++rw) (EJ (I8 c sc cl C) elt (⟨target,iter,ifs,0⟩::gs) sc pos 0 D (H0 xs as []) (λ z:σ×List AV=>P (i+1) z.1 z.2) (λ z=>(D,.list z.2)::L z.1) rw))
  (fin:∀ t ys D C oC mm h tk,P n t ys->(∀ h'':bF,h''.get? C=some oC->h''.Ns C mm)->B6 c m ((C,.raw oC)::((D,.list ys)::L t++back)) h->Kg c.b (model PG c.w) c.A c.E use Q (.ref D) C (.ok .next) (c.at h tk)):
  Pw c elt target iter ifs gs sc pos cl use Q src m led:=by
 refine λ v hv h tk r=>A4 (I v hv m h tk r _ _ λ I h' own os kp Pv St hIt S st r' hb hkp=>A4 (cS (A4 (wpAny_newFunctionEnv (λ y hy=>bne_iff_ne.mp (dU.mp hcell y hy)) (λ y hy=>nm hy) (λ h₁ hn hs=>?_) hkind))))
 refine R9 (r'.into (cl:=cl) hkind hn hs) λ oL r1 old hback=>?_
 have O1:Ok (I8 c sc cl (EK h').objs.size) d:=H.comp hkind
 have S1:Sc (I8 c sc cl (EK h').objs.size) target I own ((c.env.locals,oL)::kp) n Pv St:=⟨k3 S.tn λ fp wr Md W a b=>⟨fp,wr,Md,W,a,λ x hx=>(b x hx).elim .inl λ y=>y.elim (λ z=> .inr (.inl (.tail _ z))) λ z=> .inr (.inr z)⟩,S.live,S.self⟩
 have r2:B6 (I8 c sc cl (EK h').objs.size) [] (((h'.objs.size,.list [])::L s₀)++(v3 own os++E7 ((c.env.locals,oL)::kp))) h₁:=(r1.perm (YT (Y:=v3 own os) (Z:=E7 kp))).sub ((Sb.cons (.head _) hl:Sb ((h'.objs.size,AO.list [])::rest) ((h'.objs.size,.list [])::L s₀)).app)
 refine U2 (DS (c:=I8 c sc cl _) (m0:=[]) (λ z:σ×List AV=>(h'.objs.size,.list z.2)::L z.1) (λ i z=>P i z.1 z.2) (s₀,[]) rfl O1 (g:=⟨target,iter,ifs,0⟩) rfl rfl (λ g' hg'=>⟨(hnest g' hg').1,(hnest g' hg').2 _⟩) (tg _) hIt hlen (λ V V V=>trivial) S1 (k3 S.tn λ V V V W V V=>W.frame _ _ _ st λ b V o e=>old b o e) r2 h0 (λ i as z rw hrw hi ha hP=>turn _ O1 i as _ z.1 z.2 rw ⟨kp,hkp,λ q hq=>hrw q (.tail _ hq)⟩ hi ha hP)) λ rr s' x=>?_
 rcases rr with _ | f
 ·exact x.elim
 ·refine k3 x λ h2 tk2 led2 e r3 q=>C8 q λ z hs e2=>?_
  subst e e2
  refine Q4 (hback _ _ _ (r3.perm (l':=(c.env.locals,.raw oL)::((h'.objs.size,.list z.2)::L z.1++E7 kp)) List.perm_middle)) λ oC mm hns r5=>?_
  have:=fin z.1 z.2 _ _ oC mm h2 tk2 hs hns (hb (c':=c) (led:=(_,.raw oC)::(h'.objs.size,.list z.2)::L z.1) rfl r5)
  rcases use<;>exact this
noncomputable def U4(c:Cx)(elt target iter:aE)(ifs:List aE)(gs:List cI)(sc:cB)(pos:Pos)(cl:List (Str×aJ))(src:AV)(m:Lm)(led:La)(k:AV->La->Prop):Prop:=Pw c elt target iter ifs gs sc pos cl none (E2 c m λ v led'=>∃ a,Rl a v/\k a led') src m led
noncomputable def VB(c:Cx)(elt target iter:aE)(ifs:List aE)(gs:List cI)(sc:cB)(pos:Pos)(cl:List (Str×aJ))(m:Lm)(k:AV->La->Prop):AV->La->Prop:=λ src led'=>U4 c elt target iter ifs gs sc pos cl src m led' k
theorem Jg{sc:cB}(hn:(sc.names.all λ x=>x.2 != .local || sc.names.lookup x.1== some .local)=true)(x:Str×kU)(hx:x∈sc.names)(hl:x.2= .local):sc.names.lookup x.1=some .local:=by
 have:=dU.mp hn x hx
 rw[hl]at this
 exact jW this
theorem K3{k:AV->La->Prop}(h:I0 c m 30 iter led (VB c elt target iter ifs gs sc pos cl m k))(hcl:closureFor sc c.env=pure cl)(hkind:sc.kind= .function)(hn:(sc.names.all λ x=>x.2 != .local || sc.names.lookup x.1== some .local)=true)(hs:∀ x,foldedSetIterable iter c.env x=pure x:=by intro _; rfl):
  Y3 c (.ListComp elt (⟨target,iter,ifs,0⟩::gs) sc pos) m led k:=by
 intro hh tk r
 rw[eval_ListComp]
 refine HB (use:=none) rfl hs hcl hkind (Jg hn) (K5.seq (sE h) (λ v a led' ha q h tk r=>q v ha h tk r) r)
noncomputable def CT(c:Cx)(elt target iter:aE)(ifs:List aE)(gs:List cI)(sc:cB)(pos:Pos)(cl:List (Str×aJ))(y:Str)(py:Pos)(src:AV)(m:Lm)(led:La)(k:Fl->Lm->La->Prop):Prop:=Pw c elt target iter ifs gs sc pos cl (some (assign (.Name y py) c.env)) (λ V s'=>H1 c k .next s') src m led
noncomputable def Oo(c:Cx)(elt target iter:aE)(ifs:List aE)(gs:List cI)(sc:cB)(pos:Pos)(cl:List (Str×aJ))(y:Str)(py:Pos)(m:Lm)(k:Fl->Lm->La->Prop):AV->La->Prop:=λ src led'=>CT c elt target iter ifs gs sc pos cl y py src m led' k
theorem AQ{k:Fl->Lm->La->Prop}{y:Str}{py spos:Pos}(h:I0 c m 30 iter led (Oo c elt target iter ifs gs sc pos cl y py m k))(hcl:closureFor sc c.env=pure cl)(hkind:sc.kind= .function)(hn:(sc.names.all λ x=>x.2 != .local || sc.names.lookup x.1== some .local)=true)
  (hsw:swapsWith (.ListComp elt (⟨target,iter,ifs,0⟩::gs) sc pos) (some (.Name y py)) spos.line c.env=pure true) (hs:∀ x,foldedSetIterable iter c.env x=pure x:=by intro _; rfl):
  Ac c (.Assign [.Name y py] (.ListComp elt (⟨target,iter,ifs,0⟩::gs) sc pos) spos) m led k:=by
 intro hh tk r
 rw[exec_Assign_Name_used _ _ _ _ hsw]
 refine A9 (B5 ?_)
 show C5 c.b _ c.A (do let _←comprehension (.ListComp elt (⟨target,iter,ifs,0⟩::gs) sc pos) sc c.env _ (newList []) false (eval iter c.env) (some (assign (.Name y py) c.env))) _ _ _
 refine B5 (D6 (HB (use:=some (assign (.Name y py) c.env)) (Q:=λ V s'=>H1 c k .next s') rfl hs hcl hkind (Jg hn) (K5.seq (sE h) (λ v a led' ha q h tk r=>q v ha h tk r) r)) (λ V V q=>A7 (A7 q)) λ V V e=>e)
theorem B6.conv2{l:La}{D C:aJ}{a b ao:AO}{h:bF}(r:B6 c m ((C,ao)::(D,a)::l) h)(e:∀ o,L9 c.w a o->L9 c.w b o):B6 c m ((C,ao)::(D,b)::l) h:=
 ((r.perm (.swap _ _ _)).conv e).perm (.swap _ _ _)
theorem x7{KP:L5->Prop}{src:AV}{back:La}{k:AV->La->Prop}(I:By c target src led n It rest back KP)(L:σ->La)(P:Nat->σ->List AV->Prop)(s₀:σ)(H:Ok c d)(hl:Sb rest (L s₀))(h0:P 0 s₀ [])(hkind:sc.kind= .function)(hcell:(sc.names.all λ y=>y.2 != .cell)=true)
  (hnest:∀ g',gs[0]? =some g'->g'.is_async=0/\∀ env x,foldedSetIterable g'.iter env x=pure x) (tg:∀ C,Tg (I8 c sc cl C) target xs) (hlen:∀ i as,It i as->as.length=xs.length)
  (turn:∀ C,Ok (I8 c sc cl C) d->∀ i as D t ys rw,(∃ kp,KP kp/\∀ q∈E7 kp,q∈rw)->i < n->It i as->P i t ys->MO (I8 c sc cl C) (H0 xs as []) ifs ((D,.list ys)::L t++rw) (EJ (I8 c sc cl C) elt (⟨target,iter,ifs,0⟩::gs) sc pos 0 D (H0 xs as []) (λ z:σ×List AV=>P (i+1) z.1 z.2) (λ z=>(D,.list z.2)::L z.1) rw))
  (fin:∀ t ys D,P n t ys->∃ ao led',(∀ o,L9 c.w (.list ys) o->L9 c.w ao o)/\Sb (((D,ao)::L t)++back) led'/\k (.ref D) led'):U4 c elt target iter ifs gs sc pos cl src m led k:=
 DN I L P s₀ H hl h0 hkind hcell hnest tg hlen turn λ t ys D C oC mm h tk hP hns r=>by
  exact w9 (fin t ys D hP) λ ao l' e sb q=>⟨mm,hns h (r.rawE (.head _)),λ h' hs=>⟨h',tk,_,rfl,((r.conv2 e).butC hs).sub sb,.ref D,rfl,q⟩⟩
theorem Bm{KP:L5->Prop}{src:AV}{back:La}{k:AV->La->Prop}(I:By c target src led n It rest back KP)(L:σ->La)(P:Nat->σ->List AV->Prop)(s₀:σ)(H:Ok c d)(hl:Sb rest (L s₀))(h0:P 0 s₀ [])(hkind:sc.kind= .function)(hcell:(sc.names.all λ y=>y.2 != .cell)=true)
  (hnest:∀ g',gs[0]? =some g'->g'.is_async=0/\∀ env x,foldedSetIterable g'.iter env x=pure x) (tg:∀ C,Tg (I8 c sc cl C) target xs) (hlen:∀ i as,It i as->as.length=xs.length)
  (turn:∀ C,Ok (I8 c sc cl C) d->∀ i as D t ys rw,(∃ kp,KP kp/\∀ q∈E7 kp,q∈rw)->i < n->It i as->P i t ys->MO (I8 c sc cl C) (H0 xs as []) ifs ((D,.list ys)::L t++rw) (EJ (I8 c sc cl C) elt (⟨target,iter,ifs,0⟩::gs) sc pos 0 D (H0 xs as []) (λ z:σ×List AV=>P (i+1) z.1 z.2) (λ z=>(D,.list z.2)::L z.1) rw))
  (fin:∀ t ys D,P n t ys->∃ ao,(∀ o,L9 c.w (.list ys) o->L9 c.w ao o)/\k (.ref D) (((D,ao)::L t)++back)):U4 c elt target iter ifs gs sc pos cl src m led k:=
 x7 I L P s₀ H hl h0 hkind hcell hnest tg hlen turn λ t ys D hP=>C8 (fin t ys D hP) λ ao e q=>⟨ao,_,e,.refl,q⟩
theorem Hg{KP:L5->Prop}{src:AV}{back:La}{k:Fl->Lm->La->Prop}{y:Str}{py:Pos}(sk:I7 c y)(I:By c target src led n It rest back KP)(L:σ->La)(P:Nat->σ->List AV->Prop)(s₀:σ)(H:Ok c d)(hl:Sb rest (L s₀))(h0:P 0 s₀ [])(hkind:sc.kind= .function)(hcell:(sc.names.all λ y=>y.2 != .cell)=true)
  (hnest:∀ g',gs[0]? =some g'->g'.is_async=0/\∀ env x,foldedSetIterable g'.iter env x=pure x) (tg:∀ C,Tg (I8 c sc cl C) target xs) (hlen:∀ i as,It i as->as.length=xs.length)
  (turn:∀ C,Ok (I8 c sc cl C) d->∀ i as D t ys rw,(∃ kp,KP kp/\∀ q∈E7 kp,q∈rw)->i < n->It i as->P i t ys->MO (I8 c sc cl C) (H0 xs as []) ifs ((D,.list ys)::L t++rw) (EJ (I8 c sc cl C) elt (⟨target,iter,ifs,0⟩::gs) sc pos 0 D (H0 xs as []) (λ z:σ×List AV=>P (i+1) z.1 z.2) (λ z=>(D,.list z.2)::L z.1) rw))
  (fin:∀ t ys D,P n t ys->∃ ao,(∀ o,L9 c.w (.list ys) o->L9 c.w ao o)/\k .next (G3 y (.ref D) m) (((D,ao)::L t)++back)):CT c elt target iter ifs gs sc pos cl y py src m led k:=
 DN I L P s₀ H hl h0 hkind hcell hnest tg hlen turn λ t ys D C oC mm h tk hP hns r=>by
  exact C8 (fin t ys D hP) λ ao e q=>A4 (wpAny_assign_Name (sk.setA (a:= .ref D) rfl (r.conv2 e) λ h' tk' r'=>⟨mm,hns h' (r'.rawE (.head _)),λ h'' hs=>H1.of (fl:= .next) (r'.butC hs) rfl q⟩))
theorem Y3.perm{k:AV->La->Prop}{l l':La}{e:aE}(p:l.Perm l')(h:Y3 c e m l' k):Y3 c e m l k:=λ hh tk r=>h hh tk (r.perm p)
theorem Y3.weak{k k':AV->La->Prop}{e:aE}(h:Y3 c e m led k)(q:∀ y led',k y led'->∃ led'',(∀ h,B6 c m led' h->B6 c m led'' h)/\k' y led''):Y3 c e m led k':=λ hh tk r=>
 D6 (h hh tk r) (λ V V x=>k3 x λ h' tk' led' e r' y=>C8 y λ a ha hk=>C8 (q a led' hk) λ led'' f hq=>⟨h',tk',led'',e,f h' r',a,ha,hq⟩) λ V V x=>x
end
section
variable{c:Cx}{m:Lm}{led rest back:La}{d:Nat}{σ:Type}{elt iter:aE}{x:Str}{px:Pos}{sc:cB}{pos:Pos}{n:Nat}{It:Nat->AV->Prop}{src:AV}{cl:List (Str×aJ)}{S:cB}
theorem HM{target:aE}{xs:List Str}{as:List AV}{L:σ->La}{P:σ->AV->Prop}{P':σ->List AV->Prop}{t:σ}{ys:List AV}{D:aJ}{rw:La}(hz:ys.length<=100000)(hP:∀ t y,P t y->P' t (ys++[y]))
  (h:I0 c (H0 xs as []) 30 elt (L t++((D,.list ys)::rw)) (ML P L ((D,.list ys)::rw))):
  MO c (H0 xs as []) [] ((D,.list ys)::L t++rw) (EJ c elt [⟨target,iter,[],0⟩] sc pos 0 D (H0 xs as []) (λ z:σ×List AV=>P' z.1 z.2) (λ z=>(D,.list z.2)::L z.1) rw):=
 J5 (((show Y3 c elt (H0 xs as []) _ _ from sE h).perm gB.symm).weak λ y led' ⟨t',hP',hs⟩=>⟨(D,.list ys)::(L t'++rw),λ h r=>(r.sub hs).perm List.perm_middle,ys,_,.head _,hz,(t',ys++[y]),hP _ _ hP',.refl⟩)
theorem V8{xs:List Str}{C:aJ}(h:(xs.all λ x=>sc.names.lookup x== some .local && x != ("__debug__":Str))=true):∀ x∈xs,I7 (I8 c sc cl C) x:=λ x hx=>
 have h:=bI.mp (dU.mp h x hx)
 ⟨lookup_relabel_local (jW h.1),by rw[←jV]; exact h.2⟩
section
variable{KP:L5->Prop}{target:aE}{xs:List Str}{ItL:Nat->List AV->Prop}
theorem DP{k:AV->La->Prop}(I:By c target src led n ItL rest back KP)(L:σ->La)(P:Nat->σ->List AV->Prop)(s₀:σ)(H:Ok c d)(hS:c.env.scope=S)(hl:Sb rest (L s₀))(h0:P 0 s₀ [])(hkind:sc.kind= .function)(u5:(xs.all λ x=>sc.names.lookup x== some .local && x != ("__debug__":Str))=true)(tg:∀ c2:Cx,(∀ x∈xs,I7 c2 x)->Tg c2 target xs)(hlen:∀ i as,ItL i as->as.length=xs.length)(hcell:(sc.names.all λ y=>y.2 != .cell)=true)(hsz:n<=100000)
  (turn:∀ c2,Ok c2 d->c2.env.scope=relabel sc (envOf "" S 0 0 .none)->(c2.w=c.w/\c2.b=c.b)->c2.env.cells=cl->∀ i as t ys rw,(∃ kp,KP kp/\∀ q∈E7 kp,q∈rw)->i < n->ItL i as->P i t ys->ys.length<=i->I0 c2 (H0 xs as []) 30 elt (L t++rw) (ML (λ t' y=>P (i+1) t' (ys++[y])) L rw))
  (fin:∀ t ys D,P n t ys->∃ ao led',(∀ o,L9 c.w (.list ys) o->L9 c.w ao o)/\Sb (((D,ao)::L t)++back) led'/\k (.ref D) led'):U4 c elt target iter [] [] sc pos cl src m led k:=
 x7 I L (λ i t ys=>P i t ys/\ys.length<=i) s₀ H hl ⟨h0,aR _⟩ hkind hcell (λ V h=>nn h) (λ C=>tg _ (V8 u5)) hlen
  (λ C O i as D t ys rw x hi ha y=>C8 x λ kp h1 h2=>HM (P':=λ t ys=>P (i+1) t ys/\ys.length<=i+1) (aS y.2 (aS (jC hi) hsz)) (λ t z h=>⟨h,by rw[aI]; exact bL y.2⟩) (turn (I8 c sc cl C) O (Y8 hS) ⟨rfl,rfl⟩ rfl i as t ys _ ⟨kp,h1,λ q hq=> .tail _ (h2 q hq)⟩ hi ha y.1 y.2))
  (λ t ys D hP=>fin t ys D hP.1)
theorem Bl{k:AV->La->Prop}(I:By c target src led n ItL rest back KP)(L:σ->La)(P:Nat->σ->List AV->Prop)(s₀:σ)(H:Ok c d)(hS:c.env.scope=S)(hl:Sb rest (L s₀))(h0:P 0 s₀ [])(hkind:sc.kind= .function)(u5:(xs.all λ x=>sc.names.lookup x== some .local && x != ("__debug__":Str))=true)(tg:∀ c2:Cx,(∀ x∈xs,I7 c2 x)->Tg c2 target xs)(hlen:∀ i as,ItL i as->as.length=xs.length)(hcell:(sc.names.all λ y=>y.2 != .cell)=true)(hsz:n<=100000)
  (turn:∀ c2,Ok c2 d->c2.env.scope=relabel sc (envOf "" S 0 0 .none)->(c2.w=c.w/\c2.b=c.b)->c2.env.cells=cl->∀ i as t ys rw,(∃ kp,KP kp/\∀ q∈E7 kp,q∈rw)->i < n->ItL i as->P i t ys->ys.length<=i->I0 c2 (H0 xs as []) 30 elt (L t++rw) (ML (λ t' y=>P (i+1) t' (ys++[y])) L rw))
  (fin:∀ t ys D,P n t ys->∃ ao,(∀ o,L9 c.w (.list ys) o->L9 c.w ao o)/\k (.ref D) (((D,ao)::L t)++back)):U4 c elt target iter [] [] sc pos cl src m led k:=
 DP I L P s₀ H hS hl h0 hkind u5 tg hlen hcell hsz turn λ t ys D hP=>C8 (fin t ys D hP) λ ao e q=>⟨ao,_,e,.refl,q⟩
theorem Bk{k:Fl->Lm->La->Prop}{y:Str}{py:Pos}(sk:I7 c y)(I:By c target src led n ItL rest back KP)(L:σ->La)(P:Nat->σ->List AV->Prop)(s₀:σ)(H:Ok c d)(hS:c.env.scope=S)(hl:Sb rest (L s₀))(h0:P 0 s₀ [])(hkind:sc.kind= .function)(u5:(xs.all λ x=>sc.names.lookup x== some .local && x != ("__debug__":Str))=true)(tg:∀ c2:Cx,(∀ x∈xs,I7 c2 x)->Tg c2 target xs)(hlen:∀ i as,ItL i as->as.length=xs.length)(hcell:(sc.names.all λ y=>y.2 != .cell)=true)(hsz:n<=100000)
  (turn:∀ c2,Ok c2 d->c2.env.scope=relabel sc (envOf "" S 0 0 .none)->(c2.w=c.w/\c2.b=c.b)->c2.env.cells=cl->∀ i as t ys rw,(∃ kp,KP kp/\∀ q∈E7 kp,q∈rw)->i < n->ItL i as->P i t ys->ys.length<=i->I0 c2 (H0 xs as []) 30 elt (L t++rw) (ML (λ t' y=>P (i+1) t' (ys++[y])) L rw))
  (fin:∀ t ys D,P n t ys->∃ ao,(∀ o,L9 c.w (.list ys) o->L9 c.w ao o)/\k .next (G3 y (.ref D) m) (((D,ao)::L t)++back)):CT c elt target iter [] [] sc pos cl y py src m led k:=
 Hg sk I L (λ i t ys=>P i t ys/\ys.length<=i) s₀ H hl ⟨h0,aR _⟩ hkind hcell (λ V h=>nn h) (λ C=>tg _ (V8 u5)) hlen
  (λ C O i as D t ys rw x hi ha y=>C8 x λ kp h1 h2=>HM (P':=λ t ys=>P (i+1) t ys/\ys.length<=i+1) (aS y.2 (aS (jC hi) hsz)) (λ t z h=>⟨h,by rw[aI]; exact bL y.2⟩) (turn (I8 c sc cl C) O (Y8 hS) ⟨rfl,rfl⟩ rfl i as t ys _ ⟨kp,h1,λ q hq=> .tail _ (h2 q hq)⟩ hi ha y.1 y.2))
  (λ t ys D hP=>fin t ys D hP.1)
end
theorem s6{k:AV->La->Prop}(I:t9 c src led n It rest back)(L:σ->La)(P:Nat->σ->List AV->Prop)(s₀:σ)(H:Ok c d)(hS:c.env.scope=S)(hl:Sb rest (L s₀))(h0:P 0 s₀ [])(hkind:sc.kind= .function)(hx:sc.names.lookup x=some .local)(hxd:(x== ("__debug__":Str))=false)(hcell:(sc.names.all λ y=>y.2 != .cell)=true)(hsz:n<=100000)
  (turn:∀ c2,Ok c2 d->c2.env.scope=relabel sc (envOf "" S 0 0 .none)->(c2.w=c.w/\c2.b=c.b)->c2.env.cells=cl->∀ i a t ys rw,i < n->It i a->P i t ys->ys.length<=i->I0 c2 [(x,a)] 30 elt (L t++rw) (ML (λ t' y=>P (i+1) t' (ys++[y])) L rw))
  (fin:∀ t ys D,P n t ys->∃ ao,(∀ o,L9 c.w (.list ys) o->L9 c.w ao o)/\k (.ref D) (((D,ao)::L t)++back)):U4 c elt (.Name x px) iter [] [] sc pos cl src m led k:=
 Bl (xs:=[x]) I.x L P s₀ H hS hl h0 hkind (by rw[fF,hx,bne,hxd]; rfl) (λ c2 h=> .name (h _ (.head _))) DA hcell hsz
  (λ c2 O hs hw hc i as t ys rw V hi x hP hy=>C8 x λ a e ha=>by subst e; exact turn c2 O hs hw hc i a t ys rw hi ha hP hy) fin
noncomputable def YQ{σ:Type}(P:σ->List Int->Prop)(L:σ->La)(rw:La)(ns:List Int)(y:AV)(led':La):Prop:=ML (λ t' y=>∃ ns',ns.map AV.int++[y]=ns'.map .int/\P t' ns') L rw y led'
theorem Zr{P:σ->List Int->Prop}{L:σ->La}{rw:La}{ns:List Int}{n:Int}{led':La}(s:σ)(h:P s (ns++[n]))(hl:Sb led' (L s++rw)):YQ P L rw ns (.int n) led':=⟨s,⟨ns++[n],by rw[bB]; rfl,h⟩,hl⟩
theorem JF{k:AV->La->Prop}(I:t9 c src led n It rest back)(L:σ->La)(P:Nat->σ->List Int->Prop)(s₀:σ)(H:Ok c d)(hS:c.env.scope=S)(hl:Sb rest (L s₀))(h0:P 0 s₀ [])(hkind:sc.kind= .function)(hx:sc.names.lookup x=some .local)(hxd:(x== ("__debug__":Str))=false)(hcell:(sc.names.all λ y=>y.2 != .cell)=true)(hsz:n<=100000)
  (turn:∀ c2,Ok c2 d->c2.env.scope=relabel sc (envOf "" S 0 0 .none)->(c2.w=c.w/\c2.b=c.b)->c2.env.cells=cl->∀ i a t ns rw,i < n->It i a->P i t ns->ns.length<=i->I0 c2 [(x,a)] 30 elt (L t++rw) (YQ (P (i+1)) L rw ns))
  (fin:∀ t ns D,P n t ns->k (.ref D) (((D,.ints ns)::L t)++back)):U4 c elt (.Name x px) iter [] [] sc pos cl src m led k:=by
 refine s6 I L (λ i t ys=>∃ ns,ys=ns.map .int/\P i t ns) s₀ H hS hl ⟨[],rfl,h0⟩ hkind hx hxd hcell hsz ?_ ?_
 ·rintro c2 O2 h2 hw2 hc2 i a t ys rw hi ha ⟨ns,rfl,hP⟩ hy
  rw[aQ]at hy
  exact turn c2 O2 h2 hw2 hc2 i a t ns rw hi ha hP hy
 ·rintro t ys D ⟨ns,rfl,hP⟩
  exact⟨.ints ns,λ o ⟨vs,n,e,h⟩=>⟨vs,n,e,Y7 h⟩,fin t ns D hP⟩
end
end
section
section
variable{c:Cx}{m:Lm}{led rest:La}{k:AV->La->Prop}{d:Nat}
theorem U6.new{A:bS}{d:Nat}{C:aJ}{vs:List aF}(R:U6 A (d+1)):U6 (A.under (.builtin "type.__call__" ⟨.ref C::vs,[]⟩)) d:=by
 have hw:(lZ "type.__call__" ⟨.ref C::vs,[]⟩).weight=1:=by kernel_rfl
 have hu:(lZ "type.__call__" ⟨.ref C::vs,[]⟩).cUnits=1:=by kernel_rfl
 exact⟨R.hh,by have:=R.dep; show A.depth+(lZ "type.__call__" ⟨.ref C::vs,[]⟩).weight+d < 990; rw[hw]; lia,by have:=R.un; show A.units+(lZ "type.__call__" ⟨.ref C::vs,[]⟩).cUnits+8*d < 9800; rw[hu]; lia⟩
theorem Y9{C fI:aJ}{as:List AV}(H:Ok c (d+1))(hm:makesIn (KF c.w.params) C=true)(hi:findIn (KF c.w.params) (.ref C) "__init__"=some (some (.ref fI)))(hf:typeIn (KF c.w.params) (.ref fI)=some (.type "function"))(hk:keepIn (KF c.w.params) (.ref C)=true)
  (h:∀ c' X D,Ok c' d->c'.w=c.w->Hy c' fI (.ref X::as) m ((X,.inst C D)::(D,.dict [])::led) (λ v led'=>v= .none/\k (.ref X) led')):C9 c (.ref C) as m led k:=by
 refine Hy.toC H hk λ vs hvs h' tk r=>r.op λ{mm ol} R=>Bn (make_K (s:=c.at h' tk) R.F R.N (λ b o e=>r.base (H.X b o e)) hm hi hf λ X D h2 F' N' hlt hDX=>?_)
 have hD:D∉led.map (·.1):=R.A.lt hlt
 have hX:X∉led.map (·.1):=R.A.lt λ p hp=>jA (hlt p hp) hDX
 have r':B6 ⟨c.w,c.A.under (.builtin "type.__call__" ⟨.ref C::vs,[]⟩),c.g,c.env,c.s,λ V V=>False,False⟩ m ((X,.inst C D)::(D,.dict [])::led) h2:=
  ⟨⟨mm,F',R.hl⟩,λ q hq=>S3 (C:=CV c h2) hq ⟨_,rfl,N' _ (.head _)⟩ λ hq=>S3 (C:=CV c h2) hq ⟨_,⟨[],0,rfl,trivial⟩,N' _ (.tail _ (.head _))⟩ λ hq=>C8 (R.A.mem' hq) λ o a b=>⟨o,a,N' _ (.tail _ (.tail _ b))⟩,
   aZ.mpr ⟨λ e=>BW e (λ e=>absurd e (gF hDX)) hX,aZ.mpr ⟨hD,r.nd⟩⟩,r.fk,r.lc⟩
 have O':Ok ⟨c.w,c.A.under (.builtin "type.__call__" ⟨.ref C::vs,[]⟩),c.g,c.env,c.s,λ V V=>False,False⟩ d:=⟨H.X,H.T,H.R.new,H.fk,H.gl,H.bl,.never,H.sm⟩
 refine codeAny_mono (Cf<|h _ X D O' rfl (.ref X::vs) ⟨rfl,hvs⟩ h2 tk r') λ rr s' x=>?_
 rcases rr with e | fl
 ·exact x.elim
 ·rcases fl<;>first | exact x.elim | exact k3 x λ h3 tk3 led3 e r3 y=>C8 y λ a ha hk=>⟨(hk.1▸ha:Rl .none _),h3,tk3,led3,e,⟨r3.fr,r3.nw,r3.nd,r3.fk,r3.lc⟩,.ref X,rfl,hk.2⟩
theorem Cv{x n v:Int}(hn:0<=n)(hn2:n<=1000)(hx:x.natAbs < 18446744073709551616)(e:x*2 ^ n.toNat=v)(h:k (.int v) led):Op c (λ vs=>binaryOp .LShift (vs.getD 0 .none) (vs.getD 1 .none)) [.int x,.int n] m led k:=a9 hn hn2 hx (e▸h)
theorem CC{x y v:Int}(hy:0 < y/\y < 1073741824)(e:x / y=v)(h:k (.int v) led):Op c (λ vs=>binaryOp .FloorDiv (vs.getD 0 .none) (vs.getD 1 .none)) [.int x,.int y] m led k:=M4 hy (e▸h)
end
end
section
section
variable{c:Cx}{m:Lm}{led rest:La}{k:AV->La->Prop}{d:Nat}
theorem c6{e:aE}{n1 name:Str}{p1 p:Pos}(h:I0 c m 30 (.Attribute e n1 p1) led (MV c m name k)):Y3 c (.Attribute (.Attribute e n1 p1) name p) m led k:=by
 intro hh tk r
 rw[arm_eval_Attribute]
 refine B5 (m:=eval (.Attribute e n1 p1) c.env) (K5.seq (sE h) (λ v a led' ha q h tk r=>A9 (B5 (B0 ?_))) r)
 refine K5.seq (q [v] ⟨ha,trivial⟩) (λ v a led' ha q h tk r=>?_) r
 exact D7 (wpAny_letTemporaryGo (A7 (E2.ofV r ha q)))
theorem IL{i:Int}{k:AV->List AV->La->Prop}(h:k (.fn (.builtin "int.bit_length")) [.int i] led):Hw c (aA "bit_length") (.int i) m led k:=λ u hu pl hh tk r=>A4<|
 Rl.i (C:=λ u=>wpAny _ _ (getMethod u _ pl) _ _ _) hu λ t=>getMethod_int_bit_length ⟨_,_,led,rfl,r,.fn _,[.int i],rfl,⟨⟨t,rfl⟩,trivial⟩,h⟩
theorem LI{i n:Int}(e:eS i=n)(h:k (.int n) led):C9 c (.fn (.builtin "int.bit_length")) [.int i] m led k:=
 a4<|WI.i λ t hh tk r=>call_int_bit_length (e▸r.i (e.symm▸h))
theorem B6.isTup{h:bF}{a:aJ}{as:List AV}(r:B6 c m led h)(hm:(a,AO.tup as)∈led):∃ vs,IsTup h a (eG vs)/\Q1 as vs:=r.at hm λ ho hg V V=>C8 ho λ vs e hi=>⟨vs,⟨_,e▸hg,rfl,0,rfl⟩,hi⟩
theorem KL{as:List AV}{us:List aF}(h:Q1 as us):us.toArray.isEmpty=as.isEmpty:=by
 rcases as with _ | _
 ·exact a0 (C:=λ us=>us.toArray.isEmpty=true) h rfl
 ·exact S8 (C:=λ us=>us.toArray.isEmpty=false) h λ V V V V=>rfl
theorem IB{k:Bool->La->Prop}{a:aJ}{as:List AV}(hm:(a,AO.tup as)∈led)(hz:as.length<=100000)(h:k (!as.isEmpty) led):XV c (λ vs=>truthy (vs.getD 0 .none)) [.ref a] m led k:=λ vs hv hh tk r=>A4<|
 Cm (C:=λ vs=>wpAny _ _ (truthy (vs.getD 0 .none)) _ _ _) hv λ u hu=>Rl.r (C:=λ u=>wpAny _ _ (truthy u) _ _ _) hu<|C8 (r.isTup hm) λ us ht hu=>
  truthy_tuple ht (jM (Int.ofNat_le.mpr (aS (dZ (aX.trans (G4 hu))) hz)) (by decide)) ⟨_,_,led,rfl,r,KL hu▸h⟩
theorem Ij{as:List AV}{us:List aF}(h:Q1 as us)(n:as≠[]):us≠[]:=by
 rcases as with _ | _
 ·exact absurd rfl n
 ·exact S8 (C:=λ us=>us≠[]) h λ V V V V=>gD _ _
theorem LK{a b:aJ}{as bs:List AV}(ha:(a,AO.tup as)∈led)(hb:(b,AO.tup bs)∈led)(hz:as.length+bs.length<=100000)(h1:as≠[])(h2:bs≠[])(h:∀ D,k (.ref D) ((D,.tup (as++bs))::led)):Op c (λ vs=>binaryOp .Add (vs.getD 0 .none) (vs.getD 1 .none)) [.ref a,.ref b] m led k:=
 WI.rr λ hh tk r=>C8 (r.isTup ha) λ us ht hu=>C8 (r.isTup hb) λ ws ht2 hw=>r.op λ R=>
  add_tuples R.F R.N ht ht2 (λ e=>absurd e (Ij hu h1)) (λ V e=>absurd e (Ij hw h2)) (λ V V h' F' N'=>R.new F' N' (λ p hp=>bM (R.N p hp).1) (ao:= .tup (as++bs)) ⟨us++ws,rfl,Rl.append hu hw⟩ (h _)) (U7 (by rw[G4 hu,G4 hw]) hz)
theorem KB{prog:bY}{w:bP}{A:bS}{E:aF->aH->Prop}{s:aH}{sl:aJ}{u:Tok}{Q:Int×Int×Nat->aH->Prop}(hs:s.heap.IsSliceOf sl .none (.int 1 u) .none)(h:Q (0,1,1) s):
  wpAny (model prog w) A (Builtin.Slice.sliceApplied (.ref sl) (pure (1:Int))) Q E s:=by
 refine M7 λ G92 hG92=>?_; obtain⟨os,hos,hcs,hds⟩:=id hs; refine hG92 ?_
 refine aD (aD (dA hos hds (x:= .none) rfl (aD (dA hos hds (x:= .int 1 u) rfl (aD (dA hos hds (x:= .none) rfl (aO ?_)))))))
 refine aD (slicePart_none ?_)
 show wpAny _ _ (if((1:Int) == 0)=true then _ else _) _ _ s
 rw[if_neg (by decide)]
 exact aD (slicePart_none (aD (slicePart_int (aD (aO (aO h))))))
theorem Kw{prog:bY}{w:bP}{A:bS}{E:aF->aH->Prop}{s:aH}{sl t:aJ}{u:Tok}{v:aF}{Q:aF->aH->Prop}(ht:IsTup s.heap t (eG [v]))(hs:s.heap.IsSliceOf sl .none (.int 1 u) .none)(q:Q (.ref t) s):
  wpAny (model prog w) A (getItem (.ref t) (.ref sl)) Q E s:=by
 obtain⟨os,hos,hcs,hds⟩:=id hs
 unfold getItem
 try with_reducible refine eP ?_
 first | refine aD (aO ?_) | skip
 refine aD (wpAny_sequenceKey ht.typeIs (by decide) ?_)
 refine aD (iE (name:=aA "__getitem__") ht.typeIs slot_tuple_getitem
  (gN slot_tuple_getitem ht.typeIs entry_tuple_getitem ?_ (args_tuple_getitem _ _)))
 show wpAny _ _ (Builtin.Tuple.tupleItemsOf (.ref t) >>=_) _ _ _
 refine aD (tupleItemsOf_ ht (aD (gM (⟨os,hos,hcs⟩:Shared.TypeIs s (.ref sl) "slice") ?_)))
 rw[if_pos (by decide)]
 refine aD (KB hs ?_)
 dsimp only
 rw[if_pos (by rfl)]
 refine aD (m:=Builtin.Tuple.tupleIsExact _) (aD (gM ht.typeIs (aO ?_)))
 rw[if_pos (by rfl)]
 exact aD (fL (aO ⟨_,rfl,aO q⟩))
theorem KY{t:aJ}{a:AV}{value:aE}{la ua:Option aE}{sp:Pos}(ha:(t,AO.tup [a])∈led)(h:k (.ref t) led):Fd c value (.Slice la ua none sp) (.ref t) .none (.int 1) m led k:=λ ov lv uv ho hl' hu' hh tk r=>A4<|by
 subst ho; subst hl'
 obtain⟨u,rfl⟩:=hu'
 have r':B6 c m led (hh.push {cls:= .type "slice",data:= .fields #[.none,.int 1 u,.none]}):=r.keep λ V V e=>aN _ e
 exact P6 λ value hv=>C8 (r'.isTup ha) λ us ht hu=>Cm (C:=λ us=>IsTup _ t (eG us)->_) hu (λ v V ht=>subscriptTail_ops (s:=c.at (hh.push {cls:= .type "slice",data:= .fields #[.none,.int 1 u,.none]}) tk) ht.typeIs slot_tuple_getitem.lookup (Kw ht (Heap.IsSliceOf.new ..) (r'.R h)) rfl hv) ht
theorem FI{a b:aJ}{ns ms:List Int}(hp:C1 (a,.ints ns) led rest)(hb:(b,AO.tup (ms.map .int))∈rest)(hz:ns.length+ms.length<=100000)(h:k .none ((a,.ints (ns++ms))::rest)):C9 c (.fn (.builtin "list.extend")) [.ref a,.ref b] m led k:=
 a4<|WI.rr λ hh tk r=>Q4 (r.isList hp.mem.1) λ vs n hg hi=>r.at (hp.mem.2.1 _ hb) λ ho hg2 V V=>C8 ho λ ws e hw=>
  have hj:=Y7 hw
  have h1:vs.toArray.size+ws.toArray.size=ns.length+ms.length:=by rw[aX,aX,hi.length,hj.length]
  call_meets jL ⟨_,hg,rfl⟩ PySem.F.entry_list_extend (PySem.F.args_list_extend_2 _ _) (PySem.AutoSeq1.list_extend_list_tuple_0 a _ n b _ 0 (by rw[PU h1 hz,hV]; exact eO) (aS (dC _ _) (U7 h1 hz)) (iB (U7 h1 hz)))
   ⟨hg,e▸hg2,(r.set (ao':= .ints _) hp (dJ ..) (PySem.IsL.update hg λ x=>x++ws.toArray) ⟨vs++ws,_,by rw[List.append_toArray],hi.append hj⟩).n h⟩
end
end
section
set_option backward.match.sparseCases false
section
variable{c:Cx}{m:Lm}{led rest:La}{k:AV->La->Prop}{d:Nat}
theorem Jp{vs:List aF}{ns:List Int}(h:cE vs ns):∀ {i:Nat} {x:Int} {t:Tok},cE (vs.set i (.int x t)) (ns.set i x):=by
 induction h with
 | nil=>intro i x t; exact .nil
 | cons n u h ih=>
  intro i x t
  induction i with
  | zero=>exact .cons x t h
  | succ i=>exact .cons n u ih
theorem AD{prog:bY}{w:bP}{A:bS}{E:aF->aH->Prop}{s:aH}{l:aJ}{its:Array aF}{n:Nat}{x:Int}{t:Tok}{v:aF}{j:Nat}{Q:Unit->aH->Prop}(hl:s.heap.get? l=some (listOf its n))(hx:x=j∨x=(j:Int) - its.size)(hj:j < its.size)(hz:its.size<=1000000)
  (hQ:∀ h',h'.get? l=some (listOf (its.setIfInBounds j v) n)->eF l s.heap h'->Q () {s with heap:=h'}):wpAny (model prog w) A (setItem (.ref l) (.int x t) v) Q E s:=by
 have hT:s.TypeIs (.ref l) "list":=⟨_,hl,rfl⟩
 unfold setItem
 try with_reducible refine eP ?_
 first | refine aD (aO ?_) | skip
 refine aD (wpAny_sequenceKey hT (by decide) ?_)
 refine aD (iE (name:=aA "__setitem__") hT slot_list_setitem
  (gN slot_list_setitem hT entry_list_setitem ?_ (args_list_setitem _ _ _)))
 show wpAny _ _ (Builtin.List.listSubscript? (.int x t) >>=_) _ _ s
 refine aD (wpAny_listSubscript_int (by unfold Builtin.List.listFitsIndex; simp only[fK,decide_eq_true_eq]; lia) ?_)
 have hit:its[j]? =some its[j]:=Array.getElem?_eq_getElem hj
 have fin:wpAny (model prog w) A.in1 (setSeqItemAt l j v >>=λ V=>ret .none) (λ fin s'=>∃ r,fin= .done (.ret r)/\wpAny (model prog w) A (pure ()) Q E s') E s:=by
  refine aD (wpAny_setSeqItemAt hl rfl (aO ⟨_,rfl,aO (hQ _ ?_ (dJ ..))⟩))
  have e:Obj.mapSeq (·.setIfInBounds j v) (listOf its n)=listOf (its.setIfInBounds j v) n:=by
   show(⟨_,_,.seq (its.setIfInBounds j v) (if(its.setIfInBounds j v).size== its.size then n else n+1),_⟩:Obj)=_
   have:((its.setIfInBounds j v).size== its.size)=true:=by simp
   rw[this]; rfl
  rw[←e]
  exact bU _ hl (by rw[e]; rfl)
 rcases hx with rfl | rfl
 ·show wpAny _ _ ((seqItemAt l j >>=λ r=>pure (r.map (j,·))) >>=_) _ _ s
  refine aD (aD (wpAny_seqItemAt hl rfl (aO ?_)))
  rw[hit]
  exact fin
 ·obtain⟨q,hq⟩:∃ q,(j:Int) - its.size=Int.negSucc q:=Int.eq_negSucc_of_lt_zero (Int.sub_neg_of_lt (Int.ofNat_lt.mpr hj))
  rw[hq]
  show wpAny _ _ ((jF (.ref l) >>=λ xs=>pure ((seqIndex? (Int.negSucc q) xs.size).bind λ j=>xs[j]?.map (j,·))) >>=_) _ _ s
  refine aD (aD (m:=jF (.ref l)) ?_)
  refine listItems_at hl rfl (aO ?_)
  have e:seqIndex? (Int.negSucc q) its.size=some j:=by
   unfold seqIndex?
   rw[←hq]
   simp only[Int.sub_neg_of_lt (Int.ofNat_lt.mpr hj),if_true,Int.sub_add_cancel]
   simp[hj]
  rw[e,Option.bind_some,hit]
  exact fin
theorem Fz{k:La->Prop}{a:aJ}{ns:List Int}{i x:Int}{j:Nat}(hp:C1 (a,.ints ns) led rest)(hi:i=j∨i=(j:Int) - ns.length)(h1:j < ns.length)(hz:ns.length<=100000)(h:k ((a,.ints (ns.set j x))::rest)):MJ c (λ vs=>setItem (vs.getD 0 .none) (vs.getD 1 .none) (vs.getD 2 .none)) [.ref a,.int i,.int x] m led k:=λ vs hv hh tk r=>A4<|
 z3 (C:=λ vs=>wpAny _ _ (setItem (vs.getD 0 .none) (vs.getD 1 .none) (vs.getD 2 .none)) _ _ _) hv λ v u w h1' h2 h3=>Rl.r (C:=λ v=>wpAny _ _ (setItem v u w) _ _ _) h1'<|Rl.i (C:=λ u=>wpAny _ _ (setItem _ u w) _ _ _) h2 λ t=>Rl.i (C:=λ w=>wpAny _ _ (setItem _ _ w) _ _ _) h3 λ u=>
  Q4 (r.isList hp.mem.1) λ us n hg hu=>
  have hl:us.toArray.size=ns.length:=hu.length
  AD hg (hl.symm▸hi) (hl.symm▸h1) (hl.symm▸aS hz (aB rfl)) λ h' hg' hs=>
   ⟨h',tk,_,rfl,r.set (ao':= .ints (ns.set j x)) hp hs hg' ⟨us.set j (.int x u),n,by rw[List.setIfInBounds_toArray],Jp hu⟩,h⟩
noncomputable def AV.val?:AV->Option aF
 | .fn v=>some v
 | .ref a=>some (.ref a)
 | _=>Option.none
theorem Az{a:AV}{u v:aF}(h:a.val? =some v)(e:Rl a u):u=v:=by
 induction a with
 | fn x=>obtain rfl:=aU h; exact e
 | ref x=>obtain rfl:=aU h; exact e
 | _=>contradiction
theorem Lo{cv:aF}{ca:AV}{b:Bool}(H:Ok c d)(hc:ca.val? =some cv)(e:kitOne (KF c.w.params) (.type "NoneType") cv=some b)(h:k (.bool b) led):C9 c (.fn (.builtin "isinstance")) [.none,ca] m led k:=
 a4<|WI.vv λ u v h1 h2 hh tk r=>by
  obtain rfl:u=_:=h1
  rw[Az hc h2]
  exact kia_one kitx_none (λ b o e=>r.base (H.X b o e)) trivial e (λ q=>nomatch q) λ tk=>r.bl h
theorem Z4{i:Int}{cv:aF}{ca:AV}{b:Bool}(H:Ok c d)(hc:ca.val? =some cv)(e:kitOne (KF c.w.params) (.type "int") cv=some b)(h:k (.bool b) led):C9 c (.fn (.builtin "isinstance")) [.int i,ca] m led k:=
 a4<|WI.iv λ t v h2 hh tk r=>by
  rw[Az hc h2]
  exact kia_one kitx_int (λ b o e=>r.base (H.X b o e)) trivial e (λ q=>nomatch q) λ tk=>r.bl h
theorem FD{a:aJ}{ao:AO}{cv:aF}{ca:AV}{b:Bool}(H:Ok c d)(hm:(a,ao)∈led)(hl:∀ o,L9 c.w ao o->o.cls= .type "list")(hc:ca.val? =some cv)(e:kitOne (KF c.w.params) (.type "list") cv=some b)(h:k (.bool b) led):C9 c (.fn (.builtin "isinstance")) [.ref a,ca] m led k:=
 a4<|WI.rv λ v h2 hh tk r=>by
  rw[Az hc h2]
  exact r.at hm λ ho hg V V=>kia_one kitx_list (λ b o e=>r.base (H.X b o e)) ⟨_,hg,hl _ ho⟩ e (λ q=>nomatch q) λ tk=>r.bl h
theorem ND{w:bP}{es:List (Str×AV)}{o:Obj}(h:L9 w (.sd es) o):o.cls= .type "dict":=by
 refine M7 λ G94 hG94=>?_; obtain⟨kvs,⟨_,_,h1,_⟩,_⟩:=h; refine hG94 ?_
 exact h1.1
theorem Al{a:aJ}{es:List (Str×AV)}{cv:aF}{ca:AV}{b:Bool}(H:Ok c d)(hm:(a,AO.sd es)∈led)(hc:ca.val? =some cv)(e:kitOne (KF c.w.params) (.type "dict") cv=some b)(h:k (.bool b) led):C9 c (.fn (.builtin "isinstance")) [.ref a,ca] m led k:=
 a4<|WI.rv λ v h2 hh tk r=>by
  rw[Az hc h2]
  exact r.at hm λ ho hg V V=>kia_one kitx_dict (λ b o e=>r.base (H.X b o e)) ⟨_,hg,ND ho⟩ e (λ q=>nomatch q) λ tk=>r.bl h
theorem Ak{x dx C:aJ}{es:List (Str×AV)}{cv:aF}{ca:AV}{b:Bool}(H:Ok c d)(hx:(x,AO.inst C dx)∈led)(hd:(dx,AO.dict es)∈led)(hc:ca.val? =some cv)(e:kitOne (KF c.w.params) (.ref C) cv=some b)(hg:plainGet (KF c.w.params) C "__class__"=true)(hdct:hasDictIn (KF c.w.params) C=true)(ha:findIn (KF c.w.params) (.ref C) "__class__"=some (some (.builtin "object.__class__")))
  (hn:specialIn (KF c.w.params) (.builtin "object.__class__") "__get__"=some (some (.builtin "getset_descriptor.__get__"))) (htk:takesIn (KF c.w.params) (.builtin "object.__class__")=some true) (hm:mroIn (KF c.w.params) C (.type "object")=some true) (h:k (.bool b) led):C9 c (.fn (.builtin "isinstance")) [.ref x,ca] m led k:=
 a4<|WI.rv λ v h2 hh tk r=>by
  rw[Az hc h2]
  exact r.op λ R=>R.I hx λ hm1=>R.D hd λ hm2 V=>kia_one (kitx_own hg hdct ha hn htk hm) (λ b o e=>r.base (H.X b o e)) (kO R.N hm1 hm2) e (λ q=>nomatch q) λ tk=>r.bl h
theorem LJ{x y v:Int}(e:eJ x y=v)(h:k (.int v) led):Op c (λ vs=>binaryOp .BitAnd (vs.getD 0 .none) (vs.getD 1 .none)) [.int x,.int y] m led k:=EC (e▸h)
theorem FC{x y v:Int}(hy:0 < y)(e:x % y=v)(h:k (.int v) led):Op c (λ vs=>binaryOp .Mod (vs.getD 0 .none) (vs.getD 1 .none)) [.int x,.int y] m led k:=G5 hy (e▸h)
theorem Lj{a b v:Int}(H:Ok c d)(e:(if b < a then b else a)=v)(h:k (.int v) led):C9 c (.fn (.builtin "min")) [.int a,.int b] m led k:=IK H (e▸h)
theorem Na{p:Prop} [Decidable p]{a b:aE}{n:Nat}{kk:AV->La->Prop}(v:AV)(h:kk v led)(h1:p->∀ kk:AV->La->Prop,kk v led->I0 c m n a led kk)(h2:¬ p->∀ kk:AV->La->Prop,kk v led->I0 c m n b led kk):Br (decide p) (I0 c m n a led kk) (I0 c m n b led kk):=
 ⟨λ e=>h1 (of_decide_eq_true e) kk h,λ e=>h2 (of_decide_eq_false e) kk h⟩
end
end
section
section
variable(c:Cx)(cs:List Str)(n:Nat)(rest:List dY)(m:Lm)(k:Fl->Lm->La->Prop)
noncomputable def V5:Fl->Lm->La->Prop:=Kl (λ m led=>O6 c cs n rest m led k) k
noncomputable def YI:La->Prop:=λ led=>O6 c cs n rest m led k
noncomputable def Zt:AV->La->Prop:=λ V led=>O6 c cs n rest m led k
noncomputable def VX(x:Str):AV->La->Prop:=λ v led=>I7 c x/\O6 c cs n rest (G3 x v m) led k
noncomputable def XM(x:Str):AV->La->Prop:=λ v led=>PC c x v m led (YI c cs n rest m k)
noncomputable def XI(nm:Str)(v:AV):AV->La->Prop:=λ ov led=>MJ c (λ vs=>setAttr (vs.getD 0 .none) nm (vs.getD 1 .none)) [ov,v] m led (YI c cs n rest m k)
noncomputable def XJ(o:aE)(nm:Str):AV->La->Prop:=λ v led=>I0 c m 30 o led (XI c cs n rest m k nm v)
noncomputable def Zq(a b:List dY):Bool->La->Prop:=λ x led=>Br x (O6 c cs n a m led (V5 c cs n rest k)) (O6 c cs n b m led (V5 c cs n rest k))
end
section
variable{c:Cx}{m:Lm}{led:La}{cs:List Str}{n:Nat}{rest:List dY}{k:Fl->Lm->La->Prop}{e t:aE}{p p1:Pos}{x:Str}
theorem D8(h:I0 c m 30 e led (Zt c cs n rest m k))(hn:true=O9 e:=by exact rfl):O6 c cs (n+1) (.Expr e p::rest) m led k:=by
 show(if O9 e=true then _ else _); rw[if_pos hn.symm]; exact h
theorem A6(h:I0 c m 30 e led (VX c cs n rest m k x))(hn:true=O9 e:=by exact rfl)(hc:false=cs.contains x:=by exact rfl):O6 c cs (n+1) (.Assign [.Name x p1] e p::rest) m led k:=by
 show(if O9 e=true then(I0 c m 30 e led λ v led=>(match cs.contains x with | false=>I7 c x/\O6 c cs n rest (G3 x v m) led k | true=>PC c x v m led λ led=>O6 c cs n rest m led k))else _)
 rw[if_pos hn.symm,←hc]; exact h
theorem M8(h:I0 c m 30 e led (XM c cs n rest m k x))(hn:true=O9 e:=by exact rfl)(hc:true=cs.contains x:=by exact rfl):O6 c cs (n+1) (.Assign [.Name x p1] e p::rest) m led k:=by
 show(if O9 e=true then(I0 c m 30 e led λ v led=>(match cs.contains x with | false=>I7 c x/\O6 c cs n rest (G3 x v m) led k | true=>PC c x v m led λ led=>O6 c cs n rest m led k))else _)
 rw[if_pos hn.symm,←hc]; exact h
theorem Kx(hn:false=O9 e)(h:Ac c (.Assign [.Name x p1] e p) m led (V5 c cs n rest k)):O6 c cs (n+1) (.Assign [.Name x p1] e p::rest) m led k:=by
 show(if O9 e=true then _ else _); rw[if_neg (by rw[←hn]; decide)]; exact h
theorem B9{o:aE}{nm:Str}(h:I0 c m 30 e led (XJ c cs n rest m k o nm))(hn:true=O9 e:=by exact rfl):O6 c cs (n+1) (.Assign [.Attribute o nm p1] e p::rest) m led k:=by
 show(if O9 e=true then _ else _); rw[if_pos hn.symm]; exact h
theorem B1{v:AV}{S:cB}(hs:c.env.scope=S)(h:O6 c cs n rest (G3 x v m) led k)(hx:some .local=S.names.lookup x:=by exact rfl)(hd:false=(x== ("__debug__":Str)):=by exact rfl):VX c cs n rest m k x v led:=⟨E6 hs hx hd,h⟩
theorem B7{a b:List dY}(h:Hs c m 30 t led (Zq c cs n rest m k a b)):O6 c cs (n+1) (.If t a b p::rest) m led k:=h
theorem W6{es:List aE}{y:Nat}(h:Ac c (.Assign [.Tuple es y p1] e p) m led (V5 c cs n rest k)):O6 c cs (n+1) (.Assign [.Tuple es y p1] e p::rest) m led k:=h
theorem O4{o i:aE}(h:Ac c (.Assign [.Subscript o i p1] e p) m led (V5 c cs n rest k)):O6 c cs (n+1) (.Assign [.Subscript o i p1] e p::rest) m led k:=h
theorem F5{a b:List dY}(h:Ac c (.For t e a b p) m led (V5 c cs n rest k)):O6 c cs (n+1) (.For t e a b p::rest) m led k:=h
theorem a8{a b:List dY}(h:Ac c (.While t a b p) m led (V5 c cs n rest k)):O6 c cs (n+1) (.While t a b p::rest) m led k:=h
theorem HU{op:kT}(h:Ac c (.AugAssign t op e p) m led (V5 c cs n rest k)):O6 c cs (n+1) (.AugAssign t op e p::rest) m led k:=h
end
end
section
section
variable{c:Cx}{m:Lm}{led rest:La}{k:AV->La->Prop}{d:Nat}
theorem B6.lo{h:bF}(H:Ok c d)(r:B6 c m led h){a:aJ}{ao:AO}(hm:(a,ao)∈led):(a== sysModules)=false:=
 beq_eq_false_iff_ne.mpr λ q=>H.sm.elim λ o e=>r.at hm λ V V V hz=>nn (hz.symm.trans ((congrArg c.g.get? q).trans e))
noncomputable def I9{κ:Type} [DecidableEq κ](x:κ):List (κ×AV)->Option AV
 | []=>none
 | p::r=>if x=p.1 then some p.2 else I9 x r
noncomputable def J3{κ:Type} [DecidableEq κ](x:κ)(v:AV):List (κ×AV)->List (κ×AV)
 | []=>[(x,v)]
 | p::r=>if x=p.1 then(x,v)::r else p::J3 x v r
section
variable{κ:Type} [DecidableEq κ]
theorem Oi{x:κ}{p:κ×AV}{r:List (κ×AV)}(h:x=p.1):I9 x (p::r)=some p.2:=if_pos h
theorem Oe{x:κ}{p:κ×AV}{r:List (κ×AV)}(h:¬ x=p.1):I9 x (p::r)=I9 x r:=if_neg h
theorem Af{x:κ}{es:List (κ×AV)}:∀ {kvs:List (κ×aF)},X4 es kvs->g9 (I9 x es) (lK kvs x):=by
 induction es with
 | nil=>exact λ h=>X4.n (C:=λ kvs=>g9 none (lK kvs x)) h trivial
 | cons p r ih=>
  exact λ h=>X4.c (C:=λ kvs=>g9 (I9 x (p::r)) (lK kvs x)) h λ v s h1 h2=>by
   unfold lK
   rw[List.find?_cons]
   by_cases e:x=p.1
   ·rw[Oi e,decide_eq_true e.symm]; exact h1
   ·rw[Oe e,decide_eq_false (kP e)]; exact ih h2
theorem S9{es:List (κ×AV)}:∀ {kvs:List (κ×aF)},X4 es kvs->kvs.length=es.length:=by
 induction es with
 | nil=>exact λ h=>X4.n (C:=λ kvs=>kvs.length=0) h rfl
 | cons p r ih=>exact λ h=>X4.c (C:=λ kvs=>kvs.length=r.length+1) h λ V V V h2=>congrArg Nat.succ (ih h2)
theorem KO{x:κ}{v:aF}{s:List (κ×aF)}(h:x∉s.map (·.1)):s.map (λ kv=>if kv.1=x then(kv.1,v)else kv)=s:=by
 induction s with
 | nil=>rfl
 | cons q s ih=>
  rw[cP,bE,not_or]at h
  rw[cP,if_neg (kP h.1),ih h.2]
theorem KN{x:κ}{a:AV}{v:aF}(ha:Rl a v){es:List (κ×AV)}:∀ {kvs:List (κ×aF)},X4 es kvs->(kvs.map (·.1)).Nodup->X4 (J3 x a es) (gY kvs x v):=by
 induction es with
 | nil=>exact λ h=>X4.n (C:=λ kvs=>(kvs.map (·.1)).Nodup->X4 (J3 x a []) (gY kvs x v)) h λ V=>⟨rfl,ha,trivial⟩
 | cons p r ih=>
  refine λ h=>X4.c (C:=λ kvs=>(kvs.map (·.1)).Nodup->X4 (J3 x a (p::r)) (gY kvs x v)) h λ u s h1 h2 nd=>?_
  have nd:=aZ.mp nd
  have ih:=ih h2 nd.2
  unfold gY at ih ⊢
  rw[List.any_cons]
  by_cases e:x=p.1
  ·rw[show J3 x a (p::r)=(x,a)::r from if_pos e,decide_eq_true e.symm,Bool.true_or,if_pos rfl,cP,if_pos e.symm,KO (e▸nd.1)]
   exact⟨e,ha,h2⟩
  ·rw[show J3 x a (p::r)=p::J3 x a r from if_neg e,decide_eq_false (kP e),Bool.false_or,cP,if_neg (kP e),List.cons_append]
   by_cases e3:(s.any λ kv=>decide (kv.1=x))=true
   ·rw[if_pos e3]at ih ⊢; exact⟨rfl,h1,ih⟩
   ·rw[if_neg e3]at ih ⊢; exact⟨rfl,h1,ih⟩
end
theorem g9.getD{a:Option AV}{b:Option aF}{df:AV}{w:aF}(h:g9 a b)(hw:Rl df w):Rl (a.getD df) (b.getD w):=by
 rcases a<;>rcases b<;>first | exact h | exact h.elim | exact hw
inductive K0(c:Cx):{κ:Type}->[DecidableEq κ]->KeyKind PG c.w κ->(List (κ×AV)->AO)->(κ->AV)->Prop
 | str:K0 c (lL PG c.w) AO.sd AV.str
 | int:K0 c (PySem.intKind PG c.w) AO.kd AV.int
theorem K0.obj{κ:Type} [DecidableEq κ]{knd:KeyKind PG c.w κ}{f:List (κ×AV)->AO}{g:κ->AV}(x:K0 c knd f g){es:List (κ×AV)}{o:Obj}:L9 c.w (f es) o↔∃ kvs,o.IsDictOf knd kvs/\X4 es kvs:=by
 induction x<;>exact Iff.rfl
theorem K0.key{κ:Type} [DecidableEq κ]{knd:KeyKind PG c.w κ}{f:List (κ×AV)->AO}{g:κ->AV}(x:K0 c knd f g){y:κ}{v:aF}(h:Rl (g y) v):knd.is y v=true:=by
 induction x with
 | str=>exact Rl.s (C:=λ v=>KeyKind.is _ y v=true) h λ V=>strKind_is _ _ _ _
 | int=>exact Rl.i (C:=λ v=>KeyKind.is _ y v=true) h λ V=>intKind_is _ _ _ _
section
variable{κ:Type} [DecidableEq κ]{knd:KeyKind PG c.w κ}{f:List (κ×AV)->AO}{g:κ->AV}{a:aJ}{es:List (κ×AV)}{x:κ}
theorem K0.E(D:K0 c knd f g){o:Obj}{G:Prop}(h:L9 c.w (f es) o)(q:∀ {kvs},o.IsDictOf knd kvs->X4 es kvs->G):G:=C8 (D.obj.mp h) λ V=>q
theorem Rd.K{h:bF}{mm:Ev}{ol:L5}{G:Prop}(R:Rd c m led h mm ol)(D:K0 c knd f g)(hm:(a,f es)∈led)(q:∀ {o kvs},(a,o)∈ol->o.IsDictOf knd kvs->X4 es kvs->G):G:=R.get hm λ ho hmo=>D.E ho (q hmo)
theorem WI.rk{fn:List aF->Sem aF}(D:K0 c knd f g)(H:∀ u,knd.is x u=true->WI c m led k (fn [.ref a,u])):Op c fn [.ref a,g x] m led k:=WI.rv λ u h=>H u (D.key h)
theorem Q9{k:AV->List AV->La->Prop}(D:K0 c knd f g)(hm:(a,f es)∈led)(h:k (.fn (.builtin "dict.get")) [.ref a] led):Hw c (aA "get") (.ref a) m led k:=λ u hu pl hh tk r=>A4<|
 Rl.r (C:=λ u=>wpAny _ _ (getMethod u _ pl) _ _ _) hu<|r.op λ R=>R.K D hm λ hmo hd V=>kdg_method R.N hmo hd ⟨_,_,led,rfl,r,.fn _,[.ref a],rfl,⟨rfl,trivial⟩,h⟩
theorem FG(H:Ok c d)(D:K0 c knd f g)(hm:(a,f es)∈led){b:AV}(e:(I9 x es).getD .none=b)(h:k b led):C9 c (.fn (.builtin "dict.get")) [.ref a,g x] m led k:=
 a4<|WI.rk D λ u hu hh tk r=>r.op λ R=>R.K D hm λ hmo hd hr=>kdg_get1 R.N hmo hd (r.lo H hm) hu _ rfl (E2.ofV (a:=b) r (e▸(Af hr).getD rfl) h)
theorem V1(H:Ok c d)(D:K0 c knd f g)(hm:(a,f es)∈led){b df:AV}(e:(I9 x es).getD df=b)(h:k b led):C9 c (.fn (.builtin "dict.get")) [.ref a,g x,df] m led k:=
 a4<|WI.op λ vs hv hh tk r=>z3 (C:=λ vs=>W c m k (call (.builtin "dict.get") vs) (c.at hh tk)) hv λ v u w h1 hu hw=>Rl.r (C:=λ v=>W c m k (call (.builtin "dict.get") [v,u,w]) (c.at hh tk)) h1<|r.op λ R=>R.K D hm λ hmo hd hr=>kdg_get2 R.N hmo hd (r.lo H hm) (D.key hu) _ rfl (E2.ofV (a:=b) r (e▸(Af hr).getD hw) h)
theorem g9.some{b:AV}{o:Option aF}{G:Prop}(h:g9 (some b) o)(q:∀ {v},o=some v->Rl b v->G):G:=by
 rcases o with _ | v
 ·exact h.elim
 ·exact q rfl h
theorem IT(D:K0 c knd f g)(hm:(a,f es)∈led){b:AV}{value slice:aE}(e:I9 x es=some b)(h:k b led)(hs:∀ o i,subscripted slice false o i=operate [o,i] (getItem o i):=by intro _ _; rfl):Op c (λ vs=>subscriptTail value slice (vs.getD 0 .none) (vs.getD 1 .none)) [.ref a,g x] m led k:=
 WI.rk D λ u hu hh tk r=>r.op λ R=>R.K D hm λ hmo hd hr=>g9.some (e▸Af hr) λ e2 hv=>P6 λ value hv'=>kda_item R.N hmo hd hu e2 (E2.ofV (a:=b) r hv h) (hs _ _) hv'
theorem H5{k:La->Prop}{v:AV}(D:K0 c knd f g)(hp:C1 (a,f es) led rest)(hz:es.length<=1000)(h:k ((a,f (J3 x v es))::rest)):MJ c (λ vs=>setItem (vs.getD 0 .none) (vs.getD 1 .none) (vs.getD 2 .none)) [.ref a,g x,v] m led k:=λ vs hv hh tk r=>A4<|
 z3 (C:=λ vs=>wpAny _ _ (setItem (vs.getD 0 .none) (vs.getD 1 .none) (vs.getD 2 .none)) _ _ _) hv λ V u w h1 hu hw=>Rl.r (C:=λ v=>wpAny _ _ (setItem v u w) _ _ _) h1<|r.at hp.mem.1 λ ho hg V V=>D.E ho λ hd hr=>
  wpAny_setItem_pairs (D.key hu) (cC.mpr ⟨_,hg,hd⟩) (λ h' hmm hs=>C8 (cC.mp hmm) λ o' ho' hd'=>⟨h',tk+1,_,rfl,r.set hp hs ho' (D.obj.mpr ⟨_,hd',KN hw hr (by obtain⟨_,_,_,_,_,_,n⟩:=hd; exact n)⟩),h⟩) (hsz:=U7 (S9 hr) (aS hz (aB rfl)))
theorem LH(H:Ok c d)(D:K0 c knd f g)(hm:(a,f es)∈led)(hz:es.length<=1000)(h:k (.int es.length) led):C9 c (.fn (.builtin "len")) [.ref a] m led k:=
 a4<|WI.r λ hh tk r=>r.op λ R=>R.K D hm λ hmo hd hr=>kda_len R.N hmo hd (r.lo H hm) (aS (dZ (S9 hr)) (aS hz (aB rfl))) ((S9 hr).symm▸r.i h)
theorem P5{pos:Pos}(D:K0 c knd f g)(h:∀ X,k (.ref X) ((X,f [])::led)):Y3 c (.Dict [] [] pos) m led k:=λ hh tk r=>A4<|wpAny_Dict_empty<|
 C8 (cC.mp (lN (knd:=knd) hh)) λ o ho hd=>(r.push ((D.obj (es:=[])).mpr ⟨[],aU (ho.symm.trans (bC _ rfl))▸hd,trivial⟩)).R (h _)
end
end
end
example:(bJ.row.prog=bJ.row.prog)/\(KF=KF):=by
 k_fill
 exact⟨rfl,rfl⟩
local macro_rules | `(tactic| tm_at "h")=>`(tactic| first | ((first | refine EY ?_ | refine OV ?_ | refine OU ?_ | refine OT ?_ | refine OS ?_ | refine OW ?_); intros; rfl) | ((first | refine' OZ rfl ?e1 ?e2 ?e3 | refine' Pa rfl ?e1 ?e2 ?e3 | refine' OY rfl ?e1 ?e2 ?e3); (case e1=>k_is); (case e2 | e3=>intros; rfl)))
local macro_rules | `(tactic| tm_at "b")=>`(tactic| first | exact List.Mem.head _ | assumption | exact aG _ (by assumption) | (refine' List.Mem.tail _ ?_; tm_at "b"))
local macro_rules | `(tactic| tm_at "e")=>`(tactic| first | exact C1.head _ | (apply C1.tail; tm_at "e"))
local macro_rules | `(tactic| tm_at "d")=>`(tactic| first | exact Sb.refl | exact Sb.left | exact Sb.nil | (apply Sb.cons; tm_at "e"; tm_at "d") | (apply Sb.drop; tm_at "d"))
local macro_rules | `(tactic| tm_at "j")=>`(tactic| first | exact IntsAre.nil | (refine' IntsAre.cons _ _ ?_; tm_at "j"))
local macro_rules | `(tactic| tm_at "a")=>`(tactic| first | decide | with_reducible assumption | (refine' aS ?_ ?_; with_reducible assumption; exact aB rfl) | with_reducible exact gV _ | lia | omega)
local macro_rules | `(tactic| tm_at "c")=>`(tactic| first | tm_at "a" | (simp only[aI,bW,eW,lM,List.map_replicate,List.sum_replicate_nat,List.length_reverse,bK,eN,aQ,cL]; omega))
local macro_rules | `(tactic| tm_at "i")=>`(tactic| (case n1 | n2 | n3 | n4=>k_is))
section
section
variable{c:Cx}{m:Lm}{led rest:La}{k:AV->La->Prop}
noncomputable def Bg(c:Int):Int:=if 48<=c/\c<=57 then c - 48 else if 65<=c/\c<=70 then c - 55 else if 97<=c/\c<=102 then c - 87 else -1
theorem Be{n:Int}(h1:48<=n)(h2:n<=57):n - 48=Bg n:=by unfold Bg; rw[if_pos ⟨h1,h2⟩]
theorem Bc{n:Int}(h1:65<=n)(h2:n<=70):n - 55=Bg n:=by unfold Bg; rw[if_neg (by tm_at "a"),if_pos ⟨h1,h2⟩]
theorem Bb{n:Int}(h1:97<=n)(h2:n<=102):n - 87=Bg n:=by unfold Bg; rw[if_neg (by tm_at "a"),if_neg (by tm_at "a"),if_pos ⟨h1,h2⟩]
theorem Ba{n:Int}(h1:¬ (48<=n/\n<=57))(h2:¬ (65<=n/\n<=70))(h3:¬ (97<=n/\n<=102)): -1=Bg n:=by unfold Bg; rw[if_neg h1,if_neg h2,if_neg h3]
theorem GN{n:Int}(H:Ok c 1)(h:∀ r,r=Bg n->k (.int r) led):C9 c (.ref 76) [.int n] m led k:=by
 refine' C4 [("code",.int n)] H ?_
 intro c' O hs hw hg
 refine' B7 ?_
 refine' s8 (λ V=>?_) (λ V=>?_)
 refine' s8 (λ V=>?_) (λ V=>?_)
 refine' A5 (by tm_at "d") ?_
 first | exact h _ (Be (by assumption) (by assumption)) | exact h _ (Bc (by assumption) (by assumption)) | exact h _ (Bb (by assumption) (by assumption)) | exact h _ (Ba (by tm_at "a") (by tm_at "a") (by tm_at "a"))
 refine' s8 (λ V=>?_) (λ V=>?_)
 refine' s8 (λ V=>?_) (λ V=>?_)
 refine' A5 (by tm_at "d") ?_
 first | exact h _ (Be (by assumption) (by assumption)) | exact h _ (Bc (by assumption) (by assumption)) | exact h _ (Bb (by assumption) (by assumption)) | exact h _ (Ba (by tm_at "a") (by tm_at "a") (by tm_at "a"))
 refine' s8 (λ V=>?_) (λ V=>?_)
 refine' s8 (λ V=>?_) (λ V=>?_)
 refine' A5 (by tm_at "d") ?_
 first | exact h _ (Be (by assumption) (by assumption)) | exact h _ (Bc (by assumption) (by assumption)) | exact h _ (Bb (by assumption) (by assumption)) | exact h _ (Ba (by tm_at "a") (by tm_at "a") (by tm_at "a"))
 refine' A5 (by tm_at "d") ?_
 first | exact h _ (Be (by assumption) (by assumption)) | exact h _ (Bc (by assumption) (by assumption)) | exact h _ (Bb (by assumption) (by assumption)) | exact h _ (Ba (by tm_at "a") (by tm_at "a") (by tm_at "a"))
 refine' G1 ?_
 refine' A5 (by tm_at "d") ?_
 first | exact h _ (Be (by assumption) (by assumption)) | exact h _ (Bc (by assumption) (by assumption)) | exact h _ (Bb (by assumption) (by assumption)) | exact h _ (Ba (by tm_at "a") (by tm_at "a") (by tm_at "a"))
 refine' G1 ?_
 refine' S7 (by tm_at "c") ?_
 refine' G1 ?_
 refine' A5 (by tm_at "d") ?_
 first | exact h _ (Be (by assumption) (by assumption)) | exact h _ (Bc (by assumption) (by assumption)) | exact h _ (Bb (by assumption) (by assumption)) | exact h _ (Ba (by tm_at "a") (by tm_at "a") (by tm_at "a"))
 refine' G1 ?_
 refine' S7 (by tm_at "c") ?_
 refine' G1 ?_
 refine' S7 (by tm_at "c") ?_
 refine' G1 ?_
 refine' A5 (by tm_at "d") ?_
 first | exact h _ (Be (by assumption) (by assumption)) | exact h _ (Bc (by assumption) (by assumption)) | exact h _ (Bb (by assumption) (by assumption)) | exact h _ (Ba (by tm_at "a") (by tm_at "a") (by tm_at "a"))
noncomputable def r7(n:Int):Bool:=[0,9,10,12,13,32].any (· == n)
theorem m7{n:Int}(H:Ok c 1)(h:k (.bool (r7 n)) led):C9 c (.ref 29) [.int n] m led k:=by
 refine' C4 [("code",.int n)] H ?_
 intro c' O hs hw hg
 refine' A1 O hs ?_
 (refine' NT (ns:=[0,9,10,12,13,32]) O ?e ?hi ?_; (case e=>k_dflt k_is); (case hi=>tm_at "j"))
 refine' A5 (by tm_at "d") ?_
 exact h
theorem IM{v n:Int}(H:Ok c 1)(hv:0<=v)(hn:0<=n)(hn2:n<=64)(h:k (.int (v % 2 ^ n.toNat)) led):C9 c (.ref 116) [.int v,.int n] m led k:=by
 refine' C4 [("count",.int n),("value",.int v)] H ?_
 intro c' O hs hw hg
 refine' a9 (by tm_at "a") (by tm_at "a") (by tm_at "a") ?_
 refine' EC ?_
 refine' A5 (by tm_at "d") ?_
 (rw[jX,Ci hv]; exact h)
end
section
variable{c:Cx}{m:Lm}{led rest:La}{k:AV->La->Prop}
noncomputable def Hn(c:Int×Int)(n:Int):Int×Int:=((c.1+n) % 65521,(c.2+(c.1+n) % 65521) % 65521)
noncomputable def At(l:List Int):Int×Int:=l.foldl Hn (1,0)
theorem Ec{l:List Int}{i:Nat}{n:Int}(h:l[i]? =some n):At (l.take (i+1))=Hn (At (l.take i)) n:=by
 unfold At; rw[aV,h]; simp
noncomputable def ME(l:List Int):Int:=(At l).2*65536+(At l).1
theorem Ja{ns:List Int}(H:Ok c 2)(h:k (.int (ME ns)) led):C9 c (.ref 389) [.bytes ns] m led k:=by
 refine' C4 [("octets",.bytes ns)] H ?_
 intro c' O hs hw hg
 refine' A6 ?_
 refine' B1 hs ?_
 refine' A6 ?_
 refine' B1 hs ?_
 refine' F5 ?_
 refine' G6 [] O ?_ (hs:=λ V=>rfl)
 refine' P3 [] (λ s:Int×Int=>[("octets",.bytes ns),("low",.int s.1),("high",.int s.2)]) (λ V=>led) (λ i s=>s=At (ns.take i)) (λ s=>s=At ns) (1,0) O (E6 hs rfl rfl) ⟨rfl,rfl,rfl,trivial⟩ .refl rfl ?_ (λ s hs=>by rw[hs,bD]) ?_
 ·(intro i n; refine Eh λ lo hi=>?_; intro rw K hK hn h0 h1 hP)
  refine' A6 ?_
  refine' C6 O hs ?_
  refine' G5 (by tm_at "a") ?_
  refine' B1 hs ?_
  refine' A6 ?_
  refine' C6 O hs ?_
  refine' G5 (by tm_at "a") ?_
  refine' B1 hs ?_
  (refine' hK _ _ _ ?_; exact go (_,_) (by rw[Ec hn,←hP]; rfl) ⟨rfl,rfl,rfl,trivial⟩ .refl)
 ·(refine Eh λ lo hi=>?_; intro hP)
  refine' Z0 (by tm_at "a") ?_
  refine' A5 (by tm_at "d") ?_
  (unfold ME at h; rw[←hP]at h; exact h)
end
end
section
section
variable{c:Cx}{m:Lm}{led rest:La}{k:AV->La->Prop}
noncomputable def I1(ds:List Int):Int:=ds.foldl (λ t d=>85*t+d) 0
theorem HN{l:List Int}{i:Nat}{n:Int}(h:l[i]? =some n):I1 (l.take (i+1))=85*I1 (l.take i)+n:=by
 unfold I1; rw[aV,h]; simp
noncomputable def GS(T:Int):List Int:=[T / 16777216 % 256,T / 65536 % 256,T / 256 % 256,T % 256]
noncomputable def J1(ds:List Int):List Int:=ds++(bO (5 - (ds.length:Int)).toNat [84]).flatten
noncomputable def R7(ds:List Int):List Int:=(GS (I1 (J1 ds))).take (ds.length - 1)
noncomputable def q6(T:Int)(i:Nat):List Int:=(cX i).map λ k=>T / 256 ^ k % 256
theorem EF(T:Int)(i:Nat):q6 T (i+1)=q6 T i++[T / 256 ^ i % 256]:=by
 unfold q6; rw[gQ,bB]; rfl
theorem q5(T:Int)(i:Nat):(q6 T i).length=i:=by unfold q6; simp
theorem GU(T:Int):(q6 T 4).reverse=GS T:=by
 unfold q6 GS
 simp[gQ]
theorem Hc{ds:List Int}(h2:2<=ds.length)(h5:ds.length<=5):T2 (GS (I1 (J1 ds))) none (some (4 - (5 - (ds.length:Int))))=R7 ds:=by
 rw[Ga (by tm_at "a"),show(4 - (5 - (ds.length:Int))).toNat=ds.length - 1 from(congrArg Int.toNat (show(4:Int) - (5 - ds.length)=ds.length - 1 by lia)).trans (fV ds.length 1)]; rfl
set_option tactic.hygienic true in
theorem Do{S:aJ}{ds:List Int}{a:AV}(H:Ok c 2)(hS:(S,AO.ints ds)∈led)(h2:2<=ds.length)(h5:ds.length<=5)(h0:0<=I1 (J1 ds))(hm:I1 (J1 ds)<=4294967295)(h:∀ D os,os=R7 ds->k (.ref D) ((D,.ints os)::led)):
  C9 c (.ref 88) [.ref S,a] m led k:=by
 refine' C4 [("at",a),("signs",.ref S)] H ?_
 intro c' O hs hw hg
 refine' A6 ?_
 refine' A0 O hs ?_
 refine' M2 (by tm_at "b") (by tm_at "c") ?_
 refine' B1 hs ?_
 refine' A6 ?_
 refine' B1 hs ?_
 refine' F5 ?_
 refine' G6 [] O ?_ (hs:=λ V=>rfl)
 refine' C3 (ns:=[_]) rfl (by simp) (λ D=>?_)
 refine' Ai (by tm_at "b") (by tm_at "a") (by tm_at "a") (by decide) (λ D=>?_)
 refine' I4 (by tm_at "b") (by tm_at "b") (by tm_at "c") (λ D=>?_)
 refine' V3 [] (λ s:Int=>[("total",.int s),("missing",.int (5 - (ds.length:Int))),("at",a)]) (λ V=>led) (λ i s=>s=I1 ((J1 ds).take i)) (λ s=>s=I1 (J1 ds)) 0 O (E6 hs rfl rfl) (.head _) ⟨rfl,rfl,rfl,trivial⟩ (by tm_at "d") rfl ?_ (λ s hs=>by rw[hs]; exact congrArg I1 (bD)) ?_
 ·rintro i n to rw K hK hn hP
  refine' A6 ?_
  refine' U9 (by tm_at "a") ?_
  refine' B1 hs ?_
  (refine' hK _ _ _ ?_; exact go (85*to+n) (show _=I1 ((J1 ds).take (i+1))by rw[HN (l:=J1 ds) hn,←hP]) ⟨rfl,rfl,rfl,trivial⟩ .refl)
 ·rintro to rfl
  refine' C6 O hs ?_
  refine' S7 (by tm_at "c") ?_
  refine' C3 (ns:=[]) rfl (by decide) (λ D=>?_)
  refine' B1 hs ?_
  refine' F5 ?_
  refine' G6 [] O ?_ (hs:=λ V=>rfl)
  refine' A0 O hs ?_
  refine' H9 (λ D=>?_)
  rename_i O2
  refine' E8 [] (λ s:Int×List Int=>[("total",.int s.1),("octets",.ref O2),("missing",.int (5 - (ds.length:Int))),("at",a)]) (λ s=>(O2,.ints s.2)::led) (λ i s=>s=(I1 (J1 ds) / 256 ^ i,q6 (I1 (J1 ds)) i)) (λ s=>s=(I1 (J1 ds) / 256 ^ 4,q6 (I1 (J1 ds)) 4)) (I1 (J1 ds),[]) 4 O (E6 hs rfl rfl) (.head _) rfl rfl ⟨rfl,rfl,rfl,rfl,trivial⟩ (by tm_at "d") (by rw[Int.pow_zero,iC]; rfl) ?_ (λ s hs=>hs) ?_
  ·(intro i; refine Eh λ to os=>?_; intro rw K hK hi hP)
   have hP2:=Prod.mk.inj hP
   have hl:os.length<=4:=by rw[hP2.2,q5]; lia
   refine' D8 ?_
   refine' K1 (by tm_at "b") ?_
   refine' G5 (by tm_at "a") ?_
   refine' L7 (by tm_at "e") (by tm_at "c") ?_
   refine' A6 ?_
   refine' M4 (by tm_at "a") ?_
   refine' B1 hs ?_
   (refine' hK _ _ _ ?_; exact go (to / 256,os++[to % 256]) (by rw[hP2.1,hP2.2,EF,Int.pow_succ,eE (Int.pow_nonneg (by decide))]) ⟨rfl,rfl,rfl,rfl,trivial⟩ .refl)
  ·(refine Eh λ to os=>?_; intro hP)
   obtain⟨_,rfl⟩:=Prod.mk.inj hP
   have hl:=q5 (I1 (J1 ds)) 4
   refine' Lb (by tm_at "b") (by tm_at "c") (λ D=>?_)
   refine' BO (by tm_at "b") .none (.int _) (by tm_at "c") rfl (λ D=>?_)
   exact A5 (by tm_at "d") (h _ _ (by rw[GU,Hc h2 h5]))
theorem NW{ns:List Int}{a:Int}(H:Ok c 2)(h0:0<=a)(h1:a+1 < (ns.length:Int))(hz:ns.length<=100000)(he:ns.getD (a+1).toNat 0=62)(h:k (.bool true) led):C9 c (.ref 95) [.bytes ns,.int a] m led k:=by
 obtain⟨j,rfl⟩:=cG h0
 obtain⟨d,hd⟩:=Nat.exists_eq_add_of_lt (show j+1 < ns.length from kM.mp h1)
 refine' C4 [("at",.int j),("data",.bytes ns)] H ?_
 intro c' O hs hw hg
 refine' G6 [] O ?_ (hs:=λ V=>rfl)
 refine' A0 O hs ?_
 refine' A0 O hs ?_
 refine' N7 (by tm_at "c") ?_
 refine' BQ (λ D=>?_)
 have hs4:=P2 (a:=(j:Int)+1) (b:=(ns.length:Int)) (c:=1) (by tm_at "a") (by tm_at "a") (by tm_at "a") (by tm_at "a")
 refine' E8 [] (λ s:Unit=>[("data",.bytes ns)]) (λ s=>led) (λ i s=>i=0) (λ s=>False) () (d+1) O (E6 hs rfl rfl) (.head _) hs4.1 (K9 (by tm_at "a") (by tm_at "a") (by tm_at "a") (by tm_at "a")) ⟨rfl,trivial⟩ (by tm_at "d") rfl ?_ (λ s hs=>by lia) (λ V h=>h.elim)
 (intro i; intro zz208 rw K hK hi zz209; obtain⟨⟩:=zz208; subst zz209)
 have e1:ns.getD ((j:Int)+1+((0:Nat):Int)*1).toNat 0=62:=he
 refine' B7 ?_
 refine' K8 (by tm_at "a") (by tm_at "a") (by tm_at "a") e1 (λ V V=>?_)
 refine' C6 O hs ?_
 refine' L8 (by tm_at "c") ?_
 exact hK _ _ _ (A5 (by tm_at "d") h)
end
end
section
section
variable{c:Cx}{m:Lm}{led rest:La}{k:AV->La->Prop}
noncomputable def X6(ns:List Int):List Int:=ns.flatMap (λ n=>[0,n])++[128]
theorem R3(ns:List Int):(X6 ns).length=2*ns.length+1:=by
 unfold X6
 rw[aI,fU]
 congr 1
 induction ns with
 | nil=>rfl
 | cons a r ih=>rw[fB,aI,ih]; simp only[bW,eW]; lia
theorem Gu(ns:List Int){j:Nat}(hj:j < ns.length):(X6 ns).getD (2*j) 0=0:=by
 induction ns generalizing j with
 | nil=>contradiction
 | cons a r ih=>
  induction j with
  | zero=>rfl
  | succ j=>exact ih (by simpa using hj)
theorem Ig(ns:List Int){j:Nat}(hj:j < ns.length):(X6 ns).getD (2*j+1) 0=ns[j]:=by
 induction ns generalizing j with
 | nil=>contradiction
 | cons a r ih=>
  induction j with
  | zero=>rfl
  | succ j=>exact ih (by simpa using hj)
theorem Gs(ns:List Int):(X6 ns).getD (2*ns.length) 0=128:=by
 induction ns with
 | nil=>rfl
 | cons a r ih=>exact ih
theorem Ih(ns:List Int){j:Nat}(hj:j < ns.length):((X6 ns).drop (2*j+1)).take (2*j+2 - (2*j+1))=[ns[j]]:=by
 have h1:=Ig ns hj
 have h2:=R3 ns
 have h3:2*j+1 < (X6 ns).length:=by lia
 rw[show 2*j+2 - (2*j+1)=1 by lia,dD h3]
 rw[aK,aM h3]at h1
 have h1:(X6 ns)[2*j+1]=ns[j]:=h1
 rw[h1]; rfl
set_option tactic.hygienic true in
theorem NN{ns:List Int}(H:Ok c 4)(hz:ns.length<=2000)(hn:∀ n∈ns,0<=n/\n < 256)(h:∀ r,r=ns->k (.bytes r) led):C9 c (.ref 109) [.bytes (X6 ns)] m led k:=by
 refine' C4 [("data",.bytes (X6 ns))] H ?_
 intro c' O hs hw hg
 have hl:=R3 ns
 refine' W6 ?_
 refine' m8 O hs ?_
 refine' C3 (ns:=[]) rfl (by decide) (λ D=>?_)
 refine' E4 (aB rfl) (λ D=>?_)
 refine' W4 (by tm_at "b") rfl (i5 hs (by kernel_rfl)) ?_
 refine' a8 ?_
 rename_i O1
 refine' X8 [] (λ s:Nat×Int×List Int=>[("data",.bytes (X6 ns)),("octets",.ref O1),("at",.int s.2.1)]) (λ s=>(O1,.ints s.2.2)::led) (λ s=>s.2.1=2*(s.1:Int)/\s.2.2=ns.take s.1/\s.1<=ns.length) (λ s=>ns.length - s.1) (λ s=>s.2.2=ns) (0,0,[]) O ⟨rfl,rfl,bG _⟩ ⟨rfl,rfl,rfl,trivial⟩ (by tm_at "d") ?_ ?_
 ·(refine Bw λ s a os=>?_; intro K K2 hK hK2; refine Mk λ hA hO hP=>?_)
  have hA:a=2*(s:Int):=hA
  have hO:os=ns.take s:=hO
  have hP:s<=ns.length:=hP
  have hol:os.length=s:=by rw[hO,bK]; exact dH (by tm_at "a")
  by_cases hlt:s < ns.length
  ·have e1:(X6 ns).getD a.toNat 0=0:=by rw[show a.toNat=2*s by lia]; exact Gu ns hlt
   have e2:T2 (X6 ns) (some (a+1)) (some (a+2+0))=[ns[s]]:=by
    rw[V7 (by tm_at "a") (by tm_at "a"),show(a+1).toNat=2*s+1 by lia,show(a+2+0).toNat=2*s+2 by lia]
    exact Ih ns hlt
   refine' A0 O hs ?_
   refine' N7 (by tm_at "c") ?_
   refine' P9 (by tm_at "c") ?_
   refine' K8 (by tm_at "a") (by tm_at "a") (by tm_at "a") e1 (λ V V=>?_)
   refine' C6 O hs ?_
   refine' JN (by tm_at "c") ?_
   refine' J5 ?_
   refine' A6 ?_
   refine' K8 (by tm_at "a") (by tm_at "a") (by tm_at "a") e1 (λ V V=>?_)
   refine' B1 hs ?_
   refine' B7 ?_
   refine' C6 O hs ?_
   refine' P9 (by tm_at "c") ?_
   refine' A6 ?_
   refine' A0 O hs ?_
   refine' M9 (.int _) (.int _) (by tm_at "a") e2 ?_
   refine' T8 O (by tm_at "c") (λ D=>?_)
   refine' B1 hs ?_
   refine' B7 ?_
   refine' A0 O hs ?_
   refine' M2 (by tm_at "b") (by tm_at "c") ?_
   refine' S7 (by tm_at "c") ?_
   refine' V0 (by tm_at "b") ?_
   refine' v8 (by tm_at "e") (by tm_at "b") (by tm_at "c") ?_
   refine' A6 ?_
   refine' B1 hs ?_
   refine' hK _ _ _ ?_; exact Ht (s+1,a+2+0,os++[ns[s]]) ⟨⟨by show a+2+0=2*((s+1:Nat):Int); lia,by rw[hO,aV,aM hlt]; rfl,hlt⟩,gJ hlt (cU s)⟩ ⟨rfl,rfl,rfl,trivial⟩ (by tm_at "d")
  ·obtain rfl:s=ns.length:=by lia
   have e1:(X6 ns).getD a.toNat 0=128:=by rw[show a.toNat=2*ns.length by lia]; exact Gs ns
   refine' A0 O hs ?_
   refine' N7 (by tm_at "c") ?_
   refine' P9 (by tm_at "c") ?_
   refine' K8 (by tm_at "a") (by tm_at "a") (by tm_at "a") e1 (λ V V=>?_)
   refine' C6 O hs ?_
   refine' W9 (by tm_at "c") ?_
   refine' G1 ?_
   refine' hK2 _ ?_; exact Ht (ns.length,a,os) (hO.trans bD) ⟨rfl,rfl,rfl,trivial⟩ (by tm_at "d")
 ·(refine Bw λ s a os=>?_; intro hO)
  have hO:os=ns:=hO
  subst hO
  refine' A0 O hs ?_
  refine' H6 O (by tm_at "b") hn (by tm_at "c") ?_
  exact A5 (by tm_at "d") (h _ rfl)
end
end
section
theorem JW:mroOf (.type "bytearray")=pure [.type "bytearray",.type "object"]:=by rw[mroOf_type]; kernel_rfl
theorem BE:typeLookup (.type "bytearray") "__new__"=pure (some (.builtin "bytearray.__new__")):=by rw[cQ,bV]; kernel_rfl
theorem MA:Bind.madeBy (.type "bytearray")=pure (some "bytearray.__new__"):=madeBy_type JW BE (by decide+kernel)
theorem DV:checkTypeCall "bytearray" ⟨[],[]⟩=pure ():=by kernel_rfl
theorem Fa:checkBuiltinCall "bytearray.__new__" ⟨[.type "bytearray"],[]⟩=pure ():=by kernel_rfl
theorem CP:entryFor table "bytearray.__new__"=some Builtin.«list.__new__»:=
 entryFor_alias (id':="list.__new__") (by kernel_rfl) (by first | rfl | decide+kernel) (by decide+kernel) (by kernel_rfl)
theorem t8:plainId "bytearray.__new__"=true:=by decide+kernel
theorem JT:isSubtype (.type "bytearray") (.type "bytearray")=pure true:=by rw[eU]; kernel_rfl
theorem Hk:((Manifest.find? "bytearray").bind (·.mro.findSome? λ t=>(Manifest.find? t).bind λ b=>if b.noNew then some true else if b.attrs.any (·.1 == "__new__")then some false else none)).getD false=false:=by decide+kernel
set_option linter.deprecated false
set_option maxRecDepth 1000000 in
set_option maxHeartbeats 4000000 in
theorem JV:("bytearray.__new__".splitOn ".__new__").headD ""="bytearray":=by simp+decide [String.splitOn,String.splitOnAux]
theorem T3:Slot "bytearray" "__init__" "bytearray.__init__":=by
 exact .of (owner:="bytearray") (n:="__init__") (by rw[cQ,bV]; kernel_rfl) (by decide+kernel) (by decide+kernel) (by decide+kernel)
  (by first | exact .inl (by decide+kernel) | exact .inr (by decide+kernel)) (by rw[eU]; kernel_rfl)
theorem BF:entryFor table "bytearray.__init__"=some Builtin.«bytearray.__init__»:=by first | exact entryFor_of_fast (by kernel_rfl) | exact entryFor_of_tree (by kernel_rfl)
theorem Cj:Manifest.owners.lookup (String.ofList ['y','a','r','r','a','e','t','y','b'].reverse)=some Manifest.sig_bytearray:=by kernel_rfl
theorem Bp:typeLookup (.type "bytearray") "__release_buffer__"=pure (some (.builtin "bytearray.__release_buffer__")):=by rw[cQ,bV]; kernel_rfl
theorem Gc:isSubtype (.type "bytearray") (.type ("bytearray.__release_buffer__".dropRight ("__release_buffer__".length+1)))=pure true:=by rw[eU]; kernel_rfl
theorem MC(a:aF):argsOk "bytearray.__init__" ⟨[a],[]⟩:=by
 unfold argsOk
 rw[signature?_of (id:="bytearray.__init__") (n:=['_','_','t','i','n','i','_','_']) (o:=['y','a','r','r','a','e','t','y','b']) (by kernel_rfl) Cj]; kernel_rfl
section
variable{prog:bY}{w:bP}{A:bS}{s:aH}
theorem DY{E:aF->aH->Prop}{Q₁:aF->aH->Prop}
  (h:Q₁ (.ref s.heap.objs.size) {s with heap:=s.heap.push {cls:= .type "bytearray",data:= .bytearray #[]}}):
  codeAny (model prog w) A (.call (.builtin "bytearray.__new__") ⟨[.type "bytearray"],[]⟩) (wants Q₁ E) s:=by
 refine jI ?_
 show wpAny _ A.in1 (do checkBuiltinCall "bytearray.__new__" ⟨[.type "bytearray"],[]⟩; again (.builtin "bytearray.__new__" ⟨[.type "bytearray"],[]⟩)) _ _ s
 refine aD (bH Fa (aO ⟨fX t8 _,codeAny_builtin_stack CP rfl λ p st=>?_⟩))
 rw[dW t8 _]
 have hsub:=JT
 have hown:=JV
 obtain⟨hp,g,d,tk,os⟩:=s
 simp only[hown]
 wp_walk
 exact h
theorem ET{id:String}{args:Args}(h:(["bytearray.__contains__","bytearray.__mod__","bytearray.__rmod__","_struct.pack_into.held","bytearray.find.held"]++eR).contains id=false):S4 (.builtin id args)=false:=h
theorem i8{R:eI->aH->Prop}{id:String}{args:Args}{b:Builtin}(hd:S4 (.builtin id args)=false)(hb:entryFor table id=some b)
  (h:z5 (model prog w) (A.under (.builtin id args)) (b args)
   (λ fin s'=>match fin with | .done f=>R (.ok f) s' | .again c'=>c'.quiet=true/\z0 (model prog w) A c' R s') s):
  z0 (model prog w) A (.builtin id args) R s:=by
 refine W8 hd ?_
 show z5 _ _ (match entryFor table id with | some b=>b args | none=>unsupported ((withoutEnding? id "#data").getD id)) _ s
 rw[hb]; exact h
theorem U1{R:eI->aH->Prop}{id:String}{args:Args}{b:Builtin}(hd:S4 (.builtin id args)=false)(hq:plainId id=true)(hb:entryFor table id=some b)
  (h:wpAny (model prog w) A.in1 (checkBuiltinCall id args) (λ V s₁=>z5 (model prog w) A.in1 (b args)
   (λ fin s'=>match fin with | .done f=>R (.ok f) s' | .again c'=>c'.quiet=true/\z0 (model prog w) A c' R s') s₁) (λ V V=>False) s):z0 (model prog w) A (.call (.builtin id) args) R s:=by
 refine W8 rfl ?_
 show z5 _ A.in1 (do checkBuiltinCall id args; again (.builtin id args)) _ s
 refine D5 (fM h (λ V s₁ h₁=>A7 (kG (fX hq args) (i8 hd hb ?_))) λ V V h'=>h')
 rw[dW hq args]
 exact h₁
theorem Pd{prog:bY}{w:bP}{A:bS}{s:aH}{a:aJ}{Q:Bool->aH->Prop}{E:aF->aH->Prop}(hT:Shared.TypeIs s (.ref a) "bytearray")(q:Q false s):wpAny (model prog w) A (fW (.ref a)) Q E s:=by
 refine aD (aD (bZ hT Bp ?_))
 dsimp only
 rw[if_neg (by decide+kernel)]
 refine eB (T:="bytearray") (b:=true) hT Gc ?_
 exact aO q
theorem MB{Q:aF->aH->Prop}
  (h:∀ D h',h'.get? D=some {cls:= .type "bytearray",data:= .bytearray #[]}->s.heap.objs.size<=D->(∀ b o,s.heap.get? b=some o->h'.get? b=some o)->Q (.ref D) {s with heap:=h'}):z5 (model prog w) A (call (.type "bytearray") []) Q s:=by
 refine Ay (W8 rfl ?_)
 show z5 _ _ (callAny (.type "bytearray") _) _ _
 refine A7 ⟨lQ _ (by decide+kernel),i8 (ET (by decide)) F.entry_type_call ?_⟩
 rw[Around.under_plain (weight_type_call_type "bytearray" [] []) rfl]
 have h1:(iX "bytearray" == iX "type")=false:=by decide
 have h2:=Hk
 unfold Builtin.«type.__call__»
 dsimp only
 simp only[h1,gT,if_false]
 rw[if_neg (Bool.eq_false_iff.mp h2)]
 refine D5 (bH DV ?_)
 refine D5 (bH JW ?_)
 rw[if_neg (by decide)]
 refine D5 (bH MA ?_)
 dsimp only
 refine B5 (A7 ?_)
 refine D5 (eP (wpAny_call (codeAny_mono (DY (E:=λ V V=>False) (Q₁:=λ v s'=>v= .ref s.heap.objs.size/\s'={s with heap:=s.heap.push {cls:= .type "bytearray",data:= .bytearray #[]}}) ⟨rfl,rfl⟩) λ r s' hr=>?_)))
 have hr':∃ v,r= .ok (.ret v)/\v= .ref s.heap.objs.size/\s'={s with heap:=s.heap.push {cls:= .type "bytearray",data:= .bytearray #[]}}:=by
  induction r with
  | error e=>exact hr.elim
  | ok f=>rcases f<;>first | exact⟨_,rfl,hr⟩ | exact hr.elim
 obtain⟨v,rfl,rfl,rfl⟩:=hr'
 dsimp only
 have hT:Shared.TypeIs {s with heap:=s.heap.push {cls:= .type "bytearray",data:= .bytearray #[]}} (.ref s.heap.objs.size) "bytearray":=⟨_,bC _ rfl,rfl⟩
 refine D5 (eB hT JT ?_)
 rw[if_neg (by decide)]
 refine B5 (B0 ?_)
 unfold callSpecial?
 refine D5 (bZ hT T3.lookup ?_)
 dsimp only
 refine B0 ?_
 refine D5 (bH (T3.bind _) ?_)
 dsimp only
 refine B5 ?_
 refine Ay (U1 (ET (by decide)) T3.plain BF (T3.check _ _ _ _ _ _ _ _ hT (MC _) ?_))
 refine D5 (m:=fW (.ref s.heap.objs.size)) (Pd hT ?_)
 refine D5 (m:=Builtin.Bytes.bindOptional _ _ _ _ _) (bH (a:=[none,none,none]) (by first | rfl | kernel_rfl) ?_)
 refine D5 (m:=Builtin.Bytes.checkCodecArg _ _ _ _) (bH (a:=()) rfl ?_)
 refine D5 (m:=Builtin.Bytes.checkCodecArg _ _ _ _) (bH (a:=()) rfl ?_)
 refine B5 ?_
 show z5 _ _ (gE _ >>=λ b=>match b with | true=>pure b | false=>_) _ _
 refine B5 (l8 ?_)
 dsimp only
 unfold Builtin.Bytes.exportsOf
 refine D5 (aD (gH (bC _ rfl) (aO ?_)))
 refine A7 ?_
 rw[if_neg (by decide)]
 refine D5 (m:=hM _ _) ?_
 show wpAny _ _ (updateBytearray _ _) _ _ _
 unfold updateBytearray
 refine aD (gH (bC _ rfl) ?_)
 dsimp only
 refine aD (wpAny_update (bC _ rfl) ?_)
 have hg:=bU (Obj.mapBytearray λ V=>(#[]:Array UInt8)) (bC s.heap (o:={cls:= .type "bytearray",data:= .bytearray #[]}) rfl) rfl
 refine wpAny_lookBehind hg rfl ?_
 refine D5 (bH (a:=()) rfl ?_)
 refine A7 ?_
 dsimp only
 refine A7 ?_
 dsimp only
 rw[if_neg (by decide)]
 refine A7 ?_
 refine h _ _ hg (aR _) λ b o e=>?_
 have hne:s.heap.objs.size≠b:=gF (bM e)
 rw[kH _ _ hne]
 exact aN _ e
end
end
section
theorem DU(D:aJ)(b:Array UInt8)(t:Tok):argsOk "bytearray.extend" ⟨[.ref D,.bytes b t],[]⟩:=by
 unfold argsOk
 rw[signature?_of (id:="bytearray.extend") (n:=['d','n','e','t','x','e']) (o:=['y','a','r','r','a','e','t','y','b']) (by kernel_rfl) Cj]; kernel_rfl
theorem CN:Slot "bytearray" "extend" "bytearray.extend":=by
 exact .of (owner:="bytearray") (n:="extend") (by rw[cQ,bV]; kernel_rfl) (by decide+kernel) (by decide+kernel) (by decide+kernel)
  (by first | exact .inl (by decide+kernel) | exact .inr (by decide+kernel)) (by rw[eU]; kernel_rfl)
theorem JR:entryFor table "bytearray.extend"=some Builtin.«bytearray.extend»:=by first | exact entryFor_of_fast (by kernel_rfl) | exact entryFor_of_tree (by kernel_rfl)
theorem T6:typeLookup (.type "bytes") "__buffer__"=pure (some (.builtin "bytes.__buffer__")):=by rw[cQ,bV]; kernel_rfl
theorem EX:typeLookup (.type "bytes") "__release_buffer__"=pure none:=by rw[cQ,bV]; kernel_rfl
theorem Mv:isSubtype (.type "bytes") (.type ("bytes.__buffer__".dropRight ("__buffer__".length+1)))=pure true:=by rw[eU]; kernel_rfl
section
variable{prog:bY}{w:bP}{A:bS}{E:aF->aH->Prop}{s:aH}
theorem JK{b:Array UInt8}{t:Tok}{Q:Bool->aH->Prop}(h:Q true s):wpAny (model prog w) A (Builtin.Bytes.slotIsOwn (.bytes b t) "__buffer__") Q E s:=by
 refine aD (bZ (cO _ _ _) T6 ?_)
 dsimp only
 rw[if_neg (by decide+kernel)]
 exact eB (T:="bytes") (b:=true) (cO _ _ _) Mv h
theorem ON{b:Array UInt8}{t:Tok}{Q:Bool->aH->Prop}(h:Q false s):wpAny (model prog w) A (fW (.bytes b t)) Q E s:=by
 refine aD (aD (bZ (cO _ _ _) EX ?_))
 exact aO (aO h)
theorem Mu{b:Array UInt8}{t:Tok}{id:String}{fl:Int}{Q:Option (Array UInt8×Option aF)->aH->Prop}(h:Q (some (b,none)) s):wpAny (model prog w) A (Builtin.Bytes.takeBufferQuiet? id (.bytes b t) fl) Q E s:=by
 refine aD (wpAny_attempt ?_)
 refine aD (bZ (cO _ _ _) T6 ?_)
 refine aD (JK ?_)
 rw[if_neg (by decide)]
 refine aD (bZ (cO _ _ _) T6 ?_)
 refine aD ?_
 refine aD (bZ (cO _ _ _) T6 ?_)
 refine aD (JK ?_)
 rw[if_neg (by decide)]
 refine aD (bZ (cO _ _ _) T6 ?_)
 refine aD (ON ?_)
 rw[if_neg (by decide)]
 refine aD (m:=gL _) (bH (a:=b) rfl ?_)
 refine aO ?_
 refine aO ?_
 exact aO h
theorem Hj{D:aJ}{c b:Array UInt8}{t:Tok}{Q:aF->aH->Prop}(hD:s.heap.get? D=some {cls:= .type "bytearray",data:= .bytearray c})(hz:c.size+b.size<=1000000)
  (h:∀ h',h'.get? D=some {cls:= .type "bytearray",data:= .bytearray (c++b)}->eF D s.heap h'->Q .none {s with heap:=h'}):z5 (model prog w) A (call (.builtin "bytearray.extend") [.ref D,.bytes b t]) Q s:=by
 have hT:s.TypeIs (.ref D) "bytearray":=⟨_,hD,rfl⟩
 refine Ay (U1 (ET (by decide)) CN.plain JR (CN.check _ _ _ _ _ _ _ _ hT (DU _ _ _) ?_))
 refine D5 (bH (a:=(.ref D,.bytes b t)) (by first | rfl | kernel_rfl) ?_)
 refine D5 (bZ (cO _ _ _) T6 ?_)
 rw[if_pos (by decide)]
 refine D5 (fL ?_)
 have hpay:∀ {Q':Array UInt8->aH->Prop},Q' c s->wpAny (model prog w) A.in1 (gL (.ref D)) Q' (λ V V=>False) s:=λ hq=>by
  refine aD (aD (gH hD ?_))
  exact aO (aO hq)
 refine D5 (m:=gL _) (hpay ?_)
 refine D5 (Mu ?_)
 dsimp only
 rw[if_pos (by decide)]
 show z5 _ _ (if(!b.isEmpty)=true then(Builtin.Bytes.checkResize (.ref D) >>=λ V=>hM (.ref D) (· ++b) >>=λ V=>ret .none)else(hM (.ref D) (· ++b) >>=λ V=>ret .none)) _ _
 have hw:z5 (model prog w) A.in1 (hM (.ref D) (· ++b) >>=λ V=>ret .none) (λ fin s'=>
   match fin with
   | .done f=>(match (Except.ok f:eI)with | .ok (.ret v)=>Q v s' | _=>False)
   | .again c'=>c'.quiet=true/\z0 (model prog w) A c' (λ r s'=>match r with | .ok (.ret v)=>Q v s' | _=>False) s') s:=by
  refine D5 ?_
  show wpAny _ _ (updateBytearray _ _) _ _ _
  refine aD (gH hD ?_)
  refine aD (wpAny_update hD ?_)
  have hg:=bU (Obj.mapBytearray (· ++b)) hD rfl
  refine wpAny_lookBehind hg ?_ ?_
  ·show(Data.bytearray (c++b) 0).pastItsLine=none
   unfold Data.pastItsLine
   simp only[Array.size_append]
   rw[if_neg (by rw[PySem.sizeLine_eq]; lia)]
  refine A7 ?_
  exact h _ hg (dJ ..)
 split
 ·refine B5 ?_
  refine B5 ?_
  show z5 _ _ (gE _ >>=λ b=>match b with | true=>pure b | false=>_) _ _
  refine B5 (l8 ?_)
  refine D5 (aD (gH hD (aO ?_)))
  refine A7 ?_
  rw[if_neg (by decide)]
  refine A7 ?_
  exact hw
 ·exact hw
end
end
section
theorem DX:typeLookup (.type "bytearray") "__bytes__"=pure none:=by rw[cQ,bV]; kernel_rfl
theorem DW:typeLookup (.type "bytearray") "__index__"=pure none:=by rw[cQ,bV]; kernel_rfl
theorem y3:typeLookup (.type "bytearray") "__buffer__"=pure (some (.builtin "bytearray.__buffer__")):=by rw[cQ,bV]; kernel_rfl
theorem Mz:isSubtype (.type "bytearray") (.type ("bytearray.__buffer__".dropRight ("__buffer__".length+1)))=pure true:=by rw[eU]; kernel_rfl
section
variable{prog:bY}{w:bP}{A:bS}{E:aF->aH->Prop}{s:aH}{D:aJ}{c:Array UInt8}
theorem Pc{Q:aF->aH->Prop}(hD:s.heap.get? D=some {cls:= .type "bytearray",data:= .bytearray c})(hQ:∀ t,Q (.bytes c t) {s with toks:=s.toks+1})(hz:c.size<=1000000):
  codeAny (model prog w) A (.call (.builtin "bytes.__new__") ⟨[.type "bytes",.ref D],[]⟩) (wants Q E) s:=by
 have hT:s.TypeIs (.ref D) "bytearray":=⟨_,hD,rfl⟩
 refine jI ?_
 show wpAny _ A.in1 (do checkBuiltinCall "bytes.__new__" ⟨[.type "bytes",.ref D],[]⟩; again (.builtin "bytes.__new__" ⟨[.type "bytes",.ref D],[]⟩)) _ _ s
 refine aD (bH (F.bm_newCall _) (aO ⟨fX F.bm_plain _,jJ F.bm_entry ?_⟩))
 rw[dW F.bm_plain _]
 refine aD (bH (a:=true) rfl ?_)
 refine gI rfl ?_
 refine aD (bH F.bm_sub ?_)
 refine gI rfl ?_
 refine aD (bH (F.bm_bind _) ?_)
 refine aD (bH (a:=()) rfl ?_)
 refine aD (bH (a:=()) rfl ?_)
 refine gI rfl ?_
 refine aD (bZ hT DX ?_)
 have hstr:∀ {Q':Option Str->aH->Prop},Q' none s->wpAny (model prog w) A.in1 (asStr? (.ref D)) Q' (λ e s'=>wants Q E (.error e) s') s:=λ hq=>by
  refine aD (gH hD ?_)
  exact aO hq
 show wpAny _ _ ((do return (←asStr? (.ref D)).isSome) >>=_) _ _ _
 refine aD (aD (hstr ?_))
 refine aO ?_
 refine gI rfl ?_
 refine aD (bZ hT DW ?_)
 refine bm_if_true rfl ?_
 refine aD ?_
 have hown:∀ {Q':Bool->aH->Prop} {E':aF->aH->Prop},Q' true s->wpAny (model prog w) A.in1 (Builtin.Bytes.slotIsOwn (.ref D) "__buffer__") Q' E' s:=λ hq=>by
  refine aD (bZ hT y3 ?_)
  dsimp only
  rw[if_neg (by decide+kernel)]
  exact eB (T:="bytearray") (b:=true) hT Mz hq
 have hrel:∀ {Q':Bool->aH->Prop} {E':aF->aH->Prop},Q' false s->wpAny (model prog w) A.in1 (fW (.ref D)) Q' E' s:=λ hq=>by
  refine aD (aD (bZ hT Bp ?_))
  dsimp only
  rw[if_neg (by decide+kernel)]
  refine eB (T:="bytearray") (b:=true) hT Gc ?_
  exact aO hq
 refine aD (bZ hT y3 ?_)
 refine aD (hown ?_)
 refine gI rfl ?_
 refine aD (bZ hT y3 ?_)
 refine aD (hrel ?_)
 refine gI rfl ?_
 refine aD (m:=gL _) ?_
 refine aD (aD (gH hD ?_))
 refine aO (aO ?_)
 refine aO ?_
 refine aD (fL ?_)
 refine aD (m:=mkBytes c) (wpAny_mkBytes ?_ (by rw[PySem.sizeLine_eq]; omega))
 show wpAny _ _ (ret (.bytes c s.toks)) _ _ _
 exact aO (hQ _)
theorem d3{Q:aF->aH->Prop}(hD:s.heap.get? D=some {cls:= .type "bytearray",data:= .bytearray c})(hz:c.size<=1000000)(hQ:∀ t,Q (.bytes c t) {s with toks:=s.toks+1}):
  wpAny (model prog w) A (call (.type "bytes") [.ref D]) Q E s:=by
 refine lV (Q₁:=λ obj s₁=>s₁.TypeIs obj "bytes"/\Q obj s₁) F.bm_called (F.bm_typeCall _) F.entry_object_init
  (Pc hD (λ t=>⟨cO _ _ _,hQ t⟩) hz) λ obj s₁ h₁=>?_
 exact⟨h₁.1,lO obj _,object_init_meets F.bm_called.init.lookup F.bm_called.made (by decide) prog w A.in1 _ s₁ ⟨h₁.1,rfl,h₁.2⟩⟩
end
end
section
section
variable{c:Cx}{m:Lm}{led rest:La}{k:AV->La->Prop}{d:Nat}
theorem P4{x y:Str}(h:k (.bool (x== y)) led):Op c (λ vs=>compareOp .Eq (vs.getD 0 .none) (vs.getD 1 .none)) [.str x,.str y] m led k:=λ vs hv hh tk r=>A4<|by
 obtain⟨_,_,rfl,⟨t,rfl⟩,⟨t',rfl⟩⟩:=U3 hv
 exact PyProof.Rows.eq_str (E2.ofV (a:= .bool _) r rfl h)
end
end
section
section
variable{c:Cx}{m:Lm}{led rest:La}{k:AV->La->Prop}{d:Nat}{κ:Type} [DecidableEq κ]{knd:KeyKind PG c.w κ}{f:List (κ×AV)->AO}{g:κ->AV}
noncomputable abbrev noG(c:Cx):Cx:=⟨c.w,c.A,c.g,c.env,c.s,c.E,False⟩
theorem B6.noG{m:Lm}{led:La}{h:bF}(r:B6 c m led h):B6 (Internal.noG c) m led h:=⟨r.fr,r.nw,r.nd,r.fk,r.lc⟩
theorem B6.yesG{m:Lm}{led:La}{h:bF}(r:B6 (Internal.noG c) m led h):B6 c m led h:=⟨r.fr,r.nw,r.nd,r.fk,r.lc⟩
noncomputable def WE{κ:Type}(c:Cx)(m:Lm)(g:κ->AV):List (Option aE)->List aE->La->(List (κ×AV)->La->Prop)->Prop
 | some e::ks,v::vs,led,k=>I0 c m 30 e led λ a led=>∃ x,a=g x/\I0 c m 30 v led λ b led=>WE c m g ks vs led λ l led=>k ((x,b)::l) led
 | _,_,led,k=>k [] led
theorem WM(D:K0 c knd f g){pos:Pos}:∀ {ks:List (Option aE)} {vs:List aE} {led:La} {k:List (κ×AV)->La->Prop},WE (Internal.noG c) m g ks vs led k->
  Pr (Internal.noG c) (evalPairs (pairTrees ks vs c.env pos)) m led λ us led'=>∃ es kvs,Carries knd us kvs/\X4 es kvs/\k es led':=by
 intro ks
 induction ks with
 | nil=>exact λ q h tk r=>A4<|evalPairs_nil ⟨h,tk,_,rfl,r,[],[],trivial,trivial,q⟩
 | cons o ks ih=>
  intro vs led k q h tk r
  induction o with
  | none=>exact A4<|evalPairs_nil ⟨h,tk,_,rfl,r,[],[],trivial,trivial,q⟩
  | some e=>
   induction vs with
   | nil=>exact A4<|evalPairs_nil ⟨h,tk,_,rfl,r,[],[],trivial,trivial,q⟩
   | cons v vs _=>
    exact A4<|pairTrees_cons_walk<|
     Y4<|K5.seq (c:=Internal.noG c) (sE q) (λ u a led ha ⟨x,e,q⟩ h tk r=>Y4<|K5.seq (c:=Internal.noG c) (sE q) (λ w b led hb q h tk r=>by
      subst e
      refine Y4<|D6 (ih q h tk r) (λ us s ⟨h',tk',led',e,r,es,kvs,hc,hr,q⟩=>?_) (λ V V x=>x)
      exact⟨h',tk',led',e,r,(x,b)::es,(x,w)::kvs,⟨D.key ha,rfl,hc⟩,⟨rfl,hb,hr⟩,q⟩) r) r
noncomputable def ZE(κ:Type)(f:List (κ×AV)->AO)(X:aJ)(k:AV->La->Prop)(es:List (κ×AV))(led:La):Prop:=∃ rest,C1 (X,f []) led rest/\(es.map (·.1)).Nodup/\k (.ref X) ((X,f es)::rest)
theorem o8{keys:List (Option aE)}{values:List aE}{pos:Pos}(D:K0 c knd f g)(h:∀ X,WE (Internal.noG c) m g keys values ((X,f [])::led) (ZE κ f X k))
  (hall:keys.all (·.isSome)=true:=by rfl) (hl:keys.length=values.length:=by rfl) (h0:keys≠[]:=by exact gD _ _) (hlen:keys.length<=15:=by decide):Y3 c (.Dict keys values pos) m led k:=λ hh tk r=>A4<|
 C8 (cC.mp (lN (knd:=knd) hh)) λ o ho hd=>wpAny_Dict_walk (knd:=knd) hall hl h0 hlen (Y4<|D6 (WM D (h _) _ _ (r.push ((D.obj (es:=[])).mpr ⟨[],aU (ho.symm.trans (bC _ rfl))▸hd,trivial⟩)).noG) (λ us s x=>k3 x λ h' tk' led' e r0 y=>w9 y λ es kvs hc hr q=>R9 q λ rest hp nd q=>by
  subst e
  exact r0.yesG.at hp.mem.1 λ ho hg V V=>D.E ho λ hd0 hr0=>X4.n (C:=λ kvs0=>Obj.IsDictOf knd _ kvs0->_) hr0 (λ hd0=>⟨kvs,hc,cC.mpr ⟨_,hg,hd0⟩,λ h2 hm hs=>by
   rw[merged_nil_of_nodup _ (by rw[X4.keys hr]; exact nd)]at hm
   exact C8 (cC.mp hm) λ o' ho' hd'=>(r0.yesG.set hp hs ho' (D.obj.mpr ⟨_,hd',hr⟩)).R q⟩) hd0) (λ V V x=>x))
theorem HH{n:Nat}{ks:List (Option aE)}{vs:List aE}{p:Pos}(h:Y3 c (.Dict ks vs p) m led k):I0 c m (n+1) (.Dict ks vs p) led k:=h
end
end
section
section
variable{p:aJ×AO}{led rest:La}
theorem C1.end{l:La}:C1 p (l++[p]) l:=by
 induction l with
 | nil=>exact .head _
 | cons q l ih=>exact .tail ih
theorem C1.back(h:C1 p led rest):Sb (rest++[p]) led:=by
 induction h with
 | head r=>exact .cons .end .refl
 | tail _ ih=>exact .cons (.head _) ih
theorem C1.other(h:C1 p led rest){q:aJ×AO}(hq:q∈led)(hn:q.2≠p.2):q∈rest:=by
 induction h with
 | head r=>
  rcases bE.mp hq with e | e
  ·rw[e]at hn; exact absurd rfl hn
  ·exact e
 | tail _ ih=>
  rcases bE.mp hq with e | e
  ·rw[e]; exact .head _
  ·exact .tail _ (ih e)
theorem C1.app'{X:La}(h:C1 p led rest):C1 p (X++led) (X++rest):=by
 induction X with
 | nil=>exact h
 | cons q l ih=>exact .tail ih
theorem C1.ex{l:La}(h:p∈l):∃ r,C1 p l r:=by
 induction l with
 | nil=>cases h
 | cons q l ih=>
  rcases bE.mp h with e | h
  ·exact⟨l,e▸ .head _⟩
  ·obtain⟨r,hr⟩:=ih h; exact⟨q::r,.tail hr⟩
variable{c:Cx}{m:Lm}
theorem OP{b:Bool}{a e:aE}{n:Nat}{kk:AV->La->Prop}(Q:AV->La->Prop)(hk:∀ v led',Q v led'->kk v led')(h1:∀ kk:AV->La->Prop,(∀ v led',Q v led'->kk v led')->b=true->I0 c m n a led kk)(h2:∀ kk:AV->La->Prop,(∀ v led',Q v led'->kk v led')->b=false->I0 c m n e led kk):Br b (I0 c m n a led kk) (I0 c m n e led kk):=
 ⟨λ x=>h1 kk hk x,λ x=>h2 kk hk x⟩
end
theorem Bz{n:Nat}(h:n<=100000):eQ 0 (n:Int) 1=true/\aW 0 (n:Int) 1=(n:Int):=by
 refine⟨(P2 (by lia) (by lia) (by lia) (by lia)).1,?_⟩
 cases n with
 | zero=>rfl
 | succ n=>exact K9 (by lia) (by lia) (by lia) (by lia)
end
section
theorem CE:typeLookup (.type "list") (aA "keys")=pure none:=by rw[cQ,bV]; kernel_rfl
theorem z9:typeLookup (.type "list") "__getattr__"=pure none:=by rw[cQ,bV]; kernel_rfl
section
variable{prog:bY}{w:bP}{A:bS}{E:aF->aH->Prop}{h:bF}{g:Array GenState}{d:Drawn}{t:Nat}{os:OsState}{a:aJ}{its:Array aF}{n:Nat}
theorem HP:isSubtype (.type "AttributeError") (.type "AttributeError")=pure true:=by rw[eU]; kernel_rfl
noncomputable def ZG(T:aJ):Obj:={cls:= .type "AttributeError",data:= .fields #[.ref T,.none,.none,.none,.bool false,.none,rawInt 0,rawInt 0]}
noncomputable def Ww(h:bF)(g:Array GenState)(d:Drawn)(os:OsState)(E:aF->aH->Prop):Prop:=∀ h' t' e oe,(∀ b o,h.get? b=some o->h'.get? b=some o)->h'.get? e=some oe->oe.cls= .type "AttributeError"->E (.ref e) ⟨h',g,d,t',os⟩
theorem Hl{α:Type}{ov name:aF}{Q:α->aH->Prop}{H:bF}{e T:aJ}(hh:A.handled=none)(hX:H.get? e=some (ZG T))(hk:∀ b o,h.get? b=some o->H.get? b=some o)(hne:h.get? e=none)(hq:Ww h g d os E):
  wpAny (model prog w) A (do noteAttr (.ref e) ov name; raiseNew (.ref e):Sem α) Q E ⟨H,g,d,t,os⟩:=by
 have f1:=HP
 have hTe:(⟨H,g,d,t,os⟩:aH).TypeIs (.ref e) "AttributeError":=⟨_,hX,rfl⟩
 refine aD ?_
 refine aD ?_
 refine aD (eB hTe f1 ?_)
 refine aD (gH hX ?_)
 refine aO ?_
 rw[if_pos rfl]
 refine aD (fL (aD (gM hTe ?_)))
 refine aD (gH hX ?_)
 refine wpAny_update hX ?_
 exact wpAny_raiseNew_none hh (hq _ _ e _ (λ b o hb=>(dJ ..).extBut b o (λ q=>nn (hne.symm.trans (q▸hb))) (hk b o hb)) (bU _ hX rfl) rfl)
theorem JY{α:Type}{ov:aF}{name msg:Str}{Q:α->aH->Prop}(hh:A.handled=none)(hm:msg.length<=sizeLine)(hq:Ww h g d os E):
  wpAny (model prog w) A (raiseAttrError ov name msg:Sem α) Q E ⟨h,g,d,t,os⟩:=by
 refine aD (wpAny_mkStr (aD ?_) hm)
 refine aD (cS ?_ (by size_fits))
 refine aD (m:=firstArgMember _ _) (bH (a:=dN) (by kernel_rfl) ?_)
 refine cS ?_ (by size_fits)
 refine aD (wpAny_mkText ?_)
 refine Hl (T:=h.objs.size) hh (bC _ rfl) (λ b o e=>aN _ (aN _ e)) ?_ hq
 cases e:h.get? _ with
 | none=>rfl
 | some o=>exact absurd (jA (bM e) (by rw[gZ]; exact cU _)) (gO _)
theorem EI{tk:Tok}{Q:Fin->aH->Prop}(hh:A.handled=none)(hx:h.get? a=some (listOf its n))(hq:Ww h g d os E):
  wpAny (model prog w) A (Builtin.«object.__getattribute__» ⟨[.ref a,.str (aA "keys") tk],[]⟩) Q E ⟨h,g,d,t,os⟩:=by
 have hT:(⟨h,g,d,t,os⟩:aH).TypeIs (.ref a) "list":=⟨_,hx,rfl⟩
 have f4:=CE
 repeat (any_goals (first | assumption | wp_step))
 exact JY hh (by decide+kernel) hq
theorem GW{tk:Tok}{R:eI->aH->Prop}(hh:A.handled=none)(hx:h.get? a=some (listOf its n))(hq:Ww h g d os λ e=>R (.error e)):
  codeAny (model prog w) A (.call (.builtin "list.__getattribute__") ⟨[.ref a,.str (aA "keys") tk],[]⟩) R ⟨h,g,d,t,os⟩:=
 iV F.slot_list_getattribute.plain F.entry_list_ga (F.slot_list_getattribute.check _ _ _ _ _ _ _ _ (show(⟨h,g,d,t,os⟩:aH).TypeIs (.ref a) "list" from⟨_,hx,rfl⟩) (F.args_list_getattribute_2 _ _) (EI (A:=A.in1) hh hx hq))
theorem GV{Q:Option aF->aH->Prop}(hh:A.handled=none)(hx:h.get? a=some (listOf its n))(hq:∀ h' t',(∀ b o,h.get? b=some o->h'.get? b=some o)->Q none ⟨h',g,d,t',os⟩):wpAny (model prog w) A (getAttr? (.ref a) (aA "keys")) Q E ⟨h,g,d,t,os⟩:=by
 have hT:(⟨h,g,d,t,os⟩:aH).TypeIs (.ref a) "list":=⟨_,hx,rfl⟩
 have f2:=F.slot_list_getattribute.lookup
 have f3:=F.slot_list_getattribute.bind (.ref a)
 have f5:=z9
 repeat (any_goals (first | assumption | wp_step))
 refine GW hh hx λ h' t' e oe hk he hc=>?_
 have hTe:(⟨h',g,d,t',os⟩:aH).TypeIs (.ref e) "AttributeError":=⟨_,he,hc⟩
 have f1:=HP
 have hQ:=hq h' t' hk
 refine aD (eB hTe f1 ?_)
 rw[if_pos rfl]
 repeat (any_goals (first | assumption | wp_step))
end
theorem DJ:entryFor table "dict.update.loop"=some Builtin.«dict.update.loop»:=entryFor_of_tree (by kernel_rfl)
theorem s5:plainId "dict.update.loop"=true:=by decide+kernel
section
variable{prog:bY}{w:bP}{K:Type} [DecidableEq K]{knd:KeyKind prog w K}{R:eI->aH->Prop}
inductive YO(h:bF)(knd:KeyKind prog w K)(items:Array aF)(I d:aJ)(j:Nat)(e:K×aF):Prop
 | mk {T:aJ} {key:aF} {n:Nat}:items[j]? =some (.ref T)->T≠I->T≠d->h.get? T=some {cls:= .type "tuple",data:= .seq #[key,e.2] n}->knd.is e.1 key=true->YO h knd items I d j e
inductive We(h:bF)(knd:KeyKind prog w K)(us:List aF)(i:Nat)(e:K×aF):Prop
 | mk {T:aJ} {key:aF} {n:Nat}:us[i]? =some (.ref T)->h.get? T=some {cls:= .type "tuple",data:= .seq #[key,e.2] n}->knd.is e.1 key=true->We h knd us i e
theorem Bj{h h':bF}{d:aJ}{kvs:List (K×aF)}(hd:h.DictOf knd d kvs)(hk:∀ o,h.get? d=some o->h'.get? d=some o):h'.DictOf knd d kvs:=C8 (cC.mp hd) λ o ho x=>cC.mpr ⟨o,hk o ho,x⟩
theorem Em{kvs:List (K×aF)}{k:K}{v:aF}:(gY kvs k v).length<=kvs.length+1:=by
 unfold gY
 split
 ·rw[aQ]; exact fE _
 ·rw[aI]; exact aR _
theorem Ml{A:bS}(hh:A.handled=none)(I l d:aJ)(hlI:l≠I)(hdI:d≠I)(hld:l≠d)(items:Array aF)(es:List (K×aF)):∀ (j:Nat) (kvs:List (K×aF)) (s:aH),j+es.length=items.size->
  (∀ i e,es[i]? =some e->YO s.heap knd items I d (j+i) e)->
  s.heap.IsListIter I l j->s.heap.IsList l items->s.heap.DictOf knd d kvs->kvs.length+es.length<=1000->
  (∀ h' tk,h'.DictOf knd d (merged kvs es)->(∀ b o,b≠I->b≠d->s.heap.get? b=some o->h'.get? b=some o)->R (.ok (.ret .none)) {s with heap:=h',toks:=tk})->
  codeAny (model prog w) A (.builtin "dict.update.loop" ⟨[.ref d,.ref I,rawInt j,.none],[]⟩) R s:=by
 induction es with
 | nil=>
  intro j kvs s hj _ hit hl hd _ q
  refine jJ DJ (dW s5 _▸?_)
  exact aD (wpAny_pyNext_list_end (A:=A.in1) hh hit hl (Array.getElem?_eq_none (dZ hj.symm)) λ h' hx=>
   aD (aO (aO (q h' _ (Bj hd λ o e=>hx d o hdI e) λ b o hb V e=>hx b o hb e))))
 | cons p es ih=>
  intro j kvs s hj ht hit hl hd hz q
  obtain⟨hT,hTI,hTd,hTo,hkey⟩:=ht 0 p rfl
  refine jJ DJ (dW s5 _▸?_)
  refine aD (wpAny_pyNext_list_item hit hl hT λ h1 hit1 hs1=>?_)
  have hTo1:=hs1.extBut _ _ hTI hTo
  dsimp only
  refine aD (eP ?_)
  refine aD (wpAny_tryCatch ?_)
  unfold Builtin.Dict.pairItems
  refine aD (gM ⟨_,hTo1,rfl⟩ ?_)
  rw[if_pos (by decide)]
  refine aD (wpAny_seqItems hTo1 rfl (aO ?_))
  refine eP (wpAny_dictSet_pairs hkey (Bj hd λ o e=>hs1.extBut d o hdI e) (λ h2 hd2 hs2=>?_) (U7 rfl (aS (aS (dC _ _) hz) (aB rfl))))
  exact aO ⟨fX s5 _,ih (j+1) (gY kvs p.1 p.2) {s with heap:=h2,toks:=s.toks+1} ((kC _ _).trans hj)
   (λ i e he=>by obtain⟨a,b,c,e2,f⟩:=ht (i+1) e he; exact⟨(kC j i).symm▸a,b,c,hs2.extBut _ _ c (hs1.extBut _ _ b e2),f⟩) (hit1.extBut hs2.extBut hdI.symm) ((hl.extBut hs1.extBut hlI).extBut hs2.extBut hld) hd2
   (aS (dM Em _) ((kC _ _).symm▸hz)) λ h' tk hd' hk=>q h' tk hd' λ b o hb1 hb2 e=>hk b o hb1 hb2 (hs2.extBut b o hb2 (hs1.extBut b o hb1 e))⟩
theorem Ab{A:bS}{E:aF->aH->Prop}{s:aH}{l:aJ}{items:List aF}{n:Nat}{es:List (K×aF)}{Q:aF->aH->Prop}(hh:A.handled=none)(hl:s.heap.get? l=some (listOf items.toArray n))(hes:es.length=items.length)(hz:es.length<=1000)
  (ht:∀ (i:Nat) (e:K×aF),es[i]? =some e->We s.heap knd items i e)
  (q:∀ D h' tk,s.heap.objs.size<=D->h'.DictOf knd D (merged [] es)->(∀ b o,s.heap.get? b=some o->h'.get? b=some o)->Q (.ref D) {s with heap:=h',toks:=tk}):
  wpAny (model prog w) A (call (.type "dict") [.ref l]) Q E s:=by
 refine lV (Q₁:=λ obj s₁=>obj= .ref s.heap.objs.size/\s₁={s with heap:=s.heap.push {cls:= .type "dict",data:= .dict #[]}}) F.kt_called_dict (F.kt_typeCall_dict_1 _) F.entry_dict_init (kt_code_dict_new _ ⟨rfl,rfl⟩) ?_
 rintro obj s₁ ⟨rfl,rfl⟩
 have hnew:(s.heap.push {cls:= .type "dict",data:= .dict #[]}).DictOf knd s.heap.objs.size []:=lN s.heap
 have hl1:(s.heap.push {cls:= .type "dict",data:= .dict #[]}).get? l=some (listOf items.toArray n):=aN _ hl
 have hkp:∀ b o,s.heap.get? b=some o->(s.heap.push {cls:= .type "dict",data:= .dict #[]}).get? b=some o:=λ b o e=>aN _ e
 refine⟨hnew.typeIs,F.args_dict_init_2 _ _,?_⟩
 generalize s.heap.push {cls:= .type "dict",data:= .dict #[]}=H at*
 unfold Builtin.«dict.__init__»
 refine aD ?_
 unfold Builtin.Dict.selfAndRest
 refine aD (wpAny_notOrdered_dict hnew.typeIs (aO ?_))
 show wpAny _ _ (Builtin.Dict.updateFrom "dict.__init__" s.heap.objs.size (.ref l) [] .none) _ _ _
 unfold Builtin.Dict.updateFrom
 refine aD (gM ⟨_,hl1,rfl⟩ ?_)
 rw[if_pos (by decide)]
 refine aD (GV (A:=A.in1.in1) hh hl1 λ h2 t2 hk2=>?_)
 rw[if_pos (by rfl)]
 refine aD (fL (aD (wpAny_pyIter_list ⟨_,hk2 _ _ hl1,rfl,n,rfl⟩ (aO ?_))))
 have hDI:@LT.lt Nat _ s.heap.objs.size h2.objs.size:=C8 (cC.mp hnew) λ o ho V=>bM (hk2 _ _ ho)
 refine⟨fX s5 _,Ml (A:=A.in1) (knd:=knd) hh h2.objs.size l s.heap.objs.size (bQ (bM (hk2 _ _ hl1))) (bQ hDI) (bQ (bM hl)) items.toArray es 0 [] _ (by rw[aX,hes,hZ]) (λ i e he=>?_) ⟨_,bC _ rfl,rfl,rfl⟩ ⟨_,aN _ (hk2 _ _ hl1),rfl,n,rfl⟩ (Bj hnew λ V e=>aN _ (hk2 _ _ e)) ((hZ _).symm▸hz) λ h' tk hd' hk'=>⟨rfl,q _ h' tk (aR _) hd' λ b o e=>?_⟩⟩
 ·obtain⟨a,b,c⟩:=ht i e he
  exact⟨by rw[hZ]; simpa using a,bQ (jA (bM b) hDI),bQ (bM b),aN _ (hk2 _ _ (hkp _ _ b)),c⟩
 ·have hb:@LT.lt Nat _ b s.heap.objs.size:=bM e
  exact hk' b o (bQ (jA hb hDI)) (bQ hb) (aN _ (hk2 _ _ (hkp _ _ e)))
end
section
variable{c:Cx}{m:Lm}{led rest:La}{k:AV->La->Prop}{d:Nat}{κ:Type} [DecidableEq κ]{knd:KeyKind PG c.w κ}{f:List (κ×AV)->AO}{g:κ->AV}
inductive K6(led:La)(g:κ->AV):List AV->List (κ×AV)->Prop
 | nil:K6 led g [] []
 | cons {T:aJ} {x:κ} {v:AV} {as:List AV} {es:List (κ×AV)}:(T,AO.tup [g x,v])∈led->K6 led g as es->K6 led g (.ref T::as) ((x,v)::es)
theorem K6.real{h:bF}(r:B6 c m led h)(D:K0 c knd f g){as:List AV}{es:List (κ×AV)}(x:K6 led g as es):∀ {us:List aF},Q1 as us->∃ kvs:List (κ×aF),X4 es kvs/\kvs.length=us.length/\
  ∀ (i:Nat) (e:κ×aF),kvs[i]? =some e->We h knd us i e:=by
 induction x with
 | nil=>exact λ hu=>a0 (C:=λ us=>∃ kvs:List (κ×aF),X4 [] kvs/\kvs.length=us.length/\∀ (i:Nat) (e:κ×aF),kvs[i]? =some e->We h knd us i e) hu ⟨[],trivial,rfl,λ i e he=>nn he⟩
 | @cons T x v as es hT _ ih=>
  refine λ hu=>S8 (C:=λ us=>∃ kvs:List (κ×aF),X4 ((x,v)::es) kvs/\kvs.length=us.length/\∀ (i:Nat) (e:κ×aF),kvs[i]? =some e->We h knd us i e) hu λ u us hu0 hu=>R9 (ih hu) λ kvs h1 h2 h3=>r.at hT λ ho hg V V=>C8 ho λ vs e hv=>?_
  subst e
  refine z4 (C:=λ vs=>h.get? T=some {cls:= .type "tuple",data:= .seq vs.toArray}->_) hv (λ key w hk hw hg=>?_) hg
  refine⟨(x,w)::kvs,⟨rfl,hw,h1⟩,congrArg Nat.succ h2,λ i e he=>?_⟩
  rcases i with _ | i
  ·obtain rfl:=aU he; exact⟨congrArg some hu0,hg,D.key hk⟩
  ·obtain⟨a,b,c⟩:=h3 i e he; exact⟨a,b,c⟩
theorem AN{l:aJ}{as:List AV}{es:List (κ×AV)}(H:Ok c d)(D:K0 c knd f g)(hl:(l,AO.list as)∈led)(ht:K6 led g as es)(nd:(es.map (·.1)).Nodup)(hz:es.length<=1000)(h:∀ X,k (.ref X) ((X,f es)::led)):C9 c (.fn (.type "dict")) [.ref l] m led k:=
 z8<|WI.r λ hh tk r=>r.at hl λ ho hg V V=>Q4 ho λ us n e hu=>R9 (ht.real r D hu) λ kvs h1 h2 h3=>
  Ab (knd:=knd) H.R.hh (e▸hg) h2 (S9 h1▸hz) h3 λ X h' tk' hX hd hk=>by
   rw[merged_nil_of_nodup _ (by rw[X4.keys h1]; exact nd)]at hd
   exact C8 (cC.mp hd) λ o' ho' hd'=>(r.new hk hX ho' (D.obj.mpr ⟨kvs,hd',h1⟩)).R (h X)
theorem IU{a:aJ}{es:List (κ×AV)}(H:Ok c d)(D:K0 c knd f g)(ha:(a,f es)∈led)(hz:es.length<=1000)(h:∀ X,k (.ref X) ((X,f es)::led)):C9 c (.fn (.type "dict")) [.ref a] m led k:=
 z8<|WI.r λ hh tk r=>r.at ha λ ho hg V V=>D.E ho λ hd h1=>kt_call_dict (knd:=knd) (r.lo H ha) (cC.mpr ⟨_,hg,hd⟩) (U7 (S9 h1) (aS hz (aB rfl))) λ h' hd hs=>
  C8 (cC.mp hd) λ o' ho' hd'=>(r.new (λ b o e=>hs.extBut b o (bQ (bM e)) (aN _ e)) (aR _) ho' (D.obj.mpr ⟨_,hd',h1⟩)).R (h _)
theorem BU{a:aJ}{o:Obj}{es:List (κ×AV)}{x:κ}(D:K0 c knd f g)(ho:L9 c.w (f es) o)(hm:(a,AO.raw o)∈led){b:AV}{value slice:aE}(e:I9 x es=some b)(h:k b led)(hs:∀ o i,subscripted slice false o i=operate [o,i] (getItem o i):=by intro _ _; rfl):Op c (λ vs=>subscriptTail value slice (vs.getD 0 .none) (vs.getD 1 .none)) [.ref a,g x] m led k:=
 WI.rk D λ u hu hh tk r=>r.op λ R=>R.X hm λ hmo=>D.E ho λ hd hr=>g9.some (e▸Af hr) λ e2 hv=>P6 λ value hv'=>kda_item R.N hmo hd hu e2 (E2.ofV (a:=b) r hv h) (hs _ _) hv'
noncomputable def Wk(a:aJ)(n ep:Nat):Obj:={cls:= .type "dict_keyiterator",data:= .fields #[.ref a,.int 0 0,.int n 0,.int ep 0]}
theorem FO{a:aJ}{es:List (κ×AV)}{x:Str}{px:Pos}(H:Ok c d)(D:K0 c knd f g)(hg:∀ {x v},knd.is x v=true->Rl (g x) v)(hp:C1 (a,f es) led rest):
  By c (.Name x px) (.ref a) led es.length (λ i as=>∃ e,es[i]? =some e/\as=[g e.1]) rest [(a,f es)] (λ kp=>∃ o,L9 c.w (f es) o/\(a,o)∈kp):=by
 refine λ v hv m h tk r K E q=>Rl.r (C:=λ v=>wpAny _ _ (pyIter v) K E (c.at h tk)) hv<|r.at hp.mem.1 λ{o} ho hg0 _ _=>D.E ho λ{kvs} hd h1=>(cC.mpr ⟨o,hg0,hd⟩:h.DictOf knd a kvs).dictAt.elim λ ep hd2=>wpAny_pyIter_dict (r.lo H hp.mem.1) hd2 ?_
 have W:=Walks.dictKeys (prog:=PG) (w:=c.w) (knd:=knd) H.R.hh h.objs.size a (bQ (bM hg0)) kvs ep
 rw[S9 h1]at W
 have r1:B6 c m ([(h.objs.size,AO.raw (Wk a kvs.length ep))]++(a,f es)::rest) (h.push (Wk a kvs.length ep)):=(r.push (o:=Wk a kvs.length ep) (ao:= .raw _) rfl).perm (hp.perm.cons _)
 have r3:=(r1.rawAt (aN _ hg0)).perm (cV (l₁:=[(h.objs.size,AO.raw (Wk a kvs.length ep)),(a,AO.raw o)]))
 refine q h.objs.size _ [h.objs.size] (λ V=>Wk a kvs.length ep) [(a,o)] (λ i v V=>∃ k x,kvs[i]? =some (k,x)/\knd.is k v=true) _ (λ i v h x=>Q4 x λ kk x hk hv=>?_) ⟨⟨_,_,_,KTurns.ofWalks W (λ i v s Q E V q=>bH (a:=()) rfl q),λ b hb=>hb,λ b hb=>BW hb (λ e=> .inl (e▸ .head _)) λ hb=> .inr (.inl hb)⟩,λ i h st b hb=>S3 (C:=λ b=>∃ o,h.get? b=some o) hb (st.1.elim λ o ho=>⟨o,ho.1⟩) nm,λ s Q E st q=>W.self 0 s Q E st q⟩ ⟨⟨_,bC _ rfl,rfl,by rw[S9 h1]; rfl⟩,hd2.push _⟩ r3 (λ hw r=>X7 (hw▸ho) rfl r) ⟨o,ho,.head _⟩
 have e1:(es.map (·.1))[i]? =some kk:=by rw[←X4.keys h1,cJ,hk]; rfl
 rw[cJ]at e1
 exact C8 (cR.mp e1) λ p e2 e3=>⟨[g p.1],⟨p,e2,rfl⟩,by rw[e3]; exact⟨_,rfl,hg hv⟩⟩
end
end
section
theorem MM{α:Type}{b:Prop}{M:jP}{A:bS}{E:aF->aH->Prop}{s:aH}{t:Sem α}{Q:α->aH->Prop}(hb:b)(h:z5 M A t Q s):C5 b M A t Q E s:=λ Γ p h1 h2=>
 fC M Γ t (λ V V V x=>x) (λ V V V x=>x.elim) p s (h Γ p h1 λ V=>h2 hb)
theorem JU:PlainAttrs "bytearray":=
 ⟨⟨"bytearray.__getattribute__",by rw[cQ,bV]; kernel_rfl,by decide+kernel⟩,by rw[cQ,bV]; kernel_rfl⟩
theorem CO:typeOf (.builtin "bytearray.extend")=pure (.type "method_descriptor"):=by show builtinType _=_; rw[builtinType_eq_fast]; kernel_rfl
section
variable{c:Cx}{m:Lm}{led rest:La}{k:AV->La->Prop}{d:Nat}
theorem Qq(hb:c.b)(h:∀ D,k (.ref D) ((D,.barr [])::led)):C9 c (.fn (.type "bytearray")) [] m led k:=
 N9 q9 λ vs hv hh tk r=>MM hb<|by
  rw[XS hv]
  refine MB λ D h' hD hn hk=>?_
  exact E2.ofV (a:= .ref D) (r.new (ao:= .barr []) hk hn hD ⟨_,rfl,rfl⟩) rfl (h D)
theorem GR{a:aJ}{ns:List Int}{k:AV->List AV->La->Prop}(hm:(a,AO.barr ns)∈led)(h:k (.fn (.builtin "bytearray.extend")) [.ref a] led):Hw c (aA "extend") (.ref a) m led k:=λ u hu pl hh tk r=>A4<|by
 cases hu
 obtain⟨o,⟨b,rfl,_⟩,hg⟩:=r.get hm
 exact getMethod_builtin ⟨_,hg,rfl⟩ JU CN CO (λ a e=>by cases e; exact⟨_,hg,rfl⟩) ⟨_,_,led,rfl,r,.fn _,[.ref a],rfl,⟨rfl,trivial⟩,h⟩
theorem IY{a:aJ}{ns ms:List Int}(hb:c.b)(hp:C1 (a,.barr ns) led rest)(hz:ns.length+ms.length<=100000)(h:k .none ((a,.barr (ns++ms))::rest)):C9 c (.fn (.builtin "bytearray.extend")) [.ref a,.bytes ms] m led k:=
 N9 M5 λ vs hv hh tk r=>MM hb<|by
  obtain⟨_,_,rfl,rfl,b,t,rfl,hbs⟩:=U3 hv
  obtain⟨o,⟨b0,rfl,hb0⟩,hg⟩:=r.get hp.mem.1
  refine Hj hg (by have h1:=fS (b:=b0); have h2:=fS (b:=b); rw[hb0]at h1; rw[hbs]at h2; lia) λ h' hD hs=>?_
  exact E2.ofV (a:= .none) (r.set (ao':= .barr (ns++ms)) hp hs hD ⟨_,rfl,by rw[←hb0,←hbs]; simp[cN]⟩) rfl h
theorem GP{a:aJ}{ns:List Int}(hm:(a,AO.barr ns)∈led)(hz:ns.length<=100000)(h:k (.bytes ns) led):C9 c (.fn (.type "bytes")) [.ref a] m led k:=
 N9 q9 λ vs hv hh tk r=>A4<|by
  obtain⟨_,rfl,rfl⟩:=CR hv
  obtain⟨o,⟨b,rfl,hb⟩,hg⟩:=r.get hm
  exact d3 hg (by have h1:=fS (b:=b); rw[hb]at h1; lia) λ t=>E2.ofV (a:= .bytes ns) r ⟨b,t,rfl,hb⟩ h
end
end
section
section
variable{c:Cx}{m:Lm}{led rest:La}{k:AV->La->Prop}{d:Nat}
theorem ED{a:Int}(h:k (.int (if a < 0 then -a else a)) led):C9 c (.fn (.builtin "abs")) [.int a] m led k:=
 N9 M5 λ vs hv hh tk r=>A4<|by
  obtain⟨_,rfl,t,rfl⟩:=CR hv
  exact call_abs_int λ u tk=>E2.ofV (a:= .int _) r ⟨_,rfl⟩ h
theorem Cy{x n:Int}(h0:0<=n)(h1:n<=1000000)(hx:x.natAbs < 18446744073709551616)(h:k (.int (x ^ n.toNat)) led):Op c (λ vs=>binaryOp .Pow (vs.getD 0 .none) (vs.getD 1 .none)) [.int x,.int n] m led k:=λ vs hv=>by
 obtain⟨_,_,rfl,⟨t,rfl⟩,⟨u,rfl⟩⟩:=U3 hv
 exact λ V V r=>A4<|pow_int_small h0 h1 hx (E2.ofV (a:= .int _) r ⟨_,rfl⟩ h)
theorem IC{l:aJ}{ns:List Int}(H:Ok c d)(hm:(l,AO.ints ns)∈led)(h:k (.int ns.sum) led):C9 c (.fn (.builtin "sum")) [.ref l] m led k:=
 N9 M5 λ vs hv hh tk r=>A4<|by
  obtain⟨_,rfl,rfl⟩:=CR hv
  refine M7 λ G96 hG96=>?_; obtain⟨us,n,hg,hu⟩:=r.isList hm
  obtain⟨xs,hx⟩:=hu.allInts.items; refine hG96 ?_
  have hl:hh.IsList l us.toArray:=GZ hg
  rw[show us.toArray=intItems xs from hx]at hl
  refine sum_intListG H.R.hh hl λ h' tk t' hk=>?_
  have e:preSum (numAt xs) xs.size=ns.sum:=by
   rw[preSum_eq,bN (by simp),←nums_intItems,←hx,show us.toArray.toList=us from rfl,hu.numsOf]
  rw[e]
  exact E2.ofV (a:= .int _) (r.keep hk) ⟨_,rfl⟩ h
theorem K7{a:aJ}{as:List AV}{i:Int}{v:AV}{value slice:aE}(ha:(a,AO.list as)∈led)(h0:0<=i)(h1:i < 100000)(e:as[i.toNat]? =some v)(h:k v led)
  (hs:∀ o i,subscripted slice false o i=operate [o,i] (getItem o i):=by intro _ _; rfl):Op c (λ vs=>subscriptTail value slice (vs.getD 0 .none) (vs.getD 1 .none)) [.ref a,.int i] m led k:=λ vs hv hh tk r=>A4<|by
 obtain⟨_,_,rfl,rfl,⟨u,rfl⟩⟩:=U3 hv
 obtain⟨o,⟨us,n,rfl,hu⟩,g⟩:=r.get ha
 obtain⟨w,q,hw⟩:=d7 hu e
 exact P6 λ value hv=>fZ ⟨_,g,rfl⟩ list_getitem_lookup (wpAny_getItem_list (GZ g) h0 (by lia) (by simpa using q) (E2.ofV r hw h)) (hs _ _) hv
theorem AK{a:aJ}{as:List AV}{i:Int}{v:AV}{value slice:aE}(ha:(a,AO.tup as)∈led)(h0:0<=i)(h1:i < 100000)(e:as[i.toNat]? =some v)(h:k v led)
  (hs:∀ o i,subscripted slice false o i=operate [o,i] (getItem o i):=by intro _ _; rfl):Op c (λ vs=>subscriptTail value slice (vs.getD 0 .none) (vs.getD 1 .none)) [.ref a,.int i] m led k:=λ vs hv hh tk r=>A4<|by
 obtain⟨_,_,rfl,rfl,⟨u,rfl⟩⟩:=U3 hv
 obtain⟨us,g,hu⟩:=r.isTup ha
 obtain⟨w,q,hw⟩:=d7 hu e
 have hlt:i.toNat < us.length:=(aT.mp q).1
 exact P6 λ value hv=>fZ g.typeIs slot_tuple_getitem.lookup (getItem_tuple g (by lia) (by lia) (seqIndex_of h0 (by rw[aX]; lia)) (by simpa using q) (E2.ofV r hw h)) (hs _ _) hv
theorem KI{as:List AV}{a:AV}{v:aF}(h':Rl a v):∀ {vs:List aF} {j:Nat},Q1 as vs->Q1 (as.set j a) (vs.set j v):=by
 induction as with
 | nil=>intro vs j h; cases vs with
  | nil=>exact h
  | cons _ _=>exact h.elim
 | cons b r ih=>intro vs j h; cases vs with
  | nil=>exact h.elim
  | cons w s=>cases j with
   | zero=>exact⟨h',h.2⟩
   | succ j=>exact⟨h.1,ih h.2⟩
theorem Ah{k:La->Prop}{a:aJ}{as:List AV}{i:Int}{x:AV}{j:Nat}(hp:C1 (a,.list as) led rest)(hi:i=j)(h1:j < as.length)(hz:as.length<=100000)(h:k ((a,.list (as.set j x))::rest)):MJ c (λ vs=>setItem (vs.getD 0 .none) (vs.getD 1 .none) (vs.getD 2 .none)) [.ref a,.int i,x] m led k:=λ vs hv hh tk r=>A4<|by
 obtain⟨_,_,v,rfl,rfl,⟨t,rfl⟩,hx⟩:=XT hv
 obtain⟨o,⟨us,n,rfl,hu⟩,hg⟩:=r.get hp.mem.1
 have hl:=G4 hu
 refine AD hg (.inl hi) (by rw[aX,hl]; exact h1) (by rw[aX,hl]; lia) λ h' hg' hs=>?_
 refine⟨h',tk,_,rfl,r.set (ao':= .list (as.set j x)) hp hs hg' ⟨us.set j v,n,?_,KI hx hu⟩,h⟩
 rw[List.setIfInBounds_toArray]; rfl
end
end
section
noncomputable abbrev J4(C:aJ)(q:Int)(t:Nat×Int):AO:= .list [.ref C,.int t.1,.int t.2,.int q]
section
variable{c:Cx}{m:Lm}{led rest:La}{k:AV->La->Prop}
theorem I3{P C:aJ}{q n:Int}{t:Nat×Int}{cs:List Int}(H:Ok c 2)(hP:C1 (P,J4 C q t) led rest)(hC:(C,AO.ints cs)∈rest)(hn:1<=n/\n < 1000)(hz:cs.length<=63)(hq:0<=q/\q < 1009)(ht:t.1 < 100000000)(h:∀ r t',t'.1<=t.1+1->0<=r->r < n->k (.int r) ((P,J4 C q t')::rest)):C9 c (.ref 764) [.ref P,.int n] m led k:=by
 obtain⟨sp,g⟩:=t; dsimp only[J4]at hP h ht ⊢
 refine' C9.perm hP ?_
 refine' C4 [("many",.int n),("pen",.ref P)] H ?_
 intro c1 O hs hw hg
 refine' B7 ?_
 refine' K7 (by tm_at "b") (by tm_at "a") (by tm_at "a") rfl ?_
 refine' s8 (λ V=>?_) (λ V=>?_)
 refine' A6 ?_
 refine' K7 (by tm_at "b") (by tm_at "a") (by tm_at "a") rfl ?_
 refine' G5 (by tm_at "a") ?_
 refine' B1 hs ?_
 refine' O4 ?_
 refine' E5 rfl ?_
 refine' K7 (by tm_at "b") (by tm_at "a") (by tm_at "a") rfl ?_
 refine' M4 (by tm_at "a") ?_
 refine' Ah (j:=2) (by tm_at "e") (by decide) (aB rfl) (aB rfl) ?_
 (first | exact A5 .refl (h _ (sp,_) (fE _) (bX _ (by tm_at "a")) (bR _ (by tm_at "a"))) | exact A5 .refl (h _ (sp+1,_) (aR _) (bX _ (by tm_at "a")) (bR _ (by tm_at "a"))))
 refine' K7 (by tm_at "b") (by tm_at "a") (by tm_at "a") rfl ?_
 refine' B1 hs ?_
 refine' O4 ?_
 refine' E5 rfl ?_
 refine' Ah (j:=1) (by tm_at "e") (by decide) (aB rfl) (aB rfl) ?_
 refine' A0 O hs ?_
 refine' K7 (by tm_at "b") (by tm_at "a") (by tm_at "a") rfl ?_
 refine' M2 (by tm_at "b") (by tm_at "c") ?_
 refine' s8 (λ V=>?_) (λ V=>?_)
 refine' K7 (by tm_at "b") (by tm_at "a") (by tm_at "a") rfl ?_
 refine' Z0 (by tm_at "a") ?_
 refine' Z0 (by tm_at "a") ?_
 refine' M4 (by tm_at "a") ?_
 refine' G5 (by tm_at "a") ?_
 (first | exact A5 .refl (h _ (sp,_) (fE _) (bX _ (by tm_at "a")) (bR _ (by tm_at "a"))) | exact A5 .refl (h _ (sp+1,_) (aR _) (bX _ (by tm_at "a")) (bR _ (by tm_at "a"))))
 refine' K7 (by tm_at "b") (by tm_at "a") (by tm_at "a") rfl ?_
 refine' M3 (by tm_at "b") (by tm_at "a") (by tm_at "c") (by tm_at "c") rfl ?_
 refine' B1 hs ?_
 refine' B7 ?_
 refine' A0 O hs ?_
 refine' ED ?_
 refine' Cy (by tm_at "a") (by tm_at "a") (by tm_at "a") ?_
 refine' s8 (λ V=>?_) (λ V=>?_)
 refine' G5 (by tm_at "a") ?_
 (first | exact A5 .refl (h _ (sp,_) (fE _) (bX _ (by tm_at "a")) (bR _ (by tm_at "a"))) | exact A5 .refl (h _ (sp+1,_) (aR _) (bX _ (by tm_at "a")) (bR _ (by tm_at "a"))))
 refine' A0 O hs ?_
 refine' ED ?_
 refine' Cy (by tm_at "a") (by tm_at "a") (by tm_at "a") ?_
 refine' U9 (by tm_at "a") ?_
 refine' s8 (λ V=>?_) (λ V=>?_)
 refine' B1 hs ?_
 refine' O4 ?_
 refine' E5 rfl ?_
 refine' M4 (by tm_at "a") ?_
 refine' Ah (j:=2) (by tm_at "e") (by decide) (aB rfl) (aB rfl) ?_
 refine' G5 (by tm_at "a") ?_
 (first | exact A5 .refl (h _ (sp,_) (fE _) (bX _ (by tm_at "a")) (bR _ (by tm_at "a"))) | exact A5 .refl (h _ (sp+1,_) (aR _) (bX _ (by tm_at "a")) (bR _ (by tm_at "a"))))
 refine' B1 hs ?_
 refine' O4 ?_
 refine' E5 rfl ?_
 refine' M4 (by tm_at "a") ?_
 refine' Ah (j:=2) (by tm_at "e") (by decide) (aB rfl) (aB rfl) ?_
 refine' G5 (by tm_at "a") ?_
 (first | exact A5 .refl (h _ (sp,_) (fE _) (bX _ (by tm_at "a")) (bR _ (by tm_at "a"))) | exact A5 .refl (h _ (sp+1,_) (aR _) (bX _ (by tm_at "a")) (bR _ (by tm_at "a"))))
end
end
section
section
variable{c:Cx}{m:Lm}{led rest:La}{k:AV->La->Prop}
theorem BP{a:aJ}{vs:List aF}{ns ms:List Int}{l u:AV}{lo hi:Option Int}{value:aE}{la ua:Option aE}{sp:Pos}(ha:c.g.IsList a vs.toArray)(hi':cE vs ns)(hl:Bt l lo)(hu:Bt u hi)(hz:ns.length<=100000)(e:T2 ns lo hi=ms)(h:∀ D,k (.ref D) ((D,.ints ms)::led)):Fd c value (.Slice la ua none sp) (.ref a) l u m led k:=λ ov lv uv ho hl' hu' hh tk r=>A4<|by
 subst ho
 refine M7 λ G19 hG19=>?_; obtain⟨mm,ol,F,hm,N,A⟩:=r.real; refine hG19 ?_
 have hs:hh.IsList a vs.toArray:=let ⟨o,e1,e2,e3⟩:=ha; ⟨o,r.base e1,e2,e3⟩
 exact P6 λ value hv=>kmk_slice (s:=c.at hh tk) F N hs (hl.real hl') (hu.real hu') (λ D h' F' N' lt=>E2.ofV (a:= .ref _) (r.ofNew F' hm N' A lt (ao:= .ints _) ⟨_,0,by rw[Array.toArray_toList],e▸DM hi' lo hi⟩) rfl (h D)) rfl hv (by rw[aX,hi'.length,dT]; lia)
set_option tactic.hygienic true in
theorem NQ{l:aJ}{us:List aF}{ns:List Int}(H:Ok c 2)(hl:c.g.IsList l us.toArray)(hi:cE us ns)(hz:ns.length<=63)(h:∀ P C cs q,cs.length<=63->0<=q->q < 1009->k (.ref P) ((P,J4 C q (0,0))::(C,.ints cs)::led)):C9 c (.ref 771) [.ref l] m led k:=by
 refine' C4 [("script",.ref l)] H ?_
 intro c1 O hs hw hg
 have hcu:T2 ns none (some 63)=ns:=by rw[Ga (by decide)]; exact bN hz
 have hl1:c1.g.IsList l us.toArray:=let ⟨o,e1,e2,e3⟩:=hl; ⟨o,hg _ _ e1,e2,e3⟩
 refine' A0 O hs ?_
 refine' BP hl1 hi .none (.int _) (by tm_at "c") hcu (λ D=>?_)
 refine' Dk (by tm_at "b") (by tm_at "c") (λ D=>?_)
 refine' A0 O hs ?_
 refine' A0 O hs ?_
 refine' BP hl1 hi .none (.int _) (by tm_at "c") hcu (λ D=>?_)
 refine' IC O (by tm_at "b") ?_
 refine' ED ?_
 refine' G5 (by tm_at "a") ?_
 refine' H3 (aB rfl) (λ D=>?_)
 rename_i D0 D1 D3
 have e:J4 D1 ((if ns.sum < 0 then -ns.sum else ns.sum) % 1009) (0,0)=AO.list [AV.ref D1,AV.int 0,AV.int 0,AV.int ((if ns.sum < 0 then -ns.sum else ns.sum) % 1009)]:=rfl
 rw[←e]
 exact A5 (.cons (.head _) (.drop (.cons (.head _) (.drop .refl)))) (h _ _ _ _ hz (bX (b:=1009) _ (by decide)) (bR (b:=1009) _ (by decide)))
end
end
section
section
variable{c:Cx}{m:Lm}{led rest:La}{k:AV->La->Prop}
noncomputable def W0(l:List Int):Prop:=∀ x∈l,0<=x/\x < 256
theorem W0.snoc{l:List Int}{x:Int}(h:W0 l)(h0:0<=x)(h1:x < 256):W0 (l++[x]):=by
 intro y hy
 rcases cM.mp hy with hy | hy
 ·exact h y hy
 ·rw[aL.mp hy]; exact⟨h0,h1⟩
theorem W0.get{l:List Int}{i:Nat}(h:W0 l)(hi:i < l.length):0<=l.getD i 0/\l.getD i 0 < 256:=by
 rw[aK,aM hi]; exact h _ (List.getElem_mem hi)
theorem Lk{P C:aJ}{q:Int}{t:Nat×Int}{cs:List Int}(H:Ok c 3)(hP:C1 (P,J4 C q t) led rest)(hC:(C,AO.ints cs)∈rest)(hz:cs.length<=63)(hq:0<=q/\q < 1009)(ht:t.1 < 90000000)(h:∀ r t',r.length<=16->W0 r->t'.1<=t.1+40->k (.bytes r) ((P,J4 C q t')::rest)):C9 c (.ref 778) [.ref P,.int 16] m led k:=by
 refine' C9.perm hP ?_
 refine' C4 [("most",.int 16),("pen",.ref P)] H ?_
 intro c1 O hs hw hg
 refine' A6 ?_
 refine' C3 (ns:=[]) rfl (by decide) (λ F=>?_)
 refine' B1 hs ?_
 refine' F5 ?_
 refine' G6 [] O ?_ (hs:=λ V=>rfl)
 refine' A0 O hs ?_
 refine' A1 O hs ?_
 refine' I3 (O.le (by tm_at "a")) (.tail (.head _)) (.tail _ hC) (by tm_at "a") hz hq (by tm_at "a") (λ r t1 ht1 h0 h1=>?_)
 refine' H9 (λ D=>?_)
 obtain⟨n,rfl⟩:=cG h0
 refine' E8 [] (λ V:List Int×(Nat×Int)=>[("found",.ref F),("pen",.ref P)]) (λ s=>(F,.ints s.1)::(P,J4 C q s.2)::rest) (λ i s=>s.1.length=i/\W0 s.1/\s.2.1<=t1.1+2*i) (λ s=>s.1.length=n/\W0 s.1/\s.2.1<=t1.1+2*n) ([],t1) n O (E6 hs rfl rfl) (by tm_at "b") (Bz (by tm_at "a")).1 (Bz (by tm_at "a")).2 ⟨rfl,rfl,trivial⟩ (by tm_at "d") ⟨rfl,(λ x hx=>by contradiction),aR _⟩ ?_ (λ s h=>h) ?_
 ·(intro i; refine Eh λ os s=>?_; intro rw K hK hi; refine Mk λ hl ho hs2=>?_)
  dsimp only at hl ho hs2 ⊢
  refine' A6 ?_
  refine' A1 O hs ?_
  refine' I3 (O.le (by tm_at "a")) (by tm_at "e") (by tm_at "b") (by tm_at "a") hz hq (by tm_at "a") (λ r t1 ht1 h0 h1=>?_)
  refine' B1 hs ?_
  refine' D8 ?_
  refine' K1 (by tm_at "b") ?_
  refine' S6 (λ V=>?_) (λ V=>?_)
  refine' L7 (by tm_at "e") (by tm_at "c") ?_
  (refine' hK _ _ _ ?_; refine' go (os++[_],_) ?_ ⟨rfl,rfl,trivial⟩ (by tm_at "d"); refine'⟨by rw[aI,hl]; rfl,?_,by tm_at "a"⟩; first | exact ho.snoc (by tm_at "a") (by tm_at "a") | (refine' ho.snoc ((ho.snoc (x:=255) (by decide) (by decide)).get ?_).1 ((ho.snoc (x:=255) (by decide) (by decide)).get ?_).2<;>(rw[aI,hl]; tm_at "c")))
  refine' S6 (λ V=>?_) (λ V=>?_)
  refine' C3 (ns:=[_]) rfl (by simp) (λ D=>?_)
  refine' I4 (by tm_at "b") (by tm_at "b") (by tm_at "c") (λ D=>?_)
  refine' s8 (λ V=>?_) (λ V=>?_)
  refine' M3 (by tm_at "b") (by tm_at "a") (by tm_at "c") (by tm_at "c") rfl ?_
  refine' L7 (by tm_at "e") (by tm_at "c") ?_
  (refine' hK _ _ _ ?_; refine' go (os++[_],_) ?_ ⟨rfl,rfl,trivial⟩ (by tm_at "d"); refine'⟨by rw[aI,hl]; rfl,?_,by tm_at "a"⟩; first | exact ho.snoc (by tm_at "a") (by tm_at "a") | (refine' ho.snoc ((ho.snoc (x:=255) (by decide) (by decide)).get ?_).1 ((ho.snoc (x:=255) (by decide) (by decide)).get ?_).2<;>(rw[aI,hl]; tm_at "c")))
  refine' M3 (by tm_at "b") (by tm_at "a") (by tm_at "c") (by tm_at "c") rfl ?_
  refine' L7 (by tm_at "e") (by tm_at "c") ?_
  (refine' hK _ _ _ ?_; refine' go (os++[_],_) ?_ ⟨rfl,rfl,trivial⟩ (by tm_at "d"); refine'⟨by rw[aI,hl]; rfl,?_,by tm_at "a"⟩; first | exact ho.snoc (by tm_at "a") (by tm_at "a") | (refine' ho.snoc ((ho.snoc (x:=255) (by decide) (by decide)).get ?_).1 ((ho.snoc (x:=255) (by decide) (by decide)).get ?_).2<;>(rw[aI,hl]; tm_at "c")))
  refine' A1 O hs ?_
  refine' I3 (O.le (by tm_at "a")) (by tm_at "e") (by tm_at "b") (by tm_at "a") hz hq (by tm_at "a") (λ r t1 ht1 h0 h1=>?_)
  refine' L7 (by tm_at "e") (by tm_at "c") ?_
  (refine' hK _ _ _ ?_; refine' go (os++[_],_) ?_ ⟨rfl,rfl,trivial⟩ (by tm_at "d"); refine'⟨by rw[aI,hl]; rfl,?_,by tm_at "a"⟩; first | exact ho.snoc (by tm_at "a") (by tm_at "a") | (refine' ho.snoc ((ho.snoc (x:=255) (by decide) (by decide)).get ?_).1 ((ho.snoc (x:=255) (by decide) (by decide)).get ?_).2<;>(rw[aI,hl]; tm_at "c")))
 ·(refine Eh λ os s=>?_; refine Mk λ hl ho hs2=>?_)
  dsimp only at hl ho hs2 ⊢
  refine' A0 O hs ?_
  refine' H6 O (by tm_at "b") ho (by tm_at "a") ?_
  exact A5 (by tm_at "d") (h _ _ (by tm_at "a") ho (by tm_at "a"))
end
end
section
section
variable{c:Cx}{m:Lm}{led rest:La}{k:AV->La->Prop}
noncomputable abbrev O0(ns:List Int)(a h n:Int):AO:= .dict [("data",.bytes ns),("at",.int a),("held",.int h),("count",.int n)]
theorem Ln{x dx:aJ}{ns:List Int}{a hd n:Int}(H:Ok c 2)(hx:(x,AO.inst 169 dx)∈led)(hdx:(dx,O0 ns a hd n)∈led)(hz:ns.length<=100000)(h:∀ r,r=n+8*(ns.length - a)->k (.int r) led):C9 c (.ref 138) [.ref x] m led k:=by
 refine' C4 [("self",.ref x)] H ?_
 intro c' O hs hw hg
 refine' A2 O ?_
 refine' C6 O hs ?_
 refine' A0 O hs ?_
 refine' A2 O ?_
 refine' N7 (by tm_at "c") ?_
 refine' A2 O ?_
 refine' U9 (by tm_at "a") ?_
 exact A5 (by tm_at "d") (h _ rfl)
theorem AS{x dx:aJ}{ns:List Int}{a hd n:Int}(H:Ok c 2)(hx:(x,AO.inst 169 dx)∈rest)(hdx:C1 (dx,O0 ns a hd n) led rest)(h:k .none ((dx,O0 ns a 0 0)::rest)):C9 c (.ref 159) [.ref x] m led k:=by
 refine' C9.perm hdx ?_
 refine' C4 [("self",.ref x)] H ?_
 intro c' O hs hw hg
 refine' B9 ?_
 refine' A8 O ?_
 refine' B9 ?_
 refine' A8 O ?_
 exact I5 (by tm_at "d") h
theorem FA{x dx:aJ}{ns:List Int}{a hd n v:Int}(H:Ok c 3)(hx:(x,AO.inst 169 dx)∈led)(hdx:(dx,O0 ns a hd n)∈led)(hz:ns.length<=100000)(hv:v<=n+8*(ns.length - a))(h:k .none led):C9 c (.ref 145) [.ref x,.int v] m led k:=by
 refine' C4 [("count",.int v),("self",.ref x)] H ?_
 intro c' O hs hw hg
 refine' B7 ?_
 refine' C7 O ?_
 refine' Ln (O.le (by tm_at "a")) (by tm_at "b") (by tm_at "b") (by tm_at "a") (λ V V=>?_)
 refine' S7 (by tm_at "c") ?_
 exact I5 (by tm_at "d") h
theorem Fu{k j:Nat}(h:k<=j):(2:Int) ^ k<=2 ^ j:=by
 have:=lC (by decide:0 < 2) h
 have e:∀ i:Nat,(2:Int) ^ i=((2 ^ i:Nat):Int):=λ i=>by simp
 rw[e,e]; exact Int.ofNat_le.mpr this
theorem Gw{c:Int}(h:0<=c):(2:Int) ^ (c+8).toNat=256*2 ^ c.toNat:=by
 rw[Int.toNat_add h (by decide),show(8:Int).toNat=8 from rfl,Int.pow_add,Int.mul_comm]; rfl
theorem Mt{l d P:Int}(h:l < P)(hd:d < 256)(hP:0<=P):l+d*P < 256*P:=by
 have h1:d*P<=255*P:=Int.mul_le_mul_of_nonneg_right (lH hd) hP
 lia
noncomputable def Z9(ks:List Int)(n:Int):Nat->Int->Int->Int->Int×Int×Int
 | 0,a,l,c=>(a,l,c)
 | m+1,a,l,c=>if c < n then Z9 ks n m (a+1) (l+ks.getD a.toNat 0*2 ^ c.toNat) (c+8)else(a,l,c)
theorem Ag{x dx:aJ}{ks:List Int}{a l cc n:Int}{f:Nat}{a' l' c':Int}(H:Ok c 5)(hx:(x,AO.inst 169 dx)∈rest)(hdx:C1 (dx,O0 ks a l cc) led rest)(hz:ks.length<=100000)(hn0:0<=n)(hn1:n<=16)(hn:n<=cc+8*((ks.length:Int) - a))(ha:0<=a)(hl:l=0/\0<=cc/\cc<=16)
  (hf:Z9 ks n f a l cc=(a',l',c')) (hfin:n<=c') (h:∀ r u q,r=l' % 2 ^ n.toNat->u=l' / 2 ^ n.toNat->q=c' - n->k (.int r) ((dx,O0 ks a' u q)::rest)):C9 c (.ref 152) [.ref x,.int n] m led k:=by
 refine' C9.perm hdx ?_
 refine' C4 [("count",.int n),("self",.ref x)] H ?_
 intro c1 O hs hw hg
 obtain⟨rfl,hc0,hc1⟩:=hl
 refine' D8 ?_
 refine' C7 O ?_
 refine' FA (O.le (by tm_at "a")) (by tm_at "b") (by tm_at "b") (by tm_at "a") (by tm_at "a") ?_
 refine' a8 ?_
 refine' X8 [] (λ s:Nat×Int×Int×Int=>[("self",.ref x),("count",.int n)]) (λ s=>(dx,O0 ks s.2.1 s.2.2.1 s.2.2.2)::rest)
  (λ s=>Z9 ks n s.1 s.2.1 s.2.2.1 s.2.2.2=(a',l',c')/\0<=s.2.1/\n<=s.2.2.2+8*((ks.length:Int) - s.2.1)/\0<=s.2.2.1/\s.2.2.1 < 2 ^ s.2.2.2.toNat/\0<=s.2.2.2/\s.2.2.2<=24) (λ s=>s.1) (λ s=>s.2=(a',l',c')/\0<=l'/\l' < 16777216)
  (f,a,0,cc) O ⟨hf,ha,hn,iO _,lF (by decide),hc0,by show cc<=24; lia⟩ ⟨rfl,rfl,trivial⟩ (by tm_at "d") ?_ ?_
 ·(refine MQ λ z za zl zc=>?_; intro K K2 hK hK2; refine Zw λ hf ha hn hl0 hl1 hc0 hc1=>?_)
  replace hf:Z9 ks n z za zl zc=(a',l',c'):=hf
  replace ha:0<=za:=ha
  replace hn:n<=zc+8*((ks.length:Int) - za):=hn
  replace hl0:0<=zl:=hl0
  replace hl1:zl < 2 ^ zc.toNat:=hl1
  replace hc0:0<=zc:=hc0
  replace hc1:zc<=24:=hc1
  have hp:(2:Int) ^ zc.toNat<=16777216:=Fu (j:=24) (by tm_at "a")
  dsimp only
  by_cases hlt:zc < n
  ·induction z with
   | zero=>rcases hf; lia
   | succ z=>
    have hf2:(if zc < n then Z9 ks n z (za+1) (zl+ks.getD za.toNat 0*2 ^ zc.toNat) (zc+8)else(za,zl,zc))=(a',l',c'):=hf
    rw[if_pos hlt]at hf2
    refine' A2 O ?_
    refine' P9 (by tm_at "c") ?_
    refine' B9 ?_
    refine' A2 O ?_
    refine' A2 O ?_
    refine' A2 O ?_
    refine' K8 (by tm_at "a") (by tm_at "c") (by tm_at "c") rfl (λ d0 d1=>?_)
    refine' A2 O ?_
    refine' a9 (by tm_at "a") (by tm_at "a") (by tm_at "a") ?_
    refine' MR ?_
    refine' A8 O ?_
    refine' B9 ?_
    refine' A2 O ?_
    refine' A8 O ?_
    refine' B9 ?_
    refine' A2 O ?_
    refine' C6 O hs ?_
    refine' A8 O ?_
    refine' hK _ _ _ ?_; refine' Ht (z,za+1,fN zl (ks.getD za.toNat 0*2 ^ zc.toNat),zc+8) ?_ ⟨rfl,rfl,trivial⟩ (by tm_at "d")
    have hbo:=Ch hl0 hl1 d0
    have hP:(0:Int)<=2 ^ zc.toNat:=Int.pow_nonneg (by decide)
    refine⟨⟨by show Z9 ks n z (za+1) (fN zl (ks.getD za.toNat 0*2 ^ zc.toNat)) (zc+8)=_; rw[hbo]; exact hf2,?_,?_,?_,?_,?_,?_⟩,cU _⟩
    ·show 0<=za+1; lia
    ·show n<=zc+8+8*((ks.length:Int) - (za+1)); lia
    ·show 0<=fN zl _; rw[hbo]; exact Int.add_nonneg hl0 (lG d0 hP)
    ·show fN zl _ < 2 ^ (zc+8).toNat; rw[hbo,Gw hc0]; exact Mt hl1 d1 hP
    ·show 0<=zc+8; lia
    ·show zc+8<=24; lia
  ·have hfe:(za,zl,zc)=(a',l',c'):=by
    induction z with
    | zero=>exact hf
    | succ z=>
     have hf2:(if zc < n then Z9 ks n z (za+1) (zl+ks.getD za.toNat 0*2 ^ zc.toNat) (zc+8)else(za,zl,zc))=(a',l',c'):=hf
     rw[if_neg hlt]at hf2; exact hf2
   refine' A2 O ?_
   refine' S7 (by tm_at "c") ?_
   refine' hK2 _ ?_; refine' Ht (z,za,zl,zc) ⟨hfe,?_,?_⟩ ⟨rfl,rfl,trivial⟩ (by tm_at "d")
   ·rcases hfe; exact hl0
   ·rcases hfe; lia
 ·(refine MQ λ z za zl zc=>?_; refine Mk λ hfe hl0 hl1=>?_)
  obtain⟨rfl,rfl,rfl⟩:za=a'/\zl=l'/\zc=c':=by simpa using hfe
  dsimp only
  refine' A1 O hs ?_
  refine' A2 O ?_
  refine' IM (O.le (by tm_at "a")) (by tm_at "a") (by tm_at "a") (by tm_at "a") ?_
  refine' B1 hs ?_
  refine' B9 ?_
  refine' A2 O ?_
  refine' Cu (by tm_at "a") ?_
  refine' A8 O ?_
  refine' B9 ?_
  refine' A2 O ?_
  refine' A8 O ?_
  exact A5 (by tm_at "d") (h _ _ _ rfl rfl rfl)
end
end
section
section
variable{c:Cx}{m:Lm}{led rest:La}{k:AV->La->Prop}
theorem GF{x dx:aJ}{ks ms:List Int}{a l cc n:Int}(H:Ok c 5)(hx:(x,AO.inst 169 dx)∈rest)(hdx:C1 (dx,O0 ks a l cc) led rest)(hz:ks.length<=100000)(hn0:0<=n)(hn1:n<=10000)(hn:n<=(ks.length:Int) - a)(ha:0<=a)(hm:T2 ks (some (a+n - n)) (some (a+n))=ms)
  (h:∀ r,r=ms->k (.bytes r) ((dx,O0 ks (a+n) 0 0)::rest)):C9 c (.ref 166) [.ref x,.int n] m led k:=by
 refine' C9.perm hdx ?_
 refine' C4 [("count",.int n),("self",.ref x)] H ?_
 intro c1 O hs hw hg
 refine' D8 ?_
 refine' C7 O ?_
 refine' A2 O ?_
 refine' C6 O hs ?_
 refine' Z0 (by tm_at "a") ?_
 refine' FA (O.le (by tm_at "a")) (by tm_at "b") (by tm_at "b") (by tm_at "a") (by tm_at "a") ?_
 refine' D8 ?_
 refine' C7 O ?_
 refine' AS (O.le (by tm_at "a")) (by tm_at "b") (by tm_at "e") ?_
 refine' B9 ?_
 refine' A2 O ?_
 refine' A8 O ?_
 refine' A0 O hs ?_
 refine' A2 O ?_
 refine' A2 O ?_
 refine' A2 O ?_
 refine' M9 (.int _) (.int _) (by tm_at "c") rfl ?_
 refine' GO ?_
 exact A5 (by tm_at "d") (h _ hm)
theorem IR{r:List Int}(H:Ok c 2)(hz:r.length<=10000)(h:k .none led):C9 c (.ref 396) [.bytes (120::1::r)] m led k:=by
 refine' C4 [("data",.bytes (120::1::r))] H ?_
 intro c1 O hs hw hg
 have hl:(120::1::r).length=r.length+2:=rfl
 refine' B7 ?_
 refine' A0 O hs ?_
 refine' N7 (by tm_at "c") ?_
 refine' S7 (by tm_at "c") ?_
 refine' K8 (by tm_at "a") (by tm_at "a") (by tm_at "a") (show(120::1::r).getD (0:Int).toNat 0=120 from rfl) (λ V V=>?_)
 refine' Z0 (by tm_at "a") ?_
 refine' K8 (by tm_at "a") (by tm_at "a") (by tm_at "a") (show(120::1::r).getD (1:Int).toNat 0=1 from rfl) (λ V V=>?_)
 refine' G5 (by tm_at "a") ?_
 refine' W9 (by tm_at "c") ?_
 refine' K8 (by tm_at "a") (by tm_at "a") (by tm_at "a") (show(120::1::r).getD (0:Int).toNat 0=120 from rfl) (λ V V=>?_)
 refine' G5 (by tm_at "a") ?_
 refine' W9 (by tm_at "c") ?_
 refine' K8 (by tm_at "a") (by tm_at "a") (by tm_at "a") (show(120::1::r).getD (0:Int).toNat 0=120 from rfl) (λ V V=>?_)
 refine' M4 (by tm_at "a") ?_
 refine' S7 (by tm_at "c") ?_
 refine' G1 ?_
 refine' K8 (by tm_at "a") (by tm_at "a") (by tm_at "a") (show(120::1::r).getD (1:Int).toNat 0=1 from rfl) (λ V V=>?_)
 refine' M4 (by tm_at "a") ?_
 refine' G5 (by tm_at "a") ?_
 refine' F7 (by tm_at "c") ?_
 exact I5 (by tm_at "d") h
theorem Jx{ks:List Int}{a p q:Int}(e1:ks.getD a.toNat 0=p)(e2:ks.getD (a+1).toNat 0=q):Z9 ks 16 2 a 0 0=(a+1+1,p+256*q,16):=by
 show(if(0:Int) < 16 then(if(0:Int)+8 < 16 then(a+1+1,(0+ks.getD a.toNat 0*2 ^ (0:Int).toNat)+ks.getD (a+1).toNat 0*2 ^ (0+8:Int).toNat,(0:Int)+8+8)else _)else _)=_
 rw[if_pos (by decide),if_pos (by decide),e1,e2]
 have h1:(2:Int) ^ (0:Int).toNat=1:=rfl
 have h2:(2:Int) ^ (0+8:Int).toNat=256:=rfl
 rw[h1,h2]
 refine eY rfl (eY ?_ rfl)
 show 0+p*1+q*256=p+256*q
 lia
theorem GC{x dx:aJ}{ks ms:List Int}{a l cc n:Int}(H:Ok c 7)(hx:(x,AO.inst 169 dx)∈rest)(hdx:C1 (dx,O0 ks a l cc) led rest)(hz:ks.length<=100000)(ha:0<=a)(hn0:0<=n)(hn1:n<=10000)(hn:n+4<=(ks.length:Int) - a)
  (e0:ks.getD a.toNat 0=n % 256) (e1:ks.getD (a+1).toNat 0=n / 256) (e2:ks.getD (a+1+1).toNat 0=255 - n % 256) (e3:ks.getD (a+1+1+1).toNat 0=255 - n / 256)
  (hm:T2 ks (some (a+1+1+1+1+n - n)) (some (a+1+1+1+1+n))=ms) (h:∀ r,r=ms->k (.bytes r) ((dx,O0 ks (a+1+1+1+1+n) 0 0)::rest)):C9 c (.ref 360) [.ref x] m led k:=by
 refine' C9.perm hdx ?_
 refine' C4 [("bits",.ref x)] H ?_
 intro c1 O hs hw hg
 have f1:Z9 ks 16 2 a 0 0=(a+1+1,n,16):=by rw[Jx e0 e1]; refine eY rfl (eY ?_ rfl); show n % 256+256*(n / 256)=n; exact Int.emod_add_mul_ediv n 256
 have f2:Z9 ks 16 2 (a+1+1) 0 0=(a+1+1+1+1,65535 - n,16):=by rw[Jx e2 e3]; refine eY rfl (eY ?_ rfl); show 255 - n % 256+256*(255 - n / 256)=65535 - n; lia
 have hp:(2:Int) ^ (16:Int).toNat=65536:=rfl
 have hn':n<=65535:=by lia
 refine' D8 ?_
 refine' C7 O ?_
 refine' AS (O.le (by tm_at "a")) (by tm_at "b") (by tm_at "e") ?_
 refine' A6 ?_
 refine' C7 O ?_
 (refine' Ag (O.le (by tm_at "a")) (by tm_at "b") (by tm_at "e") (by tm_at "a") (by tm_at "a") (by tm_at "a") (by tm_at "a") (by tm_at "a") (by tm_at "a") f1 (by tm_at "a") ?_; intro r1 u1 q1 h1 h2 h3; rw[hp]at h1 h2; obtain rfl:r1=n:=(h1.trans (dR hn0 (Int.lt_add_one_of_le hn'))); obtain rfl:u1=0:=(h2.trans (eM hn0 (Int.lt_add_one_of_le hn'))); obtain rfl:q1=0:=(by tm_at "a"); clear h1 h2 h3)
 refine' B1 hs ?_
 refine' B7 ?_
 refine' C7 O ?_
 (refine' Ag (O.le (by tm_at "a")) (by tm_at "b") (by tm_at "e") (by tm_at "a") (by tm_at "a") (by tm_at "a") (by tm_at "a") (by tm_at "a") (by tm_at "a") f2 (by tm_at "a") ?_; intro r2 u2 q2 h1 h2 h3; rw[hp]at h1 h2; obtain rfl:r2=65535 - r1:=(h1.trans (dR (lE hn') (jM (iR _ hn0) (by decide)))); obtain rfl:u2=0:=(h2.trans (eM (lE hn') (jM (iR _ hn0) (by decide)))); obtain rfl:q2=0:=(by tm_at "a"); clear h1 h2 h3)
 refine' W9 (by tm_at "c") ?_
 refine' C7 O ?_
 refine' GF (O.le (by tm_at "a")) (by tm_at "b") (by tm_at "e") (by tm_at "a") (by tm_at "a") (by tm_at "a") (by tm_at "a") (by tm_at "a") hm (λ V V=>?_)
 exact A5 (by tm_at "d") (h _ (by assumption))
end
end
section
section
variable{c:Cx}{m:Lm}{led rest:La}{k:AV->La->Prop}
noncomputable def Pb(l:List Int):Int:=l.foldl (λ t d=>256*t+d) 0
theorem JS{l:List Int}{i:Nat}{n:Int}(h:l[i]? =some n):Pb (l.take (i+1))=256*Pb (l.take i)+n:=by
 unfold Pb; rw[aV,h]; simp
theorem Dt{ks os ms:List Int}{a:Int}(H:Ok c 4)(hz:ks.length<=100000)(ha:0<=a)(hl:a+4<=(ks.length:Int))(hm:T2 ks (some a) (some (a+4))=ms)(he:Pb ms=ME os)(h:k .none led):C9 c (.ref 403) [.bytes ks,.int a,.bytes os] m led k:=by
 refine' C4 [("octets",.bytes os),("at",.int a),("data",.bytes ks)] H ?_
 intro c1 O hs hw hg
 refine' B7 ?_
 refine' A0 O hs ?_
 refine' N7 (by tm_at "c") ?_
 refine' S7 (by tm_at "c") ?_
 refine' B1 hs ?_
 refine' F5 ?_
 refine' G6 [] O ?_ (hs:=λ V=>rfl)
 refine' M9 (.int _) (.int _) (by tm_at "a") hm ?_
 refine' P3 [] (λ s:Int=>[("octets",.bytes os),("at",.int a),("total",.int s)]) (λ V=>led) (λ i s=>s=Pb (ms.take i)) (λ s=>s=Pb ms) 0 O (E6 hs rfl rfl) ⟨rfl,rfl,rfl,trivial⟩ .refl rfl ?_ (λ s hs=>by rw[hs,bD]) ?_
 ·rintro i n to rw K hK hn h0 h1 hP
  refine' A6 ?_
  refine' U9 (by tm_at "a") ?_
  refine' B1 hs ?_
  (refine' hK _ _ _ ?_; exact go (256*to+n) (by rw[JS hn,←hP]) ⟨rfl,rfl,rfl,trivial⟩ .refl)
 ·rintro to rfl
  refine' A1 O hs ?_
  refine' Ja (O.le (by tm_at "a")) ?_
  refine' W9 he ?_
  exact I5 (by tm_at "d") h
end
end
section
section
variable{c:Cx}{m:Lm}{led rest:La}{k:AV->La->Prop}
noncomputable def H7(st:List Int×List Int)(c:Int):Option (List Int×List Int):=
 if c=122 then(if st.2=[]then some (st.1++[0,0,0,0],[])else none)
 else if 33<=c/\c<=117 then
  (if st.2.length=4 then(if I1 (J1 (st.2++[c - 33]))<=4294967295 then some (st.1++R7 (st.2++[c - 33]),[])else none)
  else some (st.1,st.2++[c - 33]))
 else none
noncomputable def E3(st:List Int×List Int)(cs:List Int):Option (List Int×List Int):=
 match cs with
 | []=>some st
 | c::r=>(H7 st c).bind λ z=>E3 z r
theorem i9(cs ds:List Int):∀ st,E3 st (cs++ds)=(E3 st cs).bind λ z=>E3 z ds:=by
 induction cs with
 | nil=>intro st; rfl
 | cons c r ih=>
  intro st
  show(H7 st c).bind (λ z=>E3 z (r++ds))=((H7 st c).bind λ z=>E3 z r).bind _
  cases H7 st c with
  | none=>rfl
  | some z=>exact ih z
theorem Fb(st:List Int×List Int)(c:Int):E3 st [c]=H7 st c:=by
 show(H7 st c).bind (λ z=>some z)=_
 cases H7 st c<;>rfl
theorem DZ{cs:List Int}{st y z:List Int×List Int}{i:Nat}{c:Int}(h:E3 st cs=some z)(hy:E3 st (cs.take i)=some y)(hc:cs[i]? =some c):
  ∃ x,H7 y c=some x/\E3 st (cs.take (i+1))=some x:=by
 have hi:i < cs.length:=by
  rcases jB i cs.length with h | h
  ·exact h
  ·rw[dG h]at hc; cases hc
 have e:cs.take (i+1)=cs.take i++[c]:=by rw[aV,hc]; rfl
 have h1:E3 st (cs.take (i+1))=H7 y c:=by rw[e,i9,hy]; exact Fb y c
 have h2:E3 st (cs.take (i+1)++cs.drop (i+1))=some z:=by rw[iI]; exact h
 rw[i9]at h2
 cases hx:E3 st (cs.take (i+1))with
 | none=>rw[hx]at h2; cases h2
 | some x=>exact⟨x,by rw[←h1,hx],rfl⟩
theorem Z6(ds:List Int):(R7 ds).length<=4:=by
 unfold R7; rw[bK]; exact iN _ _
theorem Cp:∀ (l:List Int) (a:Int),0<=a->(∀ d∈l,0<=d)->0<=l.foldl (λ t d=>85*t+d) a:=by
 intro l
 induction l with
 | nil=>intro a h _; exact h
 | cons d r ih=>intro a h hd; exact ih _ (by have:=hd d jG; show 0<=85*a+d; lia) λ x hx=>hd x (eA _ hx)
theorem m5{ds:List Int}(h:∀ d∈ds,0<=d):0<=I1 (J1 ds):=by
 refine Cp _ 0 (iO _) λ d hd=>?_
 rcases cM.mp hd with hd | hd
 ·exact h d hd
 ·obtain⟨l,hl,hd⟩:=List.mem_flatten.mp hd
  rw[List.eq_of_mem_replicate hl,aL]at hd
  lia
theorem Gi{c:Int}(h:33<=c):r7 c=false:=by
 unfold r7
 simp only[List.any_cons,List.any_nil,Bool.or_false,Bool.or_eq_false_iff,beq_eq_false_iff_ne]
 have g:∀ k:Int,k < 33->¬ k=c:=λ k hk e=>Int.not_le.mpr hk (e▸h)
 exact⟨g 0 (by decide),g 9 (by decide),g 10 (by decide),g 12 (by decide),g 13 (by decide),g 32 (by decide)⟩
theorem MD{st x:List Int×List Int}{c:Int}(h:H7 st c=some x)(hl:st.2.length < 5)(hd:∀ d∈st.2,0<=d):
  x.2.length < 5/\(∀ d∈x.2,0<=d)/\x.1.length<=st.1.length+4:=by
 unfold H7 at h
 split at h
 ·split at h
  ·cases h; exact⟨by simp,by simp,by simp⟩
  ·cases h
 ·split at h
  ·split at h
   ·split at h
    ·cases h
     refine⟨by simp,by simp,?_⟩
     have:=Z6 (st.2++[c - 33])
     rw[aI]; lia
    ·cases h
   ·cases h
    refine⟨by rw[aI,fU]; lia,λ d hx=>?_,dC _ _⟩
    rcases cM.mp hx with hx | hx
    ·exact hd d hx
    ·rw[aL.mp hx]; lia
  ·cases h
set_option tactic.hygienic true in
theorem NY{cs o sg ns:List Int}(H:Ok c 4)(hz:cs.length<=2000)(hrun:E3 ([],[]) cs=some (o,sg))
  (hfin:(sg=[]/\o=ns)∨(2<=sg.length/\I1 (J1 sg)<=4294967295/\o++R7 sg=ns)) (hin:∀ n∈ns,0<=n/\n < 256) (h:∀ r,r=ns->k (.bytes r) led):C9 c (.ref 102) [.bytes (cs++[126,62])] m led k:=by
 refine' C4 [("data",.bytes (cs++[126,62]))] H ?_
 intro c1 O hs hw hg
 refine' W6 ?_
 refine' m8 O hs ?_
 refine' C3 (ns:=[]) rfl (by decide) (λ D=>?_)
 refine' C3 (ns:=[]) rfl (by decide) (λ D=>?_)
 refine' E4 (aB rfl) (λ D=>?_)
 refine' W4 (by tm_at "b") rfl (i5 hs (by kernel_rfl)) ?_
 refine' F5 ?_
 rename_i O1 S1
 refine' T1 ?_ (hs:=λ V=>rfl)
 refine' A0 O hs ?_
 refine' Dq (λ E J oe oi hE hJ=>?_)
 refine' o7 [] (λ s:(List Int×List Int)×aJ×Int=>[("octets",.ref O1),("signs",.ref s.2.1),("last",.int s.2.2),("data",.bytes (cs++[126,62]))]) (λ s=>(O1,.ints s.1.1)::(s.2.1,.ints s.1.2)::led)
  (λ i s=>i<=cs.length/\E3 ([],[]) (cs.take i)=some s.1/\s.1.2.length < 5/\(∀ d∈s.1.2,0<=d)/\s.1.1.length<=4*i) (λ s=>s.1=(o,sg)/\sg.length < 5/\(∀ d∈sg,0<=d)/\o.length<=4*cs.length) (([],[]),S1,-1) O (E6 hs rfl rfl) (E6 hs rfl rfl)
  (.head _) (.head _) hE hJ ⟨rfl,rfl,rfl,rfl,trivial⟩ (by tm_at "d") ⟨bG _,rfl,by simp,by simp,bG _⟩ ?_ (λ s hs=>by have:=hs.1; simp at this; lia) ?_
 ·(intro i n; refine Bw λ zz244 S la=>?_; revert zz244; refine Eh λ yo ys=>?_; intro rw K hK hc h0 h1; refine Zx λ hi hy hl5 hd0 hol=>?_)
  dsimp only at hy hl5 hd0 hol ⊢
  rcases jB i cs.length with hlt | hge
  ·rw[cD hlt]at hc
   obtain⟨⟨xo,xs⟩,hst,hx⟩:=DZ hrun hy hc
   obtain⟨hx5,hxd,hxl⟩:=MD hst hl5 hd0
   dsimp only at hx5 hxd hxl
   unfold H7 at hst
   dsimp only at hst
   split at hst
   ·rename_i hcd
    split at hst
    ·rename_i hnil
     subst hcd hnil
     cases hst
     have hw2:r7 122=false:=by decide
     have hnn:([]:List Int)=[]:=rfl
     refine' B7 ?_
     refine' A1 O hs ?_
     refine' m7 (O.le (by tm_at "a")) ?_
     refine' M0 (by assumption) ?_
     refine' C6 O hs ?_
     refine' F7 (by tm_at "c") ?_
     refine' G1 ?_
     refine' C6 O hs ?_
     refine' L8 (by tm_at "c") ?_
     refine' C3 (ns:=[]) rfl (by decide) (λ D=>?_)
     refine' EB O (by tm_at "b") (by tm_at "b") ?_
     refine' P9 (by assumption) ?_
     refine' J5 ?_
     refine' D8 ?_
     refine' V0 (by tm_at "b") ?_
     refine' C3 (ns:=[_,_,_,_]) rfl (aB rfl) (λ D=>?_)
     refine' v8 (by tm_at "e") (by tm_at "b") (by tm_at "c") ?_
     (refine' hK _ _ _ ?_; exact go ((yo++[0,0,0,0],[]),S,la) ⟨hlt,hx,hx5,hxd,by dsimp only; lia⟩ ⟨rfl,rfl,rfl,rfl,trivial⟩ (by tm_at "d"))
    ·cases hst
   ·split at hst
    ·rename_i hn2 hr
     have hw2:=Gi hr.1
     split at hst
     ·rename_i h4
      split at hst
      ·rename_i hm
       cases hst
       have hp:∀ d∈ys++[n - 33],0<=d:=λ d hx=>by
        rcases cM.mp hx with hx | hx
        ·exact hd0 d hx
        ·rw[aL.mp hx]; lia
       have hg4:=Z6 (ys++[n - 33])
       refine' B7 ?_
       refine' A1 O hs ?_
       refine' m7 (O.le (by tm_at "a")) ?_
       refine' M0 (by assumption) ?_
       refine' C6 O hs ?_
       refine' F7 (by tm_at "c") ?_
       refine' G1 ?_
       refine' C6 O hs ?_
       refine' F7 (by tm_at "c") ?_
       refine' G1 ?_
       refine' C6 O hs ?_
       refine' P9 (by tm_at "c") ?_
       refine' C6 O hs ?_
       refine' X3 ?_
       refine' P9 (by tm_at "c") ?_
       refine' K1 (by tm_at "b") ?_
       refine' C6 O hs ?_
       refine' L7 (by tm_at "e") (by tm_at "c") ?_
       refine' A6 ?_
       refine' B1 hs ?_
       refine' B7 ?_
       refine' A0 O hs ?_
       refine' M2 (by tm_at "b") (by tm_at "c") ?_
       refine' L8 (by tm_at "c") ?_
       refine' D8 ?_
       refine' V0 (by tm_at "b") ?_
       refine' A1 O hs ?_
       refine' Do (O.le (by tm_at "a")) (by tm_at "b") (by tm_at "c") (by tm_at "c") (m5 hp) hm (λ D os hos=>?_)
       refine' v8 (by tm_at "e") (by tm_at "b") (by rw[hos]; lia) ?_
       refine' A6 ?_
       refine' C3 (ns:=[]) rfl (by decide) (λ D=>?_)
       refine' B1 hs ?_
       (refine' hK _ _ _ ?_; exact go ((yo++os,[]),_,_) ⟨hlt,by rw[hos]; exact hx,hx5,hxd,by dsimp only; rw[hos]; lia⟩ ⟨rfl,rfl,rfl,rfl,trivial⟩ (by tm_at "d"))
      ·cases hst
     ·rename_i h4
      cases hst
      refine' B7 ?_
      refine' A1 O hs ?_
      refine' m7 (O.le (by tm_at "a")) ?_
      refine' M0 (by assumption) ?_
      refine' C6 O hs ?_
      refine' F7 (by tm_at "c") ?_
      refine' G1 ?_
      refine' C6 O hs ?_
      refine' F7 (by tm_at "c") ?_
      refine' G1 ?_
      refine' C6 O hs ?_
      refine' P9 (by tm_at "c") ?_
      refine' C6 O hs ?_
      refine' X3 ?_
      refine' P9 (by tm_at "c") ?_
      refine' K1 (by tm_at "b") ?_
      refine' C6 O hs ?_
      refine' L7 (by tm_at "e") (by tm_at "c") ?_
      refine' A6 ?_
      refine' B1 hs ?_
      refine' B7 ?_
      refine' A0 O hs ?_
      refine' M2 (by tm_at "b") (by tm_at "c") ?_
      refine' F7 (by tm_at "c") ?_
      (refine' hK _ _ _ ?_; exact go ((yo,ys++[n - 33]),S,_) ⟨hlt,hx,hx5,hxd,by dsimp only; lia⟩ ⟨rfl,rfl,rfl,rfl,trivial⟩ (by tm_at "d"))
    ·cases hst
  ·obtain rfl:i=cs.length:=by lia
   rw[cF (aR _),iA]at hc
   have hc:some (126:Int)=some n:=hc
   cases hc
   rw[bD,hrun]at hy
   cases hy
   have hw2:r7 126=false:=by decide
   have hl:(cs++[(126:Int),62]).length=cs.length+2:=by rw[aI]; rfl
   have he:(cs++[(126:Int),62]).getD ((cs.length:Int)+1).toNat 0=62:=by
    rw[show((cs.length:Int)+1).toNat=cs.length+1 from rfl,aK,cF (by tm_at "a"),cA]; rfl
   refine' B7 ?_
   refine' A1 O hs ?_
   refine' m7 (O.le (by tm_at "a")) ?_
   refine' M0 (by assumption) ?_
   refine' C6 O hs ?_
   refine' L8 (by tm_at "c") ?_
   refine' A1 O hs ?_
   refine' NW (O.le (by tm_at "a")) (by tm_at "a") (by tm_at "a") (by tm_at "a") (by assumption) ?_
   refine' J5 ?_
   refine' J5 ?_
   (refine' hK _ _ _ ?_; exact go ((o,sg),S,la) ⟨rfl,hl5,hd0,hol⟩ ⟨rfl,rfl,rfl,rfl,trivial⟩ (by tm_at "d"))
 ·(refine Bw λ zz250 S la=>?_; revert zz250; refine Eh λ yo ys=>?_; refine Wq λ he hl5 hd0 hol=>?_)
  cases he
  dsimp only
  rcases hfin with ⟨h1,h2⟩ | ⟨h1,h2,h3⟩
  ·subst h1 h2
   have hnn:([]:List Int)=[]:=rfl
   refine' A0 O hs ?_
   refine' M2 (by tm_at "b") (by tm_at "c") ?_
   refine' F7 (by tm_at "c") ?_
   refine' C3 (ns:=[]) rfl (by decide) (λ D=>?_)
   refine' II O (by tm_at "b") (by tm_at "b") ?_
   refine' X3 ?_
   refine' P9 (by assumption) ?_
   refine' A0 O hs ?_
   refine' H6 O (by tm_at "b") hin (by tm_at "c") ?_
   exact A5 (by tm_at "d") (h _ rfl)
  ·have hg4:=Z6 sg
   have hne:¬ sg=[]:=λ e=>by rw[e]at h1; simp at h1
   refine' A0 O hs ?_
   refine' M2 (by tm_at "b") (by tm_at "c") ?_
   refine' F7 (by tm_at "c") ?_
   refine' C3 (ns:=[]) rfl (by decide) (λ D=>?_)
   refine' II O (by tm_at "b") (by tm_at "b") ?_
   refine' X3 ?_
   refine' S7 (by assumption) ?_
   refine' D8 ?_
   refine' V0 (by tm_at "b") ?_
   refine' A1 O hs ?_
   refine' Do (O.le (by tm_at "a")) (by tm_at "b") h1 (by tm_at "a") (m5 hd0) h2 (λ D os hos=>?_)
   refine' v8 (by tm_at "e") (by tm_at "b") (by rw[hos]; lia) ?_
   refine' A0 O hs ?_
   refine' H6 O (by tm_at "b") (by rw[hos,h3]; exact hin) (by rw[hos]; tm_at "c") ?_
   exact A5 (by tm_at "d") (h _ (by rw[hos,h3]))
end
end
section
section
variable{c:Cx}{m:Lm}{led rest:La}{k:AV->La->Prop}
theorem q8{l:List Int}{x:Int}{i:Nat}(h:l.length=i):(l++[x]).length=i+1:=by rw[aI,h]; rfl
set_option tactic.hygienic true in
theorem Ew(H:Ok c 2)(h:∀ T,k (.ref T) led):C9 c (.ref 290) [] m led k:=by
 refine' C4 [] H ?_
 intro c1 O hs hw hg
 refine' A6 ?_
 refine' C3 (ns:=[]) rfl (by decide) (λ D=>?_)
 refine' B1 hs ?_
 refine' A6 ?_
 refine' C3 (ns:=[]) rfl (by decide) (λ D=>?_)
 refine' B1 hs ?_
 refine' A6 ?_
 refine' B1 hs ?_
 refine' F5 ?_
 rename_i B
 rename aJ=>E
 refine' G6 [] O ?_ (hs:=λ V=>rfl)
 refine' A0 O hs ?_
 refine' H9 (λ D=>?_)
 refine' E8 [] (λ s:Int×List Int×List Int=>[("bases",.ref B),("extras",.ref E),("base",.int s.1)]) (λ s=>(B,.ints s.2.1)::(E,.ints s.2.2)::led) (λ i s=>s.2.1.length=i/\s.2.2.length=i) (λ s=>s.2.1.length=28/\s.2.2.length=28) (3,[],[]) 28 O (E6 hs rfl rfl) (.head _) rfl rfl ⟨rfl,rfl,rfl,trivial⟩ (by tm_at "d") ⟨rfl,rfl⟩ ?_ (λ s hs=>hs) ?_
 ·(intro i; refine Bw λ b bs es=>?_; intro rw K hK hi; refine EQ λ h1 h2=>?_)
  dsimp only at h1 h2
  refine' A6 ?_
  refine' A0 O hs ?_
  refine' M4 (by tm_at "a") ?_
  refine' CA O ?_
  refine' B1 hs ?_
  refine' D8 ?_
  refine' K1 (by tm_at "b") ?_
  refine' L7 (by tm_at "e") (by tm_at "c") ?_
  refine' D8 ?_
  refine' K1 (by tm_at "b") ?_
  refine' L7 (by tm_at "e") (by tm_at "c") ?_
  refine' HU ?_
  refine' IZ rfl ?_
  refine' a9 (by tm_at "a") (by tm_at "a") (by tm_at "a") ?_
  refine' B1 hs ?_
  (refine' hK _ _ _ ?_; refine' go (_,bs++[b],es++[_]) ?zz ⟨rfl,rfl,rfl,trivial⟩ (.cons (.tail (.head _)) (.cons (.head _) .refl)); (case zz=>exact⟨q8 h1,q8 h2⟩))
 ·(refine Bw λ b bs es=>?_; refine EQ λ h1 h2=>?_)
  dsimp only at h1 h2
  refine' C3 (ns:=[_]) rfl (by simp) (λ D=>?_)
  refine' I4 (by tm_at "b") (by tm_at "b") (by tm_at "c") (λ D=>?_)
  refine' C3 (ns:=[_]) rfl (by simp) (λ D=>?_)
  refine' I4 (by tm_at "b") (by tm_at "b") (by tm_at "c") (λ D=>?_)
  refine' E4 (aB rfl) (λ D=>?_)
  exact A5 (by tm_at "d") (h _)
set_option tactic.hygienic true in
theorem Dr(H:Ok c 2)(h:∀ T,k (.ref T) led):C9 c (.ref 297) [] m led k:=by
 refine' C4 [] H ?_
 intro c1 O hs hw hg
 refine' A6 ?_
 refine' C3 (ns:=[]) rfl (by decide) (λ D=>?_)
 refine' B1 hs ?_
 refine' A6 ?_
 refine' C3 (ns:=[]) rfl (by decide) (λ D=>?_)
 refine' B1 hs ?_
 refine' A6 ?_
 refine' B1 hs ?_
 refine' F5 ?_
 rename_i B
 rename aJ=>E
 refine' G6 [] O ?_ (hs:=λ V=>rfl)
 refine' A0 O hs ?_
 refine' H9 (λ D=>?_)
 refine' E8 [] (λ s:Int×List Int×List Int=>[("bases",.ref B),("extras",.ref E),("base",.int s.1)]) (λ s=>(B,.ints s.2.1)::(E,.ints s.2.2)::led) (λ i s=>s.2.1.length=i/\s.2.2.length=i) (λ s=>s.2.1.length=30/\s.2.2.length=30) (1,[],[]) 30 O (E6 hs rfl rfl) (.head _) rfl rfl ⟨rfl,rfl,rfl,trivial⟩ (by tm_at "d") ⟨rfl,rfl⟩ ?_ (λ s hs=>hs) ?_
 ·(intro i; refine Bw λ b bs es=>?_; intro rw K hK hi; refine EQ λ h1 h2=>?_)
  dsimp only at h1 h2
  refine' A6 ?_
  refine' A0 O hs ?_
  refine' M4 (by tm_at "a") ?_
  refine' CA O ?_
  refine' B1 hs ?_
  refine' D8 ?_
  refine' K1 (by tm_at "b") ?_
  refine' L7 (by tm_at "e") (by tm_at "c") ?_
  refine' D8 ?_
  refine' K1 (by tm_at "b") ?_
  refine' L7 (by tm_at "e") (by tm_at "c") ?_
  refine' HU ?_
  refine' IZ rfl ?_
  refine' a9 (by tm_at "a") (by tm_at "a") (by tm_at "a") ?_
  refine' B1 hs ?_
  (refine' hK _ _ _ ?_; refine' go (_,bs++[b],es++[_]) ?zz ⟨rfl,rfl,rfl,trivial⟩ (.cons (.tail (.head _)) (.cons (.head _) .refl)); (case zz=>exact⟨q8 h1,q8 h2⟩))
 ·(refine Bw λ b bs es=>?_; refine EQ λ h1 h2=>?_)
  dsimp only at h1 h2
  refine' E4 (aB rfl) (λ D=>?_)
  exact A5 (by tm_at "d") (h _)
end
end
section
section
variable{c:Cx}{m:Lm}{led rest:La}{k:AV->La->Prop}
noncomputable def J9(k:Int):Int:=if k < 10 then 48+k else 87+k
noncomputable def P1(ns:List Int):List Int:=ns.flatMap λ n=>[n / 16,n % 16]
theorem CD{ns:List Int}(hn:∀ n∈ns,0<=n/\n < 256):∀ q∈P1 ns,0<=q/\q < 16:=by
 intro q hq
 obtain⟨n,h,hm⟩:=List.mem_flatMap.mp hq
 have:=hn n h
 simp only[bE,cZ,or_false]at hm
 exact hm.elim (λ e=>e▸⟨kQ this.1 (by decide),kX (by decide) this.2⟩) λ e=>e▸⟨bX _ (by decide),bR _ (by decide)⟩
theorem V4(ns:List Int):(P1 ns).length=2*ns.length:=by
 unfold P1
 induction ns with
 | nil=>rfl
 | cons a r ih=>rw[fB,aI,ih]; exact eK 2 _
theorem OB{ns:List Int}{i:Nat}{n:Int}(hn:∀ n∈ns,0<=n/\n < 256)(h:((P1 ns).map J9++[62])[i]? =some n):
  (i=(P1 ns).length/\n=62)∨(∃ q,(P1 ns)[i]? =some q/\i < (P1 ns).length/\0<=q/\n≠62/\Bg n=q):=by
 by_cases hi:i < (P1 ns).length
 ·right
  rw[cD (by simpa using hi),cJ]at h
  obtain⟨q,hq,rfl⟩:=cR.mp h
  have:=CD hn q (bT hq)
  obtain⟨k,rfl⟩:=cG this.1
  have g:=(by decide:∀ k:Nat,k < 16->J9 k≠62/\Bg (J9 k)=k) k (kM.mp this.2)
  exact⟨k,hq,hi,this.1,g.1,g.2⟩
 ·left
  rw[cF (by simpa using hi)]at h
  rw[aQ]at h
  cases hj:i - (P1 ns).length with
  | zero=>rw[hj]at h; simp at h; exact⟨by lia,h.symm⟩
  | succ j=>rw[hj]at h; simp at h
theorem Jc{ns:List Int}(hn:∀ n∈ns,0<=n/\n < 256){i:Nat}(hi:i < ns.length):16*(P1 ns).getD (2*i) 0+(P1 ns).getD (2*i+1) 0=ns[i]:=by
 induction ns generalizing i with
 | nil=>contradiction
 | cons a r ih=>
  have e:P1 (a::r)=a / 16::a % 16::P1 r:=rfl
  rw[e]
  induction i with
  | zero=>have:=hn a jG; show 16*(a / 16)+a % 16=a; lia
  | succ i=>exact ih (λ n h=>hn n (eA _ h)) (by simpa using hi)
theorem NU{ns:List Int}(H:Ok c 2)(hz:ns.length<=2000)(hn:∀ n∈ns,0<=n/\n < 256)(h:∀ r,r=ns->k (.bytes r) led):C9 c (.ref 81) [.bytes ((P1 ns).map J9++[62])] m led k:=by
 refine' Q3 [("data",.bytes ((P1 ns).map J9++[62]))] [("data",.bytes ((P1 ns).map J9++[62]))] [("worths",none)] H ?_
 intro c1 O hs hw hg W hc
 refine' M8 ?_
 refine' C3 (ns:=[]) rfl (by decide) (λ D=>?_)
 refine' I2 O hs rfl hc rfl (by tm_at "e") ?_
 refine' F5 ?_
 rename aJ=>S
 have hnl:=V4 ns
 refine' T1 ?_ (hs:=λ V=>rfl)
 refine' A0 O hs ?_
 refine' Dq (λ E J oe oi hE hJ=>?_)
 refine' o7 ["worths"] (λ V:List Int=>[("data",.bytes ((P1 ns).map J9++[62]))]) (λ s=>(W,.cell (some (.ref S)))::(S,.ints s)::led) (λ i s=>s=(P1 ns).take i) (λ s=>s=P1 ns) [] O (E6 hs rfl rfl) (E6 hs rfl rfl) (.head _) (.head _) hE hJ ⟨rfl,trivial⟩ (by tm_at "d") rfl ?_ (λ s hs=>by rw[hs,bN (by simp)]) ?_
 ·rintro i n s rw K hK hc' h0 h1 hv
  have hsl:s.length<=4000:=by rw[hv]; exact aS (dL ..) (by tm_at "a")
  rcases OB hn hc' with ⟨rfl,rfl⟩ | ⟨q,hq,hi,hq0,hne,hfq⟩
  ·refine' B7 ?_
   refine' C6 O hs ?_
   refine' L8 (by tm_at "c") ?_
   (refine' hK _ _ _ ?_; exact go s (by rw[hv,bD]) ⟨rfl,trivial⟩ (by tm_at "d"))
  ·refine' B7 ?_
   refine' C6 O hs ?_
   refine' F7 (by tm_at "c") ?_
   refine' A1 O hs ?_
   (refine' GN (O.le (by tm_at "a")) (λ z hz=>?_); obtain rfl:z=q:=hz.trans hfq)
   refine' B1 hs ?_
   refine' B7 ?_
   refine' P9 (by tm_at "c") ?_
   refine' D8 ?_
   refine' A3 O hs hc ?_
   refine' K1 (by tm_at "b") ?_
   refine' L7 (by tm_at "e") (by tm_at "c") ?_
   (refine' hK _ _ _ ?_; exact go (s++[z]) (by rw[hv,aV,hq]; rfl) ⟨rfl,trivial⟩ (by tm_at "d"))
 ·rintro s rfl
  have hrs:=P2 (a:=0) (b:=((P1 ns).length:Int)) (c:=2) (by tm_at "a") (by tm_at "a") (by tm_at "a") (by tm_at "a")
  refine' A0 O hs ?_
  refine' A3 O hs hc ?_
  refine' M2 (by tm_at "b") (by tm_at "c") ?_
  refine' G5 (by tm_at "a") ?_
  refine' F7 (by tm_at "c") ?_
  refine' A0 O hs ?_
  refine' K3 ?_ ((H4 hc).trans rfl) rfl (by kernel_rfl)
  refine' A0 O hs ?_
  refine' A0 O hs ?_
  refine' A3 O hs hc ?_
  refine' M2 (by tm_at "b") (by tm_at "c") ?_
  refine' T5 (by tm_at "a") (λ D=>?_)
  refine' JF (P7 ns.length O (.head _) hrs.1 ?_) (λ V:Unit=>(W,.cell (some (.ref S)))::(S,.ints (P1 ns))::led) (λ i V ys=>ys=ns.take i) () O hs (by tm_at "d") rfl rfl rfl rfl (by kernel_rfl) (by tm_at "a") ?_ ?_
  ·by_cases h0:ns.length=0
   ·rw[hnl,h0]; rfl
   ·exact K9 (by tm_at "a") (by tm_at "a") (by tm_at "a") (by tm_at "a")
  ·clear O hs hc
   rintro c2 O hs hw2 hc i a _ ys rw hi rfl hys hyl
   refine' A3 O hs hc ?_
   refine' M3 (by tm_at "b") (by tm_at "a") (by tm_at "c") (by tm_at "c") rfl ?_
   refine' U9 (by tm_at "a") ?_
   refine' A3 O hs hc ?_
   refine' M3 (by tm_at "b") (by tm_at "a") (by tm_at "c") (by tm_at "c") rfl ?_
   exact Zr () (by rw[hys,aV,aM hi,show(0+(i:Int)*2).toNat=2*i by tm_at "a",show(0+(i:Int)*2+1).toNat=2*i+1 by tm_at "a",Jc hn hi]; rfl) (by tm_at "d")
  ·rintro _ ys D hys
   rw[bD]at hys
   subst hys
   refine' H6 O (by tm_at "b") hn (by tm_at "a") ?_
   exact A5 (by tm_at "d") (h _ rfl)
end
end
section
section
variable{c:Cx}{m:Lm}{led rest:La}{k:AV->La->Prop}
noncomputable def Y5(e:Int):AO:= .dict [("bits",.int 8),("widest",.int 12),("early",.int e),("clear",.int 256),("end",.int 257),("first",.int 258),("full",.int 4096)]
noncomputable def AC(n:Int):AO:= .dict [("colors",.int 1),("bits",.int 8),("columns",.int n),("row_octets",.int n),("pixel_octets",.int 1)]
theorem GQ{ks:List Int}{a:Int}(H:Ok c 2)(h:∀ X D,k (.ref X) ((X,.inst 169 D)::(D,O0 ks a 0 0)::led)):C9 c (.ref 169) [.bytes ks,.int a] m led k:=by
 refine' Y9 (fI:=131) H ?n1 ?n2 ?n3 ?n4 (λ c' X D O V=>?_)
 tm_at "i"
 refine' T9 [("at",.int a),("data",.bytes ks),("self",.ref X)] O ?ho ?hcd ?hb ?_ (hnm:=?h1) (hcell:=?h2) (hco:=?h3) (hgen:=?h4) (hk:=?h5)
 (case ho | hcd=>k_is); (case hb=>tm_at "h"); (case h1=>kernel_rfl); (case h2=>decide); (case h3 | h4 | h5=>rfl)
 intro c1 O hs hw hg
 refine' B9 ?_
 refine' A8 O ?_
 refine' B9 ?_
 refine' A8 O ?_
 refine' B9 ?_
 refine' A8 O ?_
 refine' B9 ?_
 refine' A8 O ?_
 exact I5 (by tm_at "d") ⟨rfl,h _ _⟩
theorem Ey{ks:List Int}(H:Ok c 2)(h:∀ X D,k (.ref X) ((X,.inst 211 D)::(D,O0 ks 0 0 0)::led)):C9 c (.ref 211) [.bytes ks] m led k:=by
 refine' Y9 (fI:=187) H ?n1 ?n2 ?n3 ?n4 (λ c' X D O V=>?_)
 tm_at "i"
 refine' T9 [("data",.bytes ks),("self",.ref X)] O ?ho ?hcd ?hb ?_ (hnm:=?h1) (hcell:=?h2) (hco:=?h3) (hgen:=?h4) (hk:=?h5)
 (case ho | hcd=>k_is); (case hb=>tm_at "h"); (case h1=>kernel_rfl); (case h2=>decide); (case h3 | h4 | h5=>rfl)
 intro c1 O hs hw hg
 refine' B9 ?_
 refine' A8 O ?_
 refine' B9 ?_
 refine' A8 O ?_
 refine' B9 ?_
 refine' A8 O ?_
 refine' B9 ?_
 refine' A8 O ?_
 exact I5 (by tm_at "d") ⟨rfl,h _ _⟩
theorem ID{e:Int}(H:Ok c 2)(h:∀ X D,k (.ref X) ((X,.inst 435 D)::(D,Y5 e)::led)):C9 c (.ref 435) [.int 8,.int 12,.int e] m led k:=by
 refine' Y9 (fI:=425) H ?n1 ?n2 ?n3 ?n4 (λ c' X D O V=>?_)
 tm_at "i"
 refine' T9 [("early",.int e),("widest",.int 12),("bits",.int 8),("self",.ref X)] O ?ho ?hcd ?hb ?_ (hnm:=?h1) (hcell:=?h2) (hco:=?h3) (hgen:=?h4) (hk:=?h5)
 (case ho | hcd=>k_is); (case hb=>tm_at "h"); (case h1=>kernel_rfl); (case h2=>decide); (case h3 | h4 | h5=>rfl)
 intro c1 O hs hw hg
 refine' B9 ?_
 refine' A8 O ?_
 refine' B9 ?_
 refine' A8 O ?_
 refine' B9 ?_
 refine' A8 O ?_
 refine' B9 ?_
 refine' Cv (v:=256) (by tm_at "a") (by tm_at "a") (by tm_at "a") rfl ?_
 refine' A8 O ?_
 refine' B9 ?_
 refine' A2 O ?_
 refine' A8 O ?_
 refine' B9 ?_
 refine' A2 O ?_
 refine' A8 O ?_
 refine' B9 ?_
 refine' Cv (v:=4096) (by tm_at "a") (by tm_at "a") (by tm_at "a") rfl ?_
 refine' A8 O ?_
 exact I5 (by tm_at "d") ⟨rfl,h _ _⟩
theorem IF{n:Int}(H:Ok c 2)(h:∀ X D,k (.ref X) ((X,.inst 627 D)::(D,AC n)::led)):C9 c (.ref 627) [.int 1,.int 8,.int n] m led k:=by
 refine' Y9 (fI:=624) H ?n1 ?n2 ?n3 ?n4 (λ c' X D O V=>?_)
 tm_at "i"
 refine' T9 [("columns",.int n),("bits",.int 8),("colors",.int 1),("self",.ref X)] O ?ho ?hcd ?hb ?_ (hnm:=?h1) (hcell:=?h2) (hco:=?h3) (hgen:=?h4) (hk:=?h5)
 (case ho | hcd=>k_is); (case hb=>tm_at "h"); (case h1=>kernel_rfl); (case h2=>decide); (case h3 | h4 | h5=>rfl)
 intro c1 O hs hw hg
 refine' B9 ?_
 refine' A8 O ?_
 refine' B9 ?_
 refine' A8 O ?_
 refine' B9 ?_
 refine' A8 O ?_
 refine' B9 ?_
 refine' Z0 (by tm_at "a") ?_
 refine' U9 (by tm_at "a") ?_
 refine' CC (v:=n) (by tm_at "a") (by tm_at "a") ?_
 refine' A8 O ?_
 refine' B9 ?_
 refine' Z0 (by tm_at "a") ?_
 refine' CC (v:=1) (by tm_at "a") rfl ?_
 refine' A8 O ?_
 exact I5 (by tm_at "d") ⟨rfl,h _ _⟩
theorem Cz{x:Str}(H:Ok c 2)(h:∀ X D,k (.ref X) ((X,.inst 520 D)::(D,.dict [("text",.str x)])::led)):C9 c (.ref 520) [.str x] m led k:=by
 refine' Y9 (fI:=517) H ?n1 ?n2 ?n3 ?n4 (λ c' X D O V=>?_)
 tm_at "i"
 refine' T9 [("text",.str x),("self",.ref X)] O ?ho ?hcd ?hb ?_ (hnm:=?h1) (hcell:=?h2) (hco:=?h3) (hgen:=?h4) (hk:=?h5)
 (case ho | hcd=>k_is); (case hb=>tm_at "h"); (case h1=>kernel_rfl); (case h2=>decide); (case h3 | h4 | h5=>rfl)
 intro c1 O hs hw hg
 refine' B9 ?_
 refine' A8 O ?_
 exact I5 (by tm_at "d") ⟨rfl,h _ _⟩
theorem v4{hd:aJ}{ks:List Int}(H:Ok c 2)(h:∀ X D,k (.ref X) ((X,.inst 541 D)::(D,.dict [("head",.ref hd),("octets",.bytes ks)])::led)):C9 c (.ref 541) [.ref hd,.bytes ks] m led k:=by
 refine' Y9 (fI:=538) H ?n1 ?n2 ?n3 ?n4 (λ c' X D O V=>?_)
 tm_at "i"
 refine' T9 [("octets",.bytes ks),("head",.ref hd),("self",.ref X)] O ?ho ?hcd ?hb ?_ (hnm:=?h1) (hcell:=?h2) (hco:=?h3) (hgen:=?h4) (hk:=?h5)
 (case ho | hcd=>k_is); (case hb=>tm_at "h"); (case h1=>kernel_rfl); (case h2=>decide); (case h3 | h4 | h5=>rfl)
 intro c1 O hs hw hg
 refine' B9 ?_
 refine' A8 O ?_
 refine' B9 ?_
 refine' A8 O ?_
 exact I5 (by tm_at "d") ⟨rfl,h _ _⟩
theorem IG{n g:Int}(H:Ok c 2)(h:∀ X D,k (.ref X) ((X,.inst 569 D)::(D,.dict [("number",.int n),("generation",.int g)])::led)):C9 c (.ref 569) [.int n,.int g] m led k:=by
 refine' Y9 (fI:=559) H ?n1 ?n2 ?n3 ?n4 (λ c' X D O V=>?_)
 tm_at "i"
 refine' T9 [("generation",.int g),("number",.int n),("self",.ref X)] O ?ho ?hcd ?hb ?_ (hnm:=?h1) (hcell:=?h2) (hco:=?h3) (hgen:=?h4) (hk:=?h5)
 (case ho | hcd=>k_is); (case hb=>tm_at "h"); (case h1=>kernel_rfl); (case h2=>decide); (case h3 | h4 | h5=>rfl)
 intro c1 O hs hw hg
 refine' B9 ?_
 refine' A8 O ?_
 refine' B9 ?_
 refine' A8 O ?_
 exact I5 (by tm_at "d") ⟨rfl,h _ _⟩
theorem GG{t u:aJ}(H:Ok c 2)(h:∀ X D,k (.ref X) ((X,.inst 605 D)::(D,.dict [("table",.ref t),("trailer",.ref u)])::led)):C9 c (.ref 605) [.ref t,.ref u] m led k:=by
 refine' Y9 (fI:=588) H ?n1 ?n2 ?n3 ?n4 (λ c' X D O V=>?_)
 tm_at "i"
 refine' T9 [("trailer",.ref u),("table",.ref t),("self",.ref X)] O ?ho ?hcd ?hb ?_ (hnm:=?h1) (hcell:=?h2) (hco:=?h3) (hgen:=?h4) (hk:=?h5)
 (case ho | hcd=>k_is); (case hb=>tm_at "h"); (case h1=>kernel_rfl); (case h2=>decide); (case h3 | h4 | h5=>rfl)
 intro c1 O hs hw hg
 refine' B9 ?_
 refine' L6 rfl ?_
 refine' G1 ?_
 refine' A8 O ?_
 refine' B9 ?_
 refine' L6 rfl ?_
 refine' G1 ?_
 refine' A8 O ?_
 exact I5 (by tm_at "d") ⟨rfl,h _ _⟩
end
end
section
section
variable{c:Cx}{m:Lm}{led rest:La}{k:AV->La->Prop}
noncomputable def u6(b:List Int):Int:=b.foldl (λ a x=>2*a+x) 0
theorem Gj(b:List Int):∀ a:Int,b.foldl (λ a x=>2*a+x) a=a*2 ^ b.length+u6 b:=by
 induction b with
 | nil=>intro a; show a=a*2 ^ 0+0; rw[Int.pow_zero]; lia
 | cons x r ih=>
  intro a
  show r.foldl _ (2*a+x)=a*2 ^ (r.length+1)+r.foldl _ (2*0+x)
  rw[ih,ih (2*0+x),Int.pow_succ,lI,lI]
  have:2*a*2 ^ r.length=a*(2 ^ r.length*2):=by rw[Int.mul_comm (2 ^ r.length) 2,←Int.mul_assoc,Int.mul_comm a 2]
  lia
theorem y6(a b:List Int):u6 (a++b)=u6 a*2 ^ b.length+u6 b:=by
 unfold u6; rw[List.foldl_append]; exact Gj b _
theorem Ek{b:List Int}(h:∀ x∈b,x=0∨x=1):0<=u6 b/\u6 b < 2 ^ b.length:=by
 induction b with
 | nil=>exact⟨iO _,by decide⟩
 | cons x r ih=>
  have h1:=ih λ y hy=>h y (.tail _ hy)
  have h2:=y6 [x] r
  have h3:u6 [x]=x:=cW x
  rw[h3]at h2
  have h4:(2:Int) ^ (x::r).length=2 ^ r.length+2 ^ r.length:=by rw[bW,Int.pow_succ]; exact(Int.mul_add _ 1 1).trans (by rw[jY])
  have h5:u6 (x::r)=x*2 ^ r.length+u6 r:=h2
  have hP:(0:Int)<=2 ^ r.length:=jE (lF (by decide))
  rw[h5,h4]
  rcases h x (.head _)with rfl | rfl
  ·rw[Int.zero_mul,cW]; exact⟨h1.1,Int.lt_of_lt_of_le h1.2 (Int.le_add_of_nonneg_left hP)⟩
  ·rw[jX]; exact⟨Int.add_nonneg hP h1.1,Int.add_lt_add_left h1.2 _⟩
noncomputable def Eo(B:List Int)(p q:Nat):Int:=u6 ((B.drop p).take (q - p))
structure Hb(B ks:List Int):Prop where
 len:B.length=8*ks.length
 bit:∀ b∈B,b=0∨b=1
 oct:∀ j,j < ks.length->ks.getD j 0=Eo B (8*j) (8*j+8)
theorem Fk{B:List Int}{p q:Nat}(h:q<=B.length):((B.drop p).take (q - p)).length=q - p:=by
 rw[bK,eN]; exact dH (Nat.sub_le_sub_right h p)
theorem Fm{B:List Int}{p q r:Nat}(h1:p<=q)(h2:q<=r)(h3:r<=B.length):Eo B p r=Eo B p q*2 ^ (r - q)+Eo B q r:=by
 unfold Eo
 have e:(B.drop p).take (r - p)=(B.drop p).take (q - p)++(B.drop q).take (r - q):=by
  rw[←Nat.sub_add_sub_cancel h2 h1,eK (r - q),List.take_add,lA,Nat.add_sub_cancel' h1]
 rw[e,y6,Fk h3]
theorem X5{B:List Int}(hB:∀ b∈B,b=0∨b=1){p q:Nat}(h:q<=B.length):0<=Eo B p q/\Eo B p q < 2 ^ (q - p):=by
 have:=Ek (b:=(B.drop p).take (q - p)) λ x hx=>hB x (fA (eZ hx))
 rw[Fk h]at this; exact this
noncomputable def HI(B ks:List Int)(p:Nat)(a l q:Int):Prop:=∃ j:Nat,a=j/\p<=8*j/\j<=ks.length/\l=Eo B p (8*j)/\q=8*(j:Int) - p
theorem IP{x dx:aJ}{ns:List Int}{a hd n:Int}(H:Ok c 2)(hx:(x,AO.inst 211 dx)∈led)(hdx:(dx,O0 ns a hd n)∈led)(hz:ns.length<=100000)(h:∀ r,r=n+8*(ns.length - a)->k (.int r) led):C9 c (.ref 194) [.ref x] m led k:=by
 refine' C4 [("self",.ref x)] H ?_
 intro c' O hs hw hg
 refine' A2 O ?_
 refine' C6 O hs ?_
 refine' A0 O hs ?_
 refine' A2 O ?_
 refine' N7 (by tm_at "c") ?_
 refine' A2 O ?_
 refine' U9 (by tm_at "a") ?_
 exact A5 (by tm_at "d") (h _ rfl)
theorem VJ{B ks:List Int}{p:Nat}{a l q:Int}(hB:Hb B ks)(h:HI B ks p a l q)(hn:a < ks.length):0<=a/\0<=l/\HI B ks p (a+1) (fN (l*2 ^ (8:Int).toNat) (ks.getD a.toNat 0)) (q+8):=by
 obtain⟨j,rfl,h1,h2,rfl,rfl⟩:=h
 have hlt:j < ks.length:=by exact Int.ofNat_le.mp hn
 have hl:=hB.len
 have b1:=X5 hB.bit (p:=p) (q:=8*j) (by tm_at "a")
 have b2:=X5 hB.bit (p:=8*j) (q:=8*j+8) (by tm_at "a")
 have hp:(2:Int) ^ (8:Int).toNat=2 ^ 8:=rfl
 refine⟨gV _,b1.1,j+1,rfl,by lia,hlt,?_,by lia⟩
 rw[eD,hB.oct j hlt,bitOr_comm,hp,Ch b2.1 (by rw[show 8*j+8 - 8*j=8 by lia]at b2; exact b2.2) b1.1]
 have:=Fm (B:=B) h1 (show 8*j<=8*j+8 by exact dC (8*j) 8) (by tm_at "a")
 rw[show 8*(j+1)=8*j+8 by exact Eq.refl (8*(j+1)),this,show 8*j+8 - 8*j=8 by lia,gG]
theorem OA{B ks:List Int}{p n:Nat}{a l q:Int}(hB:Hb B ks)(h:HI B ks p a l q)(hn:(n:Int)<=q):0<=l/\l / 2 ^ (q - n).toNat=Eo B p (p+n)/\HI B ks (p+n) a (l % 2 ^ (q - n).toNat) (q - n):=by
 obtain⟨j,rfl,h1,h2,rfl,rfl⟩:=h
 have hl:=hB.len
 have b1:=X5 hB.bit (p:=p) (q:=8*j) (by tm_at "a")
 have b2:=X5 hB.bit (p:=p+n) (q:=8*j) (by tm_at "a")
 have e:=Fm (B:=B) (p:=p) (q:=p+n) (r:=8*j) (dC p n) (by tm_at "a") (by tm_at "a")
 have t:(8*(j:Int) - (p:Int) - n).toNat=8*j - (p+n):=by rw[Int.sub_sub]; exact fV (8*j) (p+n)
 have hP:(0:Int) < 2 ^ (8*j - (p+n)):=lF (by decide)
 rw[t]
 refine⟨b1.1,?_,j,rfl,by lia,h2,?_,by lia⟩
 ·rw[e,gG,iD _ _ (jD hP),eM b2.1 b2.2,cW]
 ·rw[e,gG,Int.add_mul_emod_self_right,dR b2.1 b2.2]
theorem Jr{B ks:List Int}{p:Nat}{a l q:Int}(hB:Hb B ks)(h:HI B ks p a l q)(hq:q<=24):l.natAbs < 18446744073709551616:=by
 obtain⟨j,rfl,h1,h2,rfl,rfl⟩:=h
 have hl:=hB.len
 have b1:=X5 hB.bit (p:=p) (q:=8*j) (by tm_at "a")
 have hp:(2:Int) ^ (8*j - p)<=16777216:=Fu (j:=24) (by tm_at "a")
 lia
theorem AL{x dx:aJ}{B ks:List Int}{p n:Nat}{a l q:Int}(H:Ok c 5)(hdx:C1 (dx,O0 ks a l q) led rest)(hx:(x,AO.inst 211 dx)∈rest)(hz:ks.length<=100000)(hB:Hb B ks)(hI:HI B ks p a l q)(hq:q<=7)(hn1:n<=12)(hn:p+n<=8*ks.length)
  (h:∀ r a' l' q',r=Eo B p (p+n)->HI B ks (p+n) a' l' q'->q'<=7->k (.int r) ((dx,O0 ks a' l' q')::rest)):C9 c (.ref 201) [.ref x,.int n] m led k:=by
 refine' C9.perm hdx ?_
 refine' C4 [("count",.int n),("self",.ref x)] H ?_
 intro c1 O hs hw hg
 have hI2:=hI
 obtain⟨j,rfl,i1,i2,_,rfl⟩:=hI2
 refine' B7 ?_
 refine' C7 O ?_
 (refine' IP (O.le (by tm_at "a")) (by tm_at "b") (by tm_at "b") (by tm_at "a") (λ r hr=>?_))
 refine' S7 (by tm_at "c") ?_
 refine' X8 [] (λ s:Int×Int×Int=>[("self",.ref x),("count",.int n)]) (λ s=>(dx,O0 ks s.1 s.2.1 s.2.2)::rest)
  (λ s=>HI B ks p s.1 s.2.1 s.2.2/\s.2.2 < n+8) (λ s=>(100 - s.2.2).toNat) (λ s=>HI B ks p s.1 s.2.1 s.2.2/\s.2.2 < n+8/\n<=s.2.2) (_,_,_) O ⟨hI,by dsimp only; lia⟩ ⟨rfl,rfl,trivial⟩ (by tm_at "d") ?_ ?_
 ·(refine Bw λ za zl zc=>?_; intro K K2 hK hK2; refine EQ λ hI hc=>?_)
  dsimp only at hI hc
  by_cases hlt:zc < n
  ·have hlen:za < ks.length:=by
    obtain⟨j,rfl,i1,i2,_,rfl⟩:=hI
    lia
   obtain⟨u0,u1,u2⟩:=VJ hB hI hlen
   have u3:=Jr hB hI (show zc<=24 by lia)
   refine' A2 O ?_
   refine' P9 (by tm_at "c") ?_
   refine' B9 ?_
   refine' A2 O ?_
   refine' C6 O hs ?_
   refine' a9 (by tm_at "a") (by tm_at "a") (by tm_at "a") ?_
   refine' A2 O ?_
   refine' A2 O ?_
   refine' K8 (by tm_at "a") (by tm_at "c") (by tm_at "c") rfl (λ V V=>?_)
   refine' MR ?_
   refine' A8 O ?_
   refine' B9 ?_
   refine' A2 O ?_
   refine' A8 O ?_
   refine' B9 ?_
   refine' A2 O ?_
   refine' C6 O hs ?_
   refine' A8 O ?_
   refine' hK _ _ _ ?_; refine' Ht (za+1,_,zc+8) ⟨⟨u2,by dsimp only; lia⟩,by dsimp only; lia⟩ ⟨rfl,rfl,trivial⟩ (by tm_at "d")
  ·refine' A2 O ?_
   refine' S7 (by tm_at "c") ?_
   refine' hK2 _ ?_; refine' Ht (za,zl,zc) ⟨hI,hc,by dsimp only; exact Int.le_of_not_gt hlt⟩ ⟨rfl,rfl,trivial⟩ (by tm_at "d")
 ·(refine Bw λ za zl zc=>?_; refine Mk λ hI hc hn2=>?_)
  dsimp only at hI hc hn2
  obtain⟨v0,v1,v2⟩:=OA hB hI hn2
  dsimp only
  refine' A2 O ?_
  refine' A8 O ?_
  refine' A6 ?_
  refine' A2 O ?_
  refine' A2 O ?_
  refine' Cu (by tm_at "a") ?_
  refine' B1 hs ?_
  refine' B9 ?_
  refine' A1 O hs ?_
  refine' A2 O ?_
  refine' A2 O ?_
  refine' IM (O.le (by tm_at "a")) (by tm_at "a") (by tm_at "a") (by tm_at "a") ?_
  refine' A8 O ?_
  exact A5 (by tm_at "d") (h _ _ _ _ v1 v2 (by tm_at "a"))
end
end
section
section
variable{c:Cx}{m:Lm}{led rest:La}{k:AV->La->Prop}
theorem VT{v:Int}(h0:256<=v)(h1:v < 512):((eS v:Nat):Int)=9:=by
 obtain⟨m,rfl⟩:=cG (Int.le_trans (by decide) h0)
 have h0:256<=m:=Int.ofNat_le.mp h0
 have h1:m < 512:=kM.mp h1
 have hn:m≠0:=gF (dK (by decide) h0)
 have a:m.log2 < 9:=(Nat.log2_lt hn).mpr h1
 have b:8<=m.log2:=(Nat.le_log2 hn).mpr h0
 unfold eS
 rw[Int.natAbs_natCast,if_neg (by simp; exact hn),Nat.le_antisymm (Nat.le_of_lt_succ a) b]
 rfl
theorem GB{sz ds:aJ}{n:Int}(H:Ok c 2)(hx:(sz,AO.inst 435 ds)∈led)(hd:(ds,Y5 1)∈led)(h0:258<=n)(h1:n<=510)(h:k (.int 9) led):C9 c (.ref 432) [.ref sz,.int n] m led k:=by
 refine' C4 [("count",.int n),("self",.ref sz)] H ?_
 intro c' O hs hw hg
 refine' A6 ?_
 refine' A2 O ?_
 refine' IL ?_
 refine' LI (VT (by tm_at "a") (by tm_at "a")) ?_
 refine' B1 hs ?_
 refine' A0 O hs ?_
 refine' A2 O ?_
 refine' A0 O hs ?_
 refine' A2 O ?_
 refine' IK O ?_
 refine' CA O ?_
 exact A5 (by tm_at "d") h
noncomputable abbrev c9(sz:aJ)(n:Int)(b:Bool):AO:= .dict [("sizes",.ref sz),("count",.int n),("is_begun",.bool b)]
theorem IV{sz ds:aJ}(H:Ok c 2)(hx:(sz,AO.inst 435 ds)∈led)(hd:(ds,Y5 1)∈led)(h:∀ X D,k (.ref X) ((X,.inst 470 D)::(D,c9 sz 258 false)::led)):C9 c (.ref 470) [.ref sz] m led k:=by
 refine' Y9 (fI:=453) H ?n1 ?n2 ?n3 ?n4 (λ c' X D O V=>?_)
 tm_at "i"
 refine' T9 [("sizes",.ref sz),("self",.ref X)] O ?ho ?hcd ?hb ?_ (hnm:=?h1) (hcell:=?h2) (hco:=?h3) (hgen:=?h4) (hk:=?h5)
 (case ho | hcd=>k_is); (case hb=>tm_at "h"); (case h1=>kernel_rfl); (case h2=>decide); (case h3 | h4 | h5=>rfl)
 intro c1 O hs hw hg
 refine' B9 ?_
 refine' A8 O ?_
 refine' B9 ?_
 refine' A2 O ?_
 refine' A8 O ?_
 refine' B9 ?_
 refine' A8 O ?_
 exact I5 (by tm_at "d") ⟨rfl,h _ _⟩
theorem v9{x dx sz ds:aJ}{n:Int}{b:Bool}(H:Ok c 3)(hx:(x,AO.inst 470 dx)∈led)(hdx:(dx,c9 sz n b)∈led)(hz:(sz,AO.inst 435 ds)∈led)(hd:(ds,Y5 1)∈led)(h0:258<=n)(h1:n<=510)(h:k (.int 9) led):C9 c (.ref 460) [.ref x] m led k:=by
 refine' C4 [("self",.ref x)] H ?_
 intro c' O hs hw hg
 refine' A2 O ?_
 refine' C7 O ?_
 refine' A2 O ?_
 refine' GB (O.le (by tm_at "a")) (by tm_at "b") (by tm_at "b") h0 h1 ?_
 exact A5 (by tm_at "d") h
theorem Eu{x dx sz ds:aJ}{n:Int}{b:Bool}(H:Ok c 2)(hdx:C1 (dx,c9 sz n b) led rest)(hx:(x,AO.inst 470 dx)∈rest)(hz:(sz,AO.inst 435 ds)∈rest)(hd:(ds,Y5 1)∈rest)(h:k .none ((dx,c9 sz 258 false)::rest)):C9 c (.ref 467) [.ref x,.int 256] m led k:=by
 refine' C9.perm hdx ?_
 refine' C4 [("code",.int 256),("self",.ref x)] H ?_
 intro c' O hs hw hg
 refine' B7 ?_
 refine' c6 ?_
 refine' A2 O ?_
 refine' A2 O ?_
 refine' L8 (by tm_at "c") ?_
 refine' B9 ?_
 refine' c6 ?_
 refine' A2 O ?_
 refine' A2 O ?_
 refine' A8 O ?_
 refine' B9 ?_
 refine' A8 O ?_
 exact A5 (by tm_at "d") h
theorem GE{x dx sz ds:aJ}{n v:Int}{b:Bool}(H:Ok c 2)(hdx:C1 (dx,c9 sz n b) led rest)(hx:(x,AO.inst 470 dx)∈rest)(hz:(sz,AO.inst 435 ds)∈rest)(hd:(ds,Y5 1)∈rest)(hv:v≠256)(hn:n < 4096)(h:k .none ((dx,c9 sz (if b then n+1 else n) true)::rest)):C9 c (.ref 467) [.ref x,.int v] m led k:=by
 refine' C9.perm hdx ?_
 refine' C4 [("code",.int v),("self",.ref x)] H ?_
 intro c' O hs hw hg
 rcases b
 ·refine' B7 ?_
  refine' c6 ?_
  refine' A2 O ?_
  refine' A2 O ?_
  refine' F7 (by tm_at "c") ?_
  refine' A2 O ?_
  refine' G1 ?_
  refine' G1 ?_
  refine' A8 O ?_
  exact I5 (by tm_at "d") h
 ·refine' B7 ?_
  refine' c6 ?_
  refine' A2 O ?_
  refine' A2 O ?_
  refine' F7 (by tm_at "c") ?_
  refine' A2 O ?_
  refine' J5 ?_
  refine' A2 O ?_
  refine' c6 ?_
  refine' A2 O ?_
  refine' A2 O ?_
  refine' P9 (by tm_at "c") ?_
  refine' J5 ?_
  refine' B9 ?_
  refine' A2 O ?_
  refine' A8 O ?_
  refine' A8 O ?_
  exact I5 (by tm_at "d") h
end
end
section
section
variable{c:Cx}{m:Lm}{led rest:La}{k:AV->La->Prop}
noncomputable def I6(os:List Int):List Int:=256::(os++[257])
theorem f9(os:List Int):(I6 os).length=os.length+2:=by unfold I6; rw[bW,aI]; rfl
theorem Hh{os:List Int}{i:Nat}(h:i < os.length+2):(I6 os).take i++[(I6 os).getD i 0]=(I6 os).take (i+1):=by
 have:i < (I6 os).length:=by rw[f9]; exact h
 rw[aV,aM this,aK,aM this]; rfl
theorem Cb{os:List Int}{i:Nat}(h0:1<=i)(h:i<=os.length):(I6 os).getD i 0=os.getD (i - 1) 0:=by
 obtain⟨j,rfl⟩:∃ j,i=j+1:=⟨i - 1,(Nat.sub_add_cancel h0).symm⟩
 show(os++[257]).getD j 0=os.getD j 0
 rw[aK,cD (by tm_at "a"),aK]
theorem Ce{os:List Int}:(I6 os).getD (os.length+1) 0=257:=by
 show(os++[257]).getD os.length 0=257
 rw[aK,cF (aR _),iA]; rfl
theorem FP{os:List Int}{i:Nat}(hs:∀ x∈os,0<=x/\x < 256)(h:i < os.length):0<=os.getD i 0/\os.getD i 0 < 256:=by
 rw[aK,aM h]; exact hs _ (List.getElem_mem h)
theorem IW{sz ds:aJ}{B ks os:List Int}(H:Ok c 7)(hx:(sz,AO.inst 435 ds)∈led)(hd:(ds,Y5 1)∈led)(hz:ks.length<=100000)(hB:Hb B ks)(hn:os.length<=240)(hos:∀ x∈os,0<=x/\x < 256)(hlen:9*(os.length+2)<=8*ks.length)
  (hseg:∀ i,i < os.length+2->Eo B (9*i) (9*i+9)=(I6 os).getD i 0) (h:∀ D r,r=I6 os->k (.ref D) ((D,.ints r)::led)):C9 c (.ref 481) [.ref sz,.bytes ks] m led k:=by
 refine' C4 [("data",.bytes ks),("sizes",.ref sz)] H ?_
 intro c1 O hs hw hg
 refine' A6 ?_
 refine' A1 O hs ?_
 refine' Ey (O.le (by tm_at "a")) (λ S Sd=>?_)
 refine' B1 hs ?_
 refine' A6 ?_
 refine' A1 O hs ?_
 refine' IV (O.le (by tm_at "a")) (by tm_at "b") (by tm_at "b") (λ C Cd=>?_)
 refine' B1 hs ?_
 refine' A6 ?_
 refine' C3 (ns:=[]) rfl (by decide) (λ D=>?_)
 refine' B1 hs ?_
 refine' a8 ?_
 refine' X8 [] (λ s:Nat×(Int×Int×Int)×Int×Bool×List Int=>[("sizes",.ref sz),("data",.bytes ks),("source",.ref S),("count",.ref C),("codes",.ref D)])
  (λ s=>(Sd,O0 ks s.2.1.1 s.2.1.2.1 s.2.1.2.2)::(Cd,c9 sz s.2.2.1 s.2.2.2.1)::(D,.ints s.2.2.2.2)::(S,.inst 211 Sd)::(C,.inst 470 Cd)::led)
  (λ s=>s.1 < os.length+2/\HI B ks (9*s.1) s.2.1.1 s.2.1.2.1 s.2.1.2.2/\s.2.1.2.2<=7/\s.2.2.1=258+((s.1 - 2:Nat):Int)/\s.2.2.2.1=decide (2<=s.1)/\s.2.2.2.2=(I6 os).take s.1) (λ s=>os.length+2 - s.1) (λ V=>False)
  (0,(0,0,0),258,false,[]) O ⟨by dsimp only; lia,⟨0,rfl,by dsimp only; lia,by lia,rfl,rfl⟩,by decide,rfl,rfl,rfl⟩ ⟨rfl,rfl,rfl,rfl,rfl,trivial⟩ (by tm_at "d") ?_ (λ V h=>h.elim)
 rintro⟨i,⟨a,l,q⟩,n,b,cs⟩ K K2 hK hK2 ⟨hi,hI,hq,hnn,hb,hcs⟩
 dsimp only at hi hI hq hnn hb hcs
 have hr:=hseg i hi
 have hcut:=Hh hi
 rw[←hcs]at hcut
 change Hs _ [("sizes",.ref sz),("data",.bytes ks),("source",.ref S),("count",.ref C),("codes",.ref D)] 30 _ ((Sd,O0 ks a l q)::(Cd,c9 sz n b)::(D,.ints cs)::(S,.inst 211 Sd)::(C,.inst 470 Cd)::led) _
 have hcl:cs.length<=242:=by rw[hcs]; exact aS (List.length_take_le ..) (by tm_at "a")
 rcases jB i (os.length+1)with hlt | hge
 ·rcases Nat.eq_zero_or_pos i with rfl | hpos
  ·refine' J5 ?_
   refine' A6 ?_
   refine' C7 O ?_
   refine' C7 O ?_
   refine' v9 (O.le (by tm_at "a")) (by tm_at "b") (by tm_at "b") (by tm_at "b") (by tm_at "b") (by tm_at "a") (by tm_at "a") ?_
   (refine' AL (n:=9) (O.le (by tm_at "a")) (by tm_at "e") (by tm_at "b") hz hB hI hq (by tm_at "a") (by tm_at "a") ?_; intro r a' l' q' hr' hI' hq'; obtain rfl:r=256:=hr'.trans hr)
   refine' B1 hs ?_
   refine' D8 ?_
   refine' K1 (by tm_at "b") ?_
   refine' L7 (by tm_at "e") (by tm_at "c") ?_
   refine' B7 ?_
   refine' A2 O ?_
   refine' F7 (by tm_at "c") ?_
   refine' C7 O ?_
   refine' Eu (O.le (by tm_at "a")) (by tm_at "e") (by tm_at "b") (by tm_at "b") (by tm_at "b") ?_
   refine' hK _ _ _ ?_; refine' Ht (1,(a',l',q'),258,false,cs++[256]) ⟨⟨by dsimp only; lia,hI',hq',rfl,rfl,hcut⟩,by dsimp only; lia⟩ ⟨rfl,rfl,rfl,rfl,rfl,trivial⟩ (by tm_at "d")
  ·have hm:=Cb hpos (show i<=os.length by lia)
   obtain⟨w0,w1⟩:=FP hos (show i - 1 < os.length by lia)
   generalize os.getD (i - 1) 0=v at hm w0 w1
   rw[hm]at hr hcut
   refine' J5 ?_
   refine' A6 ?_
   refine' C7 O ?_
   refine' C7 O ?_
   refine' v9 (O.le (by tm_at "a")) (by tm_at "b") (by tm_at "b") (by tm_at "b") (by tm_at "b") (by tm_at "a") (by tm_at "a") ?_
   (refine' AL (n:=9) (O.le (by tm_at "a")) (by tm_at "e") (by tm_at "b") hz hB hI hq (by tm_at "a") (by tm_at "a") ?_; intro r a' l' q' hr' hI' hq'; obtain rfl:r=v:=hr'.trans hr)
   refine' B1 hs ?_
   refine' D8 ?_
   refine' K1 (by tm_at "b") ?_
   refine' L7 (by tm_at "e") (by tm_at "c") ?_
   refine' B7 ?_
   refine' A2 O ?_
   refine' F7 (by tm_at "c") ?_
   refine' C7 O ?_
   refine' GE (O.le (by tm_at "a")) (by tm_at "e") (by tm_at "b") (by tm_at "b") (by tm_at "b") (by tm_at "a") (by tm_at "a") ?_
   refine' hK _ _ _ ?_; refine' Ht (i+1,(a',l',q'),_,true,cs++[r]) ⟨⟨by dsimp only; lia,hI',hq',?_,(decide_eq_true (show 2<=i+1 by tm_at "a")).symm,hcut⟩,gJ (by lia) (cU i)⟩ ⟨rfl,rfl,rfl,rfl,rfl,trivial⟩ (by tm_at "d")
   show(if b=true then n+1 else n)=258+((i+1 - 2:Nat):Int)
   rw[hb,hnn]
   by_cases h2:2<=i
   ·rw[decide_eq_true h2,if_pos rfl]; exact(Int.add_assoc 258 _ 1).trans (congrArg (λ n:Nat=>(258:Int)+n) (Nat.sub_add_comm h2).symm)
   ·rw[decide_eq_false h2,if_neg (by decide),Nat.sub_eq_zero_of_le (jC (Nat.not_le.mp h2)),Nat.sub_eq_zero_of_le (show i+1<=2 from Nat.not_le.mp h2)]
 ·obtain rfl:i=os.length+1:=by lia
  rw[Ce]at hr hcut
  rw[bN (by rw[f9]; lia)]at hcut
  refine' J5 ?_
  refine' A6 ?_
  refine' C7 O ?_
  refine' C7 O ?_
  refine' v9 (O.le (by tm_at "a")) (by tm_at "b") (by tm_at "b") (by tm_at "b") (by tm_at "b") (by tm_at "a") (by tm_at "a") ?_
  (refine' AL (n:=9) (O.le (by tm_at "a")) (by tm_at "e") (by tm_at "b") hz hB hI hq (by tm_at "a") (by tm_at "a") ?_; intro r a' l' q' hr' hI' hq'; obtain rfl:r=257:=hr'.trans hr)
  refine' B1 hs ?_
  refine' D8 ?_
  refine' K1 (by tm_at "b") ?_
  refine' L7 (by tm_at "e") (by tm_at "c") ?_
  refine' B7 ?_
  refine' A2 O ?_
  refine' L8 (by tm_at "c") ?_
  exact hK _ _ _ (A5 (by tm_at "d") (h _ _ hcut))
end
end
section
section
variable{c:Cx}{m:Lm}{led rest:La}{k:AV->La->Prop}
theorem Fw{sz ds W Bf:aJ}{v:Int}(H:Ok c 2)(hx:(sz,AO.inst 435 ds)∈led)(hd:(ds,Y5 1)∈led)(h0:v < 256)(h:∀ D,k (.ref D) ((D,.tup [.int v])::led)):C9 c (.ref 488) [.ref sz,.ref W,.int v,.ref Bf] m led k:=by
 refine' C4 [("before",.ref Bf),("code",.int v),("words",.ref W),("sizes",.ref sz)] H ?_
 intro c' O hs hw hg
 refine' B7 ?_
 refine' A2 O ?_
 refine' P9 (by tm_at "c") ?_
 refine' E4 (aB rfl) (λ D=>?_)
 exact A5 (by tm_at "d") (h _)
theorem Gy{sz ds C:aJ}{os:List Int}(H:Ok c 3)(hp:C1 (C,.ints (I6 os)) led rest)(hx:(sz,AO.inst 435 ds)∈rest)(hd:(ds,Y5 1)∈rest)(hn:os.length<=240)(hos:∀ x∈os,0<=x/\x < 256)(h:∀ D r,r=os->k (.ref D) ((D,.ints r)::rest)):C9 c (.ref 495) [.ref sz,.ref C] m led k:=by
 refine' C9.perm hp ?_
 refine' C4 [("codes",.ref C),("sizes",.ref sz)] H ?_
 intro c1 O hs hw hg
 refine' A6 ?_
 refine' C3 (ns:=[]) rfl (by decide) (λ S=>?_)
 refine' B1 hs ?_
 refine' A6 ?_
 refine' H3 (as:=[]) (by decide) (λ W=>?_)
 refine' B1 hs ?_
 refine' A6 ?_
 refine' E4 (aB rfl) (λ Bf=>?_)
 refine' B1 hs ?_
 refine' F5 ?_
 refine' G6 [] O ?_ (hs:=λ V=>rfl)
 refine' V3 [] (λ s:(aJ×List AV)×(aJ×List AV)×List Int=>[("signs",.ref S),("words",.ref s.1.1),("before",.ref s.2.1.1),("sizes",.ref sz)]) (λ s=>(S,.ints s.2.2)::(s.1.1,.list s.1.2)::(s.2.1.1,.tup s.2.1.2)::rest)
  (λ i s=>s.1.2.length<=i/\(s.2.1.2=[]∨∃ x,s.2.1.2=[x])/\s.2.2=os.take (i - 1)) (λ s=>s.2.2=os) ((W,[]),(Bf,[]),[]) O (E6 hs rfl rfl) (by tm_at "e") ⟨rfl,rfl,rfl,rfl,trivial⟩ (by tm_at "d") ⟨bG _,.inl rfl,rfl⟩ ?_ (λ s hs=>by obtain⟨_,_,e⟩:=hs; rw[e,f9,bN (by tm_at "a")]) ?_
 ·(intro i n; refine Bw λ zz221 zz222 sg=>?_; revert zz221; refine Eh λ W ws=>?_; revert zz222; refine Eh λ Bf bf=>?_; intro rw K hK hc'; refine Mk λ hw1 hbf hsg=>?_)
  dsimp only at hw1 hbf hsg
  change O6 _ _ _ _ (G3 _ _ [("signs",.ref S),("words",.ref W),("before",.ref Bf),("sizes",.ref sz)]) (((S,.ints sg)::(W,.list ws)::(Bf,.tup bf)::rest)++rw) _
  have hi:i < os.length+2:=by rw[←f9 os]; exact(aT.mp hc').1
  have hn2:(I6 os).getD i 0=n:=by rw[aK,hc']; rfl
  have hsl:sg.length<=240:=by rw[hsg]; exact aS (dL ..) (by tm_at "a")
  rcases Nat.eq_zero_or_pos i with rfl | hpos
  ·obtain rfl:n=256:=hn2.symm
   refine' B7 ?_
   refine' A2 O ?_
   refine' F7 (by tm_at "c") ?_
   refine' A2 O ?_
   refine' L8 (by tm_at "c") ?_
   refine' A6 ?_
   refine' H3 (as:=[]) (by decide) (λ W2=>?_)
   refine' B1 hs ?_
   refine' A6 ?_
   refine' E4 (aB rfl) (λ B2=>?_)
   refine' B1 hs ?_
   (refine' hK _ _ _ ?_; exact go ((W2,[]),(B2,[]),sg) ⟨bG _,.inl rfl,hsg⟩ ⟨rfl,rfl,rfl,rfl,trivial⟩ (by tm_at "d"))
  ·rcases jB i (os.length+1)with hlt | hge
   ·have hm:=Cb hpos (show i<=os.length by lia)
    obtain⟨w0,w1⟩:=FP hos (show i - 1 < os.length by lia)
    have hcut:sg++[n]=os.take (i+1 - 1):=by
     rw[hsg,←hn2,hm,show i+1 - 1=(i - 1)+1 by lia,aV,aK,aM (show i - 1 < os.length by lia)]; rfl
    rw[←hm,hn2]at w0 w1
    rcases hbf with rfl | ⟨x,rfl⟩
    ·refine' B7 ?_
     refine' A2 O ?_
     refine' F7 (by tm_at "c") ?_
     refine' A2 O ?_
     refine' F7 (by tm_at "c") ?_
     refine' A1 O hs ?_
     refine' Fw (O.le (by tm_at "a")) (by tm_at "b") (by tm_at "b") w1 (λ D=>?_)
     refine' B1 hs ?_
     refine' D8 ?_
     refine' V0 (by tm_at "b") ?_
     refine' FI (ms:=[n]) (by tm_at "e") (by tm_at "b") (by tm_at "c") ?_
     refine' B7 ?_
     refine' IB (by tm_at "b") (by tm_at "c") ?_
     refine' X3 ?_
     refine' d4 rfl ?_
     refine' G1 ?_
     refine' B1 hs ?_
     (refine' hK _ _ _ ?_; exact go ((W,ws),(D,[.int n]),sg++[n]) ⟨iB hw1,.inr ⟨_,rfl⟩,hcut⟩ ⟨rfl,rfl,rfl,rfl,trivial⟩ (by tm_at "d"))
    ·refine' B7 ?_
     refine' A2 O ?_
     refine' F7 (by tm_at "c") ?_
     refine' A2 O ?_
     refine' F7 (by tm_at "c") ?_
     refine' A1 O hs ?_
     refine' Fw (O.le (by tm_at "a")) (by tm_at "b") (by tm_at "b") w1 (λ D=>?_)
     refine' B1 hs ?_
     refine' D8 ?_
     refine' V0 (by tm_at "b") ?_
     refine' FI (ms:=[n]) (by tm_at "e") (by tm_at "b") (by tm_at "c") ?_
     refine' B7 ?_
     refine' IB (by tm_at "b") (by tm_at "c") ?_
     refine' X3 ?_
     refine' M0 rfl ?_
     refine' A2 O ?_
     refine' A0 O hs ?_
     refine' N3 (by tm_at "b") (by tm_at "c") ?_
     refine' A2 O ?_
     refine' P9 (by tm_at "c") ?_
     refine' J5 ?_
     refine' D8 ?_
     refine' R5 (by tm_at "b") ?_
     refine' KY (by tm_at "b") ?_
     refine' LK (by tm_at "b") (by tm_at "b") (by tm_at "c") (by simp) (by simp) (λ T=>?_)
     refine' O8 (by tm_at "e") (by tm_at "c") ?_
     refine' B1 hs ?_
     (refine' hK _ _ _ ?_; exact go ((W,ws++[.ref T]),(D,[.int n]),sg++[n]) ⟨by show(ws++[_]).length<=_; rw[aI]; exact bL hw1,.inr ⟨_,rfl⟩,hcut⟩ ⟨rfl,rfl,rfl,rfl,trivial⟩ (by tm_at "d"))
   ·obtain rfl:i=os.length+1:=by lia
    rw[Ce]at hn2
    subst hn2
    refine' B7 ?_
    refine' A2 O ?_
    refine' L8 (by tm_at "c") ?_
    (refine' hK _ _ _ ?_; exact go ((W,ws),(Bf,bf),sg) (by show sg=os; rw[hsg,bN (by tm_at "a")]) ⟨rfl,rfl,rfl,rfl,trivial⟩ (by tm_at "d"))
 ·(refine Bw λ zz232 zz233 sg=>?_; revert zz232; refine Eh λ W ws=>?_; revert zz233; refine Eh λ Bf bf=>?_; intro hsg)
  exact A5 (.cons (.head _) (.drop (.drop .left))) (h _ _ hsg)
end
end
section
section
variable{c:Cx}{m:Lm}{led rest:La}{k:AV->La->Prop}
theorem NS{B ks os:List Int}(H:Ok c 9)(hz:ks.length<=100000)(hB:Hb B ks)(hn:os.length<=240)(hos:∀ x∈os,0<=x/\x < 256)(hlen:9*(os.length+2)<=8*ks.length)
  (hseg:∀ i,i < os.length+2->Eo B (9*i) (9*i+9)=(I6 os).getD i 0) (h:∀ r,r=os->k (.bytes r) led):C9 c (.ref 503) [.bytes ks,.int 1] m led k:=by
 refine' C4 [("early",.int 1),("data",.bytes ks)] H ?_
 intro c1 O hs hw hg
 refine' A6 ?_
 refine' A1 O hs ?_
 refine' C6 O hs ?_
 refine' C6 O hs ?_
 refine' ID (O.le (by tm_at "a")) (λ X D=>?_)
 refine' B1 hs ?_
 refine' A0 O hs ?_
 refine' A1 O hs ?_
 refine' A1 O hs ?_
 refine' IW (O.le (by tm_at "a")) (by tm_at "b") (by tm_at "b") hz hB hn hos hlen hseg (λ D r hr=>?_)
 (subst hr; refine' Gy (O.le (by tm_at "a")) (by tm_at "e") (by tm_at "b") (by tm_at "b") hn hos (λ D r hr=>?_))
 refine' H6 O (by tm_at "b") (by rw[hr]; exact hos) (by rw[hr]; lia) ?_
 exact A5 (by tm_at "d") (h _ hr)
end
end
section
section
variable{c:Cx}{m:Lm}{led rest:La}{k:AV->La->Prop}
noncomputable def F8(n:Nat):List (List Int)->Prop
 | []=>True
 | [r]=>1<=r.length/\r.length<=n
 | r::s::t=>r.length=n/\F8 n (s::t)
theorem Ad{n:Nat}(hn:0 < n){rows:List (List Int)}{i:Nat}(h:F8 n rows)(hi:i < rows.length):(rows.flatten.drop (i*n)).take n=rows[i]/\1<=(rows[i]).length/\(rows[i]).length<=n:=by
 induction rows generalizing i with
 | nil=>exact absurd hi (Nat.not_lt_zero i)
 | cons r t ih=>
  induction t with
  | nil=>
   obtain rfl:i=0:=Nat.lt_one_iff.mp hi
   refine⟨?_,h⟩
   show(([r]:List (List Int)).flatten.drop (0*n)).take n=r
   rw[Nat.zero_mul,jH,dF,List.flatten_nil,bA,bN h.2]
  | cons s t _=>
   induction i with
   | zero=>
    refine⟨?_,by show 1<=r.length; rw[h.1]; exact hn,dZ h.1⟩
    show((r::s::t).flatten.drop (0*n)).take n=r
    rw[Nat.zero_mul,jH,dF,List.take_append_of_le_length (dZ h.1.symm),bN (dZ h.1)]
   | succ i _=>
    have ih:=ih (i:=i) h.2 (Nat.lt_of_succ_lt_succ hi)
    refine⟨?_,ih.2⟩
    show((r::s::t).flatten.drop ((i+1)*n)).take n=(s::t)[i]'(Nat.lt_of_succ_lt_succ hi)
    rw[←ih.1,dF,List.drop_append,eH (by rw[h.1]; exact Nat.le_mul_of_pos_left n (Nat.succ_pos i)),List.nil_append,h.1,show(i+1)*n - n=i*n by rw[iZ]; exact lX ..]
theorem AE{n:Nat}(hn:0 < n){rows:List (List Int)}(h:F8 n rows):rows.flatten.length<=rows.length*n/\∀ {j},rows.length=j+1->j*n < rows.flatten.length:=by
 induction rows with
 | nil=>exact⟨bG _,λ e=>nomatch e⟩
 | cons r t ih=>
  induction t with
  | nil=>
   have e:([r]:List (List Int)).flatten=r:=by rw[dF,List.flatten_nil,bA]
   rw[e]
   refine⟨by show r.length<=1*n; rw[Nat.one_mul]; exact h.2,λ{j} e2=>?_⟩
   obtain rfl:0=j:=Nat.succ.inj e2
   rw[Nat.zero_mul]; exact h.1
  | cons s t _=>
   have ih:=ih h.2
   have e:(r::s::t).flatten.length=n+(s::t).flatten.length:=by rw[dF,aI,h.1]
   have e2:(r::s::t).length=(s::t).length+1:=rfl
   rw[e,e2,iZ,eK n]
   refine⟨dM ih.1 n,λ{j} e3=>?_⟩
   obtain rfl:t.length+1=j:=Nat.succ.inj e3
   rw[iZ]; exact Nat.add_lt_add_right (ih.2 rfl) n
theorem BK{n:Nat}(hn:0 < n){rows:List (List Int)}(h:F8 n rows):aW 0 (rows.flatten.length:Int) (n:Int)=(rows.length:Int):=by
 obtain⟨h1,h2⟩:=AE hn h
 cases e:rows.length with
 | zero=>
  rw[e,Nat.zero_mul]at h1
  unfold aW
  rw[if_pos (by tm_at "a"),if_neg (by tm_at "a")]; rfl
 | succ j=>
  have h3:=h2 e
  rw[e,iZ]at h1
  refine K9 (by tm_at "a") ?_ ?_ (by tm_at "a")
  ·rw[show((j+1:Nat):Int) - 1=j from jN j 1,cW]; exact_mod_cast h3
  ·rw[cW,Int.natCast_add,lI,Int.natCast_one,jX]; exact_mod_cast h1
theorem Ct{n:Nat}(hn:0 < n){rows:List (List Int)}{i:Nat}(h:F8 n rows)(hi:i < rows.length):T2 rows.flatten (some (0+(i:Int)*n)) (some (0+(i:Int)*n+n))=rows[i]:=by
 have hp:(0:Int)<=(i:Int)*n:=lG (by tm_at "a") (by tm_at "a")
 have e:((i:Int)*n).toNat=i*n:=by rw[←Int.natCast_mul]; rfl
 rw[cW,V7 hp (by tm_at "a"),show((i:Int)*n+n).toNat=((i:Int)*n).toNat+n from Int.toNat_add hp (gV n),e,cA]
 exact(Ad hn h hi).1
theorem m4{n:Nat}(hn:0 < n){rows:List (List Int)}(h:F8 n rows):rows.length<=rows.flatten.length:=by
 cases e:rows.length with
 | zero=>exact bG _
 | succ j=>have:=(AE hn h).2 e; have:j<=j*n:=Nat.le_mul_of_pos_right j hn; lia
theorem KZ{rows:List (List Int)}{n:Nat}(H:Ok c 2)(hr:F8 n rows)(hn:0 < n)(hn2:n<=1000)(hz:rows.flatten.length<=10000)(h:∀ D,k (.ref D) ((D,.list (rows.map .bytes))::led)):C9 c (.ref 636) [.bytes rows.flatten,.int n] m led k:=by
 refine' Q3 [("size",.int n),("octets",.bytes rows.flatten)] [] [("size",some (.int n)),("octets",some (.bytes rows.flatten))] H ?_
 intro c1 O hs hw hg W1 W2 hc
 have hrs:=P2 (a:=0) (b:=(rows.flatten.length:Int)) (c:=n) (by tm_at "a") (by tm_at "a") (by tm_at "a") (by tm_at "a")
 refine' K3 ?_ ((H4 hc).trans rfl) rfl (by kernel_rfl)
 refine' A0 O hs ?_
 refine' A0 O hs ?_
 refine' A3 O hs hc ?_
 refine' N7 (by tm_at "c") ?_
 refine' A3 O hs hc ?_
 refine' T5 (by tm_at "a") (λ D=>?_)
 refine' s6 (P7 rows.length O (.head _) hrs.1 (BK hn hr)) (λ V:Unit=>(W1,.cell (some (.int n)))::(W2,.cell (some (.bytes rows.flatten)))::led) (λ i V ys=>ys=(rows.take i).map .bytes) () O hs (by tm_at "d") rfl rfl rfl rfl (by kernel_rfl) ?_ ?_ ?_
 ·have:=m4 hn hr; lia
 ·clear O hs hc
  rintro c2 O hs hw2 hc i a _ ys rw hi rfl hys hyl
  refine' A3 O hs hc ?_
  refine' A3 O hs hc ?_
  refine' M9 (.int _) (.int _) (by tm_at "c") rfl ?_
  exact Hu () (by rw[hys,Ct hn hr hi,aV,aM hi,bB]; rfl) (by tm_at "d")
 ·rintro _ ys D hys
  rw[bD]at hys
  refine'⟨_,λ V h=>h,?_⟩
  subst hys
  exact A5 (by tm_at "d") (h _)
end
end
section
section
variable{c:Cx}{m:Lm}{led rest:La}{k:AV->La->Prop}
theorem BJ{l:List Int}{i:Nat}{n:Int}(h:l[i]? =some n):l.take i++[n]=l.take (i+1):=by rw[aV,h]; rfl
theorem NB(n:Nat):aW 0 (n:Int) 1=(n:Int):=by
 unfold aW
 rw[if_pos (by tm_at "a"),iC]
 split<;>lia
theorem VO{ns:List Int}{i:Nat}(hi:i < ns.length):T2 ns (some (0+(i:Int)*1)) (some (0+(i:Int)*1+1))=[ns[i]]:=by
 rw[V7 (by tm_at "a") (by tm_at "a"),show(0+(i:Int)*1).toNat=i from(hZ _).trans (Nat.mul_one i),show(0+(i:Int)*1+1).toNat - i=1 by rw[cW,jY]; exact cA _ _,dD hi]; rfl
theorem Et{ns:List Int}(H:Ok c 2)(hz:ns.length<=10000)(h:∀ D,k (.ref D) ((D,.ints ns)::led)):C9 c (.ref 641) [.bytes ns,.int 8] m led k:=by
 refine' Q3 [("bits",.int 8),("row",.bytes ns)] [("bits",.int 8)] [("row",some (.bytes ns))] H ?_
 intro c1 O hs hw hg W hc
 refine' B7 ?_
 refine' F7 (by tm_at "c") ?_
 refine' C3 (ns:=[]) rfl (by decide) (λ D=>?_)
 refine' B1 hs ?_
 refine' F5 ?_
 rename aJ=>S
 refine' G6 ["row"] O ?_ (hs:=λ V=>rfl)
 refine' A3 O hs hc ?_
 refine' P3 ["row"] (λ V:List Int=>[("bits",.int 8),("levels",.ref S)]) (λ s=>(S,.ints s)::led) (λ i s=>s=ns.take i) (λ s=>s=ns) [] O (E6 hs rfl rfl) ⟨rfl,rfl,trivial⟩ (by tm_at "d") rfl ?_ (λ s hs=>by rw[hs,bD]) ?_
 ·rintro i n s rw K hK hn h0 h1 hv
  refine' G6 ["row"] O ?_ (hs:=λ V=>rfl)
  refine' A0 O hs ?_
  refine' M4 (by tm_at "a") ?_
  refine' H9 (λ D=>?_)
  refine' E8 ["row"] (λ V:List Int=>[("bits",.int 8),("levels",.ref S),("octet",.int n)]) (λ s=>(S,.ints s)::led++rw) (λ j t=>t=ns.take (i+j)) (λ t=>t=ns.take (i+1)) s 1 O (E6 hs rfl rfl) (.head _) rfl rfl ⟨rfl,rfl,rfl,trivial⟩ (by tm_at "d") hv ?_ (λ s hs=>hs) ?_
  ·rintro j t rw2 K hK hj ht
   obtain rfl:j=0:=by lia
   have ht2:t.length<=10000:=by rw[ht]; exact aS (dL ..) (by tm_at "a")
   have e:eJ (n / 2 ^ (8 - 8*(0+((0:Nat):Int)*1+1)).toNat) (1*2 ^ (8:Int).toNat - 1)=n:=by
    show eJ (n / 1) (2 ^ 8 - 1)=n
    rw[iC,Ci h0]
    exact dR h0 h1
   refine' D8 ?_
   refine' K1 (by tm_at "b") ?_
   refine' Z0 (by tm_at "a") ?_
   refine' Cu (by tm_at "a") ?_
   refine' a9 (by tm_at "a") (by tm_at "a") (by tm_at "a") ?_
   refine' LJ e ?_
   refine' L7 (by tm_at "e") (by tm_at "c") ?_
   (refine' hK _ _ _ ?_; exact go (t++[n]) (by rw[ht]; exact BJ hn) ⟨rfl,rfl,rfl,trivial⟩ (by tm_at "d"))
  ·rintro t ht
   (refine' hK _ _ _ ?_; exact go t ht ⟨rfl,rfl,trivial⟩ (by tm_at "d"))
 ·rintro s rfl
  exact A5 (by tm_at "d") (h _)
theorem IH{L:aJ}{ns:List Int}(H:Ok c 2)(hL:(L,AO.ints ns)∈led)(hz:ns.length<=10000)(h:∀ D,k (.ref D) ((D,.ints ns)::led)):C9 c (.ref 648) [.ref L,.int 8] m led k:=by
 refine' C4 [("bits",.int 8),("levels",.ref L)] H ?_
 intro c1 O hs hw hg
 refine' B7 ?_
 refine' F7 (by tm_at "c") ?_
 refine' CC (v:=1) (by tm_at "a") rfl ?_
 refine' B1 hs ?_
 refine' A6 ?_
 refine' C3 (ns:=[]) rfl (by decide) (λ D=>?_)
 refine' B1 hs ?_
 refine' F5 ?_
 rename aJ=>S
 refine' G6 [] O ?_ (hs:=λ V=>rfl)
 refine' A0 O hs ?_
 refine' A0 O hs ?_
 refine' M2 (by tm_at "b") (by tm_at "c") ?_
 refine' T5 (by tm_at "a") (λ D=>?_)
 have hrs:=P2 (a:=0) (b:=(ns.length:Int)) (c:=1) (by tm_at "a") (by tm_at "a") (by tm_at "a") (by tm_at "a")
 refine' E8 [] (λ V:List Int=>[("bits",.int 8),("levels",.ref L),("count",.int 1),("octets",.ref S)]) (λ s=>(S,.ints s)::led) (λ i s=>s=ns.take i) (λ s=>s=ns) [] ns.length O (E6 hs rfl rfl) (.head _) hrs.1 ?_ ⟨rfl,rfl,rfl,rfl,trivial⟩ (by tm_at "d") rfl ?_ (λ s hs=>by rw[hs,bD]) ?_
 ·exact NB _
 ·rintro i s rw K hK hi hv
  have hsl:s.length<=10000:=by rw[hv]; exact aS (dL ..) (by tm_at "a")
  have hc:=VO hi
  have hg:=aM hi
  generalize ns[i]=n at hc hg
  refine' A6 ?_
  refine' B1 hs ?_
  refine' F5 ?_
  refine' G6 [] O ?_ (hs:=λ V=>rfl)
  refine' BO (by tm_at "b") (.int _) (.int _) (by tm_at "a") hc (λ D=>?_)
  refine' V3 [] (λ s:Int=>[("bits",.int 8),("levels",.ref L),("count",.int 1),("octets",.ref S),("total",.int s)]) (λ V=>(S,.ints s)::led++rw) (λ j t=>t=if j=0 then 0 else n) (λ t=>t=n) 0 O (E6 hs rfl rfl) (by tm_at "e") ⟨rfl,rfl,rfl,rfl,rfl,trivial⟩ (by tm_at "d") rfl ?_ (λ s (hs:s=if [n].length=0 then 0 else n)=>hs) ?_
  ·rintro j q t rw2 K hK hj ht
   obtain rfl:j=0:=by have:=(aT.mp hj).1; simp at this; exact this
   obtain rfl:=aU hj
   obtain rfl:t=0:=ht
   refine' A6 ?_
   refine' a9 (by tm_at "a") (by tm_at "a") (by tm_at "a") ?_
   refine' B1 hs ?_
   (refine' hK _ _ _ ?_; exact go (0*2 ^ (8:Int).toNat+n) (by rw[if_neg (by tm_at "a")]; lia) ⟨rfl,rfl,rfl,rfl,rfl,trivial⟩ (by tm_at "d"))
  ·rintro t rfl
   refine' K1 (by tm_at "b") ?_
   refine' L7 (by tm_at "e") (by tm_at "c") ?_
   (refine' hK _ _ _ ?_; exact go (s++[t]) (by rw[hv]; exact BJ hg) ⟨rfl,rfl,rfl,rfl,trivial⟩ (by tm_at "d"))
 ·rintro s rfl
  exact A5 (by tm_at "d") (h _)
end
end
section
section
variable{c:Cx}{m:Lm}{led rest:La}{k:AV->La->Prop}
structure Au(es r:List Int):Prop where
 len:r.length=es.length
 fst:r.getD 0 0=es.getD 0 0
 nxt:∀ j,j+1 < r.length->(es.getD (j+1) 0+r.getD j 0) % 256=r.getD (j+1) 0
theorem En{n:Nat}(h:1<=n):aW 1 (n:Int) 1=((n - 1:Nat):Int):=by
 unfold aW
 rw[if_pos (by tm_at "a"),iC]
 split<;>lia
theorem LQ{r es:List Int}{i:Nat}(h:i < r.length):(r.take (i+1)++es.drop (i+1)).getD i 0=r.getD i 0:=by
 rw[aK,cD (by rw[bK]; exact Nat.lt_min.mpr ⟨cU i,h⟩),List.getElem?_take,if_pos (cU i),aK]
theorem LP{r es:List Int}{i:Nat}{v:Int}(hl:r.length=es.length)(h:i+1 < r.length)(hv:v=r.getD (i+1) 0):(r.take (i+1)++es.drop (i+1)).set (i+1) v=r.take (i+1+1)++es.drop (i+1+1):=by
 have e:r.take (i+1+1)=r.take (i+1)++[v]:=by rw[aV,aM h,hv,aK,aM h]; rfl
 rw[e,List.set_append_right _ _ (by rw[bK]; exact fT _ _),bK,dH (jC h),iA,dD (hl▸h),List.set_cons_zero,aP]
 rfl
theorem Gz{es r:List Int}{sh dsh:aJ}{n:Nat}(H:Ok c 3)(hx:(sh,AO.inst 627 dsh)∈led)(hd:(dsh,AC n)∈led)(hl1:1<=es.length)(hln:es.length<=n)(hz:n<=1000)(hr:Au es r)(h:∀ D,k (.ref D) ((D,.ints r)::led)):C9 c (.ref 655) [.bytes es,.ref sh,.bool true] m led k:=by
 refine' C4 [("is_undone",.bool true),("shape",.ref sh),("row",.bytes es)] H ?_
 intro c1 O hs hw hg
 have hlr:=hr.len
 refine' A6 ?_
 refine' A1 O hs ?_
 refine' A2 O ?_
 refine' Et (O.le (by tm_at "a")) (by tm_at "a") (λ A=>?_)
 refine' B1 hs ?_
 refine' A6 ?_
 refine' A0 O hs ?_
 refine' Dk (by tm_at "b") (by tm_at "c") (λ L=>?_)
 refine' B1 hs ?_
 refine' F5 ?_
 refine' G6 [] O ?_ (hs:=λ V=>rfl)
 refine' A0 O hs ?_
 refine' A2 O ?_
 refine' A0 O hs ?_
 refine' A0 O hs ?_
 refine' M2 (by tm_at "b") (by tm_at "c") ?_
 refine' A2 O ?_
 refine' A2 O ?_
 refine' Z0 (by tm_at "a") ?_
 refine' Lj (v:=es.length) O (by split<;>lia) ?_
 refine' BQ (λ D=>?_)
 have hrs:=P2 (a:=1) (b:=(es.length:Int)) (c:=1) (by tm_at "a") (by tm_at "a") (by tm_at "a") (by tm_at "a")
 refine' E8 [] (λ V:List Int=>[("is_undone",.bool true),("shape",.ref sh),("row",.bytes es),("levels",.ref A),("later",.ref L)]) (λ s=>(L,.ints s)::(A,.ints es)::led) (λ i s=>s=r.take (i+1)++es.drop (i+1)) (λ s=>s=r) es (es.length - 1) O (E6 hs rfl rfl) (.head _) hrs.1 (En hl1) ⟨rfl,rfl,rfl,rfl,rfl,trivial⟩ (by tm_at "d") ?_ ?_ (λ s hs=>?_) ?_
 ·show es=r.take 1++es.drop 1
  have h0:=hr.fst
  cases es with
  | nil=>simp at hl1
  | cons x es=>
   cases r with
   | nil=>simp at hlr
   | cons y r=>
    have h0:y=x:=h0
    rw[h0]; rfl
 ·rintro i s rw K hK hi hv
  have hsl:s.length=es.length:=by rw[hv,aI,bK,eN,dH (by tm_at "a")]; exact Nat.add_sub_cancel' (by tm_at "a")
  have e1:es.getD (1+(i:Int)*1).toNat 0=es.getD (i+1) 0:=by rw[jY,gG]; rfl
  have e2:s.getD (1+(i:Int)*1 - 1).toNat 0=r.getD i 0:=by rw[show(1+(i:Int)*1 - 1).toNat=i by rw[gG,jN,jY]; rfl,hv]; exact LQ (by tm_at "a")
  have e3:=hr.nxt i (by tm_at "a")
  refine' B7 ?_
  refine' J5 ?_
  refine' O4 ?_
  refine' E5 rfl ?_
  refine' M3 (by tm_at "b") (by tm_at "a") (by tm_at "c") (by tm_at "c") rfl ?_
  refine' A2 O ?_
  refine' M3 (by tm_at "b") (by tm_at "a") (by tm_at "c") (by tm_at "c") rfl ?_
  refine' A2 O ?_
  refine' Cv (v:=256) (by tm_at "a") (by tm_at "a") (by tm_at "a") rfl ?_
  refine' FC (v:=r.getD (i+1) 0) (by tm_at "a") (by rw[e1,e2]; exact e3) ?_
  refine' Fz (j:=i+1) (by tm_at "e") (.inl (by tm_at "a")) (by tm_at "a") (by tm_at "a") ?_
  (refine' hK _ _ _ ?_; exact go (s.set (i+1) (r.getD (i+1) 0)) (by rw[hv]; exact LP hlr (by tm_at "a") rfl) ⟨rfl,rfl,rfl,rfl,rfl,trivial⟩ (by tm_at "d"))
 ·rw[hs,Nat.sub_add_cancel hl1,iK,bA,bN (by tm_at "a")]
 ·rintro s rfl
  have hd:T2 es (some ((s.length:Nat):Int)) none=[]:=by rw[Mo (by tm_at "a"),eH (by tm_at "a")]
  refine' A1 O hs ?_
  refine' A2 O ?_
  refine' IH (O.le (by tm_at "a")) (by tm_at "b") (by tm_at "a") (λ D=>?_)
  refine' B1 hs ?_
  refine' A0 O hs ?_
  refine' A0 O hs ?_
  refine' M2 (by tm_at "b") (by tm_at "c") ?_
  refine' M9 (.int _) .none (by tm_at "c") hd ?_
  refine' T8 O (by tm_at "c") (λ D=>?_)
  (refine' I4 (by tm_at "b") (by tm_at "b") (by tm_at "c") (λ D=>?_); rw[bA])
  exact A5 (by tm_at "d") (h _)
end
end
section
section
variable{c:Cx}{m:Lm}{led rest:La}{k:AV->La->Prop}
theorem w8{rs:List (List Int)}{i:Nat}(h:i < rs.length):(rs.take i).flatten++rs.getD i []=(rs.take (i+1)).flatten:=by
 rw[aV,aM h,aK,aM h,iQ]
 simp
theorem Mg{rs:List (List Int)}{i:Nat}:(rs.take i).flatten.length<=rs.flatten.length:=by
 have:(rs.take i).flatten++(rs.drop i).flatten=rs.flatten:=by rw[←iQ,iI]
 rw[←this,aI]; lia
theorem Ep{rs:List (List Int)}{i:Nat}(h:i < rs.length):(rs.take i).flatten.length+(rs.getD i []).length<=rs.flatten.length:=by
 have:=Mg (rs:=rs) (i:=i+1)
 rw[←w8 h,aI]at this; exact this
theorem KW{es rs:List (List Int)}{sh dsh:aJ}{n:Nat}(H:Ok c 4)(hx:(sh,AO.inst 627 dsh)∈led)(hd:(dsh,AC n)∈led)(hn:0 < n)(hn2:n<=1000)(hz:es.flatten.length<=1000)(hz2:rs.flatten.length<=1000)(he:F8 n es)(hl:rs.length=es.length)(hr:∀ i,i < es.length->Au (es.getD i []) (rs.getD i []))(hb:∀ x∈rs.flatten,0<=x/\x < 256)
  (h:∀ r,r=rs.flatten->k (.bytes r) led):C9 c (.ref 662) [.bytes es.flatten,.ref sh] m led k:=by
 refine' C4 [("shape",.ref sh),("octets",.bytes es.flatten)] H ?_
 intro c1 O hs hw hg
 refine' A6 ?_
 refine' C3 (ns:=[]) rfl (by decide) (λ S=>?_)
 refine' B1 hs ?_
 refine' F5 ?_
 refine' G6 [] O ?_ (hs:=λ V=>rfl)
 refine' A1 O hs ?_
 refine' A2 O ?_
 refine' KZ (O.le (by tm_at "a")) (by assumption) (by tm_at "a") (by tm_at "a") (by tm_at "a") (λ D=>?_)
 refine' P0 [] (λ V:List Int=>[("shape",.ref sh),("found",.ref S)]) (λ s=>(S,.ints s)::led) (λ i s=>s=(rs.take i).flatten) (λ s=>s=rs.flatten) [] O (E6 hs rfl rfl) (by tm_at "e") ⟨rfl,rfl,trivial⟩ (by tm_at "d") rfl ?_ (λ s hs=>by rw[hs,aQ,←hl,bD]) ?_
 ·rintro i a s rw K hK ha hv
  rw[cJ]at ha
  obtain⟨e,he2,rfl⟩:=cR.mp ha
  have hi:=(aT.mp he2).1
  have h1:=hr i hi
  rw[aK,he2]at h1
  have h1:Au e (rs.getD i []):=h1
  have h2:=(Ad hn he hi).2
  rw[(aT.mp he2).2]at h2
  have h3:=Ep (rs:=rs) (i:=i) (by tm_at "a")
  have h4:=w8 (rs:=rs) (i:=i) (by tm_at "a")
  rw[←hv]at h3 h4
  refine' D8 ?_
  refine' V0 (by tm_at "b") ?_
  refine' A1 O hs ?_
  refine' Gz (O.le (by tm_at "a")) (by tm_at "b") (by tm_at "b") h2.1 h2.2 (by tm_at "a") h1 (λ D=>?_)
  refine' v8 (by tm_at "e") (by tm_at "b") (by tm_at "c") ?_
  (refine' hK _ _ _ ?_; exact go (s++rs.getD i []) h4 ⟨rfl,rfl,trivial⟩ (by tm_at "d"))
 ·rintro s rfl
  refine' A0 O hs ?_
  refine' H6 O (by tm_at "b") hb (by tm_at "a") ?_
  exact A5 (by tm_at "d") (h _ rfl)
theorem IQ{R A:aJ}{rs as:List Int}{i:Int}{j:Nat}{w:Int}(H:Ok c 2)(hi:i=(j:Int))(hR:(R,AO.ints rs)∈led)(hA:(A,AO.ints as)∈led)(hj:j < rs.length)(hz:rs.length<=1000)(hz2:as.length<=1000)(hw:w=0∨w=1∨w=2)(h:∀ v,v=(if w=1 then(if 1<=j then rs.getD (j - 1) 0 else 0)else if w=2 then as.getD j 0 else 0)->k (.int v) led):C9 c (.ref 676) [.ref R,.ref A,.int i,.int 1,.int w] m led k:=by
 subst hi
 refine' C4 [("way",.int w),("step",.int 1),("at",.int j),("above",.ref A),("row",.ref R)] H ?_
 intro c1 O hs hw' hg
 refine' A6 ?_
 refine' Na (.int (if 1<=j then rs.getD (j - 1) 0 else 0)) ?_ (λ hp kk hk=>?_) (λ hp kk hk=>?_)
 rotate_left
 ·rw[if_pos (by tm_at "a")]at hk
  refine' M3 (by tm_at "b") (by tm_at "a") (by tm_at "a") (by tm_at "a") (by rw[show((j:Int) - 1).toNat=j - 1 from fV j 1]) ?_
  exact hk
 ·rw[if_neg (by tm_at "a")]at hk
  exact hk
 generalize hL:(if 1<=j then rs.getD (j - 1) 0 else 0)=L at h ⊢
 refine' B1 hs ?_
 refine' A6 ?_
 refine' A0 O hs ?_
 refine' M2 (by tm_at "b") (by tm_at "c") ?_
 refine' Na (.int (as.getD j 0)) ?_ (λ hp kk hk=>?_) (λ hp kk hk=>?_)
 rotate_left
 ·refine' M3 (by tm_at "b") (by tm_at "a") (by tm_at "a") (by tm_at "a") (by rw[show((j:Int)).toNat=j from rfl]) ?_
  exact hk
 ·rw[aK,dG (by tm_at "a")]at hk
  exact hk
 rcases hw with rfl | rfl | rfl
 ·refine' B1 hs ?_
  refine' B7 ?_
  refine' F7 (by tm_at "c") ?_
  refine' F7 (by tm_at "c") ?_
  refine' F7 (by tm_at "c") ?_
  refine' F7 (by tm_at "c") ?_
  refine' A5 (by tm_at "d") ?_
  exact h _ rfl
 ·refine' B1 hs ?_
  refine' B7 ?_
  refine' L8 (by tm_at "c") ?_
  refine' A5 (by tm_at "d") ?_
  exact h _ rfl
 ·refine' B1 hs ?_
  refine' B7 ?_
  refine' F7 (by tm_at "c") ?_
  refine' L8 (by tm_at "c") ?_
  refine' A5 (by tm_at "d") ?_
  exact h _ rfl
end
end
section
section
variable{c:Cx}{m:Lm}{led rest:La}{k:AV->La->Prop}
noncomputable def AY(w:Int)(above r:List Int)(j:Nat):Int:=if w=1 then(if 1<=j then r.getD (j - 1) 0 else 0)else if w=2 then above.getD j 0 else 0
structure Ke(w:Int)(above e r:List Int):Prop where
 len:r.length=e.length
 nxt:∀ j,j < r.length->(e.getD j 0+AY w above r j) % 256=r.getD j 0
theorem EL{w:Int}{above r:List Int}{j:Nat}{x:Int}(h:j < r.length):AY w above (r.take j++[x]) j=AY w above r j:=by
 unfold AY
 split
 ·split
  ·rw[aK,cD (by rw[bK]; exact Nat.lt_min.mpr ⟨by tm_at "a",by tm_at "a"⟩),List.getElem?_take,if_pos (by tm_at "a"),aK]
  ·rfl
 ·rfl
theorem HY{r:List Int}{j:Nat}{x v:Int}(h:j < r.length)(hv:v=r.getD j 0):(r.take j++[x]).set j v=r.take (j+1):=by
 rw[List.set_append_right _ _ (by rw[bK]; exact fT _ _),bK,dH (jC h),iA,List.set_cons_zero,aV,aM h,hv,aK,aM h]
 rfl
noncomputable def H8(rs:List (List Int))(i:Nat):List Int:=if i=0 then []else rs.getD (i - 1) []
noncomputable def F1(w:Int)(es:List (List Int)):List (List Int):=es.map (w:: ·)
theorem Kv{w:Int}{n:Nat}{es:List (List Int)}(h:F8 (n+1) (F1 w es)){i:Nat}(hi:i < es.length):i*(n+1) < (F1 w es).flatten.length/\(F1 w es).flatten.getD (i*(n+1)) 0=w/\((F1 w es).flatten.drop (i*(n+1)+1)).take n=es.getD i []/\(es.getD i []).length<=n:=by
 have hl:(F1 w es).length=es.length:=aQ _
 have h1:=Ad (Nat.succ_pos n) (i:=i) h (by rw[hl]; exact hi)
 have h2:(F1 w es)[i]'(by rw[hl]; exact hi)=w::es.getD i []:=by
  unfold F1; rw[List.getElem_map,aK,aM hi]; rfl
 rw[h2]at h1
 obtain⟨h1,_,h4⟩:=h1
 have h4:(es.getD i []).length+1<=n+1:=h4
 cases e:(F1 w es).flatten.drop (i*(n+1))with
 | nil=>rw[e]at h1; cases h1
 | cons x r=>
  rw[e,List.take_succ_cons,List.cons.injEq]at h1
  have hx:(F1 w es).flatten[i*(n+1)]? =some x:=by
   have:=congrArg (λ l=>l[0]?) e
   simpa using this
  refine⟨(aT.mp hx).1,by rw[aK,hx]; exact h1.1,?_,by lia⟩
  rw[←lA,e,List.drop_succ_cons,jH]; exact h1.2
theorem HG{w:Int}{n:Nat}{es:List (List Int)}(h:F8 (n+1) (F1 w es)):(F1 w es).flatten.length<=es.length*(n+1):=by
 have:=(AE (Nat.succ_pos n) h).1
 rwa [show(F1 w es).length=es.length from aQ _]at this
theorem NP{es rs:List (List Int)}{sh dsh:aJ}{n:Nat}{w:Int}(H:Ok c 4)(hx:(sh,AO.inst 627 dsh)∈led)(hd:(dsh,AC n)∈led)(hn2:n<=1000)(hw:w=0∨w=1∨w=2)(hz:(F1 w es).flatten.length<=1000)(hz2:rs.flatten.length<=1000)(he:F8 (n+1) (F1 w es))(hl:rs.length=es.length)
  (hr:∀ i,i < es.length->Ke w (H8 rs i) (es.getD i []) (rs.getD i [])) (hb:∀ x∈rs.flatten,0<=x/\x < 256) (h:∀ r,r=rs.flatten->k (.bytes r) led):C9 c (.ref 683) [.bytes (F1 w es).flatten,.ref sh] m led k:=by
 refine' C4 [("shape",.ref sh),("octets",.bytes (F1 w es).flatten)] H ?_
 intro c1 O hs hw' hg
 refine' W6 ?_
 refine' m8 O hs ?_
 refine' C3 (ns:=[]) rfl (by decide) (λ F=>?_)
 refine' C3 (ns:=[]) rfl (by decide) (λ A=>?_)
 refine' E4 (aB rfl) (λ D=>?_)
 refine' W4 (by tm_at "b") rfl (i5 hs (by kernel_rfl)) ?_
 refine' a8 ?_
 refine' X8 (σ:=Nat×Int×(aJ×List Int)×List Int) [] (λ⟨_,a,⟨A,_⟩,_⟩=>[("octets",.bytes (F1 w es).flatten),("shape",.ref sh),("found",.ref F),("above",.ref A),("at",.int a)]) (λ⟨_,_,⟨A,ab⟩,fd⟩=>(F,.ints fd)::(A,.ints ab)::led)
  (λ s=>s.1<=es.length/\s.2.1=(s.1*(n+1):Nat)/\s.2.2.1.2=H8 rs s.1/\s.2.2.2=(rs.take s.1).flatten) (λ s=>es.length - s.1) (λ s=>s.2.2.2=rs.flatten) (0,0,(A,[]),[]) O ⟨bG _,by simp,rfl,rfl⟩ ⟨rfl,rfl,rfl,rfl,rfl,trivial⟩ (by tm_at "d") ?_ ?_
 ·(refine MQ λ i a zz210 fd=>?_; revert zz210; refine Eh λ A ab=>?_; intro K K2 hK hK2; refine Wq λ hi ha hab hfd=>?_)
  dsimp only at hi ha hab hfd
  rcases jB i es.length with hlt | hge
  ·refine M7 λ G49 hG49=>?_; obtain⟨w1,w2,w3,w4⟩:=Kv he hlt; refine hG49 ?_
   have hrow:=hr i hlt
   have h3:=Ep (rs:=rs) (i:=i) (by tm_at "a")
   have h4:=w8 (rs:=rs) (i:=i) (by tm_at "a")
   have h5:H8 rs (i+1)=rs.getD i []:=by unfold H8; rw[if_neg (by tm_at "a"),lX]
   have h6:ab.length<=1000:=by
    rw[hab]; unfold H8; split
    ·exact bG _
    ·have:=Ep (rs:=rs) (i:=i - 1) (by tm_at "a"); lia
   have e1:(F1 w es).flatten.getD a.toNat 0=w:=by rw[ha,eD]; exact w2
   have e2:T2 (F1 w es).flatten (some (a+1)) (some (a+1+n))=es.getD i []:=by
    rw[V7 (by tm_at "a") (by tm_at "a"),ha]; exact(congrArg (λ j=>((F1 w es).flatten.drop (i*(n+1)+1)).take j) (cA _ _)).trans w3
   have ha1:0<=a/\a < ((F1 w es).flatten.length:Int):=by lia
   have hnx:a+1+n=((i+1)*(n+1):Nat):=by rw[iZ]; lia
   rw[←hab]at hrow
   rw[←hfd]at h3 h4
   have hrl:=hrow.len
   generalize rs.getD i []=r at hrow h3 h4 h5 hrl
   generalize es.getD i []=e at hrow w3 w4 e2 hrl
   refine' A0 O hs ?_
   refine' N7 (by tm_at "c") ?_
   refine' P9 (by tm_at "c") ?_
   refine' A6 ?_
   refine' K8 (by tm_at "a") (by tm_at "a") (by tm_at "a") e1 (λ V V=>?_)
   refine' B1 hs ?_
   refine' B7 ?_
   refine' S7 (by tm_at "c") ?_
   refine' C3 (ns:=[]) rfl (by decide) (λ R=>?_)
   refine' B1 hs ?_
   refine' F5 ?_
   refine' G6 [] O ?_ (hs:=λ V=>rfl)
   refine' A2 O ?_
   refine' M9 (.int _) (.int _) (by tm_at "a") e2 ?_
   refine' P3 [] (λ V:List Int=>[("octets",.bytes (F1 w es).flatten),("shape",.ref sh),("found",.ref F),("above",.ref A),("at",.int a),("way",.int w),("row",.ref R)]) (λ s=>(R,.ints s)::(F,.ints fd)::(A,.ints ab)::led) (λ j s=>s=r.take j) (λ s=>s=r) [] O (E6 hs rfl rfl) ⟨rfl,rfl,rfl,rfl,rfl,rfl,rfl,trivial⟩ (by tm_at "d") rfl ?_ (λ s hs=>by rw[hs,←hrl,bD]) ?_
   ·rintro j o s rw K hK ho o0 o1 hv
    have hj:j < r.length:=by rw[hrl]; exact(aT.mp ho).1
    have hsl:(s++[o]).length=j+1:=by rw[aI,hv,bK]; show min j r.length+1=j+1; exact congrArg (· +1) (dH (by tm_at "a"))
    have hg:=hrow.nxt j hj
    rw[aK,ho,←EL (x:=o) hj,←hv]at hg
    have hg:(o+AY w ab (s++[o]) j) % 256=r.getD j 0:=hg
    have hsl1:s.length<=1000:=by rw[hv]; exact aS (dL ..) (by tm_at "a")
    refine' D8 ?_
    refine' K1 (by tm_at "b") ?_
    refine' L7 (by tm_at "e") (by tm_at "c") ?_
    refine' O4 ?_
    refine' E5 rfl ?_
    refine' A1 O hs ?_
    refine' A0 O hs ?_
    refine' M2 (by tm_at "b") (by tm_at "c") ?_
    refine' A2 O ?_
    refine' IQ (j:=j) (O.le (by tm_at "a")) (by tm_at "a") (by tm_at "b") (by tm_at "b") (by tm_at "a") (by tm_at "a") h6 hw (λ v hgv=>?_)
    refine' FC (v:=r.getD j 0) (by tm_at "a") (by rw[hgv]; exact hg) ?_
    refine' Fz (j:=j) (by tm_at "e") (.inr (by tm_at "a")) (by tm_at "a") (by tm_at "a") ?_
    (refine' hK _ _ _ ?_; exact go ((s++[o]).set j (r.getD j 0)) (by rw[hv]; exact HY hj rfl) ⟨rfl,rfl,rfl,rfl,rfl,rfl,rfl,trivial⟩ (by tm_at "d"))
   ·rintro s rfl
    refine' V0 (by tm_at "b") ?_
    refine' v8 (by tm_at "e") (by tm_at "b") (by tm_at "c") ?_
    refine' A6 ?_
    refine' B1 hs ?_
    refine' A6 ?_
    refine' A2 O ?_
    refine' B1 hs ?_
    refine' hK _ _ _ ?_; refine' Ht (i+1,_,(R,s),fd++s) ⟨⟨hlt,hnx,h5.symm,h4⟩,gJ hlt (cU i)⟩ ⟨rfl,rfl,rfl,rfl,rfl,trivial⟩ (by tm_at "d")
  ·obtain rfl:i=es.length:=by lia
   have hend:=HG he
   refine' A0 O hs ?_
   refine' N7 (by tm_at "c") ?_
   refine' S7 (by tm_at "c") ?_
   refine' hK2 _ ?_; refine' Ht (es.length,a,(A,ab),fd) (by show fd=rs.flatten; rw[hfd,←hl,bD]) ⟨rfl,rfl,rfl,rfl,rfl,trivial⟩ (by tm_at "d")
 ·(refine MQ λ i a zz216 fd=>?_; revert zz216; refine Eh λ A ab=>?_; intro hfd)
  obtain rfl:fd=rs.flatten:=hfd
  refine' A0 O hs ?_
  refine' H6 O (by tm_at "b") hb (by tm_at "a") ?_
  exact A5 (by tm_at "d") (h _ rfl)
end
end
section
inductive Pk(w n:Int)(ks os:List Int):Prop
 | one:w=1->ks=os->Pk w n ks os
 | tiff (es rs:List (List Int)) (N:Nat):w=2->n=N->0 < N->N<=1000->es.flatten.length<=1000->rs.flatten.length<=1000->F8 N es->rs.length=es.length->(∀ i,i < es.length->Au (es.getD i []) (rs.getD i []))->(∀ x∈rs.flatten,0<=x/\x < 256)->ks=es.flatten->os=rs.flatten->Pk w n ks os
 | png (es rs:List (List Int)) (N:Nat) (v:Int):10<=w->w<=15->n=N->0 < N->N<=1000->(v=0∨v=1∨v=2)->(F1 v es).flatten.length<=1000->rs.flatten.length<=1000->F8 (N+1) (F1 v es)->rs.length=es.length->(∀ i,i < es.length->Ke v (H8 rs i) (es.getD i []) (rs.getD i []))->(∀ x∈rs.flatten,0<=x/\x < 256)->ks=(F1 v es).flatten->os=rs.flatten->Pk w n ks os
section
variable{c:Cx}{m:Lm}{led rest:La}{k:AV->La->Prop}
theorem d9{P:aJ}{es:List (Str×AV)}{x:Str}{dv v:Int}(H:Ok c 2)(hP:(P,AO.sd es)∈led)(hv:(I9 x es).getD (.int dv)= .int v)(h1:1<=v)(h:k (.int v) led):C9 c (.ref 690) [.ref P,.str x,.int dv] m led k:=by
 refine' C4 [("default",.int dv),("key",.str x),("parms",.ref P)] H ?_
 intro c1 O hs hw hg
 refine' A6 ?_
 refine' Q9 (f:=AO.sd) (g:=AV.str) .str (by tm_at "b") ?_
 refine' V1 (f:=AO.sd) (g:=AV.str) O .str (by tm_at "b") hv ?_
 refine' B1 hs ?_
 refine' B7 ?_
 refine' L6 rfl ?_
 refine' G1 ?_
 refine' A0 O hs ?_
 refine' A0 O hs ?_
 (refine' Z4 O rfl ?e ?_; (case e=>kit_is))
 refine' G1 ?_
 refine' A0 O hs ?_
 refine' A0 O hs ?_
 (refine' Z4 O rfl ?e ?_; (case e=>kit_is))
 refine' X3 ?_
 refine' J5 ?_
 refine' S7 (by tm_at "c") ?_
 refine' G1 ?_
 exact A5 (by tm_at "d") h
theorem AH{P:aJ}{es:List (Str×AV)}{n:Int}(H:Ok c 3)(hP:(P,AO.sd es)∈led)(h1:(I9 (aA "BitsPerComponent") es).getD (.int 8)= .int 8)(h2:(I9 (aA "Colors") es).getD (.int 1)= .int 1)(h3:(I9 (aA "Columns") es).getD (.int 1)= .int n)(hn:1<=n)(h:∀ X D,k (.ref X) ((X,.inst 627 D)::(D,AC n)::led)):C9 c (.ref 697) [.ref P] m led k:=by
 refine' C4 [("parms",.ref P)] H ?_
 intro c1 O hs hw hg
 refine' A6 ?_
 refine' A1 O hs ?_
 refine' d9 (O.le (by tm_at "a")) (by tm_at "b") h1 (by tm_at "a") ?_
 refine' B1 hs ?_
 refine' B7 ?_
 refine' A1 O hs ?_
 (refine' Le (ns:=[1,2,4,8,16]) O ?e ?hi ?_; (case e=>k_dflt k_is); (case hi=>tm_at "j"))
 refine' X3 ?_
 refine' d4 rfl ?_
 refine' A1 O hs ?_
 refine' A1 O hs ?_
 refine' d9 (O.le (by tm_at "a")) (by tm_at "b") h2 (by tm_at "a") ?_
 refine' A1 O hs ?_
 refine' d9 (O.le (by tm_at "a")) (by tm_at "b") h3 hn ?_
 refine' IF (O.le (by tm_at "a")) (λ X D=>?_)
 exact A5 (by tm_at "d") (h _ _)
theorem BN{P:aJ}{es:List (Str×AV)}{w n:Int}{ks os:List Int}(H:Ok c 5)(hP:(P,AO.sd es)∈led)(h1:(I9 (aA "BitsPerComponent") es).getD (.int 8)= .int 8)(h2:(I9 (aA "Colors") es).getD (.int 1)= .int 1)(h3:(I9 (aA "Columns") es).getD (.int 1)= .int n)(h4:(I9 (aA "Predictor") es).getD (.int 1)= .int w)(hn:1<=n)(hw:1<=w)(hu:Pk w n ks os)(h:∀ r,r=os->k (.bytes r) led):C9 c (.ref 704) [.bytes ks,.ref P] m led k:=by
 refine' C4 [("parms",.ref P),("octets",.bytes ks)] H ?_
 intro c1 O hs hw' hg
 cases hu with
 | one e1 e2=>
  subst e1
  refine' A6 ?_
  refine' A1 O hs ?_
  refine' d9 (O.le (by tm_at "a")) (by tm_at "b") h4 hw ?_
  refine' B1 hs ?_
  refine' B7 ?_
  refine' L8 (by tm_at "c") ?_
  exact A5 (by tm_at "d") (h _ e2)
 | tiff a b N e1 e2 e3 e4 e5 e6 e7 e8 e9 e10 Wo Bx=>
  subst e1 e2 Wo Bx
  refine' A6 ?_
  refine' A1 O hs ?_
  refine' d9 (O.le (by tm_at "a")) (by tm_at "b") h4 hw ?_
  refine' B1 hs ?_
  refine' B7 ?_
  refine' F7 (by tm_at "c") ?_
  refine' L8 (by tm_at "c") ?_
  refine' A1 O hs ?_
  refine' A1 O hs ?_
  refine' AH (O.le (by tm_at "a")) (by tm_at "b") h1 h2 h3 hn (λ X D=>?_)
  refine' KW (O.le (by tm_at "a")) (by tm_at "b") (by tm_at "b") e3 e4 e5 e6 e7 e8 e9 e10 (λ r hr=>?_)
  exact A5 (by tm_at "d") (h _ hr)
 | png a b N v e0 e1 e2 e3 e4 e5 e6 e6b e7 e8 e9 e10 Wo Bx=>
  subst e2 Wo Bx
  refine' A6 ?_
  refine' A1 O hs ?_
  refine' d9 (O.le (by tm_at "a")) (by tm_at "b") h4 hw ?_
  refine' B1 hs ?_
  refine' B7 ?_
  refine' F7 (by tm_at "c") ?_
  refine' F7 (by tm_at "c") ?_
  refine' P9 (by tm_at "c") ?_
  refine' P9 (by tm_at "c") ?_
  refine' A1 O hs ?_
  refine' A1 O hs ?_
  refine' AH (O.le (by tm_at "a")) (by tm_at "b") h1 h2 h3 hn (λ X D=>?_)
  refine' NP (O.le (by tm_at "a")) (by tm_at "b") (by tm_at "b") e4 e5 e6 e6b e7 e8 e9 e10 (λ r hr=>?_)
  exact A5 (by tm_at "d") (h _ hr)
end
end
section
inductive Pl:Str->List Int->AV->Prop
 | hex (ns:List Int):ns.length<=2000->(∀ n∈ns,0<=n/\n < 256)->Pl (aA "ASCIIHexDecode") ((P1 ns).map J9++[62]) (.bytes ns)
 | b85 (cs o sg ns:List Int):cs.length<=2000->E3 ([],[]) cs=some (o,sg)->((sg=[]/\o=ns)∨(2<=sg.length/\I1 (J1 sg)<=4294967295/\o++R7 sg=ns))->(∀ n∈ns,0<=n/\n < 256)->Pl (aA "ASCII85Decode") (cs++[126,62]) (.bytes ns)
 | run (ns:List Int):ns.length<=2000->(∀ n∈ns,0<=n/\n < 256)->Pl (aA "RunLengthDecode") (X6 ns) (.bytes ns)
 | no (nm:Str) (ks:List Int):(nm== aA "ASCIIHexDecode")=false->(nm== aA "ASCII85Decode")=false->(nm== aA "RunLengthDecode")=false->Pl nm ks .none
section
variable{c:Cx}{m:Lm}{led rest:La}{k:AV->La->Prop}
theorem IS{P:aJ}{es:List (Str×AV)}(H:Ok c 2)(hP:(P,AO.sd es)∈led)(hv:I9 (aA "EarlyChange") es=none)(h:k (.int 1) led):C9 c (.ref 730) [.ref P] m led k:=by
 refine' C4 [("parms",.ref P)] H ?_
 intro c1 O hs hw hg
 refine' A6 ?_
 refine' Q9 .str (by tm_at "b") ?_
 refine' FG (f:=AO.sd) (g:=AV.str) (b:= .none) O .str (by tm_at "b") (by rw[hv]; rfl) ?_
 refine' B1 hs ?_
 refine' B7 ?_
 refine' L6 rfl ?_
 refine' J5 ?_
 exact A5 (by tm_at "d") h
theorem n9{nm:Str}{ks:List Int}{r:AV}(H:Ok c 6)(hp:Pl nm ks r)(h:k r led):C9 c (.ref 737) [.str nm,.bytes ks] m led k:=by
 refine' C4 [("octets",.bytes ks),("name",.str nm)] H ?_
 intro c1 O hs hw hg
 cases hp with
 | hex ns e1 e2=>
  refine' B7 ?_
  refine' P4 ?_
  refine' d4 rfl ?_
  refine' A1 O hs ?_
  refine' NU (O.le (by tm_at "a")) e1 e2 (λ r hr=>?_)
  (subst hr; exact A5 (by tm_at "d") h)
 | b85 cs o sg ns e1 e2 e3 e4=>
  refine' B7 ?_
  refine' P4 ?_
  refine' M0 rfl ?_
  refine' P4 ?_
  refine' d4 rfl ?_
  refine' A1 O hs ?_
  refine' NY (O.le (by tm_at "a")) e1 e2 e3 e4 (λ r hr=>?_)
  (subst hr; exact A5 (by tm_at "d") h)
 | run ns e1 e2=>
  refine' B7 ?_
  refine' P4 ?_
  refine' M0 rfl ?_
  refine' P4 ?_
  refine' M0 rfl ?_
  refine' P4 ?_
  refine' d4 rfl ?_
  refine' A1 O hs ?_
  refine' NN (O.le (by tm_at "a")) e1 e2 (λ r hr=>?_)
  (subst hr; exact A5 (by tm_at "d") h)
 | no nm ks e1 e2 e3=>
  refine' B7 ?_
  refine' P4 ?_
  refine' M0 (by assumption) ?_
  refine' P4 ?_
  refine' M0 (by assumption) ?_
  refine' P4 ?_
  refine' M0 (by assumption) ?_
  exact A5 (by tm_at "d") h
end
end
section
noncomputable def u7:List (Str×AV):=[(aA "AHx",.str (aA "ASCIIHexDecode")),(aA "A85",.str (aA "ASCII85Decode")),(aA "LZW",.str (aA "LZWDecode")),(aA "Fl",.str (aA "FlateDecode")),(aA "RL",.str (aA "RunLengthDecode")),(aA "CCF",.str (aA "CCITTFaxDecode")),(aA "DCT",.str (aA "DCTDecode"))]
section
variable{c:Cx}{m:Lm}{led rest:La}{k:AV->La->Prop}
theorem Lu{x:Str}{r:AV}(H:Ok c 2)(hr:(I9 x u7).getD (.str x)=r)(h:k r led):C9 c (.ref 711) [.str x] m led k:=by
 refine' C4 [("text",.str x)] H ?_
 intro c1 O hs hw hg
 with_reducible refine' A6 ?_ (by kernel_rfl) (by kernel_rfl)
 with_reducible refine' HH ?_
 with_reducible refine' o8 .str (λ X=>?_) (by kernel_rfl) (by kernel_rfl)
 refine'⟨_,rfl,?_⟩
 refine'⟨_,rfl,?_⟩
 refine'⟨_,rfl,?_⟩
 refine'⟨_,rfl,?_⟩
 refine'⟨_,rfl,?_⟩
 refine'⟨_,rfl,?_⟩
 refine'⟨_,rfl,?_⟩
 refine'⟨_,by tm_at "e",by decide+kernel,?_⟩
 refine' B1 hs ?_
 refine' Q9 (f:=AO.sd) (g:=AV.str) .str (by tm_at "b") ?_
 refine' V1 (f:=AO.sd) (g:=AV.str) O .str (by tm_at "b") hr ?_
 exact A5 (by tm_at "d") h
end
end
section
inductive Q7(led:La):AV->Prop
 | none:Q7 led .none
 | int (i:Int):Q7 led (.int i)
 | list (a:aJ) (as:List AV):(a,AO.list as)∈led->Q7 led (.ref a)
 | sd (a:aJ) (es:List (Str×AV)):(a,AO.sd es)∈led->Q7 led (.ref a)
 | name (x d:aJ) (es:List (Str×AV)):(x,AO.inst 520 d)∈led->(d,AO.dict es)∈led->Q7 led (.ref x)
inductive H2(es:List (Int×AV))(led:La):Nat->AV->AV->Prop
 | here {v:AV}:H2 es led 0 v v
 | hop {r d t:aJ} {n g:Int} {i:Nat} {w u:AV}:(r,AO.inst 569 d)∈led->(d,AO.dict [("number",.int n),("generation",.int g)])∈led->I9 n es=some (.ref t)->(t,AO.tup [.int g,w])∈led->H2 es led i w u->H2 es led (i+1) (.ref r) u
theorem Q7.mono{led led':La}{v:AV}(h:∀ q∈led,q∈led')(x:Q7 led v):Q7 led' v:=by
 cases x with
 | none=>exact .none
 | int i=>exact .int i
 | list a as h1=>exact .list a as (h _ h1)
 | sd a es h1=>exact .sd a es (h _ h1)
 | name a d es h1 h2=>exact .name a d es (h _ h1) (h _ h2)
theorem H2.mono{led led':La}{es:List (Int×AV)}{i:Nat}{v u:AV}(h:∀ q∈led,q∈led')(x:H2 es led i v u):H2 es led' i v u:=by
 induction x with
 | here=>exact .here
 | hop a b e t _ ih=>exact .hop (h _ a) (h _ b) e (h _ t) ih
section
variable{c:Cx}{m:Lm}{led rest:La}{k:AV->La->Prop}{d:Nat}
theorem Lc{v:AV}(H:Ok c d)(x:Q7 led v)(h:k (.bool false) led):C9 c (.fn (.builtin "isinstance")) [v,.ref 569] m led k:=by
 cases x with
 | none=>refine' Lo H rfl ?e h; (case e=>kit_is)
 | int i=>refine' Z4 H rfl ?e h; (case e=>kit_is)
 | list a as h1=>refine' FD H h1 (λ o h=>by obtain⟨_,_,rfl,_⟩:=h; rfl) rfl ?e h; (case e=>kit_is)
 | sd a es h1=>refine' Al H h1 rfl ?e h; (case e=>kit_is)
 | name a d es h1 h2=>refine' Ak H h1 h2 rfl ?e ?k4 ?k5 ?k6 ?k7 ?k8 ?k9 h; (case e=>kit_is); (case k4=>k_is); (case k5=>k_is); (case k6=>k_is); (case k7=>k_is); (case k8=>k_is); (case k9=>k_is)
theorem R6{S sd T U:aJ}{es:List (Int×AV)}{i:Nat}{v u:AV}(H:Ok c 2)(hS:(S,AO.inst 605 sd)∈led)(hsd:(sd,AO.dict [("table",.ref T),("trailer",.ref U)])∈led)(hT:(T,AO.kd es)∈led)(hc:H2 es led i v u)(hi:i<=9)(hu:Q7 led u)(h:k u led):C9 c (.ref 595) [.ref S,v] m led k:=by
 refine' C4 [("value",v),("self",.ref S)] H ?_
 intro c1 O hs hw hg
 refine' A6 ?_
 refine' B1 hs ?_
 refine' F5 ?_
 refine' G6 [] O ?_ (hs:=λ V=>rfl)
 refine' A0 O hs ?_
 refine' C6 O hs ?_
 refine' H9 (λ D=>?_)
 refine' E8 [] (λ s:AV=>[("here",s),("self",.ref S)]) (λ V=>led) (λ i s=>∃ j,i+j<=9/\H2 es led j s u) (λ s=>False) v 30 O (E6 hs rfl rfl) (.head _) rfl rfl ⟨rfl,rfl,trivial⟩ (by tm_at "d") ⟨i,by tm_at "a",hc⟩ ?_ (λ s ⟨j,h1,_⟩=>by tm_at "a") (λ V h=>h.elim)
 rintro i s rw K hK hi ⟨j,h1,h2⟩
 cases h2 with
 | here=>
  refine' B7 ?_
  refine' A0 O hs ?_
  refine' A1 O hs ?_
  refine' Lc O (hu.mono λ V h=>aG _ h) ?_
  refine' X3 ?_
  refine' G1 ?_
  (refine' hK _ _ _ ?_; exact A5 (by tm_at "d") h)
 | @hop r d t n g j' w u h2 h3 h4 h5 h6=>
  refine' B7 ?_
  refine' A0 O hs ?_
  refine' A1 O hs ?_
  (refine' Ak O (C:=569) (by tm_at "b") (by tm_at "b") rfl ?e ?k4 ?k5 ?k6 ?k7 ?k8 ?k9 ?_; (case e=>kit_is); (case k4=>k_is); (case k5=>k_is); (case k6=>k_is); (case k7=>k_is); (case k8=>k_is); (case k9=>k_is))
  refine' X3 ?_
  refine' J5 ?_
  refine' m9 O hs ?_
  refine' A2 O ?_
  refine' Q9 (f:=AO.kd) (g:=AV.int) .int (by tm_at "b") ?_
  refine' A2 O ?_
  refine' E4 (aB rfl) (λ D=>?_)
  refine' V1 (f:=AO.kd) (g:=AV.int) (b:= .ref t) O .int (by tm_at "b") (by rw[h4]; rfl) ?_
  refine' W4 (by tm_at "b") rfl (i5 hs (by kernel_rfl)) ?_
  refine' A2 O ?_
  refine' W9 (by tm_at "c") ?_
  refine' B1 hs ?_
  (refine' hK _ _ _ ?_; exact go w ⟨j',by tm_at "a",h6⟩ ⟨rfl,rfl,trivial⟩ (by tm_at "d"))
theorem b8{S sd T U Hd:aJ}{es:List (Int×AV)}{hs:List (Str×AV)}{i:Nat}{v u:AV}{x:Str}(H:Ok c 3)(hS:(S,AO.inst 605 sd)∈led)(hsd:(sd,AO.dict [("table",.ref T),("trailer",.ref U)])∈led)(hT:(T,AO.kd es)∈led)(hH:(Hd,AO.sd hs)∈led)(hv:(I9 x hs).getD .none=v)(hc:H2 es led i v u)(hi:i<=9)(hu:Q7 led u)(h:k u led):C9 c (.ref 602) [.ref S,.ref Hd,.str x] m led k:=by
 refine' C4 [("key",.str x),("head",.ref Hd),("self",.ref S)] H ?_
 intro c1 O hs hw hg
 refine' C7 O ?_
 refine' Q9 (f:=AO.sd) (g:=AV.str) .str (by tm_at "b") ?_
 refine' FG (f:=AO.sd) (g:=AV.str) O .str (by tm_at "b") hv ?_
 refine' R6 (O.le (by tm_at "a")) (by tm_at "b") (by tm_at "b") (by tm_at "b") hc hi hu ?_
 exact A5 (by tm_at "d") h
end
end
section
noncomputable def PE(p:aJ×AO):Prop:=(∃ as,p.2= .list as)∨∃ es,p.2= .sd es
theorem PE.no{p q:aJ×AO}(h:PE p)(hq:¬ PE q):q.2≠p.2:=λ e=>hq (by unfold PE; rw[e]; exact h)
theorem H2.pick{es:List (Int×AV)}{led r:La}{p:aJ×AO}{i:Nat}{v u:AV}(hp:C1 p led r)(e:PE p)(x:H2 es led i v u):H2 es r i v u:=by
 induction x with
 | here=>exact .here
 | hop a b e1 t _ ih=>exact .hop (hp.other a (e.no (λ x=>by obtain⟨_,x⟩ | ⟨_,x⟩:=x<;>cases x))) (hp.other b (e.no (λ x=>by obtain⟨_,x⟩ | ⟨_,x⟩:=x<;>cases x))) e1 (hp.other t (e.no (λ x=>by obtain⟨_,x⟩ | ⟨_,x⟩:=x<;>cases x))) ih
inductive O5(es:List (Int×AV))(led:La):AV->Str->Prop
 | mk {v:AV} {x d:aJ} {t f:Str} {i:Nat}:H2 es led i v (.ref x)->i<=9->(x,AO.inst 520 d)∈led->(d,AO.dict [("text",.str t)])∈led->(I9 t u7).getD (.str t)= .str f->O5 es led v f
inductive E9(es:List (Int×AV))(led:La):List AV->List Str->Prop
 | nil:E9 es led [] []
 | cons {v:AV} {f:Str} {vs:List AV} {fs:List Str}:O5 es led v f->E9 es led vs fs->E9 es led (v::vs) (f::fs)
inductive F9(es:List (Int×AV))(led:La):AV->List Str->Prop
 | none {v:AV} {i:Nat}:H2 es led i v .none->i<=9->F9 es led v []
 | one {v:AV} {f:Str}:O5 es led v f->F9 es led v [f]
 | list {v:AV} {l:aJ} {vs:List AV} {fs:List Str} {i:Nat} {r:La}:H2 es led i v (.ref l)->i<=9->C1 (l,.list vs) led r->E9 es led vs fs->F9 es led v fs
theorem O5.mono{led led':La}{es:List (Int×AV)}{v:AV}{f:Str}(h:∀ q∈led,q∈led')(x:O5 es led v f):O5 es led' v f:=by
 obtain⟨a,b,e,d,g⟩:=x
 exact .mk (a.mono h) b (h _ e) (h _ d) g
theorem O5.pick{led r:La}{l:aJ}{as:List AV}{es:List (Int×AV)}{v:AV}{f:Str}(hp:C1 (l,.list as) led r)(x:O5 es led v f):O5 es r v f:=by
 refine M7 λ G53 hG53=>?_; obtain⟨a,b,e,d,g⟩:=x; refine hG53 ?_
 exact .mk (a.pick hp (.inl ⟨_,rfl⟩)) b (hp.other e (λ e=>by cases e)) (hp.other d (λ e=>by cases e)) g
theorem E9.pick{led r:La}{l:aJ}{as:List AV}{es:List (Int×AV)}{vs:List AV}{fs:List Str}(hp:C1 (l,.list as) led r)(x:E9 es led vs fs):E9 es r vs fs:=by
 induction x with
 | nil=>exact .nil
 | cons h _ ih=>exact .cons (h.pick hp) ih
theorem E9.at{led:La}{es:List (Int×AV)}{vs:List AV}{fs:List Str}(x:E9 es led vs fs):vs.length=fs.length/\∀ {i:Nat} {v:AV},vs[i]? =some v->∃ f,fs[i]? =some f/\O5 es led v f:=by
 induction x with
 | nil=>exact⟨rfl,λ h=>by cases h⟩
 | cons h _ ih=>
  refine⟨congrArg (· +1) ih.1,λ{i v} e=>?_⟩
  cases i with
  | zero=>cases e; exact⟨_,rfl,h⟩
  | succ i=>exact ih.2 e
section
variable{c:Cx}{m:Lm}{led rest:La}{k:AV->La->Prop}{d:Nat}
inductive Kk(led:La):AV->Bool->Prop
 | int (i:Int):Kk led (.int i) false
 | list (a:aJ) (as:List AV):(a,AO.list as)∈led->Kk led (.ref a) true
 | sd (a:aJ) (es:List (Str×AV)):(a,AO.sd es)∈led->Kk led (.ref a) false
 | name (x d:aJ) (es:List (Str×AV)):(x,AO.inst 520 d)∈led->(d,AO.dict es)∈led->Kk led (.ref x) false
theorem Kk.mono{led led':La}{v:AV}{b:Bool}(h:∀ q∈led,q∈led')(x:Kk led v b):Kk led' v b:=by
 cases x with
 | int i=>exact .int i
 | list a as h1=>exact .list a as (h _ h1)
 | sd a es h1=>exact .sd a es (h _ h1)
 | name a d es h1 h2=>exact .name a d es (h _ h1) (h _ h2)
theorem v6{v:AV}{b:Bool}(H:Ok c d)(x:Kk led v b)(h:k (.bool b) led):C9 c (.fn (.builtin "isinstance")) [v,.fn (.type "list")] m led k:=by
 cases x with
 | int i=>refine' Z4 H rfl ?e h; (case e=>kit_is)
 | list a as h1=>refine' FD H h1 (λ o h=>by obtain⟨_,_,rfl,_⟩:=h; rfl) rfl ?e h; (case e=>kit_is)
 | sd a es h1=>refine' Al H h1 rfl ?e h; (case e=>kit_is)
 | name a d es h1 h2=>refine' Ak H h1 h2 rfl ?e ?k4 ?k5 ?k6 ?k7 ?k8 ?k9 h; (case e=>kit_is); (case k4=>k_is); (case k5=>k_is); (case k6=>k_is); (case k7=>k_is); (case k8=>k_is); (case k9=>k_is)
theorem X9{S sd T U Hd:aJ}{es:List (Int×AV)}{hs:List (Str×AV)}{v:AV}{fs:List Str}(H:Ok c 4)(hS:(S,AO.inst 605 sd)∈led)(hsd:(sd,AO.dict [("table",.ref T),("trailer",.ref U)])∈led)(hT:(T,AO.kd es)∈led)(hH:(Hd,AO.sd hs)∈led)(hv:(I9 (aA "Filter") hs).getD .none=v)(hc:F9 es led v fs)(hz:fs.length<=100)(h:∀ D,k (.ref D) ((D,.list (fs.map .str))::led)):C9 c (.ref 718) [.ref S,.ref Hd] m led k:=by
 refine' C4 [("head",.ref Hd),("shelf",.ref S)] H ?_
 intro c1 O hs hw hg
 have hg1:(∃ i,H2 es led i v .none/\i<=9/\fs=[])∨∃ i u b,H2 es led i v (.ref u)/\i<=9/\Q7 led (.ref u)/\Kk led (.ref u) b/\(b=false->∃ f,O5 es led (.ref u) f/\fs=[f])/\(b=true->∃ vs r,C1 (u,.list vs) led r/\E9 es led vs fs):=by
  cases hc with
  | none a b=>exact .inl ⟨_,a,b,rfl⟩
  | one x=>obtain⟨a,b,e,d,g⟩:=x; exact .inr ⟨_,_,_,a,b,.name _ _ _ e d,.name _ _ _ e d,λ V=>⟨_,.mk .here (by tm_at "a") e d g,rfl⟩,(λ e=>by cases e)⟩
  | list a b hp hn=>exact .inr ⟨_,_,_,a,b,.list _ _ hp.mem.1,.list _ _ hp.mem.1,(λ e=>by cases e),λ V=>⟨_,_,hp,hn⟩⟩
 rcases hg1 with ⟨i,a,hi,rfl⟩ | ⟨i,u,b,a,hi,nr,il,h1,h2⟩
 ·refine' A6 ?_
  refine' C7 O ?_
  refine' b8 (O.le (by tm_at "a")) (by tm_at "b") (by tm_at "b") (by tm_at "b") (by tm_at "b") hv a hi .none ?_
  refine' B1 hs ?_
  refine' B7 ?_
  refine' L6 rfl ?_
  refine' J5 ?_
  refine' H3 (as:=[]) (aB rfl) (λ N=>?_)
  exact A5 (by tm_at "d") (h _)
 refine' A6 ?_
 refine' C7 O ?_
 refine' b8 (O.le (by tm_at "a")) (by tm_at "b") (by tm_at "b") (by tm_at "b") (by tm_at "b") hv a hi nr ?_
 refine' B1 hs ?_
 refine' B7 ?_
 refine' L6 rfl ?_
 refine' G1 ?_
 refine' H3 (as:=[]) (aB rfl) (λ N=>?_)
 refine' B1 hs ?_
 refine' F5 ?_
 refine' G6 [] O ?_ (hs:=λ V=>rfl)
 refine' A0 O hs ?_
 refine' A0 O hs ?_
 refine' v6 O (il.mono λ V h=> .tail _ h) ?_
 refine' OP (λ v' led'=>∃ l vs r,v'= .ref l/\C1 (l,.list vs) led' ((N,.list [])::r)/\E9 es r vs fs/\(∀ q∈led,(∀ as,q.2≠ .list as)->q∈r)/\Sb (r++[(l,.list vs)]) led) ?_ (λ kk hk e=>?_) (λ kk hk e=>?_)
 ·rintro v' led' ⟨l,vs,r,rfl,hp,hn,hr,hsb⟩
  have hS:=hr _ hS (λ as e=>by cases e)
  have hsd:=hr _ hsd (λ as e=>by cases e)
  have hT:=hr _ hT (λ as e=>by cases e)
  have hl:=hn.at
  refine' P0 [] (λ V:List Str=>[("names",.ref N),("shelf",.ref S)]) (λ s=>(N,.list (s.map .str))::r) (λ i s=>s=fs.take i) (λ s=>s=fs) [] O (E6 hs rfl rfl) hp ⟨rfl,rfl,trivial⟩ .refl rfl ?_ (λ s hs=>by rw[hs,hl.1,bD]) ?_
  ·rintro i a s rw K hK ha hv
   refine M7 λ G54 hG54=>?_; obtain⟨f,hf,hna⟩:=hl.2 ha
   obtain⟨c1,c2,c3,c4,c5⟩:=hna; refine hG54 ?_
   have hle:s.length<=100000:=by rw[hv]; exact aS (dL ..) (by tm_at "a")
   refine' A6 ?_
   refine' C7 O ?_
   refine' R6 (O.le (by tm_at "a")) (by tm_at "b") (by tm_at "b") (by tm_at "b") (c1.mono λ V h=> .tail _ (aG _ h)) c2 (.name _ _ _ (by tm_at "b") (by tm_at "b")) ?_
   refine' B1 hs ?_
   refine' B7 ?_
   refine' A0 O hs ?_
   refine' A1 O hs ?_
   (refine' Ak O (by tm_at "b") (by tm_at "b") rfl ?e ?k4 ?k5 ?k6 ?k7 ?k8 ?k9 ?_; (case e=>kit_is); (case k4=>k_is); (case k5=>k_is); (case k6=>k_is); (case k7=>k_is); (case k8=>k_is); (case k9=>k_is))
   refine' X3 ?_
   refine' J5 ?_
   refine' R5 (by tm_at "b") ?_
   refine' A1 O hs ?_
   refine' A2 O ?_
   refine' Lu (O.le (by tm_at "a")) c5 ?_
   refine' O8 (by tm_at "e") (by rw[aQ]; exact hle) ?_
   (refine' hK _ _ _ ?_; exact go (s++[f]) (by rw[hv,aV,hf]; rfl) ⟨rfl,rfl,trivial⟩ (by rw[bB]; tm_at "d"))
  ·rintro s rfl
   exact A5 (.cons (.head _) hsb) (h _)
 ·refine M7 λ G55 hG55=>?_; obtain⟨vs,r,hp,hn⟩:=h2 e; refine hG55 ?_
  exact hk _ _ ⟨_,vs,r,rfl,.tail hp,hn.pick hp,λ q hq hn=>hp.other hq (hn _),hp.back⟩
 ·obtain⟨f,hn,rfl⟩:=h1 e
  refine' H3 (aB rfl) (λ L=>?_)
  exact hk _ _ ⟨_,_,led,rfl,.head _,.cons hn .nil,λ q hq V=>hq,.left⟩
end
end
section
inductive J0(es:List (Int×AV))(led:La):List (Str×AV)->List (Str×AV)->Prop
 | nil:J0 es led [] []
 | cons {x:Str} {v:AV} {w:Int} {i:Nat} {a b:List (Str×AV)}:H2 es led i v (.int w)->i<=9->J0 es led a b->J0 es led ((x,v)::a) ((x,.int w)::b)
inductive O7(es:List (Int×AV))(led:La):AV->List (Str×AV)->Prop
 | none {v:AV} {i:Nat}:H2 es led i v .none->i<=9->O7 es led v []
 | dict {v:AV} {r:aJ} {i:Nat} {a b:List (Str×AV)}:H2 es led i v (.ref r)->i<=9->(r,AO.sd a)∈led->J0 es led a b->(a.map (·.1)).Nodup->a.length<=10->O7 es led v b
inductive G7(es:List (Int×AV))(led:La):List AV->List (List (Str×AV))->Prop
 | nil:G7 es led [] []
 | cons {v:AV} {b:List (Str×AV)} {vs:List AV} {bs:List (List (Str×AV))}:O7 es led v b->G7 es led vs bs->G7 es led (v::vs) (b::bs)
inductive J8(es:List (Int×AV))(led:La)(n:Nat):AV->List (List (Str×AV))->Prop
 | none {v:AV} {i:Nat}:H2 es led i v .none->i<=9->J8 es led n v (bO n [])
 | one {v:AV} {r:aJ} {i:Nat} {a b:List (Str×AV)}:n=1->H2 es led i v (.ref r)->i<=9->(r,AO.sd a)∈led->J0 es led a b->(a.map (·.1)).Nodup->a.length<=10->J8 es led n v [b]
 | list {v:AV} {l:aJ} {vs:List AV} {bs:List (List (Str×AV))} {i:Nat} {r:La}:vs.length=n->H2 es led i v (.ref l)->i<=9->C1 (l,.list vs) led r->G7 es led vs bs->J8 es led n v bs
theorem J0.pick{es:List (Int×AV)}{led r:La}{p:aJ×AO}(hp:C1 p led r)(e:PE p){a b:List (Str×AV)}(x:J0 es led a b):J0 es r a b:=by
 induction x with
 | nil=>exact .nil
 | cons h hi _ ih=>exact .cons (h.pick hp e) hi ih
theorem J0.mono{led led':La}{es:List (Int×AV)}{a b:List (Str×AV)}(h:∀ q∈led,q∈led')(x:J0 es led a b):J0 es led' a b:=by
 induction x with
 | nil=>exact .nil
 | cons h' hi _ ih=>exact .cons (h'.mono h) hi ih
theorem J0.at{es:List (Int×AV)}{led:La}{a b:List (Str×AV)}(x:J0 es led a b):a.length=b.length/\a.map (·.1)=b.map (·.1)/\∀ {i:Nat} {e:Str×AV},a[i]? =some e->∃ w j,H2 es led j e.2 (.int w)/\j<=9/\b[i]? =some (e.1,.int w):=by
 induction x with
 | nil=>exact⟨rfl,rfl,λ h=>by cases h⟩
 | cons h hi _ ih=>
  refine⟨congrArg (· +1) ih.1,congrArg (_:: ·) ih.2.1,λ{i e} q=>?_⟩
  cases i with
  | zero=>cases q; exact⟨_,_,h,hi,rfl⟩
  | succ i=>exact ih.2.2 q
theorem O7.pick{es:List (Int×AV)}{led r:La}{l:aJ}{as:List AV}(hp:C1 (l,.list as) led r){v:AV}{b:List (Str×AV)}(x:O7 es led v b):O7 es r v b:=by
 cases x with
 | none h hi=>exact .none (h.pick hp (.inl ⟨_,rfl⟩)) hi
 | dict h hi hm hv hn hz=>exact .dict (h.pick hp (.inl ⟨_,rfl⟩)) hi (hp.other hm (λ e=>by cases e)) (hv.pick hp (.inl ⟨_,rfl⟩)) hn hz
theorem G7.pick{es:List (Int×AV)}{led r:La}{l:aJ}{as:List AV}(hp:C1 (l,.list as) led r){vs:List AV}{bs:List (List (Str×AV))}(x:G7 es led vs bs):G7 es r vs bs:=by
 induction x with
 | nil=>exact .nil
 | cons h _ ih=>exact .cons (h.pick hp) ih
theorem G7.at{es:List (Int×AV)}{led:La}{vs:List AV}{bs:List (List (Str×AV))}(x:G7 es led vs bs):vs.length=bs.length/\∀ {i:Nat} {v:AV},vs[i]? =some v->∃ b,bs[i]? =some b/\O7 es led v b:=by
 induction x with
 | nil=>exact⟨rfl,λ h=>by cases h⟩
 | cons h _ ih=>
  refine⟨congrArg (· +1) ih.1,λ{i v} q=>?_⟩
  cases i with
  | zero=>cases q; exact⟨_,rfl,h⟩
  | succ i=>exact ih.2 q
theorem Jj{κ:Type} [DecidableEq κ]{a:List (κ×AV)}{i:Nat}{e:κ×AV}(hn:(a.map (·.1)).Nodup)(h:a[i]? =some e):I9 e.1 a=some e.2:=by
 induction a generalizing i with
 | nil=>exact nn h
 | cons p r ih=>
  have hn:=aZ.mp hn
  unfold I9
  induction i with
  | zero=>
   obtain rfl:p=e:=aU h
   exact if_pos rfl
  | succ i=>exact(if_neg λ q:e.1=p.1=>hn.1 (show p.1∈r.map (·.1)from q▸aY (f:=(·.1)) (bT (l:=r) h))).trans (ih hn.2 h)
inductive DL:List (List (Str×AV))->List aJ->La->Prop
 | nil:DL [] [] []
 | snoc {bs:List (List (Str×AV))} {xs:List aJ} {dl:La} {b:List (Str×AV)} {x:aJ}:DL bs xs dl->DL (bs++[b]) (xs++[x]) ((x,.sd b)::dl)
theorem DL.at{bs:List (List (Str×AV))}{xs:List aJ}{dl:La}(x:DL bs xs dl):xs.length=bs.length/\∀ {i:Nat} {a:aJ},xs[i]? =some a->∃ b,bs[i]? =some b/\(a,AO.sd b)∈dl:=by
 induction x with
 | nil=>exact⟨rfl,λ h=>by cases h⟩
 | @snoc bs xs dl b x _ ih=>
  refine⟨by rw[aI,aI,ih.1]; rfl,λ{i a} q=>?_⟩
  rcases jB i xs.length with hi | hi
  ·rw[cD hi]at q
   refine M7 λ G61 hG61=>?_; obtain⟨b',h1,h2⟩:=ih.2 q; refine hG61 ?_
   exact⟨b',by rw[cD (by rw[←ih.1]; exact hi)]; exact h1,.tail _ h2⟩
  ·rw[cF hi]at q
   have e:i - xs.length=0:=by
    have:=(aT.mp q).1
    rw[fU]at this; lia
   rw[e]at q; cases q
   exact⟨b,by rw[cF (by rw[←ih.1]; exact hi),←ih.1,e]; rfl,.head _⟩
theorem K6.snoc{led:La}{as:List AV}{es:List (Str×AV)}{T:aJ}{x:Str}{v:AV}(h:K6 led AV.str as es):K6 ((T,.tup [.str x,v])::led) AV.str (as++[.ref T]) (es++[(x,v)]):=by
 induction h with
 | nil=>exact .cons (.head _) .nil
 | cons hT _ ih=>exact .cons (.tail _ hT) ih
theorem K6.mono{led led':La}{as:List AV}{es:List (Str×AV)}(hm:∀ q∈led,q∈led')(h:K6 led AV.str as es):K6 led' AV.str as es:=by
 induction h with
 | nil=>exact .nil
 | cons hT _ ih=>exact .cons (hm _ hT) ih
section
variable{c:Cx}{m:Lm}{led rest:La}{k:AV->La->Prop}{d:Nat}
theorem VW{q:aJ×AO}{r r' dl rw t:La}(hp:C1 q r r'):Sb ((dl++r'++rw++t)++[q]) (dl++r++rw):=⟨t,by
 refine List.perm_append_comm.trans (List.Perm.trans ?_ ((hp.perm.append_left dl).append_right rw |>.append_right t).symm)
 show(q::(dl++r'++rw++t)).Perm _
 rw[aP,aP,aP,aP]
 exact gB.symm⟩
theorem y7{w:bP}{x:Str}{v:aF}(h:(lL PG w).is x v=true):Rl (.str x) v:=by
 cases v<;>simp[lL,Value.isStrOf]at h
 subst h; exact⟨_,rfl⟩
theorem WG{p:aJ×AO}{a t rw:La}:Sb (p::(a++t++rw)) ((a++(p::t))++rw):= .of (by
 rw[aP,aP]; exact gB.symm)
theorem AI{S0:cB}{W1 W2 q S sd T U:aJ}{es:List (Int×AV)}{a b:List (Str×AV)}{p1 p2 p4 p5 p6 p8 p9 pa pos:Pos}{x8:Nat}(H:Ok c 3)(hS:c.env.scope=S0)(hcl:c.env.cells=[(aA "row",W1),(aA "shelf",W2)])
  (hrel:relabel ⟨.function,[(aA ".0",.local),(aA "key",.local),(aA "row",.free),(aA "shelf",.free)],false,false,[]⟩ (envOf "" S0 0 0 .none)=⟨.function,[(aA ".0",.local),(aA "key",.local),(aA "row",.cell),(aA "shelf",.cell)],false,false,[]⟩)
  (hlk:S0.names.lookup (aA "row")=some .cell) (hm:lk (aA "row") m=none) (hp:C1 (q,.sd a) led rest) (hW1:(W1,AO.cell (some (.ref q)))∈led) (hW1':(W1,AO.cell (some (.ref q)))∈rest) (hW2:(W2,AO.cell (some (.ref S)))∈rest) (hSS:(S,AO.inst 605 sd)∈rest) (hsd:(sd,AO.dict [("table",.ref T),("trailer",.ref U)])∈rest) (hT:(T,AO.kd es)∈rest) (hv:J0 es rest a b) (hn:(a.map (·.1)).Nodup) (hz:a.length<=10)
  (hcc:closureFor ⟨.function,[(aA ".0",.local),(aA "key",.local),(aA "row",.free),(aA "shelf",.free)],false,false,[]⟩ {envOf "" ⟨.function,[(aA ".0",.local),(aA "key",.local),(aA "row",.free),(aA "shelf",.free)],false,false,[]⟩ 0 0 .none with cells:=[(aA "row",W1),(aA "shelf",W2)]}=pure [(aA "shelf",W2),(aA "row",W1)])
  (h:∀ D t ys,K6 t AV.str ys b->k (.ref D) ((D,.list ys)::(rest++t)++[(q,.sd a)])):
  Y3 c (.ListComp (.Tuple [.Name (aA "key") p1,.Call (.Attribute (.Name (aA "shelf") p2) (aA "fetch") ⟨616,33,616,44⟩) [.Subscript (.Name (aA "row") p4) (.Name (aA "key") p5) p6] [] ⟨616,33,616,54⟩] x8 p8) [⟨.Name (aA "key") p9,.Name (aA "row") pa,[],0⟩] ⟨.function,[(aA ".0",.local),(aA "key",.local),(aA "row",.free),(aA "shelf",.free)],false,false,[]⟩ pos) m led k:=by
 have hva:=hv.at
 refine' K3 ?_ ((H4 hcl).trans hcc) rfl (by kernel_rfl)
 show(match lk (aA "row") m with | some v=>_ | none=>Y3 c (.Name (aA "row") pa) m led _)
 rw[hm]
 refine' A3 H hS hcl ?_ (hx:=hlk.symm) (hm:=hW1)
 refine' Bl (xs:=[aA "key"]) (FO H .str (λ h=>y7 h) hp) (λ t=>rest++t) (λ i t ys=>K6 t AV.str ys (b.take i)) [] H hS (by rw[bA]; exact .refl) .nil rfl (by kernel_rfl) (λ c2 h=> .name (h _ (.head _))) (λ i as ⟨e,_,h⟩=>by rw[h]; rfl) (by kernel_rfl) (by tm_at "a") ?_ ?_
 ·(intro c2 O h2; refine EQ λ hw2 V=>?_; intro hc i as t ys rw; refine Bx λ kp zz92 hrw=>?_; intro hi; refine Bx λ zz93 hxa zz94=>?_; intro hP hy; obtain⟨o,ho,hkp⟩:=zz92; subst zz94; obtain⟨x,v⟩:=zz93)
  have hs:=h2.trans hrel
  refine M7 λ G62 hG62=>?_; obtain⟨w,j,c1,c2',hb⟩:=hva.2.2 hxa; refine hG62 ?_
  have hro:(q,AO.raw o)∈rw:=hrw _ (aY (f:=λ p:aJ×Obj=>(p.1,AO.raw p.2)) hkp)
  have hW1:=aG t hW1'
  have hW2:=aG t hW2
  have hSS:=aG t hSS
  have hsd:=aG t hsd
  have hT:=aG t hT
  have hro:=aC (rest++t) hro
  have ho:L9 c2.w (.sd a) o:=hw2▸ho
  have hlt:i < b.length:=(aT.mp hb).1
  refine' A3 O hs hc ?_
  refine' C7 O ?_
  refine' A3 O hs hc ?_
  refine' BU (f:=AO.sd) (g:=AV.str) .str ho (by tm_at "b") (Jj hn hxa) ?_
  refine' R6 (O.le (by tm_at "a")) (by tm_at "b") (by tm_at "b") (by tm_at "b") (c1.mono λ q hq=>aG _ (aG _ hq)) c2' (.int _) ?_
  refine' E4 (aB rfl) (λ D=>?_)
  exact Hu ((D,.tup [.str x,.int w])::t) (by rw[aV,hb]; exact hP.snoc) WG
 ·intro t ys D hP
  rw[hva.1,bD]at hP
  exact⟨_,λ V h=>h,h D t ys hP⟩
theorem BS{S sd T U Hd:aJ}{es:List (Int×AV)}{hds:List (Str×AV)}{v:AV}{n:Nat}{bs:List (List (Str×AV))}(H:Ok c 4)(hS:(S,AO.inst 605 sd)∈led)(hsd:(sd,AO.dict [("table",.ref T),("trailer",.ref U)])∈led)(hT:(T,AO.kd es)∈led)(hH:(Hd,AO.sd hds)∈led)(hv:(I9 (aA "DecodeParms") hds).getD .none=v)(hpa:J8 es led n v bs)(hz:n<=100)(h:∀ D xs dl,DL bs xs dl->k (.ref D) ((D,.list (xs.map .ref))::(dl++led))):C9 c (.ref 723) [.ref S,.ref Hd,.int n] m led k:=by
 refine' Q3 [("count",.int n),("head",.ref Hd),("shelf",.ref S)] [("count",.int n),("head",.ref Hd)] [("row",none),("shelf",some (.ref S))] H ?_
 intro c1 O hs hw hg W1 W2 hc
 have hg1:(∃ i,H2 es led i v .none/\i<=9/\bs=bO n [])∨∃ i u b,H2 es led i v (.ref u)/\i<=9/\Q7 led (.ref u)/\Kk led (.ref u) b/\(b=false->∃ b,O7 es led (.ref u) b/\bs=[b]/\n=1)/\(b=true->∃ vs r,C1 (u,.list vs) led r/\G7 es led vs bs/\vs.length=n):=by
  cases hpa with
  | none a b=>exact .inl ⟨_,a,b,rfl⟩
  | one e a b hm hv hn hz=>exact .inr ⟨_,_,_,a,b,.sd _ _ hm,.sd _ _ hm,λ V=>⟨_,.dict .here (bG _) hm hv hn hz,rfl,e⟩,(λ e=>by cases e)⟩
  | list e a b hp hn=>exact .inr ⟨_,_,_,a,b,.list _ _ hp.mem.1,.list _ _ hp.mem.1,(λ e=>by cases e),λ V=>⟨_,_,hp,hn,e⟩⟩
 rcases hg1 with ⟨i,a,hi,rfl⟩ | ⟨i,u,b,a,hi,nr,il,h1,h2⟩
 ·refine' A6 ?_
  refine' A3 O hs hc ?_
  refine' C7 O ?_
  refine' b8 (O.le (by tm_at "a")) (by tm_at "b") (by tm_at "b") (by tm_at "b") (by tm_at "b") hv (a.mono λ V h=> .tail _ (.tail _ h)) hi .none ?_
  refine' B1 hs ?_
  refine' B7 ?_
  refine' L6 rfl ?_
  refine' J5 ?_
  refine' K3 ?_ ((H4 hc).trans rfl) rfl (by kernel_rfl)
  refine' A0 O hs ?_
  refine' H9 (λ D=>?_)
  refine' s6 (P7 n O (.head _) (Bz (by tm_at "a")).1 (Bz (by tm_at "a")).2) (λ s:La=>s++((W1,.cell none)::(W2,.cell (some (.ref S)))::led)) (λ i s ys=>∃ xs,ys=xs.map .ref/\DL (bO i []) xs s) [] O hs (by tm_at "d") ⟨[],rfl,.nil⟩ rfl rfl rfl (by kernel_rfl) (by tm_at "a") ?_ ?_
  ·clear O hs hc
   (intro c2 O hs hw2 hc i a t ys rw hi zz108; refine Bx λ xs zz109 hd=>?_; intro hyl; subst zz108; subst zz109)
   refine' P5 .str (λ X=>?_)
   exact Hu ((X,.sd [])::t) ⟨xs++[X],by rw[bB]; rfl,by rw[kZ]; exact hd.snoc⟩ (by tm_at "d")
  ·(intro t ys D; refine Bx λ xs zz119 hd=>?_; subst zz119)
   refine'⟨_,λ V h=>h,?_⟩
   exact A5 (.cons (.head _) (Sb.left.trans (Sb.pre (.drop (.drop .refl))))) (h _ _ _ hd)
 refine' A6 ?_
 refine' A3 O hs hc ?_
 refine' C7 O ?_
 refine' b8 (O.le (by tm_at "a")) (by tm_at "b") (by tm_at "b") (by tm_at "b") (by tm_at "b") hv (a.mono λ V h=> .tail _ (.tail _ h)) hi (nr.mono λ V h=> .tail _ (.tail _ h)) ?_
 refine' B1 hs ?_
 refine' B7 ?_
 refine' L6 rfl ?_
 refine' G1 ?_
 refine' A0 O hs ?_
 refine' A0 O hs ?_
 refine' v6 O (il.mono λ V h=> .tail _ (.tail _ h)) ?_
 refine' OP (λ v' led'=>∃ l vs r,v'= .ref l/\C1 (l,.list vs) led' ((W1,.cell none)::(W2,.cell (some (.ref S)))::r)/\G7 es r vs bs/\vs.length=n/\(∀ q∈led,(∀ as,q.2≠ .list as)->q∈r)/\Sb (r++[(l,.list vs)]) led) ?_ (λ kk hk e=>?_) (λ kk hk e=>?_)
 ·rintro v' led' ⟨l,vs,r,rfl,hp,hn,hl,hr,hsb⟩
  have hS:=hr _ hS (λ as e=>by cases e)
  have hsd:=hr _ hsd (λ as e=>by cases e)
  have hT:=hr _ hT (λ as e=>by cases e)
  have hat:=hn.at
  refine' B1 hs ?_
  refine' B7 ?_
  refine' A0 O hs ?_
  refine' N3 hp.mem.1 (by tm_at "a") ?_
  refine' W9 (by tm_at "c") ?_
  refine' H3 (as:=[]) (aB rfl) (λ F=>?_)
  refine' B1 hs ?_
  refine' F5 ?_
  refine' G6 ["row","shelf"] O ?_ (hs:=λ V=>rfl)
  refine' P0 ["row","shelf"] (λ V:Option AV×List aJ×La=>[("found",.ref F)]) (λ s=>(F,.list (s.2.1.map .ref))::(W1,.cell s.1)::(W2,.cell (some (.ref S)))::(s.2.2++r)) (λ i s=>DL (bs.take i) s.2.1 s.2.2) (λ s=>DL bs s.2.1 s.2.2) (none,[],[]) O (E6 hs rfl rfl) (.tail hp) ⟨rfl,trivial⟩ .refl .nil ?_ (λ s hs=>by rw[hat.1,bD]at hs; exact hs) ?_
  ·(intro i a; refine Bw λ o xs dl=>?_; intro rw K hK ha hd)
   obtain⟨b,hb,hra⟩:=hat.2 ha
   have hS0:=hS
   have hsd0:=hsd
   have hT0:=hT
   have hS:=aC dl hS
   have hsd:=aC dl hsd
   have hT:=aC dl hT
   have hle:xs.length<=100000:=by rw[hd.at.1]; exact aS (dL ..) (by tm_at "a")
   cases hra with
   | none h1 h2=>
    refine' M8 ?_
    refine' A3 O hs hc ?_
    refine' C7 O ?_
    refine' R6 (O.le (by tm_at "a")) (by tm_at "b") (by tm_at "b") (by tm_at "b") (h1.mono λ q hq=>by have hq:=aC dl hq; tm_at "b") h2 .none ?_
    refine' I2 O hs rfl hc rfl (by tm_at "e") ?_
    refine' B7 ?_
    refine' A3 O hs hc ?_
    refine' L6 rfl ?_
    refine' J5 ?_
    refine' M8 ?_
    refine' P5 .str (λ X=>?_)
    refine' I2 O hs rfl hc rfl (by tm_at "e") ?_
    refine' A0 O hs ?_
    refine' A3 O hs hc ?_
    refine' A0 O hs ?_
    (refine' Al O (by tm_at "b") rfl ?e ?_; (case e=>kit_is))
    refine' X3 ?_
    refine' J5 ?_
    refine' R5 (by tm_at "b") ?_
    refine' A0 O hs ?_
    refine' AI O hs hc rfl rfl rfl (.tail (.head _)) (by tm_at "b") (by tm_at "b") (by tm_at "b") (by tm_at "b") (by tm_at "b") (by tm_at "b") .nil .nil (bG _) rfl (λ D t ys hP=>?_)
    refine' AN (g:=AV.str) (f:=AO.sd) O .str (.head _) (hP.mono λ q hq=> .tail _ (aG _ (aC _ hq))) (by simp) (by tm_at "a") (λ Y=>?_)
    refine' O8 (by tm_at "e") (by rw[aQ]; exact hle) ?_
    (refine' hK _ _ _ ?_; exact go (_,xs++[Y],(Y,.sd [])::dl) (by rw[aV,hb]; exact hd.snoc) ⟨rfl,trivial⟩ (by rw[bB]; exact .cons (.head _) (.cons (.tail (.tail (.head _))) (.cons (.tail (.tail (.head _))) (.cons (.head _) (.drop (Sb.left.trans Sb.left)))))))
   | dict h1 h2 h3 h4 h5 h6=>
    have h3':=aC dl h3
    refine' M8 ?_
    refine' A3 O hs hc ?_
    refine' C7 O ?_
    refine' R6 (O.le (by tm_at "a")) (by tm_at "b") (by tm_at "b") (by tm_at "b") (h1.mono λ q hq=>by have hq:=aC dl hq; tm_at "b") h2 (.sd _ _ (by tm_at "b")) ?_
    refine' I2 O hs rfl hc rfl (by tm_at "e") ?_
    refine' B7 ?_
    refine' A3 O hs hc ?_
    refine' L6 rfl ?_
    refine' G1 ?_
    refine' A0 O hs ?_
    refine' A3 O hs hc ?_
    refine' A0 O hs ?_
    (refine' Al O (by tm_at "b") rfl ?e ?_; (case e=>kit_is))
    refine' X3 ?_
    refine' J5 ?_
    refine' R5 (by tm_at "b") ?_
    refine' A0 O hs ?_
    obtain⟨r4,hp4⟩:=C1.ex h3
    have hS:=aC dl (hp4.other hS0 (λ e=>by cases e))
    have hsd:=aC dl (hp4.other hsd0 (λ e=>by cases e))
    have hT:=aC dl (hp4.other hT0 (λ e=>by cases e))
    refine' AI O hs hc rfl rfl rfl (.tail (.tail (.tail (hp4.app'.app)))) (by tm_at "b") (by tm_at "b") (by tm_at "b") (by tm_at "b") (by tm_at "b") (by tm_at "b") ((h4.pick hp4 (.inr ⟨_,rfl⟩)).mono λ q hq=>by have hq:=aC dl hq; tm_at "b") h5 h6 rfl (λ D t ys hP=>?_)
    refine' AN (g:=AV.str) (f:=AO.sd) O .str (.head _) (hP.mono λ q hq=> .tail _ (aG _ (aC _ hq))) (by rw[←h4.at.2.1]; exact h5) (by have:=h4.at.1; tm_at "a") (λ Y=>?_)
    refine' O8 (by tm_at "e") (by rw[aQ]; exact hle) ?_
    (refine' hK _ _ _ ?_; exact go (_,xs++[Y],(Y,.sd b)::dl) (by rw[aV,hb]; exact hd.snoc) ⟨rfl,trivial⟩ (by rw[bB]; exact .cons (.head _) (.cons (.tail (.tail (.head _))) (.cons (.tail (.tail (.head _))) (.cons (.head _) (.drop (VW hp4)))))))
  ·(refine Bw λ o xs dl=>?_; intro hd)
   exact A5 (.cons (.head _) (.drop (.drop (Sb.trans (b:=dl++(r++[(l,.list vs)])) (by rw[←aP]; exact .refl) (Sb.pre hsb))))) (h _ _ _ hd)
 ·obtain⟨vs,r,hp,hn,hl⟩:=h2 e
  exact hk _ _ ⟨_,vs,r,rfl,.tail (.tail hp),hn.pick hp,hl,λ q hq hn=>hp.other hq (hn _),hp.back⟩
 ·obtain⟨b,hn,rfl,rfl⟩:=h1 e
  refine' H3 (aB rfl) (λ L=>?_)
  exact hk _ _ ⟨_,_,led,rfl,.head _,.cons hn .nil,rfl,λ q hq V=>hq,.left⟩
end
end
section
section
variable{c:Cx}{m:Lm}{led rest:La}{k:AV->La->Prop}
theorem Lp{O1 x dx:aJ}{ks ms:List Int}{a n:Int}(hb:c.b)(H:Ok c 8)(hO:C1 (O1,.barr []) led rest){rest2:La}(hdx:C1 (dx,O0 ks a 0 0) rest rest2)(hx:(x,AO.inst 169 dx)∈rest2)(hz:ks.length<=100000)(ha:0<=a)(hn0:0<=n)(hn1:n<=10000)(hn:n+5<=(ks.length:Int) - a)(h1:ks.getD a.toNat 0=1)
  (e0:ks.getD (a+1).toNat 0=n % 256) (e1:ks.getD (a+1+1).toNat 0=n / 256) (e2:ks.getD (a+1+1+1).toNat 0=255 - n % 256) (e3:ks.getD (a+1+1+1+1).toNat 0=255 - n / 256)
  (hm:T2 ks (some (a+1+1+1+1+1+n - n)) (some (a+1+1+1+1+1+n))=ms) (hml:ms.length<=10000) (h:k .none ((O1,.barr ms)::(dx,O0 ks (a+1+1+1+1+1+n) 0 0)::rest2)):C9 c (.ref 374) [.ref O1,.ref x] m led k:=by
 refine' C9.perm hO ?_
 refine' C4 [("bits",.ref x),("out",.ref O1)] H ?_
 intro c1 O hs hw hg
 have hb:c1.b:=hw.2▸hb
 refine' A6 ?_
 refine' A1 O hs ?_
 refine' Ew (O.le (by tm_at "a")) (λ R1=>?_)
 refine' A1 O hs ?_
 refine' Dr (O.le (by tm_at "a")) (λ R2=>?_)
 refine' E4 (aB rfl) (λ D=>?_)
 refine' B1 hs ?_
 refine' A6 ?_
 refine' B1 hs ?_
 refine' a8 ?_
 refine' X8 (σ:=Bool×List Int×Int) [] (λ⟨f,_,_⟩=>[("is_last",.bool f),("bits",.ref x),("out",.ref O1)]) (λ⟨_,os,p⟩=>(O1,.barr os)::(dx,O0 ks p 0 0)::rest2) (λ s=>s=(false,[],a)∨s=(true,ms,a+1+1+1+1+1+n)) (λ s=>if s.1 then 0 else 1) (λ s=>s=(true,ms,a+1+1+1+1+1+n)) (false,[],a) O (.inl rfl) ⟨rfl,rfl,rfl,trivial⟩ (.drop (.cons (.head _) (.cons hdx .refl))) ?_ ?_
 ·rintro s K K2 hK hK2 (rfl | rfl)
  ·have f1:Z9 ks 1 1 a 0 0=(a+1,1,8):=by
    show(if(0:Int) < 1 then _ else _)=_
    rw[if_pos (by decide)]
    show(a+1,(0:Int)+ks.getD a.toNat 0*2 ^ (0:Int).toNat,(0:Int)+8)=_
    rw[h1]; rfl
   have f2:Z9 ks 2 0 (a+1) 0 7=(a+1,0,7):=rfl
   have p1:(2:Int) ^ (1:Int).toNat=2:=rfl
   have p2:(2:Int) ^ (2:Int).toNat=4:=rfl
   refine' X3 ?_
   refine' G1 ?_
   refine' A6 ?_
   refine' C7 O ?_
   (refine' Ag (rest:=(O1,.barr [])::rest2) (O.le (by tm_at "a")) (.tail _ hx) (.tail (.head _)) (by tm_at "a") (by tm_at "a") (by tm_at "a") (by tm_at "a") (by tm_at "a") (by tm_at "a") f1 (by tm_at "a") ?_; intro r1 u1 q1 h1 h2 h3; rw[p1]at h1 h2; obtain rfl:r1=1:=(by tm_at "a"); obtain rfl:u1=0:=(by tm_at "a"); obtain rfl:q1=7:=(by tm_at "a"); clear h1 h2 h3)
   refine' B1 hs ?_
   refine' A6 ?_
   refine' C7 O ?_
   (refine' Ag (rest:=(O1,.barr [])::rest2) (O.le (by tm_at "a")) (.tail _ hx) (.head _) (by tm_at "a") (by tm_at "a") (by tm_at "a") (by tm_at "a") (by tm_at "a") (by tm_at "a") f2 (by tm_at "a") ?_; intro r1 u1 q1 h1 h2 h3; rw[p2]at h1 h2; obtain rfl:r1=0:=(by tm_at "a"); obtain rfl:u1=0:=(by tm_at "a"); obtain rfl:q1=5:=(by tm_at "a"); clear h1 h2 h3)
   refine' B1 hs ?_
   refine' B7 ?_
   refine' L8 (by tm_at "c") ?_
   refine' D8 ?_
   refine' GR (by tm_at "b") ?_
   refine' A1 O hs ?_
   (refine' GC (rest:=(O1,.barr [])::rest2) (O.le (by tm_at "a")) (.tail _ hx) (.head _) (by tm_at "a") (by tm_at "a") hn0 (by tm_at "a") (by tm_at "a") e0 e1 e2 e3 hm ?_; intro r hr; rw[hr]; clear hr r)
   refine' IY hb (by tm_at "e") (by tm_at "c") ?_
   (refine' hK _ _ _ ?_; exact Ht (true,ms,_) ⟨.inr rfl,Nat.zero_lt_one⟩ ⟨rfl,rfl,rfl,trivial⟩ (by tm_at "d"))
  ·refine' X3 ?_
   refine' J5 ?_
   (refine' hK2 _ ?_; exact Ht (true,ms,_) rfl ⟨rfl,rfl,rfl,trivial⟩ .refl)
 ·rintro s rfl
  refine' C7 O ?_
  refine' AS (O.le (by tm_at "a")) (rest:=(O1,.barr ms)::rest2) (.tail _ hx) (.tail (.head _)) ?_
  exact I5 (by tm_at "d") h
end
end
section
noncomputable def Gm(os:List Int):List Int:=[(At os).2 / 256,(At os).2 % 256,(At os).1 / 256,(At os).1 % 256]
noncomputable def Pz(os:List Int):List Int:=1::((os.length:Int) % 256)::((os.length:Int) / 256)::(255 - (os.length:Int) % 256)::(255 - (os.length:Int) / 256)::(os++Gm os)
noncomputable def FS(os:List Int):List Int:=120::1::Pz os
theorem FQ(os:List Int):(Pz os).length=os.length+9:=by
 unfold Pz Gm; simp only[bW,aI,eW]
theorem Ao(os:List Int):(FS os).length=os.length+11:=by
 show(Pz os).length+2=_; rw[FQ]
theorem Mc(os:List Int):T2 (FS os) (some (7+(os.length:Int) - (os.length:Int))) (some (7+(os.length:Int)))=os:=by
 rw[V7 (by lia) (by lia),show(7+(os.length:Int) - (os.length:Int)).toNat=7 by lia,show(7+(os.length:Int)).toNat - 7=os.length from cA _ _]
 exact List.take_left
theorem Me(os:List Int):T2 (FS os) (some (7+(os.length:Int))) (some (7+(os.length:Int)+4))=Gm os:=by
 rw[V7 (by lia) (by lia),show(7+(os.length:Int)).toNat=os.length+7 from eK ..,show(7+(os.length:Int)+4).toNat - (os.length+7)=4 by rw[eK os.length]; exact cA _ _]
 show((os++Gm os).drop os.length).take 4=_
 rw[List.drop_left]; rfl
theorem Pi(l:List Int):0<=(At l).1/\(At l).1 < 65521/\0<=(At l).2/\(At l).2 < 65521:=by
 have g:∀ (l:List Int) (s:Int×Int),(0<=s.1/\s.1 < 65521/\0<=s.2/\s.2 < 65521)->(0<=(l.foldl Hn s).1/\(l.foldl Hn s).1 < 65521/\0<=(l.foldl Hn s).2/\(l.foldl Hn s).2 < 65521):=by
  intro l
  induction l with
  | nil=>intro s h; exact h
  | cons a r ih=>intro s _; exact ih _ ⟨bX _ (by decide),bR _ (by decide),bX _ (by decide),bR _ (by decide)⟩
 exact g l (1,0) (by decide)
theorem Mx(os:List Int):Pb (Gm os)=ME os:=by
 show 256*(256*(256*(256*0+(At os).2 / 256)+(At os).2 % 256)+(At os).1 / 256)+(At os).1 % 256=(At os).2*65536+(At os).1
 rw[Int.mul_zero,cW,kW,Int.mul_add,Int.add_assoc,kW,←Int.mul_assoc,Int.mul_comm _ (At os).2]; rfl
section
variable{c:Cx}{m:Lm}{led rest:La}{k:AV->La->Prop}
theorem Ex{os:List Int}(hb:c.b)(H:Ok c 9)(hz:os.length<=9000)(h:∀ L T,k (.ref T) ((T,.tup [.bytes os,.int (7+(os.length:Int))])::(L++led))):C9 c (.ref 382) [.bytes (FS os),.int 2] m led k:=by
 have hl:=Ao os
 refine' C4 [("at",.int 2),("data",.bytes (FS os))] H ?_
 intro c1 O hs hw hg
 have hb:c1.b:=hw.2▸hb
 refine' A6 ?_
 refine' A1 O hs ?_
 refine' GQ (O.le (by tm_at "a")) (λ X D=>?_)
 refine' B1 hs ?_
 refine' A6 ?_
 refine' A0 O hs ?_
 refine' Qq hb (λ D=>?_)
 refine' B1 hs ?_
 refine' D8 ?_
 refine' A1 O hs ?_
 refine' Lp (n:=(os.length:Int)) hb (O.le (by tm_at "a")) (.head _) (.tail (.head _)) (.head _) (by tm_at "a") (by tm_at "a") (by tm_at "a") (by tm_at "a") (by tm_at "a") rfl rfl rfl rfl rfl (Mc os) (by tm_at "a") ?_
 refine' A0 O hs ?_
 refine' GP (by tm_at "b") (by tm_at "c") ?_
 refine' A2 O ?_
 refine' E4 (aB rfl) (λ D=>?_)
 refine' A5 (by tm_at "d") ?_
 exact h [_,_,_] _
theorem KQ{os:List Int}(hb:c.b)(H:Ok c 10)(hz:os.length<=9000)(h:∀ r,r=os->k (.bytes r) led):C9 c (.ref 410) [.bytes (FS os)] m led k:=by
 have hl:=Ao os
 refine' C4 [("data",.bytes (FS os))] H ?_
 intro c1 O hs hw hg
 have hb:c1.b:=hw.2▸hb
 refine' D8 ?_
 refine' A1 O hs ?_
 refine' IR (r:=Pz os) (O.le (by tm_at "a")) (by rw[FQ]; tm_at "a") ?_
 refine' W6 ?_
 refine' m9 O hs ?_
 refine' A1 O hs ?_
 refine' Ex hb (O.le (by tm_at "a")) hz (λ L T=>?_)
 refine' W4 (by tm_at "b") rfl (i5 hs (by kernel_rfl)) ?_
 refine' A1 O hs ?_
 refine' Dt (O.le (by tm_at "a")) (by tm_at "a") (by tm_at "a") (by tm_at "a") (Me os) (Mx os) ?_
 exact A5 (.drop .skip) (h _ rfl)
end
end
section
theorem FR{os:List Int}(ho:W0 os)(hz:os.length<=9000):W0 (FS os):=by
 have a:=Pi os
 intro x hx
 unfold FS Pz Gm at hx
 simp only[bE,List.mem_append,cZ,or_false]at hx
 rcases hx with h | h | h | h | h | h | h | h | h | h | h | h<;>first | exact ho x h | (subst h; first | decide | exact WW _ | exact WV _ | exact YL a.1 a.2.1 | exact YL a.2.2.1 a.2.2.2 | lia)
section
variable{c:Cx}{m:Lm}{led rest:La}{k:AV->La->Prop}
theorem GL{os:List Int}(H:Ok c 2)(ho:W0 os)(hz:os.length<=9000)(h:∀ r,r=FS os->k (.bytes r) led):C9 c (.ref 792) [.bytes os] m led k:=by
 refine' C4 [("octets",.bytes os)] H ?_
 intro c1 O hs hw hg
 refine' W6 ?_
 refine' m9 O hs ?_
 refine' E4 (aB rfl) (λ D=>?_)
 refine' W4 (by tm_at "b") rfl (i5 hs (by kernel_rfl)) ?_
 refine' F5 ?_
 refine' G6 [] O ?_ (hs:=λ V=>rfl)
 refine' P3 [] (λ s:Int×Int=>[("octets",.bytes os),("low",.int s.1),("high",.int s.2)]) (λ V=>led) (λ i s=>s=At (os.take i)) (λ s=>s=At os) (1,0) O (E6 hs rfl rfl) ⟨rfl,rfl,rfl,trivial⟩ (by tm_at "d") rfl ?_ (λ s hs=>by rw[hs,bD]) ?_
 ·rintro i n s rw K hK hn h0 h1 hP
  refine' A6 ?_
  refine' G5 (by tm_at "a") ?_
  refine' B1 hs ?_
  refine' A6 ?_
  refine' G5 (by tm_at "a") ?_
  refine' B1 hs ?_
  (refine' hK _ _ _ ?_; exact go (_,_) (by rw[Ec hn,←hP]; rfl) ⟨rfl,rfl,rfl,trivial⟩ .refl)
 ·rintro s rfl
  refine' A0 O hs ?_
  refine' N7 (by tm_at "c") ?_
  refine' B1 hs ?_
  refine' A6 ?_
  refine' G5 (by tm_at "a") ?_
  refine' M4 (by tm_at "a") ?_
  refine' G5 (by tm_at "a") ?_
  refine' M4 (by tm_at "a") ?_
  refine' C3 (ns:=[_,_,_,_,_,_,_]) rfl (aB rfl) (λ D=>?_)
  refine' B1 hs ?_
  refine' A0 O hs ?_
  refine' A0 O hs ?_
  refine' T8 O (by tm_at "c") (λ D=>?_)
  refine' I4 (by tm_at "b") (by tm_at "b") (by tm_at "c") (λ D=>?_)
  refine' M4 (by tm_at "a") ?_
  refine' G5 (by tm_at "a") ?_
  refine' M4 (by tm_at "a") ?_
  refine' G5 (by tm_at "a") ?_
  refine' C3 (ns:=[_,_,_,_]) rfl (aB rfl) (λ D=>?_)
  refine' I4 (by tm_at "b") (by tm_at "b") (by tm_at "c") (λ D=>?_)
  refine' H6 O (by tm_at "b") (ns:=FS os) (FR ho hz) (by rw[Ao]; tm_at "a") ?_
  exact A5 (by tm_at "d") (h _ rfl)
end
end
section
noncomputable def Wv(g:Nat->Int)(i:Nat)(L rw:La)(y:AV)(led':La):Prop:=ML (λ(_:Unit) y=>((cX i).map g).map AV.int++[y]=((cX (i+1)).map g).map AV.int) (λ V=>L) rw y led'
theorem Wl{g:Nat->Int}{i:Nat}{z:Int}{L rw led':La}(e:z=g i)(hl:Sb led' (L++rw)):Wv g i L rw (.int z) led':=⟨(),by rw[e,gQ,bB,bB]; rfl,hl⟩
section
variable{c:Cx}{m:Lm}{led rest back:La}{d n:Nat}{src:AV}{KP:L5->Prop}{elt target iter:aE}{sc S:cB}{pos:Pos}{cl:List (Str×aJ)}{xs:List Str}{ItL:Nat->List AV->Prop}
theorem BZ{k:AV->La->Prop}(I:By c target src led n ItL rest back KP)(g:Nat->Int)(H:Ok c d)(hS:c.env.scope=S)(hkind:sc.kind= .function)(u5:(xs.all λ x=>sc.names.lookup x== some .local && x != ("__debug__":Str))=true)(tg:∀ c2:Cx,(∀ x∈xs,I7 c2 x)->Tg c2 target xs)(hlen:∀ i as,ItL i as->as.length=xs.length)(hcell:(sc.names.all λ y=>y.2 != .cell)=true)(hsz:n<=100000)
  (turn:∀ c2,Ok c2 d->c2.env.scope=relabel sc (envOf "" S 0 0 .none)->(c2.w=c.w/\c2.b=c.b)->c2.env.cells=cl->∀ i as rw,(∃ kp,KP kp/\∀ q∈E7 kp,q∈rw)->i < n->ItL i as->I0 c2 (H0 xs as []) 30 elt (rest++rw) (Wv g i rest rw))
  (lr:La) (sb:Sb (rest++back) lr) (fin:∀ D,k (.ref D) ((D,.ints ((cX n).map g))::lr)):U4 c elt target iter [] [] sc pos cl src m led k:=by
 refine DP I (λ V:Unit=>rest) (λ i V ys=>ys=((cX i).map g).map .int) () H hS .refl rfl hkind u5 tg hlen hcell hsz ?_ ?_
 ·intro c2 O2 h2 hw2 hc2 i as t ys rw hkp hi ha hP hy
  subst hP
  exact turn c2 O2 h2 hw2 hc2 i as rw hkp hi ha
 ·rintro t ys D rfl
  exact⟨.ints _,_,λ o ⟨vs,n,e,h⟩=>⟨vs,n,e,Y7 h⟩,.cons (.head _) sb,fin D⟩
theorem DO{k:AV->La->Prop}{x:Str}{px:Pos}{It:Nat->AV->Prop}(I:t9 c src led n It rest back)(g:Nat->Int)(H:Ok c d)(hS:c.env.scope=S)(hkind:sc.kind= .function)(hx:sc.names.lookup x=some .local)(hxd:(x== ("__debug__":Str))=false)(hcell:(sc.names.all λ y=>y.2 != .cell)=true)(hsz:n<=100000)
  (turn:∀ c2,Ok c2 d->c2.env.scope=relabel sc (envOf "" S 0 0 .none)->(c2.w=c.w/\c2.b=c.b)->c2.env.cells=cl->∀ i a rw,i < n->It i a->I0 c2 [(x,a)] 30 elt (rest++rw) (Wv g i rest rw))
  (fin:∀ D,k (.ref D) ((D,.ints ((cX n).map g))::(rest++back))):U4 c elt (.Name x px) iter [] [] sc pos cl src m led k:=
 BZ (xs:=[x]) I.x g H hS hkind (by rw[fF,hx,bne,hxd]; rfl) (λ c2 h=> .name (h _ (.head _))) (λ i as ⟨a,e,_⟩=>by rw[e]; rfl) hcell hsz
  (λ c2 O hs hw hc i as rw _ hi ⟨a,e,ha⟩=>by subst e; exact turn c2 O hs hw hc i a rw hi ha) _ .refl fin
theorem Ca{k:AV->La->Prop}{x y:Str}{px py pt:Pos}{x1:Nat}{e it l:aJ}{oe oi:Obj}{ns:List Int}{r1 r2:La}(he:C1 (e,.raw oe) led r1)(hi:C1 (it,.raw oi) r1 r2)(hl:C1 (l,.ints ns) r2 rest)(h1:Pu oe it)(h2:XX oi l)(g:Nat->Int)(H:Ok c d)(hS:c.env.scope=S)(hkind:sc.kind= .function)
  (u5:([x,y].all λ x=>sc.names.lookup x== some .local && x != ("__debug__":Str))=true) (hcell:(sc.names.all λ y=>y.2 != .cell)=true) (hsz:ns.length<=100000)
  (turn:∀ c2,Ok c2 d->c2.env.scope=relabel sc (envOf "" S 0 0 .none)->(c2.w=c.w/\c2.b=c.b)->c2.env.cells=cl->∀ i n rw,i < ns.length->ns[i]? =some n->I0 c2 (G3 y (.int n) (G3 x (.int i) [])) 30 elt (rest++rw) (Wv g i rest rw))
  (fin:∀ D,k (.ref D) ((D,.ints ((cX ns.length).map g))::(l,.ints ns)::rest)):U4 c elt (.Tuple [.Name x px,.Name y py] x1 pt) iter [] [] sc pos cl (.ref e) m led k:=
 BZ (xs:=[x,y]) (Jn H he hi hl h1 h2) g H hS hkind u5 (λ c2 h=>Tg.tup (xs:=[(x,px),(y,py)]) λ q hq=>by
  rcases bE.mp hq with e | hq
  ·rw[e]; exact h _ (.head _)
  ·rw[aL.mp hq]; exact h _ (.tail _ (.head _))) (λ i as ⟨_,e,_⟩=>by rw[e]; rfl) hcell hsz
  (λ c2 O hs hw hc i as rw _ hi ⟨n,e,ha⟩=>by subst e; exact turn c2 O hs hw hc i n rw hi ha) _ (.of cV) fin
end
end
section
noncomputable def Q2(g:List Int):Int:=((cX g.length).map λ i=>g.getD i 0*256 ^ (3 - i)).sum
noncomputable def DK(g:List Int)(i:Nat):Int:=33+Q2 g / 85 ^ (4 - i) % 85
noncomputable def T7(g:List Int):List Int:=if g=[0,0,0,0]then [122]else(cX (g.length+1)).map (DK g)
noncomputable def R8(os:List Int)(n:Nat):List Int:=(cX n).flatMap λ i=>T7 ((os.drop (4*i)).take 4)
theorem HX{g:List Int}(h:g.length<=4):(T7 g).length<=5:=by
 unfold T7
 split
 ·exact aB rfl
 ·rw[aQ,dQ]; exact bL h
theorem HW(g:List Int):W0 (T7 g):=by
 intro x hx
 unfold T7 at hx
 split at hx
 ·rw[aL.mp hx]; decide
 ·obtain⟨i,_,rfl⟩:=dX.mp hx
  unfold DK
  exact⟨Int.add_nonneg (by decide) (bX _ (by decide)),Int.lt_trans (Int.add_lt_add_left (bR _ (by decide)) 33) (by decide)⟩
theorem Z8(os:List Int)(n:Nat):R8 os (n+1)=R8 os n++T7 ((os.drop (4*n)).take 4):=by
 unfold R8; rw[gQ,fG]; simp only[fB,List.flatMap_nil,bA]
theorem f7(os:List Int)(n:Nat):(R8 os n).length<=5*n:=by
 induction n with
 | zero=>exact aR _
 | succ n ih=>rw[Z8,aI]; have:=HX (g:=(os.drop (4*n)).take 4) (by rw[bK]; exact fT _ _); lia
theorem BY(os:List Int)(n:Nat):W0 (R8 os n):=by
 induction n with
 | zero=>exact λ x hx=>by contradiction
 | succ n ih=>rw[Z8]; intro x hx; exact(cM.mp hx).elim (ih x) (HW _ x)
theorem W0.app{a b:List Int}(h:W0 a)(g:W0 b):W0 (a++b):=by
 intro x hx; exact(cM.mp hx).elim (h x) (g x)
theorem YW{e:Nat}(h:e<=4):0 < (85:Int) ^ e/\(85:Int) ^ e < 1073741824:=by
 rcases e with _ | _ | _ | _ | _ | e<;>first | decide | lia
theorem LM:W0 [126,62]:=by
 intro x hx
 simp only[bE,cZ,or_false]at hx
 lia
section
variable{c:Cx}{m:Lm}{led rest:La}{k:AV->La->Prop}
theorem IE{os:List Int}(H:Ok c 2)(ho:W0 os)(hz:os.length<=9000)(h:∀ r,r=R8 os ((os.length+3) / 4)++[126,62]->k (.bytes r) led):C9 c (.ref 802) [.bytes os] m led k:=by
 refine' Q3 [("octets",.bytes os)] [("octets",.bytes os)] [("number",none)] H ?_
 intro c1 O hs hw hg W hc
 refine' A6 ?_
 refine' C3 (ns:=[]) rfl (by decide) (λ F=>?_)
 refine' B1 hs ?_
 refine' F5 ?_
 have hrs:=P2 (a:=0) (b:=(os.length:Int)) (c:=4) (by tm_at "a") (by tm_at "a") (by tm_at "a") (by tm_at "a")
 refine' G6 ["number"] O ?_ (hs:=λ V=>rfl)
 refine' A0 O hs ?_
 refine' A0 O hs ?_
 refine' N7 (by tm_at "c") ?_
 refine' T5 (by tm_at "a") (λ D=>?_)
 refine' E8 ["number"] (λ s:List Int×aJ×Option AV=>[("found",.ref s.2.1),("octets",.bytes os)]) (λ s=>(s.2.1,.ints s.1)::(W,.cell s.2.2)::led) (λ i s=>s.1=R8 os i) (λ s=>s.1=R8 os ((os.length+3) / 4)) ([],F,none) ((os.length+3) / 4) O (E6 hs rfl rfl) (by tm_at "b") hrs.1 ?_ ⟨rfl,rfl,trivial⟩ (by tm_at "d") rfl ?_ (λ s h=>h) ?_
 ·by_cases h0:os.length=0
  ·rw[h0]; rfl
  ·exact K9 (by tm_at "a") (by tm_at "a") (by tm_at "a") (by tm_at "a")
 ·(intro i; refine Bw λ es E cv=>?_; intro rw K hK hi hP)
  dsimp only at hP
  have hcu:T2 os (some (0+(i:Int)*4)) (some (0+(i:Int)*4+4))=(os.drop (4*i)).take 4:=by
   rw[V7 (by lia) (by lia),show(0+(i:Int)*4).toNat=4*i from(hZ _).trans (kK i 4),show(0+(i:Int)*4+4).toNat - 4*i=4 by rw[cW,kK]; exact cA _ _]
  refine' A6 ?_
  refine' A0 O hs ?_
  refine' M9 (.int _) (.int _) (by tm_at "c") hcu ?_
  refine' T8 O (by tm_at "c") (λ G=>?_)
  refine' B1 hs ?_
  refine' M8 ?_
  refine' A0 O hs ?_
  refine' K3 ?_ ((H4 hc).trans rfl) rfl (by kernel_rfl)
  refine' A0 O hs ?_
  refine' Dp (by tm_at "b") (λ E J oe oi hE hJ=>?_)
  refine' Ca (.head _) (.head _) (.head _) hE hJ (λ j=>((os.drop (4*i)).take 4).getD j 0*256 ^ (3 - j)) O hs rfl (by kernel_rfl) (by kernel_rfl) (by rw[bK]; exact aS (fT _ _) (by decide)) ?_ ?_
  ·clear O hs hc
   rintro c2 O hs hw2 hc j a rw hj ha
   have ha0:=ho a (fA (eZ (bT ha)))
   have hj4:j < 4:=dK hj (by rw[bK]; exact fT _ _)
   refine' Cy (by tm_at "a") (Int.le_trans (iR 3 (gV j)) (by decide)) (by tm_at "a") ?_
   refine' U9 (by tm_at "a") ?_
   exact Wl (by rw[aK,ha,show(3 - (j:Int)).toNat=3 - j from fV 3 j]; rfl) (by tm_at "d")
  ·intro D
   have hel:=f7 os i
   rw[←hP]at hel
   refine' IC O (by tm_at "b") ?_
   refine' I2 O hs rfl hc rfl (by tm_at "e") ?_
   refine' A6 ?_
   refine' C3 (ns:=[_]) rfl (by simp) (λ D=>?_)
   refine' Ai (by tm_at "b") (by tm_at "a") (by tm_at "a") (by decide) (λ D=>?_)
   refine' EB O (by tm_at "b") (by tm_at "b") ?_
   refine' s8 (λ V=>?_) (λ V=>?_)
   refine' C3 (ns:=[_]) rfl (by simp) (λ D=>?_)
   refine' I4 (by tm_at "b") (by tm_at "b") (by tm_at "c") (λ D=>?_)
   refine' B1 hs ?_
   (refine' hK _ _ _ ?_; refine' go (_,_,_) ?_ ⟨rfl,rfl,trivial⟩ (by tm_at "d"); show _++_=_; rw[Z8,←hP]; unfold T7; rw[if_pos (by have q:= ‹List.take 4 _=_›; exact q)])
   refine' K3 ?_ ((H4 hc).trans rfl) rfl (by kernel_rfl)
   refine' A0 O hs ?_
   refine' A0 O hs ?_
   refine' M2 (by tm_at "b") (by tm_at "c") ?_
   refine' H9 (λ D=>?_)
   have hgl:((os.drop (4*i)).take 4).length<=4:=by rw[bK]; exact fT _ _
   refine' DO (P7 (((os.drop (4*i)).take 4).length+1) O (.head _) (Bz (by tm_at "a")).1 (Bz (by tm_at "a")).2) (DK ((os.drop (4*i)).take 4)) O hs rfl rfl rfl (by kernel_rfl) (by tm_at "a") ?_ ?_
   ·clear O hs hc
    rintro c2 O hs hw2 hc j a rw hj rfl
    refine' A3 O hs hc ?_
    refine' Cy (by tm_at "a") (Int.le_trans (iR 4 (gV (0+j*1))) (by decide)) (by tm_at "a") ?_
    refine' M4 (YW (by tm_at "a")) ?_
    refine' G5 (by tm_at "a") ?_
    exact Wl (by rw[show(4 - (0+(j:Int)*1)).toNat=4 - j by rw[cW,jY]; exact fV 4 j]; rfl) (by tm_at "d")
   ·intro D
    refine' I4 (by tm_at "b") (by tm_at "b") (by rw[aQ,dQ]; tm_at "a") (λ D=>?_)
    refine' B1 hs ?_
    (refine' hK _ _ _ ?_; refine' go (_,_,_) ?_ ⟨rfl,rfl,trivial⟩ (by tm_at "d"); show _++_=_; rw[Z8,←hP]; unfold T7; rw[if_neg (by have q:= ‹¬List.take 4 _=_›; exact q)])
 ·(refine Bw λ es E cv=>?_; intro hP)
  dsimp only at hP
  have hel:=f7 os ((os.length+3) / 4)
  rw[←hP]at hel
  have he:W0 es:=by rw[hP]; exact BY os _
  have hfi:W0 (es++[126,62]):=he.app LM
  refine' A0 O hs ?_
  refine' C3 (ns:=[_,_]) rfl (aB rfl) (λ D=>?_)
  refine' I4 (by tm_at "b") (by tm_at "b") (by tm_at "c") (λ D=>?_)
  refine' H6 O (by tm_at "b") hfi (by rw[aI]; show _+2<=_; tm_at "a") ?_
  exact A5 (by tm_at "d") (h _ (congrArg (· ++[126,62]) hP))
end
end
section
noncomputable def Y0(w:Int)(N:Nat)(above r:List Int):List Int:=if w=2∨w=11 then [0]++r else if w=12 then above++(bO (N:Int).toNat [0]).flatten else(bO (N:Int).toNat [0]).flatten
noncomputable def x6(w:Int)(N:Nat)(above r:List Int):List Int:=(cX r.length).map λ j=>(r.getD j 0 - (Y0 w N above r).getD j 0) % 256
noncomputable def z7(w:Int):List Int:=if w > 9 then [w % 5]else []
noncomputable def U5(w:Int)(N:Nat)(rs:List (List Int))(n:Nat):List Int:=(cX n).flatMap λ i=>z7 w++x6 w N (H8 rs i) (rs.getD i [])
theorem Y1(w:Int)(N:Nat)(rs:List (List Int))(n:Nat):U5 w N rs (n+1)=U5 w N rs n++z7 w++x6 w N (H8 rs n) (rs.getD n []):=by
 unfold U5; rw[gQ,fG]; simp only[fB,List.flatMap_nil,bA,aP]
theorem U0(w:Int)(N:Nat)(a r:List Int):(x6 w N a r).length=r.length:=by unfold x6; rw[aQ,dQ]
theorem AG(w:Int):(z7 w).length<=1:=by unfold z7; split<;>exact aB rfl
theorem s2(w:Int)(N:Nat){rs:List (List Int)}(n:Nat)(hr:∀ i,(rs.getD i []).length<=N):(U5 w N rs n).length<=n*(N+1):=by
 induction n with
 | zero=>exact bG _
 | succ n ih=>rw[Y1,aI,aI,U0,iZ,lR]; exact Nat.add_le_add ih (aS (Nat.add_le_add (AG w) (hr n)) (dZ (eK 1 N)))
theorem r9{w:Int}(h0:0<=w)(N:Nat)(rs:List (List Int))(n:Nat):W0 (U5 w N rs n):=by
 have h1:W0 (z7 w):=by
  intro x hx; unfold z7 at hx; split at hx
  ·rw[aL.mp hx]; exact⟨bX _ (by decide),Int.lt_trans (bR _ (by decide)) (by decide)⟩
  ·contradiction
 have h2:∀ a r,W0 (x6 w N a r):=by
  intro a r x hx; unfold x6 at hx; obtain⟨j,_,rfl⟩:=dX.mp hx
  exact⟨bX _ (by decide),bR _ (by decide)⟩
 induction n with
 | zero=>exact λ x hx=>by contradiction
 | succ n ih=>rw[Y1]; exact(ih.app h1).app (h2 _ _)
theorem Jv(n:Nat):(bO n [(0:Int)]).flatten=bO n 0:=by
 induction n with
 | zero=>rfl
 | succ n ih=>rw[List.replicate_succ,dF,ih]; rfl
theorem Jk{w:Int}{N:Nat}{a r:List Int}(h1:r.length<=N)(h2:a.length<=N):r.length<=(Y0 w N a r).length/\(Y0 w N a r).length<=2*N+1:=by
 unfold Y0; rw[Jv,eD]
 split
 ·show _<=r.length+1/\r.length+1<=_; lia
 split
 ·rw[aI,cL]; lia
 ·rw[cL]; lia
theorem Ho{n:Nat}(hn:0 < n){rows:List (List Int)}{i:Nat}(h:F8 n rows)(hi:i < rows.length):T2 rows.flatten (some (if 0+(i:Int)*n - n > 0 then 0+(i:Int)*n - n else 0)) (some (0+(i:Int)*n))=H8 rows i:=by
 induction i with
 | zero=>
  rw[show(((0:Nat):Int)*(n:Int))=0 by simp,V7 (by split<;>lia) (by decide)]
  show List.take (0 - _) _=_
  rw[Nat.zero_sub]; rfl
 | succ j=>
  have e:=Ct hn h (Nat.lt_of_succ_lt hi)
  have e1:(0:Int)+((j+1:Nat):Int)*n - n=0+(j:Int)*n:=by rw[Int.natCast_add,lI,Int.natCast_one,jX,cW,cW,jN]
  have e2:(0:Int)+((j+1:Nat):Int)*n=0+(j:Int)*n+n:=by rw[Int.natCast_add,lI,Int.natCast_one,jX,Int.add_assoc]
  have hp:(0:Int)<=(j:Int)*n:=lG (by lia) (by lia)
  rw[e1,e2,show(if(0:Int)+(j:Int)*n > 0 then(0:Int)+(j:Int)*n else 0)=0+(j:Int)*n by split<;>lia,e]
  unfold H8; rw[if_neg (Nat.succ_ne_zero _),lX,aK,aM (Nat.lt_of_succ_lt hi)]; rfl
theorem LY{w:Int}{l a z:aJ}{L1 L2 L3:List Int}:∃ x,(I9 w [((2:Int),AV.ref l),(11,.ref l),(12,.ref a)]).getD (.ref z)= .ref x/\∀ led:La,(l,AO.ints L1)∈led->(a,AO.ints L2)∈led->(z,AO.ints L3)∈led->(x,AO.ints (if w=2∨w=11 then L1 else if w=12 then L2 else L3))∈led:=by
 by_cases h2:w=2
 ·subst h2; exact⟨l,rfl,λ V hl V V=>hl⟩
 by_cases h11:w=11
 ·subst h11; exact⟨l,rfl,λ V hl V V=>hl⟩
 by_cases h12:w=12
 ·subst h12; exact⟨a,rfl,λ V V ha V=>ha⟩
 rw[if_neg (not_or.mpr ⟨h2,h11⟩),if_neg h12]
 refine⟨z,?_,λ V V V hz=>hz⟩
 show(if w=2 then some (AV.ref l)else if w=11 then some (.ref l)else if w=12 then some (.ref a)else none).getD _=_
 rw[if_neg h2,if_neg h11,if_neg h12]; rfl
theorem d6{n:Nat}(hn:0 < n){rows:List (List Int)}(h:F8 n rows)(i:Nat):(rows.getD i []).length<=n:=by
 rw[aK]
 by_cases hi:i < rows.length
 ·rw[aM hi]; exact(Ad hn h hi).2.2
 ·rw[dG (Nat.le_of_not_lt hi)]; exact bG _
theorem Kb{n:Nat}(hn:0 < n){rows:List (List Int)}(h:F8 n rows)(i:Nat):(H8 rows i).length<=n:=by
 unfold H8; split
 ·exact bG _
 ·exact d6 hn h _
section
variable{c:Cx}{m:Lm}{led rest:La}{k:AV->La->Prop}
theorem Ll{d:Nat}{w:Int}{X l a z:aJ}{L1 L2 L3:List Int}(H:Ok c d)(hX:(X,AO.kd [((2:Int),AV.ref l),(11,.ref l),(12,.ref a)])∈led)(hl:(l,AO.ints L1)∈led)(ha:(a,AO.ints L2)∈led)(hz:(z,AO.ints L3)∈led)
  (h:∀ x,(∀ led:La,(l,AO.ints L1)∈led->(a,AO.ints L2)∈led->(z,AO.ints L3)∈led->(x,AO.ints (if w=2∨w=11 then L1 else if w=12 then L2 else L3))∈led)->k (.ref x) led):C9 c (.fn (.builtin "dict.get")) [.ref X,.int w,.ref z] m led k:=by
 obtain⟨x,h1,h2⟩:=LY (w:=w) (l:=l) (a:=a) (z:=z) (L1:=L1) (L2:=L2) (L3:=L3)
 exact V1 (f:=AO.kd) (g:=AV.int) H .int hX h1 (h x h2)
theorem VS{b:Bool}{a e:aE}{n:Nat}{kk:AV->La->Prop}(Q:AV->La->Prop)(h1:∀ kk:AV->La->Prop,(∀ v led',Q v led'->kk v led')->b=true->I0 c m n a led kk)(h2:∀ kk:AV->La->Prop,(∀ v led',Q v led'->kk v led')->b=false->I0 c m n e led kk)(hk:∀ v led',Q v led'->kk v led'):Br b (I0 c m n a led kk) (I0 c m n e led kk):=OP Q hk h1 h2
theorem y8{rs:List (List Int)}{w:Int}{N:Nat}(H:Ok c 2)(ho:W0 rs.flatten)(hr:F8 N rs)(hN:0 < N)(hN2:N<=5)(hz:rs.flatten.length<=1000)(hw:0<=w)(h:∀ r,r=U5 w N rs rs.length->k (.bytes r) led):C9 c (.ref 807) [.bytes rs.flatten,.int w,.int N] m led k:=by
 refine' Q3 [("columns",.int N),("way",.int w),("octets",.bytes rs.flatten)] [("columns",.int N),("way",.int w),("octets",.bytes rs.flatten)] [("less",none)] H ?_
 intro c1 O hs hw' hg W hc
 have hrs:=P2 (a:=0) (b:=(rs.flatten.length:Int)) (c:=N) (by tm_at "a") (by tm_at "a") (by tm_at "a") (by tm_at "a")
 refine' A6 ?_
 refine' C3 (ns:=[]) rfl (by decide) (λ F=>?_)
 refine' B1 hs ?_
 refine' F5 ?_
 refine' G6 ["less"] O ?_ (hs:=λ V=>rfl)
 refine' A0 O hs ?_
 refine' A0 O hs ?_
 refine' N7 (by tm_at "c") ?_
 refine' T5 (by tm_at "a") (λ D=>?_)
 have hfew:=m4 hN hr
 refine' E8 (σ:=List Int×aJ×Option AV) ["less"] (λ⟨_,E,_⟩=>[("found",.ref E),("columns",.int N),("way",.int w),("octets",.bytes rs.flatten)]) (λ⟨es,E,cv⟩=>(E,.ints es)::(W,.cell cv)::led) (λ i s=>s.1=U5 w N rs i) (λ s=>s.1=U5 w N rs rs.length) ([],F,none) rs.length O (E6 hs rfl rfl) (by tm_at "b") hrs.1 (BK hN hr) ⟨rfl,rfl,rfl,rfl,trivial⟩ (by tm_at "d") rfl ?_ (λ s h=>h) ?_
 ·(intro i; refine Bw λ es E cv=>?_; intro rw K hK hi hP)
  dsimp only at hP
  have hcu:=(Ct hN hr hi).trans (show rs[i]=rs.getD i []by rw[aK,aM hi]; rfl)
  have hrl:=d6 hN hr i
  have hal:=Kb hN hr i
  have hca:=Ho hN hr hi
  change O6 c1 ["less"] 40 _ (G3 _ _ [("found",.ref E),("columns",.int N),("way",.int w),("octets",.bytes rs.flatten)]) ((E,.ints es)::(W,.cell cv)::led++rw) K
  refine' W6 ?_
  refine' m8 O hs ?_
  refine' A0 O hs ?_
  refine' M9 (.int _) (.int _) (by tm_at "c") hcu ?_
  refine' T8 O (by tm_at "c") (λ D=>?_)
  refine' A0 O hs ?_
  refine' A0 O hs ?_
  refine' CA O ?_
  refine' M9 (.int _) (.int _) (by tm_at "c") hca ?_
  refine' T8 O (by tm_at "c") (λ D=>?_)
  refine' C3 (ns:=[_]) rfl (by simp) (λ D=>?_)
  refine' Ai (by tm_at "b") (by tm_at "a") (by tm_at "a") (by decide) (λ D=>?_)
  refine' I4 (by tm_at "b") (by tm_at "b") (by tm_at "c") (λ D=>?_)
  refine' E4 (aB rfl) (λ D=>?_)
  refine' W4 (by tm_at "b") rfl (i5 hs (by kernel_rfl)) ?_
  refine' C3 (ns:=[_]) rfl (by simp) (λ D=>?_)
  refine' I4 (by tm_at "b") (by tm_at "b") (by tm_at "c") (λ D=>?_)
  refine' B1 hs ?_
  refine' M8 ?_
  refine' o8 .int (λ X=>?_) (by kernel_rfl) (by kernel_rfl)
  refine'⟨_,rfl,?_⟩
  refine'⟨_,rfl,?_⟩
  refine'⟨_,rfl,?_⟩
  refine'⟨_,by tm_at "e",(show List.Nodup [(2:Int),11,12]from by decide),?_⟩
  refine' Q9 (f:=AO.kd) (g:=AV.int) .int (by tm_at "b") ?_
  refine' C3 (ns:=[_]) rfl (by simp) (λ D=>?_)
  refine' Ai (by tm_at "b") (by tm_at "a") (by tm_at "a") (by decide) (λ D=>?_)
  refine' Ll O (by tm_at "b") (by tm_at "b") (by tm_at "b") (by tm_at "b") (λ Y hY=>?_)
  refine' I2 O hs rfl hc rfl (by tm_at "e") ?_
  refine' A6 ?_
  refine' VS (λ v' led'=>∃ x,v'= .ref x/\led'=(x,.ints (z7 w))::?LL) (λ kk hk e=>?b1) (λ kk hk e=>?b2) ?b3
  case b1=>
   refine' G5 (by tm_at "a") ?_
   refine' C3 (ns:=[_]) rfl (by simp) (λ D=>?_)
   exact hk _ _ ⟨_,rfl,by rw[show z7 w=[w % 5]from if_pos (of_decide_eq_true e)]⟩
  case b2=>
   refine' C3 (ns:=[]) rfl (by decide) (λ D=>?_)
   exact hk _ _ ⟨_,rfl,by rw[show z7 w=[]from if_neg (of_decide_eq_false e)]⟩
  case b3=>
   (intro v' led'; refine Bx λ x zz83 zz84=>?_; subst zz83; subst zz84)
   have hpl:=AG w
   have hle:es.length<=6000:=by
    have h1:=s2 w N i (d6 hN hr)
    have h2:i*(N+1)<=i*6:=dS _ (bL hN2)
    rw[hP]; lia
   replace hY:∀ led:La,_∈led->_∈led->_∈led->(Y,AO.ints (Y0 w N (H8 rs i) (rs.getD i [])))∈led:=hY
   have hll:=Jk (w:=w) hrl hal
   refine' I4 (by tm_at "b") (by tm_at "b") (by tm_at "c") (λ D=>?_)
   refine' K3 ?_ ((H4 hc).trans rfl) rfl (by kernel_rfl)
   refine' A0 O hs ?_
   refine' Dp (by tm_at "b") (λ E J oe oi hE hJ=>?_)
   refine' Ca (.head _) (.head _) (by tm_at "e") hE hJ (λ j=>((rs.getD i []).getD j 0 - (Y0 w N (H8 rs i) (rs.getD i [])).getD j 0) % 256) O hs rfl (by kernel_rfl) (by kernel_rfl) (by tm_at "a") ?_ ?_
   ·clear O hs hc
    rintro c2 O hs hw2 hc j a rw hj ha
    have haD:(rs.getD i []).getD j 0=a:=by show Option.getD ((rs.getD i [])[j]?) 0=a; rw[ha]; rfl
    refine' A3 O hs hc ?_
    refine' M3 (hY _ (by tm_at "b") (by tm_at "b") (by tm_at "b")) (by tm_at "a") (by tm_at "a") (by tm_at "a") rfl ?_
    refine' G5 (by tm_at "a") ?_
    exact Wl (congrArg (λ z=>(z - _) % 256) haD.symm) (by tm_at "d")
   ·intro Z
    refine' I4 (by tm_at "b") (by tm_at "b") (by rw[aI,aQ,dQ]; tm_at "a") (λ D=>?_)
    refine' B1 hs ?_
    (refine' hK _ _ _ ?_; refine' go (_,_,_) ?_ ⟨rfl,rfl,rfl,rfl,trivial⟩ (by tm_at "d"); show _++_=_; rw[Y1,←hP]; rfl)
 ·(refine Bw λ es E cv=>?_; intro hP)
  dsimp only at hP
  have he:W0 es:=by rw[hP]; exact r9 hw _ _ _
  have hle:es.length<=6000:=by
   have h1:=s2 w N rs.length (d6 hN hr)
   have h2:rs.length*(N+1)<=rs.length*6:=dS _ (bL hN2)
   rw[hP]; lia
  refine' A0 O hs ?_
  refine' H6 O (by tm_at "b") he (by tm_at "a") ?_
  exact A5 (by tm_at "d") (h _ hP)
end
end
section
open PySem.NumText PySem.Calls
theorem AA(a b:aF):checkTypeCall "int" ⟨[a,b],[]⟩=pure ():=by kernel_rfl
theorem BA(a b:aF):checkBuiltinCall "int.__new__" ⟨[.type "int",a,b],[]⟩=pure ():=by kernel_rfl
structure XY(p:Prop):Prop where
 out:p
theorem HD{M:jP}{A:bS}{E:aF->aH->Prop}{s:aH}{Q:aF->aH->Prop}{v:aF}{text:List Nat}{n:Int}
  (hs:(text.takeWhile (· != 0)).length<=640) (hr:(int_private% "readNumeral") 0 2 (text.takeWhile (· != 0))=(int_private% "Numeral.value") n)
  (ha:((text.takeWhile (· != 0)).length== text.length)=true) (h:Q (.int n s.toks) {s with toks:=s.toks+1}):
  wpAny M A ((int_private% "intFromText") v text 2) Q E s:=by
 obtain⟨hp,g,d,tk,os⟩:=s
 repeat (any_goals (first
  | assumption
  | (with_reducible refine lT (decide_eq_true hs) ?_)
  | (with_reducible refine lT (decide_eq_true ha) ?_)
  | wp_step))
 all_goals (try rw[hr])
 all_goals (try dsimp only)
 repeat (any_goals (first
  | assumption
  | (with_reducible refine lT (decide_eq_true hs) ?_)
  | (with_reducible refine lT (decide_eq_true ha) ?_)
  | wp_step))
theorem DD{x:PySem.Str}{u ub:Tok}{n:Int}(hs:(numSeenOf x).length<=640)(hr:(int_private% "readNumeral") 0 2 (numSeenOf x)=(int_private% "Numeral.value") n)(ha:((numSeenOf x).length== (numTextOf x).length)=true):Gives (Builtin.«int.__new__» ⟨[.type "int",.str x u,.int 2 ub],[]⟩) (.int n):=
 .of_wp λ M A E s Q h=>by
  obtain⟨hp,g,d,tk,os⟩:=s
  have f1:=F.conv_sub_int
  have f2:=F.madeHere_int
  have f6:typeOf (.str x u)=pure (.type "str"):=rfl
  have hk:=XY.mk (kG hs (kG hr ha))
  clear hs hr ha
  repeat (any_goals (first
   | assumption
   | ((with_reducible show wpAny _ _ ((int_private% "intFromText") _ _ _) _ _ _); refine HD hk.out.1 hk.out.2.1 hk.out.2.2 ?_)
   | wp_step))
  all_goals first | exact⟨_,rfl,h⟩ | skip
noncomputable def Hr(cs:List Nat):Prop:=∀ c∈cs,c=48∨c=49
theorem Dc{ds:Array Nat}{b:Bool}{c:Nat}(h:c=48∨c=49):step 2 (ds,b) c=some (ds.push (c - 48),true):=by
 rcases h with rfl | rfl<;>rfl
theorem DG:∀ (cs:List Nat) (ds:Array Nat),Hr cs->cs.foldlM (step 2) (ds,true)=some (cs.foldl (λ acc c=>acc.push (c - 48)) ds,true)
 | [],_,_=>rfl
 | c::r,ds,h=>by
  rw[List.foldlM_cons,Dc (h c (.head _))]
  exact DG r _ λ d hd=>h d (.tail _ hd)
theorem ES{c:Nat}{cs:List Nat}(h:Hr (c::cs)):digits? 2 (c::cs)=some ((c::cs).foldl (λ acc c=>acc.push (c - 48)) #[]):=by
 unfold digits?
 rw[List.foldlM_cons,Dc (h c (.head _))]
 show((cs.foldlM (step 2) _).bind _)=_
 rw[DG cs _ λ d hd=>h d (.tail _ hd)]; rfl
theorem y2{cs:List Nat}(h:Hr cs):∀ c∈cs,c=45∨(48<=c/\c<=57):=λ c hc=> .inr (by rcases h c hc with rfl | rfl<;>decide)
set_option tactic.hygienic true in
theorem Hi{cs:List Nat}(h:Hr cs):based 2 cs=(2,false,cs):=by
 have e:prefix? cs=none:=by
  unfold prefix?
  split
  ·rename_i c r
   rcases h c (.tail _ (.head _))with rfl | rfl<;>rfl
  ·rfl
 unfold based; rw[e]; rfl
noncomputable def BD(cs:List Nat):Nat:=cs.foldl (λ a c=>a*2+(c - 48)) 0
theorem GY(ds:Array Nat):judge 0 false 2 false (some ds)=(int_private% "Numeral.value") ((ds.foldl (λ acc d=>acc*2+d) 0:Nat):Int):=rfl
theorem AF:∀ (cs:List Nat) (ds:Array Nat),(cs.foldl (λ acc c=>acc.push (c - 48)) ds).foldl (λ acc d=>acc*2+d) 0=cs.foldl (λ acc c=>acc*2+(c - 48)) (ds.foldl (λ acc d=>acc*2+d) 0)
 | [],_=>rfl
 | c::cs,ds=>by
  rw[List.foldl_cons,AF cs]
  simp only[Array.foldl_push,List.foldl_cons]
theorem Io{c:Nat}{cs:List Nat}(h:Hr (c::cs)):(int_private% "readNumeral") 0 2 (c::cs)=(int_private% "Numeral.value") ((BD (c::cs):Nat):Int):=by
 have h0:(c::cs).dropWhile blank=c::cs:=dropWhile_signs (y2 h)
 have h1:sign (c::cs)=(false,c::cs):=sign_of (by rcases h c (.head _)with rfl | rfl<;>decide) (by rcases h c (.head _)with rfl | rfl<;>decide)
 have h2:((c::cs).reverse.dropWhile blank).reverse=c::cs:=by
  rw[dropWhile_signs (y2 λ d hd=>h d (List.mem_reverse.mp hd)),kY]
 rw[readNumeral_eq,h0,h1,Hi h,h2,ES h,GY,AF]; rfl
section
variable{c:Cx}{m:Lm}{led rest:La}{k:AV->La->Prop}{d:Nat}
noncomputable def Bo(l:List Nat):Str:=⟨l.toArray⟩
theorem Lq{l:List Nat}(h1:Hr l)(h2:l≠[])(h3:l.length<=640)(h:k (.int (BD l)) led):C9 c (.fn (.type "int")) [.str (Bo l),.int 2] m led k:=
 N9 q9 λ vs hv hh tk r=>A4<|by
  obtain⟨_,_,rfl,⟨t,rfl⟩,⟨u,rfl⟩⟩:=U3 hv
  obtain⟨x,cs,rfl⟩:∃ x cs,l=x::cs:=by induction l with
   | nil=>exact absurd rfl h2
   | cons x cs=>exact⟨x,cs,rfl⟩
  obtain⟨e1,e2⟩:=numText_signs (x:=Bo (x::cs)) (y2 h1)
  refine callType_new F.called_int F.newNe_int (AA _ _) (BA _ _) (λ obj=>F.args_object_init_3 obj _ _) F.entry_int_new (DD (n:=BD (x::cs)) (by rw[e2]; exact h3) (by rw[e2]; exact Io h1) (by rw[e1,e2]; exact beq_self_eq_true _)).meets ?_
  exact(show(Made.int _).post _ _ from⟨rfl,E2.ofV (a:= .int _) r ⟨_,rfl⟩ h⟩)
end
end
section
section
variable{c:Cx}{m:Lm}{led rest:La}{k:AV->La->Prop}{d:Nat}
theorem FJ{x y:Str}(hz:x.length+y.length<=100000)(h:k (.str (x++y)) led):Op c (λ vs=>binaryOp .Add (vs.getD 0 .none) (vs.getD 1 .none)) [.str x,.str y] m led k:=λ vs hv hh tk r=>A4<|by
 obtain⟨_,_,rfl,⟨t,rfl⟩,⟨u,rfl⟩⟩:=U3 hv
 exact add_str (λ t' tk'=>E2.ofV (a:= .str _) r ⟨_,rfl⟩ h) (by rw[dT]; lia)
theorem Li{x:Str}{n:Int}(hx:x.length<=64)(h0:0<=n)(h1:n<=1000)(h:k (.str (Txt.mul x n)) led):Op c (λ vs=>binaryOp .Mult (vs.getD 0 .none) (vs.getD 1 .none)) [.str x,.int n] m led k:=λ vs hv hh tk r=>A4<|by
 obtain⟨_,_,rfl,⟨t,rfl⟩,⟨u,rfl⟩⟩:=U3 hv
 exact SB.mul (mulOk_of 64 1000 hx h1 (by lia) (by decide) (by decide)) λ t' tk'=>E2.ofV (a:= .str _) r ⟨_,rfl⟩ h
theorem CB{x:Str}(hz:x.length<=100000)(h:k (.int x.length) led):C9 c (.fn (.builtin "len")) [.str x] m led k:=
 N9 M5 λ vs hv hh tk r=>A4<|by
  obtain⟨_,rfl,t,rfl⟩:=CR hv
  exact len_str (by lia) (E2.ofV (a:= .int _) r ⟨_,rfl⟩ h)
theorem Dl{x:Str}{i:Int}{ch:Nat}{value slice:aE}(h0:0<=i)(h1:i < (x.length:Int))(hz:x.length<=100000)(e:x.cps[i.toNat]? =some ch)(h:k (.str ⟨#[ch]⟩) led)
  (hs:∀ o i,subscripted slice false o i=operate [o,i] (getItem o i):=by intro _ _; rfl):Op c (λ vs=>subscriptTail value slice (vs.getD 0 .none) (vs.getD 1 .none)) [.str x,.int i] m led k:=λ vs hv hh tk r=>A4<|by
 obtain⟨_,_,rfl,⟨t,rfl⟩,⟨u,rfl⟩⟩:=U3 hv
 exact P6 λ value hv=>fZ (typeIs_str _ _ _) slot_str_getitem.lookup (getItem_str (by simp only[Bool.or_eq_false_iff,decide_eq_false_iff_not]; lia) (by rw[seqIndex_of h0 h1]; exact e) (E2.ofV (a:= .str _) r ⟨_,rfl⟩ h)) (hs _ _) hv
theorem NR{ch:Nat}(h:k (.int ch) led):C9 c (.fn (.builtin "ord")) [.str ⟨#[ch]⟩] m led k:=
 N9 M5 λ vs hv hh tk r=>A4<|by
  obtain⟨_,rfl,t,rfl⟩:=CR hv
  exact P.ord_of_char (E2.ofV (a:= .int _) r ⟨_,rfl⟩ h)
theorem GD{x y:Str}{i j:Int}{value:aE}{la ua:Option aE}{sp:Pos}(hz:x.length<=100000)(e:Txt.slice x (some i) (some j)=y)(h:k (.str y) led):Fd c value (.Slice la ua none sp) (.str x) (.int i) (.int j) m led k:=λ ov lv uv ho hl' hu' hh tk r=>A4<|by
 obtain⟨t,rfl⟩:=ho
 obtain⟨u,rfl⟩:=hl'
 obtain⟨w,rfl⟩:=hu'
 refine M7 λ G102 hG102=>?_; obtain⟨mm,ol,F,hm,N,A⟩:=r.real; refine hG102 ?_
 exact P6 λ value hv=>slice_strN_ss (s:=c.at hh tk) F N (λ h' t' k' F' N'=>E2.ofV (a:= .str _) (r.of F' hm N' A) ⟨t',by rw[e]⟩ h) rfl hv (by rw[dT]; lia)
theorem HR{ys:List Str}:∀ {vs:List aF},Q1 (ys.map .str) vs->StrsAre vs ys:=by
 induction ys with
 | nil=>intro vs h; cases vs with
  | nil=>exact .nil
  | cons _ _=>exact h.elim
 | cons y r ih=>intro vs h; cases vs with
  | nil=>exact h.elim
  | cons v s=>obtain⟨⟨t,rfl⟩,h2⟩:=h; exact .cons y t (ih h2)
theorem IO{x:Str}{D:aJ}{ys:List Str}(hm:(D,AO.list (ys.map .str))∈led)(hok:(ys.map (·.length)).sum+ys.length*x.length<=16777216)(h:k (.str (Txt.join x ys)) led):C9 c (.fn (.builtin "str.join")) [.str x,.ref D] m led k:=
 N9 M5 λ vs hv hh tk r=>A4<|by
  obtain⟨_,_,rfl,⟨t,rfl⟩,rfl⟩:=U3 hv
  obtain⟨o,⟨us,n,rfl,hu⟩,g⟩:=r.get hm
  exact join_list (GZ g) (HR hu) hok λ t' k'=>E2.ofV (a:= .str _) r ⟨_,rfl⟩ h
theorem IJ{x:Str}{k:AV->List AV->La->Prop}(h:k (.fn (.builtin "str.join")) [.str x] led):Hw c (aA "join") (.str x) m led k:=λ u hu pl hh tk r=>A4<|by
 obtain⟨t,rfl⟩:=hu
 exact GM.join ⟨_,_,led,rfl,r,.fn _,[.str x],rfl,⟨⟨_,rfl⟩,trivial⟩,h⟩
end
end
section
section
variable{c:Cx}{m:Lm}{led rest:La}{k:Fl->Lm->La->Prop}{d:Nat}{σ:Type}
theorem VQ{c:Cx}{o:Option AV}{ob:Obj}(h:L9 c.w (.cell o) ob):∃ v,ob.data= .cell v:=by
 induction o with
 | none=>exact⟨_,h⟩
 | some a=>exact C8 h λ V e V=>⟨_,e⟩
theorem WH{Q:Unit->aH->Prop}{E:aF->aH->Prop}{x:Str}{v:AV}{u:aF}{o:Option AV}{W:aJ}{S:cB}{cl:List (Str×aJ)}{hh:bF}{tk:Nat}(H:Ok c d)(hs:c.env.scope=S)(hx:S.names.lookup x=some .cell)(hc:c.env.cells=cl)(hl:cl.lookup x=some W)(hu:Rl v u)(r:B6 c m led hh)(hp:C1 (W,AO.cell o) led rest)(q:∀ h',B6 c m ((W,AO.cell (some v))::rest) h'->Q () (c.at h' tk)):wpAny (model PG c.w) c.A (storeName c.env x u) Q E (c.at hh tk):=
 C8 (r.get hp.mem.1) λ ob ho hg=>(VQ ho).elim λ v₀ hv₀=>lS H.fk (Kh hs hx) (hc▸hl) ⟨ob,hg,hv₀⟩ λ h' z hsb=>C8 z λ ob' hg' hd'=>q h' (r.set (ao':= .cell (some v)) hp hsb hg' ⟨u,hd',hu⟩)
theorem Nw{x:Str}{px:Pos}{W:aJ}{S0:cB}{cl:List (Str×aJ)}(hs:c.env.scope=S0)(hxc:S0.names.lookup x=some .cell)(hcl:c.env.cells=cl)(hlk:cl.lookup x=some W)(ov:σ->Option AV)(cs:List Str)(M:σ->Lm)(Lr:σ->La)(P:Nat->σ->Prop)(Pe:σ->Prop)(s₀:σ){back:La}{body:List dY}{n:Nat}{I:aJ}{own:List aJ}{kp:L5}{Pv:Nat->aF->bF->Prop}{St:Nat->bF->Prop}{It:Nat->List AV->Prop}{os:aJ->Obj}{h:bF}{tk:Nat}
  (H:Ok c d) (hIt:∀ i v h,Pv i v h->∃ as,It i as/\Bd (.Name x px) v h as) (S:Sc c (.Name x px) I own kp n Pv St) (st:St 0 h) (r:B6 c m (((W,.cell (ov s₀))::Lr s₀)++(v3 own os++E7 kp)) h) (hm:Q8 m (M s₀)) (h0:P 0 s₀)
  (turn:∀ i as s rw,i < n->It i as->P i s->O6 c cs 40 body (M s) ((W,.cell (some (as.getD 0 .none)))::Lr s++rw) (Tn (P (i+1)) Pe M (λ s=>(W,.cell (ov s))::Lr s) rw k))
  (hdone:∀ s,P n s->Pe s) (hb:∀ {m led h},B6 c m (led++E7 kp) h->B6 c m (led++back) h) (fin:∀ s,Pe s->k .next (M s) (((W,.cell (ov s))::Lr s)++back)):
  G2 c.b (model PG c.w) c.A (.forLoop (.Name x px) (.ref I) body [] c.env) (λ r s'=>match r with | .ok f=>H1 c k f s' | .error e=>cameBackBy (model PG c.w) c.A c.env c.E e s') (c.at h tk):=by
 exact HL cs M (λ s=>(W,.cell (ov s))::Lr s) P Pe s₀ (λ V s=>M s) (λ as s=>(W,.cell (some (as.getD 0 .none)))::Lr s) H hIt (λ V hbd r q=>C8 hbd λ a e hva=>by subst e; exact A4 (wpAny_assign_Name (WH H hs hxc hcl hlk hva r (.head _) λ h2 r2=>q h2 _ r2))) S st r hm h0 turn hdone hb fin
theorem FH{x:Str}{px:Pos}{W:aJ}{S0:cB}{cl:List (Str×aJ)}(hs:c.env.scope=S0)(hxc:S0.names.lookup x=some .cell)(hcl:c.env.cells=cl)(hlk:cl.lookup x=some W)(ov:σ->Option AV)(cs:List Str)(M:σ->Lm)(Lr:σ->La)(P:Nat->σ->Prop)(Pe:σ->Prop)(s₀:σ){body:List dY}{src:AV}{n:Nat}{It:Nat->AV->Prop}{back:La}(I:t9 c src led n It rest back)(H:Ok c d)(hm:Q8 m (M s₀))(hl:Sb rest ((W,.cell (ov s₀))::Lr s₀))(h0:P 0 s₀)
  (turn:∀ i a s rw (K:Fl->Lm->La->Prop),(∀ fl m' led',Tn (P (i+1)) Pe M (λ s=>(W,.cell (ov s))::Lr s) rw k fl m' led'->K fl m' led')->i < n->It i a->P i s->O6 c cs 40 body (M s) ((W,.cell (some a))::Lr s++rw) K)
  (hdone:∀ s,P n s->Pe s) (fin:∀ s,Pe s->k .next (M s) ((W,.cell (ov s))::Lr s++back)):l5 c (.Name x px) body src m led k:=by
 intro v hv h tk r
 refine A4 ((I.x (x:=x) (px:=px)) v hv m h tk r _ _ λ I h' own os kp Pv St hIt S st r' hb V=>?_)
 exact Nw hs hxc hcl hlk ov cs M Lr P Pe s₀ H hIt S st (r'.sub hl.app) hm h0 (λ i as s rw hi z hP=>C8 z λ a e ha=>by subst e; exact turn i a s rw _ (λ V V V h=>h) hi ha hP) hdone (λ r=>hb rfl r) fin
end
end
section
noncomputable def b9(z:Int):List Nat:=(cX 9).map λ a=>if eJ (z / 2 ^ (8 - a)) 1=0 then 48 else 49
noncomputable def Gr(ch:Nat):Str:=⟨#[ch]⟩
noncomputable def g8(ks:List Int):List Nat:=ks.flatMap b9
theorem Gb(a b:List Nat):Bo a++Bo b=Bo (a++b):=by
 show Str.append _ _=_
 unfold Bo Str.append; simp
theorem d5(z:Int):(b9 z).length=9:=by unfold b9; rw[aQ,dQ]
theorem Bs(ks:List Int):(g8 ks).length=9*ks.length:=by
 unfold g8
 induction ks with
 | nil=>rfl
 | cons z r ih=>rw[fB,aI,d5,ih,bW]; lia
theorem JX(z:Int):Hr (b9 z):=by
 intro ch hc
 obtain⟨a,_,rfl⟩:=dX.mp hc
 split<;>first | exact .inl rfl | exact .inr rfl
theorem JM(a:Nat)(r:List Nat):Gr a++Str.empty++Bo r=Bo (a::r):=by
 rw[Str.append_empty]; exact Gb [a] r
theorem FN:∀ (l:List Nat),Str.join Str.empty (l.map Gr)=Bo l
 | []=>rfl
 | [a]=>rfl
 | a::b::r=>by
  have ih:=FN (b::r)
  show Gr a++Str.empty++Str.join Str.empty ((b::r).map Gr)=_
  rw[ih]; exact JM a (b::r)
theorem HJ(l:List Nat):Txt.join (aA "") (l.map Gr)=Bo l:=by
 unfold Txt.join
 rw[StrLaws.glued_eq_join]; exact FN l
theorem LZ{l:List Nat}(h:l.length<=1000):((l.map Gr).map (·.length)).sum+(l.map Gr).length*(aA "").length<=16777216:=by
 have e:∀ l:List Nat,((l.map Gr).map (·.length)).sum=l.length:=by
  intro l
  induction l with
  | nil=>rfl
  | cons a r ih=>rw[cP,cP,List.sum_cons,ih,bW]; show 1+_=_; lia
 rw[e,show(aA "").length=0 from rfl,Nat.mul_zero]; lia
theorem Gd{α:Type}(f:Nat->α)(z:Int){j:Nat}(h:j < 9):((b9 z).take (j+1)).map f=((b9 z).take j).map f++[f (if eJ (z / 2 ^ (8 - j)) 1=0 then 48 else 49)]:=by
 have e:(b9 z)[j]? =some (if eJ (z / 2 ^ (8 - j)) 1=0 then 48 else 49):=by
  unfold b9; rw[cJ,iP h]; rfl
 rw[aV,e,bB]; rfl
theorem Hm{ks:List Int}{i:Nat}{z:Int}(h:ks[i]? =some z):g8 (ks.take (i+1))=g8 (ks.take i)++b9 z:=by
 unfold g8; rw[aV,h,fG]; simp
noncomputable def M6(os:List Int):List Nat:=g8 ([256]++os++[257])++bO (8 - (g8 ([256]++os++[257])).length % 8) 48
noncomputable def x9(os:List Int):List Int:=(cX ((M6 os).length / 8)).map λ j=>((BD (((M6 os).drop (8*j)).take 8):Nat):Int)
theorem Ka(ks:List Int):Hr (g8 ks):=by
 intro ch hc
 obtain⟨z,_,h⟩:=List.mem_flatMap.mp hc
 exact JX z ch h
theorem y0(os:List Int):Hr (M6 os):=by
 intro ch hc
 rcases cM.mp hc with h | h
 ·exact Ka _ ch h
 ·exact .inl (List.eq_of_mem_replicate h)
theorem r8(m:Nat):m+(8 - m % 8)=8*(m / 8+1):=by lia
theorem CK(os:List Int):(M6 os).length=8*(9*(os.length+2) / 8+1):=by
 have e:([256]++os++[257]).length=os.length+2:=by rw[aI,aI]; exact congrArg (· +1) (eK 1 os.length)
 unfold M6
 rw[aI,cL,Bs,e,r8]
theorem Cg(os:List Int):∃ q,(M6 os).length=8*q/\q<=2*os.length+10:=⟨_,CK os,by lia⟩
theorem Mw:∀ {l:List Nat},Hr l->BD l < 2 ^ l.length:=by
 have g:∀ (l:List Nat) (a:Nat),Hr l->l.foldl (λ a c=>a*2+(c - 48)) a < (a+1)*2 ^ l.length:=by
  intro l
  induction l with
  | nil=>intro a _; show a < (a+1)*1; lia
  | cons x r ih=>
   intro a h
   have h1:=ih (a*2+(x - 48)) λ d hd=>h d (.tail _ hd)
   have h2:a*2+(x - 48)+1<=(a+1)*2:=by rcases h x (.head _)with rfl | rfl<;>lia
   refine dK h1 (aS (Nat.mul_le_mul_right _ h2) ?_)
   rw[bW,Nat.pow_succ,Nat.mul_assoc,kK 2 (2 ^ r.length)]; exact aR _
 intro l h
 have:=g l 0 h
 rw[hZ,Nat.one_mul]at this; exact this
theorem DR(os:List Int):W0 (x9 os):=by
 intro x hx
 obtain⟨j,hj,rfl⟩:=dX.mp hx
 have hb:Hr (((M6 os).drop (8*j)).take 8):=λ d hd=>y0 os d (fA (eZ hd))
 have h1:=Mw hb
 have h2:2 ^ (((M6 os).drop (8*j)).take 8).length<=2 ^ 8:=lC (by decide) (by rw[bK]; exact fT _ _)
 have h3:(2:Nat) ^ 8=256:=rfl
 lia
section
variable{c:Cx}{m:Lm}{led rest:La}{k:AV->La->Prop}
theorem NM{k:Bool->La->Prop}{n:Int}(h:k (n != 0) led):XV c (λ vs=>truthy (vs.getD 0 .none)) [.int n] m led k:=λ vs hv hh tk r=>A4<|by
 obtain⟨_,rfl,t,rfl⟩:=CR hv
 exact truthy_int ⟨_,_,led,rfl,r,h⟩
theorem FK{a b:List Nat}(hz:a.length+b.length<=100000)(h:k (.str (Bo (a++b))) led):Op c (λ vs=>binaryOp .Add (vs.getD 0 .none) (vs.getD 1 .none)) [.str (Bo a),.str (Bo b)] m led k:=FJ hz (by rw[Gb]; exact h)
theorem Vu{n:Int}(h0:1<=n)(h1:n<=8):Txt.mul (aA "0") n=Bo (bO n.toNat 48):=by
 obtain⟨k,rfl⟩:=cG (Int.le_trans (by decide) h0)
 exact(by decide+kernel:∀ k:Nat,k < 9->Txt.mul (aA "0") k=Bo (bO k 48)) k (Nat.lt_succ_of_le (Int.ofNat_le.mp h1))
theorem KA{l:List Nat}{i:Nat}(h:8*i+8<=l.length):Txt.slice (Bo l) (some (0+(i:Int)*8)) (some (0+(i:Int)*8+8))=Bo ((l.drop (8*i)).take 8):=by
 have e:=slice_closesL (x:=Bo l) (i:=0+(i:Int)*8) (j:=0+(i:Int)*8+8) (by lia) (by lia) (by show _<=((l.length:Nat):Int); lia)
 rw[show(0+(i:Int)*8).toNat=8*i from(hZ _).trans (kK i 8),show(0+(i:Int)*8+8 - (0+(i:Int)*8)).toNat=8 by rw[gG _ 8,jN]; rfl]at e
 exact jW e
theorem IX{os:List Int}(H:Ok c 2)(hz:os.length<=1000)(h:∀ r,r=x9 os->k (.bytes r) led):C9 c (.ref 797) [.bytes os] m led k:=by
 refine' Q3 [("octets",.bytes os)] [("octets",.bytes os)] [("code",none),("bits",none)] H ?_
 intro c1 O hs hw hg W1 W2 hc
 refine' M8 ?_
 refine' I2 O hs rfl hc rfl (by tm_at "e") ?_
 refine' F5 ?_
 refine' T1 ?_ (hs:=λ V=>rfl)
 refine' C3 (ns:=[_]) rfl (by simp) (λ D=>?_)
 refine' A0 O hs ?_
 refine' T8 O (by tm_at "c") (λ D=>?_)
 refine' I4 (by tm_at "b") (by tm_at "b") (by simp only[aI,bW,eW]; tm_at "a") (λ D=>?_)
 refine' C3 (ns:=[_]) rfl (by simp) (λ D=>?_)
 refine' I4 (by tm_at "b") (by tm_at "b") (by simp only[aI,bW,eW]; tm_at "a") (λ D=>?_)
 refine' FH hs rfl hc rfl (λ s:Option AV×List Nat=>s.1) ["code","bits"] (λ V=>[("octets",.bytes os)]) (λ s=>(W2,.cell (some (.str (Bo s.2))))::led) (λ i s=>s.2=g8 (([256]++os++[257]).take i)) (λ s=>s.2=g8 ([256]++os++[257])) (none,[]) (An O (by tm_at "e")) O ⟨rfl,trivial⟩ (by tm_at "d") rfl ?_ (λ s hs=>by rw[bD]at hs; exact hs) ?_
 ·(intro i a; refine Eh λ ov l=>?_; intro rw K hK hi; refine Bx λ z hz1 zz75=>?_; intro hP; subst zz75)
  dsimp only at hP
  have hll:l.length<=10000:=by
   have e:([256]++os++[257]).length=os.length+2:=by simp only[aI,bW,eW]; lia
   rw[hP,Bs,bK]; lia
  refine' M8 ?_
  refine' A3 O hs hc ?_
  refine' IJ ?_
  refine' K3 ?_ ((H4 hc).trans rfl) rfl (by kernel_rfl)
  refine' A0 O hs ?_
  refine' H9 (λ D=>?_)
  refine' s6 (P7 9 O (.head _) rfl rfl) (λ V:Unit=>_) (λ j V ys=>ys=((b9 z).take j).map (λ ch=>AV.str (Gr ch))) () O hs .refl rfl rfl rfl rfl (by kernel_rfl) (by tm_at "a") ?_ ?_
  ·clear O hs hc
   rintro c2 O hs hw2 hc j a _ ys rw hj rfl hys hyl
   have hj8:(8 - (0+(j:Int)*1)).toNat=8 - j:=by rw[cW,jY]; exact fV 8 j
   refine' A3 O hs hc ?_
   refine' Cu (by tm_at "a") ?_
   refine' EC ?_
   refine' NM ?_
   refine' MZ (λ V=>?_) (λ V=>?_)
   exact Hu (P:=λ(_:Unit) y=>ys++[y]=((b9 z).take (j+1)).map (λ ch=>AV.str (Gr ch))) () (by show ys++[_]=_; rw[Gd _ _ hj,←hys,←hj8]; first | (rw[if_pos (by assumption)]; rfl) | (rw[if_neg (by assumption)]; rfl)) (by tm_at "d")
   exact Hu (P:=λ(_:Unit) y=>ys++[y]=((b9 z).take (j+1)).map (λ ch=>AV.str (Gr ch))) () (by show ys++[_]=_; rw[Gd _ _ hj,←hys,←hj8]; first | (rw[if_pos (by assumption)]; rfl) | (rw[if_neg (by assumption)]; rfl)) (by tm_at "d")
  ·rintro _ ys D hys
   refine'⟨_,λ V h=>h,?_⟩
   rw[bN (by rw[d5]; exact aR _),show(λ ch=>AV.str (Gr ch))=AV.str∘Gr from rfl,←gC]at hys
   subst hys
   (refine' IO (.head _) (LZ (by rw[d5]; tm_at "a")) ?_; rw[HJ])
   refine' FK (by rw[d5]; tm_at "a") ?_
   refine' I2 O hs rfl hc rfl (by tm_at "e") ?_
   (refine' hK _ _ _ ?_; exact go (some (.int z),l++b9 z) (by show l++b9 z=_; rw[Hm hz1,←hP]) ⟨rfl,trivial⟩ (by tm_at "d"))
 ·(refine Eh λ ov l=>?_; intro hP)
  dsimp only at hP
  have hll:l.length<=10000:=by
   have e:([256]++os++[257]).length=os.length+2:=by simp only[aI,bW,eW]; lia
   rw[hP,Bs]; lia
  have hbl:(Bo l).length=l.length:=rfl
  change V5 c1 _ _ _ _ .next [("octets",.bytes os)] ((W1,.cell ov)::(W2,.cell (some (.str (Bo l))))::(led++[(_,.ints _)]))
  refine' A3 O hs hc ?_
  refine' A0 O hs ?_
  refine' A3 O hs hc ?_
  refine' CB (by rw[hbl]; tm_at "a") ?_
  refine' G5 (by tm_at "a") ?_
  refine' G5 (by tm_at "a") ?_
  (refine' Li (aB rfl) (by tm_at "a") (by tm_at "a") ?_; rw[Vu (by tm_at "a") (by tm_at "a")])
  refine' FK (by rw[cL]; tm_at "a") ?_
  refine' I2 O hs rfl hc rfl (by tm_at "e") ?_
  refine' A0 O hs ?_
  refine' K3 ?_ ((H4 hc).trans rfl) rfl (by kernel_rfl)
  refine' A0 O hs ?_
  refine' A0 O hs ?_
  refine' A3 O hs hc ?_
  have hcb:l++bO (0 - ((Bo l).length:Int) % 8 % 8+8).toNat 48=M6 os:=by
   rw[hbl,hP]; unfold M6
   rw[show(0 - ((g8 ([256]++os++[257])).length:Int) % 8 % 8+8).toNat=8 - (g8 ([256]++os++[257])).length % 8 by rw[Int.zero_sub,gG,←Int.sub_eq_add_neg]; exact(fV 8 _).trans (congrArg (8 - ·) (Nat.mod_mod _ _))]
  refine M7 λ G23 hG23=>?_; obtain⟨q,hq1,hq2⟩:=Cg os; refine hG23 ?_
  have hbl2:(((Bo (M6 os)).length:Nat):Int)=8*q:=by show(((M6 os).length:Nat):Int)=_; rw[hq1]; lia
  have e8:(8*(q:Int)) - 8*q % 8=8*q:=by lia
  have hrs:=P2 (a:=0) (b:=8*(q:Int)) (c:=8) (by tm_at "a") (by tm_at "a") (by tm_at "a") (by tm_at "a")
  rw[hcb]
  (refine' CB (by show(M6 os).length<=_; tm_at "a") ?_; rw[hbl2])
  refine' A0 O hs ?_
  refine' A3 O hs hc ?_
  (refine' CB (by show(M6 os).length<=_; tm_at "a") ?_; rw[hbl2])
  refine' G5 (by tm_at "a") ?_
  refine' T5 (by tm_at "a") (λ D=>?_)
  have hsz:aW 0 (8*(q:Int) - 8*q % 8) 8=(q:Int):=by
   rw[e8]
   by_cases h0:q=0
   ·rw[h0]; rfl
   ·exact K9 (by tm_at "a") (by tm_at "a") (by tm_at "a") (by tm_at "a")
  refine' DO (P7 q O (.head _) (by rw[e8]; exact hrs.1) hsz) (λ j=>((BD (((M6 os).drop (8*j)).take 8):Nat):Int)) O hs rfl rfl rfl (by kernel_rfl) (by tm_at "a") ?_ ?_
  ·clear O hs hc
   rintro c2 O hs hw2 hc j a rw hj rfl
   have hsl:=KA (l:=M6 os) (i:=j) (by tm_at "a")
   have hbj:Hr (((M6 os).drop (8*j)).take 8):=λ d hd=>y0 os d (fA (eZ hd))
   have hlj:(((M6 os).drop (8*j)).take 8).length=8:=by rw[bK,eN]; tm_at "a"
   refine' A0 O hs ?_
   refine' A3 O hs hc ?_
   refine' GD (by show(M6 os).length<=_; tm_at "a") hsl ?_
   refine' Lq hbj (by intro e; rw[e]at hlj; contradiction) (by tm_at "a") ?_
   exact Wl rfl (by tm_at "d")
  ·intro D
   refine' H6 (ns:=x9 os) O (by unfold x9; rw[hq1,gX _ (by decide)]; exact .head _) (DR os) (by unfold x9; rw[aQ,dQ,hq1,gX _ (by decide)]; tm_at "a") ?_
   exact A5 (.drop (.drop (.drop (.drop (Sb.left.trans Sb.left))))) (h _ rfl)
end
end
section
section
variable{prog:bY}{w:bP}{A:bS}{E:aF->aH->Prop}{s:aH}{g:bF}{L:aJ}
theorem Kz{x:Str}{t:Tok}{m:Ev}{led:L5}{K:aF->aH->Prop}(ha:x.cps.all (· < 128)=true)(hh:A.handled=none)(F:Fr g L s.heap m)(N:fQ g L s.heap led)
  (k:∀ I h',Fr g L h' m->fQ g L h' led->s.heap.objs.size<=I->Po prog w A g L x.cps.size (λ i v=>∃ c u,x.cps[i]? =some c/\v= .str ⟨#[c]⟩ u) I [I] [] (λ i h=>h.IsStrIter I "str_ascii_iterator" x t i) h'->(∀ l:L5,(∀ p∈l,p∈led)->l7 [I] l)->K (.ref I) {s with heap:=h'}):
  wpAny (model prog w) A (pyIter (.str x t)) K E s:=by
 refine wpAny_pyIter_ascii ha ?_
 have gi:g.get? s.heap.objs.size=none:=Z7 F (aR _)
 have hlt:L≠s.heap.objs.size:=bQ F.ns.lt
 have W:=Walks.strAscii (prog:=prog) (w:=w) hh s.heap.objs.size x t
 refine k _ _ (F.push _) (λ p hp=>⟨aN _ (N p hp).1,(N p hp).2⟩) (aR _) ⟨⟨_,_,W,λ b hb=>hb,λ b hb V=> .inl hb,λ b hb=>⟨hb,by rw[aL.mp hb]; exact gi⟩,by rw[aL]; exact hlt,λ b hb=>by rw[aL.mp hb]; exact gi⟩,
  λ i h st b hb=>by rw[aL.mp hb]; obtain⟨o,ho,_⟩:=st; exact⟨o,ho⟩,⟨_,bC _ rfl,rfl,rfl⟩⟩ (λ l hl=>⟨AT N hl (aR _),trivial⟩)
theorem Ky{l:aJ}{o:Obj}{items:Array aF}{m:Ev}{led:L5}{K:aF->aH->Prop}(hh:A.handled=none)(F:Fr g L s.heap m)(N:fQ g L s.heap led)(hm:(l,o)∈led)(ho:o.cls= .type "tuple"/\∃ n,o.data= .seq items n)
  (k:∀ I h',Fr g L h' m->fQ g L h' led->s.heap.objs.size<=I->Po prog w A g L items.size (λ i v=>items[i]? =some v) I [I] [(l,o)] (λ i h=>h.IsTupleIter I l i/\h.IsTuple l items) h'->(∀ l:L5,(∀ p∈l,p∈led)->l7 [I] l)->K (.ref I) {s with heap:=h'}):
  wpAny (model prog w) A (pyIter (.ref l)) K E s:=by
 have hl:s.heap.IsTuple l items:=⟨o,(N _ hm).1,ho⟩
 refine wpAny_pyIter_tuple hl ?_
 have gi:g.get? s.heap.objs.size=none:=Z7 F (aR _)
 have hlt:L≠s.heap.objs.size:=bQ F.ns.lt
 have hls:l≠s.heap.objs.size:=bQ (bM (N _ hm).1)
 have W:=Walks.tuple (prog:=prog) (w:=w) hh s.heap.objs.size l hls items
 refine k _ _ (F.push _) (λ p hp=>⟨aN _ (N p hp).1,(N p hp).2⟩) (aR _) ⟨⟨_,_,W,λ b hb=>hb,λ b hb V=>?_,λ b hb=>⟨List.mem_cons.mpr (.inl (aL.mp hb)),by rw[aL.mp hb]; exact gi⟩,?_,λ b hb=>by rw[aL.mp hb]; exact gi⟩,
  λ i h st b hb=>by rw[aL.mp hb]; obtain⟨⟨o,ho,_⟩,_⟩:=st; exact⟨o,ho⟩,⟨⟨_,bC _ rfl,rfl,rfl⟩,hl.at λ o e=>aN _ e⟩⟩ (λ l hl=>⟨AT N hl (aR _),trivial⟩)
 ·rcases bE.mp hb with e | hb
  ·exact .inl (aL.mpr e)
  ·exact .inr (by rw[aL.mp hb]; exact aL.mpr rfl)
 ·intro hb
  rcases bE.mp hb with e | hb
  ·exact hlt e
  ·exact(N _ hm).2.1 (aL.mp hb).symm
end
section
variable{c:Cx}{m:Lm}{led rest:La}{d:Nat}
theorem Ow{x:Str}(H:Ok c d)(ha:x.cps.all (· < 128)=true):t9 c (.str x) led x.cps.size (λ i v=>∃ ch,x.cps[i]? =some ch/\v= .str ⟨#[ch]⟩) led []:=by
 intro v hv m h tk r K E q
 obtain⟨t,rfl⟩:=hv
 refine M7 λ G104 hG104=>?_; obtain⟨mm,ol,F,hloc,N,A⟩:=r.real; refine hG104 ?_
 refine Kz ha H.R.hh F N λ I h' F' N' hI S V=>?_
 exact q I h' [] _ _ (λ i v ⟨ch,u,h1,e⟩=>⟨.str ⟨#[ch]⟩,⟨ch,h1,rfl⟩,u,e⟩) S (by rw[R4]; exact r.of F' hloc N' A) (by rw[R4]; exact r.off hI) (λ V r=>r)
theorem Jm{l:aJ}{as:List AV}(H:Ok c d)(hp:C1 (l,AO.tup as) led rest):t9 c (.ref l) led as.length (λ i a=>as[i]? =some a) rest [(l,.tup as)]:=by
 intro v hv m h tk r K E q
 cases hv
 refine M7 λ G105 hG105=>?_; obtain⟨mm,ol,F,hloc,N,A⟩:=r.real
 obtain⟨o,ho,hmo⟩:=A.mem hp.mem.1; refine hG105 ?_
 obtain⟨vs,rfl,hi⟩:=ho
 refine Ky H.R.hh F N hmo ⟨rfl,_,rfl⟩ (items:=vs.toArray) λ I h' F' N' hI S V=>?_
 rw[aX,G4 hi]at S
 refine q I h' [(l,_)] _ _ (λ i v e=>?_) S (d8 (r.of F' hloc N' A) hp (N' _ hmo).1 .refl) ((d8 r hp (N _ hmo).1 .refl).off hI) (λ hw r=>X7 (ao:= .tup as) ⟨vs,rfl,hi⟩ hw r)
 have e:vs[i]? =some v:=by simpa using e
 have hlt:i < as.length:=by rw[←G4 hi]; exact(aT.mp e).1
 refine M7 λ G106 hG106=>?_; obtain⟨v',h1,h2⟩:=d7 hi (aM hlt); refine hG106 ?_
 rw[e]at h1; cases h1
 exact⟨_,aM hlt,h2⟩
end
end
section
section
variable{c:Cx}{m:Lm}{led rest:La}{k:AV->La->Prop}
theorem Df{os:List Int}(ho:W0 os):W0 (X6 os):=by
 intro x hx
 unfold X6 at hx
 rcases cM.mp hx with h | h
 ·obtain⟨n,hn,h⟩:=List.mem_flatMap.mp h
  simp only[bE,cZ,or_false]at h
  rcases h with rfl | rfl
  ·decide
  ·exact ho _ hn
 ·rw[aL.mp h]; decide
theorem LD{os:List Int}{P:aJ}(H:Ok c 3)(ho:W0 os)(hz:os.length<=1000)(h:∀ r,r=X6 os->k (.bytes r) led):C9 c (.ref 812) [.int 2,.bytes os,.ref P] m led k:=by
 refine' Q3 [("parms",.ref P),("octets",.bytes os),("number",.int 2)] [("parms",.ref P),("octets",.bytes os),("number",.int 2)] [] H ?_
 intro c1 O hs hw hg hc
 refine' B7 ?_
 refine' M0 rfl ?_
 refine' M0 rfl ?_
 refine' d4 rfl ?_
 refine' A0 O hs ?_
 refine' K3 ?_ ((H4 hc).trans rfl) rfl (by kernel_rfl)
 refine' Bm (xs:=[aA "octet"]) (AX O).x (λ V:Unit=>_) (λ i V ys=>ys=((os.take i).flatMap (λ n=>[0,n])).map .int) () O .refl rfl rfl (by kernel_rfl) (by rintro g' hg'; obtain rfl:=aU hg'; exact⟨rfl,λ V V=>rfl⟩) (λ C=> .name (V8 (xs:=[aA "octet"]) (by kernel_rfl) _ (.head _))) (λ i as ⟨_,e,_⟩=>by rw[e]; rfl) ?_ ?_
 ·rintro C OC i as D t ys rw _ hi ⟨_,rfl,n,hn,h0,h1,rfl⟩ hP
  refine' J5 ?_
  refine' E4 (aB rfl) (λ U=>?_)
  refine' JG (xs:=[aA "code"]) (Jm OC (.head _)).x (λ z:List AV=>(D,.list z)::(led++rw)) (λ j z=>z=ys++[AV.int 0,AV.int n].take j) ys rfl OC rfl rfl (λ V h=>nomatch h) (.name (V8 (xs:=[aA "code"]) (by kernel_rfl) _ (.head _))) (λ i as ⟨_,e,_⟩=>by rw[e]; rfl) ?_ ?_ (bA _).symm ?_ ?_
  ·(intro j as; refine Bx λ a zz59 ha=>?_; subst zz59); exact⟨rfl,trivial⟩
  ·exact .refl
  ·(intro j as z rw2 hj; refine Bx λ a zz65 ha=>?_; intro zz66; subst zz65; subst zz66)
   refine' J5 ?_
   show Y3 _ _ _ _ _
   refine' sE (?_:I0 _ _ 30 _ _ _)
   have hz1:(ys++[AV.int 0,AV.int n].take j).length<=100000:=by
    have h2:(os.take i).length<=os.length:=by rw[bK]; exact iN _ _
    have h3:∀ l:List Int,(l.flatMap (λ n=>[0,n])).length=2*l.length:=by
     intro l; induction l with
     | nil=>rfl
     | cons a r ih=>rw[fB,aI,ih]; exact eK 2 _
    have h4:([AV.int 0,AV.int n].take j).length<=2:=by rw[bK]; exact iN _ _
    rw[aI,hP,aQ,h3]; lia
   refine'⟨_,_,.head _,hz1,ys++[AV.int 0,AV.int n].take (j+1),rfl,?_⟩
   have ha:[AV.int 0,AV.int n][j]? =some a:=ha
   rw[aV,ha,←aP]; exact .refl
  ·rintro z rfl
   refine'⟨((),ys++[AV.int 0,AV.int n]),?_,?_⟩
   ·show _++_=_; rw[hP,aV,hn,fG,bB]; rfl
   ·exact .cons (.head _) Sb.left
 ·rintro t ys D rfl
  refine'⟨.ints _,λ o ⟨vs,n,e,h⟩=>⟨vs,n,e,Y7 h⟩,?_⟩
  rw[bD]
  have h3:(os.flatMap (λ n=>[0,n])).length<=2000:=by have:=R3 os; unfold X6 at this; rw[aI,fU]at this; lia
  refine' C3 (ns:=[_]) rfl (by simp) (λ D=>?_)
  refine' I4 (by tm_at "b") (by tm_at "b") (by tm_at "c") (λ D=>?_)
  refine' H6 (ns:=X6 os) O (by tm_at "b") (Df ho) (by rw[R3]; tm_at "a") ?_
  exact A5 (by tm_at "d") (h _ rfl)
theorem LF{os:List Int}{P:aJ}(H:Ok c 3)(ho:W0 os)(hz:os.length<=1000)(h:∀ r,r=R8 os ((os.length+3) / 4)++[126,62]->k (.bytes r) led):C9 c (.ref 812) [.int 1,.bytes os,.ref P] m led k:=by
 refine' Q3 [("parms",.ref P),("octets",.bytes os),("number",.int 1)] [("parms",.ref P),("octets",.bytes os),("number",.int 1)] [] H ?_
 intro c1 O hs hw' hg hc
 refine' B7 ?_
 refine' M0 rfl ?_
 refine' d4 rfl ?_
 refine' A1 O hs ?_
 (refine' IE (O.le (by tm_at "a")) ho (by tm_at "a") ?_; intro r hr; rw[hr]; clear hr r)
 exact A5 (by tm_at "d") (h _ rfl)
theorem LC{rs:List (List Int)}{es:List (Str×AV)}{w:Int}{N:Nat}{P:aJ}(H:Ok c 3)(hP:(P,AO.sd es)∈led)(hw1:(I9 (aA "Predictor") es).getD (.int 1)= .int w)(hw2:(I9 (aA "Columns") es).getD (.int 1)= .int N)(ho:W0 rs.flatten)(hr:F8 N rs)(hN:0 < N)(hN2:N<=5)(hz:rs.flatten.length<=100)(hw:0<=w)(h:∀ r,r=FS (U5 w N rs rs.length)->k (.bytes r) led):C9 c (.ref 812) [.int 3,.bytes rs.flatten,.ref P] m led k:=by
 refine' Q3 [("parms",.ref P),("octets",.bytes rs.flatten),("number",.int 3)] [("parms",.ref P),("octets",.bytes rs.flatten),("number",.int 3)] [] H ?_
 intro c1 O hs hw' hg hc
 have hle:(U5 w N rs rs.length).length<=1000:=by
  have h1:=s2 w N rs.length (d6 hN hr)
  have h2:rs.length*(N+1)<=rs.length*6:=dS _ (bL hN2)
  have h3:=m4 hN hr
  lia
 refine' B7 ?_
 refine' M0 rfl ?_
 refine' M0 rfl ?_
 refine' M0 rfl ?_
 refine' A1 O hs ?_
 refine' Q9 (f:=AO.sd) (g:=AV.str) .str (by tm_at "b") ?_
 refine' V1 (f:=AO.sd) (g:=AV.str) O .str (by tm_at "b") hw1 ?_
 refine' Q9 (f:=AO.sd) (g:=AV.str) .str (by tm_at "b") ?_
 refine' V1 (f:=AO.sd) (g:=AV.str) O .str (by tm_at "b") hw2 ?_
 (refine' y8 (O.le (by tm_at "a")) ho hr hN hN2 (by tm_at "a") hw ?_; intro r hr; rw[hr]; clear hr r)
 refine' B1 hs ?_
 refine' d4 rfl ?_
 refine' A1 O hs ?_
 (refine' GL (O.le (by tm_at "a")) (r9 hw _ _ _) (by tm_at "a") ?_; intro r hr; rw[hr]; clear hr r)
 exact A5 (by tm_at "d") (h _ rfl)
theorem LB{rs:List (List Int)}{es:List (Str×AV)}{w:Int}{N:Nat}{P:aJ}(H:Ok c 3)(hP:(P,AO.sd es)∈led)(hw1:(I9 (aA "Predictor") es).getD (.int 1)= .int w)(hw2:(I9 (aA "Columns") es).getD (.int 1)= .int N)(ho:W0 rs.flatten)(hr:F8 N rs)(hN:0 < N)(hN2:N<=5)(hz:rs.flatten.length<=100)(hw:0<=w)(h:∀ r,r=x9 (U5 w N rs rs.length)->k (.bytes r) led):C9 c (.ref 812) [.int 4,.bytes rs.flatten,.ref P] m led k:=by
 refine' Q3 [("parms",.ref P),("octets",.bytes rs.flatten),("number",.int 4)] [("parms",.ref P),("octets",.bytes rs.flatten),("number",.int 4)] [] H ?_
 intro c1 O hs hw' hg hc
 have hle:(U5 w N rs rs.length).length<=1000:=by
  have h1:=s2 w N rs.length (d6 hN hr)
  have h2:rs.length*(N+1)<=rs.length*6:=dS _ (bL hN2)
  have h3:=m4 hN hr
  lia
 refine' B7 ?_
 refine' M0 rfl ?_
 refine' M0 rfl ?_
 refine' M0 rfl ?_
 refine' A1 O hs ?_
 refine' Q9 (f:=AO.sd) (g:=AV.str) .str (by tm_at "b") ?_
 refine' V1 (f:=AO.sd) (g:=AV.str) O .str (by tm_at "b") hw1 ?_
 refine' Q9 (f:=AO.sd) (g:=AV.str) .str (by tm_at "b") ?_
 refine' V1 (f:=AO.sd) (g:=AV.str) O .str (by tm_at "b") hw2 ?_
 (refine' y8 (O.le (by tm_at "a")) ho hr hN hN2 (by tm_at "a") hw ?_; intro r hr; rw[hr]; clear hr r)
 refine' B1 hs ?_
 refine' M0 rfl ?_
 refine' A1 O hs ?_
 (refine' IX (O.le (by tm_at "a")) (by tm_at "a") ?_; intro r hr; rw[hr]; clear hr r)
 exact A5 (by tm_at "d") (h _ rfl)
end
end
section
noncomputable def u5:Str:=aA "0123456789abcdef"
theorem Jq{q:Int}(h0:0<=q)(h1:q < 16):u5.cps[q.toNat]? =some (J9 q).toNat/\(J9 q).toNat < 128/\0<=J9 q:=by
 obtain⟨k,rfl⟩:=cG h0
 exact(by decide+kernel:∀ k:Nat,k < 16->u5.cps[k]? =some (J9 k).toNat/\(J9 k).toNat < 128/\0<=J9 k) k (kM.mp h1)
theorem XN{a b:Nat}(ha:a < 128)(hb:b < 128):((⟨#[a]⟩:Str)++⟨#[b]⟩).cps.all (· < 128)=true:=by
 rw[Str.cps_append]; simp[ha,hb]
section
variable{c:Cx}{m:Lm}{led rest:La}{k:AV->La->Prop}
theorem LG{os:List Int}{P:aJ}(H:Ok c 3)(ho:W0 os)(hz:os.length<=1000)(h:∀ r,r=(P1 os).map J9++[62]->k (.bytes r) led):C9 c (.ref 812) [.int 0,.bytes os,.ref P] m led k:=by
 refine' Q3 [("parms",.ref P),("octets",.bytes os),("number",.int 0)] [("parms",.ref P),("octets",.bytes os),("number",.int 0)] [] H ?_
 intro c1 O hs hw hg hc
 refine' B7 ?_
 refine' d4 rfl ?_
 refine' A0 O hs ?_
 refine' K3 ?_ ((H4 hc).trans rfl) rfl (by kernel_rfl)
 refine' Bm (xs:=[aA "octet"]) (AX O).x (λ V:Unit=>_) (λ i V ys=>ys=((P1 (os.take i)).map J9).map .int) () O .refl rfl rfl (by kernel_rfl) (by rintro g' hg'; obtain rfl:=aU hg'; exact⟨rfl,λ V V=>rfl⟩) (λ C=> .name (V8 (xs:=[aA "octet"]) (by kernel_rfl) _ (.head _))) (λ i as ⟨_,e,_⟩=>by rw[e]; rfl) ?_ ?_
 ·rintro C OC i as D t ys rw _ hi ⟨_,rfl,n,hn,h0,h1,rfl⟩ hP
  refine' J5 ?_
  have e1:=Jq (q:=n / 16) (by lia) (by lia)
  have e2:=Jq (q:=n % 16) (by lia) (by lia)
  refine' M4 (by tm_at "a") ?_
  refine' Dl (by tm_at "a") (by show _ < (16:Int); tm_at "a") (aB rfl) e1.1 ?_
  refine' G5 (by tm_at "a") ?_
  refine' Dl (by tm_at "a") (by show _ < (16:Int); tm_at "a") (aB rfl) e2.1 ?_
  refine' FJ (aB rfl) ?_
  have hx1:((J9 (n / 16)).toNat:Int)=J9 (n / 16):=iU e1.2.2
  have hx2:((J9 (n % 16)).toNat:Int)=J9 (n % 16):=iU e2.2.2
  refine' JG (xs:=[aA "sign"]) (Ow OC (XN e1.2.1 e2.2.1)).x (λ z:List AV=>(D,.list z)::(led++rw)) (λ j z=>z=ys++[AV.int (J9 (n / 16)),AV.int (J9 (n % 16))].take j) ys rfl OC rfl rfl (λ V h=>nomatch h) (.name (V8 (xs:=[aA "sign"]) (by kernel_rfl) _ (.head _))) (λ i as ⟨_,e,_⟩=>by rw[e]; rfl) ?_ ?_ (bA _).symm ?_ ?_
  ·(intro j as; refine Bx λ a zz25 ha=>?_; subst zz25); exact⟨rfl,trivial⟩
  ·exact .refl
  ·rintro j as z rw2 hj ⟨_,rfl,ch,hch,rfl⟩ rfl
   refine' J5 ?_
   show Y3 _ _ _ _ _
   refine' sE (?_:I0 _ _ 30 _ _ _)
   have O:=OC
   have hs:=Y8 (sc:={kind:=ScopeKind.function,names:=[(aA ".0",NameKind.local),(aA "octet",NameKind.local),(aA "sign",NameKind.local),(aA "ord",NameKind.globalImplicit)],isGenerator:=false,isCoroutine:=false}) hs
   refine' A0 O hs ?_
   refine' NR ?_
   have ha:[AV.int (J9 (n / 16)),AV.int (J9 (n % 16))][j]? =some (AV.int (ch:Int)):=by
    match j,hch with
    | 0,hch=>
     have e:some (J9 (n / 16)).toNat=some ch:=hch
     obtain rfl:=aU e; rw[hx1]; rfl
    | 1,hch=>
     have e:some (J9 (n % 16)).toNat=some ch:=hch
     obtain rfl:=aU e; rw[hx2]; rfl
    | j+2,hch=>exact nomatch (show(none:Option Nat)=some ch from hch)
   have hz1:(ys++[AV.int (J9 (n / 16)),AV.int (J9 (n % 16))].take j).length<=100000:=by
    have h2:(os.take i).length<=os.length:=by rw[bK]; exact iN _ _
    have h4:([AV.int (J9 (n / 16)),AV.int (J9 (n % 16))].take j).length<=2:=by rw[bK]; exact iN _ _
    rw[aI,hP,aQ,aQ,V4]; lia
   refine'⟨_,_,.head _,hz1,ys++[AV.int (J9 (n / 16)),AV.int (J9 (n % 16))].take (j+1),rfl,?_⟩
   rw[aV,ha,←aP]; exact .refl
  ·rintro z rfl
   refine'⟨((),ys++[AV.int (J9 (n / 16)),AV.int (J9 (n % 16))]),?_,?_⟩
   ·show _++_=_; rw[hP,aV,hn]; unfold P1; rw[fG,bB,bB]; rfl
   ·exact .cons (.head _) Sb.left
 ·rintro t ys D rfl
  refine'⟨.ints _,λ o ⟨vs,n,e,h⟩=>⟨vs,n,e,Y7 h⟩,?_⟩
  rw[bD]
  have hl:((P1 os).map J9).length<=2000:=by rw[aQ,V4]; lia
  have hoc:W0 ((P1 os).map J9++[62]):=by
   refine W0.app (λ x hx=>?_) (λ x hx=>by rw[aL.mp hx]; decide)
   obtain⟨q,hq,rfl⟩:=dX.mp hx
   have h1:=CD ho q hq
   have h2:=Jq h1.1 h1.2
   exact⟨h2.2.2,by have:=h2.2.1; lia⟩
  refine' C3 (ns:=[_]) rfl (by simp) (λ D=>?_)
  refine' I4 (by tm_at "b") (by tm_at "b") (by show _+1<=_; tm_at "a") (λ D=>?_)
  refine' H6 (ns:=(P1 os).map J9++[62]) O (by tm_at "b") hoc (by rw[aI]; show _+1<=_; tm_at "a") ?_
  exact A5 (by tm_at "d") (h _ rfl)
end
end
section
noncomputable def a5(es:List (Int×AV)):Prop:=es.map (·.1)=(cX es.length).map λ i:Nat=>3+(i:Int)
theorem a5.nil:a5 []:=rfl
theorem Ib{es:List (Int×AV)}{x:Int}{v:AV}(h:x∉es.map (·.1)):J3 x v es=es++[(x,v)]:=by
 induction es with
 | nil=>rfl
 | cons p r ih=>
  rw[cP,bE,not_or]at h
  show(if x=p.1 then(x,v)::r else p::J3 x v r)=_
  rw[if_neg h.1,ih h.2]; rfl
theorem a5.no{es:List (Int×AV)}(h:a5 es):(3+(es.length:Int))∉es.map (·.1):=by
 rw[show es.map (·.1)=_ from h]
 intro q
 obtain⟨i,hi,e⟩:=dX.mp q
 have:=List.mem_range.mp hi
 lia
theorem a5.snoc{es:List (Int×AV)}{v:AV}(h:a5 es):a5 (es++[(3+(es.length:Int),v)]):=by
 unfold a5 at h ⊢
 rw[bB,h,aI,fU,gQ,bB]; rfl
set_option tactic.hygienic true in
theorem LX{es xs:List (Int×AV)}{n:Int}{v:AV}(h:I9 n es=some v):I9 n (es++xs)=some v:=by
 induction es with
 | nil=>contradiction
 | cons p r ih=>
  have e:(if n=p.1 then some p.2 else I9 n r)=some v:=h
  show(if n=p.1 then some p.2 else I9 n (r++xs))=_
  split
  ·rename_i q; rw[if_pos q]at e; exact e
  ·rename_i q; rw[if_neg q]at e; exact ih e
theorem LW{es:List (Int×AV)}{n:Int}{v:AV}(h:n∉es.map (·.1)):I9 n (es++[(n,v)])=some v:=by
 induction es with
 | nil=>show(if n=n then some v else _)=_; rw[if_pos rfl]
 | cons p r ih=>
  rw[cP,bE,not_or]at h
  show(if n=p.1 then some p.2 else I9 n (r++[(n,v)]))=_
  rw[if_neg h.1]; exact ih h.2
theorem H2.ext{led:La}{es:List (Int×AV)}(xs:List (Int×AV)){i:Nat}{v u:AV}(x:H2 es led i v u):H2 (es++xs) led i v u:=by
 induction x with
 | here=>exact .here
 | hop a b c d _ ih=>exact .hop a b (LX c) d ih
theorem Qo{r:Int}(h0:0<=r)(h1:r < 4):∃ n:Nat,n<=2/\[AV.int 0,AV.int 0,AV.int 1,AV.int 2][r.toNat]? =some (AV.int (n:Int)):=by
 have:r=0∨r=1∨r=2∨r=3:=by lia
 rcases this with rfl | rfl | rfl | rfl
 ·exact⟨0,aB rfl,rfl⟩
 ·exact⟨0,aB rfl,rfl⟩
 ·exact⟨1,aB rfl,rfl⟩
 ·exact⟨2,aB rfl,rfl⟩
section
variable{c:Cx}{m:Lm}{led rest:La}{k:AV->La->Prop}
theorem N8{P C T:aJ}{q:Int}{t:Nat×Int}{cs:List Int}{es:List (Int×AV)}{v:AV}{rest2:La}(H:Ok c 3)(hP:C1 (P,J4 C q t) led rest)(hT:C1 (T,.kd es) rest rest2)(hC:(C,AO.ints cs)∈rest2)(hz:cs.length<=63)(hq:0<=q/\q < 1009)(ht:t.1 < 90000000)(hk:a5 es)(he:es.length<=900)
  (h:∀ v' t' nl xs i,t'.1<=t.1+1->i<=2->xs.length<=2->a5 (es++xs)->H2 (es++xs) nl i v' v->k v' ((P,J4 C q t')::(T,.kd (es++xs))::(nl++rest2))):C9 c (.ref 819) [.ref P,.ref T,v] m led k:=by
 refine' C9.perm hP ?_
 refine' C4 [("value",v),("table",.ref T),("pen",.ref P)] H ?_
 intro c1 O hs hw hg
 have hC1:=hT.mem.2.1 _ hC
 refine' G6 [] O ?_ (hs:=λ V=>rfl)
 refine' A0 O hs ?_
 refine' E4 (aB rfl) (λ D=>?_)
 refine' A1 O hs ?_
 (refine' I3 (O.le (by tm_at "a")) (by tm_at "e") (by tm_at "b") (by tm_at "a") hz hq (by tm_at "a") (λ r t1 ht1 h0 h1=>?_); obtain⟨n,hn2,hn⟩:=Qo h0 h1)
 refine' AK (.tail _ (.head _)) h0 (by tm_at "a") hn ?_
 refine' H9 (λ D=>?_)
 refine' E8 [] (σ:=AV×List (Int×AV)×La) (λ⟨w,_,_⟩=>[("value",w),("table",.ref T)]) (λ⟨_,es',nl⟩=>(T,.kd es')::(P,J4 C q t1)::(nl++rest2)) (λ i ⟨w,es',nl⟩=>∃ xs,es'=es++xs/\xs.length=i/\a5 es'/\H2 es' nl i w v) (λ⟨w,es',nl⟩=>∃ xs,es'=es++xs/\xs.length=n/\a5 es'/\H2 es' nl n w v) (v,es,[]) n O (E6 hs rfl rfl) (.head _) (Bz (by tm_at "a")).1 (Bz (by tm_at "a")).2 ⟨rfl,rfl,trivial⟩ (.drop (.cons (.tail (.tail hT)) (.cons (.head _) (.drop .refl)))) ⟨[],(bA _).symm,rfl,hk,.here⟩ ?_ (λ s h=>h) ?_
 ·(intro i; refine Bw λ w es' nl=>?_; intro rw K hK hi; refine Wn λ xs zz2 hxl hk' hch=>?_; subst zz2)
  have hel:(es++xs).length<=1000:=by rw[aI]; tm_at "a"
  have hno:=hk'.no
  refine' A6 ?_
  refine' A0 O hs ?_
  refine' LH (f:=AO.kd) O .int (.head _) hel ?_
  refine' B1 hs ?_
  refine' O4 ?_
  refine' E5 rfl ?_
  refine' E4 (aB rfl) (λ U=>?_)
  refine' H5 (f:=AO.kd) (g:=AV.int) .int (by tm_at "e") hel ?_
  refine' A1 O hs ?_
  refine' IG (O.le (by tm_at "a")) (λ X D=>?_)
  refine' B1 hs ?_
  refine' hK _ _ _ ?_
  rw[Ib hno,aP]
  exact go (.ref X,es++(xs++[(3+((es++xs).length:Int),.ref U)]),(X,.inst 569 D)::(D,.dict [(aA "number",.int (3+((es++xs).length:Int))),(aA "generation",.int (0+(i:Int)*1))])::(U,.tup [.int (0+(i:Int)*1),w])::nl) ⟨xs++[_],rfl,by rw[aI,hxl]; rfl,by rw[←aP]; exact hk'.snoc,.hop (.head _) (.tail _ (.head _)) (by rw[←aP]; exact LW hno) (.tail _ (.tail _ (.head _))) (by rw[←aP]; exact(hch.ext _).mono λ q hq=> .tail _ (.tail _ (.tail _ hq)))⟩ ⟨rfl,rfl,trivial⟩ (.cons (.tail (.tail (.head _))) (.cons (.tail (.tail (.tail (.head _)))) (.cons (.head _) (.cons (.head _) (.cons (.head _) .refl)))))
 ·(refine Bw λ w es' nl=>?_; refine Wn λ xs zz8 hxl hk' hch=>?_; subst zz8)
  exact A5 (.cons (.tail (.head _)) (.cons (.head _) .refl)) (h _ _ _ _ _ ht1 hn2 (by tm_at "a") hk' hch)
end
end
section
structure Pm(es:List (Str×AV))(w n:Int):Prop where
 e:I9 (aA "EarlyChange") es=none
 b:(I9 (aA "BitsPerComponent") es).getD (.int 8)= .int 8
 c:(I9 (aA "Colors") es).getD (.int 1)= .int 1
 q:(I9 (aA "Columns") es).getD (.int 1)= .int n
 p:(I9 (aA "Predictor") es).getD (.int 1)= .int w
 hn:1<=n
 hw:1<=w
structure Lz(ks os:List Int):Prop where
 hz:ks.length<=100000
 hn:os.length<=240
 hos:∀ x∈os,0<=x/\x < 256
 hlen:9*(os.length+2)<=8*ks.length
 hB:∃ B,Hb B ks/\∀ i,i < os.length+2->Eo B (9*i) (9*i+9)=(I6 os).getD i 0
inductive Un(es:List (Str×AV)):Str->List Int->List Int->Prop
 | plain {nm:Str} {ks os:List Int}:Pl nm ks (.bytes os)->Un es nm ks os
 | lzw {ks os ps:List Int} {w n:Int}:Pm es w n->Lz ks os->Pk w n os ps->Un es (aA "LZWDecode") ks ps
 | flate {os ps:List Int} {w n:Int}:Pm es w n->os.length<=9000->Pk w n os ps->Un es (aA "FlateDecode") (FS os) ps
section
variable{c:Cx}{m:Lm}{led rest:La}{k:AV->La->Prop}
theorem KR{P:aJ}{es:List (Str×AV)}{nm:Str}{ks os:List Int}(hb:c.b)(H:Ok c 11)(hP:(P,AO.sd es)∈led)(hu:Un es nm ks os)(h:∀ r,r=os->k (.bytes r) led):C9 c (.ref 744) [.str nm,.bytes ks,.ref P] m led k:=by
 refine' C4 [("parms",.ref P),("octets",.bytes ks),("name",.str nm)] H ?_
 intro c1 O hs hw hg
 have hb:c1.b:=hw.2▸hb
 cases hu with
 | plain hp=>
  refine' A6 ?_
  refine' A1 O hs ?_
  refine' n9 (O.le (by tm_at "a")) hp ?_
  refine' B1 hs ?_
  refine' B7 ?_
  refine' Aj rfl ?_
  refine' J5 ?_
  exact A5 (by tm_at "d") (h _ rfl)
 | lzw p z u=>
  obtain⟨B,hB,hseg⟩:=z.hB
  refine' A6 ?_
  refine' A1 O hs ?_
  refine' n9 (O.le (by tm_at "a")) (.no _ _ rfl rfl rfl) ?_
  refine' B1 hs ?_
  refine' B7 ?_
  refine' Aj rfl ?_
  refine' G1 ?_
  refine' P4 ?_
  refine' d4 rfl ?_
  refine' A1 O hs ?_
  refine' A1 O hs ?_
  refine' A1 O hs ?_
  refine' IS (O.le (by tm_at "a")) (by tm_at "b") p.e ?_
  (refine' NS (O.le (by tm_at "a")) z.hz hB z.hn z.hos z.hlen hseg ?_; intro r hr; rw[hr]; clear hr r)
  (refine' BN (O.le (by tm_at "a")) (by tm_at "b") p.b p.c p.q p.p p.hn p.hw u ?_; intro r hr; rw[hr]; clear hr r)
  exact A5 (by tm_at "d") (h _ rfl)
 | flate p z u=>
  refine' A6 ?_
  refine' A1 O hs ?_
  refine' n9 (O.le (by tm_at "a")) (.no _ _ rfl rfl rfl) ?_
  refine' B1 hs ?_
  refine' B7 ?_
  refine' Aj rfl ?_
  refine' G1 ?_
  refine' P4 ?_
  refine' M0 rfl ?_
  refine' P4 ?_
  refine' d4 rfl ?_
  refine' A1 O hs ?_
  refine' A1 O hs ?_
  (refine' KQ hb (O.le (by tm_at "a")) z ?_; intro r hr; rw[hr]; clear hr r)
  (refine' BN (O.le (by tm_at "a")) (by tm_at "b") p.b p.c p.q p.p p.hn p.hw u ?_; intro r hr; rw[hr]; clear hr r)
  exact A5 (by tm_at "d") (h _ rfl)
end
end
section
noncomputable def Zp(l1 l2 z:aJ)(zs:L5):Prop:=∃ TI TO i1 i2 oz oT oO o1 o2,zs=[(z,oz),(TO,oO),(i1,o1),(i2,o2),(TI,oT)]/\
 ∀ h:bF,(∀ p∈zs,h.get? p.1=some p.2)->IsZip h z TI TO .none/\IsPair h TI (.ref i1) (.ref i2)/\(∃ a b,IsPair h TO a b)/\h.IsListIter i1 l1 0/\h.IsListIter i2 l2 0
section
variable{c:Cx}{m:Lm}{led rest:La}{k:AV->La->Prop}{d:Nat}
noncomputable def Wf(c:Cx)(h h':bF)(p:aJ×AO):Prop:=h.objs.size<=p.1/\∃ o,L9 c.w p.2 o/\h'.get? p.1=some o
theorem Zb{z:Nat}{o1 o2 o3 o4 o5:Obj}:((E7 [(z+4,o1),(z+3,o2),(z,o3),(z+1,o4),(z+2,o5)]).map (·.1)).Nodup:=by
 simp[E7]
theorem Hz{z TO i1 i2 TI l1 l2:aJ}(nd:[z,TO,i1,i2,TI,l1,l2].Nodup):ZipApart z TI TO i1 i2 l1 l2:=by
 have N:=λ i j {a b}=>AU nd i j (a:=a) (b:=b)
 exact⟨(N 0 4 rfl rfl (by decide)).symm,(N 0 1 rfl rfl (by decide)).symm,(N 0 2 rfl rfl (by decide)).symm,(N 0 3 rfl rfl (by decide)).symm,(N 1 4 rfl rfl (by decide)).symm,(N 2 4 rfl rfl (by decide)).symm,(N 3 4 rfl rfl (by decide)).symm,N 1 2 rfl rfl (by decide),N 1 3 rfl rfl (by decide),N 2 3 rfl rfl (by decide),(N 0 5 rfl rfl (by decide)).symm,(N 1 5 rfl rfl (by decide)).symm,(N 2 5 rfl rfl (by decide)).symm,(N 3 5 rfl rfl (by decide)).symm,(N 0 6 rfl rfl (by decide)).symm,(N 1 6 rfl rfl (by decide)).symm,(N 2 6 rfl rfl (by decide)).symm,(N 3 6 rfl rfl (by decide)).symm⟩
theorem Iu{l1 l2:aJ}{as bs:List AV}(h1:(l1,AO.list as)∈led)(h2:(l2,AO.list bs)∈led)(h:∀ z zs,Zp l1 l2 z zs->k (.ref z) (E7 zs++led)):C9 c (.fn (.type "zip")) [.ref l1,.ref l2] m led k:=
 z8<|WI.rr λ hh tk r=>r.at h1 λ ho g1 V V=>Q4 ho λ us n e1 hu=>r.at h2 λ ho g2 V V=>Q4 ho λ ws n2 e2 hw=>call_zip_2 (GZ (e1▸g1)) (GZ (e2▸g2)) λ h' z1 hI hO x1 x2 hz hk=>R9 x1 λ o1 a1 a2 a3=>R9 x2 λ o2 b1 b2 b3=>
  have N (p) (hp:p∈E7 [(hh.objs.size+4,_),(hh.objs.size+3,_),(hh.objs.size,o1),(hh.objs.size+1,o2),(hh.objs.size+2,_)]):hh.objs.size<=p.1/\∃ o,L9 c.w p.2 o/\h'.get? p.1=some o:=
   S3 (C:=Wf c hh h') hp ⟨dC _ _,_,rfl,z1⟩ λ hp=>S3 (C:=Wf c hh h') hp ⟨dC _ _,_,rfl,hO⟩ λ hp=>S3 (C:=Wf c hh h') hp ⟨aR _,_,rfl,a1⟩ λ hp=>S3 (C:=Wf c hh h') hp ⟨dC _ _,_,rfl,b1⟩ λ hp=>S3 (C:=Wf c hh h') hp ⟨dC _ _,_,rfl,hI⟩ nm
  (r.many _ hk N Zb).R (h _ _ ⟨_,_,_,_,_,_,_,_,_,rfl,λ h hg=>⟨hg _ (.head _),hg _ (.tail _ (.tail _ (.tail _ (.tail _ (.head _))))),⟨_,_,hg _ (.tail _ (.head _))⟩,⟨o1,hg _ (.tail _ (.tail _ (.head _))),a2,a3⟩,⟨o2,hg _ (.tail _ (.tail _ (.tail _ (.head _)))),b2,b3⟩⟩⟩)
theorem Ov{elts:List aE}{kk:Nat}{pos:Pos}{z l1 l2:aJ}{zs:L5}{as bs:List AV}{r1:La}(H:Ok c d)(hz:Zp l1 l2 z zs)(e:bs.length=as.length)(p1:C1 (l1,.list as) led r1)(p2:C1 (l2,.list bs) r1 rest):
  By c (.Tuple elts kk pos) (.ref z) (E7 zs++led) as.length (λ i xs=>∃ x y,xs=[x,y]/\as[i]? =some x/\bs[i]? =some y) rest [(l1,.list as),(l2,.list bs)]:=by
 refine λ v hv m h tk r=>r.at (aC _ p1.mem.1) λ ho g1 V V=>Q4 ho λ us n e1 hu=>r.at (aC _ (p1.mem.2.1 _ p2.mem.1)) λ ho g2 V V=>Q4 ho λ ws n2 e2 hw=>?_
 obtain⟨TI,TO,i1,i2,oz,oT,oO,o1,o2,rfl,hz⟩:=hz
 have I:By c (.Tuple elts kk pos) (.ref z) ((E7 [(z,oz),(TO,oO),(i1,o1),(i2,o2),(TI,oT)]++[(l1,AO.raw (listOf us.toArray n))])++(l2,.raw (listOf ws.toArray n2))::rest) (min us.toArray.size ws.toArray.size) (λ i xs=>∃ x y,xs=[x,y]/\as[i]? =some x/\bs[i]? =some y) rest [(l1,.list as),(l2,.list bs)]:=by
  refine By.ofU (ol:=[(z,oz),(TO,oO),(i1,o1),(i2,o2)]) (kp:=[(TI,oT),(l1,listOf us.toArray n),(l2,listOf ws.toArray n2)]) (cV (l₁:=[_,_,_,_,_,_,_])) (λ nd=>(WalksT.zip2 H.R.hh z TI TO i1 i2 l1 l2 (Hz nd) us.toArray ws.toArray).toU) (λ b hb=>hb) (λ b hb=>?_) ?_ ?_ ?_ ?_
  ·exact S3 (C:=λ b=>b∈[z,TO,i1,i2]∨b∈[TI,l1,l2]) hb (.inl (.head _)) λ hb=>S3 (C:=λ b=>b∈[z,TO,i1,i2]∨b∈[TI,l1,l2]) hb (.inr (.head _)) λ hb=>S3 (C:=λ b=>b∈[z,TO,i1,i2]∨b∈[TI,l1,l2]) hb (.inl (.tail _ (.head _))) λ hb=>S3 (C:=λ b=>b∈[z,TO,i1,i2]∨b∈[TI,l1,l2]) hb (.inl (.tail _ (.tail _ (.head _)))) λ hb=>S3 (C:=λ b=>b∈[z,TO,i1,i2]∨b∈[TI,l1,l2]) hb (.inl (.tail _ (.tail _ (.tail _ (.head _))))) λ hb=> .inr (.tail _ hb)
  ·exact λ i h x b hb=>S3 (C:=λ b=>∃ o,h.get? b=some o) hb ⟨_,x.1⟩ λ hb=>S3 (C:=λ b=>∃ o,h.get? b=some o) hb (VN x.2.2.1 λ V V x=>⟨_,x⟩) λ hb=>S3 (C:=λ b=>∃ o,h.get? b=some o) hb (x.2.2.2.1.elim λ V x=>⟨_,x.1⟩) λ hb=>S3 (C:=λ b=>∃ o,h.get? b=some o) hb (x.2.2.2.2.1.elim λ V x=>⟨_,x.1⟩) nm
  ·exact λ h hg=>
    have hg':=hz h λ p hp=>hg p (aG [(l1,listOf us.toArray n),(l2,listOf ws.toArray n2)] hp)
    ⟨hg'.1,hg'.2.1,hg'.2.2.1,hg'.2.2.2.1,hg'.2.2.2.2,GZ (hg (l1,listOf us.toArray n) (.tail _ (.tail _ (.tail _ (.tail _ (.tail _ (.head _))))))),GZ (hg (l2,listOf ws.toArray n2) (.tail _ (.tail _ (.tail _ (.tail _ (.tail _ (.tail _ (.head _))))))))⟩
  ·exact λ i vals x=>w9 x λ x y hx hy e=>C8 (Er hu (show us[i]? =some x by simpa using hx)) λ a q1 q2=>C8 (Er hw (show ws[i]? =some y by simpa using hy)) λ b q3 q4=>⟨[a,b],⟨a,b,rfl,q1,q3⟩,e▸⟨q2,q4,trivial⟩⟩
  ·intro c' m led h hw' r
   have r1:B6 c' m ((led++[(TI,AO.raw oT)])++(l1,.raw (listOf us.toArray n))::[(l2,AO.raw (listOf ws.toArray n2))]) h:=by rw[aP]; exact r
   have r2:=r1.as (ao':= .list as) λ{o} _ (ho:o=_)=>ho▸⟨us,n,rfl,hu⟩
   rw[List.append_cons (led++[(TI,AO.raw oT)])]at r2
   have r3:=r2.as (ao':= .list bs) λ{o} _ (ho:o=_)=>ho▸⟨ws,n2,rfl,hw⟩
   rw[aP,aP]at r3
   exact r3.sub (.pre (.drop .refl))
 rw[show min us.toArray.size ws.toArray.size=as.length by rw[aX,aX,G4 hu,G4 hw,e,Nat.min_self]]at I
 have r2:=(r.perm (kD _ (p1.perm.trans (p2.perm.cons _)))).rawAt (e1▸g1)
 exact I v hv m h tk (B6.rawAt (X:=E7 [(z,oz),(TO,oO),(i1,o1),(i2,o2),(TI,oT)]++[(l1,AO.raw (listOf us.toArray n))]) (by rw[aP]; exact r2) (e2▸g2))
theorem AM{σ:Type}{k:Fl->Lm->La->Prop}(cs:List Str)(M:σ->Lm)(L:σ->La)(P:Nat->σ->Prop)(Pe:σ->Prop)(s₀:σ){x y:Str}{px py pt:Pos}{x1:Nat}{body:List dY}{z l1 l2:aJ}{zs:L5}{as bs:List AV}{r1:La}(H:Ok c d)(sx:I7 c x)(sy:I7 c y)
  (hz:Zp l1 l2 z zs) (e:bs.length=as.length) (p1:C1 (l1,.list as) led r1) (p2:C1 (l2,.list bs) r1 rest) (hm:Q8 m (M s₀)) (hl:Sb rest (L s₀)) (h0:P 0 s₀)
  (turn:∀ i a b t rw (K:Fl->Lm->La->Prop),(∀ fl m' led',Tn (P (i+1)) Pe M L rw k fl m' led'->K fl m' led')->as[i]? =some a->bs[i]? =some b->P i t->O6 c cs 40 body (G3 y b (G3 x a (M t))) (L t++rw) K) (hdone:∀ s,P as.length s->Pe s) (fin:∀ s,Pe s->k .next (M s) (L s++[(l1,.list as),(l2,.list bs)])):
  l5 c (.Tuple [.Name x px,.Name y py] x1 pt) body (.ref z) m (E7 zs++led) k:=
 Z5 cs M L P Pe s₀ (xs:=[x,y]) (Ov H hz e p1 p2) H (Tg.tup (xs:=[(x,px),(y,py)]) (Yb sx sy)) (λ i as h=>Q4 h λ V V e V=>e▸rfl) hm hl h0 (λ i as s rw K hK hi h hP=>w9 h λ x y e a b=>by subst e; exact turn i x y s rw K hK a b hP) hdone fin
end
end
section
theorem O7.mono{es:List (Int×AV)}{led led':La}(h:∀ q∈led,q∈led'){v:AV}{b:List (Str×AV)}(x:O7 es led v b):O7 es led' v b:=by
 cases x with
 | none a b=>exact .none (a.mono h) b
 | dict a b c d e f=>exact .dict (a.mono h) b (h _ c) (d.mono h) e f
theorem G7.mono{es:List (Int×AV)}{led led':La}(h:∀ q∈led,q∈led'){vs:List AV}{bs:List (List (Str×AV))}(x:G7 es led vs bs):G7 es led' vs bs:=by
 induction x with
 | nil=>exact .nil
 | cons a _ ih=>exact .cons (a.mono h) ih
theorem J8.cons{es:List (Int×AV)}{led:La}{n:Nat}{v:AV}{bs:List (List (Str×AV))}{p:aJ×AO}(x:J8 es led n v bs):J8 es (p::led) n v bs:=by
 have h:∀ q∈led,q∈p::led:=λ V h=> .tail _ h
 cases x with
 | none a b=>exact .none (a.mono h) b
 | one a b c d e f g=>exact .one a (b.mono h) c (h _ d) (e.mono h) f g
 | list a b c d e=>exact .list a (b.mono h) c (.tail d) (e.mono h)
inductive S2:List (List (Str×AV))->List Str->List Int->List Int->Prop
 | nil {os:List Int}:S2 [] [] os os
 | cons {b:List (Str×AV)} {bs:List (List (Str×AV))} {f:Str} {fs:List Str} {ks ms os:List Int}:Un b f ks ms->S2 bs fs ms os->S2 (b::bs) (f::fs) ks os
theorem S2.len{bs:List (List (Str×AV))}{fs:List Str}{ks os:List Int}(x:S2 bs fs ks os):bs.length=fs.length:=by
 induction x with
 | nil=>rfl
 | cons _ _ ih=>exact congrArg (· +1) ih
theorem S2.at{bs:List (List (Str×AV))}{fs:List Str}{ks os:List Int}{i:Nat}{b:List (Str×AV)}{f:Str}(x:S2 (bs.drop i) (fs.drop i) ks os)(hb:bs[i]? =some b)(hf:fs[i]? =some f):∃ ms,Un b f ks ms/\S2 (bs.drop (i+1)) (fs.drop (i+1)) ms os:=by
 refine M7 λ G67 hG67=>?_; obtain⟨h1,e1⟩:=aT.mp hb
 obtain⟨h2,e2⟩:=aT.mp hf; refine hG67 ?_
 rw[dD h1,dD h2,e1,e2]at x
 cases x with
 | cons a b=>exact⟨_,a,b⟩
section
variable{c:Cx}{m:Lm}{led rest:La}{k:AV->La->Prop}
theorem AP{S sd T U Hd X dx:aJ}{es:List (Int×AV)}{hds:List (Str×AV)}{v1 v2:AV}{fs:List Str}{bs:List (List (Str×AV))}{ks os:List Int}(hb:c.b)(H:Ok c 12)(hS:(S,AO.inst 605 sd)∈led)(hsd:(sd,AO.dict [("table",.ref T),("trailer",.ref U)])∈led)(hT:(T,AO.kd es)∈led)
  (hX:(X,AO.inst 541 dx)∈led) (hdx:(dx,AO.dict [("head",.ref Hd),("octets",.bytes ks)])∈led) (hH:(Hd,AO.sd hds)∈led) (hv1:(I9 (aA "Filter") hds).getD .none=v1) (hv2:(I9 (aA "DecodeParms") hds).getD .none=v2) (hfa:F9 es led v1 fs) (hpa:J8 es led fs.length v2 bs)
  (hz:fs.length<=100) (hu:S2 bs fs ks os) (h:∀ r,r=os->k (.bytes r) led):C9 c (.ref 751) [.ref S,.ref X] m led k:=by
 refine' C4 [("stream",.ref X),("shelf",.ref S)] H ?_
 intro c1 O hs hw hg
 have hb:c1.b:=hw.2▸hb
 refine' A6 ?_
 refine' A1 O hs ?_
 refine' A2 O ?_
 refine' X9 (O.le (by tm_at "a")) (by tm_at "b") (by tm_at "b") (by tm_at "b") (by tm_at "b") hv1 hfa hz (λ N=>?_)
 refine' B1 hs ?_
 refine' A6 ?_
 refine' A2 O ?_
 refine' B1 hs ?_
 refine' F5 ?_
 refine' T1 ?_ (hs:=λ V=>rfl)
 refine' A0 O hs ?_
 refine' A1 O hs ?_
 refine' A2 O ?_
 refine' A0 O hs ?_
 refine' N3 (.head _) (by rw[aQ]; tm_at "a") ?_
 (rw[aQ]; refine' BS (O.le (by tm_at "a")) (by tm_at "b") (by tm_at "b") (by tm_at "b") (by tm_at "b") hv2 hpa.cons hz (λ D xs dl hdl=>?_))
 refine' Iu (.tail _ (aC dl (.head _))) (.head _) (λ Z zs hzp=>?_)
 have hat:=hdl.at
 have hlen:=hu.len
 refine' AM [] (λ s:List Int=>[("octets",.bytes s)]) (λ V=>dl++led) (λ i s=>S2 (bs.drop i) (fs.drop i) s os) (λ s=>s=os) ks O (E6 hs rfl rfl) (E6 hs rfl rfl) hzp (by rw[aQ,aQ,hat.1,hlen]) (.tail (C1.head _).app') (.head _) ⟨rfl,trivial⟩ .refl hu ?_ ?_ ?_
 ·rintro i a b s rw K hK ha hb' hP
  rw[cJ]at ha hb'
  obtain⟨f,hf,rfl⟩:=cR.mp ha
  obtain⟨y,hy,rfl⟩:=cR.mp hb'
  refine M7 λ G68 hG68=>?_; obtain⟨b,hbb,hm⟩:=hat.2 hy
  obtain⟨ms,h1,h2⟩:=hP.at hbb hf; refine hG68 ?_
  refine' A6 ?_
  refine' A1 O hs ?_
  (refine' KR hb (O.le (by tm_at "a")) (aG _ (aG _ hm)) h1 ?_; intro r hr; rw[hr]; clear hr r)
  refine' B1 hs ?_
  (refine' hK _ _ _ ?_; exact go _ h2 ⟨rfl,trivial⟩ .refl)
 ·intro s hs
  rw[aQ,iK,←hlen,iK]at hs
  cases hs; rfl
 ·rintro s rfl
  exact A5 (Sb.left.trans .skip) (h _ rfl)
end
end
section
noncomputable def VK:List Str:=[aA "ASCIIHexDecode",aA "ASCII85Decode",aA "RunLengthDecode",aA "FlateDecode",aA "LZWDecode"]
noncomputable def i7(n:Int):Str:=VK.getD n.toNat (aA "")
noncomputable abbrev K4(ns:List Int):List Str:=ns.map i7
theorem Xx{n:Int}(h0:0<=n)(h1:n < 5):n=0∨n=1∨n=2∨n=3∨n=4:=by lia
inductive Wu(P:dB)(a:aJ)(n:Int):Prop
 | mk {dd:Option aJ} {k:Nat} {sl:Array (Option aF)} {t1 t2:Tok} {y:Str}:(KF P).lookup a=some ⟨.type "tuple",dd,.seq (eG [.str (i7 n) t1,.str y t2]) k,sl⟩->(∀ x∈[i7 n,y],(I9 x u7).getD (.str x)= .str (i7 n))->Wu P a n
noncomputable def LN(P:dB)(n:Int):Prop:=∃ dd k sl items a,(KF P).lookup 757=some ⟨.type "tuple",dd,.seq (eG items) k,sl⟩/\items[n.toNat]? =some (.ref a)/\Wu P a n
theorem Dx{P:dB}{n:Int}{dd k sl items a}(e:(KF P).lookup 757=some ⟨.type "tuple",dd,.seq (eG items) k,sl⟩)(g:items[n.toNat]? =some (.ref a))(h:Wu P a n):LN P n:=⟨_,_,_,_,_,e,g,h⟩
theorem Dv{P:dB}{a:aJ}{n:Int}{dd k sl items x y t1 t2}(e:(KF P).lookup a=some ⟨.type "tuple",dd,.seq (eG items) k,sl⟩)(g:items=[.str x t1,.str y t2])(hx:x=i7 n)(h:(∀ x∈[i7 n,y],(I9 x u7).getD (.str x)= .str (i7 n))):Wu P a n:=by subst g hx; exact .mk e h
theorem Jh{P:dB}{n:Int}(h0:0<=n)(h1:n < 5):LN P n:=by
 rcases Xx h0 h1 with rfl | rfl | rfl | rfl | rfl
 ·refine' Dx ?e0 ?g0 (Dv ?f0 ?j0 ?i0 ?h0)
  (case e0=>k_dflt k_is); (case g0=>rfl); (case f0=>k_dflt k_is); (case j0=>rfl); (case i0=>rfl)
  (case h0=>intro x hx; simp only[bE,cZ,or_false]at hx; rcases hx with rfl | rfl<;>rfl)
 ·refine' Dx ?e1 ?g1 (Dv ?f1 ?j1 ?i1 ?h1)
  (case e1=>k_dflt k_is); (case g1=>rfl); (case f1=>k_dflt k_is); (case j1=>rfl); (case i1=>rfl)
  (case h1=>intro x hx; simp only[bE,cZ,or_false]at hx; rcases hx with rfl | rfl<;>rfl)
 ·refine' Dx ?e2 ?g2 (Dv ?f2 ?j2 ?i2 ?h2)
  (case e2=>k_dflt k_is); (case g2=>rfl); (case f2=>k_dflt k_is); (case j2=>rfl); (case i2=>rfl)
  (case h2=>intro x hx; simp only[bE,cZ,or_false]at hx; rcases hx with rfl | rfl<;>rfl)
 ·refine' Dx ?e3 ?g3 (Dv ?f3 ?j3 ?i3 ?h3)
  (case e3=>k_dflt k_is); (case g3=>rfl); (case f3=>k_dflt k_is); (case j3=>rfl); (case i3=>rfl)
  (case h3=>intro x hx; simp only[bE,cZ,or_false]at hx; rcases hx with rfl | rfl<;>rfl)
 ·refine' Dx ?e4 ?g4 (Dv ?f4 ?j4 ?i4 ?h4)
  (case e4=>k_dflt k_is); (case g4=>rfl); (case f4=>k_dflt k_is); (case j4=>rfl); (case i4=>rfl)
  (case h4=>intro x hx; simp only[bE,cZ,or_false]at hx; rcases hx with rfl | rfl<;>rfl)
theorem Qp{a b:Str}{t1 t2:Tok}{r:Int}(h0:0<=r)(h1:r < 2):∃ x t,[gR a t1,gR b t2][r.toNat]? =some (gR x t)/\x∈[a,b]:=by
 have:r=0∨r=1:=by lia
 rcases this with rfl | rfl
 ·exact⟨_,_,rfl,.head _⟩
 ·exact⟨_,_,rfl,.tail _ (.head _)⟩
section
variable{led led':La}{es:List (Int×AV)}(xs:List (Int×AV))(h:∀ q∈led,q∈led')
include h
theorem H2.up{i:Nat}{v u:AV}(x:H2 es led i v u):H2 (es++xs) led' i v u:=(x.mono h).ext xs
theorem O5.up{v:AV}{f:Str}(x:O5 es led v f):O5 (es++xs) led' v f:=by
 obtain⟨a,b,e,d,g⟩:=x
 exact .mk (a.up xs h) b (h _ e) (h _ d) g
theorem E9.up{vs:List AV}{fs:List Str}(x:E9 es led vs fs):E9 (es++xs) led' vs fs:=by
 induction x with
 | nil=>exact .nil
 | cons h' _ ih=>exact .cons (h'.up xs h) ih
theorem F9.up{v:AV}{fs:List Str}(x:F9 es led v fs):F9 (es++xs) led' v fs:=by
 induction x with
 | none a b=>exact .none (a.up xs h) b
 | one a=>exact .one (a.up xs h)
 | list a b hp hn=>
  obtain⟨r,hr⟩:=C1.ex (h _ hp.mem.1)
  exact .list (a.up xs h) b hr (hn.up xs h)
theorem J0.up{a b:List (Str×AV)}(x:J0 es led a b):J0 (es++xs) led' a b:=by
 induction x with
 | nil=>exact .nil
 | cons h' hi _ ih=>exact .cons (h'.up xs h) hi ih
theorem O7.up{v:AV}{b:List (Str×AV)}(x:O7 es led v b):O7 (es++xs) led' v b:=by
 induction x with
 | none a b=>exact .none (a.up xs h) b
 | dict a b c d e f=>exact .dict (a.up xs h) b (h _ c) (d.up xs h) e f
theorem G7.up{vs:List AV}{bs:List (List (Str×AV))}(x:G7 es led vs bs):G7 (es++xs) led' vs bs:=by
 induction x with
 | nil=>exact .nil
 | cons a _ ih=>exact .cons (a.up xs h) ih
end
section
variable{led:La}{es:List (Int×AV)}
theorem E9.snoc{v:AV}{f:Str}(y:O5 es led v f){vs:List AV}{fs:List Str}(x:E9 es led vs fs):E9 es led (vs++[v]) (fs++[f]):=by
 induction x with
 | nil=>exact .cons y .nil
 | cons h _ ih=>exact .cons h ih
theorem G7.snoc{v:AV}{b:List (Str×AV)}(y:O7 es led v b){vs:List AV}{bs:List (List (Str×AV))}(x:G7 es led vs bs):G7 es led (vs++[v]) (bs++[b]):=by
 induction x with
 | nil=>exact .cons y .nil
 | cons h _ ih=>exact .cons h ih
theorem J0.snoc{x:Str}{v:AV}{w:Int}{i:Nat}(y:H2 es led i v (.int w))(hi:i<=9){a b:List (Str×AV)}(h:J0 es led a b):J0 es led (a++[(x,v)]) (b++[(x,.int w)]):=by
 induction h with
 | nil=>exact .cons y hi .nil
 | cons h hi _ ih=>exact .cons h hi ih
theorem G7.reass{a b d:List (Int×AV)}{vs:List AV}{bs:List (List (Str×AV))}(x:G7 (a++(b++d)) led vs bs):G7 ((a++b)++d) led vs bs:=by rw[aP]; exact x
theorem E9.one{vs:List AV}{fs:List Str}(x:E9 es led vs fs)(h:vs.length=1):∃ v f,vs=[v]/\fs=[f]/\O5 es led v f:=by
 induction x with
 | nil=>contradiction
 | cons h1 h2=>induction h2 with
  | nil=>exact⟨_,_,rfl,rfl,h1⟩
  | cons _ _=>rcases h
theorem G7.one{vs:List AV}{bs:List (List (Str×AV))}(x:G7 es led vs bs)(h:vs.length=1):∃ v b,vs=[v]/\bs=[b]/\O7 es led v b:=by
 induction x with
 | nil=>contradiction
 | cons h1 h2=>induction h2 with
  | nil=>exact⟨_,_,rfl,rfl,h1⟩
  | cons _ _=>rcases h
theorem O7.parm{v:AV}{b:List (Str×AV)}(x:O7 es led v b):J8 es led 1 v [b]:=by
 induction x with
 | none h hi=>exact .none h hi
 | dict h hi hm hv hn hz=>exact .one rfl h hi hm hv hn hz
theorem J8.skip{bs:List (List (Str×AV))}(h:∀ b∈bs,b=[]):J8 es led bs.length .none bs:=by
 have:=J8.none (es:=es) (led:=led) (n:=bs.length) .here (bG _)
 rwa [←List.eq_replicate_iff.mpr ⟨rfl,h⟩]at this
end
theorem F9.up'{led led':La}{es:List (Int×AV)}(h:∀ q∈led,q∈led'){v:AV}{fs:List Str}(x:F9 es led v fs):F9 es led' v fs:=by
 have:=x.up [] h
 rw[bA]at this; exact this
theorem E1{x y:Str}{v:AV}:∀ {es:List (Str×AV)},I9 y (J3 x v es)=if y=x then some v else I9 y es
 | []=>rfl
 | p::r=>by
  unfold J3
  by_cases h:x=p.1
  ·rw[if_pos h]
   unfold I9
   by_cases hy:y=x
   ·rw[if_pos hy,if_pos hy]
   ·rw[if_neg hy,if_neg hy,if_neg (λ e=>hy (e.trans h.symm))]
  ·rw[if_neg h]
   unfold I9
   by_cases hp:y=p.1
   ·rw[if_pos hp,if_neg (λ e=>h (e.symm.trans hp)),if_pos hp]
   ·rw[if_neg hp,if_neg hp]
    exact E1
theorem Y6{x:Str}{v:AV}:∀ {es:List (Str×AV)},(J3 x v es).length<=es.length+1
 | []=>aR _
 | p::r=>by
  show(if x=p.1 then(x,v)::r else p::J3 x v r).length<=_
  split
  ·exact fE _
  ·exact bL Y6
theorem JZ{bs:List (List (Str×AV))}{i:Nat}{b:List (Str×AV)}(h:∀ x∈bs.take i,x=[])(hb:bs[i]? =some b)(e:b=[]):∀ x∈bs.take (i+1),x=[]:=by
 intro x hx
 rw[aV,hb]at hx
 rcases cM.mp hx with hx | hx
 ·exact h x hx
 ·rw[aL.mp hx]; exact e
end
section
section
variable{c:Cx}{m:Lm}{led rest:La}{k:AV->La->Prop}{d:Nat}
theorem o6{t:aJ}{dd:Option aJ}{items:List aF}{n:Nat}{sl:Array (Option aF)}{i:Int}{a:AV}{v:aF}{value slice:aE}(H:Ok c d)(e:(KF c.w.params).lookup t=some ⟨.type "tuple",dd,.seq items.toArray n,sl⟩)(h0:0<=i)(h1:i < 100000)(hv:items[i.toNat]? =some v)(ha:Rl a v)(h:k a led)
  (hs:∀ o i,subscripted slice false o i=operate [o,i] (getItem o i):=by intro _ _; rfl):Op c (λ vs=>subscriptTail value slice (vs.getD 0 .none) (vs.getD 1 .none)) [.ref t,.int i] m led k:=λ vs hvs hh tk r=>A4<|by
 obtain⟨_,_,rfl,rfl,⟨u,rfl⟩⟩:=U3 hvs
 obtain⟨mm,F,_⟩:=r.fr
 have g:IsTup hh t items.toArray:=⟨_,F.keep _ _ (H.X _ _ e),rfl,_,rfl⟩
 have hlt:i.toNat < items.length:=(aT.mp hv).1
 exact P6 λ value hv'=>fZ g.typeIs slot_tuple_getitem.lookup (getItem_tuple g (by lia) (by lia) (seqIndex_of h0 (by rw[aX]; lia)) (by simpa using hv) (E2.ofV r ha h)) (hs _ _) hv'
end
end
section
open SeqAt (EqAt)
noncomputable def Wi:AV->Bool
 | .int _ | .str _ | .bytes _=>true
 | _=>false
theorem CM{b c:Array UInt8}(h:cN b=cN c):b.toList=c.toList:=by
 unfold cN at h
 exact List.map_inj_right (λ x y e=>UInt8.toNat_inj.mp (by exact_mod_cast e)) |>.mp h
theorem OF{A:bS}{s:aH}{a:AV}{v u:aF}(p:Wi a=true)(h:Rl a v)(g:Rl a u):EqAt A s v u true:=by
 induction a with
 | int i=>
  obtain⟨t,rfl⟩:=h; obtain⟨t',rfl⟩:=g
  have:=SeqAt.EqAt.int_int (A:=A) (s:=s) i t i t'
  rw[beq_self_eq_true]at this; exact this
 | str x=>
  obtain⟨t,rfl⟩:=h; obtain⟨t',rfl⟩:=g
  have:=SeqAt.EqAt.str_str (A:=A) (s:=s) x t x t'
  rw[beq_self_eq_true]at this; exact this
 | bytes ns=>
  obtain⟨b,t,rfl,hb⟩:=h; obtain⟨b',t',rfl,hb'⟩:=g
  have e:=CM (hb.trans hb'.symm)
  exact λ prog w E Q hq=>eqBool_bytes (by rw[e,decide_eq_true rfl]; exact hq)
 | none=>contradiction
 | bool b=>contradiction
 | ref a=>contradiction
 | fn v=>contradiction
theorem FT{A:bS}{s:aH}:∀ {as:List AV} {vs us:List aF},as.all Wi=true->Q1 as vs->Q1 as us->∀ j (h1:j < vs.toArray.size) (h2:j < us.toArray.size),EqAt A s vs.toArray[j] us.toArray[j] true:=by
 intro as vs us hf h g j h1 h2
 have l1:=G4 h
 have hj:j < as.length:=by rw[aX,l1]at h1; exact h1
 refine M7 λ G108 hG108=>?_; obtain⟨v,q1,q2⟩:=d7 h (aM hj)
 obtain⟨u,q3,q4⟩:=d7 g (aM hj); refine hG108 ?_
 have e1:vs.toArray[j]=v:=by rw[List.getElem_toArray]; exact(aT.mp q1).2
 have e2:us.toArray[j]=u:=by rw[List.getElem_toArray]; exact(aT.mp q3).2
 rw[e1,e2]
 exact OF (dU.mp hf _ (List.getElem_mem hj)) q2 q4
section
variable{c:Cx}{m:Lm}{led rest:La}{k:AV->La->Prop}{d:Nat}
theorem U6.u0{A:bS}{d:Nat}(R:U6 A d):A.units < cLine:=by have:=R.un; show A.units < 9900; lia
theorem v5{a b:aJ}{as:List AV}(H:Ok c d)(ha:(a,AO.list as)∈led)(hb:(b,AO.list as)∈led)(hf:as.all Wi=true)(h:k (.bool false) led):Op c (λ vs=>compareOp .NotEq (vs.getD 0 .none) (vs.getD 1 .none)) [.ref a,.ref b] m led k:=λ vs hv hh tk r=>A4<|by
 obtain⟨_,_,rfl,rfl,rfl⟩:=U3 hv
 obtain⟨o,⟨vs,n,rfl,hu⟩,g⟩:=r.get ha
 obtain⟨o,⟨us,n2,rfl,hw⟩,g2⟩:=r.get hb
 refine SeqAt.RcNeAt.lists (e:=λ V=>true) (GZ g) (GZ g2) (by rw[aX,aX,G4 hu,G4 hw]) H.R.u0 (FT hf hu hw) _ _ _ _ ?_
 rw[show(cX vs.toArray.size).all (λ V=>true)=true from by simp]
 exact E2.ofV (a:= .bool _) r rfl h
theorem Dj{a b:aJ}{as:List AV}(H:Ok c d)(ha:(a,AO.list as)∈led)(hb:(b,AO.list [])∈led)(h:k (.bool (!as.isEmpty)) led):Op c (λ vs=>compareOp .NotEq (vs.getD 0 .none) (vs.getD 1 .none)) [.ref a,.ref b] m led k:=λ vs hv hh tk r=>A4<|by
 obtain⟨_,_,rfl,rfl,rfl⟩:=U3 hv
 obtain⟨o,⟨vs,n,rfl,hu⟩,g⟩:=r.get ha
 obtain⟨o,⟨us,n2,rfl,hw⟩,g2⟩:=r.get hb
 induction us with
 | cons _ _=>exact hw.elim
 | nil=>
  induction vs with
  | nil=>
   induction as with
   | cons _ _=>exact hu.elim
   | nil=>
    refine SeqAt.RcNeAt.lists (e:=λ V=>true) (GZ g) (GZ g2) rfl H.R.u0 (λ j h1=>absurd h1 (Nat.not_lt_zero _)) _ _ _ _ ?_
    exact E2.ofV (a:= .bool _) r rfl h
  | cons v vs=>
   induction as with
   | nil=>exact hu.elim
   | cons a as=>
    refine SeqAt.RcNeAt.lists_lengths (GZ g) (GZ g2) rfl H.R.u0 _ _ _ _ ?_
    exact E2.ofV (a:= .bool _) r rfl h
theorem NV{a b:aJ}{as:List AV}(H:Ok c d)(ha:(a,AO.tup as)∈led)(hb:(b,AO.tup as)∈led)(hf:as.all Wi=true)(h:k (.bool true) led):Op c (λ vs=>compareOp .Eq (vs.getD 0 .none) (vs.getD 1 .none)) [.ref a,.ref b] m led k:=λ vs hv hh tk r=>A4<|by
 obtain⟨_,_,rfl,rfl,rfl⟩:=U3 hv
 refine M7 λ G109 hG109=>?_; obtain⟨vs,g,hu⟩:=r.isTup ha
 obtain⟨us,g2,hw⟩:=r.isTup hb; refine hG109 ?_
 refine SeqAt.RcAt.tuples (e:=λ V=>true) (show Heap.IsTuple (c.at hh tk).heap a vs.toArray from g) (show Heap.IsTuple (c.at hh tk).heap b us.toArray from g2) H.R.u0 (FT hf hu hw) _ _ _ _ ?_
 rw[show((cX (min vs.toArray.size us.toArray.size)).all (λ V=>true) && vs.toArray.size== us.toArray.size)=true from by simp[G4 hu,G4 hw]]
 exact E2.ofV (a:= .bool _) r rfl h
theorem CL(b:Array UInt8)(u:Tok)(l:aJ)(c:aF)(items:Array aF)(n:Nat)(dd:Option aJ)(sl:Array (Option aF))(hc:c= .type "tuple"):
  Meets (Builtin.«bytes.__eq__» ⟨[.bytes b u,.ref l],[]⟩) (λ V R s=>s.heap.get? l=some {cls:=c,dict:=dd,data:= .seq items n,slots:=sl}/\R (.ok (.ret .notImplemented)) s):=
 .of_wp λ prog w A R s ⟨hl,h⟩=>by
  show wpAny _ A.in1 (isInstance (.ref l) (.type "bytes") >>=λ r=>_) _ _ s
  refine aD (eB (T:="tuple") ⟨_,hl,hc⟩ F.sub_tuple_bytes ?_)
  rw[if_pos (show(!false)=true from rfl)]
  refine aD (fL (aO ?_))
  exact⟨_,rfl,h⟩
theorem Co(l:aJ)(items:Array aF)(n:Nat)(dd:Option aJ)(sl:Array (Option aF))(b:Array UInt8)(u:Tok):
  Meets (Builtin.«tuple.__eq__» ⟨[.ref l,.bytes b u],[]⟩) (λ V R s=>s.heap.get? l=some {cls:= .type "tuple",dict:=dd,data:= .seq items n,slots:=sl}/\R (.ok (.ret .notImplemented)) s):=
 .of_wp λ prog w A R s h=>by obtain⟨hp,g,d,tk,os⟩:=s; obtain⟨hl,h⟩:=h; have f1:=F.sub_bytes_tuple; wp_walk using wpAny_loadPart' hl; exact⟨_,rfl,h⟩
theorem LA{b:aJ}{as:List AV}{ns:List Int}(H:Ok c d)(hb:(b,AO.tup as)∈led)(h:k (.bool false) led):Op c (λ vs=>compareOp .Eq (vs.getD 0 .none) (vs.getD 1 .none)) [.bytes ns,.ref b] m led k:=λ vs hv hh tk r=>A4<|by
 obtain⟨_,_,rfl,⟨bs,u,rfl,_⟩,rfl⟩:=U3 hv
 refine M7 λ G110 hG110=>?_; obtain⟨us,⟨⟨cls,dd,data,sl⟩,ho,hc,n,hd⟩,hw⟩:=r.isTup hb; refine hG110 ?_
 simp only at hc hd
 subst hc hd
 exact SeqAt.rc_eq_decline_or (k:=false) (typeIs_bytes _ bs u) ⟨_,ho,rfl⟩ (by decide) F.sub_tuple_bytes FB.slot_bytes_eq F.slot_tuple_eq_refl
  (λ V hq=>call_meets FB.slot_bytes_eq (typeIs_bytes _ bs u) FB.entry_bytes_eq (FB.args_bytes_eq_2 _ _) (CL bs u _ _ _ n dd sl rfl) ⟨ho,hq⟩)
  (λ V hq=>call_meets F.slot_tuple_eq_refl ⟨_,ho,rfl⟩ F.entry_tuple_eq (F.args_tuple_eq_2 _ _) (Co _ _ n dd sl bs u) ⟨ho,hq⟩)
  (λ V hq=>bH (rfl:isSame (.bytes bs u) (.ref b)=pure false) hq) (.inr H.R.u0) (E2.ofV (a:= .bool _) r rfl h)
theorem Ly{ns:List Int}(h:k (.bool true) led):Op c (λ vs=>compareOp .Eq (vs.getD 0 .none) (vs.getD 1 .none)) [.bytes ns,.bytes ns] m led k:=λ vs hv hh tk r=>A4<|by
 obtain⟨_,_,rfl,⟨b,t,rfl,hb⟩,⟨b',t',rfl,hb'⟩⟩:=U3 hv
 refine eq_bytes ?_
 rw[CM (hb.trans hb'.symm),beq_self_eq_true]
 exact E2.ofV (a:= .bool _) r rfl h
theorem Lh{ns:List Int}(h:k (.bool false) led):Op c (λ vs=>compareOp .NotEq (vs.getD 0 .none) (vs.getD 1 .none)) [.bytes ns,.bytes ns] m led k:=λ vs hv hh tk r=>A4<|by
 obtain⟨_,_,rfl,⟨b,t,rfl,hb⟩,⟨b',t',rfl,hb'⟩⟩:=U3 hv
 refine ne_bytes ?_
 rw[CM (hb.trans hb'.symm),bne_self_eq_false]
 exact E2.ofV (a:= .bool _) r rfl h
section
variable{κ:Type} [DecidableEq κ]{knd:KeyKind PG c.w κ}{f:List (κ×AV)->AO}{g:κ->AV}{a b:aJ}{es:List (κ×AV)}
theorem JC{kvs:List (κ×aF)}(hr:X4 es kvs):(kvs.length== ([]:List (κ×aF)).length && es.isEmpty)=es.isEmpty:=by
 have:=S9 hr
 induction es with
 | nil=>rw[this]; rfl
 | cons _ _=>exact hV _
theorem MX{A:bS}{s:aH}{kvs:List (κ×aF)}(hr:X4 es kvs)(e:kvs.length=([]:List (κ×aF)).length):KeqHits A s ([]:List (κ×aF)) kvs es.isEmpty:=by
 have:=S9 hr
 induction kvs with
 | cons _ _=>contradiction
 | nil=>induction es with
  | nil=>exact .nil
  | cons _ _=>contradiction
theorem Lx(H:Ok c d)(D:K0 c knd f g)(ha:(a,f es)∈led)(hb:(b,f [])∈led)(h:k (.bool es.isEmpty) led):Op c (λ vs=>compareOp .Eq (vs.getD 0 .none) (vs.getD 1 .none)) [.ref a,.ref b] m led k:=λ vs hv hh tk r=>A4<|by
 obtain⟨_,_,rfl,rfl,rfl⟩:=U3 hv
 refine M7 λ G111 hG111=>?_; obtain⟨o,ho,g1⟩:=r.get ha
 obtain⟨kvs,hd,hr⟩:=D.obj.mp ho
 obtain⟨o2,ho2,g2⟩:=r.get hb
 obtain⟨kvs2,hd2,hr2⟩:=D.obj.mp ho2; refine hG111 ?_
 obtain rfl:kvs2=[]:=by induction kvs2 with
  | nil=>rfl
  | cons _ _=>exact hr2.elim
 exact keq_eq (r.lo H ha) (r.lo H hb) (cC.mpr ⟨o,g1,hd⟩) (cC.mpr ⟨o2,g2,hd2⟩) H.R.u0 (MX hr) (by rw[JC hr]; exact E2.ofV (a:= .bool _) r rfl h)
theorem Lg(H:Ok c d)(D:K0 c knd f g)(ha:(a,f es)∈led)(hb:(b,f [])∈led)(h:k (.bool (!es.isEmpty)) led):Op c (λ vs=>compareOp .NotEq (vs.getD 0 .none) (vs.getD 1 .none)) [.ref a,.ref b] m led k:=λ vs hv hh tk r=>A4<|by
 obtain⟨_,_,rfl,rfl,rfl⟩:=U3 hv
 refine M7 λ G112 hG112=>?_; obtain⟨o,ho,g1⟩:=r.get ha
 obtain⟨kvs,hd,hr⟩:=D.obj.mp ho
 obtain⟨o2,ho2,g2⟩:=r.get hb
 obtain⟨kvs2,hd2,hr2⟩:=D.obj.mp ho2; refine hG112 ?_
 obtain rfl:kvs2=[]:=by induction kvs2 with
  | nil=>rfl
  | cons _ _=>exact hr2.elim
 exact keq_ne (r.lo H ha) (r.lo H hb) (cC.mpr ⟨o,g1,hd⟩) (cC.mpr ⟨o2,g2,hd2⟩) H.R.u0 (MX hr) (by rw[JC hr]; exact E2.ofV (a:= .bool _) r rfl h)
end
end
end
section
noncomputable def gt:List La->Nat->La
 | [],_=>[]
 | a::_,0=>a
 | _::r,n+1=>gt r n
inductive Tr
 | s (l:List Nat)
 | e (l:List Nat) (i:Nat)
 | a (l:List Nat) (t u:Tr)
noncomputable def dl(A:List La)(x:La):List Nat->La
 | []=>x
 | i::l=>gt A i++dl A x l
noncomputable def OK(A:List La):Tr->La
 | .s l=>dl A [] l
 | .e l i=>dl A (gt A i) l
 | .a l t u=>dl A (OK A t++OK A u) l
noncomputable def ix:Tr->List Nat
 | .s l=>l
 | .e l i=>l++[i]
 | .a l t u=>l++(ix t++ix u)
noncomputable def fl(A:List La)(l:List Nat):La:=l.flatMap (gt A)
noncomputable def rm(x:Nat):List Nat->Option (List Nat)
 | []=>none
 | y::r=>bif Nat.beq x y then some r else(rm x r).map (y:: ·)
noncomputable def Gn:List Nat->List Nat->Bool
 | _,[]=>true
 | l,x::r=>(rm x l).elim false λ l'=>Gn l' r
theorem JB{A:List La}{x:La}{l r:List Nat}(h:x=fl A r):dl A x l=fl A (l++r):=by
 induction l with
 | nil=>exact h
 | cons i l ih=>exact congrArg (gt A i++ ·) ih
theorem OG{A:List La}{i:Nat}:gt A i=fl A [i]:=(bA _).symm
theorem CI{A:List La}{t:Tr}:OK A t=fl A (ix t):=by
 induction t with
 | s l=>exact(JB (r:=[]) rfl).trans (congrArg (fl A) (bA _))
 | e l i=>exact JB OG
 | a l t u h1 h2=>exact JB ((congr (congrArg (· ++ ·) h1) h2).trans (fG ..).symm)
theorem KH{x:Nat}{l l':List Nat}(h:rm x l=some l'):l.Perm (x::l'):=by
 induction l generalizing l' with
 | nil=>exact nn h
 | cons y r ih=>
  have h:cond (Nat.beq x y) (some r) ((rm x r).map (y:: ·))=some l':=h
  generalize e:Nat.beq x y=b at h
  induction b with
  | true=>exact(Nat.eq_of_beq_eq_true e)▸aU h▸ .refl _
  | false=>exact C8 (cR.mp h) λ z hz e=>e▸((ih hz).cons y).trans (.swap _ _ _)
theorem HO{A:List La}{l r:List Nat}(h:Gn l r=true):Sb (fl A l) (fl A r):=by
 induction r generalizing l with
 | nil=>exact .nil
 | cons x r ih=>
  have h:(rm x l).elim false (λ l'=>Gn l' r)=true:=h
  generalize e:rm x l=z at h
  induction z with
  | none=>exact ff h
  | some l'=>exact(Sb.of ((KH e).flatMap_right _)).trans (Sb.pre (ih h))
theorem i6(A:List La)(t u:Tr)(h:Gn (ix t) (ix u)=true):Sb (OK A t) (OK A u):=by rw[CI,CI]; exact HO h
end
section
section
variable{c:Cx}{cs:List Str}{n:Nat}{rest:List dY}{m:Lm}{led:La}{k:Fl->Lm->La->Prop}
noncomputable def Zo(c:Cx)(cs:List Str)(n:Nat)(m:Lm)(K:Fl->Lm->La->Prop)(a b:List dY):Bool->La->Prop:=λ x led=>Br x (O6 c cs n a m led K) (O6 c cs n b m led K)
theorem HS{t:aE}{a b:List dY}{p:Pos}(Q:Lm->La->Prop)(h1:∀ K:Fl->Lm->La->Prop,(∀ m' led',Q m' led'->K .next m' led')->Hs c m 30 t led (Zo c cs n m K a b))(h2:∀ m' led',Q m' led'->O6 c cs n rest m' led' k):O6 c cs (n+1) (.If t a b p::rest) m led k:=B7 (h1 (V5 c cs n rest k) h2)
end
theorem Sb.pick{l r:La}{p:aJ×AO}(h:Sb l (p::r)):∃ r2,C1 p l r2/\Sb r2 r:=by
 refine M7 λ G116 hG116=>?_; obtain⟨x,hx⟩:=h
 obtain⟨r2,hp⟩:=C1.ex (hx.mem_iff.mpr (.head _)); refine hG116 ?_
 exact⟨r2,hp,x,(hp.perm.symm.trans hx).cons_inv⟩
theorem Sb.two{l r:La}{p q:aJ×AO}:Sb l (p::r)->Sb (q::l) (p::q::r):=λ⟨z,hz⟩=>⟨z,(hz.cons q).trans (.swap _ _ _)⟩
theorem AB{v:aE}{t:Option aE}{l:Nat}{env:Env}{S:cB}(h:env.scope=S):swapsWith v t l env=swapsWith v t l (envOf "" S 0 0 .none):=by
 unfold swapsWith Env.blockKind kJ
 rw[h]; rfl
theorem C9.sub{c:Cx}{m:Lm}{led l2:La}{k:AV->La->Prop}{f:AV}{as:List AV}(p:Sb led l2)(h:C9 c f as m l2 k):C9 c f as m led k:=
 ⟨λ u hu hh r=>h.1 u hu hh (r.sub p),λ u hu vs hv hh tk r=>h.2 u hu vs hv hh tk (r.sub p)⟩
end
local macro_rules | `(tactic| tm_at "f")=>`(tactic| first | exact List.Mem.head _ | with_reducible assumption | (refine' aG _ ?_; tm_at "f") | (refine' aC _ ?_; tm_at "f") | (refine' eA _ ?_; tm_at "f"))
local macro_rules | `(tactic| tm_at "g")=>`(tactic| first | exact C1.head _ | (apply C1.app; tm_at "g") | (apply C1.app'; tm_at "g") | (apply C1.tail; tm_at "g"))
section
structure XQ(b:List (Str×AV)):Prop where
 nd:(b.map (·.1)).Nodup
 len:b.length<=2
 int:∀ p∈b,∃ w,p.2= .int w
theorem Zs{x y:La}(h:x.Perm y)(A:List La)(r:List Nat):(fl (x::A) r).Perm (fl (y::A) r):=by
 induction r with
 | nil=>exact .refl _
 | cons i r ih=>
  refine List.Perm.append ?_ ih
  induction i with
  | zero=>exact h
  | succ n=>exact .refl _
theorem WK{x y:La}(h:x.Perm y)(A:List La)(t u:Tr)(e:Gn (ix t) (ix u)=true):Sb (OK (x::A) t) (OK (y::A) u):=by
 rw[CI,CI]; exact(HO e).trans (.of (Zs h A _))
noncomputable def HQ(P T R K X W1 W2 W3 C:aJ)(q:Int)(t0:Nat×Int)(ns:List Int)(ras:List aJ)(rest led':La):Prop:=∃ (t:Nat×Int) (es:List (Int×AV)) (nl:La) (hs:List (Str×AV)),Sb led' ((R,.list (ras.map .ref))::(W1,.cell none)::(X,.sd hs)::(P,J4 C q t)::(T,.kd es)::(W2,.cell (some (.ref T)))::(W3,.cell (some (.ref P)))::(nl++(rest++[(K,.ints ns)])))/\F9 es nl ((I9 (aA "Filter") hs).getD .none) (K4 ns)/\I9 (aA "Length") hs=some (.int 5)/\I9 (aA "DecodeParms") hs=none/\hs.length<=2/\t.1<=t0.1+10/\es.length<=10/\a5 es
theorem HQ.mk{P T R K X W1 W2 W3 C:aJ}{q:Int}{t0:Nat×Int}{ns:List Int}{ras:List aJ}{rest led':La}(t:Nat×Int)(es:List (Int×AV))(nl:La)(hs:List (Str×AV))(h1:Sb led' ((R,.list (ras.map .ref))::(W1,.cell none)::(X,.sd hs)::(P,J4 C q t)::(T,.kd es)::(W2,.cell (some (.ref T)))::(W3,.cell (some (.ref P)))::(nl++(rest++[(K,.ints ns)]))))(h2:F9 es nl ((I9 (aA "Filter") hs).getD .none) (K4 ns))(h3:I9 (aA "Length") hs=some (.int 5))(h4:I9 (aA "DecodeParms") hs=none)(h5:hs.length<=2)(h6:t.1<=t0.1+10)(h7:es.length<=10)(h8:a5 es):HQ P T R K X W1 W2 W3 C q t0 ns ras rest led':=⟨t,es,nl,hs,h1,h2,h3,h4,h5,h6,h7,h8⟩
section
variable{c:Cx}{m:Lm}{led rest:La}{k:AV->La->Prop}
theorem Ls{P T K R C:aJ}{q:Int}{t0:Nat×Int}{cs ns:List Int}{ras:List aJ}{bs:List (List (Str×AV))}(H:Ok c 5)(hC:(C,AO.ints cs)∈rest)(hz:cs.length<=63)(hq:0<=q/\q < 1009)(ht:t0.1 < 80000000)(hns:ns.length<=3)(hn5:∀ n∈ns,0<=n/\n < 5)(hbl:bs.length=ns.length)(hra:ras.length=bs.length/\∀ {i:Nat} {a:aJ},ras[i]? =some a->∃ b,bs[i]? =some b/\(a,AO.sd b)∈rest)(hbs:∀ b∈bs,XQ b)
  (h:∀ X hs t es nl,F9 es nl ((I9 (aA "Filter") hs).getD .none) (K4 ns)->J8 es nl ns.length ((I9 (aA "DecodeParms") hs).getD .none) bs->I9 (aA "Length") hs=some (.int 5)->hs.length<=3->t.1<=t0.1+30->k (.ref X) ((X,.sd hs)::(P,J4 C q t)::(T,.kd es)::(nl++(K,.ints ns)::(R,.list (ras.map .ref))::rest))):C9 c (.ref 824) [.ref P,.ref T,.ref K,.ref R] m ((P,J4 C q t0)::(T,.kd [])::(K,.ints ns)::(R,.list (ras.map .ref))::rest) k:=by
 refine' Q3 [("rows",.ref R),("numbers",.ref K),("table",.ref T),("pen",.ref P)] [("rows",.ref R),("numbers",.ref K)] [("row",none),("table",some (.ref T)),("pen",some (.ref P))] H ?_
 intro c1 O hs hw hg W1 W2 W3 hc
 refine' Kx rfl ?_
 refine' AQ ?_ ((H4 hc).trans rfl) rfl (by kernel_rfl) ((AB hs).trans (by kernel_rfl))
 refine' Bk (xs:=[aA "number"]) (E6 hs rfl rfl) (An O (.tail (.tail (.tail (.tail (.tail (.head _))))))).x (λ s:(Nat×Int)×List (Int×AV)×La=>(P,J4 C q s.1)::(T,.kd s.2.1)::(W1,.cell none)::(W2,.cell (some (.ref T)))::(W3,.cell (some (.ref P)))::(s.2.2++(R,.list (ras.map .ref))::rest)) (λ i s ys=>E9 s.2.1 s.2.2 ys (K4 (ns.take i))/\s.1.1<=t0.1+2*i/\s.2.1.length<=2*i/\a5 s.2.1) (t0,[],[]) O hs (by tm_at "d") ⟨.nil,aR _,aR _,.nil⟩ rfl (by kernel_rfl) (λ c2 h=> .name (h _ (.head _))) (λ i as ⟨_,e,_⟩=>by rw[e]; rfl) (by kernel_rfl) (by tm_at "a") ?_ ?_
 ·clear O hs hc
  (intro c2 O hs hw2 hc i as; refine Bw λ t1 es nl=>?_; intro ys rw _ hi; refine Bx λ V ea hm=>?_; refine C8 hm λ n hn eb=>?_; clear hm; refine Wq λ hP1 hP2 hP3 hP4=>?_; intro hyl; subst ea; subst eb)
  dsimp only at hP1 hP2 hP3 hP4
  have hC1:(C,AO.ints cs)∈nl++(R,AO.list (ras.map .ref))::rest:=aC _ (.tail _ hC)
  have hC1:=aG rw hC1
  have hn5:=hn5 n (bT hn)
  obtain⟨_,_,_,items,a,e1,e2,e3,e4⟩:=Jh (P:=c2.w.params) hn5.1 hn5.2
  refine' A1 O hs ?_
  refine' A3 O hs hc ?_
  refine' A3 O hs hc ?_
  refine' A1 O hs ?_
  refine' A1 O hs ?_
  refine' o6 (a:= .ref a) O e1 hn5.1 (by tm_at "a") e2 rfl ?_
  refine' A1 O hs ?_
  refine' A3 O hs hc ?_
  (refine' I3 (O.le (by tm_at "a")) (by tm_at "e") (by tm_at "b") (by tm_at "a") hz hq (by tm_at "a") (λ r t2 ht2 g0 g1=>?_); obtain⟨x,tx,hx1,hx2⟩:=Qp g0 g1)
  refine' o6 (a:= .str x) O e3 g0 (by tm_at "a") hx1 ⟨_,rfl⟩ ?_
  refine' Cz (O.le (by tm_at "a")) (λ X D=>?_)
  refine' N8 (O.le (by tm_at "a")) (by tm_at "e") (by tm_at "e") (by tm_at "b") hz hq (by tm_at "a") hP4 (by tm_at "a") (λ v' t3 nl2 xs j ht3 hj hxl hP4' hch=>?_)
  refine' Hu (t3,es++xs,nl2++(X,.inst 520 D)::(D,.dict [(aA "text",.str x)])::nl) ⟨?_,by tm_at "a",by rw[aI]; tm_at "a",hP4'⟩ ?_
  ·rw[K4,aV,hn,bB]
   exact(hP1.up xs λ q hq=>aC _ (.tail _ (.tail _ hq))).snoc (.mk (hch.mono λ q hq=>aG _ hq) (by tm_at "a") (aC _ (.head _)) (aC _ (.tail _ (.head _))) (e4 x hx2))
  ·refine' .cons (.head _) (.cons (.head _) (.cons (.app' (.tail (.tail (.head _)))) (.cons (.app' (.tail (.tail (.head _)))) (.cons (.app' (.tail (.tail (.head _)))) (.of (.of_eq ?_))))))
   show nl2++(X,_)::(D,_)::(nl++_++rw)=nl2++(X,_)::(D,_)::nl++_++rw
   simp only[aP,List.cons_append]
 (refine Bw λ t1 es nl=>?_; intro vs N; refine Wq λ hP1 hP2 hP3 hP4=>?_)
 rw[bD]at hP1
 dsimp only at hP1 hP2 hP3 hP4
 have hvl:=hP1.at.1
 rw[aQ]at hvl
 refine'⟨_,λ V h=>h,?_⟩
 have hC1:(C,AO.ints cs)∈(nl++(R,AO.list (ras.map .ref))::rest)++[(K,.ints ns)]:=aG _ (aC _ (.tail _ hC))
 have hl1:I9 (aA "Length") [(aA "Length",AV.int 5)]=some (.int 5):=rfl
 change V5 c1 _ _ _ _ .next [("rows",.ref R),("numbers",.ref K),("names",.ref N)] ((N,.list vs)::(P,J4 C q t1)::(T,.kd es)::(W1,.cell none)::(W2,.cell (some (.ref T)))::(W3,.cell (some (.ref P)))::(nl++(R,.list (ras.map .ref))::rest++[(K,.ints ns)]))
 refine' o8 .str (λ X=>?_) (by kernel_rfl) (by kernel_rfl)
 refine'⟨_,rfl,?_⟩
 refine'⟨_,by tm_at "e",by decide,?_⟩
 refine' B1 hs ?_
 have hE0:vs.isEmpty=true->ns=[]:=λ e=>List.eq_nil_of_length_eq_zero (hvl.symm.trans (by rw[iJ.mp e]; rfl))
 refine' HS (λ m' led'=>m'=([("rows",.ref R),("numbers",.ref K),("names",.ref N),("head",.ref X)]:Lm)/\HQ P T R K X W1 W2 W3 C q t0 ns ras rest led') (λ KK hK=>?_) ?_
 ·refine' H3 (as:=[]) (aB rfl) (λ N0=>?_)
  refine' Dj O (by tm_at "b") (.head _) ?_
  refine' X3 ?_
  refine' br (λ hE=>?_) (λ hE=>?_)
  refine' A1 O hs ?_
  refine' A3 O hs hc ?_
  refine' I3 (O.le (by tm_at "a")) (by tm_at "e") (by tm_at "b") (by tm_at "a") hz hq (by tm_at "a") (λ r t2 ht2 g0 g1=>?_)
  refine' S6 (λ V=>?_) (λ V=>?_)
  refine' J5 ?_
  refine' O4 ?_
  refine' E5 rfl ?_
  refine' A0 O hs ?_
  refine' N3 (by tm_at "b") (by tm_at "c") ?_
  refine' S6 (λ V=>?_) (λ V=>?_)
  refine' A1 O hs ?_
  refine' A3 O hs hc ?_
  refine' I3 (O.le (by tm_at "a")) (by tm_at "e") (by tm_at "b") (by tm_at "a") hz hq (by tm_at "a") (λ r t2 ht2 g0 g1=>?_)
  refine' S6 (λ V=>?_) (λ V=>?_)
  refine' J5 ?_
  (obtain⟨v0,f0,hv0,hf0,hn0⟩:=hP1.one (by tm_at "a"); refine' K7 (by tm_at "b") (by tm_at "a") (by tm_at "a") (congrArg (λ l:List AV=>l[0]?) hv0) ?_)
  refine' H5 (f:=AO.sd) (g:=AV.str) .str (by tm_at "g") (by exact aB rfl) ?_
  exact hK _ _ ⟨rfl,HQ.mk t2 es ((N,.list vs)::nl) (J3 (aA "Filter") v0 [(aA "Length",.int 5)]) (i6 [[_],[_],[_],[_],[_],[_],[_],[_],_,[_],_,[_]] (.a [0,1,2,3,4,5,6,7] (.e [8,9] 10) (.s [11])) (.a [9,5,0,1,4,6,7] (.e [3] 8) (.s [10,11])) rfl) (show F9 _ _ v0 _ from hf0▸ .one (by have:=hn0.up [] λ q hq=> .tail (N,.list vs) hq; rw[bA]at this; exact this)) rfl rfl (aB rfl) (by tm_at "a") (by tm_at "a") hP4⟩
  refine' G1 ?_
  refine' A1 O hs ?_
  refine' A3 O hs hc ?_
  refine' A3 O hs hc ?_
  refine' N8 (O.le (by tm_at "a")) (by tm_at "e") (by tm_at "e") (by tm_at "f") hz hq (by tm_at "a") hP4 (by tm_at "a") (λ v' t3 nl2 xs j ht3 hj hxl hP4' hch=>?_)
  refine' H5 (f:=AO.sd) (g:=AV.str) .str (by tm_at "g") (by exact aB rfl) ?_
  exact hK _ _ ⟨rfl,HQ.mk t3 (es++xs) ((N,.list vs)::(nl2++nl)) (J3 (aA "Filter") v' [(aA "Length",.int 5)]) (i6 [[_],[_],[_],_,[_],[_],[_],[_],[_],_,[_],_,[_]] (.a [0,1,2,3,4,5,6,7,8] (.e [9,10] 11) (.s [12])) (.a [10,6,0,1,2,7,8] (.e [5,3] 9) (.s [11,12])) rfl) (show F9 _ _ v' _ from .list (hch.mono λ q hq=> .tail _ (aG _ hq)) (by tm_at "a") (.head _) (hP1.up xs λ q hq=> .tail _ (aC _ hq))) rfl rfl (aB rfl) (by tm_at "a") (by rw[aI]; tm_at "a") hP4'⟩
  refine' G1 ?_
  refine' A1 O hs ?_
  refine' A3 O hs hc ?_
  refine' A3 O hs hc ?_
  refine' N8 (O.le (by tm_at "a")) (by tm_at "e") (by tm_at "e") (by tm_at "f") hz hq (by tm_at "a") hP4 (by tm_at "a") (λ v' t3 nl2 xs j ht3 hj hxl hP4' hch=>?_)
  refine' H5 (f:=AO.sd) (g:=AV.str) .str (by tm_at "g") (by exact aB rfl) ?_
  exact hK _ _ ⟨rfl,HQ.mk t3 (es++xs) ((N,.list vs)::(nl2++nl)) (J3 (aA "Filter") v' [(aA "Length",.int 5)]) (i6 [[_],[_],[_],_,[_],[_],[_],[_],[_],_,[_],_,[_]] (.a [0,1,2,3,4,5,6,7,8] (.e [9,10] 11) (.s [12])) (.a [10,6,0,1,2,7,8] (.e [5,3] 9) (.s [11,12])) rfl) (show F9 _ _ v' _ from .list (hch.mono λ q hq=> .tail _ (aG _ hq)) (by tm_at "a") (.head _) (hP1.up xs λ q hq=> .tail _ (aC _ hq))) rfl rfl (aB rfl) (by tm_at "a") (by rw[aI]; tm_at "a") hP4'⟩
  refine' G1 ?_
  exact hK _ _ ⟨rfl,HQ.mk t2 es nl ([(aA "Length",.int 5)]) (i6 [[_],[_],[_],[_],[_],[_],[_],[_],_,[_],_,[_]] (.a [0,1,2,3,4,5,6,7] (.e [8,9] 10) (.s [11])) (.s [9,5,2,0,4,6,7,8,10,11]) rfl) (show F9 _ _ .none _ from by rw[hE0 hE]; exact .none .here (bG _)) rfl rfl (aB rfl) (by tm_at "a") (by tm_at "a") hP4⟩
  refine' J5 ?_
  refine' O4 ?_
  refine' E5 rfl ?_
  refine' A0 O hs ?_
  refine' N3 (by tm_at "b") (by tm_at "c") ?_
  refine' S6 (λ V=>?_) (λ V=>?_)
  refine' A1 O hs ?_
  refine' A3 O hs hc ?_
  refine' I3 (O.le (by tm_at "a")) (by tm_at "e") (by tm_at "b") (by tm_at "a") hz hq (by tm_at "a") (λ r t2 ht2 g0 g1=>?_)
  refine' S6 (λ V=>?_) (λ V=>?_)
  refine' J5 ?_
  (obtain⟨v0,f0,hv0,hf0,hn0⟩:=hP1.one (by tm_at "a"); refine' K7 (by tm_at "b") (by tm_at "a") (by tm_at "a") (congrArg (λ l:List AV=>l[0]?) hv0) ?_)
  refine' H5 (f:=AO.sd) (g:=AV.str) .str (by tm_at "g") (by exact aB rfl) ?_
  exact hK _ _ ⟨rfl,HQ.mk t2 es ((N,.list vs)::nl) (J3 (aA "Filter") v0 [(aA "Length",.int 5)]) (i6 [[_],[_],[_],[_],[_],[_],[_],[_],_,[_],_,[_]] (.a [0,1,2,3,4,5,6,7] (.e [8,9] 10) (.s [11])) (.a [9,5,0,1,4,6,7] (.e [3] 8) (.s [10,11])) rfl) (show F9 _ _ v0 _ from hf0▸ .one (by have:=hn0.up [] λ q hq=> .tail (N,.list vs) hq; rw[bA]at this; exact this)) rfl rfl (aB rfl) (by tm_at "a") (by tm_at "a") hP4⟩
  refine' G1 ?_
  refine' A1 O hs ?_
  refine' A3 O hs hc ?_
  refine' A3 O hs hc ?_
  refine' N8 (O.le (by tm_at "a")) (by tm_at "e") (by tm_at "e") (by tm_at "f") hz hq (by tm_at "a") hP4 (by tm_at "a") (λ v' t3 nl2 xs j ht3 hj hxl hP4' hch=>?_)
  refine' H5 (f:=AO.sd) (g:=AV.str) .str (by tm_at "g") (by exact aB rfl) ?_
  exact hK _ _ ⟨rfl,HQ.mk t3 (es++xs) ((N,.list vs)::(nl2++nl)) (J3 (aA "Filter") v' [(aA "Length",.int 5)]) (i6 [[_],[_],[_],_,[_],[_],[_],[_],[_],_,[_],_,[_]] (.a [0,1,2,3,4,5,6,7,8] (.e [9,10] 11) (.s [12])) (.a [10,6,0,1,2,7,8] (.e [5,3] 9) (.s [11,12])) rfl) (show F9 _ _ v' _ from .list (hch.mono λ q hq=> .tail _ (aG _ hq)) (by tm_at "a") (.head _) (hP1.up xs λ q hq=> .tail _ (aC _ hq))) rfl rfl (aB rfl) (by tm_at "a") (by rw[aI]; tm_at "a") hP4'⟩
  refine' G1 ?_
  refine' A1 O hs ?_
  refine' A3 O hs hc ?_
  refine' A3 O hs hc ?_
  refine' N8 (O.le (by tm_at "a")) (by tm_at "e") (by tm_at "e") (by tm_at "f") hz hq (by tm_at "a") hP4 (by tm_at "a") (λ v' t3 nl2 xs j ht3 hj hxl hP4' hch=>?_)
  refine' H5 (f:=AO.sd) (g:=AV.str) .str (by tm_at "g") (by exact aB rfl) ?_
  exact hK _ _ ⟨rfl,HQ.mk t3 (es++xs) ((N,.list vs)::(nl2++nl)) (J3 (aA "Filter") v' [(aA "Length",.int 5)]) (i6 [[_],[_],[_],_,[_],[_],[_],[_],[_],_,[_],_,[_]] (.a [0,1,2,3,4,5,6,7,8] (.e [9,10] 11) (.s [12])) (.a [10,6,0,1,2,7,8] (.e [5,3] 9) (.s [11,12])) rfl) (show F9 _ _ v' _ from .list (hch.mono λ q hq=> .tail _ (aG _ hq)) (by tm_at "a") (.head _) (hP1.up xs λ q hq=> .tail _ (aC _ hq))) rfl rfl (aB rfl) (by tm_at "a") (by rw[aI]; tm_at "a") hP4'⟩
 ·(intro m' led'; refine EQ λ em=>?_; refine Zv λ t2 es2 nl2 hs2 hsb hF=>?_; refine XE λ hL hD hh2 ht2 he2 hk2=>?_; subst em)
  obtain⟨r2,hpR,hsb2⟩:=hsb.pick
  refine' A6 ?_
  refine' H3 (as:=[]) (aB rfl) (λ G=>?_)
  refine' B1 hs ?_
  refine' T1 ?_ (hs:=λ V=>rfl)
  change l5 c1 _ _ (.ref R) _ _ _
  have hI:=CF (led:=(G,AO.list [])::led') O (.tail hpR)
  have hI2:=hsb2.two (q:=(G,AO.list []))
  refine' FH hs rfl hc rfl (λ s:Option AV×(Nat×Int)×List (Int×AV)×La×List AV=>s.1) ["row","table","pen"] (λ V=>([(aA "parts",.ref G),(aA "rows",.ref R),(aA "numbers",.ref K),(aA "names",.ref N),(aA "head",.ref X)]:Lm)) (λ s=>(G,.list s.2.2.2.2)::(X,.sd hs2)::(P,J4 C q s.2.1)::(T,.kd s.2.2.1)::(W2,.cell (some (.ref T)))::(W3,.cell (some (.ref P)))::(s.2.2.2.1++(rest++[(K,.ints ns)]))) (λ i s=>G7 s.2.2.1 s.2.2.2.1 s.2.2.2.2 (bs.take i)/\(∃ xs,s.2.2.1=es2++xs)/\(∀ q∈nl2,q∈s.2.2.2.1)/\s.2.1.1<=t2.1+4*i/\s.2.2.1.length<=es2.length+6*i/\a5 s.2.2.1) (λ s=>G7 s.2.2.1 s.2.2.2.1 s.2.2.2.2 bs/\(∃ xs,s.2.2.1=es2++xs)/\(∀ q∈nl2,q∈s.2.2.2.1)/\s.2.1.1<=t2.1+4*bs.length/\s.2.2.1.length<=es2.length+6*bs.length/\a5 s.2.2.1) (none,t2,es2,nl2,[]) hI O ?_ ?_ ⟨.nil,⟨[],(bA _).symm⟩,λ V h=>h,aR _,aR _,hk2⟩ ?_ ?_ ?_
  ·exact⟨rfl,rfl,rfl,rfl,rfl,trivial⟩
  ·exact hI2
  ·(intro i a; refine Yd λ ov t es nl pv=>?_; intro rw KK hK hi ha; refine XE λ hR zz154 hsub ht he hk=>?_; obtain⟨xs0,u5⟩:=zz154)
   dsimp only at hR u5 hsub ht he hk
   rw[cJ]at ha
   obtain⟨ra,hra1,rfl⟩:=cR.mp ha
   obtain⟨b,hb1,hb2⟩:=hra.2 hra1
   obtain⟨rest',hpr⟩:=C1.ex hb2
   have hrb:=hbs b (bT hb1)
   have hi4:i < 3:=dK (aT.mp hb1).1 (hbl▸hns)
   clear hi
   change O6 c1 _ 40 _ [(aA "parts",.ref G),(aA "rows",.ref R),(aA "numbers",.ref K),(aA "names",.ref N),(aA "head",.ref X)] ((W1,.cell (some (.ref ra)))::(G,.list pv)::(X,.sd hs2)::(P,J4 C q t)::(T,.kd es)::(W2,.cell (some (.ref T)))::(W3,.cell (some (.ref P)))::((nl++(rest++[(K,.ints ns)]))++rw)) KK
   refine' A6 ?_
   refine' A0 O hs ?_
   refine' K3 ?_ ((H4 hc).trans rfl) rfl (by kernel_rfl)
   refine' A3 O hs hc ?_
   refine' Bl (xs:=[aA "key"]) (FO O .str (λ h=>y7 h) (.tail (.tail (.tail (.tail (.tail (.tail (.tail (.app (.app' (.app hpr))))))))))) (λ s:(Nat×Int)×List (Int×AV)×La×La=>(P,J4 C q s.1)::(T,.kd s.2.1)::(W1,.cell (some (.ref ra)))::(W2,.cell (some (.ref T)))::(W3,.cell (some (.ref P)))::(s.2.2.1++(s.2.2.2++(G,.list pv)::(X,.sd hs2)::(nl++(rest'++(K,.ints ns)::rw))))) (λ i s ys=>∃ a',K6 s.2.2.2 AV.str ys a'/\J0 s.2.1 s.2.2.1 a' (b.take i)/\(∃ xs,s.2.1=es++xs)/\s.1.1<=t.1+i/\s.2.1.length<=es.length+2*i/\a5 s.2.1) (t,es,[],[]) O hs ?_ ⟨[],.nil,.nil,⟨[],(bA _).symm⟩,aR _,aR _,hk⟩ rfl (by kernel_rfl) (λ c2 h=> .name (h _ (.head _))) (λ i as ⟨e,_,h⟩=>by rw[h]; rfl) (by kernel_rfl) (by have:=hrb.len; tm_at "a") ?_ ?_
   ·exact i6 [[_],[_],[_],[_],[_],[_],[_],_,_,[_],_] (.a [0,1,2,3,4,5,6] (.s [7,8,9]) (.e [] 10)) (.a [3,4,0,5,6] (.s []) (.a [] (.s []) (.e [1,2,7,8,9] 10))) rfl
   ·clear O hs hc
    (intro c2 O h2; refine EQ λ hw2 V=>?_; intro hc i2 as; refine MQ λ t3 es3 nlc tl=>?_; intro ys rw2; refine Bx λ kp zz164 hrw=>?_; intro hi2; refine Bx λ zz165 hxa zz166=>?_; refine YK λ a' hP1 hP2 zz167 hP4 hP5 hP6=>?_; intro hy; obtain⟨o,ho,hkp⟩:=zz164; subst zz166; obtain⟨x,v⟩:=zz165; obtain⟨xs3,hP3⟩:=zz167)
    dsimp only at hP1 hP2 hP3 hP4 hP5 hP6
    have hs:=h2
    obtain⟨w,hw3⟩:=hrb.int _ (bT hxa)
    dsimp only at hw3
    subst hw3
    have hi3:=hrb.len
    have hro:(ra,AO.raw o)∈rw2:=hrw _ (aY (f:=λ p:aJ×Obj=>(p.1,AO.raw p.2)) hkp)
    have ho:L9 c2.w (.sd b) o:=hw2▸ho
    have hC2:(C,AO.ints cs)∈rest':=hpr.other hC (λ e=>by cases e)
    refine' A1 O hs ?_
    refine' A3 O hs hc ?_
    refine' A3 O hs hc ?_
    refine' A3 O hs hc ?_
    refine' BU (f:=AO.sd) (g:=AV.str) .str ho (by tm_at "f") (Jj hrb.nd hxa) ?_
    refine' N8 (O.le (by tm_at "a")) (by tm_at "e") (by tm_at "e") (by tm_at "f") hz hq (by tm_at "a") hP6 (by tm_at "a") (λ v' t4 nl4 xs4 j ht4 hj hxl hP6' hch=>?_)
    refine' E4 (aB rfl) (λ U=>?_)
    subst hP3
    refine' Hu (t4,(es++xs3)++xs4,nl4++nlc,(U,.tup [.str x,v'])::tl) ⟨a'++[(x,v')],hP1.snoc,?_,⟨xs3++xs4,by rw[aP]⟩,by tm_at "a",by rw[aI]; tm_at "a",hP6'⟩ ?_
    ·rw[aV,hxa]
     exact(hP2.up xs4 λ q hq=>aC _ hq).snoc (hch.mono λ q hq=>aG _ hq) (by tm_at "a")
    ·exact i6 [[_],[_],[_],_,[_],[_],[_],_,_,[_],[_],_,_,[_],_,_] (.a [0,1,2,3] (.e [4,5,6,7,8,9,10,11,12,13] 14) (.e [] 15)) (.a [] (.a [1,2,4,5,6] (.e [3] 7) (.a [] (.e [0] 8) (.e [9,10,11,12,13] 14))) (.e [] 15)) rfl
   ·(refine MQ λ t3 es3 nlc tl=>?_; intro ys D; refine YK λ a' hP1 hP2 zz182 hP4 hP5 hP6=>?_; obtain⟨xs3,hP3⟩:=zz182)
    rw[bD]at hP2
    dsimp only at hP1 hP2 hP3 hP4 hP5 hP6
    subst hP3
    have hpl:pv.length<=3:=by rw[hR.at.1]; exact aS (dL ..) (hbl▸hns)
    have hbn:=hP2.at
    have hbl:=hrb.len
    have hb0:b.isEmpty=true->b=[]:=iJ.mp
    have hC2:(C,AO.ints cs)∈rest':=hpr.other hC (λ e=>by cases e)
    refine'⟨_,λ V h=>h,?_⟩
    refine' AN (g:=AV.str) (f:=AO.sd) O .str (.head _) (hP1.mono λ q hq=>by tm_at "f") (by rw[hbn.2.1]; exact hrb.nd) (by tm_at "a") (λ Y=>?_)
    refine' B1 hs ?_
    refine' D8 ?_
    refine' R5 (as:=pv) (by tm_at "f") ?_
    refine' A1 O hs ?_
    refine' A3 O hs hc ?_
    refine' A3 O hs hc ?_
    refine' A3 O hs hc ?_
    refine' P5 .str (λ E0=>?_)
    refine' Lx (f:=AO.sd) (g:=AV.str) (es:=b) O .str (by tm_at "f") (.head _) ?_
    refine' br (λ hE=>?_) (λ hE=>?_)
    refine' A1 O hs ?_
    refine' A3 O hs hc ?_
    refine' I3 (O.le (by tm_at "a")) (by tm_at "e") (by tm_at "f") (by tm_at "a") hz hq (by tm_at "a") (λ r t4 ht4 g0 g1=>?_)
    refine' S6 (λ V=>?_) (λ V=>?_)
    refine' J5 ?_
    refine' N8 (O.le (by tm_at "a")) (by tm_at "e") (by tm_at "e") (by tm_at "f") hz hq (by tm_at "a") hP6 (by tm_at "a") (λ v' t5 nl5 xs5 j ht5 hj hxl hP6' hch=>?_)
    refine' O8 (as:=pv) (by tm_at "g") (by tm_at "a") ?_
    (refine' hK _ _ _ ?_; have hrow:O7 ((es++xs3)++xs5) ((Y,AO.sd a')::(nl5++(nlc++nl))) v' b:=(by first | (rw[hb0 hE]; exact .none (hch.mono λ q hq=> .tail _ (aG _ hq)) (by tm_at "a")) | exact .dict (hch.mono λ q hq=> .tail _ (aG _ hq)) (by tm_at "a") (.head _) (hP2.up xs5 λ q hq=> .tail _ (aC _ (aG _ hq))) (by rw[hbn.2.1]; exact hrb.nd) (by tm_at "a")); refine' go (some (.ref ra),t5,(es++xs3)++xs5,(Y,.sd a')::(nl5++(nlc++nl)),pv++[v']) ⟨by rw[aV,hb1]; exact(hR.up (xs3++xs5) λ q hq=> .tail _ (aC _ (aC _ hq))).reass.snoc hrow,⟨xs0++(xs3++xs5),by rw[u5]; simp only[aP]⟩,λ q hq=> .tail _ (aC _ (aC _ (hsub q hq))),by tm_at "a",by simp only[aI]at*; tm_at "a",hP6'⟩ ⟨rfl,rfl,rfl,rfl,rfl,trivial⟩ ?_)
    exact Sb.trans (i6 [[_],[_],[_],_,[_],[_],[_],[_],[_],[_],_,_,[_],_,_,[_],_,[_]] (.a [0,1,2,3,4,5,6] (.e [7,8,9,10,11,12,13,14,15] 16) (.s [17])) (.a [] (.e [17] 14) (.e [7,0,12,1,2,8,9,5,3,10,13,15] 16)) rfl) (WK hpr.perm.symm [[_],[_],[_],[_],[_],[_],[_],[_],_,_,_,[_],_] (.e [0,1,2,3,4,5,6,7,8,9,10,11,12] 13) (.a [] (.a [1,2,3,4,5,6,7] (.e [8,9,10] 11) (.s [0,12])) (.e [] 13)) rfl)
    refine' G1 ?_
    refine' N8 (O.le (by tm_at "a")) (by tm_at "e") (by tm_at "e") (by tm_at "f") hz hq (by tm_at "a") hP6 (by tm_at "a") (λ v' t5 nl5 xs5 j ht5 hj hxl hP6' hch=>?_)
    refine' O8 (as:=pv) (by tm_at "g") (by tm_at "a") ?_
    (refine' hK _ _ _ ?_; have hrow:O7 ((es++xs3)++xs5) ((Y,AO.sd a')::(nl5++(nlc++nl))) v' b:=(by first | (rw[hb0 hE]; exact .none (hch.mono λ q hq=> .tail _ (aG _ hq)) (by tm_at "a")) | exact .dict (hch.mono λ q hq=> .tail _ (aG _ hq)) (by tm_at "a") (.head _) (hP2.up xs5 λ q hq=> .tail _ (aC _ (aG _ hq))) (by rw[hbn.2.1]; exact hrb.nd) (by tm_at "a")); refine' go (some (.ref ra),t5,(es++xs3)++xs5,(Y,.sd a')::(nl5++(nlc++nl)),pv++[v']) ⟨by rw[aV,hb1]; exact(hR.up (xs3++xs5) λ q hq=> .tail _ (aC _ (aC _ hq))).reass.snoc hrow,⟨xs0++(xs3++xs5),by rw[u5]; simp only[aP]⟩,λ q hq=> .tail _ (aC _ (aC _ (hsub q hq))),by tm_at "a",by simp only[aI]at*; tm_at "a",hP6'⟩ ⟨rfl,rfl,rfl,rfl,rfl,trivial⟩ ?_)
    exact Sb.trans (i6 [[_],[_],[_],_,[_],[_],[_],[_],[_],[_],_,_,[_],_,_,[_],_,[_]] (.a [0,1,2,3,4,5,6] (.e [7,8,9,10,11,12,13,14,15] 16) (.s [17])) (.a [] (.e [17] 14) (.e [7,0,12,1,2,8,9,5,3,10,13,15] 16)) rfl) (WK hpr.perm.symm [[_],[_],[_],[_],[_],[_],[_],[_],_,_,_,[_],_] (.e [0,1,2,3,4,5,6,7,8,9,10,11,12] 13) (.a [] (.a [1,2,3,4,5,6,7] (.e [8,9,10] 11) (.s [0,12])) (.e [] 13)) rfl)
    refine' G1 ?_
    refine' N8 (O.le (by tm_at "a")) (by tm_at "e") (by tm_at "e") (by tm_at "f") hz hq (by tm_at "a") hP6 (by tm_at "a") (λ v' t5 nl5 xs5 j ht5 hj hxl hP6' hch=>?_)
    refine' O8 (as:=pv) (by tm_at "g") (by tm_at "a") ?_
    (refine' hK _ _ _ ?_; have hrow:O7 ((es++xs3)++xs5) ((Y,AO.sd a')::(nl5++(nlc++nl))) v' b:=(by first | (rw[hb0 hE]; exact .none (hch.mono λ q hq=> .tail _ (aG _ hq)) (by tm_at "a")) | exact .dict (hch.mono λ q hq=> .tail _ (aG _ hq)) (by tm_at "a") (.head _) (hP2.up xs5 λ q hq=> .tail _ (aC _ (aG _ hq))) (by rw[hbn.2.1]; exact hrb.nd) (by tm_at "a")); refine' go (some (.ref ra),t5,(es++xs3)++xs5,(Y,.sd a')::(nl5++(nlc++nl)),pv++[v']) ⟨by rw[aV,hb1]; exact(hR.up (xs3++xs5) λ q hq=> .tail _ (aC _ (aC _ hq))).reass.snoc hrow,⟨xs0++(xs3++xs5),by rw[u5]; simp only[aP]⟩,λ q hq=> .tail _ (aC _ (aC _ (hsub q hq))),by tm_at "a",by simp only[aI]at*; tm_at "a",hP6'⟩ ⟨rfl,rfl,rfl,rfl,rfl,trivial⟩ ?_)
    exact Sb.trans (i6 [[_],[_],[_],_,[_],[_],[_],[_],[_],[_],_,_,[_],_,_,[_],_,[_]] (.a [0,1,2,3,4,5,6] (.e [7,8,9,10,11,12,13,14,15] 16) (.s [17])) (.a [] (.e [17] 14) (.e [7,0,12,1,2,8,9,5,3,10,13,15] 16)) rfl) (WK hpr.perm.symm [[_],[_],[_],[_],[_],[_],[_],[_],_,_,_,[_],_] (.e [0,1,2,3,4,5,6,7,8,9,10,11,12] 13) (.a [] (.a [1,2,3,4,5,6,7] (.e [8,9,10] 11) (.s [0,12])) (.e [] 13)) rfl)
  ·(intro s; refine EQ λ h1 h2=>?_)
   rw[aQ,hra.1,bD]at h1
   rw[aQ,hra.1]at h2
   exact⟨h1,h2⟩
  ·(refine Yd λ ov t es nl pv=>?_; refine XE λ hR zz188 hsub ht he hk=>?_; obtain⟨xs0,u5⟩:=zz188)
   dsimp only at hR u5 hsub ht he hk
   have hpl:=hR.at.1
   change O6 c1 _ _ _ [(aA "parts",.ref G),(aA "rows",.ref R),(aA "numbers",.ref K),(aA "names",.ref N),(aA "head",.ref X)] ((W1,.cell ov)::(G,.list pv)::(X,.sd hs2)::(P,J4 C q t)::(T,.kd es)::(W2,.cell (some (.ref T)))::(W3,.cell (some (.ref P)))::((nl++(rest++[(K,.ints ns)]))++[(R,.list (ras.map .ref))])) _
   refine' HS (λ m' led'=>m'=([(aA "parts",.ref G),(aA "rows",.ref R),(aA "numbers",.ref K),(aA "names",.ref N),(aA "head",.ref X)]:Lm)/\∃ l2,Sb led' l2/\k (.ref X) l2) (λ KK hK=>?_) ?_
   ·refine' K3 ?_ ((H4 hc).trans rfl) rfl (by kernel_rfl)
    refine' Bm (xs:=[aA "row"]) (CF O (.tail (.tail (.tail (.tail (.tail (.tail (.tail .end)))))))).x (λ V:Unit=>_) (λ i V ys=>(ys=[]->∀ b∈bs.take i,b=[])/\ys.length<=i) () O .refl ⟨(λ V V h=>nomatch h),aR _⟩ rfl (by kernel_rfl) (by rintro g' hg'; cases hg') (λ C=> .name (V8 (xs:=[aA "row"]) (by kernel_rfl) _ (.head _))) (λ i as ⟨_,e,_⟩=>by rw[e]; rfl) ?_ ?_
    ·(intro C2 OC i as D _ ys rw _ hi; refine Bx λ V zz194 hn=>?_; refine EQ λ hP1 hP2=>?_; subst zz194)
     rw[cJ]at hn
     obtain⟨ra,hra1,rfl⟩:=cR.mp hn
     obtain⟨b,hb1,hb2⟩:=hra.2 hra1
     have O:=OC
     refine' P5 .str (λ E0=>?_)
     refine' Lg (f:=AO.sd) (g:=AV.str) (es:=b) O .str (by tm_at "f") (.head _) ?_
     refine' X3 ?_
     refine' br (λ hE=>?_) (λ hE=>?_)
     ·exact⟨((),ys),⟨λ e=>JZ (hP1 e) hb1 (iJ.mp hE),iB hP2⟩,.drop .refl⟩
     ·show Y3 _ _ _ _ _
      refine' sE (?_:I0 _ _ 30 _ _ _)
      exact⟨ys,_,.tail (.head _),aS hP2 (by rw[aQ,hra.1,hbl]at hi; tm_at "a"),((),ys++[.ref ra]),⟨λ e=>absurd e (by simp),by rw[aI]; exact bL hP2⟩,.cons (.head _) (.drop .refl)⟩
    ·(intro _ ys D; refine EQ λ hy1 hy2=>?_)
     rw[aQ,hra.1,bD]at hy1
     rw[aQ,hra.1]at hy2
     have hy0:ys.isEmpty=true->∀ b∈bs,b=[]:=λ e=>hy1 (iJ.mp e)
     have hFu:=λ xs nl'=>F9.up (xs0++xs) (led':=nl') (x:=hF)
     refine'⟨_,λ V h=>h,?_⟩
     refine' H3 (as:=[]) (aB rfl) (λ L0=>?_)
     refine' Dj (as:=ys) O (by tm_at "f") (.head _) ?_
     refine' X3 ?_
     refine' br (λ hE=>?_) (λ hE=>?_)
     refine' A1 O hs ?_
     refine' A3 O hs hc ?_
     refine' I3 (O.le (by tm_at "a")) (by tm_at "e") (by tm_at "f") (by tm_at "a") hz hq (by tm_at "a") (λ r t4 ht4 g0 g1=>?_)
     refine' S6 (λ V=>?_) (λ V=>?_)
     refine' J5 ?_
     refine' O4 ?_
     refine' E5 rfl ?_
     refine' A0 O hs ?_
     refine' N3 (as:=pv) (by tm_at "f") (by tm_at "a") ?_
     refine' S6 (λ V=>?_) (λ V=>?_)
     refine' A1 O hs ?_
     refine' A3 O hs hc ?_
     refine' I3 (O.le (by tm_at "a")) (by tm_at "e") (by tm_at "f") (by tm_at "a") hz hq (by tm_at "a") (λ r t4 ht4 g0 g1=>?_)
     refine' S6 (λ V=>?_) (λ V=>?_)
     refine' J5 ?_
     (obtain⟨v0,b0,hv0,hb0,hn0⟩:=hR.one (by tm_at "a"); refine' K7 (as:=pv) (by tm_at "f") (by tm_at "a") (by tm_at "a") (congrArg (λ l:List AV=>l[0]?) hv0) ?_)
     refine' H5 (f:=AO.sd) (g:=AV.str) (es:=hs2) .str (by tm_at "g") (by tm_at "a") ?_
     exact hK _ _ ⟨rfl,(X,.sd (J3 (aA "DecodeParms") v0 hs2))::(P,J4 C q t4)::(T,.kd es)::(nl++(K,.ints ns)::(R,.list (ras.map .ref))::rest),i6 [[_],[_],[_],[_],[_],[_],[_],[_],[_],_,_,[_],[_]] (.a [0,1,2,3,4,5] (.s [6,7,8,9,10,11]) (.s [12])) (.e [0,1,6,9,11,12] 10) rfl,h _ _ _ _ nl (by rw[E1,if_neg (by decide),u5,←bA (es2++xs0),aP]; exact hFu _ _ hsub) (by rw[E1,if_pos rfl,hb0,show ns.length=1 from by tm_at "a"]; exact hn0.parm) (by rw[E1,if_neg (by decide)]; exact hL) (aS Y6 (bL hh2)) (by tm_at "a")⟩
     refine' G1 ?_
     refine' A1 O hs ?_
     refine' A3 O hs hc ?_
     refine' A3 O hs hc ?_
     refine' N8 (O.le (by tm_at "a")) (by tm_at "e") (by tm_at "e") (by tm_at "f") hz hq (by tm_at "a") hk (by tm_at "a") (λ v' t5 nl5 xs5 j ht5 hj hxl hP6' hch=>?_)
     refine' H5 (f:=AO.sd) (g:=AV.str) (es:=hs2) .str (by tm_at "g") (by tm_at "a") ?_
     exact hK _ _ ⟨rfl,(X,.sd (J3 (aA "DecodeParms") v' hs2))::(P,J4 C q t5)::(T,.kd (es++xs5))::(((G,.list pv)::(nl5++nl))++(K,.ints ns)::(R,.list (ras.map .ref))::rest),i6 [[_],[_],[_],_,[_],[_],[_],[_],[_],[_],_,_,[_],[_]] (.a [0,1,2,3,4,5,6,7] (.s [8,9,10,11,12]) (.s [13])) (.a [0,1,2] (.e [7,3] 10) (.e [12,13] 11)) rfl,h _ _ _ _ ((G,.list pv)::(nl5++nl)) (by rw[E1,if_neg (by decide),u5,aP]; exact hFu _ _ λ q hq=> .tail _ (aC _ (hsub q hq))) (by rw[E1,if_pos rfl]; exact .list (hpl.trans hbl) (hch.mono λ q hq=> .tail _ (aG _ hq)) (by tm_at "a") (.head _) (hR.up xs5 λ q hq=> .tail _ (aC _ hq))) (by rw[E1,if_neg (by decide)]; exact hL) (aS Y6 (bL hh2)) (by tm_at "a")⟩
     refine' G1 ?_
     refine' A1 O hs ?_
     refine' A3 O hs hc ?_
     refine' A3 O hs hc ?_
     refine' N8 (O.le (by tm_at "a")) (by tm_at "e") (by tm_at "e") (by tm_at "f") hz hq (by tm_at "a") hk (by tm_at "a") (λ v' t5 nl5 xs5 j ht5 hj hxl hP6' hch=>?_)
     refine' H5 (f:=AO.sd) (g:=AV.str) (es:=hs2) .str (by tm_at "g") (by tm_at "a") ?_
     exact hK _ _ ⟨rfl,(X,.sd (J3 (aA "DecodeParms") v' hs2))::(P,J4 C q t5)::(T,.kd (es++xs5))::(((G,.list pv)::(nl5++nl))++(K,.ints ns)::(R,.list (ras.map .ref))::rest),i6 [[_],[_],[_],_,[_],[_],[_],[_],[_],[_],_,_,[_],[_]] (.a [0,1,2,3,4,5,6,7] (.s [8,9,10,11,12]) (.s [13])) (.a [0,1,2] (.e [7,3] 10) (.e [12,13] 11)) rfl,h _ _ _ _ ((G,.list pv)::(nl5++nl)) (by rw[E1,if_neg (by decide),u5,aP]; exact hFu _ _ λ q hq=> .tail _ (aC _ (hsub q hq))) (by rw[E1,if_pos rfl]; exact .list (hpl.trans hbl) (hch.mono λ q hq=> .tail _ (aG _ hq)) (by tm_at "a") (.head _) (hR.up xs5 λ q hq=> .tail _ (aC _ hq))) (by rw[E1,if_neg (by decide)]; exact hL) (aS Y6 (bL hh2)) (by tm_at "a")⟩
     refine' G1 ?_
     exact hK _ _ ⟨rfl,(X,.sd hs2)::(P,J4 C q t4)::(T,.kd es)::(nl++(K,.ints ns)::(R,.list (ras.map .ref))::rest),i6 [[_],[_],[_],[_],[_],[_],[_],[_],[_],_,_,[_],[_]] (.a [0,1,2,3,4,5] (.s [6,7,8,9,10,11]) (.s [12])) (.e [5,0,6,9,11,12] 10) rfl,h _ _ _ _ nl (by rw[u5,←bA (es2++xs0),aP]; exact hFu _ _ hsub) (by rw[hD,←hbl]; exact .skip (hy0 hE)) hL (iB hh2) (by tm_at "a")⟩
     refine' J5 ?_
     refine' O4 ?_
     refine' E5 rfl ?_
     refine' A0 O hs ?_
     refine' N3 (as:=pv) (by tm_at "f") (by tm_at "a") ?_
     refine' S6 (λ V=>?_) (λ V=>?_)
     refine' A1 O hs ?_
     refine' A3 O hs hc ?_
     refine' I3 (O.le (by tm_at "a")) (by tm_at "e") (by tm_at "f") (by tm_at "a") hz hq (by tm_at "a") (λ r t4 ht4 g0 g1=>?_)
     refine' S6 (λ V=>?_) (λ V=>?_)
     refine' J5 ?_
     (obtain⟨v0,b0,hv0,hb0,hn0⟩:=hR.one (by tm_at "a"); refine' K7 (as:=pv) (by tm_at "f") (by tm_at "a") (by tm_at "a") (congrArg (λ l:List AV=>l[0]?) hv0) ?_)
     refine' H5 (f:=AO.sd) (g:=AV.str) (es:=hs2) .str (by tm_at "g") (by tm_at "a") ?_
     exact hK _ _ ⟨rfl,(X,.sd (J3 (aA "DecodeParms") v0 hs2))::(P,J4 C q t4)::(T,.kd es)::(nl++(K,.ints ns)::(R,.list (ras.map .ref))::rest),i6 [[_],[_],[_],[_],[_],[_],[_],[_],[_],_,_,[_],[_]] (.a [0,1,2,3,4,5] (.s [6,7,8,9,10,11]) (.s [12])) (.e [0,1,6,9,11,12] 10) rfl,h _ _ _ _ nl (by rw[E1,if_neg (by decide),u5,←bA (es2++xs0),aP]; exact hFu _ _ hsub) (by rw[E1,if_pos rfl,hb0,show ns.length=1 from by tm_at "a"]; exact hn0.parm) (by rw[E1,if_neg (by decide)]; exact hL) (aS Y6 (bL hh2)) (by tm_at "a")⟩
     refine' G1 ?_
     refine' A1 O hs ?_
     refine' A3 O hs hc ?_
     refine' A3 O hs hc ?_
     refine' N8 (O.le (by tm_at "a")) (by tm_at "e") (by tm_at "e") (by tm_at "f") hz hq (by tm_at "a") hk (by tm_at "a") (λ v' t5 nl5 xs5 j ht5 hj hxl hP6' hch=>?_)
     refine' H5 (f:=AO.sd) (g:=AV.str) (es:=hs2) .str (by tm_at "g") (by tm_at "a") ?_
     exact hK _ _ ⟨rfl,(X,.sd (J3 (aA "DecodeParms") v' hs2))::(P,J4 C q t5)::(T,.kd (es++xs5))::(((G,.list pv)::(nl5++nl))++(K,.ints ns)::(R,.list (ras.map .ref))::rest),i6 [[_],[_],[_],_,[_],[_],[_],[_],[_],[_],_,_,[_],[_]] (.a [0,1,2,3,4,5,6,7] (.s [8,9,10,11,12]) (.s [13])) (.a [0,1,2] (.e [7,3] 10) (.e [12,13] 11)) rfl,h _ _ _ _ ((G,.list pv)::(nl5++nl)) (by rw[E1,if_neg (by decide),u5,aP]; exact hFu _ _ λ q hq=> .tail _ (aC _ (hsub q hq))) (by rw[E1,if_pos rfl]; exact .list (hpl.trans hbl) (hch.mono λ q hq=> .tail _ (aG _ hq)) (by tm_at "a") (.head _) (hR.up xs5 λ q hq=> .tail _ (aC _ hq))) (by rw[E1,if_neg (by decide)]; exact hL) (aS Y6 (bL hh2)) (by tm_at "a")⟩
     refine' G1 ?_
     refine' A1 O hs ?_
     refine' A3 O hs hc ?_
     refine' A3 O hs hc ?_
     refine' N8 (O.le (by tm_at "a")) (by tm_at "e") (by tm_at "e") (by tm_at "f") hz hq (by tm_at "a") hk (by tm_at "a") (λ v' t5 nl5 xs5 j ht5 hj hxl hP6' hch=>?_)
     refine' H5 (f:=AO.sd) (g:=AV.str) (es:=hs2) .str (by tm_at "g") (by tm_at "a") ?_
     exact hK _ _ ⟨rfl,(X,.sd (J3 (aA "DecodeParms") v' hs2))::(P,J4 C q t5)::(T,.kd (es++xs5))::(((G,.list pv)::(nl5++nl))++(K,.ints ns)::(R,.list (ras.map .ref))::rest),i6 [[_],[_],[_],_,[_],[_],[_],[_],[_],[_],_,_,[_],[_]] (.a [0,1,2,3,4,5,6,7] (.s [8,9,10,11,12]) (.s [13])) (.a [0,1,2] (.e [7,3] 10) (.e [12,13] 11)) rfl,h _ _ _ _ ((G,.list pv)::(nl5++nl)) (by rw[E1,if_neg (by decide),u5,aP]; exact hFu _ _ λ q hq=> .tail _ (aC _ (hsub q hq))) (by rw[E1,if_pos rfl]; exact .list (hpl.trans hbl) (hch.mono λ q hq=> .tail _ (aG _ hq)) (by tm_at "a") (.head _) (hR.up xs5 λ q hq=> .tail _ (aC _ hq))) (by rw[E1,if_neg (by decide)]; exact hL) (aS Y6 (bL hh2)) (by tm_at "a")⟩
   ·(intro m' led'; refine EQ λ em=>?_; refine Bx λ l2 hs2 hk2=>?_; subst em)
    exact A5 hs2 hk2
end
end
section
noncomputable def bi(l:List Nat):List Int:=l.map λ c:Nat=>(c:Int) - 48
theorem Fi:∀ {l:List Nat},(∀ c∈l,c=48∨c=49)->∀ a:Nat,(bi l).foldl (λ a x=>2*a+x) (a:Int)=((l.foldl (λ a c=>a*2+(c - 48)) a:Nat):Int)
 | [],_,a=>rfl
 | c::r,h,a=>by
  have e:(2*(a:Int)+((c:Int) - 48))=((a*2+(c - 48):Nat):Int):=by
   rcases h c (.head _)with rfl | rfl<;>lia
  show(bi r).foldl _ (2*(a:Int)+((c:Int) - 48))=_
  rw[e,Fi (l:=r) (λ x hx=>h x (.tail _ hx)) (a*2+(c - 48))]
  rfl
theorem CX{l:List Nat}(h:∀ c∈l,c=48∨c=49):u6 (bi l)=((BD l:Nat):Int):=Fi h 0
theorem Pf:∀ z:Fin 512,BD (b9 ((z.val:Nat):Int))=z.val:=by decide+kernel
theorem Pg{z:Int}(h0:0<=z)(h1:z < 512):((BD (b9 z):Nat):Int)=z:=by
 have:=Pf ⟨z.toNat,by lia⟩
 have e:((z.toNat:Nat):Int)=z:=iU h0
 simp only[e]at this
 rw[this]; exact e
theorem Eb:∀ {ks:List Int} {i:Nat} {z:Int} (t:List Nat),ks[i]? =some z->((g8 ks++t).drop (9*i)).take 9=b9 z
 | [],i,z,t,h=>by contradiction
 | k::r,0,z,t,h=>by
  obtain rfl:=aU h
  show((b9 k++g8 r++t).drop 0).take 9=b9 k
  rw[jH,aP,List.take_append_of_le_length (by rw[d5]; exact aR _),bN (by rw[d5]; exact aR _)]
 | k::r,i+1,z,t,h=>by
  show((b9 k++g8 r++t).drop (9*(i+1))).take 9=b9 z
  rw[aP,show 9*(i+1)=9+9*i from eK _ 9,←lA,List.drop_append_of_le_length (by rw[d5]; exact aR _),List.drop_of_length_le (l:=b9 k) (by rw[d5]; exact aR _),List.nil_append]
  exact Eb t h
theorem LS{os:List Int}(ho:∀ x∈os,0<=x/\x < 256)(hz:os.length<=240):Lz (x9 os) os:=by
 obtain⟨q,hq,hq2⟩:=Cg os
 have hlen:(x9 os).length=q:=by unfold x9; rw[aQ,dQ,hq]; exact gX _ (by decide)
 have hall:(M6 os).length=9*(os.length+2)+(8 - (9*(os.length+2)) % 8):=(CK os).trans (r8 _).symm
 have hb:=y0 os
 refine⟨by lia,hz,ho,by lia,bi (M6 os),⟨by unfold bi; rw[aQ]; lia,λ b hb'=>?_,λ j hj=>?_⟩,λ i hi=>?_⟩
 ·obtain⟨c,hc,rfl⟩:=dX.mp hb'
  rcases hb c hc with rfl | rfl
  ·exact .inl rfl
  ·exact .inr rfl
 ·rw[hlen]at hj
  have e:(x9 os).getD j 0=((BD (((M6 os).drop (8*j)).take 8):Nat):Int):=by
   unfold x9
   rw[aK,cJ,iP (by lia)]
   rfl
  rw[e,←CX λ c hc=>hb c (fA (eZ hc))]
  unfold Eo bi
  rw[←List.map_drop,←List.map_take,cA]
 ·have hl:([256]++os++[257]:List Int).length=os.length+2:=by simp
  obtain⟨z,hzz⟩:∃ z,([256]++os++[257]:List Int)[i]? =some z:=⟨_,aM (by rw[hl]; exact hi)⟩
  have ec:I6 os=[256]++os++[257]:=by unfold I6; simp
  have hr:0<=z/\z < 512:=by
   have hm:=bT hzz
   simp only[List.mem_append,bE,cZ,or_false]at hm
   rcases hm with (rfl | h) | rfl
   ·decide
   ·have:=ho z h; lia
   ·decide
  have hcut:=Eb (bO (8 - (g8 ([256]++os++[257])).length % 8) 48) hzz
  have hcut:((M6 os).drop (9*i)).take 9=b9 z:=hcut
  rw[ec,aK,hzz]
  unfold Eo bi
  rw[←List.map_drop,←List.map_take,cA,hcut]
  show u6 (bi (b9 z))=z
  rw[CX (JX z),Pg hr.1 hr.2]
end
section
theorem BL{N M:Nat}(f:Nat->Nat)(hf:f N=M)(h1:∀ a,1<=a->1<=f a)(h2:∀ a,a<=N->f a<=M){rs es:List (List Int)}(he:es.map jU=rs.map (λ r=>f r.length))(h:F8 N rs):F8 M es:=by
 induction rs generalizing es with
 | nil=>
  induction es with
  | nil=>exact trivial
  | cons=>exact absurd he (gD _ _)
 | cons r t ih=>
  induction es with
  | nil=>exact absurd he.symm (gD _ _)
  | cons e u _=>
   have hh:=List.cons.inj he
   induction t with
   | nil=>
    induction u with
    | nil=>exact(hh.1▸⟨h1 _ h.1,h2 _ h.2⟩:1<=e.length/\e.length<=M)
    | cons=>exact absurd hh.2 (gD _ _)
   | cons s t _=>
    induction u with
    | nil=>exact absurd hh.2.symm (gD _ _)
    | cons f' g _=>exact⟨hh.1.trans ((congrArg f h.1).trans hf),ih hh.2 h.2⟩
noncomputable def P8(w:Int)(N:Nat)(rs:List (List Int)):List (List Int):=(cX rs.length).map λ i=>x6 w N (H8 rs i) (rs.getD i [])
theorem Q5(w:Int)(N:Nat)(rs:List (List Int)):(P8 w N rs).length=rs.length:=by unfold P8; rw[aQ,dQ]
theorem c8(w:Int)(N:Nat)(rs:List (List Int)){i:Nat}(h:i < rs.length):(P8 w N rs).getD i []=x6 w N (H8 rs i) (rs.getD i []):=by
 unfold P8; rw[aK,cJ,iP h]; rfl
theorem Je{α β:Type}(d:α)(f:α->β):∀ (l:List α),l.map f=(cX l.length).map λ i=>f (l.getD i d)
 | []=>rfl
 | a::l=>by
  rw[bW,List.range_succ_eq_map,cP,cP,gC,Je d f l]
  rfl
theorem EP(w:Int)(N:Nat)(rs:List (List Int)):(P8 w N rs).map jU=rs.map jU:=by
 rw[Je [] jU rs]
 unfold P8
 rw[gC]
 exact List.map_congr_left λ i V=>U0 ..
theorem Jw:∀ (a b:List (List Int)),a.map jU=b.map jU->a.flatten.length=b.flatten.length:=λ a b h=>by rw[lM,lM,h]
theorem Ju{w:Int}{N:Nat}{rs:List (List Int)}(h:¬ w > 9):U5 w N rs rs.length=(P8 w N rs).flatten:=by
 unfold U5 P8 z7
 rw[if_neg h,List.flatMap_def]
 rfl
theorem OE{w:Int}{N:Nat}{rs:List (List Int)}(h:w > 9):U5 w N rs rs.length=(F1 (w % 5) (P8 w N rs)).flatten:=by
 unfold U5 P8 z7 F1
 rw[if_pos h,List.flatMap_def,gC]
 rfl
theorem CW(N:Nat)(j:Nat):((bO N [0]).flatten:List Int).getD j 0=0:=by
 rw[aK]
 cases e:((bO N [0]).flatten:List Int)[j]? with
 | none=>rfl
 | some x=>
  have:=bT e
  simp only[List.mem_flatten,List.mem_replicate]at this
  obtain⟨l,⟨_,rfl⟩,h⟩:=this
  exact aL.mp h
theorem Ae{rs:List (List Int)}(ho:∀ x∈rs.flatten,0<=x/\x < 256)(i j:Nat):0<=(rs.getD i []).getD j 0/\(rs.getD i []).getD j 0 < 256:=by
 rw[aK (l:=rs.getD i [])]
 cases e:(rs.getD i [])[j]? with
 | none=>exact⟨iO _,by decide⟩
 | some x=>
  rw[aK]at e
  cases e2:rs[i]? with
  | none=>rw[e2]at e; contradiction
  | some r=>
   rw[e2]at e
   exact ho x (List.mem_flatten.mpr ⟨r,bT e2,bT e⟩)
theorem Aq{w:Int}{N:Nat}{a r:List Int}{j:Nat}(h:j < r.length):(x6 w N a r).getD j 0=(r.getD j 0 - (Y0 w N a r).getD j 0) % 256:=by
 unfold x6; rw[aK (l:=List.map _ _),cJ,iP h]; rfl
theorem EG{w:Int}{N:Nat}{a r:List Int}{j:Nat}(h1:¬ (w=2∨w=11))(h2:w≠12):(Y0 w N a r).getD j 0=0:=by
 unfold Y0; rw[if_neg h1,if_neg h2]; exact CW _ _
theorem EH{w:Int}{N:Nat}{a r:List Int}(h1:w=2∨w=11):(Y0 w N a r)=0::r:=by
 unfold Y0; rw[if_pos h1]; rfl
theorem Oj{N:Nat}{a r:List Int}{j:Nat}:(Y0 12 N a r).getD j 0=a.getD j 0:=by
 unfold Y0; rw[if_neg (by decide),if_pos rfl]
 rw[aK,aK]
 by_cases h:j < a.length
 ·rw[cD h]
 ·rw[cF (by lia),dG (l:=a) (by lia)]
  have:=CW N (j - a.length)
  rw[aK]at this
  exact this
theorem em{a b:Int}(h:0<=a/\a < 256):((a - b) % 256+b) % 256=a:=by rw[Int.emod_add_emod,Int.sub_add_cancel,dR h.1 h.2]
theorem YJ{a:Int}(h:0<=a/\a < 256):(a - 0) % 256=a:=by rw[Int.sub_zero,dR h.1 h.2]
theorem CZ{w:Int}{N:Nat}{rs:List (List Int)}(hw:w=1∨w=2∨w=10∨w=11∨w=12∨w=15)(hN:0 < N)(hN2:N<=5)(hr:F8 N rs)(ho:∀ x∈rs.flatten,0<=x/\x < 256)(hz:rs.flatten.length<=100):Pk w N (U5 w N rs rs.length) rs.flatten:=by
 have el:=EP w N rs
 have efl:=Jw _ _ el
 have hre:F8 N (P8 w N rs):=BL id rfl (λ V h=>h) (λ V h=>h) el hr
 have hrw:∀ v,F8 (N+1) (F1 v (P8 w N rs)):=λ v=>BL (· +1) rfl (λ V V=>bL (bG _)) (λ V h=>bL h) (by unfold F1; rw[gC]; rfl) hre
 have hwl:∀ v,(F1 v (P8 w N rs)).flatten.length=rs.flatten.length+rs.length:=λ v=>by
  rw[←efl,←Q5 w N rs]
  generalize P8 w N rs=es
  induction es with
  | nil=>rfl
  | cons a r ih=>
   show((v::a)++(F1 v r).flatten).length=_
   rw[aI,ih,dF,aI,bW,bW]; lia
 have hrl:∀ {rs:List (List Int)},F8 N rs->rs.length<=rs.flatten.length:=by
  intro rs
  induction rs with
  | nil=>exact λ V=>aR _
  | cons r t ih=>
   intro h
   induction t with
   | nil=>have h:1<=r.length/\r.length<=N:=h; simp; lia
   | cons s t=>
    have h:r.length=N/\F8 N (s::t):=h
    have:=ih h.2
    rw[dF,aI,bW]; lia
 have hrl:=hrl hr
 have rl:∀ i,i < rs.length->((P8 w N rs).getD i []).length=(rs.getD i []).length:=λ i h=>by rw[c8 w N rs h,U0]
 rcases hw with rfl | rfl | hw
 ·refine .one rfl ?_
  rw[Ju (by decide)]
  congr 1
  refine List.ext_getElem? λ i=>?_
  by_cases h:i < rs.length
  ·have e1:(P8 1 N rs)[i]? =some ((P8 1 N rs).getD i []):=by rw[aK,aM (by rw[Q5]; exact h)]; rfl
   have e2:rs[i]? =some (rs.getD i []):=by rw[aK,aM h]; rfl
   rw[e1,e2,c8 1 N rs h]
   congr 1
   refine List.ext_getElem? λ j=>?_
   by_cases hj:j < (rs.getD i []).length
   ·have e3:(x6 1 N (H8 rs i) (rs.getD i []))[j]? =some ((x6 1 N (H8 rs i) (rs.getD i [])).getD j 0):=by rw[aK (l:=x6 1 N (H8 rs i) (rs.getD i [])),aM (by rw[U0]; exact hj)]; rfl
    have e4:(rs.getD i [])[j]? =some ((rs.getD i []).getD j 0):=by rw[aK (l:=rs.getD i []),aM hj]; rfl
    rw[e3,e4,Aq hj,EG (by decide) (by decide),YJ (Ae ho i j)]
   ·rw[dG (by rw[U0]; lia),dG (by lia)]
  ·rw[dG (by rw[Q5]; lia),dG (by lia)]
 ·refine .tiff (P8 2 N rs) rs N rfl rfl hN (by lia) (by lia) (by lia) hre (Q5 _ _ _).symm (λ i hi=>?_) ho (Ju (by decide)) rfl
  rw[Q5]at hi
  refine⟨(rl i hi).symm,?_,λ j hj=>?_⟩
  ·rw[c8 2 N rs hi]
   by_cases h0:0 < (rs.getD i []).length
   ·rw[Aq h0,EH (.inl rfl)]
    exact(YJ (Ae ho i 0)).symm
   ·have e:rs.getD i []=[]:=List.length_eq_zero_iff.mp (by lia)
    rw[e]; rfl
  ·rw[c8 2 N rs hi,Aq hj,EH (.inl rfl)]
   exact em (b:=(rs.getD i []).getD j 0) (Ae ho i (j+1))
 ·have hq:w > 9/\w<=15/\(w % 5=0∨w % 5=1∨w % 5=2):=by rcases hw with rfl | rfl | rfl | rfl<;>decide
  refine .png (P8 w N rs) rs N (w % 5) hq.1 hq.2.1 rfl hN (by lia) hq.2.2 (by rw[hwl]; lia) (by lia) (hrw _) (Q5 _ _ _).symm (λ i hi=>?_) ho (OE hq.1) rfl
  rw[Q5]at hi
  refine⟨(rl i hi).symm,λ j hj=>?_⟩
  rw[c8 w N rs hi,Aq hj]
  have h1:=Ae ho i j
  rcases hw with rfl | rfl | rfl | rfl
  ·rw[EG (by decide) (by decide)]
   exact em (b:=0) h1
  ·rw[EH (.inr rfl)]
   induction j with
   | zero=>exact em (b:=0) h1
   | succ j=>exact em (b:=(rs.getD i []).getD j 0) h1
  ·rw[Oj]
   exact em (b:=(H8 rs i).getD j 0) h1
  ·rw[EG (by decide) (by decide)]
   exact em (b:=0) h1
end
section
theorem PV{o s:List Int}{x:Int}(h0:0<=x)(h1:x < 85)(hs:s.length < 4):H7 (o,s) (33+x)=some (o,s++[x]):=by
 unfold H7
 rw[if_neg (by lia),if_pos (by lia),if_neg (by show ¬ s.length=4; lia),show 33+x - 33=x by lia]
theorem PW{o s:List Int}{x:Int}(h0:0<=x)(h1:x < 85)(hs:s.length=4)(ht:I1 (J1 (s++[x]))<=4294967295):H7 (o,s) (33+x)=some (o++R7 (s++[x]),[]):=by
 unfold H7
 rw[if_neg (by lia),if_pos (by lia),if_pos (by show s.length=4; exact hs),show 33+x - 33=x by lia,if_pos ht]
theorem u9{o s:List Int}{x:Int}{r:List Int}(h0:0<=x)(h1:x < 85)(hs:s.length < 4):E3 (o,s) ((33+x)::r)=E3 (o,s++[x]) r:=by
 show(H7 (o,s) (33+x)).bind (λ z=>E3 z r)=_
 rw[PV h0 h1 hs]; rfl
theorem WN{o s:List Int}{x:Int}{r:List Int}(h0:0<=x)(h1:x < 85)(hs:s.length=4)(ht:I1 (J1 (s++[x]))<=4294967295):E3 (o,s) ((33+x)::r)=E3 (o++R7 (s++[x]),[]) r:=by
 show(H7 (o,s) (33+x)).bind (λ z=>E3 z r)=_
 rw[PW h0 h1 hs ht]; rfl
noncomputable abbrev dg(n:Int)(e:Int):Int:=n / e % 85
theorem J2(n e:Int):0<=dg n e/\dg n e < 85:=⟨bX _ (by decide),bR _ (by decide)⟩
theorem XF(g:List Int):DK g 0=33+dg (Q2 g) 52200625/\DK g 1=33+dg (Q2 g) 614125/\DK g 2=33+dg (Q2 g) 7225/\DK g 3=33+dg (Q2 g) 85/\DK g 4=33+dg (Q2 g) 1:=⟨rfl,rfl,rfl,rfl,rfl⟩
theorem dv(n:Int):n / 85 / 85=n / 7225/\n / 7225 / 85=n / 614125/\n / 614125 / 85=n / 52200625:=⟨eE (by decide),eE (by decide),eE (by decide)⟩
theorem FZ{x n e e':Int}(h:n / e / 85=n / e')(hx:x=n / e'):85*x+dg n e=n / e:=by
 rw[hx,←h]; exact kW _ 85
section
variable{n:Int}(h0:0<=n)(h1:n < 4294967296)
include h0 h1
theorem D4:85*0+dg n 52200625=n / 52200625:=(cW _).trans (dR (kQ h0 (by decide)) (kX (by decide) (Int.lt_trans h1 (by decide))))
theorem D3:85*(85*0+dg n 52200625)+dg n 614125=n / 614125:=FZ (dv n).2.2 (D4 h0 h1)
theorem D2:85*(85*(85*0+dg n 52200625)+dg n 614125)+dg n 7225=n / 7225:=FZ (dv n).2.1 (D3 h0 h1)
theorem D1:85*(85*(85*(85*0+dg n 52200625)+dg n 614125)+dg n 7225)+dg n 85=n / 85:=FZ (dv n).1 (D2 h0 h1)
theorem D0:85*(85*(85*(85*(85*0+dg n 52200625)+dg n 614125)+dg n 7225)+dg n 85)+dg n 1=n:=(FZ (congrArg (· / 85) (iC n)) (D1 h0 h1)).trans (iC n)
end
theorem YU(x:Int):85*(85*x+84)+84=7225*x+7224:=by lia
theorem YV(x:Int):85*(85*(85*x+84)+84)+84=614125*x+614124:=by lia
theorem tk{n e f m u:Int}(he:0 < e)(hf:f+1=e)(hm:e<=m)(hn:u*m=n):(e*(n / e)+f) / m=u/\e*(n / e)+f < u*m+m:=by
 have a1:=Int.mul_ediv_self_le (x:=n) (jD he)
 have a2:=Int.lt_mul_ediv_self_add (x:=n) he
 generalize e*(n / e)=q at a1 a2 ⊢
 have h:0<=q+f - n/\q+f - n < m:=by lia
 have e1:q+f=q+f - n+u*m:=by lia
 refine⟨?_,by lia⟩
 rw[e1,iD _ _ (jD (Int.lt_of_lt_of_le he hm)),eM h.1 h.2,cW]
theorem Vp(a b c d:Int):((a*256+b)*256+c)*256+d=Q2 [a,b,c,d]:=by
 show _=a*256 ^ 3+(b*256 ^ 2+(c*256 ^ 1+(d*256 ^ 0+0)))
 simp only[Int.reducePow]; lia
theorem Vq(a b c:Int):((a*256+b)*256+c)*256=Q2 [a,b,c]:=by
 show _=a*256 ^ 3+(b*256 ^ 2+(c*256 ^ 1+0))
 simp only[Int.reducePow]; lia
theorem Vs(a b:Int):(a*256+b)*65536=Q2 [a,b]:=by
 show _=a*256 ^ 3+(b*256 ^ 2+0)
 simp only[Int.reducePow]; lia
theorem Vt(a:Int):a*16777216=Q2 [a]:=(Int.add_zero _).symm
theorem q1{q r:Int}(h:0<=r/\r < 256):(q*256+r) / 256=q/\(q*256+r) % 256=r:=by
 rw[gG,iD _ _ (by decide),eM h.1 h.2,cW,Int.add_mul_emod_self_right,dR h.1 h.2]
 exact⟨rfl,rfl⟩
theorem dw(T:Int):T / 65536 / 256=T / 16777216/\T / 256 / 256=T / 65536:=⟨eE (by decide),eE (by decide)⟩
section
variable{T a b c d:Int}(ha:0<=a/\a < 256)(hb:0<=b/\b < 256)(hc:0<=c/\c < 256)(hd:0<=d/\d < 256)
include ha
theorem oA(h:T / 16777216=a):T / 16777216 % 256=a:=by rw[h]; exact dR ha.1 ha.2
include hb
theorem oB(h:T / 65536=a*256+b):T / 16777216 % 256=a/\T / 65536 % 256=b:=
 ⟨oA ha (by rw[←(dw T).1,h]; exact(q1 hb).1),by rw[h]; exact(q1 hb).2⟩
include hc
theorem oC(h:T / 256=(a*256+b)*256+c):T / 16777216 % 256=a/\T / 65536 % 256=b/\T / 256 % 256=c:=
 have e:=oB ha hb (by rw[←(dw T).2,h]; exact(q1 hc).1)
 ⟨e.1,e.2,by rw[h]; exact(q1 hc).2⟩
include hd
theorem oD(h:T=((a*256+b)*256+c)*256+d):GS T=[a,b,c,d]:=by
 have e:=oC (T:=T) ha hb hc (by rw[h]; exact(q1 hd).1)
 unfold GS
 rw[e.1,e.2.1,e.2.2,h,(q1 hd).2]
end
theorem Ie{a b c d:Int}(ha:0<=a/\a < 256)(hb:0<=b/\b < 256)(hc:0<=c/\c < 256)(hd:0<=d/\d < 256)(o r:List Int):E3 (o,[]) (T7 [a,b,c,d]++r)=E3 (o++[a,b,c,d],[]) r:=by
 unfold T7
 by_cases h:[a,b,c,d]=[0,0,0,0]
 ·rw[if_pos h,h]
  show(H7 (o,[]) 122).bind (λ z=>E3 z r)=_
  unfold H7
  rw[if_pos rfl,if_pos rfl]; rfl
 ·rw[if_neg h]
  show E3 (o,[]) ((33+dg (Q2 [a,b,c,d]) 52200625)::(33+dg (Q2 [a,b,c,d]) 614125)::(33+dg (Q2 [a,b,c,d]) 7225)::(33+dg (Q2 [a,b,c,d]) 85)::(33+dg (Q2 [a,b,c,d]) 1)::r)=_
  have hn:=Vp a b c d
  generalize Q2 [a,b,c,d]=n at hn
  have h0:0<=n:=by lia
  have h1:n < 4294967296:=by lia
  rw[u9 (J2 _ _).1 (J2 _ _).2 (aB rfl),u9 (J2 _ _).1 (J2 _ _).2 (aB rfl),u9 (J2 _ _).1 (J2 _ _).2 (aB rfl),u9 (J2 _ _).1 (J2 _ _).2 (aB rfl)]
  have hT:I1 (J1 (([]++[dg n 52200625]++[dg n 614125]++[dg n 7225]++[dg n 85])++[dg n 1]))=n:=D0 h0 h1
  rw[WN (J2 _ _).1 (J2 _ _).2 rfl (by rw[hT]; exact lH h1)]
  unfold R7
  rw[hT,oD ha hb hc hd hn.symm]
  rfl
theorem Qj{a b c:Int}(ha:0<=a/\a < 256)(hb:0<=b/\b < 256)(hc:0<=c/\c < 256)(o:List Int):∃ sg,E3 (o,[]) (T7 [a,b,c])=some (o,sg)/\2<=sg.length/\I1 (J1 sg)<=4294967295/\R7 sg=[a,b,c]:=by
 have e:T7 [a,b,c]=[33+dg (Q2 [a,b,c]) 52200625,33+dg (Q2 [a,b,c]) 614125,33+dg (Q2 [a,b,c]) 7225,33+dg (Q2 [a,b,c]) 85]:=if_neg nofun
 rw[e]
 have hn:=Vq a b c
 generalize Q2 [a,b,c]=n at hn
 have t:=tk (e:=85) (f:=84) (by decide) rfl (by decide) hn
 have hT:I1 (J1 ([]++[dg n 52200625]++[dg n 614125]++[dg n 7225]++[dg n 85]))=85*(n / 85)+84:=congrArg (85* · +84) (D1 (by lia) (by lia))
 rw[u9 (J2 _ _).1 (J2 _ _).2 (aB rfl),u9 (J2 _ _).1 (J2 _ _).2 (aB rfl),u9 (J2 _ _).1 (J2 _ _).2 (aB rfl),u9 (J2 _ _).1 (J2 _ _).2 (aB rfl)]
 refine⟨_,rfl,aB rfl,by rw[hT]; lia,?_⟩
 unfold R7
 rw[hT]
 have o3:=oC ha hb hc t.1
 show [_,_,_]=_
 rw[o3.1,o3.2.1,o3.2.2]
theorem Qk{a b:Int}(ha:0<=a/\a < 256)(hb:0<=b/\b < 256)(o:List Int):∃ sg,E3 (o,[]) (T7 [a,b])=some (o,sg)/\2<=sg.length/\I1 (J1 sg)<=4294967295/\R7 sg=[a,b]:=by
 have e:T7 [a,b]=[33+dg (Q2 [a,b]) 52200625,33+dg (Q2 [a,b]) 614125,33+dg (Q2 [a,b]) 7225]:=if_neg nofun
 rw[e]
 have hn:=Vs a b
 generalize Q2 [a,b]=n at hn
 have t:=tk (e:=7225) (f:=7224) (by decide) rfl (by decide) hn
 have hT:I1 (J1 ([]++[dg n 52200625]++[dg n 614125]++[dg n 7225]))=7225*(n / 7225)+7224:=(congrArg (λ x=>85*(85*x+84)+84) (D2 (by lia) (by lia))).trans (YU _)
 rw[u9 (J2 _ _).1 (J2 _ _).2 (aB rfl),u9 (J2 _ _).1 (J2 _ _).2 (aB rfl),u9 (J2 _ _).1 (J2 _ _).2 (aB rfl)]
 refine⟨_,rfl,aB rfl,by rw[hT]; lia,?_⟩
 unfold R7
 rw[hT]
 have o2:=oB ha hb t.1
 show [_,_]=_
 rw[o2.1,o2.2]
theorem Ql{a:Int}(ha:0<=a/\a < 256)(o:List Int):∃ sg,E3 (o,[]) (T7 [a])=some (o,sg)/\2<=sg.length/\I1 (J1 sg)<=4294967295/\R7 sg=[a]:=by
 have e:T7 [a]=[33+dg (Q2 [a]) 52200625,33+dg (Q2 [a]) 614125]:=if_neg nofun
 rw[e]
 have hn:=Vt a
 generalize Q2 [a]=n at hn
 have t:=tk (e:=614125) (f:=614124) (by decide) rfl (by decide) hn
 have hT:I1 (J1 ([]++[dg n 52200625]++[dg n 614125]))=614125*(n / 614125)+614124:=(congrArg (λ x=>85*(85*(85*x+84)+84)+84) (D3 (by lia) (by lia))).trans (YV _)
 rw[u9 (J2 _ _).1 (J2 _ _).2 (aB rfl),u9 (J2 _ _).1 (J2 _ _).2 (aB rfl)]
 refine⟨_,rfl,aB rfl,by rw[hT]; lia,?_⟩
 unfold R7
 rw[hT]
 show [_]=_
 rw[oA ha t.1]
theorem f8(os:List Int)(n:Nat):R8 os (n+1)=T7 (os.take 4)++R8 (os.drop 4) n:=by
 unfold R8
 rw[List.range_succ_eq_map,fB,List.flatMap_map]
 congr 1
 refine congrArg List.flatten (List.map_congr_left λ i V=>?_)
 show T7 ((os.drop (4*(i+1))).take 4)=T7 (((os.drop 4).drop (4*i)).take 4)
 rw[lA]; congr 3; lia
theorem Fp:∀ (n:Nat) (os o:List Int),os.length<=4*n->(∀ x∈os,0<=x/\x < 256)->∃ o' sg,E3 (o,[]) (R8 os ((os.length+3) / 4))=some (o',sg)/\((sg=[]/\o'=o++os)∨(2<=sg.length/\I1 (J1 sg)<=4294967295/\o'++R7 sg=o++os))
 | _,[],o,_,_=>⟨o,[],rfl,.inl ⟨rfl,(bA o).symm⟩⟩
 | _,[a],o,_,ho=>by
  refine M7 λ G41 hG41=>?_; obtain⟨sg,h1,h2,h3,h4⟩:=Ql (ho a (.head _)) o; refine hG41 ?_
  refine⟨o,sg,?_,.inr ⟨h2,h3,by rw[h4]⟩⟩
  rw[show([a].length+3) / 4=0+1 by simp,f8]
  show E3 (o,[]) (T7 [a]++[])=_
  rw[bA]; exact h1
 | _,[a,b],o,_,ho=>by
  refine M7 λ G42 hG42=>?_; obtain⟨sg,h1,h2,h3,h4⟩:=Qk (ho a (.head _)) (ho b (.tail _ (.head _))) o; refine hG42 ?_
  refine⟨o,sg,?_,.inr ⟨h2,h3,by rw[h4]⟩⟩
  rw[show([a,b].length+3) / 4=0+1 by simp,f8]
  show E3 (o,[]) (T7 [a,b]++[])=_
  rw[bA]; exact h1
 | _,[a,b,c],o,_,ho=>by
  refine M7 λ G43 hG43=>?_; obtain⟨sg,h1,h2,h3,h4⟩:=Qj (ho a (.head _)) (ho b (.tail _ (.head _))) (ho c (.tail _ (.tail _ (.head _)))) o; refine hG43 ?_
  refine⟨o,sg,?_,.inr ⟨h2,h3,by rw[h4]⟩⟩
  rw[show([a,b,c].length+3) / 4=0+1 by simp,f8]
  show E3 (o,[]) (T7 [a,b,c]++[])=_
  rw[bA]; exact h1
 | 0,a::b::c::d::r,o,h,_=>by simp at h
 | n+1,a::b::c::d::r,o,h,ho=>by
  have hl:(a::b::c::d::r).length=r.length+4:=rfl
  rw[hl]at h
  refine M7 λ G44 hG44=>?_; obtain⟨o',sg,h1,h2⟩:=Fp n r (o++[a,b,c,d]) (by lia) λ x hx=>ho x (.tail _ (.tail _ (.tail _ (.tail _ hx)))); refine hG44 ?_
  refine⟨o',sg,?_,?_⟩
  ·rw[hl,show(r.length+4+3) / 4=(r.length+3) / 4+1 by lia,f8]
   show E3 (o,[]) (T7 [a,b,c,d]++R8 r ((r.length+3) / 4))=_
   rw[Ie (ho a (.head _)) (ho b (.tail _ (.head _))) (ho c (.tail _ (.tail _ (.head _)))) (ho d (.tail _ (.tail _ (.tail _ (.head _)))))]
   exact h1
  ·have e:o++[a,b,c,d]++r=o++a::b::c::d::r:=by rw[aP]; rfl
   rw[e]at h2; exact h2
theorem WF{os:List Int}(ho:W0 os)(hz:os.length<=1000):Pl (aA "ASCII85Decode") (R8 os ((os.length+3) / 4)++[126,62]) (.bytes os):=by
 refine M7 λ G45 hG45=>?_; obtain⟨o',sg,h1,h2⟩:=Fp os.length os [] (by lia) ho; refine hG45 ?_
 have hl:=f7 os ((os.length+3) / 4)
 refine .b85 _ o' sg os (by lia) h1 ?_ ho
 rcases h2 with ⟨a,b⟩ | ⟨a,b,c⟩
 ·exact .inl ⟨a,b⟩
 ·exact .inr ⟨a,b,c⟩
end
section
theorem JH{N:Nat}(hN:0 < N):∀ (n:Nat) (os:List Int),os.length<=n->∃ rs,F8 N rs/\rs.flatten=os:=by
 intro n
 induction n with
 | zero=>
  intro os h
  exact⟨[],trivial,by cases os with | nil=>rfl | cons _ _=>contradiction⟩
 | succ n ih=>
  intro os h
  by_cases h0:os=[]
  ·exact⟨[],trivial,by rw[h0]; rfl⟩
  have hp:0 < os.length:=List.length_pos_iff.mpr h0
  by_cases h1:os.length<=N
  ·exact⟨[os],⟨hp,h1⟩,by simp⟩
  obtain⟨rs,hr,e⟩:=ih (os.drop N) (by rw[eN]; exact Nat.sub_le_of_le_add (aS h (gK hN n)))
  induction rs with
  | nil=>
   exact absurd (List.drop_eq_nil_iff.mp e.symm) h1
  | cons s t=>exact⟨os.take N::s::t,⟨by rw[bK]; exact dH (Nat.le_of_not_le h1),hr⟩,by rw[dF,e,iI]⟩
end
section
inductive y4:List (Str×AV)->Prop
 | nil:y4 []
 | mk (w:Int) (N:Nat):(w=2∨w=10∨w=11∨w=12∨w=15)->0 < N->N<=5->y4 [(aA "Predictor",.int w),(aA "Columns",.int N)]
theorem y4.pm{b:List (Str×AV)}(x:y4 b):∃ w:Int,∃ N:Nat,Pm b w N/\(w=1∨w=2∨w=10∨w=11∨w=12∨w=15)/\0 < N/\N<=5/\(b=[]->w=1/\N=1):=by
 cases x with
 | nil=>exact⟨1,1,⟨rfl,rfl,rfl,rfl,rfl,iO _,iO _⟩,.inl rfl,lD,aB rfl,λ V=>⟨rfl,rfl⟩⟩
 | mk w N h1 h2 h3=>exact⟨w,N,⟨rfl,rfl,rfl,rfl,rfl,by lia,by lia⟩,.inr h1,h2,h3,λ e=>by cases e⟩
theorem y4.rwb{b:List (Str×AV)}(x:y4 b):XQ b:=by
 cases x with
 | nil=>exact⟨.nil,bG _,λ V h=>nomatch h⟩
 | mk w N h1 h2 h3=>exact⟨by show [aA "Predictor",aA "Columns"].Nodup; decide+kernel,aR _,λ p hp=>by
   rcases bE.mp hp with e | hp
   ·exact⟨_,by rw[e]⟩
   ·exact⟨_,by rw[aL.mp hp]⟩⟩
theorem Mb{os:List Int}(ho:W0 os):W0 ((P1 os).map J9++[62]):=by
 intro x hx
 rcases cM.mp hx with hx | hx
 ·obtain⟨q,hq,rfl⟩:=dX.mp hx
  have:=CD ho q hq
  unfold J9; split<;>lia
 ·rw[aL.mp hx]; decide
theorem Hf{os:List Int}:W0 (R8 os ((os.length+3) / 4)++[126,62]):=by
 intro x hx
 rcases cM.mp hx with hx | hx
 ·exact BY _ _ x hx
 ·rcases bE.mp hx with e | hx
  ·rw[e]; decide
  ·rw[aL.mp hx]; decide
theorem BM{N:Nat}(hN:0 < N):∀ {rs:List (List Int)},F8 N rs->rs.length<=rs.flatten.length
 | [],_=>aR _
 | [r],h=>by have h:1<=r.length/\r.length<=N:=h; simp; lia
 | r::s::t,h=>by
  have h:r.length=N/\F8 N (s::t):=h
  have:=BM hN h.2
  rw[dF,aI,bW]; lia
theorem DF{w:Int}{N:Nat}{rs:List (List Int)}:∀ n,(U5 w N rs n).length<=n+((rs.take n).flatten).length
 | 0=>bG _
 | n+1=>by
  have ih:=DF (w:=w) (N:=N) (rs:=rs) n
  have hp:=AG w
  rw[Y1,aI,aI,U0,aV,iQ,aI]
  have:(rs.getD n []).length<=(rs[n]?.toList.flatten).length:=by
   rw[aK]
   cases rs[n]? with
   | none=>exact bG _
   | some r=>simp
  lia
theorem DE{w:Int}{N:Nat}{rs:List (List Int)}(hN:0 < N)(hr:F8 N rs):(U5 w N rs rs.length).length<=2*rs.flatten.length:=by
 have h1:=DF (w:=w) (N:=N) (rs:=rs) rs.length
 have h2:=BM hN hr
 rw[bD]at h1
 lia
theorem j8{N:Nat}{rs:List (List Int)}:∀ n,(U5 1 N rs n).length<=((rs.take n).flatten).length
 | 0=>bG _
 | n+1=>by
  have ih:=j8 (N:=N) (rs:=rs) n
  have hp:(z7 1).length=0:=rfl
  rw[Y1,aI,aI,U0,aV,iQ,aI]
  have:(rs.getD n []).length<=(rs[n]?.toList.flatten).length:=by
   rw[aK]
   cases rs[n]? with
   | none=>exact bG _
   | some r=>simp
  lia
theorem Mp(os:List Int):(x9 os).length<=9*(os.length+2) / 8+1:=by
 unfold x9
 rw[aQ,dQ,CK,gX _ (by decide)]
 exact aR _
theorem OD(os:List Int):(FS os).length=os.length+11:=Ao os
section
variable{c:Cx}{m:Lm}{led rest:La}{k:AV->La->Prop}
theorem NX{n:Int}{b:List (Str×AV)}{os:List Int}{P:aJ}(H:Ok c 3)(hP:(P,AO.sd b)∈led)(h0:0<=n)(h5:n < 5)(hb:y4 b)(ho:W0 os)(hz:os.length<=100)(h:∀ r,Un b (i7 n) r os->W0 r->(b=[]->r.length<=2*os.length+1∨r.length<=os.length+20)->r.length<=9*(2*os.length+2) / 8+12->k (.bytes r) led):C9 c (.ref 812) [.int n,.bytes os,.ref P] m led k:=by
 have hn:n=0∨n=1∨n=2∨n=3∨n=4:=by lia
 rcases hn with rfl | rfl | rfl | rfl | rfl
 ·refine LG H ho (by lia) λ r e=>?_
  subst e
  have hl:((P1 os).map J9++[62]).length=2*os.length+1:=by rw[aI,aQ,V4]; rfl
  exact h _ (.plain (.hex os (by lia) ho)) (Mb ho) (λ V=> .inl (by lia)) (Wm (by lia))
 ·refine LF H ho (by lia) λ r e=>?_
  subst e
  have hl:=f7 os ((os.length+3) / 4)
  have hl:(R8 os ((os.length+3) / 4)++[126,62]).length<=5*((os.length+3) / 4)+2:=by rw[aI]; exact dM hl 2
  exact h _ (.plain (WF ho (by lia))) Hf (λ V=>by lia) (Wm (by lia))
 ·refine LD H ho (by lia) λ r e=>?_
  subst e
  have hl:=R3 os
  exact h _ (.plain (.run os (by lia) ho)) (Df ho) (λ V=> .inl (by lia)) (Wm (by lia))
 ·refine M7 λ G46 hG46=>?_; obtain⟨w,N,hp,hw,hN,hN2,he⟩:=hb.pm; refine hG46 ?_
  obtain⟨rs,hr,rfl⟩:=JH hN _ os (aR _)
  refine LC H hP hp.p hp.q ho hr hN hN2 hz (by lia) λ r e=>?_
  subst e
  have h2:=DE (w:=w) hN hr
  have hl:=OD (U5 w N rs rs.length)
  refine h _ (.flate hp (by lia) (CZ hw hN hN2 hr ho hz)) (FR (r9 (by lia) N rs _) (by lia)) (λ e=> .inr ?_) (Wm (by lia))
  obtain⟨rfl,rfl⟩:=he e
  have h3:=j8 (N:=1) (rs:=rs) rs.length
  rw[bD]at h3
  lia
 ·refine M7 λ G47 hG47=>?_; obtain⟨w,N,hp,hw,hN,hN2,he⟩:=hb.pm; refine hG47 ?_
  obtain⟨rs,hr,rfl⟩:=JH hN _ os (aR _)
  refine LB H hP hp.p hp.q ho hr hN hN2 hz (by lia) λ r e=>?_
  subst e
  have h2:=DE (w:=w) hN hr
  have hl:=Mp (U5 w N rs rs.length)
  refine h _ (.lzw hp (LS (r9 (by lia) N rs _) (by lia)) (CZ hw hN hN2 hr ho hz)) (DR _) (λ e=>?_) (by lia)
  obtain⟨rfl,rfl⟩:=he e
  have h3:=j8 (N:=1) (rs:=rs) rs.length
  rw[bD]at h3
  lia
end
end
section
open Builtin Builtin.ObjectAttr
noncomputable abbrev s4(t:aJ)(dd:Option aJ):Obj:={cls:= .ref 67,dict:=dd,data:= .fields #[.ref t,.none,.none,.none,.bool false,.none]}
theorem Ft{name:Str}{hs:Int}{k v:aF}:∀ {ds:List dO},(putL name hs k v ds).length<=ds.length+1
 | []=>aR _
 | e::r=>by
  show(if e.key.isStr name then⟨e.hash,e.key,v⟩::r else e::putL name hs k v r).length<=_
  split
  ·exact fE _
  ·exact bL Ft
section
variable{prog:bY}{w:bP}{A:bS}{E:aF->aH->Prop}{s:aH}{K:Frag}{x C:aJ}{ox:Obj}{od:Option Obj}
set_option tactic.hygienic true in
theorem a7{D:aJ}{ds:List dO}{n:Nat}{name:Str}{tk:Tok}{v:aF}{Q:Fin->aH->Prop}(hD:s.heap.get? D=some (dictOf ds n))(hl:(getL name ds).isSome=true)(hz:ds.length<=900)
  (q:Q (.done (.ret .none)) {s with heap:=s.heap.update D (lB name (cH w.params name) (.str name s.toks) v),toks:=s.toks+1}):wpAny (model prog w) A (storeInDict D (.str name tk) name v) Q E s:=by
 refine aD (aO (aD ?_))
 refine aD (aD (wpAny_askSetting (aO (aD (wpAny_mkText (aD (wpAny_loadPart hD ?_)))))))
 have hl:(lookIn name (dictOf ds n)).isSome=true:=hl
 unfold lookIn at hl
 dsimp only at hl ⊢
 have c:(!ds.toArray.any (·.key.isStr name) && ds.toArray.any (·.refKey))=false:=by
  rw[←Array.any_toList,←Array.any_toList]
  split at hl
  ·rename_i en he
   rw[List.any_eq_true.mpr ⟨en,List.mem_of_find?_eq_some he,List.find?_some he⟩]; rfl
  ·split at hl
   ·contradiction
   ·rename_i z; rw[Bool.not_eq_true]at z; rw[z,hV]
 rw[aRefKeyMayBeTheName_at,c]
 refine wpAny_updatePart hD ?_
 have hu:(s.heap.update D (lB name (cH w.params name) (.str name s.toks) v)).get? D=some (dictOf (putL name (cH w.params name) (.str name s.toks) v ds) (putN name ds n)):=by
  have:=bU (lB name (cH w.params name) (.str name s.toks) v) hD (by rw[jR]; rfl)
  rw[jR]at this; exact this
 refine aD (wpAny_lookBehind hu (pastItsLine_dict (by rw[aX,dT]; have:=Ft (name:=name) (hs:=cH w.params name) (k:= .str name s.toks) (v:=v) (ds:=ds); lia)) ?_)
 exact aO q
theorem Ip(self:aF):refuseLoop self "__setattr__" [.ref 67,.ref 54,.type "Exception",.type "BaseException",.type "object"]=pure ():=by
 rw[refuseLoop_ref,refuseLoop_ref]; exact PySem.F.store_Exception.passes self
theorem BI{P:dB}{name:Str}{v:aF}{Q:Unit->aH->Prop}(X:(KF P).In s.heap)(I:InstAt s.heap x ox 67 od)(hn:findIn (KF P) (.ref 67) name=some none)
  (h:∀ A' tk,wpAny (model prog w) A' (ownDictForStores (.ref x) >>=λ r=>match r with | some d=>storeInDict d (.str name tk) name v | none=>noDictFor (.ref x) (.ref 67) name false)
   (λ fin s'=>∃ v',fin= .done (.ret v')/\Q () s') E {s with toks:=s.toks+1}):
  wpAny (model prog w) A (setAttr (.ref x) name v) Q E s:=by
 have hs:findIn (KF P) (.ref 67) "__setattr__"=some (some (.builtin "object.__setattr__")):=by k_is
 have hc:clsIn (KF P) 67=some {name:="FilterFault",bases:=[.ref 54],mro:=[.ref 67,.ref 54,.type "Exception",.type "BaseException",.type "object"],ns:=66,qualname:="FilterFault",hasDict:=true,slotNames:=[],subclasses:=[],abstract:=false,collection:=none,hasDel:=false}:=by k_is
 refine set_plain X I hs ?_
 have SF:=PySem.F.store_object
 have Gn:kR (model prog w) s.heap (isInstance (.ref x) (.type "object")) true:=I.type.andThen (looks_mroIn X (by k_is))
 refine iV SF.slot.plain SF.entry (@check_slot (model prog w) _ _ {s with toks:=s.toks+1} "object.__setattr__" "object" "__setattr__" (.ref x) [.str name s.toks,v] [] _ SF.kind SF.split Gn (SF.args (.ref x) (.str name s.toks) v) ?_)
 have hm:kR (model prog w) s.heap (mroOf (.ref 67)) [.ref 67,.ref 54,.type "Exception",.type "BaseException",.type "object"]:=(looks_clsIn X hc).andThen .now
 rw[osa_eq,refuse_eq]
 refine aD (aD (I.type.here (s:={s with toks:=s.toks+1}) (aD (hm.here (s:={s with toks:=s.toks+1}) ?_))))
 rw[Ip]
 refine aO (aD (I.type.here (s:={s with toks:=s.toks+1}) (aD ((looks_findIn X hn).here (s:={s with toks:=s.toks+1}) (aD (aO ?_))))))
 refine aD (aO ?_)
 refine fM (h _ s.toks) (λ fin s' ⟨v',e,q⟩=>?_) λ V V y=>y
 subst e; exact q
noncomputable def XG:ClassData:={name:="FilterFault",bases:=[.ref 54],mro:=[.ref 67,.ref 54,.type "Exception",.type "BaseException",.type "object"],ns:=66,qualname:="FilterFault",hasDict:=true,slotNames:=[],subclasses:=[],abstract:=false,collection:=none,hasDel:=false}
theorem MY{P:dB}:clsIn (KF P) 67=some XG:=by k_is
end
section
variable{c:Cx}{m:Lm}{led rest:La}{d:Nat}{x t D:aJ}{name:Str}{a:AV}{k:La->Prop}
theorem Iw(H:Ok c d)(hp:C1 (x,.raw (s4 t none)) led rest)(hn:findIn (KF c.w.params) (.ref 67) name=some none)(h:∀ D,k ((D,.dict [(name,a)])::(x,.raw (s4 t (some D)))::rest)):MJ c (λ vs=>setAttr (vs.getD 0 .none) name (vs.getD 1 .none)) [.ref x,a] m led k:=λ vs hv hh tk r=>A4<|by
 obtain⟨_,v,rfl,rfl,ha⟩:=U3 hv
 obtain⟨o,ho,hg⟩:=r.get hp.mem.1
 have ho:o=s4 t none:=ho
 subst ho
 have X:(KF c.w.params).In (c.at hh tk).heap:=λ b o e=>r.base (H.X b o e)
 have I:InstAt (c.at hh tk).heap x (s4 t none) 67 none:=⟨hg,rfl,rfl,trivial⟩
 refine BI (s:=c.at hh tk) X I hn λ A' tk'=>?_
 have u5:x≠hh.objs.size:=bQ (bM hg)
 have hx₁:(hh.push emptyDict).get? x=some (s4 t none):=aN _ hg
 refine aD (aD (wpAny_loadPart (s:={c.at hh tk with toks:=tk+1}) hg (aD ((looks_clsIn X MY).here (s:={c.at hh tk with toks:=tk+1}) ?_))))
 show wpAny _ _ (alloc emptyDict >>=_) _ _ _
 refine aD (wpAny_alloc (aD (wpAny_update hx₁ (aO ?_))))
 have hx₂:=bU (λ o:Obj=>{o with dict:=some hh.objs.size}) hx₁ rfl
 have hD2:((hh.push emptyDict).update x λ o=>{o with dict:=some hh.objs.size}).get? hh.objs.size=some (dictOf [] 0):=(Heap.get?_update_ne _ _ _ _ u5.symm).trans (Heap.get?_push_at rfl rfl)
 have r1:B6 c m ((hh.objs.size,.dict [])::led) (hh.push emptyDict):=r.push ⟨[],0,rfl,trivial⟩
 have r2:B6 c m ((x,.raw (s4 t (some hh.objs.size)))::(hh.objs.size,.dict [])::rest) ((hh.push emptyDict).update x λ o=>{o with dict:=some hh.objs.size}):=r1.set (ao':= .raw (s4 t (some hh.objs.size))) (.tail hp) (.update ..) hx₂ rfl
 refine a7 (s:={c.at hh (tk+1)with heap:=(hh.push emptyDict).update x λ o=>{o with dict:=some hh.objs.size}}) hD2 rfl (bG _) ?_
 refine⟨_,rfl,_,tk+2,_,rfl,r2.set (ao':= .dict [(name,a)]) (.tail (.head _)) (.update ..) (o':=dictOf (putL name (cH c.w.params name) (.str name (tk+1)) v []) 1) ?_ ⟨_,_,rfl,⟨_,_,rfl,ha⟩,trivial⟩,h _⟩
 have:=bU (lB name (cH c.w.params name) (.str name (tk+1)) v) hD2 (by rw[jR]; rfl)
 rw[jR]at this; exact this
theorem Iv{es:List (Str×AV)}(H:Ok c d)(hx:(x,AO.raw (s4 t (some D)))∈led)(hp:C1 (D,.dict es) led rest)(hz:es.length<=900)(hn:findIn (KF c.w.params) (.ref 67) name=some none)(h:k ((D,.dict (G3 name a es))::rest)):MJ c (λ vs=>setAttr (vs.getD 0 .none) name (vs.getD 1 .none)) [.ref x,a] m led k:=λ vs hv hh tk r=>A4<|by
 obtain⟨_,v,rfl,rfl,ha⟩:=U3 hv
 obtain⟨o,ho,hg⟩:=r.get hx
 have ho:o=s4 t (some D):=ho
 subst ho
 obtain⟨oD,⟨ds,n,rfl,hds⟩,hD⟩:=r.get hp.mem.1
 have X:(KF c.w.params).In (c.at hh tk).heap:=λ b o e=>r.base (H.X b o e)
 have I:InstAt (c.at hh tk).heap x (s4 t (some D)) 67 (some (dictOf ds n)):=⟨hg,rfl,rfl,hD⟩
 refine BI (s:=c.at hh tk) X I hn λ A' tk'=>?_
 refine aD (aD (wpAny_loadPart (s:={c.at hh tk with toks:=tk+1}) hg (aD ((looks_clsIn X MY).here (s:={c.at hh tk with toks:=tk+1}) ?_))))
 refine aO (a:=some D) ?_
 have hl:=hds.len
 have hsome:(getL name ds).isSome=true:=by
  have:=hds.get (x:=name)
  cases e:lk name es with
  | none=>rw[e]at this; rw[this]; rfl
  | some a=>rw[e]at this; obtain⟨_,e2,_⟩:=this; rw[e2]; rfl
 refine a7 (s:={c.at hh tk with toks:=tk+1}) hD hsome (by lia) ?_
 refine⟨_,rfl,_,tk+2,_,rfl,r.set (ao':= .dict (G3 name a es)) hp (.update ..) (o':=dictOf (putL name (cH c.w.params name) (.str name (tk+1)) v ds) (putN name ds n)) ?_ ⟨_,_,rfl,hds.put ha⟩,h⟩
 have:=bU (lB name (cH c.w.params name) (.str name (tk+1)) v) hD (by rw[jR]; rfl)
 rw[jR]at this; exact this
end
end
section
open Builtin
section
variable{c:Cx}{m:Lm}{led rest:La}{d:Nat}{x t:aJ}{a:AV}
theorem PS:typeOf (.type "Exception")=pure (.type "type"):=by kernel_rfl
theorem Ix{k:AV->List AV->La->Prop}(H:Ok c d)(h:k (.fn (.builtin "Exception.__init__")) [] led):Hw c (aA "__init__") (.fn (.type "Exception")) m led k:=λ u hu pl hh tk r=>A4<|by
 cases hu
 obtain⟨mm,F,_⟩:=r.fr
 exact method_type (v:= .builtin "Exception.__init__") F H.X PS (by decide+kernel) (by k_dflt k_is) rfl ⟨hh,tk+1,led,rfl,r,.fn _,[],rfl,trivial,h⟩
noncomputable abbrev W5:List aF:=[.ref 54,.type "Exception",.type "BaseException",.type "object"]
theorem BV{P:dB}:(KF P).lookup 67=some (excClassObj "FilterFault" "FilterFault" 67 66 [.ref 54] W5 true [] [] false none none (some (.ref 58)) none (some (.str "FilterFault" 252)) (some (.str "FilterFault" 260)) (some (.bool true)) "Exception.__new__"):=by k_is
theorem DT{M:jP}{A:bS}{E:aF->aH->Prop}{Q:Unit->aH->Prop}{P:dB}{h:bF}{g:Array GenState}{dr:Drawn}{tk:Nat}{os:OsState}{oe:Obj}{rest:List aF}(X:(KF P).In h)(he:h.get? x=some oe)(hcls:oe.cls= .ref 67)(q:Q () ⟨h,g,dr,tk,os⟩):
  wpAny M A (checkBuiltinCall "Exception.__init__" ⟨.ref x::rest,[]⟩) Q E ⟨h,g,dr,tk,os⟩:=by
 have F:=PySem.F.excCall_Exception
 have hC:=X _ _ (BV (P:=P))
 have hcB:(gS 67::W5).contains (.type "Exception")=true:=by decide+kernel
 have hshort:=F.noStar
 simp only[checkBuiltinCall,F.initKind,F.initSplit,F.initRow]
 repeat (first | (with_reducible refine gA he ?_; rw[hcls]) | with_reducible refine gA hC ?_ | (with_reducible refine jO hC ?_; rw[hcB]) | wp_step)
 refine wpAny_onRaise ?_
 rw[show ∀ (a b:String) (n:Nat),Bind.check ⟨.positional,"*","Exception",.self,[⟨"args",.varPos,false⟩]⟩ a b n (List.map (λ x=>x.fst) ({pos:=gS x::rest}:Args).kw)=pure ()from
  λ a b n=>check_star_args _ _ _ _ _ _]
 exact aO q
theorem Iy{k:AV->La->Prop}(H:Ok c d)(hp:C1 (x,.raw (s4 t none)) led rest)(h:∀ t',k .none ((x,.raw (s4 t' none))::rest)):C9 c (.fn (.builtin "Exception.__init__")) [.ref x,a] m led k:=
 N9 M5 λ vs hv hh tk r=>A4<|by
  obtain⟨_,v,rfl,rfl,ha⟩:=U3 hv
  refine M7 λ G121 hG121=>?_; obtain⟨o,ho,hg⟩:=r.get hp.mem.1; refine hG121 ?_
  have ho:o=s4 t none:=ho
  subst ho
  have X:(KF c.w.params).In (c.at hh tk).heap:=λ b o e=>r.base (H.X b o e)
  have I:InstAt (c.at hh tk).heap x (s4 t none) 67 none:=⟨hg,rfl,rfl,trivial⟩
  have F:=PySem.F.excCall_Exception
  show wpAny _ _ (call (.builtin "Exception.__init__") [.ref x,v]) _ _ _
  refine wpAny_call (iV F.init.plain F.initEntry (DT X hg rfl ?_))
  refine aD (cS ?_ (by show [v].toArray.size<=sizeLine; rw[dT]; exact aB rfl))
  have hx₁:(hh.push {cls:= .type "tuple",data:= .seq [v].toArray}).get? x=some (s4 t none):=aN _ hg
  refine aD (aD (dA hx₁ rfl rfl (aD (iL hx₁ rfl (by show 0 < 6; decide) (wpAny_letGo ?_)))))
  refine aO ?_
  have r1:B6 c m ((hh.objs.size,.tup [a])::led) (hh.push {cls:= .type "tuple",data:= .seq [v].toArray}):=r.push (ao:= .tup [a]) ⟨[v],rfl,ha,trivial⟩
  have hu:=bU (Obj.mapFields (·.setIfInBounds 0 (.ref hh.objs.size))) hx₁ rfl
  exact E2.ofV (a:= .none) (((r1.set (ao':= .raw (s4 hh.objs.size none)) (.tail hp) (.update ..) hu rfl).sub (.cons (.head _) (.drop .refl)))) rfl (h _)
end
section
variable{prog:bY}{w:bP}{A:bS}{R:eI->aH->Prop}{P:dB}{h:bF}{g:Array GenState}{dr:Drawn}{tk:Nat}{os:OsState}{rest:List aF}
theorem LO(X:(KF P).In h)(hq:R (.ok (.ret (.ref (h.objs.size+1)))) ⟨(h.push {cls:= .type "tuple",data:= .seq rest.toArray}).push (s4 h.objs.size none),g,dr,tk,os⟩)(hrest:rest.length<=sizeLine):
  codeAny (model prog w) A (.builtin "Exception.__new__" ⟨.ref 67::rest,[]⟩) R ⟨h,g,dr,tk,os⟩:=by
 have F:=PySem.F.excBase_Exception
 have hC:=X _ _ (BV (P:=P))
 have hends:=F.ends
 have hcB:(gS 67::W5).contains (.type "Exception")=true:=by decide+kernel
 have hcA:(gS 67::W5).contains (.type "AttributeError")=false:=by decide+kernel
 have hcN:(gS 67::W5).contains (.type "NameError")=false:=by decide+kernel
 refine codeAny_builtinAt F.entry ?_
 refine PySem.wpAt_bind ?_
 show PySem.wpAt _ _ _ (stack >>=_) _ _ _
 refine PySem.wpAt_bind (PySem.wpAt_stack λ p below=>PySem.wpAt_of_wpAny ?_)
 wp_walk
 refine PySem.wpAt_of_wpAny ?_
 rw[F.owner]
 repeat (first | with_reducible refine wpAny_madeHere_exc F.canon hC ?_ | with_reducible refine gA hC ?_ | (with_reducible refine jO hC ?_; first | rw[hcB] | rw[hcA] | rw[hcN]) | wp_step)
 show R _ _
 rw[gZ]
 exact hq
theorem BC{M:jP}{E:aF->aH->Prop}{Q:Unit->aH->Prop}(X:(KF P).In h)(q:Q () ⟨h,g,dr,tk,os⟩):wpAny M A (checkBuiltinCall "Exception.__new__" ⟨.ref 67::rest,[]⟩) Q E ⟨h,g,dr,tk,os⟩:=by
 have F:=PySem.F.excBase_Exception
 have hC:=X _ _ (BV (P:=P))
 have hcont:(gS 67::W5).contains (.type "Exception")=true:=by decide+kernel
 have hstar:=F.noStar
 simp only[checkBuiltinCall,F.newKind,F.newSplit,F.newRow]
 repeat (first | refine gA hC ?_ | (refine jO hC ?_; rw[hcont]) | refine wpAny_staticBase_exc hC ?_ | refine wpAny_madeBy_exc hC ?_ | simp only[bne_self_eq_false,gT,if_false] | wp_step)
 exact q
theorem Xw{P:dB}:typeIn (KF P) (.ref 44)=some (.type "function"):=by k_is
theorem Jf(X:(KF P).In h)(hrest:rest.length<=sizeLine)
  (hq:codeAny (model prog w) (A.under (.builtin "type.__call__" ⟨.ref 67::rest,[]⟩)) (.call (.ref 44) ⟨.ref (h.objs.size+1)::rest,[]⟩) (InitBack (h.objs.size+1) R) ⟨(h.push {cls:= .type "tuple",data:= .seq rest.toArray}).push (s4 h.objs.size none),g,dr,tk,os⟩):
  codeAny (model prog w) A (.call (.ref 67) ⟨rest,[]⟩) R ⟨h,g,dr,tk,os⟩:=by
 have hC:=X _ _ (BV (P:=P))
 have call:kR (model prog w) h (specialOf (.ref 67) "__call__") (some (.builtin "type.__call__")):=looks_specialIn X (by k_is)
 have typ:kR (model prog w) h (isInstance (.ref 67) (.type "type")) true:=looks_instIn X (by k_is)
 have self:kR (model prog w) h (isSubtype (.ref 67) (.ref 67)) true:=looks_mroIn X (by k_is)
 have hi:kR (model prog w) h (typeLookup (.ref 67) "__init__") (some (.ref 44)):=looks_findIn X (by k_is)
 have made:kR (model prog w) h (Bind.madeBy (.ref 67)) (some "Exception.__new__"):=λ A Q E s k q=>by
  obtain⟨hp,g,d,t,os⟩:=s
  exact wpAny_madeBy_exc (k _ _ hC) q
 refine jI ?_
 show wpAny _ _ (callAny (.ref 67) _) _ _ _
 refine nd_load hC ?_
 show wpAny _ _ (callAny.viaDunder (.ref 67) _) _ _ _
 refine aD (call.at ?_)
 dsimp only
 rw[tc_bind]
 refine aD (aO (aD (aO ?_)))
 refine aO (a:=Fin.again (.call (.builtin "type.__call__") ⟨.ref 67::rest,[]⟩)) (kG rfl ?_)
 refine codeAny_call_builtin_at (lQ _ (by decide+kernel)) entry_typeCall (check_slot tc_kind tc_split typ (tc_args _ _ _) ?_)
 have hm:kR (model prog w) h (mroOf (.ref 67)) (.ref 67::W5):=((Looks.ld (part:=none) hC).andThen .now).andThen .now
 have e4:(gS 67::W5).isEmpty=false:=rfl
 repeat (first | simp only[e4,gT,if_false] | with_reducible refine wpAny_call ?_ | lk)
 refine codeAny_call_builtin_code (lQ _ PySem.F.excBase_Exception.quiet) (BC X ?_)
 refine LO X ?_ hrest
 have k:∀ b o,h.get? b=some o->((h.push {cls:= .type "tuple",data:= .seq rest.toArray}).push (s4 h.objs.size none)).get? b=some o:=λ b o e=>aN _ (aN _ e)
 have hx:((h.push {cls:= .type "tuple",data:= .seq rest.toArray}).push (s4 h.objs.size none)).get? (h.objs.size+1)=some (s4 h.objs.size none):=by heap_get
 have t1:kR (model prog w) ((h.push {cls:= .type "tuple",data:= .seq rest.toArray}).push (s4 h.objs.size none)) (typeOf (.ref (h.objs.size+1))) (.ref 67):=(Looks.ld hx).andThen .now
 have s1:=self.keeps k
 have i1:=hi.keeps k
 have b1:=(bind_fn (M:=model prog w) X (.ref (h.objs.size+1)) Xw).keeps k
 repeat (first | with_reducible refine wpAny_call ?_ | lk)
 refine codeAny_mono hq λ r s' z=>?_
 rcases r with e | (v | _ | _ | _)<;>first | exact z | exact z.elim | skip
 obtain⟨rfl,z⟩:=z
 exact aO (aO z)
end
end
section
section
variable{c:Cx}{m:Lm}{led rest:La}{k:AV->La->Prop}{d:Nat}
theorem Lf{as:List AV}(H:Ok c (d+1))(hz:as.length<=100000)(h:∀ c' X t,Ok c' d->c'.w=c.w->Hy c' 44 (.ref X::as) m ((X,.raw (s4 t none))::led) (λ v led'=>v= .none/\k (.ref X) led')):C9 c (.ref 67) as m led k:=by
 refine M7 λ G123 hG123=>?_; obtain⟨p,loose,mean,mg,mb,T⟩:=H.T; refine hG123 ?_
 refine Hy.toC H (by k_is) λ vs hvs h' tk r=>?_
 refine Bn (Jf (h:=h') (P:=c.w.params) (λ b o e=>r.base (H.X b o e)) (by rw[G4 hvs,dT]; lia) ?_)
 let c':Cx:=⟨c.w,c.A.under (.builtin "type.__call__" ⟨.ref 67::vs,[]⟩),c.g,c.env,c.s,λ V V=>False,False⟩
 have r0:B6 c m ((h'.objs.size,.tup as)::led) (h'.push {cls:= .type "tuple",data:= .seq vs.toArray}):=r.push (ao:= .tup as) ⟨vs,rfl,hvs⟩
 have r1:=(r0.push (o:=s4 h'.objs.size none) (ao:= .raw (s4 h'.objs.size none)) rfl).sub (.cons (.head _) (.drop .refl))
 rw[gZ]at r1
 have r':B6 c' m ((h'.objs.size+1,.raw (s4 h'.objs.size none))::led) _:=⟨r1.fr,r1.nw,r1.nd,r1.fk,r1.lc⟩
 refine codeAny_mono (Cf<|h c' (h'.objs.size+1) h'.objs.size ⟨H.X,H.T,H.R.new,H.fk,H.gl,H.bl,.never,H.sm⟩ rfl (.ref (h'.objs.size+1)::vs) ⟨rfl,hvs⟩ _ tk r') λ rr s' x=>?_
 cases rr with
 | error e=>exact x.elim
 | ok f=>
  cases f with
  | ret v=>
   obtain⟨h3,tk3,led3,rfl,r3,a,ha,rfl,hk⟩:=x
   cases ha
   exact⟨rfl,h3,tk3,led3,rfl,⟨r3.fr,r3.nw,r3.nd,r3.fk,r3.lc⟩,.ref _,rfl,hk⟩
  | _=>exact x.elim
end
end
section
section
variable{K:Frag}{fd:FuncData}{scope:cB}{x y z:Str}{a b e:AV}
theorem OX{T:aJ}{oc:aF}{od:Option aJ}{items:Array aF}{n:Nat}{sl:Array (Option aF)}{kk:aF->aF->Option (Array aF)->Sem (List (Str×aF))}{dv:aF}(hT:fd.defaults= .ref T)(hK:K.lookup T=some ⟨oc,od,.seq items n,sl⟩)(h1:∀ v u,bindArgs fd ⟨[v,u],[]⟩=seqItems? fd.defaults >>=kk v u)(h2:∀ v u,kk v u (some items)=pure [(x,v),(y,u),(z,dv)])(hd:Rl e dv):Q0 K fd [a,b] [(z,e),(y,b),(x,a)]:=λ s V hv X=>z4 (C:=λ vs=>∃ binds,iT s fd ⟨vs,[]⟩ binds/\Hp [(z,e),(y,b),(x,a)] binds.reverse) hv λ v u r0 r1=>⟨_,.of_defaults hT (X _ _ hK) rfl (h1 v u) (h2 v u),rfl,hd,rfl,r1,rfl,r0,trivial⟩
end
section
variable{c:Cx}{m:Lm}{led rest:La}{k:AV->La->Prop}
theorem c0{t:Str}(H:Ok c 3)(h:∀ X D u,k (.ref X) ((D,.dict [(aA "what",.str t),(aA "at",.int (-1))])::(X,.raw (s4 u (some D)))::led)):C9 c (.ref 67) [.str t] m led k:=by
 refine' Lf H (aB rfl) (λ c' X t0 O' hw=>?_)
 refine' T9 [("at",.int (-1)),("what",.str t),("self",.ref X)] O' ?ho ?hcd ?hb ?_ (hnm:=?h1) (hcell:=?h2) (hco:=?h3) (hgen:=?h4) (hk:=?h5)
 (case ho=>k_is); (case hcd=>k_is); (case hb=>refine' OX (dv:= .int (-1) 225) rfl ?e1 ?e2 ?e3 ⟨_,rfl⟩; (case e1=>k_is); (case e2=>exact λ V V=>rfl); (case e3=>exact λ V V=>rfl)); (case h1=>kernel_rfl); (case h2=>decide); (case h3=>rfl); (case h4=>rfl); (case h5=>rfl)
 intro c1 O hs hw1 hg
 refine' D8 ?_
 refine' A0 O hs ?_
 refine' Ix O ?_
 refine' Iy O (.head _) (λ t1=>?_)
 refine' B9 ?_
 refine' Iw O (.head _) (by k_is) (λ D=>?_)
 refine' B9 ?_
 refine' Iv O (by tm_at "b") (by tm_at "e") (aB rfl) (by k_is) ?_
 exact I5 .refl ⟨rfl,h _ _ _⟩
end
end
section
inductive Pj(h base:bF)(X D:aJ)(fl:aF):Prop
 | mk {sl:Array (Option aF)} {vs ts:Array aF} {T:aJ} {oT:Obj}:h.get? X=some {cls:= .ref 67,dict:=some D,data:= .fields vs,slots:=sl}->vs[1]? =some (.ref T)->base.get? T=none->T≠X->h.get? T=some oT->oT.data= .fields ts->ts[3]? =some fl->Pj h base X D fl
inductive PB(h base:bF)(X D:aJ)(ok:aF->Prop):Prop
 | no {sl:Array (Option aF)} {vs:Array aF}:h.get? X=some {cls:= .ref 67,dict:=some D,data:= .fields vs,slots:=sl}->vs[1]? =some .none->PB h base X D ok
 | tr {fl:aF}:Pj h base X D fl->ok fl->PB h base X D ok
noncomputable def ZF(h:bF)(frs:List (aJ×Obj)):Prop:=∀ p∈frs,(∀ vs,p.2.data≠ .fields vs)/\∃ sl,h.get? p.1=some {p.2 with slots:=sl}
structure u4(base h:bF)(l:List Env)(frs:List (aJ×Obj))(X:aJ):Prop where
 kb:base.StaysIn h
 xn:base.get? X=none
 fr:h.FunFrames base l
 fs:ZF h frs
section
variable{base h h':bF}{l:List Env}{frs:List (aJ×Obj)}{X:aJ}
theorem u4.next(B:u4 base h l frs X)(k1:∀ b o,base.get? b=some o->h.get? b=some o->h'.get? b=some o)(k2:∀ b o,h.get? b=some o->(∀ vs,o.data≠ .fields vs)->∃ sl,h'.get? b=some {o with slots:=sl}):u4 base h' l frs X:=
 ⟨λ b o e=>k1 b o e (B.kb b o e),B.xn,B.fr.of_keeps λ b o e n=>XC (k2 b o e n) λ V q=>⟨_,q,rfl⟩,λ p hp=>⟨(B.fs p hp).1,(B.fs p hp).2.elim λ V e=>(k2 _ _ e (B.fs p hp).1).elim λ V e'=>⟨_,e'⟩⟩⟩
end
section
variable{M:jP}{A:bS}{E:aF->aH->Prop}{s:aH}{base:bF}{env:Env}{outer l:List Env}{frs:List (aJ×Obj)}{X D L:aJ}
theorem j5{h:bF}{a b:aJ}{f:Obj->Obj}(n:b≠a):(h.update a f).get? b=h.get? b:=kH _ _ (kP n)
theorem HZ{vs:Array aF}{i:Nat}{v:aF}(h:i < vs.size):(vs.setIfInBounds i v)[i]? =some v:=by simp[h]
theorem FM{h:bF}{a:aJ}(q:∀ o,h.get? a≠some o):h.get? a=none:=Option.eq_none_iff_forall_ne_some.mpr q
theorem Ea{vs:Array aF}{i:Nat}{v:aF}(h:vs[i]? =some v):i < vs.size:=(Array.getElem?_eq_some_iff.mp h).1
theorem Im{T:aJ}:(gS T != dN)=true:=by simp
theorem Jy{sl:Array (Option aF)}{vs:Array aF}{head:aF}{hadNext:Bool}{Q:Unit->aH->Prop}(hfr:A.frames=some (env::outer))(hf:env.frame=some L)(B:u4 base s.heap (env::outer) frs X)
  (hx:s.heap.get? X=some {cls:= .ref 67,dict:=some D,data:= .fields vs,slots:=sl}) (hsz:1 < vs.size) (q:∀ h',u4 base h' (env::outer) frs X->Pj h' base X D (rawInt L)->Q () {s with heap:=h'}):
  wpAny M A (do let a←frameOf env; let pl←entryPlaceOf L hadNext; let b←EntryCells.newEntry head a .none (rawInt L) .none pl; setField (.ref X) 1 b) Q E s:=by
 have hXf:X∉(env::outer).filterMap (·.frame):=λ hm=>by
  exact C8 (B.fr.mem hm).2 λ o ho hnf=>hnf vs (aU (hx.symm.trans ho)▸rfl)
 refine aD (wpAny_frameOf_fun hfr B.fr hf λ h₁ hs₁=>?_)
 refine aD (wpAny_entryPlaceOf λ pl hpl=>?_)
 refine aD (cS ?_ (hpl.sizeOk5 _ _ _ _ _))
 have hx₁:h₁.get? X=_:=(hs₁.2.1 X hXf).trans hx
 have kb1:∀ b o,base.get? b=some o->h₁.get? b=some o:=λ b o hb=>(hs₁.2.1 b λ hm=>nn ((B.fr.mem hm).1.symm.trans hb)).trans (B.kb b o hb)
 generalize hO:({cls:= .type "traceback",dict:=none,data:= .fields ([head,.ref L,.none,rawInt L,.none]++(if pl.isEmpty then bO 6 dN else pl)).toArray}:Obj)=oT
 have hT3:∃ ts,oT.data= .fields ts/\ts[3]? =some (rawInt L):=by
  subst hO; exact⟨_,rfl,by simp⟩
 have hTf:oT.isFreed=false:=by subst hO; rfl
 have hx₂:(h₁.push oT).get? X=_:=aN oT hx₁
 have hTX:h₁.objs.size≠X:=gF (bM hx₁)
 refine iL hx₂ rfl hsz (q _ ?_ ?_)
 ·exact B.next (λ b o hb V=>(j5 λ e=>nn (B.xn.symm.trans (e▸hb))).trans (aN _ (kb1 b o hb))) λ b o hb hn=>(hs₁.2.2 b o hb).elim λ sl' e=>⟨sl',(j5 λ e=>hn vs (aU (hx.symm.trans ((congrArg s.heap.get? e).symm.trans hb))▸rfl)).trans (aN _ e)⟩
 ·exact C8 hT3 λ ts ht1 ht3=> .mk (bU _ hx₂ rfl) (HZ hsz) (FM λ o e=>gO _ (bM (kb1 _ o e))) hTX ((j5 hTX).trans (bC _ hTf)) ht1 ht3
theorem u4.upd{T:aJ}{oT:Obj}{ts:Array aF}{f:Obj->Obj}(B:u4 base s.heap l frs X)(hT:s.heap.get? T=some oT)(hd:oT.data= .fields ts)(hb:base.get? T=none):u4 base (s.heap.update T f) l frs X:=
 B.next (λ b o e h=>(j5 λ q=>nn (hb.symm.trans (q▸e))).trans h) λ b o e n=>⟨o.slots,(j5 λ q=>n ts (aU (hT.symm.trans ((congrArg s.heap.get? q).symm.trans e))▸hd)).trans e⟩
theorem Ap{fl:aF}{fr:Option aJ}{Q:Unit->aH->Prop}(B:u4 base s.heap l frs X)(x:Pj s.heap base X D fl)(q:∀ h',u4 base h' l frs X->Pj h' base X D (fr.elim .none λ f=>rawInt f)->Q () {s with heap:=h'}):wpAny M A (setFlight (.ref X) fr) Q E s:=by
 obtain @⟨sl,vs,ts,T,oT,hx,h1,hb,hTX,hT,hd,h3⟩:=x
 refine aD (dA hx rfl h1 ?_)
 rw[if_pos Im]
 exact iL hT hd (Ea h3) (q _ (B.upd hT hd hb) (.mk ((j5 (kP hTX)).trans hx) h1 hb hTX (bU _ hT (Obj.isFreed_of_fields (jK hd _))) (jK hd _) (HZ (Ea h3))))
theorem Jb{Q:Unit->aH->Prop}(hfr:A.frames=some (env::outer))(hf:env.frame=some L)(B:u4 base s.heap (env::outer) frs X)(x:PB s.heap base X D λ v=>v= .none∨v=rawInt L)
  (q:∀ h',u4 base h' (env::outer) frs X->Pj h' base X D (rawInt L)->Q () {s with heap:=h'}):wpAny M A (noteFrame (.ref X) env) Q E s:=by
 unfold noteFrame
 rw[hf]
 rcases x with @⟨sl,vs,hx,h1⟩ | @⟨fl,@⟨sl,vs,ts,T,oT,hx,h1,hb,hTX,hT,hd,h3⟩,ok⟩
 ·exact aD (dA hx rfl h1 (Jy hfr hf B hx (Ea h1) q))
 ·refine aD (dA hx rfl h1 ?_)
  rw[if_pos Im]
  refine aD (dA hT hd h3 ?_)
  rcases ok with rfl | rfl
  ·rw[if_neg (show ¬ ((dN== rawInt L)=true)from by simp[rawInt])]
   exact aD (iL hT hd (Ea h3) (Jy hfr hf (B.upd hT hd hb) ((j5 (kP hTX)).trans hx) (Ea h1) q))
  ·rw[if_pos (beq_self_eq_true (rawInt L))]
   exact aO (q _ B (.mk hx h1 hb hTX hT hd h3))
end
structure YS(w:bP)(g1:bF)(led1:La)(base:bF)(D:aJ):Prop where
 g:∀ b o,g1.get? b=some o->base.get? b=some o
 led:∀ p∈led1,∃ o,L9 w p.2 o/\base.get? p.1=some o
 dict:∃ o es,L9 w (.dict es) o/\base.get? D=some o/\lk (aA "at") es=some (.int (-1))
 dg:g1.get? D=none
inductive BH(w:bP)(s0:aH)(g1:bF)(led1:La)(frs:List (aJ×Obj))(l:List Env):aF->aH->Prop
 | mk {X D:aJ} {h base:bF} {tk:Nat}:u4 base h l frs X->YS w g1 led1 base D->PB h base X D (λ v=>v= .none∨l.head?.elim False λ env=>v=(env.frame.elim .none λ L=>rawInt L))->BH w s0 g1 led1 frs l (.ref X) {s0 with heap:=h,toks:=tk}
section
variable{M:jP}{A:bS}{w:bP}{s0:aH}{g1:bF}{led1:La}{frs:List (aJ×Obj)}{env:Env}{outer:List Env}{L:aJ}
theorem CG{base h:bF}{X D:aJ}(hf:env.frame=some L)(x:PB h base X D λ v=>v= .none∨(env::outer).head?.elim False λ env=>v=(env.frame.elim .none λ L=>rawInt L)):PB h base X D λ v=>v= .none∨v=rawInt L:=
 match x with
 | .no a b=> .no a b
 | .tr a ok=> .tr a (ok.imp id λ q=>q.trans (congrArg (λ z:Option aJ=>z.elim dN λ L=>rawInt L) hf))
theorem j9(hfr:A.frames=some (env::outer))(hf:env.frame=some L):lY M A env (BH w s0 g1 led1 frs (env::outer)):=by
 intro e s' x
 obtain @⟨X,D,h,base,tk,B,K,x⟩:=x
 refine Jb (s:={s0 with heap:=h,toks:=tk}) hfr hf B (CG hf x) λ h' B' x'=>?_
 have x0:=x'
 obtain⟨hx,h1⟩:=x'
 refine aD (dA hx rfl h1 ?_)
 exact Ap (s:={s0 with heap:=h',toks:=tk}) B' x0 λ h'' B'' x''=> .mk B'' K (.tr x'' (.inr rfl))
theorem AZ{R:eI->aH->Prop}{e:aF}{s':aH}(hfr:(A.deeper env).frames=some (env::outer))(hf:env.frame=some L)(x:BH w s0 g1 led1 frs (env::outer) e s')(q:∀ e s',BH w s0 g1 led1 frs outer e s'->R (.error e) s'):Lv M A env R e s':=by
 obtain @⟨X,D,h,base,tk,B,K,x⟩:=x
 exact aD (Jb (s:={s0 with heap:=h,toks:=tk}) hfr hf B (CG hf x) λ h' B' x'=>Ap (s:={s0 with heap:=h',toks:=tk}) B' x' λ h'' B'' x''=>q _ _ (.mk ⟨B''.kb,B''.xn,B''.fr.2.2,B''.fs⟩ K (.tr x'' (.inl rfl))))
end
end
section
structure Rz(c:Cx)(led:La)(g1:bF)(led1:La)(frs:List (aJ×Obj))(outer:List Env):Prop where
 fr:c.A.frames=some (c.env::outer)
 own:c.env.frame=some c.env.locals
 out:∀ env∈outer,env.scope.kind≠ .module/\∃ L o,env.frame=some L/\(L,AO.raw o)∈led/\∀ vs,o.data≠ .fields vs
 kg:∀ b o,g1.get? b=some o->c.g.get? b=some o
 kl:∀ p∈led1,p∈led/\∀ env∈outer,env.frame≠some p.1
 kf:∀ p∈frs,(p.1,AO.raw p.2)∈led/\∀ vs,p.2.data≠ .fields vs
 hE:c.E=BH c.w c.s g1 led1 frs (c.env::outer)
section
variable{c:Cx}{m:Lm}{led led0:La}{d:Nat}{g1:bF}{led1:La}{frs:List (aJ×Obj)}{outer:List Env}
theorem B6.loc{h:bF}(r:B6 c m led h):∃ oL,h.get? c.env.locals=some oL/\(∀ vs,oL.data≠ .fields vs)/\c.g.get? c.env.locals=none/\c.env.locals∉led.map (·.1):=
 r.frE λ F V=>R9 (Ns.ex F.ns) λ oL hL hd V=>⟨oL,hL,hd,r.gl,r.nl⟩
theorem Rz.ns(Z:Rz c led g1 led1 frs outer){X b:aJ}(h1:b≠X)(h2:b≠c.env.locals)(h3:∀ env∈outer,env.frame≠some b):b∉X::(c.env::outer).filterMap (·.frame):=λ q=>
 BW q h1 λ q=>C8 (List.mem_filterMap.mp q) λ V he hf=>BW he (λ e=>h2 (aU (hf.symm.trans ((congrArg Env.frame e).trans Z.own)))) λ he=>h3 _ he hf
theorem Rz.fm(Z:Rz c led g1 led1 frs outer){b:aJ}(h:b∉led.map (·.1)):∀ env∈outer,env.frame≠some b:=λ env he e=>
 w9 (Z.out env he).2 λ L V h1 h2 V=>h ((aU (e.symm.trans h1))▸aY (f:=(·.1)) h2)
theorem Rz.funs{S:List aJ}{h:bF}(Z:Rz c led g1 led1 frs outer)(hl:∀ {b o},(b,AO.raw o)∈led->h.get? b=some o)(hS:∀ env∈outer,∀ L,env.frame=some L->L∈S):∀ l:List Env,(∀ env∈l,env∈outer)->h.FunFrames (hideAll h S) l:=λ l=>by
 induction l with
 | nil=>exact λ V=>trivial
 | cons env l ih=>exact λ q=>⟨(Z.out env (q _ (.head _))).1,w9 (Z.out env (q _ (.head _))).2 λ L o h1 h2 h3=>⟨L,o,h1,jS _ (hS env (q _ (.head _)) L h1),hl h2,h3⟩,ih λ e he=>q e (.tail _ he)⟩
theorem Mf{X D t:aJ}{es:List (Str×AV)}{h:bF}{tk:Nat}(H:Ok c d)(Z:Rz c led g1 led1 frs outer)(r:B6 c m ((D,.dict es)::(X,.raw (s4 t (some D)))::led) h)(hat:lk (aA "at") es=some (.int (-1))):c.E (.ref X) (c.at h tk):=by
 have nd:=aZ.mp r.nd
 have nd2:=(aZ.mp nd.2).1
 have hl:∀ {b o},(b,AO.raw o)∈led->h.get? b=some o:=λ q=>r.rawE (.tail _ (.tail _ q))
 have kg:∀ {b o},c.g.get? b=some o->b∉X::(c.env::outer).filterMap (·.frame):=λ{b o} e=>
  Z.ns (λ q=>r.ng e (q▸ .tail _ (.head _))) (λ q=>nn (r.gl.symm.trans ((congrArg c.g.get? q).symm.trans e))) (Z.fm λ q=>r.ng e (.tail _ (.tail _ q)))
 rw[Z.hE]
 refine r.at (.head _) λ{oD} hoD hD hDl hDg=> .mk (base:=hideAll h (X::(c.env::outer).filterMap (·.frame))) ⟨λ b o e=>of_hideAll _ e,jS _ (.head _),⟨by rw[H.fk]; decide,R9 r.loc λ oL hL hd V=>⟨c.env.locals,oL,Z.own,jS _ (.tail _ (List.mem_filterMap.mpr ⟨_,.head _,Z.own⟩)),hL,hd⟩,Z.funs hl (λ env he L hf=> .tail _ (List.mem_filterMap.mpr ⟨env,.tail _ he,hf⟩)) outer λ V h=>h⟩,λ p hp=>⟨(Z.kf p hp).2,p.2.slots,hl (Z.kf p hp).1⟩⟩
  ⟨λ b o e=>iW _ (r.base (Z.kg b o e)) (kg (Z.kg b o e)),λ p hp=>r.at (.tail _ (.tail _ (Z.kl p hp).1)) λ{o} ho hg hl _=>⟨o,ho,iW _ hg (Z.ns (X:=X) (b:=p.1) (λ e=>nd2 (show X∈led.map (·.1)from e▸aY (Z.kl p hp).1)) hl (Z.kl p hp).2)⟩,⟨oD,es,hoD,iW _ hD (Z.ns (λ e=>nd.1 (e▸ .head _)) hDl (Z.fm λ q=>nd.1 (.tail _ q))),hat⟩,FM λ o e=>nn (hDg.symm.trans (Z.kg D o e))⟩
  (.no (r.rawE (.tail _ (.head _))) rfl)
theorem b7{k:Fl->Lm->La->Prop}{e:aE}{pos:Pos}(H:Ok c d)(Z:Rz c led0 g1 led1 frs outer)(h:I0 c m 30 e led λ v led'=>∃ X D t es,v= .ref X/\Sb led' ((D,.dict es)::(X,.raw (s4 t (some D)))::led0)/\lk (aA "at") es=some (.int (-1))):Ac c (.Raise (some e) none pos) m led k:=by
 intro hh tk r
 rw[arm_exec_Raise]
 refine A9 ?_
 refine B5 (B5 (m:=eval e c.env) ?_)
 refine K5.seq (sE h) (λ v a led' ha q h2 tk2 r2=>VL q λ X D t es q=>XD q λ e1 sb hat=>?_) r
 subst e1
 obtain rfl:v=_:=ha
 have r3:=r2.sub sb
 refine A9 (A7 (A4 ?_))
 have hX:=r3.rawE (.tail _ (.head _))
 have hC:=r3.base (H.X _ _ (BV (P:=c.w.params)))
 have hcB:(gS 67::W5).contains (.type "BaseException")=true:=by decide+kernel
 have hE:c.E (.ref X) ⟨h2,c.s.gens,c.s.drawn,tk2,c.s.os⟩:=Mf (tk:=tk2) H Z r3 hat
 show wpAny _ _ _ _ _ ⟨h2,c.s.gens,c.s.drawn,tk2,c.s.os⟩
 repeat (first | with_reducible refine gA hX ?_ | with_reducible refine gA hC ?_ | (with_reducible refine jO hC ?_; rw[hcB]) | wp_step)
 exact wpAny_raiseNew_none H.R.hh hE
end
end
section
section
variable{c:Cx}{m:Lm}{led:La}{d:Nat}{g1:bF}{led1:La}{frs:List (aJ×Obj)}{outer:List Env}
theorem Rz.subN{led':La}(Z:Rz c led g1 [] frs outer)(h:∀ a o,(a,AO.raw o)∈led->(a,AO.raw o)∈led'):Rz c led' g1 [] frs outer:=
 ⟨Z.fr,Z.own,λ env he=>⟨(Z.out env he).1,w9 (Z.out env he).2 λ L o b d e=>⟨L,o,b,h _ _ d,e⟩⟩,Z.kg,(λ V hp=>nm hp),λ p hp=>⟨h _ _ (Z.kf p hp).1,(Z.kf p hp).2⟩,Z.hE⟩
theorem Rz.enter{c':Cx}{h:bF}{oL:Obj}(H:Ok c d)(Z:Rz c led g1 led1 frs outer)(r:B6 c m led h)(hA:c'.A=c.A.deeper c'.env)(own:c'.env.frame=some c'.env.locals)(hcg:∀ b o,c.g.get? b=some o->c'.g.get? b=some o)(hn:∀ vs,oL.data≠ .fields vs)(hE:c'.E=BH c'.w c'.s g1 led1 frs (c'.env::c.env::outer)):Rz c' ((c.env.locals,.raw oL)::led) g1 led1 frs (c.env::outer):=
 ⟨hA▸dI Z.fr,own,λ env he=>S3 (C:=λ env:Env=>env.scope.kind≠ .module/\∃ L o,env.frame=some L/\(L,AO.raw o)∈(c.env.locals,AO.raw oL)::led/\∀ vs,o.data≠ .fields vs) he ⟨by rw[H.fk]; decide,_,oL,Z.own,.head _,hn⟩ λ he=>⟨(Z.out env he).1,w9 (Z.out env he).2 λ L o b h1 h2=>⟨L,o,b,.tail _ h1,h2⟩⟩,λ b o e=>hcg b o (Z.kg b o e),λ p hp=>⟨.tail _ (Z.kl p hp).1,λ env he=>S3 (C:=λ env:Env=>env.frame≠some p.1) he (by rw[Z.own]; exact λ e=>r.at (Z.kl p hp).1 λ V V hz V=>hz (aU e).symm) ((Z.kl p hp).2 env)⟩,λ p hp=>⟨.tail _ (Z.kf p hp).1,(Z.kf p hp).2⟩,hE⟩
theorem w7{h':bF}{oL:Obj}(r:B6 c m led h')(hL:h'.get? c.env.locals=some oL)(hz:c.g.get? c.env.locals=none):∃ ol:L5,(∀ q∈ol,h'.get? q.1=some q.2/\c.g.get? q.1=none)/\(∀ p∈(c.env.locals,.raw oL)::led,∃ o,L9 c.w p.2 o/\(p.1,o)∈ol)/\ol.map (·.1)=c.env.locals::led.map (·.1):=
 R9 (AW r) λ ol h1 h2 h3=>⟨(c.env.locals,oL)::ol,λ q hq=>S3 (C:=λ q:aJ×Obj=>h'.get? q.1=some q.2/\c.g.get? q.1=none) hq ⟨hL,hz⟩ (h1 q),λ p hp=>S3 (C:=λ p:aJ×AO=>∃ o,L9 c.w p.2 o/\(p.1,o)∈(c.env.locals,oL)::ol) hp ⟨oL,rfl,.head _⟩ λ hp=>C8 (h2 p hp) λ o a b=>⟨o,a,.tail _ b⟩,congrArg (List.cons c.env.locals) h3⟩
theorem FW{f:aJ}{as:List AV}{k:AV->La->Prop}{name qual:Str}{params:dP}{body:List dY}{scope:cB}{dV kV doc pm cdv ct oc:aF}{an od:Option aJ}{osl:Array (Option aF)}(nb names:List (Str×AV))(cn:List (Str×Option AV))
  (H:Ok c (d+1)) (Z:Rz c led g1 led1 frs outer) (ho:(KF c.w.params).lookup f=some ⟨oc,od,.func (fnOf name qual params body scope dV kV doc pm an cdv ct),osl⟩) (hcd:codeIn (KF c.w.params) cdv qual=true)
  (hbind:Q0 (KF c.w.params) (fnOf name qual params body scope dV kV doc pm an cdv ct) as nb)
  (h:∀ c' oL,Ok c' d->c'.env.scope=scope->(c'.w=c.w/\c'.b=c.b)->Rz c' ((c.env.locals,.raw oL)::led) g1 led1 frs (c.env::outer)->Bu cn λ cl l=>c'.env.cells=cl->O6 c' (cn.map (·.1)) 40 body names (l++(c.env.locals,.raw oL)::led) (λ V V V=>False))
  (hnb:(nb.all λ p=>scope.names.lookup p.1== some .local || scope.names.lookup p.1== some .cell)=true)
  (hnm:(names.all λ p=>scope.names.lookup p.1== some .local && p.1 != ("__debug__":Str))=true) (hsub:∀ x v,lk x names=some v->lk x nb=some v)
  (hcn:cn=(cellsFrom 0 scope.names []).map λ p=>(p.1,lk p.1 nb)) (hck:(cn.all λ p=>scope.names.lookup p.1== some .cell)=true) (hnd:((cellsFrom 0 scope.names []).map (·.1)).Nodup)
  (hco:scope.isCoroutine=false) (hgen:scope.isGenerator=false) (hk:scope.kind= .function):C9 c (.ref f) as m led k:=
 Hy.toF H ho λ vs hvs h' tk r=>DI r.loc λ oL hL hn hz hnm2=>R9 (w7 r hL hz) λ ol hl1 hl2 hl3=>
 CH (cal:=(c.env.locals,.raw oL)::led) (E':=λ env=>BH c.w c.s g1 led1 frs (env::c.env::outer)) (k':=λ V V V=>False) (λ b o e=>r.base e) H.X H.T hl1 hl2 (aZ.mpr ⟨hnm2,r.nd⟩) hl3 H.R H.sm ho hcd hbind hvs (λ V hf=>j9 (dI Z.fr) hf)
  (λ c' N=>h c' oL N.ok N.sc ⟨N.w,N.b⟩ (Z.enter H r N.A N.fr N.base hn (by rw[N.E,N.w,N.s]))) (λ c' N fl s' x=>by obtain⟨_,_,_,_,_,_,_,_,x⟩:=x; exact x.elim) (λ c' N e s' x=>AZ (dI Z.fr) N.fr x λ e s' x=>show c.E e s' from Z.hE▸x) hnb hnm hsub hcn hck hnd hco hgen hk
theorem EO{f:aJ}{as:List AV}{k:AV->La->Prop}{name qual:Str}{params:dP}{body:List dY}{scope:cB}{dV kV doc pm cdv ct oc:aF}{an od:Option aJ}{osl:Array (Option aF)}(names:List (Str×AV))
  (H:Ok c (d+1)) (Z:Rz c led g1 led1 frs outer) (ho:(KF c.w.params).lookup f=some ⟨oc,od,.func (fnOf name qual params body scope dV kV doc pm an cdv ct),osl⟩) (hcd:codeIn (KF c.w.params) cdv qual=true)
  (hbind:Q0 (KF c.w.params) (fnOf name qual params body scope dV kV doc pm an cdv ct) as names)
  (h:∀ c' oL,Ok c' d->c'.env.scope=scope->(c'.w=c.w/\c'.b=c.b)->Rz c' ((c.env.locals,.raw oL)::led) g1 led1 frs (c.env::outer)->O6 c' [] 40 body names ((c.env.locals,.raw oL)::led) (λ V V V=>False))
  (hnm:(names.all λ p=>scope.names.lookup p.1== some .local && p.1 != ("__debug__":Str))=true)
  (hcell:(scope.names.all λ x=>x.2 != .cell)=true) (hco:scope.isCoroutine=false) (hgen:scope.isGenerator=false) (hk:scope.kind= .function):C9 c (.ref f) as m led k:=
 FW names names [] H Z ho hcd hbind (λ c' oL O hs hw Z V=>h c' oL O hs hw Z) (Jd hnm) hnm (λ V V e=>e) (by rw[Q6 hcell]; rfl) rfl (by rw[Q6 hcell]; exact fH) hco hgen hk
end
end
section
section
variable{c:Cx}{m:Lm}{led rest:La}{k:AV->La->Prop}{d:Nat}{g1:bF}{frs:List (aJ×Obj)}{outer:List Env}
theorem EA{S sd T U Hd l:aJ}{es:List (Int×AV)}{hs:List (Str×AV)}(H:Ok c 7)(Z:Rz c led g1 [] frs outer)(hS:(S,AO.inst 605 sd)∈led)(hsd:(sd,AO.dict [("table",.ref T),("trailer",.ref U)])∈led)(hT:(T,AO.kd es)∈led)(hH:(Hd,AO.sd hs)∈led)(hv:(I9 (aA "Filter") hs).getD .none= .ref l)(hl:(l,AO.list [.int 5])∈led):C9 c (.ref 718) [.ref S,.ref Hd] m led k:=by
 refine' EO [("head",.ref Hd),("shelf",.ref S)] H Z ?ho ?hcd ?hb ?_ (hnm:=?h1) (hcell:=?h2) (hco:=?h3) (hgen:=?h4) (hk:=?h5)
 (case ho | hcd=>k_is); (case hb=>tm_at "h"); (case h1=>kernel_rfl); (case h2=>decide); (case h3 | h4 | h5=>rfl)
 intro c1 oL O hs hw Z1
 refine' A6 ?_
 refine' C7 O ?_
 refine' b8 (i:=0) (O.le (by tm_at "a")) (by tm_at "b") (by tm_at "b") (by tm_at "b") (by tm_at "b") hv .here (bG _) (.list _ _ (.tail _ hl)) ?_
 refine' B1 hs ?_
 refine' B7 ?_
 refine' L6 rfl ?_
 refine' G1 ?_
 refine' H3 (as:=[]) (aB rfl) (λ N=>?_)
 refine' B1 hs ?_
 refine' F5 ?_
 refine' G6 [] O ?_ (hs:=λ V=>rfl)
 refine' A0 O hs ?_
 refine' A0 O hs ?_
 refine' v6 O (.list _ _ (.tail _ (.tail _ hl))) ?_
 refine' J5 ?_
 obtain⟨r,hp⟩:=C1.ex (eA (c.env.locals,AO.raw oL) hl)
 have hS1:=hp.other (.tail _ hS) (λ e=>by cases e)
 have hsd1:=hp.other (.tail _ hsd) (λ e=>by cases e)
 have hT1:=hp.other (.tail _ hT) (λ e=>by cases e)
 have Z2:Rz c1 ((N,.list [])::r) g1 [] frs (c.env::outer):=Z1.subN λ a o ho=> .tail _ (hp.other ho (λ e=>by cases e))
 refine' P0 [] (λ V:Unit=>[("names",.ref N),("shelf",.ref S)]) (λ V=>(N,.list [])::r) (λ i V=>i=0) (λ V=>False) () O (E6 hs rfl rfl) (.tail hp) ⟨rfl,rfl,trivial⟩ .refl rfl ?_ (λ V h=>by cases h) (λ V h=>h.elim)
 rintro i a _ rw K hK ha rfl
 cases ha
 refine' A6 ?_
 refine' C7 O ?_
 refine' R6 (i:=0) (O.le (by tm_at "a")) (by tm_at "f") (by tm_at "f") (by tm_at "f") .here (bG _) (.int _) ?_
 refine' B1 hs ?_
 refine' B7 ?_
 refine' A0 O hs ?_
 refine' A1 O hs ?_
 (refine' Z4 O rfl ?e ?_; (case e=>kit_is))
 refine' X3 ?_
 refine' G1 ?_
 refine' b7 O Z2 ?_
 refine' A1 O hs ?_
 refine' c0 (O.le (by tm_at "a")) (λ X D u=>?_)
 exact⟨X,D,u,_,rfl,.cons (.head _) (.cons (.head _) Sb.left),rfl⟩
end
end
section
inductive Eg(led:La)(n:Nat):AV->Prop
 | len {l:aJ} {vs:List AV}:(l,AO.list vs)∈led->vs.length≠n->vs.length<=100->Eg led n (.ref l)
 | items {l:aJ}:(l,AO.list (bO n (.int 7)))∈led->0 < n->n<=100->Eg led n (.ref l)
 | one:n=1->Eg led n (.int 7)
theorem Eg.mono{led led':La}{n:Nat}{v:AV}(h:∀ q∈led,q∈led')(x:Eg led n v):Eg led' n v:=by
 cases x with
 | len a b c=>exact .len (h _ a) b c
 | items a b c=>exact .items (h _ a) b c
 | one a=>exact .one a
section
variable{c:Cx}{m:Lm}{led rest:La}{k:AV->La->Prop}{d:Nat}{g1:bF}{frs:List (aJ×Obj)}{outer:List Env}
theorem Ez{S sd T U Hd:aJ}{es:List (Int×AV)}{hds:List (Str×AV)}{v:AV}{n:Nat}(H:Ok c 7)(Z:Rz c led g1 [] frs outer)(hS:(S,AO.inst 605 sd)∈led)(hsd:(sd,AO.dict [("table",.ref T),("trailer",.ref U)])∈led)(hT:(T,AO.kd es)∈led)(hH:(Hd,AO.sd hds)∈led)(hv:(I9 (aA "DecodeParms") hds).getD .none=v)(hpa:Eg led n v)(hz:n<=100):C9 c (.ref 723) [.ref S,.ref Hd,.int n] m led k:=by
 refine' FW [("count",.int n),("head",.ref Hd),("shelf",.ref S)] [("count",.int n),("head",.ref Hd)] [("row",none),("shelf",some (.ref S))] H Z ?ho ?hcd ?hb ?_ ?h1 ?h2 (λ V V=>Q8.lk ?h3) ?h4 ?h5 ?h6 ?h7 ?h8 ?h9
 (case ho | hcd=>k_is); (case hb=>tm_at "h"); (case h1 | h2=>kernel_rfl); (case h3=>repeat constructor); (case h4=>rfl); (case h5=>kernel_rfl); (case h6=>decide); (case h7 | h8 | h9=>rfl)
 intro c1 oL O hs hw Z1 W1 W2 hc
 cases hpa with
 | @len l vs hl hne hvz=>
  refine' A6 ?_
  refine' A3 O hs hc ?_
  refine' C7 O ?_
  refine' b8 (i:=0) (O.le (by tm_at "a")) (by tm_at "b") (by tm_at "b") (by tm_at "b") (by tm_at "b") hv .here (bG _) (.list _ _ (.tail _ (.tail _ (.tail _ hl)))) ?_
  refine' B1 hs ?_
  refine' B7 ?_
  refine' L6 rfl ?_
  refine' G1 ?_
  refine' A0 O hs ?_
  refine' A0 O hs ?_
  refine' v6 O (.list _ _ (.tail _ (.tail _ (.tail _ hl)))) ?_
  refine' J5 ?_
  refine' B1 hs ?_
  refine' B7 ?_
  refine' A0 O hs ?_
  refine' N3 (as:=vs) (.tail _ (.tail _ (.tail _ hl))) (by tm_at "a") ?_
  refine' JN (by tm_at "a") ?_
  refine' b7 O Z1 ?_
  refine' A1 O hs ?_
  refine' c0 (O.le (by tm_at "a")) (λ X D u=>?_)
  exact⟨X,D,u,_,rfl,.cons (.head _) (.cons (.head _) (.drop (.drop .refl))),rfl⟩
 | @items l hl h0 hn=>
  refine' A6 ?_
  refine' A3 O hs hc ?_
  refine' C7 O ?_
  refine' b8 (i:=0) (O.le (by tm_at "a")) (by tm_at "b") (by tm_at "b") (by tm_at "b") (by tm_at "b") hv .here (bG _) (.list _ _ (.tail _ (.tail _ (.tail _ hl)))) ?_
  refine' B1 hs ?_
  refine' B7 ?_
  refine' L6 rfl ?_
  refine' G1 ?_
  refine' A0 O hs ?_
  refine' A0 O hs ?_
  refine' v6 O (.list _ _ (.tail _ (.tail _ (.tail _ hl)))) ?_
  refine' J5 ?_
  refine' B1 hs ?_
  refine' B7 ?_
  refine' A0 O hs ?_
  refine' N3 (.tail _ (.tail _ (.tail _ hl))) (by rw[cL]; tm_at "a") ?_
  refine' W9 (by rw[cL]) ?_
  refine' H3 (as:=[]) (aB rfl) (λ F=>?_)
  refine' B1 hs ?_
  refine' F5 ?_
  refine' G6 ["row","shelf"] O ?_ (hs:=λ V=>rfl)
  obtain⟨r,hp⟩:=C1.ex (eA (c.env.locals,AO.raw oL) hl)
  have hS1:=hp.other (.tail _ hS) (λ e=>by cases e)
  have hsd1:=hp.other (.tail _ hsd) (λ e=>by cases e)
  have hT1:=hp.other (.tail _ hT) (λ e=>by cases e)
  have Z2:Rz c1 r g1 [] frs (c.env::outer):=Z1.subN λ a o ho=>hp.other ho (λ e=>by cases e)
  refine' P0 ["row","shelf"] (λ V:Unit=>[]) (λ V=>(W1,.cell none)::(W2,.cell (some (.ref S)))::r) (λ i V=>i=0) (λ V=>False) () O (E6 hs rfl rfl) (.tail (.tail (.tail hp))) trivial (by tm_at "d") rfl ?_ (λ V h=>by rw[cL]at h; lia) (λ V h=>h.elim)
  rintro i a _ rw K hK ha rfl
  obtain rfl:AV.int 7=a:=aU ((List.getElem?_replicate_of_lt h0).symm.trans ha)
  refine' M8 ?_
  refine' A3 O hs hc ?_
  refine' C7 O ?_
  refine' R6 (i:=0) (O.le (by tm_at "a")) (by tm_at "f") (by tm_at "f") (by tm_at "f") .here (bG _) (.int _) ?_
  refine' I2 O hs rfl hc rfl (by tm_at "e") ?_
  refine' B7 ?_
  refine' A3 O hs hc ?_
  refine' L6 rfl ?_
  refine' G1 ?_
  refine' A0 O hs ?_
  refine' A3 O hs hc ?_
  refine' A0 O hs ?_
  (refine' Z4 O rfl ?e ?_; (case e=>kit_is))
  refine' X3 ?_
  refine' G1 ?_
  refine' b7 O Z2 ?_
  refine' A1 O hs ?_
  refine' c0 (O.le (by tm_at "a")) (λ X D u=>?_)
  exact⟨X,D,u,_,rfl,.cons (.head _) (.cons (.head _) (.drop (.drop Sb.left))),rfl⟩
 | one e=>
  subst e
  refine' A6 ?_
  refine' A3 O hs hc ?_
  refine' C7 O ?_
  refine' b8 (i:=0) (O.le (by tm_at "a")) (by tm_at "b") (by tm_at "b") (by tm_at "b") (by tm_at "b") hv .here (bG _) (.int _) ?_
  refine' B1 hs ?_
  refine' B7 ?_
  refine' L6 rfl ?_
  refine' G1 ?_
  refine' A0 O hs ?_
  refine' A0 O hs ?_
  refine' v6 O (.int _) ?_
  refine' G1 ?_
  refine' H3 (as:=[.int 7]) (aB rfl) (λ l=>?_)
  refine' B1 hs ?_
  refine' B7 ?_
  refine' A0 O hs ?_
  refine' N3 (.head _) (aB rfl) ?_
  refine' W9 rfl ?_
  refine' H3 (as:=[]) (aB rfl) (λ F=>?_)
  refine' B1 hs ?_
  refine' F5 ?_
  refine' G6 ["row","shelf"] O ?_ (hs:=λ V=>rfl)
  refine' P0 ["row","shelf"] (λ V:Unit=>[]) (λ V=>(W1,.cell none)::(W2,.cell (some (.ref S)))::(c.env.locals,.raw oL)::led) (λ i V=>i=0) (λ V=>False) () O (E6 hs rfl rfl) (.tail (.head _)) trivial (by tm_at "d") rfl ?_ (λ V h=>by cases h) (λ V h=>h.elim)
  rintro i a _ rw K hK ha rfl
  cases ha
  refine' M8 ?_
  refine' A3 O hs hc ?_
  refine' C7 O ?_
  refine' R6 (i:=0) (O.le (by tm_at "a")) (by tm_at "f") (by tm_at "f") (by tm_at "f") .here (bG _) (.int _) ?_
  refine' I2 O hs rfl hc rfl (by tm_at "e") ?_
  refine' B7 ?_
  refine' A3 O hs hc ?_
  refine' L6 rfl ?_
  refine' G1 ?_
  refine' A0 O hs ?_
  refine' A3 O hs hc ?_
  refine' A0 O hs ?_
  (refine' Z4 O rfl ?e ?_; (case e=>kit_is))
  refine' X3 ?_
  refine' G1 ?_
  refine' b7 O Z1 ?_
  refine' A1 O hs ?_
  refine' c0 (O.le (by tm_at "a")) (λ X D u=>?_)
  exact⟨X,D,u,_,rfl,.cons (.head _) (.cons (.head _) (.drop (.drop Sb.left))),rfl⟩
end
end
section
structure XW(x:Str):Prop where
 a:(x== aA "ASCIIHexDecode")=false
 b:(x== aA "ASCII85Decode")=false
 r:(x== aA "RunLengthDecode")=false
 l:(x== aA "LZWDecode")=false
 f:(x== aA "FlateDecode")=false
section
variable{c:Cx}{m:Lm}{led rest:La}{k:AV->La->Prop}{d:Nat}{g1:bF}{frs:List (aJ×Obj)}{outer:List Env}
theorem IA{P:aJ}{nm:Str}{ks:List Int}(H:Ok c 7)(Z:Rz c led g1 [] frs outer)(hu:XW nm):C9 c (.ref 744) [.str nm,.bytes ks,.ref P] m led k:=by
 refine' EO [("parms",.ref P),("octets",.bytes ks),("name",.str nm)] H Z ?ho ?hcd ?hb ?_ (hnm:=?h1) (hcell:=?h2) (hco:=?h3) (hgen:=?h4) (hk:=?h5)
 (case ho | hcd=>k_is); (case hb=>tm_at "h"); (case h1=>kernel_rfl); (case h2=>decide); (case h3 | h4 | h5=>rfl)
 intro c1 oL O hs hw Z1
 refine' A6 ?_
 refine' A1 O hs ?_
 refine' n9 (O.le (by tm_at "a")) (.no _ _ hu.a hu.b hu.r) ?_
 refine' B1 hs ?_
 refine' B7 ?_
 refine' Aj rfl ?_
 refine' G1 ?_
 refine' P4 ?_
 refine' M0 hu.l ?_
 refine' P4 ?_
 refine' M0 hu.f ?_
 refine' b7 O Z1 ?_
 refine' A1 O hs ?_
 refine' c0 (O.le (by tm_at "a")) (λ X D u=>?_)
 exact⟨X,D,u,_,rfl,.cons (.head _) (.cons (.head _) .refl),rfl⟩
inductive CU(es:List (Int×AV))(led:La):AV->AV->Prop
 | parms {v1 v2:AV} {fs:List Str}:F9 es led v1 fs->fs.length<=100->Eg led fs.length v2->CU es led v1 v2
 | filt {l:aJ} {v2:AV}:(l,AO.list [.int 5])∈led->CU es led (.ref l) v2
 | name {v1:AV} {f:Str}:F9 es led v1 [f]->XW f->CU es led v1 .none
theorem Ds{S sd T U Hd X dx:aJ}{es:List (Int×AV)}{hds:List (Str×AV)}{v1 v2:AV}{ks:List Int}(H:Ok c 8)(Z:Rz c led g1 [] frs outer)(hS:(S,AO.inst 605 sd)∈led)(hsd:(sd,AO.dict [("table",.ref T),("trailer",.ref U)])∈led)(hT:(T,AO.kd es)∈led)
  (hX:(X,AO.inst 541 dx)∈led) (hdx:(dx,AO.dict [("head",.ref Hd),("octets",.bytes ks)])∈led) (hH:(Hd,AO.sd hds)∈led) (hv1:(I9 (aA "Filter") hds).getD .none=v1) (hv2:(I9 (aA "DecodeParms") hds).getD .none=v2) (hb:CU es led v1 v2):C9 c (.ref 751) [.ref S,.ref X] m led k:=by
 refine' EO [("stream",.ref X),("shelf",.ref S)] H Z ?ho ?hcd ?hb ?_ (hnm:=?h1) (hcell:=?h2) (hco:=?h3) (hgen:=?h4) (hk:=?h5)
 (case ho | hcd=>k_is); (case hb=>tm_at "h"); (case h1=>kernel_rfl); (case h2=>decide); (case h3 | h4 | h5=>rfl)
 intro c1 oL O hs hw Z1
 cases hb with
 | @filt l v2 hl=>
  refine' A6 ?_
  refine' A1 O hs ?_
  refine' A2 O ?_
  refine' EA O Z1 (by tm_at "b") (by tm_at "b") (by tm_at "b") (by tm_at "b") hv1 (.tail _ hl)
 | @parms v1 v2 fs hf hz hp=>
  refine' A6 ?_
  refine' A1 O hs ?_
  refine' A2 O ?_
  refine' X9 (O.le (by tm_at "a")) (by tm_at "b") (by tm_at "b") (by tm_at "b") (by tm_at "b") hv1 (hf.up' λ V h=> .tail _ h) hz (λ N=>?_)
  refine' B1 hs ?_
  refine' A6 ?_
  refine' A2 O ?_
  refine' B1 hs ?_
  refine' F5 ?_
  refine' T1 ?_ (hs:=λ V=>rfl)
  refine' A0 O hs ?_
  refine' A1 O hs ?_
  refine' A2 O ?_
  refine' A0 O hs ?_
  refine' N3 (.head _) (by rw[aQ]; tm_at "a") ?_
  (rw[aQ]; refine' Ez O (Z1.subN λ V V h=> .tail _ h) (by tm_at "b") (by tm_at "b") (by tm_at "b") (by tm_at "b") hv2 (hp.mono λ V h=> .tail _ (.tail _ h)) hz)
 | @name v1 f hf hn=>
  refine' A6 ?_
  refine' A1 O hs ?_
  refine' A2 O ?_
  refine' X9 (O.le (by tm_at "a")) (by tm_at "b") (by tm_at "b") (by tm_at "b") (by tm_at "b") hv1 (hf.up' λ V h=> .tail _ h) (aB rfl) (λ N=>?_)
  refine' B1 hs ?_
  refine' A6 ?_
  refine' A2 O ?_
  refine' B1 hs ?_
  refine' F5 ?_
  refine' T1 ?_ (hs:=λ V=>rfl)
  refine' A0 O hs ?_
  refine' A1 O hs ?_
  refine' A2 O ?_
  refine' A0 O hs ?_
  refine' N3 (.head _) (aB rfl) ?_
  refine' BS (n:=1) (O.le (by tm_at "a")) (by tm_at "b") (by tm_at "b") (by tm_at "b") (by tm_at "b") hv2 (.none .here (bG _)) (aB rfl) (λ D xs dl hdl=>?_)
  refine' Iu (.tail _ (aC dl (.head _))) (.head _) (λ Z zs hzp=>?_)
  have hat:=hdl.at
  refine' AM [] (λ s:List Int=>[("octets",.bytes s)]) (λ V=>dl++(c.env.locals,.raw oL)::led) (λ i V=>i=0) (λ V=>False) ks O (E6 hs rfl rfl) (E6 hs rfl rfl) hzp (by rw[aQ,hat.1]; rfl) (.tail (C1.head _).app') (.head _) ⟨rfl,trivial⟩ .refl rfl ?_ (λ V h=>by cases h) (λ V h=>h.elim)
  rintro i a b s rw K hK ha hb' rfl
  cases ha
  rw[cJ]at hb'
  obtain⟨y,hy,rfl⟩:=cR.mp hb'
  refine' A6 ?_
  refine' A1 O hs ?_
  refine' IA O (Z1.subN λ V V h=>aG _ (aC _ h)) hn
end
end
section
section
variable{prog:bY}{w:bP}{A:bS}{s:aH}{b:Prop}{R:eI->aH->Prop}
theorem EW{e env}(h:C5 b (model prog w) (A.deeper env) (eval e env) (λ v s'=>R (.ok (.ret v)) s') (Lv (model prog w) A env R) s):G2 b (model prog w) A (.expr e env) R s:=by
 refine L4 rfl ?_
 show C5 b _ (A.deeper env) (do point; ret (←(eval e env).onRaise (leaving env))) _ _ s
 exact D7 (wpAny_point (B8 (M1 h) λ v s' h=>A7 h))
end
section
variable{c:Cx}{m:Lm}{led rest:La}{k:AV->La->Prop}{d:Nat}
theorem V2{x:Str}{p:Pos}{a:AV}{W:aJ}{S:cB}{cl:List (Str×aJ)}(H:Ok c d)(hs:c.env.scope=S)(hx:S.names.lookup x=some .free)(hc:c.env.cells=cl)(hl:cl.lookup x=some W)(hm:(W,AO.cell (some a))∈led)(h:k a led)(hn:(x== ("__classdict__":Str))=false)(hd:(x== ("__debug__":Str))=false):Y3 c (.Name x p) m led k:=
 λ hh tk r=>r.at hm λ ho hg V V=>C8 ho λ v ho hv=>A4 (wpAny_Name (wpAny_loadName_free H.fk (Kh hs hx) (hc▸hl) ⟨_,hg,ho⟩ (E2.ofV r hv h) hn) hd)
theorem B6.ext{h h':bF}(r:B6 c m led h){a:aJ}{o':Obj}{ao ao':AO}(hp:C1 (a,ao) led rest)(hs:gU a h h')(hg:h'.get? a=some o')(ho:L9 c.w ao' o'):B6 c m ((a,ao')::rest) h':=
 r.frE λ F hm=>r.at hp.mem.1 λ V V hl hz=>
 have nd:=hp.mem.2.2 r.nd
 ⟨⟨_,⟨F.ns.extBut hs (kP hl),λ b o e=>hs b o (λ q=>nn (hz.symm.trans ((congrArg c.g.get? q).symm.trans e))) (F.keep b o e),F.above⟩,hm⟩,λ p hq=>S3 (C:=CV c h') hq ⟨o',ho,hg,hl,hz⟩ λ hq=>r.at (hp.mem.2.1 p hq) λ ho hg hl hz=>⟨_,ho,hs p.1 _ (λ e=>nd.1 (show a∈_ from e▸aY hq)) hg,hl,hz⟩,aZ.mpr nd,r.fk,r.lc⟩
theorem Ar{a b:aJ}{h:bF}{o o':Obj}(e:h.get? a=some o)(e':h.get? b=some o')(n:o.data≠o'.data):a≠b:=λ q=>n (congrArg Obj.data (aU (e.symm.trans ((congrArg h.get? q).trans e'))))
theorem FL{h:bF}{a:aJ}{mg:Ev}{b:aJ}{o:Obj}(n:h.Ns a mg)(e:h.get? b=some o)(q:∀ es ep,o.data≠ .dict es ep):a≠b:=λ e2=>by
 obtain⟨o',es,ep,e',hd,_⟩:=n
 exact q _ _ ((congrArg Obj.data (aU (e.symm.trans ((congrArg h.get? e2).symm.trans e')))).trans hd)
theorem Nb{p:bY}{loose:List Str}{mean:ExcName->Option aF}{mg mb:Ev}{g h:bF}{P:aJ}{ps:Array aF}(T:Top p loose mean mg mb g)(hk:∀ b o,g.get? b=some o->h.get? b=some o)(hP:h.get? P=some (tabObj ps)):h.BuiltinsAt mg P:=by
 refine M7 λ G126 hG126=>?_; obtain⟨bm,ob,b1,b2,b3,b4,b5,b6⟩:=T.bmain; refine hG126 ?_
 exact⟨bm,ob,b1,b2,(FL (T.g.keeps hk) (hk _ _ b3) λ es ep e=>nomatch b6.symm.trans e).symm,Ar (hk _ _ b3) hP (λ e=>nomatch b6.symm.trans e),hk _ _ b3,b4,b5,b6⟩
theorem IN{params:dP}{body:aE}{scope:cB}{pos:Pos}{cc P:aJ}{ps:Array aF}{clos:List (Str×aJ)}(H:Ok c d)(hcd:c.env.code= .ref cc)(C:CodeHd c.g cc P)(hp:C1 (P,.raw (tabObj ps)) led rest)(ht:TriplesOk ps.toList)(hnf:codeAmong pos ps.toList=none)
  (hcl:closureFor scope c.env=pure clos) (hdef:defaultsOf params c.env=([],[]))
  (h:∀ f c' oc vs t ctv pm,oc.data= .fields vs->vs[1]? =some (.str (c.env.qual++"<lambda>") t)->k (.ref f) ((f,.raw (kla_obj "<lambda>" (c.env.qual++"<lambda>") params body scope clos pm c' ctv))::(c',.raw oc)::(P,.raw (tabObj (ps++#[rawInt pos.line,rawInt pos.col,.ref c'])))::rest)):
  Y3 c (.Lambda params body scope pos) m led k:=λ hh tk r=>A4<|H.top λ{_ _ _ mg _} T=>r.frE λ F V=>by
 have hP:hh.get? P=some (tabObj ps):=r.rawE hp.mem.1
 have hgs:=T.g.keeps F.keep
 refine kla_eval hdef (kla_makeFunction (s:=c.at hh tk) (mg:=mg) hcl H.gl hgs hcd (C.keeps F.keep) hP ht hnf (FL hgs hP λ es ep e=>nomatch e) (Nb T F.keep hP) λ c' ctv h' tk' hx hge hlt hrec htb=>?_)
 refine M7 λ G127 hG127=>?_; obtain⟨c₂,oc,vs,t,e2,hoc,hd,hv⟩:=hrec; refine hG127 ?_
 obtain rfl:c'=c₂:=Value.ref.inj e2
 have r1:=r.ext hp hx htb (ao':= .raw _) rfl
 have f:=r.fresh hge
 have r2:B6 c m ((c',.raw oc)::(P,.raw (tabObj (ps++#[rawInt pos.line,rawInt pos.col,.ref c'])))::rest) h':=⟨r1.fr,λ q hq=>S3 (C:=CV c h') hq ⟨oc,rfl,hoc,f.1,f.2.1⟩ (r1.nw q),aZ.mpr ⟨λ e=>f.2.2 (BW e (λ e=>(show c'=P from e)▸aY (f:=λ p:aJ×AO=>p.1) hp.mem.1) λ e=>j7 e λ q hq e=>(show q.1=c' from e)▸aY (f:=λ p:aJ×AO=>p.1) (hp.mem.2.1 q hq)),r1.nd⟩,r1.fk,r1.lc⟩
 exact(r2.push (o:=kla_obj "<lambda>" (c.env.qual++"<lambda>") params body scope clos ((mg "__name__").getD .none) c' ctv) (ao:= .raw _) rfl).R (h _ _ _ _ _ _ _ hd hv)
theorem GH{params:dP}{body:aE}{scope:cB}{pos:Pos}{cc P c':aJ}{ps:Array aF}{clos:List (Str×aJ)}(H:Ok c d)(hcd:c.env.code= .ref cc)(C:CodeHd c.g cc P)(hm:(P,.raw (tabObj ps))∈led)(ht:TriplesOk ps.toList)(hf:codeAmong pos ps.toList=some (.ref c'))
  (hcl:closureFor scope c.env=pure clos) (hdef:defaultsOf params c.env=([],[]))
  (h:∀ f ctv pm,k (.ref f) ((f,.raw (kla_obj "<lambda>" (c.env.qual++"<lambda>") params body scope clos pm c' ctv))::led)):
  Y3 c (.Lambda params body scope pos) m led k:=λ hh tk r=>A4<|H.top λ{_ _ _ mg _} T=>r.frE λ F V=>
 have hP:hh.get? P=some (tabObj ps):=r.rawE hm
 kla_eval hdef (kla_makeFunctionHit (s:=c.at hh tk) (mg:=mg) hcl H.gl (T.g.keeps F.keep) hcd (C.keeps F.keep) hP ht hf (Nb T F.keep hP) λ ctv h' tk' hk hsz=>
  ((r.keep hk).push (o:=kla_obj "<lambda>" (c.env.qual++"<lambda>") params body scope clos ((mg "__name__").getD .none) c' ctv) (ao:= .raw _) rfl).R (h _ _ _))
theorem Jl{f c':aJ}{qual:Str}{params:dP}{body:aE}{scope:cB}{cl:List (Str×aJ)}{pm ctv:aF}(hf:(f,AO.raw (kla_obj "<lambda>" qual params body scope cl pm c' ctv))∈led):Kp c (.ref f) m led:=λ u hu h' r=>by
 obtain rfl:u=_:=hu
 exact⟨.frame,.inl rfl,(Looks.ld (part:=none) (r.rawE hf)).andThen .now⟩
theorem FY{w:bP}{A:bS}{b:Prop}{s₀:aH}{h0 b₀:bF}{tk0:Nat}{E':Env->aF->aH->Prop}{cal:La}{ol:L5}{R:eI->aH->Prop}{k':AV->La->Prop}{f c':aJ}{qual:Str}{params:dP}{body:aE}{scope:cB}{cl:List (Str×aJ)}{pm ctv:aF}{oc:Obj}{vs:Array aF}{t:Tok}
  (hb:∀ b o,b₀.get? b=some o->h0.get? b=some o) (X:(KF w.params).In b₀) (T:∃ p loose mean mg mb,Top p loose mean mg mb b₀) (hl:∀ q∈ol,h0.get? q.1=some q.2/\b₀.get? q.1=none) (hcal:∀ p∈cal,∃ o,L9 w p.2 o/\(p.1,o)∈ol) (nd:(cal.map (·.1)).Nodup) (hl3:ol.map (·.1)=cal.map (·.1)) (hR:U6 A (d+1)) (sm:∃ o,b₀.get? sysModules=some o)
  (hf:h0.get? f=some (kla_obj "<lambda>" qual params body scope cl pm c' ctv)) (hc:h0.get? c'=some oc) (hd:oc.data= .fields vs) (hv:vs[1]? =some (.str qual t)) (hp:bindArgs (kla_fn "<lambda>" qual params body scope cl pm (.ref c') ctv) ⟨[],[]⟩=pure [])
  (pe:∀ env,env.frame=some env.locals->lY (model PG w) (A.deeper env) env (E' env))
  (h:∀ c1,Nd c1 w A b s₀ E' scope qual (.ref c') d h0 b₀ cal->c1.env.cells=cl->I0 c1 [] 40 body cal k')
  (out:∀ c1,Nd c1 w A b s₀ E' scope qual (.ref c') d h0 b₀ cal->∀ v s',V9 c1 [] k' v s'->R (.ok (.ret v)) s')
  (err:∀ c1,Nd c1 w A b s₀ E' scope qual (.ref c') d h0 b₀ cal->∀ e s',E' c1.env e s'->Lv (model PG w) A c1.env R e s')
  (hcell:(scope.names.all λ x=>x.2 != .cell)=true) (hco:scope.isCoroutine=false) (hgen:scope.isGenerator=false) (hk:scope.kind= .function):G2 b (model PG w) A (.call (.ref f) ⟨[],[]⟩) R {s₀ with heap:=h0,toks:=tk0}:=by
 refine OJ T λ p loose mean mg mb T=>S5 (fd:=kla_fn "<lambda>" qual params body scope cl pm (.ref c') ctv) hR.lt hf rfl hco hgen ⟨_,_,_,_,rfl,hc,hd,hv⟩ ?_
 rw[hp]
 refine aO (wpAny_newFunctionEnv (λ y hy=>bne_iff_ne.mp (dU.mp hcell y hy)) (λ y hy=>nm hy) (λ h₁ hns hsb=>⟨(T.nolimit.keeps hb).fresh _ hsb,EW ?_⟩) hk)
 have hk₁:∀ b o,h0.get? b=some o->h₁.get? b=some o:=λ b o e=>hsb.extBut b o (bQ (bM e)) (aN _ e)
 have hcg:∀ b o,b₀.get? b=some o->(hideAll h0 (ol.map (·.1))).get? b=some o:=λ b o e=>iW _ (hb b o e) λ e2=>j7 e2 λ q hq e3=>nn ((hl q hq).2.symm.trans ((congrArg b₀.get? e3).trans e))
 have O':Ok ⟨w,A.deeper (envX qual scope h0.objs.size f (.ref c') cl),hideAll h0 (ol.map (·.1)),envX qual scope h0.objs.size f (.ref c') cl,s₀,E' (envX qual scope h0.objs.size f (.ref c') cl),b⟩ d:=⟨X.keeps hcg,⟨_,_,_,_,_,T.keeps hcg⟩,hR.deeper,hk,rfl,rfl,pe _ rfl,sm.elim λ o e=>⟨o,hcg _ o e⟩⟩
 have EN:Nd ⟨w,A.deeper (envX qual scope h0.objs.size f (.ref c') cl),hideAll h0 (ol.map (·.1)),envX qual scope h0.objs.size f (.ref c') cl,s₀,E' (envX qual scope h0.objs.size f (.ref c') cl),b⟩ w A b s₀ E' scope qual (.ref c') d h0 b₀ cal:=⟨O',rfl,rfl,rfl,rfl,rfl,rfl,rfl,rfl,rfl,λ b o e n=>iW _ e (hl3▸n),hcg⟩
 exact D6 (sE (h _ EN rfl) h₁ _ ⟨⟨_,⟨hns,λ b o e=>hk₁ b o (of_hideAll _ e),dZ (hideAll_size _ _)⟩,λ x v e=>nn e⟩,λ q hq=>C8 (hcal q hq) λ o ho hm=>⟨o,ho,hk₁ _ _ (hl _ hm).1,bQ (bM (hl _ hm).1),jS _ (aY hm)⟩,nd,hk,λ x v e=>nn e⟩) (λ v s' x=>out _ EN v s' x) λ e s' x=>err _ EN e s' x
theorem Jz{f c':aJ}{qual:Str}{params:dP}{body:aE}{scope:cB}{cl:List (Str×aJ)}{pm ctv:aF}{oc:Obj}{vs:Array aF}{t:Tok}
  (H:Ok c (d+1)) (hf:(f,AO.raw (kla_obj "<lambda>" qual params body scope cl pm c' ctv))∈led) (hc:(c',AO.raw oc)∈led) (hd:oc.data= .fields vs) (hv:vs[1]? =some (.str qual t))
  (hp:bindArgs (kla_fn "<lambda>" qual params body scope cl pm (.ref c') ctv) ⟨[],[]⟩=pure [])
  (h:∀ c1,Ok c1 d->c1.env.scope=scope->(c1.w=c.w/\c1.b=c.b)->c1.env.cells=cl->I0 c1 [] 40 body led k)
  (hcell:(scope.names.all λ x=>x.2 != .cell)=true) (hco:scope.isCoroutine=false) (hgen:scope.isGenerator=false) (hk:scope.kind= .function):C9 c (.ref f) [] m led k:=
 ⟨Jl hf,λ u hu vs' hvs h' tk r=>by
  obtain rfl:u=_:=hu
  exact a0 (C:=λ vs=>C5 _ _ _ (call (.ref f) vs) _ _ _) hvs (R9 (AW r) λ ol hl1 hl2 hl3=>a6 (FY (E':=λ V V V=>False) (k':=k) (λ b o e=>r.base e) H.X H.T hl1 hl2 r.nd hl3 H.R H.sm (r.rawE hf) (r.rawE hc) hd hv hp (λ V V=> .never) (λ c1 N=>h c1 N.ok N.sc ⟨N.w,N.b⟩)
   (λ c1 N v s' x=>k3 x λ h2 tk2 led2 e r2 y=>C8 y λ a hva hka=>Dh r N.w N.s N.keep (fl:= .ret v) ⟨h2,tk2,[],led2,.ret a,e,r2,⟨v,rfl,hva⟩,.ret .refl hka⟩) (λ V V V V x=>x.elim) hcell hco hgen hk))⟩
end
end
section
open Builtin Builtin.ObjectAttr
section
variable{c:Cx}{m:Lm}{led rest:La}{k:AV->La->Prop}{d:Nat}
theorem Iz{x D:aJ}{vs:Array aF}{sl:Array (Option aF)}{es:List (Str×AV)}{name:Str}{a:AV}(H:Ok c d)(hx:(x,AO.raw {cls:= .ref 67,dict:=some D,data:= .fields vs,slots:=sl})∈led)(hd:(D,AO.dict es)∈led)(he:lk name es=some a)(pl:a.plain=true)
  (ha:findIn (KF c.w.params) (.ref 67) name=some none) (h:k a led):Op c (λ vs=>getAttr (vs.getD 0 .none) name true) [.ref x] m led k:=λ us hv hh tk r=>A4<|by
 obtain⟨_,rfl,rfl⟩:=CR hv
 obtain⟨o,ho,hg⟩:=r.get hx
 have ho:o=_:=ho
 subst ho
 obtain⟨oD,⟨ds,n,rfl,hds⟩,hD⟩:=r.get hd
 have hl:=hds.get (x:=name)
 rw[he]at hl
 obtain⟨v,hv,hr⟩:=hl
 have X:(KF c.w.params).In (c.at hh tk).heap:=λ b o e=>r.base (H.X b o e)
 have I:InstAt (c.at hh tk).heap x {cls:= .ref 67,dict:=some D,data:= .fields vs,slots:=sl} 67 (some (dictOf ds n)):=⟨hg,rfl,rfl,hD⟩
 have hga:findIn (KF c.w.params) (.ref 67) "__getattribute__"=some (some (.builtin "BaseException.__getattribute__")):=by k_is
 have hgh:findIn (KF c.w.params) (.ref 67) "__getattr__"=some none:=by k_is
 have hdi:hasDictIn (KF c.w.params) 67=true:=by k_is
 have FX:=PySem.F.excAttr_ValueError
 have Gn:kR (model PG c.w) (c.at hh tk).heap (isInstance (.ref x) (.type "BaseException")) true:=I.type.andThen (looks_mroIn X (by k_is))
 have L3:=looks_find (M:=model PG c.w) X I (findObj_own hdi ha rfl ((lookIn_dict ..).trans hv))
 show wpAny _ _ (getAttr (.ref x) name true) _ _ _
 refine aD (wpAny_mkText (eP (aD (I.type.here (s:=c.at hh (tk+1)) (aD ((looks_findIn X hga).here (s:=c.at hh (tk+1)) ?_))))))
 show wpAny _ _ (getAttrByItsOwn _ _ (.ref 67) _ _ _) _ _ _
 refine aD (m:=typeLookup (.ref 67) "__getattr__") ((looks_findIn X hgh).here (s:=c.at hh (tk+1)) ?_)
 refine aD (wpAny_attempt (eP ?_))
 show wpAny _ _ (boundAndCalled (.builtin "BaseException.__getattribute__") (.ref x) _) _ _ _
 unfold boundAndCalled
 rw[FX.ga.bind]
 refine aD (aO (wpAny_call (iV FX.ga.plain PySem.F.entry_bexc_ga (@check_slot (model PG c.w) _ _ (c.at hh (tk+1)) "BaseException.__getattribute__" "BaseException" "__getattribute__" (.ref x) [.str name tk] [] _ (by kernel_rfl) (by first | rfl | decide+kernel) Gn (PySem.F.args_bexc_ga _ _) ?_))))
 refine aD (aO (aD (aO (aD (I.type.here (s:=c.at hh (tk+1)) (aD (L3.here (s:=c.at hh (tk+1)) ?_)))))))
 refine aO ?_
 show wpAny _ _ (handedOut v) _ _ _
 rw[handedOut_of (Js hr pl)]
 exact aO (E2.ofV (tk:=tk+1) (a:=a) r hr h)
end
end
section
section
variable{c:Cx}{m:Lm}{led rest:La}{k:AV->La->Prop}{d:Nat}
theorem B6.b{h:bF}(r:B6 c m led h)(x:Prop):B6 {c with b:=x} m led h:=⟨r.fr,r.nw,r.nd,r.fk,r.lc⟩
theorem B6.e{h:bF}(r:B6 c m led h)(x:aF->aH->Prop):B6 {c with E:=x} m led h:=⟨r.fr,r.nw,r.nd,r.fk,r.lc⟩
theorem B6.a{h:bF}(r:B6 c m led h)(x:bS):B6 {c with A:=x} m led h:=⟨r.fr,r.nw,r.nd,r.fk,r.lc⟩
theorem NZ{f:AV}{as:List AV}(h:C9 {c with b:=False} f as m led k):C9 c f as m led k:=
 ⟨λ u hu h' r=>h.1 u hu h' (r.b _),λ u hu vs hv hh tk r=>A4 (fM (Y4 (h.2 u hu vs hv hh tk (r.b _))) (λ V V x=>k3 x λ h' tk' led' a r' b=>⟨h',tk',led',a,(r'.b c.b:B6 {{c with b:=False}with b:=c.b} m led' h'),b⟩) λ V V x=>x)⟩
theorem Ok.b(H:Ok c d)(x:Prop):Ok {c with b:=x} d:=⟨H.X,H.T,H.R,H.fk,H.gl,H.bl,H.pe,H.sm⟩
noncomputable abbrev Ps(c:Cx):Cx:={c with E:=λ V V=>False}
theorem Ok.no(H:Ok c d):Ok (Ps c) d:=⟨H.X,H.T,H.R,H.fk,H.gl,H.bl,.never,H.sm⟩
theorem NL{k:Fl->Lm->La->Prop}{body:List dY}{h₀:ExceptHandler}{hs:List ExceptHandler}{pos:Pos}(H:Ok c d)(h:O6 (Ps c) [] 40 body m led k):Ac c (.Try body (h₀::hs) [] [] pos) m led k:=by
 intro hh tk r
 rw[arm_exec_Try]
 refine A9 ?_
 refine B5 (y5 (D6 (sS (c:=Ps c) H.ni _ _ _ _ _ h hh tk (r.e _)) (λ f s₁ h₁=>?_) λ V V x=>x.elim))
 obtain⟨h2,tk2,m2,led2,fl,rfl,r2,hf,hk⟩:=h₁
 have r2:B6 c m2 led2 h2:=(r2.e c.E:B6 {Ps c with E:=c.E} m2 led2 h2)
 cases fl with
 | next=>cases hf; exact A4 (lJ ⟨h2,tk2,m2,led2,.next,rfl,r2,rfl,hk⟩)
 | brk=>cases hf; exact A7 ⟨h2,tk2,m2,led2,.brk,rfl,r2,rfl,hk⟩
 | cont=>cases hf; exact A7 ⟨h2,tk2,m2,led2,.cont,rfl,r2,rfl,hk⟩
 | ret v=>obtain⟨u,rfl,hu⟩:=hf; exact A7 ⟨h2,tk2,m2,led2,.ret v,rfl,r2,⟨u,rfl,hu⟩,hk⟩
noncomputable def MK(a:aJ)(o:Obj)(m:Lm):Prop:=(∀ vs,o.data≠ .fields vs)/\∃ mm:Ev,(∀ (h:bF) sl,h.get? a=some {o with slots:=sl}->h.Ns a mm)/\Kf m mm
theorem B6.nsAs{h:bF}(r:B6 c m led h):∃ oL,h.get? c.env.locals=some oL/\MK c.env.locals oL m/\c.g.get? c.env.locals=none/\c.env.locals∉led.map (·.1):=
 r.frE λ F hm=>R9 (Ns.ex F.ns) λ oL hL hd ns=>⟨oL,hL,⟨hd,_,ns,hm⟩,r.gl,r.nl⟩
noncomputable def XU(led:La)(env:Env):Prop:=env.scope.kind≠ .module/\∃ L o,env.frame=some L/\(L,AO.raw o)∈led/\∀ vs,o.data≠ .fields vs
theorem Mi{f c':aJ}{qual:Str}{params:dP}{body:aE}{scope:cB}{cl:List (Str×aJ)}{pm ctv:aF}{oc:Obj}{vs:Array aF}{t:Tok}{frs:List (aJ×Obj)}{outer:List Env}
  (H:Ok c (d+1)) (hf:(f,AO.raw (kla_obj "<lambda>" qual params body scope cl pm c' ctv))∈led) (hc:(c',AO.raw oc)∈led) (hd:oc.data= .fields vs) (hv:vs[1]? =some (.str qual t))
  (hp:bindArgs (kla_fn "<lambda>" qual params body scope cl pm (.ref c') ctv) ⟨[],[]⟩=pure [])
  (hfr:c.A.frames=some (c.env::outer)) (hown:c.env.frame=some c.env.locals) (hout:∀ env∈outer,env.scope.kind≠ .module/\∃ L o,env.frame=some L/\(L,AO.raw o)∈led/\∀ vs,o.data≠ .fields vs) (hfrs:∀ p∈frs,(p.1,AO.raw p.2)∈led/\∀ vs,p.2.data≠ .fields vs)
  (hE:∀ oH e s',MK c.env.locals oH m->BH c.w c.s c.g [] ((c.env.locals,oH)::frs) (c.env::outer) e s'->c.E e s')
  (h:∀ c1 oH,Ok c1 d->c1.env.scope=scope->(c1.w=c.w/\c1.b=c.b)->c1.env.cells=cl->Rz c1 ((c.env.locals,.raw oH)::led) c.g [] ((c.env.locals,oH)::frs) (c.env::outer)->I0 c1 [] 40 body ((c.env.locals,.raw oH)::led) (λ V V=>False))
  (hcell:(scope.names.all λ x=>x.2 != .cell)=true) (hco:scope.isCoroutine=false) (hgen:scope.isGenerator=false) (hk:scope.kind= .function):C9 c (.ref f) [] m led k:=
 ⟨Jl hf,λ u hu vs' hvs h' tk r=>by
  obtain rfl:u=_:=hu
  refine a0 (C:=λ vs=>C5 _ _ _ (call (.ref f) vs) _ _ _) hvs (DI r.nsAs λ oH hL hns0 hz hnm2=>R9 (w7 r hL hz) λ ol hl1 hl2 hl3=>a6 (FY (cal:=(c.env.locals,.raw oH)::led) (E':=λ env=>BH c.w c.s c.g [] ((c.env.locals,oH)::frs) (env::c.env::outer)) (k':=λ V V=>False) (λ b o e=>r.base e) H.X H.T hl1 hl2 (aZ.mpr ⟨hnm2,r.nd⟩) hl3 H.R H.sm (r.rawE hf) (r.rawE hc) hd hv hp (λ V hf=>j9 (dI hfr) hf)
   (λ c1 N ec=>h c1 oH N.ok N.sc ⟨N.w,N.b⟩ ec ⟨N.A▸dI hfr,N.fr,λ env he=>S3 (C:=XU ((c.env.locals,.raw oH)::led)) he ⟨by rw[H.fk]; decide,_,oH,hown,.head _,hns0.1⟩ λ he=>⟨(hout env he).1,w9 (hout env he).2 λ L o b h1 h2=>⟨L,o,b,.tail _ h1,h2⟩⟩,N.base,(λ p hp=>nm hp),λ p hp=>S3 (C:=λ p:aJ×Obj=>(p.1,AO.raw p.2)∈(c.env.locals,AO.raw oH)::led/\∀ vs,p.2.data≠ .fields vs) hp ⟨.head _,hns0.1⟩ λ hp=>⟨.tail _ (hfrs p hp).1,(hfrs p hp).2⟩,by rw[N.E,N.w,N.s]⟩)
   (λ c1 N v s' x=>?_) (λ c1 N e s' x=>AZ (dI hfr) N.fr x λ e s' x=>hE oH e s' hns0 x) hcell hco hgen hk))
  refine M7 λ G130 hG130=>?_; obtain⟨_,_,_,_,_,_,_,x⟩:=x; refine hG130 ?_
  exact x.elim⟩
end
end
section
theorem Ji{x y:Str}{v:AV}{m:Lm}(h:y≠x):lk y (G3 x v m)=lk y m:=by rw[q7,if_neg h]
section
variable{c:Cx}{m:Lm}{led rest:La}{d:Nat}
noncomputable def Wg(c:Cx)(m:Lm)(L:aJ)(oL:Obj)(l:List Env):aF->aH->Prop:=λ e s'=>∃ oH,MK c.env.locals oH m/\BH c.w c.s c.g [] [(c.env.locals,oH),(L,oL)] l e s'
theorem DH{L:aJ}{oL:Obj}{outer:List Env}(hfr:c.A.frames=some (c.env::outer))(hf:c.env.frame=some c.env.locals):lY (model PG c.w) c.A c.env (Wg c m L oL (c.env::outer)):=λ e s' x=>C8 x λ oH n x=>by
 have:=j9 (M:=model PG c.w) hfr hf e s' x
 exact fM this (λ V s₁ y=>fM y (λ V V z=>⟨oH,n,z⟩) λ V V z=>⟨oH,n,z⟩) λ V s₁ y=>fM y (λ V V z=>⟨oH,n,z⟩) λ V V z=>⟨oH,n,z⟩
noncomputable abbrev MF(c:Cx)(m:Lm)(L:aJ)(oL:Obj)(outer:List Env):Cx:={c with E:=Wg c m L oL (c.env::outer)}
noncomputable def Hq(L X D:aJ)(oL:Obj)(es:List (Str×AV))(vs:Array aF)(sl sl':Array (Option aF)):La:=[(L,.raw {oL with slots:=sl}),(X,.raw {cls:= .ref 67,dict:=some D,data:= .fields vs,slots:=sl'}),(D,.dict es)]
inductive Fx(c:Cx)(m:Lm)(L X D:aJ)(oL:Obj)(h':bF):Prop
 | mk {es:List (Str×AV)} {vs:Array aF} {sl sl':Array (Option aF)}:lk (aA "at") es=some (.int (-1))->B6 c m (Hq L X D oL es vs sl sl') h'->Fx c m L X D oL h'
theorem MW{L X D:aJ}{oL oH:Obj}{envL:Env}{base h hh:bF}{fl:aF}(r:B6 c m led hh)(hown:c.env.frame=some c.env.locals)(hL:(L,AO.raw oL)∈led)(hfL:envL.frame=some L)(n:MK c.env.locals oH m)(K:YS c.w c.g [] base D)(B:u4 base h [c.env,envL] [(c.env.locals,oH),(L,oL)] X)(x:Pj h base X D fl):Fx c m L X D oL h:=by
 obtain @⟨sl',vs,_,_,_,hX⟩:=x
 refine M7 λ G133 hG133=>?_; obtain⟨oD,es,hoD,hD,hat⟩:=K.dict
 obtain⟨hnf,mm,hns,hm⟩:=n
 obtain⟨_,slH,hH⟩:=B.fs _ (.head _)
 obtain⟨hnL,sl,hLL⟩:=B.fs _ (.tail _ (.head _)); refine hG133 ?_
 have hD':=B.kb _ _ hD
 have gk:∀ b o,c.g.get? b=some o->h.get? b=some o:=λ b o e=>B.kb b o (K.g b o e)
 have hXg:c.g.get? X=none:=by
  cases e:c.g.get? X with
  | none=>rfl
  | some o=>exact nn (B.xn.symm.trans (K.g _ _ e))
 refine M7 λ G134 hG134=>?_; obtain⟨F0,⟨L1,o1,q1,q2,_⟩,F2⟩:=B.fr; refine hG134 ?_
 obtain rfl:=aU (hown.symm.trans q1)
 refine M7 λ G135 hG135=>?_; obtain⟨L2,o2,q3,q4,_⟩:=F2.2.1; refine hG135 ?_
 obtain rfl:=aU (hfL.symm.trans q3)
 obtain⟨ds,k,rfl,hds⟩:=hoD
 exact r.at hL λ V V hLl hLg=>r.frE λ F V=>⟨hat,⟨mm,⟨hns _ _ hH,gk,F.above⟩,hm⟩,
  λ p hp=>S3 (C:=CV c h) hp ⟨_,rfl,hLL,hLl,hLg⟩ λ hp=>S3 (C:=CV c h) hp ⟨_,rfl,hX,Ar hX hH λ e=>hnf _ e.symm,hXg⟩ λ hp=>S3 (C:=CV c h) hp ⟨_,⟨ds,k,rfl,hds⟩,hD',λ e=>nn (q2.symm.trans ((congrArg base.get? e).symm.trans hD)),K.dg⟩ nm,
  aZ.mpr ⟨λ e=>BW e (Ar hLL hX (hnL _)) λ e=>BW e (λ e=>nn (q4.symm.trans ((congrArg base.get? e).trans hD))) nm,aZ.mpr ⟨λ e=>BW e (Ar hX hD' λ e=>nomatch e) nm,aZ.mpr ⟨nm,fH⟩⟩⟩,r.fk,r.lc⟩
theorem B6.gone{m':Lm}{h h':bF}{mm:Ev}{x:Str}{v:Option aF}(r:B6 c m led h)(F:Fr c.g c.env.locals h mm)(hm:Kf m mm)(hn:h'.Ns c.env.locals λ y=>if y=x then v else mm y)(hs:eF c.env.locals h h')(hsub:∀ y u,lk y m'=some u->y≠x/\lk y m=some u):B6 c m' led h':=
 ⟨⟨_,F.set hn hs,λ y u hy=>hm.at (hsub y u hy).2 λ h1 h2=>⟨_,(if_neg (hsub y u hy).1).trans h1,h2⟩⟩,λ p hp=>r.at hp λ ho hg hl hz=>⟨_,ho,(hs.2 _ hl).trans hg,hl,hz⟩,r.nd,r.fk,λ y u hy=>r.lc y u (hsub y u hy).2⟩
theorem LV{er ca:Str}{v:AV}(hne:ca≠er)(hme:lk er m=none)(y:Str)(u:AV)(hy:lk y (G3 ca v m)=some u):y≠er/\lk y (G3 ca v (G3 er v m))=some u:=by
 rw[q7]at hy ⊢
 by_cases e:y=ca
 ·rw[if_pos e]at hy ⊢; exact⟨e▸hne,hy⟩
 ·rw[if_neg e]at hy ⊢
  have n:y≠er:=λ q=>nn (hme.symm.trans (q▸hy))
  exact⟨n,(Ji n).trans hy⟩
theorem El{k:Fl->Lm->La->Prop}{L X D:aJ}{oL:Obj}{er ca:Str}{p6 p7 p8 p9:Pos}{h:bF}{tk:Nat}{E₁:aH->aF->aH->Prop}{E₂:aF->aH->Prop}(H:Ok c d)(oe:I7 c er)(oc:I7 c ca)(hne:ca≠er)(hme:lk er m=none)
  (hk:∀ X D es vs sl sl',lk (aA "at") es=some (.int (-1))->k .next (G3 ca (.ref X) m) (Hq L X D oL es vs sl sl')) (fx:Fx c m L X D oL h):
  wpAny (model PG c.w) (c.A.mark (some (.ref X))) (storeName c.env er (.ref X)) (λ V s₂=>wpAny (model PG c.w) (c.A.mark (some (.ref X))) (execs [.Assign [.Name ca p6] (.Name er p7) p8] c.env) (λ f s₃=>wpAny (model PG c.w) c.A (do bindName c.env er .none; unbindBehindTheSuite c.env er p9) (λ V s₃=>H1 c k f s₃) c.E s₃) (E₁ s₂) s₂) E₂ (c.at h tk):=by
 obtain @⟨es,vs,sl,sl',hat,r4⟩:=fx
 have hpl:(c.env.scope.kind== .class || (c.env.scope.kind== .module && c.env.locals != c.env.globals))=false:=by rw[H.fk]; rfl
 refine r4.frE λ F4 hm4=>wpAny_storeName_local oe.1 F4.ns (λ h5 hn5 hs5=>?_) hpl
 have r5:=r4.st F4 hm4 oe (a:= .ref X) rfl hn5 hs5
 have hsuite:O6 {Ps c with A:=c.A.mark (some (.ref X)),b:=False} [] 40 [.Assign [.Name ca p6] (.Name er p7) p8] (G3 er (.ref X) m) (Hq L X D oL es vs sl sl') (λ fl m' l'=>fl= .next/\m'=G3 ca (.ref X) (G3 er (.ref X) m)/\l'=Hq L X D oL es vs sl sl'):=by
  refine A6 ?_
  show match lk er (G3 er (.ref X) m)with | some v=>_ | none=>_
  rw[q7,if_pos rfl]
  exact⟨oc,rfl,rfl,rfl⟩
 have r5':B6 {Ps c with A:=c.A.mark (some (.ref X)),b:=False} (G3 er (.ref X) m) (Hq L X D oL es vs sl sl') h5:=⟨r5.fr,r5.nw,r5.nd,r5.fk,r5.lc⟩
 have hsu:C5 False (model PG c.w) (c.A.mark (some (.ref X))) (execs [Stmt.Assign [.Name ca p6] (.Name er p7) p8] c.env) _ (λ V V=>False) (c.at h5 (tk+1)):=sS (c:={Ps c with A:=c.A.mark (some (.ref X)),b:=False}) H.ni _ _ _ _ _ hsuite h5 (tk+1) r5'
 refine fM (Y4 hsu) (λ f s₁ x=>?_) λ V V x=>x.elim
 obtain⟨h6,tk6,m6,l6,fl,rfl,r6,hf,rfl,rfl,rfl⟩:=x
 obtain rfl:f= .next:=hf
 have r6:B6 c _ _ h6:=⟨r6.fr,r6.nw,r6.nd,r6.fk,r6.lc⟩
 exact r6.frE λ F6 hm6=>wpAny_nameGoes_keeps oe.1 F6.ns hpl λ h7 v7 hn7 hs7=>⟨h7,_,_,_,.next,rfl,r6.gone F6 hm6 hn7 hs7 (LV hne hme),rfl,hk X D _ _ _ _ hat⟩
theorem KU{k:Fl->Lm->La->Prop}{L:aJ}{oL:Obj}{envL:Env}{S:cB}{body:List dY}{FF er ca:Str}{p5 p6 p7 p8 p9 pos:Pos}
  (H:Ok c d) (hb:c.b=False) (hfr:c.A.frames=some [c.env,envL]) (hown:c.env.frame=some c.env.locals) (hs:c.env.scope=S) (hL:(L,AO.raw oL)∈led) (hfL:envL.frame=some L)
  (hFF:S.names.lookup FF=some .globalImplicit) (hg:nsIn (KF c.w.params) mainGlobals FF=some (some (.ref 67))) (hFd:(FF== ("__debug__":Str))=false)
  (her:S.names.lookup er=some .local) (hed:(er== ("__debug__":Str))=false) (hca:S.names.lookup ca=some .local) (hcd:(ca== ("__debug__":Str))=false) (hne:ca≠er) (hme:lk er m=none)
  (h:Ok (MF c m L oL [envL]) d->O6 (MF c m L oL [envL]) [] 40 body m led λ V V V=>False)
  (hk:∀ X D es vs sl sl',lk (aA "at") es=some (.int (-1))->k .next (G3 ca (.ref X) m) (Hq L X D oL es vs sl sl')):
  Ac c (.Try body [.ExceptHandler (some (.Name FF p5)) (some er) [.Assign [.Name ca p6] (.Name er p7) p8] p9] [] [] pos) m led k:=by
 intro hh tk r
 refine A4 ?_
 have O2:Ok (MF c m L oL [envL]) d:=⟨H.X,H.T,H.R,H.fk,H.gl,H.bl,DH hfr hown,H.sm⟩
 have hbody:=sS (c:=MF c m L oL [envL]) O2.ni _ _ _ _ _ (h O2) hh tk (r.e _)
 refine wpAny_Try_except (fM (Y4 λ Γ p h1 h2=>hbody Γ p h1 λ hb'=>(hb▸hb':False).elim) (λ f s₁ x=>?_) λ e s' x=>C8 x λ oH n x=>?_)
 ·obtain⟨_,_,_,_,_,_,_,_,x⟩:=x
  exact x.elim
 obtain @⟨X,D,h1,base,tk1,B,K,x5⟩:=x
 refine Jb (s:=c.at h1 tk1) hfr hown B (CG hown x5) λ h2 B2 x2=>Ap (s:=c.at h2 tk1) B2 x2 λ h3 B3 x3=>?_
 refine wpAny_handleBy_cons (codeAny_handlers_test ?_) (λ q=>nomatch q)
 obtain⟨hat,r3⟩:=MW r hown hL hfL n K B3 x3
 refine H.top λ T=>r3.frE λ F3 V=>YF (s:=c.at h3 tk1) (Kh hs hFF) hg F3 H.X T ?_ H.fk H.gl hFd
 refine wpAny_excMatches_sub_self (h:=h3) (r3.base (H.X _ _ (BV (P:=c.w.params)))) (r3.rawE (.tail _ (.head _))) rfl (by decide+kernel:W5.contains (.type "BaseException")=true) ?_
 refine codeAny_handlers_suite_as ?_
 refine Ap (s:=c.at h3 tk1) B3 x3 λ h4 B4 x4=>?_
 have fx:=MW r hown hL hfL n K B4 x4
 exact El H ⟨Kh hs her,hed⟩ ⟨Kh hs hca,hcd⟩ hne hme hk fx
end
end
section
noncomputable def Pp(L:aJ)(oL:Obj)(kept:La)(k:AV->La->Prop):Fl->Lm->La->Prop:=λ fl V led=>∃ v led' sl,fl= .ret v/\Sb led ((L,.raw {oL with slots:=sl})::led')/\k v (led'++kept)
section
variable{c:Cx}{m:Lm}{led rest:La}{d:Nat}
theorem Gv{c':Cx}{giv kept:La}{k:AV->La->Prop}{oL:Obj}{h':bF}(r:B6 c m led h')(hled:Sb led (giv++kept))(hL:h'.get? c.env.locals=some oL)(hw:c'.w=c.w)(hs:c'.s=c.s)(hg':∀ b o,h'.get? b=some o->b∉c.env.locals::giv.map (·.1)->c'.g.get? b=some o)(hcg:∀ b o,c.g.get? b=some o->c'.g.get? b=some o){fl:kA}{s':aH}(x:H1 c' (Pp c.env.locals oL kept k) fl s'):
  V9 c m k (match (generalizing:=false) fl with | .ret v=>v | _=> .none) s':=by
 refine M7 λ G138 hG138=>?_; obtain⟨h2,tk2,m2,led2,fl2,e,r2,hf,v,led3,sl,e2,hsb,hkk⟩:=x; refine hG138 ?_
 subst e2
 refine C8 hf λ u e3 hu=>?_
 subst e3
 have e:s'=c.at h2 tk2:=e.trans (congrArg (λ z:aH=>{z with heap:=h2,toks:=tk2}) hs)
 subst e
 have r0:=r.sub hled
 have r3:=r2.sub hsb
 have n3:=aZ.mp r3.nd
 have n0:=r0.nd
 rw[bB]at n0
 have n0:=eC.mp n0
 refine r3.frE λ F2 V=>r.frE λ F hm=>R9 (Ns.ex F.ns) λ oL' hL' V ns=>?_
 obtain rfl:=aU (hL.symm.trans hL')
 have hkept:∀ p∈kept,∀ o,h'.get? p.1=some o->c'.g.get? p.1=some o:=λ p hp o e=>hg' _ o e λ e2=>BW e2 (λ e2=>r0.at (aC _ hp) λ V V hl V=>hl e2) λ e2=>n0.2.2 _ e2 _ (aY hp) rfl
 refine E2.ofV ⟨⟨_,⟨ns _ sl (r3.rawE (.head _)),λ b o e=>F2.keep b o (hcg b o e),F.above⟩,hm⟩,λ p hp=>CQ hp (λ hp=>r3.at (.tail _ hp) λ a b V z=>⟨_,hw▸a,b,λ e=>n3.1 (show c.env.locals∈_ from e▸aY hp),?_⟩) λ hp=>r0.at (aC _ hp) λ a b l z=>⟨_,a,F2.keep _ _ (hkept p hp _ b),l,z⟩,?_,r.fk,r.lc⟩ hu hkk
 ·cases e:c.g.get? p.1 with
  | none=>rfl
  | some o=>exact nn (z.symm.trans (hcg _ _ e))
 ·rw[bB,eC]
  exact⟨n3.2,n0.2.1,λ a ha b hb e=>j7 ha λ p hp e1=>j7 hb λ p' hp' e2=>r3.at (.tail _ hp) λ V V V z=>r0.at (aC _ hp') λ V b V V=>nn (z.symm.trans ((congrArg c'.g.get? (e1.trans (e.trans e2.symm))).trans (hkept p' hp' _ b)))⟩
theorem OH{f:aJ}{as:List AV}{k:AV->La->Prop}{name qual:Str}{params:dP}{body:List dY}{scope:cB}{dV kV doc pm cdv ct oc:aF}{an od:Option aJ}{osl:Array (Option aF)}{outer:List Env}(names:List (Str×AV))(giv kept:La)
  (H:Ok c (d+1)) (hfr0:c.A.frames=some outer) (hled:Sb led (giv++kept)) (ho:(KF c.w.params).lookup f=some ⟨oc,od,.func (fnOf name qual params body scope dV kV doc pm an cdv ct),osl⟩) (hcd:codeIn (KF c.w.params) cdv qual=true)
  (hbind:Q0 (KF c.w.params) (fnOf name qual params body scope dV kV doc pm an cdv ct) as names)
  (h:∀ c' oL,Ok c' d->c'.env.scope=scope->(c'.w=c.w/\c'.b=c.b)->c'.A.frames=some (c'.env::outer)->c'.env.frame=some c'.env.locals->(∀ vs,oL.data≠ .fields vs)->O6 c' [] 40 body names ((c.env.locals,.raw oL)::giv) (Pp c.env.locals oL kept k))
  (hnm:(names.all λ p=>scope.names.lookup p.1== some .local && p.1 != ("__debug__":Str))=true)
  (hcell:(scope.names.all λ x=>x.2 != .cell)=true) (hco:scope.isCoroutine=false) (hgen:scope.isGenerator=false) (hk:scope.kind= .function):C9 c (.ref f) as m led k:=by
 refine Hy.toF H ho λ vs hvs h' tk r=>?_
 have rg:=(r.sub hled).sub .left
 refine DI rg.loc λ oL hL hn hz hnm2=>R9 (w7 rg hL hz) λ ol hl1 hl2 hl3=>?_
 exact CH (cal:=(c.env.locals,.raw oL)::giv) (E':=λ V V V=>False) (k':=Pp c.env.locals oL kept k) (nb:=names) (cn:=[]) (λ b o e=>r.base e) H.X H.T hl1 hl2 (aZ.mpr ⟨hnm2,rg.nd⟩) hl3 H.R H.sm ho hcd hbind hvs (λ V V=> .never)
  (λ c' N V=>h c' oL N.ok N.sc ⟨N.w,N.b⟩ (N.A▸dI hfr0) N.fr hn) (λ c' N fl s' x=>Gv r hled hL N.w N.s N.keep N.base x) (λ V V V V x=>x.elim) (Jd hnm) hnm (λ V V e=>e) (by rw[Q6 hcell]; rfl) rfl (by rw[Q6 hcell]; exact fH) hco hgen hk
end
end
section
noncomputable abbrev Oa:dP:={posonlyargs:=[],args:=[],vararg:=none,kwonlyargs:=[],kw_defaults:=[],kwarg:=none,defaults:=[]}
noncomputable def Gg(led:La)(f:aJ)(qual:Str)(body:aE)(scope:cB)(cl:List (Str×aJ)):Prop:=∃ c' oc vs t pm ctv,(f,AO.raw (kla_obj "<lambda>" qual Oa body scope cl pm c' ctv))∈led/\(c',AO.raw oc)∈led/\oc.data= .fields vs/\vs[1]? =some (.str qual t)
section
variable{c:Cx}{m:Lm}{led rest:La}{k:AV->La->Prop}{d:Nat}
theorem C9.mono{k':AV->La->Prop}{f:AV}{as:List AV}(h:C9 c f as m led k)(q:∀ v l,k v l->k' v l):C9 c f as m led k':=
 ⟨h.1,λ u hu vs hv hh tk r=>D6 (h.2 u hu vs hv hh tk r) (λ V V x=>x.imp λ V x=>x.imp λ V x=>x.imp λ V x=>⟨x.1,x.2.1,x.2.2.imp λ V y=>⟨y.1,q _ _ y.2⟩⟩) λ V V x=>x⟩
theorem Dm{f:aJ}(H:Ok c (d+1))(h:∀ c1 m1,Ok c1 d->(c1.w=c.w/\c1.b=c.b)->C9 c1 (.ref f) [] m1 led k):C9 c (.ref 785) [.ref f] m led k:=by
 refine' C4 [("work",.ref f)] H ?_
 intro c1 O hs hw hg
 refine' W6 ?_
 refine' m9 O hs ?_
 refine' E4 (aB rfl) (λ D=>?_)
 refine' W4 (by tm_at "b") rfl (i5 hs (by kernel_rfl)) ?_
 refine' NL O ?_
 refine' A6 ?_
 refine' C9.sub (.drop .refl) ((h _ _ O.no hw).mono λ v l hv=>?_)
 refine' B1 hs ?_
 refine' L6 rfl ?_
 refine' J5 ?_
 refine' A5 (by tm_at "d") ?_
 exact hv
theorem GI{f:aJ}{qual:Str}{body:aE}{scope:cB}{cl:List (Str×aJ)}(giv kept:La)(H:Ok c (d+2))(hb:c.b=False)(hfr:c.A.frames=some [c.env])(hown:c.env.frame=some c.env.locals)(hled:Sb led (giv++kept))(hl:Gg giv f qual body scope cl)
  (hcell:(scope.names.all λ x=>x.2 != .cell)=true) (hco:scope.isCoroutine=false) (hgen:scope.isGenerator=false) (hk:scope.kind= .function)
  (h:∀ c1 ledx g1 frs outer,Ok c1 d->c1.env.scope=scope->(c1.w=c.w/\c1.b=c.b)->c1.env.cells=cl->Rz c1 ledx g1 [] frs outer->(∀ q∈giv,q∈ledx)->I0 c1 [] 40 body ledx (λ V V=>False))
  (hkk:∀ T,k (.ref T) ((T,.tup [.str (aA "fault"),.int (-1)])::kept)):C9 c (.ref 785) [.ref f] m led k:=by
 refine' OH [("work",.ref f)] giv kept H hfr hled ?ho ?hcd ?hb ?_ ?h1 ?h2 ?h3 ?h4 ?h5
 (case ho=>k_is); (case hcd=>k_is); (case hb=>exact EY λ V=>rfl); (case h1=>kernel_rfl); (case h2=>decide); (case h3=>rfl); (case h4=>rfl); (case h5=>rfl)
 refine M7 λ G56 hG56=>?_; obtain⟨c',oc,vs,t,pm,ctv,hf,hc,hd,hv⟩:=hl; refine hG56 ?_
 intro c1 oL O hs hw hfr1 hown1 hnf
 have hout:∀ D:aJ,∀ env∈[c.env],env.scope.kind≠ .module/\∃ L o,env.frame=some L/\(L,AO.raw o)∈(D,AO.tup [AV.none,AV.none])::(c.env.locals,AO.raw oL)::giv/\∀ vs,o.data≠ .fields vs:=λ D env he=>by
  rw[aL.mp he]
  exact⟨by rw[H.fk]; decide,_,oL,hown,.tail _ (.head _),hnf⟩
 have hfrs:∀ D:aJ,∀ p∈[(c.env.locals,oL)],(p.1,AO.raw p.2)∈(D,AO.tup [AV.none,AV.none])::(c.env.locals,AO.raw oL)::giv/\∀ vs,p.2.data≠ .fields vs:=λ D p hp=>by
  rw[aL.mp hp]
  exact⟨.tail _ (.head _),hnf⟩
 refine' W6 ?_
 refine' m9 O hs ?_
 refine' E4 (aB rfl) (λ D=>?_)
 refine' W4 (by tm_at "b") rfl (i5 hs (by kernel_rfl)) ?_
 refine' KU O (hw.2.trans hb) hfr1 hown1 hs (.tail _ (.head _)) hown rfl (by k_is) rfl rfl rfl rfl rfl (by decide) rfl (λ O2=>?_) (λ X D es vs sl sl' hat=>?_)
 refine' A6 ?_
 refine' Mi (frs:=[(c.env.locals,oL)]) (outer:=[c.env]) O2 (.tail _ (.tail _ hf)) (.tail _ (.tail _ hc)) hd hv rfl hfr1 hown1 (hout D) (hfrs D) (λ oH e s' hns hx=>⟨oH,hns,hx⟩) (λ c2 oH O3 hs3 hw3 hc3 Z3=>h c2 _ _ _ _ O3 hs3 (by exact⟨hw3.1.trans hw.1,hw3.2.trans hw.2⟩) hc3 Z3 (λ q hq=> .tail _ (.tail _ (.tail _ hq)))) hcell hco hgen hk
 refine' L6 rfl ?_
 refine' G1 ?_
 refine' Iz O (by tm_at "b") (by tm_at "b") hat rfl (by k_is) ?_
 refine' E4 (aB rfl) (λ D=>?_)
 exact⟨_,[_],_,rfl,.cons (.tail (.head _)) (.cons (.head _) .nil),hkk _⟩
end
end
section
theorem J8.up'{led led':La}{es:List (Int×AV)}{n:Nat}{v:AV}{bs:List (List (Str×AV))}(h:∀ q∈led,q∈led')(x:J8 es led n v bs):J8 es led' n v bs:=by
 cases x with
 | none a b=>exact .none (a.mono h) b
 | one a b c d e f g=>exact .one a (b.mono h) c (h _ d) (e.mono h) f g
 | list a b c d e=>
  obtain⟨r,hr⟩:=C1.ex (h _ d.mem.1)
  exact .list a (b.mono h) c hr (e.mono h)
theorem CU.mono{es:List (Int×AV)}{led led':La}{v1 v2:AV}(h:∀ q∈led,q∈led')(x:CU es led v1 v2):CU es led' v1 v2:=by
 cases x with
 | parms a b c=>exact .parms (a.up' h) b (c.mono h)
 | filt a=>exact .filt (h _ a)
 | name a b=>exact .name (a.up' h) b
noncomputable abbrev WJ:cB:={kind:= .function,names:=[(aA "shelf",.free),(aA "stream",.free),(aA "decoded",.globalImplicit)],isGenerator:=false,isCoroutine:=false,more:=[]}
noncomputable abbrev PY:cB:={kind:= .function,names:=[(aA "data",.free),(aA "head",.free),(aA "shelf",.free),(aA "decoded",.globalImplicit),(aA "Stream",.globalImplicit)],isGenerator:=false,isCoroutine:=false,more:=[]}
section
variable{c:Cx}{m:Lm}{led rest:La}{k:AV->La->Prop}{d:Nat}
theorem BR{f S sd T U Hd X dx W1 W2:aJ}{es:List (Int×AV)}{hds:List (Str×AV)}{fs:List Str}{bs:List (List (Str×AV))}{ns os:List Int}{qual:Str}{cl:List (Str×aJ)}{p1 p2 p3 p4:Pos}(hb:c.b)(H:Ok c 15)(hl:Gg led f qual (.Call (.Name (aA "decoded") p1) [.Name (aA "shelf") p2,.Name (aA "stream") p3] [] p4) WJ cl)
  (h1:cl.lookup (aA "shelf")=some W1) (h2:cl.lookup (aA "stream")=some W2) (g1:(W1,AO.cell (some (.ref S)))∈led) (g2:(W2,AO.cell (some (.ref X)))∈led) (hS:(S,AO.inst 605 sd)∈led) (hsd:(sd,AO.dict [("table",.ref T),("trailer",.ref U)])∈led) (hT:(T,AO.kd es)∈led)
  (hX:(X,AO.inst 541 dx)∈led) (hdx:(dx,AO.dict [("head",.ref Hd),("octets",.bytes ns)])∈led) (hH:(Hd,AO.sd hds)∈led) (hfa:F9 es led ((I9 (aA "Filter") hds).getD .none) fs) (hpa:J8 es led fs.length ((I9 (aA "DecodeParms") hds).getD .none) bs)
  (hz:fs.length<=100) (hu:S2 bs fs ns os) (h:k (.bytes os) led):C9 c (.ref 785) [.ref f] m led k:=by
 obtain⟨c',oc,vs,t,pm,ctv,hf,hc,hd,hv⟩:=hl
 refine' Dm H λ c1 m1 O1 hw1=>?_
 refine' Jz O1 hf hc hd hv rfl (λ c2 O hs hw2 hc2=>?_) rfl rfl rfl rfl
 have hb:c2.b:=hw2.2▸hw1.2▸hb
 refine' A1 O hs ?_
 refine' V2 O hs rfl hc2 h1 g1 ?_ rfl rfl
 refine' V2 O hs rfl hc2 h2 g2 ?_ rfl rfl
 refine' AP hb (O.le (by tm_at "a")) hS hsd hT hX hdx hH rfl rfl hfa hpa hz hu (λ r e=>by subst e; exact h)
theorem GJ{f S sd T U Hd W1 W2 W3:aJ}{es:List (Int×AV)}{hds:List (Str×AV)}{ns:List Int}{qual:Str}{cl:List (Str×aJ)}{p1 p2 p3 p4 p5 p6 p7:Pos}(giv kept:La)(hb:c.b=False)(H:Ok c 15)(hfr:c.A.frames=some [c.env])(hown:c.env.frame=some c.env.locals)(hled:Sb led (giv++kept))(hl:Gg giv f qual (.Call (.Name (aA "decoded") p1) [.Name (aA "shelf") p2,.Call (.Name (aA "Stream") p3) [.Name (aA "head") p4,.Name (aA "data") p5] [] p6] [] p7) PY cl)
  (h1:cl.lookup (aA "shelf")=some W1) (h2:cl.lookup (aA "head")=some W2) (h3:cl.lookup (aA "data")=some W3) (g1:(W1,AO.cell (some (.ref S)))∈giv) (g2:(W2,AO.cell (some (.ref Hd)))∈giv) (g3:(W3,AO.cell (some (.bytes ns)))∈giv) (hS:(S,AO.inst 605 sd)∈giv) (hsd:(sd,AO.dict [("table",.ref T),("trailer",.ref U)])∈giv) (hT:(T,AO.kd es)∈giv)
  (hH:(Hd,AO.sd hds)∈giv) (hbad:CU es giv ((I9 (aA "Filter") hds).getD .none) ((I9 (aA "DecodeParms") hds).getD .none)) (h:∀ D,k (.ref D) ((D,.tup [.str (aA "fault"),.int (-1)])::kept)):C9 c (.ref 785) [.ref f] m led k:=by
 refine' GI giv kept (d:=13) H hb hfr hown hled hl rfl rfl rfl rfl (λ c2 ledx gx frs outer O hs hw2 hc2 Z hsub=>?_) h
 refine' A1 O hs ?_
 refine' V2 O hs rfl hc2 h1 (hsub _ g1) ?_ rfl rfl
 refine' A1 O hs ?_
 refine' V2 O hs rfl hc2 h2 (hsub _ g2) ?_ rfl rfl
 refine' V2 O hs rfl hc2 h3 (hsub _ g3) ?_ rfl rfl
 refine' v4 (O.le (by tm_at "a")) (λ X1 D1=>?_)
 refine' Ds (O.le (by tm_at "a")) (Z.subN λ V V h=> .tail _ (.tail _ h)) (.tail _ (.tail _ (hsub _ hS))) (.tail _ (.tail _ (hsub _ hsd))) (.tail _ (.tail _ (hsub _ hT))) (.head _) (.tail _ (.head _)) (.tail _ (.tail _ (hsub _ hH))) rfl rfl (hbad.mono λ V h=> .tail _ (.tail _ (hsub _ h)))
theorem GK{f S sd T U Hd W1 W2 W3:aJ}{es:List (Int×AV)}{hds:List (Str×AV)}{fs:List Str}{bs:List (List (Str×AV))}{ns os:List Int}{qual:Str}{cl:List (Str×aJ)}{p1 p2 p3 p4 p5 p6 p7:Pos}(hb:c.b)(H:Ok c 15)(hl:Gg led f qual (.Call (.Name (aA "decoded") p1) [.Name (aA "shelf") p2,.Call (.Name (aA "Stream") p3) [.Name (aA "head") p4,.Name (aA "data") p5] [] p6] [] p7) PY cl)
  (h1:cl.lookup (aA "shelf")=some W1) (h2:cl.lookup (aA "head")=some W2) (h3:cl.lookup (aA "data")=some W3) (g1:(W1,AO.cell (some (.ref S)))∈led) (g2:(W2,AO.cell (some (.ref Hd)))∈led) (g3:(W3,AO.cell (some (.bytes ns)))∈led) (hS:(S,AO.inst 605 sd)∈led) (hsd:(sd,AO.dict [("table",.ref T),("trailer",.ref U)])∈led) (hT:(T,AO.kd es)∈led)
  (hH:(Hd,AO.sd hds)∈led) (hfa:F9 es led ((I9 (aA "Filter") hds).getD .none) fs) (hpa:J8 es led fs.length ((I9 (aA "DecodeParms") hds).getD .none) bs)
  (hz:fs.length<=100) (hu:S2 bs fs ns os) (h:∀ X1 D1,k (.bytes os) ((X1,.inst 541 D1)::(D1,.dict [(aA "head",.ref Hd),(aA "octets",.bytes ns)])::led)):C9 c (.ref 785) [.ref f] m led k:=by
 refine M7 λ G59 hG59=>?_; obtain⟨c',oc,vs,t,pm,ctv,hf,hc,hd,hv⟩:=hl; refine hG59 ?_
 refine' Dm H λ c1 m1 O1 hw1=>?_
 refine' Jz O1 hf hc hd hv rfl (λ c2 O hs hw2 hc2=>?_) rfl rfl rfl rfl
 have hb:c2.b:=hw2.2▸hw1.2▸hb
 refine' A1 O hs ?_
 refine' V2 O hs rfl hc2 h1 g1 ?_ rfl rfl
 refine' A1 O hs ?_
 refine' V2 O hs rfl hc2 h2 (g2) ?_ rfl rfl
 refine' V2 O hs rfl hc2 h3 (g3) ?_ rfl rfl
 refine' v4 (O.le (by tm_at "a")) (λ X1 D1=>?_)
 refine' AP hb (O.le (by tm_at "a")) (.tail _ (.tail _ hS)) (.tail _ (.tail _ hsd)) (.tail _ (.tail _ hT)) (.head _) (.tail _ (.head _)) (.tail _ (.tail _ hH)) rfl rfl (hfa.up' λ V h=> .tail _ (.tail _ h)) (hpa.up' λ V h=> .tail _ (.tail _ h)) hz hu (λ r e=>by subst e; exact h _ _)
end
end
section
section
variable{c:Cx}{m:Lm}{led rest:La}{k:AV->La->Prop}{d:Nat}
theorem Fq{a:AV}{v:aF}(h:Rl a v):∀ n:Nat,Q1 (bO n a) (bO n [v]).flatten
 | 0=>trivial
 | n+1=>⟨h,Fq h n⟩
theorem Cw{l:aJ}{a:AV}{x:Int}(ha:(l,AO.list [a])∈led)(h0:0<=x)(h1:x<=200)(h:∀ D,k (.ref D) ((D,.list (bO x.toNat a))::led)):Op c (λ vs=>binaryOp .Mult (vs.getD 0 .none) (vs.getD 1 .none)) [.ref l,.int x] m led k:=λ vs hv hh tk r=>A4<|by
 obtain⟨_,_,rfl,rfl,⟨t,rfl⟩⟩:=U3 hv
 refine M7 λ G103 hG103=>?_; obtain⟨mm,ol,F,hl,N,A⟩:=r.real; refine hG103 ?_
 obtain⟨o,⟨us,n,rfl,hu⟩,hmo⟩:=A.mem ha
 obtain⟨v,rfl,hv1⟩:=CR hu
 exact KMa.mul F N (J6 N hmo) (by lia) (by lia) (by show 1*x.toNat<=256; lia) rfl λ D h' F' N' lt=>E2.ofV (a:= .ref _) (r.ofNew F' hl N' A lt (ao:= .list _) ⟨_,0,rfl,Fq hv1 _⟩) rfl (h D)
end
end
section
noncomputable def My:List Str:=[aA "Fl8",aA "ASCIIHexDecode ",aA "Crypt",aA "DCT"]
noncomputable def GX:Str:=aA "DecodeParms"
noncomputable def Py:Str:=aA "Filter"
inductive Fe(hds:List (Str×AV))(n:Nat):Int->List (Str×AV)->La->Prop
 | many (D:aJ):Fe hds n 0 (J3 GX (.ref D) hds) [(D,.list (bO (n+1) .none))]
 | ints (D:aJ):n≠1->Fe hds n 1 (J3 GX (.ref D) hds) [(D,.list (bO n (.int 7)))]
 | int:n=1->Fe hds n 1 (J3 GX (.int 7) hds) []
 | no (D:aJ):Fe hds n 2 (J3 GX .none (J3 Py (.ref D) hds)) [(D,.list [.int 5])]
 | name (x d:aJ) (s:Str):s∈My->Fe hds n 3 (J3 GX .none (J3 Py (.ref x) hds)) [(x,.inst 520 d),(d,.dict [(aA "text",.str s)])]
theorem De{x:Str}{v:AV}:∀ {es:List (Str×AV)},(J3 x v es).length<=es.length+1
 | []=>aR _
 | p::r=>by
  show(if x=p.1 then(x,v)::r else p::J3 x v r).length<=_
  split
  ·exact fE _
  ·exact bL De
theorem NJ{r:Int}(h0:0<=r)(h1:r < 4):∃ s,s∈My/\[AV.str (aA "Fl8"),AV.str (aA "ASCIIHexDecode "),AV.str (aA "Crypt"),AV.str (aA "DCT")][r.toNat]? =some (AV.str s):=by
 have:r=0∨r=1∨r=2∨r=3:=by lia
 rcases this with rfl | rfl | rfl | rfl
 ·exact⟨_,.head _,rfl⟩
 ·exact⟨_,.tail _ (.head _),rfl⟩
 ·exact⟨_,.tail _ (.tail _ (.head _)),rfl⟩
 ·exact⟨_,.tail _ (.tail _ (.tail _ (.head _))),rfl⟩
section
variable{c:Cx}{m:Lm}{led rest:La}{k:AV->La->Prop}
theorem Lw{P C Hd:aJ}{q:Int}{t:Nat×Int}{cs:List Int}{hds:List (Str×AV)}{n:Nat}(H:Ok c 4)(hP:C1 (P,J4 C q t) led rest)(hC:(C,AO.ints cs)∈rest)(hH:(Hd,AO.sd hds)∈rest)(hz:cs.length<=63)(hq:0<=q/\q < 1009)(ht:t.1 < 90000000)(hl:hds.length<=10)(hn:n<=10)
  (h:∀ T F w es nl t',Fe hds n w es nl->t'.1<=t.1+2->k (.ref T) ((T,.tup [.ref F,.int w])::(F,.sd es)::(P,J4 C q t')::(nl++rest))):C9 c (.ref 831) [.ref P,.ref Hd,.int n] m led k:=by
 refine' C9.perm hP ?_
 refine' C4 [("count",.int n),("head",.ref Hd),("pen",.ref P)] H ?_
 intro c1 O hs hw hg
 have hsl:∀ v,(J3 Py v hds).length<=11:=λ v=>aS De (bL hl)
 refine' A6 ?_
 refine' A1 O hs ?_
 refine' I3 (O.le (by tm_at "a")) (by tm_at "e") (by tm_at "b") (by tm_at "a") hz hq (by tm_at "a") (λ w t1 ht1 h0 h1=>?_)
 refine' B1 hs ?_
 refine' A6 ?_
 refine' A0 O hs ?_
 refine' IU (f:=AO.sd) (g:=AV.str) O .str (by tm_at "b") (by tm_at "a") (λ F=>?_)
 refine' B1 hs ?_
 refine' B7 ?_
 refine' S6 (λ V=>?_) (λ V=>?_)
 refine' O4 ?_
 refine' E5 rfl ?_
 refine' H3 (as:=[.none]) (aB rfl) (λ D=>?_)
 refine' Cw (by tm_at "b") (by tm_at "a") (by tm_at "a") (λ D=>?_)
 refine' H5 (f:=AO.sd) (g:=AV.str) .str (by tm_at "e") (by tm_at "a") ?_
 refine' E4 (aB rfl) (λ D=>?_)
 (first | (obtain rfl:w=0:=(by assumption); exact A5 (by tm_at "d") (h _ F _ _ _ _ (.many _) (by tm_at "a"))) | (obtain rfl:w=1:=(by assumption); exact A5 (by tm_at "d") (h _ F _ _ _ _ (.ints _ (by tm_at "a")) (by tm_at "a"))) | (obtain rfl:w=1:=(by assumption); exact A5 (by tm_at "d") (h _ F _ _ _ _ (.int (by tm_at "a")) (by tm_at "a"))) | (obtain rfl:w=2:=(by assumption); exact A5 (by tm_at "d") (h _ F _ _ _ _ (.no _) (by tm_at "a"))) | (obtain rfl:w=3:=(by tm_at "a"); exact A5 (by tm_at "d") (h _ F _ _ _ _ (.name _ _ _ hs1) (by tm_at "a"))))
 refine' B7 ?_
 refine' S6 (λ V=>?_) (λ V=>?_)
 refine' O4 ?_
 refine' E5 rfl ?_
 refine' MZ (λ V=>?_) (λ V=>?_)
 refine' H3 (as:=[.int _]) (aB rfl) (λ D=>?_)
 refine' Cw (by tm_at "b") (by tm_at "a") (by tm_at "a") (λ D=>?_)
 refine' H5 (f:=AO.sd) (g:=AV.str) .str (by tm_at "e") (by tm_at "a") ?_
 refine' E4 (aB rfl) (λ D=>?_)
 (first | (obtain rfl:w=0:=(by assumption); exact A5 (by tm_at "d") (h _ F _ _ _ _ (.many _) (by tm_at "a"))) | (obtain rfl:w=1:=(by assumption); exact A5 (by tm_at "d") (h _ F _ _ _ _ (.ints _ (by tm_at "a")) (by tm_at "a"))) | (obtain rfl:w=1:=(by assumption); exact A5 (by tm_at "d") (h _ F _ _ _ _ (.int (by tm_at "a")) (by tm_at "a"))) | (obtain rfl:w=2:=(by assumption); exact A5 (by tm_at "d") (h _ F _ _ _ _ (.no _) (by tm_at "a"))) | (obtain rfl:w=3:=(by tm_at "a"); exact A5 (by tm_at "d") (h _ F _ _ _ _ (.name _ _ _ hs1) (by tm_at "a"))))
 refine' H5 (f:=AO.sd) (g:=AV.str) .str (by tm_at "e") (by tm_at "a") ?_
 refine' E4 (aB rfl) (λ D=>?_)
 (first | (obtain rfl:w=0:=(by assumption); exact A5 (by tm_at "d") (h _ F _ _ _ _ (.many _) (by tm_at "a"))) | (obtain rfl:w=1:=(by assumption); exact A5 (by tm_at "d") (h _ F _ _ _ _ (.ints _ (by tm_at "a")) (by tm_at "a"))) | (obtain rfl:w=1:=(by assumption); exact A5 (by tm_at "d") (h _ F _ _ _ _ (.int (by tm_at "a")) (by tm_at "a"))) | (obtain rfl:w=2:=(by assumption); exact A5 (by tm_at "d") (h _ F _ _ _ _ (.no _) (by tm_at "a"))) | (obtain rfl:w=3:=(by tm_at "a"); exact A5 (by tm_at "d") (h _ F _ _ _ _ (.name _ _ _ hs1) (by tm_at "a"))))
 refine' O4 ?_
 refine' E5 rfl ?_
 refine' S6 (λ V=>?_) (λ V=>?_)
 refine' H3 (as:=[.int _]) (aB rfl) (λ D=>?_)
 refine' H5 (f:=AO.sd) (g:=AV.str) .str (by tm_at "e") (by tm_at "a") ?_
 refine' O4 ?_
 refine' E5 rfl ?_
 refine' H5 (f:=AO.sd) (g:=AV.str) .str (by tm_at "e") (aS (hsl _) (aB rfl)) ?_
 refine' E4 (aB rfl) (λ D=>?_)
 (first | (obtain rfl:w=0:=(by assumption); exact A5 (by tm_at "d") (h _ F _ _ _ _ (.many _) (by tm_at "a"))) | (obtain rfl:w=1:=(by assumption); exact A5 (by tm_at "d") (h _ F _ _ _ _ (.ints _ (by tm_at "a")) (by tm_at "a"))) | (obtain rfl:w=1:=(by assumption); exact A5 (by tm_at "d") (h _ F _ _ _ _ (.int (by tm_at "a")) (by tm_at "a"))) | (obtain rfl:w=2:=(by assumption); exact A5 (by tm_at "d") (h _ F _ _ _ _ (.no _) (by tm_at "a"))) | (obtain rfl:w=3:=(by tm_at "a"); exact A5 (by tm_at "d") (h _ F _ _ _ _ (.name _ _ _ hs1) (by tm_at "a"))))
 refine' A1 O hs ?_
 refine' E4 (aB rfl) (λ D=>?_)
 refine' A1 O hs ?_
 (refine' I3 (O.le (by tm_at "a")) (by tm_at "e") (by tm_at "b") (by tm_at "a") hz hq (by tm_at "a") (λ r t2 ht2 g0 g1=>?_); obtain⟨s,hs1,hs2⟩:=NJ g0 g1)
 refine' AK (.tail _ (.head _)) (by tm_at "a") (by tm_at "a") hs2 ?_
 refine' Cz (O.le (by tm_at "a")) (λ X D=>?_)
 refine' H5 (f:=AO.sd) (g:=AV.str) .str (by tm_at "e") (by tm_at "a") ?_
 refine' O4 ?_
 refine' E5 rfl ?_
 refine' H5 (f:=AO.sd) (g:=AV.str) .str (by tm_at "e") (aS (hsl _) (aB rfl)) ?_
 refine' E4 (aB rfl) (λ D=>?_)
 (first | (obtain rfl:w=0:=(by assumption); exact A5 (by tm_at "d") (h _ F _ _ _ _ (.many _) (by tm_at "a"))) | (obtain rfl:w=1:=(by assumption); exact A5 (by tm_at "d") (h _ F _ _ _ _ (.ints _ (by tm_at "a")) (by tm_at "a"))) | (obtain rfl:w=1:=(by assumption); exact A5 (by tm_at "d") (h _ F _ _ _ _ (.int (by tm_at "a")) (by tm_at "a"))) | (obtain rfl:w=2:=(by assumption); exact A5 (by tm_at "d") (h _ F _ _ _ _ (.no _) (by tm_at "a"))) | (obtain rfl:w=3:=(by tm_at "a"); exact A5 (by tm_at "d") (h _ F _ _ _ _ (.name _ _ _ hs1) (by tm_at "a"))))
end
end
section
theorem VV{s:Str}(h:s∈My):∃ f,(I9 s u7).getD (.str s)= .str f/\XW f:=by
 unfold My at h
 simp only[bE,cZ,or_false]at h
 rcases h with rfl | rfl | rfl | rfl
 ·exact⟨_,rfl,rfl,rfl,rfl,rfl,rfl⟩
 ·exact⟨_,rfl,rfl,rfl,rfl,rfl,rfl⟩
 ·exact⟨_,rfl,rfl,rfl,rfl,rfl,rfl⟩
 ·exact⟨_,rfl,rfl,rfl,rfl,rfl,rfl⟩
theorem Jt{hd es4:List (Str×AV)}{n:Nat}{w:Int}{nl4 led:La}{es:List (Int×AV)}{ks:List Int}(x:Fe hd n w es4 nl4)(hn:n=ks.length)(hz:ks.length<=3)(hF:F9 es led ((I9 (aA "Filter") hd).getD .none) (K4 ks)):
  CU es (nl4++led) ((I9 (aA "Filter") es4).getD .none) ((I9 (aA "DecodeParms") es4).getD .none)∨
  (w=1/\ks=[]/\J8 es (nl4++led) 0 ((I9 (aA "DecodeParms") es4).getD .none) []/\I9 (aA "Filter") es4=I9 (aA "Filter") hd):=by
 have hl:(K4 ks).length=n:=by rw[aQ,hn]
 have ne:aA "Filter"≠aA "DecodeParms":=by decide+kernel
 have e1:∀ v,I9 (aA "Filter") (J3 GX v hd)=I9 (aA "Filter") hd:=λ v=>by unfold GX; rw[E1,if_neg ne]
 have e2:∀ v,I9 (aA "DecodeParms") (J3 GX v hd)=some v:=λ v=>by unfold GX; rw[E1,if_pos rfl]
 have e3:∀ v u,I9 (aA "Filter") (J3 GX v (J3 Py u hd))=some u:=λ v u=>by unfold GX Py; rw[E1,if_neg ne,E1,if_pos rfl]
 have e4:∀ v u,I9 (aA "DecodeParms") (J3 GX v (J3 Py u hd))=some v:=λ v u=>by unfold GX; rw[E1,if_pos rfl]
 cases x with
 | many D=>
  refine .inl ?_
  rw[e1,e2]
  exact .parms (hF.up' λ q hq=>aC _ hq) (by lia) (.len (aG _ (.head _)) (by rw[cL]; lia) (by rw[cL]; lia))
 | «ints» D h1=>
  rw[e1,e2]
  by_cases h0:ks=[]
  ·subst h0
   have hn:n=0:=hn
   subst hn
   exact .inr ⟨rfl,rfl,.list rfl .here (bG _) (.head _) .nil,rfl⟩
  ·refine .inl (.parms (hF.up' λ q hq=>aC _ hq) (by lia) (.items (l:=D) (by rw[hl]; exact aG _ (.head _)) ?_ (by lia)))
   have:=List.length_pos_iff.mpr h0
   lia
 | int h1=>
  refine .inl ?_
  rw[e1,e2]
  exact .parms (hF.up' λ q hq=>aC _ hq) (by lia) (.one (by lia))
 | no D=>
  refine .inl ?_
  rw[e3,e4]
  exact .filt (aG _ (.head _))
 | name x d s hs=>
  refine .inl ?_
  rw[e3,e4]
  refine M7 λ G60 hG60=>?_; obtain⟨f,h1,h2⟩:=VV hs; refine hG60 ?_
  exact .name (.one (.mk .here (bG _) (aG _ (.head _)) (aG _ (.tail _ (.head _))) h1)) h2
end
section
noncomputable def Wc:Fl->Lm->La->Prop:=λ fl V led=>fl= .ret (.bool true)/\∃ more,(833,AO.raw (tabObj more))∈led
theorem OI{w:bP}{s:aH}{loose:List Str}{mean:ExcName->Option aF}{mg mb:Ev}{f l:aJ}{name qual:Str}{params:dP}{body:List dY}{scope:cB}{dV kV doc pm cdv ct oc:aF}{an od:Option aJ}{osl:Array (Option aF)}(nb names:List (Str×AV))(cn:List (Str×Option AV))
  (T:Top qv loose mean mg mb s.heap) (X:(KF w.params).In s.heap) (sm:∃ o,s.heap.get? sysModules=some o) (hK:noTabs (KF w.params)=true)
  (ho:(KF w.params).lookup f=some ⟨oc,od,.func (fnOf name qual params body scope dV kV doc pm an cdv ct),osl⟩) (hcd:codeIn (KF w.params) cdv qual=true)
  (hbind:Q0 (KF w.params) (fnOf name qual params body scope dV kV doc pm an cdv ct) [.ref l] nb)
  (h:∀ c:Cx,c.w=w->c.b=True->Ok c 20->c.env.scope=scope->c.A.frames=some [c.env]->c.env.frame=some c.env.locals->c.env.code=cdv->c.env.qual=qual++".<locals>."->CodeHd c.g 835 833->(∀ b o,(ghostOf s.heap [(835,833)]).get? b=some o->c.g.get? b=some o)->Bu cn λ cl l0=>c.env.cells=cl->O6 c (cn.map (·.1)) 40 body names (l0++[(833,.raw (tabObj #[]))]) Wc)
  (hnb:(nb.all λ p=>scope.names.lookup p.1== some .local || scope.names.lookup p.1== some .cell)=true)
  (hnm:(names.all λ p=>scope.names.lookup p.1== some .local && p.1 != ("__debug__":Str))=true) (hsub:Q8 nb names)
  (hcn:cn=(cellsFrom 0 scope.names []).map λ p=>(p.1,lk p.1 nb)) (hck:(cn.all λ p=>scope.names.lookup p.1== some .cell)=true) (hnd:((cellsFrom 0 scope.names []).map (·.1)).Nodup)
  (hco:scope.isCoroutine=false) (hgen:scope.isGenerator=false) (hk:scope.kind= .function):
  z5 (model PG w) callerA (call (.ref f) [.ref l]) (λ v s'=>∃ h' tk more,v= .bool true/\s'={s with heap:=h',toks:=tk}/\gU 833 s.heap h'/\h'.get? 833=some (tabObj more)) s:=by
 have hT:TabsAt [(835,833)] s.heap:=λ q hq=>by rw[aL.mp hq]; exact Am T X
 have hP:s.heap.get? 833=some (tabObj #[]):=(Am T X).2
 have C0:=ghost_code hT
 have C:=C0.1
 have X0:=ghost_K hT X hK
 have T0:=ghost_top hT T
 have kb:∀ b o,(ghostOf s.heap [(835,833)]).get? b=some o->s.heap.get? b=some o:=λ b o e=>of_hideAll _ e
 have gP:(ghostOf s.heap [(835,833)]).get? 833=none:=jS _ (.head _)
 have gne:∀ b o,b≠833->s.heap.get? b=some o->(ghostOf s.heap [(835,833)]).get? b=some o:=λ b o n e=>ghost_ne e (λ q=>by
  rcases bE.mp q with q | q
  ·exact n q
  ·cases q)
 have hsm:sysModules≠833:=by decide
 have hg:∀ {c':Cx},(∀ b o,s.heap.get? b=some o->b∉[(833,AO.raw (tabObj #[]))].map (·.1)->c'.g.get? b=some o)->∀ b o,b≠833->s.heap.get? b=some o->c'.g.get? b=some o:=λ k b o n e=>k b o e λ q=>BW q n nm
 refine a6 (CH (w:=w) (A:=callerA) (b:=True) (s₀:=s) (h0:=s.heap) (tk0:=s.toks) (E':=λ V V V=>False) (cal:=[(833,.raw (tabObj #[]))]) (ol:=[(833,tabObj #[])]) (k':=Wc) (d:=20) kb X0 ⟨_,_,_,_,_,T0⟩ (λ q hq=>S3 (C:=λ q:aJ×Obj=>s.heap.get? q.1=some q.2/\(ghostOf s.heap [(835,833)]).get? q.1=none) hq ⟨hP,gP⟩ nm) (λ p hp=>S3 (C:=λ p:aJ×AO=>∃ o,L9 w p.2 o/\(p.1,o)∈[((833:aJ),tabObj #[])]) hp ⟨_,rfl,.head _⟩ nm) (aZ.mpr ⟨nm,fH⟩) rfl ⟨rfl,by decide+kernel,by decide+kernel⟩ (sm.elim λ o e=>⟨o,gne _ o hsm e⟩) ho hcd hbind (vs:=[.ref l]) ⟨rfl,trivial⟩ (λ V V=> .never)
  (λ c' N=>h c' N.w N.b N.ok N.sc (N.A▸dI rfl) N.fr N.cd N.ql (C.keeps N.base) N.base) (λ c' N fl s' x=>?_) (λ V V V V x=>x.elim) hnb hnm (λ V V=>hsub.lk) hcn hck hnd hco hgen hk)
 refine M7 λ G139 hG139=>?_; obtain⟨h2,tk2,m2,led2,fl2,e,r2,hf,e2,more,hm⟩:=x; refine hG139 ?_
 subst e2
 refine C8 hf λ u e3 hu=>?_
 subst e3
 obtain rfl:u=_:=hu
 exact r2.frE λ F2 V=>⟨h2,tk2,more,rfl,e.trans (congrArg (λ z:aH=>{z with heap:=h2,toks:=tk2}) N.s),λ b o n e=>F2.keep b o (hg N.keep b o n e),r2.rawE hm⟩
end
section
noncomputable def Wr(c:Cx)(x:Str)(v:AV)(m:Lm)(led:La)(k:Lm->La->Prop):Prop:=∀ u,Rl v u->∀ (E:aF->aH->Prop) h tk (Q:Unit->aH->Prop),B6 c m led h->(∀ h' tk' m' led',B6 c m' led' h'->k m' led'->Q () (c.at h' tk'))->wpAny (model PG c.w) c.A (storeName c.env x u) Q E (c.at h tk)
section
variable{c:Cx}{m:Lm}{led rest:La}{d:Nat}
theorem Fj{x:Str}{v:AV}{k:Lm->La->Prop}(sk:I7 c x)(h:k (G3 x v m) led):Wr c x v m led k:=λ u hu E hh tk Q r q=>
 sk.setA hu r λ h' tk' r'=>q h' tk' _ _ r' h
theorem Db{x:Str}{v:AV}{o:Option AV}{W:aJ}{S:cB}{cl:List (Str×aJ)}{k:Lm->La->Prop}(H:Ok c d)(hs:c.env.scope=S)(hx:S.names.lookup x=some .cell)(hc:c.env.cells=cl)(hl:cl.lookup x=some W)(hp:C1 (W,AO.cell o) led rest)(h:k m ((W,AO.cell (some v))::rest)):Wr c x v m led k:=λ u hu E hh tk Q r q=>by
 obtain⟨ob,ho,hg⟩:=r.get hp.mem.1
 obtain⟨v₀,hv₀⟩:∃ v₀,ob.data= .cell v₀:=by
  cases o with
  | none=>exact⟨_,ho⟩
  | some a=>obtain⟨v,e,_⟩:=ho; exact⟨_,e⟩
 exact lS H.fk (by rw[kJ,hs]; exact hx) (by rw[hc]; exact hl) ⟨ob,hg,hv₀⟩ λ h' ⟨ob',hg',hd'⟩ hsb=>q h' tk _ _ (r.set (ao':= .cell (some v)) hp hsb hg' ⟨u,hd',hu⟩) h
theorem Fy{k:Fl->Lm->La->Prop}{kk:Nat}{tpos pos p1 p2:Pos}{value:aE}{x y:Str}{S:cB}(H:Ok c d)(hS:c.env.scope=S)(h:I0 c m 30 value led λ v led=>∃ D a b,v= .ref D/\(D,AO.tup [a,b])∈led/\Wr c x a m led (λ m led=>Wr c y b m led (λ m led=>k .next m led)))
  (hs:swapsWithSole [.Tuple [.Name x p1,.Name y p2] kk tpos] value pos.line c.env=pure false:=by rfl) (hw:swappedStores [.Tuple [.Name x p1,.Name y p2] kk tpos] value (envOf "" S 0 0 .none)=pure none:=by rfl):Ac c (.Assign [.Tuple [.Name x p1,.Name y p2] kk tpos] value pos) m led k:=by
 intro hh tk r
 rw[PyProof.Rows.exec_Assign]
 refine A9 ?_
 rw[hs]
 refine B5 (A7 ?_)
 rw[if_neg (by decide)]
 refine B5 (K5.seq (sE h) (λ v a led' ha q h tk r=>?_) r)
 rw[(j6 hS).trans hw]
 refine B5 (A7 ?_)
 show C5 _ _ _ (do assignAll v [assign (.Tuple [.Name x p1,.Name y p2] kk tpos) c.env]; pure iY) _ _ _
 obtain⟨D,a1,b1,rfl,hm,q⟩:=q
 cases ha
 obtain⟨o,⟨vs,rfl,hvs⟩,hg⟩:=r.get hm
 cases vs with
 | nil=>exact hvs.elim
 | cons v1 vs=>
 cases vs with
 | nil=>exact hvs.2.elim
 | cons v2 vs=>
 cases vs with
 | cons _ _=>exact hvs.2.2.elim
 | nil=>
 refine D7 ?_
 refine wpAny_assign_Tuple H.R.hh ⟨_,hg,rfl,0,rfl⟩ (Y2 (xs:=[(x,p1),(y,p2)])).1 (Y2 (xs:=[(x,p1),(y,p2)])).2 λ h' he=>?_
 have he:gU h.objs.size h h':=he
 have r':=r.keep λ b o e=>he b o (bQ (bM e)) e
 refine kB (aD (kI (lU (q v1 hvs.1 _ h' tk _ r' λ h2 tk2 m2 led2 r2 q2=>?_))))
 refine kB (aD (kI (lU (q2 v2 hvs.2.1 _ h2 tk2 _ r2 λ h3 tk3 m3 led3 r3 q3=>?_))))
 exact assignInOrder_nil (A7 (H1.of (fl:= .next) r3 rfl q3))
end
end
section
open Builtin Builtin.Range
section
variable{prog:bY}{w:bP}{A:bS}{E:aF->aH->Prop}{s:aH}
theorem z6:isSubtype (.type "range_iterator") (.type "reversed")=pure false:=by rw[eU]; kernel_rfl
noncomputable abbrev l9(n:Nat):Obj:={cls:= .type "range_iterator",data:= .fields #[rawInt ((n:Int) - 1),rawInt n,rawInt (-1)]}
theorem NA(n:Nat):aW 0 (n:Int) 1=(n:Int):=by
 unfold aW
 rw[if_pos (by lia),iC]
 split<;>lia
theorem s3{i:Int}(h1: -1000000 < i)(h2:i < 1000000):rangeFitsLong i=true:=by
 unfold rangeFitsLong
 simp only[fK,decide_eq_true_eq]
 lia
theorem Qm{D:aJ}{a b c:Int}{t u v:Tok}{Q:Int×Int×Int->aH->Prop}(hD:IsRange s.heap D a b c t u v)(h:Q (a,b,c) s):wpAny (model prog w) A (rangeFields (.ref D)) Q E s:=by
 refine aD (dA hD rfl (x:= .int a t) rfl ?_)
 show wpAny _ _ ((pure (some a):Sem (Option Int)) >>=_) _ _ _
 refine aD (aO ?_)
 refine aD (dA hD rfl (x:= .int b u) rfl ?_)
 show wpAny _ _ ((pure (some b):Sem (Option Int)) >>=_) _ _ _
 refine aD (aO ?_)
 refine aD (dA hD rfl (x:= .int c v) rfl ?_)
 show wpAny _ _ ((pure (some c):Sem (Option Int)) >>=_) _ _ _
 exact aD (aO (aO h))
theorem g7{D:aJ}{n:Nat}{t u v:Tok}{Q:aF->aH->Prop}(hD:IsRange s.heap D 0 n 1 t u v)(hn:n<=100000)
  (h:Q (.ref s.heap.objs.size) {s with heap:=s.heap.push (l9 n)}):wpAny (model prog w) A (call (.builtin "range.__reversed__") [.ref D]) Q E s:=by
 have hT:s.TypeIs (.ref D) "range":=⟨_,hD,rfl⟩
 refine gN PySem.F.slot_range_reversed hT PySem.F.entry_range_reversed ?_ (PySem.F.args_range_reversed_1 _)
 refine aD (bH (a:=gS D) rfl ?_)
 refine aD (Qm hD ?_)
 dsimp only
 rw[NA,s3 (i:=0) (by lia) (by lia),s3 (i:=(n:Int)) (by lia) (by lia),s3 (i:=1) (by lia) (by lia),s3 (i:= -1) (by lia) (by lia),s3 (i:=0 - 1) (by lia) (by lia)]
 refine aD (m:=newFields "range_iterator" [rawInt (0+((n:Int) - 1)*1),rawInt n,rawInt (-1)]) ?_
 rw[show(0+((n:Int) - 1)*1)=(n:Int) - 1 by lia]
 exact cS (aO ⟨_,rfl,h⟩)
theorem g5{D:aJ}{n:Nat}{t u v:Tok}{Q₁:aF->aH->Prop}(hD:IsRange s.heap D 0 n 1 t u v)(hn:n<=100000)
  (h:Q₁ (.ref s.heap.objs.size) {s with heap:=s.heap.push (l9 n)}):
  codeAny (model prog w) A (.call (.builtin "reversed.__new__") ⟨[.type "reversed",.ref D],[]⟩) (wants Q₁ E) s:=by
 have hT:s.TypeIs (.ref D) "range":=⟨_,hD,rfl⟩
 refine jI ?_
 show wpAny _ A.in1 (do checkBuiltinCall "reversed.__new__" ⟨[.type "reversed",.ref D],[]⟩; again (.builtin "reversed.__new__" ⟨[.type "reversed",.ref D],[]⟩)) _ _ s
 refine aD (bH (PySem.F.newCall_reversed_1 _) (aO ⟨fX PySem.F.plain_reversed_new _,jJ PySem.F.entry_reversed_new ?_⟩))
 rw[dW PySem.F.plain_reversed_new _]
 refine aD (bH (newClass_reversed _) ?_)
 try dsimp only
 refine aD (bH (a:=()) (by first | rfl | kernel_rfl) ?_)
 refine aD (bH (a:=()) (by first | rfl | kernel_rfl) ?_)
 try dsimp only
 refine aD (bZ hT PySem.F.slot_range_reversed.lookup ?_)
 try dsimp only
 refine aD (bH (PySem.F.slot_range_reversed.bind _) ?_)
 try dsimp only
 first
 | rw[if_neg (show ¬ ((Value.builtin "range.__reversed__" == dN)=true)from eO)]
 | (show wpAny _ _ (if(Value.builtin "range.__reversed__" == dN)=true then _ else _) _ _ _; rw[if_neg (show ¬ ((Value.builtin "range.__reversed__" == dN)=true)from eO)])
 refine aD (fL ?_)
 refine aD (m:=runValue (.call (.builtin "range.__reversed__") ⟨[.ref D],[]⟩)) (show wpAny _ _ (call (.builtin "range.__reversed__") [.ref D]) _ _ _ from g7 hD hn ?_)
 first
 | exact aO h
 | exact aD (aO (aO h))
theorem g6{D:aJ}{n:Nat}{t u v:Tok}{Q:aF->aH->Prop}(hD:IsRange s.heap D 0 n 1 t u v)(hn:n<=100000)
  (h:Q (.ref s.heap.objs.size) {s with heap:=s.heap.push (l9 n)}):wpAny (model prog w) A (call (.type "reversed") [.ref D]) Q E s:=by
 refine callType_other (U:="range_iterator") (Q₁:=λ obj s₁=>obj= .ref s.heap.objs.size/\s₁={s with heap:=s.heap.push (l9 n)}) (by decide+kernel) PySem.F.create_reversed ⟨_,_,PySem.F.mro_reversed⟩ PySem.F.made_reversed z6 (PySem.F.typeCall_reversed_1 _) (g5 hD hn ⟨rfl,rfl⟩) ?_
 rintro obj s₁ ⟨rfl,rfl⟩
 exact⟨⟨_,bC _ rfl,rfl⟩,h⟩
end
section
variable{c:Cx}{m:Lm}{led rest:La}{k:AV->La->Prop}{d:Nat}
theorem NO{D:aJ}{n:Nat}(hD:(D,AO.range 0 n 1)∈led)(hn:n<=100000)(h:∀ I,k (.ref I) ((I,.raw (l9 n))::led)):C9 c (.fn (.type "reversed")) [.ref D] m led k:=
 N9 q9 λ vs hv hh tk r=>A4<|by
  obtain⟨_,rfl,rfl⟩:=CR hv
  obtain⟨o,⟨t,u,w,rfl⟩,hg⟩:=r.get hD
  exact g6 (s:=c.at hh tk) hg hn (E2.ofV (a:= .ref _) (r.push (ao:= .raw _) rfl) rfl (h _))
theorem Ox{I:aJ}{n:Nat}(H:Ok c d)(hp:C1 (I,.raw (l9 n)) led rest):t9 c (.ref I) led n (λ i x=>x= .int ((n:Int) - 1+i*(-1))) rest []:=by
 intro v hv m h tk r K E q
 subst hv
 refine M7 λ G141 hG141=>?_; obtain⟨o,ho,hg,hl,hz⟩:=r.nw _ hp.mem.1; refine hG141 ?_
 have ho:o=l9 n:=ho
 subst ho
 have hz:c.g.get? I=none:=hz
 have nd:=hp.mem.2.2 r.nd
 have W:=Walks.range (prog:=PG) (w:=c.w) H.R.hh I ((n:Int) - 1) (-1) n
 have st:IsRangeIter h I ((n:Int) - 1+(0:Nat)*(-1)) ((n:Int) - (0:Nat)) (-1):=by
  rw[show((n:Int) - 1+(0:Nat)*(-1))=(n:Int) - 1 by lia,show((n:Int) - (0:Nat))=n by lia]
  exact hg
 refine W.self 0 (c.at h tk) _ _ st (q I h [] _ _ (λ i v ⟨t,e⟩=>⟨_,rfl,t,e⟩) ⟨⟨_,_,W,λ b hb=>hb,λ b hb V=> .inl hb,λ b hb=>⟨hb,by rw[aL.mp hb]; exact hz⟩,λ e=>hl (aL.mp e).symm,λ b hb=>by rw[aL.mp hb]; exact hz⟩,λ i h st b hb=>by rw[aL.mp hb]; exact⟨_,st⟩,st⟩ ?_ ?_ λ V r=>r)
 ·rw[R4]; exact r.sub ⟨[(I,.raw (l9 n))],hp.perm.trans (cV (l₁:=[(I,AO.raw (l9 n))]))⟩
 ·rw[R4]; exact nd.1
end
end
section
section
variable{c:Cx}{m:Lm}{led rest back:La}{d:Nat}{σ:Type}{elt iter:aE}{x:Str}{px:Pos}{sc:cB}{pos:Pos}{n:Nat}{It:Nat->AV->Prop}{src:AV}{cl:List (Str×aJ)}{S:cB}
theorem JE{k:AV->La->Prop}(I:t9 c src led n It rest back)(L:σ->La)(P:Nat->σ->List AV->Prop)(s₀:σ)(H:Ok c d)(hS:c.env.scope=S)(hl:Sb rest (L s₀))(h0:P 0 s₀ [])(hkind:sc.kind= .function)(hx:sc.names.lookup x=some .local)(hxd:(x== ("__debug__":Str))=false)(hcell:(sc.names.all λ y=>y.2 != .cell)=true)(hsz:n<=100000)
  (turn:∀ c2,Ok c2 d->c2.env.scope=relabel sc (envOf "" S 0 0 .none)->(c2.w=c.w/\c2.b=c.b)->c2.env.cells=cl->c2.env.code=c.env.code->c2.env.qual=c.env.qual->c2.g=c.g->∀ i a t ys rw,i < n->It i a->P i t ys->ys.length<=i->I0 c2 [(x,a)] 30 elt (L t++rw) (ML (λ t' y=>P (i+1) t' (ys++[y])) L rw))
  (fin:∀ t ys D,P n t ys->∃ ao,(∀ o,L9 c.w (.list ys) o->L9 c.w ao o)/\k (.ref D) (((D,ao)::L t)++back)):U4 c elt (.Name x px) iter [] [] sc pos cl src m led k:=
 x7 (xs:=[x]) I.x L (λ i t ys=>P i t ys/\ys.length<=i) s₀ H hl ⟨h0,aR _⟩ hkind hcell (λ V h=>nomatch h) (λ C=> .name (V8 (xs:=[x]) (by rw[fF,hx,bne,hxd]; rfl) _ (.head _))) (λ i as ⟨a,e,_⟩=>by rw[e]; rfl)
  (λ C O i as D t ys rw ⟨kp,h1,h2⟩ hi ha ⟨hP,hy⟩=>HM (P':=λ t ys=>P (i+1) t ys/\ys.length<=i+1) (by lia) (λ t y h=>⟨h,by rw[aI]; exact bL hy⟩) (by
   obtain⟨a,e,ha⟩:=ha
   subst e
   exact turn (I8 c sc cl C) O (Y8 hS) ⟨rfl,rfl⟩ rfl rfl rfl rfl i a t ys _ hi ha hP hy))
  (λ t ys D hP=>let ⟨ao,e,q⟩:=fin t ys D hP.1; ⟨ao,_,e,.refl,q⟩)
end
end
section
section
variable{c:Cx}{m:Lm}{led:La}{k:AV->La->Prop}
noncomputable def Xs(c:Cx)(m:Lm)(e2:aE)(rest:List aE)(pos:Pos)(k:AV->La->Prop):AV->La->Prop:=λ v led=>match v with
 | .bool b=>Br b (k (.bool true) led) (Y3 c (.BoolOp .Or (e2::rest) pos) m led k)
 | _=>False
noncomputable def VF(c:Cx)(m:Lm)(e2:aE)(rest:List aE)(pos:Pos)(k:AV->La->Prop):AV->La->Prop:=λ v led=>match v with
 | .bool b=>Br b (Y3 c (.BoolOp .And (e2::rest) pos) m led k) (k (.bool false) led)
 | _=>False
set_option tactic.hygienic true in
theorem AR{e1 e2:aE}{rest:List aE}{pos:Pos}(h:I0 c m 30 e1 led (Xs c m e2 rest pos k)):Y3 c (.BoolOp .Or (e1::e2::rest) pos) m led k:=by
 intro hh tk r
 show C5 c.b (model PG c.w) c.A (do
  let v←eval e1 c.env
  standAt pos
  let c'←holding [v] (truthy v)
  match BoolOp.Or,c' with
  | .And,false | .Or,true=>pure v
  | _,_=>boolOp pos .Or (eval e2 c.env::evalEach rest c.env)) _ _ _
 refine B5 (K5.seq (sE h) (λ v a led' ha q h tk r=>A9 (B5 (B0 ?_))) r)
 cases a<;>first | exact q.elim | skip
 rename_i b
 cases ha
 refine A7 ?_
 cases b with
 | true=>exact A7 ⟨h,tk,led',rfl,r,.bool true,rfl,q.1 rfl⟩
 | false=>exact q.2 rfl h tk r
set_option tactic.hygienic true in
theorem o9{e1 e2:aE}{rest:List aE}{pos:Pos}(h:I0 c m 30 e1 led (VF c m e2 rest pos k)):Y3 c (.BoolOp .And (e1::e2::rest) pos) m led k:=by
 intro hh tk r
 show C5 c.b (model PG c.w) c.A (do
  let v←eval e1 c.env
  standAt pos
  let c'←holding [v] (truthy v)
  match BoolOp.And,c' with
  | .And,false | .Or,true=>pure v
  | _,_=>boolOp pos .And (eval e2 c.env::evalEach rest c.env)) _ _ _
 refine B5 (K5.seq (sE h) (λ v a led' ha q h tk r=>A9 (B5 (B0 ?_))) r)
 cases a<;>first | exact q.elim | skip
 rename_i b
 cases ha
 refine A7 ?_
 cases b with
 | false=>exact A7 ⟨h,tk,led',rfl,r,.bool false,rfl,q.2 rfl⟩
 | true=>exact q.1 rfl h tk r
theorem Du{op:BoolOp}{e:aE}{pos:Pos}(h:I0 c m 30 e led k):Y3 c (.BoolOp op [e] pos) m led k:=λ hh tk r=>sE h hh tk r
end
end
section
theorem y4.mk'{w:Int}(n5:Nat)(h1:w=2∨w=10∨w=11∨w=12∨w=15)(h2:n5 < 5):y4 [(aA "Predictor",.int w),(aA "Columns",.int (1+(n5:Int)))]:=by
 have:=y4.mk w (1+n5) h1 (by lia) (by lia)
 rwa [show(((1+n5:Nat)):Int)=1+(n5:Int)by lia]at this
inductive MI:List (List (Str×AV))->List aJ->La->Prop
 | nil:MI [] [] []
 | snoc {bs ras nl a b}:MI bs ras nl->y4 b->(2<=bs.length->b=[])->MI (bs++[b]) (ras++[a]) ((a,.sd b)::nl)
theorem MI.len{bs ras nl}(x:MI bs ras nl):ras.length=bs.length/\nl.length=bs.length:=by
 induction x with
 | nil=>exact⟨rfl,rfl⟩
 | snoc _ _ _ ih=>simp only[aI,bW,eW]; lia
theorem MI.at{bs ras nl}(x:MI bs ras nl):∀ {i:Nat},i < bs.length->∃ a b,ras[i]? =some a/\bs[i]? =some b/\(a,AO.sd b)∈nl/\y4 b/\(2<=i->b=[]):=by
 induction x with
 | nil=>intro i h; cases h
 | @snoc bs ras nl a b hx hb h2 ih=>
  intro i hi
  rw[aI]at hi
  have hl:=hx.len.1
  by_cases h:i < bs.length
  ·refine M7 λ G8 hG8=>?_; obtain⟨a',b',e1,e2,e3,e4,e5⟩:=ih h; refine hG8 ?_
   exact⟨a',b',by rw[cD (by lia)]; exact e1,by rw[cD h]; exact e2,.tail _ e3,e4,e5⟩
  ·have hi:i < bs.length+1:=hi
   have e:i=bs.length:=by lia
   subst e
   exact⟨a,b,by rw[cF (by lia),hl,iA]; rfl,by rw[cF (aR _),iA]; rfl,.head _,hb,h2⟩
noncomputable def zc(j:Nat):Nat:=if j=3 then 16 else if j=2 then 36 else if j=1 then 100 else 300
theorem JA{bs:List (List (Str×AV))}{ks:List Int}{j:Nat}{b:List (Str×AV)}{n:Int}{s r oc:List Int}(hb:bs[j]? =some b)(hn:ks[j]? =some n)(h1:Un b (i7 n) r s)(hU:S2 (bs.drop (j+1)) (K4 (ks.drop (j+1))) s oc):S2 (bs.drop j) (K4 (ks.drop j)) r oc:=by
 refine M7 λ G9 hG9=>?_; obtain⟨l1,e1⟩:=aT.mp hb
 obtain⟨l2,e2⟩:=aT.mp hn; refine hG9 ?_
 rw[dD l1,dD l2,e1,e2]
 exact .cons h1 hU
theorem zb{z Z y:Nat}(h:y<=9*(2*z+2) / 8+12)(hz:z<=Z):y<=9*(2*Z+2) / 8+12:=
 aS h (dM (Nat.div_le_div_right (dS 9 (dM (dS 2 hz) 2))) 12)
theorem Km{j z y:Nat}(hj:j<=2)(hz:z<=zc (j+1))(h2:j=2->y<=2*z+1∨y<=z+20)(h:y<=9*(2*z+2) / 8+12):y<=zc j:=by
 have:j=0∨j=1∨j=2:=by lia
 rcases this with rfl | rfl | rfl
 ·exact aS (zb h (Z:=100) hz) (by decide)
 ·exact aS (zb h (Z:=36) hz) (by decide)
 ·have hz:z<=16:=hz
  exact(h2 rfl).elim (λ h=>aS (aS h (dM (dS 2 hz) 1)) (by decide)) λ h=>aS h (dM hz 20)
theorem PH{j z:Nat}(hj:j<=2)(hz:z<=zc (j+1)):z<=100:=by
 have:j=0∨j=1∨j=2:=by lia
 rcases this with rfl | rfl | rfl<;>exact aS hz (by decide)
theorem Wy{j z:Nat}(hj:j<=3)(hz:z<=16):z<=zc j:=by
 unfold zc
 (repeat' split)<;>exact aS hz (by decide)
noncomputable def MG:Option (aJ×Obj)->La
 | none=>[(833,.raw (tabObj #[]))]
 | some p=>[(833,.raw (tabObj (#[]++#[rawInt 759,rawInt 19,.ref p.1]))),(p.1,.raw p.2)]
theorem E9.cast0{es:List (Int×AV)}{led:La}{vs:List AV}{fs:List Str}(x:E9 (es++[]) led vs fs):E9 es led vs fs:=by rw[bA]at x; exact x
noncomputable def Gx:List Str:=[aA "DCTDecode",aA "CCITTFaxDecode",aA "JPXDecode",aA "FlateDecode"]
theorem YY{i:Nat}{a:AV}(ha:[AV.str (aA "DCT"),AV.str (aA "CCF"),AV.str (aA "JPXDecode"),AV.str (aA "Fl")][i]? =some a):∃ t f,a= .str t/\Gx[i]? =some f/\(I9 t u7).getD (.str t)= .str f:=by
 match i with
 | 0=>cases ha; exact⟨_,_,rfl,rfl,rfl⟩
 | 1=>cases ha; exact⟨_,_,rfl,rfl,rfl⟩
 | 2=>cases ha; exact⟨_,_,rfl,rfl,rfl⟩
 | 3=>cases ha; exact⟨_,_,rfl,rfl,rfl⟩
 | n+4=>cases ha
theorem MG.ex(s:Option (aJ×Obj)):∃ ps tl,MG s=(833,AO.raw (tabObj ps))::tl/\TriplesOk ps.toList/\codeAmong ⟨765,23,765,65⟩ ps.toList=none:=by
 cases s with
 | none=>exact⟨_,_,rfl,trivial,rfl⟩
 | some p=>exact⟨_,_,rfl,trivial,rfl⟩
theorem NE{p t u:aJ×AO}{X:La}:Sb (p::t::u::X) (X++[p]):=⟨[t,u],by
 rw[aP]
 exact cV (l₁:=[p,t,u]) (l₂:=X)⟩
theorem Nu{bs:List (List (Str×AV))}{ns oc:List Int}(h:S2 bs [] ns oc):ns=oc/\bs=[]:=by cases h; exact⟨rfl,rfl⟩
theorem Qn{r:Int}(h0:0<=r)(h1:r < 6):∃ w:Int,(w=1∨w=2∨w=10∨w=11∨w=12∨w=15)/\[AV.int 1,AV.int 2,AV.int 10,AV.int 11,AV.int 12,AV.int 15][r.toNat]? =some (AV.int w):=by
 have:r=0∨r=1∨r=2∨r=3∨r=4∨r=5:=by lia
 rcases this with rfl | rfl | rfl | rfl | rfl | rfl
 ·exact⟨1,by decide,rfl⟩
 ·exact⟨2,by decide,rfl⟩
 ·exact⟨10,by decide,rfl⟩
 ·exact⟨11,by decide,rfl⟩
 ·exact⟨12,by decide,rfl⟩
 ·exact⟨15,by decide,rfl⟩
noncomputable def CS:List Str:=[aA "stream",aA "shelf",aA "head",aA "data",aA "pen"]
theorem claim:bJ.Holds:=by
 refine Nx λ w s loose mean mg mb T X sm l vs ns hls hL hI hlen hbits=>?_
 refine' OI [("script",.ref l)] [("script",.ref l)] [("stream",none),("shelf",none),("head",none),("data",none),("pen",none)] T X sm ?hK ?ho ?hcd ?hb ?_ ?h1 ?h2 ?h3 ?h4 ?h5 ?h6 ?h7 ?h8 ?h9
 (case hK=>kernel_rfl); (case ho=>k_is); (case hcd=>k_is); (case hb=>exact EY (λ V=>rfl)); (case h1=>kernel_rfl); (case h2=>kernel_rfl); (case h3=>exact⟨rfl,trivial⟩); (case h4=>rfl); (case h5=>kernel_rfl); (case h6=>decide); (case h7=>rfl); (case h8=>rfl); (case h9=>rfl)
 intro c1 hw hb O hs hfr hown hcode hqual C hg Ws Wh Wd Wp Wx hc
 have hL1:c1.g.IsList l vs.toArray:=by
  obtain⟨o,e1,e2,e3⟩:=ghost_list (tabs:=[(835,833)]) (λ q hq=>by rw[aL.mp hq]; exact Am T X) hL
  exact⟨o,hg _ _ e1,e2,e3⟩
 refine' M8 ?_
 refine' A1 O hs ?_
 refine' NQ (O.le (by tm_at "a")) hL1 hI hlen (λ P Cc cs q hz hq0 hq1=>?_)
 refine' I2 O hs rfl hc rfl (by tm_at "e") ?_
 refine' W6 ?_
 refine' m8 O hs ?_
 refine' A1 O hs ?_
 refine' A3 O hs hc ?_
 refine' Lk (O.le (by tm_at "a")) (by tm_at "e") (by tm_at "b") hz ⟨hq0,hq1⟩ (by decide) (λ oc t1 hoz ho ht1=>?_)
 refine' P5 .int (λ T0=>?_)
 refine' E4 (aB rfl) (λ D=>?_)
 refine' W4 (by tm_at "b") rfl (i5 hs (by kernel_rfl)) ?_
 refine' AQ ?_ ((H4 hc).trans rfl) rfl (by kernel_rfl) ((AB hs).trans (by kernel_rfl))
 refine' A0 O hs ?_
 refine' A1 O hs ?_
 refine' A3 O hs hc ?_
 (refine' I3 (O.le (by tm_at "a")) (by tm_at "e") (by tm_at "b") (by tm_at "a") hz ⟨hq0,hq1⟩ (by tm_at "a") (λ r2 t2 ht2 g20 g21=>?_); obtain⟨n2,rfl⟩:∃ n:Nat,r2=n:=⟨r2.toNat,by lia⟩)
 refine' H9 (λ D=>?_)
 refine' Bk (xs:=[aA "turn"]) (E6 hs rfl rfl) (P7 n2 O (.head _) (Bz (by lia)).1 (Bz (by lia)).2).x (λ s:Nat×Int=>(P,J4 Cc q s)::(T0,.kd [])::(Wx,.cell (some (.ref P)))::(Cc,.ints cs)::(Ws,.cell none)::(Wh,.cell none)::(Wd,.cell none)::(Wp,.cell none)::[(833,.raw (tabObj #[]))]) (λ i s ys=>∃ ns:List Int,ys=ns.map .int/\ns.length=i/\(∀ n∈ns,0<=n/\n < 5)/\s.1<=41+i) t2 O hs (by tm_at "d") ⟨[],rfl,rfl,(λ V h=>nomatch h),by have:t1.1<=0+40:=ht1; lia⟩ rfl (by kernel_rfl) (λ c2 h=> .name (h _ (.head _))) (λ i as ⟨_,e,_⟩=>by rw[e]; rfl) (by kernel_rfl) (by lia) ?_ ?_
 ·clear O hs hc
  (intro c2 O hs hw2 hc i as t ys rw _ hi; refine Bx λ V zz4 zz5=>?_; refine Wn λ xs zz6 hx1 hx2 hx3=>?_; intro hyl; subst zz4; subst zz5; subst zz6)
  refine' A1 O hs ?_
  refine' A3 O hs hc ?_
  refine' I3 (O.le (by tm_at "a")) (by tm_at "e") (by tm_at "b") (by tm_at "a") hz ⟨hq0,hq1⟩ (by lia) (λ r t3 ht3 g0 g1=>?_)
  exact Hu t3 ⟨xs++[r],by rw[bB]; rfl,by rw[aI,hx1]; rfl,(λ n hn=>(cM.mp hn).elim (hx2 n) λ hn=>by rw[aL.mp hn]; exact⟨g0,g1⟩),by lia⟩ (by tm_at "d")
 (intro t3 _ K; refine Wn λ ks zz17 hk1 hk2 ht3=>?_; subst zz17)
 refine'⟨.ints ks,λ o ⟨vs,n,e,hi⟩=>⟨vs,n,e,Y7 hi⟩,?_⟩
 change V5 c1 _ _ _ _ .next [("script",.ref l),("table",.ref T0),("octets",.bytes oc),("numbers",.ref K)] ((K,.ints ks)::(P,J4 Cc q t3)::(T0,.kd [])::(Wx,.cell (some (.ref P)))::(Cc,.ints cs)::(Ws,.cell none)::(Wh,.cell none)::(Wd,.cell none)::(Wp,.cell none)::[(833,.raw (tabObj #[]))])
 have hnl:ks.length<=3:=by lia
 refine' W6 ?_
 refine' Fy O hs ?_
 refine' H3 (as:=[]) (by decide) (λ R=>?_)
 refine' E4 (aB rfl) (λ D=>?_)
 refine'⟨_,_,_,rfl,by tm_at "b",Fj (E6 hs rfl rfl) (Db O hs rfl hc rfl (by tm_at "e") ?_)⟩
 refine' F5 ?_
 refine' G6 CS O ?_
 refine' V3 CS (λ s:(Nat×Int)×List (List (Str×AV))×List aJ×La=>[("rows",.ref R),("script",.ref l),("table",.ref T0),("octets",.bytes oc),("numbers",.ref K)]) (λ s=>(R,.list (s.2.2.1.map .ref))::(P,J4 Cc q s.1)::(s.2.2.2++(T0,.kd [])::(Wx,.cell (some (.ref P)))::(Wp,.cell (some (.bytes oc)))::(Cc,.ints cs)::(Ws,.cell none)::(Wh,.cell none)::(Wd,.cell none)::[(833,.raw (tabObj #[]))])) (λ i s=>MI s.2.1 s.2.2.1 s.2.2.2/\s.2.1.length=i/\s.1.1<=50+2*i) (λ s=>MI s.2.1 s.2.2.1 s.2.2.2/\s.2.1.length=ks.length/\s.1.1<=60) (t3,[],[],[]) O (E6 hs rfl rfl) (by tm_at "e") ⟨rfl,rfl,rfl,rfl,rfl,trivial⟩ (by tm_at "d") ⟨.nil,rfl,by lia⟩ ?_ (λ s ⟨h1,h2,h3⟩=>⟨h1,h2,by lia⟩) ?_
 ·(intro i n; refine MQ λ t bs ras nl=>?_; intro rw KK hK hn; refine Mk λ hR hi ht=>?_)
  dsimp only at hR hi ht
  refine M7 λ G10 hG10=>?_; obtain⟨hRa,hRn⟩:=hR.len; refine hG10 ?_
  have hn5:=hk2 n (bT hn)
  have hi3:i < 3:=by have:=(aT.mp hn).1; lia
  have hfin:∀ (b:List (Str×AV)) (B:aJ) (t':Nat×Int) (mm:Lm) (ll:La),y4 b->(2<=bs.length->b=[])->t'.1<=t.1+2->Q8 mm [("rows",.ref R),("script",.ref l),("table",.ref T0),("octets",.bytes oc),("numbers",.ref K)]->Sb ll ((R,.list (ras.map .ref++[.ref B]))::(P,J4 Cc q t')::((B,.sd b)::nl++(T0,.kd [])::(Wx,.cell (some (.ref P)))::(Wp,.cell (some (.bytes oc)))::(Cc,.ints cs)::(Ws,.cell none)::(Wh,.cell none)::(Wd,.cell none)::[(833,.raw (tabObj #[]))])++rw)->KK .next mm ll:=λ b B t' mm ll h1 h2 h3 h4 h5=>by
   refine' hK _ _ _ ?_
   exact go (t',bs++[b],ras++[B],(B,.sd b)::nl) ⟨.snoc hR h1 h2,by rw[aI,hi]; rfl,by lia⟩ h4 (by rw[bB]; exact h5)
  have nd2:[aA "Predictor",aA "Columns"].Nodup:=by decide+kernel
  have Og:Ok (noG c1) 20:=O.b False
  refine' A6 ?_
  refine' s8 (λ hd=>?_) (λ hd=>?_)
  refine' A0 O hs ?_
  refine' N3 (.head _) (by rw[aQ]; lia) ?_
  refine' s8 (λ hd=>?_) (λ hd=>?_)
  refine' J5 ?_
  refine' E4 (aB rfl) (λ D=>?_)
  first | refine' A1 O hs ?_ | refine' A1 Og hs ?_
  first | refine' A3 O hs hc ?_ (hm:=by tm_at "f") | refine' A3 Og hs hc ?_ (hm:=by tm_at "f")
  (refine' I3 (O.le (by tm_at "a")) (by tm_at "g") (by tm_at "f") (by tm_at "a") hz ⟨hq0,hq1⟩ (by lia) (λ r t4 ht4 g0 g1=>?_); obtain⟨w6,hw6,hwi⟩:=Qn g0 g1)
  refine' AK (by tm_at "b") (by tm_at "a") (by tm_at "a") hwi ?_
  refine' B1 hs ?_
  refine' D8 ?_
  refine' R5 (by tm_at "b") ?_
  first | refine' L8 (by tm_at "c") ?_ | refine' br (λ he=>?_) (λ he=>?_)
  refine' P5 .str (λ B=>?_)
  refine' O8 (by tm_at "e") (by tm_at "c") ?_
  exact hfin [] B t4 _ _ .nil (λ V=>rfl) (by lia) ⟨rfl,rfl,rfl,rfl,rfl,trivial⟩ (i6 [[_],[_],[_],[_],_,[_],[_],[_],[_],[_],[_],[_],[_],_] (.a [0,1,2,3] (.s [4,5,6,7,8,9,10,11,12]) (.e [] 13)) (.a [] (.a [0,2] (.e [1] 4) (.s [5,6,7,8,9,10,11,12])) (.e [] 13)) rfl)
  refine' o8 .str (λ B=>?_) (by kernel_rfl) (by kernel_rfl)
  refine'⟨_,rfl,?_⟩
  refine'⟨_,rfl,?_⟩
  first | refine' A1 O hs ?_ | refine' A1 Og hs ?_
  first | refine' A3 O hs hc ?_ (hm:=by tm_at "f") | refine' A3 Og hs hc ?_ (hm:=by tm_at "f")
  (refine' I3 (Og.le (by tm_at "a")) (by tm_at "g") (by tm_at "f") (by tm_at "a") hz ⟨hq0,hq1⟩ (by lia) (λ r t5 ht5 g0 g1=>?_); obtain⟨n5,rfl⟩:∃ n:Nat,r=n:=⟨r.toNat,by lia⟩)
  refine'⟨_,by tm_at "g",nd2,?_⟩
  refine' O8 (by tm_at "e") (by tm_at "c") ?_
  first | exact hfin [] B t4 _ _ .nil (λ V=>rfl) (by lia) ⟨rfl,rfl,rfl,rfl,rfl,trivial⟩ (i6 [[_],[_],[_],[_],_,[_],[_],[_],[_],[_],[_],[_],[_],_] (.a [0,1,2,3] (.s [4,5,6,7,8,9,10,11,12]) (.e [] 13)) (.a [] (.a [0,2] (.e [1] 4) (.s [5,6,7,8,9,10,11,12])) (.e [] 13)) rfl) | exact hfin [] B t _ _ .nil (λ V=>rfl) (by lia) ⟨rfl,rfl,rfl,rfl,rfl,trivial⟩ (i6 [[_],[_],[_],[_],_,[_],[_],[_],[_],[_],[_],[_],[_],_] (.a [0,1,2,3] (.s [4,5,6,7,8,9,10,11,12]) (.e [] 13)) (.a [] (.a [0,2] (.e [1] 4) (.s [5,6,7,8,9,10,11,12])) (.e [] 13)) rfl) | exact hfin _ B t5 _ _ (.mk' (w:=w6) n5 (by lia) (by lia)) (λ h=>absurd hd (by rw[aQ]; lia)) (by lia) ⟨rfl,rfl,rfl,rfl,rfl,trivial⟩ (i6 [[_],[_],[_],[_],_,[_],[_],[_],[_],[_],[_],[_],[_],_] (.a [0,1,2,3] (.s [4,5,6,7,8,9,10,11,12]) (.e [] 13)) (.a [] (.a [0,2] (.e [1] 4) (.s [5,6,7,8,9,10,11,12])) (.e [] 13)) rfl)
  refine' G1 ?_
  refine' B1 hs ?_
  refine' D8 ?_
  refine' R5 (by tm_at "b") ?_
  first | refine' L8 (by tm_at "c") ?_ | refine' br (λ he=>?_) (λ he=>?_)
  refine' P5 .str (λ B=>?_)
  refine' O8 (by tm_at "e") (by tm_at "c") ?_
  exact hfin [] B t _ _ .nil (λ V=>rfl) (by lia) ⟨rfl,rfl,rfl,rfl,rfl,trivial⟩ (i6 [[_],[_],[_],_,[_],[_],[_],[_],[_],[_],[_],[_],_] (.a [0,1] (.s [2,3,4,5,6,7,8,9,10,11]) (.e [] 12)) (.a [] (.a [0,2] (.e [1] 3) (.s [4,5,6,7,8,9,10,11])) (.e [] 12)) rfl)
  refine' G1 ?_
  refine' B1 hs ?_
  refine' D8 ?_
  refine' R5 (by tm_at "b") ?_
  first | refine' L8 (by tm_at "c") ?_ | refine' br (λ he=>?_) (λ he=>?_)
  refine' P5 .str (λ B=>?_)
  refine' O8 (by tm_at "e") (by tm_at "c") ?_
  exact hfin [] B t _ _ .nil (λ V=>rfl) (by lia) ⟨rfl,rfl,rfl,rfl,rfl,trivial⟩ (i6 [[_],[_],[_],_,[_],[_],[_],[_],[_],[_],[_],[_],_] (.a [0,1] (.s [2,3,4,5,6,7,8,9,10,11]) (.e [] 12)) (.a [] (.a [0,2] (.e [1] 3) (.s [4,5,6,7,8,9,10,11])) (.e [] 12)) rfl)
 (refine MQ λ t4 bs ras nl=>?_; refine Mk λ hR hbl ht4=>?_)
 dsimp only at hR hbl ht4
 refine M7 λ G11 hG11=>?_; obtain⟨hRa,hRn⟩:=hR.len; refine hG11 ?_
 change V5 c1 _ _ _ _ .next [("rows",.ref R),("script",.ref l),("table",.ref T0),("octets",.bytes oc),("numbers",.ref K)] ((R,.list (ras.map .ref))::(P,J4 Cc q t4)::(nl++(T0,.kd [])::(Wx,.cell (some (.ref P)))::(Wp,.cell (some (.bytes oc)))::(Cc,.ints cs)::(Ws,.cell none)::(Wh,.cell none)::(Wd,.cell none)::[(833,.raw (tabObj #[]))])++[(K,.ints ks)])
 refine' F5 ?_
 refine' T1 ?_
 refine' A0 O hs ?_
 refine' A0 O hs ?_
 refine' A0 O hs ?_
 refine' M2 (by tm_at "f") (by lia) ?_
 refine' H9 (λ D=>?_)
 refine' NO (n:=ks.length) (.head _) (by lia) (λ I=>?_)
 refine' Z5 CS (λ V:List Int=>[("rows",.ref R),("script",.ref l),("table",.ref T0),("octets",.bytes oc),("numbers",.ref K)]) (λ s=>(Wp,.cell (some (.bytes s)))::(R,.list (ras.map .ref))::(P,J4 Cc q t4)::(nl++(T0,.kd [])::(Wx,.cell (some (.ref P)))::(Cc,.ints cs)::(Ws,.cell none)::(Wh,.cell none)::(Wd,.cell none)::[(833,.raw (tabObj #[])),(K,.ints ks)])) (λ i s=>S2 (bs.drop (ks.length - i)) (K4 (ks.drop (ks.length - i))) s oc/\W0 s/\s.length<=zc (ks.length - i)) (λ s=>S2 bs (K4 ks) s oc/\W0 s) oc (xs:=[aA "spot"]) (Ox O (.head _)).x O (.name (E6 hs rfl rfl)) (λ i as ⟨_,e,_⟩=>by rw[e]; rfl) ⟨rfl,rfl,rfl,rfl,rfl,trivial⟩ (i6 [[_],[_],[_],_,[_],[_],[_],[_],[_],[_],[_],[_],[_]] (.a [0] (.s [1,2,3,4,5,6,7,8,9,10,11]) (.s [12])) (.s [6,1,2,3,4,5,7,8,9,10,11,12]) rfl) ⟨by rw[Nat.sub_zero,iK,←hbl,iK]; exact .nil,ho,Wy (by lia) hoz⟩ ?_ (λ s ⟨h1,h2,h3⟩=>⟨by rw[iA]at h1; exact h1,h2⟩) ?_
 ·(intro i _ s rw KK hK hi; refine Bx λ x zz25 hx=>?_; refine Mk λ hU hO hz1=>?_; subst zz25)
  obtain⟨j,hj⟩:=Nat.exists_eq_add_of_lt (show i < ks.length by lia)
  obtain rfl:x= .int j:=by rw[hx,hj]; congr 1; lia
  have ej:ks.length - i=j+1:=by rw[hj,lR]; exact cA _ _
  have ej1:ks.length - (i+1)=j:=by rw[hj,Nat.add_right_comm]; exact cA _ _
  rw[ej]at hU hz1
  refine M7 λ G12 hG12=>?_; obtain⟨a,b,e1,e2,e3,e4,e5⟩:=hR.at (i:=j) (by lia); refine hG12 ?_
  have e6:ks[j]? =some (ks.getD j 0):=by rw[aK,aM (by lia)]; rfl
  have hn5:=hk2 _ (bT e6)
  have e7:(ras.map AV.ref)[j]? =some (.ref a):=by rw[cJ,e1]; rfl
  have hz2:=PH (by lia) hz1
  refine' M8 ?_
  refine' A1 O hs ?_
  refine' M3 (ns:=ks) (by tm_at "f") (by lia) (by lia) (by lia) (n:=ks.getD j 0) rfl ?_
  refine' A3 O hs hc ?_ (hm:=by tm_at "f")
  refine' K7 (as:=ras.map .ref) (by tm_at "f") (by lia) (by lia) e7 ?_
  refine' NX (O.le (by tm_at "a")) (by tm_at "f") hn5.1 hn5.2 e4 hO hz2 (λ r hr1 hr2 hr3 hr4=>?_)
  refine' I2 O hs rfl hc rfl (by tm_at "g") ?_
  (refine' hK _ _ _ ?_; exact go r ⟨by rw[ej1]; exact JA e2 e6 hr1 hU,hr2,by rw[ej1]; exact Km (by lia) hz1 (λ h=>hr3 (e5 (by lia))) hr4⟩ ⟨rfl,rfl,rfl,rfl,rfl,trivial⟩ (i6 [[_],[_],[_],_,[_],[_],[_],[_],[_],[_],[_],[_],_] (.a [0] (.s [1,2,3,4,5,6,7,8,9,10,11]) (.e [] 12)) (.a [] (.s [0,1,2,3,4,5,6,7,8,9,10,11]) (.e [] 12)) rfl))
 (intro da; refine EQ λ hU hda=>?_)
 change V5 c1 _ _ _ _ .next [("rows",.ref R),("script",.ref l),("table",.ref T0),("octets",.bytes oc),("numbers",.ref K)] ((Wp,.cell (some (.bytes da)))::(R,.list (ras.map .ref))::(P,J4 Cc q t4)::(nl++(T0,.kd [])::(Wx,.cell (some (.ref P)))::(Cc,.ints cs)::(Ws,.cell none)::(Wh,.cell none)::(Wd,.cell none)::[(833,.raw (tabObj #[])),(K,.ints ks)])++[])
 have hra:ras.length=bs.length/\∀ {i:Nat} {a:aJ},ras[i]? =some a->∃ b,bs[i]? =some b/\(a,AO.sd b)∈(Wp,.cell (some (.bytes da)))::(Wx,.cell (some (.ref P)))::(Cc,.ints cs)::(Ws,.cell none)::(Wh,.cell none)::(Wd,.cell none)::(833,.raw (tabObj #[]))::nl:=⟨hRa,λ{i a} e=>by
  obtain⟨a',b,e1,e2,e3,_⟩:=hR.at (i:=i) (by have:=(aT.mp e).1; lia)
  rw[e]at e1; cases e1
  exact⟨b,e2,by tm_at "f"⟩⟩
 have hbs:∀ b∈bs,XQ b:=λ b hb=>by
  obtain⟨i,hi,rfl⟩:=List.mem_iff_getElem.mp hb
  refine M7 λ G13 hG13=>?_; obtain⟨_,b',_,e2,_,e4,_⟩:=hR.at hi; refine hG13 ?_
  rw[aM hi]at e2; cases e2
  exact e4.rwb
 refine' A1 O hs ?_
 refine' A1 O hs ?_
 refine' A3 O hs hc ?_ (hm:=by tm_at "f")
 refine' C9.sub (l2:=(P,J4 Cc q t4)::(T0,.kd [])::(K,.ints ks)::(R,.list (ras.map .ref))::(Wp,.cell (some (.bytes da)))::(Wx,.cell (some (.ref P)))::(Cc,.ints cs)::(Ws,.cell none)::(Wh,.cell none)::(Wd,.cell none)::(833,.raw (tabObj #[]))::nl) (i6 [[_],[_],[_],_,[_],[_],[_],[_],[_],[_],[_],[_]] (.a [] (.s [0,1,2,3,4,5,6,7,8,9,10,11]) (.s [])) (.e [2,4,11,1,0,5,6,7,8,9,10] 3) rfl) (Ls (O.le (by tm_at "a")) (by tm_at "b") hz ⟨hq0,hq1⟩ (by lia) hnl hk2 hbl hra hbs (λ Hx hd t5 es nl2 hF hPm hLe hln ht5=>?_))
 refine' A3 O hs hc ?_ (hm:=by tm_at "f")
 refine' v4 (O.le (by tm_at "a")) (λ X1 D1=>?_)
 refine' I2 O hs rfl hc rfl (by tm_at "g") ?_
 refine' M8 ?_
 refine' A1 O hs ?_
 refine' P5 .str (λ X=>?_)
 refine' GG (O.le (by tm_at "a")) (λ X2 D2=>?_)
 refine' I2 O hs rfl hc rfl (by tm_at "g") ?_
 refine' B7 ?_
 refine' A1 O hs ?_
 refine' A3 O hs hc ?_ (hm:=by tm_at "f")
 refine' A3 O hs hc ?_ (hm:=by tm_at "f")
 refine' A2 O ?_
 have hF1:F9 es ((K,.ints ks)::(Wh,.cell (some (.ref X2)))::(X2,.inst 605 D2)::(D2,.dict [(aA "table",.ref T0),(aA "trailer",.ref X)])::(Ws,.cell (some (.ref X1)))::(X1,.inst 541 D1)::(D1,.dict [(aA "head",.ref Hx),(aA "octets",.bytes da)])::(Hx,.sd hd)::(P,J4 Cc q t5)::(T0,.kd es)::(Wp,.cell (some (.bytes da)))::(Wx,.cell (some (.ref P)))::(Cc,.ints cs)::(Wd,.cell none)::(833,.raw (tabObj #[]))::nl2) ((I9 (aA "Filter") hd).getD .none) (K4 ks):=hF.up' λ q hq=>by tm_at "f"
 refine' C9.sub (l2:=(K,.ints ks)::(Wh,.cell (some (.ref X2)))::(X2,.inst 605 D2)::(D2,.dict [(aA "table",.ref T0),(aA "trailer",.ref X)])::(Ws,.cell (some (.ref X1)))::(X1,.inst 541 D1)::(D1,.dict [(aA "head",.ref Hx),(aA "octets",.bytes da)])::(Hx,.sd hd)::(P,J4 Cc q t5)::(T0,.kd es)::(Wp,.cell (some (.bytes da)))::(Wx,.cell (some (.ref P)))::(Cc,.ints cs)::(Wd,.cell none)::(833,.raw (tabObj #[]))::nl2) (i6 [[_],[_],[_],[_],[_],[_],[_],[_],[_],[_],_,[_],[_],[_],[_],[_],[_],[_],_] (.e [0,1,2,3,4,5,6,7,8,9,10,11,12,13,14,15,16,17] 18) (.e [11,0,1,2,4,5,6,7,8,9,13,14,15,16,17] 10) rfl) (X9 (O.le (by tm_at "a")) (by tm_at "b") (by tm_at "b") (by tm_at "b") (by tm_at "b") rfl hF1 (by rw[aQ]; lia) (λ N1=>?_))
 refine' K3 ?_ ((H4 hc).trans rfl) rfl (by kernel_rfl)
 refine' s6 (An O (.tail (.head _))) (λ V:Unit=>_) (λ i V ys=>ys=(K4 (ks.take i)).map .str) () O hs .refl rfl rfl rfl rfl (by kernel_rfl) (by lia) ?_ ?_
 ·clear O hs hc
  (intro c2 O hs hw2 hc2 i _ _ ys rw hi; refine Bx λ n hn zz33=>?_; intro zz34 hyl; subst zz33; subst zz34)
  have hn5:=hk2 n (bT hn)
  refine M7 λ G14 hG14=>?_; obtain⟨_,_,_,items,a,e1,e2,e3,e4⟩:=Jh (P:=c2.w.params) hn5.1 hn5.2; refine hG14 ?_
  refine' A1 O hs ?_
  refine' o6 (a:= .ref a) O e1 hn5.1 (by tm_at "a") e2 rfl ?_
  refine' o6 (a:= .str (i7 n)) O e3 (iO _) (by tm_at "a") rfl ⟨_,rfl⟩ ?_
  exact Hu () (by rw[aV,hn,K4,K4,bB,bB]; rfl) .refl
 rintro _ ys N2 rfl
 refine'⟨_,λ V h=>h,?_⟩
 rw[bD]
 refine' v5 O (by tm_at "f") (by tm_at "f") (by simp[Wi]) ?_
 refine' G1 ?_
 refine' K3 ?_ ((H4 hc).trans rfl) rfl (by kernel_rfl)
 refine' A0 O hs ?_
 refine' H9 (λ D=>?_)
 have hb1:c1.b:=hb▸trivial
 obtain⟨LLr,eL⟩:∃ L:La,L=(Wh,.cell (some (.ref X2)))::(X2,.inst 605 D2)::(D2,.dict [(aA "table",.ref T0),(aA "trailer",.ref X)])::(Ws,.cell (some (.ref X1)))::(X1,.inst 541 D1)::(D1,.dict [(aA "head",.ref Hx),(aA "octets",.bytes da)])::(Hx,.sd hd)::(P,J4 Cc q t5)::(T0,.kd es)::(Wp,.cell (some (.bytes da)))::(Wx,.cell (some (.ref P)))::(Cc,.ints cs)::(Wd,.cell none)::(K,.ints ks)::nl2:=⟨_,rfl⟩
 have mWx:(Wx,AO.cell (some (.ref P)))∈LLr:=by rw[eL]; tm_at "f"
 have mK:(K,AO.ints ks)∈LLr:=by rw[eL]; tm_at "f"
 have mWh:(Wh,AO.cell (some (.ref X2)))∈LLr:=by rw[eL]; tm_at "f"
 have mX2:(X2,AO.inst 605 D2)∈LLr:=by rw[eL]; tm_at "f"
 have mD2:(D2,AO.dict [(aA "table",.ref T0),(aA "trailer",.ref X)])∈LLr:=by rw[eL]; tm_at "f"
 have mWs:(Ws,AO.cell (some (.ref X1)))∈LLr:=by rw[eL]; tm_at "f"
 have mX1:(X1,AO.inst 541 D1)∈LLr:=by rw[eL]; tm_at "f"
 have mD1:(D1,AO.dict [(aA "head",.ref Hx),(aA "octets",.bytes da)])∈LLr:=by rw[eL]; tm_at "f"
 have mHx:(Hx,AO.sd hd)∈LLr:=by rw[eL]; tm_at "f"
 have mT0:(T0,AO.kd es)∈LLr:=by rw[eL]; tm_at "f"
 have mWp:(Wp,AO.cell (some (.bytes da)))∈LLr:=by rw[eL]; tm_at "f"
 have hF2:F9 es LLr ((I9 (aA "Filter") hd).getD .none) (K4 ks):=hF.up' λ q hq=>by rw[eL]; tm_at "f"
 have hP2:J8 es LLr (K4 ks).length ((I9 (aA "DecodeParms") hd).getD .none) bs:=by rw[aQ]; exact hPm.up' λ q hq=>by rw[eL]; tm_at "f"
 have hfz:(K4 ks).length<=100:=by rw[aQ]; lia
 refine' JE (P7 2 O (.head _) rfl rfl) (λ s:Option (aJ×Obj)=>MG s++LLr) (λ i s ys=>ys=bO i (.bytes oc)/\∀ p,s=some p->∃ vs t,p.2.data= .fields vs/\vs[1]? =some (.str (c1.env.qual++"<lambda>") t)) none O hs (by rw[eL]; exact i6 [[_],[_],[_],[_],[_],[_],[_],[_],[_],[_],[_],[_],[_],[_],[_],[_],[_],_,[_]] (.a [0,1] (.e [2,3,4,5,6,7,8,9,10,11,12,13,14,15,16] 17) (.s [18])) (.a [] (.s [16]) (.e [3,4,5,6,7,8,9,10,11,12,13,14,15,18] 17)) rfl) ⟨rfl,λ V h=>by cases h⟩ rfl rfl rfl (by kernel_rfl) (by lia) ?_ ?_
 ·(intro c2 O2 hs2 hw2 hc2 hcd2 hq2 hgg2 i a t ys rw hi ha; refine EQ λ zz43 hP=>?_; intro hyl; subst zz43)
  have hb2:c2.b:=hw2.2▸hb1
  have C2:CodeHd c2.g 835 833:=hgg2▸C
  cases t with
  | none=>
   refine' A1 O2 hs2 ?_
   refine' IN (rest:=LLr++rw) O2 (hcd2.trans hcode) C2 (show C1 (833,AO.raw (tabObj #[])) (MG none++LLr++rw) (LLr++rw)from .head _) trivial rfl ((H4 hc2).trans rfl) rfl (λ f c' oc1 vs1 tt ctv pm hd1 hv1=>?_)
   refine' BR hb2 (O2.le (by tm_at "a")) ⟨c',oc1,vs1,tt,pm,ctv,.head _,.tail _ (.head _),hd1,hv1⟩ rfl rfl (.tail _ (.tail _ (.tail _ (aG _ mWh)))) (.tail _ (.tail _ (.tail _ (aG _ mWs)))) (.tail _ (.tail _ (.tail _ (aG _ mX2)))) (.tail _ (.tail _ (.tail _ (aG _ mD2)))) (.tail _ (.tail _ (.tail _ (aG _ mT0)))) (.tail _ (.tail _ (.tail _ (aG _ mX1)))) (.tail _ (.tail _ (.tail _ (aG _ mD1)))) (.tail _ (.tail _ (.tail _ (aG _ mHx)))) (hF2.up' λ q hq=> .tail _ (.tail _ (.tail _ (aG _ hq)))) (hP2.up' λ q hq=> .tail _ (.tail _ (.tail _ (aG _ hq)))) hfz hU ?_
   rw[hq2]at hv1
   exact Hu (some (c',oc1)) ⟨by rw[kZ],λ p hp=>by cases hp; exact⟨vs1,tt,hd1,hv1⟩⟩ (show Sb _ ((833,AO.raw (tabObj (#[]++#[rawInt 759,rawInt 19,.ref c'])))::(c',AO.raw oc1)::(LLr++rw))from .drop (.cons (.tail (.head _)) (.cons (.head _) .refl)))
  | some p=>
   refine' A1 O2 hs2 ?_
   refine M7 λ G15 hG15=>?_; obtain⟨vs1,tt,hd1,hv1⟩:=hP p rfl; refine hG15 ?_
   refine' GH (c':=p.1) O2 (hcd2.trans hcode) C2 (show(833,AO.raw (tabObj (#[]++#[rawInt 759,rawInt 19,.ref p.1])))∈MG (some p)++LLr++rw from .head _) ?_ ?_ ((H4 hc2).trans rfl) rfl (λ f ctv pm=>?_)
   ·first | kn_triples | exact trivial
   ·first | rfl | kn_among
   refine' BR hb2 (O2.le (by tm_at "a")) ⟨p.1,p.2,vs1,tt,pm,ctv,.head _,.tail _ (.tail _ (.head _)),hd1,hq2▸hv1⟩ rfl rfl (.tail _ (aG _ (aC _ mWh))) (.tail _ (aG _ (aC _ mWs))) (.tail _ (aG _ (aC _ mX2))) (.tail _ (aG _ (aC _ mD2))) (.tail _ (aG _ (aC _ mT0))) (.tail _ (aG _ (aC _ mX1))) (.tail _ (aG _ (aC _ mD1))) (.tail _ (aG _ (aC _ mHx))) (hF2.up' λ q hq=> .tail _ (aG _ (aC _ hq))) (hP2.up' λ q hq=> .tail _ (aG _ (aC _ hq))) hfz hU ?_
   exact Hu (some p) ⟨by rw[kZ],λ p' hp=>by cases hp; exact⟨vs1,tt,hd1,hv1⟩⟩ (.drop .refl)
 (intro sT _ D3; refine EQ λ zz49 hsT=>?_; subst zz49)
 refine'⟨_,λ V h=>h,?_⟩
 refine' H3 (as:=[.bytes oc]) (aB rfl) (λ D4=>?_)
 refine' Cw (by tm_at "b") (by tm_at "a") (by tm_at "a") (λ D=>?_)
 refine' v5 (as:=bO 2 (.bytes oc)) O (by tm_at "f") (by tm_at "f") rfl ?_
 refine' G1 ?_
 refine' A3 O hs hc ?_ (hm:=by tm_at "f")
 refine' A2 O ?_ (hx:=by tm_at "f") (hd:=by tm_at "f")
 refine' A3 O hs hc ?_ (hm:=by tm_at "f")
 refine' Lh ?_
 refine' G1 ?_
 refine' A3 O hs hc ?_ (hm:=by tm_at "f")
 refine' A2 O ?_ (hx:=by tm_at "f") (hd:=by tm_at "f")
 refine' IT .str (by tm_at "f") hLe ?_
 refine' W9 (by tm_at "c") ?_
 refine' G1 ?_
 refine' AQ ?_ ((H4 hc).trans rfl) rfl (by kernel_rfl) ((AB hs).trans (by kernel_rfl))
 refine' E4 (aB rfl) (λ D=>?_)
 refine' Bk (xs:=[aA "one"]) (E6 hs rfl rfl) (Jm O (.head _)).x (λ s:La=>s++(MG sT++LLr)) (λ i s ys=>E9 es s ys (Gx.take i)) [] O hs (i6 [[_],[_],[_],_,_] (.a [0,1] (.e [2,3] 4) (.s [])) (.a [] (.s []) (.e [3] 4)) rfl) .nil rfl (by kernel_rfl) (λ c2 h=> .name (h _ (.head _))) (λ i as ⟨_,e,_⟩=>by rw[e]; rfl) (by kernel_rfl) (aB rfl) ?_ ?_
 ·clear O hs hc
  (intro c2 O hs hw2 hc2 i as s ys rw _ hi; refine Bx λ V zz56 ha=>?_; intro hP hyl; subst zz56)
  obtain⟨t,f,rfl,hf1,hf2⟩:=YY ha
  refine' A1 O hs ?_
  refine' Cz (O.le (by tm_at "a")) (λ Xn Dn=>?_)
  exact Hu ((Xn,.inst 520 Dn)::(Dn,.dict [(aA "text",.str t)])::s) (by rw[aV,hf1]; have h0:=hP.up [] (λ q (hq:q∈s)=>(List.Mem.tail (Xn,AO.inst 520 Dn) (List.Mem.tail (Dn,AO.dict [(aA "text",AV.str t)]) hq))); rw[bA]at h0; exact h0.snoc (.mk .here (bG _) (.head _) (.tail _ (.head _)) hf2)) .refl
 rintro nlo ys N4 hNo
 refine'⟨_,λ V h=>h,?_⟩
 refine' A1 O hs ?_
 refine' A3 O hs hc ?_ (hm:=by tm_at "f")
 have hO1:E9 es (nlo++(MG sT++LLr)) ys Gx:=by
  have h0:=hNo.up [] (led':=nlo++(MG sT++LLr)) (λ q hq=>aG _ hq)
  rw[bA]at h0
  exact h0
 have nd1:[aA "Filter"].Nodup:=by decide+kernel
 have hyl:=hO1.at.1
 refine' o8 .str (λ Xd=>?_) (by kernel_rfl) (by kernel_rfl)
 refine'⟨_,rfl,?_⟩
 refine'⟨_,by tm_at "g",nd1,?_⟩
 refine' X9 (es:=es) (fs:=Gx) (O.le (by tm_at "a")) (by tm_at "f") (by tm_at "f") (by tm_at "f") (.head _) rfl (.list .here (bG _) (.tail (.head _)) ((hO1.up [] (λ q hq=> .tail _ (.tail _ (aG _ hq)))).cast0)) (aB rfl) (λ N5=>?_)
 refine' H3 (as:=Gx.map .str) (aB rfl) (λ N6=>?_)
 refine' v5 (as:=Gx.map .str) O (by tm_at "f") (by tm_at "f") rfl ?_
 refine' G1 ?_
 obtain⟨L3,eL3⟩:∃ L:La,L=(Wh,.cell (some (.ref X2)))::(X2,.inst 605 D2)::(D2,.dict [(aA "table",.ref T0),(aA "trailer",.ref X)])::(Hx,.sd hd)::(T0,.kd es)::(Wp,.cell (some (.bytes da)))::(K,.ints ks)::(Cc,.ints cs)::nl2:=⟨_,rfl⟩
 refine' Fy O hs ?_
 refine' A1 O hs ?_
 refine' A3 O hs hc ?_ (hm:=by tm_at "f")
 refine' A3 O hs hc ?_ (hm:=by tm_at "f")
 refine' A2 O ?_ (hx:=by tm_at "f") (hd:=by tm_at "f")
 refine' A0 O hs ?_
 refine' M2 (by tm_at "f") (by lia) ?_
 refine M7 λ G16 hG16=>?_; obtain⟨ps,tl,eT,hT1,hT2⟩:=MG.ex sT; refine hG16 ?_
 have hF3:F9 es L3 ((I9 (aA "Filter") hd).getD .none) (K4 ks):=hF.up' λ q hq=>by rw[eL3]; tm_at "f"
 have n1:(Wh,AO.cell (some (.ref X2)))∈L3:=by rw[eL3]; tm_at "f"
 have n2:(X2,AO.inst 605 D2)∈L3:=by rw[eL3]; tm_at "f"
 have n3:(D2,AO.dict [(aA "table",.ref T0),(aA "trailer",.ref X)])∈L3:=by rw[eL3]; tm_at "f"
 have n4:(T0,AO.kd es)∈L3:=by rw[eL3]; tm_at "f"
 have n5:(Wp,AO.cell (some (.bytes da)))∈L3:=by rw[eL3]; tm_at "f"
 have n6:(K,AO.ints ks)∈L3:=by rw[eL3]; tm_at "f"
 have n7:(Cc,AO.ints cs)∈L3:=by rw[eL3]; tm_at "f"
 have n8:(Hx,AO.sd hd)∈L3:=by rw[eL3]; tm_at "f"
 refine' C9.sub (l2:=(P,J4 Cc q t5)::(Wd,.cell none)::(833,.raw (tabObj ps))::L3) (by rw[eL,eL3,eT]; exact i6 [[_],[_],[_],[_],_,[_],_,[_],[_],[_],[_],[_],[_],[_],[_],[_],[_],[_],[_],[_],[_],_,[_]] (.a [0,1,2] (.a [3,4] (.e [5] 6) (.e [7,8,9,10,11,12,13,14,15,16,17,18,19,20] 21)) (.s [22])) (.e [14,19,5,7,8,9,13,15,16,20,18] 21) rfl) (Lw (O.le (by tm_at "a")) (.head _) (.tail _ (.tail _ n7)) (.tail _ (.tail _ n8)) hz ⟨hq0,hq1⟩ (by lia) (by lia) (by lia) (λ T4 F4 w4 es4 nl4 t6 hFo ht6=>?_))
 refine'⟨_,_,_,rfl,.head _,Db O hs rfl hc rfl (by tm_at "g") (Fj (E6 hs rfl rfl) ?_)⟩
 refine' A1 O hs ?_
 refine' IN O hcode C (by tm_at "g") hT1 hT2 ((H4 hc).trans rfl) rfl (λ f c' oc2 vs2 tt ctv pm hd2 hv2=>?_)
 rcases Jt hFo rfl hnl hF3 with hB | ⟨e1,e2,hPz,hFz⟩
 ·refine' NZ (GJ ((f,_)::(c',.raw oc2)::(Wd,.cell (some (.ref F4)))::(F4,.sd es4)::(nl4++L3)) [(833,_)] rfl ((O.b False).le (by tm_at "a")) hfr hown (.cons (.head _) (.cons (.head _) (.cons (.tail (.head _)) (.cons (.tail (.tail (.head _))) NE)))) ⟨c',oc2,vs2,tt,pm,ctv,.head _,.tail _ (.head _),hd2,hv2⟩ rfl rfl rfl (.tail _ (.tail _ (.tail _ (.tail _ (aC _ n1))))) (.tail _ (.tail _ (.head _))) (.tail _ (.tail _ (.tail _ (.tail _ (aC _ n5))))) (.tail _ (.tail _ (.tail _ (.tail _ (aC _ n2))))) (.tail _ (.tail _ (.tail _ (.tail _ (aC _ n3))))) (.tail _ (.tail _ (.tail _ (.tail _ (aC _ n4))))) (.tail _ (.tail _ (.tail _ (.head _)))) (hB.mono λ q hq=> .tail _ (.tail _ (.tail _ (.tail _ hq)))) (λ D9=>?_))
  refine' B1 hs ?_
  first | refine' AR ?_ | refine' o9 ?_ | refine' Du ?_
  refine' E4 (aB rfl) (λ D10=>?_)
  refine' NV (as:=[.str (aA "fault"),.int (-1)]) O (by tm_at "f") (by tm_at "f") rfl ?_
  refine' J5 ?_
  exact⟨rfl,_,by tm_at "f"⟩
 ·subst e1 e2
  refine M7 λ G17 hG17=>?_; obtain⟨e3,e4⟩:=Nu hU; refine hG17 ?_
  refine' GK (fs:=[]) (bs:=[]) (ns:=da) (os:=da) hb1 (O.le (by tm_at "a")) ⟨c',oc2,vs2,tt,pm,ctv,.head _,.tail _ (.head _),hd2,hv2⟩ rfl rfl rfl (.tail _ (.tail _ (.tail _ (.tail _ (.tail _ (.tail _ (.tail _ (aC _ n1)))))))) (.tail _ (.tail _ (.tail _ (.head _)))) (.tail _ (.tail _ (.tail _ (.tail _ (.tail _ (.tail _ (.tail _ (aC _ n5)))))))) (.tail _ (.tail _ (.tail _ (.tail _ (.tail _ (.tail _ (.tail _ (aC _ n2)))))))) (.tail _ (.tail _ (.tail _ (.tail _ (.tail _ (.tail _ (.tail _ (aC _ n3)))))))) (.tail _ (.tail _ (.tail _ (.tail _ (.tail _ (.tail _ (.tail _ (aC _ n4)))))))) (.tail _ (.tail _ (.tail _ (.tail _ (.tail _ (.head _)))))) (by rw[hFz]; exact hF3.up' λ q hq=>(.tail _ (.tail _ (.tail _ (.tail _ (.tail _ (.tail _ (.tail _ (aC _ hq))))))))) (hPz.up' λ q hq=>(.tail _ (.tail _ (.tail _ (.tail _ (.tail _ (.tail _ (.tail _ hq)))))))) (bG _) .nil (λ Xz Dz=>?_)
  refine' B1 hs ?_
  first | refine' AR ?_ | refine' o9 ?_ | refine' Du ?_
  refine' E4 (aB rfl) (λ D10=>?_)
  refine' LA O (.head _) ?_
  refine' G1 ?_
  first | refine' AR ?_ | refine' o9 ?_ | refine' Du ?_
  refine' L8 (by tm_at "c") ?_
  first | refine' AR ?_ | refine' o9 ?_ | refine' Du ?_
  refine' C3 (ns:=[]) rfl (by decide) (λ D=>?_)
  refine' EB O (by tm_at "f") (by tm_at "f") ?_
  refine' P9 rfl ?_
  first | refine' AR ?_ | refine' o9 ?_ | refine' Du ?_
  refine' A3 O hs hc ?_ (hm:=by tm_at "f")
  refine' Ly ?_
  exact⟨rfl,_,by tm_at "f"⟩
end
end Mine.Internal

theorem PySem.Challenge.cw_nn0233_01_holds : PySem.Challenge.rw_nn0233_01.Holds :=
  Mine.Internal.claim
