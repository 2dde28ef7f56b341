import PyProof.Rows.All
import Wide.All
import OpenK.AllK
import Wide.FinOn
import Lean
import PySem.Challenge.RW_no0383_01
set_option Elab.async false
set_option maxRecDepth 100000
set_option linter.all false
namespace Mine
open Option.some renaming inj->hG,injEq->oF
open PySem renaming Expr->hJ,Str->hV,wpAny_bind->i5,wpAny_mono->iG,wpAny_pure->iI,call->jH,wpAny_holding->jN,wpAny_standAt->kB,wpAny_loadPart_at->lR,wpAny_seqItems->mH,wpAny_field->mO,call_gives->mY,wpAny_Constant_int->n8,typeIs_str->nB,wpAny_typeOf->nF,wpAny_storeName_local->nZ,wpAny_loadPart'->o6,wpAny_truthy_bool->oI,wpAny_newFunctionEnv_cells->oM,sizeLine_eq->pI,wpAny_isSubtype_exc->pK,wpAny_assign_Tuple->q7,wpAny_of_eq->qI,wpAny_Assign_Name->qJ,plainObj_wpAny_Assign_Attribute->qK,codeAny_call_function->qQ,wpAny_Constant_str->s7,call_meets->sR,slot_list_getitem->sS,plainId_quiet->tD,wpAny_call_entry->tT,wpAny_execs_cons->tU,codeAny_builtin->uA,wpAny_Name->uQ,wpAny_call->uR,Slot->v8
open List renaming length_append->hW,length_cons->i6,mem_cons_self->i8,mem_cons_of_mem->i9,mem_singleton->iD,append_assoc->iF,length_map->iH,mem_cons->iJ,forall_mem_cons->iK,length_nil->iM,append_nil->iO,flatMap_cons->iS,length_singleton->iT,map_cons->iW,length_take->iY,replicate->j1,nil_append->j4,length_drop->jA,range->jE,lookup_cons->jI,all_eq_true->jJ,getElem?_eq_getElem->jM,map_map->jR,getD_eq_getElem?_getD->jT,mem_map->jV,mem_of_mem_take->jW,mem_append->jX,length->jZ,map_append->k8,mem_of_mem_drop->k9,flatMap_nil->kD,flatMap_append->kE,getElem?_eq_some_iff->kJ,take_of_length_le->kK,filter_cons_of_pos->kS,getElem?_map->kX,length_range->kY,drop_of_length_le->l4,range'->l6,ctorIdx->l7,contains_cons->lA,sum_cons->lC,all_cons->lD,cons_append->lE,flatten_cons->lG,nodup_cons->lL,zip_cons_cons->lM,length_replicate->lV,mem_flatMap->m9,cons_ne_nil->mB,filter_cons_of_neg->mF,zipWith->mI,mem_range->mJ,size_toArray->mK,mem_range'_1->mM,map_congr_left->mP,filterMap_cons->mQ,append_ne_nil_of_right_ne_nil->mW,getElem?_append_right->mX,take_length->n0,map_reverse->n5,getElem?_toArray->n6,pairwise_cons->n7,range_succ->nC,any_cons->nH,getElem?_cons_succ->nK,length_eq_one_iff->nS,foldl_cons->o5,take_add_one->oG,takeWhile_cons_of_neg->oN,takeWhile_cons_of_pos->oO,exists_cons_of_ne_nil->oQ,mem_of_getElem?->oW,range_eq_range'->oX,drop_length->pA,replicate_succ->pB,getElem?_take_of_lt->pR,eq_of_mem_replicate->pS,find?_cons->pY,getElem?_cons_zero->q6,of_mem_zip->q8,head_eq_of_cons_eq->qB,mem_filter->qC,drop_left'->qD,take_append_drop->qU,isEmpty_iff->qV,drop_append_of_le_length->qX,mem_reverse->qY,flatten_nil->qZ,length_pos_iff->rS,take_left'->rT,take_length_add_append->rU,flatten_append->rV,sum_append->rW,drop_eq_getElem_cons->sI,drop_zero->sK,getElem?_append_left->sN,reverse_perm->tB,map_take->tE,length_eq_zero_iff->tG,pairwise_lt_range'->tJ,map->tM,forIn_cons->uH,contains_iff_mem->uI,getElem?_eq_none->uN,lookup->v5,getD->vC
open Nat renaming le_trans->hZ,le_add_left_of_le->iL,mul_le_mul_left->iP,lt_of_le_of_lt->iQ,add_le_add->j0,le_refl->j3,add_le_add_left->j5,succ_le_succ->j6,le_of_eq->j7,le_of_lt->jB,le_add_right->jF,lt_of_lt_of_le->jK,le_of_not_le->jQ,le_of_add_right_le->jY,zero_le->kA,zero_add->kF,add_right_comm->kI,lt_of_succ_lt_succ->kL,add_le_add_right->kM,min_eq_left->kO,lt_add_of_pos_right->kR,min_eq_right->kU,succ_pos->kZ,le_add_left->l8,add_comm->lB,le_of_ble_eq_true->lH,add_sub_cancel_left->lN,lt_succ_self->lO,mod_eq_of_lt->m7,le_succ->m8,div_lt_of_lt_mul->mC,add_assoc->mE,le_succ_of_le->mN,le_of_succ_le_succ->mV,min_le_left->nE,min_le_right->nM,lt_of_le_of_ne->nX,eq_of_beq_eq_true->o8,div_one->oE,le_of_lt_succ->oH,add_zero->pN,ne_of_lt->pO,div_le_self->pV,le_antisymm->q5,mul_div_cancel->q9,mul_succ->qL,le_div_iff_mul_le->qM,sub_eq_zero_of_le->qP,and_two_pow_sub_one_eq_mod->qR,mul_div_mul_right->qS,le_sub_of_add_le'->qT,le_sub_one_of_lt->r9,add_lt_add_left->rH,add_sub_cancel'->rL,pos_of_ne_zero->rZ,mul_zero->sD,sub_add_cancel->sF,sub_le->sO,sub_pos_of_lt->sP,not_lt->sQ,lt_succ_of_le->sU,add_sub_of_le->sV,mul_one->tC,mul_comm->tY,ne_of_gt->tZ,beq->u6,not_lt_zero->u9,lt_or_ge->uG,sub_self->uJ,zero_lt_one->uM,cast->uP,mod_lt->uS,not_le->uT,lt_min->v7
open Eq renaming trans->i7,symm->sJ
open Bool renaming and_eq_true->iC,and_eq_true_iff->iR,false_ne_true->iX,ctorIdx->j9,not_eq_true'->jO,or_eq_true->kT,or_eq_true_iff->pJ,or_true->sB,true_and->tF,and_false->uW
open Int renaming natCast_nonneg->iV,toNat_natCast->iZ,le_trans->jG,ofNat_lt->jU,ofNat_le->kC,fdiv_eq_ediv_of_nonneg->kG,not_lt->lY,lt_of_lt_of_le->nU,lt_of_le_of_lt->nW,toNat_lt->nY,add_le_add_right->oV,toNat_of_nonneg->pH,eq_ofNat_of_zero_le->pZ,fmod_nonneg_of_pos->qH,le_sub_one_of_lt->rB,toNat_of_nonpos->rK,le_of_lt->rX,fmod_lt_of_pos->sE,add_le_add->sH,neg_nonneg_of_nonpos->tA,ofNat_sub->tR,toNat_le->u7,le_antisymm->uD,toNat_sub->v6
open UInt8 renaming ofNat->j2,toNat_ofNat'->pX
open PySem.Heap renaming get?_push_of_some->j8,get?_push_size->jC,SameBut->k7,get?_none_of_le->l9,get?_update_self->lX,get?_update_other->nO,lt_size->pP,dictOf_iff->pU,get?_update_ne->rQ,size_push->uV
open Option renaming isNone_iff_eq_none->jD,isSome_iff_exists->jL,bind_some->kN,ctorIdx->mG,map_eq_some_iff->mS,map_some->uC,map_map->uX
open Or renaming elim->jP
open PySem.W renaming typeIs_bytes->jS
open PySem.Str renaming ofString->kH,length->uO
open PySem.Expr renaming Name->kW,ListComp->v4
open PySem.NameKind renaming free->l5,cell->tP
open PySem.EqNone renaming wpAny_richCompare_eq_decline->lF,wpAny_richCompare_ne_decline->pG
open PySem.W.FB renaming slot_bytes_eq->lI,slot_bytes_getitem->nI,args_bytes_eq_2->oU,entry_bytes_eq->pE,slot_bytes_ne->pW,args_bytes_getitem_2->sG,entry_bytes_getitem->sT
open PyProof.Rows renaming tail_of_ItemOn->lJ,Call_Name->mU,tail_any->tH
open PySem.Value renaming ref->lK,none->mZ,ctorIdx->nG,builtin->tI,int->uF,notImplemented->uU,type->vA
open Array renaming getElem?_eq_some_iff->lP,length_toList->lQ,getElem?_toList->lW,toList_append->pC,size->v9
open PySem.Expr.Subscript renaming elim->lS
open PySem.Builtin renaming bitAnd->lT,divisionGoesByPylong->rG
open PySem.Obj renaming mapFields->lU
open PySem.Expr.ListComp renaming elim->lZ
open PySem.Expr.Call renaming elim->n9
open PySem.Expr.Constant renaming elim->nA
open Int.ofNat renaming inj->nJ
open PySem.Stmt.Assign renaming elim->nN
open PySem.Challenge renaming pw_no0383_01->nV
open PySem.F renaming slot_dict_get->o7,excBase_Exception->oZ,slot_list_getattribute->pQ,slot_str_split->qF,sub_str_bytes->rI,sub_bytes_str->rJ,args_str_split_2->sW,slot_list_insert->sX,slot_list_extend->sY,entry_str_split->tK,plainAttrs_dict->tL,args_dict_get_3->tN,slot_str_rfind->tW,entry_dict_get->tX,type_dict_get->uE
open ForInStep renaming yield->o9
open Nat.succ renaming inj->oA
open PySem.Stmt.FunctionDef renaming elim->oB
open List.cons renaming inj->oJ
open PySem.Calls renaming Name_function_global->oK,spliced_cons->s9,loadGlobal_builtin->sZ
open PySem.Expr.Name renaming elim->oR
open PySem.Expr.Dict renaming elim->oS
open PySem.FuncBody.stmts renaming elim->oY
open PySem.Builtin.List renaming listTooLong->pM
open PySem.Data.fields renaming elim->qG
open PySem.Expr.Tuple renaming elim->qN
open PySem.Expr.Slice renaming elim->qO
open PySem.MeetsSeq3 renaming plain_eq_loop->qW
open PySem.Around renaming under_plainId->r7
open PySem.Data.dict renaming elim->rC
open PySem.Data.func renaming elim->rD
open PySem.Value.ref renaming elim->rE
open PySem.Value.str renaming elim->rF
open PySem.Heap.SameBut renaming update->rM
open PySem.Heap.DictOf renaming new->rN
open PySem.Builtin.Range renaming rangeFitsLong->rO,rangeSize->tO,small->uZ
open PySem.Data.seq renaming elim->rP
open PySem.Stmt.For renaming elim->rR
open PySem.Heap.IsSliceOf renaming new->rY
open PySem.Stmt.If renaming elim->sC
open Prod.mk renaming inj->tQ
open PySem.Expr.Compare renaming elim->tS
open PySem.AutoSeq1 renaming sub_list_list->tV
open Iff renaming mpr->uB
open PySem.Expr.BinOp renaming elim->uK
open PySem.Stmt.While renaming elim->uL
open PySem.Builtin.Str renaming strKind->uY
open HAdd renaming hAdd->vB
open PySem.IsRange renaming new->vD
noncomputable section
open PySem
theorem none_some{α:Type}{a:α}{Z:Prop}(h:(none:Option α)=some a):Z:=nomatch h
theorem fls{Z:Prop}(h:false=true):Z:=nomatch h
@[elab_as_elim] theorem rwE{α:Sort _}{a b:α}{motive:α->Prop}(h:a=b)(k:motive b):motive a:=h▸k
@[elab_as_elim] theorem rwS{α:Sort _}{a b:α}{motive:α->Prop}(h:a=b)(k:motive a):motive b:=h▸k
@[elab_as_elim] theorem Gu{a b:Prop}{motive:Prop->Prop}(h:a↔b)(k:motive b):motive a:=propext h▸k
theorem eqL{α:Sort _}{a b c:α}(h:a=b)(k:a=c):b=c:=h.symm.trans k
theorem nc{α:Sort _}{Z:Prop}(f:α->Nat){a b:α}(h:a=b)(n:(f a==f b)=false):Z:=by subst h;rw[beq_self_eq_true]at n;injection n
theorem Gn{p:Prop}[Decidable p]{α:Sort _}{a b c:α}(q:p)(h:(if p then a else b)=c):a=c:=(if_pos q).symm.trans h
theorem Fg{p:Prop}[Decidable p]{α:Sort _}{a b c:α}(q:¬p)(h:(if p then a else b)=c):b=c:=(if_neg q).symm.trans h
theorem BX{p:Prop}[Decidable p]{α:Sort _}{a b c:α}(q:p)(h:a=c):(if p then a else b)=c:=(if_pos q).trans h
theorem Gx{p:Prop}[Decidable p]{α:Sort _}{a b c:α}(q:¬p)(h:b=c):(if p then a else b)=c:=(if_neg q).trans h
theorem W5{α β:Type _}{o:Option α}{f:α->Option β}{a:α}{r:Option β}(q:o=some a)(h:o.bind f=r):f a=r:=by subst q;exact h
theorem mapS{α β:Type _}{o:Option α}{f:α->β}{a:α}{r:Option β}(q:o=some a)(h:o.map f=r):some (f a)=r:=by subst q;exact h
theorem sL{a b c:Nat}(h:a<=c):a - b<=c:=hZ (sO a b) h
theorem mR{a b c:Nat}(h:b<=c):min a b<=c:=hZ (nM a b) h
theorem sM{a b c d:Nat}(h:b<=c):min a b - d<=c:=sL (mR h)
theorem sp{b n:Nat}(h:b < n):n=n - 1+1:=(Nat.succ_pred_eq_of_pos (Nat.zero_lt_of_lt h)).symm
theorem naC{n k N:Nat}(h:n<=k)(q:k < N):((n:Nat):Int).natAbs < N:=iQ ((Int.natAbs_natCast n).symm▸h) q
theorem iB{a l u L U:Int}(h:l<=a/\a<=u)(q:L<=l/\u<=U):L<=a/\a<=U:=⟨jG q.1 h.1,jG h.2 q.2⟩
theorem iN{k:Int}{n N:Nat}{L U:Int}(h0:0<=k)(h:k.toNat < n)(hn:n<=N)(q:L<=0/\N<=U):L<=k/\k < U:=⟨jG q.1 h0,nU ((nY h0).mp h) (jG ((kC).mpr hn) q.2)⟩
theorem iU{k:Int}{n N:Nat}{U:Int}(h0:0<=k)(h:k.toNat < n)(hn:n<=N)(q:N<=U):k < U:=nU ((nY h0).mp h) (jG ((kC).mpr hn) q)
theorem naB{x:Int}{k n:Nat}(h : -(k:Int)<=x/\x<=k)(q:k < n):x.natAbs < n:=by omega
theorem kk{k n:Nat}(h:k < (n+2) / 3):3 * k < n:=Nat.lt_of_add_lt_add_right (n:=2) (jK (rH (by decide:2 < 3) (3 * k)) (hZ (j7 (qL 3 k).symm) (tY 3 _▸(qM (by decide)).mp h)))
theorem mz{a b:Nat}{Z:Prop}(h:min 3 (a - b)=0)(q:b < a):Z:=absurd h (tZ ((v7).mpr ⟨by decide,sP q⟩))
local macro_rules
 | `(tactic| erw [$a:term])=>`(tactic| first | refine rwE $a ?_ | refine rwE ($a ..) ?_)
 | `(tactic| erw [$a:term,$b:term])=>`(tactic| (erw [$a:term];erw [$b:term]))
 | `(tactic| erw [$a:term,$b:term,$c:term])=>`(tactic| (erw [$a:term];erw [$b:term,$c:term]))
 | `(tactic| erw [$a:term,$b:term,$c:term,$d:term])=>`(tactic| (erw [$a:term];erw [$b:term,$c:term,$d:term]))
 | `(tactic| erw [$a:term,$b:term,$c:term,$d:term,$e:term])=>`(tactic| (erw [$a:term];erw [$b:term,$c:term,$d:term,$e:term]))
local macro_rules | `(tactic| nofun)=>`(tactic| first | exact rfl | kernel_rfl)
inductive V where
 | none | bool (b:Bool) | int (i:Int) | str (s:List Nat) | bytes (b:List Nat)
 | tup (vs:List V) | lst (vs:List V) | idict (ak:List (Int×Int)) | sdict (ak:List (List Nat×List Nat)) | pen
 deriving Inhabited
inductive HQ where
 | val | bor | fresh
 deriving DecidableEq
noncomputable abbrev TV:=V×HQ
noncomputable abbrev A4:=List V
inductive Out(α:Type) where
 | ok (a:α) | exc
abbrev Mo(α:Type):=A4->Option (Out α×A4)
namespace Mo
variable{α β:Type}
def ret(a:α):Mo α:=λ O=>some (.ok a,O)
def fail:Mo α:=λ _=>none
def bind(m:Mo α)(f:α->Mo β):Mo β:=λ O=>match m O with
 | some (.ok a,O')=>f a O'
 | some (.exc,O')=>some (.exc,O')
 | none=>none
def lift(o:Option α):Mo α:=λ O=>match o with
 | some a=>some (.ok a,O)
 | none=>none
def mapM(f:α->Mo β):List α->Mo (List β)
 | []=>ret []
 | x::r=>bind (f x) λ y=>bind (mapM f r) λ ys=>ret (y::ys)
end Mo
inductive Slot where
 | val (v:V) | own (vs:List V) | ownd (ak:List (List Nat×List Nat))
 deriving Inhabited
noncomputable abbrev R:=List (Str×Slot)
def BE(J:R)(x:Str)(s:Slot):R:=match J with
 | []=>[(x,s)]
 | (y,t)::r=>if x=y then(x,s)::r else(y,t)::BE r x s
theorem M7{x:Str}{s:Slot}:BE [] x s=[(x,s)]:=rfl
theorem MZ{r:R}{x y:Str}{s t:Slot}:BE ((y,t)::r) x s=if x=y then(x,s)::r else(y,t)::BE r x s:=rfl
inductive Fl where
 | nxt | brk | cont | ret (v:V) | exc
structure Ev where
 params:List Str
 defaults:List V
 scope:Scope
 body:List Stmt
noncomputable def V.int?(v:V):Option (Int):=if h:v.ctorIdx=2 then V.int.elim (motive_1:=λ _=>Option (Int)) v h (λ i=>some i) else .none
noncomputable def V.str?(v:V):Option (List Nat):=if h:v.ctorIdx=3 then V.str.elim (motive_1:=λ _=>Option (List Nat)) v h (λ i=>some i) else .none
noncomputable def V.bytes?(v:V):Option (List Nat):=if h:v.ctorIdx=4 then V.bytes.elim (motive_1:=λ _=>Option (List Nat)) v h (λ i=>some i) else .none
noncomputable def V.lst?(v:V):Option (List V):=if h:v.ctorIdx=6 then V.lst.elim (motive_1:=λ _=>Option (List V)) v h (λ i=>some i) else .none
noncomputable def V.tup?(v:V):Option (List V):=if h:v.ctorIdx=5 then V.tup.elim (motive_1:=λ _=>Option (List V)) v h (λ i=>some i) else .none
noncomputable def V.idict?(v:V):Option (List (Int×Int)):=if h:v.ctorIdx=7 then V.idict.elim (motive_1:=λ _=>Option (List (Int×Int))) v h (λ i=>some i) else .none
noncomputable def V.isNone:V->Bool
 | .none=>true
 | _=>false
noncomputable def V.bool?(v:V):Option (Bool):=if h:v.ctorIdx=1 then V.bool.elim (motive_1:=λ _=>Option (Bool)) v h (λ i=>some i) else .none
noncomputable def V.isPen:V->Bool
 | .pen=>true
 | _=>false
noncomputable def constInt? : Const->Option Int
 | .int i=>some i
 | _=>none
noncomputable def constStr? : Const->Option Str
 | .str s=>some s
 | _=>none
noncomputable def name?(e:Expr):Option Str:=if h:e.ctorIdx=23 then oR (motive_1:=λ _=>Option Str) e h (λ x _=>some x) else none
noncomputable def const?(e:Expr):Option Const:=if h:e.ctorIdx=19 then nA (motive_1:=λ _=>Option Const) e h (λ c _ _=>some c) else none
noncomputable def tuple?(e:Expr):Option (List Expr):=if h:e.ctorIdx=25 then qN (motive_1:=λ _=>Option (List Expr)) e h (λ es _ _=>some es) else none
noncomputable def call?(e:Expr):Option (Expr×List Expr×List Keyword):=if h:e.ctorIdx=16 then n9 (motive_1:=λ _=>Option (Expr×List Expr×List Keyword)) e h (λ f as ks _=>some (f,as,ks)) else none
noncomputable def sub?(e:Expr):Option (Expr×Expr):=if h:e.ctorIdx=21 then lS (motive_1:=λ _=>Option (Expr×Expr)) e h (λ o i _=>some (o,i)) else none
noncomputable def slice?(e:Expr):Option (Option Expr×Option Expr×Option Expr):=if h:e.ctorIdx=26 then qO (motive_1:=λ _=>Option (Option Expr×Option Expr×Option Expr)) e h (λ a b c _=>some (a,b,c)) else none
noncomputable def dict?(e:Expr):Option (List (Option Expr)×List Expr):=if h:e.ctorIdx=6 then oS (motive_1:=λ _=>Option (List (Option Expr)×List Expr)) e h (λ a b _=>some (a,b)) else none
noncomputable def one?{α:Type}:List α->Option α
 | []=>none
 | x::r=>if r.isEmpty then some x else none
def two?{α:Type}:List α->Option (α×α)
 | []=>none
 | x::r=>(one? r).map λ y=>(x,y)
def three?{α:Type}:List α->Option (α×α×α)
 | []=>none
 | x::r=>(two? r).map λ y=>(x,y)
def DJ(es:List Expr):Option (Str×Str):=(two? es).bind λ p=>(name? p.1).bind λ x=>(name? p.2).map λ y=>(x,y)
def callName?(e:Expr):Option (Str×List Expr):=(call? e).bind λ c=>if c.2.2.isEmpty then(name? c.1).map λ x=>(x,c.2.1) else none
noncomputable def Ae:Nat:=16777216
def Cm{α:Type}(f:Int->Int->Option α)(a b:V):Option α:=a.int?.bind λ i=>b.int?.bind λ j=>f i j
def VV(n:Nat)(v:V):Option V:=if n<=Ae then some v else none
def Xl(a b:V):Option V:=match a with
 | .int i=>b.int?.bind λ j=>some (.int (i+j))
 | .str s=>b.str?.bind λ t=>VV (s.length+t.length) (.str (s++t))
 | .bytes s=>b.bytes?.bind λ t=>VV (s.length+t.length) (.bytes (s++t))
 | .lst s=>b.lst?.bind λ t=>VV (s.length+t.length) (.lst (s++t))
 | _=>none
def Yz(a b:V):Option V:=match a with
 | .int i=>b.int?.bind λ j=>if i.natAbs < 2 ^ 64\/j.natAbs < 2 ^ 64 then some (.int (i * j)) else none
 | .str s=>b.int?.bind λ n=>if 0<=n/\n<=64/\s.length=1 then some (.str (j1 n.toNat s).flatten) else none
 | .lst l=>(one? l).bind λ v=>b.int?.bind λ n=>if 0<=n/\n<=4 then some (.lst (j1 n.toNat v)) else none
 | _=>none
def A1(op:Operator)(a b:V):Option V:=match op with
 | .Add=>Xl a b
 | .Sub=>Cm (λ a b=>some (.int (a - b))) a b
 | .Mult=>Yz a b
 | .FloorDiv=>Cm (λ a b=>if b≠0/\b.natAbs < 2 ^ 64 then some (.int (a.fdiv b)) else none) a b
 | .Mod=>Cm (λ a b=>if b≠0 then some (.int (a.fmod b)) else none) a b
 | .Pow=>Cm (λ a n=>if 0<=n/\n<=1000000/\a.natAbs < 2 ^ 64 then some (.int (a ^ n.toNat)) else none) a b
 | .LShift=>Cm (λ a n=>if 0<=n/\n<=1000000/\a.natAbs < 2 ^ 64 then some (.int (a * 2 ^ n.toNat)) else none) a b
 | .RShift=>Cm (λ a n=>if 0<=n then some (.int (a.fdiv (2 ^ n.toNat))) else none) a b
 | .BitAnd=>Cm (λ a b=>some (.int (lT a b))) a b
 | _=>none
noncomputable def V.isLst:V->Bool
 | .lst _=>true
 | _=>false
def AI(v:V):TV:=(v,if v.isLst then .fresh else .val)
def UJ(vs:List V)(s:List Nat):Option Bool:=vs.foldr (λ v acc=>v.str?.bind λ t=>acc.map λ b=>decide (s=t)||b) (some false)
def Uq(vs:List V)(i:Int):Option Bool:=vs.foldr (λ v acc=>v.int?.bind λ j=>acc.map λ b=>decide (i=j)||b) (some false)
def UT(a b:V):Option Bool:=match a with
 | .int i=>b.int?.map λ j=>decide (i=j)
 | .str s=>match b with
  | .str t=>some (decide (s=t))
  | .bytes _=>some false
  | _=>none
 | .bytes s=>match b with
  | .bytes t=>some (decide (s=t))
  | .str _=>some false
  | .none=>some false
  | _=>none
 | .lst l=>b.lst?.bind λ m=>if m.isEmpty then some l.isEmpty else none
 | .none=>match b with
  | .none=>some true
  | .bytes _=>some false
  | _=>none
 | _=>none
def leOp(a b:V):Option Bool:=match a with
 | .int i=>b.int?.map λ j=>decide (i<=j)
 | .str s=>b.str?.bind λ t=>(one? s).bind λ x=>(one? t).map λ y=>decide (x<=y)
 | _=>none
def VJ(a b:V):Option Bool:=if b.isNone then(match a with
 | .none=>some true
 | .bytes _=>some false
 | .tup _=>some false
 | _=>none) else none
def Rx(a:V)(vs:List V):Option Bool:=match a with
 | .str s=>UJ vs s
 | .int i=>Uq vs i
 | _=>none
def XN(a b:V):Option Bool:=match b with
 | .tup vs=>Rx a vs
 | .bytes b=>a.int?.bind λ i=>if 0<=i/\i < 256 then some (b.any λ c=>decide (i=(c:Int))) else none
 | .str s=>a.str?.bind λ t=>(one? t).map λ c=>decide (c∈s)
 | .idict ak=>a.int?.map λ i=>ak.any λ p=>decide (i=p.1)
 | _=>none
def CK(op:CmpOp)(a b:V):Option Bool:=match op with
 | .Eq=>UT a b
 | .NotEq=>if a.isNone||b.isNone then none else(UT a b).map (!·)
 | .Lt=>Cm (λ a b=>some (decide (a < b))) a b
 | .LtE=>leOp a b
 | .Gt=>Cm (λ a b=>some (decide (a > b))) a b
 | .GtE=>Cm (λ a b=>some (decide (a >= b))) a b
 | .Is=>VJ a b
 | .IsNot=>(VJ a b).map (!·)
 | .In=>XN a b
 | .NotIn=>b.tup?.bind λ vs=>(Rx a vs).map (!·)
noncomputable def HP(vs:List Expr):Bool:=vs.all (foldedForSure 8)||!vs.all (constantsAlone 8)
noncomputable def UG(n:Nat)(i:Int):Option Nat:=if 0<=i then(if i < n then some i.toNat else none) else if 0<=i+n then some (i+n).toNat else none
noncomputable def clampOf(n:Nat)(i:Int):Nat:=if i < 0 then(i+n).toNat else min i.toNat n
def loOf(n:Nat):Option Int->Nat
 | some i=>clampOf n i
 | none=>0
def hiOf(n:Nat):Option Int->Nat
 | some i=>clampOf n i
 | none=>n
def Au{α:Type}(l:List α)(lo hi:Option Int):List α:=
 (l.take (hiOf l.length hi)).drop (loOf l.length lo)
noncomputable def BL(ak:List (Int×Int))(i:Int):Option Int:=(ak.find? λ p=>decide (i=p.1)).map (·.2)
noncomputable def EB(ak:List (List Nat×List Nat))(i:List Nat):Option (List Nat):=(ak.find? λ p=>decide (i=p.1)).map (·.2)
def Bg:V->Int->Option V
 | .lst vs,i=>(UG vs.length i).bind λ k=>vs[k]?
 | .tup vs,i=>if 0<=i then vs[i.toNat]? else none
 | .str s,i=>if 0<=i then(s[i.toNat]?).map fun(c:Nat)=>V.str [c] else none
 | .bytes s,i=>if 0<=i then(s[i.toNat]?).map fun(c:Nat)=>V.int (c:Int) else none
 | .idict ak,i=>(BL ak i).map .int
 | _,_=>none
def Bo:V->Option Int->Option Int->Option V
 | .lst vs,lo,hi=>some (.lst (Au vs lo hi))
 | .str vs,lo,hi=>some (.str (Au vs lo hi))
 | .bytes vs,lo,hi=>some (.bytes (Au vs lo hi))
 | _,_,_=>none
noncomputable def Ct:List V->Option (List Int)
 | []=>some []
 | v::r=>v.int?.bind λ i=>(Ct r).map (i::·)
noncomputable def Dc:List V->Option (List (List Nat))
 | []=>some []
 | v::r=>v.str?.bind λ i=>(Dc r).map (i::·)
noncomputable def Ce:List V->Option (List (List Nat))
 | []=>some []
 | v::r=>v.bytes?.bind λ i=>(Ce r).map (i::·)
def pairInts?(v:V):Option (Int×Int):=v.tup?.bind λ l=>(two? l).bind λ p=>p.1.int?.bind λ a=>p.2.int?.map λ b=>(a,b)
noncomputable def F7:List V->Option (List (Int×Int))
 | []=>some []
 | v::r=>(pairInts? v).bind λ p=>(F7 r).map (p::·)
noncomputable def CY:List Int->Option (List Nat)
 | []=>some []
 | i::r=>if 0<=i/\i < 256 then(CY r).map (i.toNat::·) else none
noncomputable def joinL(a7:List Nat):List (List Nat)->List Nat
 | []=>[]
 | [x]=>x
 | x::r=>x++a7++joinL a7 r
theorem DM{p:List Nat}:joinL p []=[]:=rfl
theorem DO{p x:List Nat}:joinL p [x]=x:=rfl
theorem DE{p x y:List Nat}{r:List (List Nat)}:joinL p (x::y::r)=x++p++joinL p (y::r):=rfl
noncomputable def CU(x:Int):List Int->List Int
 | []=>[x]
 | y::r=>if x<=y then x::y::r else y::CU x r
theorem Ma{x:Int}:CU x []=[x]:=rfl
theorem DZ{x y:Int}{r:List Int}:CU x (y::r)=if x<=y then x::y::r else y::CU x r:=rfl
noncomputable def Ei:List Int->List Int
 | []=>[]
 | x::r=>CU x (Ei r)
theorem Pz:Ei []=[]:=rfl
theorem Kg{x:Int}{r:List Int}:Ei (x::r)=CU x (Ei r):=rfl
noncomputable def YR:V->Option Nat
 | .str s=>some s.length
 | .bytes s=>some s.length
 | .lst s=>some s.length
 | .tup s=>some s.length
 | _=>none
noncomputable def intV:V->Option Int
 | .int i=>some i
 | .bool b=>some (if b then 1 else 0)
 | _=>none
def KN(f:Int->Int->Int)(as:List V):Option V:=match two? as with
 | some p=>Cm (λ a b=>some (.int (f a b))) p.1 p.2
 | none=>(one? as).bind λ v=>v.lst?.bind λ vs=>(Ct vs).bind λ l=>match l with
  | []=>none
  | x::r=>some (.int (r.foldl f x))
def lstInts?(as:List V):Option (List Int):=(one? as).bind λ v=>v.lst?.bind Ct
def Bu(f:Str)(as:List V):Option V:=
 if f="list" then(one? as).bind λ v=>v.bytes?.map λ b=>.lst (b.map fun(c:Nat)=>V.int c)
 else if f="dict" then(one? as).bind λ v=>v.lst?.bind λ vs=>(F7 vs).bind λ l=>if (l.map (·.1)).Nodup/\l.length<=64 then some (.idict l) else none
 else if f="len" then(one? as).bind λ v=>(YR v).map fun(n:Nat)=>V.int (n:Int)
 else if f="ord" then(one? as).bind λ v=>v.str?.bind λ s=>(one? s).map fun(c:Nat)=>V.int (c:Int)
 else if f="chr" then(one? as).bind λ v=>v.int?.bind λ i=>if 0<=i/\i < 1114112 then some (.str [i.toNat]) else none
 else if f="abs" then(one? as).bind λ v=>v.int?.map λ i=>.int i.natAbs
 else if f="int" then(one? as).bind λ v=>(intV v).map .int
 else if f="min" then KN (λ a b=>if b < a then b else a) as
 else if f="max" then KN (λ a b=>if b > a then b else a) as
 else if f="sum" then(lstInts? as).map λ l=>.int l.sum
 else if f="sorted" then(lstInts? as).bind λ l=>if l.length < 64 then some (.lst ((Ei l).map .int)) else none
 else if f="bytes" then(lstInts? as).bind λ l=>(CY l).map .bytes
 else none
noncomputable def Bn:List Str:=["len","ord","chr","abs","int","min","max","sum","sorted","bytes","list","dict"]
noncomputable def Hp(c:Nat):Bool:=(48<=c&&c<=57)||(65<=c&&c<=90)||(97<=c&&c<=122)
noncomputable def findFrom(c:Nat)(n:Nat):Nat->List Nat->Int
 | _,[]=>-1
 | k,x::r=>if n<=k/\x=c then k else findFrom c n (k+1) r
theorem Kj{c n k x:Nat}{r:List Nat}:findFrom c n k (x::r)=if n<=k/\x=c then(k:Int) else findFrom c n (k+1) r:=rfl
noncomputable def AM(c:Nat)(n:Nat):Nat->List Nat->Int
 | _,[]=>-1
 | k,x::r=>let rest:=AM c n (k+1) r
  if 0<=rest then rest else if k < n/\x=c then k else -1
theorem L1{c n k x:Nat}{r:List Nat}:AM c n k (x::r)=if 0<=AM c n (k+1) r then AM c n (k+1) r else if k < n/\x=c then(k:Int) else -1:=rfl
abbrev B2(n:Nat)(l:List (List Nat)):Prop:=(l.map jZ).sum+l.length * n<=Ae
def UK(o:V)(as:List V):Option V:=(one? as).bind λ v=>v.lst?.bind λ vs=>match o with
 | .str s=>(Dc vs).bind λ l=>if B2 s.length l then some (.str (joinL s l)) else none
 | .bytes s=>(Ce vs).bind λ l=>if B2 s.length l then some (.bytes (joinL s l)) else none
 | _=>none
def getV(o:V)(as:List V):Option V:=(two? as).bind λ p=>match o with
 | .idict ak=>Cm (λ i d=>some (.int ((BL ak i).getD d))) p.1 p.2
 | .sdict ak=>p.1.str?.bind λ i=>p.2.str?.map λ d=>.str ((EB ak i).getD d)
 | _=>none
def sign?(v:V):Option Nat:=v.str?.bind one?
def CS(o:V)(m:Str)(as:List V):Option V:=
 if m="join" then UK o as
 else if m="split" then o.str?.bind λ s=>(one? as).bind λ v=>(sign? v).bind λ c=>if c∈s then none else some (.lst [.str s])
 else if m="upper" then(sign? o).bind λ c=>if as.isEmpty/\65<=c/\c<=90 then some (.str [c]) else none
 else if m="isalnum" then(sign? o).bind λ c=>if as.isEmpty/\c < 128 then some (.bool (Hp c)) else none
 else if m="find" then o.str?.bind λ s=>(two? as).bind λ p=>(sign? p.1).bind λ c=>p.2.int?.bind λ n=>if 0<=n then some (.int (findFrom c n.toNat 0 s)) else none
 else if m="rfind" then o.str?.bind λ s=>(three? as).bind λ p=>(sign? p.1).bind λ c=>Cm (λ z n=>if z=0/\0<=n then some (.int (AM c n.toNat 0 s)) else none) p.2.1 p.2.2
 else if m="get" then getV o as
 else none
noncomputable def strMeths:List (Str×String):=[("join","str.join"),("split","str.split"),("upper","str.upper"),("isalnum","str.isalnum"),("find","str.find"),("rfind","str.rfind")]
def Ub:V->List (Str×String)
 | .str _=>strMeths
 | .bytes _=>[("join","bytes.join")]
 | .idict _=>[("get","dict.get")]
 | .sdict _=>[("get","dict.get")]
 | _=>[]
def FD(o:V)(m:Str):Option String:=(Ub o).lookup m
noncomputable def rangeL(a b c:Int):List Int:=
 if 0 < c then(jE ((b - a+c - 1).fdiv c).toNat).map fun(k:Nat)=>a+c * (k:Int)
 else if c < 0 then(jE ((a - b - c - 1).fdiv (-c)).toNat).map fun(k:Nat)=>a+c * (k:Int)
 else []
noncomputable def small(i:Int):Bool:=decide (-1099511627776<=i)&&decide (i<=1099511627776)
def CJ(a b c:Int):Option (List V):=if (small a=true/\small b=true/\small c=true)/\c≠0/\(rangeL a b c).length<=Ae then some ((rangeL a b c).map .int) else none
def BW(as:List V):Option (List V):=match three? as with
 | some p=>p.1.int?.bind λ a=>Cm (λ b c=>CJ a b c) p.2.1 p.2.2
 | none=>match two? as with
  | some p=>Cm (λ a b=>CJ a b 1) p.1 p.2
  | none=>(one? as).bind λ v=>v.int?.bind λ b=>CJ 0 b 1
noncomputable def Dp(k:Nat):List V->List V
 | []=>[]
 | v::r=>.tup [.int k,v]::Dp (k+1) r
theorem J5{k:Nat}:Dp k []=[]:=rfl
theorem enumL_cE{k:Nat}{v:V}{r:List V}:Dp k (v::r) = .tup [.int k,v]::Dp (k+1) r:=rfl
noncomputable def PU:V->Option (List V)
 | .lst vs=>some vs
 | .tup vs=>some vs
 | .bytes b=>some (b.map fun(c:Nat)=>V.int c)
 | .str s=>some (s.map fun(c:Nat)=>V.str [c])
 | _=>none
noncomputable def ED:List Str:=["found","signs","row","codes","parts","ends","marks","pieces","rows","worth_row"]
def D4(x:Str)(t:TV):Option Slot:=match t.2 with
 | .val=>some (.val t.1)
 | .fresh=>t.1.lst?.map λ vs=>if ED.contains x&&(vs.isEmpty||!(x==("rows" : Str))) then .own vs else .val (.lst vs)
 | .bor=>none
def valOf(t:TV):Option V:=match t.2 with
 | .bor=>none
 | _=>some t.1
def BN:List TV->Option (List V)
 | []=>some []
 | t::r=>match t.2 with
  | .val=>(BN r).map (t.1::·)
  | .fresh=>if r.all (λ t=>t.2==.val) then some (t.1::r.map (·.1)) else none
  | .bor=>none
def JE:Const->Option V
 | .none=>some .none
 | .bool b=>some (.bool b)
 | .int i=>some (.int i)
 | .str s=>if s.cps.size<=Ae then some (.str s.cps.toList) else none
 | .bytes b=>if b.length<=Ae then some (.bytes (b.map (·.toNat))) else none
 | _=>none
def Qm:Slot->TV
 | .val v=>(v,.val)
 | .own vs=>(.lst vs,.bor)
 | .ownd ak=>(.sdict ak,.bor)
noncomputable def Ah(k:Option NameKind):Bool:=k==some .local||k==some .cell||k==some .free
noncomputable def okName(x:Str):Bool:=!(x==("__debug__" : Str))&&!(x==("__classdict__" : Str))
noncomputable def noStar(es:List Expr):Bool:=es.all λ e=>!u6 e.ctorIdx 22
noncomputable def BC(es:List Expr):Bool:=es.all λ e=>!u6 e.ctorIdx 7
def DB(e:Expr):Bool:=match callName? e with
 | some p=>!p.2.isEmpty||p.1==("charset_names" : Str)
 | none=>u6 e.ctorIdx 23||(u6 e.ctorIdx 19||u6 e.ctorIdx 6)
noncomputable def DK(e:Expr):Bool:=!u6 e.ctorIdx 26
def AR(sc:Scope)(f:Str):Bool:=okName f&&sc.names.lookup f==some .globalImplicit
def E8(gl:Str->Option V)(sc:Scope)(J:R)(x:Str):Option TV:=
 if !okName x then none
 else if Ah (sc.names.lookup x) then(J.lookup x).map Qm
 else if sc.names.lookup x==some .globalImplicit then(gl x).map λ v=>(v,.val)
 else none
noncomputable def Ec(ks:List (Option Expr)):List Expr->Option (List (List Nat×Int)):=match ks with
 | []=>λ vs=>if vs.isEmpty then some [] else none
 | k::ks=>λ vs=>match vs with
  | []=>none
  | v::vs=>(k.bind λ e=>(const? e).bind constStr?).bind λ s=>((const? v).bind constInt?).bind λ i=>(Ec ks vs).map ((s.cps.toList,i)::·)
noncomputable def FJ(ak:List (List Nat×Int))(i:List Nat):Option Int:=(ak.find? λ p=>decide (i=p.1)).map (·.2)
section
variable(E:Scope->R->Expr->Mo TV)(T:Scope->R->Expr->Mo Bool)(C:Str->List V->Mo V)
def B3(sc:Scope)(J:R)(a:V):List CmpOp->List Expr->Mo Bool
 | [],_=>.fail
 | op::ops,rs=>match rs with
  | []=>.fail
  | r::rs=>if ops.isEmpty then(if rs.isEmpty then .bind (E sc J r) λ b=>.lift (CK op a b.1) else .fail)
   else .bind (E sc J r) λ b=>.bind (.lift (CK op a b.1)) λ c=>if c then B3 sc J b.1 ops rs else .ret false
noncomputable def Pc:BoolOp->Bool
 | .And=>true
 | .Or=>false
def QB(sc:Scope)(J:R)(op:BoolOp):List Expr->Mo TV
 | []=>.fail
 | x::r=>if r.isEmpty then E sc J x else .bind (E sc J x) λ t=>match t.1.bool? with
  | some b=>if Pc op==b then QB sc J op r else .ret t
  | none=>.fail
def Fu(sc:Scope)(J:R):Option Expr->Mo (Option Int)
 | none=>.ret none
 | some e=>.bind (E sc J e) λ t=>.lift (t.1.int?.map some)
def Nf:V->Option (List V)
 | .lst vs=>some (Dp 0 vs)
 | .str s=>some (Dp 0 (s.map fun(c:Nat)=>V.str [c]))
 | _=>none
def CX(sc:Scope)(e:Expr):Option (List Expr):=(callName? e).bind λ p=>if AR sc p.1&&noStar p.2&&p.1==("range" : Str) then some p.2 else none
def Fe(sc:Scope)(e:Expr):Option (List Expr):=(callName? e).bind λ p=>if AR sc p.1&&noStar p.2&&p.1==("enumerate" : Str) then some p.2 else none
def HK(e:Expr):Bool:=((tuple? e).bind DJ).isSome
def Eb(e:Expr):Bool:=(name? e).isSome
def By(sc:Scope)(J:R)(tgt e:Expr):Mo (List V):=
 match CX sc e with
 | some as=>if Eb tgt then .bind (.mapM (E sc J) as) λ ts=>.lift (BW (ts.map (·.1))) else .fail
 | none=>match Fe sc e with
  | some as=>if HK tgt&&as.length==1 then .bind (.mapM (E sc J) as) λ ts=>.lift ((BN ts).bind λ vs=>(one? vs).bind Nf) else .fail
  | none=>if Eb tgt&&BC [e] then .bind (E sc J e) λ t=>.lift ((valOf t).bind PU) else .fail
def AJ(e:Expr)(v:V):Option (List (Str×V)):=match name? e with
 | some x=>some [(x,v)]
 | none=>((tuple? e).bind DJ).bind λ p=>v.tup?.bind λ l=>(two? l).map λ q=>[(p.1,q.1),(p.2,q.2)]
def tgtNames(e:Expr):List Str:=match name? e with
 | some x=>[x]
 | none=>match (tuple? e).bind DJ with
  | some p=>[p.1,p.2]
  | none=>[]
noncomputable def TH(k:Option NameKind):Bool:=k==some .cell||k==some .free
def Db(sc csc:Scope)(tgt:Expr):Bool:=
 csc.kind==.function&&decide (tgtNames tgt).Nodup&&(tgtNames tgt).all (λ x=>csc.names.lookup x==some .local) &&
 csc.names.all λ p=>(p.2==.local&&((tgtNames tgt).contains p.1||p.1==(".0" : Str))&&csc.names.lookup p.1==some .local) ||
  (p.2==.free&&TH (sc.names.lookup p.1)&&csc.names.lookup p.1==some .free)||(p.2==.globalImplicit&&csc.names.lookup p.1==some .globalImplicit)
def OT(sc:Scope)(J:R)(es:List Expr):Mo Bool:=if es.isEmpty then .ret true else match one? es with
 | some e=>T sc J e
 | none=>.fail
def BR(sc:Scope)(J:R)(tgt:Expr)(ifs:List Expr)(elt:Expr):List V->Mo (List V)
 | []=>.ret []
 | v::r=>match AJ tgt v with
  | none=>.fail
  | some xs=>.bind (OT T sc (xs.map (λ p=>(p.1,Slot.val p.2))++J) ifs) λ ok=>
   if ok then .bind (E sc (xs.map (λ p=>(p.1,Slot.val p.2))++J) elt) λ t=>match valOf t with
    | some y=>.bind (BR sc J tgt ifs elt r) λ ys=>.ret (y::ys)
    | none=>.fail
   else BR sc J tgt ifs elt r
def Mo.calm{α:Type}(m:Mo α):Mo α:=λ O=>match m O with
 | some (.ok a,O')=>some (.ok a,O')
 | _=>none
def WM(i:V):Mo TV:=λ O=>i.int?.bind λ k=>if 0<=k/\k < 1000 then(O[k.toNat]?).map λ v=>(.ok (v,.val),O) else none
def IG(o i:V):Mo TV:=if o.isPen then WM i else .lift (i.int?.bind λ k=>(Bg o k).map λ v=>(v,.val))
def Cv(f:Str)(ts:List TV):Mo TV:=
 if f="dict" then .lift ((one? ts).bind λ t=>t.1.lst?.bind λ vs=>if t.2 = .fresh then(Bu f [.lst vs]).map AI else none)
 else if Bn.contains f then .lift ((Bu f (ts.map (·.1))).map AI)
 else match BN ts with
  | some vs=>.bind (C f vs) λ v=>.ret (v,.val)
  | none=>.fail
def D8(e:Expr):Option (Option Expr×Option Expr):=(slice? e).bind λ c=>if c.2.2.isNone then some (c.1,c.2.1) else none
def HA(gs:List Comprehension):Option (Expr×Expr×List Expr):=(one? gs).bind λ g=>if g.is_async=0 then some (g.target,g.iter,g.ifs) else none
def Ig(o i:Expr):Option (List (Option Expr)×List Expr×Str):=(dict? o).bind λ c=>(name? i).map λ x=>(c.1,c.2,x)
def dict1?(ks:List (Option Expr))(vs:List Expr):Option (Int×Int):=
 (one? ks).bind λ k=>(k.bind λ e=>(const? e).bind constInt?).bind λ i=>((one? vs).bind λ e=>(const? e).bind constInt?).map λ j=>(i,j)
def Sn(kn:Str->Bool)(gl:Str->Option V)(sc:Scope)(J:R):Expr->Mo TV
 | .Constant c _ _=>.lift ((JE c).map λ v=>(v,.val))
 | .Name x _=>.lift (E8 gl sc J x)
 | .BinOp l op r _=>.bind (E sc J l) λ a=>.bind (E sc J r) λ b=>.lift ((A1 op a.1 b.1).map AI)
 | .UnaryOp op e _=>match op with
  | .USub=>.bind (E sc J e) λ a=>.lift (a.1.int?.map λ i=>(.int (-i),.val))
  | _=>.fail
 | .IfExp t a b _=>.bind (T sc J t) λ c=>if c then E sc J a else E sc J b
 | .BoolOp op es _=>QB E sc J op es
 | .Compare l ops rs _=>if BC rs then .bind (E sc J l) λ a=>.bind (B3 E sc J a.1 ops rs) λ b=>.ret (.bool b,.val) else .fail
 | .Call f as ks q=>if !ks.isEmpty then .fail else match f with
  | .Name f _=>if AR sc f&&noStar as&&(Bn.contains f||kn f) then .bind (.mapM (E sc J) as) λ ts=>Cv C f ts else .fail
  | .Attribute o m ap=>if DB o&&(ap.endLine==q.line)&&decide (as.length < 30)&&noStar as then .bind (E sc J o) λ t=>
   if (FD t.1 m).isSome then .bind (.mapM (E sc J) as) λ ts=>.lift ((CS t.1 m (ts.map (·.1))).map AI) else .fail
   else .fail
  | _=>.fail
 | .Subscript o i _=>match D8 i with
  | some (lo,hi)=>.bind (E sc J o) λ t=>.bind (Fu E sc J lo) λ l=>.bind (Fu E sc J hi) λ h=>.lift ((Bo t.1 l h).map AI)
  | none=>match Ig o i with
   | some (ks,vs,x)=>(match Ec ks vs with
    | some l=>if (l.map (·.1)).Nodup/\l.length<=15/\l≠[] then .lift ((E8 gl sc J x).bind λ t=>t.1.str?.bind λ s=>(FJ l s).map λ i=>(V.int i,HQ.val)) else .fail
    | none=>.fail)
   | none=>if DK i then .bind (E sc J o) λ t=>.bind (E sc J i) λ k=>IG t.1 k.1 else .fail
 | .List es _=>if noStar es then .bind (.mapM (E sc J) es) λ ts=>.lift ((BN ts).bind λ vs=>if vs.length<=Ae then some (.lst vs,.fresh) else none) else .fail
 | .Tuple es _ _=>if noStar es then .bind (.mapM (E sc J) es) λ ts=>.lift ((BN ts).bind λ vs=>if vs.length<=Ae then some (.tup vs,.val) else none) else .fail
 | .Dict ks vs _=>.lift ((dict1? ks vs).map λ p=>(.idict [p],.val))
 | .ListComp elt gs csc _=>match HA gs with
  | none=>.fail
  | some (tgt,it,ifs)=>if !(Db sc csc tgt&&(J.lookup (".0" : Str)).isNone) then .fail else .bind (By E sc J tgt it) λ items=>.bind (Mo.calm (BR E T csc J tgt ifs elt items)) λ ys=>.ret (.lst ys,.fresh)
 | _=>.fail
def H5(sc:Scope)(J:R)(op:BoolOp):List Expr->Mo Bool
 | []=>.ret (Pc op)
 | x::r=>.bind (T sc J x) λ b=>if Pc op==b then H5 sc J op r else .ret b
def V5(sc:Scope)(J:R)(e:Expr):Mo Bool:=.bind (E sc J e) λ t=>.lift t.1.bool?
def XO(sc:Scope)(J:R)(e:Expr):Mo Bool:=match e with
 | .UnaryOp op x _=>match op with
  | .Not=>.bind (T sc J x) λ b=>.ret (!b)
  | _=>V5 E sc J e
 | .BoolOp op es _=>H5 T sc J op es
 | .IfExp _ _ _ _=>.fail
 | .Compare l ops rs _=>if BC rs then .bind (E sc J l) λ a=>B3 E sc J a.1 ops rs else .fail
 | _=>V5 E sc J e
abbrev St:=Option (Fl×R×A4)
def liftE{α:Type}(m:Mo α)(J:R)(O:A4)(k:α->A4->St):St:=match m O with
 | some (.ok a,O')=>k a O'
 | some (.exc,O')=>some (.exc,J,O')
 | none=>none
noncomputable def B0:List Expr->Option (List Str)
 | []=>some []
 | e::r=>(name? e).bind λ x=>(B0 r).map (x::·)
def Aw(J:R):List (Str×Slot)->R
 | []=>J
 | (x,s)::r=>Aw (BE J x s) r
theorem NX{J:R}{x:Str}{s:Slot}{r:List (Str×Slot)}:Aw J ((x,s)::r)=Aw (BE J x s) r:=rfl
def Ci(xs:List Str):List TV->Option (List (Str×Slot)):=match xs with
 | []=>λ ts=>if ts.isEmpty then some [] else none
 | x::xs=>λ ts=>match ts with
  | []=>none
  | t::ts=>(D4 x t).bind λ s=>(Ci xs ts).map ((x,s)::·)
noncomputable def Fq(ak:List (List Nat×List Nat))(k v:List Nat):List (List Nat×List Nat):=match ak with
 | []=>[(k,v)]
 | (a,b)::r=>if k=a then(a,v)::r else(a,b)::Fq r k v
theorem Os{a b k v:List Nat}{r:List (List Nat×List Nat)}:Fq ((a,b)::r) k v=if k=a then(a,v)::r else(a,b)::Fq r k v:=rfl
noncomputable def Slot.own? : Slot->Option (List V)
 | .own vs=>some vs
 | _=>none
def Hr(J:R)(x m:Str)(ts:List TV):Option R:=(J.lookup x).bind λ sl=>sl.own?.bind λ vs=>
  if m="append" then(one? ts).bind λ t=>(valOf t).bind λ v=>if vs.length < Ae then some (BE J x (.own (vs++[v]))) else none
  else if m="extend" then(one? ts).bind λ t=>t.1.lst?.bind λ ws=>if vs.length+ws.length<=Ae then some (BE J x (.own (vs++ws))) else none
  else if m="insert" then(two? ts).bind λ p=>(valOf p.2).bind λ v=>p.1.1.int?.bind λ i=>if i=0/\p.1.2 = .val/\vs.length < Ae then some (BE J x (.own (v::vs))) else none
  else none
def De(J:R)(x:Str):Bool:=((J.lookup x).bind Slot.own?).isSome
noncomputable def C4(m:Str):Bool:=m=="append"||m=="extend"||m=="insert"
def V9(gl:Str->Option V)(sc:Scope)(J:R)(O:A4)(x:Str)(i:Expr)(t:TV):St:=(J.lookup x).bind λ sl=>match sl with
 | .val o=>if o.isPen then((const? i).bind constInt?).bind λ k=>if t.2 = .val/\0<=k/\k.toNat < O.length/\k < 1000 then some (.nxt,J,O.set k.toNat t.1) else none else none
 | .ownd ak=>(name? i).bind λ y=>t.1.str?.bind λ v=>(E8 gl sc J y).bind λ ky=>ky.1.str?.bind λ k=>if t.2 = .val/\ky.2 = .val/\ak.length < 64 then some (.nxt,BE J x (.ownd (Fq ak k v)),O) else none
 | .own _=>none
noncomputable def assign1?(e:Stmt):Option (List Expr×Expr):=if h:e.ctorIdx=5 then nN (motive_2:=λ _=>Option (List Expr×Expr)) e h (λ ts e _=>some (ts,e)) else none
noncomputable def Fr(s:Stmt):Bool:=u6 s.ctorIdx 27
def handler?(b:List Stmt):Option (Option (Str×Const)):=(one? b).bind λ st=>if Fr st then some none else
 (assign1? st).bind λ q=>(one? q.1).bind λ t=>(name? t).bind λ x=>(const? q.2).map λ c=>some (x,c)
def Gf(J:R)(O:A4)(b:List Stmt):St:=(handler? b).bind λ o=>match o with
 | some p=>(JE p.2).map λ v=>(.nxt,BE J p.1 (.val v),O)
 | none=>some (.cont,J,O)
def Hy(sc:Scope)(b:List Stmt):Bool:=match handler? b with
 | some (some p)=>Ah (sc.names.lookup p.1)
 | some none=>true
 | none=>false
noncomputable def UA:V->Bool
 | .str _=>true
 | .int _=>true
 | _=>false
def F6(sc:Scope)(tgt:Expr):Bool:=decide (tgtNames tgt).Nodup&&(tgtNames tgt).all λ x=>Ah (sc.names.lookup x)
noncomputable def BI(e:Expr):Bool:=!(u6 e.ctorIdx 9||u6 e.ctorIdx 10)
noncomputable def Slot.handed:Slot->Option V
 | .own vs=>some (.lst vs)
 | .ownd ak=>some (.sdict ak)
 | .val _=>none
def D6(sc:Scope)(J:R)(e:Expr):Option V:=(name? e).bind λ x=>if okName x&&Ah (sc.names.lookup x) then(J.lookup x).bind Slot.handed else none
variable(X:Scope->R->List Stmt->A4->St)
def Bh(sc:Scope)(tgt:Expr)(body:List Stmt):List V->R->A4->St
 | [],J,O=>some (.nxt,J,O)
 | v::r,J,O=>(AJ tgt v).bind λ xs=>(X sc (Aw J (xs.map λ p=>(p.1,Slot.val p.2))) body O).bind λ o=>match o.1 with
   | .nxt=>Bh sc tgt body r o.2.1 o.2.2
   | .cont=>Bh sc tgt body r o.2.1 o.2.2
   | .brk=>some (.nxt,o.2)
   | _=>some o
def BV(sc:Scope)(bf:Expr)(body:List Stmt):Nat->R->A4->St
 | 0,_,_=>none
 | n+1,J,O=>(T sc J bf O).bind λ t=>match t.1 with
  | .exc=>none
  | .ok b=>if b then(X sc J body t.2).bind λ o=>match o.1 with
    | .nxt=>BV sc bf body n o.2.1 o.2.2
    | .cont=>BV sc bf body n o.2.1 o.2.2
    | .brk=>some (.nxt,o.2)
    | .ret _=>some o
    | .exc=>none
   else some (.nxt,J,t.2)
inductive W4 where
 | name (x:Str) | names (xs:List Str) | item (x:Str) (i:Expr)
def item?(e:Expr):Option (Str×Expr):=(sub? e).bind λ c=>(name? c.1).map λ x=>(x,c.2)
def tgt?(ts:List Expr):Option W4:=(one? ts).bind λ t=>match name? t with
 | some x=>some (.name x)
 | none=>match tuple? t with
  | some es=>(B0 es).map .names
  | none=>(item? t).map λ p=>.item p.1 p.2
def DN(e:Expr):Bool:=((dict? e).bind λ c=>if c.1.isEmpty&&c.2.isEmpty then some () else none).isSome
def Ea(gl:Str->Option V)(sc:Scope)(J:R)(O:A4)(e:Expr):W4->St
 | .name x=>if Ah (sc.names.lookup x) then
   if DN e then some (.nxt,BE J x (.ownd []),O)
   else if BI e then liftE (E sc J e) J O λ t O'=>(D4 x t).bind λ s=>some (.nxt,BE J x s,O') else none
  else none
 | .names xs=>match tuple? e with
  | some es=>if xs.Nodup/\(xs.all λ x=>Ah (sc.names.lookup x))/\noStar es/\HP es then liftE (.mapM (E sc J) es) J O λ tvs O'=>(Ci xs tvs).bind λ s=>if (tvs.filter (λ t=>t.2==.fresh)).length<=1/\tvs.length<=8 then some (.nxt,Aw J s,O') else none else none
  | none=>if xs.Nodup/\(xs.all λ x=>sc.names.lookup x==some .local) then liftE (E sc J e) J O λ t O'=>t.1.tup?.bind λ vs=>if t.2 = .val/\vs.length=xs.length then some (.nxt,Aw J (xs.zip (vs.map .val)),O') else none else none
 | .item x i=>if okName x&&Ah (sc.names.lookup x)&&BI e then liftE (E sc J e) J O λ t O'=>V9 gl sc J O' x i t else none
def Uk(sc:Scope)(J:R)(O:A4)(e:Expr):St:=match e with
 | .Call f as ks q=>if !ks.isEmpty then none else match f with
  | .Attribute o m ap=>(name? o).bind λ x=>if okName x&&Ah (sc.names.lookup x)&&De J x&&C4 m&&(ap.endLine==q.line)&&decide (as.length < 30)&&noStar as then liftE (.mapM (E sc J) as) J O λ ts O'=>(Hr J x m ts).map λ J'=>(.nxt,J',O') else none
  | .Name _ _=>liftE (E sc J e) J O λ _ O'=>some (.nxt,J,O')
  | _=>none
 | _=>none
def Vp(sc:Scope)(J:R)(O:A4)(p:Str×List Expr):St:=if p.1=="MimeFault"&&sc.names.lookup p.1==some .globalImplicit&&(p.2.length==1||p.2.length==2)&&noStar p.2 then
   liftE (.mapM (E sc J) p.2) J O λ ts O'=>if ts.all (λ t=>UA t.1) then some (.exc,J,O') else none else none
def hand?(hs:List ExceptHandler):Option (Str×List Stmt):=(one? hs).bind λ h=>match h with
 | .ExceptHandler ty nm hb _=>if nm.isNone then ty.bind λ e=>(name? e).map λ f=>(f,hb) else none
def U9(sc:Scope)(J:R)(O:A4)(body:List Stmt)(p:Str×List Stmt):St:=if p.1=="MimeFault"&&sc.names.lookup p.1==some .globalImplicit then(X sc J body O).bind λ r=>match r.1 with
  | .exc=>if Hy sc p.2 then Gf r.2.1 r.2.2 p.2 else none
  | _=>some r else none
def exF(gl:Str->Option V)(N:Nat)(sc:Scope)(J:R)(O:A4):Stmt->St
 | .Return e _=>e.bind λ e=>match D6 sc J e with
  | some v=>some (.ret v,J,O)
  | none=>liftE (E sc J e) J O λ t O'=>(valOf t).bind λ v=>some (.ret v,J,O')
 | .Assign ts e _=>(tgt? ts).bind (Ea E gl sc J O e)
 | .Expr e _=>Uk E sc J O e
 | .If t b o _=>liftE (T sc J t) J O λ c O'=>if c then X sc J b O' else X sc J o O'
 | .For tgt it body bk _=>if bk.isEmpty&&F6 sc tgt then liftE (By E sc J tgt it) J O λ items O'=>Bh X sc tgt body items J O' else none
 | .While t body bk _=>if bk.isEmpty then BV T X sc t body N J O else none
 | .Break _=>some (.brk,J,O)
 | .Continue _=>some (.cont,J,O)
 | .Pass _=>some (.nxt,J,O)
 | .Raise e c _=>if c.isNone then(e.bind callName?).bind (Vp E sc J O) else none
 | .Try body hs bk fin _=>if bk.isEmpty&&fin.isEmpty then(hand? hs).bind (U9 X sc J O body) else none
 | _=>none
end
def Ud(X1:R->A4->Stmt->St):List Stmt->R->A4->St
 | [],J,O=>some (.nxt,J,O)
 | st::r,J,O=>(X1 J O st).bind λ o=>match o.1 with
  | .nxt=>Ud X1 r o.2.1 o.2.2
  | _=>some o
structure Env0 where
 gl:Str->Option V
 fn:Str->Option Ev
 N:Nat
noncomputable def prog:Program:=nV
noncomputable def C:Addr:=108
noncomputable def bsV(x:String):V:=.bytes (x.toList.map Char.toNat)
noncomputable def Uy(x:String):V:=.str (x.toList.map Char.toNat)
def Ul:List (hV×V):=([("SIGNS",bsV "ABCDEFGHIJKLMNOPQRSTUVWXYZabcdefghijklmnopqrstuvwxyz0123456789+/"),("PAD",.int 61),("LINE_END",.bytes [13,10]),
 ("ASCII",Uy "us-ascii"),("LATIN",Uy "iso-8859-1"),("UTF8",Uy "utf-8"),("CHARSETS",.tup [Uy "us-ascii",Uy "iso-8859-1",Uy "utf-8"]),("UNKNOWN_SIGN",.str [65533]),
 ("EQUALS",.int 61),("BLANK",.int 32),("UNDERLINE",.int 95),("HEX",bsV "0123456789ABCDEF"),("WORD_SIGNS",bsV "ABCDEFGHIJKLMNOPQRSTUVWXYZabcdefghijklmnopqrstuvwxyz0123456789!*+-/"),
 ("MOST_WORD",.int 75),("WHITE",.tup [.int 9,.int 10,.int 13,.int 32]),("OPENING",.int 40),("CLOSING",.int 41),("WAYS",.tup [Uy "Q",Uy "B"])]:List (String×V)).map λ p=>(kH p.1,p.2)
noncomputable def OY(f:hV):List V:=if f="encoded_words" then [.int 75] else []
noncomputable def FN:List hV:=(["worth_table","group_codes","group_octets","part_encoded","one_line","in_lines","encoded","decoded","lower_code","lower_text","charset_names","charset_name","need_charset","utf8_length","utf8_octets","follower_span","utf8_sign","sign_at","text_in","strict_text","guessed_text","has_sign","octets_in","best_charset","quoted_code","hex_worth","quoted_at","unquoted","word_q_encoded","word_q_decoded","payload","framed_word","encoded_word","needs_word","encoded_span","sign_sizes","chunk_ends","words_of","encoded_words","shorter_words","is_word_sign","part_end","word_parts","is_apart","plain_text","word_at","pieces_of","all_white","decoded_words","_law_pen","_law_draw","_law_pick","_law_bits","_law_marked","_law_word","_law_words","_law_needy","_law_due","_law_text","_law_one_holds","law"]:List String).map kH
def fnT(pw:Program)(f:hV):Option Ev:=(pw.theDef f).map λ p=>⟨p.1.args.map (·.arg),OY f,p.2.2,p.2.1⟩
def G:Env0:={gl:=λ x=>Ul.lookup x,fn:=λ f=>if FN.contains f then fnT prog f else none,N:=1000}
def bindA(fd:Ev)(vs:List V):Option R:=
 if fd.params.length<=vs.length+fd.defaults.length/\vs.length<=fd.params.length then
  some (fd.params.zip ((vs++fd.defaults.drop (vs.length+fd.defaults.length - fd.params.length)).map .val))
 else none
def outF:St->Option (Out V×A4)
 | some (.ret v,_,O)=>some (.ok v,O)
 | some (.nxt,_,O)=>some (.ok .none,O)
 | some (.exc,_,O)=>some (.exc,O)
 | _=>none
mutual
def ev:Nat->Scope->R->Expr->Mo TV
 | 0=>λ _ _ _=>.fail
 | d+1=>λ sc J e=>Sn (ev d) (Bf d) (cl d) (λ f=>(G.fn f).isSome) G.gl sc J e
def Bf:Nat->Scope->R->Expr->Mo Bool
 | 0=>λ _ _ _=>.fail
 | d+1=>λ sc J e=>XO (ev d) (Bf d) sc J e
def exs:Nat->Scope->R->List Stmt->A4->St
 | 0=>λ _ _ _ _=>none
 | d+1=>λ sc J b O=>Ud (exF (ev d) (Bf d) (exs d) G.gl G.N sc) b J O
def cl:Nat->Str->List V->Mo V
 | 0=>λ _ _=>.fail
 | d+1=>λ f vs O=>match G.fn f with
  | none=>none
  | some fd=>match bindA fd vs with
   | none=>none
   | some J=>outF (exs d fd.scope J fd.body O)
end
section
variable{α β:Type}
theorem AA{o:Option α}{f:α->Option β}{b:β}(h:o.bind f=some b):∃ a,o=some a/\f a=some b:=Option.bind_eq_some_iff.mp h
theorem Bq{o:Option α}{f:α->β}{b:β}(h:o.map f=some b):∃ a,o=some a/\f a=b:=(mS).mp h
theorem BT{p:Prop}[Decidable p]{o:Option α}{b:α}(h:(if p then o else none)=some b):p/\o=some b:=by
 by_cases q:p
 ·replace h:=Gn q h;exact⟨q,h⟩
 ·obtain h:=Fg q h;exact none_some h
theorem Bd{p:Prop}[Decidable p]{a b:α}(h:(if p then some a else none)=some b):p/\a=b:=by
 obtain⟨q,h⟩:=BT h
 exact⟨q,hG h⟩
theorem one?_some{l:List α}{a:α}(h:one? l=some a):l=[a]:=by
 rcases l with _ | ⟨x,_ | ⟨_,_⟩⟩ <;> (first | exact none_some h | exact fls h | (obtain h:=hG h;subst h) | exact nc V.ctorIdx h (.refl false) | cases h);rfl
theorem two?_some{l:List α}{p:α×α}(h:two? l=some p):l=[p.1,p.2]:=by
 cases l with
 | nil=>exact none_some h
 | cons x r=>obtain⟨y,h1,rfl⟩:=Bq h;exact rwE (one?_some h1) rfl
theorem three?_some{l:List α}{p:α×α×α}(h:three? l=some p):l=[p.1,p.2.1,p.2.2]:=by
 cases l with
 | nil=>exact none_some h
 | cons x r=>obtain⟨y,h1,rfl⟩:=Bq h;exact rwE (two?_some h1) rfl
end
theorem A2{p:Prop}[Decidable p]{α:Type}{o:p->Option α}{b:α}(h:(if q:p then o q else none)=some b):∃ q,o q=some b:=by
 by_cases q:p
 ·exact⟨q,(dif_pos q).symm.trans h⟩
 ·exact none_some ((dif_neg q).symm.trans h)
theorem V.int?_some{v:V}{i:Int}(h:v.int? = .some i):v = .int i:=by
 obtain⟨q,h⟩:=A2 h
 exact V.int.elim (motive_1:=λ v=>∀ q:v.ctorIdx=2,V.int.elim (motive_1:=λ _=>Option (Int)) v q (λ i=>some i) = .some i->v = .int i) v q (λ x _ h=>by(obtain h:=hG h;subst h);rfl) q h
theorem V.str?_some{v:V}{i:List Nat}(h:v.str? = .some i):v = .str i:=by
 obtain⟨q,h⟩:=A2 h
 exact V.str.elim (motive_1:=λ v=>∀ q:v.ctorIdx=3,V.str.elim (motive_1:=λ _=>Option (List Nat)) v q (λ i=>some i) = .some i->v = .str i) v q (λ x _ h=>by(obtain h:=hG h;subst h);rfl) q h
theorem V.bytes?_some{v:V}{i:List Nat}(h:v.bytes? = .some i):v = .bytes i:=by
 obtain⟨q,h⟩:=A2 h
 exact V.bytes.elim (motive_1:=λ v=>∀ q:v.ctorIdx=4,V.bytes.elim (motive_1:=λ _=>Option (List Nat)) v q (λ i=>some i) = .some i->v = .bytes i) v q (λ x _ h=>by(obtain h:=hG h;subst h);rfl) q h
theorem V.lst?_some{v:V}{i:List V}(h:v.lst? = .some i):v = .lst i:=by
 obtain⟨q,h⟩:=A2 h
 exact V.lst.elim (motive_1:=λ v=>∀ q:v.ctorIdx=6,V.lst.elim (motive_1:=λ _=>Option (List V)) v q (λ i=>some i) = .some i->v = .lst i) v q (λ x _ h=>by(obtain h:=hG h;subst h);rfl) q h
theorem V.tup?_some{v:V}{i:List V}(h:v.tup? = .some i):v = .tup i:=by
 obtain⟨q,h⟩:=A2 h
 exact V.tup.elim (motive_1:=λ v=>∀ q:v.ctorIdx=5,V.tup.elim (motive_1:=λ _=>Option (List V)) v q (λ i=>some i) = .some i->v = .tup i) v q (λ x _ h=>by(obtain h:=hG h;subst h);rfl) q h
theorem V.bool?_some{v:V}{i:Bool}(h:v.bool? = .some i):v = .bool i:=by
 obtain⟨q,h⟩:=A2 h
 exact V.bool.elim (motive_1:=λ v=>∀ q:v.ctorIdx=1,V.bool.elim (motive_1:=λ _=>Option (Bool)) v q (λ i=>some i) = .some i->v = .bool i) v q (λ x _ h=>by(obtain h:=hG h;subst h);rfl) q h
theorem V.isNone_is{v:V}(h:v.isNone=true):v = .none:=by cases v <;> first | rfl | exact fls h
theorem V.isPen_is{v:V}(h:v.isPen=true):v = .pen:=by cases v <;> first | rfl | exact fls h
theorem Lq{α:Type}{f:Int->Int->Option α}{a b:V}{c:α}(h:Cm f a b=some c):∃ i j,a = .int i/\b = .int j/\f i j=some c:=by
 obtain⟨i,h1,h⟩:=AA h
 obtain⟨j,h2,h⟩:=AA h
 exact⟨i,j,V.int?_some h1,V.int?_some h2,h⟩
theorem sign?_some{v:V}{c:Nat}(h:sign? v=some c):v = .str [c]:=by
 obtain⟨s,h1,h⟩:=AA h
 exact i7 (V.str?_some h1) (rwE (one?_some h) rfl)
theorem name?_some{e:Expr}{c:Str}(h:name? e=some c):∃ p,e = .Name c p:=by
 obtain⟨q,h⟩:=A2 h
 exact oR (motive_1:=λ e=>∀ q:e.ctorIdx=23,oR (motive_1:=λ _=>Option (Str)) e q (λ x _=>some x)=some c->∃ p,e = .Name c p) e q (λ x p _ h=>by(obtain h:=hG h;subst h);exact⟨_,rfl⟩) q h
theorem const?_some{e:Expr}{c:Const}(h:const? e=some c):∃ k p,e = .Constant c k p:=by
 obtain⟨q,h⟩:=A2 h
 exact nA (motive_1:=λ e=>∀ q:e.ctorIdx=19,nA (motive_1:=λ _=>Option (Const)) e q (λ c _ _=>some c)=some c->∃ k p,e = .Constant c k p) e q (λ c k p _ h=>by(obtain h:=hG h;subst h);exact⟨_,_,rfl⟩) q h
theorem tuple?_some{e:Expr}{c:List Expr}(h:tuple? e=some c):∃ k p,e = .Tuple c k p:=by
 obtain⟨q,h⟩:=A2 h
 exact qN (motive_1:=λ e=>∀ q:e.ctorIdx=25,qN (motive_1:=λ _=>Option (List Expr)) e q (λ es _ _=>some es)=some c->∃ k p,e = .Tuple c k p) e q (λ x k p _ h=>by(obtain h:=hG h;subst h);exact⟨_,_,rfl⟩) q h
theorem call?_some{e:Expr}{c:Expr×List Expr×List Keyword}(h:call? e=some c):∃ p,e = .Call c.1 c.2.1 c.2.2 p:=by
 obtain⟨q,h⟩:=A2 h
 exact n9 (motive_1:=λ e=>∀ q:e.ctorIdx=16,n9 (motive_1:=λ _=>Option (Expr×List Expr×List Keyword)) e q (λ f as ks _=>some (f,as,ks))=some c->∃ p,e = .Call c.1 c.2.1 c.2.2 p) e q (λ f as ks p _ h=>by(obtain h:=hG h;subst h);exact⟨_,rfl⟩) q h
theorem sub?_some{e:Expr}{c:Expr×Expr}(h:sub? e=some c):∃ p,e = .Subscript c.1 c.2 p:=by
 obtain⟨q,h⟩:=A2 h
 exact lS (motive_1:=λ e=>∀ q:e.ctorIdx=21,lS (motive_1:=λ _=>Option (Expr×Expr)) e q (λ o i _=>some (o,i))=some c->∃ p,e = .Subscript c.1 c.2 p) e q (λ o i p _ h=>by(obtain h:=hG h;subst h);exact⟨_,rfl⟩) q h
theorem slice?_some{e:Expr}{c:Option Expr×Option Expr×Option Expr}(h:slice? e=some c):∃ p,e = .Slice c.1 c.2.1 c.2.2 p:=by
 obtain⟨q,h⟩:=A2 h
 exact qO (motive_1:=λ e=>∀ q:e.ctorIdx=26,qO (motive_1:=λ _=>Option (Option Expr×Option Expr×Option Expr)) e q (λ a b c _=>some (a,b,c))=some c->∃ p,e = .Slice c.1 c.2.1 c.2.2 p) e q (λ a b d p _ h=>by(obtain h:=hG h;subst h);exact⟨_,rfl⟩) q h
theorem dict?_some{e:Expr}{c:List (Option Expr)×List Expr}(h:dict? e=some c):∃ p,e = .Dict c.1 c.2 p:=by
 obtain⟨q,h⟩:=A2 h
 exact oS (motive_1:=λ e=>∀ q:e.ctorIdx=6,oS (motive_1:=λ _=>Option (List (Option Expr)×List Expr)) e q (λ a b _=>some (a,b))=some c->∃ p,e = .Dict c.1 c.2 p) e q (λ a b p _ h=>by(obtain h:=hG h;subst h);exact⟨_,rfl⟩) q h
theorem CD{e:Expr}{i:Int}(h:(const? e).bind constInt?=some i):∃ k p,e = .Constant (.int i) k p:=by
 obtain⟨c,h1,h⟩:=AA h
 obtain⟨k,p,rfl⟩:=const?_some h1
 cases c <;> first | exact none_some h | ((obtain h:=hG h;subst h);exact⟨k,p,rfl⟩)
theorem Iu{e:Expr}{i:Str}(h:(const? e).bind constStr?=some i):∃ k p,e = .Constant (.str i) k p:=by
 obtain⟨c,h1,h⟩:=AA h
 obtain⟨k,p,rfl⟩:=const?_some h1
 cases c <;> first | exact none_some h | ((obtain h:=hG h;subst h);exact⟨k,p,rfl⟩)
theorem isEmpty_is{α:Type}{l:List α}(h:l.isEmpty=true):l=[]:=(qV).mp h
theorem callName?_some{e:Expr}{p:Str×List Expr}(h:callName? e=some p):∃ np q,e = .Call (.Name p.1 np) p.2 [] q:=by
 obtain⟨c,h1,h⟩:=AA h
 obtain⟨q,rfl⟩:=call?_some h1
 obtain⟨hk,h⟩:=BT h
 obtain⟨x,h1,rfl⟩:=Bq h
 obtain⟨np,e1⟩:=name?_some h1
 exact⟨np,q,by rw[e1,isEmpty_is hk]⟩
theorem HI{es:List Expr}{p:Str×Str}(h:DJ es=some p):∃ q r,es=[.Name p.1 q,.Name p.2 r]:=by
 obtain⟨l,h1,h⟩:=AA h
 obtain⟨x,h2,h⟩:=AA h
 obtain⟨y,h3,rfl⟩:=Bq h
 obtain⟨q,h2⟩:=name?_some h2
 obtain⟨r,h3⟩:=name?_some h3
 exact⟨q,r,by(refine i7 (two?_some h1) (rwE h2 ?_);exact rwE h3 rfl)⟩
theorem C0{p:Prop}[Decidable p]{a b:Option α}{c:α}(h:(if p then a else b)=some c):(p/\a=some c)\/b=some c:=by
 by_cases q:p
 ·replace h:=Gn q h;exact .inl ⟨q,h⟩
 ·have h:=Fg q h;exact .inr h
theorem DT{l:List (Str×α)}{x:Str}{a:α}(h:l.lookup x=some a):(x,a)∈l:=by
 induction l with
 | nil=>exact nc mG h (.refl false)
 | cons p r ih=>
  rw[jI]at h
  cases q:x==p.1 with
  | true=>rw[q]at h;(obtain h:=hG h;subst h);erw[beq_iff_eq.mp q];exact i8
  | false=>rw[q]at h;exact i9 _ (ih h)
section
variable{α β:Type}{Z:Prop}
theorem Ag{o:Option α}{f:α->Option β}{b:β}(h:o.bind f=some b)(k:∀ a,o=some a->f a=some b->Z):Z:=let ⟨a,h1,h2⟩:=AA h;k a h1 h2
theorem AY{o:Option α}{f:α->β}{b:β}(h:o.map f=some b)(k:∀ a,o=some a->f a=b->Z):Z:=let ⟨a,h1,h2⟩:=Bq h;k a h1 h2
theorem KW{p:Prop}[Decidable p]{o:Option α}{b:α}(h:(if p then o else none)=some b)(k:p->o=some b->Z):Z:=let ⟨h1,h2⟩:=BT h;k h1 h2
theorem Cb{p:Prop}[Decidable p]{a b:α}(h:(if p then some a else none)=some b)(k:p->a=b->Z):Z:=let ⟨h1,h2⟩:=Bd h;k h1 h2
end
section
variable{α β:Sort _}{Z a b c d e:Prop}
theorem Bv(h:a/\b)(k:a->b->Z):Z:=k h.1 h.2
theorem Nt(h:a/\b/\c)(k:a->b->c->Z):Z:=k h.1 h.2.1 h.2.2
theorem GV(h:a/\b/\c/\d)(k:a->b->c->d->Z):Z:=k h.1 h.2.1 h.2.2.1 h.2.2.2
theorem HX{p:α->Prop}(h:∃ x,p x)(k:∀ x,p x->Z):Z:=let ⟨x,h1⟩:=h;k x h1
theorem exE2{p q:α->Prop}(h:∃ x,p x/\q x)(k:∀ x,p x->q x->Z):Z:=let ⟨x,h1,h2⟩:=h;k x h1 h2
theorem exE3{p q r:α->Prop}(h:∃ x,p x/\q x/\r x)(k:∀ x,p x->q x->r x->Z):Z:=let ⟨x,h1,h2,h3⟩:=h;k x h1 h2 h3
theorem XX{p:α->β->Prop}(h:∃ x y,p x y)(k:∀ x y,p x y->Z):Z:=let ⟨x,y,h1⟩:=h;k x y h1
theorem Ij{p q:α->β->Prop}(h:∃ x y,p x y/\q x y)(k:∀ x y,p x y->q x y->Z):Z:=let ⟨x,y,h1,h2⟩:=h;k x y h1 h2
theorem QW{p q r:α->β->Prop}(h:∃ x y,p x y/\q x y/\r x y)(k:∀ x y,p x y->q x y->r x y->Z):Z:=let ⟨x,y,h1,h2,h3⟩:=h;k x y h1 h2 h3
theorem H0{p q r t:α->β->Prop}(h:∃ x y,p x y/\q x y/\r x y/\t x y)(k:∀ x y,p x y->q x y->r x y->t x y->Z):Z:=let ⟨x,y,h1,h2,h3,h4⟩:=h;k x y h1 h2 h3 h4
end
theorem qA{p1 p2:Prop}{Z:Prop}(h:p1/\p2)(k:p1->p2->Z):Z:=k h.1 h.2
theorem qE{t1:Sort _}{p1:t1->Prop}{Z:Prop}(h:∃ x1,p1 x1)(k:∀ x1,p1 x1->Z):Z:=h.elim λ x1 h1=>k x1 h1
theorem WW{p1 p2 p3:Prop}{Z:Prop}(h:p1/\p2/\p3)(k:p1->p2->p3->Z):Z:=k h.1 h.2.1 h.2.2
theorem XQ{t1:Sort _}{p1:Prop}{p2:t1->Prop}{Z:Prop}(h:p1/\∃ x1,p2 x1)(k:p1->∀ x1,p2 x1->Z):Z:=h.2.elim λ x1 h1=>k h.1 x1 h1
theorem A9{t1:Sort _}{p1 p2:t1->Prop}{Z:Prop}(h:∃ x1,p1 x1/\p2 x1)(k:∀ x1,p1 x1->p2 x1->Z):Z:=h.elim λ x1 h1=>k x1 h1.1 h1.2
theorem Ha{t1 t2:Sort _}{p1:t1->t2->Prop}{Z:Prop}(h:∃ x1 x2,p1 x1 x2)(k:∀ x1 x2,p1 x1 x2->Z):Z:=h.elim λ x1 h1=>h1.elim λ x2 h2=>k x1 x2 h2
theorem VR{p1 p2 p3 p4:Prop}{Z:Prop}(h:p1/\p2/\p3/\p4)(k:p1->p2->p3->p4->Z):Z:=k h.1 h.2.1 h.2.2.1 h.2.2.2
theorem El{t1:Sort _}{p1:Prop}{p2 p3:t1->Prop}{Z:Prop}(h:p1/\∃ x1,p2 x1/\p3 x1)(k:p1->∀ x1,p2 x1->p3 x1->Z):Z:=h.2.elim λ x1 h1=>k h.1 x1 h1.1 h1.2
theorem BG{t1:Sort _}{p1 p2 p3:t1->Prop}{Z:Prop}(h:∃ x1,p1 x1/\p2 x1/\p3 x1)(k:∀ x1,p1 x1->p2 x1->p3 x1->Z):Z:=h.elim λ x1 h1=>k x1 h1.1 h1.2.1 h1.2.2
theorem It{t1 t2:Sort _}{p1 p2:t1->t2->Prop}{Z:Prop}(h:∃ x1 x2,p1 x1 x2/\p2 x1 x2)(k:∀ x1 x2,p1 x1 x2->p2 x1 x2->Z):Z:=h.elim λ x1 h1=>h1.elim λ x2 h2=>k x1 x2 h2.1 h2.2
theorem BA{t1 t2 t3:Sort _}{p1:t1->t2->t3->Prop}{Z:Prop}(h:∃ x1 x2 x3,p1 x1 x2 x3)(k:∀ x1 x2 x3,p1 x1 x2 x3->Z):Z:=h.elim λ x1 h1=>h1.elim λ x2 h2=>h2.elim λ x3 h3=>k x1 x2 x3 h3
theorem Fb{t1:Sort _}{p1 p2 p3:Prop}{p4:t1->Prop}{Z:Prop}(h:p1/\p2/\p3/\∃ x1,p4 x1)(k:p1->p2->p3->∀ x1,p4 x1->Z):Z:=h.2.2.2.elim λ x1 h1=>k h.1 h.2.1 h.2.2.1 x1 h1
theorem Qb{t1:Sort _}{p1 p2 p3 p4:t1->Prop}{Z:Prop}(h:∃ x1,p1 x1/\p2 x1/\p3 x1/\p4 x1)(k:∀ x1,p1 x1->p2 x1->p3 x1->p4 x1->Z):Z:=h.elim λ x1 h1=>k x1 h1.1 h1.2.1 h1.2.2.1 h1.2.2.2
theorem Cp{t1 t2:Sort _}{p1 p2:t1->Prop}{p3:t1->t2->Prop}{Z:Prop}(h:∃ x1,p1 x1/\p2 x1/\∃ x2,p3 x1 x2)(k:∀ x1,p1 x1->p2 x1->∀ x2,p3 x1 x2->Z):Z:=h.elim λ x1 h1=>h1.2.2.elim λ x2 h2=>k x1 h1.1 h1.2.1 x2 h2
theorem Ca{t1 t2:Sort _}{p1 p2 p3:t1->t2->Prop}{Z:Prop}(h:∃ x1 x2,p1 x1 x2/\p2 x1 x2/\p3 x1 x2)(k:∀ x1 x2,p1 x1 x2->p2 x1 x2->p3 x1 x2->Z):Z:=h.elim λ x1 h1=>h1.elim λ x2 h2=>k x1 x2 h2.1 h2.2.1 h2.2.2
theorem HR{t1 t2 t3:Sort _}{p1 p2:t1->t2->t3->Prop}{Z:Prop}(h:∃ x1 x2 x3,p1 x1 x2 x3/\p2 x1 x2 x3)(k:∀ x1 x2 x3,p1 x1 x2 x3->p2 x1 x2 x3->Z):Z:=BA h λ x1 x2 x3 h3=>k x1 x2 x3 h3.1 h3.2
theorem V6{p1 p2 p3 p4 p5 p6:Prop}{Z:Prop}(h:p1/\p2/\p3/\p4/\p5/\p6)(k:p1->p2->p3->p4->p5->p6->Z):Z:=k h.1 h.2.1 h.2.2.1 h.2.2.2.1 h.2.2.2.2.1 h.2.2.2.2.2
theorem QU{t1 t2:Sort _}{p1 p2:Prop}{p3 p4:t1->t2->Prop}{Z:Prop}(h:p1/\p2/\∃ x1 x2,p3 x1 x2/\p4 x1 x2)(k:p1->p2->∀ x1 x2,p3 x1 x2->p4 x1 x2->Z):Z:=h.2.2.elim λ x1 h1=>h1.elim λ x2 h2=>k h.1 h.2.1 x1 x2 h2.1 h2.2
theorem Ry{t1 t2 t3:Sort _}{p1:Prop}{p2 p3:t1->t2->t3->Prop}{Z:Prop}(h:p1/\∃ x1 x2 x3,p2 x1 x2 x3/\p3 x1 x2 x3)(k:p1->∀ x1 x2 x3,p2 x1 x2 x3->p3 x1 x2 x3->Z):Z:=BA h.2 λ x1 x2 x3 h3=>k h.1 x1 x2 x3 h3.1 h3.2
theorem PP{t1:Sort _}{p1 p2 p3 p4 p5:t1->Prop}{Z:Prop}(h:∃ x1,p1 x1/\p2 x1/\p3 x1/\p4 x1/\p5 x1)(k:∀ x1,p1 x1->p2 x1->p3 x1->p4 x1->p5 x1->Z):Z:=h.elim λ x1 h1=>k x1 h1.1 h1.2.1 h1.2.2.1 h1.2.2.2.1 h1.2.2.2.2
theorem A7{t1 t2:Sort _}{p1 p2 p3 p4:t1->t2->Prop}{Z:Prop}(h:∃ x1 x2,p1 x1 x2/\p2 x1 x2/\p3 x1 x2/\p4 x1 x2)(k:∀ x1 x2,p1 x1 x2->p2 x1 x2->p3 x1 x2->p4 x1 x2->Z):Z:=h.elim λ x1 h1=>h1.elim λ x2 h2=>k x1 x2 h2.1 h2.2.1 h2.2.2.1 h2.2.2.2
theorem BJ{t1 t2 t3:Sort _}{p1 p2 p3:t1->t2->t3->Prop}{Z:Prop}(h:∃ x1 x2 x3,p1 x1 x2 x3/\p2 x1 x2 x3/\p3 x1 x2 x3)(k:∀ x1 x2 x3,p1 x1 x2 x3->p2 x1 x2 x3->p3 x1 x2 x3->Z):Z:=BA h λ x1 x2 x3 h3=>k x1 x2 x3 h3.1 h3.2.1 h3.2.2
theorem Vd{t1 t2 t3 t4:Sort _}{p1 p2:t1->t2->t3->t4->Prop}{Z:Prop}(h:∃ x1 x2 x3 x4,p1 x1 x2 x3 x4/\p2 x1 x2 x3 x4)(k:∀ x1 x2 x3 x4,p1 x1 x2 x3 x4->p2 x1 x2 x3 x4->Z):Z:=BA h λ x1 x2 x3 h3=>h3.elim λ x4 h4=>k x1 x2 x3 x4 h4.1 h4.2
theorem VE{t1 t2 t3 t4 t5:Sort _}{p1:t1->t2->t3->t4->t5->Prop}{Z:Prop}(h:∃ x1 x2 x3 x4 x5,p1 x1 x2 x3 x4 x5)(k:∀ x1 x2 x3 x4 x5,p1 x1 x2 x3 x4 x5->Z):Z:=BA h λ x1 x2 x3 h3=>h3.elim λ x4 h4=>h4.elim λ x5 h5=>k x1 x2 x3 x4 x5 h5
theorem Dk{t1 t2 t3:Sort _}{p1 p2:Prop}{p3 p4:t1->t2->t3->Prop}{Z:Prop}(h:p1/\p2/\∃ x1 x2 x3,p3 x1 x2 x3/\p4 x1 x2 x3)(k:p1->p2->∀ x1 x2 x3,p3 x1 x2 x3->p4 x1 x2 x3->Z):Z:=BA h.2.2 λ x1 x2 x3 h3=>k h.1 h.2.1 x1 x2 x3 h3.1 h3.2
theorem Cg{t1 t2:Sort _}{p1 p2 p3 p4:t1->Prop}{p5:t1->t2->Prop}{Z:Prop}(h:∃ x1,p1 x1/\p2 x1/\p3 x1/\p4 x1/\∃ x2,p5 x1 x2)(k:∀ x1,p1 x1->p2 x1->p3 x1->p4 x1->∀ x2,p5 x1 x2->Z):Z:=h.elim λ x1 h1=>h1.2.2.2.2.elim λ x2 h2=>k x1 h1.1 h1.2.1 h1.2.2.1 h1.2.2.2.1 x2 h2
theorem Mu{t1 t2 t3:Sort _}{p1:t1->Prop}{p2 p3 p4:t1->t2->t3->Prop}{Z:Prop}(h:∃ x1,p1 x1/\∃ x2 x3,p2 x1 x2 x3/\p3 x1 x2 x3/\p4 x1 x2 x3)(k:∀ x1,p1 x1->∀ x2 x3,p2 x1 x2 x3->p3 x1 x2 x3->p4 x1 x2 x3->Z):Z:=h.elim λ x1 h1=>h1.2.elim λ x2 h2=>h2.elim λ x3 h3=>k x1 h1.1 x2 x3 h3.1 h3.2.1 h3.2.2
theorem DV{t1 t2:Sort _}{p1 p2 p3 p4 p5:t1->t2->Prop}{Z:Prop}(h:∃ x1 x2,p1 x1 x2/\p2 x1 x2/\p3 x1 x2/\p4 x1 x2/\p5 x1 x2)(k:∀ x1 x2,p1 x1 x2->p2 x1 x2->p3 x1 x2->p4 x1 x2->p5 x1 x2->Z):Z:=h.elim λ x1 h1=>h1.elim λ x2 h2=>k x1 x2 h2.1 h2.2.1 h2.2.2.1 h2.2.2.2.1 h2.2.2.2.2
theorem Bj{t1 t2 t3:Sort _}{p1 p2 p3 p4:t1->t2->t3->Prop}{Z:Prop}(h:∃ x1 x2 x3,p1 x1 x2 x3/\p2 x1 x2 x3/\p3 x1 x2 x3/\p4 x1 x2 x3)(k:∀ x1 x2 x3,p1 x1 x2 x3->p2 x1 x2 x3->p3 x1 x2 x3->p4 x1 x2 x3->Z):Z:=BA h λ x1 x2 x3 h3=>k x1 x2 x3 h3.1 h3.2.1 h3.2.2.1 h3.2.2.2
theorem RV{t1 t2 t3 t4:Sort _}{p1:t1->t2->t3->Prop}{p2 p3:t1->t2->t3->t4->Prop}{Z:Prop}(h:∃ x1 x2 x3,p1 x1 x2 x3/\∃ x4,p2 x1 x2 x3 x4/\p3 x1 x2 x3 x4)(k:∀ x1 x2 x3,p1 x1 x2 x3->∀ x4,p2 x1 x2 x3 x4->p3 x1 x2 x3 x4->Z):Z:=BA h λ x1 x2 x3 h3=>h3.2.elim λ x4 h4=>k x1 x2 x3 h3.1 x4 h4.1 h4.2
theorem Hj{t1 t2 t3 t4:Sort _}{p1 p2 p3:t1->t2->t3->t4->Prop}{Z:Prop}(h:∃ x1 x2 x3 x4,p1 x1 x2 x3 x4/\p2 x1 x2 x3 x4/\p3 x1 x2 x3 x4)(k:∀ x1 x2 x3 x4,p1 x1 x2 x3 x4->p2 x1 x2 x3 x4->p3 x1 x2 x3 x4->Z):Z:=BA h λ x1 x2 x3 h3=>h3.elim λ x4 h4=>k x1 x2 x3 x4 h4.1 h4.2.1 h4.2.2
theorem F0{t1 t2:Sort _}{p1 p2 p3 p4 p5 p6:t1->t2->Prop}{Z:Prop}(h:∃ x1 x2,p1 x1 x2/\p2 x1 x2/\p3 x1 x2/\p4 x1 x2/\p5 x1 x2/\p6 x1 x2)(k:∀ x1 x2,p1 x1 x2->p2 x1 x2->p3 x1 x2->p4 x1 x2->p5 x1 x2->p6 x1 x2->Z):Z:=h.elim λ x1 h1=>h1.elim λ x2 h2=>k x1 x2 h2.1 h2.2.1 h2.2.2.1 h2.2.2.2.1 h2.2.2.2.2.1 h2.2.2.2.2.2
theorem QH{t1 t2 t3:Sort _}{p1 p2 p3 p4 p5:t1->t2->t3->Prop}{Z:Prop}(h:∃ x1 x2 x3,p1 x1 x2 x3/\p2 x1 x2 x3/\p3 x1 x2 x3/\p4 x1 x2 x3/\p5 x1 x2 x3)(k:∀ x1 x2 x3,p1 x1 x2 x3->p2 x1 x2 x3->p3 x1 x2 x3->p4 x1 x2 x3->p5 x1 x2 x3->Z):Z:=BA h λ x1 x2 x3 h3=>k x1 x2 x3 h3.1 h3.2.1 h3.2.2.1 h3.2.2.2.1 h3.2.2.2.2
theorem FL{t1 t2 t3 t4:Sort _}{p1 p2 p3 p4:t1->t2->t3->t4->Prop}{Z:Prop}(h:∃ x1 x2 x3 x4,p1 x1 x2 x3 x4/\p2 x1 x2 x3 x4/\p3 x1 x2 x3 x4/\p4 x1 x2 x3 x4)(k:∀ x1 x2 x3 x4,p1 x1 x2 x3 x4->p2 x1 x2 x3 x4->p3 x1 x2 x3 x4->p4 x1 x2 x3 x4->Z):Z:=BA h λ x1 x2 x3 h3=>h3.elim λ x4 h4=>k x1 x2 x3 x4 h4.1 h4.2.1 h4.2.2.1 h4.2.2.2
theorem O8{t1 t2 t3 t4 t5:Sort _}{p1 p2 p3:t1->t2->t3->t4->t5->Prop}{Z:Prop}(h:∃ x1 x2 x3 x4 x5,p1 x1 x2 x3 x4 x5/\p2 x1 x2 x3 x4 x5/\p3 x1 x2 x3 x4 x5)(k:∀ x1 x2 x3 x4 x5,p1 x1 x2 x3 x4 x5->p2 x1 x2 x3 x4 x5->p3 x1 x2 x3 x4 x5->Z):Z:=BA h λ x1 x2 x3 h3=>h3.elim λ x4 h4=>h4.elim λ x5 h5=>k x1 x2 x3 x4 x5 h5.1 h5.2.1 h5.2.2
theorem IZ{t1 t2 t3 t4:Sort _}{p1 p2 p3:Prop}{p4 p5:t1->t2->t3->t4->Prop}{Z:Prop}(h:p1/\p2/\p3/\∃ x1 x2 x3 x4,p4 x1 x2 x3 x4/\p5 x1 x2 x3 x4)(k:p1->p2->p3->∀ x1 x2 x3 x4,p4 x1 x2 x3 x4->p5 x1 x2 x3 x4->Z):Z:=BA h.2.2.2 λ x1 x2 x3 h3=>h3.elim λ x4 h4=>k h.1 h.2.1 h.2.2.1 x1 x2 x3 x4 h4.1 h4.2
theorem IV{t1 t2 t3:Sort _}{p1 p2 p3 p4:t1->Prop}{p5 p6:t1->t2->t3->Prop}{Z:Prop}(h:∃ x1,p1 x1/\p2 x1/\p3 x1/\p4 x1/\∃ x2 x3,p5 x1 x2 x3/\p6 x1 x2 x3)(k:∀ x1,p1 x1->p2 x1->p3 x1->p4 x1->∀ x2 x3,p5 x1 x2 x3->p6 x1 x2 x3->Z):Z:=h.elim λ x1 h1=>h1.2.2.2.2.elim λ x2 h2=>h2.elim λ x3 h3=>k x1 h1.1 h1.2.1 h1.2.2.1 h1.2.2.2.1 x2 x3 h3.1 h3.2
theorem Gw{t1 t2 t3:Sort _}{p1:t1->Prop}{p2 p3 p4 p5 p6:t1->t2->t3->Prop}{Z:Prop}(h:∃ x1,p1 x1/\∃ x2 x3,p2 x1 x2 x3/\p3 x1 x2 x3/\p4 x1 x2 x3/\p5 x1 x2 x3/\p6 x1 x2 x3)(k:∀ x1,p1 x1->∀ x2 x3,p2 x1 x2 x3->p3 x1 x2 x3->p4 x1 x2 x3->p5 x1 x2 x3->p6 x1 x2 x3->Z):Z:=h.elim λ x1 h1=>h1.2.elim λ x2 h2=>h2.elim λ x3 h3=>k x1 h1.1 x2 x3 h3.1 h3.2.1 h3.2.2.1 h3.2.2.2.1 h3.2.2.2.2
theorem EX{t1 t2 t3:Sort _}{p1 p2 p3 p4 p5 p6:t1->t2->t3->Prop}{Z:Prop}(h:∃ x1 x2 x3,p1 x1 x2 x3/\p2 x1 x2 x3/\p3 x1 x2 x3/\p4 x1 x2 x3/\p5 x1 x2 x3/\p6 x1 x2 x3)(k:∀ x1 x2 x3,p1 x1 x2 x3->p2 x1 x2 x3->p3 x1 x2 x3->p4 x1 x2 x3->p5 x1 x2 x3->p6 x1 x2 x3->Z):Z:=BA h λ x1 x2 x3 h3=>k x1 x2 x3 h3.1 h3.2.1 h3.2.2.1 h3.2.2.2.1 h3.2.2.2.2.1 h3.2.2.2.2.2
theorem E1{t1 t2 t3 t4:Sort _}{p1 p2 p3 p4 p5:t1->t2->t3->t4->Prop}{Z:Prop}(h:∃ x1 x2 x3 x4,p1 x1 x2 x3 x4/\p2 x1 x2 x3 x4/\p3 x1 x2 x3 x4/\p4 x1 x2 x3 x4/\p5 x1 x2 x3 x4)(k:∀ x1 x2 x3 x4,p1 x1 x2 x3 x4->p2 x1 x2 x3 x4->p3 x1 x2 x3 x4->p4 x1 x2 x3 x4->p5 x1 x2 x3 x4->Z):Z:=BA h λ x1 x2 x3 h3=>h3.elim λ x4 h4=>k x1 x2 x3 x4 h4.1 h4.2.1 h4.2.2.1 h4.2.2.2.1 h4.2.2.2.2
theorem ND{t1 t2 t3 t4 t5:Sort _}{p1 p2 p3 p4:t1->t2->t3->t4->t5->Prop}{Z:Prop}(h:∃ x1 x2 x3 x4 x5,p1 x1 x2 x3 x4 x5/\p2 x1 x2 x3 x4 x5/\p3 x1 x2 x3 x4 x5/\p4 x1 x2 x3 x4 x5)(k:∀ x1 x2 x3 x4 x5,p1 x1 x2 x3 x4 x5->p2 x1 x2 x3 x4 x5->p3 x1 x2 x3 x4 x5->p4 x1 x2 x3 x4 x5->Z):Z:=BA h λ x1 x2 x3 h3=>h3.elim λ x4 h4=>h4.elim λ x5 h5=>k x1 x2 x3 x4 x5 h5.1 h5.2.1 h5.2.2.1 h5.2.2.2
theorem Ka{t1 t2 t3 t4 t5 t6 t7:Sort _}{p1 p2 p3 p4:t1->t2->t3->t4->t5->t6->t7->Prop}{Z:Prop}(h:∃ x1 x2 x3 x4 x5 x6 x7,p1 x1 x2 x3 x4 x5 x6 x7/\p2 x1 x2 x3 x4 x5 x6 x7/\p3 x1 x2 x3 x4 x5 x6 x7/\p4 x1 x2 x3 x4 x5 x6 x7)(k:∀ x1 x2 x3 x4 x5 x6 x7,p1 x1 x2 x3 x4 x5 x6 x7->p2 x1 x2 x3 x4 x5 x6 x7->p3 x1 x2 x3 x4 x5 x6 x7->p4 x1 x2 x3 x4 x5 x6 x7->Z):Z:=BA h λ x1 x2 x3 h3=>BA h3 λ x4 x5 x6 h6=>h6.elim λ x7 h7=>k x1 x2 x3 x4 x5 x6 x7 h7.1 h7.2.1 h7.2.2.1 h7.2.2.2
theorem I7{t1 t2 t3 t4 t5:Sort _}{p1 p2 p3 p4 p5 p6 p7:t1->t2->t3->t4->t5->Prop}{Z:Prop}(h:∃ x1 x2 x3 x4 x5,p1 x1 x2 x3 x4 x5/\p2 x1 x2 x3 x4 x5/\p3 x1 x2 x3 x4 x5/\p4 x1 x2 x3 x4 x5/\p5 x1 x2 x3 x4 x5/\p6 x1 x2 x3 x4 x5/\p7 x1 x2 x3 x4 x5)(k:∀ x1 x2 x3 x4 x5,p1 x1 x2 x3 x4 x5->p2 x1 x2 x3 x4 x5->p3 x1 x2 x3 x4 x5->p4 x1 x2 x3 x4 x5->p5 x1 x2 x3 x4 x5->p6 x1 x2 x3 x4 x5->p7 x1 x2 x3 x4 x5->Z):Z:=BA h λ x1 x2 x3 h3=>h3.elim λ x4 h4=>h4.elim λ x5 h5=>k x1 x2 x3 x4 x5 h5.1 h5.2.1 h5.2.2.1 h5.2.2.2.1 h5.2.2.2.2.1 h5.2.2.2.2.2.1 h5.2.2.2.2.2.2
theorem Jc{t1 t2 t3 t4 t5 t6:Sort _}{p1 p2 p3 p4 p5 p6:t1->t2->t3->t4->t5->t6->Prop}{Z:Prop}(h:∃ x1 x2 x3 x4 x5 x6,p1 x1 x2 x3 x4 x5 x6/\p2 x1 x2 x3 x4 x5 x6/\p3 x1 x2 x3 x4 x5 x6/\p4 x1 x2 x3 x4 x5 x6/\p5 x1 x2 x3 x4 x5 x6/\p6 x1 x2 x3 x4 x5 x6)(k:∀ x1 x2 x3 x4 x5 x6,p1 x1 x2 x3 x4 x5 x6->p2 x1 x2 x3 x4 x5 x6->p3 x1 x2 x3 x4 x5 x6->p4 x1 x2 x3 x4 x5 x6->p5 x1 x2 x3 x4 x5 x6->p6 x1 x2 x3 x4 x5 x6->Z):Z:=BA h λ x1 x2 x3 h3=>BA h3 λ x4 x5 x6 h6=>k x1 x2 x3 x4 x5 x6 h6.1 h6.2.1 h6.2.2.1 h6.2.2.2.1 h6.2.2.2.2.1 h6.2.2.2.2.2
theorem Iy{t1 t2 t3 t4 t5 t6:Sort _}{p1 p2 p3 p4 p5 p6 p7:t1->t2->t3->t4->t5->t6->Prop}{Z:Prop}(h:∃ x1 x2 x3 x4 x5 x6,p1 x1 x2 x3 x4 x5 x6/\p2 x1 x2 x3 x4 x5 x6/\p3 x1 x2 x3 x4 x5 x6/\p4 x1 x2 x3 x4 x5 x6/\p5 x1 x2 x3 x4 x5 x6/\p6 x1 x2 x3 x4 x5 x6/\p7 x1 x2 x3 x4 x5 x6)(k:∀ x1 x2 x3 x4 x5 x6,p1 x1 x2 x3 x4 x5 x6->p2 x1 x2 x3 x4 x5 x6->p3 x1 x2 x3 x4 x5 x6->p4 x1 x2 x3 x4 x5 x6->p5 x1 x2 x3 x4 x5 x6->p6 x1 x2 x3 x4 x5 x6->p7 x1 x2 x3 x4 x5 x6->Z):Z:=BA h λ x1 x2 x3 h3=>BA h3 λ x4 x5 x6 h6=>k x1 x2 x3 x4 x5 x6 h6.1 h6.2.1 h6.2.2.1 h6.2.2.2.1 h6.2.2.2.2.1 h6.2.2.2.2.2.1 h6.2.2.2.2.2.2
theorem CQ{t1 t2 t3:Sort _}{p1 p2:t1->Prop}{p3 p4 p5 p6 p7 p8 p9 el ec p12:t1->t2->t3->Prop}{Z:Prop}(h:∃ x1,p1 x1/\p2 x1/\∃ x2 x3,p3 x1 x2 x3/\p4 x1 x2 x3/\p5 x1 x2 x3/\p6 x1 x2 x3/\p7 x1 x2 x3/\p8 x1 x2 x3/\p9 x1 x2 x3/\el x1 x2 x3/\ec x1 x2 x3/\p12 x1 x2 x3)(k:∀ x1,p1 x1->p2 x1->∀ x2 x3,p3 x1 x2 x3->p4 x1 x2 x3->p5 x1 x2 x3->p6 x1 x2 x3->p7 x1 x2 x3->p8 x1 x2 x3->p9 x1 x2 x3->el x1 x2 x3->ec x1 x2 x3->p12 x1 x2 x3->Z):Z:=h.elim λ x1 h1=>h1.2.2.elim λ x2 h2=>h2.elim λ x3 h3=>k x1 h1.1 h1.2.1 x2 x3 h3.1 h3.2.1 h3.2.2.1 h3.2.2.2.1 h3.2.2.2.2.1 h3.2.2.2.2.2.1 h3.2.2.2.2.2.2.1 h3.2.2.2.2.2.2.2.1 h3.2.2.2.2.2.2.2.2.1 h3.2.2.2.2.2.2.2.2.2
theorem DA{t1 t2 t3 t4 t5 t6 t7 t8 t9 gj gz gH fK fR:Sort _}{p1 p2:t1->t2->t3->t4->t5->t6->t7->t8->t9->gj->gz->gH->fK->fR->Prop}{Z:Prop}(h:∃ x1 x2 x3 x4 x5 x6 x7 x8 x9 bR bQ bT bS bK,p1 x1 x2 x3 x4 x5 x6 x7 x8 x9 bR bQ bT bS bK/\p2 x1 x2 x3 x4 x5 x6 x7 x8 x9 bR bQ bT bS bK)(k:∀ x1 x2 x3 x4 x5 x6 x7 x8 x9 bR bQ bT bS bK,p1 x1 x2 x3 x4 x5 x6 x7 x8 x9 bR bQ bT bS bK->p2 x1 x2 x3 x4 x5 x6 x7 x8 x9 bR bQ bT bS bK->Z):Z:=BA h λ x1 x2 x3 h3=>BA h3 λ x4 x5 x6 h6=>BA h6 λ x7 x8 x9 h9=>BA h9 λ bR bQ bT gF=>gF.elim λ bS h13=>h13.elim λ bK fh=>k x1 x2 x3 x4 x5 x6 x7 x8 x9 bR bQ bT bS bK fh.1 fh.2
theorem Cj{t1 t2 t3 t4 t5 t6:Sort _}{p1 p2 p3 p4 p5 p6 p7 p8 p9 el ec:t1->t2->t3->t4->t5->t6->Prop}{Z:Prop}(h:∃ x1 x2 x3 x4 x5 x6,p1 x1 x2 x3 x4 x5 x6/\p2 x1 x2 x3 x4 x5 x6/\p3 x1 x2 x3 x4 x5 x6/\p4 x1 x2 x3 x4 x5 x6/\p5 x1 x2 x3 x4 x5 x6/\p6 x1 x2 x3 x4 x5 x6/\p7 x1 x2 x3 x4 x5 x6/\p8 x1 x2 x3 x4 x5 x6/\p9 x1 x2 x3 x4 x5 x6/\el x1 x2 x3 x4 x5 x6/\ec x1 x2 x3 x4 x5 x6)(k:∀ x1 x2 x3 x4 x5 x6,p1 x1 x2 x3 x4 x5 x6->p2 x1 x2 x3 x4 x5 x6->p3 x1 x2 x3 x4 x5 x6->p4 x1 x2 x3 x4 x5 x6->p5 x1 x2 x3 x4 x5 x6->p6 x1 x2 x3 x4 x5 x6->p7 x1 x2 x3 x4 x5 x6->p8 x1 x2 x3 x4 x5 x6->p9 x1 x2 x3 x4 x5 x6->el x1 x2 x3 x4 x5 x6->ec x1 x2 x3 x4 x5 x6->Z):Z:=BA h λ x1 x2 x3 h3=>BA h3 λ x4 x5 x6 h6=>k x1 x2 x3 x4 x5 x6 h6.1 h6.2.1 h6.2.2.1 h6.2.2.2.1 h6.2.2.2.2.1 h6.2.2.2.2.2.1 h6.2.2.2.2.2.2.1 h6.2.2.2.2.2.2.2.1 h6.2.2.2.2.2.2.2.2.1 h6.2.2.2.2.2.2.2.2.2.1 h6.2.2.2.2.2.2.2.2.2.2
theorem BU{t1 t2 t3 t4 t5 t6 t7 t8 t9 gj gz gH fK fR t15 t16 t17:Sort _}{p1 p2:t1->t2->t3->t4->t5->t6->t7->t8->t9->gj->gz->gH->fK->fR->t15->t16->t17->Prop}{Z:Prop}(h:∃ x1 x2 x3 x4 x5 x6 x7 x8 x9 bR bQ bT bS bK d6 dJ du,p1 x1 x2 x3 x4 x5 x6 x7 x8 x9 bR bQ bT bS bK d6 dJ du/\p2 x1 x2 x3 x4 x5 x6 x7 x8 x9 bR bQ bT bS bK d6 dJ du)(k:∀ x1 x2 x3 x4 x5 x6 x7 x8 x9 bR bQ bT bS bK d6 dJ du,p1 x1 x2 x3 x4 x5 x6 x7 x8 x9 bR bQ bT bS bK d6 dJ du->p2 x1 x2 x3 x4 x5 x6 x7 x8 x9 bR bQ bT bS bK d6 dJ du->Z):Z:=BA h λ x1 x2 x3 h3=>BA h3 λ x4 x5 x6 h6=>BA h6 λ x7 x8 x9 h9=>BA h9 λ bR bQ bT gF=>BA gF λ bS bK d6 h15=>h15.elim λ dJ h16=>h16.elim λ du h17=>k x1 x2 x3 x4 x5 x6 x7 x8 x9 bR bQ bT bS bK d6 dJ du h17.1 h17.2
theorem iA{p1 p2:Prop}(h1:p1)(h2:p2):p1/\p2:=⟨h1,h2⟩
theorem iE{t1:Sort _}{p1:t1->Prop}(x1:t1)(h1:p1 x1):∃ x1,p1 x1:=⟨x1,h1⟩
@[elab_as_elim] theorem rA{α:Sort _}{x:α} {p1:Prop} {f:α}{motive:α->Prop} (h:x=f/\p1) (k:p1->motive f):motive x:=by obtain⟨rfl,h1⟩:=h;exact k h1
@[elab_as_elim] theorem sA{α:Sort _}{x:α} {p1:Prop} {f:α}{motive:α->Prop} (h:f=x/\p1) (k:p1->motive f):motive x:=by obtain⟨rfl,h1⟩:=h;exact k h1
theorem iAA{p1 p2 p3:Prop}(h1:p1)(h2:p2)(h3:p3):p1/\p2/\p3:=⟨h1,h2,h3⟩
theorem iAE{t1:Sort _}{p1:Prop}{p2:t1->Prop}(h1:p1)(x1:t1)(h2:p2 x1):p1/\∃ x1,p2 x1:=⟨h1,x1,h2⟩
theorem iEA{t1:Sort _}{p1 p2:t1->Prop}(x1:t1)(h1:p1 x1)(h2:p2 x1):∃ x1,p1 x1/\p2 x1:=⟨x1,h1,h2⟩
theorem RF{t1 t2:Sort _}{p1:t1->t2->Prop}(x1:t1)(x2:t2)(h1:p1 x1 x2):∃ x1 x2,p1 x1 x2:=⟨x1,x2,h1⟩
theorem GL{p1 p2 p3 p4:Prop}(h1:p1)(h2:p2)(h3:p3)(h4:p4):p1/\p2/\p3/\p4:=⟨h1,h2,h3,h4⟩
theorem A8{t1:Sort _}{p1:Prop}{p2 p3:t1->Prop}(h1:p1)(x1:t1)(h2:p2 x1)(h3:p3 x1):p1/\∃ x1,p2 x1/\p3 x1:=⟨h1,x1,h2,h3⟩
theorem iEAA{t1:Sort _}{p1 p2 p3:t1->Prop}(x1:t1)(h1:p1 x1)(h2:p2 x1)(h3:p3 x1):∃ x1,p1 x1/\p2 x1/\p3 x1:=⟨x1,h1,h2,h3⟩
theorem iEEA{t1 t2:Sort _}{p1 p2:t1->t2->Prop}(x1:t1)(x2:t2)(h1:p1 x1 x2)(h2:p2 x1 x2):∃ x1 x2,p1 x1 x2/\p2 x1 x2:=⟨x1,x2,h1,h2⟩
theorem SD{t1 t2 t3:Sort _}{p1:t1->t2->t3->Prop}(x1:t1)(x2:t2)(x3:t3)(h1:p1 x1 x2 x3):∃ x1 x2 x3,p1 x1 x2 x3:=⟨x1,x2,x3,h1⟩
theorem Kl{t1:Sort _}{p1 p2 p3:Prop}{p4:t1->Prop}(h1:p1)(h2:p2)(h3:p3)(x1:t1)(h4:p4 x1):p1/\p2/\p3/\∃ x1,p4 x1:=⟨h1,h2,h3,x1,h4⟩
theorem FS{t1:Sort _}{p1 p2 p3 p4:t1->Prop}(x1:t1)(h1:p1 x1)(h2:p2 x1)(h3:p3 x1)(h4:p4 x1):∃ x1,p1 x1/\p2 x1/\p3 x1/\p4 x1:=⟨x1,h1,h2,h3,h4⟩
theorem EF{t1 t2:Sort _}{p1 p2:t1->Prop}{p3:t1->t2->Prop}(x1:t1)(h1:p1 x1)(h2:p2 x1)(x2:t2)(h3:p3 x1 x2):∃ x1,p1 x1/\p2 x1/\∃ x2,p3 x1 x2:=⟨x1,h1,h2,x2,h3⟩
theorem CL{t1 t2:Sort _}{p1 p2 p3:t1->t2->Prop}(x1:t1)(x2:t2)(h1:p1 x1 x2)(h2:p2 x1 x2)(h3:p3 x1 x2):∃ x1 x2,p1 x1 x2/\p2 x1 x2/\p3 x1 x2:=⟨x1,x2,h1,h2,h3⟩
theorem Kp{t1 t2 t3:Sort _}{p1 p2:t1->t2->t3->Prop}(x1:t1)(x2:t2)(x3:t3)(h1:p1 x1 x2 x3)(h2:p2 x1 x2 x3):∃ x1 x2 x3,p1 x1 x2 x3/\p2 x1 x2 x3:=⟨x1,x2,x3,h1,h2⟩
theorem Yv{t1 t2 t3 t4:Sort _}{p1:t1->t2->t3->t4->Prop}(x1:t1)(x2:t2)(x3:t3)(x4:t4)(h1:p1 x1 x2 x3 x4):∃ x1 x2 x3 x4,p1 x1 x2 x3 x4:=⟨x1,x2,x3,x4,h1⟩
theorem WE{p1 p2 p3 p4 p5 p6:Prop}(h1:p1)(h2:p2)(h3:p3)(h4:p4)(h5:p5)(h6:p6):p1/\p2/\p3/\p4/\p5/\p6:=⟨h1,h2,h3,h4,h5,h6⟩
theorem JG{t1 t2:Sort _}{p1 p2:Prop}{p3 p4:t1->t2->Prop}(h1:p1)(h2:p2)(x1:t1)(x2:t2)(h3:p3 x1 x2)(h4:p4 x1 x2):p1/\p2/\∃ x1 x2,p3 x1 x2/\p4 x1 x2:=⟨h1,h2,x1,x2,h3,h4⟩
theorem QL{t1:Sort _}{p1:Prop}{p2 p3 p4 p5:t1->Prop}(h1:p1)(x1:t1)(h2:p2 x1)(h3:p3 x1)(h4:p4 x1)(h5:p5 x1):p1/\∃ x1,p2 x1/\p3 x1/\p4 x1/\p5 x1:=⟨h1,x1,h2,h3,h4,h5⟩
theorem Qz{t1 t2 t3:Sort _}{p1:Prop}{p2 p3:t1->t2->t3->Prop}(h1:p1)(x1:t1)(x2:t2)(x3:t3)(h2:p2 x1 x2 x3)(h3:p3 x1 x2 x3):p1/\∃ x1 x2 x3,p2 x1 x2 x3/\p3 x1 x2 x3:=⟨h1,x1,x2,x3,h2,h3⟩
theorem Eh{t1:Sort _}{p1 p2 p3 p4 p5:t1->Prop}(x1:t1)(h1:p1 x1)(h2:p2 x1)(h3:p3 x1)(h4:p4 x1)(h5:p5 x1):∃ x1,p1 x1/\p2 x1/\p3 x1/\p4 x1/\p5 x1:=⟨x1,h1,h2,h3,h4,h5⟩
theorem iEEAAA{t1 t2:Sort _}{p1 p2 p3 p4:t1->t2->Prop}(x1:t1)(x2:t2)(h1:p1 x1 x2)(h2:p2 x1 x2)(h3:p3 x1 x2)(h4:p4 x1 x2):∃ x1 x2,p1 x1 x2/\p2 x1 x2/\p3 x1 x2/\p4 x1 x2:=⟨x1,x2,h1,h2,h3,h4⟩
theorem GE{t1 t2 t3:Sort _}{p1 p2 p3:t1->t2->t3->Prop}(x1:t1)(x2:t2)(x3:t3)(h1:p1 x1 x2 x3)(h2:p2 x1 x2 x3)(h3:p3 x1 x2 x3):∃ x1 x2 x3,p1 x1 x2 x3/\p2 x1 x2 x3/\p3 x1 x2 x3:=⟨x1,x2,x3,h1,h2,h3⟩
theorem Qa{t1 t2 t3 t4:Sort _}{p1 p2:t1->t2->t3->t4->Prop}(x1:t1)(x2:t2)(x3:t3)(x4:t4)(h1:p1 x1 x2 x3 x4)(h2:p2 x1 x2 x3 x4):∃ x1 x2 x3 x4,p1 x1 x2 x3 x4/\p2 x1 x2 x3 x4:=⟨x1,x2,x3,x4,h1,h2⟩
theorem VM{t1 t2 t3 t4 t5:Sort _}{p1:t1->t2->t3->t4->t5->Prop}(x1:t1)(x2:t2)(x3:t3)(x4:t4)(x5:t5)(h1:p1 x1 x2 x3 x4 x5):∃ x1 x2 x3 x4 x5,p1 x1 x2 x3 x4 x5:=⟨x1,x2,x3,x4,x5,h1⟩
theorem EY{t1 t2 t3:Sort _}{p1 p2:Prop}{p3 p4:t1->t2->t3->Prop}(h1:p1)(h2:p2)(x1:t1)(x2:t2)(x3:t3)(h3:p3 x1 x2 x3)(h4:p4 x1 x2 x3):p1/\p2/\∃ x1 x2 x3,p3 x1 x2 x3/\p4 x1 x2 x3:=⟨h1,h2,x1,x2,x3,h3,h4⟩
theorem Dn{t1 t2:Sort _}{p1 p2 p3 p4:t1->Prop}{p5:t1->t2->Prop}(x1:t1)(h1:p1 x1)(h2:p2 x1)(h3:p3 x1)(h4:p4 x1)(x2:t2)(h5:p5 x1 x2):∃ x1,p1 x1/\p2 x1/\p3 x1/\p4 x1/\∃ x2,p5 x1 x2:=⟨x1,h1,h2,h3,h4,x2,h5⟩
theorem Nq{t1 t2 t3:Sort _}{p1:t1->Prop}{p2 p3 p4:t1->t2->t3->Prop}(x1:t1)(h1:p1 x1)(x2:t2)(x3:t3)(h2:p2 x1 x2 x3)(h3:p3 x1 x2 x3)(h4:p4 x1 x2 x3):∃ x1,p1 x1/\∃ x2 x3,p2 x1 x2 x3/\p3 x1 x2 x3/\p4 x1 x2 x3:=⟨x1,h1,x2,x3,h2,h3,h4⟩
theorem Gd{t1 t2:Sort _}{p1 p2 p3 p4 p5:t1->t2->Prop}(x1:t1)(x2:t2)(h1:p1 x1 x2)(h2:p2 x1 x2)(h3:p3 x1 x2)(h4:p4 x1 x2)(h5:p5 x1 x2):∃ x1 x2,p1 x1 x2/\p2 x1 x2/\p3 x1 x2/\p4 x1 x2/\p5 x1 x2:=⟨x1,x2,h1,h2,h3,h4,h5⟩
theorem CH{t1 t2 t3:Sort _}{p1 p2 p3 p4:t1->t2->t3->Prop}(x1:t1)(x2:t2)(x3:t3)(h1:p1 x1 x2 x3)(h2:p2 x1 x2 x3)(h3:p3 x1 x2 x3)(h4:p4 x1 x2 x3):∃ x1 x2 x3,p1 x1 x2 x3/\p2 x1 x2 x3/\p3 x1 x2 x3/\p4 x1 x2 x3:=⟨x1,x2,x3,h1,h2,h3,h4⟩
theorem RP{t1 t2 t3 t4:Sort _}{p1:t1->t2->t3->Prop}{p2 p3:t1->t2->t3->t4->Prop}(x1:t1)(x2:t2)(x3:t3)(h1:p1 x1 x2 x3)(x4:t4)(h2:p2 x1 x2 x3 x4)(h3:p3 x1 x2 x3 x4):∃ x1 x2 x3,p1 x1 x2 x3/\∃ x4,p2 x1 x2 x3 x4/\p3 x1 x2 x3 x4:=⟨x1,x2,x3,h1,x4,h2,h3⟩
theorem Ny{t1 t2 t3 t4:Sort _}{p1 p2 p3:t1->t2->t3->t4->Prop}(x1:t1)(x2:t2)(x3:t3)(x4:t4)(h1:p1 x1 x2 x3 x4)(h2:p2 x1 x2 x3 x4)(h3:p3 x1 x2 x3 x4):∃ x1 x2 x3 x4,p1 x1 x2 x3 x4/\p2 x1 x2 x3 x4/\p3 x1 x2 x3 x4:=⟨x1,x2,x3,x4,h1,h2,h3⟩
theorem DF{t1 t2:Sort _}{p1 p2 p3 p4 p5 p6:t1->t2->Prop}(x1:t1)(x2:t2)(h1:p1 x1 x2)(h2:p2 x1 x2)(h3:p3 x1 x2)(h4:p4 x1 x2)(h5:p5 x1 x2)(h6:p6 x1 x2):∃ x1 x2,p1 x1 x2/\p2 x1 x2/\p3 x1 x2/\p4 x1 x2/\p5 x1 x2/\p6 x1 x2:=⟨x1,x2,h1,h2,h3,h4,h5,h6⟩
theorem QJ{t1 t2 t3:Sort _}{p1 p2 p3 p4 p5:t1->t2->t3->Prop}(x1:t1)(x2:t2)(x3:t3)(h1:p1 x1 x2 x3)(h2:p2 x1 x2 x3)(h3:p3 x1 x2 x3)(h4:p4 x1 x2 x3)(h5:p5 x1 x2 x3):∃ x1 x2 x3,p1 x1 x2 x3/\p2 x1 x2 x3/\p3 x1 x2 x3/\p4 x1 x2 x3/\p5 x1 x2 x3:=⟨x1,x2,x3,h1,h2,h3,h4,h5⟩
theorem H8{t1 t2 t3 t4:Sort _}{p1 p2 p3 p4:t1->t2->t3->t4->Prop}(x1:t1)(x2:t2)(x3:t3)(x4:t4)(h1:p1 x1 x2 x3 x4)(h2:p2 x1 x2 x3 x4)(h3:p3 x1 x2 x3 x4)(h4:p4 x1 x2 x3 x4):∃ x1 x2 x3 x4,p1 x1 x2 x3 x4/\p2 x1 x2 x3 x4/\p3 x1 x2 x3 x4/\p4 x1 x2 x3 x4:=⟨x1,x2,x3,x4,h1,h2,h3,h4⟩
theorem Qx{t1 t2 t3 t4 t5 t6:Sort _}{p1 p2:t1->t2->t3->t4->t5->t6->Prop}(x1:t1)(x2:t2)(x3:t3)(x4:t4)(x5:t5)(x6:t6)(h1:p1 x1 x2 x3 x4 x5 x6)(h2:p2 x1 x2 x3 x4 x5 x6):∃ x1 x2 x3 x4 x5 x6,p1 x1 x2 x3 x4 x5 x6/\p2 x1 x2 x3 x4 x5 x6:=⟨x1,x2,x3,x4,x5,x6,h1,h2⟩
theorem Gq{t1 t2 t3:Sort _}{p1:t1->Prop}{p2 p3 p4 p5 p6:t1->t2->t3->Prop}(x1:t1)(h1:p1 x1)(x2:t2)(x3:t3)(h2:p2 x1 x2 x3)(h3:p3 x1 x2 x3)(h4:p4 x1 x2 x3)(h5:p5 x1 x2 x3)(h6:p6 x1 x2 x3):∃ x1,p1 x1/\∃ x2 x3,p2 x1 x2 x3/\p3 x1 x2 x3/\p4 x1 x2 x3/\p5 x1 x2 x3/\p6 x1 x2 x3:=⟨x1,h1,x2,x3,h2,h3,h4,h5,h6⟩
theorem GM{t1 t2 t3:Sort _}{p1 p2 p3 p4 p5 p6:t1->t2->t3->Prop}(x1:t1)(x2:t2)(x3:t3)(h1:p1 x1 x2 x3)(h2:p2 x1 x2 x3)(h3:p3 x1 x2 x3)(h4:p4 x1 x2 x3)(h5:p5 x1 x2 x3)(h6:p6 x1 x2 x3):∃ x1 x2 x3,p1 x1 x2 x3/\p2 x1 x2 x3/\p3 x1 x2 x3/\p4 x1 x2 x3/\p5 x1 x2 x3/\p6 x1 x2 x3:=⟨x1,x2,x3,h1,h2,h3,h4,h5,h6⟩
theorem NI{t1 t2 t3 t4 t5:Sort _}{p1:t1->t2->t3->Prop}{p2 p3:t1->t2->t3->t4->Prop}{p4:t1->t2->t3->t4->t5->Prop}(x1:t1)(x2:t2)(x3:t3)(h1:p1 x1 x2 x3)(x4:t4)(h2:p2 x1 x2 x3 x4)(h3:p3 x1 x2 x3 x4)(x5:t5)(h4:p4 x1 x2 x3 x4 x5):∃ x1 x2 x3,p1 x1 x2 x3/\∃ x4,p2 x1 x2 x3 x4/\p3 x1 x2 x3 x4/\∃ x5,p4 x1 x2 x3 x4 x5:=⟨x1,x2,x3,h1,x4,h2,h3,x5,h4⟩
theorem iEEEEAAAA{t1 t2 t3 t4:Sort _}{p1 p2 p3 p4 p5:t1->t2->t3->t4->Prop}(x1:t1)(x2:t2)(x3:t3)(x4:t4)(h1:p1 x1 x2 x3 x4)(h2:p2 x1 x2 x3 x4)(h3:p3 x1 x2 x3 x4)(h4:p4 x1 x2 x3 x4)(h5:p5 x1 x2 x3 x4):∃ x1 x2 x3 x4,p1 x1 x2 x3 x4/\p2 x1 x2 x3 x4/\p3 x1 x2 x3 x4/\p4 x1 x2 x3 x4/\p5 x1 x2 x3 x4:=⟨x1,x2,x3,x4,h1,h2,h3,h4,h5⟩
theorem N0{t1 t2 t3 t4 t5:Sort _}{p1 p2 p3 p4:t1->t2->t3->t4->t5->Prop}(x1:t1)(x2:t2)(x3:t3)(x4:t4)(x5:t5)(h1:p1 x1 x2 x3 x4 x5)(h2:p2 x1 x2 x3 x4 x5)(h3:p3 x1 x2 x3 x4 x5)(h4:p4 x1 x2 x3 x4 x5):∃ x1 x2 x3 x4 x5,p1 x1 x2 x3 x4 x5/\p2 x1 x2 x3 x4 x5/\p3 x1 x2 x3 x4 x5/\p4 x1 x2 x3 x4 x5:=⟨x1,x2,x3,x4,x5,h1,h2,h3,h4⟩
theorem Ps{t1 t2 t3 t4 t5:Sort _}{p1 p2 p3:t1->t2->t3->t4->t5->Prop}(x1:t1)(x2:t2)(x3:t3)(x4:t4)(x5:t5)(h1:p1 x1 x2 x3 x4 x5)(h2:p2 x1 x2 x3 x4 x5)(h3:p3 x1 x2 x3 x4 x5):∃ x1 x2 x3 x4 x5,p1 x1 x2 x3 x4 x5/\p2 x1 x2 x3 x4 x5/\p3 x1 x2 x3 x4 x5:=⟨x1,x2,x3,x4,x5,h1,h2,h3⟩
theorem AK{A:Prop}(h:∀ Z:Prop,(A->Z)->Z):A:=h A id
noncomputable abbrev Gs:=Addr->Option Obj
variable {T:Scope->R->Expr->Mo Bool} {d d':Nat} {w:World} {P b7:Option Addr} {g g' aT af g1:Gs} {h h' dE ah n h0:Heap} {env:Env} {J J' J'':R} {ae:List Addr} {s ac s' aY s1:Shared} {O O' O'' O0 O1:A4} {A:Around} {sc csc:Scope} {EE:Value->Shared->Prop} {Cf:Str->List V->Mo V} {tgt:Expr} {vs:List V} {Xf:Scope->R->List Stmt->A4->St} {mg mb:Str->Option Value} {bs bm sub:List Value} {br ab:Bool} {cj:Option Bool} {k0 k1 k2 k3 k5:Option Value} {aZ:String} {st:Stmt} {rest body:List Stmt} {res:St}
noncomputable def Bs:List (Int×Int)->List (Int×Value)->Prop
 | [],[]=>True
 | (k,v)::r,(k',x)::r'=>k=k'/\(∃ t,x = .int v t)/\Bs r r'
 | _,_=>False
noncomputable def BY:List (List Nat×List Nat)->List (Str×Value)->Prop
 | [],[]=>True
 | (k,v)::r,(k',x)::r'=>(⟨k.toArray⟩:Str)=k'/\(∃ t,x = .str ⟨v.toArray⟩ t)/\v.length<=Ae/\BY r r'
 | _,_=>False
section
variable (w:World) (P:Option Addr)
mutual
inductive Rep(g:Gs):V->Value->Prop
 | none:Rep g .none .none
 | bool (b:Bool):Rep g (.bool b) (.bool b)
 | int (i:Int) (t:Tok):Rep g (.int i) (.int i t)
 | str (s:List Nat) (t:Tok):s.length<=Ae->Rep g (.str s) (.str ⟨s.toArray⟩ t)
 | bytes (b:List Nat) (t:Tok):(∀ n∈b,n < 256)->b.length<=Ae->Rep g (.bytes b) (.bytes (b.map j2).toArray t)
 | tup {vs:List V} {a:Addr} {o:Obj} {items:Array Value} {n:Nat}:g a=some o->o.cls = .type "tuple"->o.data = .seq items n->AF g vs items.toList->vs.length<=Ae->Rep g (.tup vs) (.ref a)
 | lst {vs:List V} {a:Addr} {o:Obj} {items:Array Value} {n:Nat}:g a=some o->o.cls = .type "list"->o.data = .seq items n->AF g vs items.toList->vs.length<=Ae->Rep g (.lst vs) (.ref a)
 | idict {ak:List (Int×Int)} {kvs':List (Int×Value)} {a:Addr} {o:Obj}:g a=some o->o.IsDictOf (intKind prog w) kvs'->Bs ak kvs'->(a==sysModules)=false->Rep g (.idict ak) (.ref a)
 | sdict {ak:List (List Nat×List Nat)} {kvs':List (Str×Value)} {a:Addr} {o:Obj}:g a=some o->o.IsDictOf (strKind prog w) kvs'->BY ak kvs'->(a==sysModules)=false->Rep g (.sdict ak) (.ref a)
 | pen {a:Addr}:P=some a->Rep g .pen (.ref a)
inductive AF(g:Gs):List V->List Value->Prop
 | nil:AF g [] []
 | cons {v:V} {x:Value} {vs:List V} {xs:List Value}:Rep g v x->AF g vs xs->AF g (v::vs) (x::xs)
end
end
@[elab_as_elim] theorem AF.cR{v:V}{vs:List V}{xs:List Value}{motive:List Value->Prop}(r:AF w P g (v::vs) xs)(k:∀ x xs,Rep w P g v x->AF w P g vs xs->motive (x::xs)):motive xs:=by
 cases r with | cons a b=>exact k _ _ a b
@[elab_as_elim] theorem AF.nR{xs:List Value}{motive:List Value->Prop}(r:AF w P g [] xs)(k:motive []):motive xs:=by
 cases r;exact k
theorem Rep.mono(k:∀ b o,g b=some o->g' b=some o){v:V}{x:Value}(r:Rep w P g v x):Rep w P g' v x:=
 Rep.rec (motive_1:=λ v x _=>Rep w P g' v x) (motive_2:=λ vs xs _=>AF w P g' vs xs) .none .bool .int .str .bytes
  (λ e c d _ l ih=>.tup (k _ _ e) c d ih l) (λ e c d _ l ih=>.lst (k _ _ e) c d ih l) (λ e=>.idict (k _ _ e)) (λ e=>.sdict (k _ _ e)) .pen .nil (λ _ _ a b=>.cons a b) r
theorem AF.mono(k:∀ b o,g b=some o->g' b=some o){vs:List V}{xs:List Value}(r:AF w P g vs xs):AF w P g' vs xs:=by
 induction vs generalizing xs with
 | nil=>cases r;exact .nil
 | cons v vs ih=>refine r.cR λ _ _ a b=>?_;exact .cons (a.mono k) (ih b)
theorem AF.length{vs:List V}{xs:List Value}(r:AF w P g vs xs):xs.length=vs.length:=by
 induction vs generalizing xs with
 | nil=>cases r;rfl
 | cons v vs ih=>refine r.cR λ _ _ a b=>?_;simp[ih b]
theorem AF.append{vs ws:List V}{xs ys:List Value}(r:AF w P g vs xs)(q:AF w P g ws ys):AF w P g (vs++ws) (xs++ys):=by
 induction vs generalizing xs with
 | nil=>cases r;exact q
 | cons v vs ih=>refine r.cR λ _ _ a b=>?_;exact .cons a (ih b)
theorem AF.get{vs:List V}{xs:List Value}(r:AF w P g vs xs):∀ {i:Nat} {v:V},vs[i]?=some v->∃ x,xs[i]?=some x/\Rep w P g v x:=by
 induction vs generalizing xs with
 | nil=>intro i v e;simp at e
 | cons v vs ih=>
  cases r with
  | cons a b=>
   intro i u e
   cases i with
   | zero=>simp at e;subst e;exact iEA _ (by rfl) a
   | succ i=>simp at e;obtain⟨x,ex,rx⟩:=ih b e;exact iEA x (by simpa using ex) rx
theorem AF.take{vs:List V}{xs:List Value}(r:AF w P g vs xs):∀ n,AF w P g (vs.take n) (xs.take n):=by
 induction vs generalizing xs with
 | nil=>cases r;intro n;simp;exact .nil
 | cons v vs ih=>
  cases r with
  | cons a b=>
   intro n
   cases n with
   | zero=>simp;exact .nil
   | succ n=>simp;exact .cons a (ih b n)
theorem AF.drop{vs:List V}{xs:List Value}(r:AF w P g vs xs):∀ n,AF w P g (vs.drop n) (xs.drop n):=by
 induction vs generalizing xs with
 | nil=>cases r;intro n;simp;exact .nil
 | cons v vs ih=>
  cases r with
  | cons a b=>
   intro n
   cases n with
   | zero=>simp;exact .cons a b
   | succ n=>simp;exact ih b n
theorem AF.set{vs:List V}{xs:List Value}(r:AF w P g vs xs){u:V}{y:Value}(q:Rep w P g u y):∀ n,AF w P g (vs.set n u) (xs.set n y):=by
 induction vs generalizing xs with
 | nil=>cases r;intro n;simp;exact .nil
 | cons v vs ih=>
  cases r with
  | cons a b=>
   intro n
   cases n with
   | zero=>simp;exact .cons q b
   | succ n=>simp;exact .cons a (ih b n)
def Sub(g:Gs)(h:Heap):Prop:=∀ b o,g b=some o->h.get? b=some o
def KU(h:Heap)(g g':Gs):Prop:=(∀ b o,g b=some o->g' b=some o)/\∀ b,h.get? b≠none->g' b=g b
structure SO(fr:List Addr)(P:Option Addr)(h h':Heap):Prop where
 exact:∀ b o,b ∉ fr->some b≠P->h.get? b=some o->h'.get? b=some o
 slots:∀ b o,some b≠P->h.get? b=some o->∃ sl,h'.get? b=some {o with slots:=sl}
 dom:∀ b,h.get? b≠none->h'.get? b≠none
theorem KU.refl:KU h g g:=⟨λ _ _ e=>e,λ _ _=>rfl⟩
theorem KU.trans(x:KU h g g')(y:KU h' g' aT)(l:∀ b,h.get? b≠none->h'.get? b≠none):KU h g aT:=
 ⟨λ b o e=>y.1 b o (x.1 b o e),λ b hb=>(y.2 b (l b hb)).trans (x.2 b hb)⟩
theorem Am{b:Addr}{o:Obj}(e:h.get? b=some o):h.get? b≠none:=λ q=>by obtain q:=eqL e q;exact nc mG q (.refl false)
theorem Sub.none{b:Addr}(u:Sub g h)(e:h.get? b=none):g b=none:=by
 cases q:g b with
 | none=>rfl
 | some o=>have:=u b o q;obtain this:=eqL e this;exact none_some this
theorem SO.refl{fr:List Addr}:SO fr P h h:=⟨λ _ _ _ _ e=>e,λ _ o _ e=>⟨o.slots,e⟩,λ _ e=>e⟩
theorem SO.of_keeps{fr:List Addr}(k:∀ b o,h.get? b=some o->h'.get? b=some o):SO fr P h h':=
 ⟨λ b o _ _ e=>k b o e,λ b o _ e=>⟨o.slots,k b o e⟩,λ b e=>by
  cases q:h.get? b with
  | none=>exact absurd q e
  | some o=>exact Am (k b o q)⟩
theorem SO.trans{fr ae:List Addr}(x:SO ae P h h')(y:SO fr P h' dE)(k:∀ b∈fr,b∈ae\/h.get? b=none):SO ae P h dE:=
 ⟨λ b o hb hp e=>y.exact b o (λ hm=>(k b hm).elim hb λ q=>by obtain e:=eqL q e;exact none_some e) hp (x.exact b o hb hp e),
  λ b o hp e=>by
  refine qE (x.slots b o hp e) λ s1 e1=>qE (y.slots b _ hp e1) λ s2 e2=>?_
  exact⟨s2,e2⟩,λ b e=>y.dom b (x.dom b e)⟩
def GZ(w:World)(P:Option Addr)(O:A4)(g:Gs)(h:Heap):Prop:=
 ∀ p,P=some p->g p=none/\∃ items,h.IsList p items/\AF w P g O items.toList
structure AE(w:World)(fr:List Addr)(P:Option Addr)(g:Gs)(s:Shared)(g':Gs)(O':A4)(s':Shared):Prop where
 st:∃ h' t',s'={s with heap:=h',toks:=t'}
 ext:KU s.heap g g'
 sub:Sub g' s'.heap
 so:SO fr P s.heap s'.heap
 pen:GZ w P O' g' s'.heap
theorem AE.trans{fr ae:List Addr}{s s' aY:Shared}{O' O'':A4}(x:AE w ae P g s g' O' s')(y:AE w fr P g' s' aT O'' aY)
  (k:∀ b∈fr,b∈ae\/s.heap.get? b=none):AE w ae P g s aT O'' aY:=by
 obtain⟨⟨h1,t1,rfl⟩,e1,u1,o1,p1⟩:=x
 obtain⟨⟨h2,t2,rfl⟩,e2,u2,o2,p2⟩:=y
 exact⟨⟨h2,t2,rfl⟩,e1.trans e2 o1.dom,u2,o1.trans o2 k,p2⟩
theorem AE.trans0{fr:List Addr}{s s' aY:Shared}{O' O'':A4}(x:AE w fr P g s g' O' s')(y:AE w fr P g' s' aT O'' aY):AE w fr P g s aT O'' aY:=
 x.trans y λ _ hb=>.inl hb
theorem AE.refl{fr:List Addr}{s:Shared}{O:A4}(u:Sub g s.heap)(p:GZ w P O g s.heap):AE w fr P g s g O s:=
 ⟨⟨s.heap,s.toks,rfl⟩,.refl,u,.refl,p⟩
noncomputable def H6(h h':Heap)(a:Addr):Prop:=∀ o,h.get? a=some o->∃ sl,h'.get? a=some {o with slots:=sl}
theorem H6.ns{a:Addr}{m:Str->Option Value}(k:H6 h h' a)(x:h.Ns a m):h'.Ns a m:=by
 exact AK λ Z zk=>HR x λ o es ep ho r=>qE (k o ho) λ sl e=>zk (Kp _ es ep e r)
theorem H6.isCell{a:Addr}{v:Option Value}(k:H6 h h' a)(x:h.IsCell a v):h'.IsCell a v:=by
 exact exE2 x λ o ho r=>HX (k o ho) λ sl e=>iEA _ e r
theorem plainL_isList{a:Addr}{v:Array Value}(x:PlainL h a v):h.IsList a v:=by
 exact H0 x λ o n ho hc _ hd=>EF o ho hc n hd
theorem H6.plainL{a:Addr}{v:Array Value}(k:H6 h h' a)(x:PlainL h a v):PlainL h' a v:=by
 exact AK λ Z zk=>Ij x λ o n ho r=>HX (k o ho) λ sl e=>zk (iEEA _ n e r)
theorem SO.alike{fr:List Addr}(x:SO fr P h h'){a:Addr}(hp:some a≠P):H6 h h' a:=λ o e=>x.slots a o hp e
theorem GZ.push{O:A4}(p:GZ w P O g h)(k:∀ b o,h.get? b=some o->h'.get? b=some o)(kg:∀ b o,g b=some o->g' b=some o)
  (kn:∀ b,h.get? b≠none->g' b=g b):GZ w P O g' h':=λ q hq=>by
 refine El (p q hq) λ a items aa rl=>?_;obtain⟨o,ho,r⟩:=aa
 exact A8 ((kn q (Am ho)).trans a) items ⟨o,k _ _ ho,r⟩ (rl.mono kg)
structure KX(A:Around)(d:Nat)(fr:List Addr):Prop where
 handled:A.handled=none
 depth:A.depth+d < 900
 units:A.units+8 * d < 9000
 frames:∃ l:List Env,A.frames=some l/\fr=l.filterMap (·.frame)/\∀ e∈l,e.scope.kind≠.module/\e.frame.isSome=true
def Et(P:Option Addr)(fr:List Addr)(g:Gs)(h:Heap):Prop:=∀ L∈fr,g L=none/\some L≠P/\∃ o es ep,h.get? L=some o/\o.data = .dict es ep
noncomputable def XG(sc:Scope)(env:Env):Prop:=∀ x,env.kindOf x=sc.names.lookup x\/(sc.names.lookup x=some .free/\env.kindOf x=some .cell)
structure IU(sc:Scope)(env:Env):Prop where
 kinds:XG sc env
 fn:env.scope.kind = .function
 globals:env.globals=mainGlobals
 builtins:env.builtins=builtinsNs
noncomputable def Holds(env:Env)(h:Heap)(x:Str)(v:Value):Prop:=
 (env.kindOf x=some .local/\∃ m,h.Ns env.locals m/\m x=some v) \/
 ((env.kindOf x=some .cell\/env.kindOf x=some .free)/\∃ c,env.cells.lookup x=some c/\h.IsCell c (some v))
section
variable (w:World) (P:Option Addr)
structure A3(fr:List Addr)(g:Gs)(ah:Heap)(a:Addr):Prop where
 new:ah.get? a=none
 out:g a=none
 nopen:some a≠P
 nofr:a ∉ fr
def BH(fr:List Addr)(g:Gs)(h:Heap)(ah:Heap):Slot->Value->Prop
 | .val v,x=>Rep w P g v x
 | .own vs,x=>∃ a items,x = .ref a/\A3 P fr g ah a/\PlainL h a items/\AF w P g vs items.toList/\vs.length<=Ae
 | .ownd ak,x=>∃ a kvs',x = .ref a/\A3 P fr g ah a/\h.DictOf (strKind prog w) a kvs'/\BY ak kvs'/\(a==sysModules)=false/\ak.length<=64
noncomputable def Slot.isOwn:Slot->Bool
 | .val _=>false
 | _=>true
structure FrOK(env:Env)(fr:List Addr)(J:R)(g:Gs)(h:Heap)(ah:Heap):Prop where
 locals:ah.get? env.locals=none/\g env.locals=none/\some env.locals≠P/\∃ m,h.Ns env.locals m
 cells:∀ x,env.kindOf x=some .cell\/env.kindOf x=some .free->∃ c,env.cells.lookup x=some c/\ah.get? c=none/\g c=none/\some c≠P/\∃ v,h.IsCell c v
 apartC:∀ x y c,env.cells.lookup x=some c->env.cells.lookup y=some c->x=y
 vals:∀ x s,J.lookup x=some s->Ah (env.kindOf x)=true->∃ v,Holds env h x v/\BH w P fr g h ah s v
 apart:∀ x y sx sy a,J.lookup x=some sx->J.lookup y=some sy->sx.isOwn=true->sy.isOwn=true->Ah (env.kindOf x)=true->Ah (env.kindOf y)=true->Holds env h x (.ref a)->Holds env h y (.ref a)->x=y
 apartL:∀ x s a,J.lookup x=some s->s.isOwn=true->Ah (env.kindOf x)=true->Holds env h x (.ref a)->a≠env.locals/\∀ y c,env.cells.lookup y=some c->a≠c
end
section
variable {fr:List Addr}
theorem Gp{a:Addr}{m m':Str->Option Value}(x:h.Ns a m)(y:h.Ns a m'):m=m':=by
 refine AK λ Z zk=>Bj x λ o es ep ho hd _ hm=>Bj y λ o' fg ep' an ar _ aK=>?_
 rw[ho]at an;(obtain an:=hG an;subst an)
 replace ar:=eqL hd ar;cases ar
 refine zk ?_
 funext n;exact rwS (hm ..) (rwS (aK ..) rfl)
theorem FC{a:Addr}{v v':Option Value}(x:h.IsCell a v)(y:h.IsCell a v'):v=v':=by
 refine exE2 x λ o ho hd=>exE2 y λ o' an ar=>?_
 obtain an:=eqL ho an;(obtain an:=hG an;subst an)
 replace ar:=eqL hd ar;cases ar;rfl
theorem Holds.fun{x:Str}{v v':Value}(a:Holds env h x v)(b:Holds env h x v'):v=v':=by
 rcases a with ⟨k,m,hn,e⟩| ⟨k,c,hc,e⟩ <;> rcases b with ⟨k',m',aM,e'⟩| ⟨k',c',aC,e'⟩
 ·rw[Gp hn aM,e']at e;(obtain e:=hG e;subst e);rfl
 ·rw[k]at k';rcases k' with q | q <;> cases q
 ·rw[k']at k;rcases k with q | q <;> cases q
 ·rw[hc]at aC;(obtain aC:=hG aC;subst aC);obtain this:=FC e e';(obtain this:=hG this;subst this);rfl
theorem A3.mono{a:Addr}(x:A3 P fr g ah a)(hl:h.get? a≠none)(e:KU h g g'):A3 P fr g' ah a:=
 ⟨x.new,(e.2 a hl).trans x.out,x.nopen,x.nofr⟩
theorem BH.mono{s:Slot}{v:Value}(x:BH w P fr g h ah s v)(so:SO fr P h h')(e:KU h g g'):BH w P fr g' h' ah s v:=by
 cases s with
 | val u=>exact Rep.mono e.1 x
 | own vs=>
  exact DV x λ a items aa ma hl rl len=>rwE aa (Gd a items rfl (ma.mono (let ⟨_,_,q,_⟩:=hl;Am q) e) ((so.alike ma.nopen).plainL hl) (rl.mono e.1) len)
 | ownd ak=>
  refine F0 x λ a kvs' aa ma al sp sm len=>rwE aa ?_;obtain⟨o,es,ep,ho,r⟩:=al
  exact DF a kvs' rfl (ma.mono (Am ho) e) ⟨o,es,ep,so.exact a o ma.nofr ma.nopen ho,r⟩ sp sm len
theorem Holds.mono{x:Str}{v:Value}(F:FrOK w P env fr J g h ah)(a:Holds env h x v)(so:SO fr P h h'):Holds env h' x v:=by
 rcases a with ⟨k,m,hn,e⟩| ⟨k,c,hc,e⟩
 ·exact .inl (A8 k m ((so.alike F.locals.2.2.1).ns hn) e)
 ·refine PP (F.cells x k) λ c' aC _ _ np _=>?_
  replace aC:=eqL hc aC;(obtain aC:=hG aC;subst aC)
  exact .inr (A8 k c hc ((so.alike np).isCell e))
theorem FrOK.mono(F:FrOK w P env fr J g h ah)(so:SO fr P h h')(e:KU h g g'):FrOK w P env fr J g' h' ah where
 locals:=by
  exact Fb F.locals λ a b c m hm=>Kl a ((e.2 _ (let ⟨_,_,_,q,_⟩:=hm;Am q)).trans b) c m ((so.alike c).ns hm)
 cells:=λ x k=>by
  exact Cg (F.cells x k) λ c hc l out np v hv=>Dn c hc l ((e.2 _ (let ⟨_,q,_⟩:=hv;Am q)).trans out) np v ((so.alike np).isCell hv)
 apartC:=F.apartC
 vals:=λ x s hx k=>by
  exact exE2 (F.vals x s hx k) λ v hv sv=>iEA v (hv.mono F so) (sv.mono so e)
 apart:=λ x y sx sy a hx hy ox oy kx ky h1 h2=>by
  refine exE2 (F.vals x sx hx kx) λ v hv _=>exE2 (F.vals y sy hy ky) λ u hu _=>?_
  obtain e1:=(hv.mono F so).fun h1
  obtain e2:=(hu.mono F so).fun h2
  subst e1;subst e2
  exact F.apart x y sx sy a hx hy ox oy kx ky hv hu
 apartL:=λ x s a hx ox kx h1=>by
  refine AK λ Z zk=>exE2 (F.vals x s hx kx) λ v hv _=>?_
  obtain e1:=(hv.mono F so).fun h1
  subst e1
  exact zk (F.apartL x s a hx ox kx hv)
theorem Et.mono(F:Et P fr g h)(so:SO fr P h h')(e:KU h g g'):Et P fr g' h':=λ L hL=>by
 exact AK λ Z zk=>Dk (F L hL) λ a b o es ep ho hd=>qE (so.slots L o b ho) λ sl q=>zk (EY ((e.2 L (Am ho)).trans a) b _ es ep q hd)
end
theorem Bk(J:R)(x:Str)(s:Slot)(y:Str):(BE J x s).lookup y=if y=x then some s else J.lookup y:=by
 induction J with
 | nil=>
  simp only[M7,MZ,jI,List.lookup_nil]
  by_cases h:y=x
  ·subst h;simp
  ·have:(y==x)=false:=by simpa using h
   simp[this,h]
 | cons p r ih=>
  obtain⟨z,t⟩:=p
  simp only[M7,MZ]
  by_cases gC:x=z
  ·subst gC
   simp only[if_true,jI]
   by_cases h:y=x
   ·erw[h];simp
   ·have:(y==x)=false:=by simpa using h
    simp[this,h]
  ·simp only[gC,if_false,jI]
   by_cases h:y=z
   ·subst h
    have:y≠x:=λ e=>gC e.symm
    simp[this]
   ·have:(y==z)=false:=by simpa using h
    simp[this,ih]
section
variable {fr:List Addr}
variable {xc:Model} {E:Value->Shared->Prop}
structure Upd(P:Option Addr)(g:Gs)(ah h h':Heap)(a:Addr):Prop where
 same:k7 a h h'
 new:ah.get? a=none
 out:g a=none
 nopen:some a≠P
structure LC(P:Option Addr)(env:Env)(g:Gs)(ah h h':Heap)(a:Addr)(x:Str)(v:Value):Prop where
 upd:Upd P g ah h h' a
 nf:∀ o fs,h.get? a=some o->o.data≠.fields fs
 loc:a=env.locals\/∃ y,env.cells.lookup y=some a
 holds:∀ y,y≠x->∀ u,Holds env h y u↔Holds env h' y u
 here:Holds env h' x v
theorem AE.upd{t':Nat}{a:Addr}(x:AE w ae P af ac g O s)(u:Upd P g ac.heap s.heap h' a) :
  AE w ae P af ac g O {s with heap:=h',toks:=t'}:=by
 obtain⟨⟨h1,t1,rfl⟩,e1,u1,o1,p1⟩:=x
 refine⟨⟨h',t',rfl⟩,e1,λ b o e=>?_,⟨λ b o hb hp e=>?_,λ b o hp e=>?_,λ b e=>?_⟩,λ p hp=>?_⟩
 ·exact(u.same.2 b (λ q=>by replace e:=eqL u.out (q▸e);exact none_some e)).trans (u1 b o e)
 ·exact(u.same.2 b (λ q=>by replace e:=eqL u.new (q▸e);exact none_some e)).trans (o1.exact b o hb hp e)
 ·clear e1 u1
  exact qE (o1.slots b o hp e) λ sl q=>⟨sl,(u.same.2 b (λ q=>by replace e:=eqL u.new (q▸e);exact none_some e)).trans q⟩
 ·by_cases q:b=a
  ·subst q;replace e:=u.new▸e;exact absurd rfl e
  ·show h'.get? b≠none
   exact rwE (u.same.2 b q) (o1.dom b e)
 ·refine El (p1 p hp) λ q items aa rl=>?_;obtain⟨o,ho,r⟩:=aa
  exact A8 q items ⟨o,(u.same.2 p (λ e=>u.nopen (e▸hp.symm))).trans ho,r⟩ rl
theorem AE.toks{t':Nat}(x:AE w ae P af ac g O s):AE w ae P af ac g O {s with toks:=t'}:=by
 obtain⟨⟨h1,t1,rfl⟩,e1,u1,o1,p1⟩:=x
 exact⟨⟨h1,t',rfl⟩,e1,u1,o1,p1⟩
theorem Et.upd{a:Addr}(F:Et P fr g s.heap)(hs:k7 a s.heap h')(k:a∈fr->∃ m,h'.Ns a m):Et P fr g h':=λ L hL=>by
 refine Dk (F L hL) λ x y o es ep ho hd=>?_
 by_cases e:L=a
 ·refine AK λ Z zk=>?_
  subst e
  exact Hj (k hL) λ m o' fg ep' an ar _=>zk (EY x y o' fg ep' an ar)
 ·exact EY x y o es ep ((hs.2 L e).trans ho) hd
theorem C7{a b:Addr}{m:Str->Option Value}{items:Array Value}(x:h.Ns a m)(y:h.IsList b items):b≠a:=by
 rintro rfl
 refine BJ x λ o _ _ ho hd _=>Cp y λ o' an _ _ ar=>?_
 replace an:=eqL ho an;(obtain an:=hG an;subst an);replace ar:=eqL hd ar;cases ar
theorem I6{a b:Addr}{v:Option Value}{items:Array Value}(x:h.IsCell a v)(y:h.IsList b items):b≠a:=by
 rintro rfl
 refine exE2 x λ o ho hd=>Cp y λ o' an _ _ ar=>?_
 replace an:=eqL ho an;(obtain an:=hG an;subst an);replace ar:=eqL hd ar;cases ar
theorem CC{a b:Addr}{v:Option Value}{m:Str->Option Value}(x:h.IsCell a v)(y:h.Ns b m):b≠a:=by
 rintro rfl
 refine exE2 x λ o ho hd=>BJ y λ o' _ _ an ar _=>?_
 obtain an:=eqL ho an;(obtain an:=hG an;subst an);obtain ar:=eqL hd ar;cases ar
theorem FrOK.free_own{x:Str}(k:Ah (env.kindOf x)=true):env.kindOf x=some .local\/(env.kindOf x=some .cell\/env.kindOf x=some .free):=by
 unfold Ah at k
 simp only[kT,beq_iff_eq]at k
 rcases k with (k | k) | k
 ·exact .inl k
 ·exact .inr (.inl k)
 ·exact .inr (.inr k)
theorem GX{x y:Str}{v:Value}(F:FrOK w P env fr J g h ah)(hx:Holds env h' x v)
  (hl:env.kindOf x=some .local->k7 env.locals h h'/\∀ m,h.Ns env.locals m->h'.Ns env.locals (λ z=>if z=x then some v else m z))
  (hc:∀ c,(env.kindOf x=some .cell\/env.kindOf x=some .free)->env.cells.lookup x=some c->k7 c h h') {u:Value} (hy:y≠x):Holds env h y u↔Holds env h' y u:=by
 have fwd:∀ {u:Value},Holds env h y u->Holds env h' y u:=by
  intro u hu
  rcases hx with ⟨kx,_⟩| ⟨kx,c,dw,_⟩
  ·refine Bv (hl kx) λ sb hn=>?_
   rcases hu with ⟨ky,m,hm,e⟩| ⟨ky,c,cE,e⟩
   ·exact .inl (A8 ky _ (hn m hm) (by simp[hy,e]))
   ·exact Fb F.locals λ _ _ _ m hm=>.inr (A8 ky c cE (e.sameBut sb (λ q=>CC e hm q.symm)))
  ·obtain sb:=hc c kx dw
   rcases hu with ⟨ky,m,hm,e⟩| ⟨ky,c',cE,e⟩
   ·refine Cg (F.cells x kx) λ c'' q _ _ _ cv bu=>?_
    obtain q:=eqL dw q;(obtain q:=hG q;subst q)
    exact .inl (A8 ky m (hm.sameBut sb (CC bu hm)) e)
   ·exact .inr (A8 ky c' cE (e.sameBut sb (λ q=>hy (F.apartC y x c' cE (q▸dw)))))
 refine⟨fwd,λ hu=>?_⟩
 rcases hx with ⟨kx,_⟩| ⟨kx,c,dw,_⟩
 ·refine AK λ Z zk=>Bv (hl kx) λ sb hn=>Fb F.locals λ _ _ _ m hm=>zk ?_
  rcases hu with ⟨ky,m',aK,e⟩| ⟨ky,c,cE,e⟩
  ·obtain this:=Gp (hn m hm) aK
   subst this
   simp only[hy,if_false]at e
   exact .inl (A8 ky m hm e)
  ·refine AK λ Z zk=>Cg (F.cells y ky) λ c' q _ _ _ cv bu=>?_
   replace q:=eqL cE q;(obtain q:=hG q;subst q)
   have:=FC (bu.sameBut sb (λ q=>CC bu hm q.symm)) e
   subst this
   exact zk (.inr (A8 ky c cE bu))
 ·obtain sb:=hc c kx dw
  refine Cg (F.cells x kx) λ c'' q _ _ _ cx ed=>?_
  obtain q:=eqL dw q;(obtain q:=hG q;subst q)
  rcases hu with ⟨ky,m',aK,e⟩| ⟨ky,c',cE,e⟩
  ·refine AK λ Z zk=>Fb F.locals λ _ _ _ m hm=>?_
   have:=Gp (hm.sameBut sb (CC ed hm)) aK
   clear fwd hc ed hl aK kx
   subst this
   exact zk (.inl (A8 ky m hm e))
  ·refine AK λ Z zk=>Cg (F.cells y ky) λ c'' q _ _ _ cv bu=>?_
   replace q:=eqL cE q;(obtain q:=hG q;subst q)
   obtain this:=FC (bu.sameBut sb (λ q=>hy (F.apartC y x c' cE (q▸dw)))) e
   subst this
   exact zk (.inr (A8 ky c' cE bu))
theorem BH.upd{sl:Slot}{v:Value}{b:Addr}(x:BH w P fr g h ah sl v)(sb:k7 b h h')(nb:∀ a,sl.isOwn=true->v = .ref a->a≠b):BH w P fr g h' ah sl v:=by
 cases sl with
 | val u=>exact x
 | own vs=>
  refine A7 x λ a items aa ma hl r=>?_;subst aa
  exact iEEAAA a items rfl ma (hl.extBut sb.extBut (nb a rfl rfl)) r
 | ownd ak=>
  refine A7 x λ a kvs' aa ma hd r=>?_;subst aa
  exact iEEAAA a kvs' rfl ma (hd.sameBut sb (nb a rfl rfl)) r
theorem store{x:Str}{sl:Slot}{v:Value}{Q:Unit->Shared->Prop}(cz:env.scope.kind = .function)(F:FrOK w P env fr J g s.heap ah)
  (kx:Ah (env.kindOf x)=true) (sv:BH w P fr g s.heap ah sl v)
  (nd:∀ a,sl.isOwn=true->v = .ref a->a≠env.locals/\(∀ y c,env.cells.lookup y=some c->a≠c))
  (ap:sl.isOwn=true->∀ y sy,J.lookup y=some sy->y≠x->sy.isOwn=true->Ah (env.kindOf y)=true->¬ Holds env s.heap y v)
  (k:∀ h' t' a,LC P env g ah s.heap h' a x v->FrOK w P env fr (BE J x sl) g h' ah->(Et P fr g s.heap->Et P fr g h')->Q () {s with heap:=h',toks:=t'}) :
  wpAny xc A (storeName env x v) Q E s:=by
 have main:∀ h' t' b,k7 b s.heap h'->(b=env.locals\/∃ y,env.cells.lookup y=some b/\ah.get? b=none/\g b=none/\some b≠P/\∃ cv,s.heap.IsCell b cv)->Holds env h' x v ->
   (∀ y,y≠x->∀ u,Holds env s.heap y u↔Holds env h' y u)->(∃ m,h'.Ns env.locals m)->(∀ y c,env.cells.lookup y=some c->(∃ cv,s.heap.IsCell c cv)->∃ cv,h'.IsCell c cv) ->
   Q () {s with heap:=h',toks:=t'}:=by
  intro h' t' b sb hb hx hy bH bG
  refine Fb F.locals λ l1 l2 l3 m hm=>?_
  have ub:Upd P g ah s.heap h' b:=by
   rcases hb with rfl | ⟨y,_,q1,q2,q3,_⟩
   ·exact⟨sb,l1,l2,l3⟩
   ·exact⟨sb,q1,q2,q3⟩
  have nb:∀ a,(a≠env.locals/\∀ y c,env.cells.lookup y=some c->a≠c)->a≠b:=λ a q=>by
   rcases hb with rfl | ⟨y,hy,_⟩
   ·exact q.1
   ·exact q.2 y b hy
  have nf:∀ o fs,s.heap.get? b=some o->o.data≠.fields fs:=λ o fs ho hd=>by
   rcases hb with rfl | ⟨y,_,_,_,_,cv,o',an,ar⟩
   ·refine BJ hm λ o' es ep an ar _=>?_
    replace an:=eqL ho an;(have an:=hG an;subst an);replace ar:=eqL hd ar;cases ar
   ·replace an:=eqL ho an;(have an:=hG an;subst an);replace ar:=eqL hd ar;cases ar
  refine k h' t' b ⟨ub,nf,hb.imp id (fun⟨y,hy,_⟩=>⟨y,hy⟩),hy,hx⟩ ⟨⟨l1,l2,l3,bH⟩,λ y ky=>?_,F.apartC,λ y sy aU ky=>?_,λ y z sy sz a aU cB oy oz ky kz h1 h2=>?_,λ y sy a aU oy ky h1=>?_⟩ λ FF=>FF.upd sb λ aK=>?_
  ·refine AK λ Z zk=>?_
   clear k nf ub
   exact Cg (F.cells y ky) λ c hc q1 q2 q3 cv bu=>qE (bG y c hc (iE cv bu)) λ gZ d8=>zk (Dn c hc q1 q2 q3 gZ d8)
  ·replace aU:=eqL (Bk ..) aU
   by_cases e:y=x
   ·refine AK λ Z zk=>?_
    clear bG k nf ub
    subst e
    simp only[if_true,oF]at aU
    subst aU
    exact zk (iEA v hx (sv.upd sb λ a o e=>nb a (nd a o e)))
   ·replace aU:=Fg e aU
    exact exE2 (F.vals y sy aU ky) λ u hu su=>iEA u ((hy y e u).mp hu) (su.upd sb λ a o q=>nb a (F.apartL y sy a aU o ky (q▸hu)))
  ·(replace aU:=eqL (Bk ..) aU;replace cB:=eqL (Bk ..) cB)
   by_cases e:y=x
   ·by_cases e':z=x
    ·exact i7 e (rwE e' rfl)
    ·exfalso
     replace aU:=Eq.mp (oF ..) (Gn e aU)
     replace cB:=Fg e' cB
     subst aU;subst e
     have:=hx.fun h1;subst this
     exact ap oy z sz cB e' oz kz ((hy z e' _).mpr h2)
   ·by_cases e':z=x
    ·exfalso
     replace aU:=Fg e aU
     replace cB:=Eq.mp (oF ..) (Gn e' cB)
     subst cB;subst e'
     have:=hx.fun h2;subst this
     exact ap oz y sy aU e oy ky ((hy y e _).mpr h1)
    ·replace aU:=Fg e aU
     have cB:=Fg e' cB
     exact F.apart y z sy sz a aU cB oy oz ky kz ((hy y e _).mpr h1) ((hy z e' _).mpr h2)
  ·replace aU:=eqL (Bk ..) aU
   by_cases e:y=x
   ·replace aU:=Eq.mp (oF ..) (Gn e aU)
    clear ap bG k nb nf sv ub
    subst aU;subst e
    have this:=hx.fun h1;subst this
    exact nd a oy rfl
   ·have aU:=Fg e aU
    exact F.apartL y sy a aU oy ky ((hy y e _).mpr h1)
  ·clear ap bG k nb nd nf sv ub
   rcases hb with rfl | ⟨y,_,_,_,_,cv,bu⟩
   ·exact bH
   ·exfalso
    refine Dk (FF b aK) λ _ _ o es ep ho hd=>A9 bu λ o' an ar=>?_
    have an:=eqL ho an;(have an:=hG an;subst an);have ar:=eqL hd ar;cases ar
 refine Fb F.locals λ l1 l2 l3 m hm=>?_
 refine jP (FrOK.free_own kx) (λ kl=>?_) λ kc=>?_
 ·refine nZ kl hm (λ h' hn sb=>?_) (by erw[cz];rfl)
  have hx:Holds env h' x v:=.inl (A8 kl _ hn (by simp))
  refine main h' _ env.locals sb (.inl rfl) hx (λ y hy u=>GX F hx (λ _=>iA sb (λ m' aK=>by erw[Gp aK hm];exact hn)) (λ c kc _=>?_) hy) (iE _ hn) λ y c _ ⟨cv,bu⟩=>⟨cv,bu.sameBut sb λ q=>CC bu hm q.symm⟩
  replace kc:=kl▸kc;rcases kc with q | q <;> cases q
 ·refine Cg (F.cells x kc) λ c hc q1 q2 q3 cv bu=>?_
  have go:wpAny xc A (do cellSet (<-cellOf env x) (some v)) Q E s:=by
   refine i5 (wpAny_cellOf hc (wpAny_cellSet bu λ h' hv sb=>?_))
   have hx:Holds env h' x v:=.inr (A8 kc c hc hv)
   refine main h' s.toks c sb (.inr (Dn x hc q1 q2 q3 cv bu)) hx (λ y hy u=>GX F hx (λ kl=>?_) (λ c' _ aC=>by replace aC:=eqL hc aC;(have aC:=hG aC;subst aC);exact sb) hy)
    (iE m (hm.sameBut sb (CC bu hm))) λ y c' aC ⟨gZ,d8⟩=>?_
   ·replace kc:=kl▸kc;rcases kc with q | q <;> cases q
   ·by_cases e:c'=c
    ·clear F ap hc aC bu hm hx k kx l1 l2 l3 main nd q1 q2 q3 sv
     subst e;exact iE _ hv
    ·exact iE gZ (d8.sameBut sb e)
  have e:storeName env x v=(do cellSet (<-cellOf env x) (some v)):=by
   unfold storeName
   clear F ap hc bu hm k kx l1 l2 l3 main nd q1 q2 q3 sv
   rcases kc with q | q <;> simp[q,cz]
  exact rwE e go
theorem MF{x:Str}{v:Value}{Q:Value->Shared->Prop}(cz:env.scope.kind = .function)(hx:Holds env s.heap x v)(hc:(x==("__classdict__" : Str))=false)(h:Q v s):wpAny xc A (loadName env x) Q E s:=by
 rcases hx with ⟨k,m,hm,e⟩| ⟨k | k,c,bG,hv⟩
 ·exact wpAny_loadName_local cz k hm e h
 ·exact wpAny_loadName_cell cz k bG hv h
 ·exact wpAny_loadName_free cz k bG hv h hc
end
def Gs.put(g:Gs)(a:Addr)(o:Obj):Gs:=λ b=>if b=a then some o else g b
section
variable (w:World) (P:Option Addr) (fr:List Addr)
def CR(g:Gs)(n h:Heap)(t:TV)(x:Value):Prop:=match t.2 with
 | .val=>Rep w P g t.1 x
 | .bor=>match t.1 with
  | .lst vs=>∃ e:Heap,(∀ a,e.get? a=none)/\BH w P fr g h e (.own vs) x
  | .sdict ak=>∃ e:Heap,(∀ a,e.get? a=none)/\BH w P fr g h e (.ownd ak) x
  | _=>False
 | .fresh=>match t.1 with
  | .lst vs=>BH w P fr g h n (.own vs) x
  | _=>False
def OpQ(g:Gs)(O:A4)(s:Shared)(t:TV):Value->Shared->Prop:=λ x s'=>∃ g',AE w fr P g s g' O s'/\CR w P fr g' s.heap s'.heap t x
structure AP(g:Gs)(O:A4)(s:Shared):Prop where
 sub:Sub g s.heap
 pen:GZ w P O g s.heap
 frs:Et P fr g s.heap
def Vw(g:Gs)(h:Heap):V->Value->Prop
 | .lst vs,x=>∃ a items,x = .ref a/\h.IsList a items/\AF w P g vs items.toList/\vs.length<=Ae
 | .sdict ak,x=>∃ a kvs',x = .ref a/\h.DictOf (strKind prog w) a kvs'/\BY ak kvs'/\(a==sysModules)=false
 | v,x=>Rep w P g v x
end
section
variable {fr:List Addr}
theorem AP.step(H:AP w P fr g O s)(S:AE w fr P g s g' O' s'):AP w P fr g' O' s':=
 ⟨S.sub,S.pen,H.frs.mono S.so S.ext⟩
theorem AP.refl(H:AP w P fr g O s):AE w fr P g s g O s:=.refl H.sub H.pen
theorem AP.toks{t:Nat}(H:AP w P fr g O s):AE w fr P g s g O {s with toks:=t}:=H.refl.toks
theorem Rep.vw(u:Sub g h){v:V}{x:Value}(r:Rep w P g v x):Vw w P g h v x:=by
 cases v with
 | lst vs=>cases r with | lst e c d rl l=>exact iEEAAA _ _ rfl ⟨_,u _ _ e,c,_,d⟩ rl l
 | sdict ak=>cases r with | sdict e c d p=>exact iEEAAA _ _ rfl ((pU).mpr ⟨_,u _ _ e,c⟩) d p
 | _=>exact r
theorem BH.vwOwn{vs:List V}{x:Value}(r:BH w P fr g h n (.own vs) x):Vw w P g h (.lst vs) x:=
 let ⟨a,items,e,_,hl,rl,l⟩:=r;(iEEAAA a items e (plainL_isList hl) rl l)
theorem BH.vwOwnd{vs:List (List Nat×List Nat)}{x:Value}(r:BH w P fr g h n (.ownd vs) x):Vw w P g h (.sdict vs) x:=
 let ⟨a,kvs',e,_,hd,sp,sm,_⟩:=r;(iEEAAA a kvs' e hd sp sm)
theorem CR.vw(u:Sub g h){t:TV}{x:Value}(r:CR w P fr g n h t x):Vw w P g h t.1 x:=by
 obtain⟨v,o⟩:=t
 cases o with
 | val=>exact Rep.vw u r
 | bor=>cases v with
  | lst vs=>exact r.elim λ _ q=>q.2.vwOwn
  | sdict vs=>exact r.elim λ _ q=>q.2.vwOwnd
  | _=>exact r.elim
 | fresh=>cases v with
  | lst vs=>exact BH.vwOwn r
  | _=>exact r.elim
theorem CR.mono(so:SO fr P h h')(e:KU h g g'){t:TV}{x:Value}(r:CR w P fr g n h t x):CR w P fr g' n h' t x:=by
 obtain⟨v,o⟩:=t
 cases o with
 | val=>exact Rep.mono e.1 r
 | bor=>cases v with
  | lst vs=>exact r.elim λ a q=>iEA a q.1 (BH.mono q.2 so e)
  | sdict vs=>exact r.elim λ a q=>iEA a q.1 (BH.mono q.2 so e)
  | _=>exact r.elim
 | fresh=>cases v with
  | lst vs=>exact BH.mono (s:=.own _) r so e
  | _=>exact r.elim
theorem BH.older{n':Heap}(k:∀ a,n.get? a=none->n'.get? a=none){vs:List V}{x:Value}(r:BH w P fr g h n (.own vs) x):BH w P fr g h n' (.own vs) x:=
 let ⟨a,items,e,m,r⟩:=r;(CL a items e ⟨k _ m.new,m.out,m.nopen,m.nofr⟩ r)
theorem CR.older{n':Heap}(k:∀ a,n.get? a=none->n'.get? a=none){t:TV}{x:Value}(r:CR w P fr g n h t x):CR w P fr g n' h t x:=by
 obtain⟨v,o⟩:=t
 cases o with
 | val=>exact r
 | bor=>exact r
 | fresh=>cases v with
  | lst vs=>exact BH.older k r
  | _=>exact r.elim
theorem SO.back{fr:List Addr}(so:SO fr P h h'){a:Addr}(e:h'.get? a=none):h.get? a=none:=by
 cases q:h.get? a with
 | none=>rfl
 | some o=>exact absurd e (so.dom a (Am q))
theorem OpQ.after{t:TV}{x:Value}{aY:Shared}{O'':A4}(S:AE w fr P g s g' O' s')(q:OpQ w P fr g' O'' s' t x aY):OpQ w P fr g O'' s t x aY:=by
 exact exE2 q λ aT S' r=>iEA aT (S.trans0 S') (r.older λ a e=>S.so.back e)
theorem AP.new(H:AP w P fr g O s){a:Addr}(e:s.heap.get? a=none):A3 P fr g s.heap a where
 new:=e
 out:=H.sub.none e
 nopen:=λ q=>by
  refine El (H.pen a q.symm) λ _ items aa _=>?_;obtain⟨o,ho,_⟩:=aa
  obtain ho:=eqL e ho;exact none_some ho
 nofr:=λ m=>by
  refine Dk (H.frs a m) λ _ _ o _ _ ho _=>?_
  obtain ho:=eqL e ho;exact none_some ho
theorem AP.keeps{t':Nat}(H:AP w P fr g O s)(k:∀ b o,s.heap.get? b=some o->h'.get? b=some o):AE w fr P g s g O {s with heap:=h',toks:=t'}:=
 ⟨⟨h',t',rfl⟩,.refl,λ b o e=>k b o (H.sub b o e),.of_keeps k,H.pen.push k (λ _ _ e=>e) λ _ _=>rfl⟩
theorem AP.keepsPut{t':Nat}{a:Addr}{o:Obj}(H:AP w P fr g O s)(k:∀ b o,s.heap.get? b=some o->h'.get? b=some o)(e:s.heap.get? a=none)(ho:h'.get? a=some o) :
  AE w fr P g s (g.put a o) O {s with heap:=h',toks:=t'}:=by
 obtain ga:=H.sub.none e
 refine⟨⟨h',t',rfl⟩,⟨λ b o' q=>?_,λ b q=>?_⟩,λ b o' q=>?_,.of_keeps k,H.pen.push k (λ b o' q=>?_) λ b q=>?_⟩
 ·unfold Gs.put
  exact Gx (λ z=>by replace q:=eqL ga (z▸q);exact none_some q) q
 ·unfold Gs.put
  exact rwE (if_neg (fun(z:b=a)=>q (z▸e))) rfl
 ·unfold Gs.put at q
  split at q
  ·rename_i z;(obtain q:=hG q;subst q);erw[z];exact ho
  ·exact k _ _ (H.sub _ _ q)
 ·unfold Gs.put
  exact Gx (λ z=>by replace q:=eqL ga (z▸q);exact none_some q) q
 ·unfold Gs.put
  exact rwE (if_neg (fun(z:b=a)=>q (z▸e))) rfl
theorem OpQ.flat{t':Nat}{v:V}{x:Value}(H:AP w P fr g O s)(r:Rep w P g v x):OpQ w P fr g O s (v,.val) x {s with toks:=t'}:=iEA g H.toks r
theorem OpQ.kept{t':Nat}{v:V}{x:Value}(H:AP w P fr g O s)(k:∀ b o,s.heap.get? b=some o->h'.get? b=some o)(r:Rep w P g v x) :
  OpQ w P fr g O s (v,.val) x {s with heap:=h',toks:=t'}:=iEA g (H.keeps k) r
theorem OpQ.fresh{t':Nat}{vs:List V}{a:Addr}{items:Array Value}(H:AP w P fr g O s)(k:∀ b o,s.heap.get? b=some o->h'.get? b=some o)(e:s.heap.get? a=none)
  (hl:PlainL h' a items) (r:AF w P g vs items.toList) (l:vs.length<=Ae):OpQ w P fr g O s (.lst vs,.fresh) (.ref a) {s with heap:=h',toks:=t'}:=
 (Gq g (H.keeps k) a items rfl (H.new e) hl r l)
theorem Bm{a:Addr}{o:Obj}(e:g a=none):∀ b o',g b=some o'->g.put a o b=some o':=λ b o' q=>by
 unfold Gs.put
 exact Gx (λ z=>by replace q:=eqL e (z▸q);exact none_some q) q
theorem Ch{a:Addr}{o:Obj}:g.put a o a=some o:=by unfold Gs.put;exact BX rfl rfl
theorem AE.put{ae:List Addr}{af:Gs}{ac:Shared}{a:Addr}{o:Obj}(S:AE w ae P af ac g O s)(m:ac.heap.get? a=none)(out:g a=none)(np:some a≠P)(ho:s.heap.get? a=some o) :
  AE w ae P af ac (g.put a o) O s:=by
 obtain⟨st,e,u,so,p⟩:=S
 refine⟨st,⟨λ b o' q=>Bm out b o' (e.1 b o' q),λ b q=>?_⟩,λ b o' q=>?_,so,λ p' hp=>?_⟩
 ·unfold Gs.put
  exact rwE (if_neg (fun(z:b=a)=>q (z▸m))) (e.2 b q)
 ·unfold Gs.put at q
  split at q
  ·rename_i z;(obtain q:=hG q;subst q);erw[z];exact ho
  ·exact u b o' q
 ·refine El (p p' hp) λ q items hl rl=>A8 ?_ items hl (rl.mono (Bm out))
  unfold Gs.put
  exact rwE (if_neg (fun(z:p'=a)=>np (z▸hp.symm))) q
theorem CR.share{t:TV}{v:V}{x:Value}(S:AE w fr P g s g' O' s')(r:CR w P fr g' s.heap s'.heap t x)(hv:valOf t=some v) :
  ∃ aT,AE w fr P g s aT O' s'/\Rep w P aT v x/\(∀ b o,g' b=some o->aT b=some o):=by
 obtain⟨u,ow⟩:=t
 cases ow with
 | bor=>exact none_some hv
 | val=>(obtain hv:=hG hv;subst hv);exact iEAA g' S r (λ _ _ e=>e)
 | fresh=>
  (obtain hv:=hG hv;subst hv)
  cases u with
  | lst vs=>
   refine DV r λ a items aa m al rl l=>?_;subst aa;obtain⟨o,k,ho,hc,_,hd⟩:=al
   exact iEAA (g'.put a o) (S.put m.new m.out m.nopen ho) (.lst Ch hc hd (rl.mono (Bm m.out)) l) (Bm m.out)
  | _=>cases r
end
open PyProof.Rows
theorem Ak(h:Heap):h.get? h.objs.size=none:=l9 (j3 _)
theorem Av(h:Heap)(o:Obj):∀ b o',h.get? b=some o'->(h.push o).get? b=some o':=λ _ _ e=>j8 _ e
section
variable {E:Value->Shared->Prop} {Q:Value->Shared->Prop}
theorem Oh{l b:Addr}{vs ws:Array Value}(hl:s.heap.IsList l vs)(hb:s.heap.IsList b ws)
  (h:Q (.ref s.heap.objs.size) {s with heap:=s.heap.push {cls:=.type "list",data:=.seq (vs++ws)}}) (aB:vs.size+ws.size<=sizeLine) :
  wpAny (model prog w) A (binaryOp .Add (.ref l) (.ref b)) Q E s:=by
 refine AK λ Z zk=>Cp (id hl) λ aa ho hc n hd=>?_;obtain⟨cls,dd,data,sl⟩:=aa
 refine Cp (id hb) λ aa av cm n2 aA=>?_;obtain⟨eA,cQ,data2,cM⟩:=aa
 refine zk ?_
 simp only at hc hd cm aA
 subst hc hd cm aA
 exact concat_meets (iEA _ ho rfl) (iEA _ av rfl) noFill_list_add seq_list_add PySem.F.slot_list_add PySem.F.entry_list_add (PySem.F.args_list_add_2 _ _) (list_addW l b vs ws n n2 dd cQ sl cM aB) (iAA ho av h)
theorem OW{l:Addr}{vs:List Value}{x:Int}{u:Tok}(hl:s.heap.IsList l vs.toArray)(h0:0<=x)(hhi:x < 2 ^ 62)(aB:vs.length * x.toNat<=2 ^ 24)
  (h:Q (.ref s.heap.objs.size) {s with heap:=s.heap.push {cls:=.type "list",data:=.seq (j1 x.toNat vs).flatten.toArray}}) :
  wpAny (model prog w) A (binaryOp .Mult (.ref l) (.int x u)) Q E s:=by
 refine Cp (id hl) λ aa ho bG k hd=>?_;obtain⟨cls,d,data,sl⟩:=aa
 simp only at bG hd
 subst bG hd
 obtain dz:vs.toArray.size * x.toNat<=2 ^ 24:=by simpa using aB
 refine wpAny_binaryOp_repeat_ref (T:="list") (U:="int") (by decide) ⟨_,ho,rfl⟩ (λ s'=>typeIs_int s' x u) noFill_list_mul F.fills_int_mul F.slot_int_rmul repeat_list F.slot_int_index.lookup
  (sR F.slot_int_rmul (typeIs_int s x u) F.entry_int_rmul (F.args_int_rmul_2 _ _) (lm_int_rmul_list_any x u l vs.toArray k d sl)
   ⟨ho,rfl,⟨_,ho,rfl⟩,sR F.slot_list_mul ⟨_,ho,rfl⟩ F.entry_list_mul (F.args_list_mul_2 _ _)
    (lm_list_mul_any l vs.toArray k d sl x u (by simp[Builtin.List.listFitsIndex];exact⟨jG (by decide) h0,nU hhi (by decide)⟩) ((sQ).mpr (hZ dz (by decide))) (by simp[pM,sizeLine];omega))
    ⟨ho,?_⟩⟩)
 exact rwE (listMul_foldl_if ..) h
end
section
variable {fr:List Addr}
variable {E:Value->Shared->Prop}
theorem Vw.int{h:Heap}{i:Int}{x:Value}(v:Vw w P g h (.int i) x):∃ t,x = .int i t:=by cases v;exact⟨_,rfl⟩
theorem Vw.str{h:Heap}{i:List Nat}{x:Value}(v:Vw w P g h (.str i) x):∃ t,x = .str ⟨i.toArray⟩ t/\i.length<=Ae:=by cases v with | str _ _ l=>exact iEA _ rfl l
theorem Vw.bytes{h:Heap}{i:List Nat}{x:Value}(v:Vw w P g h (.bytes i) x):∃ t,x = .bytes (i.map j2).toArray t/\(∀ n∈i,n < 256)/\i.length<=Ae:=by
 cases v with | bytes _ _ a l=>exact iEAA _ rfl a l
theorem Vw.none{h:Heap}{x:Value}(v:Vw w P g h .none x):x = .none:=by cases v;rfl
theorem Vw.bool{h:Heap}{b:Bool}{x:Value}(v:Vw w P g h (.bool b) x):x = .bool b:=by cases v;rfl
theorem Vw.tup{h:Heap}{vs:List V}{x:Value}(u:Sub g h)(v:Vw w P g h (.tup vs) x):∃ a items,x = .ref a/\h.IsTuple a items/\AF w P g vs items.toList/\vs.length<=Ae:=by
 cases v with | tup e c d r l=>exact iEEAAA _ _ rfl ⟨_,u _ _ e,c,_,d⟩ r l
theorem Vw.idict{h:Heap}{ak:List (Int×Int)}{x:Value}(u:Sub g h)(v:Vw w P g h (.idict ak) x) :
  ∃ a kvs',x = .ref a/\h.DictOf (intKind prog w) a kvs'/\Bs ak kvs'/\(a==sysModules)=false:=by
 cases v with | idict e c d p=>exact iEEAAA _ _ rfl ((pU).mpr ⟨_,u _ _ e,c⟩) d p
theorem Fx:Ae=sizeLine:=rfl
theorem H7{a:Int}(h:a.natAbs < 2 ^ 64):Builtin.Int.intBits a<=64:=by
 exact PySem.intBits_le_64 (Int.neg_lt_of_neg_lt (nW (Int.natAbs_neg a▸Int.le_natAbs) ((jU).mpr h))) (nW Int.le_natAbs ((jU).mpr h))
theorem Jo(a b:List Nat):(⟨a.toArray⟩:Str)++(⟨b.toArray⟩:Str)=⟨(a++b).toArray⟩:=by
 show(⟨a.toArray++b.toArray⟩:Str)=_
 simp
theorem KI{a b:Int}(h:b.natAbs < 2 ^ 64):rG a b=false:=by
 unfold rG
 have:b.natAbs.log2 < 64:=by
  by_cases q:b.natAbs=0
  ·erw[q];decide
  ·exact(Nat.log2_lt q).mpr h
 obtain d:(if b==0 then 0 else b.natAbs.log2 / 30+1)<=300:=by split <;> (first | exact j6 (hZ (pV _ _) (hZ (jB this) (by decide))) | exact kA _)
 simp only[Bool.and_eq_false_iff,decide_eq_false_iff_not]
 exact .inl ((sQ).mpr d)
theorem IX(a:List Nat):∀ (k:Nat) (b:Array Nat),(j1 k a.toArray).foldl (·++·) b=b++(j1 k a).flatten.toArray
 | 0,b=>by rfl
 | k+1,b=>by
  (refine rwE pB (i7 o5 ?_);rw[IX a k];erw[pB,lG];exact rwS (List.append_toArray ..) Array.append_assoc)
theorem Tm(a:List Nat){n:Int}(h0:0<=n)(h:a.length=1):Txt.mul ⟨a.toArray⟩ n=⟨(j1 n.toNat a).flatten.toArray⟩:=by
 unfold Txt.mul
 split
 ·have:n=0:=by lia
  erw[this];rfl
 ·split
  ·rename_i h1 h2
   obtain h3:(⟨a.toArray⟩:Str).length=1:=by simpa [uO]using h
   rw[h3]at h2
   have:n=1:=by simpa using h2
   clear h h0 h1 h2 h3
   subst this;simp
  ·erw[IX];simp
theorem LL{a b c:V}{x y:Value}(H:AP w P fr g O s)(ha:Vw w P g s.heap a x)(hb:Vw w P g s.heap b y)(e:Xl a b=some c) :
  wpAny (model prog w) A (binaryOp .Add x y) (OpQ w P fr g O s (AI c)) E s:=by
 cases a with
 | int i=>
  refine Ag e λ j h e=>?_
  (first | (obtain rfl:=V.int?_some h) | cases V.int?_some h);(obtain e:=hG e;subst e)
  obtain⟨t,rfl⟩:=ha.int;obtain⟨u,rfl⟩:=hb.int
  exact PySem.P.add_int (OpQ.flat H (.int _ _))
 | str a=>
  refine Ag e λ b h e=>Cb e λ hs aa=>?_;subst aa
  (first | (obtain rfl:=V.str?_some h) | cases V.str?_some h)
  obtain⟨t,rfl,_⟩:=ha.str;obtain⟨u,rfl,_⟩:=hb.str
  refine PyProof.Rows.add_str (λ t' tk=>?_) (by simpa [uO,Fx]using hs)
  obtain this:=Rep.str (w:=w) (P:=P) (g:=g) (a++b) t' (by erw[hW];exact hs)
  exact rwE (Jo ..) (OpQ.flat H this)
 | bytes a=>
  refine Ag e λ b h e=>Cb e λ hs aa=>rwS aa ?_
  (first | (obtain rfl:=V.bytes?_some h) | cases V.bytes?_some h)
  obtain⟨t,rfl,ha1,_⟩:=ha.bytes;obtain⟨u,rfl,dj,_⟩:=hb.bytes
  refine PySem.W.KBy.add_bytes (by simpa [Ae]using hs) (λ t' k=>?_)
  obtain this:=Rep.bytes (w:=w) (P:=P) (g:=g) (a++b) t' (λ n hn=>((jX).mp hn).elim (ha1 n) (dj n)) (by erw[hW];exact hs)
  rw[k8]at this
  exact rwE (List.append_toArray ..) (OpQ.flat H this)
 | lst a=>
  refine Ag e λ b h e=>Cb e λ hs aa=>rwS aa ?_
  (first | (obtain rfl:=V.lst?_some h) | cases V.lst?_some h)
  refine AK λ Z zk=>A7 ha λ l items aa hl r1 _=>?_;subst aa
  refine A7 hb λ m a8 aa hm r2 _=>?_;subst aa
  obtain e1:=r1.length;obtain e2:=r2.length
  simp only[lQ]at e1 e2
  refine zk (Oh hl hm ?_ (by refine rwS Fx ?_;exact hZ (j7 (congr (congrArg vB e1) e2)) hs))
  exact OpQ.fresh H (Av _ _) (Ak _) (iEEAAA _ _ (jC _ rfl) rfl rfl rfl) (by erw[pC];exact r1.append r2) (by erw[hW];exact hs)
 | _=>exact none_some e
theorem KJ{v:V}{x:Value}(a:Rep w P g v x):∀ k:Nat,AF w P g (j1 k v) (j1 k [x]).flatten
 | 0=>.nil
 | k+1=>by(erw[pB,pB];erw[lG]);exact .cons a (KJ a k)
theorem K0{a b c:V}{x y:Value}(H:AP w P fr g O s)(ha:Vw w P g s.heap a x)(hb:Vw w P g s.heap b y)(e:Yz a b=some c) :
  wpAny (model prog w) A (binaryOp .Mult x y) (OpQ w P fr g O s (AI c)) E s:=by
 cases a with
 | int i=>
  refine Ag e λ j h e=>Cb e λ hs aa=>rwS aa ?_
  (first | (obtain rfl:=V.int?_some h) | cases V.int?_some h)
  obtain⟨t,rfl⟩:=ha.int;obtain⟨u,rfl⟩:=hb.int
  exact PySem.P.mul_int (OpQ.flat H (.int _ _)) (hs.elim (λ q=>IntMulOk.of_left (H7 q)) λ q=>IntMulOk.of_right (H7 q))
 | str a=>
  refine Ag e λ n h e=>Cb e λ hs aa=>rwS aa ?_
  (first | (obtain rfl:=V.int?_some h) | cases V.int?_some h)
  obtain⟨t,rfl,_⟩:=ha.str;obtain⟨u,rfl⟩:=hb.int
  obtain h1:(⟨a.toArray⟩:Str).length=1:=by simpa [uO]using hs.2.2
  refine SB.mul (mulOk_of (x:=⟨a.toArray⟩) 1 64 ((j7 h1)) (hs.2.1) (jG (by decide) hs.1) (by decide) (by decide)) (λ t' k=>?_)
  refine OpQ.flat H ?_
  refine rwE (Tm a hs.1 hs.2.2) (.str _ _ ?_)
  (erw[List.length_flatten,List.map_replicate];erw[List.sum_replicate_nat,hs.2.2])
  unfold Ae;exact hZ (j7 (tC _)) (hZ ((u7).mpr hs.2.1) (by decide))
 | lst a=>
  refine Ag e λ v h1 e=>Ag e λ n h2 e=>Cb e λ hs aa=>rwS aa ?_
  (first | (obtain rfl:=one?_some h1) | cases one?_some h1);(first | (obtain rfl:=V.int?_some h2) | cases V.int?_some h2)
  refine AK λ Z zk=>A7 ha λ l items aa hl r1 _=>?_;subst aa
  refine qE hb.int λ u aa=>?_;subst aa
  obtain bg:s.heap.IsList l items.toList.toArray:=by simpa using hl
  refine zk ?_
  generalize items.toList=l0 at r1 bg
  cases r1 with
  | cons a b=>
   cases b
   refine OW bg hs.1 (nW hs.2 (by decide)) (by erw[iT];exact hZ (j7 (Nat.one_mul _)) (hZ ((u7).mpr hs.2) (by decide))) ?_
   exact OpQ.fresh H (Av _ _) (Ak _) (iEEAAA _ _ (jC _ rfl) rfl rfl rfl) (KJ a _) (by erw[lV];unfold Ae;exact hZ ((u7).mpr hs.2) (by decide))
 | _=>exact none_some e
theorem Bc{α:Type}{h:Heap}{f:Int->Int->Option α}{a b:V}{c:α}{x y:Value}(ha:Vw w P g h a x)(hb:Vw w P g h b y)(e:Cm f a b=some c) :
  ∃ i j t u,x = .int i t/\y = .int j u/\f i j=some c:=by
 refine AK λ Z zk=>Ca (Lq e) λ i j aa al e=>?_;subst aa;subst al
 obtain⟨t,rfl⟩:=ha.int;obtain⟨u,rfl⟩:=hb.int
 exact zk (Ny i j t u rfl rfl e)
theorem J6{op:Operator}{a b c:V}{x y:Value}(H:AP w P fr g O s)(ha:Vw w P g s.heap a x)(hb:Vw w P g s.heap b y)(e:A1 op a b=some c) :
  wpAny (model prog w) A (binaryOp op x y) (OpQ w P fr g O s (AI c)) E s:=by
 cases op with
 | Add=>exact LL H ha hb e
 | Mult=>exact K0 H ha hb e
 | Sub=>
  replace e:=Bc ha hb e;clear ha hb
  obtain⟨i,j,t,u,rfl,rfl,e⟩:=e
  (obtain e:=hG e;subst e)
  exact PySem.P.sub_int (OpQ.flat H (.int _ _))
 | FloorDiv=>
  replace e:=Bc ha hb e;clear ha hb
  obtain⟨i,j,t,u,rfl,rfl,e⟩:=e
  obtain⟨hs,rfl⟩:=Bd e
  exact floordiv_int hs.1 (OpQ.flat H (.int _ _)) (.inl (KI hs.2))
 | Mod=>
  replace e:=Bc ha hb e;clear ha hb
  obtain⟨i,j,t,u,rfl,rfl,e⟩:=e
  exact Cb e λ hs aa=>rwS aa (mod_int' hs (OpQ.flat H (.int _ _)))
 | Pow=>
  replace e:=Bc ha hb e;clear ha hb
  obtain⟨i,j,t,u,rfl,rfl,e⟩:=e
  exact Cb e λ hs aa=>rwS aa (pow_int_small hs.1 hs.2.1 hs.2.2 (OpQ.flat H (.int _ _)))
 | LShift=>
  replace e:=Bc ha hb e;clear ha hb
  obtain⟨i,j,t,u,rfl,rfl,e⟩:=e
  exact Cb e λ hs aa=>rwS aa (lshift_int_small hs.1 hs.2.1 hs.2.2 (OpQ.flat H (.int _ _)))
 | RShift=>
  replace e:=Bc ha hb e;clear ha hb
  obtain⟨i,j,t,u,rfl,rfl,e⟩:=e
  exact Cb e λ hs aa=>rwS aa (rshift_int hs (OpQ.flat H (.int _ _)))
 | BitAnd=>
  replace e:=Bc ha hb e;clear ha hb
  obtain⟨i,j,t,u,rfl,rfl,e⟩:=e
  (obtain e:=hG e;subst e)
  exact and_int (OpQ.flat H (.int _ _))
 | _=>exact none_some e
end
section
variable {E:Value->Shared->Prop} {Q:Value->Shared->Prop}
theorem E7(b:Array UInt8)(t:Tok):Gives (Builtin.«bytes.__eq__» ⟨[.bytes b t,.none],[]⟩) (.val .notImplemented):=
 .of_wp λ xc A E s Q h=>by obtain⟨hp,g,d,tk,os⟩:=s;obtain f:=F.sub_NoneType_bytes;wp_walk;exact⟨_,rfl,h⟩
theorem FY(b:Array UInt8)(t:Tok)(x:Str)(u:Tok):Gives (Builtin.«bytes.__eq__» ⟨[.bytes b t,.str x u],[]⟩) (.val .notImplemented):=
 .of_wp λ xc A E s Q h=>by obtain⟨hp,g,d,tk,os⟩:=s;obtain f:=rI;wp_walk;exact⟨_,rfl,h⟩
theorem Gh(b:Array UInt8)(t:Tok)(x:Str)(u:Tok):Gives (Builtin.«str.__eq__» ⟨[.str x u,.bytes b t],[]⟩) (.val .notImplemented):=
 .of_wp λ xc A E s Q h=>by obtain⟨hp,g,d,tk,os⟩:=s;obtain f:=rJ;wp_walk;exact⟨_,rfl,h⟩
theorem Fa(b:Array UInt8)(t:Tok):Gives (Builtin.«NoneType.__eq__» ⟨[.none,.bytes b t],[]⟩) (.val .notImplemented):=
 .of_wp λ xc A E s Q h=>by obtain⟨hp,g,d,tk,os⟩:=s;wp_walk;exact⟨_,rfl,h⟩
theorem FP(b:Array UInt8)(t:Tok)(x:Str)(u:Tok):Gives (Builtin.«bytes.__ne__» ⟨[.bytes b t,.str x u],[]⟩) (.val .notImplemented):=
 .of_wp λ xc A E s Q h=>by obtain⟨hp,g,d,tk,os⟩:=s;obtain f:=rI;wp_walk;exact⟨_,rfl,h⟩
theorem FM(b:Array UInt8)(t:Tok)(x:Str)(u:Tok):Gives (Builtin.«str.__ne__» ⟨[.str x u,.bytes b t],[]⟩) (.val .notImplemented):=
 .of_wp λ xc A E s Q h=>by obtain⟨hp,g,d,tk,os⟩:=s;obtain f:=rJ;wp_walk;exact⟨_,rfl,h⟩
theorem IA{b:Array UInt8}{t:Tok}(h:Q (.bool false) s):wpAny (model prog w) A (compareOp .Eq (.bytes b t) .none) Q E s:=by
 show wpAny _ A (richCompare .Eq _ _) Q E s
 exact lF (k:=false) (λ s'=>jS s' b t) (λ _=>rfl) (by decide) F.sub_NoneType_bytes lI F.slot_NoneType_eq_refl rfl
  (mY lI (jS s b t) pE (oU _ _) (E7 b t)
   ⟨rfl,mY F.slot_NoneType_eq_refl rfl F.entry_NoneType_eq (F.args_NoneType_eq_2 _ _) (Fa b t) ⟨rfl,h⟩⟩)
theorem Il{b:Array UInt8}{t:Tok}(h:Q (.bool false) s):wpAny (model prog w) A (compareOp .Eq .none (.bytes b t)) Q E s:=by
 show wpAny _ A (richCompare .Eq _ _) Q E s
 exact lF (k:=false) (λ _=>rfl) (λ s'=>jS s' b t) (by decide) F.sub_bytes_NoneType F.slot_NoneType_eq lI rfl
  (mY F.slot_NoneType_eq rfl F.entry_NoneType_eq (F.args_NoneType_eq_2 _ _) (Fa b t)
   ⟨rfl,mY lI (jS s b t) pE (oU _ _) (E7 b t) ⟨rfl,h⟩⟩)
theorem Jj{b:Array UInt8}{t:Tok}{x:Str}{u:Tok}(h:Q (.bool false) s):wpAny (model prog w) A (compareOp .Eq (.bytes b t) (.str x u)) Q E s:=by
 show wpAny _ A (richCompare .Eq _ _) Q E s
 exact lF (k:=false) (λ s'=>jS s' b t) (λ s'=>nB s' x u) (by decide) rI lI F.slot_str_eq_refl rfl
  (mY lI (jS s b t) pE (oU _ _) (FY b t x u)
   ⟨rfl,mY F.slot_str_eq_refl (nB s x u) F.entry_str_eq (F.args_str_eq_2 _ _) (Gh b t x u) ⟨rfl,h⟩⟩)
theorem I8{b:Array UInt8}{t:Tok}{x:Str}{u:Tok}(h:Q (.bool false) s):wpAny (model prog w) A (compareOp .Eq (.str x u) (.bytes b t)) Q E s:=by
 show wpAny _ A (richCompare .Eq _ _) Q E s
 exact lF (k:=false) (λ s'=>nB s' x u) (λ s'=>jS s' b t) (by decide) rJ F.slot_str_eq lI rfl
  (mY F.slot_str_eq (nB s x u) F.entry_str_eq (F.args_str_eq_2 _ _) (Gh b t x u)
   ⟨rfl,mY lI (jS s b t) pE (oU _ _) (FY b t x u) ⟨rfl,h⟩⟩)
theorem JT{b:Array UInt8}{t:Tok}{x:Str}{u:Tok}(h:Q (.bool true) s):wpAny (model prog w) A (compareOp .NotEq (.bytes b t) (.str x u)) Q E s:=by
 exact pG (k:=false) (λ s'=>jS s' b t) (λ s'=>nB s' x u) (by decide) rI pW F.slot_str_ne_refl rfl
  (mY pW (jS s b t) W.FB.entry_bytes_ne (W.FB.args_bytes_ne_2 _ _) (FP b t x u)
   ⟨rfl,mY F.slot_str_ne_refl (nB s x u) F.entry_str_ne (F.args_str_ne_2 _ _) (FM b t x u) ⟨rfl,h⟩⟩)
theorem JI{b:Array UInt8}{t:Tok}{x:Str}{u:Tok}(h:Q (.bool true) s):wpAny (model prog w) A (compareOp .NotEq (.str x u) (.bytes b t)) Q E s:=by
 exact pG (k:=false) (λ s'=>nB s' x u) (λ s'=>jS s' b t) (by decide) rJ F.slot_str_ne pW rfl
  (mY F.slot_str_ne (nB s x u) F.entry_str_ne (F.args_str_ne_2 _ _) (FM b t x u)
   ⟨rfl,mY pW (jS s b t) W.FB.entry_bytes_ne (W.FB.args_bytes_ne_2 _ _) (FP b t x u) ⟨rfl,h⟩⟩)
theorem G8(l b:Addr)(items a8:Array Value)(n n2:Nat)(dd cQ:Option Addr)(sl cM:Array (Option Value))(hc0:(items.size != a8.size)=true) :
  Meets (Builtin.«list.__ne__» ⟨[.ref l,.ref b],[]⟩)
   (λ _ R s=>s.heap.get? l=some {cls:=.type "list",dict:=dd,data:=.seq items n,slots:=sl}/\s.heap.get? b=some {cls:=.type "list",dict:=cQ,data:=.seq a8 n2,slots:=cM} /\
    R (.ok (.ret (.bool true))) s):=
 .of_wp λ prog w A R s h=>by
  obtain⟨hp,g,d,tk,os⟩:=s;obtain⟨hl,hb,h⟩:=h
  obtain f3:=tV
  wp_walk using o6 hl,o6 hb
  exact⟨_,rfl,h⟩
theorem G6{l b:Addr}{items a8:Array Value}(hl:s.heap.IsList l items)(hb:s.heap.IsList b a8)(aB:(items.size != a8.size)=true)(hu:A.units < cLine)
  (h:Q (.bool true) s):wpAny (model prog w) A (compareOp .NotEq (.ref l) (.ref b)) Q E s:=by
 refine AK λ Z zk=>Cp (id hl) λ aa ho hc n hd=>?_;obtain⟨cls,dd,data,sl⟩:=aa
 refine Cp (id hb) λ aa av cm n2 aA=>?_;obtain⟨eA,cQ,data2,cM⟩:=aa
 refine zk ?_
 simp only at hc hd cm aA
 subst hc hd cm aA
 exact richCompare_meets_room (op:=.NotEq) ⟨_,ho,rfl⟩ ⟨_,av,rfl⟩ F.slot_list_ne F.entry_list_ne (F.args_list_ne_2 _ _) (G8 l b items a8 n n2 dd cQ sl cM aB)
  ⟨ho,av,show Value.bool true≠uU/\Q (.bool true) s from ⟨(λ x=>(nc nG x (.refl false))),h⟩⟩ hu
theorem Jf(l b:Addr)(n n2:Nat)(dd cQ:Option Addr)(sl cM:Array (Option Value)) :
  Meets (Builtin.«list.__ne__» ⟨[.ref l,.ref b],[]⟩)
   (λ _ R s=>s.heap.get? l=some {cls:=.type "list",dict:=dd,data:=.seq #[] n,slots:=sl}/\s.heap.get? b=some {cls:=.type "list",dict:=cQ,data:=.seq #[] n2,slots:=cM} /\
    R (.ok (.ret (.bool false))) s):=by
 intro prog w A R s h
 obtain⟨hp,g,d,tk,os⟩:=s;obtain⟨hl,hb,h⟩:=h
 obtain f3:=tV
 wp_walk using o6 hl,o6 hb
 refine⟨tD qW _,uA PySem.MeetsSeq3.entry_eq_loop ?_⟩
 erw[r7 qW _]
 wp_walk using o6 hl,o6 hb
 exact h
theorem JS{l b:Addr}(hl:s.heap.IsList l #[])(hb:s.heap.IsList b #[])(hu:A.units < cLine)
  (h:Q (.bool false) s):wpAny (model prog w) A (compareOp .NotEq (.ref l) (.ref b)) Q E s:=by
 refine AK λ Z zk=>Cp (id hl) λ aa ho hc n hd=>?_;obtain⟨cls,dd,data,sl⟩:=aa
 refine Cp (id hb) λ aa av cm n2 aA=>?_;obtain⟨eA,cQ,data2,cM⟩:=aa
 refine zk ?_
 simp only at hc hd cm aA
 subst hc hd cm aA
 exact richCompare_meets_room (op:=.NotEq) ⟨_,ho,rfl⟩ ⟨_,av,rfl⟩ F.slot_list_ne F.entry_list_ne (F.args_list_ne_2 _ _) (Jf l b n n2 dd cQ sl cM)
  ⟨ho,av,show Value.bool false≠uU/\Q (.bool false) s from ⟨(λ x=>(nc nG x (.refl false))),h⟩⟩ hu
theorem Ji{l b:Addr}(hl:s.heap.IsList l #[])(hb:s.heap.IsList b #[])(hu:A.units < cLine)
  (h:Q (.bool true) s):wpAny (model prog w) A (compareOp .Eq (.ref l) (.ref b)) Q E s:=
 SeqAt.eq_listAt (e:=λ _=>true) hl hb rfl hu (λ j h1 _=>absurd h1 (u9 _)) (by simpa using h)
theorem OC(b:Array UInt8)(t:Tok)(i:Int)(u:Tok)(h0:0<=i)(h1:i < 256):Gives (Builtin.«bytes.__contains__» ⟨[.bytes b t,.int i u],[]⟩) (.val (.bool (b.contains i.toNat.toUInt8))):=by
 refine .of_wp λ xc A E s Q hq=>?_
 show wpAny xc A (Builtin.Bytes.containsIn "bytes.__contains__" (.bytes b t) (.int i u) >>= λ r=>_) _ E s
 refine i5 (i5 (wpAny_attempt (qI (rfl:asIndex (.int i u)=pure i) ?_)))
 refine i5 (qI W.KBy.buffer_eq ?_)
 have hc:(decide (i < 0)||decide (i >= 256))=false:=by simp;exact⟨h0,h1⟩
 show wpAny xc A (if (decide (i < 0)||decide (i >= 256))=true then _ else _) _ E s
 exact rwE hc (iI (iI ⟨_,rfl,hq⟩))
end
theorem PN(a b:List Nat):((⟨a.toArray⟩:Str)==⟨b.toArray⟩)=decide (a=b):=by
 by_cases q:a=b
 ·erw[q];simp
 ·have:¬ ((⟨a.toArray⟩:Str)=⟨b.toArray⟩):=λ z=>q (by injection z with z;simpa using z)
  simp[q,this]
theorem FE:∀ l:List Nat,(∀ n∈l,n < 256)->(l.map j2).map UInt8.toNat=l
 | [],_=>rfl
 | c::l,hl=>by
  rw[iW,iW,FE l λ n hn=>hl n (i9 _ hn),pX,m7 (hl c i8)]
theorem MS{a b:List Nat}(h1:∀ n∈a,n < 256)(h2:∀ n∈b,n < 256):((a.map j2).toArray.toList==(b.map j2).toArray.toList)=decide (a=b):=by
 erw[List.toList_toArray,List.toList_toArray]
 by_cases q:a=b
 ·erw[q];simp
 ·have:¬ (a.map j2=b.map j2):=λ z=>q (by(refine rwS (FE a h1) (rwS (FE b h2) ?_);exact rwE z rfl))
  simp[q,this]
theorem RS(p q:Nat):(!decide ((⟨[q].toArray⟩:Str).cps.toList < (⟨[p].toArray⟩:Str).cps.toList))=decide (p<=q):=by
 have:([q] < [p])↔¬ p<=q:=by refine Gu List.cons_lt_cons_iff ?_;simp
 (rw[decide_eq_decide.mpr this];exact rwE decide_not (Bool.not_not ..))
section
variable {fr:List Addr}
variable {E:Value->Shared->Prop}
theorem NM{sx:List Nat}{vs:List V}:∀ {xs:List Value} {b:Bool},AF w P g vs xs->UJ vs sx=some b->∃ ys:List Str,StrsAre xs ys/\(ys.any (·==(⟨sx.toArray⟩:Str)))=b:=by
 induction vs with
 | nil=>intro xs b r e;cases r;(obtain e:=hG e;subst e);exact⟨[],.nil,rfl⟩
 | cons v vs ih=>
  intro xs b r e
  refine AK λ Z zk=>Ag e λ t h1 e=>AY e λ c hc e0=>?_;subst e0
  refine zk ?_
  (first | (obtain rfl:=V.str?_some h1) | cases V.str?_some h1)
  refine AK λ Z zk=>?_
  cases r with | cons a r=>
  refine exE2 (ih r hc) λ ys h1 h2=>?_
  cases a
  refine zk ⟨⟨t.toArray⟩::ys,.cons _ _ h1,?_⟩
  (refine i7 nH (rwE h2 ?_);erw[PN t sx];rw[decide_eq_decide.mpr eq_comm])
theorem Ox{i:Int}{vs:List V}:∀ {xs:List Value} {b:Bool},AF w P g vs xs->Uq vs i=some b->∃ ys:List Int,IntsAre xs ys/\(ys.any (·==i))=b:=by
 induction vs with
 | nil=>intro xs b r e;cases r;(obtain e:=hG e;subst e);exact⟨[],.nil,rfl⟩
 | cons v vs ih=>
  intro xs b r e
  refine AK λ Z zk=>Ag e λ t h1 e=>AY e λ c hc e0=>?_;subst e0
  refine zk ?_
  (first | (obtain rfl:=V.int?_some h1) | cases V.int?_some h1)
  refine AK λ Z zk=>?_
  cases r with | cons a r=>
  refine exE2 (ih r hc) λ ys h1 h2=>?_
  cases a
  refine zk ⟨t::ys,.cons _ _ h1,?_⟩
  (refine i7 nH (rwE h2 ?_);erw[show(t==i)=decide (t=i) from rfl];rw[decide_eq_decide.mpr eq_comm])
theorem Dh:∀ {ak:List (Int×Int)} {kvs':List (Int×Value)},Bs ak kvs'->∀ i:Int,match BL ak i with
  | some v=>∃ t,valueAt kvs' i=some (.int v t)
  | none=>valueAt kvs' i=none
 | [],[],_,i=>rfl
 | (k,v)::r,(k',x)::r',⟨hk,hx,hr⟩,i=>by
  subst hk
  obtain ih:=Dh hr i
  simp only[BL,valueAt,pY]at ih ⊢
  by_cases q:i=k
  ·refine rwS q ?_
   obtain⟨t,rfl⟩:=hx
   simp
  ·have:¬ k=i:=λ z=>q z.symm
   simp only[q,this,decide_false]
   exact ih
 | [],_::_,h,_=>h.elim
 | _::_,[],h,_=>h.elim
theorem Op(ak:List (Int×Int))(i:Int):(ak.any λ p=>decide (i=p.1))=(BL ak i).isSome:=by
 induction ak with
 | nil=>rfl
 | cons p r ih=>
  simp only[nH,BL,pY]at ih ⊢
  by_cases q:i=p.1
  ·simp[q]
  ·simp[q,ih]
theorem Od(b:List Nat)(hb:∀ n∈b,n < 256)(i:Int)(h0:0<=i)(h1:i < 256):((b.map j2).toArray.contains i.toNat.toUInt8)=b.any λ c=>decide (i=(c:Int)):=by
 refine i7 List.contains_toArray ?_
 induction b with
 | nil=>rfl
 | cons c r ih=>
  (refine rwE iW (i7 lA ?_);erw[nH,ih λ n hn=>hb n (i9 _ hn)])
  congr 1
  obtain hc:=hb c i8
  (refine uB Bool.eq_iff_iff (Gu beq_iff_eq ?_);erw[decide_eq_true_eq])
  constructor
  ·intro e
   obtain this:=congrArg UInt8.toNat e
   simp[pX]at this
   exact(pH h0).symm.trans (congrArg uP ((m7 ((nY h0).mpr h1)).symm.trans (this.trans (m7 hc))))
  ·intro e
   erw[e]
   rfl
structure Xv(w:World)(A:Around)(E:Value->Shared->Prop)(s:Shared)(non:Bool)(c:Bool)(x y:Value):Prop where
 eq:∀ {Q:Value->Shared->Prop},Q (.bool c) s->wpAny (model prog w) A (compareOp .Eq x y) Q E s
 ne:non=false->∀ {Q:Value->Shared->Prop},Q (.bool !c) s->wpAny (model prog w) A (compareOp .NotEq x y) Q E s
theorem Pl{a b:List V}{x y:Value}(hu:A.units < cLine)(ha:Vw w P g s.heap (.lst a) x)(hb:Vw w P g s.heap (.lst b) y)(e:b.isEmpty=true):Xv w A E s false a.isEmpty x y:=by
 (first | (obtain rfl:=isEmpty_is e) | cases isEmpty_is e)
 obtain⟨l,items,rfl,hl,r1,_⟩:=ha
 obtain⟨m,a8,rfl,hm,r2,_⟩:=hb
 have e2:a8=#[]:=by simpa using r2.length
 subst e2
 cases a with
 | nil=>
  have e1:items=#[]:=by simpa using r1.length
  subst e1
  exact⟨λ ok=>Ji hl hm hu ok,λ _ _ ok=>JS hl hm hu ok⟩
 | cons v vs=>
  have hs:(items.size != (#[]:Array Value).size)=true:=by
   have:=r1.length
   simp only[lQ,i6]at this
   simp[this]
  exact⟨λ ok=>SeqAt.eq_list_lengthsAt hl hm hs hu ok,λ _ _ ok=>G6 hl hm hs hu ok⟩
theorem Mw{a b:V}{c:Bool}{x y:Value}(hu:A.units < cLine)(ha:Vw w P g s.heap a x)(hb:Vw w P g s.heap b y)(e:UT a b=some c):Xv w A E s (a.isNone||b.isNone) c x y:=by
 cases a with
 | int i=>
  refine AY e λ j h e0=>rwS e0 ?_
  (first | (obtain rfl:=V.int?_some h) | cases V.int?_some h)
  obtain⟨t,rfl⟩:=ha.int;obtain⟨u,rfl⟩:=hb.int
  exact⟨λ ok=>PySem.P.eq_int ok,λ _ _ ok=>PySem.P.ne_int ok⟩
 | str i=>
  refine A9 ha.str λ t aa au=>rwE aa ?_;have _:=au
  cases b with
  | str j=>
   refine A9 hb.str λ u aa au=>rwE aa ?_;have _:=au
   (obtain e:=hG e;subst e)
   exact⟨λ ok=>PyProof.Rows.eq_str (by erw[PN];exact ok),λ _ _ ok=>PyProof.Rows.ne_str (by(rw[bne];erw[PN]);exact ok)⟩
  | bytes j=>
   refine A9 hb.bytes λ u aa _=>?_;subst aa
   (obtain e:=hG e;subst e)
   exact⟨I8,λ _ _=>JI⟩
  | _=>exact none_some e
 | bytes i=>
  refine BG ha.bytes λ t aa h1 _=>rwE aa ?_
  cases b with
  | bytes j=>
   refine BG hb.bytes λ u aa h2 _=>rwE aa ?_
   (obtain e:=hG e;subst e)
   exact⟨λ ok=>W.eq_bytes (by erw[MS h1 h2];exact ok),λ _ _ ok=>W.ne_bytes (by(rw[bne];erw[MS h1 h2]);exact ok)⟩
  | str j=>
   refine A9 hb.str λ u aa _=>rwE aa ?_
   (obtain e:=hG e;subst e)
   exact⟨Jj,λ _ _=>JT⟩
  | none=>
   cases hb.none;(obtain e:=hG e;subst e)
   exact⟨IA,λ q=>(nc j9 q (.refl false))⟩
  | _=>exact none_some e
 | lst l=>
  refine Ag e λ m h e=>Cb e λ hs aa=>rwS aa ?_
  (first | (obtain rfl:=V.lst?_some h) | cases V.lst?_some h)
  exact Pl hu ha hb hs
 | none=>
  cases ha.none
  cases b with
  | none=>cases hb.none;(obtain e:=hG e;subst e);exact⟨EqNone.eq_none_none,λ q=>(nc j9 q (.refl false))⟩
  | bytes j=>obtain⟨u,rfl,_⟩:=hb.bytes;(obtain e:=hG e;subst e);exact⟨Il,λ q=>(nc j9 q (.refl false))⟩
  | _=>exact none_some e
 | _=>exact none_some e
theorem MY{a b:V}{c:Bool}{x y:Value}{Q:Value->Shared->Prop}(u:Sub g s.heap)(ha:Vw w P g s.heap a x)(hb:Vw w P g s.heap b y)(e:VJ a b=some c) :
  (Q (.bool c) s->wpAny (model prog w) A (compareOp .Is x y) Q E s)/\(Q (.bool !c) s->wpAny (model prog w) A (compareOp .IsNot x y) Q E s):=by
 refine KW e λ h e=>?_
 (first | (obtain rfl:=V.isNone_is h) | cases V.isNone_is h)
 cases hb.none
 cases a with
 | none=>cases ha.none;(obtain e:=hG e;subst e);exact⟨is_none_none,isnot_none_none⟩
 | bytes i=>obtain⟨u,rfl,_⟩:=ha.bytes;(obtain e:=hG e;subst e);exact⟨is_bytes_none,isnot_bytes_none⟩
 | tup i=>obtain⟨_,_,rfl,_⟩:=ha.tup u;(obtain e:=hG e;subst e);exact⟨is_ref_none,isnot_ref_none⟩
 | _=>exact none_some e
theorem Kc{a:V}{vs:List V}{c:Bool}{x y:Value}{Q:Value->Shared->Prop}(u:Sub g s.heap)(ha:Vw w P g s.heap a x)(hb:Vw w P g s.heap (.tup vs) y)(e:Rx a vs=some c) :
  (Q (.bool c) s->wpAny (model prog w) A (compareOp .In x y) Q E s)/\(Q (.bool !c) s->wpAny (model prog w) A (compareOp .NotIn x y) Q E s):=by
 refine A7 (hb.tup u) λ a' items aa ht r _=>rwE aa ?_
 cases a with
 | str i=>
  refine A9 ha.str λ t aa _=>rwE aa (A9 (NM r e) λ ys h1 aa=>?_);subst aa
  exact⟨in_tuple_strs ht h1,notin_tuple_strs ht h1⟩
 | int i=>
  refine qE ha.int λ t aa=>rwE aa ?_
  refine A9 (Ox r e) λ ys h1 aa=>rwS aa ?_
  exact⟨in_tuple_ints ht h1,notin_tuple_ints ht h1⟩
 | _=>exact none_some e
theorem SU{a b:V}{c:Bool}{x y:Value}{Q:Value->Shared->Prop}(u:Sub g s.heap)(ha:Vw w P g s.heap a x)(hb:Vw w P g s.heap b y)(e:XN a b=some c)(ok:∀ t,Q (.bool c) {s with toks:=t}) :
  wpAny (model prog w) A (compareOp .In x y) Q E s:=by
 cases b with
 | tup vs=>exact(Kc u ha hb e).1 (ok s.toks)
 | bytes b=>
  refine Ag e λ i h e=>Cb e λ hs aa=>?_;subst aa
  (first | (obtain rfl:=V.int?_some h) | cases V.int?_some h)
  obtain⟨t,rfl⟩:=ha.int;obtain⟨u,rfl,dj,_⟩:=hb.bytes
  exact in_gives (jS s _ u) W.FB.slot_bytes_contains W.FB.entry_bytes_contains (W.FB.args_bytes_contains_2 _ _) (OC _ u _ t hs.1 hs.2) (rwE (Od _ dj _ hs.1 hs.2) (ok s.toks))
 | str sx=>
  refine Ag e λ t h e=>AY e λ k h2 e0=>?_;subst e0
  (first | (obtain rfl:=V.str?_some h) | cases V.str?_some h);(first | (obtain rfl:=one?_some h2) | cases one?_some h2)
  obtain⟨t,rfl,_⟩:=ha.str;obtain⟨u,rfl,_⟩:=hb.str
  refine PySem.P.in_str ?_
  erw[StrLaws.found_one]
  exact ok s.toks
 | idict ak=>
  refine AY e λ i h e0=>?_;subst e0
  (first | (obtain rfl:=V.int?_some h) | cases V.int?_some h)
  obtain⟨t,rfl⟩:=ha.int;obtain⟨a',kvs',rfl,hd,ip,lo⟩:=hb.idict u
  refine wpAny_in_of (intKind_is prog w _ t) lo hd.mapOf ?_
  obtain this:=Dh ip i
  replace ok:=(Op ..)▸ok
  cases q:BL ak i with
  | none=>(replace this:=q▸this;replace ok:=q▸ok);dsimp only at this;erw[this];exact ok _
  | some v=>rw[q]at this ok;obtain⟨t',h'⟩:=this;erw[h'];exact ok _
 | _=>exact none_some e
theorem Dj{op:CmpOp}{a b:V}{c:Bool}{x y:Value}(H:AP w P fr g O s)(hu:A.units < cLine)(ha:Vw w P g s.heap a x)(hb:Vw w P g s.heap b y)(e:CK op a b=some c) :
  wpAny (model prog w) A (compareOp op x y) (OpQ w P fr g O s (.bool c,.val)) E s:=by
 have gW:∀ t,OpQ w P fr g O s (.bool c,.val) (.bool c) {s with toks:=t}:=λ t=>OpQ.flat H (.bool c)
 have ok:OpQ w P fr g O s (.bool c,.val) (.bool c) s:=gW s.toks
 generalize OpQ w P fr g O s (.bool c,.val)=Q at ok gW
 cases op with
 | Eq=>exact(Mw hu ha hb e).eq ok
 | NotEq=>
  cases hn:a.isNone||b.isNone with
  | true=>unfold CK at e;replace e:=hn▸e;exact none_some e
  | false=>
   unfold CK at e;replace e:=hn▸e
   refine AY e λ c' e' e0=>?_;subst e0
   exact(Mw hu ha hb e').ne hn ok
 | Lt=>replace e:=Bc ha hb e;clear ha hb;obtain⟨i,j,t,u,rfl,rfl,e⟩:=e;(obtain e:=hG e;subst e);exact PySem.P.lt_int ok
 | Gt=>replace e:=Bc ha hb e;clear ha hb;obtain⟨i,j,t,u,rfl,rfl,e⟩:=e;(obtain e:=hG e;subst e);exact PySem.P.gt_int ok
 | GtE=>replace e:=Bc ha hb e;clear ha hb;obtain⟨i,j,t,u,rfl,rfl,e⟩:=e;(obtain e:=hG e;subst e);exact PySem.P.ge_int ok
 | LtE=>
  cases a with
  | int i=>
   refine AY e λ j h e0=>?_;subst e0
   (first | (obtain rfl:=V.int?_some h) | cases V.int?_some h)
   obtain⟨t,rfl⟩:=ha.int;obtain⟨u,rfl⟩:=hb.int
   exact PySem.P.le_int ok
  | str i=>
   refine Ag e λ j h e=>Ag e λ p h1 e=>AY e λ q h2 e0=>?_;subst e0
   (first | (obtain rfl:=V.str?_some h) | cases V.str?_some h);(first | (obtain rfl:=one?_some h1) | cases one?_some h1);(first | (obtain rfl:=one?_some h2) | cases one?_some h2)
   obtain⟨t,rfl,_⟩:=ha.str;obtain⟨u,rfl,_⟩:=hb.str
   exact PySem.P.le_str (by erw[RS];exact ok)
  | _=>exact none_some e
 | Is=>exact(MY H.sub ha hb e).1 ok
 | IsNot=>obtain⟨c',e',rfl⟩:=Bq e;exact(MY H.sub ha hb e').2 ok
 | In=>exact SU H.sub ha hb e gW
 | NotIn=>
  refine Ag e λ vs h e=>AY e λ c' e' e0=>?_;subst e0
  (first | (obtain rfl:=V.tup?_some h) | cases V.tup?_some h)
  exact(Kc H.sub ha hb e').2 ok
end
theorem AU{slice:hJ}(h:DK slice=true)(o i:Value):subscripted slice false o i=operate [o,i] (getItem o i):=by
 cases slice <;> first | rfl | exact fls h
theorem I5(value:hJ)(x:Str)(t:Tok)(r:Value):letTemporaryGo value (.str x t) r=pure ():=by cases value <;> rfl
theorem EC(lo hi:Int):sliceRange lo hi 1=(jE (hi - lo).toNat).map fun(k:Nat)=>(lo+k).toNat:=by
 unfold sliceRange
 by_cases h:lo < hi
 ·have e:hi - lo+1 - 1=hi - lo:=by exact Int.add_sub_cancel ..
  simp[h,e]
 ·have e:(hi - lo).toNat=0:=by exact rK (Int.sub_nonpos_of_le ((lY).mp h))
  simp[h,e]
theorem LM{α:Type}(l:List α):∀ (n lo:Nat),lo+n<=l.length->((jE n).map λ k=>lo+k).filterMap (l[·]?)=(l.take (lo+n)).drop lo:=by
 intro n
 induction n with
 | zero=>intro lo _;simp
 | succ n ih=>
  intro lo h
  (erw[nC,k8];refine i7 List.filterMap_append (rwE (ih lo (jB (by assumption))) ?_))
  obtain hl:lo+n < l.length:=by assumption
  obtain e:l.take (lo+(n+1))=l.take (lo+n)++[l[lo+n]]:=by
   refine rwE (show lo+(n+1)=(lo+n)+1 from rfl) (i7 oG ?_)
   simp[hl]
  erw[e,qX (by refine rwE iY ?_;exact Nat.le_min.mpr ⟨jF _ _,hZ (jF _ _) (jB hl)⟩)]
  simp[hl]
theorem Na(n:Nat)(i:Int):max 0 (min (if i < 0 then i+n else i) (n:Int))=((clampOf n i:Nat):Int):=by
 unfold clampOf
 by_cases h:i < 0
 ·have:i+(n:Int)<=n:=by obtain this:=oV (rX h) (n:Int);rwa [Int.zero_add]at this
  (erw[if_pos h,if_pos h];erw[Int.toNat_eq_max,Int.min_eq_left this];exact(Int.max_comm ..))
 ·have h:=(lY).mp h
  (erw[if_neg ((lY).mpr h),if_neg ((lY).mpr h)];refine i7 (Int.max_eq_right (Int.le_min.mpr ⟨h,iV n⟩)) ?_)
  refine qE (pZ h) λ k aa=>rwE aa (rwE (iZ ..) ?_)
  by_cases q:k<=n
  ·exact i7 (Int.min_eq_left ((kC).mpr q)) (rwE (kO q) rfl)
  ·obtain q:=jQ q
   exact i7 (Int.min_eq_right ((kC).mpr q)) (rwE (kU q) rfl)
theorem HZ(n:Nat)(i:Int):clampOf n i<=n:=by
 unfold clampOf
 by_cases h:i < 0
 ·exact rwE (if_pos h) ((u7).mpr (jG (oV (rX h) _) (Int.le_of_eq (Int.zero_add _))))
 ·exact rwE (if_neg h) (nM _ _)
theorem D9(n:Nat)(lo hi:Option Int):(sliceBounds lo hi none n).1=((loOf n lo:Nat):Int)/\(sliceBounds lo hi none n).2.1=((hiOf n hi:Nat):Int)/\hiOf n hi<=n/\loOf n lo<=n:=by
 refine GL ?_ ?_ ?_ ?_
 ·cases lo with
  | none=>rfl
  | some i=>exact Na n i
 ·cases hi with
  | none=>rfl
  | some i=>exact Na n i
 ·cases hi with
  | none=>exact j3 _
  | some i=>exact HZ n i
 ·cases lo with
  | none=>exact kA _
  | some i=>exact HZ n i
theorem Ov{α:Type}(l:List α)(a b:Nat)(hb:b<=l.length):((sliceRange a b 1).filterMap (l[·]?))=(l.take b).drop a:=by
 erw[EC]
 by_cases h:a<=b
 ·obtain this:=LM l (b - a) a (by erw[rL h];exact hb)
  rw[rL h]at this
  refine rwE (show((b:Int) - (a:Int)).toNat=b - a from v6 b a) (rwS this ?_)
  rfl
 ·erw[show((b:Int) - (a:Int)).toNat=b - a from v6 b a,qP (jQ h)]
  rw[l4]
  ·rfl
  ·exact rwE iY (hZ (nE _ _) (jQ h))
theorem Fw{α:Type}(l:List α)(lo hi:Option Int) :
  ((sliceRange (sliceBounds lo hi none l.length).1 (sliceBounds lo hi none l.length).2.1 1).filterMap (l[·]?))=Au l lo hi:=by
 refine GV (D9 l.length lo hi) λ b1 b2 b3 _=>rwE b1 (rwE b2 ?_)
 exact Ov l _ _ b3
theorem Kb{α β:Type}(f:α->β)(l:List α)(lo hi:Option Int):Au (l.map f) lo hi=(Au l lo hi).map f:=by
 simp[Au,List.map_drop,tE]
theorem Dr{α:Type}(l:List α)(lo hi:Option Int):(Au l lo hi).length<=l.length:=by
 simp only[Au,jA,iY];exact sL (nM _ _)
theorem Kw{α:Type}{l:List α}{lo hi:Option Int}{x:α}(h:x∈Au l lo hi):x∈l:=jW (k9 h)
section
variable {fr:List Addr}
variable {E:Value->Shared->Prop}
theorem AF.slice{vs:List V}{xs:List Value}(r:AF w P g vs xs)(lo hi:Option Int):AF w P g (Au vs lo hi) (Au xs lo hi):=by
 unfold Au
 exact rwE r.length ((r.take _).drop _)
theorem F8{k:Int}{n:Nat}(h0:0<=k)(h:k.toNat < n):seqIndex? k n=some k.toNat:=by
 simp[seqIndex?,h0];(rw[if_neg ((lY).mpr h0)];exact⟨⟨h0,(nY h0).mp h⟩,rfl⟩)
theorem LS{a c:V}{k:Int}{t:Tok}{x:Value}{value slice:hJ}(H:AP w P fr g O s)(ns:DK slice=true)(ha:Vw w P g s.heap a x)(e:Bg a k=some c) :
  wpAny (model prog w) A (subscriptTail value slice x (.int k t)) (OpQ w P fr g O s (c,.val)) E s:=by
 cases a with
 | lst vs=>
  refine AK λ Z zk=>A7 ha λ l items aa hl r len=>?_;subst aa
  refine Ag e λ j hj hc=>exE2 (r.get hc) λ y hy ry=>?_
  clear e hc
  obtain dC:items[j]?=some y:=by exact rwS hy (rwE lW rfl)
  have aB:items.size=vs.length:=r.length
  have eU:vs.length<=16777216:=len
  refine zk (tH hl.typeIs (sS).lookup ?_ (AU ns _ _))
  unfold UG at hj
  by_cases h0:0<=k
  ·rw[if_pos h0]at hj
   refine Cb hj λ h1 aa=>?_;subst aa
   exact wpAny_getItem_list hl h0 (nU h1 (jG ((kC).mpr eU) (by decide))) dC (iEA g H.refl ry)
  ·rw[if_neg h0]at hj
   refine Cb hj λ h1 aa=>?_;subst aa
   exact wpAny_getItem_list_neg hl (Int.not_le.mp h0) (by lia) (by lia) (by erw[aB];exact dC) (iEA g H.refl ry)
 | tup vs=>
  refine AK λ Z zk=>A7 (ha.tup H.sub) λ l items aa hl r len=>?_;subst aa
  refine KW e λ h0 e=>exE2 (r.get e) λ y hy ry=>?_
  have dC:items[k.toNat]?=some y:=by exact rwS hy (rwE lW rfl)
  have aB:=r.length
  have eU:=len
  obtain aH:=((kJ).mp e).1
  refine zk (tH (Heap.IsTuple.typeIs hl) slot_tuple_getitem.lookup ?_ (AU ns _ _))
  exact getItem_tuple hl (jG (by decide) h0) (iU h0 aH len (by decide)) (j:=k.toNat) (F8 h0 (Nat.lt_of_lt_of_eq aH aB.symm)) dC (iEA g H.refl ry)
 | str vs=>
  refine AK λ Z zk=>A9 ha.str λ u aa au=>?_;subst aa;have len:=au
  refine KW e λ h0 e=>AY e λ n hn e0=>?_;subst e0
  have eU:=len
  obtain aH:=((kJ).mp hn).1
  obtain hca:Txt.charAt ⟨vs.toArray⟩ k=some n:=by
   show(seqIndex? k (⟨vs.toArray⟩:Str).length).bind ((⟨vs.toArray⟩:Str).cps[·]?)=some n
   erw[show(⟨vs.toArray⟩:Str).length=vs.length from rfl,F8 h0 aH]
   (refine i7 (kN ..) (rwS hn ?_);exact n6)
  refine zk (lJ (ops:=[_,_]) ?_ (AU ns _ _) (I5 _ _ _))
  refine SB.item (by simp[fitsSsize];exact iN h0 aH au (by decide)) (by erw[hca];rfl) ?_
  have e1:Txt.item ⟨vs.toArray⟩ k=⟨[n].toArray⟩:=by
   show(⟨#[(Txt.charAt ⟨vs.toArray⟩ k).getD 0]⟩:Str)=_
   erw[hca];rfl
  exact rwE e1 (OpQ.flat H (.str [n] _ (by show 1<=16777216;decide)))
 | bytes vs=>
  refine AK λ Z zk=>BG ha.bytes λ u aa hb len=>?_;subst aa
  refine KW e λ h0 e=>AY e λ n hn e0=>?_;subst e0
  have eU:=len
  have aH:=((kJ).mp hn).1
  refine zk (tH (jS s _ u) (nI).lookup ?_ (AU ns _ _))
  refine W.getItem_bytes (by erw[iH];exact iL len) h0 (by erw[iH];exact(nY h0).mp aH) ?_
  have e1:(((vs.map j2).getD k.toNat 0).toNat:Int)=n:=by
   (rw[vC];erw[kX,hn];erw[uC,Option.getD_some];exact rwE pX (rwE (m7 (hb n (oW hn))) rfl))
  exact rwE e1 (OpQ.flat H (.int _ _))
 | idict ak=>
  refine AK λ Z zk=>A7 (ha.idict H.sub) λ l kvs' aa hd ip lo=>?_;subst aa
  refine AY e λ n hn e0=>?_;subst e0
  have:=Dh ip k
  rw[hn]at this
  refine qE this λ t' er=>zk (tH hd.typeIs slot_dict_getitem.lookup ?_ (AU ns _ _))
  exact wpAny_getItem_of (intKind_is prog w k t) hd.mapOf er (OpQ.flat H (.int _ _))
 | _=>exact none_some e
end
theorem LI(vs:List Nat)(lo hi:Option Int):Txt.slice ⟨vs.toArray⟩ lo hi=⟨(Au vs lo hi).toArray⟩:=by
 obtain e:Builtin.Str.strSliceIndices lo hi 1 (⟨vs.toArray⟩:Str).length=sliceRange (sliceBounds lo hi none vs.length).1 (sliceBounds lo hi none vs.length).2.1 1:=by
  obtain hl:(⟨vs.toArray⟩:Str).length=vs.length:=by rfl
  erw[hl];rfl
 refine GV (D9 vs.length lo hi) λ b1 b2 b3 b4=>?_
 unfold Txt.slice
 erw[e]
 split
 ·rename_i h
  simp only[beq_self_eq_true,tF,beq_iff_eq]at h
  rw[EC,iH,kY,b1,b2]at h
  obtain hl:(⟨vs.toArray⟩:Str).length=vs.length:=by rfl
  replace h:=hl▸h
  have:Au vs lo hi=vs:=by
   unfold Au
   by_cases q:vs.length=0
   ·have:vs=[]:=(tG).mp q
    erw[this];simp
   ·obtain h1:hiOf vs.length hi=vs.length:=by exact q5 b3 (hZ (j7 (h.symm.trans (v6 ..))) (sO _ _))
    obtain h2:loOf vs.length lo=0:=by lia
    erw[h1,h2];simp
  exact rwE this rfl
 ·obtain this:=Fw vs lo hi
  refine rwS this ?_
  simp
theorem My{c:Prop}[Decidable c]{X Y:Prop}(hc:c)(h:X):if c then X else Y:=by
 exact rwE (if_pos hc) h
theorem FI(b:Array UInt8)(t:Tok)(a:Addr){l u:Value}{lo hi:Option Int}(hl:IsPart l lo)(hu:IsPart u hi)(aJ:W.KBy.whole b lo hi=true) :
  Meets (Builtin.«bytes.__getitem__» ⟨[.bytes b t,.ref a],[]⟩) (λ _ R s=>s.heap.IsSliceOf a l u .none/\R (.ok (.ret (.bytes b t))) s):=by
 refine .of_wp λ prog w A R s hS=>?_
 obtain⟨⟨o,ho,hc,hd⟩,h⟩:=hS
 obtain hT:s.TypeIs (.ref a) "slice":=iEA o ho hc
 show wpAny _ _ (Builtin.Bytes.payload (.bytes b t) >>= λ r=>_) _ _ s
 refine i5 (qI (a:=b) rfl ?_)
 show wpAny _ _ (Builtin.Bytes.subscript? (.ref a) >>= λ r=>_) _ _ s
 refine i5 (i5 (wpAny_specialOf hT slice_no_index (iI ?_)))
 refine i5 (nF hT ?_)
 refine i5 (i5 (mO (x:=.none) ho hd rfl ?_))
 kby_none
 refine wpAny_ite (W.KBy.ite_no (show ¬ ((mZ==rawInt 0)=true) from iX) ?_)
 refine i5 (mO (x:=l) ho hd rfl ?_)
 obtain go:wpAny (model prog w) A.in1 (sliceIndices (rawPart lo) (rawPart hi) (rawPart none) b.size) (λ r s'=>r=sliceBounds lo hi none b.size/\s'=s) (λ _ _=>False) s:=
  qI (sliceIndices_raw lo hi none b.size (λ e=>(none_some e))) (iA rfl rfl)
 cases hl <;> cases hu <;> (first
  | (kby_none;(refine i5 (mO (x:=.none) ho hd rfl ?_));kby_none)
  | (kby_none;(refine i5 (mO (x:=.int _ _) ho hd rfl ?_));kby_int)
  | (kby_int;(refine i5 (mO (x:=.none) ho hd rfl ?_));kby_none)
  | (kby_int;(refine i5 (mO (x:=.int _ _) ho hd rfl ?_));kby_int)) <;> refine iI ?_
 all_goals
  refine i5 (iG go (λ r s' hr=>?_) λ _ _ e=>e.elim)
  clear go hT hc hd ho
  obtain⟨hr1,df⟩:=hr
  subst hr1 df
  refine wpAny_ite (My aJ ?_)
  refine i5 (nF (jS _ b t) ?_)
  refine wpAny_ite (My (beq_self_eq_true _) ?_)
  exact i5 (wpAny_rule (iI (iEA _ rfl h)))
section
variable {fr:List Addr}
variable {E:Value->Shared->Prop}
theorem subscripted_slice{l u:Option hJ}{p:Pos}(o i:Value):subscripted (.Slice l u none p) false o i=operate [i,o] (getItem o i):=rfl
theorem Kv{a c:V}{lo hi:Option Int}{vl vu x:Value}{value:hJ}{l u:Option hJ}{p:Pos}(H:AP w P fr g O s)(ha:Vw w P g s.heap a x)(e:Bo a lo hi=some c)
  (pl:IsPart vl lo) (pu:IsPart vu hi) :
  wpAny (model prog w) A (subscriptTail value (.Slice l u none p) x (.ref s.heap.objs.size)) (OpQ w P fr g O s (AI c)) E {s with heap:=s.heap.push {cls:=.type "slice",data:=.fields #[vl,vu,.none]}}:=by
 obtain hk:=Av s.heap {cls:=.type "slice",data:=.fields #[vl,vu,.none]}
 cases a with
 | lst vs=>
  (obtain e:=hG e;subst e)
  refine A7 ha λ l' items aa hl r len=>rwE aa ?_
  obtain aB:items.size=vs.length:=by simpa using r.length
  obtain bg:=hl.push {cls:=.type "slice",data:=.fields #[vl,vu,.none]}
  refine tH (Heap.IsList.typeIs (s:={s with heap:=s.heap.push _}) bg) (sS).lookup ?_ (subscripted_slice _ _)
  refine wpAny_getItem_list_slice bg (rY _ _ _ _) pl pu .none (by simp) ?_ (by erw[aB];exact len)
  refine OpQ.fresh H (λ b o e=>Av _ _ b o (hk b o e)) ?_ (iEEAAA _ _ (jC _ rfl) rfl rfl rfl) ?_ (hZ (Dr _ _ _) len)
  ·exact l9 (by erw[uV];exact m8 _)
  ·have:(slicePick items lo hi none).toList=Au items.toList lo hi:=by
    unfold slicePick
    erw[show(sliceBounds lo hi none items.size).2.2=1 from rfl]
    obtain this:=Fw items.toList lo hi
    rw[lQ]at this
    simpa using this
   exact rwE this (r.slice _ _)
 | str vs=>
  (obtain e:=hG e;subst e)
  obtain⟨u',rfl,len⟩:=ha.str
  have ai:(⟨vs.toArray⟩:Str).length<=sizeLine:=by simpa [uO,Fx]using len
  have fin:∀ h' t' k,(∀ b o,s.heap.get? b=some o->h'.get? b=some o)->OpQ w P fr g O s (AI (.str (Au vs lo hi))) (.str (Txt.slice ⟨vs.toArray⟩ lo hi) t') {s with heap:=h',toks:=k}:=λ h' t' k eS=>by
   exact rwE (LI ..) (OpQ.kept H eS (.str _ _ (hZ (Dr _ _ _) len)))
  have kh:KeptH λ h'=>∀ b o,s.heap.get? b=some o->h'.get? b=some o:=λ h ob q b o e=>Av _ _ b o (q b o e)
  have fv:∀ r,letTemporaryGo value (.str ⟨vs.toArray⟩ u') r=pure ():=I5 _ _ _
  cases pl with
  | none=>
   cases pu with
   | none=>exact lJ (SBH.sliceItem_nn kh (λ _ _ e=>e) fin ai) (subscripted_slice _ _) fv
   | int j tj=>exact lJ (SBH.sliceItem_ns kh (λ _ _ e=>e) fin ai) (subscripted_slice _ _) fv
  | int i ti=>
   cases pu with
   | none=>exact lJ (SBH.sliceItem_sn kh (λ _ _ e=>e) fin ai) (subscripted_slice _ _) fv
   | int j tj=>exact lJ (SBH.sliceItem_ss kh (λ _ _ e=>e) fin ai) (subscripted_slice _ _) fv
 | bytes vs=>
  (obtain e:=hG e;subst e)
  refine BG ha.bytes λ u' aa hb len=>?_;subst aa
  refine GV (D9 vs.length lo hi) λ b1 b2 b3 b4=>?_
  have rep:∀ t',Rep w P g (.bytes (Au vs lo hi)) (.bytes ((Au vs lo hi).map j2).toArray t'):=λ t'=>.bytes _ _ (λ n hn=>hb n (Kw hn)) (hZ (Dr _ _ _) len)
  refine tH (jS _ _ u') (nI).lookup ?_ (subscripted_slice _ _)
  cases hw:W.KBy.whole (vs.map j2).toArray lo hi with
  | false=>
   refine getItem_meets (jS _ _ _) (by decide) nI sT (sG _ _) (W.KBy.meets_slice _ u' _ pl pu hw)
    (iAA (rY _ _ _ _) ?_ ?_)
   all_goals
    obtain ep:W.KBy.picked (vs.map j2).toArray lo hi=((Au vs lo hi).map j2).toArray:=by
     unfold W.KBy.picked Builtin.Bytes.sliced
     obtain this:=Fw (vs.map j2) lo hi
     refine rwS (Kb ..) (rwS this ?_)
     simp[sliceBounds]
   ·erw[ep,mK,iH]
    exact hZ (Dr _ _ _) len
   ·exact rwE ep (OpQ.kept H hk (rep _))
  | true=>
   refine getItem_meets (jS _ _ _) (by decide) nI sT (sG _ _) (FI _ u' _ pl pu hw)
    (iA (rY _ _ _ _) ?_)
   have:Au vs lo hi=vs:=by
    unfold W.KBy.whole at hw
    simp only[mK,iH,iC,beq_iff_eq]at hw
    obtain⟨⟨⟨w1,_⟩,w2⟩,_⟩:=hw
    rw[b1]at w1
    rw[b2]at w2
    unfold Au
    obtain h1:loOf vs.length lo=0:=by exact nJ w1
    obtain h2:hiOf vs.length hi=vs.length:=by exact nJ w2
    erw[h1,h2];simp
   obtain r:=rep u'
   rw[this]at r ⊢
   exact OpQ.kept (t':=s.toks) H hk r
 | _=>exact none_some e
end
noncomputable def Dd(f:Str):Value:=if f="int" then .type "int" else if f="bytes" then .type "bytes" else if f="list" then .type "list" else if f="dict" then .type "dict" else if f="range" then .type "range" else if f="enumerate" then .type "enumerate" else .builtin f.toString
theorem insertI_perm(x:Int):∀ l:List Int,(CU x l).Perm (x::l)
 | []=>.refl _
 | y::r=>by
  rw[DZ]
  split
  ·exact .refl _
  ·exact((insertI_perm x r).cons y).trans (.swap x y r)
theorem HJ:∀ l:List Int,(Ei l).Perm l
 | []=>.refl _
 | x::r=>(insertI_perm x (Ei r)).trans ((HJ r).cons x)
theorem Ew(x:Int):∀ l:List Int,l.Pairwise (·<=·)->(CU x l).Pairwise (·<=·)
 | [],_=>by simp[Ma,DZ]
 | y::r,h=>by
  rw[DZ]
  split
  ·rename_i q
   exact (n7).mpr ⟨λ z hz=>((iJ).mp hz).elim (λ e=>e▸q) λ hz=>jG q (((n7).mp h).1 z hz),h⟩
  ·rename_i q
   refine (n7).mpr ⟨λ z hz=>?_,Ew x r ((n7).mp h).2⟩
   rcases (iJ).mp ((insertI_perm x r).mem_iff.mp hz) with rfl | hz
   ·exact rX (Int.not_le.mp q)
   ·exact((n7).mp h).1 z hz
theorem FR:∀ l:List Int,(Ei l).Pairwise (·<=·)
 | []=>by simp[Pz,Kg]
 | x::r=>Ew x _ (FR r)
theorem sortI_unique{l l':List Int}(p:l'.Perm l)(s:l'.Pairwise (·<=·)):l'=Ei l:=
 List.Perm.eq_of_pairwise (λ a b _ _ h1 h2=>uD h1 h2) s (FR l) (p.trans (HJ l).symm)
theorem Sm(r:List Int):∀ x:Int,(r.foldl (λ m y=>if y > m then y else m) x)∈x::r/\∀ a∈x::r,a<=r.foldl (λ m y=>if y > m then y else m) x:=by
 induction r with
 | nil=>intro x;simp
 | cons y r ih=>
  intro x
  erw[o5]
  obtain this:=ih (if y > x then y else x)
  refine Bv this λ h1 h2=>?_
  constructor
  ·refine jP ((iJ).mp h1) (λ e=>?_) λ e=>?_
   ·erw[e];split <;> simp
   ·simp[e]
  ·intro a ha
   obtain hx:=h2 _ i8
   refine jP ((iJ).mp ha) (λ rfl=>?_) λ ha=>?_
   ·refine jG ?_ hx;split <;> omega
   ·refine jP ((iJ).mp ha) (λ rfl=>?_) λ ha=>?_
    ·refine jG ?_ hx;split <;> omega
    ·exact h2 a (i9 _ ha)
theorem SZ(r:List Int):∀ x:Int,(r.foldl (λ m y=>if y < m then y else m) x)∈x::r/\∀ a∈x::r,r.foldl (λ m y=>if y < m then y else m) x<=a:=by
 induction r with
 | nil=>intro x;simp
 | cons y r ih=>
  intro x
  erw[o5]
  obtain this:=ih (if y < x then y else x)
  refine qA this λ h1 h2=>?_
  constructor
  ·refine jP ((iJ).mp h1) (λ e=>?_) λ e=>?_
   ·erw[e];split <;> simp
   ·simp[e]
  ·intro a ha
   obtain hx:=h2 _ i8
   refine jP ((iJ).mp ha) (λ rfl=>?_) λ ha=>?_
   ·refine jG hx ?_;split <;> omega
   ·refine jP ((iJ).mp ha) (λ rfl=>?_) λ ha=>?_
    ·refine jG hx ?_;split <;> omega
    ·exact h2 a (i9 _ ha)
section
variable {fr:List Addr}
variable {E:Value->Shared->Prop}
inductive Gi(w:World)(P:Option Addr)(g:Gs)(h:Heap):List V->List Value->Prop
 | nil:Gi w P g h [] []
 | cons {v:V} {x:Value} {vs:List V} {xs:List Value}:Vw w P g h v x->Gi w P g h vs xs->Gi w P g h (v::vs) (x::xs)
@[elab_as_elim] theorem Gi.cR{w:World}{P:Option Addr}{g:Gs}{h:Heap}{v:V}{vs:List V}{xs:List Value}{motive:List Value->Prop}(r:Gi w P g h (v::vs) xs)(k:∀ x xs,Vw w P g h v x->Gi w P g h vs xs->motive (x::xs)):motive xs:=by
 cases r with | cons a b=>exact k _ _ a b
@[elab_as_elim] theorem Gi.nR{w:World}{P:Option Addr}{g:Gs}{h:Heap}{xs:List Value}{motive:List Value->Prop}(r:Gi w P g h [] xs)(k:motive []):motive xs:=by
 cases r;exact k
theorem Fm{vs:List V}:∀ {xs:List Value} {ns:List Int},AF w P g vs xs->Ct vs=some ns->IntsAre xs ns:=by
 induction vs with
 | nil=>intro xs ns r e;cases r;(obtain e:=hG e;subst e);exact .nil
 | cons v vs ih=>
  intro xs ns r e
  refine Ag e λ i h1 e=>AY e λ l hl e0=>rwS e0 ?_
  (first | (obtain rfl:=V.int?_some h1) | cases V.int?_some h1)
  refine AK λ Z zk=>?_
  cases r with | cons a r=>
  cases a
  exact zk (.cons _ _ (ih r hl))
theorem ON{xs:List Value}{ns:List Int}(h:IntsAre xs ns):AF w P g (ns.map .int) xs:=by
 induction h with
 | nil=>exact .nil
 | cons n t r ih=>exact .cons (.int n t) ih
theorem Dx{ns:List Int}:∀ {cs:List Nat},CY ns=some cs->(∀ n∈ns,0<=n/\n < 256)/\cs=ns.map Int.toNat:=by
 induction ns with
 | nil=>intro cs e;(obtain e:=hG e;subst e);exact⟨λ _ h=>((by cases h)),rfl⟩
 | cons i r ih=>
  intro cs e
  refine KW e λ h e=>AY e λ l hl e0=>rwS e0 ?_
  obtain⟨h1,rfl⟩:=ih hl
  refine⟨λ n hn=>?_,rfl⟩
  refine jP ((iJ).mp hn) (λ q=>?_) λ q=>?_
  ·exact rwE q h
  ·exact h1 n q
theorem NY{l:Addr}{items:Array Value}{x:Int}{r:List Int}{Q:Value->Shared->Prop}(hh:A.handled=none)(hl:s.heap.IsList l items)(hi:IntsAre items.toList (x::r))
  (h:∀ h' tk t,(∀ b o,s.heap.get? b=some o->h'.get? b=some o)->Q (.int (r.foldl (λ m y=>if y > m then y else m) x) t) {s with heap:=h',toks:=tk}) :
  wpAny (model prog w) A (jH (tI "max") [lK l]) Q E s:=by
 refine qE ((show AllInts items by simpa using hi.allInts).items) λ xs aa=>?_;subst aa
 have hn:=nums_intItems xs
 replace hn:=eqL hi.numsOf hn
 have ai:xs.size=r.length+1:=by
  obtain this:=congrArg jZ hn
  simpa using this.symm
 refine max_intList hh hl (by exact rZ (by intro z;simp[z]at ai)) λ v h' tk hv hk=>qE (intItems_at hv) λ t aa=>rwE aa (Bv (argBest_gt (numAt xs) (xs.size - 1)) λ h1 h2=>?_)
 obtain e:numAt xs (argBest (λ i j=>decide (numAt xs i > numAt xs j)) (xs.size - 1))=r.foldl (λ m y=>if y > m then y else m) x:=by
  refine Bv (Sm r x) λ f1 f2=>?_
  obtain m1:numAt xs (argBest (λ i j=>decide (numAt xs i > numAt xs j)) (xs.size - 1))∈x::r:=by
   refine rwE (numAt_eq ..) (rwS hn ?_)
   exact getD_mem (by erw[i6];exact sU (hZ h1 (j7 (congrArg (· - 1) ai))))
  refine uD (f2 _ m1) (exE2 (mem_getD f1) λ j hj eQ=>?_)
  rw[hn]at eQ hj
  replace hj:=lQ▸((iH ..)▸hj)
  refine rwS eQ (rwS (numAt_eq ..) ?_)
  exact h2 j (r9 hj)
 exact rwE e (h h' tk t hk)
theorem NP{l:Addr}{items:Array Value}{x:Int}{r:List Int}{Q:Value->Shared->Prop}(hh:A.handled=none)(hl:s.heap.IsList l items)(hi:IntsAre items.toList (x::r))
  (h:∀ h' tk t,(∀ b o,s.heap.get? b=some o->h'.get? b=some o)->Q (.int (r.foldl (λ m y=>if y < m then y else m) x) t) {s with heap:=h',toks:=tk}) :
  wpAny (model prog w) A (jH (tI "min") [lK l]) Q E s:=by
 refine qE ((show AllInts items by simpa using hi.allInts).items) λ xs aa=>?_;subst aa
 have hn:=nums_intItems xs
 rw[hi.numsOf]at hn
 have ai:xs.size=r.length+1:=by
  have this:=congrArg jZ hn
  simpa using this.symm
 refine min_intList hh hl (by exact rZ (by intro z;simp[z]at ai)) λ v h' tk hv hk=>qE (intItems_at hv) λ t aa=>?_;subst aa
 refine Bv (argBest_lt (numAt xs) (xs.size - 1)) λ h1 h2=>?_
 have e:numAt xs (argBest (λ i j=>decide (numAt xs i < numAt xs j)) (xs.size - 1))=r.foldl (λ m y=>if y < m then y else m) x:=by
  refine Bv (SZ r x) λ f1 f2=>?_
  have m1:numAt xs (argBest (λ i j=>decide (numAt xs i < numAt xs j)) (xs.size - 1))∈x::r:=by
   rw[numAt_eq,<-hn]
   exact getD_mem (by rw[i6];exact sU (hZ h1 (j7 (congrArg (· - 1) ai))))
  refine uD ?_ (f2 _ m1)
  refine exE2 (mem_getD f1) λ j hj eQ=>?_
  rw[hn]at eQ hj
  rw[iH,lQ]at hj
  rw[<-eQ,<-numAt_eq]
  exact h2 j (r9 hj)
 rw[e]
 exact h h' tk t hk
theorem Oi{l:Addr}{items:Array Value}{ns:List Int}{Q:Value->Shared->Prop}(hh:A.handled=none)(hl:s.heap.IsList l items)(hi:IntsAre items.toList ns)
  (h:∀ h' tk t,(∀ b o,s.heap.get? b=some o->h'.get? b=some o)->Q (.int ns.sum t) {s with heap:=h',toks:=tk}) :
  wpAny (model prog w) A (jH (tI "sum") [lK l]) Q E s:=by
 refine qE ((show AllInts items by simpa using hi.allInts).items) λ xs aa=>?_;subst aa
 have hn:=nums_intItems xs
 replace hn:=eqL hi.numsOf hn
 refine sum_intListG hh hl λ h' tk t hk=>?_
 (refine rwE (preSum_eq ..) (rwS hn ?_);erw[kK (by refine rwE hn ?_;simp)])
 exact h h' tk t hk
theorem Gi.nil_inv{h:Heap}{xs:List Value}(r:Gi w P g h [] xs):xs=[]:=by refine r.nR ?_;rfl
theorem Gi.one{h:Heap}{a:V}{xs:List Value}(r:Gi w P g h [a] xs):∃ x,xs=[x]/\Vw w P g h a x:=by
 exact r.cR λ _ _ p q=>q.nR (iEA _ rfl p)
theorem Gi.two{h:Heap}{a b:V}{xs:List Value}(r:Gi w P g h [a,b] xs):∃ x y,xs=[x,y]/\Vw w P g h a x/\Vw w P g h b y:=by
 refine r.cR λ _ _ p q=>?_;obtain⟨y,rfl,q'⟩:=q.one;exact CL _ _ rfl p q'
theorem Gi.three{h:Heap}{a b c:V}{xs:List Value}(r:Gi w P g h [a,b,c] xs):∃ x y z,xs=[x,y,z]/\Vw w P g h a x/\Vw w P g h b y/\Vw w P g h c z:=by
 refine r.cR λ _ _ p q=>?_;obtain⟨y,z,rfl,q'⟩:=q.two;exact GE _ _ _ rfl p q'
theorem Vw.lst{h:Heap}{vs:List V}{x:Value}(v:Vw w P g h (.lst vs) x):∃ a items,x = .ref a/\h.IsList a items/\AF w P g vs items.toList/\vs.length<=Ae:=v
theorem Hm{ns:List Int}{cs:List Nat}(h:CY ns=some cs):byteArr ns=(cs.map j2).toArray/\∀ n∈cs,n < 256:=by
 refine qA (Dx h) λ h1 aa=>rwE aa ⟨by simp[byteArr],λ n hn=>?_⟩
 refine A9 ((jV).mp hn) λ i hi aa=>?_;subst aa
 obtain this:=h1 i hi;exact(nY this.1).mpr this.2
theorem Ir{h:Heap}{a:Addr}{items:Array Value}(x:h.IsTuple a items):IsTup h a items:=by
 exact Cp x λ o ho hc n hd=>EF o ho hc n hd
theorem OpQ.keptM{t':Nat}{h':Heap}{v:V}{x:Value}(H:AP w P fr g O s)(nl:v.isLst=false)(k:∀ b o,s.heap.get? b=some o->h'.get? b=some o)(r:Rep w P g v x) :
  OpQ w P fr g O s (AI v) x {s with heap:=h',toks:=t'}:=by
 unfold AI;erw[nl];exact OpQ.kept H k r
theorem OpQ.flatM{t':Nat}{v:V}{x:Value}(H:AP w P fr g O s)(nl:v.isLst=false)(r:Rep w P g v x) :
  OpQ w P fr g O s (AI v) x {s with toks:=t'}:=by
 unfold AI;erw[nl];exact OpQ.flat H r
theorem EW{n:Nat}(h:n<=Ae):(n:Int) < 2 ^ 63/\n<=1099511627776:=by
 unfold Ae at h;exact⟨nW ((kC).mpr h) (by decide),hZ h (by decide)⟩
theorem NU{v:V}{x:Value}{n:Nat}{Q:Value->Shared->Prop}(u:Sub g s.heap)(a:Vw w P g s.heap v x)(e:YR v=some n)(ok:∀ t' k,Q (.int n t') {s with toks:=k}) :
  wpAny (model prog w) A (jH (.builtin "len") [x]) Q E s:=by
 cases v with
 | str i=>
  (obtain e:=hG e;subst e)
  refine A9 a.str λ t aa l=>?_;subst aa
  exact PySem.P.len_str (Int.not_le.mpr (EW l).1) (ok _ _)
 | bytes i=>
  (obtain e:=hG e;subst e)
  refine BG a.bytes λ t aa _ l=>rwE aa ?_
  refine W.len_bytes ?_ ?_ <;> erw[mK,iH]
  ·exact(EW l).2
  ·exact ok _ _
 | lst i=>
  (obtain e:=hG e;subst e)
  refine A7 a.lst λ l items aa hl rl hz=>rwE aa ?_
  have:items.size=i.length:=rl.length
  refine Calls.call_len_list hl ?_ ?_ <;> erw[this]
  ·exact(EW hz).1
  ·exact ok _ _
 | tup i=>
  (obtain e:=hG e;subst e)
  refine A7 (a.tup u) λ l items aa hl rl hz=>rwE aa ?_
  have:items.size=i.length:=rl.length
  refine PyProof.Rows.len_tuple (Ir hl) ?_ ?_ <;> erw[this]
  ·exact(EW hz).1
  ·exact ok _ _
 | _=>exact none_some e
theorem Gi.one'{h:Heap}{as:List V}{a:V}{xs:List Value}(r:Gi w P g h as xs)(e:one? as=some a):∃ x,xs=[x]/\Vw w P g h a x:=by
 rw[one?_some e]at r;exact r.one
theorem Gi.two'{h:Heap}{as:List V}{a:V×V}{xs:List Value}(r:Gi w P g h as xs)(e:two? as=some a):∃ x y,xs=[x,y]/\Vw w P g h a.1 x/\Vw w P g h a.2 y:=by
 rw[two?_some e]at r;exact r.two
theorem Gi.ints{h:Heap}{as:List V}{l:List Int}{xs:List Value}(r:Gi w P g h as xs)(e:lstInts? as=some l):∃ a items,xs=[.ref a]/\h.IsList a items/\IntsAre items.toList l:=by
 refine Ag e λ v h1 e=>Ag e λ vs h2 e=>A9 (r.one' h1) λ x aa a=>rwE aa ?_
 (first | (obtain rfl:=V.lst?_some h2) | cases V.lst?_some h2)
 exact A7 a.lst λ l items aa hl rl hz=>rwE aa (CL l items rfl hl (Fm rl e))
theorem HS{f:Int->Int->Int}{b:Value}{as:List V}{xs:List Value}{c:V}(H:AP w P fr g O s)(ha:Gi w P g s.heap as xs)(e:KN f as=some c)
  (k2:∀ {i j:Int} {t u:Tok} {Q:Value->Shared->Prop},(∀ h' tk t',(∀ b o,s.heap.get? b=some o->h'.get? b=some o)->Q (.int (f i j) t') {s with heap:=h',toks:=tk})->wpAny (model prog w) A (jH b [.int i t,.int j u]) Q E s)
  (k1:∀ {l:Addr} {items:Array Value} {x:Int} {r:List Int} {Q:Value->Shared->Prop},s.heap.IsList l items->IntsAre items.toList (x::r)->(∀ h' tk t',(∀ b o,s.heap.get? b=some o->h'.get? b=some o)->Q (.int (r.foldl f x) t') {s with heap:=h',toks:=tk}) ->
   wpAny (model prog w) A (jH b [lK l]) Q E s) :
  wpAny (model prog w) A (jH b xs) (OpQ w P fr g O s (AI c)) E s:=by
 unfold KN at e
 cases h:two? as with
 | some p=>
  refine AK λ Z zk=>?_
  replace e:=h▸e
  refine Ca (ha.two' h) λ x y aa a b=>?_;subst aa
  refine Hj (Bc a b e) λ i j t u aa al e=>?_;subst aa;subst al
  (obtain e:=hG e;subst e)
  exact zk (k2 λ h' tk t' hk=>OpQ.keptM H rfl hk (.int _ _))
 | none=>
  rw[h]at e
  refine Ag e λ v h1 e=>Ag e λ vs h2 e=>Ag e λ l h3 e=>A9 (ha.one' h1) λ x aa a=>rwE aa ?_
  (first | (obtain rfl:=V.lst?_some h2) | cases V.lst?_some h2)
  refine A7 a.lst λ l' items aa hl rl hz=>rwE aa ?_
  cases l with
  | nil=>exact none_some e
  | cons y r=>(obtain e:=hG e;subst e);exact k1 hl (Fm rl h3) λ h' tk t' hk=>OpQ.keptM H rfl hk (.int _ _)
theorem J9{f:Str}{as:List V}{xs:List Value}{c:V}(H:AP w P fr g O s)(hh:A.handled=none)(nl:f≠"list")(nd:f≠"dict")(ha:Gi w P g s.heap as xs)(e:Bu f as=some c) :
  wpAny (model prog w) A (jH (Dd f) xs) (OpQ w P fr g O s (AI c)) E s:=by
 unfold Bu at e
 replace e:=Fg nd (Fg nl e)
 by_cases q:f="len"
 ·refine AK λ Z zk=>?_
  replace e:=Gn q e
  refine Ag e λ v h e=>AY e λ n h2 e0=>?_;subst e0
  refine A9 (ha.one' h) λ x aa a=>?_;subst aa
  refine zk (rwE (show Dd f = .builtin "len" by erw[q];decide +kernel) ?_)
  exact NU H.sub a h2 λ t' k=>OpQ.flatM H rfl (.int _ _)
 replace e:=Fg q e
 by_cases q:f="ord"
 ·replace e:=Gn q e
  refine Ag e λ v h e=>Ag e λ sx h2 e=>AY e λ n h3 e0=>rwS e0 (A9 (ha.one' h) λ x aa a=>rwE aa ?_)
  (first | (obtain rfl:=V.str?_some h2) | cases V.str?_some h2);(first | (obtain rfl:=one?_some h3) | cases one?_some h3)
  refine A9 a.str λ t aa l=>rwE aa (rwE (show Dd f = .builtin "ord" by erw[q];decide +kernel) ?_)
  exact PySem.P.ord_of_char (OpQ.flatM H rfl (.int _ _))
 replace e:=Fg q e
 by_cases q:f="chr"
 ·replace e:=Gn q e
  refine Ag e λ v h e=>Ag e λ i h2 e=>Cb e λ hr aa=>rwS aa (A9 (ha.one' h) λ x aa a=>rwE aa ?_)
  (first | (obtain rfl:=V.int?_some h2) | cases V.int?_some h2)
  refine qE a.int λ t aa=>rwE aa (rwE (show Dd f = .builtin "chr" by erw[q];decide +kernel) ?_)
  exact chr_of_range hr.1 (rB hr.2) (OpQ.flatM H rfl (.str [_] _ (show 1<=Ae by decide)))
 replace e:=Fg q e
 by_cases q:f="abs"
 ·replace e:=Gn q e
  refine Ag e λ v h e=>AY e λ i h2 e0=>?_;subst e0
  refine A9 (ha.one' h) λ x aa a=>?_;subst aa
  (first | (obtain rfl:=V.int?_some h2) | cases V.int?_some h2)
  refine qE a.int λ t aa=>?_;subst aa
  erw[(show Dd f = .builtin "abs" by refine rwE q ?_;decide +kernel)]
  refine call_abs_int λ u tk=>?_
  erw[show(if i < 0 then -i else i:Int)=(i.natAbs:Int) by split <;> omega]
  exact OpQ.flatM H rfl (.int _ _)
 replace e:=Fg q e
 by_cases q:f="int"
 ·replace e:=Gn q e
  refine Ag e λ v h e=>AY e λ i h2 e0=>?_;subst e0
  refine A9 (ha.one' h) λ x aa a=>?_;subst aa
  erw[(show Dd f = .type "int" by refine rwE q ?_;decide +kernel)]
  cases v with
  | int j=>obtain⟨t,rfl⟩:=a.int;(obtain h2:=hG h2;subst h2);exact call_int_int (OpQ.flatM (t':=s.toks) H rfl (.int _ _))
  | bool j=>cases a.bool;(obtain h2:=hG h2;subst h2);exact call_int_bool (OpQ.flatM H rfl (.int _ _))
  | _=>exact none_some h2
 replace e:=Fg q e
 by_cases q:f="min"
 ·replace e:=Gn q e
  erw[(show Dd f = .builtin "min" by refine rwE q ?_;decide +kernel)]
  refine HS H ha e (fun {i j t u} Q ok=>min_two_ints hh λ h' tk hk=>?_) λ hl hi ok=>NP hh hl hi λ h' tk t hk=>ok h' tk t hk
  by_cases q:j < i
  ·have:=ok h' tk u hk
   rw[if_pos q]at this ⊢;exact this
  ·have:=ok h' tk t hk
   rw[if_neg q]at this ⊢;exact this
 replace e:=Fg q e
 by_cases q:f="max"
 ·replace e:=Gn q e
  erw[(show Dd f = .builtin "max" by refine rwE q ?_;decide +kernel)]
  refine HS H ha e (fun {i j t u} Q ok=>max_two_ints hh λ h' tk hk=>?_) λ hl hi ok=>NY hh hl hi λ h' tk t hk=>ok h' tk t hk
  by_cases q:j > i
  ·have:=ok h' tk u hk
   rw[if_pos q]at this ⊢;exact this
  ·have:=ok h' tk t hk
   rw[if_neg q]at this ⊢;exact this
 replace e:=Fg q e
 by_cases q:f="sum"
 ·refine AK λ Z zk=>?_
  replace e:=Gn q e
  refine AY e λ l h e0=>?_;subst e0
  refine Ca (ha.ints h) λ a items aa hl hi=>?_;subst aa
  refine zk (rwE (show Dd f = .builtin "sum" by erw[q];decide +kernel) ?_)
  exact Oi hh hl hi λ h' tk t hk=>OpQ.keptM H rfl hk (.int _ _)
 replace e:=Fg q e
 by_cases q:f="sorted"
 ·refine AK λ Z zk=>?_
  replace e:=Gn q e
  refine Ag e λ l h e=>Cb e λ h64 aa=>?_;subst aa
  refine Ca (ha.ints h) λ a items aa hl hI=>?_;subst aa
  refine zk (rwE (show Dd f = .builtin "sorted" by erw[q];decide +kernel) ?_)
  have ai:=hI.length
  refine sorted_ints (vs:=items.toList) hl hI (iQ (j7 ai) h64) λ out ns' q1 q2 q3=>?_
  cases sortI_unique q2 q3
  refine qE (sortedAll_at s.heap items.toList out) λ e1 he1=>OpQ.fresh H (λ b o hb=>sortedAll_old hb) (l9 (m8 _)) (iEEAAA _ e1 he1 rfl rfl rfl) (ON q1) ?_
  erw[iH,q2.length_eq]
  exact hZ (jB h64) (by decide)
 replace e:=Fg q e
 by_cases q:f="bytes"
 ·replace e:=Gn q e
  refine Ag e λ l h e=>AY e λ cs hc e0=>?_;subst e0
  refine Ag h λ v h1 h=>Ag h λ vs h2 h=>A9 (ha.one' h1) λ x aa a=>?_;subst aa
  (first | (obtain rfl:=V.lst?_some h2) | cases V.lst?_some h2)
  refine A7 a.lst λ l' items aa hl rl hz=>?_;subst aa
  have hI:=Fm rl h
  erw[(show Dd f = .type "bytes" by refine rwE q ?_;decide +kernel)]
  refine Bv (Hm hc) λ e1 e2=>?_
  have ai:items.toList.length<=Ae:=by erw[rl.length];exact hz
  refine call_bytes_ints (vs:=items.toList) hl hI (Dx hc).1 ai hh λ h' t k hk=>rwE e1 (OpQ.keptM H rfl hk (.bytes _ _ e2 ?_))
  (erw[(Dx hc).2,iH];refine rwS hI.length ?_);exact ai
 obtain e:=Fg q e
 exact none_some e
end
section
open Builtin.Str
noncomputable def EQ(s:List Nat)(c n:Nat)(r:Int):Prop:=(r=-1/\∀ i,n<=i->s[i]?≠some c)\/∃ i:Nat,r=i/\n<=i/\s[i]?=some c/\∀ j,n<=j->j < i->s[j]?≠some c
noncomputable def HE(s:List Nat)(c n:Nat)(r:Int):Prop:=(r=-1/\∀ i,i < n->s[i]?≠some c)\/∃ i:Nat,r=i/\i < n/\s[i]?=some c/\∀ j,j < n->i < j->s[j]?≠some c
theorem EQ.unique{s:List Nat}{c n:Nat}{r r':Int}(a:EQ s c n r)(b:EQ s c n r'):r=r':=by
 rcases a with ⟨rfl,h⟩| ⟨i,rfl,h1,h2,h3⟩ <;> rcases b with ⟨rfl,k⟩| ⟨j,rfl,k1,k2,k3⟩
 ·rfl
 ·exact absurd k2 (h j k1)
 ·exact absurd h2 (k i h1)
 ·rcases Nat.lt_trichotomy i j with q | q | q
  ·exact absurd h2 (k3 i h1 q)
  ·exact rwE q rfl
  ·exact absurd k2 (h3 j k1 q)
theorem HE.unique{s:List Nat}{c n:Nat}{r r':Int}(a:HE s c n r)(b:HE s c n r'):r=r':=by
 rcases a with ⟨rfl,h⟩| ⟨i,rfl,h1,h2,h3⟩ <;> rcases b with ⟨rfl,k⟩| ⟨j,rfl,k1,k2,k3⟩
 ·rfl
 ·exact absurd k2 (h j k1)
 ·exact absurd h2 (k i h1)
 ·rcases Nat.lt_trichotomy i j with q | q | q
  ·exact absurd k2 (h3 j k1 q)
  ·rw[q]
  ·exact absurd h2 (k3 i h1 q)
theorem E5(c n:Nat):∀ (s:List Nat) (k:Nat) (t:List Nat),(∀ i,t[k+i]?=s[i]?)->(∀ i,i < k->n<=i->t[i]?≠some c)->EQ t c n (findFrom c n k s)
 | [],k,t,h,hb=>.inl ⟨rfl,λ i hi=>by
   by_cases q:i < k
   ·exact hb i q hi
   ·obtain this:=h (i - k)
    rw[sV (((sQ).mp q))]at this
    erw[this];simp⟩
 | x::r,k,t,h,hb=>by
  rw[Kj]
  obtain h0:=h 0
  simp only[pN,q6]at h0
  split
  ·rename_i q
   exact .inr (FS k rfl q.1 (i7 h0 (rwE q.2 rfl)) (λ j hj hk=>hb j hk hj))
  ·rename_i q
   refine E5 c n r (k+1) t (λ i=>?_) λ i hi hn=>?_
   ·obtain this:=h (i+1)
    rw[nK]at this
    refine rwS this ?_;congr 1;exact kI _ _ _
   ·by_cases e:i=k
    ·clear h hi
     subst e
     erw[h0]
     intro e;(obtain e:=hG e;subst e);exact q ⟨hn,rfl⟩
    ·exact hb i (nX (oH hi) e) hn
theorem rfindTo_spec(c n:Nat):∀ (s:List Nat) (k:Nat) (t:List Nat),(∀ i,t[k+i]?=s[i]?) ->
  (AM c n k s=-1/\∀ i,k<=i->i < n->t[i]?≠some c)\/∃ i:Nat,AM c n k s=i/\k<=i/\i < n/\t[i]?=some c/\∀ j,j < n->i < j->t[j]?≠some c
 | [],k,t,h=>.inl ⟨rfl,λ i hi _=>by
   obtain this:=h (i - k)
   rw[sV hi]at this
   erw[this];simp⟩
 | x::r,k,t,h=>by
  obtain h0:=h 0
  simp only[pN,q6]at h0
  obtain ih:=rfindTo_spec c n r (k+1) t λ i=>by
   obtain this:=h (i+1)
   rw[nK]at this
   refine rwS this ?_;congr 1;exact kI _ _ _
  rw[L1]
  clear h
  rcases ih with ⟨e,ha⟩| ⟨i,e,h1,h2,h3,h4⟩
  ·erw[e,if_neg (by decide)]
   split
   ·rename_i q
    refine .inr (Eh k rfl (j3 _) q.1 (i7 h0 (rwE q.2 rfl)) (λ j hj hk=>ha j hk hj))
   ·rename_i q
    refine .inl (iA rfl (λ i hi hn=>?_))
    by_cases e:i=k
    ·subst e
     erw[h0];intro z;(obtain z:=hG z;subst z);exact q (iA hn rfl)
    ·exact ha i (nX hi (Ne.symm e)) hn
  ·erw[e]
   erw[if_pos (by lia)]
   exact .inr (Eh i rfl (jB (by assumption)) h2 h3 h4)
theorem Hu(s:List Nat)(c n:Nat):EQ s c n (findFrom c n 0 s):=E5 c n s 0 s (λ i=>by simp) λ i hi=>by exact absurd (by assumption) (u9 _)
theorem JV(s:List Nat)(c n:Nat):HE s c n (AM c n 0 s):=by
 rcases rfindTo_spec c n s 0 s (λ i=>by exact congrArg (s[·]?) (kF i)) with ⟨e,h⟩| ⟨i,e,_,h2,h3,h4⟩
 ·exact .inl (iA e (λ i hi=>h i (kA _) hi))
 ·exact .inr (FS i e h2 h3 h4)
theorem GI(s:List Nat)(c hi i:Nat):StrLaws.At ⟨s.toArray⟩ ⟨#[c]⟩ hi i↔i < hi/\s[i]?=some c:=by
 unfold StrLaws.At
 erw[StrLaws.subAt_eq]
 exact Gu StrLaws.take1_drop Iff.rfl
theorem Lu{n m a:Nat}{pre post:List Nat}(h:l6 n m=pre++a::post):∀ k,n<=k->k < a->k∈pre:=by
 intro k h1 h2
 obtain ha:a∈l6 n m:=by erw[h];simp
 obtain hk:k∈l6 n m:=by
  rw[mM]at ha ⊢
  exact⟨h1,Nat.lt_trans h2 ha.2⟩
 rw[h]at hk
 refine jP ((jX).mp hk) (λ q=>?_) λ q=>?_
 ·exact q
 ·exfalso
  obtain this:=(List.pairwise_append.mp (h▸tJ:(pre++a::post).Pairwise (· < ·))).2.1
  refine jP ((iJ).mp q) (λ e=>?_) λ q=>?_
  ·exact pO h2 e
  ·obtain this:=((n7).mp this).1 k q
   exact Nat.lt_asymm h2 this
theorem L7(s:List Nat)(c n:Nat):EQ s c n (Txt.find3 ⟨s.toArray⟩ ⟨#[c]⟩ n):=by
 unfold Txt.find3
 obtain hlx:(⟨s.toArray⟩:hV).length=s.length:=by rfl
 erw[hlx,StrLaws.occ_eq]
 obtain hf:fromIndex s.length (n:Int)=n:=by unfold fromIndex;split <;> (first | exact iZ _ | lia)
 erw[hf]
 rcases StrLaws.occ_first ⟨s.toArray⟩ ⟨#[c]⟩ s.length 1 (j3 _) (l6 n (s.length+1 - n)) n (λ i hi=>by replace hi:=Iff.mp mM hi;exact hi.1) with ⟨e,h⟩| ⟨pre,a,post,e,h1,h2,h3⟩
 ·refine rwE e (.inl (iA rfl (λ i hi q=>?_)))
  have hl:=((kJ).mp q).1
  exact h i (by refine uB mM ?_;exact⟨hi,jK (Nat.lt_succ_of_lt hl) (Nat.sub_le_iff_le_add'.mp (j3 _))⟩) ((GI s c s.length i).mpr (iA hl q))
 ·obtain hm:a∈l6 n (s.length+1 - n):=by erw[e];simp
  rw[mM]at hm
  refine Bv ((GI s c s.length a).mp h2) λ q1 q2=>?_
  cases hr:(forIn (l6 n (s.length+1 - n)) ((#[]:Array Nat),n) (StrLaws.occBody ⟨s.toArray⟩ ⟨#[c]⟩ s.length 1)).run.fst.toList with
  | nil=>rw[<-lW,hr]at h1;exact none_some h1
  | cons k l=>
   rw[<-lW,hr]at h1
   simp only[q6,oF]at h1
   subst h1
   refine .inr (FS k rfl hm.1 q2 (λ j hj hk q=>?_))
   exact h3 j (Lu e j hj hk) ((GI s c s.length j).mpr (iA (((kJ).mp q).1:j < s.length) q))
noncomputable def Eu(x y:hV)(lo hi:Nat):Int:=match lastOccurrence x y lo hi with | some k=>(k:Int) | none=>-1
theorem Lh(s:List Nat)(c n:Nat):HE s c n (Eu ⟨s.toArray⟩ ⟨#[c]⟩ 0 (min n s.length)):=by
 unfold Eu
 erw[StrLaws.last_eq]
 have bF:=StrLaws.last_run ⟨s.toArray⟩ ⟨#[c]⟩ (min n s.length) (l6 0 (min n s.length+1 - 0)) [] none (λ _ h=>nomatch h) (λ _ h=>nomatch h) (by simpa using tJ (s:=0) (n:=min n s.length+1 - 0))
 have ff:∀ i,i < n->s[i]?=some c->i∈[]++l6 0 (min n s.length+1 - 0)/\StrLaws.At ⟨s.toArray⟩ ⟨#[c]⟩ (min n s.length) i:=λ i hi q=>by
  obtain hl:=((kJ).mp q).1
  refine iA ?_ ((GI s c _ i).mpr ⟨by exact (v7).mpr ⟨hi,hl⟩,q⟩)
  refine rwE (j4 ..) (uB mM ?_);exact⟨kA _,(kF _).symm▸Nat.lt_succ_of_lt ((v7).mpr ⟨hi,hl⟩)⟩
 cases hr:(forIn (l6 0 (min n s.length+1 - 0)) none (StrLaws.lastBody ⟨s.toArray⟩ ⟨#[c]⟩ (min n s.length))).run with
 | none=>
  replace bF:=hr▸bF
  exact .inl (iA rfl (λ i hi q=>bF i (ff i hi q).1 (ff i hi q).2))
 | some a=>
  rw[hr]at bF
  exact Bv ((GI s c _ a).mp bF.1) λ q1 q2=>.inr (FS a rfl (jK q1 (nE _ _)) q2 (λ j hj hk q=>bF.2 j (ff j hj q).1 hk (ff j hj q).2))
theorem Fy(x y:hV)(i j:Int)(t u v z:Tok):Gives (Builtin.«str.rfind» ⟨[.str x t,.str y u,.int i v,.int j z],[]⟩)
  (.int (Eu x y (fromIndex x.length i) (min (fromIndex x.length j) x.length))):=by
 unfold Eu
 show Gives (match lastOccurrence x y (fromIndex x.length i) (min (fromIndex x.length j) x.length) with | some k=>retInt k | none=>(do rule "str.rfind.not-found";retInt (-1))) _
 cases lastOccurrence x y (fromIndex x.length i) (min (fromIndex x.length j) x.length) with
 | none=>exact .rule (.of_eq rfl)
 | some k=>exact .of_eq rfl
end
section
open Builtin
theorem Ej:v8 "bytes" "join" "bytes.join":=
 .of (owner:="bytes") (n:="join") (by refine i7 (typeLookup_type ..) (rwE builtinLookup_eq_fast ?_);nofun) (by decide +kernel) (by decide +kernel) (by decide +kernel)
  (by first | exact .inl (by decide +kernel) | exact .inr (by decide +kernel)) (by refine i7 (isSubtype_type ..) ?_;nofun)
theorem G0:typeOf (.builtin "bytes.join")=pure (.type "method_descriptor"):=by show builtinType _=_;erw[builtinType_eq_fast];nofun
theorem Gk:entryFor table "bytes.join"=some Builtin.«bytes.join»:=entryFor_of_tree rfl
theorem FW(a b:Value):argsOk "bytes.join" ⟨[a,b],[]⟩:=by
 unfold argsOk;erw[signature?_of (id:="bytes.join") (n:=['n','i','o','j']) (o:=['s','e','t','y','b']) (by nofun) W.FB.owner_bytes];nofun
theorem Me{id:String}{b:Array UInt8}{t:Tok}{fF:Bool}:Bytes.buffer? id (.bytes b t) fF=pure (some b):=by
 delta Bytes.buffer?
 erw[W.KBy.special_eq W.KBy.look_buffer,W.KBy.own_buffer,W.KBy.own_release]
 kernel_rfl
theorem T2{id:String}{b:Array UInt8}{t:Tok}:Bytes.takeBufferQuiet? id (.bytes b t) 0=pure (some (b,none)):=by
 delta Bytes.takeBufferQuiet? Bytes.takeBuffer?
 erw[W.KBy.special_eq W.KBy.look_buffer,W.KBy.own_buffer,Me]
 kernel_rfl
noncomputable def BD(l:List (Array UInt8×Tok)):List Value:=l.map λ p=>.bytes p.1 p.2
theorem FV{xc:Model}{A:Around}{E:Value->Shared->Prop}{s:Shared}{Q:Unit->Shared->Prop}:∀ (l:List (Value×Option Value)) (k:List Value),(∀ p∈l,p.2=none)->Q () s->wpAny xc A (Bytes.joinLetGo l k) Q E s
 | [],_,_,h=>iI h
 | (x,w)::r,k,hn,h=>by
  have:w=none:=hn (x,w) i8
  exact rwE this (i5 (wpAny_letGo (FV r k (λ p hp=>hn p (i9 _ hp)) h)))
noncomputable abbrev GF:=Array (Array UInt8)×List (Value×Option Value)
theorem IN{xc:Model}{A:Around}{E:Value->Shared->Prop}{s:Shared}{l:List (Array UInt8×Tok)}{m:Nat}(f:Nat->GF->Sem (ForInStep GF))(hm:m=l.length)
  (hf:∀ i p aN am (Q:ForInStep GF->Shared->Prop),l[i]?=some p->(∀ q∈am,q.2=none/\q.1.onHeap=false)->Q (.yield (aN.push p.1,am++[(.bytes p.1 p.2,none)])) s->wpAny xc A (f i (aN,am)) Q E s)
  (Q:GF->Shared->Prop) (h:∀ am:List (Value×Option Value),(∀ q∈am,q.2=none)->Q ((l.map (·.1)).toArray,am) s):wpAny xc A (forIn [0:m] (#[],[]) f) Q E s:=by
 erw[hm]
 obtain e:(forIn [0:l.length] ((#[],[]):GF) f)=forIn (l6 0 l.length) ((#[],[]):GF) f:=by simp
 erw[e]
 refine wpAny_forIn_list f (λ rest b s'=>s'=s/\∃ i,rest=l6 i (l.length - i)/\i<=l.length/\b.1=((l.take i).map (·.1)).toArray/\∀ q∈b.2,q.2=none/\q.1.onHeap=false) Q ?_ ?_ _ _ (QL rfl 0 rfl (kA _) (by simp) (λ q hq=>nomatch hq))
 ·rintro x rest ⟨aN,am⟩ s' ⟨rfl,i,hr,hi,hb,ht⟩
  have aH:i < l.length:=by
   by_cases q:i < l.length
   ·exact q
   ·have:l.length - i=0:=by exact qP ((sQ).mp q)
    replace hr:=this▸hr;exact nc l7 hr (.refl false)
  obtain⟨k,hk⟩:∃ k,l.length - i=k+1:=iE (l.length - i - 1) (sp (sP aH))
  rw[hk,List.range'_succ]at hr
  injection hr with h1 h2
  subst h1
  obtain⟨p,hp⟩:∃ p,l[x]?=some p:=iE (l[x]) (by simp[aH])
  refine hf x p aN am _ hp ht (QL rfl (x+1) ?_ aH ?_ ?_)
  ·refine i7 h2 ?_;congr 1;exact(congrArg Nat.pred hk).symm
  ·show aN.push p.1=_
   have fA:aN=((l.take x).map (·.1)).toArray:=hb
   (erw[fA,oG];erw[hp])
   simp
  ·intro q hq
   refine jP ((jX).mp hq) (λ hq=>?_) λ hq=>?_
   ·exact ht q hq
   ·exact rwE ((iD).mp hq) ⟨rfl,rfl⟩
 ·rintro⟨aN,am⟩ s' ⟨rfl,i,hr,hi,hb,ht⟩
  have:i=l.length:=by
   by_cases q:i=l.length
   ·exact q
   ·obtain⟨k,hk⟩:∃ k,l.length - i=k+1:=iE (l.length - i - 1) (sp (sP (nX hi q)))
    rw[hk,List.range'_succ]at hr;exact nc l7 hr (.refl false)
  clear e hf hi hr
  subst this
  have fA:aN=((l.take l.length).map (·.1)).toArray:=hb
  erw[fA,n0]
  exact h am λ q hq=>(ht q hq).1
theorem IQ{xc:Model}{A:Around}{E:Value->Shared->Prop}{s:Shared}{a7:Array UInt8}{t:Tok}(ps:List (Array UInt8))(am:List (Value×Option Value))(ht:∀ q∈am,q.2=none)
  (aB:(ps.map v9).sum+ps.length * a7.size<=16777216) {R:Result->Shared->Prop} (h:∀ t' k,R (.ok (.ret (.bytes (Bytes.joined a7 ps) t'))) {s with toks:=k}) (hl:(Bytes.joined a7 ps).size<=16777216) (bad:Array UInt8->Sem PySem.Fin) :
  wpAny xc A (Bytes.payload (.bytes a7 t) >>= λ sp=>if Bytes.tooLong (ps.toArray.foldl (λ x1 x2=>x1+x2.size) (sp.size * (ps.toArray.size - 1)))=true then(bad sp) else(do
   let bW <-Bytes.Kind.bytes.new (Bytes.joined sp ps.toArray.toList)
   holding (bW::am.flatMap fun(y,u)=>y::u.toList) point
   Bytes.joinLetGo am [bW]
   ret bW)) (λ fin s'=>∃ v,fin=Fin.done (Flow.ret v)/\R (Except.ok (Flow.ret v)) s') E s:=by
 refine i5 ?_
 refine iI ?_
 obtain e:ps.toArray.foldl (λ x1 x2=>x1+x2.size) (a7.size * (ps.toArray.size - 1))<=16777216:=by
  obtain bF:∀ (l:List (Array UInt8)) (n:Nat),l.foldl (λ x1 x2=>x1+x2.size) n=n+(l.map v9).sum:=by
   intro l
   induction l with
   | nil=>intro n;simp
   | cons x r ih=>intro n;refine i7 o5 (i7 (ih ..) ?_);simp;exact mE _ _ _
  erw[List.foldl_toArray,bF]
  simp only[mK]
  have:a7.size * (ps.length - 1)<=ps.length * a7.size:=by
   exact rwE (tY ..) (Nat.mul_le_mul_right _ (sO _ _))
  exact hZ (j7 (lB ..)) (hZ (j5 this _) aB)
 erw[W.KBy.tooLong_not e,if_neg (by decide)]
 refine i5 (wpAny_mkBytes ?_ (by erw[pI];simpa using hl))
 refine i5 (jN (wpAny_point ?_))
 refine i5 (FV _ _ ht ?_)
 exact iI (iEA _ rfl (by simpa using h s.toks (s.toks+1)))
theorem IY(a7:Array UInt8):∀ (l:List (Array UInt8)) (k:Nat) (out:Array UInt8),0 < k->(l.zipIdx k).foldl (λ out (p:Array UInt8×Nat)=>(if p.2 > 0 then out++a7 else out)++p.1) out=out++(l.map λ x=>a7++x).foldr (·++·) #[]
 | [],k,out,hk=>by rfl
 | x::r,k,out,hk=>by
  rw[List.zipIdx_cons,o5,IY a7 r (k+1) _ (kZ _)]
  simp[hk,Array.append_assoc]
theorem GR(a7:List Nat):∀ (l:List (List Nat)),Bytes.joined (a7.map j2).toArray (l.map λ x=>(x.map j2).toArray)=((joinL a7 l).map j2).toArray
 | []=>rfl
 | x::r=>by
  unfold Bytes.joined
  (erw[iW,List.zipIdx_cons];refine i7 o5 ?_)
  obtain this:=IY (a7.map j2).toArray (r.map λ x=>(x.map j2).toArray) 1 (x.map j2).toArray (lO _)
  simp only[Nat.lt_irrefl,if_false,kF,gt_iff_lt]at this ⊢
  refine rwE (show(#[]:Array UInt8)++(x.map j2).toArray=(x.map j2).toArray by simp) (i7 this ?_)
  clear this
  induction r generalizing x with
  | nil=>simp[DM,DO,DE]
  | cons y r ih=>
   obtain this:=ih y
   simp only[iW,List.foldr_cons]at this ⊢
   show _=((x++a7++joinL a7 (y::r)).map j2).toArray
   apply Array.toList_inj.mp
   obtain this:=congrArg Array.toList this
   simp only[pC,k8,iF]at this ⊢
   exact rwE this rfl
theorem GB(a7:Array UInt8)(t:Tok)(a:Addr)(l:List (Array UInt8×Tok))(n:Nat)(d:Option Addr)(sl:Array (Option Value))
  (aB:(l.map λ p=>p.1.size).sum+l.length * a7.size<=16777216) (hl:(Bytes.joined a7 (l.map (·.1))).size<=16777216) :
  Meets (Builtin.«bytes.join» ⟨[.bytes a7 t,.ref a],[]⟩)
   (λ _ R s=>s.heap.get? a=some {cls:=.type "list",dict:=d,data:=.seq (BD l).toArray n,slots:=sl}/\∀ t' k,R (.ok (.ret (.bytes (Bytes.joined a7 (l.map (·.1))) t'))) {s with toks:=k}):=by
 refine .of_wp λ prog w A R s ⟨ho,h⟩=>?_
 show wpAny _ _ (Bytes.joinItems (.ref a) >>= _) _ _ s
 refine i5 (i5 (nF (iEA _ ho rfl) ?_))
 refine iI (i5 (mH ho rfl ?_))
 obtain dz:((l.map (·.1)).map v9).sum+(l.map (·.1)).length * a7.size<=16777216:=by
  erw[jR,iH];exact aB
 clear aB
 match l,dz,hl,ho,h with
 | [p],aB,hl,ho,h=>
  refine i5 (nF (jS s _ _) ?_)
  refine i5 (wpAny_rule (iI ?_))
  obtain this:=h p.2 s.toks
  refine iEA _ rfl ?_
  obtain e:Bytes.joined a7 ([p].map (·.1))=p.1:=by simp[Bytes.joined]
  replace this:=e▸this
  exact this
 | [],aB,hl,ho,h=>
  refine i5 (IN (l:=[]) _ rfl ?_ _ ?_)
  ·intro i p aN am Q hp;simp at hp
  ·intro am ht
   exact IQ [] am ht (by simp) h hl _
 | p::q::r,aB,hl,ho,h=>
  refine i5 (IN (l:=p::q::r) _ (by simp[BD]) ?_ _ ?_)
  ·intro i p' aN am Q hp ht hQ
   refine i5 (mH ho rfl ?_)
   have hx:(BD (p::q::r)).toArray.getD i mZ = .bytes p'.1 p'.2:=by
    refine i7 Array.getD_eq_getD_getElem? ?_
    simp only[BD,n6,kX,hp]
    rfl
   obtain cK:(am.any λ x=>x.1.onHeap)=false:=by
    refine uB List.any_eq_false ?_
    intro x hx;erw[(ht x hx).2];simp
   show wpAny _ _ (if (Bytes.Kind.bytes==Bytes.Kind.bytearray||am.any λ x=>x.1.onHeap)=true then _ else _) _ _ s
   (erw[cK,if_neg (by decide)];erw[hx])
   refine i5 (jN (qI T2 ?_))
   refine i5 (mH ho rfl ?_)
   show wpAny _ _ (if ((BD (p::q::r)).toArray.size != (BD (p::q::r)).toArray.size)=true then _ else _) _ _ s
   exact rwE (if_neg (by simp)) (iI hQ)
  ·intro am ht
   generalize (p::q::r).map (·.1)=ps at aB hl h ⊢
   exact IQ ps am ht aB h hl _
end
section
variable {fr:List Addr}
variable {E:Value->Shared->Prop}
theorem GP:∀ {ak:List (List Nat×List Nat)} {kvs':List (hV×Value)},BY ak kvs'->∀ i:List Nat,match EB ak i with
  | some v=>∃ t,valueAt kvs' ⟨i.toArray⟩=some (.str ⟨v.toArray⟩ t)/\v.length<=Ae
  | none=>valueAt kvs' ⟨i.toArray⟩=none
 | [],[],_,i=>rfl
 | [],_::_,h,_=>h.elim
 | _::_,[],h,_=>h.elim
 | (k,v)::r,(k',x)::r',⟨hk,⟨t,hx⟩,hl,hr⟩,i=>by
  subst hk;erw[hx]
  obtain ih:=GP hr i
  unfold EB valueAt at ih ⊢
  simp only[pY]
  by_cases q:i=k
  ·subst q;simp;exact hl
  ·have:¬ ((⟨k.toArray⟩:hV)=⟨i.toArray⟩):=λ e=>q (by injection e with e;simpa using e.symm)
   simp only[q,this,decide_false,cond_false]
   exact ih
theorem Mi{vs:List V}:∀ {xs:List Value} {ns:List (List Nat)},AF w P g vs xs->Dc vs=some ns->StrsAre xs (ns.map λ n=>⟨n.toArray⟩):=by
 induction vs with
 | nil=>intro xs ns r e;cases r;(obtain e:=hG e;subst e);exact .nil
 | cons v vs ih=>
  intro xs ns r e
  refine Ag e λ i h1 e=>AY e λ l hl e0=>rwS e0 ?_
  (first | (obtain rfl:=V.str?_some h1) | cases V.str?_some h1)
  refine r.cR λ _ _ a r=>?_
  cases a
  exact .cons _ _ (ih r hl)
theorem JD{vs:List V}:∀ {xs:List Value} {ns:List (List Nat)},AF w P g vs xs->Ce vs=some ns ->
  ∃ l:List (Array UInt8×Tok),xs=BD l/\l.map (·.1)=ns.map (λ n=>(n.map j2).toArray)/\∀ n∈ns,∀ c∈n,c < 256:=by
 induction vs with
 | nil=>intro xs ns r e;cases r;(obtain e:=hG e;subst e);exact iEAA [] rfl rfl (λ _ h=>((by cases h)))
 | cons v vs ih=>
  intro xs ns r e
  refine AK λ Z zk=>Ag e λ i h1 e=>AY e λ l hl e0=>?_;subst e0
  refine zk ?_
  (first | (obtain rfl:=V.bytes?_some h1) | cases V.bytes?_some h1)
  refine AK λ Z zk=>?_
  cases r with | cons a r=>
  cases a with | bytes b t hb hz=>
  refine exE3 (ih r hl) λ l' h1 h2 h3=>zk (iEAA ((_,t)::l') (by erw[h1];rfl) (by(refine i7 iW (rwE iW ?_);exact rwE h2 rfl)) (λ n hn=>?_))
  refine jP ((iJ).mp hn) (λ q=>?_) λ hn=>?_
  ·exact rwE q hb
  ·exact h3 n hn
theorem Gm(a7:List Nat):∀ l:List (List Nat),(joinL a7 l).length<=(l.map jZ).sum+l.length * a7.length
 | []=>by simp[DM,DO,DE]
 | [x]=>by simp[DM,DO,DE]
 | x::y::r=>by
  obtain this:=Gm a7 (y::r)
  simp only[DM,DO,DE,hW,iW,lC,i6,Nat.add_mul]at this ⊢
  exact hZ (j5 this _) (j7 ((Nat.add_add_add_comm ..).trans (congrArg (vB _) ((lB ..).trans (congrArg (vB _) (Nat.one_mul _).symm)))))
theorem I1(a7:List Nat){Pr:Nat->Prop}(hs:∀ c∈a7,Pr c):∀ l:List (List Nat),(∀ n∈l,∀ c∈n,Pr c)->∀ c∈joinL a7 l,Pr c
 | [],_,c,h=>by simp[DM,DO,DE]at h
 | [x],hx,c,h=>hx x (by simp) c h
 | x::y::r,hx,c,h=>by
  simp only[DM,DO,DE,jX]at h
  rcases h with (h | h) | h
  ·exact hx x (by simp) c h
  ·exact hs c h
  ·exact I1 a7 hs (y::r) (λ n hn=>hx n (i9 _ hn)) c h
theorem Kk(a7:List Nat):∀ l:List (List Nat),Str.join ⟨a7.toArray⟩ (l.map λ n=>⟨n.toArray⟩)=⟨(joinL a7 l).toArray⟩
 | []=>rfl
 | [x]=>rfl
 | x::y::r=>by
  obtain this:=Kk a7 (y::r)
  show(⟨x.toArray⟩:hV)++⟨a7.toArray⟩++Str.join _ _=_
  rw[this,Jo,Jo]
  rfl
theorem NG:∀ c:Fin 91,65<=c.1->Txt.upper ⟨#[c.1]⟩=⟨#[c.1]⟩:=by decide +kernel
theorem Kn:∀ c:Fin 128,Txt.isalnum ⟨#[c.1]⟩=Hp c.1:=by decide +kernel
theorem Kq{x:List Nat}{c:Nat}{t u:Tok}(H:AP w P fr g O s)(hx:x.length<=Ae)(hc:c ∉ x) :
  wpAny (model prog w) A (jH (.builtin "str.split") [.str ⟨x.toArray⟩ t,.str ⟨#[c]⟩ u]) (OpQ w P fr g O s (.lst [.str x],.fresh)) E s:=by
 have fin:listOfItself ⟨x.toArray⟩ t A (wants (OpQ w P fr g O s (.lst [.str x],.fresh)) E) s:=by
  refine OpQ.fresh (t':=s.toks) H (Av _ _) (Ak _) (iEEAAA _ _ (jC _ rfl) rfl rfl rfl) (.cons (.str _ _ hx) .nil) (by simp[Ae])
 cases h1:(decide ((⟨x.toArray⟩:hV).length < (⟨#[c]⟩:hV).length)||decide (uY ⟨x.toArray⟩ < uY ⟨#[c]⟩))
 ·obtain hf:(Builtin.Str.occurrences ⟨x.toArray⟩ ⟨#[c]⟩ 0 (⟨x.toArray⟩:hV).length ((⟨x.toArray⟩:hV).length+1)).isEmpty=true:=by
   refine uB qV (uB List.eq_nil_iff_forall_not_mem ?_)
   intro i hi
   refine Bv (PySem.StrLaws.occ_spec _ _ _ _ _ i hi) λ q1 q2=>?_
   obtain this:=(GI x c x.length i).mp (iA (by simpa [uO]using q1) q2)
   exact hc (oW this.2)
  exact sR qF (nB _ _ _) tK (sW _ _) (meets_str_split_not_found ⟨x.toArray⟩ ⟨#[c]⟩ t u h1 rfl hf) fin
 ·exact sR qF (nB _ _ _) tK (sW _ _) (meets_str_split_cannot_occur ⟨x.toArray⟩ ⟨#[c]⟩ t u h1) fin
theorem Vw.sdict{h:Heap}{ak:List (List Nat×List Nat)}{x:Value}(v:Vw w P g h (.sdict ak) x) :
  ∃ a kvs',x = .ref a/\h.DictOf (strKind prog w) a kvs'/\BY ak kvs'/\(a==sysModules)=false:=v
theorem On:∀ p∈strMeths,v8 "str" p.1 p.2/\typeOf (.builtin p.2)=pure (.type "method_descriptor"):=
 (iK).mpr ⟨⟨PySem.F.slot_str_join,PySem.F.type_str_join⟩,(iK).mpr ⟨⟨qF,PySem.F.type_str_split⟩,(iK).mpr ⟨⟨PySem.F.slot_str_upper,PySem.F.type_str_upper⟩,
  (iK).mpr ⟨⟨PySem.F.slot_str_isalnum,PySem.F.type_str_isalnum⟩,(iK).mpr ⟨⟨PySem.F.slot_str_find,PySem.F.type_str_find⟩,(iK).mpr ⟨⟨tW,PySem.F.type_str_rfind⟩,λ _ h=>nomatch h⟩⟩⟩⟩⟩⟩
theorem LW{o:V}{m:hV}{x:Value}{id:String}(u:Sub g s.heap)(hv:Vw w P g s.heap o x)(a_:FD o m=some id) :
  ∃ T,PlainAttrs T/\v8 T m id/\typeOf (.builtin id)=pure (.type "method_descriptor")/\s.TypeIs x T/\∀ a,x = .ref a->∃ ob,s.heap.get? a=some ob/\ob.dict=none:=by
 replace a_:=DT a_
 cases o with
 | str b=>
  refine A9 hv.str λ t aa _=>rwE aa ?_
  refine qA (On _ a_) λ h1 h2=>?_
  exact Eh ("str") PySem.F.plainAttrs_str h1 h2 (nB _ _ _) (λ a e=>(nc nG e (.refl false)))
 | bytes b=>
  refine A9 hv.bytes λ t aa _=>rwE aa ?_
  cases (iD).mp a_
  exact Eh ("bytes") W.FB.plainAttrs_bytes Ej G0 (jS _ _ _) (λ a e=>(nc nG e (.refl false)))
 | idict b=>
  refine A7 (hv.idict u) λ a kvs' aa hd _ _=>rwE aa ?_
  cases (iD).mp a_
  exact Eh ("dict") tL o7 uE hd.typeIs hd.mapOf.noDict
 | sdict b=>
  refine A7 hv.sdict λ a kvs' aa hd _ _=>rwE aa ?_
  cases (iD).mp a_
  exact Eh ("dict") tL o7 uE hd.typeIs hd.mapOf.noDict
 | _=>cases a_
theorem Vw.sign{h:Heap}{v:V}{c:Nat}{x:Value}(a:Vw w P g h v x)(e:sign? v=some c):∃ t,x = .str ⟨#[c]⟩ t:=by
 (first | (obtain rfl:=sign?_some e) | cases sign?_some e)
 exact exE2 a.str λ t h _=>⟨t,h⟩
theorem Rf{sx:List Nat}{l:Addr}{items:Array Value}{ts:List (List Nat)}{t:Tok}(H:AP w P fr g O s)(hl:s.heap.IsList l items)(hs:StrsAre items.toList (ts.map λ n=>⟨n.toArray⟩))(hb:B2 sx.length ts) :
  wpAny (model prog w) A (jH (.builtin "str.join") [.str ⟨sx.toArray⟩ t,.ref l]) (OpQ w P fr g O s (AI (.str (joinL sx ts)))) E s:=by
 refine join_list hl hs (by erw[jR,iH];exact hb) λ t' k=>?_
 rw[show ∀ z:hV,Txt.join z (ts.map λ n=>⟨n.toArray⟩)=Str.join z (ts.map λ n=>⟨n.toArray⟩) from λ z=>PySem.StrLaws.glued_eq_join z _,Kk]
 exact OpQ.flatM H rfl (.str _ _ (hZ (Gm _ _) hb))
theorem Lg{sx:List Nat}{l:Addr}{items:Array Value}{vs:List V}{ts:List (List Nat)}{t:Tok}(H:AP w P fr g O s)(gK:∀ n∈sx,n < 256)(hl:s.heap.IsList l items)(rl:AF w P g vs items.toList)(cg:Ce vs=some ts)(hb:B2 sx.length ts) :
  wpAny (model prog w) A (jH (.builtin "bytes.join") [.bytes (sx.map j2).toArray t,.ref l]) (OpQ w P fr g O s (AI (.bytes (joinL sx ts)))) E s:=by
 refine AK λ Z zk=>exE3 (JD rl cg) λ bl h1 h2 h3=>Cp (id hl) λ aa ho hc n hd=>?_;obtain⟨cls,d,dt,sl⟩:=aa
 clear hl rl cg
 refine zk ?_
 simp only at hc hd
 refine AK λ Z zk=>?_
 subst hc;subst hd
 obtain bA:items=(BD bl).toArray:=by exact rwS h1 rfl
 clear h1
 subst bA
 have ai:=hZ (Gm _ _) hb
 obtain e1:(bl.map λ p=>p.1.size)=ts.map jZ:=by
  obtain this:=congrArg (tM v9) h2
  rw[jR,jR]at this
  simpa [Function.comp_def]using this
 obtain e2:bl.length=ts.length:=by simpa using congrArg jZ h2
 refine zk ?_
 refine sR Ej (jS _ _ _) Gk (FW _ _) (GB _ t l bl n d sl ?_ ?_) ⟨ho,λ t' k=>?_⟩
 ·(erw[e1,e2];erw[mK,iH]);exact hb
 ·(erw[h2,GR];erw[mK,iH]);exact ai
 ·erw[h2,GR]
  exact OpQ.flatM H rfl (.bytes _ _ (I1 _ gK ts h3) ai)
theorem SW{ak:List (Int×Int)}{i d:Int}{t u:Tok}{x:Value}(H:AP w P fr g O s)(hv:Vw w P g s.heap (.idict ak) x) :
  wpAny (model prog w) A (jH (.builtin "dict.get") [x,.int i t,.int d u]) (OpQ w P fr g O s (AI (.int ((BL ak i).getD d)))) E s:=by
 refine A7 (hv.idict H.sub) λ a kvs' aa hd hp hm=>rwE aa (call_meetsIn o7 hd.typeIs tX (tN _ _ _) (meets_dict_get_default (intKind prog w) a (intKind_is prog w i t) hm (.int d u)) (iEA _ hd.mapOf ?_))
 obtain this:=Dh hp i
 cases hg:BL ak i with
 | none=>replace this:=hg▸this;dsimp only at this;erw[this];exact OpQ.flatM H rfl (.int _ _)
 | some v=>rw[hg]at this;obtain⟨t',er⟩:=this;erw[er];exact OpQ.flatM H rfl (.int _ _)
theorem T3{ak:List (List Nat×List Nat)}{i d:List Nat}{t u:Tok}{x:Value}(H:AP w P fr g O s)(hv:Vw w P g s.heap (.sdict ak) x)(hz:d.length<=Ae) :
  wpAny (model prog w) A (jH (.builtin "dict.get") [x,.str ⟨i.toArray⟩ t,.str ⟨d.toArray⟩ u]) (OpQ w P fr g O s (AI (.str ((EB ak i).getD d)))) E s:=by
 refine A7 hv.sdict λ a kvs' aa hd hp hm=>rwE aa (call_meetsIn o7 hd.typeIs tX (tN _ _ _) (meets_dict_get_default (strKind prog w) a (strKind_is prog w _ t) hm (.str ⟨d.toArray⟩ u)) (iEA _ hd.mapOf ?_))
 obtain this:=GP hp i
 show OpQ w P fr g O s _ _ _
 cases hg:EB ak i with
 | none=>rw[hg]at this;dsimp only at this;erw[this];exact OpQ.flatM H rfl (.str _ _ hz)
 | some v=>rw[hg]at this;obtain⟨t',er,bg⟩:=this;erw[er];exact OpQ.flatM H rfl (.str _ _ bg)
theorem N2{sx:List Nat}{c:Nat}{n:Int}{t u v v':Tok}(H:AP w P fr g O s)(hn:0<=n) :
  wpAny (model prog w) A (jH (.builtin "str.rfind") [.str ⟨sx.toArray⟩ t,.str ⟨#[c]⟩ u,.int 0 v,.int n v']) (OpQ w P fr g O s (AI (.int (AM c n.toNat 0 sx)))) E s:=by
 refine qE (pZ hn) λ k aa=>?_;subst aa
 obtain this:=(Lh sx c k).unique (JV sx c k)
 refine mY tW (nB _ _ _) PySem.F.entry_str_rfind (PySem.F.args_str_rfind_4 _ _ _ _) (Fy _ _ 0 k t u v v') ?_
 obtain eE:fromIndex (⟨sx.toArray⟩:hV).length 0=0:=by unfold fromIndex;split <;> (first | exact iZ _ | lia)
 obtain hfk:fromIndex (⟨sx.toArray⟩:hV).length (k:Int)=k:=by unfold fromIndex;split <;> (first | exact iZ _ | lia)
 (erw[eE,hfk];erw[show(⟨sx.toArray⟩:hV).length=sx.length from rfl])
 exact rwE (show Eu ⟨sx.toArray⟩ ⟨#[c]⟩ 0 (min k sx.length)=AM c k 0 sx from this) (OpQ.flatM H rfl (.int _ _))
theorem Rq{sx:List Nat}{c:Nat}{n:Int}{t u v:Tok}(H:AP w P fr g O s)(hn:0<=n) :
  wpAny (model prog w) A (jH (.builtin "str.find") [.str ⟨sx.toArray⟩ t,.str ⟨#[c]⟩ u,.int n v]) (OpQ w P fr g O s (AI (.int (findFrom c n.toNat 0 sx)))) E s:=by
 refine SC.find3 (qE (pZ hn) λ k aa=>rwE aa ?_)
 obtain this:=(L7 sx c k).unique (Hu sx c k)
 exact rwE (show Txt.find3 ⟨sx.toArray⟩ ⟨#[c]⟩ (k:Int)=findFrom c k 0 sx from this) (OpQ.flatM H rfl (.int _ _))
theorem KP{o c:V}{m:hV}{as:List V}{x:Value}{xs:List Value}{id:String}(H:AP w P fr g O s)(hv:Vw w P g s.heap o x)(ha:Gi w P g s.heap as xs)(a_:FD o m=some id)
  (e:CS o m as=some c):wpAny (model prog w) A (jH (.builtin id) (x::xs)) (OpQ w P fr g O s (AI c)) E s:=by
 replace e:=C0 e;rcases e with ⟨rfl,e⟩| e
 ·replace e:=AA e;obtain⟨y,h1,e⟩:=e
  replace e:=AA e;obtain⟨vs,h2,e⟩:=e
  refine A9 (ha.one' h1) λ z aa hy=>rwE aa ?_
  (first | (obtain rfl:=V.lst?_some h2) | cases V.lst?_some h2)
  refine A7 hy.lst λ l items aa hl rl hn=>rwE aa ?_
  cases o with
  | str sx=>
   replace e:=AA (show(Dc vs).bind _=some c from e);obtain⟨ts,cg,e⟩:=e
   replace e:=Bd e;obtain⟨hb,rfl⟩:=e
   refine A9 hv.str λ t aa hz=>rwE aa ?_
   cases (show some "str.join"=some id from a_)
   exact Rf H hl (Mi rl cg) hb
  | bytes sx=>
   replace e:=AA (show(Ce vs).bind _=some c from e);obtain⟨ts,cg,e⟩:=e
   replace e:=Bd e;obtain⟨hb,rfl⟩:=e
   refine BG hv.bytes λ t aa gK hz=>rwE aa ?_
   cases (show some "bytes.join"=some id from a_)
   exact Lg H gK hl rl cg hb
  | _=>exact none_some e
 replace e:=C0 e;rcases e with ⟨rfl,e⟩| e
 ·replace e:=AA e;obtain⟨sx,h,e⟩:=e
  replace e:=AA e;obtain⟨y,h1,e⟩:=e
  replace e:=AA e;obtain⟨c',h2,e⟩:=e
  (first | (obtain rfl:=V.str?_some h) | cases V.str?_some h)
  by_cases hc:c'∈sx
  ·replace e:=Gn hc e;exact none_some e
  replace e:=Fg hc e;(obtain e:=hG e;subst e)
  refine A9 hv.str λ t aa hz=>rwE aa (A9 (ha.one' h1) λ z aa au=>rwE aa ?_);have hy:=au
  refine qE (hy.sign h2) λ u aa=>rwE aa ?_
  cases (show some "str.split"=some id from a_)
  exact Kq H hz hc
 replace e:=C0 e;rcases e with ⟨rfl,e⟩| e
 ·replace e:=AA e;obtain⟨c',h2,e⟩:=e
  replace e:=Bd e;obtain⟨hc,rfl⟩:=e
  refine qE (hv.sign h2) λ t aa=>rwE aa ?_
  (first | (obtain rfl:=sign?_some h2) | cases sign?_some h2)
  cases isEmpty_is hc.1
  cases ha.nil_inv
  cases (show some "str.upper"=some id from a_)
  obtain h':=NG ⟨c',sU hc.2.2⟩ hc.2.1
  refine SC.upper (by erw[h'];rfl) ?_
  exact rwE h' (OpQ.flatM H rfl (.str [c'] _ (show 1<=Ae by decide)))
 replace e:=C0 e;rcases e with ⟨rfl,e⟩| e
 ·replace e:=AA e;obtain⟨c',h2,e⟩:=e
  replace e:=Bd e;obtain⟨hc,rfl⟩:=e
  refine qE (hv.sign h2) λ t aa=>rwE aa ?_
  (first | (obtain rfl:=sign?_some h2) | cases sign?_some h2)
  cases isEmpty_is hc.1
  cases ha.nil_inv
  cases (show some "str.isalnum"=some id from a_)
  obtain h':=Kn ⟨c',hc.2⟩
  refine SC.isalnum ?_
  erw[h']
  exact OpQ.flatM (t':=s.toks) H rfl (.bool _)
 replace e:=C0 e;rcases e with ⟨rfl,e⟩| e
 ·replace e:=AA e;obtain⟨sx,h,e⟩:=e
  replace e:=AA e;obtain⟨p,h1,e⟩:=e
  replace e:=AA e;obtain⟨c',h2,e⟩:=e
  replace e:=AA e;obtain⟨n,h3,e⟩:=e
  replace e:=Bd e;obtain⟨hn,rfl⟩:=e
  (first | (obtain rfl:=V.str?_some h) | cases V.str?_some h)
  refine A9 hv.str λ t aa hz=>rwE aa ?_
  refine Ca (ha.two' h1) λ y z aa hy bO=>rwE aa (qE (hy.sign h2) λ u aa=>rwE aa ?_)
  replace bO:=(V.int?_some h3)▸bO
  refine qE bO.int λ v aa=>rwE aa ?_
  cases (show some "str.find"=some id from a_)
  exact Rq H hn
 replace e:=C0 e;rcases e with ⟨rfl,e⟩| e
 ·replace e:=AA e;obtain⟨sx,h,e⟩:=e
  replace e:=AA e;obtain⟨p,h1,e⟩:=e
  replace e:=AA e;obtain⟨c',h2,e⟩:=e
  (first | (obtain rfl:=V.str?_some h) | cases V.str?_some h)
  refine A9 hv.str λ t aa hz=>rwE aa ?_
  replace ha:=(three?_some h1)▸ha
  refine Bj ha.three λ y z z' aa hy bO eO=>rwE aa (qE (hy.sign h2) λ u aa=>rwE aa ?_)
  replace e:=Bc bO eO e;obtain⟨i,j,v,v',rfl,rfl,e⟩:=e
  replace e:=Bd e;obtain⟨hn,rfl⟩:=e
  clear h bO eO
  cases hn.1
  cases (show some "str.rfind"=some id from a_)
  exact N2 H hn.2
 replace e:=BT e;obtain⟨rfl,e⟩:=e
 replace e:=AA e;obtain⟨p,h1,e⟩:=e
 refine Ca (ha.two' h1) λ y z aa hy hz=>rwE aa ?_
 cases o with
 | idict ak=>
  replace e:=Bc hy hz e;obtain⟨i,j,v,v',rfl,rfl,e⟩:=e
  (obtain e:=hG e;subst e)
  cases (show some "dict.get"=some id from a_)
  exact SW H hv
 | sdict ak=>
  replace e:=AA e;obtain⟨i,h2,e⟩:=e
  replace e:=Bq e;obtain⟨d,h3,rfl⟩:=e
  rw[V.str?_some h2]at hy
  rw[V.str?_some h3]at hz
  refine A9 hy.str λ t aa au=>rwE aa ?_;have _:=au
  refine A9 hz.str λ u aa gx=>rwE aa ?_
  cases (show some "dict.get"=some id from a_)
  exact T3 H hv gx
 | _=>exact none_some e
theorem Ft{l:Addr}{items:Array Value}{f:Array Value->Array Value}{Q:Unit->Shared->Prop}(hl:PlainL s.heap l items)(hz:items.size<=Ae)(bO:(f items).size<=Ae)
  (hQ:∀ h',PlainL h' l (f items)->k7 l s.heap h'->Q () {s with heap:=h'}):wpAny (model prog w) A (updateSeq l f) Q E s:=by
 refine H0 (id hl) λ o n ho hc bI hd=>qE (Obj.data_mapSeq hd f) λ n' ar=>wpAny_updateSeq ho hd (hQ _ ?_ (rM ..)) hz (hZ bO (m8 _))
 refine iEEAAA _ n' (lX _ ho (Obj.isFreed_of_seq ar)) ((Obj.cls_mapSeq ..).trans hc) ?_ ar
 clear hQ hc ar hl ho hz bO
 obtain⟨c,d,dt,sl⟩:=o
 simp only at hd;exact rwE hd bI
theorem Nb{l:Addr}{items:Array Value}{x:Value}{Q:Value->Shared->Prop}(hl:PlainL s.heap l items)(hz:items.size < Ae)
  (hQ:∀ h',PlainL h' l (items.push x)->k7 l s.heap h'->Q .none {s with heap:=h'}):wpAny (model prog w) A (jH (.builtin "list.append") [.ref l,x]) Q E s:=by
 refine tT slot_list_append (plainL_isList hl).typeIs entry_list_append ?_ (args_list_append _ _)
 show wpAny _ _ (updateSeq l (·.push x) >>= λ _=>ret .none) _ _ s
 refine i5 (Ft hl (jB hz) (by erw[Array.size_push];exact hz) λ h' a b=>iI (iEA .none rfl (hQ h' a b)))
theorem Q5{l:Addr}{items:Array Value}{x:Value}{t:Tok}{Q:Value->Shared->Prop}(hl:PlainL s.heap l items)(hz:items.size < Ae)
  (hQ:∀ h',PlainL h' l (#[x]++items)->k7 l s.heap h'->Q .none {s with heap:=h'}):wpAny (model prog w) A (jH (.builtin "list.insert") [.ref l,.int 0 t,x]) Q E s:=by
 refine tT sX (plainL_isList hl).typeIs PySem.F.entry_list_insert ?_ (PySem.F.args_list_insert_3 _ _ _)
 obtain f1:=AutoSeq1.idx_int
 obtain hu:∀ (Q':Unit->Shared->Prop) (E':Value->Shared->Prop),(∀ h',PlainL h' l (#[x]++items)->k7 l s.heap h'->Q' () {s with heap:=h'})->∀ f:Array Value->Array Value,f items=#[x]++items->wpAny (model prog w) A.in1 (updateSeq l f) Q' E' s:=by
  intro Q' E' h f hf
  refine Ft hl (jB hz) ?_ ?_
  ·erw[hf];simp;exact j5 (oH hz) _
  ·exact rwE hf h
 clear f1 hl hz
 obtain⟨hp,g,d,tk,os⟩:=s
 wp_walk using (hu _ _ (λ h' a b=>?_) _ ?_)
 ·simp
 ·exact iI (iEA .none rfl (hQ h' a b))
theorem Tc{l b:Addr}{items ws:Array Value}{Q:Value->Shared->Prop}(hl:PlainL s.heap l items)(hb:s.heap.IsList b ws)(hz:items.size+ws.size<=Ae)
  (hQ:∀ h',PlainL h' l (items++ws)->k7 l s.heap h'->Q .none {s with heap:=h'}):wpAny (model prog w) A (jH (.builtin "list.extend") [.ref l,.ref b]) Q E s:=by
 refine tT sY (plainL_isList hl).typeIs PySem.F.entry_list_extend ?_ (PySem.F.args_list_extend_2 _ _)
 show wpAny _ _ (typeOf (.ref b) >>= _) _ _ s
 refine i5 (nF hb.typeIs ?_)
 refine AK λ Z zk=>Cp (id hb) λ o2 av _ n2 aA=>H0 (id hl) λ o n ho hc bI hd=>?_
 refine zk ?_
 refine rwE (if_pos (by simp)) (i5 (i5 (mH av aA (iI ?_))))
 refine i5 (i5 (mH ho hd (iI ?_)))
 have:(!items.isEmpty&&pM (items.size+ws.size))=false:=by
  have:pM (items.size+ws.size)=false:=decide_eq_false (by have:Ae=sizeLine:=rfl;exact (sQ).mpr hz)
  exact rwE this (uW ..)
 erw[this,if_neg (by decide)]
 exact i5 (Ft hl (jY hz) (by erw[Array.size_append];exact hz) λ h' a b=>iI (iEA .none rfl (hQ h' a b)))
theorem Ju{R:Result->Shared->Prop}(hh:A.handled=none)(x:Array UInt8)(t:Tok)(S:Addr)(res:Value)(gV:Nat)(hS:s.heap.get? S=some {cls:=.type "list",data:=.seq #[] gV})
  (hR:∀ h' tk aS c',(∀ b o,b≠S->s.heap.get? b=some o->h'.get? b=some o)->h'.get? S=some {cls:=.type "list",dict:=none,data:=.seq aS c',slots:=#[]} ->
   ItemsOf (λ i v=>∃ c u,x[i]?=some c/\v=uF (c.toNat:Int) u) aS x.size->R (.ok (.ret res)) {s with heap:=h',toks:=tk}) (hn:x.size<=sizeLine) :
  wpAny (model prog w) A.in1 (Builtin.List.listExtendWith (.ref S) (.bytes x t) res)
   (λ fin s'=>match fin with | .done f=>R (.ok f) s' | .again c'=>c'.quiet=true/\codeAny (model prog w) A c' R s') (λ e s'=>R (.error e) s') s:=by
 obtain hSI:=pO (pP hS)
 obtain hSf:S ∉ [s.heap.objs.size]:=λ hm=>hSI ((iD).mp hm)
 refine i5 (nF (T:="bytes") (v:=.bytes x t) rfl ?_)
 obtain h1:Builtin.List.listSameRef (.ref S) (.bytes x t)=false:=rfl
 obtain h2:(vA "bytes"==vA "list")=false:=by decide
 obtain h3:(vA "bytes"==vA "tuple")=false:=by decide
 refine i5 (W.KBw.pyIter_bytes ?_)
 refine i5 (jN ?_)
 refine i5 (wpAny_specialOf (T:="bytes") (v:=.bytes x t) rfl W.FB.slot_bytes_len.lookup ?_)
 wp_delta
 refine i5 (wpAny_isInstance (T:="bytes") (v:=.bytes x t) (b:=true) rfl PySem.F.sub_bytes_bytes ?_)
 refine i5 (nF (T:="bytes") (v:=.bytes x t) rfl ?_)
 refine iI ?_
 refine rwE (if_neg (by decide)) (iI ⟨tD PySem.F.plain_extend_loop _,codeAny_extend_loopS (W.KBw.walks (A:=A.in1) hh s.heap.objs.size x t).toS hn _ hSf _ x.size 0 _ _ _ rfl (kA _) ⟨_,jC _ rfl,rfl,rfl⟩ (j8 _ hS) (ItemsOf.nil _) λ s' aS c' hm eK bN=>?_⟩)
 refine rwE (Moved.eq_with hm) (hR s'.heap s'.toks aS c' (λ b ob hb e=>hm.heap b ob (λ bP=>?_) (j8 _ e)) eK bN)
 refine jP ((iJ).mp bP) (λ e'=>?_) λ bP=>?_
 ·exact hb e'
 ·exact absurd (pP e) (by erw[(iD).mp bP];exact Nat.lt_irrefl _)
theorem G5{R:Result->Shared->Prop}(hh:A.handled=none)(x:Array UInt8)(t:Tok)(S:Addr)(hS:s.heap.get? S=some {cls:=.type "list",data:=.seq #[]})
  (hR:∀ h' tk aS c',(∀ b o,b≠S->s.heap.get? b=some o->h'.get? b=some o)->h'.get? S=some {cls:=.type "list",dict:=none,data:=.seq aS c',slots:=#[]} ->
   ItemsOf (λ i v=>∃ c u,x[i]?=some c/\v=uF (c.toNat:Int) u) aS x.size->R (.ok (.ret .none)) {s with heap:=h',toks:=tk}) (hn:x.size<=sizeLine) :
  wpAny (model prog w) A.in1 (Builtin.«list.__init__» ⟨[.ref S,.bytes x t],[]⟩)
   (λ fin s'=>match fin with | .done f=>R (.ok f) s' | .again c'=>c'.quiet=true/\codeAny (model prog w) A c' R s') (λ e s'=>R (.error e) s') s:=by
 refine i5 (i5 (mH hS rfl (iI ?_)))
 refine i5 (wpAny_updateSeq hS rfl ?_)
 obtain eD:=lX (Obj.mapSeq (λ _=>(#[]:Array Value))) hS rfl
 obtain oth:∀ b o,b≠S->s.heap.get? b=some o->(s.heap.update S (Obj.mapSeq (λ _=>(#[]:Array Value)))).get? b=some o:=
  λ b o hb e=>(nO _ _ (Ne.symm hb)).trans e
 refine i5 (wpAny_letGo ?_)
 exact Ju (hn:=hn) hh x t S .none _ eD λ h' tk aS c' hk eK bN=>hR h' tk aS c' (λ b o hb e=>hk b o hb (oth b o hb e)) eK bN
theorem G4{Q:Value->Shared->Prop}(hh:A.handled=none)(x:Array UInt8)(t:Tok)
  (hQ:∀ h' tk aS c',(∀ b o,s.heap.get? b=some o->h'.get? b=some o) ->
   h'.get? s.heap.objs.size=some {cls:=.type "list",dict:=none,data:=.seq aS c',slots:=#[]}->ItemsOf (λ i v=>∃ c u,x[i]?=some c/\v=uF (c.toNat:Int) u) aS x.size->Q (.ref s.heap.objs.size) {s with heap:=h',toks:=tk}) (hn:x.size<=sizeLine) :
  wpAny (model prog w) A (jH (.type "list") [.bytes x t]) Q E s:=by
 refine callType_codes (Q₁:=λ e9 a9=>e9 = .ref s.heap.objs.size/\a9={s with heap:=s.heap.push {cls:=.type "list",data:=.seq #[]}}) PySem.F.called_list (PySem.F.typeCall_list_1 _) PySem.F.entry_list_init
  (code_list_new _ ⟨rfl,rfl⟩) λ e9 a9 ax=>?_
 obtain⟨rfl,rfl⟩:=ax
 have hS:(s.heap.push {cls:=.type "list",data:=.seq #[]}).get? s.heap.objs.size=some {cls:=.type "list",data:=.seq #[]}:=jC _ rfl
 refine⟨⟨_,hS,rfl⟩,PySem.F.args_list_init_2 _ _,G5 (A:=A.in1) (hn:=hn) hh x t _ hS λ h' tk aS c' hk eK bN=>?_⟩
 exact⟨rfl,hQ h' tk aS c' (λ b o e=>hk b o (pO (pP e)) (j8 _ e)) eK bN⟩
theorem Gy{b:List Nat}(hb:∀ n∈b,n < 256):∀ {xs:List Value},xs.length=b.length->(∀ (j:Nat) (v:Value),xs[j]?=some v->∃ (c:UInt8) (u:Tok),((b.map j2).toArray)[j]?=some c/\v=uF (c.toNat:Int) u)->AF w P g (b.map fun(c:Nat)=>V.int c) xs:=by
 induction b with
 | nil=>intro xs hl h;cases xs with
  | nil=>exact .nil
  | cons=>simp at hl
 | cons n r ih=>
  intro xs hl h
  cases xs with
  | nil=>simp at hl
  | cons x xs=>
   refine It (h 0 x (by rfl)) λ c u hc aa=>rwE aa ?_
   have:c=j2 n:=by simpa using hc.symm
   erw[this]
   obtain hn:=hb n (by simp)
   obtain e:(j2 n).toNat=n:=by simp;assumption
   refine rwE e (.cons (.int _ _) (ih (λ m hm=>hb m (i9 _ hm)) (by simpa using hl) λ j v hj=>?_))
   exact It (h (j+1) v (by simpa using hj)) λ c u hc aa=>rwE aa (iEEA c u (by simpa using hc) rfl)
theorem Ll{b:List Nat}{t:Tok}(H:AP w P fr g O s)(hh:A.handled=none)(hb:∀ n∈b,n < 256)(hz:b.length<=Ae) :
  wpAny (model prog w) A (jH (.type "list") [.bytes (b.map j2).toArray t]) (OpQ w P fr g O s (.lst (b.map fun(c:Nat)=>V.int c),.fresh)) E s:=by
 refine G4 hh _ t (λ h' tk aS c' hk hS hI=>?_) (by erw[mK,iH];exact hz)
 refine OpQ.fresh H hk (Ak _) (iEEAAA _ _ hS rfl rfl rfl) (Gy hb ?_ λ j v hj=>?_) (by erw[iH];exact hz)
 ·refine i7 lQ (rwE hI.1 ?_);simp
 ·exact hI.2 j v (by refine rwS lW ?_;exact hj)
end
theorem lst_no_keys:typeLookup (.type "list") "keys"=pure none:=am_miss_of_fast (by decide +kernel)
theorem IT:entryFor table "dict.update.loop"=some Builtin.«dict.update.loop»:=entryFor_of_tree rfl
theorem ET:plainId "dict.update.loop"=true:=by decide +kernel
section
variable {fr:List Addr}
variable {E:Value->Shared->Prop}
theorem NT{a:Addr}{xs:Array Value}{Q:Option Value->Shared->Prop}(hl:PlainL s.heap a xs)(hA:A.handled=none)
  (h:∀ h' tk,(∀ b o,s.heap.get? b=some o->h'.get? b=some o)->Q none {s with heap:=h',toks:=tk}):wpAny (model prog w) A (getAttr? (.ref a) "keys") Q E s:=by
 refine A7 hl λ o k hx hc hd be=>?_
 obtain⟨c,dct,dat,sl⟩:=o
 subst hc be hd
 obtain⟨hp,g,d,tk,os⟩:=s
 have hT:∀ b_,(⟨hp,g,d,b_,os⟩:Shared).TypeIs (.ref a) "list":=λ _=>iEA _ hx rfl
 obtain f1:=sub_AttributeError
 obtain f3:=(pQ).lookup
 obtain f4:=(pQ).bind (.ref a)
 obtain f5:=am_list_getattr_none
 repeat (any_goals (first | assumption | exact hT _ | ((with_reducible show wpAny _ _ (jH (tI "list.__getattribute__") _ _) _ _ _);refine sR pQ (hT _) am_entry_list_getattribute (F.args_list_getattribute_2 _ _) (meets_getattribute_miss_list a xs k sl "keys" _ lst_no_keys (by decide) (by decide +kernel)) (iAA hx hA (λ h' b_ e cS=>?_))) | wp_step))
 refine Ha cS.there λ t' u' he=>?_
 unfold getattributeRaised
 repeat (any_goals (first | assumption | wp_step))
 exact h _ _ cS.keeps
noncomputable def Kd(l:List (Int×Int))(items:Array Value)(h:Heap):Prop:=∀ (j:Nat) (p q:Int),l[j]?=some (p,q)->∃ (t:Addr) (u v:Tok),items[j]?=some (lK t)/\h.IsTuple t #[uF p u,uF q v]
theorem Bs.snoc{ak:List (Int×Int)}{k v:Int}{u:Tok}:∀ {kvs':List (Int×Value)},Bs ak kvs'->Bs (ak++[(k,v)]) (kvs'++[(k,.int v u)]):=by
 induction ak with
 | nil=>
  intro kvs' r
  cases kvs' with
  | nil=>exact iAA rfl ⟨_,rfl⟩ trivial
  | cons=>cases r
 | cons a ak ih=>
  intro kvs' r
  cases kvs' with
  | nil=>cases r
  | cons b kvs'=>exact iAA r.1 r.2.1 (ih r.2.2)
theorem Bs.keys{ak:List (Int×Int)}:∀ {kvs':List (Int×Value)},Bs ak kvs'->kvs'.map (·.1)=ak.map (·.1):=by
 induction ak with
 | nil=>
  intro kvs' r
  cases kvs' with
  | nil=>rfl
  | cons=>cases r
 | cons a ak ih=>
  intro kvs' r
  cases kvs' with
  | nil=>cases r
  | cons b kvs'=>
   show b.1::_=a.1::_
   exact rwE (ih r.2.2) (rwE (show a.1=b.1 from r.1) rfl)
theorem Bs.len{ak:List (Int×Int)}{kvs':List (Int×Value)}(h:Bs ak kvs'):kvs'.length=ak.length:=by
 obtain this:=congrArg jZ h.keys
 simpa using this
theorem QC{R:Result->Shared->Prop}{d I a:Addr}{items:Array Value}{l:List (Int×Int)}(hA:A.handled=none)(hn:(l.map (·.1)).Nodup)(aB:l.length=items.size)(em:l.length<=64) :
  ∀ (m i:Nat) (s:Shared) (kvs':List (Int×Value)),i+m=items.size->s.heap.IsListIter I a i->s.heap.IsList a items->Kd l items s.heap->s.heap.DictOf (intKind prog w) d kvs'->Bs (l.take i) kvs' ->
   (∀ h' tk bE,h'.DictOf (intKind prog w) d bE->Bs l bE->(∀ b o,b≠d->b≠I->s.heap.get? b=some o->h'.get? b=some o)->R (.ok (.ret .none)) {s with heap:=h',toks:=tk}) ->
   codeAny (model prog w) A (.builtin "dict.update.loop" ⟨[.ref d,.ref I,rawInt i,.none],[]⟩) R s:=by
 intro m
 induction m with
 | zero=>
  intro i s kvs' hm hI hl hp hd hk hR
  refine uA IT ?_
  rw[r7 ET]
  refine i5 (wpAny_pyNext_list_end (show A.in1.handled=none from hA) hI hl (by simp;exact(j7 hm.symm)) λ h' he=>?_)
  refine i5 (iI (iI ?_))
  have hdI:d≠I:=by
   rintro rfl
   clear hA em
   refine BG hI λ o ho _ hd1=>Bj hd λ o2 _ _ av _ aA _=>?_
   replace av:=eqL ho av;(have av:=hG av;subst av);replace aA:=eqL hd1 aA;cases aA
  have:=kK (j7 (aB.trans hm.symm))
  replace hk:=this▸hk
  exact hR h' s.toks kvs' (hd.extBut he hdI) hk λ b o _ hb e=>he b o hb e
 | succ m ih=>
  intro i s kvs' hm hI hl hp hd hk hR
  have hi:i < items.size:=by exact hm▸kR (kZ m)
  obtain⟨pq,gE⟩:∃ pq,l[i]?=some pq:=⟨l[i],by simp[aB,hi]⟩
  obtain⟨p,q⟩:=pq
  refine HR (hp i p q gE) λ t u v bA cL=>uA IT ?_
  rw[r7 ET]
  refine i5 (wpAny_pyNext_list_item hI hl bA λ h1 hI1 dX=>?_)
  have gg:∀ {b:Addr} {o:Obj},s.heap.get? b=some o->(∀ fs,o.data≠.fields fs)->b≠I:=fun {b o} ho hf z=>by
   refine BG hI λ o2 av _ aA=>?_
   replace ho:=eqL av (z▸ho);(have ho:=hG ho;subst ho);exact hf _ aA
  have ea:∀ {b:Addr} {xs:Array Value},s.heap.IsTuple b xs->b≠I:=fun {b xs} hb=>by
   exact Cp hb λ o ho _ _ hd1=>gg ho λ fs z=>by replace z:=eqL hd1 z;cases z
  have gu:∀ {b:Addr} {xs:Array Value},s.heap.IsTuple b xs->b≠d:=fun {b xs} hb=>by
   rintro rfl
   refine Cp hb λ o ho _ _ hd1=>Bj hd λ o2 _ _ av _ aA _=>?_
   replace av:=eqL ho av;(have av:=hG av;subst av);replace aA:=eqL hd1 aA;cases aA
  have aI:a≠I:=by
   exact Cp hl λ o ho _ _ hd1=>gg ho λ fs z=>by replace z:=eqL hd1 z;cases z
  have ad:a≠d:=by
   rintro rfl
   refine Cp hl λ o ho _ _ hd1=>Bj hd λ o2 _ _ av _ aA _=>?_
   replace av:=eqL ho av;(have av:=hG av;subst av);replace aA:=eqL hd1 aA;cases aA
  have dI:d≠I:=by
   exact Bj hd λ o2 _ _ av _ aA _=>gg av λ fs z=>by replace z:=eqL aA z;cases z
  have db:=cL.extBut dX.extBut (ea cL)
  refine i5 (jN ?_)
  refine i5 (wpAny_tryCatch ?_)
  refine i5 (nF (T:="tuple") (let ⟨o,ho,hc,_⟩:=db;(iEA o ho hc)) ?_)
  erw[if_pos (by decide)]
  refine Cp (id db) λ ot hot _ nt hdt=>i5 (mH hot hdt (iI ?_))
  have ai:=hk.len
  rw[iY]at ai
  refine jN (wpAny_dictSet_pairs (intKind_is prog w p u) (hd.sameBut dX dI:h1.DictOf (intKind prog w) d kvs') (λ h2 aA dS=>?_) (by have:=pI;exact hZ (j7 ai) (mR (hZ em (this.symm▸(by decide:64<=16777216))))))
  have bq:stored kvs' p (.int q v)=kvs'++[(p,.int q v)]:=by
   unfold stored
   rw[if_neg]
   intro z
   refine A9 (List.any_eq_true.mp z) λ kv hkv e=>?_
   have hm1:=(jV).mpr ⟨kv,hkv,(by simpa using e:kv.1=p)⟩
   rw[hk.keys]at hm1
   refine A9 ((jV).mp hm1) λ kv2 gw e2=>qE (List.mem_iff_getElem?.mp gw) λ j hj=>?_
   have gA:j < i:=by
    refine jP (uG j i) (λ z=>?_) λ z=>?_
    ·exact z
    ·replace hj:=eqL (List.getElem?_take_eq_none z) hj;exact none_some hj
   replace hj:=eqL (pR gA) hj
   have:=(List.getElem?_inj (by simp;exact Nat.lt_trans gA (aB.symm▸hi)) hn).mp ((by refine i7 kX (rwE hj ?_);simp[e2]:(l.map (·.1))[j]?=some p).trans (by refine i7 kX (rwE gE ?_);rfl:(l.map (·.1))[i]?=some p).symm)
   exact pO gA this
  rw[bq]at aA
  refine iI (iA (tD ET _) ?_)
  have tk:l.take (i+1)=l.take i++[(p,q)]:=by
   refine i7 oG (rwE gE ?_);rfl
  have hI2:h2.IsListIter I a (i+1):=by
   exact A9 hI1 λ o ho r=>iEA o ((dS.2 I dI.symm).trans ho) r
  refine ih (i+1) _ _ ((kI i 1 m).trans hm) hI2 ((hl.extBut dX.extBut aI).extBut dS.extBut ad) (λ j p' q' hj=>?_) aA (by erw[tk];exact hk.snoc) λ h' b_ bE ar eS bb=>?_
  ·exact HR (hp j p' q' hj) λ t' u' v' e1 e2=>Kp t' u' v' e1 ((e2.extBut dX.extBut (ea e2)).extBut dS.extBut (gu e2))
  ·exact hR h' b_ bE ar eS λ b o dj eW e=>bb b o dj eW ((dS.2 b dj).trans ((dX.2 b eW).trans e))
theorem pairInts?_some{v:V}{p:Int×Int}(h:pairInts? v=some p):v = .tup [.int p.1,.int p.2]:=by
 refine Ag h λ l h1 h=>Ag h λ q h2 h=>Ag h λ a h3 h=>AY h λ b h4 e=>?_
 (refine rwS e (i7 (V.tup?_some h1) ?_);erw[two?_some h2,V.int?_some h3];exact rwE (V.int?_some h4) rfl)
theorem Ra{vs:List V}:∀ {l:List (Int×Int)} {xs:List Value},F7 vs=some l->AF w P g vs xs->Sub g h->l.length=xs.length/\Kd l xs.toArray h:=by
 induction vs with
 | nil=>
  intro l xs e r _
  refine r.nR ?_
  refine rwS (hG e) ?_
  exact iA rfl (λ j p q hj=>(none_some hj))
 | cons v vs ih=>
  intro l xs e r u
  refine Ag e λ pq h1 e=>AY e λ l' h2 e=>rwS e ?_
  refine r.cR λ _ _ a b=>qA (ih h2 b u) λ i1 i2=>iA (congrArg (·+1) i1) (λ j p' q' hj=>?_)
  cases j with
  | zero=>
   rw[pairInts?_some h1,hG hj]at a
   cases a with
   | tup ga hc hd rl hz=>
    rename_i t o items k
    obtain⟨items⟩:=items
    cases rl with | cons r1 rl=>
    cases rl with | cons r2 rl=>
    cases rl
    cases r1 with | int _ t1=>
    cases r2 with | int _ t2=>
    exact NI t t1 t2 rfl o (u _ _ ga) hc _ hd
  | succ j=>
   exact HR (i2 j p' q' hj) λ t u1 v1 e1 e2=>Kp t u1 v1 (by simpa using e1) e2
theorem LO{vs:List V}{l:List (Int×Int)}{x:Value}(H:AP w P fr g O s)(hh:A.handled=none)(hv:CR w P fr g n s.heap (.lst vs,.fresh) x)(hp:F7 vs=some l)(hn:(l.map (·.1)).Nodup)(hl:l.length<=64)
  (gq:(s.heap.objs.size==sysModules)=false) :
  wpAny (model prog w) A (jH (.type "dict") [x]) (OpQ w P fr g O s (.idict l,.val)) E s:=by
 refine DV hv λ a items aa ma dL rl hz=>rwE aa ?_
 refine qA (Ra (h:=s.heap) hp rl H.sub) λ ai gy=>callType_codes (Q₁:=λ e9 a9=>e9 = .ref s.heap.objs.size/\a9={s with heap:=s.heap.push {cls:=.type "dict",data:=.dict #[]}}) F.kt_called_dict (F.kt_typeCall_dict_1 _) PySem.F.entry_dict_init (kt_code_dict_new _ ⟨rfl,rfl⟩) ?_
 rintro e9 a9 ⟨rfl,rfl⟩
 obtain bv:(s.heap.push {cls:=.type "dict",data:=.dict #[]}).DictOf (intKind prog w) s.heap.objs.size []:=rN s.heap
 obtain k1:=Av _ _
 obtain fD:=Ak _
 have gM:∀ {h1 h2:Heap},(∀ b o,h1.get? b=some o->h2.get? b=some o)->PlainL h1 a items->PlainL h2 a items:=λ k ⟨o,n,ho,r⟩=>iEEA o n (k _ _ ho) r
 obtain gf:∀ {h1 h2:Heap},(∀ b o,h1.get? b=some o->h2.get? b=some o)->Kd l items.toList.toArray h1->Kd l items.toList.toArray h2:=λ k hp j p q hj=>by
  exact RV (hp j p q hj) λ t u v e1 o ho r=>RP t u v e1 o (k _ _ ho) r
 refine iAA bv.typeIs (PySem.F.args_dict_init_2 _ _) ?_
 refine i5 (i5 (wpAny_notOrdered_dict bv.typeIs ?_))
 refine iI ?_
 obtain dF:=gM k1 dL
 refine i5 (nF (plainL_isList dF).typeIs ?_)
 refine rwE (if_pos (by decide)) (i5 (NT dF hh λ h2 tk2 k2=>?_))
 refine i5 (wpAny_rule ?_)
 obtain eI:=gM k2 dF
 refine i5 (wpAny_pyIter_list (plainL_isList eI) ?_)
 obtain k3:=Av _ _
 obtain fI:=Ak _
 refine iI (iA (tD ET _) ?_)
 obtain hpr:Kd l items _:=(by simp:items.toList.toArray=items)▸gf k3 (gf k2 (gf k1 gy))
 obtain gO:(h2.push {cls:=.type "list_iterator",data:=.fields #[.ref a,.int 0 0]}).DictOf (intKind prog w) s.heap.objs.size []:=by
  exact HR bv λ o es ep ho r=>Kp o es ep (k3 _ _ (k2 _ _ ho)) r
 refine QC (A:=A.in1) (w:=w) (l:=l) (show A.in1.handled=none from hh) hn (by simpa using ai) hl items.size 0 {s with heap:=h2.push {cls:=.type "list_iterator",data:=.fields #[.ref a,.int 0 0]},toks:=tk2} [] (by simp) (iEAA _ (jC _ rfl) rfl rfl) (plainL_isList (gM k3 eI)) hpr gO trivial λ h' tk bE ar eS bb=>?_
 refine iA rfl ?_
 obtain hkk:∀ b o,s.heap.get? b=some o->h'.get? b=some o:=λ b o e=>by
  have e2:=k2 _ _ (k1 _ _ e)
  refine bb b o (λ z=>by rw[z,fD]at e;exact none_some e) (λ z=>by rw[z,fI]at e2;exact none_some e2) (k3 _ _ e2)
 exact A9 ((pU).mp ar) λ o ho hi=>iEA _ (H.keepsPut (t':=tk) hkk fD ho) (.idict Ch hi eS gq)
end
def Gc(g:Gs)(x:hV)(v:Value):Prop:=∀ h,Sub g h->∃ mg,h.Ns mainGlobals mg/\mg x=some v
def Uo(g:Gs)(x:hV)(v:Value):Prop:=∀ h,Sub g h->∃ mg mb,h.Ns mainGlobals mg/\mg x=none/\h.Ns builtinsNs mb/\mb x=some v
def FnAt(g:Gs)(a:Addr):Prop:=∃ o fd,g a=some o/\o.data = .func fd
def Ev.ok(fd:Ev):Bool:=fd.scope.kind==.function&&!fd.scope.isCoroutine&&!fd.scope.isGenerator&&decide fd.params.Nodup&&(fd.params.all λ x=>fd.scope.names.lookup x==some .local||fd.scope.names.lookup x==some .cell)&&fd.scope.names.all λ p=>p.2 != .free&&(p.2 != .cell||fd.scope.names.lookup p.1==some .cell)
def FnOK(w:World)(P:Option Addr)(g:Gs)(fd:Ev)(a:Addr):Prop:=∃ o aq,g a=some o/\o.data = .func aq/\aq.body = .stmts fd.body/\aq.scope=fd.scope/\aq.globals=mainGlobals/\aq.builtins=builtinsNs/\aq.closure=[] /\
 (∀ h,Sub g h->h.NoLimit/\h.CodeRec aq.code aq.qualname)/\fd.ok=true /\
 ∀ (g':Gs) (s:Shared) (vs:List V) (xs:List Value) (J:R),(∀ b o,g b=some o->g' b=some o)->Sub g' s.heap->AF w P g' vs xs->bindA fd vs=some J ->
  ∃ us ys,J=fd.params.zip (us.map .val)/\us.length=fd.params.length/\AF w P g' us ys/\BindsTo s aq ⟨xs,[]⟩ (fd.params.zip ys)
def P2(w:World)(P:Option Addr)(g:Gs):Prop:=∀ (A:Around) (fr:List Addr) (O:A4) (g':Gs) (s:Shared),(∀ b o,g b=some o->g' b=some o)->KX A 3 fr->AP w P fr g' O s->∀ xs:List Value,xs.length=1\/xs.length=2 ->
 wpAny (model prog w) A (jH (.ref C) xs) (λ v s'=>∃ a o t h' t',s'={s with heap:=h',toks:=t'}/\v = .ref a/\s.heap.get? a=none/\(∀ b o,s.heap.get? b=some o->h'.get? b=some o)/\h'.get? a=some o /\
  o.cls = .ref C/\o.data = .fields #[t,.none,.none,.none,.bool false,.none]) (λ _ _=>False) s
def Re(o:Obj):Prop:=∃ nm q N bs bm br sn sub ab cj dd k0 k1 k2 k3 k5 aZ,o=excClassObj nm q C N bs bm br sn sub ab cj dd k0 k1 k2 k3 k5 aZ/\bm.contains (.type "BaseException")=true
def UQ(g:Gs):Prop:=∃ o,g C=some o/\Re o
structure Tp(w:World)(P:Option Addr)(g:Gs):Prop where
 gl:∀ x v,G.gl x=some v->∃ xv,Rep w P g v xv/\Gc g x xv
 bn:∀ x,x∈Bn\/x="range"\/x="enumerate"->Uo g x (Dd x)
 fn:∀ f fd,G.fn f=some fd->∃ a,Gc g f (.ref a)/\FnAt g a/\FnOK w P g fd a
 fault:Gc g "MimeFault" (.ref C)
 emk:P2 w P g
 ecl:UQ g
def GU(P:Option Addr)(fr:List Addr)(n:Heap)(g:Gs)(h:Heap)(b7:Option Addr)(e:Value):Prop:=
 ∃ a oe vs,e = .ref a/\A3 P fr g n a/\h.get? a=some oe/\oe.cls = .ref C/\oe.data = .fields vs /\
  (vs[1]?=some .none\/∃ T oT ts,vs[1]?=some (.ref T)/\T≠a/\A3 P fr g n T/\h.get? T=some oT/\oT.data = .fields ts/\(ts[3]?=some .none\/∃ L,b7=some L/\ts[3]?=some (rawInt L)))
section
variable (w:World) (P:Option Addr) (fr:List Addr)
def okQ(g:Gs)(O':A4)(s:Shared):Out TV->Value->Shared->Prop
 | .ok t=>OpQ w P fr g O' s t
 | .exc=>λ _ _=>False
def exQ{α:Type}(b7:Option Addr)(g:Gs)(O':A4)(s:Shared):Out α->Value->Shared->Prop
 | .ok _=>λ _ _=>False
 | .exc=>λ e s'=>∃ g',AE w fr P g s g' O' s'/\GU P fr s.heap g' s'.heap b7 e
def tsQ(g:Gs)(O':A4)(s:Shared):Out Bool->Bool->Shared->Prop
 | .ok b=>λ c s'=>c=b/\∃ g',AE w fr P g s g' O' s'
 | .exc=>λ _ _=>False
end
structure At(w:World)(P:Option Addr)(sc:Scope)(J:R)(env:Env)(A:Around)(d:Nat)(fr:List Addr)(g:Gs)(ah:Heap)(O:A4)(s:Shared):Prop where
 ok:IU sc env
 a:KX A d fr
 here:AP w P fr g O s
 fro:FrOK w P env fr J g s.heap ah
 tp:Tp w P g
 dom:∀ a,ah.get? a≠none->s.heap.get? a≠none
section
variable (w:World) (P:Option Addr)
def Bp(E:Scope->R->hJ->Mo TV)(d:Nat):Prop:=∀ (sc:Scope) (J:R) (e:hJ) (O O':A4) (o:Out TV),E sc J e O=some (o,O') ->
 ∀ (env:Env) (A:Around) (fr:List Addr) (g:Gs) (ah:Heap) (s:Shared),At w P sc J env A d fr g ah O s ->
  wpAny (model prog w) A (eval e env) (okQ w P fr g O' s o) (exQ w P fr env.frame g O' s o) s
def Ff(T:Scope->R->hJ->Mo Bool)(d:Nat):Prop:=∀ (sc:Scope) (J:R) (e:hJ) (O O':A4) (o:Out Bool),T sc J e O=some (o,O') ->
 ∀ (env:Env) (A:Around) (fr:List Addr) (g:Gs) (ah:Heap) (s:Shared),At w P sc J env A d fr g ah O s ->
  wpAny (model prog w) A (isTrue e env (eval e env)) (tsQ w P fr g O' s o) (exQ w P fr env.frame g O' s o) s
def QI(Cf:hV->List V->Mo V)(d:Nat):Prop:=∀ (f:hV) (vs:List V) (O O':A4) (o:Out V),Cf f vs O=some (o,O') ->
 ∀ (a:Addr) (xs:List Value) (b7:Option Addr) (A:Around) (fr:List Addr) (g:Gs) (s:Shared),KX A d fr->AP w P fr g O s->Tp w P g->Gc g f (.ref a)->AF w P g vs xs ->
  wpAny (model prog w) A (jH (.ref a) xs) (okQ w P fr g O' s (match o with | .ok v=>.ok (v,.val) | .exc=>.exc)) (exQ w P fr b7 g O' s o) s
end
section
variable {fr:List Addr}
variable {e:Value}
theorem Tp.mono(T:Tp w P g)(k:∀ b o,g b=some o->g' b=some o):Tp w P g' where
 gl:=λ x v h=>let ⟨xv,r,gn⟩:=T.gl x v h;(iEA xv (r.mono k) (λ h' u=>gn h' λ b o e=>u b o (k b o e)))
 bn:=λ x hx h' u=>T.bn x hx h' λ b o e=>u b o (k b o e)
 fn:=λ f fd h=>by
  refine CQ (T.fn f fd h) λ a gn aa o1 fd1 f1 f2 f3 f4 f5 f6 f7 f8 f9 f10=>?_;obtain⟨o,aq,q,r⟩:=aa
  exact⟨a,λ h' u=>gn h' λ b o e=>u b o (k b o e),⟨o,aq,k _ _ q,r⟩,o1,fd1,k _ _ f1,f2,f3,f4,f5,f6,f7,λ h' u=>f8 h' λ b o e=>u b o (k b o e),f9,
   λ g1 s vs xs J hk=>f10 g1 s vs xs J λ b o e=>hk b o (k b o e)⟩
 fault:=λ h' u=>T.fault h' λ b o e=>u b o (k b o e)
 emk:=λ A fr O g1 s hk=>T.emk A fr O g1 s λ b o e=>hk b o (k b o e)
 ecl:=T.ecl.imp λ _ q=>⟨k _ _ q.1,q.2⟩
theorem Tp.sys{h:Heap}(T:Tp w P g)(u:Sub g h):(h.objs.size==sysModules)=false:=by
 refine A9 (T.fault h u) λ mg aa _=>?_;obtain⟨o,es,ep,ho,_⟩:=aa
 obtain this:=pP ho
 obtain h2:=this
 refine uB beq_eq_false_iff_ne (rwE (ne_eq ..) ?_)
 exact(λ z=>absurd (z▸this) (by decide):h.objs.size≠1)
theorem At.step(X:At w P sc J env A d fr g ah O s)(S:AE w fr P g s g' O' s'):At w P sc J env A d fr g' ah O' s':=
 ⟨X.ok,X.a,X.here.step S,X.fro.mono S.so S.ext,X.tp.mono S.ext.1,λ a e=>S.so.dom a (X.dom a e)⟩
theorem A3.older{n n':Heap}{a:Addr}(x:A3 P fr g n' a)(k:n'.get? a=none->n.get? a=none):A3 P fr g n a:=⟨k x.new,x.out,x.nopen,x.nofr⟩
theorem GU.older{n n' h:Heap}(k:∀ a,n'.get? a=none->n.get? a=none)(x:GU P fr n' g h b7 e):GU P fr n g h b7 e:=by
 refine EX x λ a oe vs he m h1 h2 h3 h4=>GM a oe vs he (m.older (k a)) h1 h2 h3 ?_
 rcases h4 with h4 | ⟨T,oT,ts,q1,q2,q3,q4⟩
 ·exact .inl h4
 ·exact .inr (CH T oT ts q1 q2 (q3.older (k T)) q4)
theorem exQ.after{α:Type}{o:Out α}(S:AE w fr P g s g' O' s')(q:exQ w P fr b7 g' O'' s' o e aY):exQ w P fr b7 g O'' s o e aY:=by
 cases o with
 | ok _=>exact q
 | exc=>
  exact exE2 q λ aT S' F=>iEA aT (S.trans0 S') (F.older λ a e=>S.so.back e)
theorem okQ.after{o:Out TV}{x:Value}(S:AE w fr P g s g' O' s')(q:okQ w P fr g' O'' s' o x aY):okQ w P fr g O'' s o x aY:=by
 cases o with
 | ok t=>exact OpQ.after S q
 | exc=>exact q
theorem tsQ.after{o:Out Bool}{x:Bool}(S:AE w fr P g s g' O' s')(q:tsQ w P fr g' O'' s' o x aY):tsQ w P fr g O'' s o x aY:=by
 cases o with
 | ok t=>exact⟨q.1,let ⟨aT,S'⟩:=q.2;⟨aT,S.trans0 S'⟩⟩
 | exc=>exact q
theorem BO{α:Type}{xc:Model}{m:Sem α}{Q:α->Shared->Prop}{EE:Value->Shared->Prop}(h:∀ (Q':α->Shared->Prop) (E':Value->Shared->Prop),(∀ v s',Q v s'->Q' v s')->(∀ e s',EE e s'->E' e s')->wpAny xc A m Q' E' s):wpAny xc A m Q EE s:=
 h Q EE (λ _ _=>id) λ _ _=>id
theorem bind_some{α β:Type}{m:Mo α}{f:α->Mo β}{o:Out β}(h:Mo.bind m f O=some (o,O'')) :
  (∃ a O',m O=some (.ok a,O')/\f a O'=some (o,O''))\/(m O=some (.exc,O'')/\o = .exc):=by
 cases q:m O with
 | none=>unfold Mo.bind at h;replace h:=q▸h;exact none_some h
 | some p=>
  unfold Mo.bind at h;rw[q]at h
  clear q
  obtain⟨o',O'⟩:=p
  cases o' with
  | ok a=>exact .inl (iEEA a O' rfl h)
  | exc=>cases h;exact .inr (iA rfl rfl)
theorem AC{α:Type}{m:Option α}{o:Out α}(h:Mo.lift m O=some (o,O')):∃ a,m=some a/\o = .ok a/\O'=O:=by
 cases m with
 | none=>exact none_some h
 | some a=>cases h;exact iEAA a rfl rfl rfl
theorem AW{α:Type}{a:α}{o:Out α}(h:Mo.ret a O=some (o,O')):o = .ok a/\O'=O:=by
 unfold Mo.ret at h;cases h;exact⟨rfl,rfl⟩
theorem Tx{α:Type}{E:Scope->R->hJ->Mo TV}{f:TV->Mo α}{o:Out α}{x:hJ}{Q:Value->Shared->Prop}{EE:Value->Shared->Prop}(hE:Bp w P E d)(X:At w P sc J env A d fr g ah O s)
  (h:Mo.bind (E sc J x) f O=some (o,O''))
  (hx:o = .exc->∀ e s',exQ w P fr env.frame g O'' s (Out.exc:Out α) e s'->EE e s')
  (k:∀ t O' v s' g',f t O'=some (o,O'')->AE w fr P g s g' O' s'->CR w P fr g' s.heap s'.heap t v->At w P sc J env A d fr g' ah O' s'->Q v s') :
  wpAny (model prog w) A (eval x env) Q EE s:=by
 rcases bind_some h with ⟨t,O',e1,e2⟩| ⟨e1,rfl⟩
 ·refine iG (hE sc J x O O' _ e1 env A fr g ah s X) (λ v s' q=>?_) (λ _ _ q=>q.elim)
  exact A9 q λ g' S r=>k t O' v s' g' e2 S r (X.step S)
 ·exact iG (hE sc J x O O'' _ e1 env A fr g ah s X) (λ v s' q=>q.elim) λ e s' q=>hx rfl e s' q
end
section
variable {fr:List Addr}
variable {E:Scope->R->hJ->Mo TV}
theorem KX.le{d':Nat}(a:KX A d fr)(h:d'<=d):KX A d' fr:=⟨a.handled,by obtain this:=a.depth;exact iQ (j5 h _) this,by obtain this:=a.units;exact iQ (j5 (iP 8 h) _) this,a.frames⟩
theorem At.le{d':Nat}(X:At w P sc J env A d fr g ah O s)(h:d'<=d):At w P sc J env A d' fr g ah O s:=⟨X.ok,X.a.le h,X.here,X.fro,X.tp,X.dom⟩
theorem KX.cLine(a:KX A d fr):A.units < cLine:=by obtain this:=a.units;have:PySem.cLine=9900:=rfl;exact jK (iQ (jF _ _) (by assumption)) (this.symm▸(by decide:9000<=9900))
theorem Cn{α:Type}{f:TV->Mo α}{o:Out α}{x:hJ}{Q:Value->Shared->Prop}{β:Type}{o':Out β}(ho:o = .exc->o' = .exc)(hE:Bp w P E d)(X:At w P sc J env A d fr g ah O s)
  (h:Mo.bind (E sc J x) f O=some (o,O''))
  (k:∀ t O' v s' g',f t O'=some (o,O'')->AE w fr P g s g' O' s'->CR w P fr g' s.heap s'.heap t v->At w P sc J env A d fr g' ah O' s'->Q v s') :
  wpAny (model prog w) A (eval x env) Q (exQ w P fr env.frame g O'' s o') s:=
 Tx hE X h (λ q e s' r=>by erw[ho q];exact r) k
theorem PY{α:Type}{f:Bool->Mo α}{o:Out α}{x:hJ}{Q:Bool->Shared->Prop}{β:Type}{o':Out β}(ho:o = .exc->o' = .exc)(hT:Ff w P T d)(X:At w P sc J env A d fr g ah O s)
  (h:Mo.bind (T sc J x) f O=some (o,O''))
  (k:∀ t O' s' g',f t O'=some (o,O'')->AE w fr P g s g' O' s'->At w P sc J env A d fr g' ah O' s'->Q t s') :
  wpAny (model prog w) A (isTrue x env (eval x env)) Q (exQ w P fr env.frame g O'' s o') s:=by
 rcases bind_some h with ⟨t,O',e1,e2⟩| ⟨e1,rfl⟩
 ·refine iG (hT sc J x O O' _ e1 env A fr g ah s X) (λ v s' q=>?_) (λ _ _ q=>q.elim)
  refine XQ q λ aa g' S=>?_;subst aa
  exact k v O' s' g' e2 S (X.step S)
 ·exact iG (hT sc J x O O'' _ e1 env A fr g ah s X) (λ v s' q=>q.elim) λ e s' q=>rwE (ho rfl) q
theorem Qw{c:Const}{k:Nat}{p:Pos}{o:Out TV}(X:At w P sc J env A d fr g ah O s)(h:Mo.lift ((JE c).map λ v=>(v,HQ.val)) O=some (o,O')) :
  wpAny (model prog w) A (eval (.Constant c k p) env) (okQ w P fr g O' s o) EE s:=by
 refine BG (AC h) λ t e aa al=>rwE aa (rwE al ?_)
 replace e:=Bq e;obtain⟨v,e,rfl⟩:=e
 cases c with
 | none=>(obtain e:=hG e;subst e);exact wpAny_Constant_none (OpQ.flat (t':=s.toks) X.here .none)
 | bool b=>(obtain e:=hG e;subst e);exact wpAny_Constant_bool (OpQ.flat (t':=s.toks) X.here (.bool _))
 | int i=>(obtain e:=hG e;subst e);exact n8 (OpQ.flat X.here (.int _ _))
 | str x=>
  exact Cb e λ hx aa=>rwS aa (s7 (OpQ.flat X.here (Rep.str x.cps.toList _ hx)))
 | bytes b=>
  refine Cb e λ hb aa=>rwS aa ?_
  obtain e1:(b.map (·.toNat)).map j2=b:=by
   refine i7 jR ?_
   conv=>rhs;rw[<-List.map_id b]
   refine mP λ x _=>?_
   simp
  obtain e2:b.toArray=((b.map (·.toNat)).map j2).toArray:=by exact rwE e1 rfl
  erw[arm_eval_Constant]
  obtain R:Rep w P g (.bytes (b.map (·.toNat))) (.bytes b.toArray s.toks):=by
   refine rwE e2 (.bytes _ _ (λ n hn=>?_) (by erw[iH];exact hb))
   exact A9 ((jV).mp hn) λ x _ aa=>rwS aa x.toNat_lt
  exact λ Γ p' hΓ=>OpQ.flat (t':=s.toks+1) X.here R
 | _=>exact none_some e
theorem Oc:∃ e:Heap,∀ a,e.get? a=none:=⟨{objs:=#[]},λ a=>by unfold Heap.get?;simp⟩
theorem BH.bor{sl:Slot}{v:Value}{h:Heap}(r:BH w P fr g h ah sl v):CR w P fr g s.heap h (Qm sl) v:=by
 refine HX Oc λ e he=>?_
 cases sl with
 | val u=>exact r
 | own vs=>
  obtain⟨a,items,rfl,m,r⟩:=r
  exact Nq e he a items rfl ⟨he a,m.out,m.nopen,m.nofr⟩ r
 | ownd vs=>
  obtain⟨a,items,rfl,m,r⟩:=r
  exact Nq e he a items rfl ⟨he a,m.out,m.nopen,m.nofr⟩ r
theorem Bl(K:IU sc env){x:hV}(h:Ah (sc.names.lookup x)=true):Ah (env.kindOf x)=true:=by
 rcases K.kinds x with e | ⟨_,e⟩
 ·exact rwE e h
 ·erw[e];rfl
theorem B8(K:IU sc env){x:hV}(h:(sc.names.lookup x==some .globalImplicit)=true):env.kindOf x=some .globalImplicit:=by
 have h':sc.names.lookup x=some .globalImplicit:=by simpa using h
 rcases K.kinds x with e | ⟨e,_⟩
 ·exact i7 e h'
 ·replace e:=eqL h' e;cases e
theorem CN{x:hV}{v:Value}{p:Pos}{Q:Value->Shared->Prop}(K:IU sc env)(hx:env.kindOf x=some .globalImplicit)(hn:okName x=true)(u:Sub g s.heap)(gn:Gc g x v)(h:Q v s) :
  wpAny (model prog w) A (eval (.Name x p) env) Q EE s:=by
 refine exE2 (gn s.heap u) λ mg hg hv=>oK K.fn hx ?_ (by unfold okName at hn;simp at hn;simpa using hn.1:(x==("__debug__" : hV))=false)
 exact Calls.loadGlobal_global (by erw[K.globals];exact hg) hv h
theorem Eg{x:hV}{v:Value}{p:Pos}{Q:Value->Shared->Prop}(K:IU sc env)(hx:env.kindOf x=some .globalImplicit)(hn:okName x=true)(u:Sub g s.heap)(gn:Uo g x v)(h:Q v s) :
  wpAny (model prog w) A (eval (.Name x p) env) Q EE s:=by
 refine H0 (gn s.heap u) λ mg mb hg hm hb hv=>?_
 obtain hd:(x==("__debug__" : hV))=false:=by unfold okName at hn;simp at hn;simpa using hn.1
 refine oK K.fn hx ?_ hd
 exact sZ (by erw[K.globals];exact hg) hm (by erw[K.builtins];exact hb) hv h
theorem HY{x:hV}{t:TV}{p:Pos}{Q:Value->Shared->Prop}(X:At w P sc J env A d fr g ah O s)(e:E8 G.gl sc J x=some t)
  (k:∀ v,CR w P fr g s.heap s.heap t v->Q v s):wpAny (model prog w) A (eval (.Name x p) env) Q EE s:=by
 unfold E8 at e
 cases aM:okName x with
 | false=>rw[aM]at e;exact none_some e
 | true=>
 rw[aM]at e
 replace e:=C0 (show(if Ah (sc.names.lookup x)=true then _ else _)=some t from e)
 rcases e with ⟨ho,e⟩| e
 ·refine AK λ Z zk=>AY e λ sl hs e0=>?_;subst e0
  refine exE2 (X.fro.vals x sl hs (Bl X.ok ho)) λ v hv r=>zk (uQ (MF X.ok.fn hv (by unfold okName at aM;simp at aM;simpa using aM.2:(x==("__classdict__" : hV))=false) (k v r.bor)) (by unfold okName at aM;simp at aM;simpa using aM.1:(x==("__debug__" : hV))=false))
 ·refine AK λ Z zk=>KW e λ hg e=>AY e λ v hv e0=>?_;subst e0
  exact exE2 (X.tp.gl x v hv) λ xv r gn=>zk (CN X.ok (B8 X.ok hg) aM X.here.sub gn (k xv r))
theorem RZ{x:hV}{p:Pos}{o:Out TV}(X:At w P sc J env A d fr g ah O s)(h:Mo.lift (E8 G.gl sc J x) O=some (o,O')) :
  wpAny (model prog w) A (eval (.Name x p) env) (okQ w P fr g O' s o) EE s:=by
 refine BG (AC h) λ t e aa al=>rwE aa (rwE al ?_)
 exact HY X e λ v r=>iEA g X.here.refl r
theorem Qr{l r:hJ}{op:Operator}{p:Pos}{o:Out TV}(hE:Bp w P E d)(X:At w P sc J env A d fr g ah O s)
  (h:Mo.bind (E sc J l) (λ a=>.bind (E sc J r) λ b=>.lift ((A1 op a.1 b.1).map AI)) O=some (o,O')) :
  wpAny (model prog w) A (eval (.BinOp l op r p) env) (okQ w P fr g O' s o) (exQ w P fr env.frame g O' s o) s:=by
 refine wpAny_BinOp (Cn id hE X h λ a O1 va s1 g1 h1 S1 r1 X1=>?_)
 refine iG (Cn (o':=o) id hE X1 h1 λ b O2 vb s2 g2 h2 S2 r2 X2=>?_) (λ _ _ q=>q) λ e s' q=>exQ.after S1 q
 refine AK λ Z zk=>?_
 clear X X1 h h1 hE
 refine BG (AC h2) λ t e aa al=>?_;subst aa;subst al
 refine AY e λ c e1 e0=>?_;subst e0
 refine zk (iG (J6 (fr:=fr) (E:=λ _ _=>False) X2.here ((r1.mono S2.so S2.ext).vw X2.here.sub) (r2.vw X2.here.sub) e1) (λ v s' q=>?_) λ _ _ q=>q.elim)
 exact OpQ.after S1 (OpQ.after S2 q)
theorem Vj{x:hJ}{p:Pos}{o:Out TV}(hE:Bp w P E d)(X:At w P sc J env A d fr g ah O s)
  (h:Mo.bind (E sc J x) (λ a=>.lift (a.1.int?.map λ i=>(V.int (-i),HQ.val))) O=some (o,O')) :
  wpAny (model prog w) A (eval (.UnaryOp .USub x p) env) (okQ w P fr g O' s o) (exQ w P fr env.frame g O' s o) s:=by
 refine rwE (arm_eval_UnaryOp ..) (i5 (Cn id hE X h λ a O1 va s1 g1 h1 S1 r1 X1=>i5 (kB (jN ?_))))
 obtain v1:=r1.vw X1.here.sub
 refine BG (AC h1) λ t e aa au=>rwE aa (rwE au ?_)
 replace e:=Bq e;obtain⟨i,e,rfl⟩:=e
 replace v1:=(V.int?_some e)▸v1
 exact qE v1.int λ t aa=>rwE aa (PyProof.Rows.neg_int (OpQ.after S1 (OpQ.flat X1.here (.int _ _))))
theorem Po{t a b:hJ}{p:Pos}{o:Out TV}(hE:Bp w P E d)(hT:Ff w P T d)(X:At w P sc J env A d fr g ah O s)
  (h:Mo.bind (T sc J t) (λ c=>if c then E sc J a else E sc J b) O=some (o,O')) :
  wpAny (model prog w) A (eval (.IfExp t a b p) env) (okQ w P fr g O' s o) (exQ w P fr env.frame g O' s o) s:=by
 refine rwE (arm_eval_IfExp ..) (i5 (PY id hT X h λ c O1 s1 g1 h1 S1 X1=>?_))
 cases c with
 | true=>exact iG (hE sc J a O1 O' o h1 env A fr g1 ah s1 X1) (λ _ _ q=>okQ.after S1 q) λ _ _ q=>exQ.after S1 q
 | false=>exact iG (hE sc J b O1 O' o h1 env A fr g1 ah s1 X1) (λ _ _ q=>okQ.after S1 q) λ _ _ q=>exQ.after S1 q
theorem Th{op:BoolOp}{p:Pos}(hE:Bp w P E d)(es:List hJ):∀ {O O':A4} {o:Out TV} {g:Gs} {s:Shared} (_:At w P sc J env A d fr g ah O s)
  (_:QB E sc J op es O=some (o,O')),wpAny (model prog w) A (boolOp p op (evalEach es env)) (okQ w P fr g O' s o) (exQ w P fr env.frame g O' s o) s:=by
 induction es with
 | nil=>intro _ _ _ _ _ _ h;exact none_some h
 | cons x r ih=>
  intro O O' o g s X h
  cases r with
  | nil=>exact hE sc J x O O' o h env A fr g ah s X
  | cons y r=>
   refine i5 (Cn id hE X h λ a O1 va s1 g1 h1 S1 r1 X1=>i5 (kB ?_))
   clear h X
   obtain⟨a0,ow⟩:=a
   cases hb:a0.bool? with
   | none=>dsimp only at h1;replace h1:=hb▸h1;exact none_some h1
   | some b=>
    (first | (obtain rfl:=V.bool?_some hb) | cases V.bool?_some hb)
    cases (r1.vw X1.here.sub).bool
    refine i5 (jN (oI ?_))
    obtain stop:Mo.ret (V.bool b,ow) O1=some (o,O')->okQ w P fr g O' s o (.bool b) s1:=λ q=>by
     exact rA (AW q) λ al=>rwE al (iEA g1 S1 r1)
    obtain go:=λ h2=>
     iG (ih X1 h2) (λ _ _ q=>okQ.after S1 q) λ _ _ q=>exQ.after S1 q
    generalize okQ w P fr g O' s o=Q1 at stop go ⊢
    generalize exQ w P fr env.frame g O' s o=Q2 at go ⊢
    cases op <;> cases b
    ·exact iI (stop h1)
    ·exact go h1
    ·exact go h1
    ·exact iI (stop h1)
def chQ(w:World)(P:Option Addr)(fr:List Addr)(g:Gs)(O':A4)(s:Shared):Out Bool->Value->Shared->Prop
 | .ok b=>λ v s'=>v = .bool b/\∃ g',AE w fr P g s g' O' s'
 | .exc=>λ _ _=>False
theorem chQ.after{o:Out Bool}{x:Value}(S:AE w fr P g s g' O' s')(q:chQ w P fr g' O'' s' o x aY):chQ w P fr g O'' s o x aY:=by
 cases o with
 | ok t=>exact⟨q.1,let ⟨aT,S'⟩:=q.2;⟨aT,S.trans0 S'⟩⟩
 | exc=>exact q
theorem Dl{e:hJ}{r:List hJ}(h:BC (e::r)=true)(op:CmpOp):behindInMarks op e=false/\BC r=true:=by
 unfold BC at h ⊢
 rw[lD,iC]at h
 refine⟨?_,h.2⟩
 have:=h.1
 clear h
 cases e <;> first | rfl | exact fls this
theorem Km{p:Pos}(hE:Bp w P E d)(ops:List CmpOp):∀ (rs:List hJ) {O O':A4} {o:Out Bool} {g:Gs} {s:Shared} {t:TV} {x:Value} {n:Heap} (_:BC rs=true) (_:At w P sc J env A d fr g ah O s)
  (_:CR w P fr g n s.heap t x) (_:B3 E sc J t.1 ops rs O=some (o,O')),
  wpAny (model prog w) A (compareChain p x ops (markedEach ops rs (evalEach rs env))) (chQ w P fr g O' s o) (exQ w P fr env.frame g O' s o) s:=by
 induction ops with
 | nil=>intro rs _ _ _ _ _ _ _ _ _ _ _ h;exact none_some h
 | cons op ops ih=>
 intro rs O O' o g s t x n hs X rt h
 cases rs with
 | nil=>exact none_some h
 | cons r rs=>
 cases ops with
 | nil=>
  cases rs with
  | cons _ _=>exact none_some h
  | nil=>
  obtain hm:=(Dl hs op).1
  show wpAny _ _ (do let rv <-holding [x] (markedBehindIn op r (eval r env));standAt p;operate [x,rv] (compareOp op x rv)) _ _ s
  refine rwE (markedBehindIn_of_false hm) (i5 (jN (Cn id hE X h λ b O1 vb s1 g1 h1 S1 r1 X1=>i5 (kB (wpAny_operating ?_)))))
  refine BG (AC h1) λ c e1 aa al=>rwE aa (rwE al ?_)
  refine iG (Dj (fr:=fr) (E:=λ _ _=>False) X1.here X1.a.cLine ((rt.mono S1.so S1.ext).vw X1.here.sub) (r1.vw X1.here.sub) e1) (λ v s' q=>?_) λ _ _ q=>q.elim
  refine AK λ Z zk=>A9 q λ g2 S2 r2=>?_
  cases r2
  exact zk (iAE rfl g2 (S1.trans0 S2))
 | cons dH ops=>
  have e:markedEach (op::dH::ops) (r::rs) (evalEach (r::rs) env)=eval r env::markedEach (dH::ops) rs (evalEach rs env):=by
   cases rs <;> rfl
  erw[e]
  obtain eL:=(Dl hs op).2
  refine i5 (jN (Cn id hE X (show Mo.bind (E sc J r) (λ b=>.bind (.lift (CK op t.1 b.1)) λ c=>if c then B3 E sc J b.1 (dH::ops) rs else .ret false) O=some (o,O') from h) λ b O1 vb s1 g1 h1 S1 r1 X1=>i5 (kB (i5 (jN ?_)))))
  rcases bind_some h1 with ⟨c,O2,e1,e2⟩| ⟨e1,_⟩
  ·refine AK λ Z zk=>?_
   clear X h1 hE hs
   refine BG (AC e1) λ c' e3 e4 aa=>?_;subst aa
   cases e4
   refine zk (iG (Dj (fr:=fr) (E:=λ _ _=>False) X1.here X1.a.cLine ((rt.mono S1.so S1.ext).vw X1.here.sub) (r1.vw X1.here.sub) e3) (λ v s' q=>?_) λ _ _ q=>q.elim)
   refine AK λ Z zk=>A9 q λ g2 S2 r2=>?_
   cases r2
   refine zk (i5 (wpAny_release (i5 (jN (oI ?_)))))
   cases c with
   | true=>exact iG (ih rs eL (X1.step S2) (r1.mono S2.so S2.ext) e2) (λ _ _ q=>(q.after S2).after S1) λ _ _ q=>exQ.after S1 (exQ.after S2 q)
   | false=>
    refine qA (AW e2) λ aa al=>rwE aa (rwE al ?_)
    exact iI (iAE rfl g2 (S1.trans0 S2))
  ·exact exE3 (AC e1) λ _ _ e4 _=>nc Mine.Out.ctorIdx e4 (.refl false)
theorem Pp{p:Pos}(hE:Bp w P E d)(ops:List CmpOp):∀ (rs:List hJ) {O O':A4} {o:Out Bool} {g:Gs} {s:Shared} {t:TV} {x:Value} {n:Heap} (_:BC rs=true) (_:At w P sc J env A d fr g ah O s)
  (_:CR w P fr g n s.heap t x) (_:B3 E sc J t.1 ops rs O=some (o,O')),
  wpAny (model prog w) A (testChain p x ops (markedEach ops rs (evalEach rs env))) (tsQ w P fr g O' s o) (exQ w P fr env.frame g O' s o) s:=by
 induction ops with
 | nil=>intro rs _ _ _ _ _ _ _ _ _ _ _ h;exact none_some h
 | cons op ops ih=>
 intro rs O O' o g s t x n hs X rt h
 cases rs with
 | nil=>exact none_some h
 | cons r rs=>
 cases ops with
 | nil=>
  cases rs with
  | cons _ _=>exact none_some h
  | nil=>
  obtain hm:=(Dl hs op).1
  show wpAny _ _ (do let rv <-holding [x] (markedBehindIn op r (eval r env));standAt p;let c <-operate [x,rv] (compareOp op x rv);holding [c] (truthy c)) _ _ s
  refine rwE (markedBehindIn_of_false hm) (i5 (jN (Cn id hE X h λ b O1 vb s1 g1 h1 S1 r1 X1=>i5 (kB (i5 (wpAny_operating ?_))))))
  refine BG (AC h1) λ c e1 aa al=>?_;subst aa;refine rwE al (iG (Dj (fr:=fr) (E:=λ _ _=>False) X1.here X1.a.cLine ((rt.mono S1.so S1.ext).vw X1.here.sub) (r1.vw X1.here.sub) e1) (λ v s' q=>?_) λ _ _ q=>q.elim)
  refine AK λ Z zk=>A9 q λ g2 S2 r2=>?_
  cases r2
  exact zk (jN (oI ⟨rfl,g2,S1.trans0 S2⟩))
 | cons dH ops=>
  have e:markedEach (op::dH::ops) (r::rs) (evalEach (r::rs) env)=eval r env::markedEach (dH::ops) rs (evalEach rs env):=by
   cases rs <;> rfl
  erw[e]
  obtain eL:=(Dl hs op).2
  refine i5 (jN (Cn id hE X (show Mo.bind (E sc J r) (λ b=>.bind (.lift (CK op t.1 b.1)) λ c=>if c then B3 E sc J b.1 (dH::ops) rs else .ret false) O=some (o,O') from h) λ b O1 vb s1 g1 h1 S1 r1 X1=>i5 (kB (i5 (jN ?_)))))
  rcases bind_some h1 with ⟨c,O2,e1,e2⟩| ⟨e1,_⟩
  ·refine AK λ Z zk=>?_
   refine BG (AC e1) λ c' e3 e4 aa=>?_;subst aa
   cases e4
   refine zk (iG (Dj (fr:=fr) (E:=λ _ _=>False) X1.here X1.a.cLine ((rt.mono S1.so S1.ext).vw X1.here.sub) (r1.vw X1.here.sub) e3) (λ v s' q=>?_) λ _ _ q=>q.elim)
   refine AK λ Z zk=>A9 q λ g2 S2 r2=>?_
   cases r2
   refine zk (i5 (wpAny_release (i5 (jN (oI ?_)))))
   cases c with
   | true=>exact iG (ih rs eL (X1.step S2) (r1.mono S2.so S2.ext) e2) (λ _ _ q=>(q.after S2).after S1) λ _ _ q=>exQ.after S1 (exQ.after S2 q)
   | false=>
    refine qA (AW e2) λ aa al=>rwE aa (rwE al ?_)
    exact iI ⟨rfl,g2,S1.trans0 S2⟩
  ·exact BG (AC e1) λ _ _ e4 _=>nc Mine.Out.ctorIdx e4 (.refl false)
theorem Mm{l:hJ}{ops:List CmpOp}{rs:List hJ}{p:Pos}{o:Out TV}(hE:Bp w P E d)(X:At w P sc J env A d fr g ah O s)(hs:BC rs=true)
  (h:Mo.bind (E sc J l) (λ a=>.bind (B3 E sc J a.1 ops rs) λ b=>.ret (.bool b,.val)) O=some (o,O')) :
  wpAny (model prog w) A (eval (.Compare l ops rs p) env) (okQ w P fr g O' s o) (exQ w P fr env.frame g O' s o) s:=by
 refine rwE (arm_eval_Compare ..) (i5 (Cn id hE X h λ a O1 va s1 g1 h1 S1 r1 X1=>?_))
 clear X h
 rcases bind_some h1 with ⟨b,O2,e1,e2⟩| ⟨e1,rfl⟩
 ·refine qA (AW e2) λ aa al=>rwE aa (rwE al ?_)
  refine iG (Km hE ops rs hs X1 r1 e1) (λ v s' q=>?_) λ _ _ q=>q.elim
  exact XQ q λ aa g2 S2=>rwE aa (iEA g2 (S1.trans0 S2) (.bool _))
 ·exact iG (Km hE ops rs hs X1 r1 e1) (λ _ _ q=>q.elim) λ _ _ q=>exQ.after S1 q
theorem K5{l:hJ}{ops:List CmpOp}{rs:List hJ}{p:Pos}{o:Out Bool}{whole:Sem Value}(hE:Bp w P E d)(X:At w P sc J env A d fr g ah O s)(hs:BC rs=true)
  (h:Mo.bind (E sc J l) (λ a=>B3 E sc J a.1 ops rs) O=some (o,O')) :
  wpAny (model prog w) A (isTrue (.Compare l ops rs p) env whole) (tsQ w P fr g O' s o) (exQ w P fr env.frame g O' s o) s:=by
 refine rwE (arm_isTrue_Compare ..) (i5 (Cn id hE X h λ a O1 va s1 g1 h1 S1 r1 X1=>?_))
 exact iG (Pp hE ops rs hs X1 r1 h1) (λ _ _ q=>q.after S1) λ _ _ q=>exQ.after S1 q
theorem Vu{op:BoolOp}(hT:Ff w P T d)(es:List hJ):∀ {O O':A4} {o:Out Bool} {g:Gs} {s:Shared} (_:At w P sc J env A d fr g ah O s)
  (_:H5 T sc J op es O=some (o,O')),wpAny (model prog w) A (allTrue op es env) (tsQ w P fr g O' s o) (exQ w P fr env.frame g O' s o) s:=by
 induction es with
 | nil=>
  intro O O' o g s X h
  have e:=h
  refine qA (AW e) λ aa au=>rwE aa (rwE au ?_)
  clear e
  cases op <;> exact iI (iAE rfl g X.here.refl)
 | cons x r ih=>
  intro O O' o g s X h
  refine rwE (arm_allTrue_cons ..) (i5 (PY id hT X h λ b O1 s1 g1 h1 S1 X1=>?_))
  clear h X
  have stop:∀ b,Mo.ret b O1=some (o,O')->tsQ w P fr g O' s o b s1:=λ b q=>by
   refine qA (AW q) λ aa au=>rwE aa (rwE au ?_)
   exact iAE rfl g1 S1
  obtain go:=λ h2=>
   iG (ih X1 h2) (λ _ _ q=>q.after S1) λ _ _ q=>exQ.after S1 q
  generalize tsQ w P fr g O' s o=Q1 at stop go ⊢
  generalize exQ w P fr env.frame g O' s o=Q2 at go ⊢
  clear S1 X1 hT ih
  cases op <;> cases b
  ·exact iI (stop _ h1)
  ·exact go h1
  ·exact go h1
  ·exact iI (stop _ h1)
theorem WP{x:hJ}{p:Pos}{o:Out Bool}{whole:Sem Value}(hT:Ff w P T d)(X:At w P sc J env A d fr g ah O s)
  (h:Mo.bind (T sc J x) (λ b=>.ret (!b)) O=some (o,O')) :
  wpAny (model prog w) A (isTrue (.UnaryOp .Not x p) env whole) (tsQ w P fr g O' s o) (exQ w P fr env.frame g O' s o) s:=by
 refine rwE (arm_isTrue_UnaryOp ..) (i5 (PY id hT X h λ b O1 s1 g1 h1 S1 X1=>?_))
 refine qA (AW h1) λ aa al=>rwE aa (rwE al ?_)
 exact iI (iAE rfl g1 S1)
theorem Ky{x:hJ}{o:Out Bool}(hE:Bp w P E d)(X:At w P sc J env A d fr g ah O s)(hw:isTrue x env (eval x env)=(do let v <-eval x env;standAt x.pos;holding [v] (truthy v)))
  (h:V5 E sc J x O=some (o,O')) :
  wpAny (model prog w) A (isTrue x env (eval x env)) (tsQ w P fr g O' s o) (exQ w P fr env.frame g O' s o) s:=by
 refine rwE hw (i5 (Cn id hE X h λ a O1 va s1 g1 h1 S1 r1 X1=>i5 (kB (jN ?_))))
 have v1:=r1.vw X1.here.sub
 clear X X1 h hE hw r1
 refine BG (AC h1) λ b e aa au=>rwE aa (rwE au ?_)
 replace v1:=(V.bool?_some e)▸v1
 cases v1.bool
 exact oI (iAE rfl g1 S1)
end
section
variable {fr:List Addr}
variable {E:Scope->R->hJ->Mo TV}
inductive TL(w:World)(P:Option Addr)(fr:List Addr)(g:Gs)(n h:Heap):List TV->List Value->Prop
 | nil:TL w P fr g n h [] []
 | cons {t:TV} {x:Value} {ts:List TV} {xs:List Value}:CR w P fr g n h t x->TL w P fr g n h ts xs->TL w P fr g n h (t::ts) (x::xs)
@[elab_as_elim] theorem TL.cR{w:World}{P:Option Addr}{fr:List Addr}{g:Gs}{n h:Heap}{t:TV}{ts:List TV}{xs:List Value}{motive:List Value->Prop}(r:TL w P fr g n h (t::ts) xs)(k:∀ x xs,CR w P fr g n h t x->TL w P fr g n h ts xs->motive (x::xs)):motive xs:=by
 cases r with | cons a b=>exact k _ _ a b
@[elab_as_elim] theorem TL.nR{w:World}{P:Option Addr}{fr:List Addr}{g:Gs}{n h:Heap}{xs:List Value}{motive:List Value->Prop}(r:TL w P fr g n h [] xs)(k:motive []):motive xs:=by
 cases r;exact k
theorem TL.older{n':Heap}(k:∀ a,n.get? a=none->n'.get? a=none){ts:List TV}{xs:List Value}(r:TL w P fr g n h ts xs):TL w P fr g n' h ts xs:=by
 induction r with
 | nil=>exact .nil
 | cons a _ ih=>exact .cons (a.older k) ih
theorem TL.vwl(u:Sub g h){ts:List TV}{xs:List Value}(r:TL w P fr g n h ts xs):Gi w P g h (ts.map (·.1)) xs:=by
 induction r with
 | nil=>exact .nil
 | cons a _ ih=>exact .cons (a.vw u) ih
theorem CR.val{t:TV}{x:Value}(a:CR w P fr g n h t x)(e:(t.2==.val)=true):Rep w P g t.1 x:=by
 obtain⟨v,ow⟩:=t
 cases (beq_iff_eq.mp e:ow = .val)
 exact a
theorem TL.vals(k:∀ b o,g b=some o->g' b=some o){ts:List TV}{xs:List Value}(r:TL w P fr g n h ts xs)(e:(ts.all λ t=>t.2==.val)=true):AF w P g' (ts.map (·.1)) xs:=by
 induction r with
 | nil=>exact .nil
 | cons a _ ih=>
  replace e:=Eq.mp (iC ..) (eqL lD e)
  exact .cons (Rep.mono k (a.val e.1)) (ih e.2)
theorem TL.share(S:AE w fr P g s g' O' s'){ts:List TV}:∀ {xs:List Value} {vs:List V},TL w P fr g' s.heap s'.heap ts xs->BN ts=some vs ->
  ∃ aT,AE w fr P g s aT O' s'/\AF w P aT vs xs/\∀ b o,g' b=some o->aT b=some o:=by
 induction ts with
 | nil=>intro xs vs r e;cases r;(obtain e:=hG e;subst e);exact iEAA g' S .nil (λ _ _ q=>q)
 | cons t ts ih=>
  intro xs vs r e
  refine r.cR λ _ _ a b=>?_
  obtain⟨v,ow⟩:=t
  cases ow with
  | val=>
   refine AY e λ vs h1 e0=>rwS e0 ?_
   refine exE3 (ih b h1) λ aT S' r k=>?_
   exact iEAA aT S' (.cons (Rep.mono k a) r) k
  | fresh=>
   refine Cb e λ dy aa=>?_;subst aa
   exact exE3 (CR.share S a (show valOf (v,HQ.fresh)=some v from rfl)) λ aT S' r k=>iEAA aT S' (.cons r (b.vals k dy)) k
  | bor=>exact none_some e
theorem BB{e:hJ}{r:List hJ}(h:noStar (e::r)=true):(∀ env:Env,starEach (e::r) env=(false,eval e env)::starEach r env)/\noStar r=true:=by
 unfold noStar at h ⊢
 rw[lD,iC]at h
 refine⟨λ env=>?_,h.2⟩
 have:=h.1
 clear h
 cases e <;> first | rfl | exact fls this
theorem Ee{p:Pos}{es:List hJ}(h:noStar es=true):(backTo p (starEach es env)).any (·.1)=false:=by
 induction es with
 | nil=>rfl
 | cons e r ih=>
  rw[(BB h).1]
  erw[ih (BB h).2];rfl
theorem CV{p:Pos}(hE:Bp w P E d)(es:List hJ):∀ {O O':A4} {o:Out (List TV)} {g:Gs} {s:Shared} (_:noStar es=true) (_:At w P sc J env A d fr g ah O s)
  (_:Mo.mapM (E sc J) es O=some (o,O')),
  wpAny (model prog w) A (spliced (backTo p (starEach es env))) (λ xs s'=>∃ ts g',o = .ok ts/\AE w fr P g s g' O' s'/\TL w P fr g' s.heap s'.heap ts xs) (exQ w P fr env.frame g O' s o) s:=by
 induction es with
 | nil=>
  intro O O' o g s hs X h
  refine qA (AW h) λ aa al=>rwE aa (rwE al ?_)
  exact Calls.spliced_nil (CL [] g rfl X.here.refl .nil)
 | cons e r ih=>
  intro O O' o g s hs X h
  rw[(BB hs).1]
  show wpAny _ _ (spliced ((false,eval e env)::backTo p (starEach r env))) _ _ s
  refine s9 (Cn id hE X h λ t O1 v s1 g1 h1 S1 r1 X1=>?_)
  clear h X
  rcases bind_some h1 with ⟨ys,O2,e1,e2⟩| ⟨e1,rfl⟩
  ·refine qA (AW e2) λ aa al=>rwE aa (rwE al ?_)
   refine iG (ih (BB hs).2 X1 e1) (λ xs s2 q=>?_) λ _ _ q=>q.elim
   refine AK λ Z zk=>QW q λ ts g2 e3 S2 l=>?_
   cases e3
   exact zk (CL _ g2 rfl (S1.trans0 S2) (.cons (r1.mono S2.so S2.ext) (l.older λ a q=>S1.so.back q)))
  ·refine iG (ih (BB hs).2 X1 e1) (λ xs s2 q=>?_) λ _ _ q=>exQ.after S1 q
   exact Ij q λ ts g2 e3 _=>nc Mine.Out.ctorIdx e3 (.refl false)
theorem CB{α:Type}{p:Pos}{es:List hJ}{f:List TV->Mo α}{o:Out α}{β:Type}{o':Out β}(ho:o = .exc->o' = .exc){Q:List Value->Shared->Prop}(hE:Bp w P E d)(hs:noStar es=true)
  (X:At w P sc J env A d fr g ah O s) (h:Mo.bind (Mo.mapM (E sc J) es) f O=some (o,O''))
  (k:∀ ts O' xs s' g',f ts O'=some (o,O'')->AE w fr P g s g' O' s'->TL w P fr g' s.heap s'.heap ts xs->At w P sc J env A d fr g' ah O' s'->Q xs s') :
  wpAny (model prog w) A (spliced (backTo p (starEach es env))) Q (exQ w P fr env.frame g O'' s o') s:=by
 rcases bind_some h with ⟨t,O',e1,e2⟩| ⟨e1,rfl⟩
 ·refine iG (CV hE es hs X e1) (λ v s' q=>?_) (λ _ _ q=>q.elim)
  refine QW q λ ts g' e3 S l=>?_
  cases e3
  exact k t O' v s' g' e2 S l (X.step S)
 ·refine iG (CV hE es hs X e1) (λ v s' q=>?_) λ e s' q=>by erw[ho rfl];exact q
  exact Ij q λ ts g2 e3 _=>nc Mine.Out.ctorIdx e3 (.refl false)
theorem Ds{f:Value}{p:Pos}{es:List hJ}{Q:Args->Shared->Prop}{xc:Model}(hs:noStar es=true)
  (h:wpAny xc A (spliced (backTo p (starEach es env))) (λ vs s'=>Q ⟨vs,[]⟩ s') EE s):wpAny xc A (evalArgs f true (backTo p (starEach es env)) []) Q EE s:=by
 cases es with
 | nil=>
  refine i5 (iG (h:wpAny xc A (spliced []) (λ vs s'=>Q ⟨vs,[]⟩ s') EE s) (λ vs s' h'=>i5 (iI ?_)) λ _ _ q=>q)
  exact jN (i5 (iI (i5 (iI (iI h')))))
 | cons e r=>
  rw[(BB hs).1]at h ⊢
  exact Calls.evalArgs_plain h
theorem B1{id:String}{p:Pos}{es:List hJ}{first:List Value}{Q:Value->Shared->Prop}{xc:Model}(hs:noStar es=true)
  (h:wpAny xc A (spliced (backTo p (starEach es env))) (λ vs s'=>wpAny xc A (jH (.builtin id) (first++vs)) Q EE s') EE s):wpAny xc A (callWith p (.builtin id) first (backTo p (starEach es env)) []) Q EE s:=
 Calls.callWith_builtin (Ee hs) (Ds hs h)
theorem Jp{id:String}{p:Pos}{es:List hJ}{first:List Value}{Q:Value->Shared->Prop}{xc:Model}(hs:noStar es=true)
  (h:wpAny xc A (spliced (backTo p (starEach es env))) (λ vs s'=>wpAny xc A (jH (.type id) (first++vs)) Q EE s') EE s):wpAny xc A (callWith p (.type id) first (backTo p (starEach es env)) []) Q EE s:=
 PyProof.Rows.callWith_type (Ee hs) (Ds hs h)
theorem DC{a:Addr}{o:Obj}{fd:FuncData}{p:Pos}{es:List hJ}{first:List Value}{Q:Value->Shared->Prop}{xc:Model}(hs:noStar es=true)
  (h:wpAny xc A (spliced (backTo p (starEach es env))) (λ vs s'=>(s'.heap.get? a=some o/\o.data = .func fd)/\wpAny xc A (jH (.ref a) (first++vs)) Q EE s') EE s):wpAny xc A (callWith p (.ref a) first (backTo p (starEach es env)) []) Q EE s:=
 Calls.callWith_function (Ds hs h)
theorem bval_is(f:hV):(∃ T,Dd f = .type T)\/∃ id,Dd f = .builtin id:=by
 unfold Dd
 repeat' split
 all_goals first | exact .inl ⟨_,rfl⟩| exact .inr ⟨_,rfl⟩
theorem DY{f:hV}{p:Pos}{es:List hJ}{Q:Value->Shared->Prop}{xc:Model}(hs:noStar es=true)
  (h:wpAny xc A (spliced (backTo p (starEach es env))) (λ vs s'=>wpAny xc A (jH (Dd f) vs) Q EE s') EE s):wpAny xc A (callWith p (Dd f) [] (backTo p (starEach es env)) []) Q EE s:=by
 rcases bval_is f with ⟨T,e⟩| ⟨T,e⟩ <;> rw[e]at h ⊢
 ·exact Jp hs h
 ·exact B1 hs h
theorem N1{f:hV}{as:List V}{xs:List Value}{c:V}(H:AP w P fr g O s)(hh:A.handled=none)(ha:Gi w P g s.heap as xs)(q2:f≠"dict")(e:Bu f as=some c) :
  wpAny (model prog w) A (jH (Dd f) xs) (OpQ w P fr g O s (AI c)) EE s:=by
 by_cases q1:f="list"
 ·subst q1
  erw[(show Dd "list" = .type "list" by decide +kernel)]
  unfold Bu at e
  replace e:=Gn rfl e
  refine Ag e λ v h1 e=>?_
  replace e:=Bq e;obtain⟨b,h2,rfl⟩:=e
  refine A9 (ha.one' h1) λ x aa a=>rwE aa ?_
  (first | (obtain rfl:=V.bytes?_some h2) | cases V.bytes?_some h2)
  exact BG a.bytes λ t aa hb hz=>rwE aa (Ll H hh hb hz)
 exact J9 H hh q1 q2 ha e
theorem SP{f:hV}{np p:Pos}{es:List hJ}{o:Out TV}{kn:hV->Bool}(hE:Bp w P E d)(hC:QI w P Cf d)(hk:∀ f,kn f=true->(G.fn f).isSome=true)
  (X:At w P sc J env A d fr g ah O s)
  (h:(if AR sc f&&noStar es&&(Bn.contains f||kn f) then Mo.bind (.mapM (E sc J) es) λ ts=>Cv Cf f ts else .fail) O=some (o,O')) :
  wpAny (model prog w) A (eval (.Call (.Name f np) es [] p) env) (okQ w P fr g O' s o) (exQ w P fr env.frame g O' s o) s:=by
 cases hc:AR sc f&&noStar es&&(Bn.contains f||kn f) with
 | false=>rw[hc]at h;exact none_some h
 | true=>
 rw[hc]at h
 obtain h:=h
 rw[iC,iC,AR,iC]at hc
 refine qA hc λ aa hf=>?_;obtain⟨⟨hn,hg⟩,hs⟩:=aa
 refine mU rfl ?_
 by_cases hb:Bn.contains f=true
 ·refine Eg X.ok (B8 X.ok hg) hn X.here.sub (X.tp.bn f (.inl (by simpa using hb))) (DY hs (CB id hE hs X h λ ts O1 xs s1 g1 h1 S1 l1 X1=>?_))
  unfold Cv at h1
  by_cases hd:f="dict"
  ·rw[if_pos hd]at h1
   refine BG (AC h1) λ t e aa au=>rwE aa (rwE au ?_)
   refine Ag e λ u h1 e=>Ag e λ vs h2 e=>KW e λ h3 e=>?_
   replace e:=Bq e;obtain⟨c,e1,rfl⟩:=e
   obtain⟨u,ow⟩:=u
   cases (show ow = .fresh from h3)
   (first | (obtain rfl:=V.lst?_some h2) | cases V.lst?_some h2)
   rw[one?_some h1]at l1
   refine l1.cR λ _ _ r1 l0=>l0.nR ?_
   rw[hd]at e1 ⊢
   unfold Bu at e1
   rw[if_neg (by decide),if_pos rfl]at e1
   replace e1:(F7 vs).bind _=some c:=e1
   refine Ag e1 λ l hl e1=>?_
   replace e1:=Bd e1;obtain⟨hn,rfl⟩:=e1
   refine rwE (show Dd "dict" = .type "dict" by decide +kernel) (iG (LO (E:=λ _ _=>False) X1.here X1.a.handled r1 hl hn.1 hn.2 (X1.tp.sys X1.here.sub)) (λ v s' q=>?_) λ _ _ q=>q.elim)
   exact OpQ.after S1 q
  rw[if_neg hd,if_pos hb]at h1
  refine BG (AC h1) λ t e aa al=>rwE aa (rwE al ?_)
  replace e:=Bq e;obtain⟨c,e1,rfl⟩:=e
  refine iG (N1 (fr:=fr) (EE:=λ _ _=>False) X1.here X1.a.handled (l1.vwl X1.here.sub) hd e1) (λ v s' q=>?_) λ _ _ q=>q.elim
  exact OpQ.after S1 q
 ·obtain hkf:kn f=true:=by
   refine jP ((pJ).mp hf) (λ q=>?_) λ q=>?_
   ·exact absurd q hb
   ·exact q
  refine qE ((jL).mp (hk f hkf)) λ fd b8=>BG (X.tp.fn f fd b8) λ a gn aa au=>?_;obtain⟨o0,fd0,ho,hd⟩:=aa;have _:=au
  refine CN X.ok (B8 X.ok hg) hn X.here.sub gn (DC (o:=o0) (fd:=fd0) hs (CB id hE hs X h λ ts O1 xs s1 g1 h1 S1 l1 X1=>iA ⟨X1.here.sub a o0 (S1.ext.1 a o0 ho),hd⟩ ?_))
  unfold Cv at h1
  rw[if_neg (λ z=>hb (by erw[z];decide +kernel)),if_neg hb]at h1
  clear X1 h hE hb hd hf b8 hg hk hkf hn ho hs
  cases dQ:BN ts with
  | none=>rw[dQ]at h1;exact none_some h1
  | some vs=>
  rw[dQ]at h1
  refine exE3 (l1.share S1 dQ) λ g2 S2 rl k2=>?_
  obtain X2:=X.step S2
  erw[j4]
  rcases bind_some h1 with ⟨v,O2,e1,e2⟩| ⟨e1,rfl⟩
  ·refine qA (AW e2) λ aa al=>rwE aa (rwE al ?_)
   refine iG (hC f vs O1 _ _ e1 a xs env.frame A fr g2 s1 X2.a X2.here X2.tp (λ h' u=>gn h' λ b o e=>u b o (S2.ext.1 b o e)) rl) (λ v s' q=>?_) λ _ _ q=>q.elim
   exact OpQ.after S2 q
  ·exact iG (hC f vs O1 _ _ e1 a xs env.frame A fr g2 s1 X2.a X2.here X2.tp (λ h' u=>gn h' λ b o e=>u b o (S2.ext.1 b o e)) rl) (λ v s' q=>q.elim) λ _ _ q=>exQ.after S2 q
theorem Fc{o:hJ}{m:hV}(hn:DB o=true)(z:Sem Value):attributeBase o m env z=z:=by
 unfold DB at hn
 cases q:callName? o with
 | some p=>
  rw[q]at hn
  refine Ha (callName?_some q) λ np q' e=>rwE e ?_
  obtain⟨x,as⟩:=p
  cases as with
  | cons=>exact rfl
  | nil=>
   erw[beq_iff_eq.mp (show(x==("charset_names" : hV))=true from hn)]
   kernel_rfl
 | none=>
  rw[q]at hn
  refine jP ((pJ).mp hn) (λ h=>oR (motive_1:=λ o=>attributeBase o m env z=z) o (o8 h) λ _ _=>rfl) λ h=>jP ((pJ).mp h) (λ h=>nA (motive_1:=λ o=>attributeBase o m env z=z) o (o8 h) λ _ _ _=>rfl) λ h=>oS (motive_1:=λ o=>attributeBase o m env z=z) o (o8 h) λ _ _ _=>rfl
theorem HU{p:Pos}{es:List hJ}(h:noStar es=true):(backTo p (starEach es env)).all (λ x=>!x.1)=true:=by
 induction es with
 | nil=>rfl
 | cons e r ih=>
  rw[(BB h).1]
  erw[ih (BB h).2];rfl
theorem NS{ob:hJ}{m:hV}{ap q:Pos}{es:List hJ}{o:Out TV}(hE:Bp w P E d)(X:At w P sc J env A d fr g ah O s)
  (hc:(DB ob&&(ap.endLine==q.line)&&decide (es.length < 30)&&noStar es)=true)
  (h:Mo.bind (E sc J ob) (λ t=>if (FD t.1 m).isSome then Mo.bind (.mapM (E sc J) es) λ ts=>.lift ((CS t.1 m (ts.map (·.1))).map AI) else .fail) O=some (o,O')) :
  wpAny (model prog w) A (eval (.Call (.Attribute ob m ap) es [] q) env) (okQ w P fr g O' s o) (exQ w P fr env.frame g O' s o) s:=by
 simp only[iC,decide_eq_true_eq]at hc
 refine qA hc λ aa bq=>?_;obtain⟨⟨hsu,aV⟩,ai⟩:=aa
 refine wpAny_Call_method_late (trees:=backTo q (starEach es env)) (Fc hsu _) ?_ aV rfl ?_
 ·erw[HU bq]
  show(true&&true&&decide (es.length+0+0 < 30))=true
  simpa using ai
 ·refine Cn id hE X h λ t O1 v s1 g1 h1 S1 r1 X1=>?_
  cases a_:FD t.1 m with
  | none=>rw[a_]at h1;exact none_some h1
  | some id=>
  rw[a_]at h1
  obtain h1:=h1
  refine PP (LW X1.here.sub (r1.vw X1.here.sub) a_) λ T pa slot fj hT hd=>DF T id pa slot fj hT hd (B1 bq ?_)
  refine iG (CB (o':=o) (λ q=>q) hE bq X1 h1 λ ts O2 xs s2 g2 h2 S2 l2 X2=>?_) (λ _ _ q=>q) λ _ _ q=>exQ.after S1 q
  refine BG (AC h2) λ t' e aa au=>rwE aa (rwE au ?_)
  obtain e:=Bq e;obtain⟨c,e1,rfl⟩:=e
  refine iG (KP (fr:=fr) (E:=λ _ _=>False) X2.here ((r1.mono S2.so S2.ext).vw X2.here.sub) (l2.vwl X2.here.sub) a_ e1) (λ v s' q=>?_) λ _ _ q=>q.elim
  exact OpQ.after S1 (OpQ.after S2 q)
theorem T5{es:List hJ}{p:Pos}{o:Out TV}(hE:Bp w P E d)(X:At w P sc J env A d fr g ah O s)(hs:noStar es=true)
  (h:Mo.bind (.mapM (E sc J) es) (λ ts=>.lift ((BN ts).bind λ vs=>if vs.length<=Ae then some (V.lst vs,HQ.fresh) else none)) O=some (o,O')) :
  wpAny (model prog w) A (eval (.List es p) env) (okQ w P fr g O' s o) (exQ w P fr env.frame g O' s o) s:=by
 refine List_ (CB id hE hs X h λ ts O1 xs s1 g1 h1 S1 l1 X1=>?_)
 refine AK λ Z zk=>?_
 clear X1 h hE hs
 refine BG (AC h1) λ t' e aa al=>?_;subst aa;subst al
 refine Ag e λ vs e1 e2=>?_
 clear e
 replace e2:=Bd e2;obtain⟨ai,rfl⟩:=e2
 refine BG (l1.share S1 e1) λ g2 S2 rl k2=>?_
 obtain ek:=ai
 refine zk (wpAny_newList ?_ (by erw[rl.length];have:=pI;assumption))
 exact OpQ.after S2 (OpQ.fresh (t':=s1.toks) (X.step S2).here (Av _ _) (Ak _) (iEEAAA _ _ (jC _ rfl) rfl rfl rfl) rl ai)
theorem Pw{es:List hJ}{p:Pos}{k:Nat}{o:Out TV}(hE:Bp w P E d)(X:At w P sc J env A d fr g ah O s)(hs:noStar es=true)
  (h:Mo.bind (.mapM (E sc J) es) (λ ts=>.lift ((BN ts).bind λ vs=>if vs.length<=Ae then some (V.tup vs,HQ.val) else none)) O=some (o,O')) :
  wpAny (model prog w) A (eval (.Tuple es k p) env) (okQ w P fr g O' s o) (exQ w P fr env.frame g O' s o) s:=by
 refine Tuple_ (CB id hE hs X h λ ts O1 xs s1 g1 h1 S1 l1 X1=>?_)
 refine AK λ Z zk=>?_
 clear X1 h hE hs
 refine BG (AC h1) λ t' e aa al=>?_;subst aa;subst al
 refine Ag e λ vs e1 e2=>?_
 replace e2:=Bd e2;obtain⟨ai,rfl⟩:=e2
 refine exE3 (l1.share S1 e1) λ g2 S2 rl k2=>?_
 have X2:=X.step S2
 obtain ek:=ai
 refine zk (wpAny_newTuple ?_ (by rw[rl.length];have:=pI;exact ai))
 refine OpQ.after S2 (iEA _ (X2.here.keepsPut (t':=s1.toks) (Av _ _) (Ak _) (jC _ rfl)) ?_)
 exact .tup Ch rfl rfl (rl.mono (Bm (X2.here.sub.none (Ak _)))) ai
theorem RM{ob i:hJ}{p:Pos}{o:Out TV}(hE:Bp w P E d)(X:At w P sc J env A d fr g ah O s)(hn:DK i=true)
  (h:Mo.bind (E sc J ob) (λ t=>.bind (E sc J i) λ k=>IG t.1 k.1) O=some (o,O')) :
  wpAny (model prog w) A (eval (.Subscript ob i p) env) (okQ w P fr g O' s o) (exQ w P fr env.frame g O' s o) s:=by
 refine Subscript_ (Cn id hE X h λ t O1 v s1 g1 h1 S1 r1 X1=>?_)
 refine iG (Cn (o':=o) (λ q=>q) hE X1 h1 λ k O2 vk s2 g2 h2 S2 r2 X2=>?_) (λ _ _ q=>q) λ _ _ q=>exQ.after S1 q
 have v1:=(r1.mono S2.so S2.ext).vw X2.here.sub
 have v2:=r2.vw X2.here.sub
 clear h h1
 clear X X1 hE r1 r2
 cases hp:t.1.isPen with
 | true=>
  refine AK λ Z zk=>?_
  unfold IG at h2;replace h2:=hp▸h2
  replace v1:=(V.isPen_is hp)▸v1
  cases v1 with | pen hp=>
  rename_i a
  refine El (X2.here.pen a hp) λ ga items hl rl=>Ag (show(k.1.int?.bind λ k=>if 0<=k/\k < 1000 then(O2[k.toNat]?).map λ v=>(Out.ok (v,HQ.val),O2) else none)=some (o,O') from h2) λ j hj h2=>KW h2 λ h0 h2=>AY h2 λ c hc e=>?_
  cases e
  replace v2:=(V.int?_some hj)▸v2
  refine qE v2.int λ u aa=>?_;subst aa
  refine exE2 (rl.get hc) λ y hy ry=>?_
  obtain dC:items[j.toNat]?=some y:=by exact rwS hy (rwE lW rfl)
  obtain aH:=((lP).mp dC).1
  refine zk (tH hl.typeIs (sS).lookup ?_ (AU hn _ _))
  exact wpAny_getItem_list hl h0.1 (nU h0.2 (by decide)) dC (OpQ.after S1 (OpQ.after S2 (iEA g2 X2.here.refl ry)))
 | false=>
  refine AK λ Z zk=>?_
  unfold IG at h2;replace h2:=hp▸h2
  refine BG (AC h2) λ t' e aa au=>?_;subst aa;subst au
  refine Ag e λ j hj e=>?_
  obtain e:=Bq e;obtain⟨c,e1,rfl⟩:=e
  rw[V.int?_some hj]at v2
  refine qE v2.int λ u aa=>?_;subst aa
  refine zk (iG (LS (fr:=fr) (E:=λ _ _=>False) X2.here hn v1 e1) (λ v s' q=>?_) λ _ _ q=>q.elim)
  exact OpQ.after S1 (OpQ.after S2 q)
theorem Ki{α β γ:Type}(m:Mo α)(f:α->Mo β)(k:β->Mo γ):Mo.bind (Mo.bind m f) k=Mo.bind m λ a=>Mo.bind (f a) k:=by
 funext O
 unfold Mo.bind
 cases m O with
 | none=>rfl
 | some q=>obtain⟨q,O1⟩:=q;cases q <;> rfl
theorem Nh{α:Type}{f:Option Int->Mo α}{o:Out α}{x:Option hJ}{Q:Value->Shared->Prop}{β:Type}{o':Out β}(ho:o = .exc->o' = .exc)(hE:Bp w P E d)(X:At w P sc J env A d fr g ah O s)
  (h:Mo.bind (Fu E sc J x) f O=some (o,O''))
  (k:∀ i O' v s' g',f i O'=some (o,O'')->IsPart v i->AE w fr P g s g' O' s'->At w P sc J env A d fr g' ah O' s'->Q v s') :
  wpAny (model prog w) A (evalPart x env) Q (exQ w P fr env.frame g O'' s o') s:=by
 cases x with
 | none=>
  rcases bind_some h with ⟨i,O',e1,e2⟩| ⟨e1,_⟩
  ·refine AK λ Z zk=>qA (AW e1) λ e3 aa=>?_;subst aa
   cases e3
   exact zk (iI (k none O' .none s g e2 .none X.here.refl X))
  ·exact qA (AW e1) λ e3 _=>nc Mine.Out.ctorIdx e3 (.refl false)
 | some x=>
  have dE:Mo.bind (E sc J x) (λ t=>Mo.bind (.lift (t.1.int?.map some)) f) O=some (o,O''):=by
   exact rwS h ((congrFun (Ki (E sc J x) _ f) O).symm)
  refine Cn ho hE X dE λ t O1 v s1 g1 h1 S1 r1 X1=>?_
  have v1:=r1.vw X1.here.sub
  rcases bind_some h1 with ⟨j,O',e1,e2⟩| ⟨e1,_⟩
  ·refine AK λ Z zk=>?_
   clear h1 hE ho r1
   refine BG (AC e1) λ j' e3 e4 aa=>?_;subst aa
   cases e4
   refine AY e3 λ i e5 e0=>?_;subst e0
   rw[V.int?_some e5]at v1
   refine qE v1.int λ u aa=>?_;subst aa
   exact zk (k (some i) _ _ s1 g1 e2 (.int i u) S1 X1)
  ·refine exE3 (AC e1) λ _ _ e4 _=>?_
   exact nc Mine.Out.ctorIdx e4 (.refl false)
theorem Pi{ob:hJ}{lo hi:Option hJ}{p pp:Pos}{o:Out TV}(hE:Bp w P E d)(X:At w P sc J env A d fr g ah O s)
  (h:Mo.bind (E sc J ob) (λ t=>.bind (Fu E sc J lo) λ l=>.bind (Fu E sc J hi) λ h=>.lift ((Bo t.1 l h).map AI)) O=some (o,O')) :
  wpAny (model prog w) A (eval (.Subscript ob (.Slice lo hi none pp) p) env) (okQ w P fr g O' s o) (exQ w P fr env.frame g O' s o) s:=by
 refine Subscript_ (Cn id hE X h λ t O1 v s1 g1 h1 S1 r1 X1=>?_)
 refine wpAny_Slice (iG (Nh (o':=o) (λ q=>q) hE X1 h1 λ l O2 vl s2 g2 h2 pl S2 X2=>?_) (λ _ _ q=>q) λ _ _ q=>exQ.after S1 q)
 refine iG (Nh (o':=o) (λ q=>q) hE X2 h2 λ u O3 vu s3 g3 h3 pu S3 X3=>?_) (λ _ _ q=>q) λ _ _ q=>exQ.after S1 (exQ.after S2 q)
 refine iI ?_
 refine BG (AC h3) λ t' e aa al=>rwE aa (rwE al ?_)
 obtain e:=Bq e;obtain⟨c,e1,rfl⟩:=e
 have v3:=((r1.mono S2.so S2.ext).mono S3.so S3.ext).vw X3.here.sub
 refine iG (Kv (fr:=fr) (E:=λ _ _=>False) X3.here v3 e1 pl pu) (λ v s' q=>?_) λ _ _ q=>q.elim
 exact OpQ.after S1 (OpQ.after S2 (OpQ.after S3 q))
end
noncomputable def FK(h h':Heap):Prop:=∀ b o fs,h.get? b=some o->o.data = .fields fs->h'.get? b=some o
def VZ(n:Heap)(g:Gs)(h:Heap)(b:Addr):Prop:=n.get? b=none/\g b=none/\∃ o fs,h.get? b=some o/\o.data = .fields fs
def JB(w:World)(P:Option Addr)(g:Gs)(vs:List V)(j:Nat)(xs:Array Value):Prop:=
 ∃ a b va vb,vs[j]?=some (.tup [a,b])/\xs=#[va,vb]/\Rep w P g a va/\Rep w P g b vb
structure Vk(w:World)(P:Option Addr)(I:Addr)(vs:List V)(g:Gs)(wr fp:List Addr)(St:Nat->Heap->Prop)(Pv:Nat->Value->Prop):Prop where
 walks:∀ A:Around,A.handled=none->Walks prog w A I fp wr vs.length Pv St
 rep:∀ j x v,Pv j x->vs[j]?=some v->Rep w P g v x
structure VP(w:World)(P:Option Addr)(I:Addr)(vs:List V)(g:Gs)(wr fp:List Addr)(St:Nat->Heap->Prop)(Pt:Nat->Array Value->Prop)(Mid:Nat->Addr->Heap->Prop):Prop where
 walks:∀ A:Around,A.handled=none->WalksT prog w A I fp wr vs.length Pt St Mid
 rep:∀ j xs,Pt j xs->j < vs.length->JB w P g vs j xs
def GH(w:World)(P:Option Addr)(tgt:hJ)(I:Addr)(vs:List V)(g:Gs)(wr fp:List Addr)(St:Nat->Heap->Prop):Prop:=
 (Eb tgt=true/\∃ Pv,Vk w P I vs g wr fp St Pv)\/(HK tgt=true/\∃ Pt Mid,VP w P I vs g wr fp St Pt Mid)
structure W8(w:World)(P:Option Addr)(tgt:hJ)(I:Addr)(vs:List V)(n:Heap)(i:Nat)(g:Gs)(h:Heap)(wr fp:List Addr)(St:Nat->Heap->Prop):Prop where
 live:∀ j h',St j h'->∀ b∈wr,∃ o fs,h'.get? b=some o/\o.data = .fields fs
 own:∀ b∈wr,VZ n g h b
 foot:∀ b∈fp,b∈wr\/g b≠none
 st:St i h
 size:vs.length<=Ae
 alt:GH w P tgt I vs g wr fp St
def Src(w:World)(P:Option Addr)(tgt:hJ)(I:Addr)(vs:List V)(n:Heap)(i:Nat)(g:Gs)(h:Heap):Prop:=
 ∃ (wr fp:List Addr) (St:Nat->Heap->Prop),W8 w P tgt I vs n i g h wr fp St
section
variable {fr:List Addr}
variable {E:Scope->R->hJ->Mo TV}
variable {I:Addr} {i:Nat}
theorem Nk(e:KU h g g'){b:Addr}(q:g b≠none):g' b≠none:=λ z=>q (by
 cases q1:g b with
 | none=>rfl
 | some o=>rw[e.1 b o q1]at z;exact nc mG z (.refl false))
theorem JB.mono(k:∀ b o,g b=some o->g' b=some o){j:Nat}{xs:Array Value}(x:JB w P g vs j xs):JB w P g' vs j xs:=by
 exact FL x λ a b va vb q1 q2 q3 q4=>H8 a b va vb q1 q2 (q3.mono k) (q4.mono k)
theorem GH.mono{wr fp:List Addr}{St:Nat->Heap->Prop}(k:∀ b o,g b=some o->g' b=some o)(x:GH w P tgt I vs g wr fp St):GH w P tgt I vs g' wr fp St:=by
 rcases x with ⟨hn,Pv,X⟩| ⟨hn,Pt,Mid,X⟩
 ·exact .inl ⟨hn,Pv,X.walks,λ j x v a b=>(X.rep j x v a b).mono k⟩
 ·exact .inr ⟨hn,Pt,Mid,X.walks,λ j xs a b=>(X.rep j xs a b).mono k⟩
theorem GH.frame{wr fp:List Addr}{St:Nat->Heap->Prop}(x:GH w P tgt I vs g wr fp St)(st:St i h)(W:∀ b∈fp,∀ o,h.get? b=some o->h'.get? b=some o):St i h':=by
 rcases x with ⟨_,_,X⟩| ⟨_,_,_,X⟩
 ·exact(X.walks {} rfl).frame i h h' st W
 ·exact(X.walks {} rfl).frame i h h' st W
theorem SO.fk(so:SO fr P h h')(H:Et P fr g h)(p:GZ w P O g h):FK h h':=λ b o fs ho hd=>
 so.exact b o (λ hm=>by
  refine Dk (H b hm) λ _ _ o2 es ep av aA=>?_
  cases ho.symm.trans av;cases hd.symm.trans aA) (λ hp=>by
  refine El (p b hp.symm) λ _ items aa _=>?_;obtain⟨o2,av,_,_,aA⟩:=aa
  cases ho.symm.trans av;cases hd.symm.trans aA) ho
theorem Src.keep(x:Src w P tgt I vs n i g h)(fk:FK h h')(e:KU h g g')(u:Sub g h)(u':Sub g' h'):Src w P tgt I vs n i g' h':=by
 refine BA x λ wr fp St X=>?_
 have keep:∀ b∈wr,∀ o,h.get? b=some o->h'.get? b=some o:=λ b hb o ho=>by
  refine QU (X.own b hb) λ _ _ o' fs an ar=>?_
  cases ho.symm.trans an
  exact fk b o fs ho ar
 refine⟨wr,fp,St,X.live,λ b hb=>?_,λ b hb=>(X.foot b hb).imp id (Nk e),X.alt.frame X.st λ b hb o ho=>?_,X.size,X.alt.mono e.1⟩
 ·exact QU (X.own b hb) λ q1 q2 o fs q3 q4=>JG q1 ((e.2 b (Am q3)).trans q2) o fs (keep b hb o q3) q4
 ·refine jP (X.foot b hb) (λ q=>?_) λ q=>?_
  ·exact keep b q o ho
  ·cases q1:g b with
   | none=>exact absurd q1 q
   | some o'=>
    cases ho.symm.trans (u b o' q1)
    exact u' b o (e.1 b o q1)
structure Turn(n:Heap)(g g':Gs)(h h':Heap)(wr:List Addr):Prop where
 own:∀ b∈wr,VZ n g h b
 keep:∀ b o,b ∉ wr->h.get? b=some o->h'.get? b=some o
 ext:KU h g g'
 sub:Sub g' h'
theorem Turn.alike{wr:List Addr}(x:Turn n g g' h h' wr){a:Addr}{o:Obj}(ho:h.get? a=some o)(hd:∀ fs,o.data≠.fields fs):h'.get? a=some o:=
 x.keep a o (λ hm=>by obtain⟨_,_,o',fs,q,r⟩:=x.own a hm;replace q:=eqL ho q;(obtain q:=hG q;subst q);exact hd fs r) ho
theorem Turn.stable{wr:List Addr}(x:Turn n g g' h h' wr)(u:Sub g h){a:Addr}{o:Obj}(ho:g a=some o):h'.get? a=some o:=
 x.sub a o (x.ext.1 a o ho)
theorem AE.turn{wr:List Addr}{t':Nat}(S:AE w ae P af ac g O s)(x:Turn ac.heap g g' s.heap h' wr):AE w ae P af ac g' O {s with heap:=h',toks:=t'}:=by
 obtain⟨⟨h1,t1,rfl⟩,e1,u1,o1,p1⟩:=S
 have new:∀ b,ac.heap.get? b≠none->b ∉ wr:=λ b hb hm=>hb (x.own b hm).1
 refine⟨⟨h',t',rfl⟩,e1.trans x.ext o1.dom,x.sub,⟨λ b o hb hp e=>?_,λ b o hp e=>?_,λ b e=>?_⟩,λ p hp=>?_⟩
 ·exact x.keep b o (new b (Am e)) (o1.exact b o hb hp e)
 ·exact qE (o1.slots b o hp e) λ sl q=>⟨sl,x.keep b _ (new b (Am e)) q⟩
 ·have:=o1.dom b e
  cases q:h1.get? b with
  | none=>exact absurd q this
  | some o=>exact Am (x.keep b o (new b e) q)
 ·refine El (p1 p hp) λ q items aa rl=>?_;obtain⟨o,ho,hc,k,hd⟩:=aa
  refine A8 ((x.ext.2 p (Am ho)).trans q) items ⟨o,x.alike ho (λ fs z=>by rw[hd]at z;cases z),hc,k,hd⟩ (rl.mono x.ext.1)
theorem AP.turn{wr:List Addr}{t':Nat}(H:AP w P fr g O s)(x:Turn n g g' s.heap h' wr):AP w P fr g' O {s with heap:=h',toks:=t'}:=by
 refine⟨x.sub,λ p hp=>?_,λ L hL=>?_⟩
 ·refine El (H.pen p hp) λ q items aa rl=>?_;obtain⟨o,ho,hc,k,hd⟩:=aa
  exact A8 ((x.ext.2 p (Am ho)).trans q) items ⟨o,x.alike ho (λ fs z=>by replace z:=eqL hd z;cases z),hc,k,hd⟩ (rl.mono x.ext.1)
 ·exact Dk (H.frs L hL) λ a b o es ep ho hd=>EY ((x.ext.2 L (Am ho)).trans a) b o es ep (x.alike ho (λ fs z=>by replace z:=eqL hd z;cases z)) hd
theorem Turn.ns{wr:List Addr}(x:Turn n g g' h h' wr){a:Addr}{m:hV->Option Value}(k:h.Ns a m):h'.Ns a m:=by
 exact BJ k λ o es ep ho hd r=>GE o es ep (x.alike ho (λ fs z=>by replace z:=eqL hd z;cases z)) hd r
theorem Turn.isCell{wr:List Addr}(x:Turn n g g' h h' wr){a:Addr}{v:Option Value}(k:h.IsCell a v):h'.IsCell a v:=by
 exact exE2 k λ o ho hd=>iEA o (x.alike ho (λ fs z=>by have z:=eqL hd z;cases z)) hd
theorem BH.turn{wr:List Addr}{sl:Slot}{v:Value}{m:Heap}(x:Turn n g g' h h' wr)(r:BH w P fr g h m sl v):BH w P fr g' h' m sl v:=by
 cases sl with
 | val u=>exact Rep.mono x.ext.1 r
 | own vs=>
  refine DV r λ a items aa ma al rl len=>?_;subst aa;obtain⟨o,k,ho,hc,bI,hd⟩:=al
  exact Gd a items rfl (ma.mono (Am ho) x.ext) ⟨o,k,x.alike ho (λ fs z=>by replace z:=eqL hd z;cases z),hc,bI,hd⟩ (rl.mono x.ext.1) len
 | ownd ak=>
  refine F0 r λ a kvs' aa ma al sp sm len=>rwE aa ?_;obtain⟨o,es,ep,ho,hc,hd,r⟩:=al
  exact DF a kvs' rfl (ma.mono (Am ho) x.ext) ⟨o,es,ep,x.alike ho (λ fs z=>by replace z:=eqL hd z;cases z),hc,hd,r⟩ sp sm len
theorem Holds.turn{wr:List Addr}{x:hV}{v:Value}(t:Turn n g g' h h' wr)(a:Holds env h x v):Holds env h' x v:=by
 rcases a with ⟨k,m,hn,e⟩| ⟨k,c,hc,e⟩
 ·exact .inl (A8 k m (t.ns hn) e)
 ·exact .inr (A8 k c hc (t.isCell e))
theorem FrOK.turn{wr:List Addr}(F:FrOK w P env fr J g h ah)(t:Turn n g g' h h' wr):FrOK w P env fr J g' h' ah where
 locals:=by
  exact Fb F.locals λ a b c m hm=>Kl a ((t.ext.2 _ (let ⟨_,_,_,q,_⟩:=hm;Am q)).trans b) c m (t.ns hm)
 cells:=λ x k=>by
  exact Cg (F.cells x k) λ c hc l out np v hv=>Dn c hc l ((t.ext.2 _ (let ⟨_,q,_⟩:=hv;Am q)).trans out) np v (t.isCell hv)
 apartC:=F.apartC
 vals:=λ x s hx k=>by
  exact exE2 (F.vals x s hx k) λ v hv sv=>iEA v (hv.turn t) (sv.turn t)
 apart:=λ x y sx sy a hx hy ox oy kx ky h1 h2=>by
  refine exE2 (F.vals x sx hx kx) λ v hv _=>exE2 (F.vals y sy hy ky) λ u hu _=>?_
  obtain e1:=(hv.turn t).fun h1
  obtain e2:=(hu.turn t).fun h2
  subst e1;subst e2
  exact F.apart x y sx sy a hx hy ox oy kx ky hv hu
 apartL:=λ x s a hx ox kx h1=>by
  refine exE2 (F.vals x s hx kx) λ v hv _=>?_
  have e1:=(hv.turn t).fun h1
  subst e1
  exact F.apartL x s a hx ox kx hv
theorem V1(hn:Eb tgt=true)(it v:Value):letOwnedTupleGo tgt it v=pure ():=by
 refine qE ((jL).mp hn) λ x h=>?_
 refine qE (name?_some h) λ p aa=>?_;erw[aa]
 rfl
def XF(w:World)(P:Option Addr)(tgt:hJ)(I:Addr)(vs:List V)(n:Heap)(i:Nat)(g:Gs)(s:Shared)(v:V)(xv:Value)(c9:Shared):Prop:=
 ∃ h' tk g' wr,c9={s with heap:=h',toks:=tk}/\Turn n g g' s.heap h' wr/\Rep w P g' v xv/\Src w P tgt I vs n (i+1) g' h'
theorem Uc{wr:List Addr}{T:Addr}{o:Obj}(own:∀ b∈wr,VZ n g h b)(u:Sub g h)(hk:∀ b o,b ∉ wr->h.get? b=some o->h'.get? b=some o)(hT:h.get? T=none)(ho:h'.get? T=some o):Turn n g (g.put T o) h h' wr:=by
 refine⟨own,hk,⟨Bm (u.none hT:g T=none),λ b hb=>?_⟩,λ b o' e=>?_⟩
 ·unfold Gs.put
  exact rwE (if_neg (fun(z:b=T)=>hb (z▸hT))) rfl
 ·by_cases z:b=T
  ·unfold Gs.put at e;replace e:=Gn z e;(obtain e:=hG e;subst e);erw[z];exact ho
  ·unfold Gs.put at e;replace e:=Fg z e
   exact hk b o' (λ hm=>by replace e:=((own b hm).2.1)▸e;exact none_some e) (u b o' e)
theorem Src.item(x:Src w P tgt I vs n i g s.heap)(u:Sub g s.heap)(hh:A.handled=none){v:V}(hv:vs[i]?=some v) :
  wpAny (model prog w) A (pyNext (.ref I)) (λ r a9=>∃ xv,r=some xv/\wpAny (model prog w) A (letOwnedTupleGo tgt (.ref I) xv) (λ _ c9=>XF w P tgt I vs n i g s v xv c9) EE a9) EE s:=by
 refine BA x λ wr fp St X=>?_
 have hi:=((kJ).mp hv).1
 rcases X.alt with ⟨hn,Pv,Y⟩| ⟨hn,Pt,Mid,Y⟩
 ·refine(Y.walks A hh).item i s _ _ hi X.st λ xv h' tk hp st' hk=>iEA xv rfl (qI (V1 hn _ _) ?_)
  refine⟨h',tk,g,wr,rfl,⟨X.own,hk,.refl,λ b o e=>hk b o (λ hm=>by rw[(X.own b hm).2.1]at e;exact none_some e) (u b o e)⟩,Y.rep i xv v hp hv,wr,fp,St,?_⟩
  exact⟨X.live,λ b hb=>⟨(X.own b hb).1,(X.own b hb).2.1,X.live _ _ st' b hb⟩,X.foot,st',X.size,.inl ⟨hn,Pv,Y⟩⟩
 ·refine(Y.walks A hh).item i s _ _ hi X.st λ T xs h' tk hp hT ht mid hk=>⟨_,rfl,?_⟩
  refine AK λ Z zk=>qE ((jL).mp hn) λ p0 h0=>Ag h0 λ es h1 h2=>Ha (tuple?_some h1) λ k p h3=>?_
  refine zk ?_
  erw[h3]
  refine(Y.walks A hh).go es k p i T _ _ _ mid λ h2 st2 fH=>rwS h3 ?_
  have hTw:=(Y.walks A hh).apart i T h' mid
  clear h3 hh mid zk
  refine FL (Y.rep i xs hp hi) λ a b va vb q1 aa q3 q4=>?_;subst aa
  cases hv.symm.trans q1
  have dW:=l9 hT
  refine Cp ht λ o ho hc m hd=>?_
  have gT:=u.none dW
  have Tn:Turn n g (g.put T o) s.heap h2 wr:=Uc X.own u (λ b o hb e=>fH b o hb (hk b o hb e)) dW (fH T o hTw ho)
  refine⟨h2,tk,_,wr,rfl,Tn,.tup Ch hc hd (.cons (q3.mono (Bm gT)) (.cons (q4.mono (Bm gT)) .nil)) (show 2<=Ae by decide),wr,fp,St,?_⟩
  refine⟨X.live,λ b hb=>⟨(X.own b hb).1,?_,X.live _ _ st2 b hb⟩,λ b hb=>(X.foot b hb).imp id (Nk Tn.ext),st2,X.size,.inr ⟨hn,Pt,Mid,Y.walks,λ j xs a b=>(Y.rep j xs a b).mono (Bm gT)⟩⟩
  unfold Gs.put
  exact rwE (if_neg (fun(z:b=T)=>hTw (z▸hb))) ((X.own b hb).2.1)
theorem Src.done(x:Src w P tgt I vs n vs.length g s.heap)(u:Sub g s.heap)(hh:A.handled=none) :
  wpAny (model prog w) A (pyNext (.ref I)) (λ r a9=>r=none/\∃ (h':Heap) (tk:Nat) (wr:List Addr),a9={s with heap:=h',toks:=tk}/\Turn n g g s.heap h' wr) EE s:=by
 refine BA x λ wr fp St X=>?_
 have fin:∀ h':Heap,(∀ b o,b ∉ wr->s.heap.get? b=some o->h'.get? b=some o)->Turn n g g s.heap h' wr:=λ h' hk=>
  ⟨X.own,hk,.refl,λ b o e=>hk b o (λ hm=>by rw[(X.own b hm).2.1]at e;exact none_some e) (u b o e)⟩
 rcases X.alt with ⟨hn,Pv,Y⟩| ⟨hn,Pt,Mid,Y⟩
 ·exact(Y.walks A hh).done s _ _ X.st λ h' tk hk=>Qz rfl h' tk wr rfl (fin h' hk)
 ·exact(Y.walks A hh).done s _ _ X.st λ h' tk hk=>Qz rfl h' tk wr rfl (fin h' hk)
theorem GS{e:hJ}(h:BC [e]=true)(env:Env)(x:Value):foldedSetIterable e env x=pure x:=by
 cases e <;> first | rfl | exact fls h
theorem Src.make1{fp:List Addr}{Pv:Nat->Value->Prop}{St:Nat->Heap->Prop}{t':Nat}(hn:Eb tgt=true)(S:AE w fr P af ac g O s)(H:AP w P fr g O s)(hI:s.heap.get? I=none)
  (eX:∀ b∈fp,b=I\/g b≠none) (live:∀ j h',St j h'->∃ o fs,h'.get? I=some o/\o.data = .fields fs) (st:St 0 h') (hk:∀ b o,s.heap.get? b=some o->h'.get? b=some o)
  (W:∀ A:Around,A.handled=none->Walks prog w A I fp [I] vs.length Pv St) (hr:∀ j x v,Pv j x->vs[j]?=some v->Rep w P g v x) (hz:vs.length<=Ae) :
  AE w fr P af ac g O {s with heap:=h',toks:=t'}/\Src w P tgt I vs ac.heap 0 g h':=by
 refine⟨S.trans0 (H.keeps hk),[I],fp,St,λ j h' e b hb=>?_,λ b hb=>?_,λ b hb=>?_,st,hz,.inl ⟨hn,Pv,W,hr⟩⟩
 ·exact rwE ((iD).mp hb) (live j h' e)
 ·exact rwE ((iD).mp hb) (iAA (S.so.back hI) (H.sub.none hI) (live 0 h' st))
 ·exact(eX b hb).imp (λ e=>by erw[e];exact (iD).mpr rfl) id
def Dy(w:World)(P:Option Addr)(fr:List Addr)(tgt:hJ)(vs:List V)(g:Gs)(O':A4)(s:Shared)(x:Value)(s':Shared):Prop:=
 ∃ I g',x = .ref I/\AE w fr P g s g' O' s'/\Src w P tgt I vs s.heap 0 g' s'.heap
theorem OI{a:Addr}{o:Obj}{items:Array Value}{k:Nat}(hn:Eb tgt=true)(S:AE w fr P af ac g O s)(H:AP w P fr g O s)(e:g a=some o)(hc:o.cls = .type "list")(hd:o.data = .seq items k)
  (rl:AF w P g vs items.toList) (hz:vs.length<=Ae):wpAny (model prog w) A (pyIter (.ref a)) (Dy w P fr tgt vs af O ac) EE s:=by
 obtain hl:s.heap.IsList a items:=EF o (H.sub _ _ e) hc _ hd
 refine wpAny_pyIter_list hl ?_
 have aJ:a≠s.heap.objs.size:=λ q=>by have:=H.sub _ _ e;replace this:=eqL (Ak ..) (q▸this);exact none_some this
 obtain ai:items.size=vs.length:=by obtain this:=rl.length;simpa using this
 refine iEEA _ g rfl ?_
 refine Src.make1 (I:=s.heap.objs.size) (fp:=[s.heap.objs.size,a]) (Pv:=λ i v=>items[i]?=some v) (St:=λ i h=>h.IsListIter s.heap.objs.size a i/\h.IsList a items) hn S H (Ak _) (λ b hb=>?_) (λ j h' st=>?_) ⟨⟨_,jC _ rfl,rfl,rfl⟩,?_⟩ (Av _ _)
  (λ A hA=>ai▸Walks.list hA _ a aJ items) (λ j x v hj hv=>?_) hz
 ·clear S hl ai hn aJ hz
  refine jP ((iJ).mp hb) (λ q=>?_) λ q=>?_
  ·exact .inl q
  ·exact rwE ((iD).mp q) (.inr (λ q=>by obtain q:=eqL e q;exact nc mG q (.refl false)))
 ·obtain⟨⟨o,ho,_,hd⟩,_⟩:=st;exact iEEA o _ ho hd
 ·exact EF o (Av _ _ _ _ (H.sub _ _ e)) hc _ hd
 ·clear H S e hc hd hl ai hn aJ hz
  refine A9 (rl.get hv) λ y hy ry=>?_
  have:items.toList[j]?=some x:=by simpa using hj
  replace this:=eqL hy this;(obtain this:=hG this;subst this);exact ry
theorem Mh{a:Addr}{o:Obj}{items:Array Value}{k:Nat}(hn:Eb tgt=true)(S:AE w fr P af ac g O s)(H:AP w P fr g O s)(e:g a=some o)(hc:o.cls = .type "tuple")(hd:o.data = .seq items k)
  (rl:AF w P g vs items.toList) (hz:vs.length<=Ae):wpAny (model prog w) A (pyIter (.ref a)) (Dy w P fr tgt vs af O ac) EE s:=by
 have hl:s.heap.IsTuple a items:=EF o (H.sub _ _ e) hc _ hd
 refine wpAny_pyIter_tuple hl ?_
 have aJ:a≠s.heap.objs.size:=λ q=>by have:=H.sub _ _ e;rw[q,Ak]at this;exact none_some this
 have ai:items.size=vs.length:=by have:=rl.length;simpa using this
 refine iEEA _ g rfl ?_
 refine Src.make1 (I:=s.heap.objs.size) (fp:=[s.heap.objs.size,a]) (Pv:=λ i v=>items[i]?=some v) (St:=λ i h=>h.IsTupleIter s.heap.objs.size a i/\h.IsTuple a items) hn S H (Ak _) (λ b hb=>?_) (λ j h' st=>?_) (iA ⟨_,jC _ rfl,rfl,rfl⟩ ?_) (Av _ _)
  (λ A hA=>ai▸Walks.tuple hA _ a aJ items) (λ j x v hj hv=>?_) hz
 ·refine jP ((iJ).mp hb) (λ q=>?_) λ q=>?_
  ·exact .inl q
  ·rw[(iD).mp q];exact .inr (λ q=>by rw[e]at q;cases q)
 ·obtain⟨⟨o,ho,_,hd⟩,_⟩:=st;exact iEEA o _ ho hd
 ·exact EF o (Av _ _ _ _ (H.sub _ _ e)) hc _ hd
 ·refine A9 (rl.get hv) λ y hy ry=>?_
  have:items.toList[j]?=some x:=by simpa using hj
  rw[hy]at this;(have this:=hG this;subst this);exact ry
theorem L8{b:List Nat}{t:Tok}(hn:Eb tgt=true)(S:AE w fr P af ac g O s)(H:AP w P fr g O s)(hb:∀ n∈b,n < 256)(hz:b.length<=Ae) :
  wpAny (model prog w) A (pyIter (.bytes (b.map j2).toArray t)) (Dy w P fr tgt (b.map fun(c:Nat)=>V.int c) af O ac) EE s:=by
 refine W.KBw.pyIter_bytes (iEEA _ g rfl ?_)
 refine Src.make1 (I:=s.heap.objs.size) (fp:=[s.heap.objs.size]) (Pv:=λ i v=>∃ c u,(b.map j2).toArray[i]?=some c/\v = .int (c.toNat:Int) u) (St:=λ i h=>W.KBw.IsBytesIter h s.heap.objs.size (b.map j2).toArray t i) hn S H (Ak _)
  (λ b hb=>.inl ((iD).mp hb)) (λ j h' st=>?_) (iEAA _ (jC _ rfl) rfl rfl) (Av _ _)
  (λ A hA=>by obtain this:=W.KBw.walks (prog:=prog) (w:=w) hA s.heap.objs.size (b.map j2).toArray t;simpa using this) (λ j x v hj hv=>?_) (by simpa using hz)
 ·obtain⟨o,ho,_,hd⟩:=st;exact iEEA o _ ho hd
 ·obtain⟨c,u,hc,rfl⟩:=hj
  simp only[n6,kX,mS]at hc hv
  obtain⟨m,hm,rfl⟩:=hc
  obtain⟨m',aK,rfl⟩:=hv
  replace aK:=eqL hm aK;(obtain aK:=hG aK;subst aK)
  have:=hb m (oW hm)
  obtain e:((j2 m).toNat:Int)=(m:Int):=by
   have:(j2 m).toNat=m:=by simp[pX];omega
   exact rwE this rfl
  exact rwE e (.int _ _)
theorem Q9{x:List Nat}{t:Tok}(hn:Eb tgt=true)(S:AE w fr P af ac g O s)(H:AP w P fr g O s)(hz:x.length<=Ae) :
  wpAny (model prog w) A (pyIter (.str ⟨x.toArray⟩ t)) (Dy w P fr tgt (x.map fun(c:Nat)=>V.str [c]) af O ac) EE s:=by
 obtain hr:∀ (j:Nat) (y:Value) (v:V),SignAt ⟨x.toArray⟩ j y->(x.map fun(c:Nat)=>V.str [c])[j]?=some v->Rep w P g v y:=by
  rintro j y v ⟨c,u,hc,rfl⟩ hv
  simp only[n6,kX,mS]at hc hv
  obtain⟨m',aK,rfl⟩:=hv
  replace aK:=eqL hc aK;(obtain aK:=hG aK;subst aK)
  exact .str [c] u (by simp[Ae])
 cases ha:(⟨x.toArray⟩:hV).cps.all (· < 128)
 ·refine wpAny_pyIter_wide ha (iEEA _ g rfl ?_)
  exact Src.make1 (I:=s.heap.objs.size) (fp:=[s.heap.objs.size]) (Pv:=SignAt ⟨x.toArray⟩) (St:=λ i h=>h.IsStrIter s.heap.objs.size "str_iterator" ⟨x.toArray⟩ t i) hn S H (Ak _)
   (λ b hb=>.inl ((iD).mp hb)) (λ j h' ⟨o,ho,_,hd⟩=>iEEA o _ ho hd) (iEAA _ (jC _ rfl) rfl rfl) (Av _ _)
   (λ A hA=>by have:=Walks.strWide (prog:=prog) (w:=w) hA s.heap.objs.size ⟨x.toArray⟩ t;simpa using this) hr (by simpa using hz)
 ·refine wpAny_pyIter_ascii ha (iEEA _ g rfl ?_)
  exact Src.make1 (I:=s.heap.objs.size) (fp:=[s.heap.objs.size]) (Pv:=SignAt ⟨x.toArray⟩) (St:=λ i h=>h.IsStrIter s.heap.objs.size "str_ascii_iterator" ⟨x.toArray⟩ t i) hn S H (Ak _)
   (λ b hb=>.inl ((iD).mp hb)) (λ j h' ⟨o,ho,_,hd⟩=>iEEA o _ ho hd) (iEAA _ (jC _ rfl) rfl rfl) (Av _ _)
   (λ A hA=>by have:=Walks.strAscii (prog:=prog) (w:=w) hA s.heap.objs.size ⟨x.toArray⟩ t;simpa using this) hr (by simpa using hz)
theorem GN(a b c:Int)(hc:c≠0):tO a b c=((rangeL a b c).length:Int):=by
 unfold tO rangeL
 by_cases h:0 < c
 ·(refine BX h (rwE (if_pos h) ?_);erw[iH,kY];erw[kG _ (by lia)])
  split
  ·(erw[pH (Int.ediv_nonneg (by lia) (by lia)),(show b - a+c - 1=(b - a - 1)+c * 1 by lia)];exact rwE (Int.add_mul_ediv_left _ _ hc) rfl)
  ·have:(b - a+c - 1) / c<=0:=by
    have:(b - a+c - 1) / c < 1:=Int.ediv_lt_of_lt_mul h (by lia)
    exact rB this
   exact(congrArg uP (rK this)).symm
 ·(refine Gx h (rwE (if_neg h) ?_);erw[if_pos (show c < 0 by lia),iH];erw[kY,kG _ (tA ((lY).mp h))])
  split
  ·(erw[pH (Int.ediv_nonneg (by lia) (tA ((lY).mp h))),(show a - b - c - 1=(a - b - 1)+(-c) * 1 by lia)];exact rwE (Int.add_mul_ediv_left _ _ (Int.neg_ne_zero.mpr hc)) rfl)
  ·have:(a - b - c - 1) / (-c)<=0:=by
    have:(a - b - c - 1) / (-c) < 1:=Int.ediv_lt_of_lt_mul (by lia) (by lia)
    exact rB this
   exact(congrArg uP (rK this)).symm
theorem Ms{a b c:Int}{j:Nat}{x:Int}(h:(rangeL a b c)[j]?=some x):x=a+(j:Int) * c:=by
 have bF:∀ n:Nat,((jE n).map fun(k:Nat)=>a+c * (k:Int))[j]?=some x->x=a+(j:Int) * c:=λ n h=>by
  obtain h:=eqL kX h
  refine AY h λ k hk aa=>rwS aa (qE ((kJ).mp hk) λ h1 h2=>?_)
  replace h2:=eqL (List.getElem_range ..) h2
  exact rwS h2 (rwE (Int.mul_comm ..) rfl)
 unfold rangeL at h
 by_cases q:0 < c
 ·rw[if_pos q]at h;exact bF _ h
 ·rw[if_neg q]at h
  by_cases q:c < 0
  ·rw[if_pos q]at h;exact bF _ h
  ·rw[if_neg q]at h;exact none_some h
theorem CZ{a:Int}(ha:small a=true) : -1099511627776<=a/\a<=1099511627776:=by
 unfold small at ha
 rw[iC,decide_eq_true_eq,decide_eq_true_eq]at ha;exact ha
theorem B5{a:Int}(h : -4611686018427387904<=a/\a<=4611686018427387903):rO a=true:=by
 unfold rO;simp only[iC,decide_eq_true_eq];exact⟨jG (by decide) h.1,nW h.2 (by decide)⟩
theorem Rp{a b c:Int}(ha:small a=true)(hb:small b=true)(hc:small c=true)(h0:c≠0)(hl:(rangeL a b c).length<=Ae):uZ a b c=true:=by
 unfold uZ
 erw[GN a b c h0]
 have bg:=hl
 have ha:=CZ ha
 have hb:=CZ hb
 have hc:=CZ hc
 generalize (rangeL a b c).length=n at bg
 rw[B5 (a:=a) (iB ha (by decide)),B5 (a:=b) (iB hb (by decide)),B5 (a:=c) (iB hc (by decide)),B5 (a:=(n:Int)) (⟨jG (by decide) (iV _),jG ((kC).mpr bg) (by decide)⟩),B5 (a:=b+(c - 1)) (⟨jG (by decide) (sH hb.1 (Int.sub_le_sub_right hc.1 1)),jG (sH hb.2 (Int.sub_le_sub_right hc.2 1)) (by decide)⟩),B5 (a:=b+(c+1)) (⟨jG (by decide) (sH hb.1 (oV hc.1 1)),jG (sH hb.2 (oV hc.2 1)) (by decide)⟩)]
 simp
theorem KY{r:Addr}{a b c:Int}{t u v:Tok}(hn:Eb tgt=true)(S:AE w fr P af ac g O s)(H:AP w P fr g O s)(hr:IsRange s.heap r a b c t u v)
  (ha:small a=true) (hb:small b=true) (hc:small c=true) (h0:c≠0) (hl:(rangeL a b c).length<=Ae) :
  wpAny (model prog w) A (pyIter (.ref r)) (Dy w P fr tgt ((rangeL a b c).map .int) af O ac) EE s:=by
 refine wpAny_pyIter_range hr (Rp ha hb hc h0 hl) (iEEA _ g rfl ?_)
 refine Src.make1 (I:=s.heap.objs.size) (fp:=[s.heap.objs.size]) (Pv:=λ i v=>∃ t,v = .int (a+(i:Int) * c) t) (St:=λ i h=>IsRangeIter h s.heap.objs.size (a+(i:Nat) * c) (((rangeL a b c).length:Int) - (i:Nat)) c) hn S H (Ak _)
   (λ b hb=>.inl ((iD).mp hb)) (λ j h' st=>iEEA _ _ st rfl) ?_ (Av _ _)
   (λ A hA=>by have this:=Walks.range (prog:=prog) (w:=w) hA s.heap.objs.size a c (rangeL a b c).length;simpa using this) ?_ (by simpa using hl)
 ·show Heap.get? _ _=some _
  refine i7 (jC _ rfl) (rwE (GN a b c h0) ?_)
  simp
 ·rintro j x v ⟨t,rfl⟩ hv
  simp only[kX,mS]at hv
  obtain⟨y,hy,rfl⟩:=hv
  exact rwE (Ms hy) (.int _ _)
theorem EK:∀ (vs:List V) (k:Nat),(Dp k vs).length=vs.length
 | [],_=>rfl
 | _::r,k=>by simp[J5,enumL_cE,EK r]
theorem IP:∀ (vs:List V) (k j:Nat),(Dp k vs)[j]?=(vs[j]?).map λ v=>.tup [.int ((k+j:Nat):Int),v]
 | [],_,_=>by rfl
 | v::r,k,0=>by rfl
 | v::r,k,j+1=>by
  simp only[J5,enumL_cE,nK,IP r (k+1) j]
  exact rwE (show k+1+j=k+(j+1) by lia) rfl
theorem GD{e it:Addr}{fp:List Addr}{Pv:Nat->Value->Prop}{St:Nat->Heap->Prop}{t':Nat}(hn:HK tgt=true)(S:AE w fr P af ac g O s)(H:AP w P fr g O s)(he:e=s.heap.objs.size+1)(bA:it=s.heap.objs.size)
  (eX:∀ b∈fp,b=it\/g b≠none) (fE:it∈fp) (live:∀ j h',St j h'->∃ o fs,h'.get? it=some o/\o.data = .fields fs) (st:St 0 h') (fb:IsEnum h' e it 0 .none) (hk:∀ b o,s.heap.get? b=some o->h'.get? b=some o)
  (D:∀ A:Around,A.handled=none->Draws prog w A it fp vs.length Pv St) (hr:∀ j x v,Pv j x->vs[j]?=some v->Rep w P g v x) (hz:vs.length<=Ae) :
  wpAny (model prog w) A (pyIter (.ref e)) (Dy w P fr tgt (Dp 0 vs) af O ac) EE {s with heap:=h',toks:=t'}:=by
 have fe:s.heap.get? e=none:=by erw[he];exact l9 (m8 _)
 have fi:s.heap.get? it=none:=by erw[bA];exact Ak _
 have aJ:e≠it:=by erw[he,bA];exact Nat.succ_ne_self _
 have ge:=H.sub.none fe
 have gi:=H.sub.none fi
 have eZ:e ∉ fp:=λ hm=>by
  rcases eX e hm with q | q
  ·exact aJ q
  ·exact q ge
 refine wpAny_pyIter_enum fb ⟨e,g,rfl,S.trans0 (H.keeps hk),[e,it],e::fp,λ i h=>(∃ cU,IsEnum h e it i cU)/\St i h,λ j h' st b hb=>?_,λ b hb=>?_,λ b hb=>?_,⟨⟨_,fb⟩,st⟩,by erw[EK];exact hz,.inr ⟨hn,
  λ i vals=>∃ t x,Pv i x/\vals=#[.int i t,x],_,λ A hA=>by erw[EK];exact WalksT.enumerateD (D A.in1 hA) e aJ eZ fE,?_⟩⟩
 ·clear D H he eZ fE bA hk hn aJ hz
  rcases (iJ).mp hb with rfl | hb
  ·obtain⟨⟨cU,q⟩,_⟩:=st
   exact iEEA _ _ q rfl
  ·exact rwE ((iD).mp hb) (live j h' st.2)
 ·clear D H he eZ fE bA hk hn aJ hz
  rcases (iJ).mp hb with rfl | hb
  ·exact JG (S.so.back fe) ge _ _ fb rfl
  ·exact rwE ((iD).mp hb) (iAA (S.so.back fi) gi (live 0 h' st))
 ·clear D H S fe fi ge gi he eZ fb fE bA hk hn aJ hz live st
  rcases (iJ).mp hb with rfl | hb
  ·exact .inl i8
  ·exact(eX b hb).imp (λ q=>by erw[q];exact i9 _ ((iD).mpr rfl)) id
 ·rintro j xs ⟨t,x,hp,rfl⟩ hj
  replace hj:=(EK ..)▸hj
  refine H8 (.int j) (vs[j]) _ _ ?_ rfl (.int _ _) (hr j x _ hp (by simp[hj]))
  refine i7 (IP ..) (rwE (jM hj) ?_);simp
theorem N7{a:Addr}{o:Obj}{items:Array Value}{k:Nat}(hn:HK tgt=true)(S:AE w fr P af ac g O s)(H:AP w P fr g O s)(e:g a=some o)(hc:o.cls = .type "list")(hd:o.data = .seq items k)
  (rl:AF w P g vs items.toList) (hz:vs.length<=Ae):wpAny (model prog w) A (jH (.type "enumerate") [.ref a]) (λ xv s1=>∀ EE',wpAny (model prog w) A (pyIter xv) (Dy w P fr tgt (Dp 0 vs) af O ac) EE' s1) EE s:=by
 refine call_enumerate_list ((EF o (H.sub _ _ e) hc _ hd):s.heap.IsList a items) λ h' he bA aB hk EE'=>?_
 refine GD (t':=s.toks) (it:=s.heap.objs.size) (fp:=[s.heap.objs.size,a]) (Pv:=λ i v=>items[i]?=some v) (St:=λ i h=>h.IsListIter s.heap.objs.size a i/\h.IsList a items) hn S H rfl rfl (λ b hb=>?_) i8
  (λ j h' ⟨⟨o,ho,_,hd⟩,_⟩=>iEEA o _ ho hd) ⟨bA,⟨o,hk _ _ (H.sub _ _ e),hc,_,hd⟩⟩ he hk (λ A hA=>(by obtain this:=rl.length;simpa using this:items.size=vs.length)▸Draws.list hA _ a (λ q=>by obtain this:=H.sub _ _ e;replace this:=eqL (Ak ..) (q▸this);exact none_some this:a≠s.heap.objs.size) items) (λ j x v hj hv=>?_) hz
 ·refine jP ((iJ).mp hb) (λ q=>?_) λ q=>?_
  ·exact .inl q
  ·exact rwE ((iD).mp q) (.inr (λ q=>by obtain q:=eqL e q;exact nc mG q (.refl false)))
 ·refine exE2 (rl.get hv) λ y hy ry=>?_
  have:items.toList[j]?=some x:=by simpa using hj
  replace this:=eqL hy this;(obtain this:=hG this;subst this);exact ry
theorem QM{x:List Nat}{t:Tok}(hn:HK tgt=true)(S:AE w fr P af ac g O s)(H:AP w P fr g O s)(hz:x.length<=Ae) :
  wpAny (model prog w) A (jH (.type "enumerate") [.str ⟨x.toArray⟩ t]) (λ xv s1=>∀ EE',wpAny (model prog w) A (pyIter xv) (Dy w P fr tgt (Dp 0 (x.map fun(c:Nat)=>V.str [c])) af O ac) EE' s1) EE s:=by
 obtain hr:∀ (j:Nat) (y:Value) (v:V),(∃ c u,(⟨x.toArray⟩:hV).cps[j]?=some c/\y = .str ⟨#[c]⟩ u)->(x.map fun(c:Nat)=>V.str [c])[j]?=some v->Rep w P g v y:=by
  rintro j y v ⟨c,u,hc,rfl⟩ hv
  simp only[n6,kX,mS]at hc hv
  obtain⟨m',aK,rfl⟩:=hv
  replace aK:=eqL hc aK;(obtain aK:=hG aK;subst aK)
  exact .str [c] u (by simp[Ae])
 refine call_enumerate_str λ h' he bA aB hk EE'=>?_
 unfold strIterType at bA
 cases ha:(⟨x.toArray⟩:hV).cps.all (· < 128)
 ·rw[ha]at bA
  exact GD (t':=s.toks) (it:=s.heap.objs.size) (fp:=[s.heap.objs.size]) (St:=λ i h=>h.IsStrIter s.heap.objs.size "str_iterator" ⟨x.toArray⟩ t i) hn S H rfl rfl (λ b hb=>.inl ((iD).mp hb)) i8
   (λ j h' ⟨o,ho,_,hd⟩=>iEEA o _ ho hd) bA he hk (λ A hA=>by have:=Draws.strWide (prog:=prog) (w:=w) hA s.heap.objs.size ⟨x.toArray⟩ t;simpa using this) hr (by simpa using hz)
 ·rw[ha]at bA
  exact GD (t':=s.toks) (it:=s.heap.objs.size) (fp:=[s.heap.objs.size]) (St:=λ i h=>h.IsStrIter s.heap.objs.size "str_ascii_iterator" ⟨x.toArray⟩ t i) hn S H rfl rfl (λ b hb=>.inl ((iD).mp hb)) i8
   (λ j h' ⟨o,ho,_,hd⟩=>iEEA o _ ho hd) bA he hk (λ A hA=>by have:=Draws.strAscii (prog:=prog) (w:=w) hA s.heap.objs.size ⟨x.toArray⟩ t;simpa using this) hr (by simpa using hz)
theorem Ho{r:Addr}{a b c:Int}{t u v:Tok}{t':Nat}{o:Obj}(hn:Eb tgt=true)(S:AE w fr P af ac g O s)(H:AP w P fr g O s)(hr:IsRange (s.heap.push o) r a b c t u v)(e:CJ a b c=some vs) :
  wpAny (model prog w) A (pyIter (.ref r)) (Dy w P fr tgt vs af O ac) EE {s with heap:=s.heap.push o,toks:=t'}:=by
 obtain e:=Bd e;obtain⟨hc,rfl⟩:=e
 have K:=H.keeps (t':=t') (Av s.heap o)
 exact KY hn (S.trans0 K) (H.step K) hr hc.1.1 hc.1.2.1 hc.1.2.2 hc.2.1 hc.2.2
theorem Lf{as:List V}{xs:List Value}{vs:List V}(hn:Eb tgt=true)(S:AE w fr P af ac g O s)(H:AP w P fr g O s)(ha:Gi w P g s.heap as xs)(e:BW as=some vs) :
  wpAny (model prog w) A (jH (.type "range") xs) (λ xv s1=>∀ EE',wpAny (model prog w) A (pyIter xv) (Dy w P fr tgt vs af O ac) EE' s1) EE s:=by
 unfold BW at e
 cases h3:three? as with
 | some p=>
  refine AK λ Z zk=>?_
  rw[h3]at e
  rw[three?_some h3]at ha
  refine Ag (show(p.1.int?.bind λ a=>_)=some vs from e) λ a h4 e=>Bj ha.three λ x y z aa hx hy hz=>?_;subst aa
  rw[V.int?_some h4]at hx
  refine qE hx.int λ t aa=>?_;subst aa
  refine Hj (Bc hy hz e) λ b c u v aa al e=>?_;subst aa;subst al
  obtain hc:=(Bd e).1
  exact zk (call_range_3 hc.2.1 (λ EE'=>Ho hn S H (vD ..) e) (.inl (KI (by have:=CZ hc.1.2.2;exact naB (k:=1099511627776) this (by decide)))))
 | none=>
  rw[h3]at e;dsimp only at e
  cases h2:two? as with
  | some p=>
   refine AK λ Z zk=>?_
   rw[h2]at e
   refine Ca (ha.two' h2) λ x y aa hx hy=>?_;subst aa
   refine Hj (Bc hx hy e) λ a b t u aa al e=>?_;subst aa;subst al
   exact zk (call_range_2 λ EE'=>Ho hn S H (vD ..) e)
  | none=>
   refine AK λ Z zk=>?_
   rw[h2]at e
   refine Ag (show((one? as).bind λ v=>_)=some vs from e) λ v h1 e=>Ag e λ b h4 e=>A9 (ha.one' h1) λ x aa hx=>?_;subst aa
   rw[V.int?_some h4]at hx
   refine qE hx.int λ t aa=>?_;subst aa
   exact zk (call_range_1 λ EE'=>Ho hn S H (vD ..) e)
theorem H4{e:hJ}{as:List hJ}(h:CX sc e=some as):∃ np p,e = .Call (.Name "range" np) as [] p/\AR sc "range"=true/\noStar as=true:=by
 refine AK λ Z zk=>Ag h λ p h1 h=>Cb h λ hc aa=>?_;subst aa
 rw[iC,iC,beq_iff_eq]at hc
 refine Ha (callName?_some h1) λ np q e=>?_
 rw[hc.2]at e hc
 exact zk (CL np q e hc.1.1 hc.1.2)
theorem IF{e:hJ}{as:List hJ}(h:Fe sc e=some as):∃ np p,e = .Call (.Name "enumerate" np) as [] p/\AR sc "enumerate"=true/\noStar as=true:=by
 refine Ag h λ p h1 h=>?_
 obtain⟨hc,rfl⟩:=Bd h
 rw[iC,iC,beq_iff_eq]at hc
 refine XX (callName?_some h1) λ np q e=>?_
 rw[hc.2]at e hc
 exact CL np q e hc.1.1 hc.1.2
theorem Dt{x:hV}(h:AR sc x=true):okName x=true/\(sc.names.lookup x==some .globalImplicit)=true:=(iR).mp h
theorem Hi{e:hJ}{o:Out (List V)}(hE:Bp w P E d)(X:At w P sc J env A d fr g ah O s)(h:By E sc J tgt e O=some (o,O')) :
  wpAny (model prog w) A (eval e env) (λ xv s1=>∀ EE',wpAny (model prog w) A (pyIter xv) (λ x s2=>∃ vs,o = .ok vs/\Dy w P fr tgt vs g O' s x s2) EE' s1) (exQ w P fr env.frame g O' s o) s:=by
 have fin:∀ {vs:List V} {x:Value} {EE':Value->Shared->Prop} {s1:Shared},o = .ok vs->wpAny (model prog w) A (pyIter x) (Dy w P fr tgt vs g O' s) EE' s1 ->
   wpAny (model prog w) A (pyIter x) (λ x s2=>∃ vs,o = .ok vs/\Dy w P fr tgt vs g O' s x s2) EE' s1:=λ e q=>iG q (λ x s3 q=>iEA _ e q) λ _ _ q=>q
 unfold By at h
 cases hr:CX sc e with
 | some as=>
  rw[hr]at h
  refine Ca (H4 hr) λ np p aa hg hs=>rwE aa ?_
  dsimp only at h
  cases hn:Eb tgt with
  | false=>rw[hn]at h;exact none_some h
  | true=>
  rw[hn]at h
  refine mU rfl (Eg X.ok (B8 X.ok (Dt hg).2) (Dt hg).1 X.here.sub (X.tp.bn "range" (.inr (.inl rfl))) (DY hs (CB (o':=o) id hE hs X h λ ts O1 xs s1 g1 h1 S1 l1 X1=>?_)))
  refine BG (AC h1) λ vs e1 e2 aa=>?_;subst aa
  exact rwE (show Dd "range" = .type "range" by decide +kernel) (iG (Lf (EE:=λ _ _=>False) hn S1 X1.here (l1.vwl X1.here.sub) e1) (λ xv s2 q EE'=>fin e2 (q EE')) λ _ _ q=>q.elim)
 | none=>
  rw[hr]at h;dsimp only at h
  cases he:Fe sc e with
  | some as=>
   rw[he]at h
   refine Ca (IF he) λ np p aa hg hs=>rwE aa ?_
   dsimp only at h
   cases hn:HK tgt&&as.length==1 with
   | false=>rw[hn]at h;exact none_some h
   | true=>
   rw[hn]at h
   rw[iC]at hn
   refine mU rfl (Eg X.ok (B8 X.ok (Dt hg).2) (Dt hg).1 X.here.sub (X.tp.bn "enumerate" (.inr (.inr rfl))) (DY hs (CB (o':=o) id hE hs X h λ ts O1 xs s1 g1 h1 S1 l1 X1=>?_)))
   refine BG (AC h1) λ vs e1 ho aa=>?_;subst aa
   erw[(show Dd "enumerate" = .type "enumerate" by decide +kernel)]
   refine Ag e1 λ ws e2 e3=>Ag e3 λ v e4 e3=>exE3 (l1.share S1 e2) λ g2 S2 rl k2=>?_
   obtain X2:=X.step S2
   rw[one?_some e4]at rl
   clear h h1 e1 e2 hr he
   clear e4 hg hs l1
   cases rl with
   | cons rv rn=>
   refine rn.nR ?_
   cases v with
   | lst l=>
    (obtain e3:=hG e3;subst e3)
    cases rv with
    | lst ga hc hd rl hz=>exact iG (N7 (EE:=λ _ _=>False) hn.1 S2 X2.here ga hc hd rl hz) (λ xv s2 q EE'=>fin ho (q EE')) λ _ _ q=>q.elim
   | str l=>
    (obtain e3:=hG e3;subst e3)
    cases rv with
    | str _ _ hz=>exact iG (QM (EE:=λ _ _=>False) hn.1 S2 X2.here hz) (λ xv s2 q EE'=>fin ho (q EE')) λ _ _ q=>q.elim
   | _=>exact none_some e3
  | none=>
   rw[he]at h;dsimp only at h
   cases hn:Eb tgt&&BC [e]with
   | false=>rw[hn]at h;exact none_some h
   | true=>
   rw[hn]at h
   rw[iC]at hn
   refine Cn (o':=o) id hE X h λ t O1 v s1 g1 h1 S1 r1 X1=>λ EE'=>BG (AC h1) λ vs e1 ho aa=>?_;subst aa
   refine Ag e1 λ u e2 e3=>exE3 (r1.share S1 e2) λ g2 S2 r2 k2=>?_
   have X2:=X.step S2
   refine fin ho ?_
   clear fin h h1 e1 e2 hr he ho
   clear S1 X X1 hE k2 r1
   cases u with
   | lst l=>
    (obtain e3:=hG e3;subst e3)
    cases r2 with
    | lst ga hc hd rl hz=>exact OI hn.1 S2 X2.here ga hc hd rl hz
   | tup l=>
    (obtain e3:=hG e3;subst e3)
    cases r2 with
    | tup ga hc hd rl hz=>exact Mh hn.1 S2 X2.here ga hc hd rl hz
   | bytes l=>
    (obtain e3:=hG e3;subst e3)
    cases r2 with
    | bytes _ _ hb hz=>exact L8 hn.1 S2 X2.here hb hz
   | str l=>
    (obtain e3:=hG e3;subst e3)
    cases r2 with
    | str _ _ hz=>exact Q9 hn.1 S2 X2.here hz
   | _=>exact none_some e3
end
section
variable {fr:List Addr}
variable {E:Scope->R->hJ->Mo TV}
variable {I:Addr} {i:Nat}
theorem Fj(env:Env):∀ (l:List (hV×NameKind)) (cs:List (hV×Addr)),(∀ x,(x,l5)∈l->∃ c,env.cells.lookup x=some c) ->
  ∃ cl,(forIn l cs fun(x:hV×NameKind) (r:List (hV×Addr))=>(do
    if x.2==.free then let c <-cellOf env x.1;pure (o9 ((x.1,c)::r)) else pure (o9 r):Sem (ForInStep (List (hV×Addr)))))=pure cl /\
   (∀ x c,cl.lookup x=some c->cs.lookup x=some c\/((x,l5)∈l/\env.cells.lookup x=some c))/\∀ x,(x,l5)∈l\/(cs.lookup x).isSome=true->(cl.lookup x).isSome=true
 | [],cs,_=>iEAA cs rfl (λ _ _ e=>.inl e) (λ x e=>e.elim (λ q=>by cases q) id)
 | (x,k)::r,cs,hc=>by
  by_cases hk:k = .free
  ·subst hk
   refine HX (hc x i8) λ c hx=>exE3 (Fj env r ((x,c)::cs) λ y hy=>hc y (i9 _ hy)) λ cl e1 e2 e3=>?_
   refine iEAA cl ?_ (λ y c' e=>?_) (λ y e=>e3 y ?_)
   ·refine i7 (uH ..) (rwS e1 ?_)
    have:cellOf env x=pure c:=by unfold cellOf;exact rwE hx rfl
    simp[this]
   ·rcases e2 y c' e with q | ⟨q1,q2⟩
    ·rw[jI]at q
     split at q
     ·rename_i hyx
      have:y=x:=by simpa using hyx
      erw[this];(obtain q:=hG q;subst q)
      exact .inr (iA i8 hx)
     ·exact .inl q
    ·exact .inr (iA (i9 _ q1) q2)
   ·erw[jI]
    refine jP e (λ q=>?_) λ q=>?_
    ·refine jP ((iJ).mp q) (λ q=>?_) λ q=>?_
     ·clear hx
      cases q;right;simp
     ·exact .inl q
    ·right;split
     ·rfl
     ·exact q
  ·refine exE3 (Fj env r cs λ y hy=>hc y (i9 _ hy)) λ cl e1 e2 e3=>?_
   refine iEAA cl ?_ (λ y c' e=>?_) (λ y e=>e3 y ?_)
   ·refine i7 (uH ..) (rwS e1 ?_)
    have:(k==l5)=false:=by simpa using hk
    simp[this]
   ·clear e1 e3 hc
    rcases e2 y c' e with q | ⟨q1,q2⟩
    ·exact .inl q
    ·exact .inr (iA (i9 _ q1) q2)
   ·refine jP e (λ q=>?_) λ q=>?_
    ·refine jP ((iJ).mp q) (λ q=>?_) λ q=>?_
     ·clear e e1 e2 e3 hc
      cases q;exact absurd rfl hk
     ·exact .inl q
    ·exact .inr q
theorem LE(scope:Scope)(env:Env)(hc:∀ x,(x,l5)∈scope.names->∃ c,env.cells.lookup x=some c) :
  ∃ cl,closureFor scope env=pure cl/\(∀ x c,cl.lookup x=some c->(x,l5)∈scope.names/\env.cells.lookup x=some c)/\∀ x,(x,l5)∈scope.names->(cl.lookup x).isSome=true:=by
 refine exE3 (Fj env scope.names [] hc) λ cl e1 e2 e3=>iEAA cl ?_ (λ x c e=>(e2 x c e).elim (λ q=>by exact none_some q) id) (λ x e=>e3 x (.inl e))
 unfold closureFor
 exact i7 (bind_pure ..) (rwS e1 rfl)
structure HW(sc csc:Scope)(tgt:hJ):Prop where
 kind:csc.kind = .function
 nodup:(tgtNames tgt).Nodup
 tloc:∀ x∈tgtNames tgt,csc.names.lookup x=some .local
 names:∀ x k,(x,k)∈csc.names->(k = .local/\(x∈tgtNames tgt\/x=".0")/\csc.names.lookup x=some .local)\/(k = .free/\TH (sc.names.lookup x)=true/\csc.names.lookup x=some .free)\/(k = .globalImplicit/\csc.names.lookup x=some .globalImplicit)
theorem Oa(h:Db sc csc tgt=true):HW sc csc tgt:=by
 unfold Db at h
 simp only[iC,decide_eq_true_eq,jJ,beq_iff_eq,kT,uI]at h
 obtain⟨⟨⟨h1,h2⟩,h3⟩,h4⟩:=h
 refine⟨h1,h2,h3,λ x k hx=>?_⟩
 rcases h4 (x,k) hx with (⟨⟨q1,q2⟩,q3⟩| ⟨⟨q1,q2⟩,q3⟩) | ⟨q1,q2⟩
 ·exact .inl (iAA q1 q2 q3)
 ·exact .inr (.inl (iAA q1 q2 q3))
 ·exact .inr (.inr (iA q1 q2))
theorem lookup_mem{α:Type}{x:hV}{v:α}{l:List (hV×α)}(e:l.lookup x=some v):(x,v)∈l:=DT e
theorem kind_comp{cl:List (hV×Addr)}{L:Addr}(x:hV):(compEnvC csc cl L env).kindOf x=csc.names.lookup x\/(csc.names.lookup x=some .free/\(compEnvC csc cl L env).kindOf x=some .cell):=by
 show(relabel csc env).names.lookup x=_\/(_/\(relabel csc env).names.lookup x=_)
 unfold relabel
 generalize csc.names=l
 induction l with
 | nil=>exact .inl rfl
 | cons p r ih=>
  obtain⟨y,k⟩:=p
  rw[iW,jI,jI]
  dsimp only
  cases hc:(k==l5&&env.scope.kind==ScopeKind.function&&env.kindOf y==some tP) with
  | false=>
   erw[if_neg iX]
   cases x==y with
   | true=>exact .inl rfl
   | false=>exact ih
  | true=>
   erw[if_pos rfl]
   cases x==y with
   | true=>
    rw[iC,iC,beq_iff_eq]at hc
    exact .inr ⟨congrArg some hc.1.1,rfl⟩
   | false=>exact ih
theorem FrOK.weaken{J':R}(F:FrOK w P env fr J g h ah)(k:∀ x s,Ah (env.kindOf x)=true->J'.lookup x=some s->J.lookup x=some s):FrOK w P env fr J' g h ah where
 locals:=F.locals
 cells:=F.cells
 apartC:=F.apartC
 vals:=λ x s hx kx=>F.vals x s (k x s kx hx) kx
 apart:=λ x y sx sy a hx hy ox oy kx ky h1 h2=>F.apart x y sx sy a (k x sx kx hx) (k y sy ky hy) ox oy kx ky h1 h2
 apartL:=λ x s a hx ox kx h1=>F.apartL x s a (k x s kx hx) ox kx h1
theorem FrOK.comp{cl:List (hV×Addr)}{L:Addr}{m:hV->Option Value}{J':R}(K:IU sc env)(F:FrOK w P env fr J g h ah)(xa:HW sc csc tgt)
  (c1:∀ x c,cl.lookup x=some c->(x,l5)∈csc.names/\env.cells.lookup x=some c) (c2:∀ x,(x,l5)∈csc.names->(cl.lookup x).isSome=true)
  (hn:ah.get? L=none) (hg:g L=none) (hp:some L≠P) (hm:h.Ns L m)
  (hL:∀ x s a,J.lookup x=some s->s.isOwn=true->Ah (env.kindOf x)=true->Holds env h x (.ref a)->a≠L)
  (hr:∀ x s,J'.lookup x=some s->(csc.names.lookup x=some .free->J.lookup x=some s)/\(csc.names.lookup x=some .local->∃ v xv,s = .val v/\m x=some xv/\Rep w P g v xv)) :
  FrOK w P (compEnvC csc cl L env) fr J' g h ah:=by
 have aR:∀ x,csc.names.lookup x=some .free->Ah (env.kindOf x)=true/\(env.kindOf x=some .cell\/env.kindOf x=some .free):=λ x hx=>by
  rcases xa.names x .free (lookup_mem hx) with ⟨q,_⟩| ⟨_,q,_⟩| ⟨q,_⟩
  ·cases q
  ·unfold TH at q
   simp only[kT,beq_iff_eq]at q
   rcases K.kinds x with e | ⟨e,e'⟩
   ·erw[e]
    rcases q with q | q <;> erw[q]
    ·exact iA rfl (.inl rfl)
    ·exact iA rfl (.inr rfl)
   ·exact rwE e' (iA rfl (.inl rfl))
  ·cases q
 have hk:∀ x,Ah ((compEnvC csc cl L env).kindOf x)=true->(csc.names.lookup x=some .local/\(compEnvC csc cl L env).kindOf x=some .local) \/
   (csc.names.lookup x=some .free/\((compEnvC csc cl L env).kindOf x=some .cell\/(compEnvC csc cl L env).kindOf x=some .free)):=λ x hx=>by
  rcases kind_comp (csc:=csc) (env:=env) (cl:=cl) (L:=L) x with e | ⟨e1,e2⟩
  ·rw[e]at hx ⊢
   rcases FrOK.free_own (env:=compEnvC csc cl L env) (x:=x) (by erw[e];exact hx) with q | q | q
   ·obtain q:=eqL e q;exact .inl (iA q q)
   ·obtain q:=eqL e q
    rcases xa.names x .cell (lookup_mem q) with ⟨z,_⟩| ⟨z,_⟩| ⟨z,_⟩ <;> cases z
   ·obtain q:=eqL e q;exact .inr (iA q (.inr q))
  ·exact .inr (iA e1 (.inl e2))
 have cN:∀ x v,csc.names.lookup x=some .free->(Holds (compEnvC csc cl L env) h x v↔Holds env h x v):=λ x v hx=>by
  obtain hcf:=(aR x hx).2
  have hnl:(compEnvC csc cl L env).kindOf x≠some .local:=λ e=>by
   rcases kind_comp (csc:=csc) (env:=env) (cl:=cl) (L:=L) x with q | ⟨_,q⟩
   ·replace e:=eqL hx (eqL q e);cases e
   ·replace e:=eqL q e;cases e
  have hck:(compEnvC csc cl L env).kindOf x=some .cell\/(compEnvC csc cl L env).kindOf x=some .free:=by
   rcases kind_comp (csc:=csc) (env:=env) (cl:=cl) (L:=L) x with q | ⟨_,q⟩
   ·erw[q,hx];exact .inr rfl
   ·exact .inl q
  constructor
  ·rintro(⟨k,_⟩| ⟨_,c,hc,e⟩)
   ·exact absurd k hnl
   ·exact .inr (A8 hcf c ((c1 x c hc).2) e)
  ·rintro(⟨k,_⟩| ⟨_,c,hc,e⟩)
   ·rcases hcf with q | q <;> (replace q:=eqL k q;cases q)
   ·refine qE ((jL).mp (c2 x (lookup_mem hx))) λ c' aC=>?_
    obtain this:=(c1 x c' aC).2
    replace this:=eqL hc this;(obtain this:=hG this;subst this)
    exact .inr (A8 hck c aC e)
 have bz:∀ x s,J'.lookup x=some s->s.isOwn=true->Ah ((compEnvC csc cl L env).kindOf x)=true->csc.names.lookup x=some .free:=λ x s hx o kx=>by
  rcases hk x kx with ⟨q,_⟩| ⟨q,_⟩
  ·refine It ((hr x s hx).2 q) λ v _ aa _=>?_;subst aa
   exact fls o
  ·exact q
 refine⟨⟨hn,hg,hp,m,hm⟩,λ x kx=>?_,λ x y c hx hy=>F.apartC x y c (c1 x c hx).2 (c1 y c hy).2,λ x sl hx kx=>?_,λ x y sx sy a hx hy ox oy kx ky h1 h2=>?_,λ x sl a hx ox kx h1=>?_⟩
 ·refine AK λ Z zk=>?_
  have hf:csc.names.lookup x=some .free:=by
   rcases hk x (by rcases kx with q | q <;> erw[q] <;> rfl) with ⟨_,q⟩| ⟨q,_⟩
   ·replace kx:=q▸kx;rcases kx with z | z <;> cases z
   ·exact q
  refine qE ((jL).mp (c2 x (lookup_mem hf))) λ c' aC=>exE2 (F.cells x (aR x hf).2) λ c hc r=>?_
  obtain this:=(c1 x c' aC).2
  obtain this:=eqL hc this;(obtain this:=hG this;subst this)
  exact zk (iEA _ aC r)
 ·rcases hk x kx with ⟨q,q'⟩| ⟨q,_⟩
  ·exact Ca ((hr x sl hx).2 q) λ v xv aa e r=>rwE aa (iEA xv (.inl ⟨q',m,hm,e⟩) r)
  ·exact exE2 (F.vals x sl ((hr x sl hx).1 q) (aR x q).1) λ v hv r=>iEA v ((cN x v q).mpr hv) r
 ·obtain fx:=bz x sx hx ox kx
  obtain fy:=bz y sy hy oy ky
  exact F.apart x y sx sy a ((hr x sx hx).1 fx) ((hr y sy hy).1 fy) ox oy (aR x fx).1 (aR y fy).1 ((cN x _ fx).mp h1) ((cN y _ fy).mp h2)
 ·have fx:=bz x sl hx ox kx
  have ho:=(cN x _ fx).mp h1
  exact Bv (F.apartL x sl a ((hr x sl hx).1 fx) ox (aR x fx).1 ho) λ q1 q2=>iA (hL x sl a ((hr x sl hx).1 fx) ox (aR x fx).1 ho) (λ y c hc=>q2 y c (c1 y c hc).2)
end
section
variable {fr:List Addr}
variable {E:Scope->R->hJ->Mo TV}
variable {I:Addr} {i:Nat}
theorem Rep.tupOf{vs:List V}{x:Value}(r:Rep w P g (.tup vs) x):∃ a o items n,x = .ref a/\g a=some o/\o.cls = .type "tuple"/\o.data = .seq items n/\AF w P g vs items.toList:=by
 cases r with | tup e c d r l=>exact iEEEEAAAA _ _ _ _ rfl e c d r
theorem AF.pair{a b:V}{items:Array Value}(r:AF w P g [a,b] items.toList):∃ x y,items=#[x,y]/\Rep w P g a x/\Rep w P g b y:=by
 refine AK λ Z zk=>?_
 obtain⟨items⟩:=items
 cases r with | cons r1 rl=>
 cases rl with | cons r2 rl=>
 cases rl
 exact zk (CL _ _ rfl r1 r2)
theorem FK.refl:FK h h:=λ _ _ _ e _=>e
theorem FK.trans(x:FK h h')(y:FK h' dE):FK h dE:=λ b o fs e d=>y b o fs (x b o fs e d) d
theorem FK.but{a:Addr}(sb:k7 a h h')(k:∀ o fs,h.get? a=some o->o.data≠.fields fs):FK h h':=λ b o fs e d=>
 (sb.2 b (λ q=>by subst q;exact k o fs e d)).trans e
theorem FK.of_keeps(k:∀ b o,h.get? b=some o->h'.get? b=some o):FK h h':=λ b o _ e _=>k b o e
theorem AE.fk(S:AE w fr P g s g' O' s')(H:AP w P fr g O s):FK s.heap s'.heap:=S.so.fk H.frs H.pen
theorem Src.self(x:Src w P tgt I vs n i g s.heap)(hh:A.handled=none){Q:Value->Shared->Prop}(h:Q (.ref I) s):wpAny (model prog w) A (pyIter (.ref I)) Q EE s:=by
 refine BA x λ wr fp St X=>?_
 rcases X.alt with ⟨_,_,Y⟩| ⟨_,_,_,Y⟩
 ·exact(Y.walks A hh).self _ _ _ _ X.st h
 ·exact(Y.walks A hh).self _ _ _ _ X.st h
structure CI(w:World)(P:Option Addr)(fr:List Addr)(af:Gs)(ac:Shared)(L D I:Addr)(tgt:hJ)(vs:List V)(j:Nat)(g:Gs)(O:A4)(s:Shared)(yd:List V):Prop where
 S:AE w fr P af ac g O s
 H:AP w P fr g O s
 ns:∃ m,s.heap.Ns L m
 gL:g L=none
 acc:∃ items,PlainL s.heap D items/\AF w P g yd items.toList
 gD:g D=none
 src:Src w P tgt I vs ac.heap j g s.heap
 len:yd.length<=j
 nL:ac.heap.get? L=none
 pL:some L≠P
 fL:L ∉ fr
 nD:ac.heap.get? D=none
 pD:some D≠P
 fD:D ∉ fr
section
variable {L D:Addr} {j:Nat} {yd:List V}
theorem D0{a:Addr}{items:Array Value}(x:PlainL h a items):∃ o,h.get? a=some o/\∀ fs,o.data≠.fields fs:=by
 exact H0 x λ o n ho _ _ hd=>iEA o ho (λ fs q=>by have q:=eqL hd q;cases q)
theorem K6{a:Addr}{m:hV->Option Value}(x:h.Ns a m):∃ o,h.get? a=some o/\∀ fs,o.data≠.fields fs:=by
 exact BJ x λ o es ep ho hd _=>iEA o ho (λ fs q=>by replace q:=eqL hd q;cases q)
theorem GW{a:Addr}{items:Array Value}(x:PlainL h a items)(k:∀ o,(∀ fs,o.data≠.fields fs)->h.get? a=some o->h'.get? a=some o):PlainL h' a items:=by
 exact H0 x λ o n ho hc bI hd=>iEEAAA o n (k o (λ fs q=>by replace q:=eqL hd q;cases q) ho) hc bI hd
theorem CI.turn{wr:List Addr}{t':Nat}(X:CI w P fr af ac L D I tgt vs j g O s yd)(x:Turn ac.heap g g' s.heap h' wr)(src:Src w P tgt I vs ac.heap (j+1) g' h') :
  CI w P fr af ac L D I tgt vs (j+1) g' O {s with heap:=h',toks:=t'} yd:=by
 refine AK λ Z zk=>qE X.ns λ m hm=>exE2 X.acc λ items hl rl=>zk ?_
 exact⟨X.S.turn x,X.H.turn x,⟨m,x.ns hm⟩,(x.ext.2 L (let ⟨_,q,_⟩:=K6 hm;Am q)).trans X.gL,⟨items,GW hl λ o hd ho=>x.alike ho hd,rl.mono x.ext.1⟩,(x.ext.2 D (let ⟨_,q,_⟩:=D0 hl;Am q)).trans X.gD,
  src,mN X.len,X.nL,X.pL,X.fL,X.nD,X.pD,X.fD⟩
theorem CI.step(X:CI w P fr af ac L D I tgt vs j g O s yd)(S':AE w fr P g s g' O' s'):CI w P fr af ac L D I tgt vs j g' O' s' yd:=by
 refine AK λ Z zk=>?_
 obtain⟨m,hm⟩:=X.ns
 refine exE2 X.acc λ items hl rl=>zk ?_
 exact⟨X.S.trans0 S',X.H.step S',⟨m,(S'.so.alike X.pL).ns hm⟩,(S'.ext.2 L (let ⟨_,q,_⟩:=K6 hm;Am q)).trans X.gL,⟨items,(S'.so.alike X.pD).plainL hl,rl.mono S'.ext.1⟩,(S'.ext.2 D (let ⟨_,q,_⟩:=D0 hl;Am q)).trans X.gD,
  X.src.keep (S'.fk X.H) S'.ext X.H.sub S'.sub,X.len,X.nL,X.pL,X.fL,X.nD,X.pD,X.fD⟩
theorem CI.store{t':Nat}{m:hV->Option Value}(X:CI w P fr af ac L D I tgt vs j g O s yd)(sb:k7 L s.heap h')(aK:h'.Ns L m) :
  CI w P fr af ac L D I tgt vs j g O {s with heap:=h',toks:=t'} yd:=by
 refine AK λ Z zk=>qE X.ns λ m0 hm=>?_
 obtain⟨items,hl,rl⟩:=X.acc
 obtain S2:=X.S.upd (t':=t') ⟨sb,X.nL,X.gL,X.pL⟩
 refine zk ?_
 exact⟨S2,⟨S2.sub,S2.pen,X.H.frs.upd sb λ q=>absurd q X.fL⟩,⟨m,aK⟩,X.gL,⟨items,hl.extBut sb.extBut (C7 hm (plainL_isList hl)),rl⟩,X.gD,
  X.src.keep (FK.but sb λ o fs e=>by obtain⟨oL,q,r⟩:=K6 hm;cases e.symm.trans q;exact r fs) .refl X.H.sub S2.sub,X.len,X.nL,X.pL,X.fL,X.nD,X.pD,X.fD⟩
theorem CI.app{t':Nat}{items:Array Value}{v:V}{x:Value}(X:CI w P fr af ac L D I tgt vs (j+1) g O s yd)(hl:yd.length<=j)(hi:PlainL s.heap D items)(rl:AF w P g yd items.toList)(r:Rep w P g v x)(sb:k7 D s.heap h')(bg:PlainL h' D (items.push x)) :
  CI w P fr af ac L D I tgt vs (j+1) g O {s with heap:=h',toks:=t'} (yd++[v]):=by
 refine HX X.ns λ m0 hm=>?_
 obtain S2:=X.S.upd (t':=t') ⟨sb,X.nD,X.gD,X.pD⟩
 exact⟨S2,⟨S2.sub,S2.pen,X.H.frs.upd sb λ q=>absurd q X.fD⟩,⟨m0,hm.sameBut sb (C7 hm (plainL_isList hi)).symm⟩,X.gL,⟨_,bg,by erw[Array.toList_push];exact rl.append (.cons r .nil)⟩,X.gD,
  X.src.keep (FK.but sb λ o fs e=>by obtain⟨oD,q,z⟩:=D0 hi;cases e.symm.trans q;exact z fs) .refl X.H.sub S2.sub,by erw[hW];exact j6 hl,X.nL,X.pL,X.fL,X.nD,X.pD,X.fD⟩
theorem targetL_is{v:V}{xs:List (hV×V)}(h:AJ tgt v=some xs):(∃ x p,tgt = .Name x p/\xs=[(x,v)]) \/
  (∃ x y q1 q2 k p v1 v2,tgt = .Tuple [.Name x q1,.Name y q2] k p/\v = .tup [v1,v2]/\xs=[(x,v1),(y,v2)]/\tgtNames tgt=[x,y]):=by
 unfold AJ at h
 cases hx:name? tgt with
 | some x=>
  replace h:=hx▸h
  refine HX (name?_some hx) λ p e=>?_
  exact .inl (iEEA x p e ((hG h).symm))
 | none=>
  refine AK λ Z zk=>?_
  rw[hx]at h
  refine Ag (show(((tuple? tgt).bind DJ).bind λ p=>v.tup?.bind λ l=>(two? l).map λ q=>[(p.1,q.1),(p.2,q.2)])=some xs from h) λ p0 h1 h=>Ag h λ l h2 h=>AY h λ q h3 h4=>?_
  obtain hn:tgtNames tgt=[p0.1,p0.2]:=by unfold tgtNames;exact rwE hx (rwE h1 rfl)
  refine Ag h1 λ es h5 h1=>XX (tuple?_some h5) λ k p h6=>?_
  exact Ha (HI h1) λ a b h7=>zk (.inr ⟨p0.1,p0.2,a,b,k,p,q.1,q.2,by exact i7 h6 (rwE h7 rfl),by exact i7 (V.tup?_some h2) (rwE (two?_some h3) rfl),h4.symm,hn⟩)
theorem E4{v:V}{xs:List (hV×V)}(h:AJ tgt v=some xs):xs.map (·.1)=tgtNames tgt:=by
 rcases targetL_is h with ⟨x,p,rfl,rfl⟩| ⟨x,y,q1,q2,k,p,v1,v2,_,rfl,rfl,e⟩
 ·rfl
 ·erw[e];rfl
theorem Qp{cl:List (hV×Addr)}{v:V}{xv:Value}{xs:List (hV×V)}{Q:Unit->Shared->Prop}(hh:A.handled=none)(xa:HW sc csc tgt)(X:CI w P fr af ac L D I tgt vs j g O s yd)
  (ht:AJ tgt v=some xs) (r:Rep w P g v xv)
  (k:∀ s' m,CI w P fr af ac L D I tgt vs j g O s' yd->s'.heap.Ns L m->(∀ p∈xs,∃ yv,m p.1=some yv/\Rep w P g p.2 yv)->Q () s') :
  wpAny (model prog w) A (assign tgt (compEnvC csc cl L env) xv) Q EE s:=by
 have kl:∀ x∈tgtNames tgt,(compEnvC csc cl L env).kindOf x=some .local:=λ x hx=>by
  rcases kind_comp (csc:=csc) (env:=env) (cl:=cl) (L:=L) x with e | ⟨e,_⟩
  ·exact i7 e (xa.tloc x hx)
  ·replace e:=eqL (xa.tloc x hx) e;cases e
 have hp:((compEnvC csc cl L env).scope.kind==.class||((compEnvC csc cl L env).scope.kind==.module&&(compEnvC csc cl L env).locals != (compEnvC csc cl L env).globals))=false:=by
  erw[xa.kind];rfl
 obtain bw:=xa.nodup
 rcases targetL_is ht with ⟨x,p,rfl,rfl⟩| ⟨x,y,q1,q2,_,_,v1,v2,rfl,rfl,rfl,_⟩
 ·refine qE X.ns λ m hm=>assign_Name (nZ (kl _ i8) hm (λ h' hn sb=>k _ _ (X.store sb hn) hn λ p hp=>?_) hp)
  exact rwE ((iD).mp hp) (iEA xv (if_pos rfl) r)
 ·refine AK λ Z zk=>?_
  obtain hxy:x≠y:=λ q=>((lL).mp bw).1 (by erw[q];exact i8)
  refine E1 r.tupOf λ a o items kk aa ga hc hd rl=>?_;subst aa
  refine Ca rl.pair λ x1 x2 aa r1 r2=>?_;subst aa
  refine zk (q7 hh ((EF o (X.H.sub _ _ ga) hc _ hd):s.heap.IsTuple a #[x1,x2]) rfl rfl λ h1 he=>?_)
  have X1:=X.step (X.H.keeps (t':=s.toks) (λ b o e=>he b o (λ q=>by rw[q,Ak]at e;exact none_some e) e:∀ b o,s.heap.get? b=some o->h1.get? b=some o))
  refine qE X1.ns λ m hm=>i5 (jN (assign_Name (nZ (kl _ i8) hm (λ h2 cO dS=>?_) hp)))
  refine i5 (jN (assign_Name (nZ (kl _ (i9 _ i8)) cO (λ h3 d5 sb3=>?_) hp)))
  refine iI (k _ _ ((X1.store (t':=s.toks+1) dS cO).store (t':=s.toks+1+1) sb3 d5) d5 λ p hp=>?_)
  refine jP ((iJ).mp hp) (λ q=>?_) λ q=>?_
  ·exact rwE q (iEA x1 (Gx hxy (BX rfl rfl)) r1)
  ·exact rwE ((iD).mp q) (iEA x2 (if_pos rfl) r2)
theorem CI.at{cl:List (hV×Addr)}{xs:List (hV×V)}{v:V}{m:hV->Option Value}(X₀:At w P sc J env A d fr af ah O'' ac)(X:CI w P fr af ac L D I tgt vs j g O s yd)(xa:HW sc csc tgt)
  (nL:ah.get? L=none) (h0:J.lookup (".0" : hV)=none)
  (c1:∀ x c,cl.lookup x=some c->(x,l5)∈csc.names/\env.cells.lookup x=some c) (c2:∀ x,(x,l5)∈csc.names->(cl.lookup x).isSome=true)
  (ht:AJ tgt v=some xs) (hm:s.heap.Ns L m) (hv:∀ p∈xs,∃ yv,m p.1=some yv/\Rep w P g p.2 yv) :
  At w P csc (xs.map (λ p=>(p.1,Slot.val p.2))++J) (compEnvC csc cl L env) A d fr g ah O s:=by
 obtain X1:=X₀.step X.S
 refine⟨⟨λ x=>kind_comp x,xa.kind,X₀.ok.globals,X₀.ok.builtins⟩,X₀.a,X1.here,?_,X1.tp,X1.dom⟩
 refine FrOK.comp X₀.ok X1.fro xa c1 c2 nL X.gL X.pL hm (λ x sl a hx ox kx ho=>?_) λ x sl hx=>?_
 ·refine AK λ Z zk=>exE2 (X₀.fro.vals x sl hx kx) λ v0 hv0 r0=>?_
  obtain this:=(hv0.mono X₀.fro X.S.so).fun ho
  clear X1 X₀ c1 c2 hm ho hv0 kx
  subst this
  refine zk ?_
  rintro rfl
  cases sl with
  | val u=>exact fls ox
  | own vs=>
   refine A7 r0 λ _ _ e _ aa _=>?_;obtain⟨o,_,an,_⟩:=aa
   cases e
   obtain an:=eqL X.nL an;exact none_some an
  | ownd ak=>
   refine A7 r0 λ _ _ e _ aa _=>?_;obtain⟨o,_,_,an,_⟩:=aa
   cases e
   obtain an:=eqL X.nL an;exact none_some an
 ·have bF:∀ (ys:List (hV×V)),(∀ p∈ys,p∈xs)->(ys.map (λ p=>(p.1,Slot.val p.2))++J).lookup x=some sl->(∃ u,sl = .val u/\(x,u)∈xs)\/(J.lookup x=some sl/\x ∉ ys.map (·.1)):=λ ys=>by
   induction ys with
   | nil=>intro _ e;exact .inr (iA e (by simp))
   | cons p r ih=>
    intro hs e
    replace e:=eqL jI (lE▸(iW▸e))
    split at e
    ·rename_i hq
     have:x=p.1:=by simpa using hq
     (obtain e:=hG e;subst e)
     exact .inl (iEA p.2 rfl (by erw[this];exact hs p i8))
    ·rename_i hq
     rcases ih (λ p hp=>hs p (i9 _ hp)) e with q | ⟨q1,q2⟩
     ·exact .inl q
     ·refine .inr (iA q1 ?_)
      refine rwE iW (Gu iJ ?_)
      rintro(z | z)
      ·rw[z]at hq;simp at hq
      ·exact q2 z
  rcases bF xs (λ _ q=>q) hx with ⟨u,rfl,hu⟩| ⟨q1,q2⟩
  ·refine iA (λ hf=>?_) (λ _=>?_)
   ·have:x∈tgtNames tgt:=by refine rwS (E4 ht) ?_;exact (jV).mpr (iEA _ hu rfl)
    replace hf:=eqL (xa.tloc x this) hf;cases hf
   ·exact exE2 (hv _ hu) λ yv e r=>CL u yv rfl e r
  ·refine iA (λ _=>q1) (λ hl=>?_)
   rw[E4 ht]at q2
   clear X X1 X₀ c1 c2 hm ht hv hx bF nL
   rcases xa.names x .local (lookup_mem hl) with ⟨_,q | q,_⟩| ⟨q,_⟩| ⟨q,_⟩
   ·exact absurd q q2
   ·subst q;replace q1:=eqL h0 q1;exact none_some q1
   ·cases q
   ·cases q
end
end
section
variable {fr:List Addr}
variable {E:Scope->R->hJ->Mo TV}
variable {I:Addr} {i:Nat} {L D:Addr}
theorem L5{J':R}{bJ:Env}{ifs:List hJ}{b:Bool}{Q:Bool->Shared->Prop}(hT:Ff w P T d)(X:At w P csc J' bJ A d fr g ah O s)(h:OT T csc J' ifs O=some (.ok b,O'))
  (k:∀ s' g',AE w fr P g s g' O' s'->Q b s') :
  wpAny (model prog w) A (forIn ifs true λ c r=>if r=true then do let ok <-isTrue c bJ (eval c bJ);pure (o9 ok) else pure (o9 r)) Q EE s:=by
 cases ifs with
 | nil=>
  refine AK λ Z zk=>?_
  have h':=h
  refine qA (AW h') λ e aa=>?_;subst aa
  clear h'
  cases e
  exact zk (wpAny_tests_nil (k s g X.here.refl))
 | cons e r=>cases r with
  | nil=>
   refine wpAny_tests_one (iG (hT csc J' e O O' _ h bJ A fr g ah s X) (λ c s' q=>?_) λ _ _ q=>q.elim)
   exact XQ q λ aa g' S=>rwE aa (k s' g' S)
  | cons _ _=>exact none_some h
theorem Gg{α β:Type}{m:Mo α}{f:α->Mo β}{o:β}(h:Mo.bind m f O=some (.ok o,O'')):∃ a O',m O=some (.ok a,O')/\f a O'=some (.ok o,O''):=by
 rcases bind_some h with q | ⟨_,q⟩
 ·exact q
 ·exact nc Mine.Out.ctorIdx q (.refl false)
structure CF(w:World)(P:Option Addr)(fr:List Addr)(af:Gs)(ac:Shared)(L D:Addr)(g:Gs)(O:A4)(s:Shared)(yd:List V):Prop where
 S:AE w fr P af ac g O s
 H:AP w P fr g O s
 ns:∃ m,s.heap.Ns L m
 acc:∃ items,PlainL s.heap D items/\AF w P g yd items.toList
 gL:g L=none
 gD:g D=none
 nL:ac.heap.get? L=none
 pL:some L≠P
 fL:L ∉ fr
 nD:ac.heap.get? D=none
 pD:some D≠P
 fD:D ∉ fr
theorem CI.fin{j:Nat}{yd:List V}{wr:List Addr}{t':Nat}(X:CI w P fr af ac L D I tgt vs j g O s yd)(x:Turn ac.heap g g s.heap h' wr) :
  CF w P fr af ac L D g O {s with heap:=h',toks:=t'} yd:=by
 exact AK λ Z zk=>HX X.ns λ m hm=>exE2 X.acc λ items hl rl=>zk ⟨X.S.turn x,X.H.turn x,⟨m,x.ns hm⟩,⟨items,GW hl λ o hd ho=>x.alike ho hd,rl.mono x.ext.1⟩,X.gL,X.gD,X.nL,X.pL,X.fL,X.nD,X.pD,X.fD⟩
theorem Hx{elt:hJ}{ifs:List hJ}{v:V}{r rest:List V}(h:BR E T csc J tgt ifs elt (v::r) O=some (.ok rest,O')):∃ xs ok O1,AJ tgt v=some xs/\OT T csc (xs.map (λ p=>(p.1,Slot.val p.2))++J) ifs O=some (.ok ok,O1) /\
  ((ok=false/\BR E T csc J tgt ifs elt r O1=some (.ok rest,O'))\/(ok=true/\∃ t y O2 ys,E csc (xs.map (λ p=>(p.1,Slot.val p.2))++J) elt O1=some (.ok t,O2)/\valOf t=some y/\BR E T csc J tgt ifs elt r O2=some (.ok ys,O')/\rest=y::ys)):=by
 unfold BR at h
 cases ht:AJ tgt v with
 | none=>rw[ht]at h;exact none_some h
 | some xs=>
 rw[ht]at h
 refine Ij (Gg h) λ ok O1 h1 h2=>GE xs ok O1 rfl h1 ?_
 clear h h1 ht
 cases ok with
 | false=>exact .inl ⟨rfl,h2⟩
 | true=>
  refine Ij (Gg (show Mo.bind (E csc (xs.map (λ p=>(p.1,Slot.val p.2))++J) elt) _ O1=_ from h2)) λ t O2 h3 h4=>.inr (iAE rfl t ?_)
  cases dg:valOf t with
  | none=>rw[dg]at h4;exact none_some h4
  | some y=>
   refine AK λ Z zk=>?_
   rw[dg]at h4
   refine Ij (Gg h4) λ ys O3 h5 h6=>qA (AW h6) λ e6 aa=>?_;subst aa
   exact zk (CH y O2 ys h3 rfl h5 (Out.ok.inj e6))
theorem OU{elt:hJ}{ifs:List hJ}(l:List V):∀ {O:A4} {ys:List V},BR E T csc J tgt ifs elt l O=some (.ok ys,O')->ys.length<=l.length:=by
 induction l with
 | nil=>intro O ys q;obtain⟨e,_⟩:=AW q;cases e;exact j3 _
 | cons v r ih=>
  intro O ys q
  obtain⟨xs,ok,O1,_,_,⟨_,h⟩| ⟨_,t,y,O2,ys',_,_,h,rfl⟩⟩:=Hx q
  ·exact mN (ih h)
  ·exact j6 (ih h)
theorem N6{elt it:hJ}{ifs:List hJ}{pos:Pos}{cl:List (hV×Addr)}{ys:List V}{RR:Result->Shared->Prop}(hE:Bp w P E d)(hT:Ff w P T d)
  (X₀:At w P sc J env A d fr af ah O0 ac) (xa:HW sc csc tgt) (nL:ah.get? L=none) (h0:J.lookup (".0" : hV)=none)
  (c1:∀ x c,cl.lookup x=some c->(x,l5)∈csc.names/\env.cells.lookup x=some c) (c2:∀ x,(x,l5)∈csc.names->(cl.lookup x).isSome=true)
  (hz:vs.length<=Ae) (hR:∀ g s,CF w P fr af ac L D g O' s ys->RR (.ok .next) s)
  (n:Nat) (hI:∃ j g O yd rest,vs.length=j+n/\CI w P fr af ac L D I tgt vs j g O s yd/\BR E T csc J tgt ifs elt (vs.drop j) O=some (.ok rest,O')/\ys=yd++rest) :
  codeAny (model prog w) A (.compLoop (.ListComp elt [⟨tgt,it,ifs,0⟩] csc pos) 0 (.ref I) (.ref D) (compEnvC csc cl L env)) RR s:=by
 obtain⟨Z,cy,dq⟩:∃ Z:Nat->Shared->Prop,(∀ n s,(∃ j g O yd rest,vs.length=j+n/\CI w P fr af ac L D I tgt vs j g O s yd/\BR E T csc J tgt ifs elt (vs.drop j) O=some (.ok rest,O')/\ys=yd++rest)->Z n s) /\
  ∀ n s,Z n s->∃ j g O yd rest,vs.length=j+n/\CI w P fr af ac L D I tgt vs j g O s yd/\BR E T csc J tgt ifs elt (vs.drop j) O=some (.ok rest,O')/\ys=yd++rest:=⟨_,λ _ _=>id,λ _ _=>id⟩
 refine codeAny_loop rfl Z (λ n s hI=>?_) n (cy _ _ hI)
 show wpAny _ A ((compTurn (.ListComp elt [⟨tgt,it,ifs,0⟩] csc pos) 0 (.ref I) (.ref D) (compEnvC csc cl L env)).onRaise (λ x=>do noteFrame x (compEnvC csc cl L env);theTreesLotGoes x)) _ _ s
 refine wpAny_noted (rwE (compTurn_list ..) ?_)
 obtain hI:=dq _ _ hI
 refine ND hI λ j g O yd rest hn X hc hy=>?_
 have hh:=X₀.a.handled
 clear hI dq
 cases n with
 | zero=>
  refine AK λ Z zk=>?_
  obtain hj:j=vs.length:=hn.symm
  rw[hj,pA]at hc
  rw[hj]at X
  refine qA (AW hc) λ e1 aa=>?_;subst aa
  cases e1
  rw[iO]at hy
  rw[hy]at hR
  refine zk (i5 (kB (i5 (iG (X.src.done (EE:=λ _ _=>False) X.H.sub hh) (λ r s1 q=>?_) λ _ _ q=>q.elim))))
  refine Ry q λ aa h' tk wr al Tn=>rwE aa (rwE al ?_)
  exact iI (hR g _ (X.fin Tn))
 | succ n=>
  have hj:j < vs.length:=by erw[hn];exact kR (kZ n)
  have aM:vs.length=j+1+n:=by(refine i7 hn (rwE (mE ..) ?_);exact rwE (lB 1 n) rfl)
  have hv:=jM hj
  rw[sI hj]at hc
  generalize vs[j]=v at hv hc
  replace hc:=Hx hc
  refine BJ hc λ xs ok O1 ht hc1 cm=>i5 (kB (i5 (iG (X.src.item (EE:=λ _ _=>False) X.H.sub hh hv) (λ r s1 q=>?_) λ _ _ q=>q.elim)))
  refine A9 q λ xv aa au=>rwE aa ?_;have q:=au
  refine i5 (iG q (λ _ s2 q=>?_) λ _ _ q=>q.elim)
  refine FL q λ h' tk g1 wr aa Tn rv src=>rwE aa ?_
  have gX:=X.len
  refine i5 (Qp hh xa (X.turn (t':=tk) Tn src) ht rv λ s3 m X3 hm hv3=>?_)
  have At3:=CI.at X₀ X3 xa nL h0 c1 c2 ht hm hv3
  refine i5 (L5 hT At3 hc1 λ s4 g4 S4=>?_)
  obtain X4:=X3.step S4
  rcases cm with ⟨rfl,cm⟩| ⟨rfl,t,y,O2,ys',fW,dg,fz,hc6⟩
  ·exact i5 (iI (iI ⟨rfl,n,lO _,cy _ _ ⟨j+1,g4,O1,yd,rest,aM,X4,cm,hy⟩⟩))
  ·refine i5 (i5 (iG (hE csc _ elt O1 O2 _ fW _ A fr g4 ah s4 (At3.step S4)) (λ x s5 q=>?_) λ _ _ q=>q.elim))
   refine AK λ Z zk=>?_
   refine exE2 q λ g5 S5 r5=>exE3 (r5.share S5 dg) λ g6 S6 r6 _=>?_
   have X6:=X4.step S6
   refine exE2 X6.acc λ items hl rl=>?_
   obtain ai:items.size<=Ae:=by
    exact rwE (show items.size=yd.length from rl.length) (hZ gX (hZ (jB hj) hz))
   refine zk ?_
   refine i5 (Nb hl ?_ λ dE bg sb=>?_)
   ·exact rwE (show items.size=yd.length from rl.length) (iQ gX (jK hj hz))
   ·exact iI (iI ⟨rfl,n,lO _,cy _ _ ⟨j+1,g6,O2,yd++[y],ys',aM,X6.app gX hl rl r6 sb bg,fz,by refine i7 hy (rwE hc6 ?_);simp⟩⟩)
theorem iter_noSet{e:hJ}{o:Out (List V)}(h:By E sc J tgt e O=some (o,O')):BC [e]=true:=by
 unfold By at h
 cases hr:CX sc e with
 | some as=>obtain⟨np,p,rfl,_⟩:=H4 hr;rfl
 | none=>
  rw[hr]at h
  clear hr
  cases he:Fe sc e with
  | some as=>obtain⟨np,p,rfl,_⟩:=IF he;rfl
  | none=>
   rw[he]at h
   cases hn:Eb tgt&&BC [e]with
   | true=>exact((iR).mp hn).2
   | false=>rw[hn]at h;exact none_some h
theorem IL{α:Type}{m:Mo α}{o:Out α}(h:Mo.calm m O=some (o,O')):∃ a,o = .ok a/\m O=some (.ok a,O'):=by
 unfold Mo.calm at h
 cases q:m O with
 | none=>replace h:=q▸h;exact none_some h
 | some p=>
  rw[q]at h
  clear q
  obtain⟨o',O1⟩:=p
  cases o' with
  | ok a=>cases h;exact iEA a rfl rfl
  | exc=>exact none_some h
theorem JX{elt it:hJ}{ifs:List hJ}{pos p:Pos}{use:Option (Value->Sem Unit)}{o:Out TV}{Q:Value->Shared->Prop}(hE:Bp w P E d)(hT:Ff w P T d)
  (X:At w P sc J env A d fr g ah O s) (hO:(Db sc csc tgt&&(J.lookup (".0" : hV)).isNone)=true)
  (h:Mo.bind (By E sc J tgt it) (λ items=>Mo.bind (Mo.calm (BR E T csc J tgt ifs elt items)) λ ys=>Mo.ret (V.lst ys,HQ.fresh)) O=some (o,O'))
  (hQ:∀ s' g' L D ys,o = .ok (.lst ys,.fresh)->ys.length<=Ae->CF w P fr g s L D g' O' s' ys->compPost (model prog w) A (exQ w P fr env.frame g O' s o) use Q (.ref D) L (.ok .next) s') :
  wpAny (model prog w) A (comprehension (.ListComp elt [⟨tgt,it,ifs,0⟩] csc pos) csc env p (newList []) false (eval it env) use) Q (exQ w P fr env.frame g O' s o) s:=by
 replace hO:=Eq.mp (iC ..) hO
 refine Bv hO λ gp h0=>?_
 have h0:J.lookup (".0" : hV)=none:=by simpa using h0
 have xa:=Oa gp
 obtain cw:BC [it]=true:=by
  rcases bind_some h with ⟨_,_,q,_⟩| ⟨q,_⟩ <;> exact iter_noSet q
 obtain aQ:∀ x,(x,l5)∈csc.names->∃ c,env.cells.lookup x=some c:=λ x hx=>by
  rcases xa.names x .free hx with ⟨q,_⟩| ⟨_,q,_⟩| ⟨q,_⟩
  ·cases q
  ·have:env.kindOf x=some .cell\/env.kindOf x=some .free:=by
    unfold TH at q
    simp only[kT,beq_iff_eq]at q
    rcases X.ok.kinds x with e | ⟨_,e⟩
    ·exact rwE e q
    ·exact .inl e
   exact exE2 (X.fro.cells x this) λ c hc _=>⟨c,hc⟩
  ·cases q
 refine exE3 (LE csc env aQ) λ cl bG c1 c2=>?_
 have bB:∀ y∈csc.names,y.2≠.cell:=λ y hy q=>by
  rcases xa.names y.1 y.2 hy with ⟨z,_⟩| ⟨z,_⟩| ⟨z,_⟩ <;> (replace z:=eqL q z;cases z)
 obtain bX:∀ x∈csc.names,x.2 = .local->csc.names.lookup x.1=some .local:=λ y hy q=>by
  rcases xa.names y.1 y.2 hy with ⟨_,_,z⟩| ⟨z,_⟩| ⟨z,_⟩
  ·exact z
  ·replace z:=eqL q z;cases z
  ·obtain z:=eqL q z;cases z
 refine wpAny_comprehension_free (use:=use) rfl (λ x=>GS cw env x) bG xa.kind bX ?_
 have go:∀ items O1,By E sc J tgt it O=some (.ok items,O1)->Mo.bind (Mo.calm (BR E T csc J tgt ifs elt items)) (λ ys=>Mo.ret (V.lst ys,HQ.fresh)) O1=some (o,O') ->
   wpAny (model prog w) A (eval it env) (λ x a9=>wpAny (model prog w) A (pyIter x) (λ dY c9=>wpAny (model prog w) A (newList []) (λ acc cu=>
   wpAny (model prog w) A (newFunctionEnv csc env.globals cl [] env.qual none .none (some env)) (λ bJ fJ=>
    codeAny (model prog w) A (.compStart (.ListComp elt [⟨tgt,it,ifs,0⟩] csc pos) 0 dY acc {bJ with scope:=relabel csc env}) (compPost (model prog w) A (exQ w P fr env.frame g O' s o) use Q acc bJ.locals) fJ) (exQ w P fr env.frame g O' s o) cu) (exQ w P fr env.frame g O' s o) c9) (exQ w P fr env.frame g O' s o) a9) (exQ w P fr env.frame g O' s o) s:=by
  intro items O1 hi hc
  rcases bind_some hc with ⟨ys,O2,e1,e2⟩| ⟨e1,_⟩
  case inr=>obtain⟨_,q,_⟩:=IL e1;exact nc Mine.Out.ctorIdx q (.refl false)
  refine AK λ Z zk=>?_
  clear hO gp hc aQ bG bX cw
  refine qA (AW e2) λ aa al=>?_;subst aa;subst al
  refine exE2 (IL e1) λ _ q e3=>?_
  cases q
  refine zk (iG (Hi hE X hi) (λ xv s1 q=>?_) λ _ _ q=>q.elim)
  refine iG (q _) (λ dY s2 q=>?_) λ _ _ q=>q
  refine AK λ Z zk=>Mu q λ _ e4 I g1 aa S1 src=>?_;subst aa
  cases e4
  have hz:=let ⟨_,_,_,q⟩:=src;q.size
  have X1:=X.step S1
  refine zk (wpAny_newObj_type (wpAny_newFunctionEnv bB (by intro y hy;simp at hy) (λ ax cA bU=>?_) xa.kind))
  generalize gY:s2.heap.push {cls:=.type "list",dict:=none,data:=.seq ([]:List Value).toArray}=H2 at cA bU ⊢
  have hC:H2.objs.size=s2.heap.objs.size+1:=by exact rwS gY (uV ..)
  have fL:s2.heap.get? H2.objs.size=none:=by erw[hC];exact l9 (m8 _)
  obtain fD:=Ak _
  have cU:=λ b o e=>
   bU.extBut b o (λ q=>by replace e:=eqL fL (q▸e);exact none_some e) (j8 _ (gY▸j8 _ e))
  have bN:PlainL ax s2.heap.objs.size #[]:=iEEAAA _ _ (bU.extBut _ _ (by erw[hC];exact pO (lO _):s2.heap.objs.size≠H2.objs.size) (j8 _ (gY▸jC _ rfl))) rfl rfl rfl
  obtain mL:=X1.here.new fL
  obtain mD:=X1.here.new fD
  obtain S2:=X1.here.keeps (t':=s2.toks+([]:List (hV×Value)).length) cU
  have ci:CI w P fr g s H2.objs.size s2.heap.objs.size I tgt items 0 g1 O1 {s2 with heap:=ax,toks:=s2.toks+([]:List (hV×Value)).length} []:=
   ⟨S1.trans0 S2,X1.here.step S2,⟨_,cA⟩,mL.out,⟨_,bN,.nil⟩,mD.out,src.keep (FK.of_keeps cU) .refl X1.here.sub S2.sub,j3 _,
    S1.so.back fL,mL.nopen,mL.nofr,S1.so.back fD,mD.nopen,mD.nofr⟩
  have nL:ah.get? H2.objs.size=none:=by
   cases q:ah.get? H2.objs.size with
   | none=>rfl
   | some o=>exact absurd fL (X1.dom _ (Am q))
  obtain eJ:∀ cu:Shared,cu={s2 with heap:=ax,toks:=s2.toks+([]:List (hV×Value)).length} ->
    codeAny (model prog w) A (.compLoop (.ListComp elt [⟨tgt,it,ifs,0⟩] csc pos) 0 (.ref I) (.ref s2.heap.objs.size) (compEnvC csc cl H2.objs.size env))
     (compPost (model prog w) A (exQ w P fr env.frame g O' s (.ok (V.lst ys,HQ.fresh))) use Q (.ref s2.heap.objs.size) H2.objs.size) cu:=by
   rintro cu rfl
   refine N6 hE hT X xa nL h0 c1 c2 hz (ys:=ys) (O':=O') (λ g' s' cf=>?_) items.length (N0 0 g1 O1 [] ys (by simp) ci e3 (by rfl))
   refine hQ s' g' _ _ ys rfl ?_ cf
   exact hZ (OU _ e3) hz
  exact codeAny_compStart_list (eJ _ rfl) (ci.src.self X.a.handled (eJ _ rfl))
 clear xa c1 c2 h0 hO gp hQ hT bB aQ bG bX cw
 rcases bind_some h with ⟨items,O1,q1,q2⟩| ⟨q1,rfl⟩
 ·exact go items O1 q1 q2
 ·refine iG (Hi hE X q1) (λ xv s1 q=>?_) λ _ _ q=>q
  refine iG (q _) (λ dY s2 q=>?_) λ _ _ q=>q
  exact exE2 q λ _ e4 _=>nc Mine.Out.ctorIdx e4 (.refl false)
theorem S7{elt it:hJ}{ifs:List hJ}{pos:Pos}{o:Out TV}(hE:Bp w P E d)(hT:Ff w P T d)
  (X:At w P sc J env A d fr g ah O s)
  (h:(if !(Db sc csc tgt&&(J.lookup (".0" : hV)).isNone) then .fail else Mo.bind (By E sc J tgt it) (λ items=>Mo.bind (Mo.calm (BR E T csc J tgt ifs elt items)) λ ys=>Mo.ret (V.lst ys,HQ.fresh))) O=some (o,O')) :
  wpAny (model prog w) A (eval (.ListComp elt [⟨tgt,it,ifs,0⟩] csc pos) env) (okQ w P fr g O' s o) (exQ w P fr env.frame g O' s o) s:=by
 cases hO:Db sc csc tgt&&(J.lookup (".0" : hV)).isNone with
 | false=>rw[hO]at h;exact none_some h
 | true=>
 rw[hO]at h
 refine rwE (eval_ListComp ..) (JX hE hT X hO h λ s' g' L D ys ho hz cf=>?_)
 erw[ho]
 refine qE cf.ns λ m hm=>exE2 cf.acc λ items hl rl=>iEA m hm (λ h' sb=>?_)
 exact Gq g' (cf.S.upd (t':=s'.toks) ⟨sb,cf.nL,cf.gL,cf.pL⟩) D items rfl ⟨cf.nD,cf.gD,cf.pD,cf.fD⟩ (hl.extBut sb.extBut (C7 hm (plainL_isList hl))) rl hz
end
section
variable (w:World) (P:Option Addr)
structure BF(sc:Scope)(J:R)(env:Env)(A:Around)(d:Nat)(fr ae:List Addr)(af:Gs)(ac:Shared)(g:Gs)(O:A4)(s:Shared):Prop where
 at':At w P sc J env A d fr g ac.heap O s
 S:AE w ae P af ac g O s
 sub:∀ b∈fr,b∈ae\/ac.heap.get? b=none
 frames:∃ cF,A.frames=some (env::cF)
 ck:∀ y c,env.cells.lookup y=some c->env.kindOf y=some .cell\/env.kindOf y=some .free
structure Mv(g:Gs)(s:Shared)(g':Gs)(s':Shared):Prop where
 fk:FK s.heap s'.heap
 ext:KU s.heap g g'
 dom:∀ b,s.heap.get? b≠none->s'.heap.get? b≠none
def En(P:Option Addr)(fr:List Addr)(n:Heap)(g:Gs)(h:Heap)(b7:Option Addr)(e:Value):Prop:=
 ∃ a oe vs T oT ts,e = .ref a/\A3 P fr g n a/\h.get? a=some oe/\oe.cls = .ref C/\oe.data = .fields vs/\vs[1]?=some (.ref T)/\T≠a/\A3 P fr g n T/\h.get? T=some oT/\oT.data = .fields ts /\
  (ts[3]?=some .none\/∃ L,b7=some L/\ts[3]?=some (rawInt L))
def stQ(sc:Scope)(env:Env)(A:Around)(d:Nat)(fr ae:List Addr)(af:Gs)(ac:Shared)(g:Gs)(s:Shared)(J':R)(O':A4):Fl->Flow->Shared->Prop
 | .nxt=>λ f s'=>f = .next/\∃ g',BF w P sc J' env A d fr ae af ac g' O' s'/\Mv g s g' s'
 | .brk=>λ f s'=>f = .brk/\∃ g',BF w P sc J' env A d fr ae af ac g' O' s'/\Mv g s g' s'
 | .cont=>λ f s'=>f = .cont/\∃ g',BF w P sc J' env A d fr ae af ac g' O' s'/\Mv g s g' s'
 | .ret v=>λ f s'=>∃ x g',f = .ret x/\AE w ae P af ac g' O' s'/\Rep w P g' v x
 | .exc=>λ _ _=>False
def Gj(sc:Scope)(env:Env)(A:Around)(d:Nat)(fr ae:List Addr)(af:Gs)(ac:Shared)(g:Gs)(s:Shared)(J':R)(O':A4):Fl->Value->Shared->Prop
 | .exc=>λ e s'=>∃ g',BF w P sc J' env A d fr ae af ac g' O' s'/\Mv g s g' s'/\GU P fr s.heap g' s'.heap env.frame e
 | _=>λ _ _=>False
def LZ(X:Scope->R->List Stmt->A4->St)(d:Nat):Prop:=∀ (sc:Scope) (J:R) (b:List Stmt) (O O':A4) (fl:Fl) (J':R),X sc J b O=some (fl,J',O') ->
 ∀ (env:Env) (A:Around) (fr ae:List Addr) (af:Gs) (ac:Shared) (g:Gs) (s:Shared),BF w P sc J env A d fr ae af ac g O s ->
  wpAny (model prog w) A (execs b env) (stQ w P sc env A d fr ae af ac g s J' O' fl) (Gj w P sc env A d fr ae af ac g s J' O' fl) s
end
section
variable {fr:List Addr}
variable {E:Scope->R->hJ->Mo TV} {e:Value} {fl:Fl}
theorem Mv.refl:Mv g s g s:=⟨.refl,.refl,λ _ q=>q⟩
theorem Mv.trans(x:Mv g s g' s')(y:Mv g' s' aT aY):Mv g s aT aY:=⟨x.fk.trans y.fk,x.ext.trans y.ext x.dom,λ b q=>y.dom b (x.dom b q)⟩
theorem Mv.of(S:AE w fr P g s g' O' s')(H:AP w P fr g O s):Mv g s g' s':=⟨S.fk H,S.ext,S.so.dom⟩
theorem Mv.turn{wr:List Addr}{t':Nat}(x:Mv g s g' s')(y:Turn s.heap g' aT s'.heap h' wr):Mv g s aT {s' with heap:=h',toks:=t'}:=by
 have nw:∀ b,s.heap.get? b≠none->b ∉ wr:=λ b hb hm=>hb (y.own b hm).1
 refine⟨λ b o fs ho hd=>y.keep b o (nw b (Am ho)) (x.fk b o fs ho hd),x.ext.trans y.ext x.dom,λ b hb=>?_⟩
 obtain this:=x.dom b hb
 cases q:s'.heap.get? b with
 | none=>exact absurd q this
 | some o=>exact Am (y.keep b o (nw b hb) q)
theorem At.turn{wr:List Addr}{t':Nat}(X:At w P sc J env A d fr g ah O s)(x:Turn n g g' s.heap h' wr)(hn:∀ a,ah.get? a≠none->n.get? a≠none) :
  At w P sc J env A d fr g' ah O {s with heap:=h',toks:=t'}:=by
 refine⟨X.ok,X.a,X.here.turn x,X.fro.turn x,X.tp.mono x.ext.1,λ b hb=>?_⟩
 obtain nb:=λ hm=>hn b hb (x.own b hm).1
 cases q:s.heap.get? b with
 | none=>exact absurd q (X.dom b hb)
 | some o=>exact Am (x.keep b o nb q)
theorem BF.step(X:BF w P sc J env A d fr ae af ac g O s)(S:AE w fr P g s g' O' s'):BF w P sc J env A d fr ae af ac g' O' s':=
 ⟨X.at'.step S,X.S.trans S X.sub,X.sub,X.frames,X.ck⟩
theorem BF.turn{wr:List Addr}{t':Nat}(X:BF w P sc J env A d fr ae af ac g O s)(x:Turn n g g' s.heap h' wr)(hn:∀ a,ac.heap.get? a≠none->n.get? a≠none) :
  BF w P sc J env A d fr ae af ac g' O {s with heap:=h',toks:=t'}:=by
 refine⟨X.at'.turn x hn,X.S.turn ⟨λ b hb=>?_,x.keep,x.ext,x.sub⟩,X.sub,X.frames,X.ck⟩
 refine Bv (x.own b hb) λ q1 q2=>⟨?_,q2⟩
 cases q:ac.heap.get? b with
 | none=>rfl
 | some o=>exact absurd q1 (hn b (Am q))
theorem BF.mv(X:BF w P sc J env A d fr ae af ac g O s)(S:AE w fr P g s g' O' s'):Mv g s g' s':=.of S X.at'.here
theorem En.fault(x:En P fr n g h b7 e):GU P fr n g h b7 e:=by
 exact Cj x λ a oe vs T oT ts e1 m h1 h2 h3 h4 h5 h6 h7 h8 h9=>GM a oe vs e1 m h1 h2 h3 (.inr ⟨T,oT,ts,h4,h5,h6,h7,h8,h9⟩)
theorem A3.mv{a:Addr}{g':Gs}(x:A3 P fr g n a)(e:g' a=none):A3 P fr g' n a:=⟨x.new,e,x.nopen,x.nofr⟩
theorem T1(a:KX A d fr)(H:Et P fr g s.heap):∃ l,A.frames=some l/\fr=l.filterMap (·.frame)/\s.heap.FunFrames {objs:=#[]} l:=by
 refine exE3 a.frames λ l h1 h2 h3=>iEAA l h1 h2 ?_
 clear h1
 have hb:∀ b∈l.filterMap (·.frame),b∈fr:=λ b hb=>by erw[h2];exact hb
 clear h2
 induction l with
 | nil=>trivial
 | cons e r ih=>
  refine AK λ Z zk=>Bv (h3 e i8) λ q1 q2=>qE ((jL).mp q2) λ L hL=>?_
  obtain hm:=hb L (by erw[mQ,hL];exact i8)
  refine Dk (H L hm) λ _ _ o es ep ho hd=>zk (iAA q1 ⟨L,o,hL,by unfold Heap.get?;simp,ho,λ vs q=>by have q:=eqL hd q;cases q⟩ (ih (λ x hx=>h3 x (i9 _ hx)) λ b hx=>hb b ?_))
  erw[mQ,hL];exact i9 _ hx
theorem AP.slots(H:AP w P fr g O s)(x:Heap.SlotsOnly fr s.heap h'):AE w fr P g s g O {s with heap:=h'}:=by
 refine⟨⟨h',s.toks,rfl⟩,.refl,λ b o e=>(x.2.1 b ((λ b o e hm=>by replace e:=((H.frs b hm).1)▸e;exact none_some e:∀ b o,g b=some o->b ∉ fr) b o e)).trans (H.sub b o e),⟨λ b o hb _ e=>(x.2.1 b hb).trans e,λ b o _ e=>x.2.2 b o e,λ b hb=>?_⟩,λ p hp=>?_⟩
 ·cases q:s.heap.get? b with
  | none=>exact absurd q hb
  | some o=>obtain⟨sl,e⟩:=x.2.2 b o q;exact Am e
 ·refine AK λ Z zk=>El (H.pen p hp) λ q items aa rl=>?_;obtain⟨o,ho,r⟩:=aa
  exact qE (x.2.2 p o ho) λ sl e=>zk (A8 q items ⟨_,e,r⟩ rl)
theorem Ii{L a:Addr}{oe:Obj}{vs:Array Value}{head:Value}{cV:Bool}{Q:Unit->Shared->Prop}(X:BF w P sc J env A d fr ae af ac g O s)(hf:env.frame=some L)
  (hn:∀ b,ac.heap.get? b≠none->n.get? b≠none) (bH:∀ b,n.get? b≠none->s.heap.get? b≠none) (ma:A3 P fr g n a) (he:s.heap.get? a=some oe) (hc:oe.cls = .ref C) (hd:oe.data = .fields vs) (aB:1 < vs.size)
  (k:∀ s',BF w P sc J env A d fr ae af ac g O s'->(∀ g1 s1,n=s1.heap->Mv g1 s1 g s->Mv g1 s1 g s')->En P fr n g s'.heap (some L) (.ref a)->Q () s') :
  wpAny (model prog w) A (do let x <-frameOf env;let pl <-entryPlaceOf L cV;let b <-EntryCells.newEntry head x .none (rawInt L) .none pl;setField (.ref a) 1 b) Q EE s:=by
 refine AK λ Z zk=>exE3 (T1 X.at'.a X.at'.here.frs) λ l dN cP e_=>HX X.frames λ cF ho=>?_
 obtain ho:=eqL dN ho
 (obtain ho:=hG ho;subst ho)
 refine zk (i5 (wpAny_frameOf_fun dN e_ hf λ ax bC=>?_))
 replace bC:=sJ cP▸bC
 have S1:=X.at'.here.slots bC
 have X1:=X.step S1
 refine i5 (wpAny_entryPlaceOf λ pl dL=>?_)
 refine i5 (wpAny_newObj_type ?_ (dL.sizeOk5 _ _ _ _ _))
 have S2:=X1.at'.here.keeps (t':=s.toks) (Av ax {cls:=.type "traceback",dict:=none,data:=.fields ([head,.ref L,.none,rawInt L,.none]++(if pl.isEmpty then j1 6 mZ else pl)).toArray})
 obtain X2:=X1.step S2
 have c8:=(bC.2.1 a ma.nofr).trans he
 obtain bZ:=j8 (h:=ax) {cls:=.type "traceback",dict:=none,data:=.fields ([head,.ref L,.none,rawInt L,.none]++(if pl.isEmpty then j1 6 mZ else pl)).toArray} c8
 refine wpAny_setField bZ hd aB ?_
 obtain hTe:=tZ (pP c8)
 obtain bD:=Obj.data_mapFields hd (·.setIfInBounds 1 (lK ax.objs.size))
 obtain sb:=rM (h:=ax.push {cls:=.type "traceback",dict:=none,data:=.fields ([head,.ref L,.none,rawInt L,.none]++(if pl.isEmpty then j1 6 mZ else pl)).toArray}) a (lU (·.setIfInBounds 1 (lK ax.objs.size)))
 obtain dW:=Ak _
 obtain fV:=X1.at'.here.new dW
 have nT:n.get? ax.objs.size=none:=by
  cases q:n.get? ax.objs.size with
  | none=>rfl
  | some o=>exact absurd (S1.so.back dW) (bH _ (Am q))
 have tn:Turn n g g (ax.push {cls:=.type "traceback",dict:=none,data:=.fields ([head,.ref L,.none,rawInt L,.none]++(if pl.isEmpty then j1 6 mZ else pl)).toArray}) ((ax.push {cls:=.type "traceback",dict:=none,data:=.fields ([head,.ref L,.none,rawInt L,.none]++(if pl.isEmpty then j1 6 mZ else pl)).toArray}).update a (lU (·.setIfInBounds 1 (lK ax.objs.size)))) [a]:=by
  refine⟨λ b hb=>?_,λ b o hb e=>(sb.2 b (λ q=>hb ((iD).mpr q))).trans e,.refl,λ b o e=>?_⟩
  ·exact rwE ((iD).mp hb) (JG ma.new ma.out oe vs bZ hd)
  ·exact(sb.2 b (λ q=>by replace e:=eqL ma.out (q▸e);exact none_some e)).trans (S2.sub b o e)
 obtain X3:=X2.turn (t':=s.toks) tn hn
 refine k _ X3 (λ g1 s1 e1 mv=>?_) ?_
 ·obtain cq:=(mv.trans (X.mv S1)).trans (X1.mv S2)
  clear S1 S2 X X1 X2 X3 dW hd he c8 bZ hf dN cP e_ hn bH bC k mv zk
  subst e1
  exact cq.turn (t':=s.toks) tn
 ·refine⟨a,_,_,ax.objs.size,_,_,rfl,ma,(lX (lU (·.setIfInBounds 1 (lK ax.objs.size))) bZ (Obj.isFreed_of_fields bD)),(Obj.cls_mapFields _ _).trans hc,bD,by simp[aB],hTe,⟨nT,fV.out,fV.nopen,fV.nofr⟩,(sb.2 _ hTe).trans (jC ax (o:={cls:=.type "traceback",dict:=none,data:=.fields ([head,.ref L,.none,rawInt L,.none]++(if pl.isEmpty then j1 6 mZ else pl)).toArray}) rfl),rfl,.inr ⟨L,rfl,?_⟩⟩
  first | (simp;done) | (rcases dL with rfl | ⟨_,_,_,_,_,_,_,rfl⟩ <;> simp)
theorem Xb{T:Addr}{oT:Obj}{ts:Array Value}{i:Nat}{v:Value}(H:AP w P fr g O s)(m:A3 P fr g n T)(hT:s.heap.get? T=some oT)(hd:oT.data = .fields ts) :
  Turn n g g s.heap (s.heap.update T (lU (·.setIfInBounds i v))) [T]/\(s.heap.update T (lU (·.setIfInBounds i v))).get? T=some (oT.mapFields (·.setIfInBounds i v)) /\
   (oT.mapFields (·.setIfInBounds i v)).data = .fields (ts.setIfInBounds i v)/\(oT.mapFields (·.setIfInBounds i v)).cls=oT.cls:=by
 obtain bD:=Obj.data_mapFields hd (·.setIfInBounds i v)
 obtain sb:=rM (h:=s.heap) T (lU (·.setIfInBounds i v))
 refine GL ⟨λ b hb=>?_,λ b o hb e=>(sb.2 b (λ q=>hb ((iD).mpr q))).trans e,.refl,λ b o e=>?_⟩ (lX _ hT (Obj.isFreed_of_fields bD)) bD (Obj.cls_mapFields _ _)
 ·exact rwE ((iD).mp hb) (JG m.new m.out oT ts hT hd)
 ·exact(sb.2 b (λ q=>by replace e:=eqL m.out (q▸e);exact none_some e)).trans (H.sub b o e)
theorem Fd{Q:Unit->Shared->Prop}{L:Addr}(X:BF w P sc J env A d fr ae af ac g O s)(hf:env.frame=some L)
  (hn:∀ b,ac.heap.get? b≠none->n.get? b≠none) (bH:∀ b,n.get? b≠none->s.heap.get? b≠none) (F:GU P fr n g s.heap (some L) e)
  (k:∀ s',BF w P sc J env A d fr ae af ac g O s'->(∀ g1 s1,n=s1.heap->Mv g1 s1 g s->Mv g1 s1 g s')->En P fr n g s'.heap (some L) e->Q () s') :
  wpAny (model prog w) A (noteFrame e env) Q EE s:=by
 refine EX F λ a oe vs aa ma he hc hd alt=>?_;subst aa
 unfold noteFrame
 erw[hf]
 rcases alt with h1 | ⟨T,oT,ts,h1,dr,mT,hT,cC,alt⟩
 ·refine i5 (mO he hd h1 ?_)
  exact rwE (if_neg (by decide)) (Ii X hf hn bH ma he hc hd ((lP).mp h1).1 k)
 ·refine i5 (mO he hd h1 ?_)
  erw[if_pos (show(lK T != mZ)=true from by rfl)]
  rcases alt with h3 | ⟨L',e1,h3⟩
  ·refine i5 (mO hT cC h3 ?_)
   refine rwE (if_neg (show ¬ ((mZ==rawInt L)=true) from by simp[rawInt])) (i5 (wpAny_setField hT cC ((lP).mp h3).1 ?_))
   refine GV (Xb (i:=3) (v:=.none) X.at'.here mT hT cC) λ tn eV dG _=>?_
   obtain X2:=X.turn (t':=s.toks) tn hn
   obtain he2:(s.heap.update T (lU (·.setIfInBounds 3 mZ))).get? a=some oe:=by
    refine i7 (nO _ _ dr) ?_;exact he
   refine Ii X2 hf hn (λ b hb=>?_) ma he2 hc hd ((lP).mp h1).1 λ s' X3 mv ft=>k s' X3 (λ g1 s1 e1 m1=>mv g1 s1 e1 (by subst e1;exact m1.turn (t':=s.toks) tn)) ft
   obtain this:=bH b hb
   cases q:s.heap.get? b with
   | none=>exact absurd q this
   | some o=>
    by_cases z:b=T
    ·exact rwE z (Am eV)
    ·exact Am ((nO _ _ (Ne.symm z)).trans q)
  ·(obtain e1:=hG e1;subst e1)
   refine i5 (mO hT cC h3 ?_)
   erw[if_pos (show(rawInt L==rawInt L)=true from by first | (simp;done) | exact beq_self_eq_true _)]
   exact iI (k s X (λ _ _ _ m=>m) ⟨a,oe,vs,T,oT,ts,rfl,ma,he,hc,hd,h1,dr,mT,hT,cC,.inr ⟨L,rfl,h3⟩⟩)
theorem CW{A':Around}{Q:Unit->Shared->Prop}{cur':Option Addr}(X:BF w P sc J env A d fr ae af ac g O s)
  (hn:∀ b,ac.heap.get? b≠none->n.get? b≠none) (F:En P fr n g s.heap b7 e)
  (k:∀ s',BF w P sc J env A d fr ae af ac g O s'->(∀ g1 s1,n=s1.heap->Mv g1 s1 g s->Mv g1 s1 g s')->En P fr n g s'.heap cur' e->Q () s') :
  wpAny (model prog w) A' (setFlight e cur') Q EE s:=by
 refine Cj F λ a oe vs T oT ts aa ma he hc hd h1 dr mT hT cC alt=>?_;subst aa
 have h3:3 < ts.size:=by
  rcases alt with q | ⟨_,_,q⟩ <;> exact((lP).mp q).1
 refine i5 (mO he hd h1 ?_)
 erw[if_pos (show(lK T != mZ)=true from by rfl)]
 refine wpAny_setField hT cC h3 (GV (Xb (i:=3) (v:=cur'.elim .none λ f=>rawInt f) X.at'.here mT hT cC) λ tn eV dG _=>?_)
 refine k _ (X.turn (t':=s.toks) tn hn) (λ g1 s1 e1 m1=>by subst e1;exact m1.turn (t':=s.toks) tn) ⟨a,oe,vs,T,_,_,rfl,ma,?_,hc,hd,h1,dr,mT,eV,dG,?_⟩
 ·exact(nO _ _ dr).trans he
 ·clear X alt h1 hT eV dr hc hd cC dG he hn k mT ma tn
  cases cur' with
  | none=>left;simp[h3]
  | some L=>right;exact⟨L,rfl,by simp[h3]⟩
theorem Hs{L:Addr}(X:BF w P sc J env A d fr ae af ac g O s)(hf:env.frame=some L)
  (hn:∀ b,ac.heap.get? b≠none->n.get? b≠none) (F:En P fr n g s.heap b7 e)
  (k:∀ s',BF w P sc J env A d fr ae af ac g O s'->(∀ g1 s1,n=s1.heap->Mv g1 s1 g s->Mv g1 s1 g s')->En P fr n g s'.heap (some L) e->EE e s') :
  cameBackBy (model prog w) A env EE e s:=by
 refine Iy (id F) λ a oe vs T oT ts aa ma he hc hd h1 rest=>?_;subst aa
 refine i5 (mO he hd h1 ?_)
 erw[if_neg (show ¬ ((lK T==mZ)=true) from by simp)]
 erw[hf]
 exact CW X hn F k
end
def Nold(env:Env)(J:R)(h0 h:Heap):Prop:=∀ y sy a,J.lookup y=some sy->sy.isOwn=true->Ah (env.kindOf y)=true->Holds env h y (.ref a)->h0.get? a≠none
section
variable {fr:List Addr}
variable {E:Scope->R->hJ->Mo TV} {e:Value} {fl:Fl}
theorem BH.ref{sl:Slot}{v:Value}(r:BH w P fr g h n sl v)(o:sl.isOwn=true):∃ a,v = .ref a/\h.get? a≠none:=by
 cases sl with
 | val u=>exact fls o
 | own vs=>obtain⟨a,items,e,m,⟨ob,_,ho,_⟩,_⟩:=r;exact iEA a e (Am ho)
 | ownd ak=>obtain⟨a,items,e,m,⟨ob,_,_,ho,_⟩,_⟩:=r;exact iEA a e (Am ho)
theorem Nold.step(F:FrOK w P env fr J g h ah)(so:SO fr P h h'):Nold env J h h':=λ y sy a hy o ky ho=>by
 refine AK λ Z zk=>exE2 (F.vals y sy hy ky) λ v hv r=>?_
 obtain this:=(hv.mono F so).fun ho;subst this
 refine exE2 (r.ref o) λ a' e q=>zk ?_
 cases e;exact q
theorem Nold.mono2(F:FrOK w P env fr J g h ah)(N:Nold env J h0 h)(so:SO fr P h h'):Nold env J h0 h':=λ y sy a hy o ky ho=>by
 refine exE2 (F.vals y sy hy ky) λ v hv r=>?_
 obtain this:=(hv.mono F so).fun ho;subst this
 exact N y sy a hy o ky hv
theorem BF.weaken(X:BF w P sc J env A d fr ae af ac g O s)(k:∀ x s,J'.lookup x=some s->J.lookup x=some s):BF w P sc J' env A d fr ae af ac g O s:=
 ⟨⟨X.at'.ok,X.at'.a,X.at'.here,X.at'.fro.weaken λ x s _ e=>k x s e,X.at'.tp,X.at'.dom⟩,X.S,X.sub,X.frames,X.ck⟩
theorem Cz{A':Around}{x:hV}{sl:Slot}{v:Value}{Q:Unit->Shared->Prop}(X:BF w P sc J env A d fr ae af ac g O s)(kx:Ah (env.kindOf x)=true)
  (sv:BH w P fr g s.heap ac.heap sl v) (new:sl.isOwn=true->∃ a,v = .ref a/\h0.get? a=none)
  (hl:h0.get? env.locals≠none) (hc:∀ y c,env.cells.lookup y=some c->h0.get? c≠none) (no:sl.isOwn=true->Nold env J h0 s.heap)
  (k:∀ h' t' a,LC P env g ac.heap s.heap h' a x v->BF w P sc (BE J x sl) env A d fr ae af ac g O {s with heap:=h',toks:=t'}->Mv g s g {s with heap:=h',toks:=t'}->Q () {s with heap:=h',toks:=t'}) :
  wpAny (model prog w) A' (storeName env x v) Q EE s:=by
 refine store X.at'.ok.fn X.at'.fro kx sv (λ a o e=>?_) (λ o y sy hy aJ oy ky hh=>?_) λ h' t' a st fro frs=>?_
 ·refine exE2 (new o) λ a' e' q=>?_
  replace e':=eqL e e';cases e'
  exact⟨λ z=>hl (z▸q),λ y c hyc z=>hc y c hyc (z▸q)⟩
 ·refine exE2 (new o) λ a' e' q=>?_
  clear hc hl aJ kx new sv
  subst e'
  exact no o y sy a' hy oy ky hh q
 ·have S2:=X.S.upd (t':=t') st.upd
  obtain X2:BF w P sc (BE J x sl) env A d fr ae af ac g O {s with heap:=h',toks:=t'}:=by
   refine⟨⟨X.at'.ok,X.at'.a,⟨S2.sub,S2.pen,frs X.at'.here.frs⟩,fro,X.at'.tp,λ b hb=>S2.so.dom b hb⟩,S2,X.sub,X.frames,X.ck⟩
  refine k h' t' a st X2 ⟨FK.but st.upd.same st.nf,.refl,λ b hb=>?_⟩
  show h'.get? b≠none
  by_cases z:b=a
  ·subst z
   rcases st.loc with rfl | ⟨y,hy⟩
   ·exact IZ fro.locals λ _ _ _ m o _ _ ho _=>Am ho
   ·refine IV (fro.cells y (X.ck y b hy)) λ c aC _ _ _ v' o ho _=>?_
    replace aC:=eqL hy aC;(obtain aC:=hG aC;subst aC)
    exact Am ho
  ·exact rwE (st.upd.same.2 b z) hb
theorem B7(X:BF w P sc J env A d fr ae af ac g O s):s.heap.get? env.locals≠none/\∀ y c,env.cells.lookup y=some c->s.heap.get? c≠none:=by
 constructor
 ·exact IZ X.at'.fro.locals λ _ _ _ m o _ _ ho _=>Am ho
 ·intro y c hy
  refine IV (X.at'.fro.cells y (X.ck y c hy)) λ c' aC _ _ _ v' o ho _=>?_
  replace aC:=eqL hy aC;(obtain aC:=hG aC;subst aC)
  exact Am ho
noncomputable def Wr(env:Env)(f:Value->Sem Unit)(x:hV):Prop:=∀ {xc:Model} {A:Around} {EE:Value->Shared->Prop} {s:Shared} {Q:Unit->Shared->Prop} (v:Value),wpAny xc A (storeName env x v) Q EE s->wpAny xc A (f v) Q EE s
structure Pr where
 x:hV
 sl:Slot
 v:Value
inductive Fs(env:Env):List (Value->Sem Unit)->List Pr->Prop
 | nil:Fs env [] []
 | cons {f:Value->Sem Unit} {p:Pr} {fs:List (Value->Sem Unit)} {ps:List Pr}:Wr env f p.x->Fs env fs ps->Fs env (f::fs) (p::ps)
theorem EU{A':Around}{Q:Unit->Shared->Prop}(hl:h0.get? env.locals≠none)(hc:∀ y c,env.cells.lookup y=some c->h0.get? c≠none)(ps:List Pr):∀ (fs:List (Value->Sem Unit)) {J:R} {s:Shared},BF w P sc J env A d fr ae af ac g O s->Fs env fs ps ->
  (∀ p∈ps,Ah (env.kindOf p.x)=true/\BH w P fr g s.heap ac.heap p.sl p.v/\(p.sl.isOwn=true->∃ a,p.v = .ref a/\h0.get? a=none)) ->
  (ps.map (·.x)).Nodup->ps.countP (λ p=>p.sl.isOwn)<=1->(ps.any (λ p=>p.sl.isOwn)=true->Nold env J h0 s.heap) ->
  (∀ s',BF w P sc (Aw J (ps.map λ p=>(p.x,p.sl))) env A d fr ae af ac g O s'->Mv g s g s'->Q () s') ->
  wpAny (model prog w) A' (assignInOrder fs (ps.map (·.v))) Q EE s:=by
 induction ps with
 | nil=>intro fs J s X eB _ _ _ _ k;cases eB;exact iI (k s X .refl)
 | cons p ps ih=>
  intro fs J s X eB hp bw aF dU k
  refine AK λ Z zk=>?_
  cases eB with | cons hf eB=>
  rename_i f fs
  refine Nt (hp p i8) λ kx sv new=>?_
  rw[iW,lL]at bw
  refine zk (i5 (jN (hf p.v (Cz X kx sv new hl hc (λ o=>dU (by refine i7 nH (rwE o ?_);rfl)) λ h' t' a st X2 mv=>?_))))
  rw[List.countP_cons]at aF
  refine ih _ X2 eB (λ q hq=>?_) bw.2 (hZ (jF _ _) aF) (λ ho=>?_) λ s' X3 mv'=>k s' X3 (mv.trans mv')
  ·refine Nt (hp q (i9 _ hq)) λ q1 q2 q3=>iAA q1 (q2.upd st.upd.same λ b o e=>?_) q3
   refine exE2 (q3 o) λ a' e' q4=>?_
   cases e.symm.trans e'
   rcases st.loc with z | ⟨y,hy⟩
   ·exact λ z'=>hl (z▸z'▸q4)
   ·exact λ z=>hc y a hy (z▸q4)
  ·have hpo:p.sl.isOwn=false:=by
    cases q:p.sl.isOwn with
    | false=>rfl
    | true=>
     rw[q,if_pos rfl]at aF
     have:=List.countP_eq_zero.mp (Nat.le_zero.mp (mV aF))
     exact exE2 (List.any_eq_true.mp ho) λ z hz gx=>absurd gx (this z hz)
   intro y sy b hy oy ky hh
   rw[Bk]at hy
   by_cases z:y=p.x
   ·rw[if_pos z]at hy;(obtain hy:=hG hy;subst hy)
    obtain oy:=eqL hpo oy;exact fls oy
   ·rw[if_neg z]at hy
    exact(dU (by(refine i7 nH (rwE ho ?_);exact(sB ..)))) y sy b hy oy ky ((st.holds y z _).mpr hh)
theorem Dv(x:hV):∀ (l:List (hV×Slot)) (J:R),(l.map (·.1)).Nodup->(Aw J l).lookup x=(l.lookup x).or (J.lookup x)
 | [],J,_=>by rfl
 | (y,sl)::r,J,hn=>by
  rw[iW,lL]at hn
  (refine rwE NX (i7 (Dv x r _ hn.2) ?_);erw[Bk,jI])
  by_cases q:x=y
  ·subst q
   have:r.lookup x=none:=by
    cases z:r.lookup x with
    | none=>rfl
    | some v=>exact absurd ((jV).mpr (iEA _ (lookup_mem z) rfl)) hn.1
   simp[this]
  ·have:(x==y)=false:=by simpa using q
   simp[this,q]
theorem Fo{x:hV}{sl:Slot}:∀ {l:List (hV×Slot)},(l.map (·.1)).Nodup->(x,sl)∈l->l.lookup x=some sl
 | (y,t)::r,hn,hm=>by
  replace hn:=Iff.mp lL (iW▸hn)
  refine i7 jI ?_
  refine jP ((iJ).mp hm) (λ q=>?_) λ q=>?_
  ·clear hm
   cases q;simp
  ·have:(x==y)=false:=by
    have:x≠y:=λ z=>hn.1 (z▸(jV).mpr (iEA _ q rfl))
    simpa using this
   exact rwE this (Fo hn.2 q)
theorem LU{l:List (hV×Slot)}(hn:(l.map (·.1)).Nodup)(x:hV):l.reverse.lookup x=l.lookup x:=by
 obtain aM:(l.reverse.map (·.1)).Nodup:=by
  exact rwE n5 ((tB _).symm.nodup hn)
 cases q:l.lookup x with
 | none=>
  cases z:l.reverse.lookup x with
  | none=>rfl
  | some v=>obtain q:=eqL (Fo hn ((qY).mp (lookup_mem z))) q;exact nc mG q (.refl false)
 | some v=>exact Fo aM ((qY).mpr (lookup_mem q))
end
section
variable (w:World) (P:Option Addr)
def TB(E:Scope->R->hJ->Mo TV)(d:Nat):Prop:=∀ (sc:Scope) (J:R) (elt:hJ) (az:List Comprehension) (csc:Scope) (pos:Pos) (O O':A4) (o:Out TV),E sc J (.ListComp elt az csc pos) O=some (o,O') ->
 ∀ (env:Env) (A:Around) (fr:List Addr) (g:Gs) (ah:Heap) (s:Shared),At w P sc J env A d fr g ah O s->∀ (u:Value->Sem Unit) (Q:Unit->Shared->Prop),
  (∀ s' g' L D ys,o = .ok (.lst ys,.fresh)->ys.length<=Ae->CF w P fr g s L D g' O' s' ys ->
   wpAny (model prog w) A (u (.ref D)) (λ _ aY=>∃ m,aY.heap.Ns L m/\∀ h',k7 L aY.heap h'->Q () {aY with heap:=h'}) (exQ w P fr env.frame g O' s o) s') ->
  wpAny (model prog w) A (evalThenUse (.ListComp elt az csc pos) env u) Q (exQ w P fr env.frame g O' s o) s
end
section
variable {fr:List Addr}
variable {E:Scope->R->hJ->Mo TV} {e:Value} {fl:Fl}
theorem FrOK.other{b:Addr}(F:FrOK w P env fr J g h ah)(sb:k7 b h h')(h1:b≠env.locals)(h2:∀ y c,env.cells.lookup y=some c->c≠b)(h3:∀ x s a,J.lookup x=some s->s.isOwn=true->Ah (env.kindOf x)=true->Holds env h x (.ref a)->a≠b) :
  FrOK w P env fr J g h' ah:=by
 obtain hf:∀ {x:hV} {v:Value},Holds env h x v->Holds env h' x v:=λ hh=>by
  rcases hh with ⟨k,m,hm,e⟩| ⟨k,c,hc,e⟩
  ·exact .inl (A8 k m (hm.sameBut sb h1.symm) e)
  ·exact .inr (A8 k c hc (e.sameBut sb (h2 _ _ hc)))
 have hv:=λ x s hx kx=>by
  exact exE2 (F.vals x s hx kx) λ v hh r=>iEAA v hh (hf hh) r
 refine⟨?_,λ x kx=>?_,F.apartC,λ x s hx kx=>?_,λ x y sx sy a hx hy ox oy kx ky q1 q2=>?_,λ x s a hx ox kx q1=>?_⟩
 ·exact Fb F.locals λ a1 a2 a3 m hm=>Kl a1 a2 a3 m (hm.sameBut sb h1.symm)
 ·exact Cg (F.cells x kx) λ c hc a1 a2 a3 v hv=>Dn c hc a1 a2 a3 v (hv.sameBut sb (h2 _ _ hc))
 ·exact exE3 (hv x s hx kx) λ v q1 q2 r=>iEA v q2 (r.upd sb λ a o e=>h3 x s a hx o kx (e▸q1))
 ·refine exE3 (hv x sx hx kx) λ v u1 u2 _=>exE3 (hv y sy hy ky) λ v' u3 u4 _=>?_
  obtain this:=u2.fun q1;subst this
  obtain this:=u4.fun q2;subst this
  exact F.apart x y sx sy a hx hy ox oy kx ky u1 u3
 ·refine exE3 (hv x s hx kx) λ v u1 u2 _=>?_
  obtain this:=u2.fun q1;subst this
  exact F.apartL x s a hx ox kx u1
theorem BF.drop{L:Addr}{t':Nat}(X:BF w P sc J env A d fr ae af ac g O s)(sb:k7 L s.heap h')(nL:ac.heap.get? L=none)(gL:g L=none)(pL:some L≠P)(fL:L ∉ fr)
  (n1:L≠env.locals) (n2:∀ y c,env.cells.lookup y=some c->c≠L) (h3:∀ x s1 a,J.lookup x=some s1->s1.isOwn=true->Ah (env.kindOf x)=true->Holds env s.heap x (.ref a)->a≠L) :
  BF w P sc J env A d fr ae af ac g O {s with heap:=h',toks:=t'}:=by
 have S2:=X.S.upd (t':=t') ⟨sb,nL,gL,pL⟩
 refine⟨⟨X.at'.ok,X.at'.a,⟨S2.sub,S2.pen,X.at'.here.frs.upd sb λ q=>absurd q fL⟩,X.at'.fro.other sb n1 n2 h3,X.at'.tp,λ b hb=>S2.so.dom b hb⟩,S2,X.sub,X.frames,X.ck⟩
theorem liftE_some{α:Type}{m:Mo α}{k:α->A4->St}{r:Fl×R×A4}(h:liftE m J O k=some r):(∃ a O1,m O=some (.ok a,O1)/\k a O1=some r)\/(∃ O1,m O=some (.exc,O1)/\r=(.exc,J,O1)):=by
 unfold liftE at h
 cases q:m O with
 | none=>replace h:=q▸h;exact none_some h
 | some p=>
  rw[q]at h
  clear q
  obtain⟨o,O1⟩:=p
  cases o with
  | ok a=>exact .inl (iEEA a O1 rfl h)
  | exc=>exact .inr (iEA O1 rfl ((hG h).symm))
theorem QK{α:Type}(X:BF w P sc J env A d fr ae af ac g O s)(q:exQ w P fr env.frame g O' s (Out.exc:Out α) e s'):Gj w P sc env A d fr ae af ac g s J O' .exc e s':=by
 exact exE2 q λ g' S F=>iEAA g' (X.step S) (X.mv S) F
theorem UL{x:hV}{sl:Slot}{t:TV}{v:Value}{Q:Unit->Shared->Prop}(X:BF w P sc J env A d fr ae af ac g O s)(S:AE w fr P g s g1 O1 s1)(r:CR w P fr g1 s.heap s1.heap t v)
  (kx:Ah (sc.names.lookup x)=true) (hs:D4 x t=some sl)
  (k:∀ g2 h' t' a,AE w fr P g s g2 O1 s1->(∀ b,v≠.ref b->g2 b=g1 b)->LC P env g2 ac.heap s1.heap h' a x v->BF w P sc (BE J x sl) env A d fr ae af ac g2 O1 {s1 with heap:=h',toks:=t'}->Mv g s g2 {s1 with heap:=h',toks:=t'}->Q () {s1 with heap:=h',toks:=t'}) :
  wpAny (model prog w) A (storeName env x v) Q EE s1:=by
 refine Bv (B7 X) λ f1 f2=>?_
 have val:∀ {u:V},(∃ g2,AE w fr P g s g2 O1 s1/\Rep w P g2 u v/\∀ b,v≠.ref b->g2 b=g1 b)->sl = .val u->wpAny (model prog w) A (storeName env x v) Q EE s1:=by
  rintro u ⟨g2,S2,r2,hg⟩ rfl
  exact Cz (h0:=s.heap) (sl:=.val u) (X.step S2) (Bl X.at'.ok kx) r2 (λ o=>by exact fls o) f1 f2 (λ o=>by exact fls o) λ h' t' a st X3 mv=>k g2 h' t' a S2 hg st X3 ((X.mv S2).trans mv)
 obtain⟨t0,ow⟩:=t
 cases ow with
 | val=>(have hs:=hG hs;subst hs);exact val (iEAA g1 S r (λ _ _=>rfl)) rfl
 | bor=>exact none_some hs
 | fresh=>
  replace hs:=Bq hs
  obtain⟨vs,h1,hs⟩:=hs
  (first | (obtain rfl:=V.lst?_some h1) | cases V.lst?_some h1)
  refine DV r λ a items aa m hl rl hz=>?_;subst aa
  by_cases q:(ED.contains x&&(vs.isEmpty||!(x==("rows" : hV))))=true
  ·rw[if_pos q]at hs;subst hs
   have nn:ac.heap.get? a=none:=by
    cases q:ac.heap.get? a with
    | none=>rfl
    | some o=>exact absurd m.new (X.at'.dom a (Am q))
   exact Cz (h0:=s.heap) (sl:=.own vs) (X.step S) (Bl X.at'.ok kx) (Gd a items rfl ⟨nn,m.out,m.nopen,m.nofr⟩ hl rl hz) (λ _=>iEA a rfl m.new) f1 f2 (λ _=>Nold.step X.at'.fro S.so)
    λ h' t' a st X3 mv=>k g1 h' t' a S (λ _ _=>rfl) st X3 ((X.mv S).trans mv)
  ·rw[if_neg q]at hs;subst hs
   refine H0 hl λ o n ho hc _ hd=>val (iEAA (g1.put a o) (S.put m.new m.out m.nopen ho) (.lst Ch hc hd (rl.mono (Bm m.out)) hz) (λ b hb=>?_)) rfl
   unfold Gs.put
   exact rwE (if_neg (fun(z:b=a)=>hb (rwE z rfl))) rfl
theorem swaps_other{x:hV}{p pos:Pos}{e:hJ}(hp:BI e=true):(∃ elt az csc q,e = .ListComp elt az csc q)\/swapsWith e (some (.Name x p)) pos.line env=pure false:=by
 cases e with
 | ListComp elt az csc q=>exact .inl (Yv _ _ _ _ rfl)
 | SetComp=>exact absurd hp iX
 | DictComp=>exact absurd hp iX
 | _=>exact .inr rfl
theorem Oy{x:hV}{p pos:Pos}{e:hJ}{r:Fl×R×A4}(hE:Bp w P E d)(hU:TB w P E d)(X:BF w P sc J env A d fr ae af ac g O s)
  (hc:(Ah (sc.names.lookup x)&&BI e)=true)
  (h:liftE (E sc J e) J O (λ t O'=>(D4 x t).bind λ sl=>some (.nxt,BE J x sl,O'))=some r) :
  wpAny (model prog w) A (exec (.Assign [.Name x p] e pos) env) (stQ w P sc env A d fr ae af ac g s r.2.1 r.2.2 r.1) (Gj w P sc env A d fr ae af ac g s r.2.1 r.2.2 r.1) s:=by
 rw[iC]at hc
 refine Bv hc λ kx hp=>BO λ Q QE aw aD=>?_
 have plain:swapsWith e (some (.Name x p)) pos.line env=pure false->wpAny (model prog w) A (exec (.Assign [.Name x p] e pos) env) Q QE s:=λ cn=>by
  refine qJ ?_ cn
  rcases liftE_some h with ⟨t,O1,e1,e2⟩| ⟨O1,e1,rfl⟩
  ·refine iG (hE sc J e O O1 _ e1 env A fr g ac.heap s X.at') (λ v s1 q=>?_) λ _ _ q=>q.elim
   refine exE2 q λ g1 S rt=>Ag e2 λ sl hs e3=>?_
   (obtain e3:=hG e3;subst e3)
   exact UL X S rt kx hs λ g2 h' t' a _ _ st X3 mv=>aw _ _ (A8 rfl g2 X3 mv)
  ·exact iG (hE sc J e O O1 _ e1 env A fr g ac.heap s X.at') (λ v s1 q=>q.elim) λ _ _ q=>aD _ _ (QK X q)
 clear hc
 rcases swaps_other (x:=x) (p:=p) (pos:=pos) (env:=env) hp with ⟨elt,az,csc,q,rfl⟩| cn
 case inr=>exact plain cn
 have cn:swapsWith (.ListComp elt az csc q) (some (.Name x p)) pos.line env=pure (env.blockKind==.function&&env.kindOf x==some .local&&p.line==(v4 elt az csc q).pos.line
   && !(csc.names.any fun(n,k)=>n==x&&(k==.local||k==.cell))):=rfl
 cases hb:(env.blockKind==.function&&env.kindOf x==some .local&&p.line==(v4 elt az csc q).pos.line
   && !(csc.names.any fun(n,k)=>n==x&&(k==.local||k==.cell))) with
 | false=>rw[hb]at cn;exact plain cn
 | true=>
  rw[hb]at cn
  clear plain
  erw[exec_Assign_Name_used _ _ _ _ cn]
  clear cn hb
  refine i5 (kB (i5 ?_))
  rcases liftE_some h with ⟨t,O1,e1,e2⟩| ⟨O1,e1,rfl⟩
  ·clear h
   refine iG (hU sc J elt az csc q O O1 _ e1 env A fr g ac.heap s X.at' _ (λ _ s'=>Q .next s') λ s' g' L D ys ho hz cf=>?_) (λ _ s2 q2=>iI q2) λ _ _ q2=>q2.elim
   refine AK λ Z zk=>?_
   cases ho
   refine Ag e2 λ sl hs e3=>?_
   (obtain e3:=hG e3;subst e3)
   refine exE2 cf.acc λ items hl rl=>zk (wpAny_assign_Name (UL X cf.S (t:=(.lst ys,.fresh)) (Gd D items rfl ⟨cf.nD,cf.gD,cf.pD,cf.fD⟩ hl rl hz) kx hs λ g2 h' t' a S2 hg st X3 mv=>?_))
   refine qE cf.ns λ m hm=>Bv (B7 X) λ f1 f2=>?_
   have nL1:L≠env.locals:=λ z=>f1 (z▸cf.nL)
   have nL2:∀ y c,env.cells.lookup y=some c->c≠L:=λ y c hy z=>f2 y c hy (z▸cf.nL)
   obtain aL:a≠L:=by
    rcases st.loc with z | ⟨y,hy⟩
    ·exact rwE z nL1.symm
    ·exact nL2 y a hy
   have aK:=hm.sameBut st.upd.same aL.symm
   have LD:=(C7 hm (plainL_isList hl)).symm
   refine iEA m aK (λ h2 sb=>aw _ _ ⟨rfl,g2,X3.drop sb ?_ ((hg L (λ z=>by cases z;exact LD rfl)).trans cf.gL:g2 L=none) cf.pL cf.fL nL1 nL2 λ y sy b hy o ky hh=>?_,?_⟩)
   ·cases z:ac.heap.get? L with
    | none=>rfl
    | some o=>exact absurd cf.nL (X.at'.dom L (Am z))
   ·rw[Bk]at hy
    by_cases z:y=x
    ·replace hh:=z▸hh
     cases st.here.fun hh
     exact LD.symm
    ·obtain hy:=Fg z hy
     obtain this:=(Nold.step X.at'.fro cf.S.so:Nold env J s.heap s'.heap) y sy b hy o ky ((st.holds y z _).mpr hh)
     exact λ z=>this (z▸cf.nL)
   ·refine⟨mv.fk.trans (FK.but sb λ o fs ho hd=>?_),mv.ext,λ b hb=>?_⟩
    ·refine BJ aK λ o' es ep an ar _=>?_
     cases ho.symm.trans an;cases hd.symm.trans ar
    ·show h2.get? b≠none
     exact rwE (sb.2 b (λ z=>hb (z▸cf.nL))) (mv.dom b hb)
  ·refine iG (hU sc J elt az csc q O O1 _ e1 env A fr g ac.heap s X.at' _ (λ _ _=>False) λ s' g' L D ys ho=>by exact nc Mine.Out.ctorIdx ho (.refl false)) (λ _ s2 q2=>q2.elim) λ _ _ q2=>aD _ _ (QK X q2)
end
section
variable {fr:List Addr}
variable {E:Scope->R->hJ->Mo TV} {e:Value} {fl:Fl}
theorem stQ.after{f:Flow}(mv:Mv g s g1 s1)(q:stQ w P sc env A d fr ae af ac g1 s1 J' O' fl f s'):stQ w P sc env A d fr ae af ac g s J' O' fl f s':=by
 cases fl with
 | nxt=>obtain⟨e,g',X,m⟩:=q;exact A8 e g' X (mv.trans m)
 | brk=>obtain⟨e,g',X,m⟩:=q;exact A8 e g' X (mv.trans m)
 | cont=>obtain⟨e,g',X,m⟩:=q;exact A8 e g' X (mv.trans m)
 | ret v=>exact q
 | exc=>exact q
theorem Mv.back(mv:Mv g s g1 s1){a:Addr}(e:s1.heap.get? a=none):s.heap.get? a=none:=by
 cases q:s.heap.get? a with
 | none=>rfl
 | some o=>exact absurd e (mv.dom a (Am q))
theorem Gj.after(mv:Mv g s g1 s1)(q:Gj w P sc env A d fr ae af ac g1 s1 J' O' fl e s'):Gj w P sc env A d fr ae af ac g s J' O' fl e s':=by
 cases fl with
 | exc=>obtain⟨g',X,m,F⟩:=q;exact iEAA g' X (mv.trans m) (F.older λ a e=>mv.back e)
 | _=>exact q
theorem HN{ts:List hJ}:∀ {xs:List hV},B0 ts=some xs->∃ ps:List Pos,ts=mI kW xs ps/\xs.length=ps.length:=by
 induction ts with
 | nil=>intro xs h;(obtain h:=hG h;subst h);exact iEA [] rfl rfl
 | cons e r ih=>
  intro xs h
  refine Ag h λ x h1 h=>AY h λ ys h2 e0=>rwS e0 ?_
  refine qE (name?_some h1) λ p aa=>?_;erw[aa]
  refine A9 (ih h2) λ ps aa au=>rwE aa ?_;have hl:=au
  exact iEA (p::ps) rfl (congrArg (·+1) hl)
theorem EG{x:hV}{p:Pos}:Wr env (assign (.Name x p) env) x:=λ _ h=>assign_Name h
theorem NJ{x:hV}:Wr env (λ v=>bindName env x v) x:=λ _ h=>wpAny_bindName h
theorem M5{xs:List hV}:∀ {prs:List Pr} {ps:List Pos},prs.map (·.x)=xs->xs.length=ps.length->Fs env ((assignEach (mI kW xs ps) env).map (·.2)) prs /\
  (assignEach (mI kW xs ps) env).length=prs.length/\(assignEach (mI kW xs ps) env).findIdx? (·.1)=none:=by
 induction xs with
 | nil=>intro prs ps h1 h2;cases prs with
  | nil=>cases ps with
   | nil=>exact iAA .nil rfl rfl
   | cons _ _=>simp at h2
  | cons _ _=>exact nc l7 h1 (.refl false)
 | cons x xs ih=>intro prs ps h1 h2;cases prs with
  | nil=>exact nc l7 h1 (.refl false)
  | cons pr prs=>cases ps with
   | nil=>simp at h2
   | cons p ps=>
    rw[iW,List.cons.injEq]at h1
    refine sA h1 λ h1=>Nt (ih (prs:=prs) (ps:=ps) h1 (by simpa using h2)) λ a1 a2 a3=>?_
    refine iAA (.cons EG a1) ?_ ?_
    ·show((false,assign (.Name pr.x p) env)::assignEach (mI kW xs ps) env).length=_
     simp[a2]
    ·show((false,assign (.Name pr.x p) env)::assignEach (mI kW xs ps) env).findIdx? (·.1)=_
     refine i7 List.findIdx?_cons ?_;simp[a3]
theorem Nz:∀ (prs:List Pr),Fs env ((prs.map (·.x)).map λ n=>bindName env n) prs
 | []=>.nil
 | _::r=>.cons NJ (Nz r)
theorem Su{A':Around}{tgt:hJ}{v:V}{xv:Value}{xs:List (hV×V)}{Q:Unit->Shared->Prop}(hh:A'.handled=none)(X:BF w P sc J env A d fr ae af ac g O s)(hO:F6 sc tgt=true)
  (ht:AJ tgt v=some xs) (r:Rep w P g v xv)
  (k:∀ s',BF w P sc (Aw J (xs.map λ p=>(p.1,Slot.val p.2))) env A d fr ae af ac g O s'->Mv g s g s'->Q () s') :
  wpAny (model prog w) A' (assign tgt env xv) Q EE s:=by
 unfold F6 at hO
 (obtain hO:=Eq.mp (iC ..) hO;rw[decide_eq_true_eq]at hO;rw[jJ]at hO)
 refine qA (B7 X) λ f1 f2=>?_
 rcases targetL_is ht with ⟨x,p,rfl,rfl⟩| ⟨x,y,p1,p2,_,_,v1,v2,rfl,rfl,rfl,fC⟩
 ·exact assign_Name (Cz (h0:=s.heap) (sl:=.val _) X (Bl X.at'.ok (hO.2 _ i8)) r (λ o=>(fls o)) f1 f2 (λ o=>(fls o)) λ h' t' a st X2 mv=>k _ X2 mv)
 ·refine AK λ Z zk=>?_
  replace hO:=fC▸hO
  refine E1 r.tupOf λ a o items kk aa ga hc hd rl=>?_;subst aa
  refine Ca rl.pair λ x1 x2 aa r1 r2=>?_;subst aa
  have cL:s.heap.IsTuple a #[x1,x2]:=EF o (X.at'.here.sub _ _ ga) hc _ hd
  refine zk (q7 hh cL rfl rfl λ h1 he=>?_)
  have d_:=λ b o e=>he b o (λ q=>by replace e:=eqL (Ak ..) (q▸e);exact none_some e) e
  have S1:=X.at'.here.keeps (t':=s.toks) d_
  obtain F:Fs env ((assignEach [kW x p1,kW y p2] env).map (·.2)) [⟨x,.val v1,x1⟩,⟨y,.val v2,x2⟩]:=.cons EG (.cons EG .nil)
  refine EU (h0:=s.heap) f1 f2 [⟨x,.val v1,x1⟩,⟨y,.val v2,x2⟩] _ (X.step S1) F (λ p hp=>?_) hO.1 (kA _) (λ o=>(fls o)) λ s' X2 mv=>k s' X2 ((X.mv S1).trans mv)
  refine jP ((iJ).mp hp) (λ q=>?_) λ q=>?_
  ·exact rwE q (iAA (Bl X.at'.ok (hO.2 x i8)) r1 (λ o=>(fls o)))
  ·exact rwE ((iD).mp q) (iAA (Bl X.at'.ok (hO.2 y (i9 _ i8))) r2 (λ o=>(fls o)))
theorem E0{x:hV}(h:okName x=true):(x==("__debug__" : hV))=false/\(x==("__classdict__" : hV))=false:=by
 unfold okName at h
 rw[iC,jO,jO]at h;exact h
theorem Vy{e:hJ}{p:Pos}{r:Fl×R×A4}(hE:Bp w P E d)(X:BF w P sc J env A d fr ae af ac g O s)
  (h:(match D6 sc J e with
  | some v=>some (.ret v,J,O)
  | none=>liftE (E sc J e) J O λ t O'=>(valOf t).bind λ v=>some (.ret v,J,O'))=some r) :
  wpAny (model prog w) A (exec (.Return (some e) p) env) (stQ w P sc env A d fr ae af ac g s r.2.1 r.2.2 r.1) (Gj w P sc env A d fr ae af ac g s r.2.1 r.2.2 r.1) s:=by
 refine BO λ Q QE aw aD=>wpAny_Return_some ?_
 cases hr:D6 sc J e with
 | some v=>
  refine AK λ Z zk=>?_
  rw[hr]at h
  (obtain h:=hG h;subst h)
  refine Ag hr λ x h1 hr=>KW hr λ hc hr=>Ag hr λ sl hl hr=>qE (name?_some h1) λ np aa=>?_;subst aa
  replace hc:=Eq.mp (iC ..) hc
  refine exE2 (X.at'.fro.vals x _ hl (Bl X.at'.ok hc.2)) λ xv hv rr=>zk (uQ (MF X.at'.ok.fn hv (E0 hc.1).2 (aw _ _ ?_)) (E0 hc.1).1)
  clear aw aD hl hv
  cases sl with
  | val _=>exact none_some hr
  | own vs=>
   refine AK λ Z zk=>?_
   (obtain hr:=hG hr;subst hr)
   refine DV rr λ a items aa m al rl hz=>?_;subst aa;obtain⟨o,n,an,aC,_,ar⟩:=al
   exact zk (CL _ (g.put a o) rfl (X.S.put m.new m.out m.nopen an) (.lst Ch aC ar (rl.mono (Bm m.out)) hz))
  | ownd vs=>
   refine AK λ Z zk=>?_
   (obtain hr:=hG hr;subst hr)
   refine F0 rr λ a kvs' aa m ei sp sm hz=>?_;subst aa
   exact exE2 ((pU).mp ei) λ o an hi=>zk (CL _ (g.put a o) rfl (X.S.put m.new m.out m.nopen an) (.sdict Ch hi sp sm))
 | none=>
  replace h:=hr▸h
  clear hr
  rcases liftE_some (show liftE (E sc J e) J O _=some r from h) with ⟨t,O1,e1,e2⟩| ⟨O1,e1,rfl⟩
  ·clear h
   refine iG (hE sc J e O O1 _ e1 env A fr g ac.heap s X.at') (λ v s1 q=>aw _ _ ?_) λ _ _ q=>q.elim
   refine AK λ Z zk=>?_
   clear aw aD
   refine exE2 q λ g1 S rt=>Ag e2 λ u hu e3=>?_
   (obtain e3:=hG e3;subst e3)
   exact exE3 (rt.share S hu) λ g2 S2 r2 _=>zk (CL v g2 rfl ((X.step S2).S) r2)
  ·exact iG (hE sc J e O O1 _ e1 env A fr g ac.heap s X.at') (λ v s1 q=>q.elim) λ _ _ q=>aD _ _ (QK X q)
theorem XZ{t:hJ}{b o:List Stmt}{p:Pos}{r:Fl×R×A4}(hT:Ff w P T d)(hX:LZ w P Xf d)(X:BF w P sc J env A d fr ae af ac g O s)
  (h:liftE (T sc J t) J O (λ c O'=>if c then Xf sc J b O' else Xf sc J o O')=some r) :
  wpAny (model prog w) A (exec (.If t b o p) env) (stQ w P sc env A d fr ae af ac g s r.2.1 r.2.2 r.1) (Gj w P sc env A d fr ae af ac g s r.2.1 r.2.2 r.1) s:=by
 refine BO λ Q QE aw aD=>wpAny_If ?_
 rcases liftE_some h with ⟨c,O1,e1,e2⟩| ⟨O1,e1,rfl⟩
 ·refine iG (hT sc J t O O1 _ e1 env A fr g ac.heap s X.at') (λ v s1 q=>?_) λ _ _ q=>q.elim
  refine AK λ Z zk=>?_
  clear h
  obtain⟨rfl,g1,S⟩:=q
  obtain⟨fl,J',O'⟩:=r
  refine zk ?_
  cases v with
  | true=>exact iG (hX sc J b O1 O' fl J' e2 env A fr ae af ac g1 s1 (X.step S)) (λ _ _ q=>aw _ _ (q.after (X.mv S))) λ _ _ q=>aD _ _ (q.after (X.mv S))
  | false=>exact iG (hX sc J o O1 O' fl J' e2 env A fr ae af ac g1 s1 (X.step S)) (λ _ _ q=>aw _ _ (q.after (X.mv S))) λ _ _ q=>aD _ _ (q.after (X.mv S))
 ·exact iG (hT sc J t O O1 _ e1 env A fr g ac.heap s X.at') (λ v s1 q=>q.elim) λ _ _ q=>aD _ _ (QK X q)
theorem PV{L:Addr}{QE:Value->Shared->Prop}(hf:env.frame=some L)(X:BF w P sc J env A d fr ae af ac g O s)(mv:Mv g s g1 s1)(q:Gj w P sc env A d fr ae af ac g1 s1 J' O' .exc e s')
  (aD:∀ e s',Gj w P sc env A d fr ae af ac g s J' O' .exc e s'->QE e s') :
  notedBy (model prog w) A env (λ e s'=>cameBackBy (model prog w) A env QE e s') e s':=by
 refine exE3 q λ g2 X2 cq F=>?_
 have b9:=mv.trans cq
 exact Fd X2 hf X.at'.dom (λ b hb=>b9.dom b hb) (hf▸F.older λ a e=>mv.back e:GU P fr s.heap g2 s'.heap (some L) e) λ s3 X3 m3 F3=>Hs X3 hf X.at'.dom F3 λ s4 X4 m4 F4=>aD _ _ (iEAA g2 X4 (m4 g s rfl (m3 g s rfl b9)) (by erw[hf];exact F4.fault))
theorem FG(X:BF w P sc J env A d fr ae af ac g O s):∃ L,env.frame=some L:=by
 refine exE3 X.at'.a.frames λ l h1 _ h3=>HX X.frames λ cF h2=>?_
 obtain h2:=eqL h1 h2;(obtain h2:=hG h2;subst h2)
 exact (jL).mp (h3 env i8).2
theorem PS{bf:hJ}{body:List Stmt}{p:Pos}{N:Nat}{r:Fl×R×A4}(hT:Ff w P T d)(hX:LZ w P Xf d)(X:BF w P sc J env A d fr ae af ac g O s)
  (h:BV T Xf sc bf body N J O=some r) :
  wpAny (model prog w) A (exec (.While bf body [] p) env) (stQ w P sc env A d fr ae af ac g s r.2.1 r.2.2 r.1) (Gj w P sc env A d fr ae af ac g s r.2.1 r.2.2 r.1) s:=by
 refine BO λ Q QE aw aD=>AK λ Z zk=>?_
 clear aD
 refine qE (FG X) λ L hf=>?_
 obtain⟨Z,cy,dq⟩:∃ Z:Nat->Shared->Prop,(∀ n s1,(∃ J1 O1 g1,BF w P sc J1 env A d fr ae af ac g1 O1 s1/\Mv g s g1 s1/\BV T Xf sc bf body n J1 O1=some r)->Z n s1) /\
  ∀ n s1,Z n s1->∃ J1 O1 g1,BF w P sc J1 env A d fr ae af ac g1 O1 s1/\Mv g s g1 s1/\BV T Xf sc bf body n J1 O1=some r:=⟨_,λ _ _=>id,λ _ _=>id⟩
 refine zk (wpAny_While (codeAny_whileLoop Z (λ n s1 hI=>?_) N (cy _ _ ⟨J,O,g,X,.refl,h⟩)))
 clear h
 obtain hI:=dq _ _ hI;clear dq
 refine BJ hI λ J1 O1 g1 X1 cH hw=>?_
 cases n with
 | zero=>exact none_some hw
 | succ n=>
  refine Ag hw λ aa e1 hw=>?_;obtain⟨o,O2⟩:=aa
  cases o with
  | exc=>exact none_some hw
  | ok b=>
  refine iG (hT sc J1 bf O1 O2 _ e1 env A fr g1 ac.heap s1 X1.at') (λ v s2 q=>?_) λ _ _ q=>q.elim
  refine XQ q λ aa g2 S=>?_;subst aa
  have X2:=X1.step S
  have cq:=cH.trans (X1.mv S)
  clear e1 S X1 cH
  cases v with
  | false=>(obtain hw:=hG hw;subst hw);exact iI (aw _ _ ⟨rfl,g2,X2,cq⟩)
  | true=>
  refine Ag (show((Xf sc J1 body O2).bind _)=some r from hw) λ aa e2 hw=>?_;obtain⟨fl,bj,O3⟩:=aa
  erw[if_pos rfl]
  refine iG (hX sc J1 body O2 O3 fl bj e2 env A fr ae af ac g2 s2 X2) (λ f s3 q=>?_) λ _ _ q=>?_
  ·cases fl with
   | nxt=>
    refine El q λ aa g3 X3 b9=>?_;subst aa
    exact⟨n,lO _,cy _ _ ⟨bj,O3,g3,X3,cq.trans b9,hw⟩⟩
   | cont=>
    refine El q λ aa g3 X3 b9=>?_;subst aa
    exact⟨n,lO _,cy _ _ ⟨bj,O3,g3,X3,cq.trans b9,hw⟩⟩
   | brk=>
    refine AK λ Z zk=>?_
    (obtain hw:=hG hw;subst hw)
    refine El q λ aa g3 X3 b9=>?_;subst aa
    exact zk (aw _ _ ⟨rfl,g3,X3,cq.trans b9⟩)
   | ret v=>
    refine AK λ Z zk=>?_
    (obtain hw:=hG hw;subst hw)
    refine Ca q λ x g3 aa S3 r3=>?_;subst aa
    exact zk (aw _ _ ⟨x,g3,rfl,S3,r3⟩)
   | exc=>exact q.elim
  ·cases fl with
   | exc=>exact none_some hw
   | _=>exact q.elim
theorem Wd{tgt it:hJ}{body:List Stmt}{p:Pos}{r:Fl×R×A4}(hE:Bp w P E d)(hX:LZ w P Xf d)(X:BF w P sc J env A d fr ae af ac g O s)(hO:F6 sc tgt=true)
  (h:liftE (By E sc J tgt it) J O (λ items O'=>Bh Xf sc tgt body items J O')=some r) :
  wpAny (model prog w) A (exec (.For tgt it body [] p) env) (stQ w P sc env A d fr ae af ac g s r.2.1 r.2.2 r.1) (Gj w P sc env A d fr ae af ac g s r.2.1 r.2.2 r.1) s:=by
 refine BO λ Q QE aw aD=>HX (FG X) λ L hf=>?_
 obtain cw:BC [it]=true:=by
  rcases liftE_some h with ⟨_,_,q,_⟩| ⟨_,q,_⟩ <;> exact iter_noSet q
 refine wpAny_For ?_ λ x=>GS cw env x
 have hh:=X.at'.a.handled
 rcases liftE_some h with ⟨items,O1,e1,e2⟩| ⟨O1,e1,rfl⟩
 case inr=>
  refine iG (Hi hE X.at' e1) (λ xv s1 q=>?_) λ _ _ q=>aD _ _ (QK X q)
  refine iG (q _) (λ dY s2 q=>?_) λ _ _ q=>q
  exact exE2 q λ _ e4 _=>nc Mine.Out.ctorIdx e4 (.refl false)
 clear h
 obtain⟨Z,cy,dq⟩:∃ Z:Addr->Nat->Shared->Prop,(∀ I n s3,(∃ j bj O3 g3,items.length=j+n/\BF w P sc bj env A d fr ae af ac g3 O3 s3/\Mv g s g3 s3/\Src w P tgt I items s.heap j g3 s3.heap/\Bh Xf sc tgt body (items.drop j) bj O3=some r)->Z I n s3) /\
  ∀ I n s3,Z I n s3->∃ j bj O3 g3,items.length=j+n/\BF w P sc bj env A d fr ae af ac g3 O3 s3/\Mv g s g3 s3/\Src w P tgt I items s.heap j g3 s3.heap/\Bh Xf sc tgt body (items.drop j) bj O3=some r:=⟨_,λ _ _ _=>id,λ _ _ _=>id⟩
 refine iG (Hi hE X.at' e1) (λ xv s1 q=>?_) λ _ _ q=>q.elim
 refine iG (q _) (λ dY s2 q=>?_) λ _ _ q=>q
 refine Mu q λ _ e4 I g1 aa S1 src=>rwE aa ?_
 cases e4
 refine codeAny_loop' rfl (Z I) (λ n s3 hI=>?_) items.length (cy _ _ _ ⟨0,J,O1,g1,by exact rwE (kF ..) rfl,X.step S1,X.mv S1,src,e2⟩)
 clear e1 e2 S1 src q hE
 obtain hI:=dq _ _ _ hI;clear dq
 refine E1 hI λ j bj O3 g3 hn X3 b9 cY hw=>wpAny_noted ?_
 simp only[forTurn]
 cases n with
 | zero=>
  have hj:j=items.length:=hn.symm
  replace cY:=hj▸cY
  replace hw:=pA▸(hj▸hw)
  (obtain hw:=hG hw;subst hw)
  refine i5 (kB (i5 (wpAny_onRaise (iG (cY.done (EE:=λ _ _=>False) X3.at'.here.sub hh) (λ rr s4 q=>?_) λ _ _ q=>q.elim))))
  refine Ry q λ aa h' tk wr al Tn=>rwE aa (rwE al ?_)
  refine iI (.inr ⟨rfl,codeAny_block (iI (aw _ _ ?_))⟩)
  exact⟨rfl,g3,X3.turn Tn X.at'.dom,b9.turn Tn⟩
 | succ n=>
  obtain hj:j < items.length:=by erw[hn];exact kR (kZ n)
  have aM:items.length=j+1+n:=by(refine i7 hn (rwE (mE ..) ?_);exact rwE (lB 1 n) rfl)
  have hv:=jM hj
  replace hw:=(sI hj)▸hw
  generalize items[j]=v at hv hw
  refine Ag (show((AJ tgt v).bind _)=some r from hw) λ xs ht hw=>i5 (kB (i5 (wpAny_onRaise (iG (cY.item (EE:=λ _ _=>False) X3.at'.here.sub hh hv) (λ rr s4 q=>?_) λ _ _ q=>q.elim))))
  refine A9 q λ xv aa au=>rwE aa ?_;have q:=au
  refine i5 (iG q (λ _ s5 q=>?_) λ _ _ q=>q.elim)
  refine FL q λ h' tk g5 wr aa Tn rv ez=>rwE aa ?_
  have X5:=X3.turn (t':=tk) Tn X.at'.dom
  refine i5 (Su hh X5 hO ht rv λ s6 X6 cD=>?_)
  have g_:=(b9.turn (t':=tk) Tn).trans cD
  obtain u5:=X5.at'.here.sub
  refine Ag hw λ aa e7 hw=>?_;obtain⟨fl,J7,O7⟩:=aa
  have next:∀ g8 s8,BF w P sc J7 env A d fr ae af ac g8 O7 s8->Mv g5 s6 g8 s8->Bh Xf sc tgt body (items.drop (j+1)) J7 O7=some r->Z I n s8:=λ g8 s8 X8 cT hr=>
   cy _ _ _ ⟨j+1,J7,O7,g8,aM,X8,g_.trans cT,ez.keep (cD.trans cT).fk (cD.trans cT).ext u5 X8.at'.here.sub,hr⟩
  clear cy ez aM
  refine i5 (iG (hX sc _ body O3 O7 fl J7 e7 env A fr ae af ac g5 s6 X6) (λ f s8 q=>?_) λ e s8 q=>?_)
  ·clear aD e7
   cases fl with
   | nxt=>
    exact El q λ aa g8 X8 cT=>rwE aa (iI (.inl ⟨rfl,n,lO _,next _ _ X8 cT hw⟩))
   | cont=>
    exact El q λ aa g8 X8 cT=>rwE aa (iI (.inl ⟨rfl,n,lO _,next _ _ X8 cT hw⟩))
   | brk=>
    (obtain hw:=hG hw;subst hw)
    exact El q λ aa g8 X8 cT=>rwE aa (iI (aw _ _ ⟨rfl,g8,X8,g_.trans cT⟩))
   | ret v=>
    (obtain hw:=hG hw;subst hw)
    exact Ca q λ x g8 aa S8 r8=>rwE aa (iI (aw _ _ ⟨x,g8,rfl,S8,r8⟩))
   | exc=>exact q.elim
  ·clear aw e7 next
   cases fl with
   | exc=>
    (obtain hw:=hG hw;subst hw)
    exact PV hf X g_ q aD
   | _=>exact q.elim
theorem iteD{α:Type _}{d e:Bool}{n r u:α}(h:(d||!e)=true):(if d=true then n else if e=true then u else r)=n\/(if d=true then n else if e=true then u else r)=r:=by
 cases d with
 | true=>exact .inl rfl
 | false=>cases e with
  | true=>exact fls h
  | false=>exact .inr rfl
theorem iteC{α:Type _}{c:Bool}{n r x:α}(h:x=n\/x=r):(if c=true then n else x)=n\/(if c=true then n else x)=r/\c=false:=by
 cases c with
 | true=>exact .inl rfl
 | false=>exact h.imp_right λ h=>⟨h,rfl⟩
theorem XA{α:Type _}{a:Bool}{n r x:α}{R:Prop}(h:x=n\/x=r/\R):(if a=true then n else x)=n\/(if a=true then n else x)=r/\R:=by
 cases a with
 | true=>exact .inl rfl
 | false=>exact h
theorem XJ{α:Type _}{v n r q:α}{R:Prop}(h:v=n\/v=r/\R)(k:R->r=q):v=n\/v=q:=h.imp_right λ h=>h.1.trans (k h.2)
theorem XE{α:Type _}{b:Bool}{x:α}:(if b=true then some x else none)=none\/(if b=true then some x else none)=some x:=by cases b;exact .inl rfl;exact .inr rfl
theorem Yt{f:hJ->Option hV}(hf:∀ x p,f (.Name x p)=none\/f (.Name x p)=some x)(xs:List hV):∀ {ps:List Pos},xs.length=ps.length->((mI kW xs ps).filterMap f).length=(mI kW xs ps).length->(mI kW xs ps).filterMap f=xs:=by
 induction xs with
 | nil=>intro ps _ _;rfl
 | cons x xs ih=>
  intro ps hl
  cases ps with
  | nil=>exact nomatch hl
  | cons q ps=>
   rw[List.zipWith_cons_cons]
   rcases hf x q with e | e
   ·intro ai
    rw[List.filterMap_cons_none e]at ai
    exact absurd (ai▸List.length_filterMap_le f (mI kW xs ps)) (Nat.not_succ_le_self _)
   ·intro ai
    rw[List.filterMap_cons_some e]at ai ⊢
    exact congrArg (x::·) (ih (oA hl) (oA ai))
theorem Ik{ts es:List hJ}{xs:List hV}{ps:List Pos}{k k':Nat}{p p':Pos}(hs:HP es=true)(cg:ts=mI kW xs ps)(hl:xs.length=ps.length) :
  swappedStores [.Tuple ts k p] (.Tuple es k' p') env=pure none\/swappedStores [.Tuple ts k p] (.Tuple es k' p') env=pure (some xs):=
 XJ (XA (XA (iteC (iteD hs)))) λ h=>congrArg (λ z=>(pure (some z):Sem (Option (List hV)))) (by
  subst cg;exact Yt (λ _ _=>XE) xs hl (bne_eq_false_iff_eq.mp (Bool.or_eq_false_iff.mp h).1))
theorem F5{x:hV}{xs:List hV}{t:TV}{ts:List TV}{b5:List (hV×Slot)}(e:Ci (x::xs) (t::ts)=some b5):∃ sl r,D4 x t=some sl/\Ci xs ts=some r/\b5=(x,sl)::r:=by
 exact Ag e λ sl h1 e=>AY e λ r h2 e0=>rwS e0 (CL sl r h1 h2 rfl)
structure UD(w:World)(P:Option Addr)(fr:List Addr)(n h:Heap)(xs:List hV)(b5:List (hV×Slot))(vals:List Value)(g:Gs)(prs:List Pr):Prop where
 names:prs.map (·.x)=xs
 slots:prs.map (λ p=>(p.x,p.sl))=b5
 vals:prs.map (·.v)=vals
 rep:∀ p∈prs,BH w P fr g h n p.sl p.v
theorem UD.nil:UD w P fr n h [] [] [] g []:=⟨rfl,rfl,rfl,λ _ h=>nomatch h⟩
theorem UD.cons{x:hV}{sl:Slot}{v:Value}{xs:List hV}{b5:List (hV×Slot)}{vals:List Value}{prs:List Pr}(q:UD w P fr n h xs b5 vals g prs)(r:BH w P fr g h n sl v) :
  UD w P fr n h (x::xs) ((x,sl)::b5) (v::vals) g (⟨x,sl,v⟩::prs):=
 ⟨by exact i7 iW (rwE q.names rfl),by exact i7 iW (rwE q.slots rfl),by exact i7 iW (rwE q.vals rfl),λ p hp=>by
  rcases (iJ).mp hp with z | z
  ·exact rwE z r
  ·exact q.rep p z⟩
def Qq(prs:List Pr):Nat:=prs.countP λ p=>p.sl.isOwn
def JN(tvs:List TV):Nat:=(tvs.filter (λ t=>t.2==.fresh)).length
theorem MP{tvs:List TV}:∀ {vals:List Value} {xs:List hV} {b5:List (hV×Slot)},TL w P fr g1 n h tvs vals->Ci xs tvs=some b5->JN tvs=0->(∀ b o,g1 b=some o->g' b=some o) ->
  ∃ prs:List Pr,UD w P fr n h xs b5 vals g' prs/\Qq prs=0:=by
 induction tvs with
 | nil=>
  intro vals xs b5 r e _ _
  refine r.nR ?_
  cases xs with
  | nil=>(obtain e:=hG e;subst e);exact iEA [] .nil rfl
  | cons _ _=>exact none_some e
 | cons t ts ih=>
  intro vals xs b5 r e hf hg
  cases xs with
  | nil=>exact none_some e
  | cons x xs=>
  refine AK λ Z zk=>?_
  cases r with | cons a b=>
  refine Ca (F5 e) λ sl rr h1 h2 aa=>?_;subst aa
  obtain⟨v0,ow⟩:=t
  refine zk ?_
  clear e
  cases ow with
  | val=>
   refine AK λ Z zk=>?_
   (obtain h1:=hG h1;subst h1)
   exact exE2 (ih b h2 hf hg) λ prs p1 p2=>zk (iEA _ (p1.cons (sl:=.val v0) (Rep.mono hg a)) p2)
  | bor=>exact none_some h1
  | fresh=>cases hf
theorem Pf{tvs:List TV}:∀ {vals:List Value} {xs:List hV} {b5:List (hV×Slot)},AE w fr P g s g1 O1 s1->TL w P fr g1 s.heap s1.heap tvs vals->Ci xs tvs=some b5->JN tvs<=1 ->
  ∃ (g2:Gs) (prs:List Pr),AE w fr P g s g2 O1 s1/\(∀ b o,g1 b=some o->g2 b=some o)/\UD w P fr s.heap s1.heap xs b5 vals g2 prs/\Qq prs<=1:=by
 induction tvs with
 | nil=>
  intro vals xs b5 S r e _
  refine r.nR ?_
  cases xs with
  | nil=>(obtain e:=hG e;subst e);exact iEEAAA g1 [] S (λ _ _ q=>q) .nil (kA _)
  | cons _ _=>exact none_some e
 | cons t ts ih=>
  intro vals xs b5 S r e hf
  cases xs with
  | nil=>exact none_some e
  | cons x xs=>
  refine AK λ Z zk=>?_
  cases r with | cons a b=>
  refine Ca (F5 e) λ sl rr h1 h2 aa=>?_;subst aa
  obtain⟨v0,ow⟩:=t
  refine zk ?_
  cases ow with
  | val=>
   refine AK λ Z zk=>?_
   (obtain h1:=hG h1;subst h1)
   exact H0 (ih S b h2 hf) λ g2 prs S2 k2 p1 p2=>zk (iEEAAA g2 _ S2 k2 (p1.cons (sl:=.val v0) (Rep.mono k2 a)) p2)
  | bor=>exact none_some h1
  | fresh=>
   replace hf:JN ts=0:=Nat.le_zero.mp (mV hf)
   refine AY h1 λ vs h3 h4=>?_
   (first | (obtain rfl:=V.lst?_some h3) | cases V.lst?_some h3)
   have one:∀ {prs:List Pr} (sl:Slot) (v:Value),Qq prs=0->Qq (⟨x,sl,v⟩::prs)<=1:=λ sl v q=>by
    unfold Qq at q ⊢
    erw[List.countP_cons,q]
    cases sl.isOwn <;> decide
   clear e h1
   by_cases q:(ED.contains x&&(vs.isEmpty||!(x==("rows" : hV))))=true
   ·obtain h4:=Gn q h4;refine rwS h4 ?_
    refine exE2 (MP (g':=g1) b h2 hf λ _ _ z=>z) λ prs p1 p2=>?_
    exact iEEAAA g1 _ S (λ _ _ q=>q) (p1.cons (sl:=.own vs) a) (one _ _ p2)
   ·refine AK λ Z zk=>?_
    rw[if_neg q]at h4;subst h4
    refine DV a λ a' items aa m al rl hz=>?_;subst aa;obtain⟨o,n,ho,hc,_,hd⟩:=al
    exact exE2 (MP (g':=g1.put a' o) b h2 hf (Bm m.out)) λ prs p1 p2=>zk (iEEAAA (g1.put a' o) _ (S.put m.new m.out m.nopen ho) (Bm m.out) (p1.cons (sl:=.val (.lst vs)) (.lst Ch hc hd (rl.mono (Bm m.out)) hz)) (one _ _ p2))
theorem Si{g2:Gs}{prs:List Pr}(X:BF w P sc J env A d fr ae af ac g O s)(p4:∀ p∈prs,BH w P fr g2 s1.heap s.heap p.sl p.v)(hk:∀ p∈prs,Ah (sc.names.lookup p.x)=true) :
  ∀ p∈prs,Ah (env.kindOf p.x)=true/\BH w P fr g2 s1.heap ac.heap p.sl p.v/\(p.sl.isOwn=true->∃ a,p.v = .ref a/\s.heap.get? a=none):=λ p hp=>by
 obtain older:∀ a,s.heap.get? a=none->ac.heap.get? a=none:=λ a e=>by
  cases q:ac.heap.get? a with
  | none=>rfl
  | some o=>exact absurd e (X.at'.dom a (Am q))
 obtain r:=p4 p hp
 obtain⟨x,sl,v⟩:=p
 refine iAA (Bl X.at'.ok (hk _ hp)) ?_ (λ o=>?_)
 ·clear X hk hp p4
  cases sl with
  | val u=>exact r
  | own vs=>obtain⟨a,items,e,m,rest⟩:=r;exact CL a items e ⟨older a m.new,m.out,m.nopen,m.nofr⟩ rest
  | ownd vs=>obtain⟨a,items,e,m,rest⟩:=r;exact CL a items e ⟨older a m.new,m.out,m.nopen,m.nofr⟩ rest
 ·clear X hk hp older p4
  cases sl with
  | val u=>exact fls o
  | own vs=>obtain⟨a,items,e,m,rest⟩:=r;exact iEA a e m.new
  | ownd vs=>obtain⟨a,items,e,m,rest⟩:=r;exact iEA a e m.new
theorem Oj{ts es:List hJ}{k k':Nat}{p p' q:Pos}{xs:List hV}{r:Fl×R×A4}(hE:Bp w P E d)(X:BF w P sc J env A d fr ae af ac g O s)(bL:B0 ts=some xs)
  (hc:xs.Nodup/\(xs.all λ x=>Ah (sc.names.lookup x))/\noStar es/\HP es)
  (h:liftE (.mapM (E sc J) es) J O (λ tvs O'=>(Ci xs tvs).bind λ s=>if (tvs.filter (λ t=>t.2==.fresh)).length<=1/\tvs.length<=8 then some (.nxt,Aw J s,O') else none)=some r) :
  wpAny (model prog w) A (exec (.Assign [.Tuple ts k p] (.Tuple es k' p') q) env) (stQ w P sc env A d fr ae af ac g s r.2.1 r.2.2 r.1) (Gj w P sc env A d fr ae af ac g s r.2.1 r.2.2 r.1) s:=by
 refine GV hc λ bw hk bq cn=>exE2 (HN bL) λ ps cg ai=>BO λ Q' QE aw aD=>?_
 have bx:=(jJ).mp hk
 obtain val:∀ {Q:Value->Shared->Prop},(∀ (a:Addr) (xv:Array Value) (g2:Gs) (prs:List Pr) (s1:Shared) (O1:A4),r=(.nxt,Aw J (prs.map fun(p:Pr)=>(p.x,p.sl)),O1)->s1.heap.IsTuple a xv->prs.map (·.x)=xs->prs.map (·.v)=xv.toList->BF w P sc J env A d fr ae af ac g2 O1 s1->Mv g s g2 s1 ->
   (∀ p∈prs,Ah (env.kindOf p.x)=true/\BH w P fr g2 s1.heap ac.heap p.sl p.v/\(p.sl.isOwn=true->∃ a,p.v = .ref a/\s.heap.get? a=none))->prs.countP (λ p=>p.sl.isOwn)<=1->Nold env J s.heap s1.heap->Q (.ref a) s1) ->
   wpAny (model prog w) A (eval (.Tuple es k' p') env) Q QE s:=by
  intro Q hQ
  clear aw
  refine Tuple_ ?_
  rcases liftE_some h with ⟨tvs,O1,e1,e2⟩| ⟨O1,e1,rfl⟩
  ·clear aD h
   refine iG (CV hE es bq X.at' e1) (λ vals s1 q=>?_) λ _ _ q=>q.elim
   refine AK λ Z zk=>QW q λ ts' g1 e3 S l=>?_
   cases e3
   refine Ag e2 λ b5 e4 e5=>?_
   refine Cb e5 λ hf aa=>?_;subst aa
   refine H0 (Pf S l e4 hf.1) λ g2 prs S2 k2 q p5=>?_
   have eF:vals.length<=8:=by
    have hl8:∀ {tvs:List TV} {vals:List Value},TL w P fr g1 s.heap s1.heap tvs vals->vals.length=tvs.length:=by
     intro tvs vals l
     induction l with
     | nil=>rfl
     | cons _ _ ih=>(refine i7 i6 (rwE i6 ?_);exact rwE ih rfl)
    exact rwE (hl8 l) hf.2
   refine zk (wpAny_newTuple ?_ (hZ eF (by decide)))
   have S3:=(X.step S2).at'.here.keeps (t':=s1.toks) (Av s1.heap {cls:=.type "tuple",data:=.seq vals.toArray})
   have S4:=S2.trans0 S3
   exact hQ _ vals.toArray g2 prs _ O1 (rwE q.slots rfl) (EF _ (jC _ rfl) rfl _ rfl) q.names q.vals (X.step S4) (X.mv S4)
    (Si (s1:={s1 with heap:=s1.heap.push {cls:=.type "tuple",data:=.seq vals.toArray}}) X (λ p hp=>(q.rep p hp).mono S3.so S3.ext) λ p hp=>bx _ (by refine rwS q.names ?_;exact (jV).mpr (iEA p hp rfl))) p5 (Nold.step X.at'.fro S4.so)
  ·refine iG (CV hE es bq X.at' e1) (λ v s1 q=>?_) λ _ _ q=>aD _ _ (QK X q)
   exact It q λ _ _ e3 _=>nc Mine.Out.ctorIdx e3 (.refl false)
 refine Bv (B7 X) λ f1 f2=>?_
 refine jP (Ik (env:=env) (k:=k) (k':=k') (p:=p) (p':=p') cn cg ai) (λ hw=>?_) λ hw=>?_
 ·refine Assign_Tuple (val λ a xv g2 prs s1 O1 hr ht hx hv X1 cH hp aF no=>?_) (by rfl) hw
  rw[hr]at aw;clear hr val
  have:=M5 (env:=env) hx ai
  clear hE hc bx ai bq cn bL
  subst cg
  have fO:prs.length=xv.size:=by
   have:=congrArg jZ hv
   simpa using this
  refine q7 X.at'.a.handled ht (by refine i7 this.2.1 ?_;exact fO) this.2.2 λ h1 he=>?_
  have d_:=λ b o e=>he b o (λ q=>by rw[q,Ak]at e;exact none_some e) e
  have S5:=X1.at'.here.keeps (t':=s1.toks) d_
  have X5:=X1.step S5
  refine rwS hv ?_
  exact EU (h0:=s.heap) f1 f2 prs _ X5 this.1 (λ p hq=>let ⟨a1,a2,a3⟩:=hp p hq;(iAA a1 (a2.mono S5.so S5.ext) a3)) (by erw[hx];exact bw) aF (λ _=>Nold.mono2 X1.at'.fro no S5.so)
   λ s' X6 cD=>aw _ _ (A8 rfl g2 X6 ((cH.trans (X1.mv S5)).trans cD))
 ·refine Assign_Tuple_swapped (names:=xs) (val λ a xv g2 prs s1 O1 hr ht hx hv X1 cH hp aF no=>?_) (by rfl) hw
  rw[hr]at aw;clear hr val
  have fO:xs.length=xv.size:=by
   obtain this:=congrArg jZ hv
   refine rwS hx ?_;simpa using this
  refine rwE fO (wpAny_unpackItems_tuple X.at'.a.handled ht λ h1 he=>?_)
  have d_:=λ b o e=>he b o (λ q=>by rw[q,Ak]at e;exact none_some e) e
  have S5:=X1.at'.here.keeps (t':=s1.toks) d_
  have X5:=X1.step S5
  have e1:xs.reverse.map (λ n=>bindName env n)=((prs.reverse.map (·.x)).map λ n=>bindName env n):=by simp only[<-hx,n5]
  have e2:xv.toList.reverse=prs.reverse.map (·.v):=by exact rwS hv (rwE n5 rfl)
  erw[e1,e2]
  refine EU (h0:=s.heap) f1 f2 prs.reverse _ X5 (Nz _) (λ p hq=>let ⟨a1,a2,a3⟩:=hp p ((qY).mp hq);(iAA a1 (a2.mono S5.so S5.ext) a3)) (by erw[n5,hx];exact(tB _).symm.nodup bw) (by erw[List.countP_reverse];exact aF) (λ _=>Nold.mono2 X1.at'.fro no S5.so)
   λ s' X6 cD=>aw _ _ (A8 rfl g2 (X6.weaken λ x sl hl=>?_) ((cH.trans (X1.mv S5)).trans cD))
  have dM:((prs.map fun(p:Pr)=>(p.x,p.sl)).map (·.1)).Nodup:=by
   erw[jR];have:((fun(q:hV×Slot)=>q.1) ∘ fun(p:Pr)=>(p.x,p.sl))=(·.x):=rfl
   erw[this,hx];exact bw
  have cO:((prs.reverse.map fun(p:Pr)=>(p.x,p.sl)).map (·.1)).Nodup:=by
   erw[n5,n5];exact(tB _).symm.nodup dM
  (refine i7 (Dv _ _ _ cO) (rwE n5 ?_);rw[LU dM];refine rwS (Dv _ _ _ dM) ?_)
  exact hl
theorem SK{vs:List V}:∀ {vals:List Value} {xs:List hV},AF w P g vs vals->vs.length=xs.length->∃ prs:List Pr,UD w P fr n h xs (xs.zip (vs.map .val)) vals g prs/\∀ p∈prs,p.sl.isOwn=false:=by
 induction vs with
 | nil=>
  intro vals xs r hl
  refine r.nR ?_
  cases xs with
  | nil=>exact iEA [] .nil (λ _ h=>(by cases h))
  | cons _ _=>cases hl
 | cons v vs ih=>
  intro vals xs r hl
  refine r.cR λ _ _ a b=>?_
  cases xs with
  | nil=>cases hl
  | cons x xs=>
  exact A9 (ih b (oA hl)) λ prs p1 p2=>iEA _ (p1.cons (sl:=.val v) a) ((iK).mpr ⟨rfl,p2⟩)
theorem Rz{ts:List hJ}{e:hJ}{k:Nat}{p q:Pos}{xs:List hV}{r:Fl×R×A4}(hE:Bp w P E d)(X:BF w P sc J env A d fr ae af ac g O s)(bL:B0 ts=some xs)
  (hs:swapsWithSole [.Tuple ts k p] e q.line env=pure false) (hw:swappedStores [.Tuple ts k p] e env=pure none)
  (hc:xs.Nodup/\(xs.all λ x=>sc.names.lookup x==some .local))
  (h:liftE (E sc J e) J O (λ t O'=>t.1.tup?.bind λ vs=>if t.2 = .val/\vs.length=xs.length then some (.nxt,Aw J (xs.zip (vs.map .val)),O') else none)=some r) :
  wpAny (model prog w) A (exec (.Assign [.Tuple ts k p] e q) env) (stQ w P sc env A d fr ae af ac g s r.2.1 r.2.2 r.1) (Gj w P sc env A d fr ae af ac g s r.2.1 r.2.2 r.1) s:=by
 refine Bv hc λ bw hk=>?_
 have bx:∀ x∈xs,Ah (sc.names.lookup x)=true:=λ x hx=>by
  erw[beq_iff_eq.mp ((jJ).mp hk x hx)];rfl
 refine exE2 (HN bL) λ ps cg ai=>BO λ Q QE aw aD=>Assign_Tuple ?_ hs hw
 rcases liftE_some h with ⟨t,O1,e1,e2⟩| ⟨O1,e1,rfl⟩
 case inr=>exact iG (hE sc J e O O1 _ e1 env A fr g ac.heap s X.at') (λ v s1 q=>q.elim) λ _ _ q=>aD _ _ (QK X q)
 clear h aD hk bL hs hw
 refine iG (hE sc J e O O1 _ e1 env A fr g ac.heap s X.at') (λ v s1 q=>?_) λ _ _ q=>q.elim
 refine AK λ Z zk=>exE2 q λ g1 S rt=>Ag e2 λ vs e3 e2=>Cb e2 λ hl aa=>?_;subst aa
 obtain⟨t0,ow⟩:=t
 refine zk ?_
 (first | (obtain rfl:=V.tup?_some e3) | cases V.tup?_some e3)
 cases (show ow = .val from hl.1)
 refine AK λ Z zk=>?_
 clear e1 e3 hE
 refine E1 (Rep.tupOf rt) λ a o items kk aa ga cc hd rl=>?_;subst aa
 refine Bv (B7 X) λ f1 f2=>?_
 have X1:=X.step S
 refine exE2 (SK (fr:=fr) (n:=ac.heap) (h:=s1.heap) rl hl.2) λ prs q di=>?_
 obtain hF:=M5 (env:=env) q.names ai
 obtain dL:prs.length=items.size:=by
  (refine rwS (iH (f:=fun(p:Pr)=>p.v)) (rwE q.vals ?_);exact lQ)
 refine zk ?_
 refine rwE cg (q7 X.at'.a.handled ((EF o (X1.at'.here.sub _ _ ga) cc _ hd):s1.heap.IsTuple a items) (by refine i7 hF.2.1 ?_;exact dL) hF.2.2 λ h1 he=>?_)
 have S5:=X1.at'.here.keeps (t':=s1.toks) (λ b o e=>he b o (λ q=>by replace e:=eqL (Ak ..) (q▸e);exact none_some e) e:∀ b o,s1.heap.get? b=some o->h1.get? b=some o)
 obtain aw:=sJ q.slots▸aw
 refine rwS q.vals ?_
 exact EU (h0:=s.heap) f1 f2 prs _ (X1.step S5) hF.1 (λ p hp=>iAA (Bl X.at'.ok (bx _ (by refine rwS q.names ?_;exact (jV).mpr ⟨p,hp,rfl⟩))) ((q.rep p hp).mono S5.so S5.ext) (λ o=>by obtain o:=eqL (di p hp) o;exact fls o)) (by erw[q.names];exact bw)
  (hZ (j7 (List.countP_eq_zero.mpr λ p hp=>by erw[di p hp];decide)) (kA 1))
  (λ _=>Nold.mono2 X1.at'.fro (Nold.step X.at'.fro S.so) S5.so) λ s' X6 cD=>aw _ _ (A8 rfl g1 X6 (((X.mv S).trans (X1.mv S5)).trans cD))
theorem Tu{f:hV}{p q q':Pos}{as:List hJ}{r:Fl×R×A4}(hE:Bp w P E d)(X:BF w P sc J env A d fr ae af ac g O s)
  (h:liftE (E sc J (.Call (.Name f p) as [] q)) J O (λ _ O'=>some (.nxt,J,O'))=some r) :
  wpAny (model prog w) A (exec (.Expr (.Call (.Name f p) as [] q) q') env) (stQ w P sc env A d fr ae af ac g s r.2.1 r.2.2 r.1) (Gj w P sc env A d fr ae af ac g s r.2.1 r.2.2 r.1) s:=by
 refine wpAny_Expr_any ?_ (by unfold interactive;erw[X.at'.ok.fn];rfl) (by rfl)
 rcases liftE_some h with ⟨t,O1,e1,e2⟩| ⟨O1,e1,rfl⟩
 ·clear h
  (obtain e2:=hG e2;subst e2)
  refine iG (hE sc J _ O O1 _ e1 env A fr g ac.heap s X.at') (λ v s1 q=>?_) λ _ _ q=>q.elim
  exact exE2 q λ g1 S rt=>A8 rfl g1 (X.step S) (X.mv S)
 ·exact iG (hE sc J _ O O1 _ e1 env A fr g ac.heap s X.at') (λ v s1 q=>q.elim) λ _ _ q=>QK X q
theorem Sk{x:hV}{p dp q:Pos}(X:BF w P sc J env A d fr ae af ac g O s)(kx:Ah (sc.names.lookup x)=true) :
  wpAny (model prog w) A (exec (.Assign [.Name x p] (.Dict [] [] dp) q) env) (stQ w P sc env A d fr ae af ac g s (BE J x (.ownd [])) O .nxt) EE s:=by
 refine qJ (wpAny_Dict_empty ?_) (by rfl)
 obtain S1:=X.at'.here.keeps (t':=s.toks) (Av s.heap {cls:=.type "dict",data:=.dict #[]})
 refine Bv (B7 X) λ f1 f2=>?_
 obtain m:=X.at'.here.new (Ak s.heap)
 have nn:ac.heap.get? s.heap.objs.size=none:=by
  cases q:ac.heap.get? s.heap.objs.size with
  | none=>rfl
  | some o=>exact absurd (Ak s.heap) (X.at'.dom _ (Am q))
 exact Cz (h0:=s.heap) (sl:=.ownd []) (X.step S1) (Bl X.at'.ok kx) (DF s.heap.objs.size [] rfl ⟨nn,m.out,m.nopen,m.nofr⟩ (rN _) trivial (X.at'.tp.sys X.at'.here.sub) (by simp))
  (λ _=>iEA _ rfl (Ak _)) f1 f2 (λ _=>Nold.step X.at'.fro S1.so) λ h' t' a st X2 mv=>A8 rfl g X2 ((X.mv S1).trans mv)
theorem BF.mut{x:hV}{sl sl':Slot}{a:Addr}{t':Nat}(X:BF w P sc J env A d fr ae af ac g O s)(hx:J.lookup x=some sl)(ho:sl.isOwn=true)(kx:Ah (env.kindOf x)=true)
  (hh:Holds env s.heap x (.ref a)) (ma:A3 P fr g ac.heap a) (nf:∀ o fs,s.heap.get? a=some o->o.data≠.fields fs) (sb:k7 a s.heap h') (hn:h'.get? a≠none) (r':BH w P fr g h' ac.heap sl' (.ref a)) :
  BF w P sc (BE J x sl') env A d fr ae af ac g O {s with heap:=h',toks:=t'}/\Mv g s g {s with heap:=h',toks:=t'}:=by
 have S2:=X.S.upd (t':=t') ⟨sb,ma.new,ma.out,ma.nopen⟩
 have F:=X.at'.fro
 refine Bv (F.apartL x sl a hx ho kx hh) λ n1 n2=>?_
 have hf:∀ {y:hV} {v:Value},Holds env s.heap y v->Holds env h' y v:=λ hh=>by
  rcases hh with ⟨k,m,hm,e⟩| ⟨k,c,hc,e⟩
  ·exact .inl (A8 k m (hm.sameBut sb n1.symm) e)
  ·exact .inr (A8 k c hc (e.sameBut sb (n2 _ _ hc).symm))
 have hv:=λ y s1 hy ky=>by
  exact exE2 (F.vals y s1 hy ky) λ v hh r=>iEAA v hh (hf hh) r
 have cU:∀ y s1,(BE J x sl').lookup y=some s1->s1.isOwn=true->Ah (env.kindOf y)=true->∀ b,Holds env h' y (.ref b)->∃ s2,J.lookup y=some s2/\s2.isOwn=true/\Holds env s.heap y (.ref b):=λ y s1 hy o ky b hb=>by
  rw[Bk]at hy
  by_cases q:y=x
  ·subst q
   refine exE3 (hv y sl hx ky) λ v u1 u2 _=>?_
   obtain this:=u2.fun hb;exact rwS this (iEAA sl hx ho u1)
  ·replace hy:=Fg q hy
   refine exE3 (hv y s1 hy ky) λ v u1 u2 _=>?_
   obtain this:=u2.fun hb;exact rwS this (iEAA s1 hy o u1)
 obtain fro:FrOK w P env fr (BE J x sl') g h' ac.heap:=by
  refine⟨?_,λ y ky=>?_,F.apartC,λ y s1 hy ky=>?_,λ y z sy sz b hy hz oy oz ky kz q1 q2=>?_,λ y s1 b hy oy ky q1=>?_⟩
  ·exact Fb F.locals λ a1 a2 a3 m hm=>Kl a1 a2 a3 m (hm.sameBut sb n1.symm)
  ·clear n1
   exact Cg (F.cells y ky) λ c hc a1 a2 a3 v hv=>Dn c hc a1 a2 a3 v (hv.sameBut sb (n2 _ _ hc).symm)
  ·replace hy:=eqL (Bk ..) hy
   by_cases q:y=x
   ·clear n1 n2
    subst q
    replace hy:=Gn rfl hy;(obtain hy:=hG hy;subst hy)
    exact iEA (.ref a) (hf hh) r'
   ·obtain hy:=Fg q hy
    refine exE3 (hv y s1 hy ky) λ v u1 u2 r=>iEA v u2 (r.upd sb λ b o e=>λ z=>q ?_)
    clear hf hv n1 n2 r r'
    subst z;subst e
    exact F.apart y x s1 sl b hy hx o ho ky kx u1 hh
  ·exact exE3 (cU y sy hy oy ky b q1) λ s2 e2 o2 u2=>exE3 (cU z sz hz oz kz b q2) λ s3 e3 o3 u3=>F.apart y z s2 s3 b e2 e3 o2 o3 ky kz u2 u3
  ·exact exE3 (cU y s1 hy oy ky b q1) λ s2 e2 o2 u2=>F.apartL y s2 b e2 o2 ky u2
 refine⟨⟨⟨X.at'.ok,X.at'.a,⟨S2.sub,S2.pen,X.at'.here.frs.upd sb λ q=>absurd q ma.nofr⟩,fro,X.at'.tp,λ b hb=>S2.so.dom b hb⟩,S2,X.sub,X.frames,X.ck⟩,FK.but sb nf,.refl,λ b hb=>?_⟩
 by_cases z:b=a
 ·exact rwE z hn
 ·show h'.get? b≠none
  exact rwE (sb.2 b z) hb
theorem OL{m:hV}(hm:C4 m=true):∃ id,v8 "list" m id/\typeOf (.builtin id)=pure (.type "method_descriptor")/\(m="append"->id="list.append")/\(m="extend"->id="list.extend")/\(m="insert"->id="list.insert"):=by
 unfold C4 at hm
 rw[kT,kT,beq_iff_eq,beq_iff_eq,beq_iff_eq]at hm
 rcases hm with (rfl | rfl) | rfl
 ·exact Eh ("list.append") PySem.F.slot_list_append PySem.F.type_list_append (λ _=>rfl) (λ e=>absurd e (by decide)) (λ e=>absurd e (by decide))
 ·exact Eh ("list.extend") sY PySem.F.type_list_extend (λ e=>absurd e (by decide)) (λ _=>rfl) (λ e=>absurd e (by decide))
 ·exact Eh ("list.insert") sX PySem.F.type_list_insert (λ e=>absurd e (by decide)) (λ e=>absurd e (by decide)) (λ _=>rfl)
structure IS(w:World)(P:Option Addr)(env:Env)(fr:List Addr)(ah:Heap)(x:hV)(a:Addr)(vs:List V)(items:Array Value)(g:Gs)(h:Heap):Prop where
 hv:Holds env h x (.ref a)
 ma:A3 P fr g ah a
 pl:PlainL h a items
 rl:AF w P g vs items.toList
theorem IS.step{x:hV}{a:Addr}{vs:List V}{items:Array Value}(o:IS w P env fr ah x a vs items g s.heap)(F:FrOK w P env fr J g s.heap n)(S:AE w fr P g s g1 O1 s1):IS w P env fr ah x a vs items g1 s1.heap:=
 ⟨o.hv.mono F S.so,o.ma.mono (let ⟨_,_,q,_⟩:=o.pl;Am q) S.ext,(S.so.alike o.ma.nopen).plainL o.pl,o.rl.mono S.ext.1⟩
theorem IS.put{x:hV}{a:Addr}{vs ws:List V}{items aW:Array Value}(o:IS w P env fr ac.heap x a vs items g s.heap)(X:BF w P sc J env A d fr ae af ac g O s)(hx:J.lookup x=some (.own vs))(kx:Ah (env.kindOf x)=true)
  (hl:PlainL h' a aW) (sb:k7 a s.heap h') (rl:AF w P g ws aW.toList) (hz:ws.length<=Ae) :
  BF w P sc (BE J x (.own ws)) env A d fr ae af ac g O {s with heap:=h'}/\Mv g s g {s with heap:=h'}:=
 X.mut (t':=s.toks) (sl':=.own ws) hx rfl kx o.hv o.ma (λ ob fs e z=>by obtain⟨o2,av,aA⟩:=D0 o.pl;cases e.symm.trans av;exact aA fs z) sb (let ⟨_,_,q,_⟩:=hl;Am q) (Gd a aW rfl o.ma hl rl hz)
theorem US{x m:hV}{p ap q q':Pos}{as:List hJ}{r:Fl×R×A4}(hE:Bp w P E d)(X:BF w P sc J env A d fr ae af ac g O s)
  (hc:(okName x&&Ah (sc.names.lookup x)&&De J x&&C4 m&&(ap.endLine==q.line)&&decide (as.length < 30)&&noStar as)=true)
  (h:liftE (.mapM (E sc J) as) J O (λ ts O'=>(Hr J x m ts).map λ J'=>(.nxt,J',O'))=some r) :
  wpAny (model prog w) A (exec (.Expr (.Call (.Attribute (.Name x p) m ap) as [] q) q') env) (stQ w P sc env A d fr ae af ac g s r.2.1 r.2.2 r.1) (Gj w P sc env A d fr ae af ac g s r.2.1 r.2.2 r.1) s:=by
 simp only[iC,decide_eq_true_eq]at hc
 obtain⟨⟨⟨⟨⟨⟨bi,kx⟩,eM⟩,hm⟩,aV⟩,ai⟩,bq⟩:=hc
 refine BO λ Q QE aw aD=>?_
 replace bi:=E0 bi
 replace hm:=OL hm
 refine exE3 hm λ id c_ fj a_=>?_
 obtain kx:=Bl X.at'.ok kx
 clear hm
 refine qE ((jL).mp eM) λ vs dQ=>Ag dQ λ sl hx h2=>?_
 have:sl = .own vs:=by cases sl <;> (first | exact none_some h2 | exact fls h2 | (obtain h2:=hG h2;subst h2) | exact nc V.ctorIdx h2 (.refl false) | cases h2);rfl
 subst this
 clear eM dQ h2
 refine wpAny_Expr_any ?_ (by unfold interactive;erw[X.at'.ok.fn];rfl) (by rfl)
 refine wpAny_Call_method_late (trees:=backTo q (starEach as env)) (Fc rfl _) ?_ aV rfl ?_
 ·erw[HU bq]
  show(true&&true&&decide (as.length+0+0 < 30))=true
  simpa using ai
 refine Gw (X.at'.fro.vals x _ hx kx) λ xv hv a items aa ma hl rl hz=>?_;subst aa
 refine uQ (MF X.at'.ok.fn hv bi.2 ?_) bi.1
 refine DF ("list") id PySem.F.plainAttrs_list c_ fj ((plainL_isList hl).typeIs) (λ b e=>?_) (B1 bq ?_)
 ·cases e
  exact H0 hl λ o n ho _ bI _=>⟨o,ho,bI⟩
 clear c_ fj bi aV ai
 rcases liftE_some h with ⟨ts,O1,e1,e2⟩| ⟨O1,e1,rfl⟩
 case inr=>
  refine iG (CV hE as bq X.at' e1) (λ v s1 q=>?_) λ _ _ q=>aD _ _ (QK X q)
  exact Ij q λ _ _ e3 _=>nc Mine.Out.ctorIdx e3 (.refl false)
 clear h aD
 refine iG (CV hE as bq X.at' e1) (λ vals s1 q=>?_) λ _ _ q=>q.elim
 refine Ca q λ ts' g1 e3 S l=>?_
 cases e3
 refine AY e2 λ J' e4 e0=>?_;subst e0
 have o:IS w P env fr ac.heap x a vs items g s.heap:=⟨hv,ma,hl,rl⟩
 obtain bO:items.size=vs.length:=rl.length
 clear e1 e2 hv ma hl rl hE bq
 unfold Hr at e4
 replace e4:=W5 hx e4
 replace e4:=C0 (show(if m="append" then _ else _)=some J' from e4)
 have fin:∀ {g2:Gs} {ws:List V} {aW:Array Value} {h':Heap},AE w fr P g s g2 O1 s1->J'=BE J x (.own ws)->PlainL h' a aW->k7 a s1.heap h'->AF w P g2 ws aW.toList->ws.length<=Ae->Q .next {s1 with heap:=h'}:=λ S2 e bg sb dT bO=>by
  exact Bv ((o.step X.at'.fro S2).put (X.step S2) hx kx bg sb dT bO) λ X3 b9=>aw _ _ (A8 rfl _ (e▸X3) ((X.mv S2).trans b9))
 clear aw hx kx hz
 rcases e4 with ⟨rfl,e4⟩| e4
 ·refine Ag e4 λ t h1 e4=>Ag e4 λ v dg e4=>Cb e4 λ aH aa=>?_;subst aa
  cases a_.1 rfl
  replace l:=(one?_some h1)▸l
  refine l.cR λ _ _ rt l0=>l0.nR (exE3 (rt.share S dg) λ g2 S2 r2 _=>?_)
  have o2:=o.step X.at'.fro S2
  exact Nb o2.pl (by erw[bO];exact aH) λ h' bg sb=>fin S2 rfl bg sb (by erw[Array.toList_push];exact o2.rl.append (.cons r2 .nil)) (by erw[hW];exact aH)
 replace e4:=C0 e4
 rcases e4 with ⟨rfl,e4⟩| e4
 ·refine Ag e4 λ t h1 e4=>Ag e4 λ ws h2 e4=>?_
  obtain⟨aH,rfl⟩:=Bd e4
  cases a_.2.1 rfl
  replace l:=(one?_some h1)▸l
  refine l.cR λ _ _ rt l0=>l0.nR ?_
  have vw:=rt.vw (X.step S).at'.here.sub
  replace vw:=(V.lst?_some h2)▸vw
  obtain⟨b,dB,rfl,hb,rl3,_⟩:=vw
  have o2:=o.step X.at'.fro S
  obtain l3:dB.size=ws.length:=rl3.length
  exact Tc o2.pl hb (by erw[bO,l3];exact aH) λ h' bg sb=>fin S rfl bg sb (by erw[pC];exact o2.rl.append rl3) (by erw[hW];exact aH)
 obtain⟨rfl,e4⟩:=BT e4
 refine Ag e4 λ t h1 e4=>Ag e4 λ v dg e4=>Ag e4 λ i hi e4=>?_
 obtain⟨aH,rfl⟩:=Bd e4
 cases a_.2.2 rfl
 obtain⟨rfl,how,aH⟩:=aH
 rw[two?_some h1]at l
 refine l.cR λ _ _ r0 l0=>l0.cR λ _ _ rt l1=>l1.nR ?_
 have vw:=r0.vw (X.step S).at'.here.sub
 rw[V.int?_some hi]at vw
 obtain⟨u,rfl⟩:=vw.int
 refine exE3 (rt.share S dg) λ g2 S2 r2 _=>?_
 have o2:=o.step X.at'.fro S2
 exact Q5 o2.pl (by erw[bO];exact aH) λ h' bg sb=>fin S2 rfl bg sb (by erw[pC];exact .cons r2 o2.rl) aH
theorem AE.penset{p:Addr}{t':Nat}{items:Array Value}(S:AE w fr P g s g1 O1 s1)(hp:P=some p)(sb:k7 p s1.heap h')(hl:h'.IsList p items)(rl:AF w P g1 O' items.toList) :
  AE w fr P g s g1 O' {s1 with heap:=h',toks:=t'}:=by
 obtain⟨⟨h1,t1,rfl⟩,e1,u1,o1,p1⟩:=S
 have np:∀ b,some b≠P->b≠p:=λ b hb q=>hb (rwE q (rwE hp rfl))
 refine⟨⟨h',t',rfl⟩,e1,λ b o e=>?_,⟨λ b o hb hq e=>?_,λ b o hq e=>?_,λ b e=>?_⟩,λ q hq=>?_⟩
 ·exact(sb.2 b (λ q=>by replace e:=((p1 p hp).1)▸(q▸e);exact none_some e)).trans (u1 b o e)
 ·exact(sb.2 b (np b hq)).trans (o1.exact b o hb hq e)
 ·exact HX (o1.slots b o hq e) λ sl e'=>⟨sl,(sb.2 b (np b hq)).trans e'⟩
 ·by_cases z:b=p
  ·exact exE2 hl λ o ho _=>rwE z (Am ho)
  ·show h'.get? b≠none
   exact rwE (sb.2 b z) (o1.dom b e)
 ·replace hq:=eqL hp hq;(obtain hq:=hG hq;subst hq)
  exact A8 ((p1 p hp).1) items hl rl
theorem ML{k a:List Nat}(q:(⟨k.toArray⟩:hV)=⟨a.toArray⟩):k=a:=by
 obtain this:=congrArg (λ z=>z.cps.toList) q;simpa using this
theorem NV{k v:List Nat}{t:Tok}{ak:List (List Nat×List Nat)}:∀ {kvs':List (hV×Value)},BY ak kvs'->v.length<=Ae->(kvs'.map (·.1)).Nodup->BY (Fq ak k v) (stored kvs' ⟨k.toArray⟩ (.str ⟨v.toArray⟩ t)):=by
 induction ak with
 | nil=>intro kvs' h hv _;cases kvs' with
  | nil=>exact GL rfl ⟨t,rfl⟩ hv trivial
  | cons _ _=>exact h.elim
 | cons p r ih=>intro kvs' h hv hn;cases kvs' with
  | nil=>exact h.elim
  | cons p' r'=>
   obtain⟨a,b⟩:=p
   obtain⟨a',x⟩:=p'
   refine VR h λ aa e2 e3 e4=>?_;subst aa
   replace hn:=Iff.mp lL (iW▸hn)
   rw[Os];unfold stored
   by_cases q:k=a
   ·subst q
    (erw[if_pos rfl,nH];erw[decide_eq_true rfl,Bool.true_or];erw[if_pos rfl,iW];erw[if_pos rfl])
    have:r'.map (λ kv=>if kv.1=(⟨k.toArray⟩:hV) then(kv.1,Value.str ⟨v.toArray⟩ t) else kv)=r':=by
     conv=>rhs;rw[<-List.map_id r']
     refine mP λ z hz=>?_
     rw[if_neg];rfl
     exact λ w=>hn.1 (by refine rwS w ?_;exact (jV).mpr (iEA z hz rfl))
    exact rwE this (GL rfl ⟨t,rfl⟩ hv e4)
   ·have q':(⟨a.toArray⟩:hV)≠⟨k.toArray⟩:=λ w=>q (ML w.symm)
    have ih:=ih (kvs':=r') e4 hv hn.2
    unfold stored at ih
    (erw[if_neg q,nH];erw[decide_eq_false q',Bool.false_or];erw[iW,if_neg q'])
    by_cases cK:(r'.any λ kv=>decide (kv.1=(⟨k.toArray⟩:hV)))=true
    ·rw[if_pos cK]at ih ⊢
     exact GL rfl e2 e3 ih
    ·rw[if_neg cK]at ih ⊢
     exact GL rfl e2 e3 ih
theorem LH(k v:List Nat)(ak:List (List Nat×List Nat)):(Fq ak k v).length<=ak.length+1:=by
 induction ak with
 | nil=>exact j3 _
 | cons p r ih=>
  by_cases q:k=p.1
  ·show(if k=p.1 then _ else _:List (List Nat×List Nat)).length<=_
   exact rwE (if_pos q) (m8 _)
  ·show(if k=p.1 then _ else _:List (List Nat×List Nat)).length<=_
   exact rwE (if_neg q) (j6 ih)
theorem BY.len{ak:List (List Nat×List Nat)}:∀ {kvs':List (hV×Value)},BY ak kvs'->kvs'.length=ak.length:=by
 induction ak with
 | nil=>intro kvs' h;cases kvs' with
  | nil=>rfl
  | cons _ _=>exact h.elim
 | cons p r ih=>intro kvs' h;cases kvs' with
  | nil=>exact h.elim
  | cons p' r'=>(refine i7 i6 (rwE i6 ?_);exact rwE (ih h.2.2.2) rfl)
theorem VK{x:hV}{i e:hJ}{p sp q:Pos}{r:Fl×R×A4}(hE:Bp w P E d)(X:BF w P sc J env A d fr ae af ac g O s)
  (hc:(okName x&&Ah (sc.names.lookup x)&&BI e)=true) (h:liftE (E sc J e) J O (λ t O'=>V9 G.gl sc J O' x i t)=some r) :
  wpAny (model prog w) A (exec (.Assign [.Subscript (.Name x p) i sp] e q) env) (stQ w P sc env A d fr ae af ac g s r.2.1 r.2.2 r.1) (Gj w P sc env A d fr ae af ac g s r.2.1 r.2.2 r.1) s:=by
 simp only[iC]at hc
 refine qA hc λ aa hp=>?_;obtain⟨bi,kx⟩:=aa
 obtain bi:=E0 bi
 replace kx:=Bl X.at'.ok kx
 refine BO λ Q QE aw aD=>?_
 refine wpAny_Assign_Subscript ?_ (by cases e <;> rfl)
 clear hp
 rcases liftE_some h with ⟨t,O1,e1,e2⟩| ⟨O1,e1,rfl⟩
 case inr=>exact iG (hE sc J e O O1 _ e1 env A fr g ac.heap s X.at') (λ v s1 q=>q.elim) λ _ _ q=>aD _ _ (QK X q)
 clear h aD
 refine iG (hE sc J e O O1 _ e1 env A fr g ac.heap s X.at') (λ v s1 q=>?_) λ _ _ q=>q.elim
 refine AK λ Z zk=>exE2 q λ g1 S rt=>?_
 clear hE e1
 have X1:=X.step S
 refine Ag e2 λ sl hx e2=>exE2 (X1.at'.fro.vals x sl hx kx) λ xv hv rr=>zk (uQ (MF X1.at'.ok.fn hv bi.2 ?_) bi.1)
 clear q zk
 cases sl with
 | own vs=>exact none_some e2
 | val u=>
  clear hx hv kx bi
  refine KW e2 λ hp e2=>Ag e2 λ k hk e2=>?_
  replace e2:=Bd e2;obtain⟨hc,e2⟩:=e2;subst e2
  (first | (obtain rfl:=V.isPen_is hp) | cases V.isPen_is hp)
  refine Ha (CD hk) λ kk kp aa=>rwE aa ?_
  clear hp hk
  cases rr with | pen hP=>
  rename_i a
  refine n8 (El (X1.at'.here.pen a hP) λ ga items hl rl=>?_)
  obtain ai:items.size=O1.length:=rl.length
  refine wpAny_setItem_list (items:=items) hl hc.2.1 (Int.lt_trans hc.2.2.2 (by decide)) (by erw[ai];exact(nY hc.2.1).mp hc.2.2.1) λ h' bg sb=>?_
  obtain S3:=(S.trans0 (X1.at'.here.toks (t:=s1.toks+1))).penset (t':=s1.toks+1) hP sb bg (O':=O1.set k.toNat t.1) (by erw[Array.toList_setIfInBounds];exact rl.set (rt.val (by erw[hc.1];rfl)) _)
  exact aw _ _ (A8 rfl g1 (X.step S3) (X.mv S3))
 | ownd ak=>
  refine Ag e2 λ y hy e2=>Ag e2 λ v' hv' e2=>Ag e2 λ ky hky e2=>Ag e2 λ k hk e2=>?_
  replace e2:=Bd e2;obtain⟨hc,e2⟩:=e2;subst e2
  refine qE (name?_some hy) λ yp aa=>?_;subst aa
  clear hy bi
  refine F0 rr λ a kvs' aa ma ei sp' sm hz=>?_;subst aa
  refine HY X1.at' hky λ kv rk=>?_
  replace rk:=(rk.val (by erw[hc.2.1];rfl)).vw X1.at'.here.sub
  rw[V.str?_some hk]at rk
  refine A9 rk.str λ kt aa hkl=>rwE aa ?_
  replace rt:=(rt.val (by erw[hc.1];rfl)).vw X1.at'.here.sub
  rw[V.str?_some hv']at rt
  refine A9 rt.str λ vt aa eF=>rwE aa (wpAny_setItem_pairs (strKind_is prog w ⟨k.toArray⟩ kt) ei (λ h' ar sb=>?_) (by erw[sp'.len];obtain this:=hc.2.2;have:=pI;exact hZ hz (l8 _ _)))
  obtain nd:(kvs'.map (·.1)).Nodup:=by
   exact EX ei λ o es ep ho hcc be hkk hpp hnn=>hnn
  obtain⟨X3,b9⟩:=X1.mut (t':=s1.toks+1) (sl':=.ownd (Fq ak k v')) hx rfl kx hv ma (λ o fs e z=>by
    refine Bj ei λ o2 es ep av _ be _=>?_
    cases e.symm.trans av;cases z.symm.trans be) sb (by obtain⟨o2,es,ep,av,_⟩:=ar;exact Am av)
   (DF a _ rfl ma ar (NV sp' eF nd) sm (hZ (LH k v' ak) hc.2.2))
  exact aw _ _ (A8 rfl g1 X3 ((X.mv S).trans b9))
theorem Lp{xc:Model}{x:Sem Value}{Q:Flow->Shared->Prop}{oC:Obj}(ob:Re oC)(hh:A.handled=none)
  (h:wpAny xc A x (λ v a9=>∃ e o t,v = .ref e/\a9.heap.get? C=some oC /\
   a9.heap.get? e=some o/\o.cls = .ref C/\o.data = .fields #[t,.none,.none,.none,.bool false,.none]/\EE (.ref e) a9) EE s) :
  wpAny xc A (raiseStmt env (some x) none) Q EE s:=by
 refine BU ob λ nm q N bs bm br sn sub ab cj dd k0 k1 k2 k3 k5 aZ aa c7=>?_;subst aa
 obtain eR:(lK C::bm).contains (.type "BaseException")=true:=by(refine i7 lA (rwE c7 ?_);exact(sB ..))
 unfold raiseStmt
 refine i5 (iG h (λ v a9 ax=>?_) λ _ _ x=>x)
 refine AK λ Z zk=>?_
 clear h
 refine EX ax λ e o t aa hC he hc hd hE=>?_;subst aa
 obtain⟨oc,od,oda,gR⟩:=o
 dsimp only at hc hd
 subst hc hd
 obtain⟨hp,g,d,tk,os⟩:=a9
 refine zk ?_
 repeat (first | with_reducible refine lR he ?_ | with_reducible refine lR hC ?_ | (with_reducible refine pK hC ?_;erw[eR]) | wp_step)
 exact wpAny_raiseNew_none hh hE
theorem Iz{xc:Model}{p:Pos}{es:List hJ}{Q:Value->Shared->Prop}{oC:Obj}(ob:Re oC)(hs:noStar es=true)
  (h:wpAny xc A (spliced (backTo p (starEach es env))) (λ vs s'=>s'.heap.get? C=some oC/\wpAny xc A (jH (.ref C) vs) Q EE s') EE s) :
  wpAny xc A (callWith p (.ref C) [] (backTo p (starEach es env)) []) Q EE s:=by
 refine i5 (jN (Ds hs (iG h (λ vs s' q=>i5 (kB ?_)) λ _ _ x=>x)))
 refine AK λ Z zk=>?_
 clear h
 refine qA q λ hC hc=>BU ob λ nm q N bs bm br sn sub ab cj dd k0 k1 k2 k3 k5 aZ aa _=>?_;subst aa
 obtain dD:=Ee hs
 obtain⟨hp,g,d,tk,os⟩:=s'
 refine zk ?_
 refine rwE dD (i5 (wpAny_keeperOf_exc hC ?_))
 exact i5 (iG hc (λ v s2 q=>i5 (jN (wpAny_point (iI q)))) λ _ _ x=>x)
theorem TL.len{ts:List TV}{xs:List Value}(l:TL w P fr g n h ts xs):xs.length=ts.length:=by
 induction l with
 | nil=>rfl
 | cons _ _ ih=>(refine i7 i6 (rwE i6 ?_);exact rwE ih rfl)
theorem Q6(es:List hJ):∀ {O O':A4} {ts:List TV},Mo.mapM (E sc J) es O=some (.ok ts,O')->ts.length=es.length:=by
 induction es with
 | nil=>intro O O' ts q;obtain⟨e,_⟩:=AW q;cases e;rfl
 | cons e r ih=>
  intro O O' ts q
  refine AK λ Z zk=>Ij (Gg (show Mo.bind (E sc J e) _ O=_ from q)) λ t O1 q1 q2=>Ij (Gg q2) λ ys O2 q3 q4=>Bv (AW q4) λ e5 _=>?_
  clear q q1 q2 q4
  cases e5
  refine zk ?_
  (refine i7 i6 (rwE i6 ?_);exact rwE (ih q3) rfl)
theorem Qg{np cp pos:Pos}{as:List hJ}{f:hV}{r:Fl×R×A4}(hE:Bp w P E d)(h3:3<=d)(X:BF w P sc J env A d fr ae af ac g O s)
  (hc:(f=="MimeFault"&&sc.names.lookup f==some .globalImplicit&&(as.length==1||as.length==2)&&noStar as)=true)
  (h:liftE (.mapM (E sc J) as) J O (λ ts O'=>if ts.all (λ t=>UA t.1) then some (.exc,J,O') else none)=some r) :
  wpAny (model prog w) A (exec (.Raise (some (.Call (.Name f np) as [] cp)) none pos) env) (stQ w P sc env A d fr ae af ac g s r.2.1 r.2.2 r.1) (Gj w P sc env A d fr ae af ac g s r.2.1 r.2.2 r.1) s:=by
 simp only[iC,beq_iff_eq,kT]at hc
 refine qA hc λ aa au=>?_;obtain⟨⟨rfl,hg⟩,ai⟩:=aa;have bq:=au
 refine exE2 X.at'.tp.ecl λ oC hC ob=>BO λ Q QE aw aD=>?_
 clear aw
 refine rwE (arm_exec_Raise ..) (i5 (kB (Lp ob X.at'.a.handled ?_)))
 refine i5 (mU rfl ?_)
 refine CN X.at'.ok (B8 X.at'.ok (by erw[hg];rfl)) (by decide +kernel) X.at'.here.sub X.at'.tp.fault (Iz ob bq ?_)
 clear ob
 rcases liftE_some h with ⟨ts,O1,e1,e2⟩| ⟨O1,e1,rfl⟩
 case inr=>
  refine iG (CV hE as bq X.at' e1) (λ v s1 q=>?_) λ _ _ q=>aD _ _ (QK X q)
  exact Ij q λ _ _ e3 _=>nc Mine.Out.ctorIdx e3 (.refl false)
 refine Cb e2 λ _ aa=>?_;subst aa
 clear h
 refine iG (CV hE as bq X.at' e1) (λ vals s1 q=>?_) λ _ _ q=>q.elim
 refine QW q λ ts' g1 e3 S l=>?_
 have X1:=X.step S
 have hC1:=X1.at'.here.sub C _ (S.ext.1 _ _ hC)
 refine iA hC1 ?_
 obtain eF:vals.length=as.length:=by
  cases e3
  exact i7 l.len (Q6 as e1)
 refine iG (X1.at'.tp.emk A fr O1 g1 s1 (λ _ _ q=>q) (X1.at'.a.le h3) X1.at'.here vals (by erw[eF];exact ai)) (λ v s2 q=>?_) λ _ _ q=>q.elim
 refine I7 q λ a o t h2 t2 aa al bv hk ho cc be=>rwE aa (rwE al ?_)
 refine i5 (kB (iI (GM a o t rfl (hk _ _ hC1) ho cc be (aD _ _ ?_))))
 have S2:=X1.at'.here.keeps (t':=t2) hk
 have m:=X1.at'.here.new bv
 exact⟨g1,X1.step S2,(X.mv S).trans (X1.mv S2),a,o,_,rfl,⟨S.so.back bv,m.out,m.nopen,m.nofr⟩,ho,cc,be,.inl rfl⟩
theorem N5{xc:Model}{A':Around}{c:Const}{k:Nat}{p:Pos}{v:V}{Q:Value->Shared->Prop}(hv:JE c=some v)(h:∀ xv t',Rep w P g v xv->Q xv {s with toks:=t'}):wpAny xc A' (eval (.Constant c k p) env) Q EE s:=by
 cases c with
 | none=>(obtain hv:=hG hv;subst hv);exact wpAny_Constant_none (h _ s.toks .none)
 | bool b=>(obtain hv:=hG hv;subst hv);exact wpAny_Constant_bool (h _ s.toks (.bool _))
 | int i=>(obtain hv:=hG hv;subst hv);exact n8 (h _ _ (.int _ _))
 | str x=>
  refine Cb hv λ hx aa=>?_;subst aa
  exact s7 (h _ _ (Rep.str x.cps.toList _ hx))
 | bytes b=>
  refine Cb hv λ hb aa=>?_;subst aa
  obtain e1:(b.map (·.toNat)).map j2=b:=by
   refine i7 jR ?_
   conv=>rhs;rw[<-List.map_id b]
   refine mP λ x _=>?_
   simp
  obtain e2:b.toArray=((b.map (·.toNat)).map j2).toArray:=by exact rwE e1 rfl
  erw[arm_eval_Constant]
  obtain R:Rep w P g (.bytes (b.map (·.toNat))) (.bytes b.toArray s.toks):=by
   refine rwE e2 (.bytes _ _ (λ n hn=>?_) (by erw[iH];exact hb))
   refine A9 ((jV).mp hn) λ x _ aa=>?_;subst aa
   exact x.toNat_lt
  exact λ Γ p' hΓ=>h _ (s.toks+1) R
 | _=>exact none_some hv
theorem assign1?_some{e:PySem.Stmt}{c:List hJ×hJ}(h:assign1? e=some c):∃ ap,e = .Assign c.1 c.2 ap:=by
 exact qE (A2 h) λ q h=>nN (motive_2:=λ e=>∀ q:e.ctorIdx=5,nN (motive_2:=λ _=>Option (List hJ×hJ)) e q (λ ts e _=>some (ts,e))=some c->∃ ap,e = .Assign c.1 c.2 ap) e q (λ x y p _ h=>by(obtain h:=hG h;subst h);exact⟨_,rfl⟩) q h
theorem Ix{st:Stmt}(h:Fr st=true):∃ ap,st = .Continue ap:=
 have q:=o8 h
 PySem.Stmt.Continue.elim (motive_2:=λ st=>∃ ap,st = .Continue ap) st q λ ap=>⟨ap,rfl⟩
theorem handler?_some{hb:List Stmt}{o:Option (hV×Const)}(h:handler? hb=some o):(∃ x c p k cp ap,o=some (x,c)/\hb=[.Assign [.Name x p] (.Constant c k cp) ap])\/(∃ cp,o=none/\hb=[.Continue cp]):=by
 refine Ag h λ st h1 h=>rwE (one?_some h1) ?_
 cases hc:Fr st with
 | true=>
  rw[hc]at h
  exact qE (Ix hc) λ cp aa=>rwE aa (.inr (iEA cp ((hG h).symm) rfl))
 | false=>
  refine AK λ Z zk=>?_
  rw[hc]at h
  refine Ag (show((assign1? st).bind _)=some o from h) λ q h0 h=>Ag h λ t h1 h=>Ag h λ x h2 h=>AY h λ c h3 h4=>qE (assign1?_some h0) λ ap e0=>?_
  refine qE (name?_some h2) λ p e1=>?_
  refine Ha (const?_some h3) λ k cp e2=>?_
  exact zk (.inl (Qx x c p k cp ap h4.symm (by(erw[e0,one?_some h1];exact rwE e1 (rwE e2 rfl)))))
theorem OR{A':Around}{hb:List Stmt}{J1:R}{r:Fl×R×A4}{Q:Flow->Shared->Prop}{QE:Value->Shared->Prop}(X:BF w P sc J1 env A d fr ae af ac g1 O1 s1)(mv:Mv g s g1 s1)(dK:Hy sc hb=true)(h:Gf J1 O1 hb=some r)
  (aw:∀ f s',stQ w P sc env A d fr ae af ac g s r.2.1 r.2.2 r.1 f s'->Q f s'):wpAny (model prog w) A' (execs hb env) Q QE s1:=by
 refine Ag h λ o h1 h=>?_
 unfold Hy at dK
 replace dK:=h1▸dK
 rcases handler?_some h1 with ⟨x,c,p,k,cp,ap,rfl,rfl⟩| ⟨cp,rfl,rfl⟩
 ·refine AY h λ v hv e0=>?_;subst e0
  refine i5 (qJ (N5 (w:=w) (P:=P) (g:=g1) hv λ xv t' rv=>?_) (by rfl))
  have S5:=X.at'.here.toks (t:=t')
  exact Bv (B7 X) λ f1 f2=>Cz (h0:=s1.heap) (sl:=.val v) (X.step S5) (Bl X.at'.ok dK) rv (λ o=>(fls o)) f1 f2 (λ o=>(fls o)) λ h' t'' b st X6 cD=>iI (aw _ _ (A8 rfl g1 X6 ((mv.trans (X.mv S5)).trans cD)))
 ·(obtain h:=hG h;subst h)
  refine i5 ?_
  erw[arm_exec_Continue]
  exact i5 (kB (iI (iI (aw _ _ (A8 rfl g1 X mv)))))
theorem U2{f:hV}{np hp tp:Pos}{body hb:List Stmt}{r:Fl×R×A4}(hX:LZ w P Xf d)(X:BF w P sc J env A d fr ae af ac g O s)
  (h:U9 Xf sc J O body (f,hb)=some r) :
  wpAny (model prog w) A (exec (.Try body [.ExceptHandler (some (.Name f np)) none hb hp] [] [] tp) env) (stQ w P sc env A d fr ae af ac g s r.2.1 r.2.2 r.1) (Gj w P sc env A d fr ae af ac g s r.2.1 r.2.2 r.1) s:=by
 refine AK λ Z zk=>KW h λ hc h=>?_
 rw[iC,beq_iff_eq]at hc
 refine Bv hc λ eE hg=>zk ?_
 cases (show f="MimeFault" from eE)
 refine Ag h λ aa e1 h=>?_;obtain⟨fl,J1,O1⟩:=aa
 refine BO λ Q QE aw aD=>qE (FG X) λ L hf=>wpAny_Try_except ?_
 refine iG (hX sc J body O O1 fl J1 e1 env A fr ae af ac g s X) (λ fw s1 q=>?_) λ e s1 q=>?_
 ·clear e1 hX hg eE aD
  cases fl with
  | nxt=>(obtain h:=hG h;subst h);obtain⟨rfl,rest⟩:=q;exact iI (aw _ _ (iA rfl rest))
  | brk=>(obtain h:=hG h;subst h);obtain⟨rfl,rest⟩:=q;exact aw _ _ (iA rfl rest)
  | cont=>(obtain h:=hG h;subst h);obtain⟨rfl,rest⟩:=q;exact aw _ _ (iA rfl rest)
  | ret v=>(obtain h:=hG h;subst h);obtain⟨x,g',rfl,rest⟩:=q;exact aw _ _ (iEEA x g' rfl rest)
  | exc=>exact q.elim
 clear e1 hX aD eE
 cases fl with
 | nxt=>exact q.elim
 | brk=>exact q.elim
 | cont=>exact q.elim
 | ret v=>exact q.elim
 | exc=>
 refine AK λ Z zk=>KW (show(if Hy sc hb=true then _ else none)=some r from h) λ dK h=>exE3 q λ g1 X1 cH F1=>?_
 rw[hf]at F1
 refine zk (Fd X1 hf X.at'.dom (λ b hb=>cH.dom b hb) F1 λ s2 X2 m2 F2=>?_)
 have cq:=m2 g s rfl cH
 refine CW X2 X.at'.dom F2 λ s3 X3 m3 F3=>AK λ Z zk=>?_
 obtain b9:=m3 g s rfl cq
 clear X1 cH F1 m2 F2 X2 cq m3
 refine Jc (id F3) λ a oe vs T oT ts aa ma he bG hd rest=>?_;subst aa
 refine exE2 X3.at'.tp.ecl λ oC hC ob=>?_
 obtain hC3:=X3.at'.here.sub C _ hC
 obtain aO:∃ eH r,hb=eH::r:=by
  exact AK λ Z zk=>Ag h λ o h1 _=>Ag h1 λ st h2 _=>zk (RF st [] (one?_some h2))
 clear hC hc hd hf ma rest
 refine Ha aO λ eH rb hbe=>?_
 refine zk ?_
 refine rwE hbe (wpAny_handleBy_cons (codeAny_handlers_test (CN X3.at'.ok (B8 X3.at'.ok hg) (by decide +kernel) X3.at'.here.sub X3.at'.tp.fault ?_)) (by intro z;exact nc nG z (.refl false)))
 refine AK λ Z zk=>BU ob λ nm q N bs bm br sn sub ab cj dd k0 k1 k2 k3 k5 aZ aa c7=>?_;subst aa
 obtain⟨hp3,gg3,dd3,tk3,os3⟩:=s3
 refine zk ?_
 refine wpAny_excMatches_sub_self hC3 he bG c7 (codeAny_handlers_suite (CW (cur':=none) X3 X.at'.dom F3 λ s4 X4 m4 F4=>?_))
 exact rwS hbe (OR X4 (m4 g s rfl b9) dK h aw)
end
section
variable {fr:List Addr}
variable {E:Scope->R->hJ->Mo TV} {e:Value} {fl:Fl}
theorem BF.lvl(a:KX A d' fr)(X:BF w P sc J env A d fr ae af ac g O s):BF w P sc J env A d' fr ae af ac g O s:=
 ⟨⟨X.at'.ok,a,X.at'.here,X.at'.fro,X.at'.tp,X.at'.dom⟩,X.S,X.sub,X.frames,X.ck⟩
theorem stQ.lvl{f:Flow}(a:KX A d' fr)(q:stQ w P sc env A d fr ae af ac g s J' O' fl f s'):stQ w P sc env A d' fr ae af ac g s J' O' fl f s':=by
 cases fl with
 | nxt=>obtain⟨e,g',X,m⟩:=q;exact A8 e g' (X.lvl a) m
 | brk=>obtain⟨e,g',X,m⟩:=q;exact A8 e g' (X.lvl a) m
 | cont=>obtain⟨e,g',X,m⟩:=q;exact A8 e g' (X.lvl a) m
 | ret v=>exact q
 | exc=>exact q
theorem Gj.lvl(a:KX A d' fr)(q:Gj w P sc env A d fr ae af ac g s J' O' fl e s'):Gj w P sc env A d' fr ae af ac g s J' O' fl e s':=by
 cases fl with
 | exc=>obtain⟨g',X,m,F⟩:=q;exact iEAA g' (X.lvl a) m F
 | _=>exact q
theorem tgt?_some{ts:List hJ}{t:W4}(h:tgt? ts=some t):(∃ x p,t = .name x/\ts=[.Name x p])\/(∃ xs es k p,t = .names xs/\B0 es=some xs/\ts=[.Tuple es k p])\/(∃ x i p sp,t = .item x i/\ts=[.Subscript (.Name x p) i sp]):=by
 refine Ag h λ e h1 h=>rwE (one?_some h1) ?_
 clear h1
 cases hn:name? e with
 | some x=>
  rw[hn]at h
  refine qE (name?_some hn) λ p aa=>?_;exact rwE aa (.inl (iEEA x p ((hG h).symm) rfl))
 | none=>
  replace h:=hn▸h;dsimp only at h
  cases ht:tuple? e with
  | some es=>
   replace h:=ht▸h
   refine AY h λ xs h1 h2=>Ha (tuple?_some ht) λ k p aa=>?_;erw[aa]
   exact .inr (.inl (Ny xs es k p h2.symm h1 rfl))
  | none=>
   replace h:=ht▸h
   refine AY h λ q h1 h2=>?_
   clear h hn ht
   have:∃ p sp,e = .Subscript (.Name q.1 p) q.2 sp:=by
    refine Ag h1 λ c h3 h4=>AY h4 λ x h5 aa=>?_;subst aa
    refine qE (sub?_some h3) λ sp aa=>?_;subst aa
    exact qE (name?_some h5) λ p e1=>RF p sp (e1▸rfl)
   exact Ha this λ p sp aa=>rwE aa (.inr (.inr (Qa q.1 q.2 p sp h2.symm rfl)))
theorem JJ{e:hJ}(h:DN e=true):∃ p,e = .Dict [] [] p:=by
 refine qE ((jL).mp h) λ u h=>Ag h λ c h1 h2=>Cb h2 λ h3 _=>?_
 have h3:=(iR).mp h3
 refine qE (dict?_some h1) λ p e0=>⟨p,?_⟩
 rw[e0,isEmpty_is h3.1,isEmpty_is h3.2]
theorem KC{ts:List hJ}{e:hJ}{k:Nat}{p:Pos}{ln:Nat}(h:tuple? e=none):swapsWithSole [.Tuple ts k p] e ln env=pure false/\swappedStores [.Tuple ts k p] e env=pure none:=by
 cases e with
 | Tuple es k' p'=>cases h
 | _=>exact⟨rfl,rfl⟩
theorem hand?_some{hs:List ExceptHandler}{p:hV×List Stmt}(h:hand? hs=some p):∃ np hp,hs=[.ExceptHandler (some (.Name p.1 np)) none p.2 hp]:=by
 refine Ag h λ hd h1 h=>rwE (one?_some h1) ?_
 clear h1
 obtain⟨ty,nm,b,hp⟩:=hd
 refine KW (show(if nm.isNone=true then ty.bind λ e=>(name? e).map λ f=>(f,b) else none)=some p from h) λ h2 h=>Ag h λ e aa h=>rwE aa (AY h λ f h3 e0=>rwS e0 ?_)
 refine qE (name?_some h3) λ np aa=>?_;erw[aa]
 (first | (obtain rfl:=(jD).mp h2) | cases (jD).mp h2)
 exact RF np hp rfl
theorem Mt{ts:List hJ}{e:hJ}{q:Pos}{r:Fl×R×A4}(hE:Bp w P E d)(hU:TB w P E d)(X:BF w P sc J env A d fr ae af ac g O s)(h:(tgt? ts).bind (Ea E G.gl sc J O e)=some r) :
  wpAny (model prog w) A (exec (.Assign ts e q) env) (stQ w P sc env A d fr ae af ac g s r.2.1 r.2.2 r.1) (Gj w P sc env A d fr ae af ac g s r.2.1 r.2.2 r.1) s:=by
 replace h:=AA h;obtain⟨t,h1,h⟩:=h
 rcases tgt?_some h1 with ⟨x,p,rfl,rfl⟩| ⟨xs,es,k,p,rfl,bL,rfl⟩| ⟨x,i,p,sp,rfl,rfl⟩
 ·replace h:=BT h;obtain⟨kx,h⟩:=h
  cases hd:DN e with
  | true=>
   rw[hd]at h
   refine qE (JJ hd) λ dp aa=>rwE aa ?_
   (obtain h:=hG h;subst h)
   exact Sk X kx
  | false=>
   replace h:=hd▸h
   exact KW (show(if BI e=true then _ else none)=some r from h) λ hp h=>Oy hE hU X ((iR).mpr ⟨kx,hp⟩) h
 ·unfold Ea at h
  cases ht:tuple? e with
  | some fg=>
   replace h:=ht▸h
   refine Ha (tuple?_some ht) λ k' p' aa=>?_;erw[aa]
   obtain h:=BT h;obtain⟨hc,h⟩:=h
   exact Oj hE X bL hc h
  | none=>
   rw[ht]at h
   obtain h:=BT h;obtain⟨hc,h⟩:=h
   exact Rz hE X bL (KC ht).1 (KC (ln:=q.line) ht).2 hc h
 ·obtain h:=BT h;obtain⟨hc,h⟩:=h
  exact VK hE X hc h
theorem O6{e:hJ}{q:Pos}{r:Fl×R×A4}(hE:Bp w P E d)(X:BF w P sc J env A d fr ae af ac g O s)(h:Uk E sc J O e=some r) :
  wpAny (model prog w) A (exec (.Expr e q) env) (stQ w P sc env A d fr ae af ac g s r.2.1 r.2.2 r.1) (Gj w P sc env A d fr ae af ac g s r.2.1 r.2.2 r.1) s:=by
 have:∃ f as p,e = .Call f as [] p:=by
  cases e with
  | Call f as ks p=>cases ks with
   | nil=>exact SD f as p rfl
   | cons _ _=>exact none_some h
  | _=>exact none_some h
 obtain⟨f,as,p,rfl⟩:=this
 cases f with
 | Attribute o m ap=>
  refine AK λ Z zk=>Ag (show((name? o).bind _)=some r from h) λ x h1 h=>qE (name?_some h1) λ np aa=>?_;subst aa
  obtain h:=BT h;obtain⟨hc,h⟩:=h
  exact zk (US hE X hc h)
 | Name f np=>exact Tu hE X h
 | _=>exact none_some h
theorem Og{N:Nat}{st:Stmt}{r:Fl×R×A4}(hE:Bp w P E d)(hT:Ff w P T d)(hU:TB w P E d)(hX:LZ w P Xf d)(h3:3<=d)
  (X:BF w P sc J env A d fr ae af ac g O s) (h:exF E T Xf G.gl N sc J O st=some r) :
  wpAny (model prog w) A (exec st env) (stQ w P sc env A d fr ae af ac g s r.2.1 r.2.2 r.1) (Gj w P sc env A d fr ae af ac g s r.2.1 r.2.2 r.1) s:=by
 cases st with
 | Return e p=>
  replace h:=AA h;obtain⟨e,rfl,h⟩:=h
  exact Vy hE X h
 | Assign ts e q=>exact Mt hE hU X h
 | Expr e q=>exact O6 hE X h
 | If t b o p=>exact XZ hT hX X h
 | For tgt it body bk p=>
  replace h:=BT h;obtain⟨hc,h⟩:=h
  refine Bv ((iR).mp hc) λ hc hO=>?_
  (first | (obtain rfl:=isEmpty_is hc) | cases isEmpty_is hc)
  exact Wd hE hX X hO h
 | While t body bk p=>
  replace h:=BT h;obtain⟨hc,h⟩:=h
  (first | (obtain rfl:=isEmpty_is hc) | cases isEmpty_is hc)
  exact PS hT hX X h
 | Break p=>
  (obtain h:=hG h;subst h)
  exact rwE (arm_exec_Break ..) (i5 (kB (iI (A8 rfl g X .refl))))
 | Continue p=>
  (obtain h:=hG h;subst h)
  exact rwE (arm_exec_Continue ..) (i5 (kB (iI (A8 rfl g X .refl))))
 | Pass p=>
  (obtain h:=hG h;subst h)
  exact rwE (arm_exec_Pass ..) (i5 (kB (iI (A8 rfl g X .refl))))
 | Raise e c p=>
  replace h:=BT h;obtain⟨hc,h⟩:=h
  (first | (obtain rfl:=(jD).mp hc) | cases (jD).mp hc)
  refine AK λ Z zk=>?_
  replace h:=AA h;obtain⟨q,h1,h⟩:=h
  refine Ag h1 λ e aa h1=>?_;subst aa
  refine Ha (callName?_some h1) λ np cp aa=>?_;subst aa
  replace h:=BT h;obtain⟨hc,h⟩:=h
  exact zk (Qg hE h3 X hc h)
 | Try body hs bk fin p=>
  replace h:=BT h;obtain⟨hc,h⟩:=h
  refine Bv ((iR).mp hc) λ h1 h2=>?_
  (first | (obtain rfl:=isEmpty_is h1) | cases isEmpty_is h1);(first | (obtain rfl:=isEmpty_is h2) | cases isEmpty_is h2)
  replace h:=AA h;obtain⟨q,h3,h⟩:=h
  refine Ha (hand?_some h3) λ np hp aa=>?_;exact rwE aa (U2 hX X h)
 | _=>exact none_some h
theorem stQ.stop{f:Flow}(h:fl≠.nxt)(q:stQ w P sc env A d fr ae af ac g s J' O' fl f s'){b:List Stmt}{QE:Value->Shared->Prop}:wpAny (model prog w) A (match f with | .next=>execs b env | f=>pure f) (stQ w P sc env A d fr ae af ac g s J' O' fl) QE s':=by
 cases fl with
 | nxt=>exact absurd rfl h
 | brk=>obtain⟨rfl,rest⟩:=q;exact iI ⟨rfl,rest⟩
 | cont=>obtain⟨rfl,rest⟩:=q;exact iI (iA rfl rest)
 | ret v=>obtain⟨x,g',rfl,rest⟩:=q;exact iI (iEEA x g' rfl rest)
 | exc=>exact q.elim
theorem LJ{X1:R->A4->Stmt->St}(hS:∀ (st:Stmt) {J:R} {O:A4} {r:Fl×R×A4} {g:Gs} {s:Shared},BF w P sc J env A d fr ae af ac g O s->X1 J O st=some r ->
   wpAny (model prog w) A (exec st env) (stQ w P sc env A d fr ae af ac g s r.2.1 r.2.2 r.1) (Gj w P sc env A d fr ae af ac g s r.2.1 r.2.2 r.1) s) (b:List Stmt) :
  ∀ {J:R} {O:A4} {r:Fl×R×A4} {g:Gs} {s:Shared},BF w P sc J env A d fr ae af ac g O s->Ud X1 b J O=some r ->
   wpAny (model prog w) A (execs b env) (stQ w P sc env A d fr ae af ac g s r.2.1 r.2.2 r.1) (Gj w P sc env A d fr ae af ac g s r.2.1 r.2.2 r.1) s:=by
 induction b with
 | nil=>
  intro J O r g s X h
  (obtain h:=hG h;subst h)
  exact iI (A8 rfl g X .refl)
 | cons st rest ih=>
  intro J O r g s X h
  refine Ag h λ aa e1 h=>?_;obtain⟨fl,J1,O1⟩:=aa
  by_cases hf:fl = .nxt
  ·subst hf
   refine i5 (iG (hS st X e1) (λ f s1 q=>?_) λ _ _ q=>q.elim)
   exact El q λ aa g1 X1' mv=>rwE aa (iG (ih X1' h) (λ _ _ q=>q.after mv) λ _ _ q=>q.after mv)
  ·have hr:r=(fl,J1,O1):=by cases fl <;> first | exact absurd rfl hf | exact(hG h).symm
   exact rwE hr (i5 (iG (hS st X e1) (λ f s1 q=>q.stop hf) λ _ _ q=>q))
end
theorem Br{x:hV}:∀ (names:List (hV×NameKind)) (n:Nat) (acc:List (hV×Addr)),names.lookup x=some .cell\/(acc.lookup x).isSome=true->((cellsFrom n names acc).lookup x).isSome=true
 | [],_,acc,h=>h.elim (λ q=>by cases q) id
 | (y,k)::r,n,acc,h=>by
  unfold cellsFrom
  rw[jI]at h
  by_cases hk:(k==tP)=true
  ·erw[if_pos hk]
   refine Br r _ _ ?_
   erw[jI]
   by_cases hx:(x==y)=true
   ·right;erw[hx];rfl
   ·have cS:(x==y)=false:=by simpa using hx
    rw[cS]at h ⊢
    exact h
  ·refine rwE (if_neg hk) (Br r _ _ ?_)
   by_cases hx:(x==y)=true
   ·rw[hx]at h
    rcases h with h | h
    ·(obtain h:=hG h;subst h);exact absurd rfl hk
    ·exact .inr h
   ·have cS:(x==y)=false:=by simpa using hx
    rw[cS]at h
    exact h
theorem Iw{x:hV}{c:Addr}(names:List (hV×NameKind)):∀ (n:Nat) (acc:List (hV×Addr)),(x,c)∈cellsFrom n names acc->(x,tP)∈names\/(x,c)∈acc:=by
 induction names with
 | nil=>intro _ acc h;exact .inr h
 | cons p r ih=>
  intro n acc h
  obtain⟨y,k⟩:=p
  by_cases hk:(k==tP)=true
  ·unfold cellsFrom at h;rw[if_pos hk]at h
   refine jP (ih _ _ h) (λ q=>?_) λ q=>?_
   ·exact .inl (i9 _ q)
   ·refine jP ((iJ).mp q) (λ q=>?_) λ q=>?_
    ·cases q;erw[beq_iff_eq.mp hk];exact .inl i8
    ·exact .inr q
  ·unfold cellsFrom at h;rw[if_neg hk]at h
   refine jP (ih _ _ h) (λ q=>?_) λ q=>?_
   ·exact .inl (i9 _ q)
   ·exact .inr q
theorem bindL_get{k:hV->Option NameKind}:∀ {ps:List hV} {ys:List Value} {m:hV->Option Value} {x:hV} {y:Value},ps.Nodup->(x,y)∈ps.zip ys->k x=some .local->bindL k (ps.zip ys) m x=some y:=by
 obtain other:∀ {ps:List hV} {ys:List Value} {m:hV->Option Value} {x:hV},x ∉ ps->bindL k (ps.zip ys) m x=m x:=by
  intro ps
  induction ps with
  | nil=>intro ys m x _;rfl
  | cons p r ih=>
   intro ys m x hx
   cases ys with
   | nil=>rfl
   | cons y ys=>
    (erw[lM];rw[bindL];erw[ih (λ q=>hx (i9 _ q))])
    split
    ·exact if_neg (fun(q:x=p)=>hx (by erw[q];exact i8))
    ·rfl
 intro ps
 induction ps with
 | nil=>intro ys m x y _ h;simp at h
 | cons p r ih=>
  intro ys m x y hn h hk
  cases ys with
  | nil=>simp at h
  | cons y0 ys=>
   rw[lM]at h ⊢
   rw[lL]at hn
   rw[bindL]
   refine jP ((iJ).mp h) (λ q=>?_) λ q=>?_
   ·clear h
    cases q
    (refine i7 (other hn.1) (rwE (if_pos hk) ?_);exact BX rfl rfl)
   ·exact ih hn.2 q hk
theorem Oz{k:hV->Option NameKind}:∀ {ps:List hV} {ys:List Value} {m:hV->Option Value} {x:hV} {y:Value},ps.Nodup->(x,y)∈ps.zip ys->k x=some .cell->bindC k (ps.zip ys) m x=some y:=by
 obtain other:∀ {ps:List hV} {ys:List Value} {m:hV->Option Value} {x:hV},x ∉ ps->bindC k (ps.zip ys) m x=m x:=by
  intro ps
  induction ps with
  | nil=>intro ys m x _;rfl
  | cons p r ih=>
   intro ys m x hx
   cases ys with
   | nil=>rfl
   | cons y ys=>
    (erw[lM];rw[bindC];erw[ih (λ q=>hx (i9 _ q))])
    split
    ·rfl
    ·exact if_neg (fun(q:x=p)=>hx (by erw[q];exact i8))
 intro ps
 induction ps with
 | nil=>intro ys m x y _ h;simp at h
 | cons p r ih=>
  intro ys m x y hn h hk
  cases ys with
  | nil=>simp at h
  | cons y0 ys=>
   rw[lM]at h ⊢
   rw[lL]at hn
   rw[bindC]
   refine jP ((iJ).mp h) (λ q=>?_) λ q=>?_
   ·clear h
    cases q
    (refine i7 (other hn.1) (rwE (if_neg (by erw[hk];decide)) ?_);exact BX rfl rfl)
   ·exact ih hn.2 q hk
section
variable {fr:List Addr}
variable {E:Scope->R->hJ->Mo TV} {e:Value} {fl:Fl}
theorem Fv{x:hV}{sl:Slot}{ps:List hV}:∀ {us:List V} {ys:List Value},AF w P g us ys->us.length=ps.length->(ps.zip (us.map .val)).lookup x=some sl->∃ u y,sl = .val u/\(x,y)∈ps.zip ys/\Rep w P g u y:=by
 induction ps with
 | nil=>intro us ys _ _ h;exact none_some h
 | cons p ps ih=>
  intro us ys r hl h
  cases r with
  | nil=>cases hl
  | cons a b=>
  replace h:=eqL jI (lM▸(iW▸h))
  cases hq:x==p with
  | true=>
   rw[hq]at h
   (obtain h:=hG h;subst h)
   exact CL _ _ rfl (by erw[beq_iff_eq.mp hq];exact i8) a
  | false=>
   rw[hq]at h
   exact QW (ih b (oA hl) h) λ u' y' e m r=>CL u' y' e (i9 _ m) r
theorem II{fd:Ev}{a:Addr}{q:hV}{code:Value}{us:List V}{ys:List Value}(H:AP w P fr g O s)(T:Tp w P g)(b6:KX A (d+1) fr)(bi:fd.ok=true)(hl:us.length=fd.params.length)(rl:AF w P g us ys)
  (he:env=newEnv fd.scope s.heap.objs.size mainGlobals (cellsFrom (s.heap.objs.size+1) fd.scope.names []) q (some a) code none builtinsNs)
  (x:InCallC s env.locals (bindL env.kindOf (fd.params.zip ys) λ _=>none) env.cells (bindC env.kindOf (fd.params.zip ys) λ _=>none) s1) :
  BF w P fd.scope (fd.params.zip (us.map .val)) env (A.deeper env) d (s.heap.objs.size::fr) fr g s g O s1:=by
 refine AK λ Z zk=>?_
 unfold Ev.ok at bi
 simp only[iC,beq_iff_eq,jO,decide_eq_true_eq,jJ,kT,bne_iff_ne]at bi
 refine qA bi λ aa k6=>?_;obtain⟨⟨⟨⟨k1,k2⟩,k3⟩,k4⟩,k5⟩:=aa
 have bY:env.locals=s.heap.objs.size:=by erw[he];rfl
 have aQ:env.cells=cellsFrom (s.heap.objs.size+1) fd.scope.names []:=by erw[he];rfl
 have aG:∀ y,env.kindOf y=fd.scope.names.lookup y:=λ y=>by erw[he];rfl
 obtain⟨⟨ct,bH,bb,hfresh⟩,bB,fZ,d9⟩:=x
 refine Ha ct λ h1 t1 aa=>?_;subst aa
 have fL:s.heap.get? env.locals=none:=by erw[bY];exact Ak _
 have mL:=H.new fL
 have S:=H.keeps (t':=t1) bb
 have H1:=H.step S
 obtain fc:=λ y c hc=>by
  have:=d9 y c (mem_of_lookup hc)
  rw[bY]at this
  exact l9 (jB this)
 obtain kc:∀ y c,env.cells.lookup y=some c->env.kindOf y=some .cell\/env.kindOf y=some .free:=λ y c hc=>by
  rw[aQ]at hc
  refine jP (Iw _ _ _ (mem_of_lookup hc)) (λ z=>?_) λ z=>?_
  ·left
   exact i7 (aG ..) ((k6 _ z).2.resolve_left (by simp))
  ·cases z
 obtain fro:FrOK w P env (s.heap.objs.size::fr) (fd.params.zip (us.map .val)) g h1 s.heap:=by
  refine⟨⟨fL,mL.out,mL.nopen,_,bH⟩,λ y ky=>?_,λ y z c hy hz=>?_,λ y sl hy ky=>?_,λ y z sy sz b hy hz oy=>?_,λ y sl b hy oy=>?_⟩
  ·have:env.kindOf y=some .cell:=by
    refine jP ky (λ z=>?_) λ z=>?_
    ·exact z
    ·rw[aG]at z
     exact absurd rfl (k6 _ (lookup_mem z)).1
   rw[aG]at this
   refine qE ((jL).mp (Br fd.scope.names (s.heap.objs.size+1) [] (.inl this))) λ c hc=>?_
   rw[<-aQ]at hc
   obtain mc:=H.new (fc y c hc)
   exact Dn c hc mc.new mc.out mc.nopen _ (bB y c hc)
  ·exact name_of_addr fZ (mem_of_lookup hy) (mem_of_lookup hz)
  ·refine Ca (Fv rl hl hy) λ u yv aa hm r=>rwE aa (iEA yv ?_ r)
   obtain hp:=(q8 hm).1
   refine jP (k5 y hp) (λ q=>?_) λ q=>?_
   ·have kl:env.kindOf y=some .local:=by exact i7 (aG ..) q
    exact .inl (A8 kl _ bH (bindL_get k4 hm kl))
   ·have kcl:env.kindOf y=some .cell:=by exact i7 (aG ..) q
    refine qE ((jL).mp (Br fd.scope.names (s.heap.objs.size+1) [] (.inl q))) λ c hc=>?_
    rw[<-aQ]at hc
    refine .inr (A8 (.inl kcl) c hc ?_)
    have:=bB y c hc
    rw[Oz k4 hm kcl]at this
    exact this
  ·refine It (Fv rl hl hy) λ u yv aa au=>?_;subst aa;have _:=au
   exact fls oy
  ·refine It (Fv rl hl hy) λ u yv aa au=>?_;subst aa;have _:=au
   exact fls oy
 refine exE3 b6.frames λ l dN cP e_=>?_
 obtain hfr:env.frame=some s.heap.objs.size:=by erw[he];rfl
 refine zk ?_
 refine⟨⟨⟨λ y=>.inl (aG y),by erw[he];exact k1,by erw[he];rfl,by erw[he];rfl⟩,⟨b6.handled,?_,?_,env::l,?_,?_,?_⟩,⟨H1.sub,H1.pen,?_⟩,fro,T,λ b hb=>S.so.dom b hb⟩,S,?_,⟨l,?_⟩,kc⟩
 ·obtain this:=b6.depth
  exact iQ (j7 (kI ..)) this
 ·obtain this:=b6.units
  exact iQ (hZ (j7 (kI ..)) (j5 (by decide:3<=8) _)) this
 ·show A.frames.map (env::·)=_
  erw[dN];rfl
 ·(erw[mQ,hfr];exact rwE cP rfl)
 ·intro e he'
  refine jP ((iJ).mp he') (λ z=>?_) λ z=>?_
  ·exact rwE z (iA (by erw[he];show fd.scope.kind≠_;erw[k1];decide) (by erw[hfr];rfl))
  ·exact e_ e z
 ·intro L hL
  refine jP ((iJ).mp hL) (λ z=>?_) λ z=>?_
  ·refine rwE z (BJ bH λ o es ep ho hd _=>?_)
   rw[bY]at ho
   exact rwS bY (EY mL.out mL.nopen o es ep (by erw[bY];exact ho) hd)
  ·exact H1.frs L z
 ·intro b hb
  refine jP ((iJ).mp hb) (λ z=>?_) λ z=>?_
  ·right;erw[z];exact Ak _
  ·exact .inl z
 ·show A.frames.map (env::·)=_
  erw[dN];rfl
theorem SE{f:hV}{vs:List V}{o:Out V}(h:cl (d+1) f vs O=some (o,O')):∃ fd J r,G.fn f=some fd/\bindA fd vs=some J/\exs d fd.scope J fd.body O=some r/\outF (some r)=some (o,O'):=by
 unfold cl at h
 cases b8:G.fn f with
 | none=>rw[b8]at h;exact none_some h
 | some fd=>
 replace h:=b8▸h;dsimp only at h
 cases hb:bindA fd vs with
 | none=>replace h:=hb▸h;exact none_some h
 | some J=>
 replace h:=hb▸h;dsimp only at h
 cases hx:exs d fd.scope J fd.body O with
 | none=>replace h:=hx▸h;exact none_some h
 | some r=>replace h:=hx▸h;exact CH fd J r rfl hb hx h
theorem L6(hX:LZ w P (exs d) d'):QI w P (cl (d+1)) (d'+1):=by
 intro f vs O O' o h a xs b7 A fr g s b6 H T gn rl
 refine AK λ Z zk=>Bj (SE h) λ fd J r b8 hb hx h=>CQ (T.fn f fd b8) λ a' dv _ ob aq ga be aO aE ca dO cW cX bi ay=>?_
 have:a'=a:=by
  refine exE2 (gn s.heap H.sub) λ m1 n1 e1=>exE2 (dv s.heap H.sub) λ m2 n2 e2=>?_
  have:=Gp n1 n2
  clear gn dv b8 n1 n2
  subst this
  replace e2:=eqL e1 e2;cases e2;rfl
 subst this
 have bV:=bi
 unfold Ev.ok at bV
 simp only[iC,beq_iff_eq,jO,decide_eq_true_eq,jJ,kT,bne_iff_ne]at bV
 refine qA bV λ aa k6=>?_;obtain⟨⟨⟨⟨k1,k2⟩,k3⟩,k4⟩,k5⟩:=aa
 refine Bv (cX s.heap H.sub) λ bp dh=>A7 (ay g s vs xs J (λ _ _ q=>q) H.sub rl hb) λ us ys aa hl dT de=>?_;subst aa
 refine zk (uR (qQ (by obtain this:=b6.depth;have:recursionLimit=1000:=rfl;exact jK (iQ (jF _ _) (by assumption)) (this.symm▸(by decide:900<=1000))) (H.sub _ _ ga) be (by erw[aE];exact k2) (by erw[aE];exact k3) aO dh (de _ _ _ _ ?_)))
 (erw[aE,ca];erw[cW,dO])
 refine oM k1 (λ x hx=>?_) λ env he s1 x=>?_
 ·have hp:=(q8 hx).1
  refine jP (k5 x.1 hp) (λ q=>?_) λ q=>?_
  ·exact .inl q
  ·exact .inr (iA q (Br _ _ _ (.inl q)))
 refine iA (bp.keeps x.toInCall.keep) (codeAny_func ?_)
 have R0:=II (d:=d') H T b6 bi hl dT he x
 have hf:env.frame=some s.heap.objs.size:=by erw[he];rfl
 obtain⟨fl,J1,O1⟩:=r
 refine iG (hX fd.scope _ fd.body O O1 fl J1 hx env (A.deeper env) _ fr g s g s1 R0) (λ fw s2 q=>?_) λ e s2 q=>?_
 ·cases fl with
  | nxt=>
   refine AK λ Z zk=>?_
   cases h
   refine El q λ aa g2 X2 _=>?_;subst aa
   exact zk (iEA g2 X2.S .none)
  | ret v=>
   refine AK λ Z zk=>?_
   clear H T b6 ga gn dv hX ay aO de dO dh cW be he b8 ca hl bp bi aE cX hx k1 k2 k3 k4 k5 k6 rl dT x
   cases h
   refine It q λ xv g2 aa au=>?_;subst aa;exact qA au λ S2 r2=>zk (iEA g2 S2 r2)
  | brk=>exact none_some h
  | cont=>exact none_some h
  | exc=>exact q.elim
 ·cases fl with
  | exc=>
   refine AK λ Z zk=>?_
   cases h
   refine exE3 q λ g2 X2 cq F2=>?_
   replace F2:=hf▸F2
   obtain F3:=F2.older λ b e=>by
    cases z:s.heap.get? b with
    | none=>rfl
    | some o=>exact absurd e (R0.S.so.dom b (Am z))
   refine zk (i5 (Fd X2 hf (λ b hb=>hb) (λ b hb=>X2.S.so.dom b hb) F3 λ s3 X3 m3 F3'=>?_))
   refine CW (cur':=none) X3 (λ b hb=>hb) F3' λ s4 X4 m4 F4=>?_
   refine Cj F4 λ a4 oe vs4 T4 oT ts aa ma he4 gP gI fh dr mT hT4 cC alt=>rwE aa ⟨g2,X4.S,a4,oe,vs4,rfl,⟨ma.new,ma.out,ma.nopen,λ z=>ma.nofr (i9 _ z)⟩,he4,gP,gI,.inr ⟨T4,oT,ts,fh,dr,⟨mT.new,mT.out,mT.nopen,λ z=>mT.nofr (i9 _ z)⟩,hT4,cC,?_⟩⟩
   rcases alt with z | ⟨_,z,_⟩
   ·exact .inl z
   ·exact none_some z
  | _=>exact q.elim
noncomputable def KV:List (List Nat×Int)->List (Value×Value)->Prop
 | [],[]=>True
 | (k,i)::r,(x,y)::r'=>(∃ t,x = .str ⟨k.toArray⟩ t)/\(∃ u,y = .int i u)/\KV r r'
 | _,_=>False
theorem Jr{k:Option hJ}{ks:List (Option hJ)}{v:hJ}{vs:List hJ}{l:List (List Nat×Int)}(h:Ec (k::ks) (v::vs)=some l) :
  ∃ s i r a p b q,k=some (.Constant (.str s) a p)/\v = .Constant (.int i) b q/\Ec ks vs=some r/\l=(s.cps.toList,i)::r:=by
 refine AK λ Z zk=>Ag h λ s h1 h=>Ag h λ i h2 h=>AY h λ r h3 e0=>?_;subst e0
 clear h
 refine Ag h1 λ e aa h1=>?_;subst aa
 clear h
 refine Ha (Iu h1) λ a p aa=>?_;subst aa
 clear h h1
 refine Ha (CD h2) λ b q aa=>?_;subst aa
 exact zk ⟨s,i,r,a,p,b,q,rfl,rfl,h3,rfl⟩
theorem Vr{pos:Pos}{ks:List (Option hJ)}:∀ {vs:List hJ} {l:List (List Nat×Int)},Ec ks vs=some l ->
  (∀ {s:Shared} {Q:List (Value×Value)->Shared->Prop},(∀ vals t',KV l vals->Q vals {s with toks:=t'})->wpAny (model prog w) A (evalPairs (pairTrees ks vs env pos)) Q EE s)/\ks.all (·.isSome)=true/\ks.length=vs.length/\ks.length=l.length:=by
 induction ks with
 | nil=>
  intro vs l h
  cases vs with
  | nil=>(obtain h:=hG h;subst h);exact GL (fun {s Q} hQ=>pairTrees_nil_walk (hQ [] s.toks trivial)) rfl rfl rfl
  | cons _ _=>exact none_some h
 | cons k ks ih=>
  intro vs l h
  cases vs with
  | nil=>exact none_some h
  | cons v vs=>
  refine AK λ Z zk=>Ka (Jr h) λ s i r a p b q aa al h1 e2z=>?_;subst aa;subst al;subst e2z
  refine GV (ih h1) λ i0 i1 i2 i3=>zk (GL (fun {s Q} hQ=>pairTrees_cons_walk (s7 (n8 (i0 λ vals t' hv=>?_)))) i1 (congrArg (·+1) i2) (congrArg (·+1) i3))
  exact hQ _ t' (iAA ⟨_,rfl⟩ ⟨_,rfl⟩ hv)
theorem Ve{l:List (List Nat×Int)}:∀ {vals:List (Value×Value)},KV l vals->allStrKeys vals=true/\(strPairs vals).map (·.1)=l.map (λ p=>(⟨p.1.toArray⟩:hV)) /\
  ∀ {s:List Nat} {i:Int},FJ l s=some i->∃ u,valueAt (strPairs vals) ⟨s.toArray⟩=some (.int i u):=by
 induction l with
 | nil=>intro vals h;cases vals with
  | nil=>exact iAA rfl rfl (λ h=>by cases h)
  | cons _ _=>exact h.elim
 | cons p r ih=>intro vals h;cases vals with
  | nil=>exact h.elim
  | cons p' r'=>
   obtain⟨k,i⟩:=p
   obtain⟨x,y⟩:=p'
   obtain⟨⟨t,rfl⟩,⟨u,rfl⟩,h⟩:=h
   refine WW (ih h) λ a1 a2 a3=>iAA a1 (by(rw[strPairs];refine i7 iW (rwE a2 ?_));rfl) (fun {s j} hg=>?_)
   unfold FJ at hg
   rw[pY]at hg
   unfold valueAt
   (rw[strPairs];erw[pY])
   by_cases q:s=k
   ·subst q
    rw[decide_eq_true rfl]at hg ⊢
    (obtain hg:=hG hg;subst hg)
    exact⟨u,rfl⟩
   ·obtain q':(⟨k.toArray⟩:hV)≠⟨s.toArray⟩:=λ z=>q (ML z.symm)
    rw[decide_eq_false q]at hg
    exact rwE (decide_eq_false q') (a3 hg)
theorem Px{ks:List (Option hJ)}{vs:List hJ}{x:hV}{dp np p:Pos}{o:Out TV}(X:At w P sc J env A d fr g ah O s)
  (h:(match Ec ks vs with
   | some l=>if (l.map (fun(p:List Nat×Int)=>p.1)).Nodup/\l.length<=15/\l≠[] then Mo.lift ((E8 G.gl sc J x).bind fun(t:TV)=>t.1.str?.bind λ s=>(FJ l s).map λ i=>(V.int i,HQ.val)) else .fail
   | none=>.fail) O=some (o,O')) :
  wpAny (model prog w) A (eval (.Subscript (.Dict ks vs dp) (.Name x np) p) env) (okQ w P fr g O' s o) EE s:=by
 cases hl:Ec ks vs with
 | none=>replace h:=hl▸h;exact none_some h
 | some l=>
 rw[hl]at h;dsimp only at h
 by_cases hc:(l.map (fun(p:List Nat×Int)=>p.1)).Nodup/\l.length<=15/\l≠[]
 case neg=>replace h:=(if_neg hc)▸h;exact none_some h
 replace h:=(if_pos hc)▸h
 refine BG (AC h) λ t e1 aa al=>rwE aa (rwE al ?_)
 refine Ag e1 λ tn e2 e3=>Subscript_ ?_
 refine GV (Vr (w:=w) (A:=A) (env:=env) (EE:=EE) (pos:=dp) hl) λ k0 k1 k2 k3=>wpAny_Dict_walk (knd:=strKind prog w) k1 k2 (λ z=>hc.2.2 (by replace k3:=z▸k3;exact (tG).mp k3.symm)) (by erw[k3];exact hc.2.1) (k0 λ vals t' kv=>?_)
 refine Nt (Ve kv) λ v1 v2 v3=>?_
 refine display_done_str v1 ?_ (rN _) λ h' hd sb=>?_
 ·erw[v2]
  have:=hc.1
  erw[(show l.map (λ p=>(⟨p.1.toArray⟩:hV))=(l.map (λ p=>p.1)).map (λ k=>(⟨k.toArray⟩:hV)) by refine rwE jR ?_;rfl)]
  refine List.Pairwise.map _ (λ a b hab z=>hab ?_) this
  have:=congrArg (λ z=>z.cps.toList) z
  simpa using this
 have hk:∀ b o,s.heap.get? b=some o->h'.get? b=some o:=λ b o e=>(sb.2 b (λ q=>by replace e:=eqL (Ak ..) (q▸e);exact none_some e)).trans (Av _ _ _ _ e)
 have S1:=X.here.keeps (t':=t'+vals.length) hk
 have X1:=X.step S1
 refine HY X1 e2 λ v rv=>?_
 obtain vw:=rv.vw X1.here.sub
 refine Ag e3 λ sv h1 e4=>AY e4 λ i hi e0=>rwS e0 ?_
 replace vw:=(V.str?_some h1)▸vw
 refine A9 vw.str λ u aa au=>rwE aa ?_;have _:=au
 refine qE (v3 hi) λ uu hv=>tH hd.typeIs slot_dict_getitem.lookup ?_ (AU rfl _ _)
 exact wpAny_getItem_of (strKind_is prog w _ u) hd.mapOf hv (OpQ.after S1 (OpQ.flat X1.here (.int _ _)))
theorem Pj{k v:Int}{a b:Nat}{p q r:Pos}(X:At w P sc J env A d fr g ah O s) :
  wpAny (model prog w) A (eval (.Dict [some (.Constant (.int k) a p)] [.Constant (.int v) b q] r) env) (okQ w P fr g O s (.ok (.idict [(k,v)],.val))) EE s:=by
 refine wpAny_Dict_walk (knd:=intKind prog w) rfl rfl (by simp) (by simp) (pairTrees_cons_walk (n8 (n8 (pairTrees_nil_walk ?_))))
 refine display_done_int rfl (by simp[intKeyPairs]) (rN _) λ h' hd sb=>?_
 have hk:∀ b o,s.heap.get? b=some o->h'.get? b=some o:=λ b o e=>(sb.2 b (λ q=>by replace e:=eqL (Ak ..) (q▸e);exact none_some e)).trans (Av _ _ _ _ e)
 exact exE2 ((pU).mp hd) λ o ho hi=>iEA _ (X.here.keepsPut (t':=_) hk (Ak _) ho) (.idict Ch hi (iAA rfl ⟨_,rfl⟩ trivial) (X.tp.sys X.here.sub))
theorem Js{i:hJ}{lo hi:Option hJ}(q:D8 i=some (lo,hi)):∃ pp,i = .Slice lo hi none pp:=by
 refine Ag q λ c h1 q=>Cb q λ h e=>?_
 cases e
 refine qE (slice?_some h1) λ p e0=>⟨p,?_⟩
 rw[e0,(jD).mp h]
theorem genAt_some{gs:List Comprehension}{a b:hJ}{c:List hJ}(q:HA gs=some (a,b,c)):gs=[⟨a,b,c,0⟩]:=by
 refine Ag q λ g h1 q=>Cb q λ h2 e=>?_
 clear q
 obtain⟨t,i,f,k⟩:=g
 clear q
 cases e
 cases (show k=0 from h2)
 exact one?_some h1
theorem Kx{o i:hJ}{ks:List (Option hJ)}{vs:List hJ}{x:hV}(q:Ig o i=some (ks,vs,x)):∃ dp np,o = .Dict ks vs dp/\i = .Name x np:=by
 refine Ag q λ c h1 q=>AY q λ y h2 e=>?_
 cases e
 exact qE (dict?_some h1) λ p e0=>qE (name?_some h2) λ np e1=>iEEA p np e0 e1
theorem dict1?_some{ks:List (Option hJ)}{vs:List hJ}{p:Int×Int}(h:dict1? ks vs=some p):∃ a q b r,ks=[some (.Constant (.int p.1) a q)]/\vs=[.Constant (.int p.2) b r]:=by
 refine AK λ Z zk=>Ag h λ k h1 h=>Ag h λ i h2 h=>AY h λ j h3 e0=>?_;subst e0
 refine Ag h2 λ e aa h2=>?_;subst aa
 refine Ag h3 λ v h4 h3=>?_
 clear h
 refine Ha (CD h2) λ a q aa=>?_;subst aa
 refine Ha (CD h3) λ b r aa=>?_;subst aa
 exact zk (Qa a q b r (one?_some h1) (one?_some h4))
theorem E2{α:Type}{b:Bool}{m:Mo α}{r:Out α×A4}(h:(if b=true then m else Mo.fail) O=some r):b=true/\m O=some r:=by
 cases b with
 | true=>exact⟨rfl,h⟩
 | false=>exact none_some h
theorem Qy{kn:hV->Bool}{f:hJ}{as:List hJ}{ks:List Keyword}{p:Pos}{o:Out TV}(hE:Bp w P E d)(hC:QI w P Cf d)(hk:∀ f,kn f=true->(G.fn f).isSome=true)
  (X:At w P sc J env A d fr g ah O s) (h:Sn E T Cf kn G.gl sc J (.Call f as ks p) O=some (o,O')) :
  wpAny (model prog w) A (eval (.Call f as ks p) env) (okQ w P fr g O' s o) (exQ w P fr env.frame g O' s o) s:=by
 cases ks with
 | cons _ _=>exact none_some h
 | nil=>cases f with
  | Name f np=>exact SP hE hC hk X h
  | Attribute ob m ap=>
   obtain⟨hc,h⟩:=E2 h
   exact NS hE X hc h
  | _=>exact none_some h
theorem Tk{kn:hV->Bool}{ob i:hJ}{p:Pos}{o:Out TV}(hE:Bp w P E d)
  (X:At w P sc J env A d fr g ah O s) (h:Sn E T Cf kn G.gl sc J (.Subscript ob i p) O=some (o,O')) :
  wpAny (model prog w) A (eval (.Subscript ob i p) env) (okQ w P fr g O' s o) (exQ w P fr env.frame g O' s o) s:=by
 unfold Sn at h;dsimp only at h
 cases q:D8 i with
 | some r=>
  obtain⟨lo,hi⟩:=r
  refine qE (Js q) λ pp aa=>rwE aa ?_
  replace h:=q▸h
  exact Pi hE X h
 | none=>
  replace h:=q▸h;dsimp only at h
  cases q2:Ig ob i with
  | some r=>
   obtain⟨ks,vs,x⟩:=r
   refine It (Kx q2) λ dp np aa au=>rwE aa (rwE au ?_)
   replace h:=q2▸h
   exact Px X h
  | none=>
   replace h:=q2▸h
   exact qA (E2 h) λ hn h=>RM hE X hn h
theorem Ot{kn:hV->Bool}{e:hJ}{o:Out TV}(hE:Bp w P E d)(hT:Ff w P T d)(hC:QI w P Cf d)(hk:∀ f,kn f=true->(G.fn f).isSome=true)
  (X:At w P sc J env A d fr g ah O s) (h:Sn E T Cf kn G.gl sc J e O=some (o,O')) :
  wpAny (model prog w) A (eval e env) (okQ w P fr g O' s o) (exQ w P fr env.frame g O' s o) s:=by
 cases e with
 | Constant c k p=>exact Qw X h
 | Name x p=>exact RZ X h
 | BinOp l op r p=>exact Qr hE X h
 | UnaryOp op e p=>cases op with
  | USub=>exact Vj hE X h
  | _=>exact none_some h
 | IfExp t a b p=>exact Po hE hT X h
 | BoolOp op es p=>exact Th hE _ X h
 | Compare l ops rs p=>
  exact qA (E2 h) λ hs h=>Mm hE X hs h
 | Call f as ks q=>exact Qy hE hC hk X h
 | Subscript ob i p=>exact Tk hE X h
 | List es p=>
  exact qA (E2 h) λ hs h=>T5 hE X hs h
 | Tuple es k p=>
  exact qA (E2 h) λ hs h=>Pw hE X hs h
 | ListComp elt az csc p=>
  cases q:HA az with
  | some r=>
   obtain⟨tgt,it,ifs⟩:=r
   (first | (obtain rfl:=genAt_some q) | cases genAt_some q)
   exact S7 hE hT X h
  | none=>
   unfold Sn at h;dsimp only at h
   rw[q]at h;exact none_some h
 | Dict ks vs p=>
  refine AK λ Z zk=>BG (AC h) λ t h1 aa al=>?_;subst aa;subst al
  refine AY h1 λ q h2 aa=>?_;subst aa
  clear h1 hC hE hT hk
  refine Vd (dict1?_some h2) λ a q' b r aa al=>?_;subst aa;subst al
  exact zk (Pj X)
 | _=>exact none_some h
theorem N4{e:hJ}{o:Out Bool}(hE:Bp w P E d)(hT:Ff w P T d)(X:At w P sc J env A d fr g ah O s)(h:XO E T sc J e O=some (o,O')) :
  wpAny (model prog w) A (isTrue e env (eval e env)) (tsQ w P fr g O' s o) (exQ w P fr env.frame g O' s o) s:=by
 cases e with
 | UnaryOp op x p=>cases op with
  | Not=>exact WP hT X h
  | _=>exact Ky hE X rfl h
 | BoolOp op es p=>exact Vu hT es X h
 | IfExp a b c p=>exact none_some h
 | Compare l ops rs p=>
  exact Bv (E2 h) λ hs h=>K5 hE X hs h
 | _=>exact Ky hE X rfl h
theorem Om{kn:hV->Bool}(hE:Bp w P E d)(hT:Ff w P T d){elt:hJ}{az:List Comprehension}{csc:Scope}{pos:Pos}{o:Out TV}
  (X:At w P sc J env A d fr g ah O s) (h:Sn E T Cf kn G.gl sc J (.ListComp elt az csc pos) O=some (o,O')) {u:Value->Sem Unit} {Q:Unit->Shared->Prop}
  (hQ:∀ s' g' L D ys,o = .ok (.lst ys,.fresh)->ys.length<=Ae->CF w P fr g s L D g' O' s' ys ->
   wpAny (model prog w) A (u (.ref D)) (λ _ aY=>∃ m,aY.heap.Ns L m/\∀ h',k7 L aY.heap h'->Q () {aY with heap:=h'}) (exQ w P fr env.frame g O' s o) s') :
  wpAny (model prog w) A (evalThenUse (.ListComp elt az csc pos) env u) Q (exQ w P fr env.frame g O' s o) s:=by
 refine AK λ Z zk=>?_
 have:∃ tgt it ifs,HA az=some (tgt,it,ifs):=by
  cases q:HA az with
  | some r=>exact SD _ _ _ rfl
  | none=>unfold Sn at h;dsimp only at h;rw[q]at h;exact none_some h
 refine BA this λ tgt it ifs q=>?_
 obtain this:=genAt_some q
 subst this
 unfold Sn at h
 dsimp only at h
 replace h:=q▸h
 dsimp only at h
 refine zk ?_
 cases hO:Db sc csc tgt&&(J.lookup (".0" : hV)).isNone with
 | false=>rw[hO]at h;exact none_some h
 | true=>
 rw[hO]at h
 refine rwE (arm_evalThenUse_ListComp ..) (i5 (iG (JX (use:=some u) (Q:=λ _ s'=>Q () s') hE hT X hO h λ s' g' L D ys ho hz cf=>hQ s' g' L D ys ho hz cf) (λ _ _ q=>iI q) λ _ _ q=>q))
end
structure Yh(w:World)(P:Option Addr)(d:Nat):Prop where
 ev:Bp w P (ev d) (d+3)
 ts:Ff w P (Bf d) (d+3)
 eu:TB w P (Mine.ev d) (d+3)
 xs:LZ w P (exs d) (d+3)
 cl:QI w P (Mine.cl d) (d+3)
theorem Jl(w:World)(P:Option Addr):∀ d,Yh w P d
 | 0=>by
  refine⟨λ sc J e O O' o h=>?_,λ sc J e O O' o h=>?_,λ sc J elt az csc pos O O' o h=>?_,λ sc J b O O' fl J' h=>?_,λ f vs O O' o h=>?_⟩
  all_goals (first | (unfold ev at h;exact none_some h;done) | (unfold Bf at h;(first | exact none_some h | exact fls h | (obtain h:=hG h;subst h) | exact nc V.ctorIdx h (.refl false) | cases h);done) | (unfold exs at h;(first | exact none_some h | exact fls h | (obtain h:=hG h;subst h) | exact nc V.ctorIdx h (.refl false) | cases h);done) | (unfold cl at h;(first | exact none_some h | exact fls h | (obtain h:=hG h;subst h) | exact nc V.ctorIdx h (.refl false) | cases h);done))
 | d+1=>by
  obtain A:=Jl w P d
  refine⟨λ sc J e O O' o h env A0 fr g ah s X=>?_,λ sc J e O O' o h env A0 fr g ah s X=>?_,λ sc J elt az csc pos O O' o h env A0 fr g ah s X u Q hQ=>?_,λ sc J b O O' fl J' h env A0 fr ae af ac g s X=>?_,?_⟩
  ·unfold ev at h
   exact Ot A.ev A.ts A.cl (λ f q=>q) (X.le (m8 _)) h
  ·unfold Bf at h
   exact N4 A.ev A.ts (X.le (m8 _)) h
  ·unfold ev at h
   exact Om A.ev A.ts (X.le (m8 _)) h hQ
  ·unfold exs at h
   have a:=X.at'.a
   obtain X0:=X.lvl (a.le (show d+3<=d+1+3 by exact m8 _))
   refine iG (LJ (d:=d+3) (sc:=sc) (λ st {J O r g s} X1 e1=>Og A.ev A.ts A.eu A.xs (l8 _ _) X1 e1) b X0 h) (λ f s1 q=>q.lvl a) λ e s1 q=>q.lvl a
  ·exact L6 A.xs
section
variable {fr:List Addr}
theorem Hv{f:hV}{fd:Ev}{vs:List V}{xs:List Value}{a:Addr}{Q:Value->Shared->Prop}(H:AP w P fr g O s)(T:Tp w P g)(b6:KX A (d+1) fr)(b8:G.fn f=some fd)(hb:bindA fd vs=some J)(gn:Gc g f (.ref a))(rl:AF w P g vs xs)
  (k:∀ env s1,BF w P fd.scope J env (A.deeper env) d (s.heap.objs.size::fr) fr g s g O s1->(∀ b o,s.heap.get? b=some o->s1.heap.get? b=some o)->wpAny (model prog w) (A.deeper env) (execs fd.body env) (λ f s'=>Q (match f with | .ret v=>v | _=>.none) s') (λ _ _=>False) s1) :
  wpAny (model prog w) A (jH (.ref a) xs) Q EE s:=by
 refine AK λ Z zk=>CQ (T.fn f fd b8) λ a' dv _ ob aq ga be aO aE ca dO cW cX bi ay=>?_
 have:a'=a:=by
  refine exE2 (gn s.heap H.sub) λ m1 n1 e1=>exE2 (dv s.heap H.sub) λ m2 n2 e2=>?_
  obtain this:=Gp n1 n2
  clear gn dv b8 n1 n2
  subst this
  replace e2:=eqL e1 e2;cases e2;rfl
 clear gn dv b8
 subst this
 have bV:=bi
 unfold Ev.ok at bV
 simp only[iC,beq_iff_eq,jO,decide_eq_true_eq,jJ,kT,bne_iff_ne]at bV
 refine qA bV λ aa k6=>?_;obtain⟨⟨⟨⟨k1,k2⟩,k3⟩,k4⟩,k5⟩:=aa
 refine Bv (cX s.heap H.sub) λ bp dh=>A7 (ay g s vs xs J (λ _ _ q=>q) H.sub rl hb) λ us ys aa hl dT de=>?_;subst aa
 refine zk (uR (qQ (by obtain this:=b6.depth;have:recursionLimit=1000:=rfl;exact jK (iQ (jF _ _) (by assumption)) (this.symm▸(by decide:900<=1000))) (H.sub _ _ ga) be (by erw[aE];exact k2) (by erw[aE];exact k3) aO dh (de _ _ _ _ ?_)))
 (erw[aE,ca];erw[cW,dO])
 refine oM k1 (λ x hx=>?_) λ env he s1 x=>?_
 ·obtain hp:=(q8 hx).1
  refine jP (k5 x.1 hp) (λ q=>?_) λ q=>?_
  ·exact .inl q
  ·exact .inr (iA q (Br _ _ _ (.inl q)))
 refine iA (bp.keeps x.toInCall.keep) (codeAny_func ?_)
 exact iG (k env s1 (II (d:=d) H T b6 bi hl dT he x) x.toInCall.keep) (λ _ _ q=>q) λ _ _ q=>q.elim
theorem Md{f:hV}{fd:Ev}{e:hJ}{rp:Pos}{vs us:List V}{xs:List Value}{a:Addr}(H:AP w P fr g O s)(T:Tp w P g)(b6:KX A (d+4) fr)(b8:G.fn f=some fd)(aO:fd.body=[.Return (some e) rp])
  (hb:bindA fd vs=some J) (gn:Gc g f (.ref a)) (rl:AF w P g vs xs) (he:ev d fd.scope J e O=some (.ok (.lst us,.fresh),O')) :
  wpAny (model prog w) A (jH (.ref a) xs) (λ v s'=>∃ g',AE w fr P g s g' O' s'/\CR w P fr g' s.heap s'.heap (.lst us,.fresh) v) EE s:=by
 refine Hv (d:=d+3) H T b6 b8 hb gn rl λ env s1 X hk=>rwE aO (i5 (wpAny_Return_some (iG ((Jl w P d).ev fd.scope J e O O' _ he env _ _ g s.heap s1 X.at') (λ v s2 q=>iI ?_) λ _ _ q=>q.elim)))
 refine Gw q λ g2 S b items aa m hl r hz=>rwE aa (Gq g2 ((X.step S).S) b items rfl ⟨?_,m.out,m.nopen,λ z=>m.nofr (i9 _ z)⟩ hl r hz)
 cases q:s.heap.get? b with
 | none=>rfl
 | some o=>exact absurd m.new (Am (hk b o q))
theorem Rep.toP{v:V}{x:Value}{p:Addr}(r:Rep w Option.none g v x):Rep w (some p) g v x:=
 Rep.rec (motive_1:=λ v x _=>Rep w (some p) g v x) (motive_2:=λ vs xs _=>AF w (some p) g vs xs) .none .bool .int .str .bytes
  (λ e c d _ l ih=>.tup e c d ih l) (λ e c d _ l ih=>.lst e c d ih l) (λ e=>.idict e) (λ e=>.sdict e) (λ e=>by exact none_some e) .nil (λ _ _ a b=>.cons a b) r
theorem AF.toP{vs:List V}{xs:List Value}{p:Addr}(r:AF w none g vs xs):AF w (some p) g vs xs:=by
 induction vs generalizing xs with
 | nil=>cases r;exact .nil
 | cons v vs ih=>refine r.cR λ _ _ a b=>?_;exact .cons a.toP (ih b)
theorem SO.toP{p:Addr}(x:SO fr none h h'):SO fr (some p) h h':=⟨λ b o hb _ e=>x.exact b o hb (by grind) e,λ b o _ e=>x.slots b o (by grind) e,x.dom⟩
theorem BF.toPen{p:Addr}{items:Array Value}{us:List V}(X:BF w none sc J env A d fr ae af ac g O s)(hP:Tp w (some p) g)(hl:PlainL s.heap p items)(rl:AF w none g us items.toList)(ma:A3 none fr g ac.heap p)
  (hv:∀ x sl,J.lookup x=some sl->∃ v,sl = .val v):BF w (some p) sc J env A d fr ae af ac g us s:=by
 have F:=X.at'.fro
 have nl:∀ {a:Addr} {m:hV->Option Value},s.heap.Ns a m->some a≠some p:=λ hm z=>by(obtain z:=hG z;subst z);exact C7 hm (plainL_isList hl) rfl
 have nc:∀ {a:Addr} {v:Option Value},s.heap.IsCell a v->some a≠some p:=λ hm z=>by(obtain z:=hG z;subst z);exact I6 hm (plainL_isList hl) rfl
 obtain pen:GZ w (some p) us g s.heap:=λ q hq=>by
  (obtain hq:=hG hq;subst hq)
  exact A8 ma.out items (plainL_isList hl) rl.toP
 obtain S:=X.S
 refine⟨⟨X.at'.ok,X.at'.a,⟨X.at'.here.sub,pen,λ L hL=>?_⟩,⟨?_,λ x kx=>?_,F.apartC,λ x sl hx kx=>?_,λ x y sx sy a hx hy ox oy=>?_,λ x sl a hx ox=>?_⟩,hP,X.at'.dom⟩,⟨S.st,S.ext,S.sub,S.so.toP,pen⟩,X.sub,X.frames,X.ck⟩
 ·clear S hP ma pen rl
  refine Dk (X.at'.here.frs L hL) λ a1 _ o es ep ho hd=>EY a1 (λ z=>?_) o es ep ho hd
  (obtain z:=hG z;subst z)
  refine H0 hl λ o2 _ av _ _ aA=>?_
  replace av:=eqL ho av;(obtain av:=hG av;subst av);replace aA:=eqL hd aA;cases aA
 ·clear S X hP hl ma pen rl
  exact Fb F.locals λ a1 a2 _ m hm=>Kl a1 a2 (nl hm) m hm
 ·clear S X hP hl ma nl pen rl
  exact Cg (F.cells x kx) λ c hc a1 a2 _ v hv=>Dn c hc a1 a2 (nc hv) v hv
 ·refine exE2 (F.vals x sl hx kx) λ v hh r=>?_
  refine qE (hv x sl hx) λ u aa=>?_;subst aa
  exact iEA v hh (Rep.toP r)
 ·clear F S X hP hl hy ma nc nl oy pen rl
  obtain⟨u,rfl⟩:=hv x sx hx;exact fls ox
 ·clear F S X hP hl ma nc nl pen rl
  obtain⟨u,rfl⟩:=hv x sl hx;exact fls ox
theorem Oo{fL fP:hV}{dl ey:Ev}{e:hJ}{rp p1 p2 p3 p4 p5:Pos}{rest:List Stmt}{us:List V}{sv:V}{xv:Value}{a:Addr}{pn sn:hV}{ρL ρP J':R}{dP dR:Nat}
  (Tps:∀ P,Tp w P s.heap.get?)
  (hL:G.fn fL=some dl) (hP:G.fn fP=some ey) (hbL:dl.body = .Assign [.Name pn p1] (.Call (.Name fP p2) [.Name sn p3] [] p4) p5::rest) (hbP:ey.body=[.Return (some e) rp])
  (hkp:Ah (dl.scope.names.lookup pn)=true) (hgP:AR dl.scope fP=true)
  (et:bindA dl [sv]=some ρL) (eg:bindA ey [sv]=some ρP) (dZ:∀ x sl,ρL.lookup x=some sl->∃ v,sl = .val v)
  (eG:Mo.mapM (ev 1 dl.scope ρL) [.Name sn p3] []=some (.ok [(sv,.val)],[]))
  (cI:ev dP ey.scope ρP e []=some (.ok (.lst us,.fresh),[]))
  (ba:exs dR dl.scope (BE ρL pn (.val .pen)) rest us=some (.ret (.bool true),J',O'))
  (aB:dP+dR < 500) (gn:Gc s.heap.get? fL (.ref a)) (rs:Rep w none s.heap.get? sv xv) :
  wpAny (model prog w) callerA (jH (.ref a) [xv]) (λ v s'=>v = .bool true/\(∃ h' t',s'={s with heap:=h',toks:=t'})/\∀ b o,s.heap.get? b=some o->s'.heap.get? b=some o) EE s:=by
 obtain H:AP w none [] s.heap.get? [] s:=AP.mk (λ _ _ q=>q) (λ p (hp:(none:Option Addr)=some p)=>(none_some hp)) (λ L (hL:L∈[])=>(by cases hL))
 have b6:KX callerA (dP+dR+10+1) []:=by
  refine⟨rfl,?_,?_,[],rfl,rfl,λ e he=>by cases he⟩
  ·show 1+claimMargin+_ < 900
   have:claimMargin=300:=rfl
   exact this.symm▸jK (rH (Nat.add_lt_add_right aB (10+1)) (1+300)) (by decide)
  ·show 4+8 * _ < 9000
   exact iQ (j5 (iP 8 (kM (jB aB) 11)) 4) (by decide)
 refine Hv (O:=[]) (d:=dP+dR+10) H (Tps none) b6 hL et gn (.cons rs .nil) λ env s1 X hk=>rwE hbL ?_
 refine i5 (qJ ?_ (by rfl))
 refine BG (X.at'.tp.fn fP ey hP) λ aP fG aa _=>?_;obtain⟨oP,fT,hoP,hdP⟩:=aa
 have hg:=hgP
 simp only[AR,iC]at hg
 refine mU rfl (CN X.at'.ok (B8 X.at'.ok hg.2) hg.1 X.at'.here.sub fG (DC (o:=oP) (fd:=fT) rfl ?_))
 obtain X0:=X.at'.le (show 4<=dP+dR+10 by exact l8 _ _)
 refine iG (CV (o:=.ok [(sv,.val)]) (Jl w none 1).ev [.Name sn p3] rfl X0 eG) (λ vals s2 q=>?_) λ _ _ q=>q.elim
 refine AK λ Z zk=>Ca q λ ts g2 e3 S2 l2=>?_
 cases e3
 cases l2 with | cons r2 l0=>
 cases l0
 rename_i xv2
 obtain X2:=X.step S2
 refine zk ⟨⟨X2.at'.here.sub aP oP (S2.ext.1 aP oP hoP),hdP⟩,?_⟩
 refine rwE (j4 ..) (iG (Md (EE:=λ _ _=>False) (d:=dP) X2.at'.here X2.at'.tp (X2.at'.a.le (j0 (jF _ _) (by decide))) hP hbP eg (λ h' u=>fG h' λ b o e=>u b o (S2.ext.1 b o e)) (.cons r2 .nil) cI) (λ v s3 q=>?_) λ _ _ q=>q.elim)
 refine AK λ Z zk=>Gw q λ g3 S3 p items aa mp hlp rlp hz=>?_;subst aa
 have X3:=X2.step S3
 have np:s.heap.get? p=none:=by
  cases q:s.heap.get? p with
  | none=>rfl
  | some o=>exact absurd (S2.so.back mp.new) (X.at'.dom p (Am q))
 obtain Tp3:=(Tps (some p)).mono X3.S.ext.1
 have X4:=X3.toPen Tp3 hlp rlp ⟨np,mp.out,by simp,mp.nofr⟩ dZ
 refine qA (B7 X4) λ f1 f2=>zk (Cz (h0:=s3.heap) (sl:=.val .pen) X4 (Bl X4.at'.ok hkp) (.pen rfl) (λ o=>by exact fls o) f1 f2 (λ o=>by exact fls o) λ h' t' b st X5 mv5=>?_)
 obtain A5:=(Jl w (some p) dR).xs dl.scope _ rest us O' _ J' ba env _ _ [] s.heap.get? s g3 {s3 with heap:=h',toks:=t'} (X5.lvl (X5.at'.a.le (show dR+3<=dP+dR+10 by exact j0 (l8 _ _) (by decide))))
 refine iG A5 (λ f s6 q=>?_) λ _ _ q=>q.elim
 refine AK λ Z zk=>?_
 clear A5 H S2 S3 Tp3 Tps X X0 X2 X3 X4 X5 b6 f1 f2 gn fG hL hP eG hbL hbP et eg hdP hg hgP hk hkp hlp hoP cI ba aB dZ hz mp mv5 r2 rlp rs
 refine Ca q λ x g6 aa S6 r6=>?_;subst aa
 cases r6
 refine zk ⟨rfl,S6.st,λ b o e=>S6.so.exact b o (by simp) (λ z=>?_) e⟩
 (obtain z:=hG z;subst z)
 obtain e:=eqL np e;exact none_some e
end
theorem Ek{n:hV}:∀ {ps:List hV} {xs:List Value},xs.length=ps.length->n∈ps->((ps.zip xs).lookup n).isSome=true
 | p::ps,x::xs,hl,hm=>by
  erw[lM,jI]
  by_cases q:(n==p)=true
  ·erw[q];rfl
  ·obtain q':(n==p)=false:=by simpa using q
   erw[q']
   have:n∈ps:=by
    rcases (iJ).mp hm with z | z
    ·exact absurd (by simpa using z) q
    ·exact z
   exact Ek (by simpa using hl) this
theorem E9:∀ {ps:List hV} {xs:List Value} {l:List (hV×Value)},ps.Nodup->xs.length=ps.length->(∀ n x,(n,x)∈ps.zip xs->l.lookup n=some x)->ps.filterMap (λ n=>(l.lookup n).map (n,·))=ps.zip xs
 | [],_,_,_,_,_=>rfl
 | p::ps,x::xs,l,hn,hl,h=>by
  rw[lL]at hn
  (refine rwE lM (i7 mQ ?_);erw[h p x i8])
  simp only[uC]
  exact rwE (E9 hn.2 (by simpa using hl) λ n y hy=>h n y (i9 _ hy)) rfl
theorem HD{n:hV}{x:Value}:∀ {ps:List hV} {xs:List Value},ps.Nodup->(n,x)∈ps.zip xs->(ps.zip xs).lookup n=some x
 | [],_,_,h=>by simp at h
 | _::_,[],_,h=>by simp at h
 | p::ps,y::xs,hn,h=>by
  replace hn:=Iff.mp lL hn
  rw[lM]at h ⊢
  refine i7 jI ?_
  refine jP ((iJ).mp h) (λ q=>?_) λ q=>?_
  ·clear h
   cases q;simp
  ·have aJ:(n==p)=false:=by
    have:n≠p:=λ z=>hn.1 (z▸(q8 q).1)
    simpa using this
   exact rwE aJ (HD hn.2 q)
theorem Mf{α β:Type}{l:List α}{f:α->β->Sem (ForInStep β)}(c:β)(h:∀ x∈l,f x c=pure (.yield c)):forIn l c f=pure c:=by
 induction l with
 | nil=>rfl
 | cons x r ih=>
  (refine i7 (uH ..) (rwE (h x i8) ?_);refine i7 (pure_bind ..) ?_)
  exact ih λ y hy=>h y (i9 _ hy)
theorem IH{xc:Model}{A:Around}{α:Type}{Q:α->Shared->Prop}{E:Value->Shared->Prop}{s:Shared}{c:Prop}[Decidable c]{x y:Sem α}(h:¬ c)(k:wpAny xc A y Q E s):wpAny xc A (if c then x else y) Q E s:=by erw[if_neg h];exact k
noncomputable def OK(D:Option (Array Value))(n:Nat):List Value:=(D.getD #[]).toList.drop ((D.getD #[]).toList.length - n)
theorem Fk{s:Shared}{fd:FuncData}{xs:List Value}{D:Option (Array Value)}{dm Z:List (hV×Value)}{N:List hV}(h1:fd.params.posonlyargs=[])(h2:fd.params.vararg=none)(h3:fd.params.kwonlyargs=[])(h4:fd.params.kwarg=none)
  (hN:fd.params.args.map (·.arg)=N) (ai:(decide (xs.length > N.length)&&(none:Option Arg).isNone)=false)
  (hm:(N.take (N.length - (OK D N.length).length)).filter (λ n=>((N.zip xs).lookup n).isNone)=[])
  (hl:(forIn ((N.drop (N.length - (OK D N.length).length)).zip (OK D N.length)) (N.zip xs) λ x r=>if (r.lookup x.1).isNone=true then pure (o9 (r++[(x.1,x.2)])) else pure (o9 r))=(pure Z:Sem (List (hV×Value))))
  (hb:N.filterMap (λ n=>(Z.lookup n).map λ x=>(n,x))=dm)
  (hD:∀ (xc:Model) (A:Around) (E:Value->Shared->Prop) (Q:Option (Array Value)->Shared->Prop),Q D s->wpAny xc A (seqItems? fd.defaults) Q E s) :
  BindsTo s fd ⟨xs,[]⟩ dm:=by
 intro xc A E Q hQ
 unfold bindArgs
 generalize fd.params=p at h1 h2 h3 h4 hN ⊢
 obtain⟨a1,a2,a3,a4,a5,a6⟩:=p
 cases h1;cases h2;cases h3;cases h4
 cases hN
 refine i5 (iI ?_)
 refine i5 (hD _ _ _ _ ?_)
 refine IH (λ z=>iX (ai.symm.trans z)) ?_
 refine IH (λ z=>?_) ?_
 ·obtain z:(!((tM (λ x=>x.arg) a2).take ((tM (λ x=>x.arg) a2).length - (OK D (tM (λ x=>x.arg) a2).length).length) |>.filter (λ n=>(((tM (λ x=>x.arg) a2).zip xs).lookup n).isNone)).isEmpty)=true:=z
  rw[hm]at z;exact fls z
 ·refine i5 ((show(forIn _ _ _:Sem _)=pure Z from hl)▸iI ?_)
  exact iI (show Q (List.filterMap (λ n=>Option.map (λ x=>(n,x)) (v5 n Z)) (tM (λ x=>x.arg) a2++[])) s by erw[iO];exact hb.symm▸hQ)
theorem HV{s:Shared}{fd:FuncData}{xs:List Value}{D:Option (Array Value)}(h1:fd.params.posonlyargs=[])(h2:fd.params.vararg=none)(h3:fd.params.kwonlyargs=[])(h4:fd.params.kwarg=none)
  (bw:(fd.params.args.map (·.arg)).Nodup) (ai:xs.length=fd.params.args.length) (hD:∀ (xc:Model) (A:Around) (E:Value->Shared->Prop) (Q:Option (Array Value)->Shared->Prop),Q D s->wpAny xc A (seqItems? fd.defaults) Q E s) :
  BindsTo s fd ⟨xs,[]⟩ ((fd.params.args.map (·.arg)).zip xs):=by
 have hl:xs.length=(fd.params.args.map (·.arg)).length:=by erw[iH];exact ai
 generalize hN:fd.params.args.map (·.arg)=N at bw hl
 have hs:∀ n∈N,((N.zip xs).lookup n).isNone=false:=λ n hn=>by
  have:=Ek hl hn
  cases q:(N.zip xs).lookup n with
  | none=>replace this:=q▸this;cases this
  | some v=>rfl
 refine Fk (D:=D) (Z:=N.zip xs) h1 h2 h3 h4 hN (by erw[hl];simp) (List.filter_eq_nil_iff.mpr λ n hn=>by erw[hs n (jW hn)];exact iX) ?_ ?_ hD
 ·rw[Mf]
  intro x hx
  erw[hs x.1 (k9 (q8 hx).1)]
  rfl
 ·exact E9 bw hl λ n x hx=>HD bw hx
theorem NE{s:Shared}{fd:FuncData}{x d:Value}{n1 n2:hV}(h1:fd.params.posonlyargs=[])(h2:fd.params.vararg=none)(h3:fd.params.kwonlyargs=[])(h4:fd.params.kwarg=none)
  (ha:fd.params.args.map (·.arg)=[n1,n2]) (aJ:(n2==n1)=false) (hD:∀ (xc:Model) (A:Around) (E:Value->Shared->Prop) (Q:Option (Array Value)->Shared->Prop),Q (some #[d]) s->wpAny xc A (seqItems? fd.defaults) Q E s) :
  BindsTo s fd ⟨[x],[]⟩ [(n1,x),(n2,d)]:=by
 have b1:=beq_self_eq_true n1
 have b2:=beq_self_eq_true n2
 refine Fk (D:=some #[d]) (Z:=[(n1,x),(n2,d)]) h1 h2 h3 h4 ha rfl ?_ ?_ ?_ hD
 ·show(match (match n1==n1 with | true=>some x | false=>v5 n1 []).isNone with | true=>_ | false=>List.filter _ [])=_
  erw[b1];rfl
 ·show(bind (if (match n2==n1 with | true=>some x | false=>v5 n2 []).isNone=true then _ else _) _:Sem _)=_
  erw[aJ];rfl
 ·simp[jI,aJ]
theorem KR{s:Shared}{fd:FuncData}{x v d:Value}{n1 n2 n3:hV}(h1:fd.params.posonlyargs=[])(h2:fd.params.vararg=none)(h3:fd.params.kwonlyargs=[])(h4:fd.params.kwarg=none)
  (ha:fd.params.args.map (·.arg)=[n1,n2,n3]) (dM:(n2==n1)=false) (cO:(n3==n1)=false) (d5:(n3==n2)=false) (hD:∀ (xc:Model) (A:Around) (E:Value->Shared->Prop) (Q:Option (Array Value)->Shared->Prop),Q (some #[d]) s->wpAny xc A (seqItems? fd.defaults) Q E s) :
  BindsTo s fd ⟨[x,v],[]⟩ [(n1,x),(n2,v),(n3,d)]:=by
 refine Fk (D:=some #[d]) (Z:=[(n1,x),(n2,v),(n3,d)]) h1 h2 h3 h4 ha rfl ?_ ?_ ?_ hD
 ·simp[OK,jI,dM]
 ·simp[OK,jI,cO,d5]
 ·simp[jI,dM,cO,d5]
noncomputable def dictOf?(d:Data):Option (Array DictEntry):=if h:d.ctorIdx=3 then rC (motive:=λ _=>Option (Array DictEntry)) d h (λ es _=>some es) else none
noncomputable def funcOf?(d:Data):Option (FuncData):=if h:d.ctorIdx=7 then rD (motive:=λ _=>Option (FuncData)) d h (λ es=>some es) else none
noncomputable def seqOf?(d:Data):Option (Array Value):=if h:d.ctorIdx=2 then rP (motive:=λ _=>Option (Array Value)) d h (λ es _=>some es) else none
noncomputable def fieldsOf?(d:Data):Option (Array Value):=if h:d.ctorIdx=9 then qG (motive:=λ _=>Option (Array Value)) d h (λ es=>some es) else none
noncomputable def refOf?(d:Value):Option (Addr):=if h:d.ctorIdx=10 then rE (motive:=λ _=>Option (Addr)) d h (λ es=>some es) else none
noncomputable def stmtsOf?(d:FuncBody):Option (List Stmt):=if h:d.ctorIdx=0 then oY (motive:=λ _=>Option (List Stmt)) d h (λ es=>some es) else none
noncomputable def strOf?(d:Value):Option (hV):=if h:d.ctorIdx=6 then rF (motive:=λ _=>Option (hV)) d h (λ es _=>some es) else none
theorem dictOf?_some{d:Data}{es:Array DictEntry}(h:dictOf? d=some es):∃ n,d = .dict es n:=by
 obtain⟨q,h⟩:=A2 h
 exact rC (motive:=λ d=>∀ q:d.ctorIdx=3,rC (motive:=λ _=>Option (Array DictEntry)) d q (λ es _=>some es)=some es->∃ n,d = .dict es n) d q (λ x n _ h=>by(obtain h:=hG h;subst h);exact⟨_,rfl⟩) q h
theorem funcOf?_some{d:Data}{es:FuncData}(h:funcOf? d=some es):d = .func es:=by
 obtain⟨q,h⟩:=A2 h
 exact rD (motive:=λ d=>∀ q:d.ctorIdx=7,rD (motive:=λ _=>Option (FuncData)) d q (λ es=>some es)=some es->d = .func es) d q (λ x _ h=>by(obtain h:=hG h;subst h);rfl) q h
theorem seqOf?_some{d:Data}{es:Array Value}(h:seqOf? d=some es):∃ n,d = .seq es n:=by
 obtain⟨q,h⟩:=A2 h
 exact rP (motive:=λ d=>∀ q:d.ctorIdx=2,rP (motive:=λ _=>Option (Array Value)) d q (λ es _=>some es)=some es->∃ n,d = .seq es n) d q (λ x n _ h=>by(obtain h:=hG h;subst h);exact⟨_,rfl⟩) q h
theorem fieldsOf?_some{d:Data}{es:Array Value}(h:fieldsOf? d=some es):d = .fields es:=by
 obtain⟨q,h⟩:=A2 h
 exact qG (motive:=λ d=>∀ q:d.ctorIdx=9,qG (motive:=λ _=>Option (Array Value)) d q (λ es=>some es)=some es->d = .fields es) d q (λ x _ h=>by(obtain h:=hG h;subst h);rfl) q h
theorem refOf?_some{d:Value}{es:Addr}(h:refOf? d=some es):d = .ref es:=by
 obtain⟨q,h⟩:=A2 h
 exact rE (motive:=λ d=>∀ q:d.ctorIdx=10,rE (motive:=λ _=>Option (Addr)) d q (λ es=>some es)=some es->d = .ref es) d q (λ x _ h=>by(obtain h:=hG h;subst h);rfl) q h
theorem stmtsOf?_some{d:FuncBody}{es:List Stmt}(h:stmtsOf? d=some es):d = .stmts es:=by
 obtain⟨q,h⟩:=A2 h
 exact oY (motive:=λ d=>∀ q:d.ctorIdx=0,oY (motive:=λ _=>Option (List Stmt)) d q (λ es=>some es)=some es->d = .stmts es) d q (λ x _ h=>by(obtain h:=hG h;subst h);rfl) q h
theorem strOf?_some{d:Value}{es:hV}(h:strOf? d=some es):∃ n,d = .str es n:=by
 obtain⟨q,h⟩:=A2 h
 exact rF (motive:=λ d=>∀ q:d.ctorIdx=6,rF (motive:=λ _=>Option (hV)) d q (λ es _=>some es)=some es->∃ n,d = .str es n) d q (λ x n _ h=>by(obtain h:=hG h;subst h);exact⟨_,rfl⟩) q h
def esK(K:Gs):Option (Array DictEntry):=(K 3).bind λ o=>dictOf? o.data
def W3(K:Gs)(x:hV):Option Value:=(esK K).bind λ es=>nsFind es x
def gnK(K:Gs)(x:hV):Bool:=(esK K).any λ es=>(nsFind es x).isNone
def fdK(K:Gs)(f:hV):Option (Addr×FuncData):=(W3 K f).bind λ v=>(refOf? v).bind λ a=>(K a).bind λ o=>(funcOf? o.data).map λ fd=>(a,fd)
def UB(f:hV)(fd:FuncData):Option Ev:=(stmtsOf? fd.body).map λ b=>⟨fd.params.args.map (·.arg),OY f,fd.scope,b⟩
def MH(K:Gs)(fd:FuncData):Bool:=((refOf? fd.code).bind λ c=>(K c).bind λ o=>(fieldsOf? o.data).bind λ vs=>(vs[1]?).bind strOf?)==some fd.qualname
noncomputable def JH:Value->Bool
 | .none=>true
 | _=>false
def PO:V->Value->Bool
 | .int i,x=>(match x with
  | .int j _=>i==j
  | _=>false)
 | .str l,x=>(match x with
  | .str x _=>x.cps.toList==l&&decide (l.length<=Ae)
  | _=>false)
 | .bytes l,x=>(match x with
  | .bytes b _=>b.toList==l.map j2&&(l.all λ n=>decide (n < 256))&&decide (l.length<=Ae)
  | _=>false)
 | _,_=>false
noncomputable def Gv:List V->List Value->Bool
 | [],xs=>xs.isEmpty
 | v::vs,xs=>match xs with
  | []=>false
  | x::xs=>PO v x&&Gv vs xs
def Te(K:Gs)(v:Value):Option (Value×Array Value):=(refOf? v).bind λ a=>(K a).bind λ o=>(seqOf? o.data).map λ xs=>(o.cls,xs)
def SR(K:Gs)(f:hV)(fd:FuncData):Bool:=if JH fd.defaults then(OY f).isEmpty else(Te K fd.defaults).any λ p=>(OY f).isEmpty||(Gv (OY f) p.2.toList&&fd.params.args.length==2)
def Ut(K:Gs)(f:hV)(fd:FuncData):Bool:=(fd.globals==3&&fd.builtins==0&&fd.closure.isEmpty&&fd.params.posonlyargs.isEmpty&&fd.params.vararg.isNone&&fd.params.kwonlyargs.isEmpty&&fd.params.kwarg.isNone)&&(MH K fd&&SR K f fd&&(UB f fd).any Ev.ok)
noncomputable def PX:Value->Bool
 | .type t=>t=="tuple"
 | _=>false
def glK(K:Gs)(x:hV)(v:V):Bool:=(W3 K x).any λ xv=>match v with
 | .tup vs=>(Te K xv).any λ p=>PX p.1&&Gv vs p.2.toList&&decide (vs.length<=Ae)
 | v=>PO v xv
def Wu(K:Gs)(f:hV):Option Ev:=(fdK K f).bind λ p=>if Ut K f p.2 then UB f p.2 else none
section
variable {K:Gs}
theorem Uv(X:∀ a o,K a=some o->h.get? a=some o)(Hg:h.Ns mainGlobals mg){es:Array DictEntry}(e:esK K=some es):∀ x,nsFind es x=mg x:=by
 refine AK λ Z zk=>Bj Hg λ o fg ep ho hd _ hm=>Ag e λ o' h1 h2=>qE (dictOf?_some h2) λ n h3=>?_
 refine zk ?_
 cases (X 3 o' h1).symm.trans ho
 cases hd.symm.trans h3
 exact hm
theorem Jb(X:∀ a o,K a=some o->h.get? a=some o)(Hg:h.Ns mainGlobals mg){x:hV}{v:Value}(e:W3 K x=some v):Gc h.get? x v:=by
 intro h' u
 exact Ag e λ es h1 h2=>iEA mg (Hg.keeps u) ((Uv X Hg h1 x).symm.trans h2)
theorem Nr(X:∀ a o,K a=some o->h.get? a=some o)(Hg:h.Ns mainGlobals mg){x:hV}(e:gnK K x=true):mg x=none:=by
 unfold gnK at e
 cases q:esK K with
 | none=>replace e:=q▸e;exact fls e
 | some es=>
  rw[q]at e
  exact(Uv X Hg q x).symm.trans ((jD).mp e)
theorem JY{g:Gs}{v:V}{x:Value}(e:PO v x=true):Rep w P g v x:=by
 cases v with
 | int i=>cases x with
  | int j t=>cases (beq_iff_eq.mp e:i=j);exact .int _ _
  | _=>exact fls e
 | str l=>cases x with
  | str x t=>
   refine qA ((iR).mp e) λ h1 h2=>?_
   cases (beq_iff_eq.mp h1:x.cps.toList=l)
   exact Rep.str x.cps.toList t (of_decide_eq_true h2)
  | _=>exact fls e
 | bytes l=>cases x with
  | bytes b t=>
   refine Bv ((iR).mp e) λ h1 h2=>Bv ((iR).mp h1) λ h1 h3=>?_
   have:b=(l.map j2).toArray:=by exact rwS (beq_iff_eq.mp h1:b.toList=l.map j2) rfl
   exact rwE this (.bytes l t (λ n hn=>of_decide_eq_true ((jJ).mp h3 n hn)) (of_decide_eq_true h2))
  | _=>exact fls e
 | _=>exact fls e
theorem NW{g:Gs}{vs:List V}:∀ {xs:List Value},Gv vs xs=true->AF w P g vs xs:=by
 induction vs with
 | nil=>intro xs e;cases isEmpty_is e;exact .nil
 | cons v vs ih=>
  intro xs e
  cases xs with
  | nil=>exact fls e
  | cons x xs=>
   obtain⟨h1,h2⟩:=(iR).mp e
   exact .cons (JY h1) (ih h2)
theorem GC(X:∀ a o,K a=some o->h.get? a=some o){v:Value}{p:Value×Array Value}(e:Te K v=some p):∃ a o n,v = .ref a/\h.get? a=some o/\o.cls=p.1/\o.data = .seq p.2 n:=by
 refine Ag e λ a h1 e=>Ag e λ o h2 e=>AY e λ xs h3 e0=>rwS e0 ?_
 obtain⟨n,h4⟩:=seqOf?_some h3
 exact CH a o n (refOf?_some h1) (X a o h2) rfl h4
theorem C9{α:Type}{o:Option α}{p:α->Bool}(h:o.any p=true):∃ a,o=some a/\p a=true:=by
 cases o with
 | none=>exact fls h
 | some a=>exact iEA a rfl h
theorem N9{v:Value}(h:PX v=true):v = .type "tuple":=by
 cases v with
 | type t=>exact rwE (beq_iff_eq.mp h:t="tuple") rfl
 | _=>exact fls h
theorem V4(X:∀ a o,K a=some o->h.get? a=some o){x:hV}{v:V}(e:glK K x v=true):∃ xv,W3 K x=some xv/\Rep w P h.get? v xv:=by
 refine exE2 (C9 e) λ xv h1 e=>iEA xv h1 ?_
 clear h1
 cases v with
 | tup vs=>
  refine AK λ Z zk=>?_
  replace e:=C9 e
  obtain⟨p,h2,e⟩:=e
  refine Bj (GC X h2) λ a o n aa ho hc hd=>?_;subst aa
  exact Bv ((iR).mp e) λ e1 e2=>Bv ((iR).mp e1) λ e1 e3=>zk (.tup ho (hc.trans (N9 e1)) hd (NW e3) (of_decide_eq_true e2))
 | _=>exact JY e
end
noncomputable def allB:List hV:=["len","ord","chr","abs","int","min","max","sum","sorted","bytes","list","dict","range","enumerate"]
def YL(K:Gs):Bool:=(Ul.all λ p=>glK K p.1 p.2)&&((allB.all λ x=>gnK K x)&&((W3 K "MimeFault").bind refOf?==some 108))
theorem Yi:∀ x∈allB,bootBuiltins x=some (Dd x):=by
 unfold allB
 repeat (refine (iK).mpr ⟨by nofun,?_⟩)
 exact λ _ h=>(by cases h)
theorem OG:∀ x,x∈Bn\/x="range"\/x="enumerate"->x∈allB/\x≠"__name__":=by
 have:allB=Bn++(["range","enumerate"]:List hV):=rfl
 intro x hx
 have hm:x∈allB:=by
  refine rwE this (uB jX ?_)
  rcases hx with q | q | q
  ·exact .inl q
  ·right;erw[q];exact i8
  ·right;erw[q];exact i9 _ i8
 refine⟨hm,λ e=>?_⟩
 rw[e]at hm
 exact absurd hm (by decide +kernel)
section
variable {K:Gs}
structure FnK(K:Gs)(f:hV)(fd:Ev)(a:Addr)(o:Obj)(aq:FuncData):Prop where
 name:W3 K f=some (.ref a)
 at':K a=some o
 data:o.data = .func aq
 body:aq.body = .stmts fd.body
 params:fd.params=aq.params.args.map (·.arg)
 dfls:fd.defaults=OY f
 scope:aq.scope=fd.scope
 globals:aq.globals=3
 builtins:aq.builtins=0
 closure:aq.closure=[]
 pos:aq.params.posonlyargs=[]
 var:aq.params.vararg=none
 kwo:aq.params.kwonlyargs=[]
 kwa:aq.params.kwarg=none
 code:MH K aq=true
 dfltK:SR K f aq=true
 ok:fd.ok=true
theorem Rw{f:hV}{fd:Ev}(e:Wu K f=some fd):∃ a o aq,FnK K f fd a o aq:=by
 refine AK λ Z zk=>Ag e λ p h1 e=>KW e λ g e=>AY e λ b h2 e0=>?_;subst e0
 refine Ag h1 λ v h3 h1=>Ag h1 λ a h4 h1=>Ag h1 λ o h5 h1=>AY h1 λ aq h6 e0=>?_;subst e0
 refine zk ?_
 cases refOf?_some h4
 unfold Ut at g
 simp only[iC,beq_iff_eq,qV,jD]at g
 refine WW g λ aa al fM=>?_;obtain⟨⟨⟨⟨⟨⟨g1,g2⟩,g3⟩,g4⟩,g5⟩,g6⟩,g7⟩:=aa;obtain⟨g8,g9⟩:=al
 have ho:Ev.ok ⟨aq.params.args.map (·.arg),OY f,aq.scope,b⟩=true:=by
  refine exE2 (C9 fM) λ d q1 q2=>?_
  cases e.symm.trans q1
  exact q2
 exact⟨a,o,aq,h3,h5,funcOf?_some h6,stmtsOf?_some h2,rfl,rfl,rfl,g1,g2,g3,g4,g5,g6,g7,g8,g9,ho⟩
theorem code_rec(X:∀ a o,K a=some o->h.get? a=some o){aq:FuncData}(e:MH K aq=true):h.CodeRec aq.code aq.qualname:=by
 refine AK λ Z zk=>Ag (beq_iff_eq.mp e) λ c h1 e=>Ag e λ o h2 e=>Ag e λ vs h3 e=>Ag e λ q h4 e=>qE (strOf?_some e) λ t aa=>?_;subst aa
 exact zk (H8 c o vs t (refOf?_some h1) (X c o h2) (fieldsOf?_some h3) h4)
theorem L3{v:Value}(h:JH v=true):v = .none:=by cases v <;> first | rfl | exact fls h
theorem Wk{s':Shared}(X:∀ a o,K a=some o->s'.heap.get? a=some o){f:hV}{aq:FuncData}(e:SR K f aq=true) :
  ∃ D:Option (Array Value),(∀ (xc:Model) (A:Around) (E:Value->Shared->Prop) (Q:Option (Array Value)->Shared->Prop),Q D s'->wpAny xc A (seqItems? aq.defaults) Q E s')/\(OY f=[]\/∃ xs,D=some xs/\Gv (OY f) xs.toList=true/\aq.params.args.length=2):=by
 unfold SR at e
 cases hn:JH aq.defaults with
 | true=>
  replace e:=hn▸e
  exact rwE (L3 hn) (iEA none (λ xc A E Q hQ=>iI hQ) (.inl (isEmpty_is e)))
 | false=>
  refine AK λ Z zk=>?_
  replace e:=hn▸e
  refine exE2 (C9 e) λ p h1 e=>Bj (GC X h1) λ a o n h2 h3 _ h5=>?_
  refine zk ?_
  refine rwE h2 (iEA (some p.2) (λ xc A E Q hQ=>mH h3 h5 hQ) ?_)
  refine jP ((pJ).mp e) (λ q=>?_) λ q=>?_
  ·exact .inl (isEmpty_is q)
  ·exact Bv ((iR).mp q) λ q1 q2=>.inr (iEAA p.2 rfl q1 (beq_iff_eq.mp q2))
theorem WC(f:hV):OY f=[]\/OY f=[.int 75]:=by
 unfold OY
 by_cases q:f="encoded_words"
 ·exact rwE (if_pos q) (.inr rfl)
 ·exact rwE (if_neg q) (.inl rfl)
theorem T0{xs:Array Value}(e:Gv [.int 75] xs.toList=true):∃ t,xs=#[.int 75 t]:=by
 obtain⟨l⟩:=xs
 cases l with
 | nil=>exact fls e
 | cons x r=>
  refine Bv ((iR).mp e) λ h1 h2=>?_
  clear e
  cases isEmpty_is h2
  cases x with
  | int j t=>cases (beq_iff_eq.mp h1:(75:Int)=j);exact⟨t,rfl⟩
  | _=>exact fls h1
theorem PA{f:hV}{fd:Ev}{a:Addr}{o:Obj}{aq:FuncData}(F:FnK K f fd a o aq){g':Gs}{s':Shared}{vs:List V}{xs:List Value}{J:R}(X:∀ a o,K a=some o->s'.heap.get? a=some o)(rl:AF w P g' vs xs)(ay:bindA fd vs=some J) :
  ∃ us ys,J=fd.params.zip (us.map .val)/\us.length=fd.params.length/\AF w P g' us ys/\BindsTo s' aq ⟨xs,[]⟩ (fd.params.zip ys):=by
 have bw:(aq.params.args.map (·.arg)).Nodup:=by
  have:=F.ok
  unfold Ev.ok at this
  simp only[iC,decide_eq_true_eq]at this
  exact rwS F.params this.1.1.2
 refine exE2 (Wk X F.dfltK) λ D hD hd=>Cb ay λ ai aa=>?_;subst aa
 rw[F.params,F.dfls]at ai ⊢
 replace ai:=(iH ..)▸ai
 by_cases bh:vs.length=aq.params.args.length
 ·refine iEEAAA vs xs ?_ (by erw[iH];exact bh) rl (HV F.pos F.var F.kwo F.kwa bw (by refine i7 rl.length ?_;exact bh) hD)
  (erw[iH,bh];erw[lN,pA];exact rwE (iO ..) rfl)
 ·refine jP (WC f) (λ q=>?_) λ q=>?_
  ·rw[q]at ai
   exact absurd (q5 ai.2 ai.1) bh
  ·rw[q]at ai hd ⊢
   clear X ay q
   rcases hd with z | ⟨ys,rfl,hy,hp⟩
   ·exact nc l7 z (.refl false)
   refine qE (T0 hy) λ t aa=>?_;subst aa
   (replace bh:=hp▸bh;replace ai:=hp▸ai)
   have hv:vs.length=1:=by have this:=ai.1;have this:=ai.2;simp only[iT]at *;exact q5 (oH (nX this bh)) (mV ai.1)
   refine qE ((nS).mp hv) λ v aa=>?_;subst aa
   have fu:(aq.params.args.map (·.arg)).length=2:=by exact i7 (iH ..) hp
   generalize hps:aq.params.args.map (·.arg)=ps at fu bw
   obtain⟨n1,n2,rfl⟩:∃ n1 n2,ps=[n1,n2]:=by
    match ps,fu with
    | [n1,n2],_=>exact RF n1 n2 rfl
   refine rl.cR λ _ _ r1 r0=>?_
   cases r0
   rename_i x
   refine iEEAAA [v,.int 75] [x,.int 75 t] rfl rfl (.cons r1 (.cons (.int 75 t) .nil)) (NE F.pos F.var F.kwo F.kwa hps ?_ hD)
   exact uB beq_eq_false_iff_ne (λ e=>((lL).mp bw).1 (by erw[e];exact i8))
theorem tp_K(X:∀ a o,K a=some o->s.heap.get? a=some o)(Hg:s.heap.Ns mainGlobals mg)(Hb:s.heap.Ns builtinsNs mb)(de:∀ x:hV,x≠"__name__"->mb x=bootBuiltins x)(bp:s.heap.NoLimit)
  (c1:YL K=true) (c2:FN.map (Wu K)=FN.map (fnT prog)) (c5:UQ s.heap.get?) (c6:∀ P,P2 w P s.heap.get?) :
  ∀ P,Tp w P s.heap.get?:=by
 intro P
 refine Bv ((iR).mp c1) λ c1 c34=>Bv ((iR).mp c34) λ c3 c4=>?_
 refine⟨λ x v e=>?_,λ x hx=>?_,λ f fd e=>?_,?_,c6 P,c5⟩
 ·exact exE2 (V4 (w:=w) (P:=P) X ((jJ).mp c1 _ (DT e))) λ xv h1 h2=>iEA xv h2 (Jb X Hg h1)
 ·exact Bv (OG x hx) λ hm hn=>λ h' u=>iEEAAA mg mb (Hg.keeps u) (Nr X Hg ((jJ).mp c3 x hm)) (Hb.keeps u) ((de x hn).trans (Yi x hm))
 ·refine AK λ Z zk=>KW e λ hm e=>BA (Rw (((List.map_inj_left.mp c2) f ((uI).mp hm)).trans e)) λ a o aq F=>zk ⟨a,Jb X Hg F.name,⟨o,aq,X a o F.at',F.data⟩,o,aq,X a o F.at',F.data,F.body,F.scope,F.globals,F.builtins,F.closure,λ h' u=>⟨bp.keeps u,code_rec (λ a o e=>u a o (X a o e)) F.code⟩,F.ok,λ g' s' vs xs J hk u rl ay=>?_⟩
  exact PA F (λ a o e=>u a o (hk a o (X a o e))) rl ay
 ·refine Ag (beq_iff_eq.mp c4) λ v h1 h2=>?_
  rw[refOf?_some h2]at h1
  exact Jb X Hg h1
end
open PySem.W
section
variable {E:Value->Shared->Prop} {g:Array GenState} {d:Drawn} {t:Nat} {os:OsState}
variable {nm q:Str} {C N:Addr} {sn:List Str} {dd:Option Addr}
structure U6(bm:List Value):Prop where
 exc:bm.contains (.type "Exception")=true
 noAttr:bm.contains (.type "AttributeError")=false
 noName:bm.contains (.type "NameError")=false
noncomputable abbrev Du(C t:Addr):Obj:={cls:=.ref C,data:=.fields #[.ref t,.none,.none,.none,.bool false,.none]}
noncomputable abbrev tupOf(rest:List Value):Obj:={cls:=.type "tuple",data:=.seq rest.toArray}
theorem SS{R:Result->Shared->Prop}(Y:U6 bm){rest:List Value}(hC:h.get? C=some (excClassObj nm q C N bs bm br sn sub ab cj dd k0 k1 k2 k3 k5 "Exception.__new__"))(ba:rest.length<=sizeLine)
  (hq:R (.ok (.ret (.ref (h.objs.size+1)))) ⟨(h.push (tupOf rest)).push (Du C h.objs.size),g,d,t,os⟩) :
  codeAny (model prog w) A (.builtin "Exception.__new__" ⟨.ref C::rest,[]⟩) R ⟨h,g,d,t,os⟩:=by
 obtain Fn:=oZ
 have hends:=Fn.ends
 have eR:(lK C::bm).contains (.type "Exception")=true:=by(refine i7 lA (rwE Y.exc ?_);exact(sB ..))
 have hcA:(lK C::bm).contains (.type "AttributeError")=false:=by refine i7 lA (rwE Y.noAttr ?_);rfl
 obtain hcN:(lK C::bm).contains (.type "NameError")=false:=by refine i7 lA (rwE Y.noName ?_);rfl
 refine codeAny_builtinAt Fn.entry ?_
 refine PySem.wpAt_bind (PySem.wpAt_bind (PySem.wpAt_stack λ p below=>PySem.wpAt_of_wpAny ?_))
 wp_walk
 refine PySem.wpAt_of_wpAny (rwE Fn.owner ?_)
 repeat (first | with_reducible refine wpAny_madeHere_exc Fn.canon hC ?_ | with_reducible refine lR hC ?_ | (with_reducible refine pK hC ?_;first | rw[eR] | rw[hcA] | erw[hcN]) | wp_step)
 exact rwE (uV ..) hq
theorem Pq{K:Frag}(Y:U6 bm){rest:List Value}{fI:Addr}{Q:Value->Shared->Prop}(X:K.In h)
  (hC:h.get? C=some (excClassObj nm q C N bs bm br sn sub ab cj dd k0 k1 k2 k3 k5 "Exception.__new__")) (hi:findIn K (.ref C) "__init__"=some (some (.ref fI))) (hf:typeIn K (.ref fI)=some (.type "function")) (ba:rest.length<=sizeLine)
  (hq:wpAny (model prog w) (A.under (.builtin "type.__call__" ⟨.ref C::rest,[]⟩)) (call (.ref fI) (.ref (h.objs.size+1)::rest)) (λ r s'=>r = .none/\Q (.ref (h.objs.size+1)) s') E ⟨(h.push (tupOf rest)).push (Du C h.objs.size),g,d,t,os⟩) :
  wpAny (model prog w) A (call (.ref C) rest) Q E ⟨h,g,d,t,os⟩:=by
 obtain Fn:=oZ
 obtain f1:=tc_lookup
 obtain f2:=tc_bind (.ref C)
 obtain hT:(⟨h,g,d,t,os⟩:Shared).TypeIs (.ref C) "type":=iEA _ hC rfl
 refine uR (codeAny_of_tree ?_)
 repeat (any_goals (first | assumption | with_reducible refine lR hC ?_ | wp_step))
 refine iA rfl (codeAny_call_builtin_at (Code.quiet_builtin _ (by decide +kernel)) entry_typeCall (wpAny_check_type_call_sub hC ?_))
 repeat (first | with_reducible refine lR hC ?_ | with_reducible refine wpAny_madeBy_exc hC ?_ | wp_step)
 refine codeAny_call_builtin_code (Code.quiet_builtin _ Fn.quiet) (wpAny_check_new_subU Fn Y.exc .base hC ?_)
 refine SS Y hC ba ?_
 obtain k:∀ b o,h.get? b=some o->((h.push (tupOf rest)).push (Du C h.objs.size)).get? b=some o:=λ b o e=>j8 _ (j8 _ e)
 obtain gU:((h.push (tupOf rest)).push (Du C h.objs.size)).get? (h.objs.size+1)=some {cls:=.ref C,data:=.fields #[.ref h.objs.size,.none,.none,.none,.bool false,.none]}:=by heap_get
 obtain hcC:(lK C::bm).contains (.ref C)=true:=by simp
 repeat (first | with_reducible refine lR gU ?_ | (refine pK (k _ _ hC) ?_;erw[hcC]) | wp_step)
 obtain X₁:=λ a o e=>k _ _ (X a o e)
 refine(looks_findIn X₁ hi).here (s:=⟨(h.push (tupOf rest)).push (Du C h.objs.size),g,d,t,os⟩) (jN (i5 ((bind_fn X₁ (.ref (h.objs.size+1)) hf).here (s:=⟨(h.push (tupOf rest)).push (Du C h.objs.size),g,d,t,os⟩) ?_)))
 refine i5 (iG hq (λ r s' hr=>?_) λ _ _ x=>x)
 refine qA hr λ aa au=>rwE aa ?_;have hQ:=au
 wp_walk
 exact hQ
end
section
open Builtin Builtin.ObjectAttr
section
variable {E:Value->Shared->Prop} {K:Frag} {C x:Addr}
structure R9(K:Frag)(C:Addr)(cd:ClassData):Prop where
 cls:clsIn K C=some cd
 mro:∃ B,cd.mro=[.ref C,.ref B,.type "Exception",.type "BaseException",.type "object"]
 dict:cd.hasDict=true
 set:findIn K (.ref C) "__setattr__"=some (some (.builtin "object.__setattr__"))
theorem MT{cd:ClassData}{mA:hV->Option Value}{name:hV}{v:Value}{ns:List hV}{Q:Unit->Shared->Prop}(X:K.In s.heap)(Y:R9 K C cd)(hn:findIn K (.ref C) name=some none)(I:s.heap.Inst x C mA)
  (hq:∀ h' b_,h'.Inst x C (λ y=>if y=name then some v else mA y) ->
   (∀ b o,b≠x->(∀ aX dx,s.heap.get? x=some aX->aX.dict=some dx->b≠dx)->s.heap.get? b=some o->h'.get? b=some o) ->
   (∀ aX,s.heap.get? x=some aX->∃ cZ,h'.get? x=some cZ/\cZ.cls=aX.cls/\cZ.data=aX.data/\∀ dx,cZ.dict=some dx->aX.dict=some dx\/s.heap.get? dx=none)->Q () {s with heap:=h',toks:=b_}) (hw:Within mA ns) (aB:ns.length<=1000) :
  wpAny (model prog w) A (setAttr (.ref x) name v) Q E s:=by
 obtain SF:=PySem.F.store_Exception
 refine qE Y.mro λ B cb=>Qb I λ o hx hc fm hd=>?_
 have dU:notCls o=true:=by
  unfold notCls
  cases e:o.data with
  | cls c=>exact absurd e (fm c)
  | _=>rfl
 obtain⟨od,I'⟩:∃ od,InstAt s.heap x o C od:=by
  rcases hd with ⟨h1,_⟩| ⟨dx,h1,_,h2⟩
  ·exact⟨none,hx,hc,dU,by erw[h1];trivial⟩
  ·exact HR h2 λ oD _ _ h3 _=>⟨some oD,hx,hc,dU,by erw[h1];exact h3⟩
 obtain ne:cd.mro.isEmpty=false:=by erw[cb];rfl
 obtain sub:Looks (model prog w) s.heap (isInstance (.ref x) (.type "object")) true:=I'.type.andThen (looks_mroIn X (by unfold mroIn;(refine rwE Y.cls (i7 (kN ..) ?_);refine Gx (by erw[ne];decide) (rwE cb ?_));rfl))
 obtain hm:Looks (model prog w) s.heap (mroOf (.ref C)) cd.mro:=(looks_clsIn X Y.cls).andThen .now
 refine set_plain X I' Y.set (codeAny_call_builtin SF.slot.plain SF.entry (@check_slot (model prog w) _ _ {s with toks:=s.toks+1} "object.__setattr__" "object" "__setattr__" (.ref x) [.str name s.toks,v] [] _ SF.kind SF.split sub (SF.args (.ref x) (.str name s.toks) v) ?_))
 erw[osa_eq,refuse_eq]
 refine i5 (i5 (I'.type.here (s:={s with toks:=s.toks+1}) (i5 (hm.here (s:={s with toks:=s.toks+1}) ?_))))
 (erw[cb,refuseLoop_ref];erw[refuseLoop_ref,SF.passes])
 refine iI (i5 (I'.type.here (s:={s with toks:=s.toks+1}) (i5 ((looks_findIn X hn).here (s:={s with toks:=s.toks+1}) (i5 (iI ?_))))))
 refine i5 (iI (i5 (i5 (wpAny_loadPart hx ?_))))
 refine rwE hc (i5 ((looks_clsIn X Y.cls).here (s:={s with toks:=s.toks+1}) ?_))
 erw[Y.dict]
 have put:∀ {h1:Heap} {t1:Nat} {dx:Addr} {m1:hV->Option Value} {R:PySem.Fin->Shared->Prop} {ms:List hV},h1.Ns1 dx m1->Within m1 ms->ms.length<=1000->(∀ h' t',h'.Ns1 dx (λ y=>if y=name then some v else m1 y)->k7 dx h1 h'->R (.done (.ret .none)) {s with heap:=h',toks:=t'}) ->
   wpAny (model prog w) A.in1 (storeInDict dx (.str name s.toks) name v) R (λ e s'=>E e s') {s with heap:=h1,toks:=t1}:=fun {h1 t1 dx m1 R ms} n1 w1 z1 k=>by
  refine i5 (iI (i5 (wpAny_nsSet1 (s:={s with heap:=h1,toks:=t1}) n1 λ h' aM hs=>?_)))
  refine BJ (aM.count (Within.cons name v w1)) λ oD esD epD hoD hdD hcD=>i5 (wpAny_lookBehind hoD (by erw[hdD];exact pastItsLine_dict (hZ hcD (by erw[i6,pI];exact iQ (by assumption) (by decide)))) ?_)
  exact iI (k h' _ aM hs)
 clear I' SF X Y hm cb hn dU ne sub
 rcases hd with ⟨bI,hmA⟩| ⟨dx,f_,aJ,bH⟩
 ·erw[bI]
  obtain⟨hh,g,d,t,os⟩:=s
  obtain dk:=j8 _ hx
  have bL:x≠hh.objs.size:=pO (pP hx)
  erw[if_neg (by decide),if_neg (by show ¬ (false:Bool)=true;decide)]
  dsimp only
  split
  ·rename_i c e;exact absurd e (fm c)
  ·refine i5 (wpAny_alloc' ?_)
   refine i5 (wpAny_update' dk ?_)
   obtain hgd:((hh.push {cls:=.type "dict",data:=.dict #[]}).update x λ o=>{cls:=o.cls,dict:=some hh.objs.size,data:=o.data,slots:=o.slots}).get? hh.objs.size=some {cls:=.type "dict",data:=.dict #[]}:=
    (rQ _ _ _ _ bL.symm).trans (Heap.get?_push_at rfl rfl)
   obtain bw:((hh.push {cls:=.type "dict",data:=.dict #[]}).update x λ o=>{cls:=o.cls,dict:=some hh.objs.size,data:=o.data,slots:=o.slots}).Ns hh.objs.size (λ _=>none):=
    (CH _ (#[]) _ hgd rfl (λ e he=>absurd he (by simp)) (λ _=>rfl))
   refine iI (put (Heap.Ns1.of_empty bw) Within.nil (kA _) λ h' t' aM hs=>?_)
   have cS:h'.get? x=some {cls:=o.cls,dict:=some hh.objs.size,data:=o.data,slots:=o.slots}:=by
    refine(hs.2 x bL).trans (lX _ dk ?_)
    obtain⟨oc,od,fX,gR⟩:=o
    cases fX <;> first | rfl | exact((Heap.get?_some_iff.mp hx).2)
   refine hq h' _ (FS _ cS hc fm (.inr ⟨hh.objs.size,rfl,bL.symm,?_⟩)) (λ b ob hbx _ hb=>?_) λ aX d7=>?_
   ·refine QH aM λ o' es ep e1 e2 e3 eu e4=>QJ o' es ep e1 e2 e3 eu (λ y=>(e4 y).trans ?_)
    show(if y=name then some v else none)=if y=name then some v else mA y
    exact rwE (hmA ..) rfl
   ·exact(hs.2 b (pO (pP hb))).trans ((rQ _ _ _ _ hbx).trans (j8 _ hb))
   ·obtain rfl:o=aX:=hG (hx.symm.trans d7)
    exact FS _ cS rfl rfl (λ dx e=>.inr (by refine rwS (hG e) ?_;exact Ak _))
 ·refine rwE f_ (iI (i5 (iI ?_)))
  exact put bH hw aB λ h' t' aM hs=>hq h' _ (FS o ((hs.2 x aJ.symm).trans hx) hc fm (.inr ⟨dx,f_,aJ,aM⟩)) (λ b ob _ hbd hb=>(hs.2 b (hbd o dx hx f_)).trans hb) λ aX d7=>FS aX ((hs.2 x aJ.symm).trans d7) rfl rfl (λ _ e=>.inl e)
end
end
section
open Builtin Builtin.ObjectAttr
theorem Tr:findCls [] (.type "Exception") (.type "type") "__init__"=some (.val (.builtin "Exception.__init__")):=rfl
theorem NF:handedIn (.builtin "Exception.__init__")=true:=rfl
section
variable {E:Value->Shared->Prop} {C x:Addr}
theorem P5{pl:Sem Bool}{Q:Value×List Value->Shared->Prop}(h:Q (.builtin "Exception.__init__",[]) {s with toks:=s.toks+1}):wpAny (model prog w) A (getMethod (.type "Exception") "__init__" pl) Q E s:=by
 obtain X:Frag.In [] s.heap:=λ _ _ e=>by exact none_some e
 obtain L0:=Looks.of_pure (by first | rfl | kernel_rfl:typeOf (.type "Exception")=pure (.type "type"))
 obtain hg:findIn [] (.type "type") "__getattribute__"=some (some (.builtin "type.__getattribute__")):=rfl
 refine i5 (i5 (L0.here ((looks_findIn X hg).here ?_)))
 dsimp only
 refine rwE (if_pos canon_tga) (i5 (iG (Q:=λ v=>Q (v,[])) (E:=E) ?_ (λ _ _ z=>iI z) λ _ _ z=>z))
 refine cls_open X (Looks.of_pure (by unfold opaqueClassAbove;dsimp only;erw[(show Manifest.isStub "Exception"=false by decide +kernel)];rfl:opaqueClassAbove (.type "Exception")=pure none)) L0 hg (looks_hook X (r:=none) (by rfl)) (by show subIn [] _ _=_;rfl) Tr (iI ?_)
 exact rwE (handedOut_of NF) (iI h)
end
section
variable {E:Value->Shared->Prop} {g:Array GenState} {d:Drawn} {t:Nat} {os:OsState}
variable {nm q:Str} {C N x:Addr} {sn:List Str} {dd:Option Addr}
theorem OH{o:Obj}{vs:Array Value}{T:Addr}{rest:List Value}{Q:Value->Shared->Prop}(Y:bm.contains (.type "Exception")=true)(hC:h.get? C=some (excClassObj nm q C N bs bm br sn sub ab cj dd k0 k1 k2 k3 k5 aZ))(hx:h.get? x=some o)(hc:o.cls = .ref C)(hd:o.data = .fields vs)(h0:vs[0]?=some (.ref T))(ba:rest.length<=sizeLine)
  (hq:Q .none ⟨(h.push (tupOf rest)).update x (lU λ y=>y.setIfInBounds 0 (.ref h.objs.size)),g,d,t,os⟩):wpAny (model prog w) A (call (.builtin "Exception.__init__") (.ref x::rest)) Q E ⟨h,g,d,t,os⟩:=by
 obtain F:=oZ
 obtain eR:(lK C::bm).contains (.type "Exception")=true:=by(refine i7 lA (rwE Y ?_);exact(sB ..))
 obtain gJ:wpAny (model prog w) A.in1 (checkBuiltinCall "Exception.__init__" ⟨.ref x::rest,[]⟩) (λ _ s'=>s'=⟨h,g,d,t,os⟩) (λ _ _=>False) ⟨h,g,d,t,os⟩:=by
  obtain bM:=F.noStar
  simp only[checkBuiltinCall,F.initKind,F.initSplit,F.initRow]
  repeat (first | (with_reducible refine lR hx ?_;erw[hc]) | with_reducible refine lR hC ?_ | (with_reducible refine pK hC ?_;erw[eR]) | wp_step)
  refine wpAny_onRaise ?_
  rw[show ∀ (a b:String) (n:Nat),Bind.check ⟨.positional,"*","Exception",.self,[⟨"args",.varPos,false⟩]⟩ a b n (tM (λ x=>x.fst) ({pos:=lK x::rest}:Args).kw)=pure () from
   λ a b n=>check_star_args _ _ _ _ _ _]
  exact iI rfl
 refine uR (codeAny_call_builtin F.init.plain F.initEntry (iG gJ (λ _ s' q=>?_) λ _ _ q=>q.elim))
 erw[q]
 wp_walk
 erw[hd]
 refine iI ?_
 refine rwE h0 (iI ?_)
 wp_walk
 erw[hd]
 obtain hz:0 < vs.size:=by
  refine jP (uG 0 vs.size) (λ q=>?_) λ q=>?_
  ·exact q
  ·obtain h0:=eqL (Array.getElem?_eq_none q) h0;exact none_some h0
 dsimp only
 refine rwE (if_pos hz) (wpAny_update' (j8 _ hx:(h.push (tupOf rest)).get? x=some o) ?_)
 wp_walk
 exact hq
end
end
section
open Builtin Builtin.ObjectAttr
section
variable {E:Value->Shared->Prop} {C x:Addr}
structure Wm(env:Env)(h:Heap)(m:hV->Option Value):Prop where
 fn:env.scope.kind = .function
 ns:h.Ns env.locals m
theorem EP{m:hV->Option Value}{y:hV}{v:Value}{p:Pos}{Q:Value->Shared->Prop}(I:Wm env s.heap m)(hk:env.kindOf y=some .local)(hv:m y=some v)(h1:(y==("__debug__" : hV))=false)(h:Q v s):wpAny (model prog w) A (eval (.Name y p) env) Q E s:=
 uQ (wpAny_loadName_local I.fn hk I.ns hv h) h1
noncomputable def HM(p1 p2 p3 p4 p5 p6 q1 q2 q3 q4 r1 r2 r3 r4:Pos):List Stmt:=[.Expr (.Call (.Attribute (.Name "Exception" p1) "__init__" p2) [.Name "self" p3,.Name "what" p4] [] p5) p6,.Assign [.Attribute (.Name "self" q1) "what" q2] (.Name "what" q3) q4,.Assign [.Attribute (.Name "self" r1) "at" r2] (.Name "at" r3) r4]
variable {nm q:hV} {N:Addr} {sn:List hV} {dd:Option Addr}
theorem OA{p1 p2 p3 p4 p5 p6 q1 q2 q3 q4 r1 r2 r3 r4:Pos}{K:Frag}{m:hV->Option Value}{v y:Value}{cd:ClassData}{o:Obj}{vs:Array Value}{T:Addr}{Q:Flow->Shared->Prop}(aV:(p2.endLine==p5.line)=true)
  (hE:∀ (A:Around) (p:Pos) (Q:Value->Shared->Prop),Q (.type "Exception") s->wpAny (model prog w) A (eval (.Name "Exception" p) env) Q E s) (I:Wm env s.heap m) (l1:env.kindOf "self"=some .local) (l2:env.kindOf "what"=some .local) (l3:env.kindOf "at"=some .local) (m1:m "self"=some (.ref x)) (m2:m "what"=some v) (m3:m "at"=some y)
  (X:K.In s.heap) (Y:R9 K C cd) (n1:findIn K (.ref C) "what"=some none) (n2:findIn K (.ref C) "at"=some none) (hK:K.lookup x=none) (hxL:x≠env.locals)
  (fS:bm.contains (.type "Exception")=true) (hC:s.heap.get? C=some (excClassObj nm q C N bs bm br sn sub ab cj dd k0 k1 k2 k3 k5 aZ)) (hx:s.heap.get? x=some o) (hc:o.cls = .ref C) (hd:o.data = .fields vs) (h0:vs[0]?=some (.ref T)) (bI:o.dict=none)
  (hq:∀ h' b_ T',(∀ b ob,b≠x->s.heap.get? b=some ob->h'.get? b=some ob)->(∃ o',h'.get? x=some o'/\o'.cls = .ref C/\o'.data = .fields (vs.setIfInBounds 0 (.ref T')))->Q .next {s with heap:=h',toks:=b_}) :
  wpAny (model prog w) A (execs (HM p1 p2 p3 p4 p5 p6 q1 q2 q3 q4 r1 r2 r3 r4) env) Q E s:=by
 refine tU (wpAny_Expr_any ?_ (by unfold interactive;erw[I.fn];rfl) (by rfl))
 ·(erw[arm_eval_Call];rw[Fc (by rfl)])
  refine i5 (hE _ _ _ (i5 (kB ?_)))
  obtain dc:methodCallForm (([.Name "self" p3,.Name "what" p4]:List hJ).length+([]:List Keyword).length) (backTo p5 (starEach [.Name "self" p3,.Name "what" p4] env)) (backToKw p5 (keywordEach [] env))=true:=rfl
  obtain eC:methodCallPos true (.Name "Exception" p1) env p2 p5=pure p5:=by unfold methodCallPos;simp[aV]
  unfold methodCall
  refine rwE dc (i5 (jN (P5 ?_)))
  refine i5 (qI eC ?_)
  refine B1 (es:=[.Name "self" p3,.Name "what" p4]) rfl (s9 (EP (s:={s with toks:=s.toks+1}) I l1 m1 (by decide) ?_))
  refine s9 (EP (s:={s with toks:=s.toks+1}) I l2 m2 (by decide) ?_)
  refine Calls.spliced_nil ?_
  clear hE dc aV eC
  obtain⟨h,g,d,t,os⟩:=s
  have kp:∀ b ob,b≠x->h.get? b=some ob->((h.push (tupOf [v])).update x (lU λ y=>y.setIfInBounds 0 (.ref h.objs.size))).get? b=some ob:=λ b ob nb e=>(rQ _ _ _ _ nb).trans (j8 _ e)
  have fq:((h.push (tupOf [v])).update x (lU λ y=>y.setIfInBounds 0 (.ref h.objs.size))).get? x=some {o with data:=.fields (vs.setIfInBounds 0 (.ref h.objs.size))}:=by
   refine(lX _ (j8 _ hx) ?_).trans ?_
   ·obtain⟨oc,od,fX,gR⟩:=o
    cases hd;rfl
   ·obtain⟨oc,od,fX,gR⟩:=o
    cases hd;rfl
  refine OH fS hC hx hc hd h0 (by erw[iT,pI];exact kZ _) ?_
  generalize (h.push (tupOf [v])).update x (lU λ y=>y.setIfInBounds 0 (.ref h.objs.size))=h2 at kp fq
  have at2:∀ {G:Heap},(∀ b ob,b≠x->h.get? b=some ob->G.get? b=some ob)->K.In G/\Wm env G m:=fun {G} k=>by
   refine⟨λ a oa e=>k a oa (λ z=>by replace e:=eqL hK (z▸e);exact none_some e) (X a oa e),I.fn,?_⟩
   exact HR I.ns λ oL es ep e1 r=>Kp oL es ep (k _ _ hxL.symm e1) r
  refine qA (at2 kp) λ X2 I2=>tU (qK (EP (s:=⟨h2,g,d,t+1,os⟩) I2 l2 m2 (by decide) (EP (s:=⟨h2,g,d,t+1,os⟩) I2 l1 m1 (by decide) ?_)))
  refine MT (mA:=λ _=>none) (ns:=[]) X2 Y n1 (FS _ fq hc (λ c z=>((by cases z))) (.inl ⟨bI,λ _=>rfl⟩)) (λ h3 t3 I3 k3 s3=>?_) Within.nil (kA _)
  refine AK λ Z zk=>Qb (s3 _ fq) λ o3 hx3 fW gO d5=>?_
  have kp3:=λ b ob nb e=>k3 b ob nb (λ aX dx e0 e1=>by obtain e1:=sJ (hG (fq.symm.trans e0))▸e1;exact nomatch bI.symm.trans e1) (kp b ob nb e)
  refine qA (at2 kp3) λ X3 J3=>zk (tU (qK (EP (s:=⟨h3,g,d,t3,os⟩) J3 l3 m3 (by decide) (EP (s:=⟨h3,g,d,t3,os⟩) J3 l1 m1 (by decide) ?_))))
  refine MT (ns:=["what"]) X3 Y n2 I3 (λ h4 t4 I4 k4 s4=>?_) (Within.cons _ _ Within.nil) (by decide)
  refine Qb (s4 _ hx3) λ o4 hx4 gP gI _=>wpAny_execs_nil (hq h4 t4 h.objs.size (λ b ob nb e=>k4 b ob nb (λ aX dx e0 e1 z=>?_) (kp3 b ob nb e)) (iEAA o4 hx4 (gP.trans (fW.trans hc)) (gI.trans gO)))
  obtain e1:=sJ (hG (hx3.symm.trans e0))▸e1
  refine jP (d5 dx e1) (λ q=>?_) λ q=>?_
  ·exact nomatch bI.symm.trans q
  ·obtain q:=eqL (kp b ob nb e) (sJ z▸q);exact nc mG q (.refl false)
end
end
section
open Builtin Builtin.ObjectAttr
section
variable {E:Value->Shared->Prop} {C x:Addr}
variable {nm q:hV} {N:Addr} {sn:List hV} {dd:Option Addr}
structure PF(fd:FuncData):Prop where
 body:∃ p1 p2 p3 p4 p5 p6 q1 q2 q3 q4 r1 r2 r3 r4,fd.body = .stmts (HM p1 p2 p3 p4 p5 p6 q1 q2 q3 q4 r1 r2 r3 r4)/\(p2.endLine==p5.line)=true
 kind:fd.scope.kind = .function
 co:fd.scope.isCoroutine=false
 gen:fd.scope.isGenerator=false
 names:fd.scope.names.lookup ("self" : hV)=some .local/\fd.scope.names.lookup ("what" : hV)=some .local/\fd.scope.names.lookup ("at" : hV)=some .local/\fd.scope.names.lookup ("Exception" : hV)=some .globalImplicit
 globals:fd.globals=mainGlobals
 builtins:fd.builtins=builtinsNs
 closure:fd.closure=[]
theorem Tz{fI:Addr}{fo:Obj}{fd:FuncData}{K:Frag}{v y:Value}{cd:ClassData}{o:Obj}{vs:Array Value}{T:Addr}{rest:List Value}{mg mb:hV->Option Value}{Q:Value->Shared->Prop}(F:PF fd)(ef:A.depth < recursionLimit)(hf:s.heap.get? fI=some fo)(b8:fo.data = .func fd)(dh:s.heap.CodeRec fd.code fd.qualname)(bp:s.heap.NoLimit)
  (hb:BindsTo s fd ⟨.ref x::rest,[]⟩ [("self",.ref x),("what",v),("at",y)]) (hg:s.heap.Ns mainGlobals mg) (fQ:mg "Exception"=none) (dO:s.heap.Ns builtinsNs mb) (hmb:mb "Exception"=some (.type "Exception"))
  (X:K.In s.heap) (Y:R9 K C cd) (n1:findIn K (.ref C) "what"=some none) (n2:findIn K (.ref C) "at"=some none) (hK:K.lookup x=none)
  (fS:bm.contains (.type "Exception")=true) (hC:s.heap.get? C=some (excClassObj nm q C N bs bm br sn sub ab cj dd k0 k1 k2 k3 k5 aZ)) (hx:s.heap.get? x=some o) (hc:o.cls = .ref C) (hd:o.data = .fields vs) (h0:vs[0]?=some (.ref T)) (bI:o.dict=none)
  (hq:∀ h' b_ T',(∀ b ob,b≠x->s.heap.get? b=some ob->h'.get? b=some ob)->(∃ o',h'.get? x=some o'/\o'.cls = .ref C/\o'.data = .fields (vs.setIfInBounds 0 (.ref T')))->Q .none {s with heap:=h',toks:=b_}) :
  wpAny (model prog w) A (call (.ref fI) (.ref x::rest)) Q E s:=by
 refine DA F.body λ p1 p2 p3 p4 p5 p6 q1 q2 q3 q4 r1 r2 r3 r4 aO aV=>VR F.names λ e1 e2 e3 e4=>uR (qQ ef hf b8 F.co F.gen aO dh (hb _ _ _ _ ?_))
 (erw[F.globals,F.closure];erw[F.builtins])
 refine oM F.kind (λ z hz=>.inl ?_) λ env he s1 xb=>?_
 ·rcases (iJ).mp hz with rfl | hz
  ·exact e1
  rcases (iJ).mp hz with rfl | hz
  ·exact e2
  ·exact rwE ((iD).mp hz) e3
 have aG:∀ y,env.kindOf y=fd.scope.names.lookup y:=λ y=>by erw[he];rfl
 have bY:env.locals=s.heap.objs.size:=by erw[he];rfl
 obtain bb:=xb.toInCall.keep
 refine⟨bp.keeps bb,codeAny_func ?_⟩
 obtain⟨⟨ct,bH,_,_⟩,_⟩:=xb
 refine Ha ct λ h1 t1 aa=>?_;subst aa
 obtain nd:(["self","what","at"]:List hV).Nodup:=by decide
 have bP:∀ p∈[(("self" : hV),lK x),("what",v),("at",y)],p∈(["self","what","at"]:List hV).zip [.ref x,v,y]:=λ p h=>h
 obtain l1:=(aG _).trans e1
 obtain l2:=(aG _).trans e2
 obtain l3:=(aG _).trans e3
 have ch:=bb
 refine OA (s:={s with heap:=h1,toks:=t1}) (m:=bindL env.kindOf [("self",.ref x),("what",v),("at",y)] λ _=>none) aV (λ A p Q hQ=>?_) ⟨by erw[he];exact F.kind,bH⟩ l1 l2 l3 (bindL_get nd (bP _ (.head _)) l1) (bindL_get nd (bP _ (.tail _ (.head _))) l2) (bindL_get nd (bP _ (.tail _ (.tail _ (.head _)))) l3)
  (λ a oa e=>ch _ _ (X a oa e)) Y n1 n2 hK (λ z=>by rw[z,bY]at hx;exact nomatch (Ak s.heap).symm.trans hx:x≠env.locals) fS (ch _ _ hC) (ch _ _ hx) hc hd h0 bI (λ h' b_ T' k1 k2=>hq h' b_ T' (λ b ob nb e=>k1 b ob nb (ch _ _ e)) k2)
 refine oK (by erw[he];exact F.kind) ((aG _).trans e4) ?_ (by decide)
 exact sZ (by erw[he];exact hg.keeps ch) fQ (by erw[he];exact dO.keeps ch) hmb hQ
end
end
section
open Builtin Builtin.ObjectAttr
def CT(K:Gs):Frag:=([108,107,95,94,85]:List Addr).filterMap λ a=>(K a).map λ o=>(a,o)
noncomputable def nnB(o:Option (Option Value)):Bool:=o.elim false (·.isNone)
def Yb(o:Option (Option Value)):Bool:=(o.bind λ v=>v.bind refOf?)==some 85
noncomputable def Qi:Value->Bool
 | .type t=>t=="function"
 | _=>false
theorem Lz{o:Option (Option Value)}(h:nnB o=true):o=some none:=by
 cases o with
 | none=>exact fls h
 | some v=>exact congrArg some ((jD).mp h)
theorem SY{o:Option (Option Value)}(h:Yb o=true):o=some (some (.ref 85)):=
 Ag (beq_iff_eq.mp h) λ v h1 h2=>Ag h2 λ u h3 h4=>h1.trans (congrArg some (h3.trans (congrArg some (refOf?_some h4))))
theorem Oe{v:Value}(h:Qi v=true):v = .type "function":=by
 cases v with
 | type t=>exact rwE (beq_iff_eq.mp h:t="function") rfl
 | _=>exact fls h
noncomputable def ownR(K:Frag)(name:hV)(a:Addr):Option (Option Value):=match K.lookup a with
 | some ⟨_,_,.cls cd,_⟩=>nsIn K cd.ns name
 | _=>none
noncomputable def exNames:List hV:=(["__setattr__","what","at"]:List String).map kH
def WI(K:Gs):Bool:=nnB (ownR (CT K) "__init__" 108)&&(Yb (ownR (CT K) "__init__" 95)&&((exNames.all λ x=>nnB (ownR (CT K) x 108)&&nnB (ownR (CT K) x 95))&&gnK K "Exception")) &&
 (K 85).any λ o=>Qi o.cls&&(funcOf? o.data).any λ fd=>(fd.globals==3&&fd.builtins==0&&fd.closure.isEmpty&&fd.params.posonlyargs.isEmpty&&fd.params.vararg.isNone&&fd.params.kwonlyargs.isEmpty&&fd.params.kwarg.isNone)&&(MH K fd&&(Te K fd.defaults).any λ p=>p.2.size==1)
def X9(K:Gs):Option Ev:=(K 85).bind λ o=>(funcOf? o.data).bind λ fd=>(stmtsOf? fd.body).map λ b=>⟨fd.params.args.map (·.arg),[],fd.scope,b⟩
structure Ur(f:Ev):Prop where
 params:f.params=(["self","what","at"]:List hV)
 body:∃ p1 p2 p3 p4 p5 p6 q1 q2 q3 q4 r1 r2 r3 r4,f.body=HM p1 p2 p3 p4 p5 p6 q1 q2 q3 q4 r1 r2 r3 r4/\(p2.endLine==p5.line)=true
 kind:f.scope.kind = .function
 co:f.scope.isCoroutine=false
 gen:f.scope.isGenerator=false
 names:f.scope.names.lookup ("self" : hV)=some .local/\f.scope.names.lookup ("what" : hV)=some .local/\f.scope.names.lookup ("at" : hV)=some .local/\f.scope.names.lookup ("Exception" : hV)=some .globalImplicit
theorem KF{F:Frag}{x:hV}{a B:Addr}{oc:Value}{od:Option Addr}{cd:ClassData}{sl:Array (Option Value)}{rest:List Value}{r q:Option (Option Value)}(hl:F.lookup a=some ⟨oc,od,.cls cd,sl⟩)(hm:cd.mro = .ref a::.ref B::rest)(h1:ownR F x a=some none)
  (h:(match q with | some (some v)=>some (some v) | some none=>alongIn F x rest | none=>none)=r) (h2:ownR F x B=q):findIn F (.ref a) x=r:=by
 show(match F.lookup a with | some ⟨_,_,.cls cd,_⟩=>alongIn F x cd.mro | _=>none)=r
 erw[hl]
 show alongIn F x cd.mro=r
 erw[hm]
 show(match ownR F x a with | some (some v)=>some (some v) | some none=>alongIn F x (.ref B::rest) | none=>none)=r
 erw[h1]
 show(match ownR F x B with | some (some v)=>some (some v) | some none=>alongIn F x rest | none=>none)=r
 exact rwE h2 h
theorem MA{K:Gs}{a:Addr}{o:Obj}(h:K a=some o)(l:List Addr)(hm:a∈l):(l.filterMap λ a=>(K a).map λ o=>(a,o)).lookup a=some o:=by
 induction l with
 | nil=>cases hm
 | cons b l ih=>
  by_cases q:a=b
  ·refine rwS q (rwE mQ (rwE h ?_))
   show(match a==a with | true=>some o | false=>_)=_
   exact rwE (beq_self_eq_true ..) rfl
  ·have i:=ih (((iJ).mp hm).resolve_left q)
   erw[mQ]
   cases e:K b with
   | none=>exact i
   | some ob=>
    show(match a==b with | true=>some ob | false=>_)=_
    exact rwE (beq_eq_false_iff_ne.mpr q) i
theorem TR{K:Gs}{h:Heap}(X:∀ a o,K a=some o->h.get? a=some o):(CT K).In h:=λ a o e=>by
 refine A9 (List.mem_filterMap.mp (List.lookup_eq_some_iff.mp e|>fun⟨l1,l2,q,_⟩=>q▸List.mem_append_right _ (i8 ..))) λ b _ e2=>?_
 refine AY e2 λ o' h1 h2=>qA (tQ h2) λ aa au=>rwS aa (rwS au ?_)
 exact X _ _ h1
section
variable {K:Gs}
variable {nm q:hV} {N B:Addr} {sn:List hV} {dd:Option Addr}
theorem VD{f:Ev}(X:∀ a o,K a=some o->ac.heap.get? a=some o)(Hg:ac.heap.Ns mainGlobals mg)(Hb:ac.heap.Ns builtinsNs mb)(de:∀ x:hV,x≠"__name__"->mb x=bootBuiltins x)(bp:ac.heap.NoLimit)
  (c1:WI K=true) (c2:X9 K=some f) (Y:Ur f) (c3:K 108=some (excClassObj nm q 108 N bs [.ref 95,.type "Exception",.type "BaseException",.type "object"] true sn sub ab cj dd k0 k1 k2 k3 k5 "Exception.__new__")):P2 w P ac.heap.get?:=by
 intro A fr O g' s hk b6 H xs bL
 refine AK λ Z zk=>?_
 have Xs:∀ a o,ac.heap.get? a=some o->s.heap.get? a=some o:=λ a o e=>H.sub _ _ (hk _ _ e)
 unfold WI at c1
 refine qA ((iR).mp c1) λ c0 c1=>?_
 clear H hk
 refine qA ((iR).mp c0) λ u1 c0=>qA ((iR).mp c0) λ u2 c0=>qA ((iR).mp c0) λ u3 a6=>A9 (C9 c1) λ fo b1 c1=>qA ((iR).mp c1) λ u4 c1=>A9 (C9 c1) λ fd b2 c1=>?_
 simp only[iC,beq_iff_eq,qV,jD]at c1
 refine WW c1 λ aa g8 g9=>?_;obtain⟨⟨⟨⟨⟨⟨g1,g2⟩,g3⟩,g4⟩,g5⟩,g6⟩,g7⟩:=aa
 refine Ag c2 λ fo' e0 c2=>?_
 obtain rfl:=hG (b1.symm.trans e0)
 refine Ag c2 λ aq c4 c2=>?_
 obtain rfl:=hG (b2.symm.trans c4)
 refine AY c2 λ b c5 aa=>?_;subst aa
 obtain F:PF fd:=by
  exact DA Y.body λ p1 p2 p3 p4 p5 p6 q1 q2 q3 q4 r1 r2 r3 r4 e1 e2=>⟨⟨p1,p2,p3,p4,p5,p6,q1,q2,q3,q4,r1,r2,r3,r4,by refine i7 (stmtsOf?_some c5) ?_;exact congrArg FuncBody.stmts e1,e2⟩,Y.kind,Y.co,Y.gen,Y.names,g1,g2,g3⟩
 have cJ:fd.params.args.map (·.arg)=(["self","what","at"]:List hV):=Y.params
 refine A9 (C9 g9) λ D g9 fM=>?_
 have XK:∀ {h:Heap},(∀ a o,s.heap.get? a=some o->h.get? a=some o)->∀ a o,K a=some o->h.get? a=some o:=λ k a o e=>k _ _ (Xs _ _ (X _ _ e))
 refine Bj (GC (XK λ _ _ e=>e) g9) λ da dob dn d1 d2 _ d4=>?_
 obtain Fin:=TR (XK (h:=s.heap) λ _ _ e=>e)
 obtain hC:=Xs _ _ (X _ _ c3)
 obtain hex:([.ref 95,.type "Exception",.type "BaseException",.type "object"]:List Value).contains (.type "Exception")=true:=by refine i7 lA ?_;rfl
 have gv:(CT K).lookup 108=some (excClassObj nm q 108 N bs [.ref 95,.type "Exception",.type "BaseException",.type "object"] true sn sub ab cj dd k0 k1 k2 k3 k5 "Exception.__new__"):=by
  exact MA c3 _ (.head _)
 obtain⟨cd,cc,cb,eb⟩:∃ cd,clsIn (CT K) 108=some cd/\cd.mro=[.ref 108,.ref 95,.type "Exception",.type "BaseException",.type "object"]/\cd.hasDict=true:=by
  unfold clsIn
  exact rwE gv (iEAA _ rfl rfl rfl)
 obtain up:∀ x∈exNames,∀ r,alongIn (CT K) x [.type "Exception",.type "BaseException",.type "object"]=r->findIn (CT K) (.ref 108) x=r:=λ x hx r hr=>by
  obtain this:=(iR).mp ((jJ).mp u3 x hx)
  exact KF (q:=some none) gv rfl (Lz this.1) hr (Lz this.2)
 obtain a2:typeIn (CT K) (.ref 85)=some (.type "function"):=by
  show((CT K).lookup 85).map (·.cls)=_
  unfold CT
  (refine rwE (MA b1 _ (by decide)) (i7 (uC ..) ?_);exact rwE (Oe u4) rfl)
 obtain Yc:R9 (CT K) 108 cd:=⟨cc,⟨95,cb⟩,eb,(up "__setattr__" (.head _) (some (some (.builtin "object.__setattr__"))) (by kernel_rfl))⟩
 obtain⟨h,g,d,t,os⟩:=s
 have kp:∀ b o,h.get? b=some o->((h.push (tupOf xs)).push (Du 108 h.objs.size)).get? b=some o:=λ b o e=>j8 _ (j8 _ e)
 obtain bv:h.get? (h.objs.size+1)=none:=l9 (m8 _)
 obtain hKx:(CT K).lookup (h.objs.size+1)=none:=by
  cases e:(CT K).lookup (h.objs.size+1) with
  | none=>rfl
  | some o=>obtain this:=Fin _ _ e;replace this:=eqL bv this;exact none_some this
 obtain ay:∃ v y,BindsTo (⟨(h.push (tupOf xs)).push (Du 108 h.objs.size),g,d,t,os⟩:Shared) fd ⟨.ref (h.objs.size+1)::xs,[]⟩ [("self",.ref (h.objs.size+1)),("what",v),("at",y)]:=by
  obtain⟨d0,hd0⟩:∃ d0,D.2=#[d0]:=by
   obtain z1:D.2.size=1:=beq_iff_eq.mp fM
   generalize D.2=a at z1
   refine AK λ Z zk=>?_
   obtain⟨l⟩:=a
   refine qE ((nS).mp (show l.length=1 from z1)) λ z aa=>?_;subst aa
   exact zk ⟨z,rfl⟩
  have hD:∀ (xc:Model) (A:Around) (E:Value->Shared->Prop) (Q:Option (Array Value)->Shared->Prop),Q (some #[d0]) (⟨(h.push (tupOf xs)).push (Du 108 h.objs.size),g,d,t,os⟩:Shared)->wpAny xc A (seqItems? fd.defaults) Q E ⟨(h.push (tupOf xs)).push (Du 108 h.objs.size),g,d,t,os⟩:=λ xc A E Q hQ=>by
   exact rwE d1 (mH (kp _ _ d2) (d4.trans (rwE hd0 rfl)) hQ)
  refine jP bL (λ e=>?_) λ e=>?_
  ·refine qE ((nS).mp e) λ v aa=>?_;subst aa
   exact RF v d0 (KR g4 g5 g6 g7 cJ (by decide) (by decide) (by decide) hD)
  ·obtain⟨v,y,rfl⟩:∃ v y,xs=[v,y]:=by
    cases xs with
    | nil=>cases e
    | cons v t=>
    refine qE ((nS).mp (oA e)) λ y aa=>?_;subst aa
    exact RF v y rfl
   obtain this:=HV (s:=⟨(h.push (tupOf [v,y])).push (Du 108 h.objs.size),g,d,t,os⟩) (xs:=[.ref (h.objs.size+1),v,y]) g4 g5 g6 g7 (by erw[cJ];decide) (by obtain this:=congrArg jZ cJ;replace this:=eqL (iH ..) this;exact this.symm) hD
   rw[cJ]at this
   exact RF v y this
 refine Ha ay λ v y ay=>zk ?_
 refine Pq (⟨hex,by refine i7 lA ?_;rfl,by refine i7 lA ?_;rfl⟩:U6 [.ref 95,.type "Exception",.type "BaseException",.type "object"]) Fin hC (KF (q:=some (some (.ref 85))) gv rfl (Lz u1) rfl (SY u2):findIn (CT K) (.ref 108) "__init__"=some (some (.ref 85))) a2 (by erw[pI];rcases bL with e | e <;> (first | exact e▸kZ _ | exact(by rw[e];decide) | omega):xs.length<=sizeLine) ?_
 refine Tz (s:=⟨(h.push (tupOf xs)).push (Du 108 h.objs.size),g,d,t,os⟩) F ?_ (kp _ _ (Xs _ _ (X _ _ b1))) (funcOf?_some b2) (code_rec (λ a o e=>kp _ _ (XK (λ _ _ e=>e) a o e)) g8) ((bp.keeps Xs).keeps kp) ay ((Hg.keeps Xs).keeps kp) (Nr X Hg a6) ((Hb.keeps Xs).keeps kp) ((de _ (by decide)).trans rfl) (λ a o e=>kp _ _ (Fin a o e)) Yc (up "what" (.tail _ (.head _)) (some none) (by kernel_rfl)) (up "at" (.tail _ (.tail _ (.head _))) (some none) (by kernel_rfl)) hKx hex (kp _ _ hC) (by heap_get:((h.push (tupOf xs)).push (Du 108 h.objs.size)).get? (h.objs.size+1)=some (Du 108 h.objs.size)) rfl rfl rfl rfl (λ h' b_ T' k1 k2=>⟨rfl,?_⟩)
 ·obtain this:=b6.depth
  obtain hw:Code.weight (.builtin "type.__call__" ⟨.ref 108::xs,[]⟩)=1:=rfl
  exact rwE hw (iQ (j5 (by decide:1<=3) _) (Nat.lt_trans this (by decide)))
 ·exact BG k2 λ o' e1 e2 e3=>⟨_,o',.ref T',h',b_,rfl,rfl,bv,λ b o e=>k1 b o (λ z=>by replace e:=z▸e;exact nomatch bv.symm.trans e) (kp _ _ e),e1,e2,e3⟩
end
end
noncomputable abbrev UZ:OpenLaw:=PySem.Challenge.rw_no0383_01
noncomputable abbrev RE:Program:=nV
noncomputable def q0:Program:=view nV [88]
noncomputable def HT:List Str:=(["_wall","SIGNS","PAD","LINE_END","worth_table","group_codes","group_octets","part_encoded","one_line","in_lines","encoded","decoded","PostError","MimeFault","lower_code","lower_text","ASCII","LATIN","UTF8","CHARSETS","UNKNOWN_SIGN","charset_names","charset_name","need_charset","utf8_length","utf8_octets","follower_span","utf8_sign","sign_at","text_in","strict_text","guessed_text","has_sign","octets_in","best_charset","EQUALS","BLANK","UNDERLINE","HEX","WORD_SIGNS","quoted_code","hex_worth","quoted_at","unquoted","word_q_encoded","word_q_decoded","MOST_WORD","WHITE","OPENING","CLOSING","WAYS","payload","framed_word","encoded_word","needs_word","encoded_span","sign_sizes","chunk_ends","words_of","encoded_words","shorter_words","is_word_sign","part_end","word_parts","is_apart","plain_text","word_at","pieces_of","all_white","decoded_words","_law_pen","_law_draw","_law_pick","_law_bits","_law_marked","_law_word","_law_words","_law_needy","_law_due","_law_text","_law_one_holds"]:List String).map Str.ofString
noncomputable def excO:Obj:=excClassObj "MimeFault" "MimeFault" 108 107 [.ref 95] [.ref 95,.type "Exception",.type "BaseException",.type "object"] true [] [] false none none (some (.ref 99)) none (some (.str "MimeFault" 306)) (some (.str "MimeFault" 314)) (some (.bool true)) "Exception.__new__"
noncomputable def Uf(e:Stmt):List Stmt:=if h:e.ctorIdx=2 then PySem.Stmt.ClassDef.elim (motive_2:=λ _=>List Stmt) e h (λ _ _ _ b _ _ _ _ _ _ _=>b) else []
def Ux:Ev:=match (Uf (RE.main.body.getD 14 (.Pass ⟨0,0,0,0⟩))).head? with
 | some (.FunctionDef _ ps b _ _ _ sc _ _ _)=>⟨ps.args.map (·.arg),[],sc,b⟩
 | _=>⟨[],[],default,[]⟩
def XB(K:Gs):Bool×List (Option Ev)×Option Obj×Option Ev:=(YL K&&WI K,FN.map (Wu K),K 108,X9 K)
abbrev TS:Bool×List (Option Ev)×Option Obj×Option Ev:=(true,FN.map (fnT RE),some excO,some Ux)
def Vn(s:Shared):Bool×List (Option Ev)×Option Obj×Option Ev:=XB s.heap.get?
def UE(s:Shared):=(openSeen q0 HT (importedModules RE.main.body) (λ s=>xlAt q0 [] s&&recOk [] s) true s,Vn s)
noncomputable def allOf(β:Type)(F:Shared->β)(p:Program)(N:Nat)(w:World):=(openEnds treeTable p w N).map F
lay_quick Mine.allOf
theorem Yr(w:World):PySem.W.Fast.tw437599012165430590 _ UE RE 6000 w=some (openGood q0 HT,TS):=by kernel_rfl
theorem YK:LeftO RE q0 HT (λ s=>xlAt q0 [] s&&recOk [] s) Vn (λ _=>TS) 6000:=λ w=>
 (congrFun (congrFun (congrFun (congrFun (congrFun PySem.W.Fast.te437599012165430590 _) UE) RE) 6000) w).trans (Yr w)
theorem ws1:PySem.Challenge.rw_no0383_01.wellSaid=true:=by kernel_rfl
def Xj(h:Heap):Prop:=∃ K:Gs,XB K=TS/\∀ a o,K a=some o->h.get? a=some o
theorem Ye{d:DefRec}{eY:List (Str×hJ)}(cr:defOf q0 (kH "law")=some (d,eY))(hp:PySem.Challenge.pw_no0383_01.theDef (kH "law")=some (d.params,d.body,d.scope))
  (hk:kwWritten? d.params.kwonlyargs d.params.kw_defaults=some eY)
  (hc:WalkO q0 HT (XL q0 []) (λ _ h=>Xj h) UZ.row.toRowW d eY λ f vs=>jH f vs):PySem.Challenge.rw_no0383_01.Holds:=
 holds_law ws1 λ gN=>
  holds_open (q:=q0) (loose:=HT) (Xt:=λ s=>xlAt q0 [] s&&recOk (RowW.records UZ.row.toRowW) s) (XP:=XL q0 []) (Yf:=Vn) (Ya:=λ _=>TS) (YP:=λ _ h=>Xj h) (N:=6000) YK
   (λ w s e=>⟨s.heap.get?,e,λ _ _ q=>q⟩) (λ w h h' y k=>let ⟨K,a,b⟩:=y;⟨K,a,λ x o e=>k x o (b x o e)⟩)
   (λ s e=>xl_of s ((iR).mp e).1) XL.keeps cr hp hk (λ s e=>recFacts_of ((iR).mp e).2) rfl gN (by decide +kernel) ⟨rfl,rfl,rfl,rfl,rfl,by decide +kernel⟩ (by w_witness2) hc
def Iv(f:hV):Ev:=(G.fn f).getD ⟨[],[],default,[]⟩
theorem WB:G.fn "law"=some (Iv "law"):=rfl
theorem Wj:G.fn "_law_pen"=some (Iv "_law_pen"):=rfl
def MM(b:List Stmt):Option (hV×hV×hV×List Stmt):=b.head?.bind λ st=>(assign1? st).bind λ q=>(one? q.1).bind λ t=>(name? t).bind λ pn=>(callName? q.2).bind λ c=>(one? c.2).bind λ a=>(name? a).map λ sn=>(pn,c.1,sn,b.tail)
theorem I9{b:List Stmt}{r:hV×hV×hV×List Stmt}(h:MM b=some r):∃ p1 p2 p3 p4 p5,b = .Assign [.Name r.1 p1] (.Call (.Name r.2.1 p2) [.Name r.2.2.1 p3] [] p4) p5::r.2.2.2:=by
 cases b with
 | nil=>cases h
 | cons st rest=>
 refine AK λ Z zk=>Ag h λ _ e0 h=>?_
 (obtain e0:=hG e0;subst e0)
 refine Ag h λ q h1 h=>Ag h λ t h2 h=>Ag h λ pn h3 h=>Ag h λ c h4 h=>Ag h λ a h5 h=>AY h λ sn h6 aa=>?_;subst aa
 clear h
 refine qE (assign1?_some h1) λ ap aa=>?_;subst aa
 refine qE (name?_some h3) λ p1 h3=>?_
 refine Ha (callName?_some h4) λ p2 p4 h4=>?_
 refine qE (name?_some h6) λ p3 h6=>?_
 exact zk (VM p1 p2 p3 p4 ap (by(erw[h4,one?_some h2];erw[one?_some h5,h3];erw[h6]);rfl))
def Mb(b:List Stmt):Option hJ:=(one? b).bind λ st=>match st with
 | .Return e _=>e
 | _=>none
theorem KT{b:List Stmt}{e:hJ}(h:Mb b=some e):∃ p,b=[.Return (some e) p]:=by
 refine Ag h λ st h1 h=>?_
 cases st with
 | Return o p=>cases (show o=some e from h);exact⟨p,one?_some h1⟩
 | _=>exact none_some h
def Sq:hJ:=(Mb (Iv "_law_pen").body).getD (.Constant .none 0 ⟨0,0,0,0⟩)
def JA:List Stmt:=(Iv "law").body.tail
def Jt(l:List Int):Prop:=∃ (us:List V) (O':A4) (J':R) (dP dR:Nat),dP+dR < 500 /\
 ev dP (Iv "_law_pen").scope [("script",.val (.lst (l.map .int)))] Sq []=some (.ok (.lst us,.fresh),[]) /\
 exs dR (Iv "law").scope (BE [("script",.val (.lst (l.map .int)))] "pen" (.val .pen)) JA us=some (.ret (.bool true),J',O')
section
variable {R:WRecords} {cl:hV->Option Addr}
theorem L9{ns:List Int}:∀ {xs:List Value} {as:List Addr},ReadsAllW R cl h xs (ns.map .int) as->AF w P g (ns.map .int) xs:=by
 induction ns with
 | nil=>intro xs as r;cases r;exact .nil
 | cons n ns ih=>
  intro xs as r
  cases r with | cons a b=>
  cases a
  exact .cons (.int _ _) (ih b)
theorem K8{args:List WData}(hp:UZ.row.toRowW.claim.pre args=true):∃ ns:List Int,args=[.list (ns.map .int)]/\ns.length<=63:=by
 refine qA ((iR).mp hp) λ h1 h2=>?_
 clear hp
 cases args with
 | nil=>cases h1
 | cons a r=>
 refine qA ((iR).mp (show(WShape.has [] a (.list .int)&&WShape.hasAll [] r [])=true from h1)) λ h3 h4=>?_
 cases r with
 | cons _ _=>cases h4
 | nil=>
 refine A9 (hasW_list h3) λ xs aa h5=>?_;subst aa
 refine qE (items_int h5) λ ns aa=>?_;subst aa
 refine iEA ns rfl ?_
 by_cases q:(63:Int) < ((ns.map WData.int).length:Int)
 ·exfalso
  obtain e:(OpenLaw.pre UZ).value [] {args:=[.list (ns.map .int)]}=some (.bool false):=by
   obtain bF:∀ b:Bool,decide ((63:Int) < ((ns.map WData.int).length:Int))=b->(WTm.not (.lt (.lit (.int 63)) (.len (.arg 0)))).value [] {args:=[.list (ns.map .int)]}=some (.bool (!b)):=λ b e=>by refine rwS e ?_;rfl
   obtain k1:=bF true (decide_eq_true q)
   show(WTm.and (WTm.not (.lt (.lit (.int 63)) (.len (.arg 0)))) (.lit (.bool true))).value [] {args:=[.list (ns.map .int)]}=_
   (rw[WTm.value];erw[k1]);rfl
  unfold WTm.holds at h2
  rw[show(UZ.row.toRowW.pre).value UZ.row.toRowW.records {args:=[.list (ns.map .int)]}=some (.bool false) from e]at h2
  exact fls h2
 ·rw[iH]at q
  exact (kC).mp ((lY).mp q)
end
theorem KH{fd:Ev}{x:hV}{v:V}(h1:fd.params=[x])(h2:fd.defaults=[]):bindA fd [v]=some [(x,.val v)]:=by
 unfold bindA;erw[h1,h2];rfl
theorem RX{sc:Scope}{p:Pos}{v:V}(h:(okName "script"&&Ah (sc.names.lookup ("script" : hV)))=true):Mo.mapM (ev 1 sc [("script",.val v)]) [.Name "script" p] []=some (.ok [(v,.val)],[]):=by
 refine qA ((iR).mp h) λ h1 h2=>?_
 obtain e:E8 G.gl sc [("script",.val v)] "script"=some (v,.val):=by
  unfold E8
  erw[h1,h2]
  simp[v5,Qm]
 show Mo.bind (Mo.lift (E8 G.gl sc [("script",.val v)] "script")) _ []=_
 erw[e];rfl
theorem TM(args ds:List WData):UZ.row.toRowW.claim.post args (.bool true) ds=true:=by
 obtain hs:same (.bool true) (.bool true)=true:=by nofun
 obtain e:(WTm.eq .res (.lit (.bool true))).value [] {args:=args,res:=some (.bool true),after:=ds}=some (.bool (same (.bool true) (.bool true))):=by
  rw[WTm.value];rfl
 obtain h1:WShape.has [] (WData.bool true) .bool=true:=rfl
 show(WShape.has [] (WData.bool true) .bool&&(WTm.eq .res (.lit (.bool true))).holds [] {args:=args,res:=some (.bool true),after:=ds})=true
 unfold WTm.holds
 (erw[e,hs];erw[h1]);rfl
theorem TG:Ur Ux:=⟨by nofun,⟨_,_,_,_,_,_,_,_,_,_,_,_,_,_,rfl,by decide⟩,by nofun,by nofun,by nofun,by nofun,by nofun,by nofun,by nofun⟩
theorem fin(hlaw:∀ l:List Int,l.length<=63->Jt l):PySem.Challenge.rw_no0383_01.Holds:=by
 refine qE ((jL).mp (show(defOf q0 (kH "law")).isSome=true by nofun)) λ aa cr=>?_;obtain⟨d,eY⟩:=aa
 obtain hp:=(show RE.theDef (kH "law")=(defOf q0 (kH "law")).map (λ p=>(p.1.params,p.1.body,p.1.scope)) by nofun)
 have fY:=(show(defOf q0 (kH "law")).bind (λ p=>kwWritten? p.1.params.kwonlyargs p.1.params.kw_defaults)=(defOf q0 (kH "law")).map (·.2) by nofun)
 have fC:=(show(defOf q0 (kH "law")).map (·.1.name)=some (kH "law") by nofun)
 rw[cr]at hp fY fC
 refine Ye cr hp fY ?_
 intro w ac a9 mg mb G Y a o pm cd doc dV kV ho hd dh hD fQ hg args vals as gh gG hrd hwl hlo
 clear hD dh hd cr fY gG hlo ho hp hwl
 refine A9 (K8 gh) λ ns aa ai=>?_;subst aa
 refine G.open λ T _ _ _ _=>A9 Y λ K hK X=>?_
 have c:=(iR).mp (congrArg Prod.fst hK)
 obtain c3:=congrArg (λ p=>p.2.2.1) hK
 obtain Tps:=tp_K (w:=w) X T.g T.b T.builtins T.nolimit c.1 (congrArg (λ p=>p.2.1) hK) ⟨_,X 108 _ c3,_,_,_,_,_,_,_,_,_,_,_,_,_,_,_,_,_,rfl,by decide +kernel⟩ λ P=>VD X T.g T.b T.builtins T.nolimit c.2 (congrArg (λ p=>p.2.2.2) hK) TG c3
 cases hrd with | cons r1 r0=>
 cases r0
 cases r1 with | list ga gc gd gr=>
 refine AK λ Z zk=>?_
 rename_i b ob items k as0
 refine O8 (hlaw ns ai) λ us O' J' dP dR aB cI ba=>VE (I9 (show MM (Iv "law").body=some (("pen" : hV),("_law_pen" : hV),("script" : hV),JA) by nofun)) λ p1 p2 p3 p4 p5 dj=>qE (KT (show Mb (Iv "_law_pen").body=some Sq by nofun)) λ rp eW=>zk ?_
 refine iG (Oo (EE:=λ _ _=>False) (fL:="law") (fP:="_law_pen") (us:=us) (sv:=.lst (ns.map .int)) (xv:=.ref b) (a:=a) (pn:="pen") (sn:="script") (ρL:=[("script",.val (.lst (ns.map .int)))]) (ρP:=[("script",.val (.lst (ns.map .int)))])
  Tps WB Wj dj eW rfl rfl ?_ ?_ ?_ ?_ cI ba aB (λ h' u=>iEA mg (T.g.keeps u) (by refine rwS (hG fC) ?_;exact fQ)) (.lst ga gc gd (L9 (w:=w) (P:=none) (g:=a9.heap.get?) gr) (by erw[iH];exact hZ ai (by decide)))) (λ v s' q=>?_) λ _ _ q=>q.elim
 ·exact KH rfl rfl
 ·exact KH rfl rfl
 ·intro x sl e
  exact rwE ((iD).mp (DT e)|>λ q=>(tQ q).2) ⟨_,rfl⟩
 ·exact RX rfl
 ·refine WW q λ aa al hk=>rwE aa ?_;obtain⟨h',t',rfl⟩:=al
  refine GoodW.toG (GL (.inl ⟨.bool true,.bool true,[],rfl,λ _=>rfl,.bool true,?_,λ _=>⟨.nil,λ _ h=>(by cases h)⟩⟩) hk rfl hg)
  exact TM _ _
noncomputable def Aa:List Stmt->Nat->Stmt
 | [],_=>.Pass ⟨0,0,0,0⟩
 | s::_,0=>s
 | _::r,n+1=>Aa r n
noncomputable def TW(e:Stmt):List Stmt:=if h:e.ctorIdx=0 then oB (motive_2:=λ _=>List Stmt) e h (λ _ _ b _ _ _ _ _ _ _=>b) else []
noncomputable def PJ(e:Stmt):Scope:=if h:e.ctorIdx=0 then oB (motive_2:=λ _=>Scope) e h (λ _ _ _ _ _ _ sc _ _ _=>sc) else default
noncomputable def T8(e:Stmt):List hV:=if h:e.ctorIdx=0 then oB (motive_2:=λ _=>List hV) e h (λ _ ps _ _ _ _ _ _ _ _=>ps.args.map (·.arg)) else []
def bd(i:Nat):List Stmt:=TW (Aa RE.main.body i)
def Aj(i:Nat):Scope:=PJ (Aa RE.main.body i)
def CO(i:Nat):List hV:=T8 (Aa RE.main.body i)
section
variable {α β:Type} {b:List Stmt} {r:Fl×R×A4}
abbrev sq(d:Nat)(sc:Scope)(b:List Stmt)(J:R)(O:A4):St:=Ud (exF (ev d) (Bf d) (exs d) G.gl G.N sc) b J O
abbrev Be(d:Nat)(sc:Scope)(J:R)(O:A4)(st:Stmt):St:=exF (ev d) (Bf d) (exs d) G.gl G.N sc J O st
theorem Ac(h:sq d sc b J O=res):exs (d+1) sc J b O=res:=h
theorem sq_nil:sq d sc [] J O=some (.nxt,J,O):=rfl
theorem Ab(h:Be d sc J O st=some (.nxt,J',O))(k:sq d sc rest J' O=res):sq d sc (st::rest) J O=res:=by
 show(Be d sc J O st).bind _=_
 exact rwE h k
theorem Az{v:V}(h:Be d sc J O st=some (.ret v,J',O)):sq d sc (st::rest) J O=some (.ret v,J',O):=by
 show(Be d sc J O st).bind _=_
 rw[h];rfl
theorem Ht(h:Be d sc J O st=some (.exc,J',O)):sq d sc (st::rest) J O=some (.exc,J',O):=by
 show(Be d sc J O st).bind _=_
 erw[h];rfl
def Q8(d:Nat)(sc:Scope)(rest:List Stmt)(o:St):St:=o.bind λ r=>match r.1 with
 | .nxt=>sq d sc rest r.2.1 r.2.2
 | _=>some r
theorem An{c:Bool}{t:hJ}{bt bo:List Stmt}{p:Pos}(h:Bf d sc J t O=some (.ok c,O))(k1:c=true->Q8 d sc rest (exs d sc J bt O)=res)(k2:c=false->Q8 d sc rest (exs d sc J bo O)=res) :
  sq d sc (.If t bt bo p::rest) J O=res:=by
 show(liftE (Bf d sc J t) J O λ c O=>if c then exs d sc J bt O else exs d sc J bo O).bind _=_
 unfold liftE
 erw[h]
 clear h
 cases c with
 | true=>exact k1 rfl
 | false=>exact k2 rfl
theorem thn_nxt{o:St}(h:o=some (.nxt,J',O))(k:sq d sc rest J' O=res):Q8 d sc rest o=res:=by erw[h];exact k
theorem Af{x:hV}{p q:Pos}{e:hJ}{t:TV}{s:Slot}(hc:(Ah (sc.names.lookup x)&&!(DN e)&&BI e)=true)(h:ev d sc J e O=some (.ok t,O))(hs:D4 x t=some s)(hr:BE J x s=J') :
  Be d sc J O (.Assign [.Name x p] e q)=some (.nxt,J',O):=by
 subst hr
 rw[iC,iC,jO]at hc
 (refine BX hc.1.1 (rwE hc.1.2 ?_);refine Gx iX (BX hc.2 ?_))
 unfold liftE
 erw[h]
 show(D4 x t).bind _=_
 erw[hs];rfl
theorem Ax{e:hJ}{p:Pos}{t:TV}{v:V}(hn:D6 sc J e=none)(h:ev d sc J e O=some (.ok t,O))(hv:valOf t=some v):Be d sc J O (.Return (some e) p)=some (.ret v,J,O):=by
 show(match D6 sc J e with | some v=>some (Fl.ret v,J,O) | none=>liftE (ev d sc J e) J O λ t O=>(valOf t).bind λ v=>some (Fl.ret v,J,O))=_
 erw[hn]
 unfold liftE
 erw[h]
 show(valOf t).bind _=_
 erw[hv];rfl
theorem V3{tgt it:hJ}{body bk:List Stmt}{p:Pos}{items:List V}(hc:(bk.isEmpty&&F6 sc tgt)=true)(h:By (ev d) sc J tgt it O=some (.ok items,O))(k:Bh (exs d) sc tgt body items J O=res) :
  Be d sc J O (.For tgt it body bk p)=res:=by
 refine BX hc ?_
 unfold liftE
 exact rwE h k
theorem Ap{f:hV}{fd:Ev}{vs:List V}{o:Out V×A4}(hf:G.fn f=some fd)(hb:bindA fd vs=some J)(h:exs d fd.scope J fd.body O=some r)(ho:outF (some r)=some o):cl (d+1) f vs O=some o:=by
 show(match G.fn f with | none=>none | some fd=>match bindA fd vs with | none=>none | some J=>outF (exs d fd.scope J fd.body O))=_
 erw[hf];dsimp only
 erw[hb];dsimp only
 exact rwE h ho
theorem As{m:Mo α}{f:α->Mo β}{a:α}{o:Option (Out β×A4)}(h:m O=some (.ok a,O))(k:f a O=o):Mo.bind m f O=o:=by
 unfold Mo.bind;erw[h];exact k
theorem Ar{f:hV}{p q:Pos}{as:List hJ}{ts:List TV}{vs:List V}{v:V}(hc:((AR sc f&&noStar as&&(Bn.contains f||(G.fn f).isSome))&&!(Bn.contains f)&&!(f=="dict"))=true)
  (ha:Mo.mapM (ev d sc J) as O=some (.ok ts,O)) (hv:BN ts=some vs) (h:cl d f vs O=some (.ok v,O)):ev (d+1) sc J (.Call (.Name f p) as [] q) O=some (.ok (v,.val),O):=by
 rw[iC,iC,jO,jO]at hc
 show(if (AR sc f&&noStar as&&(Bn.contains f||(G.fn f).isSome))=true then Mo.bind (.mapM (ev d sc J) as) λ ts=>Cv (cl d) f ts else Mo.fail) O=_
 refine rwE (if_pos hc.1.1) (As ha ?_)
 unfold Cv
 (erw[if_neg (λ e=>by obtain hc:=e▸hc;exact absurd hc.2 (by decide)),hc.1.2];erw[if_neg iX,hv])
 exact As h rfl
theorem Bb{f:hV}{p q:Pos}{as:List hJ}{ts:List TV}{v:V}(hc:((AR sc f&&noStar as)&&Bn.contains f&&!(f=="dict"))=true)
  (ha:Mo.mapM (ev d sc J) as O=some (.ok ts,O)) (h:Bu f (ts.map (·.1))=some v):ev (d+1) sc J (.Call (.Name f p) as [] q) O=some (.ok (AI v),O):=by
 rw[iC,iC,jO]at hc
 show(if (AR sc f&&noStar as&&(Bn.contains f||(G.fn f).isSome))=true then Mo.bind (.mapM (ev d sc J) as) λ ts=>Cv (cl d) f ts else Mo.fail) O=_
 (erw[hc.1.2,Bool.true_or];erw[Bool.and_true,if_pos hc.1.1])
 refine As ha ?_
 unfold Cv
 (erw[if_neg (λ e=>by rw[e]at hc;exact absurd hc.2 (by decide)),if_pos hc.1.2];erw[h])
 rfl
theorem Al{e:hJ}{t:TV}(h:ev d sc J e O=some (.ok t,O)):Mo.mapM (ev d sc J) [e] O=some (.ok [t],O):=As h rfl
theorem AO{e1 e2:hJ}{t1 t2:TV}(h1:ev d sc J e1 O=some (.ok t1,O))(h2:ev d sc J e2 O=some (.ok t2,O)):Mo.mapM (ev d sc J) [e1,e2] O=some (.ok [t1,t2],O):=As h1 (As (As h2 rfl) rfl)
theorem DD{e1 e2 e3:hJ}{t1 t2 t3:TV}  (h1:ev d sc J e1 O=some (.ok t1,O)) (h2:ev d sc J e2 O=some (.ok t2,O)) (h3:ev d sc J e3 O=some (.ok t3,O)):Mo.mapM (ev d sc J) [e1,e2,e3] O=some (.ok [t1,t2,t3],O):=
 As h1 (As (AO h2 h3) rfl)
theorem Aq{l r:hJ}{op:Operator}{p:Pos}{a b:TV}{c:V}(h1:ev d sc J l O=some (.ok a,O))(h2:ev d sc J r O=some (.ok b,O))(h3:A1 op a.1 b.1=some c):ev (d+1) sc J (.BinOp l op r p) O=some (.ok (AI c),O):=
 As h1 (As h2 (by erw[h3];rfl))
theorem AT{t a b:hJ}{p:Pos}{c:Bool}{o:Option (Out TV×A4)}(h:Bf d sc J t O=some (.ok c,O))(k1:c=true->ev d sc J a O=o)(k2:c=false->ev d sc J b O=o):ev (d+1) sc J (.IfExp t a b p) O=o:=by
 refine As (f:=λ c=>if c=true then ev d sc J a else ev d sc J b) h ?_
 clear h
 cases c with
 | true=>exact k1 rfl
 | false=>exact k2 rfl
theorem He{l m r:hJ}{o1 o2:CmpOp}{p:Pos}{a b c:TV}{x y:Bool}(hs:BC [m,r]=true)(h1:ev d sc J l O=some (.ok a,O))(h2:ev d sc J m O=some (.ok b,O))(h3:ev d sc J r O=some (.ok c,O))(h4:CK o1 a.1 b.1=some x)(h5:CK o2 b.1 c.1=some y) :
  Bf (d+1) sc J (.Compare l [o1,o2] [m,r] p) O=some (.ok (x&&y),O):=by
 show(if BC [m,r]=true then Mo.bind (ev d sc J l) λ a=>B3 (ev d) sc J a.1 [o1,o2] [m,r] else Mo.fail) O=_
 refine rwE (if_pos hs) (As h1 (As (m:=ev d sc J m) h2 (As (a:=x) (by erw[h4];rfl) ?_)))
 clear h1 h2 h4 hs
 cases x with
 | true=>exact As (m:=ev d sc J r) h3 (by erw[h5];rfl)
 | false=>rfl
end
noncomputable def SG:List Nat:=[97,98,45,99,100,46,61,63,233,116,8364,128512,120,9,121,66,252,32]
noncomputable def u8(c:Nat):List Nat:=if c < 128 then [c] else if c < 2048 then [192+c / 64,128+c % 64] else if c < 65536 then [224+c / 4096,128+c / 64 % 64,128+c % 64] else [240+c / 262144,128+c / 4096 % 64,128+c / 64 % 64,128+c % 64]
inductive Cs where
 | a | l | u
noncomputable def Cs.name:Cs->List Nat
 | .a=>[117,115,45,97,115,99,105,105]
 | .l=>[105,115,111,45,56,56,53,57,45,49]
 | .u=>[117,116,102,45,56]
noncomputable def Cs.most:Cs->Nat
 | .a=>128
 | .l=>256
 | .u=>1114112
def Cs.has(k:Cs)(c:Nat):Bool:=decide (c < k.most)
def Cs.enc(k:Cs)(c:Nat):List Nat:=match k with
 | .u=>u8 c
 | _=>[c]
noncomputable def Ad(l:List Nat):List V:=l.map fun(n:Nat)=>V.int (n:Int)
theorem Ip:∀ c∈SG,cl (d+20) "utf8_octets" [.int ((c:Nat):Int)] O=some (.ok (.lst (Ad (u8 c))),O):=by
 repeat (refine (iK).mpr ⟨by kernel_rfl,?_⟩)
 exact λ _ h=>nomatch h
theorem H9(k:Cs):∀ c∈SG,cl (d+20) "has_sign" [.str k.name,.int ((c:Nat):Int)] O=some (.ok (.bool (k.has c)),O):=by
 cases k <;>
 ·repeat (refine (iK).mpr ⟨by nofun,?_⟩)
  exact λ _ h=>nomatch h
theorem L4(k:Cs):cl (d+20) "need_charset" [.str k.name] O=some (.ok .none,O):=by cases k <;> nofun
section
variable {α β:Type} {b:List Stmt} {r:Fl×R×A4}
variable {v:V} {xs:List (hV×V)}
theorem for_nil:Bh Xf sc tgt body [] J O=some (.nxt,J,O):=rfl
theorem AV(ht:AJ tgt v=some xs)(hb:Xf sc (Aw J (xs.map λ p=>(p.1,Slot.val p.2))) body O=some (.nxt,J',O))(k:Bh Xf sc tgt body vs J' O=res):Bh Xf sc tgt body (v::vs) J O=res:=by
 show((AJ tgt v).bind _)=_
 erw[ht]
 show((Xf sc _ body O).bind _)=_
 exact rwE hb k
theorem Kr(ht:AJ tgt v=some xs)(hb:Xf sc (Aw J (xs.map λ p=>(p.1,Slot.val p.2))) body O=some (.cont,J',O))(k:Bh Xf sc tgt body vs J' O=res):Bh Xf sc tgt body (v::vs) J O=res:=by
 show((AJ tgt v).bind _)=_
 erw[ht]
 show((Xf sc _ body O).bind _)=_
 exact rwE hb k
theorem R3(ht:AJ tgt v=some xs)(hb:Xf sc (Aw J (xs.map λ p=>(p.1,Slot.val p.2))) body O=some (.brk,J',O)):Bh Xf sc tgt body (v::vs) J O=some (.nxt,J',O):=by
 show((AJ tgt v).bind _)=_
 erw[ht]
 show((Xf sc _ body O).bind _)=_
 erw[hb];rfl
theorem Np(ht:AJ tgt v=some xs)(hb:Xf sc (Aw J (xs.map λ p=>(p.1,Slot.val p.2))) body O=some (.exc,J',O)):Bh Xf sc tgt body (v::vs) J O=some (.exc,J',O):=by
 show((AJ tgt v).bind _)=_
 erw[ht]
 show((Xf sc _ body O).bind _)=_
 erw[hb];rfl
theorem Hf{u:V}(ht:AJ tgt v=some xs)(hb:Xf sc (Aw J (xs.map λ p=>(p.1,Slot.val p.2))) body O=some (.ret u,J',O)):Bh Xf sc tgt body (v::vs) J O=some (.ret u,J',O):=by
 show((AJ tgt v).bind _)=_
 erw[ht]
 show((Xf sc _ body O).bind _)=_
 erw[hb];rfl
noncomputable def IW(a n:Nat):List V:=(l6 a n).map fun(k:Nat)=>V.int (k:Int)
theorem FU(a n:Nat):IW a (n+1)=V.int (a:Int)::IW (a+1) n:=rfl
theorem KZ(a b:Nat)(h:a<=b):rangeL a b 1=(l6 a (b - a)).map fun(k:Nat)=>(k:Int):=by
 unfold rangeL
 (refine BX (by decide) (rwE (show((b:Int) - a+1 - 1).fdiv 1=((b - a:Nat):Int) by refine i7 (Int.fdiv_one ..) ?_;exact(Int.add_sub_cancel ..).trans (tR h).symm) ?_);erw[iZ,List.range'_eq_map_range];erw[jR])
 refine mP λ k _=>?_
 exact congrArg (vB _) (Int.one_mul _)
theorem IC(a b:Nat)(h:a<=b)(hb:b<=Ae):CJ a b 1=some (IW a (b - a)):=by
 obtain fA:=hb
 unfold CJ
 (erw[KZ a b h];rw[if_pos];erw[jR]);rfl
 refine iAA ⟨?_,?_,by decide⟩ (by decide) ?_
 ·unfold small;simp only[iC,decide_eq_true_eq];exact⟨jG (by decide) (iV _),jG ((kC).mpr (hZ h hb)) (by decide)⟩
 ·unfold small;simp only[iC,decide_eq_true_eq];exact⟨jG (by decide) (iV _),jG ((kC).mpr hb) (by decide)⟩
 ·erw[iH,List.length_range'];exact hZ (sO _ _) hb
theorem Bx{e:hJ}{as:List hJ}{ts:List TV}(hr:CX sc e=some as)(hn:Eb tgt=true)(ha:Mo.mapM (ev d sc J) as O=some (.ok ts,O))(h:BW (ts.map (·.1))=some vs):By (ev d) sc J tgt e O=some (.ok vs,O):=by
 unfold By
 erw[hr];dsimp only
 exact rwE (if_pos hn) (As ha (by erw[h];rfl))
theorem Bt{e:hJ}{t:TV}{u:V}(hc:((CX sc e).isNone&&(Fe sc e).isNone&&Eb tgt&&BC [e])=true)(h:ev d sc J e O=some (.ok t,O))(hu:valOf t=some u)(hv:PU u=some vs):By (ev d) sc J tgt e O=some (.ok vs,O):=by
 simp only[iC,jD]at hc
 refine qA hc λ aa h4=>?_;obtain⟨⟨h1,h2⟩,h3⟩:=aa
 unfold By
 erw[h1];dsimp only
 erw[h2];dsimp only
 erw[if_pos (by refine rwE h3 (rwE h4 ?_);rfl)]
 exact As h (by erw[hu];show(Mo.lift (PU u)) O=_;erw[hv];rfl)
theorem Ay{o i:hJ}{p:Pos}{t k:TV}{j:Int}{u:V}(hc:((D8 i).isNone&&(Ig o i).isNone&&DK i)=true)(h1:ev d sc J o O=some (.ok t,O))(h2:ev d sc J i O=some (.ok k,O))(hp:t.1.isPen=false)(hj:k.1.int?=some j)(h:Bg t.1 j=some u) :
  ev (d+1) sc J (.Subscript o i p) O=some (.ok (u,.val),O):=by
 simp only[iC,jD]at hc
 refine qA hc λ aa c3=>?_;obtain⟨c1,c2⟩:=aa
 show(match D8 i with
  | some (lo,hi)=>Mo.bind (ev d sc J o) λ t=>.bind (Fu (ev d) sc J lo) λ l=>.bind (Fu (ev d) sc J hi) λ h=>.lift ((Bo t.1 l h).map AI)
  | none=>_) O=_
 erw[c1];dsimp only
 erw[c2];dsimp only
 refine rwE (if_pos c3) (As h1 (As h2 ?_))
 unfold IG
 (erw[hp,if_neg iX];erw[hj])
 show Mo.lift ((Bg t.1 j).map _) O=_
 erw[h];rfl
theorem Dq{x:hJ}{p:Pos}{c:Bool}(h:Bf d sc J x O=some (.ok c,O)):Bf (d+1) sc J (.UnaryOp .Not x p) O=some (.ok (!c),O):=As h rfl
theorem Ey{f:hJ}{as:List hJ}{ks:List Keyword}{q:Pos}{c:Bool}{ow:HQ}(h:ev d sc J (.Call f as ks q) O=some (.ok (.bool c,ow),O)):Bf (d+1) sc J (.Call f as ks q) O=some (.ok c,O):=As h rfl
theorem AN{l r:hJ}{o1:CmpOp}{p:Pos}{a b:TV}{x:Bool}(hs:BC [r]=true)(h1:ev d sc J l O=some (.ok a,O))(h2:ev d sc J r O=some (.ok b,O))(h4:CK o1 a.1 b.1=some x):Bf (d+1) sc J (.Compare l [o1] [r] p) O=some (.ok x,O):=by
 show(if BC [r]=true then Mo.bind (ev d sc J l) λ a=>B3 (ev d) sc J a.1 [o1] [r] else Mo.fail) O=_
 exact rwE (if_pos hs) (As h1 (As (m:=ev d sc J r) h2 (by erw[h4];rfl)))
theorem AX{x m:hV}{p ap q q':Pos}{as:List hJ}{ts:List TV}(hc:(okName x&&Ah (sc.names.lookup x)&&De J x&&C4 m&&(ap.endLine==q.line)&&decide (as.length < 30)&&noStar as)=true)
  (ha:Mo.mapM (ev d sc J) as O=some (.ok ts,O)) (h:Hr J x m ts=some J'):Be d sc J O (.Expr (.Call (.Attribute (.Name x p) m ap) as [] q) q')=some (.nxt,J',O):=by
 refine BX hc ?_
 unfold liftE
 erw[ha]
 show(Hr J x m ts).map _=_
 erw[h];rfl
theorem Jh{f:hV}{p q q':Pos}{as:List hJ}{t:TV}(h:ev d sc J (.Call (.Name f p) as [] q) O=some (.ok t,O)):Be d sc J O (.Expr (.Call (.Name f p) as [] q) q')=some (.nxt,J,O):=by
 show liftE (ev d sc J (.Call (.Name f p) as [] q)) J O (λ _ O'=>some (Fl.nxt,J,O'))=_
 unfold liftE
 exact rwE h rfl
theorem AD(h:Be d sc J O st=some r):sq d sc [st] J O=some r:=by
 show(Be d sc J O st).bind _=_
 erw[h]
 clear h
 obtain⟨fl,J',O'⟩:=r
 cases fl <;> rfl
theorem BK{it:hJ}{bk:List Stmt}{p:Pos}{items:List V}(hc:(bk.isEmpty&&F6 sc tgt)=true)(h:By (ev d) sc J tgt it O=some (.ok items,O))(k:Bh (exs d) sc tgt body items J O=some r) :
  sq d sc (.For tgt it body bk p::rest) J O=Q8 d sc rest (some r):=by
 show(Be d sc J O (.For tgt it body bk p)).bind _=_
 erw[V3 hc h k];rfl
theorem BQ{o:St}{r:Fl×R×A4}(h:o=some r)(k:Q8 d sc rest (some r)=res):Q8 d sc rest o=res:=by erw[h];exact k
end
noncomputable def Ck(e:Stmt):hJ:=if h:e.ctorIdx=9 then rR (motive_2:=λ _=>hJ) e h (λ t _ _ _ _=>t) else .Constant .none 0 ⟨0,0,0,0⟩
noncomputable def G7(e:Stmt):hJ:=if h:e.ctorIdx=9 then rR (motive_2:=λ _=>hJ) e h (λ _ i _ _ _=>i) else .Constant .none 0 ⟨0,0,0,0⟩
noncomputable def Cl(e:Stmt):List Stmt:=if h:e.ctorIdx=9 then rR (motive_2:=λ _=>List Stmt) e h (λ _ _ b _ _=>b) else []
noncomputable def Bz(e:Stmt):hJ:=if h:e.ctorIdx=12 then sC (motive_2:=λ _=>hJ) e h (λ t _ _ _=>t) else .Constant .none 0 ⟨0,0,0,0⟩
theorem AB{J J':R}{x:hV}{vs:List V}{t:TV}{v:V}(hx:J.lookup x=some (.own vs))(hv:valOf t=some v)(hz:vs.length < Ae)(hr:BE J x (.own (vs++[v]))=J'):Hr J x "append" [t]=some J':=by
 unfold Hr
 erw[hx]
 dsimp only[kN,Slot.own?]
 refine BX rfl ?_
 dsimp only[one?,List.isEmpty_nil]
 (refine rwE (if_pos rfl) (i7 (kN ..) ?_);refine rwE hv (i7 (kN ..) ?_);exact BX hz (rwE hr rfl))
theorem H3{J J':R}{x:hV}{vs ws:List V}{ow:HQ}(hx:J.lookup x=some (.own vs))(hz:vs.length+ws.length<=Ae)(hr:BE J x (.own (vs++ws))=J'):Hr J x "extend" [(.lst ws,ow)]=some J':=by
 unfold Hr
 erw[hx]
 dsimp only[kN,Slot.own?]
 refine Gx (by decide) (BX rfl ?_)
 dsimp only[one?,List.isEmpty_nil]
 refine rwE (if_pos rfl) (i7 (kN ..) ?_)
 dsimp only[V.lst?]
 (refine rwE (kN ..) (BX hz ?_);exact rwE hr rfl)
theorem J4{t pre post:List Nat}{c:Nat}(e:t=pre++c::post):Bg (.str t) (pre.length:Int)=some (.str [c]):=by
 show(if (0:Int)<=(pre.length:Int) then(t[(pre.length:Int).toNat]?).map fun(c:Nat)=>V.str [c] else none)=_
 (refine BX (iV _) (rwE (iZ ..) ?_);erw[e,mX (j3 _)];erw[uJ]);rfl
abbrev MG(k:Cs)(t:List Nat)(acc:List V):R:=[("charset",.val (.str k.name)),("text",.val (.str t)),("row",.own acc)]
abbrev Dw(k:Cs)(t:List Nat)(acc:List V)(i c:Int):R:=[("charset",.val (.str k.name)),("text",.val (.str t)),("row",.own acc),("at",.val (.int i)),("code",.val (.int c))]
def XC(k:Cs)(t:List Nat)(acc:List V)(J:R):Prop:=J=MG k t acc\/∃ i c,J=Dw k t acc i c
theorem FZ(k:Cs)(c:Nat):(k.enc c).length<=4:=by
 cases k with
 | u=>
  show(u8 c).length<=4
  unfold u8
  split
  ·exact(by decide:1<=4)
  ·split
   ·exact(by decide:2<=4)
   ·split
    ·exact(by decide:3<=4)
    ·exact(by decide:4<=4)
 | _=>exact(by decide:1<=4)
theorem AS(a b:List Nat):Ad (a++b)=Ad a++Ad b:=k8
theorem AH(a:List Nat):(Ad a).length=a.length:=iH ..
theorem Ai{n:Nat}(h:n<=2000000):n<=Ae:=by unfold Ae;exact iL h
theorem Ao{n:Nat}(h:n<=1000000):n < Ae:=by unfold Ae;exact iQ (by assumption) (by decide)
theorem Nj(k:Cs){t pre post:List Nat}{c:Nat}{acc:List V}{J:R}(e:t=pre++c::post)(aj:XC k t acc J) :
  Be (d+27) (Aj 37) (Aw J [("at",.val (.int (pre.length:Int)))]) O (Aa (Cl (Aa (bd 37) 2)) 0)=some (.nxt,Dw k t acc (pre.length:Int) (c:Int),O):=by
 rcases aj with rfl | ⟨i,c',rfl⟩ <;>
 ·refine Af (t:=(.int c,.val)) (s:=.val (.int c)) ?_ (Bb (ts:=[(.str [c],.val)]) ?_ (Al (Ay (t:=(.str t,.val)) (k:=(.int pre.length,.val)) (j:=pre.length) ?_ ?_ ?_ rfl rfl (J4 e))) rfl) rfl ?_ <;> nofun
theorem ME(k:Cs){t:List Nat}{c:Nat}{acc:List V}{i:Int}(hc:c∈SG):Bf (d+27) (Aj 37) (Dw k t acc i c) (Bz (Aa (Cl (Aa (bd 37) 2)) 1)) O=some (.ok (!(k.has c)),O):=by
 refine Dq (Ey (ow:=.val) (Ar (ts:=[(.str k.name,.val),(.int c,.val)]) (vs:=[.str k.name,.int c]) ?_ (AO ?_ ?_) rfl ?_))
 ·kernel_rfl
 ·nofun
 ·nofun
 ·exact(H9 (d:=d+4) (O:=O) k c hc)
theorem TZ(k:Cs){t pre post:List Nat}{c:Nat}{acc:List V}{J:R}(hc:c∈SG)(e:t=pre++c::post)(aj:XC k t acc J)(hz:acc.length<=1000000)(h:k.has c=true) :
  exs (d+28) (Aj 37) (Aw J [("at",.val (.int (pre.length:Int)))]) (Cl (Aa (bd 37) 2)) O=some (.nxt,Dw k t (acc++Ad (k.enc c)) (pre.length:Int) (c:Int),O):=by
 refine Ac (Ab (Nj k e aj) (An (ME k hc) (λ q=>?_) λ _=>thn_nxt (J':=Dw k t acc (pre.length:Int) (c:Int)) rfl ?_))
 ·rw[h]at q;exact fls q
 clear e h aj
 cases k with
 | u=>
  refine An (c:=true) rfl (λ _=>?_) (λ q=>(nc j9 q (.refl false)))
  refine thn_nxt (J':=Dw .u t (acc++Ad (u8 c)) (pre.length:Int) (c:Int)) (Ac (AD (AX (ts:=[(.lst (Ad (u8 c)),.val)]) ?_ (Al (Ar (ts:=[(.int c,.val)]) (vs:=[.int c]) ?_ (Al ?_) rfl ?_)) ?_))) rfl
  ·nofun
  ·nofun
  ·nofun
  ·exact(Ip (d:=d+5) (O:=O) c hc)
  exact H3 (vs:=acc) (ws:=Ad (u8 c)) rfl (Ai (by erw[AH];have:=FZ .u c;exact hZ (j0 hz this) (by decide))) rfl
 | _=>
  refine An (c:=false) rfl (λ q=>(fls q)) (λ _=>?_)
  refine thn_nxt (J':=Dw _ t (acc++Ad [c]) (pre.length:Int) (c:Int)) (Ac (AD (AX (ts:=[(.int c,.val)]) ?_ (Al ?_) ?_))) rfl
  ·nofun
  ·nofun
  exact AB (vs:=acc) rfl rfl (Ao hz) rfl
theorem Pa(k:Cs){t pre post:List Nat}{c:Nat}{acc:List V}{J:R}(hc:c∈SG)(e:t=pre++c::post)(aj:XC k t acc J)(h:k.has c=false) :
  exs (d+28) (Aj 37) (Aw J [("at",.val (.int (pre.length:Int)))]) (Cl (Aa (bd 37) 2)) O=some (.exc,Dw k t acc (pre.length:Int) (c:Int),O):=by
 refine Ac (Ab (Nj k e aj) (An (ME k hc) (λ _=>BQ (r:=(.exc,Dw k t acc (pre.length:Int) (c:Int),O)) ?_ rfl) λ q=>?_))
 ·clear e hc aj
  cases k <;> nofun
 ·rw[h]at q;exact nc j9 q (.refl false)
theorem EI(k:Cs)(l:List Nat):(l.flatMap k.enc).length<=4 * l.length:=by
 induction l with
 | nil=>exact j3 _
 | cons c l ih=>(erw[iS,hW];erw[i6]);obtain this:=FZ k c;exact hZ (j7 (lB ..)) (j0 ih this)
theorem RT(k:Cs){t:List Nat}(hl:t.length<=1000)(post:List Nat):∀ (pre:List Nat) {J:R},(∀ c∈post,c∈SG)->t=pre++post->XC k t (Ad (pre.flatMap k.enc)) J ->
  ∃ J',(post.all k.has=true->Bh (exs (d+28)) (Aj 37) (Ck (Aa (bd 37) 2)) (Cl (Aa (bd 37) 2)) (IW pre.length post.length) J O=some (.nxt,J',O)/\XC k t (Ad (t.flatMap k.enc)) J') /\
   (post.all k.has=false->Bh (exs (d+28)) (Aj 37) (Ck (Aa (bd 37) 2)) (Cl (Aa (bd 37) 2)) (IW pre.length post.length) J O=some (.exc,J',O)):=by
 induction post with
 | nil=>
  intro pre J _ e aj
  replace e:=(iO ..)▸e
  exact iEA J (λ _=>⟨for_nil,e▸aj⟩) (λ q=>(nc j9 q (.refl false)))
 | cons c post ih=>
  intro pre J hs e aj
  obtain hz:(Ad (pre.flatMap k.enc)).length<=1000000:=by
   erw[AH]
   obtain h1:=EI k pre
   obtain h2:=hZ (by erw[e,hW];exact jF _ _) hl
   exact hZ h1 (hZ (iP _ h2) (by decide))
  (erw[lD,i6];erw[FU])
  obtain hc:=hs c i8
  cases h:k.has c with
  | true=>
   obtain⟨J',k1,k2⟩:=ih (pre++[c]) (J:=Dw k t (Ad (pre.flatMap k.enc)++Ad (k.enc c)) pre.length c) (λ x hx=>hs x (i9 _ hx)) (by refine i7 e (rwE (iF ..) ?_);rfl) (.inr (RF _ _ (by(erw[kE,AS];erw[iS,kD];exact rwE (iO ..) rfl))))
   rw[hW,iT]at k1 k2
   obtain hb:=TZ (d:=d) (O:=O) k hc e aj hz h
   exact iEA J' (λ q=>⟨AV (xs:=[("at",.int pre.length)]) rfl hb (k1 q).1,(k1 q).2⟩) (λ q=>AV (xs:=[("at",.int pre.length)]) rfl hb (k2 q))
  | false=>exact iEA _ (λ q=>((fls q))) (λ _=>Np (xs:=[("at",.int pre.length)]) rfl (Pa (d:=d) (O:=O) k hc e aj h))
theorem VU(l:List Nat)(h:∀ c∈l,c < 256):CY (l.map fun(n:Nat)=>(n:Int))=some l:=by
 induction l with
 | nil=>rfl
 | cons c l ih=>
  show(if 0<=(c:Int)/\(c:Int) < 256 then(CY (l.map fun(n:Nat)=>(n:Int))).map ((c:Int).toNat::·) else none)=_
  rw[if_pos ⟨iV _,by obtain this:=h c i8;exact (jU).mpr (by assumption)⟩,ih λ x hx=>h x (i9 _ hx)];rfl
theorem Nw(l:List Nat):Ct (Ad l)=some (l.map fun(n:Nat)=>(n:Int)):=by
 induction l with
 | nil=>rfl
 | cons c l ih=>
  show((Ct (Ad l)).map _)=_
  erw[ih];rfl
theorem PM(as:List V):Bu "bytes" as=(lstInts? as).bind λ l=>(CY l).map V.bytes:=rfl
theorem Bi(l:List Nat)(h:∀ c∈l,c < 256):Bu "bytes" [.lst (Ad l)]=some (.bytes l):=by
 refine i7 (PM ..) ?_
 show((Ct (Ad l)).bind λ l=>(CY l).map V.bytes)=_
 erw[Nw]
 show(CY _).map _=_
 erw[VU l h];rfl
theorem Lx(k:Cs){c:Nat}(hc:c∈SG)(h:k.has c=true):∀ x∈k.enc c,x < 256:=by
 have:∀ k:Cs,∀ c∈SG,k.has c=true->∀ x∈k.enc c,x < 256:=by intro k;cases k <;> decide
 exact this k c hc h
theorem KE(k:Cs){t:List Nat}(hs:∀ c∈t,c∈SG)(h:t.all k.has=true):∀ x∈t.flatMap k.enc,x < 256:=λ x hx=>by
 exact A9 ((m9).mp hx) λ c h1 h2=>Lx k (hs c h1) ((jJ).mp h c h1) x h2
theorem CM(k:Cs){t:List Nat}(hs:∀ c∈t,c∈SG)(hl:t.length<=1000):cl (d+30) "octets_in" [.str k.name,.str t] O=if t.all k.has then some (.ok (.bytes (t.flatMap k.enc)),O) else some (.exc,O):=by
 refine A9 (RT (d:=d) (O:=O) k hl t [] (J:=MG k t []) hs rfl (.inl rfl)) λ J' k1 k2=>?_
 have h0:=L4 (d:=d+7) (O:=O) k
 have hf:G.fn "octets_in"=some ⟨CO 37,[],Aj 37,bd 37⟩:=rfl
 have hr:BW [.int t.length]=some (IW 0 t.length):=IC 0 t.length (kA _) (Ai (hZ hl (by decide)))
 have pre:∀ {r},Bh (exs (d+28)) (Aj 37) (Ck (Aa (bd 37) 2)) (Cl (Aa (bd 37) 2)) (IW 0 t.length) (MG k t []) O=some r ->
   exs (d+29) (Aj 37) [("charset",.val (.str k.name)),("text",.val (.str t))] (bd 37) O=Q8 (d+28) (Aj 37) [Aa (bd 37) 3] (some r):=fun {r} h=>by
  refine Ac (Ab (J':=[("charset",.val (.str k.name)),("text",.val (.str t))]) (Jh (t:=(.none,.val)) (Ar (ts:=[(.str k.name,.val)]) (vs:=[.str k.name]) ?_ (Al ?_) rfl ?_)) (Ab (J':=MG k t []) ?_ ?_))
  ·nofun
  ·nofun
  ·exact h0
  ·kernel_rfl
  ·refine BK ?_ (Bx (ts:=[(.int t.length,.val)]) rfl ?_ ?_ hr) h
   all_goals nofun
 cases h:t.all k.has with
 | true=>
  refine qA (k1 h) λ h1 h2=>Ap hf (J:=[("charset",.val (.str k.name)),("text",.val (.str t))]) rfl ((pre h1).trans ?_) (r:=(.ret (.bytes (t.flatMap k.enc)),J',O)) rfl
  have hb:=Bi _ (KE k hs h)
  clear h0 h1 hl hr hs k1
  rcases h2 with rfl | ⟨i,c,rfl⟩
  ·refine Az (Ax ?_ (Bb (ts:=[(.lst (Ad (t.flatMap k.enc)),.bor)]) ?_ (Al ?_) hb) rfl)
   all_goals nofun
  ·refine Az (Ax ?_ (Bb (ts:=[(.lst (Ad (t.flatMap k.enc)),.bor)]) ?_ (Al ?_) hb) rfl)
   all_goals nofun
 | false=>exact Ap hf (J:=[("charset",.val (.str k.name)),("text",.val (.str t))]) rfl (pre (k2 h)) rfl
theorem CG{o:hJ}{m:hV}{ap q:Pos}{as:List hJ}{t:TV}{ts:List TV}{u:V}(hc:(DB o&&(ap.endLine==q.line)&&decide (as.length < 30)&&noStar as)=true)(h1:ev d sc J o O=some (.ok t,O))(hm:(FD t.1 m).isSome=true)
  (ha:Mo.mapM (ev d sc J) as O=some (.ok ts,O)) (h:CS t.1 m (ts.map (·.1))=some u):ev (d+1) sc J (.Call (.Attribute o m ap) as [] q) O=some (.ok (AI u),O):=by
 show(if (DB o&&(ap.endLine==q.line)&&decide (as.length < 30)&&noStar as)=true then Mo.bind (ev d sc J o) λ t=>if (FD t.1 m).isSome=true then Mo.bind (.mapM (ev d sc J) as) λ ts=>.lift ((CS t.1 m (ts.map (·.1))).map AI) else .fail else .fail) O=_
 erw[if_pos hc]
 refine As h1 ?_
 exact rwE (if_pos hm) (As ha (by erw[h];rfl))
noncomputable def bts(l:List (List Nat)):List V:=l.map .bytes
theorem IO(l:List (List Nat)):Ce (bts l)=some l:=by
 induction l with
 | nil=>rfl
 | cons c l ih=>
  show((Ce (bts l)).map _)=_
  erw[ih];rfl
theorem Jv(o:V)(as:List V):CS o "join" as=UK o as:=by kernel_rfl
theorem Hz(l:List (List Nat)):joinL [] l=l.flatten:=by
 induction l with
 | nil=>rfl
 | cons x l ih=>cases l with
  | nil=>show x=_;(erw[lG,qZ];exact rwE (iO ..) rfl)
  | cons y l=>show x++[]++joinL [] (y::l)=_;(erw[ih,iO];exact rwE (lG (l:=x)) rfl)
theorem Kf(l:List (List Nat))(h:(l.map jZ).sum<=Ae):CS (.bytes []) "join" [.lst (bts l)]=some (.bytes l.flatten):=by
 refine i7 (Jv ..) ?_
 show((Ce (bts l)).bind λ l=>if B2 0 l then some (V.bytes (joinL [] l)) else none)=_
 erw[IO]
 show(if B2 0 l then some (V.bytes (joinL [] l)) else none)=_
 exact rwE (if_pos (by show _+l.length * 0<=_;erw[sD];exact h)) (rwE (Hz ..) rfl)
noncomputable def OB:List Nat:=[97,98,45,99,100,46,61,63,116,120,9,121,66,32,233,252,195,169,188,226,130,172,240,159,152,128]
theorem Ln(k:Cs):∀ c∈SG,k.has c=true->∀ x∈k.enc c,x∈OB:=by cases k <;> decide
noncomputable def hexD(n:Nat):Nat:=if n < 10 then 48+n else 55+n
def Lb(c:Nat):Bool:=Hp c||c==33||c==42||c==43||c==45||c==47
def q1(c:Nat):List Nat:=if c=32 then [95] else if Lb c then [c] else [61,hexD (c / 16),hexD (c % 16)]
theorem PH(c:Nat):(q1 c).length<=3:=by
 unfold q1
 by_cases h:c=32
 ·exact rwE (if_pos h) (by decide:1<=3)
 ·erw[if_neg h]
  by_cases h:Lb c=true
  ·exact rwE (if_pos h) (by decide:1<=3)
  ·exact rwE (if_neg h) (by decide:3<=3)
theorem Iq:∀ c∈OB,cl (d+10) "quoted_code" [.int ((c:Nat):Int)] O=some (.ok (.bytes [61,hexD (c / 16),hexD (c % 16)]),O):=by
 repeat (refine (iK).mpr ⟨by nofun,?_⟩)
 exact λ _ h=>nomatch h
noncomputable abbrev Nx(t:List Nat)(acc:List V):R:=[("octets",.val (.bytes t)),("parts",.own acc)]
noncomputable abbrev Er(t:List Nat)(acc:List V)(c:Int):R:=[("octets",.val (.bytes t)),("parts",.own acc),("code",.val (.int c))]
def wqB:List Stmt:=Cl (Aa (bd 49) 1)
noncomputable def Ga(e:Stmt):List Stmt:=if h:e.ctorIdx=12 then sC (motive_2:=λ _=>List Stmt) e h (λ _ _ o _=>o) else []
theorem PG{t:List Nat}{acc:List V}:∀ c∈OB,Bf (d+16) (Aj 49) (Er t acc ((c:Nat):Int)) (Bz (Aa (Ga (Aa wqB 0)) 0)) O=some (.ok (Lb c),O):=by
 repeat (refine (iK).mpr ⟨by nofun,?_⟩)
 exact λ _ h=>nomatch h
theorem RL{t:List Nat}{acc:List V}{c:Nat}{J:R}(hc:c∈OB)(aj:J=Nx t acc\/∃ i,J=Er t acc i)(hz:acc.length<=1000000) :
  exs (d+18) (Aj 49) (Aw J [("code",.val (.int (c:Int)))]) wqB O=some (.nxt,Er t (acc++[.bytes (q1 c)]) (c:Int),O):=by
 obtain e:Aw J [("code",.val (.int (c:Int)))]=Er t acc c:=by rcases aj with rfl | ⟨i,rfl⟩ <;> nofun
 erw[e]
 obtain app:∀ u:V,BE (Er t acc c) "parts" (.own (acc++[u]))=Er t (acc++[u]) c:=λ u=>by nofun
 refine Ac (An (c:=decide ((c:Int)=32)) rfl (λ q=>?_) λ q=>?_)
 ·have q:c=32:=by obtain this:=of_decide_eq_true q;exact nJ this
  have e1:q1 c=[95]:=by unfold q1;exact BX q rfl
  erw[e1]
  refine thn_nxt (Ac (AD (AX (ts:=[(.bytes [95],.val)]) ?_ ?_ (AB (vs:=acc) ?_ rfl (Ao hz) (app _))))) sq_nil
  all_goals nofun
 ·obtain q:=λ z=>by obtain this:=of_decide_eq_false q;exact this (congrArg uP z)
  refine thn_nxt (J':=Er t (acc++[.bytes (q1 c)]) c) (Ac (An (PG (d:=d) (O:=O) (t:=t) (acc:=acc) c hc) (λ q'=>?_) λ q'=>?_)) sq_nil
  ·obtain e1:q1 c=[c]:=by unfold q1;exact Gx q (BX q' rfl)
   erw[e1]
   refine thn_nxt (Ac (AD (AX (ts:=[(.bytes [c],.val)]) ?_ (Al (Bb (ts:=[(.lst [.int c],.fresh)]) ?_ (Al ?_) (Bi [c] (λ x hx=>by erw[(iD).mp hx];exact(show ∀ c∈OB,c < 256 by decide) c hc)))) (AB (vs:=acc) ?_ rfl (Ao hz) (app _))))) sq_nil
   all_goals nofun
  ·obtain e1:q1 c=[61,hexD (c / 16),hexD (c % 16)]:=by unfold q1;exact Gx q (Gx (by erw[q'];exact iX) rfl)
   erw[e1]
   refine thn_nxt (Ac (AD (AX (ts:=[(.bytes [61,hexD (c / 16),hexD (c % 16)],.val)]) ?_ (Al (Ar (ts:=[(.int c,.val)]) (vs:=[.int c]) ?_ (Al ?_) rfl ?_)) (AB (vs:=acc) ?_ rfl (Ao hz) (app _))))) sq_nil
   ·nofun
   ·nofun
   ·nofun
   ·exact(Iq (d:=d+4) (O:=O) c hc)
   ·nofun
theorem EJ{α γ:Type}{sc:Scope}{Xf:Scope->R->List Stmt->A4->St}{tgt:hJ}{body:List Stmt}{x:hV}{toV:α->V}{Inv:List γ->R->Prop}{g:α->List γ}{B:Nat}(hx:name? tgt=some x)(l:List α)
  (step:∀ a∈l,∀ acc J,Inv acc J->acc.length<=B->∃ J',Xf sc (Aw J [(x,.val (toV a))]) body O=some (.nxt,J',O)/\Inv (acc++g a) J') :
  ∀ {acc J},Inv acc J->acc.length+(l.flatMap g).length<=B->∃ J',Bh Xf sc tgt body (l.map toV) J O=some (.nxt,J',O)/\Inv (acc++l.flatMap g) J':=by
 induction l with
 | nil=>intro acc J h _;exact iEA J for_nil (by erw[kD,iO];exact h)
 | cons a l ih=>
  intro acc J h hz
  rw[iS,hW]at hz
  refine A9 (step a i8 acc J h (hZ (jF _ _) hz)) λ J1 h1 h2=>?_
  obtain⟨J2,h3,h4⟩:=ih (λ b hb=>step b (i9 _ hb)) h2 (by erw[hW,mE];exact hz)
  refine iEA J2 (AV (xs:=[(x,toV a)]) (by unfold AJ;exact rwE hx rfl) h1 h3) (rwE iS (rwS (iF ..) ?_));exact h4
theorem Dm{α β:Type}(l:List α)(f:α->β):(l.flatMap λ a=>[f a])=l.map f:=by
 induction l with
 | nil=>rfl
 | cons a l ih=>refine i7 iS (rwE ih ?_);rfl
theorem VO(l:List Nat)(g:Nat->List Nat)(m:Nat)(h:∀ c,(g c).length<=m):((l.map g).map jZ).sum<=m * l.length:=by
 induction l with
 | nil=>exact j3 _
 | cons c l ih=>rw[iW,iW,lC,i6];obtain this:=h c;erw[qL];exact hZ (j7 (lB ..)) (j0 ih this)
def Xw(t:List Nat)(acc:List V)(J:R):Prop:=J=Nx t acc\/∃ i,J=Er t acc i
theorem YE{t:List Nat}(hs:∀ c∈t,c∈OB)(hl:t.length<=1000):cl (d+20) "word_q_encoded" [.bytes t] O=some (.ok (.bytes (t.flatMap q1)),O):=by
 obtain⟨J',h1,h2⟩:=EJ (O:=O) (Xf:=exs (d+18)) (sc:=Aj 49) (tgt:=Ck (Aa (bd 49) 1)) (body:=wqB) (x:="code") (toV:=fun(n:Nat)=>V.int (n:Int)) (Inv:=Xw t) (g:=λ c=>[.bytes (q1 c)]) (B:=1000) rfl t
  (λ c hc acc J h hz=>iEA _ (RL (d:=d) (hs c hc) h (hZ hz (by decide))) (.inr ⟨_,rfl⟩)) (acc:=[]) (J:=Nx t []) (.inl rfl) (by erw[Dm,iH];simpa using hl)
 replace h2:=(j4 ..)▸((Dm ..)▸h2)
 have hj:CS (.bytes []) "join" [.lst (t.map λ c=>V.bytes (q1 c))]=some (.bytes (t.flatMap q1)):=by
  obtain this:=Kf (t.map q1) (hZ (VO t q1 3 PH) (Ai (hZ (iP _ hl) (by decide))))
  rw[bts,jR]at this
  exact this
 refine Ap (fd:=⟨CO 49,[],Aj 49,bd 49⟩) (J:=[("octets",.val (.bytes t))]) (r:=(.ret (.bytes (t.flatMap q1)),J',O)) ?_ ?_ (Ac (Ab (J':=Nx t []) ?_ ((BK ?_ (Bt (t:=(.bytes t,.val)) ?_ ?_ rfl rfl) h1).trans ?_))) rfl
 ·nofun
 ·nofun
 ·nofun
 ·nofun
 ·nofun
 ·nofun
 ·clear h1 hl hs
  rcases h2 with rfl | ⟨i,rfl⟩ <;>
  ·refine Az (Ax ?_ (CG (t:=(.bytes [],.val)) (ts:=[(.lst (t.map λ c=>V.bytes (q1 c)),.bor)]) ?_ ?_ ?_ (Al ?_) hj) rfl) <;> nofun
theorem add_bytes2{a b:List Nat}(h:a.length+b.length<=Ae):A1 .Add (.bytes a) (.bytes b)=some (.bytes (a++b)):=by
 exact BX h rfl
theorem Qj{a b:List Nat}(h:a.length+b.length<=Ae):A1 .Add (.str a) (.str b)=some (.str (a++b)):=by
 exact BX h rfl
theorem Dz{a b:List V}(h:a.length+b.length<=Ae):A1 .Add (.lst a) (.lst b)=some (.lst (a++b)):=by
 exact BX h rfl
noncomputable abbrev M0(t acc:List Nat):R:=[("row",.val (.bytes t)),("found",.val (.bytes acc))]
noncomputable abbrev CA(t acc:List Nat)(c:Int)(s:V):R:=[("row",.val (.bytes t)),("found",.val (.bytes acc)),("code",.val (.int c)),("sign",.val s)]
def Wv:List Stmt:=Cl (Aa (bd 81) 1)
theorem R8{t acc:List Nat}:∀ c∈OB,Be (d+17) (Aj 81) ([("row",.val (.bytes t)),("found",.val (.bytes acc)),("code",.val (.int ((c:Nat):Int)))]) O (Aa Wv 0)=some (.nxt,CA t acc c (.str [c]),O):=by
 repeat (refine (iK).mpr ⟨by nofun,?_⟩)
 exact λ _ h=>nomatch h
theorem QG{t acc:List Nat}{s:V}:∀ c∈OB,Be (d+17) (Aj 81) ([("row",.val (.bytes t)),("found",.val (.bytes acc)),("code",.val (.int ((c:Nat):Int))),("sign",.val s)]) O (Aa Wv 0)=some (.nxt,CA t acc c (.str [c]),O):=by
 repeat (refine (iK).mpr ⟨by nofun,?_⟩)
 exact λ _ h=>nomatch h
theorem R7{t acc:List Nat}:∀ c∈OB,Bf (d+17) (Aj 81) (CA t acc ((c:Nat):Int) (.str [c])) (Bz (Aa Wv 1)) O=some (.ok (Lb c),O):=by
 repeat (refine (iK).mpr ⟨by nofun,?_⟩)
 exact λ _ h=>nomatch h
noncomputable def GG(e:hJ):hJ:=if h:e.ctorIdx=2 then uK (motive_1:=λ _=>hJ) e h (λ _ _ r _=>r) else e
noncomputable def D5(e:Stmt):hJ:=if h:e.ctorIdx=5 then nN (motive_2:=λ _=>hJ) e h (λ _ v _=>v) else .Constant .none 0 ⟨0,0,0,0⟩
theorem WO{t acc:List Nat}:∀ c∈OB,ev (d+14) (Aj 81) (CA t acc ((c:Nat):Int) (.str [c])) (GG (D5 (Aa (Ga (Aa (Ga (Aa Wv 1)) 0)) 0))) O=some (.ok (.bytes [hexD (c / 16),hexD (c % 16)],.val),O):=by
 repeat (refine (iK).mpr ⟨by nofun,?_⟩)
 exact λ _ h=>nomatch h
theorem ob_lt:∀ c∈OB,c < 256:=by decide
theorem ST{t acc:List Nat}{c:Nat}{J:R}(hc:c∈OB)(aj:J=M0 t acc\/∃ i s,J=CA t acc i s)(hz:acc.length<=1000000) :
  exs (d+18) (Aj 81) (Aw J [("code",.val (.int (c:Int)))]) Wv O=some (.nxt,CA t (acc++q1 c) (c:Int) (.str [c]),O):=by
 obtain h0:Be (d+17) (Aj 81) (Aw J [("code",.val (.int (c:Int)))]) O (Aa Wv 0)=some (.nxt,CA t acc c (.str [c]),O):=by
  rcases aj with rfl | ⟨i,s,rfl⟩
  ·exact R8 c hc
  ·exact QG c hc
 obtain app:∀ u:List Nat,BE (CA t acc c (.str [c])) "found" (.val (.bytes (acc++u)))=CA t (acc++u) c (.str [c]):=λ u=>by(first | exact rfl | nofun)
 obtain sz:∀ n,n<=1000->acc.length+n<=Ae:=λ n h=>Ai (hZ (j0 hz h) (by decide))
 refine Ac (Ab h0 (An (R7 (d:=d) (O:=O) (t:=t) (acc:=acc) c hc) (λ q=>?_) λ q=>?_))
 ·have q':¬ c=32:=λ z=>by rw[z]at q;exact absurd q (by decide)
  have e1:q1 c=[c]:=by unfold q1;exact Gx q' (BX q rfl)
  erw[e1]
  refine thn_nxt (Ac (AD (Af (t:=(.bytes (acc++[c]),.val)) (s:=.val (.bytes (acc++[c]))) ?_ (Aq (a:=(.bytes acc,.val)) (b:=(.bytes [c],.val)) ?_ (Bb (ts:=[(.lst [.int c],.fresh)]) ?_ (Al ?_) (Bi [c] (by intro x hx;erw[(iD).mp hx];exact ob_lt c hc))) (add_bytes2 (sz 1 (by decide)))) rfl (app _)))) sq_nil
  ·(first | exact rfl | nofun)
  ·(first | exact rfl | nofun)
  ·(first | exact rfl | nofun)
  ·(first | exact rfl | nofun)
 ·refine thn_nxt (J':=CA t (acc++q1 c) c (.str [c])) (Ac (An (c:=decide ((c:Int)=32)) (by(first | exact rfl | nofun)) (λ q'=>?_) λ q'=>?_)) sq_nil
  ·obtain q':c=32:=by obtain this:=of_decide_eq_true q';exact nJ this
   have e1:q1 c=[95]:=by unfold q1;exact BX q' rfl
   erw[e1]
   refine thn_nxt (Ac (AD (Af (t:=(.bytes (acc++[95]),.val)) (s:=.val (.bytes (acc++[95]))) ?_ (Aq (a:=(.bytes acc,.val)) (b:=(.bytes [95],.val)) ?_ ?_ (add_bytes2 (sz 1 (by decide)))) rfl (app _)))) sq_nil
   ·(first | exact rfl | nofun)
   ·(first | exact rfl | nofun)
   ·(first | exact rfl | nofun)
  ·have q':=λ z=>by obtain this:=of_decide_eq_false q';exact this (congrArg uP z)
   obtain e1:q1 c=[61]++[hexD (c / 16),hexD (c % 16)]:=by unfold q1;refine Gx q' (Gx (by erw[q];exact iX) ?_);rfl
   refine rwE e1 (rwS (iF ..) ?_)
   refine thn_nxt (Ac (AD (Af (t:=(.bytes (acc++[61]++[hexD (c / 16),hexD (c % 16)]),.val)) (s:=.val (.bytes (acc++[61]++[hexD (c / 16),hexD (c % 16)]))) ?_
    (Aq (a:=(.bytes (acc++[61]),.val)) (b:=(.bytes [hexD (c / 16),hexD (c % 16)],.val)) (Aq (a:=(.bytes acc,.val)) (b:=(.bytes [61],.val)) ?_ ?_ (add_bytes2 (sz 1 (by decide)))) (WO (d:=d) (O:=O) (t:=t) (acc:=acc) c hc) (add_bytes2 (by erw[hW];exact Ai (by simp only[i6,iM];exact iQ (kM hz _) (by decide))))) rfl (by nofun:BE (CA t acc c (.str [c])) "found" (.val (.bytes (acc++[61]++[hexD (c / 16),hexD (c % 16)])))=CA t (acc++[61]++[hexD (c / 16),hexD (c % 16)]) c (.str [c]))))) sq_nil
   ·(first | exact rfl | nofun)
   ·(first | exact rfl | nofun)
   ·(first | exact rfl | nofun)
def YQ(t:List Nat)(acc:List Nat)(J:R):Prop:=J=M0 t acc\/∃ i s,J=CA t acc i s
theorem Pg{t:List Nat}:(t.flatMap q1).length<=3 * t.length:=by
 induction t with
 | nil=>exact j3 _
 | cons c t ih=>(erw[iS,hW];erw[i6]);obtain this:=PH c;exact hZ (j7 (lB ..)) (j0 ih this)
theorem YF{t:List Nat}(hs:∀ c∈t,c∈OB)(hl:t.length<=1000):cl (d+20) "_law_marked" [.bytes t] O=some (.ok (.bytes (t.flatMap q1)),O):=by
 obtain⟨J',h1,h2⟩:=EJ (O:=O) (Xf:=exs (d+18)) (sc:=Aj 81) (tgt:=Ck (Aa (bd 81) 1)) (body:=Wv) (x:="code") (toV:=fun(n:Nat)=>V.int (n:Int)) (Inv:=YQ t) (g:=q1) (B:=1000000) rfl t
  (λ c hc acc J h hz=>iEA _ (ST (d:=d) (hs c hc) h hz) (.inr ⟨_,_,rfl⟩)) (acc:=[]) (J:=M0 t []) (.inl rfl) (by obtain this:=Pg (t:=t);erw[iM];exact hZ (j7 (kF _)) (hZ this (hZ (iP 3 hl) (by decide))))
 replace h2:=(j4 ..)▸h2
 refine Ap (fd:=⟨CO 81,[],Aj 81,bd 81⟩) (J:=[("row",.val (.bytes t))]) (r:=(.ret (.bytes (t.flatMap q1)),J',O)) ?_ ?_ (Ac (Ab (J':=M0 t []) ?_ ((BK ?_ (Bt (t:=(.bytes t,.val)) ?_ ?_ rfl rfl) h1).trans ?_))) rfl
 ·nofun
 ·nofun
 ·nofun
 ·nofun
 ·nofun
 ·nofun
 ·clear h1 hl hs
  rcases h2 with rfl | ⟨i,s,rfl⟩ <;>
  ·refine thn_nxt rfl (Az (Ax (t:=(.bytes (t.flatMap q1),.val)) ?_ ?_ rfl)) <;> nofun
section
variable {α β:Type}
theorem BP{csc:Scope}{tgt elt:hJ}{x:hV}{f:α->V}{toV:α->V}(hx:name? tgt=some x)(l:List α)(h:∀ a∈l,∃ t,ev d csc ((x,.val (toV a))::J) elt O=some (.ok t,O)/\valOf t=some (f a)) :
  BR (ev d) (Bf d) csc J tgt [] elt (l.map toV) O=some (.ok (l.map f),O):=by
 induction l with
 | nil=>rfl
 | cons a l ih=>
  refine A9 (h a i8) λ t h1 h2=>?_
  show(match AJ tgt (toV a) with | none=>Mo.fail | some xs=>_:Mo (List V)) O=_
  unfold AJ
  erw[hx]
  refine As (m:=OT (Bf d) csc _ []) (a:=true) rfl ?_
  erw[if_pos rfl]
  refine As h1 ?_
  exact rwE h2 (As (ih λ b hb=>h b (i9 _ hb)) rfl)
theorem Co{elt tgt it:hJ}{gs:List Comprehension}{ifs:List hJ}{csc:Scope}{p:Pos}{vs ys:List V}(hg:HA gs=some (tgt,it,ifs))(hc:(Db sc csc tgt&&(J.lookup (".0" : hV)).isNone)=true)(hi:By (ev d) sc J tgt it O=some (.ok vs,O))
  (h:BR (ev d) (Bf d) csc J tgt ifs elt vs O=some (.ok ys,O)):ev (d+1) sc J (.ListComp elt gs csc p) O=some (.ok (.lst ys,.fresh),O):=by
 show(match HA gs with
  | none=>Mo.fail
  | some (tgt,it,ifs)=>if !(Db sc csc tgt&&(J.lookup (".0" : hV)).isNone) then Mo.fail else Mo.bind (By (ev d) sc J tgt it) λ items=>.bind (Mo.calm (BR (ev d) (Bf d) csc J tgt ifs elt items)) λ ys=>.ret (V.lst ys,HQ.fresh)) O=_
 erw[hg];dsimp only
 erw[hc,if_neg (iX)]
 refine As hi (As (m:=Mo.calm _) (a:=ys) ?_ rfl)
 unfold Mo.calm
 exact rwE h rfl
end
theorem UH(n:Nat):lT (n:Int) 63=((n % 64:Nat):Int):=by
 show(((n:Int).toNat &&& (63:Int).toNat:Nat):Int)=_
 erw[iZ]
 show((n &&& 63:Nat):Int)=_
 exact rwE (show(63:Nat)=2 ^ 6 - 1 from rfl) (rwE (qR ..) rfl)
noncomputable def SGL:List Nat:="ABCDEFGHIJKLMNOPQRSTUVWXYZabcdefghijklmnopqrstuvwxyz0123456789+/".toList.map Char.toNat
def b64(i:Nat):Nat:=SGL.getD i 0
theorem TK:SGL.length=64:=by decide
theorem Ke{i:Nat}(h:i < 64):Bg (.bytes SGL) (i:Int)=some (.int (b64 i:Nat)):=by
 show(if (0:Int)<=(i:Int) then(SGL[(i:Int).toNat]?).map fun(c:Nat)=>V.int (c:Int) else none)=_
 (refine BX (iV _) (rwE (iZ ..) ?_);rw[b64];rw[vC];erw[jM (by refine rwE TK ?_;exact h)]);rfl
theorem Hh(n k:Nat):((n:Int).fdiv (2 ^ k))=((n / 2 ^ k:Nat):Int):=by
 (refine i7 (kG _ (Int.pow_nonneg (by decide))) (i7 (Int.natCast_ediv ..) ?_);erw[Int.natCast_pow]);rfl
noncomputable def gval(t:List Nat):Nat:=t.foldl (λ s c=>256 * s+c) 0
def gtot(t:List Nat):Nat:=gval t * 2 ^ (6 * (t.length+1) - 8 * t.length)
def gcs(t:List Nat):List Nat:=(jE (t.length+1)).reverse.map λ p=>b64 (gtot t / 2 ^ (6 * p) % 64)
abbrev GT(t:List Nat)(c:Int)(n:Nat)(k:Int):R:=[("octets",.val (.bytes t)),("alphabet",.val (.bytes SGL)),("total",.val (.int (n:Int))),("code",.val (.int c)),("count",.val (.int k))]
noncomputable def G1(e:hJ):hJ:=if h:e.ctorIdx=8 then lZ (motive_1:=λ _=>hJ) e h (λ v _ _ _=>v) else e
noncomputable def D3(e:hJ):hJ:=if h:e.ctorIdx=8 then lZ (motive_1:=λ _=>hJ) e h (λ _ gs _ _=>gs.head?.elim e (·.target)) else e
noncomputable def Cc(e:hJ):hJ:=if h:e.ctorIdx=8 then lZ (motive_1:=λ _=>hJ) e h (λ _ gs _ _=>gs.head?.elim e (·.iter)) else e
noncomputable def AQ(e:hJ):List hJ:=if h:e.ctorIdx=16 then n9 (motive_1:=λ _=>List hJ) e h (λ _ as _ _=>as) else []
noncomputable def Gl(e:hJ):Scope:=if h:e.ctorIdx=8 then lZ (motive_1:=λ _=>Scope) e h (λ _ _ s _=>s) else default
noncomputable def DI(e:Stmt):hJ:=if h:e.ctorIdx=3 then PySem.Stmt.Return.elim (motive_2:=λ _=>hJ) e h (λ v _=>v.getD (.Constant .none 0 ⟨0,0,0,0⟩)) else .Constant .none 0 ⟨0,0,0,0⟩
noncomputable def WL(e:hJ):hJ:=if h:e.ctorIdx=21 then lS (motive_1:=λ _=>hJ) e h (λ _ i _=>i) else e
def Vg(e:hJ):List hJ:=if h:e.ctorIdx=24 then PySem.Expr.List.elim (motive_1:=λ _=>List hJ) e h (λ es _=>es) else(tuple? e).getD []
noncomputable def Yk(e:hJ):hJ:=if h:e.ctorIdx=5 then PySem.Expr.IfExp.elim (motive_1:=λ _=>hJ) e h (λ t _ _ _=>t) else e
noncomputable def Rv(e:hJ):hJ:=if h:e.ctorIdx=0 then PySem.Expr.BoolOp.elim (motive_1:=λ _=>hJ) e h (λ _ es _=>es.headD e) else e
noncomputable def unX(e:hJ):hJ:=if h:e.ctorIdx=3 then PySem.Expr.UnaryOp.elim (motive_1:=λ _=>hJ) e h (λ _ x _=>x) else e
def gcE:hJ:=G1 (DI (Aa (bd 6) 4))
def gcS:Scope:=Gl (DI (Aa (bd 6) 4))
theorem U3{t:List Nat}{c k:Int}{n:Nat}:∀ p∈[3,2,1,0],ev (d+10) gcS ((("place" : hV),.val (.int ((p:Nat):Int)))::GT t c n k) (WL gcE) O=some (.ok (.int (lT ((n:Int).fdiv (2 ^ (6 * p))) 63),.val),O):=by
 repeat (refine (iK).mpr ⟨by nofun,?_⟩)
 exact λ _ h=>nomatch h
theorem Wz{t:List Nat}{c k:Int}{n p:Nat}(hp:p∈[3,2,1,0]):ev (d+11) gcS ((("place" : hV),.val (.int ((p:Nat):Int)))::GT t c n k) gcE O=some (.ok (.int (b64 (n / 2 ^ (6 * p) % 64):Nat),.val),O):=by
 obtain h:=U3 (d:=d) (O:=O) (t:=t) (c:=c) (k:=k) (n:=n) p hp
 obtain e:lT ((n:Int).fdiv (2 ^ (6 * p))) 63=((n / 2 ^ (6 * p) % 64:Nat):Int):=by exact rwE (Hh ..) (UH ..)
 rw[e]at h
 refine Ay (t:=(.bytes SGL,.val)) ?_ ?_ h ?_ rfl (Ke (uS _ (by decide)))
 ·nofun
 ·nofun
 ·rfl
theorem lsh{T:Nat}{k:Nat}(h:T < 2 ^ 64)(hk:k<=100):A1 .LShift (.int (T:Int)) (.int (k:Int))=some (.int ((T * 2 ^ k:Nat):Int)):=by
 (refine BX (iAA (iV _) (jG ((kC).mpr hk) (by decide)) (by erw[Int.natAbs_natCast];exact h)) (rwE (iZ ..) ?_);erw[Int.natCast_mul,Int.natCast_pow]);rfl
abbrev O4(t:List Nat):R:=[("octets",.val (.bytes t)),("alphabet",.val (.bytes SGL)),("total",.val (.int 0))]
abbrev Q4(t:List Nat)(c:Int):R:=[("octets",.val (.bytes t)),("alphabet",.val (.bytes SGL)),("total",.val (.int (gval t:Nat))),("code",.val (.int c))]
theorem K9{t:List Nat}{c:Int}(hl:t.length<=3)(hv:gval t < 2 ^ 64)
  (h1:Bh (exs (d+16)) (Aj 6) (Ck (Aa (bd 6) 1)) (Cl (Aa (bd 6) 1)) (Ad t) (O4 t) O=some (.nxt,(Q4 t c),O))
  (h2:Be (d+16) (Aj 6) (Q4 t c) O (Aa (bd 6) 2)=some (.nxt,GT t c (gval t) ((t.length+1:Nat):Int),O))
  (h3:ev (d+15) (Aj 6) (GT t c (gval t) ((t.length+1:Nat):Int)) (GG (D5 (Aa (bd 6) 3))) O=some (.ok (.int ((6 * (t.length+1) - 8 * t.length:Nat):Int),.val),O))
  (h4:BW [.int ((t.length:Nat):Int),.int (-1),.int (-1)]=some ((jE (t.length+1)).reverse.map fun(n:Nat)=>V.int (n:Int)))
  (h5:Mo.mapM (ev (d+15) (Aj 6) (GT t c (gtot t) ((t.length+1:Nat):Int))) (AQ (Cc (DI (Aa (bd 6) 4)))) O=some (.ok [(.int ((t.length:Nat):Int),.val),(.int (-1),.val),(.int (-1),.val)],O)) :
  cl (d+18) "group_codes" [.bytes t,.bytes SGL] O=some (.ok (.lst (Ad (gcs t))),O):=by
 refine Ap (fd:=⟨CO 6,[],Aj 6,bd 6⟩) (J:=[("octets",.val (.bytes t)),("alphabet",.val (.bytes SGL))]) (r:=(.ret (.lst (Ad (gcs t))),GT t c (gtot t) ((t.length+1:Nat):Int),O)) ?_ ?_
  (Ac (Ab (J':=(O4 t)) ?_ ((BK ?_ (Bt (t:=(.bytes t,.val)) ?_ ?_ rfl rfl) h1).trans (thn_nxt rfl (Ab h2 (Ab (J':=GT t c (gtot t) ((t.length+1:Nat):Int)) ?_ (Az (Ax (t:=(.lst (Ad (gcs t)),.fresh)) ?_ ?_ rfl)))))))) rfl
 ·nofun
 ·nofun
 ·nofun
 ·nofun
 ·nofun
 ·nofun
 ·obtain hL:A1 .LShift (.int (gval t:Nat)) (.int ((6 * (t.length+1) - 8 * t.length:Nat):Int))=some (.int (gtot t:Nat)):=by unfold gtot;exact lsh hv (sL (hZ (iP _ (j6 hl)) (by decide)))
  refine Af (t:=(.int (gtot t:Nat),.val)) (s:=.val (.int (gtot t:Nat))) ?_ ?_ rfl ?_
  ·nofun
  ·refine Aq (a:=(.int (gval t:Nat),.val)) (b:=(.int ((6 * (t.length+1) - 8 * t.length:Nat):Int),.val)) (c:=.int (gtot t:Nat)) ?_ ?_ ?_
   ·nofun
   ·exact h3
   ·exact hL
  ·nofun
 ·nofun
 ·refine Co (tgt:=D3 (DI (Aa (bd 6) 4))) (it:=Cc (DI (Aa (bd 6) 4))) (ifs:=[]) ?_ ?_ (Bx (as:=AQ (Cc (DI (Aa (bd 6) 4)))) ?_ ?_ h5 h4) ?_
  ·nofun
  ·nofun
  ·nofun
  ·nofun
  ·obtain this:=BP (d:=d+15) (O:=O) (J:=GT t c (gtot t) ((t.length+1:Nat):Int)) (csc:=gcS) (tgt:=D3 (DI (Aa (bd 6) 4))) (elt:=gcE) (x:="place") (f:=λ p=>V.int (b64 (gtot t / 2 ^ (6 * p) % 64):Nat)) (toV:=fun(n:Nat)=>V.int (n:Int)) rfl (jE (t.length+1)).reverse
    (λ p hp=>⟨_,Wz (d:=d+4) (O:=O) (by
     obtain this:=(mJ).mp ((qY).mp hp)
     have:∀ p < 4,p∈[3,2,1,0]:=by decide
     exact this p (jK (by assumption) (j6 hl):p < 4)),rfl⟩)
   erw[(show Ad (gcs t)=(jE (t.length+1)).reverse.map λ p=>V.int (b64 (gtot t / 2 ^ (6 * p) % 64):Nat) by unfold gcs Ad;refine i7 jR ?_;rfl)]
   exact this
theorem Im{t:List Nat}(h0:t≠[])(hl:t.length<=3)(ht:∀ c∈t,c < 256):cl (d+18) "group_codes" [.bytes t,.bytes SGL] O=some (.ok (.lst (Ad (gcs t))),O):=by
 rcases t with _ | ⟨a,_ | ⟨b,_ | ⟨c,_ | ⟨_,_⟩⟩⟩⟩
 ·exact absurd rfl h0
 ·obtain ha:=ht a i8
  refine K9 (c:=a) hl (show 256 * 0+a < _ by exact hZ (j5 ha _) (by decide)) ?_ ?_ ?_ ?_ ?_ <;> nofun
 ·obtain ha:=ht a i8
  obtain hb:=ht b (i9 _ i8)
  refine K9 (c:=b) hl (show 256 * (256 * 0+a)+b < _ by exact iQ (j0 (iP 256 (j5 (jB ha) _)) (jB hb)) (by decide)) ?_ ?_ ?_ ?_ ?_ <;> kernel_rfl
 ·obtain ha:=ht a i8
  obtain hb:=ht b (i9 _ i8)
  obtain hc:=ht c (i9 _ (i9 _ i8))
  refine K9 (c:=c) hl (show 256 * (256 * (256 * 0+a)+b)+c < _ by exact iQ (j0 (iP 256 (j0 (iP 256 (j5 (jB ha) _)) (jB hb))) (jB hc)) (by decide)) ?_ ?_ ?_ ?_ ?_ <;> kernel_rfl
 ·simp only[i6]at hl;exact absurd hl ((uT).mpr (l8 4 _))
theorem FT{o:hJ}{lo hi:Option hJ}{p pp:Pos}:ev (d+1) sc J (.Subscript o (.Slice lo hi none pp) p)=Mo.bind (ev d sc J o) λ t=>.bind (Fu (ev d) sc J lo) λ l=>.bind (Fu (ev d) sc J hi) λ h=>.lift ((Bo t.1 l h).map AI):=rfl
theorem Gb{e:hJ}{a:TV}{x:Int}(h:ev d sc J e O=some (.ok a,O))(ha:a.1.int?=some x):Fu (ev d) sc J (some e) O=some (.ok (some x),O):=As h (by erw[ha];rfl)
theorem AZ{o lo hi:hJ}{p pp:Pos}{t a b:TV}{x y:Int}{u:V}(h1:ev d sc J o O=some (.ok t,O))(h2:ev d sc J lo O=some (.ok a,O))(h3:ev d sc J hi O=some (.ok b,O))(ha:a.1.int?=some x)(hb:b.1.int?=some y)
  (h:Bo t.1 (some x) (some y)=some u):ev (d+1) sc J (.Subscript o (.Slice (some lo) (some hi) none pp) p) O=some (.ok (AI u),O):=by
 exact rwE FT (As h1 (As (Gb h2 ha) (As (Gb h3 hb) (by erw[h];rfl))))
theorem EN{o lo:hJ}{p pp:Pos}{t a:TV}{x:Int}{u:V}(h1:ev d sc J o O=some (.ok t,O))(h2:ev d sc J lo O=some (.ok a,O))(ha:a.1.int?=some x)
  (h:Bo t.1 (some x) none=some u):ev (d+1) sc J (.Subscript o (.Slice (some lo) none none pp) p) O=some (.ok (AI u),O):=by
 exact rwE FT (As h1 (As (Gb h2 ha) (As (m:=Fu (ev d) sc J none) rfl (by erw[h];rfl))))
theorem DL{o hi:hJ}{p pp:Pos}{t b:TV}{y:Int}{u:V}(h1:ev d sc J o O=some (.ok t,O))(h3:ev d sc J hi O=some (.ok b,O))(hb:b.1.int?=some y)
  (h:Bo t.1 none (some y)=some u):ev (d+1) sc J (.Subscript o (.Slice none (some hi) none pp) p) O=some (.ok (AI u),O):=by
 exact rwE FT (As h1 (As (m:=Fu (ev d) sc J none) rfl (As (Gb h3 hb) (by erw[h];rfl))))
theorem Cu(n a:Nat):clampOf n (a:Int)=min a n:=by
 unfold clampOf
 exact Gx ((lY).mpr (iV _)) (rwE (iZ ..) rfl)
theorem DH{α:Type}(l:List α)(a b:Nat):Au l (some (a:Int)) (some (b:Int))=(l.take b).drop a:=by
 unfold Au hiOf loOf
 dsimp only
 erw[Cu,Cu]
 by_cases h:b<=l.length
 ·erw[kO h]
  by_cases h2:a<=l.length
  ·exact rwE (kO h2) rfl
  ·(refine rwE (kU (jQ h2)) (i7 (l4 (by erw[iY];exact nM _ _)) ?_);exact rwE (l4 (by erw[iY];exact hZ (nM _ _) (jB ((uT).mp h2)))) rfl)
 ·(erw[kU (jQ h),kK (j3 _)];erw[kK (jQ h)])
  by_cases h2:a<=l.length
  ·exact rwE (kO h2) rfl
  ·(refine rwE (kU (jQ h2)) (i7 (l4 (j3 _)) ?_);exact rwE (l4 (jQ h2)) rfl)
noncomputable def Cr(t:List Nat)(k:Nat):List Nat:=(t.drop (3 * k)).take 3
theorem IM(t:List Nat)(k:Nat):Bo (.bytes t) (some ((3 * k:Nat):Int)) (some ((3 * k+3:Nat):Int))=some (.bytes (Cr t k)):=by
 show some (V.bytes (Au t _ _))=_
 (erw[DH,List.drop_take];erw[(show 3 * k+3 - 3 * k=3 by lia)]);rfl
theorem Rh{n:Nat}(h:n<=100000):BW [.int 0,.int (n:Int),.int 3]=some ((jE ((n+2) / 3)).map fun(k:Nat)=>V.int ((3 * k:Nat):Int)):=by
 show CJ 0 n 3=_
 obtain e:rangeL 0 (n:Int) 3=(jE ((n+2) / 3)).map fun(k:Nat)=>((3 * k:Nat):Int):=by
  unfold rangeL
  (refine BX (by decide) (rwE (show((n:Int) - 0+3 - 1).fdiv 3=(((n+2) / 3:Nat):Int) by refine i7 (kG _ (by decide)) ?_;lia) ?_);erw[iZ])
  exact mP λ k _=>by exact Int.add_comm ..
 unfold CJ
 (erw[e];rw[if_pos];erw[jR]);rfl
 refine iAA ⟨by decide,?_,by decide⟩ (by decide) ?_
 ·unfold small;simp only[iC,decide_eq_true_eq];exact⟨jG (by decide) (iV _),jG ((kC).mpr h) (by decide)⟩
 ·erw[iH,kY];exact Ai (hZ (pV _ _) (hZ (kM h _) (by decide)))
def pe(t:List Nat):List Nat:=(jE ((t.length+2) / 3)).flatMap λ k=>gcs (Cr t k)
theorem Ng(t:List Nat):(gcs t).length=t.length+1:=by unfold gcs;(refine i7 (iH ..) (i7 List.length_reverse ?_);exact kY)
theorem CE(t:List Nat)(k:Nat):(Cr t k).length<=3:=by unfold Cr;erw[iY];exact nE _ _
theorem PW(i:Nat):b64 i < 256:=by
 unfold b64
 rw[vC]
 cases h:SGL[i]? with
 | none=>exact(by decide:0 < 256)
 | some c=>
  have:∀ c∈SGL,c < 256:=by decide
  exact this c (oW h)
theorem U8(t:List Nat):∀ c∈gcs t,c < 256:=λ c hc=>by
 refine A9 ((jV).mp hc) λ p _ aa=>?_;subst aa
 exact PW _
theorem Xi(t:List Nat):∀ c∈pe t,c < 256:=λ c hc=>by
 exact A9 ((m9).mp hc) λ k _ h=>U8 _ c h
theorem MN{α:Type}(l:List α)(g:α->List V)(m:Nat)(h:∀ a,(g a).length<=m):(l.flatMap g).length<=m * l.length:=by
 induction l with
 | nil=>exact j3 _
 | cons a l ih=>(erw[iS,hW];erw[i6,qL]);obtain this:=h a;exact hZ (j7 (lB ..)) (j0 ih this)
theorem EZ{α:Type}(l:List α)(g:α->List Nat):(l.flatMap λ a=>Ad (g a))=Ad (l.flatMap g):=by
 induction l with
 | nil=>rfl
 | cons a l ih=>(refine i7 iS (rwE iS ?_);exact rwE (AS ..) (rwE ih rfl))
abbrev Pk(t:List Nat)(acc:List V):R:=[("octets",.val (.bytes t)),("alphabet",.val (.bytes SGL)),("codes",.own acc)]
abbrev LX(t:List Nat)(acc:List V)(i:Int):R:=[("octets",.val (.bytes t)),("alphabet",.val (.bytes SGL)),("codes",.own acc),("begin",.val (.int i))]
def UI(t:List Nat)(acc:List V)(J:R):Prop:=J=Pk t acc\/∃ i,J=LX t acc i
theorem RJ{t:List Nat}(ht:∀ c∈t,c < 256){acc:List V}{J:R}{k:Nat}(hk:k < (t.length+2) / 3)(aj:UI t acc J)(hz:acc.length<=1000000) :
  exs (d+28) (Aj 8) (Aw J [("begin",.val (.int ((3 * k:Nat):Int)))]) (Cl (Aa (bd 8) 1)) O=some (.nxt,LX t (acc++Ad (gcs (Cr t k))) ((3 * k:Nat):Int),O):=by
 obtain e:Aw J [("begin",.val (.int ((3 * k:Nat):Int)))]=LX t acc ((3 * k:Nat):Int):=by rcases aj with rfl | ⟨i,rfl⟩ <;> nofun
 erw[e]
 obtain aJ:Cr t k≠[]:=by
  unfold Cr
  intro z
  obtain this:=congrArg jZ z
  rw[iY,jA,iM]at this
  exact mz this (kk hk)
 refine Ac (AD (AX (ts:=[(.lst (Ad (gcs (Cr t k))),.val)]) ?_ (Al ?_) (H3 (vs:=acc) (ws:=Ad (gcs (Cr t k))) ?_ ?_ ?_)))
 ·nofun
 ·refine Ar (ts:=[(.bytes (Cr t k),.val),(.bytes SGL,.val)]) (vs:=[.bytes (Cr t k),.bytes SGL]) ?_ (AO ?_ ?_) rfl ?_
  ·nofun
  ·refine AZ (t:=(.bytes t,.val)) (a:=(.int ((3 * k:Nat):Int),.val)) (b:=(.int ((3 * k+3:Nat):Int),.val)) ?_ ?_ ?_ rfl rfl (IM t k)
   all_goals nofun
  ·nofun
  ·exact(Im (d:=d+8) (O:=O) aJ (CE t k) (λ c hc=>ht c (k9 (jW hc))))
 ·nofun
 ·erw[AH,Ng];obtain this:=CE t k;exact Ai (iQ (j0 hz this) (by decide))
 ·nofun
theorem LP(t:List Nat):(pe t).length<=4 * t.length+8:=by
 have:∀ n,((jE n).flatMap λ k=>gcs (Cr t k)).length<=4 * n:=λ n=>by
  induction n with
  | zero=>exact j3 _
  | succ n ih=>(erw[nC,kE];erw[hW,iS];erw[kD,iO];erw[Ng]);obtain this:=CE t n;exact j0 ih (j6 this)
 obtain h:=this ((t.length+2) / 3)
 unfold pe
 exact hZ h (hZ (iP 4 (pV _ 3)) (j7 (Nat.mul_add 4 _ 2)))
theorem VI{t:List Nat}(ht:∀ c∈t,c < 256)(hl:t.length<=1000):cl (d+30) "part_encoded" [.bytes t,.bytes SGL] O=some (.ok (.bytes (pe t)),O):=by
 obtain hz:((jE ((t.length+2) / 3)).flatMap λ k=>Ad (gcs (Cr t k))).length<=1000000:=by
  erw[EZ,AH];obtain this:=LP t;unfold pe at this;exact hZ this (hZ (kM (iP 4 hl) 8) (by decide))
 obtain⟨J',h1,h2⟩:=EJ (O:=O) (Xf:=exs (d+28)) (sc:=Aj 8) (tgt:=Ck (Aa (bd 8) 1)) (body:=Cl (Aa (bd 8) 1)) (x:="begin") (toV:=fun(k:Nat)=>V.int ((3 * k:Nat):Int)) (Inv:=UI t) (g:=λ k=>Ad (gcs (Cr t k))) (B:=1000000) rfl (jE ((t.length+2) / 3))
  (λ k hk acc J h hz=>iEA _ (RJ (d:=d) ht ((mJ).mp hk) h hz) (.inr ⟨_,rfl⟩)) (acc:=[]) (J:=Pk t []) (.inl rfl) (by erw[iM,kF];exact hz)
 rw[j4,EZ]at h2
 have hr:=Rh (n:=t.length) (iL hl)
 refine Ap (fd:=⟨CO 8,[],Aj 8,bd 8⟩) (J:=[("octets",.val (.bytes t)),("alphabet",.val (.bytes SGL))]) (r:=(.ret (.bytes (pe t)),J',O)) ?_ ?_ (Ac (Ab (J':=Pk t []) ?_ ((BK ?_ (Bx (as:=AQ (G7 (Aa (bd 8) 1))) (ts:=[(.int 0,.val),(.int (t.length:Nat),.val),(.int 3,.val)]) ?_ ?_ ?_ hr) h1).trans (thn_nxt rfl ?_)))) rfl
 ·nofun
 ·nofun
 ·nofun
 ·nofun
 ·nofun
 ·nofun
 ·kernel_rfl
 ·clear h1 hl hr ht hz
  rcases h2 with rfl | ⟨i,rfl⟩ <;>
  ·refine Az (Ax ?_ (Bb (ts:=[(.lst (Ad (pe t)),.bor)]) ?_ (Al ?_) (Bi (pe t) (Xi t))) rfl) <;> nofun
noncomputable def pad(n:Nat):Nat:=(3 - n % 3) % 3
def b64enc(t:List Nat):List Nat:=pe t++j1 (pad t.length) 61
theorem g3{n m:Nat}(h:(n+2) / 3=m+1):∃ r,r<=2/\n=3 * m+(r+1)/\pad n=2 - r:=by
 obtain e:=Nat.div_add_mod (n+2) 3
 obtain hr:=uS (n+2) (show 3 > 0 by decide)
 rw[h]at e
 generalize (n+2) % 3=r at e hr
 obtain hn:=(oA (oA (show n+2=3 * m+(r+1)+2 by(refine rwS e (rwE (Nat.mul_add ..) ?_);refine i7 (mE ..) ?_;rw[lB 3]);rfl)))
 refine iEAA r (oH hr) hn ?_
 unfold pad
 erw[hn,Nat.mul_add_mod]
 rcases r with _ | _ | _ | r
 ·rfl
 ·rfl
 ·rfl
 ·exact absurd (kL (kL (kL hr))) (u9 r)
theorem g0{n:Nat}(h:(n+2) / 3=0):n=0:=by
 cases n with
 | zero=>rfl
 | succ n=>exact absurd h (tZ (Nat.div_pos (l8 3 n) (by decide)))
theorem gk{k n:Nat}(h:k < (n+2) / 3):3 * k < n:=by
 have q:=(qM (by decide)).mp h
 rw[tY]at q
 exact mV (mV q)
theorem kg{k n:Nat}(h:3 * k < n):k < (n+2) / 3:=(qM (y:=n+2) (x:=k+1) (k:=3) (by decide)).mpr (tY 3 (k+1)▸j6 (j6 h))
theorem TY(n:Nat):(-(n:Int)).fmod 3=((pad n:Nat):Int):=by
 refine i7 (Int.fmod_eq_emod_of_nonneg _ (by decide)) ?_
 unfold pad;grind
theorem La(n:Nat):pad n<=2:=oH (uS _ (by decide))
theorem Nv(k:Nat)(h:k<=4):A1 .Mult (.lst [.int 61]) (.int (k:Int))=some (.lst (Ad (j1 k 61))):=by
 show(if 0<=(k:Int)/\(k:Int)<=4 then some (V.lst (j1 (k:Int).toNat (.int 61))) else none)=_
 rw[if_pos ⟨iV _,by exact (kC).mpr (by assumption)⟩,iZ,Ad,List.map_replicate];rfl
noncomputable def NL(e:hJ):hJ:=if h:e.ctorIdx=2 then uK (motive_1:=λ _=>hJ) e h (λ l _ _ _=>l) else e
noncomputable def C6(e:hJ):List hJ:=if h:e.ctorIdx=16 then n9 (motive_1:=λ _=>List hJ) e h (λ _ as _ _=>as) else []
theorem WG(t:List Nat)(hl:t.length<=1000):A1 .Add (.bytes (pe t)) (.bytes (j1 (pad t.length) 61))=some (.bytes (b64enc t)):=
 add_bytes2 (by erw[lV];have:=LP t;have this:=La t.length;exact Ai (by lia))
theorem LY{t:List Nat}(ht:∀ c∈t,c < 256)(hl:t.length<=1000):cl (d+34) "one_line" [.bytes t] O=some (.ok (.bytes (b64enc t)),O):=by
 obtain hq:ev (d+29) (Aj 9) [("octets",.val (.bytes t))] (GG ((C6 (GG (DI (Aa (bd 9) 0)))).headD (.Constant .none 0 ⟨0,0,0,0⟩))) O=some (.ok (.int ((-(t.length:Int)).fmod 3),.val),O):=rfl
 rw[TY]at hq
 refine Ap (fd:=⟨CO 9,[],Aj 9,bd 9⟩) (J:=[("octets",.val (.bytes t))]) (r:=(.ret (.bytes (b64enc t)),[("octets",.val (.bytes t))],O)) ?_ ?_ (Ac (Az (Ax (t:=(.bytes (b64enc t),.val)) ?_ ?_ rfl))) rfl
 ·nofun
 ·nofun
 ·nofun
 ·refine Aq (a:=(.bytes (pe t),.val)) (b:=(.bytes (j1 (pad t.length) 61),.val)) (c:=.bytes (b64enc t)) ?_ ?_ (WG t hl)
  ·refine Ar (ts:=[(.bytes t,.val),(.bytes SGL,.val)]) (vs:=[.bytes t,.bytes SGL]) ?_ (AO ?_ ?_) rfl ?_
   ·nofun
   ·nofun
   ·nofun
   ·exact(VI (d:=d) (O:=O) ht hl)
  ·refine Bb (ts:=[(.lst (Ad (j1 (pad t.length) 61)),.fresh)]) ?_ (Al ?_) (Bi (j1 (pad t.length) 61) (λ c hc=>by erw[pS hc];decide))
   ·kernel_rfl
   ·refine Aq (a:=(.lst [.int 61],.fresh)) (b:=(.int (pad t.length:Nat),.val)) (c:=.lst (Ad (j1 (pad t.length) 61))) ?_ ?_ (Nv (pad t.length) (hZ (La _) (by decide)))
    ·nofun
    ·exact hq
theorem Ok{t:List Nat}(ht:∀ c∈t,c < 256)(hl:t.length<=1000):cl (d+38) "encoded" [.bytes t,.int 0] O=some (.ok (.bytes (b64enc t)),O):=by
 refine Ap (fd:=⟨CO 11,[],Aj 11,bd 11⟩) (J:=[("octets",.val (.bytes t)),("width",.val (.int 0))]) (r:=(.ret (.bytes (b64enc t)),[("octets",.val (.bytes t)),("width",.val (.int 0))],O)) ?_ ?_ (Ac (Az (Ax (t:=(.bytes (b64enc t),.val)) ?_ ?_ rfl))) rfl
 ·nofun
 ·nofun
 ·nofun
 ·refine Ar (ts:=[(.bytes (b64enc t),.val),(.int 0,.val)]) (vs:=[.bytes (b64enc t),.int 0]) ?_ (AO ?_ ?_) rfl (by kernel_rfl:cl (d+35) "in_lines" [.bytes (b64enc t),.int 0] O=some (.ok (.bytes (b64enc t)),O))
  ·nofun
  ·refine Ar (ts:=[(.bytes t,.val)]) (vs:=[.bytes t]) ?_ (Al ?_) rfl ?_
   ·nofun
   ·nofun
   ·exact(LY (d:=d) (O:=O) ht hl)
  ·nofun
section
variable {α β:Type}
theorem DR{csc:Scope}{tgt elt:hJ}{ifs:List hJ}{xs:α->List (hV×V)}{f:α->V}{p:α->Bool}{toV:α->V}(l:List α)
  (h:∀ a∈l,AJ tgt (toV a)=some (xs a)/\OT (Bf d) csc ((xs a).map (λ p=>(p.1,Slot.val p.2))++J) ifs O=some (.ok (p a),O)/\(p a=true->∃ t,ev d csc ((xs a).map (λ p=>(p.1,Slot.val p.2))++J) elt O=some (.ok t,O)/\valOf t=some (f a))) :
  BR (ev d) (Bf d) csc J tgt ifs elt (l.map toV) O=some (.ok ((l.filter p).map f),O):=by
 induction l with
 | nil=>rfl
 | cons a l ih=>
  refine WW (h a i8) λ h0 h1 h2=>?_
  obtain h3:=ih λ b hb=>h b (i9 _ hb)
  show(match AJ tgt (toV a) with | none=>Mo.fail | some xs=>_:Mo (List V)) O=_
  refine rwE h0 (As h1 ?_)
  cases hp:p a with
  | false=>erw[if_neg iX,mF (by refine rwE hp ?_;exact iX)];exact h3
  | true=>
   refine A9 (h2 hp) λ t h4 h5=>rwE (if_pos rfl) (rwE (kS hp) ?_)
   refine As h4 ?_
   erw[h5]
   exact As h3 rfl
theorem Mx{tgt e:hJ}{as:List hJ}{ts:List TV}{v:V}{vs:List V}(h0:CX sc e=none)(hr:Fe sc e=some as)(hn:(HK tgt&&as.length==1)=true)(ha:Mo.mapM (ev d sc J) as O=some (.ok ts,O))(hv:BN ts=some [v])(h:Nf v=some vs):By (ev d) sc J tgt e O=some (.ok vs,O):=by
 unfold By
 erw[h0];dsimp only
 erw[hr];dsimp only
 erw[if_pos hn]
 refine As ha (rwE hv ?_)
 show Mo.lift (Nf v) O=_
 erw[h];rfl
theorem NO{ts es:List hJ}{k k':Nat}{p p' q:Pos}{xs:List hV}{tvs:List TV}{sl:List (hV×Slot)}(hn:B0 ts=some xs)(hc:xs.Nodup/\(xs.all λ x=>Ah (sc.names.lookup x))/\noStar es/\HP es)(h:Mo.mapM (ev d sc J) es O=some (.ok tvs,O))(hs:Ci xs tvs=some sl)
  (hf:(tvs.filter (λ t=>t.2==.fresh)).length<=1/\tvs.length<=8) (hr:Aw J sl=J'):Be d sc J O (.Assign [.Tuple ts k p] (.Tuple es k' p') q)=some (.nxt,J',O):=by
 show((B0 ts).map W4.names).bind (Ea (ev d) G.gl sc J O (.Tuple es k' p'))=_
 erw[hn]
 refine BX hc ?_
 unfold liftE
 erw[h]
 show(Ci xs tvs).bind _=_
 erw[hs]
 exact BX hf (rwE hr rfl)
end
abbrev O9(t:List Nat)(acc:List V):R:=[("row",.val (.bytes t)),("signs",.val (.bytes SGL)),("found",.own acc)]
abbrev Df(t:List Nat)(acc:List V)(i:Int)(s:List V)(n:Int):R:=[("row",.val (.bytes t)),("signs",.val (.bytes SGL)),("found",.own acc),("at",.val (.int i)),("some",.val (.lst s)),("total",.val (.int n))]
def Qt(t:List Nat)(acc:List V)(J:R):Prop:=J=O9 t acc\/∃ i s n,J=Df t acc i s n
def WX:List Stmt:=Cl (Aa (bd 80) 1)
def ltot(g:List Nat):Nat:=gval g * 2 ^ (24 - 8 * g.length)
noncomputable def W0(l:List (Nat×Nat)):List Nat:=l.map λ p=>p.2 * 2 ^ (16 - 8 * p.1)
noncomputable def lbi(l:List (Nat×Nat)):List V:=l.map λ p=>V.tup [.int (p.1:Nat),.int (p.2:Nat)]
def Ez:hJ:=(C6 (D5 (Aa WX 1))).headD (.Constant .none 0 ⟨0,0,0,0⟩)
abbrev VB(t:List Nat)(acc:List V)(i:Int)(s:List V):R:=[("row",.val (.bytes t)),("signs",.val (.bytes SGL)),("found",.own acc),("at",.val (.int i)),("some",.val (.lst s))]
def Qf(J:R)(s:Int)(c:Int):R:=("spot",.val (.int s))::("code",.val (.int c))::J
theorem Yo{J:R}{c:Nat}(hc:c < 256):∀ i∈[0,1,2],ev (d+10) (Gl Ez) (Qf J ((i:Nat):Int) (c:Int)) (G1 Ez) O=some (.ok (.int ((c * 2 ^ (16 - 8 * i):Nat):Int),.val),O):=by
 obtain h:∀ k:Nat,k<=100->A1 .LShift (.int (c:Int)) (.int (k:Int))=some (.int ((c * 2 ^ k:Nat):Int)):=λ k hk=>lsh (jK hc (l8 _ _)) hk
 refine (iK).mpr ⟨?_,(iK).mpr ⟨?_,(iK).mpr ⟨?_,λ _ h=>nomatch h⟩⟩⟩
 ·exact Aq (a:=(.int c,.val)) (b:=(.int ((16:Nat):Int),.val)) rfl rfl (h 16 (by decide))
 ·exact Aq (a:=(.int c,.val)) (b:=(.int ((8:Nat):Int),.val)) rfl rfl (h 8 (by decide))
 ·exact Aq (a:=(.int c,.val)) (b:=(.int ((0:Nat):Int),.val)) rfl rfl (h 0 (by decide))
theorem Sa{J:R}(l:List (Nat×Nat))(hl:∀ p∈l,p.1∈[0,1,2]/\p.2 < 256) :
  BR (ev (d+10)) (Bf (d+10)) (Gl Ez) J (D3 Ez) [] (G1 Ez) (lbi l) O=some (.ok (Ad (W0 l)),O):=by
 unfold lbi W0
 obtain h:=DR (d:=d+10) (O:=O) (csc:=Gl Ez) (J:=J) (tgt:=D3 Ez) (elt:=G1 Ez) (ifs:=[]) (xs:=λ p:Nat×Nat=>[(("spot" : hV),V.int (p.1:Nat)),("code",.int (p.2:Nat))]) (f:=λ p=>V.int (p.2 * 2 ^ (16 - 8 * p.1):Nat)) (p:=λ _=>true) (toV:=λ p=>V.tup [.int (p.1:Nat),.int (p.2:Nat)]) l
  (λ p hp=>iAA rfl rfl (λ _=>⟨_,Yo (hl p hp).2 p.1 (hl p hp).1,rfl⟩))
 rw[List.filter_eq_self.mpr (λ _ _=>rfl)]at h
 refine i7 h ?_;unfold Ad;erw[jR];rfl
theorem PE(as:List V):Bu "sum" as=(lstInts? as).map λ l=>V.int l.sum:=rfl
theorem QY(l:List Nat):Bu "sum" [.lst (Ad l)]=some (.int (l.sum:Nat)):=by
 refine i7 (PE ..) ?_
 show(Ct (Ad l)).map _=_
 erw[Nw]
 show some (V.int (l.map fun(n:Nat)=>(n:Int)).sum)=_
 have:(l.map fun(n:Nat)=>(n:Int)).sum=((l.sum:Nat):Int):=by
  induction l with
  | nil=>rfl
  | cons c l ih=>(refine rwE iW (i7 lC ?_);erw[lC,ih]);rfl
 exact rwE this rfl
theorem HB{J:R}{g:List Nat}{l:List (Nat×Nat)}(h0:(Db (Aj 80) (Gl Ez) (D3 Ez)&&(J.lookup (".0" : hV)).isNone)=true)(h1:Mo.mapM (ev (d+10) (Aj 80) J) (C6 (Cc Ez)) O=some (.ok [(.lst (Ad g),.val)],O))(hl:∀ p∈l,p.1∈[0,1,2]/\p.2 < 256)(he:Nf (.lst (Ad g))=some (lbi l))(hs:(W0 l).sum=ltot g) :
  ev (d+12) (Aj 80) J (D5 (Aa WX 1)) O=some (.ok (.int (ltot g:Nat),.val),O):=by
 obtain h2:=QY (W0 l)
 rw[hs]at h2
 refine Bb (ts:=[(.lst (Ad (W0 l)),.fresh)]) ?_ (Al ?_) h2
 ·nofun
 ·refine Co (tgt:=D3 Ez) (it:=Cc Ez) (ifs:=[]) (vs:=lbi l) (ys:=Ad (W0 l)) ?_ h0 ?_ ?_
  ·nofun
  ·refine Mx (as:=C6 (Cc Ez)) (ts:=[(.lst (Ad g),.val)]) ?_ ?_ ?_ h1 rfl he
   all_goals nofun
  ·exact(Sa (d:=d) (O:=O) (J:=J) l hl)
def lgs(g:List Nat):List Nat:=(jE (g.length+1)).map λ s=>b64 (ltot g / 2 ^ (18 - 6 * s) % 64)
def OX(g:List Nat):List Nat:=lgs g++j1 (3 - g.length) 61
def lbX:hJ:=D5 (Aa WX 2)
def HC:hJ:=GG (NL lbX)
theorem UV{t:List Nat}{acc s:List V}{i:Int}{n:Nat}:∀ p∈[0,1,2,3],ev (d+10) (Gl HC) ((("spot" : hV),.val (.int ((p:Nat):Int)))::Df t acc i s (n:Int)) (WL (G1 HC)) O=some (.ok (.int (lT ((n:Int).fdiv (2 ^ (18 - 6 * p))) 63),.val),O):=by
 repeat (refine (iK).mpr ⟨by nofun,?_⟩)
 exact λ _ h=>nomatch h
theorem Wi{t:List Nat}{acc s:List V}{i:Int}{n p:Nat}(hp:p∈[0,1,2,3]):ev (d+11) (Gl HC) ((("spot" : hV),.val (.int ((p:Nat):Int)))::Df t acc i s (n:Int)) (G1 HC) O=some (.ok (.int (b64 (n / 2 ^ (18 - 6 * p) % 64):Nat),.val),O):=by
 obtain h:=UV (d:=d) (O:=O) (t:=t) (acc:=acc) (s:=s) (i:=i) (n:=n) p hp
 rw[Hh,UH]at h
 refine Ay (t:=(.bytes SGL,.val)) ?_ ?_ h ?_ rfl (Ke (uS _ (by decide)))
 ·nofun
 ·nofun
 ·rfl
theorem mem4{p:Nat}(h:p < 4):p∈[0,1,2,3]:=
 match p,h with
 | 0,_=>.head _
 | 1,_=>.tail _ (.head _)
 | 2,_=>.tail _ (.tail _ (.head _))
 | 3,_=>.tail _ (.tail _ (.tail _ (.head _)))
 | n+4,h=>absurd h (by grind)
theorem C3(m:Nat)(h:m<=1000000):BW [.int (m:Int)]=some (IW 0 m):=IC 0 m (kA _) (Ai (iL h))
theorem JL(g:List Nat):(lgs g).length=g.length+1:=by unfold lgs;exact i7 (iH ..) kY
theorem TD(g:List Nat)(h:g.length<=3):(OX g).length<=4:=by unfold OX;(erw[hW,JL];erw[lV]);exact j7 ((kI ..).trans (congrArg Nat.succ (sV h)))
theorem PQ{t:List Nat}{acc:List V}{i:Int}{g:List Nat}(hg:g.length<=3)(hz:acc.length<=1000000):ev (d+16) (Aj 80) (Df t acc i (Ad g) (ltot g:Nat)) lbX O=some (.ok (.lst (acc++Ad (OX g)),.fresh),O):=by
 obtain hc:=BP (d:=d+13) (O:=O) (J:=Df t acc i (Ad g) (ltot g:Nat)) (csc:=Gl HC) (tgt:=D3 HC) (elt:=G1 HC) (x:="spot") (f:=λ s=>V.int (b64 (ltot g / 2 ^ (18 - 6 * s) % 64):Nat)) (toV:=fun(n:Nat)=>V.int (n:Int)) rfl (l6 0 (g.length+1))
  (λ p hp=>iEA _ ((λ p hp=>Wi (d:=d+2) (O:=O) (t:=t) (acc:=acc) (s:=Ad g) (i:=i) (n:=ltot g) (p:=p) hp:∀ p∈[0,1,2,3],_) p (mem4 (jK ((mM).mp hp).2 (hZ (j7 (kF _)) (j6 hg))))) rfl)
 obtain e1:((l6 0 (g.length+1)).map λ s=>V.int (b64 (ltot g / 2 ^ (18 - 6 * s) % 64):Nat))=Ad (lgs g):=by unfold lgs Ad;erw[jR,oX];rfl
 replace hc:=e1▸hc
 obtain a2:A1 .Add (.lst (acc++Ad (lgs g))) (.lst (Ad (j1 (3 - g.length) 61)))=some (.lst (acc++Ad (OX g))):=by
  (refine i7 (Dz (by(erw[hW,AH];erw[AH,JL];erw[lV]);exact Ai (hZ (j0 (j0 hz (j6 hg)) (sO 3 _)) (by decide)))) ?_;rw[OX];exact rwE (AS ..) (rwE (iF ..) rfl))
 obtain e3:((3:Int) - (g.length:Int))=((3 - g.length:Nat):Int):=by exact(tR hg).symm
 obtain hl:=AH g
 have hk:ev (d+14) (Aj 80) (Df t acc i (Ad g) (ltot g:Nat)) (GG (GG lbX)) O=some (.ok (.int (3 - ((Ad g).length:Int)),.val),O):=rfl
 rw[hl,e3]at hk
 obtain ha:Mo.mapM (ev (d+13) (Aj 80) (Df t acc i (Ad g) (ltot g:Nat))) (AQ (Cc HC)) O=some (.ok [(.int (((Ad g).length:Int)+1),.val)],O):=rfl
 rw[hl]at ha
 refine Aq (a:=(.lst (acc++Ad (lgs g)),.fresh)) (b:=(.lst (Ad (j1 (3 - g.length) 61)),.fresh)) ?_ ?_ a2
 ·refine Aq (a:=(.lst acc,.bor)) (b:=(.lst (Ad (lgs g)),.fresh)) ?_ ?_ (Dz (by erw[AH,JL];exact Ai (iQ (j0 hz hg) (by decide))):A1 .Add (.lst acc) (.lst (Ad (lgs g)))=some (.lst (acc++Ad (lgs g))))
  ·nofun
  ·refine Co (tgt:=D3 HC) (it:=Cc HC) (ifs:=[]) (vs:=IW 0 (g.length+1)) (ys:=Ad (lgs g)) ?_ ?_ ?_ hc
   ·nofun
   ·nofun
   ·refine Bx (as:=AQ (Cc HC)) ?_ ?_ ha (C3 _ (iQ hg (by decide)):BW [.int ((g.length+1:Nat):Int)]=some (IW 0 (g.length+1)))
    all_goals nofun
 ·refine Aq (a:=(.lst [.int 61],.fresh)) (b:=(.int (3 - g.length:Nat),.val)) (c:=.lst (Ad (j1 (3 - g.length) 61))) ?_ hk (Nv (3 - g.length) (hZ (sO 3 _) (by decide)))
  nofun
theorem Ex{x:hV}{vs:List V}(h1:ED.contains x=true)(h2:(x==("rows" : hV))=false):D4 x (.lst vs,.fresh)=some (.own vs):=by
 show some (if ED.contains x&&(vs.isEmpty||!(x==("rows" : hV))) then Slot.own vs else .val (.lst vs))=_
 (erw[h1,h2];erw[Bool.not_false,sB];exact rwE (if_pos (by rfl)) rfl)
theorem U0{J:R}{g:List Nat}(e0:(Db (Aj 80) (Gl Ez) (D3 Ez)&&(J.lookup (".0" : hV)).isNone)=true)(e1:Mo.mapM (ev (d+10) (Aj 80) J) (C6 (Cc Ez)) O=some (.ok [(.lst (Ad g),.val)],O))(h0:g≠[])(hl:g.length<=3)(ht:∀ c∈g,c < 256) :
  ev (d+12) (Aj 80) J (D5 (Aa WX 1)) O=some (.ok (.int (ltot g:Nat),.val),O):=by
 rcases g with _ | ⟨a,_ | ⟨b,_ | ⟨c,_ | ⟨_,_⟩⟩⟩⟩
 ·exact absurd rfl h0
 ·obtain ha:=ht a i8
  refine HB e0 e1 (l:=[(0,a)]) (λ p hp=>?_) rfl (show a * 65536+0=(256 * 0+a) * 65536 by grind)
  exact rwE ((iD).mp hp) ⟨.head _,ha⟩
 ·obtain ha:=ht a i8
  obtain hb:=ht b (.tail _ (.head _))
  refine HB e0 e1 (l:=[(0,a),(1,b)]) ((iK).mpr ⟨⟨.head _,ha⟩,(iK).mpr ⟨⟨.tail _ (.head _),hb⟩,λ _ h=>nomatch h⟩⟩) rfl (show a * 65536+(b * 256+0)=(256 * (256 * 0+a)+b) * 256 by lia)
 ·obtain ha:=ht a i8
  refine HB e0 e1 (l:=[(0,a),(1,b),(2,c)]) ((iK).mpr ⟨⟨.head _,ha⟩,(iK).mpr ⟨⟨.tail _ (.head _),(ht b (.tail _ (.head _)))⟩,(iK).mpr ⟨⟨.tail _ (.tail _ (.head _)),(ht c (.tail _ (.tail _ (.head _))))⟩,λ _ h=>nomatch h⟩⟩⟩) rfl (show a * 65536+(b * 256+(c * 1+0))=(256 * (256 * (256 * 0+a)+b)+c) * 1 by grind)
 ·simp only[i6]at hl;exact absurd hl ((uT).mpr (l8 4 _))
theorem Tj{t:List Nat}(ht:∀ c∈t,c < 256){acc:List V}{J:R}{k:Nat}(hk:k < (t.length+2) / 3)(aj:Qt t acc J)(hz:acc.length<=1000000) :
  exs (d+17) (Aj 80) (Aw J [("at",.val (.int ((3 * k:Nat):Int)))]) WX O=some (.nxt,Df t (acc++Ad (OX (Cr t k))) ((3 * k:Nat):Int) (Ad (Cr t k)) (ltot (Cr t k):Nat),O):=by
 have aJ:Cr t k≠[]:=by
  unfold Cr
  intro z
  obtain this:=congrArg jZ z
  rw[iY,jA,iM]at this
  exact mz this (kk hk)
 obtain hg:=CE t k
 obtain hs:=IM t k
 have h2:=λ J a b=>U0 (d:=d+4) (O:=O) (J:=J) a b aJ hg (λ c hc=>ht c (k9 (jW hc)))
 obtain h3:=PQ (d:=d) (O:=O) (t:=t) (acc:=acc) (i:=((3 * k:Nat):Int)) hg hz
 rcases aj with rfl | ⟨i,s,n,rfl⟩
 ·refine Ac (Ab (J':=VB t acc ((3 * k:Nat):Int) (Ad (Cr t k))) ?_ (Ab (J':=Df t acc ((3 * k:Nat):Int) (Ad (Cr t k)) (ltot (Cr t k):Nat)) ?_ (AD (Af ?_ h3 (Ex rfl rfl) ?_))))
  ·refine Af (t:=(.lst (Ad (Cr t k)),.fresh)) (s:=.val (.lst (Ad (Cr t k)))) ?_ (Bb (ts:=[(.bytes (Cr t k),.val)]) ?_ (Al (AZ (t:=(.bytes t,.val)) (a:=(.int ((3 * k:Nat):Int),.val)) (b:=(.int ((3 * k+3:Nat):Int),.val)) ?_ ?_ ?_ rfl rfl hs)) ?_) ?_ ?_ <;> nofun
  ·exact Af (s:=.val (.int (ltot (Cr t k):Nat))) rfl (h2 _ rfl rfl) rfl rfl
  all_goals nofun
 ·refine Ac (Ab (J':=Df t acc ((3 * k:Nat):Int) (Ad (Cr t k)) n) ?_ (Ab (J':=Df t acc ((3 * k:Nat):Int) (Ad (Cr t k)) (ltot (Cr t k):Nat)) ?_ (AD (Af ?_ h3 (Ex rfl rfl) ?_))))
  ·refine Af (t:=(.lst (Ad (Cr t k)),.fresh)) (s:=.val (.lst (Ad (Cr t k)))) ?_ (Bb (ts:=[(.bytes (Cr t k),.val)]) ?_ (Al (AZ (t:=(.bytes t,.val)) (a:=(.int ((3 * k:Nat):Int),.val)) (b:=(.int ((3 * k+3:Nat):Int),.val)) ?_ ?_ ?_ rfl rfl hs)) ?_) ?_ ?_ <;> nofun
  ·exact Af (s:=.val (.int (ltot (Cr t k):Nat))) rfl (h2 _ rfl rfl) rfl rfl
  all_goals nofun
theorem Nn{g:List Nat}(h0:g≠[])(hl:g.length<=3):lgs g=gcs g:=by
 rcases g with _ | ⟨a,_ | ⟨b,_ | ⟨c,_ | ⟨_,_⟩⟩⟩⟩
 ·exact absurd rfl h0
 ·obtain e:ltot [a]=gtot [a] * 4096:=(Nat.mul_assoc (gval [a]) 16 4096).symm
  show [b64 (ltot [a] / 262144 % 64),b64 (ltot [a] / 4096 % 64)]=[b64 (gtot [a] / 64 % 64),b64 (gtot [a] / 1 % 64)]
  (erw[e,oE];exact rwE (q9 _ (by decide)) (rwE (show gtot [a] * 4096 / 262144=gtot [a] / 64 from qS (gtot [a]) 64 (show 0 < 4096 by decide)) rfl))
 ·obtain e:ltot [a,b]=gtot [a,b] * 64:=(Nat.mul_assoc (gval [a,b]) 4 64).symm
  show [b64 (ltot [a,b] / 262144 % 64),b64 (ltot [a,b] / 4096 % 64),b64 (ltot [a,b] / 64 % 64)]=[b64 (gtot [a,b] / 4096 % 64),b64 (gtot [a,b] / 64 % 64),b64 (gtot [a,b] / 1 % 64)]
  (erw[e,oE];erw[q9 _ (by decide),(show gtot [a,b] * 64 / 262144=gtot [a,b] / 4096 from qS (gtot [a,b]) 4096 (show 0 < 64 by decide))];exact rwE (show gtot [a,b] * 64 / 4096=gtot [a,b] / 64 from qS (gtot [a,b]) 64 (show 0 < 64 by decide)) rfl)
 ·show [_,_,_,_]=[_,_,_,_]
  rfl
 ·simp only[i6]at hl;exact absurd hl ((uT).mpr (l8 4 _))
theorem Mg{t:List Nat}{k:Nat}(h:k < (t.length+2) / 3):Cr t k≠[]:=λ z=>by
 unfold Cr at z
 obtain this:=congrArg jZ z
 rw[iY,jA,iM]at this
 obtain this:=gk h
 exact mz (by assumption) this
theorem Cw(t:List Nat)(k:Nat):(Cr t k).length=min 3 (t.length - 3 * k):=by unfold Cr;exact i7 iY (rwE jA rfl)
def lbits(t:List Nat):List Nat:=(jE ((t.length+2) / 3)).flatMap λ k=>OX (Cr t k)
theorem PL(t:List Nat):lbits t=b64enc t:=by
 obtain h1:∀ m,3 * m<=t.length->((jE m).flatMap λ k=>OX (Cr t k))=(jE m).flatMap λ k=>gcs (Cr t k):=λ m hm=>by
  induction m with
  | zero=>rfl
  | succ m ih=>
   rw[nC,kE,kE,ih (jB (jK (kR (by decide)) hm)),iS,iS,kD,kD,OX,Nn (Mg (kg (jK (kR (by decide)) hm))) (CE t m),Cw,kO (show 3<=t.length - 3 * m from qT hm)]
   rw[show j1 (3 - 3) 61=([]:List Nat) from rfl,iO,iO]
 unfold lbits b64enc pe
 cases hm:(t.length+2) / 3 with
 | zero=>erw[g0 hm];rfl
 | succ m=>
  refine BG (g3 hm) λ r hr hn hp=>?_
  rw[nC,kE,kE,h1 _ (hn▸jF _ _),iS,iS,kD,kD,iO,iO,OX,Nn (Mg (hm▸lO m)) (CE t m),Cw,iF,hp,hn,lN,kU (j6 hr),Nat.add_sub_add_right 2 1 r]
theorem VY(g:List Nat):∀ c∈lgs g,c < 256:=λ c hc=>by
 refine A9 ((jV).mp hc) λ p _ aa=>?_;subst aa
 exact PW _
theorem Py(t:List Nat):∀ c∈lbits t,c < 256:=λ c hc=>by
 refine A9 ((m9).mp hc) λ k _ h=>?_
 refine jP ((jX).mp h) (λ h=>?_) λ h=>?_
 ·exact VY _ c h
 ·rw[pS h];decide
theorem p_lb{t:List Nat}(ht:∀ c∈t,c < 256)(hl:t.length<=1000):cl (d+20) "_law_bits" [.bytes t] O=some (.ok (.bytes (b64enc t)),O):=by
 obtain hz:((jE ((t.length+2) / 3)).flatMap λ k=>Ad (OX (Cr t k))).length<=1000000:=
  hZ (MN _ _ 4 λ k=>by erw[AH];exact TD _ (CE t k)) (by erw[kY];exact hZ (iP 4 (hZ (pV _ 3) (kM hl 2))) (by decide))
 obtain⟨J',h1,h2⟩:=EJ (O:=O) (Xf:=exs (d+18)) (sc:=Aj 80) (tgt:=Ck (Aa (bd 80) 1)) (body:=WX) (x:="at") (toV:=fun(k:Nat)=>V.int ((3 * k:Nat):Int)) (Inv:=Qt t) (g:=λ k=>Ad (OX (Cr t k))) (B:=1000000) (by kernel_rfl) (jE ((t.length+2) / 3))
  (λ k hk acc J h hz=>iEA _ (Tj (d:=d+1) ht ((mJ).mp hk) h hz) (.inr ⟨_,_,_,rfl⟩)) (acc:=[]) (J:=O9 t []) (.inl rfl) (by erw[iM,kF];exact hz)
 replace h2:=(EZ ..)▸((j4 ..)▸h2)
 obtain h2:Qt t (Ad (lbits t)) J':=h2
 have hr:=Rh (n:=t.length) (iL hl)
 refine rwS (PL ..) ?_
 refine Ap (fd:=⟨CO 80,[],Aj 80,bd 80⟩) (J:=[("row",.val (.bytes t))]) (r:=(.ret (.bytes (lbits t)),J',O)) ?_ ?_ (Ac (Ab (J':=O9 t []) ?_ ((BK ?_ (Bx (as:=AQ (G7 (Aa (bd 80) 1))) (ts:=[(.int 0,.val),(.int (t.length:Nat),.val),(.int 3,.val)]) ?_ ?_ ?_ hr) h1).trans (thn_nxt rfl ?_)))) rfl
 ·kernel_rfl
 ·kernel_rfl
 ·kernel_rfl
 ·kernel_rfl
 ·kernel_rfl
 ·kernel_rfl
 ·kernel_rfl
 ·clear h1 hl hr ht hz
  rcases h2 with rfl | ⟨i,s,n,rfl⟩ <;>
  ·refine Az (Ax ?_ (Bb (ts:=[(.lst (Ad (lbits t)),.bor)]) ?_ (Al ?_) (Bi (lbits t) (Py t))) rfl) <;> kernel_rfl
section
variable {α β:Type}
theorem Ef{m:Mo α}{f:α->Mo β}(h:m O=some (.exc,O)):Mo.bind m f O=some (.exc,O):=by unfold Mo.bind;exact rwE h rfl
theorem EO{f:hV}{p q:Pos}{as:List hJ}{ts:List TV}{vs:List V}(hc:((AR sc f&&noStar as&&(Bn.contains f||(G.fn f).isSome))&&!(Bn.contains f)&&!(f=="dict"))=true)
  (ha:Mo.mapM (ev d sc J) as O=some (.ok ts,O)) (hv:BN ts=some vs) (h:cl d f vs O=some (.exc,O)):ev (d+1) sc J (.Call (.Name f p) as [] q) O=some (.exc,O):=by
 rw[iC,iC,jO,jO]at hc
 show(if (AR sc f&&noStar as&&(Bn.contains f||(G.fn f).isSome))=true then Mo.bind (.mapM (ev d sc J) as) λ ts=>Cv (cl d) f ts else Mo.fail) O=_
 refine rwE (if_pos hc.1.1) (As ha ?_)
 unfold Cv
 (erw[if_neg (λ e=>by rw[e]at hc;exact absurd hc.2 (by decide)),hc.1.2];erw[if_neg iX,hv])
 exact Ef h
theorem KD{f:hV}{p q:Pos}{as:List hJ}(hc:(AR sc f&&noStar as&&(Bn.contains f||(G.fn f).isSome))=true)
  (ha:Mo.mapM (ev d sc J) as O=some (.exc,O)):ev (d+1) sc J (.Call (.Name f p) as [] q) O=some (.exc,O):=by
 show(if (AR sc f&&noStar as&&(Bn.contains f||(G.fn f).isSome))=true then Mo.bind (.mapM (ev d sc J) as) λ ts=>Cv (cl d) f ts else Mo.fail) O=_
 exact rwE (if_pos hc) (Ef ha)
theorem Ml{e:hJ}{es:List hJ}(h:ev d sc J e O=some (.exc,O)):Mo.mapM (ev d sc J) (e::es) O=some (.exc,O):=Ef h
theorem Rk{e:hJ}{es:List hJ}{t:TV}(h1:ev d sc J e O=some (.ok t,O))(h:Mo.mapM (ev d sc J) es O=some (.exc,O)):Mo.mapM (ev d sc J) (e::es) O=some (.exc,O):=As h1 (Ef h)
theorem Es{x:hV}{p q:Pos}{e:hJ}(hc:(Ah (sc.names.lookup x)&&!(DN e)&&BI e)=true)(h:ev d sc J e O=some (.exc,O)) :
  Be d sc J O (.Assign [.Name x p] e q)=some (.exc,J,O):=by
 rw[iC,iC,jO]at hc
 (refine BX hc.1.1 (rwE hc.1.2 ?_);refine Gx iX (BX hc.2 ?_))
 unfold liftE
 exact rwE h rfl
end
inductive Wy where
 | q | b
noncomputable def Wy.code:Wy->Nat
 | .q=>81
 | .b=>66
def Wy.pay:Wy->List Nat->List Nat
 | .q,t=>t.flatMap q1
 | .b,t=>b64enc t
def fr(k:Cs)(w:Wy):List Nat:=[61,63]++k.name++[63,w.code,63]
def wd(k:Cs)(w:Wy)(t:List Nat):List Nat:=fr k w++w.pay (t.flatMap k.enc)++[63,61]
theorem HL(k:Cs)(w:Wy):(fr k w).length<=20:=by cases k <;> cases w <;> decide
theorem Sg(t:List Nat):(b64enc t).length<=4 * t.length+10:=by
 unfold b64enc;erw[hW,lV];obtain this:=LP t;obtain this:=La t.length;lia
theorem JF(w:Wy)(t:List Nat):(w.pay t).length<=4 * t.length+10:=by
 cases w with
 | q=>obtain this:=Pg (t:=t);show(t.flatMap q1).length<=_;exact hZ this (hZ (Nat.mul_le_mul_right _ (by decide)) (jF _ _))
 | b=>exact Sg t
theorem KK(k:Cs)(w:Wy){o:List Nat}(ho:o.length<=1000000):cl (d+20) "framed_word" [.str k.name,.str [w.code],.bytes o] O=some (.ok (.bytes (fr k w++o++[63,61])),O):=by
 obtain h3:=add_bytes2 (Ai (by obtain this:=HL k w;exact hZ (j0 this ho) (by decide)):(fr k w).length+o.length<=Ae)
 have h4:=add_bytes2 (Ai (by have:=HL k w;simp only[hW,i6,iM];exact hZ (j0 (j0 this ho) (j3 _)) (by decide)):(fr k w++o).length+[63,61].length<=Ae)
 refine Ap (fd:=⟨CO 58,[],Aj 58,bd 58⟩) (J:=[("charset",.val (.str k.name)),("way",.val (.str [w.code])),("octets",.val (.bytes o))]) (r:=(.ret (.bytes (fr k w++o++[63,61])),[("charset",.val (.str k.name)),("way",.val (.str [w.code])),("octets",.val (.bytes o))],O)) ?_ ?_
  (Ac (Az (Ax (t:=(.bytes (fr k w++o++[63,61]),.val)) ?_ (Aq (a:=(.bytes (fr k w++o),.val)) (b:=(.bytes [63,61],.val)) (Aq (a:=(.bytes (fr k w),.val)) (b:=(.bytes o,.val)) (by cases k <;> cases w <;> kernel_rfl:ev (d+16) (Aj 58) [("charset",.val (.str k.name)),("way",.val (.str [w.code])),("octets",.val (.bytes o))] (NL (NL (DI (Aa (bd 58) 0)))) O=some (.ok (.bytes (fr k w),.val),O)) ?_ h3) ?_ h4) rfl))) rfl <;> nofun
theorem OV(w:Wy){t:List Nat}(hs:∀ c∈t,c∈OB)(hl:t.length<=1000):cl (d+42) "payload" [.bytes t,.str [w.code]] O=some (.ok (.bytes (w.pay t)),O):=by
 refine Ap (fd:=⟨CO 57,[],Aj 57,bd 57⟩) (J:=[("octets",.val (.bytes t)),("way",.val (.str [w.code]))]) (r:=(.ret (.bytes (w.pay t)),[("octets",.val (.bytes t)),("way",.val (.str [w.code]))],O)) ?_ ?_ (Ac (Az (Ax (t:=(.bytes (w.pay t),.val)) ?_ ?_ rfl))) rfl
 ·nofun
 ·kernel_rfl
 ·nofun
 ·cases w with
  | q=>
   refine AT (c:=true) ?_ (λ _=>?_) (λ q=>(nc j9 q (.refl false)))
   ·nofun
   ·refine Ar (ts:=[(.bytes t,.val)]) (vs:=[.bytes t]) ?_ (Al ?_) rfl ?_
    ·nofun
    ·nofun
    ·exact(YE (d:=d+18) (O:=O) hs hl)
  | b=>
   refine AT (c:=false) ?_ (λ q=>(fls q)) (λ _=>?_)
   ·nofun
   ·refine Ar (ts:=[(.bytes t,.val),(.int 0,.val)]) (vs:=[.bytes t,.int 0]) ?_ (AO ?_ ?_) rfl ?_
    ·nofun
    ·nofun
    ·nofun
    ·exact(Ok (d:=d) (O:=O) (λ c hc=>ob_lt c (hs c hc)) hl)
theorem Jd(k:Cs){t:List Nat}(hs:∀ c∈t,c∈SG)(h:t.all k.has=true):∀ x∈t.flatMap k.enc,x∈OB:=λ x hx=>by
 exact A9 ((m9).mp hx) λ c h1 h2=>Ln k c (hs c h1) ((jJ).mp h c h1) x h2
abbrev FQ(k:Cs)(w:Wy)(t:List Nat):R:=[("text",.val (.str t)),("charset",.val (.str k.name)),("way",.val (.str [w.code]))]
abbrev HF(k:Cs)(w:Wy)(t:List Nat)(o:List Nat):R:=[("text",.val (.str t)),("charset",.val (.str k.name)),("way",.val (.str [w.code])),("found",.val (.bytes o))]
def ew(k:Cs)(w:Wy)(t:List Nat):Option (List Nat):=if t.all k.has=true/\(wd k w t).length<=75 then some (wd k w t) else none
def Ib(o:Option (List Nat))(O:A4):Option (Out V×A4):=some (match o with
 | some b=>.ok (.bytes b)
 | none=>.exc,O)
theorem W7(k:Cs)(w:Wy){t:List Nat}(hs:∀ c∈t,c∈SG)(hl:t.length<=200):cl (d+48) "encoded_word" [.str t,.str k.name,.str [w.code]] O=Ib (ew k w t) O:=by
 obtain h1:=CM (d:=d+13) (O:=O) k hs (hZ hl (by decide))
 have e0:Bf (d+46) (Aj 59) (FQ k w t) (Bz (Aa (bd 59) 0)) O=some (.ok false,O):=by cases w <;> nofun
 cases h:t.all k.has with
 | false=>
  rw[h,if_neg iX]at h1
  obtain e:ew k w t=none:=by unfold ew;exact rwE (if_neg (λ q=>iX (h.symm.trans q.1))) rfl
  erw[e]
  refine Ap (fd:=⟨CO 59,[],Aj 59,bd 59⟩) (J:=FQ k w t) (r:=(.exc,FQ k w t,O)) ?_ ?_ (Ac (An e0 (λ q=>(fls q)) λ _=>thn_nxt (J':=FQ k w t) rfl (Ht (Es ?_ (KD ?_ (Rk (t:=(.str k.name,.val)) ?_ (Rk (t:=(.str [w.code],.val)) ?_ (Ml (KD ?_ (Ml (EO (ts:=[(.str k.name,.val),(.str t,.val)]) (vs:=[.str k.name,.str t]) ?_ (AO ?_ ?_) rfl h1))))))))))) rfl <;> nofun
 | true=>
  replace h1:=(if_pos rfl)▸(h▸h1)
  have fl:=EI k t
  have e1:Be (d+46) (Aj 59) (FQ k w t) O (Aa (bd 59) 1)=some (.nxt,HF k w t (wd k w t),O):=by
   refine Af (t:=(.bytes (wd k w t),.val)) (s:=.val (.bytes (wd k w t))) ?_ (Ar (ts:=[(.str k.name,.val),(.str [w.code],.val),(.bytes (w.pay (t.flatMap k.enc)),.val)]) (vs:=[.str k.name,.str [w.code],.bytes (w.pay (t.flatMap k.enc))]) ?_ (DD ?_ ?_ (Ar (ts:=[(.bytes (t.flatMap k.enc),.val),(.str [w.code],.val)]) (vs:=[.bytes (t.flatMap k.enc),.str [w.code]]) ?_ (AO (Ar (ts:=[(.str k.name,.val),(.str t,.val)]) (vs:=[.str k.name,.str t]) ?_ (AO ?_ ?_) rfl h1) ?_) rfl (OV (d:=d+2) (O:=O) w (Jd k hs h) (hZ fl (hZ (iP _ hl) (by decide)))))) rfl (KK (d:=d+25) (O:=O) k w (o:=w.pay (t.flatMap k.enc)) (by obtain this:=JF w (t.flatMap k.enc);exact hZ this (hZ (kM (iP 4 (hZ fl (iP 4 hl))) 10) (by decide))))) rfl ?_ <;> nofun
  by_cases hw:(wd k w t).length<=75
  ·have e:ew k w t=some (wd k w t):=by unfold ew;exact BX ⟨h,hw⟩ rfl
   erw[e]
   refine Ap (fd:=⟨CO 59,[],Aj 59,bd 59⟩) (J:=FQ k w t) (r:=(.ret (.bytes (wd k w t)),HF k w t (wd k w t),O)) ?_ ?_ (Ac (An e0 (λ q=>(fls q)) λ _=>thn_nxt (J':=FQ k w t) rfl (Ab e1 (An (c:=decide (((wd k w t).length:Int) > 75)) ?_ (λ q=>?_) λ _=>thn_nxt (J':=HF k w t (wd k w t)) rfl (Az (Ax (t:=(.bytes (wd k w t),.val)) ?_ ?_ rfl)))))) rfl
   ·nofun
   ·nofun
   ·nofun
   ·obtain this:=of_decide_eq_true q;exact absurd ((jU).mp this) ((sQ).mpr hw)
   all_goals nofun
  ·have e:ew k w t=none:=by unfold ew;exact rwE (if_neg (λ q=>hw q.2)) rfl
   erw[e]
   refine Ap (fd:=⟨CO 59,[],Aj 59,bd 59⟩) (J:=FQ k w t) (r:=(.exc,HF k w t (wd k w t),O)) ?_ ?_ (Ac (An e0 (λ q=>(fls q)) λ _=>thn_nxt (J':=FQ k w t) rfl (Ab e1 (An (c:=decide (((wd k w t).length:Int) > 75)) ?_ (λ q=>BQ (r:=(.exc,HF k w t (wd k w t),O)) ?_ rfl) λ q=>?_)))) rfl
   ·nofun
   ·nofun
   ·nofun
   ·nofun
   ·obtain this:=of_decide_eq_false q;exact absurd ((jU).mpr ((uT).mp hw)) this
theorem LB{t:List Nat}(k:Cs):∀ c∈[113,88],cl (d+48) "encoded_word" [.str t,.str k.name,.str [c]] O=some (.exc,O):=by
 cases k <;>
 ·repeat (refine (iK).mpr ⟨by nofun,?_⟩)
  exact λ _ h=>nomatch h
abbrev X7(k:Cs)(w:Wy)(t:List Nat):R:=[("words",.val (.str t)),("charset",.val (.str k.name)),("way",.val (.str [w.code]))]
abbrev P9(k:Cs)(w:Wy)(t o:List Nat):R:=[("words",.val (.str t)),("charset",.val (.str k.name)),("way",.val (.str [w.code])),("row",.val (.bytes o))]
abbrev PB(k:Cs)(w:Wy)(t o:List Nat):R:=[("words",.val (.str t)),("charset",.val (.str k.name)),("way",.val (.str [w.code])),("row",.val (.bytes o)),("frame",.val (.bytes (fr k w)))]
theorem RB(k:Cs)(w:Wy){t o:List Nat}:Be (d+44) (Aj 82) (P9 k w t o) O (Aa (bd 82) 1)=some (.nxt,PB k w t o,O):=by cases k <;> cases w <;> kernel_rfl
theorem Hd(k:Cs)(w:Wy){t:List Nat}(hs:∀ c∈t,c∈SG)(hl:t.length<=200)(h:t.all k.has=true):cl (d+46) "_law_word" [.str t,.str k.name,.str [w.code]] O=some (.ok (.bytes (wd k w t)),O):=by
 obtain h1:=CM (d:=d+13) (O:=O) k hs (hZ hl (by decide))
 rw[h,if_pos rfl]at h1
 obtain fl:=EI k t
 obtain ho:=Jd k hs h
 obtain h2:=YF (d:=d+20) (O:=O) ho (hZ fl (hZ (iP _ hl) (by decide)))
 obtain h3:=p_lb (d:=d+20) (O:=O) (λ c hc=>ob_lt c (ho c hc)) (hZ fl (hZ (iP _ hl) (by decide)))
 obtain pl:=JF w (t.flatMap k.enc)
 obtain fN:=HL k w
 obtain h4:=Ai (hZ (j0 fN (hZ pl (kM (iP 4 (hZ fl (iP 4 hl))) 10))) (by decide))
 obtain h5:(fr k w++w.pay (t.flatMap k.enc)).length+[63,61].length<=Ae:=Ai (by simp only[hW,i6,iM];exact hZ (j0 (j0 fN (hZ pl (kM (iP 4 (hZ fl (iP 4 hl))) 10))) (j3 _)) (by decide))
 refine Ap (fd:=⟨CO 82,[],Aj 82,bd 82⟩) (J:=X7 k w t) (r:=(.ret (.bytes (wd k w t)),PB k w t (t.flatMap k.enc),O)) ?_ ?_ (Ac (Ab (J':=P9 k w t (t.flatMap k.enc)) ?_ (Ab (RB k w) (Az (Ax (t:=(.bytes (wd k w t),.val)) ?_ (Aq (a:=(.bytes (fr k w++w.pay (t.flatMap k.enc)),.val)) (b:=(.bytes [63,61],.val)) (Aq (a:=(.bytes (fr k w),.val)) (b:=(.bytes (w.pay (t.flatMap k.enc)),.val)) ?_ ?_ (add_bytes2 h4)) ?_ (add_bytes2 h5)) rfl))))) rfl
 ·nofun
 ·nofun
 ·refine Af (t:=(.bytes (t.flatMap k.enc),.val)) (s:=.val (.bytes (t.flatMap k.enc))) ?_ (Ar (ts:=[(.str k.name,.val),(.str t,.val)]) (vs:=[.str k.name,.str t]) ?_ (AO ?_ ?_) rfl h1) rfl ?_ <;> nofun
 ·nofun
 ·nofun
 ·clear fl fN h h1 h4 h5 hl ho hs pl
  cases w with
  | q=>
   refine AT (c:=true) ?_ (λ _=>Ar (ts:=[(.bytes (t.flatMap k.enc),.val)]) (vs:=[.bytes (t.flatMap k.enc)]) ?_ (Al ?_) rfl h2) (λ q=>(nc j9 q (.refl false))) <;> nofun
  | b=>
   refine AT (c:=false) ?_ (λ q=>(fls q)) (λ _=>Ar (ts:=[(.bytes (t.flatMap k.enc),.val)]) (vs:=[.bytes (t.flatMap k.enc)]) ?_ (Al ?_) rfl h3) <;> nofun
 ·nofun
def Wy.sz:Wy->List Nat->Nat
 | .q,o=>(o.flatMap q1).length
 | .b,o=>o.length
abbrev Qo(k:Cs)(w:Wy)(t:List Nat):R:=[("text",.val (.str t)),("charset",.val (.str k.name)),("way",.val (.str [w.code]))]
abbrev Jx(k:Cs)(w:Wy)(t:List Nat)(vs:List V):R:=[("text",.val (.str t)),("charset",.val (.str k.name)),("way",.val (.str [w.code])),("rows",.val (.lst vs))]
def Lk:hJ:=D5 (Aa (bd 62) 0)
def Mk:hJ:=DI (Aa (bd 62) 1)
theorem Wt(k:Cs)(w:Wy){t:List Nat}{c:Nat}(hc:c∈SG)(h:k.has c=true):ev (d+34) (Gl Lk) (("sign",.val (.str [c]))::Qo k w t) (G1 Lk) O=some (.ok (.bytes (k.enc c),.val),O):=by
 obtain h1:=CM (d:=d+3) (O:=O) k (t:=[c]) (λ x hx=>((iD).mp hx)▸hc) (by decide:1<=1000)
 rw[show([c]:List Nat).all k.has=true by refine i7 lD (rwE h ?_);rfl,if_pos rfl,iS,kD,iO]at h1
 refine Ar (ts:=[(.str k.name,.val),(.str [c],.val)]) (vs:=[.str k.name,.str [c]]) ?_ (AO ?_ ?_) rfl h1 <;> nofun
theorem Wq(k:Cs)(w:Wy){t:List Nat}{vs:List V}{o:List Nat}(hs:∀ c∈o,c∈OB)(hl:o.length<=100):ev (d+34) (Gl Mk) (("row",.val (.bytes o))::Jx k w t vs) (G1 Mk) O=some (.ok (.int (w.sz o:Nat),.val),O):=by
 obtain h1:=YE (d:=d+11) (O:=O) hs (iL hl)
 cases w with
 | q=>refine AT (c:=true) ?_ (λ _=>Bb (ts:=[(.bytes (o.flatMap q1),.val)]) ?_ (Al (Ar (ts:=[(.bytes o,.val)]) (vs:=[.bytes o]) ?_ (Al ?_) rfl h1)) ?_) (λ q=>(nc j9 q (.refl false))) <;> nofun
 | b=>refine AT (c:=false) ?_ (λ q=>(fls q)) (λ _=>?_) <;> nofun
def B9(k:Cs)(w:Wy)(t:List Nat):List Nat:=t.map λ c=>w.sz (k.enc c)
theorem p_ss(k:Cs)(w:Wy){t:List Nat}(hn:t≠[])(hs:∀ c∈t,c∈SG)(h:t.all k.has=true):cl (d+37) "sign_sizes" [.str t,.str k.name,.str [w.code]] O=some (.ok (.lst (Ad (B9 k w t))),O):=by
 have ha:=(jJ).mp h
 have c1:=BP (d:=d+34) (O:=O) (J:=Qo k w t) (csc:=Gl Lk) (tgt:=D3 Lk) (elt:=G1 Lk) (x:="sign") (f:=λ c=>V.bytes (k.enc c)) (toV:=fun(n:Nat)=>V.str [n]) rfl t
  (λ c hc=>iEA _ (Wt k w (hs c hc) (ha c hc)) rfl)
 have c2:=BP (d:=d+34) (O:=O) (J:=Jx k w t (bts (t.map k.enc))) (csc:=Gl Mk) (tgt:=D3 Mk) (elt:=G1 Mk) (x:="row") (f:=λ o=>V.int (w.sz o:Nat)) (toV:=V.bytes) rfl (t.map k.enc)
  (λ o ho=>⟨_,Wq k w (by
   clear h
   refine A9 ((jV).mp ho) λ c hc aa=>?_;subst aa
   exact Ln k c (hs c hc) (ha c hc)) (by
   clear h ha hs
   refine A9 ((jV).mp ho) λ c hc aa=>?_;subst aa
   have this:=FZ k c;exact iL this),rfl⟩)
 have e1:(t.map λ c=>V.bytes (k.enc c))=bts (t.map k.enc):=by(rw[bts];erw[jR]);rfl
 have e2:((t.map k.enc).map λ o=>V.int (w.sz o:Nat))=Ad (B9 k w t):=by(rw[Ad];rw[B9];refine i7 jR (rwE jR ?_));rfl
 replace c1:=e1▸c1
 replace c2:=e2▸c2
 have hso:D4 "rows" (.lst (bts (t.map k.enc)),.fresh)=some (.val (.lst (bts (t.map k.enc)))):=by
  clear e1 e2 h ha hs
  cases t with
  | nil=>exact absurd rfl hn
  | cons c t=>rfl
 refine Ap (fd:=⟨CO 62,[],Aj 62,bd 62⟩) (J:=Qo k w t) (r:=(.ret (.lst (Ad (B9 k w t))),Jx k w t (bts (t.map k.enc)),O)) ?_ ?_ (Ac (Ab (J':=Jx k w t (bts (t.map k.enc))) (Af (t:=(.lst (bts (t.map k.enc)),.fresh)) ?_ ?_ hso ?_) (Az (Ax (t:=(.lst (Ad (B9 k w t)),.fresh)) ?_ ?_ rfl)))) rfl
 ·nofun
 ·nofun
 ·nofun
 ·refine Co (tgt:=D3 Lk) (it:=Cc Lk) (ifs:=[]) ?_ ?_ (Bt (t:=(.str t,.val)) (u:=.str t) (vs:=t.map fun(n:Nat)=>V.str [n]) ?_ ?_ rfl rfl) c1 <;> nofun
 ·nofun
 ·nofun
 ·refine Co (tgt:=D3 Mk) (it:=Cc Mk) (ifs:=[]) ?_ ?_ (Bt (t:=(.lst (bts (t.map k.enc)),.val)) (u:=.lst (bts (t.map k.enc))) (vs:=(t.map k.enc).map V.bytes) ?_ ?_ rfl rfl) c2 <;> nofun
noncomputable def ce(room:Int):Nat->Nat->List Nat->Option (List Nat)
 | _,_,[]=>some []
 | at',eh,s::r=>if (s:Int) > room then none else if ((eh+s:Nat):Int) > room then(ce room (at'+1) s r).map (at'::·) else ce room (at'+1) (eh+s) r
theorem Ni{room:Int}{a u s:Nat}{r:List Nat}:ce room a u (s::r)=if (s:Int) > room then none else if ((u+s:Nat):Int) > room then(ce room (a+1) s r).map (a::·) else ce room (a+1) (u+s) r:=rfl
theorem K4{room:Int}:∀ (l:List Nat) {a u:Nat} {e:List Nat},ce room a u l=some e->e.length<=l.length:=λ l=>by
 induction l with
 | nil=>intro a u e h;refine rwS (hG h) ?_;exact j3 _
 | cons s l ih=>
  intro a u e h
  replace h:=eqL Ni h
  by_cases h1:(s:Int) > room
  ·replace h:=Gn h1 h;exact none_some h
  ·replace h:=Fg h1 h
   by_cases h2:((u+s:Nat):Int) > room
   ·obtain h:=Gn h2 h
    exact AY h λ e' h3 aa=>rwS aa (j6 (ih h3))
   ·obtain h:=Fg h2 h
    exact mN (ih h)
abbrev Kt(zs:List Nat)(room:Int)(acc:List V)(u:Int):R:=[("sizes",.val (.lst (Ad zs))),("room",.val (.int room)),("ends",.own acc),("used",.val (.int u))]
abbrev B4(zs:List Nat)(room:Int)(acc:List V)(u i:Int):R:=[("sizes",.val (.lst (Ad zs))),("room",.val (.int room)),("ends",.own acc),("used",.val (.int u)),("at",.val (.int i))]
def Mz(zs:List Nat)(room:Int)(acc:List V)(u:Nat)(J:R):Prop:=J=Kt zs room acc u\/∃ i,J=B4 zs room acc u i
def WA:List Stmt:=Cl (Aa (bd 63) 2)
theorem C5{vs pre post:List V}{v:V}(e:vs=pre++v::post):Bg (.lst vs) (pre.length:Int)=some v:=by
 show(if (0:Int)<=(pre.length:Int) then(if (pre.length:Int) < (vs.length:Int) then some (pre.length:Int).toNat else none) else _).bind (λ k=>vs[k]?)=_
 (erw[if_pos (iV _),if_pos (by(refine rwE e (rwE hW ?_);refine rwE i6 ?_);exact (jU).mpr (kR (kZ _)))];erw[iZ])
 (refine rwE e (i7 (mX (j3 _)) ?_);erw[uJ]);rfl
theorem MU{zs pre post:List Nat}{s:Nat}{room u:Int}{acc:List V}(e:zs=pre++s::post):ev (d+10) (Aj 63) (B4 zs room acc u (pre.length:Nat)) (GG (D5 (Aa WA 2))) O=some (.ok (.int (s:Nat),.val),O):=by
 obtain h:=C5 (vs:=Ad zs) (pre:=Ad pre) (v:=.int (s:Nat)) (post:=Ad post) (by refine rwE e (i7 (AS ..) ?_);rfl)
 rw[AH]at h
 refine Ay (t:=(.lst (Ad zs),.val)) (k:=(.int (pre.length:Nat),.val)) ?_ ?_ ?_ rfl rfl h <;> nofun
theorem Q3{zs pre post:List Nat}{s:Nat}{room u:Int}{acc:List V}(e:zs=pre++s::post):Bf (d+11) (Aj 63) (B4 zs room acc u (pre.length:Nat)) (Bz (Aa WA 0)) O=some (.ok (decide ((s:Int) > room)),O):=by
 have h:=C5 (vs:=Ad zs) (pre:=Ad pre) (v:=.int (s:Nat)) (post:=Ad post) (by rw[e,AS];rfl)
 rw[AH]at h
 refine AN (a:=(.int (s:Nat),.val)) (b:=(.int room,.val)) ?_ (Ay (t:=(.lst (Ad zs),.val)) (k:=(.int (pre.length:Nat),.val)) ?_ ?_ ?_ rfl rfl h) ?_ ?_ <;> nofun
theorem QZ{zs pre post:List Nat}{s u:Nat}{room:Int}{acc:List V}(e:zs=pre++s::post):Bf (d+11) (Aj 63) (B4 zs room acc u (pre.length:Nat)) (Bz (Aa WA 1)) O=some (.ok (decide (((u+s:Nat):Int) > room)),O):=by
 have h:=C5 (vs:=Ad zs) (pre:=Ad pre) (v:=.int (s:Nat)) (post:=Ad post) (by rw[e,AS];rfl)
 rw[AH]at h
 refine AN (a:=(.int ((u+s:Nat):Int),.val)) (b:=(.int room,.val)) ?_ (Aq (a:=(.int (u:Nat),.val)) (b:=(.int (s:Nat),.val)) ?_ (Ay (t:=(.lst (Ad zs),.val)) (k:=(.int (pre.length:Nat),.val)) ?_ ?_ ?_ rfl rfl h) ?_) ?_ ?_ <;> nofun
theorem Td{zs pre post:List Nat}{s u:Nat}{room:Int}{acc:List V}{J:R}(e:zs=pre++s::post)(aj:Mz zs room acc u J)(hz:acc.length<=1000000) :
  exs (d+13) (Aj 63) (Aw J [("at",.val (.int (pre.length:Nat)))]) WA O =
   if (s:Int) > room then some (.exc,B4 zs room acc u (pre.length:Nat),O)
   else if ((u+s:Nat):Int) > room then some (.nxt,B4 zs room (acc++[.int (pre.length:Nat)]) (s:Nat) (pre.length:Nat),O) else some (.nxt,B4 zs room acc ((u+s:Nat):Int) (pre.length:Nat),O):=by
 obtain e0:Aw J [("at",.val (.int (pre.length:Nat)))]=B4 zs room acc u (pre.length:Nat):=by rcases aj with rfl | ⟨i,rfl⟩ <;> nofun
 erw[e0]
 refine Ac (An (Q3 (d:=d+1) e) (λ q=>?_) λ q=>?_)
 ·refine rwE (if_pos (of_decide_eq_true q)) (BQ (r:=(.exc,B4 zs room acc u (pre.length:Nat),O)) ?_ rfl)
  nofun
 ·erw[if_neg (of_decide_eq_false q)]
  refine thn_nxt (J':=B4 zs room acc u (pre.length:Nat)) rfl (An (QZ (d:=d+1) e) (λ q=>?_) λ q=>?_)
  ·erw[if_pos (of_decide_eq_true q)]
   refine thn_nxt (J':=B4 zs room (acc++[.int (pre.length:Nat)]) 0 (pre.length:Nat)) (Ac (Ab (J':=B4 zs room (acc++[.int (pre.length:Nat)]) u (pre.length:Nat)) (AX (ts:=[(.int (pre.length:Nat),.val)]) ?_ (Al ?_) (AB (vs:=acc) ?_ rfl (Ao hz) ?_)) (AD (Af (t:=(.int 0,.val)) (s:=.val (.int 0)) ?_ ?_ rfl ?_))))
    (AD (Af (t:=(.int (s:Nat),.val)) (s:=.val (.int (s:Nat))) ?_ (Aq (a:=(.int 0,.val)) (b:=(.int (s:Nat),.val)) ?_ (MU (d:=d+1) e) ?_) rfl ?_))
   ·nofun
   ·nofun
   ·nofun
   ·nofun
   ·nofun
   ·nofun
   ·nofun
   ·nofun
   ·nofun
   ·show some (V.int (0+(s:Int)))=_
    exact rwE (Int.zero_add ..) rfl
   ·nofun
  ·erw[if_neg (of_decide_eq_false q)]
   refine thn_nxt (J':=B4 zs room acc u (pre.length:Nat)) rfl
    (AD (Af (t:=(.int ((u+s:Nat):Int),.val)) (s:=.val (.int ((u+s:Nat):Int))) ?_ (Aq (a:=(.int (u:Nat),.val)) (b:=(.int (s:Nat),.val)) ?_ (MU (d:=d+1) e) ?_) rfl ?_)) <;> nofun
theorem Sy{zs:List Nat}{room:Int}(hl:zs.length<=1000)(post:List Nat):∀ (pre:List Nat) {u:Nat} {acc:List Nat} {J:R},zs=pre++post->acc.length<=pre.length->Mz zs room (Ad acc) u J ->
  ∃ J',(∀ e,ce room pre.length u post=some e->Bh (exs (d+13)) (Aj 63) (Ck (Aa (bd 63) 2)) WA (IW pre.length post.length) J O=some (.nxt,J',O)/\∃ u',Mz zs room (Ad (acc++e)) u' J') /\
   (ce room pre.length u post=none->Bh (exs (d+13)) (Aj 63) (Ck (Aa (bd 63) 2)) WA (IW pre.length post.length) J O=some (.exc,J',O)):=by
 induction post with
 | nil=>
  intro pre u acc J e ha aj
  exact iEA J (λ e' q=>⟨for_nil,u,by refine rwS (hG q) (rwE (iO ..) ?_);exact aj⟩) (λ q=>(nc mG q (.refl false)))
 | cons s post ih=>
  intro pre u acc J e ha aj
  obtain hp:=hZ (by erw[e,hW];exact jF _ _) hl
  have hb:=Td (d:=d) (O:=O) (s:=s) e aj (by erw[AH];exact hZ (hZ ha hp) (by decide))
  (erw[Ni,i6];erw[FU])
  by_cases h1:(s:Int) > room
  ·rw[if_pos h1]at hb
   exact rwE (if_pos h1) (iEA _ (λ _ q=>((none_some q))) (λ _=>Np (xs:=[("at",.int pre.length)]) rfl hb))
  ·rw[if_neg h1]at hb
   erw[if_neg h1]
   by_cases h2:((u+s:Nat):Int) > room
   ·rw[if_pos h2]at hb
    erw[if_pos h2]
    obtain⟨J',k1,k2⟩:=ih (pre++[s]) (u:=s) (acc:=acc++[pre.length]) (J:=B4 zs room (Ad acc++[.int (pre.length:Nat)]) (s:Nat) (pre.length:Nat)) (by refine i7 e (rwE (iF ..) ?_);rfl) (by erw[hW,hW];exact j6 ha) (.inr (iE _ (by erw[AS];rfl)))
    rw[hW,iT]at k1 k2
    refine iEA J' (λ e' q=>?_) (λ q=>AV (xs:=[("at",.int pre.length)]) rfl hb (k2 (Option.map_eq_none_iff.mp q)))
    refine AY q λ e2 q1 aa=>rwS aa ?_
    obtain k:=k1 e2 q1
    rw[iF]at k
    exact⟨AV (xs:=[("at",.int pre.length)]) rfl hb k.1,k.2⟩
   ·rw[if_neg h2]at hb
    erw[if_neg h2]
    obtain⟨J',k1,k2⟩:=ih (pre++[s]) (u:=u+s) (acc:=acc) (J:=B4 zs room (Ad acc) ((u+s:Nat):Int) (pre.length:Nat)) (by refine i7 e (rwE (iF ..) ?_);rfl) (by erw[hW];exact mN ha) (.inr (iE _ rfl))
    rw[hW,iT]at k1 k2
    exact iEA J' (λ e' q=>⟨AV (xs:=[("at",.int pre.length)]) rfl hb (k1 e' q).1,(k1 e' q).2⟩) (λ q=>AV (xs:=[("at",.int pre.length)]) rfl hb (k2 q))
def outL(o:Option (List Nat))(O:A4):Option (Out V×A4):=some (match o with
 | some b=>.ok (.lst (Ad b))
 | none=>.exc,O)
theorem p_ce{zs:List Nat}{room:Int}(hl:zs.length<=1000):cl (d+15) "chunk_ends" [.lst (Ad zs),.int room] O=outL ((ce room 0 0 zs).map (·++[zs.length])) O:=by
 refine A9 (Sy (d:=d) (O:=O) (room:=room) hl zs [] (u:=0) (acc:=[]) (J:=Kt zs room [] 0) rfl (j3 _) (.inl rfl)) λ J' k1 k2=>?_
 obtain hr:=C3 _ (iL hl)
 have pre:∀ {r},Bh (exs (d+13)) (Aj 63) (Ck (Aa (bd 63) 2)) WA (IW 0 zs.length) (Kt zs room [] 0) O=some r ->
   exs (d+14) (Aj 63) [("sizes",.val (.lst (Ad zs))),("room",.val (.int room))] (bd 63) O=Q8 (d+13) (Aj 63) [Aa (bd 63) 3] (some r):=fun {r} h=>by
  obtain hn:Mo.mapM (ev (d+13) (Aj 63) (Kt zs room [] 0)) (AQ (G7 (Aa (bd 63) 2))) O=some (.ok [(.int (Ad zs).length,.val)],O):=rfl
  rw[AH]at hn
  refine Ac (Ab (J':=[("sizes",.val (.lst (Ad zs))),("room",.val (.int room)),("ends",.own [])]) ?_ (Ab (J':=Kt zs room [] 0) ?_ (BK ?_ (Bx (as:=AQ (G7 (Aa (bd 63) 2))) (ts:=[(.int zs.length,.val)]) ?_ ?_ ?_ hr) h)))
  ·nofun
  ·nofun
  ·nofun
  ·nofun
  ·nofun
  ·exact hn
 cases h:ce room 0 0 zs with
 | some e=>
  refine XQ (k1 e h) λ h1 u' h2=>?_
  obtain hz:=K4 zs h
  obtain ha:A1 .Add (.lst (Ad e)) (.lst [.int (zs.length:Nat)])=some (.lst (Ad (e++[zs.length]))):=by
   refine i7 (Dz (by erw[AH];exact Ai (by simp only[i6,iM];exact hZ (j6 (hZ hz hl)) (by decide)))) (rwE (AS ..) ?_);rfl
  have d3:∀ J',Mz zs room (Ad e) u' J'->ev (d+12) (Aj 63) J' (GG (DI (Aa (bd 63) 3))) O=some (.ok (.lst [.int (zs.length:Nat)],.fresh),O):=λ J' q=>by
   have:ev (d+12) (Aj 63) J' (GG (DI (Aa (bd 63) 3))) O=some (.ok (.lst [.int ((Ad zs).length:Nat)],.fresh),O):=by rcases q with rfl | ⟨i,rfl⟩ <;> nofun
   rw[AH]at this;exact this
  refine Ap (fd:=⟨CO 63,[],Aj 63,bd 63⟩) (J:=[("sizes",.val (.lst (Ad zs))),("room",.val (.int room))]) (r:=(.ret (.lst (Ad (e++[zs.length]))),J',O)) ?_ ?_ ((pre h1).trans (thn_nxt rfl (Az (Ax (t:=(.lst (Ad (e++[zs.length])),.fresh)) ?_ (Aq (a:=(.lst (Ad e),.bor)) (b:=(.lst [.int (zs.length:Nat)],.fresh)) ?_ (d3 J' h2) ha) rfl)))) rfl
  ·nofun
  ·nofun
  ·clear h1 ha hl d3 hr hz k1
   rcases h2 with rfl | ⟨i,rfl⟩ <;> nofun
  ·clear h1 ha hl d3 hr hz k1
   rcases h2 with rfl | ⟨i,rfl⟩ <;> nofun
 | none=>exact Ap (fd:=⟨CO 63,[],Aj 63,bd 63⟩) (J:=[("sizes",.val (.lst (Ad zs))),("room",.val (.int room))]) rfl rfl (pre (k2 h)) rfl
section
variable {α β:Type}
theorem QT{tgt e:hJ}(hc:((CX sc e).isNone&&(Fe sc e).isNone&&Eb tgt&&BC [e])=true)(h:ev d sc J e O=some (.exc,O)):By (ev d) sc J tgt e O=some (.exc,O):=by
 simp only[iC,jD]at hc
 refine qA hc λ aa h4=>?_;obtain⟨⟨h1,h2⟩,h3⟩:=aa
 unfold By
 erw[h1];dsimp only
 erw[h2];dsimp only
 erw[if_pos (by refine rwE h3 (rwE h4 ?_);rfl)]
 exact Ef h
theorem P6{tgt it:hJ}{body bk:List Stmt}{p:Pos}(hc:(bk.isEmpty&&F6 sc tgt)=true)(h:By (ev d) sc J tgt it O=some (.exc,O)) :
  sq d sc (.For tgt it body bk p::rest) J O=some (.exc,J,O):=by
 refine Ht ?_
 refine BX hc ?_
 unfold liftE
 exact rwE h rfl
end
theorem M9(l:List (List Nat))(h:(l.map jZ).sum+l.length<=Ae):CS (.bytes [32]) "join" [.lst (bts l)]=some (.bytes (joinL [32] l)):=by
 show((Ce (bts l)).bind λ l=>if B2 1 l then some (V.bytes (joinL [32] l)) else none)=_
 (refine rwE (IO ..) (i7 (kN ..) ?_);exact BX (by unfold B2;erw[tC];exact h) rfl)
theorem mul3(i:Int):A1 .Mult (.int i) (.int 3)=some (.int (i * 3)):=by
 exact BX (.inr (by decide)) rfl
noncomputable def chs(t:List Nat):Nat->List Nat->List (List Nat)
 | _,[]=>[]
 | b,e::r=>(t.take e).drop b::chs t e r
theorem chs_nE{t:List Nat}{b:Nat}:chs t b []=[]:=rfl
theorem WQ{t:List Nat}{b e:Nat}{r:List Nat}:chs t b (e::r)=(t.take e).drop b::chs t e r:=rfl
def rm(k:Cs)(w:Wy)(width:Int):Int:=match w with
 | .q=>width - ((fr k w).length+2:Nat)
 | .b=>(width - ((fr k w).length+2:Nat)).fdiv 4 * 3
abbrev MX(k:Cs)(w:Wy)(t:List Nat)(width:Int):R:=[("text",.val (.str t)),("charset",.val (.str k.name)),("way",.val (.str [w.code])),("width",.val (.int width))]
abbrev Ja(k:Cs)(w:Wy)(t:List Nat)(width r:Int):R:=[("text",.val (.str t)),("charset",.val (.str k.name)),("way",.val (.str [w.code])),("width",.val (.int width)),("room",.val (.int r))]
abbrev Gr(k:Cs)(w:Wy)(t:List Nat)(width r:Int)(acc:List V)(b:Int):R:=[("text",.val (.str t)),("charset",.val (.str k.name)),("way",.val (.str [w.code])),("width",.val (.int width)),("room",.val (.int r)),("found",.own acc),("begin",.val (.int b))]
abbrev Jm(k:Cs)(w:Wy)(t:List Nat)(width r:Int)(acc:List V)(b e:Int):R:=[("text",.val (.str t)),("charset",.val (.str k.name)),("way",.val (.str [w.code])),("width",.val (.int width)),("room",.val (.int r)),("found",.own acc),("begin",.val (.int b)),("end",.val (.int e))]
def QV(k:Cs)(w:Wy)(t:List Nat)(width r:Int)(acc:List V)(b:Int)(J:R):Prop:=J=Gr k w t width r acc b\/∃ e,J=Jm k w t width r acc b e
def woB:List Stmt:=Cl (Aa (bd 64) 4)
theorem M8(k:Cs)(w:Wy){t:List Nat}{width:Int}:∀ {res},sq (d+50) (Aj 64) [Aa (bd 64) 2,Aa (bd 64) 3,Aa (bd 64) 4,Aa (bd 64) 5] (Ja k w t width (rm k w width)) O=res->sq (d+50) (Aj 64) (bd 64) (MX k w t width) O=res:=fun {res} h=>by
 obtain h1:=KK (d:=d+27) (O:=O) k w (o:=[]) (by decide)
 obtain h2:Be (d+50) (Aj 64) (MX k w t width) O (Aa (bd 64) 0)=some (.nxt,Ja k w t width (width - ((fr k w).length+2:Nat)),O):=by
  refine Af (t:=(.int (width - ((fr k w).length+2:Nat)),.val)) (s:=.val (.int (width - ((fr k w).length+2:Nat)))) ?_ (Aq (a:=(.int width,.val)) (b:=(.int ((fr k w).length+2:Nat),.val)) ?_ (Bb (ts:=[(.bytes (fr k w++[]++[63,61]),.val)]) ?_ (Al (Ar (ts:=[(.str k.name,.val),(.str [w.code],.val),(.bytes [],.val)]) (vs:=[.str k.name,.str [w.code],.bytes []]) ?_ (DD ?_ ?_ ?_) rfl h1)) ?_) ?_) rfl ?_
  ·nofun
  ·nofun
  ·nofun
  ·nofun
  ·nofun
  ·nofun
  ·nofun
  ·clear h1
   cases k <;> cases w <;> nofun
  all_goals nofun
 refine Ab h2 ?_
 clear h1 h2
 cases w with
 | q=>exact An (c:=false) rfl (λ q=>(fls q)) (λ _=>thn_nxt (J':=Ja k .q t width (rm k .q width)) rfl h)
 | b=>exact An (c:=true) rfl (λ _=>thn_nxt (J':=Ja k .b t width (rm k .b width)) (Ac (AD (Af (t:=(.int (rm k .b width),.val)) (s:=.val (.int (rm k .b width))) rfl (Aq (a:=(.int ((width - ((fr k .b).length+2:Nat)).fdiv 4),.val)) (b:=(.int 3,.val)) rfl rfl (mul3 _)) rfl rfl))) h) (λ q=>(nc j9 q (.refl false)))
theorem Tq(k:Cs)(w:Wy){t:List Nat}{width r:Int}{acc:List V}{b e:Nat}{J:R}(hs:∀ c∈t,c∈SG)(hl:t.length<=200)(hw:ew k w ((t.take e).drop b)=some (wd k w ((t.take e).drop b)))(aj:QV k w t width r acc b J)(hz:acc.length<=1000000) :
  exs (d+50) (Aj 64) (Aw J [("end",.val (.int (e:Int)))]) woB O=some (.nxt,Jm k w t width r (acc++[.bytes (wd k w ((t.take e).drop b))]) e e,O):=by
 obtain e0:Aw J [("end",.val (.int (e:Int)))]=Jm k w t width r acc b e:=by rcases aj with rfl | ⟨i,rfl⟩ <;> nofun
 erw[e0]
 obtain h1:=W7 (d:=d) (O:=O) k w (t:=(t.take e).drop b) (λ c hc=>hs c (jW (k9 hc))) (by erw[jA,iY];exact(sM hl))
 rw[hw]at h1
 obtain h2:Bo (.str t) (some (b:Int)) (some (e:Int))=some (.str ((t.take e).drop b)):=by
  show some (V.str (Au t _ _))=_
  exact rwE (DH ..) rfl
 refine Ac (Ab (J':=Jm k w t width r (acc++[.bytes (wd k w ((t.take e).drop b))]) b e) (AX (ts:=[(.bytes (wd k w ((t.take e).drop b)),.val)]) ?_ (Al (Ar (ts:=[(.str ((t.take e).drop b),.val),(.str k.name,.val),(.str [w.code],.val)]) (vs:=[.str ((t.take e).drop b),.str k.name,.str [w.code]]) ?_ (DD (AZ (t:=(.str t,.val)) (a:=(.int (b:Int),.val)) (b:=(.int (e:Int),.val)) ?_ ?_ ?_ rfl rfl h2) ?_ ?_) rfl h1)) (AB (vs:=acc) ?_ rfl (Ao hz) ?_))
  (AD ?_)) <;> nofun
theorem Ty(k:Cs)(w:Wy){t:List Nat}{width r:Int}(hs:∀ c∈t,c∈SG)(hl:t.length<=200):∀ (ends:List Nat) {b:Nat} {acc:List V} {J:R},(∀ c∈chs t b ends,ew k w c=some (wd k w c))->acc.length+ends.length<=1000000->QV k w t width r acc b J ->
  ∃ J' b',Bh (exs (d+50)) (Aj 64) (Ck (Aa (bd 64) 4)) woB (Ad ends) J O=some (.nxt,J',O)/\QV k w t width r (acc++bts ((chs t b ends).map (wd k w))) b' J':=λ ends=>by
 induction ends with
 | nil=>intro b acc J _ _ aj;exact iEEA J b for_nil (by(erw[chs_nE,List.map_nil];erw[(show bts []=[] from rfl),iO]);exact aj)
 | cons e r ih=>
  intro b acc J hw hz aj
  replace hz:=i6▸hz
  obtain⟨J',b',h1,h2⟩:=ih (b:=e) (acc:=acc++[.bytes (wd k w ((t.take e).drop b))]) (λ c hc=>hw c (i9 _ hc)) (by erw[hW,iT];exact hZ (j7 (kI ..)) hz) (.inr (iE (e:Int) rfl))
  refine iEEA J' b' (AV (xs:=[("end",.int (e:Int))]) (by kernel_rfl) (Tq (d:=d) (O:=O) k w hs hl (hw _ i8) aj (jY hz)) h1) ?_
  rw[iF]at h2
  exact h2
def wos(k:Cs)(w:Wy)(width:Int)(t:List Nat):Option (List Nat):=(ce (rm k w width) 0 0 (B9 k w t)).map λ e=>joinL [32] ((chs t 0 (e++[t.length])).map (wd k w))
theorem ER(k:Cs)(w:Wy)(t:List Nat):(B9 k w t).length=t.length:=iH ..
theorem MJ(t:List Nat):∀ {b:Nat} (e:List Nat),(chs t b e).length=e.length:=fun {b} e=>by
 induction e generalizing b with
 | nil=>rfl
 | cons e r ih=>(refine rwE WQ (i7 i6 ?_);exact rwE i6 (rwE ih rfl))
theorem FX(l:List (List Nat))(m:Nat)(h:∀ c∈l,c.length<=m):(l.map jZ).sum<=m * l.length:=by
 induction l with
 | nil=>exact j3 _
 | cons c l ih=>
  (erw[iW,lC];erw[i6,qL])
  obtain this:=h c i8
  obtain this:=ih λ x hx=>h x (i9 _ hx)
  exact hZ (j7 (lB ..)) (j0 this (by assumption))
theorem Xk(k:Cs)(w:Wy){t:List Nat}{width:Int}(hn:t≠[])(hs:∀ c∈t,c∈SG)(hl:t.length<=200)(ha:t.all k.has=true)(hw:∀ e,ce (rm k w width) 0 0 (B9 k w t)=some e->∀ c∈chs t 0 (e++[t.length]),ew k w c=some (wd k w c)) :
  cl (d+52) "words_of" [.str t,.str k.name,.str [w.code],.int width] O=Ib (wos k w width t) O:=by
 obtain h1:=p_ss (d:=d+11) (O:=O) k w hn hs ha
 obtain h2:=p_ce (d:=d+34) (O:=O) (zs:=B9 k w t) (room:=rm k w width) (by erw[ER];exact iL hl)
 rw[ER]at h2
 obtain a1:Mo.mapM (ev (d+49) (Aj 64) (Gr k w t width (rm k w width) [] 0)) (C6 (G7 (Aa (bd 64) 4))) O=some (.ok [(.lst (Ad (B9 k w t)),.val),(.int (rm k w width),.val)],O):=by
  refine AO (Ar (ts:=[(.str t,.val),(.str k.name,.val),(.str [w.code],.val)]) (vs:=[.str t,.str k.name,.str [w.code]]) ?_ (DD ?_ ?_ ?_) rfl h1) ?_ <;> nofun
 unfold wos
 cases h:ce (rm k w width) 0 0 (B9 k w t) with
 | none=>
  rw[h]at h2
  refine Ap (fd:=⟨CO 64,[],Aj 64,bd 64⟩) (J:=MX k w t width) (r:=(.exc,Gr k w t width (rm k w width) [] 0,O)) ?_ ?_ (Ac (M8 k w (Ab (J':=[("text",.val (.str t)),("charset",.val (.str k.name)),("way",.val (.str [w.code])),("width",.val (.int width)),("room",.val (.int (rm k w width))),("found",.own [])]) ?_ (Ab (J':=Gr k w t width (rm k w width) [] 0) ?_
   (P6 ?_ (QT ?_ (EO (vs:=[.lst (Ad (B9 k w t)),.int (rm k w width)]) ?_ a1 rfl h2))))))) rfl <;> nofun
 | some e=>
  rw[h]at h2
  obtain cP:=K4 _ h
  rw[ER]at cP
  obtain⟨J',b',h3,h4⟩:=Ty (d:=d) (O:=O) k w (width:=width) (r:=rm k w width) hs hl (e++[t.length]) (b:=0) (acc:=[]) (J:=Gr k w t width (rm k w width) [] 0) (hw e h) (by(erw[hW,iT];erw[iM]);exact hZ (j7 (kF _)) (hZ (j6 (hZ cP hl)) (by decide))) (.inl rfl)
  rw[j4]at h4
  obtain hj:=M9 ((chs t 0 (e++[t.length])).map (wd k w)) (by
   obtain this:=FX ((chs t 0 (e++[t.length])).map (wd k w)) 75 (λ c hc=>by
    refine A9 ((jV).mp hc) λ x hx aa=>rwS aa ?_
    obtain this:=hw e h x hx
    unfold ew at this
    exact(BT this).1.2)
   rw[iH,MJ,hW,iT]at this ⊢
   exact Ai (hZ (j0 (hZ this (iP 75 (j6 (hZ cP hl)))) (j6 (hZ cP hl))) (by decide)))
  refine Ap (fd:=⟨CO 64,[],Aj 64,bd 64⟩) (J:=MX k w t width) (r:=(.ret (.bytes (joinL [32] ((chs t 0 (e++[t.length])).map (wd k w)))),J',O)) ?_ ?_ (Ac (M8 k w (Ab (J':=[("text",.val (.str t)),("charset",.val (.str k.name)),("way",.val (.str [w.code])),("width",.val (.int width)),("room",.val (.int (rm k w width))),("found",.own [])]) ?_ (Ab (J':=Gr k w t width (rm k w width) [] 0) ?_
   ((BK ?_ (Bt (t:=(.lst (Ad (e++[t.length])),.val)) (u:=.lst (Ad (e++[t.length]))) ?_ (Ar (vs:=[.lst (Ad (B9 k w t)),.int (rm k w width)]) ?_ a1 rfl h2) rfl rfl) h3).trans (thn_nxt rfl (Az (Ax (t:=(.bytes (joinL [32] ((chs t 0 (e++[t.length])).map (wd k w))),.val)) ?_ (CG (t:=(.bytes [32],.val)) (ts:=[(.lst (bts ((chs t 0 (e++[t.length])).map (wd k w))),.bor)]) ?_ ?_ ?_ (Al ?_) hj) rfl)))))))) rfl
  ·nofun
  ·nofun
  ·nofun
  ·nofun
  ·nofun
  ·nofun
  ·nofun
  ·rcases h4 with rfl | ⟨i,rfl⟩ <;> nofun
  ·nofun
  ·nofun
  ·nofun
  ·rcases h4 with rfl | ⟨i,rfl⟩ <;> nofun
section
variable {α β:Type}
theorem Lc{body hb:List Stmt}{hs:List ExceptHandler}{p:Pos}(hh:hand? hs=some (("MimeFault" : hV),hb))(hc:(sc.names.lookup ("MimeFault" : hV)==some .globalImplicit)=true) :
  Be d sc J O (.Try body hs [] [] p)=(exs d sc J body O).bind λ r=>match r.1 with
   | .exc=>if Hy sc hb then Gf r.2.1 r.2.2 hb else none
   | _=>some r:=by
 show(hand? hs).bind (U9 (exs d) sc J O body)=_
 erw[hh]
 show(if (("MimeFault" : hV)=="MimeFault"&&sc.names.lookup ("MimeFault" : hV)==some .globalImplicit)=true then _ else none)=_
 erw[if_pos (by first | (refine rwE hc ?_;done) | (refine rwE hc ?_;rfl))]
 all_goals (rcases exs d sc J body O with _ | ⟨fl,_,_⟩ <;> first | rfl | (cases fl <;> rfl))
theorem Mp{body hb:List Stmt}{hs:List ExceptHandler}{p:Pos}(hh:hand? hs=some (("MimeFault" : hV),hb))(hc:(sc.names.lookup ("MimeFault" : hV)==some .globalImplicit)=true)(h:exs d sc J body O=some (.nxt,J',O)) :
  Be d sc J O (.Try body hs [] [] p)=some (.nxt,J',O):=by refine i7 (Lc hh hc) (rwE h ?_);rfl
theorem LT{body hb:List Stmt}{hs:List ExceptHandler}{p:Pos}{v:V}(hh:hand? hs=some (("MimeFault" : hV),hb))(hc:(sc.names.lookup ("MimeFault" : hV)==some .globalImplicit)=true)(h:exs d sc J body O=some (.ret v,J',O)) :
  Be d sc J O (.Try body hs [] [] p)=some (.ret v,J',O):=by refine i7 (Lc hh hc) (rwE h ?_);rfl
theorem HG{body hb:List Stmt}{hs:List ExceptHandler}{p:Pos}{r:Fl×R×A4}(hh:hand? hs=some (("MimeFault" : hV),hb))(hc:(sc.names.lookup ("MimeFault" : hV)==some .globalImplicit)=true)(h:exs d sc J body O=some (.exc,J',O))(ht:Hy sc hb=true)(hr:Gf J' O hb=some r) :
  Be d sc J O (.Try body hs [] [] p)=some r:=by refine i7 (Lc hh hc) (rwE h ?_);show(if Hy sc hb then Gf J' O hb else none)=_;exact BX ht hr
theorem Ow{x m:hV}{p ap q q':Pos}{as:List hJ}(hc:(okName x&&Ah (sc.names.lookup x)&&De J x&&C4 m&&(ap.endLine==q.line)&&decide (as.length < 30)&&noStar as)=true)
  (ha:Mo.mapM (ev d sc J) as O=some (.exc,O)):Be d sc J O (.Expr (.Call (.Attribute (.Name x p) m ap) as [] q) q')=some (.exc,J,O):=by
 refine BX hc ?_
 unfold liftE
 exact rwE ha rfl
theorem Ba{x y:hJ}{p:Pos}{a b:Bool}(hx:Bf d sc J x O=some (.ok a,O))(hy:a=true->Bf d sc J y O=some (.ok b,O)):Bf (d+1) sc J (.BoolOp .And [x,y] p) O=some (.ok (a&&b),O):=by
 refine As hx ?_
 clear hx
 cases a with
 | false=>rfl
 | true=>
  refine As (hy rfl) ?_
  cases b <;> rfl
theorem Jg{x y:hJ}{p:Pos}{a b:Bool}(hx:Bf d sc J x O=some (.ok a,O))(hy:a=false->Bf d sc J y O=some (.ok b,O)):Bf (d+1) sc J (.BoolOp .Or [x,y] p) O=some (.ok (a||b),O):=by
 refine As hx ?_
 clear hx
 cases a with
 | true=>rfl
 | false=>
  refine As (hy rfl) ?_
  cases b <;> rfl
end
noncomputable def TE(e:Stmt):List ExceptHandler:=if h:e.ctorIdx=17 then PySem.Stmt.Try.elim (motive_2:=λ _=>List ExceptHandler) e h (λ _ hs _ _ _=>hs) else []
noncomputable def Xm:List ExceptHandler->List Stmt
 | []=>[]
 | h::_=>match h with
  | .ExceptHandler _ _ b _=>b
def Rd(s:Stmt):List Stmt:=Xm (TE s)
noncomputable def mw(width:Int):Int:=if 75 < width then 75 else width
abbrev UP(k:Cs)(t:List Nat)(width:Int)(acc:List V):R:=[("text",.val (.str t)),("charset",.val (.str k.name)),("width",.val (.int width)),("found",.own acc)]
abbrev Cq(k:Cs)(t:List Nat)(width:Int)(acc:List V)(w:Wy):R:=[("text",.val (.str t)),("charset",.val (.str k.name)),("width",.val (.int width)),("found",.own acc),("way",.val (.str [w.code]))]
def W2:List Stmt:=Cl (Aa (bd 66) 1)
noncomputable def Ia(o:Option (List Nat)):List V:=match o with
 | some b=>[.bytes b]
 | none=>[]
theorem QN(k:Cs)(w:Wy){t:List Nat}{width:Int}{o:Option (List Nat)}{acc:List V}(hz:acc.length<=1000)
  (h:∀ d,cl (d+52) "words_of" [.str t,.str k.name,.str [w.code],.int (mw width)] O=Ib o O) :
  ∃ fl,(fl=Fl.nxt\/fl=Fl.cont)/\exs (d+55) (Aj 66) (Cq k t width acc w) W2 O=some (fl,Cq k t width (acc++Ia o) w,O):=by
 obtain h:=h d
 have hh:hand? (TE (Aa W2 0))=some (("MimeFault" : hV),Rd (Aa W2 0)):=rfl
 cases o with
 | some b=>
  refine(iEA .nxt (.inl rfl) (Ac (AD (Mp hh ?_ (Ac (AD (AX (ts:=[(.bytes b,.val)]) ?_ (Al (Ar (ts:=[(.str t,.val),(.str k.name,.val),(.str [w.code],.val),(.int (mw width),.val)]) (vs:=[.str t,.str k.name,.str [w.code],.int (mw width)]) ?_ ?_ rfl h)) (AB (vs:=acc) ?_ rfl (Ao (iL hz)) ?_)))))))) <;> nofun
 | none=>
  refine iEA .cont (.inr rfl) (Ac (AD (HG hh ?_ (Ac (AD (Ow ?_ (Ml (EO (ts:=[(.str t,.val),(.str k.name,.val),(.str [w.code],.val),(.int (mw width),.val)]) (vs:=[.str t,.str k.name,.str [w.code],.int (mw width)]) ?_ ?_ rfl h))))) ?_ ?_)))
  ·nofun
  ·nofun
  ·nofun
  ·nofun
  ·nofun
  ·show _=some (Fl.cont,Cq k t width (acc++[]) w,O)
   erw[iO];nofun
noncomputable def sh(o1 o2:Option (List Nat)):Option (List Nat):=match o1 with
 | none=>o2
 | some a=>match o2 with
  | none=>some a
  | some b=>some (if b.length < a.length then b else a)
theorem p_sh(k:Cs){t:List Nat}{width:Int}{o1 o2:Option (List Nat)}(h1:∀ d,cl (d+52) "words_of" [.str t,.str k.name,.str [81],.int (mw width)] O=Ib o1 O)(h2:∀ d,cl (d+52) "words_of" [.str t,.str k.name,.str [66],.int (mw width)] O=Ib o2 O) :
  cl (d+57) "shorter_words" [.str t,.str k.name,.int width] O=Ib (sh o1 o2) O:=by
 refine A9 (QN (d:=d) k .q (acc:=[]) (kA _) h1) λ f1 g1 l1=>?_
 clear h1
 obtain⟨f2,g2,l2⟩:=QN (d:=d) k .b (acc:=[]++Ia o1) (by cases o1 <;> exact lH rfl) h2
 have e2:∀ res,Bh (exs (d+55)) (Aj 66) (Ck (Aa (bd 66) 1)) W2 [] (Cq k t width ([]++Ia o1++Ia o2) .b) O=res->Bh (exs (d+55)) (Aj 66) (Ck (Aa (bd 66) 1)) W2 [.str [66]] (Cq k t width ([]++Ia o1) .q) O=res:=λ res q=>by
  rcases g2 with rfl | rfl
  ·exact AV (xs:=[("way",.str [66])]) rfl l2 q
  ·exact Kr (xs:=[("way",.str [66])]) rfl l2 q
 obtain e1:Bh (exs (d+55)) (Aj 66) (Ck (Aa (bd 66) 1)) W2 [.str [81],.str [66]] (UP k t width []) O=some (.nxt,Cq k t width ([]++Ia o1++Ia o2) .b,O):=by
  rcases g1 with rfl | rfl
  ·exact AV (xs:=[("way",.str [81])]) rfl l1 (e2 _ for_nil)
  ·exact Kr (xs:=[("way",.str [81])]) rfl l1 (e2 _ for_nil)
 have pre:∀ {res},sq (d+55) (Aj 66) [Aa (bd 66) 2,Aa (bd 66) 3] (Cq k t width ([]++Ia o1++Ia o2) .b) O=res->exs (d+56) (Aj 66) [("text",.val (.str t)),("charset",.val (.str k.name)),("width",.val (.int width))] (bd 66) O=res:=fun {res} q=>by
  refine Ac (Ab (J':=UP k t width []) ?_ ((BK ?_ (Bt (t:=(.tup [.str [81],.str [66]],.val)) (u:=.tup [.str [81],.str [66]]) ?_ ?_ rfl rfl) e1).trans (thn_nxt rfl q))) <;> nofun
 have fin:∀ {fl J'} {o:Out V×A4},outF (some (fl,J',O))=some o->sq (d+55) (Aj 66) [Aa (bd 66) 2,Aa (bd 66) 3] (Cq k t width ([]++Ia o1++Ia o2) .b) O=some (fl,J',O)->cl (d+57) "shorter_words" [.str t,.str k.name,.int width] O=some o:=fun {fl J' o} q1 q=>by
  refine Ap (fd:=⟨CO 66,[],Aj 66,bd 66⟩) (J:=[("text",.val (.str t)),("charset",.val (.str k.name)),("width",.val (.int width))]) (r:=(fl,J',O)) ?_ ?_ (pre q) q1 <;> nofun
 clear e1 e2 l1 l2 g1 g2 f1 f2
 cases o1 with
 | none=>cases o2 with
  | none=>exact fin (fl:=.exc) (J':=Cq k t width [] .b) rfl rfl
  | some b=>exact fin (fl:=.ret (.bytes b)) (J':=Cq k t width [.bytes b] .b) rfl rfl
 | some a=>cases o2 with
  | none=>exact fin (fl:=.ret (.bytes a)) (J':=Cq k t width [.bytes a] .b) rfl rfl
  | some b=>
   refine fin (fl:=.ret (.bytes (if b.length < a.length then b else a))) (J':=Cq k t width [.bytes a,.bytes b] .b) rfl (An (c:=false) rfl (λ q=>(fls q)) λ _=>thn_nxt (J':=Cq k t width [.bytes a,.bytes b] .b) rfl (Az (Ax (t:=(.bytes (if b.length < a.length then b else a),.val)) ?_ (AT (c:=true&&decide ((b.length:Int) < (a.length:Int))) (Ba (a:=true) (b:=decide ((b.length:Int) < (a.length:Int))) ?_ λ _=>?_) (λ q=>?_) (λ q=>?_)) rfl)))
   ·nofun
   ·nofun
   ·nofun
   ·have q:b.length < a.length:=by have:=of_decide_eq_true q;exact (jU).mp this
    erw[if_pos q];nofun
   ·have q:¬ b.length < a.length:=by have:=of_decide_eq_false q;exact λ z=>this ((jU).mpr z)
    erw[if_neg q];nofun
section
variable {α β:Type}
theorem ev_cmp1{l r:hJ}{o1:CmpOp}{p:Pos}{a b:TV}{x:Bool}(hs:BC [r]=true)(h1:ev d sc J l O=some (.ok a,O))(h2:ev d sc J r O=some (.ok b,O))(h4:CK o1 a.1 b.1=some x):ev (d+1) sc J (.Compare l [o1] [r] p) O=some (.ok (.bool x,.val),O):=by
 show(if BC [r]=true then Mo.bind (ev d sc J l) λ a=>.bind (B3 (ev d) sc J a.1 [o1] [r]) λ b=>.ret (V.bool b,HQ.val) else Mo.fail) O=_
 exact rwE (if_pos hs) (As h1 (As (m:=B3 (ev d) sc J a.1 [o1] [r]) (As (m:=ev d sc J r) h2 (by erw[h4];rfl)) rfl))
theorem ev_or2{x y:hJ}{p:Pos}{a b:Bool}(hx:ev d sc J x O=some (.ok (.bool a,.val),O))(hy:a=false->ev d sc J y O=some (.ok (.bool b,.val),O)):ev (d+1) sc J (.BoolOp .Or [x,y] p) O=some (.ok (.bool (a||b),.val),O):=by
 refine As hx ?_
 clear hx
 cases a with
 | true=>rfl
 | false=>exact hy rfl
theorem SI{x y:hJ}{p:Pos}{a b:Bool}(hx:ev d sc J x O=some (.ok (.bool a,.val),O))(hy:a=true->ev d sc J y O=some (.ok (.bool b,.val),O)):ev (d+1) sc J (.BoolOp .And [x,y] p) O=some (.ok (.bool (a&&b),.val),O):=by
 refine As hx ?_
 clear hx
 cases a with
 | false=>rfl
 | true=>exact hy rfl
variable {Tf:Scope->R->hJ->Mo Bool} {t:hJ} {n:Nat}
theorem Dg(h:Tf sc J t O=some (.ok false,O)):BV Tf Xf sc t body (n+1) J O=some (.nxt,J,O):=by
 show(Tf sc J t O).bind _=_
 erw[h];rfl
theorem Hq(h:Tf sc J t O=some (.ok true,O))(hb:Xf sc J body O=some (.nxt,J',O))(k:BV Tf Xf sc t body n J' O=res):BV Tf Xf sc t body (n+1) J O=res:=by
 show(Tf sc J t O).bind _=_
 erw[h]
 show(Xf sc J body O).bind _=_
 exact rwE hb k
theorem Da{p:Pos}(h:BV (Bf d) (exs d) sc t body G.N J O=res):Be d sc J O (.While t body [] p)=res:=h
end
noncomputable def nw(t:List Nat)(i:Nat):Bool:=!(decide (32<=t.getD i 0)&&decide (t.getD i 0<=126)) ||
 (if t.getD i 0=32 then decide (i=0)||decide (i+1=t.length) else decide ((t.take (i+2)).drop i=[61,63])||decide ((t.take (i+1)).drop (i - 1)=[61,63]))
theorem DG(t:List Nat)(a b:Nat):Bo (.str t) (some (a:Int)) (some (b:Int))=some (.str ((t.take b).drop a)):=by
 show some (V.str (Au t _ _))=_
 exact rwE (DH ..) rfl
noncomputable abbrev GQ(t:List Nat)(i:Nat):R:=[("text",.val (.str t)),("at",.val (.int (i:Nat)))]
theorem MV{t:List Nat}{i:Nat}(h:i < t.length):Bg (.str t) (i:Int)=some (.str [t.getD i 0]):=by
 show(if (0:Int)<=(i:Int) then(t[(i:Int).toNat]?).map fun(c:Nat)=>V.str [c] else none)=_
 (refine BX (iV _) (rwE (iZ ..) ?_);rw[vC];erw[jM h]);rfl
theorem max0(i:Nat):(if (0:Int) > (i:Int) - 1 then 0 else(i:Int) - 1)=((i - 1:Nat):Int):=by
 by_cases h:(0:Int) > (i:Int) - 1
 ·exact BX h ((congrArg uP (qP ((kC).mp (rX (Int.lt_of_sub_neg h))))).symm)
 ·exact Gx h ((tR ((kC).mp (Int.le_of_sub_nonneg ((lY).mp h)))).symm)
theorem p_nw{t:List Nat}{i:Nat}(h:i < t.length):cl (d+20) "needs_word" [.str t,.int (i:Nat)] O=some (.ok (.bool (nw t i)),O):=by
 obtain hi:=MV h
 obtain fin:∀ {v} ,sq (d+18) (Aj 60) (bd 60) (GQ t i) O=some (.ret v,GQ t i,O)->cl (d+20) "needs_word" [.str t,.int (i:Nat)] O=some (.ok v,O):=fun {v} q=>by
  refine Ap (fd:=⟨CO 60,[],Aj 60,bd 60⟩) (J:=GQ t i) (r:=(.ret v,GQ t i,O)) ?_ ?_ (Ac q) rfl <;> nofun
 refine fin (An (c:=!(decide (32<=t.getD i 0)&&decide (t.getD i 0<=126))) (Dq (He (a:=(.int 32,.val)) (b:=(.int (t.getD i 0:Nat),.val)) (c:=(.int 126,.val)) ?_ ?_ (Bb (ts:=[(.str [t.getD i 0],.val)]) ?_ (Al (Ay (t:=(.str t,.val)) (k:=(.int (i:Nat),.val)) ?_ ?_ ?_ rfl rfl hi)) ?_) ?_ ?_ ?_)) (λ q=>?_) λ q=>?_)
 ·nofun
 ·nofun
 ·nofun
 ·nofun
 ·nofun
 ·nofun
 ·nofun
 ·nofun
 ·show some (decide ((32:Int)<=(t.getD i 0:Nat)))=_
  exact rwE (show decide ((32:Int)<=(t.getD i 0:Nat))=decide (32<=t.getD i 0) from decide_eq_decide.mpr (kC)) rfl
 ·show some (decide (((t.getD i 0:Nat):Int)<=126))=_
  exact rwE (show decide (((t.getD i 0:Nat):Int)<=126)=decide (t.getD i 0<=126) from decide_eq_decide.mpr (kC)) rfl
 ·erw[(show nw t i=true by unfold nw;refine rwE q ?_;rfl)]
  refine BQ (r:=(.ret (.bool true),GQ t i,O)) ?_ rfl
  nofun
 ·refine thn_nxt (J':=GQ t i) rfl (An (c:=decide ([t.getD i 0]=[32])) (AN (a:=(.str [t.getD i 0],.val)) (b:=(.str [32],.val)) ?_ (Ay (t:=(.str t,.val)) (k:=(.int (i:Nat),.val)) ?_ ?_ ?_ rfl rfl hi) ?_ ?_) (λ q2=>?_) λ q2=>?_)
  ·nofun
  ·nofun
  ·nofun
  ·nofun
  ·nofun
  ·nofun
  ·obtain q2:=qB (of_decide_eq_true q2)
   erw[(show nw t i=(decide (i=0)||decide (i+1=t.length)) by unfold nw;refine rwE q (rwE q2 ?_);rfl)]
   refine BQ (r:=(.ret (.bool (decide (i=0)||decide (i+1=t.length))),GQ t i,O)) (Ac (Az (Ax (t:=(.bool (decide (i=0)||decide (i+1=t.length)),.val)) ?_ (ev_or2 (a:=decide (i=0)) (b:=decide (i+1=t.length)) (ev_cmp1 (a:=(.int (i:Nat),.val)) (b:=(.int 0,.val)) ?_ ?_ ?_ ?_) λ _=>ev_cmp1 (a:=(.int (i:Nat),.val)) (b:=(.int ((t.length:Int) - 1),.val)) ?_ ?_ ?_ ?_) rfl))) rfl
   ·nofun
   ·nofun
   ·nofun
   ·nofun
   ·show some (decide ((i:Int)=0))=_
    exact rwE (show decide ((i:Int)=0)=decide (i=0) from decide_eq_decide.mpr (Int.natCast_eq_zero)) rfl
   ·nofun
   ·nofun
   ·nofun
   ·show some (decide ((i:Int)=(t.length:Int) - 1))=_
    exact rwE (show decide ((i:Int)=(t.length:Int) - 1)=decide (i+1=t.length) from decide_eq_decide.mpr (by lia)) rfl
  ·obtain q3:¬ t.getD i 0=32:=λ z=>by replace q2:=z▸q2;exact absurd q2 (by decide)
   erw[(show nw t i=(decide ((t.take (i+2)).drop i=[61,63])||decide ((t.take (i+1)).drop (i - 1)=[61,63])) by unfold nw;(refine rwE q (rwE (if_neg q3) ?_);exact(Bool.false_or ..)))]
   obtain hm:=max0 i
   refine thn_nxt (J':=GQ t i) rfl (Az (Ax (t:=(.bool (decide ((t.take (i+2)).drop i=[61,63])||decide ((t.take (i+1)).drop (i - 1)=[61,63])),.val)) ?_ (ev_or2 (a:=decide ((t.take (i+2)).drop i=[61,63])) (b:=decide ((t.take (i+1)).drop (i - 1)=[61,63]))
    (ev_cmp1 (a:=(.str ((t.take (i+2)).drop i),.val)) (b:=(.str [61,63],.val)) ?_ (AZ (t:=(.str t,.val)) (a:=(.int (i:Nat),.val)) (b:=(.int ((i+2:Nat):Int),.val)) ?_ ?_ ?_ rfl rfl (DG t i (i+2))) ?_ ?_)
    λ _=>ev_cmp1 (a:=(.str ((t.take (i+1)).drop (i - 1)),.val)) (b:=(.str [61,63],.val)) ?_ (AZ (t:=(.str t,.val)) (a:=(.int ((i - 1:Nat):Int),.val)) (b:=(.int ((i+1:Nat):Int),.val)) ?_ ?_ ?_ rfl rfl (DG t (i - 1) (i+1))) ?_ ?_) rfl))
   ·nofun
   ·nofun
   ·nofun
   ·nofun
   ·nofun
   ·nofun
   ·nofun
   ·nofun
   ·nofun
   ·refine rwS hm ?_;nofun
   all_goals nofun
def A6(t:List Nat):List Nat:=(jE t.length).filter (nw t)
noncomputable def last1(x:Nat):List Nat->Nat
 | []=>x
 | y::r=>last1 y r
theorem Pd{x y:Nat}{r:List Nat}:last1 x (y::r)=last1 y r:=rfl
noncomputable def lo(t:List Nat):Nat->Nat
 | 0=>0
 | b+1=>if t.getD b 0=32 then b+1 else lo t b
theorem Qn{t:List Nat}{b:Nat}:lo t (b+1)=if t.getD b 0=32 then b+1 else lo t b:=rfl
noncomputable def hi(t:List Nat)(e:Nat):Nat:=e+((t.drop e).takeWhile λ c=>!decide (c=32)).length
noncomputable abbrev MW(t:List Nat):R:=[("text",.val (.str t))]
abbrev HH(t:List Nat)(vs:List Nat):R:=[("text",.val (.str t)),("needy",.val (.lst (Ad vs)))]
abbrev Cy(t:List Nat)(vs:List Nat)(b e:Nat):R:=[("text",.val (.str t)),("needy",.val (.lst (Ad vs))),("begin",.val (.int (b:Nat))),("end",.val (.int (e:Nat)))]
def UO:hJ:=D5 (Aa (bd 61) 0)
noncomputable def Ol(e:hJ):List hJ:=if h:e.ctorIdx=8 then lZ (motive_1:=λ _=>List hJ) e h (λ _ gs _ _=>gs.head?.elim [] (·.ifs)) else []
noncomputable def K7(e:Stmt):hJ:=if h:e.ctorIdx=11 then uL (motive_2:=λ _=>hJ) e h (λ t _ _ _=>t) else .Constant .none 0 ⟨0,0,0,0⟩
noncomputable def Wl(e:Stmt):List Stmt:=if h:e.ctorIdx=11 then uL (motive_2:=λ _=>List Stmt) e h (λ _ b _ _=>b) else []
theorem Sf(t:List Nat):BR (ev (d+24)) (Bf (d+24)) (Gl UO) (MW t) (D3 UO) (Ol UO) (G1 UO) ((jE t.length).map fun(n:Nat)=>V.int (n:Int)) O=some (.ok (Ad (A6 t)),O):=by
 refine DR (xs:=fun(n:Nat)=>[(("at" : hV),V.int (n:Int))]) (f:=fun(n:Nat)=>V.int (n:Int)) (p:=nw t) (toV:=fun(n:Nat)=>V.int (n:Int)) (jE t.length) λ n hn=>iAA rfl ?_ (λ _=>⟨(.int (n:Int),.val),by nofun,rfl⟩)
 refine Ey (d:=d+23) (ow:=.val) (Ar (ts:=[(.str t,.val),(.int (n:Nat),.val)]) (vs:=[.str t,.int (n:Nat)]) ?_ (AO ?_ ?_) rfl (p_nw (d:=d+2) (O:=O) ((mJ).mp hn))) <;> nofun
theorem Ue{t vs:List Nat}{e:Nat}:∀ (b n:Nat),b < n->b<=t.length->BV (Bf (d+20)) (exs (d+20)) (Aj 61) (K7 (Aa (bd 61) 4)) (Wl (Aa (bd 61) 4)) n (Cy t vs b e) O=some (.nxt,Cy t vs (lo t b) e,O):=λ b=>by
 induction b with
 | zero=>
  intro n hn _
  obtain⟨n,rfl⟩:∃ m,n=m+1:=⟨n - 1,by exact sp hn⟩
  exact Dg rfl
 | succ b ih=>
  intro n hn hl
  obtain⟨n,rfl⟩:∃ m,n=m+1:=⟨n - 1,by exact sp (jB hn)⟩
  obtain hi:=MV (t:=t) (i:=b) (by assumption)
  obtain e1:(((b+1:Nat):Int) - 1)=(b:Int):=by lia
  rw[<-e1]at hi
  obtain ht:Bf (d+20) (Aj 61) (Cy t vs (b+1) e) (K7 (Aa (bd 61) 4)) O=some (.ok (decide (((b+1:Nat):Int) > 0)&&!(decide ([t.getD b 0]=[32]))),O):=by
   refine Ba (a:=decide (((b+1:Nat):Int) > 0)) (b:=!(decide ([t.getD b 0]=[32]))) ?_ λ _=>AN (a:=(.str [t.getD b 0],.val)) (b:=(.str [32],.val)) ?_ (Ay (t:=(.str t,.val)) (k:=(.int (((b+1:Nat):Int) - 1),.val)) ?_ ?_ ?_ rfl rfl hi) ?_ ?_
   all_goals nofun
  rw[show decide (((b+1:Nat):Int) > 0)=true from decide_eq_true ((jU).mpr (kZ b)),tF]at ht
  by_cases h:t.getD b 0=32
  ·rw[h]at ht
   exact rwE (show lo t (b+1)=b+1 by(rw[lo];exact BX h rfl)) (Dg ht)
  ·rw[show decide ([t.getD b 0]=[32])=false from decide_eq_false λ z=>h (qB z)]at ht
   refine rwE (show lo t (b+1)=lo t b by(rw[lo];exact Gx h rfl)) (Hq (J':=Cy t vs b e) ht ?_ (ih n (kL hn) (jB (by assumption))))
   refine Ac (AD (Af (t:=(.int (b:Nat),.val)) (s:=.val (.int (b:Nat))) ?_ ?_ rfl ?_))
   ·nofun
   ·refine rwS e1 ?_;nofun
   ·nofun
theorem Ui{t vs:List Nat}{b:Nat}(post:List Nat):∀ (pre:List Nat) (n:Nat),post.length < n->t=pre++post->BV (Bf (d+20)) (exs (d+20)) (Aj 61) (K7 (Aa (bd 61) 5)) (Wl (Aa (bd 61) 5)) n (Cy t vs b pre.length) O=some (.nxt,Cy t vs b (pre.length+(post.takeWhile λ c=>!decide (c=32)).length),O):=by
 induction post with
 | nil=>
  intro pre n hn e
  rw[iO]at e
  obtain⟨n,rfl⟩:∃ m,n=m+1:=⟨n - 1,by exact sp hn⟩
  refine Dg ?_
  obtain ht:Bf (d+20) (Aj 61) (Cy t vs b pre.length) (K7 (Aa (bd 61) 5)) O=some (.ok (decide ((pre.length:Int) < (t.length:Int))&&false),O):=by
   refine Ba ?_ λ q=>?_
   ·nofun
   ·obtain this:=of_decide_eq_true q;rw[e]at this;exact absurd this (Int.lt_irrefl _)
  rw[uW]at ht;exact ht
 | cons c post ih=>
  intro pre n hn e
  rw[i6]at hn
  obtain⟨n,rfl⟩:∃ m,n=m+1:=⟨n - 1,by exact sp (jB hn)⟩
  obtain aH:decide ((pre.length:Int) < (t.length:Int))=true:=decide_eq_true (by(erw[e,hW];erw[i6]);exact (jU).mpr (kR (kZ _)))
  have ht:Bf (d+20) (Aj 61) (Cy t vs b pre.length) (K7 (Aa (bd 61) 5)) O=some (.ok (decide ((pre.length:Int) < (t.length:Int))&&!(decide ([c]=[32]))),O):=by
   refine Ba (b:=!(decide ([c]=[32]))) ?_ λ _=>AN (a:=(.str [c],.val)) (b:=(.str [32],.val)) ?_ (Ay (t:=(.str t,.val)) (k:=(.int (pre.length:Nat),.val)) ?_ ?_ ?_ rfl rfl (J4 e)) ?_ ?_
   all_goals nofun
  rw[aH,tF]at ht
  by_cases h:c=32
  ·rw[h]at ht
   erw[oN (by refine rwE h ?_;decide)]
   exact Dg ht
  ·rw[show decide ([c]=[32])=false from decide_eq_false λ z=>h (qB z)]at ht
   obtain k:=ih (pre++[c]) n (kL hn) (by refine i7 e (rwE (iF ..) ?_);rfl)
   erw[oO (by refine rwE (decide_eq_false h) ?_;rfl),i6]
   rw[hW,iT,show pre.length+1+(post.takeWhile λ c=>!decide (c=32)).length=pre.length+((post.takeWhile λ c=>!decide (c=32)).length+1) by lia]at k
   refine Hq (J':=Cy t vs b (pre.length+1)) ht ?_ k
   refine Ac (AD (Af (t:=(.int ((pre.length+1:Nat):Int),.val)) (s:=.val (.int ((pre.length+1:Nat):Int))) ?_ ?_ rfl ?_)) <;> nofun
theorem Ph(f:Nat)(r:List Nat):(f::r)[r.length]?=some (last1 f r):=by
 induction r generalizing f with
 | nil=>rfl
 | cons y r ih=>(refine rwE i6 (i7 nK ?_);exact i7 (ih ..) (rwE Pd rfl))
theorem I0(f:Nat)(r:List Nat):Bg (.lst (Ad (f::r))) (-1)=some (.int (last1 f r:Nat)):=by
 obtain hl:=AH _
 show(if (0:Int)<=-1 then _ else if (0:Int)<=-1+((Ad (f::r)).length:Int) then some (-1+((Ad (f::r)).length:Int)).toNat else none).bind (λ k=>(Ad (f::r))[k]?)=_
 (erw[if_neg (by decide),hl];erw[if_pos (by grind),show(-1+((r.length+1:Nat):Int)).toNat=r.length by grind])
 unfold Ad
 refine i7 kX (rwE (Ph ..) ?_);rfl
def AG(t:List Nat):Nat×Nat:=match A6 t with
 | []=>(0,0)
 | f::r=>(lo t f,hi t (last1 f r+1))
theorem EH{t:List Nat}{x:Nat}(h:x∈A6 t):x < t.length:=(mJ).mp ((qC).mp h).1
theorem ES(f:Nat)(r:List Nat):last1 f r∈f::r:=by
 induction r generalizing f with
 | nil=>exact i8
 | cons y r ih=>exact i9 _ (ih y)
theorem Vv{t:List Nat}(hl:t.length<=200):cl (d+28) "encoded_span" [.str t] O=some (.ok (.tup [.int ((AG t).1:Nat),.int ((AG t).2:Nat)]),O):=by
 obtain hr:=C3 _ (iL hl)
 have h0:Be (d+26) (Aj 61) (MW t) O (Aa (bd 61) 0)=some (.nxt,HH t (A6 t),O):=by
  refine Af (t:=(.lst (Ad (A6 t)),.fresh)) (s:=.val (.lst (Ad (A6 t)))) ?_ (Co (d:=d+25) (tgt:=D3 UO) (it:=Cc UO) (ifs:=Ol UO) ?_ ?_ (Bx (as:=AQ (Cc UO)) (ts:=[(.int t.length,.val)]) ?_ ?_ ?_ (by(refine i7 hr ?_;rw[IW];exact rwE oX rfl):BW [.int t.length]=some ((jE t.length).map fun(n:Nat)=>V.int (n:Int)))) (Sf (d:=d+1) t)) ?_ ?_ <;> nofun
 obtain h1:Bf (d+26) (Aj 61) (HH t (A6 t)) (Bz (Aa (bd 61) 1)) O=some (.ok (Ad (A6 t)).isEmpty,O):=rfl
 have fin:∀ {v J'} ,sq (d+26) (Aj 61) (bd 61) (MW t) O=some (.ret v,J',O)->cl (d+28) "encoded_span" [.str t] O=some (.ok v,O):=fun {v J'} q=>by
  refine Ap (fd:=⟨CO 61,[],Aj 61,bd 61⟩) (J:=MW t) (r:=(.ret v,J',O)) ?_ ?_ (Ac q) rfl <;> nofun
 unfold AG
 cases hn:A6 t with
 | nil=>
  (replace h0:=hn▸h0;replace h1:=hn▸h1)
  exact fin (J':=HH t []) (Ab h0 (An (c:=true) h1 (λ _=>BQ (r:=(.ret (.tup [.int 0,.int 0]),HH t [],O)) rfl rfl) λ q=>(nc j9 q (.refl false))))
 | cons f r=>
  (replace h0:=hn▸h0;replace h1:=hn▸h1)
  obtain hf:=EH (hn▸i8)
  have hb:=EH (hn▸ES f r)
  have l2:=Ui (d:=d+6) (O:=O) (t:=t) (vs:=f::r) (b:=lo t f) (t.drop (last1 f r+1)) (t.take (last1 f r+1)) 1000 (by erw[jA];exact iQ (sL hl) (by decide)) (qU _ _).symm
  rw[iY,kO (by assumption)]at l2
  refine fin (J':=Cy t (f::r) (lo t f) (hi t (last1 f r+1))) (Ab h0 (An (c:=false) h1 (λ q=>(fls q)) λ _=>thn_nxt (J':=HH t (f::r)) rfl (Ab (J':=[("text",.val (.str t)),("needy",.val (.lst (Ad (f::r)))),("begin",.val (.int (f:Nat)))]) ?_ (Ab (J':=Cy t (f::r) f (last1 f r+1)) ?_ (Ab (J':=Cy t (f::r) (lo t f) (last1 f r+1)) (Da (Ue (d:=d+6) (O:=O) (t:=t) (vs:=f::r) (e:=last1 f r+1) f 1000 (jK hf (hZ hl (by decide))) ((jB hf)))) (Ab (J':=Cy t (f::r) (lo t f) (hi t (last1 f r+1))) (Da l2) (Az (Ax (t:=(.tup [.int (lo t f:Nat),.int (hi t (last1 f r+1):Nat)],.val)) ?_ ?_ rfl))))))))
  ·refine Af (t:=(.int (f:Nat),.val)) (s:=.val (.int (f:Nat))) ?_ (Ay (t:=(.lst (Ad (f::r)),.val)) (k:=(.int 0,.val)) ?_ ?_ ?_ rfl rfl (C5 (vs:=Ad (f::r)) (pre:=[]) (v:=.int (f:Nat)) (post:=Ad r) rfl)) rfl ?_ <;> nofun
  ·refine Af (t:=(.int ((last1 f r+1:Nat):Int),.val)) (s:=.val (.int ((last1 f r+1:Nat):Int))) ?_ (Aq (a:=(.int (last1 f r:Nat),.val)) (b:=(.int 1,.val)) (Ay (t:=(.lst (Ad (f::r)),.val)) (k:=(.int (-1),.val)) ?_ ?_ ?_ rfl rfl (I0 f r)) ?_ ?_) rfl ?_ <;> nofun
  all_goals nofun
section
variable {α β:Type}
theorem EV{ts:List hJ}{k:Nat}{p q:Pos}{e:hJ}{xs:List hV}{vs:List V}(hn:B0 ts=some xs)(he:tuple? e=none)(hc:xs.Nodup/\(xs.all λ x=>sc.names.lookup x==some .local))(h:ev d sc J e O=some (.ok (.tup vs,.val),O))(hl:vs.length=xs.length)(hr:Aw J (xs.zip (vs.map .val))=J') :
  Be d sc J O (.Assign [.Tuple ts k p] e q)=some (.nxt,J',O):=by
 show((B0 ts).map W4.names).bind (Ea (ev d) G.gl sc J O e)=_
 erw[hn]
 unfold Ea
 erw[he]
 refine BX hc ?_
 unfold liftE
 erw[h]
 exact BX ⟨rfl,hl⟩ (rwE hr rfl)
theorem OQ{l r:hJ}{op:Operator}{p:Pos}(h1:ev d sc J l O=some (.exc,O)):ev (d+1) sc J (.BinOp l op r p) O=some (.exc,O):=Ef h1
theorem OO{l r:hJ}{op:Operator}{p:Pos}{a:TV}(h1:ev d sc J l O=some (.ok a,O))(h2:ev d sc J r O=some (.exc,O)):ev (d+1) sc J (.BinOp l op r p) O=some (.exc,O):=As h1 (Ef h2)
theorem Jn{e:hJ}{b:Bool}(h:Bf d sc J e O=some (.ok b,O)):OT (Bf d) sc J [e] O=some (.ok b,O):=h
theorem QF{e:hJ}{p:Pos}(hn:D6 sc J e=none)(h:ev d sc J e O=some (.exc,O)):Be d sc J O (.Return (some e) p)=some (.exc,J,O):=by
 show(match D6 sc J e with | some v=>some (Fl.ret v,J,O) | none=>liftE (ev d sc J e) J O λ t O=>(valOf t).bind λ v=>some (Fl.ret v,J,O))=_
 erw[hn]
 unfold liftE
 exact rwE h rfl
end
def bc(t:List Nat):Cs:=if t.all Cs.a.has then .a else if t.all Cs.l.has then .l else .u
theorem has_u{t:List Nat}(hs:∀ c∈t,c∈SG):t.all Cs.u.has=true:=(jJ).mpr λ c hc=>(by decide:∀ c∈SG,Cs.u.has c=true) c (hs c hc)
theorem GJ{t:List Nat}(hs:∀ c∈t,c∈SG):t.all (bc t).has=true:=by
 unfold bc
 by_cases h:t.all Cs.a.has=true
 ·exact rwE (if_pos h) h
 ·erw[if_neg h]
  by_cases h:t.all Cs.l.has=true
  ·exact rwE (if_pos h) h
  ·exact rwE (if_neg h) (has_u hs)
noncomputable abbrev Us(t:List Nat):R:=[("text",.val (.str t))]
abbrev Ed(t:List Nat)(k:Cs):R:=[("text",.val (.str t)),("charset",.val (.str k.name))]
def bcB:List Stmt:=Cl (Aa (bd 38) 0)
noncomputable def YC(e:hJ):hJ:=if h:e.ctorIdx=15 then tS (motive_1:=λ _=>hJ) e h (λ l _ _ _=>l) else e
def Vc:hJ:=YC (Bz (Aa bcB 0))
theorem TU(k:Cs){t:List Nat}(hs:∀ c∈t,c∈SG):BR (ev (d+24)) (Bf (d+24)) (Gl Vc) (Ed t k) (D3 Vc) (Ol Vc) (G1 Vc) (t.map fun(n:Nat)=>V.str [n]) O=some (.ok ((t.filter λ c=>!(k.has c)).map fun(n:Nat)=>V.str [n]),O):=by
 refine DR (xs:=fun(n:Nat)=>[(("sign" : hV),V.str [n])]) (f:=fun(n:Nat)=>V.str [n]) (p:=λ c=>!(k.has c)) (toV:=fun(n:Nat)=>V.str [n]) t λ n hn=>iAA rfl ?_ (λ _=>⟨(.str [n],.val),by nofun,rfl⟩)
 refine Jn (Dq (Ey (ow:=.val) (Ar (ts:=[(.str k.name,.val),(.int (n:Nat),.val)]) (vs:=[.str k.name,.int (n:Nat)]) ?_ (AO ?_ (Bb (ts:=[(.str [n],.val)]) ?_ (Al ?_) ?_)) rfl (H9 (d:=d+1) (O:=O) k n (hs n hn))))) <;> nofun
theorem GY(k:Cs)(t:List Nat):((t.filter λ c=>!(k.has c)).map fun(n:Nat)=>V.str [n]).isEmpty=t.all k.has:=by
 induction t with
 | nil=>rfl
 | cons c t ih=>
  erw[lD]
  cases h:k.has c with
  | true=>refine rwE (mF (by erw[h];decide)) (i7 ih ?_);rfl
  | false=>erw[kS (by refine rwE h ?_;decide)];rfl
theorem LV(k:Cs){t:List Nat}(hs:∀ c∈t,c∈SG):exs (d+28) (Aj 38) (Ed t k) bcB O=if t.all k.has then some (.ret (.str k.name),Ed t k,O) else some (.nxt,Ed t k,O):=by
 obtain h0:Bf (d+27) (Aj 38) (Ed t k) (Bz (Aa bcB 0)) O=some (.ok (t.all k.has),O):=by
  refine rwS (GY ..) ?_
  refine AN (a:=(.lst ((t.filter λ c=>!(k.has c)).map fun(n:Nat)=>V.str [n]),.fresh)) (b:=(.lst [],.fresh)) ?_ (Co (d:=d+25) (tgt:=D3 Vc) (it:=Cc Vc) (ifs:=Ol Vc) ?_ ?_ (Bt (t:=(.str t,.val)) (u:=.str t) (vs:=t.map fun(n:Nat)=>V.str [n]) ?_ ?_ rfl rfl) (TU (d:=d+1) k hs)) ?_ ?_ <;> nofun
 refine Ac (An h0 (λ q=>?_) λ q=>?_)
 ·erw[q,if_pos rfl]
  refine BQ (r:=(.ret (.str k.name),Ed t k,O)) ?_ rfl
  nofun
 ·erw[q,if_neg iX]
  exact thn_nxt (J':=Ed t k) rfl rfl
theorem p_bc{t:List Nat}(hs:∀ c∈t,c∈SG):cl (d+30) "best_charset" [.str t] O=some (.ok (.str (bc t).name),O):=by
 obtain la:=LV (d:=d) (O:=O) .a hs
 obtain ll:=LV (d:=d) (O:=O) .l hs
 obtain lu:=LV (d:=d) (O:=O) .u hs
 replace lu:=(if_pos rfl)▸((has_u hs)▸lu)
 obtain h1:Bh (exs (d+28)) (Aj 38) (Ck (Aa (bd 38) 0)) bcB [.str Cs.a.name,.str Cs.l.name,.str Cs.u.name] (Us t) O=some (.ret (.str (bc t).name),Ed t (bc t),O):=by
  unfold bc
  cases ha:t.all Cs.a.has with
  | true=>
   rw[ha,if_pos rfl]at la
   exact Hf (xs:=[("charset",.str Cs.a.name)]) rfl la
  | false=>
   rw[ha,if_neg iX]at la
   refine rwE (if_neg iX) (AV (xs:=[("charset",.str Cs.a.name)]) rfl la ?_)
   cases hl:t.all Cs.l.has with
   | true=>
    rw[hl,if_pos rfl]at ll
    exact Hf (xs:=[("charset",.str Cs.l.name)]) rfl ll
   | false=>
    rw[hl,if_neg iX]at ll
    exact rwE (if_neg iX) (AV (xs:=[("charset",.str Cs.l.name)]) rfl ll (Hf (xs:=[("charset",.str Cs.u.name)]) rfl lu))
 refine Ap (fd:=⟨CO 38,[],Aj 38,bd 38⟩) (J:=Us t) (r:=(.ret (.str (bc t).name),Ed t (bc t),O)) ?_ ?_ (Ac ((BK ?_ (Bt (t:=(.tup [.str Cs.a.name,.str Cs.l.name,.str Cs.u.name],.val)) (u:=.tup [.str Cs.a.name,.str Cs.l.name,.str Cs.u.name]) ?_ ?_ rfl rfl) h1).trans rfl)) rfl <;> nofun
theorem DX(t:List Nat)(b:Nat):Bo (.str t) none (some (b:Int))=some (.str (t.take b)):=by
 show some (V.str (Au t _ _))=_
 unfold Au hiOf loOf
 dsimp only
 erw[Cu,sK]
 by_cases h:b<=t.length
 ·exact rwE (kO h) rfl
 ·(erw[kU (jQ h),n0];exact rwE (kK (jQ h)) rfl)
theorem Ih(t:List Nat)(a:Nat):Bo (.str t) (some (a:Int)) none=some (.str (t.drop a)):=by
 show some (V.str (Au t _ _))=_
 unfold Au hiOf loOf
 dsimp only
 erw[Cu,n0]
 by_cases h:a<=t.length
 ·exact rwE (kO h) rfl
 ·(erw[kU (jQ h),pA];exact rwE (l4 (jQ h)) rfl)
theorem Xp(t:List Nat):t.flatMap Cs.a.enc=t:=by
 induction t with
 | nil=>rfl
 | cons c t ih=>refine i7 iS (rwE ih ?_);rfl
theorem EL{t:List Nat}(hs:∀ c∈t,c∈SG)(hl:t.length<=1000)(h:t.all Cs.a.has=true):cl (d+30) "octets_in" [.str Cs.a.name,.str t] O=some (.ok (.bytes t),O):=by
 obtain this:=CM (d:=d) (O:=O) .a hs hl
 rw[h,if_pos rfl,Xp]at this;exact this
def mid(t:List Nat):List Nat:=(t.take (AG t).2).drop (AG t).1
def Wa(t:List Nat)(width:Int):Option (List Nat):=sh (wos (bc (mid t)) .q (mw width) (mid t)) (wos (bc (mid t)) .b (mw width) (mid t))
def ewo(t:List Nat)(width:Int):Option (List Nat):=if (AG t).2=0 then some t else(Wa t width).map λ s=>t.take (AG t).1++s++t.drop (AG t).2
noncomputable abbrev Un(t:List Nat)(width:Int):R:=[("text",.val (.str t)),("width",.val (.int width))]
noncomputable abbrev Fp(t:List Nat)(width:Int)(b e:Nat):R:=[("text",.val (.str t)),("width",.val (.int width)),("begin",.val (.int (b:Nat))),("end",.val (.int (e:Nat)))]
abbrev Ep(t:List Nat)(width:Int)(b e:Nat)(k:Cs):R:=[("text",.val (.str t)),("width",.val (.int width)),("begin",.val (.int (b:Nat))),("end",.val (.int (e:Nat))),("charset",.val (.str k.name))]
structure Rr(t:List Nat)(width:Int):Prop where
 sg:∀ c∈t,c∈SG
 len:t.length<=200
 plain:(AG t).2=0->t.all Cs.a.has=true
 pre:(t.take (AG t).1).all Cs.a.has=true
 post:(t.drop (AG t).2).all Cs.a.has=true
 mid:(AG t).2≠0->mid t≠[]
 fit:∀ w e,ce (rm (bc (Mine.mid t)) w (mw width)) 0 0 (B9 (bc (Mine.mid t)) w (Mine.mid t))=some e->∀ c∈chs (Mine.mid t) 0 (e++[(Mine.mid t).length]),ew (bc (Mine.mid t)) w c=some (wd (bc (Mine.mid t)) w c)
 short:∀ s,Wa t width=some s->s.length<=100000
theorem YB{t:List Nat}{width:Int}(K:Rr t width):exs (d+61) (Aj 65) (Un t width) (bd 65) O=(match ewo t width with
  | some o=>some (.ret (.bytes o),if (AG t).2=0 then Fp t width (AG t).1 (AG t).2 else Ep t width (AG t).1 (AG t).2 (bc (mid t)),O)
  | none=>some (.exc,if (AG t).2=0 then Fp t width (AG t).1 (AG t).2 else Ep t width (AG t).1 (AG t).2 (bc (mid t)),O)):=by
 have h1:=Vv (d:=d+31) (O:=O) K.len
 have e1:Be (d+60) (Aj 65) (Un t width) O (Aa (bd 65) 0)=some (.nxt,Fp t width (AG t).1 (AG t).2,O):=by
  refine EV (xs:=["begin","end"]) (vs:=[.int ((AG t).1:Nat),.int ((AG t).2:Nat)]) ?_ ?_ ?_ (Ar (ts:=[(.str t,.val)]) (vs:=[.str t]) ?_ (Al ?_) rfl h1) rfl ?_
  ·nofun
  ·nofun
  ·decide
  all_goals nofun
 have e2:Bf (d+60) (Aj 65) (Fp t width (AG t).1 (AG t).2) (Bz (Aa (bd 65) 1)) O=some (.ok (decide (((AG t).2:Int)=0)),O):=rfl
 unfold ewo
 refine Ac (Ab e1 (An e2 (λ q=>?_) λ q=>?_))
 ·have q:(AG t).2=0:=by obtain this:=of_decide_eq_true q;exact nJ this
  erw[if_pos q,if_pos q]
  refine BQ (r:=(.ret (.bytes t),Fp t width (AG t).1 (AG t).2,O)) (Ac (Az (Ax (t:=(.bytes t,.val)) ?_ (Ar (ts:=[(.str Cs.a.name,.val),(.str t,.val)]) (vs:=[.str Cs.a.name,.str t]) ?_ (AO ?_ ?_) rfl (EL (d:=d+28) (O:=O) K.sg (hZ K.len (by decide)) (K.plain q))) rfl))) rfl <;> nofun
 ·have q:=λ z=>by obtain this:=of_decide_eq_false q;exact this (congrArg uP z)
  erw[if_neg q,if_neg q]
  have sm:∀ c∈mid t,c∈SG:=λ c hc=>K.sg c (jW (k9 hc))
  have lm:(mid t).length<=200:=by unfold mid;erw[jA,iY];obtain this:=K.len;exact(sM this)
  have hm:=DG t (AG t).1 (AG t).2
  have h3:=p_bc (d:=d+29) (O:=O) sm
  have ha:=EL (d:=d+27) (O:=O) (λ c hc=>K.sg c (jW hc)) (by erw[iY];obtain this:=K.len;exact(mR (hZ this (by decide)))) K.pre
  have hb:=EL (d:=d+28) (O:=O) (λ c hc=>K.sg c (k9 hc)) (by erw[jA];obtain this:=K.len;exact(sL (hZ this (by decide)))) K.post
  have wq:=λ d=>Xk (d:=d) (O:=O) (bc (mid t)) .q (width:=mw width) (K.mid q) sm lm (GJ sm) (K.fit .q)
  have wb:=λ d=>Xk (d:=d) (O:=O) (bc (mid t)) .b (width:=mw width) (K.mid q) sm lm (GJ sm) (K.fit .b)
  have hs:=p_sh (d:=d) (O:=O) (bc (mid t)) wq wb
  have fB:=DX t (AG t).1
  have hsr:=Ih t (AG t).2
  have e3:Be (d+60) (Aj 65) (Fp t width (AG t).1 (AG t).2) O (Aa (bd 65) 2)=some (.nxt,Ep t width (AG t).1 (AG t).2 (bc (mid t)),O):=by
   refine Af (t:=(.str (bc (mid t)).name,.val)) (s:=.val (.str (bc (mid t)).name)) ?_ (Ar (ts:=[(.str (mid t),.val)]) (vs:=[.str (mid t)]) ?_ (Al (AZ (t:=(.str t,.val)) (a:=(.int ((AG t).1:Nat),.val)) (b:=(.int ((AG t).2:Nat),.val)) ?_ ?_ ?_ rfl rfl hm)) rfl h3) rfl ?_ <;> nofun
  have e4:Bf (d+60) (Aj 65) (Ep t width (AG t).1 (AG t).2 (bc (mid t))) (Bz (Aa (bd 65) 3)) O=some (.ok false,O):=by
   cases bc (mid t) <;> nofun
  refine thn_nxt (J':=Fp t width (AG t).1 (AG t).2) rfl (Ab e3 (An e4 (λ q=>(fls q)) λ _=>thn_nxt (J':=Ep t width (AG t).1 (AG t).2 (bc (mid t))) rfl ?_))
  have a1:ev (d+58) (Aj 65) (Ep t width (AG t).1 (AG t).2 (bc (mid t))) (NL (NL (DI (Aa (bd 65) 4)))) O=some (.ok (.bytes (t.take (AG t).1),.val),O):=by
   refine Ar (ts:=[(.str Cs.a.name,.val),(.str (t.take (AG t).1),.val)]) (vs:=[.str Cs.a.name,.str (t.take (AG t).1)]) ?_ (AO ?_ (DL (t:=(.str t,.val)) (b:=(.int ((AG t).1:Nat),.val)) ?_ ?_ rfl fB)) rfl ha <;> nofun
  obtain a2:ev (d+59) (Aj 65) (Ep t width (AG t).1 (AG t).2 (bc (mid t))) (GG (DI (Aa (bd 65) 4))) O=some (.ok (.bytes (t.drop (AG t).2),.val),O):=by
   refine Ar (ts:=[(.str Cs.a.name,.val),(.str (t.drop (AG t).2),.val)]) (vs:=[.str Cs.a.name,.str (t.drop (AG t).2)]) ?_ (AO ?_ (EN (t:=(.str t,.val)) (a:=(.int ((AG t).2:Nat),.val)) ?_ ?_ rfl hsr)) rfl hb <;> nofun
  have ag:Mo.mapM (ev (d+57) (Aj 65) (Ep t width (AG t).1 (AG t).2 (bc (mid t)))) (C6 (GG (NL (DI (Aa (bd 65) 4))))) O=some (.ok [(.str (mid t),.val),(.str (bc (mid t)).name,.val),(.int width,.val)],O):=by
   refine DD (AZ (t:=(.str t,.val)) (a:=(.int ((AG t).1:Nat),.val)) (b:=(.int ((AG t).2:Nat),.val)) ?_ ?_ ?_ rfl rfl hm) ?_ ?_ <;> nofun
  have es:sh (wos (bc (mid t)) .q (mw width) (mid t)) (wos (bc (mid t)) .b (mw width) (mid t))=Wa t width:=rfl
  rw[es]at hs
  cases h:Wa t width with
  | none=>
   rw[h]at hs
   refine Ht (QF ?_ (OQ (OO a1 (EO (vs:=[.str (mid t),.str (bc (mid t)).name,.int width]) ?_ ag rfl hs)))) <;> nofun
  | some s=>
   rw[h]at hs
   obtain hz:=K.short s h
   obtain l1:(t.take (AG t).1).length<=200:=by erw[iY];obtain this:=K.len;exact(mR this)
   obtain l2:(t.drop (AG t).2).length<=200:=by erw[jA];obtain this:=K.len;exact(sL this)
   refine Az (Ax (t:=(.bytes (t.take (AG t).1++s++t.drop (AG t).2),.val)) ?_ (Aq (a:=(.bytes (t.take (AG t).1++s),.val)) (b:=(.bytes (t.drop (AG t).2),.val)) (Aq (a:=(.bytes (t.take (AG t).1),.val)) (b:=(.bytes s,.val)) a1 (Ar (vs:=[.str (mid t),.str (bc (mid t)).name,.int width]) ?_ ag rfl hs) (add_bytes2 (Ai (hZ (j0 l1 hz) (by decide))))) a2 (add_bytes2 (by erw[hW];exact Ai (hZ (j0 (j0 l1 hz) l2) (by decide))))) rfl) <;> nofun
theorem VW{t:List Nat}{width:Int}(K:Rr t width):cl (d+62) "encoded_words" [.str t,.int width] O=Ib (ewo t width) O:=by
 obtain h:=YB (d:=d) (O:=O) K
 obtain hf:G.fn "encoded_words"=some ⟨CO 65,[.int 75],Aj 65,bd 65⟩:=rfl
 cases q:ewo t width with
 | none=>replace h:=q▸h;exact Ap hf rfl h rfl
 | some o=>rw[q]at h;exact Ap hf rfl h rfl
theorem RN{t:List Nat}(K:Rr t 75):cl (d+62) "encoded_words" [.str t] O=Ib (ewo t 75) O:=by
 obtain h:=YB (d:=d) (O:=O) K
 obtain hf:=rfl
 cases q:ewo t 75 with
 | none=>replace h:=q▸h;exact Ap hf rfl h rfl
 | some o=>rw[q]at h;exact Ap hf rfl h rfl
theorem JQ{es:List hJ}{p:Pos}{ts:List TV}{vs:List V}(hc:noStar es=true)(ha:Mo.mapM (ev d sc J) es O=some (.ok ts,O))(hv:BN ts=some vs)(hl:vs.length<=Ae):ev (d+1) sc J (.List es p) O=some (.ok (.lst vs,.fresh),O):=by
 show(if noStar es then .bind (.mapM (ev d sc J) es) λ ts=>.lift ((BN ts).bind λ vs=>if vs.length<=Ae then some (V.lst vs,HQ.fresh) else none) else .fail:Mo TV) O=_
 erw[if_pos hc]
 refine As ha (rwE hv ?_)
 show Mo.lift (if vs.length<=Ae then some (V.lst vs,HQ.fresh) else none) O=_
 erw[if_pos hl];rfl
noncomputable def Hl(e:Stmt):List Stmt:=if h:e.ctorIdx=12 then sC (motive_2:=λ _=>List Stmt) e h (λ _ b _ _=>b) else []
def fl(k:Cs)(w:Wy):Int:=((fr k w).length+2:Nat)
noncomputable def DW(w:Wy)(n:Int):Int:=match w with
 | .q=>n
 | .b=>4 * (n+2).fdiv 3
noncomputable def gl(k:Cs)(w:Wy)(width:Int):List (List Nat)->List Nat->Nat->List Nat->Option (List (List Nat)×List Nat)
 | acc,part,_,[]=>some (acc,part)
 | acc,part,s,c::r=>if fl k w+DW w (w.sz (k.enc c)) > width then none
  else if part≠[]/\fl k w+DW w ((s:Int)+(w.sz (k.enc c):Nat)) > width then gl k w width (acc++[part]) [c] (w.sz (k.enc c)) r
  else gl k w width acc (part++[c]) (s+w.sz (k.enc c)) r
theorem NA{k:Cs}{w:Wy}{W:Int}{a:List (List Nat)}{p:List Nat}{s c:Nat}{r:List Nat}:gl k w W a p s (c::r)=if fl k w+DW w (w.sz (k.enc c)) > W then none else if p≠[]/\fl k w+DW w ((s:Int)+(w.sz (k.enc c):Nat)) > W then gl k w W (a++[p]) [c] (w.sz (k.enc c)) r else gl k w W a (p++[c]) (s+w.sz (k.enc c)) r:=rfl
abbrev TF(k:Cs)(w:Wy)(t:List Nat)(width:Int)(acc:List V)(part:List Nat)(s:Int):R:=[("words",.val (.str t)),("charset",.val (.str k.name)),("way",.val (.str [w.code])),("width",.val (.int width)),("frame",.val (.int (fl k w))),("found",.own acc),("part",.val (.str part)),("size",.val (.int s))]
abbrev BZ(k:Cs)(w:Wy)(t:List Nat)(width:Int)(acc:List V)(part:List Nat)(s:Int)(c:List Nat)(o:List Nat)(m:Int):R:=[("words",.val (.str t)),("charset",.val (.str k.name)),("way",.val (.str [w.code])),("width",.val (.int width)),("frame",.val (.int (fl k w))),("found",.own acc),("part",.val (.str part)),("size",.val (.int s)),("sign",.val (.str c)),("row",.val (.bytes o)),("more",.val (.int m))]
def RH(k:Cs)(w:Wy)(t:List Nat)(width:Int)(acc:List V)(part:List Nat)(s:Int)(J:R):Prop:=J=TF k w t width acc part s\/∃ c o m,J=BZ k w t width acc part s c o m
def gB:List Stmt:=Cl (Aa (bd 83) 2)
theorem We(k:Cs)(w:Wy){t:List Nat}{width:Int}{acc:List V}{part:List Nat}{s:Int}{c:Nat}{J:R}{res:St}(hc:c∈SG)(h:k.has c=true)(aj:RH k w t width acc part s J)
  (q:sq (d+49) (Aj 83) [Aa gB 2,Aa gB 3,Aa gB 4] (BZ k w t width acc part s [c] (k.enc c) (w.sz (k.enc c):Nat)) O=res):exs (d+50) (Aj 83) (Aw J [("sign",.val (.str [c]))]) gB O=res:=by
 obtain h1:=CM (d:=d+18) (O:=O) k (t:=[c]) (λ x hx=>((iD).mp hx)▸hc) (by decide:1<=1000)
 rw[show([c]:List Nat).all k.has=true by rw[lD,h];rfl,if_pos rfl,iS,kD,iO]at h1
 obtain ho:=Ln k c hc h
 have h2:=YF (d:=d+26) (O:=O) ho (by obtain this:=FZ k c;exact iL this)
 have st:∀ J1 J2:R,(hc:Mo.mapM (ev (d+48) (Aj 83) J1) (C6 (D5 (Aa gB 0))) O=some (.ok [(.str k.name,.val),(.str [c],.val)],O))->(hr:BE J1 "row" (.val (.bytes (k.enc c)))=J2)->Be (d+49) (Aj 83) J1 O (Aa gB 0)=some (.nxt,J2,O):=λ J1 J2 e1 e2=>by
  refine Af (t:=(.bytes (k.enc c),.val)) (s:=.val (.bytes (k.enc c))) ?_ (Ar (ts:=[(.str k.name,.val),(.str [c],.val)]) (vs:=[.str k.name,.str [c]]) ?_ e1 rfl h1) rfl e2 <;> nofun
 rcases aj with rfl | ⟨c',o,m,rfl⟩
 ·refine Ac (Ab (st _ [("words",.val (.str t)),("charset",.val (.str k.name)),("way",.val (.str [w.code])),("width",.val (.int width)),("frame",.val (.int (fl k w))),("found",.own acc),("part",.val (.str part)),("size",.val (.int s)),("sign",.val (.str [c])),("row",.val (.bytes (k.enc c)))] ?_ ?_) (Ab (J':=BZ k w t width acc part s [c] (k.enc c) (w.sz (k.enc c):Nat)) ?_ q))
  ·nofun
  ·nofun
  ·refine Af (t:=(.int (w.sz (k.enc c):Nat),.val)) (s:=.val (.int (w.sz (k.enc c):Nat))) ?_ ?_ rfl ?_
   ·nofun
   ·cases w with
    | q=>refine AT (c:=true) ?_ (λ _=>Bb (ts:=[(.bytes ((k.enc c).flatMap q1),.val)]) ?_ (Al (Ar (ts:=[(.bytes (k.enc c),.val)]) (vs:=[.bytes (k.enc c)]) ?_ (Al ?_) rfl h2)) ?_) (λ q=>(nc j9 q (.refl false))) <;> nofun
    | b=>refine AT (c:=false) ?_ (λ q=>(fls q)) (λ _=>?_) <;> nofun
   ·nofun
 ·refine Ac (Ab (st _ (BZ k w t width acc part s [c] (k.enc c) m) ?_ ?_) (Ab (J':=BZ k w t width acc part s [c] (k.enc c) (w.sz (k.enc c):Nat)) ?_ q))
  ·nofun
  ·nofun
  ·refine Af (t:=(.int (w.sz (k.enc c):Nat),.val)) (s:=.val (.int (w.sz (k.enc c):Nat))) ?_ ?_ rfl ?_
   ·nofun
   ·cases w with
    | q=>refine AT (c:=true) ?_ (λ _=>Bb (ts:=[(.bytes ((k.enc c).flatMap q1),.val)]) ?_ (Al (Ar (ts:=[(.bytes (k.enc c),.val)]) (vs:=[.bytes (k.enc c)]) ?_ (Al ?_) rfl h2)) ?_) (λ q=>(nc j9 q (.refl false))) <;> nofun
    | b=>refine AT (c:=false) ?_ (λ q=>(fls q)) (λ _=>?_) <;> nofun
   ·nofun
theorem UX(k:Cs)(w:Wy){t:List Nat}{width:Int}{acc:List V}{part:List Nat}{s c:Nat}{J:R}(hc:c∈SG)(h:k.has c=true)(hp:∀ x∈part,x∈SG)(hh:part.all k.has=true)(hl:part.length<=200)(hz:acc.length<=1000000)(aj:RH k w t width acc part s J) :
  exs (d+50) (Aj 83) (Aw J [("sign",.val (.str [c]))]) gB O=if fl k w+DW w (w.sz (k.enc c):Nat) > width then some (.ret .none,BZ k w t width acc part s [c] (k.enc c) (w.sz (k.enc c):Nat),O)
   else if part≠[]/\fl k w+DW w ((s:Int)+(w.sz (k.enc c):Nat)) > width then some (.nxt,BZ k w t width (acc++[.bytes (wd k w part)]) [c] (w.sz (k.enc c):Nat) [c] (k.enc c) (w.sz (k.enc c):Nat),O)
   else some (.nxt,BZ k w t width acc (part++[c]) ((s+w.sz (k.enc c):Nat):Int) [c] (k.enc c) (w.sz (k.enc c):Nat),O):=by
 refine We k w hc h aj ?_
 generalize hm:w.sz (k.enc c)=m
 generalize k.enc c=o
 have e2:Bf (d+49) (Aj 83) (BZ k w t width acc part s [c] o (m:Nat)) (Bz (Aa gB 2)) O=some (.ok (decide (fl k w+DW w (m:Nat) > width)),O):=by cases w <;> nofun
 obtain e3:Bf (d+49) (Aj 83) (BZ k w t width acc part s [c] o (m:Nat)) (Bz (Aa gB 3)) O=some (.ok (!(decide (part=[]))&&decide (fl k w+DW w ((s:Int)+(m:Nat)) > width)),O):=by
  refine Ba (a:=!(decide (part=[]))) (b:=decide (fl k w+DW w ((s:Int)+(m:Nat)) > width)) ?_ λ _=>?_
  ·nofun
  ·clear h hc hm aj
   cases w <;> nofun
 obtain e4:∀ (acc:List V) (p:List Nat) (s:Nat),p.length<=200->Be (d+49) (Aj 83) (BZ k w t width acc p s [c] o (m:Nat)) O (Aa gB 4)=some (.nxt,BZ k w t width acc (p++[c]) ((s+m:Nat):Int) [c] o (m:Nat),O):=λ acc p s hl=>by
  refine NO (xs:=["part","size"]) (tvs:=[(.str (p++[c]),.val),(.int ((s+m:Nat):Int),.val)]) (sl:=[("part",.val (.str (p++[c]))),("size",.val (.int ((s+m:Nat):Int)))]) ?_ ?_ (AO (Aq (a:=(.str p,.val)) (b:=(.str [c],.val)) ?_ ?_ (Qj (Ai (by erw[iT];exact iQ (by assumption) (by decide))))) (Aq (a:=(.int (s:Nat),.val)) (b:=(.int (m:Nat),.val)) ?_ ?_ ?_)) rfl ⟨kA 1,lH rfl⟩ ?_
  ·nofun
  ·decide +kernel
  all_goals nofun
 refine An e2 (λ q=>?_) λ q=>?_
 ·refine rwE (if_pos (of_decide_eq_true q)) (BQ (r:=(.ret .none,BZ k w t width acc part s [c] o (m:Nat),O)) ?_ rfl)
  nofun
 ·erw[if_neg (of_decide_eq_false q)]
  refine thn_nxt (J':=BZ k w t width acc part s [c] o (m:Nat)) rfl (An e3 (λ q=>?_) λ q=>?_)
  ·rw[iC,jO]at q
   erw[if_pos ⟨of_decide_eq_false q.1,of_decide_eq_true q.2⟩]
   obtain hw:=Hd (d:=d+1) (O:=O) k w hp hl hh
   have e5:=e4 (acc++[.bytes (wd k w part)]) [] 0 (kA _)
   rw[j4,kF]at e5
   obtain e6:=rfl
   obtain e8:Be (d+48) (Aj 83) (BZ k w t width acc part s [c] o (m:Nat)) O (Aa (Hl (Aa gB 3)) 0)=some (.nxt,BZ k w t width (acc++[.bytes (wd k w part)]) part s [c] o (m:Nat),O):=by
    refine AX (ts:=[(.bytes (wd k w part),.val)]) ?_ (Al (Ar (ts:=[(.str part,.val),(.str k.name,.val),(.str [w.code],.val)]) (vs:=[.str part,.str k.name,.str [w.code]]) ?_ ?_ rfl hw)) (AB (vs:=acc) ?_ rfl (Ao hz) ?_) <;> nofun
   have e7:exs (d+49) (Aj 83) (BZ k w t width acc part s [c] o (m:Nat)) (Hl (Aa gB 3)) O=some (.nxt,BZ k w t width (acc++[.bytes (wd k w part)]) [] 0 [c] o (m:Nat),O):=Ac (Ab e8 (AD e6))
   exact thn_nxt e7 (AD e5)
  ·exact rwE (if_neg (λ z=>by rw[decide_eq_false z.1,decide_eq_true z.2]at q;(first | exact none_some q | exact fls q | (obtain q:=hG q;subst q) | exact nc V.ctorIdx q (.refl false) | cases q))) (thn_nxt (J':=BZ k w t width acc part s [c] o (m:Nat)) rfl (AD (e4 acc part s hl)))
theorem Wp(k:Cs)(w:Wy){t:List Nat}{width:Int}(r:List Nat):∀ {acc:List (List Nat)} {part:List Nat} {s:Nat} {J:R},(∀ x∈part,x∈SG)->part.all k.has=true->(∀ x∈r,x∈SG)->r.all k.has=true->part.length+r.length<=200->acc.length+r.length<=1000->RH k w t width (bts (acc.map (wd k w))) part s J ->
  ∃ J',(∀ a p,gl k w width acc part s r=some (a,p)->Bh (exs (d+50)) (Aj 83) (Ck (Aa (bd 83) 2)) gB (r.map fun(n:Nat)=>V.str [n]) J O=some (.nxt,J',O)/\((∃ s',RH k w t width (bts (a.map (wd k w))) p s' J')/\(∀ x∈p,x∈SG)/\p.all k.has=true/\p.length<=200/\a.length<=1000)) /\
   (gl k w width acc part s r=none->Bh (exs (d+50)) (Aj 83) (Ck (Aa (bd 83) 2)) gB (r.map fun(n:Nat)=>V.str [n]) J O=some (.ret .none,J',O)):=by
 induction r with
 | nil=>
  intro acc part s J hp hh _ _ hl hz aj
  refine iEA J (λ a p q=>?_) (λ q=>(nc mG q (.refl false)))
  exact sA (tQ (hG q)) λ al=>rwS al (WE for_nil ⟨s,aj⟩ hp hh hl hz)
 | cons c r ih=>
  intro acc part s J hp hh hr df hl hz aj
  rw[i6]at hl hz
  have hc:=hr c i8
  rw[lD,iC]at df
  have hb:=UX (d:=d) (O:=O) k w hc df.1 hp hh (jY hl) (by(rw[bts];erw[iH,iH]);exact hZ (jF _ _) (hZ hz (by decide))) aj
  have hr':=λ x hx=>hr x (i9 c hx)
  erw[NA,iW]
  by_cases h1:fl k w+DW w (w.sz (k.enc c):Nat) > width
  ·rw[if_pos h1]at hb
   exact rwE (if_pos h1) (iEA _ (λ _ _ q=>((none_some q))) (λ _=>Hf (xs:=[("sign",.str [c])]) (by kernel_rfl) hb))
  ·rw[if_neg h1]at hb
   erw[if_neg h1]
   by_cases h2:part≠[]/\fl k w+DW w ((s:Int)+(w.sz (k.enc c):Nat)) > width
   ·rw[if_pos h2]at hb
    erw[if_pos h2]
    obtain⟨J',k1,k2⟩:=ih (acc:=acc++[part]) (part:=[c]) (s:=w.sz (k.enc c)) (J:=BZ k w t width (bts (acc.map (wd k w))++[.bytes (wd k w part)]) [c] (w.sz (k.enc c):Nat) [c] (k.enc c) (w.sz (k.enc c):Nat)) (λ x hx=>((iD).mp hx)▸hc) (by refine i7 lD (rwE df.1 ?_);rfl) hr' df.2 (by erw[iT];exact hZ (j7 (lB ..)) (hZ (l8 _ _) hl)) (by erw[hW,iT];exact hZ (j7 (kI ..)) hz) (.inr (SD _ _ _ (by erw[k8];unfold bts;erw[k8];rfl)))
    exact iEA J' (λ a p q=>⟨AV (xs:=[("sign",.str [c])]) (by kernel_rfl) hb (k1 a p q).1,(k1 a p q).2⟩) (λ q=>AV (xs:=[("sign",.str [c])]) (by kernel_rfl) hb (k2 q))
   ·rw[if_neg h2]at hb
    erw[if_neg h2]
    obtain⟨J',k1,k2⟩:=ih (acc:=acc) (part:=part++[c]) (s:=s+w.sz (k.enc c)) (J:=BZ k w t width (bts (acc.map (wd k w))) (part++[c]) ((s+w.sz (k.enc c):Nat):Int) [c] (k.enc c) (w.sz (k.enc c):Nat)) (λ x hx=>((jX).mp hx).elim (hp x) λ hx=>((iD).mp hx)▸hc) (by(refine i7 List.all_append (rwE hh ?_);erw[lD,df.1]);rfl) hr' df.2 (by erw[hW,iT];exact hZ (j7 (kI ..)) hl) ((jB hz)) (.inr (SD _ _ _ rfl))
    exact iEA J' (λ a p q=>⟨AV (xs:=[("sign",.str [c])]) (by kernel_rfl) hb (k1 a p q).1,(k1 a p q).2⟩) (λ q=>AV (xs:=[("sign",.str [c])]) (by kernel_rfl) hb (k2 q))
def lws(k:Cs)(w:Wy)(width:Int)(t:List Nat):Option (List Nat):=(gl k w width [] [] 0 t).map λ p=>joinL [32] ((p.1++[p.2]).map (wd k w))
noncomputable def BM(o:Option (List Nat)):V:=match o with
 | some b=>.bytes b
 | none=>.none
theorem V0(k:Cs)(w:Wy){t:List Nat}(h:t.length<=200):(wd k w t).length<=4000:=by
 unfold wd
 have:=HL k w
 have:=JF w (t.flatMap k.enc)
 have:=EI k t
 simp only[hW,i6,iM];lia
theorem QX(k:Cs)(w:Wy){width:Int}{n:Nat}(r:List Nat):∀ {acc:List (List Nat)} {part:List Nat} {s:Nat} {a p},(∀ c∈acc,c.length<=n)->part.length+r.length<=n->gl k w width acc part s r=some (a,p)->∀ c∈a++[p],c.length<=n:=by
 induction r with
 | nil=>
  intro acc part s a p h1 h2 q
  refine qA (tQ (hG q)) λ aa al=>?_;subst aa;subst al
  exact λ c hc=>((jX).mp hc).elim (h1 c) λ hc=>((iD).mp hc)▸h2
 | cons c r ih=>
  intro acc part s a p h1 h2 q
  replace h2:=i6▸h2
  replace q:=eqL NA q
  by_cases q1:fl k w+DW w (w.sz (k.enc c):Nat) > width
  ·replace q:=Gn q1 q;exact none_some q
  ·replace q:=Fg q1 q
   by_cases q2:part≠[]/\fl k w+DW w ((s:Int)+(w.sz (k.enc c):Nat)) > width
   ·obtain q:=Gn q2 q
    exact ih (λ x hx=>((jX).mp hx).elim (h1 x) λ hx=>((iD).mp hx)▸(jY h2)) (by erw[iT];exact hZ (j7 (lB ..)) (hZ (l8 _ _) h2)) q
   ·obtain q:=Fg q2 q
    exact ih h1 (by erw[hW,iT];exact hZ (j7 (kI ..)) h2) q
theorem XM(k:Cs)(w:Wy){t:List Nat}{width:Int}(hs:∀ c∈t,c∈SG)(hl:t.length<=200)(ha:t.all k.has=true) :
  cl (d+52) "_law_words" [.str t,.str k.name,.str [w.code],.int width] O=some (.ok (BM (lws k w width t)),O):=by
 obtain⟨J',k1,k2⟩:=Wp (d:=d) (O:=O) k w (t:=t) (width:=width) t (acc:=[]) (part:=[]) (s:=0) (J:=TF k w t width [] [] 0) (λ _ h=>nomatch h) rfl hs ha (by rw[iM];exact j5 hl _) (by rw[iM];exact hZ (j5 hl _) (by decide)) (.inl rfl)
 obtain h0:=Hd (d:=d+2) (O:=O) k w (t:=[]) (λ _ h=>nomatch h) (kA _) rfl
 have pre:∀ {r},Bh (exs (d+50)) (Aj 83) (Ck (Aa (bd 83) 2)) gB (t.map fun(n:Nat)=>V.str [n]) (TF k w t width [] [] 0) O=some r ->
   exs (d+51) (Aj 83) [("words",.val (.str t)),("charset",.val (.str k.name)),("way",.val (.str [w.code])),("width",.val (.int width))] (bd 83) O=Q8 (d+50) (Aj 83) [Aa (bd 83) 3] (some r):=fun {r} h=>by
  refine Ac (Ab (J':=[("words",.val (.str t)),("charset",.val (.str k.name)),("way",.val (.str [w.code])),("width",.val (.int width)),("frame",.val (.int (fl k w)))]) (Af (t:=(.int (fl k w),.val)) (s:=.val (.int (fl k w))) ?_ (Bb (ts:=[(.bytes (wd k w []),.val)]) ?_ (Al (Ar (ts:=[(.str [],.val),(.str k.name,.val),(.str [w.code],.val)]) (vs:=[.str [],.str k.name,.str [w.code]]) ?_ ?_ rfl h0)) (by cases k <;> cases w <;> kernel_rfl:Bu "len" [.bytes (wd k w [])]=some (.int (fl k w)))) rfl ?_)
   (Ab (J':=TF k w t width [] [] 0) ?_ (BK ?_ (Bt (t:=(.str t,.val)) (u:=.str t) ?_ ?_ rfl rfl) h))) <;> nofun
 have cz:G.fn "_law_words"=some ⟨CO 83,[],Aj 83,bd 83⟩:=by kernel_rfl
 unfold lws
 cases h:gl k w width [] [] 0 t with
 | none=>exact Ap cz rfl (pre (k2 h)) rfl
 | some ap=>
  obtain⟨a,p⟩:=ap
  refine V6 (k1 a p h) λ h1 aa h3 h4 h5 h6=>?_;obtain⟨s',h2⟩:=aa
  obtain hw:=Hd (d:=d) (O:=O) k w h3 h5 h4
  have hj:=M9 ((a++[p]).map (wd k w)) (by
   obtain this:=FX ((a++[p]).map (wd k w)) 4000 (λ c hc=>by
    refine A9 ((jV).mp hc) λ x hx aa=>?_;subst aa
    exact V0 k w (QX k w t (acc:=[]) (part:=[]) (λ _ h=>(by cases h)) (by rw[iM];exact j5 hl _) h x hx))
   rw[iH,hW,iT]at this ⊢
   obtain hz:5000000<=Ae:=by unfold Ae;exact l8 _ _
   exact hZ (hZ (j0 (hZ this (iP 4000 (j6 h6))) (j6 h6)) (by decide)) hz)
  have ad:A1 .Add (.lst (bts (a.map (wd k w)))) (.lst [.bytes (wd k w p)])=some (.lst (bts ((a++[p]).map (wd k w)))):=by
   rw[Dz (by(rw[bts];erw[iH,iH]);exact Ai (by simp only[i6,iM];exact iQ (by assumption) (by decide))),k8,bts,bts,k8];rfl
  refine Ap cz (J:=[("words",.val (.str t)),("charset",.val (.str k.name)),("way",.val (.str [w.code])),("width",.val (.int width))]) (r:=(.ret (.bytes (joinL [32] ((a++[p]).map (wd k w)))),J',O)) rfl ((pre h1).trans (thn_nxt rfl (Az (Ax (t:=(.bytes (joinL [32] ((a++[p]).map (wd k w))),.val)) ?_ (CG (t:=(.bytes [32],.val)) (ts:=[(.lst (bts ((a++[p]).map (wd k w))),.fresh)]) ?_ ?_ ?_ (Al (Aq (a:=(.lst (bts (a.map (wd k w))),.bor)) (b:=(.lst [.bytes (wd k w p)],.fresh)) ?_ (JQ (ts:=[(.bytes (wd k w p),.val)]) ?_ (Al (Ar (ts:=[(.str p,.val),(.str k.name,.val),(.str [w.code],.val)]) (vs:=[.str p,.str k.name,.str [w.code]]) ?_ ?_ rfl hw)) rfl (Ai (by decide:1<=2000000))) ad)) hj) rfl)))) rfl
  ·nofun
  ·nofun
  ·nofun
  ·nofun
  ·clear ad h h0 h1 h3 h4 h5 h6 ha cz hj hl hs hw k1 k2 pre
   rcases h2 with rfl | ⟨c,o,m,rfl⟩ <;> nofun
  ·nofun
  ·nofun
  ·clear ad h h0 h1 h3 h4 h5 h6 ha cz hj hl hs hw k1 k2 pre
   rcases h2 with rfl | ⟨c,o,m,rfl⟩ <;> nofun
noncomputable def pr(c:Nat):Bool:=decide (32<=c)&&decide (c<=126)
noncomputable def en(k:Nat):List Nat->List (Nat×Nat)
 | []=>[]
 | c::r=>(k,c)::en (k+1) r
theorem en_cE{k c:Nat}{r:List Nat}:en k (c::r)=(k,c)::en (k+1) r:=rfl
def n1(t:List Nat):List Nat:=((en 0 t).filter λ p=>!(pr p.2)).map (·.1)
noncomputable def n2(t:List Nat):List Nat:=(jE (t.length - 1)).flatMap λ i=>if (t.take (i+2)).drop i=[61,63] then [i,i+1] else []
noncomputable def n3(t:List Nat):List Nat:=if t.take 1=[32] then [0] else []
noncomputable def n4(t:List Nat):List Nat:=if t.drop (t.length - 1)=[32] then [t.length - 1] else []
def AL(t:List Nat):List Nat:=n1 t++n2 t++n3 t++n4 t
noncomputable def T6(x:Nat):List Nat->List Nat
 | []=>[x]
 | y::r=>if x<=y then x::y::r else y::T6 x r
theorem Jk{x y:Nat}{r:List Nat}:T6 x (y::r)=if x<=y then x::y::r else y::T6 x r:=rfl
noncomputable def JU:List Nat->List Nat
 | []=>[]
 | x::r=>T6 x (JU r)
theorem Vt{x:Nat}{r:List Nat}:JU (x::r)=T6 x (JU r):=rfl
theorem TP(x:Nat)(l:List Nat):CU (x:Int) (l.map fun(n:Nat)=>(n:Int))=(T6 x l).map fun(n:Nat)=>(n:Int):=by
 induction l with
 | nil=>rfl
 | cons y r ih=>
  (refine rwE iW (i7 DZ ?_);erw[Jk])
  by_cases h:x<=y
  ·refine BX ((kC).mpr (by assumption)) (rwE (if_pos h) ?_);rfl
  ·(refine Gx (by lia) (rwE (if_neg h) ?_);erw[ih]);rfl
theorem SV(l:List Nat):Ei (l.map fun(n:Nat)=>(n:Int))=(JU l).map fun(n:Nat)=>(n:Int):=by
 induction l with
 | nil=>rfl
 | cons y r ih=>(refine rwE iW (i7 Kg ?_);refine rwE ih (i7 (TP ..) ?_));rfl
theorem OM(as:List V):Bu "sorted" as=(lstInts? as).bind λ l=>if l.length < 64 then some (.lst ((Ei l).map .int)) else none:=rfl
theorem KM{l:List Nat}(h:l.length < 64):Bu "sorted" [.lst (Ad l)]=some (.lst (Ad (JU l))):=by
 refine i7 (OM ..) ?_
 show((Ct (Ad l)).bind λ l=>if l.length < 64 then some (V.lst ((Ei l).map .int)) else none)=_
 (refine rwE (Nw ..) (i7 (kN ..) ?_);refine BX (by erw[iH];exact h) (rwE (SV ..) ?_);erw[jR]);rfl
theorem L2(t:List Nat):∀ k,Dp k (t.map fun(c:Nat)=>V.str [c])=(en k t).map λ p=>V.tup [.int (p.1:Nat),.str [p.2]]:=by
 induction t with
 | nil=>exact λ _=>rfl
 | cons c t ih=>intro k;(refine rwE iW (i7 enumL_cE ?_);erw[ih,en_cE]);rfl
theorem LA(n:Nat)(h:n<=1000):BW [.int ((n:Int) - 1)]=some (IW 0 (n - 1)):=by
 cases n with
 | zero=>rfl
 | succ n=>erw[show((n+1:Nat):Int) - 1=(n:Int) by lia];exact C3 n (iL (jB h))
noncomputable abbrev Qs(t:List Nat)(acc:List V):R:=[("words",.val (.str t)),("found",.own acc)]
noncomputable abbrev Hn(t:List Nat)(acc:List V)(i:Int):R:=[("words",.val (.str t)),("found",.own acc),("at",.val (.int i))]
def Hw(t:List Nat)(acc:List V)(J:R):Prop:=J=Qs t acc\/∃ i,J=Hn t acc i
def Uj:hJ:=D5 (Aa (bd 84) 0)
def lnB:List Stmt:=Cl (Aa (bd 84) 1)
theorem R4(t:List Nat):BR (ev (d+12)) (Bf (d+12)) (Gl Uj) [("words",.val (.str t))] (D3 Uj) (Ol Uj) (G1 Uj) (Dp 0 (t.map fun(c:Nat)=>V.str [c])) O=some (.ok (Ad (n1 t)),O):=by
 erw[L2,(show Ad (n1 t)=((en 0 t).filter λ p=>!(pr p.2)).map λ p=>V.int (p.1:Nat) by unfold Ad n1;refine i7 jR ?_;rfl)]
 refine DR (xs:=fun(p:Nat×Nat)=>[(("at" : hV),V.int (p.1:Nat)),(("sign" : hV),V.str [p.2])]) (f:=fun(p:Nat×Nat)=>V.int (p.1:Nat)) (p:=fun(p:Nat×Nat)=>!(pr p.2)) (toV:=fun(p:Nat×Nat)=>V.tup [.int (p.1:Nat),.str [p.2]]) (en 0 t) λ p _=>iAA rfl ?_ (λ _=>⟨(.int (p.1:Nat),.val),by nofun,rfl⟩)
 refine Jn (Dq (He (a:=(.str [32],.val)) (b:=(.str [p.2],.val)) (c:=(.str [126],.val)) (x:=decide (32<=p.2)) (y:=decide (p.2<=126)) ?_ ?_ ?_ ?_ ?_ ?_)) <;> nofun
theorem Sc{t:List Nat}{acc:List V}{J:R}{i:Nat}(aj:Hw t acc J)(hz:acc.length<=1000000) :
  exs (d+16) (Aj 84) (Aw J [("at",.val (.int (i:Nat)))]) lnB O=some (.nxt,Hn t (acc++Ad (if (t.take (i+2)).drop i=[61,63] then [i,i+1] else [])) (i:Nat),O):=by
 obtain e0:Aw J [("at",.val (.int (i:Nat)))]=Hn t acc (i:Nat):=by rcases aj with rfl | ⟨j,rfl⟩ <;> nofun
 erw[e0]
 refine Ac (An (c:=decide ((t.take (i+2)).drop i=[61,63])) (AN (a:=(.str ((t.take (i+2)).drop i),.val)) (b:=(.str [61,63],.val)) ?_ (AZ (t:=(.str t,.val)) (a:=(.int (i:Nat),.val)) (b:=(.int ((i+2:Nat):Int),.val)) ?_ ?_ ?_ rfl rfl (DG t i (i+2))) ?_ ?_) (λ q=>?_) λ q=>?_)
 ·nofun
 ·nofun
 ·nofun
 ·nofun
 ·nofun
 ·nofun
 ·erw[if_pos (of_decide_eq_true q)]
  refine thn_nxt (Ac (AD (Af (t:=(.lst (acc++Ad [i,i+1]),.fresh)) (J':=Hn t (acc++Ad [i,i+1]) (i:Nat)) ?_ (Aq (a:=(.lst acc,.bor)) (b:=(.lst (Ad [i,i+1]),.fresh)) ?_ ?_ (Dz (Ai (by erw[AH];simp only[i6,iM];exact iQ (kM hz _) (by decide))):A1 .Add (.lst acc) (.lst (Ad [i,i+1]))=some (.lst (acc++Ad [i,i+1])))) (Ex ?_ ?_) ?_))) rfl <;> nofun
 ·(erw[if_neg (of_decide_eq_false q),(show Ad []=[] from rfl)];erw[iO])
  exact thn_nxt (J':=Hn t acc (i:Nat)) rfl rfl
theorem Vs(t:List Nat):∀ k,(en k t).length=t.length:=by
 induction t with
 | nil=>exact λ _=>rfl
 | cons c t ih=>intro k;(refine rwE en_cE (i7 i6 ?_);exact rwE i6 (rwE (ih ..) rfl))
theorem Lo(t:List Nat):Bo (.str t) (some (-1)) none=some (.str (t.drop (t.length - 1))):=by
 show some (V.str (Au t _ _))=_
 unfold Au hiOf loOf clampOf
 dsimp only
 (erw[if_pos (by decide),n0];exact rwE (show(-1+(t.length:Int)).toNat=t.length - 1 by lia) rfl)
theorem p_ln{t:List Nat}(hl:t.length<=200)(hf:(AL t).length < 64):cl (d+18) "_law_needy" [.str t] O=some (.ok (.lst (Ad (JU (AL t)))),O):=by
 refine AK λ Z zk=>?_
 obtain l1:(n1 t).length<=200:=by unfold n1;erw[iH];exact hZ (List.length_filter_le _ _) (by erw[Vs];exact hl)
 obtain hr:=LA t.length (iL hl)
 obtain⟨J',h1,h2⟩:=EJ (O:=O) (Xf:=exs (d+16)) (sc:=Aj 84) (tgt:=Ck (Aa (bd 84) 1)) (body:=lnB) (x:="at") (toV:=fun(k:Nat)=>V.int (k:Int)) (Inv:=Hw t) (g:=λ i=>Ad (if (t.take (i+2)).drop i=[61,63] then [i,i+1] else [])) (B:=1000000) rfl (l6 0 (t.length - 1))
  (λ k hk acc J h hz=>iEA _ (Sc (d:=d) h hz) (.inr ⟨_,rfl⟩)) (acc:=Ad (n1 t)) (J:=Qs t (Ad (n1 t))) (.inl rfl) (by
   obtain this:=MN (l6 0 (t.length - 1)) (λ i=>Ad (if (t.take (i+2)).drop i=[61,63] then [i,i+1] else [])) 2 (λ i=>by erw[AH];split <;> exact lH rfl)
   rw[List.length_range']at this
   erw[AH];exact hZ (j0 l1 (hZ this (iP 2 (sL hl)))) (by decide))
 replace h2:=sJ oX▸(sJ (AS ..)▸((EZ ..)▸h2))
 obtain h2:Hw t (Ad (n1 t++n2 t)) J':=h2
 have l2:(n1 t++n2 t).length < 64:=by
  have:(AL t).length=(n1 t++n2 t).length+(n3 t).length+(n4 t).length:=by unfold AL;exact i7 hW (rwE hW rfl)
  exact iQ (hZ (jF _ _) (hZ (jF _ _) (j7 this.symm))) hf
 have l3:(n1 t++n2 t++n3 t).length < 64:=by
  have:(AL t).length=(n1 t++n2 t++n3 t).length+(n4 t).length:=by unfold AL;exact hW
  exact iQ (hZ (jF _ _) (j7 this.symm)) hf
 obtain hH:=DX t 1
 obtain hM:=Lo t
 have pre:∀ {res},sq (d+16) (Aj 84) [Aa (bd 84) 2,Aa (bd 84) 3,Aa (bd 84) 4] J' O=res->exs (d+17) (Aj 84) [("words",.val (.str t))] (bd 84) O=res:=fun {res} q=>by
  refine Ac (Ab (J':=Qs t (Ad (n1 t))) (Af (t:=(.lst (Ad (n1 t)),.fresh)) ?_ (Co (d:=d+15) (tgt:=D3 Uj) (it:=Cc Uj) (ifs:=Ol Uj) ?_ ?_ (Mx (as:=C6 (Cc Uj)) (ts:=[(.str t,.val)]) (v:=.str t) (vs:=Dp 0 (t.map fun(c:Nat)=>V.str [c])) ?_ ?_ ?_ ?_ rfl rfl) (R4 (d:=d+3) t)) (Ex ?_ ?_) ?_)
   ((BK ?_ (Bx (as:=AQ (G7 (Aa (bd 84) 1))) (ts:=[(.int ((t.length:Int) - 1),.val)]) ?_ ?_ ?_ hr) h1).trans (thn_nxt rfl q))) <;> nofun
 have A:∀ acc:List Nat,acc.length < 64->∀ x J,Hw t (Ad acc) J->∃ J2,BE J "found" (.own (Ad acc++[.int ((x:Nat):Int)]))=J2/\Hw t (Ad (acc++[x])) J2:=λ acc _ x J h=>by
  clear h1 hl hr l1
  rcases h with rfl | ⟨i,rfl⟩
  ·exact iEA _ rfl (.inl (by erw[AS];rfl))
  ·exact iEA _ rfl (.inr ⟨i,by erw[AS];rfl⟩)
 obtain⟨J2,i2,k2⟩:∃ J2,Hw t (Ad (n1 t++n2 t++n3 t)) J2/\∀ {res},sq (d+16) (Aj 84) [Aa (bd 84) 3,Aa (bd 84) 4] J2 O=res->sq (d+16) (Aj 84) [Aa (bd 84) 2,Aa (bd 84) 3,Aa (bd 84) 4] J' O=res:=by
  obtain ht:Bf (d+16) (Aj 84) J' (Bz (Aa (bd 84) 2)) O=some (.ok (decide (t.take 1=[32])),O):=by
   clear h1 hl hr l1
   rcases h2 with rfl | ⟨i,rfl⟩ <;>
   ·refine AN (a:=(.str (t.take 1),.val)) (b:=(.str [32],.val)) ?_ (DL (t:=(.str t,.val)) (b:=(.int 1,.val)) ?_ ?_ rfl hH) ?_ ?_ <;> nofun
  unfold n3
  by_cases c:t.take 1=[32]
  ·erw[if_pos c]
   replace ht:=(decide_eq_true c)▸ht
   clear h1 hH hl hr l1
   refine A9 (A _ l2 0 J' h2) λ J2 e i2=>iEA J2 i2 (fun {res} q=>An ht (λ _=>thn_nxt (J':=J2) ?_ q) λ z=>(nc j9 z (.refl false)))
   have ho:J'.lookup ("found" : hV)=some (Slot.own (Ad (n1 t++n2 t))):=by rcases h2 with rfl | ⟨i,rfl⟩ <;> nofun
   rcases h2 with rfl | ⟨i,rfl⟩ <;>
   ·refine Ac (AD (AX (ts:=[(.int 0,.val)]) ?_ (Al ?_) (AB ho rfl (Ao (by erw[AH];(first | exact iL (jB l2) | lia))) e))) <;> nofun
  ·erw[if_neg c,iO]
   replace ht:=(decide_eq_false c)▸ht
   exact iEA J' h2 (fun {res} q=>An ht (λ z=>(fls z)) λ _=>thn_nxt (J':=J') rfl q)
 obtain⟨bj,i3,k3⟩:∃ bj,Hw t (Ad (AL t)) bj/\∀ {res},sq (d+16) (Aj 84) [Aa (bd 84) 4] bj O=res->sq (d+16) (Aj 84) [Aa (bd 84) 3,Aa (bd 84) 4] J2 O=res:=by
  have ht:Bf (d+16) (Aj 84) J2 (Bz (Aa (bd 84) 3)) O=some (.ok (decide (t.drop (t.length - 1)=[32])),O):=by
   rcases i2 with rfl | ⟨i,rfl⟩ <;>
   ·refine AN (a:=(.str (t.drop (t.length - 1)),.val)) (b:=(.str [32],.val)) ?_ (EN (t:=(.str t,.val)) (a:=(.int (-1),.val)) ?_ ?_ rfl hM) ?_ ?_ <;> nofun
  unfold AL n4
  by_cases c:t.drop (t.length - 1)=[32]
  ·erw[if_pos c]
   replace ht:=(decide_eq_true c)▸ht
   refine A9 (A _ l3 (t.length - 1) J2 i2) λ bj e i3=>iEA bj i3 (fun {res} q=>An ht (λ _=>thn_nxt (J':=bj) ?_ q) λ z=>(nc j9 z (.refl false)))
   have ho:J2.lookup ("found" : hV)=some (Slot.own (Ad (n1 t++n2 t++n3 t))):=by rcases i2 with rfl | ⟨i,rfl⟩ <;> nofun
   have en:((t.length - 1:Nat):Int)=(t.length:Int) - 1:=by
    have:=congrArg jZ c
    replace this:=iT▸(eqL jA this)
    exact tR (rZ λ z=>by rw[z]at this;cases this)
   rw[en]at e
   rcases i2 with rfl | ⟨i,rfl⟩ <;>
   ·refine Ac (AD (AX (ts:=[(.int ((t.length:Int) - 1),.val)]) ?_ (Al ?_) (AB ho rfl (Ao (by erw[AH];(first | exact iL (jB l3) | lia))) e))) <;> nofun
  ·erw[if_neg c,iO]
   replace ht:=(decide_eq_false c)▸ht
   exact iEA J2 i2 (fun {res} q=>An ht (λ z=>(fls z)) λ _=>thn_nxt (J':=J2) rfl q)
 obtain hb:=KM hf
 refine zk ?_
 refine Ap (fd:=⟨CO 84,[],Aj 84,bd 84⟩) (J:=[("words",.val (.str t))]) (r:=(.ret (.lst (Ad (JU (AL t)))),bj,O)) ?_ ?_ (pre (k2 (k3 (Az (Ax (t:=(.lst (Ad (JU (AL t))),.fresh)) ?_ (Bb (ts:=[(.lst (Ad (AL t)),.bor)]) ?_ (Al ?_) hb) rfl))))) rfl
 ·nofun
 ·nofun
 ·nofun
 ·nofun
 ·clear A h1 h2 hH hM hb hf hl hr i2 k2 k3 l1 l2 l3 pre
  rcases i3 with rfl | ⟨i,rfl⟩ <;> nofun
theorem Rn(o:V)(as:List V):CS o "rfind" as=o.str?.bind λ s=>(three? as).bind λ p=>(sign? p.1).bind λ c=>Cm (λ z n=>if z=0/\0<=n then some (.int (AM c n.toNat 0 s)) else none) p.2.1 p.2.2:=rfl
theorem Ua(o:V)(as:List V):CS o "find" as=o.str?.bind λ s=>(two? as).bind λ p=>(sign? p.1).bind λ c=>p.2.int?.bind λ n=>if 0<=n then some (.int (findFrom c n.toNat 0 s)) else none:=rfl
theorem OP(t:List Nat)(f:Nat):CS (.str t) "rfind" [.str [32],.int 0,.int (f:Nat)]=some (.int (AM 32 f 0 t)):=by
 refine i7 (Rn ..) ?_
 show(if (0:Int)=0/\0<=(f:Int) then some (V.int (AM 32 (f:Int).toNat 0 t)) else none)=_
 exact BX ⟨rfl,iV _⟩ (rwE (iZ ..) rfl)
theorem QD(t:List Nat)(f:Nat):CS (.str t) "find" [.str [32],.int (f:Nat)]=some (.int (findFrom 32 f 0 t)):=by
 refine i7 (Ua ..) ?_
 show(if 0<=(f:Int) then some (V.int (findFrom 32 (f:Int).toNat 0 t)) else none)=_
 exact BX (iV _) (rwE (iZ ..) rfl)
noncomputable def gm(x:Nat)(r:List Nat):Nat:=r.foldl (λ a b=>if b > a then b else a) x
theorem W9{m:Nat}(r:List Nat):∀ x,gm x r < m↔∀ c∈x::r,c < m:=by
 induction r with
 | nil=>exact λ x=>⟨λ h c hc=>((iD).mp hc)▸h,λ h=>h x i8⟩
 | cons y r ih=>
  intro x
  show gm (if y > x then y else x) r < m↔_
  refine Gu (ih ..) ?_
  constructor
  ·intro h c hc
   obtain h0:=h _ i8
   rcases (iJ).mp hc with rfl | hc
   ·split at h0 <;> lia
   ·rcases (iJ).mp hc with rfl | hc
    ·split at h0 <;> lia
    ·exact h c (i9 _ hc)
  ·intro h c hc
   rcases (iJ).mp hc with rfl | hc
   ·split
    ·exact h y (.tail _ (.head _))
    ·exact h x (.head _)
   ·exact h c (.tail _ (.tail _ hc))
theorem VS(r:List Nat):∀ x:Nat,(r.map fun(n:Nat)=>(n:Int)).foldl (λ a b=>if b > a then b else a) (x:Int)=((gm x r:Nat):Int):=by
 induction r with
 | nil=>exact λ _=>rfl
 | cons y r ih=>
  intro x
  show(r.map _).foldl _ (if (y:Int) > (x:Int) then(y:Int) else(x:Int))=((gm (if y > x then y else x) r:Nat):Int)
  by_cases h:y > x
  ·erw[if_pos (by lia),if_pos h];exact ih y
  ·erw[if_neg (by exact λ z=>h ((jU).mp z)),if_neg h];exact ih x
theorem V2(as:List V):Bu "max" as=KN (λ a b=>if b > a then b else a) as:=rfl
theorem Pb(x:Nat)(r:List Nat):Bu "max" [.lst (Ad (x::r))]=some (.int (gm x r:Nat)):=by
 refine i7 (V2 ..) ?_
 show((Ct (Ad (x::r))).bind λ l=>match l with | []=>none | x::r=>some (V.int (r.foldl (λ a b=>if b > a then b else a) x)))=_
 erw[Nw]
 show some (V.int ((r.map fun(n:Nat)=>(n:Int)).foldl _ (x:Int)))=_
 exact rwE (VS ..) rfl
theorem M6(x:Nat):Bu "min" [.lst (Ad [x])]=some (.int (x:Nat)):=rfl
theorem MO(x y:Nat):Bu "min" [.lst (Ad [x,y])]=some (.int (if y < x then y else x:Nat)):=by
 have:Bu "min" [.lst (Ad [x,y])]=some (.int (if (y:Int) < (x:Int) then(y:Int) else(x:Int))):=by kernel_rfl
 refine i7 this ?_
 by_cases h:y < x
 ·exact rwE (if_pos h) (rwE (if_pos ((jU).mpr h)) rfl)
 ·exact rwE (if_neg h) (rwE (if_neg (λ z=>h ((jU).mp z))) rfl)
theorem PI(x:Nat)(r:List Nat):bc (x::r)=if gm x r < 128 then .a else if gm x r < 256 then .l else .u:=by
 have e:∀ k:Cs,((x::r).all k.has=true)↔gm x r < k.most:=λ k=>by
  refine Gu (W9 ..) (Gu jJ ?_)
  exact⟨λ h c hc=>of_decide_eq_true (h c hc),λ h c hc=>decide_eq_true (h c hc)⟩
 unfold bc
 by_cases h1:gm x r < 128
 ·exact rwE (if_pos ((e .a).mpr h1)) (rwE (if_pos h1) rfl)
 ·erw[if_neg (λ z=>h1 ((e .a).mp z)),if_neg h1]
  by_cases h2:gm x r < 256
  ·exact rwE (if_pos ((e .l).mpr h2)) (rwE (if_pos h2) rfl)
  ·exact rwE (if_neg (λ z=>h2 ((e .l).mp z))) (rwE (if_neg h2) rfl)
abbrev OJ(t:List Nat)(W:Int)(v:List Nat):R:=[("words",.val (.str t)),("width",.val (.int W)),("needy",.val (.lst (Ad v)))]
abbrev XD(t:List Nat)(W:Int)(v:List Nat)(a:Int):R:=[("words",.val (.str t)),("width",.val (.int W)),("needy",.val (.lst (Ad v))),("first",.val (.int a))]
abbrev Ta(t:List Nat)(W:Int)(v:List Nat)(a b:Int):R:=[("words",.val (.str t)),("width",.val (.int W)),("needy",.val (.lst (Ad v))),("first",.val (.int a)),("last",.val (.int b))]
abbrev UU(t:List Nat)(W:Int)(v:List Nat)(a b:Int)(m:List Nat):R:=[("words",.val (.str t)),("width",.val (.int W)),("needy",.val (.lst (Ad v))),("first",.val (.int a)),("last",.val (.int b)),("inner",.val (.str m))]
abbrev Yn(t:List Nat)(W:Int)(v:List Nat)(a b:Int)(m:List Nat)(g:Int):R:=[("words",.val (.str t)),("width",.val (.int W)),("needy",.val (.lst (Ad v))),("first",.val (.int a)),("last",.val (.int b)),("inner",.val (.str m)),("greatest",.val (.int g))]
abbrev VQ(t:List Nat)(W:Int)(v:List Nat)(a b:Int)(m:List Nat)(g:Int)(k:Cs):R:=[("words",.val (.str t)),("width",.val (.int W)),("needy",.val (.lst (Ad v))),("first",.val (.int a)),("last",.val (.int b)),("inner",.val (.str m)),("greatest",.val (.int g)),("charset",.val (.str k.name))]
abbrev WF(t:List Nat)(W:Int)(v:List Nat)(a b:Int)(m:List Nat)(g:Int)(k:Cs)(ws:List V):R:=[("words",.val (.str t)),("width",.val (.int W)),("needy",.val (.lst (Ad v))),("first",.val (.int a)),("last",.val (.int b)),("inner",.val (.str m)),("greatest",.val (.int g)),("charset",.val (.str k.name)),("ways",.val (.lst ws))]
abbrev JO(t:List Nat)(W:Int)(v:List Nat)(a b:Int)(m:List Nat)(g:Int)(k:Cs)(ws fs:List V):R:=[("words",.val (.str t)),("width",.val (.int W)),("needy",.val (.lst (Ad v))),("first",.val (.int a)),("last",.val (.int b)),("inner",.val (.str m)),("greatest",.val (.int g)),("charset",.val (.str k.name)),("ways",.val (.lst ws)),("fits",.val (.lst fs))]
abbrev Xz(t:List Nat)(W:Int)(v:List Nat)(a b:Int)(m:List Nat)(g:Int)(k:Cs)(ws fs:List V)(s:List Nat):R:=[("words",.val (.str t)),("width",.val (.int W)),("needy",.val (.lst (Ad v))),("first",.val (.int a)),("last",.val (.int b)),("inner",.val (.str m)),("greatest",.val (.int g)),("charset",.val (.str k.name)),("ways",.val (.lst ws)),("fits",.val (.lst fs)),("shorter",.val (.bytes s))]
section
variable {t:List Nat} {W:Int} {v:List Nat} {a b:Int} {m:List Nat} {g:Int} {k:Cs}
theorem PT{f:Nat}{r:List Nat}(h:AM 32 f 0 t+1=a):Be (d+54) (Aj 85) (OJ t W (f::r)) O (Aa (bd 85) 2)=some (.nxt,XD t W (f::r) a,O):=by
 refine Af (t:=(.int a,.val)) (s:=.val (.int a)) ?_ (Aq (a:=(.int (AM 32 f 0 t),.val)) (b:=(.int 1,.val)) (CG (t:=(.str t,.val)) (ts:=[(.str [32],.val),(.int 0,.val),(.int (f:Nat),.val)]) ?_ ?_ ?_ (DD ?_ ?_ (Ay (t:=(.lst (Ad (f::r)),.val)) (k:=(.int 0,.val)) ?_ ?_ ?_ rfl rfl (C5 (vs:=Ad (f::r)) (pre:=[]) (v:=.int (f:Nat)) (post:=Ad r) rfl))) (OP t f)) ?_ ?_) rfl ?_
 ·nofun
 ·nofun
 ·nofun
 ·nofun
 ·nofun
 ·nofun
 ·nofun
 ·nofun
 ·nofun
 ·nofun
 ·show some (V.int (AM 32 f 0 t+1))=_
  exact rwE h rfl
 ·nofun
theorem SJ{f:Nat}{r:List Nat}(h:(if findFrom 32 (last1 f r+1) 0 t < 0 then(t.length:Int) else findFrom 32 (last1 f r+1) 0 t)=b){rest:List Stmt}{res:St}(q:sq (d+54) (Aj 85) rest (Ta t W (f::r) a b) O=res):sq (d+54) (Aj 85) (Aa (bd 85) 3::Aa (bd 85) 4::rest) (XD t W (f::r) a) O=res:=by
 refine Ab (J':=Ta t W (f::r) a (findFrom 32 (last1 f r+1) 0 t)) ?_ (Ab (J':=Ta t W (f::r) a b) ?_ q)
 ·refine Af (t:=(.int (findFrom 32 (last1 f r+1) 0 t),.val)) (s:=.val (.int (findFrom 32 (last1 f r+1) 0 t))) ?_ (CG (t:=(.str t,.val)) (ts:=[(.str [32],.val),(.int ((last1 f r+1:Nat):Int),.val)]) ?_ ?_ ?_ (AO ?_ (Aq (a:=(.int (last1 f r:Nat),.val)) (b:=(.int 1,.val)) (Ay (t:=(.lst (Ad (f::r)),.val)) (k:=(.int (-1),.val)) ?_ ?_ ?_ rfl rfl (I0 f r)) ?_ ?_)) (QD t (last1 f r+1))) rfl ?_ <;> nofun
 ·refine Af (t:=(.int b,.val)) (s:=.val (.int b)) ?_ (AT (c:=decide (findFrom 32 (last1 f r+1) 0 t < 0)) ?_ (λ q=>?_) λ q=>?_) rfl ?_
  ·nofun
  ·nofun
  ·obtain h:=Gn (of_decide_eq_true q) h
   refine rwS h ?_;kernel_rfl
  ·obtain h:=Fg (of_decide_eq_false q) h
   generalize findFrom 32 (last1 f r+1) 0 t=z at h ⊢
   refine rwS h ?_;nofun
  ·nofun
theorem Pn{a b:Nat}:Be (d+54) (Aj 85) (Ta t W v (a:Nat) (b:Nat)) O (Aa (bd 85) 5)=some (.nxt,UU t W v (a:Nat) (b:Nat) ((t.take b).drop a),O):=by
 refine Af (t:=(.str ((t.take b).drop a),.val)) (s:=.val (.str ((t.take b).drop a))) ?_ (AZ (t:=(.str t,.val)) (a:=(.int (a:Nat),.val)) (b:=(.int (b:Nat),.val)) ?_ ?_ ?_ rfl rfl (DG t a b)) rfl ?_ <;> nofun
def Ql:hJ:=(C6 (D5 (Aa (bd 85) 6))).headD (.Constant .none 0 ⟨0,0,0,0⟩)
theorem WJ{x:Nat}{r:List Nat}:Be (d+54) (Aj 85) (UU t W v a b (x::r)) O (Aa (bd 85) 6)=some (.nxt,Yn t W v a b (x::r) (gm x r:Nat),O):=by
 obtain hc:=BP (d:=d+52) (O:=O) (J:=UU t W v a b (x::r)) (csc:=Gl Ql) (tgt:=D3 Ql) (elt:=G1 Ql) (x:="sign") (f:=fun(n:Nat)=>V.int (n:Int)) (toV:=fun(n:Nat)=>V.str [n]) rfl (x::r)
  (λ n _=>iEA (.int (n:Nat),.val) rfl rfl)
 refine Af (t:=(.int (gm x r:Nat),.val)) (s:=.val (.int (gm x r:Nat))) ?_ (Bb (ts:=[(.lst (Ad (x::r)),.fresh)]) ?_ (Al (Co (tgt:=D3 Ql) (it:=Cc Ql) (ifs:=[]) ?_ ?_ (Bt (t:=(.str (x::r),.val)) (u:=.str (x::r)) (vs:=(x::r).map fun(n:Nat)=>V.str [n]) ?_ ?_ rfl rfl) hc)) (Pb x r)) rfl ?_ <;> nofun
theorem Yl{x:Nat}{r:List Nat}:Be (d+54) (Aj 85) (Yn t W v a b (x::r) (gm x r:Nat)) O (Aa (bd 85) 7)=some (.nxt,VQ t W v a b (x::r) (gm x r:Nat) (bc (x::r)),O):=by
 refine Af (t:=(.str (bc (x::r)).name,.val)) (s:=.val (.str (bc (x::r)).name)) ?_ (AT (c:=decide (((gm x r:Nat):Int) < 128)) ?_ (λ q=>?_) λ q=>AT (c:=decide (((gm x r:Nat):Int) < 256)) ?_ (λ q2=>?_) λ q2=>?_) rfl ?_
 ·nofun
 ·nofun
 ·erw[PI,if_pos (by have:=of_decide_eq_true q;exact (jU).mp this)];nofun
 ·nofun
 ·(erw[PI,if_neg (by obtain this:=of_decide_eq_false q;exact λ z=>this ((jU).mpr z))];erw[if_pos (by obtain this:=of_decide_eq_true q2;exact (jU).mp this)]);nofun
 ·(erw[PI,if_neg (by obtain this:=of_decide_eq_false q;exact λ z=>absurd ((jU).mpr z) (by assumption))];erw[if_neg (by obtain this:=of_decide_eq_false q2;exact λ z=>this ((jU).mpr z))]);nofun
 ·nofun
def Qh:hJ:=D5 (Aa (bd 85) 8)
def Lv:hJ:=D5 (Aa (bd 85) 9)
theorem Ti(hs:∀ c∈m,c∈SG)(hl:m.length<=200)(ha:m.all k.has=true):Be (d+54) (Aj 85) (VQ t W v a b m g k) O (Aa (bd 85) 8)=some (.nxt,WF t W v a b m g k [BM (lws k .q (mw W) m),BM (lws k .b (mw W) m)],O):=by
 obtain hc:=BP (d:=d+53) (O:=O) (J:=VQ t W v a b m g k) (csc:=Gl Qh) (tgt:=D3 Qh) (elt:=G1 Qh) (x:="way") (f:=λ w:Wy=>BM (lws k w (mw W) m)) (toV:=λ w:Wy=>V.str [w.code]) rfl [.q,.b]
  (λ w _=>⟨(BM (lws k w (mw W) m),.val),by
   refine Ar (ts:=[(.str m,.val),(.str k.name,.val),(.str [w.code],.val),(.int (mw W),.val)]) (vs:=[.str m,.str k.name,.str [w.code],.int (mw W)]) ?_ ?_ rfl ((λ w=>XM (d:=d) (O:=O) k w (width:=mw W) hs hl ha) w) <;> nofun,rfl⟩)
 refine Af (t:=(.lst [BM (lws k .q (mw W) m),BM (lws k .b (mw W) m)],.fresh)) (s:=.val (.lst [BM (lws k .q (mw W) m),BM (lws k .b (mw W) m)])) ?_ (Co (tgt:=D3 Qh) (it:=Cc Qh) (ifs:=[]) (vs:=[.str [Wy.q.code],.str [Wy.b.code]]) ?_ ?_ (Bt (t:=(.tup [.str [Wy.q.code],.str [Wy.b.code]],.val)) (u:=.tup [.str [Wy.q.code],.str [Wy.b.code]]) ?_ ?_ rfl rfl) hc) ?_ ?_ <;> nofun
noncomputable def fitsL(os:List (Option (List Nat))):List (List Nat):=os.filterMap id
theorem Tv(os:List (Option (List Nat))):(os.filter (·.isSome)).map BM=bts (fitsL os):=by
 induction os with
 | nil=>rfl
 | cons o os ih=>
  cases o with
  | none=>exact ih
  | some b=>
   show V.bytes b::_=V.bytes b::_
   erw[ih];rfl
theorem TI(os:List (Option (List Nat))):Be (d+54) (Aj 85) (WF t W v a b m g k (os.map BM)) O (Aa (bd 85) 9)=some (.nxt,JO t W v a b m g k (os.map BM) (bts (fitsL os)),O):=by
 obtain hc:=DR (d:=d+53) (O:=O) (J:=WF t W v a b m g k (os.map BM)) (csc:=Gl Lv) (tgt:=D3 Lv) (elt:=G1 Lv) (ifs:=Ol Lv) (xs:=λ o=>[(("way" : hV),BM o)]) (f:=BM) (p:=λ o=>o.isSome) (toV:=BM) os
  (λ o _=>iAA rfl (by cases o <;> nofun) (λ _=>⟨(BM o,.val),by nofun,rfl⟩))
 rw[Tv]at hc
 refine Af (t:=(.lst (bts (fitsL os)),.fresh)) (s:=.val (.lst (bts (fitsL os)))) ?_ (Co (tgt:=D3 Lv) (it:=Cc Lv) (ifs:=Ol Lv) ?_ ?_ (Bt (t:=(.lst (os.map BM),.val)) (u:=.lst (os.map BM)) (vs:=os.map BM) ?_ ?_ rfl rfl) hc) ?_ ?_ <;> nofun
end
noncomputable def subO(e:hJ):hJ:=if h:e.ctorIdx=21 then lS (motive_1:=λ _=>hJ) e h (λ o _ _=>o) else e
noncomputable def cmpR(e:hJ):hJ:=if h:e.ctorIdx=15 then tS (motive_1:=λ _=>hJ) e h (λ _ _ rs _=>rs.headD (.Constant .none 0 ⟨0,0,0,0⟩)) else e
noncomputable def hd1(l:List hJ):hJ:=l.headD (.Constant .none 0 ⟨0,0,0,0⟩)
def KL:hJ:=subO (D5 (Aa (bd 85) 11))
def Rj:hJ:=hd1 (C6 (cmpR (hd1 (Ol KL))))
section
variable {t:List Nat} {W:Int} {v:List Nat} {a b:Int} {m:List Nat} {g:Int} {k:Cs}
theorem P0{ws:List V}{L R:List (List Nat)}{mn:Nat}{s:List Nat}(hm:Bu "min" [.lst (Ad (L.map jZ))]=some (.int (mn:Nat)))(hf:(L.filter λ x=>decide ((x.length:Int)=(mn:Int)))=s::R) :
  Be (d+54) (Aj 85) (JO t W v a b m g k ws (bts L)) O (Aa (bd 85) 11)=some (.nxt,Xz t W v a b m g k ws (bts L) s,O):=by
 obtain hc:=DR (d:=d+52) (O:=O) (J:=JO t W v a b m g k ws (bts L)) (csc:=Gl KL) (tgt:=D3 KL) (elt:=G1 KL) (ifs:=Ol KL) (xs:=λ o:List Nat=>[(("way" : hV),V.bytes o)]) (f:=V.bytes) (p:=λ x=>decide ((x.length:Int)=(mn:Int))) (toV:=V.bytes) L
  (λ o _=>⟨by nofun,by
   obtain fz:=BP (d:=d+49) (O:=O) (J:=("way",.val (.bytes o))::JO t W v a b m g k ws (bts L)) (csc:=Gl Rj) (tgt:=D3 Rj) (elt:=G1 Rj) (x:="one") (f:=λ o:List Nat=>V.int (o.length:Nat)) (toV:=V.bytes) rfl L
    (λ o' _=>iEA (.int (o'.length:Nat),.val) rfl rfl)
   obtain e5:(L.map λ o:List Nat=>V.int (o.length:Nat))=Ad (L.map jZ):=by unfold Ad;erw[jR];rfl
   rw[e5]at fz
   refine Jn (AN (a:=(.int (o.length:Nat),.val)) (b:=(.int (mn:Nat),.val)) ?_ ?_ (Bb (ts:=[(.lst (Ad (L.map jZ)),.fresh)]) ?_ (Al (Co (tgt:=D3 Rj) (it:=Cc Rj) (ifs:=[]) ?_ ?_ (Bt (t:=(.lst (bts L),.val)) (u:=.lst (bts L)) (vs:=L.map V.bytes) ?_ ?_ rfl rfl) fz)) hm) ?_) <;> nofun,λ _=>iEA (.bytes o,.val) rfl rfl⟩)
 rw[hf]at hc
 obtain i1:=C5 (vs:=(s::R).map V.bytes) (pre:=[]) (v:=.bytes s) (post:=R.map V.bytes) rfl
 refine Af (t:=(.bytes s,.val)) (s:=.val (.bytes s)) ?_ (Ay (t:=(.lst ((s::R).map V.bytes),.fresh)) (k:=(.int 0,.val)) ?_ (Co (tgt:=D3 KL) (it:=Cc KL) (ifs:=Ol KL) ?_ ?_ (Bt (t:=(.lst (bts L),.val)) (u:=.lst (bts L)) (vs:=L.map V.bytes) ?_ ?_ rfl rfl) hc) ?_ rfl rfl i1) rfl ?_ <;> nofun
end
theorem sh_pick(o1 o2:Option (List Nat)):(sh o1 o2=none/\fitsL [o1,o2]=[])\/∃ s R mn,sh o1 o2=some s/\fitsL [o1,o2]≠[]/\Bu "min" [.lst (Ad ((fitsL [o1,o2]).map jZ))]=some (.int (mn:Nat))/\((fitsL [o1,o2]).filter λ x=>decide ((x.length:Int)=(mn:Int)))=s::R:=by
 cases o1 with
 | none=>cases o2 with
  | none=>exact .inl ⟨rfl,rfl⟩
  | some b=>exact .inr (CH b [] b.length rfl (mB _ _) (M6 _) (kS (decide_eq_true rfl)))
 | some a=>cases o2 with
  | none=>exact .inr (CH a [] a.length rfl (mB _ _) (M6 _) (kS (decide_eq_true rfl)))
  | some b=>
   by_cases h:b.length < a.length
   ·refine .inr (CH b [] b.length (by show some (if b.length < a.length then b else a)=_;exact rwE (if_pos h) rfl) (mB _ _) ?_ ?_)
    ·obtain this:=MO a.length b.length
     rw[if_pos h]at this
     exact this
    ·show List.filter _ [a,b]=_
     exact i7 (mF (λ z=>by obtain this:=of_decide_eq_true z;exact absurd (Int.ofNat_inj.mp this) (tZ h))) (kS (decide_eq_true rfl))
   ·refine .inr (CH a (List.filter (λ x=>decide ((x.length:Int)=(a.length:Int))) [b]) a.length (by show some (if b.length < a.length then b else a)=_;exact rwE (if_neg h) rfl) (mB _ _) ?_ ?_)
    ·obtain this:=MO a.length b.length
     rw[if_neg h]at this
     exact this
    ·exact kS (decide_eq_true rfl)
def shl(t:List Nat)(W:Int):Option (List Nat):=sh (lws (bc t) .q (mw W) t) (lws (bc t) .b (mw W) t)
def YO(t:List Nat)(W:Int)(a b:Nat):V:=if AL t=[] then .bytes t else match shl ((t.take b).drop a) W with
 | some s=>.bytes (t.take a++s++t.drop b)
 | none=>.str [102,97,117,108,116]
structure Ww(t:List Nat)(W:Int)(a b:Nat):Prop where
 sg:∀ c∈t,c∈SG
 len:t.length<=200
 few:(AL t).length < 64
 plain:AL t=[]->t.all Cs.a.has=true
 pre:(t.take a).all Cs.a.has=true
 post:(t.drop b).all Cs.a.has=true
 ends:∀ f r,JU (AL t)=f::r->AM 32 f 0 t+1=(a:Int)/\(if findFrom 32 (last1 f r+1) 0 t < 0 then(t.length:Int) else findFrom 32 (last1 f r+1) 0 t)=(b:Int)
 inner:AL t≠[]->(t.take b).drop a≠[]
 short:∀ s,shl ((t.take b).drop a) W=some s->s.length<=1000000
theorem SH{l:List Nat}(h:JU l=[]):l=[]:=by
 cases l with
 | nil=>rfl
 | cons x r=>
  have:∀ l,T6 x l≠[]:=λ l=>by
   cases l with
   | nil=>exact λ z=>(nc l7 z (.refl false))
   | cons y r=>rw[Jk];split <;> exact λ z=>(nc l7 z (.refl false))
  exact absurd h (this _)
theorem UR{t:List Nat}{W:Int}{a b:Nat}(K:Ww t W a b):cl (d+56) "_law_due" [.str t,.int W] O=some (.ok (YO t W a b),O):=by
 obtain h0:=p_ln (d:=d+35) (O:=O) K.len K.few
 have e0:Be (d+54) (Aj 85) [("words",.val (.str t)),("width",.val (.int W))] O (Aa (bd 85) 0)=some (.nxt,OJ t W (JU (AL t)),O):=by
  refine Af (t:=(.lst (Ad (JU (AL t))),.val)) (s:=.val (.lst (Ad (JU (AL t))))) ?_ (Ar (ts:=[(.str t,.val)]) (vs:=[.str t]) ?_ (Al ?_) rfl h0) rfl ?_ <;> nofun
 obtain e1:Bf (d+54) (Aj 85) (OJ t W (JU (AL t))) (Bz (Aa (bd 85) 1)) O=some (.ok (Ad (JU (AL t))).isEmpty,O):=rfl
 have fin:∀ {v J'} ,sq (d+54) (Aj 85) (bd 85) [("words",.val (.str t)),("width",.val (.int W))] O=some (.ret v,J',O)->cl (d+56) "_law_due" [.str t,.int W] O=some (.ok v,O):=fun {v J'} q=>by
  refine Ap (fd:=⟨CO 85,[],Aj 85,bd 85⟩) (J:=[("words",.val (.str t)),("width",.val (.int W))]) (r:=(.ret v,J',O)) ?_ ?_ (Ac q) rfl <;> nofun
 unfold YO
 cases hn:JU (AL t) with
 | nil=>
  obtain aM:=SH hn
  erw[if_pos aM]
  rw[hn]at e0 e1
  refine fin (J':=OJ t W []) (Ab e0 (An (c:=true) e1 (λ _=>BQ (r:=(.ret (.bytes t),OJ t W [],O)) (Ac (Az (Ax (t:=(.bytes t,.val)) ?_ (Ar (ts:=[(.str Cs.a.name,.val),(.str t,.val)]) (vs:=[.str Cs.a.name,.str t]) ?_ (AO ?_ ?_) rfl (EL (d:=d+22) (O:=O) K.sg (hZ K.len (by decide)) (K.plain aM))) rfl))) rfl) λ q=>(nc j9 q (.refl false)))) <;> nofun
 | cons f r=>
  have aM:AL t≠[]:=λ z=>by rw[z]at hn;exact nc l7 hn (.refl false)
  erw[if_neg aM]
  rw[hn]at e0 e1
  refine qA (K.ends f r hn) λ hx hy=>Ha (oQ (K.inner aM)) λ x xs hm=>?_
  have sm:∀ c∈(t.take b).drop a,c∈SG:=λ c hc=>K.sg c (jW (k9 hc))
  obtain lm:((t.take b).drop a).length<=200:=by erw[jA,iY];obtain this:=K.len;exact(sM this)
  obtain bM:=K.short
  obtain hin:=Pn (d:=d) (O:=O) (t:=t) (W:=W) (v:=f::r) (a:=a) (b:=b)
  rw[hm]at sm lm bM hin ⊢
  obtain hbc:=GJ sm
  obtain hw:=Ti (d:=d) (O:=O) (t:=t) (W:=W) (v:=f::r) (a:=a) (b:=b) (g:=(gm x xs:Nat)) sm lm hbc
  obtain hfi:=TI (d:=d) (O:=O) (t:=t) (W:=W) (v:=f::r) (a:=a) (b:=b) (m:=x::xs) (g:=(gm x xs:Nat)) (k:=bc (x::xs)) [lws (bc (x::xs)) .q (mw W) (x::xs),lws (bc (x::xs)) .b (mw W) (x::xs)]
  have pre:∀ {res},sq (d+54) (Aj 85) [Aa (bd 85) 10,Aa (bd 85) 11,Aa (bd 85) 12] (JO t W (f::r) a b (x::xs) (gm x xs:Nat) (bc (x::xs)) ([lws (bc (x::xs)) .q (mw W) (x::xs),lws (bc (x::xs)) .b (mw W) (x::xs)].map BM) (bts (fitsL [lws (bc (x::xs)) .q (mw W) (x::xs),lws (bc (x::xs)) .b (mw W) (x::xs)]))) O=res->sq (d+54) (Aj 85) (bd 85) [("words",.val (.str t)),("width",.val (.int W))] O=res:=fun {res} q=>
   Ab e0 (An (c:=false) e1 (λ q=>(fls q)) λ _=>thn_nxt (J':=OJ t W (f::r)) rfl (Ab (PT hx) (SJ hy (Ab hin (Ab WJ (Ab Yl (Ab hw (Ab hfi q))))))))
  rcases sh_pick (lws (bc (x::xs)) .q (mw W) (x::xs)) (lws (bc (x::xs)) .b (mw W) (x::xs)) with ⟨p1,p2⟩| ⟨s,R,mn,p1,p2,p3,p4⟩
  ·erw[(show shl (x::xs) W=none from p1)]
   rw[p2]at pre
   refine fin (J':=JO t W (f::r) a b (x::xs) (gm x xs:Nat) (bc (x::xs)) ([lws (bc (x::xs)) .q (mw W) (x::xs),lws (bc (x::xs)) .b (mw W) (x::xs)].map BM) []) (pre (An (c:=true) ?_ (λ _=>BQ (r:=(.ret (.str [102,97,117,108,116]),JO t W (f::r) a b (x::xs) (gm x xs:Nat) (bc (x::xs)) ([lws (bc (x::xs)) .q (mw W) (x::xs),lws (bc (x::xs)) .b (mw W) (x::xs)].map BM) [],O)) ?_ rfl) λ q=>(nc j9 q (.refl false)))) <;> nofun
  ·obtain hz:=bM s p1
   erw[(show shl (x::xs) W=some s from p1)]
   generalize fitsL [lws (bc (x::xs)) .q (mw W) (x::xs),lws (bc (x::xs)) .b (mw W) (x::xs)]=L at pre p2 p3 p4
   generalize [lws (bc (x::xs)) .q (mw W) (x::xs),lws (bc (x::xs)) .b (mw W) (x::xs)].map BM=ws at pre
   have gb:Bf (d+54) (Aj 85) (JO t W (f::r) a b (x::xs) (gm x xs:Nat) (bc (x::xs)) ws (bts L)) (Bz (Aa (bd 85) 10)) O=some (.ok false,O):=by
    refine Ha (oQ p2) λ l L' aa=>rwE aa ?_
    nofun
   obtain gS:=P0 (d:=d) (O:=O) (t:=t) (W:=W) (v:=f::r) (a:=a) (b:=b) (m:=x::xs) (g:=(gm x xs:Nat)) (k:=bc (x::xs)) (ws:=ws) p3 p4
   obtain l1:(t.take a).length<=200:=by erw[iY];obtain this:=K.len;exact(mR this)
   obtain l2:(t.drop b).length<=200:=by erw[jA];obtain this:=K.len;exact(sL this)
   generalize gm x xs=g at pre gb gS
   generalize bc (x::xs)=k at pre gb gS
   refine fin (J':=Xz t W (f::r) a b (x::xs) (g:Nat) k ws (bts L) s) (pre (An (c:=false) gb (λ q=>(fls q)) λ _=>thn_nxt (J':=JO t W (f::r) a b (x::xs) (g:Nat) k ws (bts L)) rfl (Ab gS (Az (Ax (t:=(.bytes (t.take a++s++t.drop b),.val)) ?_ (Aq (a:=(.bytes (t.take a++s),.val)) (b:=(.bytes (t.drop b),.val)) (Aq (a:=(.bytes (t.take a),.val)) (b:=(.bytes s,.val)) (Ar (ts:=[(.str Cs.a.name,.val),(.str (t.take a),.val)]) (vs:=[.str Cs.a.name,.str (t.take a)]) ?_ (AO ?_ (DL (t:=(.str t,.val)) (b:=(.int (a:Nat),.val)) ?_ ?_ rfl (DX t a))) rfl (EL (d:=d+21) (O:=O) (λ c hc=>K.sg c (jW hc)) (by erw[iY];obtain this:=K.len;exact(mR (hZ this (by decide)))) K.pre)) ?_ (add_bytes2 (Ai (hZ (j0 l1 hz) (by decide)))))
    (Ar (ts:=[(.str Cs.a.name,.val),(.str (t.drop b),.val)]) (vs:=[.str Cs.a.name,.str (t.drop b)]) ?_ (AO ?_ (EN (t:=(.str t,.val)) (a:=(.int (b:Nat),.val)) ?_ ?_ rfl (Ih t b))) rfl (EL (d:=d+22) (O:=O) (λ c hc=>K.sg c (k9 hc)) (by erw[jA];obtain this:=K.len;exact(sL (hZ this (by decide)))) K.post)) (add_bytes2 (by erw[hW];exact Ai (hZ (j0 (j0 l1 hz) l2) (by decide))))) rfl))))) <;> nofun
section
variable {α β:Type} {cG:A4} {b:List Stmt}
theorem FA(h:Be d sc J O st=some (.nxt,J',O'))(k:sq d sc rest J' O'=res):sq d sc (st::rest) J O=res:=by
 show(Be d sc J O st).bind _=_
 exact rwE h k
theorem LN{v:V}(h:Be d sc J O st=some (.ret v,J',O')):sq d sc (st::rest) J O=some (.ret v,J',O'):=by
 show(Be d sc J O st).bind _=_
 rw[h];rfl
theorem Rs{r:Fl×R×A4}(h:Be d sc J O st=some r):sq d sc [st] J O=some r:=by
 show(Be d sc J O st).bind _=_
 erw[h]
 clear h
 obtain⟨fl,J',O'⟩:=r
 cases fl <;> rfl
theorem FO{o:St}(h:o=some (.nxt,J',O'))(k:sq d sc rest J' O'=res):Q8 d sc rest o=res:=by erw[h];exact k
theorem Di{m:Mo α}{f:α->Mo β}{a:α}{o:Option (Out β×A4)}(h:m O=some (.ok a,O'))(k:f a O'=o):Mo.bind m f O=o:=by
 unfold Mo.bind;erw[h];exact k
theorem Jz{e:hJ}{p:Pos}{t:TV}{v:V}(hn:D6 sc J e=none)(h:ev d sc J e O=some (.ok t,O'))(hv:valOf t=some v):Be d sc J O (.Return (some e) p)=some (.ret v,J,O'):=by
 show(match D6 sc J e with | some v=>some (Fl.ret v,J,O) | none=>liftE (ev d sc J e) J O λ t O=>(valOf t).bind λ v=>some (Fl.ret v,J,O))=_
 erw[hn]
 unfold liftE
 erw[h]
 show(valOf t).bind _=_
 erw[hv];rfl
theorem Li{x:hV}{p q q' kp:Pos}{k:Nat}{kn:Nat}{e:hJ}{v:V}(hc:(okName x&&Ah (sc.names.lookup x)&&BI e)=true)(h:ev d sc J e O=some (.ok (v,.val),O'))(hx:J.lookup x=some (.val .pen))(hk:k < O'.length)(fH:k < 1000) :
  Be d sc J O (.Assign [.Subscript (.Name x p) (.Constant (.int (k:Int)) kn kp) q] e q')=some (.nxt,J,O'.set k v):=by
 show(if okName x&&Ah (sc.names.lookup x)&&BI e then liftE (ev d sc J e) J O (λ t O'=>V9 G.gl sc J O' x (.Constant (.int (k:Int)) kn kp) t) else none)=_
 rw[if_pos hc]
 unfold liftE
 erw[h]
 show(J.lookup x).bind _=_
 rw[hx]
 show(if HQ.val = .val/\0<=(k:Int)/\(k:Int).toNat < O'.length/\(k:Int) < 1000 then some (Fl.nxt,J,O'.set (k:Int).toNat v) else none)=_
 rw[if_pos (GL rfl (iV _) (by erw[iZ];exact hk) (by exact (jU).mpr (by assumption))),iZ]
theorem FH{f:hV}{p q:Pos}{as:List hJ}{ts:List TV}{vs:List V}{v:V}(hc:((AR sc f&&noStar as&&(Bn.contains f||(G.fn f).isSome))&&!(Bn.contains f)&&!(f=="dict"))=true)
  (ha:Mo.mapM (ev d sc J) as O=some (.ok ts,O')) (hv:BN ts=some vs) (h:cl d f vs O'=some (.ok v,O'')):ev (d+1) sc J (.Call (.Name f p) as [] q) O=some (.ok (v,.val),O''):=by
 rw[iC,iC,jO,jO]at hc
 show(if (AR sc f&&noStar as&&(Bn.contains f||(G.fn f).isSome))=true then Mo.bind (.mapM (ev d sc J) as) λ ts=>Cv (cl d) f ts else Mo.fail) O=_
 refine rwE (if_pos hc.1.1) (Di ha ?_)
 unfold Cv
 (erw[if_neg (λ e=>by obtain hc:=e▸hc;exact absurd hc.2 (by decide)),hc.1.2];erw[if_neg iX,hv])
 exact Di h rfl
theorem Vb{l r:hJ}{op:Operator}{p:Pos}{a b:TV}{c:V}(h1:ev d sc J l O=some (.ok a,O'))(h2:ev d sc J r O'=some (.ok b,O''))(h3:A1 op a.1 b.1=some c):ev (d+1) sc J (.BinOp l op r p) O=some (.ok (AI c),O''):=
 Di h1 (Di h2 (by erw[h3];rfl))
theorem MQ{f:hV}{fd:Ev}{vs:List V}{r:Fl×R×A4}{o:Out V×A4}(hf:G.fn f=some fd)(hb:bindA fd vs=some J)(h:exs d fd.scope J fd.body O=some r)(ho:outF (some r)=some o):cl (d+1) f vs O=some o:=Ap hf hb h ho
theorem MR{a b:Int}(h:b≠0):A1 .Mod (.int a) (.int b)=some (.int (a.fmod b)):=by
 exact BX h rfl
theorem PD{a b:Int}(h:b≠0)(h2:b.natAbs < 2 ^ 64):A1 .FloorDiv (.int a) (.int b)=some (.int (a.fdiv b)):=by
 exact BX ⟨h,h2⟩ rfl
theorem QP{a b:Int}(h:a.natAbs < 2 ^ 64\/b.natAbs < 2 ^ 64):A1 .Mult (.int a) (.int b)=some (.int (a * b)):=by
 exact BX h rfl
theorem UM{a:Int}{n:Nat}(hn:n<=100)(h:a.natAbs < 2 ^ 64):A1 .Pow (.int a) (.int (n:Int))=some (.int (a ^ n)):=by
 exact BX (iAA (iV _) (jG ((kC).mpr hn) (by decide)) h) (rwE (iZ ..) rfl)
end
theorem TX(l:List Int):Ct (l.map .int)=some l:=by
 induction l with
 | nil=>rfl
 | cons c l ih=>
  show((Ct (l.map .int)).map _)=_
  erw[ih];rfl
noncomputable def pen(cs:List Int)(s x:Int):A4:=[.lst (cs.map .int),.int s,.int x]
def Xx:hJ:=hd1 (Vg Sq)
theorem Xh(l:List Int):ev 12 (Iv "_law_pen").scope [("script",.val (.lst (l.map .int)))] Sq []=some (.ok (.lst (pen (l.take 40) 0 0),.fresh),[]):=by
 obtain hc:=BP (d:=10) (O:=[]) (J:=[("script",.val (.lst (l.map .int)))]) (csc:=Gl Xx) (tgt:=D3 Xx) (elt:=G1 Xx) (x:="cell") (f:=V.int) (toV:=V.int) rfl (l.take 40)
  (λ n _=>iEA (.int n,.val) rfl rfl)
 obtain hs:Bo (.lst (l.map .int)) none (some ((40:Nat):Int))=some (.lst ((l.take 40).map .int)):=by
  show some (V.lst (Au (l.map .int) _ _))=_
  unfold Au hiOf loOf
  dsimp only
  (erw[Cu,sK];erw[tE])
  by_cases h:40<=(l.map V.int).length
  ·exact rwE (kO h) rfl
  ·(erw[kU (jQ h),n0];exact rwE (kK (jQ h)) rfl)
 refine JQ (ts:=[(.lst ((l.take 40).map .int),.fresh),(.int 0,.val),(.int 0,.val)]) ?_ (DD (Co (tgt:=D3 Xx) (it:=Cc Xx) (ifs:=[]) ?_ ?_ (Bt (t:=(.lst ((l.take 40).map .int),.fresh)) (u:=.lst ((l.take 40).map .int)) (vs:=(l.take 40).map V.int) ?_ (DL (t:=(.lst (l.map .int),.val)) (b:=(.int ((40:Nat):Int),.val)) ?_ ?_ rfl hs) rfl rfl) hc) ?_ ?_) rfl (Ai (by decide:3<=2000000)) <;> nofun
theorem Ks(a:Int){m:Nat}(h:0 < m):∃ n:Nat,n < m/\a.fmod (m:Int)=(n:Int):=by
 obtain h1:=qH a ((jU).mpr (by assumption))
 obtain h2:=sE a ((jU).mpr h)
 exact⟨(a.fmod m).toNat,by exact(nY h1).mpr h2,by exact(pH h1).symm⟩
theorem Mq(l:List Int)(k:Nat):Bo (.lst (l.map .int)) none (some (k:Int))=some (.lst ((l.take k).map .int)):=by
 show some (V.lst (Au (l.map .int) _ _))=_
 unfold Au hiOf loOf
 dsimp only
 (erw[Cu,sK];erw[tE])
 by_cases h:k<=(l.map V.int).length
 ·exact rwE (kO h) rfl
 ·(erw[kU (jQ h),n0];exact rwE (kK (jQ h)) rfl)
theorem Q0(l:List Int):Bu "sum" [.lst (l.map .int)]=some (.int l.sum):=by
 refine i7 (PE ..) ?_
 show(Ct (l.map .int)).map _=_
 erw[TX];rfl
noncomputable abbrev WZ(m:Nat):R:=[("pen",.val .pen),("many",.val (.int (m:Nat)))]
noncomputable abbrev TN(m s:Nat):R:=[("pen",.val .pen),("many",.val (.int (m:Nat))),("spot",.val (.int (s:Nat)))]
noncomputable abbrev UW(m:Nat)(g:Int):R:=[("pen",.val .pen),("many",.val (.int (m:Nat))),("digit",.val (.int g))]
noncomputable abbrev HO(m s:Nat)(c:Int):R:=[("pen",.val .pen),("many",.val (.int (m:Nat))),("spot",.val (.int (s:Nat))),("cell",.val (.int c))]
noncomputable abbrev VC(m s:Nat)(c g:Int):R:=[("pen",.val .pen),("many",.val (.int (m:Nat))),("spot",.val (.int (s:Nat))),("cell",.val (.int c)),("great",.val (.int g))]
noncomputable abbrev RU(m s:Nat)(c g:Int):R:=[("pen",.val .pen),("many",.val (.int (m:Nat))),("spot",.val (.int (s:Nat))),("cell",.val (.int c)),("stirred",.val (.int g))]
section
variable {cs:List Int} {s m:Nat} {x c g:Int}
theorem PC(h0:0 < m)(hm:m<=1000):exs (d+14) (Aj 78) (WZ m) (Hl (Aa (bd 78) 0)) (pen cs s x)=some (.ret (.int (x.fmod m)),UW m (x.fmod m),pen cs s (x.fdiv m)):=by
 refine Ac (Ab (J':=UW m (x.fmod m)) (Af (t:=(.int (x.fmod m),.val)) (s:=.val (.int (x.fmod m))) ?_ (Aq (a:=(.int x,.val)) (b:=(.int (m:Nat),.val)) ?_ ?_ (MR (by grind):A1 .Mod (.int x) (.int (m:Nat))=some (.int (x.fmod m)))) rfl ?_)
  (FA (J':=UW m (x.fmod m)) (O':=pen cs s (x.fdiv m)) (Li (k:=2) (v:=.int (x.fdiv m)) ?_ (Aq (a:=(.int x,.val)) (b:=(.int (m:Nat),.val)) ?_ ?_ (PD (by grind) (naC hm (by decide)):A1 .FloorDiv (.int x) (.int (m:Nat))=some (.int (x.fdiv m)))) ?_ ?_ ?_) ?_))
 ·nofun
 ·kernel_rfl
 ·nofun
 ·nofun
 ·nofun
 ·nofun
 ·nofun
 ·nofun
 ·exact(by decide:2 < 3)
 ·decide
 ·nofun
theorem Rb:Be (d+14) (Aj 78) (TN m s) (pen cs ((s+1:Nat):Int) x) (Aa (bd 78) 3)=some (.nxt,HO m s (20947 * (s:Int)+3571+((cs.take 1).sum).fmod 1000003),pen cs ((s+1:Nat):Int) x):=by
 refine Af (t:=(.int (20947 * (s:Int)+3571+((cs.take 1).sum).fmod 1000003),.val)) (s:=.val (.int (20947 * (s:Int)+3571+((cs.take 1).sum).fmod 1000003))) ?_ (Aq (a:=(.int (20947 * (s:Int)+3571),.val)) (b:=(.int (((cs.take 1).sum).fmod 1000003),.val)) ?_ (Aq (a:=(.int (cs.take 1).sum,.val)) (b:=(.int 1000003,.val)) (Bb (ts:=[(.int (cs.take 1).sum,.val)]) ?_ (Al (Bb (ts:=[(.lst ((cs.take 1).map .int),.fresh)]) ?_ (Al (DL (t:=(.lst (cs.map .int),.val)) (b:=(.int ((1:Nat):Int),.val)) ?_ ?_ rfl (Mq cs 1))) (Q0 (cs.take 1)))) ?_) ?_ ?_) ?_) rfl ?_ <;> nofun
theorem Ug:∃ c:Int,∀ {res},sq (d+14) (Aj 78) [Aa (bd 78) 5,Aa (bd 78) 6,Aa (bd 78) 7,Aa (bd 78) 8] (HO m s c) (pen cs ((s+1:Nat):Int) x)=res ->
  sq (d+14) (Aj 78) [Aa (bd 78) 3,Aa (bd 78) 4,Aa (bd 78) 5,Aa (bd 78) 6,Aa (bd 78) 7,Aa (bd 78) 8] (TN m s) (pen cs ((s+1:Nat):Int) x)=res:=by
 obtain e0:=Rb (d:=d) (cs:=cs) (s:=s) (m:=m) (x:=x)
 generalize 20947 * (s:Int)+3571+((cs.take 1).sum).fmod 1000003=c0 at e0
 cases cs with
 | nil=>exact⟨c0,fun {res} q=>Ab e0 (An (c:=false) rfl (λ q=>(fls q)) λ _=>thn_nxt (J':=HO m s c0) rfl q)⟩
 | cons y ys=>
  refine AK λ Z zk=>A9 (Ks (s:Int) (m:=(y::ys).length) (kZ _)) λ n hn cO=>?_
  obtain⟨c,hc⟩:∃ c,(y::ys)[n]?=some c:=⟨_,jM hn⟩
  obtain hi:Bg (.lst ((y::ys).map .int)) (n:Int)=some (.int c):=by
   show(if (0:Int)<=(n:Int) then(if (n:Int) < (((y::ys).map V.int).length:Int) then some (n:Int).toNat else none) else _).bind (λ k=>((y::ys).map V.int)[k]?)=_
   (erw[if_pos (iV _),if_pos (by refine rwE (iH ..) ?_;exact (jU).mpr (by assumption))];erw[iZ])
   refine i7 kX (rwE hc ?_);rfl
  obtain ai:Bu "len" [.lst ((y::ys).map .int)]=some (.int ((y::ys).length:Nat)):=by
   have:Bu "len" [.lst ((y::ys).map .int)]=some (.int (((y::ys).map V.int).length:Nat)):=rfl
   exact i7 this (rwE (iH ..) rfl)
  refine zk ?_
  refine⟨c,fun {res} q=>Ab e0 (An (c:=true) rfl (λ _=>thn_nxt (J':=HO m s c) (Ac (AD (Af (t:=(.int c,.val)) (s:=.val (.int c)) ?_ (Ay (t:=(.lst ((y::ys).map .int),.val)) (k:=(.int (n:Int),.val)) ?_ ?_ (Aq (a:=(.int (s:Nat),.val)) (b:=(.int ((y::ys).length:Nat),.val)) ?_ (Bb (ts:=[(.lst ((y::ys).map .int),.val)]) ?_ (Al (by kernel_rfl:ev (d+10) (Aj 78) (HO m s c0) (hd1 (C6 (GG (WL (D5 (Aa (Hl (Aa (bd 78) 4)) 0)))))) (pen (y::ys) ((s+1:Nat):Int) x)=some (.ok (.lst ((y::ys).map .int),.val),pen (y::ys) ((s+1:Nat):Int) x))) ai) (by exact i7 (MR (by simp only[i6];lia)) (rwE cO rfl):A1 .Mod (.int (s:Nat)) (.int ((y::ys).length:Nat))=some (.int (n:Int)))) rfl rfl hi) rfl ?_))) q) λ q=>(nc j9 q (.refl false)))⟩ <;> nofun
theorem Rc(h0:0 < m)(hm:m<=1000):∃ g:Int,exs (d+14) (Aj 78) (HO m s c) (Hl (Aa (bd 78) 5)) (pen cs ((s+1:Nat):Int) x)=some (.ret (.int (g.fmod m)),VC m s c g,pen cs ((s+1:Nat):Int) (g.fdiv m)):=by
 refine⟨2 * ((c.natAbs:Int) - 1000000000000000000)+(if decide (c < 0)=true then 1 else 0),?_⟩
 obtain e0:Be (d+13) (Aj 78) (HO m s c) (pen cs ((s+1:Nat):Int) x) (Aa (Hl (Aa (bd 78) 5)) 0)=some (.nxt,VC m s c (2 * ((c.natAbs:Int) - 1000000000000000000)+(if decide (c < 0)=true then 1 else 0)),pen cs ((s+1:Nat):Int) x):=rfl
 generalize 2 * ((c.natAbs:Int) - 1000000000000000000)+(if decide (c < 0)=true then 1 else 0)=g at e0 ⊢
 refine Ac (Ab e0 (FA (J':=VC m s c g) (O':=pen cs ((s+1:Nat):Int) (g.fdiv m)) (Li (k:=2) (v:=.int (g.fdiv m)) ?_ (Aq (a:=(.int g,.val)) (b:=(.int (m:Nat),.val)) ?_ ?_ (PD (by lia) (naC hm (by decide)):A1 .FloorDiv (.int g) (.int (m:Nat))=some (.int (g.fdiv m)))) ?_ ?_ ?_) (LN (Jz (t:=(.int (g.fmod m),.val)) ?_ (Aq (a:=(.int g,.val)) (b:=(.int (m:Nat),.val)) ?_ ?_ (MR (by lia):A1 .Mod (.int g) (.int (m:Nat))=some (.int (g.fmod m)))) rfl))))
 ·nofun
 ·nofun
 ·nofun
 ·nofun
 ·exact(by decide:2 < 3)
 ·decide
 all_goals nofun
theorem T7(h0:0 < m)(hs:s<=1000){O:A4}:∃ g g2:Int,sq (d+14) (Aj 78) [Aa (bd 78) 6,Aa (bd 78) 7,Aa (bd 78) 8] (HO m s c) O=some (.ret (.int (g.fmod m)),RU m s c g2,O):=by
 obtain u0:=qH c (show(0:Int) < 2147483587 by decide)
 obtain u1:=sE c (show(0:Int) < 2147483587 by decide)
 obtain e1:Be (d+14) (Aj 78) (HO m s c) O (Aa (bd 78) 6)=some (.nxt,RU m s c (((c.fmod 2147483587+20947 * (s:Int)+3571) ^ 5).fmod 2147483629),O):=by
  refine Af (t:=(.int (((c.fmod 2147483587+20947 * (s:Int)+3571) ^ 5).fmod 2147483629),.val)) (s:=.val (.int (((c.fmod 2147483587+20947 * (s:Int)+3571) ^ 5).fmod 2147483629))) ?_ (Aq (a:=(.int ((c.fmod 2147483587+20947 * (s:Int)+3571) ^ 5),.val)) (b:=(.int 2147483629,.val)) (Bb (ts:=[(.int ((c.fmod 2147483587+20947 * (s:Int)+3571) ^ 5),.val)]) ?_ (Al (Aq (a:=(.int (c.fmod 2147483587+20947 * (s:Int)+3571),.val)) (b:=(.int ((5:Nat):Int),.val)) ?_ ?_ (UM (by decide) (by lia):A1 .Pow (.int (c.fmod 2147483587+20947 * (s:Int)+3571)) (.int ((5:Nat):Int))=some (.int ((c.fmod 2147483587+20947 * (s:Int)+3571) ^ 5))))) ?_) ?_ ?_) rfl ?_ <;> nofun
 generalize (c.fmod 2147483587+20947 * (s:Int)+3571) ^ 5=z at e1
 obtain v0:=qH z (show(0:Int) < 2147483629 by decide)
 obtain v1:=sE z (show(0:Int) < 2147483629 by decide)
 generalize z.fmod 2147483629=y at e1 v0 v1
 obtain m1:A1 .Mult (.int y) (.int (2 * (s:Int)+7207))=some (.int (y * (2 * (s:Int)+7207))):=QP (.inl (by lia))
 obtain m2:A1 .Mult (.int (20947 * (s:Int))) (.int (s:Nat))=some (.int (20947 * (s:Int) * s)):=QP (.inl (by lia))
 obtain k1:y * (2 * (s:Int)+7207)<=2147483629 * 9207:=Int.mul_le_mul (rX (by assumption)) (by lia) (iV _) (by decide)
 obtain k2:0<=y * (2 * (s:Int)+7207):=Int.mul_nonneg v0 (iV _)
 obtain k3:20947 * (s:Int) * s<=20947000 * 1000:=Int.mul_le_mul (by lia) ((kC).mpr hs) (iV _) (by decide)
 obtain k4:0<=20947 * (s:Int) * s:=Int.mul_nonneg (iV _) (iV _)
 obtain p2:A1 .Pow (.int (y * (2 * (s:Int)+7207)+20947 * (s:Int) * s+31)) (.int ((3:Nat):Int))=some (.int ((y * (2 * (s:Int)+7207)+20947 * (s:Int) * s+31) ^ 3)):=UM (by decide) (by lia)
 obtain e2:Be (d+14) (Aj 78) (RU m s c y) O (Aa (bd 78) 7)=some (.nxt,RU m s c (((y * (2 * (s:Int)+7207)+20947 * (s:Int) * s+31) ^ 3).fmod 2147483579),O):=by
  refine Af (t:=(.int (((y * (2 * (s:Int)+7207)+20947 * (s:Int) * s+31) ^ 3).fmod 2147483579),.val)) (s:=.val (.int (((y * (2 * (s:Int)+7207)+20947 * (s:Int) * s+31) ^ 3).fmod 2147483579))) ?_ (Aq (a:=(.int ((y * (2 * (s:Int)+7207)+20947 * (s:Int) * s+31) ^ 3),.val)) (b:=(.int 2147483579,.val)) (Bb (ts:=[(.int ((y * (2 * (s:Int)+7207)+20947 * (s:Int) * s+31) ^ 3),.val)]) ?_ (Al (Aq (a:=(.int (y * (2 * (s:Int)+7207)+20947 * (s:Int) * s+31),.val)) (b:=(.int ((3:Nat):Int),.val)) (Aq (a:=(.int (y * (2 * (s:Int)+7207)+20947 * (s:Int) * s),.val)) (b:=(.int 31,.val)) (Aq (a:=(.int (y * (2 * (s:Int)+7207)),.val)) (b:=(.int (20947 * (s:Int) * s),.val)) (Aq (a:=(.int y,.val)) (b:=(.int (2 * (s:Int)+7207),.val)) ?_ ?_ m1) (Aq (a:=(.int (20947 * (s:Int)),.val)) (b:=(.int (s:Nat),.val)) ?_ ?_ m2) ?_) ?_ ?_) ?_ p2)) ?_) ?_ ?_) rfl ?_ <;> nofun
 generalize ((y * (2 * (s:Int)+7207)+20947 * (s:Int) * s+31) ^ 3).fmod 2147483579=q at e2
 refine(RF (q.fdiv 32) q (Ab e1 (Ab e2 (Az (Ax (t:=(.int ((q.fdiv 32).fmod m),.val)) ?_ (Aq (a:=(.int (q.fdiv 32),.val)) (b:=(.int (m:Nat),.val)) ?_ ?_ (MR (by lia):A1 .Mod (.int (q.fdiv 32)) (.int (m:Nat))=some (.int ((q.fdiv 32).fmod m)))) rfl))))) <;> nofun
theorem Jq(h0:0 < m)(hm:m<=1000)(hs:s<=1000):∃ (n s':Nat) (x':Int),n < m/\s'<=s+1/\cl (d+16) "_law_draw" [.pen,.int (m:Nat)] (pen cs s x)=some (.ok (.int (n:Nat)),pen cs s' x'):=by
 have fin:∀ {g:Int} {s':Nat} {x'} {J'},s'<=s+1->sq (d+14) (Aj 78) (bd 78) (WZ m) (pen cs s x)=some (.ret (.int (g.fmod m)),J',pen cs s' x')->∃ (n s':Nat) (x':Int),n < m/\s'<=s+1/\cl (d+16) "_law_draw" [.pen,.int (m:Nat)] (pen cs s x)=some (.ok (.int (n:Nat)),pen cs s' x'):=fun {g s' x' J'} h1 q=>by
  refine A9 (Ks g h0) λ n hn e=>?_
  rw[e]at q
  refine(GE n s' x' hn h1 (Ap (fd:=⟨CO 78,[],Aj 78,bd 78⟩) (J:=WZ m) (r:=(.ret (.int (n:Int)),J',pen cs s' x')) ?_ ?_ (Ac q) rfl)) <;> nofun
 obtain t0:Bf (d+14) (Aj 78) (WZ m) (Bz (Aa (bd 78) 0)) (pen cs s x)=some (.ok (decide (x > 0)),pen cs s x):=rfl
 by_cases hx:x > 0
 ·rw[decide_eq_true hx]at t0
  exact fin (g:=x) (m8 s) (An t0 (λ _=>BQ (PC h0 hm) rfl) λ q=>(nc j9 q (.refl false)))
 ·rw[decide_eq_false hx]at t0
  obtain⟨c,hc⟩:=Ug (d:=d) (cs:=cs) (m:=m) (x:=x)
  obtain⟨g,hg⟩:=Rc (d:=d) (cs:=cs) (s:=s) (m:=m) (x:=x) (c:=c) h0 hm
  obtain⟨g1,g2,hg1⟩:=T7 (d:=d) (s:=s) (m:=m) (c:=c) h0 hs (O:=pen cs ((s+1:Nat):Int) x)
  obtain e1:=rfl
  obtain e2:Be (d+14) (Aj 78) (TN m s) (pen cs s x) (Aa (bd 78) 2)=some (.nxt,TN m s,pen cs ((s+1:Nat):Int) x):=by
   refine Li (k:=1) (O':=pen cs s x) (v:=.int ((s+1:Nat):Int)) ?_ ?_ ?_ ?_ ?_
   ·kernel_rfl
   ·nofun
   ·nofun
   ·exact(by decide:1 < 3)
   ·decide
  obtain t5:Bf (d+14) (Aj 78) (HO m s c) (Bz (Aa (bd 78) 5)) (pen cs ((s+1:Nat):Int) x)=some (.ok (decide ((s:Int) < ((cs.map V.int).length:Int))&&decide ((c.natAbs:Int) >= 1000000000000000000)),pen cs ((s+1:Nat):Int) x):=by
   refine Ba ?_ λ _=>?_ <;> nofun
  cases hb:(decide ((s:Int) < ((cs.map V.int).length:Int))&&decide ((c.natAbs:Int) >= 1000000000000000000)) with
  | true=>
   rw[hb]at t5
   exact fin (g:=g) (j3 _) (An t0 (λ q=>(fls q)) λ _=>FO (J':=WZ m) rfl (Ab e1 (FA e2 (hc (An t5 (λ _=>BQ hg rfl) λ q=>(nc j9 q (.refl false)))))))
  | false=>
   rw[hb]at t5
   exact fin (g:=g1) (j3 _) (An t0 (λ q=>(fls q)) λ _=>FO (J':=WZ m) rfl (Ab e1 (FA e2 (hc (An t5 (λ q=>(fls q)) λ _=>FO (J':=HO m s c) rfl hg1)))))
end
section
variable {α β:Type} {cG:A4} {b:List Stmt}
variable {v:V} {xs:List (hV×V)}
theorem So{o i:hJ}{p:Pos}{t k:TV}{j:Int}{u:V}(hc:((D8 i).isNone&&(Ig o i).isNone&&DK i)=true)(h1:ev d sc J o O=some (.ok t,O))(h2:ev d sc J i O=some (.ok k,O'))(hp:t.1.isPen=false)(hj:k.1.int?=some j)(h:Bg t.1 j=some u) :
  ev (d+1) sc J (.Subscript o i p) O=some (.ok (u,.val),O'):=by
 simp only[iC,jD]at hc
 refine qA hc λ aa c3=>?_;obtain⟨c1,c2⟩:=aa
 show(match D8 i with
  | some (lo,hi)=>Mo.bind (ev d sc J o) λ t=>.bind (Fu (ev d) sc J lo) λ l=>.bind (Fu (ev d) sc J hi) λ h=>.lift ((Bo t.1 l h).map AI)
  | none=>_) O=_
 erw[c1];dsimp only
 erw[c2];dsimp only
 refine rwE (if_pos c3) (As h1 (Di h2 ?_))
 unfold IG
 (erw[hp,if_neg iX];erw[hj])
 show Mo.lift ((Bg t.1 j).map _) O'=_
 erw[h];rfl
theorem O5{e:hJ}{t:TV}(h:ev d sc J e O=some (.ok t,O')):Mo.mapM (ev d sc J) [e] O=some (.ok [t],O'):=Di h rfl
theorem Lr{e1 e2:hJ}{t1 t2:TV}(h1:ev d sc J e1 O=some (.ok t1,O'))(h2:ev d sc J e2 O'=some (.ok t2,O'')):Mo.mapM (ev d sc J) [e1,e2] O=some (.ok [t1,t2],O''):=Di h1 (Di (Di h2 rfl) rfl)
theorem U4{e1 e2 e3:hJ}{t1 t2 t3:TV}  (h1:ev d sc J e1 O=some (.ok t1,O')) (h2:ev d sc J e2 O'=some (.ok t2,O'')) (h3:ev d sc J e3 O''=some (.ok t3,cG)):Mo.mapM (ev d sc J) [e1,e2,e3] O=some (.ok [t1,t2,t3],cG):=
 Di h1 (Di (Lr h2 h3) rfl)
theorem NQ{e:hJ}{as:List hJ}{ts:List TV}(hr:CX sc e=some as)(hn:Eb tgt=true)(ha:Mo.mapM (ev d sc J) as O=some (.ok ts,O'))(h:BW (ts.map (·.1))=some vs):By (ev d) sc J tgt e O=some (.ok vs,O'):=by
 unfold By
 erw[hr];dsimp only
 exact rwE (if_pos hn) (Di ha (by erw[h];rfl))
theorem SN{it:hJ}{bk:List Stmt}{p:Pos}{items:List V}{r:Fl×R×A4}(hc:(bk.isEmpty&&F6 sc tgt)=true)(h:By (ev d) sc J tgt it O=some (.ok items,O'))(k:Bh (exs d) sc tgt body items J O'=some r) :
  sq d sc (.For tgt it body bk p::rest) J O=Q8 d sc rest (some r):=by
 show(if (bk.isEmpty&&F6 sc tgt)=true then liftE (By (ev d) sc J tgt it) J O (λ items O=>Bh (exs d) sc tgt body items J O) else none).bind _=_
 erw[if_pos hc]
 unfold liftE
 erw[h]
 dsimp only
 erw[k];rfl
theorem Sv(ht:AJ tgt v=some xs)(hb:Xf sc (Aw J (xs.map λ p=>(p.1,Slot.val p.2))) body O=some (.nxt,J',O'))(k:Bh Xf sc tgt body vs J' O'=res):Bh Xf sc tgt body (v::vs) J O=res:=by
 show((AJ tgt v).bind _)=_
 erw[ht]
 show((Xf sc _ body O).bind _)=_
 exact rwE hb k
theorem Sx{x m:hV}{p ap q q':Pos}{as:List hJ}{ts:List TV}(hc:(okName x&&Ah (sc.names.lookup x)&&De J x&&C4 m&&(ap.endLine==q.line)&&decide (as.length < 30)&&noStar as)=true)
  (ha:Mo.mapM (ev d sc J) as O=some (.ok ts,O')) (h:Hr J x m ts=some J'):Be d sc J O (.Expr (.Call (.Attribute (.Name x p) m ap) as [] q) q')=some (.nxt,J',O'):=by
 refine BX hc ?_
 unfold liftE
 erw[ha]
 show(Hr J x m ts).map _=_
 erw[h];rfl
end
noncomputable abbrev pkE(vs:List V):R:=[("pen",.val .pen),("some",.val (.lst vs))]
theorem LK{cs:List Int}{s:Nat}{x:Int}{vs:List V}(h0:vs≠[])(hm:vs.length<=1000)(hs:s<=1000):∃ (v:V) (s':Nat) (x':Int),v∈vs/\s'<=s+1/\cl (d+20) "_law_pick" [.pen,.lst vs] (pen cs s x)=some (.ok v,pen cs s' x'):=by
 refine BJ (Jq (d:=d) (cs:=cs) (s:=s) (m:=vs.length) (x:=x) ((rS).mpr h0) hm hs) λ n s' x' h1 h2 h3=>?_
 obtain hi:Bg (.lst vs) (n:Int)=some vs[n]:=by
  show(if (0:Int)<=(n:Int) then(if (n:Int) < (vs.length:Int) then some (n:Int).toNat else none) else _).bind (λ k=>vs[k]?)=_
  (erw[if_pos (iV _),if_pos ((jU).mpr (by assumption))];erw[iZ])
  exact jM h1
 refine(GE (vs[n]) s' x' (List.getElem_mem h1) h2 (MQ (fd:=⟨CO 79,[],Aj 79,bd 79⟩) (J:=pkE vs) (r:=(.ret vs[n],pkE vs,pen cs s' x')) ?_ ?_ (Ac (LN (Jz (t:=(vs[n],.val)) ?_ (So (t:=(.lst vs,.val)) (k:=(.int (n:Int),.val)) ?_ ?_ (FH (ts:=[(.pen,.val),(.int (vs.length:Nat),.val)]) (vs:=[.pen,.int (vs.length:Nat)]) ?_ ?_ rfl h3) rfl rfl hi) rfl))) rfl)) <;> nofun
noncomputable def RW:List (List Nat):=[[97],[],[97,98,45,99,100,46],[61,63],[61],[63,61],[233,116,233],[8364,8364,8364],[128512,128512],[120,9,121],j1 12 66,j1 6 252]
noncomputable def sts(l:List (List Nat)):List V:=l.map .str
theorem Qd(l:List (List Nat)):Dc (sts l)=some l:=by
 induction l with
 | nil=>rfl
 | cons c l ih=>
  show((Dc (sts l)).map _)=_
  erw[ih];rfl
theorem NH(l:List (List Nat))(h:(l.map jZ).sum+l.length<=Ae):CS (.str [32]) "join" [.lst (sts l)]=some (.str (joinL [32] l)):=by
 refine i7 (Jv ..) ?_
 show((Dc (sts l)).bind λ l=>if B2 1 l then some (V.str (joinL [32] l)) else none)=_
 (refine rwE (Qd ..) (i7 (kN ..) ?_);exact BX (by unfold B2;erw[tC];exact h) rfl)
abbrev ltE(rs:List (List Nat)):R:=[("pen",.val .pen),("rows",.own (sts rs))]
abbrev ltE0(rs:List (List Nat))(i:Int):R:=[("pen",.val .pen),("rows",.own (sts rs)),("lap",.val (.int i))]
abbrev Lj(rs:List (List Nat))(i:Int):R:=[("pen",.val .pen),("rows",.own (sts rs)),("lap",.val (.int i)),("some",.val (.lst (sts RW)))]
def Qv(rs:List (List Nat))(J:R):Prop:=J=ltE rs\/∃ i,J=Lj rs i
def ltB:List Stmt:=Cl (Aa (bd 86) 1)
theorem Sl{cs:List Int}{s:Nat}{x i:Int}{rs:List (List Nat)}{J:R}(aj:Qv rs J)(hs:s<=900)(hz:rs.length<=900):∃ (r:List Nat) (s':Nat) (x':Int),r∈RW/\s'<=s+1 /\
  exs (d+24) (Aj 86) (Aw J [("lap",.val (.int i))]) ltB (pen cs s x)=some (.nxt,Lj (rs++[r]) i,pen cs s' x'):=by
 refine BJ (LK (d:=d+2) (cs:=cs) (s:=s) (x:=x) (vs:=sts RW) (λ z=>(nc l7 z (.refl false))) (by decide) (iL hs)) λ v s' x' h1 h2 h3=>A9 ((jV).mp h1) λ r hr aa=>?_;subst aa
 have e1:∃ J1,Aw J [("lap",.val (.int i))]=J1/\Be (d+23) (Aj 86) J1 (pen cs s x) (Aa ltB 0)=some (.nxt,Lj rs i,pen cs s x):=by
  rcases aj with rfl | ⟨j,rfl⟩
  ·exact iEA (ltE0 rs i) rfl rfl
  ·exact iEA (Lj rs i) rfl rfl
 refine A9 e1 λ J1 e0 e1=>?_
 obtain e2:BE (Lj rs i) "rows" (.own (sts rs++[V.str r]))=Lj (rs++[r]) i:=by
  have:sts (rs++[r])=sts rs++[V.str r]:=k8
  show _=[_,_,_,_]
  erw[this];nofun
 refine GE r s' x' hr h2 (rwE e0 ?_)
 refine Ac (FA e1 (Rs (Sx (ts:=[(.str r,.val)]) ?_ (O5 (FH (ts:=[(.pen,.val),(.lst (sts RW),.val)]) (vs:=[.pen,.lst (sts RW)]) ?_ ?_ rfl h3)) (AB (vs:=sts rs) ?_ rfl (Ao (by(rw[sts];erw[iH]);exact iL hz)) e2)))) <;> nofun
theorem RQ{cs:List Int}(n:Nat):∀ {a s:Nat} {x:Int} {rs:List (List Nat)} {J:R},Qv rs J->s+n<=900->rs.length+n<=900->(∀ r∈rs,r∈RW)->∃ (eP:List (List Nat)) (s':Nat) (x':Int) (J':R),(∀ r∈eP,r∈RW)/\eP.length=rs.length+n/\s'<=s+n/\Qv eP J' /\
  Bh (exs (d+24)) (Aj 86) (Ck (Aa (bd 86) 1)) ltB (IW a n) J (pen cs s x)=some (.nxt,J',pen cs s' x'):=by
 induction n with
 | zero=>intro a s x rs J h _ _ hr;exact iEEEEAAAA rs s x J hr rfl (j3 _) h rfl
 | succ n ih=>
  intro a s x rs J h hs hz hr
  refine AK λ Z zk=>BJ (Sl (d:=d) (cs:=cs) (s:=s) (x:=x) (i:=(a:Nat)) h (jY hs) (jY hz)) λ r s1 x1 h1 h2 h3=>?_
  obtain⟨eP,s',x',J',k1,k2,k3,k4,k5⟩:=ih (a:=a+1) (s:=s1) (x:=x1) (rs:=rs++[r]) (J:=Lj (rs++[r]) (a:Nat)) (.inr ⟨_,rfl⟩) (by lia) (by erw[hW,iT];lia) (λ y hy=>((jX).mp hy).elim (hr y) λ hy=>((iD).mp hy)▸h1)
  refine zk (iEEEEAAAA eP s' x' J' k1 (by(refine i7 k2 (rwE hW ?_);erw[iT]);exact kI _ _ _) (by lia) k4 ?_)
  exact rwE (FU ..) (Sv (xs:=[("lap",.int (a:Nat))]) (by kernel_rfl) h3 k5)
theorem Q7:∀ r∈RW,r.length<=12:=by decide
theorem VX{cs:List Int}{s:Nat}{x:Int}(hs:s<=500):∃ (rs:List (List Nat)) (s':Nat) (x':Int),(∀ r∈rs,r∈RW)/\rs.length<=5/\s'<=s+6/\cl (d+26) "_law_text" [.pen] (pen cs s x)=some (.ok (.str (joinL [32] rs)),pen cs s' x'):=by
 refine AK λ Z zk=>BJ (Jq (d:=d+7) (cs:=cs) (s:=s) (m:=6) (x:=x) (by decide) (by decide) (iL hs)) λ n s1 x1 h1 h2 h3=>?_
 obtain⟨rs,s',x',J',k1,k2,k3,k4,k5⟩:=RQ (d:=d) (cs:=cs) n (a:=0) (s:=s1) (x:=x1) (rs:=[]) (J:=ltE []) (.inl rfl) (by lia) (by erw[iM];lia) (λ _ h=>(by cases h))
 rw[iM,kF]at k2
 obtain hr:=C3 n (iL (jB h1))
 have hj:=NH rs (by
  have:=FX rs 12 λ r hr=>Q7 r (k1 r hr)
  exact Ai (by lia))
 refine zk ?_
 refine CH rs s' x' k1 (by lia) (by lia) (MQ (fd:=⟨CO 86,[],Aj 86,bd 86⟩) (J:=[("pen",.val .pen)]) (r:=(.ret (.str (joinL [32] rs)),J',pen cs s' x')) ?_ ?_ (Ac (Ab (J':=ltE []) ?_ ((SN ?_ (NQ (as:=AQ (G7 (Aa (bd 86) 1))) (ts:=[(.int (n:Nat),.val)]) ?_ ?_ (O5 (FH (ts:=[(.pen,.val),(.int (6:Nat),.val)]) (vs:=[.pen,.int (6:Nat)]) ?_ ?_ rfl h3)) hr) k5).trans (FO rfl (LN (Jz (t:=(.str (joinL [32] rs),.val)) ?_ (CG (t:=(.str [32],.val)) (ts:=[(.lst (sts rs),.bor)]) ?_ ?_ ?_ (Al ?_) hj) rfl)))))) rfl)
 ·nofun
 ·nofun
 ·nofun
 ·nofun
 ·nofun
 ·nofun
 ·nofun
 ·nofun
 ·nofun
 ·nofun
 ·nofun
 ·nofun
 ·clear h1 h2 h3 hj hr hs k1 k2 k3 k5
  rcases k4 with rfl | ⟨i,rfl⟩ <;> nofun
theorem eq_bytes(s:List Nat):CK .Eq (.bytes s) (.bytes s)=some true:=by
 show some (decide (s=s))=_
 rw[decide_eq_true rfl]
abbrev ohE(k:Cs)(t w:List Nat):R:=[("words",.val (.str t)),("charset",.val (.str k.name)),("way",.val (.str w))]
abbrev LQ(k:Cs)(t w:List Nat)(h:V):R:=[("words",.val (.str t)),("charset",.val (.str k.name)),("way",.val (.str w)),("heard",.val h)]
abbrev Rm(k:Cs)(t w:List Nat)(h:V)(m:Int):R:=[("words",.val (.str t)),("charset",.val (.str k.name)),("way",.val (.str w)),("heard",.val h),("most",.val (.int m))]
abbrev NN(k:Cs)(t w:List Nat)(h:V)(m:Int)(v:V):R:=[("words",.val (.str t)),("charset",.val (.str k.name)),("way",.val (.str w)),("heard",.val h),("most",.val (.int m)),("due",.val v)]
def UF:hJ:=YC (Yk (D5 (Aa (bd 87) 3)))
theorem Pm(k:Cs){t w:List Nat}{o:Option (List Nat)}(h:cl (d+48) "encoded_word" [.str t,.str k.name,.str w] O=Ib o O):Be (d+50) (Aj 87) (ohE k t w) O (Aa (bd 87) 0)=some (.nxt,LQ k t w (BM o),O):=by
 obtain hh:hand? (TE (Aa (bd 87) 0))=some (("MimeFault" : hV),Rd (Aa (bd 87) 0)):=by kernel_rfl
 cases o with
 | some b=>
  refine Mp hh ?_ (Ac (AD (Af (t:=(.bytes b,.val)) (s:=.val (.bytes b)) ?_ (Ar (ts:=[(.str t,.val),(.str k.name,.val),(.str w,.val)]) (vs:=[.str t,.str k.name,.str w]) ?_ (DD ?_ ?_ ?_) rfl h) rfl ?_))) <;> kernel_rfl
 | none=>
  refine HG hh ?_ (Ac (Ht (Es ?_ (EO (ts:=[(.str t,.val),(.str k.name,.val),(.str w,.val)]) (vs:=[.str t,.str k.name,.str w]) ?_ (DD ?_ ?_ ?_) rfl h)))) ?_ ?_ <;> kernel_rfl
theorem Vx(k:Cs)(t:List Nat):((t.filter fun(c:Nat)=>decide ((c:Int) > ((k.most - 1:Nat):Int))).map fun(n:Nat)=>V.str [n]).isEmpty=t.all k.has:=by
 refine rwS (GY ..) ?_
 obtain e:∀ c:Nat,decide ((c:Int) > ((k.most - 1:Nat):Int)) = !(k.has c):=λ c=>by
  refine rwS decide_not ?_
  obtain hm:0 < k.most:=by cases k <;> decide
  exact decide_eq_decide.mpr (by omega)
 exact rwE (funext e) rfl
theorem SQ(k:Cs){t w:List Nat}{h:V}:ev (d+48) (Aj 87) (Rm k t w h ((k.most - 1:Nat):Int)) UF O=some (.ok (.lst ((t.filter fun(c:Nat)=>decide ((c:Int) > ((k.most - 1:Nat):Int))).map fun(n:Nat)=>V.str [n]),.fresh),O):=by
 obtain hc:=DR (d:=d+47) (O:=O) (J:=Rm k t w h ((k.most - 1:Nat):Int)) (csc:=Gl UF) (tgt:=D3 UF) (elt:=G1 UF) (ifs:=Ol UF) (xs:=fun(n:Nat)=>[(("sign" : hV),V.str [n])]) (f:=fun(n:Nat)=>V.str [n]) (p:=fun(c:Nat)=>decide ((c:Int) > ((k.most - 1:Nat):Int))) (toV:=fun(n:Nat)=>V.str [n]) t
  (λ n _=>iAA (by kernel_rfl) (by kernel_rfl) (λ _=>⟨(.str [n],.val),by kernel_rfl,rfl⟩))
 refine Co (tgt:=D3 UF) (it:=Cc UF) (ifs:=Ol UF) ?_ ?_ (Bt (t:=(.str t,.val)) (u:=.str t) (vs:=t.map fun(n:Nat)=>V.str [n]) ?_ ?_ rfl rfl) hc <;> kernel_rfl
theorem MD(k:Cs)(w:Wy){t:List Nat}(hs:∀ c∈t,c∈SG)(hl:t.length<=200):cl (d+52) "_law_one_holds" [.str t,.str k.name,.str [w.code]] O=some (.ok (.bool true),O):=by
 have h0:=Pm (d:=d) (O:=O) k (W7 k w hs hl)
 have h1:Bf (d+50) (Aj 87) (LQ k t [w.code] (BM (ew k w t))) (Bz (Aa (bd 87) 1)) O=some (.ok false,O):=by cases w <;> kernel_rfl
 obtain h2:Be (d+50) (Aj 87) (LQ k t [w.code] (BM (ew k w t))) O (Aa (bd 87) 2)=some (.nxt,Rm k t [w.code] (BM (ew k w t)) ((k.most - 1:Nat):Int),O):=by cases k <;> kernel_rfl
 obtain h3:=SQ (d:=d) (O:=O) k (t:=t) (w:=[w.code]) (h:=BM (ew k w t))
 obtain ha:=Vx k t
 have fin:∀ {J'},sq (d+50) (Aj 87) [Aa (bd 87) 3,Aa (bd 87) 4] (Rm k t [w.code] (BM (ew k w t)) ((k.most - 1:Nat):Int)) O=some (.ret (.bool true),J',O)->cl (d+52) "_law_one_holds" [.str t,.str k.name,.str [w.code]] O=some (.ok (.bool true),O):=fun {J'} q=>by
  refine Ap (fd:=⟨CO 87,[],Aj 87,bd 87⟩) (J:=ohE k t [w.code]) (r:=(.ret (.bool true),J',O)) ?_ ?_ (Ac (Ab h0 (An h1 (λ q=>(fls q)) λ _=>thn_nxt (J':=LQ k t [w.code] (BM (ew k w t))) rfl (Ab h2 q)))) rfl <;> kernel_rfl
 have ht:Bf (d+49) (Aj 87) (Rm k t [w.code] (BM (ew k w t)) ((k.most - 1:Nat):Int)) (Yk (D5 (Aa (bd 87) 3))) O=some (.ok (t.all k.has),O):=by
  refine rwS ha ?_
  refine AN (a:=(.lst ((t.filter fun(c:Nat)=>decide ((c:Int) > ((k.most - 1:Nat):Int))).map fun(n:Nat)=>V.str [n]),.fresh)) (b:=(.lst [],.fresh)) ?_ h3 ?_ ?_ <;> kernel_rfl
 cases h:t.all k.has with
 | false=>
  rw[h]at ht
  have e:ew k w t=none:=by unfold ew;exact rwE (if_neg (λ q=>iX (h.symm.trans q.1))) rfl
  rw[e]at fin ht
  refine fin (J':=NN k t [w.code] .none ((k.most - 1:Nat):Int) .none) (Ab (J':=NN k t [w.code] .none ((k.most - 1:Nat):Int) .none) (Af (t:=(.none,.val)) (s:=.val .none) ?_ (AT ht (λ q=>(fls q)) λ _=>?_) rfl ?_) ?_) <;> kernel_rfl
 | true=>
  rw[h]at ht
  obtain hw:=Hd (d:=d+2) (O:=O) k w hs hl h
  by_cases hn:(wd k w t).length<=75
  ·obtain e:ew k w t=some (wd k w t):=by unfold ew;exact BX ⟨h,hn⟩ rfl
   rw[e]at fin ht
   obtain he:=eq_bytes (wd k w t)
   refine fin (J':=NN k t [w.code] (.bytes (wd k w t)) ((k.most - 1:Nat):Int) (.bytes (wd k w t))) (Ab (J':=NN k t [w.code] (.bytes (wd k w t)) ((k.most - 1:Nat):Int) (.bytes (wd k w t))) (Af (t:=(.bytes (wd k w t),.val)) (s:=.val (.bytes (wd k w t))) ?_ (AT ht (λ _=>Ar (ts:=[(.str t,.val),(.str k.name,.val),(.str [w.code],.val)]) (vs:=[.str t,.str k.name,.str [w.code]]) ?_ ?_ rfl hw) λ q=>(nc j9 q (.refl false))) rfl ?_)
    (Az (Ax (t:=(.bool true,.val)) ?_ (ev_cmp1 (a:=(.bytes (wd k w t),.val)) (b:=(.bytes (wd k w t),.val)) ?_ ?_ (AT (c:=true&&decide (((wd k w t).length:Int) < 76)) (Ba (a:=true) (b:=decide (((wd k w t).length:Int) < 76)) ?_ λ _=>?_) (λ _=>?_) λ q=>?_) he) rfl)))
   ·kernel_rfl
   ·kernel_rfl
   ·kernel_rfl
   ·kernel_rfl
   ·kernel_rfl
   ·kernel_rfl
   ·kernel_rfl
   ·kernel_rfl
   ·kernel_rfl
   ·kernel_rfl
   ·obtain this:=of_decide_eq_false q;omega
  ·obtain e:ew k w t=none:=by unfold ew;exact rwE (if_neg (λ q=>hn q.2)) rfl
   rw[e]at fin ht
   refine fin (J':=NN k t [w.code] .none ((k.most - 1:Nat):Int) (.bytes (wd k w t))) (Ab (J':=NN k t [w.code] .none ((k.most - 1:Nat):Int) (.bytes (wd k w t))) (Af (t:=(.bytes (wd k w t),.val)) (s:=.val (.bytes (wd k w t))) ?_ (AT ht (λ _=>Ar (ts:=[(.str t,.val),(.str k.name,.val),(.str [w.code],.val)]) (vs:=[.str t,.str k.name,.str [w.code]]) ?_ ?_ rfl hw) λ q=>(nc j9 q (.refl false))) rfl ?_)
    (Az (Ax (t:=(.bool true,.val)) ?_ (ev_cmp1 (a:=(.none,.val)) (b:=(.none,.val)) ?_ ?_ (AT (c:=true&&decide (((wd k w t).length:Int) < 76)) (Ba (a:=true) (b:=decide (((wd k w t).length:Int) < 76)) ?_ λ _=>?_) (λ q=>?_) λ _=>?_) ?_) rfl)))
   ·kernel_rfl
   ·kernel_rfl
   ·kernel_rfl
   ·kernel_rfl
   ·kernel_rfl
   ·kernel_rfl
   ·kernel_rfl
   ·kernel_rfl
   ·kernel_rfl
   ·obtain this:=of_decide_eq_true q;omega
   ·kernel_rfl
   ·kernel_rfl
theorem GO(k:Cs){t:List Nat}{c:Nat}(hc:c∈[113,88]):cl (d+52) "_law_one_holds" [.str t,.str k.name,.str [c]] O=some (.ok (.bool true),O):=by
 obtain h0:=Pm (d:=d) (O:=O) k (t:=t) (w:=[c]) (o:=none) (LB k c hc)
 obtain h1:∀ c∈[113,88],sq (d+50) (Aj 87) [Aa (bd 87) 1,Aa (bd 87) 2,Aa (bd 87) 3,Aa (bd 87) 4] (LQ k t [c] (BM none)) O=some (.ret (.bool true),LQ k t [c] (BM none),O):=by
  repeat (refine (iK).mpr ⟨by kernel_rfl,?_⟩)
  exact λ _ h=>nomatch h
 refine Ap (fd:=⟨CO 87,[],Aj 87,bd 87⟩) (J:=ohE k t [c]) (r:=(.ret (.bool true),LQ k t [c] (BM none),O)) ?_ ?_ (Ac (Ab h0 (h1 c hc))) rfl <;> kernel_rfl
theorem SM{l m r:hJ}{o1 o2:CmpOp}{p:Pos}{a b c:TV}{x y:Bool}(hs:BC [m,r]=true)(h1:ev d sc J l O=some (.ok a,O))(h2:ev d sc J m O=some (.ok b,O))(h3:ev d sc J r O=some (.ok c,O))(h4:CK o1 a.1 b.1=some x)(h5:CK o2 b.1 c.1=some y) :
  ev (d+1) sc J (.Compare l [o1,o2] [m,r] p) O=some (.ok (.bool (x&&y),.val),O):=by
 show(if BC [m,r]=true then Mo.bind (ev d sc J l) λ a=>.bind (B3 (ev d) sc J a.1 [o1,o2] [m,r]) λ b=>.ret (V.bool b,HQ.val) else Mo.fail) O=_
 refine rwE (if_pos hs) (As h1 (As (m:=B3 (ev d) sc J a.1 [o1,o2] [m,r]) (a:=x&&y) (As (m:=ev d sc J m) h2 (As (a:=x) (by erw[h4];rfl) ?_)) rfl))
 clear h1 h2 h4 hs
 cases x with
 | true=>exact As (m:=ev d sc J r) h3 (by erw[h5];rfl)
 | false=>rfl
noncomputable def ws(c:Nat):Bool:=(decide (33<=c)&&decide (c<=126))&&!(decide (c=63))
theorem p_ws(c:Nat):cl (d+10) "is_word_sign" [.int (c:Nat)] O=some (.ok (.bool (ws c)),O):=by
 refine Ap (fd:=⟨CO 67,[],Aj 67,bd 67⟩) (J:=[("code",.val (.int (c:Nat)))]) (r:=(.ret (.bool (ws c)),[("code",.val (.int (c:Nat)))],O)) ?_ ?_ (Ac (Az (Ax (t:=(.bool (ws c),.val)) ?_ (SI (a:=decide (33<=c)&&decide (c<=126)) (b:=!(decide (c=63))) (SM (a:=(.int 33,.val)) (b:=(.int (c:Nat),.val)) (c:=(.int 126,.val)) (x:=decide (33<=c)) (y:=decide (c<=126)) ?_ ?_ ?_ ?_ ?_ ?_) λ _=>ev_cmp1 (a:=(.int (c:Nat),.val)) (b:=(.int 63,.val)) ?_ ?_ ?_ ?_) rfl))) rfl
 ·kernel_rfl
 ·nofun
 ·nofun
 ·nofun
 ·nofun
 ·nofun
 ·nofun
 ·show some (decide ((33:Int)<=(c:Int)))=_
  exact rwE (show decide ((33:Int)<=(c:Int))=decide (33<=c) from decide_eq_decide.mpr (kC)) rfl
 ·show some (decide ((c:Int)<=126))=_
  exact rwE (show decide ((c:Int)<=126)=decide (c<=126) from decide_eq_decide.mpr (kC)) rfl
 ·nofun
 ·nofun
 ·nofun
 ·show some (!(decide ((c:Int)=63)))=_
  exact rwE (show decide ((c:Int)=63)=decide (c=63) from decide_eq_decide.mpr (Int.ofNat_inj)) rfl
theorem Bw{t pre post:List Nat}{c:Nat}(e:t=pre++c::post):Bg (.bytes t) (pre.length:Int)=some (.int (c:Nat)):=by
 show(if (0:Int)<=(pre.length:Int) then(t[(pre.length:Int).toNat]?).map fun(c:Nat)=>V.int (c:Int) else none)=_
 (refine BX (iV _) (rwE (iZ ..) ?_);erw[e,mX (j3 _)];erw[uJ]);rfl
noncomputable abbrev Uw(o:List Nat)(a h:Nat):R:=[("octets",.val (.bytes o)),("at",.val (.int (a:Nat))),("here",.val (.int (h:Nat)))]
theorem Ss{o C:List Nat}{a:Nat}(B:List Nat):∀ (A:List Nat) (n:Nat),B.length < n->o=A++(B++63::C)->(B.all ws=true)->BV (Bf (d+14)) (exs (d+14)) (Aj 68) (K7 (Aa (bd 68) 1)) (Wl (Aa (bd 68) 1)) n (Uw o a A.length) O=some (.nxt,Uw o a (A.length+B.length),O):=by
 have bf:∀ (A:List Nat) (c:Nat) (R:List Nat),o=A++c::R->Bf (d+14) (Aj 68) (Uw o a A.length) (K7 (Aa (bd 68) 1)) O=some (.ok (ws c),O):=λ A c R e=>by
  obtain h:=p_ws (d:=d+1) (O:=O) c
  have:Bf (d+14) (Aj 68) (Uw o a A.length) (K7 (Aa (bd 68) 1)) O=some (.ok (decide ((A.length:Int) < (o.length:Int))&&ws c),O):=by
   refine Ba ?_ λ _=>Ey (ow:=.val) (Ar (ts:=[(.int (c:Nat),.val)]) (vs:=[.int (c:Nat)]) ?_ (Al (Ay (t:=(.bytes o,.val)) (k:=(.int (A.length:Nat),.val)) ?_ ?_ ?_ rfl rfl (Bw e))) rfl h) <;> nofun
  rw[decide_eq_true (by(erw[e,hW];erw[i6]);lia),tF]at this
  exact this
 induction B with
 | nil=>
  intro A n hn e _
  obtain⟨n,rfl⟩:∃ m,n=m+1:=⟨n - 1,by exact sp hn⟩
  exact Dg (bf A 63 C e)
 | cons c B ih=>
  intro A n hn e h
  rw[i6]at hn
  obtain⟨n,rfl⟩:∃ m,n=m+1:=⟨n - 1,by exact sp (jB hn)⟩
  rw[lD,iC]at h
  obtain ht:=bf A c (B++63::C) e
  rw[h.1]at ht
  obtain k:=ih (A++[c]) n (kL hn) (by refine i7 e (rwE (iF ..) ?_);rfl) h.2
  rw[hW,iT,show A.length+1+B.length=A.length+(c::B).length by erw[i6];lia]at k
  refine Hq (J':=Uw o a (A.length+1)) ht (Ac (AD (Af (t:=(.int ((A.length+1:Nat):Int),.val)) (s:=.val (.int ((A.length+1:Nat):Int))) ?_ ?_ rfl ?_))) k <;> nofun
theorem Wx{A B C:List Nat}(h:B.all ws=true)(hl:B.length<=900):cl (d+17) "part_end" [.bytes (A++(B++63::C)),.int (A.length:Nat)] O=some (.ok (.int ((A.length+B.length:Nat):Int)),O):=by
 obtain h1:=Ss (d:=d+1) (O:=O) (o:=A++(B++63::C)) (C:=C) (a:=A.length) B A 1000 (iQ (by assumption) (by decide)) rfl h
 obtain hi:=Bw (t:=A++(B++63::C)) (pre:=A++B) (c:=63) (post:=C) (rwE (iF ..) rfl)
 rw[hW]at hi
 obtain aH:((A.length+B.length:Nat):Int) < ((A++(B++63::C)).length:Int):=by(erw[hW,hW];erw[i6]);lia
 generalize A++(B++63::C)=o at *
 refine Ap (fd:=⟨CO 68,[],Aj 68,bd 68⟩) (J:=[("octets",.val (.bytes o)),("at",.val (.int (A.length:Nat)))]) (r:=(.ret (.int ((A.length+B.length:Nat):Int)),Uw o A.length (A.length+B.length),O)) ?_ ?_ (Ac (Ab (J':=Uw o A.length A.length) ?_ (Ab (J':=Uw o A.length (A.length+B.length)) (Da h1) (Az (Ax (t:=(.int ((A.length+B.length:Nat):Int),.val)) ?_ (AT (c:=decide (((A.length+B.length:Nat):Int) < (o.length:Int))&&decide ((63:Int)=63)) (Ba ?_ λ _=>AN (a:=(.int (63:Nat),.val)) (b:=(.int 63,.val)) ?_ (Ay (t:=(.bytes o,.val)) (k:=(.int ((A.length+B.length:Nat):Int),.val)) ?_ ?_ ?_ rfl rfl hi) ?_ ?_) (λ _=>?_) λ q=>?_) rfl))))) rfl
 ·nofun
 ·nofun
 ·nofun
 ·nofun
 ·nofun
 ·nofun
 ·nofun
 ·nofun
 ·nofun
 ·nofun
 ·nofun
 ·nofun
 ·rw[decide_eq_true aH]at q;exact absurd q (by decide)
theorem Cx(t:List Nat)(a b:Nat):Bo (.bytes t) (some (a:Int)) (some (b:Int))=some (.bytes ((t.take b).drop a)):=by
 show some (V.bytes (Au t _ _))=_
 exact rwE (DH ..) rfl
theorem NR(A B C:List Nat):((A++(B++C)).take (A.length+B.length)).drop A.length=B:=by
 (refine rwS (iF ..) (rwS hW ?_);rw[rT];rw[qD]) <;> rfl
noncomputable abbrev WV(o:List Nat)(a:Nat):R:=[("octets",.val (.bytes o)),("at",.val (.int (a:Nat)))]
noncomputable abbrev Xd(o:List Nat)(a:Nat)(ms:List V):R:=[("octets",.val (.bytes o)),("at",.val (.int (a:Nat))),("marks",.own ms)]
noncomputable abbrev Lw(o:List Nat)(a:Nat)(ms:List V)(i:Int):R:=[("octets",.val (.bytes o)),("at",.val (.int (a:Nat))),("marks",.own ms),("turn",.val (.int i))]
noncomputable abbrev T9(o:List Nat)(a:Nat)(ms:List V)(i:Int)(e:Nat):R:=[("octets",.val (.bytes o)),("at",.val (.int (a:Nat))),("marks",.own ms),("turn",.val (.int i)),("end",.val (.int (e:Nat)))]
noncomputable abbrev Xe(o:List Nat)(a:Nat)(ms:List V)(i:Int)(e:Nat)(ps:List V):R:=[("octets",.val (.bytes o)),("at",.val (.int (a:Nat))),("marks",.own ms),("turn",.val (.int i)),("end",.val (.int (e:Nat))),("parts",.own ps)]
theorem Io{o:List Nat}{a:Nat}(h:(o.take (a+2)).drop a≠[61,63]):cl (d+26) "word_parts" [.bytes o,.int (a:Nat)] O=some (.ok .none,O):=by
 refine Ap (fd:=⟨CO 69,[],Aj 69,bd 69⟩) (J:=WV o a) (r:=(.ret .none,WV o a,O)) ?_ ?_ (Ac (An (c:=!(decide ((o.take (a+2)).drop a=[61,63]))) (AN (a:=(.bytes ((o.take (a+2)).drop a),.val)) (b:=(.bytes [61,63],.val)) ?_ (AZ (t:=(.bytes o,.val)) (a:=(.int (a:Nat),.val)) (b:=(.int ((a+2:Nat):Int),.val)) ?_ ?_ ?_ rfl rfl (Cx o a (a+2))) ?_ ?_) (λ _=>BQ (r:=(.ret .none,WV o a,O)) ?_ rfl) λ q=>?_)) rfl
 ·nofun
 ·nofun
 ·nofun
 ·nofun
 ·nofun
 ·nofun
 ·nofun
 ·nofun
 ·nofun
 ·rw[decide_eq_false h]at q;exact nc j9 q (.refl false)
def wpB:List Stmt:=Cl (Aa (bd 69) 2)
theorem K1{o:List Nat}{a:Nat}{ms dA:List V}{m:Nat}{i:Int}(m':Nat)(e:ms++[V.int (m':Nat)]=dA)(hm:Bg (.lst ms) (-1)=some (.int (m:Nat)))(hm2:Bg (.lst dA) (-1)=some (.int (m':Nat)))(hz:ms.length<=1000000)
  (h:cl (d+21) "part_end" [.bytes o,.int ((m+1:Nat):Int)] O=some (.ok (.int (m':Nat)),O)):exs (d+23) (Aj 69) (Lw o a ms i) wpB O=some (.nxt,Lw o a dA i,O):=by
 obtain e1:Be (d+22) (Aj 69) (Lw o a ms i) O (Aa wpB 0)=some (.nxt,Lw o a dA i,O):=by
  refine rwS e ?_
  refine AX (ts:=[(.int (m':Nat),.val)]) ?_ (Al (Ar (ts:=[(.bytes o,.val),(.int ((m+1:Nat):Int),.val)]) (vs:=[.bytes o,.int ((m+1:Nat):Int)]) ?_ (AO ?_ (Aq (a:=(.int (m:Nat),.val)) (b:=(.int 1,.val)) (Ay (t:=(.lst ms,.bor)) (k:=(.int (-1),.val)) ?_ ?_ ?_ rfl rfl hm) ?_ ?_)) rfl h)) (AB (vs:=ms) ?_ rfl (Ao hz) ?_) <;> nofun
 obtain e2:Bf (d+22) (Aj 69) (Lw o a dA i) (Bz (Aa wpB 1)) O=some (.ok (decide ((m':Int) < 0)),O):=by
  refine AN (a:=(.int (m':Nat),.val)) (b:=(.int 0,.val)) ?_ (Ay (t:=(.lst dA,.bor)) (k:=(.int (-1),.val)) ?_ ?_ ?_ rfl rfl hm2) ?_ ?_ <;> nofun
 exact Ac (Ab e1 (An e2 (λ q=>by obtain this:=of_decide_eq_true q;lia) λ _=>thn_nxt (J':=Lw o a dA i) rfl rfl))
theorem GA{es:List hJ}{k:Nat}{p:Pos}{ts:List TV}{vs:List V}(hc:noStar es=true)(ha:Mo.mapM (ev d sc J) es O=some (.ok ts,O))(hv:BN ts=some vs)(hl:vs.length<=Ae):ev (d+1) sc J (.Tuple es k p) O=some (.ok (.tup vs,.val),O):=by
 show(if noStar es then .bind (.mapM (ev d sc J) es) λ ts=>.lift ((BN ts).bind λ vs=>if vs.length<=Ae then some (V.tup vs,HQ.val) else none) else .fail:Mo TV) O=_
 erw[if_pos hc]
 refine As ha (rwE hv ?_)
 show Mo.lift (if vs.length<=Ae then some (V.tup vs,HQ.val) else none) O=_
 erw[if_pos hl];rfl
theorem Ld{x y:hJ}{zs:List hJ}{p:Pos}{a:Bool}(hx:Bf d sc J x O=some (.ok a,O))(hy:Bf d sc J y O=some (.ok false,O)):Bf (d+1) sc J (.BoolOp .And (x::y::zs) p) O=some (.ok false,O):=by
 refine As hx ?_
 clear hx
 cases a with
 | false=>rfl
 | true=>exact As hy rfl
theorem R6{x y:hJ}{zs:List hJ}{p:Pos}(hx:ev d sc J x O=some (.ok (.bool true,.val),O)):ev (d+1) sc J (.BoolOp .Or (x::y::zs) p) O=some (.ok (.bool true,.val),O):=As hx rfl
theorem RA{x y z:hJ}{zs:List hJ}{p:Pos}(hx:ev d sc J x O=some (.ok (.bool false,.val),O))(hy:ev d sc J y O=some (.ok (.bool true,.val),O)):ev (d+1) sc J (.BoolOp .Or (x::y::z::zs) p) O=some (.ok (.bool true,.val),O):=As hx (As hy rfl)
def YG:hJ:=D5 (Aa (bd 69) 5)
theorem Qc{o N W P:List Nat}{a m1 m2 m3:Nat}(s0:(o.take (a+2)).drop a=[61,63])(h1:cl (d+22) "part_end" [.bytes o,.int ((a+1+1:Nat):Int)] O=some (.ok (.int (m1:Nat)),O))(h2:cl (d+22) "part_end" [.bytes o,.int ((m1+1:Nat):Int)] O=some (.ok (.int (m2:Nat)),O))(h3:cl (d+22) "part_end" [.bytes o,.int ((m2+1:Nat):Int)] O=some (.ok (.int (m3:Nat)),O))
  (s1:(o.take m1).drop (a+1+1)=N) (s2:(o.take m2).drop (m1+1)=W) (s3:(o.take m3).drop (m2+1)=P) (s4:(o.take (m3+2)).drop m3=[63,61]) :
  cl (d+26) "word_parts" [.bytes o,.int (a:Nat)] O=some (.ok (.tup [.bytes N,.bytes W,.bytes P,.int ((m3+2:Nat):Int)]),O):=by
 obtain z0:=Cx o a (a+2)
 rw[s0]at z0
 obtain z1:=Cx o (a+1+1) m1
 rw[s1]at z1
 obtain z2:=Cx o (m1+1) m2
 rw[s2]at z2
 obtain z3:=Cx o (m2+1) m3
 rw[s3]at z3
 obtain z4:=Cx o m3 (m3+2)
 rw[s4]at z4
 obtain t0:Bf (d+24) (Aj 69) (WV o a) (Bz (Aa (bd 69) 0)) O=some (.ok false,O):=by
  refine AN (a:=(.bytes [61,63],.val)) (b:=(.bytes [61,63],.val)) ?_ (AZ (t:=(.bytes o,.val)) (a:=(.int (a:Nat),.val)) (b:=(.int ((a+2:Nat):Int),.val)) ?_ ?_ ?_ rfl rfl z0) ?_ ?_ <;> nofun
 obtain f0:Bh (exs (d+24)) (Aj 69) (Ck (Aa (bd 69) 2)) wpB [.int 0,.int 1,.int 2] (Xd o a [.int ((a+1:Nat):Int)]) O=some (.nxt,Lw o a [.int ((a+1:Nat):Int),.int (m1:Nat),.int (m2:Nat),.int (m3:Nat)] 2,O):=
  AV (xs:=[("turn",.int 0)]) rfl (K1 (d:=d+1) (O:=O) (o:=o) (a:=a) (i:=0) m1 (ms:=[.int ((a+1:Nat):Int)]) (m:=a+1) rfl (by kernel_rfl) (by kernel_rfl) (by decide:1<=1000000) h1) (AV (xs:=[("turn",.int 1)]) rfl (K1 (d:=d+1) (O:=O) (o:=o) (a:=a) (i:=1) m2 (ms:=[.int ((a+1:Nat):Int),.int (m1:Nat)]) (m:=m1) rfl (by kernel_rfl) (by kernel_rfl) (by decide:2<=1000000) h2) (AV (xs:=[("turn",.int 2)]) rfl (K1 (d:=d+1) (O:=O) (o:=o) (a:=a) (i:=2) m3 (ms:=[.int ((a+1:Nat):Int),.int (m1:Nat),.int (m2:Nat)]) (m:=m2) rfl (by kernel_rfl) (by kernel_rfl) (by decide:3<=1000000) h3) for_nil))
 obtain t4:Bf (d+24) (Aj 69) (T9 o a [.int ((a+1:Nat):Int),.int (m1:Nat),.int (m2:Nat),.int (m3:Nat)] 2 (m3+2)) (Bz (Aa (bd 69) 4)) O=some (.ok false,O):=by
  refine AN (a:=(.bytes [63,61],.val)) (b:=(.bytes [63,61],.val)) ?_ (AZ (t:=(.bytes o,.val)) (a:=(.int (m3:Nat),.val)) (b:=(.int ((m3+2:Nat):Int),.val)) ?_ ?_ ?_ rfl rfl z4) ?_ ?_ <;> nofun
 obtain hc:=BP (d:=d+23) (O:=O) (J:=T9 o a [.int ((a+1:Nat):Int),.int (m1:Nat),.int (m2:Nat),.int (m3:Nat)] 2 (m3+2)) (csc:=Gl YG) (tgt:=D3 YG) (elt:=G1 YG) (x:="spot") (f:=λ p:Int×List Nat=>V.bytes p.2) (toV:=λ p:Int×List Nat=>V.int p.1) rfl [(0,N),(1,W),(2,P)]
  ((iK).mpr ⟨⟨(.bytes N,.val),by
   refine AZ (t:=(.bytes o,.val)) (a:=(.int ((a+1+1:Nat):Int),.val)) (b:=(.int (m1:Nat),.val)) ?_ ?_ ?_ rfl rfl z1 <;> nofun,rfl⟩,(iK).mpr ⟨⟨(.bytes W,.val),by
   refine AZ (t:=(.bytes o,.val)) (a:=(.int ((m1+1:Nat):Int),.val)) (b:=(.int (m2:Nat),.val)) ?_ ?_ ?_ rfl rfl z2 <;> nofun,rfl⟩,(iK).mpr ⟨⟨(.bytes P,.val),by
   refine AZ (t:=(.bytes o,.val)) (a:=(.int ((m2+1:Nat):Int),.val)) (b:=(.int (m3:Nat),.val)) ?_ ?_ ?_ rfl rfl z3 <;> nofun,rfl⟩,λ _ h=>nomatch h⟩⟩⟩)
 refine Ap (fd:=⟨CO 69,[],Aj 69,bd 69⟩) (J:=WV o a) (r:=(.ret (.tup [.bytes N,.bytes W,.bytes P,.int ((m3+2:Nat):Int)]),Xe o a [.int ((a+1:Nat):Int),.int (m1:Nat),.int (m2:Nat),.int (m3:Nat)] 2 (m3+2) [.bytes N,.bytes W,.bytes P],O)) ?_ ?_
  (Ac (An t0 (λ q=>(fls q)) λ _=>thn_nxt (J':=WV o a) rfl (Ab (J':=Xd o a [.int ((a+1:Nat):Int)]) ?_ ((BK ?_ (Bx (as:=AQ (G7 (Aa (bd 69) 2))) (ts:=[(.int 3,.val)]) (vs:=[.int 0,.int 1,.int 2]) ?_ ?_ ?_ ?_) f0).trans (thn_nxt rfl
  (Ab (J':=T9 o a [.int ((a+1:Nat):Int),.int (m1:Nat),.int (m2:Nat),.int (m3:Nat)] 2 (m3+2)) ?_ (An t4 (λ q=>(fls q)) λ _=>thn_nxt (J':=T9 o a [.int ((a+1:Nat):Int),.int (m1:Nat),.int (m2:Nat),.int (m3:Nat)] 2 (m3+2)) rfl
  (Ab (J':=Xe o a [.int ((a+1:Nat):Int),.int (m1:Nat),.int (m2:Nat),.int (m3:Nat)] 2 (m3+2) [.bytes N,.bytes W,.bytes P]) (Af (t:=(.lst [.bytes N,.bytes W,.bytes P],.fresh)) ?_ (Co (tgt:=D3 YG) (it:=Cc YG) (ifs:=[]) (vs:=[.int 0,.int 1,.int 2]) ?_ ?_ ?_ hc) (Ex ?_ ?_) ?_) (Az (Ax (t:=(.tup [.bytes N,.bytes W,.bytes P,.int ((m3+2:Nat):Int)],.val)) ?_ ?_ rfl)))))))))) rfl <;> nofun
noncomputable abbrev WY(o:List Nat)(b e:Nat):R:=[("octets",.val (.bytes o)),("begin",.val (.int (b:Nat))),("end",.val (.int (e:Nat)))]
theorem Tb{o:List Nat}{b e:Nat}(hb:b=0\/∃ X R,b=X.length+1/\o=X++32::R)(he:e=o.length\/∃ Y R,e=Y.length/\o=Y++32::R):cl (d+20) "is_apart" [.bytes o,.int (b:Nat),.int (e:Nat)] O=some (.ok (.bool true),O):=by
 obtain t0:Bf (d+18) (Aj 70) (WY o b e) (Bz (Aa (bd 70) 0)) O=some (.ok false,O):=by
  rcases hb with rfl | ⟨X,R,rfl,e1⟩
  ·nofun
  ·obtain hi:=Bw e1
   have e2:((X.length+1:Nat):Int) - 1=(X.length:Int):=by lia
   obtain hi:=sJ e2▸hi
   refine Ld (a:=decide (((X.length+1:Nat):Int) > 0)) ?_ (AN (a:=(.int (32:Nat),.val)) (b:=(.tup [.int 9,.int 10,.int 13,.int 32],.val)) ?_ (Ay (t:=(.bytes o,.val)) (k:=(.int (((X.length+1:Nat):Int) - 1),.val)) ?_ ?_ ?_ rfl rfl hi) ?_ ?_) <;> nofun
 refine Ap (fd:=⟨CO 70,[],Aj 70,bd 70⟩) (J:=WY o b e) (r:=(.ret (.bool true),WY o b e,O)) ?_ ?_ (Ac (An t0 (λ q=>(fls q)) λ _=>thn_nxt (J':=WY o b e) rfl (Az (Ax (t:=(.bool true,.val)) ?_ ?_ rfl)))) rfl
 ·nofun
 ·nofun
 ·nofun
 ·clear hb t0
  rcases he with rfl | ⟨Y,R,rfl,e1⟩
  ·refine R6 ?_
   have:ev (d+17) (Aj 70) (WY o b o.length) (Rv (DI (Aa (bd 70) 1))) O=some (.ok (.bool (decide ((o.length:Int)=(o.length:Int))),.val),O):=rfl
   rw[decide_eq_true rfl]at this
   exact this
  ·obtain hi:=Bw e1
   obtain aJ:decide ((Y.length:Int)=(o.length:Int))=false:=decide_eq_false (by(erw[e1,hW];erw[i6]);lia)
   obtain h0:ev (d+17) (Aj 70) (WY o b Y.length) (Rv (DI (Aa (bd 70) 1))) O=some (.ok (.bool (decide ((Y.length:Int)=(o.length:Int))),.val),O):=rfl
   rw[aJ]at h0
   refine RA h0 (ev_cmp1 (a:=(.int (32:Nat),.val)) (b:=(.tup [.int 9,.int 10,.int 13,.int 32],.val)) ?_ (Ay (t:=(.bytes o,.val)) (k:=(.int (Y.length:Nat),.val)) ?_ ?_ ?_ rfl rfl hi) ?_ ?_) <;> nofun
noncomputable abbrev waE(o:List Nat)(a:Nat):R:=[("octets",.val (.bytes o)),("at",.val (.int (a:Nat)))]
noncomputable abbrev N3(o:List Nat)(a:Nat)(v:V):R:=[("octets",.val (.bytes o)),("at",.val (.int (a:Nat))),("found",.val v)]
abbrev YN(o:List Nat)(a:Nat)(v:V)(k:Cs):R:=[("octets",.val (.bytes o)),("at",.val (.int (a:Nat))),("found",.val v),("charset",.val (.str k.name))]
abbrev SX(o:List Nat)(a:Nat)(v:V)(k:Cs)(w:Wy):R:=[("octets",.val (.bytes o)),("at",.val (.int (a:Nat))),("found",.val v),("charset",.val (.str k.name)),("way",.val (.str [w.code]))]
abbrev XT(o:List Nat)(a:Nat)(v:V)(k:Cs)(w:Wy)(r:List Nat):R:=[("octets",.val (.bytes o)),("at",.val (.int (a:Nat))),("found",.val v),("charset",.val (.str k.name)),("way",.val (.str [w.code])),("row",.val (.bytes r))]
theorem KG{o:List Nat}{a:Nat}{v:V}(h:cl (d+47) "word_parts" [.bytes o,.int (a:Nat)] O=some (.ok v,O)):Be (d+48) (Aj 72) (waE o a) O (Aa (bd 72) 0)=some (.nxt,N3 o a v,O):=by
 refine Af (t:=(v,.val)) (s:=.val v) ?_ (Ar (ts:=[(.bytes o,.val),(.int (a:Nat),.val)]) (vs:=[.bytes o,.int (a:Nat)]) ?_ (AO ?_ ?_) rfl h) rfl ?_ <;> nofun
theorem K3{o:List Nat}{a:Nat}(h:(o.take (a+2)).drop a≠[61,63]):cl (d+50) "word_at" [.bytes o,.int (a:Nat)] O=some (.ok .none,O):=by
 refine Ap (fd:=⟨CO 72,[],Aj 72,bd 72⟩) (J:=waE o a) (r:=(.ret .none,N3 o a .none,O)) ?_ ?_ (Ac (Ab (KG (d:=d) (O:=O) (Io (d:=d+21) h)) (An (c:=true) ?_ (λ _=>BQ (r:=(.ret .none,N3 o a .none,O)) ?_ rfl) λ q=>(nc j9 q (.refl false))))) rfl <;> nofun
theorem XS(k:Cs){o W P:List Nat}{a e:Nat}:Be (d+48) (Aj 72) (N3 o a (.tup [.bytes k.name,.bytes W,.bytes P,.int (e:Nat)])) O (Aa (bd 72) 2)=some (.nxt,YN o a (.tup [.bytes k.name,.bytes W,.bytes P,.int (e:Nat)]) k,O):=by cases k <;> kernel_rfl
theorem UY(k:Cs)(w:Wy){o N P:List Nat}{a e:Nat}:Be (d+48) (Aj 72) (YN o a (.tup [.bytes N,.bytes [w.code],.bytes P,.int (e:Nat)]) k) O (Aa (bd 72) 3)=some (.nxt,SX o a (.tup [.bytes N,.bytes [w.code],.bytes P,.int (e:Nat)]) k w,O):=by cases w <;> nofun
theorem YD(k:Cs)(w:Wy){o:List Nat}{a:Nat}{v:V}:Bf (d+48) (Aj 72) (SX o a v k w) (Bz (Aa (bd 72) 4)) O=some (.ok false,O):=by cases k <;> cases w <;> nofun
theorem Yp(k:Cs)(w:Wy){o P r c:List Nat}{a e:Nat}(h:cl (d+47) "word_parts" [.bytes o,.int (a:Nat)] O=some (.ok (.tup [.bytes k.name,.bytes [w.code],.bytes P,.int (e:Nat)]),O))(h1:cl (d+44) "is_apart" [.bytes o,.int (a:Nat),.int (e:Nat)] O=some (.ok (.bool true),O))
  (h2:w = .q->cl (d+46) "word_q_decoded" [.bytes P] O=some (.ok (.bytes r),O)) (h3:w = .b->cl (d+46) "decoded" [.bytes P] O=some (.ok (.bytes r),O)) (h4:cl (d+46) "text_in" [.str k.name,.bytes r] O=some (.ok (.str c),O)) :
  cl (d+50) "word_at" [.bytes o,.int (a:Nat)] O=some (.ok (.tup [.str c,.int (e:Nat)]),O):=by
 obtain t1:Bf (d+48) (Aj 72) (N3 o a (.tup [.bytes k.name,.bytes [w.code],.bytes P,.int (e:Nat)])) (Bz (Aa (bd 72) 1)) O=some (.ok (false||!true),O):=by
  refine Jg ?_ λ _=>Dq (Ey (ow:=.val) (Ar (ts:=[(.bytes o,.val),(.int (a:Nat),.val),(.int (e:Nat),.val)]) (vs:=[.bytes o,.int (a:Nat),.int (e:Nat)]) ?_ (DD ?_ ?_ ?_) rfl h1)) <;> nofun
 have e5:Be (d+48) (Aj 72) (SX o a (.tup [.bytes k.name,.bytes [w.code],.bytes P,.int (e:Nat)]) k w) O (Aa (bd 72) 5)=some (.nxt,XT o a (.tup [.bytes k.name,.bytes [w.code],.bytes P,.int (e:Nat)]) k w r,O):=by
  clear h h1
  cases w with
  | q=>
   refine Af (t:=(.bytes r,.val)) (s:=.val (.bytes r)) ?_ (AT (c:=true) ?_ (λ _=>Ar (ts:=[(.bytes P,.val)]) (vs:=[.bytes P]) ?_ (Al ?_) rfl (h2 rfl)) λ q=>(nc j9 q (.refl false))) rfl ?_ <;> nofun
  | b=>
   refine Af (t:=(.bytes r,.val)) (s:=.val (.bytes r)) ?_ (AT (c:=false) ?_ (λ q=>(fls q)) λ _=>Ar (ts:=[(.bytes P,.val)]) (vs:=[.bytes P]) ?_ (Al ?_) rfl (h3 rfl)) rfl ?_ <;> nofun
 refine Ap (fd:=⟨CO 72,[],Aj 72,bd 72⟩) (J:=waE o a) (r:=(.ret (.tup [.str c,.int (e:Nat)]),XT o a (.tup [.bytes k.name,.bytes [w.code],.bytes P,.int (e:Nat)]) k w r,O)) ?_ ?_ (Ac (Ab (KG (d:=d) (O:=O) h) (An t1 (λ q=>(fls q)) λ _=>thn_nxt (J':=N3 o a (.tup [.bytes k.name,.bytes [w.code],.bytes P,.int (e:Nat)])) rfl (Ab (XS k) (Ab (UY k w) (An (YD k w) (λ q=>(fls q)) λ _=>thn_nxt (J':=SX o a (.tup [.bytes k.name,.bytes [w.code],.bytes P,.int (e:Nat)]) k w) rfl (Ab e5
  (Az (Ax (t:=(.tup [.str c,.int (e:Nat)],.val)) ?_ (GA (ts:=[(.str c,.val),(.int (e:Nat),.val)]) ?_ (AO (Ar (ts:=[(.str k.name,.val),(.bytes r,.val)]) (vs:=[.str k.name,.bytes r]) ?_ (AO ?_ ?_) rfl h4) ?_) rfl (Ai (by decide:2<=2000000))) rfl))))))))) rfl <;> nofun
def q2(c:Nat):List Nat:=if c=32 then [32] else if Lb c then [c] else [61,hexD (c / 16),hexD (c % 16)]
theorem Wb:∀ c∈OB,cl (d+10) "hex_worth" [.int (hexD (c / 16):Nat)] O=some (.ok (.int (c / 16:Nat)),O):=by
 repeat (refine (iK).mpr ⟨by nofun,?_⟩)
 exact λ _ h=>nomatch h
theorem Wg:∀ c∈OB,cl (d+10) "hex_worth" [.int (hexD (c % 16):Nat)] O=some (.ok (.int (c % 16:Nat)),O):=by
 repeat (refine (iK).mpr ⟨by nofun,?_⟩)
 exact λ _ h=>nomatch h
noncomputable abbrev qaE(o:List Nat)(a:Nat):R:=[("data",.val (.bytes o)),("at",.val (.int (a:Nat)))]
noncomputable abbrev qaE1(o:List Nat)(a h:Nat):R:=[("data",.val (.bytes o)),("at",.val (.int (a:Nat))),("high",.val (.int (h:Nat)))]
noncomputable abbrev Xg(o:List Nat)(a h l:Nat):R:=[("data",.val (.bytes o)),("at",.val (.int (a:Nat))),("high",.val (.int (h:Nat))),("low",.val (.int (l:Nat)))]
theorem Yx{o X Y:List Nat}{c:Nat}(hc:c∈OB)(e:o=X++61::hexD (c / 16)::hexD (c % 16)::Y):cl (d+16) "quoted_at" [.bytes o,.int (X.length:Nat)] O=some (.ok (.int (c:Nat)),O):=by
 obtain h1:=Wb (d:=d+3) (O:=O) c hc
 obtain h2:=Wg (d:=d+3) (O:=O) c hc
 obtain i1:=Bw (t:=o) (pre:=X++[61]) (c:=hexD (c / 16)) (post:=hexD (c % 16)::Y) (by refine i7 e (rwE (iF ..) ?_);rfl)
 obtain i2:=Bw (t:=o) (pre:=X++[61,hexD (c / 16)]) (c:=hexD (c % 16)) (post:=Y) (by refine i7 e (rwE (iF ..) ?_);rfl)
 obtain l1:=hW
 obtain l2:=hW
 rw[l1]at i1
 rw[l2]at i2
 obtain hl:o.length=X.length+(3+Y.length):=by refine rwE e (i7 hW ?_);simp only[i6];lia
 obtain aH:decide (((X.length+2:Nat):Int) >= (o.length:Int))=false:=decide_eq_false (by lia)
 obtain t0:Bf (d+14) (Aj 47) (qaE o X.length) (Bz (Aa (bd 47) 0)) O=some (.ok (decide (((X.length+2:Nat):Int) >= (o.length:Int))),O):=rfl
 rw[aH]at t0
 obtain hs:(16 * ((c / 16:Nat):Int)+((c % 16:Nat):Int))=(c:Int):=by lia
 generalize c / 16=h at *
 generalize c % 16=l at *
 refine Ap (fd:=⟨CO 47,[],Aj 47,bd 47⟩) (J:=qaE o X.length) (r:=(.ret (.int (c:Nat)),Xg o X.length h l,O)) ?_ ?_ (Ac (An t0 (λ q=>(fls q)) λ _=>thn_nxt (J':=qaE o X.length) rfl (Ab (J':=qaE1 o X.length h) ?_ (Ab (J':=Xg o X.length h l) ?_ (Az (Ax (t:=(.int (c:Nat),.val)) ?_ (AT (c:=decide ((h:Int) >= 0)&&decide ((l:Int) >= 0)) (Ba ?_ λ _=>?_) (λ _=>?_) λ q=>?_) rfl)))))) rfl
 ·nofun
 ·nofun
 ·refine Af (t:=(.int (h:Nat),.val)) (s:=.val (.int (h:Nat))) ?_ (Ar (ts:=[(.int (hexD h:Nat),.val)]) (vs:=[.int (hexD h:Nat)]) ?_ (Al (Ay (t:=(.bytes o,.val)) (k:=(.int ((X.length+1:Nat):Int),.val)) ?_ ?_ ?_ rfl rfl i1)) rfl h1) rfl ?_ <;> nofun
 ·refine Af (t:=(.int (l:Nat),.val)) (s:=.val (.int (l:Nat))) ?_ (Ar (ts:=[(.int (hexD l:Nat),.val)]) (vs:=[.int (hexD l:Nat)]) ?_ (Al (Ay (t:=(.bytes o,.val)) (k:=(.int ((X.length+2:Nat):Int),.val)) ?_ ?_ ?_ rfl rfl i2)) rfl h2) rfl ?_ <;> nofun
 ·nofun
 ·nofun
 ·nofun
 ·refine rwS hs ?_;nofun
 ·rw[decide_eq_true (iV _),decide_eq_true (iV _)]at q;exact nc j9 q (.refl false)
noncomputable abbrev uqE(o:List Nat)(acc:List V)(a:Nat):R:=[("line",.val (.bytes o)),("codes",.own acc),("at",.val (.int (a:Nat)))]
noncomputable abbrev E3(o:List Nat)(acc:List V)(a:Nat)(c:Int):R:=[("line",.val (.bytes o)),("codes",.own acc),("at",.val (.int (a:Nat))),("code",.val (.int c))]
def Ro(o:List Nat)(acc:List V)(a:Nat)(J:R):Prop:=J=uqE o acc a\/∃ c,J=E3 o acc a c
def SL:List Stmt:=Wl (Aa (bd 48) 2)
theorem Sz{o X Y:List Nat}{acc:List V}{c:Nat}{J:R}(hc:c∈OB)(e:o=X++(q2 c++Y))(aj:Ro o acc X.length J)(hz:acc.length<=1000000):∃ z,exs (d+20) (Aj 48) J SL O=some (.nxt,E3 o (acc++[.int (c:Nat)]) (X++q2 c).length z,O):=by
 have app:∀ z,BE (E3 o acc X.length z) "codes" (.own (acc++[V.int (c:Nat)]))=E3 o (acc++[.int (c:Nat)]) X.length z:=λ z=>by nofun
 by_cases h:c=32\/Lb c=true
 ·have eq:q2 c=[c]:=by
   unfold q2
   by_cases h1:c=32
   ·exact BX h1 (rwE h1 rfl)
   ·exact Gx h1 (BX (h.resolve_left h1) rfl)
  have aJ:=decide_eq_false λ z=>by
   have z:c=61:=by exact nJ z
   rw[z]at h;exact absurd h (by decide)
  rw[eq]at e ⊢
  have hi:=Bw e
  have e0:Be (d+19) (Aj 48) J O (Aa SL 0)=some (.nxt,E3 o acc X.length (-1),O):=by
   rcases aj with rfl | ⟨z,rfl⟩ <;>
   ·refine Af (t:=(.int (-1),.val)) (s:=.val (.int (-1))) ?_ (AT (c:=decide ((c:Int)=61)) (AN (a:=(.int (c:Nat),.val)) (b:=(.int 61,.val)) ?_ (Ay (t:=(.bytes o,.val)) (k:=(.int (X.length:Nat),.val)) ?_ ?_ ?_ rfl rfl hi) ?_ ?_) (λ q=>nomatch (aJ.symm.trans q)) λ _=>?_) rfl ?_ <;> nofun
  have e1:Be (d+18) (Aj 48) (E3 o acc X.length (-1)) O (Aa (Ga (Aa SL 1)) 0)=some (.nxt,E3 o (acc++[.int (c:Nat)]) X.length (-1),O):=by
   refine AX (ts:=[(.int (c:Nat),.val)]) ?_ (Al (Ay (t:=(.bytes o,.val)) (k:=(.int (X.length:Nat),.val)) ?_ ?_ ?_ rfl rfl hi)) (AB (vs:=acc) ?_ rfl (Ao hz) (app (-1))) <;> nofun
  have e2:Be (d+18) (Aj 48) (E3 o (acc++[.int (c:Nat)]) X.length (-1)) O (Aa (Ga (Aa SL 1)) 1)=some (.nxt,E3 o (acc++[.int (c:Nat)]) (X.length+1) (-1),O):=rfl
  have e3:=Ac (Ab e1 (AD e2))
  erw[show(X++[c]).length=X.length+1 from by refine i7 hW ?_;rfl]
  exact⟨-1,Ac (Ab e0 (An (c:=false) rfl (λ q=>(fls q)) λ _=>thn_nxt e3 sq_nil))⟩
 ·obtain h1:=λ z=>h (.inl z)
  have eq:q2 c=[61,hexD (c / 16),hexD (c % 16)]:=by unfold q2;exact Gx h1 (rwE (if_neg λ z=>h (.inr z)) rfl)
  rw[eq]at e ⊢
  have hi:=Bw (t:=o) (pre:=X) (c:=61) (post:=hexD (c / 16)::hexD (c % 16)::Y) e
  have hq:=Yx (d:=d+1) (O:=O) hc e
  have e0:Be (d+19) (Aj 48) J O (Aa SL 0)=some (.nxt,E3 o acc X.length (c:Nat),O):=by
   rcases aj with rfl | ⟨z,rfl⟩ <;>
   ·refine Af (t:=(.int (c:Nat),.val)) (s:=.val (.int (c:Nat))) ?_ (AT (c:=true) (AN (a:=(.int (61:Nat),.val)) (b:=(.int 61,.val)) ?_ (Ay (t:=(.bytes o,.val)) (k:=(.int (X.length:Nat),.val)) ?_ ?_ ?_ rfl rfl hi) ?_ ?_) (λ _=>Ar (ts:=[(.bytes o,.val),(.int (X.length:Nat),.val)]) (vs:=[.bytes o,.int (X.length:Nat)]) ?_ (AO ?_ ?_) rfl hq) λ q=>nomatch q) rfl ?_ <;> nofun
  obtain e1:Be (d+18) (Aj 48) (E3 o acc X.length (c:Nat)) O (Aa (Hl (Aa SL 1)) 0)=some (.nxt,E3 o (acc++[.int (c:Nat)]) X.length (c:Nat),O):=by
   refine AX (ts:=[(.int (c:Nat),.val)]) ?_ (Al ?_) (AB (vs:=acc) ?_ rfl (Ao hz) (app (c:Nat))) <;> nofun
  have e2:Be (d+18) (Aj 48) (E3 o (acc++[.int (c:Nat)]) X.length (c:Nat)) O (Aa (Hl (Aa SL 1)) 1)=some (.nxt,E3 o (acc++[.int (c:Nat)]) (X.length+3) (c:Nat),O):=rfl
  have e3:=Ac (Ab e1 (AD e2))
  have t1:Bf (d+19) (Aj 48) (E3 o acc X.length (c:Nat)) (Bz (Aa SL 1)) O=some (.ok (decide ((c:Int) >= 0)),O):=rfl
  rw[decide_eq_true (iV _)]at t1
  erw[show(X++[61,hexD (c / 16),hexD (c % 16)]).length=X.length+3 from by refine i7 hW ?_;rfl]
  exact⟨(c:Nat),Ac (Ab e0 (An t1 (λ _=>thn_nxt e3 sq_nil) λ q=>(nc j9 q (.refl false))))⟩
theorem TC{o:List Nat}(r:List Nat):∀ {X:List Nat} {acc:List Nat} {n:Nat} {J:R},(∀ c∈r,c∈OB)->o=X++r.flatMap q2->r.length < n->acc.length+r.length<=1000000->Ro o (Ad acc) X.length J ->
  ∃ J',BV (Bf (d+20)) (exs (d+20)) (Aj 48) (K7 (Aa (bd 48) 2)) SL n J O=some (.nxt,J',O)/\Ro o (Ad (acc++r)) o.length J':=by
 induction r with
 | nil=>
  intro X acc n J _ e hn hz aj
  replace e:=(iO ..)▸(kD▸e)
  obtain⟨n,rfl⟩:∃ m,n=m+1:=iE (n - 1) (sp hn)
  have ht:Bf (d+20) (Aj 48) J (K7 (Aa (bd 48) 2)) O=some (.ok (decide ((X.length:Int) < (o.length:Int))),O):=by rcases aj with rfl | ⟨z,rfl⟩ <;> nofun
  rw[decide_eq_false (by erw[e];lia)]at ht
  exact iEA J (Dg ht) (by erw[iO,(show o.length=X.length by exact rwE e rfl)];exact aj)
 | cons c r ih=>
  intro X acc n J hs e hn hz aj
  rw[i6]at hn hz
  obtain⟨n,rfl⟩:∃ m,n=m+1:=iE (n - 1) (sp (jB hn))
  replace e:=iS▸e
  obtain⟨z,hb⟩:=Sz (d:=d) (O:=O) (hs c i8) e aj (by erw[AH];exact jY hz)
  have hq:0 < (q2 c).length:=by
   unfold q2
   by_cases h1:c=32
   ·exact rwE (if_pos h1) (kZ _)
   ·erw[if_neg h1]
    by_cases h2:Lb c=true
    ·exact rwE (if_pos h2) (kZ _)
    ·exact rwE (if_neg h2) (kZ _)
  have ht:Bf (d+20) (Aj 48) J (K7 (Aa (bd 48) 2)) O=some (.ok (decide ((X.length:Int) < (o.length:Int))),O):=by rcases aj with rfl | ⟨z,rfl⟩ <;> nofun
  rw[decide_eq_true (by(erw[e,hW];erw[hW]);lia)]at ht
  obtain⟨J',k1,k2⟩:=ih (X:=X++q2 c) (acc:=acc++[c]) (n:=n) (J:=E3 o (Ad acc++[.int (c:Nat)]) (X++q2 c).length z) (λ x hx=>hs x (i9 _ hx)) (i7 e (rwE (iF ..) rfl)) (kL hn) (by erw[hW,iT];lia) (.inr (iE z (by erw[AS];rfl)))
  refine iEA J' (Hq ht hb k1) ?_
  rw[iF]at k2
  exact k2
theorem XV{t:List Nat}(hs:∀ c∈t,c∈OB)(hl:t.length<=900):cl (d+23) "unquoted" [.bytes (t.flatMap q2)] O=some (.ok (.bytes t),O):=by
 obtain⟨J',h1,h2⟩:=TC (d:=d+1) (O:=O) (o:=t.flatMap q2) t (X:=[]) (acc:=[]) (n:=1000) (J:=uqE (t.flatMap q2) [] 0) hs rfl (iQ (by assumption) (by decide)) (by erw[iM];exact hZ (j5 hl _) (by decide)) (.inl rfl)
 rw[j4]at h2
 obtain hb:=Bi t (λ c hc=>ob_lt c (hs c hc))
 generalize t.flatMap q2=o at *
 refine Ap (fd:=⟨CO 48,[],Aj 48,bd 48⟩) (J:=[("line",.val (.bytes o))]) (r:=(.ret (.bytes t),J',O)) ?_ ?_ (Ac (Ab (J':=[("line",.val (.bytes o)),("codes",.own [])]) ?_ (Ab (J':=uqE o [] 0) ?_ (Ab (J':=J') (Da h1) ?_)))) rfl
 ·nofun
 ·nofun
 ·nofun
 ·nofun
 ·clear h1 hl hs
  rcases h2 with rfl | ⟨z,rfl⟩ <;>
  ·refine Az (Ax ?_ (Bb (ts:=[(.lst (Ad t),.bor)]) ?_ (Al ?_) hb) rfl) <;> nofun
noncomputable def unl(x:Nat):Nat:=if x=95 then 32 else x
theorem Xc:∀ c∈OB,(q1 c).map unl=q2 c:=by decide
theorem Qk{t:List Nat}(hs:∀ c∈t,c∈OB):(t.flatMap q1).map unl=t.flatMap q2:=by
 induction t with
 | nil=>rfl
 | cons c t ih=>(erw[iS,iS];refine i7 k8 (rwE (Xc c (hs c i8)) ?_);exact rwE (ih λ x hx=>hs x (i9 _ hx)) rfl)
def YM:hJ:=hd1 (C6 (hd1 (C6 (DI (Aa (bd 50) 0)))))
theorem Yw:∀ c∈OB,∀ x∈q2 c,x < 256:=by decide
theorem YI{t:List Nat}(hs:∀ c∈t,c∈OB)(hl:t.length<=900):cl (d+30) "word_q_decoded" [.bytes (t.flatMap q1)] O=some (.ok (.bytes t),O):=by
 obtain h1:=XV (d:=d+4) (O:=O) hs hl
 have hc:=BP (d:=d+25) (O:=O) (J:=[("octets",.val (.bytes (t.flatMap q1)))]) (csc:=Gl YM) (tgt:=D3 YM) (elt:=G1 YM) (x:="code") (f:=fun(n:Nat)=>V.int (unl n:Nat)) (toV:=fun(n:Nat)=>V.int (n:Int)) rfl (t.flatMap q1)
  (λ n _=>⟨(.int (unl n:Nat),.val),by
   refine AT (c:=decide ((n:Int)=95)) ?_ (λ q=>?_) λ q=>?_
   ·nofun
   ·unfold unl;erw[if_pos (by obtain this:=of_decide_eq_true q;exact nJ this)];nofun
   ·unfold unl;erw[if_neg (by obtain this:=of_decide_eq_false q;lia)];kernel_rfl,rfl⟩)
 have e1:((t.flatMap q1).map fun(n:Nat)=>V.int (unl n:Nat))=Ad (t.flatMap q2):=by(refine rwS (Qk hs) ?_;rw[Ad];erw[jR]);rfl
 rw[e1]at hc
 obtain hb:=Bi (t.flatMap q2) (λ x hx=>by
  refine A9 ((m9).mp hx) λ c h1 h2=>?_
  exact Yw c (hs c h1) x h2)
 refine Ap (fd:=⟨CO 50,[],Aj 50,bd 50⟩) (J:=[("octets",.val (.bytes (t.flatMap q1)))]) (r:=(.ret (.bytes t),[("octets",.val (.bytes (t.flatMap q1)))],O)) ?_ ?_ (Ac (Az (Ax (t:=(.bytes t,.val)) ?_ (Ar (ts:=[(.bytes (t.flatMap q2),.val)]) (vs:=[.bytes (t.flatMap q2)]) ?_ (Al (Bb (ts:=[(.lst (Ad (t.flatMap q2)),.fresh)]) ?_ (Al (Co (d:=d+25) (tgt:=D3 YM) (it:=Cc YM) (ifs:=[]) ?_ ?_ (Bt (t:=(.bytes (t.flatMap q1),.val)) (u:=.bytes (t.flatMap q1)) ?_ ?_ rfl rfl) ?_)) hb)) rfl h1) rfl))) rfl
 ·nofun
 ·nofun
 ·nofun
 ·nofun
 ·nofun
 ·nofun
 ·nofun
 ·nofun
 ·nofun
 ·exact hc
def BS(g:List Nat):List Nat:=(jE (g.length+1)).reverse.map λ p=>gtot g / 2 ^ (6 * p) % 64
noncomputable def tv(l:List Nat):Nat:=l.foldl (λ s j=>64 * s+j) 0
theorem U5(n:Nat):lT (n:Int) 255=((n % 256:Nat):Int):=by
 show(((n:Int).toNat &&& (255:Int).toNat:Nat):Int)=_
 erw[iZ]
 show((n &&& 255:Nat):Int)=_
 exact rwE (show(255:Nat)=2 ^ 8 - 1 from rfl) (rwE (qR ..) rfl)
abbrev XR(js:List Nat)(T:Int):R:=[("worth_row",.val (.lst (Ad js))),("total",.val (.int T))]
abbrev LR(js:List Nat)(T j:Int):R:=[("worth_row",.val (.lst (Ad js))),("total",.val (.int T)),("number",.val (.int j))]
abbrev JR(js:List Nat)(T j c s w:Int):R:=[("worth_row",.val (.lst (Ad js))),("total",.val (.int T)),("number",.val (.int j)),("count",.val (.int c)),("spare",.val (.int s)),("whole",.val (.int w))]
def R2:hJ:=hd1 (C6 (hd1 (Vg (DI (Aa (bd 7) 5)))))
theorem LG{js g:List Nat}{T:Nat}{j:Nat}{c s:Nat}{z:Int}{ps:List Nat}(hg:∀ c∈g,c < 256)
  (h1:Bh (exs (d+16)) (Aj 7) (Ck (Aa (bd 7) 1)) (Cl (Aa (bd 7) 1)) (Ad js) (XR js 0) O=some (.nxt,LR js (T:Nat) (j:Nat),O))
  (h2:∀ res,sq (d+16) (Aj 7) [Aa (bd 7) 5] (JR js (T:Nat) (j:Nat) (c:Nat) (s:Nat) ((T:Int).fdiv (2 ^ s))) O=res->sq (d+16) (Aj 7) [Aa (bd 7) 2,Aa (bd 7) 3,Aa (bd 7) 4,Aa (bd 7) 5] (LR js (T:Nat) (j:Nat)) O=res)
  (h3:BW [.int ((c:Int) - 1),.int (-1),.int (-1)]=some (ps.map fun(n:Nat)=>V.int (n:Int))) (hp:∀ p∈ps,p∈[2,1,0]) (hv:ps.map (λ p=>T / 2 ^ s / 2 ^ (8 * p) % 256)=g)
  (h4:ev (d+15) (Aj 7) (JR js (T:Nat) (j:Nat) (c:Nat) (s:Nat) ((T / 2 ^ s:Nat):Int)) (hd1 ((Vg (DI (Aa (bd 7) 5))).tail)) O=some (.ok (.int z,.val),O)) :
  cl (d+18) "group_octets" [.lst (Ad js)] O=some (.ok (.tup [.bytes g,.int z]),O):=by
 rw[Hh]at h2
 obtain hi:∀ p∈[2,1,0],ev (d+13) (Gl R2) (("place",.val (.int ((p:Nat):Int)))::JR js (T:Nat) (j:Nat) (c:Nat) (s:Nat) ((T / 2 ^ s:Nat):Int)) (G1 R2) O=some (.ok (.int (lT (((T / 2 ^ s:Nat):Int).fdiv (2 ^ (8 * p))) 255),.val),O):=by
  repeat (refine (iK).mpr ⟨by nofun,?_⟩)
  exact λ _ h=>nomatch h
 obtain hc:=BP (d:=d+13) (O:=O) (J:=JR js (T:Nat) (j:Nat) (c:Nat) (s:Nat) ((T / 2 ^ s:Nat):Int)) (csc:=Gl R2) (tgt:=D3 R2) (elt:=G1 R2) (x:="place") (f:=λ p=>V.int (T / 2 ^ s / 2 ^ (8 * p) % 256:Nat)) (toV:=fun(n:Nat)=>V.int (n:Int)) rfl ps
  (λ p fu=>⟨_,by
   obtain this:=hi p (hp p fu)
   rw[Hh,U5]at this
   exact this,rfl⟩)
 obtain e1:(ps.map λ p=>V.int (T / 2 ^ s / 2 ^ (8 * p) % 256:Nat))=Ad g:=by(refine rwS hv ?_;rw[Ad];erw[jR]);rfl
 rw[e1]at hc
 generalize T / 2 ^ s=w at *
 refine Ap (fd:=⟨CO 7,[],Aj 7,bd 7⟩) (J:=[("worth_row",.val (.lst (Ad js)))]) (r:=(.ret (.tup [.bytes g,.int z]),JR js (T:Nat) (j:Nat) (c:Nat) (s:Nat) (w:Nat),O)) ?_ ?_ (Ac (Ab (J':=XR js 0) ?_ ((BK ?_ (Bt (t:=(.lst (Ad js),.val)) (u:=.lst (Ad js)) ?_ ?_ rfl rfl) h1).trans (thn_nxt rfl (h2 _ (Az (Ax (t:=(.tup [.bytes g,.int z],.val)) ?_ (GA (ts:=[(.bytes g,.val),(.int z,.val)]) ?_ (AO (Bb (ts:=[(.lst (Ad g),.fresh)]) ?_ (Al (Co (d:=d+13) (tgt:=D3 R2) (it:=Cc R2) (ifs:=[]) ?_ ?_ (Bx (as:=AQ (Cc R2)) ?_ ?_ ((λ x=>by kernel_rfl:∀ (x:Int),Mo.mapM (ev (d+13) (Aj 7) (JR js (T:Nat) (j:Nat) (c:Nat) (s:Nat) x)) (AQ (Cc R2)) O=some (.ok [(.int ((c:Int) - 1),.val),(.int (-1),.val),(.int (-1),.val)],O)) _) h3) ?_)) (Bi g hg)) h4) rfl (Ai (by decide:2<=2000000))) rfl))))))) rfl
 ·nofun
 ·nofun
 ·nofun
 ·nofun
 ·nofun
 ·nofun
 ·nofun
 ·nofun
 ·nofun
 ·nofun
 ·nofun
 ·nofun
 ·nofun
 ·exact hc
theorem TJ{js:List Nat}(l:List Nat):∀ (T:Nat) {J:R} (x:Nat),(J=XR js (T:Nat)\/∃ j,J=LR js (T:Nat) j)->∃ j:Nat,Bh (exs (d+16)) (Aj 7) (Ck (Aa (bd 7) 1)) (Cl (Aa (bd 7) 1)) (Ad (x::l)) J O=some (.nxt,LR js ((x::l).foldl (λ s j=>64 * s+j) T:Nat) (j:Nat),O):=by
 induction l with
 | nil=>
  intro T J x aj
  refine⟨x,AV (xs:=[("number",.int (x:Nat))]) (by kernel_rfl) ?_ for_nil⟩
  rcases aj with rfl | ⟨j,rfl⟩ <;> kernel_rfl
 | cons y l ih=>
  intro T J x aj
  refine qE (ih (64 * T+x) (J:=LR js ((64 * T+x:Nat):Int) (x:Nat)) y (.inr ⟨_,rfl⟩)) λ j k=>⟨j,AV (xs:=[("number",.int (x:Nat))]) (by kernel_rfl) (J':=LR js ((64 * T+x:Nat):Int) (x:Nat)) ?_ k⟩
  rcases aj with rfl | ⟨j,rfl⟩ <;> kernel_rfl
abbrev Va(js:List Nat)(T j c:Int):R:=[("worth_row",.val (.lst (Ad js))),("total",.val (.int T)),("number",.val (.int j)),("count",.val (.int c))]
abbrev VT(js:List Nat)(T j c s:Int):R:=[("worth_row",.val (.lst (Ad js))),("total",.val (.int T)),("number",.val (.int j)),("count",.val (.int c)),("spare",.val (.int s))]
theorem DP(g:List Nat):(BS g).length=g.length+1:=by unfold BS;(refine i7 (iH ..) (i7 List.length_reverse ?_);exact kY)
theorem TQ(g:List Nat):∃ x l,BS g=x::l:=oQ λ z=>by obtain this:=DP g;replace this:=z▸this;cases this
theorem NZ(n:Nat):64 * (n / 64)+n % 64=n:=Nat.div_add_mod n 64
theorem dd(n a b c:Nat)(h:a * b=c):n / c=n / a / b:=rwS h (rwE (Nat.div_div_eq_div_mul ..) rfl)
theorem tv1{T:Nat}(h:T < 4096):64 * (64 * 0+T / 64 % 64)+T / 1 % 64=T:=by
 (erw[m7 (mC h),sD];erw[kF,oE];exact(NZ ..))
theorem tv2{T:Nat}(h:T < 262144):64 * (64 * (64 * 0+T / 4096 % 64)+T / 64 % 64)+T / 1 % 64=T:=by
 (erw[dd T 64 64 4096 rfl,m7 (mC (mC h))];erw[sD,kF];erw[NZ,oE];exact(NZ ..))
theorem tv3{T:Nat}(h:T < 16777216):64 * (64 * (64 * (64 * 0+T / 262144 % 64)+T / 4096 % 64)+T / 64 % 64)+T / 1 % 64=T:=by
 rw[dd T 4096 64 262144 rfl,dd T 64 64 4096 rfl,m7 (mC (mC (mC h))),sD,kF,NZ,NZ,oE,NZ]
theorem Ri{q r:Nat}(h:r < 256):(256 * q+r) / 256=q:=by(rw[Nat.mul_add_div (by decide)];exact rwE (Nat.div_eq_of_lt h) (pN ..))
theorem IB{q r:Nat}(h:r < 256):(256 * q+r) % 256=r:=i7 (Nat.mul_add_mod ..) (m7 h)
theorem by1{a:Nat}(ha:a < 256):(256 * 0+a) * 16 / 16 / 1 % 256=a:=by
 (erw[q9 _ (by decide),oE];exact(IB ha))
theorem by2{a b:Nat}(ha:a < 256)(hb:b < 256):(256 * (256 * 0+a)+b) * 4 / 4 / 256 % 256=a/\(256 * (256 * 0+a)+b) * 4 / 4 / 1 % 256=b:=by
 (erw[q9 _ (by decide),oE];erw[Ri hb,IB hb];erw[IB ha])
 exact⟨rfl,rfl⟩
theorem by3{a b c:Nat}(ha:a < 256)(hb:b < 256)(hc:c < 256):(256 * (256 * (256 * 0+a)+b)+c) * 1 / 1 / 65536 % 256=a/\(256 * (256 * (256 * 0+a)+b)+c) * 1 / 1 / 256 % 256=b/\(256 * (256 * (256 * 0+a)+b)+c) * 1 / 1 / 1 % 256=c:=by
 rw[tC,oE,oE,dd _ 256 256 65536 rfl,Ri hc,Ri hb,IB hb,IB hc,IB ha]
 exact iAA rfl rfl rfl
theorem lb{x m b:Nat}(hx:x < m)(hb:b < 256):256 * x+b < 256 * m:=jK (rH hb _) (iP 256 hx)
theorem lm{x m k n:Nat}(hx:x < m)(hk:0 < k)(e:m * k=n):x * k < n:=e▸Nat.mul_lt_mul_of_pos_right hx hk
theorem p_go{g:List Nat}(h0:g≠[])(hl:g.length<=3)(ht:∀ c∈g,c < 256):∃ z,cl (d+18) "group_octets" [.lst (Ad (BS g))] O=some (.ok (.tup [.bytes g,.int z]),O):=by
 obtain L:∃ j:Nat,Bh (exs (d+16)) (Aj 7) (Ck (Aa (bd 7) 1)) (Cl (Aa (bd 7) 1)) (Ad (BS g)) (XR (BS g) 0) O=some (.nxt,LR (BS g) (tv (BS g):Nat) (j:Nat),O):=by
  refine Ha (TQ g) λ x l e=>?_
  obtain this:=TJ (d:=d) (O:=O) (js:=BS g) l 0 (J:=XR (BS g) (0:Nat)) x (.inl rfl)
  obtain this:=sJ e▸this
  exact this
 obtain⟨j,L⟩:=L
 rcases g with _ | ⟨a,_ | ⟨b,_ | ⟨c,_ | ⟨_,_⟩⟩⟩⟩
 ·exact absurd rfl h0
 ·obtain ha:=ht a i8
  have eT:tv (BS [a])=gtot [a]:=by
   have:=(show(256 * 0+a) * 16 < 4096 from lm (m:=256) (lb (x:=0) (m:=1) uM ha) (by decide) rfl)
   exact tv1 this
  replace L:=eT▸L
  have hv : [0].map (λ p=>gtot [a] / 2 ^ 4 / 2 ^ (8 * p) % 256)=[a]:=by
   show [(256 * 0+a) * 16 / 16 / 1 % 256]=[a]
   exact rwE (by1 ha) rfl
  generalize gtot [a]=T at *
  refine⟨_,LG (T:=T) (j:=j) (c:=1) (s:=4) (ps:=[0]) ht L (λ res q=>Ab (J':=Va (BS [a]) (T:Nat) (j:Nat) 1) (by kernel_rfl) (Ab (J':=VT (BS [a]) (T:Nat) (j:Nat) 1 4) (by kernel_rfl) (Ab (J':=JR (BS [a]) (T:Nat) (j:Nat) 1 4 ((T:Int).fdiv (2 ^ 4))) (by kernel_rfl) q))) (by kernel_rfl) (by decide) hv (z:=lT (T:Int) 15) (by kernel_rfl)⟩
 ·have ha:=ht a i8
  have hb:=ht b (.tail _ (.head _))
  have eT:tv (BS [a,b])=gtot [a,b]:=by
   have:=(show(256 * (256 * 0+a)+b) * 4 < 262144 from lm (m:=65536) (lb (m:=256) (lb (x:=0) (m:=1) uM ha) hb) (by decide) rfl)
   show 64 * (64 * (64 * 0+gtot [a,b] / 4096 % 64)+gtot [a,b] / 64 % 64)+gtot [a,b] / 1 % 64=gtot [a,b]
   exact tv2 this
  replace L:=eT▸L
  have hv : [1,0].map (λ p=>gtot [a,b] / 2 ^ 2 / 2 ^ (8 * p) % 256)=[a,b]:=by
   show [(256 * (256 * 0+a)+b) * 4 / 4 / 256 % 256,(256 * (256 * 0+a)+b) * 4 / 4 / 1 % 256]=[a,b]
   exact rwE ((by2 ha hb).1) (rwE ((by2 ha hb).2) rfl)
  generalize gtot [a,b]=T at *
  refine⟨_,LG (T:=T) (j:=j) (c:=2) (s:=2) (ps:=[1,0]) ht L (λ res q=>Ab (J':=Va (BS [a,b]) (T:Nat) (j:Nat) 2) (by kernel_rfl) (Ab (J':=VT (BS [a,b]) (T:Nat) (j:Nat) 2 2) (by kernel_rfl) (Ab (J':=JR (BS [a,b]) (T:Nat) (j:Nat) 2 2 ((T:Int).fdiv (2 ^ 2))) (by kernel_rfl) q))) (by kernel_rfl) (by decide) hv (z:=lT (T:Int) 3) (by kernel_rfl)⟩
 ·obtain ha:=ht a i8
  have hb:=ht b (.tail _ (.head _))
  obtain hc:=ht c (.tail _ (.tail _ (.head _)))
  obtain eT:tv (BS [a,b,c])=gtot [a,b,c]:=by
   obtain e:gtot [a,b,c]=(256 * (256 * (256 * 0+a)+b)+c) * 1:=by kernel_rfl
   have:gtot [a,b,c] < 16777216:=by erw[e,tC];exact lb (m:=65536) (lb (m:=256) (lb (x:=0) (m:=1) uM ha) hb) hc
   exact(show tv (BS [a,b,c])=64 * (64 * (64 * (64 * 0+gtot [a,b,c] / 262144 % 64)+gtot [a,b,c] / 4096 % 64)+gtot [a,b,c] / 64 % 64)+gtot [a,b,c] / 1 % 64 by kernel_rfl).trans (tv3 this)
  rw[eT]at L
  obtain hv : [2,1,0].map (λ p=>gtot [a,b,c] / 2 ^ 0 / 2 ^ (8 * p) % 256)=[a,b,c]:=by
   refine WW (by3 ha hb hc) λ e1 e2 e3=>?_
   obtain e : [2,1,0].map (λ p=>gtot [a,b,c] / 2 ^ 0 / 2 ^ (8 * p) % 256)=[(256 * (256 * (256 * 0+a)+b)+c) * 1 / 1 / 65536 % 256,(256 * (256 * (256 * 0+a)+b)+c) * 1 / 1 / 256 % 256,(256 * (256 * (256 * 0+a)+b)+c) * 1 / 1 / 1 % 256]:=by kernel_rfl
   (refine i7 e (rwE e1 ?_);exact rwE e2 (rwE e3 rfl))
  generalize gtot [a,b,c]=T at *
  refine⟨_,LG (T:=T) (j:=j) (c:=3) (s:=0) (ps:=[2,1,0]) ht L (λ res q=>Ab (J':=Va (BS [a,b,c]) (T:Nat) (j:Nat) 3) (by kernel_rfl) (Ab (J':=VT (BS [a,b,c]) (T:Nat) (j:Nat) 3 0) (by kernel_rfl) (Ab (J':=JR (BS [a,b,c]) (T:Nat) (j:Nat) 3 0 ((T:Int).fdiv (2 ^ 0))) (by kernel_rfl) q))) (by kernel_rfl) (by decide) hv (z:=lT (T:Int) 0) (by kernel_rfl)⟩
 ·exact absurd hl (by simp only[i6];lia)
def WT:List (Int×Int):=(jE 64).map fun(i:Nat)=>((b64 i:Int),(i:Int))
theorem Ys:∀ i < 64,(WT.any λ p=>decide ((b64 i:Int)=p.1))=true:=by decide +kernel
theorem VG:∀ i < 64,BL WT (b64 i:Int)=some (i:Int):=by decide +kernel
theorem Vl:∀ i < 64,decide ((b64 i:Int)=61)=false:=by decide +kernel
theorem Wo{n:Nat}(h:n<=100000):BW [.int 0,.int (n:Int),.int 4]=some ((jE ((n+3) / 4)).map fun(k:Nat)=>V.int ((4 * k:Nat):Int)):=by
 show CJ 0 n 4=_
 obtain e:rangeL 0 (n:Int) 4=(jE ((n+3) / 4)).map fun(k:Nat)=>((4 * k:Nat):Int):=by
  unfold rangeL
  (refine BX (by decide) (rwE (show((n:Int) - 0+4 - 1).fdiv 4=(((n+3) / 4:Nat):Int) by refine i7 (kG _ (by decide)) ?_;lia) ?_);erw[iZ])
  exact mP λ k _=>by exact Int.add_comm ..
 unfold CJ
 (erw[e];rw[if_pos];erw[jR]);rfl
 refine iAA ⟨by decide,?_,by decide⟩ (by decide) ?_
 ·unfold small;simp only[iC,decide_eq_true_eq];lia
 ·erw[iH,kY];exact Ai (hZ (pV _ _) (hZ (kM h _) (by decide)))
abbrev deE(D:List Nat)(acc:List V):R:=[("data",.val (.bytes D)),("worths",.val (.idict WT)),("worth_row",.own acc)]
abbrev Ic(D:List Nat)(acc:List V)(c:Int):R:=[("data",.val (.bytes D)),("worths",.val (.idict WT)),("worth_row",.own acc),("code",.val (.int c))]
def Nc(D:List Nat)(acc:List V)(J:R):Prop:=J=deE D acc\/∃ c,J=Ic D acc c
def W1:List Stmt:=Cl (Aa (bd 12) 2)
theorem Uh{D:List Nat}{acc:List V}{i:Nat}{J:R}(hi:i < 64)(aj:Nc D acc J)(hz:acc.length<=1000000):exs (d+20) (Aj 12) (Aw J [("code",.val (.int (b64 i:Nat)))]) W1 O=some (.nxt,Ic D (acc++[.int (i:Nat)]) (b64 i:Nat),O):=by
 obtain e0:Aw J [("code",.val (.int (b64 i:Nat)))]=Ic D acc (b64 i:Nat):=by rcases aj with rfl | ⟨j,rfl⟩ <;> nofun
 erw[e0]
 obtain h1:=Vl i hi
 obtain h2:=Ys i hi
 obtain h3:=VG i hi
 generalize b64 i=c at *
 obtain t1:Bf (d+19) (Aj 12) (Ic D acc (c:Nat)) (Bz (Aa W1 0)) O=some (.ok (decide ((c:Int)=61)),O):=rfl
 rw[h1]at t1
 obtain c2:CK .In (.int (c:Nat)) (.idict WT)=some true:=by
  show some (WT.any λ p=>decide ((c:Int)=p.1))=_
  exact rwE h2 rfl
 obtain t2:Bf (d+19) (Aj 12) (Ic D acc (c:Nat)) (Bz (Aa W1 1)) O=some (.ok true,O):=by
  refine AN (a:=(.int (c:Nat),.val)) (b:=(.idict WT,.val)) ?_ ?_ ?_ c2 <;> nofun
 obtain it:Bg (.idict WT) (c:Int)=some (.int (i:Nat)):=by
  show(BL WT (c:Int)).map V.int=_
  erw[h3];rfl
 obtain e3:Be (d+18) (Aj 12) (Ic D acc (c:Nat)) O (Aa (Hl (Aa W1 1)) 0)=some (.nxt,Ic D (acc++[.int (i:Nat)]) (c:Nat),O):=by
  refine AX (ts:=[(.int (i:Nat),.val)]) ?_ (Al (Ay (t:=(.idict WT,.val)) (k:=(.int (c:Nat),.val)) ?_ ?_ ?_ rfl rfl it)) (AB (vs:=acc) ?_ rfl (Ao hz) ?_) <;> nofun
 exact Ac (An t1 (λ q=>(fls q)) λ _=>thn_nxt (J':=Ic D acc (c:Nat)) rfl (An t2 (λ _=>thn_nxt (Ac (AD e3)) sq_nil) λ q=>(nc j9 q (.refl false))))
theorem Vz{D:List Nat}{acc:List V}{J:R}(aj:Nc D acc J):exs (d+20) (Aj 12) (Aw J [("code",.val (.int (61:Nat)))]) W1 O=some (.brk,Ic D acc 61,O):=by
 rcases aj with rfl | ⟨j,rfl⟩ <;> nofun
theorem TA{D:List Nat}{p:Nat}(xb:List Nat):∀ {acc:List Nat} {J:R},(∀ i∈xb,i < 64)->acc.length+xb.length<=1000000->Nc D (Ad acc) J->∃ J',Nc D (Ad (acc++xb)) J' /\
  Bh (exs (d+20)) (Aj 12) (Ck (Aa (bd 12) 2)) W1 (Ad (xb.map b64++j1 p 61)) J O=some (.nxt,J',O):=by
 induction xb with
 | nil=>
  intro acc J _ _ aj
  (erw[iO,List.map_nil];erw[j4])
  cases p with
  | zero=>exact iEA J aj for_nil
  | succ p=>exact iEA (Ic D (Ad acc) 61) (.inr ⟨_,rfl⟩) (R3 (xs:=[("code",.int (61:Nat))]) rfl (Vz aj))
 | cons i xb ih=>
  intro acc J h hz aj
  replace hz:=i6▸hz
  obtain⟨J',k1,k2⟩:=ih (acc:=acc++[i]) (J:=Ic D (Ad acc++[.int (i:Nat)]) (b64 i:Nat)) (λ x hx=>h x (i9 _ hx)) (by erw[hW,iT];lia) (.inr ⟨_,by erw[AS];rfl⟩)
  rw[iF]at k1
  exact iEA J' k1 (AV (xs:=[("code",.int (b64 i:Nat))]) rfl (Uh (d:=d) (O:=O) (h i i8) aj (by erw[AH];exact jY hz)) k2)
def jx(t:List Nat)(m:Nat):List Nat:=(jE m).flatMap λ k=>BS (Cr t k)
noncomputable def G3(t:List Nat):Nat:=(t.length+2) / 3
theorem EM(t:List Nat)(m:Nat):jx t (m+1)=jx t m++BS (Cr t m):=by
 unfold jx;(refine rwE nC (i7 kE ?_);erw[iS,kD];exact rwE (iO ..) rfl)
theorem K2{t:List Nat}:∀ {m:Nat},3 * m<=t.length->(jx t m).length=4 * m:=fun {m} h=>by
 induction m with
 | zero=>rfl
 | succ m ih=>(refine rwE (EM ..) (i7 hW ?_);erw[ih (jB (jK (kR (by decide)) h)),DP];erw[Cw,kO (show 3<=t.length - 3 * m from qT h)]);rfl
theorem Ts(t:List Nat)(m:Nat):∀ n,∃ R,jx t (m+n)=jx t m++R/\(n=0->R=[]):=λ n=>by
 induction n with
 | zero=>exact iEA [] ((iO _).symm) (λ _=>rfl)
 | succ n ih=>
  exact A9 ih λ R h _=>iEA (R++BS (Cr t (m+n))) (by(refine rwS (mE ..) (i7 (EM ..) ?_);exact rwE h (iF ..))) (λ z=>nomatch z)
theorem KO{t:List Nat}{k:Nat}(hk:k < G3 t):((jx t (G3 t)).take (4 * k+4)).drop (4 * k)=BS (Cr t k)/\4 * k+1 < (jx t (G3 t)).length:=by
 obtain hk3:=gk (hk:k < (t.length+2) / 3)
 obtain l1:=K2 (t:=t) (m:=k) (jB hk3)
 obtain l2:=DP (Cr t k)
 rw[Cw]at l2
 refine A9 (Ts t (k+1) (G3 t - (k+1))) λ R h hR=>?_
 rw[show k+1+(G3 t - (k+1))=G3 t from rL hk,EM]at h
 erw[h]
 constructor
 ·by_cases q:k+1=G3 t
  ·(erw[hR (rwE q (uJ ..)),iO];exact rwE (kK (by(erw[hW,l1];erw[l2]);exact j5 (j6 (nE _ _)) _:(jx t k++BS (Cr t k)).length<=4 * k+4)) (qD l1))
  ·obtain q2:=gk (show k+1 < (t.length+2) / 3 from nX hk q)
   exact rwE (rT (by(refine i7 hW (rwE l1 ?_);exact rwE l2 (rwE (kO (show 3<=t.length - 3 * k from qT (jB q2))) rfl)))) (qD l1)
 ·(erw[hW,hW];erw[l1,l2]);grind
theorem PR(t:List Nat):((jx t (G3 t)).length+3) / 4=G3 t:=by
 cases h:G3 t with
 | zero=>rw[show jx t 0=[] from rfl];decide
 | succ m=>
  refine BG (g3 (h:(t.length+2) / 3=m+1)) λ r hr hn _=>?_
  rw[EM,hW,K2 (hn▸jF _ _),DP,Cw,hn,lN,kU (j6 hr),show 4 * m+(r+1+1)+3=4 * (m+1)+(r+1) by grind,Nat.mul_add_div (by decide),Nat.div_eq_of_lt (j6 (j6 hr))]
theorem Tg(t:List Nat):((jE (G3 t)).flatMap λ k=>Cr t k)=t:=by
 have:∀ m,((jE m).flatMap λ k=>Cr t k)=t.take (3 * m):=λ m=>by
  induction m with
  | zero=>rfl
  | succ m ih=>
   (refine rwE nC (i7 kE ?_);erw[ih,iS];erw[kD,iO];rw[Cr];erw[(show 3 * (m+1)=3 * m+3 by lia)])
   exact rwE List.take_add rfl
 exact i7 (this ..) (kK (by unfold G3;lia))
theorem PK(g:List Nat):gcs g=(BS g).map b64:=by unfold gcs BS;erw[jR];rfl
theorem QS(t:List Nat):pe t=(jx t (G3 t)).map b64:=by
 unfold pe jx
 exact rwE List.map_flatMap (congrArg (λ f=>(jE (G3 t)).flatMap f) (funext λ k=>PK _))
theorem UC(t:List Nat)(m:Nat):∀ i∈jx t m,i < 64:=λ i hi=>by
 refine A9 ((m9).mp hi) λ k _ h=>?_
 exact A9 ((jV).mp h) λ p _ aa=>rwS aa (uS _ (by decide))
abbrev dfE(D xb:List Nat)(acc:List V):R:=[("data",.val (.bytes D)),("worths",.val (.idict WT)),("worth_row",.own (Ad xb)),("found",.own acc)]
abbrev Qe(D xb:List Nat)(acc:List V)(b:Int):R:=[("data",.val (.bytes D)),("worths",.val (.idict WT)),("worth_row",.own (Ad xb)),("found",.own acc),("begin",.val (.int b))]
abbrev Yu(D xb:List Nat)(acc:List V)(c:Int):R:=[("data",.val (.bytes D)),("worths",.val (.idict WT)),("worth_row",.own (Ad xb)),("code",.val (.int c)),("found",.own acc)]
abbrev Ku(D xb:List Nat)(acc:List V)(c b:Int):R:=[("data",.val (.bytes D)),("worths",.val (.idict WT)),("worth_row",.own (Ad xb)),("code",.val (.int c)),("found",.own acc),("begin",.val (.int b))]
def M4(D xb:List Nat)(acc:List V)(J:R):Prop:=((J=dfE D xb acc\/∃ b,J=Qe D xb acc b)\/∃ c,J=Yu D xb acc c\/∃ b,J=Ku D xb acc c b)
def dfB:List Stmt:=Cl (Aa (bd 12) 4)
theorem Of(xb:List Nat)(a b:Nat):Bo (.lst (Ad xb)) (some (a:Int)) (some (b:Int))=some (.lst (Ad ((xb.take b).drop a))):=by
 show some (V.lst (Au (Ad xb) _ _))=_
 erw[DH]
 unfold Ad
 exact rwE List.map_drop (rwE tE rfl)
theorem RK{D xb g:List Nat}{acc:List V}{J:R}{k:Nat}(h0:g≠[])(hg:g.length<=3)(ht:∀ c∈g,c < 256)(hs:(xb.take (4 * k+4)).drop (4 * k)=BS g)(hl:4 * k+1 < xb.length)(aj:M4 D xb acc J)(hz:acc.length<=1000000) :
  ∃ J',exs (d+26) (Aj 12) (Aw J [("begin",.val (.int ((4 * k:Nat):Int)))]) dfB O=some (.nxt,J',O)/\M4 D xb (acc++[.bytes g]) J':=by
 refine qE (p_go (d:=d+4) (O:=O) h0 hg ht) λ z hgo=>?_
 obtain fB:=Of xb (4 * k) (4 * k+4)
 rw[hs]at fB
 obtain aH:decide (((xb.length:Nat):Int) - ((4 * k:Nat):Int) > 1)=true:=decide_eq_true (by lia)
 have xc:∀ J1:R,∀ J2:R,(Bf (d+25) (Aj 12) J1 (Bz (Aa dfB 0)) O=some (.ok (decide (((Ad xb).length:Int) - ((4 * k:Nat):Int) > 1)),O))->(∀ d p,ev (d+1) (Aj 12) J1 (.Name "worth_row" p) O=some (.ok (.lst (Ad xb),.bor),O)) ->
   (∀ d p,ev (d+1) (Aj 12) J1 (.Name "begin" p) O=some (.ok (.int ((4 * k:Nat):Int),.val),O))->(De J1 "found"=true)->(J1.lookup ("found" : hV)=some (.own acc))->(BE J1 "found" (.own (acc++[V.bytes g]))=J2)->exs (d+26) (Aj 12) J1 dfB O=some (.nxt,J2,O):=λ J1 J2 m1 m2 m3 m4 m5 m6=>by
  rw[AH,aH]at m1
  refine Ac (An m1 (λ _=>thn_nxt (J':=J2) (Ac (AD (AX (ts:=[(.bytes g,.val)]) ?_ (Al (Ay (t:=(.tup [.bytes g,.int z],.val)) (k:=(.int 0,.val)) ?_ (Ar (ts:=[(.lst (Ad (BS g)),.fresh)]) (vs:=[.lst (Ad (BS g))]) ?_ (Al (AZ (t:=(.lst (Ad xb),.bor)) (a:=(.int ((4 * k:Nat):Int),.val)) (b:=(.int ((4 * k+4:Nat):Int),.val)) (m2 _ _) (m3 _ _) (Aq (a:=(.int ((4 * k:Nat):Int),.val)) (b:=(.int 4,.val)) (m3 _ _) ?_ ?_) rfl rfl fB)) rfl hgo) ?_ rfl rfl rfl)) (AB m5 rfl (Ao hz) m6)))) sq_nil) λ q=>(nc j9 q (.refl false)))
  ·show(_&&_&&De J1 "found"&&_&&_&&_&&_)=true
   erw[m4];nofun
  all_goals nofun
 rcases aj with (rfl | ⟨b,rfl⟩) | ⟨c,rfl | ⟨b,rfl⟩⟩
 ·exact iEA (Qe D xb (acc++[.bytes g]) ((4 * k:Nat):Int)) (xc (Qe D xb acc ((4 * k:Nat):Int)) _ rfl (λ _ _=>by nofun) (λ _ _=>by nofun) rfl rfl rfl) (.inl (.inr ⟨_,rfl⟩))
 ·exact iEA (Qe D xb (acc++[.bytes g]) ((4 * k:Nat):Int)) (xc (Qe D xb acc ((4 * k:Nat):Int)) _ rfl (λ _ _=>by nofun) (λ _ _=>by nofun) rfl rfl rfl) (.inl (.inr ⟨_,rfl⟩))
 ·exact iEA (Ku D xb (acc++[.bytes g]) c ((4 * k:Nat):Int)) (xc (Ku D xb acc c ((4 * k:Nat):Int)) _ rfl (λ _ _=>by nofun) (λ _ _=>by nofun) rfl rfl rfl) (.inr ⟨_,.inr ⟨_,rfl⟩⟩)
 ·exact iEA (Ku D xb (acc++[.bytes g]) c ((4 * k:Nat):Int)) (xc (Ku D xb acc c ((4 * k:Nat):Int)) _ rfl (λ _ _=>by nofun) (λ _ _=>by nofun) rfl rfl rfl) (.inr ⟨_,.inr ⟨_,rfl⟩⟩)
theorem Xu(t:List Nat)(m:Nat):(jx t m).length<=4 * m:=by
 induction m with
 | zero=>exact j3 _
 | succ m ih=>rw[EM,hW,DP];have:=CE t m;lia
theorem N8{t:List Nat}(ht:∀ c∈t,c < 256)(hl:t.length<=900):cl (d+28) "decoded" [.bytes (b64enc t)] O=some (.ok (.bytes t),O):=by
 refine AK λ Z zk=>?_
 have hD:b64enc t=(jx t (G3 t)).map b64++j1 (pad t.length) 61:=by unfold b64enc;rw[QS]
 have jl:=Xu t (G3 t)
 have gl:G3 t<=301:=by unfold G3;lia
 obtain⟨J1,k1,k2⟩:=TA (d:=d+6) (O:=O) (D:=b64enc t) (p:=pad t.length) (jx t (G3 t)) (acc:=[]) (J:=deE (b64enc t) []) (UC t _) (by rw[iM];lia) (.inl rfl)
 rw[<-hD]at k2
 rw[j4]at k1
 obtain⟨J2,k3,k4⟩:∃ J2,Be (d+26) (Aj 12) J1 O (Aa (bd 12) 3)=some (.nxt,J2,O)/\M4 (b64enc t) (jx t (G3 t)) [] J2:=by
  rcases k1 with rfl | ⟨c,rfl⟩
  ·exact iEA (dfE (b64enc t) (jx t (G3 t)) []) (by kernel_rfl) (.inl (.inl rfl))
  ·exact iEA (Yu (b64enc t) (jx t (G3 t)) [] c) (by kernel_rfl) (.inr ⟨c,.inl rfl⟩)
 have hr:=Wo (n:=(jx t (G3 t)).length) (hZ jl (hZ (iP _ gl) (by decide)))
 rw[PR]at hr
 have a1:Mo.mapM (ev (d+26) (Aj 12) J2) (AQ (G7 (Aa (bd 12) 4))) O=some (.ok [(.int 0,.val),(.int ((Ad (jx t (G3 t))).length:Nat),.val),(.int 4,.val)],O):=by
  rcases k4 with (rfl | ⟨b,rfl⟩) | ⟨c,rfl | ⟨b,rfl⟩⟩ <;> kernel_rfl
 rw[AH]at a1
 obtain⟨bj,k5,k6⟩:=EJ (O:=O) (Xf:=exs (d+26)) (sc:=Aj 12) (tgt:=Ck (Aa (bd 12) 4)) (body:=dfB) (x:="begin") (toV:=fun(k:Nat)=>V.int ((4 * k:Nat):Int)) (Inv:=M4 (b64enc t) (jx t (G3 t))) (g:=λ k=>[V.bytes (Cr t k)]) (B:=1000000) (by kernel_rfl) (jE (G3 t))
  (λ k hk acc J h hz=>by
   have hk:=(mJ).mp hk
   exact RK (d:=d) (Mg hk) (CE t k) (λ c hc=>ht c (k9 (jW hc))) (KO hk).1 (KO hk).2 h hz) (acc:=[]) (J:=J2) k4 (by rw[Dm,iH,kY,iM];exact hZ (j5 gl _) (by decide))
 rw[j4,Dm]at k6
 have hj:=Kf ((jE (G3 t)).map λ k=>Cr t k) (by
  have:=FX ((jE (G3 t)).map λ k=>Cr t k) 3 (λ c hc=>by
   refine A9 ((jV).mp hc) λ k _ aa=>?_;subst aa
   exact CE t k)
  rw[iH,kY]at this
  exact Ai (hZ this (hZ (iP _ gl) (by decide))))
 rw[<-List.flatMap_def,Tg,bts,jR]at hj
 have k6:=k6
 refine zk ?_
 generalize tM (V.bytes ∘ λ k=>Cr t k) (jE (G3 t))=vs at hj k6
 generalize b64enc t=D at *
 generalize jx t (G3 t)=xb at *
 refine Ap (fd:=⟨CO 12,[],Aj 12,bd 12⟩) (J:=[("data",.val (.bytes D))]) (r:=(.ret (.bytes t),bj,O)) ?_ ?_ (Ac (Ab (J':=[("data",.val (.bytes D)),("worths",.val (.idict WT))]) ?_ (Ab (J':=deE D []) ?_ ((BK ?_ (Bt (t:=(.bytes D,.val)) (u:=.bytes D) ?_ ?_ rfl rfl) k2).trans (thn_nxt rfl (Ab k3 ((BK ?_ (Bx (as:=AQ (G7 (Aa (bd 12) 4))) ?_ ?_ a1 hr) k5).trans (thn_nxt rfl ?_)))))))) rfl
 ·kernel_rfl
 ·kernel_rfl
 ·kernel_rfl
 ·kernel_rfl
 ·kernel_rfl
 ·kernel_rfl
 ·kernel_rfl
 ·kernel_rfl
 ·kernel_rfl
 ·kernel_rfl
 ·clear a1 gl hD hl hr ht jl k1 k2 k3 k4 k5
  rcases k6 with (rfl | ⟨b,rfl⟩) | ⟨c,rfl | ⟨b,rfl⟩⟩ <;>
  ·refine Az (Ax (t:=(.bytes t,.val)) ?_ (CG (t:=(.bytes [],.val)) (ts:=[(.lst vs,.bor)]) ?_ ?_ ?_ (Al ?_) hj) rfl) <;> kernel_rfl
noncomputable abbrev usE(o:List Nat)(a:Nat):R:=[("octets",.val (.bytes o)),("at",.val (.int (a:Nat)))]
noncomputable abbrev OE(o:List Nat)(a b:Nat):R:=[("octets",.val (.bytes o)),("at",.val (.int (a:Nat))),("lead",.val (.int (b:Nat)))]
noncomputable abbrev Pu(o:List Nat)(a b:Nat)(l m c z:Int):R:=[("octets",.val (.bytes o)),("at",.val (.int (a:Nat))),("lead",.val (.int (b:Nat))),("least",.val (.int l)),("most",.val (.int m)),("count",.val (.int c)),("code",.val (.int z))]
noncomputable abbrev Ly(o:List Nat)(a b:Nat)(l m c z p:Int):R:=[("octets",.val (.bytes o)),("at",.val (.int (a:Nat))),("lead",.val (.int (b:Nat))),("least",.val (.int l)),("most",.val (.int m)),("count",.val (.int c)),("code",.val (.int z)),("place",.val (.int p))]
def usB:List Stmt:=Cl (Aa (bd 31) 5)
theorem Gz{o:List Nat}{a b0 p b:Nat}{l m n z z':Int}(hi:Bg (.bytes o) ((a+p:Nat):Int)=some (.int (b:Nat)))(hl:a+p < o.length)(hb:(decide (l<=(b:Int))&&decide ((b:Int)<=m))=true)(hz:z * 64+(b:Int).fmod 64=z') :
  exs (d+14) (Aj 31) (Ly o a b0 l m n z (p:Nat)) usB O=some (.nxt,Ly o a b0 128 191 n z' (p:Nat),O):=by
 obtain aH:decide (((a+p:Nat):Int) >= (o.length:Int))=false:=decide_eq_false (by lia)
 obtain t1:Bf (d+13) (Aj 31) (Ly o a b0 l m n z (p:Nat)) (Bz (Aa usB 0)) O=some (.ok (decide (((a+p:Nat):Int) >= (o.length:Int))||!(decide (l<=(b:Int))&&decide ((b:Int)<=m))),O):=by
  refine Jg ?_ λ _=>Dq (He (a:=(.int l,.val)) (b:=(.int (b:Nat),.val)) (c:=(.int m,.val)) ?_ ?_ (Ay (t:=(.bytes o,.val)) (k:=(.int ((a+p:Nat):Int),.val)) ?_ ?_ ?_ rfl rfl hi) ?_ ?_ ?_) <;> nofun
 rw[aH,hb]at t1
 refine Ac (An t1 (λ q=>(fls q)) λ _=>thn_nxt (J':=Ly o a b0 l m n z (p:Nat)) rfl (Ab (J':=Ly o a b0 l m n z' (p:Nat)) (Af (t:=(.int z',.val)) (s:=.val (.int z')) ?_ (Aq (a:=(.int (z * 64),.val)) (b:=(.int ((b:Int).fmod 64),.val)) (Aq (a:=(.int z,.val)) (b:=(.int 64,.val)) ?_ ?_ (QP (.inr (by decide)):A1 .Mult (.int z) (.int 64)=some (.int (z * 64)))) (Aq (a:=(.int (b:Nat),.val)) (b:=(.int 64,.val)) (Ay (t:=(.bytes o,.val)) (k:=(.int ((a+p:Nat):Int),.val)) ?_ ?_ ?_ rfl rfl hi) ?_ ?_) (by refine rwS hz ?_;rfl:A1 .Add (.int (z * 64)) (.int ((b:Int).fmod 64))=some (.int z'))) rfl ?_) (AD ?_))) <;> nofun
theorem Nl{o:List Nat}{a b:Nat}(hi:Bg (.bytes o) (a:Int)=some (.int (b:Nat))):Be (d+16) (Aj 31) (usE o a) O (Aa (bd 31) 0)=some (.nxt,OE o a b,O):=by
 refine Af (t:=(.int (b:Nat),.val)) (s:=.val (.int (b:Nat))) ?_ (Ay (t:=(.bytes o,.val)) (k:=(.int (a:Nat),.val)) ?_ ?_ ?_ rfl rfl hi) rfl ?_ <;> nofun
theorem U1{o:List Nat}{a c:Nat}(hi:Bg (.bytes o) (a:Int)=some (.int (c:Nat)))(h:c < 128):cl (d+18) "utf8_sign" [.bytes o,.int (a:Nat)] O=some (.ok (.tup [.int (c:Nat),.int 1]),O):=by
 refine Ap (fd:=⟨CO 31,[],Aj 31,bd 31⟩) (J:=usE o a) (r:=(.ret (.tup [.int (c:Nat),.int 1]),OE o a c,O)) ?_ ?_ (Ac (Ab (Nl hi) (An (c:=decide ((c:Int) < 128)) ?_ (λ _=>BQ (r:=(.ret (.tup [.int (c:Nat),.int 1]),OE o a c,O)) ?_ rfl) λ q=>?_))) rfl
 ·nofun
 ·nofun
 ·nofun
 ·nofun
 ·obtain this:=of_decide_eq_false q;exact absurd ((jU).mpr h) this
theorem JK{o:List Nat}{a b:Nat}{l m z:Int}{n c:Nat}{l' m' p':Int}(hi:Bg (.bytes o) (a:Int)=some (.int (b:Nat)))(h1:Bf (d+16) (Aj 31) (OE o a b) (Bz (Aa (bd 31) 1)) O=some (.ok false,O))
  (h2:∀ res,sq (d+16) (Aj 31) [Aa (bd 31) 5,Aa (bd 31) 6] (Pu o a b l m (n:Nat) z) O=res->sq (d+16) (Aj 31) [Aa (bd 31) 2,Aa (bd 31) 3,Aa (bd 31) 4,Aa (bd 31) 5,Aa (bd 31) 6] (OE o a b) O=res)
  (h3:BW [.int 1,.int ((n+1:Nat):Int)]=some (IW 1 n)) (h4:Bh (exs (d+16)) (Aj 31) (Ck (Aa (bd 31) 5)) usB (IW 1 n) (Pu o a b l m (n:Nat) z) O=some (.nxt,Ly o a b l' m' (n:Nat) (c:Nat) p',O)) :
  cl (d+18) "utf8_sign" [.bytes o,.int (a:Nat)] O=some (.ok (.tup [.int (c:Nat),.int ((n+1:Nat):Int)]),O):=by
 refine Ap (fd:=⟨CO 31,[],Aj 31,bd 31⟩) (J:=usE o a) (r:=(.ret (.tup [.int (c:Nat),.int ((n+1:Nat):Int)]),Ly o a b l' m' (n:Nat) (c:Nat) p',O)) ?_ ?_ (Ac (Ab (Nl hi) (An h1 (λ q=>(fls q)) λ _=>thn_nxt (J':=OE o a b) rfl (h2 _ ((BK ?_ (Bx (as:=AQ (G7 (Aa (bd 31) 5))) (ts:=[(.int 1,.val),(.int ((n+1:Nat):Int),.val)]) ?_ ?_ ?_ h3) h4).trans (thn_nxt rfl (Az (Ax (t:=(.tup [.int (c:Nat),.int ((n+1:Nat):Int)],.val)) ?_ ?_ rfl)))))))) rfl <;> nofun
theorem Cd{o X Y:List Nat}{l:List Nat}(e:o=X++(l++Y)){i c:Nat}(h:l[i]?=some c):Bg (.bytes o) ((X.length+i:Nat):Int)=some (.int (c:Nat))/\X.length+i < o.length:=by
 obtain hi:i < l.length:=by
  refine jP (uG i l.length) (λ q=>?_) λ q=>?_
  ·exact q
  ·obtain h:=eqL (uN q) h;exact none_some h
 constructor
 ·show(if (0:Int)<=((X.length+i:Nat):Int) then(o[((X.length+i:Nat):Int).toNat]?).map fun(c:Nat)=>V.int (c:Int) else none)=_
  (refine BX (iV _) (rwE (iZ ..) ?_);erw[e,mX (jF _ _)];erw[lN,sN hi];erw[h]);rfl
 ·(erw[e,hW];erw[hW]);lia
theorem W6{o X Y:List Nat}{b1 c:Nat}(e:o=X++([195,b1]++Y))(hb:(decide ((128:Int)<=(b1:Int))&&decide ((b1:Int)<=191))=true)(hz:(3:Int) * 64+(b1:Int).fmod 64=(c:Int)):cl (d+18) "utf8_sign" [.bytes o,.int (X.length:Nat)] O=some (.ok (.tup [.int (c:Nat),.int ((1+1:Nat):Int)]),O):=by
 refine qA (Cd e (i:=0) (c:=195) rfl) λ i0 _=>qA (Cd e (i:=1) (c:=b1) rfl) λ i1 l1=>?_
 refine JK (b:=195) (l:=128) (m:=191) (z:=3) (n:=1) i0 rfl (λ res q=>Ab (J':=[("octets",.val (.bytes o)),("at",.val (.int (X.length:Nat))),("lead",.val (.int (195:Nat))),("least",.val (.int 128)),("most",.val (.int 191)),("count",.val (.int 1))]) rfl (An (c:=false) rfl (λ q=>(fls q)) λ _=>thn_nxt (J':=[("octets",.val (.bytes o)),("at",.val (.int (X.length:Nat))),("lead",.val (.int (195:Nat))),("least",.val (.int 128)),("most",.val (.int 191)),("count",.val (.int 1))]) rfl (Ab (J':=Pu o X.length 195 128 191 (1:Nat) 3) rfl q)))
  rfl (AV (xs:=[("place",.int (1:Nat))]) rfl (Gz (d:=d+2) i1 l1 hb hz) for_nil)
theorem YJ{o X Y:List Nat}(e:o=X++([226,130,172]++Y)):cl (d+18) "utf8_sign" [.bytes o,.int (X.length:Nat)] O=some (.ok (.tup [.int (8364:Nat),.int ((2+1:Nat):Int)]),O):=by
 refine qA (Cd e (i:=0) (c:=226) rfl) λ i0 _=>qA (Cd e (i:=1) (c:=130) rfl) λ i1 l1=>qA (Cd e (i:=2) (c:=172) rfl) λ i2 l2=>?_
 refine JK (b:=226) (l:=128) (m:=191) (z:=2) (n:=2) i0 rfl (λ res q=>Ab (J':=[("octets",.val (.bytes o)),("at",.val (.int (X.length:Nat))),("lead",.val (.int (226:Nat))),("least",.val (.int 128)),("most",.val (.int 191)),("count",.val (.int 2))]) rfl (An (c:=false) rfl (λ q=>(fls q)) λ _=>thn_nxt (J':=[("octets",.val (.bytes o)),("at",.val (.int (X.length:Nat))),("lead",.val (.int (226:Nat))),("least",.val (.int 128)),("most",.val (.int 191)),("count",.val (.int 2))]) rfl (Ab (J':=Pu o X.length 226 128 191 (2:Nat) 2) rfl q)))
  rfl (AV (xs:=[("place",.int (1:Nat))]) rfl (Gz (d:=d+2) (z':=130) i1 l1 (by decide) (by decide)) (AV (xs:=[("place",.int (2:Nat))]) rfl (Gz (d:=d+2) i2 l2 (by decide) (by decide)) for_nil))
theorem Xy{o X Y:List Nat}(e:o=X++([240,159,152,128]++Y)):cl (d+18) "utf8_sign" [.bytes o,.int (X.length:Nat)] O=some (.ok (.tup [.int (128512:Nat),.int ((3+1:Nat):Int)]),O):=by
 refine qA (Cd e (i:=0) (c:=240) rfl) λ i0 _=>qA (Cd e (i:=1) (c:=159) rfl) λ i1 l1=>qA (Cd e (i:=2) (c:=152) rfl) λ i2 l2=>qA (Cd e (i:=3) (c:=128) rfl) λ i3 l3=>?_
 refine JK (b:=240) (l:=144) (m:=191) (z:=0) (n:=3) i0 rfl (λ res q=>Ab (J':=[("octets",.val (.bytes o)),("at",.val (.int (X.length:Nat))),("lead",.val (.int (240:Nat))),("least",.val (.int 144)),("most",.val (.int 191)),("count",.val (.int 3))]) rfl (An (c:=false) rfl (λ q=>(fls q)) λ _=>thn_nxt (J':=[("octets",.val (.bytes o)),("at",.val (.int (X.length:Nat))),("lead",.val (.int (240:Nat))),("least",.val (.int 144)),("most",.val (.int 191)),("count",.val (.int 3))]) rfl (Ab (J':=Pu o X.length 240 144 191 (3:Nat) 0) rfl q)))
  rfl (AV (xs:=[("place",.int (1:Nat))]) rfl (Gz (d:=d+2) (z':=31) i1 l1 (by decide) (by decide)) (AV (xs:=[("place",.int (2:Nat))]) rfl (Gz (d:=d+2) (z':=2008) i2 l2 (by decide) (by decide)) (AV (xs:=[("place",.int (3:Nat))]) rfl (Gz (d:=d+2) i3 l3 (by decide) (by decide)) for_nil)))
theorem sg_cases:∀ c∈SG,(c < 128/\u8 c=[c])\/(u8 c=[195,(u8 c).getD 1 0]/\(decide ((128:Int)<=((u8 c).getD 1 0:Nat))&&decide (((u8 c).getD 1 0:Nat)<=(191:Int)))=true/\(3:Int) * 64+(((u8 c).getD 1 0:Nat):Int).fmod 64=(c:Int))\/(c=8364/\u8 c=[226,130,172])\/(c=128512/\u8 c=[240,159,152,128]):=by decide
theorem p_us{o X Y:List Nat}{c:Nat}(hc:c∈SG)(e:o=X++(u8 c++Y)):cl (d+18) "utf8_sign" [.bytes o,.int (X.length:Nat)] O=some (.ok (.tup [.int (c:Nat),.int ((u8 c).length:Nat)]),O):=by
 rcases sg_cases c hc with ⟨h,q⟩| ⟨q,h1,h2⟩| ⟨rfl,q⟩| ⟨rfl,q⟩
 ·rw[q]at e ⊢;exact U1 (Bw e) h
 ·generalize (u8 c).getD 1 0=b1 at *
  rw[q]at e ⊢;exact W6 e h1 h2
 ·rw[q]at e ⊢;exact YJ e
 ·rw[q]at e ⊢;exact Xy e
abbrev RG(k:Cs)(o:List Nat)(a:Nat):R:=[("charset",.val (.str k.name)),("octets",.val (.bytes o)),("at",.val (.int (a:Nat)))]
theorem XH(k:Cs){o X Y:List Nat}{c:Nat}(hc:c∈SG)(hk:k.has c=true)(e:o=X++(k.enc c++Y)):cl (d+22) "sign_at" [.str k.name,.bytes o,.int (X.length:Nat)] O=some (.ok (.tup [.int (c:Nat),.int ((k.enc c).length:Nat)]),O):=by
 obtain fin:∀ {v},sq (d+20) (Aj 32) (bd 32) (RG k o X.length) O=some (.ret v,RG k o X.length,O)->cl (d+22) "sign_at" [.str k.name,.bytes o,.int (X.length:Nat)] O=some (.ok v,O):=fun {v} q=>by
  refine Ap (fd:=⟨CO 32,[],Aj 32,bd 32⟩) (J:=RG k o X.length) (r:=(.ret v,RG k o X.length,O)) ?_ ?_ (Ac q) rfl <;> nofun
 cases k with
 | u=>
  refine fin (An (c:=true) ?_ (λ _=>BQ (r:=(.ret (.tup [.int (c:Nat),.int ((u8 c).length:Nat)]),RG .u o X.length,O)) (Ac (Az (Ax (t:=(.tup [.int (c:Nat),.int ((u8 c).length:Nat)],.val)) ?_ (Ar (ts:=[(.bytes o,.val),(.int (X.length:Nat),.val)]) (vs:=[.bytes o,.int (X.length:Nat)]) ?_ (AO ?_ ?_) rfl (p_us (d:=d) (O:=O) hc e)) rfl))) rfl) λ q=>(nc j9 q (.refl false))) <;> nofun
 | a=>
  obtain hi:=Bw e
  obtain aH:decide ((c:Int) > 127)=false:=decide_eq_false (by obtain this:=of_decide_eq_true hk;show ¬ (_ > _);simp only[Cs.most]at this;lia)
  obtain t1:Bf (d+20) (Aj 32) (RG .a o X.length) (Bz (Aa (bd 32) 1)) O=some (.ok (true&&decide ((c:Int) > 127)),O):=by
   refine Ba ?_ λ _=>AN (a:=(.int (c:Nat),.val)) (b:=(.int 127,.val)) ?_ (Ay (t:=(.bytes o,.val)) (k:=(.int (X.length:Nat),.val)) ?_ ?_ ?_ rfl rfl hi) ?_ ?_ <;> nofun
  rw[aH]at t1
  refine fin (An (c:=false) ?_ (λ q=>(fls q)) λ _=>thn_nxt (J':=RG .a o X.length) rfl (An t1 (λ q=>(fls q)) λ _=>thn_nxt (J':=RG .a o X.length) rfl (Az (Ax (t:=(.tup [.int (c:Nat),.int 1],.val)) ?_ (GA (ts:=[(.int (c:Nat),.val),(.int 1,.val)]) ?_ (AO (Ay (t:=(.bytes o,.val)) (k:=(.int (X.length:Nat),.val)) ?_ ?_ ?_ rfl rfl hi) ?_) rfl (Ai (by decide:2<=2000000))) rfl)))) <;> nofun
 | l=>
  obtain hi:=Bw e
  refine fin (An (c:=false) ?_ (λ q=>(fls q)) λ _=>thn_nxt (J':=RG .l o X.length) rfl (An (c:=false) ?_ (λ q=>(fls q)) λ _=>thn_nxt (J':=RG .l o X.length) rfl (Az (Ax (t:=(.tup [.int (c:Nat),.int 1],.val)) ?_ (GA (ts:=[(.int (c:Nat),.val),(.int 1,.val)]) ?_ (AO (Ay (t:=(.bytes o,.val)) (k:=(.int (X.length:Nat),.val)) ?_ ?_ ?_ rfl rfl hi) ?_) rfl (Ai (by decide:2<=2000000))) rfl)))) <;> nofun
theorem VH(as:List V):Bu "chr" as=(one? as).bind λ v=>v.int?.bind λ i=>if 0<=i/\i < 1114112 then some (.str [i.toNat]) else none:=rfl
theorem MB{c:Nat}(h:c < 1114112):Bu "chr" [.int (c:Nat)]=some (.str [c]):=by
 refine i7 (VH ..) ?_
 (refine rwE (show one? [V.int (c:Nat)]=some (V.int (c:Nat)) from rfl) (i7 (kN ..) ?_);refine rwE (show V.int? (V.int (c:Nat))=some (c:Int) from rfl) (i7 (kN ..) ?_);exact BX ⟨iV _,by lia⟩ (rwE (iZ ..) rfl))
theorem Uz:∀ c∈SG,c < 1114112:=by decide
noncomputable def sg1(l:List Nat):List V:=l.map λ c=>.str [c]
theorem QA(l:List Nat):Dc (sg1 l)=some (l.map λ c=>[c]):=by
 induction l with
 | nil=>rfl
 | cons c l ih=>
  show((Dc (sg1 l)).map _)=_
  erw[ih];rfl
theorem Ym(l:List Nat):(l.map λ c=>[c]).flatten=l:=by
 induction l with
 | nil=>rfl
 | cons c l ih=>(refine rwE iW (i7 lG ?_);erw[ih]);rfl
theorem IJ(ls:List (List Nat))(h:(ls.map jZ).sum<=Ae){vs:List V}(e:Dc vs=some ls):CS (.str []) "join" [.lst vs]=some (.str ls.flatten):=by
 refine i7 (Jv ..) ?_
 show((Dc vs).bind λ l=>if B2 0 l then some (V.str (joinL [] l)) else none)=_
 erw[e]
 show(if B2 0 ls then some (V.str (joinL [] ls)) else none)=_
 exact rwE (if_pos (by show _+ls.length * 0<=_;erw[sD];exact h)) (rwE (Hz ..) rfl)
theorem Kh(l:List Nat)(h:l.length<=2000000):CS (.str []) "join" [.lst (sg1 l)]=some (.str l):=by
 obtain this:=IJ (l.map λ c=>[c]) (vs:=sg1 l) (by
  obtain this:=FX (l.map λ c=>[c]) 1 (λ c hc=>by obtain⟨x,_,rfl⟩:=(jV).mp hc;exact j3 1)
  rw[iH]at this
  exact Ai (hZ this (iP _ h))) (QA l)
 replace this:=(Ym ..)▸this;exact this
abbrev tiE(k:Cs)(o:List Nat)(acc:List V)(a:Nat):R:=[("charset",.val (.str k.name)),("octets",.val (.bytes o)),("signs",.own acc),("at",.val (.int (a:Nat)))]
abbrev Go(k:Cs)(o:List Nat)(acc:List V)(a:Nat)(c l:Int):R:=[("charset",.val (.str k.name)),("octets",.val (.bytes o)),("signs",.own acc),("at",.val (.int (a:Nat))),("code",.val (.int c)),("length",.val (.int l))]
def IR(k:Cs)(o:List Nat)(acc:List V)(a:Nat)(J:R):Prop:=J=tiE k o acc a\/∃ c l,J=Go k o acc a c l
def tiB:List Stmt:=Wl (Aa (bd 33) 3)
def Xr:List Stmt:=Wl (Aa (bd 34) 3)
theorem R5(k:Cs){o X Y:List Nat}{acc:List V}{c:Nat}{J:R}(hc:c∈SG)(hk:k.has c=true)(e:o=X++(k.enc c++Y))(aj:IR k o acc X.length J)(hz:acc.length<=1000000) :
  exs (d+28) (Aj 33) J tiB O=some (.nxt,Go k o (acc++[.str [c]]) (X++k.enc c).length (c:Nat) ((k.enc c).length:Nat),O):=by
 obtain e0:Be (d+27) (Aj 33) J O (Aa tiB 0)=some (.nxt,Go k o acc X.length (c:Nat) ((k.enc c).length:Nat),O):=by
  rcases aj with rfl | ⟨c',l',rfl⟩ <;>
  ·refine EV (xs:=["code","length"]) (vs:=[.int (c:Nat),.int ((k.enc c).length:Nat)]) ?_ ?_ ?_ (Ar (ts:=[(.str k.name,.val),(.bytes o,.val),(.int (X.length:Nat),.val)]) (vs:=[.str k.name,.bytes o,.int (X.length:Nat)]) ?_ (DD ?_ ?_ ?_) rfl (XH (d:=d+4) (O:=O) k hc hk e)) rfl ?_
   ·nofun
   ·nofun
   ·decide
   all_goals nofun
 erw[show(X++k.enc c).length=X.length+(k.enc c).length from hW]
 generalize (k.enc c).length=n at *
 obtain e1:Be (d+27) (Aj 33) (Go k o acc X.length (c:Nat) (n:Nat)) O (Aa tiB 1)=some (.nxt,Go k o (acc++[.str [c]]) X.length (c:Nat) (n:Nat),O):=by
  refine AX (ts:=[(.str [c],.val)]) ?_ (Al (AT (c:=decide ((c:Int) >= 0)) ?_ (λ _=>Bb (ts:=[(.int (c:Nat),.val)]) ?_ (Al ?_) (MB (Uz c hc))) λ q=>?_)) (AB (vs:=acc) ?_ rfl (Ao hz) ?_)
  ·nofun
  ·nofun
  ·nofun
  ·nofun
  ·obtain this:=of_decide_eq_false q;lia
  all_goals nofun
 exact Ac (Ab e0 (Ab e1 (AD rfl)))
theorem M2(k:Cs){o:List Nat}{sc:Scope}{wt:hJ}{wb:List Stmt}(bq:∀ {X Y:List Nat} {acc:List V} {c:Nat} {J:R},c∈SG->k.has c=true->o=X++(k.enc c++Y)->IR k o acc X.length J->acc.length<=1000000->exs (d+28) sc J wb O=some (.nxt,Go k o (acc++[.str [c]]) (X++k.enc c).length (c:Nat) ((k.enc c).length:Nat),O))
  (hte:∀ {a:Nat} {acc:List V} {J:R},IR k o acc a J->Bf (d+28) sc J wt O=some (.ok (decide ((a:Int) < (o.length:Int))),O)) (r:List Nat):∀ {X:List Nat} {acc:List Nat} {n:Nat} {J:R},(∀ c∈r,c∈SG)->r.all k.has=true->o=X++r.flatMap k.enc->r.length < n->acc.length+r.length<=1000000->IR k o (sg1 acc) X.length J ->
  ∃ J' a,BV (Bf (d+28)) (exs (d+28)) sc wt wb n J O=some (.nxt,J',O)/\IR k o (sg1 (acc++r)) a J':=by
 induction r with
 | nil=>
  intro X acc n J _ _ e hn hz aj
  rw[kD,iO]at e
  obtain⟨n,rfl⟩:∃ m,n=m+1:=iE (n - 1) (sp hn)
  obtain ht:=hte aj
  rw[decide_eq_false (by erw[e];grind)]at ht
  exact iEEA J X.length (Dg ht) (by erw[iO];exact aj)
 | cons c r ih=>
  intro X acc n J hs hk e hn hz aj
  rw[i6]at hn hz
  rw[lD,iC]at hk
  rw[iS]at e
  obtain⟨n,rfl⟩:∃ m,n=m+1:=iE (n - 1) (sp (jB hn))
  obtain ai:0 < (k.enc c).length:=by
   have:∀ k:Cs,∀ c∈SG,0 < (k.enc c).length:=by intro k;cases k <;> decide
   exact this k c (hs c i8)
  obtain ht:=hte aj
  rw[decide_eq_true (by(erw[e,hW];erw[hW]);lia)]at ht
  obtain⟨J',a,k1,k2⟩:=ih (X:=X++k.enc c) (acc:=acc++[c]) (n:=n) (J:=Go k o (sg1 acc++[.str [c]]) (X++k.enc c).length (c:Nat) ((k.enc c).length:Nat)) (λ x hx=>hs x (i9 _ hx)) hk.2 (i7 e (rwE (iF ..) rfl)) (kL hn) (by erw[hW,iT];lia) (.inr (RF _ _ (by unfold sg1;erw[k8];rfl)))
  refine iEEA J' a (Hq ht (bq (hs c i8) hk.1 e aj (by(rw[sg1];erw[iH]);exact jY hz)) k1) ?_
  rw[iF]at k2
  exact k2
theorem p_ti(k:Cs){t:List Nat}(hs:∀ c∈t,c∈SG)(hk:t.all k.has=true)(hl:t.length<=900):cl (d+31) "text_in" [.str k.name,.bytes (t.flatMap k.enc)] O=some (.ok (.str t),O):=by
 obtain⟨J',a,h1,h2⟩:=M2 (d:=d+1) (O:=O) k (o:=t.flatMap k.enc) (sc:=Aj 33) (wt:=K7 (Aa (bd 33) 3)) (wb:=tiB) (R5 (d:=d+1) k) (λ h=>by rcases h with rfl | ⟨c,l,rfl⟩ <;> nofun) t (X:=[]) (acc:=[]) (n:=1000) (J:=tiE k (t.flatMap k.enc) [] 0) hs hk rfl (iQ (by assumption) (by decide)) (by erw[iM];exact hZ (j5 hl _) (by decide)) (.inl rfl)
 rw[j4]at h2
 obtain h0:=L4 (d:=d+8) (O:=O) k
 obtain hj:=Kh t (iL hl)
 generalize t.flatMap k.enc=o at *
 generalize sg1 t=vs at *
 refine Ap (fd:=⟨CO 33,[],Aj 33,bd 33⟩) (J:=[("charset",.val (.str k.name)),("octets",.val (.bytes o))]) (r:=(.ret (.str t),J',O)) ?_ ?_ (Ac (Ab (J':=[("charset",.val (.str k.name)),("octets",.val (.bytes o))]) (Jh (t:=(.none,.val)) (Ar (ts:=[(.str k.name,.val)]) (vs:=[.str k.name]) ?_ (Al ?_) rfl h0)) (Ab (J':=[("charset",.val (.str k.name)),("octets",.val (.bytes o)),("signs",.own [])]) ?_ (Ab (J':=tiE k o [] 0) ?_ (Ab (J':=J') (Da h1) ?_))))) rfl
 ·nofun
 ·nofun
 ·nofun
 ·nofun
 ·nofun
 ·nofun
 ·clear h0 h1 hk hl hs
  rcases h2 with rfl | ⟨c,l,rfl⟩ <;>
  ·refine Az (Ax (t:=(.str t,.val)) ?_ (CG (t:=(.str [],.val)) (ts:=[(.lst vs,.bor)]) ?_ ?_ ?_ (Al ?_) hj) rfl) <;> nofun
theorem Sw{o X Y:List Nat}{acc:List V}{c:Nat}{J:R}(hc:c∈SG)(hk:Cs.u.has c=true)(e:o=X++(Cs.u.enc c++Y))(aj:IR .u o acc X.length J)(hz:acc.length<=1000000) :
  exs (d+28) (Aj 34) J Xr O=some (.nxt,Go .u o (acc++[.str [c]]) (X++Cs.u.enc c).length (c:Nat) ((Cs.u.enc c).length:Nat),O):=by
 obtain h:=XH (d:=d+4) (O:=O) .u hc hk e
 obtain e0:Be (d+27) (Aj 34) J O (Aa Xr 0)=some (.nxt,Go .u o acc X.length (c:Nat) ((Cs.u.enc c).length:Nat),O):=by
  rcases aj with rfl | ⟨c',l',rfl⟩ <;>
  ·refine EV (xs:=["code","length"]) (vs:=[.int (c:Nat),.int ((Cs.u.enc c).length:Nat)]) ?_ ?_ ?_ (Ar (ts:=[(.str Cs.u.name,.val),(.bytes o,.val),(.int (X.length:Nat),.val)]) (vs:=[.str Cs.u.name,.bytes o,.int (X.length:Nat)]) ?_ (DD ?_ ?_ ?_) rfl h) rfl ?_
   ·kernel_rfl
   ·kernel_rfl
   ·decide
   ·kernel_rfl
   ·kernel_rfl
   ·kernel_rfl
   ·kernel_rfl
   ·kernel_rfl
 obtain hch:=MB (Uz c hc)
 erw[show(X++Cs.u.enc c).length=X.length+(Cs.u.enc c).length from hW]
 generalize (Cs.u.enc c).length=n at *
 obtain t1:Bf (d+27) (Aj 34) (Go .u o acc X.length (c:Nat) (n:Nat)) (Bz (Aa Xr 1)) O=some (.ok (decide ((c:Int) < 0)),O):=by kernel_rfl
 rw[decide_eq_false (by lia)]at t1
 obtain e1:Be (d+27) (Aj 34) (Go .u o acc X.length (c:Nat) (n:Nat)) O (Aa Xr 2)=some (.nxt,Go .u o (acc++[.str [c]]) X.length (c:Nat) (n:Nat),O):=by
  refine AX (ts:=[(.str [c],.val)]) ?_ (Al (Bb (ts:=[(.int (c:Nat),.val)]) ?_ (Al ?_) hch)) (AB (vs:=acc) ?_ rfl (Ao hz) ?_) <;> kernel_rfl
 exact Ac (Ab e0 (An t1 (λ q=>(fls q)) λ _=>thn_nxt (J':=Go .u o acc X.length (c:Nat) (n:Nat)) rfl (Ab e1 (AD (by kernel_rfl)))))
theorem p_st{t:List Nat}(hs:∀ c∈t,c∈SG)(hl:t.length<=900):cl (d+31) "strict_text" [.str Cs.u.name,.bytes (t.flatMap Cs.u.enc)] O=some (.ok (.str t),O):=by
 obtain⟨J',a,h1,h2⟩:=M2 (d:=d+1) (O:=O) .u (o:=t.flatMap Cs.u.enc) (sc:=Aj 34) (wt:=K7 (Aa (bd 34) 3)) (wb:=Xr) (Sw (d:=d+1)) (λ h=>by rcases h with rfl | ⟨c,l,rfl⟩ <;> kernel_rfl) t (X:=[]) (acc:=[]) (n:=1000) (J:=tiE .u (t.flatMap Cs.u.enc) [] 0) hs (has_u hs) rfl (iQ hl (by decide)) (by erw[iM];exact hZ (j5 hl _) (by decide)) (.inl rfl)
 rw[j4]at h2
 obtain h0:=L4 (d:=d+8) (O:=O) .u
 obtain hj:=Kh t (iL hl)
 generalize t.flatMap Cs.u.enc=o at *
 generalize sg1 t=vs at *
 refine Ap (fd:=⟨CO 34,[],Aj 34,bd 34⟩) (J:=[("charset",.val (.str Cs.u.name)),("octets",.val (.bytes o))]) (r:=(.ret (.str t),J',O)) ?_ ?_ (Ac (Ab (J':=[("charset",.val (.str Cs.u.name)),("octets",.val (.bytes o))]) (Jh (t:=(.none,.val)) (Ar (ts:=[(.str Cs.u.name,.val)]) (vs:=[.str Cs.u.name]) ?_ (Al ?_) rfl h0)) (Ab (J':=[("charset",.val (.str Cs.u.name)),("octets",.val (.bytes o)),("signs",.own [])]) ?_ (Ab (J':=tiE .u o [] 0) ?_ (Ab (J':=J') (Da h1) ?_))))) rfl
 ·kernel_rfl
 ·kernel_rfl
 ·kernel_rfl
 ·kernel_rfl
 ·kernel_rfl
 ·kernel_rfl
 ·clear h0 h1 hl hs
  rcases h2 with rfl | ⟨c,l,rfl⟩ <;>
  ·refine Az (Ax (t:=(.str t,.val)) ?_ (CG (t:=(.str [],.val)) (ts:=[(.lst vs,.bor)]) ?_ ?_ ?_ (Al ?_) hj) rfl) <;> kernel_rfl
theorem u8_a{t:List Nat}(h:t.all Cs.a.has=true):t.flatMap Cs.u.enc=t:=by
 induction t with
 | nil=>rfl
 | cons c t ih=>
  rw[lD,iC]at h
  (refine i7 iS (rwE (ih h.2) ?_);erw[(show Cs.u.enc c=u8 c from rfl)];rw[u8];erw[if_pos (show c < 128 from of_decide_eq_true h.1)]);rfl
theorem p_gt{t:List Nat}(hs:∀ c∈t,c∈SG)(hl:t.length<=900)(h:t.all Cs.a.has=true):cl (d+35) "guessed_text" [.bytes t] O=some (.ok (.str t),O):=by
 obtain h1:=p_st (d:=d) (O:=O) hs hl
 rw[u8_a h]at h1
 obtain hh:hand? (TE (Aa (bd 35) 0))=some (("MimeFault" : hV),Rd (Aa (bd 35) 0)):=by kernel_rfl
 refine Ap (fd:=⟨CO 35,[],Aj 35,bd 35⟩) (J:=[("octets",.val (.bytes t))]) (r:=(.ret (.str t),[("octets",.val (.bytes t))],O)) ?_ ?_ (Ac (AD (LT hh ?_ (Ac (AD (Ax (t:=(.str t,.val)) ?_ (Ar (ts:=[(.str Cs.u.name,.val),(.bytes t,.val)]) (vs:=[.str Cs.u.name,.bytes t]) ?_ (AO ?_ ?_) rfl h1) rfl)))))) rfl <;> kernel_rfl
theorem DQ{o A B C:List Nat}{a b:Nat}(e:o=A++(B++C))(ha:a=A.length)(hb:b=A.length+B.length):(o.take b).drop a=B:=by(erw[e,ha];exact rwE hb (NR ..))
theorem Jy{o A B C:List Nat}{a b:Nat}(e:o=A++(B++63::C))(ha:a=A.length)(hb:b=A.length+B.length)(h:B.all ws=true)(hl:B.length<=900):cl (d+17) "part_end" [.bytes o,.int (a:Nat)] O=some (.ok (.int (b:Nat)),O):=by
 (erw[e,ha];erw[hb]);exact Wx h hl
theorem Yg:∀ c∈OB,∀ x∈q1 c,ws x=true:=by decide
theorem WK:∀ i < 64,ws (b64 i)=true:=by decide +kernel
theorem Wn(w:Wy){t:List Nat}(hs:∀ c∈t,c∈OB):(w.pay t).all ws=true:=(jJ).mpr λ x hx=>by
 cases w with
 | q=>
  exact A9 ((m9).mp hx) λ c h1 h2=>Yg c (hs c h1) x h2
 | b=>
  refine jP ((jX).mp (show x∈pe t++j1 (pad t.length) 61 from hx)) (λ h=>?_) λ h=>?_
  ·rw[QS]at h
   exact A9 ((jV).mp h) λ i h1 aa=>rwS aa (WK i (UC t _ i h1))
  ·erw[pS h];decide
theorem OS(k:Cs)(w:Wy)(c:List Nat):(wd k w c).length=k.name.length+(w.pay (c.flatMap k.enc)).length+7:=by
 unfold wd fr;simp only[hW,i6,iM];lia
theorem Rg(k:Cs)(w:Wy){o X Y c:List Nat}{e:Nat}(eo:o=X++(wd k w c++Y))(ee:e=X.length+(wd k w c).length)(hs:∀ x∈c,x∈SG)(hk:c.all k.has=true)(hc:c.length<=200)(hl:(wd k w c).length<=75)(hb:X=[]\/∃ X',X=X'++[32])(he:Y=[]\/∃ Y',Y=32::Y') :
  cl (d+50) "word_at" [.bytes o,.int (X.length:Nat)] O=some (.ok (.tup [.str c,.int (e:Nat)]),O):=by
 have gQ:=Jd k hs hk
 obtain hpw:=Wn w gQ
 obtain fl:=EI k c
 obtain lw:=OS k w c
 obtain hq:w = .q->cl (d+46) "word_q_decoded" [.bytes (w.pay (c.flatMap k.enc))] O=some (.ok (.bytes (c.flatMap k.enc)),O):=λ q=>by
  obtain this:=YI (d:=d+16) (O:=O) gQ (hZ fl (hZ (iP _ hc) (by decide)))
  exact rwE q this
 obtain hd:w = .b->cl (d+46) "decoded" [.bytes (w.pay (c.flatMap k.enc))] O=some (.ok (.bytes (c.flatMap k.enc)),O):=λ q=>by
  obtain this:=N8 (d:=d+18) (O:=O) (λ x hx=>ob_lt x (gQ x hx)) (hZ fl (hZ (iP _ hc) (by decide)))
  exact rwE q this
 obtain fZ:=Tb (d:=d+24) (O:=O) (o:=o) (b:=X.length) (e:=e) (hb.imp (λ q=>by erw[q];rfl) fun⟨X',q⟩=>iEEA X' (wd k w c++Y) (by refine rwE q (i7 hW ?_);rfl) (by(refine i7 eo (rwE q ?_);refine i7 (iF ..) ?_);rfl))
  (he.imp (λ q=>by rw[ee,eo,q,iO,hW]) fun⟨Y',q⟩=>iEEA (X++wd k w c) Y' (by rw[ee,hW]) (by rw[eo,q,iF]))
 unfold wd fr at eo
 generalize w.pay (c.flatMap k.enc)=P at *
 generalize (wd k w c).length=lwd at *
 obtain ee2:e=X.length+2+k.name.length+1+1+1+P.length+2:=by lia
 refine Yp k w (e:=e) (P:=P) (r:=c.flatMap k.enc) (c:=c) ?_ fZ hq hd (p_ti (d:=d+15) (O:=O) k hs hk (iL hc))
 erw[ee2]
 obtain hw:=Qc (d:=d+21) (O:=O) (o:=o) (N:=k.name) (W:=[w.code]) (P:=P) (a:=X.length) (m1:=X.length+2+k.name.length) (m2:=X.length+2+k.name.length+1+1) (m3:=X.length+2+k.name.length+1+1+1+P.length)
  (DQ (A:=X) (C:=k.name++([63,w.code,63]++(P++([63,61]++Y)))) (by refine i7 eo ?_;simp only[iF]) rfl rfl)
  (Jy (d:=d+26) (A:=X++[61,63]) (B:=k.name) (C:=[w.code,63]++(P++([63,61]++Y))) (by refine i7 eo ?_;simp only[iF,lE,j4]) (by erw[hW];rfl) (by erw[hW];rfl) (by cases k <;> decide:k.name.all ws=true) (by cases k <;> decide))
  (Jy (d:=d+26) (A:=X++[61,63]++k.name++[63]) (B:=[w.code]) (C:=P++([63,61]++Y)) (by refine i7 eo ?_;simp only[iF,lE,j4]) (by simp only[hW,i6,iM]) (by simp only[hW,i6,iM]) (by cases w <;> decide : [w.code].all ws=true) (by decide:1<=900))
  (Jy (d:=d+26) (A:=X++[61,63]++k.name++[63,w.code,63]) (B:=P) (C:=61::Y) (by refine i7 eo ?_;simp only[iF,lE,j4]) (by simp only[hW,i6,iM]) (by simp only[hW,i6,iM]) hpw (by lia))
  (DQ (A:=X++[61,63]) (C:=[63,w.code,63]++(P++([63,61]++Y))) (by refine i7 eo ?_;simp only[iF]) (by erw[hW];rfl) (by erw[hW];rfl))
  (DQ (A:=X++[61,63]++k.name++[63]) (C:=63::(P++([63,61]++Y))) (by refine i7 eo ?_;simp only[iF,lE,j4]) (by simp only[hW,i6,iM]) (by simp only[hW,i6,iM]))
  (DQ (A:=X++[61,63]++k.name++[63,w.code,63]) (C:=[63,61]++Y) (by refine i7 eo ?_;simp only[iF,lE,j4]) (by simp only[hW,i6,iM]) (by simp only[hW,i6,iM]))
  (DQ (A:=X++[61,63]++k.name++[63,w.code,63]++P) (B:=[63,61]) (C:=Y) (by refine i7 eo ?_;simp only[iF,lE,j4]) (by simp only[hW,i6,iM]) (by simp only[hW,i6,iM]))
 exact hw
noncomputable abbrev pF(o:List Nat):V:=.tup [.bool false,.bytes o]
noncomputable abbrev pT(c:List Nat):V:=.tup [.bool true,.str c]
noncomputable abbrev XW(o:List Nat)(ps:List V)(b a:Nat):R:=[("octets",.val (.bytes o)),("pieces",.own ps),("begun",.val (.int (b:Nat))),("at",.val (.int (a:Nat)))]
noncomputable abbrev GK(o:List Nat)(ps:List V)(b a:Nat)(v:V):R:=[("octets",.val (.bytes o)),("pieces",.own ps),("begun",.val (.int (b:Nat))),("at",.val (.int (a:Nat))),("found",.val v)]
def E6(o:List Nat)(ps:List V)(b a:Nat)(J:R):Prop:=J=XW o ps b a\/∃ v,J=GK o ps b a v
def UN:List Stmt:=Wl (Aa (bd 73) 3)
abbrev RC(d n:Nat)(J:R)(O:A4):St:=BV (Bf (d+53)) (exs (d+53)) (Aj 73) (K7 (Aa (bd 73) 3)) UN n J O
theorem Je{o:List Nat}{ps:List V}{b a:Nat}{J:R}(aj:E6 o ps b a J):Bf (d+53) (Aj 73) J (K7 (Aa (bd 73) 3)) O=some (.ok (decide ((a:Int) < (o.length:Int))),O):=by
 rcases aj with rfl | ⟨v,rfl⟩ <;> nofun
theorem XU(X Y:List Nat)(x:Nat):((X++x::Y).take (X.length+2)).drop X.length=x::Y.take 1:=by
 (erw[rU];rw[qD])
 ·rfl
 ·rfl
theorem Kz{o X Y:List Nat}{x:Nat}{ps:List V}{b n:Nat}{J:R}(e:o=X++x::Y)(h:¬ (x=61/\Y.head?=some 63))(aj:E6 o ps b X.length J):∃ J',RC d (n+1) J O=RC d n J' O/\E6 o ps b (X++[x]).length J':=by
 have hw:x=61->cl (d+50) "word_at" [.bytes o,.int (X.length:Nat)] O=some (.ok .none,O):=λ q=>K3 (by
  erw[e,XU]
  intro z
  refine h ⟨q,?_⟩
  clear h
  cases Y with
  | nil=>cases z
  | cons y Y=>exact congrArg some (oJ (oJ z).2).1)
 obtain e0:Be (d+52) (Aj 73) J O (Aa UN 0)=some (.nxt,GK o ps b X.length .none,O):=by
  rcases aj with rfl | ⟨v,rfl⟩ <;>
  ·refine Af (t:=(.none,.val)) (s:=.val .none) ?_ (AT (c:=decide ((x:Int)=61)) (AN (a:=(.int (x:Nat),.val)) (b:=(.int 61,.val)) ?_ (Ay (t:=(.bytes o,.val)) (k:=(.int (X.length:Nat),.val)) ?_ ?_ ?_ rfl rfl (Bw e)) ?_ ?_) (λ q=>Ar (ts:=[(.bytes o,.val),(.int (X.length:Nat),.val)]) (vs:=[.bytes o,.int (X.length:Nat)]) ?_ (AO ?_ ?_) rfl (hw (by obtain this:=of_decide_eq_true q;(first | exact nJ this | lia)))) λ _=>?_) rfl ?_ <;> nofun
 obtain ht:=Je (d:=d) (O:=O) aj
 rw[decide_eq_true (by(erw[e,hW];erw[i6]);lia)]at ht
 exact iEA _ (Hq ht (Ac (Ab e0 (An (c:=true) (by kernel_rfl) (λ _=>thn_nxt (J':=GK o ps b (X.length+1) .none) (by kernel_rfl) sq_nil) λ q=>(nc j9 q (.refl false)))):exs (d+53) (Aj 73) J UN O=some (.nxt,GK o ps b (X.length+1) .none,O)) rfl) (.inr ⟨_,by erw[hW];rfl⟩)
theorem Nm{o X Y c P:List Nat}{e:Nat}{ps:List V}{b n:Nat}{J:R}(eo:o=X++61::Y)(hw:cl (d+50) "word_at" [.bytes o,.int (X.length:Nat)] O=some (.ok (.tup [.str c,.int (e:Nat)]),O))(hP:(o.take X.length).drop b=P)(aj:E6 o ps b X.length J)(hz:ps.length<=1000) :
  ∃ J',RC d (n+1) J O=RC d n J' O/\E6 o (ps++[pF P,pT c]) e e J':=by
 obtain hs:=Cx o b X.length
 rw[hP]at hs
 obtain e0:Be (d+52) (Aj 73) J O (Aa UN 0)=some (.nxt,GK o ps b X.length (.tup [.str c,.int (e:Nat)]),O):=by
  rcases aj with rfl | ⟨v,rfl⟩ <;>
  ·refine Af (t:=(.tup [.str c,.int (e:Nat)],.val)) (s:=.val (.tup [.str c,.int (e:Nat)])) ?_ (AT (c:=true) (AN (a:=(.int (61:Nat),.val)) (b:=(.int 61,.val)) ?_ (Ay (t:=(.bytes o,.val)) (k:=(.int (X.length:Nat),.val)) ?_ ?_ ?_ rfl rfl (Bw eo)) ?_ ?_) (λ q=>Ar (ts:=[(.bytes o,.val),(.int (X.length:Nat),.val)]) (vs:=[.bytes o,.int (X.length:Nat)]) ?_ (AO ?_ ?_) rfl hw) λ q=>(nc j9 q (.refl false))) rfl ?_ <;> nofun
 obtain e1:Be (d+51) (Aj 73) (GK o ps b X.length (.tup [.str c,.int (e:Nat)])) O (Aa (Ga (Aa UN 1)) 0)=some (.nxt,GK o (ps++[pF P]) b X.length (.tup [.str c,.int (e:Nat)]),O):=by
  refine AX (ts:=[(pF P,.val)]) ?_ (Al (GA (ts:=[(.bool false,.val),(.bytes P,.val)]) ?_ (AO ?_ (AZ (t:=(.bytes o,.val)) (a:=(.int (b:Nat),.val)) (b:=(.int (X.length:Nat),.val)) ?_ ?_ ?_ rfl rfl hs)) rfl (Ai (by decide:2<=2000000)))) (AB (vs:=ps) ?_ rfl (Ao (iL hz)) ?_) <;> nofun
 obtain e2:Be (d+51) (Aj 73) (GK o (ps++[pF P]) b X.length (.tup [.str c,.int (e:Nat)])) O (Aa (Ga (Aa UN 1)) 1)=some (.nxt,GK o (ps++[pF P]++[pT c]) b X.length (.tup [.str c,.int (e:Nat)]),O):=by
  refine AX (ts:=[(pT c,.val)]) ?_ (Al ?_) (AB (vs:=ps++[pF P]) ?_ rfl (Ao (by erw[hW];simp only[i6,iM];exact iQ (by assumption) (by decide))) ?_) <;> nofun
 rw[iF]at e2
 obtain e4:exs (d+53) (Aj 73) J UN O=some (.nxt,GK o (ps++[pF P,pT c]) e e (.tup [.str c,.int (e:Nat)]),O):=Ac (Ab e0 (An (c:=false) (by kernel_rfl) (λ q=>(fls q)) λ _=>thn_nxt (Ac (Ab e1 (Ab e2 (Ab (J':=GK o (ps++[pF P,pT c]) b e (.tup [.str c,.int (e:Nat)])) (by kernel_rfl) (AD (by kernel_rfl))))):exs (d+52) (Aj 73) (GK o ps b X.length (.tup [.str c,.int (e:Nat)])) (Ga (Aa UN 1)) O=some (.nxt,GK o (ps++[pF P,pT c]) e e (.tup [.str c,.int (e:Nat)]),O)) sq_nil))
 obtain ht:=Je (d:=d) (O:=O) aj
 rw[decide_eq_true (by(erw[eo,hW];erw[i6]);lia)]at ht
 exact iEA _ (Hq ht e4 rfl) (.inr ⟨_,rfl⟩)
noncomputable def nm(Y:List Nat):List Nat->Prop
 | []=>True
 | x::r=>¬ (x=61/\(r++Y).head?=some 63)/\nm Y r
theorem Mj{o Y:List Nat}{ps:List V}{b n:Nat}(P:List Nat):∀ {X:List Nat} {J:R},o=X++(P++Y)->nm Y P->E6 o ps b X.length J->∃ J',RC d (n+P.length) J O=RC d n J' O/\E6 o ps b (X++P).length J':=by
 induction P with
 | nil=>intro X J _ _ aj;exact iEA J rfl (by erw[iO];exact aj)
 | cons x P ih=>
  intro X J e h aj
  refine A9 (Kz (d:=d) (O:=O) (n:=n+P.length) (Y:=P++Y) e h.1 aj) λ J1 h1 h2=>?_
  obtain⟨J2,h3,h4⟩:=ih (X:=X++[x]) (by refine i7 e (rwE (iF ..) ?_);rfl) h.2 h2
  exact iEA J2 (h1.trans h3) (by rw[iF]at h4;exact h4)
noncomputable def WD(P:List Nat):List (List Nat)->List V
 | []=>[]
 | c::cs=>pF P::pT c::WD [32] cs
theorem wps_cE{P:List Nat}{c:List Nat}{r:List (List Nat)}:WD P (c::r)=pF P::pT c::WD [32] r:=rfl
structure Ws(k:Cs)(w:Wy)(c:List Nat):Prop where
 sg:∀ x∈c,x∈SG
 has:c.all k.has=true
 len:c.length<=200
 wlen:(wd k w c).length<=75
theorem MC(k:Cs)(w:Wy)(c:List Nat):∃ R,wd k w c=61::R:=⟨_,rfl⟩
theorem Rt(k:Cs)(w:Wy){o Y:List Nat}{n:Nat}(hY:Y=[]\/∃ Y',Y=32::Y')(cs:List (List Nat)):∀ {c X P:List Nat} {ps:List V} {b:Nat} {J:R},(∀ x∈c::cs,Ws k w x)->o=X++(joinL [32] ((c::cs).map (wd k w))++Y)->(o.take X.length).drop b=P->(X=[]\/∃ X',X=X'++[32])->ps.length+2 * cs.length<=1000->E6 o ps b X.length J ->
  ∃ J',RC d (n+2 * cs.length+1) J O=RC d n J' O/\E6 o (ps++WD P (c::cs)) (X++joinL [32] ((c::cs).map (wd k w))).length (X++joinL [32] ((c::cs).map (wd k w))).length J':=by
 induction cs with
 | nil=>
  intro c X P ps b J hc e hP hX hz aj
  have K:=hc c i8
  refine qE (MC k w c) λ R hR=>?_
  obtain hw:=Rg (d:=d) (O:=O) k w (o:=o) (Y:=Y) e rfl K.sg K.has K.len K.wlen hX hY
  obtain⟨J1,h1,h2⟩:=Nm (d:=d) (O:=O) (n:=n) (Y:=R++Y) (by refine i7 e ?_;show X++(wd k w c++Y)=_;erw[hR];rfl) hw hP aj (by assumption)
  exact iEA J1 h1 (by erw[hW];exact h2)
 | cons c' cs ih=>
  intro c X P ps b J hc e hP hX hz aj
  replace hz:=i6▸hz
  obtain K:=hc c i8
  refine qE (MC k w c) λ R hR=>?_
  obtain ej:joinL [32] ((c::c'::cs).map (wd k w))=wd k w c++[32]++joinL [32] ((c'::cs).map (wd k w)):=rfl
  rw[ej]at e ⊢
  obtain⟨xb,fU⟩:∃ xb,joinL [32] ((c'::cs).map (wd k w))=xb:=⟨_,rfl⟩
  rw[fU]at e ⊢
  have e2:o=X++(wd k w c++(32::(xb++Y))):=by refine i7 e ?_;simp only[iF,lE,j4]
  obtain⟨J1,h1,h2⟩:=Nm (d:=d) (O:=O) (n:=n+2 * cs.length+1+1) (Y:=R++(32::(xb++Y))) (by refine i7 e2 (rwE hR ?_);rfl) (Rg (d:=d) (O:=O) k w (o:=o) (Y:=32::(xb++Y)) e2 rfl K.sg K.has K.len K.wlen hX (.inr (iE _ rfl))) hP aj (jY hz)
  obtain h2:=sJ hW▸h2
  refine A9 (Kz (d:=d) (O:=O) (n:=n+2 * cs.length+1) (X:=X++wd k w c) (x:=32) (Y:=xb++Y) (by rw[e2,iF]) (λ q=>nomatch q.1) h2) λ J2 h3 h4=>?_
  obtain⟨bj,h5,h6⟩:=ih (c:=c') (X:=X++wd k w c++[32]) (P:=[32]) (ps:=ps++[pF P,pT c]) (λ x hx=>hc x (i9 _ hx)) (by refine i7 e2 (rwE fU ?_);simp only[iF,lE,j4]) (by
    refine DQ (A:=X++wd k w c) (C:=xb++Y) (by refine i7 e2 ?_;simp only[iF,lE,j4]) rfl (hW)) (.inr (iE _ rfl)) (by erw[hW];simp only[i6,iM];lia) h4
  refine iEA bj (h1.trans (h3.trans h5)) ?_
  rw[iF,fU]at h6
  exact rwE (show X++(wd k w c++[32]++xb)=X++wd k w c++[32]++xb by simp only[iF]) h6
theorem Mc(t:List Nat)(a:Nat):Bo (.bytes t) (some (a:Int)) none=some (.bytes (t.drop a)):=by
 show some (V.bytes (Au t _ _))=_
 unfold Au hiOf loOf
 dsimp only
 erw[Cu,n0]
 by_cases h:a<=t.length
 ·exact rwE (kO h) rfl
 ·(erw[kU (jQ h),pA];exact rwE (l4 (jQ h)) rfl)
theorem P8{o Q:List Nat}{ps:List V}{b n:Nat}{J:R}(h:RC d 1000 (XW o [] 0 0) O=RC d (n+1) J O)(aj:E6 o ps b o.length J)(hQ:o.drop b=Q)(hz:ps.length<=1000):cl (d+55) "pieces_of" [.bytes o] O=some (.ok (.lst (ps++[pF Q])),O):=by
 obtain ht:=Je (d:=d) (O:=O) aj
 rw[decide_eq_false (by lia)]at ht
 obtain h1:=h.trans (Dg ht)
 obtain hs:=Mc o b
 replace hs:=hQ▸hs
 obtain ha:A1 .Add (.lst ps) (.lst [pF Q])=some (.lst (ps++[pF Q])):=Dz (Ai (by simp only[i6,iM];exact iQ (by assumption) (by decide)))
 refine Ap (fd:=⟨CO 73,[],Aj 73,bd 73⟩) (J:=[("octets",.val (.bytes o))]) (r:=(.ret (.lst (ps++[pF Q])),J,O)) ?_ ?_ (Ac (Ab (J':=[("octets",.val (.bytes o)),("pieces",.own [])]) ?_ (Ab (J':=[("octets",.val (.bytes o)),("pieces",.own []),("begun",.val (.int 0))]) ?_ (Ab (J':=XW o [] 0 0) ?_ (Ab (J':=J) (Da h1) ?_))))) rfl
 ·nofun
 ·nofun
 ·nofun
 ·nofun
 ·nofun
 ·clear h h1 hQ ht hz
  rcases aj with rfl | ⟨v,rfl⟩ <;>
  ·refine Az (Ax (t:=(.lst (ps++[pF Q]),.fresh)) ?_ (Aq (a:=(.lst ps,.bor)) (b:=(.lst [pF Q],.fresh)) ?_ (JQ (ts:=[(pF Q,.val)]) ?_ (Al (GA (ts:=[(.bool false,.val),(.bytes Q,.val)]) ?_ (AO ?_ (EN (t:=(.bytes o,.val)) (a:=(.int (b:Nat),.val)) ?_ ?_ rfl hs)) rfl (Ai (by decide:2<=2000000)))) rfl (Ai (by decide:1<=2000000))) ha) rfl) <;> nofun
theorem Tt(cs:List (List Nat)):∀ P,(WD P cs).length=2 * cs.length:=by
 induction cs with
 | nil=>exact λ _=>rfl
 | cons c cs ih=>intro P;(refine rwE wps_cE (i7 i6 ?_);erw[i6,i6];erw[ih]);exact mE _ _ _
theorem Oq{Q:List Nat}(h:nm [] Q)(hl:Q.length<=900):cl (d+55) "pieces_of" [.bytes Q] O=some (.ok (.lst [pF Q]),O):=by
 obtain⟨J1,h1,h2⟩:=Mj (d:=d) (O:=O) (o:=Q) (Y:=[]) (ps:=[]) (b:=0) (n:=999 - Q.length+1) Q (X:=[]) (J:=XW Q [] 0 0) (by rw[iO];rfl) h (.inl rfl)
 rw[show 999 - Q.length+1+Q.length=1000 by lia]at h1
 exact P8 h1 h2 rfl (kA _)
theorem P3(k:Cs)(w:Wy){o P Q c:List Nat}{cs:List (List Nat)}(hc:∀ x∈c::cs,Ws k w x)(e:o=P++(joinL [32] ((c::cs).map (wd k w))++Q))(hP:P=[]\/∃ X',P=X'++[32])(hQ:Q=[]\/∃ Y',Q=32::Y')(nP:nm (joinL [32] ((c::cs).map (wd k w))++Q) P)(nQ:nm [] Q)(hl:P.length+2 * cs.length+Q.length<=900) :
  cl (d+55) "pieces_of" [.bytes o] O=some (.ok (.lst (WD P (c::cs)++[pF Q])),O):=by
 refine AK λ Z zk=>?_
 obtain⟨xb,ej⟩:∃ xb,joinL [32] ((c::cs).map (wd k w))=xb:=⟨_,rfl⟩
 have e0:=e
 (replace e0:=ej▸e0;replace nP:=ej▸nP)
 obtain⟨J1,h1,h2⟩:=Mj (d:=d) (O:=O) (o:=o) (Y:=xb++Q) (ps:=[]) (b:=0) (n:=998 - P.length - 2 * cs.length - Q.length+1+Q.length+2 * cs.length+1) P (X:=[]) (J:=XW o [] 0 0) (by refine i7 e0 ?_;rfl) nP (.inl rfl)
 rw[show 998 - P.length - 2 * cs.length - Q.length+1+Q.length+2 * cs.length+1+P.length=1000 by lia]at h1
 rw[j4]at h2
 obtain⟨J2,h3,h4⟩:=Rt (d:=d) (O:=O) (n:=998 - P.length - 2 * cs.length - Q.length+1+Q.length) k w hQ cs (c:=c) (X:=P) (P:=P) (ps:=[]) (b:=0) hc e (by(erw[e];rw[rT];exact sK);rfl) hP (by erw[iM];lia) h2
 rw[ej]at h4
 refine A9 (Mj (d:=d) (O:=O) (o:=o) (Y:=[]) (n:=998 - P.length - 2 * cs.length - Q.length+1) Q (X:=P++xb) (by(refine i7 e0 (rwE (iO ..) ?_);exact rwE (iF ..) rfl)) nQ h4) λ bj h5 h6=>?_
 rw[iF,<-e0,j4]at h6
 refine zk (P8 (h1.trans (h3.trans h5)) h6 (by(refine rwE e0 (rwS (iF ..) ?_);rw[qD]);rfl) (by erw[Tt,i6];lia))
noncomputable abbrev dwE(o:List Nat)(fs acc:List V):R:=[("octets",.val (.bytes o)),("pieces",.val (.lst fs)),("found",.own acc)]
noncomputable abbrev Fz(o:List Nat)(fs acc:List V)(s:Int)(b v:V):R:=[("octets",.val (.bytes o)),("pieces",.val (.lst fs)),("found",.own acc),("spot",.val (.int s)),("is_word",.val b),("worth",.val v)]
def J8(o:List Nat)(fs acc:List V)(J:R):Prop:=J=dwE o fs acc\/∃ s b v,J=Fz o fs acc s b v
def RD:List Stmt:=Cl (Aa (bd 75) 2)
def POK(A:List V)(p:V)(B:List V)(out:List (List Nat)):Prop:=(∃ c,p=pT c/\out=[c])\/(p=pF [32]/\out=[]/\A≠[]/\B≠[])\/∃ x,p=pF x/\out=[x]/\(A=[]\/B=[])/\(∀ c∈x,c∈SG)/\x.all Cs.a.has=true/\x.length<=900
theorem JP{o:List Nat}{fs A B acc:List V}{b v:V}{J:R}(e:fs=A++.tup [b,v]::B)(aj:J8 o fs acc J):Be (d+55) (Aj 75) (Aw J [("spot",.val (.int (A.length:Nat)))]) O (Aa RD 0)=some (.nxt,Fz o fs acc (A.length:Nat) b v,O):=by
 rcases aj with rfl | ⟨s,b',v',rfl⟩ <;>
 ·refine EV (xs:=["is_word","worth"]) (vs:=[b,v]) ?_ ?_ ?_ (Ay (t:=(.lst fs,.val)) (k:=(.int (A.length:Nat),.val)) ?_ ?_ ?_ rfl rfl (C5 e)) rfl ?_
  ·nofun
  ·nofun
  ·decide
  all_goals nofun
theorem Sj{o:List Nat}{fs A B acc:List V}{p:V}{out:List (List Nat)}{J:R}(e:fs=A++p::B)(hp:POK A p B out)(aj:J8 o fs acc J)(hz:acc.length<=1000000) :
  ∃ J',exs (d+56) (Aj 75) (Aw J [("spot",.val (.int (A.length:Nat)))]) RD O=some (.nxt,J',O)/\J8 o fs (acc++sts out) J':=by
 have ai:fs.length=A.length+(B.length+1):=by(refine rwE e (i7 hW ?_);exact rwE i6 rfl)
 have t0:∀ v,Bf (d+52) (Aj 75) (Fz o fs acc (A.length:Nat) (.bool false) v) (Rv (unX (Bz (Aa (Ga (Aa RD 1)) 0)))) O=some (.ok (decide ((0:Int) < (A.length:Int))&&decide ((A.length:Int) < (fs.length:Int) - 1)),O):=λ v=>by
  refine He (a:=(.int 0,.val)) (b:=(.int (A.length:Nat),.val)) (c:=(.int ((fs.length:Int) - 1),.val)) ?_ ?_ ?_ ?_ ?_ ?_ <;> nofun
 rcases hp with ⟨c,rfl,rfl⟩| ⟨rfl,rfl,hA,hB⟩| ⟨x,rfl,rfl,hx,h1,h2,h3⟩
 ·obtain h0:=JP (d:=d) (O:=O) e aj
  obtain h2:Be (d+54) (Aj 75) (Fz o fs acc (A.length:Nat) (.bool true) (.str c)) O (Aa (Hl (Aa RD 1)) 0)=some (.nxt,Fz o fs (acc++[.str c]) (A.length:Nat) (.bool true) (.str c),O):=by
   refine AX (ts:=[(.str c,.val)]) ?_ (Al ?_) (AB (vs:=acc) ?_ rfl (Ao hz) ?_) <;> nofun
  exact iEA _ (Ac (Ab h0 (An (c:=true) rfl (λ _=>thn_nxt (Ac (AD h2)) sq_nil) λ q=>(nc j9 q (.refl false))))) (.inr ⟨_,_,_,rfl⟩)
 ·obtain hh:=JP (d:=d) (O:=O) e aj
  obtain h0:=t0 (.bytes [32])
  rw[decide_eq_true (by obtain this:=(rS).mpr hA;exact (jU).mpr (by assumption)),decide_eq_true (by obtain this:=(rS).mpr hB;omega)]at h0
  obtain t1:Bf (d+54) (Aj 75) (Fz o fs acc (A.length:Nat) (.bool false) (.bytes [32])) (Bz (Aa (Ga (Aa RD 1)) 0)) O=some (.ok (!(true&&true)),O):=by
   refine Dq (Ba h0 λ _=>?_)
   nofun
  obtain h3:exs (d+55) (Aj 75) (Fz o fs acc (A.length:Nat) (.bool false) (.bytes [32])) (Ga (Aa RD 1)) O=some (.nxt,Fz o fs acc (A.length:Nat) (.bool false) (.bytes [32]),O):=by
   exact Ac (An t1 (λ q=>(fls q)) λ _=>thn_nxt (J':=Fz o fs acc (A.length:Nat) (.bool false) (.bytes [32])) rfl sq_nil)
  refine iEA (Fz o fs acc (A.length:Nat) (.bool false) (.bytes [32])) (Ac (Ab hh (An (c:=false) rfl (λ q=>(fls q)) λ _=>thn_nxt h3 sq_nil))) (.inr ⟨_,_,_,by exact rwE (show sts []=[] from rfl) (rwE (iO ..) rfl)⟩)
 ·obtain hh:=JP (d:=d) (O:=O) e aj
  obtain h0:=t0 (.bytes x)
  obtain hf:(decide ((0:Int) < (A.length:Int))&&decide ((A.length:Int) < (fs.length:Int) - 1))=false:=by
   clear e aj t0
   rcases hx with rfl | rfl
   ·rfl
   ·replace ai:=iM▸ai
    exact rwE (decide_eq_false (p:=(A.length:Int) < (fs.length:Int) - 1) (by omega)) (uW ..)
  rw[hf]at h0
  obtain t1:Bf (d+54) (Aj 75) (Fz o fs acc (A.length:Nat) (.bool false) (.bytes x)) (Bz (Aa (Ga (Aa RD 1)) 0)) O=some (.ok (!(false&&true)),O):=by
   refine Dq (Ba h0 λ q=>(fls q))
  obtain h2:Be (d+53) (Aj 75) (Fz o fs acc (A.length:Nat) (.bool false) (.bytes x)) O (Aa (Hl (Aa (Ga (Aa RD 1)) 0)) 0)=some (.nxt,Fz o fs (acc++[.str x]) (A.length:Nat) (.bool false) (.bytes x),O):=by
   refine AX (ts:=[(.str x,.val)]) ?_ (Al (Ar (ts:=[(.bytes x,.val)]) (vs:=[.bytes x]) ?_ (Al ?_) rfl (p_gt (d:=d+17) (O:=O) h1 h3 h2))) (AB (vs:=acc) ?_ rfl (Ao hz) ?_) <;> nofun
  obtain h3:exs (d+55) (Aj 75) (Fz o fs acc (A.length:Nat) (.bool false) (.bytes x)) (Ga (Aa RD 1)) O=some (.nxt,Fz o fs (acc++[.str x]) (A.length:Nat) (.bool false) (.bytes x),O):=
   Ac (An t1 (λ _=>thn_nxt (Ac (AD h2)) sq_nil) λ q=>(nc j9 q (.refl false)))
  exact iEA _ (Ac (Ab hh (An (c:=false) rfl (λ q=>(fls q)) λ _=>thn_nxt h3 sq_nil))) (.inr ⟨_,_,_,rfl⟩)
noncomputable def OKs(A:List V):List (V×List (List Nat))->Prop
 | []=>True
 | p::r=>POK A p.1 (r.map (·.1)) p.2/\OKs (A++[p.1]) r
theorem Ls(a b:List (List Nat)):sts (a++b)=sts a++sts b:=k8
theorem RO{o:List Nat}{fs:List V}(r:List (V×List (List Nat))):∀ {A:List V} {acc:List (List Nat)} {J:R},fs=A++r.map (·.1)->OKs A r->acc.length+(r.flatMap (·.2)).length<=1000000->J8 o fs (sts acc) J ->
  ∃ J',Bh (exs (d+56)) (Aj 75) (Ck (Aa (bd 75) 2)) RD (IW A.length r.length) J O=some (.nxt,J',O)/\J8 o fs (sts (acc++r.flatMap (·.2))) J':=by
 induction r with
 | nil=>intro A acc J _ _ _ aj;exact iEA J for_nil (by erw[kD,iO];exact aj)
 | cons p r ih=>
  intro A acc J e h hz aj
  refine AK λ Z zk=>?_
  rw[iS,hW]at hz
  obtain⟨J1,h1,h2⟩:=Sj (d:=d) (O:=O) e h.1 aj (by(rw[sts];erw[iH]);exact jY hz)
  rw[<-Ls]at h2
  obtain⟨J2,h3,h4⟩:=ih (A:=A++[p.1]) (by refine i7 e (rwE (iF ..) ?_);rfl) h.2 (by erw[hW];lia) h2
  rw[hW]at h3
  rw[iF]at h4
  refine zk ?_
  (erw[i6,FU];erw[iS])
  exact iEA J2 (AV (xs:=[("spot",.int (A.length:Nat))]) rfl h1 h3) h4
theorem Yq{o:List Nat}{r:List (V×List (List Nat))}{t:List Nat}(hp:cl (d+55) "pieces_of" [.bytes o] O=some (.ok (.lst (r.map (·.1))),O))(h:OKs [] r)(ht:(r.flatMap (·.2)).flatten=t)(hz:(r.flatMap (·.2)).length<=1000)(hl:r.length<=1000)(fa:t.length<=1000):cl (d+58) "decoded_words" [.bytes o] O=some (.ok (.str t),O):=by
 obtain⟨J',h1,h2⟩:=RO (d:=d) (O:=O) (o:=o) (fs:=r.map (·.1)) r (A:=[]) (acc:=[]) (J:=dwE o (r.map (·.1)) []) rfl h (by erw[iM];exact hZ (j5 hz _) (by decide)) (.inl rfl)
 rw[j4]at h2
 obtain hr:BW [.int (r.map (·.1)).length]=some (IW 0 r.length):=by erw[iH];exact C3 _ (iL hl)
 have hj:=IJ (r.flatMap (·.2)) (vs:=sts (r.flatMap (·.2))) (by refine rwS List.length_flatten (rwE ht ?_);exact Ai (iL fa)) (Qd _)
 replace hj:=ht▸hj
 generalize sts (r.flatMap (·.2))=vs at *
 generalize r.map (·.1)=fs at *
 refine Ap (fd:=⟨CO 75,[],Aj 75,bd 75⟩) (J:=[("octets",.val (.bytes o))]) (r:=(.ret (.str t),J',O)) ?_ ?_ (Ac (Ab (J':=[("octets",.val (.bytes o)),("pieces",.val (.lst fs))]) (Af (t:=(.lst fs,.val)) (s:=.val (.lst fs)) ?_ (Ar (ts:=[(.bytes o,.val)]) (vs:=[.bytes o]) ?_ (Al ?_) rfl hp) rfl ?_) (Ab (J':=dwE o fs []) ?_ ((BK ?_ (Bx (as:=AQ (G7 (Aa (bd 75) 2))) (ts:=[(.int fs.length,.val)]) ?_ ?_ ?_ hr) h1).trans (thn_nxt rfl ?_))))) rfl
 ·nofun
 ·nofun
 ·nofun
 ·nofun
 ·nofun
 ·nofun
 ·nofun
 ·nofun
 ·nofun
 ·nofun
 ·nofun
 ·clear h h1 hl hp hr ht fa hz
  rcases h2 with rfl | ⟨s,b,v,rfl⟩ <;>
  ·refine Az (Ax (t:=(.str t,.val)) ?_ (CG (t:=(.str [],.val)) (ts:=[(.lst vs,.bor)]) ?_ ?_ ?_ (Al ?_) hj) rfl) <;> nofun
noncomputable def Uu:List (List Nat)->List (V×List (List Nat))
 | []=>[]
 | c::cs=>(pF [32],[])::(pT c,[c])::Uu cs
theorem Mr{c:List Nat}{r:List (List Nat)}:Uu (c::r)=(pF [32],[])::(pT c,[c])::Uu r:=rfl
theorem SA(cs:List (List Nat)):(Uu cs).map (·.1)=WD [32] cs:=by
 induction cs with
 | nil=>rfl
 | cons c cs ih=>(refine rwE Mr (i7 iW ?_);erw[iW,ih]);rfl
theorem NC(cs:List (List Nat)):(Uu cs).flatMap (·.2)=cs:=by
 induction cs with
 | nil=>rfl
 | cons c cs ih=>(refine rwE Mr (i7 iS ?_);erw[iS,ih]);rfl
structure Pok(x:List Nat):Prop where
 sg:∀ c∈x,c∈SG
 has:x.all Cs.a.has=true
 len:x.length<=900
theorem Vi{Q:List Nat}(hQ:Pok Q)(cs:List (List Nat)):∀ A,A≠[]->OKs A (Uu cs++[(pF Q,[Q])]):=by
 induction cs with
 | nil=>exact λ A _=>iA (.inr (.inr ⟨Q,rfl,rfl,.inr rfl,hQ.sg,hQ.has,hQ.len⟩)) trivial
 | cons c cs ih=>exact λ A hA=>iAA (.inr (.inl ⟨rfl,rfl,hA,λ z=>(nc l7 z (.refl false))⟩)) (.inl ⟨c,rfl,rfl⟩) (ih _ λ z=>by cases List.append_eq_nil_iff.mp z with | intro _ z=>exact nc l7 z (.refl false))
theorem Se(cs:List (List Nat)):(Uu cs).length=2 * cs.length:=by
 induction cs with
 | nil=>rfl
 | cons c cs ih=>(refine rwE Mr (i7 i6 ?_);erw[i6,i6];erw[ih]);exact mE _ _ _
theorem Yy{t:List Nat}(h:nm [] t)(K:Pok t):cl (d+58) "decoded_words" [.bytes t] O=some (.ok (.str t),O):=
 Yq (r:=[(pF t,[t])]) (Oq h K.len) ⟨.inr (.inr ⟨t,rfl,rfl,.inl rfl,K.sg,K.has,K.len⟩),trivial⟩ (iO t) (lH rfl) (lH rfl) (hZ K.len (by decide))
theorem Yd(k:Cs)(w:Wy){o P Q c t:List Nat}{cs:List (List Nat)}(hc:∀ x∈c::cs,Ws k w x)(e:o=P++(joinL [32] ((c::cs).map (wd k w))++Q))(hP:P=[]\/∃ X',P=X'++[32])(hQ:Q=[]\/∃ Y',Q=32::Y')(nP:nm (joinL [32] ((c::cs).map (wd k w))++Q) P)(nQ:nm [] Q)(hl:P.length+2 * cs.length+Q.length<=900)
  (kP:Pok P) (kQ:Pok Q) (ht:P++((c::cs).flatten++Q)=t) (fa:t.length<=900):cl (d+58) "decoded_words" [.bytes o] O=some (.ok (.str t),O):=by
 refine Yq (r:=(pF P,[P])::(pT c,[c])::(Uu cs++[(pF Q,[Q])])) ?_ (iAA (.inr (.inr ⟨P,rfl,rfl,.inl rfl,kP.sg,kP.has,kP.len⟩)) (.inl ⟨c,rfl,rfl⟩) (Vi kQ cs _ λ z=>(nc l7 z (.refl false)))) ?_ ?_ ?_ (iL fa)
 ·(erw[iW,iW];erw[k8,SA]);exact(P3 (d:=d) (O:=O) k w hc e hP hQ nP nQ hl)
 ·(erw[iS,iS];erw[kE,NC];refine rwS ht ?_)
  show([P]++([c]++(cs++([Q]++[])))).flatten=_
  simp only[rV,lG,qZ,iO,iF]
 ·(erw[iS,iS];erw[kE,NC])
  show([P]++([c]++(cs++([Q]++[])))).length<=_
  simp only[hW,i6,iM];lia
 ·(erw[i6,i6];erw[hW,Se])
  simp only[i6,iM];lia
section
variable {α β:Type}
theorem ID{ts es:List hJ}{k k':Nat}{p p' q:Pos}{xs:List hV}{tvs:List TV}{sl:List (hV×Slot)}(hn:B0 ts=some xs)(hc:xs.Nodup/\(xs.all λ x=>Ah (sc.names.lookup x))/\noStar es/\HP es)(h:Mo.mapM (ev d sc J) es O=some (.ok tvs,O'))(hs:Ci xs tvs=some sl)
  (hf:(tvs.filter (λ t=>t.2==.fresh)).length<=1/\tvs.length<=8) (hr:Aw J sl=J'):Be d sc J O (.Assign [.Tuple ts k p] (.Tuple es k' p') q)=some (.nxt,J',O'):=by
 show((B0 ts).map W4.names).bind (Ea (ev d) G.gl sc J O (.Tuple es k' p'))=_
 erw[hn]
 refine BX hc ?_
 unfold liftE
 erw[h]
 show(Ci xs tvs).bind _=_
 erw[hs]
 exact BX hf (rwE hr rfl)
theorem Sp{x y:hJ}{p:Pos}(hx:ev d sc J x O=some (.ok (.bool true,.val),O))(hy:ev d sc J y O=some (.ok (.bool true,.val),O')):ev (d+1) sc J (.BoolOp .And [x,y] p) O=some (.ok (.bool true,.val),O'):=As hx hy
theorem OF{o hi:hJ}{p pp:Pos}{t b:TV}{y:Int}{u:V}(h1:ev d sc J o O=some (.ok t,O))(h3:ev d sc J hi O=some (.ok b,O'))(hb:b.1.int?=some y)
  (h:Bo t.1 none (some y)=some u):ev (d+1) sc J (.Subscript o (.Slice none (some hi) none pp) p) O=some (.ok (AI u),O'):=by
 exact rwE FT (As h1 (As (m:=Fu (ev d) sc J none) rfl (Di (Di h3 (by erw[hb];rfl)) (by erw[h];rfl))))
end
noncomputable def fau:V:=.str [102,97,117,108,116]
def CP(o:Option (List Nat)):V:=match o with
 | some b=>.bytes b
 | none=>fau
noncomputable abbrev laE(s:V)(t:List Nat)(W:Int):R:=[("script",.val s),("pen",.val .pen),("words",.val (.str t)),("width",.val (.int W))]
noncomputable abbrev YH(s:V)(t:List Nat)(W:Int)(u:V):R:=[("script",.val s),("pen",.val .pen),("words",.val (.str t)),("width",.val (.int W)),("due",.val u)]
noncomputable abbrev OD(s:V)(t:List Nat)(W:Int)(u v:V):R:=[("script",.val s),("pen",.val .pen),("words",.val (.str t)),("width",.val (.int W)),("due",.val u),("heard",.val v)]
noncomputable abbrev To(s:V)(t:List Nat)(W:Int)(u v k w:V):R:=[("script",.val s),("pen",.val .pen),("words",.val (.str t)),("width",.val (.int W)),("due",.val u),("heard",.val v),("charset",.val k),("way",.val w)]
theorem P4(o:Option (List Nat)):CK .NotEq (CP o) (CP o)=some false:=by
 cases o with
 | none=>nofun
 | some b=>
  show some (!(decide (b=b)))=_
  erw[decide_eq_true rfl];rfl
theorem ne_str(t:List Nat):CK .NotEq (.str t) (.str t)=some false:=by
 show some (!(decide (t=t)))=_
 erw[decide_eq_true rfl];rfl
structure Vm(t:List Nat)(W:Int)(o:Option (List Nat)):Prop where
 enc:Rr t W
 ewo:ewo t W=o
 due:∃ a b,Ww t W a b/\YO t W a b=CP o
 dec:∀ b,o=some b->∀ (d:Nat) (O:A4),cl (d+58) "decoded_words" [.bytes b] O=some (.ok (.str t),O)
theorem V8{s u:V}{t:List Nat}{W:Int}{o:Option (List Nat)}(h:cl (d+67) "encoded_words" [.str t,.int W] O=Ib o O):Be (d+69) (Aj 88) (YH s t W u) O (Aa (bd 88) 3)=some (.nxt,OD s t W u (CP o),O):=by
 obtain hh:=rfl
 cases o with
 | some b=>
  refine Mp hh ?_ (Ac (AD (Af (t:=(.bytes b,.val)) (s:=.val (.bytes b)) ?_ (Ar (ts:=[(.str t,.val),(.int W,.val)]) (vs:=[.str t,.int W]) ?_ (AO ?_ ?_) rfl h) rfl ?_))) <;> nofun
 | none=>
  refine HG hh ?_ (Ac (Ht (Es ?_ (EO (ts:=[(.str t,.val),(.int W,.val)]) (vs:=[.str t,.int W]) ?_ (AO ?_ ?_) rfl h)))) ?_ ?_ <;> nofun
theorem S0{s:V}{t:List Nat}{W:Int}(o:Option (List Nat))(h:∀ b,o=some b->∀ (d:Nat) (O:A4),cl (d+58) "decoded_words" [.bytes b] O=some (.ok (.str t),O)):Bf (d+69) (Aj 88) (OD s t W (CP o) (CP o)) (Bz (Aa (bd 88) 4)) O=some (.ok (false||false),O):=by
 obtain h1:=P4 o
 refine Jg (AN (a:=(CP o,.val)) (b:=(CP o,.val)) ?_ ?_ ?_ h1) λ _=>?_
 ·nofun
 ·nofun
 ·nofun
 ·clear h1
  cases o with
  | none=>nofun
  | some b=>
   refine Ba (a:=true) (b:=false) ?_ λ _=>AN (a:=(.str t,.val)) (b:=(.str t,.val)) ?_ (Ar (ts:=[(.bytes b,.val)]) (vs:=[.bytes b]) ?_ (Al ?_) rfl (h b rfl (d+7) O)) ?_ (ne_str t) <;> nofun
theorem XY{s u v:V}{t:List Nat}{W:Int}{b:List Nat}(h1:cl (d+67) "encoded_words" [.str t] O=Ib (some b) O)(h2:cl (d+67) "_law_due" [.str t,.int 75] O=some (.ok (.bytes b),O)):Bf (d+69) (Aj 88) (OD s t W u v) (Bz (Aa (bd 88) 5)) O=some (.ok false,O):=by
 refine AN (a:=(.bytes b,.val)) (b:=(.bytes b,.val)) ?_ (Ar (ts:=[(.str t,.val)]) (vs:=[.str t]) ?_ (Al ?_) rfl h1) (Ar (ts:=[(.str t,.val),(.int 75,.val)]) (vs:=[.str t,.int 75]) ?_ (AO ?_ ?_) rfl h2) (P4 (some b)) <;> nofun
def KS:List V:=[.str Cs.a.name,.str Cs.l.name,.str Cs.u.name]
noncomputable def WS:List V:=[.str [81],.str [66],.str [81],.str [66],.str [113],.str [88]]
theorem P1{t:List Nat}{k w:V}(hk:k∈KS)(hw:w∈WS)(hs:∀ c∈t,c∈SG)(hl:t.length<=200):cl (d+52) "_law_one_holds" [.str t,k,w] O=some (.ok (.bool true),O):=by
 obtain hk:∃ k':Cs,k = .str k'.name:=by
  refine jP ((iJ).mp hk) (λ rfl=>?_) λ hk=>?_
  ·exact⟨.a,rfl⟩
  refine jP ((iJ).mp hk) (λ rfl=>?_) λ hk=>?_
  ·exact⟨.l,rfl⟩
  ·exact⟨.u,(iD).mp hk⟩
 obtain⟨k,rfl⟩:=hk
 rcases (iJ).mp hw with rfl | hw
 ·exact MD k .q hs hl
 rcases (iJ).mp hw with rfl | hw
 ·exact MD k .b hs hl
 rcases (iJ).mp hw with rfl | hw
 ·exact MD k .q hs hl
 rcases (iJ).mp hw with rfl | hw
 ·exact MD k .b hs hl
 rcases (iJ).mp hw with rfl | hw
 ·exact GO k (.head _)
 ·exact rwE ((iD).mp hw) (GO k (.tail _ (.head _)))
theorem RY{d:Nat}{sv:V}{cs:List Int}{t:List Nat}{n s1 s2:Nat}{x0 x1 x2:Int}(h1:cl (d+68) "_law_text" [.pen] (pen cs 0 x0)=some (.ok (.str t),pen cs s1 x1))(h2:cl (d+67) "_law_draw" [.pen,.int (65:Nat)] (pen cs s1 x1)=some (.ok (.int (n:Nat)),pen cs s2 x2)) :
  Be (d+69) (Aj 88) [("script",.val sv),("pen",.val .pen)] (pen cs 0 x0) (Aa (bd 88) 1)=some (.nxt,laE sv t (16+(n:Int)),pen cs s2 x2):=by
 refine ID (xs:=["words","width"]) (tvs:=[(.str t,.val),(.int (16+(n:Int)),.val)]) (sl:=[("words",.val (.str t)),("width",.val (.int (16+(n:Int))))]) ?_ ?_ (Lr (FH (ts:=[(.pen,.val)]) (vs:=[.pen]) ?_ (Al ?_) rfl h1) (Vb (a:=(.int 16,.val)) (b:=(.int (n:Nat),.val)) ?_ (FH (ts:=[(.pen,.val),(.int (65:Nat),.val)]) (vs:=[.pen,.int (65:Nat)]) ?_ (AO ?_ ?_) rfl h2) ?_)) rfl ⟨kA 1,lH rfl⟩ ?_
 ·nofun
 ·decide +kernel
 all_goals nofun
theorem S9{d:Nat}{sv:V}{cs:List Int}{t:List Nat}{W:Int}{u v k w:V}{s0 s1 s2:Nat}{x0 x1 x2:Int}(h1:cl (d+68) "_law_pick" [.pen,.lst KS] (pen cs s0 x0)=some (.ok k,pen cs s1 x1))(h2:cl (d+68) "_law_pick" [.pen,.lst WS] (pen cs s1 x1)=some (.ok w,pen cs s2 x2)) :
  Be (d+69) (Aj 88) (OD sv t W u v) (pen cs s0 x0) (Aa (bd 88) 6)=some (.nxt,To sv t W u v k w,pen cs s2 x2):=by
 refine ID (xs:=["charset","way"]) (tvs:=[(k,.val),(w,.val)]) (sl:=[("charset",.val k),("way",.val w)]) ?_ ?_ (Lr (FH (ts:=[(.pen,.val),(.lst KS,.fresh)]) (vs:=[.pen,.lst KS]) ?_ (AO ?_ ?_) rfl h1) (FH (ts:=[(.pen,.val),(.lst WS,.fresh)]) (vs:=[.pen,.lst WS]) ?_ (AO ?_ ?_) rfl h2)) rfl ⟨kA 1,lH rfl⟩ ?_
 ·nofun
 ·decide +kernel
 all_goals nofun
theorem Vo{d:Nat}{sv:V}{cs:List Int}{t:List Nat}{W:Int}{u v k w:V}{n s0 s1:Nat}{x0 x1:Int}(h1:∀ O,cl (d+67) "_law_one_holds" [.str t,k,w] O=some (.ok (.bool true),O))(h2:cl (d+65) "_law_draw" [.pen,.int (20:Nat)] (pen cs s0 x0)=some (.ok (.int (n:Nat)),pen cs s1 x1))(h3:∀ O,cl (d+67) "_law_one_holds" [.str (t.take n),k,w] O=some (.ok (.bool true),O)) :
  Be (d+69) (Aj 88) (To sv t W u v k w) (pen cs s0 x0) (Aa (bd 88) 7)=some (.ret (.bool true),To sv t W u v k w,pen cs s1 x1):=by
 refine Jz (t:=(.bool true,.val)) ?_ (Sp (Ar (ts:=[(.str t,.val),(k,.val),(w,.val)]) (vs:=[.str t,k,w]) ?_ (DD ?_ ?_ ?_) rfl (h1 (pen cs s0 x0))) (FH (ts:=[(.str (t.take n),.val),(k,.val),(w,.val)]) (vs:=[.str (t.take n),k,w]) ?_ (U4 (O'':=pen cs s1 x1) (OF (t:=(.str t,.val)) (b:=(.int (n:Nat),.val)) ?_ (FH (ts:=[(.pen,.val),(.int (20:Nat),.val)]) (vs:=[.pen,.int (20:Nat)]) ?_ (AO ?_ ?_) rfl h2) rfl (DX t n)) ?_ ?_) rfl (h3 (pen cs s1 x1)))) rfl <;> nofun
theorem YS(dy:∀ rs:List (List Nat),(∀ r∈rs,r∈RW)->rs.length<=5->∀ n:Nat,n < 65->∃ o,Vm (joinL [32] rs) (16+(n:Int)) o)(h75:∀ rs:List (List Nat),(∀ r∈rs,r∈RW)->rs.length<=5->∃ b,Vm (joinL [32] rs) 75 (some b))(l:List Int):Jt l:=by
 refine Bj (VX (d:=42) (cs:=l.take 40) (s:=0) (x:=0) (kA _)) λ rs s1 x1 r1 r2 r3 r4=>BJ (Jq (d:=51) (cs:=l.take 40) (s:=s1) (m:=65) (x:=x1) (by decide) (by decide) (iL r3)) λ n s2 x2 q1 q2 q3=>BJ (LK (d:=48) (cs:=l.take 40) (s:=s2) (x:=x2) (vs:=KS) (λ z=>(nc l7 z (.refl false))) (by decide) (by grind)) λ k s3 x3 k1 k2 k3=>BJ (LK (d:=48) (cs:=l.take 40) (s:=s3) (x:=x3) (vs:=WS) (λ z=>(nc l7 z (.refl false))) (by decide) (by grind)) λ w s4 x4 w1 w2 w3=>BJ (Jq (d:=49) (cs:=l.take 40) (s:=s4) (m:=20) (x:=x4) (by decide) (by decide) (by grind)) λ m s5 x5 m1 m2 m3=>?_
 clear k2 m1 m2 q2 r3 w2
 refine qE (dy rs r1 r2 n q1) λ o G=>qE (h75 rs r1 r2) λ b G2=>?_
 generalize joinL [32] rs=t at *
 refine It G.due λ a1 b1 D1 e1=>It G2.due λ a2 b2 D2 e2=>?_
 obtain c1:=VW (d:=5) (O:=pen (l.take 40) s2 x2) G.enc
 rw[G.ewo]at c1
 obtain c2:=RN (d:=5) (O:=pen (l.take 40) s2 x2) G2.enc
 rw[G2.ewo]at c2
 obtain c3:=UR (d:=12) (O:=pen (l.take 40) s2 x2) D1
 rw[e1]at c3
 obtain c4:=UR (d:=11) (O:=pen (l.take 40) s2 x2) D2
 rw[e2]at c4
 obtain f2:Be 69 (Aj 88) (laE (.lst (l.map .int)) t (16+(n:Int))) (pen (l.take 40) s2 x2) (Aa (bd 88) 2)=some (.nxt,YH (.lst (l.map .int)) t (16+(n:Int)) (CP o),pen (l.take 40) s2 x2):=by
  refine Af (t:=(CP o,.val)) (s:=.val (CP o)) ?_ (Ar (ts:=[(.str t,.val),(.int (16+(n:Int)),.val)]) (vs:=[.str t,.int (16+(n:Int))]) ?_ (AO ?_ ?_) rfl c3) rfl ?_ <;> nofun
 refine Ps (pen (l.take 40) 0 0) (pen (l.take 40) s5 x5) (To (.lst (l.map .int)) t (16+(n:Int)) (CP o) (CP o) k w) 12 70 (by decide) (Xh l) ?_
 obtain hr:JA=(bd 88).tail:=rfl
 obtain hs:(Iv "law").scope=Aj 88:=rfl
 obtain he:(BE [("script",.val (.lst (l.map .int)))] "pen" (.val .pen):R)=([("script",.val (.lst (l.map .int))),("pen",.val .pen)]:R):=rfl
 (erw[hr,hs];erw[he])
 exact Ac (d:=69) (FA (RY (d:=0) (sv:=.lst (l.map .int)) r4 q3) (Ab f2 (Ab (V8 (d:=0) (s:=.lst (l.map .int)) (u:=CP o) c1) (An (S0 (d:=0) (s:=.lst (l.map .int)) (O:=pen (l.take 40) s2 x2) (W:=16+(n:Int)) o G.dec) (λ q=>(fls q)) λ _=>thn_nxt (J':=OD (.lst (l.map .int)) t (16+(n:Int)) (CP o) (CP o)) rfl (An (XY (d:=0) (s:=.lst (l.map .int)) (u:=CP o) (v:=CP o) (W:=16+(n:Int)) c2 c4) (λ q=>(fls q)) λ _=>thn_nxt (J':=OD (.lst (l.map .int)) t (16+(n:Int)) (CP o) (CP o)) rfl (FA (S9 (d:=0) (sv:=.lst (l.map .int)) (t:=t) (W:=16+(n:Int)) (u:=CP o) (v:=CP o) k3 w3) (Rs (Vo (d:=0) (sv:=.lst (l.map .int)) (t:=t) (W:=16+(n:Int)) (u:=CP o) (v:=CP o) (λ O=>P1 (d:=15) (O:=O) k1 w1 G.enc.sg G.enc.len) m3 (λ O=>P1 (d:=15) (O:=O) k1 w1 (λ c hc=>G.enc.sg c (jW hc)) (by erw[iY];obtain this:=G.enc.len;grind))))))))))
theorem C1(t:List Nat)(i j:Nat):(t.drop i).getD j 0=t.getD (i+j) 0:=by
 (refine i7 jT (rwE jT ?_);exact rwE List.getElem?_drop rfl)
theorem IE{t:List Nat}{i j:Nat}(h:j < i):(t.take i).getD j 0=t.getD j 0:=by
 (refine i7 jT (rwE jT ?_);exact rwE (pR h) rfl)
theorem DS{t:List Nat}{i c:Nat}(h:t.getD i 0=c)(hc:c≠0):i < t.length:=by
 refine jP (uG i t.length) (λ q=>?_) λ q=>?_
 ·exact q
 ·rw[jT,uN q]at h;exact absurd h.symm hc
theorem Ob{t:List Nat}{c:Nat}(h:c∈t):∃ i,i < t.length/\t.getD i 0=c:=by
 obtain⟨i,hi,e⟩:=List.getElem_of_mem h
 exact iEA i hi (by(refine i7 jT (rwE (jM hi) ?_);erw[e]);rfl)
noncomputable def J0(t:List Nat)(i:Nat):Prop:=t.getD i 0=61/\t.getD (i+1) 0=63
theorem EA(t:List Nat)(i:Nat):(t.take (i+2)).drop i=[61,63]↔J0 t i:=by
 obtain e:(t.take (i+2)).drop i=(t.drop i).take 2:=by exact i7 List.drop_take (rwE (lN ..) rfl)
 obtain e1:=C1 t i 0
 obtain e2:=C1 t i 1
 unfold J0
 (refine rwE e (rwS e2 ?_);refine rwS (pN i) (rwS e1 ?_);erw[pN])
 rcases t.drop i with _ | ⟨x,_ | ⟨y,u⟩⟩
 ·exact⟨λ h=>((nc l7 h (.refl false))),λ h=>(nomatch h.1)⟩
 ·exact⟨λ h=>(nomatch (oJ h).2),λ h=>nomatch h.2⟩
 ·constructor
  ·intro h
   obtain h1:=oJ h
   exact⟨h1.1,(oJ h1.2).1⟩
  ·rintro⟨h1,h2⟩
   obtain h1:x=61:=h1
   obtain h2:y=63:=h2
   erw[h1,h2];rfl
def Nd(t:List Nat)(x:Nat):Prop:=x < t.length/\((pr (t.getD x 0)=false)\/J0 t x\/(1<=x/\J0 t (x - 1))\/(t.getD x 0=32/\(x=0\/x+1=t.length)))
theorem Sh(t:List Nat)(i:Nat):(t.take (i+1)).drop (i - 1)=[61,63]↔1<=i/\J0 t (i - 1):=by
 cases i with
 | zero=>
  constructor
  ·intro h
   obtain this:=congrArg jZ h
   obtain this:=eqL iY (eqL jA this)
   obtain h2:min (0+1) t.length<=1:=nE _ _
   simp only[i6,iM]at this
   lia
  ·exact λ h=>absurd h.1 (by decide)
 | succ i=>exact⟨λ h=>⟨kZ i,(EA t i).mp h⟩,λ h=>(EA t i).mpr h.2⟩
theorem P7(t:List Nat)(x:Nat)(hx:x < t.length):nw t x=true↔Nd t x:=by
 unfold nw Nd
 erw[kT]
 obtain e:(!(decide (32<=t.getD x 0)&&decide (t.getD x 0<=126))) = !(pr (t.getD x 0)):=rfl
 erw[e,jO]
 by_cases h:t.getD x 0=32
 ·(erw[if_pos h,kT];erw[decide_eq_true_eq,decide_eq_true_eq])
  constructor
  ·rintro(q | q)
   ·exact⟨hx,.inl q⟩
   ·exact⟨hx,.inr (.inr (.inr ⟨h,q⟩))⟩
  ·rintro⟨_,q | q | ⟨q1,q⟩| q⟩
   ·exact .inl q
   ·have:=q.1;lia
   ·obtain q2:=q.2
    replace q2:=eqL h ((sF q1)▸q2);exact absurd q2 (by decide)
   ·exact .inr q.2
 ·(erw[if_neg h,kT];erw[decide_eq_true_eq,decide_eq_true_eq];refine Gu (EA ..) (Gu (Sh ..) ?_))
  constructor
  ·rintro(q | q | q)
   ·exact⟨hx,.inl q⟩
   ·exact⟨hx,.inr (.inl q)⟩
   ·exact⟨hx,.inr (.inr (.inl q))⟩
  ·rintro⟨_,q | q | q | q⟩
   ·exact .inl q
   ·exact .inr (.inl q)
   ·exact .inr (.inr q)
   ·exact absurd q.1 h
theorem C2(t:List Nat)(x:Nat):x∈A6 t↔Nd t x:=by
 unfold A6
 refine Gu qC (Gu mJ ?_)
 exact⟨λ h=>(P7 t x h.1).mp h.2,λ h=>⟨h.1,(P7 t x h.1).mpr h⟩⟩
theorem Ru(t:List Nat):∀ (k:Nat) (p:Nat×Nat),p∈en k t↔∃ j,j < t.length/\p=(k+j,t.getD j 0):=by
 induction t with
 | nil=>exact λ k p=>⟨λ h=>((by cases h)),fun⟨j,h,_⟩=>((by cases h))⟩
 | cons c t ih=>
  intro k p
  (refine rwE en_cE (Gu iJ ?_);refine Gu (ih ..) ?_)
  constructor
  ·rintro(rfl | ⟨j,h,rfl⟩)
   ·exact iEA 0 (kZ _) rfl
   ·exact iEA (j+1) (Nat.succ_lt_succ h) (by(erw[mE];rw[lB 1]);rfl)
  ·rintro⟨j,h,rfl⟩
   cases j with
   | zero=>exact .inl rfl
   | succ j=>exact .inr (iEA j (kL h) (by(erw[mE];rw[lB 1]);rfl))
theorem WU(t:List Nat)(x:Nat):x∈n1 t↔x < t.length/\pr (t.getD x 0)=false:=by
 unfold n1
 refine Gu jV ?_
 constructor
 ·rintro⟨p,h,rfl⟩
  refine qA ((qC).mp h) λ h1 h2=>?_
  clear h
  refine A9 ((Ru t 0 p).mp h1) λ j h3 aa=>?_;subst aa
  exact rwE (kF ..) ⟨h3,jO _▸h2⟩
 ·rintro⟨h1,h2⟩
  exact iEA (x,t.getD x 0) ((qC).mpr ⟨(Ru t 0 _).mpr ⟨x,h1,by exact rwE (kF ..) rfl⟩,by erw[h2];rfl⟩) rfl
theorem Vh(t:List Nat)(x:Nat):x∈n2 t↔J0 t x\/(1<=x/\J0 t (x - 1)):=by
 unfold n2
 refine Gu m9 ?_
 constructor
 ·rintro⟨i,h1,h2⟩
  by_cases q:(t.take (i+2)).drop i=[61,63]
  ·replace h2:=(if_pos q)▸h2
   rcases (iJ).mp h2 with rfl | h2
   ·exact .inl ((EA t x).mp q)
   ·exact rwE ((iD).mp h2) (.inr (iA (kZ i) ((EA t i).mp q)))
  ·replace h2:=(if_neg q)▸h2;cases h2
 ·rintro(h | ⟨h1,h⟩)
  ·exact iEA x ((mJ).mpr (by obtain this:=DS h.2 (by decide);exact r9 this)) (rwE (if_pos ((EA t x).mpr h)) (.head _))
  ·refine iEA (x - 1) ((mJ).mpr (by obtain this:=DS h.2 (by decide);exact Nat.lt_sub_of_add_lt this)) (rwE (if_pos ((EA t _).mpr h)) (rwE (sF h1) ?_));exact .tail _ (.head _)
theorem VA(t:List Nat)(x:Nat):x∈n3 t↔t.getD 0 0=32/\x=0:=by
 unfold n3
 cases t with
 | nil=>exact⟨λ h=>((by cases h)),λ h=>nomatch h.1⟩
 | cons c t=>
  by_cases h:c=32
  ·refine rwE (if_pos (by erw[h];rfl)) (Gu iD ?_);exact⟨λ q=>⟨h,q⟩,λ q=>q.2⟩
  ·exact rwE (if_neg (show ¬ (c::t).take 1=[32] from λ z=>h (oJ z).1)) ⟨λ q=>(nomatch q),λ q=>absurd q.1 h⟩
theorem VF(t:List Nat)(x:Nat):x∈n4 t↔t.getD (t.length - 1) 0=32/\x=t.length - 1:=by
 unfold n4
 obtain e1:=C1 t (t.length - 1) 0
 have l1:(t.drop (t.length - 1)).length=t.length - (t.length - 1):=jA
 rw[pN]at e1
 refine rwS e1 ?_
 rcases hu:t.drop (t.length - 1) with _ | ⟨c,_ | ⟨y,u⟩⟩
 ·exact⟨λ h=>(nomatch h),λ h=>nomatch h.1⟩
 ·by_cases h:c=32
  ·refine rwE (if_pos (rwE h rfl)) (Gu iD ?_);exact⟨λ q=>⟨h,q⟩,λ q=>q.2⟩
  ·exact rwE (if_neg (λ z=>h (oJ z).1)) ⟨λ q=>(nomatch q),λ q=>absurd q.1 h⟩
 ·rw[hu]at l1;simp only[i6]at l1;grind
theorem Fh(t:List Nat)(x:Nat):x∈AL t↔Nd t x:=by
 unfold AL Nd
 (refine Gu jX (Gu jX ?_);refine Gu jX (Gu (WU ..) ?_);refine Gu (Vh ..) (Gu (VA ..) ?_);refine Gu (VF ..) ?_)
 constructor
 ·rintro(((h | h) | h) | h)
  ·exact⟨h.1,.inl h.2⟩
  ·refine jP h (λ h=>?_) λ h=>?_
   ·exact⟨DS h.1 (by decide),.inr (.inl h)⟩
   ·exact⟨by obtain this:=DS h.2.2 (by decide);lia,.inr (.inr (.inl h))⟩
  ·exact rwE h.2 ⟨DS h.1 (by decide),.inr (.inr (.inr ⟨h.1,.inl rfl⟩))⟩
  ·have:=DS h.1 (by decide)
   exact rwE h.2 ⟨this,.inr (.inr (.inr ⟨h.1,.inr (sF (Nat.zero_lt_of_lt this))⟩))⟩
 ·rintro⟨h0,h | h | h | ⟨h,q | q⟩⟩
  ·exact .inl (.inl (.inl ⟨h0,h⟩))
  ·exact .inl (.inl (.inr (.inl h)))
  ·exact .inl (.inl (.inr (.inr h)))
  ·rw[q]at h ⊢;exact .inl (.inr ⟨h,rfl⟩)
  ·have:t.length - 1=x:=by exact(Nat.eq_sub_of_add_eq q).symm
   exact rwE this (.inr ⟨h,rfl⟩)
theorem M3(x y:Nat)(l:List Nat):y∈T6 x l↔y=x\/y∈l:=by
 induction l with
 | nil=>exact iJ
 | cons z l ih=>
  erw[Jk]
  by_cases h:x<=z
  ·exact rwE (if_pos h) iJ
  ·(refine rwE (if_neg h) (Gu iJ ?_);refine Gu ih (Gu iJ ?_))
   exact⟨λ q=>q.elim (λ q=>.inr (.inl q)) λ q=>q.elim .inl λ q=>.inr (.inr q),λ q=>q.elim (λ q=>.inr (.inl q)) λ q=>q.elim .inl λ q=>.inr (.inr q)⟩
theorem Tw(y:Nat)(l:List Nat):y∈JU l↔y∈l:=by
 induction l with
 | nil=>exact Iff.rfl
 | cons x l ih=>rw[Vt,M3,ih,iJ]
noncomputable def Up:List Nat->Prop
 | []=>True
 | x::r=>(∀ y∈r,x<=y)/\Up r
theorem Wf(x:Nat)(l:List Nat)(h:Up l):Up (T6 x l):=by
 induction l with
 | nil=>exact⟨λ _ h=>((by cases h)),trivial⟩
 | cons z l ih=>
  erw[Jk]
  by_cases q:x<=z
  ·exact rwE (if_pos q) ⟨λ y hy=>((iJ).mp hy).elim (λ e=>e▸q) λ hy=>hZ q (h.1 y hy),h⟩
  ·exact rwE (if_neg q) ⟨λ y hy=>((M3 x y l).mp hy).elim (λ e=>by lia) λ hy=>h.1 y hy,ih h.2⟩
theorem Vq(l:List Nat):Up (JU l):=by
 induction l with
 | nil=>exact trivial
 | cons x l ih=>exact Wf x _ ih
theorem NK(p:Nat->Bool)(l:List Nat)(h:Up l):Up (l.filter p):=by
 induction l with
 | nil=>exact trivial
 | cons x l ih=>
  cases q:p x with
  | true=>erw[kS q];exact⟨λ y hy=>h.1 y ((qC).mp hy).1,ih h.2⟩
  | false=>erw[mF (by rw[q];exact iX)];exact ih h.2
theorem Qu(n:Nat):∀ a,Up (l6 a n):=by
 induction n with
 | zero=>exact λ _=>trivial
 | succ n ih=>exact λ a=>⟨λ y hy=>by obtain this:=((mM).mp hy).1;exact jB (by assumption),ih (a+1)⟩
theorem Em(t:List Nat):Up (A6 t):=by
 unfold A6;erw[oX];exact NK _ _ (Qu _ _)
theorem Eo(f:Nat)(r:List Nat)(h:Up (f::r)):∀ y∈f::r,y<=last1 f r:=by
 induction r generalizing f with
 | nil=>exact λ y hy=>((iD).mp hy)▸j3 _
 | cons z r ih=>
  intro y hy
  rcases (iJ).mp hy with rfl | hy
  ·exact hZ (h.1 z (.head _)) (ih z h.2 z (.head _))
  ·exact ih z h.2 y hy
theorem R1{f g:Nat}{r s:List Nat}(h1:Up (f::r))(h2:Up (g::s))(h:∀ x,x∈f::r↔x∈g::s):f=g/\last1 f r=last1 g s:=by
 obtain a:∀ {f:Nat} {r:List Nat},Up (f::r)->∀ y∈f::r,f<=y:=λ h y hy=>((iJ).mp hy).elim (λ e=>e▸j3 _) (h.1 y)
 exact⟨q5 (a h1 _ ((h _).mpr (.head _))) (a h2 _ ((h _).mp (.head _))),q5 (Eo g s h2 _ ((h _).mp (ES f r))) (Eo f r h1 _ ((h _).mpr (ES g s)))⟩
theorem Fi(t:List Nat):∀ (n k:Nat),n<=k->AM 32 n k t=-1:=by
 induction t with
 | nil=>exact λ _ _ _=>rfl
 | cons x t ih=>
  intro n k h
  show(if 0<=AM 32 n (k+1) t then _ else if k < n/\x=32 then(k:Int) else -1)=_
  (refine rwE (ih n (k+1) (mN h)) (Gx (by decide) ?_);exact Gx (by lia) rfl)
theorem LF(t:List Nat):∀ (f k:Nat),AM 32 (k+f+1) k t=if t.getD f 0=32 then((k+f:Nat):Int) else AM 32 (k+f) k t:=by
 induction t with
 | nil=>exact λ f k=>(if_neg (λ z=>(by cases z))).symm
 | cons x t ih=>
  intro f k
  obtain e:∀ n,AM 32 n k (x::t)=if 0<=AM 32 n (k+1) t then AM 32 n (k+1) t else if k < n/\x=32 then(k:Int) else -1:=λ _=>rfl
  refine i7 (e ..) (rwE (e ..) ?_)
  cases f with
  | zero=>
   (erw[Fi t _ _ (j3 _),Fi t (k+0) (k+1) (m8 _)];refine Gx (show ¬ (0:Int)<=-1 by decide) ?_;rw[if_neg (show ¬ (0:Int)<=-1 by decide)];erw[if_neg (show ¬ (k < k+0/\x=32) by lia)])
   by_cases h:x=32
   ·refine BX ⟨by lia,h⟩ (rwE (if_pos h) ?_);rfl
   ·exact rwE (if_neg (λ z=>h z.2)) (rwE (if_neg h) rfl)
  | succ f=>
   obtain i:=ih f (k+1)
   rw[show k+1+f+1=k+(f+1)+1 by lia,show k+1+f=k+(f+1) by lia]at i
   show _=if t.getD f 0=32 then _ else _
   erw[i]
   by_cases h:t.getD f 0=32
   ·(erw[if_pos h,if_pos h];exact BX (iV _) rfl)
   ·erw[if_neg h,if_neg h]
    by_cases q:x=32
    ·exact rwE (if_pos (c:=k < k+(f+1)+1/\x=32) ⟨by lia,q⟩) (rwE (if_pos (c:=k < k+(f+1)/\x=32) ⟨by lia,q⟩) rfl)
    ·exact rwE (if_neg (c:=k < k+(f+1)+1/\x=32) (λ z=>q z.2)) (rwE (if_neg (c:=k < k+(f+1)/\x=32) (λ z=>q z.2)) rfl)
theorem Rl(t:List Nat)(f:Nat):AM 32 f 0 t+1=(lo t f:Int):=by
 induction f with
 | zero=>erw[Fi t _ _ (j3 _)];rfl
 | succ f ih=>
  obtain h:=LF t f 0
  rw[kF]at h
  erw[h,Qn]
  by_cases q:t.getD f 0=32
  ·erw[if_pos q,if_pos q];rfl
  ·erw[if_neg q,if_neg q];exact ih
theorem QO(t:List Nat):∀ (n k:Nat),n<=k->findFrom 32 n k t=if (t.takeWhile λ c=>!decide (c=32)).length=t.length then -1 else((k+(t.takeWhile λ c=>!decide (c=32)).length:Nat):Int):=by
 induction t with
 | nil=>exact λ _ _ _=>rfl
 | cons x t ih=>
  intro n k h
  show(if n<=k/\x=32 then(k:Int) else findFrom 32 n (k+1) t)=_
  by_cases q:x=32
  ·(refine BX ⟨h,q⟩ (rwE (oN (by rw[q];decide)) ?_);erw[if_neg (λ z=>(by(first | exact none_some z | exact fls z | (obtain z:=hG z;subst z) | exact nc V.ctorIdx z (.refl false) | cases z)))]);rfl
  ·(erw[if_neg (λ z=>q z.2),oO (by rw[decide_eq_false q];rfl)];refine i7 (ih n (k+1) (mN h)) (rwE i6 ?_);erw[i6])
   by_cases q2:(t.takeWhile λ c=>!decide (c=32)).length=t.length
   ·exact BX q2 (rwE (if_pos (by rw[q2])) rfl)
   ·(refine Gx q2 (rwE (if_neg (λ z=>q2 (oA z))) ?_);exact rwE (show k+1+(t.takeWhile λ c=>!decide (c=32)).length=k+((t.takeWhile λ c=>!decide (c=32)).length+1) by lia) rfl)
theorem Ou(t:List Nat):∀ (j k:Nat),findFrom 32 (k+j) k t=findFrom 32 (k+j) (k+j) (t.drop j):=by
 induction t with
 | nil=>intro j k;erw[List.drop_nil];rfl
 | cons x t ih=>
  intro j k
  cases j with
  | zero=>rfl
  | succ j=>
   have i:=ih j (k+1)
   rw[show k+1+j=k+(j+1) by lia]at i
   refine Gx (by lia) (i7 i ?_);rfl
theorem RI{t:List Nat}{e:Nat}(h:e<=t.length):(if findFrom 32 e 0 t < 0 then(t.length:Int) else findFrom 32 e 0 t)=(hi t e:Int):=by
 obtain s:=Ou t e 0
 rw[kF]at s
 (erw[s,QO _ _ _ (j3 _)];rw[hi])
 by_cases q:((t.drop e).takeWhile λ c=>!decide (c=32)).length=(t.drop e).length
 ·(refine rwE (if_pos q) (BX (by decide) ?_);erw[q,jA]);grind
 ·exact rwE (if_neg q) (Gx (by grind) rfl)
theorem OZ(t:List Nat)(f:Nat):lo t f<=f:=by
 induction f with
 | zero=>exact j3 _
 | succ f ih=>
  erw[Qn]
  by_cases q:t.getD f 0=32
  ·exact rwE (if_pos q) (j3 _)
  ·exact rwE (if_neg q) (mN ih)
theorem lo_sp(t:List Nat)(f:Nat):lo t f=0\/∃ m,lo t f=m+1/\t.getD m 0=32:=by
 induction f with
 | zero=>exact .inl rfl
 | succ f ih=>
  erw[Qn]
  by_cases q:t.getD f 0=32
  ·exact rwE (if_pos q) (.inr (iEA f rfl q))
  ·exact rwE (if_neg q) ih
theorem TT(u:List Nat):u.drop (u.takeWhile λ c=>!decide (c=32)).length=[]\/∃ r,u.drop (u.takeWhile λ c=>!decide (c=32)).length=32::r:=by
 induction u with
 | nil=>exact .inl rfl
 | cons x u ih=>
  by_cases q:x=32
  ·erw[oN (by rw[q];decide),q];exact .inr ⟨u,rfl⟩
  ·exact rwE (oO (by rw[decide_eq_false q];rfl)) ih
theorem YT(t:List Nat)(e:Nat):t.drop (hi t e)=[]\/∃ r,t.drop (hi t e)=32::r:=by
 have:=TT (t.drop e)
 rw[List.drop_drop]at this
 exact this
theorem G9{t:List Nat}{i:Nat}(hi:i < t.length)(h:¬ Nd t i):t.getD i 0 < 128/\¬ J0 t i:=by
 constructor
 ·cases q:pr (t.getD i 0) with
  | false=>exact absurd ⟨hi,.inl q⟩ h
  | true=>
   have:=of_decide_eq_true ((iR).mp q).2
   exact iQ (by assumption) (by decide)
 ·exact λ q=>h ⟨hi,.inr (.inl q)⟩
theorem Um{Y:List Nat}(P:List Nat)(h:∀ i,i < P.length->¬ (P.getD i 0=61/\(P++Y).getD (i+1) 0=63)):nm Y P:=by
 induction P with
 | nil=>exact trivial
 | cons x P ih=>
  refine⟨λ q=>h 0 (kZ _) ⟨q.1,?_⟩,ih λ i hi q=>h (i+1) (Nat.succ_lt_succ hi) q⟩
  have q2:=q.2
  show(P++Y).getD 0 0=63
  cases e:P++Y with
  | nil=>replace q2:=e▸q2;cases q2
  | cons y u=>replace q2:=e▸q2;exact hG q2
theorem QR{k:Cs}(P:List Nat)(h:∀ i,i < P.length->k.has (P.getD i 0)=true):P.all k.has=true:=(jJ).mpr λ c hc=>by
 refine A9 (Ob hc) λ i h1 aa=>?_;subst aa
 exact h i h1
section
variable {t:List Nat} {f:Nat} {r:List Nat}
theorem F9(hn:A6 t=f::r){i:Nat}(h:i < lo t f):i < t.length/\¬ Nd t i:=by
 obtain h1:=OZ t f
 obtain h2:=EH (hn▸i8)
 obtain h3:=Em t
 rw[hn]at h3
 refine⟨by lia,λ q=>?_⟩
 obtain q:=(C2 t i).mpr q
 rw[hn]at q
 refine jP ((iJ).mp q) (λ rfl=>?_) λ q=>?_
 ·lia
 ·obtain this:=h3.1 i q;lia
theorem KB(hn:A6 t=f::r){i:Nat}(h:hi t (last1 f r+1)<=i):¬ Nd t i:=λ q=>by
 obtain h3:=Em t
 obtain q:=(C2 t i).mpr q
 rw[hn]at q h3
 obtain this:=Eo f r h3 i q
 unfold hi at h
 lia
theorem IK(hn:A6 t=[])(i:Nat):¬ Nd t i:=λ q=>by
 have q:=(C2 t i).mpr q
 replace q:=hn▸q;cases q
theorem JC{b:Nat}(h:∀ i,b<=i->¬ Nd t i):(t.drop b).all Cs.a.has=true/\nm [] (t.drop b):=by
 constructor
 ·refine QR _ λ i hi=>decide_eq_true ?_
  replace hi:=jA▸hi
  exact rwE (C1 ..) ((G9 (Nat.add_lt_of_lt_sub' hi) (h (b+i) (jF _ _))).1)
 ·refine Um _ λ i hi q=>?_
  rw[jA]at hi
  rw[iO,C1,C1]at q
  exact(G9 (Nat.add_lt_of_lt_sub' hi) (h (b+i) (jF _ _))).2 q
theorem QQ(hn:A6 t=f::r):(t.take (lo t f)).all Cs.a.has=true/\∀ Y,nm Y (t.take (lo t f)):=by
 have hl:∀ i,i < (t.take (lo t f)).length->i < lo t f:=λ i h=>by rw[iY]at h;exact jK h (nE _ _)
 constructor
 ·refine QR _ λ i hi=>decide_eq_true ?_
  obtain c:=F9 hn (hl i hi)
  exact rwE (IE (hl i hi)) ((G9 c.1 c.2).1)
 ·refine λ Y=>Um _ λ i hi q=>?_
  have hi:=hl i hi
  have c:=F9 hn hi
  replace q:=(IE hi)▸q
  by_cases e:i+1 < lo t f
  ·obtain e2:(t.take (lo t f)++Y).getD (i+1) 0=t.getD (i+1) 0:=by
    obtain h2:=(F9 hn e).1
    (refine i7 jT (rwE (sN (by rw[iY];exact (v7).mpr ⟨e,h2⟩)) ?_);exact rwE (pR e) (sJ jT))
   rw[e2]at q
   exact(G9 c.1 c.2).2 q
  ·rcases lo_sp t f with z | ⟨m,z,z2⟩
   ·lia
   ·have:i=m:=by lia
    rw[this,z2]at q;exact absurd q.1 (by decide)
theorem WR(hn:A6 t=f::r):t.take (lo t f)=[]\/∃ X,t.take (lo t f)=X++[32]:=by
 rcases lo_sp t f with z | ⟨m,z,z2⟩
 ·exact rwE z (.inl rfl)
 ·refine .inr ⟨t.take m,?_⟩
  obtain h:=(F9 hn (i:=m) ((j7 z.symm))).1
  (refine rwE z (i7 oG ?_);erw[jM h])
  rw[jT,jM h]at z2
  erw[(show t[m]=32 from z2)];rfl
theorem D7(hn:A6 t=f::r):AG t=(lo t f,hi t (last1 f r+1)):=by unfold AG;exact rwE hn rfl
theorem span_nil(hn:A6 t=[]):AG t=(0,0):=by unfold AG;exact rwE hn rfl
theorem B6:(AG t).2=0↔A6 t=[]:=by
 constructor
 ·intro h
  cases hn:A6 t with
  | nil=>rfl
  | cons f r=>rw[D7 hn]at h;unfold hi at h;exact absurd h (by show ¬ (_+_=0);lia)
 ·intro h;exact rwE (span_nil h) rfl
theorem C8:AL t=[]↔A6 t=[]:=by
 constructor <;> intro h
 ·cases hn:A6 t with
  | nil=>rfl
  | cons f r=>
   have:=(Fh t f).mpr ((C2 t f).mp (hn▸.head _))
   replace this:=h▸this;cases this
 ·cases hn:AL t with
  | nil=>rfl
  | cons f r=>
   have:=(C2 t f).mpr ((Fh t f).mp (hn▸.head _))
   replace this:=h▸this;cases this
theorem Pe{g:Nat}{s:List Nat}(hn:A6 t=f::r)(hs:JU (AL t)=g::s):AM 32 g 0 t+1=(lo t f:Int)/\(if findFrom 32 (last1 g s+1) 0 t < 0 then(t.length:Int) else findFrom 32 (last1 g s+1) 0 t)=(hi t (last1 f r+1):Int):=by
 obtain u1:=Em t
 obtain u2:=Vq (AL t)
 rw[hn]at u1
 rw[hs]at u2
 refine qA (R1 u1 u2 λ x=>by rw[<-hn,<-hs,Tw,C2,Fh]) λ e1 e2=>?_
 obtain hb:=EH (hn▸ES f r)
 (refine rwS e2 (rwS e1 ?_);erw[Rl,RI (by lia)])
 exact⟨rfl,rfl⟩
theorem U7(hn:A6 t=f::r):(t.take (hi t (last1 f r+1))).drop (lo t f)≠[]:=by
 obtain h1:=OZ t f
 obtain h2:=EH (hn▸i8)
 obtain u:=Em t
 rw[hn]at u
 obtain h3:=Eo f r u f (.head _)
 intro z
 have:=congrArg jZ z
 rw[jA,iY,iM]at this
 unfold hi at this
 omega
theorem KA(hn:A6 t=f::r):t.take (lo t f)++((t.take (hi t (last1 f r+1))).drop (lo t f)++t.drop (hi t (last1 f r+1)))=t:=by
 have h1:=OZ t f
 have u:=Em t
 rw[hn]at u
 have h3:=Eo f r u f (.head _)
 have e:t.take (lo t f)=(t.take (hi t (last1 f r+1))).take (lo t f):=by exact rwE List.take_take (rwE (kO (by unfold hi;lia)) rfl)
 (refine rwE e (rwS (iF ..) ?_);exact rwE (qU ..) (qU ..))
end
theorem NB(k:Cs)(w:Wy)(width:Int)(n:Nat):fl k w+DW w (n:Int) > width↔(n:Int) > rm k w width:=by
 cases w with
 | q=>
  show fl k .q+(n:Int) > width↔(n:Int) > width - ((fr k .q).length+2:Nat)
  unfold fl
  lia
 | b=>
  show fl k .b+4 * ((n:Int)+2).fdiv 3 > width↔(n:Int) > (width - ((fr k .b).length+2:Nat)).fdiv 4 * 3
  unfold fl
  generalize (fr k .b).length+2=F
  erw[kG _ (by decide),kG _ (by decide)]
  lia
theorem DU{t pre r:List Nat}{c b:Nat}(e:t=pre++c::r)(h:b<=pre.length):(t.take (pre.length+1)).drop b=(t.take pre.length).drop b++[c]:=by
 (erw[e,rU];erw[rT rfl])
 exact(qX h)
theorem XI(k:Cs)(w:Wy){width:Int}{t:List Nat}(r:List Nat):∀ {pre:List Nat} {b:Nat} {acc:List (List Nat)} {s:Nat},t=pre++r->b<=pre.length->((t.take pre.length).drop b=[]->s=0) ->
  (gl k w width acc ((t.take pre.length).drop b) s r).map (λ p=>p.1++[p.2])=(ce (rm k w width) pre.length s (B9 k w r)).map (λ e=>acc++chs t b (e++[t.length])):=by
 induction r with
 | nil=>
  intro pre b acc s e hb _
  rw[iO]at e
  refine rwS e ?_;rfl
 | cons c r ih=>
  intro pre b acc s e hb h0
  obtain f1:=NB k w width (w.sz (k.enc c))
  have f2:=NB k w width (s+w.sz (k.enc c))
  have e':t=(pre++[c])++r:=by refine i7 e (rwE (iF ..) ?_);rfl
  obtain lp:(pre++[c]).length=pre.length+1:=hW
  show(gl k w width acc _ s (c::r)).map _=(ce (rm k w width) pre.length s (w.sz (k.enc c)::B9 k w r)).map _
  erw[NA,Ni]
  by_cases q1:(w.sz (k.enc c):Int) > rm k w width
  ·erw[if_pos (f1.mpr q1),if_pos q1];rfl
  ·erw[if_neg (λ z=>q1 (f1.mp z)),if_neg q1]
   by_cases q2:((s+w.sz (k.enc c):Nat):Int) > rm k w width
   ·obtain aJ:=λ z=>by
     obtain this:=h0 z
     rw[this,kF]at q2;exact q1 q2
    erw[if_pos ⟨aJ,f2.mpr q2⟩,if_pos q2]
    obtain i:=ih (pre:=pre++[c]) (b:=pre.length) (acc:=acc++[(t.take pre.length).drop b]) (s:=w.sz (k.enc c)) e' (by lia) (λ z=>by
     rw[lp,DU e (j3 _)]at z
     exact absurd z (mW _ (mB _ _)))
    obtain z0:(t.take pre.length).drop pre.length=[]:=l4 (by erw[iY];exact nE _ _)
    rw[lp,DU e (j3 _),z0,j4]at i
    refine i7 i (rwE (uX ..) ?_)
    refine congrArg (λ g=>Option.map g _) (funext λ x=>?_)
    refine i7 (iF ..) ?_;rfl
   ·erw[if_neg (λ z=>q2 (f2.mp z.2)),if_neg q2]
    obtain i:=ih (pre:=pre++[c]) (b:=b) (acc:=acc) (s:=s+w.sz (k.enc c)) e' (by lia) (λ z=>by
     rw[lp,DU e hb]at z
     exact absurd z (mW _ (mB _ _)))
    rw[lp,DU e hb]at i
    exact i
theorem MK(k:Cs)(w:Wy)(width:Int)(t:List Nat):(gl k w width [] [] 0 t).map (λ p=>p.1++[p.2])=(ce (rm k w width) 0 0 (B9 k w t)).map λ e=>chs t 0 (e++[t.length]):=
 XI k w (t:=t) t (pre:=[]) (b:=0) (acc:=[]) (s:=0) rfl (j3 _) λ _=>rfl
theorem wos_lws(k:Cs)(w:Wy)(width:Int)(t:List Nat):wos k w width t=lws k w width t:=by
 obtain h:=congrArg (Option.map λ l:List (List Nat)=>joinL [32] (l.map (wd k w))) (MK k w width t)
 rw[uX,uX]at h
 exact h.symm
theorem JM(t:List Nat)(W:Int):Wa t W=shl (mid t) W:=by
 unfold Wa shl;exact rwE (wos_lws ..) (rwE (wos_lws ..) rfl)
def tot(k:Cs)(w:Wy)(c:List Nat):Nat:=(c.map λ x=>w.sz (k.enc x)).sum
theorem Ie(k:Cs)(w:Wy)(a b:List Nat):tot k w (a++b)=tot k w a+tot k w b:=by unfold tot;exact rwE k8 rW
theorem Hk(k:Cs)(w:Wy)(c:Nat):tot k w [c]=w.sz (k.enc c):=pN _
theorem Xn(k:Cs)(c:List Nat):tot k .q c=((c.flatMap k.enc).flatMap q1).length:=by
 induction c with
 | nil=>rfl
 | cons x c ih=>
  (erw[iS,kE];refine rwE hW (rwS ih ?_))
  unfold tot
  refine rwE iW (i7 lC ?_);rfl
theorem Xq(k:Cs)(c:List Nat):tot k .b c=(c.flatMap k.enc).length:=by
 induction c with
 | nil=>rfl
 | cons x c ih=>
  (erw[iS,hW];refine rwS ih ?_)
  unfold tot
  refine rwE iW (i7 lC ?_);rfl
theorem Mn(o:List Nat):(b64enc o).length=4 * ((o.length+2) / 3):=by
 unfold b64enc
 (refine i7 hW (rwE lV ?_);erw[QS,iH])
 cases h:G3 o with
 | zero=>
  have h':=h
  erw[(show jx o 0=[] from rfl),g0 h'];rfl
 | succ m=>
  have h':(o.length+2) / 3=m+1:=h
  refine BG (g3 h') λ r hr hn hp=>?_
  rw[EM,hW,h',hp,K2 (hn▸jF _ _),DP,Cw,hn,lN,kU (j6 hr)]
  grind
theorem MI(k:Cs)(w:Wy)(c:List Nat):((wd k w c).length:Int)=fl k w+DW w (tot k w c:Nat):=by
 have e:(wd k w c).length=(fr k w).length+2+(w.pay (c.flatMap k.enc)).length:=by unfold wd;simp only[hW,i6,iM];exact kI _ _ _
 erw[e]
 unfold fl
 clear e
 cases w with
 | q=>
  erw[Xn]
  exact Int.natCast_add ..
 | b=>
  erw[Xq]
  show(((fr k .b).length+2+(b64enc (c.flatMap k.enc)).length:Nat):Int)=_+4 * (((c.flatMap k.enc).length:Int)+2).fdiv 3
  erw[Mn,kG _ (by decide)]
  exact Int.natCast_add ..
theorem WN(k:Cs)(w:Wy){width:Int}(r:List Nat):∀ {acc:List (List Nat)} {part:List Nat} {s:Nat} {a:List (List Nat)} {p:List Nat},s=tot k w part->(∀ x∈acc,((wd k w x).length:Int)<=width)->(part≠[]->((wd k w part).length:Int)<=width)->gl k w width acc part s r=some (a,p) ->
  (∀ x∈a,((wd k w x).length:Int)<=width)/\(p≠[]->((wd k w p).length:Int)<=width)/\a.flatten++p=acc.flatten++(part++r)/\(part≠[]\/r≠[]->p≠[]):=by
 induction r with
 | nil=>
  intro acc part s a p _ h1 h2 q
  obtain⟨rfl,rfl⟩:=tQ (hG q)
  exact GL h1 h2 (rwE (iO ..) rfl) (λ z=>z.elim id λ z=>absurd rfl z)
 | cons c r ih=>
  intro acc part s a p hs h1 h2 q
  rw[NA]at q
  by_cases q1:fl k w+DW w (w.sz (k.enc c):Nat) > width
  ·rw[if_pos q1]at q;exact none_some q
  rw[if_neg q1]at q
  by_cases q2:part≠[]/\fl k w+DW w ((s:Int)+(w.sz (k.enc c):Nat)) > width
  ·rw[if_pos q2]at q
   obtain⟨i1,i2,i3,i4⟩:=ih (acc:=acc++[part]) (part:=[c]) (s:=w.sz (k.enc c)) (Hk k w c).symm (λ x hx=>((jX).mp hx).elim (h1 x) λ hx=>((iD).mp hx)▸h2 q2.1) (λ _=>by erw[MI,Hk];exact (lY).mp q1) q
   exact GL i1 i2 (by(refine i7 i3 (rwE rV ?_);erw[lG,qZ];refine rwE (iO ..) (i7 (iF ..) ?_));rfl) (λ _=>i4 (.inl (mB _ _)))
  ·rw[if_neg q2]at q
   obtain⟨i1,i2,i3,i4⟩:=ih (acc:=acc) (part:=part++[c]) (s:=s+w.sz (k.enc c)) (by(erw[Ie,Hk];exact rwE hs rfl)) h1 (λ _=>by
    (erw[MI,Ie];refine rwE (Hk ..) (rwS hs ?_))
    by_cases z:part=[]
    ·erw[hs,z];show _+DW w ((0+w.sz (k.enc c):Nat):Int)<=_;exact rwE (kF ..) ((lY).mp q1)
    ·have:¬ (fl k w+DW w ((s:Int)+(w.sz (k.enc c):Nat)) > width):=λ y=>q2 (iA z y)
     exact (lY).mp this) q
   exact GL i1 i2 (by refine i7 i3 (rwE (iF ..) ?_);rfl) (λ _=>i4 (.inl (mW _ (mB _ _):part++[c]≠[])))
theorem Sd(k:Cs)(w:Wy){width:Int}{t:List Nat}{e:List Nat}(hn:t≠[])(h:ce (rm k w width) 0 0 (B9 k w t)=some e):(∀ x∈chs t 0 (e++[t.length]),((wd k w x).length:Int)<=width)/\(chs t 0 (e++[t.length])).flatten=t:=by
 obtain g:=MK k w width t
 rw[h]at g
 cases q:gl k w width [] [] 0 t with
 | none=>replace g:=q▸g;cases g
 | some ap=>
  obtain⟨a,p⟩:=ap
  replace g:=mapS q g
  obtain g:a++[p]=chs t 0 (e++[t.length]):=hG g
  exact VR (WN k w t (acc:=[]) (part:=[]) (s:=0) rfl (λ _ h=>(by cases h)) (λ z=>absurd rfl z) q) λ i1 i2 i3 i4=>rwS g ⟨λ x hx=>((jX).mp hx).elim (i1 x) λ hx=>((iD).mp hx)▸i2 (i4 (.inr hn)),by(refine i7 rV (rwE lG ?_);erw[qZ,iO];refine i7 i3 ?_);rfl⟩
theorem Tl{room:Int}(l:List Nat)(h:∀ s∈l,(s:Int)<=room):∀ a u,∃ e,ce room a u l=some e:=by
 induction l with
 | nil=>exact λ _ _=>⟨[],rfl⟩
 | cons s l ih=>
  intro a u
  obtain h1:=h s i8
  erw[Ni,if_neg (by exact (lY).mpr h1)]
  by_cases q:((u+s:Nat):Int) > room
  ·erw[if_pos q]
   refine qE (ih (λ x hx=>h x (i9 _ hx)) (a+1) s) λ e he=>?_
   exact⟨a::e,by erw[he];rfl⟩
  ·exact rwE (if_neg q) (ih (λ x hx=>h x (i9 _ hx)) (a+1) (u+s))
theorem YA(W:Int):mw W<=75:=by
 unfold mw
 by_cases h:75 < W
 ·exact rwE (if_pos h) (Int.le_refl _)
 ·exact rwE (if_neg h) ((lY).mp h)
theorem KQ(k:Cs)(w:Wy){m:List Nat}{W:Int}{e:List Nat}(hs:∀ c∈m,c∈SG)(hk:m.all k.has=true)(hl:m.length<=200)(h:ce (rm k w (mw W)) 0 0 (B9 k w m)=some e):(∀ x∈chs m 0 (e++[m.length]),Ws k w x)/\(chs m 0 (e++[m.length])).flatten=m:=by
 by_cases hn:m=[]
 ·clear hl
  subst hn
  obtain rfl : []=e:=hG h
  refine iA (λ x hx=>?_) rfl
  erw[(iD).mp hx]
  exact⟨λ _ h=>((by cases h)),rfl,kA _,by cases k <;> cases w <;> decide⟩
 ·refine qA (Sd k w hn h) λ h1 h2=>?_
  have sub:∀ x∈chs m 0 (e++[m.length]),∀ c∈x,c∈m:=λ x hx c hc=>by refine rwS h2 ?_;exact List.mem_flatten.mpr (iEA x hx hc)
  refine iA (λ x hx=>⟨λ c hc=>hs c (sub x hx c hc),(jJ).mpr λ c hc=>(jJ).mp hk c (sub x hx c hc),?_,by obtain this:=h1 x hx;obtain this:=YA W;lia⟩) h2
  have:∀ (l:List (List Nat)) (x:List Nat),x∈l->x.length<=l.flatten.length:=λ l=>by
   induction l with
   | nil=>exact λ _ h=>(by cases h)
   | cons y l ih=>
    intro x hx
    erw[lG,hW]
    clear h h1 hk hl hn hs sub
    refine jP ((iJ).mp hx) (λ rfl=>?_) λ hx=>?_
    ·lia
    ·obtain this:=ih x hx;exact iL this
  obtain this:=this _ x hx
  rw[h2]at this;exact hZ (by assumption) (by assumption)
theorem JW(k:Cs)(w:Wy){m s:List Nat}{W:Int}(hs:∀ c∈m,c∈SG)(hk:m.all k.has=true)(hl:m.length<=200)(h:wos k w (mw W) m=some s):∃ c cs,s=joinL [32] ((c::cs).map (wd k w))/\(∀ x∈c::cs,Ws k w x)/\(c::cs).flatten=m/\cs.length<=m.length:=by
 refine AY h λ e h1 aa=>rwS aa (qA (KQ k w hs hk hl h1) λ h2 h3=>?_)
 obtain h4:=MJ m (b:=0) (e++[m.length])
 obtain h5:=K4 _ h1
 rw[ER]at h5
 replace h4:=iT▸(hW▸h4)
 cases q:chs m 0 (e++[m.length]) with
 | nil=>replace h4:=q▸h4;cases h4
 | cons c cs=>
  rw[q]at h2 h3 h4
  obtain h4:=eqL i6 h4
  exact iEEAAA c cs rfl h2 h3 (by lia)
theorem JZ(l:List (List Nat))(n:Nat)(h:∀ x∈l,x.length<=n):(joinL [32] l).length<=(n+1) * l.length:=by
 induction l with
 | nil=>exact j3 _
 | cons x l ih=>
  obtain h1:=h x (.head _)
  cases l with
  | nil=>show x.length<=(n+1) * 1;lia
  | cons y l=>
   obtain h2:=ih λ z hz=>h z (.tail _ hz)
   show(x++[32]++joinL [32] (y::l)).length<=_
   (erw[hW,hW];erw[i6 (as:=y::l),qL];erw[iT])
   lia
theorem sh_some{o1 o2:Option (List Nat)}{s:List Nat}(h:sh o1 o2=some s):o1=some s\/o2=some s:=by
 cases o1 with
 | none=>exact .inr h
 | some a=>cases o2 with
  | none=>exact .inl h
  | some b=>
   obtain h:(if b.length < a.length then b else a)=s:=hG h
   by_cases q:b.length < a.length
   ·obtain h:=Gn q h;erw[h];exact .inr rfl
   ·obtain h:=Fg q h;erw[h];exact .inl rfl
theorem Ko{m s:List Nat}{W:Int}(hs:∀ c∈m,c∈SG)(hl:m.length<=200)(h:shl m W=some s):∃ (w:Wy) (c:List Nat) (cs:List (List Nat)),s=joinL [32] ((c::cs).map (wd (bc m) w))/\(∀ x∈c::cs,Ws (bc m) w x)/\(c::cs).flatten=m/\cs.length<=m.length:=by
 rcases sh_some h with q | q <;> rw[<-wos_lws]at q
 ·exact⟨.q,JW _ _ hs (GJ hs) hl q⟩
 ·exact⟨.b,JW _ _ hs (GJ hs) hl q⟩
theorem M1{m s:List Nat}{W:Int}(hs:∀ c∈m,c∈SG)(hl:m.length<=200)(h:shl m W=some s):s.length<=100000:=by
 refine Bj (Ko hs hl h) λ w c cs aa h1 _ h2=>rwE aa ?_
 obtain this:=JZ ((c::cs).map (wd (bc m) w)) 75 λ x hx=>by
  exact A9 ((jV).mp hx) λ y hy aa=>rwS aa ((h1 y hy).wlen)
 rw[iH,i6]at this
 grind
theorem Yj{k:Cs}{w:Wy}{c:List Nat}(h:Ws k w c):ew k w c=some (wd k w c):=by unfold ew;exact BX ⟨h.has,h.wlen⟩ rfl
section
variable {t:List Nat} {W:Int}
theorem Jw:∀ c∈mid t,c∈t:=λ c hc=>jW (k9 hc)
theorem Hc:(mid t).length<=t.length:=by unfold mid;erw[jA,iY];exact sL (nM _ _)
theorem Lm(hs:∀ c∈t,c∈SG)(hl:t.length<=200):Rr t W:=by
 have sm:∀ c∈mid t,c∈SG:=λ c hc=>hs c (Jw c hc)
 obtain lm:(mid t).length<=200:=hZ Hc hl
 have eN:A6 t=[]->t.all Cs.a.has=true:=λ z=>(JC (b:=0) λ i _=>IK z i).1
 refine⟨hs,hl,λ z=>eN (B6.mp z),?_,?_,?_,λ w e h c hc=>Yj ((KQ _ w sm (GJ sm) lm h).1 c hc),λ s h=>M1 sm lm (JM t W▸h)⟩
 ·cases hn:A6 t with
  | nil=>erw[span_nil hn];rfl
  | cons f r=>erw[D7 hn];exact(QQ hn).1
 ·cases hn:A6 t with
  | nil=>erw[span_nil hn];exact eN hn
  | cons f r=>erw[D7 hn];exact(JC λ i h=>KB hn h).1
 ·intro z
  cases hn:A6 t with
  | nil=>exact absurd (B6.mpr hn) z
  | cons f r=>unfold mid;erw[D7 hn];exact U7 hn
theorem Wh(hs:∀ c∈t,c∈SG)(hl:t.length<=200)(hf:(AL t).length < 64):Ww t W (AG t).1 (AG t).2:=by
 have E:=Lm (W:=W) hs hl
 refine⟨hs,hl,hf,λ z=>E.plain (B6.mpr (C8.mp z)),E.pre,E.post,λ g s q=>?_,λ z=>E.mid λ y=>z (C8.mpr (B6.mp y)),λ s h=>hZ (M1 (λ c hc=>hs c (Jw c hc)) (hZ Hc hl) h) (by decide)⟩
 cases hn:A6 t with
 | nil=>replace q:=(C8.mpr hn)▸q;cases q
 | cons f r=>erw[D7 hn];exact Pe hn q
theorem WH:YO t W (AG t).1 (AG t).2=CP (ewo t W):=by
 unfold YO ewo
 erw[JM]
 by_cases h:A6 t=[]
 ·refine BX (C8.mpr h) (rwE (if_pos (B6.mpr h)) ?_);rfl
 ·erw[if_neg (λ z=>h (C8.mp z)),if_neg (λ z=>h (B6.mp z))]
  show(match shl (mid t) W with | some s=>_ | none=>_)=_
  cases shl (mid t) W <;> rfl
theorem VL(hs:∀ c∈t,c∈SG)(hl:t.length<=200){o:List Nat}(h:ewo t W=some o)(d:Nat)(O:A4):cl (d+58) "decoded_words" [.bytes o] O=some (.ok (.str t),O):=by
 obtain E:=Lm (W:=W) hs hl
 unfold ewo at h
 cases hn:A6 t with
 | nil=>
  replace h:=Gn (B6.mpr hn) h
  obtain rfl:=hG h
  obtain this:=JC (b:=0) λ i _=>IK hn i
  exact Yy this.2 ⟨hs,this.1,by exact iL hl⟩
 | cons f r=>
  refine AK λ Z zk=>?_
  rw[if_neg (λ z=>by obtain hn:=eqL (B6.mp z) hn;exact nc l7 hn (.refl false)),JM]at h
  refine AY h λ s h1 h2=>Bj (Ko (λ c hc=>hs c (Jw c hc)) (hZ Hc hl) h1) λ w c cs aa h3 h4 h5=>?_;subst aa
  obtain ml:=Hc (t:=t)
  obtain e1:=E.pre
  obtain e2:=E.post
  obtain hp:=KA hn
  obtain hm:mid t=(t.take (hi t (last1 f r+1))).drop (lo t f):=by unfold mid;exact rwE (D7 hn) rfl
  rw[<-hm]at hp
  rw[D7 hn]at h2 e1 e2
  refine zk ?_
  dsimp only at h2 e1 e2
  exact Yd _ w h3 (by exact rwS h2 (iF ..)) (WR hn) (YT t _) ((QQ hn).2 _) (JC λ i h=>KB hn h).2 (by erw[iY,jA];grind)
   ⟨λ c hc=>hs c (jW hc),e1,by erw[iY];exact(mR (hZ hl (by decide)))⟩ ⟨λ c hc=>hs c (k9 hc),e2,by erw[jA];exact(sL (hZ hl (by decide)))⟩ (by erw[h4];exact hp) (by exact iL hl)
theorem Nu(hs:∀ c∈t,c∈SG)(hl:t.length<=200)(hf:(AL t).length < 64):Vm t W (ewo t W):=
 ⟨Lm hs hl,rfl,⟨_,_,Wh hs hl hf,WH⟩,λ _ h d O=>VL hs hl h d O⟩
theorem VN(hs:∀ c∈t,c∈SG):∃ b,ewo t 75=some b:=by
 unfold ewo
 by_cases h:(AG t).2=0
 ·exact⟨t,if_pos h⟩
 ·refine rwE (if_neg h) (AK λ Z zk=>?_)
  obtain⟨e,he⟩:=Tl (room:=rm (bc (mid t)) .q (mw 75)) (B9 (bc (mid t)) .q (mid t)) (λ s eL=>by
   refine A9 ((jV).mp eL) λ c _ aa=>rwS aa ?_
   have h1:((((bc (mid t)).enc c)).flatMap q1).length<=_:=Pg
   obtain h2:=FZ (bc (mid t)) c
   obtain h3:=HL (bc (mid t)) .q
   show((((bc (mid t)).enc c).flatMap q1).length:Int)<=mw 75 - ((fr (bc (mid t)) .q).length+2:Nat)
   obtain h4:mw 75=75:=rfl
   lia) 0 0
  refine qE (⟨_,by unfold wos;erw[he];rfl⟩:∃ x,wos (bc (mid t)) .q (mw 75) (mid t)=some x) λ x hx=>?_
  refine zk ?_
  unfold Wa
  erw[hx]
  cases wos (bc (mid t)) .b (mw 75) (mid t) <;> exact⟨_,rfl⟩
end
theorem Xa:∀ r∈RW,∀ c∈r,c∈SG:=by decide
theorem Sr(rs:List (List Nat))(h:∀ r∈rs,r∈RW):∀ c∈joinL [32] rs,c∈SG:=by
 induction rs with
 | nil=>exact λ _ h=>(by cases h)
 | cons r rs ih=>
  have i:=ih λ x hx=>h x (.tail _ hx)
  obtain hr:=Xa r (h r (.head _))
  clear h ih
  cases rs with
  | nil=>exact hr
  | cons q rs=>
   intro c hc
   refine jP ((jX).mp (show c∈(r++[32])++joinL [32] (q::rs) from hc)) (λ hc=>?_) λ hc=>?_
   ·refine jP ((jX).mp hc) (λ hc=>?_) λ hc=>?_
    ·exact hr c hc
    ·erw[(iD).mp hc];decide
   ·exact i c hc
def wt(c:Nat):Nat:=(if pr c=true then 0 else 1)+(if c=61 then 2 else 0)
theorem Xo:∀ r∈RW,(r.map wt).sum<=6:=by decide
theorem TO(rs:List (List Nat))(h:∀ r∈rs,r∈RW):((joinL [32] rs).map wt).sum<=6 * rs.length:=by
 induction rs with
 | nil=>exact j3 _
 | cons r rs ih=>
  have i:=ih λ x hx=>h x (.tail _ hx)
  have hr:=Xo r (h r (.head _))
  erw[i6,qL]
  cases rs with
  | nil=>show(r.map wt).sum<=_;assumption
  | cons q rs=>
   show((r++[32]++joinL [32] (q::rs)).map wt).sum<=_
   (erw[k8,k8];erw[rW,rW];erw[show([32].map wt).sum=0 from rfl])
   lia
theorem Wc(t:List Nat):∀ k,(((en k t).filter λ p=>!(pr p.2)).map (·.1)).length=(t.map λ c=>if pr c=true then 0 else 1).sum:=by
 induction t with
 | nil=>exact λ _=>rfl
 | cons c t ih=>
  intro k
  obtain i:=ih (k+1)
  (erw[en_cE,iW];erw[lC])
  cases q:pr c with
  | true=>(refine rwE (mF (by show ¬ (!(pr c))=true;rw[q];decide)) (i7 i ?_);exact rwE (if_pos rfl) (rwE (kF ..) rfl))
  | false=>(erw[kS (by show(!(pr c))=true;rw[q];rfl),iW];refine i7 i6 (rwE i ?_);exact rwE (if_neg iX) (lB ..))
theorem Vf(t:List Nat):∀ n,((jE n).flatMap λ i=>if (t.take (i+2)).drop i=[61,63] then [i,i+1] else []).length<=((t.take n).map λ c=>if c=61 then 2 else 0).sum:=λ n=>by
 induction n with
 | zero=>exact kA _
 | succ n ih=>
  rw[nC,kE,hW,iS,kD,iO,(show t.take (n+1)=t.take n++t[n]?.toList from oG),k8,rW]
  refine j0 ih ?_
  by_cases q:(t.take (n+2)).drop n=[61,63]
  ·have h:=((EA t n).mp q).1
   obtain hl:=DS h (by decide)
   rw[jT,jM hl]at h
   (erw[if_pos q,jM hl];erw[(show t[n]=61 from h)]);exact j3 2
  ·exact rwE (if_neg q) (kA _)
theorem Sb(t:List Nat)(f g:Nat->Nat):(t.map f).sum+(t.map g).sum=(t.map λ c=>f c+g c).sum:=by
 induction t with
 | nil=>rfl
 | cons c t ih=>(erw[iW,iW];erw[iW,lC];erw[lC,lC];refine rwS ih ?_);lia
theorem PZ(t:List Nat)(f:Nat->Nat):∀ n,((t.take n).map f).sum<=(t.map f).sum:=by
 induction t with
 | nil=>intro n;erw[List.take_nil];exact j3 _
 | cons c t ih=>
  intro n
  cases n with
  | zero=>exact kA _
  | succ n=>(erw[List.take_succ_cons,iW];erw[iW,lC];erw[lC]);exact j5 (ih n) _
theorem V7{t:List Nat}{n:Nat}(h:(t.map wt).sum<=n):(AL t).length<=n+2:=by
 obtain h1:(n1 t).length=_:=Wc t 0
 obtain h2:(n2 t).length<=_:=Vf t (t.length - 1)
 obtain h3:(n3 t).length<=1:=by unfold n3;split <;> decide
 obtain h4:(n4 t).length<=1:=by unfold n4;split <;> simp
 obtain h5:=Sb t (λ c=>if pr c=true then 0 else 1) λ c=>if c=61 then 2 else 0
 obtain h6:=PZ t (λ c=>if c=61 then 2 else 0) (t.length - 1)
 obtain h7:(t.map λ c=>(if pr c=true then 0 else 1)+(if c=61 then 2 else 0)).sum<=n:=h
 unfold AL
 (erw[hW,hW];erw[hW])
 lia
theorem hlaw(l:List Int)(_:l.length<=63):Jt l:=by
 obtain A:∀ rs:List (List Nat),(∀ r∈rs,r∈RW)->rs.length<=5->(∀ c∈joinL [32] rs,c∈SG)/\(joinL [32] rs).length<=200/\(AL (joinL [32] rs)).length < 64:=λ rs h1 h2=>by
  obtain l1:=JZ rs 12 λ r hr=>Q7 r (h1 r hr)
  obtain l2:=V7 (TO rs h1)
  exact iAA (Sr rs h1) (by exact hZ l1 (hZ (iP _ h2) (by decide))) (by lia)
 refine YS (λ rs h1 h2 n _=>iE _ (Nu (A rs h1 h2).1 (A rs h1 h2).2.1 (A rs h1 h2).2.2)) (λ rs h1 h2=>?_) l
 obtain⟨b,hb⟩:=VN (A rs h1 h2).1
 obtain G:=Nu (W:=75) (A rs h1 h2).1 (A rs h1 h2).2.1 (A rs h1 h2).2.2
 rw[hb]at G
 exact iE b G
end
end Mine
theorem PySem.Challenge.cw_no0383_01_holds : PySem.Challenge.rw_no0383_01.Holds :=
 Mine.fin Mine.hlaw
