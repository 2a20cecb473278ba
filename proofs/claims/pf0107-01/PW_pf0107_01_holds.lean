import PyProof.Rows.All
import Wide.All
import KE.KItem
import Open.FastT9
import Open.FastRun
import Open.Line
import OpenK.KWalk
import OpenK.KMake
import OpenK.KMore
import OpenK.KList
import Wide.FinOn
import PyProof.ExcBaseAll.Exception
import Lean
import PySem.Challenge.RW_pf0107_01
set_option Elab.async false
set_option maxRecDepth 100000
set_option maxHeartbeats 2000000
set_option autoImplicit true
set_option genSizeOf false
set_option genSizeOfSpec false
set_option tactic.hygienic false
set_option linter.all false
open List renaming append_assoc->gu,getElem?_concat_length->gv,length_append->gx,mem_cons_of_mem->gz,append_nil->gD,mem_cons_self->gJ,length_cons->gQ,length_map->gS,getD_eq_getElem?_getD->gU,getElem?_eq_getElem->gV,getElem?_set_ne->gX,set_append_right->g8,mem_cons->hG,lookup_cons->hO,set_set->hW,all_eq_true->ia,find?_cons->ik,getElem?_eq_none->ip,contains_cons->iG,filterMap_cons->iS,map_cons->iY,getElem?_append_right->i6,mapM_cons->jb,flatMap_nil->jc,filter_cons_of_pos->jd,filter_cons_of_neg->je,mem_of_getElem?->jm,take_of_length_le->jA,take_append_drop->jB,nodup_cons->jH,nil_append->jI,length_set->jJ,getElem?_append_left->jX,length_range->jY,getElem?_set->jZ,flatMap_cons->j0,not_mem_nil->j4,getElem_mem->j5,drop_eq_nil_of_le->kf,map_append->ki,getElem?_map->kO,foldl_cons->kX,filter_nil->kY,nodup_nil->k8,any_cons->lp,mem_map->lB,map_nil->lC,length_filter_le->lJ,replicate_succ->lU,map_congr_left->lV
open PySem renaming wpAny_bind->gw,wpAny_mono->gI,wpAny_pure->gN,wpAny_standAt->hU,wpAny_holding->hV,wpAny_field->iw,wpAny_loadPart_at->iO,wpAny_isSubtype_exc->iQ,wpAny_execs_cons->js,wpAny_setField->jx,wpAny_truthy_bool->jz,wpAny_loadName_local->jD,wpAny_rule->jQ,wpAny_call->jR,wpAny_call_entry->j2,wpAny_execs_nil->kg,wpAny_of_eq->kq,wpAny_loadPart->kr,wpAny_attempt->kA,wpAny_pyIter_tuple->kE,wpAny_newObj_type->kK,wpAny_Return_some->kM,wpAny_askSetting->kR,call_meets->kZ,wpAny_pyNext_tuple_item->lu,wpAny_pyIter_tupleiter->lF,wpAny_allTrue_And_cons->lG,wpAny_allTrue_Or_cons->lI,wpAny_throw->lL,wpAny_noted->lM,codeAny_call_builtin->lO,wpAny_Constant_none->lR,wpAt_of_wpAny->lS
open Nat renaming le_trans->gA,le_refl->gE,lt_of_le_of_lt->gY,lt_succ_of_lt->gZ,lt_of_lt_of_le->g6,le_add_right->hH,le_of_eq->hJ,lt_irrefl->ib,zero_le->ic,lt_trans->iu,pow_le_pow_right->iy,sub_self->iB,testBit_succ->iK,lt_succ_self->iL,le_of_succ_le->iP,mul_le_mul_left->iR,ne_of_lt->iU,lt_or_ge->iV,testBit_lt_two_pow->iW,le_succ->iX,testBit_zero->iZ,testBit_and->i7,and_le_left->i8,add_le_add_left->ja,le_add_left->jh,add_le_add->jk,add_lt_add_right->jl,mod_two_eq_zero_or_one->jo,succ_pos->jp,testBit_or->jy,not_succ_le_zero->jE,eq_of_testBit_eq->jF,le_antisymm->jG,ne_of_gt->jN,succ_lt_succ->j3,add_sub_cancel_left->j6,le_of_lt->j7,lt_of_succ_lt_succ->ke,eq_of_beq_eq_true->km,sub_lt_sub_left->kx,lt_two_pow_self->kz,pow_succ->kH,le_of_lt_succ->kN,mul_add_mod->kW,lt_of_mul_lt_mul_left->lj,testBit_mul_two_pow->lv,mul_div_cancel_left->lw,exists_eq_add_of_le->lx,mul_comm->lA,le_of_succ_le_succ->lH
open Int renaming eq_ofNat_of_zero_le->gB,lt_of_lt_of_le->gK,natCast_nonneg->gO,toNat_of_nonneg->gW,le_antisymm->hY,le_refl->ix,fdiv_eq_ediv_of_nonneg->iz,ne_of_gt->iC,le_of_eq->iD,lt_trans->iN,mul_fdiv_cancel_left->i9,le_of_lt->jf,le_of_sub_nonneg->jn,pow_pos->jC,natCast_pow->jK,ediv_nonneg->jL,lt_or_le->jO,lt_of_le_of_lt->jT,zero_add->j8,ne_of_lt->j9,le_trans->kI,toNat_natCast->kP,mul_nonneg->k9,fmod_eq_emod_of_nonneg->lf,lt_of_mul_lt_mul_left->lm,dvd_of_emod_eq_zero->ly,sub_self->lD,add_zero->lE,sub_nonneg_of_le->lP
open PySem.Heap renaming get?_push_of_some->gF,lt_size->g7,get?_push_size->hM,get?_update_other->ii,get?_update_self->iq,size_push->i5
open Bool renaming and_eq_true->gH,or_eq_true->hZ,false_or->iF,false_ne_true->iM,not_eq_true'->ji,or_true->jq,or_false->ju,eq_iff_iff->jM,and_false->jS,false_eq_true->jV,xor_false->kt,false_and->ku,not_true->kB,not_not->kJ,and_true->lq,or_eq_false_iff->lQ
open LawfulBEq renaming eq_of_beq->gM
open PySem.Calls renaming Name_function_global->iA,callWith_builtin->jg,loadGlobal_global->jw,spliced_cons->jU,spliced_nil->kQ,loadGlobal_builtin->lr
open Array renaming getElem?_toList->iE
open Ne renaming symm->iJ
open PySem.Heap.SameBut renaming update->iT
open PySem.Obj renaming data_mapFields->jv,isFreed_of_fields->kj
open PyProof.Rows renaming wpAny_release'->jP,callWith_type->lc
open PySem.F renaming excBase_Exception->jW,plainAttrs_str->kT,slot_str_ascii_iterator_next->kU,slot_tuple_iterator_next->lh,slot_range_iterator_next->li
open Option renaming map_some->kh,bind_some->kS
open PySem.W renaming looks_findIn->lz,looks_clsIn->lN
open PySem PySem.W PyProof.Rows
namespace Mine
abbrev gy:=@decide_eq_true
abbrev gG:=@of_decide_eq_true
abbrev gP:=@beq_eq_false_iff_ne
abbrev gR:=@decide_eq_false
abbrev g9:=@decide_eq_true_eq
abbrev ie:=@bne_iff_ne
abbrev ig:=@of_decide_eq_false
abbrev io:=@beq_self_eq_true
abbrev iv:=@beq_iff_eq
abbrev iH:=@if_neg
abbrev iI:=@if_pos
abbrev kF:=@if_true
abbrev kG:=@if_false
abbrev lK:=@or_false
noncomputable abbrev NE:=Nat.Internal.Linear.Expr
noncomputable abbrev IE:=Int.Internal.Linear.Expr
section
noncomputable def rU(L R:NE):Bool:=(Nat.Internal.Linear.ExprCnstr.toNormPoly ⟨false,L,R⟩).isValid
theorem pZ(ctx:(Lean.RArray Nat))(L R:NE)(c:rU L R=true):L.denote ctx<=R.denote ctx:=of_eq_true (Nat.Internal.Linear.ExprCnstr.eq_true_of_isValid ctx ⟨false,L,R⟩ c)
theorem tC{ctx:(Lean.RArray Nat)}{L R:NE}(l r:NE)(q:(Nat.Internal.Linear.Expr.add L r).denote ctx<=(Nat.Internal.Linear.Expr.add R l).denote ctx)(h:l.denote ctx<=r.denote ctx):L.denote ctx<=R.denote ctx:=
 Nat.le_of_add_le_add_right (b:=r.denote ctx) (gA (show L.denote ctx+r.denote ctx<=R.denote ctx+l.denote ctx from q) (ja h (R.denote ctx)))
theorem mO(ctx:(Lean.RArray Nat))(L R l r:NE)(c:rU (.add L r) (.add R l)=true)(h:l.denote ctx<=r.denote ctx):L.denote ctx<=R.denote ctx:=tC l r (pZ ctx _ _ c) h
theorem o9(ctx:(Lean.RArray Nat))(L R l r l' r':NE)(c:rU (.add (.add L r) r') (.add (.add R l) l')=true)(h:l.denote ctx<=r.denote ctx)(h':l'.denote ctx<=r'.denote ctx):L.denote ctx<=R.denote ctx:=tC l r (mO ctx _ _ l' r' c h') h
theorem tB(ctx:(Lean.RArray Nat))(L R l r l' r' p s:NE)(c:rU (.add (.add (.add L r) r') s) (.add (.add (.add R l) l') p)=true)(h:l.denote ctx<=r.denote ctx)(h':l'.denote ctx<=r'.denote ctx)(oV:p.denote ctx<=s.denote ctx):L.denote ctx<=R.denote ctx:=tC l r (o9 ctx _ _ l' r' p s c h' oV) h
theorem Nl4(ctx:(Lean.RArray Nat))(L R l r l' r' p s p' s':NE)(c:rU (.add (.add (.add (.add L r) r') s) s') (.add (.add (.add (.add R l) l') p) p')=true)(h:l.denote ctx<=r.denote ctx)(h':l'.denote ctx<=r'.denote ctx)(oV:p.denote ctx<=s.denote ctx)(h3:p'.denote ctx<=s'.denote ctx):L.denote ctx<=R.denote ctx:=tC l r (tB ctx _ _ l' r' p s p' s' c h' oV h3) h
theorem Nf2{P:Prop}(ctx:(Lean.RArray Nat))(l r l' r':NE)(c:rU (.add (.add (.num 1) r) r') (.add (.add (.num 0) l) l')=true)(h:l.denote ctx<=r.denote ctx)(h':l'.denote ctx<=r'.denote ctx):P:=absurd (o9 ctx (.num 1) (.num 0) l r l' r' c h h') (jE 0)
end
section
theorem qq{ctx:(Lean.RArray Int)}{E:IE}(l r:IE)(q:0<=(Int.Internal.Linear.Expr.add E (.sub l r)).denote ctx)(h:l.denote ctx<=r.denote ctx):0<=E.denote ctx:=by
 have q:0<=E.denote ctx+(l.denote ctx - r.denote ctx):=q
 lia
noncomputable def q8(E:IE):Bool:=match E.norm with
 |.num k=>decide (0<=k)
 |_=>false
theorem sC{ctx:(Lean.RArray Int)}{E:IE}(c:q8 E=true):0<=E.denote ctx:=by
 rw[<- Int.Internal.Linear.Expr.denote_norm]
 unfold q8 at c
 revert c
 cases E.norm with
 |num k=>exact fun c=>gG c
 |add k v p=>exact fun c=>nomatch c
theorem ov(ctx:(Lean.RArray Int))(L R:IE)(c:q8 (.sub R L)=true):L.denote ctx<=R.denote ctx:=jn (sC (ctx:=ctx) c)
theorem mI(ctx:(Lean.RArray Int))(L R l r:IE)(c:q8 (.add (.sub R L) (.sub l r))=true)(h:l.denote ctx<=r.denote ctx):L.denote ctx<=R.denote ctx:=jn (qq (E:=.sub R L) l r (sC (ctx:=ctx) c) h)
theorem qp(ctx:(Lean.RArray Int))(L R l r l' r':IE)(c:q8 (.add (.add (.sub R L) (.sub l r)) (.sub l' r'))=true)(h:l.denote ctx<=r.denote ctx)(h':l'.denote ctx<=r'.denote ctx):L.denote ctx<=R.denote ctx:=jn (qq (E:=.sub R L) l r (qq l' r' (sC (ctx:=ctx) c) h') h)
theorem tA(ctx:(Lean.RArray Int))(L R l r l' r' p s:IE)(c:q8 (.add (.add (.add (.sub R L) (.sub l r)) (.sub l' r')) (.sub p s))=true)(h:l.denote ctx<=r.denote ctx)(h':l'.denote ctx<=r'.denote ctx)(oV:p.denote ctx<=s.denote ctx):L.denote ctx<=R.denote ctx:=jn (qq (E:=.sub R L) l r (qq l' r' (qq p s (sC (ctx:=ctx) c) oV) h') h)
theorem sB(ctx:(Lean.RArray Int))(L R l r l' r' p s p' s':IE)(c:q8 (.add (.add (.add (.add (.sub R L) (.sub l r)) (.sub l' r')) (.sub p s)) (.sub p' s'))=true)(h:l.denote ctx<=r.denote ctx)(h':l'.denote ctx<=r'.denote ctx)(oV:p.denote ctx<=s.denote ctx)(h3:p'.denote ctx<=s'.denote ctx):L.denote ctx<=R.denote ctx:=jn (qq (E:=.sub R L) l r (qq l' r' (qq p s (qq p' s' (sC (ctx:=ctx) c) h3) oV) h') h)
end
noncomputable abbrev mn{α:Type}(a:α):Lean.RArray α:=.leaf a
noncomputable abbrev mT{α:Type}(a b:α):Lean.RArray α:=.branch 1 (.leaf a) (.leaf b)
noncomputable abbrev nB{α:Type}(a b c:α):Lean.RArray α:=.branch 1 (.leaf a) (.branch 2 (.leaf b) (.leaf c))
noncomputable abbrev Cx4{α:Type}(a b c d:α):Lean.RArray α:=.branch 2 (.branch 1 (.leaf a) (.leaf b)) (.branch 3 (.leaf c) (.leaf d))
noncomputable abbrev Cx5{α:Type}(a b c d e:α):Lean.RArray α:=.branch 2 (.branch 1 (.leaf a) (.leaf b)) (.branch 3 (.leaf c) (.branch 4 (.leaf d) (.leaf e)))
noncomputable abbrev Cx6{α:Type}(a b c d e f:α):Lean.RArray α:=.branch 3 (.branch 1 (.leaf a) (.branch 2 (.leaf b) (.leaf c))) (.branch 4 (.leaf d) (.branch 5 (.leaf e) (.leaf f)))
noncomputable abbrev mt(i k:Nat):NE:=.add (.var i) (.num k)
noncomputable abbrev mj(i:Nat)(k:Int):IE:=.add (.var i) (.num k)
noncomputable abbrev mi:NE:=.var 0
noncomputable abbrev mD:NE:=.var 1
noncomputable abbrev nE:NE:=.var 2
noncomputable abbrev qZ:NE:=.var 3
noncomputable abbrev t9:NE:=.var 4
noncomputable abbrev vn:NE:=.var 5
noncomputable abbrev md:IE:=.var 0
noncomputable abbrev mP:IE:=.var 1
noncomputable abbrev oH:IE:=.var 2
noncomputable abbrev v3I:IE:=.var 3
noncomputable abbrev v4I:IE:=.var 4
noncomputable abbrev v5I:IE:=.var 5
abbrev qq0{a b c:Int}:=tA (nB a b c) (mj 2 1) (.num 9223372036854775808) md (.num 1000000) mP md (mj 2 1) mP rfl
abbrev qq1{a b c:Int}:=tA (nB a b c) (.neg (.num 9223372036854775808)) oH md (.num 1000000) mP md (.neg mP) oH rfl
abbrev qq2{a b c:Int}:=qp (nB a b c) (mj 0 1) oH (mj 0 1) mP mP oH rfl
abbrev qq3{a b c:Int}:=tA (nB a b c) (mj 2 1) (.num 9223372036854775808) md (.num 1000000) mP md oH mP rfl
abbrev qq4{a b c d:Nat}:=tB (Cx4 a b c d) qZ mD mi mD nE mi qZ nE rfl
abbrev qq5{a b:Nat}:=pZ (mT a b) (.add mi (mt 1 1)) (.add (mt 0 1) mD) rfl
abbrev qq6{a b:Nat}:=pZ (mT a b) (.add (mt 0 1) mD) (.add mi (mt 1 1)) rfl
abbrev qq7{a b:Int}:=mI (mT a b) (.num 0) (.sub (.sub mP md) (.num 1)) (mj 0 1) mP rfl
abbrev tm{a b:Nat}:=mO (mT a b) mi mD mi mD rfl
abbrev qq9{a b c:Nat}:=mO (nB a b c) (mt 0 1) nE (.add (.add (.add mi (.mulL 3 mD)) (.num 4)) (.num 1)) nE rfl
abbrev YB{a b c:Nat}:=mO (nB a b c) (.add (.add (.add (mt 0 3) (.mulL 16 (.num 2))) (.num 16)) (.num 1)) nE (.add (.add (.add mi (.mulL 8 mD)) (.num 53)) (.num 1)) nE rfl
abbrev YC{a b c:Nat}:=mO (nB a b c) (.add (.add (.add (mt 0 1) (.mulL 3 mD)) (.num 3)) (.num 1)) nE (.add (.add (.add mi (.mulL 3 mD)) (.num 4)) (.num 1)) nE rfl
abbrev YD{a b c:Nat}:=mO (nB a b c) (.add (.add (.add (mt 0 3) (.mulL 8 mD)) (.num 50)) (.num 1)) nE (.add (.add (.add mi (.mulL 8 mD)) (.num 53)) (.num 1)) nE rfl
abbrev eX{a b c:Nat}:=mO (nB a b c) (.add (.add (mt 0 1) (.num 2)) (.num 1)) nE (.add (.add (.add mi (.mulL 3 mD)) (.num 4)) (.num 1)) nE rfl
abbrev eY{a b c:Nat}:=o9 (nB a b c) (mt 2 1) mD (mt 0 1) (mt 1 1) (mt 2 1) mi rfl
abbrev eZ{a b:Nat}:=o9 (mT a b) (mt 1 1) (.num 90) (mt 0 1) (.num 90) (mt 1 1) mi rfl
abbrev e8{a b c:Int}:=mI (nB a b c) md (.add mP (mj 2 1)) md (.add (mj 1 1) oH) rfl
abbrev cn{a b:Nat}:=mO (mT a b) (.add (.add (mt 0 1) mD) (.num 1)) (.num 100000) (.add (.add mi (mt 1 1)) (.num 1)) (.num 100000) rfl
abbrev e9{a:Int}:=mI (mn a) (.num 0) md (.num 1) md rfl
abbrev YE{a b:Int}:=qp (mT a b) (.add (.neg (.num 1000)) (.num 1)) (.sub mP md) (mj 0 1) (.num 10) (.num 0) mP rfl
abbrev YF{a b:Int}:=qp (mT a b) (.add (.sub mP md) (.num 1)) (.num 1000) (.add (.neg (.num 10)) (.num 1)) md (mj 1 1) (.num 20) rfl
abbrev fa{a b c:Nat}:=o9 (nB a b c) (.add (.add (.add mD mi) (.mulL 400 nE)) (.num 1)) (.num 80000) mi (.num 400) (.add (.add mD (.mulL 400 (mt 2 1))) (.num 1)) (.num 80000) rfl
abbrev cq{a b:Int}:=mI (mT a b) (mj 0 1) mP (mj 0 1) mP rfl
abbrev S8{a b:Nat}:=mO (mT a b) (.add (.add (mt 0 1) mD) (.num 1)) (.num 90000) (.add (.add mi (mt 1 1)) (.num 1)) (.num 90000) rfl
abbrev YG{a b:Nat}:=mO (mT a b) (.add (.add mi mD) (.num 1)) (.num 90000) (.add (.add mi (mt 1 1)) (.num 1)) (.num 90000) rfl
abbrev YH{a:Nat}:=mO (mn a) (.add (.add (.num 0) mi) (.num 1)) (.num 90000) (mt 0 1) (.num 80000) rfl
abbrev YI{a:Nat}:=mO (mn a) (mt 0 1) (.num 8) (mt 0 1) (.num 7) rfl
abbrev S9{a:Nat}:=mO (mn a) (mt 0 1) (.num 7) mi (.num 5) rfl
abbrev cr{a:Int}:=mI (mn a) (.add (.num 0) (.num 1)) (mj 0 1) (.num 0) md rfl
abbrev Qi{a:Nat}:=mO (mn a) (.num 1) mi (.num 2) mi rfl
abbrev Oz{a:Int}:=mI (mn a) (.num 0) md (.num 0) md rfl
abbrev M6{a:Int}:=mI (mn a) (.add (.num 0) (.num 1)) md (.num 2) md rfl
abbrev fc{a:Nat}:=mO (mn a) (mt 0 1) (.num 1000000) mi (.num 5) rfl
abbrev cu{a:Nat}:=mO (mn a) (mt 0 1) (.num 6) mi (.num 5) rfl
abbrev OA{a:Int}:=mI (mn a) (.num 0) (mj 0 1) (.num 0) md rfl
abbrev fe{a b:Nat}:=mO (mT a b) (mt 0 1) (.num 100000) (.add (.add mi (mt 1 1)) (.num 1)) (.num 1000) rfl
abbrev fg{a b:Nat}:=mO (mT a b) (.add (.add (mt 0 1) mD) (.num 1)) (.num 1000) (.add (.add mi (mt 1 1)) (.num 1)) (.num 1000) rfl
abbrev HC{a:Nat}:=mO (mn a) (mt 0 1) (.num 7) (mt 0 1) (.num 6) rfl
abbrev Tb{a:Int}:=mI (mn a) (.add (.num 0) (.num 1)) md (.add (.num 0) (.num 1)) md rfl
abbrev fj{a b:Int}:=ov (mT a b) (.add (mj 0 1) mP) (.add md (mj 1 1)) rfl
abbrev fk{a b:Int}:=ov (mT a b) (.add md (mj 1 1)) (.add (mj 0 1) mP) rfl
abbrev fo{a:Int}:=ov (mn a) md (mj 0 0) rfl
abbrev fp{a:Int}:=ov (mn a) (mj 0 0) md rfl
abbrev fq{a b:Nat}:=mO (mT a b) (mt 0 1) (.num 100000) (.add (.add mi (mt 1 1)) (.num 1)) (.num 90000) rfl
abbrev cv{a:Int}:=mI (mn a) (.num 0) (.add (.add (mj 0 1) (.num 1)) (.num 1)) (.num 0) md rfl
abbrev cw{a:Int}:=mI (mn a) (.num 0) (.add (mj 0 1) (.num 1)) (.num 0) md rfl
abbrev fu{a:Int}:=mI (mn a) (.num 0) (.add (.add (.add (mj 0 1) (.num 1)) (.num 1)) (.num 1)) (.num 0) md rfl
abbrev fv{a:Int}:=mI (mn a) (mj 0 1) (.num 900) (mj 0 1) (.num 700) rfl
abbrev YJ{a:Int}:=mI (mn a) (mj 0 1) (.num 900) (mj 0 1) (.num 500) rfl
abbrev cx{a:Int}:=mI (mn a) (.add (.neg (.num 1)) (.num 1)) md (.num 0) md rfl
abbrev YK{a b:Int}:=qp (mT a b) (.num 0) mP md mP (.num 0) md rfl
abbrev cy{a b:Int}:=qp (mT a b) (.num 0) md mP md (.num 0) mP rfl
abbrev cz{a:Int}:=mI (mn a) (mj 0 1) (.num 0) md (.neg (.num 1)) rfl
abbrev fw{a:Nat}:=pZ (mn a) (.add (.num 82) (.num 1)) (.add (.num 97) mi) rfl
abbrev fx{a:Nat}:=mO (mn a) (.add (.add (.num 49) mi) (.num 1)) (.num 66) (mt 0 1) (.num 9) rfl
abbrev fy{a:Nat}:=pZ (mn a) (.num 66) (.add (.num 97) mi) rfl
theorem Ao{α:Type}{x:α}{P:Prop}(h:none=some x):P:=nomatch h
theorem Rz{α:Type}{x:α}{P:Prop}(h:some x=none):P:=nomatch h
theorem Dd{P:Prop}(h:false=true):P:=nomatch h
theorem FR{P:Prop}(h:true=false):P:=nomatch h
theorem AM{α:Type}{o:Option α}{x:α}{P:Prop}(a:o=none)(b:o=some x):P:=Ao (a.symm.trans b)
theorem Ew{b:Bool}{P:Prop}(a:b=true)(c:b=false):P:=FR (a.symm.trans c)
theorem same{α:Type}{o:Option α}{x y:α}(a:o=some x)(b:o=some y):x=y:=Option.some.inj (a.symm.trans b)
@[elab_as_elim] theorem stp{P:Nat->Prop}{j n:Nat}(hn:j+1<=n)(h:∀n,j+1<=n+1->P (n+1)):P n:=match n,hn with|n+1,hn=>h n hn
inductive V where
 |none
 |bool (b:Bool)
 |int (i:Int)
 |str (s:List Nat)
 |tup (l:List V)
 |mM (l:List V)
 |range (lo hi st:Int)
 |lW (n:Nat)
set_option genInjectivity false in
inductive MO where
 |list (xs:List V)
 |inst (c:Nat) (fs:List (Nat×V))
 |dict (kv:List (Int×V))
noncomputable abbrev MH:=List MO
noncomputable abbrev An:=Nat->Option V
set_option genInjectivity false in
inductive ME where
 |int (i:Int)
 |str (s:List Nat)
 |bool (b:Bool)
 |none
 |lW (x:Nat)
 |lX (x:Nat)
 |bin (op:Operator) (a b:ME)
 |un (op:UnaryOp) (a:ME)
 |and (a b:ME)
 |or (a b:ME)
 |cmp (a:ME) (op:CmpOp) (b:ME)
 |oz (a:ME) (su:CmpOp) (b:ME) (sw:CmpOp) (c:ME)
 |ite (t a b:ME)
 |call (f:Nat) (as:ME)
 |blt (f:Nat) (as:ME)
 |my (o:ME) (name:Nat) (as:ME)
 |attr (o:ME) (a:Nat)
 |sub (o i:ME)
 |slice (o lo hi:ME)
 |list (es:ME)
 |tup (es:ME)
 |dict (es:ME)
 |comp (elt:ME) (xs:List Nat) (one:Bool) (it:ME) (cond:ME)
 |nT (elt:ME) (x1:Nat) (pt:ME) (x2:Nat) (nU:ME)
 |nil
 |cons (e r:ME)
set_option genInjectivity false in
inductive MS where
 |skip
 |seq (a b:MS)
 |assign (x:Nat) (e:ME)
 |mo (xs:List Nat) (e:ME)
 |setAttr (o:ME) (a:Nat) (e:ME)
 |m9 (o i:ME) (e:ME)
 |aug (x:Nat) (op:Operator) (e:ME)
 |mz (o:ME) (a:Nat) (op:Operator) (e:ME)
 |mL (o i:ME) (op:Operator) (e:ME)
 |expr (e:ME)
 |ret (e:ME)
 |cont
 |ite (t:ME) (a b:MS)
 |mq (xs:List Nat) (one:Bool) (it:ME) (body:MS)
 |m7 (t:ME) (body:MS)
 |raise (c:Nat) (e:ME)
 |nh (e:ME) (c:Nat) (h:MS)
set_option genInjectivity false in
inductive KY where
 |next|cont|ret (v:V)
set_option genInjectivity false in
inductive q9 where
 |fn (ps:List Nat) (body:MS)
 |cls (c:Nat) (ps:List Nat) (body:MS)
abbrev Ae:=V->MH->Prop
abbrev As:=Nat->MH->Prop
abbrev Az:=Nat->List V->Ae->As->MH->Prop
noncomputable def lim:Nat:=1000000
noncomputable def sx(l:List Nat):Str:=⟨l.toArray⟩
def pY(s:List Nat):Prop:=s.length<=lim/\∀c∈s,c<128
noncomputable def Hp:List V->Option (List Int)
 |[]=>some []
 |.int i :: r=>(Hp r).map (i :: ·)
 |_ :: _=>Option.none
noncomputable def BE:List V->Option (List (List Nat))
 |[]=>some []
 |.str s :: r=>(BE r).map (s :: ·)
 |_ :: _=>Option.none
def opt{α:Type}(o:Option α)(k:α->Prop):Prop:=@Option.rec α (fun _=>Prop) False (fun a=>k a) o
def pT(b:Bool)(p q:Prop):Prop:=@Bool.rec (fun _=>Prop) q p b
def A7(b:Bool)(p:Prop):Prop:=@Bool.rec (fun _=>Prop) False p b
theorem Aq{α:Type}{o:Option α}{k:α->Prop}(h:opt o k):∃a,o=some a/\k a:=by
 induction o with
 |none=>exact h.elim
 |some a=>exact⟨a,rfl,h⟩
theorem A6{b:Bool}{p:Prop}(h:A7 b p):b=true/\p:=by
 cases b with
 |true=>exact⟨rfl,h⟩
 |false=>exact h.elim
theorem Ag{c:Prop}[Decidable c]{p:Prop}(h:A7 (decide c) p):c/\p:=⟨gG (A6 h).1,(A6 h).2⟩
theorem X3{c:Prop}[Decidable c]{p:Prop}(hc:c)(h:p):A7 (decide c) p:=by rw[gy hc];exact h
theorem Vy{α:Type}{o:Option α}{k:α->Prop}{a:α}(e:o=some a)(h:k a):opt o k:=by rw[e];exact h
noncomputable def By(μ:MH)(n:Nat):Option (List V):=match μ[n]? with
 |some o=>(match o with|.list xs=>some xs|_=>none)
 |none=>none
theorem Ba{μ:MH}{n:Nat}{xs:List V}(h:By μ n=some xs):μ[n]?=some (.list xs):=by
 unfold By at h
 revert h
 cases μ[n]? with
 |none=>exact fun h=>nomatch h
 |some o=>induction o with
  |list ys=>exact fun h=>by obtain rfl:=Option.some.inj h;rfl
  |_=>exact fun h=>nomatch h
noncomputable def AZ(μ:MH):Nat->V->Option PyData
 |0,v=>(match v with
  |.none=>some .none
  |.bool b=>some (.bool b)
  |.int i=>some (.int i)
  |.str s=>some (.str (sx s))
  |_=>none)
 |n+1,v=>(match v with
  |.none=>some .none
  |.bool b=>some (.bool b)
  |.int i=>some (.int i)
  |.str s=>some (.str (sx s))
  |.tup l=>(l.mapM (AZ μ n)).map .tuple
  |.lW a=>(By μ a).bind fun xs=>(xs.mapM (AZ μ n)).map .list
  |_=>none)
noncomputable def rY(μ:MH)(a b:V):Option Bool:=(AZ μ 5 a).bind fun x=>(AZ μ 5 b).map fun y=>PyData.eqv x y
noncomputable def rj(μ:MH)(a b:V):Option Bool:=match a with
 |.int x=>(match b with|.int y=>some (x==y)|_=>rY μ a b)
 |.str x=>(match b with|.str y=>some (x==y)|_=>rY μ a b)
 |.bool x=>(match b with|.bool y=>some (x==y)|_=>rY μ a b)
 |_=>rY μ a b
noncomputable def D1:V->Option Bool
 |.none=>some false
 |.bool b=>some b
 |.int i=>some (i != 0)
 |_=>none
noncomputable def Cx:V->Option Int
 |.int i=>some i
 |_=>none
noncomputable def OL:V->Option Nat
 |.str s=>(match s with|[c]=>some c|_=>none)
 |_=>none
noncomputable def inV(μ:MH)(a b:V):Option Bool:=match b with
 |.str s=>(OL a).map fun c=>decide (c∈s)
 |.tup l=>(match a with
  |.str x=>(BE l).map fun ss=>ss.any (·==x)
  |.int x=>(Hp l).map fun ns=>ns.any (·==x)
  |_=>none)
 |.lW n=>(match a with
  |.str x=>(By μ n).bind fun l=>(BE l).map fun ss=>ss.any (·==x)
  |_=>none)
 |_=>none
noncomputable def bc(a:V):Bool:=match a with|.none=>true|_=>false
noncomputable def Oi(a b:V)(f:Int->Int->Bool):Option Bool:=(Cx a).bind fun x=>(Cx b).map fun y=>f x y
noncomputable def JB(μ:MH)(op:CmpOp)(a b:V):Option Bool:=match op with
 |.Eq=>rj μ a b
 |.NotEq=>(rj μ a b).map (!·)
 |.Lt=>Oi a b fun x y=>decide (x<y)
 |.LtE=>Oi a b fun x y=>decide (x<=y)
 |.Gt=>Oi a b fun x y=>decide (y<x)
 |.GtE=>Oi a b fun x y=>decide (y<=x)
 |.Is=>(match b with|.none=>some (bc a)|_=>none)
 |.IsNot=>(match b with|.none=>some (!bc a)|_=>none)
 |.In=>inV μ a b
 |_=>none
noncomputable def CU(len:Nat)(i:Int):Option Nat:=
 if 0<=i then(if i<(len:Int)then some i.toNat else Option.none)
 else(if 0<=i+len then some (i+len).toNat else Option.none)
noncomputable def Bn:List (Int×V)->Int->Option V
 |[],_=>Option.none
 |(k,v) :: r,i=>if k=i then some v else Bn r i
noncomputable def OR(l:List V)(i:Int):Option V:=(CU l.length i).bind (l[·]?)
noncomputable def B6(μ:MH)(a b:V):Option V:=(Cx b).bind fun i=>match a with
 |.lW n=>(match μ[n]? with
  |some o=>(match o with
   |.list xs=>OR xs i
   |.dict kv=>Bn kv i
   |_=>none)
  |none=>none)
 |.tup l=>OR l i
 |.str s=>(CU s.length i).bind fun k=>(s[k]?).map fun c=>.str [c]
 |_=>none
noncomputable def Mg(len:Nat)(d:Nat):V->Option Nat
 |.none=>some d
 |.int i=>some (if 0<=i then min i.toNat len else(i+len).toNat)
 |_=>Option.none
noncomputable def cut{α:Type}(l:List α)(a b:Nat):List α:=(l.take b).drop a
noncomputable def Xx:List (Nat×V)->Nat->Option V
 |[],_=>Option.none
 |(k,v) :: r,a=>if k=a then some v else Xx r a
noncomputable def Ox:List (Nat×V)->Nat->V->List (Nat×V)
 |[],a,v=>[(a,v)]
 |(k,w) :: r,a,v=>if k=a then(k,v) :: r else(k,w) :: Ox r a v
noncomputable def AE(c:Nat):List Nat->Int->Int
 |[],_=> -1
 |x :: r,i=>if x=c then i else AE c r (i+1)
noncomputable def Cs:Nat->Int->Int->List V
 |0,_,_=>[]
 |k+1,a,st=>.int a :: Cs k (a+st) st
noncomputable def Cr(lo hi st:Int):Nat:=
 if 0<st then(if lo<hi then((hi - lo - 1) / st+1).toNat else 0)
 else(if hi<lo then((lo - hi - 1) / (-st)+1).toNat else 0)
noncomputable def C6(μ:MH):V->Option (List V×Option (Nat×List V))
 |.tup l=>some (l,none)
 |.range lo hi st=>some (Cs (Cr lo hi st) lo st,none)
 |.str s=>some (s.map fun c=>.str [c],none)
 |.lW n=>(By μ n).map fun xs=>(xs,some (n,xs))
 |_=>none
def HG(c:Option (Nat×List V))(μ:MH):Prop:=match c with
 |Option.none=>True
 |some (n,xs)=>μ[n]?=some (.list xs)
noncomputable def Ad(env:An)(x:Nat)(v:V):An:=fun y=>if y=x then some v else env y
noncomputable def AG(xs:List Nat)(env:An):An:=fun y=>if xs.contains y then Option.none else env y
noncomputable def CP:List Nat->List V->An->Option An
 |[],vs,env=>(match vs with|[]=>some env|_ :: _=>Option.none)
 |x :: xs,vs,env=>(match vs with|[]=>Option.none|v :: vs=>CP xs vs (Ad env x v))
noncomputable def AC(xs:List Nat)(one:Bool)(v:V)(env:An):Option An:=
 match one with
 |true=>CP xs [v] env
 |false=>(match v with
  |.tup l=>CP xs l env
  |_=>Option.none)
abbrev Au:=KY->An->MH->Prop
noncomputable def small(x:Int):Bool:=decide (x.natAbs<2 ^ 62)
noncomputable def HE(x:Int):Bool:=decide (x.natAbs<2 ^ 60)
def ak(op:Operator)(x y:Int)(K:Int->Prop):Prop:=match op with
 |.Add=>K (x+y)
 |.Sub=>K (x - y)
 |.Mult=>A7 (small x) (A7 (small y) (K (x*y)))
 |.FloorDiv=>A7 (decide (y≠0)) (A7 (small y) (K (x.fdiv y)))
 |.Mod=>A7 (decide (y≠0)) (K (x.fmod y))
 |.LShift=>A7 (decide (0<=y)) (A7 (decide (y<1000)) (A7 (small x) (K (x*2 ^ y.toNat))))
 |.RShift=>A7 (decide (0<=y)) (K (x.fdiv (2 ^ y.toNat)))
 |.BitAnd=>K (Builtin.bitAnd x y)
 |.BitOr=>K (Builtin.bitOr x y)
 |.BitXor=>K (Builtin.bitXor x y)
 |_=>False
def Wf(op:Operator)(x y:List Nat)(K:List Nat->Prop):Prop:=match op with
 |.Add=>A7 (decide (x.length+y.length<=lim)) (K (x++y))
 |_=>False
def rep(op:Operator)(l:Nat)(n:Int)(Q:Ae)(μ:MH):Prop:=match op with
 |.Mult=>opt (By μ l) fun xs=>match xs with
  |[x]=>A7 (decide (0<=n)) (A7 (decide (n<=1000)) (Q (.lW μ.length) (μ++[.list (List.replicate n.toNat x)])))
  |_=>False
 |_=>False
def al(op:Operator)(a b:V)(Q:Ae)(μ:MH):Prop:=match a with
 |.int x=>(match b with|.int y=>ak op x y fun i=>Q (.int i) μ|_=>False)
 |.str x=>(match b with|.str y=>Wf op x y fun s=>Q (.str s) μ|_=>False)
 |.lW l=>(match b with|.int n=>rep op l n Q μ|_=>False)
 |_=>False
def ez(op:Operator)(l m:Nat)(Q:Ae)(μ:MH):Prop:=match op with
 |.Add=>A7 (decide (l≠m)) (opt (By μ l) fun xs=>opt (By μ m) fun ys=>A7 (decide (xs.length+ys.length<=lim)) (Q (.lW l) (μ.set l (.list (xs++ys)))))
 |_=>False
def TG(op:Operator)(a b:V)(Q:Ae)(μ:MH):Prop:=match a with
 |.int x=>(match b with|.int y=>(match op with|.LShift=>False|.Mod=>False|.BitAnd=>False|_=>ak op x y fun i=>Q (.int i) μ)|_=>False)
 |.str x=>(match b with|.str y=>Wf op x y fun s=>Q (.str s) μ|_=>False)
 |.lW l=>(match b with|.lW m=>ez op l m Q μ|_=>False)
 |_=>False
def unW(op:UnaryOp)(a:V)(Q:V->Prop):Prop:=match a with
 |.int x=>(match op with|.USub=>Q (.int (-x))|.Invert=>Q (.int (-x - 1))|_=>False)
 |_=>False
def gb(v:V)(μ:MH)(K:Nat->Prop):Prop:=match v with
 |.str s=>K s.length
 |.lW n=>opt (By μ n) fun xs=>K xs.length
 |.tup l=>K l.length
 |_=>False
noncomputable def one:List V->Option V
 |[v]=>some v
 |_=>none
noncomputable def two:List V->Option (V×V)
 |[v,w]=>some (v,w)
 |_=>none
noncomputable def tX:List V->Option (V×V×V)
 |[v,w,u]=>some (v,w,u)
 |_=>none
theorem bW{as:List V}{v:V}(h:one as=some v):as=[v]:=by
 unfold one at h;split at h
 ·obtain rfl:=Option.some.inj h;rfl
 ·exact Ao h
theorem dB{as:List V}{p:V×V}(h:two as=some p):as=[p.1,p.2]:=by
 unfold two at h;split at h
 ·obtain rfl:=Option.some.inj h;rfl
 ·exact Ao h
theorem dv{as:List V}{p:V×V×V}(h:tX as=some p):as=[p.1,p.2.1,p.2.2]:=by
 unfold tX at h;split at h
 ·obtain rfl:=Option.some.inj h;rfl
 ·exact Ao h
theorem Fa{v:V}{i:Int}(h:Cx v=some i):v=.int i:=by induction v using V.casesOn<;>cases h;rfl
theorem Kh{v:V}{c:Nat}(h:OL v=some c):v=.str [c]:=by
 induction v using V.casesOn with
 |str s=>
  match s,h with
  |[d],h=>obtain rfl:=Option.some.inj h;rfl
  |[],h=>exact Ao h
  |_ :: _ :: _,h=>exact Ao h
 |_=>exact Ao h
def Qk(as:List V)(Q:Ae)(μ:MH):Prop:=match as.length with
  |1=>opt (one as) fun v=>opt (Cx v) fun n=>A7 (HE n) (Q (.range 0 n 1) μ)
  |2=>opt (two as) fun p=>opt (Cx p.1) fun a=>opt (Cx p.2) fun b=>A7 (HE a) (A7 (HE b) (Q (.range a b 1) μ))
  |3=>opt (tX as) fun p=>opt (Cx p.1) fun a=>opt (Cx p.2.1) fun b=>opt (Cx p.2.2) fun c=>A7 (decide (c≠0)) (A7 (HE a) (A7 (HE b) (A7 (HE c) (Q (.range a b c) μ))))
  |_=>False
def dP(f:Nat)(as:List V)(Q:Ae)(μ:MH):Prop:=match f with
 |0=>opt (one as) fun v=>gb v μ fun n=>Q (.int n) μ
 |1=>opt (one as) fun v=>opt (Cx v) fun i=>Q (.int i.natAbs) μ
 |2=>opt (two as) fun p=>opt (Cx p.1) fun i=>opt (Cx p.2) fun j=>Q (.int (if i<j then j else i)) μ
 |3=>opt (one as) fun v=>opt (Cx v) fun i=>A7 (decide (0<=i)) (A7 (decide (i<10)) (Q (.str [48+i.toNat]) μ))
 |4=>Qk as Q μ
 |_=>False
noncomputable def Eh:List V->Option (List V×V)
 |[]=>none
 |[x]=>some ([],x)
 |x :: y :: r=>(Eh (y :: r)).map fun p=>(x :: p.1,p.2)
def U7(o:V)(f:Nat)(as:List V)(Q:Ae)(μ:MH):Prop:=match o with
 |.lW n=>(match f with
  |0=>opt (one as) fun v=>opt (By μ n) fun xs=>A7 (decide (xs.length<lim)) (Q .none (μ.set n (.list (xs++[v]))))
  |1=>A7 as.isEmpty (opt (By μ n) fun xs=>opt (Eh xs) fun p=>Q p.2 (μ.set n (.list p.1)))
  |_=>False)
 |.str s=>(match f with
  |2=>opt (one as) fun v=>opt (OL v) fun c=>Q (.int (AE c s 0)) μ
  |3=>A7 as.isEmpty (opt (OL (.str s)) fun c=>A7 (decide (65<=c)) (A7 (decide (c<=90)) (Q (.str [c+32]) μ)))
  |4=>A7 s.isEmpty (opt (one as) fun v=>(match v with|.lW n=>opt (By μ n) fun xs=>opt (BE xs) fun ss=>A7 (decide (ss.flatten.length<=lim)) (Q (.str ss.flatten) μ)|_=>False))
  |_=>False)
 |_=>False
noncomputable def ZV(o:V)(f:Nat)(μ:MH):Bool:=match o with
 |.lW n=>decide (f<2)&&(By μ n).isSome
 |.str _=>decide (2<=f)&&decide (f<5)
 |_=>false
def V6(o lo hi:V)(Q:Ae)(μ:MH):Prop:=match o with
 |.str s=>opt (Mg s.length 0 lo) fun a=>opt (Mg s.length s.length hi) fun b=>Q (.str (cut s a b)) μ
 |.mM l=>opt (Mg l.length 0 lo) fun a=>opt (Mg l.length l.length hi) fun b=>Q (.lW μ.length) (μ++[.list (cut l a b)])
 |.lW n=>opt (By μ n) fun l=>opt (Mg l.length 0 lo) fun a=>opt (Mg l.length l.length hi) fun b=>Q (.lW μ.length) (μ++[.list (cut l a b)])
 |_=>False
noncomputable def UG(μ:MH)(n:Nat):Option (Nat×List (Nat×V)):=match μ[n]? with
 |some o=>(match o with|.inst c fs=>some (c,fs)|_=>none)
 |none=>none
theorem Lk{μ:MH}{n:Nat}{p:Nat×List (Nat×V)}(h:UG μ n=some p):μ[n]?=some (.inst p.1 p.2):=by
 unfold UG at h
 revert h
 cases μ[n]? with
 |none=>exact fun h=>nomatch h
 |some o=>induction o with
  |inst c fs=>exact fun h=>by obtain rfl:=Option.some.inj h;rfl
  |_=>exact fun h=>nomatch h
noncomputable def QR(μ:MH)(o:V)(a:Nat):Option V:=match o with
 |.lW n=>(UG μ n).bind fun p=>Xx p.2 a
 |_=>none
def Ke(o:V)(a:Nat)(v:V)(Q:MH->Prop)(μ:MH):Prop:=match o with
 |.lW n=>opt (UG μ n) fun p=>A7 (decide (p.2.length<900)) (Q (μ.set n (.inst p.1 (Ox p.2 a v))))
 |_=>False
def M9(o i v:V)(Q:MH->Prop)(μ:MH):Prop:=match o with
 |.lW n=>(match i with|.int k=>opt (By μ n) fun xs=>A7 (decide (0<=k)) (A7 (decide (k<xs.length)) (Q (μ.set n (.list (xs.set k.toNat v)))))|_=>False)
 |_=>False
def nA(c:Option (Nat×List V))(μ:MH)(p:Prop):Prop:=match c with
 |none=>p
 |some (n,xs)=>μ[n]?=some (.list xs)/\p
theorem A2{c:Option (Nat×List V)}{μ:MH}{p:Prop}(h:nA c μ p):HG c μ/\p:=by
 cases c with
 |none=>exact⟨trivial,h⟩
 |some c=>exact h
noncomputable def Bz(c:Option (Nat×List V))(step:V->Au->An->MH->Prop):List V->Au->An->MH->Prop
 |[],Q,env,μ=>nA c μ (Q .next env μ)
 |v :: r,Q,env,μ=>nA c μ (step v (fun fl env' μ'=>match fl with
   |.ret w=>Q (.ret w) env' μ'
   |_=>Bz c step r Q env' μ') env μ)
noncomputable def EH(test:(Bool->MH->Prop)->An->MH->Prop)(body:Au->An->MH->Prop):Nat->Au->An->MH->Prop
 |0,_,_,_=>False
 |n+1,Q,env,μ=>test (fun b μ'=>pT b (body (fun fl env' oj=>match fl with
   |.ret w=>Q (.ret w) env' oj
   |_=>EH test body n Q env' oj) env μ') (Q .next env μ')) env μ
@[irreducible] noncomputable def Xs(c:Option (Nat×List V))(step:V->Au->An->MH->Prop)(l:List V)(Q:Au)(env:An)(μ:MH):Prop:=Bz c step l Q env μ
theorem Rk(c:Option (Nat×List V))(step:V->Au->An->MH->Prop)(l:List V)(Q:Au)(env:An)(μ:MH):Xs c step l Q env μ=Bz c step l Q env μ:=by unfold Xs;rfl
@[irreducible] noncomputable def Nn(test:(Bool->MH->Prop)->An->MH->Prop)(body:Au->An->MH->Prop)(n:Nat)(Q:Au)(env:An)(μ:MH):Prop:=EH test body n Q env μ
theorem LP(test:(Bool->MH->Prop)->An->MH->Prop)(body:Au->An->MH->Prop)(n:Nat)(Q:Au)(env:An)(μ:MH):Nn test body n Q env μ=EH test body n Q env μ:=by unfold Nn;rfl
noncomputable def Dq(c:Option (Nat×List V))(r:Nat)(cond:V->(Bool->MH->Prop)->MH->Prop)(elt:V->Ae->MH->Prop):List V->(MH->Prop)->MH->Prop
 |[],Q,μ=>nA c μ (Q μ)
 |v :: t,Q,μ=>nA c μ (cond v (fun b μ'=>pT b (
   elt v (fun w oj=>opt (By oj r) fun xs=>A7 (decide (xs.length<lim)) (Dq c r cond elt t Q (oj.set r (.list (xs++[w]))))) μ')
   (Dq c r cond elt t Q μ')) μ)
noncomputable def Hm(c:Option (Nat×List V))(inner:V->(MH->Prop)->MH->Prop):List V->(MH->Prop)->MH->Prop
 |[],Q,μ=>nA c μ (Q μ)
 |v :: t,Q,μ=>nA c μ (inner v (fun μ'=>Hm c inner t Q μ') μ)
@[irreducible] noncomputable def OS(μ:MH)(o i:V):Option V:=B6 μ o i
theorem IL(μ:MH)(o i:V):OS μ o i=B6 μ o i:=by unfold OS;rfl
noncomputable def PE(o:Option MO):Bool:=match o with|some (.dict [])=>true|_=>false
noncomputable def ZQ(a:V)(kv:List (Int×V)):Option Int:=match a with
 |.int i=>(match kv.all fun p=>decide (p.1≠i)with|true=>some i|false=>none)
 |_=>none
noncomputable def Re(hd:Bool)(c:Nat):Nat:=match hd with|true=>c+10|false=>c
noncomputable def DW(raised clause:Nat):Bool:=raised % 10==clause||(raised % 10==3&&clause==2)
noncomputable def Hs:MS->Bool
 |.seq a b=>(match a with|.ret e=>(match e with|.none=>(match b with|.skip=>true|_=>false)|_=>false)|_=>false)
 |_=>false
section
variable(G:Nat->Option V)(Φ:Az)
mutual
noncomputable def we(env:An):ME->Ae->As->MH->Prop
 |.int i,Q,_,μ=>Q (.int i) μ
 |.str s,Q,_,μ=>Q (.str s) μ
 |.bool b,Q,_,μ=>Q (.bool b) μ
 |.none,Q,_,μ=>Q .none μ
 |.lW x,Q,_,μ=>opt (env x) fun v=>Q v μ
 |.lX x,Q,_,μ=>opt (G x) fun v=>Q v μ
 |.bin op a b,Q,X,μ=>we env a (fun u μ₁=>we env b (fun v μ₂=>al op u v Q μ₂) X μ₁) X μ
 |.un op a,Q,X,μ=>match op with
  |.Not=>we env a (fun u μ₁=>opt (D1 u) fun b=>Q (.bool (!b)) μ₁) X μ
  |op=>we env a (fun u μ₁=>unW op u fun v=>Q v μ₁) X μ
 |.and a b,Q,X,μ=>we env a (fun u μ₁=>opt (D1 u) fun c=>pT c (we env b Q X μ₁) (Q u μ₁)) X μ
 |.or a b,Q,X,μ=>we env a (fun u μ₁=>opt (D1 u) fun c=>pT c (Q u μ₁) (we env b Q X μ₁)) X μ
 |.cmp a op b,Q,X,μ=>we env a (fun u μ₁=>we env b (fun v μ₂=>opt (JB μ₂ op u v) fun c=>Q (.bool c) μ₂) X μ₁) X μ
 |.oz a su b sw c,Q,X,μ=>we env a (fun u μ₁=>we env b (fun v μ₂=>opt (JB μ₂ su u v) fun r=>
   pT r (we env c (fun w μ₃=>opt (JB μ₃ sw v w) fun q=>Q (.bool q) μ₃) X μ₂) (Q (.bool false) μ₂)) X μ₁) X μ
 |.ite t a b,Q,X,μ=>wt env t (fun c μ₁=>pT c (we env a Q X μ₁) (we env b Q X μ₁)) X μ
 |.call f as,Q,X,μ=>wl env as (fun vs μ₁=>Φ f vs Q X μ₁) X μ
 |.blt f as,Q,X,μ=>wl env as (fun vs μ₁=>dP f vs Q μ₁) X μ
 |.my o f as,Q,X,μ=>we env o (fun u μ₁=>A7 (ZV u f μ₁) (wl env as (fun vs μ₂=>U7 u f vs Q μ₂) X μ₁)) X μ
 |.attr o a,Q,X,μ=>we env o (fun u μ₁=>opt (QR μ₁ u a) fun v=>Q v μ₁) X μ
 |.sub o i,Q,X,μ=>we env o (fun u μ₁=>we env i (fun v μ₂=>opt (OS μ₂ u v) fun w=>Q w μ₂) X μ₁) X μ
 |.slice o lo hi,Q,X,μ=>we env o (fun u μ₁=>we env lo (fun v μ₂=>we env hi (fun w μ₃=>V6 u v w Q μ₃) X μ₂) X μ₁) X μ
 |.list es,Q,X,μ=>wl env es (fun vs μ₁=>A7 (decide (vs.length<=lim)) (Q (.lW μ₁.length) (μ₁++[.list vs]))) X μ
 |.tup es,Q,X,μ=>wl env es (fun vs μ₁=>A7 (decide (vs.length<=lim)) (Q (.tup vs) μ₁)) X μ
 |.dict es,Q,X,μ=>wd env es (fun kv μ₁=>A7 (PE μ₁[μ.length]?) (A7 (decide (kv.length<=15)) (Q (.lW μ.length) (μ₁.set μ.length (.dict kv))))) X (μ++[.dict []])
 |.comp elt xs one it cond,Q,X,μ=>we env it (fun s μ₁=>opt (C6 μ₁ s) fun p=>
   Dq p.2 μ₁.length (fun v K μ'=>opt (AC xs one v (AG xs env)) fun e=>wt e cond K (fun _ _=>False) μ')
    (fun v K μ'=>opt (AC xs one v (AG xs env)) fun e=>we e elt K (fun _ _=>False) μ') p.1 (Q (.lW μ₁.length)) (μ₁++[.list []])) X μ
 |.nT elt x1 pt x2 nU,Q,X,μ=>we env pt (fun s μ₁=>opt (C6 μ₁ s) fun p=>
   Hm p.2 (fun v K μ'=>we (Ad (AG [x1,x2] env) x1 v) nU (fun s2 μ₂=>opt (C6 μ₂ s2) fun p2=>
    Dq p2.2 μ₁.length (fun _ K' oj=>K' true oj) (fun v2 K' oj=>we (Ad (Ad (AG [x1,x2] env) x1 v) x2 v2) elt K' (fun _ _=>False) oj) p2.1 K μ₂) (fun _ _=>False) μ')
    p.1 (Q (.lW μ₁.length)) (μ₁++[.list []])) X μ
 |.nil,_,_,_=>False
 |.cons _ _,_,_,_=>False
noncomputable def wt(env:An):ME->(Bool->MH->Prop)->As->MH->Prop
 |.un op a,Q,X,μ=>match op with
  |.Not=>wt env a (fun b μ₁=>Q (!b) μ₁) X μ
  |_=>False
 |.and a b,Q,X,μ=>wt env a (fun c μ₁=>pT c (wt env b Q X μ₁) (Q false μ₁)) X μ
 |.or a b,Q,X,μ=>wt env a (fun c μ₁=>pT c (Q true μ₁) (wt env b Q X μ₁)) X μ
 |.ite t a b,Q,X,μ=>wt env t (fun c μ₁=>pT c (wt env a Q X μ₁) (wt env b Q X μ₁)) X μ
 |.cmp a op b,Q,X,μ=>we env a (fun u μ₁=>we env b (fun v μ₂=>opt (JB μ₂ op u v) fun c=>Q c μ₂) X μ₁) X μ
 |.oz a su b sw c,Q,X,μ=>we env a (fun u μ₁=>we env b (fun v μ₂=>opt (JB μ₂ su u v) fun r=>
   pT r (we env c (fun w μ₃=>opt (JB μ₃ sw v w) fun q=>Q q μ₃) X μ₂) (Q false μ₂)) X μ₁) X μ
 |.bool b,Q,_,μ=>Q b μ
 |.lW x,Q,_,μ=>opt (env x) fun v=>opt (D1 v) fun c=>Q c μ
 |.bin op a b,Q,X,μ=>we env a (fun u μ₁=>we env b (fun v μ₂=>al op u v (fun w μ₃=>opt (D1 w) fun c=>Q c μ₃) μ₂) X μ₁) X μ
 |.call f as,Q,X,μ=>wl env as (fun vs μ₁=>Φ f vs (fun w μ₃=>opt (D1 w) fun c=>Q c μ₃) X μ₁) X μ
 |.attr o a,Q,X,μ=>we env o (fun u μ₁=>opt (QR μ₁ u a) fun v=>opt (D1 v) fun c=>Q c μ₁) X μ
 |.int _,_,_,_=>False
 |.str _,_,_,_=>False
 |.none,_,_,_=>False
 |.lX _,_,_,_=>False
 |.blt _ _,_,_,_=>False
 |.my _ _ _,_,_,_=>False
 |.sub _ _,_,_,_=>False
 |.slice _ _ _,_,_,_=>False
 |.list _,_,_,_=>False
 |.tup _,_,_,_=>False
 |.dict _,_,_,_=>False
 |.comp _ _ _ _ _,_,_,_=>False
 |.nT _ _ _ _ _,_,_,_=>False
 |.nil,_,_,_=>False
 |.cons _ _,_,_,_=>False
noncomputable def wl(env:An):ME->(List V->MH->Prop)->As->MH->Prop
 |.nil,Q,_,μ=>Q [] μ
 |.cons e r,Q,X,μ=>we env e (fun v μ₁=>wl env r (fun vs μ₂=>Q (v :: vs) μ₂) X μ₁) X μ
 |_,_,_,_=>False
noncomputable def wd(env:An):ME->(List (Int×V)->MH->Prop)->As->MH->Prop
 |.nil,Q,_,μ=>Q [] μ
 |.cons e r,Q,X,μ=>match e with
  |.cons k v=>we env k (fun a μ₁=>we env v (fun b μ₂=>wd env r (fun kv μ₃=>opt (ZQ a kv) fun i=>Q ((i,b) :: kv) μ₃) X μ₂) X μ₁) X μ
  |_=>False
 |_,_,_,_=>False
end
end
section
variable(G:Nat->Option V)(Φ:Bool->Az)
noncomputable def ws:Bool->MS->Au->As->An->MH->Prop
 |_,.skip,Q,_,env,μ=>Q .next env μ
 |hd,.seq a b,Q,X,env,μ=>ws hd a (fun fl env' μ'=>match fl with
   |.next=>ws hd b Q X env' μ'
   |f=>Q f env' μ') X env μ
 |hd,.assign x e,Q,X,env,μ=>we G (Φ hd) env e (fun v μ'=>Q .next (Ad env x v) μ') X μ
 |hd,.mo xs e,Q,X,env,μ=>we G (Φ hd) env e (fun v μ'=>opt (AC xs false v env) fun env'=>Q .next env' μ') X μ
 |hd,.setAttr o a e,Q,X,env,μ=>we G (Φ hd) env e (fun v μ₁=>we G (Φ hd) env o (fun u μ₂=>Ke u a v (Q .next env) μ₂) X μ₁) X μ
 |hd,.m9 o i e,Q,X,env,μ=>we G (Φ hd) env e (fun v μ₁=>we G (Φ hd) env o (fun u μ₂=>we G (Φ hd) env i (fun k μ₃=>M9 u k v (Q .next env) μ₃) X μ₂) X μ₁) X μ
 |hd,.aug x op e,Q,X,env,μ=>opt (env x) fun u=>we G (Φ hd) env e (fun v μ₁=>TG op u v (fun w μ₂=>Q .next (Ad env x w) μ₂) μ₁) X μ
 |hd,.mz o a op e,Q,X,env,μ=>we G (Φ hd) env o (fun u μ₁=>opt (QR μ₁ u a) fun w=>we G (Φ hd) env e (fun v μ₂=>TG op w v (fun y μ₃=>Ke u a y (Q .next env) μ₃) μ₂) X μ₁) X μ
 |hd,.mL o i op e,Q,X,env,μ=>we G (Φ hd) env o (fun u μ₁=>we G (Φ hd) env i (fun k μ₂=>opt (OS μ₂ u k) fun w=>we G (Φ hd) env e (fun v μ₃=>TG op w v (fun y μ₄=>M9 u k y (Q .next env) μ₄) μ₃) X μ₂) X μ₁) X μ
 |hd,.expr e,Q,X,env,μ=>we G (Φ hd) env e (fun _ μ'=>Q .next env μ') X μ
 |hd,.ret e,Q,X,env,μ=>we G (Φ hd) env e (fun v μ'=>Q (.ret v) env μ') X μ
 |_,.cont,Q,_,env,μ=>Q .cont env μ
 |hd,.ite t a b,Q,X,env,μ=>wt G (Φ hd) env t (fun c μ'=>pT c (ws hd a Q X env μ') (ws hd b Q X env μ')) X μ
 |hd,.mq xs one it body,Q,X,env,μ=>we G (Φ hd) env it (fun s μ₁=>opt (C6 μ₁ s) fun p=>
   Xs p.2 (fun v K env' μ'=>opt (AC xs one v env') fun e=>ws hd body K X e μ') p.1 Q env μ₁) X μ
 |hd,.m7 t body,Q,X,env,μ=>Nn (fun K env' μ'=>wt G (Φ hd) env' t K X μ') (fun K env' μ'=>ws hd body K X env' μ') 100 Q env μ
 |hd,.raise c e,_,X,env,μ=>A7 (decide (1<=c)) (A7 (decide (c<=3)) (we G (Φ hd) env e (fun v μ'=>match v with|.str _=>X (Re hd c) μ'|_=>False) X μ))
 |hd,.nh e c h,Q,X,env,μ=>A7 (!hd) (we G (Φ false) env e (fun v μ'=>Q (.ret v) env μ') (fun r μ'=>pT (DW r c) (A7 (decide (r<10)||Hs h) (ws true h Q X env μ')) (X r μ')) μ)
end
noncomputable def Ak(G:Nat->Option V)(prog:Nat->Option q9):Nat->Bool->Az
 |0,_=>fun _ _ _ _ _=>False
 |n+1,hd=>fun f vs Q X μ=>opt (prog f) fun F=>match F with
  |.fn ps body=>opt (CP ps vs (fun _=>none)) fun env=>ws G (Ak G prog n) hd body (fun fl _ μ'=>match fl with
     |.ret v=>Q v μ'
     |.next=>Q .none μ'
     |.cont=>False) X env μ
  |.cls c ps body=>opt (CP ps (.lW μ.length :: vs) (fun _=>none)) fun env=>ws G (Ak G prog n) hd body (fun fl _ μ'=>match fl with
     |.next=>Q (.lW μ.length) μ'
     |_=>False) (fun _ _=>False) env (μ++[.inst c []])
noncomputable def L0:MS:=(.seq (.ret (.bin .Add (.bin .Mult (.lW 0) (.int 8)) (.lW 1))) .skip)
noncomputable def Sg:MS:=(.seq (.ret (.bin .RShift (.lW 3) (.int 3))) .skip)
noncomputable def Sd:MS:=(.seq (.ret (.bin .BitAnd (.lW 3) (.int 7))) .skip)
noncomputable def Pg:MS:=(.seq (.ret (.and (.oz (.int 0) .Lt (.lW 6) .Lt (.int 15)) (.and (.cmp (.lW 6) .NotEq (.int 7)) (.cmp (.lW 6) .NotEq (.int 8))))) .skip)
noncomputable def ND:MS:=(.seq (.ite (.and (.cmp (.lW 3) .NotEq (.lX 9)) (.un .Not (.call 7 (.cons (.lW 3) .nil)))) (.seq (.raise 5 (.lW 3)) .skip) .skip) (.seq (.ret (.sub (.lX 8) (.lW 3))) .skip))
noncomputable def NG:MS:=(.seq (.assign 15 (.int 0)) (.seq (.ite (.cmp (.lW 13) .Eq (.lX 16)) (.seq (.assign 15 (.bin .Sub (.lW 14) (.lX 17))) .skip) .skip) (.seq (.ret (.bin .BitOr (.bin .BitOr (.bin .BitOr (.lW 12) (.bin .LShift (.lW 11) (.int 6))) (.bin .LShift (.lW 15) (.int 12))) (.bin .LShift (.lW 13) (.int 14)))) .skip)))
noncomputable def NF:MS:=(.seq (.ret (.bin .BitAnd (.bin .RShift (.lW 19) (.int 6)) (.int 63))) .skip)
noncomputable def Se:MS:=(.seq (.ret (.bin .BitAnd (.lW 19) (.int 63))) .skip)
noncomputable def I9:MS:=(.seq (.ret (.bin .BitAnd (.bin .RShift (.lW 19) (.int 14)) (.int 3))) .skip)
noncomputable def L1:MS:=(.seq (.ite (.cmp (.bin .BitAnd (.bin .RShift (.lW 19) (.int 14)) (.int 3)) .NotEq (.lX 16)) (.seq (.ret (.lX 23)) .skip) .skip) (.seq (.ret (.bin .Add (.bin .BitAnd (.bin .RShift (.lW 19) (.int 12)) (.int 3)) (.lX 17))) .skip))
noncomputable def H9:MS:=(.seq (.ret (.cmp (.bin .BitAnd (.lW 25) (.bin .Sub (.lW 25) (.int 1))) .NotEq (.int 0))) .skip)
noncomputable def Sb:MS:=(.seq (.ite (.cmp (.lW 25) .Eq (.int 0)) (.seq (.ret (.un .USub (.int 1))) .skip) .skip) (.seq (.assign 28 (.int 1)) (.seq (.m7 (.bin .RShift (.lW 25) (.lW 28)) (.seq (.aug 28 .Mult (.int 2)) .skip)) (.seq (.assign 27 (.int 0)) (.seq (.m7 (.cmp (.lW 28) .Gt (.int 1)) (.seq (.aug 28 .FloorDiv (.int 2)) (.seq (.ite (.bin .RShift (.lW 25) (.lW 28)) (.seq (.aug 25 .RShift (.lW 28)) (.seq (.aug 27 .Add (.lW 28)) .skip)) .skip) .skip))) (.seq (.ret (.lW 27)) .skip))))))
noncomputable def TI:MS:=(.seq (.ret (.call 29 (.cons (.bin .BitAnd (.lW 25) (.un .USub (.lW 25))) .nil))) .skip)
noncomputable def L8:MS:=(.seq (.assign 31 (.list .nil)) (.seq (.assign 27 (.int 0)) (.seq (.m7 (.lW 25) (.seq (.m7 (.un .Not (.bin .BitAnd (.lW 25) (.int 15))) (.seq (.aug 25 .RShift (.int 4)) (.seq (.aug 27 .Add (.int 4)) .skip))) (.seq (.ite (.bin .BitAnd (.lW 25) (.int 1)) (.seq (.expr (.my (.lW 31) 0 (.cons (.lW 27) .nil))) .skip) .skip) (.seq (.aug 25 .RShift (.int 1)) (.seq (.aug 27 .Add (.int 1)) .skip))))) (.seq (.ret (.lW 31)) .skip))))
noncomputable def NA:MS:=(.seq (.mq [35] true (.blt 4 (.cons (.int 8) .nil)) (.seq (.ite (.bin .BitAnd (.bin .RShift (.sub (.sub (.attr (.lW 33) 36) (.lW 35)) (.lW 34)) (.lW 25)) (.int 1)) (.seq (.ret (.lW 35)) .skip) .skip) .skip)) (.seq (.ret (.un .USub (.int 1))) .skip))
noncomputable def R9:MS:=(.seq (.assign 35 (.call 37 (.cons (.lW 33) (.cons (.lW 34) (.cons (.lW 25) .nil))))) (.seq (.ite (.cmp (.lW 35) .Lt (.int 0)) (.seq (.ret (.int 0)) .skip) .skip) (.seq (.ret (.bin .BitAnd (.sub (.sub (.attr (.lW 33) 36) (.lW 35)) (.lW 34)) (.sub (.sub (.attr (.lW 33) 36) (.bin .BitXor (.lW 35) (.int 2))) (.lW 25)))) .skip)))
noncomputable def ah:MS:=(.seq (.assign 35 (.call 37 (.cons (.lW 33) (.cons (.lW 34) (.cons (.lW 25) .nil))))) (.seq (.ite (.cmp (.lW 35) .Lt (.int 0)) (.seq (.ret (.int 0)) .skip) .skip) (.seq (.ret (.bin .BitOr (.bin .BitOr (.sub (.sub (.attr (.lW 33) 36) (.lW 35)) (.lW 34)) (.sub (.sub (.attr (.lW 33) 36) (.bin .BitXor (.lW 35) (.int 2))) (.lW 34))) (.bin .LShift (.int 1) (.lW 34)))) .skip)))
noncomputable def R8:MS:=(.seq (.ret (.cmp (.bin .BitAnd (.bin .RShift (.call 39 (.cons (.lW 33) (.cons (.lW 34) (.cons (.lW 25) .nil)))) (.lW 40)) (.int 1)) .Eq (.int 1))) .skip)
noncomputable def LY:MS:=(.seq (.ret (.or (.cmp (.sub (.lX 42) (.lW 35)) .Gt (.int 0)) (.cmp (.lW 35) .Eq (.int 1)))) .skip)
noncomputable def Ny:MS:=(.seq (.assign 51 (.bin .Sub (.bin .LShift (.int 1) (.attr (.lW 33) 45)) (.int 1))) (.seq (.assign 47 (.int 0)) (.seq (.mq [48] true (.blt 4 (.cons (.attr (.lW 33) 49) .nil)) (.seq (.expr (.my (.attr (.lW 33) 50) 0 (.cons (.bin .LShift (.lW 51) (.bin .Mult (.lW 48) (.attr (.lW 33) 45))) .nil))) (.seq (.aug 47 .BitOr (.bin .LShift (.int 1) (.bin .Mult (.lW 48) (.attr (.lW 33) 45)))) .skip))) (.seq (.mq [44] true (.blt 4 (.cons (.attr (.lW 33) 45) .nil)) (.seq (.expr (.my (.attr (.lW 33) 46) 0 (.cons (.bin .LShift (.lW 47) (.lW 44)) .nil))) .skip)) .skip))))
noncomputable def H7:MS:=(.seq (.assign 54 (.int 0)) (.seq (.ite (.cmp (.sub (.lX 55) (.lW 35)) .Gt (.int 0)) (.seq (.aug 54 .BitOr (.sub (.attr (.lW 33) 46) (.bin .Sub (.attr (.lW 33) 45) (.int 1)))) .skip) .skip) (.seq (.ite (.cmp (.sub (.lX 55) (.lW 35)) .Lt (.int 0)) (.seq (.aug 54 .BitOr (.sub (.attr (.lW 33) 46) (.int 0))) .skip) .skip) (.seq (.ite (.cmp (.sub (.lX 42) (.lW 35)) .Gt (.int 0)) (.seq (.aug 54 .BitOr (.sub (.attr (.lW 33) 50) (.bin .Sub (.attr (.lW 33) 49) (.int 1)))) .skip) .skip) (.seq (.ite (.cmp (.sub (.lX 42) (.lW 35)) .Lt (.int 0)) (.seq (.aug 54 .BitOr (.sub (.attr (.lW 33) 50) (.int 0))) .skip) .skip) (.seq (.ret (.bin .BitAnd (.attr (.lW 33) 53) (.un .Invert (.lW 54)))) .skip))))))
noncomputable def Pb:MS:=(.seq (.setAttr (.lW 33) 60 (.bin .Mult (.list (.cons (.int 0) .nil)) (.attr (.lW 33) 63))) (.seq (.mq [35] true (.blt 4 (.cons (.int 8) .nil)) (.seq (.assign 59 (.call 56 (.cons (.lW 33) (.cons (.lW 35) .nil)))) (.seq (.assign 62 (.bin .Add (.bin .Mult (.sub (.lX 42) (.lW 35)) (.attr (.lW 33) 45)) (.sub (.lX 55) (.lW 35)))) (.seq (.assign 57 (.bin .Mult (.list (.cons (.int 0) .nil)) (.attr (.lW 33) 63))) (.seq (.assign 58 (.blt 4 (.cons (.attr (.lW 33) 63) .nil))) (.seq (.ite (.call 43 (.cons (.lW 35) .nil)) (.seq (.assign 58 (.blt 4 (.cons (.bin .Sub (.attr (.lW 33) 63) (.int 1)) (.cons (.un .USub (.int 1)) (.cons (.un .USub (.int 1)) .nil))))) .skip) .skip) (.seq (.mq [27] true (.lW 58) (.seq (.ite (.bin .BitAnd (.bin .RShift (.lW 59) (.lW 27)) (.int 1)) (.seq (.assign 61 (.bin .Add (.lW 27) (.lW 62))) (.seq (.m9 (.lW 57) (.lW 27) (.bin .BitOr (.sub (.lW 57) (.lW 61)) (.bin .LShift (.int 1) (.lW 61)))) (.seq (.mL (.attr (.lW 33) 60) (.lW 27) .BitOr (.bin .LShift (.int 1) (.lW 61))) .skip))) .skip) .skip)) (.seq (.expr (.my (.attr (.lW 33) 36) 0 (.cons (.lW 57) .nil))) .skip)))))))) .skip))
noncomputable def Nz:MS:=(.seq (.mq [27] true (.blt 4 (.cons (.attr (.lW 33) 63) .nil)) (.seq (.expr (.my (.sub (.attr (.lW 33) 65) (.int 0)) 0 (.cons (.bin .BitAnd (.sub (.attr (.lW 33) 60) (.lW 27)) (.bin .BitOr (.sub (.sub (.attr (.lW 33) 36) (.int 4)) (.lW 27)) (.sub (.sub (.attr (.lW 33) 36) (.int 7)) (.lW 27)))) .nil))) (.seq (.expr (.my (.sub (.attr (.lW 33) 65) (.int 1)) 0 (.cons (.bin .BitAnd (.sub (.attr (.lW 33) 60) (.lW 27)) (.bin .BitOr (.sub (.sub (.attr (.lW 33) 36) (.int 5)) (.lW 27)) (.sub (.sub (.attr (.lW 33) 36) (.int 6)) (.lW 27)))) .nil))) .skip))) .skip)
noncomputable def Kt:MS:=(.seq (.assign 45 (.attr (.lW 33) 45)) (.seq (.assign 73 (.bin .BitAnd (.attr (.lW 33) 53) (.un .Invert (.sub (.attr (.lW 33) 46) (.int 0))))) (.seq (.assign 74 (.bin .BitAnd (.attr (.lW 33) 53) (.un .Invert (.sub (.attr (.lW 33) 46) (.bin .Sub (.lW 45) (.int 1)))))) (.seq (.assign 71 (.bin .BitAnd (.lW 73) (.un .Invert (.sub (.attr (.lW 33) 46) (.int 1))))) (.seq (.assign 72 (.bin .BitAnd (.lW 74) (.un .Invert (.sub (.attr (.lW 33) 46) (.bin .Sub (.lW 45) (.int 2)))))) (.seq (.mq [27] true (.blt 4 (.cons (.attr (.lW 33) 63) .nil)) (.seq (.assign 25 (.bin .LShift (.int 1) (.lW 27))) (.seq (.assign 69 (.bin .BitOr (.bin .BitAnd (.bin .LShift (.lW 25) (.int 1)) (.lW 73)) (.bin .BitAnd (.bin .RShift (.lW 25) (.int 1)) (.lW 74)))) (.seq (.assign 70 (.bin .BitOr (.bin .BitAnd (.bin .LShift (.lW 25) (.int 2)) (.lW 71)) (.bin .BitAnd (.bin .RShift (.lW 25) (.int 2)) (.lW 72)))) (.seq (.assign 68 (.bin .BitOr (.bin .BitOr (.bin .BitOr (.bin .LShift (.lW 69) (.bin .Mult (.int 2) (.lW 45))) (.bin .RShift (.lW 69) (.bin .Mult (.int 2) (.lW 45)))) (.bin .LShift (.lW 70) (.lW 45))) (.bin .RShift (.lW 70) (.lW 45)))) (.seq (.expr (.my (.attr (.lW 33) 67) 0 (.cons (.bin .BitAnd (.lW 68) (.attr (.lW 33) 53)) .nil))) .skip)))))) .skip))))))
noncomputable def Kr:MS:=(.seq (.setAttr (.lW 33) 80 (.bin .Mult (.list (.cons (.int 0) .nil)) (.attr (.lW 33) 63))) (.seq (.assign 82 (.bin .FloorDiv (.attr (.lW 33) 45) (.int 2))) (.seq (.mq [76] true (.blt 4 (.cons (.int 4) .nil)) (.seq (.assign 81 (.bin .Mult (.bin .Mult (.bin .RShift (.lW 76) (.int 1)) (.bin .Sub (.attr (.lW 33) 49) (.int 1))) (.attr (.lW 33) 45))) (.seq (.assign 77 (.bin .Sub (.attr (.lW 33) 45) (.int 1))) (.seq (.assign 78 (.int 1)) (.seq (.ite (.bin .BitAnd (.lW 76) (.int 1)) (.seq (.assign 77 (.int 0)) (.seq (.assign 78 (.un .USub (.int 1))) .skip)) .skip) (.seq (.assign 61 (.bin .Add (.lW 82) (.bin .Mult (.int 2) (.lW 78)))) (.seq (.ite (.and (.attr (.lW 33) 79) (.cmp (.bin .Mult (.bin .Sub (.lW 77) (.lW 61)) (.lW 78)) .Gt (.int 0))) (.seq (.expr (.my (.attr (.lW 33) 83) 0 (.cons (.tup (.cons (.bin .Add (.lW 81) (.lW 82)) (.cons (.bin .Add (.lW 81) (.lW 61)) (.cons (.bin .Add (.lW 81) (.lW 77)) (.cons (.bin .Sub (.bin .Add (.lW 81) (.lW 61)) (.lW 78)) .nil))))) .nil))) (.seq (.mL (.attr (.lW 33) 80) (.bin .Add (.lW 81) (.lW 82)) .BitOr (.bin .LShift (.int 1) (.lW 76))) (.seq (.mL (.attr (.lW 33) 80) (.bin .Add (.lW 81) (.lW 77)) .BitOr (.bin .LShift (.int 1) (.lW 76))) .skip))) (.seq (.expr (.my (.attr (.lW 33) 83) 0 (.cons .none .nil))) .skip)) .skip))))))) .skip)))
noncomputable def H8:MS:=(.seq (.ite (.or (.cmp (.lW 45) .Lt (.int 2)) (.or (.cmp (.lW 45) .Gt (.int 8)) (.or (.cmp (.lW 49) .Lt (.int 3)) (.cmp (.lW 49) .Gt (.int 8))))) (.seq (.raise 0 (.str [110,111,32,98,111,97,114,100,32,104,97,115,32,116,104,97,116,32,109,97,110,121,32,102,105,108,101,115,32,97,110,100,32,114,97,110,107,115])) .skip) .skip) (.seq (.assign 33 (.call 86 (.cons (.lW 45) (.cons (.lW 49) (.cons (.lW 85) (.cons (.lW 79) .nil)))))) (.seq (.expr (.call 52 (.cons (.lW 33) .nil))) (.seq (.expr (.call 64 (.cons (.lW 33) .nil))) (.seq (.expr (.call 66 (.cons (.lW 33) .nil))) (.seq (.expr (.call 75 (.cons (.lW 33) .nil))) (.seq (.expr (.call 84 (.cons (.lW 33) .nil))) (.seq (.ret (.lW 33)) .skip))))))))
noncomputable def KG:MS:=(.seq (.assign 57 (.sub (.sub (.attr (.lW 33) 36) (.lW 35)) (.lW 27))) (.seq (.assign 90 (.bin .BitAnd (.lW 57) (.lW 88))) (.seq (.ite (.cmp (.lW 90) .Eq (.int 0)) (.seq (.ret (.lW 57)) .skip) .skip) (.seq (.ite (.call 43 (.cons (.lW 35) .nil)) (.seq (.ret (.bin .BitAnd (.lW 57) (.bin .BitXor (.lW 90) (.bin .Sub (.lW 90) (.int 1))))) .skip) .skip) (.seq (.assign 89 (.bin .RShift (.lW 90) (.int 1))) (.seq (.aug 89 .BitOr (.bin .RShift (.lW 89) (.int 1))) (.seq (.aug 89 .BitOr (.bin .RShift (.lW 89) (.int 2))) (.seq (.aug 89 .BitOr (.bin .RShift (.lW 89) (.int 4))) (.seq (.aug 89 .BitOr (.bin .RShift (.lW 89) (.int 8))) (.seq (.aug 89 .BitOr (.bin .RShift (.lW 89) (.int 16))) (.seq (.aug 89 .BitOr (.bin .RShift (.lW 89) (.int 32))) (.seq (.ret (.bin .BitAnd (.lW 57) (.un .Invert (.lW 89)))) .skip))))))))))))
noncomputable def Jd:MS:=(.seq (.assign 68 (.int 0)) (.seq (.mq [35] true (.blt 4 (.cons (.int 4) .nil)) (.seq (.aug 68 .BitOr (.call 91 (.cons (.lW 33) (.cons (.lW 35) (.cons (.lW 27) (.cons (.lW 88) .nil)))))) .skip)) (.seq (.ret (.lW 68)) .skip)))
noncomputable def G8:MS:=(.seq (.assign 68 (.int 0)) (.seq (.mq [35] true (.blt 4 (.cons (.int 4) (.cons (.int 8) .nil))) (.seq (.aug 68 .BitOr (.call 91 (.cons (.lW 33) (.cons (.lW 35) (.cons (.lW 27) (.cons (.lW 88) .nil)))))) .skip)) (.seq (.ret (.lW 68)) .skip)))
noncomputable def Id:MS:=(.seq (.ret (.bin .BitOr (.call 92 (.cons (.lW 33) (.cons (.lW 27) (.cons (.lW 88) .nil)))) (.call 93 (.cons (.lW 33) (.cons (.lW 27) (.cons (.lW 88) .nil)))))) .skip)
noncomputable def He:MS:=(.seq (.ite (.cmp (.lW 1) .Eq (.lX 97)) (.seq (.ret (.call 93 (.cons (.lW 33) (.cons (.lW 27) (.cons (.lW 88) .nil))))) .skip) .skip) (.seq (.ite (.cmp (.lW 1) .Eq (.lX 96)) (.seq (.ret (.call 92 (.cons (.lW 33) (.cons (.lW 27) (.cons (.lW 88) .nil))))) .skip) .skip) (.seq (.ite (.cmp (.lW 1) .Eq (.lX 95)) (.seq (.ret (.call 94 (.cons (.lW 33) (.cons (.lW 27) (.cons (.lW 88) .nil))))) .skip) .skip) (.seq (.ret (.int 0)) .skip))))
noncomputable def Ib:MS:=(.seq (.ite (.cmp (.lW 1) .Eq (.lX 100)) (.seq (.ret (.sub (.sub (.attr (.lW 33) 65) (.lW 0)) (.lW 27))) .skip) .skip) (.seq (.ite (.cmp (.lW 1) .Eq (.lX 17)) (.seq (.ret (.sub (.attr (.lW 33) 67) (.lW 27))) .skip) .skip) (.seq (.ite (.cmp (.lW 1) .Eq (.lX 99)) (.seq (.ret (.sub (.attr (.lW 33) 60) (.lW 27))) .skip) .skip) (.seq (.ret (.call 98 (.cons (.lW 33) (.cons (.lW 1) (.cons (.lW 27) (.cons (.lW 88) .nil)))))) .skip))))
noncomputable def NK:MS:=(.seq (.assign 108 (.bin .LShift (.int 1) (.lW 103))) (.seq (.m9 (.attr (.lW 102) 110) (.lW 103) (.lW 3)) (.seq (.mL (.attr (.lW 102) 109) (.call 5 (.cons (.lW 3) .nil)) .BitOr (.lW 108)) (.seq (.mL (.attr (.lW 102) 107) (.call 4 (.cons (.lW 3) .nil)) .BitOr (.lW 108)) (.seq (.mz (.lW 102) 104 .BitXor (.sub (.sub (.attr (.attr (.lW 102) 105) 106) (.lW 3)) (.lW 103))) .skip)))))
noncomputable def Ma:MS:=(.seq (.assign 3 (.sub (.attr (.lW 102) 110) (.lW 103))) (.seq (.assign 108 (.bin .LShift (.int 1) (.lW 103))) (.seq (.m9 (.attr (.lW 102) 110) (.lW 103) (.lX 9)) (.seq (.mL (.attr (.lW 102) 109) (.call 5 (.cons (.lW 3) .nil)) .BitXor (.lW 108)) (.seq (.mL (.attr (.lW 102) 107) (.call 4 (.cons (.lW 3) .nil)) .BitXor (.lW 108)) (.seq (.mz (.lW 102) 104 .BitXor (.sub (.sub (.attr (.attr (.lW 102) 105) 106) (.lW 3)) (.lW 103))) (.seq (.ret (.lW 3)) .skip)))))))
noncomputable def KI:MS:=(.seq (.assign 3 (.sub (.attr (.lW 102) 110) (.lW 34))) (.seq (.assign 114 (.bin .BitOr (.bin .LShift (.int 1) (.lW 34)) (.bin .LShift (.int 1) (.lW 25)))) (.seq (.m9 (.attr (.lW 102) 110) (.lW 34) (.lX 9)) (.seq (.m9 (.attr (.lW 102) 110) (.lW 25) (.lW 3)) (.seq (.mL (.attr (.lW 102) 109) (.call 5 (.cons (.lW 3) .nil)) .BitXor (.lW 114)) (.seq (.mL (.attr (.lW 102) 107) (.call 4 (.cons (.lW 3) .nil)) .BitXor (.lW 114)) (.seq (.assign 113 (.sub (.attr (.attr (.lW 102) 105) 106) (.lW 3))) (.seq (.mz (.lW 102) 104 .BitXor (.bin .BitXor (.sub (.lW 113) (.lW 34)) (.sub (.lW 113) (.lW 25)))) .skip))))))))
noncomputable def Pj:MS:=(.seq (.ret (.bin .BitOr (.sub (.attr (.lW 102) 107) (.lX 116)) (.sub (.attr (.lW 102) 107) (.lX 117)))) .skip)
noncomputable def TJ:MS:=(.seq (.ret (.bin .BitAnd (.sub (.attr (.lW 102) 107) (.lW 0)) (.sub (.attr (.lW 102) 109) (.lW 1)))) .skip)
noncomputable def KB:MS:=(.seq (.ret (.call 30 (.cons (.bin .BitAnd (.sub (.attr (.lW 102) 107) (.lW 0)) (.sub (.attr (.lW 102) 109) (.lX 99))) .nil))) .skip)
noncomputable def FZ:MS:=(.seq (.ret (.bin .BitOr (.sub (.attr (.lW 102) 109) (.lX 96)) (.sub (.attr (.lW 102) 109) (.lX 95)))) .skip)
noncomputable def FY:MS:=(.seq (.ret (.bin .BitOr (.sub (.attr (.lW 102) 109) (.lX 97)) (.sub (.attr (.lW 102) 109) (.lX 95)))) .skip)
noncomputable def Hc:MS:=(.seq (.ret (.bin .BitAnd (.bin .BitAnd (.sub (.sub (.attr (.attr (.lW 102) 33) 65) (.bin .Sub (.int 1) (.lW 0))) (.lW 27)) (.sub (.attr (.lW 102) 109) (.lX 100))) (.sub (.attr (.lW 102) 107) (.lW 0)))) .skip)
noncomputable def Hg:MS:=(.seq (.assign 33 (.attr (.lW 102) 33)) (.seq (.assign 69 (.bin .BitAnd (.sub (.attr (.lW 33) 67) (.lW 27)) (.sub (.attr (.lW 102) 109) (.lX 17)))) (.seq (.aug 69 .BitOr (.bin .BitAnd (.sub (.attr (.lW 33) 60) (.lW 27)) (.sub (.attr (.lW 102) 109) (.lX 99)))) (.seq (.ret (.bin .BitOr (.call 121 (.cons (.lW 102) (.cons (.lW 27) (.cons (.lW 0) .nil)))) (.bin .BitAnd (.lW 69) (.sub (.attr (.lW 102) 107) (.lW 0))))) .skip))))
noncomputable def Ha:MS:=(.seq (.assign 123 (.int 0)) (.seq (.assign 125 (.call 119 (.cons (.lW 102) .nil))) (.seq (.ite (.lW 125) (.seq (.aug 123 .BitOr (.bin .BitAnd (.call 92 (.cons (.attr (.lW 102) 33) (.cons (.lW 27) (.cons (.lW 88) .nil)))) (.lW 125))) .skip) .skip) (.seq (.assign 124 (.call 120 (.cons (.lW 102) .nil))) (.seq (.ite (.lW 124) (.seq (.aug 123 .BitOr (.bin .BitAnd (.call 93 (.cons (.attr (.lW 102) 33) (.cons (.lW 27) (.cons (.lW 88) .nil)))) (.lW 124))) .skip) .skip) (.seq (.ret (.lW 123)) .skip))))))
noncomputable def IY:MS:=(.seq (.assign 127 (.bin .BitOr (.call 122 (.cons (.lW 102) (.cons (.lW 27) (.cons (.lX 116) .nil)))) (.call 122 (.cons (.lW 102) (.cons (.lW 27) (.cons (.lX 117) .nil)))))) (.seq (.ret (.bin .BitOr (.lW 127) (.call 126 (.cons (.lW 102) (.cons (.lW 27) (.cons (.lW 88) .nil)))))) .skip))
noncomputable def Kx:MS:=(.seq (.ite (.call 122 (.cons (.lW 102) (.cons (.lW 27) (.cons (.lW 0) .nil)))) (.seq (.ret (.bool true)) .skip) .skip) (.seq (.assign 33 (.attr (.lW 102) 33)) (.seq (.assign 129 (.sub (.attr (.lW 102) 107) (.lW 0))) (.seq (.assign 125 (.bin .BitAnd (.call 119 (.cons (.lW 102) .nil)) (.lW 129))) (.seq (.ite (.and (.lW 125) (.bin .BitAnd (.call 92 (.cons (.lW 33) (.cons (.lW 27) (.cons (.lW 88) .nil)))) (.lW 125))) (.seq (.ret (.bool true)) .skip) .skip) (.seq (.assign 124 (.bin .BitAnd (.call 120 (.cons (.lW 102) .nil)) (.lW 129))) (.seq (.ret (.and (.cmp (.lW 124) .NotEq (.int 0)) (.cmp (.bin .BitAnd (.call 93 (.cons (.lW 33) (.cons (.lW 27) (.cons (.lW 88) .nil)))) (.lW 124)) .NotEq (.int 0)))) .skip)))))))
noncomputable def Kv:MS:=(.seq (.assign 131 (.bin .BitOr (.sub (.attr (.lW 102) 107) (.lX 116)) (.sub (.attr (.lW 102) 107) (.lX 117)))) (.seq (.ret (.bin .BitAnd (.call 128 (.cons (.lW 102) (.cons (.call 118 (.cons (.lW 102) (.cons (.lW 0) .nil))) (.cons (.lW 131) .nil)))) (.sub (.attr (.lW 102) 107) (.bin .Sub (.int 1) (.lW 0))))) .skip))
noncomputable def Pc:MS:=(.seq (.ret (.call 132 (.cons (.lW 102) (.cons (.attr (.lW 102) 0) .nil)))) .skip)
noncomputable def Kw:MS:=(.seq (.assign 131 (.bin .BitOr (.sub (.attr (.lW 102) 107) (.lX 116)) (.sub (.attr (.lW 102) 107) (.lX 117)))) (.seq (.ret (.call 130 (.cons (.lW 102) (.cons (.call 118 (.cons (.lW 102) (.cons (.lW 0) .nil))) (.cons (.bin .Sub (.int 1) (.lW 0)) (.cons (.lW 131) .nil)))))) .skip))
noncomputable def Pe:MS:=(.seq (.ret (.call 134 (.cons (.lW 102) (.cons (.attr (.lW 102) 0) .nil)))) .skip)
noncomputable def L7:MS:=(.seq (.assign 60 (.call 118 (.cons (.lW 102) (.cons (.lW 0) .nil)))) (.seq (.assign 123 (.bin .BitAnd (.call 92 (.cons (.attr (.lW 102) 33) (.cons (.lW 60) (.cons (.int 0) .nil)))) (.call 119 (.cons (.lW 102) .nil)))) (.seq (.aug 123 .BitOr (.bin .BitAnd (.call 93 (.cons (.attr (.lW 102) 33) (.cons (.lW 60) (.cons (.int 0) .nil)))) (.call 120 (.cons (.lW 102) .nil)))) (.seq (.ret (.bin .BitAnd (.lW 123) (.sub (.attr (.lW 102) 107) (.bin .Sub (.int 1) (.lW 0))))) .skip))))
noncomputable def IZ:MS:=(.seq (.assign 60 (.call 118 (.cons (.lW 102) (.cons (.lW 0) .nil)))) (.seq (.assign 140 (.call 136 (.cons (.lW 102) (.cons (.lW 0) .nil)))) (.seq (.assign 142 (.bin .BitXor (.bin .BitOr (.sub (.attr (.lW 102) 107) (.lX 116)) (.sub (.attr (.lW 102) 107) (.lX 117))) (.lW 140))) (.seq (.assign 138 (.int 0)) (.seq (.assign 137 (.int 0)) (.seq (.mq [139] true (.call 32 (.cons (.lW 140) .nil)) (.seq (.assign 141 (.bin .BitAnd (.call 38 (.cons (.attr (.lW 102) 33) (.cons (.lW 60) (.cons (.lW 139) .nil)))) (.lW 142))) (.seq (.ite (.and (.lW 141) (.un .Not (.call 26 (.cons (.lW 141) .nil)))) (.seq (.aug 138 .BitOr (.lW 141)) (.seq (.ite (.bin .BitAnd (.lW 141) (.sub (.attr (.lW 102) 107) (.lW 0))) (.seq (.aug 137 .BitOr (.bin .LShift (.int 1) (.lW 139))) .skip) .skip) .skip)) .skip) .skip))) (.seq (.ret (.tup (.cons (.lW 138) (.cons (.lW 137) .nil)))) .skip)))))))
noncomputable def Ic:MS:=(.seq (.ret (.bin .BitAnd (.sub (.call 143 (.cons (.lW 102) (.cons (.lW 0) .nil))) (.int 0)) (.sub (.attr (.lW 102) 107) (.lW 0)))) .skip)
noncomputable def Hf:MS:=(.seq (.ite (.cmp (.lW 34) .Lt (.lW 25)) (.seq (.ret (.bin .Sub (.bin .LShift (.int 1) (.lW 25)) (.bin .LShift (.int 2) (.lW 34)))) .skip) .skip) (.seq (.ret (.bin .Sub (.bin .LShift (.int 1) (.lW 34)) (.bin .LShift (.int 2) (.lW 25)))) .skip))
noncomputable def G9:MS:=(.seq (.assign 157 (.sub (.attr (.attr (.lW 102) 33) 83) (.lW 76))) (.seq (.ite (.cmp (.lW 157) .Is .none) (.seq (.ret (.lX 160)) .skip) .skip) (.seq (.ite (.cmp (.bin .BitAnd (.attr (.lW 102) 158) (.bin .LShift (.int 1) (.lW 76))) .Eq (.int 0)) (.seq (.ret (.lX 159)) .skip) .skip) (.seq (.mo [153,149,155,151] (.lW 157)) (.seq (.assign 147 (.call 88 (.cons (.lW 102) .nil))) (.seq (.ite (.bin .BitAnd (.lW 147) (.call 145 (.cons (.lW 153) (.cons (.lW 155) .nil)))) (.seq (.ret (.lX 156)) .skip) .skip) (.seq (.assign 148 (.bin .Sub (.int 1) (.bin .RShift (.lW 76) (.int 1)))) (.seq (.ite (.call 130 (.cons (.lW 102) (.cons (.lW 153) (.cons (.lW 148) (.cons (.lW 147) .nil))))) (.seq (.ret (.lX 154)) .skip) .skip) (.seq (.ite (.call 130 (.cons (.lW 102) (.cons (.lW 151) (.cons (.lW 148) (.cons (.lW 147) .nil))))) (.seq (.ret (.lX 152)) .skip) .skip) (.seq (.ite (.call 130 (.cons (.lW 102) (.cons (.lW 149) (.cons (.lW 148) (.cons (.lW 147) .nil))))) (.seq (.ret (.lX 150)) .skip) .skip) (.seq (.ret (.lX 146)) .skip)))))))))))
noncomputable def IW:MS:=(.seq (.mq [76] true (.list (.cons (.bin .Mult (.int 2) (.attr (.lW 102) 0)) (.cons (.bin .Add (.bin .Mult (.int 2) (.attr (.lW 102) 0)) (.int 1)) .nil))) (.seq (.ite (.cmp (.call 161 (.cons (.lW 102) (.cons (.lW 76) .nil))) .Eq (.lX 146)) (.seq (.mo [153,149,155,151] (.sub (.attr (.attr (.lW 102) 33) 83) (.lW 76))) (.seq (.expr (.my (.lW 31) 0 (.cons (.call 18 (.cons (.lW 153) (.cons (.lW 149) (.cons (.lX 162) (.cons (.lX 23) .nil))))) .nil))) .skip)) .skip) .skip)) .skip)
noncomputable def HN:MS:=(.seq (.mq [61] true (.call 32 (.cons (.lW 164) .nil)) (.seq (.expr (.my (.lW 31) 0 (.cons (.call 18 (.cons (.lW 11) (.cons (.lW 61) (.cons (.lX 165) (.cons (.lX 23) .nil))))) .nil))) .skip)) .skip)
noncomputable def DG:MS:=(.seq (.assign 147 (.call 88 (.cons (.lW 102) .nil))) (.seq (.mq [11] true (.call 32 (.cons (.call 106 (.cons (.lW 102) (.cons (.attr (.lW 102) 0) (.cons (.lW 1) .nil)))) .nil)) (.seq (.assign 168 (.call 101 (.cons (.attr (.lW 102) 33) (.cons (.attr (.lW 102) 0) (.cons (.lW 1) (.cons (.lW 11) (.cons (.lW 147) .nil))))))) (.seq (.expr (.call 166 (.cons (.lW 11) (.cons (.bin .BitAnd (.lW 168) (.lW 167)) (.cons (.lW 31) .nil))))) .skip))) .skip))
noncomputable def Je:MS:=(.seq (.ite (.cmp (.lW 170) .Eq (.lX 172)) (.seq (.ret (.sub (.attr (.lW 102) 107) (.bin .Sub (.int 1) (.attr (.lW 102) 0)))) .skip) .skip) (.seq (.ite (.cmp (.lW 170) .Eq (.lX 171)) (.seq (.ret (.bin .BitAnd (.attr (.attr (.lW 102) 33) 53) (.un .Invert (.call 88 (.cons (.lW 102) .nil))))) .skip) .skip) (.seq (.ret (.bin .BitAnd (.attr (.attr (.lW 102) 33) 53) (.un .Invert (.sub (.attr (.lW 102) 107) (.attr (.lW 102) 0))))) .skip)))
noncomputable def NJ:MS:=(.seq (.ite (.cmp (.lW 0) .Eq (.lX 116)) (.seq (.ret (.attr (.lW 33) 45)) .skip) .skip) (.seq (.ret (.un .USub (.attr (.lW 33) 45))) .skip))
noncomputable def L9:MS:=(.seq (.ite (.cmp (.lW 0) .Eq (.lX 116)) (.seq (.ret (.sub (.attr (.lW 33) 50) (.int 1))) .skip) .skip) (.seq (.ret (.sub (.attr (.lW 33) 50) (.bin .Sub (.attr (.lW 33) 49) (.int 2)))) .skip))
noncomputable def NB:MS:=(.seq (.ite (.cmp (.lW 0) .Eq (.lX 116)) (.seq (.ret (.sub (.attr (.lW 33) 50) (.bin .Sub (.attr (.lW 33) 49) (.int 1)))) .skip) .skip) (.seq (.ret (.sub (.attr (.lW 33) 50) (.int 0))) .skip))
noncomputable def L6:MS:=(.seq (.ite (.cmp (.lW 0) .Eq (.lX 116)) (.seq (.ret (.bin .BitAnd (.bin .LShift (.lW 25) (.attr (.lW 33) 45)) (.attr (.lW 33) 53))) .skip) .skip) (.seq (.ret (.bin .RShift (.lW 25) (.attr (.lW 33) 45))) .skip))
noncomputable def Ie:MS:=(.seq (.ite (.cmp (.lW 157) .Eq (.int 0)) (.seq (.ret (.bin .LShift (.call 177 (.cons (.lW 33) (.cons (.bin .BitAnd (.lW 25) (.un .Invert (.sub (.attr (.lW 33) 46) (.bin .Sub (.attr (.lW 33) 45) (.int 1))))) (.cons (.lW 0) .nil)))) (.int 1))) .skip) .skip) (.seq (.ret (.bin .RShift (.call 177 (.cons (.lW 33) (.cons (.bin .BitAnd (.lW 25) (.un .Invert (.sub (.attr (.lW 33) 46) (.int 0)))) (.cons (.lW 0) .nil)))) (.int 1))) .skip))
noncomputable def Jc:MS:=(.seq (.assign 33 (.attr (.lW 102) 33)) (.seq (.assign 182 (.bin .BitAnd (.attr (.lW 33) 53) (.un .Invert (.call 88 (.cons (.lW 102) .nil))))) (.seq (.assign 183 (.call 106 (.cons (.lW 102) (.cons (.lW 0) (.cons (.lX 100) .nil))))) (.seq (.assign 180 (.bin .BitAnd (.call 177 (.cons (.lW 33) (.cons (.lW 183) (.cons (.lW 0) .nil)))) (.lW 182))) (.seq (.assign 179 (.int 0)) (.seq (.ite (.attr (.lW 33) 85) (.seq (.assign 181 (.bin .BitAnd (.call 177 (.cons (.lW 33) (.cons (.bin .BitAnd (.lW 183) (.call 175 (.cons (.lW 33) (.cons (.lW 0) .nil)))) (.cons (.lW 0) .nil)))) (.lW 182))) (.seq (.assign 179 (.bin .BitAnd (.call 177 (.cons (.lW 33) (.cons (.lW 181) (.cons (.lW 0) .nil)))) (.lW 182))) .skip)) .skip) (.seq (.ret (.tup (.cons (.lW 180) (.cons (.lW 179) .nil)))) .skip)))))))
noncomputable def D3:MS:=(.seq (.ite (.cmp (.lW 170) .NotEq (.lX 171)) (.seq (.expr (.my (.lW 31) 0 (.cons (.call 18 (.cons (.lW 11) (.cons (.lW 12) (.cons (.lX 16) (.cons (.lX 95) .nil))))) .nil))) .skip) .skip) (.seq (.ite (.cmp (.lW 170) .Eq (.lX 172)) (.seq (.assign 186 (.lW 185)) .skip) (.seq (.ite (.cmp (.lW 170) .Eq (.lX 171)) (.seq (.assign 186 (.un .Not (.lW 185))) .skip) (.seq (.assign 186 (.bool true)) .skip)) .skip)) (.seq (.ite (.lW 186) (.seq (.mq [1] true (.list (.cons (.lX 96) (.cons (.lX 97) (.cons (.lX 17) .nil)))) (.seq (.expr (.my (.lW 31) 0 (.cons (.call 18 (.cons (.lW 11) (.cons (.lW 12) (.cons (.lX 16) (.cons (.lW 1) .nil))))) .nil))) .skip)) .skip) .skip) .skip)))
noncomputable def Dm:MS:=(.seq (.assign 33 (.attr (.lW 102) 33)) (.seq (.assign 188 (.call 174 (.cons (.lW 33) (.cons (.attr (.lW 102) 0) .nil)))) (.seq (.mo [180,179] (.call 184 (.cons (.lW 102) (.cons (.attr (.lW 102) 0) .nil)))) (.seq (.mq [61] true (.call 32 (.cons (.bin .BitAnd (.bin .BitAnd (.lW 180) (.lW 167)) (.un .Invert (.call 176 (.cons (.lW 33) (.cons (.attr (.lW 102) 0) .nil))))) .nil)) (.seq (.expr (.my (.lW 31) 0 (.cons (.call 18 (.cons (.bin .Sub (.lW 61) (.lW 188)) (.cons (.lW 61) (.cons (.lX 165) (.cons (.lX 23) .nil))))) .nil))) .skip)) (.seq (.mq [61] true (.call 32 (.cons (.bin .BitAnd (.lW 179) (.lW 167)) .nil)) (.seq (.expr (.my (.lW 31) 0 (.cons (.call 18 (.cons (.bin .Sub (.lW 61) (.bin .Mult (.int 2) (.lW 188))) (.cons (.lW 61) (.cons (.lX 165) (.cons (.lX 23) .nil))))) .nil))) .skip)) .skip)))))
noncomputable def Cw:MS:=(.seq (.assign 33 (.attr (.lW 102) 33)) (.seq (.assign 188 (.call 174 (.cons (.lW 33) (.cons (.attr (.lW 102) 0) .nil)))) (.seq (.assign 180 (.sub (.call 184 (.cons (.lW 102) (.cons (.attr (.lW 102) 0) .nil))) (.int 0))) (.seq (.mq [61] true (.call 32 (.cons (.bin .BitAnd (.bin .BitAnd (.lW 180) (.lW 167)) (.call 176 (.cons (.lW 33) (.cons (.attr (.lW 102) 0) .nil)))) .nil)) (.seq (.expr (.call 187 (.cons (.bin .Sub (.lW 61) (.lW 188)) (.cons (.lW 61) (.cons (.lW 170) (.cons (.bool false) (.cons (.lW 31) .nil))))))) .skip)) .skip))))
noncomputable def BW:MS:=(.seq (.assign 33 (.attr (.lW 102) 33)) (.seq (.assign 0 (.attr (.lW 102) 0)) (.seq (.assign 191 (.call 176 (.cons (.lW 33) (.cons (.lW 0) .nil)))) (.seq (.assign 183 (.call 106 (.cons (.lW 102) (.cons (.lW 0) (.cons (.lX 100) .nil))))) (.seq (.assign 123 (.bin .BitAnd (.lW 167) (.sub (.attr (.lW 102) 107) (.bin .Sub (.int 1) (.lW 0))))) (.seq (.mq [157] true (.list (.cons (.int 0) (.cons (.int 1) .nil))) (.seq (.assign 188 (.bin .Sub (.bin .Add (.call 174 (.cons (.lW 33) (.cons (.lW 0) .nil))) (.int 1)) (.bin .Mult (.int 2) (.lW 157)))) (.seq (.mq [61] true (.call 32 (.cons (.bin .BitAnd (.call 178 (.cons (.lW 33) (.cons (.lW 183) (.cons (.lW 0) (.cons (.lW 157) .nil))))) (.lW 123)) .nil)) (.seq (.ite (.bin .BitAnd (.lW 191) (.bin .LShift (.int 1) (.lW 61))) (.seq (.expr (.call 187 (.cons (.bin .Sub (.lW 61) (.lW 188)) (.cons (.lW 61) (.cons (.lW 170) (.cons (.bool true) (.cons (.lW 31) .nil))))))) .skip) (.seq (.expr (.my (.lW 31) 0 (.cons (.call 18 (.cons (.bin .Sub (.lW 61) (.lW 188)) (.cons (.lW 61) (.cons (.lX 165) (.cons (.lX 23) .nil))))) .nil))) .skip)) .skip)) .skip))) .skip))))))
noncomputable def G7:MS:=(.seq (.ite (.cmp (.lW 170) .NotEq (.lX 172)) (.seq (.expr (.call 189 (.cons (.lW 102) (.cons (.lW 167) (.cons (.lW 31) .nil))))) .skip) .skip) (.seq (.expr (.call 190 (.cons (.lW 102) (.cons (.lW 170) (.cons (.lW 167) (.cons (.lW 31) .nil)))))) (.seq (.ite (.cmp (.lW 170) .NotEq (.lX 171)) (.seq (.expr (.call 192 (.cons (.lW 102) (.cons (.lW 170) (.cons (.lW 167) (.cons (.lW 31) .nil)))))) .skip) .skip) .skip)))
noncomputable def G6:MS:=(.seq (.ite (.cmp (.attr (.lW 102) 196) .Lt (.int 0)) (.seq (.ret .none) .skip) .skip) (.seq (.assign 194 (.bin .BitAnd (.sub (.sub (.attr (.attr (.lW 102) 33) 65) (.bin .Sub (.int 1) (.attr (.lW 102) 0))) (.attr (.lW 102) 196)) (.call 106 (.cons (.lW 102) (.cons (.attr (.lW 102) 0) (.cons (.lX 100) .nil)))))) (.seq (.mq [11] true (.call 32 (.cons (.lW 194) .nil)) (.seq (.expr (.my (.lW 31) 0 (.cons (.call 18 (.cons (.lW 11) (.cons (.attr (.lW 102) 196) (.cons (.lX 195) (.cons (.lX 23) .nil))))) .nil))) .skip)) .skip)))
noncomputable def Gs:MS:=(.seq (.ite (.or (.cmp (.lW 198) .Eq (.int 0)) (.call 26 (.cons (.lW 198) .nil))) (.seq (.ret (.int 0)) .skip) .skip) (.seq (.ret (.bin .BitOr (.lW 198) (.call 38 (.cons (.attr (.lW 102) 33) (.cons (.call 118 (.cons (.lW 102) (.cons (.attr (.lW 102) 0) .nil))) (.cons (.call 30 (.cons (.lW 198) .nil)) .nil)))))) .skip))
noncomputable def ET:MS:=(.seq (.ite (.cmp (.attr (.lW 102) 0) .Eq (.lX 116)) (.seq (.ret (.bin .Sub (.attr (.lW 102) 196) (.attr (.attr (.lW 102) 33) 45))) .skip) .skip) (.seq (.ret (.bin .Add (.attr (.lW 102) 196) (.attr (.attr (.lW 102) 33) 45))) .skip))
noncomputable def D7:MS:=(.seq (.ite (.cmp (.attr (.lW 102) 196) .Lt (.int 0)) (.seq (.ret (.bool false)) .skip) .skip) (.seq (.ret (.cmp (.bin .BitAnd (.lW 167) (.bin .BitOr (.bin .LShift (.int 1) (.attr (.lW 102) 196)) (.bin .LShift (.int 1) (.call 200 (.cons (.lW 102) .nil))))) .NotEq (.int 0))) .skip))
noncomputable def IX:MS:=(.seq (.assign 167 (.call 199 (.cons (.lW 102) (.cons (.call 133 (.cons (.lW 102) .nil)) .nil)))) (.seq (.ite (.lW 167) (.seq (.expr (.call 193 (.cons (.lW 102) (.cons (.lX 202) (.cons (.lW 167) (.cons (.lW 31) .nil)))))) (.seq (.ite (.call 201 (.cons (.lW 102) (.cons (.lW 167) .nil))) (.seq (.expr (.call 197 (.cons (.lW 102) (.cons (.lW 31) .nil)))) .skip) .skip) (.seq (.mq [1] true (.list (.cons (.lX 17) (.cons (.lX 97) (.cons (.lX 96) (.cons (.lX 95) .nil))))) (.seq (.expr (.call 169 (.cons (.lW 102) (.cons (.lW 1) (.cons (.lW 167) (.cons (.lW 31) .nil)))))) .skip)) .skip))) .skip) (.seq (.expr (.call 169 (.cons (.lW 102) (.cons (.lX 99) (.cons (.bin .BitAnd (.attr (.attr (.lW 102) 33) 53) (.un .Invert (.sub (.attr (.lW 102) 107) (.attr (.lW 102) 0)))) (.cons (.lW 31) .nil)))))) .skip)))
noncomputable def Jf:MS:=(.seq (.assign 61 (.call 21 (.cons (.lW 19) .nil))) (.seq (.ite (.cmp (.call 22 (.cons (.lW 19) .nil)) .NotEq (.lX 195)) (.seq (.ret (.lW 61)) .skip) .skip) (.seq (.ite (.cmp (.attr (.lW 102) 0) .Eq (.lX 116)) (.seq (.ret (.bin .Sub (.lW 61) (.attr (.attr (.lW 102) 33) 45))) .skip) .skip) (.seq (.ret (.bin .Add (.lW 61) (.attr (.attr (.lW 102) 33) 45))) .skip))))
noncomputable def ER:MS:=(.seq (.assign 205 (.bin .LShift (.int 1) (.call 206 (.cons (.lW 102) (.cons (.lW 19) .nil))))) (.seq (.assign 61 (.bin .LShift (.int 1) (.call 21 (.cons (.lW 19) .nil)))) (.seq (.assign 131 (.bin .BitOr (.sub (.attr (.lW 102) 107) (.lX 116)) (.sub (.attr (.lW 102) 107) (.lX 117)))) (.seq (.assign 89 (.bin .BitOr (.bin .BitXor (.bin .BitXor (.lW 131) (.bin .LShift (.int 1) (.call 20 (.cons (.lW 19) .nil)))) (.lW 205)) (.lW 61))) (.seq (.assign 123 (.call 128 (.cons (.lW 102) (.cons (.call 118 (.cons (.lW 102) (.cons (.attr (.lW 102) 0) .nil))) (.cons (.lW 89) .nil))))) (.seq (.ret (.cmp (.bin .BitAnd (.bin .BitAnd (.lW 123) (.sub (.attr (.lW 102) 107) (.bin .Sub (.int 1) (.attr (.lW 102) 0)))) (.un .Invert (.lW 205))) .Eq (.int 0))) .skip))))))
noncomputable def Pf:MS:=(.seq (.assign 13 (.call 22 (.cons (.lW 19) .nil))) (.seq (.ite (.cmp (.lW 13) .Eq (.lX 162)) (.seq (.ret (.bool true)) .skip) .skip) (.seq (.ite (.cmp (.lW 13) .Eq (.lX 195)) (.seq (.ret (.call 207 (.cons (.lW 102) (.cons (.lW 19) .nil)))) .skip) .skip) (.seq (.assign 11 (.call 20 (.cons (.lW 19) .nil))) (.seq (.assign 61 (.call 21 (.cons (.lW 19) .nil))) (.seq (.assign 60 (.call 118 (.cons (.lW 102) (.cons (.attr (.lW 102) 0) .nil)))) (.seq (.ite (.cmp (.lW 11) .Eq (.lW 60)) (.seq (.assign 209 (.bin .BitXor (.bin .BitOr (.sub (.attr (.lW 102) 107) (.lX 116)) (.sub (.attr (.lW 102) 107) (.lX 117))) (.bin .LShift (.int 1) (.lW 60)))) (.seq (.ret (.un .Not (.call 130 (.cons (.lW 102) (.cons (.lW 61) (.cons (.bin .Sub (.int 1) (.attr (.lW 102) 0)) (.cons (.lW 209) .nil))))))) .skip)) .skip) (.seq (.ite (.cmp (.bin .BitAnd (.bin .RShift (.lW 208) (.lW 11)) (.int 1)) .Eq (.int 0)) (.seq (.ret (.bool true)) .skip) .skip) (.seq (.ret (.call 41 (.cons (.attr (.lW 102) 33) (.cons (.lW 11) (.cons (.lW 61) (.cons (.lW 60) .nil)))))) .skip)))))))))
noncomputable def I8:MS:=(.seq (.assign 31 (.list .nil)) (.seq (.ite (.cmp (.lW 170) .Eq (.lX 202)) (.seq (.expr (.call 203 (.cons (.lW 102) (.cons (.lW 31) .nil)))) (.seq (.ret (.lW 31)) .skip)) .skip) (.seq (.assign 167 (.call 173 (.cons (.lW 102) (.cons (.lW 170) .nil)))) (.seq (.expr (.call 193 (.cons (.lW 102) (.cons (.lW 170) (.cons (.attr (.attr (.lW 102) 33) 53) (.cons (.lW 31) .nil)))))) (.seq (.ite (.cmp (.lW 170) .NotEq (.lX 171)) (.seq (.expr (.call 197 (.cons (.lW 102) (.cons (.lW 31) .nil)))) .skip) .skip) (.seq (.mq [1] true (.list (.cons (.lX 17) (.cons (.lX 97) (.cons (.lX 96) (.cons (.lX 95) (.cons (.lX 99) .nil)))))) (.seq (.expr (.call 169 (.cons (.lW 102) (.cons (.lW 1) (.cons (.lW 167) (.cons (.lW 31) .nil)))))) .skip)) (.seq (.ite (.cmp (.lW 170) .NotEq (.lX 172)) (.seq (.expr (.call 163 (.cons (.lW 102) (.cons (.lW 31) .nil)))) .skip) .skip) (.seq (.ret (.lW 31)) .skip))))))))
noncomputable def Jb:MS:=(.seq (.ite (.call 135 (.cons (.lW 102) .nil)) (.seq (.ret (.call 211 (.cons (.lW 102) (.cons (.lX 202) .nil)))) .skip) .skip) (.seq (.ret (.call 211 (.cons (.lW 102) (.cons (.lX 212) .nil)))) .skip))
noncomputable def Gu:MS:=(.seq (.assign 208 (.call 144 (.cons (.lW 102) (.cons (.attr (.lW 102) 0) .nil)))) (.seq (.assign 31 (.list .nil)) (.seq (.mq [19] true (.lW 214) (.seq (.ite (.call 210 (.cons (.lW 102) (.cons (.lW 19) (.cons (.lW 208) .nil)))) (.seq (.expr (.my (.lW 31) 0 (.cons (.lW 19) .nil))) .skip) .skip) .skip)) (.seq (.ret (.lW 31)) .skip))))
noncomputable def KD:MS:=(.seq (.ret (.call 215 (.cons (.lW 102) (.cons (.call 213 (.cons (.lW 102) .nil)) .nil)))) .skip)
noncomputable def D5:MS:=(.seq (.assign 217 (.ite (.call 135 (.cons (.lW 102) .nil)) (.list (.cons (.lX 202) .nil)) (.list (.cons (.lX 172) (.cons (.lX 171) .nil))))) (.seq (.assign 208 (.call 144 (.cons (.lW 102) (.cons (.attr (.lW 102) 0) .nil)))) (.seq (.mq [170] true (.lW 217) (.seq (.mq [19] true (.call 211 (.cons (.lW 102) (.cons (.lW 170) .nil))) (.seq (.ite (.call 210 (.cons (.lW 102) (.cons (.lW 19) (.cons (.lW 208) .nil)))) (.seq (.ret (.bool true)) .skip) .skip) .skip)) .skip)) (.seq (.ret (.bool false)) .skip))))
noncomputable def Sa:MS:=(.seq (.ret (.bin .Mod (.lW 27) (.lW 45))) .skip)
noncomputable def Sf:MS:=(.seq (.ret (.bin .FloorDiv (.lW 27) (.lW 45))) .skip)
noncomputable def KJ:MS:=(.seq (.ite (.or (.cmp (.lW 27) .Lt (.int 0)) (.cmp (.lW 27) .GtE (.bin .Mult (.lW 45) (.int 8)))) (.seq (.raise 4 (.lW 27)) .skip) .skip) (.seq (.ret (.bin .Add (.sub (.lX 221) (.bin .Mod (.lW 27) (.lW 45))) (.sub (.lX 222) (.bin .FloorDiv (.lW 27) (.lW 45))))) .skip))
noncomputable def KH:MS:=(.seq (.ite (.cmp (.blt 0 (.cons (.lW 224) .nil)) .NotEq (.int 2)) (.seq (.ret (.un .USub (.int 1))) .skip) .skip) (.seq (.assign 226 (.my (.lX 221) 2 (.cons (.sub (.lW 224) (.int 0)) .nil))) (.seq (.assign 225 (.my (.lX 222) 2 (.cons (.sub (.lW 224) (.int 1)) .nil))) (.seq (.ite (.or (.cmp (.lW 226) .Lt (.int 0)) (.or (.cmp (.lW 226) .GtE (.lW 45)) (.or (.cmp (.lW 225) .Lt (.int 0)) (.cmp (.lW 225) .GtE (.lW 49))))) (.seq (.ret (.un .USub (.int 1))) .skip) .skip) (.seq (.ret (.bin .Add (.bin .Mult (.lW 225) (.lW 45)) (.lW 226))) .skip)))))
noncomputable def Ja:MS:=(.seq (.ite (.cmp (.lW 1) .Eq (.lX 17)) (.seq (.ret (.str [110])) .skip) .skip) (.seq (.ite (.cmp (.lW 1) .Eq (.lX 97)) (.seq (.ret (.str [98])) .skip) .skip) (.seq (.ite (.cmp (.lW 1) .Eq (.lX 96)) (.seq (.ret (.str [114])) .skip) .skip) (.seq (.ite (.cmp (.lW 1) .Eq (.lX 95)) (.seq (.ret (.str [113])) .skip) .skip) (.seq (.ret (.str [])) .skip)))))
noncomputable def FO:MS:=(.seq (.ite (.and (.cmp (.blt 0 (.cons (.lW 224) .nil)) .NotEq (.int 4)) (.cmp (.blt 0 (.cons (.lW 224) .nil)) .NotEq (.int 5))) (.seq (.raise 1 (.lW 224)) .skip) .skip) (.seq (.assign 11 (.call 227 (.cons (.lW 45) (.cons (.lW 49) (.cons (.slice (.lW 224) .none (.int 2)) .nil))))) (.seq (.assign 61 (.call 227 (.cons (.lW 45) (.cons (.lW 49) (.cons (.slice (.lW 224) (.int 2) (.int 4)) .nil))))) (.seq (.ite (.or (.cmp (.lW 11) .Lt (.int 0)) (.cmp (.lW 61) .Lt (.int 0))) (.seq (.raise 1 (.lW 224)) .skip) .skip) (.seq (.assign 14 (.lX 23)) (.seq (.ite (.cmp (.blt 0 (.cons (.lW 224) .nil)) .Eq (.int 5)) (.seq (.mq [1] true (.list (.cons (.lX 17) (.cons (.lX 97) (.cons (.lX 96) (.cons (.lX 95) .nil))))) (.seq (.ite (.cmp (.call 228 (.cons (.lW 1) .nil)) .Eq (.sub (.lW 224) (.int 4))) (.seq (.assign 14 (.lW 1)) .skip) .skip) .skip)) (.seq (.ite (.cmp (.lW 14) .Eq (.lX 23)) (.seq (.raise 1 (.lW 224)) .skip) .skip) .skip)) .skip) (.seq (.ret (.tup (.cons (.lW 11) (.cons (.lW 61) (.cons (.lW 14) .nil))))) .skip)))))))
noncomputable def HO:MS:=(.seq (.mo [11,61,14] (.call 229 (.cons (.lW 45) (.cons (.lW 49) (.cons (.lW 224) .nil))))) (.seq (.mq [19] true (.lW 214) (.seq (.ite (.and (.cmp (.call 20 (.cons (.lW 19) .nil)) .Eq (.lW 11)) (.and (.cmp (.call 21 (.cons (.lW 19) .nil)) .Eq (.lW 61)) (.cmp (.call 24 (.cons (.lW 19) .nil)) .Eq (.lW 14)))) (.seq (.ret (.lW 19)) .skip) .skip) .skip)) (.seq (.raise 1 (.lW 224)) .skip)))
noncomputable def L4:MS:=(.seq (.ret (.call 230 (.cons (.attr (.attr (.lW 102) 33) 45) (.cons (.attr (.attr (.lW 102) 33) 49) (.cons (.call 216 (.cons (.lW 102) .nil)) (.cons (.lW 224) .nil)))))) .skip)
noncomputable def KF:MS:=(.seq (.assign 11 (.call 20 (.cons (.lW 19) .nil))) (.seq (.ite (.or (.cmp (.lW 11) .GtE (.attr (.attr (.lW 102) 33) 63)) (.cmp (.call 21 (.cons (.lW 19) .nil)) .GtE (.attr (.attr (.lW 102) 33) 63))) (.seq (.raise 1 (.str [97,32,109,111,118,101,32,119,105,116,104,32,97,32,115,113,117,97,114,101,32,98,101,121,111,110,100,32,116,104,101,32,98,111,97,114,100])) .skip) .skip) (.seq (.assign 3 (.sub (.attr (.lW 102) 110) (.lW 11))) (.seq (.ite (.or (.cmp (.lW 3) .Eq (.lX 9)) (.cmp (.call 4 (.cons (.lW 3) .nil)) .NotEq (.attr (.lW 102) 0))) (.seq (.raise 1 (.str [97,32,109,111,118,101,32,116,104,97,116,32,115,116,97,114,116,115,32,119,105,116,104,32,110,111,32,111,119,110,32,112,105,101,99,101])) .skip) .skip) (.seq (.ret (.lW 3)) .skip)))))
noncomputable def NL:MS:=(.seq (.mq [76] true (.tup (.cons (.bin .Mult (.int 2) (.lW 0)) (.cons (.bin .Add (.bin .Mult (.int 2) (.lW 0)) (.int 1)) .nil))) (.seq (.assign 157 (.sub (.attr (.lW 33) 83) (.lW 76))) (.seq (.ite (.and (.cmp (.lW 157) .IsNot .none) (.cmp (.sub (.lW 157) (.int 1)) .Eq (.lW 61))) (.seq (.ret (.tup (.cons (.sub (.lW 157) (.int 2)) (.cons (.sub (.lW 157) (.int 3)) .nil)))) .skip) .skip) .skip))) (.seq (.raise 1 (.str [110,111,32,99,97,115,116,108,105,110,103,32,103,111,101,115,32,116,111,32,116,104,105,115,32,115,113,117,97,114,101])) .skip))
noncomputable def Ia:MS:=(.seq (.assign 45 (.attr (.attr (.lW 102) 33) 45)) (.seq (.ite (.and (.cmp (.bin .Sub (.lW 61) (.lW 11)) .NotEq (.bin .Mult (.int 2) (.lW 45))) (.cmp (.bin .Sub (.lW 11) (.lW 61)) .NotEq (.bin .Mult (.int 2) (.lW 45)))) (.seq (.ret (.un .USub (.int 1))) .skip) .skip) (.seq (.assign 181 (.bin .FloorDiv (.bin .Add (.lW 11) (.lW 61)) (.int 2))) (.seq (.assign 234 (.bin .BitAnd (.sub (.attr (.lW 102) 109) (.lX 100)) (.sub (.attr (.lW 102) 107) (.bin .Sub (.int 1) (.lW 0))))) (.seq (.ite (.cmp (.bin .BitAnd (.sub (.sub (.attr (.attr (.lW 102) 33) 65) (.lW 0)) (.lW 181)) (.lW 234)) .Eq (.int 0)) (.seq (.ret (.un .USub (.int 1))) .skip) .skip) (.seq (.ret (.lW 181)) .skip))))))
noncomputable def KA:MS:=(.seq (.assign 236 (.bin .BitOr (.sub (.attr (.attr (.lW 102) 33) 80) (.lW 11)) (.sub (.attr (.attr (.lW 102) 33) 80) (.lW 61)))) (.seq (.ret (.bin .Sub (.attr (.lW 102) 158) (.bin .BitAnd (.attr (.lW 102) 158) (.lW 236)))) .skip))
noncomputable def I7:MS:=(.seq (.ite (.cmp (.attr (.lW 102) 196) .GtE (.int 0)) (.seq (.mz (.lW 102) 104 .BitXor (.sub (.attr (.attr (.lW 102) 105) 196) (.bin .Mod (.attr (.lW 102) 196) (.attr (.attr (.lW 102) 33) 45)))) (.seq (.setAttr (.lW 102) 196 (.un .USub (.int 1))) .skip)) .skip) .skip)
noncomputable def L5:MS:=(.seq (.ite (.cmp (.lW 27) .GtE (.int 0)) (.seq (.mz (.lW 102) 104 .BitXor (.sub (.attr (.attr (.lW 102) 105) 196) (.bin .Mod (.lW 27) (.attr (.attr (.lW 102) 33) 45)))) .skip) .skip) (.seq (.setAttr (.lW 102) 196 (.lW 27)) .skip))
noncomputable def Hd:MS:=(.seq (.ite (.cmp (.lW 158) .NotEq (.attr (.lW 102) 158)) (.seq (.mz (.lW 102) 104 .BitXor (.bin .BitXor (.sub (.attr (.attr (.lW 102) 105) 158) (.attr (.lW 102) 158)) (.sub (.attr (.attr (.lW 102) 105) 158) (.lW 158)))) (.seq (.setAttr (.lW 102) 158 (.lW 158)) .skip)) .skip) .skip)
noncomputable def D4:MS:=(.seq (.assign 3 (.call 232 (.cons (.lW 102) (.cons (.lW 19) .nil)))) (.seq (.assign 0 (.attr (.lW 102) 0)) (.seq (.assign 11 (.call 20 (.cons (.lW 19) .nil))) (.seq (.assign 61 (.call 21 (.cons (.lW 19) .nil))) (.seq (.assign 13 (.call 22 (.cons (.lW 19) .nil))) (.seq (.assign 242 (.tup (.cons (.un .USub (.int 1)) (.cons (.un .USub (.int 1)) .nil)))) (.seq (.ite (.cmp (.lW 13) .Eq (.lX 162)) (.seq (.assign 242 (.call 233 (.cons (.attr (.lW 102) 33) (.cons (.lW 0) (.cons (.lW 61) .nil))))) .skip) .skip) (.seq (.assign 243 (.call 245 (.cons (.lW 102) (.cons (.lW 19) .nil)))) (.seq (.assign 205 (.sub (.attr (.lW 102) 110) (.lW 243))) (.seq (.expr (.my (.attr (.lW 102) 244) 0 (.cons (.tup (.cons (.lW 19) (.cons (.lW 205) (.cons (.attr (.lW 102) 158) (.cons (.attr (.lW 102) 196) (.cons (.attr (.lW 102) 241) (.cons (.attr (.lW 102) 104) .nil))))))) .nil))) (.seq (.expr (.call 238 (.cons (.lW 102) .nil))) (.seq (.mz (.lW 102) 241 .Add (.int 1)) (.seq (.ite (.cmp (.lW 205) .NotEq (.lX 9)) (.seq (.expr (.call 112 (.cons (.lW 102) (.cons (.lW 243) .nil)))) (.seq (.setAttr (.lW 102) 241 (.int 0)) .skip)) .skip) (.seq (.ite (.cmp (.lW 13) .Eq (.lX 16)) (.seq (.expr (.call 112 (.cons (.lW 102) (.cons (.lW 11) .nil)))) (.seq (.expr (.call 111 (.cons (.lW 102) (.cons (.call 2 (.cons (.lW 0) (.cons (.call 24 (.cons (.lW 19) .nil)) .nil))) (.cons (.lW 61) .nil))))) .skip)) (.seq (.expr (.call 115 (.cons (.lW 102) (.cons (.lW 11) (.cons (.lW 61) .nil))))) .skip)) (.seq (.ite (.cmp (.lW 13) .Eq (.lX 162)) (.seq (.expr (.call 115 (.cons (.lW 102) (.cons (.sub (.lW 242) (.int 0)) (.cons (.sub (.lW 242) (.int 1)) .nil))))) .skip) .skip) (.seq (.ite (.cmp (.call 5 (.cons (.lW 3) .nil)) .Eq (.lX 100)) (.seq (.setAttr (.lW 102) 241 (.int 0)) (.seq (.expr (.call 239 (.cons (.lW 102) (.cons (.call 235 (.cons (.lW 102) (.cons (.lW 0) (.cons (.lW 11) (.cons (.lW 61) .nil))))) .nil)))) .skip)) .skip) (.seq (.expr (.call 240 (.cons (.lW 102) (.cons (.call 237 (.cons (.lW 102) (.cons (.lW 11) (.cons (.lW 61) .nil)))) .nil)))) (.seq (.ite (.cmp (.lW 0) .Eq (.lX 117)) (.seq (.mz (.lW 102) 53 .Add (.int 1)) .skip) .skip) (.seq (.setAttr (.lW 102) 0 (.bin .Sub (.int 1) (.lW 0))) (.seq (.mz (.lW 102) 104 .BitXor (.attr (.attr (.lW 102) 105) 0)) .skip))))))))))))))))))))
noncomputable def EV:MS:=(.seq (.ite (.cmp (.blt 0 (.cons (.attr (.lW 102) 244) .nil)) .Eq (.int 0)) (.seq (.raise 1 (.str [110,111,32,109,111,118,101,32,116,111,32,116,97,107,101,32,98,97,99,107])) .skip) .skip) (.seq (.mo [19,205,158,196,241,104] (.my (.attr (.lW 102) 244) 1 .nil)) (.seq (.assign 0 (.bin .Sub (.int 1) (.attr (.lW 102) 0))) (.seq (.setAttr (.lW 102) 0 (.lW 0)) (.seq (.assign 11 (.call 20 (.cons (.lW 19) .nil))) (.seq (.assign 61 (.call 21 (.cons (.lW 19) .nil))) (.seq (.assign 13 (.call 22 (.cons (.lW 19) .nil))) (.seq (.ite (.cmp (.lW 13) .Eq (.lX 16)) (.seq (.expr (.call 112 (.cons (.lW 102) (.cons (.lW 61) .nil)))) (.seq (.expr (.call 111 (.cons (.lW 102) (.cons (.call 2 (.cons (.lW 0) (.cons (.lX 100) .nil))) (.cons (.lW 11) .nil))))) .skip)) (.seq (.expr (.call 115 (.cons (.lW 102) (.cons (.lW 61) (.cons (.lW 11) .nil))))) .skip)) (.seq (.ite (.cmp (.lW 13) .Eq (.lX 162)) (.seq (.assign 242 (.call 233 (.cons (.attr (.lW 102) 33) (.cons (.lW 0) (.cons (.lW 61) .nil))))) (.seq (.expr (.call 115 (.cons (.lW 102) (.cons (.sub (.lW 242) (.int 1)) (.cons (.sub (.lW 242) (.int 0)) .nil))))) .skip)) .skip) (.seq (.ite (.cmp (.lW 205) .NotEq (.lX 9)) (.seq (.expr (.call 111 (.cons (.lW 102) (.cons (.lW 205) (.cons (.call 245 (.cons (.lW 102) (.cons (.lW 19) .nil))) .nil))))) .skip) .skip) (.seq (.ite (.cmp (.lW 0) .Eq (.lX 117)) (.seq (.mz (.lW 102) 53 .Sub (.int 1)) .skip) .skip) (.seq (.setAttr (.lW 102) 158 (.lW 158)) (.seq (.setAttr (.lW 102) 196 (.lW 196)) (.seq (.setAttr (.lW 102) 241 (.lW 241)) (.seq (.setAttr (.lW 102) 104 (.lW 104)) .skip)))))))))))))))
noncomputable def WC:MS:=(.seq (.ret (.or (.cmp (.sub (.lW 110) (.call 21 (.cons (.lW 19) .nil))) .NotEq (.lX 9)) (.cmp (.call 22 (.cons (.lW 19) .nil)) .Eq (.lX 195)))) .skip)
noncomputable def Ku:MS:=(.seq (.ite (.cmp (.call 21 (.cons (.lW 19) .nil)) .Gt (.call 20 (.cons (.lW 19) .nil))) (.seq (.ret (.lX 250)) .skip) .skip) (.seq (.ret (.lX 249)) .skip))
noncomputable def LX:MS:=(.seq (.expr (.call 246 (.cons (.lW 102) (.cons (.lW 19) .nil)))) (.seq (.assign 252 (.str [])) (.seq (.ite (.call 135 (.cons (.lW 102) .nil)) (.seq (.assign 252 (.str [35])) (.seq (.ite (.call 218 (.cons (.lW 102) .nil)) (.seq (.assign 252 (.str [43])) .skip) .skip) .skip)) .skip) (.seq (.expr (.call 247 (.cons (.lW 102) .nil))) (.seq (.ret (.lW 252)) .skip)))))
noncomputable def D6:MS:=(.seq (.mq [1] true (.list (.cons (.lX 17) (.cons (.lX 97) (.cons (.lX 96) (.cons (.lX 95) (.cons (.lX 99) .nil)))))) (.seq (.ite (.and (.cmp (.call 10 (.cons (.lW 1) .nil)) .Eq (.lW 254)) (.cmp (.lW 254) .In (.lW 255))) (.seq (.ret (.lW 1)) .skip) .skip) .skip)) (.seq (.ret (.lX 23)) .skip))
noncomputable def Pd:MS:=(.seq (.ite (.or (.cmp (.slice (.lW 224) (.un .USub (.int 1)) .none) .Eq (.str [43])) (.cmp (.slice (.lW 224) (.un .USub (.int 1)) .none) .Eq (.str [35]))) (.seq (.ret (.tup (.cons (.slice (.lW 224) .none (.un .USub (.int 1))) (.cons (.slice (.lW 224) (.un .USub (.int 1)) .none) .nil)))) .skip) .skip) (.seq (.ret (.tup (.cons (.lW 224) (.cons (.str []) .nil)))) .skip))
noncomputable def Gq:MS:=(.seq (.assign 226 (.un .USub (.int 1))) (.seq (.assign 225 (.un .USub (.int 1))) (.seq (.ite (.and (.cmp (.slice (.lW 258) .none (.int 1)) .NotEq (.str [])) (.cmp (.sub (.lW 258) (.int 0)) .In (.str [97,98,99,100,101,102,103,104]))) (.seq (.assign 226 (.my (.str [97,98,99,100,101,102,103,104]) 2 (.cons (.sub (.lW 258) (.int 0)) .nil))) (.seq (.assign 258 (.slice (.lW 258) (.int 1) .none)) .skip)) .skip) (.seq (.ite (.and (.cmp (.slice (.lW 258) .none (.int 1)) .NotEq (.str [])) (.cmp (.sub (.lW 258) (.int 0)) .In (.str [49,50,51,52,53,54,55,56]))) (.seq (.assign 225 (.my (.str [49,50,51,52,53,54,55,56]) 2 (.cons (.sub (.lW 258) (.int 0)) .nil))) (.seq (.assign 258 (.slice (.lW 258) (.int 1) .none)) .skip)) .skip) (.seq (.ite (.cmp (.lW 258) .NotEq (.str [])) (.seq (.ret .none) .skip) .skip) (.seq (.ret (.tup (.cons (.lW 226) (.cons (.lW 225) .nil)))) .skip))))))
noncomputable def DI:MS:=(.seq (.assign 261 (.lW 224)) (.seq (.assign 1 (.call 256 (.cons (.slice (.lW 261) .none (.int 1)) (.cons (.str [78,66,82,81,75]) .nil)))) (.seq (.assign 14 (.lX 23)) (.seq (.ite (.cmp (.lW 1) .NotEq (.lX 23)) (.seq (.assign 261 (.slice (.lW 261) (.int 1) .none)) .skip) (.seq (.assign 1 (.lX 100)) (.seq (.assign 14 (.call 256 (.cons (.slice (.lW 261) (.un .USub (.int 1)) .none) (.cons (.str [78,66,82,81]) .nil)))) (.seq (.ite (.cmp (.lW 14) .NotEq (.lX 23)) (.seq (.assign 261 (.slice (.lW 261) .none (.un .USub (.int 1)))) (.seq (.ite (.cmp (.slice (.lW 261) (.un .USub (.int 1)) .none) .Eq (.str [61])) (.seq (.assign 261 (.slice (.lW 261) .none (.un .USub (.int 1)))) .skip) .skip) .skip)) .skip) .skip)))) (.seq (.assign 61 (.call 227 (.cons (.lW 45) (.cons (.lW 49) (.cons (.slice (.lW 261) (.un .USub (.int 2)) .none) .nil))))) (.seq (.ite (.cmp (.lW 61) .Lt (.int 0)) (.seq (.raise 2 (.lW 224)) .skip) .skip) (.seq (.assign 258 (.slice (.lW 261) .none (.un .USub (.int 2)))) (.seq (.assign 260 (.cmp (.slice (.lW 258) (.un .USub (.int 1)) .none) .Eq (.str [120]))) (.seq (.ite (.lW 260) (.seq (.assign 258 (.slice (.lW 258) .none (.un .USub (.int 1)))) .skip) .skip) (.seq (.assign 11 (.call 259 (.cons (.lW 258) .nil))) (.seq (.ite (.cmp (.lW 11) .Is .none) (.seq (.raise 2 (.lW 224)) .skip) .skip) (.seq (.ite (.and (.cmp (.lW 1) .Eq (.lX 100)) (.and (.lW 260) (.cmp (.sub (.lW 11) (.int 0)) .Lt (.int 0)))) (.seq (.raise 2 (.lW 224)) .skip) .skip) (.seq (.ret (.tup (.cons (.lW 1) (.cons (.sub (.lW 11) (.int 0)) (.cons (.sub (.lW 11) (.int 1)) (.cons (.lW 260) (.cons (.lW 61) (.cons (.lW 14) .nil)))))))) .skip)))))))))))))
noncomputable def TH:MS:=(.seq (.mo [1,226,225,260,61,14] (.lW 263)) (.seq (.assign 11 (.call 20 (.cons (.lW 19) .nil))) (.seq (.ite (.or (.cmp (.call 22 (.cons (.lW 19) .nil)) .Eq (.lX 162)) (.or (.cmp (.call 21 (.cons (.lW 19) .nil)) .NotEq (.lW 61)) (.cmp (.call 24 (.cons (.lW 19) .nil)) .NotEq (.lW 14)))) (.seq (.ret (.bool false)) .skip) .skip) (.seq (.ite (.or (.cmp (.call 5 (.cons (.sub (.lW 110) (.lW 11)) .nil)) .NotEq (.lW 1)) (.cmp (.call 248 (.cons (.lW 110) (.cons (.lW 19) .nil))) .NotEq (.lW 260))) (.seq (.ret (.bool false)) .skip) .skip) (.seq (.ite (.and (.cmp (.lW 226) .GtE (.int 0)) (.cmp (.call 219 (.cons (.lW 45) (.cons (.lW 11) .nil))) .NotEq (.lW 226))) (.seq (.ret (.bool false)) .skip) .skip) (.seq (.ret (.or (.cmp (.lW 225) .Lt (.int 0)) (.cmp (.call 220 (.cons (.lW 45) (.cons (.lW 11) .nil))) .Eq (.lW 225)))) .skip))))))
noncomputable def FX:MS:=(.seq (.assign 31 (.list .nil)) (.seq (.ite (.or (.cmp (.lW 261) .Eq (.lX 250)) (.cmp (.lW 261) .Eq (.lX 249))) (.seq (.mq [19] true (.lW 214) (.seq (.ite (.and (.cmp (.call 22 (.cons (.lW 19) .nil)) .Eq (.lX 162)) (.cmp (.call 251 (.cons (.lW 19) .nil)) .Eq (.lW 261))) (.seq (.expr (.my (.lW 31) 0 (.cons (.lW 19) .nil))) .skip) .skip) .skip)) (.seq (.ret (.lW 31)) .skip)) .skip) (.seq (.assign 263 (.call 262 (.cons (.lW 261) (.cons (.lW 45) (.cons (.lW 49) .nil))))) (.seq (.mq [19] true (.lW 214) (.seq (.ite (.call 264 (.cons (.lW 45) (.cons (.lW 110) (.cons (.lW 19) (.cons (.lW 263) .nil))))) (.seq (.expr (.my (.lW 31) 0 (.cons (.lW 19) .nil))) .skip) .skip) .skip)) (.seq (.ret (.lW 31)) .skip)))))
noncomputable def Pk:MS:=(.seq (.mo [261,252] (.call 257 (.cons (.lW 224) .nil))) (.seq (.assign 68 (.call 265 (.cons (.lW 45) (.cons (.lW 49) (.cons (.lW 110) (.cons (.lW 214) (.cons (.lW 261) .nil))))))) (.seq (.ite (.cmp (.lW 68) .Eq (.list .nil)) (.seq (.raise 2 (.lW 224)) .skip) .skip) (.seq (.ite (.cmp (.blt 0 (.cons (.lW 68) .nil)) .Gt (.int 1)) (.seq (.raise 3 (.lW 224)) .skip) .skip) (.seq (.ret (.tup (.cons (.sub (.lW 68) (.int 0)) (.cons (.lW 252) .nil)))) .skip)))))
noncomputable def NH:MS:=(.seq (.mo [19,252] (.call 266 (.cons (.attr (.attr (.lW 102) 33) 45) (.cons (.attr (.attr (.lW 102) 33) 49) (.cons (.attr (.lW 102) 110) (.cons (.call 216 (.cons (.lW 102) .nil)) (.cons (.lW 224) .nil))))))) (.seq (.ite (.and (.cmp (.lW 252) .NotEq (.str [])) (.cmp (.call 253 (.cons (.lW 102) (.cons (.lW 19) .nil))) .NotEq (.lW 252))) (.seq (.raise 2 (.lW 224)) .skip) .skip) (.seq (.ret (.lW 19)) .skip)))
noncomputable def Hb:MS:=(.seq (.ite (.cmp (.call 22 (.cons (.lW 19) .nil)) .Eq (.lX 162)) (.seq (.ret (.call 251 (.cons (.lW 19) .nil))) .skip) .skip) (.seq (.assign 1 (.call 5 (.cons (.sub (.lW 110) (.call 20 (.cons (.lW 19) .nil))) .nil))) (.seq (.assign 224 (.call 223 (.cons (.lW 45) (.cons (.call 20 (.cons (.lW 19) .nil)) .nil)))) (.seq (.ite (.cmp (.lW 1) .NotEq (.lX 100)) (.seq (.assign 224 (.bin .Add (.call 10 (.cons (.lW 1) .nil)) (.lW 224))) .skip) .skip) (.seq (.ite (.call 248 (.cons (.lW 110) (.cons (.lW 19) .nil))) (.seq (.assign 224 (.bin .Add (.lW 224) (.str [120]))) .skip) (.seq (.assign 224 (.bin .Add (.lW 224) (.str [45]))) .skip)) (.seq (.assign 224 (.bin .Add (.lW 224) (.call 223 (.cons (.lW 45) (.cons (.call 21 (.cons (.lW 19) .nil)) .nil))))) (.seq (.ite (.cmp (.call 24 (.cons (.lW 19) .nil)) .NotEq (.lX 23)) (.seq (.assign 224 (.bin .Add (.bin .Add (.lW 224) (.str [61])) (.call 10 (.cons (.call 24 (.cons (.lW 19) .nil)) .nil)))) .skip) .skip) (.seq (.ret (.lW 224)) .skip))))))))
noncomputable def HP:MS:=(.seq (.mo [261,252] (.call 257 (.cons (.lW 224) .nil))) (.seq (.mq [19] true (.lW 214) (.seq (.ite (.cmp (.call 268 (.cons (.lW 45) (.cons (.lW 110) (.cons (.lW 19) .nil)))) .Eq (.lW 261)) (.seq (.ret (.tup (.cons (.lW 19) (.cons (.lW 252) .nil)))) .skip) .skip) .skip)) (.seq (.raise 1 (.lW 224)) .skip)))
noncomputable def L3:MS:=(.seq (.mo [19,252] (.call 269 (.cons (.attr (.attr (.lW 102) 33) 45) (.cons (.attr (.lW 102) 110) (.cons (.call 216 (.cons (.lW 102) .nil)) (.cons (.lW 224) .nil)))))) (.seq (.ite (.and (.cmp (.lW 252) .NotEq (.str [])) (.cmp (.call 253 (.cons (.lW 102) (.cons (.lW 19) .nil))) .NotEq (.lW 252))) (.seq (.raise 1 (.lW 224)) .skip) .skip) (.seq (.ret (.lW 19)) .skip)))
noncomputable def DH:MS:=(.seq (.ite (.and (.cmp (.blt 0 (.cons (.lW 224) .nil)) .NotEq (.int 4)) (.cmp (.blt 0 (.cons (.lW 224) .nil)) .NotEq (.int 5))) (.seq (.raise 1 (.lW 224)) .skip) .skip) (.seq (.assign 271 (.list .nil)) (.seq (.mq [252] true (.lW 224) (.seq (.expr (.my (.lW 271) 0 (.cons (.my (.str [49,50,51,52,53,54,55,56]) 2 (.cons (.lW 252) .nil)) .nil))) .skip)) (.seq (.mq [272] true (.list (.cons (.int 0) (.cons (.int 2) .nil))) (.seq (.ite (.or (.un .Not (.oz (.int 0) .LtE (.sub (.lW 271) (.lW 272)) .Lt (.lW 45))) (.un .Not (.oz (.int 0) .LtE (.sub (.lW 271) (.bin .Add (.lW 272) (.int 1))) .Lt (.lW 49)))) (.seq (.raise 1 (.lW 224)) .skip) .skip) .skip)) (.seq (.assign 14 (.lX 23)) (.seq (.ite (.cmp (.blt 0 (.cons (.lW 224) .nil)) .Eq (.int 5)) (.seq (.ite (.un .Not (.oz (.int 0) .LtE (.sub (.lW 271) (.int 4)) .Lt (.int 4))) (.seq (.raise 1 (.lW 224)) .skip) .skip) (.seq (.assign 14 (.bin .Sub (.lX 95) (.sub (.lW 271) (.int 4)))) .skip)) .skip) (.seq (.ret (.tup (.cons (.bin .Add (.bin .Mult (.sub (.lW 271) (.int 1)) (.lW 45)) (.sub (.lW 271) (.int 0))) (.cons (.bin .Add (.bin .Mult (.sub (.lW 271) (.int 3)) (.lW 45)) (.sub (.lW 271) (.int 2))) (.cons (.lW 14) .nil))))) .skip)))))))
noncomputable def NI:MS:=(.seq (.mo [11,61,14] (.call 273 (.cons (.lW 45) (.cons (.lW 49) (.cons (.lW 224) .nil))))) (.seq (.mq [19] true (.lW 214) (.seq (.ite (.and (.cmp (.call 20 (.cons (.lW 19) .nil)) .Eq (.lW 11)) (.and (.cmp (.call 21 (.cons (.lW 19) .nil)) .Eq (.lW 61)) (.cmp (.call 24 (.cons (.lW 19) .nil)) .Eq (.lW 14)))) (.seq (.ret (.lW 19)) .skip) .skip) .skip)) (.seq (.raise 1 (.lW 224)) .skip)))
noncomputable def L2:MS:=(.seq (.ret (.call 274 (.cons (.attr (.attr (.lW 102) 33) 45) (.cons (.attr (.attr (.lW 102) 33) 49) (.cons (.call 216 (.cons (.lW 102) .nil)) (.cons (.lW 224) .nil)))))) .skip)
noncomputable def EU:MS:=(.seq (.nh (.call 231 (.cons (.lW 102) (.cons (.lW 224) .nil))) 1 (.seq .skip .skip)) (.seq (.nh (.call 267 (.cons (.lW 102) (.cons (.lW 224) .nil))) 2 (.seq .skip .skip)) (.seq (.nh (.call 270 (.cons (.lW 102) (.cons (.lW 224) .nil))) 1 (.seq (.ret (.call 275 (.cons (.lW 102) (.cons (.lW 224) .nil)))) .skip)) .skip)))
noncomputable def KC:MS:=(.seq (.ret (.dict (.cons (.cons (.lX 99) (.str [75])) (.cons (.cons (.lX 95) (.str [81])) (.cons (.cons (.lX 96) (.str [82])) (.cons (.cons (.lX 97) (.str [66])) (.cons (.cons (.lX 17) (.str [78])) (.cons (.cons (.lX 100) (.str [])) .nil)))))))) .skip)
noncomputable def Ph:MS:=(.seq (.mL (.lW 278) (.int 1) .Add (.int 1)) (.seq (.ite (.cmp (.sub (.lW 278) (.int 1)) .LtE (.blt 0 (.cons (.sub (.lW 278) (.int 0)) .nil))) (.seq (.ret (.bin .Mod (.sub (.sub (.lW 278) (.int 0)) (.bin .Sub (.sub (.lW 278) (.int 1)) (.int 1))) (.lW 279))) .skip) .skip) (.seq (.ret (.bin .Mod (.bin .Add (.bin .Add (.bin .Mult (.sub (.lW 278) (.int 1)) (.sub (.lW 278) (.int 1))) (.bin .Mult (.int 6) (.sub (.lW 278) (.int 1)))) (.int 4)) (.lW 279))) .skip)))
noncomputable def Av:MS:=(.seq (.assign 49 (.bin .Add (.int 4) (.call 280 (.cons (.lW 278) (.cons (.int 2) .nil))))) (.seq (.assign 63 (.bin .Mult (.int 4) (.lW 49))) (.seq (.assign 287 (.comp (.comp (.bin .Add (.bin .Add (.bin .Mult (.lW 288) (.int 64)) (.lW 282)) (.int 1)) [282] true (.blt 4 (.cons (.lW 63) .nil)) (.bool true)) [288] true (.blt 4 (.cons (.int 15) .nil)) (.bool true))) (.seq (.assign 102 (.call 285 (.cons (.call 87 (.cons (.int 4) (.cons (.lW 49) (.cons (.bool false) (.cons (.bool false) .nil))))) (.cons (.call 286 (.cons (.lW 287) (.cons (.bin .Mult (.list (.cons (.int 0) .nil)) (.int 4)) (.cons (.bin .Mult (.list (.cons (.int 0) .nil)) (.int 16)) (.cons (.int 3) .nil))))) .nil)))) (.seq (.setAttr (.lW 102) 0 (.call 280 (.cons (.lW 278) (.cons (.int 2) .nil)))) (.seq (.assign 284 (.call 280 (.cons (.lW 278) (.cons (.lW 63) .nil)))) (.seq (.assign 283 (.comp (.lW 282) [282] true (.blt 4 (.cons (.lW 63) .nil)) (.cmp (.blt 2 (.cons (.blt 1 (.cons (.bin .Sub (.bin .Mod (.lW 282) (.int 4)) (.bin .Mod (.lW 284) (.int 4))) .nil)) (.cons (.blt 1 (.cons (.bin .Sub (.bin .FloorDiv (.lW 282) (.int 4)) (.bin .FloorDiv (.lW 284) (.int 4))) .nil)) .nil))) .Gt (.int 1)))) (.seq (.expr (.call 111 (.cons (.lW 102) (.cons (.call 2 (.cons (.attr (.lW 102) 0) (.cons (.lX 99) .nil))) (.cons (.lW 284) .nil))))) (.seq (.expr (.call 111 (.cons (.lW 102) (.cons (.call 2 (.cons (.bin .Sub (.int 1) (.attr (.lW 102) 0)) (.cons (.lX 99) .nil))) (.cons (.sub (.lW 283) (.call 280 (.cons (.lW 278) (.cons (.blt 0 (.cons (.lW 283) .nil)) .nil)))) .nil))))) (.seq (.mq [281] true (.blt 4 (.cons (.call 280 (.cons (.lW 278) (.cons (.int 3) .nil))) .nil)) (.seq (.assign 1 (.sub (.list (.cons (.lX 96) (.cons (.lX 97) (.cons (.lX 17) (.cons (.lX 100) (.cons (.lX 100) .nil)))))) (.call 280 (.cons (.lW 278) (.cons (.int 5) .nil))))) (.seq (.assign 0 (.ite (.cmp (.call 280 (.cons (.lW 278) (.cons (.int 3) .nil))) .Gt (.int 0)) (.attr (.lW 102) 0) (.bin .Sub (.int 1) (.attr (.lW 102) 0)))) (.seq (.assign 282 (.call 280 (.cons (.lW 278) (.cons (.lW 63) .nil)))) (.seq (.ite (.or (.cmp (.sub (.attr (.lW 102) 110) (.lW 282)) .NotEq (.lX 9)) (.and (.cmp (.lW 1) .Eq (.lX 100)) (.cmp (.bin .FloorDiv (.lW 282) (.int 4)) .In (.tup (.cons (.int 0) (.cons (.bin .Sub (.lW 49) (.int 1)) .nil)))))) (.seq .cont .skip) .skip) (.seq (.expr (.call 111 (.cons (.lW 102) (.cons (.call 2 (.cons (.lW 0) (.cons (.lW 1) .nil))) (.cons (.lW 282) .nil))))) (.seq (.ite (.call 134 (.cons (.lW 102) (.cons (.bin .Sub (.int 1) (.attr (.lW 102) 0)) .nil))) (.seq (.expr (.call 112 (.cons (.lW 102) (.cons (.lW 282) .nil)))) .skip) .skip) .skip))))))) (.seq (.ret (.lW 102)) .skip)))))))))))
noncomputable def LZ:MS:=(.seq (.ret (.bin .Add (.sub (.str [97,98,99,100]) (.bin .Mod (.lW 282) (.int 4))) (.sub (.str [49,50,51,52,53]) (.bin .FloorDiv (.lW 282) (.int 4))))) .skip)
noncomputable def Pi:MS:=(.seq (.expr (.call 246 (.cons (.lW 102) (.cons (.lW 19) .nil)))) (.seq (.assign 291 (.ite (.un .Not (.call 135 (.cons (.lW 102) .nil))) (.str []) (.ite (.cmp (.call 216 (.cons (.lW 102) .nil)) .NotEq (.list .nil)) (.str [43]) (.str [35])))) (.seq (.expr (.call 247 (.cons (.lW 102) .nil))) (.seq (.ret (.lW 291)) .skip))))
noncomputable def AY:MS:=(.seq (.mo [82,61,14] (.tup (.cons (.call 20 (.cons (.lW 19) .nil)) (.cons (.call 21 (.cons (.lW 19) .nil)) (.cons (.call 24 (.cons (.lW 19) .nil)) .nil))))) (.seq (.assign 1 (.call 5 (.cons (.sub (.attr (.lW 102) 110) (.lW 82)) .nil))) (.seq (.assign 260 (.ite (.cmp (.sub (.attr (.lW 102) 110) (.lW 61)) .NotEq (.lX 9)) (.str [120]) (.str []))) (.seq (.assign 297 (.call 290 (.cons (.lW 82) .nil))) (.seq (.assign 299 (.ite (.cmp (.lW 14) .NotEq (.lX 23)) (.list (.cons (.bin .Add (.str [61]) (.sub (.call 277 .nil) (.lW 14))) (.cons (.sub (.call 277 .nil) (.lW 14)) .nil))) (.list (.cons (.str []) .nil)))) (.seq (.assign 194 (.list (.cons (.str []) (.cons (.sub (.lW 297) (.int 0)) (.cons (.sub (.lW 297) (.int 1)) (.cons (.lW 297) .nil)))))) (.seq (.ite (.and (.cmp (.lW 1) .Eq (.lX 100)) (.cmp (.lW 260) .Eq (.str [120]))) (.seq (.assign 194 (.list (.cons (.sub (.lW 297) (.int 0)) (.cons (.lW 297) .nil)))) .skip) .skip) (.seq (.assign 295 (.nT (.bin .Add (.bin .Add (.bin .Add (.bin .Add (.sub (.call 277 .nil) (.lW 1)) (.lW 11)) (.lW 260)) (.call 290 (.cons (.lW 61) .nil))) (.lW 300)) 11 (.lW 194) 300 (.lW 299))) (.seq (.assign 296 (.bin .Add (.bin .Add (.lW 297) (.call 290 (.cons (.lW 61) .nil))) (.ite (.cmp (.lW 14) .Eq (.lX 23)) (.str []) (.my (.sub (.call 277 .nil) (.lW 14)) 3 .nil)))) (.seq (.assign 294 (.bin .Add (.bin .Add (.bin .Add (.bin .Add (.sub (.call 277 .nil) (.lW 1)) (.lW 297)) (.ite (.cmp (.lW 260) .NotEq (.str [])) (.lW 260) (.str [45]))) (.call 290 (.cons (.lW 61) .nil))) (.sub (.lW 299) (.int 0)))) (.seq (.assign 293 (.my (.str []) 4 (.cons (.comp (.bin .Add (.blt 3 (.cons (.bin .Add (.my (.str [97,98,99,100]) 2 (.cons (.sub (.lW 298) (.int 0)) .nil)) (.int 1)) .nil)) (.sub (.lW 298) (.int 1))) [298] true (.tup (.cons (.lW 297) (.cons (.call 290 (.cons (.lW 61) .nil)) .nil))) (.bool true)) .nil))) (.seq (.ite (.cmp (.lW 14) .NotEq (.lX 23)) (.seq (.aug 293 .Add (.sub (.dict (.cons (.cons (.lX 95) (.str [49])) (.cons (.cons (.lX 96) (.str [50])) (.cons (.cons (.lX 97) (.str [51])) (.cons (.cons (.lX 17) (.str [52])) .nil))))) (.lW 14))) .skip) .skip) (.seq (.ret (.tup (.cons (.lW 296) (.cons (.lW 295) (.cons (.lW 294) (.cons (.lW 293) (.cons (.call 292 (.cons (.lW 102) (.cons (.lW 19) .nil))) .nil))))))) .skip)))))))))))))
noncomputable def B9:MS:=(.seq (.mo [261,291] (.ite (.cmp (.slice (.lW 224) (.un .USub (.int 1)) .none) .In (.tup (.cons (.str [43]) (.cons (.str [35]) .nil)))) (.tup (.cons (.slice (.lW 224) .none (.un .USub (.int 1))) (.cons (.sub (.lW 224) (.un .USub (.int 1))) .nil))) (.tup (.cons (.lW 224) (.cons (.str []) .nil))))) (.seq (.mq [19,303] false (.lW 302) (.seq (.ite (.or (.cmp (.sub (.lW 303) (.int 0)) .Eq (.lW 224)) (.cmp (.sub (.lW 303) (.int 3)) .Eq (.lW 224))) (.seq (.ret (.lW 19)) .skip) .skip) .skip)) (.seq (.assign 304 (.comp (.tup (.cons (.lW 19) (.cons (.lW 303) .nil))) [19,303] false (.lW 302) (.cmp (.lW 261) .In (.sub (.lW 303) (.int 1))))) (.seq (.ite (.and (.cmp (.blt 0 (.cons (.lW 304) .nil)) .Eq (.int 1)) (.cmp (.lW 291) .In (.tup (.cons (.str []) (.cons (.sub (.sub (.sub (.lW 304) (.int 0)) (.int 1)) (.int 4)) .nil))))) (.seq (.ret (.sub (.sub (.lW 304) (.int 0)) (.int 0))) .skip) .skip) (.seq (.mq [19,303] false (.lW 302) (.seq (.ite (.and (.cmp (.sub (.lW 303) (.int 2)) .Eq (.lW 261)) (.cmp (.lW 291) .In (.tup (.cons (.str []) (.cons (.sub (.lW 303) (.int 4)) .nil))))) (.seq (.ret (.lW 19)) .skip) .skip) .skip)) (.seq (.ret .none) .skip))))))
noncomputable def NC:MS:=(.seq (.nh (.call 276 (.cons (.lW 102) (.cons (.lW 224) .nil))) 1 (.seq (.ret .none) .skip)) .skip)
noncomputable def Dn:MS:=(.seq (.assign 278 (.list (.cons (.slice (.lW 307) .none (.int 40)) (.cons (.int 0) .nil)))) (.seq (.assign 102 (.call 289 (.cons (.lW 278) .nil))) (.seq (.assign 302 (.comp (.tup (.cons (.lW 19) (.cons (.call 301 (.cons (.lW 102) (.cons (.lW 19) .nil))) .nil))) [19] true (.call 216 (.cons (.lW 102) .nil)) (.bool true))) (.seq (.assign 309 (.list (.cons (.my (.str []) 4 (.cons (.comp (.sub (.lX 310) (.call 280 (.cons (.lW 278) (.cons (.blt 0 (.cons (.lX 310) .nil)) .nil)))) [281] true (.blt 4 (.cons (.call 280 (.cons (.lW 278) (.cons (.int 7) .nil))) .nil)) (.bool true)) .nil)) .nil))) (.seq (.ite (.cmp (.lW 302) .NotEq (.list .nil)) (.seq (.assign 311 (.call 280 (.cons (.lW 278) (.cons (.int 6) .nil)))) (.seq (.assign 303 (.sub (.sub (.lW 302) (.call 280 (.cons (.lW 278) (.cons (.blt 0 (.cons (.lW 302) .nil)) .nil)))) (.int 1))) (.seq (.assign 224 (.sub (.list (.cons (.sub (.lW 303) (.int 0)) (.cons (.sub (.sub (.lW 303) (.int 1)) (.call 280 (.cons (.lW 278) (.cons (.blt 0 (.cons (.sub (.lW 303) (.int 1)) .nil)) .nil)))) (.cons (.sub (.lW 303) (.int 2)) (.cons (.sub (.lW 303) (.int 3)) (.cons (.bin .Add (.sub (.lW 303) (.int 2)) (.sub (.lW 303) (.int 4))) (.cons (.bin .Add (.sub (.sub (.lW 303) (.int 1)) (.int 0)) (.str [43])) .nil))))))) (.lW 311))) (.seq (.assign 282 (.call 280 (.cons (.lW 278) (.cons (.bin .Add (.blt 0 (.cons (.lW 224) .nil)) (.int 1)) .nil)))) (.seq (.assign 252 (.sub (.lX 310) (.call 280 (.cons (.lW 278) (.cons (.blt 0 (.cons (.lX 310) .nil)) .nil))))) (.seq (.aug 309 .Add (.list (.cons (.lW 224) (.cons (.bin .Add (.bin .Add (.slice (.lW 224) .none (.lW 282)) (.sub (.list (.cons (.str []) (.cons (.lW 252) .nil))) (.call 280 (.cons (.lW 278) (.cons (.int 2) .nil))))) (.slice (.lW 224) (.bin .Add (.lW 282) (.int 1)) .none)) .nil)))) .skip)))))) .skip) (.seq (.assign 308 (.tup (.cons (.slice (.attr (.lW 102) 110) .none .none) (.cons (.attr (.lW 102) 0) (.cons (.attr (.lW 102) 104) (.cons (.attr (.lW 102) 241) (.cons (.attr (.lW 102) 53) .nil))))))) (.seq (.mq [224] true (.lW 309) (.seq (.ite (.cmp (.call 306 (.cons (.lW 102) (.cons (.lW 224) .nil))) .NotEq (.call 305 (.cons (.lW 302) (.cons (.lW 224) .nil)))) (.seq (.ret (.bool false)) .skip) .skip) .skip)) (.seq (.ret (.and (.cmp (.tup (.cons (.attr (.lW 102) 110) (.cons (.attr (.lW 102) 0) (.cons (.attr (.lW 102) 104) (.cons (.attr (.lW 102) 241) (.cons (.attr (.lW 102) 53) .nil)))))) .Eq (.lW 308)) (.cmp (.attr (.lW 102) 244) .Eq (.list .nil)))) .skip))))))))
noncomputable def D8:MS:=(.seq (.assign 61 (.call 21 (.cons (.lW 19) .nil))) (.seq (.ite (.cmp (.call 22 (.cons (.lW 19) .nil)) .NotEq (.lX 195)) (.seq (.ret (.lW 61)) .skip) .skip) (.seq (.ite (.cmp (.attr (.lW 102) 0) .Eq (.lX 116)) (.seq (.ret (.bin .Sub (.lW 61) (.attr (.attr (.lW 102) 33) 45))) .skip) .skip) (.seq (.ret (.bin .Add (.lW 61) (.attr (.attr (.lW 102) 33) 45))) .skip))))
noncomputable def D9:MS:=(.seq (.assign 61 (.call 21 (.cons (.lW 19) .nil))) (.seq (.ite (.cmp (.call 22 (.cons (.lW 19) .nil)) .NotEq (.lX 195)) (.seq (.ret (.lW 61)) .skip) .skip) (.seq (.ite (.cmp (.attr (.lW 102) 0) .Eq (.lX 116)) (.seq (.ret (.bin .Sub (.lW 61) (.attr (.attr (.lW 102) 33) 45))) .skip) .skip) (.seq (.ret (.bin .Add (.lW 61) (.attr (.attr (.lW 102) 33) 45))) .skip))))
noncomputable def O9:MS:=(.seq (.setAttr (.lW 313) 45 (.lW 45)) (.seq (.setAttr (.lW 313) 49 (.lW 49)) (.seq (.setAttr (.lW 313) 63 (.bin .Mult (.lW 45) (.lW 49))) (.seq (.setAttr (.lW 313) 53 (.bin .Sub (.bin .LShift (.int 1) (.bin .Mult (.lW 45) (.lW 49))) (.int 1))) (.seq (.setAttr (.lW 313) 85 (.and (.lW 85) (.cmp (.lW 49) .GtE (.int 5)))) (.seq (.setAttr (.lW 313) 79 (.lW 79)) (.seq (.setAttr (.lW 313) 46 (.list .nil)) (.seq (.setAttr (.lW 313) 50 (.list .nil)) (.seq (.setAttr (.lW 313) 36 (.list .nil)) (.seq (.setAttr (.lW 313) 60 (.list .nil)) (.seq (.setAttr (.lW 313) 67 (.list .nil)) (.seq (.setAttr (.lW 313) 65 (.list (.cons (.list .nil) (.cons (.list .nil) .nil)))) (.seq (.setAttr (.lW 313) 83 (.list .nil)) (.seq (.setAttr (.lW 313) 80 (.list .nil)) .skip))))))))))))))
noncomputable def Pa:MS:=(.seq (.setAttr (.lW 313) 33 (.lW 33)) (.seq (.setAttr (.lW 313) 105 (.lW 105)) (.seq (.setAttr (.lW 313) 110 (.bin .Mult (.list (.cons (.lX 9) .nil)) (.attr (.lW 33) 63))) (.seq (.setAttr (.lW 313) 109 (.bin .Mult (.list (.cons (.int 0) .nil)) (.int 7))) (.seq (.setAttr (.lW 313) 107 (.list (.cons (.int 0) (.cons (.int 0) .nil)))) (.seq (.setAttr (.lW 313) 0 (.lX 116)) (.seq (.setAttr (.lW 313) 158 (.int 0)) (.seq (.setAttr (.lW 313) 196 (.un .USub (.int 1))) (.seq (.setAttr (.lW 313) 241 (.int 0)) (.seq (.setAttr (.lW 313) 53 (.int 1)) (.seq (.setAttr (.lW 313) 104 (.int 0)) (.seq (.setAttr (.lW 313) 244 (.list .nil)) .skip))))))))))))
noncomputable def R7:MS:=(.seq (.setAttr (.lW 313) 106 (.lW 106)) (.seq (.setAttr (.lW 313) 196 (.lW 196)) (.seq (.setAttr (.lW 313) 158 (.lW 158)) (.seq (.setAttr (.lW 313) 0 (.lW 0)) .skip))))
noncomputable def Bg:List (List Nat):=[
 [115,105,100,101],
 [107,105,110,100],
 [109,97,107,101,95,112,105,101,99,101],
 [112,105,101,99,101],
 [115,105,100,101,95,111,102],
 [107,105,110,100,95,111,102],
 [110,117,109,98,101,114],
 [105,115,95,112,105,101,99,101],
 [76,69,84,84,69,82,83],
 [69,77,80,84,89],
 [108,101,116,116,101,114,95,111,102],
 [111,114,105,103,105,110],
 [116,111],
 [115,112,101,99,105,97,108],
 [112,114,111,109,111],
 [102,105,101,108,100],
 [80,82,79,77,79,84,73,79,78],
 [75,78,73,71,72,84],
 [112,97,99,107,95,109,111,118,101],
 [109,111,118,101],
 [109,111,118,101,95,102,114,111,109],
 [109,111,118,101,95,116,111],
 [109,111,118,101,95,115,112,101,99,105,97,108],
 [78,79,95,75,73,78,68],
 [109,111,118,101,95,112,114,111,109,111],
 [98],
 [109,111,114,101,95,116,104,97,110,95,111,110,101],
 [115,113,117,97,114,101],
 [119,105,100,116,104],
 [104,105,103,104,101,115,116],
 [108,111,119,101,115,116],
 [111,117,116],
 [115,113,117,97,114,101,115,95,111,102],
 [103,101,111],
 [97],
 [100],
 [114,97,121,115],
 [100,105,114,101,99,116,105,111,110],
 [98,101,116,119,101,101,110],
 [108,105,110,101],
 [99],
 [97,108,105,103,110,101,100],
 [83,84,69,80,95,82,65,78,75,83],
 [105,115,95,103,114,111,119,105,110,103],
 [102],
 [102,105,108,101,115],
 [102,105,108,101,95,109,97,115,107,115],
 [99,111,108,117,109,110],
 [114],
 [114,97,110,107,115],
 [114,97,110,107,95,109,97,115,107,115],
 [114,111,119],
 [97,100,100,95,109,97,115,107,115],
 [102,117,108,108],
 [101,100,103,101],
 [83,84,69,80,95,70,73,76,69,83],
 [105,110,110,101,114,95,115,113,117,97,114,101,115],
 [114,97,121],
 [111,114,100,101,114],
 [105,110,110,101,114],
 [107,105,110,103],
 [103,111,97,108],
 [100,101,108,116,97],
 [115,105,122,101],
 [97,100,100,95,114,97,121,115],
 [112,97,119,110],
 [97,100,100,95,112,97,119,110,115],
 [107,110,105,103,104,116],
 [102,111,117,110,100],
 [110,101,97,114],
 [102,97,114],
 [110,111,116,95,102,105,114,115,116,95,116,119,111],
 [110,111,116,95,108,97,115,116,95,116,119,111],
 [110,111,116,95,102,105,114,115,116],
 [110,111,116,95,108,97,115,116],
 [97,100,100,95,107,110,105,103,104,116,115],
 [105,110,100,101,120],
 [99,111,114,110,101,114],
 [119,97,121],
 [104,97,115,95,99,97,115,116,108,105,110,103],
 [114,105,103,104,116,115,95,108,111,115,116],
 [98,97,115,101],
 [115,116,97,114,116],
 [99,97,115,116,108,101,115],
 [97,100,100,95,99,97,115,116,108,101,115],
 [104,97,115,95,100,111,117,98,108,101],
 [71,101,111,109,101,116,114,121],
 [109,97,107,101,95,103,101,111,109,101,116,114,121],
 [111,99,99,117,112,105,101,100],
 [98,101,104,105,110,100],
 [115,116,111,112],
 [114,97,121,95,97,116,116,97,99,107,115],
 [114,111,111,107,95,97,116,116,97,99,107,115],
 [98,105,115,104,111,112,95,97,116,116,97,99,107,115],
 [113,117,101,101,110,95,97,116,116,97,99,107,115],
 [81,85,69,69,78],
 [82,79,79,75],
 [66,73,83,72,79,80],
 [115,108,105,100,101,114,95,97,116,116,97,99,107,115],
 [75,73,78,71],
 [80,65,87,78],
 [112,105,101,99,101,95,97,116,116,97,99,107,115],
 [112,111,115],
 [115],
 [107,101,121],
 [122,111,98],
 [112,105,101,99,101,115],
 [115,105,100,101,115],
 [98,105,116],
 [107,105,110,100,115],
 [98,111,97,114,100],
 [112,117,116,95,112,105,101,99,101],
 [116,97,107,101,95,112,105,101,99,101],
 [110,117,109,98,101,114,115],
 [98,105,116,115],
 [115,104,105,102,116,95,112,105,101,99,101],
 [87,72,73,84,69],
 [66,76,65,67,75],
 [107,105,110,103,95,115,113,117,97,114,101],
 [115,116,114,97,105,103,104,116,95,115,108,105,100,101,114,115],
 [115,108,97,110,116,105,110,103,95,115,108,105,100,101,114,115],
 [112,97,119,110,95,97,116,116,97,99,107,101,114,115],
 [115,116,101,112,95,97,116,116,97,99,107,101,114,115],
 [104,105,116,115],
 [115,108,97,110,116,105,110,103],
 [115,116,114,97,105,103,104,116],
 [108,105,110,101,95,97,116,116,97,99,107,101,114,115],
 [115,116,101,112,115],
 [97,116,116,97,99,107,101,114,115,95,116,111],
 [111,119,110],
 [105,115,95,97,116,116,97,99,107,101,100],
 [101,118,101,114,121,116,104,105,110,103],
 [99,104,101,99,107,101,114,115,95,111,102],
 [99,104,101,99,107,101,114,115],
 [105,110,95,99,104,101,99,107,95,111,102],
 [105,110,95,99,104,101,99,107],
 [115,110,105,112,101,114,115,95,111,102],
 [112,105,110,110,101,114,115],
 [104,101,108,100],
 [115,110,105,112,101,114],
 [115,110,105,112,101,114,115],
 [105,110,115,105,100,101],
 [115,116,97,110,100,105,110,103],
 [98,108,111,99,107,101,114,115],
 [112,105,110,110,101,100,95,112,105,101,99,101,115],
 [115,113,117,97,114,101,115,95,119,105,116,104,105,110],
 [77,65,89],
 [119,104,111,108,101],
 [101,110,101,109,121],
 [107,105,110,103,95,116,111],
 [71,79,65,76,95,65,84,84,65,67,75,69,68],
 [114,111,111,107,95,116,111],
 [80,65,83,83,69,83,95,65,84,84,65,67,75],
 [107,105,110,103,95,102,114,111,109],
 [73,78,95,67,72,69,67,75],
 [114,111,111,107,95,102,114,111,109],
 [78,79,84,95,70,82,69,69],
 [119,105,110,103],
 [114,105,103,104,116,115],
 [82,73,71,72,84,95,76,79,83,84],
 [78,79,95,87,73,78,71],
 [99,97,115,116,108,101,95,114,101,102,117,115,97,108],
 [67,65,83,84,76,73,78,71],
 [97,100,100,95,99,97,115,116,108,105,110,103],
 [103,111,97,108,115],
 [78,79,82,77,65,76],
 [97,100,100,95,103,111,97,108,115],
 [116,97,114,103,101,116],
 [114,101,97,99,104],
 [97,100,100,95,112,105,101,99,101,95,109,111,118,101,115],
 [115,116,97,103,101],
 [81,85,73,69,84,83],
 [67,65,80,84,85,82,69,83],
 [115,116,97,103,101,95,116,97,114,103,101,116],
 [112,117,115,104,95,115,116,101,112],
 [115,116,97,114,116,95,109,97,115,107],
 [108,97,115,116,95,109,97,115,107],
 [115,104,105,102,116,95,112,117,115,104],
 [115,104,105,102,116,95,99,97,112,116,117,114,101],
 [116,119,111,115],
 [111,110,101,115],
 [112,97,115,115,101,100],
 [101,109,112,116,121],
 [112,97,119,110,115],
 [112,117,115,104,95,116,97,114,103,101,116,115],
 [105,115,95,99,97,112,116,117,114,101],
 [119,105,116,104,95,108,101,115,115,101,114],
 [97,100,100,95,112,114,111,109,111,116,105,111,110,115],
 [115,116,101,112],
 [97,100,100,95,112,108,97,105,110,95,112,117,115,104,101,115],
 [97,100,100,95,112,117,115,104,95,112,114,111,109,111,116,105,111,110,115],
 [108,97,115,116],
 [97,100,100,95,112,97,119,110,95,99,97,112,116,117,114,101,115],
 [97,100,100,95,112,97,119,110,95,109,111,118,101,115],
 [111,114,105,103,105,110,115],
 [69,78,95,80,65,83,83,65,78,84],
 [101,112],
 [97,100,100,95,101,110,95,112,97,115,115,97,110,116],
 [103,105,118,101,110],
 [101,118,97,115,105,111,110,95,116,97,114,103,101,116,115],
 [112,97,115,115,101,100,95,112,97,119,110,95,115,113,117,97,114,101],
 [109,97,121,95,97,110,115,119,101,114,95,101,110,95,112,97,115,115,97,110,116],
 [69,86,65,83,73,79,78,83],
 [97,100,100,95,101,118,97,115,105,111,110,115],
 [116,97,107,101,110,95,115,113,117,97,114,101],
 [116,97,107,101,110],
 [116,97,107,101,110,95,115,113,117,97,114,101,95,108,101,103,97,108,105,116,121],
 [105,115,95,115,97,102,101,95,101,110,95,112,97,115,115,97,110,116],
 [112,105,110,110,101,100],
 [108,105,102,116,101,100],
 [105,115,95,108,101,103,97,108],
 [103,101,110,101,114,97,116,101],
 [78,79,78,95,69,86,65,83,73,79,78,83],
 [112,115,101,117,100,111,95,109,111,118,101,115],
 [109,111,118,101,115],
 [107,101,101,112,95,108,101,103,97,108],
 [108,101,103,97,108,95,109,111,118,101,115],
 [115,116,97,103,101,115],
 [104,97,115,95,108,101,103,97,108,95,109,111,118,101],
 [102,105,108,101,95,111,102],
 [114,97,110,107,95,111,102],
 [70,73,76,69,95,76,69,84,84,69,82,83],
 [82,65,78,75,95,68,73,71,73,84,83],
 [115,113,117,97,114,101,95,110,97,109,101],
 [116,101,120,116],
 [114,97,110,107],
 [102,105,108,101],
 [114,101,97,100,95,115,113,117,97,114,101],
 [112,114,111,109,111,95,108,101,116,116,101,114],
 [114,101,97,100,95,99,111,111,114,100,115],
 [102,105,110,100,95,109,111,118,101],
 [112,97,114,115,101,95,109,111,118,101],
 [109,111,118,101,100,95,112,105,101,99,101],
 [114,111,111,107,95,115,116,101,112],
 [101,110,101,109,105,101,115],
 [112,97,115,115,101,100,95,115,113,117,97,114,101],
 [108,111,115,116],
 [107,101,112,116,95,114,105,103,104,116,115],
 [99,108,101,97,114,95,101,112,95,107,101,121],
 [115,101,116,95,101,112,95,107,101,121],
 [115,101,116,95,114,105,103,104,116,115,95,107,101,121],
 [104,97,108,102],
 [114,111,111,107],
 [119,104,101,114,101],
 [104,105,115,116,111,114,121],
 [116,97,107,101,110,95,115,113,117,97,114,101,95,109,97,107,101,109,111,118,101],
 [100,111,95,109,111,118,101],
 [117,110,100,111,95,109,111,118,101],
 [116,97,107,101,115],
 [76,79,78,71],
 [83,72,79,82,84],
 [99,97,115,116,108,101,95,116,101,120,116],
 [115,105,103,110],
 [99,104,101,99,107,95,115,105,103,110],
 [108,101,116,116,101,114],
 [108,101,116,116,101,114,115],
 [107,105,110,100,95,98,121,95,108,101,116,116,101,114],
 [99,117,116,95,115,105,103,110],
 [114,101,115,116],
 [99,117,116,95,111,114,105,103,105,110],
 [99,114,111,115,115],
 [98,111,100,121],
 [115,112,108,105,116,95,115,97,110],
 [97,115,107,101,100],
 [102,105,116,115],
 [109,101,97,110,116,95,98,121],
 [112,105,99,107,95,115,97,110],
 [112,97,114,115,101,95,115,97,110],
 [108,111,110,103,95,111,102],
 [112,105,99,107,95,108,111,110,103],
 [112,97,114,115,101,95,108,111,110,103],
 [112,108,97,99,101,115],
 [97,116],
 [114,101,97,100,95,105,99,99,102],
 [112,105,99,107,95,105,99,99,102],
 [112,97,114,115,101,95,105,99,99,102],
 [114,101,97,100,95,119,111,114,100],
 [95,108,97,119,95,108,101,116,116,101,114,115],
 [106,97,114],
 [109,97,110,121],
 [95,108,97,119,95,100,114,111,112],
 [116,117,114,110],
 [115,112,111,116],
 [97,112,97,114,116],
 [109,105,110,101],
 [80,111,115,105,116,105,111,110],
 [90,111,98,114,105,115,116],
 [114,111,119,115],
 [109,97,110],
 [95,108,97,119,95,115,101,116,95,117,112],
 [95,108,97,119,95,115,113,117,97,114,101],
 [109,97,114,107],
 [95,108,97,119,95,109,97,114,107],
 [100,105,103,105,116,115],
 [108,111,110,103],
 [98,111,100,105,101,115],
 [119,105,114,101],
 [110,97,109,101],
 [101,97,99,104],
 [101,110,100,115],
 [101,110,100],
 [95,108,97,119,95,115,112,101,108,116],
 [116,97,98,108,101],
 [115,112,101,108,116],
 [115,104,111,114,116],
 [95,108,97,119,95,109,101,97,110,116],
 [95,108,97,119,95,104,101,97,114,100],
 [115,99,114,105,112,116],
 [115,116,111,111,100],
 [116,101,120,116,115],
 [95,108,97,119,95,115,105,103,110,115],
 [102,111,114,109],
 [108,97,119],
 [115,101,108,102]]
noncomputable def EI:List Nat:=[60,45,80,104,33,85,0,196,241,158,49,63,53,79,46,50,36,67,65,83,105,110,109,107,244,106]
noncomputable def Co:List (Nat×q9):=[
 (2,.fn [0,1] L0),
 (4,.fn [3] Sg),
 (5,.fn [3] Sd),
 (7,.fn [6] Pg),
 (10,.fn [3] ND),
 (18,.fn [11,12,13,14] NG),
 (20,.fn [19] NF),
 (21,.fn [19] Se),
 (22,.fn [19] I9),
 (24,.fn [19] L1),
 (26,.fn [25] H9),
 (29,.fn [25] Sb),
 (30,.fn [25] TI),
 (32,.fn [25] L8),
 (37,.fn [33,34,25] NA),
 (38,.fn [33,34,25] R9),
 (39,.fn [33,34,25] ah),
 (41,.fn [33,34,25,40] R8),
 (43,.fn [35] LY),
 (52,.fn [33] Ny),
 (56,.fn [33,35] H7),
 (64,.fn [33] Pb),
 (66,.fn [33] Nz),
 (75,.fn [33] Kt),
 (84,.fn [33] Kr),
 (87,.fn [45,49,85,79] H8),
 (91,.fn [33,35,27,88] KG),
 (92,.fn [33,27,88] Jd),
 (93,.fn [33,27,88] G8),
 (94,.fn [33,27,88] Id),
 (98,.fn [33,1,27,88] He),
 (101,.fn [33,0,1,27,88] Ib),
 (111,.fn [102,3,103] NK),
 (112,.fn [102,103] Ma),
 (115,.fn [102,34,25] KI),
 (88,.fn [102] Pj),
 (106,.fn [102,0,1] TJ),
 (118,.fn [102,0] KB),
 (119,.fn [102] FZ),
 (120,.fn [102] FY),
 (121,.fn [102,27,0] Hc),
 (122,.fn [102,27,0] Hg),
 (126,.fn [102,27,88] Ha),
 (128,.fn [102,27,88] IY),
 (130,.fn [102,27,0,88] Kx),
 (132,.fn [102,0] Kv),
 (133,.fn [102] Pc),
 (134,.fn [102,0] Kw),
 (135,.fn [102] Pe),
 (136,.fn [102,0] L7),
 (143,.fn [102,0] IZ),
 (144,.fn [102,0] Ic),
 (145,.fn [34,25] Hf),
 (161,.fn [102,76] G9),
 (163,.fn [102,31] IW),
 (166,.fn [11,164,31] HN),
 (169,.fn [102,1,167,31] DG),
 (173,.fn [102,170] Je),
 (174,.fn [33,0] NJ),
 (175,.fn [33,0] L9),
 (176,.fn [33,0] NB),
 (177,.fn [33,25,0] L6),
 (178,.fn [33,25,0,157] Ie),
 (184,.fn [102,0] Jc),
 (187,.fn [11,12,170,185,31] D3),
 (189,.fn [102,167,31] Dm),
 (190,.fn [102,170,167,31] Cw),
 (192,.fn [102,170,167,31] BW),
 (193,.fn [102,170,167,31] G7),
 (197,.fn [102,31] G6),
 (199,.fn [102,198] Gs),
 (200,.fn [102] ET),
 (201,.fn [102,167] D7),
 (203,.fn [102,31] IX),
 (204,.fn [102,19] Jf),
 (207,.fn [102,19] ER),
 (210,.fn [102,19,208] Pf),
 (211,.fn [102,170] I8),
 (213,.fn [102] Jb),
 (215,.fn [102,214] Gu),
 (216,.fn [102] KD),
 (218,.fn [102] D5),
 (219,.fn [45,27] Sa),
 (220,.fn [45,27] Sf),
 (223,.fn [45,27] KJ),
 (227,.fn [45,49,224] KH),
 (228,.fn [1] Ja),
 (229,.fn [45,49,224] FO),
 (230,.fn [45,49,214,224] HO),
 (231,.fn [102,224] L4),
 (232,.fn [102,19] KF),
 (233,.fn [33,0,61] NL),
 (235,.fn [102,0,11,61] Ia),
 (237,.fn [102,11,61] KA),
 (238,.fn [102] I7),
 (239,.fn [102,27] L5),
 (240,.fn [102,158] Hd),
 (246,.fn [102,19] D4),
 (247,.fn [102] EV),
 (248,.fn [110,19] WC),
 (251,.fn [19] Ku),
 (253,.fn [102,19] LX),
 (256,.fn [254,255] D6),
 (257,.fn [224] Pd),
 (259,.fn [258] Gq),
 (262,.fn [224,45,49] DI),
 (264,.fn [45,110,19,263] TH),
 (265,.fn [45,49,110,214,261] FX),
 (266,.fn [45,49,110,214,224] Pk),
 (267,.fn [102,224] NH),
 (268,.fn [45,110,19] Hb),
 (269,.fn [45,110,214,224] HP),
 (270,.fn [102,224] L3),
 (273,.fn [45,49,224] DH),
 (274,.fn [45,49,214,224] NI),
 (275,.fn [102,224] L2),
 (276,.fn [102,224] EU),
 (277,.fn [] KC),
 (280,.fn [278,279] Ph),
 (289,.fn [278] Av),
 (290,.fn [282] LZ),
 (292,.fn [102,19] Pi),
 (301,.fn [102,19] AY),
 (305,.fn [302,224] B9),
 (306,.fn [102,224] NC),
 (312,.fn [307] Dn),
 (206,.fn [102,19] D8),
 (245,.fn [102,19] D9),
 (86,.cls 0 [313,45,49,85,79] O9),
 (285,.cls 1 [313,33,105] Pa),
 (286,.cls 2 [313,106,196,158,0] R7)]
noncomputable def Rl:List (Nat×V):=[
 (116,.int 0),
 (117,.int 1),
 (23,.int 0),
 (100,.int 1),
 (17,.int 2),
 (97,.int 3),
 (96,.int 4),
 (95,.int 5),
 (99,.int 6),
 (9,.int 0),
 (165,.int 0),
 (16,.int 1),
 (195,.int 2),
 (162,.int 3),
 (8,.str [46,80,78,66,82,81,75,46,46,112,110,98,114,113,107]),
 (55,.tup [.int 0,.int 1,.int 0,.int (-1),.int 1,.int 1,.int (-1),.int (-1)]),
 (42,.tup [.int 1,.int 0,.int (-1),.int 0,.int 1,.int (-1),.int (-1),.int 1]),
 (146,.int 0),
 (160,.int 1),
 (159,.int 2),
 (156,.int 3),
 (154,.int 4),
 (152,.int 5),
 (150,.int 6),
 (172,.int 0),
 (171,.int 1),
 (212,.int 2),
 (202,.int 3),
 (221,.str [97,98,99,100,101,102,103,104]),
 (222,.str [49,50,51,52,53,54,55,56]),
 (250,.str [79,45,79]),
 (249,.str [79,45,79,45,79]),
 (310,.str [97,98,99,100,49,50,51,52,53,120,45,61,43,35,81,82,66,78,75,113,114,98,110,79,32])]
noncomputable def prog(f:Nat):Option q9:=Co.lookup f
noncomputable def lX(x:Nat):Option V:=Rl.lookup x
noncomputable def nm(x:Nat):Str:=sx (Bg.getD x [])
noncomputable def BO(n m:Nat)(f:n=m->Bool):Bool:=@Bool.rec (fun b=>Nat.beq n m=b->Bool) (fun _=>false) (fun h=>f (km h)) (Nat.beq n m) rfl
theorem AA{f:n=m->Bool}(q:¬n=m):BO n m f=false:=by
 unfold BO
 have:∀(b:Bool) (h:Nat.beq n m=b),@Bool.rec (fun b=>Nat.beq n m=b->Bool) (fun _=>false) (fun h=>f (km h)) b h=false:=fun b h=>by
  cases b with
  |false=>rfl
  |true=>exact absurd (km h) q
 exact this _ rfl
noncomputable def FC(x:Expr)(f:Const->Bool):Bool:=BO x.ctorIdx 19 fun h=>Expr.Constant.elim x h fun c _ _=>f c
@[elab_as_elim] theorem Dy{f:Const->Bool}{P:Expr->Prop}(h:FC x f=true)(k:∀c q0 q1,f c=true->P (.Constant c q0 q1)):P x:=
 if q:x.ctorIdx=19 then Expr.Constant.elim (motive_1:=fun x=>FC x f=true->P x) x q k h else Bool.noConfusion ((AA q).symm.trans h)
noncomputable def MT(x:Expr)(f:BoolOp->List Expr->Bool):Bool:=BO x.ctorIdx 0 fun h=>Expr.BoolOp.elim x h fun o l _=>f o l
@[elab_as_elim] theorem Lr{f:BoolOp->List Expr->Bool}{P:Expr->Prop}(h:MT x f=true)(k:∀o l q0,f o l=true->P (.BoolOp o l q0)):P x:=
 if q:x.ctorIdx=0 then Expr.BoolOp.elim (motive_1:=fun x=>MT x f=true->P x) x q k h else Bool.noConfusion ((AA q).symm.trans h)
noncomputable def Vk(x:Expr)(f:Expr->Operator->Expr->Bool):Bool:=BO x.ctorIdx 2 fun h=>Expr.BinOp.elim x h fun l o r _=>f l o r
@[elab_as_elim] theorem Vl{f:Expr->Operator->Expr->Bool}{P:Expr->Prop}(h:Vk x f=true)(k:∀l o r q0,f l o r=true->P (.BinOp l o r q0)):P x:=
 if q:x.ctorIdx=2 then Expr.BinOp.elim (motive_1:=fun x=>Vk x f=true->P x) x q k h else Bool.noConfusion ((AA q).symm.trans h)
noncomputable def bV(x:Expr)(f:UnaryOp->Expr->Bool):Bool:=BO x.ctorIdx 3 fun h=>Expr.UnaryOp.elim x h fun o a _=>f o a
@[elab_as_elim] theorem Yq{f:UnaryOp->Expr->Bool}{P:Expr->Prop}(h:bV x f=true)(k:∀o a q0,f o a=true->P (.UnaryOp o a q0)):P x:=
 if q:x.ctorIdx=3 then Expr.UnaryOp.elim (motive_1:=fun x=>bV x f=true->P x) x q k h else Bool.noConfusion ((AA q).symm.trans h)
noncomputable def bU(x:Expr)(f:Expr->Expr->Expr->Bool):Bool:=BO x.ctorIdx 5 fun h=>Expr.IfExp.elim x h fun t a b _=>f t a b
@[elab_as_elim] theorem Yo{f:Expr->Expr->Expr->Bool}{P:Expr->Prop}(h:bU x f=true)(k:∀t a b q0,f t a b=true->P (.IfExp t a b q0)):P x:=
 if q:x.ctorIdx=5 then Expr.IfExp.elim (motive_1:=fun x=>bU x f=true->P x) x q k h else Bool.noConfusion ((AA q).symm.trans h)
noncomputable def P7(x:Expr)(f:List (Option Expr)->List Expr->Bool):Bool:=BO x.ctorIdx 6 fun h=>Expr.Dict.elim x h fun k v _=>f k v
@[elab_as_elim] theorem S1{f:List (Option Expr)->List Expr->Bool}{P:Expr->Prop}(h:P7 x f=true)(k:∀k v q0,f k v=true->P (.Dict k v q0)):P x:=
 if q:x.ctorIdx=6 then Expr.Dict.elim (motive_1:=fun x=>P7 x f=true->P x) x q k h else Bool.noConfusion ((AA q).symm.trans h)
noncomputable def J5(x:Expr)(f:Expr->List Comprehension->Scope->Bool):Bool:=BO x.ctorIdx 8 fun h=>Expr.ListComp.elim x h fun e g s _=>f e g s
@[elab_as_elim] theorem HA{f:Expr->List Comprehension->Scope->Bool}{P:Expr->Prop}(h:J5 x f=true)(k:∀e g s q0,f e g s=true->P (.ListComp e g s q0)):P x:=
 if q:x.ctorIdx=8 then Expr.ListComp.elim (motive_1:=fun x=>J5 x f=true->P x) x q k h else Bool.noConfusion ((AA q).symm.trans h)
noncomputable def RA(x:Expr)(f:Expr->List CmpOp->List Expr->Bool):Bool:=BO x.ctorIdx 15 fun h=>Expr.Compare.elim x h fun l o r _=>f l o r
@[elab_as_elim] theorem Ou{f:Expr->List CmpOp->List Expr->Bool}{P:Expr->Prop}(h:RA x f=true)(k:∀l o r q0,f l o r=true->P (.Compare l o r q0)):P x:=
 if q:x.ctorIdx=15 then Expr.Compare.elim (motive_1:=fun x=>RA x f=true->P x) x q k h else Bool.noConfusion ((AA q).symm.trans h)
noncomputable def Fd(x:Expr)(K:Expr->List Expr->List Keyword->Pos->Bool):Bool:=BO x.ctorIdx 16 fun h=>Expr.Call.elim x h fun f a k p=>K f a k p
@[elab_as_elim] theorem Ek{K:Expr->List Expr->List Keyword->Pos->Bool}{P:Expr->Prop}(h:Fd x K=true)(k:∀f a k p,K f a k p=true->P (.Call f a k p)):P x:=
 if q:x.ctorIdx=16 then Expr.Call.elim (motive_1:=fun x=>Fd x K=true->P x) x q k h else Bool.noConfusion ((AA q).symm.trans h)
noncomputable def Fc(x:Expr)(f:Expr->Str->Pos->Bool):Bool:=BO x.ctorIdx 20 fun h=>Expr.Attribute.elim x h fun v n p=>f v n p
@[elab_as_elim] theorem Dk{f:Expr->Str->Pos->Bool}{P:Expr->Prop}(h:Fc x f=true)(k:∀v n p,f v n p=true->P (.Attribute v n p)):P x:=
 if q:x.ctorIdx=20 then Expr.Attribute.elim (motive_1:=fun x=>Fc x f=true->P x) x q k h else Bool.noConfusion ((AA q).symm.trans h)
noncomputable def Lx(x:Expr)(f:Expr->Expr->Bool):Bool:=BO x.ctorIdx 21 fun h=>Expr.Subscript.elim x h fun v i _=>f v i
@[elab_as_elim] theorem GO{f:Expr->Expr->Bool}{P:Expr->Prop}(h:Lx x f=true)(k:∀v i q0,f v i=true->P (.Subscript v i q0)):P x:=
 if q:x.ctorIdx=21 then Expr.Subscript.elim (motive_1:=fun x=>Lx x f=true->P x) x q k h else Bool.noConfusion ((AA q).symm.trans h)
noncomputable def Bm(x:Expr)(f:Str->Bool):Bool:=BO x.ctorIdx 23 fun h=>Expr.Name.elim x h fun n _=>f n
@[elab_as_elim] theorem AV{f:Str->Bool}{P:Expr->Prop}(h:Bm x f=true)(k:∀n q0,f n=true->P (.Name n q0)):P x:=
 if q:x.ctorIdx=23 then Expr.Name.elim (motive_1:=fun x=>Bm x f=true->P x) x q k h else Bool.noConfusion ((AA q).symm.trans h)
noncomputable def P8(x:Expr)(f:List Expr->Bool):Bool:=BO x.ctorIdx 24 fun h=>Expr.List.elim x h fun l _=>f l
@[elab_as_elim] theorem S3{f:List Expr->Bool}{P:Expr->Prop}(h:P8 x f=true)(k:∀l q0,f l=true->P (.List l q0)):P x:=
 if q:x.ctorIdx=24 then Expr.List.elim (motive_1:=fun x=>P8 x f=true->P x) x q k h else Bool.noConfusion ((AA q).symm.trans h)
noncomputable def Ov(x:Expr)(f:List Expr->Nat->Pos->Bool):Bool:=BO x.ctorIdx 25 fun h=>Expr.Tuple.elim x h fun l k p=>f l k p
@[elab_as_elim] theorem Ka{f:List Expr->Nat->Pos->Bool}{P:Expr->Prop}(h:Ov x f=true)(k:∀l k p,f l k p=true->P (.Tuple l k p)):P x:=
 if q:x.ctorIdx=25 then Expr.Tuple.elim (motive_1:=fun x=>Ov x f=true->P x) x q k h else Bool.noConfusion ((AA q).symm.trans h)
noncomputable def MY(x:Expr)(f:Option Expr->Option Expr->Option Expr->Bool):Bool:=BO x.ctorIdx 26 fun h=>Expr.Slice.elim x h fun a b c _=>f a b c
@[elab_as_elim] theorem Qb{f:Option Expr->Option Expr->Option Expr->Bool}{P:Expr->Prop}(h:MY x f=true)(k:∀a b c q0,f a b c=true->P (.Slice a b c q0)):P x:=
 if q:x.ctorIdx=26 then Expr.Slice.elim (motive_1:=fun x=>MY x f=true->P x) x q k h else Bool.noConfusion ((AA q).symm.trans h)
noncomputable def P9(x:Stmt)(f:Bool):Bool:=BO x.ctorIdx 25 fun h=>PySem.Stmt.Pass.elim x h fun _=>f
@[elab_as_elim] theorem S4{P:Stmt->Prop}(h:P9 x f=true)(k:∀q0,f=true->P (.Pass q0)):P x:=
 if q:x.ctorIdx=25 then PySem.Stmt.Pass.elim (motive_2:=fun x=>P9 x f=true->P x) x q k h else Bool.noConfusion ((AA q).symm.trans h)
noncomputable def P6(x:Stmt)(f:Bool):Bool:=BO x.ctorIdx 27 fun h=>PySem.Stmt.Continue.elim x h fun _=>f
@[elab_as_elim] theorem SZ{P:Stmt->Prop}(h:P6 x f=true)(k:∀q0,f=true->P (.Continue q0)):P x:=
 if q:x.ctorIdx=27 then PySem.Stmt.Continue.elim (motive_2:=fun x=>P6 x f=true->P x) x q k h else Bool.noConfusion ((AA q).symm.trans h)
noncomputable def Dx(x:Stmt)(f:List Expr->Expr->Bool):Bool:=BO x.ctorIdx 5 fun h=>PySem.Stmt.Assign.elim x h fun t v _=>f t v
@[elab_as_elim] theorem CR{f:List Expr->Expr->Bool}{P:Stmt->Prop}(h:Dx x f=true)(k:∀t v q0,f t v=true->P (.Assign t v q0)):P x:=
 if q:x.ctorIdx=5 then PySem.Stmt.Assign.elim (motive_2:=fun x=>Dx x f=true->P x) x q k h else Bool.noConfusion ((AA q).symm.trans h)
noncomputable def Ot(x:Stmt)(f:Expr->Operator->Expr->Bool):Bool:=BO x.ctorIdx 7 fun h=>PySem.Stmt.AugAssign.elim x h fun t o v _=>f t o v
@[elab_as_elim] theorem J3{f:Expr->Operator->Expr->Bool}{P:Stmt->Prop}(h:Ot x f=true)(k:∀t o v q0,f t o v=true->P (.AugAssign t o v q0)):P x:=
 if q:x.ctorIdx=7 then PySem.Stmt.AugAssign.elim (motive_2:=fun x=>Ot x f=true->P x) x q k h else Bool.noConfusion ((AA q).symm.trans h)
noncomputable def MU(x:Stmt)(f:PySem.Expr->Bool):Bool:=BO x.ctorIdx 24 fun h=>PySem.Stmt.Expr.elim x h fun v _=>f v
@[elab_as_elim] theorem Ls{f:PySem.Expr->Bool}{P:Stmt->Prop}(h:MU x f=true)(k:∀v q0,f v=true->P (.Expr v q0)):P x:=
 if q:x.ctorIdx=24 then PySem.Stmt.Expr.elim (motive_2:=fun x=>MU x f=true->P x) x q k h else Bool.noConfusion ((AA q).symm.trans h)
noncomputable def RD(x:Stmt)(f:Option PySem.Expr->Bool):Bool:=BO x.ctorIdx 3 fun h=>PySem.Stmt.Return.elim x h fun v _=>f v
@[elab_as_elim] theorem J8{f:Option PySem.Expr->Bool}{P:Stmt->Prop}(h:RD x f=true)(k:∀v q0,f v=true->P (.Return v q0)):P x:=
 if q:x.ctorIdx=3 then PySem.Stmt.Return.elim (motive_2:=fun x=>RD x f=true->P x) x q k h else Bool.noConfusion ((AA q).symm.trans h)
noncomputable def Vq(x:Stmt)(f:PySem.Expr->List Stmt->List Stmt->Bool):Bool:=BO x.ctorIdx 12 fun h=>PySem.Stmt.If.elim x h fun t a b _=>f t a b
@[elab_as_elim] theorem Vr{f:PySem.Expr->List Stmt->List Stmt->Bool}{P:Stmt->Prop}(h:Vq x f=true)(k:∀t a b q0,f t a b=true->P (.If t a b q0)):P x:=
 if q:x.ctorIdx=12 then PySem.Stmt.If.elim (motive_2:=fun x=>Vq x f=true->P x) x q k h else Bool.noConfusion ((AA q).symm.trans h)
noncomputable def Vn(x:Stmt)(f:PySem.Expr->PySem.Expr->List Stmt->List Stmt->Bool):Bool:=BO x.ctorIdx 9 fun h=>PySem.Stmt.For.elim x h fun t i b o _=>f t i b o
@[elab_as_elim] theorem Vo{f:PySem.Expr->PySem.Expr->List Stmt->List Stmt->Bool}{P:Stmt->Prop}(h:Vn x f=true)(k:∀t i b o q0,f t i b o=true->P (.For t i b o q0)):P x:=
 if q:x.ctorIdx=9 then PySem.Stmt.For.elim (motive_2:=fun x=>Vn x f=true->P x) x q k h else Bool.noConfusion ((AA q).symm.trans h)
noncomputable def M1(x:Stmt)(f:PySem.Expr->List Stmt->List Stmt->Bool):Bool:=BO x.ctorIdx 11 fun h=>PySem.Stmt.While.elim x h fun t b o _=>f t b o
@[elab_as_elim] theorem Qc{f:PySem.Expr->List Stmt->List Stmt->Bool}{P:Stmt->Prop}(h:M1 x f=true)(k:∀t b o q0,f t b o=true->P (.While t b o q0)):P x:=
 if q:x.ctorIdx=11 then PySem.Stmt.While.elim (motive_2:=fun x=>M1 x f=true->P x) x q k h else Bool.noConfusion ((AA q).symm.trans h)
noncomputable def onRaise(x:Stmt)(f:Option PySem.Expr->Option PySem.Expr->Bool):Bool:=BO x.ctorIdx 16 fun h=>PySem.Stmt.Raise.elim x h fun e c _=>f e c
@[elab_as_elim] theorem Qa{f:Option PySem.Expr->Option PySem.Expr->Bool}{P:Stmt->Prop}(h:onRaise x f=true)(k:∀e c q0,f e c=true->P (.Raise e c q0)):P x:=
 if q:x.ctorIdx=16 then PySem.Stmt.Raise.elim (motive_2:=fun x=>onRaise x f=true->P x) x q k h else Bool.noConfusion ((AA q).symm.trans h)
noncomputable def Vv(x:Stmt)(K:List Stmt->List ExceptHandler->List Stmt->List Stmt->Bool):Bool:=BO x.ctorIdx 17 fun h=>PySem.Stmt.Try.elim x h fun b h o f _=>K b h o f
@[elab_as_elim] theorem Vw{K:List Stmt->List ExceptHandler->List Stmt->List Stmt->Bool}{P:Stmt->Prop}(h:Vv x K=true)(k:∀b h o f q0,K b h o f=true->P (.Try b h o f q0)):P x:=
 if q:x.ctorIdx=17 then PySem.Stmt.Try.elim (motive_2:=fun x=>Vv x K=true->P x) x q k h else Bool.noConfusion ((AA q).symm.trans h)
section
variable{α:Type}
noncomputable def pz(l:List α)(f:α->Bool):Bool:=match l with
 |[]=>false
 |x :: r=>(match r with|[]=>f x|_ :: _=>false)
@[elab_as_elim] theorem B4{f:α->Bool}{P:List α->Prop}(h:pz l f=true)(k:∀x,f x=true->P [x]):P l:=by
 induction l using List.casesOn with
 |nil=>exact Bool.noConfusion h
 |cons x r=>induction r using List.casesOn with
  |nil=>exact k x h
  |cons _ _=>exact Bool.noConfusion h
noncomputable def BL(l:List α)(f:α->List α->Bool):Bool:=match l with
 |[]=>false
 |x :: r=>f x r
@[elab_as_elim] theorem A1{f:α->List α->Bool}{P:List α->Prop}(h:BL l f=true)(k:∀x r,f x r=true->P (x :: r)):P l:=by
 cases l with
 |nil=>exact Bool.noConfusion h
 |cons x r=>exact k x r h
noncomputable def sr(l:List α)(f:α->α->Bool):Bool:=BL l fun x r=>pz r fun y=>f x y
@[elab_as_elim] theorem Hz{f:α->α->Bool}{P:List α->Prop}(h:sr l f=true)(k:∀x y,f x y=true->P [x,y]):P l:=
 A1 h fun x _ h=>B4 (P:=fun r=>P (x :: r)) h fun y h=>k x y h
noncomputable def GL(l:List α)(f:α->α->Bool)(g:α->List α->Bool):Bool:=BL l fun x r=>BL r fun y s=>(match s with|[]=>f x y|_ :: _=>g x r)
@[elab_as_elim] theorem J4{f:α->α->Bool}{g:α->List α->Bool}{P:List α->Prop}(h:GL l f g=true)(k:∀x y,f x y=true->P [x,y])(k':∀x y r,g x (y :: r)=true->P (x :: y :: r)):P l:=
 by
  induction l using List.casesOn with
  |nil=>exact Bool.noConfusion h
  |cons x r=>induction r using List.casesOn with
   |nil=>exact Bool.noConfusion h
   |cons y s=>induction s using List.casesOn with
    |nil=>exact k x y h
    |cons z s=>exact k' x y (z :: s) h
noncomputable def BM(l:List α)(b:Bool):Bool:=match l with
 |[]=>b
 |_ :: _=>false
@[elab_as_elim] theorem AP{P:List α->Prop}(h:BM l b=true)(k:b=true->P []):P l:=by
 cases l with
 |nil=>exact k h
 |cons _ _=>exact Bool.noConfusion h
noncomputable def CH(o:Option α)(f:α->Bool):Bool:=match o with
 |some x=>f x
 |none=>false
@[elab_as_elim] theorem BQ{f:α->Bool}{P:Option α->Prop}(h:CH o f=true)(k:∀x,f x=true->P (some x)):P o:=by
 cases o with
 |none=>exact Bool.noConfusion h
 |some x=>exact k x h
noncomputable def MX(o:Option α)(b:Bool):Bool:=match o with
 |some _=>false
 |none=>b
@[elab_as_elim] theorem HB{P:Option α->Prop}(h:MX o b=true)(k:b=true->P none):P o:=by
 cases o with
 |none=>exact k h
 |some x=>exact Bool.noConfusion h
end
theorem Al(h:(a&&b)=true):a=true:=by
 cases a with
 |true=>rfl
 |false=>exact h
theorem Aa(h:(a&&b)=true):b=true:=by
 cases a with
 |true=>exact h
 |false=>exact Bool.noConfusion h
theorem BV(h:(a&&b)=true):a=true/\b=true:=⟨Al h,Aa h⟩
@[elab_as_elim] theorem EW{α:Type}[BEq α][LawfulBEq α]{a b:α}{P:α->Prop}(h:(a==b)=true)(k:P a):P b:=gM h▸k
@[elab_as_elim] theorem ZK{α:Type}{a b:α}{P:α->Prop}(h:a=b)(k:P a):P b:=h▸k
noncomputable def ZZ(c:Const)(f:Int->Bool):Bool:=match c with
 |.int i=>f i
 |_=>false
@[elab_as_elim] theorem Vp{f:Int->Bool}{P:Const->Prop}(h:ZZ c f=true)(k:∀i,f i=true->P (.int i)):P c:=by
 induction c<;>first|exact k _ h|exact Bool.noConfusion h
noncomputable def Z0(c:Const)(f:Str->Bool):Bool:=match c with
 |.str i=>f i
 |_=>false
@[elab_as_elim] theorem Vu{f:Str->Bool}{P:Const->Prop}(h:Z0 c f=true)(k:∀i,f i=true->P (.str i)):P c:=by
 induction c<;>first|exact k _ h|exact Bool.noConfusion h
noncomputable def ZY(c:Const)(f:Bool->Bool):Bool:=match c with
 |.bool i=>f i
 |_=>false
@[elab_as_elim] theorem Vm{f:Bool->Bool}{P:Const->Prop}(h:ZY c f=true)(k:∀i,f i=true->P (.bool i)):P c:=by
 induction c<;>first|exact k _ h|exact Bool.noConfusion h
noncomputable def ZO(c:Const):Bool:=match c with
 |.none=>true
 |_=>false
theorem Lm(h:ZO c=true):c=.none:=by
 induction c<;>first|rfl|exact Bool.noConfusion h
noncomputable def ZN(o:BoolOp):Bool:=match o with|.And=>true|.Or=>false
noncomputable def RB(g:Comprehension)(f:Expr->Expr->List Expr->Bool):Bool:=decide (g.is_async=0)&&f g.target g.iter g.ifs
@[elab_as_elim] theorem El{f:Expr->Expr->List Expr->Bool}{P:Comprehension->Prop}(h:RB g f=true)(k:∀t i c,f t i c=true->P ⟨t,i,c,0⟩):P g:=by
 obtain⟨t,i,c,n⟩:=g
 have h1:n=0:=gG (Al h)
 subst h1
 exact k t i c (Aa h)
noncomputable def onH(h:ExceptHandler)(f:Option Expr->Option Str->List Stmt->Bool):Bool:=match h with
 |.ExceptHandler t n b _=>f t n b
@[elab_as_elim] theorem bS{f:Option Expr->Option Str->List Stmt->Bool}{P:ExceptHandler->Prop}(q:onH h f=true)(k:∀t n b p,f t n b=true->P (.ExceptHandler t n b p)):P h:=by
 cases h;exact k _ _ _ _ q
noncomputable def Yp{α:Type}(o:Option α)(n:Bool)(f:α->Bool):Bool:=match o with
 |some x=>f x
 |none=>n
section
variable[deq:DecidableEq Str]
noncomputable def Ey(x:Nat)(n:Str):Bool:=decide (x<Bg.length)&&(n==nm x)
noncomputable abbrev Sc:=List (Str×NameKind)
noncomputable def UJ(sc:Sc)(n:Str):Bool:=match sc.lookup n with
 |some .local|some .cell|some .free=>true
 |_=>false
noncomputable def Hq(sc:Sc)(n:Str):Bool:=sc.lookup n==some .globalImplicit
noncomputable def HQ:Nat->String
 |0=>"len" | 1=>"abs" | 2=>"max" | 3=>"str" | _=>"range"
noncomputable def P0:Nat->String
 |0=>"append" | 1=>"pop" | 2=>"find" | 3=>"lower" | _=>"join"
noncomputable def EK:Nat->String
 |1=>"BadMove" | 2=>"BadSan" | 3=>"AmbiguousSan" | _=>"?"
noncomputable def Hr(sc:Sc)(n:Str):Bool:=sc.lookup n==some .local||sc.lookup n==some .cell
noncomputable def Dp:List Nat->List Expr->Bool
 |[],es=>BM es true
 |x :: xs,es=>BL es fun e r=>Bm e fun n=>Ey x n&&Dp xs r
noncomputable def E4(sc:Sc)(xs:List Nat)(one:Bool)(t:Expr):Bool:=match one with
 |true=>Bm t fun n=>pz xs fun x=>Ey x n&&Hr sc n
 |false=>Ov t fun es _ _=>Dp xs es&&es.all fun e=>Bm e (Hr sc)
noncomputable def Fz(x:Expr):Bool:=!(Nat.beq x.ctorIdx 26)
noncomputable def Ez(x:Expr):Bool:=Nat.beq x.ctorIdx 22
noncomputable def fY(x:Expr):Bool:=Nat.beq x.ctorIdx 23
noncomputable def dD(scope:Scope):Sc:=scope.names
noncomputable def Iy(x:ME):Bool:=Nat.beq x.ctorIdx ME.none.ctorIdx
noncomputable def Jg(x:Expr):Bool:=!(Fd x fun f as kw _=>BM as (BM kw (Bm f fun _=>true)))
noncomputable def Dw(x:Expr):Bool:=!(Nat.beq x.ctorIdx 7)
noncomputable def Oj(f:Nat):Bool:=(Co.lookup f).isSome
noncomputable def Dh(scope:Scope)(sc:Sc):Bool:=scope.kind==.function&&scope.names.all fun(n,k)=>scope.names.lookup n==some k&&(match k with
 |.local|.cell|.globalImplicit=>true
 |.free=>sc.lookup n==some .cell||sc.lookup n==some .free
 |_=>false)
noncomputable def HX(scope:Scope)(xs:List Nat):Bool:=scope.names.all fun(n,k)=>!(k==.local||k==.cell)||xs.any (fun x=>decide (x<Bg.length)&&n==nm x)||!(Bg.any fun l=>sx l==n)
noncomputable def Rp:ME->Bool
 |.bool b=>b
 |_=>false
mutual
noncomputable def AD(j:Nat)(sc:Sc):ME->Expr->Bool
 |.int i,x=>FC x fun c=>ZZ c fun j=>i==j
 |.str s,x=>FC x fun c=>Z0 c fun t=>t==sx s&&(decide (s.length<=lim)&&s.all (·< 128))
 |.bool b,x=>FC x fun c=>ZY c fun d=>b==d
 |.none,x=>FC x fun c=>ZO c
 |.lW x,y=>Bm y fun n=>Ey x n&&(UJ sc n&&!(n==("__debug__":Str)))
 |.lX x,y=>Bm y fun n=>Ey x n&&(Hq sc n&&!(n==("__debug__":Str)))
 |.bin op a b,x=>Vk x fun l o r=>op==o&&(AD j sc a l&&AD j sc b r)
 |.un op a,x=>bV x fun o l=>op==o&&AD j sc a l
 |.and a b,x=>MT x fun o vs=>ZN o&&GL vs (fun x y=>AD j sc a x&&AD j sc b y) fun x r=>AD j sc a x&&Jy j sc b r
 |.or a b,x=>MT x fun o vs=>!ZN o&&GL vs (fun x y=>AD j sc a x&&AD j sc b y) fun x r=>AD j sc a x&&NZ j sc b r
 |.cmp a op b,x=>RA x fun l ops rs=>pz ops fun o=>pz rs fun r=>op==o&&(!behindInMarks o r&&(AD j sc a l&&AD j sc b r))
 |.oz a su b sw c,x=>RA x fun l ops rs=>sr ops fun o1 o2=>sr rs fun r1 r2=>su==o1&&(sw==o2&&(!lastMarks [o1,o2] [r1,r2]&&(AD j sc a l&&(AD j sc b r1&&AD j sc c r2))))
 |.ite t a b,x=>bU x fun t' a' b'=>AD j sc t t'&&(AD j sc a a'&&AD j sc b b')
 |.call f as,x=>Fd x fun g args kw _=>BM kw (Bm g fun n=>Oj f&&(Ey f n&&(Hq sc n&&(!(n==("__debug__":Str))&&NY j sc as args))))
 |.blt f as,x=>Fd x fun g args kw _=>BM kw (Bm g fun n=>decide (f<5)&&(!(n==("__debug__":Str))&&(n==Str.ofString (HQ f)&&(Hq sc n&&NY j sc as args))))
 |.my o f as,x=>Fd x fun g args kw pos=>BM kw (Fc g fun o' n apos=>decide (f<5)&&(Jg o'&&((apos.endLine==pos.line)&&(decide (args.length<20)&&(n==Str.ofString (P0 f)&&(AD j sc o o'&&NY j sc as args))))))
 |.attr o a,x=>Fc x fun o' n _=>Jg o'&&(Ey a n&&(EI.contains a&&AD j sc o o'))
 |.sub o i,x=>Lx x fun o' i'=>Fz i'&&(AD j sc o o'&&AD j sc i i')
 |.slice o lo hi,x=>Lx x fun o' i'=>MY i' fun te qw st=>MX st (AD j sc o o'&&(Yp te (Iy lo) (fun e=>AD j sc lo e)&&Yp qw (Iy hi) (fun e=>AD j sc hi e)))
 |.list es,x=>P8 x fun l=>NY j sc es l
 |.tup es,x=>Ov x fun l _ _=>NY j sc es l
 |.dict es,x=>P7 x fun ks vs=>!ks.isEmpty&&(decide (ks.length<=15)&&W5 j sc es ks vs)
 |.comp elt xs one it cond,x=>J5 x fun mw gens scope=>pz gens fun g=>RB g fun t ow ifs=>(match j with
   |0=>false
   |j'+1=>Dw ow&&(Dh scope sc&&(HX scope xs&&(AD j' sc it ow&&(E4 scope.names xs one t&&(AD j' scope.names elt mw&&(match ifs with
    |[]=>Rp cond
    |c :: r=>BM r (AD j' scope.names cond c))))))))
 |.nT elt x1 pt x2 nU,x=>J5 x fun mw gens scope=>sr gens fun g1 g2=>RB g1 fun t1 s8 rE=>RB g2 fun t2 s9 rF=>BM rE (BM rF (match j with
   |0=>false
   |j'+1=>Dw s8&&(Dw s9&&(Dh scope sc&&(HX scope [x1,x2]&&(x1 != x2&&(AD j' sc pt s8&&(E4 scope.names [x1] true t1&&(AD j' scope.names nU s9&&(E4 scope.names [x2] true t2&&AD j' scope.names elt mw))))))))))
 |.nil,_=>false
 |.cons _ _,_=>false
noncomputable def Jy(j:Nat)(sc:Sc):ME->List Expr->Bool
 |.and a b,vs=>GL vs (fun x y=>AD j sc a x&&AD j sc b y) fun x r=>AD j sc a x&&Jy j sc b r
 |_,_=>false
noncomputable def NZ(j:Nat)(sc:Sc):ME->List Expr->Bool
 |.or a b,vs=>GL vs (fun x y=>AD j sc a x&&AD j sc b y) fun x r=>AD j sc a x&&NZ j sc b r
 |_,_=>false
noncomputable def NY(j:Nat)(sc:Sc):ME->List Expr->Bool
 |.nil,xs=>BM xs true
 |.cons e r,xs=>BL xs fun x xs=>!Ez x&&(AD j sc e x&&NY j sc r xs)
 |_,_=>false
noncomputable def W5(j:Nat)(sc:Sc):ME->List (Option Expr)->List Expr->Bool
 |.nil,ks,vs=>BM ks (BM vs true)
 |.cons e r,ks,vs=>BL ks fun k ks=>BL vs fun v vs=>CH k fun k=>fU j sc e k v&&W5 j sc r ks vs
 |_,_,_=>false
noncomputable def fU(j:Nat)(sc:Sc):ME->Expr->Expr->Bool
 |.cons a b,k,v=>AD j sc a k&&AD j sc b v
 |_,_,_=>false
end
noncomputable def Wr(sc:Sc)(es:List Expr)(v:Expr):Bool:=!(Nat.beq v.ctorIdx 25)||es.any fun e=>Bm e fun n=>sc.lookup n==some .cell
noncomputable def FB(x:Expr):Bool:=!(Nat.ble 8 x.ctorIdx&&Nat.ble x.ctorIdx 10)
mutual
noncomputable def T6(sc:Sc):MS->Stmt->Bool
 |.skip,x=>P9 x true
 |.cont,x=>P6 x true
 |.assign x e,s=>Dx s fun ts v=>pz ts fun t=>Bm t fun n=>Ey x n&&(Hr sc n&&((J5 v (fun _ _ _=>true)||FB v)&&AD 2 sc e v))
 |.mo xs e,s=>Dx s fun ts v=>pz ts fun t=>Ov t fun es k p=>E4 sc xs false (.Tuple es k p)&&(Wr sc es v&&(FB v&&AD 2 sc e v))
 |.setAttr o a e,s=>Dx s fun ts v=>pz ts fun t=>Fc t fun o' n _=>Ey a n&&(EI.contains a&&(AD 2 sc o o'&&AD 2 sc e v))
 |.m9 o i e,s=>Dx s fun ts v=>pz ts fun t=>Lx t fun o' i'=>Fz i'&&(AD 2 sc o o'&&(AD 2 sc i i'&&AD 2 sc e v))
 |.aug x op e,s=>Ot s fun t o v=>Bm t fun n=>Ey x n&&(op==o&&(sc.lookup n==some .local&&AD 2 sc e v))
 |.mz o a op e,s=>Ot s fun t th v=>Fc t fun o' n _=>Ey a n&&(EI.contains a&&(op==th&&(AD 2 sc o o'&&AD 2 sc e v)))
 |.mL o i op e,s=>Ot s fun t th v=>Lx t fun o' i'=>Fz i'&&(op==th&&(AD 2 sc o o'&&(AD 2 sc i i'&&AD 2 sc e v)))
 |.expr e,s=>MU s fun v=>FB v&&AD 2 sc e v
 |.ret e,s=>RD s fun v=>Yp v (Iy e) fun v=>AD 2 sc e v
 |.ite t a b,s=>Vq s fun t' a' b'=>AD 2 sc t t'&&(Ih sc a a'&&Ih sc b b')
 |.mq xs one it body,s=>Vn s fun t ow qc o=>BM o (Dw ow&&(E4 sc xs one t&&(AD 2 sc it ow&&Ih sc body qc)))
 |.m7 t body,s=>M1 s fun t' qc o=>BM o (AD 2 sc t t'&&Ih sc body qc)
 |.raise c e,s=>onRaise s fun x y=>MX y (CH x fun x=>Fd x fun f as kw _=>BM kw (pz as fun v=>Bm f fun n=>decide (c<1)||(decide (3<c)||(n==Str.ofString (EK c)&&(Hq sc n&&AD 2 sc e v)))))
 |.nh e c h,s=>Vv s fun b hs o f=>BM o (BM f (pz b fun b=>RD b fun v=>CH v fun v=>pz hs fun hd=>onH hd fun t n hb=>MX n (CH t fun t=>Bm t fun n=>AD 2 sc e v&&(n==Str.ofString (EK c)&&(Hq sc n&&(Ih sc h hb&&(!hb.isEmpty&&(decide (1<=c)&&decide (c<=3)))))))))
 |.seq _ _,_=>false
noncomputable def Ih(sc:Sc):MS->List Stmt->Bool
 |.skip,l=>BM l true
 |.seq a b,l=>BL l fun s r=>T6 sc a s&&Ih sc b r
 |_,_=>false
end
end
set_option genInjectivity false in
structure Lg where
 led:Addr->Option Obj
 mu:List (Addr×Addr)
def pB(o:Obj):Prop:=o.cls≠.type "list"/\(∀es k,o.data≠.dict es k)/\∀v,o.data≠.cell v
def Kn(base:Heap)(lg:Lg)(a:Addr)(o:Obj):Prop:=pB o/\(lg.led a=some o\/base.get? a=some o)
def Da(o:Obj):Prop:=∃v,o.data=.cell v
def rV(o:Obj):Prop:=(o.cls=.type "list"/\∃vs k,o.data=.seq vs k)\/∃es k,o.data=.dict es k
theorem rV.oh(s:rV o):¬Da o:=by
 rintro⟨v,c⟩
 rcases s with⟨_,vs,k,z⟩|⟨es,k,z⟩<;>replace z:=c▸z<;>cases z
structure Ext(lg lY:Lg):Prop where
 oo:∀a o,pB o->lg.led a=some o->lY.led a=some o
 cell:∀a o,Da o->lg.led a=some o->∃o',Da o'/\lY.led a=some o'
 mu:∀(n:Nat) (p:Addr×Addr),lg.mu[n]?=some p->lY.mu[n]?=some p
theorem Ext.refl(lg:Lg):Ext lg lg:=⟨fun _ _ _ h=>h,fun _ o c h=>⟨o,c,h⟩,fun _ _ h=>h⟩
theorem Ext.trans(x:Ext a b)(y:Ext b c):Ext a c:=⟨fun d o i h=>y.oo d o i (x.oo d o i h),fun d o k h=>by obtain⟨o',k',h'⟩:=x.cell d o k h;exact y.cell d o' k' h',fun n p h=>y.mu n p (x.mu n p h)⟩
theorem Ext.kn(x:Ext lg lY)(h:Kn base lg a o):Kn base lY a o:=
 ⟨h.1,h.2.imp (x.oo a o h.1) id⟩
noncomputable def T7:Nat->List Nat
 |0=>[71,101,111,109,101,116,114,121]
 |1=>[80,111,115,105,116,105,111,110]
 |_=>[90,111,98,114,105,115,116]
def Cc(K:Frag)(c:Nat)(C:Addr):Prop:=nsIn K mainGlobals (sx (T7 c))=some (some (.ref C))
noncomputable def Fh(lo hi st:Int)(t1 t2 t3:Tok):Obj:={cls:=.type "range",data:=.fields #[.int lo t1,.int hi t2,.int st t3]}
def tD(lo hi st:Int):Prop:=st≠0/\lo.natAbs<2 ^ 60/\hi.natAbs<2 ^ 60/\st.natAbs<2 ^ 60
inductive Aw(base:Heap)(lg:Lg):V->Value->Prop
 |none:Aw base lg .none .none
 |bool (b:Bool):Aw base lg (.bool b) (.bool b)
 |int (i:Int) (t:Tok):Aw base lg (.int i) (.int i t)
 |str (s:List Nat) (t:Tok):pY s->Aw base lg (.str s) (.str (sx s) t)
 |tup (l:List V) (a:Addr) (o:Obj) (vs:Array Value) (n:Nat):Kn base lg a o->o.cls=.type "tuple"->o.data=.seq vs n->l.length=vs.size->l.length<=lim->
   (∀(i:Nat) (v:V) (w:Value),l[i]?=some v->vs[i]?=some w->Aw base lg v w)->Aw base lg (.tup l) (.ref a)
 |mM (l:List V) (a:Addr) (o:Obj) (vs:Array Value) (n:Nat):base.get? a=some o->o.cls=.type "list"->o.data=.seq vs n->l.length=vs.size->l.length<=lim->
   (∀(i:Nat) (v:V) (w:Value),l[i]?=some v->vs[i]?=some w->Aw base lg v w)->Aw base lg (.mM l) (.ref a)
 |range (lo hi st:Int) (a:Addr) (t1 t2 t3:Tok):Kn base lg a (Fh lo hi st t1 t2 t3)->tD lo hi st->Aw base lg (.range lo hi st) (.ref a)
 |lW (n:Nat) (a d:Addr):lg.mu[n]?=some (a,d)->Aw base lg (.lW n) (.ref a)
theorem Aw.mono(x:Ext lg lY)(h:Aw base lg v w):Aw base lY v w:=by
 induction h with
 |none=>exact .none
 |bool b=>exact .bool b
 |int i t=>exact .int i t
 |str s t hl=>exact .str s t hl
 |tup l a o vs n hk hc hd hl hm _ ih=>exact .tup l a o vs n (x.kn hk) hc hd hl hm ih
 |mM l a o vs n hk hc hd hl hm _ ih=>exact .mM l a o vs n hk hc hd hl hm ih
 |range lo hi st a t1 t2 t3 hk hr=>exact .range lo hi st a t1 t2 t3 (x.kn hk) hr
 |lW n a d h=>exact .lW n a d (x.mu n _ h)
def Ar(base:Heap)(lg:Lg)(l:List V)(vs:List Value):Prop:=l.length=vs.length/\∀(i:Nat) (v:V) (w:Value),l[i]?=some v->vs[i]?=some w->Aw base lg v w
theorem Ar.mono(x:Ext lg lY)(h:Ar base lg l vs):Ar base lY l vs:=⟨h.1,fun i v w a b=>(h.2 i v w a b).mono x⟩
theorem Ar.nil:Ar base lg [] []:=⟨rfl,fun i v w a=>by simp at a⟩
theorem Ar.cons(h:Aw base lg v w)(r:Ar base lg l vs):Ar base lg (v :: l) (w :: vs):=by
 refine⟨by simp[r.1],fun i u z a b=>?_⟩
 induction i using Nat.casesOn with
 |zero=>simp at a b;subst a b;exact h
 |succ i=>simp at a b;exact r.2 i u z a b
theorem Ar.mN{base:Heap}{lg:Lg}{v:V}{l:List V}{ws:List Value}(h:Ar base lg (v :: l) ws):∃w vs,ws=w :: vs/\Aw base lg v w/\Ar base lg l vs:=by
 induction ws using List.casesOn with
 |nil=>exact absurd h.1 (nofun)
 |cons w vs=>exact⟨w,vs,rfl,h.2 0 v w rfl rfl,by have:=h.1;simpa using this,fun i u z a b=>h.2 (i+1) u z (by exact a) (by exact b)⟩
theorem Ar.append{base:Heap}{lg:Lg}{l m:List V}{vs ws:List Value}(h:Ar base lg l vs)(k:Ar base lg m ws):Ar base lg (l++m) (vs++ws):=by
 induction l generalizing vs with
 |nil=>induction vs using List.casesOn with
  |nil=>exact k
  |cons _ _=>exact absurd h.1 (nofun)
 |cons v l ih=>
  obtain⟨w,vs,rfl,hv,hl⟩:=h.mN
  exact Ar.cons hv (ih hl)
theorem Ar.at{base:Heap}{lg:Lg}{l:List V}{vs:List Value}(h:Ar base lg l vs){i:Nat}{v:V}(e:l[i]?=some v):∃w,vs[i]?=some w/\Aw base lg v w:=by
 have hi:i<l.length:=(List.getElem?_eq_some_iff.mp e).1
 have qw:i<vs.length:=h.1▸hi
 exact⟨vs[i],gV qw,h.2 i v _ e (gV qw)⟩
theorem Ar.set{l:List V}{vs:List Value}(h:Ar base lg l vs)(i:Nat)(r:Aw base lg v w):Ar base lg (l.set i v) (vs.set i w):=by
 refine⟨by simp[h.1],fun j u z a b=>?_⟩
 rw[jZ]at a b
 by_cases q:i=j
 ·subst q
  (replace a:=(iI rfl)▸a;replace b:=(iI rfl)▸b)
  split at a
  ·obtain rfl:=Option.some.inj a
   split at b
   ·obtain rfl:=Option.some.inj b;exact r
   ·exact Ao b
  ·exact Ao a
 ·rw[iH q]at a b
  exact h.2 j u z a b
inductive D2(base:Heap)(lg:Lg):List (Nat×V)->List DictEntry->Prop
 |nil:D2 base lg [] []
 |cons (a:Nat) (v:V) (fs:List (Nat×V)) (hs:Int) (t:Tok) (w:Value) (es:List DictEntry):a<Bg.length->Aw base lg v w->D2 base lg fs es->
   D2 base lg ((a,v) :: fs) (⟨hs,.str (nm a) t,w⟩ :: es)
theorem D2.mono(x:Ext lg lY)(h:D2 base lg fs es):D2 base lY fs es:=by
 induction h with
 |nil=>exact .nil
 |cons a v fs hs t w es ha hv _ ih=>exact .cons a v fs hs t w es ha (hv.mono x) ih
def No(base:Heap)(lg:Lg)(kv:List (Int×V))(f:Int->Option Value):Prop:=
 ∀k,(Bn kv k=none/\f k=none)\/∃v w,Bn kv k=some v/\f k=some w/\Aw base lg v w
theorem No.mono(x:Ext lg lY){f:Int->Option Value}(h:No base lg kv f):No base lY kv f:=
 fun k=>(h k).imp id fun nR=>by obtain⟨v,w,a,b,c⟩:=nR;exact⟨v,w,a,b,c.mono x⟩
def Gm(base:Heap)(K:Frag)(lg:Lg)(a d:Addr):MO->Prop
 |.list xs=>a=d/\xs.length<=lim/\∃vs k,lg.led d=some (listOf vs k)/\Ar base lg xs vs.toList
 |.inst c fs=>c<3/\∃C,Cc K c C/\lg.led a=some (instObj C d)/\fs.length<=900/\∃es k,lg.led d=some (dictOf es k)/\D2 base lg fs es
 |.dict kv=>a=d/\∃o,lg.led d=some o/\o.cls=.type "dict"/\∃es k,o.data=.dict es k/\IntKeys es/\es.size<=kv.length/\No base lg kv (findBy Value.isInt es)
structure ac(base:Heap)(K:Frag)(lg:Lg)(μ:MH):Prop where
 len:lg.mu.length=μ.length
 nodup:(lg.mu.map (·.2)).Nodup
 each:∀(n:Nat) (o:MO),μ[n]?=some o->∃a d,lg.mu[n]?=some (a,d)/\Gm base K lg a d o
set_option genInjectivity false in
structure n9 where
 env:Env
 m:Str->Option Value
 cells:Addr->Option Obj
def H6(o:Obj)(m:Str->Option Value):Prop:=∃es ep,o.data=.dict es ep/\StrKeys es/\∀name,nsFind es name=m name
theorem H6.ns{h:Heap}{m:Str->Option Value}(x:H6 o m)(e:h.get? a=some o):h.Ns a m:=
 let⟨es,ep,r⟩:=x;⟨o,es,ep,e,r⟩
theorem H6.of{h:Heap}{m:Str->Option Value}(x:h.Ns a m):∃o,h.get? a=some o/\H6 o m:=
 let⟨o,es,ep,e,r⟩:=x;⟨o,e,es,ep,r⟩
def FN(base:Heap)(e:Env)(m:Str->Option Value)(lg:Lg)(x:Nat)(v:V):Prop:=
 x<Bg.length/\((e.kindOf (nm x)=some .local/\∃w,m (nm x)=some w/\Aw base lg v w)\/
  (e.kindOf (nm x)=some .cell/\∃ca o w,e.cells.lookup (nm x)=some ca/\lg.led ca=some o/\o.data=.cell (some w)/\Aw base lg v w))
def R6(e:Env)(x:Nat):Prop:=x<Bg.length/\(e.kindOf (nm x)=some .local\/e.kindOf (nm x)=some .cell)
structure Inv(base:Heap)(K:Frag)(e:Env)(m:Str->Option Value)(fr:List n9)(env:An)(lg:Lg)(μ:MH)(h:Heap):Prop where
 old:base.StaysIn h
 ns:h.Ns e.locals m
 nF:base.get? e.locals=none
 mG:lg.led e.locals=none
 led:∀a o,lg.led a=some o->h.get? a=some o/\base.get? a=none
 frames:∀f∈fr,(∃o,lg.led f.env.locals=some o/\H6 o f.m)/\∀a o,f.cells a=some o->lg.led a=some o/\Da o
 dist:(e.locals :: fr.map (·.env.locals)).Nodup
 apart:∀f∈fr,∀p∈lg.mu,f.env.locals≠p.2
 vars:∀x v,env x=some v->R6 e x->FN base e m lg x v
 heap:ac base K lg μ
theorem FN.mono{e:Env}{m:Str->Option Value}{lg lY:Lg}(q:Ext lg lY)(hc:∀a o,Da o->lg.led a=some o->lY.led a=some o)
  (h:FN base e m lg x v):FN base e m lY x v:=by
 refine⟨h.1,h.2.imp (fun nR=>by obtain⟨a,w,b,c⟩:=nR;exact⟨a,w,b,c.mono q⟩) fun nR=>by obtain⟨a,ca,o,w,b,c,d,f⟩:=nR;exact⟨a,ca,o,w,b,hc _ _ ⟨_,d⟩ c,d,f.mono q⟩⟩
section
variable{base:Heap}{K:Frag}{e:Env}{m:Str->Option Value}{fr:List n9}{env:An}{lg:Lg}{μ:MH}{h h':Heap}
theorem Inv.keeps(I:Inv base K e m fr env lg μ h)(k:∀b o,h.get? b=some o->h'.get? b=some o):Inv base K e m fr env lg μ h':=
 {I with old:=fun b o q=>k b o (I.old b o q),ns:=I.ns.keeps k,led:=fun a o q=>⟨k a o (I.led a o q).1,(I.led a o q).2⟩}
theorem Inv.push(I:Inv base K e m fr env lg μ h)(o:Obj):Inv base K e m fr env lg μ (h.push o):=I.keeps fun _ _ q=>gF o q
theorem Inv.extBut(I:Inv base K e m fr env lg μ h)(x:Heap.ExtBut h.objs.size h h'):Inv base K e m fr env lg μ h':=I.keeps fun b o q=>x b o (iU (g7 q)) q
noncomputable def Lg.put(lg:Lg)(a:Addr)(o:Obj):Lg:={lg with led:=fun b=>if b=a then some o else lg.led b}
noncomputable def Lg.lW(lg:Lg)(a d:Addr):Lg:={lg with mu:=lg.mu++[(a,d)]}
theorem Lg.l9(lg:Lg)(a:Addr)(o:Obj):(lg.put a o).led a=some o:=iI rfl
theorem Lg.l8(lg:Lg)(o:Obj)(q:b≠a):(lg.put a o).led b=lg.led b:=iH q
theorem Ext.mH(o:Obj)(q:lg.led a=none):Ext lg (lg.put a o):=by
 have k:∀b p,lg.led b=some p->(lg.put a o).led b=some p:=fun b p e=>by
  rw[Lg.l8];exact e
  rintro rfl;exact AM q e
 exact⟨fun b p _ e=>k b p e,fun b p c e=>⟨p,c,k b p e⟩,fun _ _ e=>e⟩
theorem Ext.nP(o:Obj)(q:lg.led a=some o')(n:rV o'):Ext lg (lg.put a o):=by
 have k:∀b p,¬rV p->lg.led b=some p->(lg.put a o).led b=some p:=fun b p i e=>by
  rw[Lg.l8];exact e
  rintro rfl;obtain rfl:=same q e;exact i n
 refine⟨fun b p i e=>k b p ?_ e,fun b p c e=>⟨p,c,k b p ?_ e⟩,fun _ _ e=>e⟩
 ·rintro(⟨z,_⟩|⟨es,k,z⟩)
  ·exact i.1 z
  ·exact i.2.1 _ _ z
 ·exact fun z=>z.oh c
theorem Ext.lW(a d:Addr):Ext lg (lg.lW a d):=⟨fun _ _ _ e=>e,fun _ o c e=>⟨o,c,e⟩,fun n p e=>by
 show(lg.mu++[(a,d)])[n]?=some p
 exact(jX (List.getElem?_eq_some_iff.mp e).1).trans (e)⟩
theorem Inv.fresh(I:Inv base K e m fr env lg μ h):lg.led h.objs.size=none:=by
 cases q:lg.led h.objs.size with
 |none=>rfl
 |some o=>exact absurd (g7 (I.led _ _ q).1) (ib _)
theorem Inv.free(I:Inv base K e m fr env lg μ h)(n:h.get? a=none):lg.led a=none:=by
 cases q:lg.led a with
 |none=>rfl
 |some o=>have:=(I.led _ _ q).1;exact AM n this
theorem Inv.nJ(I:Inv base K e m fr env lg μ h)(n:h.get? a=none):base.get? a=none:=by
 cases q:base.get? a with
 |none=>rfl
 |some o=>have:=I.old _ _ q;exact AM n this
theorem Bl(h:Heap):h.get? h.objs.size=none:=by
 cases q:h.get? h.objs.size with
 |none=>rfl
 |some o=>exact absurd (g7 q) (ib _)
theorem Gm.mono{lY:Lg}(q:Ext lg lY)(hd:∀o,lg.led d=some o->lY.led d=some o)(h:Gm base K lg a d o):Gm base K lY a d o:=by
 cases o with
 |list xs=>obtain⟨e,hm,vs,k,a1,a4⟩:=h;exact⟨e,hm,vs,k,hd _ a1,a4.mono q⟩
 |inst c fs=>obtain⟨hc,C,c1,c2,c3,es,k,c4,c5⟩:=h;exact⟨hc,C,c1,q.oo _ _ ⟨by simp,by simp,by simp⟩ c2,c3,es,k,hd _ c4,c5.mono q⟩
 |dict kv=>obtain⟨e,o,a1,a2,es,k,a3,a4,a5,a6⟩:=h;exact⟨e,o,hd _ a1,a2,es,k,a3,a4,a5,a6.mono q⟩
theorem Inv.add(I:Inv base K e m fr env lg μ h)(n:h.get? a=none)(k:∀b o,h.get? b=some o->h'.get? b=some o)(g:h'.get? a=some o):Inv base K e m fr env (lg.put a o) μ h':=by
 have hf:=I.free n
 have x:Ext lg (lg.put a o):=Ext.mH o hf
 have keep:∀b p,lg.led b=some p->(lg.put a o).led b=some p:=fun b p q=>by
  rw[Lg.l8];exact q
  rintro rfl;exact AM hf q
 have nL:e.locals≠a:=by
  rintro rfl
  obtain⟨oL,ho,_⟩:=H6.of I.ns
  exact AM n ho
 refine⟨fun b p q=>k b p (I.old b p q),I.ns.keeps k,I.nF,by rw[Lg.l8 _ _ nL];exact I.mG,fun b p q=>?_,fun f pC=>?_,I.dist,I.apart,fun x' v q ss=>(I.vars x' v q ss).mono x fun b p _ z=>keep b p z,?_⟩
 ·by_cases z:b=a
  ·cases z
   rw[Lg.l9]at q
   obtain rfl:=Option.some.inj q
   exact⟨g,I.nJ n⟩
  ·rw[Lg.l8 _ _ z]at q
   exact⟨k b p (I.led b p q).1,(I.led b p q).2⟩
 ·obtain⟨⟨p,a1,a2⟩,a3⟩:=I.frames f pC
  exact⟨⟨p,keep _ _ a1,a2⟩,fun c o q=>⟨keep _ _ (a3 c o q).1,(a3 c o q).2⟩⟩
 ·refine⟨I.heap.len,I.heap.nodup,fun n' p q=>?_⟩
  obtain⟨a',d,a1,a2⟩:=I.heap.each n' p q
  exact⟨a',d,a1,a2.mono x fun p z=>keep _ _ z⟩
theorem Inv.new(I:Inv base K e m fr env lg μ h)(hd:∀p∈lg.mu,p.2≠d)(tM:∀f∈fr,f.env.locals≠d)(ho:Gm base K (lg.lW a d) a d o):Inv base K e m fr env (lg.lW a d) (μ++[o]) h:=by
 have x:Ext lg (lg.lW a d):=Ext.lW a d
 refine{I with apart:=fun f hf p hp=>?_,vars:=fun x' v q ss=>(I.vars x' v q ss).mono x fun b p _ z=>z,heap:=⟨?_,?_,fun n p q=>?_⟩}
 ·rcases List.mem_append.mp (show p∈lg.mu++[(a,d)]from hp)with z|z
  ·exact I.apart f hf p z
  ·rw[List.mem_singleton.mp z];exact tM f hf
 ·show(lg.mu++[(a,d)]).length=(μ++[o]).length
  simp[I.heap.len]
 ·show((lg.mu++[(a,d)]).map (·.2)).Nodup
  rw[ki,List.nodup_append]
  refine⟨I.heap.nodup,by simp,fun c hc b hb=>?_⟩
  simp only[iY,lC,List.mem_singleton]at hb
  obtain⟨q,hq,rfl⟩:=List.mem_map.mp hc
  exact fun z=>hd q hq (z.trans hb)
 ·by_cases z:n<μ.length
  ·rw[jX z]at q
   obtain⟨a',d',a1,a2⟩:=I.heap.each n p q
   exact⟨a',d',x.mu _ _ a1,a2.mono x fun p z=>z⟩
  ·have hn:n=μ.length:=by
    have:=(List.getElem?_eq_some_iff.mp q).1
    simp at this;lia
   subst hn
   rw[i6 (gE _)]at q
   simp at q
   subst q
   refine⟨a,d,?_,ho⟩
   show(lg.mu++[(a,d)])[μ.length]?=_
   rw[<- I.heap.len,i6 (gE _)]
   simp
theorem ac.qo(H:ac base K lg μ){n k:Nat}{a d a' d':Addr}(hn:lg.mu[n]?=some (a,d))(hk:lg.mu[k]?=some (a',d'))(q:n≠k):d≠d':=by
 intro z
 have h1:(lg.mu.map (·.2))[n]?=some d:=by simp[hn]
 have h2:(lg.mu.map (·.2))[k]?=some d':=by simp[hk]
 subst z
 have hi:=(List.getElem?_eq_some_iff.mp h1).1
 exact q ((List.getElem?_inj hi H.nodup).mp (h1.trans h2.symm))
theorem Inv.turn(I:Inv base K e m fr env lg μ h)(hn:lg.mu[n]?=some (a,d))(hl:lg.led d=some ob)(hm:rV ob)
  (hs:Heap.SameBut d h h') (hg:h'.get? d=some qV) (ho:Gm base K (lg.put d qV) a d o):Inv base K e m fr env (lg.put d qV) (μ.set n o) h':=by
 have hnf:∀f∈fr,f.env.locals≠d:=fun f hf=>I.apart f hf (a,d) (jm hn)
 have x:Ext lg (lg.put d qV):=Ext.nP qV hl hm
 have hb:=(I.led d ob hl).2
 have nL:e.locals≠d:=by rintro rfl;exact AM I.mG hl
 refine⟨fun b p q=>(hs.2 b ?_).trans (I.old b p q),I.ns.sameBut hs nL,I.nF,by refine(Lg.l8 _ _ nL).symm▸?_;exact I.mG,fun b p q=>?_,fun f pC=>?_,I.dist,I.apart,fun x' v q ss=>(I.vars x' v q ss).mono x fun b p hc z=>?_,?_⟩
 ·rintro rfl;exact AM hb q
 ·by_cases z:b=d
  ·subst z;rw[Lg.l9]at q;obtain rfl:=Option.some.inj q;exact⟨hg,hb⟩
  ·rw[Lg.l8 _ _ z]at q
   exact⟨(hs.2 b z).trans (I.led b p q).1,(I.led b p q).2⟩
 ·obtain⟨⟨p,a1,a2⟩,a3⟩:=I.frames f pC
  refine⟨⟨p,by rw[Lg.l8 _ _ (hnf f pC)];exact a1,a2⟩,fun c o q=>⟨?_,(a3 c o q).2⟩⟩
  rw[Lg.l8];exact(a3 c o q).1
  rintro rfl
  have h1:=(a3 _ o q).1;obtain rfl:=same hl h1
  exact hm.oh (a3 _ _ q).2
 ·rw[Lg.l8];exact z
  rintro rfl;obtain rfl:=same hl z
  exact hm.oh hc
 ·refine⟨by simp[Lg.put,I.heap.len],I.heap.nodup,fun k p q=>?_⟩
  by_cases z:n=k
  ·subst z
   have:p=o:=by
    rw[jZ]at q;simp at q;exact q.2.symm
   subst this
   exact⟨a,d,hn,ho⟩
  ·rw[gX z]at q
   obtain⟨a',d',a1,a2⟩:=I.heap.each k p q
   refine⟨a',d',a1,a2.mono x fun p y=>?_⟩
   rw[Lg.l8];exact y
   exact(I.heap.qo hn a1 z).symm
end
inductive AK{α:Type}(base:Heap)(K:Frag)(e:Env)(m:Str->Option Value)(fr:List n9)(env:An)(lg:Lg)(s:Shared)(P:Lg->MH->α->Prop)(a:α)(s':Shared):Prop
 |mk (h':Heap) (tk:Nat) (lY:Lg) (μ':MH) (e1:s'={s with heap:=h',toks:=tk}) (I:Inv base K e m fr env lY μ' h') (x:Ext lg lY) (p:P lY μ' a)
inductive PV(base:Heap)(Q:Ae)(lg:Lg)(μ:MH)(w:Value):Prop
 |mk (v:V) (r:Aw base lg v w) (q:Q v μ)
def PB(Q:Bool->MH->Prop)(_:Lg)(μ:MH)(b:Bool):Prop:=Q b μ
inductive PL(base:Heap)(Q:List V->MH->Prop)(lg:Lg)(μ:MH)(ws:List Value):Prop
 |mk (vs:List V) (r:Ar base lg vs ws) (q:Q vs μ)
section
variable{base:Heap}{K:Frag}{e:Env}{m:Str->Option Value}{fr:List n9}{env:An}{lg:Lg}{μ:MH}{s:Shared}
theorem AK.now{α:Type}{P:Lg->MH->α->Prop}{a:α}{h':Heap}{tk:Nat}(I:Inv base K e m fr env lg μ h')(p:P lg μ a) :
  AK base K e m fr env lg s P a {s with heap:=h',toks:=tk}:=⟨h',tk,lg,μ,rfl,I,Ext.refl _,p⟩
theorem AK.to{α:Type}{P:Lg->MH->α->Prop}{a:α}{h':Heap}{tk:Nat}{lY:Lg}{μ':MH}(I:Inv base K e m fr env lY μ' h')(x:Ext lg lY)(p:P lY μ' a) :
  AK base K e m fr env lg s P a {s with heap:=h',toks:=tk}:=⟨h',tk,lY,μ',rfl,I,x,p⟩
theorem AK.here{α:Type}{P:Lg->MH->α->Prop}{a:α}(I:Inv base K e m fr env lg μ s.heap)(p:P lg μ a) :
  AK base K e m fr env lg s P a s:=⟨s.heap,s.toks,lg,μ,rfl,I,Ext.refl _,p⟩
theorem AK.trans{α:Type}{P:Lg->MH->α->Prop}{a:α}{h':Heap}{tk:Nat}{s':Shared}(x:Ext lg lY)(h:AK base K e m fr env lY {s with heap:=h',toks:=tk} P a s') :
  AK base K e m fr env lg s P a s':=by
 obtain⟨oV,rQ,py,oj,rfl,I,y,p⟩:=h
 exact⟨oV,rQ,py,oj,rfl,I,x.trans y,p⟩
theorem Aw.ma(h:Aw base lg (.int i) w):∃t,w=.int i t:=by cases h;exact⟨_,rfl⟩
theorem Aw.mh(h:Aw base lg (.str l) w):(∃t,w=.str (sx l) t)/\pY l:=by cases h;exact⟨⟨_,rfl⟩,by assumption⟩
theorem Aw.mA(h:Aw base lg (.lW n) w):∃a d,w=.ref a/\lg.mu[n]?=some (a,d):=by cases h;exact⟨_,_,rfl,by assumption⟩
theorem Aw.nu(h:Aw base lg .none w):w=.none:=by cases h;rfl
theorem Aw.m4(h:Aw base lg (.bool b) w):w=.bool b:=by cases h;rfl
theorem BA(l:List Nat):(sx l).length=l.length:=by simp[sx,PySem.Str.length]
theorem LN(l k:List Nat):sx l++sx k=sx (l++k):=by
 show PySem.Str.mk _=_
 simp[sx]
theorem Wj(h:sx l=sx k):l=k:=by simpa [sx] using h
theorem pY.append{l k:List Nat}(a:pY l)(b:pY k)(h:l.length+k.length<=lim):pY (l++k):=
 ⟨by refine List.length_append.symm▸?_;exact h,fun c hc=>(List.mem_append.mp hc).elim (a.2 c) (b.2 c)⟩
theorem Cm:lim<=sizeLine:=by decide
end
section
variable{prog:Program}{w:World}{A:Around}{E:Value->Shared->Prop}
variable{base:Heap}{K:Frag}{e:Env}{m:Str->Option Value}{fr:List n9}{env:An}{lg:Lg}{μ:MH}{s:Shared}
theorem AI{tk:Nat}{Q:Ae}(I:Inv base K e m fr env lg μ s.heap)(q:Q (.int i) μ):AK base K e m fr env lg s (PV base Q) (.int i t) {s with toks:=tk}:=
 ⟨s.heap,tk,lg,μ,rfl,I,Ext.refl _,.int i,.int i t,q⟩
theorem S6{Q:Ae}(I:Inv base K e m fr env lg μ s.heap)(q:Q (.bool b) μ):AK base K e m fr env lg s (PV base Q) (.bool b) s:=
 ⟨s.heap,s.toks,lg,μ,rfl,I,Ext.refl _,.bool b,.bool b,q⟩
theorem DA{tk:Nat}{Q:Ae}(I:Inv base K e m fr env lg μ s.heap)(hl:pY l)(q:Q (.str l) μ):AK base K e m fr env lg s (PV base Q) (.str (sx l) t) {s with toks:=tk}:=
 ⟨s.heap,tk,lg,μ,rfl,I,Ext.refl _,.str l,.str l t hl,q⟩
theorem JR{x:Nat}(h:x<2 ^ 62):x.log2<62\/x=0:=by
 by_cases q:x=0
 ·exact .inr q
 ·exact .inl ((Nat.log2_lt q).mpr h)
theorem JL{x:Int}(h:x.natAbs<2 ^ 62):Builtin.Int.intBits x<=62:=by
 unfold Builtin.Int.intBits
 split
 ·decide
 ·rcases JR h with q|q
  ·assumption
  ·rename_i z;simp at z;lia
theorem ZW{x:Int}(h:x.natAbs<2 ^ 62):IntMulOk x y:=by
 unfold IntMulOk
 have:=JL h
 have e:decide (Builtin.Int.intBits x>shortFactorBits)=false:=gR (by unfold shortFactorBits;exact Nat.not_lt.mpr (mO (mn _) mi (.num 64) mi (.num 62) rfl this))
 rw[e];simp
theorem J0{y:Int}(h:y.natAbs<2 ^ 62):Builtin.divisionGoesByPylong x y=false:=by
 unfold Builtin.divisionGoesByPylong
 have:¬(if(y==0)=true then 0 else y.natAbs.log2 / 30+1)>300:=by
  split
  ·decide
  ·rcases JR h with q|q
   ·lia
   ·rename_i z;simp at z;lia
 simp only[gR this,ku]
inductive dK(base:Heap)(lg:Lg)(h:Heap)(a d:Addr)(xs:List V):Prop
 |mk (vs:Array Value) (k:Nat) (g:h.get? a=some (listOf vs k)) (e:a=d) (l:xs.length<=lim) (r:Ar base lg xs vs.toList) (sz:vs.size=xs.length) (ld:lg.led d=some (listOf vs k))
theorem Cn{n:Nat}{a d:Addr}{xs:List V}(I:Inv base K e m fr env lg μ s.heap)(hr:lg.mu[n]?=some (a,d))(hm:μ[n]?=some (.list xs)) :
  dK base lg s.heap a d xs:=by
 obtain⟨a',d',h1,h2⟩:=I.heap.each n _ hm
 cases same hr h1
 obtain⟨rfl,hl,vs,k,h3,h6⟩:=h2
 exact⟨vs,k,(I.led _ _ h3).1,rfl,hl,h6,by have:=h6.1;simp at this;lia,h3⟩
theorem A9{h:Heap}(x:h.get? a=some (listOf vs k)):h.IsList a vs:=⟨_,x,rfl,k,rfl⟩
theorem Gm.store(h:Gm base K lg a d o):∃ob,lg.led d=some ob:=by
 induction o with
 |list xs=>obtain⟨_,_,_,_,a1,_⟩:=h;exact⟨_,a1⟩
 |inst c fs=>obtain⟨_,_,_,_,_,es,k,a1,_⟩:=h;exact⟨_,a1⟩
 |dict kv=>obtain⟨_,ob,a1,_⟩:=h;exact⟨ob,a1⟩
theorem JM{h:Heap}{vs:List Value}{xs:List V}(I:Inv base K e m fr env lg μ h)(r:Ar base lg xs vs)(hl:xs.length<=lim)(k:Nat) :
  ∃lY,Inv base K e m fr env lY (μ++[.list xs]) (h.push (listOf vs.toArray k))/\Ext lg lY/\Aw base lY (.lW μ.length) (.ref h.objs.size):=by
 have I1:=I.add (h':=h.push (listOf vs.toArray k)) (a:=h.objs.size) (o:=listOf vs.toArray k) (Bl h) (fun b p q=>gF _ q) (hM h rfl)
 have x1:Ext lg (lg.put h.objs.size (listOf vs.toArray k)):=Ext.mH _ I.fresh
 have o5:∀p∈lg.mu,p.2≠h.objs.size:=fun p hp z=>by
  obtain⟨n,hn⟩:=List.mem_iff_getElem?.mp hp
  have uO:n<μ.length:=by refine I.heap.len▸?_;exact(List.getElem?_eq_some_iff.mp hn).1
  obtain⟨a,d,h1,h2⟩:=I.heap.each n _ (gV uO)
  obtain rfl:=same hn h1
  obtain⟨ob,sV⟩:=h2.store
  dsimp only at z
  rw[z]at sV
  exact absurd (g7 (I.led _ _ sV).1) (ib _)
 have oW:∀f∈fr,f.env.locals≠h.objs.size:=fun f pC z=>by
  obtain⟨⟨ob,a1,_⟩,_⟩:=I.frames f pC
  rw[z]at a1
  exact absurd (g7 (I.led _ _ a1).1) (ib _)
 have I2:=I1.new (a:=h.objs.size) (d:=h.objs.size) (o:=.list xs) o5 oW ⟨rfl,hl,vs.toArray,k,Lg.l9 ..,by
  have:=r.mono (x1.trans (Ext.lW (lg:=lg.put h.objs.size (listOf vs.toArray k)) h.objs.size h.objs.size));exact this⟩
 refine⟨_,I2,x1.trans (Ext.lW _ _),.lW _ _ h.objs.size ?_⟩
 show(lg.mu++[(h.objs.size,h.objs.size)])[μ.length]?=_
 rw[<- I.heap.len,i6 (gE _)]
 simp
theorem MB{h:Heap}(I:Inv base K e m fr env lg μ h){o:Obj}(hf:o.isFreed=false):Inv base K e m fr env (lg.put h.objs.size o) μ (h.push o)/\Ext lg (lg.put h.objs.size o):=
 ⟨I.add (Bl h) (fun b p q=>gF o q) (hM h hf),Ext.mH o I.fresh⟩
theorem QI{xs:List V}{Q:Ae}(I:Inv base K e m fr env lg μ s.heap)(r:Ar base lg xs vs)(hl:xs.length<=lim)(q:Q (.tup xs) μ) :
  wpAny (model prog w) A (newTuple vs) (AK base K e m fr env lg s (PV base Q)) E s:=by
 refine wpAny_newTuple ?_ (by rw[<- r.1];exact gA hl Cm)
 obtain⟨I',x⟩:=MB I (o:={cls:=.type "tuple",data:=.seq vs.toArray}) rfl
 refine⟨_,s.toks,_,μ,rfl,I',x,.tup xs,.tup xs _ _ vs.toArray 0 ⟨⟨by simp,by simp,by simp⟩,.inl (Lg.l9 ..)⟩ rfl rfl (by simpa using r.1) hl fun i v z a b=>(r.2 i v z a (by simpa using b)).mono x,q⟩
theorem SP{xs:List V}{Q:Ae}(I:Inv base K e m fr env lg μ s.heap)(r:Ar base lg xs vs)(hl:xs.length<=lim)(q:Q (.lW μ.length) (μ++[.list xs])) :
  wpAny (model prog w) A (newList vs) (AK base K e m fr env lg s (PV base Q)) E s:=by
 refine wpAny_newList ?_ (by refine r.1▸?_;exact gA hl Cm)
 obtain⟨lY,I',x,v⟩:=JM I r hl 0
 exact⟨_,s.toks,lY,_,rfl,I',x,_,v,q⟩
end
section
variable{prog:Program}{w:World}{A:Around}{E:Value->Shared->Prop}
variable{base:Heap}{K:Frag}{e:Env}{m:Str->Option Value}{fr:List n9}{env:An}{lg:Lg}{μ:MH}{s:Shared}
theorem VV{α:Type}(xs:List α)(n:Nat):∀(acc:Array α),List.foldl (fun x1 x2=>x1++x2) acc (List.replicate n xs.toArray)=acc++(List.replicate n xs).flatten.toArray:=by
 induction n with
 |zero=>intro acc;rfl
 |succ n ih=>
  intro acc
  rw[lU,kX,ih,lU]
  simp[Array.append_assoc]
theorem Ar.rep(h:Aw base lg v z)(n:Nat):Ar base lg (List.replicate n v) (List.replicate n z):=by
 induction n with
 |zero=>exact .nil
 |succ n ih=>exact Ar.cons h ih
theorem WD{Q:Ae}(I:Inv base K e m fr env lg μ s.heap)(h:ak op i j fun i=>Q (.int i) μ) :
  wpAny (model prog w) A (binaryOp op (.int i t) (.int j u)) (AK base K e m fr env lg s (PV base Q)) E s:=by
 induction op with
 |Add=>exact add_int (AI I h)
 |Sub=>exact sub_int (AI I h)
 |Mult=>exact mul_int (AI I (Ag (Ag h).2).2) (ZW (Ag h).1)
 |FloorDiv=>exact floordiv_int (Ag h).1 (AI I (Ag (Ag h).2).2) (.inl (J0 (Ag (Ag h).2).1))
 |Mod=>exact mod_int' (Ag h).1 (AI I (Ag h).2)
 |LShift=>
  have h1:=(Ag h).1;have h:=(Ag h).2
  have h2:=(Ag h).1;have h:=(Ag h).2
  have h3:=(Ag h).1;have h:=(Ag h).2
  exact lshift_int h1 (by have:=JL h3;lia) (AI I h)
 |RShift=>exact rshift_int (Ag h).1 (AI I (Ag h).2)
 |BitAnd=>exact and_int (AI I h)
 |BitOr=>exact or_int (AI I h)
 |BitXor=>exact xor_int (AI I h)
 |_=>exact h.elim
theorem cH{n:Int}{Q:Ae}(I:Inv base K e m fr env lg μ s.heap)(ha:Aw base lg (.lW l) x)(hb:Aw base lg (.int n) y)(hm:By μ l=some xs)
  (hx:xs=[z]) (h0:0<=n) (h1:n<=1000) (q:Q (.lW μ.length) (μ++[.list (List.replicate n.toNat z)])) :
  wpAny (model prog w) A (binaryOp .Mult x y) (AK base K e m fr env lg s (PV base Q)) E s:=by
 subst hx
 obtain⟨p,d,rfl,hr⟩:=ha.mA
 obtain⟨u,rfl⟩:=hb.ma
 obtain⟨vs,k,hg,rfl,hl,hv,nt,nK⟩:=Cn I hr (Ba hm)
 obtain⟨zw,sA,e1,hz,hn⟩:=hv.mN
 have e2:sA=[]:=by have:=hn.1;simpa using this.symm
 subst e2
 have e3:vs=#[zw]:=by apply Array.toList_inj.mp;simpa using e1
 subst e3
 refine wpAny_binaryOp_repeat_ref (T:="list") (U:="int") (by decide) ⟨_,hg,rfl⟩ (fun s'=>typeIs_int s' n u) noFill_list_mul F.fills_int_mul F.slot_int_rmul repeat_list F.slot_int_index.lookup
  (kZ F.slot_int_rmul (typeIs_int s n u) F.entry_int_rmul (F.args_int_rmul_2 _ _) (int___rmul___int_list n u p #[zw] k)
   ⟨hg,rfl,⟨_,hg,rfl⟩,kZ F.slot_list_mul ⟨_,hg,rfl⟩ F.entry_list_mul (F.args_list_mul_2 _ _)
    (AutoListH.list___mul___list_int_3 p #[zw] k n u (by simp[Builtin.List.listFitsIndex];exact⟨mI (mn _) (.neg (.num 9223372036854775808)) md (.num 0) md rfl h0,mI (mn _) (mj 0 1) (.num 9223372036854775808) md (.num 1000) rfl h1⟩) (by show ¬1*n.toNat>(2 ^ 63 - 1) / 8;lia) (by simp[Builtin.List.listTooLong,sizeLine];exact mI (mn _) md (.num 16777216) md (.num 1000) rfl h1))
    ⟨hg,?_⟩⟩)
 have e4:(List.foldl (fun x1 x2=>x1++x2) #[] (List.replicate (if(#[zw]:Array Value).isEmpty=true then 0 else n.toNat) #[zw]))=(List.replicate n.toNat zw).toArray:=by
  have:=VV [zw] n.toNat #[]
  rw[iH (by simp)]
  refine Eq.trans this ?_
  simp
 rw[e4]
 obtain⟨lY,I',x,v⟩:=JM I (Ar.rep hz n.toNat) (by simp[lim];exact mI (mn _) md (.num 1000000) md (.num 1000) rfl h1) 0
 exact⟨_,s.toks,lY,_,rfl,I',x,_,v,q⟩
theorem am{Q:Ae}(I:Inv base K e m fr env lg μ s.heap)(ha:Aw base lg a x)(hb:Aw base lg b y)(h:al op a b Q μ) :
  wpAny (model prog w) A (binaryOp op x y) (AK base K e m fr env lg s (PV base Q)) E s:=by
 induction a using V.casesOn with
 |int i=>induction b using V.casesOn with
  |int j=>obtain⟨t,rfl⟩:=ha.ma;obtain⟨u,rfl⟩:=hb.ma;exact WD I h
  |_=>exact h.elim
 |str i=>induction b using V.casesOn with
  |str j=>induction op using Operator.casesOn with
   |Add=>
    obtain⟨⟨t,rfl⟩,l1⟩:=ha.mh;obtain⟨⟨u,rfl⟩,l2⟩:=hb.mh
    refine SBL.add (fun t' k _=>?_) (by rw[BA];exact gA (Ag h).1 Cm)
    rw[LN]
    exact DA I (l1.append l2 (Ag h).1) (Ag h).2
   |_=>exact h.elim
  |_=>exact h.elim
 |lW l=>induction b using V.casesOn with
  |int n=>induction op using Operator.casesOn with
   |Mult=>
    obtain⟨xs,hm,h⟩:=Aq h
    match xs,hm,h with
    |[z],hm,h=>exact cH I ha hb hm rfl (Ag h).1 (Ag (Ag h).2).1 (Ag (Ag h).2).2
    |[],_,h=>exact h.elim
    |_ :: _ :: _,_,h=>exact h.elim
   |_=>exact h.elim
  |_=>exact h.elim
 |_=>exact h.elim
theorem Wt{Q:V->Prop}{Q':Ae}(I:Inv base K e m fr env lg μ s.heap)(ha:Aw base lg a x)(h:unW op a Q)(hq:∀v,Q v->Q' v μ) :
  wpAny (model prog w) A (unaryOp op x) (AK base K e m fr env lg s (PV base Q')) E s:=by
 induction a using V.casesOn with
 |int i=>
  obtain⟨t,rfl⟩:=ha.ma
  induction op with
  |USub=>exact neg_int (AI I (hq _ h))
  |Invert=>exact invert_int (AI I (hq _ h))
  |_=>exact h.elim
 |_=>exact h.elim
theorem GZ{Q:Bool->Shared->Prop}(ha:Aw base lg a x)(h:D1 a=some b)(q:Q b s):wpAny (model prog w) A (truthy x) Q E s:=by
 induction a using V.casesOn with
 |none=>refine ha.nu.symm▸?_;obtain rfl:=Option.some.inj h;exact truthy_none q
 |bool c=>refine ha.m4.symm▸?_;obtain rfl:=Option.some.inj h;exact jz q
 |int i=>obtain⟨t,rfl⟩:=ha.ma;obtain rfl:=Option.some.inj h;exact truthy_int q
 |_=>exact Ao h
end
section
variable{prog:Program}{w:World}{A:Around}{E:Value->Shared->Prop}
variable{base:Heap}{K:Frag}{e:Env}{m:Str->Option Value}{fr:List n9}{env:An}{lg:Lg}{μ:MH}{s:Shared}{h:Heap}
theorem Inv.kn(I:Inv base K e m fr env lg μ h)(k:Kn base lg a o):h.get? a=some o:=
 k.2.elim (fun q=>(I.led a o q).1) (fun q=>I.old a o q)
inductive af(base:Heap)(lg:Lg)(l:List V)(x:Value):Prop
 |mk (a:Addr) (o:Obj) (vs:Array Value) (n:Nat) (e:x=.ref a) (k:Kn base lg a o) (c:o.cls=.type "tuple") (d:o.data=.seq vs n) (m:l.length<=lim) (r:Ar base lg l vs.toList)
inductive Z8(base:Heap)(lg:Lg)(l:List V)(x:Value):Prop
 |mk (a:Addr) (o:Obj) (vs:Array Value) (n:Nat) (e:x=.ref a) (k:base.get? a=some o) (c:o.cls=.type "list") (d:o.data=.seq vs n) (m:l.length<=lim) (r:Ar base lg l vs.toList)
theorem Aw.nO(r:Aw base lg (.tup l) x):af base lg l x:=by
 cases r with
 |tup _ a o vs n k c d hl hm r=>exact⟨a,o,vs,n,rfl,k,c,d,hm,by exact hl,fun i v w p q=>r i v w p (by simpa using q)⟩
theorem Aw.pP(r:Aw base lg (.mM l) x):Z8 base lg l x:=by
 cases r with
 |mM _ a o vs n k c d hl hm r=>exact⟨a,o,vs,n,rfl,k,c,d,hm,by exact hl,fun i v w p q=>r i v w p (by simpa using q)⟩
theorem Aw.pQ{lo hi st:Int}{x:Value}(r:Aw base lg (.range lo hi st) x):∃a t1 t2 t3,x=.ref a/\Kn base lg a (Fh lo hi st t1 t2 t3)/\tD lo hi st:=by
 cases r with
 |range _ _ _ a t1 t2 t3 k r=>exact⟨a,t1,t2,t3,rfl,k,r⟩
theorem GG(I:Inv base K e m fr env lg μ h){o:Obj}(k:Kn base lg a o)(c:o.cls=.type "tuple")(d:o.data=.seq vs n):IsTup h a vs:=⟨o,I.kn k,c,n,d⟩
theorem Ar.nil_inv(r:Ar base lg [] vs):vs=[]:=List.length_eq_zero_iff.mp r.1.symm
theorem Gg{ss:List (List Nat)}(q:BE l=some ss)(r:Ar base lg l vs):StrsAre vs (ss.map sx)/\∀t∈ss,pY t:=by
 induction l generalizing ss vs with
 |nil=>obtain rfl:=Option.some.inj q;obtain rfl:=r.nil_inv;exact⟨.nil,fun t ht=>by cases ht⟩
 |cons v l ih=>
  obtain⟨z,sA,rfl,hz,hr⟩:=r.mN
  induction v using V.casesOn with
  |str t=>
   replace q:(BE l).map (t :: ·)=some ss:=q
   cases q':BE l with
   |none=>replace q:=q'▸q;exact Ao q
   |some pF=>
    replace q:=q'▸q;obtain rfl:=Option.some.inj q
    obtain⟨⟨u,rfl⟩,hk⟩:=hz.mh
    have h1:=(ih q' hr).1;have h2:=(ih q' hr).2
    exact⟨.cons _ _ h1,fun t' ht=>(List.mem_cons.mp ht).elim (fun q=>q▸hk) (h2 t')⟩
  |_=>exact Ao q
theorem PR(q:Hp l=some ns)(r:Ar base lg l vs):IntsAre vs ns:=by
 induction l generalizing ns vs with
 |nil=>obtain rfl:=Option.some.inj q;obtain rfl:=r.nil_inv;exact .nil
 |cons v l ih=>
  obtain⟨z,sA,rfl,hz,hr⟩:=r.mN
  induction v using V.casesOn with
  |int t=>
   replace q:(Hp l).map (t :: ·)=some ns:=q
   cases q':Hp l with
   |none=>replace q:=q'▸q;exact Ao q
   |some pF=>
    replace q:=q'▸q;obtain rfl:=Option.some.inj q
    obtain⟨u,rfl⟩:=hz.ma
    exact .cons _ _ (ih q' hr)
  |_=>exact Ao q
theorem HS(h:pY l):PyData.strOk (sx l)=true:=by
 unfold PyData.strOk sx
 simp only[List.all_toArray,ia,g9]
 exact fun c hc=>iu (h.2 c hc) (by decide)
theorem JU{α β:Type}{f:α->Option β}{a:α}{l:List α}{r:List β}(h:(a :: l).mapM f=some r):∃b t,f a=some b/\l.mapM f=some t/\r=b :: t:=by
 rw[jb]at h
 cases hf:f a with
 |none=>replace h:=hf▸h;exact Ao h
 |some b=>
  replace h:=hf▸h
  cases ht:l.mapM f with
  |none=>replace h:=ht▸h;exact Ao h
  |some t=>replace h:=ht▸h;obtain rfl:=Option.some.inj h;exact⟨b,t,rfl,rfl,rfl⟩
theorem LG(ih:∀(v:V) (d:PyData) (x:Value),AZ μ n v=some d->Aw base lg v x->∃as,Reads h x d as/\d.canLay0=true/\d.depth<=n)
  (l:List V):∀(ds:List PyData) (vs:List Value),l.mapM (AZ μ n)=some ds->Ar base lg l vs->∃as,ReadsAll h vs ds as/\PyData.canLayAll0 ds=true/\PyData.depthAll ds<=n:=by
 induction l with
 |nil=>
  intro ds vs q r
  obtain rfl:=Option.some.inj q;obtain rfl:=r.nil_inv
  exact⟨[],.nil,rfl,ic _⟩
 |cons v l ihl=>
  intro ds vs q r
  obtain⟨z,sA,rfl,hz,hr⟩:=r.mN
  obtain⟨d,t,h1,h2,rfl⟩:=JU q
  obtain⟨as,a1,a2,a3⟩:=ih _ _ _ h1 hz
  obtain⟨bs,b1,b2,b3⟩:=ihl t sA h2 hr
  exact⟨_,.cons a1 b1,(congr (congrArg and a2) b2 :),Nat.max_le.mpr ⟨a3,b3⟩⟩
theorem GR(I:Inv base K e m fr env lg μ h):∀(n:Nat) (v:V) (d:PyData) (x:Value),AZ μ n v=some d->Aw base lg v x->∃as,Reads h x d as/\d.canLay0=true/\d.depth<=n:=by
 intro n
 induction n with
 |zero=>
  intro v d x q r
  induction v using V.casesOn<;>cases q
  ·refine r.nu.symm▸?_;exact⟨_,.none,by rfl,by decide⟩
  ·refine r.m4.symm▸?_;exact⟨_,.bool _,by rfl,by simp[PyData.depth]⟩
  ·obtain⟨t,rfl⟩:=r.ma;exact⟨_,.int _ _,by rfl,by simp[PyData.depth]⟩
  ·obtain⟨⟨t,rfl⟩,hl⟩:=r.mh;exact⟨_,.str _ _,by simp[PyData.canLay0,HS hl],by simp[PyData.depth]⟩
 |succ n ih=>
  intro v d x q r
  induction v using V.casesOn with
  |none=>obtain rfl:=Option.some.inj q;refine r.nu.symm▸?_;exact⟨_,.none,by decide,by simp[PyData.depth]⟩
  |bool b=>obtain rfl:=Option.some.inj q;refine r.m4.symm▸?_;exact⟨_,.bool _,by rfl,by simp[PyData.depth]⟩
  |int b=>obtain rfl:=Option.some.inj q;obtain⟨t,rfl⟩:=r.ma;exact⟨_,.int _ _,by rfl,by simp[PyData.depth]⟩
  |str b=>obtain rfl:=Option.some.inj q;obtain⟨⟨t,rfl⟩,hl⟩:=r.mh;exact⟨_,.str _ _,by simp[PyData.canLay0,HS hl],by simp[PyData.depth]⟩
  |tup l=>
   change (l.mapM (AZ μ n)).map PyData.tuple=some d at q
   cases q':l.mapM (AZ μ n) with
   |none=>replace q:=q'▸q;exact Ao q
   |some ds=>
    replace q:=q'▸q;obtain rfl:=Option.some.inj q
    obtain⟨a,o,vs,k,rfl,hk,hc,hd,_,hr⟩:=r.nO
    obtain⟨as,a1,a2,a3⟩:=LG (h:=h) ih l ds _ q' hr
    exact⟨as,.tuple (I.kn hk) hc hd a1,by simpa [PyData.canLay0] using a2,by simp[PyData.depth];assumption⟩
  |mM l=>exact Ao q
  |range _ _ _=>exact Ao q
  |lW a=>
   obtain⟨xs,hx,q⟩:=Option.bind_eq_some_iff.mp (show(By μ a).bind _=some d from q)
   obtain⟨ds,q',q⟩:=Option.map_eq_some_iff.mp q
   cases q
   obtain⟨a,d,rfl,hr⟩:=r.mA
   obtain⟨a',d',h1,h2⟩:=I.heap.each _ _ (Ba hx)
   cases same hr h1
   obtain⟨rfl,hl,vs,k,h3,h6⟩:=h2
   obtain⟨as,a1,a2,a3⟩:=LG (h:=h) ih xs ds _ q' h6
   exact⟨_,.list (I.led _ _ h3).1 rfl rfl a1,by simpa [PyData.canLay0] using a2,by simp[PyData.depth];assumption⟩
theorem QD(a b:List Nat):(sx a==sx b)=(a==b):=by
 rw[jM,iv,iv]
 exact⟨Wj,fun q=>q▸rfl⟩
theorem TE(ss:List (List Nat))(k:List Nat):((ss.map sx).any fun x=>x==sx k)=ss.any fun x=>x==k:=by
 rw[List.any_map]
 congr 1
 funext x
 exact QD x k
theorem Mn{Q:Value->Shared->Prop}(I:Inv base K e m fr env lg μ s.heap)(hu:A.units+8<cLine)(ha:Aw base lg a x)(hb:Aw base lg b y)(h:rY μ a b=some c)(q:Q (.bool c) s) :
  wpAny (model prog w) A (compareOp .Eq x y) Q E s:=by
 obtain⟨dx,hx,h⟩:=Option.bind_eq_some_iff.mp (show(AZ μ 5 a).bind _=some c from h)
 obtain⟨dy,hy,h⟩:=Option.map_eq_some_iff.mp h
 subst h
 obtain⟨as,a1,a2,a3⟩:=GR I _ _ _ _ hx ha
 obtain⟨bs,b1,b2,b3⟩:=GR I _ _ _ _ hy hb
 exact SeqAt.compareEq_reads a1 b1 a2 b2 (by have:=Nat.min_le_left dx.depth dy.depth;lia) q
theorem d7{Q:Value->Shared->Prop}(I:Inv base K e m fr env lg μ s.heap)(hu:A.units+8<cLine)(ha:Aw base lg a x)(hb:Aw base lg b y)(h:rj μ a b=some c)(q:Q (.bool c) s) :
  wpAny (model prog w) A (compareOp .Eq x y) Q E s:=by
 induction a using V.casesOn with
 |int i=>induction b using V.casesOn with
  |int j=>obtain⟨t,rfl⟩:=ha.ma;obtain⟨u,rfl⟩:=hb.ma;obtain rfl:=Option.some.inj h;exact eq_int q
  |_=>exact Mn I hu ha hb h q
 |str i=>induction b using V.casesOn with
  |str j=>obtain⟨⟨t,rfl⟩,_⟩:=ha.mh;obtain⟨⟨u,rfl⟩,_⟩:=hb.mh;obtain rfl:=Option.some.inj h;exact eq_str (by rw[QD];exact q)
  |_=>exact Mn I hu ha hb h q
 |bool i=>induction b using V.casesOn with
  |bool j=>(refine ha.m4.symm▸?_;refine hb.m4.symm▸?_);obtain rfl:=Option.some.inj h;exact eq_bool q
  |_=>exact Mn I hu ha hb h q
 |_=>exact Mn I hu ha hb h q
theorem MN{Q:Value->Shared->Prop}(I:Inv base K e m fr env lg μ s.heap)(hu:A.units+8<cLine)(ha:Aw base lg a x)(hb:Aw base lg b y)(h:rY μ a b=some c)(q:Q (.bool (!c)) s) :
  wpAny (model prog w) A (compareOp .NotEq x y) Q E s:=by
 obtain⟨dx,hx,h⟩:=Option.bind_eq_some_iff.mp (show(AZ μ 5 a).bind _=some c from h)
 obtain⟨dy,hy,h⟩:=Option.map_eq_some_iff.mp h
 subst h
 obtain⟨as,a1,a2,a3⟩:=GR I _ _ _ _ hx ha
 obtain⟨bs,b1,b2,b3⟩:=GR I _ _ _ _ hy hb
 exact SeqAt.compareNe_reads a1 b1 a2 b2 (by have:=Nat.min_le_left dx.depth dy.depth;lia) q
theorem eR{Q:Value->Shared->Prop}(I:Inv base K e m fr env lg μ s.heap)(hu:A.units+8<cLine)(ha:Aw base lg a x)(hb:Aw base lg b y)(h:rj μ a b=some c)(q:Q (.bool (!c)) s) :
  wpAny (model prog w) A (compareOp .NotEq x y) Q E s:=by
 induction a using V.casesOn with
 |int i=>induction b using V.casesOn with
  |int j=>obtain⟨t,rfl⟩:=ha.ma;obtain⟨u,rfl⟩:=hb.ma;obtain rfl:=Option.some.inj h;exact ne_int q
  |_=>exact MN I hu ha hb h q
 |str i=>induction b using V.casesOn with
  |str j=>obtain⟨⟨t,rfl⟩,_⟩:=ha.mh;obtain⟨⟨u,rfl⟩,_⟩:=hb.mh;obtain rfl:=Option.some.inj h;exact ne_str (by rw[bne,QD];exact q)
  |_=>exact MN I hu ha hb h q
 |bool i=>induction b using V.casesOn with
  |bool j=>(refine ha.m4.symm▸?_;refine hb.m4.symm▸?_);obtain rfl:=Option.some.inj h;exact ne_bool q
  |_=>exact MN I hu ha hb h q
 |_=>exact MN I hu ha hb h q
theorem eu{Q:Value->Shared->Prop}(I:Inv base K e m fr env lg μ s.heap)(ha:Aw base lg a x)(hb:Aw base lg b y)(h:inV μ a b=some c)(q:Q (.bool c) s) :
  wpAny (model prog w) A (compareOp .In x y) Q E s:=by
 induction b using V.casesOn with
 |str t=>
  obtain⟨ch,e1,rfl⟩:=Option.map_eq_some_iff.mp (show(OL a).map _=some c from h)
  obtain rfl:=Kh e1
  obtain⟨⟨t1,rfl⟩,_⟩:=ha.mh;obtain⟨⟨u,rfl⟩,_⟩:=hb.mh
  refine in_str ?_
  have:=StrLaws.found_one (sx t) ch
  (refine(show sx [ch]={cps:=#[ch]} from rfl).symm▸?_;rewrite[this])
  exact q
 |tup l=>
  obtain⟨p,o,vs,k,rfl,hk,hc,hd,_,hr⟩:=hb.nO
  induction a using V.casesOn with
  |str i=>
   obtain⟨⟨t1,rfl⟩,_⟩:=ha.mh
   obtain⟨ss,q',h⟩:=Option.map_eq_some_iff.mp (show(BE l).map _=some c from h)
   subst h
   exact in_tuple_strs (GG I hk hc hd) (Gg q' hr).1 (by rw[TE];exact q)
  |int i=>
   obtain⟨t1,rfl⟩:=ha.ma
   obtain⟨ss,q',h⟩:=Option.map_eq_some_iff.mp (show(Hp l).map _=some c from h)
   subst h
   exact in_tuple_ints (GG I hk hc hd) (PR q' hr) q
  |_=>exact Ao h
 |lW n=>induction a using V.casesOn with
  |str i=>
   obtain⟨⟨t1,rfl⟩,_⟩:=ha.mh
   obtain⟨l,hm,h⟩:=Option.bind_eq_some_iff.mp (show(By μ n).bind _=some c from h)
   obtain⟨ss,q',h⟩:=Option.map_eq_some_iff.mp h
   subst h
   obtain⟨p,d,rfl,hr⟩:=hb.mA
   obtain⟨vs,k,hg,rfl,hl,hv,nt,nK⟩:=Cn I hr (Ba hm)
   exact in_list_strs (vs:=vs.toList) (A9 (by exact hg)) (Gg q' hv).1 (by rw[TE];exact q)
  |_=>exact Ao h
 |_=>exact Ao h
theorem JN(ha:Aw base lg a x):PySem.plainIs x .none=true/\(x==Value.none)=bc a:=by
 induction ha<;>exact⟨rfl,by first|rfl|decide⟩
theorem GF{f:Int->Int->Bool}(h:Oi a b f=some c):∃i j,a=.int i/\b=.int j/\c=f i j:=by
 obtain⟨i,e1,h⟩:=Option.bind_eq_some_iff.mp h
 obtain⟨j,e2,h⟩:=Option.map_eq_some_iff.mp h
 exact⟨i,j,Fa e1,Fa e2,h.symm⟩
theorem Hk{Q:Value->Shared->Prop}(I:Inv base K e m fr env lg μ s.heap)(hu:A.units+8<cLine)(ha:Aw base lg a x)(hb:Aw base lg b y)(h:JB μ op a b=some c)(q:Q (.bool c) s) :
  wpAny (model prog w) A (compareOp op x y) Q E s:=by
 induction op with
 |Eq=>exact d7 I hu ha hb h q
 |NotEq=>
  obtain⟨d,h',h⟩:=Option.map_eq_some_iff.mp (show(rj μ a b).map _=some c from h)
  subst h;exact eR I hu ha hb h' q
 |Lt=>obtain⟨i,j,rfl,rfl,rfl⟩:=GF h;obtain⟨t,rfl⟩:=ha.ma;obtain⟨u,rfl⟩:=hb.ma;exact lt_int q
 |LtE=>obtain⟨i,j,rfl,rfl,rfl⟩:=GF h;obtain⟨t,rfl⟩:=ha.ma;obtain⟨u,rfl⟩:=hb.ma;exact le_int q
 |Gt=>obtain⟨i,j,rfl,rfl,rfl⟩:=GF h;obtain⟨t,rfl⟩:=ha.ma;obtain⟨u,rfl⟩:=hb.ma;exact gt_int q
 |GtE=>obtain⟨i,j,rfl,rfl,rfl⟩:=GF h;obtain⟨t,rfl⟩:=ha.ma;obtain⟨u,rfl⟩:=hb.ma;exact ge_int q
 |Is=>induction b using V.casesOn with
  |none=>
   refine hb.nu.symm▸?_
   obtain⟨h1,h2⟩:=JN ha
   obtain rfl:=Option.some.inj h
   exact wpAny_is_plain h1 (by rw[h2];exact q)
  |_=>exact Ao h
 |IsNot=>induction b using V.casesOn with
  |none=>
   refine hb.nu.symm▸?_
   obtain⟨h1,h2⟩:=JN ha
   obtain rfl:=Option.some.inj h
   exact wpAny_isNot_plain h1 (by refine h2.symm▸?_;exact q)
  |_=>exact Ao h
 |In=>exact eu I ha hb h q
 |_=>exact Ao h
end
section
variable{prog:Program}{w:World}{A:Around}{E:Value->Shared->Prop}
variable{base:Heap}{K:Frag}{e:Env}{m:Str->Option Value}{fr:List n9}{env:An}{lg:Lg}{μ:MH}{s:Shared}{h:Heap}
theorem LA(q:CU n i=some k):seqIndex? i n=some k/\k<n:=by
 unfold CU at q
 unfold seqIndex?
 split at q
 ·split at q
  ·obtain rfl:=Option.some.inj q
   have h:¬i<0:=by lia
   simp only[h,kG]
   refine⟨?_,by lia⟩
   rw[iI (by lia)]
  ·exact Ao q
 ·split at q
  ·obtain rfl:=Option.some.inj q
   have h:i<0:=by lia
   simp only[h,kF]
   refine⟨?_,by lia⟩
   rw[iI (by lia)]
  ·exact Ao q
theorem Cq{i:Int}(q:CU n i=some k):-(n:Int)<=i/\i<n/\((0<=i/\k=i.toNat)\/(i<0/\k=(i+n).toNat)):=by
 unfold CU at q
 split at q
 ·split at q
  ·obtain rfl:=Option.some.inj q;lia
  ·exact Ao q
 ·split at q
  ·obtain rfl:=Option.some.inj q;lia
  ·exact Ao q
structure LS(prog:Program)(w:World)(A:Around)(E:Value->Shared->Prop)(o i:Value)(Q:Value->Shared->Prop)(s:Shared):Prop where
 how:∃T id,s.TypeIs o T/\typeLookup (.type T) "__getitem__"=pure (some (.builtin id))
 rS:wpAny (model prog w) A (getItem o i) Q E s
theorem RW{Q:Value->Shared->Prop}(x:LS prog w A E o i Q s)(hs:subscripted slice false o i=operate ops (getItem o i)) :
  wpAny (model prog w) A (subscriptTail value slice o i) Q E s:=by
 obtain⟨⟨T,id,h1,h2⟩,h3⟩:=x
 exact tail_any h1 h2 h3 hs
theorem Oh{n:Nat}{a d:Addr}{kv:List (Int×V)}(I:Inv base K e m fr env lg μ h)(hr:lg.mu[n]?=some (a,d))(hm:μ[n]?=some (.dict kv)) :
  ∃f,h.IntMap a f/\No base lg kv f/\h.DictLe a kv.length/\a=d:=by
 obtain⟨a',d',h1,h2⟩:=I.heap.each n _ hm
 cases same hr h1
 obtain⟨rfl,o,a1,a2,es,k,a3,a4,a5,a6⟩:=h2
 refine⟨_,⟨o,es,k,(I.led _ _ a1).1,a2,a3,a4,fun _=>rfl⟩,a6,fun o' es' ep' g' d'=>?_,rfl⟩
 obtain rfl:=same ((I.led _ _ a1).1) g'
 replace d':=a3▸d';cases d';exact a5
theorem Wi{Q:Ae}(I:Inv base K e m fr env lg μ s.heap)(ha:Aw base lg a x)(hb:Aw base lg b y)(h:B6 μ a b=some v)(q:Q v μ) :
  LS prog w A E x y (AK base K e m fr env lg s (PV base Q)) s:=by
 have qx:lim=1000000:=rfl
 obtain⟨i,ei,h⟩:=Option.bind_eq_some_iff.mp (show(Cx b).bind _=some v from h)
 cases Fa ei
 obtain⟨t,rfl⟩:=hb.ma
 induction a using V.casesOn with
 |lW n=>
  obtain⟨p,d,rfl,hr⟩:=ha.mA
  have h:(match μ[n]? with|some o=>(match o with|.list xs=>OR xs i|.dict kv=>Bn kv i|_=>none)|none=>none)=some v:=h
  cases hm:μ[n]? with
  |none=>replace h:=hm▸h;exact Ao h
  |some o=>
   replace h:=hm▸h
   induction o with
   |list xs=>
    obtain⟨vs,k,hg,rfl,hl,hv,nt,nK⟩:=Cn I hr hm
    have sj:=A9 hg
    obtain⟨k,hk,hx⟩:=Option.bind_eq_some_iff.mp (show(CU _ i).bind _=some v from h)
    obtain⟨wv,hw,oZ⟩:=hv.at hx
    have b1:=(Cq hk).1;have b2:=(Cq hk).2.1;have b3:=(Cq hk).2.2
    refine⟨⟨"list",_,sj.typeIs,slot_list_getitem.lookup⟩,?_⟩
    rcases b3 with⟨c1,c2⟩|⟨c1,c2⟩
    ·exact wpAny_getItem_list sj c1 (by exact qq0 (Int.ofNat_le.mpr (hJ qx)) (Int.ofNat_le.mpr hl) b2) (x:=wv) (by(refine c2▸?_;rewrite[<- iE]);exact hw) (AK.here I ⟨v,oZ,q⟩)
    ·exact wpAny_getItem_list_neg sj c1 (by exact qp (nB _ _ _) (.neg md) oH mP md (.neg mP) oH rfl (Int.ofNat_le.mpr (hJ nt.symm)) b1) (by exact qq1 (Int.ofNat_le.mpr (hJ qx)) (Int.ofNat_le.mpr hl) b1) (x:=wv) (by(refine nt.symm▸?_;refine c2▸?_;rewrite[<- iE]);exact hw) (AK.here I ⟨v,oZ,q⟩)
   |dict kv=>
    obtain⟨f,hf,hd,_⟩:=Oh I hr hm
    have h:Bn kv i=some v:=h
    rcases hd i with⟨z,_⟩|⟨v',w',z1,z2,z3⟩
    ·exact AM z h
    ·cases same z1 h
     exact⟨⟨"dict",_,hf.typeIs,F.slot_dict_getitem.lookup⟩,wpAny_getItem_intMap hf z2 (AK.now I ⟨v,z3,q⟩)⟩
   |inst c fs=>exact Ao h
 |tup l=>
  obtain⟨p,o,vs,k,rfl,hk,hc,hd,hm,hr⟩:=ha.nO
  obtain⟨k,qI,hx⟩:=Option.bind_eq_some_iff.mp (show(CU _ i).bind _=some v from h)
  obtain⟨wv,hw,oZ⟩:=hr.at hx
  have b1:=(Cq qI).1;have b2:=(Cq qI).2.1;have b3:=(Cq qI).2.2
  have it:=GG I hk hc hd
  have nt:l.length=vs.size:=by have:=hr.1;exact this
  exact⟨⟨"tuple",_,it.typeIs,slot_tuple_getitem.lookup⟩,getItem_tuple it (by exact qq1 (Int.ofNat_le.mpr (hJ qx)) (Int.ofNat_le.mpr hm) b1) (by exact qq0 (Int.ofNat_le.mpr (hJ qx)) (Int.ofNat_le.mpr hm) b2) (by rw[<- nt];exact(LA qI).1) (by refine iE▸?_;exact hw) (AK.here I ⟨v,oZ,q⟩)⟩
 |str l=>
  obtain⟨⟨t,rfl⟩,hl⟩:=ha.mh
  obtain⟨k,qI,hx⟩:=Option.bind_eq_some_iff.mp (show(CU _ i).bind _=some v from h)
  obtain⟨c,hc,rfl⟩:=Option.map_eq_some_iff.mp hx
  have b1:=(Cq qI).1;have b2:=(Cq qI).2.1;have b3:=(Cq qI).2.2
  have qS:=hl.1
  refine⟨⟨"str",_,typeIs_str _ _ _,F.slot_str_getitem.lookup⟩,getItem_str ?_ ?_ (DA I ?_ q)⟩
  ·rw[lQ,decide_eq_false_iff_not];lia
  ·(rewrite[BA];refine((LA qI).1).symm▸?_)
   simp only[sx,List.getElem?_toArray];exact hc
  ·exact⟨by simp[lim],fun z hz=>by
    refine(List.mem_singleton.mp hz).symm▸?_;exact hl.2 _ (jm hc)⟩
 |_=>exact Ao h
theorem Ft(ha:Aw base lg a x)(h:Mg n d a=some k):∃p:Option (Int×Tok),x=partValue p/\IsPart x (p.map (·.1))/\
  (match p with|none=>k=d|some (i,_)=>k=if 0<=i then min i.toNat n else(i+n).toNat):=by
 induction a using V.casesOn with
 |none=>obtain rfl:=Option.some.inj h;refine ha.nu.symm▸?_;exact⟨none,rfl,.none,rfl⟩
 |int i=>
  obtain rfl:=Option.some.inj h;obtain⟨t,rfl⟩:=ha.ma
  exact⟨some (i,t),rfl,.int _ _,rfl⟩
 |_=>exact Ao h
theorem PA{α:Type}(l:List α)(a b:Nat):(l.drop a).take (b - a)=cut l a b:=by
 unfold cut;rw[List.drop_take]
theorem Iv(i:Int)(n:Nat):max 0 (min (if i<0 then i+n else i) n)=((if 0<=i then min i.toNat n else(i+n).toNat:Nat):Int):=by
 by_cases h:0<=i
 ·rw[iH (Int.not_lt.mpr h)]
  obtain⟨k,rfl⟩:=gB h
  show max 0 (min (k:Int) n)=((min k n:Nat):Int)
  refine(show((min k n:Nat):Int)=min (k:Int) n by lia).symm▸?_;exact Int.max_eq_right (by lia)
 ·(rewrite[iI (Int.not_le.mp h)];refine(iH h).symm▸?_;rewrite[Int.min_eq_left (by exact mI (mT _ _) (.add md mP) mP (mj 0 1) (.num 0) rfl (Int.not_le.mp h))];rewrite[Int.toNat_eq_max];rewrite[Int.max_comm];rfl)
theorem K5{pa pb:Option (Int×Tok)}(ha:match pa with|none=>ka=0|some (i,_)=>ka=if 0<=i then min i.toNat n else(i+n).toNat)
  (hb:match pb with|none=>kb=n|some (i,_)=>kb=if 0<=i then min i.toNat n else(i+n).toNat) :
  sliceBounds (pa.map (·.1)) (pb.map (·.1)) none n=((ka:Int),(kb:Int),1):=by
 induction pa using Option.casesOn with
 |none=>
  induction pb using Option.casesOn with
  |none=>subst ha;subst hb;rfl
  |some p=>subst ha;subst hb;exact congrArg (fun z=>((0:Int),z,(1:Int))) (Iv p.1 n)
 |some p=>
  induction pb using Option.casesOn with
  |none=>subst ha;subst hb;exact congrArg (fun z=>(z,(kb:Int),(1:Int))) (Iv p.1 kb)
  |some q=>subst ha;subst hb;exact(congrArg (fun z=>(z,_,(1:Int))) (Iv p.1 n)).trans (congrArg (fun z=>(_,z,(1:Int))) (Iv q.1 n))
theorem Tp{pa pb:Option (Int×Tok)}(ha:match pa with|none=>ka=0|some (i,_)=>ka=if 0<=i then min i.toNat n else(i+n).toNat)
  (hb:match pb with|none=>kb=n|some (i,_)=>kb=if 0<=i then min i.toNat n else(i+n).toNat) :
  Builtin.Str.strSliceIndices (pa.map (·.1)) (pb.map (·.1)) 1 n=(List.range (kb - ka)).map (ka+·):=by
 rw[<- sliceRange_one]
 have h:=K5 ha hb
 have h1:=congrArg (·.1) h
 have h2:=congrArg (·.2.1) h
 exact congr (congrArg (fun x y=>sliceRange x y 1) h1) h2
end
section
variable{prog:Program}{w:World}{A:Around}{E:Value->Shared->Prop}
variable{base:Heap}{K:Frag}{e:Env}{m:Str->Option Value}{fr:List n9}{env:An}{lg:Lg}{μ:MH}{s:Shared}{h:Heap}
theorem Ar.drop{l:List V}{vs:List Value}(r:Ar base lg l vs)(n:Nat):Ar base lg (l.drop n) (vs.drop n):=
 ⟨by simp[r.1],fun i v w a b=>r.2 (n+i) v w (by simpa using a) (by simpa using b)⟩
theorem Ar.take{l:List V}{vs:List Value}(r:Ar base lg l vs)(n:Nat):Ar base lg (l.take n) (vs.take n):=
 ⟨by simp[r.1],fun i v w a b=>r.2 i v w (by replace a:=List.getElem?_take▸a;split at a;exact a;exact Ao a) (by replace b:=List.getElem?_take▸b;split at b;exact b;exact Ao b)⟩
theorem Ar.cut(r:Ar base lg l vs)(a b:Nat):Ar base lg (cut l a b) (cut vs a b):=(r.take b).drop a
theorem Ub{α:Type}(l:List α)(a b:Nat):(cut l a b).length<=l.length:=by unfold cut;simp;lia
theorem JQ{l:List V}{vs:Array Value}{a b:Nat}{lo hi:V}{z y:Value}{p:Addr}{Q:Ae}(I:Inv base K e m fr env lg μ s.heap)(sj:s.heap.IsList p vs)(hr:Ar base lg l vs.toList)(hl:l.length<=lim)
  (pW:Aw base lg lo z) (qf:Aw base lg hi y) (h1:Mg l.length 0 lo=some a) (h2:Mg l.length l.length hi=some b) (q:Q (.lW μ.length) (μ++[.list (cut l a b)])) :
  LS prog w A E (.ref p) (.ref s.heap.objs.size) (AK base K e m fr env lg s (PV base Q)) {s with heap:=s.heap.push {cls:=.type "slice",data:=.fields #[z,y,.none]}}:=by
 obtain⟨pa,_,p2,p3⟩:=Ft pW h1
 obtain⟨pb,_,q2,q3⟩:=Ft qf h2
 have nt:l.length=vs.size:=by have:=hr.1;simpa using this
 refine⟨⟨"list",_,(sj.push _).typeIs,slot_list_getitem.lookup⟩,wpAny_getItem_list_slice (sj.push _) (Heap.IsSliceOf.new ..) p2 q2 .none (by simp) ?_ (by rw[<- nt];exact gA hl Cm)⟩
 have e:slicePick vs (pa.map (·.1)) (pb.map (·.1)) none=(cut vs.toList a b).toArray:=by
  unfold slicePick
  rw[K5 (n:=vs.size) (ka:=a) (kb:=b) (by cases pa<;>simpa [nt] using p3) (by cases pb<;>simpa [nt] using q3)]
  simp only[sliceRange_one,pick_run,PA]
 rw[e]
 obtain⟨lY,I',x,v⟩:=JM (I.push {cls:=.type "slice",data:=.fields #[z,y,.none]}) (hr.cut a b) (gA (Ub ..) hl) 0
 exact AK.to I' x ⟨_,v,q⟩
theorem V7{o lo hi:V}{x z y:Value}{Q:Ae}(I:Inv base K e m fr env lg μ s.heap)(ho:Aw base lg o x)(pW:Aw base lg lo z)(qf:Aw base lg hi y)(h:V6 o lo hi Q μ) :
  LS prog w A E x (.ref s.heap.objs.size) (AK base K e m fr env lg s (PV base Q)) {s with heap:=s.heap.push {cls:=.type "slice",data:=.fields #[z,y,.none]}}:=by
 induction o using V.casesOn with
 |str l=>
  obtain⟨a,h1,h⟩:=Aq h
  obtain⟨b,h2,q⟩:=Aq h
  obtain⟨⟨t,rfl⟩,hl⟩:=ho.mh
  obtain⟨pa,rfl,p2,p3⟩:=Ft pW h1
  obtain⟨pb,rfl,q2,q3⟩:=Ft qf h2
  refine⟨⟨"str",_,typeIs_str _ _ _,F.slot_str_getitem.lookup⟩,wpAny_getItem_str_slice (l:=pa) (u:=pb) (st:=none) ⟨_,hM _ rfl,rfl,rfl⟩ rfl ?_⟩
  have e1:slicePicked (sx l) pa pb none=(List.range (b - a)).map (a+·):=by
   exact Tp (n:=(sx l).length) (by induction pa using Option.casesOn<;>simpa [BA] using p3) (by induction pb using Option.casesOn<;>simpa [BA] using q3)
  have hb:b<=l.length\/b<=a:=by
   rcases pb with _|⟨j,u⟩
   ·exact .inl (hJ q3)
   ·dsimp only at q3;split at q3<;>omega
  have e2:(⟨((slicePicked (sx l) pa pb none).filterMap ((sx l).cps[·]?)).toArray⟩:Str)=sx (cut l a b):=by
   (refine e1.symm▸?_;rewrite[pick_run];rewrite[PA]);rfl
  have ok:pY (cut l a b):=⟨gA (Ub ..) hl.1,fun c hc=>hl.2 c (List.mem_of_mem_take (List.mem_of_mem_drop hc))⟩
  have I':=I.push {cls:=.type "slice",data:=.fields #[partValue pa,partValue pb,.none]}
  unfold sliceMade
  refine e2.symm▸?_
  split
  ·rename_i hc
   have e3:cut l a b=l:=by
    replace hc:=e1▸hc
    simp[BA]at hc
    (rewrite[<- PA];refine hc.symm▸?_)
    by_cases hz:l.length=0
    ·refine(List.length_eq_zero_iff.mp hz).symm▸?_;rfl
    ·have:a=0:=by lia
     subst this
     simp
   exact AK.now I' ⟨_,.str l t hl,by exact e3▸q⟩
  ·exact⟨by rw[BA];exact gA ok.1 Cm,AK.now I' ⟨_,.str _ _ ok,q⟩⟩
 |mM l=>
  obtain⟨a,h1,h⟩:=Aq h
  obtain⟨b,h2,q⟩:=Aq h
  obtain⟨p,o,vs,n,rfl,hk,hc,hd,hm,hr⟩:=ho.pP
  exact JQ I ⟨o,I.old _ _ hk,hc,n,hd⟩ hr hm pW qf h1 h2 q
 |lW n=>
  obtain⟨l,hm,h⟩:=Aq h
  obtain⟨a,h1,h⟩:=Aq h
  obtain⟨b,h2,q⟩:=Aq h
  obtain⟨p,d,rfl,hr⟩:=ho.mA
  obtain⟨vs,k,hg,rfl,hl,hv,nt,nK⟩:=Cn I hr (Ba hm)
  exact JQ I (A9 hg) hv hl pW qf h1 h2 q
 |_=>exact h.elim
def PU(Q:MH->Prop)(_:Lg)(μ:MH)(_:Unit):Prop:=Q μ
theorem LJ{Q:MH->Prop}(I:Inv base K e m fr env lg μ s.heap)(ho:Aw base lg o x)(hi:Aw base lg i y)(hv:Aw base lg v z)(h:M9 o i v Q μ) :
  wpAny (model prog w) A (setItem x y z) (AK base K e m fr env lg s (PU Q)) E s:=by
 induction o using V.casesOn with
 |lW n=>induction i using V.casesOn with
  |int k=>
   obtain⟨xs,hm,h⟩:=Aq h
   have hm:=Ba hm
   have h0:=(Ag h).1;have h:=(Ag h).2
   have h1:=(Ag h).1;have q:=(Ag h).2
   obtain⟨p,d,rfl,hr⟩:=ho.mA
   obtain⟨t,rfl⟩:=hi.ma
   obtain⟨vs,n',hg,rfl,hl,tP,nt,nK⟩:=Cn I hr hm
   have qx:lim=1000000:=rfl
   refine ki_setAt hg h0 (by exact tA (nB _ _ _) (mj 0 1) (.num 9223372036854775808) (mj 0 1) mP mP oH oH (.num 1000000) rfl h1 (Int.ofNat_le.mpr hl) (Int.ofNat_le.mpr (hJ qx))) (by exact qq2 h1 (Int.ofNat_le.mpr (hJ nt.symm))) ?_
   have up:=PySem.IsL.update (n:=n') hg (·.setIfInBounds k.toNat z)
   have x1:Ext lg (lg.put p (listOf (vs.setIfInBounds k.toNat z) (if(vs.setIfInBounds k.toNat z).size==vs.size then n' else n'+1))):=Ext.nP _ nK (.inl ⟨rfl,_,_,rfl⟩)
   have I':=I.turn (o:=.list (xs.set k.toNat v)) hr nK (.inl ⟨rfl,_,_,rfl⟩) (iT s.heap p _) up ⟨rfl,by simpa using hl,_,_,Lg.l9 ..,by
    have:=(tP.mono x1).set k.toNat (hv.mono x1);simpa using this⟩
   exact AK.to I' x1 q
  |_=>exact h.elim
 |_=>exact h.elim
structure ua(K:Frag):Prop where
 set:∀c C,Cc K c C->c<3->findIn K (.ref C) "__setattr__"=some (some (.builtin "object.__setattr__"))/\plainOver K C=true/\hasDictIn K C=true
 rW:∀c C,Cc K c C->c<3->∀a∈EI,takerIn K C (nm a)=some none/\plainGet K C (nm a)=true/\findIn K (.ref C) (nm a)=some none
noncomputable def ndB(m:Nat)(l:List Nat):Bool:=match l with
 |[]=>true
 |a :: l=>!m.testBit a&&ndB (m||| 2 ^ a) l
theorem bE{l:List Nat}{m:Nat}(h:ndB m l=true):l.Nodup/\∀x∈l,m.testBit x=false:=by
 induction l generalizing m with
 |nil=>exact⟨.nil,nofun⟩
 |cons a l ih=>
  have r:=ih (Aa h)
  have q:∀x∈l,m.testBit x=false/\(2 ^ a).testBit x=false:=fun x hx=>by
   have:=r.2 x hx
   rw[jy]at this
   exact Bool.or_eq_false_iff.mp this
  refine⟨List.nodup_cons.mpr ⟨fun k=>?_,r.1⟩,List.forall_mem_cons.mpr ⟨(ji _).mp (Al h),fun x hx=>(q x hx).1⟩⟩
  exact absurd (Nat.testBit_two_pow_self.symm.trans (q a k).2) Bool.noConfusion
noncomputable def ndF(l:List Nat):Nat:=l.foldl (fun a c=>a*37+c) 0 % 6607
theorem Vf:Bg.Nodup:=
 List.Pairwise.of_map ndF (fun _ _ h e=>h (congrArg ndF e)) (bE (m:=0) (by decide +kernel)).1
theorem Hy(ha:a<Bg.length)(hb:b<Bg.length)(h:nm a=nm b):a=b:=by
 have:=Wj h
 rw[gU,gU,gV ha,gV hb]at this
 exact(List.getElem_inj Vf).mp this
theorem Ve(ha:a<Bg.length)(hb:b<Bg.length):(nm a==nm b)=decide (a=b):=by
 rw[jM,iv,g9]
 exact⟨Hy ha hb,fun q=>q▸rfl⟩
theorem Nx:∀a∈EI,a<Bg.length:=by decide +kernel
theorem Ht(n:Str)(t:Tok)(k:Str):(Value.str n t).isStr k=(n==k):=rfl
theorem D2.get(r:D2 base lg fs es)(ha:a<Bg.length)(q:Xx fs a=some v):∃z,getL (nm a) es=some (some z)/\Aw base lg v z:=by
 induction r with
 |nil=>exact Ao q
 |cons b u fs hs t z es hb hv _ ih=>
  unfold Xx at q
  split at q
  ·rename_i e';obtain rfl:=Option.some.inj q;subst e'
   refine⟨z,?_,hv⟩
   unfold getL
   rw[List.find?_cons_of_pos (by rw[Ht,io])]
  ·rename_i ne
   obtain⟨z',h1,h2⟩:=ih q
   refine⟨z',?_,h2⟩
   unfold getL at h1 ⊢
   rw[List.find?_cons_of_neg (by rw[Ht,Ve hb ha,g9];exact ne)]
   split at h1
   ·exact h1
   ·split at h1<;>exact nomatch h1
theorem D2.noRef{es:List DictEntry}(r:D2 base lg fs es):es.any (·.refKey)=false:=by
 induction r with
 |nil=>rfl
 |cons b u fs hs t z es hb hv _ ih=>rw[lp,ih];rfl
theorem D2.put(r:D2 base lg fs es)(ha:a<Bg.length)(hv:Aw base lg v z)(r9:Int)(tk:Tok) :
  D2 base lg (Ox fs a v) (putL (nm a) r9 (.str (nm a) tk) z es):=by
 induction r with
 |nil=>exact .cons _ _ _ _ _ _ _ ha hv .nil
 |cons b u fs hs t y es hb hu r ih=>
  unfold Ox putL
  rw[Ht,Ve hb ha]
  by_cases q:b=a
  ·rw[iI q,iI (gy q)];exact .cons _ _ _ _ _ _ _ hb hv r
  ·rw[iH q,iH (by rw[g9];exact q)];exact .cons _ _ _ _ _ _ _ hb hu ih
theorem D2.length{fs:List (Nat×V)}{es:List DictEntry}(r:D2 base lg fs es):es.length=fs.length:=by
 induction r with
 |nil=>rfl
 |cons _ _ _ _ _ _ _ _ _ _ ih=>simp[ih]
theorem Oy(fs:List (Nat×V))(a:Nat)(v:V):(Ox fs a v).length<=fs.length+1:=by
 induction fs with
 |nil=>simp[Ox]
 |cons p fs ih=>obtain⟨k,w⟩:=p;unfold Ox;split<;>simp;exact mO (mT _ _) mi (mt 1 1) mi (mt 1 1) rfl ih
theorem Aw.handed(r:Aw base lg v x):handedIn x=true:=by induction r<;>rfl
inductive dJ(base:Heap)(K:Frag)(lg:Lg)(h:Heap)(a d:Addr)(c:Nat)(fs:List (Nat×V)):Prop
 |mk (C:Addr) (es:List DictEntry) (k:Nat) (c3:c<3) (cl:Cc K c C) (i:InstAt h a (instObj C d) C (some (dictOf es k))) (l:fs.length<=900) (ld:lg.led d=some (dictOf es k)) (la:lg.led a=some (instObj C d)) (f:D2 base lg fs es)
theorem UH{n:Nat}{a d:Addr}{c:Nat}{fs:List (Nat×V)}(I:Inv base K e m fr env lg μ h)(hr:lg.mu[n]?=some (a,d))(hm:μ[n]?=some (.inst c fs)) :
  dJ base K lg h a d c fs:=by
 obtain⟨a',d',h1,h2⟩:=I.heap.each n _ hm
 cases same hr h1
 obtain⟨hc,C,c1,c2,c3,es,k,c4,c5⟩:=h2
 exact⟨C,es,k,hc,c1,⟨(I.led _ _ c2).1,rfl,rfl,(I.led _ _ c4).1⟩,c3,c4,c2,c5⟩
theorem QS{Q:Ae}(C:ua K)(X:K.In base)(I:Inv base K e m fr env lg μ s.heap)(hu:Aw base lg u x)(ha:a∈EI)(h:QR μ u a=some v)(q:Q v μ) :
  wpAny (model prog w) A (getAttr x (nm a) expr) (AK base K e m fr env lg s (PV base Q)) E s:=by
 induction u using V.casesOn with
 |lW n=>
   obtain⟨⟨c,fs⟩,hm,h⟩:=Option.bind_eq_some_iff.mp (show(UG μ n).bind _=some v from h)
   have hm:μ[n]?=some (.inst c fs):=Lk hm
   obtain⟨p,d,rfl,hr⟩:=hu.mA
   obtain⟨Ca,es,k,hc,hC,hI,_,_,_,hF⟩:=UH I hr hm
   obtain⟨z,hz,hv⟩:=hF.get (Nx a ha) h
   have t1:=(C.rW c Ca hC hc a ha).1;have t2:=(C.rW c Ca hC hc a ha).2.1;have t3:=(C.rW c Ca hC hc a ha).2.2
   have s1:=(C.set c Ca hC hc).1;have s2:=(C.set c Ca hC hc).2.1;have s3:=(C.set c Ca hC hc).2.2
   exact get_value (X.keeps I.old) hI (plainGet_of t2).1 (findObj_own s3 t3 rfl (by rw[lookIn_dict];exact hz)) hv.handed (AK.now I ⟨v,hv,q⟩)
 |_=>exact Ao h
theorem Kf{Q:MH->Prop}(C:ua K)(X:K.In base)(I:Inv base K e m fr env lg μ s.heap)(hu:Aw base lg u x)(hv:Aw base lg v z)(ha:a∈EI)(h:Ke u a v Q μ) :
  wpAny (model prog w) A (setAttr x (nm a) z) (AK base K e m fr env lg s (PU Q)) E s:=by
 induction u using V.casesOn with
 |lW n=>
  obtain⟨⟨c,fs⟩,hm,h⟩:=Aq h
  have hm:μ[n]?=some (.inst c fs):=Lk hm
  have hl:=(Ag h).1;have q:=(Ag h).2
  obtain⟨p,d,rfl,hr⟩:=hu.mA
  obtain⟨Ca,es,k,hc,hC,hI,_,hd,hp,hF⟩:=UH I hr hm
  have t1:=(C.rW c Ca hC hc a ha).1;have t2:=(C.rW c Ca hC hc a ha).2.1;have t3:=(C.rW c Ca hC hc a ha).2.2
  have s1:=(C.set c Ca hC hc).1;have s2:=(C.set c Ca hC hc).2.1;have s3:=(C.set c Ca hC hc).2.2
  have Xh:=X.keeps I.old
  refine set_plain Xh hI s1 (osa_open (s:={s with toks:=s.toks+1}) Xh hI s2 t1 fun b=>?_)
  obtain⟨cd,hcd,sO⟩:=any_some s3
  have uG:s.heap.get? d=some (dictOf es k):=(I.led _ _ hd).1
  have hph:s.heap.get? p=some (instObj Ca d):=(I.led _ _ hp).1
  refine gw (gN (gw (gw (kr hph (gw ((lN Xh hcd).at ?_))))))
  refine sO.symm▸?_
  refine gN (a:=some d) (gw (gN (gw ?_)))
  refine gw (gw (kR (gN (gw (wpAny_mkText (gw (kr uG ?_)))))))
  show wpAny _ _ (if aRefKeyMayBeTheName (nm a) es.toArray=true then _ else _) _ _ _
  have hno:es.any (·.refKey)=false:=hF.noRef
  rw[aRefKeyMayBeTheName_at,show(es.toArray.any (·.refKey))=false by refine Array.any_toList▸?_;exact hno,jS]
  refine wpAny_updatePart uG ?_
  have e1:=putName_dict (nm a) (PyData.keyHash w.params (nm a)) (.str (nm a) (s.toks+1)) z es k
  have up:=iq (Obj.putName (nm a) (PyData.keyHash w.params (nm a)) (.str (nm a) (s.toks+1)) z) uG (by refine e1.symm▸?_;rfl)
  replace up:=e1▸up
  have F1:=hF.put (Nx a ha) hv (PyData.keyHash w.params (nm a)) (s.toks+1)
  have l1:=F1.length
  have l2:=Oy fs a v
  refine gw (wpAny_lookBehind up (pastItsLine_dict (by(rewrite[List.size_toArray];refine sizeLine_eq.symm▸?_);exact tB (nB _ _ _) mD (.add (.num 16777216) (.num 1)) mi (.num 900) mD nE nE (mt 0 1) rfl l (hJ l1) l2)) (gN ?_))
  have x1:Ext lg (lg.put d (dictOf (putL (nm a) (PyData.keyHash w.params (nm a)) (.str (nm a) (s.toks+1)) z es) (putN (nm a) es k))):=Ext.nP _ hd (.inr ⟨_,_,rfl⟩)
  have ne:p≠d:=by
   rintro rfl
   cases same hp hd
  have I':=I.turn (o:=.inst c (Ox fs a v)) hr hd (.inr ⟨_,_,rfl⟩) (iT s.heap d _) up ⟨hc,Ca,hC,by refine(Lg.l8 _ _ ne).symm▸?_;exact hp,by exact o9 (mT _ _) mD (.num 900) (mt 0 1) (.num 900) mD (mt 0 1) rfl hl l2,_,_,Lg.l9 ..,F1.mono x1⟩
  exact AK.to I' x1 q
 |_=>exact h.elim
end
def ou(A:Around)(h:Heap):Prop:=A.handled=none\/∃a o arr,A.handled=some (.ref a)/\h.get? a=some o/\o.data=.fields arr/\arr[2]?=some .none
noncomputable def oD(A:Around):List Addr:=match A.handled with|some (.ref a)=>[a]|_=>[]
theorem ou.keeps{h h':Heap}(x:ou A h)(k:∀b∈oD A,∀o,h.get? b=some o->h'.get? b=some o):ou A h':=
 x.imp id fun nR=>by obtain⟨a,o,arr,e,g,r⟩:=nR;exact⟨a,o,arr,e,k a (by simp[oD,e]) o g,r⟩
theorem ou.mono{h h':Heap}(x:ou A h)(k:∀b o,h.get? b=some o->h'.get? b=some o):ou A h':=x.keeps fun b _ o e=>k b o e
theorem ou.lt{h:Heap}(x:ou A h):∀b∈oD A,b<h.objs.size:=by
 rcases x with e|⟨a,o,arr,e,g,_⟩<;>intro b hb
 ·simp[oD,e]at hb
 ·simp[oD,e]at hb;subst hb;exact g7 g
theorem ou.in1{A:Around}(x:ou A h):ou A.in1 h:=x
theorem KP:entryFor table "proto.unchain"=some Builtin.«proto.unchain»:=entryFor_of_tree (by kernel_rfl)
section
variable{prog:Program}{w:World}{A:Around}{s:Shared}
theorem LB{α:Type}{o:Obj}{arr:Array Value}{Q:α->Shared->Prop}{E:Value->Shared->Prop}(H:ou A s.heap)(ho:s.heap.get? a=some o)(hd:o.data=.fields arr)(hz:2<arr.size)
  (ne:a∉oD A) (h:∀h',Heap.SameBut a s.heap h'->(∃o',h'.get? a=some o'/\o'.cls=o.cls/\∃qD,o'.data=.fields qD/\qD.size=arr.size/\qD[1]?=arr[1]?/\(A.handled=none->qD=arr))->E (.ref a) {s with heap:=h'}) :
  wpAny (model prog w) A (raiseNew (.ref a):Sem α) Q E s:=by
 refine gw (wpAny_handled ?_)
 rcases H with e|⟨b,ob,brr,e,g,d,z⟩
 ·rw[e]
  exact gw (gN (lL (h s.heap (Heap.SameBut.refl ..) ⟨o,ho,rfl,arr,hd,rfl,rfl,fun _=>rfl⟩)))
 ·refine e.symm▸?_
  have nab:b≠a:=by rintro rfl;exact ne (by simp[oD,e])
  show wpAny _ _ (if(Value.ref b != Value.ref a)=true then(holding [Value.ref a] (runValue (Code.builtin "proto.unchain" ⟨[Value.ref a,.ref b,.ref b,.bool false],[]⟩)) >>= fun _=>updateField a 2 (.ref b) >>= fun _=>throw (Value.ref a))else _) _ _ s
  rw[iI (by rw[ie];intro x;injection x with x;exact nab x)]
  refine gw (hV (wpAny_runValue (codeAny_builtin KP ?_)))
  refine gw (iw g d z ?_)
  show wpAny _ _ (if(Value.none==Value.none)=true then ret .none else _) _ _ s
  refine gN ?_
  refine gw (jx (i:=2) (x:=.ref b) ho hd hz (lL (h _ (iT ..) ⟨_,iq _ ho (kj (jv hd _)),Obj.cls_mapFields ..,_,jv hd _,by simp,by simp,fun z=>by exact AM z e⟩)))
theorem ED{α:Type}{Q:α->Shared->Prop}{E:Value->Shared->Prop}(H:ou A s.heap)
  (h:∀h' x,(∀b o,s.heap.get? b=some o->h'.get? b=some o)->(∃o,h'.get? x=some o/\o.cls=.type "StopIteration")->E (.ref x) {s with heap:=h'}) :
  wpAny (model prog w) A (newExc (.type "StopIteration") [] >>= fun e=>(raiseNew e:Sem α)) Q E s:=by
 refine gw ?_
 simp only[newExc,newTuple]
 refine gw (kK ?_ (by size_fits))
 refine gw (m:=firstArgMember _ _) (kq (a:=Value.none) (by first|rfl|(simp only[firstArgMember];rfl)) ?_)
 refine kK ?_ (by size_fits)
 refine LB (H.mono fun b o e=>gF _ (gF _ e)) (hM _ rfl) rfl (by rw[Array.size_append];exact g6 (by decide:2<6) (hH ..)) (fun hm=>?_) fun h' hs hx=>?_
 ·have:=H.lt _ hm
  simp only[i5]at this
  exact absurd this (Nat.not_lt.mpr (iX _))
 ·obtain⟨o',g,c,_⟩:=hx
  refine h h' _ (fun b o e=>?_) ⟨o',g,c⟩
  refine(hs.2 b (fun q=>?_)).trans (gF _ (gF _ e))
  have:=g7 e
  subst q
  simp only[i5]at this
  exact absurd this (Nat.not_lt.mpr (iX _))
section
variable{E:Value->Shared->Prop}{it:Addr}{Q:Option Value->Shared->Prop}
theorem Mm(hs:Heap.ExtBut it s.heap h₁)(hQ:∀h',Heap.ExtBut it s.heap h'->Q none {s with heap:=h'}){h':Heap}{x:Addr}(hk:∀b o,h₁.get? b=some o->h'.get? b=some o)
  (hx:∃o,h'.get? x=some o/\o.cls=.type "StopIteration") :
  wpAny (model prog w) A (do if <- isInstance (.ref x) (.type "StopIteration")then pure none else throw (.ref x):Sem (Option Value)) Q E {s with heap:=h'}:=by
 obtain⟨o,g,c⟩:=hx
 refine gw (wpAny_isInstance (T:="StopIteration") (b:=true) ⟨o,g,c⟩ isSubtype_stop ?_)
 exact gN (hQ _ fun b o q e=>hk b o (hs b o q e))
theorem KT(H:ou A s.heap)(ni:it∉oD A)
  (hit:s.heap.IsListIter it l i) (hl:s.heap.IsList l items) (hx:items[i]?=none)
  (hQ:∀h',Heap.ExtBut it s.heap h'->Q none {s with heap:=h'}):wpAny (model prog w) A (pyNext (.ref it)) Q E s:=by
 obtain⟨o,ho,hc,hd⟩:=id hit
 obtain⟨ol,uR,_,nl,uH⟩:=hl
 refine gw (kA (wpAny_callSpecial?_slot (name:=Str.ofString "__next__") hit.typeIs slot_listiter_next
  (j2 slot_listiter_next hit.typeIs entry_listiter_next ?_ (args_listiter_next _))))
 show wpAny _ _ (field (.ref it) 0 >>= _) _ _ s
 refine gw (iw ho hd (x:=.ref l) rfl ?_)
 refine gw (iw ho hd (x:=.int i 0) rfl ?_)
 refine gw (wpAny_seqItems uR uH ?_)
 simp only[kP,hx]
 refine gw (jQ (gw (jx ho hd (by simp) ?_)))
 have hs:=iT s.heap it (Obj.mapFields (·.setIfInBounds 0 .none))
 refine ED (A:=A.in1) (H.in1.keeps fun b hb o e=>(hs.2 b (fun q=>ni (q▸hb))).trans e) fun h' x hk hx=>?_
 exact Mm hs.extBut hQ hk hx
theorem Dv(H:ou A s.heap)(ni:it∉oD A)
  (hit:s.heap.IsTupleIter it l i) (hl:s.heap.IsTuple l items) (hx:items[i]?=none)
  (hQ:∀h',Heap.ExtBut it s.heap h'->Q none {s with heap:=h'}):wpAny (model prog w) A (pyNext (.ref it)) Q E s:=by
 obtain⟨o,ho,hc,hd⟩:=id hit
 obtain⟨ol,uR,_,nl,uH⟩:=hl
 refine gw (kA (wpAny_callSpecial?_slot (name:=Str.ofString "__next__") hit.typeIs lh
  (j2 lh hit.typeIs F.entry_tuple_iterator_next ?_ (F.args_tuple_iterator_next_1 _))))
 show wpAny _ _ (field (.ref it) 0 >>= _) _ _ s
 refine gw (iw ho hd (x:=.ref l) rfl ?_)
 refine gw (iw ho hd (x:=.int i 0) rfl ?_)
 refine gw (wpAny_seqItems uR uH ?_)
 simp only[kP,hx]
 refine gw (jQ (gw (jx ho hd (by simp) ?_)))
 have hs:=iT s.heap it (Obj.mapFields (·.setIfInBounds 0 .none))
 refine ED (A:=A.in1) (H.in1.keeps fun b hb o e=>(hs.2 b (fun q=>ni (q▸hb))).trans e) fun h' x hk hx=>?_
 exact Mm hs.extBut hQ hk hx
theorem JZ{x left step:Int}(H:ou A s.heap)(hit:IsRangeIter s.heap it x left step)(sS:left<=0)
  (hQ:∀h',Heap.ExtBut it s.heap h'->Q none {s with heap:=h'}):wpAny (model prog w) A (pyNext (.ref it)) Q E s:=by
 have hT:s.TypeIs (.ref it) "range_iterator":=⟨_,hit,rfl⟩
 refine gw (kA (wpAny_callSpecial?_slot (name:=Str.ofString "__next__") hT li
  (j2 li hT F.entry_range_iterator_next ?_ (F.args_range_iterator_next_1 _))))
 show wpAny _ _ (field (.ref it) 0 >>= _) _ _ s
 refine gw (iw hit rfl (x:=rawInt x) rfl ?_)
 refine gw (iw hit rfl (x:=rawInt left) rfl ?_)
 refine gw (iw hit rfl (x:=rawInt step) rfl ?_)
 show wpAny _ _ (if left<=0 then _ else _) _ _ s
 refine(iI sS).symm▸?_
 refine gw (jQ ?_)
 refine gw ?_
 refine ED (A:=A.in1) H.in1 fun h' x hk hx=>?_
 exact Mm (fun _ _ _ e=>e) hQ hk hx
theorem JY{x:Str}(H:ou A s.heap)(ni:it∉oD A)
  (hit:s.heap.IsStrIter it "str_ascii_iterator" x t i) (hx:x.cps[i]?=none)
  (hQ:∀h',Heap.ExtBut it s.heap h'->Q none {s with heap:=h'}):wpAny (model prog w) A (pyNext (.ref it)) Q E s:=by
 obtain⟨o,ho,hc,hd⟩:=id hit
 refine gw (kA (wpAny_callSpecial?_slot (name:=Str.ofString "__next__") hit.typeIs kU
  (j2 kU hit.typeIs F.entry_str_ascii_iterator_next ?_ (F.args_str_ascii_iterator_next_1 _))))
 show wpAny _ _ (field (.ref it) 0 >>= _) _ _ s
 refine gw (iw ho hd (x:=.str x t) rfl ?_)
 show wpAny _ _ (field (.ref it) 1 >>= _) _ _ s
 refine gw (iw ho hd (x:=.int i 0) rfl ?_)
 simp only[kP,hx]
 refine gw (jQ (gw (jx ho hd (by simp) (gw (wpAny_letGo ?_)))))
 have hs:=iT s.heap it (Obj.mapFields (·.setIfInBounds 0 .none))
 refine ED (A:=A.in1) (H.in1.keeps fun b hb o e=>(hs.2 b (fun q=>ni (q▸hb))).trans e) fun h' x hk hx=>?_
 exact Mm hs.extBut hQ hk hx
end
end
theorem OZ{prog:Program}{w:World}{A:Around}(I ax:Addr)(hne:ax≠I)(ni:I∉oD A)(items:Array Value) :
  Walks prog w A I (I :: ax :: oD A) [I] items.size (fun i v=>items[i]?=some v) (fun i h=>(h.IsTupleIter I ax i/\h.IsTuple ax items)/\ou A h) where
 sub:=fun b hb=>by simp at hb;simp[hb]
 frame:=fun _ _ _ st hk=>⟨⟨st.1.1.at fun o e=>hk I (by simp) o e,st.1.2.at fun o e=>hk ax (by simp) o e⟩,st.2.keeps fun b hb=>hk b (by simp[hb])⟩
 item:=fun i s Q E hi st hQ=>by
  refine lu st.1.1 st.1.2 (x:=items[i]) (by simp[hi]) fun h' oX pO=>?_
  exact hQ _ h' s.toks (by simp[hi]) ⟨⟨oX,st.1.2.extBut pO.extBut hne⟩,st.2.keeps fun b hb o e=>pO.extBut b o (fun q=>ni (q▸hb)) e⟩ fun b o hb e=>pO.extBut b o (fun h=>hb (by simp[h])) e
 done:=fun s Q E st hQ=>Dv st.2 ni st.1.1 st.1.2 (by simp) fun h' sP=>hQ h' s.toks fun b o hb e=>sP b o (fun h=>hb (by simp[h])) e
 self:=fun _ _ _ _ st hQ=>lF st.1.1 hQ
section
variable{prog:Program}{w:World}{A:Around}{E:Value->Shared->Prop}
variable{base:Heap}{K:Frag}{e:Env}{m:Str->Option Value}{fr:List n9}{env:An}{lg:Lg}{μ:MH}{s:Shared}{h:Heap}
theorem SK{Q:Value->Shared->Prop}(ha:s.TypeIs a "list")(hb:s.TypeIs b "list")
  (hc:wpAny (model prog w) A (call (.builtin "list.__iadd__") [a,b]) Q E s):wpAny (model prog w) A (inplaceOp .Add a b) Q E s:=by
 refine hV ?_
 have hl:=F.slot_list_iadd.lookup
 have hfi:fillsInplaceSlot (.type "list") "add" (Operator.Add==.Add)=pure false:=by
  show(typeLookup (.type "list") (dunderI "add") >>= fun fi=>_)=_
  have hq:isSeqSlot (some (.builtin "list.__iadd__"))=true:=by decide +kernel
  show(pure (true&&!isSeqSlot (some (.builtin "list.__iadd__"))):Sem Bool)=pure false
  refine hq.symm▸?_;rfl
 have hsi:seqSlot? (.type "list") (dunderI "add")=pure (some (.builtin "list.__iadd__")):=PyProof.Rows.seqSlot_of hl (by decide +kernel)
 refine gw (wpAny_typeOf ha (gw (kq hfi ?_)))
 refine gw (PyProof.Rows.binaryOp1_none (nm:="add") ha hb noFill_list_add ?_)
 refine gw (kq hsi ?_)
 exact gw (jQ hc)
theorem KS(f:Array Value->Array Value)(sk:Array Value)(n:Nat):∃k,Obj.mapSeq f (listOf sk n)=listOf (f sk) k:=by
 exact⟨_,rfl⟩
theorem FP{xs:List V}{f:Array Value->Array Value}(I:Inv base K e m fr env lg μ s.heap)(hr:lg.mu[n]?=some (d,d))(hl:lg.led d=some (listOf sk k))
  (hlen:xs.length<=lim) (oZ:Ar base lg xs (f sk).toList) :
  ∃lY,Inv base K e m fr env lY (μ.set n (.list xs)) (s.heap.update d (Obj.mapSeq f))/\Ext lg lY:=by
 obtain⟨k',e'⟩:=KS f sk k
 have g:=iq (Obj.mapSeq f) (I.led _ _ hl).1 (by refine e'.symm▸?_;rfl)
 rw[e']at g
 have x1:Ext lg (lg.put d (listOf (f sk) k')):=Ext.nP _ hl (.inl ⟨rfl,_,_,rfl⟩)
 exact⟨_,I.turn (o:=.list xs) hr hl (.inl ⟨rfl,_,_,rfl⟩) (iT s.heap d _) g ⟨rfl,hlen,_,_,Lg.l9 ..,oZ.mono x1⟩,x1⟩
theorem UL{xs ys:List V}{Q:Ae}(I:Inv base K e m fr env lg μ s.heap)(ha:Aw base lg (.lW l) x)(hb:Aw base lg (.lW n) y)(ne:l≠n)(hm:μ[l]?=some (.list xs))(uN:μ[n]?=some (.list ys))(hlen:xs.length+ys.length<=lim)
  (q:Q (.lW l) (μ.set l (.list (xs++ys)))) :
  wpAny (model prog w) A (inplaceOp .Add x y) (AK base K e m fr env lg s (PV base Q)) E s:=by
 obtain⟨p,d,rfl,hr⟩:=ha.mA
 obtain⟨p2,d2,rfl,uT⟩:=hb.mA
 obtain⟨vs,k,hg,rfl,hl,hv,nt,nK⟩:=Cn I hr hm
 obtain⟨vo,k2,hg2,rfl,rB,hv2,sW,hled2⟩:=Cn I uT uN
 have qy:lim<=sizeLine:=Cm
 obtain⟨lY,I',x⟩:=FP (f:=fun z=>z++vo) I hr nK (xs:=xs++ys) (by simpa using hlen) (by refine Array.toList_append.symm▸?_;exact hv.append hv2)
 refine SK (A9 hg).typeIs (A9 hg2).typeIs ?_
 refine kZ F.slot_list_iadd (A9 hg).typeIs F.entry_list_iadd (F.args_list_iadd_2 _ _)
  (AutoSeq1.list___iadd___list_list_0 p vs k p2 vo k2 ?_ (by exact tB (Cx4 _ _ _ _) nE qZ mi mD nE mi mD qZ rfl hl (hJ nt) qy) (by exact Nl4 (Cx6 _ _ _ _ _ _) (.add qZ t9) (mt 5 1) (.add mi mD) nE qZ mi t9 mD nE vn rfl hlen (hJ nt) (hJ sW) qy)) ⟨hg,hg2,AK.to I' x ⟨_,.lW l p p (x.mu _ _ hr),q⟩⟩
 have:Builtin.List.listTooLong (vs.size+vo.size)=false:=by
  simp[Builtin.List.listTooLong];exact Nl4 (Cx6 _ _ _ _ _ _) (.add qZ t9) vn (.add mi mD) nE qZ mi t9 mD nE vn rfl hlen (hJ nt) (hJ sW) qy
 refine this.symm▸?_;simp
theorem WB{Q:Ae}(I:Inv base K e m fr env lg μ s.heap)(h:TG op (.int i) (.int j) Q μ) :
  wpAny (model prog w) A (inplaceOp op (.int i t) (.int j u)) (AK base K e m fr env lg s (PV base Q)) E s:=by
 induction op with
 |Add=>exact iadd_int (AI I h)
 |Sub=>exact isub_int (AI I h)
 |Mult=>exact imul_int (AI I (Ag (Ag h).2).2) (ZW (Ag h).1)
 |FloorDiv=>exact AutoIntOps.ifloordiv_1 (by have:=(Ag h).1;simpa using this) (by refine(J0 (Ag (Ag h).2).1).symm▸?_;decide) (AI I (Ag (Ag h).2).2)
 |RShift=>exact irshift_int (Ag h).1 (AI I (Ag h).2)
 |BitOr=>exact ior_int (AI I h)
 |BitXor=>exact ixor_int (AI I h)
 |_=>exact h.elim
theorem O8{Q:Ae}(I:Inv base K e m fr env lg μ s.heap)(ha:Aw base lg a x)(hb:Aw base lg b y)(h:TG op a b Q μ) :
  wpAny (model prog w) A (inplaceOp op x y) (AK base K e m fr env lg s (PV base Q)) E s:=by
 induction a using V.casesOn with
 |int i=>induction b using V.casesOn with
  |int j=>obtain⟨t,rfl⟩:=ha.ma;obtain⟨u,rfl⟩:=hb.ma;exact WB I h
  |_=>exact h.elim
 |str i=>cases b with
  |str j=>induction op using Operator.casesOn with
   |Add=>
    obtain⟨⟨t,rfl⟩,l1⟩:=ha.mh;obtain⟨⟨u,rfl⟩,l2⟩:=hb.mh
    refine iadd_str (fun t' k=>?_) (by rw[BA];exact gA (Ag h).1 Cm)
    rw[LN]
    exact DA I (l1.append l2 (Ag h).1) (Ag h).2
   |_=>exact h.elim
  |_=>exact h.elim
 |lW l=>cases b with
  |lW n=>cases op with
   |Add=>
    obtain⟨ne,h⟩:=Ag h
    obtain⟨xs,hm,h⟩:=Aq h
    obtain⟨ys,uN,h⟩:=Aq h
    exact UL I ha hb ne (Ba hm) (Ba uN) (Ag h).1 (Ag h).2
   |_=>exact h.elim
  |_=>exact h.elim
 |_=>exact h.elim
theorem Gc{lo hi st:Int}{t1 t2 t3:Tok}{tk:Nat}{Q:Ae}(I:Inv base K e m fr env lg μ s.heap)(hr:tD lo hi st)(q:Q (.range lo hi st) μ) :
  AK base K e m fr env lg s (PV base Q) (.ref s.heap.objs.size) {s with heap:=s.heap.push {cls:=.type "range",data:=.fields #[.int lo t1,.int hi t2,.int st t3]},toks:=tk}:=by
 obtain⟨I',x⟩:=MB I (o:={cls:=.type "range",data:=.fields #[.int lo t1,.int hi t2,.int st t3]}) rfl
 exact AK.to I' x ⟨_,.range lo hi st _ t1 t2 t3 ⟨⟨by simp[Fh],by simp[Fh],by simp[Fh]⟩,.inl (Lg.l9 ..)⟩ hr,q⟩
theorem So:∃bt,CmpOf prog w A .Gt (fun i v=>#[Value.int a t,Value.int b u][i]?=some v) bt/\argBest bt 1=(if a<b then 1 else 0):=by
 refine⟨fun i j=>decide (numAt #[(a,t),(b,u)] i>numAt #[(a,t),(b,u)] j),CmpOf.ints_gt (numAt #[(a,t),(b,u)]) (fun i v hv=>intItems_at (xs:=#[(a,t),(b,u)]) (by simpa [intItems] using hv)),?_⟩
 by_cases h:a<b
 ·simp[argBest,numAt,h]
 ·simp[argBest,numAt,h]
theorem bC{Q:Value->Shared->Prop}(H:ou A s.heap)
  (h:∀h' tk v,(∀c o,s.heap.get? c=some o->h'.get? c=some o)->v=(if a<b then Value.int b u else Value.int a t)->Q v {s with heap:=h',toks:=tk}) :
  wpAny (model prog w) A (call (.builtin "max") [.int a t,.int b u]) Q E s:=by
 have hT:(s.heap.push {cls:=.type "tuple",data:=.seq #[.int a t,.int b u]}).IsTuple s.heap.objs.size #[.int a t,.int b u]:=⟨_,hM _ rfl,rfl,0,rfl⟩
 refine call_max_two (kE hT ?_)
 obtain⟨bt,hc,hb⟩:=So (prog:=prog) (w:=w) (A:=A.in1) (a:=a) (b:=b) (t:=t) (u:=u)
 have nt:(s.heap.push {cls:=.type "tuple",data:=.seq #[.int a t,.int b u]}).objs.size=s.heap.objs.size+1:=i5 ..
 have oP:∀b∈oD A,b<s.heap.objs.size:=H.lt
 refine⟨_,_,_,_,_,_,bt,rfl,OZ (A:=A.in1) _ s.heap.objs.size (by rw[nt];exact iU (iL _)) (fun hm=>?_) #[.int a t,.int b u],⟨⟨⟨_,hM _ rfl,rfl,rfl⟩,hT.push _⟩,H.in1.mono fun b o e=>gF _ (gF _ e)⟩,?_,jp _,hc,?_⟩
 ·have:=oP _ hm
  rw[nt]at this
  exact absurd this (Nat.not_lt.mpr (iX _))
 ·intro c hc
  rw[i5,nt]
  rcases List.mem_cons.mp hc with rfl|hc
  ·rw[nt];exact iL _
  ·rcases List.mem_cons.mp hc with rfl|hc
   ·exact gZ (iL _)
   ·exact gZ (gZ (oP _ hc))
 ·intro v h' tk hP hk
  refine h h' tk v (fun c o e=>hk c o (fun hm=>?_) (gF _ (gF _ e))) ?_
  ·rcases List.mem_cons.mp hm with e1|hm
   ·have:=g7 e
    rw[e1,nt]at this
    exact absurd this (Nat.not_lt.mpr (iX _))
   ·cases hm
  ·have rn:#[Value.int a t,Value.int b u][argBest bt 1]?=some v:=hP
   rw[hb]at rn
   by_cases h':a<b
   ·rw[iI h']at rn ⊢;simp at rn;exact rn.symm
   ·rw[iH h']at rn ⊢;simp at rn;exact rn.symm
theorem Uf:∀i:Nat,i<10->Str.ofString (toString (i:Int))=sx [48+i]:=by decide +kernel
noncomputable def Jk:Nat->Value
 |0=>.builtin "len" | 1=>.builtin "abs" | 2=>.builtin "max" | 3=>.type "str" | _=>.type "range"
theorem rR{as:List V}{ws:List Value}{v:V}(r:Ar base lg as ws)(h:one as=some v):∃x,ws=[x]/\Aw base lg v x:=by
 replace r:=(bW h)▸r
 obtain⟨x,ws,rfl,h1,r⟩:=r.mN;obtain rfl:=r.nil_inv
 exact⟨x,rfl,h1⟩
theorem un2{as:List V}{ws:List Value}{p:V×V}(r:Ar base lg as ws)(h:two as=some p):∃x y,ws=[x,y]/\Aw base lg p.1 x/\Aw base lg p.2 y:=by
 rw[dB h]at r
 obtain⟨x,ws,rfl,h1,r⟩:=r.mN
 obtain⟨y,ws,rfl,h2,r⟩:=r.mN;obtain rfl:=r.nil_inv
 exact⟨x,y,rfl,h1,h2⟩
theorem un3{as:List V}{ws:List Value}{p:V×V×V}(r:Ar base lg as ws)(h:tX as=some p):∃x y z,ws=[x,y,z]/\Aw base lg p.1 x/\Aw base lg p.2.1 y/\Aw base lg p.2.2 z:=by
 rw[dv h]at r
 obtain⟨x,ws,rfl,h1,r⟩:=r.mN
 obtain⟨y,ws,rfl,h2,r⟩:=r.mN
 obtain⟨z,ws,rfl,h3,r⟩:=r.mN;obtain rfl:=r.nil_inv
 exact⟨x,y,z,rfl,h1,h2,h3⟩
theorem DX(r:Aw base lg v x)(h:Cx v=some i):∃t,x=.int i t:=by
 rw[Fa h]at r;exact r.ma
theorem VP{as:List V}{ws:List Value}{Q:Ae}(I:Inv base K e m fr env lg μ s.heap)(r:Ar base lg as ws)(h:Qk as Q μ) :
  wpAny (model prog w) A (call (.type "range") ws) (AK base K e m fr env lg s (PV base Q)) E s:=by
 unfold Qk at h
 split at h
 ·obtain⟨v,e1,h⟩:=Aq h
  obtain⟨n,e2,h⟩:=Aq h
  obtain⟨b1,h⟩:=Ag h
  obtain⟨x,rfl,h1⟩:=rR r e1
  obtain⟨t,rfl⟩:=DX h1 e2
  exact call_range_1 (Gc I ⟨by decide,by decide,b1,by decide⟩ h)
 ·obtain⟨p,e1,h⟩:=Aq h
  obtain⟨i,e2,h⟩:=Aq h
  obtain⟨j,e3,h⟩:=Aq h
  obtain⟨b1,h⟩:=Ag h
  obtain⟨b2,h⟩:=Ag h
  obtain⟨x,y,rfl,h1,h2⟩:=un2 r e1
  obtain⟨t,rfl⟩:=DX h1 e2;obtain⟨u,rfl⟩:=DX h2 e3
  exact call_range_2 (Gc I ⟨by decide,b1,b2,by decide⟩ h)
 ·obtain⟨p,e1,h⟩:=Aq h
  obtain⟨i,e2,h⟩:=Aq h
  obtain⟨j,e3,h⟩:=Aq h
  obtain⟨k,e4,h⟩:=Aq h
  obtain⟨hc,h⟩:=Ag h
  obtain⟨b1,h⟩:=Ag h
  obtain⟨b2,h⟩:=Ag h
  obtain⟨hs,q⟩:=Ag h
  obtain⟨x,y,z,rfl,h1,h2,h3⟩:=un3 r e1
  obtain⟨t,rfl⟩:=DX h1 e2;obtain⟨u,rfl⟩:=DX h2 e3;obtain⟨v,rfl⟩:=DX h3 e4
  exact call_range_3 hc (Gc (tk:=s.toks) I ⟨hc,b1,b2,hs⟩ q) (.inl (J0 (iu hs (by decide))))
 ·exact h.elim
theorem ar{f:Nat}{as:List V}{ws:List Value}{Q:Ae}(H:ou A s.heap)(I:Inv base K e m fr env lg μ s.heap)(r:Ar base lg as ws)(h:dP f as Q μ) :
  wpAny (model prog w) A (call (Jk f) ws) (AK base K e m fr env lg s (PV base Q)) E s:=by
 have qx:lim=1000000:=rfl
 match f,h with
 |0,h=>
  obtain⟨v,e1,h⟩:=Aq h
  obtain⟨x,rfl,h1⟩:=rR r e1
  induction v using V.casesOn with
  |str l=>
   obtain⟨⟨t,rfl⟩,hl⟩:=h1.mh
   have:=hl.1
   exact PyProof.Rows.len_str (by rw[BA];exact Int.not_le.mpr (qp (mT _ _) (mj 1 1) (.num 9223372036854775808) md (.num 1000000) mP md rfl (Int.ofNat_le.mpr (hJ qx)) (Int.ofNat_le.mpr this))) (by rw[BA];exact AI I h)
  |lW n=>
   obtain⟨xs,hm,q⟩:=Aq h
   obtain⟨p,d,rfl,hr⟩:=h1.mA
   obtain⟨vs,k,hg,rfl,hl,hv,nt,nK⟩:=Cn I hr (Ba hm)
   exact PySem.Calls.call_len_list (A9 hg) (by exact qq3 (Int.ofNat_le.mpr (hJ qx)) (Int.ofNat_le.mpr hl) (Int.ofNat_le.mpr (hJ nt))) (by refine nt.symm▸?_;exact AI I q)
  |tup l=>
   obtain⟨p,o,vs,k,rfl,hk,hc,hd,hm,hr⟩:=h1.nO
   have e:l.length=vs.size:=by exact hr.1
   exact PyProof.Rows.len_tuple (GG I hk hc hd) (by exact qq3 (Int.ofNat_le.mpr (hJ qx)) (Int.ofNat_le.mpr hm) (Int.ofNat_le.mpr (hJ e.symm))) (by refine e▸?_;exact AI I h)
  |_=>exact h.elim
 |1,h=>
  obtain⟨v,e1,h⟩:=Aq h
  obtain⟨i,e2,h⟩:=Aq h
  obtain⟨x,rfl,h1⟩:=rR r e1
  obtain⟨t,rfl⟩:=DX h1 e2
  refine call_abs_int fun u tk=>?_
  have e:(if i<0 then -i else i)=(i.natAbs:Int):=by split<;>lia
  refine e.symm▸?_;exact AI I h
 |2,h=>
  obtain⟨p,e1,h⟩:=Aq h
  obtain⟨i,e2,h⟩:=Aq h
  obtain⟨j,e3,h⟩:=Aq h
  obtain⟨x,y,rfl,h1,h2⟩:=un2 r e1
  obtain⟨t,rfl⟩:=DX h1 e2;obtain⟨u,rfl⟩:=DX h2 e3
  refine bC H fun h' tk v hk hv=>?_
  cases hv
  refine AK.now (I.keeps hk) ⟨_,?_,h⟩
  split<;>exact .int _ _
 |3,h=>
  obtain⟨v,e1,h⟩:=Aq h
  obtain⟨i,e2,h⟩:=Aq h
  have h0:=(Ag h).1;have h:=(Ag h).2
  have qG:=(Ag h).1;have q:=(Ag h).2
  obtain⟨x,rfl,h1⟩:=rR r e1
  obtain⟨t,rfl⟩:=DX h1 e2
  obtain⟨k,rfl⟩:=gB h0
  refine P.str_of_int ?_ ?_
  ·have:k.log2<=k:=Nat.log2_le_self k
   simp;exact Int.ofNat_lt.mp (qp (mT _ _) (mj 1 1) (.num 1920) (mj 0 1) (.num 10) mP md rfl qG (Int.ofNat_le.mpr this))
  ·refine(Uf k (by exact Int.ofNat_lt.mp (mI (mn _) (mj 0 1) (.num 10) (mj 0 1) (.num 10) rfl qG))).symm▸?_
   refine DA I ⟨by simp[lim],fun c hc=>?_⟩ q
   refine(List.mem_singleton.mp hc).symm▸?_;show 48+k<128;exact Int.ofNat_lt.mp (mI (mn _) (.add (.add (.num 48) md) (.num 1)) (.num 128) (mj 0 1) (.num 10) rfl qG)
 |4,h=>exact VP I r h
theorem JF:∀{l:List Nat} {j:Int},(∀i:Nat,l[i]?≠some c)->AE c l j = -1
 |[],_,_=>rfl
 |x :: l,j,h=>by
  unfold AE
  rw[iH (fun q=>h 0 (by simp[q]))]
  exact JF fun i=>by have:=h (i+1);exact this
theorem PK:∀{j:Int} {i:Nat},l[i]?=some c->(∀k,k<i->l[k]?≠some c)->AE c l j=j+i:=by
 induction l with
 |nil=>intro j i h;exact Ao h
 |cons x l ih=>
  intro j i h n
  cases i with
  |zero=>exact(iI (Option.some.inj h)).trans (lE j).symm
  |succ i=>
   refine(iH fun e=>n 0 (jp _) (congrArg some e)).trans ((ih (i:=i) h fun k hk=>n (k+1) (j3 hk)).trans ?_)
   rw[Int.add_assoc,Int.add_comm 1];rfl
theorem Xq(l:List Nat)(c:Nat):Txt.find (sx l) ⟨#[c]⟩=AE c l 0:=by
 have e:∀i,StrLaws.At (sx l) ⟨#[c]⟩ (sx l).length i↔l[i]?=some c:=fun i=>by
  have:=StrLaws.subAt_one (sx l) c i
  show(i+(⟨#[c]⟩:Str).length<=(sx l).length/\Builtin.Str.subAt (sx l) ⟨#[c]⟩ i=true)↔_
  simpa [sx] using this
 rcases find_whole (sx l) ⟨#[c]⟩ with⟨h,n⟩|⟨i,h,a,n⟩
 ·(refine h.symm▸?_;refine(JF fun i q=>n i ((e i).mpr q)).symm▸?_;rfl)
 ·rw[h,PK ((e i).mp a) fun k hk q=>n k hk ((e k).mpr q)];simp
theorem SO:∀ss:List (List Nat),Txt.join Str.empty (ss.map sx)=sx ss.flatten:=by
 intro ss
 have key:∀(ss:List (List Nat)) (acc:Array Nat),(ss.map sx).foldl (fun acc p=>acc++Str.empty.cps++p.cps) acc=acc++ss.flatten.toArray:=by
  intro ss
  induction ss with
  |nil=>intro acc;rfl
  |cons a r ih=>intro acc;rw[iY,kX,ih];simp[sx,Str.empty]
 unfold Txt.join Builtin.Str.glued
 induction ss with
 |nil=>rfl
 |cons a r=>
  have:=key r a.toArray
  simp only[iY,List.drop_succ_cons,List.drop_zero,List.headD_cons]
  show(⟨_⟩:Str)=_
  unfold sx at this ⊢
  rw[this];simp
theorem SN(ss:List (List Nat))(h:ss.flatten.length<=lim):JoinOk Str.empty (ss.map sx)=true:=by
 have key:∀(ss:List (List Nat)) (n:Nat),(ss.map sx).foldl (fun n p=>n+p.length+Str.empty.length) n=n+ss.flatten.length:=by
  intro ss
  induction ss with
  |nil=>intro n;rfl
  |cons a r ih=>intro n;(refine List.map_cons.symm▸?_;rewrite[kX];rewrite[ih]);simp[BA,show Str.empty.length=0 from rfl];exact jG (pZ (nB _ _ _) (.add (.add mi mD) nE) (.add mi (.add mD nE)) rfl) (pZ (nB _ _ _) (.add mi (.add mD nE)) (.add (.add mi mD) nE) rfl)
 unfold JoinOk Builtin.Str.tooLong
 rw[<- Array.foldl_toList,key]
 have:=Cm
 lia
theorem Tq(q:BE (v :: l)=some ss):∃t pF,v=.str t/\BE l=some pF/\ss=t :: pF:=by
 induction v using V.casesOn with
 |str t=>
  obtain⟨pF,a,b⟩:=Option.map_eq_some_iff.mp (show(BE l).map (t :: ·)=some ss from q)
  exact⟨t,pF,rfl,a,b.symm⟩
 |_=>exact Ao q
theorem QB:∀{ss:List (List Nat)} {vs:List Value},BE l=some ss->Ar base lg l vs->∃k:List (Str×Tok),vs=strValues k/\k.map (·.1)=ss.map sx:=by
 induction l with
 |nil=>intro ss vs q r;obtain rfl:=Option.some.inj q;obtain rfl:=r.nil_inv;exact⟨[],rfl,rfl⟩
 |cons v l ih=>
  intro ss vs q r
  obtain⟨z,sA,rfl,hz,hr⟩:=r.mN
  obtain⟨t,pF,rfl,q',rfl⟩:=Tq q
  obtain⟨⟨u,rfl⟩,hk⟩:=hz.mh
  obtain⟨k,rfl,h2⟩:=ih q' hr
  exact⟨(sx t,u) :: k,rfl,congrArg (sx t :: ·) h2⟩
theorem Og:∀{p:List V×V},Eh xs=some p->xs=p.1++[p.2]:=by
 induction xs with
 |nil=>exact fun h=>Ao h
 |cons x r ih=>
  intro p h
  cases r with
  |nil=>obtain rfl:=Option.some.inj h;rfl
  |cons y r=>
   obtain⟨p',q,rfl⟩:=Option.map_eq_some_iff.mp (show(Eh (y :: r)).map (fun p=>(x :: p.1,p.2))=some p from h)
   exact congrArg (x :: ·) (ih q)
noncomputable def IB:Nat->String
 |0=>"list.append" | 1=>"list.pop" | 2=>"str.find" | 3=>"str.lower" | _=>"str.join"
theorem Rw{f:Nat}{o:V}{x:Value}{as:List V}{ws:List Value}{Q:Ae}(I:Inv base K e m fr env lg μ s.heap)(ho:Aw base lg o x)(r:Ar base lg as ws)(h:U7 o f as Q μ) :
  wpAny (model prog w) A (call (.builtin (IB f)) (x :: ws)) (AK base K e m fr env lg s (PV base Q)) E s:=by
 have qy:lim<=sizeLine:=Cm
 induction o using V.casesOn with
 |lW n=>
  obtain⟨p,d,rfl,hr⟩:=ho.mA
  match f,h with
  |0,h=>
   obtain⟨v,e1,h⟩:=Aq h
   obtain⟨xs,hm,h⟩:=Aq h
   have oP:=(Ag h).1;have q:=(Ag h).2
   obtain⟨y,rfl,h1⟩:=rR r e1
   obtain⟨vs,k,hg,rfl,hl,hv,nt,nK⟩:=Cn I hr (Ba hm)
   refine wpAny_list_append_plain ⟨k,hg⟩ (fun h' hp hs=>?_) (by exact qq4 qy hl (hJ nt))
   obtain⟨k',g⟩:=hp
   have x1:Ext lg (lg.put p (listOf (vs.push y) k')):=Ext.nP _ nK (.inl ⟨rfl,_,_,rfl⟩)
   exact AK.to (tk:=s.toks) (I.turn (o:=.list (xs++[v])) hr nK (.inl ⟨rfl,_,_,rfl⟩) hs g ⟨rfl,by simp;assumption,_,_,Lg.l9 ..,by
    refine Array.toList_push.symm▸?_;exact(hv.append (Ar.cons h1 .nil)).mono x1⟩) x1 ⟨_,.none,q⟩
  |1,h=>
   have hn:=(A6 h).1;have h:=(A6 h).2
   obtain⟨xs1,hm,h⟩:=Aq h
   obtain⟨⟨xs,v⟩,hi,q⟩:=Aq h
   have hi:xs1=xs++[v]:=Og hi
   cases hi
   replace r:=(List.isEmpty_iff.mp hn)▸r
   cases r.nil_inv
   obtain⟨vs,k,hg,rfl,hl,hv,nt,nK⟩:=Cn I hr (Ba hm)
   have hlen:vs.size=xs.length+1:=by refine nt.symm▸?_;simp
   obtain⟨y,hy,hvy⟩:=hv.at (i:=xs.length) (v:=v) (by simp)
   have hy':vs[vs.size - 1]?=some y:=by(rewrite[hlen];refine iE▸?_);exact hy
   have e:(vs.eraseIdxIfInBounds (vs.size - 1)).toList=vs.toList.take xs.length:=by
    refine hlen.symm▸?_
    simp[Array.eraseIdxIfInBounds,hlen]
    rw[List.eraseIdx_eq_take_drop_succ]
    simp[hlen]
   obtain⟨lY,I',x⟩:=FP (f:=fun z=>z.eraseIdxIfInBounds (vs.size - 1)) I hr nK (xs:=xs) (by simp at hl;exact mO (mT _ _) mi mD (mt 0 1) mD rfl hl) (by
    refine e.symm▸?_;have:=hv.take xs.length;simpa using this)
   exact kZ PySem.F.slot_list_pop (A9 hg).typeIs PySem.F.entry_list_pop (PySem.F.args_list_pop_1 _) (PySem.MeetsSeq.list_pop_last p _ k y hy' (by exact qq4 qy hl (hJ nt)))
    ⟨hg,AK.to I' x ⟨v,hvy.mono x,q⟩⟩
 |str l=>
  obtain⟨⟨t,rfl⟩,hl⟩:=ho.mh
  match f,h with
  |2,h=>
   obtain⟨v,e1,h⟩:=Aq h
   obtain⟨c,e2,h⟩:=Aq h
   obtain⟨y,rfl,h1⟩:=rR r e1
   replace h1:=(Kh e2)▸h1
   obtain⟨⟨u,rfl⟩,_⟩:=h1.mh
   refine SC.find ?_
   (refine(show sx [c]=⟨#[c]⟩from rfl).symm▸?_;rewrite[Xq])
   exact AI I h
  |3,h=>
   have hn:=(A6 h).1;have h:=(A6 h).2
   obtain⟨c,e2,h⟩:=Aq h
   have h1:=(Ag h).1;have h:=(Ag h).2
   have h2:=(Ag h).1;have q:=(Ag h).2
   replace r:=(List.isEmpty_iff.mp hn)▸r
   cases r.nil_inv
   cases(show l=[c]from V.str.inj (Kh e2))
   have e:Txt.lower (sx [c])=sx [c+32]:=by
    rw[PyProof.Rows.lower_ascii (by simpa [sx] using hl.2)]
    have e1:PyProof.Rows.lo1 c=c+32:=iI ⟨h1,h2⟩
    simp[sx,e1]
   refine SC.lower ?_ ?_
   ·refine e.symm▸?_;rfl
   ·refine e.symm▸?_;exact DA I ⟨by simp[lim],fun z hz=>by refine(List.mem_singleton.mp hz).symm▸?_;exact mO (mn _) (.add (mt 0 32) (.num 1)) (.num 128) mi (.num 90) rfl h2⟩ q
  |4,h=>
   have hn:=(A6 h).1;have h:=(A6 h).2
   cases List.isEmpty_iff.mp hn
   obtain⟨v,e1,h⟩:=Aq h
   obtain⟨y,rfl,h1⟩:=rR r e1
   induction v using V.casesOn with
   |lW n=>
    obtain⟨xs,hm,h⟩:=Aq h
    obtain⟨ss,hss,h⟩:=Aq h
    have hlen:=(Ag h).1;have q:=(Ag h).2
    obtain⟨p,d,rfl,hr⟩:=h1.mA
    obtain⟨vs,k,hg,rfl,hl,hv,nt,nK⟩:=Cn I hr (Ba hm)
    obtain⟨ks,e1,e2⟩:=QB hss hv
    have rZ:=(Gg hss hv).2
    refine SC.join (l:=ks) (texts:=ss.map sx) (x:=sx []) ?_ e2 (SN ss hlen) fun t' k=>?_
    ·refine e1▸?_;simpa using A9 hg
    ·(refine(show sx []=Str.empty from rfl).symm▸?_;rewrite[SO])
     exact DA I ⟨hlen,fun c hc=>by obtain⟨l,h1,h2⟩:=List.mem_flatten.mp hc;exact(rZ l h1).2 c h2⟩ q
   |_=>exact h.elim
 |_=>exact h.elim
end
def tE(o:Obj):Prop:=pB o/\(o.cls=.type "tuple"\/o.cls=.type "range"\/∃C,o.cls=.ref C)
structure G1(lg lY:Lg):Prop where
 oo:∀a o,tE o->lg.led a=some o->lY.led a=some o
 mu:∀(n:Nat) (p:Addr×Addr),lg.mu[n]?=some p->lY.mu[n]?=some p
theorem Ext.v(x:Ext lg lY):G1 lg lY:=⟨fun a o i h=>x.oo a o i.1 h,x.mu⟩
theorem Aw.mK(x:G1 lg lY)(h:Aw base lg v w):Aw base lY v w:=by
 induction h with
 |none=>exact .none
 |bool b=>exact .bool b
 |int i t=>exact .int i t
 |str s t hl=>exact .str s t hl
 |tup l a o vs n hk hc hd hl hm _ ih=>exact .tup l a o vs n ⟨hk.1,hk.2.imp (x.oo a o ⟨hk.1,.inl hc⟩) id⟩ hc hd hl hm ih
 |mM l a o vs n hk hc hd hl hm _ ih=>exact .mM l a o vs n hk hc hd hl hm ih
 |range lo hi st a t1 t2 t3 hk hr=>exact .range lo hi st a t1 t2 t3 ⟨hk.1,hk.2.imp (x.oo a _ ⟨hk.1,.inr (.inl rfl)⟩) id⟩ hr
 |lW n a d h=>exact .lW n a d (x.mu n _ h)
theorem Ar.mK(x:G1 lg lY)(h:Ar base lg l vs):Ar base lY l vs:=⟨h.1,fun i v w a b=>(h.2 i v w a b).mK x⟩
theorem D2.mK(x:G1 lg lY)(h:D2 base lg fs es):D2 base lY fs es:=by
 induction h with
 |nil=>exact .nil
 |cons a v fs hs t w es ha hv _ ih=>exact .cons a v fs hs t w es ha (hv.mK x) ih
theorem No.mK(x:G1 lg lY){f:Int->Option Value}(h:No base lg kv f):No base lY kv f:=
 fun k=>(h k).imp id fun nR=>by obtain⟨v,w,a,b,c⟩:=nR;exact⟨v,w,a,b,c.mK x⟩
section
variable{base:Heap}{K:Frag}{e e':Env}{m m':Str->Option Value}{fr:List n9}{env env':An}{lg lY:Lg}{μ:MH}{h h':Heap}
theorem Gm.mK(q:G1 lg lY)(hd:∀o,lg.led d=some o->lY.led d=some o)(h:Gm base K lg a d o):Gm base K lY a d o:=by
 cases o with
 |list xs=>obtain⟨e,hm,vs,k,a1,a4⟩:=h;exact⟨e,hm,vs,k,hd _ a1,a4.mK q⟩
 |inst c fs=>obtain⟨hc,C,c1,c2,c3,es,k,c4,c5⟩:=h;exact⟨hc,C,c1,q.oo _ _ ⟨⟨by simp,by simp,by simp⟩,.inr (.inr ⟨C,rfl⟩)⟩ c2,c3,es,k,hd _ c4,c5.mK q⟩
 |dict kv=>obtain⟨e,o,a1,a2,es,k,a3,a4,a5,a6⟩:=h;exact⟨e,o,hd _ a1,a2,es,k,a3,a4,a5,a6.mK q⟩
theorem FN.mK(q:G1 lg lY)(hc:∀a o,Da o->lg.led a=some o->lY.led a=some o)
  (h:FN base e m lg x v):FN base e m lY x v:=by
 refine⟨h.1,h.2.imp (fun nR=>by obtain⟨a,w,b,c⟩:=nR;exact⟨a,w,b,c.mK q⟩) fun nR=>by obtain⟨a,ca,o,w,b,c,d,f⟩:=nR;exact⟨a,ca,o,w,b,hc _ _ ⟨_,d⟩ c,d,f.mK q⟩⟩
theorem Gm.nQ(h:Gm base K lg a d o):∃ob,lg.led d=some ob/\¬pB ob:=by
 induction o with
 |list xs=>obtain⟨_,_,_,_,a1,_⟩:=h;exact⟨_,a1,fun i=>i.1 rfl⟩
 |inst c fs=>obtain⟨_,_,_,_,_,es,k,a1,_⟩:=h;exact⟨_,a1,fun i=>i.2.1 _ _ rfl⟩
 |dict kv=>obtain⟨_,ob,a1,_,es,k,a3,_⟩:=h;exact⟨ob,a1,fun i=>i.2.1 _ _ a3⟩
theorem Inv.stores(I:Inv base K e m fr env lg μ h){p:Addr×Addr}(hp:p∈lg.mu):∃ob,lg.led p.2=some ob/\¬pB ob:=by
 obtain⟨n,hn⟩:=List.mem_iff_getElem?.mp hp
 have uO:n<μ.length:=by refine I.heap.len▸?_;exact(List.getElem?_eq_some_iff.mp hn).1
 obtain⟨a,d,h1,h2⟩:=I.heap.each n _ (gV uO)
 obtain rfl:=same hn h1
 exact h2.nQ
theorem Inv.swap(I:Inv base K e m fr env lg μ h)(hl:lg.led a=some o)(hi:pB o)(nv:¬tE o)(k:∀b p,b≠a->h.get? b=some p->h'.get? b=some p)(g:h'.get? a=some o') :
  Inv base K e m fr env (lg.put a o') μ h':=by
 have hb:=(I.led a o hl).2
 have nL:e.locals≠a:=by rintro rfl;exact AM I.mG hl
 have x:G1 lg (lg.put a o'):=⟨fun b p v q=>by
  by_cases z:b=a
  ·subst z;obtain rfl:=same hl q;exact absurd v nv
  ·refine(Lg.l8 _ _ z).symm▸?_;exact q,fun _ _ q=>q⟩
 have o6:∀b p,¬pB p->lg.led b=some p->(lg.put a o').led b=some p:=fun b p n q=>by
  rw[Lg.l8];exact q
  rintro rfl;replace q:=hl▸q;obtain rfl:=Option.some.inj q;exact n hi
 have oy:∀{p:Obj},Da p->¬pB p:=fun nR i=>by obtain⟨v,q⟩:=nR;exact i.2.2 v q
 refine⟨fun b p q=>k b p (fun z=>by(rw[z]at q;replace q:=hb▸q);exact Ao q) (I.old b p q),?_,I.nF,by refine(Lg.l8 _ _ nL).symm▸?_;exact I.mG,fun b p q=>?_,fun f hf=>?_,I.dist,I.apart,fun y v q ss=>(I.vars y v q ss).mK x fun b p c z=>o6 b p (oy c) z,I.heap.len,I.heap.nodup,fun n p q=>?_⟩
 ·obtain⟨on,es,ep,q1,q2⟩:=I.ns
  exact⟨on,es,ep,k _ _ nL q1,q2⟩
 ·by_cases z:b=a
  ·subst z;rw[Lg.l9]at q;obtain rfl:=Option.some.inj q;exact⟨g,hb⟩
  ·replace q:=(Lg.l8 _ _ z)▸q
   exact⟨k b p z (I.led b p q).1,(I.led b p q).2⟩
 ·obtain⟨⟨p,a1,a2⟩,a3⟩:=I.frames f hf
  refine⟨⟨p,o6 _ _ (fun i=>?_) a1,a2⟩,fun c q z=>⟨o6 _ _ (oy (a3 c q z).2) (a3 c q z).1,(a3 c q z).2⟩⟩
  obtain⟨es,ep,d,_⟩:=a2
  exact i.2.1 _ _ d
 ·obtain⟨a',d,a1,a2⟩:=I.heap.each n p q
  refine⟨a',d,a1,a2.mK x fun ob z=>?_⟩
  obtain⟨qV,z',n'⟩:=a2.nQ
  obtain rfl:=same z' z
  exact o6 _ _ n' z'
theorem Ext.qO{lg lY:Lg}(x:Ext lg lY)(o:Obj)(q:lg.led a=none):Ext lg (lY.put a o):=by
 have ne:∀b p,lg.led b=some p->b≠a:=fun b p e z=>by(rw[z]at e;replace e:=q▸e);exact Ao e
 refine⟨fun b p i e=>?_,fun b p c e=>?_,x.mu⟩
 ·exact(Lg.l8 _ _ (ne b p e)).trans (x.oo b p i e)
 ·obtain⟨o',c',e'⟩:=x.cell b p c e
  exact⟨o',c',by exact(Lg.l8 _ _ (ne b p e)).trans (e')⟩
open Classical in
noncomputable def AU(env:An)(e:Env)(lg:Lg):Addr->Option Obj:=fun a=>
 if ∃x v,x<Bg.length/\env x=some v/\e.kindOf (nm x)=some .cell/\e.cells.lookup (nm x)=some a then lg.led a else none
theorem Inv.switch{cs:Addr->Option Obj}(I:Inv base K e m fr env lg μ h)(hcs:∀a o,cs a=some o->AU env e lg a=some o)(ns:h.Ns e'.locals m')(nb:base.get? e'.locals=none)(nl:lg.led e'.locals=none)(ne:e'.locals≠e.locals)
  (nf:∀f∈fr,f.env.locals≠e'.locals) (vars:∀lY,Ext lg lY->(∀a o,lg.led a=some o->lY.led a=some o)->∀x v,env' x=some v->R6 e' x->FN base e' m' lY x v) :
  ∃oL,Inv base K e' m' (⟨e,m,cs⟩ :: fr) env' (lg.put e.locals oL) μ h/\Ext lg (lg.put e.locals oL):=by
 obtain⟨oL,g,oY⟩:=H6.of I.ns
 have x:Ext lg (lg.put e.locals oL):=Ext.mH _ I.mG
 have keep:∀a o,lg.led a=some o->(lg.put e.locals oL).led a=some o:=fun a o q=>by
  rw[Lg.l8];exact q
  rintro rfl;exact AM I.mG q
 refine⟨oL,⟨I.old,ns,nb,by refine(Lg.l8 _ _ ne).symm▸?_;exact nl,fun b p q=>?_,fun f hf=>?_,?_,fun f hf p hp=>?_,vars _ x keep,I.heap.len,I.heap.nodup,fun n p q=>?_⟩,x⟩
 ·by_cases z:b=e.locals
  ·subst z;rw[Lg.l9]at q;obtain rfl:=Option.some.inj q;exact⟨g,I.nF⟩
  ·replace q:=(Lg.l8 _ _ z)▸q;exact I.led b p q
 ·rcases List.mem_cons.mp hf with rfl|hf
  ·refine⟨⟨oL,Lg.l9 ..,oY⟩,fun a o q=>?_⟩
   have q:AU env e lg a=some o:=hcs a o q
   unfold AU at q
   split at q
   ·rename_i hx
    obtain⟨y,v,h0,h1,h2,h3⟩:=hx
    have hv:=(I.vars y v h1 ⟨h0,.inr h2⟩).2
    rcases hv with⟨z,_⟩|⟨_,ca,oc,w,z1,z2,z4,_⟩
    ·replace z:=h2▸z;exact nomatch z
    ·obtain rfl:=same h3 z1
     obtain rfl:=same z2 q
     exact⟨keep _ _ z2,_,z4⟩
   ·exact Ao q
  ·obtain⟨⟨p,a1,a2⟩,a3⟩:=I.frames f hf
   exact⟨⟨p,keep _ _ a1,a2⟩,fun c o q=>⟨keep _ _ (a3 c o q).1,(a3 c o q).2⟩⟩
 ·have d:=I.dist
  simp only[iY,jH,hG,lB,not_or]at d ⊢
  refine⟨⟨ne,?_⟩,d⟩
  rintro⟨f,hf,q⟩
  exact nf f hf q
 ·rcases List.mem_cons.mp hf with rfl|hf
  ·intro z
   obtain⟨ob,q,_⟩:=I.stores hp
   (replace q:=(z).symm▸q;replace q:=I.mG▸q);exact Ao q
  ·exact I.apart f hf p hp
 ·obtain⟨a',d,a1,a2⟩:=I.heap.each n p q
  exact⟨a',d,a1,a2.mono x fun ob z=>keep _ _ z⟩
noncomputable def Lg.drop(lg:Lg)(a:Addr):Lg:={lg with led:=fun b=>if b=a then none else lg.led b}
theorem Inv.back{rJ:Lg}{f:n9}(I:Inv base K e' m' (f :: fr) env' lg μ h)(x0:Ext rJ lg)(n0:rJ.led f.env.locals=none)(hc:∀a o,AU env f.env rJ a=some o->f.cells a=some o)
  (vars:∀x v,env x=some v->R6 f.env x->FN base f.env f.m rJ x v) :
  Inv base K f.env f.m fr env (lg.drop f.env.locals) μ h/\Ext rJ (lg.drop f.env.locals):=by
 obtain⟨⟨oL,g1,g2⟩,g3⟩:=I.frames f (.head _)
 have g:=I.led _ _ g1
 have ne:∀a o,a≠f.env.locals->lg.led a=some o->(lg.drop f.env.locals).led a=some o:=fun a o n q=>by unfold Lg.drop;dsimp only;exact(iH n).trans (q)
 have x:Ext rJ (lg.drop f.env.locals):=⟨fun a o i q=>ne a o (by rintro rfl;exact AM n0 q) (x0.oo a o i q),fun a o c q=>by obtain⟨o',c',q'⟩:=x0.cell a o c q;exact⟨o',c',ne a o' (by rintro rfl;exact AM n0 q) q'⟩,x0.mu⟩
 obtain⟨es,ep,hd,_⟩:=id g2
 have xv:G1 lg (lg.drop f.env.locals):=⟨fun a o i q=>ne a o (by rintro rfl;replace q:=g1▸q;obtain rfl:=Option.some.inj q;exact i.1.2.1 _ _ hd) q,fun _ _ q=>q⟩
 have qd:∀a o,lg.led a=some o->Da o->a≠f.env.locals:=fun a o q c=>by
  rintro rfl;obtain rfl:=same g1 q;obtain⟨v,c⟩:=c;replace c:=hd▸c;exact nomatch c
 have dd:=I.dist
 simp only[iY,jH,hG,lB,not_or]at dd
 refine⟨⟨I.old,g2.ns g.1,g.2,by unfold Lg.drop;simp,fun b p q=>?_,fun f' hf=>?_,?_,fun f' hf p hp=>I.apart f' (gz _ hf) p hp,fun y v q ss=>?_,I.heap.len,I.heap.nodup,fun n p q=>?_⟩,x⟩
 ·unfold Lg.drop at q;dsimp only at q;split at q
  ·exact Ao q
  ·exact I.led b p q
 ·obtain⟨⟨p,a1,a2⟩,a3⟩:=I.frames f' (gz _ hf)
  refine⟨⟨p,ne _ _ (fun z=>dd.2.1 ⟨f',hf,z⟩) a1,a2⟩,fun c o q=>⟨ne _ _ (qd _ _ (a3 c o q).1 (a3 c o q).2) (a3 c o q).1,(a3 c o q).2⟩⟩
 ·simp only[jH,lB]
  exact dd.2
 ·have a:=(vars y v q ss).1;have hv:=(vars y v q ss).2
  refine⟨a,hv.imp (fun⟨z,w,z1,z2⟩=>⟨z,w,z1,z2.mono x⟩) fun⟨z,ca,o,w,z1,z2,z4,z5⟩=>⟨z,ca,o,w,z1,?_,z4,z5.mono x⟩⟩
  have q1:AU env f.env rJ ca=some o:=by unfold AU;exact(iI ⟨y,v,a,q,z,z1⟩).trans (z2)
  have q2:=g3 ca o (hc _ _ q1)
  exact ne _ _ (qd _ _ q2.1 q2.2) q2.1
 ·obtain⟨a',d,a1,a2⟩:=I.heap.each n p q
  refine⟨a',d,a1,a2.mK xv fun ob z=>ne _ _ (fun y=>?_) z⟩
  exact I.apart f (.head _) (a',d) (jm a1) y.symm
end
def E7(K:Frag)(c:Nat)(C:Addr):Prop:=nsIn K mainGlobals (Str.ofString (EK c))=some (some (.ref C))
inductive Wy(base:Heap)(K:Frag)(FA:Nat->Addr):Prop
 |mk (mg mb:Str->Option Value) (n1:base.Ns mainGlobals mg) (n2:base.Ns builtinsNs mb)
  (n3:∀x v,lX x=some v->∃w,mg (nm x)=some w/\∀lg,Aw base lg v w)
  (n4:∀f,Oj f=true->mg (nm f)=some (.ref (FA f))/\keepIn K (.ref (FA f))=true)
  (n5:∀i,i<5->mg (Str.ofString (HQ i))=none/\mb (Str.ofString (HQ i))=some (Jk i))
  (n6:∀c,1<=c->c<=3->∃C,E7 K c C/\mg (Str.ofString (EK c))=some (.ref C))
structure Ty(base:Heap)(K:Frag)(FA:Nat->Addr):Prop where
 pX:K.In base
 qj:base.NoLimit
 cls:ua K
 names:Wy base K FA
structure QQ(e:Env)(sc:Sc):Prop where
 kind:e.scope.kind=.function
 globals:e.globals=mainGlobals
 builtins:e.builtins=builtinsNs
 lW:∀n,sc.lookup n=some .local->e.kindOf n=some .local
 cell:∀n,sc.lookup n=some .cell\/sc.lookup n=some .free->e.kindOf n=some .cell
 lX:∀n,sc.lookup n=some .globalImplicit->e.kindOf n=some .globalImplicit
structure KZ(e:Env)(sc:Sc)(fr:List n9)(lg:Lg):Prop where
 apart:∀n ca,sc.lookup n=some .cell->e.cells.lookup n=some ca->∀f∈fr,f.cells ca=none
 inj:∀n n' ca,e.cells.lookup n=some ca->e.cells.lookup n'=some ca->n=n'
 led:∀n,sc.lookup n=some .cell\/sc.lookup n=some .free->∃ca o,e.cells.lookup n=some ca/\Da o/\lg.led ca=some o
theorem KZ.mono{e:Env}(x:Ext lg lY)(O:KZ e sc fr lg):KZ e sc fr lY:=
 ⟨O.apart,O.inj,fun n h=>by obtain⟨ca,o,a,b,c⟩:=O.led n h;obtain⟨o',b',c'⟩:=x.cell ca o b c;exact⟨ca,o',a,b',c'⟩⟩
def HL(A:Around)(base:Heap)(lg:Lg):Prop:=A.handled=none\/∃a o arr,A.handled=some (.ref a)/\Kn base lg a o/\o.data=.fields arr/\arr[2]?=some .none
theorem HL.mono(x:Ext lg lY)(H:HL A base lg):HL A base lY:=
 H.imp id fun nR=>by obtain⟨a,o,arr,e,k,r⟩:=nR;exact⟨a,o,arr,e,x.kn k,r⟩
inductive uc(base:Heap)(lg:Lg)(h:Heap)(L a:Addr)(vs:Array Value):Prop
 |mk (T:Addr) (oT:Obj) (ts:Array Value) (h1:vs[1]?=some (.ref T)) (bT:base.get? T=none) (lT:lg.led T=none) (Ta:T≠a) (TL:T≠L) (gT:h.get? T=some oT) (dT:oT.data=.fields ts) (hz:3<ts.size)
def Zy(base:Heap)(lg:Lg)(h:Heap)(L a:Addr)(vs:Array Value):Prop:=vs[1]?=some .none\/uc base lg h L a vs
inductive FM(base:Heap)(K:Frag)(lg:Lg)(h:Heap)(L a:Addr)(r:Nat):Prop
 |mk (a1:base.get? a=none) (a2:lg.led a=none) (a3:a≠L) (o:Obj) (vs:Array Value) (C:Addr) (b1:h.get? a=some o) (b2:1<=r % 10) (b3:r % 10<=3) (b4:E7 K (r % 10) C) (b5:o.cls=.ref C) (b6:o.data=.fields vs) (b7:2<vs.size) (b8:r<10->vs[2]?=some .none) (b9:Zy base lg h L a vs)
inductive EP(base:Heap)(K:Frag)(e:Env)(m:Str->Option Value)(fr:List n9)(env:An)(lg:Lg)(s:Shared)(X:As)(v:Value)(s':Shared):Prop
 |mk (h':Heap) (tk:Nat) (lY:Lg) (μ':MH) (a:Addr) (r:Nat) (e1:s'={s with heap:=h',toks:=tk}) (I:Inv base K e m fr env lY μ' h') (x:Ext lg lY) (ev:v=.ref a) (ex:FM base K lY h' e.locals a r) (q:X r μ')
set_option genInjectivity false in
structure mm where
 pg:Program
 w:World
 A:Around
 base:Heap
 K:Frag
 e:Env
 fr:List n9
 sc:Sc
 Φ:Az
structure mm.H(S:mm)(lg:Lg):Prop where
 hl:HL S.A S.base lg
 own:KZ S.e S.sc S.fr lg
theorem mm.H.mono{S:mm}(H:S.H lg)(x:Ext lg lY):S.H lY:=⟨H.hl.mono x,H.own.mono x⟩
namespace mm
variable(S:mm)
noncomputable abbrev M:Model:=model S.pg S.w
abbrev I(m:Str->Option Value)(env:An)(lg:Lg)(μ:MH)(h:Heap):Prop:=Inv S.base S.K S.e m S.fr env lg μ h
noncomputable abbrev P{α:Type}(m:Str->Option Value)(env:An)(lg:Lg)(s:Shared)(P:Lg->MH->α->Prop)(a:α)(s':Shared):Prop:=AK S.base S.K S.e m S.fr env lg s P a s'
noncomputable abbrev X(m:Str->Option Value)(env:An)(lg:Lg)(s:Shared)(X:As)(v:Value)(s':Shared):Prop:=EP S.base S.K S.e m S.fr env lg s X v s'
def n8{α:Type}(t:Sem α)(m:Str->Option Value)(env:An)(lg:Lg)(μ:MH)(P:Lg->MH->α->Prop)(X:As):Prop:=
 ∀(s:Shared) (E:Value->Shared->Prop),S.I m env lg μ s.heap->S.H lg->(∀v s',S.X m env lg s X v s'->E v s')->wpAny S.M S.A t (S.P m env lg s P) E s
def SE(a:ME)(x:Expr):Prop:=∀m env lg μ Q X,we lX S.Φ env a Q X μ->S.n8 (eval x S.e) m env lg μ (PV S.base Q) X
def ST(a:ME)(x:Expr):Prop:=∀m env lg μ Q X,wt lX S.Φ env a Q X μ->S.n8 (isTrue x S.e (eval x S.e)) m env lg μ (PB Q) X
def SL(a:ME)(xs:List Expr):Prop:=∀m env lg μ Q X,wl lX S.Φ env a Q X μ->S.n8 (spliced (xs.map fun x=>(false,eval x S.e))) m env lg μ (PL S.base Q) X
end mm
theorem EP.trans{base:Heap}{K:Frag}{e:Env}{m:Str->Option Value}{fr:List n9}{env:An}{lg lY:Lg}{s:Shared}{h':Heap}{tk:Nat}{X:As}{v:Value}{s':Shared}(x:Ext lg lY)
  (h:EP base K e m fr env lY {s with heap:=h',toks:=tk} X v s'):EP base K e m fr env lg s X v s':=by
 obtain⟨oV,rQ,py,oj,a,r,rfl,I,y,z,z',z''⟩:=h
 exact⟨oV,rQ,py,oj,a,r,rfl,I,x.trans y,z,z',z''⟩
theorem EP.none{base:Heap}{K:Frag}{e:Env}{m:Str->Option Value}{fr:List n9}{env:An}{lg:Lg}{s:Shared}{v:Value}{s':Shared}(h:EP base K e m fr env lg s (fun _ _=>False) v s'):False:=by
 obtain⟨_,_,_,_,_,_,_,_,_,_,_,q⟩:=h
 exact q
section
variable{S:mm}{m:Str->Option Value}{env:An}{lg:Lg}{μ:MH}
theorem mm.n8.then{α:Type}{t:Sem α}{P:Lg->MH->α->Prop}{X:As}{s:Shared}{E:Value->Shared->Prop}(d:S.n8 t m env lg μ P X)
  (I:S.I m env lg μ s.heap) (H:S.H lg) (hX:∀v s',S.X m env lg s X v s'->E v s') {k:α->Shared->Prop}
  (h:∀a qz μ₁ s₁,Ext lg qz->S.I m env qz μ₁ s₁.heap->S.H qz->P qz μ₁ a->(∀(β:Type) (P2:Lg->MH->β->Prop) b s',S.P m env qz s₁ P2 b s'->S.P m env lg s P2 b s')->
   (∀v s',S.X m env qz s₁ X v s'->E v s')->k a s₁) :
  wpAny S.M S.A t k E s:=by
 refine gI (d s E I H hX) (fun a s₁ hp=>?_) fun _ _ z=>z
 obtain⟨h',tk,qz,μ₁,rfl,I₁,x,p⟩:=hp
 exact h a qz μ₁ _ x I₁ (H.mono x) p (fun β P2 b s' z=>z.trans x) (fun v s' z=>hX v s' (z.trans x))
end
def O3(A:Around)(e:Env)(fr:List n9):Prop:=
 ∃l,A.frames=some l/\∀x∈l,(x=e\/∃f∈fr,f.env=x)/\x.frame=some x.locals/\x.scope.kind≠.module
def mm.Calls(S:mm)(FA:Nat->Addr):Prop:=∀f as ws,Oj f=true->∀m env lg μ Q X,Ar S.base lg as ws->S.Φ f as Q X μ->S.n8 (call (.ref (FA f)) ws) m env lg μ (PV S.base Q) X
structure Bi(S:mm)(FA:Nat->Addr)(j:Nat):Prop where
 base:Ty S.base S.K FA
 env:QQ S.e S.sc
 units:S.A.units+16*j+16<cLine
 frames:O3 S.A S.e S.fr
 calls:∀e fr sc,O3 S.A e fr->({S with e:=e,fr:=fr,sc:=sc}:mm).Calls FA
section
variable{S:mm}{FA:Nat->Addr}{j:Nat}
theorem cQ:S.SE (.int i) (.Constant (.int i) k pos):=by
 intro m env lg μ Q X h s E I H hX
 exact wpAny_Constant_int (AI I (show Q (.int i) μ from h))
theorem cT(hl:pY t):S.SE (.str t) (.Constant (.str (sx t)) k pos):=by
 intro m env lg μ Q X h s E I H hX
 exact wpAny_Constant_str (DA I hl (show Q (.str t) μ from h))
theorem RO:S.SE (.bool b) (.Constant (.bool b) k pos):=by
 intro m env lg μ Q X h s E I H hX
 exact wpAny_Constant_bool (S6 I (show Q (.bool b) μ from h))
theorem YZ:S.SE .none (.Constant .none k pos):=by
 intro m env lg μ Q X h s E I H hX
 exact lR (AK.here I ⟨_,.none,(show Q .none μ from h)⟩)
theorem Ll{h:Heap}{o:Obj}(g:h.get? ca=some o)(d:o.data=.cell v):h.IsCell ca v:=⟨o,g,d⟩
theorem cS(G:Bi S FA j)(sZ:x<Bg.length)(hn:n=nm x)(hl:UJ S.sc n=true)(hd:(n==("__debug__":Str))=false):S.SE (.lW x) (.Name n pos):=by
 intro m env lg μ Q X h s E I H hX
 obtain⟨v,hv,q⟩:=Aq h
 subst hn
 have sees:R6 S.e x:=by
  unfold UJ at hl
  split at hl
  ·exact⟨sZ,.inl (G.env.lW _ (by assumption))⟩
  ·exact⟨sZ,.inr (G.env.cell _ (.inl (by assumption)))⟩
  ·exact⟨sZ,.inr (G.env.cell _ (.inr (by assumption)))⟩
  ·exact Dd hl
 have hx:=(I.vars x v hv sees).2
 refine wpAny_Name ?_ hd
 rcases hx with⟨hk,w,hw,r⟩|⟨hk,ca,o,w,hc,hl,c2,r⟩
 ·exact jD G.env.kind hk I.ns hw (AK.here I ⟨v,r,q⟩)
 ·exact wpAny_loadName_cell G.env.kind hk hc (Ll (I.led _ _ hl).1 c2) (AK.here I ⟨v,r,q⟩)
theorem CN{base h:Heap}{m:Str->Option Value}(n:base.Ns a m)(k:base.StaysIn h):h.Ns a m:=n.keeps k
theorem YW(G:Bi S FA j)(hn:n=nm x)(hg:S.sc.lookup n=some .globalImplicit)(hd:(n==("__debug__":Str))=false):S.SE (.lX x) (.Name n pos):=by
 intro m env lg μ Q X h s E I H hX
 obtain⟨v,hv,q⟩:=Aq h
 subst hn
 obtain⟨mg,mb,n1,n2,n3,_⟩:=G.base.names
 obtain⟨w,hw,r⟩:=n3 x v hv
 exact iA G.env.kind (G.env.lX _ hg) (jw (by refine G.env.globals.symm▸?_;exact CN n1 I.old) hw (AK.here I ⟨v,r lg,q⟩)) hd
theorem cM(ha:S.SE a l)(hb:S.SE b r):S.SE (.bin op a b) (.BinOp l op r pos):=by
 intro m env lg μ Q X h s E I H hX
 refine wpAny_BinOp ((ha _ _ _ _ _ _ h).then I H hX fun u mB μ1 s1 x1 I1 H1 p1 k1 mJ=>?_)
 obtain⟨uv,ru,q⟩:=p1
 refine(hb _ _ _ _ _ _ q).then I1 H1 mJ fun v mU μ2 s2 x2 I2 H2 p2 k2 pf=>?_
 obtain⟨vv,rv,q⟩:=p2
 exact gI (am I2 (ru.mono x2) rv q) (fun _ _ z=>k1 _ _ _ _ (k2 _ _ _ _ z)) fun _ _ z=>z
theorem fJ(ha:S.SE a l):S.SE (.un op a) (.UnaryOp op l pos):=by
 intro m env lg μ Q X h s E I H hX
 refine wpAny_UnaryOp ?_
 induction op with
 |Not=>
  refine(ha _ _ _ _ _ _ h).then I H hX fun u mB μ1 s1 x1 I1 H1 p1 k1 mJ=>?_
  obtain⟨uv,ru,q⟩:=p1
  obtain⟨b,hb,q⟩:=Aq q
  exact not_of (GZ ru hb (k1 _ _ _ _ (AK.here I1 ⟨_,.bool _,q⟩)))
 |Invert=>
  refine(ha _ _ _ _ _ _ h).then I H hX fun u mB μ1 s1 x1 I1 H1 p1 k1 mJ=>?_
  obtain⟨uv,ru,q⟩:=p1
  exact gI (Wt I1 ru q fun _ z=>z) (fun _ _ z=>k1 _ _ _ _ z) fun _ _ z=>z
 |USub=>
  refine(ha _ _ _ _ _ _ h).then I H hX fun u mB μ1 s1 x1 I1 H1 p1 k1 mJ=>?_
  obtain⟨uv,ru,q⟩:=p1
  exact gI (Wt I1 ru q fun _ z=>z) (fun _ _ z=>k1 _ _ _ _ z) fun _ _ z=>z
 |UAdd=>
  refine(ha _ _ _ _ _ _ h).then I H hX fun u mB μ1 s1 x1 I1 H1 p1 k1 mJ=>?_
  obtain⟨uv,ru,q⟩:=p1
  exact gI (Wt I1 ru q fun _ z=>z) (fun _ _ z=>k1 _ _ _ _ z) fun _ _ z=>z
end
section
variable{S:mm}{FA:Nat->Addr}{j:Nat}
theorem Bi.u8(G:Bi S FA j):S.A.units+8<cLine:=by have:=G.units;lia
theorem cP(G:Bi S FA j)(ha:S.SE a l)(hb:S.SE b r)(hm:behindInMarks op r=false):S.SE (.cmp a op b) (.Compare l [op] [r] pos):=by
 intro m env lg μ Q X h s E I H hX
 refine wpAny_Compare1 ((ha _ _ _ _ _ _ h).then I H hX fun u mB μ1 s1 x1 I1 H1 p1 k1 mJ=>?_) hm
 obtain⟨uv,ru,q⟩:=p1
 refine(hb _ _ _ _ _ _ q).then I1 H1 mJ fun v mU μ2 s2 x2 I2 H2 p2 k2 pf=>?_
 obtain⟨vv,rv,q⟩:=p2
 obtain⟨c,hc,q⟩:=Aq q
 exact Hk I2 G.u8 (ru.mono x2) rv hc (k1 _ _ _ _ (k2 _ _ _ _ (AK.here I2 ⟨_,.bool c,q⟩)))
theorem dc(G:Bi S FA j)(ha:S.SE a l)(hb:S.SE b r)(hm:behindInMarks op r=false):S.ST (.cmp a op b) (.Compare l [op] [r] pos):=by
 intro m env lg μ Q X h s E I H hX
 refine wpAny_isTrue_Compare1 ((ha _ _ _ _ _ _ h).then I H hX fun u mB μ1 s1 x1 I1 H1 p1 k1 mJ=>?_) hm
 obtain⟨uv,ru,q⟩:=p1
 refine(hb _ _ _ _ _ _ q).then I1 H1 mJ fun v mU μ2 s2 x2 I2 H2 p2 k2 pf=>?_
 obtain⟨vv,rv,q⟩:=p2
 obtain⟨c,hc,q⟩:=Aq q
 exact Hk I2 G.u8 (ru.mono x2) rv hc (jz (k1 _ _ _ _ (k2 _ _ _ _ (AK.here I2 q))))
theorem YT(G:Bi S FA j)(ha:S.SE a l)(hb:S.SE b r1)(hc:S.SE c r2)(hm:lastMarks [o1,o2] [r1,r2]=false) :
  S.SE (.oz a o1 b o2 c) (.Compare l [o1,o2] [r1,r2] pos):=by
 intro m env lg μ Q X h s E I H hX
 refine Compare_chain ((ha _ _ _ _ _ _ h).then I H hX fun u mB μ1 s1 x1 I1 H1 p1 k1 mJ=>?_) hm
 obtain⟨uv,ru,q⟩:=p1
 refine chain_link ((hb _ _ _ _ _ _ q).then I1 H1 mJ fun v mU μ2 s2 x2 I2 H2 p2 k2 pf=>?_)
 obtain⟨vv,rv,q⟩:=p2
 obtain⟨c,uA,q⟩:=Aq q
 refine Hk I2 G.u8 (ru.mono x2) rv uA (jz ?_)
 induction c with
 |false=>exact k1 _ _ _ _ (k2 _ _ _ _ (AK.here I2 ⟨_,.bool _,q⟩))
 |true=>
  refine chain_last ((hc _ _ _ _ _ _ q).then I2 H2 pf fun w pi μ3 s3 x3 I3 H3 p3 k3 sM=>?_)
  obtain⟨wv,oF,q⟩:=p3
  obtain⟨d,hd,q⟩:=Aq q
  exact Hk I3 G.u8 (rv.mono x3) oF hd (k1 _ _ _ _ (k2 _ _ _ _ (k3 _ _ _ _ (AK.here I3 ⟨_,.bool d,q⟩))))
theorem Zd(G:Bi S FA j)(ha:S.SE a l)(hb:S.SE b r1)(hc:S.SE c r2)(hm:lastMarks [o1,o2] [r1,r2]=false) :
  S.ST (.oz a o1 b o2 c) (.Compare l [o1,o2] [r1,r2] pos):=by
 intro m env lg μ Q X h s E I H hX
 refine isTrue_chain ((ha _ _ _ _ _ _ h).then I H hX fun u mB μ1 s1 x1 I1 H1 p1 k1 mJ=>?_) hm
 obtain⟨uv,ru,q⟩:=p1
 refine test_link ((hb _ _ _ _ _ _ q).then I1 H1 mJ fun v mU μ2 s2 x2 I2 H2 p2 k2 pf=>?_)
 obtain⟨vv,rv,q⟩:=p2
 obtain⟨c,uA,q⟩:=Aq q
 refine Hk I2 G.u8 (ru.mono x2) rv uA (jz ?_)
 induction c with
 |false=>exact k1 _ _ _ _ (k2 _ _ _ _ (AK.here I2 q))
 |true=>
  refine test_last ((hc _ _ _ _ _ _ q).then I2 H2 pf fun w pi μ3 s3 x3 I3 H3 p3 k3 sM=>?_)
  obtain⟨wv,oF,q⟩:=p3
  obtain⟨d,hd,q⟩:=Aq q
  exact Hk I3 G.u8 (rv.mono x3) oF hd (jz (k1 _ _ _ _ (k2 _ _ _ _ (k3 _ _ _ _ (AK.here I3 q)))))
theorem cR(ht:S.ST t t')(ha:S.SE a a')(hb:S.SE b b'):S.SE (.ite t a b) (.IfExp t' a' b' pos):=by
 intro m env lg μ Q X h s E I H hX
 refine wpAny_IfExp ((ht _ _ _ _ _ _ h).then I H hX fun u mB μ1 s1 x1 I1 H1 p1 k1 mJ=>?_)
 induction u with
 |true=>exact gI (ha _ _ _ _ _ _ p1 _ _ I1 H1 mJ) (fun _ _ z=>k1 _ _ _ _ z) fun _ _ z=>z
 |false=>exact gI (hb _ _ _ _ _ _ p1 _ _ I1 H1 mJ) (fun _ _ z=>k1 _ _ _ _ z) fun _ _ z=>z
theorem dh(ha:S.ST a l):S.ST (.un .Not a) (.UnaryOp .Not l pos):=by
 intro m env lg μ Q X h s E I H hX
 refine wpAny_isTrue_Not ((ha _ _ _ _ _ _ h).then I H hX fun u mB μ1 s1 x1 I1 H1 p1 k1 mJ=>?_)
 exact k1 _ _ _ _ (AK.here I1 p1)
theorem rP(ht:S.ST t t')(ha:S.ST a a')(hb:S.ST b b'):S.ST (.ite t a b) (.IfExp t' a' b' pos):=by
 intro m env lg μ Q X h s E I H hX
 refine gw ((ht _ _ _ _ _ _ h).then I H hX fun u mB μ1 s1 x1 I1 H1 p1 k1 mJ=>?_)
 induction u with
 |true=>exact gI (ha _ _ _ _ _ _ p1 _ _ I1 H1 mJ) (fun _ _ z=>k1 _ _ _ _ z) fun _ _ z=>z
 |false=>exact gI (hb _ _ _ _ _ _ p1 _ _ I1 H1 mJ) (fun _ _ z=>k1 _ _ _ _ z) fun _ _ z=>z
theorem OO{x:Expr}(he:∀env A3,isTrue x env A3=(do let v <- A3;standAt x.pos;holding [v] (truthy v)))
  (hw:∀{Φ:Az} {env Q X μ},wt lX Φ env a Q X μ->we lX Φ env a (fun v μ'=>opt (D1 v) fun c=>Q c μ') X μ) (ha:S.SE a x):S.ST a x:=by
 intro m env lg μ Q X h s E I H hX
 refine wpAny_isTrue_value ((ha _ _ _ _ _ _ (hw h)).then I H hX fun u mB μ1 s1 x1 I1 H1 p1 k1 mJ=>?_) (he _ _)
 obtain⟨uv,ru,q⟩:=p1
 obtain⟨c,hc,q⟩:=Aq q
 exact GZ ru hc (k1 _ _ _ _ (AK.here I1 q))
def mm.SB(S:mm)(op:BoolOp)(a:ME)(vs:List Expr):Prop:=∀m env lg μ Q X pos,we lX S.Φ env a Q X μ->S.n8 (boolOp pos op (evalEach vs S.e)) m env lg μ (PV S.base Q) X
def mm.TB(S:mm)(op:BoolOp)(a:ME)(vs:List Expr):Prop:=∀m env lg μ Q X,wt lX S.Φ env a Q X μ->S.n8 (allTrue op vs S.e) m env lg μ (PB Q) X
theorem V2(ha:S.SE a x):S.SB op a [x]:=fun m env lg μ Q X pos h=>ha m env lg μ Q X h
theorem Wo(ha:S.ST a x):S.TB op a [x]:=by
 intro m env lg μ Q X h s E I H hX
 induction op with
 |And=>
  refine lG ((ha _ _ _ _ _ _ h).then I H hX fun u mB μ1 s1 x1 I1 H1 p1 k1 mJ=>?_)
  cases u with
  |true=>exact wpAny_allTrue_And_nil (k1 _ _ _ _ (AK.here I1 p1))
  |false=>exact k1 _ _ _ _ (AK.here I1 p1)
 |Or=>
  refine lI ((ha _ _ _ _ _ _ h).then I H hX fun u mB μ1 s1 x1 I1 H1 p1 k1 mJ=>?_)
  cases u with
  |true=>exact k1 _ _ _ _ (AK.here I1 p1)
  |false=>exact wpAny_allTrue_Or_nil (k1 _ _ _ _ (AK.here I1 p1))
theorem V1(ha:S.SE a x)(hb:S.SB .And b (y :: r)):S.SB .And (.and a b) (x :: y :: r):=by
 intro m env lg μ Q X pos h s E I H hX
 refine gw ((ha _ _ _ _ _ _ h).then I H hX fun u mB μ1 s1 x1 I1 H1 p1 k1 mJ=>?_)
 obtain⟨uv,ru,q⟩:=p1
 obtain⟨c,hc,q⟩:=Aq q
 refine gw (hU (gw (hV (GZ ru hc ?_))))
 induction c with
 |false=>exact gN (k1 _ _ _ _ (AK.here I1 ⟨uv,ru,q⟩))
 |true=>exact gI (hb _ _ _ _ _ _ _ q _ _ I1 H1 mJ) (fun _ _ z=>k1 _ _ _ _ z) fun _ _ z=>z
theorem Z3(ha:S.SE a x)(hb:S.SB .Or b (y :: r)):S.SB .Or (.or a b) (x :: y :: r):=by
 intro m env lg μ Q X pos h s E I H hX
 refine gw ((ha _ _ _ _ _ _ h).then I H hX fun u mB μ1 s1 x1 I1 H1 p1 k1 mJ=>?_)
 obtain⟨uv,ru,q⟩:=p1
 obtain⟨c,hc,q⟩:=Aq q
 refine gw (hU (gw (hV (GZ ru hc ?_))))
 induction c with
 |true=>exact gN (k1 _ _ _ _ (AK.here I1 ⟨uv,ru,q⟩))
 |false=>exact gI (hb _ _ _ _ _ _ _ q _ _ I1 H1 mJ) (fun _ _ z=>k1 _ _ _ _ z) fun _ _ z=>z
theorem Wn(ha:S.ST a x)(hb:S.TB .And b (y :: r)):S.TB .And (.and a b) (x :: y :: r):=by
 intro m env lg μ Q X h s E I H hX
 refine lG ((ha _ _ _ _ _ _ h).then I H hX fun u mB μ1 s1 x1 I1 H1 p1 k1 mJ=>?_)
 induction u with
 |true=>exact gI (hb _ _ _ _ _ _ p1 _ _ I1 H1 mJ) (fun _ _ z=>k1 _ _ _ _ z) fun _ _ z=>z
 |false=>exact k1 _ _ _ _ (AK.here I1 p1)
theorem Z6(ha:S.ST a x)(hb:S.TB .Or b (y :: r)):S.TB .Or (.or a b) (x :: y :: r):=by
 intro m env lg μ Q X h s E I H hX
 refine lI ((ha _ _ _ _ _ _ h).then I H hX fun u mB μ1 s1 x1 I1 H1 p1 k1 mJ=>?_)
 induction u with
 |true=>exact k1 _ _ _ _ (AK.here I1 p1)
 |false=>exact gI (hb _ _ _ _ _ _ p1 _ _ I1 H1 mJ) (fun _ _ z=>k1 _ _ _ _ z) fun _ _ z=>z
theorem LH(h:S.SB op a vs):S.SE a (.BoolOp op vs pos):=fun m env lg μ Q X q=>h m env lg μ Q X pos q
theorem LL(h:S.TB op a vs):S.ST a (.BoolOp op vs pos):=by
 intro m env lg μ Q X q s E I H hX
 exact wpAny_isTrue_BoolOp (h m env lg μ Q X q s E I H hX)
theorem cW:S.SL .nil []:=by
 intro m env lg μ Q X h s E I H hX
 exact kQ (AK.here I ⟨[],.nil,show Q [] μ from h⟩)
theorem Y7(ha:S.SE a x)(hr:S.SL r xs):S.SL (.cons a r) (x :: xs):=by
 intro m env lg μ Q X h s E I H hX
 refine jU ((ha _ _ _ _ _ _ h).then I H hX fun u mB μ1 s1 x1 I1 H1 p1 k1 mJ=>?_)
 obtain⟨uv,ru,q⟩:=p1
 refine(hr _ _ _ _ _ _ q).then I1 H1 mJ fun v mU μ2 s2 x2 I2 H2 p2 k2 pf=>?_
 obtain⟨vs,rv,q⟩:=p2
 exact k1 _ _ _ _ (k2 _ _ _ _ (AK.here I2 ⟨_,.cons (ru.mono x2) rv,q⟩))
theorem Bf(xs:List Expr)(e:Env)(pos:Pos)(h:xs.all (fun x=>!Ez x)=true):backTo pos (starEach xs e)=xs.map fun x=>(false,eval x e):=by
 induction xs with
 |nil=>rfl
 |cons x r ih=>
  have h:=BV h
  have e1:starEach (x :: r) e=(false,eval x e) :: starEach r e:=by
   have h1:=h.1
   clear h ih
   induction x using Expr.casesOn<;>first|rfl|exact nomatch h1
  refine e1.symm▸?_
  show(false,_) :: backTo pos (starEach r e)=_
  refine(ih h.2).symm▸?_;rfl
theorem YX{xs:List Expr}(hs:xs.all (fun x=>!Ez x)=true)(ha:S.SL a xs):S.SE (.list a) (.List xs pos):=by
 intro m env lg μ Q X h s E I H hX
 (rewrite[arm_eval_List];refine(Bf xs S.e pos hs).symm▸?_)
 refine gw (hU (gw ((ha _ _ _ _ _ _ h).then I H hX fun u mB μ1 s1 x1 I1 H1 p1 k1 mJ=>?_)))
 obtain⟨vs,rv,q⟩:=p1
 have hl:=(Ag q).1;have q:=(Ag q).2
 exact gI (SP I1 rv hl q) (fun _ _ z=>k1 _ _ _ _ z) fun _ _ z=>z
theorem cV{xs:List Expr}(hs:xs.all (fun x=>!Ez x)=true)(ha:S.SL a xs):S.SE (.tup a) (.Tuple xs k pos):=by
 intro m env lg μ Q X h s E I H hX
 (rewrite[arm_eval_Tuple];refine(Bf xs S.e pos hs).symm▸?_)
 refine gw (hU (gw ((ha _ _ _ _ _ _ h).then I H hX fun u mB μ1 s1 x1 I1 H1 p1 k1 mJ=>?_)))
 obtain⟨vs,rv,q⟩:=p1
 have hl:=(Ag q).1;have q:=(Ag q).2
 exact gI (QI I1 rv hl q) (fun _ _ z=>k1 _ _ _ _ z) fun _ _ z=>z
theorem QT(h:Jg o=true):attributeBase o a env w=w:=by
 induction o using Expr.casesOn with
 |Call f as kw p=>induction f using Expr.casesOn with
  |Name x p=>induction as using List.casesOn with
   |cons _ _=>rfl
   |nil=>induction kw using List.casesOn with
    |cons _ _=>rfl
    |nil=>exact nomatch h
  |_=>rfl
 |_=>rfl
theorem YR(G:Bi S FA j)(hn:n=nm a)(ha:a∈EI)(hb:Jg o'=true)(ho:S.SE o o'):S.SE (.attr o a) (.Attribute o' n pos):=by
 intro m env lg μ Q X h s E I H hX
 subst hn
 rw[arm_eval_Attribute,QT hb]
 refine gw ((ho _ _ _ _ _ _ h).then I H hX fun u mB μ1 s1 x1 I1 H1 p1 k1 mJ=>?_)
 obtain⟨uv,ru,q⟩:=p1
 obtain⟨v,hv,q⟩:=Aq q
 refine gw (hU (gw (hV (gI (QS G.base.cls G.base.pX I1 ru ha hv q) (fun r s2 z=>?_) fun _ _ z=>z))))
 exact gw (wpAny_letTemporaryGo (gN (k1 _ _ _ _ z)))
theorem Kk(h:Fz i'=true):subscripted i' false o i=operate [o,i] (getItem o i):=by
 induction i' using Expr.casesOn<;>first|rfl|exact nomatch h
theorem cU(hs:Fz i'=true)(ho:S.SE o o')(hi:S.SE i i'):S.SE (.sub o i) (.Subscript o' i' pos):=by
 intro m env lg μ Q X h s E I H hX
 refine Subscript_ ((ho _ _ _ _ _ _ h).then I H hX fun u mB μ1 s1 x1 I1 H1 p1 k1 mJ=>?_)
 obtain⟨uv,ru,q⟩:=p1
 refine(hi _ _ _ _ _ _ q).then I1 H1 mJ fun v mU μ2 s2 x2 I2 H2 p2 k2 pf=>?_
 obtain⟨vv,rv,q⟩:=p2
 obtain⟨z,hz,q⟩:=Aq q
 rw[IL]at hz
 have it:=Wi (prog:=S.pg) (w:=S.w) (A:=S.A) (E:=E) I2 (ru.mono x2) rv hz q
 exact RW ⟨it.how,gI it.rS (fun _ _ z=>k1 _ _ _ _ (k2 _ _ _ _ z)) fun _ _ z=>z⟩ (Kk hs)
def mm.pj(S:mm)(a:ME)(x:Option Expr):Prop:=∀m env lg μ Q X,we lX S.Φ env a Q X μ->S.n8 (evalPart x S.e) m env lg μ (PV S.base Q) X
theorem Qv:S.pj .none none:=by
 intro m env lg μ Q X h s E I H hX
 exact gN (AK.here I ⟨_,.none,show Q .none μ from h⟩)
theorem Qw(h:S.SE a x):S.pj a (some x):=h
theorem V4{o lo hi:ME}{o':Expr}{te qw:Option Expr}{p pos:Pos}(ho:S.SE o o')(pW:S.pj lo te)(qf:S.pj hi qw):S.SE (.slice o lo hi) (.Subscript o' (.Slice te qw none p) pos):=by
 intro m env lg μ Q X h s E I H hX
 refine Subscript_ ((ho _ _ _ _ _ _ h).then I H hX fun u mB μ1 s1 x1 I1 H1 p1 k1 mJ=>?_)
 obtain⟨uv,ru,q⟩:=p1
 refine wpAny_Slice ((pW _ _ _ _ _ _ q).then I1 H1 mJ fun v mU μ2 s2 x2 I2 H2 p2 k2 pf=>?_)
 obtain⟨vv,rv,q⟩:=p2
 refine(qf _ _ _ _ _ _ q).then I2 H2 pf fun w pi μ3 s3 x3 I3 H3 p3 k3 sM=>?_
 obtain⟨wv,oF,q⟩:=p3
 refine gN ?_
 have it:=V7 (prog:=S.pg) (w:=S.w) (A:=S.A) (E:=E) I3 ((ru.mono x2).mono x3) (rv.mono x3) oF q
 exact RW (ops:=[.ref s3.heap.objs.size,u]) ⟨it.how,gI it.rS (fun _ _ z=>k1 _ _ _ _ (k2 _ _ _ _ (k3 _ _ _ _ z))) fun _ _ z=>z⟩ rfl
end
section
variable{S:mm}{FA:Nat->Addr}{j:Nat}
theorem DZ(xs:List Expr)(e:Env):(xs.map fun x=>((false,eval x e):Bool×Sem Value)).any (·.1)=false:=by
 induction xs with
 |nil=>rfl
 |cons x r ih=>assumption
theorem MK(xs:List Expr)(e:Env):(xs.map fun x=>((false,eval x e):Bool×Sem Value)).all (fun x=>!x.1)=true:=by
 induction xs with
 |nil=>rfl
 |cons x r ih=>assumption
theorem Gp{E:Value->Shared->Prop}{xs:List Expr}{e:Env}{Q:Args->Shared->Prop}
  (h:wpAny M A (spliced (xs.map fun x=>(false,eval x e))) (fun vs s'=>Q ⟨vs,[]⟩ s') E s):wpAny M A (evalArgs f true (xs.map fun x=>(false,eval x e)) []) Q E s:=by
 induction xs using List.casesOn with
 |cons x r=>exact Calls.evalArgs_plain h
 |nil=>
  refine gw (gI h (fun vs s' h'=>?_) fun _ _ x=>x)
  refine gw (gN ?_)
  refine hV ?_
  exact gw (gN (gw (gN (gN h'))))
theorem Inv.rZ{A:Around}{base:Heap}{K:Frag}{e:Env}{m:Str->Option Value}{fr:List n9}{env:An}{lg:Lg}{μ:MH}{h:Heap}(I:Inv base K e m fr env lg μ h)(H:HL A base lg):ou A h:=
 H.imp id fun nR=>by obtain⟨a,o,arr,e,k,r⟩:=nR;exact⟨a,o,arr,e,I.kn k,r⟩
theorem YS{xs:List Expr}(G:Bi S FA j)(hf:Oj f=true)(hn:n=nm f)(hg:S.sc.lookup n=some .globalImplicit)(hd:(n==("__debug__":Str))=false)
  (hs:xs.all (fun x=>!Ez x)=true) (ha:S.SL as xs):S.SE (.call f as) (.Call (.Name n p) xs [] pos):=by
 intro m env lg μ Q X h s E I H hX
 subst hn
 obtain⟨mg,mb,n1,n2,n3,n4,_⟩:=G.base.names
 have hw:=(n4 f hf).1;have hk:=(n4 f hf).2
 refine Call_Name rfl (iA G.env.kind (G.env.lX _ hg) (jw (by refine G.env.globals.symm▸?_;exact CN n1 I.old) hw ?_) hd)
 have calls:=G.calls S.e S.fr S.sc G.frames
 refine callWith_of (by rw[Bf _ _ _ hs,DZ];rfl) (keeps_K hk) ?_
 refine(Bf _ _ _ hs).symm▸?_
 refine Gp ((ha _ _ _ _ _ _ h).then I H hX fun u mB μ1 s1 x1 I1 H1 p1 k1 mJ=>?_)
 obtain⟨vs,rv,q⟩:=p1
 exact⟨G.base.pX.keeps I1.old,gI (calls f vs u hf m env mB μ1 Q X rv q s1 E I1 H1 mJ) (fun _ _ z=>k1 _ _ _ _ z) fun _ _ z=>z⟩
theorem cO{xs:List Expr}(G:Bi S FA j)(hf:f<5)(hn:n=Str.ofString (HQ f))(hg:S.sc.lookup n=some .globalImplicit)(hd:(n==("__debug__":Str))=false)
  (hs:xs.all (fun x=>!Ez x)=true) (ha:S.SL as xs):S.SE (.blt f as) (.Call (.Name n p) xs [] pos):=by
 intro m env lg μ Q X h s E I H hX
 subst hn
 obtain⟨mg,mb,n1,n2,n3,n4,n5,_⟩:=G.base.names
 obtain⟨hw,hk⟩:=n5 f hf
 refine Call_Name rfl (iA G.env.kind (G.env.lX _ hg) (lr (by rw[G.env.globals];exact CN n1 I.old) hw (by rw[G.env.builtins];exact CN n2 I.old) hk ?_) hd)
 have hp:(backTo pos (starEach xs S.e)).any (·.1)=false:=by rw[Bf _ _ _ hs,DZ]
 have fin:∀{f':Value},f'=Jk f->wpAny S.M S.A (evalArgs f' true (backTo pos (starEach xs S.e)) []) (fun a s₁=>wpAny S.M S.A (call f' ([]++a.pos) a.kw) (S.P m env lg s (PV S.base Q)) E s₁) E s:=by
  intro f' pC
  subst pC
  rw[Bf _ _ _ hs]
  refine Gp ((ha _ _ _ _ _ _ h).then I H hX fun u mB μ1 s1 x1 I1 H1 p1 k1 mJ=>?_)
  obtain⟨vs,rv,q⟩:=p1
  exact gI (ar (I1.rZ H1.hl) I1 rv q) (fun _ _ z=>k1 _ _ _ _ z) fun _ _ z=>z
 have hfs:f=0\/f=1\/f=2\/f=3\/f=4:=by lia
 rcases hfs with rfl|rfl|rfl|rfl|rfl
 ·exact jg hp (fin rfl)
 ·exact jg hp (fin rfl)
 ·exact jg hp (fin rfl)
 ·exact lc hp (fin rfl)
 ·exact lc hp (fin rfl)
theorem Tk:∀f,f<5->∃T,(T="list"\/T="str")/\(T="list"↔f<2)/\PlainAttrs T/\Slot T (Str.ofString (P0 f)) (IB f)/\typeOf (.builtin (IB f))=pure (.type "method_descriptor")
 |0,_=>⟨"list",.inl rfl,by decide,F.plainAttrs_list,F.slot_list_append,F.type_list_append⟩
 |1,_=>⟨"list",.inl rfl,by decide,F.plainAttrs_list,F.slot_list_pop,F.type_list_pop⟩
 |2,_=>⟨"str",.inr rfl,by decide,kT,F.slot_str_find,F.type_str_find⟩
 |3,_=>⟨"str",.inr rfl,by decide,kT,F.slot_str_lower,F.type_str_lower⟩
 |4,_=>⟨"str",.inr rfl,by decide,kT,F.slot_str_join,F.type_str_join⟩
theorem YY{xs:List Expr}{apos pos:Pos}(hf:f<5)(hb:Jg o'=true)(hl:(apos.endLine==pos.line)=true)(hlen:xs.length<20)(hn:n=Str.ofString (P0 f))
  (hs:xs.all (fun x=>!Ez x)=true) (ho:S.SE o o') (ha:S.SL as xs):S.SE (.my o f as) (.Call (.Attribute o' n apos) xs [] pos):=by
 intro m env lg μ Q X h s E I H hX
 subst hn
 refine wpAny_Call_method_lateS (QT hb) ?_ hl ((ho _ _ _ _ _ _ h).then I H hX fun u mB μ1 s1 x1 I1 H1 p1 k1 mJ=>?_)
 ·rw[Bf _ _ _ hs,MK]
  exact gy (show xs.length+0+0<30 from iu hlen (by decide))
 obtain⟨uv,ru,q⟩:=p1
 have og:=(A6 q).1;have q:=(A6 q).2
 obtain⟨T,hT,hTf,pa,slot,ty⟩:=Tk f hf
 have typed:s1.TypeIs u T/\∀a,u=.ref a->∃ob,s1.heap.get? a=some ob/\ob.dict=none:=by
  induction uv using V.casesOn with
  |lW n=>
   have og:(decide (f<2)&&(By μ1 n).isSome)=true:=og
   rw[gH,g9]at og
   obtain⟨rT,hm⟩:=Option.isSome_iff_exists.mp og.2
   obtain⟨p,d,rfl,hr⟩:=ru.mA
   obtain⟨vs,k,hg,rfl,_⟩:=Cn I1 hr (Ba hm)
   rw[hTf.mpr og.1]
   exact⟨(A9 hg).typeIs,fun a e=>by cases e;exact⟨_,hg,rfl⟩⟩
  |str z=>
   have og:(decide (2<=f)&&decide (f<5))=true:=og
   rw[gH,g9]at og
   obtain⟨⟨t,rfl⟩,_⟩:=ru.mh
   have:T="str":=hT.resolve_left fun e=>Nat.not_lt.mpr og.1 (hTf.mp e)
   rw[this]
   exact⟨typeIs_str _ _ _,fun a e=>by cases e⟩
  |_=>exact Dd og
 refine⟨T,IB f,pa,slot,ty,typed.1,typed.2,jg (by rw[Bf _ _ _ hs,DZ]) ?_⟩
 refine(Bf _ _ _ hs).symm▸?_
 refine Gp ((ha _ _ _ _ _ _ q).then I1 H1 mJ fun v mU μ2 s2 x2 I2 H2 p2 k2 pf=>?_)
 obtain⟨vs,rv,q⟩:=p2
 exact gI (Rw I2 (ru.mono x2) rv q) (fun _ _ z=>k1 _ _ _ _ (k2 _ _ _ _ z)) fun _ _ z=>z
end
section
variable{prog:Program}{w:World}{A:Around}{E:Value->Shared->Prop}
variable{base:Heap}{K:Frag}{e:Env}{m:Str->Option Value}{fr:List n9}{env:An}{lg:Lg}{μ:MH}{s:Shared}{h:Heap}
theorem Ro{h:Heap}{ob:Obj}(I:Inv base K e m fr env lg μ h)(hf:ob.isFreed=false)(ho:Gm base K ((lg.put h.objs.size ob).lW h.objs.size h.objs.size) h.objs.size h.objs.size o) :
  ∃lY,Inv base K e m fr env lY (μ++[o]) (h.push ob)/\Ext lg lY/\lY.mu[μ.length]?=some (h.objs.size,h.objs.size)/\∀a p,lg.led a=some p->lY.led a=some p:=by
 have I1:=I.add (h':=h.push ob) (a:=h.objs.size) (o:=ob) (Bl h) (fun b p q=>gF ob q) (hM h hf)
 have x1:Ext lg (lg.put h.objs.size ob):=Ext.mH _ I.fresh
 have o5:∀p∈(lg.put h.objs.size ob).mu,p.2≠h.objs.size:=fun p hp z=>by
  obtain⟨qV,q,_⟩:=I.stores (p:=p) hp
  rw[z]at q
  exact absurd (g7 (I.led _ _ q).1) (ib _)
 have oW:∀f∈fr,f.env.locals≠h.objs.size:=fun f pC z=>by
  obtain⟨⟨ob,a1,_⟩,_⟩:=I.frames f pC
  rw[z]at a1
  exact absurd (g7 (I.led _ _ a1).1) (ib _)
 refine⟨_,I1.new o5 oW ho,x1.trans (Ext.lW _ _),?_,fun a p q=>?_⟩
 rotate_left
 ·show(lg.put h.objs.size ob).led a=some p
  rw[Lg.l8];exact q
  rintro rfl;exact AM I.fresh q
 show(lg.mu++[(h.objs.size,h.objs.size)])[μ.length]?=_
 rw[<- I.heap.len,i6 (gE _)]
 simp
inductive O1(base:Heap)(lg:Lg):List (Int×V)->List (Value×Value)->Prop
 |nil:O1 base lg [] []
 |cons (i:Int) (v:V) (kv:List (Int×V)) (t:Tok) (z:Value) (l:List (Value×Value)) (r:Aw base lg v z) (h:O1 base lg kv l):O1 base lg ((i,v) :: kv) ((.int i t,z) :: l)
theorem O1.length{kv:List (Int×V)}{l:List (Value×Value)}(h:O1 base lg kv l):kv.length=l.length:=by
 induction h with
 |nil=>rfl
 |cons i v kv t z l r _ ih=>exact congrArg Nat.succ ih
noncomputable def Z9:List (Int×V)->Prop
 |[]=>True
 |(i,_) :: kv=>(∀p∈kv,p.1≠i)/\Z9 kv
theorem Gz:∀{kv:List (Int×V)} {i:Int},(∀p∈kv,p.1≠i)->Bn kv i=none
 |[],_,_=>rfl
 |(k,v) :: kv,i,h=>by unfold Bn;rw[iH (h _ (.head _)),Gz fun p hp=>h p (gz _ hp)]
theorem OP(d:Addr):∀(l:List (Value×Value)) (kv:List (Int×V)) (s:Shared) (f:Int->Option Value) (n:Nat) (Q:PUnit->Shared->Prop),O1 base lg kv l->Z9 kv->s.heap.IntMap d f->s.heap.DictLe d n->n+l.length<=sizeLine->
  (∀h' tk g,Heap.SameBut d s.heap h'->h'.IntMap d g->h'.DictLe d (n+l.length)->(∀k,(Bn kv k=none/\g k=f k)\/∃v z,Bn kv k=some v/\g k=some z/\Aw base lg v z)->Q ⟨⟩ {s with heap:=h',toks:=tk})->
  wpAny (model prog w) A (storeAll d l) Q E s:=by
 intro l
 induction l with
 |nil=>
  intro kv s f n Q h _ hm hl _ hQ
  cases h
  exact gN (hQ s.heap s.toks f (Heap.SameBut.refl ..) hm (by exact hl) fun k=>.inl ⟨rfl,rfl⟩)
 |cons p l ih=>
  intro kv s f n Q h dd hm hl nt hQ
  cases h with
  |cons i v kv t z _ hv hr=>
   have e:storeAll d ((.int i t,z) :: l)=(dictSet d (.int i t) z >>= fun _=>storeAll d l):=by
    unfold storeAll
    rw[List.forIn_cons]
    simp only[bind_assoc,pure_bind]
   refine e.symm▸?_
   have hlen:n+(l.length+1)<=sizeLine:=nt
   refine gw (wpAny_dictSet_int_le hm hl (by exact mO (nB _ _ _) mi nE (.add mi (mt 1 1)) nE rfl hlen) fun h1 hm1 qS qy=>?_)
   refine ih kv _ _ (n+1) Q hr dd.2 hm1 qS (by exact mO (nB _ _ _) (.add (mt 0 1) mD) nE (.add mi (mt 1 1)) nE rfl hlen) fun h' tk g hs hg sR hk=>?_
   refine hQ h' tk g (qy.trans hs) hg (by refine List.length_cons.symm▸?_;rwa [show n+(l.length+1)=n+1+l.length by exact jG (qq5) (qq6)]) fun k=>?_
   rcases hk k with⟨q1,q2⟩|⟨v',z',q1,q2,q3⟩
   ·by_cases uL:i=k
    ·cases uL
     exact .inr ⟨v,z,by unfold Bn;exact(iI rfl),by refine q2.symm▸?_;simp,hv⟩
    ·exact .inl ⟨by unfold Bn;refine(iH uL).symm▸?_;exact q1,by refine q2.symm▸?_;simp[iJ uL]⟩
   ·refine .inr ⟨v',z',?_,q2,q3⟩
    unfold Bn
    rw[iH]
    ·exact q1
    ·rintro rfl
     exact AM (Gz dd.1) q1
end
theorem UM(h:ZQ a kv=some i):a=.int i/\∀p∈kv,p.1≠i:=by
 induction a using V.casesOn with
 |int j=>
  have h:(match kv.all fun p=>decide (p.1≠j)with|true=>some j|false=>none)=some i:=h
  revert h
  cases q:kv.all fun p=>decide (p.1≠j) with
  |true=>
   intro h;obtain rfl:=Option.some.inj h
   rw[ia]at q
   exact⟨rfl,fun p hp=>gG (q p hp)⟩
  |false=>intro h;exact Ao h
 |_=>exact Ao h
theorem PG(h:PE o=true):o=some (.dict []):=by
 induction o with
 |none=>exact Dd h
 |some o=>induction o with
  |dict kv=>induction kv using List.casesOn with
   |nil=>rfl
   |cons _ _=>exact Dd h
  |_=>exact Dd h
section
variable{S:mm}{FA:Nat->Addr}{j:Nat}
def PD(base:Heap)(Q:List (Int×V)->MH->Prop)(lg:Lg)(μ:MH)(l:List (Value×Value)):Prop:=∃kv,O1 base lg kv l/\Z9 kv/\Q kv μ
def mm.SD(S:mm)(a:ME)(ks:List (Option Expr))(vs:List Expr):Prop:=∀m env lg μ Q X pos,wd lX S.Φ env a Q X μ->S.n8 (evalPairs (pairTrees ks vs S.e pos)) m env lg μ (PD S.base Q) X
theorem cL:S.SD .nil [] []:=by
 intro m env lg μ Q X pos h s E I H hX
 exact pairTrees_nil_walk (AK.here I ⟨[],.nil,trivial,show Q [] μ from h⟩)
theorem YQ(hk:S.SE k k')(hv:S.SE v v')(hr:S.SD r ks vs):S.SD (.cons (.cons k v) r) (some k' :: ks) (v' :: vs):=by
 intro m env lg μ Q X pos h s E I H hX
 refine pairTrees_cons_walk ((hk _ _ _ _ _ _ h).then I H hX fun a mB μ1 s1 x1 I1 H1 p1 k1 mJ=>?_)
 obtain⟨av,ra,q⟩:=p1
 refine(hv _ _ _ _ _ _ q).then I1 H1 mJ fun b mU μ2 s2 x2 I2 H2 p2 k2 pf=>?_
 obtain⟨bv,rb,q⟩:=p2
 refine(hr _ _ _ _ _ _ _ q).then I2 H2 pf fun l pi μ3 s3 x3 I3 H3 p3 k3 sM=>?_
 obtain⟨kv,dl,dd,q'⟩:=p3
 obtain⟨i,hi,q''⟩:=Aq q'
 obtain⟨rfl,ne⟩:=UM hi
 obtain⟨t,rfl⟩:=ra.ma
 exact k1 _ _ _ _ (k2 _ _ _ _ (k3 _ _ _ _ (AK.here I3 ⟨(i,bv) :: kv,.cons _ _ _ t _ _ (rb.mono x3) dl,⟨ne,dd⟩,q''⟩)))
theorem YV{ks:List (Option Expr)}{vs:List Expr}(h0:ks≠[])(hlen:ks.length<=15)(ro:ks.all (·.isSome)=true)(hl:ks.length=vs.length)(ha:S.SD a ks vs):S.SE (.dict a) (.Dict ks vs pos):=by
 intro m env lg μ Q X h s E I H hX
 refine wpAny_Dict_any ro hl h0 hlen ?_
 obtain⟨lg0,I0,x0,r0,_⟩:=Ro (o:=.dict []) (ob:={cls:=.type "dict",data:=.dict #[]}) I rfl ⟨rfl,_,Lg.l9 ..,rfl,#[],0,rfl,(fun _ he=>by simp at he),gE 0,fun k=>.inl ⟨rfl,rfl⟩⟩
 refine(ha _ _ _ _ _ _ pos h).then (s:={s with heap:=s.heap.push {cls:=.type "dict",data:=.dict #[]}}) I0 (H.mono x0) (fun v s' z=>hX v s' (EP.trans (tk:=s.toks) x0 z)) fun l mB μ1 s1 x1 I1 H1 p1 k1 mJ=>?_
 obtain⟨kv,dl,dd,q⟩:=p1
 have hμ:=(A6 q).1;have q:=(A6 q).2
 have hμ:=PG hμ
 have hkl:=(Ag q).1;have q:=(Ag q).2
 have r1:=x1.mu _ _ r0
 obtain⟨f,hf,hd,hle,_⟩:=Oh I1 r1 hμ
 have fn:∀k,f k=none:=fun k=>by
  rcases hd k with⟨_,z⟩|⟨v,w,z,_⟩
  ·exact z
  ·exact Ao z
 have rB:=dl.length
 have sl:(15:Nat)<=sizeLine:=by decide
 refine OP _ l kv s1 f 0 _ dl dd hf hle (by lia) fun h' tk g hs hg uM hk=>?_
 obtain⟨o',es,ep,g1,g2,g3,g4,g5⟩:=hg
 obtain⟨a',d',z1,z2⟩:=I1.heap.each _ _ hμ
 replace z1:=r1▸z1;cases Option.some.inj z1
 obtain⟨_,ob,b1,b2,es0,k0,b3,_⟩:=z2
 have x2:Ext mB (mB.put s.heap.objs.size o'):=Ext.nP _ b1 (.inr ⟨_,_,b3⟩)
 have I2:=I1.turn (o:=.dict kv) r1 b1 (.inr ⟨_,_,b3⟩) hs g1 ⟨rfl,o',Lg.l9 ..,g2,es,ep,g3,g4,by have:=uM _ _ _ g1 g3;lia,fun k=>by
  rcases hk k with⟨q1,q2⟩|⟨v,z,q1,q2,q3⟩
  ·exact .inl ⟨q1,by(refine(g5 k).symm▸?_;rewrite[q2];rewrite[fn];rfl)⟩
  ·exact .inr ⟨v,z,q1,by(refine(g5 k).symm▸?_;refine q2.symm▸?_;rfl),q3.mono x2⟩⟩
 have fin:=k1 _ _ _ _ (AK.to (s:=s1) (tk:=tk) (P:=PV S.base Q) (a:=.ref s.heap.objs.size) I2 x2 ⟨_,.lW _ _ s.heap.objs.size (x2.mu _ _ r1),q⟩)
 exact AK.trans (tk:=s.toks) x0 fin
end
section
variable{base:Heap}{K:Frag}{e:Env}{m m':Str->Option Value}{fr:List n9}{env:An}{lg:Lg}{μ:MH}{h h':Heap}
theorem Inv.keepsBut(I:Inv base K e m fr env lg μ h)(hb:base.get? C=none)(hl:lg.led C=none)(ne:e.locals≠C)(k:∀b o,b≠C->h.get? b=some o->h'.get? b=some o):Inv base K e m fr env lg μ h':=by
 refine{I with old:=fun b o q=>k b o (fun z=>by(rw[z]at q;replace q:=hb▸q);exact Ao q) (I.old b o q),ns:=?_,led:=fun a o q=>⟨k a o (fun z=>by(rw[z]at q;replace q:=hl▸q);exact Ao q) (I.led a o q).1,(I.led a o q).2⟩}
 obtain⟨on,es,ep,q1,q2⟩:=I.ns
 exact⟨on,es,ep,k _ _ ne q1,q2⟩
theorem Inv.qm(I:Inv base K e m fr env lg μ h)(hx:x<Bg.length)(hk:e.kindOf (nm x)=some .local)(hv:Aw base lg v z)
  (hn:h'.Ns e.locals (fun y=>if y=nm x then some z else m y)) (hs:Heap.SameBut e.locals h h'):Inv base K e (fun y=>if y=nm x then some z else m y) fr (Ad env x v) lg μ h':=by
 have k:∀b o,b≠e.locals->h.get? b=some o->h'.get? b=some o:=fun b o n q=>(hs.2 b n).trans q
 refine{I with old:=fun b o q=>k b o (fun y=>by(rw[y]at q;replace q:=I.nF▸q);exact Ao q) (I.old b o q),ns:=hn,led:=fun a o q=>⟨k a o (fun y=>by(rw[y]at q;replace q:=I.mG▸q);exact Ao q) (I.led a o q).1,(I.led a o q).2⟩,vars:=fun y u q ss=>?_}
 unfold Ad at q
 split at q
 ·rename_i e'
  subst e';obtain rfl:=Option.some.inj q
  exact⟨hx,.inl ⟨hk,z,by simp,hv⟩⟩
 ·rename_i ne
  have hy:=(I.vars y u q ss).1;have uX:=(I.vars y u q ss).2
  refine⟨hy,uX.imp (fun⟨a,w,b,c⟩=>⟨a,w,?_,c⟩) id⟩
  show(if nm y=nm x then some z else m (nm y))=some w
  exact(iH fun q=>ne (Hy hy hx q)).trans (b)
theorem Inv.setCell(I:Inv base K e m fr env lg μ h)(hx:x<Bg.length)(hk:e.kindOf (nm x)=some .cell)(hc:e.cells.lookup (nm x)=some ca)
  (hl:lg.led ca=some o) (ho:Da o) (apart:∀f∈fr,f.cells ca=none) (inj:∀n n' ca,e.cells.lookup n=some ca->e.cells.lookup n'=some ca->n=n') (hv:Aw base lg v z) {o':Obj}
  (g:h'.get? ca=some o') (d:o'.data=.cell (some z)) (hs:Heap.SameBut ca h h'):Inv base K e m fr (Ad env x v) (lg.put ca o') μ h'/\Ext lg (lg.put ca o'):=by
 have hb:=(I.led _ _ hl).2
 have nL:e.locals≠ca:=by rintro rfl;exact AM I.mG hl
 have ne:∀b p,¬Da p->lg.led b=some p->b≠ca:=fun b p n q y=>by(rw[y]at q;replace q:=hl▸q);obtain rfl:=Option.some.inj q;exact n ho
 have k:∀b p,b≠ca->h.get? b=some p->h'.get? b=some p:=fun b p n q=>(hs.2 b n).trans q
 have x1:Ext lg (lg.put ca o'):=by
  refine⟨fun b p i q=>?_,fun b p c q=>?_,fun _ _ q=>q⟩
  ·exact(Lg.l8 _ _ (ne b p (fun nR=>by obtain⟨v,c⟩:=nR;exact i.2.2 v c) q)).trans (q)
  ·by_cases y:b=ca
   ·subst y;exact⟨o',⟨_,d⟩,Lg.l9 ..⟩
   ·exact⟨p,c,by exact(Lg.l8 _ _ y).trans (q)⟩
 refine⟨⟨fun b p q=>k b p (fun y=>by(rw[y]at q;replace q:=hb▸q);exact Ao q) (I.old b p q),?_,I.nF,by refine(Lg.l8 _ _ nL).symm▸?_;exact I.mG,fun b p q=>?_,fun f hf=>?_,I.dist,I.apart,fun y u q ss=>?_,I.heap.len,I.heap.nodup,fun n p q=>?_⟩,x1⟩
 ·obtain⟨on,es,ep,q1,q2⟩:=I.ns
  exact⟨on,es,ep,k _ _ nL q1,q2⟩
 ·by_cases y:b=ca
  ·subst y;rw[Lg.l9]at q;obtain rfl:=Option.some.inj q;exact⟨g,hb⟩
  ·replace q:=(Lg.l8 _ _ y)▸q;exact⟨k b p y (I.led b p q).1,(I.led b p q).2⟩
 ·obtain⟨⟨p,a1,a2⟩,a3⟩:=I.frames f hf
  refine⟨⟨p,?_,a2⟩,fun c q y=>⟨?_,(a3 c q y).2⟩⟩
  ·rw[Lg.l8 _ _ (ne _ _ (fun⟨v,c⟩=>by obtain⟨es,ep,dd,_⟩:=a2;replace c:=dd▸c;exact nomatch c) a1)];exact a1
  ·rw[Lg.l8];exact(a3 c q y).1
   rintro rfl;exact AM (apart f hf) y
 ·unfold Ad at q
  split at q
  ·rename_i e'
   subst e';obtain rfl:=Option.some.inj q
   exact⟨hx,.inr ⟨hk,ca,o',z,hc,Lg.l9 ..,d,hv.mono x1⟩⟩
  ·rename_i nxy
   have hy:=(I.vars y u q ss).1;have uX:=(I.vars y u q ss).2
   refine⟨hy,uX.imp (fun⟨a,w,b,c⟩=>⟨a,w,b,c.mono x1⟩) fun⟨a,cb,p,w,b1,b2,b3,b4⟩=>⟨a,cb,p,w,b1,?_,b3,b4.mono x1⟩⟩
   rw[Lg.l8];exact b2
   rintro rfl
   exact nxy (Hy hy hx (inj _ _ _ b1 hc))
 ·obtain⟨a',dd,a1,a2⟩:=I.heap.each n p q
  refine⟨a',dd,a1,a2.mono x1 fun ob y=>?_⟩
  obtain⟨qV,y',n'⟩:=a2.nQ
  obtain⟨vc,y2,sto⟩:∃vc,lg.led dd=some vc/\rV vc:=by
   induction p with
   |list xs=>obtain⟨_,_,_,_,z1,_⟩:=a2;exact⟨_,z1,.inl ⟨rfl,_,_,rfl⟩⟩
   |inst c fs=>obtain⟨_,_,_,_,_,es,k,z1,_⟩:=a2;exact⟨_,z1,.inr ⟨_,_,rfl⟩⟩
   |dict kv=>obtain⟨_,ob,z1,_,es,k,z3,_⟩:=a2;exact⟨ob,z1,.inr ⟨_,_,z3⟩⟩
  exact(Lg.l8 _ _ (ne _ _ (fun c=>sto.oh c) y2)).trans (y)
end
section
variable{S:mm}{FA:Nat->Addr}{j:Nat}{m:Str->Option Value}{env:An}{lg:Lg}{μ:MH}
inductive IR(S:mm)(env':An)(lg:Lg)(μ:MH)(s s':Shared):Prop
 |mk (h':Heap) (tk:Nat) (lY:Lg) (m':Str->Option Value) (e1:s'={s with heap:=h',toks:=tk}) (I:Inv S.base S.K S.e m' S.fr env' lY μ h') (x:Ext lg lY) (n:∀b,lg.led b=none->lY.led b=none) (kp:∀b o,b≠S.e.locals->lg.led b=none->s.heap.get? b=some o->h'.get? b=some o)
theorem OQ{s:Shared}{E:Value->Shared->Prop}(G:Bi S FA j)(hx:x<Bg.length)(hs:S.sc.lookup (nm x)=some .local\/S.sc.lookup (nm x)=some .cell)(I:S.I m env lg μ s.heap)(H:S.H lg)(hv:Aw S.base lg v z) :
  wpAny S.M S.A (storeName S.e (nm x) z) (fun _ s'=>IR S (Ad env x v) lg μ s s') E s:=by
 rcases hs with hs|hs
 ·have hk:=G.env.lW _ hs
  refine wpAny_storeName_local hk I.ns (fun h' hn rD=>?_) (by refine G.env.kind.symm▸?_;rfl)
  exact⟨h',_,lg,_,rfl,I.qm hx hk hv hn rD,Ext.refl _,fun _ q=>q,fun b o n _ q=>(rD.2 b n).trans q⟩
 ·have hk:=G.env.cell _ (.inl hs)
  obtain⟨ca,o,hc,co,hl⟩:=H.own.led _ (.inl hs)
  obtain⟨v0,hd⟩:=id co
  refine wpAny_storeName_cell G.env.kind hk hc (Ll (I.led _ _ hl).1 hd) fun h' sN rD=>?_
  obtain⟨o',g,d⟩:=sN
  obtain⟨I',x'⟩:=I.setCell hx hk hc hl co (fun f hf=>H.own.apart _ _ hs hc f hf) H.own.inj hv g d rD
  have nc:∀b,lg.led b=none->b≠ca:=fun b q y=>by(replace q:=y▸q;replace q:=hl▸q);exact Rz q
  exact⟨h',s.toks,_,m,rfl,I',x',fun b q=>by rw[Lg.l8 _ _ (nc b q)];exact q,fun b o _ q y=>(rD.2 b (nc b q)).trans y⟩
theorem Ci{s:Shared}{E:Value->Shared->Prop}(G:Bi S FA j)(hn:n=nm x)(hx:x<Bg.length)(hs:S.sc.lookup n=some .local\/S.sc.lookup n=some .cell)(I:S.I m env lg μ s.heap)(H:S.H lg)(hv:Aw S.base lg v z) :
  wpAny S.M S.A (assign (.Name n p) S.e z) (fun _ s'=>IR S (Ad env x v) lg μ s s') E s:=by
 subst hn
 exact wpAny_assign_Name (OQ G hx hs I H hv)
theorem Tu{items:Array Value}{s:Shared}{E:Value->Shared->Prop}{Q:List Value->Shared->Prop}{pg:Program}{w:World}(H:ou A s.heap)(ht:s.heap.IsTuple t items)
  (hQ:∀h',Heap.ExtBut s.heap.objs.size s.heap h'->Q items.toList {s with heap:=h'}):wpAny (model pg w) A (unpackItems (.ref t) items.size none) Q E s:=by
 have oP:t≠s.heap.objs.size:=by obtain⟨o,ho,_⟩:=ht;exact iU (g7 ho)
 have ni:s.heap.objs.size∉oD A:=fun hm=>ib _ (H.lt _ hm)
 refine gw ?_
 refine gw (wpAny_specialOf ht.typeIs F.slot_tuple_iter.lookup ?_)
 refine gN ?_
 refine gw (hV (kE ht ?_))
 refine gw (hV (wpAny_draw_tuple oP items.size 0 _ _ ⟨_,hM _ rfl,rfl,rfl⟩ (ht.push _) (by exact pZ (mn _) (.add (.num 0) mi) mi rfl) fun h₁ uJ qJ=>?_))
 have ro:List.take items.size (List.drop 0 items.toList)=items.toList:=by
  refine List.drop_zero.symm▸?_;exact jA (by simp)
 refine ro.symm▸?_
 rw[iH (by simp)]
 have ht₁:h₁.IsTuple t items:=(ht.push _).extBut qJ.extBut oP
 have H₁:ou A h₁:=H.keeps fun b hb o e=>(qJ.2 b (fun q=>ni (q▸hb))).trans (gF _ e)
 refine gw (hV (Dv H₁ ni uJ ht₁ (by simp) fun h₂ tK=>?_))
 exact gN (hQ h₂ fun b o hb e=>tK b o hb (qJ.extBut b o hb (gF _ e)))
@[elab_as_elim] theorem HU{P:List Expr->Prop}(h:Dp (x :: xs) es=true)(k:∀n p r,Ey x n=true->Dp xs r=true->P (.Name n p :: r)):P es:=
 A1 h fun _ r h=>AV (P:=fun e=>P (e :: r)) h fun n p h=>k n p r (Al h) (Aa h)
theorem Gy(h:Dp [] es=true):es=[]:=AP h fun _=>rfl
theorem EJ(n:Str)(p:Pos)(es:List Expr)(e:Env):assignEach (.Name n p :: es) e=(false,assign (.Name n p) e) :: assignEach es e:=rfl
theorem CA:∀(xs:List Nat) (es:List Expr) (e:Env),Dp xs es=true->(assignEach es e).findIdx? (·.1)=none/\(assignEach es e).length=xs.length
 |[],es,e,h=>by rw[Gy h];exact⟨rfl,rfl⟩
 |x :: xs,es,e,h=>by
  refine HU h fun n p r _ h=>?_
  obtain⟨h1,h2⟩:=CA xs r e h
  rw[EJ]
  exact⟨by rw[List.findIdx?_cons];simp[h1],by simp[h2]⟩
theorem AS(h:Ey x n=true):x<Bg.length/\n=nm x:=by
 unfold Ey at h
 rw[gH,g9,iv]at h
 exact h
theorem Fx{sc:Sc}(h:Hr sc n=true):sc.lookup n=some .local\/sc.lookup n=some .cell:=by
 simpa [Hr] using h
theorem G3(G:Bi S FA j)(xs:List Nat):∀(es:List Expr) (vs:List V) (zs:List Value) (env env':An) (m:Str->Option Value) (lg:Lg) (s:Shared) (E:Value->Shared->Prop),Dp xs es=true->es.all (fun e=>Bm e (Hr S.sc))=true->CP xs vs env=some env'->
  S.I m env lg μ s.heap->S.H lg->Ar S.base lg vs zs->wpAny S.M S.A (assignInOrder ((assignEach es S.e).map (·.2)) zs) (fun _ s'=>IR S env' lg μ s s') E s:=by
 induction xs with
 |nil=>
  intro es vs zs env env' m lg s E h _ hb I H r
  obtain rfl:=Gy h
  induction vs using List.casesOn with
  |cons _ _=>exact nomatch hb
  |nil=>
   cases hb
   obtain rfl:=r.nil_inv
   exact assignInOrder_nil ⟨s.heap,s.toks,lg,m,rfl,I,Ext.refl _,fun _ q=>q,fun _ _ _ _ q=>q⟩
 |cons x xs ih=>
  intro es vs zs env env' m lg s E h hl hb I H r
  revert hl
  refine HU h fun n p es hn h hl=>?_
  have hx:=(AS hn).1
  have hn:=(AS hn).2
  induction vs using List.casesOn with
  |nil=>exact nomatch hb
  |cons v vs=>
   obtain⟨z,zs,rfl,hz,r⟩:=r.mN
   have hl:=BV hl
   have hs:=Fx (n:=n) hl.1
   rw[EJ]
   refine assignInOrder_cons (gI (Ci G hn hx hs I H hz) (fun _ s1 z1=>?_) fun _ _ e=>e)
   obtain⟨h1,mS,mB,m1,rfl,I1,x1,n1,kp1⟩:=z1
   refine gI (ih es vs zs _ env' m1 mB _ E h hl.2 hb I1 (H.mono x1) (r.mono x1)) (fun _ s2 z2=>?_) fun _ _ e=>e
   obtain⟨h2,nD,mU,m2,rfl,I2,x2,n2,rI⟩:=z2
   exact⟨h2,nD,mU,m2,rfl,I2,x1.trans x2,fun b q=>n2 b (n1 b q),fun b o ne q y=>rI b o ne (n1 b q) (kp1 b o ne q y)⟩
theorem Fo:∀{xs:List Nat} {l:List V} {env env':An},CP xs l env=some env'->l.length=xs.length
 |[],[],_,_,_=>rfl
 |[],_ :: _,_,_,h=>nomatch h
 |_ :: _,[],_,_,h=>nomatch h
 |x :: xs,v :: l,_,_,h=>congrArg Nat.succ (Fo (xs:=xs) (l:=l) h)
theorem NO{xs:List Nat}{one:Bool}{t:Expr}{v:V}{z:Value}{env':An}{s:Shared}{E:Value->Shared->Prop}(G:Bi S FA j)(hc:E4 S.sc xs one t=true)(hb:AC xs one v env=some env')(I:S.I m env lg μ s.heap)(H:S.H lg)(hv:Aw S.base lg v z) :
  wpAny S.M S.A (assign t S.e z) (fun _ s'=>IR S env' lg μ s s') E s:=by
 induction one with
 |true=>
  refine AV hc fun n p h=>?_
  revert hb
  refine B4 h fun x h hb=>?_
  obtain rfl:=Option.some.inj hb
  exact Ci G (AS (Al h)).2 (AS (Al h)).1 (Fx (Aa h)) I H hv
 |false=>
  refine Ka hc fun es k p h=>?_
  have hn:=Al h
  have hl:=Aa h
  induction v using V.casesOn with
  |tup l=>
   obtain⟨a,o,vs,n,rfl,hk,qu,hd,hm,hr⟩:=hv.nO
   have uV:=(CA xs es S.e hn).1;have hlen:=(CA xs es S.e hn).2
   have hlv:l.length=xs.length:=Fo (env:=env) (env':=env') hb
   have nt:vs.size=xs.length:=by have:=hr.1;simp at this;lia
   refine gw (hU ?_)
   unfold unpack
   (refine uV.symm▸?_;refine hlen.symm▸?_;refine nt▸?_)
   have tup:s.heap.IsTuple a vs:=⟨o,I.kn hk,qu,n,hd⟩
   refine gw (hV (Tu (I.rZ H.hl) tup fun h1 he=>?_))
   have I1:=I.extBut he
   refine gI (G3 G xs es l _ env env' m lg _ E hn hl hb I1 H hr) (fun _ s2 z2=>?_) fun _ _ e=>e
   obtain⟨h2,nD,mU,m2,rfl,I2,x2,n2,rI⟩:=z2
   exact⟨h2,nD,mU,m2,rfl,I2,x2,n2,fun b o ne q y=>rI b o ne q (he b o (iU (g7 y)) y)⟩
  |_=>exact nomatch hb
end
section
variable{prog:Program}{w:World}{A:Around}{E:Value->Shared->Prop}
variable{base:Heap}{K:Frag}{e:Env}{m:Str->Option Value}{fr:List n9}{env:An}{lg:Lg}{μ:MH}{s:Shared}{h:Heap}
inductive AL(base:Heap)(lg:Lg):List V->Option (Nat×List V)->Nat->Obj->Prop
 |list (n:Nat) (a:Addr) (xs:List V) (k:Nat) (o:Obj):lg.mu[n]?=some (a,a)->o.cls=.type "list_iterator"->o.data=.fields #[.ref a,.int k 0]->AL base lg xs (some (n,xs)) k o
 |tup (l:List V) (t:Addr) (ot:Obj) (vs:Array Value) (nn k:Nat) (o:Obj):Kn base lg t ot->ot.cls=.type "tuple"->ot.data=.seq vs nn->Ar base lg l vs.toList->o.cls=.type "tuple_iterator"->o.data=.fields #[.ref t,.int k 0]->AL base lg l none k o
 |range (lo st:Int) (n k:Nat):k<=n->AL base lg (Cs n lo st) none k {cls:=.type "range_iterator",data:=.fields #[rawInt (lo+k*st),rawInt ((n:Int) - k),rawInt st]}
 |str (t:List Nat) (u:Tok) (k:Nat) (o:Obj):pY t->o.cls=.type "str_ascii_iterator"->o.data=.fields #[.str (sx t) u,.int k 0]->AL base lg (t.map fun c=>.str [c]) none k o
theorem AL.oo(x:AL base lg items c k o):pB o/\¬tE o:=by
 cases x with
 |list n a xs k o h1 h2 h3=>exact⟨⟨by rw[h2];simp,by rw[h3];simp,by rw[h3];simp⟩,by rintro⟨_,z⟩;rw[h2]at z;simp at z⟩
 |tup l t ot vs nn k o _ _ _ _ h2 h3=>exact⟨⟨by rw[h2];simp,by rw[h3];simp,by rw[h3];simp⟩,by rintro⟨_,z⟩;rw[h2]at z;simp at z⟩
 |range lo st n k hk=>exact⟨⟨by simp,by simp,by simp⟩,by rintro⟨_,z⟩;simp at z⟩
 |str t u k o _ h2 h3=>exact⟨⟨by rw[h2];simp,by rw[h3];simp,by rw[h3];simp⟩,by rintro⟨_,z⟩;rw[h2]at z;simp at z⟩
theorem AL.mono(y:G1 lg lY)(x:AL base lg items c k o):AL base lY items c k o:=by
 induction x with
 |list n a xs k o h1 h2 h3=>exact .list n a _ k o (y.mu _ _ h1) h2 h3
 |tup l t ot vs nn k o a b c d h2 h3=>exact .tup _ t ot vs nn k o ⟨a.1,a.2.imp (y.oo _ _ ⟨a.1,.inl b⟩) id⟩ b c (d.mK y) h2 h3
 |range lo st n k hk=>exact .range lo st n k hk
 |str t u k o a h2 h3=>exact .str t u k o a h2 h3
theorem Kd(n:Nat)(a st:Int):(Cs n a st).length=n:=by
 induction n generalizing a with
 |zero=>rfl
 |succ n ih=>exact congrArg Nat.succ (ih _)
theorem Qj(n k:Nat)(a st:Int)(h:k<n):(Cs n a st)[k]?=some (.int (a+k*st)):=by
 induction n generalizing a k with
 |zero=>exact absurd h (Nat.not_lt_zero k)
 |succ n ih=>
  induction k using Nat.casesOn with
  |zero=>show some (V.int a)=some (.int (a+0*st));rw[Int.zero_mul,lE]
  |succ k=>
   show(Cs n (a+st) st)[k]?=_
   refine(ih k (a+st) (by exact mO (mT _ _) (mt 0 1) mD (.add (mt 0 1) (.num 1)) (mt 1 1) rfl h)).symm▸?_
   congr 2
   push_cast
   rw[Int.add_mul];exact hY (ov (nB _ _ _) (.add (.add md mP) oH) (.add md (.add oH (.mulL 1 mP))) rfl) (ov (nB _ _ _) (.add md (.add mP (.mulL 1 oH))) (.add (.add md oH) mP) rfl)
theorem OD(a b c:Int):Builtin.Range.rangeSize a b c=(Cr a b c:Int):=by
 unfold Builtin.Range.rangeSize Cr
 by_cases h:0<c
 ·simp only[gt_iff_lt,h,kF]
  by_cases q:a<b
  ·simp only[q,kF]
   have:0<=(b - a - 1) / c:=jL (by exact qq7 q) (by exact mI (mn _) (.num 0) md (.add (.num 0) (.num 1)) md rfl h)
   omega
  ·simp[q]
 ·simp only[gt_iff_lt,h,kG]
  by_cases q:b<a
  ·simp only[q,kF]
   have:0<=(a - b - 1) / (-c):=jL (by exact qq7 q) (by exact mI (mn _) (.num 0) (.neg md) md (.num 0) rfl (Int.not_lt.mp h))
   omega
  ·simp[q]
theorem Od{x:Int}(h:x.natAbs<2 ^ 62):Builtin.Range.rangeFitsLong x=true:=by
 unfold Builtin.Range.rangeFitsLong
 simp;omega
theorem Rg(a:-(2 ^ 62)<x)(b:x<2 ^ 62):Builtin.Range.rangeFitsLong x=true:=Od (by omega)
theorem IS{x:Int}(h:x.natAbs<2 ^ 60):-(2 ^ 60)<x/\x<2 ^ 60:=by omega
theorem Mr{x:Int}(h:x.natAbs<2 ^ 60):Builtin.Range.rangeFitsLong x=true:=Od (iu h (by decide))
theorem Rc{d s:Int}(s0:0<s)(d0:0<d)(d1:d<2 ^ 61):0<=(d - 1) / s+1/\(d - 1) / s+1<2 ^ 61:=
 ⟨Int.add_nonneg (jL (lP d0) (jf s0)) (by decide),jT (Int.add_le_add_right (Int.ediv_le_self _ (lP d0)) 1) (by show d - 1+1<_;rw[Int.sub_add_cancel];exact d1)⟩
theorem Ix{a b:Int}(h:a<b)(x:a.natAbs<2 ^ 60)(y:b.natAbs<2 ^ 60):0<b - a/\b - a<2 ^ 61:=by
 have:=IS x;have:=IS y
 exact⟨Int.sub_pos_of_lt h,by lia⟩
theorem Y6{lo hi st:Int}(h0:st≠0)(x:lo.natAbs<2 ^ 60)(y:hi.natAbs<2 ^ 60):0<=Builtin.Range.rangeSize lo hi st/\Builtin.Range.rangeSize lo hi st<2 ^ 61:=by
 unfold Builtin.Range.rangeSize
 by_cases h:0<st
 ·refine(iI h).symm▸?_
  by_cases q:lo<hi
  ·refine(iI q).symm▸?_;exact Rc h (Ix q x y).1 (Ix q x y).2
  ·refine(iH q).symm▸?_;exact⟨by decide,by decide⟩
 ·refine(iH h).symm▸?_
  by_cases q:hi<lo
  ·refine(iI q).symm▸?_;exact Rc (by lia) (Ix q y x).1 (Ix q y x).2
  ·refine(iH q).symm▸?_;exact⟨by decide,by decide⟩
theorem V8{lo hi st:Int}(r:tD lo hi st):Builtin.Range.small lo hi st=true:=by
 obtain⟨h0,h1,h2,h3⟩:=r
 obtain⟨s0,s1⟩:=Y6 h0 h1 h2
 unfold Builtin.Range.small
 simp only[gH,hZ]
 refine⟨⟨⟨⟨Mr h1,Mr h2⟩,Mr h3⟩,Rg (gK (by decide) s0) (iN s1 (by decide))⟩,.inr ?_⟩
 clear s0 s1 h0
 have a:=IS h1
 have b:=IS h2
 have c:=IS h3
 clear h1 h2 h3
 split<;>exact Rg (by omega) (by omega)
theorem MC{R:Value->Shared->Prop}(I:Inv base K e m fr env lg μ s.heap)(hv:Aw base lg v x)(hi:C6 μ v=some (items,c))
  (hR:∀a o h' lY,lg.led a=none->Inv base K e m fr env lY μ h'->Ext lg lY->lY.led a=some o->AL base lY items c 0 o->(∀b p,s.heap.get? b=some p->h'.get? b=some p)->(∀b p,lg.led b=some p->lY.led b=some p)->R (.ref a) {s with heap:=h'}) :
  wpAny (model prog w) A (pyIter x) R E s:=by
 have fresh:∀{o:Obj},o.isFreed=false->(∀lY,Ext lg lY->AL base lY items c 0 o)->R (.ref s.heap.objs.size) {s with heap:=s.heap.push o}:=fun{o} hf ho=>by
  obtain⟨I',x⟩:=MB I hf
  refine hR _ o _ _ I.fresh I' x (Lg.l9 ..) (ho _ x) (fun b p q=>gF o q) fun b p q=>?_
  rw[Lg.l8];exact q
  rintro rfl;exact AM I.fresh q
 induction v using V.casesOn with
 |tup l=>
  cases hi
  obtain⟨a,o,vs,n,rfl,hk,hc,hd,hm,hr⟩:=hv.nO
  exact kE ⟨o,I.kn hk,hc,n,hd⟩ (fresh rfl fun lY y=>.tup _ a o vs n 0 _ (y.kn hk) hc hd (hr.mono y) rfl rfl)
 |range lo qw st=>
  cases Option.some.inj hi
  obtain⟨a,t1,t2,t3,rfl,hk,hr⟩:=hv.pQ
  refine wpAny_pyIter_range (I.kn hk) (V8 hr) (fresh rfl fun lY y=>?_)
  rw[OD]
  have:=AL.range (base:=base) (lg:=lY) lo st (Cr lo qw st) 0 (ic _)
  simpa using this
 |str l=>
  cases hi
  obtain⟨⟨t,rfl⟩,hl⟩:=hv.mh
  refine wpAny_pyIter_ascii (by simp[sx];exact hl.2) (fresh rfl fun lY y=>.str _ t 0 _ hl rfl rfl)
 |lW n=>
  obtain⟨xs,hm,hi⟩:=Option.map_eq_some_iff.mp (show(By μ n).map _=some (items,c)from hi)
  cases hi
  obtain⟨p,d,rfl,hr⟩:=hv.mA
  obtain⟨vs,k,hg,rfl,hl,tP,nt,nK⟩:=Cn I hr (Ba hm)
  exact wpAny_pyIter_list (A9 hg) (fresh rfl fun lY y=>.list n p _ 0 _ (y.mu _ _ hr) rfl rfl)
 |_=>exact Ao hi
theorem X5{R:Option Value->Shared->Prop}(H:ou A s.heap)(I:Inv base K e m fr env lg μ s.heap)(ni:it∉oD A)(hl:lg.led it=some o)(x:AL base lg items c k o)(hs:HG c μ)
  (oO:∀v z o' h' tk,items[k]?=some v->Aw base lg v z->AL base lg items c (k+1) o'->h'.get? it=some o'->Heap.SameBut it s.heap h'->R (some z) {s with heap:=h',toks:=tk})
  (pM:items.length<=k->∀h',Heap.ExtBut it s.heap h'->R none {s with heap:=h'}):wpAny (model prog w) A (pyNext (.ref it)) R E s:=by
 have g:=(I.led _ _ hl).1
 cases x with
 |list n a xs k o h1 h2 h3=>
  obtain⟨vs,k',hg,_,hle,tP,nt,nK⟩:=Cn I h1 hs
  by_cases q:k<items.length
  ·obtain⟨z,hz,rz⟩:=tP.at (i:=k) (v:=items[k]) (by simp[q])
   refine wpAny_pyNext_list_item ⟨o,g,h2,h3⟩ (A9 hg) (x:=z) (by refine iE▸?_;exact hz) fun h' oX pO=>?_
   obtain⟨o',g',c',d'⟩:=oX
   exact oO _ _ o' h' s.toks (by simp[q]) rz (.list n a items (k+1) o' h1 c' d') g' pO
  ·exact KT H ni ⟨o,g,h2,h3⟩ (A9 hg) (by simp;exact o9 (nB _ _ _) mi nE mi mD mD nE rfl (hJ nt) (Nat.not_lt.mp q)) fun h' he=>pM (by exact tm (Nat.not_lt.mp q)) h' he
 |tup l t ot vs nn k o a b c' d h2 h3=>
  have ht:s.heap.IsTuple t vs:=⟨ot,I.kn a,b,nn,c'⟩
  have nt:items.length=vs.size:=by have:=d.1;exact this
  by_cases q:k<items.length
  ·obtain⟨z,hz,rz⟩:=d.at (i:=k) (v:=items[k]) (by simp[q])
   refine lu ⟨o,g,h2,h3⟩ ht (x:=z) (by refine iE▸?_;exact hz) fun h' oX pO=>?_
   obtain⟨o',g',ug,d'⟩:=oX
   exact oO _ _ o' h' s.toks (by simp[q]) rz (.tup items t ot vs nn (k+1) o' a b c' d ug d') g' pO
  ·exact Dv H ni ⟨o,g,h2,h3⟩ ht (by simp;exact o9 (nB _ _ _) mD nE mD mi mi nE rfl (hJ nt.symm) (Nat.not_lt.mp q)) fun h' he=>pM (by exact tm (Nat.not_lt.mp q)) h' he
 |range lo st n k hk=>
  by_cases q:k<n
  ·refine wpAny_pyNext_range_item (x:=lo+k*st) (left:=(n:Int) - k) (step:=st) g (by exact mI (mT _ _) (.add (.num 0) (.num 1)) (.sub mP md) (mj 0 1) mP rfl (Int.ofNat_lt.mpr q)) fun h' oX pO=>?_
   refine oO _ _ _ h' _ (Qj n k lo st q) (.int _ _) ?_ oX pO
   have e1:lo+k*st+st=lo+((k+1:Nat):Int)*st:=by push_cast;rw[Int.add_mul];exact hY (ov (nB _ _ _) (.add (.add md mP) oH) (.add md (.add mP (.mulL 1 oH))) rfl) (ov (nB _ _ _) (.add md (.add mP (.mulL 1 oH))) (.add (.add md mP) oH) rfl)
   have e2:(n:Int) - k - 1=(n:Int) - ((k+1:Nat):Int):=by push_cast;exact hY (ov (mT _ _) (.sub (.sub md mP) (.num 1)) (.sub md (mj 1 1)) rfl) (ov (mT _ _) (.sub md (mj 1 1)) (.sub (.sub md mP) (.num 1)) rfl)
   (refine e1.symm▸?_;refine e2.symm▸?_)
   exact .range lo st n (k+1) q
  ·exact JZ H (x:=lo+k*st) (left:=(n:Int) - k) (step:=st) g (by exact mI (mT _ _) (.sub md mP) (.num 0) md mP rfl (Int.ofNat_le.mpr (Nat.not_lt.mp q))) fun h' he=>pM (by rw[Kd];exact tm (Nat.not_lt.mp q)) h' he
 |str t u k o ok h2 h3=>
  by_cases q:k<t.length
  ·refine wpAny_pyNext_ascii_item ⟨o,g,h2,h3⟩ (c:=t[k]) (by simp[sx,q]) fun h' oX pO=>?_
   obtain⟨o',g',ug,d'⟩:=oX
   exact oO _ _ o' h' _ (by simp[q]) (.str [t[k]] _ ⟨by simp[lim],fun z hz=>by refine(List.mem_singleton.mp hz).symm▸?_;exact ok.2 _ (j5 q)⟩) (.str t u (k+1) o' ok ug d') g' pO
  ·exact JY H ni ⟨o,g,h2,h3⟩ (by simp[sx];exact tm (Nat.not_lt.mp q)) fun h' he=>pM (by simp;exact tm (Nat.not_lt.mp q)) h' he
end
noncomputable def BB(e:Env):List (Str×NameKind)->List (Str×Addr)->List (Str×Addr)
 |[],acc=>acc
 |(n,k) :: r,acc=>if k==.free then(match e.cells.lookup n with|some ca=>BB e r ((n,ca) :: acc)|none=>BB e r acc)else BB e r acc
theorem HV(e:Env):∀(names:List (Str×NameKind)) (acc:List (Str×Addr)),(∀p∈names,p.2=.free->∃ca,e.cells.lookup p.1=some ca)->
  (forIn names acc fun(x:Str×NameKind) (r:List (Str×Addr))=>(if(x.2==.free)=true then(do let a <- cellOf e x.1;pure (ForInStep.yield ((x.1,a) :: r)))else pure (ForInStep.yield r):Sem (ForInStep (List (Str×Addr)))))=pure (BB e names acc)
 |[],acc,_=>rfl
 |(n,k) :: r,acc,h=>by
  rw[List.forIn_cons]
  have ih:=fun acc=>HV e r acc fun p hp=>h p (gz _ hp)
  unfold BB
  by_cases q:(k==NameKind.free)=true
  ·obtain⟨ca,hc⟩:=h (n,k) (.head _) (by exact gG q)
   simp only[q,kF,hc]
   unfold cellOf
   simp only[hc,pure_bind]
   exact ih _
  ·simp only[q]
   exact ih _
theorem W6{e:Env}{scope:Scope}(h:∀p∈scope.names,p.2=.free->∃ca,e.cells.lookup p.1=some ca):closureFor scope e=pure (BB e scope.names []):=by
 have:=HV e scope.names [] h
 show((forIn scope.names [] fun(x:Str×NameKind) (s:List (Str×Addr))=>(if(x.2==.free)=true then(do let a <- cellOf e x.1;pure (ForInStep.yield ((x.1,a) :: s)))else pure (ForInStep.yield s):Sem (ForInStep (List (Str×Addr))))) >>= fun cs=>pure cs)=_
 refine this.symm▸?_;rfl
theorem Fy{r:List (Str×Addr)}(h:((x,c) :: r).lookup n=some ca):(n=x/\c=ca)\/r.lookup n=some ca:=by
 rw[hO]at h
 cases q:n==x with
 |true=>rw[q]at h;exact .inl ⟨gM q,Option.some.inj h⟩
 |false=>rw[q]at h;exact .inr h
theorem UZ{r:List (Str×Addr)}(y:n≠x)(h:r.lookup n=some ca):((x,c) :: r).lookup n=some ca:=by
 (rewrite[hO];refine(beq_eq_false_iff_ne.mpr y).symm▸?_);exact h
theorem ZT{n:Str}{c:Addr}{r:List (Str×Addr)}:((n,c) :: r).lookup n=some c:=by
 rw[hO,io]
theorem JW(m:(n,k)∈(x,k') :: r)(q:¬(n=x/\k=k')):(n,k)∈r:=by
 rcases List.mem_cons.mp m with z|z
 ·exact absurd ⟨congrArg Prod.fst z,congrArg Prod.snd z⟩ q
 ·exact z
theorem Lc(e:Env):BB e ((x,.free) :: r) acc=(match e.cells.lookup x with|some ca=>BB e r ((x,ca) :: acc)|none=>BB e r acc):=rfl
theorem N0(e:Env)(q:¬k=.free):BB e ((x,k) :: r) acc=BB e r acc:=iH fun z=>q (gM z)
theorem Pu:cellsFrom k ((x,.cell) :: r) acc=cellsFrom (k+1) r ((x,k) :: acc):=rfl
theorem Fs(q:¬kd=.cell):cellsFrom k ((x,kd) :: r) acc=cellsFrom k r acc:=iH fun z=>q (gM z)
theorem VL(q:¬kd=.cell):pushCells h ((x,kd) :: r)=pushCells h r:=iH fun z=>q (gM z)
theorem KO(e:Env)(names:List (Str×NameKind)):∀(acc:List (Str×Addr)) (n:Str) (ca:Addr),(BB e names acc).lookup n=some ca->acc.lookup n=some ca\/(e.cells.lookup n=some ca/\(n,.free)∈names):=by
 induction names with
 |nil=>exact fun acc n ca h=>.inl h
 |cons p r ih=>
  obtain⟨x,k⟩:=p
  intro acc n ca h
  by_cases q:k=.free
  ·subst q
   rw[Lc]at h
   cases hc:e.cells.lookup x with
   |none=>
    replace h:=hc▸h
    exact(ih acc n ca h).imp id fun w=>⟨w.1,.tail _ w.2⟩
   |some cb=>
    rw[hc]at h
    refine(ih _ n ca h).elim (fun z=>(Fy z).elim (fun w=>?_) .inl) fun w=>.inr ⟨w.1,.tail _ w.2⟩
    (refine w.1.symm▸?_;refine w.2▸?_)
    exact .inr ⟨hc,.head _⟩
  ·rw[N0 e q]at h
   exact(ih acc n ca h).imp id fun w=>⟨w.1,.tail _ w.2⟩
theorem JA(e:Env)(names:List (Str×NameKind)):∀(acc:List (Str×Addr)) (n:Str) (ca:Addr),e.cells.lookup n=some ca->((n,.free)∈names\/acc.lookup n=some ca)->(BB e names acc).lookup n=some ca:=by
 induction names with
 |nil=>exact fun acc n ca _ h=>h.elim (fun h=>nomatch h) id
 |cons p r ih=>
  obtain⟨x,k⟩:=p
  intro acc n ca hc h
  by_cases q:k=.free
  ·subst q
   rw[Lc]
   cases hx:e.cells.lookup x with
   |none=>exact ih acc n ca hc (h.imp (fun m=>JW m fun z=>AM hx (z.1▸hc)) id)
   |some cb=>
    refine ih _ n ca hc ?_
    by_cases y:n=x
    ·subst y;rw[same hc hx];exact .inr ZT
    ·exact h.imp (fun m=>JW m fun z=>y z.1) (UZ y)
  ·rw[N0 e q]
   exact ih acc n ca hc (h.imp (fun m=>JW m fun z=>q z.2.symm) id)
noncomputable def DL:Obj:={cls:=.type "cell",data:=.cell none}
theorem Me(names:List (Str×NameKind)):∀(acc:List (Str×Addr)) (h:Heap) (n:Str) (ca:Addr),(cellsFrom h.objs.size names acc).lookup n=some ca->
  acc.lookup n=some ca\/(h.objs.size<=ca/\(pushCells h names).get? ca=some DL/\(n,.cell)∈names):=by
 induction names with
 |nil=>exact fun acc h n ca q=>.inl q
 |cons p r ih=>
  obtain⟨x,k⟩:=p
  intro acc h n ca q
  by_cases z:k=.cell
  ·subst z
   have ih:=ih ((x,h.objs.size) :: acc) (h.push DL) n ca
   rw[i5]at ih
   refine(ih q).elim (fun y=>(Fy y).elim (fun w=>?_) .inl) fun w=>.inr ⟨iP w.1,w.2.1,.tail _ w.2.2⟩
   (refine w.1.symm▸?_;refine w.2▸?_)
   exact .inr ⟨gE _,pushCells_keeps r (h.push DL) _ _ (hM _ rfl),.head _⟩
  ·replace q:=(Fs z)▸q
   refine(VL z).symm▸?_
   exact(ih acc h n ca q).imp id fun w=>⟨w.1,w.2.1,.tail _ w.2.2⟩
theorem KM(names:List (Str×NameKind)):∀(acc:List (Str×Addr)) (k:Nat),(∀n ca,acc.lookup n=some ca->ca<k)->(∀n n' ca,acc.lookup n=some ca->acc.lookup n'=some ca->n=n')->
  ∀n n' ca,(cellsFrom k names acc).lookup n=some ca->(cellsFrom k names acc).lookup n'=some ca->n=n':=by
 induction names with
 |nil=>exact fun acc k _ inj=>inj
 |cons p r ih=>
  obtain⟨x,kd⟩:=p
  intro acc k lt inj
  by_cases z:kd=.cell
  ·subst z
   refine ih _ (k+1) (fun n ca h=>(Fy h).elim (fun w=>w.2▸iL _) fun h=>gZ (lt n ca h)) fun n n' ca h h'=>?_
   refine(Fy h).elim (fun w=>(Fy h').elim (fun w'=>w.1.trans w'.1.symm) fun h'=>?_) fun h=>(Fy h').elim (fun w'=>?_) fun h'=>inj n n' ca h h'
   ·exact absurd (lt _ _ h') (w.2▸ib _)
   ·exact absurd (lt _ _ h) (w'.2▸ib _)
  ·refine(Fs z).symm▸?_
   exact ih acc k lt inj
theorem Bk(names:List (Str×NameKind)):∀(acc:List (Str×Addr)) (k:Nat) (n:Str),(n,.cell)∈names\/(∃ca,acc.lookup n=some ca)->∃ca,(cellsFrom k names acc).lookup n=some ca:=by
 induction names with
 |nil=>exact fun acc k n h=>h.elim (fun h=>nomatch h) id
 |cons p r ih=>
  obtain⟨x,kd⟩:=p
  intro acc k n h
  by_cases z:kd=.cell
  ·subst z
   rw[Pu]
   refine ih _ (k+1) n ?_
   by_cases y:n=x
   ·subst y;exact .inr ⟨k,ZT⟩
   ·exact h.imp (fun m=>JW m fun w=>y w.1) fun nR=>by obtain⟨ca,h⟩:=nR;exact⟨ca,UZ y h⟩
  ·rw[Fs z]
   exact ih acc k n (h.imp (fun m=>JW m fun w=>z w.2.symm) id)
theorem EZ(names:List (Str×NameKind)):∀(acc:List (Str×Addr)) (k:Nat) (n:Str) (ca:Addr),(n,.cell)∉names->acc.lookup n=some ca->(cellsFrom k names acc).lookup n=some ca:=by
 induction names with
 |nil=>exact fun acc k n ca _ h=>h
 |cons p r ih=>
  obtain⟨x,kd⟩:=p
  intro acc k n ca nm h
  have nm':(n,.cell)∉r:=fun m=>nm (.tail _ m)
  by_cases z:kd=.cell
  ·subst z
   exact ih _ (k+1) n ca nm' (UZ (fun y=>nm (y▸.head _)) h)
  ·refine(Fs z).symm▸?_
   exact ih acc k n ca nm' h
theorem Fi(scope:Scope)(e:Env)(hk:e.scope.kind=.function)(n:Str):(relabel scope e).names.lookup n=(scope.names.lookup n).map fun k=>if k==.free&&e.kindOf n==some .cell then .cell else k:=by
 unfold relabel
 dsimp only
 induction scope.names with
 |nil=>rfl
 |cons p r ih=>
  obtain⟨x,k⟩:=p
  rw[iY]
  simp only[hk,io,lq]at ih ⊢
  by_cases q:(k==NameKind.free&&e.kindOf x==some NameKind.cell)=true
  ·simp only[q,kF]
   rw[hO,hO]
   by_cases y:(n==x)=true
   ·have:n=x:=beq_iff_eq.mp y
    subst this
    rw[y];simp only[kh,q,kF]
   ·simp only[y];exact ih
  ·simp only[q]
   rw[hO]
   simp only[jV,kG]
   rw[hO]
   by_cases y:(n==x)=true
   ·have:n=x:=beq_iff_eq.mp y
    subst this
    rw[y];simp only[kh,q];rfl
   ·simp only[y];exact ih
theorem X4{M:Model}{A:Around}{E:Value->Shared->Prop}{s:Shared}{g:Addr}{cl:List (Str×Addr)}{qual:Str}{e:Env}{Q:Env->Shared->Prop}
  (h:Q {scope:=scope,locals:=s.heap.objs.size,globals:=g,cells:=cellsFrom (s.heap.push {cls:=.type "dict",data:=.dict #[]}).objs.size scope.names cl,qual:=qual,func:=none,code:=e.code,frame:=e.frame,builtins:=e.builtins}
   {s with heap:=pushCells (s.heap.push {cls:=.type "dict",data:=.dict #[]}) scope.names}) :
  wpAny M A (newFunctionEnv scope g cl [] qual none .none (some e)) Q E s:=by
 refine gw (wpAny_alloc ?_)
 refine gw (wpAny_layCells _ (fun name kind cells=>by cases hkc:kind==NameKind.cell<;>simp[hkc]) _ _ _ _ ?_)
 exact gw (gN (gN h))
section
variable{base:Heap}{K:Frag}{e:Env}{m:Str->Option Value}{fr:List n9}{env env':An}{lg:Lg}{μ:MH}{h:Heap}
theorem Inv.withEnv(I:Inv base K e m fr env lg μ h)(k:∀x v,env' x=some v->R6 e x->FN base e m lg x v):Inv base K e m fr env' lg μ h:={I with vars:=k}
open Classical in
noncomputable def Lg.cells(lg:Lg)(P:Addr->Prop):Lg:={lg with led:=fun a=>if P a then some DL else lg.led a}
theorem Inv.qb(I:Inv base K e m fr env lg μ h)(P:Addr->Prop)(hP:∀a,P a->lg.led a=none/\base.get? a=none/\a≠e.locals/\h.get? a=some DL):Inv base K e m fr env (lg.cells P) μ h/\Ext lg (lg.cells P):=by
 have keep:∀b p,lg.led b=some p->(lg.cells P).led b=some p:=fun b p q=>by
  unfold Lg.cells;dsimp only
  rw[iH];exact q
  intro z;exact AM ((hP b z).1) q
 have x:Ext lg (lg.cells P):=⟨fun b p _ q=>keep b p q,fun b p c q=>⟨p,c,keep b p q⟩,fun _ _ q=>q⟩
 refine⟨⟨I.old,I.ns,I.nF,?_,fun b p q=>?_,fun f hf=>?_,I.dist,I.apart,fun y v q ss=>(I.vars y v q ss).mono x fun b p _ z=>keep b p z,I.heap.len,I.heap.nodup,fun n p q=>?_⟩,x⟩
 ·unfold Lg.cells;dsimp only
  rw[iH];exact I.mG
  intro z;exact(hP _ z).2.2.1 rfl
 ·unfold Lg.cells at q;dsimp only at q
  split at q
  ·rename_i z;obtain rfl:=Option.some.inj q;exact⟨(hP b z).2.2.2,(hP b z).2.1⟩
  ·exact I.led b p q
 ·obtain⟨⟨p,a1,a2⟩,a3⟩:=I.frames f hf
  exact⟨⟨p,keep _ _ a1,a2⟩,fun c o q=>⟨keep _ _ (a3 c o q).1,(a3 c o q).2⟩⟩
 ·obtain⟨a',d,a1,a2⟩:=I.heap.each n p q
  exact⟨a',d,a1,a2.mono x fun ob z=>keep _ _ z⟩
end
theorem CK{scope:Scope}{sc:Sc}(h:Dh scope sc=true):scope.kind=.function/\∀n k,(n,k)∈scope.names->scope.names.lookup n=some k/\(k=.local\/k=.cell\/k=.globalImplicit\/(k=.free/\(sc.lookup n=some .cell\/sc.lookup n=some .free))):=by
 unfold Dh at h
 rw[gH,ia]at h
 refine⟨by exact gG h.1,fun n k hm=>?_⟩
 have:=h.2 (n,k) hm
 dsimp only at this
 rw[gH]at this
 refine⟨beq_iff_eq.mp this.1,?_⟩
 induction k using NameKind.casesOn with
 |«local»=>exact .inl rfl
 |cell=>exact .inr (.inl rfl)
 |free=>exact .inr (.inr (.inr ⟨rfl,(hZ _ _▸this.2:_\/_).imp beq_iff_eq.mp beq_iff_eq.mp⟩))
 |globalExplicit=>exact nomatch (this.2:false=true)
 |globalImplicit=>exact .inr (.inr (.inl rfl))
theorem AN{names:Sc}(h:names.lookup n=some k):(n,k)∈names:=mem_of_lookup h
theorem VD{scope:Scope}(h:HX scope xs=true)(hy:y<Bg.length)(hk:scope.names.lookup (nm y)=some .local\/scope.names.lookup (nm y)=some .cell):(∃x∈xs,y=x):=by
 unfold HX at h
 rw[ia]at h
 have key:∀k,(k=.local\/k=.cell)->scope.names.lookup (nm y)=some k->∃x∈xs,y=x:=fun k hk hl=>by
  have:=h (nm y,k) (AN hl)
  dsimp only at this
  rw[hZ,hZ]at this
  rcases this with(z|z)|z
  ·rcases hk with rfl|rfl<;>simp at z
  ·rw[List.any_eq_true]at z
   obtain⟨x,hx,e⟩:=z
   rw[gH,g9]at e
   exact⟨x,hx,Hy hy e.1 (beq_iff_eq.mp e.2)⟩
  ·exfalso
   rw[ji,List.any_eq_false]at z
   have:=z (Bg.getD y []) (by rw[gU,gV hy];exact j5 hy)
   exact this (by show(nm y==nm y)=true;exact io _)
 rcases hk with q|q
 ·exact key _ (.inl rfl) q
 ·exact key _ (.inr rfl) q
noncomputable def N2(scope:Scope)(e:Env)(C:Addr):Env:=
 {scope:=relabel scope e,locals:=C,globals:=e.globals,cells:=cellsFrom (C+1) scope.names (BB e scope.names []),qual:=e.qual,func:=none,code:=e.code,frame:=e.frame,builtins:=e.builtins}
noncomputable def mm.inner(S:mm)(scope:Scope)(C:Addr)(m:Str->Option Value)(env:An)(lg:Lg):mm:=
 {S with e:=N2 scope S.e C,fr:=⟨S.e,m,AU env S.e lg⟩ :: S.fr,sc:=scope.names}
noncomputable def Ed(h:Heap)(scope:Scope):Heap:=pushCells (h.push {cls:=.type "dict",data:=.dict #[]}) scope.names
theorem Sp{S:mm}{FA:Nat->Addr}{scope:Scope}(G:Bi S FA j)(hs:Dh scope S.sc=true):QQ (N2 scope S.e C) scope.names:=by
 have hk:=(CK hs).1;have hn:=(CK hs).2
 have lk:=Fi scope S.e G.env.kind
 refine⟨hk,G.env.globals,G.env.builtins,fun n h=>?_,fun n h=>?_,fun n h=>?_⟩
 ·show(relabel scope S.e).names.lookup n=_
  rw[lk,h];rfl
 ·show(relabel scope S.e).names.lookup n=_
  rcases h with h|h
  ·rw[lk,h];rfl
  ·rw[lk,h]
   have:=(hn n .free (AN h)).2
   have hc:S.e.kindOf n=some .cell:=by
    rcases this with z|z|z|⟨_,z⟩
    ·cases z
    ·cases z
    ·cases z
    ·exact G.env.cell _ z
   simp[hc]
 ·show(relabel scope S.e).names.lookup n=_
  rw[lk,h];rfl
theorem Px{S:mm}{FA:Nat->Addr}{m:Str->Option Value}{h:Heap}(G:Bi S FA j)(hs:Dh scope S.sc=true)(ho:HX scope xs=true)
  (I:S.I m env lg μ h) (H:S.H lg) :
  ∃lY,(S.inner scope h.objs.size m env lg).I (fun _=>none) (AG xs env) lY μ (Ed h scope)/\Ext lg lY/\(S.inner scope h.objs.size m env lg).H lY/\Bi (S.inner scope h.objs.size m env lg) FA j/\
   lY.led h.objs.size=none/\S.base.get? h.objs.size=none/\h.objs.size≠S.e.locals:=by
 have hk:=(CK hs).1;have hn:=(CK hs).2
 have hC:(h.push {cls:=.type "dict",data:=.dict #[]}).objs.size=h.objs.size+1:=i5 ..
 have oQ:∀b o,(h.push {cls:=.type "dict",data:=.dict #[]}).get? b=some o->(Ed h scope).get? b=some o:=fun b o q=>pushCells_keeps _ _ b o q
 have keep:∀b o,h.get? b=some o->(Ed h scope).get? b=some o:=fun b o q=>oQ b o (gF _ q)
 have I1:S.I m env lg μ (Ed h scope):=I.keeps keep
 have none_of:∀a,h.objs.size<=a->h.get? a=none:=fun a ha=>by
  cases q:h.get? a with
  |none=>rfl
  |some o=>exact absurd (g7 q) (Nat.not_lt.mpr ha)
 have mZ:∀a,h.objs.size<=a->lg.led a=none:=fun a ha=>I.free (none_of a ha)
 have nj:∀a,h.objs.size<=a->S.base.get? a=none:=fun a ha=>I.nJ (none_of a ha)
 have oE:S.e.locals<h.objs.size:=by obtain⟨o,g,_⟩:=H6.of I.ns;exact g7 g
 have at_:=Me scope.names (BB S.e scope.names []) (h.push {cls:=.type "dict",data:=.dict #[]})
 rw[hC]at at_
 let P:Addr->Prop:=fun a=>h.objs.size+1<=a/\(Ed h scope).get? a=some DL
 obtain⟨I2,x2⟩:=I1.qb P fun a ha=>⟨mZ a (iP ha.1),nj a (iP ha.1),fun z=>absurd oE (Nat.not_lt.mpr (z▸iP ha.1)),ha.2⟩
 have qM:(lg.cells P).led h.objs.size=none:=by
  unfold Lg.cells;dsimp only
  exact(iH fun z=>absurd z.1 (Nat.not_succ_le_self _)).trans (mZ _ (gE _))
 have cl:∀n ca,(BB S.e scope.names []).lookup n=some ca->S.e.cells.lookup n=some ca/\(n,.free)∈scope.names:=fun n ca q=>by
  rcases KO S.e scope.names [] n ca q with z|z
  ·exact Ao z
  ·exact z
 have rc:∀n,(n,.free)∈scope.names->∃ca o,S.e.cells.lookup n=some ca/\Da o/\lg.led ca=some o:=fun n q=>by
  rcases(hn n .free q).2 with z|z|z|⟨_,z⟩
  ·cases z
  ·cases z
  ·cases z
  ·exact H.own.led n z
 have ui:∀n ca,(BB S.e scope.names []).lookup n=some ca->ca<h.objs.size:=fun n ca q=>by
  obtain⟨a,b⟩:=cl n ca q
  obtain⟨cb,o,c1,_,c3⟩:=rc n b
  obtain rfl:=same a c1
  exact g7 (I.led _ _ c3).1
 have pE:∀n ca,(N2 scope S.e h.objs.size).cells.lookup n=some ca->(n,.free)∉scope.names->P ca:=fun n ca q nf=>by
  rcases at_ n ca q with z|⟨z1,z2,z3⟩
  ·exact absurd (cl n ca z).2 nf
  ·exact⟨z1,z2⟩
 have u4:∀a,P a->(lg.cells P).led a=some DL:=fun a ha=>by unfold Lg.cells;dsimp only;exact(iI ha)
 have own:KZ (N2 scope S.e h.objs.size) scope.names (⟨S.e,m,AU env S.e lg⟩ :: S.fr) (lg.cells P):=by
  refine⟨fun n ca q1 q2 f hf=>?_,KM scope.names _ _ (fun n ca q=>gZ (ui n ca q)) (fun n n' ca a b=>H.own.inj _ _ _ (cl n ca a).1 (cl n' ca b).1),fun n q=>?_⟩
  ·have nf:(n,NameKind.free)∉scope.names:=fun q=>by have:=(hn n .free q).1;replace this:=q1▸this;cases this
   have hp:=pE n ca q2 nf
   have ln:=mZ ca (iP hp.1)
   cases z:f.cells ca with
   |none=>rfl
   |some o=>
    exfalso
    rcases List.mem_cons.mp hf with rfl|hf
    ·have z:AU env S.e lg ca=some o:=z
     unfold AU at z
     split at z
     ·replace z:=ln▸z;exact Ao z
     ·exact Ao z
    ·have:=((I.frames f hf).2 ca o z).1
     exact AM ln this
  ·rcases q with q|q
   ·obtain⟨ca,ph⟩:=Bk scope.names (BB S.e scope.names []) (h.objs.size+1) n (.inl (AN q))
    have nf:(n,NameKind.free)∉scope.names:=fun z=>by have:=(hn n .free z).1;exact nomatch q.symm.trans this
    exact⟨ca,DL,ph,⟨_,rfl⟩,u4 ca (pE n ca ph nf)⟩
   ·obtain⟨ca,o,c1,c2,c3⟩:=rc n (AN q)
    have nc:(n,NameKind.cell)∉scope.names:=fun z=>by have:=(hn n .cell z).1;cases same q this
    refine⟨ca,o,EZ _ _ _ n ca nc (JA S.e scope.names [] n ca c1 (.inl (AN q))),c2,?_⟩
    unfold Lg.cells;dsimp only
    rw[iH];exact c3
    intro z;exact AM (mZ ca (iP z.1)) c3
 have lk:=Fi scope S.e G.env.kind
 obtain⟨oL,I3,x3⟩:=I2.switch (cs:=AU env S.e lg) (e':=N2 scope S.e h.objs.size) (m':=fun _=>none) (env':=AG xs env) (fun a o q=>by
   unfold AU at q ⊢
   split at q
   ·rename_i z;rw[iI z]
    unfold Lg.cells;dsimp only
    rw[iH];exact q
    intro z;exact AM (mZ a (iP z.1)) q
   ·exact Ao q) ((Heap.Ns.new h (.type "dict")).keeps oQ) (nj _ (gE _)) qM (iJ (iU oE))
  (fun f hf z=>by
   obtain⟨⟨o,a1,_⟩,_⟩:=I.frames f hf
   have:=g7 (I.led _ _ a1).1
   rw[z]at this;exact ib _ this) (fun lY xx kk y v q ss=>by
    unfold AG at q
    split at q
    ·exact Ao q
    ·rename_i ny
     have ny:y∉xs:=by simpa using ny
     have pF:((scope.names.lookup (nm y)).map fun k=>if k==.free&&S.e.kindOf (nm y)==some .cell then NameKind.cell else k)=some .local\/((scope.names.lookup (nm y)).map fun k=>if k==.free&&S.e.kindOf (nm y)==some .cell then NameKind.cell else k)=some .cell:=by
      rcases ss.2 with z|z
      ·exact .inl (by rw[<- lk];exact z)
      ·exact .inr (by rw[<- lk];exact z)
     cases hl:scope.names.lookup (nm y) with
     |none=>rw[hl]at pF;simp at pF
     |some k=>
      replace pF:=hl▸pF
      have hm:=hn _ _ (AN hl)
      by_cases hkf:k=.free
      ·subst hkf
       obtain⟨ca,o,c1,c2,c3⟩:=rc _ (AN hl)
       have sees:R6 S.e y:=⟨ss.1,.inr (by
        rcases hm.2 with z|z|z|⟨_,z⟩
        ·cases z
        ·cases z
        ·cases z
        ·exact G.env.cell _ z)⟩
       obtain⟨hy,hv⟩:=I2.vars y v q sees
       have kc:S.e.kindOf (nm y)=some .cell:=by
        rcases hm.2 with z|z|z|⟨_,z⟩
        ·cases z
        ·exact nomatch z
        ·exact nomatch z
        ·exact G.env.cell _ z
       rcases hv with⟨z,_⟩|⟨_,cb,ob,w,d1,d2,d3,d4⟩
       ·cases same kc z
       ·obtain rfl:=same c1 d1
        have nc:(nm y,NameKind.cell)∉scope.names:=fun z=>by have:=(hn _ .cell z).1;cases same hl this
        refine⟨hy,.inr ⟨?_,ca,ob,w,EZ _ _ _ _ ca nc (JA S.e scope.names [] _ ca c1 (.inl (AN hl))),kk _ _ d2,d3,d4.mono xx⟩⟩
        show(relabel scope S.e).names.lookup _=_
        (rewrite[lk];refine hl.symm▸?_);simp[kc]
      ·exfalso
       have:k=.local\/k=.cell:=by
        have e1:(k==NameKind.free)=false:=by simpa using hkf
        simp only[kh,e1,ku,jV,kG,Option.some.injEq]at pF
        exact pF
       obtain⟨x,hx,ex⟩:=VD ho ss.1 (by rcases this with rfl|rfl;exact .inl hl;exact .inr hl)
       exact ny (ex▸hx))
 have x4:Ext lg ((lg.cells P).put S.e.locals oL):=x2.trans x3
 refine⟨(lg.cells P).put S.e.locals oL,I3,x4,⟨H.hl.mono x4,own.mono x3⟩,⟨G.base,Sp G hs,G.units,?_,G.calls⟩,?_,nj _ (gE _),iJ (iU oE)⟩
 ·obtain⟨l,hl,hx⟩:=G.frames
  refine⟨l,hl,fun y hy=>⟨.inr ?_,(hx y hy).2⟩⟩
  rcases(hx y hy).1 with z|⟨f,hf,z⟩
  ·exact⟨_,.head _,z.symm⟩
  ·exact⟨f,gz _ hf,z⟩
 ·exact(Lg.l8 _ _ (iJ (iU oE))).trans (qM)
theorem Inv.u5{base:Heap}{K:Frag}{e:Env}{m:Str->Option Value}{fr:List n9}{env:An}{lg:Lg}{μ:MH}{h h':Heap}(I:Inv base K e m fr env lg μ h){a:Addr}{o:Obj}(hl:lg.led a=some o)(hi:pB o)(nv:¬tE o)
  (k:∀b p,b≠a->h.get? b=some p->h'.get? b=some p):Inv base K e m fr env (lg.drop a) μ h':=by
 have hb:=(I.led a o hl).2
 have nL:e.locals≠a:=by rintro rfl;exact AM I.mG hl
 have ne:∀b p,b≠a->lg.led b=some p->(lg.drop a).led b=some p:=fun b p n q=>by unfold Lg.drop;dsimp only;exact(iH n).trans (q)
 have x:G1 lg (lg.drop a):=⟨fun b p v q=>ne b p (fun y=>by(rw[y]at q;replace q:=hl▸q);obtain rfl:=Option.some.inj q;exact nv v) q,fun _ _ q=>q⟩
 have o6:∀b p,¬pB p->lg.led b=some p->(lg.drop a).led b=some p:=fun b p n q=>ne b p (fun y=>by(rw[y]at q;replace q:=hl▸q);obtain rfl:=Option.some.inj q;exact n hi) q
 have oy:∀{p:Obj},Da p->¬pB p:=fun nR i=>by obtain⟨v,q⟩:=nR;exact i.2.2 v q
 refine⟨fun b p q=>k b p (fun z=>by(rw[z]at q;replace q:=hb▸q);exact Ao q) (I.old b p q),?_,I.nF,by unfold Lg.drop;dsimp only;refine(iH nL).symm▸?_;exact I.mG,fun b p q=>?_,fun f hf=>?_,I.dist,I.apart,fun y v q ss=>(I.vars y v q ss).mK x fun b p c z=>o6 b p (oy c) z,I.heap.len,I.heap.nodup,fun n p q=>?_⟩
 ·obtain⟨on,es,ep,q1,q2⟩:=I.ns
  exact⟨on,es,ep,k _ _ nL q1,q2⟩
 ·unfold Lg.drop at q;dsimp only at q
  split at q
  ·exact Ao q
  ·rename_i n;exact⟨k b p n (I.led b p q).1,(I.led b p q).2⟩
 ·obtain⟨⟨p,a1,a2⟩,a3⟩:=I.frames f hf
  refine⟨⟨p,o6 _ _ (fun i=>?_) a1,a2⟩,fun c q z=>⟨o6 _ _ (oy (a3 c q z).2) (a3 c q z).1,(a3 c q z).2⟩⟩
  obtain⟨es,ep,d,_⟩:=a2
  exact i.2.1 _ _ d
 ·obtain⟨a',d,a1,a2⟩:=I.heap.each n p q
  refine⟨a',d,a1,a2.mK x fun ob z=>?_⟩
  obtain⟨qV,z',n'⟩:=a2.nQ
  obtain rfl:=same z' z
  exact o6 _ _ n' z'
section
variable{S:mm}{FA:Nat->Addr}{j:Nat}{m:Str->Option Value}{env:An}{lg:Lg}{μ:MH}{s:Shared}
theorem Hu(I:S.I m env lg μ h)(H:HL S.A S.base lg)(hl:lg.led it=some o)(x:AL S.base lg items c k o):it∉oD S.A:=by
 intro hm
 rcases H with e|⟨a,oe,arr,e,kn,d,z⟩
 ·simp[oD,e]at hm
 ·simp[oD,e]at hm
  subst hm
  have:oe=o:=by
   rcases kn.2 with q|q
   ·obtain rfl:=same hl q;rfl
   ·exact AM ((I.led _ _ hl).2) q
  subst this
  induction x with
  |list n a xs k o h1 h2 h3=>rw[h3]at d;cases d;simp at z
  |tup l t ot vs nn k o _ _ _ _ h2 h3=>replace d:=h3▸d;cases d;simp at z
  |range lo st n k hk=>cases d;simp[rawInt]at z
  |str t u k o _ h2 h3=>rw[h3]at d;cases d;simp at z
theorem ae(H:S.H lg)(hl:lg.led it=some o)(hi:pB o)(hn:it∉oD S.A):S.H (lg.put it o'):=by
 refine⟨H.hl.imp id fun nR=>by obtain⟨a,oe,arr,e,kn,d,z⟩:=nR;exact⟨a,oe,arr,e,⟨kn.1,kn.2.imp (fun q=>(Lg.l8 _ _ (fun y=>hn (by refine y▸?_;simp[oD,e]))).trans q) id⟩,d,z⟩,H.own.apart,H.own.inj,fun n q=>?_⟩
 ·obtain⟨ca,oc,c1,c2,c3⟩:=H.own.led n q
  refine⟨ca,oc,c1,c2,?_⟩
  rw[Lg.l8];exact c3
  rintro rfl
  obtain rfl:=same hl c3
  obtain⟨v,c⟩:=c2
  exact hi.2.2 v c
theorem UW{E:Value->Shared->Prop}{Q:Unit->Shared->Prop}(x:AL S.base lg items c k o)(g:s.heap.get? it=some o)(q:Q () s) :
  wpAny S.M S.A (letOwnedTupleGo t (.ref it) z) Q E s:=by
 have core:∀a,wpAny S.M S.A (do let o <- load it
                                     match o.cls,o.data with
                                     |.type n,.fields vs=>if["enumerate","zip","dict_itemiterator","dict_reverseitemiterator","odict_iterator","itertools.zip_longest","itertools.pairwise"].contains n&&vs[0]?==some (rawInt a)then do rule "for.unpacks-the-owned-tuple";updateField it 0 .none else pure ()
                                     |_,_=>pure ():Sem Unit) Q E s:=fun a=>by
  refine gw (wpAny_load g ?_)
  induction x with
  |list n a xs k o h1 h2 h3=>simp only[h2,h3];rw[iH (fun h=>nomatch h)];exact gN q
  |tup l t ot vs nn k o _ _ _ _ h2 h3=>simp only[h2,h3];rw[iH (fun h=>nomatch h)];exact gN q
  |range lo st n k hk=>dsimp only;rw[iH (fun h=>nomatch h)];exact gN q
  |str t u k o _ h2 h3=>simp only[h2,h3];rw[iH (fun h=>nomatch h)];exact gN q
 induction t using Expr.casesOn<;>first|exact gN q|(induction z<;>first|exact gN q|exact core _)
theorem Nl{xs:List Nat}{one:Bool}{t:Expr}{it:Addr}{o:Obj}{items:List V}{c:Option (Nat×List V)}{k:Nat}{E:Value->Shared->Prop}{Qn:Shared->Prop}{Qs:Value->Shared->Prop}(G:Bi S FA j)(hc:E4 S.sc xs one t=true)
  (I:S.I m env lg μ s.heap) (H:S.H lg) (hl:lg.led it=some o) (x:AL S.base lg items c k o) (hs:HG c μ)
  (pM:items.length<=k->∀h' lY,S.I m env lY μ h'->lY.mu=lg.mu->(∀lgA,Ext lgA lg->lgA.led it=none->Ext lgA lY)->Qn {s with heap:=h'})
  (oO:∀v z,items[k]?=some v->∀env',AC xs one v env=some env'->∀s' lY m' o',S.I m' env' lY μ s'.heap->S.H lY->(∀lgA,Ext lgA lg->lgA.led it=none->Ext lgA lY)->(∃h' tk,s'={s with heap:=h',toks:=tk})->lY.led it=some o'->AL S.base lY items c (k+1) o'->
   (∀(n:Nat) (p:Addr×Addr),lg.mu[n]?=some p->lY.mu[n]?=some p)->Qs z s')
  (hb:∀v,items[k]?=some v->∃env',AC xs one v env=some env') :
  wpAny S.M S.A (pyNext (.ref it)) (fun r s₁=>match r with|none=>Qn s₁|some z=>wpAny S.M S.A (letOwnedTupleGo t (.ref it) z) (fun _ s₂=>wpAny S.M S.A (assign t S.e z) (fun _ s₃=>Qs z s₃) E s₂) E s₁) E s:=by
 have ni:=Hu I H.hl hl x
 have hi:=x.oo
 refine X5 (I.rZ H.hl) I ni hl x hs (fun v z o' h' tk hv rz x' g rD=>?_) fun hle h' he=>?_
 ·obtain⟨env',tJ⟩:=hb v hv
  have I1:S.I m env (lg.put it o') μ h':=I.swap hl hi.1 hi.2 (fun b p n q=>(rD.2 b n).trans q) g
  have xv:G1 lg (lg.put it o'):=⟨fun b p v q=>by
   rw[Lg.l8];exact q
   rintro rfl;obtain rfl:=same hl q;exact hi.2 v,fun _ _ q=>q⟩
  have H1:S.H (lg.put it o'):=ae H hl hi.1 ni
  refine UW (S:=S) (x'.mono xv) g ?_
  refine gI (NO (s:={s with heap:=h',toks:=tk}) G hc tJ I1 H1 (rz.mK xv)) (fun _ s3 z3=>?_) fun _ _ e=>e
  obtain⟨h3,pG,pi,m3,rfl,I3,x3,n3,kp3⟩:=z3
  exact oO v z hv env' tJ _ pi m3 o' I3 (H1.mono x3) (fun lgA xa na=>(xa.qO o' na).trans x3) ⟨h3,pG,rfl⟩ (x3.oo _ _ x'.oo.1 (Lg.l9 ..)) ((x'.mono xv).mono x3.v) fun n p q=>x3.mu n p q
 ·
  have hlA:∃lY,S.I m env lY μ h'/\lY.mu=lg.mu/\∀lgA,Ext lgA lg->lgA.led it=none->Ext lgA lY:=by
   refine⟨lg.drop it,?_,rfl,fun lgA xa na=>?_⟩
   ·exact I.u5 hl hi.1 hi.2 fun b p n q=>he b p n q
   ·have ne:∀b p,lgA.led b=some p->b≠it:=fun b p q y=>by(rw[y]at q;replace q:=na▸q);exact Ao q
    refine⟨fun b p i q=>?_,fun b p c q=>?_,xa.mu⟩
    ·unfold Lg.drop;dsimp only;exact(iH (ne b p q)).trans (xa.oo b p i q)
    ·obtain⟨o',c',q'⟩:=xa.cell b p c q
     exact⟨o',c',by unfold Lg.drop;dsimp only;exact(iH (ne b p q)).trans (q')⟩
  obtain⟨lY,I',rN,x'⟩:=hlA
  exact pM hle h' lY I' rN x'
end
def Sub(e e':An):Prop:=∀y v,e y=some v->e' y=some v
theorem LI{e:An}(s:Sub e e')(x:Nat)(v:V):Sub (Ad e x v) (Ad e' x v):=fun y w h=>by
 unfold Ad at h ⊢
 split at h
 ·rename_i q;exact(iI q).trans (h)
 ·rename_i q;exact(iH q).trans (s y w h)
theorem F2:∀{xs:List Nat} {vs:List V} {e e' f:An},Sub e e'->CP xs vs e=some f->∃f',CP xs vs e'=some f'/\Sub f f'
 |[],[],e,e',f,s,h=>by obtain rfl:=Option.some.inj h;exact⟨e',rfl,s⟩
 |[],_ :: _,_,_,_,_,h=>nomatch h
 |_ :: _,[],_,_,_,_,h=>nomatch h
 |x :: xs,v :: vs,e,e',f,s,h=>F2 (xs:=xs) (LI s x v) h
theorem Jh{xs:List Nat}{one:Bool}{v:V}{e e' f:An}(s:Sub e e')(h:AC xs one v e=some f):∃f',AC xs one v e'=some f'/\Sub f f':=by
 induction one with
 |true=>exact F2 s h
 |false=>induction v using V.casesOn with
  |tup l=>exact F2 (vs:=l) s h
  |_=>exact nomatch h
theorem F0:∀{xs:List Nat} {vs:List V} {e f:An} {y:Nat},y∉xs->CP xs vs e=some f->f y=e y
 |[],[],e,f,y,_,h=>by obtain rfl:=Option.some.inj h;rfl
 |[],_ :: _,_,_,_,_,h=>nomatch h
 |_ :: _,[],_,_,_,_,h=>nomatch h
 |x :: xs,v :: vs,e,f,y,n,h=>by
  refine(F0 (xs:=xs) (vs:=vs) (e:=Ad e x v) (fun q=>n (gz _ q)) h).symm▸?_
  unfold Ad
  rw[iH (fun q=>n (by refine q.symm▸?_;exact .head _))]
theorem Pl{xs:List Nat}{one:Bool}{v:V}{e f:An}{y:Nat}(n:y∉xs)(h:AC xs one v e=some f):f y=e y:=by
 induction one with
 |true=>exact F0 n h
 |false=>induction v using V.casesOn with
  |tup l=>exact F0 (vs:=l) n h
  |_=>exact nomatch h
theorem UC{xs:List Nat}{one:Bool}{v:V}{e f:An}(h:AC xs one v (AG xs e)=some f):Sub (AG xs e) f:=fun y w q=>by
 rw[Pl (fun hy=>?_) h];exact q
 unfold AG at q
 exact AM (iI (by simpa using hy)) q
section
variable{S:mm}{FA:Nat->Addr}{j:Nat}{m:Str->Option Value}{env:An}{lg:Lg}{μ:MH}{s:Shared}
def mm.oI(S:mm)(cond:ME)(ifs:List Expr):Prop:=(ifs=[]/\cond=.bool true)\/∃c,ifs=[c]/\S.ST cond c
theorem ba{cond:ME}{ifs:List Expr}{K:Bool->MH->Prop}{E:Value->Shared->Prop}{R:Bool->Shared->Prop}(hI:S.oI cond ifs)(I:S.I m env lg μ s.heap)(H:S.H lg)(h:wt lX S.Φ env cond K (fun _ _=>False) μ)
  (hR:∀b s',S.P m env lg s (PB K) b s'->R b s') :
  wpAny S.M S.A (forIn ifs true fun c r=>if r=true then do let ok <- isTrue c S.e (eval c S.e);pure (ForInStep.yield ok)else pure (ForInStep.yield r)) R E s:=by
 rcases hI with⟨rfl,rfl⟩|⟨c,rfl,hc⟩
 ·exact wpAny_tests_nil (hR _ _ (AK.here I (show K true μ from h)))
 ·exact wpAny_tests_one (gI (hc m env lg μ K (fun _ _=>False) h s E I H fun v s' nR=>by obtain⟨_,_,_,_,_,_,_,_,_,_,_,f⟩:=nR;exact f.elim) (fun b s' z=>hR _ _ z) fun _ _ e=>e)
theorem On{ys:List V}{Q:Ae}{μ:MH}(h:By μ r=some ys)(hl:ys.length<lim)(q:Q .none (μ.set r (.list (ys++[wv])))):U7 (.lW r) 0 [wv] Q μ:=
 show opt (one [wv]) (fun v=>opt (By μ r) fun xs=>A7 (decide (xs.length<lim)) (Q .none (μ.set r (.list (xs++[v])))))from Vy rfl (Vy h (X3 hl q))
def CW(S:mm)(xs:List Nat)(one:Bool)(cond elt:ME)(c:Option (Nat×List V))(r:Nat)(env0:An)(items:List V)(Q:MH->Prop)(μ:MH):Prop:=
 Dq c r (fun v K μ'=>opt (AC xs one v env0) fun e=>wt lX S.Φ e cond K (fun _ _=>False) μ') (fun v K μ'=>opt (AC xs one v env0) fun e=>we lX S.Φ e elt K (fun _ _=>False) μ') items Q μ
inductive CL(S:mm)(xs:List Nat)(one:Bool)(cond elt:ME)(items:List V)(c:Option (Nat×List V))(r:Nat)(it D:Addr)(env0:An)(lgA:Lg)(s0:Shared)(Q:MH->Prop)(n:Nat)(s:Shared):Prop
 |mk (h':Heap) (tk:Nat) (lY:Lg) (μ':MH) (m':Str->Option Value) (env':An) (k:Nat) (o:Obj) (e:s={s0 with heap:=h',toks:=tk}) (I:S.I m' env' lY μ' h') (H:S.H lY) (sub:Sub env0 env') (x:Ext lgA lY) (hl:lY.led it=some o) (hit:AL S.base lY items c k o) (hr:lY.mu[r]?=some (D,D)) (hn:n=items.length - k) (hk:k<=items.length)
  (hw:CW S xs one cond elt c r env0 (items.drop k) Q μ')
inductive CS(S:mm)(xs:List Nat)(one:Bool)(items:List V)(c:Option (Nat×List V))(r:Nat)(it D:Addr)(env0:An)(lgA:Lg)(s0:Shared)(μ:MH)(k:Nat)(s:Shared):Prop
 |mk (v:V) (e:An) (lg:Lg) (m:Str->Option Value) (o:Obj) (h:Heap) (tk:Nat) (hv:items[k]?=some v) (he:AC xs one v env0=some e) (es:s={s0 with heap:=h,toks:=tk}) (I:S.I m e lg μ h) (H:S.H lg) (x:Ext lgA lg) (hl:lg.led it=some o) (hit:AL S.base lg items c (k+1) o) (hr:lg.mu[r]?=some (D,D))
theorem GD{α:Type}{l:List α}{k:Nat}{v:α}(hv:l[k]?=some v):l.drop k=v :: l.drop (k+1):=by
 obtain⟨oP,e⟩:=List.getElem?_eq_some_iff.mp hv
 rw[List.drop_eq_getElem_cons oP,e]
theorem CW.nA{xs:List Nat}{one:Bool}{cond elt:ME}{c:Option (Nat×List V)}{r:Nat}{env0:An}{items:List V}{Q:MH->Prop}{μ:MH}(hw:CW S xs one cond elt c r env0 items Q μ):HG c μ:=by
 induction items using List.casesOn with
 |nil=>exact(A2 hw).1
 |cons v rest=>exact(A2 hw).1
theorem Sr{xs:List Nat}{one:Bool}{mw:Expr}{ifs:List Expr}{elt cond:ME}{it D:Addr}{items:List V}{c:Option (Nat×List V)}{r:Nat}{Q:MH->Prop}{lgA:Lg}{envO:An}{s0:Shared}{k:Nat}{μ:MH}{s:Shared}{cd:Code}{T:PySem.Fin->Shared->Prop}{E:Value->Shared->Prop}
  (hE:S.SE elt mw) (hI:S.oI cond ifs) (hw:CW S xs one cond elt c r (AG xs envO) (items.drop k) Q μ) (hs:CS S xs one items c r it D (AG xs envO) lgA s0 μ k s)
  (next:∀s',CL S xs one cond elt items c r it D (AG xs envO) lgA s0 Q (items.length - (k+1)) s'->k+1<=items.length->wpAny S.M S.A (again cd) T E s') :
  wpAny S.M S.A (forIn ifs true (fun c r=>if r=true then do let ok <- isTrue c S.e (eval c S.e);pure (ForInStep.yield ok)else pure (ForInStep.yield r)) >>= fun ok=>if ok=true then((eval mw S.e >>= fun v=>call (.builtin "list.append") [.ref D,v] >>= fun _=>pure ()) >>= fun _:Unit=>again cd)else again cd) T E s:=by
 obtain⟨v,e,tS,m₃,o₃,h₃,tu,hv,he,rfl,I₃,H₃,x₃,sU,pq,tO⟩:=hs
 rw[GD hv]at hw
 obtain⟨e',sP,hc⟩:=Aq (A2 hw).2
 cases he.symm.trans sP
 have oP:=(List.getElem?_eq_some_iff.mp hv).1
 have nx:∀{h₅ tk₅ rK μ₅},S.I m₃ e rK μ₅ h₅->Ext tS rK->CW S xs one cond elt c r (AG xs envO) (items.drop (k+1)) Q μ₅->wpAny S.M S.A (again cd) T E {s0 with heap:=h₅,toks:=tk₅}:=fun{h₅ tk₅ rK μ₅} I₅ x₅ w₅=>
  next _ ⟨h₅,tk₅,rK,μ₅,m₃,e,k+1,o₃,rfl,I₅,H₃.mono x₅,UC he,x₃.trans x₅,x₅.oo _ _ pq.oo.1 sU,pq.mono x₅.v,x₅.mu _ _ tO,rfl,oP,w₅⟩ oP
 clear next
 refine gw (ba (s:={s0 with heap:=h₃,toks:=tu}) hI I₃ H₃ hc fun b s₄ z₄=>?_)
 obtain⟨h₄,qA,td,μ₄,rfl,I₄,x₄,q₄⟩:=z₄
 induction b with
 |false=>exact nx (tk₅:=qA) I₄ x₄ q₄
 |true=>
  obtain⟨tH,uI,uY⟩:=Aq q₄
  cases he.symm.trans uI
  refine gw (gw (gI (hE _ _ _ _ _ _ uY {s0 with heap:=h₄,toks:=qA} _ I₄ (H₃.mono x₄) fun v s' z=>z.none.elim) (fun w s₅ z₅=>?_) fun _ _ e=>e))
  obtain⟨h₅,tk₅,rK,μ₅,rfl,I₅,x₅,wv,oF,q₅⟩:=z₅
  obtain⟨ys,hys,q₅⟩:=Aq q₅
  have qh:=(Ag q₅).1;have hw₅:=(Ag q₅).2
  have hr₅:=(x₄.trans x₅).mu _ _ tO
  refine gw (gI (Rw (f:=0) (s:={s0 with heap:=h₅,toks:=tk₅}) (o:=.lW r) (as:=[wv]) (Q:=fun _ μ'=>CW S xs one cond elt c r (AG xs envO) (items.drop (k+1)) Q μ') I₅ (.lW r D D hr₅) (.cons oF .nil) (On hys qh hw₅)) (fun _ s₆ z₆=>?_) fun _ _ e=>e)
  obtain⟨h₆,vj,lg₆,μ₆,rfl,I₆,x₆,_,_,w₆⟩:=z₆
  exact gN (nx (tk₅:=vj) I₆ ((x₄.trans x₅).trans x₆) w₆)
theorem Ld{xs:List Nat}{one:Bool}{t mw:Expr}{gens:List Comprehension}{d:Nat}{ifs:List Expr}{scope:Scope}{pos pp:Pos}{elt cond:ME}{it D:Addr}{items:List V}{c:Option (Nat×List V)}{r:Nat}{Q:MH->Prop}{R:Result->Shared->Prop}{lgA:Lg}{env0:An}
  (G:Bi S FA j) (hT:E4 S.sc xs one t=true) (hE:S.SE elt mw) (hI:S.oI cond ifs) {envO:An} (he:env0=AG xs envO) {s0:Shared} (hA:lgA.led it=none)
  (hR:∀h' tk lY μ' m' env',S.I m' env' lY μ' h'->Sub env0 env'->Ext lgA lY->Q μ'->lY.mu[r]?=some (D,D)->R (.ok .next) {s0 with heap:=h',toks:=tk})
  (sX:compTurn (.ListComp mw gens scope pos) d (.ref it) (.ref D) S.e=(do
   standAt pp
   match <- pyNext (.ref it) with
   |none=>pure (.done .next)
   |some v=>
    letOwnedTupleGo t (.ref it) v
    assign t S.e v
    let mut ok:=true
    for c in ifs do
     if ok then ok <- isTrue c S.e (eval c S.e)
    if ok then
     (do let _ <- call (.builtin "list.append") [.ref D,<- eval mw S.e])
    again (.compLoop (.ListComp mw gens scope pos) d (.ref it) (.ref D) S.e)))
  (n:Nat) (s:Shared) (hs:CL S xs one cond elt items c r it D env0 lgA s0 Q n s):codeAny S.M S.A (.compLoop (.ListComp mw gens scope pos) d (.ref it) (.ref D) S.e) R s:=by
 refine codeAny_loop rfl (CL S xs one cond elt items c r it D env0 lgA s0 Q) (fun n s sL=>?_) n hs
 obtain⟨h',tk,lY,μ',m',env',k,o,rfl,I,H,sub,xA,hl,hit,hr,hn,hk,hw⟩:=sL
 subst he
 show wpAny _ S.A ((compTurn (.ListComp mw gens scope pos) d (.ref it) (.ref D) S.e).onRaise (fun x=>do noteFrame x S.e;theTreesLotGoes x)) _ _ _
 refine lM ?_
 rw[sX]
 refine gw (hU (gw ?_))
 have step:∀v,items[k]?=some v->∃e,AC xs one v (AG xs envO)=some e:=fun v hv=>by
  rw[GD hv]at hw
  obtain⟨e,he,_⟩:=Aq (A2 hw).2
  exact⟨e,he⟩
 refine gI (Nl (s:={s0 with heap:=h',toks:=tk}) G hT I H hl hit hw.nA
  (Qn:=fun s₁=>R (.ok .next) s₁) (Qs:=fun _ s₃=>CS S xs one items c r it D (AG xs envO) lgA s0 μ' k s₃)
  (fun hle h1 mB I1 o7 x1=>?_) (fun v z hv pL hb s1 mB m1 o1 I1 H1 x1 ⟨h1,mS,e1⟩ qS qg o7=>?_) fun v hv=>?_) (fun rr s₁ h₁=>?_) fun _ _ e=>e
 ·rw[kf hle]at hw
  exact hR h1 tk mB μ' m' env' I1 sub (x1 lgA xA hA) (A2 hw).2 (by rw[o7];exact hr)
 ·subst e1
  obtain⟨e,he⟩:=step v hv
  obtain⟨f,hf,sf⟩:=Jh sub he
  cases hf.symm.trans hb
  exact⟨v,e,mB,m1,o1,h1,mS,hv,he,rfl,I1.withEnv fun y w q ss=>I1.vars y w (sf y w q) ss,H1,x1 lgA xA hA,qS,qg,o7 _ _ hr⟩
 ·obtain⟨e,he⟩:=step v hv
  obtain⟨f,hf,_⟩:=Jh sub he
  exact⟨f,hf⟩
 ·cases rr with
  |none=>exact gN h₁
  |some z=>
   refine gw (gI h₁ (fun _ s₂ h₂=>gw (gI h₂ (fun _ s₃ h₃=>?_) fun _ _ e=>e)) fun _ _ e=>e)
   refine Sr hE hI hw h₃ fun s' cl lt=>gN ⟨rfl,_,?_,cl⟩
   rw[hn]
   exact kx lt (iL k)
end
section
variable{S:mm}{FA:Nat->Addr}{j:Nat}{m:Str->Option Value}{env:An}{lg:Lg}{μ:MH}{s:Shared}
theorem Hv{E:Value->Shared->Prop}{Q:Value->Shared->Prop}(x:AL S.base lg items c k o)(g:s.heap.get? it=some o)(q:Q (.ref it) s) :
  wpAny S.M S.A (pyIter (.ref it)) Q E s:=by
 induction x with
 |list n a xs k o h1 h2 h3=>exact wpAny_pyIter_listiter (l:=a) (i:=k) ⟨o,g,h2,h3⟩ q
 |tup l t ot vs nn k o _ _ _ _ h2 h3=>exact lF (t:=t) (i:=k) ⟨o,g,h2,h3⟩ q
 |range lo st n k hk=>exact wpAny_pyIter_rangeiter (x:=lo+k*st) (left:=(n:Int) - k) (step:=st) g q
 |str t u k o _ h2 h3=>exact wpAny_pyIter_striter_ascii (x:=sx t) (t:=u) (i:=k) ⟨o,g,h2,h3⟩ q
theorem MR(h:Dw x=true):∀(e:Env) (u:Value),foldedSetIterable x e u=pure u:=fun e u=>by
 induction x using Expr.casesOn<;>first|rfl|exact nomatch h
theorem Fu{use:Option (Value->Sem Unit)}{g:Comprehension}{mw:Expr}{scope:Scope}{pos:Pos}{Qf:Value->Shared->Prop}{E:Value->Shared->Prop}
  {W:List V->Option (Nat×List V)->Nat->(MH->Prop)->MH->Prop} {Q:Ae} {X:As}
  (G:Bi S FA j) (hg:gens=g :: gs) (hgi:g.iter=ow) (hga:g.is_async=0) (oY:Dw ow=true) (hs:Dh scope S.sc=true) (ho:HX scope xs=true) (hit:S.SE it ow)
  (h:we lX S.Φ env it (fun sv μ₁=>opt (C6 μ₁ sv) fun p=>W p.1 p.2 μ₁.length (Q (.lW μ₁.length)) (μ₁++[.list []])) X μ)
  (I:S.I m env lg μ s.heap) (H:S.H lg) (hX:∀v s',S.X m env lg s X v s'->E v s')
  (sT:∀(T:mm) (items:List V) (c:Option (Nat×List V)) (r:Nat) (a D:Addr) (o:Obj) (lgA lg0:Lg) (μ0:MH) (m0:Str->Option Value) (Q':MH->Prop) (s0:Shared) (R:Result->Shared->Prop),Bi T FA j->T.sc=scope.names->T.A=S.A->T.pg=S.pg->T.w=S.w->T.Φ=S.Φ->T.base=S.base->
   T.I m0 (AG xs env) lg0 μ0 s0.heap->T.H lg0->Ext lgA lg0->lgA.led a=none->lg0.led a=some o->AL T.base lg0 items c 0 o->lg0.mu[r]?=some (D,D)->W items c r Q' μ0->
   (∀h' tk lY μ' m' env',T.I m' env' lY μ' h'->Ext lgA lY->Q' μ'->lY.mu[r]?=some (D,D)->R (.ok .next) {s0 with heap:=h',toks:=tk})->
   codeAny T.M T.A (.compStart (.ListComp mw gens scope pos) 0 (.ref a) (.ref D) T.e) R s0)
  (qK:∀h' tk lY μ' D C r,S.I m env lY μ' h'->Ext lg lY->Q (.lW r) μ'->lY.mu[r]?=some (D,D)->lY.led C=none->S.base.get? C=none->C≠S.e.locals->(∃mC,h'.Ns C mC)->S.H lY->
   compPost S.M S.A E use Qf (.ref D) C (.ok .next) {s with heap:=h',toks:=tk}) :
  wpAny S.M S.A (comprehension (.ListComp mw gens scope pos) scope S.e (firstIterPos gens pos) (newList []) false (eval ow S.e) use) Qf E s:=by
 have hk:=(CK hs).1;have hn:=(CK hs).2
 subst hg
 refine wpAny_comprehension_free (g:=g) (gs:=gs) rfl (fun x=>?_) (W6 fun p hp hf=>?_) hk (fun p hp hl=>?_) ?_
 ·refine hgi.symm▸?_
  exact MR oY _ _
 ·obtain⟨n,k⟩:=p
  dsimp only at hf;subst hf
  rcases(hn n .free hp).2 with z|z|z|⟨_,z⟩
  ·cases z
  ·cases z
  ·cases z
  ·obtain⟨ca,o,c1,_⟩:=H.own.led n z
   exact⟨ca,c1⟩
 ·obtain⟨n,k⟩:=p
  dsimp only at hl;subst hl
  exact(hn n .local hp).1
 refine gI (hit _ _ _ _ _ _ h s E I H hX) (fun u s1 z1=>?_) fun _ _ e=>e
 obtain⟨h1,mS,mB,μ1,e1,I1,x1,uv,ru,hw⟩:=z1
 obtain⟨⟨items,c⟩,hi,hw⟩:=Aq hw
 have k0:∃h1 mS,s1={s with heap:=h1,toks:=mS}:=⟨h1,mS,e1⟩
 have I1:S.I m env mB μ1 s1.heap:=by rw[e1];exact I1
 clear e1
 have H1:=H.mono x1
 refine MC I1 ru hi fun a o h2 mU na I2 x2 rB pN rI ke2=>?_
 refine wpAny_newList ?_ (ic _)
 obtain⟨pi,I3,x3,r3,ke3⟩:=Ro (o:=.list []) (ob:={cls:=.type "list",data:=.seq ([]:List Value).toArray}) I2 rfl ⟨rfl,ic _,#[],0,Lg.l9 ..,.nil⟩
 have H3:S.H pi:=H1.mono (x2.trans x3)
 refine X4 ?_
 dsimp only
 obtain⟨qN,I4,x4,H4,G4,c1,c2,c3⟩:=Px (env:=env) G hs ho I3 H3
 have eC:(Heap.push (Heap.push h2 {cls:=.type "list",data:=.seq ([]:List Value).toArray}) {cls:=.type "dict",data:=.dict #[]}).objs.size=(Heap.push h2 {cls:=.type "list",data:=.seq ([]:List Value).toArray}).objs.size+1:=i5 ..
 refine eC.symm▸?_
 have l4:qN.led a=some o:=x4.oo _ _ pN.oo.1 (ke3 _ _ rB)
 have i4:=(pN.mono x3.v).mono x4.v
 refine sT (S.inner scope (Heap.push h2 {cls:=.type "list",data:=.seq ([]:List Value).toArray}).objs.size m env pi) items c μ1.length a h2.objs.size o mB qN _ _ _ {s1 with heap:=Ed (Heap.push h2 {cls:=.type "list",data:=.seq ([]:List Value).toArray}) scope} _ G4 rfl rfl rfl rfl rfl rfl I4 H4 ((x2.trans x3).trans x4) na l4 i4 (x4.mu _ _ r3) hw fun h' tk lY μ' m' env' I' x' q' r'=>?_
 have sF:∀b p,AU env S.e mB b=some p->AU env S.e pi b=some p:=fun b p q=>by
  unfold AU at q ⊢
  split at q
  ·rename_i z;exact(iI z).trans (ke3 _ _ (ke2 _ _ q))
  ·exact Ao q
 obtain⟨I5,x5⟩:=Inv.back (f:=⟨S.e,m,AU env S.e pi⟩) (env:=env) I' x' I1.mG sF I1.vars
 obtain⟨oC,gC,hC⟩:=H6.of I'.ns
 obtain⟨h1,mS,e1⟩:∃h1 mS,s1={s with heap:=h1,toks:=mS}:=k0
 subst e1
 refine qK h' tk _ μ' _ _ μ1.length I5 (x1.trans x5) q' r' ?_ c2 c3 ⟨m',I'.ns⟩ (H1.mono x5)
 unfold Lg.drop;dsimp only
 split
 ·rfl
 ·exact I'.mG
end
section
variable{S:mm}{FA:Nat->Addr}{j:Nat}{lg:Lg}
def IM(FA:Nat->Addr)(sc:Sc)(a:ME)(x:Expr):Prop:=∀(S:mm) (j:Nat),Bi S FA j->S.sc=sc->S.SE a x
def Tw(FA:Nat->Addr)(sc:Sc)(cond:ME)(ifs:List Expr):Prop:=∀(S:mm) (j:Nat),Bi S FA j->S.sc=sc->S.oI cond ifs
theorem Kj{s:Shared}{R:Result->Shared->Prop}(x:AL S.base lg items c k o)(g:s.heap.get? a=some o)
  (h:codeAny S.M S.A (.compLoop (.ListComp mw (⟨t,ow,ifs,0⟩ :: gs) scope pos) 0 (.ref a) acc S.e) R s):codeAny S.M S.A (.compStart (.ListComp mw (⟨t,ow,ifs,0⟩ :: gs) scope pos) 0 (.ref a) acc S.e) R s:=
 codeAny_compStart_list h (Hv x g h)
theorem OY{m:Str->Option Value}{lY:Lg}{E:Value->Shared->Prop}{Q:Ae}{h':Heap}{tk:Nat}(I:S.I m env lY μ' h')(x:Ext lg lY)(q:Q (.lW r) μ')(hr:lY.mu[r]?=some (D,D))(c1:lY.led C=none)(c2:S.base.get? C=none)(c3:C≠S.e.locals)(hC:∃mC,h'.Ns C mC) :
  compPost S.M S.A E none (S.P m env lg s (PV S.base Q)) (.ref D) C (.ok .next) {s with heap:=h',toks:=tk}:=by
 obtain⟨mC,hC⟩:=hC
 refine⟨mC,hC,fun oV hs=>?_⟩
 exact⟨oV,tk,lY,μ',rfl,I.keepsBut c2 c1 (iJ c3) (fun b o n z=>(hs.2 b n).trans z),x,.lW r,.lW r D D hr,q⟩
theorem ZU{elt cond:ME}{xs:List Nat}{one:Bool}{t ow mw:Expr}{ifs:List Expr}{scope:Scope}{pos:Pos}{env:An}{Φ:Az}(hc:E4 scope.names xs one t=true)(hE:IM FA scope.names elt mw)(hI:Tw FA scope.names cond ifs)
  (T:mm) (items:List V) (c:Option (Nat×List V)) (r:Nat) (a D:Addr) (o:Obj) (lgA lg0:Lg) (μ0:MH) (m0:Str->Option Value) (Q':MH->Prop) (s0:Shared) (R:Result->Shared->Prop) (GT:Bi T FA j) (nY:T.sc=scope.names) (hΦ:T.Φ=Φ)
  (I0:T.I m0 (AG xs env) lg0 μ0 s0.heap) (H0:T.H lg0) (x0:Ext lgA lg0) (na:lgA.led a=none) (hl:lg0.led a=some o) (hi:AL T.base lg0 items c 0 o) (hr:lg0.mu[r]?=some (D,D))
  (hw:Dq c r (fun v K μ'=>opt (AC xs one v (AG xs env)) fun e=>wt lX Φ e cond K (fun _ _=>False) μ') (fun v K μ'=>opt (AC xs one v (AG xs env)) fun e=>we lX Φ e elt K (fun _ _=>False) μ') items Q' μ0)
  (hR:∀h' tk lY μ' m' env',T.I m' env' lY μ' h'->Ext lgA lY->Q' μ'->lY.mu[r]?=some (D,D)->R (.ok .next) {s0 with heap:=h',toks:=tk}) :
  codeAny T.M T.A (.compStart (.ListComp mw [⟨t,ow,ifs,0⟩] scope pos) 0 (.ref a) (.ref D) T.e) R s0:=by
 subst hΦ
 refine Kj hi (I0.led _ _ hl).1 (Ld (env0:=AG xs env) (envO:=env) (lgA:=lgA) (Q:=Q') (items:=items) (c:=c) (r:=r) GT (by rw[nY];exact hc) (hE T j GT nY) (hI T j GT nY) rfl na (fun h' tk lY μ' m' env' I' _ x' q' r'=>hR h' tk lY μ' m' env' I' x' q' r') (compTurn_list ..) (items.length - 0) s0 ?_)
 exact⟨s0.heap,s0.toks,lg0,μ0,m0,AG xs env,0,o,rfl,I0,H0,fun _ _ q=>q,x0,hl,hi,hr,rfl,ic _,hw⟩
theorem YU{elt it cond:ME}{xs:List Nat}{one:Bool}{t ow mw:Expr}{ifs:List Expr}{scope:Scope}{pos:Pos}(G:Bi S FA j)(oY:Dw ow=true)(hs:Dh scope S.sc=true)(ho:HX scope xs=true)(hc:E4 scope.names xs one t=true)(hit:S.SE it ow)
  (hE:IM FA scope.names elt mw) (hI:Tw FA scope.names cond ifs):S.SE (.comp elt xs one it cond) (.ListComp mw [⟨t,ow,ifs,0⟩] scope pos):=by
 intro m env lg μ Q X h s E I H hX
 refine Fu (use:=none) (W:=fun items c r Q' μ'=>Dq c r (fun v K μ'=>opt (AC xs one v (AG xs env)) fun e=>wt lX S.Φ e cond K (fun _ _=>False) μ') (fun v K μ'=>opt (AC xs one v (AG xs env)) fun e=>we lX S.Φ e elt K (fun _ _=>False) μ') items Q' μ')
  (Q:=Q) (X:=X) G rfl rfl rfl oY hs ho hit h I H hX ?_ ?_
 ·intro T items c r a D o lgA lg0 μ0 m0 Q' s0 R GT nY hA uS sY hΦ hb I0 H0 x0 na hl hi hr hw hR
  exact ZU hc hE hI T items c r a D o lgA lg0 μ0 m0 Q' s0 R GT nY hΦ I0 H0 x0 na hl hi hr hw hR
 ·intro h' tk lY μ' D C r I' x' q hr c1 c2 c3 hC _
  exact OY I' x' q hr c1 c2 c3 hC
theorem dz(elt t1 i1 t2 i2:Expr)(scope:Scope)(pos:Pos)(it acc:Value)(env:Env) :
  compTurn (.ListComp elt [⟨t1,i1,[],0⟩,⟨t2,i2,[],0⟩] scope pos) 0 it acc env=(standAt i1.pos >>= fun _=>pyNext it >>= fun r=>match r with
   |none=>pure (.done .next)
   |some v=>letOwnedTupleGo t1 it v >>= fun _=>assign t1 env v >>= fun _=>
    eval i2 env >>= fun x=>standAt i2.pos >>= fun _=>foldedSetIterable i2 env x >>= fun x=>holding [x] (pyIter x) >>= fun nU=>
     runOwn (.compStart (.ListComp elt [⟨t1,i1,[],0⟩,⟨t2,i2,[],0⟩] scope pos) 1 nU acc env) env >>= fun _=>
     again (.compLoop (.ListComp elt [⟨t1,i1,[],0⟩,⟨t2,i2,[],0⟩] scope pos) 0 it acc env)):=by with_unfolding_all rfl
theorem dA(elt t1 i1 t2 i2:Expr)(scope:Scope)(pos:Pos)(it acc:Value)(env:Env) :
  compTurn (.ListComp elt [⟨t1,i1,[],0⟩,⟨t2,i2,[],0⟩] scope pos) 1 it acc env=(do
   standAt i2.pos
   match <- pyNext it with
   |none=>pure (.done .next)
   |some v=>
    letOwnedTupleGo t2 it v
    assign t2 env v
    let mut ok:=true
    for c in([]:List Expr) do
     if ok then ok <- isTrue c env (eval c env)
    if ok then
     (do let _ <- call (.builtin "list.append") [acc,<- eval elt env])
    again (.compLoop (.ListComp elt [⟨t1,i1,[],0⟩,⟨t2,i2,[],0⟩] scope pos) 1 it acc env)):=by rfl
theorem Zh{s:Shared}{R:Result->Shared->Prop}(x:AL S.base lg items c k o)(g:s.heap.get? a=some o)
  (h:codeAny S.M S.A (.compLoop (.ListComp elt [⟨t1,i1,[],0⟩,⟨t2,i2,[],0⟩] scope pos) 1 (.ref a) acc S.e) R s):codeAny S.M S.A (.compStart (.ListComp elt [⟨t1,i1,[],0⟩,⟨t2,i2,[],0⟩] scope pos) 1 (.ref a) acc S.e) R s:=by
 refine codeAny_of_tree ?_
 refine wpAny_notedAt ?_
 refine gw (kR (wpAny_ite ?_))
 split
 ·first
   |exact gw (gN (gN (And.intro rfl h)))
   |exact gN (And.intro rfl h)
 ·first
   |exact gw (jQ (gw (hU (gw (Hv x g (gN (And.intro rfl h)))))))
   |(refine gw (jQ ?_);show wpAny _ _ (standAt i2.pos >>= _) _ _ s;exact gw (hU (gw (Hv x g (gN (And.intro rfl h))))))
end
section
variable{S:mm}{FA:Nat->Addr}{j:Nat}{lg:Lg}
def PP(Φ:Az)(env0:An)(elt nU:ME)(x1 x2 r:Nat)(v:V)(K:MH->Prop)(μ':MH):Prop:=
 we lX Φ (Ad env0 x1 v) nU (fun s2 μ₂=>opt (C6 μ₂ s2) fun p2=>
  Dq p2.2 r (fun _ K' oj=>K' true oj) (fun v2 K' oj=>we lX Φ (Ad (Ad env0 x1 v) x2 v2) elt K' (fun _ _=>False) oj) p2.1 K μ₂) (fun _ _=>False) μ'
def tx(S:mm)(elt nU:ME)(x1 x2:Nat)(c:Option (Nat×List V))(r:Nat)(env0:An)(items:List V)(Q:MH->Prop)(μ:MH):Prop:=Hm c (PP S.Φ env0 elt nU x1 x2 r) items Q μ
theorem tx.nA{Q:MH->Prop}(hw:tx S elt nU x1 x2 c r env0 items Q μ):HG c μ:=by
 induction items using List.casesOn with
 |nil=>exact(A2 hw).1
 |cons v rest=>exact(A2 hw).1
inductive CL2(S:mm)(elt nU:ME)(x1 x2:Nat)(items:List V)(c:Option (Nat×List V))(r:Nat)(it D:Addr)(env0:An)(lgA:Lg)(s0:Shared)(Q:MH->Prop)(n:Nat)(s:Shared):Prop
 |mk (h':Heap) (tk:Nat) (lY:Lg) (μ':MH) (m':Str->Option Value) (env':An) (k:Nat) (o:Obj) (e:s={s0 with heap:=h',toks:=tk}) (I:S.I m' env' lY μ' h') (H:S.H lY) (sub:Sub env0 env') (x:Ext lgA lY) (hl:lY.led it=some o) (hit:AL S.base lY items c k o) (hr:lY.mu[r]?=some (D,D)) (hn:n=items.length - k) (hk:k<=items.length)
  (hw:tx S elt nU x1 x2 c r env0 (items.drop k) Q μ')
inductive CS2(S:mm)(x1:Nat)(items:List V)(c:Option (Nat×List V))(r:Nat)(it D:Addr)(env0:An)(lgA:Lg)(s0:Shared)(μ:MH)(k:Nat)(s:Shared):Prop
 |mk (v:V) (lg:Lg) (m:Str->Option Value) (o:Obj) (h:Heap) (tk:Nat) (hv:items[k]?=some v) (es:s={s0 with heap:=h,toks:=tk}) (I:S.I m (Ad env0 x1 v) lg μ h) (H:S.H lg) (x:Ext lgA lg) (hl:lg.led it=some o) (hit:AL S.base lg items c (k+1) o) (hr:lg.mu[r]?=some (D,D))
theorem UD(ne:x1≠x2):Ad (AG [x1,x2] env) x1 v=AG [x2] (Ad (AG [x1,x2] env) x1 v):=by
 funext y
 unfold AG
 by_cases q:y=x2
 ·subst q
  simp[Ad,iJ ne]
 ·simp[q]
theorem SJ(q:AG [x1,x2] env y=some w):Ad (AG [x1,x2] env) x1 v y=some w:=by
 unfold Ad
 rw[iH]
 ·exact q
 ·rintro rfl;simp[AG]at q
theorem JC{tQ:Expr}{scope:Scope}{pos:Pos}{items:List V}{c:Option (Nat×List V)}{Q:MH->Prop}{R:Result->Shared->Prop}{lgA:Lg}{env:An}
  (G:Bi S FA j) (nY:S.sc=scope.names) (ne:x1≠x2) (ut:E4 scope.names [x1] true t1=true) (uu:E4 scope.names [x2] true t2=true) (oY:Dw s7=true) (hE:IM FA scope.names elt mw) (us:IM FA scope.names nU s7) (hA:lgA.led it=none)
  (hR:∀h' tk lY μ' m' env',S.I m' env' lY μ' h'->Ext lgA lY->Q μ'->lY.mu[r]?=some (D,D)->R (.ok .next) {s0 with heap:=h',toks:=tk})
  (n:Nat) (s:Shared) (hs:CL2 S elt nU x1 x2 items c r it D (AG [x1,x2] env) lgA s0 Q n s):codeAny S.M S.A (.compLoop (.ListComp mw [⟨t1,tQ,[],0⟩,⟨t2,s7,[],0⟩] scope pos) 0 (.ref it) (.ref D) S.e) R s:=by
 refine codeAny_loop rfl (CL2 S elt nU x1 x2 items c r it D (AG [x1,x2] env) lgA s0 Q) (fun n s sL=>?_) n hs
 obtain⟨h',tk,lY,μ',m',env',k,o,rfl,I,H,sub,xA,hl,hit,hr,hn,hk,hw⟩:=sL
 refine lM ?_
 rw[dz]
 refine gw (hU (gw ?_))
 refine gI (Nl (s:={s0 with heap:=h',toks:=tk}) G (by rw[nY];exact ut) I H hl hit hw.nA
  (Qn:=fun s₁=>R (.ok .next) s₁) (Qs:=fun _ s₃=>CS2 S x1 items c r it D (AG [x1,x2] env) lgA s0 μ' k s₃)
  (fun hle h1 mB I1 o7 x1=>?_) (fun v z hv pL hb s1 mB m1 o1 I1 H1 x1 ⟨h1,mS,e1⟩ qS qg o7=>?_) fun v hv=>⟨_,rfl⟩) (fun rr s₁ h₁=>?_) fun _ _ e=>e
 ·replace hw:=(kf hle)▸hw
  exact hR h1 tk mB μ' m' env' I1 (x1 lgA xA hA) (A2 hw).2 (by refine o7.symm▸?_;exact hr)
 ·cases e1
  obtain rfl:=Option.some.inj hb
  exact⟨v,mB,m1,o1,h1,mS,hv,rfl,I1.withEnv fun y w q ss=>I1.vars y w (LI sub _ _ y w q) ss,H1,x1 lgA xA hA,qS,qg,o7 _ _ hr⟩
 ·induction rr with
  |none=>exact gN h₁
  |some z=>
   refine gw (gI h₁ (fun _ s₂ h₂=>gw (gI h₂ (fun _ s₃ h₃=>?_) fun _ _ e=>e)) fun _ _ e=>e)
   obtain⟨v,tS,m₃,o₃,h₃,tu,hv,rfl,I₃,H₃,x₃,sU,pq,tO⟩:=h₃
   replace hw:=(GD hv)▸hw
   have oP:=(List.getElem?_eq_some_iff.mp hv).1
   refine gw (gI (us S j G nY _ _ _ _ _ _ (A2 hw).2 {s0 with heap:=h₃,toks:=tu} _ I₃ H₃ fun v s' z=>z.none.elim) (fun u s₄ z₄=>?_) fun _ _ e=>e)
   obtain⟨h₄,qA,td,μ₄,rfl,I₄,x₄,uv,ru,uZ⟩:=z₄
   obtain⟨⟨qi,c2⟩,pN,uZ⟩:=Aq uZ
   refine gw (hU (gw (kq (a:=u) (MR oY S.e u) (gw (hV ?_)))))
   refine MC (s:={s0 with heap:=h₄,toks:=qA}) I₄ ru pN fun a o₅ h₅ rK na I₅ x₅ hl₅ sQ kp₅ ke₅=>?_
   have H₅:=(H₃.mono x₄).mono x₅
   refine gw (wpAny_runOwn ?_)
   refine Zh sQ (I₅.led _ _ hl₅).1 (Ld (xs:=[x2]) (one:=true) (t:=t2) (ifs:=[]) (elt:=elt) (cond:=.bool true) (items:=qi) (c:=c2) (r:=r) (lgA:=td) (env0:=Ad (AG [x1,x2] env) x1 v) (Q:=fun μ'=>tx S elt nU x1 x2 c r (AG [x1,x2] env) (items.drop (k+1)) Q μ')
    (s0:={s0 with heap:=h₅,toks:=qA}) G (by refine nY.symm▸?_;exact uu) (hE S j G nY) (.inl ⟨rfl,rfl⟩) (UD ne) na (fun h₆ vj lg₆ μ₆ m₆ uj I₆ vi x₆ q₆ r₆=>?_) (dA ..) (qi.length - 0) _ ?_)
   ·exact gN ⟨rfl,items.length - (k+1),by refine hn.symm▸?_;exact kx oP (iL k),h₆,vj,lg₆,μ₆,m₆,uj,k+1,o₃,rfl,I₆,(H₃.mono x₄).mono x₆,fun y w q=>vi y w (SJ q),(x₃.trans x₄).trans x₆,(x₄.trans x₆).oo _ _ pq.oo.1 sU,pq.mono (x₄.trans x₆).v,r₆,rfl,oP,q₆⟩
   ·refine⟨h₅,qA,rK,μ₄,m₃,_,0,o₅,rfl,I₅,H₅,fun _ _ q=>q,x₅,hl₅,sQ,(x₄.trans x₅).mu _ _ tO,rfl,ic _,?_⟩
    exact uZ
theorem V3{scope:Scope}(G:Bi S FA j)(oY:Dw tQ=true)(uP:Dw s7=true)(hs:Dh scope S.sc=true)(ho:HX scope [x1,x2]=true)(ne:x1≠x2)(ut:E4 scope.names [x1] true t1=true)(uu:E4 scope.names [x2] true t2=true)
  (hit:S.SE pt tQ) (us:IM FA scope.names nU s7) (hE:IM FA scope.names elt mw):S.SE (.nT elt x1 pt x2 nU) (.ListComp mw [⟨t1,tQ,[],0⟩,⟨t2,s7,[],0⟩] scope pos):=by
 intro m env lg μ Q X h s E I H hX
 refine Fu (use:=none) (xs:=[x1,x2]) (W:=fun items c r Q' μ'=>Hm c (PP S.Φ (AG [x1,x2] env) elt nU x1 x2 r) items Q' μ')
  (Q:=Q) (X:=X) G rfl rfl rfl oY hs ho hit h I H hX ?_ ?_
 ·intro T items c r a D o lgA lg0 μ0 m0 Q' s0 R GT nY hA uS sY hΦ hb I0 H0 x0 na hl hi hr hw hR
  replace hw:=(hΦ).symm▸hw
  refine Kj hi (I0.led _ _ hl).1 (JC (lgA:=lgA) (env:=env) (Q:=Q') (items:=items) (c:=c) (r:=r) GT nY ne ut uu uP hE us na (fun h' tk lY μ' m' env' I' x' q' r'=>hR h' tk lY μ' m' env' I' x' q' r') (items.length - 0) s0 ?_)
  exact⟨s0.heap,s0.toks,lg0,μ0,m0,_,0,o,rfl,I0,H0,fun _ _ q=>q,x0,hl,hi,hr,rfl,ic _,hw⟩
 ·intro h' tk lY μ' D C r I' x' q hr c1 c2 c3 hC _
  exact OY I' x' q hr c1 c2 c3 hC
end
structure mE(FA:Nat->Addr)(a:ME):Prop where
 e:∀(S:mm) (j jj:Nat) (x:Expr),Bi S FA j->AD jj S.sc a x=true->S.SE a x/\S.ST a x
 an:∀(S:mm) (j jj:Nat) (vs:List Expr),Bi S FA j->Jy jj S.sc a vs=true->S.SB .And a vs/\S.TB .And a vs
 or:∀(S:mm) (j jj:Nat) (vs:List Expr),Bi S FA j->NZ jj S.sc a vs=true->S.SB .Or a vs/\S.TB .Or a vs
 l:∀(S:mm) (j jj:Nat) (xs:List Expr),Bi S FA j->NY jj S.sc a xs=true->xs.all (fun x=>!Ez x)=true/\S.SL a xs
 d:∀(S:mm) (j jj:Nat) (ks:List (Option Expr)) (vs:List Expr),Bi S FA j->W5 jj S.sc a ks vs=true->ks.all (·.isSome)=true/\ks.length=vs.length/\S.SD a ks vs
theorem Fj{S:mm}(h:∀{Φ:Az} {env Q X μ},¬wt lX Φ env a Q X μ):S.ST a x:=fun _ _ _ _ _ _ q=>(h q).elim
theorem Ei{sc:Sc}(h:Hq sc n=true):sc.lookup n=some .globalImplicit:=gM h
theorem CF(h:(!b)=true):b=false:=by cases b<;>first|rfl|exact nomatch h
theorem Bb{P:Prop}(h:false=true):P:=nomatch h
theorem TO{P Q R S:Prop}(h:P/\Q)(k:R/\S){T:Prop}(f:P->Q->R->S->T):T:=f h.1 h.2 k.1 k.2
section
variable{FA:Nat->Addr}
theorem mE.of(e:∀(S:mm) (j jj:Nat) (x:Expr),Bi S FA j->AD jj S.sc a x=true->S.SE a x/\S.ST a x)
  (an:∀jj sc vs,Jy jj sc a vs=false) (or:∀jj sc vs,NZ jj sc a vs=false) (l:∀jj sc vs,NY jj sc a vs=false) (d:∀jj sc ks vs,W5 jj sc a ks vs=false):mE FA a:=
 ⟨e,fun _ _ _ _ _ h=>Bb ((an _ _ _).symm.trans h),fun _ _ _ _ _ h=>Bb ((or _ _ _).symm.trans h),fun _ _ _ _ _ h=>Bb ((l _ _ _).symm.trans h),fun _ _ _ _ _ _ h=>Bb ((d _ _ _ _).symm.trans h)⟩
theorem bL(i:Int):mE FA (.int i):=.of (fun S j jj x G h=>by
 exact Dy h fun c p k h=>Vp h fun i' h=>EW h ⟨cQ,Fj id⟩) (fun _ _ _=>rfl) (fun _ _ _=>rfl) (fun _ _ _=>rfl) (fun _ _ _ _=>rfl)
theorem bP(l:List Nat):mE FA (.str l):=.of (fun S j jj x G h=>by
 refine Dy h fun c p k h=>Vu h fun t h=>?_
 obtain rfl:t=sx l:=gM (Al h)
 exact⟨cT ⟨gG (Al (Aa h)),fun n q=>gG (List.all_eq_true.mp (Aa (Aa h)) n q)⟩,Fj id⟩) (fun _ _ _=>rfl) (fun _ _ _=>rfl) (fun _ _ _=>rfl) (fun _ _ _ _=>rfl)
theorem Yd(b:Bool):mE FA (.bool b):=.of (fun S j jj x G h=>by
 exact Dy h fun c p k h=>Vm h fun d h=>EW h ⟨RO,OO (fun _ _=>rfl) id RO⟩) (fun _ _ _=>rfl) (fun _ _ _=>rfl) (fun _ _ _=>rfl) (fun _ _ _ _=>rfl)
theorem Yn :mE FA ME.none:=.of (fun S j jj x G h=>by
 exact Dy h fun c p k h=>ZK (Lm h).symm ⟨YZ,Fj id⟩) (fun _ _ _=>rfl) (fun _ _ _=>rfl) (fun _ _ _=>rfl) (fun _ _ _ _=>rfl)
theorem RP{S:mm}{x:Expr}(he:∀env A3,isTrue x env A3=(do let v <- A3;standAt x.pos;holding [v] (truthy v)))
  (hw:∀{Φ:Az} {env Q X μ},wt lX Φ env a Q X μ->we lX Φ env a (fun v μ'=>opt (D1 v) fun c=>Q c μ') X μ) (ha:S.SE a x):S.SE a x/\S.ST a x:=⟨ha,OO he hw ha⟩
theorem FU{S:mm}(h:∀{Φ:Az} {env Q X μ},¬wt lX Φ env a Q X μ)(ha:S.SE a x):S.SE a x/\S.ST a x:=⟨ha,Fj h⟩
theorem bN(y:Nat):mE FA (.lW y):=.of (fun S j jj x G h=>by
 exact AV h fun n p h=>RP (fun _ _=>rfl) id (cS (pos:=p) G (AS (Al h)).1 (AS (Al h)).2 (Al (Aa h)) (CF (Aa (Aa h))))) (fun _ _ _=>rfl) (fun _ _ _=>rfl) (fun _ _ _=>rfl) (fun _ _ _ _=>rfl)
theorem Yk(y:Nat):mE FA (.lX y):=.of (fun S j jj x G h=>by
 exact AV h fun n p h=>FU id (YW G (AS (Al h)).2 (Ei (Al (Aa h))) (CF (Aa (Aa h))))) (fun _ _ _=>rfl) (fun _ _ _=>rfl) (fun _ _ _=>rfl) (fun _ _ _ _=>rfl)
theorem bI(op:Operator)(a b:ME)(ha:mE FA a)(hb:mE FA b):mE FA (.bin op a b):=.of (fun S j jj x G h=>by
 exact Vl h fun l o r p h=>EW (Al h) (RP (fun _ _=>rfl) id (cM (pos:=p) (op:=op) (ha.e S j jj _ G (Al (Aa h))).1 (hb.e S j jj _ G (Aa (Aa h))).1))) (fun _ _ _=>rfl) (fun _ _ _=>rfl) (fun _ _ _=>rfl) (fun _ _ _ _=>rfl)
theorem eW(op:UnaryOp)(a:ME)(ha:mE FA a):mE FA (.un op a):=.of (fun S j jj x G h=>by
 refine Yq h fun o l p h=>EW (Al h) ⟨fJ (ha.e S j jj _ G (Aa h)).1,?_⟩
 induction op with
 |Not=>exact dh (ha.e S j jj _ G (Aa h)).2
 |_=>exact Fj id) (fun _ _ _=>rfl) (fun _ _ _=>rfl) (fun _ _ _=>rfl) (fun _ _ _ _=>rfl)
theorem bK(a:ME)(op:CmpOp)(b:ME)(ha:mE FA a)(hb:mE FA b):mE FA (.cmp a op b):=.of (fun S j jj x G h=>by
 refine Ou h fun l os rs p h=>B4 h fun o h=>B4 h fun r h=>?_
 have e:op=o:=gM (Al h)
 subst e
 exact⟨cP G (ha.e S j jj _ G (Al (Aa (Aa h)))).1 (hb.e S j jj _ G (Aa (Aa (Aa h)))).1 (CF (Al (Aa h))),dc G (ha.e S j jj _ G (Al (Aa (Aa h)))).1 (hb.e S j jj _ G (Aa (Aa (Aa h)))).1 (CF (Al (Aa h)))⟩) (fun _ _ _=>rfl) (fun _ _ _=>rfl) (fun _ _ _=>rfl) (fun _ _ _ _=>rfl)
theorem Yg(a:ME)(o1:CmpOp)(b:ME)(o2:CmpOp)(c:ME)(ha:mE FA a)(hb:mE FA b)(hc:mE FA c):mE FA (.oz a o1 b o2 c):=.of (fun S j jj x G h=>by
 refine Ou h fun l os rs p h=>Hz h fun x1 x2 h=>Hz h fun r1 r2 h=>?_
 have e:o1=x1:=gM (Al h)
 have e':o2=x2:=gM (Al (Aa h))
 subst e e'
 exact⟨YT G (ha.e S j jj _ G (Al (Aa (Aa (Aa h))))).1 (hb.e S j jj _ G (Al (Aa (Aa (Aa (Aa h)))))).1 (hc.e S j jj _ G (Aa (Aa (Aa (Aa (Aa h)))))).1 (CF (Al (Aa (Aa h)))),Zd G (ha.e S j jj _ G (Al (Aa (Aa (Aa h))))).1 (hb.e S j jj _ G (Al (Aa (Aa (Aa (Aa h)))))).1 (hc.e S j jj _ G (Aa (Aa (Aa (Aa (Aa h)))))).1 (CF (Al (Aa (Aa h))))⟩) (fun _ _ _=>rfl) (fun _ _ _=>rfl) (fun _ _ _=>rfl) (fun _ _ _ _=>rfl)
theorem bM(t a b:ME)(ht:mE FA t)(ha:mE FA a)(hb:mE FA b):mE FA (.ite t a b):=.of (fun S j jj x G h=>by
 exact Yo h fun t' a' b' p h=>TO (ha.e S j jj _ G (Al (Aa h))) (hb.e S j jj _ G (Aa (Aa h))) fun a1 a2 b1 b2=>⟨cR (ht.e S j jj _ G (Al h)).2 a1 b1,rP (ht.e S j jj _ G (Al h)).2 a2 b2⟩) (fun _ _ _=>rfl) (fun _ _ _=>rfl) (fun _ _ _=>rfl) (fun _ _ _ _=>rfl)
theorem Ye(f:Nat)(as:ME)(ha:mE FA as):mE FA (.call f as):=.of (fun S j jj x G h=>by
 exact Ek h fun g args kw q h=>AP h fun h=>AV h fun n p h=>RP (fun _ _=>rfl) id (YS (p:=p) (pos:=q) G (Al h) (AS (Al (Aa h))).2 (Ei (Al (Aa (Aa h)))) (CF (Al (Aa (Aa (Aa h))))) (ha.l S j jj _ G (Aa (Aa (Aa (Aa h))))).1 (ha.l S j jj _ G (Aa (Aa (Aa (Aa h))))).2)) (fun _ _ _=>rfl) (fun _ _ _=>rfl) (fun _ _ _=>rfl) (fun _ _ _ _=>rfl)
theorem bJ(f:Nat)(as:ME)(ha:mE FA as):mE FA (.blt f as):=.of (fun S j jj x G h=>by
 exact Ek h fun g args kw q h=>AP h fun h=>AV h fun n p h=>FU id (cO G (gG (Al h)) (gM (Al (Aa (Aa h)))) (Ei (Al (Aa (Aa (Aa h))))) (CF (Al (Aa h))) (ha.l S j jj _ G (Aa (Aa (Aa (Aa h))))).1 (ha.l S j jj _ G (Aa (Aa (Aa (Aa h))))).2)) (fun _ _ _=>rfl) (fun _ _ _=>rfl) (fun _ _ _=>rfl) (fun _ _ _ _=>rfl)
theorem Ym(o:ME)(f:Nat)(as:ME)(ho:mE FA o)(ha:mE FA as):mE FA (.my o f as):=.of (fun S j jj x G h=>by
 exact Ek h fun g args kw q h=>AP h fun h=>Dk h fun o' n p h=>FU id (YY (gG (Al h)) (Al (Aa h)) (Al (Aa (Aa h))) (gG (Al (Aa (Aa (Aa h))))) (gM (Al (Aa (Aa (Aa (Aa h)))))) (ha.l S j jj _ G (Aa (Aa (Aa (Aa (Aa (Aa h))))))).1 (ho.e S j jj _ G (Al (Aa (Aa (Aa (Aa (Aa h))))))).1 (ha.l S j jj _ G (Aa (Aa (Aa (Aa (Aa (Aa h))))))).2)) (fun _ _ _=>rfl) (fun _ _ _=>rfl) (fun _ _ _=>rfl) (fun _ _ _ _=>rfl)
theorem Yc(o:ME)(a:Nat)(ho:mE FA o):mE FA (.attr o a):=.of (fun S j jj x G h=>by
 exact Dk h fun o' n p h=>RP (fun _ _=>rfl) id (YR (pos:=p) G (AS (Al (Aa h))).2 (List.elem_iff.mp (Al (Aa (Aa h)))) (Al h) (ho.e S j jj _ G (Aa (Aa (Aa h)))).1)) (fun _ _ _=>rfl) (fun _ _ _=>rfl) (fun _ _ _=>rfl) (fun _ _ _ _=>rfl)
theorem bQ(o i:ME)(ho:mE FA o)(hi:mE FA i):mE FA (.sub o i):=.of (fun S j jj x G h=>by
 exact GO h fun o' i' p h=>FU id (cU (Al h) (ho.e S j jj _ G (Al (Aa h))).1 (hi.e S j jj _ G (Aa (Aa h))).1)) (fun _ _ _=>rfl) (fun _ _ _=>rfl) (fun _ _ _=>rfl) (fun _ _ _ _=>rfl)
theorem Yl(es:ME)(he:mE FA es):mE FA (.list es):=.of (fun S j jj x G h=>by
 exact S3 h fun l p h=>FU id (YX (he.l S j jj _ G h).1 (he.l S j jj _ G h).2)) (fun _ _ _=>rfl) (fun _ _ _=>rfl) (fun _ _ _=>rfl) (fun _ _ _ _=>rfl)
theorem bR(es:ME)(he:mE FA es):mE FA (.tup es):=.of (fun S j jj x G h=>by
 exact Ka h fun l k p h=>FU id (cV (he.l S j jj _ G h).1 (he.l S j jj _ G h).2)) (fun _ _ _=>rfl) (fun _ _ _=>rfl) (fun _ _ _=>rfl) (fun _ _ _ _=>rfl)
theorem Yj(es:ME)(he:mE FA es):mE FA (.dict es):=.of (fun S j jj x G h=>by
 refine S1 h fun ks vs p h=>FU id (YV ?_ (gG (Al (Aa h))) (he.d S j jj _ _ G (Aa (Aa h))).1 (he.d S j jj _ _ G (Aa (Aa h))).2.1 (he.d S j jj _ _ G (Aa (Aa h))).2.2)
 rintro rfl;exact Bb (Al h)) (fun _ _ _=>rfl) (fun _ _ _=>rfl) (fun _ _ _=>rfl) (fun _ _ _ _=>rfl)
theorem Hj{S:mm}(ha:mE FA a)(hb:mE FA b)(G:Bi S FA j)(h:Jy jj S.sc (.and a b) vs=true):S.SB .And (.and a b) vs/\S.TB .And (.and a b) vs:=
 J4 h (fun x y h=>TO (ha.e S j jj _ G (Al h)) (hb.e S j jj _ G (Aa h)) fun a1 a2 b1 b2=>⟨V1 a1 (V2 b1),Wn a2 (Wo b2)⟩)
  fun x y r h=>TO (ha.e S j jj _ G (Al h)) (hb.an S j jj _ G (Aa h)) fun a1 a2 b1 b2=>⟨V1 a1 b1,Wn a2 b2⟩
theorem bH(a b:ME)(ha:mE FA a)(hb:mE FA b):mE FA (.and a b):=by
 refine⟨fun S j jj x G h=>?_,fun S j jj vs G h=>Hj ha hb G h,fun _ _ _ _ _ h=>Bb h,fun _ _ _ _ _ h=>Bb h,fun _ _ _ _ _ _ h=>Bb h⟩
 refine Lr h fun o vs p h=>?_
 induction o with
 |And=>exact⟨LH (Hj ha hb G (Aa h)).1,LL (Hj ha hb G (Aa h)).2⟩
 |Or=>exact Bb (Al h)
theorem Jx{S:mm}(ha:mE FA a)(hb:mE FA b)(G:Bi S FA j)(h:NZ jj S.sc (.or a b) vs=true):S.SB .Or (.or a b) vs/\S.TB .Or (.or a b) vs:=
 J4 h (fun x y h=>TO (ha.e S j jj _ G (Al h)) (hb.e S j jj _ G (Aa h)) fun a1 a2 b1 b2=>⟨Z3 a1 (V2 b1),Z6 a2 (Wo b2)⟩)
  fun x y r h=>TO (ha.e S j jj _ G (Al h)) (hb.or S j jj _ G (Aa h)) fun a1 a2 b1 b2=>⟨Z3 a1 b1,Z6 a2 b2⟩
theorem eU(a b:ME)(ha:mE FA a)(hb:mE FA b):mE FA (.or a b):=by
 refine⟨fun S j jj x G h=>?_,fun _ _ _ _ _ h=>Bb h,fun S j jj vs G h=>Jx ha hb G h,fun _ _ _ _ _ h=>Bb h,fun _ _ _ _ _ _ h=>Bb h⟩
 refine Lr h fun o vs p h=>?_
 induction o with
 |Or=>exact⟨LH (Jx ha hb G (Aa h)).1,LL (Jx ha hb G (Aa h)).2⟩
 |And=>exact Bb (Al h)
theorem OM{S:mm}(ha:mE FA a)(G:Bi S FA j)(h:Yp x (Iy a) (fun e=>AD jj S.sc a e)=true):S.pj a x:=by
 induction x with
 |none=>clear ha;induction a using ME.casesOn<;>first|exact Qv|exact Bb h
 |some e=>exact Qw (ha.e S j jj e G h).1
theorem Vj(o lo hi:ME)(ho:mE FA o)(pW:mE FA lo)(qf:mE FA hi):mE FA (.slice o lo hi):=.of (fun S j jj x G h=>by
 exact GO h fun o' i' p h=>Qb h fun te qw st q h=>HB h fun h=>FU id (V4 (ho.e S j jj _ G (Al h)).1 (OM pW G (Al (Aa h))) (OM qf G (Aa (Aa h))))) (fun _ _ _=>rfl) (fun _ _ _=>rfl) (fun _ _ _=>rfl) (fun _ _ _ _=>rfl)
theorem UF{S:mm}{tG:Expr->Bool}{cond:ME}(h:(match ifs with
  |[]=>Rp cond
  |c :: r=>BM r (tG c))=true) (k:∀c,tG c=true->S.ST cond c):S.oI cond ifs:=by
 induction ifs using List.casesOn with
 |nil=>
  clear k
  induction cond using ME.casesOn<;>first|exact Bb h|exact .inl ⟨rfl,congrArg ME.bool h⟩
 |cons c r=>exact AP (P:=fun r=>S.oI cond (c :: r)) h fun h=>.inr ⟨_,rfl,k c h⟩
theorem O6(ha:mE FA a)(h:AD jj sc a x=true):IM FA sc a x:=fun T j' GT nY=>(ha.e T j' jj _ GT (nY.symm▸h)).1
theorem ag(ha:mE FA a)(h:AD jj sc a x=true)(T:mm)(j':Nat)(GT:Bi T FA j')(nY:T.sc=sc):T.ST a x:=(ha.e T j' jj _ GT (nY.symm▸h)).2
theorem Yh(elt:ME)(xs:List Nat)(one:Bool)(it cond:ME)(he:mE FA elt)(hi:mE FA it)(hc:mE FA cond):mE FA (.comp elt xs one it cond):=.of (fun S j jj x G h=>by
 refine HA h fun mw gens scope p h=>B4 h fun g h=>El h fun t ow ifs h=>?_
 induction jj using Nat.casesOn with
 |zero=>exact Bb h
 |succ jj=>exact FU id (YU G (Al h) (Al (Aa h)) (Al (Aa (Aa h))) (Al (Aa (Aa (Aa (Aa h))))) (hi.e S j jj _ G (Al (Aa (Aa (Aa h))))).1 (O6 he (Al (Aa (Aa (Aa (Aa (Aa h))))))) fun T j' GT nY=>UF (Aa (Aa (Aa (Aa (Aa (Aa h)))))) fun c q=>ag hc q T j' GT nY)) (fun _ _ _=>rfl) (fun _ _ _=>rfl) (fun _ _ _=>rfl) (fun _ _ _ _=>rfl)
theorem Vi(elt:ME)(x1:Nat)(pt:ME)(x2:Nat)(nU:ME)(he:mE FA elt)(hi:mE FA pt)(pV:mE FA nU):mE FA (.nT elt x1 pt x2 nU):=.of (fun S j jj x G h=>by
 refine HA h fun mw gens scope p h=>Hz h fun g1 g2 h=>El h fun t1 i1 rE h=>El h fun t2 i2 rF h=>AP h fun h=>AP h fun h=>?_
 induction jj using Nat.casesOn with
 |zero=>exact Bb h
 |succ jj=>exact FU id (V3 G (Al h) (Al (Aa h)) (Al (Aa (Aa h))) (Al (Aa (Aa (Aa h)))) (bne_iff_ne.mp (Al (Aa (Aa (Aa (Aa h)))))) (Al (Aa (Aa (Aa (Aa (Aa (Aa h))))))) (Al (Aa (Aa (Aa (Aa (Aa (Aa (Aa (Aa h))))))))) (hi.e S j jj _ G (Al (Aa (Aa (Aa (Aa (Aa h))))))).1 (O6 pV (Al (Aa (Aa (Aa (Aa (Aa (Aa (Aa h))))))))) (O6 he (Aa (Aa (Aa (Aa (Aa (Aa (Aa (Aa (Aa h)))))))))))) (fun _ _ _=>rfl) (fun _ _ _=>rfl) (fun _ _ _=>rfl) (fun _ _ _ _=>rfl)
theorem bO:mE FA .nil:=
 ⟨fun _ _ _ _ _ h=>Bb h,fun _ _ _ _ _ h=>Bb h,fun _ _ _ _ _ h=>Bb h,fun S j jj xs G h=>AP h fun _=>⟨rfl,cW⟩,fun S j jj ks vs G h=>AP h fun h=>AP h fun _=>⟨rfl,rfl,cL⟩⟩
def dM(FA:Nat->Addr)(a:ME):Prop:=∀k v,a=.cons k v->mE FA k/\mE FA v
theorem Zz(h:a=true)(k:b=true):(a&&b)=true:=by rw[h,k];rfl
theorem Yi(a r:ME)(ha:mE FA a)(hp:dM FA a)(hr:mE FA r):mE FA (.cons a r):=by
 refine⟨fun _ _ _ _ _ h=>Bb h,fun _ _ _ _ _ h=>Bb h,fun _ _ _ _ _ h=>Bb h,fun S j jj xs G h=>?_,fun S j jj ks vs G h=>?_⟩
 ·exact A1 h fun x xs h=>⟨Zz (Al h) (hr.l S j jj xs G (Aa (Aa h))).1,Y7 (ha.e S j jj x G (Al (Aa h))).1 (hr.l S j jj xs G (Aa (Aa h))).2⟩
 ·refine A1 h fun k ks h=>A1 h fun v vs h=>BQ h fun k h=>?_
  induction a using ME.casesOn with
  |cons a b=>exact⟨Zz rfl (hr.d S j jj _ _ G (Aa h)).1,congrArg Nat.succ (hr.d S j jj _ _ G (Aa h)).2.1,YQ ((hp a b rfl).1.e S j jj _ G (Al (Al h))).1 ((hp a b rfl).2.e S j jj _ G (Aa (Al h))).1 (hr.d S j jj _ _ G (Aa h)).2.2⟩
  |_=>exact Bb (Al h)
theorem EQ(FA:Nat->Addr)(a:ME):mE FA a/\dM FA a:=by
 induction a with
 |int i=>exact⟨bL i,fun _ _ h=>nomatch h⟩
 |str s=>exact⟨bP s,fun _ _ h=>nomatch h⟩
 |bool b=>exact⟨Yd b,fun _ _ h=>nomatch h⟩
 |none=>exact⟨Yn,fun _ _ h=>nomatch h⟩
 |lW x=>exact⟨bN x,fun _ _ h=>nomatch h⟩
 |lX x=>exact⟨Yk x,fun _ _ h=>nomatch h⟩
 |bin op a b ha hb=>exact⟨bI op a b ha.1 hb.1,fun _ _ h=>nomatch h⟩
 |un op a ha=>exact⟨eW op a ha.1,fun _ _ h=>nomatch h⟩
 |and a b ha hb=>exact⟨bH a b ha.1 hb.1,fun _ _ h=>nomatch h⟩
 |or a b ha hb=>exact⟨eU a b ha.1 hb.1,fun _ _ h=>nomatch h⟩
 |cmp a op b ha hb=>exact⟨bK a op b ha.1 hb.1,fun _ _ h=>nomatch h⟩
 |oz a o1 b o2 c ha hb hc=>exact⟨Yg a o1 b o2 c ha.1 hb.1 hc.1,fun _ _ h=>nomatch h⟩
 |ite t a b ht ha hb=>exact⟨bM t a b ht.1 ha.1 hb.1,fun _ _ h=>nomatch h⟩
 |call f as ha=>exact⟨Ye f as ha.1,fun _ _ h=>nomatch h⟩
 |blt f as ha=>exact⟨bJ f as ha.1,fun _ _ h=>nomatch h⟩
 |my o f as ho ha=>exact⟨Ym o f as ho.1 ha.1,fun _ _ h=>nomatch h⟩
 |attr o a ho=>exact⟨Yc o a ho.1,fun _ _ h=>nomatch h⟩
 |sub o i ho hi=>exact⟨bQ o i ho.1 hi.1,fun _ _ h=>nomatch h⟩
 |slice o lo hi ho pW qf=>exact⟨Vj o lo hi ho.1 pW.1 qf.1,fun _ _ h=>nomatch h⟩
 |list es he=>exact⟨Yl es he.1,fun _ _ h=>nomatch h⟩
 |tup es he=>exact⟨bR es he.1,fun _ _ h=>nomatch h⟩
 |dict es he=>exact⟨Yj es he.1,fun _ _ h=>nomatch h⟩
 |comp elt xs one it cond he hi hc=>exact⟨Yh elt xs one it cond he.1 hi.1 hc.1,fun _ _ h=>nomatch h⟩
 |nT elt x1 pt x2 nU he hi pV=>exact⟨Vi elt x1 pt x2 nU he.1 hi.1 pV.1,fun _ _ h=>nomatch h⟩
 |nil=>exact⟨bO,fun _ _ h=>nomatch h⟩
 |cons a r ha hr=>exact⟨Yi a r ha.1 ha.2 hr.1,fun _ _ h=>by cases h;exact⟨ha.1,hr.1⟩⟩
end
section
variable{base:Heap}{K:Frag}{e:Env}{m:Str->Option Value}{fr:List n9}{env:An}{lg:Lg}{μ:MH}{h h':Heap}
open Classical in
noncomputable def Lg.m5(lg:Lg)(F:List Addr)(h':Heap):Lg:={lg with led:=fun a=>if a∈F/\lg.led a≠none then h'.get? a else lg.led a}
theorem Inv.slots(I:Inv base K e m fr env lg μ h){F:List Addr}(hF:∀a∈F,a=e.locals\/∃f∈fr,a=f.env.locals)(k:∀b o,b∉F->(lg.led b≠none\/base.get? b≠none)->h.get? b=some o->h'.get? b=some o)
  (sl:∀b o,b∈F->h.get? b=some o->∃s,h'.get? b=some {o with slots:=s}) (kL:∀o,e.locals∉F->h.get? e.locals=some o->h'.get? e.locals=some o) :
  ∃lY,Inv base K e m fr env lY μ h'/\Ext lg lY/\(∀b,lg.led b=none->lY.led b=none)/\lY.mu=lg.mu:=by
 have tg:∀a∈F,∀o,lg.led a=some o->∃es ep,o.data=.dict es ep:=fun a ha o q=>by
  rcases hF a ha with rfl|⟨f,hf,rfl⟩
  ·exact AM I.mG q
  ·obtain⟨⟨p,a1,es,ep,d,_⟩,_⟩:=I.frames f hf
   obtain rfl:=same a1 q;exact⟨es,ep,d⟩
 have same:∀a o,lg.led a=some o->(∀es ep,o.data≠.dict es ep)->(lg.m5 F h').led a=some o:=fun a o q nd=>by
  unfold Lg.m5;dsimp only
  rw[iH];exact q
  intro z
  obtain⟨es,ep,d⟩:=tg a z.1 o q
  exact nd es ep d
 have rd:∀{o:Obj},Da o->∀es ep,o.data≠.dict es ep:=fun⟨v,c⟩ es ep d=>by cases d.symm.trans c
 have off:∀a o,a∉F->lg.led a=some o->(lg.m5 F h').led a=some o:=fun a o n q=>by
  unfold Lg.m5;dsimp only;exact(iH fun z=>n z.1).trans (q)
 have x:Ext lg (lg.m5 F h'):=by
  refine⟨fun a o i q=>same a o q i.2.1,fun a o c q=>⟨o,c,same a o q fun es ep d=>?_⟩,fun _ _ q=>q⟩
  obtain⟨v,c⟩:=c;rw[d]at c;exact nomatch c
 have on:∀a o,a∈F->lg.led a=some o->∃s,h'.get? a=some {o with slots:=s}/\(lg.m5 F h').led a=some {o with slots:=s}:=fun a o ha q=>by
  obtain⟨s,g⟩:=sl a o ha (I.led _ _ q).1
  refine⟨s,g,?_⟩
  unfold Lg.m5;dsimp only;rw[iI ⟨ha,by refine q.symm▸?_;simp⟩];exact g
 refine⟨lg.m5 F h',⟨fun b o q=>?_,?_,I.nF,?_,fun b p q=>?_,fun f hf=>?_,I.dist,I.apart,fun y v q ss=>(I.vars y v q ss).mono x fun a o c z=>?_,I.heap.len,I.heap.nodup,fun n p q=>?_⟩,x,fun b q=>?_,rfl⟩
 ·refine k b o (fun hb=>?_) (.inr (by refine q.symm▸?_;exact nofun)) (I.old b o q)
  rcases hF b hb with rfl|⟨f,hf,rfl⟩
  ·exact AM I.nF q
  ·obtain⟨⟨p,a1,_⟩,_⟩:=I.frames f hf
   exact AM ((I.led _ _ a1).2) q
 ·obtain⟨on',es,ep,q1,q2,q3⟩:=I.ns
  by_cases hb:e.locals∈F
  ·obtain⟨s,g⟩:=sl _ _ hb q1
   exact⟨_,es,ep,g,q2,q3⟩
  ·exact⟨on',es,ep,kL _ hb q1,q2,q3⟩
 ·unfold Lg.m5;dsimp only;exact(iH fun z=>z.2 I.mG).trans (I.mG)
 ·cases q0:lg.led b with
  |none=>unfold Lg.m5 at q;dsimp only at q;(rw[iH fun z=>z.2 q0]at q;replace q:=q0▸q);exact Ao q
  |some o=>
   by_cases hb:b∈F
   ·obtain⟨s,g,l⟩:=on b o hb q0
    replace q:=l▸q;obtain rfl:=Option.some.inj q
    exact⟨g,(I.led _ _ q0).2⟩
   ·replace q:=(off b o hb q0)▸q;cases Option.some.inj q
    exact⟨k b p hb (.inl (by refine q0.symm▸?_;simp)) (I.led _ _ q0).1,(I.led _ _ q0).2⟩
 ·obtain⟨⟨p,a1,es,ep,d,r⟩,a3⟩:=I.frames f hf
  refine⟨?_,fun c o q=>⟨same _ _ (a3 c o q).1 (rd (a3 c o q).2),(a3 c o q).2⟩⟩
  ·by_cases hb:f.env.locals∈F
   ·obtain⟨s,g,l⟩:=on _ p hb a1
    exact⟨_,l,es,ep,d,r⟩
   ·exact⟨p,off _ p hb a1,es,ep,d,r⟩
 ·refine same a o z fun es ep d=>?_
  obtain⟨v,cc⟩:=c;rw[d]at cc;cases cc
 ·obtain⟨a',d,a1,a2⟩:=I.heap.each n p q
  refine⟨a',d,a1,a2.mono x fun ob z=>off _ _ (fun hb=>?_) z⟩
  rcases hF d hb with rfl|⟨f,hf,rfl⟩
  ·exact AM I.mG z
  ·exact I.apart f hf (a',_) (jm a1) rfl
 ·unfold Lg.m5;dsimp only;exact(iH fun z=>z.2 q).trans (q)
end
def DU(A:Around)(e:Env)(fr:List n9):Prop:=
 ∃outer,A.frames=some (e :: outer)/\∀x∈e :: outer,(x=e\/∃f∈fr,f.env=x)/\x.frame=some x.locals/\x.scope.kind≠.module
theorem DU.qF{e:Env}(h:DU A e fr):O3 A e fr:=let⟨_,a,b⟩:=h;⟨_,a,b⟩
section
variable{S:mm}{m:Str->Option Value}{env:An}{lg:Lg}{μ:MH}{h:Heap}
theorem SA(I:S.I m env lg μ h)(l:List Env):(∀x∈l,(x=S.e\/∃f∈S.fr,f.env=x)/\x.frame=some x.locals/\x.scope.kind≠.module)->h.FunFrames {} l:=by
 induction l with
 |nil=>exact fun _=>trivial
 |cons x l ih=>
  intro hx
  have h1:=(hx x (.head _)).1;have h2:=(hx x (.head _)).2.1;have h3:=(hx x (.head _)).2.2
  refine⟨h3,⟨x.locals,?_⟩,ih fun y hy=>hx y (.tail _ hy)⟩
  have none_:({}:Heap).get? x.locals=none:=by rfl
  rcases h1 with rfl|⟨f,hf,rfl⟩
  ·obtain⟨o,es,ep,q1,q2,_⟩:=I.ns
   exact⟨o,h2,none_,q1,fun vs d=>nomatch (q2.symm.trans d)⟩
  ·obtain⟨⟨o,a1,es,ep,d,_⟩,_⟩:=I.frames f hf
   exact⟨o,h2,none_,(I.led _ _ a1).1,fun vs d'=>nomatch (d.symm.trans d')⟩
end
structure TA(base:Heap)(K:Frag)(lg:Lg)(h:Heap)(L a:Addr)(r:Nat)(o:Obj)(vs:Array Value):Prop where
 base:base.get? a=none
 led:lg.led a=none
 lW:a≠L
 at_:h.get? a=some o
 lo:1<=r % 10
 hi:r % 10<=3
 cls:∃C,E7 K (r % 10) C/\o.cls=.ref C
 data:o.data=.fields vs
 size:2<vs.size
 ctx:r<10->vs[2]?=some .none
theorem FM.iff{base:Heap}{K:Frag}{lg:Lg}{h:Heap}{L a:Addr}{r:Nat}:FM base K lg h L a r↔∃o vs,TA base K lg h L a r o vs/\Zy base lg h L a vs:=by
 constructor
 ·rintro⟨a1,a2,a3,o,vs,C,b1,b2,b3,b4,b5,b6,b7,b8,b9⟩
  exact⟨o,vs,⟨a1,a2,a3,b1,b2,b3,⟨C,b4,b5⟩,b6,b7,b8⟩,b9⟩
 ·rintro⟨o,vs,⟨a1,a2,a3,b1,b2,b3,⟨C,b4,b5⟩,b6,b7,b8⟩,b9⟩
  exact⟨a1,a2,a3,o,vs,C,b1,b2,b3,b4,b5,b6,b7,b8,b9⟩
inductive Nq(base:Heap)(K:Frag)(lg:Lg)(h:Heap)(L a:Addr)(r:Nat):Prop
 |mk (o:Obj) (vs:Array Value) (O:TA base K lg h L a r o vs) (t:uc base lg h L a vs)
theorem Nq.at{base:Heap}{K:Frag}{lg:Lg}{h:Heap}{L a:Addr}{r:Nat}(x:Nq base K lg h L a r):FM base K lg h L a r:=let⟨o,vs,a,b⟩:=x;FM.iff.mpr ⟨o,vs,a,.inr b⟩
section
variable{S:mm}{m:Str->Option Value}{env:An}{lg:Lg}{μ:MH}{s:Shared}{E:Value->Shared->Prop}{a:Addr}{r:Nat}
theorem RX{oT:Obj}{ts:Array Value}{x:Value}(I:S.I m env lg μ s.heap)(O:TA S.base S.K lg s.heap S.e.locals a r o vs)(h1:vs[1]?=some (.ref T))(bT:S.base.get? T=none)(lT:lg.led T=none)(Ta:T≠a)(TL:T≠S.e.locals)
  (gT:s.heap.get? T=some oT) (dT:oT.data=.fields ts) (hz:3<ts.size) {Q:Unit->Shared->Prop}
  (h:∀h',S.I m env lg μ h'->TA S.base S.K lg h' S.e.locals a r o vs->uc S.base lg h' S.e.locals a vs->(∀b p,b≠T->s.heap.get? b=some p->h'.get? b=some p)->Q () {s with heap:=h'}):wpAny S.M S.A (setField (.ref T) 3 x) Q E s:=by
 refine jx gT dT hz ?_
 have keep:∀b p,b≠T->s.heap.get? b=some p->(s.heap.update T (Obj.mapFields (·.setIfInBounds 3 x))).get? b=some p:=fun b p n q=>(ii _ _ (iJ n)).trans q
 have hT':=iq (Obj.mapFields (·.setIfInBounds 3 x)) gT (kj (jv dT _))
 refine h _ (I.keepsBut bT lT (iJ TL) keep) {O with at_:=keep a o (iJ Ta) O.at_} ⟨T,_,_,h1,bT,lT,Ta,TL,hT',jv dT _,by simpa using hz⟩ keep
theorem Ef{f:Option Addr}{Q:Unit->Shared->Prop}(I:S.I m env lg μ s.heap)(x:Nq S.base S.K lg s.heap S.e.locals a r)
  (h:∀h',S.I m env lg μ h'->Nq S.base S.K lg h' S.e.locals a r->Q () {s with heap:=h'}):wpAny S.M S.A (setFlight (.ref a) f) Q E s:=by
 obtain⟨o,vs,O,T,oT,ts,h1,bT,lT,Ta,TL,gT,dT,hz⟩:=x
 refine gw (iw O.at_ O.data h1 ?_)
 exact RX I O h1 bT lT Ta TL gT dT hz fun h' I' O' t _=>h h' I' ⟨o,vs,O',t⟩
theorem N7{head:Value}{qH:Bool}{Q:Unit->Shared->Prop}(F:DU S.A S.e S.fr)(I:S.I m env lg μ s.heap)(O:TA S.base S.K lg s.heap S.e.locals a r o vs)
  (h:∀h' lY,S.I m env lY μ h'->Ext lg lY->lY.mu=lg.mu->Nq S.base S.K lY h' S.e.locals a r->Q () {s with heap:=h'}) :
  wpAny S.M S.A (do let x <- frameOf S.e;let pl <- entryPlaceOf S.e.locals qH;let b <- EntryCells.newEntry head x .none (rawInt S.e.locals) .none pl;setField (.ref a) 1 b) Q E s:=by
 obtain⟨outer,tM,hx⟩:=F
 have hf:=(hx S.e (.head _)).2.1
 have hl:=SA I (S.e :: outer) hx
 have mem:∀b∈(S.e :: outer).filterMap (·.frame),b=S.e.locals\/∃f∈S.fr,b=f.env.locals:=fun b hb=>by
  obtain⟨y,hy,e⟩:=List.mem_filterMap.mp hb
  have h1:=(hx y hy).1;have h2:=(hx y hy).2.1
  obtain rfl:=same h2 e
  rcases h1 with rfl|⟨f,hf,rfl⟩
  ·exact .inl rfl
  ·exact .inr ⟨f,hf,rfl⟩
 have naF:a∉(S.e :: outer).filterMap (·.frame):=fun hm=>by
  rcases mem a hm with z|⟨f,hf,z⟩
  ·exact O.lW z
  ·obtain⟨⟨p,a1,_⟩,_⟩:=I.frames f hf
   have:=O.led;(rw[z]at this;replace this:=a1▸this);exact Rz this
 refine gw (wpAny_frameOf_fun tM hl hf fun h₁ qJ=>?_)
 refine gw (wpAny_entryPlaceOf fun pl hpl=>?_)
 refine gw (kK ?_ (hpl.sizeOk5 _ _ _ _ _))
 have he₁:h₁.get? a=some o:=(qJ.2.1 a naF).trans O.at_
 generalize sV:({cls:=.type "traceback",dict:=none,data:=.fields ([head,.ref S.e.locals,.none,rawInt S.e.locals,.none]++(if pl.isEmpty then List.replicate 6 Value.none else pl)).toArray}:Obj)=ob
 have tK:=gF (h:=h₁) ob he₁
 refine jx tK O.data (iu (by decide) O.size) ?_
 have hTe:h₁.objs.size≠a:=jN (g7 he₁)
 have hd₃:=jv O.data (·.setIfInBounds 1 (Value.ref h₁.objs.size))
 have he₃:=iq (Obj.mapFields (·.setIfInBounds 1 (Value.ref h₁.objs.size))) tK (kj hd₃)
 have hT₃:=(ii (h₁.push ob) (Obj.mapFields (·.setIfInBounds 1 (Value.ref h₁.objs.size))) (iJ hTe)).trans (hM h₁ (by refine sV▸?_;rfl))
 have oQ:∀b p,b≠a->h₁.get? b=some p->((h₁.push ob).update a (Obj.mapFields (·.setIfInBounds 1 (Value.ref h₁.objs.size)))).get? b=some p:=fun b p n q=>
  (ii _ _ (iJ n)).trans (gF _ q)
 have vl:∀b,(lg.led b≠none\/S.base.get? b≠none)->b≠a:=fun b q z=>by
  rcases q with q|q
  ·exact q (z▸O.led)
  ·exact q (z▸O.base)
 obtain⟨lY,I',x',n',rN⟩:=I.slots (h':=(h₁.push ob).update a (Obj.mapFields (·.setIfInBounds 1 (Value.ref h₁.objs.size)))) (F:=(S.e :: outer).filterMap (·.frame)) mem
  (fun b p nb tr q=>oQ b p (vl b tr) ((qJ.2.1 b nb).trans q))
  (fun b p hb q=>by
   obtain⟨sl,g⟩:=qJ.2.2 b p q
   exact⟨sl,oQ b _ (fun z=>naF (z▸hb)) g⟩)
  (fun p nb q=>oQ _ p (iJ O.lW) ((qJ.2.1 _ nb).trans q))
 have sz:h₁.objs.size=s.heap.objs.size:=qJ.1
 have lT:lg.led h₁.objs.size=none:=by refine sz.symm▸?_;exact I.fresh
 have bT:S.base.get? h₁.objs.size=none:=by refine sz.symm▸?_;exact I.nJ (Bl _)
 have tL:h₁.objs.size≠S.e.locals:=by
  obtain⟨on,g,_⟩:=H6.of I.ns
  have:=g7 g
  refine sz.symm▸?_;exact jN this
 refine h _ lY I' x' rN ⟨_,_,⟨O.base,n' _ O.led,O.lW,he₃,O.lo,O.hi,?_,hd₃,by simpa using O.size,fun hr=>?_⟩,h₁.objs.size,ob,_,?_,bT,n' _ lT,hTe,tL,hT₃,by exact congrArg _ sV.symm,?_⟩
 ·obtain⟨C,c1,c2⟩:=O.cls
  exact⟨C,c1,(Obj.cls_mapFields ..).trans c2⟩
 ·have:=O.ctx hr
  simpa using this
 ·have:=O.size
  exact Array.getElem?_setIfInBounds_self_of_lt (by exact mO (mn _) (.add (.num 1) (.num 1)) mi (.add (.num 2) (.num 1)) mi rfl this)
 ·simp only[List.size_toArray,gx,gQ,List.length_nil];exact pZ (mn _) (.add (.num 3) (.num 1)) (.add (.add (.add (.add (.add (.add (.num 0) (.num 1)) (.num 1)) (.num 1)) (.num 1)) (.num 1)) (.var 0)) rfl
theorem IC{Q:Unit->Shared->Prop}(F:DU S.A S.e S.fr)(I:S.I m env lg μ s.heap)(x:FM S.base S.K lg s.heap S.e.locals a r)
  (h:∀h' lY,S.I m env lY μ h'->Ext lg lY->Nq S.base S.K lY h' S.e.locals a r->Q () {s with heap:=h'}):wpAny S.M S.A (noteFrame (.ref a) S.e) Q E s:=by
 obtain⟨o,vs,O,t⟩:=FM.iff.mp x
 obtain⟨outer,tM,hx⟩:=id F
 have hf:=(hx S.e (.head _)).2.1
 unfold noteFrame
 simp only[hf]
 rcases t with h1|⟨T,oT,ts,h1,bT,lT,Ta,TL,gT,dT,hz⟩
 ·refine gw (iw O.at_ O.data h1 ?_)
  exact N7 F I O fun h' lY I' x' _ e'=>h h' lY I' x' e'
 ·refine gw (iw O.at_ O.data h1 ?_)
  have h3:ts[3]?=some ts[3]:=by simp[hz]
  refine gw (iw gT dT h3 ?_)
  by_cases q:(ts[3]==rawInt S.e.locals)=true
  ·rw[iI q]
   exact gN (h s.heap lg I (Ext.refl _) ⟨o,vs,O,T,oT,ts,h1,bT,lT,Ta,TL,gT,dT,hz⟩)
  ·rw[iH q]
   refine gw (RX I O h1 bT lT Ta TL gT dT hz fun h' I' O' t' _=>?_)
   exact N7 (s:={s with heap:=h'}) F I' O' fun oV lY I'' x' _ e'=>h oV lY I'' x' e'
end
def FlR(base:Heap)(lg:Lg):KY->Flow->Prop
 |.next,.next=>True
 |.cont,.cont=>True
 |.ret v,.ret w=>Aw base lg v w
 |_,_=>False
inductive PS(S:mm)(lg:Lg)(s:Shared)(Q:Au)(fl:Flow)(s':Shared):Prop
 |mk (h':Heap) (tk:Nat) (lY:Lg) (μ':MH) (m':Str->Option Value) (env':An) (mf:KY) (e:s'={s with heap:=h',toks:=tk}) (I:S.I m' env' lY μ' h') (x:Ext lg lY) (f:FlR S.base lY mf fl) (q:Q mf env' μ')
inductive ES(S:mm)(lg:Lg)(s:Shared)(X:As)(v:Value)(s':Shared):Prop
 |mk (h':Heap) (tk:Nat) (lY:Lg) (μ':MH) (m':Str->Option Value) (env':An) (a:Addr) (r:Nat) (e:s'={s with heap:=h',toks:=tk}) (I:S.I m' env' lY μ' h') (x:Ext lg lY) (v:v=.ref a) (ex:FM S.base S.K lY h' S.e.locals a r) (q:X r μ')
theorem ES.of{S:mm}{m:Str->Option Value}{X:As}(h:S.X m env lg s X v s'):ES S lg s X v s':=by
 obtain⟨h',tk,lY,μ',a,r,z1,z2,z3,z4,z5,z6⟩:=h
 exact⟨h',tk,lY,μ',m,env,a,r,z1,z2,z3,z4,z5,z6⟩
theorem PS.trans{h':Heap}{tk:Nat}{Q:Au}{fl:Flow}{s':Shared}(x:Ext lg lY)(h:PS S lY {s with heap:=h',toks:=tk} Q fl s'):PS S lg s Q fl s':=by
 obtain⟨oV,rQ,py,oj,m',env',mf,rfl,I,y,z,w⟩:=h
 exact⟨oV,rQ,py,oj,m',env',mf,rfl,I,x.trans y,z,w⟩
theorem ES.trans{h':Heap}{tk:Nat}{X:As}{v:Value}{s':Shared}(x:Ext lg lY)(h:ES S lY {s with heap:=h',toks:=tk} X v s'):ES S lg s X v s':=by
 obtain⟨oV,rQ,py,oj,m',env',a,r,rfl,I,y,z,w,u⟩:=h
 exact⟨oV,rQ,py,oj,m',env',a,r,rfl,I,x.trans y,z,w,u⟩
def mm.Runs(S:mm)(t:Sem Flow)(W:Au->As->An->MH->Prop):Prop:=
 ∀m env lg μ Q X,W Q X env μ->∀(s:Shared) (E:Value->Shared->Prop),S.I m env lg μ s.heap->S.H lg->(∀v s',ES S lg s X v s'->E v s')->wpAny S.M S.A t (PS S lg s Q) E s
structure B7(S:mm)(FA:Nat->Addr)(Φs:Bool->Az)(hd:Bool):Prop where
 good:Bi S FA 2
 ve:S.Φ=Φs hd
 head:DU S.A S.e S.fr
 none:hd=false->S.A.handled=none
theorem mm.n8.mV{S:mm}{m:Str->Option Value}{env:An}{lg:Lg}{μ:MH}{α:Type}{t:Sem α}{P:Lg->MH->α->Prop}{X:As}{s:Shared}{E:Value->Shared->Prop}(d:S.n8 t m env lg μ P X)
  (I:S.I m env lg μ s.heap) (H:S.H lg) (hX:∀v s',ES S lg s X v s'->E v s') {k:α->Shared->Prop}
  (h:∀a h1 mS mB μ1,Ext lg mB->S.I m env mB μ1 h1->S.H mB->P mB μ1 a->(∀Q fl s',PS S mB {s with heap:=h1,toks:=mS} Q fl s'->PS S lg s Q fl s')->
   (∀v s',ES S mB {s with heap:=h1,toks:=mS} X v s'->E v s')->k a {s with heap:=h1,toks:=mS}):wpAny S.M S.A t k E s:=by
 refine gI (d s E I H fun v s' z=>hX v s' (.of z)) (fun a s₁ hp=>?_) fun _ _ z=>z
 obtain⟨h',tk,qz,μ₁,rfl,I₁,x,p⟩:=hp
 exact h a h' tk qz μ₁ x I₁ (H.mono x) p (fun Q fl s' z=>z.trans x) (fun v s' z=>hX v s' (z.trans x))
theorem PS.next{S:mm}{tk:Nat}{Q:Au}{m':Str->Option Value}(I:S.I m' env' lY μ' h')(x:Ext lg lY)(q:Q .next env' μ'):PS S lg s Q .next {s with heap:=h',toks:=tk}:=
 ⟨h',tk,lY,μ',m',env',.next,rfl,I,x,trivial,q⟩
theorem PS.stored{Q:Au}(h:IR S env' lg μ s s')(q:Q .next env' μ):PS S lg s Q .next s':=by
 obtain⟨h',tk,lY,m',rfl,I,x,_⟩:=h
 exact .next I x q
section
variable{S:mm}{FA:Nat->Addr}{Φs:Bool->Az}{hd:Bool}
theorem B7.se(G:B7 S FA Φs hd)(h:AD 2 S.sc a x=true):∀m env lg μ Q X,we lX (Φs hd) env a Q X μ->S.n8 (eval x S.e) m env lg μ (PV S.base Q) X:=by
 have:=((EQ FA a).1.e S 2 2 x G.good h).1
 unfold mm.SE at this
 rwa [G.ve]at this
theorem B7.st(G:B7 S FA Φs hd)(h:AD 2 S.sc a x=true):∀m env lg μ Q X,wt lX (Φs hd) env a Q X μ->S.n8 (isTrue x S.e (eval x S.e)) m env lg μ (PB Q) X:=by
 have:=((EQ FA a).1.e S 2 2 x G.good h).2
 unfold mm.ST at this
 rwa [G.ve]at this
theorem fD:S.Runs (execs [] S.e) (ws lX Φs hd .skip):=by
 intro m env lg μ Q X h s E I H hX
 exact kg ⟨s.heap,s.toks,lg,μ,m,env,.next,rfl,I,Ext.refl _,trivial,h⟩
theorem cF:S.Runs (exec (.Pass pos) S.e) (ws lX Φs hd .skip):=by
 intro m env lg μ Q X h s E I H hX
 exact wpAny_Pass ⟨s.heap,s.toks,lg,μ,m,env,.next,rfl,I,Ext.refl _,trivial,h⟩
theorem cD:S.Runs (exec (.Continue pos) S.e) (ws lX Φs hd .cont):=by
 intro m env lg μ Q X h s E I H hX
 exact wpAny_Continue ⟨s.heap,s.toks,lg,μ,m,env,.cont,rfl,I,Ext.refl _,trivial,h⟩
theorem cC{a b:MS}{st:Stmt}{rest:List Stmt}(ha:S.Runs (exec st S.e) (ws lX Φs hd a))(hb:S.Runs (execs rest S.e) (ws lX Φs hd b)):S.Runs (execs (st :: rest) S.e) (ws lX Φs hd (.seq a b)):=by
 intro m env lg μ Q X h s E I H hX
 refine js (gI (ha _ _ _ _ _ _ h s E I H hX) (fun fl s1 z=>?_) fun _ _ e=>e)
 obtain⟨h1,mS,mB,μ1,m1,pL,mf,rfl,I1,x1,f,q⟩:=z
 induction mf with
 |next=>
  induction fl using Flow.casesOn<;>first|exact f.elim|skip
  exact gI (hb _ _ _ _ _ _ q {s with heap:=h1,toks:=mS} E I1 (H.mono x1) fun v s' z=>hX v s' (z.trans x1)) (fun _ _ z=>z.trans x1) fun _ _ e=>e
 |cont=>
  induction fl using Flow.casesOn<;>first|exact f.elim|skip
  exact⟨h1,mS,mB,μ1,m1,pL,.cont,rfl,I1,x1,trivial,q⟩
 |ret v=>
  induction fl using Flow.casesOn<;>first|exact f.elim|skip
  exact⟨h1,mS,mB,μ1,m1,pL,.ret v,rfl,I1,x1,f,q⟩
theorem fE{e:ME}(G:B7 S FA Φs hd)(he:AD 2 S.sc e x=true):S.Runs (exec (.Return (some x) pos) S.e) (ws lX Φs hd (.ret e)):=by
 intro m env lg μ Q X h s E I H hX
 refine kM (gI (G.se he _ _ _ _ _ _ h s E I H fun v s' z=>hX v s' (.of z)) (fun v s1 z=>?_) fun _ _ e=>e)
 obtain⟨h1,mS,mB,μ1,rfl,I1,x1,uv,ru,q⟩:=z
 exact⟨h1,mS,mB,μ1,m,env,.ret uv,rfl,I1,x1,ru,q⟩
theorem cG:S.Runs (exec (.Return none pos) S.e) (ws lX Φs hd (.ret .none)):=by
 intro m env lg μ Q X h s E I H hX
 exact wpAny_Return_none ⟨s.heap,s.toks,lg,μ,m,env,.ret .none,rfl,I,Ext.refl _,.none,h⟩
theorem J1(h:FB x=true)(t:Option Expr)(line:Nat)(env:Env):swapsWith x t line env=pure false:=by
 induction x using Expr.casesOn<;>first|rfl|exact nomatch h
theorem fB{t:ME}{a b:MS}{t':Expr}{a' b':List Stmt}{pos:Pos}(G:B7 S FA Φs hd)(ht:AD 2 S.sc t t'=true)(ha:S.Runs (execs a' S.e) (ws lX Φs hd a))(hb:S.Runs (execs b' S.e) (ws lX Φs hd b)) :
  S.Runs (exec (.If t' a' b' pos) S.e) (ws lX Φs hd (.ite t a b)):=by
 intro m env lg μ Q X h s E I H hX
 refine wpAny_If ((G.st ht _ _ _ _ _ _ h).mV I H hX fun u h1 mS mB μ1 x1 I1 H1 p1 k1 mJ=>?_)
 induction u with
 |true=>exact gI (ha _ _ _ _ _ _ p1 _ E I1 H1 mJ) (fun _ _ z=>k1 _ _ _ z) fun _ _ e=>e
 |false=>exact gI (hb _ _ _ _ _ _ p1 _ E I1 H1 mJ) (fun _ _ z=>k1 _ _ _ z) fun _ _ e=>e
theorem cE{e:ME}{x:Expr}{pos:Pos}(G:B7 S FA Φs hd)(he:AD 2 S.sc e x=true)(hc:FB x=true):S.Runs (exec (.Expr x pos) S.e) (ws lX Φs hd (.expr e)):=by
 intro m env lg μ Q X h s E I H hX
 refine wpAny_Expr_any ((G.se he _ _ _ _ _ _ h).mV I H hX fun u h1 mS mB μ1 x1 I1 H1 p1 k1 mJ=>?_) (by unfold interactive;refine G.good.env.kind.symm▸?_;rfl) (J1 hc _ _ _)
 obtain⟨uv,ru,q⟩:=p1
 exact .next I1 x1 q
theorem Bi.toS(G:Bi S FA j):Bi S FA j:=G
theorem Dl{pos:Pos}{Q:Flow->Shared->Prop}{E:Value->Shared->Prop}(hs:swapsWith value (some t) pos.line S.e=pure false)(hw:swappedStores [t] value S.e=pure none)(uV:∀e' p',t≠.Starred e' p')
  (h:wpAny S.M S.A (eval value S.e) (fun v s₁=>wpAny S.M S.A (assign t S.e v) (fun _=>Q .next) E s₁) E s):wpAny S.M S.A (exec (.Assign [t] value pos) S.e) Q E s:=by
 have e1:(assignEach [t] S.e).map (·.2)=[assign t S.e]:=by
  induction t using Expr.casesOn<;>first|rfl|(exact absurd rfl (uV _ _))
 refine wpAny_Assign_stores (gI h (fun v s₁ h₁=>?_) fun _ _ x=>x) hs hw
 refine e1.symm▸?_
 exact h₁
theorem OB{x:Nat}{e:ME}{n:Str}{v:Expr}{p pos:Pos}(G:B7 S FA Φs hd)(hn:Ey x n=true)(hl:S.sc.lookup n=some .local\/S.sc.lookup n=some .cell)(he:AD 2 S.sc e v=true)(hsw:swapsWith v (some (.Name n p)) pos.line S.e=pure false) :
  S.Runs (exec (.Assign [.Name n p] v pos) S.e) (ws lX Φs hd (.assign x e)):=by
 intro m env lg μ Q X h s E I H hX
 have hx:=(AS hn).1;have hn:=(AS hn).2
 refine Dl hsw rfl (by intro _ _ z;cases z) ((G.se he _ _ _ _ _ _ h).mV I H hX fun u h1 mS mB μ1 x1 I1 H1 p1 k1 mJ=>?_)
 obtain⟨uv,ru,q⟩:=p1
 exact gI (Ci (s:={s with heap:=h1,toks:=mS}) G.good hn hx hl I1 H1 ru) (fun _ _ z=>k1 _ _ _ (.stored z q)) fun _ _ e=>e
theorem Tf{e:ME}(G:B7 S FA Φs hd)(hn:Ey a n=true)(ha:a∈EI)(ho:AD 2 S.sc o o'=true)(he:AD 2 S.sc e v=true) :
  S.Runs (exec (.Assign [.Attribute o' n p] v pos) S.e) (ws lX Φs hd (.setAttr o a e)):=by
 intro m env lg μ Q X h s E I H hX
 have hx:=(AS hn).1;have hn:=(AS hn).2
 subst hn
 refine Dl (by induction v using Expr.casesOn<;>rfl) (by induction v using Expr.casesOn<;>rfl) (by intro _ _ z;cases z) ((G.se he _ _ _ _ _ _ h).mV I H hX fun u h1 mS mB μ1 x1 I1 H1 p1 k1 mJ=>?_)
 obtain⟨uv,ru,q⟩:=p1
 refine gw (hV ((G.se ho _ _ _ _ _ _ q).mV I1 H1 mJ fun w h2 nD mU μ2 x2 I2 H2 p2 k2 pf=>?_))
 obtain⟨wv,oF,q⟩:=p2
 refine gw (hU (gw (hV (gI (Kf (s:={s with heap:=h2,toks:=nD}) G.good.base.cls G.good.base.pX I2 oF (ru.mono x2) ha q) (fun _ s3 z=>?_) fun _ _ e=>e))))
 obtain⟨h3,pG,pi,μ3,rfl,I3,x3,q⟩:=z
 exact jP (k1 _ _ _ (k2 _ _ _ (.next I3 x3 q)))
theorem VN{e:ME}(G:B7 S FA Φs hd)(ho:AD 2 S.sc o o'=true)(hi:AD 2 S.sc i i'=true)(he:AD 2 S.sc e v=true) :
  S.Runs (exec (.Assign [.Subscript o' i' p] v pos) S.e) (ws lX Φs hd (.m9 o i e)):=by
 intro m env lg μ Q X h s E I H hX
 refine Dl (by induction v using Expr.casesOn<;>rfl) (by induction v using Expr.casesOn<;>rfl) (by intro _ _ z;cases z) ((G.se he _ _ _ _ _ _ h).mV I H hX fun u h1 mS mB μ1 x1 I1 H1 p1 k1 mJ=>?_)
 obtain⟨uv,ru,q⟩:=p1
 refine gw (hV ((G.se ho _ _ _ _ _ _ q).mV I1 H1 mJ fun w h2 nD mU μ2 x2 I2 H2 p2 k2 pf=>?_))
 obtain⟨wv,oF,q⟩:=p2
 refine gw (hV ((G.se hi _ _ _ _ _ _ q).mV I2 H2 pf fun y h3 pG pi μ3 x3 I3 H3 p3 k3 sM=>?_))
 obtain⟨yv,ry,q⟩:=p3
 refine gw (hU (gw (hV (gI (LJ (s:={s with heap:=h3,toks:=pG}) I3 (oF.mono x3) ry ((ru.mono x2).mono x3) q) (fun _ s3 z=>?_) fun _ _ e=>e))))
 obtain⟨h4,tY,qN,μ4,rfl,I4,x4,q⟩:=z
 exact jP (k1 _ _ _ (k2 _ _ _ (k3 _ _ _ (.next I4 x4 q))))
theorem fz{e:ME}(G:B7 S FA Φs hd)(hn:Ey x n=true)(hl:S.sc.lookup n=some .local)(he:AD 2 S.sc e v=true) :
  S.Runs (exec (.AugAssign (.Name n p) op v pos) S.e) (ws lX Φs hd (.aug x op e)):=by
 intro m env lg μ Q X h s E I H hX
 have hx:=(AS hn).1;have hn:=(AS hn).2
 subst hn
 obtain⟨u,hu,h⟩:=Aq h
 have hk:=G.good.env.lW _ hl
 have hv:=(I.vars x u hu ⟨hx,.inl hk⟩).2
 rcases hv with⟨_,w,hw,oF⟩|⟨z,_⟩
 ·refine wpAny_AugAssign_Name (jD G.good.env.kind hk I.ns hw ?_)
  refine(G.se he _ _ _ _ _ _ h).mV I H hX fun y h1 mS mB μ1 x1 I1 H1 p1 k1 mJ=>?_
  obtain⟨yv,ry,q⟩:=p1
  refine gI (O8 (s:={s with heap:=h1,toks:=mS}) I1 (oF.mono x1) ry q) (fun r s2 z=>?_) fun _ _ e=>e
  obtain⟨h2,nD,mU,μ2,rfl,I2,x2,rv,rr,q⟩:=z
  refine gI (OQ (s:={s with heap:=h2,toks:=nD}) G.good hx (.inl hl) I2 (H1.mono x2) rr) (fun _ _ z=>?_) fun _ _ e=>e
  exact k1 _ _ _ ((PS.stored z q).trans x2)
 ·replace z:=hk▸z;exact nomatch z
theorem Te{e:ME}(G:B7 S FA Φs hd)(hn:Ey a n=true)(ha:a∈EI)(ho:AD 2 S.sc o o'=true)(he:AD 2 S.sc e v=true) :
  S.Runs (exec (.AugAssign (.Attribute o' n p) op v pos) S.e) (ws lX Φs hd (.mz o a op e)):=by
 intro m env lg μ Q X h s E I H hX
 have hx:=(AS hn).1;have hn:=(AS hn).2
 subst hn
 refine wpAny_AugAssign_AttributeAny ((G.se ho _ _ _ _ _ _ h).mV I H hX fun u h1 mS mB μ1 x1 I1 H1 p1 k1 mJ=>?_)
 obtain⟨uv,ru,q⟩:=p1
 obtain⟨w,hw,q⟩:=Aq q
 refine gI (QS (s:={s with heap:=h1,toks:=mS}) (Q:=fun z μ'=>z=w/\μ'=μ1) G.good.base.cls G.good.base.pX I1 ru ha hw ⟨rfl,rfl⟩) (fun old s2 z=>?_) fun _ _ e=>e
 obtain⟨h2,nD,mU,μ2,rfl,I2,x2,wv,oF,e1,e2⟩:=z
 subst e1 e2
 refine(G.se he _ _ _ _ _ _ q).mV (s:={s with heap:=h2,toks:=nD}) I2 (H1.mono x2) (fun v s' z=>mJ v s' (ES.trans (h':=h2) (tk:=nD) x2 z)) fun y h3 pG pi μ3 x3 I3 H3 p3 k3 sM=>?_
 obtain⟨yv,ry,q⟩:=p3
 refine gI (O8 (s:={s with heap:=h3,toks:=pG}) I3 (oF.mono x3) ry q) (fun r s4 z=>?_) fun _ _ e=>e
 obtain⟨h4,tY,qN,μ4,rfl,I4,x4,rv,rr,q⟩:=z
 refine gI (Kf (s:={s with heap:=h4,toks:=tY}) G.good.base.cls G.good.base.pX I4 (((ru.mono x2).mono x3).mono x4) rr ha q) (fun _ s5 z=>?_) fun _ _ e=>e
 obtain⟨h5,tk5,lg5,μ5,rfl,I5,x5,q⟩:=z
 exact k1 _ _ _ (PS.trans (h':=h2) (tk:=nD) x2 (k3 _ _ _ (.next I5 (x4.trans x5) q)))
theorem VM{e:ME}(G:B7 S FA Φs hd)(oY:Fz i'=true)(ho:AD 2 S.sc o o'=true)(hi:AD 2 S.sc i i'=true)(he:AD 2 S.sc e v=true) :
  S.Runs (exec (.AugAssign (.Subscript o' i' p) op v pos) S.e) (ws lX Φs hd (.mL o i op e)):=by
 intro m env lg μ Q X h s E I H hX
 refine wpAny_AugAssign_SubscriptAny ((G.se ho _ _ _ _ _ _ h).mV I H hX fun u h1 mS mB μ1 x1 I1 H1 p1 k1 mJ=>?_) (fun _ _ _=>by induction i' using Expr.casesOn<;>first|rfl|exact nomatch oY)
 obtain⟨uv,ru,q⟩:=p1
 refine(G.se hi _ _ _ _ _ _ q).mV I1 H1 mJ fun k h2 nD mU μ2 x2 I2 H2 p2 k2 pf=>?_
 obtain⟨kv,rk,q⟩:=p2
 obtain⟨w,hw,q⟩:=Aq q
 rw[IL]at hw
 refine gI (Wi (prog:=S.pg) (w:=S.w) (A:=S.A) (E:=E) (s:={s with heap:=h2,toks:=nD}) (Q:=fun z μ'=>z=w/\μ'=μ2) I2 (ru.mono x2) rk hw ⟨rfl,rfl⟩).rS (fun old s3 z=>?_) fun _ _ e=>e
 obtain⟨h3,pG,pi,μ3,rfl,I3,x3,wv,oF,e1,e2⟩:=z
 subst e1 e2
 refine(G.se he _ _ _ _ _ _ q).mV (s:={s with heap:=h3,toks:=pG}) I3 (H2.mono x3) (fun v s' z=>pf v s' (ES.trans (h':=h3) (tk:=pG) x3 z)) fun y h4 tY qN μ4 x4 I4 H4 p4 k4 hX4=>?_
 obtain⟨yv,ry,q⟩:=p4
 refine gI (O8 (s:={s with heap:=h4,toks:=tY}) I4 (oF.mono x4) ry q) (fun r s5 z=>?_) fun _ _ e=>e
 obtain⟨h5,tk5,lg5,μ5,rfl,I5,x5,rv,rr,q⟩:=z
 refine gI (LJ (s:={s with heap:=h5,toks:=tk5}) I5 ((((ru.mono x2).mono x3).mono x4).mono x5) (((rk.mono x3).mono x4).mono x5) rr q) (fun _ s6 z=>?_) fun _ _ e=>e
 obtain⟨h6,tk6,lg6,μ6,rfl,I6,x6,q⟩:=z
 exact k1 _ _ _ (k2 _ _ _ (PS.trans (h':=h3) (tk:=pG) x3 (k4 _ _ _ (.next I6 (x5.trans x6) q))))
end
section
variable{S:mm}{FA:Nat->Addr}{Φs:Bool->Az}{hd:Bool}
theorem Q1{m:Str->Option Value}{s:Shared}{E:Value->Shared->Prop}(I:S.I m env lg μ s.heap)(x:Nq S.base S.K lg s.heap S.e.locals a r)
  (h:∀h',S.I m env lg μ h'->Nq S.base S.K lg h' S.e.locals a r->E (.ref a) {s with heap:=h'}):cameBackBy S.M S.A S.e E (.ref a) s:=by
 obtain⟨o,vs,O,T,oT,ts,h1,rest⟩:=id x
 refine gw (iw O.at_ O.data h1 ?_)
 exact Ef I x h
theorem JT{X:As}{E:Value->Shared->Prop}(F:DU S.A S.e S.fr)(hX:∀v s',ES S lg0 s0 X v s'->E v s')(h:ES S lg0 s0 X v s') :
  notedBy S.M S.A S.e (fun e s'=>cameBackBy S.M S.A S.e E e s') v s':=by
 obtain⟨h',tk,lY,μ',m',env',a,r,rfl,I,x,rfl,ex,q⟩:=h
 refine IC (s:={s0 with heap:=h',toks:=tk}) F I ex fun h2 mU I2 x2 e2=>?_
 exact Q1 (s:={s0 with heap:=h2,toks:=tk}) I2 e2 fun h3 I3 e3=>hX _ _ ⟨h3,tk,mU,μ',m',env',a,r,rfl,I3,x.trans x2,rfl,e3.at,q⟩
def FW(Φs:Bool->Az)(hd:Bool)(xs:List Nat)(one:Bool)(b:MS)(X:As)(c:Option (Nat×List V))(items:List V)(Q:Au)(env:An)(μ:MH):Prop:=
 Bz c (fun v K env' μ'=>opt (AC xs one v env') fun e=>ws lX Φs hd b K X e μ') items Q env μ
theorem FW.nA{xs:List Nat}{one:Bool}{b:MS}{X:As}{c:Option (Nat×List V)}{items:List V}{Q:Au}{env:An}{μ:MH}(hw:FW Φs hd xs one b X c items Q env μ):HG c μ:=by
 induction items using List.casesOn with
 |nil=>exact(A2 hw).1
 |cons v rest=>exact(A2 hw).1
inductive FL(S:mm)(Φs:Bool->Az)(hd:Bool)(xs:List Nat)(one:Bool)(b:MS)(X:As)(items:List V)(c:Option (Nat×List V))(it:Addr)(lgA:Lg)(s0:Shared)(Q:Au)(n:Nat)(s:Shared):Prop
 |mk (h':Heap) (tk:Nat) (lY:Lg) (μ':MH) (m':Str->Option Value) (env':An) (k:Nat) (o:Obj) (e:s={s0 with heap:=h',toks:=tk}) (I:S.I m' env' lY μ' h') (H:S.H lY) (x:Ext lgA lY) (hl:lY.led it=some o) (hit:AL S.base lY items c k o) (hn:n=items.length - k) (hk:k<=items.length)
  (hw:FW Φs hd xs one b X c (items.drop k) Q env' μ')
inductive FS(S:mm)(xs:List Nat)(one:Bool)(items:List V)(c:Option (Nat×List V))(it:Addr)(lgA:Lg)(s0:Shared)(env0:An)(μ:MH)(k:Nat)(s:Shared):Prop
 |mk (v:V) (e:An) (lg:Lg) (m:Str->Option Value) (o:Obj) (h:Heap) (tk:Nat) (hv:items[k]?=some v) (he:AC xs one v env0=some e) (es:s={s0 with heap:=h,toks:=tk}) (I:S.I m e lg μ h) (H:S.H lg) (x:Ext lgA lg) (hl:lg.led it=some o) (hit:AL S.base lg items c (k+1) o)
theorem Uw{xs:List Nat}{one:Bool}{b:MS}{body:List Stmt}{it:Addr}{items:List V}{c:Option (Nat×List V)}{Q:Au}{X:As}{lgA:Lg}{s0:Shared}{E:Value->Shared->Prop}{k:Nat}{μ:MH}{env:An}{s:Shared}{T:Flow->Shared->Prop}
  (hb:S.Runs (execs body S.e) (ws lX Φs hd b)) (hX:∀v s',ES S lgA s0 X v s'->E v s') (hw:FW Φs hd xs one b X c (items.drop k) Q env μ) (hs:FS S xs one items c it lgA s0 env μ k s)
  (next:∀f s',f=.next\/f=.cont->FL S Φs hd xs one b X items c it lgA s0 Q (items.length - (k+1)) s'->k+1<=items.length->T f s') (out:∀w s',PS S lgA s0 Q (.ret w) s'->T (.ret w) s') :
  wpAny S.M S.A (execs body S.e) T E s:=by
 obtain⟨v,e,tS,m₃,o₃,h₃,tu,hv,he,rfl,I₃,H₃,x₃,sU,pq⟩:=hs
 rw[GD hv]at hw
 obtain⟨e',sP,hwb⟩:=Aq (A2 hw).2
 cases he.symm.trans sP
 have oP:=(List.getElem?_eq_some_iff.mp hv).1
 refine gI (hb m₃ e tS μ _ X hwb {s0 with heap:=h₃,toks:=tu} _ I₃ H₃ fun v s' z=>hX _ _ (z.trans x₃)) (fun fl s₄ z=>?_) fun _ _ e=>e
 clear hb hX hw hwb
 obtain⟨h₄,qA,td,μ₄,m₄,ri,mf,rfl,I₄,x₄,f,q⟩:=z
 have again:FW Φs hd xs one b X c (items.drop (k+1)) Q ri μ₄->FL S Φs hd xs one b X items c it lgA s0 Q (items.length - (k+1)) {s0 with heap:=h₄,toks:=qA}:=fun w₄=>
  ⟨h₄,qA,td,μ₄,m₄,ri,k+1,o₃,rfl,I₄,H₃.mono x₄,x₃.trans x₄,x₄.oo _ _ pq.oo.1 sU,pq.mono x₄.v,rfl,oP,w₄⟩
 induction mf with
 |next=>
  induction fl using Flow.casesOn<;>first|exact f.elim|skip
  exact next _ _ (.inl rfl) (again q) oP
 |cont=>
  induction fl using Flow.casesOn<;>first|exact f.elim|skip
  exact next _ _ (.inr rfl) (again q) oP
 |ret w=>
  induction fl using Flow.casesOn<;>first|exact f.elim|skip
  exact out _ _ ⟨h₄,qA,td,μ₄,m₄,ri,.ret w,rfl,I₄,x₃.trans x₄,f,q⟩
theorem Ux{xs:List Nat}{one:Bool}{t:Expr}{b:MS}{body:List Stmt}{it:Addr}{items:List V}{c:Option (Nat×List V)}{Q:Au}{X:As}{lgA:Lg}{s0:Shared}{E:Value->Shared->Prop}(G:B7 S FA Φs hd)(hT:E4 S.sc xs one t=true)
  (hb:S.Runs (execs body S.e) (ws lX Φs hd b)) (hA:lgA.led it=none) (hX:∀v s',ES S lgA s0 X v s'->E v s') (n:Nat) (s:Shared) (hs:FL S Φs hd xs one b X items c it lgA s0 Q n s) :
  codeAny S.M S.A (.forLoop t (.ref it) body [] S.e) (fun r s'=>match r with|.ok f=>PS S lgA s0 Q f s'|.error e=>cameBackBy S.M S.A S.e E e s') s:=by
 refine codeAny_loop' rfl (FL S Φs hd xs one b X items c it lgA s0 Q) (fun n s sL=>?_) n hs
 obtain⟨h',tk,lY,μ',m',env',k,o,rfl,I,H,xA,hl,hit,hn,hk,hw⟩:=sL
 refine lM ?_
 refine gw (hU (gw (wpAny_onRaise ?_)))
 refine gI (Nl (s:={s0 with heap:=h',toks:=tk}) (E:=fun e s'=>notedBy S.M S.A S.e (fun e s'=>cameBackBy S.M S.A S.e E e s') e s') G.good hT I H hl hit hw.nA
  (Qn:=fun s₁=>PS S lgA s0 Q .next s₁) (Qs:=fun _ s₃=>FS S xs one items c it lgA s0 env' μ' k s₃)
  (fun hle h1 mB I1 o7 x1=>?_) (fun v z hv pL ux s1 mB m1 o1 I1 H1 x1 ⟨h1,mS,e1⟩ qS qg o7=>?_) fun v hv=>?_) (fun rr s₁ h₁=>?_) fun _ _ e=>hU e
 ·replace hw:=(kf hle)▸hw
  exact .next I1 (x1 lgA xA hA) (A2 hw).2
 ·cases e1
  exact⟨v,pL,mB,m1,o1,h1,mS,hv,ux,rfl,I1,H1,x1 lgA xA hA,qS,qg⟩
 ·replace hw:=(GD hv)▸hw
  obtain⟨e,he,_⟩:=Aq (A2 hw).2
  exact⟨e,he⟩
 ·induction rr with
  |none=>exact gN (.inr ⟨rfl,codeAny_block (kg h₁)⟩)
  |some z=>
   refine gw (gI h₁ (fun _ s₂ h₂=>gw (gI h₂ (fun _ s₃ h₃=>?_) fun _ _ e=>e)) fun _ _ e=>e)
   refine gw (Uw hb (fun v s' z=>JT G.head hX z) hw h₃ (fun f s' q cl lt=>?_) fun w s' z=>gN z)
   have le:items.length - (k+1)<n:=by refine hn.symm▸?_;exact kx lt (iL k)
   rcases q with rfl|rfl
   ·exact gN (.inl ⟨rfl,_,le,cl⟩)
   ·exact gN (.inl ⟨rfl,_,le,cl⟩)
theorem fA{xs:List Nat}{one:Bool}{t ow:Expr}{it:ME}{b:MS}{body:List Stmt}{pos:Pos}(G:B7 S FA Φs hd)(hT:E4 S.sc xs one t=true)(oY:Dw ow=true)(hit:AD 2 S.sc it ow=true)(hb:S.Runs (execs body S.e) (ws lX Φs hd b)) :
  S.Runs (exec (.For t ow body [] pos) S.e) (ws lX Φs hd (.mq xs one it b)):=by
 intro m env lg μ Q X h s E I H hX
 refine wpAny_For ((G.se hit _ _ _ _ _ _ h).mV I H hX fun u h1 mS mB μ1 x1 I1 H1 p1 k1 mJ=>?_) (MR oY _)
 obtain⟨uv,ru,q⟩:=p1
 obtain⟨⟨items,c⟩,hi,hw⟩:=Aq q
 rw[Rk]at hw
 refine MC (s:={s with heap:=h1,toks:=mS}) I1 ru hi fun a o h2 mU na I2 x2 rB pN rI ke2=>?_
 refine codeAny_mono (Ux (lgA:=mB) (s0:={s with heap:=h2,toks:=mS}) (items:=items) (c:=c) (Q:=Q) (X:=X) (E:=E) (xs:=xs) (one:=one) (b:=b) G hT hb na (fun v s' z=>hX v s' ?_) (items.length - 0) _ ?_) fun r s' z=>?_
 ·exact ES.trans (h':=h1) (tk:=mS) x1 (by
   obtain⟨h',tk,lY,μ',m',env',a,r,e1,z1,z2,z3,z4,z5⟩:=z
   exact⟨h',tk,lY,μ',m',env',a,r,e1,z1,z2,z3,z4,z5⟩)
 ·refine⟨h2,mS,mU,μ1,m,env,0,o,rfl,I2,H1.mono x2,x2,rB,pN,rfl,ic _,hw⟩
 ·induction r with
  |error e=>exact z
  |ok f=>
   refine k1 Q f s' ?_
   obtain⟨h',tk,lY,μ',m',env',mf,e1,z1,z2,z3,z4⟩:=z
   exact⟨h',tk,lY,μ',m',env',mf,e1,z1,z2,z3,z4⟩
end
section
variable{S:mm}{FA:Nat->Addr}{Φs:Bool->Az}{hd:Bool}
inductive WL(S:mm)(Φs:Bool->Az)(hd:Bool)(t:ME)(b:MS)(X:As)(lg0:Lg)(s0:Shared)(Q:Au)(n:Nat)(s:Shared):Prop
 |mk (h':Heap) (tk:Nat) (lY:Lg) (μ':MH) (m':Str->Option Value) (env':An) (e:s={s0 with heap:=h',toks:=tk}) (I:S.I m' env' lY μ' h') (H:S.H lY) (x:Ext lg0 lY)
  (hw:EH (fun K env' μ'=>wt lX (Φs hd) env' t K X μ') (fun K env' μ'=>ws lX Φs hd b K X env' μ') n Q env' μ')
theorem YL(G:B7 S FA Φs hd)(ht:AD 2 S.sc t t'=true)(hb:S.Runs (execs body S.e) (ws lX Φs hd b)) :
  S.Runs (exec (.While t' body [] pos) S.e) (ws lX Φs hd (.m7 t b)):=by
 intro m env lg μ Q X h s E I H hX
 refine wpAny_While (codeAny_whileLoop (WL S Φs hd t b X lg s Q) (fun n s1 hI=>?_) 100 ⟨s.heap,s.toks,lg,μ,m,env,rfl,I,H,Ext.refl _,(LP _ _ _ _ _ _).mp h⟩)
 obtain⟨h',tk,lY,μ',m',env',rfl,I',H',x',hw⟩:=hI
 induction n using Nat.casesOn with
 |zero=>exact hw.elim
 |succ n=>
  refine gI (G.st ht m' env' lY μ' _ X hw {s with heap:=h',toks:=tk} _ I' H' fun v s' z=>JT G.head hX ((ES.of z).trans x')) (fun u s2 z=>?_) fun _ _ e=>e
  obtain⟨h2,nD,mU,μ2,rfl,I2,x2,q⟩:=z
  induction u with
  |false=>
   have q':Q .next env' μ2:=q
   exact kg (.next I2 (x'.trans x2) q')
  |true=>
   have q':=q
   refine gI (hb m' env' mU μ2 _ X q' {s with heap:=h2,toks:=nD} _ I2 (H'.mono x2) fun v s' z=>JT G.head hX (z.trans (x'.trans x2))) (fun fl s3 z=>?_) fun _ _ e=>e
   obtain⟨h3,pG,pi,μ3,m3,rh,mf,rfl,I3,x3,f,q⟩:=z
   have again:EH (fun K env' μ'=>wt lX (Φs hd) env' t K X μ') (fun K env' μ'=>ws lX Φs hd b K X env' μ') n Q rh μ3->∃k,k<n+1/\WL S Φs hd t b X lg s Q k {s with heap:=h3,toks:=pG}:=fun w=>
    ⟨n,iL n,h3,pG,pi,μ3,m3,rh,rfl,I3,((H'.mono x2).mono x3),(x'.trans x2).trans x3,w⟩
   induction mf with
   |next=>
    induction fl using Flow.casesOn<;>first|exact f.elim|skip
    exact again q
   |cont=>
    induction fl using Flow.casesOn<;>first|exact f.elim|skip
    exact again q
   |ret w=>
    induction fl using Flow.casesOn<;>first|exact f.elim|skip
    exact⟨h3,pG,pi,μ3,m3,rh,.ret w,rfl,I3,(x'.trans x2).trans x3,f,q⟩
theorem Mp{α β:Type}(f:α->Option β)(l:List α):(∃x∈l,f x=none)->(l.filterMap f).length<l.length:=by
 induction l with
 |nil=>exact fun nR=>by obtain⟨x,hx,_⟩:=nR;exact nomatch hx
 |cons a l ih=>
  intro h
  rw[iS]
  cases hf:f a with
  |none=>exact Nat.lt_succ_of_le (List.length_filterMap_le f l)
  |some b=>
   obtain⟨x,hx,e⟩:=h
   refine j3 (ih ((List.mem_cons.mp hx).elim (fun z=>?_) fun hx=>⟨x,hx,e⟩))
   exact AM (z▸e) hf
theorem Ni{e:Env}(En:QQ e sc)(h:Wr sc es v=true):swappedStores [.Tuple es k p] v e=pure none:=by
 induction v using Expr.casesOn<;>first|rfl|skip
 obtain⟨x,hx,hc⟩:=List.any_eq_true.mp h
 revert hx
 refine AV hc fun n pp hc hx=>?_
 unfold swappedStores
 dsimp only
 split
 ·rfl
 ·split
  ·rfl
  ·refine iI ?_
   rw[hZ]
   left
   rw[ie]
   refine iU (Mp _ es ⟨_,hx,?_⟩)
   have kc:=En.cell n (.inl (gM hc))
   dsimp only
   rw[iH (by rw[kc];simp)]
theorem Td{e:ME}(G:B7 S FA Φs hd)(hT:E4 S.sc xs false (.Tuple es k p)=true)(hto:Wr S.sc es v=true)(hnc:FB v=true)(he:AD 2 S.sc e v=true) :
  S.Runs (exec (.Assign [.Tuple es k p] v pos) S.e) (ws lX Φs hd (.mo xs e)):=by
 intro m env lg μ Q X h s E I H hX
 refine Dl ?_ (Ni G.good.env hto) (by intro _ _ z;cases z) ((G.se he _ _ _ _ _ _ h).mV I H hX fun u h1 mS mB μ1 x1 I1 H1 p1 k1 mJ=>?_)
 ·exact J1 hnc _ _ _
 ·obtain⟨uv,ru,q⟩:=p1
  obtain⟨env',hb,q⟩:=Aq q
  exact gI (NO (s:={s with heap:=h1,toks:=mS}) G.good hT hb I1 H1 ru) (fun _ _ z=>k1 _ _ _ (.stored z q)) fun _ _ e=>e
end
section
variable{S:mm}{FA:Nat->Addr}{Φs:Bool->Az}{hd:Bool}
@[elab_as_elim] theorem W7{P:ME->Prop}(h:AD j sc a (.ListComp mw gens scope pos)=true)
  (k:∀elt xs one it cond,AD j sc (.comp elt xs one it cond) (.ListComp mw gens scope pos)=true->P (.comp elt xs one it cond)) (k':∀elt x1 pt x2 nU,AD j sc (.nT elt x1 pt x2 nU) (.ListComp mw gens scope pos)=true->P (.nT elt x1 pt x2 nU)):P a:=by
 induction a using ME.casesOn with
 |comp elt xs one it cond=>exact k _ _ _ _ _ h
 |nT elt x1 pt x2 nU=>exact k' _ _ _ _ _ h
 |_=>with_unfolding_all exact Bb h
theorem T9{use:Option (Value->Sem Unit)}{Qf:Value->Shared->Prop}{E:Value->Shared->Prop}{m:Str->Option Value}{s:Shared}{Q:Ae}{X:As}
  (G:Bi S FA j) (hc:AD jj S.sc a (.ListComp mw gens scope pos)=true) (h:we lX S.Φ env a Q X μ) (I:S.I m env lg μ s.heap) (H:S.H lg) (hX:∀v s',S.X m env lg s X v s'->E v s')
  (qK:∀h' tk lY μ' D C r,S.I m env lY μ' h'->Ext lg lY->Q (.lW r) μ'->lY.mu[r]?=some (D,D)->lY.led C=none->S.base.get? C=none->C≠S.e.locals->(∃mC,h'.Ns C mC)->S.H lY->
   compPost S.M S.A E use Qf (.ref D) C (.ok .next) {s with heap:=h',toks:=tk}) :
  wpAny S.M S.A (comprehension (.ListComp mw gens scope pos) scope S.e (firstIterPos gens pos) (newList []) (firstAsync gens) (firstIter gens S.e) use) Qf E s:=by
 revert h
 refine W7 hc ?_ ?_
 ·intro elt xs one it cond hc h
  refine B4 hc fun g k2=>El k2 fun t ow ifs k3=>?_
  induction jj using Nat.casesOn with
  |zero=>exact Bb k3
  |succ jj=>
   obtain⟨h1,z⟩:=BV k3
   have h2:=(BV z).1;have z:=(BV z).2
   have h3:=(BV z).1;have z:=(BV z).2
   have h4:=(BV z).1;have z:=(BV z).2
   have h5:=(BV z).1;have z:=(BV z).2
   have h6:=(BV z).1;have h7:=(BV z).2
   refine Fu (use:=use) (W:=fun items c r Q' μ'=>Dq c r (fun v K μ'=>opt (AC xs one v (AG xs env)) fun e=>wt lX S.Φ e cond K (fun _ _=>False) μ') (fun v K μ'=>opt (AC xs one v (AG xs env)) fun e=>we lX S.Φ e elt K (fun _ _=>False) μ') items Q' μ')
    (Q:=Q) (X:=X) G rfl rfl rfl h1 h2 h3 ((EQ FA it).1.e S j jj _ G h4).1 h I H hX ?_ qK
   intro T items c r a D o lgA lg0 μ0 m0 Q' s0 R GT nY hA uS sY hΦ hb I0 H0 x0 na hl hi hr hw hR
   refine ZU h5 (fun T j' GT nY=>((EQ FA elt).1.e T j' jj _ GT (by rw[nY];exact h6)).1) (fun T j' GT nY=>?_) T items c r a D o lgA lg0 μ0 m0 Q' s0 R GT nY hΦ I0 H0 x0 na hl hi hr hw hR
   exact UF h7 fun c hc=>((EQ FA cond).1.e T j' jj _ GT (by refine nY.symm▸?_;exact hc)).2
 ·intro elt x1 pt x2 nU hc h
  refine Hz hc fun g1 g2 k2=>El k2 fun t1 i1 rE k3=>El k3 fun t2 i2 rF k4=>AP k4 fun k5=>AP k5 fun k6=>?_
  induction jj using Nat.casesOn with
  |zero=>exact Bb k6
  |succ jj=>
   obtain⟨h1,z⟩:=BV k6
   have h2:=(BV z).1;have z:=(BV z).2
   have h3:=(BV z).1;have z:=(BV z).2
   have h4:=(BV z).1;have z:=(BV z).2
   have h5:=(BV z).1;have z:=(BV z).2
   have h6:=(BV z).1;have z:=(BV z).2
   have h7:=(BV z).1;have z:=(BV z).2
   have h8:=(BV z).1;have z:=(BV z).2
   have h9:=(BV z).1;have sK:=(BV z).2
   refine Fu (use:=use) (xs:=[x1,x2]) (W:=fun items c r Q' μ'=>Hm c (PP S.Φ (AG [x1,x2] env) elt nU x1 x2 r) items Q' μ')
    (Q:=Q) (X:=X) G rfl rfl rfl h1 h3 h4 ((EQ FA pt).1.e S j jj _ G h6).1 h I H hX ?_ qK
   intro T items c r a D o lgA lg0 μ0 m0 Q' s0 R GT nY hA uS sY hΦ hb I0 H0 x0 na hl hi hr hw hR
   replace hw:=(hΦ).symm▸hw
   refine Kj hi (I0.led _ _ hl).1 (JC (lgA:=lgA) (env:=env) (Q:=Q') (items:=items) (c:=c) (r:=r) GT nY (bne_iff_ne.mp h5) h7 h9 h2 (fun T j' GT nY=>((EQ FA elt).1.e T j' jj _ GT (by rw[nY];exact sK)).1) (fun T j' GT nY=>((EQ FA nU).1.e T j' jj _ GT (by rw[nY];exact h8)).1) na (fun h' tk lY μ' m' env' I' x' q' r'=>hR h' tk lY μ' m' env' I' x' q' r') (items.length - 0) s0 ?_)
   exact⟨s0.heap,s0.toks,lg0,μ0,m0,_,0,o,rfl,I0,H0,fun _ _ q=>q,x0,hl,hi,hr,rfl,ic _,hw⟩
theorem Tc{e:ME}(G:B7 S FA Φs hd)(hn:Ey x n=true)(hl:S.sc.lookup n=some .local\/S.sc.lookup n=some .cell)(he:AD 2 S.sc e (.ListComp mw gens scope qE)=true) :
  S.Runs (exec (.Assign [.Name n p] (.ListComp mw gens scope qE) pos) S.e) (ws lX Φs hd (.assign x e)):=by
 obtain⟨b,hb⟩:∃b:Bool,swapsWith (.ListComp mw gens scope qE) (some (.Name n p)) pos.line S.e=pure b:=
  ⟨S.e.blockKind==.function&&S.e.kindOf n==some .local&&p.line==(Expr.ListComp mw gens scope qE).pos.line&&!(scope.names.any fun(n',k)=>n'==n&&(k==.local||k==.cell)),by rfl⟩
 induction b with
 |false=>exact OB G hn hl he hb
 |true=>
  intro m env lg μ Q X h s E I H hX
  have hx:=(AS hn).1;have hn:=(AS hn).2
  refine gw (hU ?_)
  have hs:swapsWithSole [.Name n p] (.ListComp mw gens scope qE) pos.line S.e=pure true:=hb
  refine hs.symm▸?_
  refine gw (gN ?_)
  refine gw (gw ?_)
  refine T9 G.good he (by rw[G.ve];exact h) I H (fun v s' z=>hX v s' (.of z)) ?_
  intro h' tk lY μ' D C r I' x' q hr c1 c2 c3 hC H'
  obtain⟨mC,hC⟩:=hC
  refine gI (Ci (s:={s with heap:=h',toks:=tk}) G.good hn hx hl I' H' (.lW r D D hr)) (fun _ s2 z=>?_) fun _ _ e=>e
  obtain⟨h2,nD,mU,m2,rfl,I2,x2,n2,rI⟩:=z
  obtain⟨oC,es,ep,g,dd,rr⟩:=hC
  refine⟨mC,⟨oC,es,ep,rI C oC c3 c1 g,dd,rr⟩,fun h3 uU=>?_⟩
  exact gN (gN (.next (I2.keepsBut c2 (n2 C c1) (iJ c3) fun b o nb q=>(uU.2 b nb).trans q) (x'.trans x2) q))
end
inductive Tz(K:Frag)(C:Addr)(bm:List Value):Prop
 |mk nm q N bs uF sn sub ab col dd k0 k1 k2 k3 k5 newId (h:K.lookup C=some (excClassObj nm q C N bs bm uF sn sub ab col dd k0 k1 k2 k3 k5 newId)) (b:bm.contains (.type "BaseException")=true)
structure IN(K:Frag):Prop where
 cls:∀c C,1<=c->c<=3->E7 K c C->∃bm,Tz K C bm/\∀d D,1<=d->d<=3->E7 K d D->(Value.ref C :: bm).contains (.ref D)=DW c d
set_option maxHeartbeats 2000000 in
theorem JE{E:Value->Shared->Prop}{K:Frag}{o:Obj}{s:Shared}{Q:Bool->Shared->Prop}(hK:∀b p,K.lookup b=some p->s.heap.get? b=some p)
  (hC:Tz K C bm) (hD:Tz K D bm') (he:s.heap.get? a=some o) (rx:o.cls=.ref C) (hq:Q ((Value.ref C :: bm).contains (.ref D)) s):wpAny M A (excMatches (.ref a) (.ref D)) Q E s:=by
 obtain⟨_,_,_,_,_,_,_,_,_,_,_,_,_,_,_,_,c1,_⟩:=hC
 obtain⟨_,_,_,_,_,_,_,_,_,_,_,_,_,_,_,_,d1,d2⟩:=hD
 have c1:=hK _ _ c1
 have d1:=hK _ _ d1
 have uD:(Value.ref D :: bm').contains (.type "BaseException")=true:=by rw[iG,d2,jq]
 have f:=tc_notTuple
 obtain⟨h,g,d,t,os⟩:=s
 unfold excMatches
 repeat(first|(with_reducible refine iO he ?_;refine rx.symm▸?_)|with_reducible refine iO d1 ?_|(with_reducible refine iQ d1 ?_;refine uD.symm▸?_)|with_reducible refine iQ c1 ?_|wp_step)
 cases hb:(Value.ref C :: bm).contains (.ref D)<;>(rw[hb]at hq;wp_walk;exact hq)
section
variable{base:Heap}{K:Frag}{e:Env}{m:Str->Option Value}{fr:List n9}{env:An}{lg:Lg}{μ:MH}{h:Heap}
theorem Inv.adopt(I:Inv base K e m fr env lg μ h)(hf:lg.led a=none)(hb:base.get? a=none)(nL:e.locals≠a)(g:h.get? a=some o):Inv base K e m fr env (lg.put a o) μ h:=by
 have x:Ext lg (lg.put a o):=Ext.mH o hf
 have keep:∀b p,lg.led b=some p->(lg.put a o).led b=some p:=fun b p q=>by
  rw[Lg.l8];exact q
  rintro rfl;exact AM hf q
 refine⟨I.old,I.ns,I.nF,by rw[Lg.l8 _ _ nL];exact I.mG,fun b p q=>?_,fun f pC=>?_,I.dist,I.apart,fun x' v q ss=>(I.vars x' v q ss).mono x fun b p _ z=>keep b p z,?_⟩
 ·by_cases z:b=a
  ·cases z
   rw[Lg.l9]at q
   obtain rfl:=Option.some.inj q
   exact⟨g,hb⟩
  ·rw[Lg.l8 _ _ z]at q
   exact I.led b p q
 ·obtain⟨⟨p,a1,a2⟩,a3⟩:=I.frames f pC
  exact⟨⟨p,keep _ _ a1,a2⟩,fun c o q=>⟨keep _ _ (a3 c o q).1,(a3 c o q).2⟩⟩
 ·refine⟨I.heap.len,I.heap.nodup,fun n' p q=>?_⟩
  obtain⟨a',d,a1,a2⟩:=I.heap.each n' p q
  exact⟨a',d,a1,a2.mono x fun p z=>keep _ _ z⟩
end
noncomputable def mm.under(S:mm)(a:Addr)(Φ:Az):mm:={S with A:=S.A.mark (some (.ref a)),Φ:=Φ}
section
variable{S:mm}{FA:Nat->Addr}{Φs:Bool->Az}
theorem PS.under{Φ:Az}{Q:Au}(z:PS (S.under a Φ) lg s Q f s'):PS S lg s Q f s':=by
 obtain⟨z1,z2,z3,z4,z5,z6,z7,z8,z9,y1,y2,y3⟩:=z
 exact⟨z1,z2,z3,z4,z5,z6,z7,z8,z9,y1,y2,y3⟩
theorem ES.under{Φ:Az}{X:As}(z:ES (S.under a Φ) lg s X v s'):ES S lg s X v s':=by
 obtain⟨z1,z2,z3,z4,z5,z6,z7,z8,z9,y1,y2,y3,y4,y5⟩:=z
 exact⟨z1,z2,z3,z4,z5,z6,z7,z8,z9,y1,y2,y3,y4,y5⟩
theorem UA{Φ:Az}{X:As}{E:Value->Shared->Prop}(F:DU S.A S.e S.fr)(hX:∀v s',ES S lg0 s0 X v s'->E v s')(h:ES S lg0 s0 X v s') :
  notedBy S.M (S.under a0 Φ).A S.e (cameBackBy S.M S.A S.e E) v s':=by
 obtain⟨h',tk,lY,μ',m',env',a,r,rfl,I,x,rfl,ex,q⟩:=h
 refine IC (S:=S.under a0 Φ) (s:={s0 with heap:=h',toks:=tk}) F I ex fun h2 mU I2 x2 e2=>?_
 exact Q1 (S:=S) (s:={s0 with heap:=h2,toks:=tk}) I2 e2 fun h3 I3 e3=>hX _ _ ⟨h3,tk,mU,μ',m',env',a,r,rfl,I3,x.trans x2,rfl,e3.at,q⟩
theorem KR(q:Hs h=true):h=.seq (.ret .none) .skip:=by
 induction h using MS.casesOn with
 |seq a b=>induction a using MS.casesOn with
  |ret e=>induction e using ME.casesOn with
   |none=>induction b using MS.casesOn with
    |skip=>rfl
    |_=>exact Bb q
   |_=>exact Bb q
  |_=>exact Bb q
 |_=>exact Bb q
theorem VW{T:Flow->Shared->Prop}{E:Value->Shared->Prop}(h1:T6 S.sc (.ret .none) b₀=true)(h2:Ih S.sc .skip body=true)(fin:T (.ret .none) s):wpAny S.M A (execs (b₀ :: body) S.e) T E s:=by
 refine AP h2 fun _=>J8 h1 fun v p h=>?_
 induction v with
 |none=>exact js (wpAny_Return_none fin)
 |some v=>
  refine Dy h fun c p1 p2 h=>?_
  obtain rfl:=Lm h
  exact js (kM (lR fin))
theorem VO{e:ME}(G:B7 S FA Φs false)(EF:IN S.K)(uB:1<=c)(uC:c<=3)(hn:n=Str.ofString (EK c))(hg:S.sc.lookup n=some .globalImplicit)
  (he:AD 2 S.sc e v=true) (hb:Ih S.sc h (b₀ :: body)=true) (hh:∀a,(S.under a (Φs true)).Runs (execs (b₀ :: body) S.e) (ws lX Φs true h)) :
  S.Runs (exec (.Try [.Return (some v) rp] [.ExceptHandler (some (.Name n np)) none (b₀ :: body) hp] [] [] pos) S.e) (ws lX Φs false (.nh e c h)):=by
 obtain⟨mg,mb,n1,n2,_,_,_,n5⟩:=G.good.base.names
 obtain⟨D,hD,hw⟩:=n5 c uB uC
 obtain⟨bm',kD,_⟩:=EF.cls c D uB uC hD
 intro m env lg μ Q X h0 s E I H hX
 replace h0:=(A6 h0).2
 refine wpAny_Try_except (js (kM (gI (G.se he _ _ _ _ _ _ h0 s _ I H fun v1 s1 z=>?_) (fun v1 s1 z=>?_) fun _ _ e=>e)))
 ·obtain⟨h1,tk,mB,μ1,a,r,rfl,I1,x1,rfl,ex,q⟩:=z
  refine IC (s:={s with heap:=h1,toks:=tk}) G.head I1 ex fun h2 mU I2 x2 e2=>?_
  refine Ef (s:={s with heap:=h2,toks:=tk}) I2 e2 fun h3 I3 e3=>?_
  have H3:=H.mono (x1.trans x2)
  refine wpAny_handleBy_cons (codeAny_handlers_test ?_) (by intro q;exact nomatch q)
  refine iA G.good.env.kind (G.good.env.lX _ hg) (jw (by rw[G.good.env.globals];exact CN n1 I3.old) (by rw[hn];exact hw) ?_) (by
   refine hn.symm▸?_;obtain rfl|rfl|rfl:c=1\/c=2\/c=3:=by lia
   all_goals decide)
  obtain⟨o,vs,O,t⟩:=id e3
  obtain⟨C,hC,rx⟩:=O.cls
  obtain⟨bm,kC,fC⟩:=EF.cls (r % 10) C O.lo O.hi hC
  refine JE (fun b p z=>I3.old b p (G.good.base.pX b p z)) kC kD O.at_ rx ?_
  (refine(fC c D uB uC hD).symm▸?_;refine(show DW (r % 10) c=DW r c from by unfold DW;rw[Nat.mod_mod]).symm▸?_)
  cases hcc:DW r c with
  |false=>
   replace q:=hcc▸q
   refine wpAny_handleBy_nil ?_
   obtain⟨T,oT,ts,qG,rest⟩:=id t
   refine gw (iw O.at_ O.data qG ?_)
   refine gw (Ef (s:={s with heap:=h3,toks:=tk}) I3 e3 fun h4 I4 e4=>lL (hX _ _ ⟨h4,tk,mU,μ1,m,env,a,r,rfl,I4,x1.trans x2,rfl,e4.at,q⟩))
  |true=>
   replace q:=hcc▸q
   have q1:=(A6 q).1;have q2:=(A6 q).2
   show codeAny S.M (S.under a (Φs true)).A (.handlers (.ref a) [.ExceptHandler none none (b₀ :: body) hp] S.e) _ _
   refine codeAny_handlers_suite (Ef (S:=S.under a (Φs true)) (s:={s with heap:=h3,toks:=tk}) I3 e3 fun h4 I4 e4=>?_)
   by_cases hr:decide (r<10)=true
   ·obtain⟨o4,vs4,O4,t4⟩:=id e4
    have I5:=Inv.adopt I4 O4.led O4.base (iJ O4.lW) O4.at_
    have x5:Ext mU (mU.put a o4):=Ext.mH o4 O4.led
    obtain⟨C4,_,hc4⟩:=O4.cls
    have oo:Mine.pB o4:=⟨by refine hc4.symm▸?_;exact nofun,fun es k z=>(by replace z:=O4.data▸z;exact nomatch z),fun v z=>(by replace z:=O4.data▸z;exact nomatch z)⟩
    have H5:(S.under a (Φs true)).H (mU.put a o4):=⟨.inr ⟨a,o4,vs4,rfl,⟨oo,.inl (Lg.l9 _ _ _)⟩,O4.data,O4.ctx (gG hr)⟩,(H3.mono x5).own⟩
    refine gI (hh a m env _ μ1 Q X q2 {s with heap:=h4,toks:=tk} _ I5 H5 fun v s' z=>?_) (fun f s2 z=>?_) fun _ _ e=>e
    ·exact UA (S:=S) (lg0:=lg) (s0:=s) (X:=X) G.head hX (ES.trans (S:=S) ((x1.trans x2).trans x5) z.under)
    ·exact PS.trans (S:=S) ((x1.trans x2).trans x5) z.under
   ·have hq:=((hZ _ _).mp q1).resolve_left hr
    cases KR hq
    have fin:PS S lg s Q (.ret .none) {s with heap:=h4,toks:=tk}:=⟨h4,tk,mU,μ1,m,env,.ret .none,rfl,I4,x1.trans x2,.none,q2⟩
    have ux:=(BV (a:=T6 S.sc (.ret .none) b₀) hb).1;have uy:=(BV (a:=T6 S.sc (.ret .none) b₀) hb).2
    exact VW ux uy fin
 ·obtain⟨h1,mS,mB,μ1,rfl,I1,x1,uv,ru,q⟩:=z
  exact⟨h1,mS,mB,μ1,m,env,.ret uv,rfl,I1,x1,ru,q⟩
end
section
variable[deq:DecidableEq Str]
noncomputable def Mf:List Nat->List Arg->Bool
 |[],as=>BM as true
 |x :: xs,as=>BL as fun a as=>Ey x a.arg&&Mf xs as
noncomputable def NX(fd:FuncData)(ps:List Nat):Bool:=
 Mf ps fd.params.args&&fd.params.posonlyargs.isEmpty&&fd.params.vararg.isNone&&fd.params.kwonlyargs.isEmpty&&fd.params.kwarg.isNone&&(fd.defaults==.none)&&
 fd.closure.isEmpty&&(fd.globals==mainGlobals)&&(fd.builtins==builtinsNs)&&(fd.scope.kind==.function)&&!fd.scope.isCoroutine&&!fd.scope.isGenerator&&
 decide ps.Nodup&&ps.all (fun x=>fd.scope.names.lookup (nm x)==some .local||fd.scope.names.lookup (nm x)==some .cell)&&
 fd.scope.names.all fun(n,k)=>fd.scope.names.lookup n==some k&&(k==.local||k==.cell||k==.globalImplicit)
end
theorem KN{xs:List Nat}:∀{as:List Arg},Mf xs as=true->as.map (·.arg)=xs.map nm/\∀x∈xs,x<Bg.length:=by
 induction xs with
 |nil=>exact fun h=>AP h fun _=>⟨rfl,fun _ h=>nomatch h⟩
 |cons x xs ih=>
  intro as h
  refine A1 (l:=as) h fun a as h=>?_
  have i:=AS (Al h)
  have j:=ih (Aa h)
  exact⟨congr (congrArg List.cons i.2) j.1,fun y hy=>(List.mem_cons.mp hy).elim (fun e=>e▸i.1) (j.2 y)⟩
structure Gk(fd:FuncData)(ps:List Nat):Prop where
 args:fd.params.args.map (·.arg)=ps.map nm
 lt:∀x∈ps,x<Bg.length
 po:fd.params.posonlyargs=[]
 va:fd.params.vararg=none
 ko:fd.params.kwonlyargs=[]
 kw:fd.params.kwarg=none
 df:fd.defaults=.none
 clo:fd.closure=[]
 gl:fd.globals=mainGlobals
 bl:fd.builtins=builtinsNs
 kind:fd.scope.kind=.function
 co:fd.scope.isCoroutine=false
 gen:fd.scope.isGenerator=false
 nodup:ps.Nodup
 par:∀x∈ps,fd.scope.names.lookup (nm x)=some .local\/fd.scope.names.lookup (nm x)=some .cell
 vb:∀n k,(n,k)∈fd.scope.names->fd.scope.names.lookup n=some k/\(k=.local\/k=.cell\/k=.globalImplicit)
theorem Mt(h:NX fd ps=true):Gk fd ps:=by
 unfold NX at h
 simp only[gH,ia,hZ,iv,g9,ji,List.isEmpty_iff,Option.isNone_iff_eq_none]at h
 obtain⟨⟨⟨⟨⟨⟨⟨⟨⟨⟨⟨⟨⟨⟨h1,h2⟩,h3⟩,h4⟩,h5⟩,h6⟩,h7⟩,h8⟩,h9⟩,sK⟩,h11⟩,h12⟩,h13⟩,h14⟩,h15⟩:=h
 obtain⟨a1,a2⟩:=KN h1
 exact⟨a1,a2,h2,h3,h4,h5,h6,h7,h8,h9,sK,h11,h12,h13,h14,fun n k hm=>by have:=h15 (n,k) hm;exact⟨this.1,or_assoc.mp this.2⟩⟩
theorem MQ{ps:List Nat}(lt:∀x∈ps,x<Bg.length)(nd:ps.Nodup):(ps.map nm).Nodup:=by
 induction ps with
 |nil=>exact k8
 |cons x xs ih=>
  rw[jH]at nd
  rw[iY,jH]
  refine⟨fun hm=>?_,ih (fun y hy=>lt y (gz _ hy)) nd.2⟩
  obtain⟨y,hy,e⟩:=List.mem_map.mp hm
  exact nd.1 ((Hy (lt y (gz _ hy)) (lt x (.head _)) e)▸hy)
theorem PM{α β:Type}{f g:α->Option β}{l:List α}(h:∀x∈l,f x=g x):l.filterMap f=l.filterMap g:=by
 induction l with
 |nil=>rfl
 |cons a l ih=>rw[iS,iS,h a (.head _),ih fun x m=>h x (.tail _ m)]
theorem QM{α:Type}{ns:List Str}:∀{vs:List α} (_:ns.length=vs.length) (_:ns.Nodup),ns.filterMap (fun n=>((ns.zip vs).lookup n).map (n,·))=ns.zip vs:=by
 induction ns with
 |nil=>exact fun _ _=>rfl
 |cons n ns ih=>
  intro vs hl nd
  induction vs using List.casesOn with
  |nil=>exact nomatch hl
  |cons v vs=>
   have nd:=List.nodup_cons.mp nd
   rw[List.zip_cons_cons,iS,hO,io]
   refine congrArg ((n,v) :: ·) ((PM fun y hy=>?_).trans (ih (Nat.succ.inj hl) nd.2))
   rw[hO,show(y==n)=false from beq_eq_false_iff_ne.mpr fun q=>nd.1 (q▸hy)]
theorem Zv{α:Type}{ns:List Str}:∀{vs:List α} (_:ns.length=vs.length) {n:Str},n∈ns->((ns.zip vs).lookup n).isSome=true:=by
 induction ns with
 |nil=>exact fun _ _ h=>nomatch h
 |cons n' ns ih=>
  intro vs hl n h
  induction vs using List.casesOn with
  |nil=>exact nomatch hl
  |cons v vs=>
   rw[List.zip_cons_cons,hO]
   cases q:n==n' with
   |true=>rfl
   |false=>exact(List.mem_cons.mp h).elim (fun e=>Dd (q.symm.trans (beq_iff_eq.mpr e))) (ih (Nat.succ.inj hl))
theorem SX{ns:List Str}{ws:List Value}(hl:ns.length=ws.length):ns.filter (fun n=>((ns.zip ws).lookup n).isNone)=[]:=by
 rw[List.filter_eq_nil_iff]
 intro n hn
 have:=Zv hl hn
 cases q:(ns.zip ws).lookup n with
 |none=>replace this:=q▸this;exact Dd this
 |some _=>exact iM
theorem NQ{y2:List Arg}{y5 y7}{x4 x5 x6 x7 x9 z1 z2 z3 z4 z5 z6}{ws:List Value}(nd:(y2.map (·.arg)).Nodup)(hl:(y2.map (·.arg)).length=ws.length) :
  bindArgs ⟨x1,x2,⟨[],y2,none,[],y5,none,y7⟩,x4,x5,x6,x7,.none,x9,z1,z2,z3,z4,z5,z6⟩ ⟨ws,[]⟩=pure ((y2.map (·.arg)).zip ws):=by
 refine(iH (c:=(decide (ws.length>(y2.map (·.arg)).length)&&true)=true) ?_).trans ?_
 ·rw[hl];simp
 generalize hd:List.drop (_ - _) (_:List Value)=D
 obtain rfl:D=[]:=hd.symm.trans List.drop_nil
 clear hd
 refine(iH (c:=(!(List.filter (fun n=>(((y2.map (·.arg)).zip ws).lookup n).isNone) ((y2.map (·.arg)).take (y2.map (·.arg)).length)).isEmpty)=true) ?_).trans ?_
 ·(refine(jA (gE _)).symm▸?_;refine(SX hl).symm▸?_);exact iM
 generalize hd:List.zip (List.drop _ _) (_:List Value)=D
 obtain rfl:D=[]:=hd.symm.trans List.zip_nil_right
 clear hd
 exact congrArg (fun x=>(pure x:Sem (List (Str×Value)))) ((congrArg (List.filterMap _) (gD _)).trans (QM hl nd))
theorem Ji{ps:List Nat}(F:Gk fd ps){ws:List Value}(hl:ps.length=ws.length):bindArgs fd ⟨ws,[]⟩=pure ((ps.map nm).zip ws):=by
 have nd:=MQ F.lt F.nodup
 have sR:(ps.map nm).length=ws.length:=by rw[gS];exact hl
 have e1:=F.args
 have e2:=F.po
 have e3:=F.va
 have e4:=F.ko
 have e5:=F.kw
 have e6:=F.df
 clear F hl
 obtain⟨x1,x2,⟨y1,y2,y3,y4,y5,y6,y7⟩,x4,x5,x6,x7,x8,x9⟩:=fd
 obtain rfl:=e2
 obtain rfl:=e3
 obtain rfl:=e4
 obtain rfl:=e5
 obtain rfl:=e6
 rw[<- e1]at nd sR ⊢
 exact NQ nd sR
section
variable{base:Heap}{K:Frag}{e:Env}{m:Str->Option Value}{fr:List n9}{env env':An}{lg:Lg}{μ:MH}{h:Heap}
open Classical in
noncomputable def Lg.nG(lg:Lg)(P:Addr->Prop)(h:Heap):Lg:={lg with led:=fun a=>if P a then h.get? a else lg.led a}
theorem Lg.nq{P:Addr->Prop}(p:P a):(lg.nG P h).led a=h.get? a:=by unfold Lg.nG;dsimp only;rw[iI p]
theorem Lg.nk{P:Addr->Prop}(p:¬P a):(lg.nG P h).led a=lg.led a:=by unfold Lg.nG;dsimp only;rw[iH p]
theorem Inv.nG(I:Inv base K e m fr env lg μ h)(P:Addr->Prop)(hP:∀a,P a->lg.led a=none/\base.get? a=none/\a≠e.locals):Inv base K e m fr env (lg.nG P h) μ h/\Ext lg (lg.nG P h)/\∀b o,lg.led b=some o->(lg.nG P h).led b=some o:=by
 have keep:∀b p,lg.led b=some p->(lg.nG P h).led b=some p:=fun b p q=>by
  rw[Lg.nk];exact q
  intro z;exact AM ((hP b z).1) q
 have x:Ext lg (lg.nG P h):=⟨fun b p _ q=>keep b p q,fun b p c q=>⟨p,c,keep b p q⟩,fun _ _ q=>q⟩
 refine⟨⟨I.old,I.ns,I.nF,?_,fun b p q=>?_,fun f hf=>?_,I.dist,I.apart,fun y v q ss=>(I.vars y v q ss).mono x fun b p _ z=>keep b p z,I.heap.len,I.heap.nodup,fun n p q=>?_⟩,x,keep⟩
 ·exact(Lg.nk fun z=>(hP _ z).2.2 rfl).trans (I.mG)
 ·by_cases z:P b
  ·rw[Lg.nq z]at q;exact⟨q,(hP b z).2.1⟩
  ·rw[Lg.nk z]at q;exact I.led b p q
 ·obtain⟨⟨p,a1,a2⟩,a3⟩:=I.frames f hf
  exact⟨⟨p,keep _ _ a1,a2⟩,fun c o q=>⟨keep _ _ (a3 c o q).1,(a3 c o q).2⟩⟩
 ·obtain⟨a',d,a1,a2⟩:=I.heap.each n p q
  exact⟨a',d,a1,a2.mono x fun ob z=>keep _ _ z⟩
end
theorem NP{kindOf:Str->Option NameKind}{ps:List Nat}:∀{as:List V} {ws:List Value} {e0 e1:An} {m0 c0:Str->Option Value},Ar base lg as ws->CP ps as e0=some e1->(∀x∈ps,x<Bg.length)->
  (∀y v,y<Bg.length->e0 y=some v->(kindOf (nm y)=some .local->∃w,m0 (nm y)=some w/\Aw base lg v w)/\(kindOf (nm y)=some .cell->∃w,c0 (nm y)=some w/\Aw base lg v w))->
  ∀y v,y<Bg.length->e1 y=some v->(kindOf (nm y)=some .local->∃w,bindL kindOf ((ps.map nm).zip ws) m0 (nm y)=some w/\Aw base lg v w)/\(kindOf (nm y)=some .cell->∃w,bindC kindOf ((ps.map nm).zip ws) c0 (nm y)=some w/\Aw base lg v w):=by
 induction ps with
 |nil=>
  intro as ws e0 e1 m0 c0 _ h _ k
  induction as using List.casesOn with
  |nil=>obtain rfl:=Option.some.inj h;exact k
  |cons _ _=>exact Ao h
 |cons x ps ih=>
  intro as ws e0 e1 m0 c0 hr h lt k
  induction as using List.casesOn with
  |nil=>exact Ao h
  |cons v as=>
   obtain⟨w,ws',rfl,rv,rr⟩:=hr.mN
   have hx:=lt x (.head _)
   refine ih rr (show CP ps as (Ad e0 x v)=some e1 from h) (fun y hy=>lt y (.tail _ hy)) fun y u hy hu=>?_
   by_cases q:y=x
   ·subst q
    obtain rfl:=Option.some.inj ((iI rfl).symm.trans hu)
    exact⟨fun kl=>⟨w,(congrFun (iI kl) _).trans (iI rfl),rv⟩,fun kc=>⟨w,(congrFun (iH fun z=>nomatch (Option.some.inj (z.symm.trans kc):NameKind.local=.cell)) _).trans (iI rfl),rv⟩⟩
   ·have hu:e0 y=some u:=(iH q).symm.trans hu
    have ne:¬nm y=nm x:=fun z=>q (Hy hy hx z)
    refine⟨fun kl=>((k y u hy hu).1 kl).imp fun w' z=>⟨?_,z.2⟩,fun kc=>((k y u hy hu).2 kc).imp fun w' z=>⟨?_,z.2⟩⟩
    ·by_cases y:kindOf (nm x)=some .local
     ·exact(congrFun (iI y) _).trans ((iH ne).trans z.1)
     ·exact(congrFun (iH y) _).trans z.1
    ·by_cases y:kindOf (nm x)=some .local
     ·exact(congrFun (iI y) _).trans z.1
     ·exact(congrFun (iH y) _).trans ((iH ne).trans z.1)
noncomputable def mm.callee(S:mm)(fd:FuncData)(L a:Addr)(m:Str->Option Value)(env:An)(lg:Lg)(Φ:Az)(A:Around):mm:=
 {S with A:=A.deeper (callEnvC fd L a),e:=callEnvC fd L a,fr:=⟨S.e,m,AU env S.e lg⟩ :: S.fr,sc:=fd.scope.names,Φ:=Φ}
section
variable{S:mm}{FA:Nat->Addr}{m:Str->Option Value}{env:An}{lg:Lg}{μ:MH}{s:Shared}{fd:FuncData}{ps:List Nat}{a:Addr}{A:Around}{Φ:Az}
theorem Fr(F:Gk fd ps):QQ (callEnvC fd s.heap.objs.size a) fd.scope.names:=by
 refine⟨F.kind,F.gl,F.bl,fun n h=>h,fun n h=>?_,fun n h=>h⟩
 rcases h with h|h
 ·exact h
 ·have:=(F.vb n .free (AN h)).2;simp at this
theorem Pt(B:O3 S.A S.e S.fr)(hA:A.frames=S.A.frames)(F:Gk fd ps):DU (S.callee fd s.heap.objs.size a m env lg Φ A).A (S.callee fd s.heap.objs.size a m env lg Φ A).e (S.callee fd s.heap.objs.size a m env lg Φ A).fr:=by
 obtain⟨l,hl,hx⟩:=B
 refine⟨l,?_,fun x hm=>?_⟩
 ·show(A.frames.map (callEnvC fd s.heap.objs.size a :: ·))=_
  (refine hA.symm▸?_;refine hl.symm▸?_);rfl
 ·rcases List.mem_cons.mp hm with rfl|hm
  ·exact⟨.inl rfl,rfl,fun z=>by have:=F.kind;have z:fd.scope.kind=.module:=z;replace z:=this▸z;exact nomatch z⟩
  ·obtain⟨h1,h2⟩:=hx x hm
   refine⟨.inr ?_,h2⟩
   rcases h1 with rfl|⟨f,hf,rfl⟩
   ·exact⟨_,.head _,rfl⟩
   ·exact⟨f,gz _ hf,rfl⟩
theorem Uv{as:List V}{ws:List Value}{env':An}{s₁:Shared}(I:S.I m env lg μ s.heap)(H:S.H lg)(F:Gk fd ps)(hA:A.handled=S.A.handled)(hr:Ar S.base lg as ws)(he:CP ps as (fun _=>none)=some env')
  (x:InCallC s (callEnvC fd s.heap.objs.size a).locals (bindL (callEnvC fd s.heap.objs.size a).kindOf ((ps.map nm).zip ws) fun _=>none) (callEnvC fd s.heap.objs.size a).cells (bindC (callEnvC fd s.heap.objs.size a).kindOf ((ps.map nm).zip ws) fun _=>none) s₁) :
  ∃lY,(S.callee fd s.heap.objs.size a m env lg Φ A).I (bindL (callEnvC fd s.heap.objs.size a).kindOf ((ps.map nm).zip ws) fun _=>none) env' lY μ s₁.heap/\Ext lg lY/\(S.callee fd s.heap.objs.size a m env lg Φ A).H lY:=by
 have keep:=x.toInCall.keep
 have I1:S.I m env lg μ s₁.heap:=I.keeps keep
 have none_of:∀a,s.heap.objs.size<=a->s.heap.get? a=none:=fun a ha=>by
  cases q:s.heap.get? a with
  |none=>rfl
  |some o=>exact absurd (g7 q) (Nat.not_lt.mpr ha)
 have mZ:∀a,s.heap.objs.size<=a->lg.led a=none:=fun a ha=>I.free (none_of a ha)
 have nj:∀a,s.heap.objs.size<=a->S.base.get? a=none:=fun a ha=>I.nJ (none_of a ha)
 have oE:S.e.locals<s.heap.objs.size:=by obtain⟨o,g,_⟩:=H6.of I.ns;exact g7 g
 let P:Addr->Prop:=fun a=>s.heap.objs.size<a/\∃o,s₁.heap.get? a=some o/\Da o
 obtain⟨I2,x2,tc⟩:=I1.nG P fun a ha=>⟨mZ a (j7 ha.1),nj a (j7 ha.1),fun z=>absurd oE (Nat.not_lt.mpr (z▸j7 ha.1))⟩
 have oJ:∀n ca,(callEnvC fd s.heap.objs.size a).cells.lookup n=some ca->P ca/\s₁.heap.IsCell ca ((bindC (callEnvC fd s.heap.objs.size a).kindOf ((ps.map nm).zip ws) fun _=>none) n):=fun n ca q=>by
  have c:=x.cell n ca q
  obtain⟨o,ho,hd⟩:=id c
  exact⟨⟨x.above n ca (mem_of_lookup q),o,ho,_,hd⟩,c⟩
 have qM:(lg.nG P s₁.heap).led s.heap.objs.size=none:=by
  exact(Lg.nk fun z=>absurd z.1 (ib _)).trans (mZ _ (gE _))
 have rel:=fun lY (xx:Ext (lg.nG P s₁.heap) lY)=>NP (lg:=lY) (kindOf:=(callEnvC fd s.heap.objs.size a).kindOf) (m0:=fun _=>none) (c0:=fun _=>none) (hr.mono (x2.trans xx)) he F.lt (fun y v _ q=>by exact Ao q)
 obtain⟨oL,I3,x3⟩:=I2.switch (cs:=AU env S.e lg) (e':=callEnvC fd s.heap.objs.size a) (m':=bindL (callEnvC fd s.heap.objs.size a).kindOf ((ps.map nm).zip ws) fun _=>none) (env':=env')
  (fun b o q=>by
   unfold AU at q ⊢
   split at q
   ·rename_i z;exact(iI z).trans (tc _ _ q)
   ·exact Ao q) x.toInCall.ns (nj _ (gE _)) qM (iJ (iU oE))
  (fun f hf z=>by
   obtain⟨⟨o,a1,_⟩,_⟩:=I.frames f hf
   have:=g7 (I.led _ _ a1).1
   rw[z]at this;exact ib _ this)
  (fun lY xx kk y v q ss=>by
   obtain⟨r1,r2⟩:=rel lY xx y v ss.1 q
   refine⟨ss.1,?_⟩
   rcases ss.2 with z|z
   ·exact .inl ⟨z,r1 z⟩
   ·obtain⟨w,hw,oF⟩:=r2 z
    obtain⟨ca,ph⟩:=Bk fd.scope.names [] (s.heap.objs.size+1) (nm y) (.inl (AN z))
    obtain⟨hp,o,ho,hd⟩:=oJ _ ca ph
    rw[hw]at hd
    exact .inr ⟨z,ca,o,w,ph,kk _ _ (by rw[Lg.nq hp];exact ho),hd,oF⟩)
 have own:KZ (callEnvC fd s.heap.objs.size a) fd.scope.names (⟨S.e,m,AU env S.e lg⟩ :: S.fr) (lg.nG P s₁.heap):=by
  refine⟨fun n ca _ q2 f hf=>?_,fun n n' ca q1 q2=>name_of_addr x.apart (mem_of_lookup q1) (mem_of_lookup q2),fun n q=>?_⟩
  ·have hp:=(oJ n ca q2).1
   have ln:=mZ ca (j7 hp.1)
   cases z:f.cells ca with
   |none=>rfl
   |some o=>
    exfalso
    rcases List.mem_cons.mp hf with rfl|hf
    ·have z:AU env S.e lg ca=some o:=z
     unfold AU at z
     split at z
     ·replace z:=ln▸z;exact Ao z
     ·exact Ao z
    ·have:=((I.frames f hf).2 ca o z).1
     exact AM ln this
  ·rcases q with q|q
   ·obtain⟨ca,ph⟩:=Bk fd.scope.names [] (s.heap.objs.size+1) n (.inl (AN q))
    have hp:=(oJ _ ca ph).1
    obtain⟨o,ho,hc⟩:=id hp.2
    exact⟨ca,o,ph,hc,by exact(Lg.nq hp).trans (ho)⟩
   ·have:=(F.vb n .free (AN q)).2;simp at this
 refine⟨_,I3,x2.trans x3,⟨?_,own.mono x3⟩⟩
 rcases H.hl.mono (x2.trans x3)with z|⟨b,o,arr,z,r⟩
 ·exact .inl (hA.trans z)
 ·exact .inr ⟨b,o,arr,hA.trans z,r⟩
end
inductive O2(K:Frag)(C:Addr)(bm:List Value):Prop
 |mk nm q N bs sn sub col dd k0 k1 k2 k3 k5 (h:K.lookup C=some (excClassObj nm q C N bs bm true sn sub false col dd k0 k1 k2 k3 k5 "Exception.__new__"))
structure HK(K:Frag)(C fI:Addr)(bm:List Value):Prop where
 obj:O2 K C bm
 hasB:bm.contains (.type "Exception")=true
 hasBase:bm.contains (.type "BaseException")=true
 noAttr:bm.contains (.type "AttributeError")=false
 noName:bm.contains (.type "NameError")=false
 init:findIn K (.ref C) "__init__"=some (some (.ref fI))
 fn:typeIn K (.ref fI)=some (.type "function")
 call:specialIn K (.ref C) "__call__"=some (some (.builtin "type.__call__"))
 typ:instIn K (.ref C) (.type "type")=some true
 tt:typeIn K (.ref C)=some (.type "type")
 set:findIn K (.ref C) "__setattr__"=some (some (.builtin "object.__setattr__"))
 free:findIn K (.ref C) "text"=some none
section
variable{prog:Program}{w:World}{A:Around}{E:Value->Shared->Prop}{R:Result->Shared->Prop}{K:Frag}{C fI:Addr}{bm:List Value}{h:Heap}{g:Array GenState}{d:Drawn}{t:Nat}{os:OsState}
theorem N9{M:Model}{nm q:Str}{N:Addr}{bs:List Value}{sn:List Str}{sub:List Value}{col:Option Bool}{dd:Option Addr}{k0 k1 k2 k3 k5:Option Value}{rest:List Value}{Q:Unit->Shared->Prop}
  (hC:h.get? C=some (excClassObj nm q C N bs bm true sn sub false col dd k0 k1 k2 k3 k5 "Exception.__new__")) (hB:bm.contains (.type "Exception")=true) (hq:Q () ⟨h,g,d,t,os⟩) :
  wpAny M A (checkBuiltinCall "Exception.__new__" ⟨.ref C :: rest,[]⟩) Q E ⟨h,g,d,t,os⟩:=by
 have F:=jW
 have uD:(Value.ref C :: bm).contains (.type "Exception")=true:=by rw[iG,hB,jq]
 simp only[checkBuiltinCall,F.newKind,F.newSplit,F.newRow]
 repeat(first|refine iO hC ?_|(refine iQ hC ?_;refine uD.symm▸?_)|refine wpAny_staticBase_exc hC ?_|refine wpAny_madeBy_exc hC ?_|simp only[bne_self_eq_false,jV,kG]|wp_step)
 exact hq
noncomputable abbrev Bx(C T:Addr)(dx:Option Addr):Obj:={cls:=.ref C,dict:=dx,data:=.fields #[.ref T,.none,.none,.none,.bool false,.none]}
noncomputable abbrev Fm(vs:List Value):Obj:={cls:=.type "tuple",data:=.seq vs.toArray}
theorem aU(Y:HK K C fI bm)(X:K.In h){rest:List Value}(hz:rest.length<=sizeLine)
  (hq:R (.ok (.ret (.ref (h.objs.size+1)))) ⟨(h.push (Fm rest)).push (Bx C h.objs.size none),g,d,t,os⟩) :
  codeAny (model prog w) A (.builtin "Exception.__new__" ⟨.ref C :: rest,[]⟩) R ⟨h,g,d,t,os⟩:=by
 have F:=jW
 obtain⟨nm,q,N,bs,sn,sub,col,dd,k0,k1,k2,k3,k5,hC⟩:=Y.obj
 have hC:=X _ _ hC
 have ends:=F.ends
 have cB:(Value.ref C :: bm).contains (.type "Exception")=true:=by rw[iG,Y.hasB,jq]
 have cA:(Value.ref C :: bm).contains (.type "AttributeError")=false:=by rw[iG,Y.noAttr];rfl
 have cN:(Value.ref C :: bm).contains (.type "NameError")=false:=by rw[iG,Y.noName];rfl
 refine codeAny_builtinAt F.entry ?_
 refine PySem.wpAt_bind ?_
 refine PySem.wpAt_bind (PySem.wpAt_stack fun p below=>lS ?_)
 wp_walk
 refine lS ?_
 refine F.owner.symm▸?_
 repeat(first|with_reducible refine wpAny_madeHere_exc F.canon hC ?_|with_reducible refine iO hC ?_|(with_reducible refine iQ hC ?_;first|rw[cB]|rw[cA]|refine cN.symm▸?_)|wp_step)
 show R _ _
 rw[i5]
 exact hq
theorem Xo(Y:HK K C fI bm)(X:K.In h){rest:List Value}(hz:rest.length<=sizeLine)
  (hq:codeAny (model prog w) (A.under (.builtin "type.__call__" ⟨.ref C :: rest,[]⟩)) (.call (.ref fI) ⟨.ref (h.objs.size+1) :: rest,[]⟩) (InitBack (h.objs.size+1) R) ⟨(h.push (Fm rest)).push (Bx C h.objs.size none),g,d,t,os⟩) :
  codeAny (model prog w) A (.call (.ref C) ⟨rest,[]⟩) R ⟨h,g,d,t,os⟩:=by
 obtain⟨nm,q,N,bs,sn,sub,col,dd,k0,k1,k2,k3,k5,hCK⟩:=Y.obj
 have hC:=X _ _ hCK
 have call:Looks (model prog w) h (specialOf (.ref C) "__call__") (some (.builtin "type.__call__")):=looks_specialIn X Y.call
 have typ:Looks (model prog w) h (isInstance (.ref C) (.type "type")) true:=looks_instIn X Y.typ
 have made:Looks (model prog w) h (Bind.madeBy (.ref C)) (some "Exception.__new__"):=fun A' Q' E' s k z=>wpAny_madeBy_exc (k _ _ hC) z
 have u0:=lz (M:=model prog w) X Y.init
 have bnd:=fun self=>bind_fn (M:=model prog w) X self Y.fn
 refine codeAny_of_tree ?_
 refine nd_load hC ?_
 show wpAny _ _ (callAny.viaDunder (.ref C) _) _ _ _
 refine gw (call.at ?_)
 dsimp only
 refine gw (gN (gw (gN ?_)))
 refine gN (a:=Fin.again (.call (.builtin "type.__call__") ⟨.ref C :: rest,[]⟩)) (And.intro rfl ?_)
 refine codeAny_call_builtin_at (Code.quiet_builtin _ (by decide +kernel)) entry_typeCall (check_slot tc_kind tc_split typ (tc_args _ _ _) ?_)
 have hm:Looks (model prog w) h (mroOf (.ref C)) (Value.ref C :: bm):=fun A' Q' E' s k z=>wpAny_mroOf_exc (k _ _ hC) z
 repeat(first|simp only[List.isEmpty_cons,jV,kG]|with_reducible refine jR ?_|lk)
 refine codeAny_call_builtin_code (Code.quiet_builtin _ PySem.F.excBase_Exception.quiet) (N9 hC Y.hasB ?_)
 refine aU Y X hz ?_
 have k:∀b o,h.get? b=some o->((h.push (Fm rest)).push (Bx C h.objs.size none)).get? b=some o:=fun b o e=>gF _ (gF _ e)
 have hx:((h.push (Fm rest)).push (Bx C h.objs.size none)).get? (h.objs.size+1)=some (Bx C h.objs.size none):=by heap_get
 have t1:Looks (model prog w) ((h.push (Fm rest)).push (Bx C h.objs.size none)) (typeOf (.ref (h.objs.size+1))) (.ref C):=(Looks.ld hx).andThen .now
 have s1:Looks (model prog w) ((h.push (Fm rest)).push (Bx C h.objs.size none)) (isSubtype (.ref C) (.ref C)) true:=fun A' Q' E' s k' z=>iQ (k' _ _ (k _ _ hC)) (by
  have:(Value.ref C :: bm).contains (.ref C)=true:=by simp
  refine this.symm▸?_;exact z)
 have i1:=u0.keeps k
 have b1:=(bnd (.ref (h.objs.size+1))).keeps k
 repeat(first|with_reducible refine jR ?_|lk)
 refine codeAny_mono hq fun r s' z=>?_
 rcases r with e|(v|_|_|_)<;>first|exact z|exact z.elim|skip
 obtain⟨rfl,z⟩:=z
 exact gN (gN z)
end
theorem Qo(self:Value):refuseLoop self "__setattr__" [.type "Exception",.type "BaseException",.type "object"]=pure ():=by kernel_rfl
theorem Mq(K:Frag):findCls K (.type "Exception") (.type "type") "__init__"=some (.val (.builtin "Exception.__init__")):=by kernel_rfl
theorem Ws:typeOf (.type "Exception")=pure (.type "type"):=by kernel_rfl
theorem Wg:Manifest.isStub "Exception"=false:=by kernel_rfl
theorem PN:handedIn (.builtin "Exception.__init__")=true:=by kernel_rfl
noncomputable def J7(v:Value)(f:Addr->Bool):Bool:=BO v.ctorIdx 10 fun h=>Value.ref.elim v h f
@[elab_as_elim] theorem GN{f:Addr->Bool}{P:Value->Prop}(h:J7 v f=true)(k:∀a,f a=true->P (.ref a)):P v:=
 if q:v.ctorIdx=10 then Value.ref.elim (motive:=fun v=>J7 v f=true->P v) v q k h else Bb ((AA q).symm.trans h)
noncomputable def CZ:List Value->Bool
 |[]=>false
 |v :: r=>bif v==.type "Exception" then r==[.type "BaseException",.type "object"]else J7 v fun _=>CZ r
theorem Lh{P:List Value->Prop}(h:CZ l=true)(a:P [.type "Exception",.type "BaseException",.type "object"])(b:∀c r,P r->P (.ref c :: r)):P l:=by
 induction l with
 |nil=>exact Bb h
 |cons v r ih=>
  have h:(bif v==.type "Exception" then r==[.type "BaseException",.type "object"]else J7 v fun _=>CZ r)=true:=h
  cases q:v==.type "Exception" with
  |true=>rw[q]at h;rw[gM q,gM h];exact a
  |false=>rw[q]at h;exact GN (v:=v) h fun c h=>b c r (ih h)
theorem Qp(self:Value)(h:CZ l=true):refuseLoop self "__setattr__" l=pure ():=
 Lh (P:=fun l=>refuseLoop self "__setattr__" l=pure ()) h (Qo self) fun c r i=>(refuseLoop_ref ..).trans i
theorem X2{l:List Value}(h:CZ l=true):l.contains (.type "object")=true:=
 Lh (P:=fun l=>l.contains (.type "object")=true) h (by decide +kernel) fun c r i=>by rw[iG,i,jq]
section
variable{prog:Program}{w:World}{A:Around}{E:Value->Shared->Prop}{R:Result->Shared->Prop}{K:Frag}{C fI:Addr}{bm:List Value}
theorem Sx{e T:Addr}{v:Value}{Q:Unit->Shared->Prop}{h:Heap}{g:Array GenState}{d:Drawn}{t:Nat}{os:OsState}(Y:HK K C fI bm)(hm:∃cd,clsIn K C=some cd/\CZ cd.mro=true)(X:K.In h)(he:h.get? e=some (Bx C T none))
  (hq:∀h' dx o',(∀b o,b≠e->h.get? b=some o->h'.get? b=some o)->h'.get? e=some (Bx C T (some dx))->h.get? dx=none->h'.get? dx=some o'->Q () ⟨h',g,d,t+1+1,os⟩):wpAny (model prog w) A (setAttr (.ref e) "text" v) Q E ⟨h,g,d,t,os⟩:=by
 obtain⟨cd,hc,ho⟩:=hm
 have SF:=PySem.F.store_object
 have I:W.InstAt h e (Bx C T none) C none:=⟨he,rfl,rfl,trivial⟩
 refine set_plain X I Y.set ?_
 have ne:cd.mro.isEmpty=false:=by cases q:cd.mro with|nil=>replace ho:=q▸ho;exact Bb ho|cons _ _=>rfl
 have uw:cd.hasDict=true:=by
  obtain⟨nm,q,N,bs,sn,sub,col,dd,k0,k1,k2,k3,k5,hC⟩:=Y.obj
  unfold clsIn at hc;replace hc:=hC▸hc;obtain rfl:=Option.some.inj hc;rfl
 have sub:Looks (model prog w) h (isInstance (.ref e) (.type "object")) true:=I.type.andThen (looks_mroIn X (by unfold mroIn;(refine hc.symm▸?_;rewrite[kS];rewrite[iH (by rw[ne];decide)];rewrite[X2 ho];rfl)))
 refine lO SF.slot.plain SF.entry (@check_slot (model prog w) _ _ ⟨h,g,d,t+1,os⟩ "object.__setattr__" "object" "__setattr__" (.ref e) [.str "text" t,v] [] _ SF.kind SF.split sub (SF.args (.ref e) (.str "text" t) v) ?_)
 have hm:Looks (model prog w) h (mroOf (.ref C)) cd.mro:=(lN X hc).andThen .now
 rw[osa_eq,refuse_eq]
 refine gw (gw (I.type.here (gw (hm.here ?_))))
 refine(Qp _ ho).symm▸?_
 refine gN (gw (I.type.here (gw ((lz X Y.free).here (gw (gN ?_))))))
 show wpAny _ _ (Builtin.ObjectAttr.storeInOwnDict (.ref e) (.ref C) (.str "text" t) "text" v false) _ _ _
 refine gw (gN ?_)
 refine gw ?_
 refine gw (kr he ?_)
 dsimp only
 refine gw ((lN X hc).here ?_)
 refine uw.symm▸?_
 refine gw (wpAny_alloc ?_)
 have he1:=gF (emptyDict) he
 refine gw (wpAny_update he1 (gN ?_))
 have upE:((h.push emptyDict).update e fun o=>{o with dict:=some h.objs.size}).get? e=some (Bx C T (some h.objs.size)):=iq _ he1 rfl
 have ned:h.objs.size≠e:=jN (g7 he)
 have vm:((h.push emptyDict).update e fun o=>{o with dict:=some h.objs.size}).get? h.objs.size=some emptyDict:=(ii _ _ (iJ ned)).trans (hM _ rfl)
 show wpAny _ _ (Builtin.ObjectAttr.storeInDict h.objs.size (.str "text" t) "text" v) _ _ _
 refine gw (gN (gw ?_))
 refine gw (gw (kR (gN (gw (wpAny_mkText (gw (kr vm ?_)))))))
 dsimp only
 refine wpAny_updatePart vm ?_
 have tw:=iq (Obj.putName "text" (PyData.keyHash w.params "text") (.str "text" (t+1)) v) vm (by rfl)
 refine gw (wpAny_lookBehind tw (by exact pastItsLine_dict (by show 1<=sizeLine+1;decide)) (gN (hq _ h.objs.size _ (fun b o nb q=>?_) ?_ (by
  cases q:h.get? h.objs.size with
  |none=>rfl
  |some o=>exact absurd (g7 q) (ib _)) tw)))
 ·have nbs:b≠h.objs.size:=iU (g7 q)
  exact(ii _ _ (iJ nbs)).trans ((ii _ _ (iJ nb)).trans (gF _ q))
 ·exact(ii _ _ ned).trans upE
theorem Uq{e T:Addr}{v:Value}{Q:Value->Shared->Prop}{h:Heap}{g:Array GenState}{d:Drawn}{t:Nat}{os:OsState}(Y:HK K C fI bm)(X:K.In h)(he:h.get? e=some (Bx C T none))
  (hq:∀h' T',(∀b o,b≠e->h.get? b=some o->h'.get? b=some o)->h'.get? e=some (Bx C T' none)->Q .none ⟨h',g,d,t,os⟩):wpAny (model prog w) A (call (.builtin "Exception.__init__") [.ref e,v]) Q E ⟨h,g,d,t,os⟩:=by
 have F:=jW
 obtain⟨nm,q,N,bs,sn,sub,col,dd,k0,k1,k2,k3,k5,hC⟩:=Y.obj
 have hC:=X _ _ hC
 have cB:(Value.ref C :: bm).contains (.type "Exception")=true:=by rw[iG,Y.hasB,jq]
 refine jR (lO F.init.plain F.initEntry ?_)
 have tG:∀{Q':Unit->Shared->Prop} {E':Value->Shared->Prop},Q' () ⟨h,g,d,t,os⟩->wpAny (model prog w) A.in1 (checkBuiltinCall "Exception.__init__" ⟨[.ref e,v],[]⟩) Q' E' ⟨h,g,d,t,os⟩:=fun{Q' E'} hq'=>by
  simp only[checkBuiltinCall,F.initKind,F.initSplit,F.initRow]
  repeat(first|(with_reducible refine iO he ?_)|with_reducible refine iO hC ?_|(with_reducible refine iQ hC ?_;refine cB.symm▸?_)|wp_step)
  exact hq'
 refine tG ?_
 wp_walk
 refine hq _ (h.objs.size) (fun b o nb q=>?_) ?_
 ·exact(ii _ _ (iJ nb)).trans (gF _ q)
 ·rw[iq _ (gF _ he) rfl]
  rfl
end
section
variable[deq:DecidableEq Str]
noncomputable def HT(b:List Stmt):Bool:=sr b fun s1 s2=>MU s1 fun e=>Dx s2 fun ts v=>pz ts fun t=>Fc t fun o n6 _=>Bm o fun n5=>Bm v fun n7=>(n5==nm 313)&&((n6==("text":Str))&&((n7==nm 224)&&
 Fd e fun f as kw cp=>BM kw (sr as fun a1 a2=>Bm a1 fun n3=>Bm a2 fun n4=>Fc f fun o2 n2 ap=>Bm o2 fun n1=>(n1==("Exception":Str))&&((n2==("__init__":Str))&&((n3==nm 313)&&((n4==nm 224)&&(ap.endLine==cp.line)))))))
noncomputable def MZ(x:FuncBody)(f:List Stmt->Bool):Bool:=match x with|.stmts b=>f b|.expr _=>false
noncomputable def Q2(fd:FuncData):Bool:=NX fd [313,224]&&(fd.scope.names.all (fun x=>x.2 != .cell)&&((fd.scope.names.lookup (nm 313)==some .local)&&((fd.scope.names.lookup (nm 224)==some .local)&&
 ((fd.scope.names.lookup ("Exception":Str)==some .globalImplicit)&&MZ fd.body HT))))
end
@[elab_as_elim] theorem Jz{P:List Stmt->Prop}(h:HT b=true)
  (k:∀p1 p3 p4 ap cp ep p5 p6 p7 p8,(ap.endLine==cp.line)=true->P [.Expr (.Call (.Attribute (.Name "Exception" p1) "__init__" ap) [.Name (nm 313) p3,.Name (nm 224) p4] [] cp) ep,.Assign [.Attribute (.Name (nm 313) p5) "text" p6] (.Name (nm 224) p7) p8]):P b:=by
 refine Hz h fun s1 s2 h=>Ls h fun e ep h=>CR h fun ts v p8 h=>B4 h fun t h=>Dk h fun o n6 p6 h=>AV h fun n5 p5 h=>AV h fun n7 p7 h=>?_
 obtain rfl:n5=nm 313:=gM (Al h)
 obtain rfl:n6=("text":Str):=gM (Al (Aa h))
 obtain rfl:n7=nm 224:=gM (Al (Aa (Aa h)))
 replace h:=Aa (Aa (Aa h))
 refine Ek h fun f as kw cp h=>AP h fun h=>Hz h fun a1 a2 h=>AV h fun n3 p3 h=>AV h fun n4 p4 h=>Dk h fun o2 n2 ap h=>AV h fun n1 p1 h=>?_
 obtain rfl:n1=("Exception":Str):=gM (Al h)
 obtain rfl:n2=("__init__":Str):=gM (Al (Aa h))
 obtain rfl:n3=nm 313:=gM (Al (Aa (Aa h)))
 obtain rfl:n4=nm 224:=gM (Al (Aa (Aa (Aa h))))
 exact k _ _ _ _ _ _ _ _ _ _ (Aa (Aa (Aa (Aa h))))
theorem J9{f:List Stmt->Bool}{P:Prop}(h:MZ x f=true)(k:∀b,x=.stmts b->f b=true->P):P:=by
 cases x with
 |stmts b=>exact k b rfl h
 |expr _=>exact Bool.noConfusion h
structure O5(K:Frag)(fI:Addr):Prop where
 at_:∃oc od sl fd,K.lookup fI=some ⟨oc,od,.func fd,sl⟩/\Q2 fd=true/\codeIn K fd.code fd.qualname=true
theorem fP:nm 313=("self":Str):=by decide +kernel
theorem fQ:nm 224=("text":Str):=by decide +kernel
theorem eS:¬nm 224=nm 313:=by decide +kernel
theorem Ud:(nm 313==("__debug__":Str))=false:=by decide +kernel
theorem Ue:(nm 224==("__debug__":Str))=false:=by decide +kernel
theorem Xe:(("Exception":Str)==("__debug__":Str))=false:=by decide +kernel
section
variable{prog:Program}{w:World}{A:Around}{R:Result->Shared->Prop}{K:Frag}{C fI:Addr}{bm:List Value}
theorem TD{h h':Heap}{e:Addr}{m:Str->Option Value}(x:h.Ns a m)(ne:a≠e)(k:∀b o,b≠e->h.get? b=some o->h'.get? b=some o):h'.Ns a m:=
 let⟨o,es,ep,g,r⟩:=x;⟨o,es,ep,k a o ne g,r⟩
theorem Ur{e T:Addr}{v:Value}{h:Heap}{g:Array GenState}{d:Drawn}{t:Nat}{os:OsState}(Y:HK K C fI bm)(hm:∃cd,clsIn K C=some cd/\CZ cd.mro=true)(FI:O5 K fI)(X:K.In h)
  (hE:K.lookup e=none) (hB:∃mg mb,h.Ns mainGlobals mg/\h.Ns builtinsNs mb/\mg "Exception"=none/\mb "Exception"=some (.type "Exception")) (qh:h.NoLimit) (nM:A.depth<recursionLimit) (he:h.get? e=some (Bx C T none))
  (hq:∀h' tk T' dx,(∀b o,b≠e->h.get? b=some o->h'.get? b=some o)->h'.get? e=some (Bx C T' (some dx))->R (.ok (.ret .none)) ⟨h',g,d,tk,os⟩) :
  codeAny (model prog w) A (.call (.ref fI) ⟨[.ref e,v],[]⟩) R ⟨h,g,d,t,os⟩:=by
 obtain⟨oc,od,sl,fd,hf,hc,oN⟩:=FI.at_
 have c1:=Al hc
 have c2:=List.all_eq_true.mp (Al (Aa hc))
 have c3:=gM (Al (Aa (Aa hc)))
 have c4:=gM (Al (Aa (Aa (Aa hc))))
 have c5:=gM (Al (Aa (Aa (Aa (Aa hc)))))
 have c6:=Aa (Aa (Aa (Aa (Aa hc))))
 have F:=Mt c1
 refine J9 c6 fun b hb c6=>?_
 ·refine codeAny_call_def (fd:=fd) (body:=b) (binds:=([313,224].map nm).zip [.ref e,v]) nM (X _ _ hf) rfl qh (codeRec_of X oN) hb (BindsTo.of_eq (Ji F rfl)) (fun x hx=>bne_iff_ne.mp (c2 x hx)) (fun x hx=>?_) (fun h₀ oY hk=>?_) F.co F.gen F.kind
  ·rcases List.mem_cons.mp hx with rfl|hx
   ·exact c3
   ·rcases List.mem_cons.mp hx with rfl|hx
    ·exact c4
    ·cases hx
  clear hc c1 c2 hb oN FI hf
  refine Jz c6 fun p1 p3 p4 ap cp ep p5 p6 p7 p8 line=>?_
  have kind:(callEnv fd h.objs.size fI).scope.kind=.function:=F.kind
  have vS:(fun x=>List.lookup x (([313,224].map nm).zip [Value.ref e,v]).reverse) (nm 313)=some (.ref e):=by
   show List.lookup (nm 313) [(nm 224,v),(nm 313,Value.ref e)]=_
   rw[hO,show(nm 313==nm 224)=false from beq_eq_false_iff_ne.mpr (iJ eS),hO,io]
  have vT:(fun x=>List.lookup x (([313,224].map nm).zip [Value.ref e,v]).reverse) (nm 224)=some v:=by
   show List.lookup (nm 224) [(nm 224,v),(nm 313,Value.ref e)]=_
   rw[hO,io]
  obtain⟨mg,mb,ng,nb,g1,b1⟩:=hB
  have X₀:K.In h₀:=X.keeps hk
  have Xb:∀{h1:Heap},(∀b o,b≠e->h₀.get? b=some o->h1.get? b=some o)->K.In h1:=fun k b o q=>k b o (fun z=>by(rw[z]at q;replace q:=hE▸q);exact Ao q) (X₀ b o q)
  have tT:(callEnv fd h.objs.size fI).locals≠e:=jN (g7 he)
  have hg:∀{h1:Heap},(∀b o,h.get? b=some o->h1.get? b=some o)->h1.Ns (callEnv fd h.objs.size fI).globals mg:=fun k=>by
   show Heap.Ns _ fd.globals _
   rw[F.gl];exact CN ng k
  have hbl:∀{h1:Heap},(∀b o,h.get? b=some o->h1.get? b=some o)->h1.Ns (callEnv fd h.objs.size fI).builtins mb:=fun k=>by
   show Heap.Ns _ fd.builtins _
   rw[F.bl];exact CN nb k
  refine js (wpAny_Expr_any ?_ (by unfold interactive;refine kind.symm▸?_;rfl) rfl)
  have sH:methodCallForm ([Expr.Name (nm 313) p3,Expr.Name (nm 224) p4].length+([]:List Keyword).length) (backTo cp (starEach [Expr.Name (nm 313) p3,Expr.Name (nm 224) p4] (callEnv fd h.objs.size fI))) (backToKw cp (keywordEach [] (callEnv fd h.objs.size fI)))=true:=rfl
  have vf:methodCallPos true (.Name "Exception" p1) (callEnv fd h.objs.size fI) ap cp=pure cp:=by unfold methodCallPos;simp[line]
  refine gw (iA kind c5 (lr (hg hk) g1 (hbl hk) b1 ?_) Xe)
  refine gw (hU ?_)
  unfold methodCall
  refine gw (hV (method_type (h₀:=h) (L:=h.objs.size) ⟨oY,hk,gE _⟩ X Ws Wg (Mq K) PN ?_))
  refine gw (kq vf ?_)
  refine jg (by rfl) ?_
  refine Gp (xs:=[.Name (nm 313) p3,.Name (nm 224) p4]) (e:=callEnv fd h.objs.size fI) ?_
  have evS:∀{p:Pos} {Q:Value->Shared->Prop} {E:Value->Shared->Prop} {s:Shared},s.heap.Ns (callEnv fd h.objs.size fI).locals (fun x=>List.lookup x (([313,224].map nm).zip [Value.ref e,v]).reverse)->Q (.ref e) s->wpAny (model prog w) (A.deeper (callEnv fd h.objs.size fI)) (eval (.Name (nm 313) p) (callEnv fd h.objs.size fI)) Q E s:=fun n q=>
   wpAny_Name (jD kind c3 n vS q) Ud
  have pe:∀{p:Pos} {Q:Value->Shared->Prop} {E:Value->Shared->Prop} {s:Shared},s.heap.Ns (callEnv fd h.objs.size fI).locals (fun x=>List.lookup x (([313,224].map nm).zip [Value.ref e,v]).reverse)->Q v s->wpAny (model prog w) (A.deeper (callEnv fd h.objs.size fI)) (eval (.Name (nm 224) p) (callEnv fd h.objs.size fI)) Q E s:=fun n q=>
   wpAny_Name (jD kind c4 n vT q) Ue
  refine jU (evS oY (jU (pe oY (kQ ?_))))
  refine Uq Y X₀ (hk _ _ he) fun h1 T1 k1 e1=>?_
  refine js (Dl (S:={pg:=prog,w:=w,A:=A.deeper (callEnv fd h.objs.size fI),base:=h,K:=K,e:=callEnv fd h.objs.size fI,fr:=[],sc:=[],Φ:=fun _ _ _ _ _=>False}) (by rfl) (by rfl) (by intro _ _ z;cases z) (pe (TD oY tT k1) ?_))
  refine gw (hV (evS (TD oY tT k1) (gw (hU (gw (hV ?_))))))
  refine Sx Y hm (Xb k1) e1 fun h2 dx o2 k2 e2 _ _=>?_
  refine jP (kg ?_)
  exact hq h2 _ T1 dx (fun b o nb q=>k2 b o nb (k1 b o nb (hk b o q))) e2
end
structure Np(K:Frag)(base:Heap):Prop where
 make:∀c C,1<=c->c<=3->E7 K c C->∃fI bm,HK K C fI bm/\(∃cd,clsIn K C=some cd/\CZ cd.mro=true)/\O5 K fI
 names:∃mg mb,base.Ns mainGlobals mg/\base.Ns builtinsNs mb/\mg "Exception"=none/\mb "Exception"=some (.type "Exception")
structure Gl(S:mm)(FA:Nat->Addr)(Φs:Bool->Az)(hd:Bool):Prop where
 s:B7 S FA Φs hd
 exc:IN S.K
 rM:Np S.K S.base
 room:S.A.depth+2<recursionLimit
 hand:hd=false->∀a,Bi (S.under a (Φs true)) FA 2
theorem Gl.under{S:mm}{FA:Nat->Addr}{Φs:Bool->Az}(G:Gl S FA Φs false)(a:Addr):Gl (S.under a (Φs true)) FA Φs true:=
 ⟨⟨G.hand rfl a,rfl,G.s.head,fun z=>by exact FR z⟩,G.exc,G.rM,G.room,fun z=>by exact nomatch z⟩
def LU(FA:Nat->Addr)(Φs:Bool->Az):Prop:=
 ∀(S:mm) (hd:Bool) (c:Nat) (e:ME) (v:Expr) (n:Str) (np cp pos:Pos),Gl S FA Φs hd->(1<=c/\c<=3)->n=Str.ofString (EK c)->S.sc.lookup n=some .globalImplicit->AD 2 S.sc e v=true->
  S.Runs (exec (.Raise (some (.Call (.Name n np) [v] [] cp)) none pos) S.e) (ws lX Φs hd (.raise c e))
def DF(FA:Nat->Addr)(Φs:Bool->Az)(ms:MS):Prop:=∀(S:mm) (hd:Bool) (st:Stmt),Gl S FA Φs hd->T6 S.sc ms st=true->S.Runs (exec st S.e) (ws lX Φs hd ms)
def Kq(FA:Nat->Addr)(Φs:Bool->Az)(ms:MS):Prop:=∀(S:mm) (hd:Bool) (sy:List Stmt),Gl S FA Φs hd->Ih S.sc ms sy=true->S.Runs (execs sy S.e) (ws lX Φs hd ms)
variable{FA:Nat->Addr}{Φs:Bool->Az}
theorem DF.of(h:DF FA Φs ms)(n:∀sc sy,Ih sc ms sy=false):DF FA Φs ms/\Kq FA Φs ms:=⟨h,fun _ _ _ _ hc=>Bb ((n _ _).symm.trans hc)⟩
theorem Wc(R:LU FA Φs)(c:Nat)(e:ME):DF FA Φs (.raise c e):=fun S hd st G hc=>by
 by_cases q:1<=c/\c<=3
 ·refine Qa hc fun x y p h=>HB h fun h=>BQ h fun x h=>Ek h fun f as kw p h=>AP h fun h=>B4 h fun v h=>AV h fun n p h=>?_
  rw[gR (Nat.not_lt.mpr q.1),gR (Nat.not_lt.mpr q.2)]at h
  exact R S hd c e _ _ _ _ _ G q (gM (Al h)) (Ei (Al (Aa h))) (Aa (Aa h))
 ·exact fun m env lg μ Q X z=>absurd ⟨(Ag z).1,(Ag (Ag z).2).1⟩ q
theorem dk(e:ME)(c:Nat)(b:MS)(ih:Kq FA Φs b):DF FA Φs (.nh e c b):=fun S hd st G hc=>by
 refine Vw hc fun bs hs o f p h=>AP h fun h=>AP h fun h=>B4 h fun b h=>J8 h fun v p h=>BQ h fun v h=>B4 h fun hn h=>bS h fun t n hb p h=>HB h fun h=>BQ h fun t h=>AV h fun n p h=>?_
 induction hb using List.casesOn with
 |nil=>exact Bb (Al (Aa (Aa (Aa (Aa h)))))
 |cons b₀ body=>
  induction hd with
  |true=>exact fun m env lg μ Q X z=>Bb (A6 z).1
  |false=>exact VO G.s G.exc (gG (Al (Aa (Aa (Aa (Aa (Aa h))))))) (gG (Aa (Aa (Aa (Aa (Aa (Aa h))))))) (gM (Al (Aa h))) (Ei (Al (Aa (Aa h)))) (Al h) (Al (Aa (Aa (Aa h)))) fun a=>ih (S.under a (Φs true)) true _ (G.under a) (Al (Aa (Aa (Aa h))))
theorem Tm(x:Nat)(e:ME):DF FA Φs (.assign x e):=fun S hd st G hc=>by
 refine CR hc fun ts v p h=>B4 h fun t h=>AV h fun n p h=>?_
 rcases(hZ _ _).mp (Al (Aa (Aa h)))with z|z
 ·revert h
  exact HA z fun _ _ _ _ _ h=>Tc G.s (Al h) (Fx (Al (Aa h))) (Aa (Aa (Aa h)))
 ·exact OB G.s (Al h) (Fx (Al (Aa h))) (Aa (Aa (Aa h))) (J1 z _ _ _)
theorem Qy(xs:List Nat)(e:ME):DF FA Φs (.mo xs e):=fun S hd st G hc=>
 CR hc fun ts v p h=>B4 h fun t h=>Ka h fun es k p h=>Td G.s (Al h) (Al (Aa h)) (Al (Aa (Aa h))) (Aa (Aa (Aa h)))
theorem QA(o:ME)(a:Nat)(e:ME):DF FA Φs (.setAttr o a e):=fun S hd st G hc=>
 CR hc fun ts v p h=>B4 h fun t h=>Dk h fun o' n p h=>Tf G.s (Al h) (List.elem_iff.mp (Al (Aa h))) (Al (Aa (Aa h))) (Aa (Aa (Aa h)))
theorem To(o i e:ME):DF FA Φs (.m9 o i e):=fun S hd st G hc=>
 CR hc fun ts v p h=>B4 h fun t h=>GO h fun o' i' p h=>VN G.s (Al (Aa h)) (Al (Aa (Aa h))) (Aa (Aa (Aa h)))
theorem db(x:Nat)(op:Operator)(e:ME):DF FA Φs (.aug x op e):=fun S hd st G hc=>
 J3 hc fun t o v p h=>AV h fun n p h=>EW (Al (Aa h)) (fz G.s (Al h) (gM (Al (Aa (Aa h)))) (Aa (Aa (Aa h))))
theorem Qz(o:ME)(a:Nat)(op:Operator)(e:ME):DF FA Φs (.mz o a op e):=fun S hd st G hc=>
 J3 hc fun t th v p h=>Dk h fun o' n p h=>EW (Al (Aa (Aa h))) (Te G.s (Al h) (List.elem_iff.mp (Al (Aa h))) (Al (Aa (Aa (Aa h)))) (Aa (Aa (Aa (Aa h)))))
theorem Tn(o i:ME)(op:Operator)(e:ME):DF FA Φs (.mL o i op e):=fun S hd st G hc=>
 J3 hc fun t th v p h=>GO h fun o' i' p h=>EW (Al (Aa h)) (VM G.s (Al h) (Al (Aa (Aa h))) (Al (Aa (Aa (Aa h)))) (Aa (Aa (Aa (Aa h)))))
theorem Zf(e:ME):DF FA Φs (.expr e):=fun S hd st G hc=>Ls hc fun v p h=>cE G.s (Aa h) (Al h)
theorem di(e:ME):DF FA Φs (.ret e):=fun S hd st G hc=>by
 refine J8 hc fun v p h=>?_
 induction v with
 |some v=>exact fE G.s h
 |none=>clear hc;induction e using ME.casesOn<;>first|exact Bb h|exact cG
theorem da(t:ME)(a b:MS)(rG:Kq FA Φs a)(rH:Kq FA Φs b):DF FA Φs (.ite t a b):=fun S hd st G hc=>
 Vr hc fun t' a' b' p h=>fB G.s (Al h) (rG S hd _ G (Al (Aa h))) (rH S hd _ G (Aa (Aa h)))
theorem c9(xs:List Nat)(one:Bool)(it:ME)(b:MS)(ih:Kq FA Φs b):DF FA Φs (.mq xs one it b):=fun S hd st G hc=>
 Vo hc fun t' ow b' o p h=>AP h fun h=>fA G.s (Al (Aa h)) (Al h) (Al (Aa (Aa h))) (ih S hd _ G (Aa (Aa (Aa h))))
theorem We(t:ME)(b:MS)(ih:Kq FA Φs b):DF FA Φs (.m7 t b):=fun S hd st G hc=>
 Qc hc fun t' b' o p h=>AP h fun h=>YL G.s (Al h) (ih S hd _ G (Aa h))
theorem Zg:DF FA Φs .skip/\Kq FA Φs .skip:=⟨fun S hd st G hc=>S4 hc fun p h=>cF,fun S hd sy G hc=>AP hc fun h=>fD⟩
theorem dj(a b:MS)(rG:DF FA Φs a)(rH:Kq FA Φs b):DF FA Φs (.seq a b)/\Kq FA Φs (.seq a b):=
 ⟨fun S hd st G hc=>Bb hc,fun S hd sy G hc=>A1 hc fun s r h=>cC (rG S hd s G (Al h)) (rH S hd r G (Aa h))⟩
theorem Ze:DF FA Φs .cont:=fun S hd st G hc=>SZ hc fun p h=>cD
theorem Z4(R:LU FA Φs)(ms:MS):DF FA Φs ms/\Kq FA Φs ms:=by
 induction ms with
 |skip=>exact Zg
 |seq a b rG rH=>exact dj a b rG.1 rH.2
 |assign x e=>exact(Tm x e).of fun _ _=>rfl
 |mo xs e=>exact(Qy xs e).of fun _ _=>rfl
 |setAttr o a e=>exact(QA o a e).of fun _ _=>rfl
 |m9 o i e=>exact(To o i e).of fun _ _=>rfl
 |aug x op e=>exact(db x op e).of fun _ _=>rfl
 |mz o a op e=>exact(Qz o a op e).of fun _ _=>rfl
 |mL o i op e=>exact(Tn o i op e).of fun _ _=>rfl
 |expr e=>exact(Zf e).of fun _ _=>rfl
 |ret e=>exact(di e).of fun _ _=>rfl
 |cont=>exact Ze.of fun _ _=>rfl
 |ite t a b rG rH=>exact(da t a b rG.2 rH.2).of fun _ _=>rfl
 |mq xs one it b ih=>exact(c9 xs one it b ih.2).of fun _ _=>rfl
 |m7 t b ih=>exact(We t b ih.2).of fun _ _=>rfl
 |raise c e=>exact(Wc R c e).of fun _ _=>rfl
 |nh e c b ih=>exact(dk e c b ih.2).of fun _ _=>rfl
theorem Nk(C:Addr)(v:Value):(Code.builtin "type.__call__" ⟨[.ref C,v],[]⟩).weight=1:=by kernel_rfl
theorem C5{h:Heap}(k:h.objs.size<=a):h.get? a=none:=by
 cases q:h.get? a with
 |none=>rfl
 |some o=>exact absurd (g7 q) (Nat.not_lt.mpr k)
section
variable{S:mm}{FA:Nat->Addr}{Φs:Bool->Az}{hd:Bool}
theorem Us{m:Str->Option Value}{s:Shared}{v:Value}{Q:Value->Shared->Prop}{E:Value->Shared->Prop}(G:Gl S FA Φs hd)(h1:1<=c)(h2:c<=3)(hC:E7 S.K c C)(I:S.I m env lg μ s.heap)
  (hq:∀h' tk e T dx,(∀b o,s.heap.get? b=some o->h'.get? b=some o)->s.heap.get? e=none->h'.get? e=some (Bx C T (some dx))->Q (.ref e) {s with heap:=h',toks:=tk}):wpAny S.M S.A (call (.ref C) [v]) Q E s:=by
 obtain⟨fI,bm,Y,hm,FI⟩:=G.rM.make c C h1 h2 hC
 have B:=G.s.good.base
 have X:S.K.In s.heap:=B.pX.keeps I.old
 obtain⟨mg,mb,n1,n2,n3,n4⟩:=G.rM.names
 obtain⟨h,g,d,t,os⟩:=s
 refine jR (Xo Y X (rest:=[v]) (by show 1<=sizeLine;decide) ?_)
 have k1:∀b o,h.get? b=some o->((h.push (Fm [v])).push (Bx C h.objs.size none)).get? b=some o:=fun b o q=>gF _ (gF _ q)
 have he:((h.push (Fm [v])).push (Bx C h.objs.size none)).get? (h.objs.size+1)=some (Bx C h.objs.size none):=by heap_get
 have neE:∀{b o},h.get? b=some o->b≠h.objs.size+1:=fun q z=>by
  have:=g7 q
  replace this:=z▸this;exact absurd this (Nat.not_lt.mpr (iX _))
 have qQ:h.get? (h.objs.size+1)=none:=C5 (iX _)
 refine Ur (A:=S.A.under _) Y hm FI (X.keeps k1) ?_ ⟨mg,mb,CN n1 fun b o q=>k1 b o (I.old b o q),CN n2 fun b o q=>k1 b o (I.old b o q),n3,n4⟩ ?_ ?_ he fun h' tk T' dx k2 e2=>?_
 ·cases q:S.K.lookup (h.objs.size+1) with
  |none=>rfl
  |some o=>have:=X _ _ q;exact AM qQ this
 ·exact B.qj.keeps fun b o q=>k1 b o (I.old b o q)
 ·show S.A.depth+(Code.builtin "type.__call__" ⟨[.ref C,v],[]⟩).weight<_
  rw[Nk]
  have:=G.room;lia
 ·exact⟨rfl,hq h' tk _ T' dx (fun b o q=>k2 b o (neE q) (k1 b o q)) qQ e2⟩
theorem OC:LU FA Φs:=by
 intro S hd c e v n np cp pos G qu hn hg he
 obtain⟨mg,mb,n1,n2,_,_,_,n5⟩:=G.s.good.base.names
 obtain⟨D,hD,hw⟩:=n5 c qu.1 qu.2
 obtain⟨fI,bm,Y,hm,FI⟩:=G.rM.make c D qu.1 qu.2 hD
 have star:([v]:List Expr).all (fun x=>!Ez x)=true:=by
  induction v using Expr.casesOn<;>first|rfl|(exfalso;induction e using ME.casesOn<;>with_unfolding_all exact Bb he)
 have keep:keepIn S.K (.ref D)=true:=by
  obtain⟨nm,q,N,bs,sn,sub,col,dd,k0,k1,k2,k3,k5,hC⟩:=Y.obj
  unfold keepIn;dsimp only;refine hC.symm▸?_;refine Y.call.symm▸?_;rfl
 obtain⟨nm,qn,N,bs,sn,sub,col,dd,k0,k1,k2,k3,k5,hC⟩:=Y.obj
 intro m env lg μ Q X h s E I H hX
 replace h:=(Ag (Ag h).2).2
 refine gw (hU ?_)
 refine gw (gw (Call_Name rfl (iA G.s.good.env.kind (G.s.good.env.lX _ hg) (jw (by rw[G.s.good.env.globals];exact CN n1 I.old) (by rw[hn];exact hw) ?_) (by
   refine hn.symm▸?_;obtain rfl|rfl|rfl:c=1\/c=2\/c=3:=by lia
   all_goals decide))))
 refine callWith_of (by rw[Bf _ _ _ star];rfl) (keeps_K keep) ?_
 refine(Bf _ _ _ star).symm▸?_
 refine Gp (jU ((G.s.se he _ _ _ _ _ _ h).mV I H hX fun u h1 mS mB μ1 x1 I1 H1 p1 k1 mJ=>kQ ?_))
 obtain⟨uv,ru,q⟩:=p1
 obtain⟨sv,rfl,q⟩:∃s,uv=.str s/\X (Re hd c) μ1:=by
  induction uv using V.casesOn<;>first|exact False.elim q|exact⟨_,rfl,q⟩
 refine⟨G.s.good.base.pX.keeps I1.old,Us (s:={s with heap:=h1,toks:=mS}) G qu.1 qu.2 hD I1 fun h2 nD a T dx kp na ga=>?_⟩
 have hC2:=kp _ _ (I1.old _ _ (G.s.good.base.pX _ _ hC))
 have cB:(Value.ref D :: bm).contains (.type "BaseException")=true:=by(rewrite[iG];refine Y.hasBase.symm▸?_;rewrite[jq];rfl)
 repeat(first|with_reducible refine iO ga ?_|with_reducible refine iO hC2 ?_|(with_reducible refine iQ hC2 ?_;refine cB.symm▸?_)|wp_step)
 have naH:a∉oD S.A:=fun hm=>by
  rcases H1.hl with z|⟨b,o,arr,z,kn,_⟩
  ·simp[oD,z]at hm
  ·simp[oD,z]at hm;subst hm;have:=I1.kn kn;exact AM na this
 refine LB (s:={s with heap:=h2,toks:=nD}) ((I1.rZ H1.hl).mono kp) ga rfl (by show 2<6;decide) naH fun h3 uU e3=>?_
 obtain⟨o3,g3,c3,arr,d3,z3,t3,n3⟩:=e3
 have kp3:∀b o,h1.get? b=some o->h3.get? b=some o:=fun b o q=>(uU.2 b (fun z=>by(rw[z]at q;replace q:=na▸q);exact Ao q)).trans (kp b o q)
 have hr:Re hd c % 10=c:=by induction hd using Bool.casesOn<;>unfold Re<;>dsimp only<;>lia
 have tT:a≠S.e.locals:=fun z=>by
  obtain⟨oL,gL,_⟩:=H6.of I1.ns
  (rw[<- z]at gL;replace gL:=na▸gL);exact Ao gL
 refine mJ _ _ ⟨h3,nD,mB,μ1,m,env,a,_,rfl,I1.keeps kp3,Ext.refl _,rfl,⟨I1.nJ na,I1.free na,tT,o3,arr,D,g3,by refine hr.symm▸?_;exact qu.1,by refine hr.symm▸?_;exact qu.2,by refine hr.symm▸?_;exact hD,c3,d3,by refine z3.symm▸?_;show 2<6;decide,fun oP=>?_,.inl (t3.trans rfl)⟩,q⟩
 induction hd using Bool.casesOn with
 |true=>exact absurd oP (Nat.not_lt.mpr (jh 10 c))
 |false=>rw[n3 (G.s.none rfl)];rfl
end
def R3(K:Frag)(a:Addr)(ps:List Nat)(body:MS):Prop:=
 ∃oc od sl fd b,K.lookup a=some ⟨oc,od,.func fd,sl⟩/\NX fd ps=true/\fd.body=.stmts b/\codeIn K fd.code fd.qualname=true/\Ih fd.scope.names body b=true
structure dI(K:Frag)(FA:Nat->Addr):Prop where
 fn:∀f ps body,prog f=some (.fn ps body)->R3 K (FA f) ps body
 cls:∀f c ps body,prog f=some (.cls c ps body)->c<3/\Cc K c (FA f)/\makesIn K (FA f)=true/\∃fI,findIn K (.ref (FA f)) "__init__"=some (some (.ref fI))/\typeIn K (.ref fI)=some (.type "function")/\R3 K fI ps body
structure sE(base:Heap)(K:Frag)(FA:Nat->Addr):Prop where
 qs:Ty base K FA
 exc:IN K
 rM:Np K base
 fns:dI K FA
section
variable{S:mm}{FA:Nat->Addr}{m:Str->Option Value}{env:An}{lg:Lg}{μ:MH}{s:Shared}
inductive aa(S:mm)(m:Str->Option Value)(env:An)(lg lY:Lg)(μ':MH)(h':Heap):Prop
 |mk (mU:Lg) (I:S.I m env mU μ' h') (x:Ext lg mU) (v:G1 lY mU) (n:∀b,lY.led b=none->mU.led b=none) (oL:Obj) (g:lY.led S.e.locals=some oL)
theorem Ri{Φ:Az}{m':Str->Option Value}(I0:S.I m env lg μ h)(x:Ext lg lY)(I:(S.callee fd L a m env lg Φ A).I m' env' lY μ' h') :
  aa S m env lg lY μ' h':=by
 obtain⟨I2,x2⟩:=Inv.back (f:=⟨S.e,m,AU env S.e lg⟩) (env:=env) I x I0.mG (fun _ _ q=>q) I0.vars
 obtain⟨⟨oL,g1,g2⟩,_⟩:=I.frames ⟨S.e,m,AU env S.e lg⟩ (.head _)
 obtain⟨es,ep,hd,_⟩:=g2
 refine⟨_,I2,x2,⟨fun b o v q=>?_,fun _ _ q=>q⟩,fun b q=>?_,oL,g1⟩
 ·unfold Lg.drop;dsimp only
  rw[iH];exact q
  rintro rfl;obtain rfl:=same g1 q;exact v.1.2.1 _ _ hd
 ·unfold Lg.drop;dsimp only
  split
  ·rfl
  ·exact q
theorem JX{ps:List Nat}{ws:List Value}{x:Str×Value}(h:x∈(ps.map nm).zip ws):∃p∈ps,x.1=nm p:=by
 have a:=x.1;have b:=x.2
 have:=(List.of_mem_zip h).1
 obtain⟨p,hp,e⟩:=List.mem_map.mp this
 exact⟨p,hp,e.symm⟩
theorem Rj{a:Addr}{ps:List Nat}{body:MS}{as:List V}{ws:List Value}{env':An}{A:Around}{n:Nat}{hd:Bool}{Q':Au}{X':As}{R:Result->Shared->Prop}(P:sE S.base S.K FA)(qB:R3 S.K a ps body)(B:O3 S.A S.e S.fr)
  (ih:∀(T:mm) (hd:Bool),sE T.base T.K FA->T.Φ=Ak lX prog n hd->O3 T.A T.e T.fr->T.A.depth+3*n+3<recursionLimit->T.A.units+8*n+50<cLine->(hd=false->T.A.handled=none)->T.Calls FA)
  (uq:A.handled=S.A.handled) (ur:A.frames=S.A.frames) (nM:A.depth+3*n+4<recursionLimit) (hu:A.units+8*n+53<cLine) (hh:hd=false->S.A.handled=none)
  (I:S.I m env lg μ s.heap) (H:S.H lg) (hr:Ar S.base lg as ws) (he:CP ps as (fun _=>none)=some env') (hw:Mine.ws lX (Ak lX prog n) hd body Q' X' env' μ)
  (rC:∀mf mQ mU μ2 h2 nD w,S.I m env mU μ2 h2->Ext lg mU->Q' mf mQ μ2->(match mf with|.next=>w=Value.none|.ret v=>Aw S.base mU v w|.cont=>True)->R (.ok (.ret w)) {s with heap:=h2,toks:=nD})
  (rA:∀v s',S.X m env lg s X' v s'->R (.error v) s'):codeAny S.M A (.call (.ref a) ⟨ws,[]⟩) R s:=by
 obtain⟨oc,od,sl,fd,b,hK,hc,hb,oN,rq⟩:=qB
 have F:=Mt hc
 have X:S.K.In s.heap:=P.qs.pX.keeps I.old
 have hl:ps.length=ws.length:=by(refine hr.1▸?_;refine(Fo he).symm▸?_;rfl)
 refine codeAny_call_cells (fd:=fd) (body:=b) (binds:=(ps.map nm).zip ws) (by exact qq9 nM) (X _ _ hK) rfl (P.qs.qj.keeps I.old) (codeRec_of X oN) hb (Ji F hl) F.clo (fun x hx=>?_) (fun s₁ x=>?_) F.co F.gen F.kind
 ·obtain⟨p,hp,e⟩:=JX hx
  refine e.symm▸?_
  rcases F.par p hp with q|q
  ·exact .inl q
  ·obtain⟨ca,ph⟩:=Bk fd.scope.names [] (s.heap.objs.size+1) (nm p) (.inl (AN q))
   exact .inr ⟨q,by refine ph.symm▸?_;rfl⟩
 obtain⟨lY,I',x',H'⟩:=Uv (A:=A) (a:=a) (Φ:=Ak lX prog n hd) I H F uq hr he x
 obtain⟨h1,mS,e1,_⟩:=x.done
 have FH:DU (S.callee fd s.heap.objs.size a m env lg (Ak lX prog n hd) A).A (S.callee fd s.heap.objs.size a m env lg (Ak lX prog n hd) A).e (S.callee fd s.heap.objs.size a m env lg (Ak lX prog n hd) A).fr:=Pt B ur F
 have re:(S.callee fd s.heap.objs.size a m env lg (Ak lX prog n hd) A).A.depth=A.depth+1:=rfl
 have qP:(S.callee fd s.heap.objs.size a m env lg (Ak lX prog n hd) A).A.units=A.units+3:=rfl
 have GT:Gl (S.callee fd s.heap.objs.size a m env lg (Ak lX prog n hd) A) FA (Ak lX prog n) hd:=by
  refine⟨⟨⟨P.qs,Fr F,by refine qP.symm▸?_;exact YB hu,FH.qF,fun e fr sc fi=>ih _ hd P rfl fi (by show(S.callee fd s.heap.objs.size a m env lg (Ak lX prog n hd) A).A.depth+_+_<_;refine re.symm▸?_;exact YC nM) (by show(S.callee fd s.heap.objs.size a m env lg (Ak lX prog n hd) A).A.units+_+_<_;refine qP.symm▸?_;exact YD hu) fun z=>uq.trans (hh z)⟩,rfl,FH,fun z=>uq.trans (hh z)⟩,
   P.exc,P.rM,by refine re.symm▸?_;exact eX nM,fun z b=>⟨P.qs,Fr F,by show(S.callee fd s.heap.objs.size a m env lg (Ak lX prog n hd) A).A.units+_+_<_;refine qP.symm▸?_;exact YB hu,FH.qF,fun e fr sc fi=>ih _ true P rfl fi (by show(S.callee fd s.heap.objs.size a m env lg (Ak lX prog n hd) A).A.depth+_+_<_;refine re.symm▸?_;exact YC nM) (by show(S.callee fd s.heap.objs.size a m env lg (Ak lX prog n hd) A).A.units+_+_<_;refine qP.symm▸?_;exact YD hu) fun z=>by exact FR z⟩⟩
 refine gI ((Z4 OC body).2 (S.callee fd s.heap.objs.size a m env lg (Ak lX prog n hd) A) hd b GT rq _ env' lY μ Q' X' hw s₁ _ I' H' fun v s' z=>?_) (fun fl s2 z=>?_) fun _ _ e=>e
 ·obtain⟨h2,nD,mU,μ2,m2,mQ,ea,r,rfl,I2,x2,rfl,ex,q⟩:=z
  refine gw (IC (S:=S.callee fd s.heap.objs.size a m env lg (Ak lX prog n hd) A) (s:={s₁ with heap:=h2,toks:=nD}) FH I2 ex fun h3 pi I3 x3 e3=>?_)
  refine Ef (S:=S.callee fd s.heap.objs.size a m env lg (Ak lX prog n hd) A) (s:={s₁ with heap:=h3,toks:=nD}) I3 e3 fun h4 I4 e4=>?_
  obtain⟨qN,I5,x5,_,qU,oL,gL⟩:=Ri I (x'.trans (x2.trans x3)) I4
  refine rA _ _ ⟨h4,nD,qN,μ2,ea,r,by(refine e1.symm▸?_;rfl),I5,x5,rfl,?_,q⟩
  obtain⟨o,vs,O,t⟩:=FM.iff.mp e4.at
  refine FM.iff.mpr ⟨o,vs,{O with led:=qU _ O.led,lW:=fun z=>?_},?_⟩
  ·have:=O.led;(rw[z]at this;replace this:=gL▸this);exact Rz this
  ·rcases t with t|⟨T,oT,ts,t1,t2,t3,t4,t5,t6,t7,t8⟩
   ·exact .inl t
   ·exact .inr ⟨T,oT,ts,t1,t2,qU _ t3,t4,fun z=>(by(rw[z]at t3;replace t3:=gL▸t3);exact Rz t3),t6,t7,t8⟩
 ·obtain⟨h2,nD,mU,μ2,m2,mQ,mf,rfl,I2,x2,fr,q⟩:=z
  obtain⟨qN,I5,x5,v5,_⟩:=Ri I (x'.trans x2) I2
  refine e1.symm▸?_
  refine rC mf mQ qN μ2 h2 nD _ I5 x5 q ?_
  induction mf<;>induction fl<;>first|trivial|exact fr.elim|rfl|exact fr.mK v5
end
theorem HJ(C:Addr)(vs:List Value):(Code.builtin "type.__call__" ⟨.ref C :: vs,[]⟩).weight=1:=by kernel_rfl
theorem OW(C:Addr)(vs:List Value):(Code.builtin "type.__call__" ⟨.ref C :: vs,[]⟩).cUnits=1:=by kernel_rfl
theorem QE(C:Addr)(vs:List Value):(Code.builtin "type.__call__" ⟨.ref C :: vs,[]⟩).envs=[]:=by kernel_rfl
section
variable{base:Heap}{K:Frag}{e:Env}{m:Str->Option Value}{fr:List n9}{env:An}{lg:Lg}{μ:MH}{h:Heap}
theorem UI(I:Inv base K e m fr env lg μ h)(hc:c<3)(hC:Cc K c C) :
  ∃lY,Inv base K e m fr env lY (μ++[.inst c []]) ((h.push emptyDict).push (instObj C h.objs.size))/\Ext lg lY/\lY.mu[μ.length]?=some (h.objs.size+1,h.objs.size):=by
 have sz:(h.push emptyDict).objs.size=h.objs.size+1:=i5 ..
 have I1:=I.add (h':=h.push emptyDict) (a:=h.objs.size) (o:=emptyDict) (Bl h) (fun b p q=>gF _ q) (hM h rfl)
 have x1:Ext lg (lg.put h.objs.size emptyDict):=Ext.mH _ I.fresh
 have I2:=I1.add (h':=(h.push emptyDict).push (instObj C h.objs.size)) (a:=h.objs.size+1) (o:=instObj C h.objs.size) (by refine sz▸?_;exact Bl _) (fun b p q=>gF _ q) (by
  have:=hM (h.push emptyDict) (o:=instObj C h.objs.size) rfl
  rwa [sz]at this)
 have f2:(lg.put h.objs.size emptyDict).led (h.objs.size+1)=none:=by refine sz▸?_;exact I1.free (Bl _)
 have x2:Ext (lg.put h.objs.size emptyDict) ((lg.put h.objs.size emptyDict).put (h.objs.size+1) (instObj C h.objs.size)):=Ext.mH _ f2
 have stores:∀p∈lg.mu,p.2≠h.objs.size:=fun p hp z=>by
  obtain⟨ob,q,_⟩:=I.stores hp
  (rw[z]at q;replace q:=I.fresh▸q);exact Ao q
 have frames:∀f∈fr,f.env.locals≠h.objs.size:=fun f pC z=>by
  obtain⟨⟨ob,a1,_⟩,_⟩:=I.frames f pC
  (rw[z]at a1;replace a1:=I.fresh▸a1);exact Ao a1
 have ld:((lg.put h.objs.size emptyDict).put (h.objs.size+1) (instObj C h.objs.size)).led h.objs.size=some emptyDict:=by
  rw[Lg.l8 _ _ (iU (iL _)),Lg.l9]
 have I3:=I2.new (a:=h.objs.size+1) (d:=h.objs.size) (o:=.inst c []) stores frames ⟨hc,C,hC,Lg.l9 ..,ic _,[],0,ld,.nil⟩
 refine⟨_,I3,(x1.trans x2).trans (Ext.lW _ _),?_⟩
 show(lg.mu++[(h.objs.size+1,h.objs.size)])[μ.length]?=_
 rw[<- I.heap.len,i6 (gE _)]
 simp
end
theorem NW{FA:Nat->Addr}:∀(n:Nat) (S:mm) (hd:Bool),sE S.base S.K FA->S.Φ=Ak lX prog n hd->O3 S.A S.e S.fr->S.A.depth+3*n+3<recursionLimit->S.A.units+8*n+50<cLine->(hd=false->S.A.handled=none)->S.Calls FA:=by
 intro n
 induction n with
 |zero=>
  intro S hd P hΦ B hr hu hh f as ws hf m env lg μ Q X hr h
  replace h:=hΦ▸h
  exact h.elim
 |succ n ih=>
  intro S hd P hΦ B hr hu hh f as ws hf m env lg μ Q X oZ h s E I H hX
  replace h:=hΦ▸h
  obtain⟨F,hp,h⟩:=Aq h
  ·induction F with
   |fn ps body=>
    obtain⟨env',he,hw⟩:=Aq h
    refine jR (Rj (n:=n) P (P.fns.fn f ps body hp) B (fun T uE p a b c d e=>ih T uE p a b c d e) rfl rfl (by exact mO (nB _ _ _) (.add (.add (.add (.var 0) (.mulL 3 (.var 1))) (.num 4)) (.num 1)) (.var 2) (.add (.add (.add (.var 0) (.mulL 3 (.add (.var 1) (.num 1)))) (.num 3)) (.num 1)) (.var 2) rfl hr) (by exact mO (nB _ _ _) (.add (.add (.add (.var 0) (.mulL 8 (.var 1))) (.num 53)) (.num 1)) (.var 2) (.add (.add (.add (.var 0) (.mulL 8 (.add (.var 1) (.num 1)))) (.num 50)) (.num 1)) (.var 2) rfl hu) hh I H oZ he hw (fun mf mQ mU μ2 h2 nD w I2 x2 q r=>?_) fun v s' z=>hX v s' z)
    induction mf using KY.casesOn with
    |next=>subst r;exact⟨h2,nD,mU,μ2,rfl,I2,x2,.none,.none,q⟩
    |cont=>exact q.elim
    |ret v=>exact⟨h2,nD,mU,μ2,rfl,I2,x2,v,r,q⟩
   |cls c ps body=>
    obtain⟨env',he,hw⟩:=Aq h
    obtain⟨hc,hC,hmk,fI,hi,hty,qB⟩:=P.fns.cls f c ps body hp
    have XK:S.K.In s.heap:=P.qs.pX.keeps I.old
    obtain⟨hh',g,d,t,os⟩:=s
    obtain⟨mB,I1,x1,r1⟩:=UI I hc hC
    refine jR (make_core (makes_of XK hmk) (lz XK hi) (fun self=>bind_fn XK self hty) (.inl rfl) ?_)
    have fr_:(S.A.under (.builtin "type.__call__" ⟨.ref (FA f) :: ws,[]⟩)).frames=S.A.frames:=by
     show pushEnvs (Code.builtin "type.__call__" ⟨.ref (FA f) :: ws,[]⟩).envs S.A.frames=_
     rw[QE];rfl
    have dp:(S.A.under (.builtin "type.__call__" ⟨.ref (FA f) :: ws,[]⟩)).depth=S.A.depth+1:=by
     show S.A.depth+(Code.builtin "type.__call__" ⟨.ref (FA f) :: ws,[]⟩).weight=_
     rw[HJ]
    have un:(S.A.under (.builtin "type.__call__" ⟨.ref (FA f) :: ws,[]⟩)).units=S.A.units+1:=by
     show S.A.units+(Code.builtin "type.__call__" ⟨.ref (FA f) :: ws,[]⟩).cUnits=_
     rw[OW]
    refine Rj (n:=n) (s:=⟨(hh'.push emptyDict).push (instObj (FA f) hh'.objs.size),g,d,t,os⟩) P qB B (fun T uE p a b c d e=>ih T uE p a b c d e) rfl fr_ (by refine dp.symm▸?_;exact mO (nB _ _ _) (.add (.add (.add (.add (.var 0) (.num 1)) (.mulL 3 (.var 1))) (.num 4)) (.num 1)) (.var 2) (.add (.add (.add (.var 0) (.mulL 3 (.add (.var 1) (.num 1)))) (.num 3)) (.num 1)) (.var 2) rfl hr) (by refine un.symm▸?_;exact mO (nB _ _ _) (.add (.add (.add (.add (.var 0) (.num 1)) (.mulL 8 (.var 1))) (.num 53)) (.num 1)) (.var 2) (.add (.add (.add (.var 0) (.mulL 8 (.add (.var 1) (.num 1)))) (.num 50)) (.num 1)) (.var 2) rfl hu) hh I1 (H.mono x1) (Ar.cons (.lW _ _ _ r1) (oZ.mono x1)) he hw
     (fun mf mQ mU μ2 h2 nD w I2 x2 q r=>?_) fun v s' nR=>by obtain⟨_,_,_,_,_,_,_,_,_,_,_,f⟩:=nR;exact f.elim
    induction mf using KY.casesOn with
    |next=>exact⟨r,h2,nD,mU,μ2,rfl,I2,x1.trans x2,_,.lW _ _ _ (x2.mu _ _ r1),q⟩
    |cont=>exact q.elim
    |ret v=>exact q.elim
noncomputable def lg0:Lg:=⟨fun _=>none,[]⟩
theorem Wq{pg:Program}{w:World}{A:Around}{K:Frag}{FA:Nat->Addr}{s:Shared}{a:Addr}{ps:List Nat}{body:MS}{as:List V}{ws:List Value}{env':An}{n:Nat}{Q':Au}{X':As}{R:Result->Shared->Prop}
  (P:sE s.heap K FA) (qB:R3 K a ps body) (ur:A.frames=some []) (hh:A.handled=none) (nM:A.depth+3*n+4<recursionLimit) (hu:A.units+8*n+53<cLine)
  (hr:Ar s.heap lg0 as ws) (he:CP ps as (fun _=>none)=some env') (hw:Mine.ws lX (Ak lX prog n) false body Q' X' env' [])
  (rC:∀mf mQ mU μ2 h2 nD w,(∀b o,s.heap.get? b=some o->h2.get? b=some o)->Q' mf mQ μ2->(match mf with|.next=>w=Value.none|.ret v=>Aw s.heap mU v w|.cont=>True)->R (.ok (.ret w)) {s with heap:=h2,toks:=nD})
  (rA:∀r μ,¬X' r μ):codeAny (model pg w) A (.call (.ref a) ⟨ws,[]⟩) R s:=by
 obtain⟨oc,od,sl,fd,b,hK,hc,hb,oN,rq⟩:=qB
 have F:=Mt hc
 have X:K.In s.heap:=P.qs.pX
 have hl:ps.length=ws.length:=by(refine hr.1▸?_;refine(Fo he).symm▸?_;rfl)
 refine codeAny_call_cells (fd:=fd) (body:=b) (binds:=(ps.map nm).zip ws) (by exact qq9 nM) (X _ _ hK) rfl P.qs.qj (codeRec_of X oN) hb (Ji F hl) F.clo (fun x hx=>?_) (fun s₁ x=>?_) F.co F.gen F.kind
 ·obtain⟨p,hp,e⟩:=JX hx
  refine e.symm▸?_
  rcases F.par p hp with q|q
  ·exact .inl q
  ·obtain⟨ca,ph⟩:=Bk fd.scope.names [] (s.heap.objs.size+1) (nm p) (.inl (AN q))
   exact .inr ⟨q,by refine ph.symm▸?_;rfl⟩
 obtain⟨h1,mS,e1,_⟩:=x.done
 let S:mm:={pg:=pg,w:=w,A:=A.deeper (callEnvC fd s.heap.objs.size a),base:=s.heap,K:=K,e:=callEnvC fd s.heap.objs.size a,fr:=[],sc:=fd.scope.names,Φ:=Ak lX prog n false}
 let C:Addr->Prop:=fun a=>s.heap.objs.size<a/\∃o,s₁.heap.get? a=some o/\Da o
 have oJ:∀n ca,(callEnvC fd s.heap.objs.size a).cells.lookup n=some ca->C ca/\s₁.heap.IsCell ca ((bindC (callEnvC fd s.heap.objs.size a).kindOf ((ps.map nm).zip ws) fun _=>none) n):=fun n ca q=>by
  have c:=x.cell n ca q
  obtain⟨o,ho,hd⟩:=id c
  exact⟨⟨x.above n ca (mem_of_lookup q),o,ho,_,hd⟩,c⟩
 have xg:Ext lg0 (lg0.nG C s₁.heap):=⟨fun _ _ _ q=>(by exact Ao q),fun _ _ _ q=>(by exact nomatch q),fun _ _ q=>(by simp[lg0]at q)⟩
 have rel:=NP (lg:=lg0.nG C s₁.heap) (kindOf:=(callEnvC fd s.heap.objs.size a).kindOf) (m0:=fun _=>none) (c0:=fun _=>none) (hr.mono xg) he F.lt (fun y v _ q=>by exact Ao q)
 have I':S.I (bindL (callEnvC fd s.heap.objs.size a).kindOf ((ps.map nm).zip ws) fun _=>none) env' (lg0.nG C s₁.heap) [] s₁.heap:=by
  refine⟨x.toInCall.keep,x.toInCall.ns,C5 (gE _),?_,fun b p q=>?_,fun f hf=>(by exact nomatch hf),?_,fun f hf=>(by exact nomatch hf),fun y v q ss=>?_,?_⟩
  ·rw[Lg.nk fun z=>absurd z.1 (ib _)];rfl
  ·by_cases z:C b
   ·replace q:=(Lg.nq z)▸q;exact⟨q,C5 (j7 z.1)⟩
   ·exact AM (Lg.nk z) q
  ·exact List.Pairwise.cons (fun _ h=>by exact nomatch h) List.Pairwise.nil
  ·have r1:=(rel y v ss.1 q).1;have r2:=(rel y v ss.1 q).2
   refine⟨ss.1,?_⟩
   rcases ss.2 with z|z
   ·exact .inl ⟨z,r1 z⟩
   ·obtain⟨w',sY,oF⟩:=r2 z
    obtain⟨ca,ph⟩:=Bk fd.scope.names [] (s.heap.objs.size+1) (nm y) (.inl (AN z))
    obtain⟨hp,o,ho,hd⟩:=oJ _ ca ph
    replace hd:=sY▸hd
    exact .inr ⟨z,ca,o,w',ph,by refine(Lg.nq hp).symm▸?_;exact ho,hd,oF⟩
  ·exact⟨rfl,k8,fun n o q=>by simp at q⟩
 have H':S.H (lg0.nG C s₁.heap):=by
  refine⟨.inl hh,⟨fun n ca _ _ f hf=>(by exact nomatch hf),fun n n' ca q1 q2=>name_of_addr x.apart (mem_of_lookup q1) (mem_of_lookup q2),fun n q=>?_⟩⟩
  rcases q with q|q
  ·obtain⟨ca,ph⟩:=Bk fd.scope.names [] (s.heap.objs.size+1) n (.inl (AN q))
   have hp:=(oJ _ ca ph).1
   obtain⟨o,ho,hc⟩:=id hp.2
   exact⟨ca,o,ph,hc,by exact(Lg.nq hp).trans (ho)⟩
  ·have:=(F.vb n .free (AN q)).2;simp at this
 have FH:DU S.A S.e S.fr:=by
  refine⟨[],by show(A.frames.map _)=_;refine ur.symm▸?_;rfl,fun x hm=>?_⟩
  rcases List.mem_cons.mp hm with rfl|hm
  ·exact⟨.inl rfl,rfl,fun z=>by have:=F.kind;have z:fd.scope.kind=.module:=z;replace z:=this▸z;exact nomatch z⟩
  ·exact nomatch hm
 have re:S.A.depth=A.depth+1:=rfl
 have qP:S.A.units=A.units+3:=rfl
 have GT:Gl S FA (Ak lX prog n) false:=by
  refine⟨⟨⟨P.qs,Fr F,by refine qP.symm▸?_;exact YB hu,FH.qF,fun e fr sc fi=>NW n _ false P rfl fi (by show S.A.depth+_+_<_;refine re.symm▸?_;exact YC nM) (by show S.A.units+_+_<_;refine qP.symm▸?_;exact YD hu) fun _=>hh⟩,rfl,FH,fun _=>hh⟩,
   P.exc,P.rM,by refine re.symm▸?_;exact eX nM,fun z b=>⟨P.qs,Fr F,by show S.A.units+_+_<_;refine qP.symm▸?_;exact YB hu,FH.qF,fun e fr sc fi=>NW n _ true P rfl fi (by show S.A.depth+_+_<_;refine re.symm▸?_;exact YC nM) (by show S.A.units+_+_<_;refine qP.symm▸?_;exact YD hu) fun z=>by exact FR z⟩⟩
 refine gI ((Z4 OC body).2 S false b GT rq _ env' _ [] Q' X' hw s₁ _ I' H' fun v s' z=>?_) (fun fl s2 z=>?_) fun _ _ e=>e
 ·obtain⟨h2,nD,mU,μ2,m2,mQ,ea,r,_,_,_,_,_,q⟩:=z
  exact absurd q (rA r μ2)
 ·obtain⟨h2,nD,mU,μ2,m2,mQ,mf,rfl,I2,x2,fr,q⟩:=z
  refine e1.symm▸?_
  refine rC mf mQ mU μ2 h2 nD _ I2.old q ?_
  induction mf<;>induction fl<;>first|trivial|exact fr.elim|rfl|exact fr
noncomputable def Lw(K:Frag)(a:Addr)(f:Value->Data->Array (Option Value)->Bool):Bool:=match K.lookup a with
 |some o=>f o.cls o.data o.slots
 |none=>false
theorem GM{K:Frag}{f:Value->Data->Array (Option Value)->Bool}{P:Prop}(h:Lw K a f=true)(k:∀c dd d sl,K.lookup a=some ⟨c,dd,d,sl⟩->f c d sl=true->P):P:=by
 unfold Lw at h
 cases q:K.lookup a with
 |none=>replace h:=q▸h;exact Bb h
 |some o=>rw[q]at h;exact k _ _ _ _ q h
noncomputable def MV(d:Data)(f:FuncData->Bool):Bool:=BO d.ctorIdx 7 fun h=>Data.func.elim d h f
@[elab_as_elim] theorem Lu{f:FuncData->Bool}{P:Data->Prop}(h:MV d f=true)(k:∀x,f x=true->P (.func x)):P d:=
 if q:d.ctorIdx=7 then Data.func.elim (motive:=fun d=>MV d f=true->P d) d q k h else Bb ((AA q).symm.trans h)
noncomputable def P5(d:Data)(f:ClassData->Bool):Bool:=BO d.ctorIdx 8 fun h=>Data.cls.elim d h f
@[elab_as_elim] theorem SY{f:ClassData->Bool}{P:Data->Prop}(h:P5 d f=true)(k:∀x,f x=true->P (.cls x)):P d:=
 if q:d.ctorIdx=8 then Data.cls.elim (motive:=fun d=>P5 d f=true->P d) d q k h else Bb ((AA q).symm.trans h)
noncomputable def Vs(d:Data)(f:Array Value->Bool):Bool:=BO d.ctorIdx 2 fun h=>Data.seq.elim d h fun x _=>f x
@[elab_as_elim] theorem Vt{f:Array Value->Bool}{P:Data->Prop}(h:Vs d f=true)(k:∀x n,f x=true->P (.seq x n)):P d:=
 if q:d.ctorIdx=2 then Data.seq.elim (motive:=fun d=>Vs d f=true->P d) d q k h else Bb ((AA q).symm.trans h)
noncomputable def MW(v:Value)(f:Int->Bool):Bool:=BO v.ctorIdx 4 fun h=>Value.int.elim v h fun i _=>f i
@[elab_as_elim] theorem Lv{f:Int->Bool}{P:Value->Prop}(h:MW v f=true)(k:∀i t,f i=true->P (.int i t)):P v:=
 if q:v.ctorIdx=4 then Value.int.elim (motive:=fun v=>MW v f=true->P v) v q k h else Bb ((AA q).symm.trans h)
noncomputable def M0(v:Value)(f:Str->Bool):Bool:=BO v.ctorIdx 6 fun h=>Value.str.elim v h fun s _=>f s
@[elab_as_elim] theorem S5{f:Str->Bool}{P:Value->Prop}(h:M0 v f=true)(k:∀s t,f s=true->P (.str s t)):P v:=
 if q:v.ctorIdx=6 then Value.str.elim (motive:=fun v=>M0 v f=true->P v) v q k h else Bb ((AA q).symm.trans h)
noncomputable def RC(o:Option (Option Value))(f:Value->Bool):Bool:=CH o fun x=>CH x f
@[elab_as_elim] theorem J6{f:Value->Bool}{P:Option (Option Value)->Prop}(h:RC o f=true)(k:∀v,f v=true->P (some (some v))):P o:=
 BQ h fun x h=>BQ (P:=fun x=>P (some x)) h k
section
variable[deq:DecidableEq Str]
noncomputable def PX(v:Value)(n:Str):Bool:=M0 v fun s=>s==n
noncomputable def Im(K:Frag)(ns:Addr)(n:Str):Option (Option Value):=match K.lookup ns with
 |some o=>if h:o.data.ctorIdx=3 then Data.dict.elim o.data h fun es _=>(match es.toList.find? (fun e=>PX e.key n) with
   |some e=>some (some e.val)
   |none=>bif es.toList.any (·.refKey)then none else some none)else none
 |none=>none
noncomputable def ZA(v:Value):Option Addr:=if h:v.ctorIdx=10 then Value.ref.elim v h some else none
noncomputable def DN(K:Frag)(n:Str):Option Addr:=(Im K mainGlobals n).bind fun x=>x.bind ZA
noncomputable def Sy(K:Frag)(f:Nat):Addr:=(DN K (nm f)).getD 0
noncomputable def PT:List V->List Value->Bool
 |[],r=>BM r true
 |v :: l,r=>BL r fun w r=>CH (Cx v) fun i=>MW w fun j=>i==j&&PT l r
noncomputable def ZS(K:Frag)(v:V)(w:Value):Bool:=match v with
 |.int i=>MW w fun j=>i==j
 |.str l=>M0 w fun s=>s==sx l&&(decide (l.length<=lim)&&l.all (fun c=>decide (c<128)))
 |.tup l=>J7 w fun a=>Lw K a fun c d _=>c==.type "tuple"&&Vs d fun vs=>PT l vs.toList&&decide (l.length<=lim)
 |_=>false
noncomputable def Uu(K:Frag)(a:Addr)(ps:List Nat)(body:MS):Bool:=Lw K a fun _ d _=>MV d fun fd=>NX fd ps&&(codeIn K fd.code fd.qualname&&MZ fd.body (Ih fd.scope.names body))
noncomputable def Mu(K:Frag):Bool:=Rl.all fun x=>RC (Im K mainGlobals (nm x.1)) (ZS K x.2)
noncomputable def M5(K:Frag)(a:Addr)(F:q9):Bool:=match F with
 |.fn ps body=>Uu K a ps body
 |.cls c ps body=>decide (c<3)&&((Im K mainGlobals (sx (T7 c))==some (some (.ref a)))&&(makesIn K a&&RC (findIn K (.ref a) "__init__") fun v=>J7 v fun fI=>(typeIn K (.ref fI)==some (.type "function"))&&Uu K fI ps body))
noncomputable def CJ(K:Frag)(l:List (Nat×q9)):Bool:=l.all fun x=>CH (DN K (nm x.1)) fun a=>keepIn K (.ref a)&&M5 K a x.2
noncomputable def IG(K:Frag):Bool:=CJ K Co
noncomputable def Pm(K:Frag):Bool:=[0,1,2,3,4].all fun i=>(Im K mainGlobals (Str.ofString (HQ i))==some none)&&(Im K builtinsNs (Str.ofString (HQ i))==some (some (Jk i)))
noncomputable def Pw(K:Frag)(C:Addr):Bool:=(findIn K (.ref C) "__setattr__"==some (some (.builtin "object.__setattr__")))&&(plainOver K C&&(hasDictIn K C&&EI.all fun a=>(takerIn K C (nm a)==some none)&&(plainGet K C (nm a)&&(findIn K (.ref C) (nm a)==some none))))
noncomputable def Pv(K:Frag):Bool:=[0,1,2].all fun c=>CH (DN K (sx (T7 c))) (Pw K)
noncomputable def Oa(K:Frag)(C:Addr)(f:List Value->Bool):Bool:=Lw K C fun c d sl=>(c==.type "type")&&P5 d fun cd=>cd.hasDict&&(!cd.abstract&&(!cd.hasDel&&BL cd.mro fun r bm=>(r==.ref C)&&
 BL sl.toList fun _ l=>BL l fun _ l=>BL l fun _ l=>BL l fun _ l=>BL l fun x l=>CH x fun x=>(x==.builtin "Exception.__new__")&&pz l fun _=>f bm))
noncomputable def Up(K:Frag)(c:Nat)(C:Addr)(bm:List Value):Bool:=bm.contains (.type "Exception")&&(bm.contains (.type "BaseException")&&(!bm.contains (.type "AttributeError")&&(!bm.contains (.type "NameError")&&
   ((specialIn K (.ref C) "__call__"==some (some (.builtin "type.__call__")))&&((instIn K (.ref C) (.type "type")==some true)&&((typeIn K (.ref C)==some (.type "type"))&&
   ((findIn K (.ref C) "__setattr__"==some (some (.builtin "object.__setattr__")))&&((findIn K (.ref C) "text"==some none)&&(CZ bm&&
   (([1,2,3].all fun d=>CH (DN K (Str.ofString (EK d))) fun D=>(Value.ref C :: bm).contains (.ref D)==DW c d)&&
   RC (findIn K (.ref C) "__init__") fun v=>J7 v fun fI=>(typeIn K (.ref fI)==some (.type "function"))&&Lw K fI fun _ d _=>MV d fun fd=>Q2 fd&&codeIn K fd.code fd.qualname))))))))))
noncomputable def Mo(K:Frag):Bool:=[1,2,3].all fun c=>CH (DN K (Str.ofString (EK c))) fun C=>Oa K C (Up K c C)
noncomputable def Fl(K:Frag):Bool:=Mu K&&(IG K&&(Pm K&&(Pv K&&(Mo K&&((Im K mainGlobals "Exception"==some none)&&(Im K builtinsNs "Exception"==some (some (.type "Exception"))))))))
noncomputable def M8(K:Frag):Bool:=Mu K&&(Pm K&&(Pv K&&(Mo K&&((Im K mainGlobals "Exception"==some none)&&(Im K builtinsNs "Exception"==some (some (.type "Exception")))))))
theorem O7(h:a=true)(k:b=true):(a&&b)=true:=by rw[h];exact k
theorem Tr{K:Frag}(g:M8 K=true)(p:IG K=true):Fl K=true:=O7 (Al g) (O7 p (Aa g))
theorem FT{K:Frag}{l:List (Nat×q9)}(i:Nat)(a:CJ K (l.take i)=true)(b:CJ K (l.drop i)=true):CJ K l=true:=by
 have e:CJ K (l.take i++l.drop i)=true:=(List.all_append ..).trans (O7 a b)
 rw[jB]at e
 exact e
theorem Qg{K:Frag}(i:Nat)(a:CJ K (Co.take i)=true)(b:CJ K (Co.drop i)=true):IG K=true:=FT i a b
end
section
variable{K:Frag}{h:Heap}
theorem SM(v:Value)(n:Str):PX v n=v.isStr n:=by induction v<;>rfl
theorem DO(ns:Addr)(n:Str):Im K ns n=nsIn K ns n:=by
 unfold Im nsIn
 refine(show(fun e:DictEntry=>PX e.key n)=fun e=>e.key.isStr n from funext fun e=>SM _ _).symm▸?_
 cases K.lookup ns with
 |none=>rfl
 |some o=>
  obtain⟨c,d,dt,sl⟩:=o
  induction dt with
  |dict es n'=>
   show(match es.toList.find? (fun e=>e.key.isStr n)with|some e=>some (some e.val)|none=>bif es.toList.any (·.refKey)then none else some none)=(match es.toList.find? (fun e=>e.key.isStr n)with|some e=>some (some e.val)|none=>if es.toList.any (·.refKey)then none else some none)
   cases es.toList.find? (fun e=>e.key.isStr n) with
   |some e=>rfl
   |none=>cases es.toList.any (·.refKey)<;>rfl
  |_=>rfl
theorem Ga{m:Str->Option Value}(X:K.In h)(N:h.Ns a m)(e:nsIn K a n=some r):m n=r:=by
 obtain⟨o,es,ep,g,d,_,f⟩:=N
 rw[<- f n]
 unfold nsFind findBy
 rw[<- Array.find?_toList]
 unfold nsIn at e
 cases q:K.lookup a with
 |none=>rw[q]at e;exact nomatch e
 |some o'=>
  rw[q]at e
  obtain rfl:=Option.some.inj ((X _ _ q).symm.trans g)
  obtain⟨c,dd,dt,sl⟩:=o'
  obtain rfl:dt=_:=d
  replace e:(match es.toList.find? (fun e=>e.key.isStr n)with|some e=>some (some e.val)|none=>if es.toList.any (·.refKey)then none else some none)=some r:=e
  clear f q g
  cases z:es.toList.find? (fun e=>e.key.isStr n) with
  |some e'=>rw[z]at e;exact Option.some.inj e
  |none=>
   rw[z]at e
   dsimp only at e
   cases y:es.toList.any (·.refKey) with
   |true=>rw[y]at e;exact nomatch e
   |false=>rw[y]at e;exact Option.some.inj e
theorem TF(e:ZA v=some a):v=.ref a:=by
 induction v<;>first|exact congrArg Value.ref (Option.some.inj e)|exact nomatch e
theorem JH(e:DN K n=some a):nsIn K mainGlobals n=some (some (.ref a)):=by
 obtain⟨x,hx,e⟩:=Option.bind_eq_some_iff.mp e
 obtain⟨v,rfl,e⟩:=Option.bind_eq_some_iff.mp e
 rw[TF e,DO]at hx
 exact hx
theorem JI(e:nsIn K mainGlobals n=some (some (.ref a))):DN K n=some a:=by
 unfold DN;rw[DO,e];rfl
theorem PW{l:List V}:∀{r:List Value},PT l r=true->l.length=r.length/\∀(i:Nat) (v:V) (w:Value),l[i]?=some v->r[i]?=some w->Aw h lg v w:=by
 induction l with
 |nil=>exact fun e=>AP e fun _=>⟨rfl,fun i v w a=>Ao a⟩
 |cons x l ih=>
  intro r e
  refine A1 (l:=r) e fun y r e'=>?_
  cases q:Cx x with
  |none=>rw[q]at e';exact Bb e'
  |some i=>
   rw[q]at e'
   obtain rfl:=Fa q
   refine Lv e' fun j t e=>?_
   obtain rfl:i=j:=gM (Al e)
   refine⟨congrArg Nat.succ (ih (Aa e)).1,fun n v w a b=>?_⟩
   cases n with
   |zero=>obtain rfl:=Option.some.inj a;obtain rfl:=Option.some.inj b;exact .int _ _
   |succ n=>exact(ih (Aa e)).2 n v w a b
theorem SQ(X:K.In h)(e:ZS K v w=true)(lg:Lg):Aw h lg v w:=by
 cases v with
 |int i=>exact Lv e fun j t e=>EW e (.int _ _)
 |str l=>exact S5 e fun s t e=>ZK (gM (Al e)).symm (.str _ _ ⟨gG (Al (Aa e)),fun c hc=>gG (List.all_eq_true.mp (Aa (Aa e)) c hc)⟩)
 |tup l=>
  refine GN e fun a e=>GM e fun c dd d sl hl e=>?_
  obtain rfl:c=.type "tuple":=gM (Al e)
  replace e:=Aa e
  revert hl
  refine Vt e fun vs n e hl=>?_
  obtain⟨k1,k2⟩:=PW (h:=h) (lg:=lg) (Al e)
  exact .tup _ a _ vs n ⟨⟨by simp,by simp,by simp⟩,.inr (X _ _ hl)⟩ rfl rfl (by simpa using k1) (gG (Aa e)) fun i v w a b=>k2 i v w a (by simpa using b)
 |_=>exact Bb e
theorem Oe(e:Uu K a ps body=true):R3 K a ps body:=by
 refine GM e fun c dd d sl hl e=>?_
 revert hl
 exact Lu e fun fd e hl=>J9 (Aa (Aa e)) fun b hb e'=>⟨c,dd,sl,fd,b,hl,Al e,hb,Al (Aa e),e'⟩
theorem JS{β:Type}{l:List (Nat×β)}{p:Nat×β->Bool}(h:l.all p=true){x:Nat}{v:β}(e:l.lookup x=some v):p (x,v)=true:=by
 induction l with
 |nil=>exact Ao e
 |cons y r ih=>
  have h:=BV h
  rw[hO]at e
  cases q:x==y.1 with
  |true=>replace e:=q▸e;obtain rfl:=Option.some.inj e;refine(gM q).symm▸?_;exact h.1
  |false=>rw[q]at e;exact ih h.2 e
structure LQ(K:Frag)(c:Nat)(C:Addr)(bm:List Value)(fI:Addr):Prop where
 hasB:bm.contains (.type "Exception")=true
 hasBase:bm.contains (.type "BaseException")=true
 noAttr:bm.contains (.type "AttributeError")=false
 noName:bm.contains (.type "NameError")=false
 call:specialIn K (.ref C) "__call__"=some (some (.builtin "type.__call__"))
 typ:instIn K (.ref C) (.type "type")=some true
 tt:typeIn K (.ref C)=some (.type "type")
 set:findIn K (.ref C) "__setattr__"=some (some (.builtin "object.__setattr__"))
 free:findIn K (.ref C) "text"=some none
 over:CZ bm=true
 sub:∀d D,1<=d->d<=3->DN K (Str.ofString (EK d))=some D->(Value.ref C :: bm).contains (.ref D)=DW c d
 init:findIn K (.ref C) "__init__"=some (some (.ref fI))
 fn:typeIn K (.ref fI)=some (.type "function")
 u0:O5 K fI
theorem Ob{f:List Value->Bool}{P:Prop}(e:Oa K C f=true)
  (k:∀bm,O2 K C bm->f bm=true->P):P:=by
 refine GM e fun c dd d sl hl e=>?_
 obtain rfl:c=.type "type":=gM (Al e)
 replace e:=Aa e
 revert hl
 refine SY e fun cd e hl=>?_
 obtain⟨a,b,mro,d,f,hd,i,j,ab,n,de⟩:=cd
 obtain rfl:hd=true:=Al e
 obtain rfl:ab=false:=CF (Al (Aa e))
 obtain rfl:de=false:=CF (Al (Aa (Aa e)))
 replace e:=Aa (Aa (Aa e))
 revert hl
 refine A1 (l:=mro) e fun r bm e hl=>?_
 obtain rfl:r=.ref C:=gM (Al e)
 replace e:=Aa e
 obtain⟨sl⟩:=sl
 revert hl
 refine A1 (l:=sl) e fun k0 l e=>A1 e fun k1 l e=>A1 e fun k2 l e=>A1 e fun k3 l e=>A1 e fun x l e=>BQ e fun x e=>?_
 obtain rfl:x=.builtin "Exception.__new__":=gM (Al e)
 exact B4 (Aa e) fun k5 e hl=>k bm ⟨_,_,_,_,_,_,_,_,k0,k1,k2,k3,k5,hl⟩ e
theorem LQ.mk'(A:LQ K c C bm fI)(o:O2 K C bm):HK K C fI bm/\(∃cd,clsIn K C=some cd/\CZ cd.mro=true)/\Tz K C bm:=by
 refine⟨⟨o,A.hasB,A.hasBase,A.noAttr,A.noName,A.init,A.fn,A.call,A.typ,A.tt,A.set,A.free⟩,?_⟩
 obtain⟨nm,q,N,bs,sn,sub,col,dd,k0,k1,k2,k3,k5,hC⟩:=o
 exact⟨⟨_,by unfold clsIn;rw[hC],A.over⟩,nm,q,N,bs,true,sn,sub,false,col,dd,k0,k1,k2,k3,k5,_,hC,A.hasBase⟩
theorem IT{α:Type}[DecidableEq α]{l:List α}{p:α->Bool}(h:l.all p=true)(x:α)(hx:(l.contains x)=true):p x=true:=List.all_eq_true.mp h x (List.contains_iff_mem.mp hx)
theorem Ko(h1:1<=c)(h2:c<=3):[1,2,3].contains c=true:=by
 obtain rfl|rfl|rfl:c=1\/c=2\/c=3:=by lia
 all_goals rfl
theorem aO(h:c<3):[0,1,2].contains c=true:=by
 obtain rfl|rfl|rfl:c=0\/c=1\/c=2:=by lia
 all_goals rfl
theorem aq(h:c<5):[0,1,2,3,4].contains c=true:=by
 obtain rfl|rfl|rfl|rfl|rfl:c=0\/c=1\/c=2\/c=3\/c=4:=by lia
 all_goals rfl
theorem Mh(e:Pv K=true)(hC:Cc K c C)(hc:c<3):Pw K C=true:=by
 have:=IT e c (aO hc)
 rw[JI hC]at this
 exact this
theorem aV(e:Mo K=true)(h1:1<=c)(h2:c<=3):∃C,DN K (Str.ofString (EK c))=some C:=by
 have:=IT e c (Ko h1 h2)
 generalize DN K (Str.ofString (EK c))=o at this
 exact BQ this fun C _=>⟨C,rfl⟩
theorem PI(e:Up K c C bm=true):∃fI,LQ K c C bm fI:=by
 have a1:=Al e
 replace e:=Aa e
 have a2:=Al e
 replace e:=Aa e
 have a3:=CF (Al e)
 replace e:=Aa e
 have a4:=CF (Al e)
 replace e:=Aa e
 have a5:=gM (Al e)
 replace e:=Aa e
 have a6:=gM (Al e)
 replace e:=Aa e
 have a7:=gM (Al e)
 replace e:=Aa e
 have a8:=gM (Al e)
 replace e:=Aa e
 have a9:=gM (Al e)
 replace e:=Aa e
 have a10:=Al e
 replace e:=Aa e
 have a11:=Al e
 replace e:=Aa e
 have a12:∀d D,1<=d->d<=3->DN K (Str.ofString (EK d))=some D->(Value.ref C :: bm).contains (.ref D)=DW c d:=fun d D d1 d2 hD=>by
  have:=IT a11 d (Ko d1 d2)
  rw[hD]at this
  exact gM this
 clear a11
 generalize hi:findIn K (.ref C) "__init__"=o at e
 revert hi
 refine J6 e fun v e=>GN e fun fI e hi=>?_
 have b1:=gM (Al e)
 refine GM (Aa e) fun oc od d sl hl e=>?_
 revert hl
 exact Lu e fun fd e hl=>⟨fI,a1,a2,a3,a4,a5,a6,a7,a8,a9,a10,a12,hi,b1,⟨oc,od,sl,fd,hl,Al e,Aa e⟩⟩
theorem Rf(e:Mo K=true)(h1:1<=c)(h2:c<=3)(hC:E7 K c C):∃fI bm,HK K C fI bm/\(∃cd,clsIn K C=some cd/\CZ cd.mro=true)/\Tz K C bm/\LQ K c C bm fI:=by
 have:=IT e c (Ko h1 h2)
 rw[JI hC]at this
 refine Ob this fun bm o e=>?_
 obtain⟨fI,A⟩:=PI e
 exact⟨fI,bm,(A.mk' o).1,(A.mk' o).2.1,(A.mk' o).2.2,A⟩
theorem IH(e:IG K=true)(hf:prog f=some F):DN K (nm f)=some (Sy K f)/\keepIn K (.ref (Sy K f))=true/\M5 K (Sy K f) F=true:=by
 have:=JS e hf
 unfold Sy
 generalize DN K (nm f)=o at this
 exact BQ this fun a h=>⟨rfl,Al h,Aa h⟩
theorem Xy(X:K.In h){mg:Str->Option Value}(ng:h.Ns mainGlobals mg)(e:Mu K=true)(hv:lX x=some v):∃w,mg (nm x)=some w/\∀lg,Aw h lg v w:=by
 have:=JS e hv
 generalize q:Im K mainGlobals (nm x)=o at this
 revert q
 exact J6 this fun w h q=>⟨w,Ga X ng ((DO _ _).symm.trans q),fun lg=>SQ X h lg⟩
theorem ao(X:K.In h){mg mb:Str->Option Value}(ng:h.Ns mainGlobals mg)(nb:h.Ns builtinsNs mb)(e:Pm K=true)(hi:i<5):mg (Str.ofString (HQ i))=none/\mb (Str.ofString (HQ i))=some (Jk i):=by
 have:=IT e i (aq hi)
 exact⟨Ga X ng ((DO _ _).symm.trans (gM (Al this))),Ga X nb ((DO _ _).symm.trans (gM (Aa this)))⟩
theorem N1(e:Pw K C=true)(a:Nat)(ha:a∈EI):takerIn K C (nm a)=some none/\plainGet K C (nm a)=true/\findIn K (.ref C) (nm a)=some none:=by
 have:=List.all_eq_true.mp (Aa (Aa (Aa e))) a ha
 exact⟨gM (Al this),Al (Aa this),gM (Aa (Aa this))⟩
theorem Xr(q:M5 K a (.cls c ps body)=true):c<3/\Cc K c a/\makesIn K a=true/\∃fI,findIn K (.ref a) "__init__"=some (some (.ref fI))/\typeIn K (.ref fI)=some (.type "function")/\R3 K fI ps body:=by
 refine⟨gG (Al q),(DO _ _).symm.trans (gM (Al (Aa q))),Al (Aa (Aa q)),?_⟩
 replace q:=Aa (Aa (Aa q))
 generalize findIn K (.ref a) "__init__"=o at q
 exact J6 q fun v q=>GN q fun fI q=>⟨fI,rfl,gM (Al q),Oe (Aa q)⟩
theorem ci(X:K.In h)(qh:h.NoLimit){mg mb:Str->Option Value}(ng:h.Ns mainGlobals mg)(nb:h.Ns builtinsNs mb)(e:Fl K=true):sE h K (Sy K):=by
 have e1:=Al e
 replace e:=Aa e
 have e2:=Al e
 replace e:=Aa e
 have e3:=Al e
 replace e:=Aa e
 have e4:=Al e
 replace e:=Aa e
 have e5:=Al e
 replace e:=Aa e
 refine⟨⟨X,qh,⟨fun c C h1 h2=>⟨gM (Al (Mh e4 h1 h2)),Al (Aa (Mh e4 h1 h2)),Al (Aa (Aa (Mh e4 h1 h2)))⟩,fun c C h1 h2=>N1 (Mh e4 h1 h2)⟩,mg,mb,ng,nb,fun x v hv=>Xy X ng e1 hv,fun f hf=>?_,fun i hi=>ao X ng nb e3 hi,fun c h1 h2=>?_⟩,⟨fun c C h1 h2 hC=>?_⟩,
  ⟨fun c C h1 h2 hC=>?_,mg,mb,ng,nb,Ga X ng ((DO _ _).symm.trans (gM (Al e))),Ga X nb ((DO _ _).symm.trans (gM (Aa e)))⟩,⟨fun f ps body hf=>Oe (IH e2 hf).2.2,fun f c ps body hf=>Xr (IH e2 hf).2.2⟩⟩
 ·obtain⟨F,hp⟩:=Option.isSome_iff_exists.mp hf
  exact⟨Ga X ng (JH (IH e2 hp).1),(IH e2 hp).2.1⟩
 ·obtain⟨C,hC⟩:=aV e5 h1 h2
  exact⟨C,JH hC,Ga X ng (JH hC)⟩
 ·obtain⟨fI,bm,_,_,k3,k4⟩:=Rf e5 h1 h2 hC
  exact⟨bm,k3,fun d D d1 d2 hD=>k4.sub d D d1 d2 (JI hD)⟩
 ·obtain⟨fI,bm,k1,k2,_,k4⟩:=Rf e5 h1 h2 hC
  exact⟨fI,bm,k1,k2,k4.u0⟩
end
noncomputable def GY(ok:Thread->Bool)(stp:SharedT->Thread->Option (SharedT×Thread)):Nat->SharedT->Thread->Option SharedT
 |0,_,_=>none
 |n+1,s,t=>match through t with
  |true=>some s
  |false=>match ok t with
   |false=>none
   |true=>match stp s t with
    |some (s',t')=>GY ok stp n s' t'
    |none=>none
theorem Ts{tb:String->Option Builtin}{p:Program}{w:World}{n₀:Nat}{ann:Option Value}{n:Nat}{s s':SharedT}{t:Thread}(h:GY (stepOk n₀ ann) (stepT (denote tb) p w) n s t=some s'):topRun tb p w n₀ ann n s.abs t=some s'.abs:=by
 induction n generalizing s t with
 |zero=>exact Ao h
 |succ n ih=>
  unfold GY at h
  unfold topRun
  cases ht:through t with
  |true=>replace h:=ht▸h;obtain rfl:=Option.some.inj h;rfl
  |false=>
   replace h:=ht▸h
   cases hk:stepOk n₀ ann t with
   |false=>replace h:=hk▸h;exact Ao h
   |true=>
    replace h:=hk▸h
    cases hs:stepT (denote tb) p w s t with
    |none=>replace h:=hs▸h;exact Ao h
    |some r=>obtain⟨s₂,t₂⟩:=r;rw[hs]at h;refine(stepT_spec hs).symm▸?_;exact ih h
noncomputable def Jl(P:Params):BT:=
 .node (boot_o_0 P) (.node (boot_o_1 P) (.node (boot_o_3 P) (.node (boot_o_7 P) .nil .nil) .nil) (.node (boot_o_5 P) (.node (boot_o_9 P) .nil .nil) .nil))
  (.node (boot_o_2 P) (.node (boot_o_4 P) (.node (boot_o_8 P) .nil .nil) .nil) (.node (boot_o_6 P) (.node (boot_o_10 P) .nil .nil) .nil))
theorem KK(P:Params):absHeap (Jl P) 11 (boot_heap P).life=boot_heap P:=by kernel_rfl
noncomputable def TN(w:World)(os:OsState):SharedT:=⟨Jl w.params,11,(boot_heap w.params).life,#[],boot_drawn,boot_toks,os⟩
noncomputable def Gv(w:World):Option Value:=(boot_heap w.params).nsMap mainGlobals "__annotations__"
noncomputable abbrev pw:=PySem.Challenge.pw_pf0107_01
noncomputable def KX:List Nat:=[0,3,27,28,30,31,47,48,50,51,66,67,69,70,81,82,93,94,105,106,114,115,121,122,128,129,135,136,142,143,149,150,156,157,163,164,170,171,177,178,184,185,191,192,198,199,205,206,212,213,219,220,226,227,233,234,235,236,249,250,252,253,263,264,270,271,277,278,284,285,291,292,298,299,305,306,312,313,319,320,326,327,333,334,340,341,347,348,354,355,368,369,371,372,382,383,389,390,396,397,403,404,410,411,417,418,424,425,431,432,438,439,445,446,452,453,459,460,466,467,473,474,480,481,487,488,494,495,501,502,508,509,515,516,522,523,529,530,536,537,543,544,550,551,557,558,564,565,571,572,578,579,585,586,592,593,599,600,606,607,613,614,620,621,627,628,634,635,641,642,648,649,655,656,662,663,669,670,676,677,683,684,690,691,697,698,704,705,711,712,718,719,725,726,732,733,739,740,746,747,753,754,760,761,767,768,774,775,781,782,788,789,795,796,802,803,809,810,816,817,823,824,830,831,837,838,844,845,851,852,858,859,865,866,872,873,879,880,886,887,893,894,900,901,907,908,914,915,921,922,928,929,935,936,942,943,949,950,956,957,963,964,970,971,977,978,991,992,994,995,1005,1006,1012,1013,1017,1018,1024,1025,1031,1032,1036,1037,1041,1042,1048,1049,1053,1054]
noncomputable def pu(g:Nat->Option Obj):Frag:=KX.filterMap fun a=>(g a).map (a,·)
noncomputable def vw:Program:=view pw [191]
noncomputable def so:List Str:=pw.boundNames.filter fun n=>!(n==("law":Str))
noncomputable def VY(w:World)(os:OsState):Option SharedT:=GY (Fast.tw6613529449190102663 11 (Gv w)) (Fast.tw10156331382660048174 (Fast.tw11892475500146522536 Fast.tw14364793385576792824) pw w) 8000 (TN w os) (topStub pw)
noncomputable def gT(s:SharedT)(a:Addr):Option Obj:=@Bool.rec (fun _=>Option Obj) none ((s.tree.get a).bind alive) (Nat.blt a s.n)
theorem d9{s:SharedT}{a:Addr}{o:Obj}(h:gT s a=some o):s.abs.heap.get? a=some o:=by
 unfold gT at h
 cases q:Nat.blt a s.n with
 |false=>rw[q]at h;exact Ao h
 |true=>
  rw[q]at h
  obtain⟨x,h1,h2⟩:=Option.bind_eq_some_iff.mp h
  exact(abs_get (Nat.blt_eq.mp q) h1).trans h2
theorem bd{s:SharedT}(h:KX.all (fun a=>(gT s a).isSome)=true):pu (gT s)=pu s.abs.heap.get?:=by
 unfold pu
 generalize KX=l at h
 induction l with
 |nil=>rfl
 |cons a l ih=>
  obtain⟨o,e⟩:=Option.isSome_iff_exists.mp (Al h)
  rw[iS,iS,e,d9 e,ih (Aa h)]
noncomputable def qT(l ks:List Str):Bool:=match l with
 |[]=>ks.isEmpty
 |b :: l=>match ks with
  |[]=>true
  |k :: ks=>cond (Fast.sEq b k) (qT l ks) (qT l (k :: ks))
theorem XC{l ks:List Str}(h:qT l ks=true):∀k∈ks,k∈l:=by
 induction l generalizing ks with
 |nil=>cases ks with
  |nil=>exact nofun
  |cons k ks=>cases h
 |cons b l ih=>
  cases ks with
  |nil=>exact nofun
  |cons k ks=>
   cases e:Fast.sEq b k with
   |true=>
    have h:cond (Fast.sEq b k) (qT l ks) (qT l (k :: ks))=true:=h
    rw[e]at h
    exact List.forall_mem_cons.mpr ⟨Fast.sEq_iff.mp e▸gJ,fun x hx=>gz _ (ih h x hx)⟩
   |false=>
    have h:cond (Fast.sEq b k) (qT l ks) (qT l (k :: ks))=true:=h
    rw[e]at h
    exact fun x hx=>gz _ (ih h x hx)
noncomputable def Rx(h:Heap):Bool:=h.isNs mainGlobals&&qT (startupNames++pw.boundNames) (h.nsKeys mainGlobals)
theorem Vc{h:Heap}(e:Rx h=true):namesBound pw h=true:=
 O7 (Al e) (List.all_eq_true.mpr fun k hk=>(List.mem_append.mp (XC (Aa e) k hk)).elim (fun z=>by rw[List.contains_iff_mem.mpr z];rfl) (fun z=>by rw[List.contains_iff_mem.mpr z,jq]))
theorem fO{a b c d e:Bool}(k:b=true->e=true)(h:(a&&b&&c&&d)=true):(a&&e&&c&&d)=true:=O7 (O7 (O7 (Al (Al (Al h))) (k (Aa (Al (Al h))))) (Aa (Al h))) (Aa h)
theorem eL(w:World)(os:OsState):(VY w os).map (fun s=>(staticsOk [] (boot_heap w.params) s.abs.heap&&Rx s.abs.heap&&gensDone s.abs&&laidKept (boot_heap w.params) s.abs.heap)&&(KX.all (fun a=>(gT s a).isSome)&&CJ (deq:=Fast.sDec) (pu (gT s)) (Co.take 55)))=some true:=by kernel_rfl
theorem eM(w:World)(os:OsState):(VY w os).map (fun s=>Fast.tw4187177175401517315 vw so [] (fun _=>true) true s.abs)=some (openGood vw so):=by kernel_rfl
theorem eN(w:World)(os:OsState):(VY w os).map (fun s=>M8 (deq:=Fast.sDec) (pu (gT s))&&CJ (deq:=Fast.sDec) (pu (gT s)) ((Co.drop 55).take 45))=some true:=by kernel_rfl
theorem eO(w:World)(os:OsState):(VY w os).map (fun s=>CJ (deq:=Fast.sDec) (pu (gT s)) ((Co.drop 55).drop 45))=some true:=by kernel_rfl
theorem QG{tb:String->Option Builtin}{p:Program}{w:World}{N n₀:Nat}{ann:Option Value}{s₀ s₁:Shared}(h1:(s₀.heap.isNs mainGlobals&&s₀.gens.size==0)=true)(h2:s₀.heap.objs.size=n₀)(h3:s₀.heap.nsMap mainGlobals "__annotations__"=ann)
  (r:topRun tb p w n₀ ann N s₀ (topStub p)=some s₁) {ms:List Str} (hm:importedModules p.main.body=ms) (l:(staticsOk ms s₀.heap s₁.heap&&namesBound p s₁.heap&&gensDone s₁&&laidKept s₀.heap s₁.heap)=true):topFrom tb p w N s₀=some s₁:=by
 subst h2 h3 hm
 unfold topFrom
 rw[h1]
 dsimp only
 rw[r,kS,l]
theorem XQ{p q:Program}{loose ms:List Str}{Xt:Shared->Bool}{α:Type}{Yf:Shared->α}{Ya:World->α}{N:Nat}{g0:Bool}{H₀:Params->Heap}{uk:Array GenState}{d₀:Drawn}{k₀:Nat}
  (ti:∀w:World,(fencedOpening treeTable p w N).map (fun s=>(s.heap,s.gens,s.drawn,s.toks))=some (H₀ w.params,uk,d₀,k₀)) (hm:importedModules p.main.body=ms)
  (run:∀(w:World) (os:OsState),∃s₁,topFrom treeTable p w N ⟨H₀ w.params,uk,d₀,k₀,os⟩=some s₁/\openSeen q loose ms Xt g0 s₁=openGood q loose/\Yf s₁=Ya w):LeftO p q loose Xt Yf Ya N g0:=by
 intro w
 obtain⟨⟨h,gs,d,k,os⟩,e,e'⟩:=Option.map_eq_some_iff.mp (ti w)
 obtain⟨rfl,rfl,rfl,rfl⟩:h=H₀ w.params/\gs=uk/\d=d₀/\k=k₀:=by simpa using e'
 obtain⟨s1,a,b,c⟩:=run w os
 unfold openEnds
 rw[e,kS,a,kh,hm,b,c]
theorem cK{tb:String->Option Builtin}{p:Program}{n₀:Nat}{N:Nat}{ann:World->Option Value}{S0:World->OsState->SharedT}{ok:World->Thread->Bool}{stp:World->SharedT->Thread->Option (SharedT×Thread)}{w:World}{os:OsState}{s1:SharedT}
  (e1:ok w=stepOk n₀ (ann w)) (e2:stp w=stepT (denote tb) p w) (r:GY (ok w) (stp w) N (S0 w os) (topStub p)=some s1):topRun tb p w n₀ (ann w) N (S0 w os).abs (topStub p)=some s1.abs:=Ts (by(refine e1▸?_;refine e2▸?_);exact r)
theorem Qd:opening pw=plainProg pw.main.scope.names:=by kernel_rfl
theorem Oc(s:Shared):fenceModules? pw s=some s:=by kernel_rfl
theorem Op:importedModules pw.main.body=[]:=by kernel_rfl
theorem WH(P:Params):((boot_heap P).isNs mainGlobals&&(#[]:Array GenState).size==0)=true:=by kernel_rfl
theorem Si(P:Params):(boot_heap P).objs.size=11:=by kernel_rfl
theorem Zj(w:World):Fast.tw10156331382660048174 (Fast.tw11892475500146522536 Fast.tw14364793385576792824) pw w=stepT (denote treeTable) pw w:=by
 rw[Fast.te10156331382660048174,Fast.te11892475500146522536,Fast.te14364793385576792824]
theorem eV(w:World):Fast.tw6613529449190102663 11 (Gv w)=stepOk 11 (Gv w):=by rw[Fast.te6613529449190102663]
theorem Sh(w:World)(os:OsState):(TN w os).abs=⟨boot_heap w.params,#[],boot_drawn,boot_toks,os⟩:=by
 show Shared.mk (absHeap (Jl w.params) 11 (boot_heap w.params).life) #[] boot_drawn boot_toks os=_
 rw[KK]
theorem Y0(s:Shared):Fast.tw4187177175401517315 vw so [] (fun _=>true) true s=openSeen vw so [] (fun _=>true) true s:=by rw[Fast.te4187177175401517315]
theorem YO{w:World}{os:OsState}{s1:SharedT}(r1:VY w os=some s1):topRun treeTable pw w 11 (Gv w) 8000 ⟨boot_heap w.params,#[],boot_drawn,boot_toks,os⟩ (topStub pw)=some s1.abs:=
 (Sh w os)▸cK (S0:=TN) (ok:=fun w=>Fast.tw6613529449190102663 11 (Gv w)) (stp:=fun w=>Fast.tw10156331382660048174 (Fast.tw11892475500146522536 Fast.tw14364793385576792824) pw w) (eV w) (Zj w) r1
theorem ce{s:SharedT}{A:Bool}(l1:(A&&(KX.all (fun a=>(gT s a).isSome)&&CJ (deq:=Fast.sDec) (pu (gT s)) (Co.take 55)))=true)
  (l3:(M8 (deq:=Fast.sDec) (pu (gT s))&&CJ (deq:=Fast.sDec) (pu (gT s)) ((Co.drop 55).take 45))=true) (l4:CJ (deq:=Fast.sDec) (pu (gT s)) ((Co.drop 55).drop 45)=true):A=true/\Fl (deq:=Fast.sDec) (pu s.abs.heap.get?)=true:=by
 refine⟨Al l1,?_⟩
 rw[<- bd (Al (Aa l1))]
 exact Tr (deq:=Fast.sDec) (Al l3) (Qg (deq:=Fast.sDec) 55 (Aa (Aa l1)) (FT (deq:=Fast.sDec) 45 (Aa l3) l4))
theorem left:LeftO pw vw so (fun _=>true) (fun s=>Fl (deq:=Fast.sDec) (pu s.heap.get?)) (fun _=>true) 8000 true:=by
 refine XQ (boot_open (p:=pw) (N:=8000) Qd (by decide) Oc) Op fun w os=>?_
 obtain⟨s1,r1,l1⟩:=Option.map_eq_some_iff.mp (eL w os)
 have l2:=eM w os
 have l3:=eN w os
 have l4:=eO w os
 rw[r1]at l2 l3 l4
 have l2:=Option.some.inj l2
 have c:=ce l1 (Option.some.inj l3) (Option.some.inj l4)
 exact⟨s1.abs,QG (WH w.params) (Si w.params) rfl (YO r1) Op (fO Vc c.1),(Y0 _).symm.trans l2,c.2⟩
open PySem PySem.W
noncomputable def tb(x:Int)(k:Nat):Bool:=match x with
 |.ofNat n=>n.testBit k
 |.negSucc n=>!n.testBit k
theorem X8(n:Nat):Builtin.bitNot (n:Int)=Int.negSucc n:=by unfold Builtin.bitNot;rw[Int.negSucc_eq];exact hY (ov (mn _) (.sub (.neg md) (.num 1)) (.neg (mj 0 1)) rfl) (ov (mn _) (.neg (mj 0 1)) (.sub (.neg md) (.num 1)) rfl)
theorem GJ(n:Nat):Builtin.bitNot (Int.negSucc n)=(n:Int):=by unfold Builtin.bitNot;rw[Int.negSucc_eq];exact hY (ov (mn _) (.sub (.neg (.neg (mj 0 1))) (.num 1)) md rfl) (ov (mn _) md (.sub (.neg (.neg (mj 0 1))) (.num 1)) rfl)
theorem Gj(x:Int)(k:Nat):tb (Builtin.bitNot x) k=!tb x k:=by
 induction x with
 |ofNat n=>rw[show Int.ofNat n=(n:Int)from rfl,X8];rfl
 |negSucc n=>rw[GJ];simp[tb]
theorem LM(h:c<=a)(p:c % 2<=a % 2):a - c=2*(a / 2 - c / 2)+(a % 2 - c % 2):=by
 obtain⟨t,ht⟩:=lx (Nat.div_le_div_right (c:=2) h)
 obtain⟨u,hu⟩:=lx p
 refine Nat.sub_eq_of_eq_add' (((Nat.div_add_mod a 2).symm.trans ?_).trans (congrArg (·+ _) (Nat.div_add_mod c 2)))
 rw[ht,hu,j6,j6,Nat.mul_add,Nat.add_add_add_comm]
theorem Vh(a c:Nat):a % 2 - c<2:=gY (Nat.sub_le ..) (Nat.mod_lt _ (by decide))
theorem Uz(h:c<=a)(p:c % 2<=a % 2):(a - c) / 2=a / 2 - c / 2:=by
 rw[LM h p,Nat.mul_add_div (by decide),Nat.div_eq_of_lt (Vh ..)];rfl
theorem Yr(h:c<=a)(p:c % 2<=a % 2):(a - c) % 2=a % 2 - c % 2:=by
 rw[LM h p,kW,Nat.mod_eq_of_lt (Vh ..)]
theorem RU(a m k:Nat):(a - (a&&& m)).testBit k=(a.testBit k&&!m.testBit k):=by
 have e:∀a m:Nat,(a&&& m) % 2=a % 2&&& m % 2:=fun a m=>Nat.and_mod_two_pow (n:=1)
 have p:∀a m:Nat,(a&&& m) % 2<=a % 2:=fun a m=>e a m▸i8
 induction k generalizing a m with
 |zero=>
  rw[iZ,iZ,iZ,Yr i8 (p a m),e]
  rcases jo a with u|u<;>rcases jo m with v|v<;>(refine u.symm▸?_;refine v.symm▸?_)<;>rfl
 |succ k ih=>rw[iK,iK,iK,<- ih,Uz i8 (p a m),Nat.and_div_two]
theorem Bv(x y:Int)(k:Nat):tb (Builtin.bitAnd x y) k=(tb x k&&tb y k):=by
 have sb:∀a b:Nat,tb (Int.ofNat a - ((a&&& (Builtin.bitNot (Int.negSucc b)).toNat:Nat):Int)) k=(a.testBit k&&!b.testBit k):=fun a b=>by
  rw[GJ]
  show tb ((a:Int) - ((a&&& b:Nat):Int)) k=_
  refine(Int.ofNat_sub i8)▸?_
  exact RU a b k
 induction x using Int.casesOn with
 |ofNat a=>induction y using Int.casesOn with
  |ofNat b=>exact i7 a b k
  |negSucc b=>exact sb a b
 |negSucc a=>induction y using Int.casesOn with
  |ofNat b=>exact(sb b a).trans (Bool.and_comm ..)
  |negSucc b=>
   show tb (Builtin.bitNot ((Builtin.bitNot (Int.negSucc a)).toNat||| (Builtin.bitNot (Int.negSucc b)).toNat:Nat)) k=_
   rw[Gj,GJ,GJ]
   show(!(a||| b).testBit k)=(!a.testBit k&&!b.testBit k)
   rw[jy,Bool.not_or]
theorem DC(x y:Int)(k:Nat):tb (Builtin.bitOr x y) k=(tb x k||tb y k):=by
 show tb (Builtin.bitNot (Builtin.bitAnd (Builtin.bitNot x) (Builtin.bitNot y))) k=_
 rw[Gj,Bv,Gj,Gj,Bool.not_and,kJ,kJ]
theorem Gi(h:∀k,tb x k=tb y k):x=y:=by
 have big:∀a b:Nat,∃k,a.testBit k=false/\b.testBit k=false:=fun a b=>by
  refine⟨a+b,iW (g6 kz (iy (by decide) (hH _ _))),iW (g6 kz (iy (by decide) (jh _ _)))⟩
 have no:∀a b:Nat,(∀k,a.testBit k=!b.testBit k)->False:=fun a b h=>by
  obtain⟨k,e1,e2⟩:=big a b
  have:=h k
  rw[e1,e2]at this
  exact Bool.noConfusion this
 induction x using Int.casesOn with
 |ofNat a=>induction y using Int.casesOn with
  |ofNat b=>exact congrArg Int.ofNat (jF h)
  |negSucc b=>exact(no a b h).elim
 |negSucc a=>induction y using Int.casesOn with
  |ofNat b=>exact(no b a fun k=>(h k).symm).elim
  |negSucc b=>exact congrArg Int.negSucc (jF fun k=>Bool.not_inj (h k))
noncomputable abbrev CG:=Ak lX prog
noncomputable def il(l:List Int):MO:=.list (l.map .int)
noncomputable def ll(l:List Nat):MO:=.list (l.map .lW)
set_option genInjectivity false in
structure l7 where
 ranks:Int
 size:Int
 full:Int
 files:List Int
 rankm:List Int
 king:List Int
 knight:List Int
 pawn0:List Int
 pawn1:List Int
 r0:List Int
 r1:List Int
 r2:List Int
 r3:List Int
 r4:List Int
 r5:List Int
 r6:List Int
 r7:List Int
 e22:MO
 e48:MO
noncomputable def sd:Bool->Int
 |false=>0
 |true=>1
set_option genInjectivity false in
structure St where
 board:List Int
 k0:Int
 k1:Int
 k2:Int
 k3:Int
 k4:Int
 k5:Int
 k6:Int
 s0:Int
 s1:Int
 side:Bool
 half:Int
 full:Int
 key:Int
 hist:List V
noncomputable def Bh(n:Nat)(man:Int):MO:=il ((List.range n).map fun(s:Nat)=>man*64+(s:Int)+1)
noncomputable def B(S:List Int)(k:Int)(n:Nat)(G:l7)(st:St):MH:=[
 il S,.list [.lW 0,.int k],
 ll [3,4,5,6,7,8,9,10,11,12,13,14,15,16,17],
 Bh n 0,Bh n 1,Bh n 2,Bh n 3,Bh n 4,Bh n 5,Bh n 6,Bh n 7,Bh n 8,Bh n 9,Bh n 10,Bh n 11,Bh n 12,Bh n 13,Bh n 14,
 .inst 0 [(45,.int 4),(49,.int G.ranks),(63,.int G.size),(53,.int G.full),(85,.bool false),(79,.bool false),(46,.lW 19),(50,.lW 20),(36,.lW 21),(60,.lW 30),(67,.lW 23),(65,.lW 26),(83,.lW 27),(80,.lW 48)],
 il G.files,il G.rankm,ll [32,34,36,38,40,42,44,46],G.e22,il G.knight,il G.pawn0,il G.pawn1,ll [24,25],.list [.none,.none,.none,.none],il [],
 il [0],il G.king,il [0],il G.r0,il [0],il G.r1,il [0],il G.r2,il [0],il G.r3,il [0],il G.r4,il [0],il G.r5,il [0],il G.r6,il [0],il G.r7,il [0],G.e48,
 il [0],il [0,0,0,0],il [0],il [0,0,0,0,0,0,0,0,0,0,0,0,0,0,0,0],
 .inst 2 [(106,.lW 2),(196,.lW 50),(158,.lW 52),(0,.int 3)],
 .inst 1 [(33,.lW 18),(105,.lW 53),(110,.lW 56),(109,.lW 58),(107,.lW 59),(0,.int (sd st.side)),(158,.int 0),(196,.int (-1)),(241,.int st.half),(53,.int st.full),(104,.int st.key),(244,.lW 60)],
 il [0],il st.board,il [0],il [st.k0,st.k1,st.k2,st.k3,st.k4,st.k5,st.k6],il [st.s0,st.s1],.list st.hist]
@[elab_as_elim] theorem pR{P:Nat->Prop}(h:d<7)(h0:P 0)(h1:P 1)(h2:P 2)(h3:P 3)(h4:P 4)(h5:P 5)(h6:P 6):P d:=by
 induction d using Nat.casesOn with
 |zero=>exact h0
 |succ d=>
  cases d with
  |zero=>exact h1
  |succ d=>
   cases d with
   |zero=>exact h2
   |succ d=>
    cases d with
    |zero=>exact h3
    |succ d=>
     cases d with
     |zero=>exact h4
     |succ d=>
      cases d with
      |zero=>exact h5
      |succ d=>
       induction d with
       |zero=>exact h6
       |succ d=>
        exact absurd h (Nat.not_lt.mpr (jh 7 d))
@[elab_as_elim] theorem u9{P:Nat->Prop}(h:d<8)(h0:P 0)(h1:P 1)(h2:P 2)(h3:P 3)(h4:P 4)(h5:P 5)(h6:P 6)(h7:P 7):P d:=by
 induction d using Nat.casesOn with
 |zero=>exact h0
 |succ d=>
  cases d with
  |zero=>exact h1
  |succ d=>
   cases d with
   |zero=>exact h2
   |succ d=>
    cases d with
    |zero=>exact h3
    |succ d=>
     cases d with
     |zero=>exact h4
     |succ d=>
      cases d with
      |zero=>exact h5
      |succ d=>
       cases d with
       |zero=>exact h6
       |succ d=>
        induction d with
        |zero=>exact h7
        |succ d=>
         exact absurd h (Nat.not_lt.mpr (jh 8 d))
@[elab_as_elim] theorem ta{P:Nat->Prop}(a:2<=d)(b:d<7)(h2:P 2)(h3:P 3)(h4:P 4)(h5:P 5)(h6:P 6):P d:=
 pR (P:=fun d=>2<=d->P d) b (fun a=>absurd a (by decide)) (fun a=>absurd a (by decide)) (fun _=>h2) (fun _=>h3) (fun _=>h4) (fun _=>h5) (fun _=>h6) a
@[elab_as_elim] theorem k36{P:Nat->Prop}(a:3<=d)(b:d<6)(h3:P 3)(h4:P 4)(h5:P 5):P d:=
 ta (P:=fun d=>3<=d->d<6->P d) (iP a) (gZ b) (fun a=>absurd a (by decide)) (fun _ _=>h3) (fun _ _=>h4) (fun _ _=>h5) (fun _ b=>absurd b (by decide)) a b
theorem Ab{α:Type}{o:Option α}{a:α}{K:α->Prop}(e:o=some a)(k:K a):@Option.rec α (fun _=>Prop) False (fun a=>K a) o:=by subst e;exact k
theorem OU(h:μ[n]?=some (.list xs)):B6 μ (.lW n) (.int i)=OR xs i:=by
 show(match μ[n]? with
  |some o=>(match o with
   |.list xs=>OR xs i
   |.dict kv=>Bn kv i
   |_=>none)
  |none=>none)=_
 (refine h.symm▸?_;rfl)
theorem OT(h:μ[n]?=some (.dict kv)):B6 μ (.lW n) (.int i)=Bn kv i:=by
 show(match μ[n]? with
  |some o=>(match o with
   |.list xs=>OR xs i
   |.dict kv=>Bn kv i
   |_=>none)
  |none=>none)=_
 (refine h.symm▸?_;rfl)
theorem Nh{rs:List V}{d:Int}(h:μ[a]?=some (.list rs))(h0:0<=d)(h1:d<rs.length)(hx:rs[d.toNat]?=some x):B6 μ (.lW a) (.int d)=some x:=by
 rw[OU h]
 unfold OR CU
 rw[iI h0,iI h1]
 exact hx
theorem HH(h:μ[a]?=some (.list (x :: rs))):B6 μ (.lW a) (.int 0)=some x:=Nh h (ix 0) (Int.natCast_pos.mpr (jp _)) rfl
theorem AO{μ:MH}{n:Nat}{xs:List Int}{i:Int}{K:V->Prop}(h:μ[n]?=some (il xs))(h0:0<=i)(qG:i<xs.length)(k:K (.int (xs.getD i.toNat 0))):@Option.rec V (fun _=>Prop) False (fun a=>K a) (OS μ (.lW n) (.int i)):=by
 have h1:i.toNat<xs.length:=by lia
 refine Ab ?_ k
 rw[IL]
 refine(OU h).symm▸?_
 unfold OR CU
 rw[iI h0,iI (by rw[gS];assumption)]
 show((xs.map V.int)[i.toNat]?)=_
 rw[kO,gU,gV h1]
 rfl
theorem l0{K K' n:Nat}(h:K'<=n+1)(e:Nat.ble (K+1) K'=true):K<=n:=lH (gA (Nat.le_of_ble_eq_true e) h)
theorem BK(e:(l:Int)=s)(h:i<s):i<l:=e▸h
theorem A0{step:V->Au->An->MH->Prop}{Q:Au}(h:Bz c step l Q env μ):Xs c step l Q env μ:=(Rk _ _ _ _ _ _).mpr h
theorem R0{t:(Bool->MH->Prop)->An->MH->Prop}{b:Au->An->MH->Prop}{Q:Au}(h:EH t b n Q env μ):Nn t b n Q env μ:=(LP _ _ _ _ _ _).mpr h
theorem Af{K:V->Prop}(h:B6 μ o i=some v)(k:K v):@Option.rec V (fun _=>Prop) False (fun a=>K a) (OS μ o i):=Ab ((IL _ _ _).trans h) k
theorem Aj{p:Prop}(hc:b=true)(h:p):@Bool.rec (fun _=>Prop) False p b:=by subst hc;exact h
theorem DT{p q:Prop}(e:b=true)(h:p):@Bool.rec (fun _=>Prop) q p b:=by subst e;exact h
theorem Cz{p q:Prop}(e:b=false)(h:q):@Bool.rec (fun _=>Prop) q p b:=by subst e;exact h
theorem Ap{p q:Prop}(ht:b=true->p)(hf:b=false->q):@Bool.rec (fun _=>Prop) q p b:=by
 cases b with
 |true=>exact ht rfl
 |false=>exact hf rfl
noncomputable def KU(G:l7):Nat->List Int
 |0=>G.r0|1=>G.r1|2=>G.r2|3=>G.r3|4=>G.r4|5=>G.r5|6=>G.r6|_=>G.r7
noncomputable def SI:Nat->Bool
 |0=>true|1=>true|4=>true|7=>true|_=>false
noncomputable def RS(b0:Int):Int:=
 let b1:=Builtin.bitOr b0 (b0.fdiv (2 ^ 1))
 let b2:=Builtin.bitOr b1 (b1.fdiv (2 ^ 2))
 let b3:=Builtin.bitOr b2 (b2.fdiv (2 ^ 4))
 let b4:=Builtin.bitOr b3 (b3.fdiv (2 ^ 8))
 let b5:=Builtin.bitOr b4 (b4.fdiv (2 ^ 16))
 Builtin.bitOr b5 (b5.fdiv (2 ^ 32))
noncomputable def RJ(up:Bool)(om occ:Int):Int:=match Builtin.bitAnd om occ==0 with
 |true=>om
 |false=>match up with
  |true=>Builtin.bitAnd om (Builtin.bitXor (Builtin.bitAnd om occ) (Builtin.bitAnd om occ - 1))
  |false=>Builtin.bitAnd om (-(RS ((Builtin.bitAnd om occ).fdiv (2 ^ 1))) - 1)
noncomputable def GQ(G:l7)(d:Nat)(sq:Int)(occ:Int):Int:=RJ (SI d) ((KU G d).getD sq.toNat 0) occ
section
variable{S:List Int}{k:Int}{m:Nat}{G:l7}{st:St}{g:MH}{n:Nat}{hd:Bool}{Q:Ae}{X:As}{μ:MH}
theorem aC(hn:1<=n)(h8:d<8)(h:Q (.bool (SI d)) μ):CG n hd 43 [.int d] Q X μ:=by
 refine stp hn fun n hn=>?_
 revert h
 exact u9 h8 (fun h=>Af rfl h) (fun h=>Af rfl h) (fun h=>Af rfl h) (fun h=>Af rfl h) (fun h=>Af rfl h) (fun h=>Af rfl h) (fun h=>Af rfl h) (fun h=>Af rfl h)
theorem Dg{d:Nat}(h8:d<8):B6 (B S k m G st++g) (.lW 21) (.int d)=some (.lW (32+2*d))/\(B S k m G st++g)[32+2*d]?=some (il (KU G d)):=by
 exact u9 h8 ⟨rfl,rfl⟩ ⟨rfl,rfl⟩ ⟨rfl,rfl⟩ ⟨rfl,rfl⟩ ⟨rfl,rfl⟩ ⟨rfl,rfl⟩ ⟨rfl,rfl⟩ ⟨rfl,rfl⟩
structure l7.l6(G:l7):Prop where
 pos:0<=G.size
 om:∀d,d<8->((KU G d).length:Int)=G.size
 king:(G.king.length:Int)=G.size
 knight:(G.knight.length:Int)=G.size
 pawn0:(G.pawn0.length:Int)=G.size
 pawn1:(G.pawn1.length:Int)=G.size
 top:G.size<=20
 ranks:1<=G.ranks
 rankm:(G.rankm.length:Int)=G.ranks
 files:G.files.length=4
 sI:0<=G.full
 sJ:G.full<2 ^ G.size.toNat
theorem HR(hn:2<=n)(GS:G.l6)(h8:d<8)(h0:0<=sq)(h1:sq<G.size)(h:Q (.int (GQ G d sq occ)) (B S k m G st++g)) :
  CG n hd 91 [.lW 18,.int d,.int sq,.int occ] Q X (B S k m G st++g):=by
 refine stp hn fun n hn=>?_
 refine Af (Dg h8).1 ?_
 refine AO (Dg h8).2 h0 (BK (GS.om d h8) h1) ?_
 unfold GQ at h
 revert h
 generalize(KU G d).getD sq.toNat 0=om
 intro h
 conv=>whnf
 unfold RJ at h
 refine Ap (fun e=>?_) fun e=>?_
 ·replace h:=e▸h;exact h
 ·rw[e]at h
  refine aC (l0 hn rfl) h8 ?_
  refine Ap (fun e=>?_) fun e=>?_
  ·rw[e]at h;exact h
  ·rw[e]at h;exact h
end
noncomputable def bor(x y:Int):Int:=Builtin.bitOr x y
noncomputable def Am(x y:Int):Int:=Builtin.bitAnd x y
noncomputable def CV(G:l7)(sq occ:Int):Int:=bor (bor (bor (bor 0 (GQ G 0 sq occ)) (GQ G 1 sq occ)) (GQ G 2 sq occ)) (GQ G 3 sq occ)
noncomputable def DJ(G:l7)(sq occ:Int):Int:=bor (bor (bor (bor 0 (GQ G 4 sq occ)) (GQ G 5 sq occ)) (GQ G 6 sq occ)) (GQ G 7 sq occ)
section
variable{S:List Int}{k:Int}{m:Nat}{G:l7}{st:St}{g:MH}{n:Nat}{hd:Bool}{Q:Ae}{X:As}{μ:MH}
theorem Js(hn:3<=n)(GS:G.l6)(h0:0<=sq)(h1:sq<G.size)(h:Q (.int (CV G sq occ)) (B S k m G st++g)) :
  CG n hd 92 [.lW 18,.int sq,.int occ] Q X (B S k m G st++g):=by
 refine stp hn fun n hn=>?_
 refine A0 ?_
 refine HR (d:=0) (l0 hn rfl) GS (by decide) h0 h1 ?_
 refine HR (d:=1) (l0 hn rfl) GS (by decide) h0 h1 ?_
 refine HR (d:=2) (l0 hn rfl) GS (by decide) h0 h1 ?_
 refine HR (d:=3) (l0 hn rfl) GS (by decide) h0 h1 ?_
 exact h
theorem F3(hn:3<=n)(GS:G.l6)(h0:0<=sq)(h1:sq<G.size)(h:Q (.int (DJ G sq occ)) (B S k m G st++g)) :
  CG n hd 93 [.lW 18,.int sq,.int occ] Q X (B S k m G st++g):=by
 refine stp hn fun n hn=>?_
 refine A0 ?_
 refine HR (d:=4) (l0 hn rfl) GS (by decide) h0 h1 ?_
 refine HR (d:=5) (l0 hn rfl) GS (by decide) h0 h1 ?_
 refine HR (d:=6) (l0 hn rfl) GS (by decide) h0 h1 ?_
 refine HR (d:=7) (l0 hn rfl) GS (by decide) h0 h1 ?_
 exact h
end
noncomputable def St.si(st:St):Bool->Int
 |false=>st.s0
 |true=>st.s1
noncomputable def l7.pw(G:l7):Bool->List Int
 |false=>G.pawn0
 |true=>G.pawn1
noncomputable def Cu(l:List Int)(sq:Int):Int:=l.getD sq.toNat 0
theorem Gd(c:Bool):1 - sd c=sd (!c):=by cases c<;>rfl
noncomputable def ID(G:l7)(st:St)(sq:Int)(c:Bool):Int:=Am (Am (Cu (G.pw (!c)) sq) st.k1) (st.si c)
noncomputable def B3(G:l7)(st:St)(sq:Int)(c:Bool):Int:=bor (ID G st sq c) (Am (bor (Am (Cu G.knight sq) st.k2) (Am (Cu G.king sq) st.k6)) (st.si c))
noncomputable def AQ(st:St):Int:=bor st.k4 st.k5
noncomputable def Cf(st:St):Int:=bor st.k3 st.k5
noncomputable def MI(G:l7)(st:St)(sq occ:Int):Int:=
 let a:=match AQ st != 0 with
  |true=>bor 0 (Am (CV G sq occ) (AQ st))
  |false=>0
 match Cf st != 0 with
  |true=>bor a (Am (DJ G sq occ) (Cf st))
  |false=>a
noncomputable def ZB(G:l7)(st:St)(sq occ:Int):Int:=bor (bor (B3 G st sq false) (B3 G st sq true)) (MI G st sq occ)
noncomputable def B8(G:l7)(st:St)(sq:Int)(c:Bool)(occ:Int):Bool:=match Am (Cf st) (st.si c) != 0 with
 |true=>Am (DJ G sq occ) (Am (Cf st) (st.si c)) != 0
 |false=>false
noncomputable def Bq(G:l7)(st:St)(sq:Int)(c:Bool)(occ:Int):Bool:=match B3 G st sq c != 0 with
 |true=>true
 |false=>match Am (AQ st) (st.si c) != 0 with
  |true=>(match Am (CV G sq occ) (Am (AQ st) (st.si c)) != 0 with
   |true=>true
   |false=>B8 G st sq c occ)
  |false=>B8 G st sq c occ
section
variable{S:List Int}{k:Int}{m:Nat}{G:l7}{st:St}{g:MH}{n:Nat}{hd:Bool}{Q:Ae}{X:As}{μ:MH}
theorem BH(c:Bool):B6 (B S k m G st++g) (.lW 59) (.int (sd c))=some (.int (st.si c)):=by cases c<;>rfl
theorem RG(c:Bool):B6 (B S k m G st++g) (.lW 26) (.int (sd c))=some (.lW (match c with|false=>24|true=>25))/\(B S k m G st++g)[(match c with|false=>24|true=>25:Nat)]?=some (il (G.pw c)):=by induction c<;>exact⟨rfl,rfl⟩
theorem cm(GS:G.l6)(c:Bool):((G.pw c).length:Int)=G.size:=by cases c;exact GS.pawn0;exact GS.pawn1
theorem Sm(hn:1<=n)(GS:G.l6)(h0:0<=sq)(h1:sq<G.size)(h:Q (.int (ID G st sq c)) (B S k m G st++g)) :
  CG n hd 121 [.lW 54,.int sq,.int (sd c)] Q X (B S k m G st++g):=by
 refine stp hn fun n hn=>?_
 refine Af (by rw[Gd];exact(RG (!c)).1) ?_
 refine AO (RG (!c)).2 h0 (BK (cm GS (!c)) h1) ?_
 refine Af rfl ?_
 exact Af (BH c) h
theorem Hi(hn:2<=n)(GS:G.l6)(h0:0<=sq)(h1:sq<G.size)(h:Q (.int (B3 G st sq c)) (B S k m G st++g)) :
  CG n hd 122 [.lW 54,.int sq,.int (sd c)] Q X (B S k m G st++g):=by
 refine stp hn fun n hn=>?_
 refine AO (xs:=G.knight) rfl h0 (BK GS.knight h1) ?_
 refine Af rfl ?_
 refine AO (xs:=G.king) rfl h0 (BK GS.king h1) ?_
 refine Af rfl ?_
 refine Sm (l0 hn rfl) GS h0 h1 ?_
 exact Af (BH c) h
theorem F4(hn:1<=n)(h:Q (.int (AQ st)) (B S k m G st++g)):CG n hd 119 [.lW 54] Q X (B S k m G st++g):=by
 refine stp hn fun n hn=>?_
 refine Af rfl ?_
 exact Af rfl h
theorem Gx(hn:1<=n)(h:Q (.int (Cf st)) (B S k m G st++g)):CG n hd 120 [.lW 54] Q X (B S k m G st++g):=by
 refine stp hn fun n hn=>?_
 refine Af rfl ?_
 exact Af rfl h
theorem Sk(hn:4<=n)(GS:G.l6)(h0:0<=sq)(h1:sq<G.size)(h:Q (.int (MI G st sq occ)) (B S k m G st++g)) :
  CG n hd 126 [.lW 54,.int sq,.int occ] Q X (B S k m G st++g):=by
 refine stp hn fun n hn=>?_
 unfold MI at h
 refine F4 (l0 hn rfl) ?_
 revert h
 generalize AQ st=str
 intro h
 refine Ap (fun e=>?_) fun e=>?_
 ·rw[e]at h
  refine Js (l0 hn rfl) GS h0 h1 ?_
  refine Gx (l0 hn rfl) ?_
  revert h
  generalize Cf st=sl
  intro h
  refine Ap (fun e=>?_) fun e=>?_
  ·rw[e]at h
   conv=>whnf
   exact F3 (l0 hn rfl) GS h0 h1 h
  ·rw[e]at h
   exact h
 ·rw[e]at h
  refine Gx (l0 hn rfl) ?_
  revert h
  generalize Cf st=sl
  intro h
  refine Ap (fun e=>?_) fun e=>?_
  ·rw[e]at h
   exact F3 (l0 hn rfl) GS h0 h1 h
  ·rw[e]at h
   exact h
theorem WJ(hn:5<=n)(GS:G.l6)(h0:0<=sq)(h1:sq<G.size)(h:Q (.int (ZB G st sq occ)) (B S k m G st++g)) :
  CG n hd 128 [.lW 54,.int sq,.int occ] Q X (B S k m G st++g):=by
 refine stp hn fun n hn=>?_
 refine Hi (c:=false) (l0 hn rfl) GS h0 h1 ?_
 refine Hi (c:=true) (l0 hn rfl) GS h0 h1 ?_
 exact Sk (l0 hn rfl) GS h0 h1 h
theorem Jm(hn:4<=n)(GS:G.l6)(h0:0<=sq)(h1:sq<G.size)(h:Q (.bool (Bq G st sq c occ)) (B S k m G st++g)) :
  CG n hd 130 [.lW 54,.int sq,.int (sd c),.int occ] Q X (B S k m G st++g):=by
 refine stp hn fun n hn=>?_
 unfold Bq at h
 refine Hi (c:=c) (l0 hn rfl) GS h0 h1 ?_
 refine Ap (fun e=>?_) fun e=>?_
 ·rw[e]at h;exact h
 ·replace h:=e▸h
  refine Af (BH c) ?_
  refine F4 (l0 hn rfl) ?_
  refine Ap (fun e=>?_) fun e=>?_
  ·have e:(Am (AQ st) (st.si c) != 0)=true:=e
   rw[e]at h
   refine Js (l0 hn rfl) GS h0 h1 ?_
   refine Ap (fun e=>?_) fun e=>?_
   ·have e:(Am (CV G sq occ) (Am (AQ st) (st.si c)) != 0)=true:=e
    rw[e]at h;exact h
   ·have e:(Am (CV G sq occ) (Am (AQ st) (st.si c)) != 0)=false:=e
    replace h:=e▸h
    refine Gx (l0 hn rfl) ?_
    unfold B8 at h
    refine Ap (fun e=>?_) fun e=>?_
    ·have e:(Am (Cf st) (st.si c) != 0)=true:=e
     rw[e]at h
     conv=>whnf
     exact F3 (l0 hn rfl) GS h0 h1 h
    ·have e:(Am (Cf st) (st.si c) != 0)=false:=e
     have e2:=e
     rw[e2]at h
     exact(congrArg (fun b=>Q (.bool b) (B S k m G st++g)) e).mpr h
  ·have e:(Am (AQ st) (st.si c) != 0)=false:=e
   rw[e]at h
   refine Gx (l0 hn rfl) ?_
   unfold B8 at h
   refine Ap (fun e=>?_) fun e=>?_
   ·have e:(Am (Cf st) (st.si c) != 0)=true:=e
    rw[e]at h
    conv=>whnf
    exact F3 (l0 hn rfl) GS h0 h1 h
   ·have e:(Am (Cf st) (st.si c) != 0)=false:=e
    have e2:=e
    rw[e2]at h
    exact(congrArg (fun b=>Q (.bool b) (B S k m G st++g)) e).mpr h
end
noncomputable def nC:Nat->Int->Int->List Int
 |0,_,_=>[]
 |k+1,x,s=>(match Am x 1 != 0 with|true=>[s]|false=>[])++nC k (x.fdiv 2) (s+1)
theorem NN(x:Int)(h:0<=x)(j:Nat):Am x (2 ^ j - 1:Nat)=x % (2 ^ j:Nat):=by
 obtain⟨a,rfl⟩:=gB h
 show((a&&& (2 ^ j - 1):Nat):Int)=_
 rw[Nat.and_two_pow_sub_one_eq_mod];rfl
theorem NM(x:Int)(h:0<=x):Am x 1=x % 2:=NN x h 1
theorem ai(x:Int)(h:0<=x):Am x 15=x % 16:=NN x h 4
theorem Wa(k:Nat)(s:Int):nC k 0 s=[]:=by
 induction k generalizing s with
 |zero=>rfl
 |succ k ih=>exact ih (s+1)
theorem GU(j:Nat)(y t:Int)(h:0<=y):nC (j+1) (2*y) t=nC j y (t+1):=by
 show(match Am (2*y) 1 != 0 with|true=>[t]|false=>[])++nC j ((2*y).fdiv 2) (t+1)=_
 rw[NM _ (k9 (by decide) h),Int.mul_emod_right,i9 y (by decide)];rfl
theorem c8(k:Nat)(x s:Int)(h:0<=x)(e:x % 16=0):nC (k+4) x s=nC k (x.fdiv 16) (s+4):=by
 obtain⟨y,rfl⟩:=ly e
 have y0:0<=y:=by lia
 have d:∀z:Int,0<=z->0<=2*z:=fun z hz=>k9 (by decide) hz
 rw[i9 y (by decide),show(16:Int)*y=2*(2*(2*(2*y))) by exact hY (ov (mn _) (.mulL 16 md) (.mulL 2 (.mulL 2 (.mulL 2 (.mulL 2 md)))) rfl) (ov (mn _) (.mulL 2 (.mulL 2 (.mulL 2 (.mulL 2 md)))) (.mulL 16 md) rfl),GU _ _ _ (d _ (d _ (d _ y0))),GU _ _ _ (d _ (d _ y0)),GU _ _ _ (d _ y0),GU _ _ _ y0,show s+1+1+1+1=s+4 by exact hY (ov (mn _) (.add (.add (.add (mj 0 1) (.num 1)) (.num 1)) (.num 1)) (mj 0 4) rfl) (ov (mn _) (mj 0 4) (.add (.add (.add (mj 0 1) (.num 1)) (.num 1)) (.num 1)) rfl)]
noncomputable def inS:MS:=(MS.aug 25 Operator.RShift (ME.int 4)).seq ((MS.aug 27 Operator.Add (ME.int 4)).seq MS.skip)
noncomputable def gg:MS:=(MS.m7 (ME.un UnaryOp.Not (ME.bin Operator.BitAnd (ME.lW 25) (ME.int 15))) inS).seq
      ((MS.ite (ME.bin Operator.BitAnd (ME.lW 25) (ME.int 1))
         ((MS.expr ((ME.lW 31).my 0 ((ME.lW 27).cons ME.nil))).seq MS.skip) MS.skip).seq
       ((MS.aug 25 Operator.RShift (ME.int 1)).seq ((MS.aug 27 Operator.Add (ME.int 1)).seq MS.skip)))
section
variable{S:List Int}{k:Int}{m:Nat}{G:l7}{st:St}{g:MH}{n:Nat}{hd:Bool}{X:As}{μ:MH}
theorem TV{Q:Ae}(hn:1<=n)(h:Q (.bool (Am b (b - 1) != 0)) μ):CG n hd 26 [.int b] Q X μ:=by
 induction n using Nat.casesOn with
 |zero=>exact absurd hn (by decide)
 |succ n=>exact h
theorem Bj{α:Type}{l:List α}{i:Nat}{a:α}(h:l[i]?=some a):l.set i a=l:=by
 obtain⟨c,rfl⟩:=List.getElem?_eq_some_iff.mp h
 exact List.set_getElem_self c
theorem AJ{α:Type}{l:List α}{i:Nat}{a b:α}(h:l[i]?=some a):(l.set i b)[i]?=some b:=by
 rw[jZ,iI rfl,iI]
 rcases iV i l.length with c|c
 ·exact c
 ·exact AM (ip c) h
theorem CO(h:μ[n]?=some (.list xs)):By μ n=some xs:=by unfold By;rw[h]
theorem Dz{o:List Int}(h:g[r]?=some (il o)):By (B S k m G st++g) (r+61)=some (o.map .int):=CO (μ:=B S k m G st++g) (n:=r+61) h
theorem Df{p:Prop}(h:g[r]?=some (il o))(hp:p):@Bool.rec (fun _=>Prop) False p (ZV (.lW (r+61)) 0 (B S k m G st++g)):=by
 refine Aj ?_ hp
 show(decide (0<2)&&(By (B S k m G st++g) (r+61)).isSome)=true
 refine(Dz h).symm▸?_;rfl
theorem My(o:List Int)(v:Int):il (o++[v])=.list (o.map .int++[.int v]):=by unfold il;rw[ki];rfl
theorem room{o:List Int}(h:o.length<100000):decide ((o.map V.int).length<lim)=true:=gy (by rw[gS];exact g6 h (by decide))
theorem X6{y c:Int}{P:Prop}(h:0<y)(hx:16*y<c)(hc:c<=16):P:=absurd (gK hx hc) (Int.not_lt.mpr (Int.mul_le_mul_of_nonneg_left (show(1:Int)<=y from h) (show(0:Int)<=16 by decide)))
theorem XE{Φ:Bool->Nat->List V->Ae->As->MH->Prop}{Q:Au}(f:Nat):∀(j:Nat) (x s:Int) (env:An),j<f->env 25=some (.int x)->env 27=some (.int s)->0<x->x<2 ^ j->
  (∀j' x' s' env',env' 25=some (.int x')->env' 27=some (.int s')->env' 31=env 31->0<x'->x'<2 ^ j'->j'<=j->nC j' x' s'=nC j x s->Q .next env' μ)->
  EH (fun K env' μ'=>wt lX (Φ hd) env' (ME.un UnaryOp.Not (ME.bin Operator.BitAnd (ME.lW 25) (ME.int 15))) K X μ') (fun K env' μ'=>ws lX Φ hd inS K X env' μ') f Q env μ:=by
 induction f with
 |zero=>intro j x s env hj;exact absurd hj (by contradiction)
 |succ f ih=>
  intro j x s env hj qt tI h0 hx h
  refine Ab qt ?_
  refine Ap (fun e=>?_) fun e=>?_
  ·have e16:x % 16=0:=(ai x (jf h0)).symm.trans (by show Builtin.bitAnd x 15=0;simpa using e)
   have sq:=fun i=>c8 i x s (jf h0) e16
   obtain⟨y,rfl⟩:=ly e16
   have y0:0<y:=lm (a:=16) h0 (by decide)
   rw[i9 y (by decide)]at sq
   refine Ab qt ?_
   refine Ab tI ?_
   show EH _ _ f Q (Ad (Ad env 25 (.int ((16*y).fdiv 16))) 27 (.int (s+4))) μ
   rw[i9 y (by decide)]
   rcases j with _|_|_|_|i
   ·exact X6 y0 hx (by decide)
   ·exact X6 y0 hx (by decide)
   ·exact X6 y0 hx (by decide)
   ·exact X6 y0 hx (by decide)
   ·rw[Int.pow_add 2 i 4,Int.mul_comm (2 ^ i)]at hx
    exact ih i y (s+4) _ (Nat.lt_of_add_right_lt (k:=3) (ke hj)) rfl rfl y0 (lm (a:=16) hx (by decide)) fun j' x' s' env' a b c d e' f' g'=>h j' x' s' env' a b c d e' (gA f' (hH i 4)) (g'.trans (sq i).symm)
  ·exact h j x s env qt tI rfl h0 hx (gE _) rfl
theorem VC{Φ:Bool->Nat->List V->Ae->As->MH->Prop}{Q:Au}(f:Nat):∀(j:Nat) (x s:Int) (env:An) (o:List Int),j<f->j<90->env 25=some (.int x)->env 27=some (.int s)->env 31=some (.lW (r+61))->0<=x->x<2 ^ j->g[r]?=some (il o)->o.length+j<100->
  (∀env',env' 31=env 31->Q .next env' (B S k m G st++g.set r (il (o++nC j x s))))->
  EH (fun K env' μ'=>wt lX (Φ hd) env' (ME.lW 25) K X μ') (fun K env' μ'=>ws lX Φ hd gg K X env' μ') f Q env (B S k m G st++g):=by
 induction f generalizing g with
 |zero=>intro j x s env o hj;exact absurd hj (by contradiction)
 |succ f ih=>
  intro j x s env o hj h90 qt tI ul h0 hx hg ho h
  refine Ab qt ?_
  refine Ap (fun e=>?_) fun e=>?_
  ·have e0:x≠0:=by simpa using e
   refine R0 ?_
   refine XE 100 j x s env (by exact mO (mT _ _) (mt 1 1) (.num 100) (.add (.add mi mD) (.num 1)) (.num 100) rfl ho) qt tI (Int.lt_iff_le_and_ne.mpr ⟨h0,iJ e0⟩) hx fun j' x' s' env' a b c d e' f' g'=>?_
   replace h:=(g').symm▸h
   induction j' with
   |zero=>exact absurd e' (by exact Int.not_lt.mpr (mI (mn _) (.num 1) md (.add (.num 0) (.num 1)) md rfl d))
   |succ j'=>
    have t:=fun y=>ih (g:=y) j' (x'.fdiv 2) (s'+1)
    have hx0:0<=x'.fdiv 2:=Int.fdiv_nonneg (jf d) (by decide)
    have hx1:x'.fdiv 2<2 ^ j':=iz x' (show(0:Int)<=2 by decide)▸Int.ediv_lt_of_lt_mul (by decide) (Int.pow_succ 2 j'▸e')
    have uQ:o.length+1+j'<100:=by exact o9 (nB _ _ _) (.add (.add (mt 0 1) nE) (.num 1)) (.num 100) (.add (.add mi mD) (.num 1)) (.num 100) (mt 2 1) mD rfl ho f'
    refine Ab a ?_
    refine Ap (fun e=>?_) fun e=>?_
    ·have e:(Am x' 1 != 0)=true:=e
     refine Ab (c.trans ul) ?_
     refine Df hg ?_
     refine Ab b ?_
     refine Ab (Dz hg) ?_
     refine Aj (room (by exact mO (mT _ _) (mt 0 1) (.num 100000) (.add (.add (mt 0 1) mD) (.num 1)) (.num 100) rfl uQ)) ?_
     refine Ab a ?_
     refine Ab b ?_
     have t:=t (g.set r (il (o++[s']))) (Ad (Ad env' 25 (.int (x'.fdiv 2))) 27 (.int (s'+1))) (o++[s']) (by exact eY hj f') (by exact eZ h90 f') rfl rfl (c.trans ul) hx0 hx1 (AJ hg) (by refine List.length_append.symm▸?_;exact uQ) fun qe q=>by
      have h:=h qe (q.trans c)
      unfold nC at h
      replace h:=e▸h
      rw[hW,gu]
      exact h
     rw[My]at t
     exact t
    ·have e:(Am x' 1 != 0)=false:=e
     refine Ab a ?_
     refine Ab b ?_
     exact t g (Ad (Ad env' 25 (.int (x'.fdiv 2))) 27 (.int (s'+1))) o (by exact eY hj f') (by exact eZ h90 f') rfl rfl (c.trans ul) hx0 hx1 hg (by exact mO (mT _ _) (.add (.add mi mD) (.num 1)) (.num 100) (.add (.add (mt 0 1) mD) (.num 1)) (.num 100) rfl uQ) fun qe q=>by
      have h:=h qe (q.trans c)
      unfold nC at h
      replace h:=e▸h
      exact h
  ·have e0:x=0:=by simpa using e
   cases e0
   have h:=h env rfl
   (rw[Wa,gD]at h;replace h:=(Bj hg)▸h)
   exact h
theorem CB{Q:Ae}(hn:1<=n)(h0:0<=b)(hb:b<2 ^ 20)(h:Q (.lW (g.length+61)) (B S k m G st++(g++[il (nC 20 b 0)]))):CG n hd 32 [.int b] Q X (B S k m G st++g):=by
 refine stp hn fun n hn=>?_
 refine R0 ?_
 refine VC (g:=g++[il []]) (r:=g.length) 100 20 b 0 _ [] (by decide) (by decide) rfl rfl rfl h0 hb (gv) (by decide) fun env' e=>?_
 rw[g8 _ _ (gE _),iB]
 refine Ab e ?_
 exact h
end
noncomputable def F9:Nat->Int->Int->Int
 |0,_,_=> -1
 |k+1,x,s=>match Am x 1 != 0 with|true=>s|false=>F9 k (x.fdiv 2) (s+1)
theorem Wl(x:Nat):(2*x).testBit 0=false:=by rw[iZ,Nat.mul_mod_right];rfl
theorem Wm(x i:Nat):(2*x).testBit (i+1)=x.testBit i:=by rw[iK,lw x (by decide)]
theorem dn(x i:Nat):(2*x+1).testBit (i+1)=x.testBit i:=by rw[iK,Nat.mul_add_div (by decide)];rfl
theorem N8(x y:Nat):(2*x)&&& (2*y+1)=2*(x&&& y):=by
 refine jF fun i=>?_
 cases i with
 |zero=>rw[i7,Wl,Wl];rfl
 |succ i=>rw[i7,Wm,dn,Wm,i7]
theorem X0(a:Nat):(2*a)&&& (2*a - 1)=2*(a&&& (a - 1)):=by
 cases a with
 |zero=>rfl
 |succ d=>exact N8 (d+1) d
theorem X9(a:Nat):(2*a+1)&&& (2*a)=2*a:=by rw[Nat.and_comm,N8,Nat.and_self]
theorem Uo(b:Nat):((2*b:Nat):Int) % 2=0:=by rw[Int.natCast_mul];exact Int.mul_emod_right 2 b
theorem Un(b:Nat):((2*b:Nat):Int).fdiv 2=b:=by rw[Int.natCast_mul];exact i9 b (by decide)
theorem Yb(b:Nat):((2*b+1:Nat):Int) % 2=1:=by
 show((2*b+1:Nat):Int) % ((2:Nat):Int)=_
 rw[<- Int.natCast_emod,kW];rfl
theorem SU(k b:Nat)(s:Int):F9 (k+1) (2*b:Nat) s=F9 k b (s+1):=by
 unfold F9
 rw[NM _ (gO _),Uo,Un]
 induction k using Nat.casesOn<;>rfl
theorem U2(k b:Nat)(s:Int):F9 (k+1) (2*b+1:Nat) s=s:=by
 unfold F9
 rw[NM _ (gO _),Yb];rfl
theorem U4(k:Nat):∀(a:Nat) (s:Int),0<a->a<2 ^ k->∃j,j<k/\a - (a&&& (a - 1))=2 ^ j/\F9 k a s=s+j:=by
 induction k with
 |zero=>intro a s h0 h1;exact absurd h0 (Nat.not_lt.mpr (kN h1))
 |succ k ih=>
  intro a s h0 h1
  obtain⟨b,rfl|rfl⟩:∃b,a=2*b\/a=2*b+1:=⟨a / 2,by lia⟩
  ·obtain⟨j,hj,e1,e2⟩:=ih b (s+1) (Nat.pos_of_mul_pos_left h0) (lj (a:=2) (by rw[kH,lA (2 ^ k)]at h1;exact h1))
   refine⟨j+1,j3 hj,?_,?_⟩
   ·rw[X0,<- Nat.mul_sub,e1,kH,lA]
   ·rw[SU,e2,Int.add_assoc,Int.add_comm 1];rfl
  ·refine⟨0,jp k,?_,?_⟩
   ·rw[Nat.add_sub_cancel,X9,j6]
   ·rw[U2];exact(lE s).symm
section
variable{S:List Int}{k:Int}{m:Nat}{G:l7}{st:St}{g:MH}{n:Nat}{hd:Bool}{X:As}{μ:MH}
theorem aD{Q:Ae}(j:Nat)(hn:1<=n)(hj:j<20)(h:Q (.int j) μ):CG n hd 29 [.int (2 ^ j:Nat)] Q X μ:=by
 refine stp hn fun n hn=>?_
 have e:CG (n+1) hd 29 [.int (2 ^ j:Nat)] Q X μ=Q (.int j) μ:=by
  rcases j with _|_|_|_|_|_|_|_|_|_|_|_|_|_|_|_|_|_|_|_|j<;>first|lia|kernel_rfl
 refine e.symm▸?_;exact h
theorem ZG{Q:Ae}(hn:2<=n)(h0:0<=b)(hb:b<2 ^ 20)(h:Q (.int (F9 20 b 0)) μ):CG n hd 30 [.int b] Q X μ:=by
 obtain⟨a,rfl⟩:=gB h0
 refine stp hn fun n hn=>?_
 cases a with
 |zero=>
  induction n using Nat.casesOn with
  |zero=>exact absurd hn (by decide)
  |succ n=>exact h
 |succ d=>
  obtain⟨j,hj,e1,e2⟩:=U4 20 (d+1) 0 (jp d) (Int.ofNat_lt.mp hb)
  have e3:Builtin.bitAnd ((d+1:Nat):Int) (-((d+1:Nat):Int))=((2 ^ j:Nat):Int):=by
   refine e1▸?_
   show((d+1:Nat):Int) - ((((d+1:Nat):Int).toNat&&& (Builtin.bitNot (Int.negSucc d)).toNat:Nat):Int)=_
   rw[GJ]
   exact(Int.ofNat_sub i8).symm
  (replace h:=e2▸h;rw[j8]at h)
  conv=>whnf
  refine e3.symm▸?_
  exact aD j (l0 hn rfl) hj h
end
def Bd(G:l7)(b:Int):Prop:=0<=b/\b<2 ^ G.size.toNat
structure St.nX(st:St)(G:l7):Prop where
 s0:Bd G st.s0
 s1:Bd G st.s1
theorem St.nX.si{st:St}(L:st.nX G)(c:Bool):Bd G (st.si c):=by cases c;exact L.s0;exact L.s1
theorem K4(x y:Int):Am x y=Am y x:=Gi fun k=>by show tb (Builtin.bitAnd x y) k=tb (Builtin.bitAnd y x) k;rw[Bv,Bv,Bool.and_comm]
theorem Es(hx:0<=x)(y:Int):0<=Am x y/\Am x y<=x:=by
 obtain⟨a,rfl⟩:=gB hx
 induction y with
 |ofNat b=>
  show 0<=(((a&&& b:Nat)):Int)/\((a&&& b:Nat):Int)<=a
  have:a&&& b<=a:=i8
  lia
 |negSucc b=>
  show 0<=((a:Int) - ((a&&& (Builtin.bitNot (Int.negSucc b)).toNat:Nat):Int))/\((a:Int) - ((a&&& (Builtin.bitNot (Int.negSucc b)).toNat:Nat):Int))<=a
  have:a&&& (Builtin.bitNot (Int.negSucc b)).toNat<=a:=i8
  lia
theorem Bd.left(h:Bd G x)(y:Int):Bd G (Am x y):=⟨(Es h.1 y).1,jT (Es h.1 y).2 h.2⟩
theorem Bd.right(h:Bd G x)(y:Int):Bd G (Am y x):=by rw[K4];exact h.left y
theorem Bd.top{G:l7}(h:Bd G x)(GS:G.l6):x<2 ^ 20:=by
 have h2:=h.2
 have:(2:Nat) ^ G.size.toNat<=2 ^ 20:=iy (by decide) (by have:=GS.top;lia)
 have e:(2:Int) ^ G.size.toNat=((2 ^ G.size.toNat:Nat):Int):=by rw[jK];rfl
 lia
theorem Zc:∀{x t s:Int},0<=x->s∈nC k x t->∃j,j<k/\s=t+j/\tb x j=true:=by
 induction k with
 |zero=>intro x t s _ h;cases h
 |succ k ih=>
  intro x t s h0 h
  have hd:x.fdiv 2=x / 2:=iz _ (by decide)
  have sh:∀j,tb (x / 2) j=tb x (j+1):=fun j=>by
   obtain⟨a,rfl⟩:=gB h0
   show(a / 2).testBit j=a.testBit (j+1)
   rw[iK]
  unfold nC at h
  rw[List.mem_append]at h
  rcases h with h|h
  ·have b0:(Am x 1 != 0)=tb x 0:=by
    refine(NM x h0).symm▸?_
    obtain⟨a,rfl⟩:=gB h0
    show _=a.testBit 0
    rw[iZ]
    rcases jo a with c|c
    ·(rewrite[show(a:Int) % 2=0 by lia];refine c.symm▸?_);rfl
    ·(rewrite[show(a:Int) % 2=1 by lia];refine c.symm▸?_);rfl
   revert h b0
   cases Am x 1 != 0 with
   |true=>intro h b0;exact⟨0,jp k,by refine(List.mem_singleton.mp h).symm▸?_;exact(lE t).symm,b0.symm⟩
   |false=>intro h;exact nomatch h
  ·replace h:=hd▸h
   obtain⟨j,hj,e,q⟩:=ih (by lia) h
   exact⟨j+1,j3 hj,by exact hY (e8 (iD e)) (mI (nB _ _ _) (.add mP (mj 2 1)) md (.add (mj 1 1) oH) md rfl (iD e.symm)),(sh j).symm.trans q⟩
theorem Bd.sq{G:l7}(h:Bd G x){s:Int}(m:s∈nC 20 x 0):0<=s/\s<G.size/\tb x s.toNat=true:=by
 obtain⟨j,hj,e,q⟩:=Zc h.1 m
 rw[j8]at e
 cases e
 refine⟨gO j,?_,q⟩
 obtain⟨a,rfl⟩:=gB h.1
 have e:(2:Int) ^ G.size.toNat=((2 ^ G.size.toNat:Nat):Int):=by rw[jK];rfl
 have h2:=h.2
 replace h2:=e▸h2
 rcases iV j G.size.toNat with c|c
 ·lia
 ·have:(2:Nat) ^ G.size.toNat<=2 ^ j:=iy (by decide) c
  have q:a.testBit j=true:=q
  exact Ew q (iW (by exact Int.ofNat_lt.mp (qq2 h2 (Int.ofNat_le.mpr this))))
noncomputable def Ax(st:St)(c:Bool):Int:=F9 20 (Am (st.si c) st.k6) 0
noncomputable def A3(st:St):Int:=bor st.s0 st.s1
noncomputable def Bc(G:l7)(st:St)(c:Bool):Int:=Am (ZB G st (Ax st c) (A3 st)) (st.si (!c))
noncomputable def Bo(G:l7)(st:St)(c:Bool):Bool:=Bq G st (Ax st c) (!c) (A3 st)
noncomputable def HY(G:l7)(d:Nat)(a:Int):Int:=Cu (KU G d) a
noncomputable def Sw(G:l7)(a b:Int):List Nat->Option Nat
 |[]=>none
 |d :: r=>match Am ((HY G d a).fdiv (2 ^ b.toNat)) 1 != 0 with
  |true=>some d
  |false=>Sw G a b r
noncomputable def fW:Option Nat->Int
 |none=> -1
 |some d=>d
noncomputable def GB(G:l7)(a b:Int):Option Nat:=Sw G a b [0,1,2,3,4,5,6,7]
noncomputable def back:Nat->Nat
 |0=>2|1=>3|2=>0|3=>1|4=>6|5=>7|6=>4|_=>5
noncomputable def AW(G:l7)(a b:Int):Int:=match GB G a b with
 |none=>0
 |some d=>Am (HY G d a) (HY G (back d) b)
noncomputable def PY(G:l7)(a b:Int):Int:=match GB G a b with
 |none=>0
 |some d=>bor (bor (HY G d a) (HY G (back d) a)) (1*2 ^ a.toNat)
noncomputable def dO(G:l7)(a b c:Int):Bool:=Am ((PY G a b).fdiv (2 ^ c.toNat)) 1==1
noncomputable def fV:MS:=(MS.ite (.bin .BitAnd (.bin .RShift (.sub (.sub (.attr (.lW 33) 36) (.lW 35)) (.lW 34)) (.lW 25)) (.int 1)) (.seq (.ret (.lW 35)) .skip) .skip).seq .skip
theorem Xk(L:List Nat)(hL:∀d∈L,d<8)(h:Sw G a b L=some d):d<8:=by
 induction L with
 |nil=>exact Ao h
 |cons x L ih=>
  unfold Sw at h
  revert h
  cases Am ((HY G x a).fdiv (2 ^ b.toNat)) 1 != 0 with
  |true=>intro h;obtain rfl:=Option.some.inj h;exact hL _ gJ
  |false=>exact ih fun d hd=>hL d (gz _ hd)
theorem N5(h:GB G a b=some d):d<8:=Xk _ (by decide) h
section
variable{S:List Int}{k:Int}{m:Nat}{G:l7}{st:St}{g:MH}{n:Nat}{hd:Bool}{X:As}{μ:MH}
theorem Ug{Φ:Bool->Nat->List V->Ae->As->MH->Prop}{Q:Au}(GS:G.l6)(a0:0<=a)(a1:a<G.size)(b0:0<=b)(L:List Nat):∀(_:∀d∈L,d<8) (env:An),env 33=some (.lW 18)->env 34=some (.int a)->env 25=some (.int b)->
  (∀env',match Sw G a b L with|some d=>Q (.ret (.int d)) env' (B S k m G st++g)|none=>Q .next env' (B S k m G st++g))->
  Bz none (fun v K env' μ'=>opt (AC [35] true v env') fun e=>ws lX Φ hd fV K X e μ') (L.map fun(d:Nat)=>V.int d) Q env (B S k m G st++g):=by
 induction L with
 |nil=>intro _ env um uo qt h;exact h env
 |cons d L ih=>
  intro hL env um uo qt h
  have h8:=hL d gJ
  refine Ab um ?_
  refine Af (Dg h8).1 ?_
  refine Ab uo ?_
  refine AO (Dg h8).2 a0 (BK (GS.om d h8) a1) ?_
  refine Ab qt ?_
  refine Aj (gy b0) ?_
  unfold Sw at h
  refine Ap (fun e=>?_) fun e=>?_
  ·have e:(Am ((HY G d a).fdiv (2 ^ b.toNat)) 1 != 0)=true:=e
   replace h:=e▸h
   exact h _
  ·have e:(Am ((HY G d a).fdiv (2 ^ b.toNat)) 1 != 0)=false:=e
   replace h:=e▸h
   exact ih (fun d hd=>hL d (gz _ hd)) _ um uo qt h
theorem ZE{Q:Ae}(hn:1<=n)(GS:G.l6)(a0:0<=a)(a1:a<G.size)(b0:0<=b)(h:Q (.int (fW (GB G a b))) (B S k m G st++g)):CG n hd 37 [.lW 18,.int a,.int b] Q X (B S k m G st++g):=by
 refine stp hn fun n hn=>?_
 refine A0 ?_
 refine Ug GS a0 a1 b0 [0,1,2,3,4,5,6,7] (by decide) _ rfl rfl rfl fun env'=>?_
 show match GB G a b with|some d=>_|none=>_
 cases e:GB G a b with
 |none=>replace h:=e▸h;exact h
 |some d=>replace h:=e▸h;exact h
theorem Ip{d:Nat}(h:d<8):Builtin.bitXor (d:Int) 2=(back d:Int)/\back d<8:=by
 exact u9 h ⟨rfl,by decide⟩ ⟨rfl,by decide⟩ ⟨rfl,by decide⟩ ⟨rfl,by decide⟩ ⟨rfl,by decide⟩ ⟨rfl,by decide⟩ ⟨rfl,by decide⟩ ⟨rfl,by decide⟩
theorem FF{d:Nat}(h8:d<8):B6 (B S k m G st++g) (.lW 21) (.int (Builtin.bitXor (d:Int) 2))=some (.lW (32+2*back d))/\(B S k m G st++g)[32+2*back d]?=some (il (KU G (back d))):=by refine((Ip h8).1).symm▸?_;exact Dg (Ip h8).2
theorem K6{Q:Ae}(hn:2<=n)(GS:G.l6)(a0:0<=a)(a1:a<G.size)(b0:0<=b)(b1:b<G.size)(h:Q (.int (AW G a b)) (B S k m G st++g)):CG n hd 38 [.lW 18,.int a,.int b] Q X (B S k m G st++g):=by
 refine stp hn fun n hn=>?_
 refine ZE (l0 hn rfl) GS a0 a1 b0 ?_
 unfold AW at h
 cases e:GB G a b with
 |none=>replace h:=e▸h;exact h
 |some d=>
  rw[e]at h
  have h8:=N5 e
  have hb:=GS.om _ (Ip h8).2
  refine Af (Dg h8).1 ?_
  refine AO (Dg h8).2 a0 (BK (GS.om d h8) a1) ?_
  refine Af (FF h8).1 ?_
  refine AO (FF h8).2 b0 (BK hb b1) ?_
  exact h
theorem aG{Q:Ae}(hn:2<=n)(GS:G.l6)(a0:0<=a)(a1:a<G.size)(b0:0<=b)(h:Q (.int (PY G a b)) (B S k m G st++g)):CG n hd 39 [.lW 18,.int a,.int b] Q X (B S k m G st++g):=by
 refine stp hn fun n hn=>?_
 refine ZE (l0 hn rfl) GS a0 a1 b0 ?_
 unfold PY at h
 cases e:GB G a b with
 |none=>replace h:=e▸h;exact h
 |some d=>
  replace h:=e▸h
  have h8:=N5 e
  have hb:=GS.om _ (Ip h8).2
  refine Af (Dg h8).1 ?_
  refine AO (Dg h8).2 a0 (BK (GS.om d h8) a1) ?_
  refine Af (FF h8).1 ?_
  refine AO (FF h8).2 a0 (BK hb a1) ?_
  refine Aj (gy a0) ?_
  refine Aj (gy (gK a1 (kI GS.top (by decide)))) ?_
  exact h
theorem au{Q:Ae}(hn:3<=n)(GS:G.l6)(a0:0<=a)(a1:a<G.size)(b0:0<=b)(c0:0<=c)(h:Q (.bool (dO G a b c)) (B S k m G st++g)):CG n hd 41 [.lW 18,.int a,.int b,.int c] Q X (B S k m G st++g):=by
 refine stp hn fun n hn=>?_
 refine aG (l0 hn rfl) GS a0 a1 b0 ?_
 refine Aj (gy c0) ?_
 exact h
theorem Hh{Q:Ae}(hn:3<=n)(GS:G.l6)(L:st.nX G)(h:Q (.int (Ax st c)) (B S k m G st++g)):CG n hd 118 [.lW 54,.int (sd c)] Q X (B S k m G st++g):=by
 refine stp hn fun n hn=>?_
 have hb:=Bd.left (L.si c) st.k6
 refine Af (BH c) ?_
 refine Af rfl ?_
 exact ZG (l0 hn rfl) hb.1 (hb.top GS) h
theorem Kg(c:Bool):B6 (B S k m G st++g) (.lW 59) (.int (1 - sd c))=some (.int (st.si (!c))):=by rw[Gd];exact BH (!c)
theorem Po{Q:Ae}(hn:6<=n)(GS:G.l6)(L:st.nX G)(q0:0<=Ax st c)(q1:Ax st c<G.size)(h:Q (.int (Bc G st c)) (B S k m G st++g)):CG n hd 132 [.lW 54,.int (sd c)] Q X (B S k m G st++g):=by
 refine stp hn fun n hn=>?_
 refine Af rfl ?_
 refine Af rfl ?_
 refine Hh (l0 hn rfl) GS L ?_
 refine WJ (l0 hn rfl) GS q0 q1 ?_
 conv=>whnf
 exact Af (Kg c) h
theorem K7{Q:Ae}(hn:5<=n)(GS:G.l6)(L:st.nX G)(q0:0<=Ax st c)(q1:Ax st c<G.size)(h:Q (.bool (Bo G st c)) (B S k m G st++g)):CG n hd 134 [.lW 54,.int (sd c)] Q X (B S k m G st++g):=by
 refine stp hn fun n hn=>?_
 refine Af rfl ?_
 refine Af rfl ?_
 refine Hh (l0 hn rfl) GS L ?_
 conv=>whnf
 rw[Gd]
 exact Jm (l0 hn rfl) GS q0 q1 h
end
noncomputable def mR:Nat->MS->MS
 |0,.seq a _=>a
 |n+1,.seq _ b=>mR n b
 |_,s=>s
noncomputable def fb:MS->MS
 |.mq _ _ _ b=>b
 |.m7 _ b=>b
 |s=>s
noncomputable def DR(G:l7)(st:St)(c:Bool):Int:=Am (bor (Am (CV G (Ax st c) 0) (AQ st)) (Am (DJ G (Ax st c) 0) (Cf st))) (st.si (!c))
noncomputable def Cv(x y:Int):Int:=Builtin.bitXor x y
noncomputable def UB(G:l7)(k nN:Int):List Int->Int->Int
 |[],h=>h
 |s :: r,h=>UB G k nN r (match Am (AW G k s) nN != 0 with
  |true=>(match !(Am (Am (AW G k s) nN) (Am (AW G k s) nN - 1) != 0)with|true=>bor h (Am (AW G k s) nN)|false=>h)
  |false=>h)
noncomputable def C9(G:l7)(st:St)(c:Bool):Int:=Am (UB G (Ax st c) (Cv (A3 st) (DR G st c)) (nC 20 (DR G st c) 0) 0) (st.si c)
section
variable{S:List Int}{k:Int}{m:Nat}{G:l7}{st:St}{g:MH}{n:Nat}{hd:Bool}{X:As}{μ:MH}
theorem dR{Q:Ae}(hn:7<=n)(GS:G.l6)(L:st.nX G)(q0:0<=Ax st st.side)(q1:Ax st st.side<G.size)(h:Q (.int (Bc G st st.side)) (B S k m G st++g)):CG n hd 133 [.lW 54] Q X (B S k m G st++g):=by
 refine stp hn fun n hn=>?_
 refine Po (l0 hn rfl) GS L q0 q1 ?_
 exact h
theorem Ir{Q:Ae}(hn:6<=n)(GS:G.l6)(L:st.nX G)(q0:0<=Ax st st.side)(q1:Ax st st.side<G.size)(h:Q (.bool (Bo G st st.side)) (B S k m G st++g)):CG n hd 135 [.lW 54] Q X (B S k m G st++g):=by
 refine stp hn fun n hn=>?_
 refine K7 (l0 hn rfl) GS L q0 q1 ?_
 exact h
theorem Sn{Q:Ae}(hn:4<=n)(GS:G.l6)(L:st.nX G)(q0:0<=Ax st c)(q1:Ax st c<G.size)(h:Q (.int (DR G st c)) (B S k m G st++g)):CG n hd 136 [.lW 54,.int (sd c)] Q X (B S k m G st++g):=by
 refine stp hn fun n hn=>?_
 refine Hh (l0 hn rfl) GS L ?_
 refine Js (l0 hn rfl) GS q0 q1 ?_
 refine F4 (l0 hn rfl) ?_
 refine F3 (l0 hn rfl) GS q0 q1 ?_
 refine Gx (l0 hn rfl) ?_
 conv=>whnf
 exact Af (Kg c) h
theorem eP(h:μ[n]?=some (.list xs)):By μ n=some xs:=by unfold By;rw[h]
theorem Be{l:List Int}(h:g[j]?=some (il l)):C6 (B S k m G st++g) (.lW (j+61))=some (l.map .int,some (j+61,l.map .int)):=by
 show(By (B S k m G st++g) (j+61)).map (fun xs=>(xs,some (j+61,xs)))=_
 refine(eP (show(B S k m G st++g)[j+61]?=_ from h)).symm▸?_;rfl
theorem Ac{α:Type}{l:List α}{i:Nat}{a:α}(h:l[i]?=some a)(e:List α):(l++e)[i]?=some a:=by
 rw[jX,h]
 rcases iV i l.length with c|c
 ·exact c
 ·exact AM (ip c) h
noncomputable def fR:MS:=fb (mR 5 IZ)
theorem TK{Q:Au}{XS:List Int}(hn:3<=n+1)(GS:G.l6)(hj:g[j]?=some (il XS))(q0:0<=q)(q1:q<G.size)(L:List Int):∀(_:∀s∈L,0<=s/\s<G.size) (env:An) (h p:Int),env 102=some (.lW 54)->env 0=some (.int (sd c))->env 60=some (.int q)->env 142=some (.int sg)->env 138=some (.int h)->env 137=some (.int p)->
  (∀env' p',env' 138=some (.int (UB G q sg L h))->env' 137=some (.int p')->Q .next env' (B S k m G st++g))->
  Bz (some (j+61,XS.map .int)) (fun v K env' μ'=>opt (AC [139] true v env') fun e=>ws lX (Ak lX prog n) hd fR K X e μ') (L.map .int) Q env (B S k m G st++g):=by
 induction L with
 |nil=>intro _ env h p a1 a2 a3 a4 a5 a6 hQ;exact⟨hj,hQ env p a5 a6⟩
 |cons s L ih=>
  intro hL env h p a1 a2 a3 a4 a5 a6 hQ
  have hs:=hL s gJ
  have oM:∀s∈L,0<=s/\s<G.size:=fun s hs=>hL s (gz _ hs)
  refine⟨hj,?_⟩
  refine Ab a1 ?_
  refine Ab a3 ?_
  refine K6 (l0 hn rfl) GS q0 q1 hs.1 hs.2 ?_
  refine Ab a4 ?_
  unfold UB at hQ
  refine Ap (fun e=>?_) fun e=>?_
  ·have e:(Am (AW G q s) sg != 0)=true:=e
   replace hQ:=e▸hQ
   refine TV (l0 hn rfl) ?_
   refine Ap (fun e=>?_) fun e=>?_
   ·have e:(!(Am (Am (AW G q s) sg) (Am (AW G q s) sg - 1) != 0))=true:=e
    replace hQ:=e▸hQ
    refine Ab a5 ?_
    refine Ab a1 ?_
    refine Ab a2 ?_
    refine Af (BH c) ?_
    refine Ap (fun e=>?_) fun e=>?_
    ·conv=>whnf
     refine Ab a6 ?_
     refine Aj (gy hs.1) ?_
     refine Aj (gy (gK hs.2 (kI GS.top (by decide)))) ?_
     conv=>whnf
     exact ih oM _ _ _ a1 a2 a3 a4 rfl rfl hQ
    ·exact ih oM _ _ _ a1 a2 a3 a4 rfl a6 hQ
   ·have e:(!(Am (Am (AW G q s) sg) (Am (AW G q s) sg - 1) != 0))=false:=e
    rw[e]at hQ
    exact ih oM _ _ _ a1 a2 a3 a4 a5 a6 hQ
  ·have e:(Am (AW G q s) sg != 0)=false:=e
   replace hQ:=e▸hQ
   exact ih oM _ _ _ a1 a2 a3 a4 a5 a6 hQ
theorem Pn{Q:Ae}(hn:5<=n)(GS:G.l6)(L:st.nX G)(q0:0<=Ax st c)(q1:Ax st c<G.size)
  (h:∀p e,Q (.tup [.int (UB G (Ax st c) (Cv (A3 st) (DR G st c)) (nC 20 (DR G st c) 0) 0),p]) (B S k m G st++(g++e))):CG n hd 143 [.lW 54,.int (sd c)] Q X (B S k m G st++g):=by
 refine stp hn fun n hn=>?_
 refine Hh (l0 hn rfl) GS L ?_
 refine Sn (l0 hn rfl) GS L q0 q1 ?_
 refine Af rfl ?_
 refine Af rfl ?_
 have hb:Bd G (DR G st c):=(L.si (!c)).right _
 refine CB (l0 hn rfl) hb.1 (hb.top GS) ?_
 have hj:(g++[il (nC 20 (DR G st c) 0)])[g.length]?=some (il (nC 20 (DR G st c) 0)):=gv
 refine Ab (Be hj) ?_
 refine A0 ?_
 refine TK (gA (by decide) hn) GS hj q0 q1 _ (fun s hs=>⟨(hb.sq hs).1,(hb.sq hs).2.1⟩) _ _ _ rfl rfl rfl rfl rfl rfl fun env' p' e1 e2=>?_
 refine Ab e1 ?_
 refine Ab e2 ?_
 exact h _ _
theorem NT{Q:Ae}(hn:6<=n)(GS:G.l6)(L:st.nX G)(q0:0<=Ax st c)(q1:Ax st c<G.size)
  (h:∀e,Q (.int (C9 G st c)) (B S k m G st++(g++e))):CG n hd 144 [.lW 54,.int (sd c)] Q X (B S k m G st++g):=by
 refine stp hn fun n hn=>?_
 refine Pn (l0 hn rfl) GS L q0 q1 ?_
 intro p e
 refine Af rfl ?_
 refine Af (BH c) ?_
 exact h e
end
noncomputable def AH(o t f s:Int):Int:=bor (bor (bor t (o*2 ^ 6)) (f*2 ^ 12)) (s*2 ^ 14)
noncomputable def St.kd(st:St):Nat->Int
 |0=>st.k0|1=>st.k1|2=>st.k2|3=>st.k3|4=>st.k4|5=>st.k5|_=>st.k6
noncomputable def DB(G:l7)(kd:Nat)(sq occ:Int):Int:=match kd with
 |2=>Cu G.knight sq
 |3=>DJ G sq occ
 |4=>CV G sq occ
 |5=>bor (CV G sq occ) (DJ G sq occ)
 |_=>Cu G.king sq
noncomputable def E9(o goals:Int):List Int:=(nC 20 goals 0).map fun t=>AH o t 0 0
noncomputable def C8(G:l7)(st:St)(kd:Nat)(target:Int):List Int:=(nC 20 (Am (st.si st.side) (st.kd kd)) 0).flatMap fun o=>E9 o (Am (DB G kd o (A3 st)) target)
theorem BI(k:Nat):∀x t,(nC k x t).length<=k:=by
 induction k with
 |zero=>intro x t;exact gE 0
 |succ k ih=>
  intro x t
  unfold nC
  rw[gx]
  have:=ih (x.fdiv 2) (t+1)
  cases Am x 1 != 0 with
  |true=>show 1+_<=_;exact mO (mT _ _) (.add (.num 1) mi) (mt 1 1) mi mD rfl this
  |false=>show 0+_<=_;exact mO (mT _ _) (.add (.num 0) mi) (mt 1 1) mi mD rfl this
theorem GE{f:Int->List Int}(hf:∀o,(f o).length<=20)(l:List Int):(l.flatMap f).length<=20*l.length:=by
 induction l with
 |nil=>exact gE 0
 |cons o l ih=>(refine List.flatMap_cons.symm▸?_;refine List.length_append.symm▸?_;refine List.length_cons.symm▸?_);have:=hf o;lia
theorem Gb(G:l7)(st:St)(kd:Nat)(target:Int):(C8 G st kd target).length<=400:=by
 refine gA (GE (fun o=>?_) _) (iR 20 (BI 20 _ _))
 unfold E9;rw[gS];exact BI 20 _ _
theorem D0(h0:-1000<x)(h1:x<1000):small x=true:=gy (g6 (m:=1000) (by lia) (by decide))
section
variable{S:List Int}{k:Int}{m:Nat}{G:l7}{st:St}{g:MH}{n:Nat}{hd:Bool}{X:As}{μ:MH}
theorem Pq{Q:Ae}(hn:1<=n)(h0:-1000<o)(h1:o<1000)(h:Q (.int (AH o t 0 0)) μ):CG n hd 18 [.int o,.int t,.int 0,.int 0] Q X μ:=by
 refine stp hn fun n hn=>?_
 refine Aj (D0 h0 h1) ?_
 exact h
theorem QW{Q:Ae}(hn:1<=n)(h0:-1000<o)(h1:o<1000)(p0:-1000<p - 2)(p1:p - 2<1000)(h:Q (.int (AH o t (p - 2) 1)) μ):CG n hd 18 [.int o,.int t,.int 1,.int p] Q X μ:=by
 refine stp hn fun n hn=>?_
 refine Aj (D0 h0 h1) ?_
 refine Aj (D0 p0 p1) ?_
 exact h
theorem Iz{kd:Nat}(h:kd<7):B6 (B S k m G st++g) (.lW 58) (.int kd)=some (.int (st.kd kd)):=by
 exact pR h rfl rfl rfl rfl rfl rfl rfl
theorem ZH{Q:Ae}(hn:1<=n)(h:Q (.int (A3 st)) (B S k m G st++g)):CG n hd 88 [.lW 54] Q X (B S k m G st++g):=by
 refine stp hn fun n hn=>?_
 refine Af rfl ?_
 refine Af rfl ?_
 exact h
theorem Jq{Q:Ae}{c:Bool}{kd:Nat}(hn:1<=n)(h7:kd<7)(h:Q (.int (Am (st.si c) (st.kd kd))) (B S k m G st++g)):CG n hd 106 [.lW 54,.int (sd c),.int kd] Q X (B S k m G st++g):=by
 refine stp hn fun n hn=>?_
 refine Af (BH c) ?_
 refine Af (Iz h7) ?_
 exact h
theorem WW{Q:Ae}(hn:4<=n)(GS:G.l6)(h0:0<=sq)(h1:sq<G.size)(h:Q (.int (bor (CV G sq occ) (DJ G sq occ))) (B S k m G st++g)):CG n hd 94 [.lW 18,.int sq,.int occ] Q X (B S k m G st++g):=by
 refine stp hn fun n hn=>?_
 refine Js (l0 hn rfl) GS h0 h1 ?_
 conv=>whnf
 exact F3 (l0 hn rfl) GS h0 h1 h
theorem Jt{Q:Ae}(hn:5<=n)(GS:G.l6)(h2:3<=kd)(h7:kd<6)(h0:0<=sq)(h1:sq<G.size)(h:Q (.int (DB G kd sq occ)) (B S k m G st++g)):CG n hd 98 [.lW 18,.int kd,.int sq,.int occ] Q X (B S k m G st++g):=by
 refine stp hn fun n hn=>?_
 revert h
 exact k36 h2 h7 (fun h=>F3 (l0 hn rfl) GS h0 h1 h) (fun h=>Js (l0 hn rfl) GS h0 h1 h) (fun h=>WW (l0 hn rfl) GS h0 h1 h)
theorem WX{Q:Ae}(hn:6<=n)(GS:G.l6)(h2:2<=kd)(h7:kd<7)(h0:0<=sq)(h1:sq<G.size)(h:Q (.int (DB G kd sq occ)) (B S k m G st++g)):CG n hd 101 [.lW 18,.int (sd c),.int kd,.int sq,.int occ] Q X (B S k m G st++g):=by
 refine stp hn fun n hn=>?_
 revert h
 exact ta h2 h7 (fun h=>AO (xs:=G.knight) rfl h0 (BK GS.knight h1) h) (fun h=>Jt (kd:=3) (l0 hn rfl) GS (by decide) (by decide) h0 h1 h) (fun h=>Jt (kd:=4) (l0 hn rfl) GS (by decide) (by decide) h0 h1 h) (fun h=>Jt (kd:=5) (l0 hn rfl) GS (by decide) (by decide) h0 h1 h) (fun h=>AO (xs:=G.king) rfl h0 (BK GS.king h1) h)
noncomputable def eh:MS:=fb (mR 0 HN)
theorem SH{Q:Au}{XS:List Int}(hn:1<=n)(ij:j≠i)(o0:-1000<o)(o1:o<1000)(L:List Int):∀(g:MH) (xs:List Int) (env:An),g[i]?=some (il XS)->g[j]?=some (il xs)->xs.length+L.length<100000->env 31=some (.lW (j+61))->env 11=some (.int o)->
  (∀env',Q .next env' (B S k m G st++g.set j (il (xs++L.map fun t=>AH o t 0 0))))->
  Bz (some (i+61,XS.map .int)) (fun v K env' μ'=>opt (AC [61] true v env') fun e=>ws lX (Ak lX prog n) hd eh K X e μ') (L.map .int) Q env (B S k m G st++g):=by
 induction L with
 |nil=>
  intro g xs env hi hj hl e1 e2 h
  have h:=h env
  rw[show xs++([]:List Int).map (fun t=>AH o t 0 0)=xs from gD xs,Bj hj]at h
  exact⟨hi,h⟩
 |cons t L ih=>
  intro g xs env hi hj hl e1 e2 h
  rw[gQ]at hl
  refine⟨hi,?_⟩
  refine Ab e1 ?_
  refine Df hj ?_
  refine Ab e2 ?_
  refine Pq hn o0 o1 ?_
  refine Ab (Dz hj) ?_
  refine Aj (room (gY (hH _ _) hl)) ?_
  conv=>whnf
  have t:=ih (g.set j (il (xs++[AH o t 0 0]))) (xs++[AH o t 0 0]) (Ad env 61 (.int t)) (by rw[gX ij];exact hi) (AJ hj) (by rw[gx];show _+1+_<_;exact cn hl) e1 e2 fun env'=>by
   have h:=h env'
   rw[hW,gu]
   exact h
  rw[My]at t
  exact t
theorem AR{α:Type}{l e:List α}{i:Nat}{a b:α}(h:l[i]?=some a):(l++e).set i b=l.set i b++e:=by
 refine List.set_append_left _ _ ?_
 rcases iV i l.length with c|c
 ·exact c
 ·exact AM (ip c) h
theorem BX{α:Type}{l:List α}{i:Nat}{a:α}(h:l[i]?=some a):i≠l.length:=by
 intro e
 (rw[e]at h;replace h:=(ip (gE _))▸h);exact Ao h
theorem WK{Q:Ae}{j:Nat}{o goals:Int}{xs:List Int}(hn:2<=n)(GS:G.l6)(o0:-1000<o)(o1:o<1000)(hb:Bd G goals)(hj:g[j]?=some (il xs))(hl:xs.length<90000)
  (h:∀e,Q .none (B S k m G st++(g.set j (il (xs++E9 o goals))++e))):CG n hd 166 [.int o,.int goals,.lW (j+61)] Q X (B S k m G st++g):=by
 refine stp hn fun n hn=>?_
 refine CB (l0 hn rfl) hb.1 (hb.top GS) ?_
 have hi:(g++[il (nC 20 goals 0)])[g.length]?=some (il (nC 20 goals 0)):=gv
 refine Ab (Be hi) ?_
 refine A0 ?_
 refine SH (i:=g.length) (l0 hn rfl) (BX hj) o0 o1 _ _ xs _ hi (Ac hj _) (gY (ja (BI 20 _ _) _) (g6 (jl hl 20) (by decide))) rfl rfl fun env'=>?_
 refine(AR hj).symm▸?_
 exact h _
noncomputable def cf:MS:=fb (mR 1 DG)
theorem Qe{Q:Au}{i j:Nat}{XS:List Int}{kd:Nat}{target:Int}(hn:6<=n)(GS:G.l6)(ij:j≠i)(h2:2<=kd)(h7:kd<7)(hb:Bd G target)(L:List Int):∀(_:∀s∈L,0<=s/\s<G.size) (g:MH) (xs:List Int) (env:An),g[i]?=some (il XS)->g[j]?=some (il xs)->xs.length+20*L.length<90000->
  env 102=some (.lW 54)->env 1=some (.int kd)->env 147=some (.int (A3 st))->env 167=some (.int target)->env 31=some (.lW (j+61))->
  (∀env' e,Q .next env' (B S k m G st++(g.set j (il (xs++L.flatMap fun o=>E9 o (Am (DB G kd o (A3 st)) target)))++e)))->
  Bz (some (i+61,XS.map .int)) (fun v K env' μ'=>opt (AC [11] true v env') fun e=>ws lX (Ak lX prog n) hd cf K X e μ') (L.map .int) Q env (B S k m G st++g):=by
 induction L with
 |nil=>
  intro _ g xs env hi hj hl e1 e2 e3 e4 e5 h
  have h:=h env []
  (replace h:=jc▸h;rw[gD,gD,Bj hj]at h)
  exact⟨hi,h⟩
 |cons o L ih=>
  intro hL g xs env hi hj hl e1 e2 e3 e4 e5 h
  have ho:=hL o gJ
  replace hl:=gQ▸hl
  refine⟨hi,?_⟩
  refine Ab e1 ?_
  refine Ab e1 ?_
  refine Ab e2 ?_
  refine Ab e3 ?_
  refine WX hn GS h2 h7 ho.1 ho.2 ?_
  refine Ab e4 ?_
  refine Ab e5 ?_
  refine WK (gA (by decide) hn) GS (gK (by decide) ho.1) (gK ho.2 (kI GS.top (by decide))) (hb.right (DB G kd o (A3 st))) hj (gY (hH _ _) hl) ?_
  intro e
  conv=>whnf
  have lg:(E9 o (Am (DB G kd o (A3 st)) target)).length<=20:=by unfold E9;rw[gS];exact BI 20 _ _
  refine ih (fun s hs=>hL s (gz _ hs)) (g.set j (il (xs++E9 o (Am (DB G kd o (A3 st)) target)))++e) (xs++E9 o (Am (DB G kd o (A3 st)) target)) _ (Ac (by refine(gX ij).symm▸?_;exact hi) e) (Ac (AJ hj) e) (by refine List.length_append.symm▸?_;exact o9 (nB _ _ _) (.add (.add (.add mi nE) (.mulL 20 mD)) (.num 1)) (.num 90000) (.add (.add mi (.mulL 20 (mt 1 1))) (.num 1)) (.num 90000) nE (.num 20) rfl hl lg) e1 e2 e3 e4 e5 fun env' e'=>?_
  (refine(AR (AJ hj)).symm▸?_;rewrite[hW];rewrite[gu];rewrite[gu])
  have h:=h env' (e++e')
  exact h
theorem Eu{Q:Ae}{xs:List Int}(hn:7<=n)(GS:G.l6)(L:st.nX G)(h2:2<=kd)(h7:kd<7)(hb:Bd G target)(hj:g[j]?=some (il xs))(hl:xs.length<80000)
  (h:∀e,Q .none (B S k m G st++(g.set j (il (xs++C8 G st kd target))++e))):CG n hd 169 [.lW 54,.int kd,.int target,.lW (j+61)] Q X (B S k m G st++g):=by
 refine stp hn fun n hn=>?_
 refine ZH (l0 hn rfl) ?_
 refine Jq (l0 hn rfl) h7 ?_
 have hp:Bd G (Am (st.si st.side) (st.kd kd)):=(L.si _).left _
 refine CB (l0 hn rfl) hp.1 (hp.top GS) ?_
 have hi:(g++[il (nC 20 (Am (st.si st.side) (st.kd kd)) 0)])[g.length]?=some (il (nC 20 (Am (st.si st.side) (st.kd kd)) 0)):=gv
 refine Ab (Be hi) ?_
 refine A0 ?_
 refine Qe (i:=g.length) (l0 hn rfl) GS (BX hj) h2 h7 hb _ (fun s hs=>⟨(hp.sq hs).1,(hp.sq hs).2.1⟩) _ xs _ hi (Ac hj _) (gY (ja (iR 20 (BI 20 _ _)) _) (g6 (jl hl 400) (by decide))) rfl rfl rfl rfl rfl fun env' e=>?_
 (refine(AR hj).symm▸?_;rewrite[gu])
 exact h _
end
noncomputable def CY:Bool->Int
 |false=>4
 |true=> -4
noncomputable def BF(G:l7):Bool->Int
 |false=>Cu G.rankm (G.ranks - 1)
 |true=>Cu G.rankm 0
noncomputable def EM(G:l7)(b:Int):Bool->Int
 |false=>Am (b*2 ^ 4) G.full
 |true=>b.fdiv (2 ^ 4)
noncomputable def Do(x:Int):Int:= -x - 1
noncomputable def Md(G:l7)(b:Int)(c:Bool):Bool->Int
 |false=>EM G (Am b (Do (Cu G.files 3))) c*2 ^ 1
 |true=>(EM G (Am b (Do (Cu G.files 0))) c).fdiv (2 ^ 1)
noncomputable def PF(G:l7)(st:St):Int:=Am G.full (Do (A3 st))
noncomputable def C7(st:St)(c:Bool):Int:=Am (st.si c) st.k1
noncomputable def Cy(G:l7)(st:St)(c:Bool):Int:=Am (EM G (C7 st c) c) (PF G st)
theorem Bd.full{G:l7}(GS:G.l6):Bd G G.full:=⟨GS.sI,GS.sJ⟩
theorem Bd.fdiv{x:Int}(h:Bd G x)(j:Int)(hj:1<=j):Bd G (x.fdiv j):=by
 have h0:=h.1;have h1:=h.2
 rw[iz _ (by exact e9 hj)]
 exact⟨jL h0 (by exact e9 hj),jT (Int.ediv_le_self _ h0) h1⟩
theorem Bd.push{G:l7}(GS:G.l6)(h:Bd G b)(c:Bool):Bd G (EM G b c):=by
 cases c with
 |false=>exact(Bd.full GS).right _
 |true=>exact h.fdiv _ (by decide)
theorem Bd.small{G:l7}(GS:G.l6)(h:Bd G b):small b=true:=gy (by
 have:=h.top GS;have:=h.1
 exact g6 (m:=2 ^ 20) (by lia) (by decide))
section
variable{S:List Int}{k:Int}{m:Nat}{G:l7}{st:St}{g:MH}{n:Nat}{hd:Bool}{X:As}{μ:MH}
theorem Ps{Q:Ae}(hn:1<=n)(h:Q (.int (CY c)) (B S k m G st++g)):CG n hd 174 [.lW 18,.int (sd c)] Q X (B S k m G st++g):=by
 induction n using Nat.casesOn with
 |zero=>exact absurd hn (by decide)
 |succ n=>induction c<;>exact h
theorem Pp{Q:Ae}(hn:1<=n)(GS:G.l6)(h:Q (.int (BF G c)) (B S k m G st++g)):CG n hd 176 [.lW 18,.int (sd c)] Q X (B S k m G st++g):=by
 refine stp hn fun n hn=>?_
 have hr:=GS.ranks
 induction c with
 |false=>
  refine AO (xs:=G.rankm) rfl (by exact mI (mn _) (.num 0) (.sub md (.num 1)) (.num 1) md rfl hr) (BK GS.rankm (by exact ov (mn _) (.add (.sub md (.num 1)) (.num 1)) md rfl)) ?_
  exact h
 |true=>
  refine AO (xs:=G.rankm) rfl (by decide) (BK GS.rankm (by assumption)) ?_
  exact h
theorem Pr{Q:Ae}(hn:1<=n)(hs:small b=true)(h:Q (.int (EM G b c)) (B S k m G st++g)):CG n hd 177 [.lW 18,.int b,.int (sd c)] Q X (B S k m G st++g):=by
 refine stp hn fun n hn=>?_
 induction c with
 |false=>
  refine Aj hs ?_
  exact h
 |true=>exact h
theorem dQ{Q:Ae}(hn:2<=n)(GS:G.l6)(hb:Bd G b)(h:Q (.int (Md G b c w)) (B S k m G st++g)):CG n hd 178 [.lW 18,.int b,.int (sd c),.int (sd w)] Q X (B S k m G st++g):=by
 refine stp hn fun n hn=>?_
 have hf:((G.files.length:Nat):Int)=4:=by refine GS.files.symm▸?_;rfl
 induction w with
 |false=>
  refine AO (xs:=G.files) rfl (by decide) (BK hf (by decide)) ?_
  refine Pr (l0 hn rfl) ((hb.left _).small GS) ?_
  refine Aj (((hb.left _).push GS c).small GS) ?_
  exact h
 |true=>
  refine AO (xs:=G.files) rfl (by decide) (BK hf (by decide)) ?_
  refine Pr (l0 hn rfl) ((hb.left _).small GS) ?_
  exact h
theorem QY{Q:Ae}(hn:2<=n)(GS:G.l6)(L:st.nX G)(h:Q (.tup [.int (Cy G st c),.int 0]) (B S k m G st++g)):CG n hd 184 [.lW 54,.int (sd c)] Q X (B S k m G st++g):=by
 refine stp hn fun n hn=>?_
 refine ZH (l0 hn rfl) ?_
 refine Jq (kd:=1) (l0 hn rfl) (by decide) ?_
 refine Pr (l0 hn rfl) (((L.si c).left _).small GS) ?_
 exact h
end
noncomputable def Fe(o t:Int):List Int:=[AH o t 3 1,AH o t 2 1,AH o t 1 1,AH o t 0 1]
noncomputable def stI:Bool->Int
 |false=>2
 |true=>3
noncomputable def ft:MS->MS
 |.ite _ a _=>a
 |s=>s
section
variable{S:List Int}{k:Int}{m:Nat}{G:l7}{st:St}{g:MH}{n:Nat}{hd:Bool}{X:As}{μ:MH}
theorem Fg{xs:List Int}:(B S k m G st++g).set (j+61) (.list (xs.map .int++[.int v]))=B S k m G st++g.set j (il (xs++[v])):=by rw[My];rfl
theorem BP:C6 (B S k m G st++g++[.list l]) (.lW (B S k m G st++g).length)=some (l,some (g.length+61,l)):=by
 show(By (B S k m G st++g++[.list l]) (g.length+61)).map (fun xs=>(xs,some (g.length+61,xs)))=_
 have e:(B S k m G st++g++[.list l])[(B S k m G st++g).length]?=some (.list l):=gv
 refine(CO (n:=g.length+61) e).symm▸?_;rfl
noncomputable def prB:MS:=fb (mR 0 (ft (mR 2 D3)))
theorem Yx{Q:Au}{XS:List Int}(hn:1<=n)(ij:j≠i)(o0:-1000<o)(o1:o<1000)(L:List Int):∀(_:∀p∈L, -1000<p - 2/\p - 2<1000) (g:MH) (xs:List Int) (env:An),g[i]?=some (il XS)->g[j]?=some (il xs)->xs.length+L.length<100000->env 31=some (.lW (j+61))->env 11=some (.int o)->env 12=some (.int t)->
  (∀env',Q .next env' (B S k m G st++g.set j (il (xs++L.map fun p=>AH o t (p - 2) 1))))->
  Bz (some (i+61,XS.map .int)) (fun v K env' μ'=>opt (AC [1] true v env') fun e=>ws lX (Ak lX prog n) hd prB K X e μ') (L.map .int) Q env (B S k m G st++g):=by
 induction L with
 |nil=>
  intro _ g xs env hi hj hl e1 e2 e3 h
  have h:=h env
  rw[show xs++([]:List Int).map (fun p=>AH o t (p - 2) 1)=xs from gD xs,Bj hj]at h
  exact⟨hi,h⟩
 |cons p L ih=>
  intro hL g xs env hi hj hl e1 e2 e3 h
  have hp:=hL p gJ
  rw[gQ]at hl
  refine⟨hi,?_⟩
  refine Ab e1 ?_
  refine Df hj ?_
  refine Ab e2 ?_
  refine Ab e3 ?_
  refine QW hn o0 o1 hp.1 hp.2 ?_
  refine Ab (Dz hj) ?_
  refine Aj (room (gY (hH _ _) hl)) ?_
  rw[Fg]
  refine ih (fun p hp=>hL p (gz _ hp)) (g.set j (il (xs++[AH o t (p - 2) 1]))) (xs++[AH o t (p - 2) 1]) _ (by rw[gX ij];exact hi) (AJ hj) (by rw[gx];show _+1+_<_;exact cn hl) e1 e2 e3 fun env'=>?_
  have h:=h env'
  rw[hW,gu]
  exact h
theorem QX{Q:Ae}{xs:List Int}(hn:2<=n)(o0:-1000<o)(o1:o<1000)(hj:g[j]?=some (il xs))(hl:xs.length<90000)
  (h:∀e,Q .none (B S k m G st++(g.set j (il (xs++Fe o t))++e))):CG n hd 187 [.int o,.int t,.int (stI ev),.bool uh,.lW (j+61)] Q X (B S k m G st++g):=by
 refine stp hn fun n hn=>?_
 have fin:Q .none (B S k m G st++(g.set j (il (xs++[AH o t 3 1]))++[il [4,3,2]]).set j (il (xs++[AH o t 3 1]++[4,3,2].map fun p=>AH o t (p - 2) 1))):=by
  (refine(AR (AJ hj)).symm▸?_;rewrite[hW];rewrite[gu])
  exact h _
 have rB:(xs++[AH o t 3 1]).length+3<100000:=by refine List.length_append.symm▸?_;show _+1+_<_;exact mO (mn _) (.add (.add (mt 0 1) (.num 3)) (.num 1)) (.num 100000) (mt 0 1) (.num 90000) rfl hl
 have hi:(g.set j (il (xs++[AH o t 3 1]))++[il [4,3,2]])[(g.set j (il (xs++[AH o t 3 1]))).length]?=some (il [4,3,2]):=gv
 cases ev
 all_goals
  refine Df hj ?_
  refine QW (p:=5) (l0 hn rfl) o0 o1 (by decide) (by decide) ?_
  refine Ab (Dz hj) ?_
  refine Aj (room (iu hl (by decide))) ?_
  refine Fg.symm▸?_
  refine Ab BP ?_
  refine A0 ?_
  refine Yx (i:=(g.set j (il (xs++[AH o t 3 1]))).length) (XS:=[4,3,2]) (l0 hn rfl) (BX (AJ hj)) o0 o1 [4,3,2] (by decide) (g.set j (il (xs++[AH o t 3 1]))++[il [4,3,2]]) (xs++[AH o t 3 1]) _ hi (Ac (AJ hj) _) rB rfl rfl rfl fun env'=>?_
  exact fin
end
noncomputable def CI(G:l7)(st:St)(target:Int):List Int:=(nC 20 (Am (Am (Cy G st st.side) target) (Do (BF G st.side))) 0).map fun t=>AH (t - CY st.side) t 0 0
noncomputable def Ff(G:l7)(st:St)(target:Int):List Int:=(nC 20 (Am (Am (Cy G st st.side) target) (BF G st.side)) 0).flatMap fun t=>Fe (t - CY st.side) t
theorem IK(c:Bool):-5<CY c/\CY c<5:=by cases c<;>decide
theorem Bd.ones{G:l7}{st:St}(GS:G.l6)(L:st.nX G)(c:Bool):Bd G (Cy G st c):=(((L.si c).left _).push GS c).left _
theorem Ea(y:Int):Am 0 y=0:=by have:=Es (ix 0) y;lia
section
variable{S:List Int}{k:Int}{m:Nat}{G:l7}{st:St}{g:MH}{n:Nat}{hd:Bool}{X:As}{μ:MH}
noncomputable def plB:MS:=fb (mR 3 Dm)
theorem Yu{Q:Au}{XS:List Int}(hn:1<=n)(ij:j≠i)(s0:-10<s)(s1:s<10)(L:List Int):∀(_:∀t∈L,0<=t/\t<20) (g:MH) (xs:List Int) (env:An),g[i]?=some (il XS)->g[j]?=some (il xs)->xs.length+L.length<100000->env 31=some (.lW (j+61))->env 188=some (.int s)->
  (∀env',env' 31=env 31->env' 188=env 188->env' 179=env 179->env' 167=env 167->Q .next env' (B S k m G st++g.set j (il (xs++L.map fun t=>AH (t - s) t 0 0))))->
  Bz (some (i+61,XS.map .int)) (fun v K env' μ'=>opt (AC [61] true v env') fun e=>ws lX (Ak lX prog n) hd plB K X e μ') (L.map .int) Q env (B S k m G st++g):=by
 induction L with
 |nil=>
  intro _ g xs env hi hj hl e1 e2 h
  have h:=h env rfl rfl rfl rfl
  rw[show xs++([]:List Int).map (fun t=>AH (t - s) t 0 0)=xs from gD xs,Bj hj]at h
  exact⟨hi,h⟩
 |cons t L ih=>
  intro hL g xs env hi hj hl e1 e2 h
  have ht:=hL t gJ
  rw[gQ]at hl
  refine⟨hi,?_⟩
  refine Ab e1 ?_
  refine Df hj ?_
  refine Ab e2 ?_
  refine Pq hn (by exact YE s1 ht.1) (by exact YF s0 ht.2) ?_
  refine Ab (Dz hj) ?_
  refine Aj (room (gY (hH _ _) hl)) ?_
  rw[Fg]
  refine ih (fun p hp=>hL p (gz _ hp)) (g.set j (il (xs++[AH (t - s) t 0 0]))) (xs++[AH (t - s) t 0 0]) _ (by rw[gX ij];exact hi) (AJ hj) (by rw[gx];show _+1+_<_;exact cn hl) e1 e2 fun env' a b c d=>?_
  have h:=h env' a b c d
  rw[hW,gu]
  exact h
theorem WU{Q:Ae}{xs:List Int}(hn:3<=n)(GS:G.l6)(L:st.nX G)(hj:g[j]?=some (il xs))(hl:xs.length<80000)
  (h:∀e,Q .none (B S k m G st++(g.set j (il (xs++CI G st target))++e))):CG n hd 189 [.lW 54,.int target,.lW (j+61)] Q X (B S k m G st++g):=by
 refine stp hn fun n hn=>?_
 refine Ps (l0 hn rfl) ?_
 refine QY (l0 hn rfl) GS L ?_
 refine Pp (l0 hn rfl) GS ?_
 have hb:Bd G (Am (Am (Cy G st st.side) target) (Do (BF G st.side))):=((Bd.ones GS L _).left _).left _
 refine CB (l0 hn rfl) hb.1 (hb.top GS) ?_
 have hi:(g++[il (nC 20 (Am (Am (Cy G st st.side) target) (Do (BF G st.side))) 0)])[g.length]?=some (il (nC 20 (Am (Am (Cy G st st.side) target) (Do (BF G st.side))) 0)):=gv
 refine Ab (Be hi) ?_
 refine A0 ?_
 refine Yu (i:=g.length) (l0 hn rfl) (BX hj) (iN (by decide) (IK _).1) (iN (IK _).2 (by decide)) _ (fun t ht=>⟨(hb.sq ht).1,gK (hb.sq ht).2.1 GS.top⟩) _ xs _ hi (Ac hj _) (gY (ja (BI 20 _ _) _) (g6 (jl hl 20) (by decide))) rfl rfl fun env' a b c d=>?_
 refine(AR hj).symm▸?_
 refine Ab c ?_
 refine Ab d ?_
 conv=>whnf
 refine(show Builtin.bitAnd 0 target=0 from Ea target).symm▸?_
 refine CB (l0 hn rfl) (ix 0) (by decide) ?_
 have pV:((g.set j (il (xs++CI G st target))++[il (nC 20 (Am (Am (Cy G st st.side) target) (Do (BF G st.side))) 0)])++[il []])[(g.set j (il (xs++CI G st target))++[il (nC 20 (Am (Am (Cy G st st.side) target) (Do (BF G st.side))) 0)]).length]?=some (il []):=gv
 refine Ab (Be pV) ?_
 refine A0 ?_
 refine⟨pV,?_⟩
 exact(congrArg (fun z=>Q .none (B S k m G st++z)) (gu (g.set j (il (xs++CI G st target))) _ _)).mpr (h _)
theorem S7(o t:Int):(Fe o t).length=4:=rfl
noncomputable def ppB:MS:=fb (mR 3 Cw)
theorem Yw{Q:Au}{XS:List Int}(hn:2<=n)(ij:j≠i)(s0:-10<s)(s1:s<10)(L:List Int):∀(_:∀t∈L,0<=t/\t<20) (g:MH) (xs:List Int) (env:An),g[i]?=some (il XS)->g[j]?=some (il xs)->xs.length+20*L.length<90000->env 31=some (.lW (j+61))->env 188=some (.int s)->env 170=some (.int (stI ev))->
  (∀env' e,Q .next env' (B S k m G st++(g.set j (il (xs++L.flatMap fun t=>Fe (t - s) t))++e)))->
  Bz (some (i+61,XS.map .int)) (fun v K env' μ'=>opt (AC [61] true v env') fun e=>ws lX (Ak lX prog n) hd ppB K X e μ') (L.map .int) Q env (B S k m G st++g):=by
 induction L with
 |nil=>
  intro _ g xs env hi hj hl e1 e2 e3 h
  have h:=h env []
  (replace h:=jc▸h;rw[gD,gD,Bj hj]at h)
  exact⟨hi,h⟩
 |cons t L ih=>
  intro hL g xs env hi hj hl e1 e2 e3 h
  have ht:=hL t gJ
  replace hl:=gQ▸hl
  refine⟨hi,?_⟩
  refine Ab e2 ?_
  refine Ab e3 ?_
  refine Ab e1 ?_
  refine QX hn (by exact YE s1 ht.1) (by exact YF s0 ht.2) hj (gY (hH _ _) hl) ?_
  intro e
  refine ih (fun s hs=>hL s (gz _ hs)) (g.set j (il (xs++Fe (t - s) t))++e) (xs++Fe (t - s) t) _ (Ac (by refine(gX ij).symm▸?_;exact hi) e) (Ac (AJ hj) e) (by(refine List.length_append.symm▸?_;rewrite[S7]);exact mO (mT _ _) (.add (.add (mt 0 4) (.mulL 20 mD)) (.num 1)) (.num 90000) (.add (.add mi (.mulL 20 (mt 1 1))) (.num 1)) (.num 90000) rfl hl) e1 e2 e3 fun env' e'=>?_
  (refine(AR (AJ hj)).symm▸?_;rewrite[hW];rewrite[gu];rewrite[gu])
  have h:=h env' (e++e')
  exact h
theorem WV{Q:Ae}{xs:List Int}(hn:3<=n)(GS:G.l6)(L:st.nX G)(hj:g[j]?=some (il xs))(hl:xs.length<80000)
  (h:∀e,Q .none (B S k m G st++(g.set j (il (xs++Ff G st target))++e))):CG n hd 190 [.lW 54,.int (stI ev),.int target,.lW (j+61)] Q X (B S k m G st++g):=by
 refine stp hn fun n hn=>?_
 refine Ps (l0 hn rfl) ?_
 refine QY (l0 hn rfl) GS L ?_
 refine Af rfl ?_
 refine Pp (l0 hn rfl) GS ?_
 have hb:Bd G (Am (Am (Cy G st st.side) target) (BF G st.side)):=((Bd.ones GS L _).left _).left _
 refine CB (l0 hn rfl) hb.1 (hb.top GS) ?_
 have hi:(g++[il (nC 20 (Am (Am (Cy G st st.side) target) (BF G st.side)) 0)])[g.length]?=some (il (nC 20 (Am (Am (Cy G st st.side) target) (BF G st.side)) 0)):=gv
 refine Ab (Be hi) ?_
 refine A0 ?_
 refine Yw (i:=g.length) (l0 hn rfl) (BX hj) (iN (by decide) (IK _).1) (iN (IK _).2 (by decide)) _ (fun t ht=>⟨(hb.sq ht).1,gK (hb.sq ht).2.1 GS.top⟩) _ xs _ hi (Ac hj _) (gY (ja (iR 20 (BI 20 _ _)) _) (g6 (jl hl 400) (by decide))) rfl rfl rfl fun env' e=>?_
 (refine(AR hj).symm▸?_;rewrite[gu])
 exact h _
end
noncomputable def B1(c w:Bool):Int:=CY c+1 - 2*sd w
noncomputable def Ev(last s t:Int):List Int:=match Am last (1*2 ^ t.toNat) != 0 with
 |true=>Fe (t - s) t
 |false=>[AH (t - s) t 0 0]
noncomputable def Ig(G:l7)(st:St)(target:Int)(w:Bool):List Int:=(nC 20 (Am (Md G (C7 st st.side) st.side w) (Am target (st.si (!st.side)))) 0).flatMap (Ev (BF G st.side) (B1 st.side w))
noncomputable def CT(G:l7)(st:St)(target:Int):List Int:=CI G st target++Ff G st target++Ig G st target false++Ig G st target true
theorem Jv(l s t:Int):(Ev l s t).length<=4:=by
 unfold Ev
 cases Am l (1*2 ^ t.toNat) != 0 with
 |true=>exact gE 4
 |false=>exact(by decide:1<=4)
theorem Jw(c w:Bool):-10<B1 c w/\B1 c w<10:=by induction c using Bool.casesOn<;>induction w using Bool.casesOn<;>decide
section
variable{S:List Int}{k:Int}{m:Nat}{G:l7}{st:St}{g:MH}{n:Nat}{hd:Bool}{X:As}{μ:MH}
noncomputable def cpB:MS:=fb (mR 1 (fb (mR 5 BW)))
theorem W8{Q:Au}{XS:List Int}(hn:2<=n)(ij:j≠i)(s0:-10<s)(s1:s<10)(L:List Int):∀(_:∀t∈L,0<=t/\t<20) (g:MH) (xs:List Int) (env:An),g[i]?=some (il XS)->g[j]?=some (il xs)->xs.length+20*L.length<90000->env 31=some (.lW (j+61))->env 188=some (.int s)->env 170=some (.int (stI ev))->env 191=some (.int l)->
  (∀env' e,(∀x,x≠61->env' x=env x)->Q .next env' (B S k m G st++(g.set j (il (xs++L.flatMap (Ev l s)))++e)))->
  Bz (some (i+61,XS.map .int)) (fun v K env' μ'=>opt (AC [61] true v env') fun e=>ws lX (Ak lX prog n) hd cpB K X e μ') (L.map .int) Q env (B S k m G st++g):=by
 induction L with
 |nil=>
  intro _ g xs env hi hj hl e1 e2 e3 e4 h
  have h:=h env [] fun _ _=>rfl
  (replace h:=jc▸h;rw[gD,gD,Bj hj]at h)
  exact⟨hi,h⟩
 |cons t L ih=>
  intro hL g xs env hi hj hl e1 e2 e3 e4 h
  have ht:=hL t gJ
  have oM:=fun s hs=>hL s (gz t hs)
  have oB:=Jv l s t
  replace hl:=gQ▸hl
  refine⟨hi,?_⟩
  refine Ab e4 ?_
  refine Aj (gy ht.1) ?_
  refine Aj (gy (iN ht.2 (by decide))) ?_
  have fin:∀e,Bz (some (i+61,XS.map .int)) (fun v K env' μ'=>opt (AC [61] true v env') fun e=>ws lX (Ak lX prog n) hd cpB K X e μ') (L.map .int) Q (Ad env 61 (.int t)) (B S k m G st++(g.set j (il (xs++Ev l s t))++e)):=fun e=>by
   refine ih oM (g.set j (il (xs++Ev l s t))++e) (xs++Ev l s t) _ (Ac (by refine(gX ij).symm▸?_;exact hi) e) (Ac (AJ hj) e) (by refine List.length_append.symm▸?_;exact o9 (nB _ _ _) (.add (.add (.add mD mi) (.mulL 20 nE)) (.num 1)) (.num 90000) mi (.num 4) (.add (.add mD (.mulL 20 (mt 2 1))) (.num 1)) (.num 90000) rfl oB hl) e1 e2 e3 e4 fun env' e' hs=>?_
   (refine(AR (AJ hj)).symm▸?_;rewrite[hW];rewrite[gu];rewrite[gu])
   have h:=h env' (e++e') fun x hx=>(hs x hx).trans (iH hx)
   exact h
  unfold Ev at fin
  refine Ap (fun e=>?_) fun e=>?_
  ·have e:(Am l (1*2 ^ t.toNat) != 0)=true:=e
   replace fin:=e▸fin
   refine Ab e2 ?_
   refine Ab e3 ?_
   refine Ab e1 ?_
   refine QX hn (by exact YE s1 ht.1) (by exact YF s0 ht.2) hj (gY (hH _ _) hl) ?_
   exact fin
  ·have e:(Am l (1*2 ^ t.toNat) != 0)=false:=e
   replace fin:=e▸fin
   refine Ab e1 ?_
   refine Df hj ?_
   refine Ab e2 ?_
   refine Pq (gA (by decide) hn) (by exact YE s1 ht.1) (by exact YF s0 ht.2) ?_
   refine Ab (Dz hj) ?_
   refine Aj (room (gY (hH _ _) (iu hl (by decide)))) ?_
   refine Fg.symm▸?_
   have fin:=fin []
   rw[gD]at fin
   exact fin
noncomputable def wgB:MS:=fb (mR 5 BW)
theorem Ju(G:l7)(st:St)(t:Int)(w:Bool):(Ig G st t w).length<=400:=gA (GE (fun o=>gA (Jv _ _ o) (by decide)) _) (iR 20 (BI 20 _ _))
theorem Zr{Q:Au}(hn:3<=n+1)(GS:G.l6)(hp:Bd G (C7 st st.side))(hh:Bd G (Am target (st.si (!st.side))))(ij:j≠i)(L:List Bool):∀(g:MH) (xs:List Int) (env:An),g[i]?=some (.list XS)->g[j]?=some (il xs)->xs.length+400*L.length<80000->
  env 33=some (.lW 18)->env 0=some (.int (sd st.side))->env 191=some (.int (BF G st.side))->env 183=some (.int (C7 st st.side))->env 123=some (.int (Am target (st.si (!st.side))))->env 31=some (.lW (j+61))->env 170=some (.int (stI ev))->
  (∀env' e,Q .next env' (B S k m G st++(g.set j (il (xs++L.flatMap (Ig G st target)))++e)))->
  Bz (some (i+61,XS)) (fun v K env' μ'=>opt (AC [157] true v env') fun e=>ws lX (Ak lX prog n) hd wgB K X e μ') (L.map fun w=>.int (sd w)) Q env (B S k m G st++g):=by
 induction L with
 |nil=>
  intro g xs env hi hj hl e1 e2 e3 e4 e5 e6 e7 h
  have h:=h env []
  (replace h:=jc▸h;rw[gD,gD,Bj hj]at h)
  exact⟨hi,h⟩
 |cons w L ih=>
  intro g xs env hi hj hl e1 e2 e3 e4 e5 e6 e7 h
  have oB:=Ju G st target w
  replace hl:=gQ▸hl
  refine⟨hi,?_⟩
  refine Ab e1 ?_
  refine Ab e2 ?_
  refine Ps (l0 hn rfl) ?_
  refine Aj (D0 (x:=sd w) (by induction w using Bool.casesOn<;>decide) (by induction w using Bool.casesOn<;>decide)) ?_
  refine Ab e1 ?_
  refine Ab e4 ?_
  refine Ab e2 ?_
  refine dQ (l0 hn rfl) GS hp ?_
  refine Ab e5 ?_
  have hb:Bd G (Am (Md G (C7 st st.side) st.side w) (Am target (st.si (!st.side)))):=hh.right _
  refine CB (l0 hn rfl) hb.1 (hb.top GS) ?_
  have pV:(g++[il (nC 20 (Am (Md G (C7 st st.side) st.side w) (Am target (st.si (!st.side)))) 0)])[g.length]?=some (il (nC 20 (Am (Md G (C7 st st.side) st.side w) (Am target (st.si (!st.side)))) 0)):=gv
  refine Ab (Be pV) ?_
  refine A0 ?_
  refine W8 (i:=g.length) (ev:=ev) (l0 hn rfl) (BX hj) (Jw st.side w).1 (Jw st.side w).2 _ (fun t ht=>⟨(hb.sq ht).1,gK (hb.sq ht).2.1 GS.top⟩) _ xs _ pV (Ac hj _) (gY (ja (iR 20 (BI 20 _ _)) _) (by exact mO (mT _ _) (.add (.add mi (.mulL 20 (.num 20))) (.num 1)) (.num 90000) (.add (.add mi (.mulL 400 (mt 1 1))) (.num 1)) (.num 80000) rfl hl)) e6 rfl e7 e3 fun env' e hs=>?_
  (refine(AR hj).symm▸?_;rewrite[gu])
  have up:∀x v,x≠61->x≠188->x≠157->env x=some v->env' x=some v:=fun x v a b c d=>(hs x a).trans ((iH b).trans ((iH c).trans d))
  refine ih (g.set j (il (xs++Ig G st target w))++_) (xs++Ig G st target w) env' (Ac (by refine(gX ij).symm▸?_;exact hi) _) (Ac (AJ hj) _) (by refine List.length_append.symm▸?_;exact fa oB hl) (up _ _ (by decide) (by decide) (by decide) e1) (up _ _ (by decide) (by decide) (by decide) e2) (up _ _ (by decide) (by decide) (by decide) e3) (up _ _ (by decide) (by decide) (by decide) e4) (up _ _ (by decide) (by decide) (by decide) e5) (up _ _ (by decide) (by decide) (by decide) e6) (up _ _ (by decide) (by decide) (by decide) e7) fun env' e'=>?_
  (refine(AR (AJ hj)).symm▸?_;rewrite[hW];rewrite[gu];rewrite[gu])
  have h:=h env'
  exact h _
theorem aw{Q:Ae}{xs:List Int}(hn:4<=n)(GS:G.l6)(L:st.nX G)(hj:g[j]?=some (il xs))(hl:xs.length<70000)
  (h:∀e,Q .none (B S k m G st++(g.set j (il (xs++Ig G st target false++Ig G st target true))++e))):CG n hd 192 [.lW 54,.int (stI ev),.int target,.lW (j+61)] Q X (B S k m G st++g):=by
 refine stp hn fun n hn=>?_
 refine Pp (l0 hn rfl) GS ?_
 refine Jq (kd:=1) (l0 hn rfl) (by decide) ?_
 refine Af (Kg _) ?_
 refine Ab BP ?_
 refine A0 ?_
 refine Zr (target:=target) (i:=g.length) (XS:=[.int 0,.int 1]) (ev:=ev) (gA (by decide) hn) GS ((L.si _).left _) ((L.si _).right _) (BX hj) [false,true] (g++[.list [.int 0,.int 1]]) xs _ gv (Ac hj _) (g6 (jl hl _) (by decide)) ?_ ?_ ?_ ?_ ?_ ?_ ?_ fun env' e=>?_
 any_goals rfl
 (refine(AR hj).symm▸?_;rewrite[gu];rewrite[j0];rewrite[j0];rewrite[jc];rewrite[gD];rewrite[<- gu xs])
 exact h _
theorem VG{xs:List Int}(hl:xs.length<60000):(xs++CI G st target).length<80000:=by
 rw[gx];unfold CI;rw[gS];have:=BI 20 (Am (Am (Cy G st st.side) target) (Do (BF G st.side))) 0;lia
theorem YA{xs:List Int}(hl:xs.length<60000):(xs++CI G st target++Ff G st target).length<70000:=by
 have h:(Ff G st target).length<=400:=gA (GE (f:=fun t=>Fe (t - CY st.side) t) (fun o=>by show 4<=20;decide) _) (iR 20 (BI 20 _ _))
 refine List.length_append.symm▸?_;rw[gx]at *;unfold CI at *;rw[gS]at *;have:=BI 20 (Am (Am (Cy G st st.side) target) (Do (BF G st.side))) 0;lia
theorem T0{Q:Ae}{xs:List Int}(hn:5<=n)(GS:G.l6)(L:st.nX G)(hj:g[j]?=some (il xs))(hl:xs.length<60000)
  (h:∀e,Q .none (B S k m G st++(g.set j (il (xs++CT G st target))++e))):CG n hd 193 [.lW 54,.int (stI ev),.int target,.lW (j+61)] Q X (B S k m G st++g):=by
 refine stp hn fun n hn=>?_
 cases ev
 all_goals
  refine WU (l0 hn rfl) GS L hj (iu hl (by decide)) ?_
  intro e
  refine WV (l0 hn rfl) GS L (Ac (AJ hj) e) (VG hl) ?_
  intro e'
  refine aw (l0 hn rfl) GS L (Ac (AJ (Ac (AJ hj) e)) e') (YA hl) ?_
  intro tH
  rw[AR (AJ (Ac (AJ hj) e)),hW,AR (AJ hj),hW,gu,gu,gu (xs++CI G st target++Ff G st target),show xs++CI G st target++Ff G st target++(Ig G st target false++Ig G st target true)=xs++CT G st target by unfold CT;rw[gu,gu,gu,gu]]
  exact h _
end
noncomputable def pe(G:l7)(st:St)(given:Int):Int:=match given==0 with
 |true=>0
 |false=>match Am given (given - 1) != 0 with
  |true=>0
  |false=>bor given (AW G (Ax st st.side) (F9 20 given 0))
theorem Bd.or(hx:Bd G x)(hy:Bd G y):Bd G (bor x y):=by
 obtain⟨a,rfl⟩:=gB hx.1
 obtain⟨b,rfl⟩:=gB hy.1
 have e:(2:Int) ^ G.size.toNat=((2 ^ G.size.toNat:Nat):Int):=by rw[jK];rfl
 have h1:=hx.2
 have h2:=hy.2
 rw[e]at h1 h2
 have q:bor (a:Int) (b:Int)=((a||| b:Nat):Int):=Gi fun k=>by
  show tb (Builtin.bitOr _ _) k=(a||| b).testBit k
  rw[DC,jy];rfl
 rw[q]
 refine⟨gO _,?_⟩
 rw[e]
 have:=Nat.or_lt_two_pow (x:=a) (y:=b) (n:=G.size.toNat) (by exact Int.ofNat_lt.mp (cq h1)) (by exact Int.ofNat_lt.mp (cq h2))
 lia
theorem Bd.low{G:l7}(GS:G.l6)(h:Bd G b)(hb:b≠0):0<=F9 20 b 0/\F9 20 b 0<G.size:=by
 have h2:=h.2
 have e:(2:Int) ^ G.size.toNat=((2 ^ G.size.toNat:Nat):Int):=by rw[jK];rfl
 rw[e]at h2
 have ht:=h.top GS
 obtain⟨a,rfl⟩:=gB h.1
 obtain⟨j,hj,e1,e2⟩:=U4 20 a 0 (by lia) (by lia)
 rw[e2,j8]
 refine⟨gO j,?_⟩
 rcases iV j G.size.toNat with c|c
 ·lia
 ·have:(2:Nat) ^ G.size.toNat<=2 ^ j:=iy (by decide) c
  lia
noncomputable def EB(G:l7)(st:St):Int:=Am G.full (Do (st.si st.side))
noncomputable def oA(G:l7)(st:St):List Int:=(match pe G st (Bc G st st.side) != 0 with
 |true=>CT G st (pe G st (Bc G st st.side))++[2,3,4,5].flatMap fun kd=>C8 G st kd (pe G st (Bc G st st.side))
 |false=>[])++C8 G st 6 (EB G st)
noncomputable def LV(G:l7)(st:St):List Int:=CT G st G.full++[2,3,4,5,6].flatMap fun kd=>C8 G st kd (EB G st)
section
variable{S:List Int}{k:Int}{m:Nat}{G:l7}{st:St}{g:MH}{n:Nat}{hd:Bool}{X:As}{μ:MH}
theorem dS{Q:Ae}{given:Int}(hn:4<=n)(GS:G.l6)(L:st.nX G)(q0:0<=Ax st st.side)(q1:Ax st st.side<G.size)(hb:Bd G given)(h:Q (.int (pe G st given)) (B S k m G st++g)):CG n hd 199 [.lW 54,.int given] Q X (B S k m G st++g):=by
 refine stp hn fun n hn=>?_
 unfold pe at h
 refine Ap (fun e=>?_) fun e=>?_
 ·replace h:=e▸h;exact h
 ·replace h:=e▸h
  have h0:given≠0:=by intro z;subst z;exact FR e
  have hl:=hb.low GS h0
  refine TV (l0 hn rfl) ?_
  refine Ap (fun e=>?_) fun e=>?_
  ·rw[e]at h;exact h
  ·rw[e]at h
   refine Hh (l0 hn rfl) GS L ?_
   refine ZG (l0 hn rfl) hb.1 (hb.top GS) ?_
   refine K6 (l0 hn rfl) GS q0 q1 hl.1 hl.2 ?_
   exact h
theorem WP{Q:Ae}(hn:1<=n)(h:Q (.bool false) (B S k m G st++g)):CG n hd 201 [.lW 54,.int t] Q X (B S k m G st++g):=by
 induction n using Nat.casesOn with
 |zero=>exact absurd hn (by decide)
 |succ n=>exact h
theorem fT{Q:Ae}(hn:1<=n)(h:Q .none (B S k m G st++g)):CG n hd 197 [.lW 54,.lW j] Q X (B S k m G st++g):=by
 induction n using Nat.casesOn with
 |zero=>exact absurd hn (by decide)
 |succ n=>exact h
theorem W3{Q:Ae}(hn:1<=n)(h:Q (.int (EB G st)) (B S k m G st++g)):CG n hd 173 [.lW 54,.int 2] Q X (B S k m G st++g):=by
 refine stp hn fun n hn=>?_
 refine Af (BH _) ?_
 exact h
theorem NU{Q:Ae}(hn:1<=n)(h0:0<=i)(hi:i<4)(h:Q (.int 1) (B S k m G st++g)):CG n hd 161 [.lW 54,.int i] Q X (B S k m G st++g):=by
 refine stp hn fun n hn=>?_
 refine Af (v:=.none) (by rcases(by lia:i=0\/i=1\/i=2\/i=3)with rfl|rfl|rfl|rfl<;>rfl) ?_
 exact h
theorem TP{Q:Ae}(hn:2<=n)(h:∀e,Q .none (B S k m G st++(g++e))):CG n hd 163 [.lW 54,.lW j] Q X (B S k m G st++g):=by
 refine stp hn fun n hn=>?_
 refine Aj (D0 (x:=sd st.side) (by cases st.side<;>decide) (by cases st.side<;>decide)) ?_
 refine Aj (D0 (x:=sd st.side) (by cases st.side<;>decide) (by cases st.side<;>decide)) ?_
 refine Ab BP ?_
 refine A0 ?_
 have hi:(g++[MO.list [.int (2*sd st.side),.int (2*sd st.side+1)]])[g.length]?=some (.list [.int (2*sd st.side),.int (2*sd st.side+1)]):=gv
 refine⟨hi,?_⟩
 refine NU (l0 hn rfl) (by cases st.side<;>decide) (by cases st.side<;>decide) ?_
 refine⟨hi,?_⟩
 refine NU (l0 hn rfl) (by cases st.side<;>decide) (by cases st.side<;>decide) ?_
 refine⟨hi,?_⟩
 exact h _
noncomputable def kdB:MS:=fb (mR 5 I8)
theorem Rr{Q:Au}(hn:7<=n)(GS:G.l6)(LO:st.nX G)(hb:Bd G target)(ij:j≠i)(L:List Nat):∀(_:∀kd∈L,2<=kd/\kd<7) (g:MH) (xs:List Int) (env:An),g[i]?=some (.list XS)->g[j]?=some (il xs)->xs.length+400*L.length<80000->
  env 102=some (.lW 54)->env 167=some (.int target)->env 31=some (.lW (j+61))->
  (∀env' e,(∀x,x≠1->env' x=env x)->Q .next env' (B S k m G st++(g.set j (il (xs++L.flatMap fun kd=>C8 G st kd target))++e)))->
  Bz (some (i+61,XS)) (fun v K env' μ'=>opt (AC [1] true v env') fun e=>ws lX (Ak lX prog n) hd kdB K X e μ') (L.map fun(kd:Nat)=>.int kd) Q env (B S k m G st++g):=by
 induction L with
 |nil=>
  intro _ g xs env hi hj hl e1 e2 e3 h
  have h:=h env [] fun _ _=>rfl
  (replace h:=jc▸h;rw[gD,gD,Bj hj]at h)
  exact⟨hi,h⟩
 |cons kd L ih=>
  intro hL g xs env hi hj hl e1 e2 e3 h
  have hk:=hL kd gJ
  have oB:=Gb G st kd target
  replace hl:=gQ▸hl
  refine⟨hi,?_⟩
  refine Ab e1 ?_
  refine Ab e2 ?_
  refine Ab e3 ?_
  refine Eu hn GS LO hk.1 hk.2 hb hj (gY (hH _ _) hl) ?_
  intro e
  refine ih (fun s hs=>hL s (gz _ hs)) (g.set j (il (xs++C8 G st kd target))++e) (xs++C8 G st kd target) _ (Ac (by refine(gX ij).symm▸?_;exact hi) e) (Ac (AJ hj) e) (by refine List.length_append.symm▸?_;exact fa oB hl) e1 e2 e3 fun env' e' hs=>?_
  (refine(AR (AJ hj)).symm▸?_;rewrite[hW];rewrite[gu];rewrite[gu])
  have h:=h env' (e++e') fun x hx=>(hs x hx).trans (iH hx)
  exact h
theorem Bd.pe{given:Int}(hb:Bd G given)(hr:∀a b,Bd G (AW G a b)):Bd G (pe G st given):=by
 have z:Bd G 0:=⟨ix 0,jC (by decide)⟩
 unfold Mine.pe
 cases given==0 with
 |true=>exact z
 |false=>
  cases Am given (given - 1) != 0 with
  |true=>exact z
  |false=>exact hb.or (hr _ _)
theorem FD(target:Int):(CT G st target).length<=2000:=by
 have p1:=BI 20 (Am (Am (Cy G st st.side) target) (Do (BF G st.side))) 0
 have p2:(Ff G st target).length<=400:=gA (GE (f:=fun t=>Fe (t - CY st.side) t) (fun o=>by show 4<=20;decide) _) (iR 20 (BI 20 _ _))
 have p3:=Ju G st target false
 have p4:=Ju G st target true
 unfold CT
 (refine List.length_append.symm▸?_;rewrite[gx];rewrite[gx])
 unfold CI
 rw[gS]
 lia
theorem Ms(target:Int)(l:List Nat):(l.flatMap fun kd=>C8 G st kd target).length<=400*l.length:=by
 induction l with
 |nil=>exact gE 0
 |cons o l ih=>rw[j0,gx,gQ];have:=Gb G st o target;lia
theorem WI{Q:Ae}{xs:List Int}(hn:8<=n)(GS:G.l6)(L:st.nX G)(q0:0<=Ax st st.side)(q1:Ax st st.side<G.size)(hr:∀a b,Bd G (AW G a b))(hj:g[j]?=some (il xs))(hl:xs.length<1000)
  (h:∀e,Q .none (B S k m G st++(g.set j (il (xs++oA G st))++e))):CG n hd 203 [.lW 54,.lW (j+61)] Q X (B S k m G st++g):=by
 refine stp hn fun n hn=>?_
 have hc:Bd G (Bc G st st.side):=(L.si _).right _
 have ht:Bd G (pe G st (Bc G st st.side)):=Bd.pe hc hr
 have ho:Bd G (EB G st):=(Bd.full GS).left _
 refine dR (l0 hn rfl) GS L q0 q1 ?_
 refine dS (l0 hn rfl) GS L q0 q1 hc ?_
 unfold oA at h
 revert h ht
 generalize pe G st (Bc G st st.side)=t
 intro h ht
 refine Ap (fun e=>?_) fun e=>?_
 ·replace h:=e▸h
  refine T0 (ev:=true) (l0 hn rfl) GS L hj (iu hl (by decide)) ?_
  intro e
  refine WP (l0 hn rfl) ?_
  refine Ab BP ?_
  refine A0 ?_
  have hp:=FD (G:=G) (st:=st) t
  refine Rr (target:=t) (i:=(g.set j (il (xs++CT G st t))++e).length) (XS:=[.int 2,.int 3,.int 4,.int 5]) (l0 hn rfl) GS L ht (BX (Ac (AJ hj) e)) [2,3,4,5] (by decide) ((g.set j (il (xs++CT G st t))++e)++[.list [.int 2,.int 3,.int 4,.int 5]]) (xs++CT G st t) _ gv (Ac (Ac (AJ hj) e) _) (by refine List.length_append.symm▸?_;show _+1600<_;exact o9 (mT _ _) (.add (.add (.add mi mD) (.num 1600)) (.num 1)) (.num 80000) (mt 0 1) (.num 1000) mD (.num 2000) rfl hl hp) ?_ ?_ ?_ fun env' e' hs=>?_
  any_goals rfl
  (refine(AR (Ac (AJ hj) e)).symm▸?_;rewrite[AR (AJ hj)];rewrite[hW];rewrite[gu];rewrite[gu])
  have a1:env' 102=some (.lW 54):=hs 102 (by decide)
  have a2:env' 31=some (.lW (j+61)):=hs 31 (by decide)
  refine Ab a1 ?_
  refine Ab a1 ?_
  refine Ab a1 ?_
  refine Ab a1 ?_
  refine Af (BH _) ?_
  refine Ab a2 ?_
  refine Eu (kd:=6) (l0 hn rfl) GS L (by decide) (by decide) ho (Ac (AJ hj) _) (by(refine List.length_append.symm▸?_;refine List.length_append.symm▸?_);have:=Ms (G:=G) (st:=st) t [2,3,4,5];show _+_+_<_;have e4:400*[2,3,4,5].length=1600:=rfl;lia) ?_
  intro tH
  (refine(AR (AJ hj)).symm▸?_;rewrite[hW];rewrite[gu];rewrite[gu xs];rewrite[gu xs])
  exact h _
 ·replace h:=e▸h
  refine Af (BH _) ?_
  refine Eu (kd:=6) (l0 hn rfl) GS L (by decide) (by decide) ho hj (iu hl (by decide)) ?_
  intro tH
  exact h _
end
noncomputable def Ai(m:Int):Int:=Am (m.fdiv (2 ^ 6)) 63
noncomputable def mc(m:Int):Int:=Am m 63
noncomputable def Bt(m:Int):Int:=Am (m.fdiv (2 ^ 14)) 3
noncomputable def Ah(m:Int):Int:=match Bt m != 1 with
 |true=>0
 |false=>Am (m.fdiv (2 ^ 12)) 3+2
structure BZ(G:l7)(m:Int):Prop where
 f0:0<=Ai m
 f1:Ai m<G.size
 t0:0<=mc m
 t1:mc m<G.size
 sp:Bt m=0\/Bt m=1
noncomputable def Bs(G:l7)(st:St)(pin m:Int):Bool:=match Ai m==Ax st st.side with
 |true=>!Bq G st (mc m) (!st.side) (Cv (A3 st) (1*2 ^ (Ax st st.side).toNat))
 |false=>match Am (pin.fdiv (2 ^ (Ai m).toNat)) 1==0 with
  |true=>true
  |false=>dO G (Ai m) (mc m) (Ax st st.side)
section
variable{S:List Int}{k:Int}{m:Nat}{G:l7}{st:St}{g:MH}{n:Nat}{hd:Bool}{X:As}{μ:MH}
theorem TU{Q:Ae}(hn:9<=n)(GS:G.l6)(L:st.nX G)(q0:0<=Ax st st.side)(q1:Ax st st.side<G.size)(hr:∀a b,Bd G (AW G a b))
  (h:∀e,Q (.lW (g.length+61)) (B S k m G st++(g++[il (oA G st)]++e))):CG n hd 211 [.lW 54,.int 3] Q X (B S k m G st++g):=by
 refine stp hn fun n hn=>?_
 refine WI (j:=g.length) (xs:=[]) (g:=g++[il []]) (l0 hn rfl) GS L q0 q1 hr gv (by decide) ?_
 intro e
 rw[g8 _ _ (gE _),iB]
 exact h e
theorem aB{Q:Ae}(hn:8<=n)(GS:G.l6)(L:st.nX G)
  (h:∀e,Q (.lW (g.length+61)) (B S k m G st++(g++[il (LV G st)]++e))):CG n hd 211 [.lW 54,.int 2] Q X (B S k m G st++g):=by
 refine stp hn fun n hn=>?_
 have ho:Bd G (EB G st):=(Bd.full GS).left _
 have hp:=FD (G:=G) (st:=st) G.full
 refine W3 (g:=g++[il []]) (l0 hn rfl) ?_
 refine T0 (ev:=false) (j:=g.length) (xs:=[]) (g:=g++[il []]) (l0 hn rfl) GS L gv (by decide) ?_
 intro e
 rw[jI,g8 _ _ (gE _),iB]
 have hj:(g++[il (CT G st G.full)])[g.length]?=some (il (CT G st G.full)):=gv
 refine fT (l0 hn rfl) ?_
 refine Ab BP ?_
 refine A0 ?_
 refine Rr (target:=EB G st) (j:=g.length) (i:=((g++[il (CT G st G.full)])++e).length) (XS:=[.int 2,.int 3,.int 4,.int 5,.int 6]) (l0 hn rfl) GS L ho (BX (Ac hj e)) [2,3,4,5,6] (by decide) (((g++[il (CT G st G.full)])++e)++[.list [.int 2,.int 3,.int 4,.int 5,.int 6]]) (CT G st G.full) _ gv (Ac (Ac hj e) _) (by show _+2000<_;exact mO (mn _) (.add (mt 0 2000) (.num 1)) (.num 80000) mi (.num 2000) rfl hp) ?_ ?_ ?_ fun env' e' hs=>?_
 any_goals rfl
 have a1:env' 102=some (.lW 54):=hs 102 (by decide)
 have a2:env' 31=some (.lW (g.length+61)):=hs 31 (by decide)
 have a3:env' 170=some (.int 2):=hs 170 (by decide)
 (refine(AR (Ac hj e)).symm▸?_;rewrite[AR hj];rewrite[g8 _ _ (gE _)];rewrite[iB];rewrite[gu];rewrite[gu (g++_)])
 refine Ab a3 ?_
 refine Ab a1 ?_
 refine Ab a2 ?_
 refine TP (l0 hn rfl) ?_
 intro tH
 refine Ab a2 ?_
 rw[gu (g++_)]
 exact h _
theorem T3{Q:Ae}(hn:10<=n)(GS:G.l6)(L:st.nX G)(q0:0<=Ax st st.side)(q1:Ax st st.side<G.size)(hr:∀a b,Bd G (AW G a b))
  (h:∀e,Q (.lW (g.length+61)) (B S k m G st++(g++[il (match Bo G st st.side with|true=>oA G st|false=>LV G st)]++e))):CG n hd 213 [.lW 54] Q X (B S k m G st++g):=by
 refine stp hn fun n hn=>?_
 refine Ir (l0 hn rfl) GS L q0 q1 ?_
 refine Ap (fun e=>?_) fun e=>?_
 ·rw[e]at h
  exact TU (l0 hn rfl) GS L q0 q1 hr h
 ·rw[e]at h
  exact aB (l0 hn rfl) GS L h
theorem Et{Q:Ae}(hn:1<=n)(h:Q (.int (Ai v)) μ):CG n hd 20 [.int v] Q X μ:=by
 induction n using Nat.casesOn with
 |zero=>exact absurd hn (by decide)
 |succ n=>exact h
theorem KL{Q:Ae}(hn:1<=n)(h:Q (.int (mc v)) μ):CG n hd 21 [.int v] Q X μ:=by
 induction n using Nat.casesOn with
 |zero=>exact absurd hn (by decide)
 |succ n=>exact h
theorem EY{Q:Ae}(hn:1<=n)(h:Q (.int (Bt v)) μ):CG n hd 22 [.int v] Q X μ:=by
 induction n using Nat.casesOn with
 |zero=>exact absurd hn (by decide)
 |succ n=>exact h
theorem K8{Q:Ae}(hn:5<=n)(GS:G.l6)(L:st.nX G)(q0:0<=Ax st st.side)(q1:Ax st st.side<G.size)(M:BZ G v)
  (h:Q (.bool (Bs G st pin v)) (B S k m G st++g)):CG n hd 210 [.lW 54,.int v,.int pin] Q X (B S k m G st++g):=by
 refine stp hn fun n hn=>?_
 unfold Bs at h
 refine EY (l0 hn rfl) ?_
 rcases M.sp with e|e
 all_goals
  refine e.symm▸?_
  refine Et (l0 hn rfl) ?_
  refine KL (l0 hn rfl) ?_
  refine Hh (l0 hn rfl) GS L ?_
  refine Ap (fun e=>?_) fun e=>?_
  ·replace h:=e▸h
   refine Af rfl ?_
   refine Af rfl ?_
   refine Aj (gy q0) ?_
   refine Aj (gy (gK q1 (kI GS.top (by decide)))) ?_
   conv=>whnf
   rw[Gd]
   refine Jm (l0 hn rfl) GS M.t0 M.t1 ?_
   exact h
  ·rw[e]at h
   refine Aj (gy M.f0) ?_
   refine Ap (fun e=>?_) fun e=>?_
   ·have e:(Am (pin.fdiv (2 ^ (Ai v).toNat)) 1==0)=true:=e
    rw[e]at h;exact h
   ·have e:(Am (pin.fdiv (2 ^ (Ai v).toNat)) 1==0)=false:=e
    rw[e]at h
    exact au (l0 hn rfl) GS M.f0 M.f1 M.t0 q0 h
end
noncomputable def Cp(G:l7)(st:St):List Int:=match Bo G st st.side with|true=>oA G st|false=>LV G st
noncomputable def Ay(G:l7)(st:St):List Int:=(Cp G st).filter (Bs G st (C9 G st st.side))
section
variable{S:List Int}{k:Int}{m:Nat}{G:l7}{st:St}{g:MH}{n:Nat}{hd:Bool}{X:As}{μ:MH}
theorem A5{l:List Int}(h:g[j]?=some (il l)):(B S k m G st++g)[j+61]?=some (.list (l.map .int)):=h
noncomputable def keB:MS:=fb (mR 2 Gu)
theorem XG{Q:Au}{XS:List Int}(hn:5<=n)(GS:G.l6)(LO:st.nX G)(q0:0<=Ax st st.side)(q1:Ax st st.side<G.size)(ij:j≠i)(L:List Int):∀(_:∀v∈L,BZ G v) (g:MH) (xs:List Int) (env:An),g[i]?=some (il XS)->g[j]?=some (il xs)->xs.length+L.length<90000->
  env 102=some (.lW 54)->env 208=some (.int pin)->env 31=some (.lW (j+61))->
  (∀env',env' 31=some (.lW (j+61))->Q .next env' (B S k m G st++g.set j (il (xs++L.filter (Bs G st pin)))))->
  Bz (some (i+61,XS.map .int)) (fun v K env' μ'=>opt (AC [19] true v env') fun e=>ws lX (Ak lX prog n) hd keB K X e μ') (L.map .int) Q env (B S k m G st++g):=by
 induction L with
 |nil=>
  intro _ g xs env hi hj hl e1 e2 e3 h
  have h:=h env e3
  rw[kY,gD,Bj hj]at h
  exact⟨hi,h⟩
 |cons v L ih=>
  intro hL g xs env hi hj hl e1 e2 e3 h
  have hv:=hL v gJ
  have oM:∀v∈L,BZ G v:=fun s hs=>hL s (gz _ hs)
  rw[gQ]at hl
  refine⟨hi,?_⟩
  refine Ab e1 ?_
  refine Ab e2 ?_
  refine K8 hn GS LO q0 q1 hv ?_
  refine Ap (fun e=>?_) fun e=>?_
  ·rw[jd e]at h
   refine Ab e3 ?_
   refine Df hj ?_
   refine Ab (Dz hj) ?_
   refine Aj (room (gY (hH _ _) (iu hl (by decide)))) ?_
   rw[Fg]
   refine ih oM (g.set j (il (xs++[v]))) (xs++[v]) _ (by rw[gX ij];exact hi) (AJ hj) (by rw[gx];show _+1+_<_;exact S8 hl) e1 e2 e3 fun env' a=>?_
   have h:=h env' a
   rw[hW,gu]
   exact h
  ·rw[je (by rw[e];exact iM)]at h
   exact ih oM g xs _ hi hj (by exact YG hl) e1 e2 e3 h
theorem aE{Q:Ae}{L:List Int}(hn:7<=n)(GS:G.l6)(LO:st.nX G)(q0:0<=Ax st st.side)(q1:Ax st st.side<G.size)(hL:∀v∈L,BZ G v)(hi:g[i]?=some (il L))(hl:L.length<80000)
  (h:∀e j,(g++e)[j]?=some (il (L.filter (Bs G st (C9 G st st.side))))->Q (.lW (j+61)) (B S k m G st++(g++e))):CG n hd 215 [.lW 54,.lW (i+61)] Q X (B S k m G st++g):=by
 refine stp hn fun n hn=>?_
 refine NT (l0 hn rfl) GS LO q0 q1 ?_
 intro e
 refine Ab (a:=(L.map .int,some (i+61,L.map .int))) ?_ ?_
 ·rw[gu (B S k m G st)]
  exact Be (Ac (Ac hi e) _)
 refine A0 ?_
 refine XG (j:=(g++e).length) (i:=i) (pin:=C9 G st st.side) (l0 hn rfl) GS LO q0 q1 (iJ (BX (Ac hi e))) L hL ((g++e)++[il []]) [] _ (Ac (Ac hi e) _) gv (by show 0+_<_;exact YH hl) ?_ ?_ ?_ fun env' a=>?_
 any_goals rfl
 refine Ab a ?_
 rw[g8 _ _ (gE _),iB,gu]
 refine h _ _ ?_
 rw[<- gu]
 exact gv
theorem Fq{Q:Ae}(hn:11<=n)(GS:G.l6)(LO:st.nX G)(q0:0<=Ax st st.side)(q1:Ax st st.side<G.size)(hr:∀a b,Bd G (AW G a b))(hL:∀v∈Cp G st,BZ G v)(hl:(Cp G st).length<80000)
  (h:∀e j,(g++e)[j]?=some (il (Ay G st))->Q (.lW (j+61)) (B S k m G st++(g++e))):CG n hd 216 [.lW 54] Q X (B S k m G st++g):=by
 refine stp hn fun n hn=>?_
 refine T3 (l0 hn rfl) GS LO q0 q1 hr ?_
 intro e
 have hi:(g++[il (Cp G st)])[g.length]?=some (il (Cp G st)):=gv
 refine aE (l0 hn rfl) GS LO q0 q1 hL (Ac hi e) hl ?_
 intro e' j hj
 rw[gu,gu]at hj ⊢
 exact h _ _ hj
end
theorem UK(h:μ[n]?=some (.list xs)):C6 μ (.lW n)=some (xs,some (n,xs)):=by
 show(By μ n).map _=_
 rw[CO h];rfl
section
variable{S:List Int}{k:Int}{m:Nat}{G:l7}{st:St}{g:MH}{n:Nat}{hd:Bool}{X:As}{μ:MH}
noncomputable def haB:MS:=fb (mR 0 (fb (mR 2 D5)))
theorem Xz{Q:Au}{XS:List Int}(hn:5<=n)(GS:G.l6)(LO:st.nX G)(q0:0<=Ax st st.side)(q1:Ax st st.side<G.size)(hi:g[i]?=some (il XS))(L:List Int):∀(_:∀v∈L,BZ G v) (env:An),
  env 102=some (.lW 54)->env 208=some (.int pin)->
  (∀env',match L.any (Bs G st pin)with|true=>Q (.ret (.bool true)) env' (B S k m G st++g)|false=>Q .next env' (B S k m G st++g))->
  Bz (some (i+61,XS.map .int)) (fun v K env' μ'=>opt (AC [19] true v env') fun e=>ws lX (Ak lX prog n) hd haB K X e μ') (L.map .int) Q env (B S k m G st++g):=by
 induction L with
 |nil=>intro _ env e1 e2 h;exact⟨hi,h env⟩
 |cons v L ih=>
  intro hL env e1 e2 h
  have hv:=hL v gJ
  refine⟨hi,?_⟩
  refine Ab e1 ?_
  refine Ab e2 ?_
  refine K8 hn GS LO q0 q1 hv ?_
  rw[lp]at h
  refine Ap (fun e=>?_) fun e=>?_
  ·rw[e]at h;exact h _
  ·rw[e,iF]at h
   exact ih (fun s hs=>hL s (gz _ hs)) _ e1 e2 h
theorem dU{Q:Ae}(hn:10<=n)(GS:G.l6)(LO:st.nX G)(q0:0<=Ax st st.side)(q1:Ax st st.side<G.size)(hr:∀a b,Bd G (AW G a b))(hL:∀v∈oA G st,BZ G v)(hc:Bo G st st.side=true)
  (h:∀e,Q (.bool ((oA G st).any (Bs G st (C9 G st st.side)))) (B S k m G st++(g++e))):CG n hd 218 [.lW 54] Q X (B S k m G st++g):=by
 refine stp hn fun n hn=>?_
 refine Ir (l0 hn rfl) GS LO q0 q1 ?_
 refine hc.symm▸?_
 conv=>whnf
 refine NT (l0 hn rfl) GS LO q0 q1 ?_
 intro e
 have h1:((g++[MO.list [.int 3]])++e)[g.length]?=some (.list [.int 3]):=Ac gv e
 refine Ab (a:=([.int 3],some (g.length+61,[.int 3]))) (UK (μ:=B S k m G st++(g++[MO.list [.int 3]]++e)) (n:=g.length+61) h1) ?_
 refine A0 ?_
 refine⟨h1,?_⟩
 refine TU (l0 hn rfl) GS LO q0 q1 hr ?_
 intro e'
 have hi:((g++[MO.list [.int 3]])++e++[il (oA G st)]++e')[((g++[MO.list [.int 3]])++e).length]?=some (il (oA G st)):=Ac gv e'
 refine Ab (Be hi) ?_
 refine A0 ?_
 have h2:=h ([MO.list [.int 3]]++(e++([il (oA G st)]++e')))
 refine Xz (pin:=C9 G st st.side) (l0 hn rfl) GS LO q0 q1 hi (oA G st) hL _ ?_ ?_ fun env'=>?_
 any_goals rfl
 revert h2
 cases(oA G st).any (Bs G st (C9 G st st.side)) with
 |true=>
  intro h2
  rw[gu,gu,gu]
  exact h2
 |false=>
  intro h2
  refine⟨Ac (Ac h1 _) _,?_⟩
  rw[gu,gu,gu]
  exact h2
end
noncomputable def pc(c:Bool)(kd:Nat):Int:=sd c*8+kd
noncomputable def St.nI(st:St)(kd:Nat)(v:Int):St:=match kd with
 |0=>{st with k0:=v}|1=>{st with k1:=v}|2=>{st with k2:=v}|3=>{st with k3:=v}|4=>{st with k4:=v}|5=>{st with k5:=v}|_=>{st with k6:=v}
noncomputable def St.setB(st:St)(i:Nat)(p:Int):St:={st with board:=st.board.set i p}
noncomputable def St.m6(st:St)(v:Int):St:={st with key:=v}
noncomputable def St.nS(st:St)(c:Bool)(v:Int):St:=match c with
 |false=>{st with s0:=v}|true=>{st with s1:=v}
noncomputable def pn:Bool->Nat->Nat
 |false,kd=>kd
 |true,kd=>8+kd
noncomputable def zk(m:Nat)(c:Bool)(kd:Nat)(s:Int):Int:=((List.range m).map fun(s:Nat)=>pc c kd*64+(s:Int)+1).getD s.toNat 0
noncomputable def Bu(m:Nat)(st:St)(c:Bool)(kd:Nat)(s:Int):St:=
 let a:=st.setB s.toNat (pc c kd)
 let b:=a.nI kd (bor (a.kd kd) (1*2 ^ s.toNat))
 let d:=b.nS c (bor (b.si c) (1*2 ^ s.toNat))
 d.m6 (Cv b.key (zk m c kd s))
noncomputable def BY(m:Nat)(st:St)(c:Bool)(kd:Nat)(s:Int):St:=
 let a:=st.setB s.toNat 0
 let b:=a.nI kd (Cv (a.kd kd) (1*2 ^ s.toNat))
 let d:=b.nS c (Cv (b.si c) (1*2 ^ s.toNat))
 d.m6 (Cv b.key (zk m c kd s))
noncomputable def DQ(m:Nat)(st:St)(c:Bool)(kd:Nat)(x y:Int):St:=
 let a:=(st.setB x.toNat 0).setB y.toNat (pc c kd)
 let b:=a.nI kd (Cv (a.kd kd) (bor (1*2 ^ x.toNat) (1*2 ^ y.toNat)))
 let d:=b.nS c (Cv (b.si c) (bor (1*2 ^ x.toNat) (1*2 ^ y.toNat)))
 d.m6 (Cv d.key (Cv (zk m c kd x) (zk m c kd y)))
section
variable{S:List Int}{k:Int}{m:Nat}{G:l7}{st:St}{g:MH}{n:Nat}{hd:Bool}{X:As}{μ:MH}
theorem Jp{Q:Ae}(hn:1<=n)(h:Q (.int (pc c kd)) μ):CG n hd 2 [.int (sd c),.int kd] Q X μ:=by
 refine stp hn fun n hn=>?_
 refine Aj (D0 (x:=sd c) (by induction c using Bool.casesOn<;>decide) (by induction c using Bool.casesOn<;>decide)) ?_
 exact h
theorem IF(c:Bool)(h:kd<8):Builtin.bitAnd (pc c kd) 7=kd:=by
 rcases(by lia:kd=0\/kd=1\/kd=2\/kd=3\/kd=4\/kd=5\/kd=6\/kd=7)with rfl|rfl|rfl|rfl|rfl|rfl|rfl|rfl<;>induction c<;>rfl
theorem M3(c:Bool)(h:kd<8):(pc c kd).fdiv (2 ^ 3)=sd c:=by
 rcases(by lia:kd=0\/kd=1\/kd=2\/kd=3\/kd=4\/kd=5\/kd=6\/kd=7)with rfl|rfl|rfl|rfl|rfl|rfl|rfl|rfl<;>induction c<;>rfl
theorem Eb{Q:Ae}{c:Bool}{kd:Nat}(hn:1<=n)(h8:kd<8)(h:Q (.int kd) μ):CG n hd 5 [.int (pc c kd)] Q X μ:=by
 refine stp hn fun n hn=>?_
 have e:=IF c h8
 replace h:=(e).symm▸h
 exact h
theorem Gw{Q:Ae}(hn:1<=n)(h8:kd<8)(h:Q (.int (sd c)) μ):CG n hd 4 [.int (pc c kd)] Q X μ:=by
 refine stp hn fun n hn=>?_
 have e:=M3 c h8
 replace h:=(e).symm▸h
 exact h
theorem Fp(hl:(st.board.length:Int)=G.size)(h:s<G.size):decide (s<((st.board.map V.int).length:Int))=true:=gy (by rw[gS,hl];exact h)
theorem Ex:(B S k m G st++g).set 56 (.list ((st.board.map .int).set i (.int p)))=B S k m G (st.setB i p)++g:=by
 rw[show(MO.list ((st.board.map V.int).set i (.int p)))=il (st.board.set i p) by unfold il;rw[List.map_set]];rfl
theorem Hw{a b c d e f g:Int}{kd:Nat}(h:kd<7):decide ((kd:Int)<(([a,b,c,d,e,f,g].map V.int).length:Int))=true:=gy (by show(kd:Int)<7;exact mI (mn _) (mj 0 1) (.num 7) (mj 0 1) (.num 7) rfl (Int.ofNat_lt.mpr h))
theorem F7{kd:Nat}{v:Int}(h:kd<7):(B S k m G st++g).set 58 (.list (([st.k0,st.k1,st.k2,st.k3,st.k4,st.k5,st.k6].map V.int).set (kd:Int).toNat (.int v)))=B S k m G (st.nI kd v)++g:=by
 exact pR h rfl rfl rfl rfl rfl rfl rfl
theorem Nb(c:Bool):decide (0<=sd c)=true:=by cases c<;>rfl
theorem Nc(c:Bool):decide (sd c<(([a,b].map V.int).length:Int))=true:=by cases c<;>rfl
theorem F8:(B S k m G st++g).set 59 (.list (([st.s0,st.s1].map V.int).set (sd c).toNat (.int v)))=B S k m G (st.nS c v)++g:=by induction c<;>rfl
theorem QN(c:Bool)(h:kd<7):B6 (B S k m G st++g) (.lW 2) (.int (pc c kd))=some (.lW (3+pn c kd))/\(B S k m G st++g)[3+pn c kd]?=some (il ((List.range m).map fun(s:Nat)=>pc c kd*64+(s:Int)+1)):=by
 cases c
 ·exact pR h ⟨rfl,rfl⟩ ⟨rfl,rfl⟩ ⟨rfl,rfl⟩ ⟨rfl,rfl⟩ ⟨rfl,rfl⟩ ⟨rfl,rfl⟩ ⟨rfl,rfl⟩
 ·exact pR h ⟨rfl,rfl⟩ ⟨rfl,rfl⟩ ⟨rfl,rfl⟩ ⟨rfl,rfl⟩ ⟨rfl,rfl⟩ ⟨rfl,rfl⟩ ⟨rfl,rfl⟩
theorem Zw{f:Nat->Int}(hm:(m:Int)=G.size)(h:s<G.size):s<((((List.range m).map f).length:Nat):Int):=by rw[gS,jY,hm];exact h
theorem K9{Q:Ae}(hn:2<=n)(h7:kd<7)(s0:0<=s)(s1:s<20)(tn:s<G.size)(hl:(st.board.length:Int)=G.size)(hm:(m:Int)=G.size)(h:Q .none (B S k m G (Bu m st c kd s)++g)) :
  CG n hd 111 [.lW 54,.int (pc c kd),.int s] Q X (B S k m G st++g):=by
 refine stp hn fun n hn=>?_
 refine Aj (gy s0) ?_
 refine Aj (gy (iN s1 (by decide))) ?_
 refine Aj (gy s0) ?_
 refine Aj (Fp hl tn) ?_
 rw[Ex]
 refine Eb (l0 hn rfl) (gZ h7) ?_
 refine Af (Iz h7) ?_
 refine Aj (Hw h7) ?_
 rw[F7 h7]
 refine Gw (l0 hn rfl) (gZ h7) ?_
 refine Af (BH c) ?_
 refine Aj (Nb c) ?_
 refine Aj (Nc c) ?_
 conv=>whnf
 rw[F8]
 refine Af (QN c h7).1 ?_
 refine AO (QN c h7).2 s0 (Zw hm tn) ?_
 exact h
theorem B0{s:Int}{K:V->Prop}(s0:0<=s)(hp:st.board[s.toNat]?=some p)(h:K (.int p)):@Option.rec V (fun _=>Prop) False (fun a=>K a) (OS (B S k m G st++g) (.lW 56) (.int s)):=by
 have hl:s.toNat<st.board.length:=by
  rcases iV s.toNat st.board.length with c|c
  ·exact c
  ·exact AM (ip c) hp
 refine AO (xs:=st.board) rfl s0 (by lia) ?_
 (refine List.getD_eq_getElem?_getD.symm▸?_;refine hp.symm▸?_);exact h
theorem Mc{Q:Ae}{s:Int}(hn:2<=n)(h7:kd<7)(s0:0<=s)(s1:s<20)(tn:s<G.size)(hl:(st.board.length:Int)=G.size)(hm:(m:Int)=G.size)(hp:st.board[s.toNat]?=some (pc c kd))(h:Q (.int (pc c kd)) (B S k m G (BY m st c kd s)++g)) :
  CG n hd 112 [.lW 54,.int s] Q X (B S k m G st++g):=by
 refine stp hn fun n hn=>?_
 refine B0 s0 hp ?_
 refine Aj (gy s0) ?_
 refine Aj (gy (iN s1 (by decide))) ?_
 refine Aj (gy s0) ?_
 refine Aj (Fp hl tn) ?_
 rw[Ex]
 refine Eb (l0 hn rfl) (gZ h7) ?_
 refine Af (Iz h7) ?_
 refine Aj (Hw h7) ?_
 rw[F7 h7]
 refine Gw (l0 hn rfl) (gZ h7) ?_
 refine Af (BH c) ?_
 refine Aj (Nb c) ?_
 refine Aj (Nc c) ?_
 conv=>whnf
 rw[F8]
 refine Af (QN c h7).1 ?_
 refine AO (QN c h7).2 s0 (Zw hm tn) ?_
 exact h
theorem QZ{Q:Ae}{a:Int}(hn:2<=n)(h7:kd<7)(a0:0<=a)(a1:a<20)(a1':a<G.size)(b0:0<=b)(b1:b<20)(b1':b<G.size)(hl:(st.board.length:Int)=G.size)(hm:(m:Int)=G.size)(hp:st.board[a.toNat]?=some (pc c kd))(h:Q .none (B S k m G (DQ m st c kd a b)++g)) :
  CG n hd 115 [.lW 54,.int a,.int b] Q X (B S k m G st++g):=by
 refine stp hn fun n hn=>?_
 refine B0 a0 hp ?_
 refine Aj (gy a0) ?_
 refine Aj (gy (iN a1 (by decide))) ?_
 refine Aj (gy b0) ?_
 refine Aj (gy (iN b1 (by decide))) ?_
 refine Aj (gy a0) ?_
 refine Aj (Fp hl a1') ?_
 rw[Ex]
 refine Aj (gy b0) ?_
 refine Aj (Fp (st:=st.setB a.toNat 0) (by refine(show(st.setB a.toNat 0).board.length=st.board.length from jJ).symm▸?_;exact hl) b1') ?_
 rw[Ex]
 refine Eb (l0 hn rfl) (gZ h7) ?_
 refine Af (Iz h7) ?_
 refine Aj (Hw h7) ?_
 rw[F7 h7]
 refine Gw (l0 hn rfl) (gZ h7) ?_
 refine Af (BH c) ?_
 refine Aj (Nb c) ?_
 refine Aj (Nc c) ?_
 conv=>whnf
 rw[F8]
 refine Af (QN c h7).1 ?_
 refine AO (QN c h7).2 a0 (Zw hm a1') ?_
 refine AO (QN c h7).2 b0 (Zw hm b1') ?_
 exact h
end
theorem Zu(a b:Nat):Cv (a:Int) (b:Int)=(((a||| b) - (a&&& b):Nat):Int):=by
 have q:Builtin.bitOr (a:Int) (b:Int)=((a||| b:Nat):Int):=Gi fun k=>by rw[DC];show _=(a||| b).testBit k;rw[jy];rfl
 show Builtin.bitOr (a:Int) (b:Int) - ((a&&& b:Nat):Int)=_
 refine q.symm▸?_
 have:a&&& b<=a:=i8
 have:a<=a||| b:=Nat.left_le_or
 lia
theorem Km(hx:0<=x)(hy:0<=y)(k:Nat):tb (Cv x y) k=(tb x k ^^ tb y k):=by
 obtain⟨a,rfl⟩:=gB hx
 obtain⟨b,rfl⟩:=gB hy
 rw[Zu]
 show((a||| b) - (a&&& b)).testBit k=(a.testBit k ^^ b.testBit k)
 have e:a&&& b=(a||| b)&&& (a&&& b):=jF fun k=>by
  rw[i7,i7,jy,i7]
  cases a.testBit k<;>cases b.testBit k<;>rfl
 (refine e.symm▸?_;rewrite[RU];rewrite[jy];rewrite[i7])
 cases a.testBit k<;>cases b.testBit k<;>rfl
theorem HI(s:Int)(k:Nat):tb (1*2 ^ s.toNat) k=decide (s.toNat=k):=by
 rw[Int.one_mul]
 show(2 ^ s.toNat).testBit k=_
 exact Nat.testBit_two_pow
theorem Iq(s:Int):0<=(1:Int)*2 ^ s.toNat:=by rw[Int.one_mul];exact jf (jC (by decide))
theorem ZC(h:∀k,n<=k->tb x k=false):0<=x/\x<2 ^ n:=by
 induction x with
 |ofNat a=>
  refine⟨gO a,?_⟩
  have:a<2 ^ n:=Nat.lt_pow_two_of_testBit a fun k hk=>h k hk
  exact Int.ofNat_lt.mpr this
 |negSucc a=>
  have h1:=h (n+a) (hH _ _)
  have h2:a.testBit (n+a)=false:=iW (g6 kz (iy (by decide) (jh _ _)))
  have h1:(!a.testBit (n+a))=false:=h1
  replace h1:=h2▸h1;exact FR h1
noncomputable def Of(p:Int)(kd:Nat):Bool:=p != 0&&Builtin.bitAnd p 7==(kd:Int)
noncomputable def PO(p:Int)(c:Bool):Bool:=p != 0&&p.fdiv (2 ^ 3)==sd c
noncomputable def AB(b:List Int)(k:Nat):Int:=b.getD k 0
theorem CX{b:List Int}(h:i<b.length)(k:Nat):AB (b.set i p) k=if i=k then p else AB b k:=by
 unfold AB
 rw[gU,jZ]
 split
 ·rfl
 ·rfl
theorem Em(c:Bool)(h:1<=kd):pc c kd≠0:=by unfold pc;induction c<;>simp only[sd]<;>lia
theorem Ck(c:Bool)(h:1<=kd)(h7:kd<7)(q:Nat):Of (pc c kd) q=decide (kd=q):=by
 unfold Of
 rw[bne_iff_ne.mpr (Em c h),IF c (by exact YI h7)]
 rw[jM];simp;lia
theorem Cl(c:Bool)(h:1<=kd)(h7:kd<7)(q:Bool):PO (pc c kd) q=decide (c=q):=by
 unfold PO
 (refine(bne_iff_ne.mpr (Em c h)).symm▸?_;rewrite[M3 c (by exact YI h7)])
 induction c using Bool.casesOn<;>induction q using Bool.casesOn<;>rfl
structure mF(G:l7)(st:St):Prop where
 len:(st.board.length:Int)=G.size
 rL:∀k,AB st.board k=0\/∃c kd,1<=kd/\kd<7/\AB st.board k=pc c kd
 kb:∀kd,1<=kd->kd<7->∀k,tb (st.kd kd) k=Of (AB st.board k) kd
 sb:∀c k,tb (st.si c) k=PO (AB st.board k) c
 k0:st.k0=0
theorem ON{b:List Int}(h:b.length<=k):AB b k=0:=by unfold AB;rw[gU,ip h];rfl
theorem Ct{b:List Int}(h:k<b.length):b[k]?=some (AB b k):=by unfold AB;rw[gU,gV h];rfl
theorem mF.bdK{st:St}(C:mF G st)(h:1<=kd)(h7:kd<7):Bd G (st.kd kd):=ZC fun k hk=>by
 have:=C.len
 rw[C.kb kd h h7,ON (by lia)];rfl
theorem mF.pJ{st:St}(C:mF G st)(c:Bool):Bd G (st.si c):=ZC fun k hk=>by
 have:=C.len
 rw[C.sb c,ON (by lia)];rfl
theorem mF.low{st:St}(C:mF G st):st.nX G:=⟨C.pJ false,C.pJ true⟩
theorem Y2(st:St)(v:Int)(ha:a<7)(hb:b<7):(st.nI a v).kd b=if a=b then v else st.kd b:=by
 exact pR ha (pR hb rfl rfl rfl rfl rfl rfl rfl) (pR hb rfl rfl rfl rfl rfl rfl rfl) (pR hb rfl rfl rfl rfl rfl rfl rfl) (pR hb rfl rfl rfl rfl rfl rfl rfl) (pR hb rfl rfl rfl rfl rfl rfl rfl) (pR hb rfl rfl rfl rfl rfl rfl rfl) (pR hb rfl rfl rfl rfl rfl rfl rfl)
theorem II(st:St)(a:Nat)(v:Int)(c:Bool):(st.nI a v).si c=st.si c:=by
 rcases a with _|_|_|_|_|_|_<;>induction c<;>rfl
theorem Qr(st:St)(a:Nat)(v:Int):(st.nI a v).board=st.board:=by rcases a with _|_|_|_|_|_|_<;>rfl
theorem Y1(st:St)(v:Int)(h:1<=a):(st.nI a v).k0=st.k0:=by
 rcases a with _|_|_|_|_|_|_<;>first|rfl|exact absurd h (by decide)
theorem Y5(st:St)(c:Bool)(v:Int)(d:Bool):(st.nS c v).si d=if c=d then v else st.si d:=by induction c using Bool.casesOn<;>induction d using Bool.casesOn<;>rfl
theorem Y4(st:St)(c:Bool)(v:Int)(a:Nat):(st.nS c v).kd a=st.kd a:=by cases c<;>rfl
theorem Qt(st:St)(c:Bool)(v:Int):(st.nS c v).board=st.board:=by cases c<;>rfl
theorem Y3(st:St)(c:Bool)(v:Int):(st.nS c v).k0=st.k0:=by cases c<;>rfl
structure Upd(st m8:St)(b:List Int)(c:Bool)(kd:Nat)(vk vs:Int):Prop where
 board:m8.board=b
 kd:∀q,q<7->m8.kd q=if kd=q then vk else st.kd q
 si:∀d,m8.si d=if c=d then vs else st.si d
 k0:m8.k0=st.k0
theorem QJ{st:St}{b:List Int}{c:Bool}{kd:Nat}{vk vs:Int}{f:St->St}(h1:1<=kd)(h7:kd<7)(hf:∀s,(f s).board=s.board/\(∀q,(f s).kd q=s.kd q)/\(∀d,(f s).si d=s.si d)/\(f s).k0=s.k0) :
  Upd st (f ((({st with board:=b}:St).nI kd vk).nS c vs)) b c kd vk vs:=by
 have a1:=(hf ((({st with board:=b}:St).nI kd vk).nS c vs)).1;have a2:=(hf ((({st with board:=b}:St).nI kd vk).nS c vs)).2.1;have a3:=(hf ((({st with board:=b}:St).nI kd vk).nS c vs)).2.2.1;have a4:=(hf ((({st with board:=b}:St).nI kd vk).nS c vs)).2.2.2
 refine⟨?_,fun q hq=>?_,fun d=>?_,?_⟩
 ·rw[a1,Qt,Qr]
 ·rw[a2,Y4,Y2 _ _ h7 hq];rfl
 ·rw[a3,Y5,II];rfl
 ·rw[a4,Y3,Y1 _ _ h1]
theorem JO(v:St->Int):∀s:St,(s.m6 (v s)).board=s.board/\(∀q,(s.m6 (v s)).kd q=s.kd q)/\(∀d,(s.m6 (v s)).si d=s.si d)/\(s.m6 (v s)).k0=s.k0:=fun s=>⟨rfl,fun q=>rfl,fun d=>by cases d<;>rfl,rfl⟩
theorem RI(m:Nat)(st:St)(c:Bool){kd:Nat}(s:Int)(h1:1<=kd)(h7:kd<7):Upd st (Bu m st c kd s) (st.board.set s.toNat (pc c kd)) c kd (bor (st.kd kd) (1*2 ^ s.toNat)) (bor (st.si c) (1*2 ^ s.toNat)):=by
 have e:=QJ (st:=st) (b:=st.board.set s.toNat (pc c kd)) (c:=c) (vk:=bor (st.kd kd) (1*2 ^ s.toNat)) (vs:=bor (st.si c) (1*2 ^ s.toNat)) h1 h7 (f:=fun z=>z.m6 (Cv (((st.setB s.toNat (pc c kd)).nI kd (bor (st.kd kd) (1*2 ^ s.toNat))).key) (zk m c kd s))) (JO fun _=>_)
 unfold Bu
 dsimp only
 rw[II]
 exact e
theorem OV(m:Nat)(st:St)(c:Bool){kd:Nat}(s:Int)(h1:1<=kd)(h7:kd<7):Upd st (BY m st c kd s) (st.board.set s.toNat 0) c kd (Cv (st.kd kd) (1*2 ^ s.toNat)) (Cv (st.si c) (1*2 ^ s.toNat)):=by
 have e:=QJ (st:=st) (b:=st.board.set s.toNat 0) (c:=c) (vk:=Cv (st.kd kd) (1*2 ^ s.toNat)) (vs:=Cv (st.si c) (1*2 ^ s.toNat)) h1 h7 (f:=fun z=>z.m6 (Cv (((st.setB s.toNat 0).nI kd (Cv (st.kd kd) (1*2 ^ s.toNat))).key) (zk m c kd s))) (JO fun _=>_)
 unfold BY
 dsimp only
 rw[II]
 exact e
theorem LK(m:Nat)(st:St)(c:Bool){kd:Nat}(x y:Int)(h1:1<=kd)(h7:kd<7):Upd st (DQ m st c kd x y) ((st.board.set x.toNat 0).set y.toNat (pc c kd)) c kd (Cv (st.kd kd) (bor (1*2 ^ x.toNat) (1*2 ^ y.toNat))) (Cv (st.si c) (bor (1*2 ^ x.toNat) (1*2 ^ y.toNat))):=by
 have e:=QJ (st:=st) (b:=(st.board.set x.toNat 0).set y.toNat (pc c kd)) (c:=c) (vk:=Cv (st.kd kd) (bor (1*2 ^ x.toNat) (1*2 ^ y.toNat))) (vs:=Cv (st.si c) (bor (1*2 ^ x.toNat) (1*2 ^ y.toNat))) h1 h7 (f:=fun z=>z.m6 (Cv z.key (Cv (zk m c kd x) (zk m c kd y)))) (JO fun _=>_)
 unfold DQ
 dsimp only
 rw[II]
 exact e
theorem Upd.con{G:l7}{st m8:St}{b:List Int}{c:Bool}{kd:Nat}{vk vs:Int}(U:Upd st m8 b c kd vk vs)(C:mF G st)(h1:1<=kd)(h7:kd<7)(hb:b.length=st.board.length)
  (hm:∀k,AB b k=0\/∃c kd,1<=kd/\kd<7/\AB b k=pc c kd)
  (hk:∀k,tb vk k=Of (AB b k) kd) (ho:∀q k,kd≠q->1<=q->Of (AB b k) q=Of (AB st.board k) q)
  (hs:∀k,tb vs k=PO (AB b k) c) (hd:∀d k,c≠d->PO (AB b k) d=PO (AB st.board k) d):mF G m8:=by
 refine⟨?_,?_,?_,?_,?_⟩
 ·(refine U.board.symm▸?_;refine hb.symm▸?_);exact C.len
 ·refine U.board.symm▸?_;exact hm
 ·intro q q1 q7 k
  rw[U.board,U.kd q q7]
  by_cases e:kd=q
  ·subst e;refine(iI rfl).symm▸?_;exact hk k
  ·rw[iH e,ho q k e q1];exact C.kb q q1 q7 k
 ·intro d k
  rw[U.board,U.si d]
  by_cases e:c=d
  ·subst e;rw[iI rfl];exact hs k
  ·rw[iH e,hd d k e];exact C.sb d k
 ·exact U.k0.trans (C.k0)
theorem dF(q:Nat):Of 0 q=false:=rfl
theorem dG(q:Bool):PO 0 q=false:=rfl
theorem A4{G:l7}{st:St}(C:mF G st){s:Int}(s0:0<=s)(s1:s<G.size):s.toNat<st.board.length:=by have:=C.len;lia
theorem mF.put{G:l7}{st:St}{m:Nat}{c:Bool}{kd:Nat}{s:Int}(C:mF G st)(h1:1<=kd)(h7:kd<7)(s0:0<=s)(s1:s<G.size)(he:AB st.board s.toNat=0):mF G (Bu m st c kd s):=by
 have hb:=A4 C s0 s1
 have sq:=CX (p:=pc c kd) hb
 refine(RI m st c s h1 h7).con C h1 h7 (jJ) (fun k=>?_) (fun k=>?_) (fun q k e q1=>?_) (fun k=>?_) (fun d k e=>?_)
 ·rw[sq]
  split
  ·exact .inr ⟨c,kd,h1,h7,rfl⟩
  ·exact C.rL k
 ·show tb (Builtin.bitOr _ _) k=_
  rw[DC,HI,C.kb kd h1 h7,sq]
  by_cases z:s.toNat=k
  ·rw[iI z,Ck c h1 h7,gy z];simp
  ·rw[iH z,gR z,ju]
 ·rw[sq]
  by_cases z:s.toNat=k
  ·rw[iI z,<- z,he,Ck c h1 h7,gR e];rfl
  ·rw[iH z]
 ·show tb (Builtin.bitOr _ _) k=_
  rw[DC,HI,C.sb c,sq]
  by_cases z:s.toNat=k
  ·rw[iI z,Cl c h1 h7,gy z];simp
  ·rw[iH z,gR z,ju]
 ·rw[sq]
  by_cases z:s.toNat=k
  ·(rewrite[iI z];refine z▸?_;rewrite[he];rewrite[Cl c h1 h7];rewrite[gR e]);rfl
  ·rw[iH z]
theorem mF.take{G:l7}{st:St}{s:Int}(C:mF G st)(h1:1<=kd)(h7:kd<7)(s0:0<=s)(s1:s<G.size)(he:AB st.board s.toNat=pc c kd):mF G (BY m st c kd s):=by
 have hb:=A4 C s0 s1
 have sq:=CX (p:=0) hb
 refine(OV m st c s h1 h7).con C h1 h7 (jJ) (fun k=>?_) (fun k=>?_) (fun q k e q1=>?_) (fun k=>?_) (fun d k e=>?_)
 ·rw[sq]
  split
  ·exact .inl rfl
  ·exact C.rL k
 ·rw[Km (C.bdK h1 h7).1 (Iq s),HI,C.kb kd h1 h7,sq]
  by_cases z:s.toNat=k
  ·rw[iI z,<- z,he,Ck c h1 h7,gy rfl,gy rfl];rfl
  ·rw[iH z,gR z,kt]
 ·rw[sq]
  by_cases z:s.toNat=k
  ·rw[iI z,<- z,he,Ck c h1 h7,gR e];rfl
  ·rw[iH z]
 ·rw[Km (C.pJ c).1 (Iq s),HI,C.sb c,sq]
  by_cases z:s.toNat=k
  ·rw[iI z,<- z,he,Cl c h1 h7,gy rfl,gy rfl];rfl
  ·rw[iH z,gR z,kt]
 ·rw[sq]
  by_cases z:s.toNat=k
  ·(rewrite[iI z];refine z▸?_;rewrite[he];rewrite[Cl c h1 h7];rewrite[gR e]);rfl
  ·rw[iH z]
theorem VA(hx:0<=x)(hy:0<=y):0<=bor x y:=by
 obtain⟨a,rfl⟩:=gB hx
 obtain⟨b,rfl⟩:=gB hy
 have q:bor (a:Int) (b:Int)=((a||| b:Nat):Int):=Gi fun k=>by
  show tb (Builtin.bitOr _ _) k=(a||| b).testBit k
  rw[DC,jy];rfl
 refine q.symm▸?_;exact gO _
theorem mF.shift{G:l7}{st:St}{x y:Int}(C:mF G st)(h1:1<=kd)(h7:kd<7)(x0:0<=x)(x1:x<G.size)(y0:0<=y)(y1:y<G.size)(hx:AB st.board x.toNat=pc c kd)(hy:AB st.board y.toNat=0):mF G (DQ m st c kd x y):=by
 have hb:=A4 C x0 x1
 have uy:y.toNat<(st.board.set x.toNat 0).length:=by rw[jJ];exact A4 C y0 y1
 have ne:x.toNat≠y.toNat:=fun e=>Em c h1 (by(refine hx▸?_;refine e.symm▸?_;refine hy.symm▸?_;rfl))
 have sq:∀k,AB ((st.board.set x.toNat 0).set y.toNat (pc c kd)) k=if y.toNat=k then pc c kd else if x.toNat=k then 0 else AB st.board k:=fun k=>by rw[CX uy,CX hb]
 have nn:0<=bor (1*2 ^ x.toNat) (1*2 ^ y.toNat):=VA (Iq x) (Iq y)
 have tt:∀k,tb (bor (1*2 ^ x.toNat) (1*2 ^ y.toNat)) k=(decide (x.toNat=k)||decide (y.toNat=k)):=fun k=>by
  show tb (Builtin.bitOr _ _) k=_
  rw[DC,HI,HI]
 refine(LK m st c x y h1 h7).con C h1 h7 (by(refine List.length_set.symm▸?_;refine List.length_set.symm▸?_;rfl)) (fun k=>?_) (fun k=>?_) (fun q k e q1=>?_) (fun k=>?_) (fun d k e=>?_)
 ·rw[sq]
  split
  ·exact .inr ⟨c,kd,h1,h7,rfl⟩
  ·split
   ·exact .inl rfl
   ·exact C.rL k
 ·rw[Km (C.bdK h1 h7).1 nn,tt,C.kb kd h1 h7,sq]
  by_cases z:y.toNat=k
  ·rw[iI z,<- z,hy,Ck c h1 h7,gR ne,gy rfl,gy rfl];rfl
  ·rw[iH z,gR z,ju]
   by_cases z2:x.toNat=k
   ·rw[iI z2,<- z2,hx,Ck c h1 h7,gy rfl,gy rfl];rfl
   ·rw[iH z2,gR z2,kt]
 ·rw[sq]
  by_cases z:y.toNat=k
  ·rw[iI z,<- z,hy,Ck c h1 h7,gR e];rfl
  ·rw[iH z]
   by_cases z2:x.toNat=k
   ·rw[iI z2,<- z2,hx,Ck c h1 h7,gR e];rfl
   ·rw[iH z2]
 ·rw[Km (C.pJ c).1 nn,tt,C.sb c,sq]
  by_cases z:y.toNat=k
  ·rw[iI z,<- z,hy,Cl c h1 h7,gR ne,gy rfl,gy rfl];rfl
  ·rw[iH z,gR z,ju]
   by_cases z2:x.toNat=k
   ·rw[iI z2,<- z2,hx,Cl c h1 h7,gy rfl,gy rfl];rfl
   ·rw[iH z2,gR z2,kt]
 ·rw[sq]
  by_cases z:y.toNat=k
  ·rw[iI z,<- z,hy,Cl c h1 h7,gR e];rfl
  ·rw[iH z]
   by_cases z2:x.toNat=k
   ·(rewrite[iI z2];refine z2▸?_;rewrite[hx];rewrite[Cl c h1 h7];rewrite[gR e]);rfl
   ·rw[iH z2]
theorem mF.uniq{a b:St}(A:mF G a)(B:mF G b)(e:a.board=b.board):(∀kd,kd<7->a.kd kd=b.kd kd)/\∀c,a.si c=b.si c:=by
 refine⟨fun kd h7=>?_,fun c=>Gi fun k=>by rw[A.sb,B.sb,e]⟩
 rcases Nat.eq_zero_or_pos kd with z|z
 ·subst z;exact A.k0.trans B.k0.symm
 ·exact Gi fun k=>by rw[A.kb kd z h7,B.kb kd z h7,e]
noncomputable def qY:Option (Bool×Nat)->Int
 |none=>0
 |some (c,q)=>pc c q
structure Mv(G:l7)(st:St)(v:Int)(kd:Nat)(tk:Option (Bool×Nat)):Prop where
 M:BZ G v
 k1:1<=kd
 k7:kd<7
 src:AB st.board (Ai v).toNat=pc st.side kd
 dst:AB st.board (mc v).toNat=qY tk
 mS:∀c q,tk=some (c,q)->1<=q/\q<7
 ne:Ai v≠mc v
 qk:kd=1->mc v - Ai v≠8/\Ai v - mc v≠8
 oi:Bt v=1->kd=1/\∃p:Nat,2<=p/\p<=5/\Ah v=p
noncomputable def Dt(st:St)(v:Int)(tk:Option (Bool×Nat)):St:={st with hist:=st.hist++[.tup [.int v,.int (qY tk),.int 0,.int (-1),.int st.half,.int st.key]],half:=st.half+1}
noncomputable def Lj(st:St):St:={st with half:=0}
noncomputable def BR(m:Nat)(st:St)(t:Int):Option (Bool×Nat)->St
 |none=>st
 |some (c,q)=>Lj (BY m st c q t)
noncomputable def BG(m:Nat)(st:St)(kd:Nat)(v:Int):St:=match Bt v==1 with
 |true=>Bu m (BY m st st.side 1 (Ai v)) st.side (Ah v).toNat (mc v)
 |false=>DQ m st st.side kd (Ai v) (mc v)
noncomputable def BD(st:St)(kd:Nat):St:=match(kd:Int)==1 with
 |true=>Lj st
 |false=>st
noncomputable def Kp(st:St):St:={st with full:=match st.side with|true=>st.full+1|false=>st.full,side:=!st.side,key:=Cv st.key 3}
noncomputable def Ij(m:Nat)(st:St)(kd:Nat)(tk:Option (Bool×Nat))(v:Int):St:=Kp (BD (BG m (BR m (Dt st v tk) (mc v) tk) kd v) kd)
noncomputable def AT:Nat->MS->MS
 |n+1,.seq _ b=>AT n b
 |_,s=>s
section
variable{S:List Int}{k:Int}{m:Nat}{G:l7}{st:St}{g:MH}{n:Nat}{hd:Bool}{X:As}{μ:MH}
theorem DP(M:BZ G v):(Bt v==3)=false:=by rcases M.sp with e|e<;>rw[e]<;>rfl
theorem eT(M:BZ G v):(!(Bt v==2))=true:=by rcases M.sp with e|e<;>rw[e]<;>rfl
theorem Sj{Q:Ae}(hn:1<=n)(h:Q .none (B S k m G st++g)):CG n hd 238 [.lW 54] Q X (B S k m G st++g):=by
 induction n using Nat.casesOn with
 |zero=>exact absurd hn (by decide)
 |succ n=>exact h
theorem WY{Q:Ae}(hn:1<=n)(h:Q .none (B S k m G st++g)):CG n hd 239 [.lW 54,.int (-1)] Q X (B S k m G st++g):=by
 induction n using Nat.casesOn with
 |zero=>exact absurd hn (by decide)
 |succ n=>exact h
theorem NV{Q:Ae}(hn:1<=n)(h:Q .none (B S k m G st++g)):CG n hd 240 [.lW 54,.int 0] Q X (B S k m G st++g):=by
 induction n using Nat.casesOn with
 |zero=>exact absurd hn (by decide)
 |succ n=>exact h
theorem aF{Q:Ae}{z:List Int}(hn:1<=n)(hz:G.e48=il z)(hl:(z.length:Int)=G.size)(a0:0<=a)(a1:a<G.size)(b0:0<=b)(b1:b<G.size)(h:Q (.int 0) (B S k m G st++g)):CG n hd 237 [.lW 54,.int a,.int b] Q X (B S k m G st++g):=by
 refine stp hn fun n hn=>?_
 have e:(B S k m G st++g)[48]?=some (il z):=by refine hz▸?_;rfl
 refine AO e a0 (BK hl a1) ?_
 refine AO e b0 (BK hl b1) ?_
 conv=>whnf
 rw[show Builtin.bitAnd 0 _=0 from Ea _]
 exact h
theorem TZ{Q:Ae}(hn:1<=n)(h1:t - o≠8)(h2:o - t≠8)(h:Q (.int (-1)) (B S k m G st++g)):CG n hd 235 [.lW 54,.int c,.int o,.int t] Q X (B S k m G st++g):=by
 refine stp hn fun n hn=>?_
 refine DT (ie (b:=(8:Int)).mpr h1) ?_
 refine DT (ie (b:=(8:Int)).mpr h2) ?_
 exact h
theorem La{Q:Ae}(hn:2<=n)(M:BZ G v)(h:Q (.int (mc v)) (B S k m G st++g)):CG n hd 245 [.lW 54,.int v] Q X (B S k m G st++g):=by
 refine stp hn fun n hn=>?_
 refine KL (l0 hn rfl) ?_
 refine EY (l0 hn rfl) ?_
 refine DT (eT M) ?_
 exact h
theorem WR{Q:Ae}(hn:2<=n)(V:Mv G st v kd tk)(hl:(st.board.length:Int)=G.size)(h:Q (.int (pc st.side kd)) (B S k m G st++g)):CG n hd 232 [.lW 54,.int v] Q X (B S k m G st++g):=by
 refine stp hn fun n hn=>?_
 have hb:st.board[(Ai v).toNat]?=some (pc st.side kd):=by refine V.src▸?_;exact Ct (by have:=V.M.f0;have:=V.M.f1;lia)
 refine Et (l0 hn rfl) ?_
 refine Cz (gR (Int.not_le.mpr V.M.f1)) ?_
 refine KL (l0 hn rfl) ?_
 refine Cz (gR (Int.not_le.mpr V.M.t1)) ?_
 refine B0 V.M.f0 hb ?_
 refine Cz (by rw[gP];exact Em _ V.k1) ?_
 refine Gw (l0 hn rfl) (gZ V.k7) ?_
 refine Cz (by cases st.side<;>rfl) ?_
 exact h
theorem Dj{Q:Ae}(hn:1<=n)(h:Q (.int (Ah v)) μ):CG n hd 24 [.int v] Q X μ:=by
 refine stp hn fun n hn=>?_
 unfold Ah at h
 refine Ap (fun e=>?_) fun e=>?_
 ·have e:(Bt v != 1)=true:=e
  rw[e]at h;exact h
 ·have e:(Bt v != 1)=false:=e
  rw[e]at h;exact h
theorem ZJ{Q:Au}{kd:Nat}{z:List Int}(hn:1<=n)(hz:G.e48=il z)(hl:(z.length:Int)=G.size)(M:BZ G v)(e1:env 102=some (.lW 54))(e2:env 0=some (.int (sd st.side)))(e3:env 11=some (.int (Ai v)))(e4:env 61=some (.int (mc v)))
  (h:∀env',Q .next env' (B S k m G (Kp st)++g)):ws lX (Ak lX prog n) hd (AT 16 D4) Q X env (B S k m G st++g):=by
 refine Ab e1 ?_
 refine Ab e1 ?_
 refine Ab e3 ?_
 refine Ab e4 ?_
 refine aF hn hz hl M.f0 M.f1 M.t0 M.t1 ?_
 refine NV hn ?_
 refine Ab e2 ?_
 have h:=h env
 unfold Kp at h
 have hs:st.side=true\/st.side=false:=by cases st.side<;>decide
 rcases hs with hs|hs
 ·rw[hs]at h e2 ⊢
  refine Ab e1 ?_
  refine Ab e2 ?_
  refine Ab e1 ?_
  refine Ab e1 ?_
  refine Ab e1 ?_
  exact h
 ·rw[hs]at h e2 ⊢
  refine Ab e2 ?_
  refine Ab e1 ?_
  refine Ab e1 ?_
  refine Ab e1 ?_
  exact h
theorem ZI{Q:Au}{z:List Int}(hn:1<=n)(h7:kd<7)(hp:kd=1->mc v - Ai v≠8/\Ai v - mc v≠8)(hz:G.e48=il z)(hl:(z.length:Int)=G.size)(M:BZ G v)(e1:env 102=some (.lW 54))(e2:env 0=some (.int (sd st.side)))(e3:env 11=some (.int (Ai v)))(e4:env 61=some (.int (mc v)))(e5:env 3=some (.int (pc c kd)))
  (h:∀env',Q .next env' (B S k m G (Kp (BD st kd))++g)):ws lX (Ak lX prog n) hd (AT 15 D4) Q X env (B S k m G st++g):=by
 refine Ab e5 ?_
 refine Eb hn (gZ h7) ?_
 unfold BD at h
 refine Ap (fun e=>?_) fun e=>?_
 ·have e:((kd:Int)==1)=true:=e
  have e0:kd=1:=by have:=gG e;lia
  replace h:=e▸h
  refine Ab e1 ?_
  refine Ab e1 ?_
  refine Ab e1 ?_
  refine Ab e2 ?_
  refine Ab e3 ?_
  refine Ab e4 ?_
  refine TZ (st:=Lj st) (g:=g) hn (hp e0).1 (hp e0).2 ?_
  refine WY (st:=Lj st) (g:=g) hn ?_
  exact ZJ (st:=Lj st) (kd:=kd) hn hz hl M e1 e2 e3 e4 h
 ·have e:((kd:Int)==1)=false:=e
  replace h:=e▸h
  exact ZJ (kd:=kd) hn hz hl M e1 e2 e3 e4 h
structure Gn(a b:St):Prop where
 side:a.side=b.side
 half:a.half=b.half
 full:a.full=b.full
 hist:a.hist=b.hist
theorem Gn.trans(h:Gn a b)(k:Gn b c):Gn a c:=⟨h.side.trans k.side,h.half.trans k.half,h.full.trans k.full,h.hist.trans k.hist⟩
theorem Ti(st:St)(kd:Nat)(v:Int):Gn (st.nI kd v) st:=by
 rcases kd with _|_|_|_|_|_|_<;>exact⟨rfl,rfl,rfl,rfl⟩
theorem Tj(st:St)(c:Bool)(v:Int):Gn (st.nS c v) st:=by cases c<;>exact⟨rfl,rfl,rfl,rfl⟩
theorem IU(st:St)(kd:Nat)(v:Int)(c:Bool)(w y:Int):Gn (((st.nI kd v).nS c w).m6 y) st:=
 Gn.trans (b:=(st.nI kd v).nS c w) ⟨rfl,rfl,rfl,rfl⟩ ((Tj _ c w).trans (Ti _ kd v))
theorem BN(m:Nat)(st:St)(c:Bool)(q:Nat)(s:Int):Gn (Bu m st c q s) st:=(IU (st.setB s.toNat (pc c q)) ..).trans ⟨rfl,rfl,rfl,rfl⟩
theorem Cg(m:Nat)(st:St)(c:Bool)(q:Nat)(s:Int):Gn (BY m st c q s) st:=(IU (st.setB s.toNat 0) ..).trans ⟨rfl,rfl,rfl,rfl⟩
theorem Gf(m:Nat)(st:St)(c:Bool)(q:Nat)(s v:Int):Gn (DQ m st c q s v) st:=(IU ((st.setB s.toNat 0).setB v.toNat (pc c q)) ..).trans ⟨rfl,rfl,rfl,rfl⟩
theorem d6{Q:Au}{z:List Int}(hn:2<=n)(C:mF G st)(GS:G.l6)(hm:(m:Int)=G.size)(k1:1<=kd)(h7:kd<7)(hs:AB st.board (Ai v).toNat=pc st.side kd)(hg:AB st.board (mc v).toNat=0)(pr:Bt v=1->kd=1/\∃p:Nat,2<=p/\p<=5/\Ah v=p)
  (hp:kd=1->mc v - Ai v≠8/\Ai v - mc v≠8) (hz:G.e48=il z) (hl:(z.length:Int)=G.size) (M:BZ G v) (e1:env 102=some (.lW 54)) (e2:env 0=some (.int (sd st.side))) (e3:env 11=some (.int (Ai v))) (e4:env 61=some (.int (mc v))) (e5:env 3=some (.int (pc st.side kd))) (e6:env 13=some (.int (Bt v))) (e7:env 19=some (.int v))
  (h:∀env',Q .next env' (B S k m G (Kp (BD (BG m st kd v) kd))++g)):ws lX (Ak lX prog n) hd (AT 13 D4) Q X env (B S k m G st++g):=by
 have hb:=Ct (A4 C M.f0 M.f1)
 have pk:=gK M.f1 GS.top
 have ox:=gK M.t1 GS.top
 replace hb:=hs▸hb
 refine Ab e6 ?_
 unfold BG at h
 refine Ap (fun e=>?_) fun e=>?_
 ·have e:(Bt v==1)=true:=e
  obtain⟨rfl,p,p1,p2,p3⟩:=pr (by exact gG e)
  replace h:=e▸h
  refine Ab e1 ?_
  refine Ab e3 ?_
  refine Mc (gA (by decide) hn) (by decide) M.f0 pk M.f1 C.len hm hb ?_
  refine Ab e1 ?_
  refine Ab e2 ?_
  refine Ab e7 ?_
  refine Dj (gA (by decide) hn) ?_
  rw[p3]at h ⊢
  refine Jp (gA (by decide) hn) ?_
  refine Ab e4 ?_
  have C2:=C.take (m:=m) k1 h7 M.f0 M.f1 hs
  refine K9 (gA (by decide) hn) (by exact S9 p2) M.t0 ox M.t1 C2.len hm ?_
  refine Ab e6 ?_
  refine Cz (DP M) ?_
  refine ZI (c:=st.side) (gA (by decide) hn) h7 hp hz hl M e1 ?_ e3 e4 e5 h
  (refine((BN m _ st.side p (mc v)).side).symm▸?_;refine((Cg m st st.side 1 (Ai v)).side).symm▸?_);exact e2
 ·have e:(Bt v==1)=false:=e
  replace h:=e▸h
  refine Ab e1 ?_
  refine Ab e3 ?_
  refine Ab e4 ?_
  refine QZ (gA (by decide) hn) h7 M.f0 pk M.f1 M.t0 ox M.t1 C.len hm hb ?_
  refine Ab e6 ?_
  refine Cz (DP M) ?_
  refine ZI (c:=st.side) (gA (by decide) hn) h7 hp hz hl M e1 ?_ e3 e4 e5 h
  refine((Gf m st st.side kd (Ai v) (mc v)).side).symm▸?_;exact e2
end
theorem mF.same{st m8:St}(C:mF G st)(hb:m8.board=st.board)(hk:∀q,m8.kd q=st.kd q)(hs:∀c,m8.si c=st.si c)(h0:m8.k0=st.k0):mF G m8:=by
 refine⟨by refine hb.symm▸?_;exact C.len,by refine hb.symm▸?_;exact C.rL,fun q a b k=>?_,fun c k=>?_,h0.trans C.k0⟩
 ·rw[hb,hk];exact C.kb q a b k
 ·rw[hb,hs];exact C.sb c k
theorem JJ{G:l7}{st:St}{v:Int}{tk:Option (Bool×Nat)}(C:mF G st):mF G (Dt st v tk):=C.same rfl (fun _=>rfl) (fun c=>by cases c<;>rfl) rfl
theorem Uy{G:l7}{st:St}(C:mF G st):mF G (Lj st):=C.same rfl (fun _=>rfl) (fun c=>by cases c<;>rfl) rfl
theorem EG{G:l7}{st:St}{s:Int}(C:mF G st)(h1:1<=kd)(h7:kd<7)(s0:0<=s)(s1:s<G.size)(j:Nat):AB (BY m st c kd s).board j=if s.toNat=j then 0 else AB st.board j:=by
 rw[(OV m st c s h1 h7).board,CX (A4 C s0 s1)]
theorem EC{G:l7}{st:St}{s:Int}(C:mF G st)(h1:1<=kd)(h7:kd<7)(s0:0<=s)(s1:s<G.size)(j:Nat):AB (Bu m st c kd s).board j=if s.toNat=j then pc c kd else AB st.board j:=by
 rw[(RI m st c s h1 h7).board,CX (A4 C s0 s1)]
theorem OK{G:l7}{st:St}{x y:Int}(C:mF G st)(h1:1<=kd)(h7:kd<7)(x0:0<=x)(x1:x<G.size)(y0:0<=y)(y1:y<G.size)(j:Nat):AB (DQ m st c kd x y).board j=if y.toNat=j then pc c kd else if x.toNat=j then 0 else AB st.board j:=by
 rw[(LK m st c x y h1 h7).board,CX (by rw[jJ];exact A4 C y0 y1),CX (A4 C x0 x1)]
structure QP(G:l7)(st s:St)(v:Int):Prop where
 C:mF G s
 side:s.side=st.side
 at_:∀j,AB s.board j=if(mc v).toNat=j then 0 else AB st.board j
theorem Iu{G:l7}{st:St}{m:Nat}{v:Int}{kd:Nat}{tk:Option (Bool×Nat)}(C:mF G st)(V:Mv G st v kd tk):QP G st (BR m (Dt st v tk) (mc v) tk) v:=by
 induction tk with
 |none=>
  refine⟨JJ C,rfl,fun j=>?_⟩
  split
  ·rename_i e;refine e▸?_;exact V.dst
  ·rfl
 |some t=>
  obtain⟨c,q⟩:=t
  have hq:=V.mS c q rfl
  refine⟨Uy ((JJ C).take hq.1 hq.2 V.M.t0 V.M.t1 V.dst),(Cg m _ c q (mc v)).side,fun j=>?_⟩
  exact EG (m:=m) (JJ (v:=v) (tk:=some (c,q)) C) hq.1 hq.2 V.M.t0 V.M.t1 j
section
variable{S:List Int}{k:Int}{m:Nat}{G:l7}{st:St}{g:MH}{n:Nat}{hd:Bool}{X:As}{μ:MH}
noncomputable def d5(st:St)(kd:Nat)(tk:Option (Bool×Nat))(v:Int):An:=Ad (Ad (Ad (Ad (Ad (Ad (Ad (Ad (Ad (Ad (fun _=>none) 102 (.lW 54)) 19 (.int v)) 3 (.int (pc st.side kd))) 0 (.int (sd st.side))) 11 (.int (Ai v))) 61 (.int (mc v))) 13 (.int (Bt v))) 242 (.tup [.int (-1),.int (-1)])) 243 (.int (mc v))) 205 (.int (qY tk))
theorem fS{Q:Ae}{z:List Int}(hn:3<=n)(C:mF G st)(GS:G.l6)(hm:(m:Int)=G.size)(V:Mv G st v kd tk)(hz:G.e48=il z)(hl:(z.length:Int)=G.size)(hh:st.hist.length<1000)
  (h:Q .none (B S k m G (Ij m st kd tk v)++g)):CG n hd 246 [.lW 54,.int v] Q X (B S k m G st++g):=by
 refine stp hn fun n hn=>?_
 have M:=V.M
 have hb:=Ct (A4 C M.t0 M.t1)
 replace hb:=V.dst▸hb
 have ox:=gK M.t1 GS.top
 have ne:(mc v).toNat≠(Ai v).toNat:=fun e=>V.ne (by have:=M.f0;have:=M.t0;lia)
 have D:=Iu (m:=m) C V
 have fin:ws lX (Ak lX prog n) hd (AT 13 D4) (fun fl _ μ'=>match fl with|.ret v=>Q v μ'|.next=>Q .none μ'|.cont=>False) X (d5 st kd tk v) (B S k m G (BR m (Dt st v tk) (mc v) tk)++g):=
  d6 (l0 hn rfl) D.C GS hm V.k1 V.k7 (by(rewrite[D.at_];rewrite[iH ne];refine D.side.symm▸?_);exact V.src) (by(rewrite[D.at_];refine(iI rfl).symm▸?_;rfl)) V.oi V.qk hz hl M rfl (by refine D.side.symm▸?_;rfl) rfl rfl (by refine D.side.symm▸?_;rfl) rfl rfl fun _=>h
 refine WR (l0 hn rfl) V C.len ?_
 refine Et (l0 hn rfl) ?_
 refine KL (l0 hn rfl) ?_
 refine EY (l0 hn rfl) ?_
 refine Cz (DP M) ?_
 refine La (l0 hn rfl) M ?_
 refine B0 M.t0 hb ?_
 refine Aj (gy (iu hh (by decide))) ?_
 refine Sj (st:={st with hist:=st.hist++[.tup [.int v,.int (qY tk),.int 0,.int (-1),.int st.half,.int st.key]]}) (g:=g) (l0 hn rfl) ?_
 induction tk with
 |none=>
  exact fin
 |some t=>
  obtain⟨c,q⟩:=t
  have hq:=V.mS c q rfl
  refine DT (bne_iff_ne.mpr (Em c hq.1)) ?_
  refine Mc (st:=Dt st v (some (c,q))) (g:=g) (l0 hn rfl) hq.2 M.t0 ox M.t1 C.len hm hb ?_
  exact fin
noncomputable def Nm(c:Bool)(f:Int):Int:=match c with|true=>f - 1|false=>f
noncomputable def dw(v:Int)(tk:Option (Bool×Nat))(hf ky:Int):V:=.tup [.int v,.int (qY tk),.int 0,.int (-1),.int hf,.int ky]
noncomputable def Mw(m:Nat)(a:St)(kd:Nat)(v:Int):St:=match Bt v==1 with
 |true=>Bu m (BY m a a.side (Ah v).toNat (mc v)) a.side 1 (Ai v)
 |false=>DQ m a a.side kd (mc v) (Ai v)
noncomputable def Qq(m:Nat)(b:St)(t:Int):Option (Bool×Nat)->St
 |none=>b
 |some (e,q)=>Bu m b e q t
noncomputable def MG(d:St)(c:Bool)(hf ky:Int):St:={d with full:=Nm c d.full,half:=hf,key:=ky}
noncomputable def Mb(m:Nat)(a:St)(hf ky:Int)(kd:Nat)(tk:Option (Bool×Nat))(v:Int):St:=MG (Qq m (Mw m a kd v) (mc v) tk) a.side hf ky
structure dH(G:l7)(a:St)(kd:Nat)(v:Int):Prop where
 C:mF G a
 src:AB a.board (Ai v).toNat=0
 dst:AB a.board (mc v).toNat=pc a.side (match Bt v==1 with|true=>(Ah v).toNat|false=>kd)
theorem MA(l:List V)(x:V):Eh (l++[x])=some (l,x):=by
 induction l with
 |nil=>rfl
 |cons a l ih=>induction l using List.casesOn with
  |nil=>rfl
  |cons b l=>show(Eh ((b :: l)++[x])).map _=_;refine ih.symm▸?_;rfl
end
theorem Wu{S:List Int}{k:Int}{m:Nat}{G:l7}{st:St}{g:MH}{n:Nat}{hd:Bool}{X:As}{Q:Au}{env:An}{c:Bool}{hf ky:Int}(e1:env 102=some (.lW 54))(e2:env 0=some (.int (sd c)))(e3:env 158=some (.int 0))(e4:env 196=some (.int (-1)))(e5:env 241=some (.int hf))(e6:env 104=some (.int ky))
  (h:∀env',Q .next env' (B S k m G (MG st c hf ky)++g)):ws lX (Ak lX prog n) hd (AT 10 EV) Q X env (B S k m G st++g):=by
 have h:=h env
 refine Ab e2 ?_
 cases c
 ·conv=>whnf
  refine Ab e3 ?_
  refine Ab e1 ?_
  refine Ab e4 ?_
  refine Ab e1 ?_
  refine Ab e5 ?_
  refine Ab e1 ?_
  refine Ab e6 ?_
  refine Ab e1 ?_
  exact h
 ·conv=>whnf
  refine Ab e1 ?_
  refine Ab e3 ?_
  refine Ab e1 ?_
  refine Ab e4 ?_
  refine Ab e1 ?_
  refine Ab e5 ?_
  refine Ab e1 ?_
  refine Ab e6 ?_
  refine Ab e1 ?_
  exact h
theorem gq(c:Bool):1 - sd (!c)=sd c:=by cases c<;>rfl
section
variable{S:List Int}{k:Int}{m:Nat}{G:l7}{st:St}{g:MH}{n:Nat}{hd:Bool}{X:As}{μ:MH}
theorem Wv{Q:Au}(hn:3<=n)(C:mF G st)(GS:G.l6)(hm:(m:Int)=G.size)(M:BZ G v)(mS:∀c q,tk=some (c,q)->1<=q/\q<7)(e0:env 205=some (.int (qY tk)))(e1:env 102=some (.lW 54))(e2:env 0=some (.int (sd c)))(e3:env 158=some (.int 0))(e4:env 196=some (.int (-1)))(e5:env 241=some (.int hf))(e6:env 104=some (.int ky))(e7:env 19=some (.int v))
  (h:∀env',Q .next env' (B S k m G (MG (Qq m st (mc v) tk) c hf ky)++g)):ws lX (Ak lX prog n) hd (AT 9 EV) Q X env (B S k m G st++g):=by
 refine Ab e0 ?_
 induction tk with
 |none=>
  conv=>whnf
  exact Wu e1 e2 e3 e4 e5 e6 h
 |some t=>
  obtain⟨d,q⟩:=t
  have hq:=mS d q rfl
  refine DT (bne_iff_ne.mpr (Em d hq.1)) ?_
  refine Ab e1 ?_
  refine Ab e0 ?_
  refine Ab e1 ?_
  refine Ab e7 ?_
  refine La (gA (by decide) hn) M ?_
  refine K9 (gA (by decide) hn) hq.2 M.t0 (gK M.t1 GS.top) M.t1 C.len hm ?_
  exact Wu e1 e2 e3 e4 e5 e6 h
noncomputable def Z7(a:St)(v hf ky:Int)(tk:Option (Bool×Nat)):An:=Ad (Ad (Ad (Ad (Ad (Ad (Ad (Ad (Ad (Ad (Ad (fun _=>none) 102 (.lW 54)) 19 (.int v)) 205 (.int (qY tk))) 158 (.int 0)) 196 (.int (-1))) 241 (.int hf)) 104 (.int ky)) 0 (.int (sd a.side))) 11 (.int (Ai v))) 61 (.int (mc v))) 13 (.int (Bt v))
theorem aM{Q:Ae}(hn:4<=n)(K:dH G a kd v)(GS:G.l6)(hm:(m:Int)=G.size)(M:BZ G v)(mS:∀c q,tk=some (c,q)->1<=q/\q<7)(k1:1<=kd)(k7:kd<7)(pr:Bt v=1->∃p:Nat,2<=p/\p<=5/\Ah v=p)
  (h:Q .none (B S k m G (Mb m a hf ky kd tk v)++g)):CG n hd 247 [.lW 54] Q X (B S k m G {a with side:=!a.side,hist:=a.hist++[dw v tk hf ky]}++g):=by
 cases n with
 |zero=>exact absurd hn (by decide)
 |succ n=>
  have C:=K.C
  have pk:=gK M.f1 GS.top
  have ox:=gK M.t1 GS.top
  have q1:((((a.hist++[dw v tk hf ky]).length:Nat):Int)==0)=false:=by rw[gx,gP];show((_+1:Nat):Int)≠0;exact iC (cr (gO _))
  have hb:=Ct (A4 C M.t0 M.t1)
  rw[K.dst]at hb
  unfold Mb Mw at h
  refine Cz q1 ?_
  refine Ab (MA a.hist _) ?_
  conv=>whnf
  rw[gq]
  refine Et (l0 hn rfl) ?_
  refine KL (l0 hn rfl) ?_
  refine EY (l0 hn rfl) ?_
  refine Ap (fun e=>?_) fun e=>?_
  ·have e:(Bt v==1)=true:=e
   obtain⟨p,p1,p2,p3⟩:=pr (by simpa using e)
   rw[e]at h hb
   rw[p3]at h hb
   have K2:AB a.board (mc v).toNat=pc a.side p:=by have z:=K.dst;rw[e,p3]at z;exact z
   have S2:AB (BY m a a.side p (mc v)).board (Ai v).toNat=0:=by
    rw[EG C (by exact Qi p1) (by exact S9 p2) M.t0 M.t1]
    split
    ·rfl
    ·exact K.src
   refine Mc (st:=a) (g:=g) (kd:=p) (l0 hn rfl) (by exact S9 p2) M.t0 ox M.t1 C.len hm hb ?_
   have C2:=C.take (m:=m) (by exact Qi p1) (by exact S9 p2) M.t0 M.t1 K2
   refine Jp (kd:=1) (l0 hn rfl) ?_
   refine K9 (c:=a.side) (kd:=1) (l0 hn rfl) (by decide) M.f0 pk M.f1 C2.len hm ?_
   refine Cz (DP M) ?_
   have C3:=C2.put (m:=m) (c:=a.side) (kd:=1) (by decide) (by decide) M.f0 M.f1 S2
   exact Wv (env:=Z7 a v hf ky tk) (c:=a.side) (l0 hn rfl) C3 GS hm M mS rfl rfl rfl rfl rfl rfl rfl rfl fun _=>h
  ·have e:(Bt v==1)=false:=e
   rw[e]at h hb
   have K2:=K.dst
   rw[e]at K2
   refine QZ (st:=a) (g:=g) (kd:=kd) (l0 hn rfl) k7 M.t0 ox M.t1 M.f0 pk M.f1 C.len hm hb ?_
   refine Cz (DP M) ?_
   have C3:=C.shift (m:=m) k1 k7 M.t0 M.t1 M.f0 M.f1 K2 K.src
   exact Wv (env:=Z7 a v hf ky tk) (c:=a.side) (l0 hn rfl) C3 GS hm M mS rfl rfl rfl rfl rfl rfl rfl rfl fun _=>h
end
theorem Wb{a b:List Int}(hl:a.length=b.length)(h:∀j,AB a j=AB b j):a=b:=by
 refine List.ext_getElem hl fun i h1 h2=>?_
 have z:=h i
 unfold AB at z
 rw[gU,gU,gV h1,gV h2]at z
 exact z
theorem St.rm{a b:St}(h1:a.board=b.board)(h2:∀q,q<7->a.kd q=b.kd q)(h3:∀c,a.si c=b.si c)(h4:a.side=b.side)(h5:a.half=b.half)(h6:a.full=b.full)(h7:a.key=b.key)(h8:a.hist=b.hist):a=b:=by
 have k0:=h2 0 (by decide)
 have k1:=h2 1 (by decide)
 have k2:=h2 2 (by decide)
 have k3:=h2 3 (by decide)
 have k4:=h2 4 (by decide)
 have k5:=h2 5 (by decide)
 have k6:=h2 6 (by decide)
 have s0:=h3 false
 have s1:=h3 true
 cases a;cases b
 simp only[St.kd,St.si]at *
 simp_all
noncomputable def HW(kd:Nat)(v:Int):Nat:=match Bt v==1 with|true=>(Ah v).toNat|false=>kd
structure gr(G:l7)(st s:St)(kd:Nat)(v:Int):Prop where
 C:mF G s
 side:s.side=st.side
 full:s.full=st.full
 at_:∀j,AB s.board j=if(mc v).toNat=j then pc st.side (HW kd v)else if(Ai v).toNat=j then 0 else AB st.board j
theorem P4{G:l7}{st:St}{v:Int}{kd:Nat}{tk:Option (Bool×Nat)}(V:Mv G st v kd tk):(mc v).toNat≠(Ai v).toNat:=fun e=>V.ne (by have:=V.M.f0;have:=V.M.t0;lia)
theorem Gh{st:St}:(BR m st t tk).side=st.side/\(BR m st t tk).full=st.full/\(BR m st t tk).hist=st.hist:=by
 induction tk with
 |none=>exact⟨rfl,rfl,rfl⟩
 |some p=>obtain⟨c,q⟩:=p;exact⟨(Cg m st c q t).side,(Cg m st c q t).full,(Cg m st c q t).hist⟩
theorem Mx{G:l7}{st:St}{v:Int}{kd:Nat}{tk:Option (Bool×Nat)}(V:Mv G st v kd tk):1<=HW kd v/\HW kd v<7:=by
 unfold HW
 split
 ·rename_i e
  obtain⟨_,p,h1,h2,h3⟩:=V.oi (by exact gG e)
  refine h3.symm▸?_;show 1<=p/\p<7;exact⟨Qi h1,S9 h2⟩
 ·exact⟨V.k1,V.k7⟩
theorem Vb{st:St}(V:Mv G st v kd tk)(D:QP G st s v):mF G (BG m s kd v)/\Gn (BG m s kd v) s/\
  ∀j,AB (BG m s kd v).board j=if(mc v).toNat=j then pc st.side (HW kd v)else if(Ai v).toNat=j then 0 else AB st.board j:=by
 have ne:=P4 V
 have M:=V.M
 have hs:AB s.board (Ai v).toNat=pc s.side kd:=by rw[D.at_,iH ne,D.side];exact V.src
 have ht:AB s.board (mc v).toNat=0:=by rw[D.at_,iI rfl]
 have gl:=Mx V
 unfold BG
 unfold HW at gl ⊢
 cases e:Bt v==1 with
 |true=>
  rw[e]at gl
  obtain⟨rfl,_⟩:=V.oi (by exact gG e)
  have C2:=D.C.take (m:=m) V.k1 V.k7 M.f0 M.f1 hs
  have t2:AB (BY m s s.side 1 (Ai v)).board (mc v).toNat=0:=by
   rw[EG D.C V.k1 V.k7 M.f0 M.f1,iH (iJ ne)];exact ht
  refine⟨C2.put gl.1 gl.2 M.t0 M.t1 t2,(BN _ _ _ _ _).trans (Cg _ _ _ _ _),fun j=>?_⟩
  rw[EC C2 gl.1 gl.2 M.t0 M.t1,EG D.C V.k1 V.k7 M.f0 M.f1,D.at_,D.side]
  split
  ·rfl
  ·rfl
 |false=>
  refine⟨D.C.shift V.k1 V.k7 M.f0 M.f1 M.t0 M.t1 hs ht,Gf _ _ _ _ _ _,fun j=>?_⟩
  rw[OK D.C V.k1 V.k7 M.f0 M.f1 M.t0 M.t1,D.at_,D.side]
  split
  ·rfl
  ·rfl
structure QO(G:l7)(st s:St)(kd:Nat)(tk:Option (Bool×Nat))(v:Int):Prop where
 C:mF G s
 side:s.side=!st.side
 full:s.full=match st.side with|true=>st.full+1|false=>st.full
 hist:s.hist=st.hist++[dw v tk st.half st.key]
 at_:∀j,AB s.board j=if(mc v).toNat=j then pc st.side (HW kd v)else if(Ai v).toNat=j then 0 else AB st.board j
theorem after{G:l7}{st:St}{m:Nat}{v:Int}{kd:Nat}{tk:Option (Bool×Nat)}(C:mF G st)(V:Mv G st v kd tk):QO G st (Ij m st kd tk v) kd tk v:=by
 have C2:=(Vb (m:=m) V (Iu (m:=m) C V)).1;have R:=(Vb (m:=m) V (Iu (m:=m) C V)).2.1;have a:=(Vb (m:=m) V (Iu (m:=m) C V)).2.2
 have t1:=(Gh (m:=m) (st:=Dt st v tk) (t:=mc v) (tk:=tk)).1;have t2:=(Gh (m:=m) (st:=Dt st v tk) (t:=mc v) (tk:=tk)).2.1;have t3:=(Gh (m:=m) (st:=Dt st v tk) (t:=mc v) (tk:=tk)).2.2
 have P:∀s:St,(BD s kd).board=s.board/\(∀q,(BD s kd).kd q=s.kd q)/\(∀c,(BD s kd).si c=s.si c)/\(BD s kd).k0=s.k0/\(BD s kd).side=s.side/\(BD s kd).full=s.full/\(BD s kd).hist=s.hist:=fun s=>by
  unfold BD
  split
  ·exact⟨rfl,fun _=>rfl,fun c=>(by induction c using Bool.casesOn<;>rfl),rfl,rfl,rfl,rfl⟩
  ·exact⟨rfl,fun _=>rfl,fun c=>rfl,rfl,rfl,rfl,rfl⟩
 have p1:=(P (BG m (BR m (Dt st v tk) (mc v) tk) kd v)).1;have p2:=(P (BG m (BR m (Dt st v tk) (mc v) tk) kd v)).2.1;have p3:=(P (BG m (BR m (Dt st v tk) (mc v) tk) kd v)).2.2.1;have p4:=(P (BG m (BR m (Dt st v tk) (mc v) tk) kd v)).2.2.2.1;have p5:=(P (BG m (BR m (Dt st v tk) (mc v) tk) kd v)).2.2.2.2.1;have p6:=(P (BG m (BR m (Dt st v tk) (mc v) tk) kd v)).2.2.2.2.2.1;have p7:=(P (BG m (BR m (Dt st v tk) (mc v) tk) kd v)).2.2.2.2.2.2
 refine⟨(C2.same p1 p2 p3 p4).same rfl (fun _=>rfl) (fun c=>by induction c using Bool.casesOn<;>rfl) rfl,?_,?_,?_,fun j=>?_⟩
 ·show(!(BD _ kd).side)=_
  (refine p5.symm▸?_;refine R.side.symm▸?_;refine t1.symm▸?_);rfl
 ·show(match(BD _ kd).side with|true=>(BD _ kd).full+1|false=>(BD _ kd).full)=_
  (refine p5.symm▸?_;refine p6.symm▸?_;refine R.side.symm▸?_;refine R.full.symm▸?_;refine t1.symm▸?_;refine t2.symm▸?_);rfl
 ·show(BD _ kd).hist=_
  (refine p7.symm▸?_;refine R.hist.symm▸?_;refine t3.symm▸?_);rfl
 ·show AB (BD _ kd).board j=_
  refine p1.symm▸?_;exact a j
noncomputable def DE(s st:St):St:={s with side:=st.side,hist:=st.hist}
theorem Tt{s st:St}(h1:s.side=!st.side)(h2:s.hist=st.hist++[x]):s={DE s st with side:=!(DE s st).side,hist:=(DE s st).hist++[x]}:=by
 show s={s with side:=!st.side,hist:=st.hist++[x]}
 (refine h1▸?_;refine h2▸?_;rfl)
theorem Tv{G:l7}{st s:St}{v:Int}{kd:Nat}{tk:Option (Bool×Nat)}(V:Mv G st v kd tk)(A:QO G st s kd tk v):dH G (DE s st) kd v:=by
 refine⟨A.C.same rfl (fun _=>rfl) (fun c=>by induction c<;>rfl) rfl,?_,?_⟩
 ·show AB s.board _=0
  rw[A.at_,iH (P4 V),iI rfl]
 ·show AB s.board _=_
  rw[A.at_,iI rfl];rfl
theorem fF{st:St}(C:mF G st)(V:Mv G st v kd tk)(A:QO G st s kd tk v):Mb m (DE s st) st.half st.key kd tk v=st:=by
 have K:=Tv V A
 have ne:=P4 V
 have M:=V.M
 have gl:=Mx V
 have hb:∃b,b=Mw m (DE s st) kd v/\mF G b/\Gn b (DE s st)/\∀j,AB b.board j=if(Ai v).toNat=j then pc st.side kd else if(mc v).toNat=j then 0 else AB s.board j:=by
  have dst:=K.dst
  unfold HW at gl
  unfold Mw
  cases e:Bt v==1 with
  |true=>
   (replace gl:=e▸gl;replace dst:=e▸dst)
   obtain⟨rfl,_⟩:=V.oi (by exact gG e)
   have C2:mF G (BY m (DE s st) st.side (Ah v).toNat (mc v)):=K.C.take (m:=m) gl.1 gl.2 M.t0 M.t1 dst
   have t2:AB (BY m (DE s st) st.side (Ah v).toNat (mc v)).board (Ai v).toNat=0:=by
    have z:=EG (m:=m) (c:=st.side) K.C gl.1 gl.2 M.t0 M.t1 (Ai v).toNat
    replace z:=(iH ne)▸z
    exact z.trans K.src
   refine⟨_,rfl,C2.put V.k1 V.k7 M.f0 M.f1 t2,(BN _ _ _ _ _).trans (Cg _ _ _ _ _),fun j=>?_⟩
   show AB (Bu m (BY m (DE s st) st.side (Ah v).toNat (mc v)) st.side 1 (Ai v)).board j=_
   rw[EC C2 V.k1 V.k7 M.f0 M.f1]
   split
   ·rfl
   ·exact EG K.C gl.1 gl.2 M.t0 M.t1 j
  |false=>
   replace dst:=e▸dst
   refine⟨_,rfl,K.C.shift V.k1 V.k7 M.t0 M.t1 M.f0 M.f1 dst K.src,Gf _ _ _ _ _ _,fun j=>?_⟩
   exact OK K.C V.k1 V.k7 M.t0 M.t1 M.f0 M.f1 j
 obtain⟨b,eb,Cb,Rb,ab⟩:=hb
 have hd:∃d,d=Qq m b (mc v) tk/\mF G d/\Gn d b/\∀j,AB d.board j=AB st.board j:=by
  have fin:∀j,(Ai v).toNat≠j->(mc v).toNat≠j->AB s.board j=AB st.board j:=fun j h1 h2=>by(rewrite[A.at_];rewrite[iH h2];refine(iH h1).symm▸?_;rfl)
  induction tk with
  |none=>
   refine⟨b,rfl,Cb,⟨rfl,rfl,rfl,rfl⟩,fun j=>?_⟩
   rw[ab]
   split
   ·rename_i e;refine e▸?_;exact V.src.symm
   ·split
    ·rename_i _ e;refine e▸?_;exact V.dst.symm
    ·rename_i h1 h2;exact fin j h1 h2
  |some t=>
   obtain⟨e,q⟩:=t
   have hq:=V.mS e q rfl
   have t2:AB b.board (mc v).toNat=0:=by(rewrite[ab];rewrite[iH (iJ ne)];refine(iI rfl).symm▸?_;rfl)
   refine⟨_,rfl,Cb.put hq.1 hq.2 M.t0 M.t1 t2,BN _ _ _ _ _,fun j=>?_⟩
   show AB (Bu m b e q (mc v)).board j=_
   rw[EC Cb hq.1 hq.2 M.t0 M.t1,ab]
   split
   ·rename_i z;refine z▸?_;exact V.dst.symm
   ·rename_i h1
    split
    ·rename_i z;refine z▸?_;exact V.src.symm
    ·rename_i h2;exact fin j h2 h1
 obtain⟨d,ed,Cd,Rd,ad⟩:=hd
 have eB:d.board=st.board:=Wb (by have:=Cd.len;have:=C.len;lia) ad
 have u1:=(Cd.uniq C eB).1;have u2:=(Cd.uniq C eB).2
 have e:Mb m (DE s st) st.half st.key kd tk v=MG d st.side st.half st.key:=by
  (refine ed.symm▸?_;refine eb.symm▸?_);rfl
 refine e.symm▸?_
 refine St.rm eB u1 u2 ?_ rfl ?_ rfl ?_
 ·exact(Rd.trans Rb).side
 ·show Nm st.side d.full=st.full
  refine((Rd.trans Rb).full).symm▸?_
  show Nm st.side s.full=st.full
  refine A.full.symm▸?_;unfold Nm
  cases st.side
  ·rfl
  ·show st.full+1 - 1=st.full;exact hY (ov (mn _) (.sub (mj 0 1) (.num 1)) md rfl) (ov (mn _) md (.sub (mj 0 1) (.num 1)) rfl)
 ·exact(Rd.trans Rb).hist
structure Ch(G:l7)(m:Nat):Prop where
 S:G.l6
 hr:∀a b,Bd G (AW G a b)
 rk:G.ranks<1000
 hm:(m:Int)=G.size
 e48:∃z:List Int,G.e48=il z/\(z.length:Int)=G.size
structure HM(G:l7)(s:St):Prop where
 C:mF G s
 q0:0<=Ax s s.side
 q1:Ax s s.side<G.size
 mv:∀v∈LV G s,BZ G v
 mvE:∀v∈oA G s,BZ G v
theorem HM.ps(R:HM G s):∀v∈Cp G s,BZ G v:=by
 unfold Cp
 split
 ·exact R.mvE
 ·exact R.mv
theorem B5(G:l7)(s:St):(Cp G s).length<80000:=by
 have a:=FD (G:=G) (st:=s) G.full
 have b:=FD (G:=G) (st:=s) (pe G s (Bc G s s.side))
 have c:=Ms (G:=G) (st:=s) (EB G s) [2,3,4,5,6]
 have d:=Ms (G:=G) (st:=s) (pe G s (Bc G s s.side)) [2,3,4,5]
 have e:=Gb G s 6 (EB G s)
 have l5:[2,3,4,5,6].length=5:=rfl
 have l4:[2,3,4,5].length=4:=rfl
 unfold Cp oA LV
 split
 ·refine List.length_append.symm▸?_
  split
  ·refine List.length_append.symm▸?_;lia
  ·show 0+_<_;exact mO (mn _) (.add (.add (.num 0) mi) (.num 1)) (.num 80000) mi (.num 400) rfl e
 ·refine List.length_append.symm▸?_;lia
noncomputable def V5(b:Bool):List Nat:=match b with|true=>[43]|false=>[35]
noncomputable def JV(G:l7)(s:St):List Nat:=match Bo G s s.side with
 |true=>V5 ((oA G s).any (Bs G s (C9 G s s.side)))
 |false=>[]
section
variable{S:List Int}{k:Int}{m:Nat}{G:l7}{st:St}{g:MH}{n:Nat}{hd:Bool}{X:As}{μ:MH}
theorem It{Q:Ae}(hn:4<=n)(C:mF G st)(V:Mv G st v kd tk)(A:QO G st s kd tk v)(GC:Ch G m)
  (h:Q .none (B S k m G st++g)):CG n hd 247 [.lW 54] Q X (B S k m G s++g):=by
 rw[Tt A.side A.hist]
 refine aM hn (Tv V A) GC.S GC.hm V.M V.mS V.k1 V.k7 (fun e=>(V.oi e).2) ?_
 rw[fF C V A];exact h
theorem ZF{Q:Ae}(hn:3<=n)(C:mF G st)(V:Mv G st v kd tk)(GC:Ch G m)(hh:st.hist.length<1000)
  (h:Q .none (B S k m G (Ij m st kd tk v)++g)):CG n hd 246 [.lW 54,.int v] Q X (B S k m G st++g):=by
 obtain⟨z,z1,z2⟩:=GC.e48
 exact fS hn C GC.S GC.hm V z1 z2 hh h
theorem aL{Q:Ae}(hn:11<=n)(C:mF G st)(V:Mv G st v kd tk)(GC:Ch G m)(hh:st.hist.length<1000)(R:HM G (Ij m st kd tk v))
  (h:∀e,Q (.str (JV G (Ij m st kd tk v))) (B S k m G st++(g++e))):CG n hd 253 [.lW 54,.int v] Q X (B S k m G st++g):=by
 refine stp hn fun n hn=>?_
 have A:=after (m:=m) C V
 refine ZF (l0 hn rfl) C V GC hh ?_
 refine Ir (l0 hn rfl) GC.S R.C.low R.q0 R.q1 ?_
 unfold JV at h
 revert R A h
 generalize Ij m st kd tk v=s
 intro R h A
 refine Ap (fun e=>?_) fun e=>?_
 ·rw[e]at h
  refine dU (l0 hn rfl) GC.S R.C.low R.q0 R.q1 GC.hr R.mvE e ?_
  intro e'
  revert h
  cases(oA G s).any (Bs G s (C9 G s s.side))
  all_goals
   intro h
   refine It (l0 hn rfl) C V A GC ?_
   exact h e'
 ·replace h:=e▸h
  refine It (l0 hn rfl) C V A GC ?_
  have h:=h []
  rw[gD]at h
  exact h
end
noncomputable def oa:List Nat:=[97,98,99,100,101,102,103,104]
noncomputable def nW:List Nat:=[49,50,51,52,53,54,55,56]
abbrev V9(R f r:Int):Prop:=f<0\/4<=f\/r<0\/R<=r
noncomputable def Nf(R f r:Int):Int:=if V9 R f r then -1 else r*4+f
noncomputable def BJ(R:Int):List Nat->Int
 |[a,b]=>Nf R (AE a oa 0) (AE b nW 0)
 |_=> -1
noncomputable def qW:Nat->List Nat
 |2=>[110]|3=>[98]|4=>[114]|_=>[113]
noncomputable def M4(e:Nat):List Nat->Int->Int
 |[],p=>p
 |kd :: r,p=>M4 e r (match qW kd==[e]with|true=>kd|false=>p)
noncomputable def pA(e:Nat):Int:=if e=110 then 2 else if e=98 then 3 else if e=114 then 4 else if e=113 then 5 else 0
noncomputable def Ii(o g p:Int):Option (Int×Int×Int):=if o<0\/g<0 then none else some (o,g,p)
noncomputable def KV(R:Int):List Nat->Option (Int×Int×Int)
 |[a,b,c,d]=>Ii (BJ R [a,b]) (BJ R [c,d]) 0
 |[a,b,c,d,e]=>if pA e=0 then none else Ii (BJ R [a,b]) (BJ R [c,d]) (pA e)
 |_=>none
noncomputable def Du(q:Int×Int×Int)(v:Int):Bool:=Ai v==q.1&&(mc v==q.2.1&&Ah v==q.2.2)
noncomputable def exc(hd:Bool)(c:Nat):Nat:=match hd with|true=>c+10|false=>c
def FK{α:Type}(f:α->V)(Q:Ae)(X:As)(c:Nat)(o:Option α)(μ:MH):Prop:=match o with
 |some a=>Q (f a) μ
 |none=>X c μ
noncomputable def QH(q:Int×Int×Int):V:=.tup [.int q.1,.int q.2.1,.int q.2.2]
theorem GV(h:V9 R f r):Nf R f r = -1:=iI h
section
variable{S:List Int}{k:Int}{m:Nat}{G:l7}{st:St}{g:MH}{n:Nat}{hd:Bool}{Q:Ae}{X:As}{μ:MH}
theorem Jr(hn:1<=n)(hR:R<1000)(h:Q (.int (BJ R t)) μ):CG n hd 227 [.int 4,.int R,.str t] Q X μ:=by
 refine stp hn fun n hn=>?_
 match t,h with
 |[],h=>exact h
 |[a],h=>exact h
 |a :: b :: c :: r,h=>exact h
 |[a,b],h=>
  have h:Q (.int (Nf R (AE a oa 0) (AE b nW 0))) μ:=h
  refine Af rfl ?_
  refine Af rfl ?_
  unfold oa nW at h
  refine Ap (fun e=>?_) fun e=>?_
  ·replace h:=(GV (.inl (gG e)))▸h;exact h
  ·conv=>whnf
   refine Ap (fun e2=>?_) fun e2=>?_
   ·replace h:=(GV (.inr (.inl (gG e2))))▸h;exact h
   ·conv=>whnf
    refine Ap (fun e3=>?_) fun e3=>?_
    ·replace h:=(GV (.inr (.inr (.inl (gG e3)))))▸h;exact h
    ·conv=>whnf
     refine Ap (fun e4=>?_) fun e4=>?_
     ·replace h:=(GV (.inr (.inr (.inr (gG e4)))))▸h;exact h
     ·have e1:=ig e
      have e2:=ig e2
      have e3:=ig e3
      have e4:=ig e4
      have z:¬V9 R (AE a [97,98,99,100,101,102,103,104] 0) (AE b [49,50,51,52,53,54,55,56] 0):=fun z=>by
       rcases z with z|z|z|z
       ·exact e1 z
       ·exact e2 z
       ·exact e3 z
       ·exact e4 z
      replace h:=(show Nf R (AE a [97,98,99,100,101,102,103,104] 0) (AE b [49,50,51,52,53,54,55,56] 0)=AE b [49,50,51,52,53,54,55,56] 0*4+AE a [97,98,99,100,101,102,103,104] 0 from iH z)▸h
      refine Aj (D0 (by exact mI (mn _) (.add (.neg (.num 1000)) (.num 1)) md (.num 0) md rfl (Int.not_lt.mp e3)) (by exact qp (mT _ _) (mj 1 1) (.num 1000) (mj 0 1) (.num 1000) (mj 1 1) md rfl hR (Int.not_le.mp e4))) ?_
      exact h
theorem VI(hn:1<=n)(h2:2<=kd)(h6:kd<6)(h:Q (.str (qW kd)) μ):CG n hd 228 [.int kd] Q X μ:=by
 refine stp hn fun n hn=>?_
 match kd,h2,h6 with
 |2,_,_=>exact h
 |3,_,_=>exact h
 |4,_,_=>exact h
 |5,_,_=>exact h
theorem Mi(h:o<0\/q<0):Ii o q p=none:=iI h
theorem T8(h1:¬o<0)(h2:¬q<0):Ii o q p=some (o,q,p):=iH fun z=>z.elim h1 h2
theorem Yy(e:Nat):pA e=M4 e [2,3,4,5] 0:=by
 unfold pA
 by_cases h1:e=110
 ·subst h1;rfl
 ·by_cases h2:e=98
  ·subst h2;rfl
  ·by_cases h3:e=114
   ·subst h3;rfl
   ·by_cases h4:e=113
    ·subst h4;rfl
    ·rw[iH h1,iH h2,iH h3,iH h4]
     have q:∀x,e≠x->([x]==[e])=false:=fun x z=>by rw[gP];intro w;cases w;exact z rfl
     unfold M4 M4 M4 M4 M4
     (refine(show(qW 2==[e])=false from q 110 h1).symm▸?_;refine(show(qW 3==[e])=false from q 98 h2).symm▸?_;refine(show(qW 4==[e])=false from q 114 h3).symm▸?_;refine(show(qW 5==[e])=false from q 113 h4).symm▸?_;rfl)
noncomputable def gk:MS:=fb (mR 0 (ft (mR 5 FO)))
theorem VH{Q:Au}{e:Nat}(hn:1<=n)(hi:μ[i]?=some (.list XS))(L:List Nat):∀(_:∀kd∈L,2<=kd/\kd<6) (env:An) (p:Int),env 224=some (.str [a,b,c,d,e])->env 14=some (.int p)->
  (∀env',env' 14=some (.int (M4 e L p))->env' 224=env 224->env' 11=env 11->env' 61=env 61->Q .next env' μ)->
  Bz (some (i,XS)) (fun v K env' μ'=>opt (AC [1] true v env') fun e=>ws lX (Ak lX prog n) hd gk K X e μ') (L.map fun(kd:Nat)=>.int kd) Q env μ:=by
 induction L with
 |nil=>intro _ env p a1 a2 h;exact⟨hi,h env a2 rfl rfl rfl⟩
 |cons kd L ih=>
  intro hL env p a1 a2 h
  have hk:=hL kd gJ
  have oM:∀kd∈L,2<=kd/\kd<6:=fun s hs=>hL s (gz _ hs)
  refine⟨hi,?_⟩
  refine VI hn hk.1 hk.2 ?_
  refine Ab a1 ?_
  refine Af rfl ?_
  unfold M4 at h
  refine Ap (fun e3=>?_) fun e3=>?_
  ·have e3:(qW kd==[e])=true:=e3
   rw[e3]at h
   exact ih oM _ _ a1 rfl h
  ·have e3:(qW kd==[e])=false:=e3
   rw[e3]at h
   exact ih oM _ _ a1 a2 h
@[elab_as_elim] theorem Rt{α:Type}{P:List α->Prop}(t:List α)(h4:∀a b c d,P [a,b,c,d])(h5:∀a b c d e,P [a,b,c,d,e])(o:∀t,t.length≠4->t.length≠5->P t):P t:=by
 rcases t with _|⟨a,_|⟨b,_|⟨c,_|⟨d,_|⟨e,_|⟨f,r⟩⟩⟩⟩⟩⟩
 ·exact o _ (fun h=>nomatch h) (fun h=>nomatch h)
 ·exact o _ (fun h=>nomatch h) (fun h=>nomatch h)
 ·exact o _ (fun h=>nomatch h) (fun h=>nomatch h)
 ·exact o _ (fun h=>nomatch h) (fun h=>nomatch h)
 ·exact h4 a b c d
 ·exact h5 a b c d e
 ·exact o _ (fun h=>nomatch h) (fun h=>nomatch h)
theorem LE{t:List Nat}(h4:t.length≠4)(h5:t.length≠5):KV R t=none:=by
 rcases t with _|⟨a,_|⟨b,_|⟨c,_|⟨d,_|⟨e,_|⟨f,r⟩⟩⟩⟩⟩⟩<;>first|rfl|exact absurd rfl h4|exact absurd rfl h5
theorem aJ(hn:2<=n)(hR:R<1000)(h:∀e,FK QH Q X (exc hd 1) (KV R t) (B S k m G st++(g++e))):CG n hd 229 [.int 4,.int R,.str t] Q X (B S k m G st++g):=by
 refine stp hn fun n hn=>?_
 revert h
 refine Rt t (fun a b c d h=>?_) (fun a b c d e h=>?_) fun t s4 s5 h=>?_
 rotate_left 2
 ·have h:=h []
  (rw[gD]at h;replace h:=(LE s4 s5)▸h)
  refine DT (ie (b:=(4:Int)).mpr fun z=>s4 (Int.ofNat.inj z)) ?_
  refine DT (ie (b:=(5:Int)).mpr fun z=>s5 (Int.ofNat.inj z)) ?_
  exact h
 ·have h:=h []
  rw[gD]at h
  refine Jr (l0 hn rfl) hR ?_
  refine Jr (l0 hn rfl) hR ?_
  have h:FK QH Q X (exc hd 1) (Ii (BJ R [a,b]) (BJ R [c,d]) 0) (B S k m G st++g):=h
  refine Ap (fun e=>?_) fun e=>?_
  ·have e:decide (BJ R [a,b]<0)=true:=e
   rw[Mi (.inl (gG e))]at h;exact h
  ·have e:decide (BJ R [a,b]<0)=false:=e
   refine Ap (fun e2=>?_) fun e2=>?_
   ·have e2:decide (BJ R [c,d]<0)=true:=e2
    rw[Mi (.inr (gG e2))]at h;exact h
   ·have e2:decide (BJ R [c,d]<0)=false:=e2
    rw[T8 (ig e) (ig e2)]at h;exact h
 ·refine Jr (l0 hn rfl) hR ?_
  refine Jr (l0 hn rfl) hR ?_
  have h:∀x,FK QH Q X (exc hd 1) (if pA e=0 then none else Ii (BJ R [a,b]) (BJ R [c,d]) (pA e)) (B S k m G st++(g++x)):=h
  refine Ap (fun e1=>?_) fun e1=>?_
  ·have e1:decide (BJ R [a,b]<0)=true:=e1
   (replace h:=(Mi (.inl (gG e1)))▸h;rw[ite_self]at h)
   have h:=h []
   rw[gD]at h
   exact h
  ·conv=>whnf
   refine Ap (fun e2=>?_) fun e2=>?_
   ·have e2:decide (BJ R [c,d]<0)=true:=e2
    rw[Mi (.inr (gG e2)),ite_self]at h
    have h:=h []
    rw[gD]at h
    exact h
   ·have e1:decide (BJ R [a,b]<0)=false:=e1
    have e2:decide (BJ R [c,d]<0)=false:=e2
    replace h:=(T8 (ig e1) (ig e2))▸h
    refine Ab BP ?_
    refine A0 ?_
    have hi:(B S k m G st++g++[.list [.int 2,.int 3,.int 4,.int 5]])[g.length+61]?=some (.list [.int 2,.int 3,.int 4,.int 5]):=by
     rw[gu];exact(gv:(g++[MO.list [.int 2,.int 3,.int 4,.int 5]])[g.length]?=_)
    have h:=h [.list [.int 2,.int 3,.int 4,.int 5]]
    refine VH (l0 hn rfl) hi [2,3,4,5] (by decide) _ 0 rfl rfl fun env' a1 a2 a3 a4=>?_
    rw[<- Yy]at a1
    revert h a1
    generalize pA e=p
    intro h a1
    refine Ab a1 ?_
    refine Ap (fun e3=>?_) fun e3=>?_
    ·have e3:p=0:=by exact gG e3
     rw[iI e3]at h
     refine Ab a2 ?_
     exact h
    ·have e3:p≠0:=by simpa using e3
     rw[iH e3]at h
     refine Ab a3 ?_
     refine Ab a4 ?_
     refine Ab a1 ?_
     exact h
noncomputable def fmB:MS:=fb (mR 1 HO)
theorem Rh{Q:Au}{q:Int×Int×Int}(hn:1<=n)(hi:μ[i]?=some (.list XS))(L:List Int):∀(env:An),env 11=some (.int q.1)->env 61=some (.int q.2.1)->env 14=some (.int q.2.2)->env 224=some (.str t)->
  (∀env',env' 224=some (.str t)->match L.find? (Du q)with|some v=>Q (.ret (.int v)) env' μ|none=>Q .next env' μ)->
  Bz (some (i,XS)) (fun v K env' μ'=>opt (AC [19] true v env') fun e=>ws lX (Ak lX prog n) hd fmB K X e μ') (L.map .int) Q env μ:=by
 induction L with
 |nil=>intro env a1 a2 a3 a4 h;exact⟨hi,h env a4⟩
 |cons v L ih=>
  intro env a1 a2 a3 a4 h
  refine⟨hi,?_⟩
  have skip:Du q v=false->Bz (some (i,XS)) (fun v K env' μ'=>opt (AC [19] true v env') fun e=>ws lX (Ak lX prog n) hd fmB K X e μ') (L.map .int) Q (Ad env 19 (.int v)) μ:=fun e=>by
   refine ih _ a1 a2 a3 a4 fun env' b=>?_
   have h:=h env' b
   (rw[ik]at h;replace h:=e▸h)
   exact h
  refine Et hn ?_
  refine Ab a1 ?_
  refine Ap (fun e=>?_) fun e=>?_
  ·have e:(Ai v==q.1)=true:=e
   refine KL hn ?_
   refine Ab a2 ?_
   refine Ap (fun e2=>?_) fun e2=>?_
   ·have e2:(mc v==q.2.1)=true:=e2
    refine Dj hn ?_
    refine Ab a3 ?_
    refine Ap (fun e3=>?_) fun e3=>?_
    ·have e3:(Ah v==q.2.2)=true:=e3
     have h:=h (Ad env 19 (.int v)) a4
     rw[ik,show Du q v=true by unfold Du;(refine e.symm▸?_;refine e2.symm▸?_;refine e3.symm▸?_);rfl]at h
     exact h
    ·have e3:(Ah v==q.2.2)=false:=e3
     exact skip (by unfold Du;(refine e3.symm▸?_;rewrite[jS];rewrite[jS];rfl))
   ·have e2:(mc v==q.2.1)=false:=e2
    exact skip (by unfold Du;(refine e2.symm▸?_;rewrite[ku];rewrite[jS];rfl))
  ·have e:(Ai v==q.1)=false:=e
   exact skip (by unfold Du;(refine e.symm▸?_;rewrite[ku];rfl))
theorem az{L:List Int}(hn:3<=n)(hR:R<1000)(hj:g[j]?=some (il L))(h:∀e,FK .int Q X (exc hd 1) ((KV R t).bind fun q=>L.find? (Du q)) (B S k m G st++(g++e))):CG n hd 230 [.int 4,.int R,.lW (j+61),.str t] Q X (B S k m G st++g):=by
 refine stp hn fun n hn=>?_
 refine aJ (l0 hn rfl) hR ?_
 intro e
 have h:=h e
 revert h
 cases KV R t with
 |none=>intro h;exact h
 |some q=>
  intro h
  have h:FK .int Q X (exc hd 1) (L.find? (Du q)) (B S k m G st++(g++e)):=h
  refine Ab (Be (Ac hj e)) ?_
  refine A0 ?_
  refine Rh (q:=q) (t:=t) (l0 hn rfl) (A5 (Ac hj e)) L _ ?_ ?_ ?_ ?_ fun env' a=>?_
  any_goals rfl
  revert h
  cases L.find? (Du q) with
  |some v=>intro h;exact h
  |none=>
   intro h
   refine Ab a ?_
   exact h
end
noncomputable def mW:Nat->Nat
 |2=>78|3=>66|4=>82|5=>81|_=>75
noncomputable def qL(x s:List Nat):List Nat->Int
 |[]=>0
 |kd :: r=>match[mW kd]==x with
  |true=>(match decide (mW kd∈s)with|true=>kd|false=>qL x s r)
  |false=>qL x s r
noncomputable def nH(x s:List Nat):Int:=qL x s [2,3,4,5,6]
noncomputable def CQ(t:List Nat):List Nat:=cut t 0 (min 1 t.length)
noncomputable def GW(t:List Nat):List Nat:=cut t (min 1 t.length) t.length
noncomputable def AF(t:List Nat):List Nat:=cut t (-1+(t.length:Int)).toNat t.length
noncomputable def A8(t:List Nat):List Nat:=cut t 0 (-1+(t.length:Int)).toNat
noncomputable def Ce(t:List Nat):List Nat:=cut t (-2+(t.length:Int)).toNat t.length
noncomputable def BU(t:List Nat):List Nat:=cut t 0 (-2+(t.length:Int)).toNat
noncomputable def AX(t:List Nat):List Nat×List Nat:=match AF t==[43] with
 |true=>(A8 t,AF t)
 |false=>match AF t==[35] with
  |true=>(A8 t,AF t)
  |false=>(t,[])
noncomputable def E6(f:Int):List Nat->Option (Int×Int)
 |[]=>some (f, -1)
 |c :: r=>match decide (c∈nW) with
  |true=>(match r with|[]=>some (f,AE c nW 0)|_ :: _=>none)
  |false=>none
noncomputable def E5:List Nat->Option (Int×Int)
 |[]=>some (-1, -1)
 |c :: r=>match decide (c∈oa) with
  |true=>E6 (AE c oa 0) r
  |false=>E6 (-1) (c :: r)
noncomputable def Z1(q:Int×Int):V:=.tup [.int q.1,.int q.2]
noncomputable def Vz(o:Option (Int×Int)):V:=match o with|some q=>Z1 q|none=>.none
theorem N3(c:Nat)(r:List Nat):GW (c :: r)=r:=by
 unfold GW cut
 rw[jA (gE _),gQ];rfl
section
variable{S:List Int}{k:Int}{m:Nat}{G:l7}{st:St}{g:MH}{n:Nat}{hd:Bool}{Q:Ae}{X:As}{μ:MH}
theorem WS(hn:12<=n)(GC:Ch G m)(R:HM G st)(h:∀e,FK .int Q X (exc hd 1) ((KV G.ranks t).bind fun q=>(Ay G st).find? (Du q)) (B S k m G st++(g++e))):CG n hd 231 [.lW 54,.str t] Q X (B S k m G st++g):=by
 refine stp hn fun n hn=>?_
 refine Fq (l0 hn rfl) GC.S R.C.low R.q0 R.q1 GC.hr R.ps (B5 G st) ?_
 intro e j hj
 refine az (l0 hn rfl) GC.rk hj ?_
 intro e'
 rw[gu]
 have h:=h (e++e')
 revert h
 cases(KV G.ranks t).bind fun q=>(Ay G st).find? (Du q) with
 |none=>intro h;exact h
 |some v=>intro h;exact h
theorem Jn(hn:2<=n)(h2:2<=kd)(h7:kd<7)(h:Q (.str [mW kd]) μ):CG n hd 10 [.int kd] Q X μ:=by
 obtain⟨n,rfl⟩:∃j,n=j+2:=⟨n - 2,by lia⟩
 revert h
 exact ta h2 h7 (fun h=>Af rfl h) (fun h=>Af rfl h) (fun h=>Af rfl h) (fun h=>Af rfl h) (fun h=>Af rfl h)
noncomputable def klB:MS:=fb (mR 0 D6)
theorem XH{Q:Au}(hn:2<=n)(hi:μ[i]?=some (.list XS))(L:List Nat):∀(_:∀kd∈L,2<=kd/\kd<7) (env:An),env 254=some (.str x)->env 255=some (.str s)->
  (∀env',(qL x s L=0->Q .next env' μ)/\(∀fl,fl=KY.ret (.int (qL x s L))->Q fl env' μ))->
  Bz (some (i,XS)) (fun v K env' μ'=>opt (AC [1] true v env') fun e=>ws lX (Ak lX prog n) hd klB K X e μ') (L.map fun(kd:Nat)=>.int kd) Q env μ:=by
 induction L with
 |nil=>intro _ env a1 a2 h;exact⟨hi,(h env).1 rfl⟩
 |cons kd L ih=>
  intro hL env a1 a2 h
  have hk:=hL kd gJ
  have oM:∀kd∈L,2<=kd/\kd<7:=fun s hs=>hL s (gz _ hs)
  refine⟨hi,?_⟩
  refine Jn hn hk.1 hk.2 ?_
  refine Ab a1 ?_
  unfold qL at h
  refine Ap (fun e=>?_) fun e=>?_
  ·have e:([mW kd]==x)=true:=e
   have ex:x=[mW kd]:=(gM e).symm
   rw[e]at h
   rw[ex]at a1
   refine Ab a1 ?_
   refine Ab a2 ?_
   refine Ap (fun e2=>?_) fun e2=>?_
   ·have e2:decide (mW kd∈s)=true:=e2
    rw[e2]at h
    exact(h _).2 _ rfl
   ·have e2:decide (mW kd∈s)=false:=e2
    rw[e2]at h
    exact ih oM _ (by rw[<- ex]at a1;exact a1) a2 h
  ·have e:([mW kd]==x)=false:=e
   rw[e]at h
   exact ih oM _ a1 a2 h
theorem QV(hn:3<=n)(h:∀e,Q (.int (nH x s)) (B S k m G st++(g++e))):CG n hd 256 [.str x,.str s] Q X (B S k m G st++g):=by
 refine stp hn fun n hn=>?_
 have hi:(B S k m G st++g++[.list [.int 2,.int 3,.int 4,.int 5,.int 6]])[g.length+61]?=some (.list [.int 2,.int 3,.int 4,.int 5,.int 6]):=by
  rw[gu];exact(gv:(g++[MO.list [.int 2,.int 3,.int 4,.int 5,.int 6]])[g.length]?=_)
 have h:=h [.list [.int 2,.int 3,.int 4,.int 5,.int 6]]
 unfold nH at h
 refine Ab BP ?_
 refine A0 ?_
 refine XH (x:=x) (s:=s) (l0 hn rfl) hi [2,3,4,5,6] (by decide) _ ?_ ?_ fun env'=>⟨fun e=>?_,fun fl e=>?_⟩
 any_goals rfl
 ·rw[e]at h;exact h
 ·rw[e];exact h
theorem TQ(hn:1<=n)(h:Q (.tup [.str (AX t).1,.str (AX t).2]) μ):CG n hd 257 [.str t] Q X μ:=by
 refine stp hn fun n hn=>?_
 unfold AX at h
 refine Ap (fun e=>?_) fun e=>?_
 ·have e:(AF t==[43])=true:=e
  replace h:=e▸h;exact h
 ·have e:(AF t==[43])=false:=e
  rw[e]at h
  refine Ap (fun e=>?_) fun e=>?_
  ·have e:(AF t==[35])=true:=e
   rw[e]at h;exact h
  ·have e:(AF t==[35])=false:=e
   rw[e]at h;exact h
theorem Q5(e:decide (c∈nW)=false):E6 f (c :: r)=none:=by
 show(match decide (c∈nW)with|true=>_|false=>none)=_
 (refine e.symm▸?_;rfl)
theorem Mj(e:decide (c∈nW)=true):E6 f (c :: r)=(match r with|[]=>some (f,AE c nW 0)|_ :: _=>none):=by
 show(match decide (c∈nW)with|true=>_|false=>none)=_
 rw[e]
theorem Py(e:decide (c∈oa)=false):E5 (c :: r)=E6 (-1) (c :: r):=by
 show(match decide (c∈oa)with|true=>_|false=>E6 (-1) (c :: r))=_
 (refine e.symm▸?_;rfl)
theorem Pz(e:decide (c∈oa)=true):E5 (c :: r)=E6 (AE c oa 0) r:=by
 show(match decide (c∈oa)with|true=>_|false=>E6 (-1) (c :: r))=_
 (refine e.symm▸?_;rfl)
theorem Ng:B6 μ (.str (c :: r)) (.int 0)=some (.str [c]):=by
 show((CU (c :: r).length 0).bind fun k=>((c :: r)[k]?).map fun c=>V.str [c])=_
 unfold CU
 rw[iI (ix 0),iI (by rw[gQ];exact cr (gO _))];rfl
theorem dY{Q:Au}(e1:env 258=some (.str r))(e2:env 226=some (.int f))(e3:env 225=some (.int (-1)))(h:∀env',Q (.ret (Vz (E6 f r))) env' μ):ws lX (Ak lX prog n) hd (AT 3 Gq) Q X env μ:=by
 refine Ab e1 ?_
 match r,e1,h with
 |[],e1,h=>
  refine Ab e1 ?_
  refine Ab e2 ?_
  refine Ab e3 ?_
  exact h _
 |c :: r,e1,h=>
  refine Ab e1 ?_
  refine Af Ng ?_
  refine Ap (fun e=>?_) fun e=>?_
  ·rw[Mj e]at h
   refine Ab e1 ?_
   refine Af Ng ?_
   refine Ab e1 ?_
   match r,h with
   |[],h=>
    refine Ab e2 ?_
    exact h _
   |d :: r,h=>exact h _
  ·rw[Q5 e]at h
   refine Ab e1 ?_
   exact h _
theorem ay(hn:1<=n)(h:Q (Vz (E5 r)) μ):CG n hd 259 [.str r] Q X μ:=by
 refine stp hn fun n hn=>?_
 match r,h with
 |[],h=>exact h
 |c :: r,h=>
  refine Af Ng ?_
  refine Ap (fun e=>?_) fun e=>?_
  ·replace h:=(Pz e)▸h
   refine Af Ng ?_
   refine dY (env:=Ad (Ad (Ad (Ad (Ad (fun _=>none) 258 (.str (c :: r))) 226 (.int (-1))) 225 (.int (-1))) 226 (.int (AE c oa 0))) 258 (.str (GW (c :: r)))) (f:=AE c oa 0) (r:=r) ?_ rfl rfl fun _=>h
   exact congrArg (fun z=>some (V.str z)) (N3 c r)
  ·replace h:=(Py e)▸h
   exact dY (env:=Ad (Ad (Ad (fun _=>none) 258 (.str (c :: r))) 226 (.int (-1))) 225 (.int (-1))) (f:= -1) (r:=c :: r) rfl rfl rfl fun _=>h
end
set_option genInjectivity false in
structure Ask where
 k:Int
 f:Int
 r:Int
 x:Bool
 g:Int
 p:Int
noncomputable def LW(a:Ask):V:=.tup [.int a.k,.int a.f,.int a.r,.bool a.x,.int a.g,.int a.p]
noncomputable def rO(k p g:Int)(x:Bool):Option (Int×Int)->Option Ask
 |none=>none
 |some q=>match(k==1)&&(x&&decide (q.1<0)) with
  |true=>none
  |false=>some ⟨k,q.1,q.2,x,g,p⟩
noncomputable def oG(R k p:Int)(b:List Nat):Option Ask:=match decide (BJ R (Ce b)<0) with
 |true=>none
 |false=>match AF (BU b)==[120] with
  |true=>rO k p (BJ R (Ce b)) true (E5 (A8 (BU b)))
  |false=>rO k p (BJ R (Ce b)) false (E5 (BU b))
noncomputable def pH:List Nat:=[78,66,82,81,75]
noncomputable def o8:List Nat:=[78,66,82,81]
noncomputable def oS(R:Int)(t:List Nat):Option Ask:=match nH (CQ t) pH != 0 with
 |true=>oG R (nH (CQ t) pH) 0 (GW t)
 |false=>match nH (AF t) o8 != 0 with
  |true=>(match AF (A8 t)==[61] with
   |true=>oG R 1 (nH (AF t) o8) (A8 (A8 t))
   |false=>oG R 1 (nH (AF t) o8) (A8 t))
  |false=>oG R 1 (nH (AF t) o8) t
def YM{α:Type}(f:α->V)(Q:Au)(X:As)(c:Nat)(o:Option α)(env:An)(μ:MH):Prop:=match o with
 |some a=>Q (.ret (f a)) env μ
 |none=>X c μ
section
variable{S:List Int}{k:Int}{m:Nat}{G:l7}{st:St}{g:MH}{n:Nat}{hd:Bool}{X:As}{μ:MH}
theorem fK{Q:Au}(hn:1<=n)(e1:env 1=some (.int kk))(e2:env 14=some (.int p))(e3:env 61=some (.int gl))(e4:env 260=some (.bool x))(e5:env 258=some (.str r))(e6:env 224=some (.str t))
  (h:∀env',YM LW Q X (exc hd 2) (rO kk p gl x (E5 r)) env' μ):ws lX (Ak lX prog n) hd (AT 9 DI) Q X env μ:=by
 refine Ab e5 ?_
 refine ay hn ?_
 revert h
 cases E5 r with
 |none=>
  intro h
  refine Ab e6 ?_
  exact h env
 |some q=>
  intro h
  have h:∀env',YM LW Q X (exc hd 2) (match(kk==1)&&(x&&decide (q.1<0))with|true=>none|false=>some ⟨kk,q.1,q.2,x,gl,p⟩) env' μ:=h
  have fin:((kk==1)&&(x&&decide (q.1<0)))=false->ws lX (Ak lX prog n) hd (AT 12 DI) Q X (Ad env 11 (Z1 q)) μ:=fun e=>by
   replace h:=e▸h
   refine Ab e1 ?_
   refine Af rfl ?_
   refine Af rfl ?_
   refine Ab e4 ?_
   refine Ab e3 ?_
   refine Ab e2 ?_
   exact h _
  refine Ab e1 ?_
  refine Ap (fun e=>?_) fun e=>?_
  ·have e:(kk==1)=true:=e
   refine Ab e4 ?_
   induction x with
   |true=>
    refine Af rfl ?_
    refine Ap (fun e'=>?_) fun e'=>?_
    ·have e':decide (q.1<0)=true:=e'
     (rw[e]at h;replace h:=e'▸h)
     refine Ab e6 ?_
     exact h env
    ·have e':decide (q.1<0)=false:=e'
     exact fin (by refine e'.symm▸?_;simp)
   |false=>exact fin (by simp)
  ·have e:(kk==1)=false:=e
   exact fin (by refine e.symm▸?_;rfl)
theorem Zb{Q:Au}(hn:1<=n)(hR:R<1000)(e1:env 1=some (.int kk))(e2:env 14=some (.int p))(e3:env 45=some (.int 4))(e4:env 49=some (.int R))(e5:env 261=some (.str b))(e6:env 224=some (.str t))
  (h:∀env',YM LW Q X (exc hd 2) (oG R kk p b) env' μ):ws lX (Ak lX prog n) hd (AT 4 DI) Q X env μ:=by
 unfold oG at h
 refine Ab e3 ?_
 refine Ab e4 ?_
 refine Ab e5 ?_
 refine Jr hn hR ?_
 refine Ap (fun e=>?_) fun e=>?_
 ·have e:decide (BJ R (Ce b)<0)=true:=e
  replace h:=e▸h
  refine Ab e6 ?_
  exact h env
 ·have e:decide (BJ R (Ce b)<0)=false:=e
  rw[e]at h
  refine Ab e5 ?_
  refine Ap (fun e=>?_) fun e=>?_
  ·have e:(AF (BU b)==[120])=true:=e
   rw[e]at h
   exact fK (env:=Ad (Ad (Ad (Ad env 61 (.int (BJ R (Ce b)))) 258 (.str (BU b))) 260 (.bool (AF (BU b)==[120]))) 258 (.str (A8 (BU b)))) (gl:=BJ R (Ce b)) (x:=true) (r:=A8 (BU b)) hn e1 e2 rfl (congrArg (fun z=>some (V.bool z)) e) rfl e6 h
  ·have e:(AF (BU b)==[120])=false:=e
   rw[e]at h
   exact fK (env:=Ad (Ad (Ad env 61 (.int (BJ R (Ce b)))) 258 (.str (BU b))) 260 (.bool (AF (BU b)==[120]))) (gl:=BJ R (Ce b)) (x:=false) (r:=BU b) hn e1 e2 rfl (congrArg (fun z=>some (V.bool z)) e) rfl e6 h
theorem W2{Q:Ae}(hn:4<=n)(hR:R<1000)(h:∀e,FK LW Q X (exc hd 2) (oS R t) (B S k m G st++(g++e))):CG n hd 262 [.str t,.int 4,.int R] Q X (B S k m G st++g):=by
 refine stp hn fun n hn=>?_
 have to:∀{o:Option Ask} {μ:MH},FK LW Q X (exc hd 2) o μ->∀env',YM LW (fun fl _ μ'=>match fl with|.ret v=>Q v μ'|.next=>Q .none μ'|.cont=>False) X (exc hd 2) o env' μ:=fun{o μ} h _=>by induction o<;>exact h
 unfold oS at h
 refine QV (l0 hn rfl) ?_
 intro e0
 refine Ap (fun e=>?_) fun e=>?_
 ·have e:(nH (CQ t) pH != 0)=true:=e
  replace h:=e▸h
  exact Zb (env:=Ad (Ad (Ad (Ad (Ad (Ad (Ad (fun _=>none) 224 (.str t)) 45 (.int 4)) 49 (.int R)) 261 (.str t)) 1 (.int (nH (CQ t) pH))) 14 (.int 0)) 261 (.str (GW t))) (kk:=nH (CQ t) pH) (p:=0) (b:=GW t) (t:=t) (l0 hn rfl) hR rfl rfl rfl rfl rfl rfl (to (h e0))
 ·have e:(nH (CQ t) pH != 0)=false:=e
  replace h:=e▸h
  refine QV (l0 hn rfl) ?_
  intro e1
  have h:=h (e0++e1)
  rw[<- gu g e0 e1]at h
  refine Ap (fun e=>?_) fun e=>?_
  ·have e:(nH (AF t) o8 != 0)=true:=e
   replace h:=e▸h
   refine Ap (fun e=>?_) fun e=>?_
   ·have e:(AF (A8 t)==[61])=true:=e
    rw[e]at h
    exact Zb (env:=Ad (Ad (Ad (Ad (Ad (Ad (Ad (Ad (Ad (Ad (fun _=>none) 224 (.str t)) 45 (.int 4)) 49 (.int R)) 261 (.str t)) 1 (.int (nH (CQ t) pH))) 14 (.int 0)) 1 (.int 1)) 14 (.int (nH (AF t) o8))) 261 (.str (A8 t))) 261 (.str (A8 (A8 t)))) (kk:=1) (p:=nH (AF t) o8) (b:=A8 (A8 t)) (t:=t) (l0 hn rfl) hR rfl rfl rfl rfl rfl rfl (to h)
   ·have e:(AF (A8 t)==[61])=false:=e
    rw[e]at h
    exact Zb (env:=Ad (Ad (Ad (Ad (Ad (Ad (Ad (Ad (Ad (fun _=>none) 224 (.str t)) 45 (.int 4)) 49 (.int R)) 261 (.str t)) 1 (.int (nH (CQ t) pH))) 14 (.int 0)) 1 (.int 1)) 14 (.int (nH (AF t) o8))) 261 (.str (A8 t))) (kk:=1) (p:=nH (AF t) o8) (b:=A8 t) (t:=t) (l0 hn rfl) hR rfl rfl rfl rfl rfl rfl (to h)
  ·have e:(nH (AF t) o8 != 0)=false:=e
   replace h:=e▸h
   exact Zb (env:=Ad (Ad (Ad (Ad (Ad (Ad (Ad (Ad (fun _=>none) 224 (.str t)) 45 (.int 4)) 49 (.int R)) 261 (.str t)) 1 (.int (nH (CQ t) pH))) 14 (.int 0)) 1 (.int 1)) 14 (.int (nH (AF t) o8))) (kk:=1) (p:=nH (AF t) o8) (b:=t) (t:=t) (l0 hn rfl) hR rfl rfl rfl rfl rfl rfl (to h)
end
theorem Xm(ns:List Int):PyData.eqv (.list (ns.map PyData.int)) (.list [])=ns.isEmpty:=by
 induction ns using List.casesOn<;>rfl
theorem Um(ns:List Int):PyData.eqv (.list (ns.map PyData.int)) (.list (ns.map PyData.int))=true:=by
 have h:∀l:List Int,PyData.eqvAll (l.map PyData.int) (l.map PyData.int)=true:=fun l=>by
  induction l with
  |nil=>rfl
  |cons a l ih=>simp[PyData.eqvAll,PyData.eqv,ih]
 simp[PyData.eqv,h]
theorem Ss(μ:MH)(j:Nat)(l:List Int):(l.map V.int).mapM (AZ μ j)=some (l.map PyData.int):=by
 induction l with
 |nil=>rfl
 |cons a l ih=>(rewrite[iY];rewrite[jb];refine ih.symm▸?_);induction j using Nat.casesOn<;>rfl
theorem Iw{l:List Int}(h:μ[a]?=some (il l)):AZ μ (j+1) (.lW a)=some (.list (l.map .int)):=by
 show((By μ a).bind fun xs=>(xs.mapM (AZ μ j)).map _)=_
 rw[CO h]
 show((l.map V.int).mapM (AZ μ j)).map _=_
 rw[Ss];rfl
theorem PH{l:List Int}(ha:μ[a]?=some (il l))(hb:μ[b]?=some (il [])):rj μ (.lW a) (.lW b)=some l.isEmpty:=by
 show((AZ μ 5 (.lW a)).bind fun x=>(AZ μ 5 (.lW b)).map fun y=>PyData.eqv x y)=_
 (refine(Iw ha).symm▸?_;refine(Iw hb).symm▸?_;rewrite[<- Xm]);rfl
noncomputable def oq(st:St)(v:Int):Int:=Builtin.bitAnd (AB st.board (Ai v).toNat) 7
noncomputable def mX(st:St)(v:Int):Bool:=AB st.board (mc v).toNat != 0
noncomputable def Ee(st:St)(a:Ask)(v:Int):Bool:=
 mc v==a.g&&(Ah v==a.p&&(oq st v==a.k&&(mX st v==a.x&&((decide (a.f<0)||(Ai v).fmod 4==a.f)&&(decide (a.r<0)||(Ai v).fdiv 4==a.r)))))
noncomputable def Go:List Nat:=[79,45,79]
noncomputable def LT:List Nat:=[79,45,79,45,79]
noncomputable def CE(R:Int)(st:St)(L:List Int)(b:List Nat):Option (List Int):=match b==Go with
 |true=>some []
 |false=>match b==LT with
  |true=>some []
  |false=>(oS R b).map fun a=>L.filter (Ee st a)
section
variable{S:List Int}{k:Int}{m:Nat}{G:l7}{st:St}{g:MH}{n:Nat}{hd:Bool}{X:As}{μ:MH}
theorem Q0{Q:Ae}(hn:2<=n)(hl:(st.board.length:Int)=G.size)(M:BZ G v)(h:Q (.bool (mX st v)) (B S k m G st++g)):CG n hd 248 [.lW 56,.int v] Q X (B S k m G st++g):=by
 refine stp hn fun n hn=>?_
 unfold mX at h
 refine KL (l0 hn rfl) ?_
 refine B0 M.t0 (Ct (by have:=M.t0;have:=M.t1;lia)) ?_
 refine Ap (fun e=>?_) fun e=>?_
 ·have e:(AB st.board (mc v).toNat != 0)=true:=e
  replace h:=e▸h
  have q:∀b,b=true->Q (.bool b) (B S k m G st++g):=fun b hb=>by refine hb.symm▸?_;exact h
  exact q _ e
 ·have e:(AB st.board (mc v).toNat != 0)=false:=e
  replace h:=e▸h
  refine EY (l0 hn rfl) ?_
  have q:∀b,b=false->Q (.bool b) (B S k m G st++g):=fun b hb=>by refine hb.symm▸?_;exact h
  exact q _ (by rcases M.sp with z|z<;>refine z.symm▸?_<;>rfl)
theorem WN{Q:Ae}(hn:1<=n)(h:Q (.int (Builtin.bitAnd p 7)) μ):CG n hd 5 [.int p] Q X μ:=by
 induction n using Nat.casesOn with
 |zero=>exact absurd hn (by decide)
 |succ n=>exact h
theorem TT{Q:Ae}{s:Int}(hn:1<=n)(h:Q (.int (s.fmod 4)) μ):CG n hd 219 [.int 4,.int s] Q X μ:=by
 induction n using Nat.casesOn with
 |zero=>exact absurd hn (by decide)
 |succ n=>exact h
theorem T4{Q:Ae}{s:Int}(hn:1<=n)(h:Q (.int (s.fdiv 4)) μ):CG n hd 220 [.int 4,.int s] Q X μ:=by
 induction n using Nat.casesOn with
 |zero=>exact absurd hn (by decide)
 |succ n=>exact h
noncomputable def aZ(a:Ask)(v:Int):An:=Ad (Ad (Ad (Ad (Ad (Ad (Ad (Ad (Ad (Ad (Ad (fun _=>none) 45 (.int 4)) 110 (.lW 56)) 19 (.int v)) 263 (LW a)) 1 (.int a.k)) 226 (.int a.f)) 225 (.int a.r)) 260 (.bool a.x)) 61 (.int a.g)) 14 (.int a.p)) 11 (.int (Ai v))
theorem QU{Q:Ae}(h:Q (.bool b) μ)(e:b=c):Q (.bool c) μ:=by rw[<- e];exact h
theorem aA{Q:Ae}(hn:3<=n)(hl:(st.board.length:Int)=G.size)(M:BZ G v)(h:Q (.bool (Ee st a v)) (B S k m G st++g)):CG n hd 264 [.int 4,.lW 56,.int v,LW a] Q X (B S k m G st++g):=by
 refine stp hn fun n hn=>?_
 unfold Ee at h
 refine Et (l0 hn rfl) ?_
 refine EY (l0 hn rfl) ?_
 refine Cz (DP M) ?_
 refine KL (l0 hn rfl) ?_
 refine Ap (fun e=>?_) fun e=>?_
 ·have e:(mc v==a.g)=false:=by simpa using e
  replace h:=e▸h;exact h
 ·have e:(mc v==a.g)=true:=by simpa using e
  replace h:=e▸h
  refine Dj (l0 hn rfl) ?_
  refine Ap (fun e=>?_) fun e=>?_
  ·have e:(Ah v==a.p)=false:=by simpa using e
   replace h:=e▸h;exact h
  ·have e:(Ah v==a.p)=true:=by simpa using e
   replace h:=e▸h
   refine B0 M.f0 (Ct (by have:=M.f0;have:=M.f1;lia)) ?_
   refine WN (l0 hn rfl) ?_
   refine Ap (fun e=>?_) fun e=>?_
   ·have e:(oq st v==a.k)=false:=by unfold oq;simpa using e
    replace h:=e▸h;exact h
   ·have e:(oq st v==a.k)=true:=by unfold oq;simpa using e
    replace h:=e▸h
    refine Q0 (l0 hn rfl) hl M ?_
    refine Ap (fun e=>?_) fun e=>?_
    ·have e:(mX st v==a.x)=false:=by simpa using e
     replace h:=e▸h;exact h
    ·have e:(mX st v==a.x)=true:=by simpa using e
     replace h:=e▸h
     have last:(decide (a.f<0)||(Ai v).fmod 4==a.f)=true->ws lX (Ak lX prog n) hd (AT 5 TH) (fun fl _ μ'=>match fl with|.ret v=>Q v μ'|.next=>Q .none μ'|.cont=>False) X (aZ a v) (B S k m G st++g):=fun e=>by
      replace h:=e▸h
      refine Ap (fun e2=>?_) fun e2=>?_
      ·have e2:decide (a.r<0)=true:=e2
       exact QU h (by refine e2.symm▸?_;simpa using e2)
      ·have e2:decide (a.r<0)=false:=e2
       refine T4 (l0 hn rfl) ?_
       exact QU h (by refine e2.symm▸?_;rfl)
     refine Ap (fun e2=>?_) fun e2=>?_
     ·have e2:decide (a.f<0)=false:=by simpa using e2
      refine TT (l0 hn rfl) ?_
      refine Ap (fun e3=>?_) fun e3=>?_
      ·have e3:((Ai v).fmod 4==a.f)=false:=by simpa using e3
       (rw[e2]at h;replace h:=e3▸h);exact h
      ·have e3:((Ai v).fmod 4==a.f)=true:=by simpa using e3
       exact last (by refine e3.symm▸?_;simp)
     ·have e2:decide (a.f<0)=true:=by simpa using e2
      exact last (by refine e2.symm▸?_;rfl)
end
section
variable{S:List Int}{k:Int}{m:Nat}{G:l7}{st:St}{g:MH}{n:Nat}{hd:Bool}{X:As}{μ:MH}
noncomputable def csB:MS:=fb (mR 0 (ft (mR 1 FX)))
theorem Q4{Q:Au}(hn:1<=n)(hi:μ[i]?=some (.list XS))(L:List Int):∀(_:∀v∈L,BZ G v) (env:An),
  (∀env',env' 31=env 31->Q .next env' μ)->
  Bz (some (i,XS)) (fun v K env' μ'=>opt (AC [19] true v env') fun e=>ws lX (Ak lX prog n) hd csB K X e μ') (L.map .int) Q env μ:=by
 induction L with
 |nil=>intro _ env h;exact⟨hi,h env rfl⟩
 |cons v L ih=>
  intro hL env h
  refine⟨hi,?_⟩
  refine EY hn ?_
  refine Cz (DP (hL v gJ)) ?_
  exact ih (fun s hs=>hL s (gz _ hs)) _ h
noncomputable def fiB:MS:=fb (mR 3 FX)
theorem Xp{Q:Au}(hn:3<=n)(hb:(st.board.length:Int)=G.size)(ij:j≠i)(L:List Int):∀(_:∀v∈L,BZ G v) (g:MH) (xs:List Int) (env:An),g[i]?=some (.list XS)->g[j]?=some (il xs)->xs.length+L.length<90000->
  env 45=some (.int 4)->env 110=some (.lW 56)->env 263=some (LW a)->env 31=some (.lW (j+61))->
  (∀env',env' 31=some (.lW (j+61))->Q .next env' (B S k m G st++g.set j (il (xs++L.filter (Ee st a)))))->
  Bz (some (i+61,XS)) (fun v K env' μ'=>opt (AC [19] true v env') fun e=>ws lX (Ak lX prog n) hd fiB K X e μ') (L.map .int) Q env (B S k m G st++g):=by
 induction L with
 |nil=>
  intro _ g xs env hi hj hl e1 e2 e3 e4 h
  have h:=h env e4
  rw[kY,gD,Bj hj]at h
  exact⟨hi,h⟩
 |cons v L ih=>
  intro hL g xs env hi hj hl e1 e2 e3 e4 h
  have hv:=hL v gJ
  have oM:∀v∈L,BZ G v:=fun s hs=>hL s (gz _ hs)
  rw[gQ]at hl
  refine⟨hi,?_⟩
  refine Ab e1 ?_
  refine Ab e2 ?_
  refine Ab e3 ?_
  refine aA hn hb hv ?_
  refine Ap (fun e=>?_) fun e=>?_
  ·rw[jd e]at h
   refine Ab e4 ?_
   refine Df hj ?_
   refine Ab (Dz hj) ?_
   refine Aj (room (gY (hH _ _) (iu hl (by decide)))) ?_
   rw[Fg]
   refine ih oM (g.set j (il (xs++[v]))) (xs++[v]) _ (by rw[gX ij];exact hi) (AJ hj) (by rw[gx];show _+1+_<_;exact S8 hl) e1 e2 e3 e4 fun env' a=>?_
   have h:=h env' a
   rw[hW,gu]
   exact h
  ·rw[je (by rw[e];exact iM)]at h
   exact ih oM g xs _ hi hj (by exact YG hl) e1 e2 e3 e4 h
theorem Sl{Q:Ae}{L:List Int}(hn:5<=n)(hR:R<1000)(hb:(st.board.length:Int)=G.size)(hL:∀v∈L,BZ G v)(hi:g[i]?=some (il L))(hl:L.length<80000)
  (hN:CE R st L b=none->∀e,X (exc hd 2) (B S k m G st++(g++e))) (hS:∀l,CE R st L b=some l->∀e j,(g++e)[j]?=some (il l)->Q (.lW (j+61)) (B S k m G st++(g++e))):CG n hd 265 [.int 4,.int R,.lW 56,.lW (i+61),.str b] Q X (B S k m G st++g):=by
 refine stp hn fun n hn=>?_
 unfold CE at hN hS
 have hj:(g++[il []])[g.length]?=some (il []):=gv
 have hx:=Be (S:=S) (k:=k) (m:=m) (G:=G) (st:=st) (Ac hi [il []])
 have pV:=A5 (S:=S) (k:=k) (m:=m) (G:=G) (st:=st) (Ac hi [il []])
 refine Ap (fun e=>?_) fun e=>?_
 ·have e:(b==Go)=true:=e
  replace hS:=e▸hS
  refine Ab hx ?_
  refine A0 ?_
  refine Q4 (μ:=B S k m G st++(g++[il []])) (l0 hn rfl) pV L hL _ fun env' a=>?_
  refine Ab a ?_
  exact hS [] rfl [il []] g.length hj
 ·have e:(b==Go)=false:=e
  (replace hN:=e▸hN;replace hS:=e▸hS)
  refine Ap (fun e=>?_) fun e=>?_
  ·have e:(b==LT)=true:=e
   replace hS:=e▸hS
   refine Ab hx ?_
   refine A0 ?_
   refine Q4 (μ:=B S k m G st++(g++[il []])) (l0 hn rfl) pV L hL _ fun env' a=>?_
   refine Ab a ?_
   exact hS [] rfl [il []] g.length hj
  ·have e:(b==LT)=false:=e
   (replace hN:=e▸hN;replace hS:=e▸hS)
   conv=>whnf
   refine W2 (g:=g++[il []]) (l0 hn rfl) hR fun e0=>?_
   revert hN hS
   cases oS R b with
   |none=>intro hN _;have hN:=hN rfl ([il []]++e0);rw[<- gu g]at hN;exact hN
   |some a=>
    intro _ hS
    have hS:=hS _ rfl
    refine Ab (Be (Ac (Ac hi [il []]) e0)) ?_
    refine A0 ?_
    refine Xp (j:=g.length) (i:=i) (a:=a) (XS:=L.map .int) (l0 hn rfl) hb (iJ (BX hi)) L hL ((g++[il []])++e0) [] _ (Ac (Ac hi _) _) (Ac hj _) (by show 0+_<_;exact YH hl) ?_ ?_ ?_ ?_ fun env' z=>?_
    any_goals rfl
    refine Ab z ?_
    rw[AR hj,g8 _ _ (gE _),iB]
    have qR:((g++[il (L.filter (Ee st a))])++e0)[g.length]?=some (il (L.filter (Ee st a))):=Ac gv e0
    rw[gu]at qR ⊢
    exact hS _ _ qR
noncomputable def Ly:Option (List Int)->Option Int
 |some [v]=>some v
 |_=>none
theorem aI{Q:Ae}{L:List Int}(hn:6<=n)(hR:R<1000)(hb:(st.board.length:Int)=G.size)(hL:∀v∈L,BZ G v)(hi:g[i]?=some (il L))(hl:L.length<80000)
  (hN:Ly (CE R st L (AX t).1)=none->∀c e,c=2\/c=3->X (exc hd c) (B S k m G st++(g++e))) (hS:∀v,Ly (CE R st L (AX t).1)=some v->∀e,Q (.tup [.int v,.str (AX t).2]) (B S k m G st++(g++e))):CG n hd 266 [.int 4,.int R,.lW 56,.lW (i+61),.str t] Q X (B S k m G st++g):=by
 refine stp hn fun n hn=>?_
 refine TQ (l0 hn rfl) ?_
 refine Sl (l0 hn rfl) hR hb hL hi hl (fun e=>?_) fun l e e' j hj=>?_
 ·intro e'
  exact hN (by refine e.symm▸?_;rfl) 2 e' (.inl rfl)
 ·(replace hN:=e▸hN;replace hS:=e▸hS)
  have q1:(B S k m G st++(g++e')++[il []])[j+61]?=some (il l):=Ac (A5 hj) _
  have q2:(B S k m G st++(g++e')++[il []])[(B S k m G st++(g++e')).length]?=some (il []):=gv
  refine Ab (PH q1 q2) ?_
  match l,hj,hN,hS,q1 with
  |[],hj,hN,hS,q1=>
   conv=>whnf
   rw[gu,gu]
   exact hN rfl 2 _ (.inl rfl)
  |[v],hj,hN,hS,q1=>
   refine Ab (CO q1) ?_
   refine AO q1 (ix 0) (by show(0:Int)<1;decide) ?_
   conv=>whnf
   rw[gu,gu]
   exact hS v rfl _
  |v :: w :: l,hj,hN,hS,q1=>
   refine Ab (CO q1) ?_
   refine DT (gy (by(rewrite[gS];rewrite[gQ];refine List.length_cons.symm▸?_);exact mI (mn _) (.add (.num 1) (.num 1)) (.add (mj 0 1) (.num 1)) (.num 0) md rfl (gO _))) ?_
   conv=>whnf
   rw[gu,gu]
   exact hN rfl 3 _ (.inr rfl)
theorem SV(h:Ly (CE R st L b)=some v):v∈L:=by
 have q:∀l,CE R st L b=some l->∀x∈l,x∈L:=fun l e x hx=>by
  unfold CE at e
  split at e
  ·obtain rfl:=Option.some.inj e;exact nomatch hx
  ·split at e
   ·obtain rfl:=Option.some.inj e;exact nomatch hx
   ·cases z:oS R b with
    |none=>replace e:=z▸e;exact Ao e
    |some a=>replace e:=z▸e;obtain rfl:=Option.some.inj e;exact(List.mem_filter.mp hx).1
 cases e:CE R st L b with
 |none=>replace h:=e▸h;exact Ao h
 |some l=>
  replace h:=e▸h
  match l,e,h with
  |[w],e,h=>obtain rfl:=Option.some.inj h;exact q _ e _ gJ
structure Er(G:l7)(m:Nat)(st:St)(mk:Int->List Nat):Prop where
 R:HM G st
 hist:st.hist.length<1000
 mv:∀v∈Ay G st,∃kd tk,Mv G st v kd tk/\HM G (Ij m st kd tk v)/\mk v=JV G (Ij m st kd tk v)
theorem Er.ok{mk:Int->List Nat}(F:Er G m st mk):∀v∈Ay G st,BZ G v:=fun v h=>by
 obtain⟨_,_,V,_⟩:=F.mv v h
 exact V.M
theorem Hx:(Ay G st).length<80000:=gY (lJ _ _) (B5 G st)
noncomputable def Db(s mk:List Nat):Bool:=s==[]||mk==s
noncomputable def VZ(mk:Int->List Nat)(G:l7)(st:St)(t:List Nat):Option Int:=(Ly (CE G.ranks st (Ay G st) (AX t).1)).filter fun v=>Db (AX t).2 (mk v)
theorem Nu{mk:Int->List Nat}{K:V->MH->Prop}(hn:11<=n)(GC:Ch G m)(F:Er G m st mk)(hv:v∈Ay G st)
  (h:∀e,K (.str (mk v)) (B S k m G st++(g++e))):CG n hd 253 [.lW 54,.int v] K X (B S k m G st++g):=by
 obtain⟨kd,tk,V,R,e⟩:=F.mv v hv
 refine aL hn F.R.C V GC F.hist R ?_
 refine e▸?_;exact h
theorem dX{Q:Ae}{mk:Int->List Nat}(hn:12<=n)(GC:Ch G m)(F:Er G m st mk)
  (hN:VZ mk G st t=none->∀c e,c=2\/c=3->X (exc hd c) (B S k m G st++(g++e))) (hS:∀v,VZ mk G st t=some v->∀e,Q (.int v) (B S k m G st++(g++e))):CG n hd 267 [.lW 54,.str t] Q X (B S k m G st++g):=by
 refine stp hn fun n hn=>?_
 unfold VZ at hN hS
 refine Fq (l0 hn rfl) GC.S F.R.C.low F.R.q0 F.R.q1 GC.hr F.R.ps (B5 G st) ?_
 intro e j hj
 refine aI (l0 hn rfl) GC.rk F.R.C.len F.ok hj Hx (fun z c e' hc=>?_) fun v z e'=>?_
 ·rw[gu]
  exact hN (by refine z.symm▸?_;rfl) c _ hc
 ·have hv:=SV z
  rw[z]at hN hS
  have hS:Db (AX t).2 (mk v)=true->∀e,Q (.int v) (B S k m G st++(g++e)):=fun a=>hS v (by show(if Db _ _=true then some v else none)=_;exact(iI a))
  have hN:Db (AX t).2 (mk v)=false->∀c e,c=2\/c=3->X (exc hd c) (B S k m G st++(g++e)):=fun a=>hN (by show(if Db _ _=true then some v else none)=_;refine a.symm▸?_;rfl)
  unfold Db at hS hN
  conv=>whnf
  rw[gu]
  refine Ap (fun e1=>?_) fun e1=>?_
  ·have e1:((AX t).2==[])=false:=by simpa using e1
   rw[e1]at hS hN
   refine Nu (l0 hn rfl) GC F hv fun e2=>?_
   rw[gu]
   refine Ap (fun e3=>?_) fun e3=>?_
   ·have e3:(mk v==(AX t).2)=false:=by simpa using e3
    exact hN e3 2 _ (.inl rfl)
   ·have e3:(mk v==(AX t).2)=true:=by simpa using e3
    exact hS e3 _
  ·have e1:((AX t).2==[])=true:=by simpa using e1
   rw[e1]at hS
   exact hS rfl _
end
noncomputable def mY(s:Int):List Nat:=[97+(s.fmod 4).toNat,49+(s.fdiv 4).toNat]
noncomputable def DY(kd:Nat):List Nat:=match kd with
 |1=>[]
 |kd=>[mW kd]
noncomputable def BC(x:Bool)(e:List Nat):List Nat:=match x with|true=>[120]|false=>e
noncomputable def FG(p:Int):List Nat:=match p==0 with|true=>[]|false=>[61]++[mW p.toNat]
theorem aS{p:Nat}(h:((p:Int)==0)=false):FG p=[61]++[mW p]:=by unfold FG;rw[h];rfl
noncomputable def Dc(kd:Nat)(x:Bool)(v:Int)(p:Int):List Nat:=DY kd++mY (Ai v)++BC x [45]++mY (mc v)++FG p
section
variable{S:List Int}{k:Int}{m:Nat}{G:l7}{st:St}{g:MH}{n:Nat}{hd:Bool}{X:As}{μ:MH}
theorem De(e:2<=kd):DY kd=[mW kd]:=by
 unfold DY
 split
 ·exact absurd e (by decide)
 ·rfl
theorem TW{Q:Ae}(hn:1<=n)(h0:0<=s)(h1:s<20)(h:Q (.str (mY s)) μ):CG n hd 223 [.int 4,.int s] Q X μ:=by
 refine stp hn fun n hn=>?_
 refine Cz (gR (by exact Int.not_lt.mpr (Oz h0))) ?_
 refine Cz (gR (by show ¬(4*8:Int)<=s;exact Int.not_le.mpr (mI (mn _) (mj 0 1) (.mulL 4 (.num 8)) (mj 0 1) (.num 20) rfl h1))) ?_
 have q1:B6 μ (.str [97,98,99,100,101,102,103,104]) (.int (s.fmod 4))=some (.str [97+(s.fmod 4).toNat]):=by
  rcases(by lia:s.fmod 4=0\/s.fmod 4=1\/s.fmod 4=2\/s.fmod 4=3)with e|e|e|e<;>refine e.symm▸?_<;>rfl
 have q2:B6 μ (.str [49,50,51,52,53,54,55,56]) (.int (s.fdiv 4))=some (.str [49+(s.fdiv 4).toNat]):=by
  rcases(by lia:s.fdiv 4=0\/s.fdiv 4=1\/s.fdiv 4=2\/s.fdiv 4=3\/s.fdiv 4=4)with e|e|e|e|e<;>refine e.symm▸?_<;>rfl
 refine Af q1 ?_
 refine Af q2 ?_
 exact h
noncomputable def ZR(kd:Nat)(v:Int):An:=Ad (Ad (Ad (Ad (fun _=>none) 45 (.int 4)) 110 (.lW 56)) 19 (.int v)) 1 (.int kd)
theorem eI{Q:Ae}{t:List Nat}(hn:3<=n)(C:mF G st)(M:BZ G v)(oB:G.size<=20)(pr:Ah v=0\/∃p:Nat,2<=p/\p<7/\Ah v=p)(ht:t.length<=5)(e1:env 45=some (.int 4))(e2:env 110=some (.lW 56))(e3:env 19=some (.int v))(e4:env 224=some (.str t))
  (h:Q (.str (t++BC (mX st v) [45]++mY (mc v)++FG (Ah v))) (B S k m G st++g)) :
  ws lX (Ak lX prog n) hd (AT 4 Hb) (fun fl _ μ'=>match fl with|.ret v=>Q v μ'|.next=>Q .none μ'|.cont=>False) X env (B S k m G st++g):=by
 have ox:=gK M.t1 oB
 refine Ab e2 ?_
 refine Ab e3 ?_
 refine Q0 (gA (by decide) hn) C.len M ?_
 have tail:∀(env:An) (u:List Nat),u.length<=6->env 45=some (.int 4)->env 19=some (.int v)->env 224=some (.str u)->Q (.str (u++mY (mc v)++FG (Ah v))) (B S k m G st++g)->
   ws lX (Ak lX prog n) hd (AT 5 Hb) (fun fl _ μ'=>match fl with|.ret v=>Q v μ'|.next=>Q .none μ'|.cont=>False) X env (B S k m G st++g):=by
  intro env u hu a1 a2 a3 h
  refine Ab a3 ?_
  refine Ab a1 ?_
  refine Ab a2 ?_
  refine KL (gA (by decide) hn) ?_
  refine TW (gA (by decide) hn) M.t0 ox ?_
  refine Aj (gy (by show u.length+2<=lim;unfold lim;exact mO (mn _) (mt 0 2) (.num 1000000) mi (.num 6) rfl hu)) ?_
  refine Ab a2 ?_
  refine Dj (gA (by decide) hn) ?_
  rcases pr with e|⟨p,p2,p7,e⟩
  ·rw[e]at h ⊢
   conv=>whnf
   have h:Q (.str (u++mY (mc v)++[])) (B S k m G st++g):=h
   rw[gD]at h
   exact h
  ·rw[e]at h ⊢
   have z:((p:Int)==0)=false:=by rw[gP];exact iC (M6 (Int.ofNat_le.mpr p2))
   replace h:=(aS z)▸h
   refine DT (by refine z.symm▸?_;rfl) ?_
   refine Aj (gy (by refine List.length_append.symm▸?_;show u.length+2+1<=lim;unfold lim;exact mO (mn _) (.add (mt 0 2) (.num 1)) (.num 1000000) mi (.num 6) rfl hu)) ?_
   refine Ab a2 ?_
   refine Dj (gA (by decide) hn) ?_
   refine e.symm▸?_
   refine Jn (gA (by decide) hn) p2 p7 ?_
   refine Aj (gy (by(refine List.length_append.symm▸?_;rewrite[gx]);show u.length+2+1+1<=lim;unfold lim;exact mO (mn _) (.add (.add (mt 0 2) (.num 1)) (.num 1)) (.num 1000000) mi (.num 6) rfl hu)) ?_
   rw[<- gu]at h
   exact h
 refine Ap (fun e=>?_) fun e=>?_
 ·replace h:=e▸h
  refine Ab e4 ?_
  refine Aj (gy (by show t.length+1<=lim;unfold lim;exact fc ht)) ?_
  exact tail (Ad env 224 (.str (t++[120]))) (t++[120]) (by refine List.length_append.symm▸?_;show t.length+1<=6;exact cu ht) e1 e3 rfl h
 ·replace h:=e▸h
  refine Ab e4 ?_
  refine Aj (gy (by show t.length+1<=lim;unfold lim;exact fc ht)) ?_
  exact tail (Ad env 224 (.str (t++[45]))) (t++[45]) (by refine List.length_append.symm▸?_;show t.length+1<=6;exact cu ht) e1 e3 rfl h
theorem aH{Q:Ae}(hn:4<=n)(C:mF G st)(V:Mv G st v kd tk)(oB:G.size<=20)(pr:Ah v=0\/∃p:Nat,2<=p/\p<7/\Ah v=p)
  (h:Q (.str (Dc kd (mX st v) v (Ah v))) (B S k m G st++g)):CG n hd 268 [.int 4,.lW 56,.int v] Q X (B S k m G st++g):=by
 cases n with
 |zero=>exact absurd hn (by decide)
 |succ n=>
  have M:=V.M
  have pk:=gK M.f1 oB
  have hb:=Ct (A4 C M.f0 M.f1)
  rw[V.src]at hb
  refine EY (l0 hn rfl) ?_
  refine Cz (DP M) ?_
  refine Et (l0 hn rfl) ?_
  refine B0 M.f0 hb ?_
  refine Eb (l0 hn rfl) (gZ V.k7) ?_
  refine Et (l0 hn rfl) ?_
  refine TW (l0 hn rfl) M.f0 pk ?_
  unfold Dc at h
  rcases(by have:=V.k1;lia:kd=1\/2<=kd)with e|e
  ·subst e
   exact eI (env:=Ad (ZR 1 v) 224 (.str (mY (Ai v)))) (t:=mY (Ai v)) (l0 hn rfl) C M oB pr (by show 2<=5;decide) rfl rfl rfl rfl h
  ·rw[De e]at h
   refine DT (by rw[ji,gP];exact iC (mI (mn _) (.add (.num 1) (.num 1)) md (.num 2) md rfl (Int.ofNat_le.mpr e))) ?_
   refine Jn (l0 hn rfl) e V.k7 ?_
   exact eI (env:=Ad (Ad (ZR kd v) 224 (.str (mY (Ai v)))) 224 (.str ([mW kd]++mY (Ai v)))) (t:=[mW kd]++mY (Ai v)) (l0 hn rfl) C M oB pr (by show 3<=5;decide) rfl rfl rfl rfl h
theorem Mv.pr(V:Mv G st v kd tk):Ah v=0\/∃p:Nat,2<=p/\p<7/\Ah v=p:=by
 rcases V.M.sp with e|e
 ·left;unfold Ah;refine e.symm▸?_;rfl
 ·obtain⟨_,p,h1,h2,h3⟩:=V.oi e
  exact .inr ⟨p,h1,by exact S9 h2,h3⟩
theorem Mv.oq(V:Mv G st v kd tk):Mine.oq st v=kd:=by
 unfold Mine.oq;rw[V.src];exact IF _ (gZ V.k7)
noncomputable def nZ(st:St)(v:Int):List Nat:=Dc (Mine.oq st v).toNat (mX st v) v (Ah v)
noncomputable def gh:MS:=fb (mR 1 HP)
theorem XV{Q:Au}(hn:4<=n)(C:mF G st)(oB:G.size<=20)(hi:(B S k m G st++g)[i]?=some (.list XS))(L:List Int):∀(_:∀v∈L,∃kd tk,Mv G st v kd tk) (env:An),env 45=some (.int 4)->env 110=some (.lW 56)->env 261=some (.str b)->env 224=some (.str t)->
  (∀env',env' 224=some (.str t)->env' 252=env 252->match L.find? (fun v=>nZ st v==b)with|some v=>∀w,env 252=some w->Q (.ret (.tup [.int v,w])) env' (B S k m G st++g)|none=>Q .next env' (B S k m G st++g))->(∃w,env 252=some w)->
  Bz (some (i,XS)) (fun v K env' μ'=>opt (AC [19] true v env') fun e=>ws lX (Ak lX prog n) hd gh K X e μ') (L.map .int) Q env (B S k m G st++g):=by
 induction L with
 |nil=>intro _ env a1 a2 a3 a4 h _;exact⟨hi,h env a4 rfl⟩
 |cons v L ih=>
  intro hL env a1 a2 a3 a4 h hw
  obtain⟨kd,tk,V⟩:=hL v gJ
  refine⟨hi,?_⟩
  refine Ab a1 ?_
  refine Ab a2 ?_
  refine aH hn C V oB V.pr ?_
  refine Ab a3 ?_
  have q:nZ st v=Dc kd (mX st v) v (Ah v):=by unfold nZ;rw[V.oq];rfl
  refine Ap (fun e=>?_) fun e=>?_
  ·have e:(nZ st v==b)=true:=by rw[q];exact e
   obtain⟨w,hw⟩:=hw
   have h:=h (Ad env 19 (.int v)) a4 rfl
   rw[ik,e]at h
   refine Ab hw ?_
   exact h w hw
  ·have e:(nZ st v==b)=false:=by rw[q];exact e
   refine ih (fun s hs=>hL s (gz _ hs)) _ a1 a2 a3 a4 (fun env' b1 b2=>?_) hw
   have h:=h env' b1 b2
   rw[ik,e]at h
   exact h
theorem WT{Q:Ae}{L:List Int}(hn:5<=n)(C:mF G st)(oB:G.size<=20)(hL:∀v∈L,∃kd tk,Mv G st v kd tk)(hi:g[i]?=some (il L))
  (hN:L.find? (fun v=>nZ st v==(AX t).1)=none->X (exc hd 1) (B S k m G st++g)) (hS:∀v,L.find? (fun v=>nZ st v==(AX t).1)=some v->Q (.tup [.int v,.str (AX t).2]) (B S k m G st++g)):CG n hd 269 [.int 4,.lW 56,.lW (i+61),.str t] Q X (B S k m G st++g):=by
 refine stp hn fun n hn=>?_
 refine TQ (l0 hn rfl) ?_
 refine Ab (Be hi) ?_
 refine A0 ?_
 refine XV (b:=(AX t).1) (t:=t) (l0 hn rfl) C oB (A5 hi) L hL _ ?_ ?_ ?_ ?_ (fun env' a b=>?_) ⟨_,rfl⟩
 any_goals rfl
 cases e:L.find? (fun v=>nZ st v==(AX t).1) with
 |some v=>intro w hw;obtain rfl:=Option.some.inj hw;exact hS v e
 |none=>
  refine Ab a ?_
  exact hN e
noncomputable def Ol(mk:Int->List Nat)(G:l7)(st:St)(t:List Nat):Option Int:=((Ay G st).find? fun v=>nZ st v==(AX t).1).filter fun v=>Db (AX t).2 (mk v)
theorem TY{Q:Ae}{mk:Int->List Nat}(hn:12<=n)(GC:Ch G m)(F:Er G m st mk)
  (hN:Ol mk G st t=none->∀e,X (exc hd 1) (B S k m G st++(g++e))) (hS:∀v,Ol mk G st t=some v->∀e,Q (.int v) (B S k m G st++(g++e))):CG n hd 270 [.lW 54,.str t] Q X (B S k m G st++g):=by
 refine stp hn fun n hn=>?_
 unfold Ol at hN hS
 refine Fq (l0 hn rfl) GC.S F.R.C.low F.R.q0 F.R.q1 GC.hr F.R.ps (B5 G st) ?_
 intro e j hj
 refine WT (l0 hn rfl) F.R.C GC.S.top (fun v h=>by obtain⟨kd,tk,V,_⟩:=F.mv v h;exact⟨kd,tk,V⟩) hj (fun z=>hN (by refine z.symm▸?_;rfl) _) fun v z=>?_
 have hv:=List.mem_of_find?_eq_some z
 rw[z]at hN hS
 have hS:Db (AX t).2 (mk v)=true->∀e,Q (.int v) (B S k m G st++(g++e)):=fun a=>hS v (by show(if Db _ _=true then some v else none)=_;exact(iI a))
 have hN:Db (AX t).2 (mk v)=false->∀e,X (exc hd 1) (B S k m G st++(g++e)):=fun a=>hN (by show(if Db _ _=true then some v else none)=_;refine a.symm▸?_;rfl)
 unfold Db at hS hN
 refine Ap (fun e1=>?_) fun e1=>?_
 ·have e1:((AX t).2==[])=false:=by simpa using e1
  (replace hS:=e1▸hS;replace hN:=e1▸hN)
  refine Nu (l0 hn rfl) GC F hv fun e2=>?_
  rw[gu]
  refine Ap (fun e3=>?_) fun e3=>?_
  ·have e3:(mk v==(AX t).2)=false:=by simpa using e3
   exact hN e3 _
  ·have e3:(mk v==(AX t).2)=true:=by simpa using e3
   exact hS e3 _
 ·have e1:((AX t).2==[])=true:=by simpa using e1
  rw[e1]at hS
  exact hS rfl _
end
noncomputable def fd(c:Nat):Int:=AE c nW 0
theorem E8(c:Nat)(l:List Nat):∀i:Int,0<=i->AE c l i = -1\/(i<=AE c l i/\AE c l i<i+l.length):=by
 induction l with
 |nil=>intro i _;exact .inl rfl
 |cons x l ih=>
  intro i h
  unfold AE
  rw[gQ]
  split
  ·right;exact⟨ov (mn _) md md rfl,mI (mT _ _) (mj 0 1) (.add md (mj 1 1)) (.num 0) mP rfl (gO _)⟩
  ·rcases ih (i+1) (by exact OA h)with e|e
   ·exact .inl e
   ·right;exact⟨mI (mT _ _) md mP (mj 0 1) mP rfl e.1,mI (nB _ _ _) (mj 1 1) (.add md (mj 2 1)) (mj 1 1) (.add (mj 0 1) oH) rfl e.2⟩
theorem d8(c:Nat):-1<=fd c/\fd c<8:=by
 have h:=E8 c nW 0 (ix 0)
 replace h:=(show nW.length=8 from rfl)▸h
 unfold fd
 lia
noncomputable def JK(R a b:Int):Bool:=decide (0<=a)&&(decide (a<4)&&(decide (0<=b)&&decide (b<R)))
noncomputable def Lb(R:Int)(xs:List Int)(L:List Nat):Bool:=L.all fun i=>JK R (xs.getD i 0) (xs.getD (i+1) 0)
noncomputable def Ik(R a b c d p:Int):Option (Int×Int×Int):=match JK R a b&&JK R c d with
 |true=>some (b*4+a,d*4+c,p)
 |false=>none
noncomputable def KW(R:Int):List Nat->Option (Int×Int×Int)
 |[a,b,c,d]=>Ik R (fd a) (fd b) (fd c) (fd d) 0
 |[a,b,c,d,e]=>match decide (0<=fd e)&&decide (fd e<4) with
  |true=>Ik R (fd a) (fd b) (fd c) (fd d) (5 - fd e)
  |false=>none
 |_=>none
section
variable{S:List Int}{k:Int}{m:Nat}{G:l7}{st:St}{g:MH}{n:Nat}{hd:Bool}{X:As}{μ:MH}
noncomputable def icB:MS:=fb (mR 2 DH)
theorem Rn{Q:Au}(L:List Nat):∀(g:MH) (xs:List Int) (env:An),g[j]?=some (il xs)->xs.length+L.length<1000->env 271=some (.lW (j+61))->
  (∀env',(∀x,x≠252->env' x=env x)->Q .next env' (B S k m G st++g.set j (il (xs++L.map fd))))->
  Bz none (fun v K env' μ'=>opt (AC [252] true v env') fun e=>ws lX (Ak lX prog n) hd icB K X e μ') (L.map fun c=>.str [c]) Q env (B S k m G st++g):=by
 induction L with
 |nil=>
  intro g xs env hj hl e1 h
  have h:=h env fun _ _=>rfl
  rw[lC,gD,Bj hj]at h
  exact h
 |cons c L ih=>
  intro g xs env hj hl e1 h
  rw[gQ]at hl
  refine Ab e1 ?_
  refine Df hj ?_
  refine Ab (Dz hj) ?_
  refine Aj (room (by exact fe hl)) ?_
  rw[Fg]
  refine ih (g.set j (il (xs++[fd c]))) (xs++[fd c]) _ (AJ hj) (by rw[gx];show _+1+_<_;exact fg hl) e1 fun env' a=>?_
  have h:=h env' fun x hx=>(a x hx).trans (iH hx)
  rw[hW,gu]
  exact h
noncomputable def ckB:MS:=fb (mR 3 DH)
theorem Q3{Q:Au}{xs:List Int}(hi:(B S k m G st++g)[i]?=some (.list XS))(hj:g[j]?=some (il xs))(L:List Nat):∀(_:∀x∈L,x+1<xs.length) (env:An),env 271=some (.lW (j+61))->env 45=some (.int 4)->env 49=some (.int R)->env 224=some (.str t)->
  (Lb R xs L=false->X (exc hd 1) (B S k m G st++g))->(Lb R xs L=true->∀env',(∀x,x≠272->env' x=env x)->Q .next env' (B S k m G st++g))->
  Bz (some (i,XS)) (fun v K env' μ'=>opt (AC [272] true v env') fun e=>ws lX (Ak lX prog n) hd ckB K X e μ') (L.map fun(x:Nat)=>.int x) Q env (B S k m G st++g):=by
 induction L with
 |nil=>intro _ env e1 e2 e3 e4 hN hS;exact⟨hi,hS rfl env fun _ _=>rfl⟩
 |cons y L ih=>
  intro hL env e1 e2 e3 e4 hN hS
  have hy:=hL y gJ
  have oM:∀x∈L,x+1<xs.length:=fun s hs=>hL s (gz _ hs)
  have un:Lb R xs (y :: L)=(JK R (xs.getD y 0) (xs.getD (y+1) 0)&&Lb R xs L):=rfl
  (replace hN:=un▸hN;replace hS:=un▸hS)
  unfold JK at hN hS
  have p1:((y:Int)+1).toNat=y+1:=by rfl
  have p0:((y:Int)).toNat=y:=by rfl
  refine⟨hi,?_⟩
  refine Ab e1 ?_
  refine AO (A5 hj) (gO y) (by exact mI (mT _ _) (mj 0 1) mP (.add (mj 0 1) (.num 1)) mP rfl (Int.ofNat_lt.mpr hy)) ?_
  refine Ap (fun e=>?_) fun e=>?_
  ·have e:decide (0<=xs.getD y 0)=true:=e
   (replace hN:=e▸hN;replace hS:=e▸hS)
   refine Ab e2 ?_
   refine Ap (fun e=>?_) fun e=>?_
   ·have e:decide (xs.getD y 0<4)=false:=by simpa using e
    replace hN:=e▸hN
    refine Ab e4 ?_
    exact hN rfl
   ·have e:decide (xs.getD y 0<4)=true:=by simpa using e
    (replace hN:=e▸hN;replace hS:=e▸hS)
    refine Ab e1 ?_
    refine AO (A5 hj) (by exact OA (gO _)) (by exact mI (mT _ _) (.add (mj 0 1) (.num 1)) mP (.add (mj 0 1) (.num 1)) mP rfl (Int.ofNat_lt.mpr hy)) ?_
    refine Ap (fun e=>?_) fun e=>?_
    ·have e:decide (0<=xs.getD (y+1) 0)=true:=e
     (replace hN:=e▸hN;replace hS:=e▸hS)
     refine Ab e3 ?_
     refine Ap (fun e=>?_) fun e=>?_
     ·have e:decide (xs.getD (y+1) 0<R)=false:=by simpa using e
      replace hN:=e▸hN
      refine Ab e4 ?_
      exact hN rfl
     ·have e:decide (xs.getD (y+1) 0<R)=true:=by simpa using e
      (replace hN:=e▸hN;replace hS:=e▸hS)
      refine ih oM _ e1 e2 e3 e4 hN fun z env' a=>hS z env' fun x hx=>(a x hx).trans (iH hx)
    ·have e:decide (0<=xs.getD (y+1) 0)=false:=e
     replace hN:=e▸hN
     refine Ab e4 ?_
     exact hN rfl
  ·have e:decide (0<=xs.getD y 0)=false:=e
   replace hN:=e▸hN
   refine Ab e4 ?_
   exact hN rfl
theorem UE{Q:Au}{xs:List Int}(hj:g[j]?=some (il xs))(hl:3<xs.length)(hs:∀i, -1<=xs.getD i 0/\xs.getD i 0<8)(e1:env 271=some (.lW (j+61)))(e2:env 45=some (.int 4))(e3:env 14=some (.int p))
  (h:∀env',Q (.ret (QH (xs.getD 1 0*4+xs.getD 0 0,xs.getD 3 0*4+xs.getD 2 0,p))) env' (B S k m G st++g)):ws lX (Ak lX prog n) hd (AT 6 DH) Q X env (B S k m G st++g):=by
 have sm:∀i,small (xs.getD i 0)=true:=fun i=>D0 (by have:=hs i;lia) (by have:=hs i;lia)
 refine Ab e1 ?_
 refine AO (A5 hj) (by decide) (by exact mI (mn _) (.add (.num 1) (.num 1)) md (.add (.num 3) (.num 1)) md rfl (Int.ofNat_lt.mpr hl)) ?_
 refine Ab e2 ?_
 refine Aj (sm 1) ?_
 refine Ab e1 ?_
 refine AO (A5 hj) (by decide) (by exact mI (mn _) (.add (.num 0) (.num 1)) md (.add (.num 3) (.num 1)) md rfl (Int.ofNat_lt.mpr hl)) ?_
 refine Ab e1 ?_
 refine AO (A5 hj) (by decide) (by exact mI (mn _) (.add (.num 3) (.num 1)) md (.add (.num 3) (.num 1)) md rfl (Int.ofNat_lt.mpr hl)) ?_
 refine Ab e2 ?_
 refine Aj (sm 3) ?_
 refine Ab e1 ?_
 refine AO (A5 hj) (by decide) (by exact mI (mn _) (.add (.num 2) (.num 1)) md (.add (.num 3) (.num 1)) md rfl (Int.ofNat_lt.mpr hl)) ?_
 refine Ab e3 ?_
 exact h _
theorem Z5(l:List Nat)(i:Nat):-1<=(l.map fd).getD i 0/\(l.map fd).getD i 0<8:=by
 (refine List.getD_eq_getElem?_getD.symm▸?_;refine List.getElem?_map.symm▸?_)
 cases l[i]? with
 |none=>exact⟨by decide,by decide⟩
 |some c=>exact d8 c
theorem ZL:Ik R a b c d p=match Lb R (a :: b :: c :: d :: r) [0,2]with|true=>some (b*4+a,d*4+c,p)|false=>none:=by
 have e:Lb R (a :: b :: c :: d :: r) [0,2]=(JK R a b&&JK R c d):=by
  show(JK R a b&&(JK R c d&&true))=_
  rw[lq]
 refine e.symm▸?_;rfl
theorem eQ:∀x∈[0,2],x+1<4:=by decide
theorem LF{t:List Nat}(h4:t.length≠4)(h5:t.length≠5):KW R t=none:=by
 rcases t with _|⟨a,_|⟨b,_|⟨c,_|⟨d,_|⟨e,_|⟨f,r⟩⟩⟩⟩⟩⟩<;>first|rfl|exact absurd rfl h4|exact absurd rfl h5
theorem aK{Q:Ae}(hn:1<=n)(h:∀e,FK QH Q X (exc hd 1) (KW R t) (B S k m G st++(g++e))):CG n hd 273 [.int 4,.int R,.str t] Q X (B S k m G st++g):=by
 refine stp hn fun n hn=>?_
 have hj:∀xs:List Int,(g++[il xs])[g.length]?=some (il xs):=fun xs=>gv
 have hx:∀xs:List Int,(g++[il xs]++[MO.list [.int 0,.int 2]])[g.length]?=some (il xs):=fun xs=>Ac (hj xs) _
 have hi:∀xs:List Int,(B S k m G st++(g++[il xs]++[MO.list [.int 0,.int 2]]))[(g++[il xs]).length+61]?=some (.list [.int 0,.int 2]):=fun xs=>(gv:(g++[il xs]++[MO.list [.int 0,.int 2]])[(g++[il xs]).length]?=_)
 revert h
 refine Rt t (fun a b c d h=>?_) (fun a b c d e h=>?_) fun t s4 s5 h=>?_
 rotate_left 2
 ·clear hj hx hi
  have h:=h []
  (rw[gD]at h;replace h:=(LF s4 s5)▸h)
  refine DT (ie (b:=(4:Int)).mpr fun z=>s4 (Int.ofNat.inj z)) ?_
  refine DT (ie (b:=(5:Int)).mpr fun z=>s5 (Int.ofNat.inj z)) ?_
  exact h
 ·have h:=h ([il [fd a,fd b,fd c,fd d]]++[.list [.int 0,.int 2]])
  have h:FK QH Q X (exc hd 1) (Ik R (fd a) (fd b) (fd c) (fd d) 0) (B S k m G st++(g++([il [fd a,fd b,fd c,fd d]]++[.list [.int 0,.int 2]]))):=h
  (replace h:=(ZL (r:=[]))▸h;rw[<- gu g]at h)
  refine A0 ?_
  refine Rn (j:=g.length) [a,b,c,d] (g++[il []]) [] _ (hj []) (by show 4<1000;decide) rfl fun env' a1=>?_
  rw[g8 _ _ (gE _),iB]
  refine Ab BP ?_
  refine A0 ?_
  refine Q3 (g:=g++[il [fd a,fd b,fd c,fd d]]++[.list [.int 0,.int 2]]) (R:=R) (t:=[a,b,c,d]) (xs:=[fd a,fd b,fd c,fd d]) (hi _) (hx _) [0,2] eQ _ (a1 271 (by decide)) (a1 45 (by decide)) (a1 49 (by decide)) (a1 224 (by decide)) (fun z=>?_) fun z mQ a2=>?_
  ·replace h:=z▸h;exact h
  ·replace h:=z▸h
   refine Ab ((a2 224 (by decide)).trans (a1 224 (by decide))) ?_
   have b1:mQ 271=some (.lW (g.length+61)):=(a2 271 (by decide)).trans (a1 271 (by decide))
   have b3:mQ 45=some (.int 4):=(a2 45 (by decide)).trans (a1 45 (by decide))
   have z:=fun Q h=>UE (S:=S) (k:=k) (m:=m) (G:=G) (st:=st) (g:=g++[il [fd a,fd b,fd c,fd d]]++[.list [.int 0,.int 2]]) (j:=g.length) (n:=n) (hd:=hd) (X:=X) (Q:=Q) (env:=Ad mQ 14 (.int 0)) (p:=0) (xs:=[fd a,fd b,fd c,fd d]) (hx [fd a,fd b,fd c,fd d]) (by show 3<4;decide) (Z5 [a,b,c,d]) b1 b3 rfl h
   refine z (fun fl _ μ'=>match fl with|.ret v=>Q v μ'|.next=>Q .none μ'|.cont=>False) ?_
   intro _
   exact h
 ·have h:=h ([il [fd a,fd b,fd c,fd d,fd e]]++[.list [.int 0,.int 2]])
  have h:FK QH Q X (exc hd 1) (match decide (0<=fd e)&&decide (fd e<4)with|true=>Ik R (fd a) (fd b) (fd c) (fd d) (5 - fd e)|false=>none) (B S k m G st++(g++([il [fd a,fd b,fd c,fd d,fd e]]++[.list [.int 0,.int 2]]))):=h
  (replace h:=(ZL (r:=[fd e]))▸h;rw[<- gu g]at h)
  refine A0 ?_
  refine Rn (j:=g.length) [a,b,c,d,e] (g++[il []]) [] _ (hj []) (by show 5<1000;decide) rfl fun env' a1=>?_
  rw[g8 _ _ (gE _),iB]
  refine Ab BP ?_
  refine A0 ?_
  refine Q3 (g:=g++[il [fd a,fd b,fd c,fd d,fd e]]++[.list [.int 0,.int 2]]) (R:=R) (t:=[a,b,c,d,e]) (xs:=[fd a,fd b,fd c,fd d,fd e]) (hi _) (hx _) [0,2] (fun x hx=>gZ (eQ x hx)) _ (a1 271 (by decide)) (a1 45 (by decide)) (a1 49 (by decide)) (a1 224 (by decide)) (fun z=>?_) fun z mQ a2=>?_
  ·replace h:=z▸h
   revert h
   cases decide (0<=fd e)&&decide (fd e<4)<;>exact fun h=>h
  ·replace h:=z▸h
   have b1:=(a2 271 (by decide)).trans (a1 271 (by decide))
   have b2:=(a2 224 (by decide)).trans (a1 224 (by decide))
   refine Ab b2 ?_
   refine Ab b1 ?_
   refine AO (A5 (hx _)) (by decide) (by show(4:Int)<5;decide) ?_
   refine Ap (fun e3=>?_) fun e3=>?_
   ·have e3:decide (0<=fd e)=true:=e3
    replace h:=e3▸h
    refine Ap (fun e4=>?_) fun e4=>?_
    ·have e4:decide (fd e<4)=false:=by
      have e4:(!decide (fd e<4))=true:=e4
      simpa using e4
     replace h:=e4▸h
     refine Ab b2 ?_
     exact h
    ·have e4:decide (fd e<4)=true:=by
      have e4:(!decide (fd e<4))=false:=e4
      simpa using e4
     replace h:=e4▸h
     refine Ab b1 ?_
     refine AO (A5 (hx _)) (by decide) (by show(4:Int)<5;decide) ?_
     refine UE (Q:=fun fl _ μ'=>match fl with|.ret v=>Q v μ'|.next=>Q .none μ'|.cont=>False) (env:=Ad (Ad mQ 14 (.int 0)) 14 (.int (5 - fd e))) (p:=5 - fd e) (xs:=[fd a,fd b,fd c,fd d,fd e]) (hx _) (by show 3<5;decide) (Z5 [a,b,c,d,e]) b1 ((a2 45 (by decide)).trans (a1 45 (by decide))) rfl ?_
     intro _
     exact h
   ·have e3:decide (0<=fd e)=false:=e3
    replace h:=e3▸h
    refine Ab b2 ?_
    exact h
theorem XW{Q:Ae}{L:List Int}(hn:2<=n)(hj:g[j]?=some (il L))(h:∀e,FK .int Q X (exc hd 1) ((KW R t).bind fun q=>L.find? (Du q)) (B S k m G st++(g++e))):CG n hd 274 [.int 4,.int R,.lW (j+61),.str t] Q X (B S k m G st++g):=by
 refine stp hn fun n hn=>?_
 refine aK (l0 hn rfl) ?_
 intro e
 have h:=h e
 revert h
 cases KW R t with
 |none=>intro h;exact h
 |some q=>
  intro h
  have h:FK .int Q X (exc hd 1) (L.find? (Du q)) (B S k m G st++(g++e)):=h
  refine Ab (Be (Ac hj e)) ?_
  refine A0 ?_
  refine Rh (q:=q) (t:=t) (l0 hn rfl) (A5 (Ac hj e)) L _ ?_ ?_ ?_ ?_ fun env' a=>?_
  any_goals rfl
  revert h
  cases L.find? (Du q) with
  |some v=>intro h;exact h
  |none=>
   intro h
   refine Ab a ?_
   exact h
theorem TX{Q:Ae}(hn:12<=n)(GC:Ch G m)(R:HM G st)(h:∀e,FK .int Q X (exc hd 1) ((KW G.ranks t).bind fun q=>(Ay G st).find? (Du q)) (B S k m G st++(g++e))):CG n hd 275 [.lW 54,.str t] Q X (B S k m G st++g):=by
 refine stp hn fun n hn=>?_
 refine Fq (l0 hn rfl) GC.S R.C.low R.q0 R.q1 GC.hr R.ps (B5 G st) ?_
 intro e j hj
 refine XW (l0 hn rfl) hj ?_
 intro e'
 rw[gu]
 have h:=h (e++e')
 revert h
 cases(KW G.ranks t).bind fun q=>(Ay G st).find? (Du q) with
 |none=>intro h;exact h
 |some v=>intro h;exact h
end
noncomputable def fh:MS->MS
 |.nh _ _ h=>h
 |s=>s
noncomputable def R1(G:l7)(st:St)(t:List Nat):Option Int:=(KV G.ranks t).bind fun q=>(Ay G st).find? (Du q)
noncomputable def tR(G:l7)(st:St)(t:List Nat):Option Int:=(KW G.ranks t).bind fun q=>(Ay G st).find? (Du q)
noncomputable def rX{α:Type}(a b:Option α):Option α:=match a with|some x=>some x|none=>b
noncomputable def FV(mk:Int->List Nat)(G:l7)(st:St)(t:List Nat):Option Int:=rX (R1 G st t) (rX (VZ mk G st t) (rX (Ol mk G st t) (tR G st t)))
noncomputable def bY:Option Int->V
 |some v=>.int v
 |none=>.none
section
variable{S:List Int}{k:Int}{m:Nat}{G:l7}{st:St}{g:MH}{n:Nat}{X:As}{μ:MH}
theorem aN{Q:Ae}{mk:Int->List Nat}(hn:13<=n)(GC:Ch G m)(F:Er G m st mk)
  (hN:FV mk G st t=none->∀e,X 11 (B S k m G st++(g++e))) (hS:∀v,FV mk G st t=some v->∀e,Q (.int v) (B S k m G st++(g++e))):CG n false 276 [.lW 54,.str t] Q X (B S k m G st++g):=by
 refine stp hn fun n hn=>?_
 unfold FV at hN hS
 refine WS (l0 hn rfl) GC F.R ?_
 intro e
 show FK .int _ _ _ (R1 G st t) _
 revert hN hS
 cases R1 G st t with
 |some v=>intro _ hS;exact hS v rfl e
 |none=>
  intro hN hS
  refine dX (mk:=mk) (l0 hn rfl) GC F (fun z c e' hc=>?_) fun v z e'=>?_
  ·rw[z]at hN hS
   rw[gu]
   have rest:CG n false 270 [.lW 54,.str t] (fun v μ'=>Q v μ') (fun r μ'=>pT (DW r 1) (A7 (decide (r<10)||Hs (fh (mR 2 EU))) (ws lX (Ak lX prog n) true (fh (mR 2 EU)) (fun fl _ μ'=>match fl with|.ret v=>Q v μ'|.next=>Q .none μ'|.cont=>False) X (Ad (Ad (fun _=>none) 102 (.lW 54)) 224 (.str t)) μ')) (X r μ')) (B S k m G st++(g++(e++e'))):=by
    refine TY (mk:=mk) (l0 hn rfl) GC F (fun z2 e2=>?_) fun v z2 e2=>?_
    ·rw[z2]at hN hS
     refine TX (l0 hn rfl) GC F.R fun e3=>?_
     show FK .int _ _ _ (tR G st t) _
     revert hN hS
     cases tR G st t with
     |some v=>
      intro _ hS
      rw[gu,gu]
      exact hS v rfl _
     |none=>
      intro hN _
      rw[gu,gu]
      exact hN rfl _
    ·replace hS:=z2▸hS
     rw[gu]
     exact hS v rfl _
   rcases hc with rfl|rfl
   ·exact rest
   ·exact rest
  ·replace hS:=z▸hS
   rw[gu]
   exact hS v rfl _
theorem WM{Q:Ae}{mk:Int->List Nat}(hn:14<=n)(GC:Ch G m)(F:Er G m st mk)
  (h:∀e,Q (bY (FV mk G st t)) (B S k m G st++(g++e))):CG n false 306 [.lW 54,.str t] Q X (B S k m G st++g):=by
 refine stp hn fun n hn=>?_
 refine aN (mk:=mk) (l0 hn rfl) GC F (fun z e=>?_) fun v z e=>?_
 ·have h:=h e
  rw[z]at h
  exact h
 ·have h:=h e
  rw[z]at h
  exact h
end
noncomputable def LD:MO:=.dict [(6,.str [75]),(5,.str [81]),(4,.str [82]),(3,.str [66]),(2,.str [78]),(1,.str [])]
theorem bF{l:List Int}(ha:μ[a]?=some (il l))(hb:μ[b]?=some (il [])):JB μ .NotEq (.lW a) (.lW b)=some (!l.isEmpty):=by
 show(rj μ (.lW a) (.lW b)).map (!·)=_
 rw[PH ha hb];rfl
theorem PJ{α:Type}(p:α->Bool)(l:List α):(l.filter p).isEmpty=!l.any p:=by
 induction l with
 |nil=>rfl
 |cons a l ih=>
  refine List.any_cons.symm▸?_
  cases e:p a with
  |true=>rw[jd e];rfl
  |false=>rw[je (by refine e.symm▸?_;exact iM),ih];rfl
section
variable{S:List Int}{k:Int}{m:Nat}{G:l7}{st:St}{g:MH}{n:Nat}{hd:Bool}{X:As}{μ:MH}
theorem Os:(B S k m G st++g++[MO.dict []]).set (B S k m G st++g).length o=B S k m G st++(g++[o]):=by
 rw[g8 _ _ (gE _),iB];rfl
theorem Rq{p:Prop}(h:p):@Bool.rec (fun _=>Prop) False p (PE (B S k m G st++g++[MO.dict []])[(B S k m G st++g).length]?):=by
 rw[gv];exact h
theorem Ec{Q:Ae}(hn:1<=n)(h:Q (.lW (g.length+61)) (B S k m G st++(g++[LD]))):CG n hd 277 [] Q X (B S k m G st++g):=by
 refine stp hn fun n hn=>?_
 refine Rq ?_
 conv=>whnf
 rw[Os]
 exact h
theorem JP{kd:Nat}(h1:1<=kd)(h7:kd<7):B6 (B S k m G st++(g++[LD])) (.lW (g.length+61)) (.int kd)=some (.str (DY kd)):=by
 have e:(B S k m G st++(g++[LD]))[g.length+61]?=some LD:=(gv:(g++[LD])[g.length]?=_)
 refine(OT e).symm▸?_
 rcases(by lia:kd=1\/kd=2\/kd=3\/kd=4\/kd=5\/kd=6)with rfl|rfl|rfl|rfl|rfl|rfl<;>rfl
theorem Jo{Q:Ae}(hn:1<=n)(h0:0<=s)(h1:s<20)(h:Q (.str (mY s)) μ):CG n hd 290 [.int s] Q X μ:=by
 refine stp hn fun n hn=>?_
 have q1:B6 μ (.str [97,98,99,100]) (.int (s.fmod 4))=some (.str [97+(s.fmod 4).toNat]):=by
  rcases(by lia:s.fmod 4=0\/s.fmod 4=1\/s.fmod 4=2\/s.fmod 4=3)with e|e|e|e<;>refine e.symm▸?_<;>rfl
 have q2:B6 μ (.str [49,50,51,52,53]) (.int (s.fdiv 4))=some (.str [49+(s.fdiv 4).toNat]):=by
  rcases(by lia:s.fdiv 4=0\/s.fdiv 4=1\/s.fdiv 4=2\/s.fdiv 4=3\/s.fdiv 4=4)with e|e|e|e|e<;>refine e.symm▸?_<;>rfl
 refine Af q1 ?_
 refine Af q2 ?_
 exact h
theorem WO{Q:Ae}{mk:Int->List Nat}(hn:12<=n)(GC:Ch G m)(F:Er G m st mk)(hv:v∈Ay G st)(h:∀e,Q (.str (mk v)) (B S k m G st++(g++e))):CG n hd 292 [.lW 54,.int v] Q X (B S k m G st++g):=by
 refine stp hn fun n hn=>?_
 obtain⟨kd,tk,V,R,e⟩:=F.mv v hv
 have A:=after (m:=m) F.R.C V
 rw[e]at h
 refine ZF (l0 hn rfl) F.R.C V GC F.hist ?_
 refine Ir (l0 hn rfl) GC.S R.C.low R.q0 R.q1 ?_
 unfold JV at h
 revert R h A
 generalize Ij m st kd tk v=s
 intro h R A
 refine Ap (fun e=>?_) fun e=>?_
 ·have e:Bo G s s.side=false:=by simpa using e
  replace h:=e▸h
  refine It (l0 hn rfl) F.R.C V A GC ?_
  have h:=h []
  rw[gD]at h
  exact h
 ·have e:Bo G s s.side=true:=by simpa using e
  replace h:=e▸h
  refine Fq (l0 hn rfl) GC.S R.C.low R.q0 R.q1 GC.hr R.ps (B5 G s) ?_
  intro e' j hj
  have q1:(B S k m G s++(g++e')++[il []])[j+61]?=some (il (Ay G s)):=Ac (A5 hj) _
  have q2:(B S k m G s++(g++e')++[il []])[(B S k m G s++(g++e')).length]?=some (il []):=gv
  have q3:(Ay G s).isEmpty=!(oA G s).any (Bs G s (C9 G s s.side)):=by
   unfold Ay Cp
   refine e.symm▸?_;exact PJ _ _
  refine Ab (bF q1 q2) ?_
  rw[q3]
  revert h
  cases(oA G s).any (Bs G s (C9 G s s.side))
  all_goals
   intro h
   conv=>whnf
   rw[gu (B S k m G s),gu g]
   refine It (l0 hn rfl) F.R.C V A GC ?_
   exact h _
end
noncomputable def sl(l:List (List Nat)):MO:=.list (l.map .str)
noncomputable def Cj(p:Int):List (List Nat):=match p==0 with
 |true=>[[]]
 |false=>[[61]++[mW p.toNat],[mW p.toNat]]
noncomputable def EL(kd:Nat)(x:Bool)(s:Int):List (List Nat):=match(kd==1)&&x with
 |true=>[[97+(s.fmod 4).toNat],mY s]
 |false=>[[],[97+(s.fmod 4).toNat],[49+(s.fdiv 4).toNat],mY s]
noncomputable def EX(kd:Nat)(x:Bool)(t:Int)(o e:List Nat):List Nat:=DY kd++o++BC x []++mY t++e
noncomputable def DK(kd:Nat)(x:Bool)(v p:Int):List (List Nat):=(EL kd x (Ai v)).flatMap fun o=>(Cj p).map fun e=>EX kd x (mc v) o e
noncomputable def EN(v p:Int):List Nat:=mY (Ai v)++mY (mc v)++(match p==0 with|true=>[]|false=>[mW p.toNat+32])
noncomputable def oU(s:Int):List Nat:=[48+(AE (97+(s.fmod 4).toNat) [97,98,99,100] 0+1).toNat,49+(s.fdiv 4).toNat]
noncomputable def pK:Nat->List Nat
 |5=>[49]|4=>[50]|3=>[51]|_=>[52]
noncomputable def PC(v p:Int):List Nat:=oU (Ai v)++oU (mc v)++(match p==0 with|true=>[]|false=>pK p.toNat)
theorem GH(kd:Nat):(DY kd).length<=1:=by
 unfold DY
 split
 ·exact ic _
 ·exact gE 1
theorem Fv(x:Bool)(e:List Nat):(BC x e).length<=1+e.length:=by cases x;exact jh _ _;exact hH _ _
section
variable{S:List Int}{k:Int}{m:Nat}{G:l7}{st:St}{g:MH}{n:Nat}{hd:Bool}{X:As}{μ:MH}
theorem FQ(h:g[r]?=some (.list xs)):By (B S k m G st++g) (r+61)=some xs:=CO (μ:=B S k m G st++g) (n:=r+61) h
theorem Ln(h:g[r]?=some (.list xs)):C6 (B S k m G st++g) (.lW (r+61))=some (xs,some (r+61,xs)):=UK (μ:=B S k m G st++g) (n:=r+61) h
theorem VK{xs:List (List Nat)}:(B S k m G st++g).set (j+61) (.list (xs.map .str++[.str v]))=B S k m G st++g.set j (sl (xs++[v])):=by
 rw[show sl (xs++[v])=.list (xs.map V.str++[.str v]) by unfold sl;rw[ki];rfl];rfl
theorem Z2{o:List (List Nat)}(h:o.length<100000):decide ((o.map V.str).length<lim)=true:=gy (by rw[gS];exact g6 h (by decide))
theorem FJ{u v:List Nat}(hu:u.length<=a)(hv:v.length<=b)(h:a+b<=1000):decide (u.length+v.length<=lim)=true:=gy (gA (jk hu hv) (gA h (by decide)))
noncomputable def uf:ME:=(ME.bin .Add (.bin .Add (.bin .Add (.bin .Add (.sub (.call 277 .nil) (.lW 1)) (.lW 11)) (.lW 260)) (.call 290 (.cons (.lW 61) .nil))) (.lW 300))
theorem WG{Q:Ae}{o e:List Nat}(hn:1<=n)(k1:1<=kd)(k7:kd<7)(t0:0<=t)(ox:t<20)(ho:o.length<=2)(he:e.length<=2)(e1:env 1=some (.int kd))(e2:env 11=some (.str o))(e3:env 260=some (.str (BC x [])))(e4:env 61=some (.int t))(e5:env 300=some (.str e))
  (h:Q (.str (EX kd x t o e)) (B S k m G st++(g++[LD]))):we lX (Ak lX prog n false) env uf Q (fun _ _=>False) (B S k m G st++g):=by
 have l1:=GH kd
 have l2:(DY kd++o).length<=3:=by refine List.length_append.symm▸?_;exact o9 (mT _ _) (.add mD mi) (.num 3) mi (.num 2) mD (.num 1) rfl ho l1
 have l3:(DY kd++o++BC x []).length<=4:=by refine List.length_append.symm▸?_;have:=Fv x [];show _<=3+1;exact jk l2 this
 have l4:(DY kd++o++BC x []++mY t).length<=6:=by refine List.length_append.symm▸?_;exact jk l3 (gE 2)
 refine Ec hn ?_
 refine Ab e1 ?_
 refine Af (JP k1 k7) ?_
 refine Ab e2 ?_
 refine Aj (FJ l1 ho (by decide)) ?_
 refine Ab e3 ?_
 refine Aj (FJ l2 (Fv x []) (by decide)) ?_
 refine Ab e4 ?_
 refine Jo hn t0 ox ?_
 refine Aj (FJ (b:=2) l3 (gE 2) (by decide)) ?_
 refine Ab e5 ?_
 refine Aj (FJ l4 he (by decide)) ?_
 exact h
theorem XD{K:MH->Prop}{E:List V}{o:List Nat}(hn:1<=n)(k1:1<=kd)(k7:kd<7)(t0:0<=t)(ox:t<20)(ho:o.length<=2)(ij:j≠i2)(e1:env 1=some (.int kd))(e2:env 11=some (.str o))(e3:env 260=some (.str (BC x [])))(e4:env 61=some (.int t))(L:List (List Nat)):∀(_:∀e∈L,e.length<=2) (g:MH) (xs:List (List Nat)),g[i2]?=some (.list E)->g[j]?=some (sl xs)->xs.length+L.length<1000->
  (∀e',K (B S k m G st++(g.set j (sl (xs++L.map (EX kd x t o)))++e')))->
  Dq (some (i2+61,E)) (j+61) (fun _ K' oj=>K' true oj) (fun v2 K' oj=>we lX (Ak lX prog n false) (Ad env 300 v2) uf K' (fun _ _=>False) oj) (L.map .str) K (B S k m G st++g):=by
 induction L with
 |nil=>
  intro _ g xs hi hj hl h
  have h:=h []
  rw[lC,gD,gD,Bj hj]at h
  exact⟨hi,h⟩
 |cons e L ih=>
  intro hL g xs hi hj hl h
  rw[gQ]at hl
  refine⟨hi,?_⟩
  refine WG (x:=x) (o:=o) (e:=e) hn k1 k7 t0 ox ho (hL e gJ) e1 e2 e3 e4 rfl ?_
  refine Ab (FQ (Ac hj [LD])) ?_
  refine Aj (Z2 (by exact fe hl)) ?_
  rw[VK,AR hj]
  refine ih (fun s hs=>hL s (gz _ hs)) (g.set j (sl (xs++[EX kd x t o e]))++[LD]) (xs++[EX kd x t o e]) (Ac (by rw[gX ij];exact hi) _) (Ac (AJ hj) _) (by rw[gx];show _+1+_<_;exact fg hl) fun e'=>?_
  rw[AR (AJ hj),hW,gu,gu]
  exact h _
theorem VB{K:MH->Prop}{E:List (List Nat)}(hn:1<=n)(k1:1<=kd)(k7:kd<7)(t0:0<=t)(ox:t<20)(ij1:j≠i1)(ij2:j≠i2)(hE:∀e∈E,e.length<=2)(hE2:E.length<=2)(e1:env 1=some (.int kd))(e3:env 260=some (.str (BC x [])))(e4:env 61=some (.int t))(e5:env 299=some (.lW (i2+61)))(L:List (List Nat)):∀(_:∀o∈L,o.length<=2) (g:MH) (xs:List (List Nat)),g[i1]?=some (.list O)->g[i2]?=some (sl E)->g[j]?=some (sl xs)->xs.length+2*L.length<900->
  (∀e',K (B S k m G st++(g.set j (sl (xs++L.flatMap fun o=>E.map (EX kd x t o)))++e')))->
  Hm (some (i1+61,O)) (fun v K μ'=>we lX (Ak lX prog n false) (Ad (AG [11,300] env) 11 v) (ME.lW 299) (fun s2 μ₂=>opt (C6 μ₂ s2) fun p2=>
    Dq p2.2 (j+61) (fun _ K' oj=>K' true oj) (fun v2 K' oj=>we lX (Ak lX prog n false) (Ad (Ad (AG [11,300] env) 11 v) 300 v2) uf K' (fun _ _=>False) oj) p2.1 K μ₂) (fun _ _=>False) μ') (L.map .str) K (B S k m G st++g):=by
 induction L with
 |nil=>
  intro _ g xs h1 h2 hj hl h
  have h:=h []
  (replace h:=jc▸h;rw[gD,gD,Bj hj]at h)
  exact⟨h1,h⟩
 |cons o L ih=>
  intro hL g xs h1 h2 hj hl h
  replace hl:=gQ▸hl
  refine⟨h1,?_⟩
  refine Ab e5 ?_
  refine Ab (Ln h2) ?_
  refine XD (env:=Ad (AG [11,300] env) 11 (.str o)) hn k1 k7 t0 ox (hL o gJ) ij2 e1 rfl e3 e4 E hE g xs h2 hj (by exact o9 (nB _ _ _) (.add (.add mD mi) (.num 1)) (.num 1000) mi (.num 2) (.add (.add mD (.mulL 2 (mt 2 1))) (.num 1)) (.num 900) rfl hE2 hl) fun e'=>?_
  refine ih (fun s hs=>hL s (gz _ hs)) (g.set j (sl (xs++E.map (EX kd x t o)))++e') (xs++E.map (EX kd x t o)) (Ac (by refine(gX ij1).symm▸?_;exact h1) _) (Ac (by refine(gX ij2).symm▸?_;exact h2) _) (Ac (AJ hj) _) (by(refine List.length_append.symm▸?_;rewrite[gS]);exact o9 (nB _ _ _) (.add (.add (.add mD mi) (.mulL 2 nE)) (.num 1)) (.num 900) mi (.num 2) (.add (.add mD (.mulL 2 (mt 2 1))) (.num 1)) (.num 900) rfl hE2 hl) fun e2=>?_
  (refine(AR (AJ hj)).symm▸?_;rewrite[hW];rewrite[gu];rewrite[gu])
  have h:=h (e'++e2)
  exact h
end
noncomputable def rhs:MS->ME
 |.assign _ e=>e
 |.aug _ _ e=>e
 |.ret e=>e
 |_=>.nil
structure qa(env:An)(st:St)(v:Int)(kd:Nat)(i2:Nat):Prop where
 p:env 102=some (.lW 54)
 m:env 19=some (.int v)
 f:env 82=some (.int (Ai v))
 t:env 61=some (.int (mc v))
 pr:env 14=some (.int (Ah v))
 k:env 1=some (.int kd)
 c:env 260=some (.str (BC (mX st v) []))
 nm:env 297=some (.str (mY (Ai v)))
 en:env 299=some (.lW (i2+61))
section
variable{S:List Int}{k:Int}{m:Nat}{G:l7}{st:St}{g:MH}{n:Nat}{X:As}{μ:MH}
theorem N6(p:Int):(∀e∈Cj p,e.length<=2)/\(Cj p).length<=2:=by
 have nil:∀e∈([]:List (List Nat)),e.length<=2:=fun _ h=>by cases h
 unfold Cj
 cases p==0 with
 |true=>exact⟨List.forall_mem_cons.mpr ⟨ic _,nil⟩,iX 1⟩
 |false=>exact⟨List.forall_mem_cons.mpr ⟨gE 2,List.forall_mem_cons.mpr ⟨iX 1,nil⟩⟩,gE 2⟩
theorem Ow(kd:Nat)(x:Bool)(s:Int):(∀o∈EL kd x s,o.length<=2)/\(EL kd x s).length<=4:=by
 have nil:∀e∈([]:List (List Nat)),e.length<=2:=fun _ h=>by cases h
 unfold EL
 cases(kd==1)&&x with
 |true=>exact⟨List.forall_mem_cons.mpr ⟨iX 1,List.forall_mem_cons.mpr ⟨gE 2,nil⟩⟩,by show 2<=4;decide⟩
 |false=>exact⟨List.forall_mem_cons.mpr ⟨ic _,List.forall_mem_cons.mpr ⟨iX 1,List.forall_mem_cons.mpr ⟨iX 1,List.forall_mem_cons.mpr ⟨gE 2,nil⟩⟩⟩⟩,gE 4⟩
theorem FE(pr:Ah v=0\/∃p:Nat,2<=p/\p<6/\Ah v=p):Ah v=0\/∃p:Nat,1<=p/\p<7/\2<=p/\p<6/\Ah v=p/\((p:Int)==0)=false/\DY p=[mW p]/\(65<=mW p/\mW p<=90):=by
 rcases pr with e|⟨p,p2,p6,e⟩
 ·exact .inl e
 ·refine .inr ⟨p,by exact Qi p2,by exact HC p6,p2,p6,e,by rw[gP];exact iC (M6 (Int.ofNat_le.mpr p2)),De p2,?_⟩
  rcases(by lia:p=2\/p=3\/p=4\/p=5)with rfl|rfl|rfl|rfl<;>decide
theorem Zt{Q:Ae}(hn:1<=n)(E:qa env st v kd i2)(M:BZ G v)(oB:G.size<=20)(pr:Ah v=0\/∃p:Nat,2<=p/\p<6/\Ah v=p)
  (h:∀e,Q (.str (EN v (Ah v))) (B S k m G st++(g++e))):we lX (Ak lX prog n false) env (rhs (mR 8 AY)) Q X (B S k m G st++g):=by
 unfold EN at h
 refine Ab E.nm ?_
 refine Ab E.t ?_
 refine Jo hn M.t0 (gK M.t1 oB) ?_
 refine Ab E.pr ?_
 rcases FE pr with e|⟨p,p1,p7,p2,p6,e,z,kl,c1,c2⟩
 ·rw[e]at h ⊢
  conv=>whnf
  have h:=h []
  rw[gD]at h
  exact h
 ·rw[e]at h ⊢
  rw[z]at h
  refine Cz z ?_
  refine Ec hn ?_
  refine Ab E.pr ?_
  refine e.symm▸?_
  refine Af (JP p1 p7) ?_
  rw[kl]
  refine Aj (gy c1) ?_
  refine Aj (gy c2) ?_
  exact h _
theorem XY{Q:Ae}(hn:1<=n)(E:qa env st v kd i2)(k1:1<=kd)(k7:kd<7)(M:BZ G v)(oB:G.size<=20)(hi:g[i2]?=some (sl (Cj (Ah v))))
  (h:∀e,Q (.str (Dc kd (mX st v) v (Ah v))) (B S k m G st++(g++e))):we lX (Ak lX prog n false) env (rhs (mR 9 AY)) Q X (B S k m G st++g):=by
 have l1:=GH kd
 have l2:(DY kd++mY (Ai v)).length<=3:=by rw[gx];exact jk l1 (gE 2)
 have l3:∀c,(DY kd++mY (Ai v)++[c]).length<=4:=fun c=>by rw[gx];exact jk l2 (gE 1)
 have l4:∀c,(DY kd++mY (Ai v)++[c]++mY (mc v)).length<=6:=fun c=>by rw[gx];exact jk (l3 c) (gE 2)
 have ox:=gK M.t1 oB
 have en:∃a r,Cj (Ah v)=a :: r/\a.length<=2/\a=FG (Ah v):=by
  unfold Cj FG
  cases Ah v==0 with
  |true=>exact⟨[],[],rfl,ic _,rfl⟩
  |false=>exact⟨_,_,rfl,gE 2,rfl⟩
 obtain⟨a,r,ea,la,eq⟩:=en
 unfold Dc at h
 rw[<- eq]at h
 rw[ea]at hi
 have sa:B6 (B S k m G st++(g++[LD])) (.lW (i2+61)) (.int 0)=some (.str a):=by
  exact HH (show(B S k m G st++(g++[LD]))[i2+61]?=some (.list (.str a :: r.map .str)) from(Ac hi [LD]:(g++[LD])[i2]?=_))
 refine Ec hn ?_
 refine Ab E.k ?_
 refine Af (JP k1 k7) ?_
 refine Ab E.nm ?_
 refine Aj (FJ (b:=2) l1 (gE 2) (by decide)) ?_
 refine Ab E.c ?_
 cases ex:mX st v
 all_goals
  rw[ex]at h
  have ec:=E.c
  rw[ex]at ec
  conv=>whnf
 ·conv=>whnf
  refine Aj (FJ (b:=1) l2 (gE 1) (by decide)) ?_
  refine Ab E.t ?_
  refine Jo hn M.t0 ox ?_
  refine Aj (FJ (b:=2) (l3 45) (gE 2) (by decide)) ?_
  refine Ab E.en ?_
  refine Af sa ?_
  refine Aj (FJ (l4 45) la (by decide)) ?_
  exact h _
 ·conv=>whnf
  refine Ab ec ?_
  refine Aj (FJ (b:=1) l2 (gE 1) (by decide)) ?_
  refine Ab E.t ?_
  refine Jo hn M.t0 ox ?_
  refine Aj (FJ (b:=2) (l3 120) (gE 2) (by decide)) ?_
  refine Ab E.en ?_
  refine Af sa ?_
  refine Aj (FJ (l4 120) la (by decide)) ?_
  exact h _
end
section
variable{S:List Int}{k:Int}{m:Nat}{G:l7}{st:St}{g:MH}{n:Nat}{X:As}{μ:MH}
theorem Io(c:Nat):decide (0<=AE c [97,98,99,100] 0+1)=true/\decide (AE c [97,98,99,100] 0+1<10)=true:=by
 have h:=E8 c [97,98,99,100] 0 (ix 0)
 rw[show[97,98,99,100].length=4 from rfl]at h
 exact⟨gy (by lia),gy (by lia)⟩
theorem PZ:By (B S k m G st++g++[MO.list xs]) (B S k m G st++g).length=some xs:=CO (by rw[gv])
theorem RQ:(B S k m G st++g++[o]).set (B S k m G st++g).length o'=B S k m G st++g++[o']:=by
 rw[g8 _ _ (gE _),iB];rfl
theorem aR{Q:Ae}(hn:1<=n)(E:qa env st v kd i2)(M:BZ G v)(oB:G.size<=20)
  (h:∀e,Q (.str (oU (Ai v)++oU (mc v))) (B S k m G st++(g++e))):we lX (Ak lX prog n false) env (rhs (mR 10 AY)) Q X (B S k m G st++g):=by
 refine Ab E.nm ?_
 refine Ab E.t ?_
 refine Jo hn M.t0 (gK M.t1 oB) ?_
 refine Af rfl ?_
 refine Aj (Io _).1 ?_
 refine Aj (Io _).2 ?_
 refine Af rfl ?_
 refine Ab PZ ?_
 rw[RQ]
 refine Af rfl ?_
 refine Aj (Io _).1 ?_
 refine Aj (Io _).2 ?_
 refine Af rfl ?_
 refine Ab PZ ?_
 rw[RQ]
 refine Ab PZ ?_
 exact h _
theorem Xl{Q:Ae}(hn:1<=n)(e1:env 14=some (.int (Ah v)))(pr:Ah v=0\/∃p:Nat,2<=p/\p<6/\Ah v=p)
  (h:∀e j,(g++e)[j]?=some (sl (Cj (Ah v)))->Q (.lW (j+61)) (B S k m G st++(g++e))):we lX (Ak lX prog n false) env (rhs (mR 4 AY)) Q X (B S k m G st++g):=by
 refine Ab e1 ?_
 rcases FE pr with e|⟨p,p1,p7,p2,p6,e,z,kl,c1,c2⟩
 ·rw[e]at h ⊢
  exact h [sl [[]]] g.length gv
 ·rw[e]at h e1 ⊢
  refine DT (by refine z.symm▸?_;rfl) ?_
  refine Ec hn ?_
  refine Ab e1 ?_
  refine Af (JP p1 p7) ?_
  rw[kl]
  refine Ec hn ?_
  refine Ab e1 ?_
  refine Af (JP p1 p7) ?_
  rw[kl]
  conv=>whnf
  have q:(g++([LD]++[LD]++[sl (Cj (p:Int))]))[(g++([LD]++[LD])).length]?=some (sl (Cj (p:Int))):=by
   rw[<- gu];exact gv
  have h:=h _ _ q
  replace h:=(show Cj (p:Int)=[[61]++[mW p],[mW p]] by unfold Cj;rw[z];rfl)▸h
  rw[gu g,gu (B S k m G st),gu g]
  exact h
theorem Rs{Q:Au}{mk:Int->List Nat}(hn:12<=n)(GC:Ch G m)(F:Er G m st mk)(hv:v∈Ay G st)(E:qa env st v kd i2)(e1:env 296=some (.str wr))(e2:env 295=some (.lW (j+61)))(e3:env 294=some (.str lg))(e4:env 293=some (.str dg))
  (h:∀env' e,Q (.ret (.tup [.str wr,.lW (j+61),.str lg,.str dg,.str (mk v)])) env' (B S k m G st++(g++e))):ws lX (Ak lX prog n) false (AT 12 AY) Q X env (B S k m G st++g):=by
 refine Ab e1 ?_
 refine Ab e2 ?_
 refine Ab e3 ?_
 refine Ab e4 ?_
 refine Ab E.p ?_
 refine Ab E.m ?_
 refine WO hn GC F hv ?_
 intro e
 exact h _ e
theorem qa.set(E:qa env st v kd i2)(hy:293<=y/\y<297\/y=194)(w:V):qa (Ad env y w) st v kd i2:=by
 have q:∀x,x≠y->Ad env y w x=env x:=fun x h=>iH h
 exact⟨(q _ (by lia)).trans E.p,(q _ (by lia)).trans E.m,(q _ (by lia)).trans E.f,(q _ (by lia)).trans E.t,(q _ (by lia)).trans E.pr,(q _ (by lia)).trans E.k,(q _ (by lia)).trans E.c,(q _ (by lia)).trans E.nm,(q _ (by lia)).trans E.en⟩
noncomputable def DD:MO:=.dict [(5,.str [49]),(4,.str [50]),(3,.str [51]),(2,.str [52])]
theorem dZ{p:Nat}(h2:2<=p)(h6:p<6):B6 (B S k m G st++(g++[DD])) (.lW (g.length+61)) (.int p)=some (.str (pK p)):=by
 have e:(B S k m G st++(g++[DD]))[g.length+61]?=some DD:=(gv:(g++[DD])[g.length]?=_)
 refine(OT e).symm▸?_
 rcases(by lia:p=2\/p=3\/p=4\/p=5)with rfl|rfl|rfl|rfl<;>rfl
theorem Q7(p:Nat):(pK p).length<=1:=by unfold pK;split<;>exact gE 1
theorem bi{Q:Au}{mk:Int->List Nat}(hn:12<=n)(GC:Ch G m)(F:Er G m st mk)(hv:v∈Ay G st)(E:qa env st v kd i2)(k1:1<=kd)(k7:kd<7)(pr:Ah v=0\/∃p:Nat,2<=p/\p<6/\Ah v=p)(hi:g[i2]?=some (sl (Cj (Ah v))))(e2:env 295=some (.lW (j+61)))
  (h:∀env' e,Q (.ret (.tup [.str (EN v (Ah v)),.lW (j+61),.str (Dc kd (mX st v) v (Ah v)),.str (PC v (Ah v)),.str (mk v)])) env' (B S k m G st++(g++e))):ws lX (Ak lX prog n) false (AT 8 AY) Q X env (B S k m G st++g):=by
 have M:=F.ok v hv
 have n1:1<=n:=gA (by decide) hn
 unfold PC at h
 refine Zt n1 E M GC.S.top pr fun a=>?_
 refine XY (env:=Ad env 296 (.str (EN v (Ah v)))) n1 (E.set (by decide) _) k1 k7 M GC.S.top (Ac hi a) fun b=>?_
 refine aR (env:=Ad (Ad env 296 (.str (EN v (Ah v)))) 294 (.str (Dc kd (mX st v) v (Ah v)))) n1 ((E.set (by decide) _).set (by decide) _) M GC.S.top fun c=>?_
 have EE:=((E.set (by decide:293<=296/\296<297\/296=194) (.str (EN v (Ah v)))).set (by decide:293<=294/\294<297\/294=194) (.str (Dc kd (mX st v) v (Ah v)))).set (by decide:293<=293/\293<297\/293=194) (.str (oU (Ai v)++oU (mc v)))
 refine Ab E.pr ?_
 rcases FE pr with e|⟨p,p1,p7,p2,p6,e,z,kl,c1,c2⟩
 ·have h:∀env' e,Q (.ret (.tup [.str (EN v (Ah v)),.lW (j+61),.str (Dc kd (mX st v) v (Ah v)),.str (oU (Ai v)++oU (mc v)),.str (mk v)])) env' (B S k m G st++(g++e)):=by
   rw[e]at h ⊢
   exact h
  refine Cz (by rw[e];rfl) ?_
  refine Rs (mk:=mk) hn GC F hv EE rfl e2 rfl rfl fun env' d=>?_
  rw[gu,gu,gu]
  exact h _ _
 ·have h:∀env' e,Q (.ret (.tup [.str (EN v (Ah v)),.lW (j+61),.str (Dc kd (mX st v) v (Ah v)),.str (oU (Ai v)++oU (mc v)++pK p),.str (mk v)])) env' (B S k m G st++(g++e)):=by
   rw[e,z]at h
   refine e.symm▸?_
   exact h
  refine DT (by rw[e,z];rfl) ?_
  refine Rq ?_
  rw[Os]
  refine Ab E.pr ?_
  refine Af (by rw[e];exact dZ p2 p6) ?_
  refine Aj (FJ (a:=4) (b:=1) (gE 4) (Q7 p) (by decide)) ?_
  refine Rs (mk:=mk) hn GC F hv (EE.set (by decide:293<=293/\293<297\/293=194) (.str (oU (Ai v)++oU (mc v)++pK p))) rfl e2 rfl rfl fun env' d=>?_
  have w:g++a++b++c++[DD]++d=g++(a++(b++(c++([DD]++d)))):=by simp only[gu]
  have h:=h env' (a++(b++(c++([DD]++d))))
  exact w.symm▸h
theorem bh{Q:Au}{mk:Int->List Nat}(hn:12<=n)(GC:Ch G m)(F:Er G m st mk)(hv:v∈Ay G st)(V:Mv G st v kd tk)(E:∀i2,qa (Ad env 299 (.lW (i2+61))) st v kd i2)
  (h:∀env' e j,g.length<=j->(g++e)[j]?=some (sl (DK kd (mX st v) v (Ah v)))->Q (.ret (.tup [.str (EN v (Ah v)),.lW (j+61),.str (Dc kd (mX st v) v (Ah v)),.str (PC v (Ah v)),.str (mk v)])) env' (B S k m G st++(g++e))):ws lX (Ak lX prog n) false (AT 4 AY) Q X env (B S k m G st++g):=by
 have M:=F.ok v hv
 have n1:1<=n:=gA (by decide) hn
 have pr:Ah v=0\/∃p:Nat,2<=p/\p<6/\Ah v=p:=by
  rcases M.sp with e|e
  ·left;unfold Ah;refine e.symm▸?_;rfl
  ·obtain⟨_,p,h1,h2,h3⟩:=V.oi e
   exact .inr ⟨p,h1,by exact cu h2,h3⟩
 refine Xl n1 (E 0).pr pr fun a i2 hi=>?_
 have E2:=E i2
 have nm0:B6 (B S k m G st++(g++a)) (.str (mY (Ai v))) (.int 0)=some (.str [97+((Ai v).fmod 4).toNat]):=rfl
 have nm1:B6 (B S k m G st++(g++a)) (.str (mY (Ai v))) (.int 1)=some (.str [49+((Ai v).fdiv 4).toNat]):=rfl
 have part:∀(mQ:An) (e2:MH) (i1:Nat),qa mQ st v kd i2->mQ 194=some (.lW (i1+61))->(g++a++e2)[i1]?=some (sl (EL kd (mX st v) (Ai v)))->ws lX (Ak lX prog n) false (AT 7 AY) Q X mQ (B S k m G st++(g++a++e2)):=by
  intro mQ e2 i1 E3 a1 h1
  have ol:=Ow kd (mX st v) (Ai v)
  have el:=N6 (Ah v)
  refine Ab a1 ?_
  refine Ab (Ln h1) ?_
  refine VB (env:=mQ) (i1:=i1) (i2:=i2) (j:=(g++a++e2).length) (E:=Cj (Ah v)) (kd:=kd) (x:=mX st v) (t:=mc v) n1 V.k1 V.k7 M.t0 (gK M.t1 GC.S.top) (iJ (BX h1)) (iJ (BX (Ac hi e2))) el.1 el.2 E3.k E3.c E3.t E3.en (EL kd (mX st v) (Ai v)) ol.1 (g++a++e2++[sl []]) [] (Ac h1 _) (Ac (Ac hi e2) _) gv (by have:=ol.2;show 0+_<_;exact o9 (mn _) (.add (.add (.num 0) (.mulL 2 mi)) (.num 1)) (.num 900) mi (.num 4) mi (.num 4) rfl this this) fun e3=>?_
  rw[g8 _ _ (gE _),iB]
  have hj:(g++a++e2++[sl (DK kd (mX st v) v (Ah v))]++e3)[(g++a++e2).length]?=some (sl (DK kd (mX st v) v (Ah v))):=Ac gv e3
  refine bi (env:=Ad mQ 295 (.lW ((g++a++e2).length+61))) (mk:=mk) hn GC F hv (E3.set (by decide) _) V.k1 V.k7 pr (Ac (Ac (Ac hi e2) _) _) rfl fun env' e4=>?_
  have w:g++a++e2++[sl (DK kd (mX st v) v (Ah v))]++e3++e4=g++(a++(e2++([sl (DK kd (mX st v) v (Ah v))]++(e3++e4)))):=by simp only[gu]
  have qR:=Ac hj e4
  replace qR:=w▸qR
  have h:=h env' _ _ (by(rewrite[gx];refine List.length_append.symm▸?_;rewrite[Nat.add_assoc]);exact hH _ _) qR
  exact w▸h
 have full:((kd==1)&&mX st v)=false->sl [[],[97+((Ai v).fmod 4).toNat],[49+((Ai v).fdiv 4).toNat],mY (Ai v)]=sl (EL kd (mX st v) (Ai v)):=fun e=>by unfold EL;(refine e.symm▸?_;rfl)
 have plain:((kd==1)&&mX st v)=false->ws lX (Ak lX prog n) false (AT 7 AY) Q X (Ad (Ad env 299 (.lW (i2+61))) 194 (.lW ((g++a).length+61))) (B S k m G st++(g++a++[sl [[],[97+((Ai v).fmod 4).toNat],[49+((Ai v).fdiv 4).toNat],mY (Ai v)]])):=fun e=>
  part _ _ (g++a).length (E2.set (by decide) _) rfl (by refine(full e).symm▸?_;exact gv)
 refine Ab E2.nm ?_
 refine Af nm0 ?_
 refine Ab E2.nm ?_
 refine Af nm1 ?_
 refine Ab E2.nm ?_
 refine Ab E2.k ?_
 refine Ap (fun e=>?_) fun e=>?_
 ·have e:kd=1:=by
   rw[iv]at e;exact jG (Int.ofNat_le.mp (mI (mn _) md (.num 1) md (.num 1) rfl (iD e))) (Int.ofNat_le.mp (mI (mn _) (.num 1) md (.num 1) md rfl (iD e.symm)))
  refine Ab E2.c ?_
  cases ex:mX st v with
  |false=>
   replace plain:=ex▸plain
   exact plain (by simp)
  |true=>
   have fl:sl [[97+((Ai v).fmod 4).toNat],mY (Ai v)]=sl (EL kd (mX st v) (Ai v)):=by(refine e.symm▸?_;refine ex.symm▸?_);rfl
   refine Ab E2.nm ?_
   refine Af rfl ?_
   refine Ab E2.nm ?_
   have z:=part (Ad (Ad (Ad env 299 (.lW (i2+61))) 194 (.lW ((g++a).length+61))) 194 (.lW ((g++a++[sl [[],[97+((Ai v).fmod 4).toNat],[49+((Ai v).fdiv 4).toNat],mY (Ai v)]]).length+61))) ([sl [[],[97+((Ai v).fmod 4).toNat],[49+((Ai v).fdiv 4).toNat],mY (Ai v)]]++[sl [[97+((Ai v).fmod 4).toNat],mY (Ai v)]]) _ ((E2.set (by decide) _).set (by decide) _) rfl (by(refine fl.symm▸?_;rewrite[<- gu]);exact gv)
   rw[<- gu (g++a)]at z
   exact z
 ·have e:kd≠1:=by
   rw[gP]at e;lia
  exact plain (by refine(show(kd==1)=false by rw[gP];exact e).symm▸?_;rfl)
end
noncomputable def wF(v:Int):List Nat:=EN v (Ah v)
noncomputable def pd(st:St)(v:Int):List (List Nat):=DK (oq st v).toNat (mX st v) v (Ah v)
noncomputable def oK(v:Int):List Nat:=PC v (Ah v)
noncomputable def nV(st:St)(mk:Int->List Nat)(j:Nat)(v:Int):V:=.tup [.str (wF v),.lW (j+61),.str (nZ st v),.str (oK v),.str (mk v)]
section
variable{S:List Int}{k:Int}{m:Nat}{G:l7}{st:St}{g:MH}{n:Nat}{X:As}{μ:MH}
theorem W1{Q:Ae}{mk:Int->List Nat}(hn:13<=n)(GC:Ch G m)(F:Er G m st mk)(hv:v∈Ay G st)
  (h:∀e j,g.length<=j->(g++e)[j]?=some (sl (pd st v))->Q (nV st mk j v) (B S k m G st++(g++e))):CG n false 301 [.lW 54,.int v] Q X (B S k m G st++g):=by
 refine stp hn fun n hn=>?_
 obtain⟨kd,tk,V,R,e⟩:=F.mv v hv
 have M:=V.M
 have C:=F.R.C
 have hb:=Ct (A4 C M.f0 M.f1)
 replace hb:=V.src▸hb
 have kk:(Mine.oq st v).toNat=kd:=by refine V.oq.symm▸?_;rfl
 unfold pd nV nZ at h
 replace h:=kk▸h
 refine Et (l0 hn rfl) ?_
 refine KL (l0 hn rfl) ?_
 refine Dj (l0 hn rfl) ?_
 refine B0 M.f0 hb ?_
 refine Eb (l0 hn rfl) (gZ V.k7) ?_
 refine B0 M.t0 (Ct (A4 C M.t0 M.t1)) ?_
 have fin:∀env:An,(∀i2,qa (Ad env 299 (.lW (i2+61))) st v kd i2)->ws lX (Ak lX prog n) false (AT 4 AY) (fun fl _ μ'=>match fl with|.ret v=>Q v μ'|.next=>Q .none μ'|.cont=>False) X env (B S k m G st++g):=fun env E=>bh (mk:=mk) (l0 hn rfl) GC F hv V E fun _ e j hl hj=>h e j hl hj
 refine Ap (fun e=>?_) fun e=>?_
 ·have e:mX st v=true:=e
  refine Jo (l0 hn rfl) M.f0 (gK M.f1 GC.S.top) ?_
  exact fin (Ad (Ad (Ad (Ad (Ad (Ad (Ad (Ad (fun _=>none) 102 (.lW 54)) 19 (.int v)) 82 (.int (Ai v))) 61 (.int (mc v))) 14 (.int (Ah v))) 1 (.int kd)) 260 (.str [120])) 297 (.str (mY (Ai v)))) fun i2=>⟨rfl,rfl,rfl,rfl,rfl,rfl,by refine e.symm▸?_;rfl,rfl,rfl⟩
 ·have e:mX st v=false:=e
  refine Jo (l0 hn rfl) M.f0 (gK M.f1 GC.S.top) ?_
  exact fin (Ad (Ad (Ad (Ad (Ad (Ad (Ad (Ad (fun _=>none) 102 (.lW 54)) 19 (.int v)) 82 (.int (Ai v))) 61 (.int (mc v))) 14 (.int (Ah v))) 1 (.int kd)) 260 (.str [])) 297 (.str (mY (Ai v)))) fun i2=>⟨rfl,rfl,rfl,rfl,rfl,rfl,by refine e.symm▸?_;rfl,rfl,rfl⟩
noncomputable def BS(st:St)(mk:Int->List Nat)(g:MH):List V->List Int->Prop
 |[],[]=>True
 |r :: rs,v :: L=>(∃j,r=.tup [.int v,nV st mk j v]/\g[j]?=some (sl (pd st v)))/\BS st mk g rs L
 |_,_=>False
theorem BS.more{mk:Int->List Nat}(e:MH):∀{rs:List V} {L:List Int},BS st mk g rs L->BS st mk (g++e) rs L
 |[],[],_=>trivial
 |_ :: _,_ :: _,⟨⟨j,a,b⟩,h⟩=>⟨⟨j,a,Ac b e⟩,h.more e⟩
theorem bb{l:List (List Nat)}(h:μ[a]?=some (sl l)):JB μ .In (.str x) (.lW a)=some (l.any (·==x)):=by
 have q:∀l:List (List Nat),BE (l.map V.str)=some l:=fun l=>by
  induction l with
  |nil=>rfl
  |cons a l ih=>show(BE (l.map V.str)).map _=_;rw[ih];rfl
 show((By μ a).bind fun l=>(BE l).map fun ss=>ss.any (·==x))=_
 rw[CO h]
 show(BE (l.map V.str)).map _=_
 rw[q];rfl
theorem Br(r:List Nat)(c:Nat):AF (r++[c])=[c]/\A8 (r++[c])=r:=by
 unfold AF A8 cut
 have e:(-1+((r++[c]).length:Int)).toNat=r.length:=by refine List.length_append.symm▸?_;show(-1+((r.length+1:Nat):Int)).toNat=_;lia
 (refine e.symm▸?_;refine(jA (gE _)).symm▸?_;refine List.drop_left.symm▸?_;refine List.take_left.symm▸?_)
 exact⟨rfl,rfl⟩
theorem Wh(h:AF t=[c]):B6 μ (.str t) (.int (-1))=some (.str [c]):=by
 rcases List.eq_nil_or_concat t with e|⟨r,d,e⟩
 ·subst e;exact nomatch h
 ·cases e
  rw[List.concat_eq_append]at h ⊢
  replace h:=((Br r d).1)▸h
  cases h
  show((CU (r++[c]).length (-1)).bind fun k=>((r++[c])[k]?).map fun c=>V.str [c])=_
  unfold CU
  rw[iH (by decide),iI (by refine List.length_append.symm▸?_;show(0:Int)<= -1+((r.length+1:Nat):Int);exact mI (mn _) (.num 0) (.add (.neg (.num 1)) (mj 0 1)) (.num 0) md rfl (gO _))]
  show((r++[c])[(-1+((r++[c]).length:Int)).toNat]?).map _=_
  have e:(-1+((r++[c]).length:Int)).toNat=r.length:=by refine List.length_append.symm▸?_;show(-1+((r.length+1:Nat):Int)).toNat=_;lia
  (refine e.symm▸?_;refine List.getElem?_concat_length.symm▸?_);rfl
end
noncomputable def Il(t:List Nat)(v:Int):Bool:=wF v==t||oK v==t
noncomputable def Eg(st:St)(b:List Nat)(v:Int):Bool:=(pd st v).any (·==b)
noncomputable def KQ(st:St)(mk:Int->List Nat)(b s:List Nat)(v:Int):Bool:=nZ st v==b&&([[],mk v].any (·==s))
noncomputable def Vx:List Int->Option Int
 |[v]=>some v
 |_=>none
noncomputable def EA(mk:Int->List Nat)(st:St)(L:List Int)(t:List Nat):Option Int:=
 rX (L.find? (Il t)) (rX ((Vx (L.filter (Eg st (AX t).1))).filter fun v=>[[],mk v].any (·==(AX t).2)) (L.find? (KQ st mk (AX t).1 (AX t).2)))
section
variable{S:List Int}{k:Int}{m:Nat}{G:l7}{st:St}{g:MH}{n:Nat}{X:As}{μ:MH}{mk:Int->List Nat}
noncomputable def eJ:MS:=fb (mR 1 B9)
theorem gc{Q:Au}(hi:μ[i]?=some (.list XS)):∀(rs:List V) (L:List Int) (env:An),BS st mk g rs L->env 224=some (.str t)->
  (∀env',(∀x,x≠19->x≠303->env' x=env x)->match L.find? (Il t)with|some v=>Q (.ret (.int v)) env' μ|none=>Q .next env' μ)->
  Bz (some (i,XS)) (fun v K env' μ'=>opt (AC [19,303] false v env') fun e=>ws lX (Ak lX prog n) false eJ K X e μ') rs Q env μ:=by
 intro rs
 induction rs with
 |nil=>
  intro L env T a h
  induction L using List.casesOn with
  |nil=>exact⟨hi,h env fun _ _ _=>rfl⟩
  |cons=>exact T.elim
 |cons r rs ih=>
  intro L env T a h
  induction L using List.casesOn with
  |nil=>exact T.elim
  |cons v L=>
   obtain⟨⟨j,er,hj⟩,T⟩:=T
   subst er
   refine⟨hi,?_⟩
   have skip:Il t v=false->Bz (some (i,XS)) (fun v K env' μ'=>opt (AC [19,303] false v env') fun e=>ws lX (Ak lX prog n) false eJ K X e μ') rs Q (Ad (Ad env 19 (.int v)) 303 (nV st mk j v)) μ:=fun e=>by
    refine ih L _ T a fun env' b=>?_
    have h:=h env' fun x h1 h2=>(b x h1 h2).trans ((iH h2).trans (iH h1))
    (rw[ik]at h;replace h:=e▸h)
    exact h
   have got:Il t v=true->Q (.ret (.int v)) (Ad (Ad env 19 (.int v)) 303 (nV st mk j v)) μ:=fun e=>by
    have h:=h (Ad (Ad env 19 (.int v)) 303 (nV st mk j v)) fun x h1 h2=>(iH h2).trans (iH h1)
    (replace h:=ik▸h;rw[e]at h)
    exact h
   refine Af rfl ?_
   refine Ab a ?_
   refine Ap (fun e=>?_) fun e=>?_
   ·have e:(wF v==t)=true:=e
    exact got (by unfold Il;refine e.symm▸?_;rfl)
   ·have e:(wF v==t)=false:=e
    refine Af rfl ?_
    refine Ab a ?_
    refine Ap (fun e2=>?_) fun e2=>?_
    ·have e2:(oK v==t)=true:=e2
     exact got (by unfold Il;(refine e2.symm▸?_;rewrite[jq];rfl))
    ·have e2:(oK v==t)=false:=e2
     exact skip (by unfold Il;(refine e.symm▸?_;refine e2.symm▸?_);rfl)
noncomputable def eK:MS:=fb (mR 4 B9)
theorem gf{Q:Au}(hi:μ[i]?=some (.list XS)):∀(rs:List V) (L:List Int) (env:An),BS st mk g rs L->env 261=some (.str b)->env 291=some (.str s)->
  (∀env',match L.find? (KQ st mk b s)with|some v=>Q (.ret (.int v)) env' μ|none=>Q .next env' μ)->
  Bz (some (i,XS)) (fun v K env' μ'=>opt (AC [19,303] false v env') fun e=>ws lX (Ak lX prog n) false eK K X e μ') rs Q env μ:=by
 intro rs
 induction rs with
 |nil=>
  intro L env T a a2 h
  induction L using List.casesOn with
  |nil=>exact⟨hi,h env⟩
  |cons=>exact T.elim
 |cons r rs ih=>
  intro L env T a a2 h
  induction L using List.casesOn with
  |nil=>exact T.elim
  |cons v L=>
   obtain⟨⟨j,er,hj⟩,T⟩:=T
   subst er
   refine⟨hi,?_⟩
   have skip:KQ st mk b s v=false->Bz (some (i,XS)) (fun v K env' μ'=>opt (AC [19,303] false v env') fun e=>ws lX (Ak lX prog n) false eK K X e μ') rs Q (Ad (Ad env 19 (.int v)) 303 (nV st mk j v)) μ:=fun e=>by
    refine ih L _ T a a2 fun env'=>?_
    have h:=h env'
    (rw[ik]at h;replace h:=e▸h)
    exact h
   refine Af rfl ?_
   refine Ab a ?_
   refine Ap (fun e=>?_) fun e=>?_
   ·have e:(nZ st v==b)=true:=e
    refine Ab a2 ?_
    refine Af rfl ?_
    refine Ab rfl ?_
    refine Ap (fun e2=>?_) fun e2=>?_
    ·have e2:([[],mk v].any (·==s))=true:=e2
     have h:=h (Ad (Ad env 19 (.int v)) 303 (nV st mk j v))
     rw[ik,show KQ st mk b s v=true by unfold KQ;(refine e.symm▸?_;refine e2.symm▸?_);rfl]at h
     exact h
    ·have e2:([[],mk v].any (·==s))=false:=e2
     exact skip (by unfold KQ;(refine e2.symm▸?_;rewrite[jS];rfl))
   ·have e:(nZ st v==b)=false:=e
    exact skip (by unfold KQ;refine e.symm▸?_;rfl)
noncomputable def lmC:ME:=.cmp (.lW 261) .In (.sub (.lW 303) (.int 1))
theorem gd{K:MH->Prop}(hi:g[i]?=some (.list XS))(a:env 261=some (.str b)):∀(rs:List V) (L:List Int) (xs:List V),BS st mk g rs L->xs.length+rs.length<90000->
  (∀ys,BS st mk g ys (L.filter (Eg st b))->K (B S k m G st++(g++[.list (xs++ys)])))->
  Dq (some (i+61,XS)) (g.length+61) (fun v K μ'=>opt (AC [19,303] false v (AG [19,303] env)) fun e=>wt lX (Ak lX prog n false) e lmC K (fun _ _=>False) μ')
   (fun v K μ'=>opt (AC [19,303] false v (AG [19,303] env)) fun e=>we lX (Ak lX prog n false) e (.tup (.cons (.lW 19) (.cons (.lW 303) .nil))) K (fun _ _=>False) μ') rs K (B S k m G st++(g++[.list xs])):=by
 intro rs
 induction rs with
 |nil=>
  intro L xs T _ h
  cases L with
  |nil=>have h:=h [] trivial;rw[gD]at h;exact⟨Ac hi _,h⟩
  |cons=>exact T.elim
 |cons r rs ih=>
  intro L xs T hl h
  cases L with
  |nil=>exact T.elim
  |cons v L=>
   obtain⟨⟨j,er,hj⟩,T⟩:=T
   subst er
   rw[gQ]at hl
   have qR:(B S k m G st++(g++[MO.list xs]))[j+61]?=some (sl (pd st v)):=(Ac hj [MO.list xs]:(g++[MO.list xs])[j]?=_)
   refine⟨Ac hi _,?_⟩
   refine Ab a ?_
   refine Af rfl ?_
   refine Ab (bb qR) ?_
   refine Ap (fun e=>?_) fun e=>?_
   ·have e:Eg st b v=true:=e
    rw[jd e]at h
    have q:By (B S k m G st++(g++[MO.list xs])) (g.length+61)=some xs:=FQ (gv:(g++[MO.list xs])[g.length]?=_)
    refine Ab q ?_
    refine Aj (gy (gY (hH _ _) (iu hl (by decide)))) ?_
    rw[show(B S k m G st++(g++[MO.list xs])).set (g.length+61) (.list (xs++[.tup [.int v,nV st mk j v]]))=B S k m G st++(g++[.list (xs++[.tup [.int v,nV st mk j v]])]) by
     have z:(g++[MO.list xs]).set g.length (.list (xs++[.tup [.int v,nV st mk j v]]))=g++[.list (xs++[.tup [.int v,nV st mk j v]])]:=by rw[g8 _ _ (gE _),iB];rfl
     rw[<- z];rfl]
    refine ih L (xs++[.tup [.int v,nV st mk j v]]) T (by rw[gx];show _+1+_<_;exact S8 hl) fun ys U=>?_
    rw[gu]
    exact h (.tup [.int v,nV st mk j v] :: ys) ⟨⟨j,rfl,hj⟩,U⟩
   ·have e:Eg st b v=false:=e
    rw[je (by rw[e];exact iM)]at h
    exact ih L xs T (by exact YG hl) h
theorem bB{Q:Au}{L:List Int}(hi:g[jt]?=some (.list rs))(T:BS st mk g rs L)(e1:env 302=some (.lW (jt+61)))(e2:env 261=some (.str b))(e3:env 291=some (.str s))
  (h:∀env',Q (.ret (bY (L.find? (KQ st mk b s)))) env' (B S k m G st++g)):ws lX (Ak lX prog n) false (AT 4 B9) Q X env (B S k m G st++g):=by
 refine Ab e1 ?_
 refine Ab (Ln hi) ?_
 refine A0 ?_
 refine gf (μ:=B S k m G st++g) (i:=jt+61) hi rs L env T e2 e3 fun env'=>?_
 revert h
 cases L.find? (KQ st mk b s) with
 |some v=>intro h;exact h _
 |none=>intro h;exact h _
theorem Xa(t:List Nat):([[43],[35]].any (·==AF t))=(AF t==[43]||AF t==[35]):=by
 have q:∀a b:List Nat,(a==b)=(b==a):=fun a b=>by
  cases e:b==a with
  |true=>exact(gM e)▸(io _)
  |false=>
   cases e2:a==b with
   |true=>(replace e:=(gM e2)▸e;rw[io]at e);exact FR e
   |false=>rfl
 show([43]==AF t||([35]==AF t||false))=_
 rw[q [43],q [35],ju]
@[elab_as_elim] theorem gp{mk:Int->List Nat}{motive:List V->List Int->Prop}(U:BS st mk g ys M)(h0:motive [] [])(h1:∀v j,g[j]?=some (sl (pd st v))->motive [.tup [.int v,nV st mk j v]] [v])(h2:∀y y2 ys v v2 M,motive (y :: y2 :: ys) (v :: v2 :: M)):motive ys M:=by
 rcases ys with _|⟨y,_|⟨y2,ys⟩⟩<;>rcases M with _|⟨v,_|⟨v2,M⟩⟩
 ·exact h0
 ·exact U.elim
 ·exact U.elim
 ·exact U.elim
 ·obtain⟨⟨j,rfl,hj⟩,_⟩:=U;exact h1 v j hj
 ·exact U.2.elim
 ·exact U.elim
 ·exact U.2.elim
 ·exact h2 ..
theorem WQ{Q:Ae}{rs:List V}(hn:1<=n)(hi:g[jt]?=some (.list rs))(T:BS st mk g rs L)(hl:rs.length<80000)
  (h:∀e,Q (bY (EA mk st L t)) (B S k m G st++(g++e))):CG n false 305 [.lW (jt+61),.str t] Q X (B S k m G st++g):=by
 refine stp hn fun n hn=>?_
 unfold EA at h
 have rest:∀(env:An),env 224=some (.str t)->env 302=some (.lW (jt+61))->env 261=some (.str (AX t).1)->env 291=some (.str (AX t).2)->
   ws lX (Ak lX prog n) false (AT 1 B9) (fun fl _ μ'=>match fl with|.ret v=>Q v μ'|.next=>Q .none μ'|.cont=>False) X env (B S k m G st++g):=by
  intro env a1 a2 a3 a4
  refine Ab a2 ?_
  refine Ab (Ln hi) ?_
  refine A0 ?_
  refine gc (st:=st) (g:=g) (mk:=mk) (μ:=B S k m G st++g) (i:=jt+61) (t:=t) hi rs L env T a1 fun env' z=>?_
  revert h
  cases L.find? (Il t) with
  |some v=>intro h;have h:=h [];rw[gD]at h;exact h
  |none=>
   intro h
   refine Ab ((z 302 (by decide) (by decide)).trans a2) ?_
   refine Ab (Ln hi) ?_
   refine gd (env:=env') (b:=(AX t).1) hi ((z 261 (by decide) (by decide)).trans a3) rs L [] T (by show 0+_<_;exact YH hl) fun ys U=>?_
   have hs:(g++[MO.list ys])[g.length]?=some (.list ys):=gv
   have b1:Ad env' 304 (.lW (g.length+61)) 302=some (.lW (jt+61)):=(z 302 (by decide) (by decide)).trans a2
   have b2:Ad env' 304 (.lW (g.length+61)) 261=some (.str (AX t).1):=(z 261 (by decide) (by decide)).trans a3
   have b3:Ad env' 304 (.lW (g.length+61)) 291=some (.str (AX t).2):=(z 291 (by decide) (by decide)).trans a4
   have last:(Vx (L.filter (Eg st (AX t).1))).filter (fun v=>[[],mk v].any (·==(AX t).2))=none->ws lX (Ak lX prog n) false (AT 4 B9) (fun fl _ μ'=>match fl with|.ret v=>Q v μ'|.next=>Q .none μ'|.cont=>False) X (Ad env' 304 (.lW (g.length+61))) (B S k m G st++(g++[.list ys])):=fun w=>by
    refine bB (Ac hi [.list ys]) (T.more _) b1 b2 b3 fun _=>?_
    have h:=h [.list ys]
    replace h:=w▸h
    exact h
   refine Ab (FQ hs) ?_
   clear hs
   revert h last
   generalize L.filter (Eg st (AX t).1)=M at U
   refine gp U (fun _ last=>last rfl) (fun v j _ h last=>?_) fun _ _ _ _ _ _ _ last=>last rfl
   have s0:B6 (B S k m G st++(g++[MO.list [.tup [.int v,nV st mk j v]]])) (.lW (g.length+61)) (.int 0)=some (.tup [.int v,nV st mk j v]):=HH (gv)
   refine Ab b3 ?_
   refine Af s0 ?_
   refine Af rfl ?_
   refine Af rfl ?_
   refine Ab rfl ?_
   refine Ap (fun e=>?_) fun e=>?_
   ·have e:([[],mk v].any (·==(AX t).2))=true:=e
    have h:=h [.list [.tup [.int v,nV st mk j v]]]
    rw[show(Vx [v]).filter (fun v=>[[],mk v].any (·==(AX t).2))=some v from iI e]at h
    refine Af s0 ?_
    refine Af rfl ?_
    exact h
   ·exact last (iH fun q=>Ew q e)
 have pm:=Xa t
 refine Ab rfl ?_
 refine Ap (fun e=>?_) fun e=>?_
 ·have e:([[43],[35]].any (·==AF t))=true:=e
  replace e:=pm▸e
  have cs:AX t=(A8 t,AF t)/\∃c,AF t=[c]:=by
   unfold AX
   cases e1:AF t==[43] with
   |true=>exact⟨rfl,43,gM e1⟩
   |false=>
    (replace e:=e1▸e;rw[iF]at e)
    refine e.symm▸?_
    exact⟨rfl,35,gM e⟩
  obtain⟨cs,c,ec⟩:=cs
  refine Af (Wh ec) ?_
  refine rest (Ad (Ad (Ad (Ad (fun _=>none) 302 (.lW (jt+61))) 224 (.str t)) 261 (.str (A8 t))) 291 (.str [c])) rfl rfl ?_ ?_
  ·refine cs.symm▸?_;rfl
  ·(refine cs.symm▸?_;refine ec.symm▸?_);rfl
 ·have e:([[43],[35]].any (·==AF t))=false:=e
  replace e:=pm▸e
  have cs:AX t=(t,[]):=by
   unfold AX
   cases e1:AF t==[43] with
   |true=>replace e:=e1▸e;exact FR e
   |false=>(replace e:=e1▸e;rw[iF]at e);(refine e.symm▸?_;rfl)
  refine rest (Ad (Ad (Ad (Ad (fun _=>none) 302 (.lW (jt+61))) 224 (.str t)) 261 (.str t)) 291 (.str [])) rfl rfl ?_ ?_
  ·refine cs.symm▸?_;rfl
  ·refine cs.symm▸?_;rfl
end
section
variable{S:List Int}{k:Int}{n:Nat}{hd:Bool}{Q:Ae}{X:As}{r:MH}
theorem MM{a:Int}(h:0<many):0<=a.fmod many/\a.fmod many<many:=by
 refine(lf _ (jf h)).symm▸?_
 exact⟨Int.emod_nonneg _ (by exact iC (Tb h)),Int.emod_lt_of_pos _ h⟩
theorem TR(hn:1<=n)(k0:0<=k)(k1:k<900)(hm:0<many)(h:∀d,0<=d->d<many->Q (.int d) (il S :: .list [.lW 0,.int (k+1)] :: r)):CG n hd 280 [.lW 1,.int many] Q X (il S :: .list [.lW 0,.int k] :: r):=by
 refine stp hn fun n hn=>?_
 have q:(il S :: MO.list [.lW 0,.int (k+1)] :: r)[0]?=some (il S):=rfl
 have sm:small (k+1)=true:=D0 (by exact mI (mn _) (.add (.neg (.num 1000)) (.num 1)) (mj 0 1) (.num 0) md rfl k0) (by exact mI (mn _) (.add (mj 0 1) (.num 1)) (.num 1000) (mj 0 1) (.num 900) rfl k1)
 refine Af rfl ?_
 refine Af rfl ?_
 refine Af rfl ?_
 refine Ap (fun e=>?_) fun e=>?_
 ·have e:decide (k+1<=(((S.map V.int).length:Nat):Int))=true:=e
  rw[gS]at e
  refine Af rfl ?_
  refine Af rfl ?_
  refine AO q (by exact mI (mn _) (.num 0) (.sub (mj 0 1) (.num 1)) (.num 0) md rfl k0) (by lia) ?_
  refine Aj (gy (by exact iC (Tb hm):many≠0)) ?_
  exact h _ (MM hm).1 (MM hm).2
 ·conv=>whnf
  refine Af rfl ?_
  refine Af rfl ?_
  refine Aj sm ?_
  refine Aj sm ?_
  refine Af rfl ?_
  refine Aj sm ?_
  refine Aj (gy (by exact iC (Tb hm):many≠0)) ?_
  exact h _ (MM hm).1 (MM hm).2
end
noncomputable def G4:l7:={ranks:=4,size:=16,full:=65535,files:=[4369,8738,17476,34952],rankm:=[15,240,3840,61440],e22:=il [],knight:=[576,1408,2576,1056,9220,22536,41217,16898,16450,32901,4122,8228,1056,2128,416,576],pawn0:=[32,80,160,64,512,1280,2560,1024,8192,20480,40960,16384,0,0,0,0],pawn1:=[0,0,0,0,2,5,10,4,32,80,160,64,512,1280,2560,1024],king:=[50,117,234,196,803,1879,3758,3148,12848,30064,60128,50368,8960,22272,44544,19456],r0:=[4368,8736,17472,34944,4352,8704,17408,34816,4096,8192,16384,32768,0,0,0,0],r1:=[14,12,8,0,224,192,128,0,3584,3072,2048,0,57344,49152,32768,0],r2:=[0,0,0,0,1,2,4,8,17,34,68,136,273,546,1092,2184],r3:=[0,1,3,7,0,16,48,112,0,256,768,1792,0,4096,12288,28672],r4:=[33824,2112,128,0,16896,33792,2048,0,8192,16384,32768,0,0,0,0,0],r5:=[0,0,0,0,2,4,8,0,36,72,128,0,584,1152,2048,0],r6:=[0,0,0,0,0,1,2,4,0,16,33,66,0,256,528,1057],r7:=[0,16,288,4672,0,256,4608,9216,0,4096,8192,16384,0,0,0,0],e48:=il [0,0,0,0,0,0,0,0,0,0,0,0,0,0,0,0]}
noncomputable def G5:l7:={ranks:=5,size:=20,full:=1048575,files:=[69905,139810,279620,559240],rankm:=[15,240,3840,61440,983040],e22:=il [],knight:=[576,1408,2576,1056,9220,22536,41217,16898,147522,360581,659482,270372,263200,526416,65952,131648,16896,34048,6656,9216],pawn0:=[32,80,160,64,512,1280,2560,1024,8192,20480,40960,16384,131072,327680,655360,262144,0,0,0,0],pawn1:=[0,0,0,0,2,5,10,4,32,80,160,64,512,1280,2560,1024,8192,20480,40960,16384],king:=[50,117,234,196,803,1879,3758,3148,12848,30064,60128,50368,205568,481024,962048,805888,143360,356352,712704,311296],r0:=[69904,139808,279616,559232,69888,139776,279552,559104,69632,139264,278528,557056,65536,131072,262144,524288,0,0,0,0],r1:=[14,12,8,0,224,192,128,0,3584,3072,2048,0,57344,49152,32768,0,917504,786432,524288,0],r2:=[0,0,0,0,1,2,4,8,17,34,68,136,273,546,1092,2184,4369,8738,17476,34952],r3:=[0,1,3,7,0,16,48,112,0,256,768,1792,0,4096,12288,28672,0,65536,196608,458752],r4:=[33824,2112,128,0,541184,33792,2048,0,270336,540672,32768,0,131072,262144,524288,0,0,0,0,0],r5:=[0,0,0,0,2,4,8,0,36,72,128,0,584,1152,2048,0,9344,18432,32768,0],r6:=[0,0,0,0,0,1,2,4,0,16,33,66,0,256,528,1057,0,4096,8448,16912],r7:=[0,16,288,4672,0,256,4608,74752,0,4096,73728,147456,0,65536,131072,262144,0,0,0,0],e48:=il [0,0,0,0,0,0,0,0,0,0,0,0,0,0,0,0,0,0,0,0]}
noncomputable def tV(m:Nat):St:={board:=List.replicate m 0,k0:=0,k1:=0,k2:=0,k3:=0,k4:=0,k5:=0,k6:=0,s0:=0,s1:=0,side:=false,half:=0,full:=1,key:=0,hist:=[]}
noncomputable def RN(m:Nat):MH:=[ll [3,4,5,6,7,8,9,10,11,12,13,14,15,16,17],Bh m 0,Bh m 1,Bh m 2,Bh m 3,Bh m 4,Bh m 5,Bh m 6,Bh m 7,Bh m 8,Bh m 9,Bh m 10,Bh m 11,Bh m 12,Bh m 13,Bh m 14]
noncomputable def HZ(r:Int):An:=Ad (Ad (Ad (fun _=>none) 278 (.lW 1)) 49 (.int r)) 63 (.int (4*r))
theorem fG(n:Nat)(Q:Ae)(X:As)(a b:MO):we lX (Ak lX prog n false) (HZ 4) (rhs (mR 2 Av)) Q X [a,b]=Q (.lW 2) (a :: b :: RN 16):=by kernel_rfl
theorem fH(n:Nat)(Q:Ae)(X:As)(a b:MO):we lX (Ak lX prog n false) (HZ 5) (rhs (mR 2 Av)) Q X [a,b]=Q (.lW 2) (a :: b :: RN 20):=by kernel_rfl
theorem gi(n:Nat)(Q:Ae)(X:As)(S:List Int)(k:Int):we lX (Ak lX prog (n+5) false) (Ad (HZ 4) 287 (.lW 2)) (rhs (mR 3 Av)) Q X (il S :: .list [.lW 0,.int k] :: RN 16)=Q (.lW 54) (B S k 16 G4 (tV 16)):=by kernel_rfl
theorem gj(n:Nat)(Q:Ae)(X:As)(S:List Int)(k:Int):we lX (Ak lX prog (n+5) false) (Ad (HZ 5) 287 (.lW 2)) (rhs (mR 3 Av)) Q X (il S :: .list [.lW 0,.int k] :: RN 20)=Q (.lW 54) (B S k 20 G5 (tV 20)):=by kernel_rfl
structure EO(G:l7)(st:St)(c:Bool)(x:Int):Prop where
 x0:0<=x
 x1:x<G.size
 it:∀k:Nat,AB st.board k=pc c 6↔(k:Int)=x
theorem M2(h:pc c a=pc d b)(ha:a<7)(hb:b<7):c=d/\a=b:=by
 unfold pc at h
 induction c using Bool.casesOn<;>induction d using Bool.casesOn<;>simp only[sd]at h<;>first|exact⟨rfl,by decide⟩|lia
theorem GX{st:St}(C:mF G st)(c:Bool)(h1:1<=kd)(h7:kd<7)(k:Nat):tb (Am (st.si c) (st.kd kd)) k=true↔AB st.board k=pc c kd:=by
 show tb (Builtin.bitAnd _ _) k=true↔_
 rw[Bv,C.sb,C.kb kd h1 h7]
 rcases C.rL k with e|⟨d,q,q1,q7,e⟩
 ·rw[e]
  exact⟨fun h=>(by exact Dd h),fun h=>absurd h.symm (Em c h1)⟩
 ·(refine e.symm▸?_;rewrite[Cl d q1 q7];rewrite[Ck d q1 q7])
  constructor
  ·intro h
   simp only[gH,g9]at h
   (refine h.1.symm▸?_;refine h.2.symm▸?_;rfl)
  ·intro h
   obtain⟨rfl,rfl⟩:=M2 h q7 h7
   simp
theorem U1(k:Nat):∀(a:Nat) (s:Int),0<a->a<2 ^ k->∃j:Nat,F9 k a s=s+j/\a.testBit j=true:=by
 induction k with
 |zero=>intro a s h0 h1;exact absurd h1 (by exact Nat.not_lt.mpr (mO (mn _) (.num 1) mi (.add (.num 0) (.num 1)) mi rfl h0))
 |succ k ih=>
  intro a s h0 h1
  have b1:=NM a (by exact Oz (gO _))
  have hf:(a:Int).fdiv 2=((a / 2:Nat):Int):=by rw[iz _ (by decide)];rfl
  unfold F9
  rcases jo a with c|c
  ·obtain⟨j,e2,e3⟩:=ih (a / 2) (s+1) (by lia) (by rw[kH]at h1;lia)
   refine⟨j+1,?_,by rw[iK];exact e3⟩
   rw[b1,show((a:Int) % 2 != 0)=false by simp;lia,hf]
   show F9 k _ _=_
   rw[e2];exact hY (fj) (fk)
  ·refine⟨0,?_,by rw[iZ,c];rfl⟩
   rw[b1,show((a:Int) % 2 != 0)=true by simp;lia]
   show s=_
   exact hY (fo) (fp)
theorem GI{G:l7}{st:St}{c:Bool}{x:Int}(GS:G.l6)(C:mF G st)(K:EO G st c x):Ax st c=x:=by
 have hb:Bd G (Am (st.si c) st.k6):=(C.pJ c).left _
 have ht:=hb.top GS
 have t:=GX C c (kd:=6) (by decide) (by decide)
 have t:∀k,tb (Am (st.si c) st.k6) k=true↔AB st.board k=pc c 6:=t
 unfold Ax
 revert hb ht t
 generalize Am (st.si c) st.k6=y
 intro hb ht t
 obtain⟨a,rfl⟩:=gB hb.1
 have hx:a.testBit x.toNat=true:=(t x.toNat).mpr ((K.it x.toNat).mpr (gW K.x0))
 have a0:0<a:=by
  rcases Nat.eq_zero_or_pos a with z|z
  ·subst z;rw[Nat.zero_testBit]at hx;exact Dd hx
  ·exact z
 obtain⟨j,e1,e2⟩:=U1 20 a 0 a0 (by lia)
 (refine e1.symm▸?_;rewrite[j8])
 exact(K.it j).mp ((t j).mp e2)
theorem Mz{a b:St}(hk:∀kd,kd<7->a.kd kd=b.kd kd)(hs:∀c,a.si c=b.si c)(c:Bool):Bo G a c=Bo G b c:=by
 have k1:a.k1=b.k1:=hk 1 (by decide)
 have k2:a.k2=b.k2:=hk 2 (by decide)
 have k3:a.k3=b.k3:=hk 3 (by decide)
 have k4:a.k4=b.k4:=hk 4 (by decide)
 have k5:a.k5=b.k5:=hk 5 (by decide)
 have k6:a.k6=b.k6:=hk 6 (by decide)
 have s0:a.s0=b.s0:=hs false
 have s1:a.s1=b.s1:=hs true
 have e1:Ax a c=Ax b c:=by unfold Ax;rw[hs,k6]
 have e2:A3 a=A3 b:=by unfold A3;(refine s0.symm▸?_;refine s1.symm▸?_;rfl)
 have e3:AQ a=AQ b:=by unfold AQ;(refine k4.symm▸?_;refine k5.symm▸?_;rfl)
 have e4:Cf a=Cf b:=by unfold Cf;(refine k3.symm▸?_;refine k5.symm▸?_;rfl)
 have e5:∀sq d,B3 G a sq d=B3 G b sq d:=fun sq d=>by unfold B3 ID;rw[hs,k1,k2,k6]
 unfold Bo Bq B8
 rw[e1,e2,e3,e4,e5,hs]
structure Pos(G:l7)(st:St):Prop where
 C:mF G st
 oR:∀c,∃x,EO G st c x
 safe:Bo G st (!st.side)=false
 hist:st.hist=[]
theorem Pos.king{G:l7}{st:St}(GS:G.l6)(P:Pos G st)(c:Bool):0<=Ax st c/\Ax st c<G.size:=by
 obtain⟨x,K⟩:=P.oR c
 rw[GI GS P.C K]
 exact⟨K.x0,K.x1⟩
theorem Nr{G:l7}{st:St}{s:Int}(C:mF G st)(h1:1<=kd)(h6:kd<6)(s0:0<=s)(s1:s<G.size)(he:AB st.board s.toNat=0)(K:EO G st d x):EO G (Bu m st c kd s) d x:=by
 refine⟨K.x0,K.x1,fun k=>?_⟩
 rw[EC C h1 (by exact HC h6) s0 s1]
 split
 ·rename_i e
  constructor
  ·intro z;have:=(M2 z (by exact HC h6) (by decide)).2;lia
  ·intro z
   have:=(K.it k).mpr z
   rw[<- e,he]at this
   exact absurd this.symm (Em d (by decide))
 ·exact K.it k
theorem Pos.put{G:l7}{st:St}{s:Int}(P:Pos G st)(h1:1<=kd)(h6:kd<6)(s0:0<=s)(s1:s<G.size)(he:AB st.board s.toNat=0)(ok:Bo G (Bu m st c kd s) (!st.side)=false):Pos G (Bu m st c kd s):=by
 refine⟨P.C.put h1 (by exact HC h6) s0 s1 he,fun d=>?_,?_,?_⟩
 ·obtain⟨x,K⟩:=P.oR d
  exact⟨x,Nr P.C h1 h6 s0 s1 he K⟩
 ·refine((BN m st c kd s).side).symm▸?_;exact ok
 ·exact((BN m st c kd s).hist).trans (P.hist)
theorem Pos.back{G:l7}{st:St}{s:Int}(P:Pos G st)(h1:1<=kd)(h6:kd<6)(s0:0<=s)(s1:s<G.size)(he:AB st.board s.toNat=0):Pos G (BY m (Bu m st c kd s) c kd s):=by
 have C1:=P.C.put (m:=m) (c:=c) h1 (by exact HC h6) s0 s1 he
 have ue:AB (Bu m st c kd s).board s.toNat=pc c kd:=by(rewrite[EC P.C h1 (by exact HC h6) s0 s1];refine(iI rfl).symm▸?_;rfl)
 have C2:=C1.take (m:=m) h1 (by exact HC h6) s0 s1 ue
 have R:=(Cg m (Bu m st c kd s) c kd s).trans (BN m st c kd s)
 have eb:(BY m (Bu m st c kd s) c kd s).board=st.board:=by
  refine Wb (by have:=C2.len;have:=P.C.len;lia) fun j=>?_
  rw[EG C1 h1 (by exact HC h6) s0 s1,EC P.C h1 (by exact HC h6) s0 s1]
  split
  ·rename_i e;(refine e▸?_;refine he.symm▸?_;rfl)
  ·rfl
 have u1:=(C2.uniq P.C eb).1;have u2:=(C2.uniq P.C eb).2
 refine⟨C2,fun d=>?_,?_,R.hist.trans P.hist⟩
 ·obtain⟨x,K⟩:=P.oR d
  exact⟨x,K.x0,K.x1,fun k=>by refine eb.symm▸?_;exact K.it k⟩
 ·(refine R.side.symm▸?_;rewrite[Mz u1 u2]);exact P.safe
noncomputable def mx(i j:Int):Int:=if i<j then j else i
noncomputable def F5(z s:Int):Bool:=decide (1<mx ((s.fmod 4 - z.fmod 4).natAbs:Int) ((s.fdiv 4 - z.fdiv 4).natAbs:Int))
noncomputable def G0(size:Int):List Int:=(List.range size.toNat).map fun(i:Nat)=>(i:Int)
theorem OE:∀(j:Nat) (a:Int),Cs j a 1=(List.range j).map fun(i:Nat)=>V.int (a+i)
 |0,a=>rfl
 |j+1,a=>by
  rw[List.range_succ_eq_map,iY,List.map_map]
  show V.int a :: Cs j (a+1) 1=_
  rw[OE j (a+1)]
  congr 1
  ·rw[show a+((0:Nat):Int)=a by exact hY (fp) (fo)]
  ·refine lV fun i _=>?_
   show V.int (a+1+i)=V.int (a+((i+1:Nat):Int))
   congr 1;exact hY (fj) (fk)
theorem Tg{size:Int}(h:0<=size):Cr 0 size 1=size.toNat:=by
 unfold Cr
 rw[iI (by decide)]
 split
 ·rw[Int.ediv_one];lia
 ·lia
theorem LC(h:0<=size):Cs (Cr 0 size 1) 0 1=(G0 size).map V.int:=by
 rw[Tg h,OE]
 unfold G0
 rw[List.map_map]
 refine lV fun i _=>?_
 show V.int (0+(i:Int))=V.int i
 rw[j8]
theorem Om(h:y∈G0 size):0<=y/\y<size:=by
 unfold G0 at h
 obtain⟨i,hi,e⟩:=List.mem_map.mp h
 have:=List.mem_range.mp hi
 lia
section
variable{S:List Int}{k:Int}{m:Nat}{G:l7}{st:St}{g:MH}{n:Nat}{hd:Bool}{X:As}{μ:MH}
noncomputable def apC:ME:=.cmp (.blt 2 (.cons (.blt 1 (.cons (.bin .Sub (.bin .Mod (.lW 282) (.int 4)) (.bin .Mod (.lW 284) (.int 4))) .nil)) (.cons (.blt 1 (.cons (.bin .Sub (.bin .FloorDiv (.lW 282) (.int 4)) (.bin .FloorDiv (.lW 284) (.int 4))) .nil)) .nil))) .Gt (.int 1)
theorem WA{K:MH->Prop}(a:env 284=some (.int z)):∀(L:List Int) (items:List V) (xs:List Int),items=L.map V.int->xs.length+L.length<90000->
  K (B S k m G st++(g++[il (xs++L.filter (F5 z))]))->
  Dq none (g.length+61) (fun v K μ'=>opt (AC [282] true v (AG [282] env)) fun e=>wt lX (Ak lX prog n false) e apC K (fun _ _=>False) μ')
   (fun v K μ'=>opt (AC [282] true v (AG [282] env)) fun e=>we lX (Ak lX prog n false) e (.lW 282) K (fun _ _=>False) μ') items K (B S k m G st++(g++[il xs])):=by
 intro L
 induction L with
 |nil=>
  intro items xs e _ h
  subst e
  rw[kY,gD]at h
  exact h
 |cons s L ih=>
  intro items xs e hl h
  subst e
  rw[gQ]at hl
  refine Ab a ?_
  refine Ab a ?_
  refine Ap (fun e=>?_) fun e=>?_
  ·have e:F5 z s=true:=e
   rw[jd e]at h
   have hj:(g++[il xs])[g.length]?=some (il xs):=gv
   refine Ab (Dz hj) ?_
   refine Aj (room (by exact fq hl)) ?_
   rw[Fg,g8 _ _ (gE _),iB]
   refine ih _ (xs++[s]) rfl (by rw[gx];show _+1+_<_;exact S8 hl) ?_
   rw[gu]
   exact h
  ·have e:F5 z s=false:=e
   rw[je (by rw[e];exact iM)]at h
   exact ih _ xs rfl (by exact YG hl) h
end
structure qr(G:l7)(env:An):Prop where
 j:env 278=some (.lW 1)
 p:env 102=some (.lW 54)
 s:env 63=some (.int G.size)
 r:env 49=some (.int G.ranks)
theorem qr.set(E:qr G env)(h1:y≠278/\y≠102/\y≠63/\y≠49)(w:V):qr G (Ad env y w):=by
 have q:∀x,x≠y->Ad env y w x=env x:=fun x h=>iH h
 exact⟨(q _ h1.1.symm).trans E.j,(q _ h1.2.1.symm).trans E.p,(q _ h1.2.2.1.symm).trans E.s,(q _ h1.2.2.2.symm).trans E.r⟩
section
variable{S:List Int}{k:Int}{m:Nat}{G:l7}{st:St}{g:MH}{n:Nat}{hd:Bool}{X:As}{μ:MH}
theorem Bw{Q:Ae}(hn:1<=n)(k0:0<=k)(k1:k<900)(hm:0<many)(h:∀d,0<=d->d<many->Q (.int d) (B S (k+1) m G st++g)):CG n hd 280 [.lW 1,.int many] Q X (B S k m G st++g):=TR hn k0 k1 hm h
noncomputable def qX:MS:=fb (mR 9 Av)
theorem fM{Q:Au}{env:An}{c:Bool}{kd:Nat}{s:Int}(hn:6<=n)(GC:Ch G m)(P:Pos G st)(E:qr G env)(h1:1<=kd)(h6:kd<6)(s0:0<=s)(s1:s<G.size)(he:AB st.board s.toNat=0)(e1:env 1=some (.int kd))(e2:env 0=some (.int (sd c)))(e3:env 282=some (.int s))
  (h:∀m8,Pos G m8->Q .next env (B S k m G m8++g)):ws lX (Ak lX prog n) false (AT 4 qX) Q X env (B S k m G st++g):=by
 have tp:=gK s1 GC.S.top
 have C1:=P.C.put (m:=m) (c:=c) h1 (by exact HC h6) s0 s1 he
 have pv:=(BN m st c kd s).side
 obtain⟨x,K⟩:=P.oR (!st.side)
 have K1:=Nr (m:=m) (c:=c) P.C h1 h6 s0 s1 he K
 have q:=GI GC.S C1 K1
 have ue:AB (Bu m st c kd s).board s.toNat=pc c kd:=by rw[EC P.C h1 (by exact HC h6) s0 s1,iI rfl]
 have hb:(Bu m st c kd s).board[s.toNat]?=some (pc c kd):=by refine ue▸?_;exact Ct (A4 C1 s0 s1)
 have hp:=P.put (m:=m) (c:=c) h1 h6 s0 s1 he
 have hk:=P.back (m:=m) (c:=c) h1 h6 s0 s1 he
 have K0:=K1.x0
 have K2:=K1.x1
 rw[<- q]at K0 K2
 refine Ab E.p ?_
 refine Ab e2 ?_
 refine Ab e1 ?_
 refine Jp (gA (by decide) hn) ?_
 refine Ab e3 ?_
 refine K9 (gA (by decide) hn) (by exact HC h6) s0 tp s1 P.C.len GC.hm ?_
 revert C1 pv hb hp hk K0 K2
 generalize Bu m st c kd s=st2
 intro C1 pv hb hp hk K0 K2
 refine Ab E.p ?_
 refine Ab E.p ?_
 conv=>whnf
 rw[Gd,pv]
 refine K7 (gA (by decide) hn) GC.S C1.low K0 K2 ?_
 refine Ap (fun e=>?_) fun e=>?_
 ·conv=>whnf
  refine Ab E.p ?_
  refine Ab e3 ?_
  refine Mc (gA (by decide) hn) (by exact HC h6) s0 tp s1 C1.len GC.hm hb ?_
  exact h _ hk
 ·exact h _ (hp e)
theorem Zn{Q:Au}(hn:6<=n)(GC:Ch G m)(items:List V):∀(k:Int) (st:St) (g:MH) (env:An),0<=k->k+3*items.length<800->Pos G st->qr G env->
  (∀k' m8 g' env',0<=k'->k'<=k+3*items.length->Pos G m8->qr G env'->Q .next env' (B S k' m G m8++g'))->
  Bz none (fun v K env' μ'=>opt (AC [281] true v env') fun e=>ws lX (Ak lX prog n) false qX K X e μ') items Q env (B S k m G st++g):=by
 induction items with
 |nil=>
  intro k st g env k0 k1 P E h
  exact h k st g env k0 (by simp) P E
 |cons it items ih=>
  intro k st g env k0 k1 P E h
  have kk:k+1+1+1+3*(items.length:Int)<800:=by exact mI (mT _ _) (.add (.add (.add (.add (.add (.var 0) (.num 1)) (.num 1)) (.num 1)) (.mulL 3 (.var 1))) (.num 1)) (.num 800) (.add (.add (.var 0) (.mulL 3 (.add (.var 1) (.num 1)))) (.num 1)) (.num 800) rfl k1
  have step:∀m8 g' env',Pos G m8->qr G env'->Bz none (fun v K env' μ'=>opt (AC [281] true v env') fun e=>ws lX (Ak lX prog n) false qX K X e μ') items Q env' (B S (k+1+1+1) m G m8++g'):=fun m8 g' env' P' E'=>
   ih (k+1+1+1) m8 g' env' (by exact cv k0) kk P' E' fun k' st2 g2 mQ a b=>h k' st2 g2 mQ a (by exact mI (nB _ _ _) md (.add mP (.mulL 3 (mj 2 1))) md (.add (.add (.add (mj 1 1) (.num 1)) (.num 1)) (.mulL 3 oH)) rfl b)
  have E0:=E.set (y:=281) (by decide) it
  refine Ab E.j ?_
  refine Bw (g:=g++[il [4,3,2,1,1]]) (many:=5) (gA (by decide) hn) k0 (by exact sB (mT _ _) (.add (.var 0) (.num 1)) (.num 900) (.add (.add (.add (.add (.add (.var 0) (.num 1)) (.num 1)) (.num 1)) (.mulL 3 (.var 1))) (.num 1)) (.num 800) (.num 0) (.var 1) (.num 0) (.var 1) (.num 0) (.var 1) rfl kk (gO _) (gO _) (gO _)) (by decide) ?_
  intro d d0 d1
  have hl:(g++[il [4,3,2,1,1]])[g.length]?=some (il [4,3,2,1,1]):=gv
  refine AO (A5 hl) d0 d1 ?_
  obtain⟨kd,u3,k6',ek⟩:∃kd:Nat,1<=kd/\kd<6/\[4,3,2,1,1].getD d.toNat 0=(kd:Int):=by
   rcases(by lia:d=0\/d=1\/d=2\/d=3\/d=4)with e|e|e|e|e<;>subst e
   ·exact⟨4,by decide,by decide,rfl⟩
   ·exact⟨3,by decide,by decide,rfl⟩
   ·exact⟨2,by decide,by decide,rfl⟩
   ·exact⟨1,by decide,by decide,rfl⟩
   ·exact⟨1,by decide,by decide,rfl⟩
  refine ek.symm▸?_
  refine Ab E.j ?_
  refine Bw (many:=3) (gA (by decide) hn) (by exact OA k0) (by exact sB (mT _ _) (.add (.add (.var 0) (.num 1)) (.num 1)) (.num 900) (.add (.add (.add (.add (.add (.var 0) (.num 1)) (.num 1)) (.num 1)) (.mulL 3 (.var 1))) (.num 1)) (.num 800) (.num 0) (.var 1) (.num 0) (.var 1) (.num 0) (.var 1) rfl kk (gO _) (gO _) (gO _)) (by decide) ?_
  intro d2 d20 d21
  have rest:∀c:Bool,ws lX (Ak lX prog n) false (AT 2 qX) (fun fl env' μ'=>match fl with|.ret w=>Q (.ret w) env' μ'|_=>Bz none (fun v K env' μ'=>opt (AC [281] true v env') fun e=>ws lX (Ak lX prog n) false qX K X e μ') items Q env' μ') X (Ad (Ad (Ad env 281 it) 1 (.int kd)) 0 (.int (sd c))) (B S (k+1+1) m G st++(g++[il [4,3,2,1,1]])):=by
   intro c
   have E1:=(E0.set (y:=1) (by decide) (.int kd)).set (y:=0) (by decide) (.int (sd c))
   refine Ab E.j ?_
   refine Ab E.s ?_
   refine Bw (many:=G.size) (gA (by decide) hn) (by exact cw k0) (by exact sB (mT _ _) (.add (.add (.add (.var 0) (.num 1)) (.num 1)) (.num 1)) (.num 900) (.add (.add (.add (.add (.add (.var 0) (.num 1)) (.num 1)) (.num 1)) (.mulL 3 (.var 1))) (.num 1)) (.num 800) (.num 0) (.var 1) (.num 0) (.var 1) (.num 0) (.var 1) rfl kk (gO _) (gO _) (gO _)) (by have:=(P.king GC.S true);lia) ?_
   intro s s0 s1
   have hb:=Ct (A4 P.C s0 s1)
   have E2:=E1.set (y:=282) (by decide) (.int s)
   have cont:=step st (g++[il [4,3,2,1,1]]) _ P E2
   have go:AB st.board s.toNat=0->ws lX (Ak lX prog n) false (AT 4 qX) (fun fl env' μ'=>match fl with|.ret w=>Q (.ret w) env' μ'|_=>Bz none (fun v K env' μ'=>opt (AC [281] true v env') fun e=>ws lX (Ak lX prog n) false qX K X e μ') items Q env' μ') X (Ad (Ad (Ad (Ad env 281 it) 1 (.int kd)) 0 (.int (sd c))) 282 (.int s)) (B S (k+1+1+1) m G st++(g++[il [4,3,2,1,1]])):=fun he=>
    fM hn GC P E2 u3 k6' s0 s1 he rfl rfl rfl fun m8 P'=>step m8 _ _ P' E2
   refine Ab E.p ?_
   refine B0 s0 hb ?_
   refine Ap (fun e=>?_) fun e=>?_
   ·exact cont
   ·have he:AB st.board s.toNat=0:=by
     simpa using e
    refine Ap (fun e=>?_) fun e=>?_
    ·conv=>whnf
     refine Ab E.r ?_
     refine Ap (fun e=>?_) fun e=>?_
     ·exact cont
     ·exact go he
    ·exact go he
  refine Ap (fun e=>?_) fun e=>?_
  ·conv=>whnf
   refine Ab E.p ?_
   exact rest st.side
  ·conv=>whnf
   refine Ab E.p ?_
   conv=>whnf
   rw[Gd]
   exact rest (!st.side)
end
structure R4(G:l7):Prop where
 far:∀z y,0<=z->z<G.size->0<=y->y<G.size->F5 z y=true->tb (Cu G.king y) z.toNat=false
 px:∀z,0<=z->z<G.size->0<((G0 G.size).filter (F5 z)).length
theorem aX(h:F5 z z=true):False:=by
 unfold F5 mx at h
 rw[lD,lD]at h
 exact Dd h
noncomputable def Fk(m:Nat)(c:Bool):St:={tV m with side:=c}
theorem Ep(m:Nat)(c:Bool)(k:Nat):AB (Fk m c).board k=0:=by
 show(List.replicate m (0:Int)).getD k 0=0
 rw[gU,List.getElem?_replicate]
 split<;>rfl
theorem DS(k:Nat):tb 0 k=false:=by show(0:Nat).testBit k=false;exact Nat.zero_testBit k
theorem HF{G:l7}{m:Nat}(hm:(m:Int)=G.size)(c:Bool):mF G (Fk m c):=by
 refine⟨?_,fun k=>.inl (Ep m c k),fun kd h1 h7 k=>?_,fun d k=>?_,rfl⟩
 ·show((List.replicate m (0:Int)).length:Int)=_
  refine List.length_replicate.symm▸?_;exact hm
 ·rw[Ep]
  rcases(by lia:kd=1\/kd=2\/kd=3\/kd=4\/kd=5\/kd=6)with rfl|rfl|rfl|rfl|rfl|rfl<;>exact DS k
 ·rw[Ep]
  induction d<;>exact DS k
theorem R2(h:∀k,tb x k=false):x=0:=Gi fun k=>by rw[h,DS]
noncomputable def Di(m:Nat)(c:Bool)(z y:Int):St:=Bu m (Bu m (Fk m c) c 6 z) (!c) 6 y
theorem Wp{z y:Int}(a:0<=z)(b:0<=y)(h:z.toNat=y.toNat):z=y:=by rw[<- gW a,h,gW b]
theorem bg{y:Int}(h:0<=y)(e:y.toNat=k):(k:Int)=y:=e▸gW h
theorem bf{y:Int}{k:Nat}(h:(k:Int)=y)(e:¬y.toNat=k):False:=e (h▸rfl)
theorem Zp{G:l7}(GC:Ch G m)(GK:R4 G)(z0:0<=z)(z1:z<G.size)(y0:0<=y)(y1:y<G.size)(hf:F5 z y=true):Pos G (Di m c z y):=by
 have C0:=HF (G:=G) GC.hm c
 have C1:=C0.put (m:=m) (c:=c) (kd:=6) (by decide) (by decide) z0 z1 (Ep m c _)
 have ne:z≠y:=fun e=>aX (e▸hf)
 have a1:∀k,AB (Bu m (Fk m c) c 6 z).board k=if z.toNat=k then pc c 6 else 0:=fun k=>by
  rw[EC C0 (by decide) (by decide) z0 z1,Ep]
 have C2:mF G (Di m c z y):=C1.put (m:=m) (c:=!c) (kd:=6) (by decide) (by decide) y0 y1 (by rw[a1,iH (show ¬z.toNat=y.toNat from fun w=>ne (Wp z0 y0 w))])
 have a2:∀k,AB (Di m c z y).board k=if y.toNat=k then pc (!c) 6 else if z.toNat=k then pc c 6 else 0:=fun k=>by
  show AB (Bu m _ (!c) 6 y).board k=_
  rw[EC C1 (by decide) (by decide) y0 y1,a1]
 have R:=(BN m (Bu m (Fk m c) c 6 z) (!c) 6 y).trans (BN m (Fk m c) c 6 z)
 have cc:pc c 6≠pc (!c) 6:=by induction c using Bool.casesOn<;>decide
 have Ky:EO G (Di m c z y) (!c) y:=⟨y0,y1,fun k=>by
  rw[a2]
  split
  ·rename_i e;exact⟨fun _=>bg y0 e,fun _=>rfl⟩
  ·rename_i e
   split
   ·exact⟨fun h=>absurd h cc,fun h=>(bf h e).elim⟩
   ·exact⟨fun h=>absurd h.symm (Em _ (by decide)),fun h=>(bf h e).elim⟩⟩
 have Kz:EO G (Di m c z y) c z:=⟨z0,z1,fun k=>by
  rw[a2]
  split
  ·rename_i e;exact⟨fun h=>absurd h.symm cc,fun h=>(ne (h.symm.trans (bg y0 e))).elim⟩
  ·split
   ·rename_i e;exact⟨fun _=>bg z0 e,fun _=>rfl⟩
   ·rename_i e;exact⟨fun h=>absurd h.symm (Em _ (by decide)),fun h=>(bf h e).elim⟩⟩
 have side:(Di m c z y).side=c:=R.side
 have tf:∀kd,1<=kd->kd<6->(Di m c z y).kd kd=0:=fun kd h1 h6=>R2 fun k=>by
  rw[C2.kb kd h1 (gZ h6),a2]
  have q:∀d:Bool,Of (pc d 6) kd=false:=fun d=>by rw[Ck d (by decide) (by decide)];exact gR (jN h6)
  split
  ·exact q _
  ·split
   ·exact q _
   ·rfl
 refine⟨C2,fun d=>?_,?_,R.hist⟩
 ·by_cases e:d=c
  ·subst e;exact⟨z,Kz⟩
  ·exact⟨y,by rw[show d=!c by induction d using Bool.casesOn<;>induction c using Bool.casesOn<;>simp_all];exact Ky⟩
 ·refine side.symm▸?_
  unfold Bo
  (refine(GI GC.S C2 Ky).symm▸?_;rewrite[kJ])
  have b0:∀x,Am x 0=0:=fun x=>by rw[K4];exact Ea x
  have k1:(Di m c z y).k1=0:=tf 1 (by decide) (by decide)
  have k2:(Di m c z y).k2=0:=tf 2 (by decide) (by decide)
  have k3:(Di m c z y).k3=0:=tf 3 (by decide) (by decide)
  have k4:(Di m c z y).k4=0:=tf 4 (by decide) (by decide)
  have k5:(Di m c z y).k5=0:=tf 5 (by decide) (by decide)
  have step:B3 G (Di m c z y) y c=0:=R2 fun k=>by
   unfold B3 ID
   rw[k1,k2,b0,b0,Ea]
   show tb (Builtin.bitOr 0 (Builtin.bitAnd (Builtin.bitOr 0 (Builtin.bitAnd _ _)) _)) k=false
   rw[DC,Bv,DC,Bv,DS,iF,iF]
   have t:=GX C2 c (kd:=6) (by decide) (by decide) k
   have t:tb (Builtin.bitAnd ((Di m c z y).si c) (Di m c z y).k6) k=true↔AB (Di m c z y).board k=pc c 6:=t
   rw[Bv]at t
   by_cases e:AB (Di m c z y).board k=pc c 6
   ·have hk:=(Kz.it k).mp e
    have f:=GK.far z y z0 z1 y0 y1 hf
    replace f:=(show z.toNat=k from hk▸rfl)▸f
    refine f.symm▸?_;rfl
   ·rw[Bool.and_assoc]
    cases q1:tb (Di m c z y).k6 k
    ·simp
    ·cases q2:tb ((Di m c z y).si c) k
     ·simp
     ·exact absurd (t.mp (by(refine q1.symm▸?_;refine q2.symm▸?_);rfl)) e
  have s0:AQ (Di m c z y)=0:=by unfold AQ;(refine k4.symm▸?_;refine k5.symm▸?_);rfl
  have s1:Cf (Di m c z y)=0:=by unfold Cf;(refine k3.symm▸?_;refine k5.symm▸?_);rfl
  unfold Bq B8
  (refine step.symm▸?_;refine s0.symm▸?_;refine s1.symm▸?_;rewrite[Ea])
  rfl
section
variable{S:List Int}{k:Int}{m:Nat}{G:l7}{st:St}{g:MH}{n:Nat}{hd:Bool}{X:As}{μ:MH}
theorem fL{Q:Au}(hn:6<=n)(GC:Ch G m)(GK:R4 G)(E:qr G env)(k0:0<=k)(k1:k<100)(sz:0<G.size)
  (h:∀k' m8 g' env',0<=k'->k'<=k+20->Pos G m8->Q (.ret (.lW 54)) env' (B S k' m G m8++g')):ws lX (Ak lX prog n) false (AT 4 Av) Q X env (B S k m G (tV m)++[]):=by
 have n1:1<=n:=gA (by decide) hn
 refine Ab E.j ?_
 refine Bw (many:=2) n1 k0 (by exact mI (mn _) (mj 0 1) (.num 900) (mj 0 1) (.num 100) rfl k1) (by decide) ?_
 intro d d0 d1
 obtain⟨c,rfl⟩:∃c:Bool,d=sd c:=by
  rcases(by lia:d=0\/d=1)with e|e
  ·exact⟨false,e⟩
  ·exact⟨true,e⟩
 have go5:ws lX (Ak lX prog n) false (AT 5 Av) Q X env (B S (k+1) m G (Fk m c)++[]):=by
  refine Ab E.j ?_
  refine Ab E.s ?_
  refine Bw (many:=G.size) n1 (by exact OA k0) (by exact mI (mn _) (.add (mj 0 1) (.num 1)) (.num 900) (mj 0 1) (.num 100) rfl k1) sz ?_
  intro z z0 z1
  have E1:=E.set (y:=284) (by decide) (.int z)
  have px:=GK.px z z0 z1
  have all:∀y∈(G0 G.size).filter (F5 z),0<=y/\y<G.size/\F5 z y=true:=fun y hy=>by
   obtain⟨a,b⟩:=List.mem_filter.mp hy
   exact⟨(Om a).1,(Om a).2,b⟩
  have len:((G0 G.size).filter (F5 z)).length<=20:=by
   refine gA (lJ _ _) ?_
   unfold G0
   rw[gS,jY]
   have:=GC.S.top
   lia
  have go7:ws lX (Ak lX prog n) false (AT 7 Av) Q X (Ad (Ad env 284 (.int z)) 283 (.lW (([]:MH).length+61))) (B S (k+1+1) m G (Fk m c)++([]++[il ((G0 G.size).filter (F5 z))])):=by
   revert px all len
   generalize(G0 G.size).filter (F5 z)=ap
   intro px all len
   have E2:=E1.set (y:=283) (by decide) (.lW (([]:MH).length+61))
   have hj:([]++[il ap]:MH)[([]:MH).length]?=some (il ap):=rfl
   refine Ab E.p ?_
   refine Ab E.p ?_
   refine Jp (kd:=6) n1 ?_
   refine K9 (st:=Fk m c) (g:=[]++[il ap]) (c:=c) (kd:=6) (gA (by decide) hn) (by decide) z0 (gK z1 GC.S.top) z1 (HF GC.hm c).len GC.hm ?_
   have C1:=(HF (G:=G) GC.hm c).put (m:=m) (c:=c) (kd:=6) (by decide) (by decide) z0 z1 (Ep m c _)
   have pv:=(BN m (Fk m c) c 6 z).side
   refine Ab E.p ?_
   refine Ab E.p ?_
   conv=>whnf
   rw[pv,Gd]
   refine Jp (kd:=6) n1 ?_
   refine Ab E.j ?_
   refine Bw (g:=[]++[il ap]) (many:=((ap.map V.int).length:Int)) n1 (by exact cw k0) (by exact mI (mn _) (.add (.add (mj 0 1) (.num 1)) (.num 1)) (.num 900) (mj 0 1) (.num 100) rfl k1) (by rw[gS];exact Tb (Int.ofNat_lt.mpr px)) ?_
   intro i i0 i1
   rw[gS]at i1
   refine AO (A5 hj) i0 i1 ?_
   have hy:ap.getD i.toNat 0∈ap:=by
    rw[gU,gV (by lia)]
    exact j5 _
   obtain⟨y0,y1,hf⟩:=all _ hy
   revert y0 y1 hf
   generalize ap.getD i.toNat 0=y
   intro y0 y1 hf
   have P:=Zp (c:=c) GC GK z0 z1 y0 y1 hf
   refine K9 (c:=!c) (kd:=6) (g:=[]++[il ap]) (gA (by decide) hn) (by decide) y0 (gK y1 GC.S.top) y1 C1.len GC.hm ?_
   refine Ab E.j ?_
   refine Bw (st:=Di m c z y) (g:=[]++[il ap]) (many:=3) n1 (by exact cv k0) (by exact mI (mn _) (.add (.add (.add (mj 0 1) (.num 1)) (.num 1)) (.num 1)) (.num 900) (mj 0 1) (.num 100) rfl k1) (by decide) ?_
   intro t t0 t1
   have fin:∀items:List V,items.length<=2->Bz none (fun v K env' μ'=>opt (AC [281] true v env') fun e=>ws lX (Ak lX prog n) false qX K X e μ') items (fun fl env' μ'=>match fl with|.next=>ws lX (Ak lX prog n) false (AT 10 Av) Q X env' μ'|f=>Q f env' μ') (Ad (Ad env 284 (.int z)) 283 (.lW (([]:MH).length+61))) (B S (k+1+1+1+1) m G (Di m c z y)++([]++[il ap])):=fun items hi=>by
    refine Zn hn GC items (k+1+1+1+1) (Di m c z y) ([]++[il ap]) _ (by exact fu k0) (by exact sB (mT _ _) (.add (.add (.add (.add (.add (.add (.var 0) (.num 1)) (.num 1)) (.num 1)) (.num 1)) (.mulL 3 (.var 1))) (.num 1)) (.num 800) (.add (.var 0) (.num 1)) (.num 100) (.var 1) (.num 2) (.var 1) (.num 2) (.var 1) (.num 2) rfl k1 (Int.ofNat_le.mpr hi) (Int.ofNat_le.mpr hi) (Int.ofNat_le.mpr hi)) P E2 fun k' m8 g' env' a b P' E'=>?_
    refine Ab E'.p ?_
    exact h k' m8 g' env' a (by exact sB (nB _ _ _) (.var 1) (.add (.var 2) (.num 20)) (.var 0) (.num 2) (.var 0) (.num 2) (.var 0) (.num 2) (.var 1) (.add (.add (.add (.add (.add (.var 2) (.num 1)) (.num 1)) (.num 1)) (.num 1)) (.mulL 3 (.var 0))) rfl (Int.ofNat_le.mpr hi) (Int.ofNat_le.mpr hi) (Int.ofNat_le.mpr hi) b) P'
   rcases(by lia:t=0\/t=1\/t=2)with e|e|e
   all_goals
    subst e
    refine A0 ?_
   ·exact fin [] (by decide)
   ·exact fin [.int 0] (iX 1)
   ·exact fin [.int 0,.int (0+1)] (gE 2)
  refine Ab E.s ?_
  refine Aj (gy (by have:=GC.S.top;exact g6 (m:=100) (by lia) (by decide))) ?_
  refine WA (st:=Fk m c) (g:=[]) (env:=Ad env 284 (.int z)) (z:=z) rfl (G0 G.size) _ [] (LC GC.S.pos) (by unfold G0;rw[gS,jY];have:=GC.S.top;show 0+_<_;lia) ?_
  exact go7
 refine Ab E.p ?_
 exact go5
end
theorem Ge{Φ:Bool->Az}{e:ME}{Q:Au}{X:As}:ws lX Φ hd (.seq (.assign x e) r) Q X env μ=we lX (Φ hd) env e (fun v μ'=>ws lX Φ hd r Q X (Ad env x v) μ') X μ:=rfl
noncomputable def Gr(lZ:Bool):l7:=match lZ with|true=>G5|false=>G4
noncomputable def mr(lZ:Bool):Nat:=match lZ with|true=>20|false=>16
section
variable{S:List Int}{n:Nat}{X:As}
theorem gn{Q:Au}(lZ:Bool)(hn:6<=n)(GC:Ch (Gr lZ) (mr lZ))(GK:R4 (Gr lZ))
  (h:∀k' m8 g' env',0<=k'->k'<=21->Pos (Gr lZ) m8->Q (.ret (.lW 54)) env' (B S k' (mr lZ) (Gr lZ) m8++g')):ws lX (Ak lX prog n) false (AT 2 Av) Q X (HZ (Gr lZ).ranks) [il S,.list [.lW 0,.int 1]]:=by
 obtain⟨j,rfl⟩:∃j,n=j+5:=⟨n - 5,by lia⟩
 have e2:AT 2 Av=.seq (.assign 287 (rhs (mR 2 Av))) (AT 3 Av):=rfl
 have e3:AT 3 Av=.seq (.assign 102 (rhs (mR 3 Av))) (AT 4 Av):=rfl
 rw[e2,Ge]
 cases lZ with
 |false=>
  rw[show(Gr false).ranks=4 from rfl,fG,e3,Ge,gi]
  have E:qr G4 (Ad (Ad (HZ 4) 287 (.lW 2)) 102 (.lW 54)):=⟨rfl,rfl,rfl,rfl⟩
  have z:=fL (S:=S) (k:=1) (m:=16) (G:=G4) (n:=j+5) (X:=X) (Q:=Q) hn GC GK E (by decide) (by decide) (by decide) fun k' m8 g' env' a b=>h k' m8 g' env' a b
  rw[gD]at z
  exact z
 |true=>
  rw[show(Gr true).ranks=5 from rfl,fH,e3,Ge,gj]
  have E:qr G5 (Ad (Ad (HZ 5) 287 (.lW 2)) 102 (.lW 54)):=⟨rfl,rfl,rfl,rfl⟩
  have z:=fL (S:=S) (k:=1) (m:=20) (G:=G5) (n:=j+5) (X:=X) (Q:=Q) hn GC GK E (by decide) (by decide) (by decide) fun k' m8 g' env' a b=>h k' m8 g' env' a b
  rw[gD]at z
  exact z
theorem gm{Q:Au}(hn:1<=n)(h:∀lZ,ws lX (Ak lX prog n) false r Q X (HZ (Gr lZ).ranks) [il S,.list [.lW 0,.int 1]]) :
  ws lX (Ak lX prog n) false (.seq (.assign 49 (rhs (mR 0 Av))) (.seq (.assign 63 (rhs (mR 1 Av))) r)) Q X (Ad (fun _=>none) 278 (.lW 1)) [il S,.list [.lW 0,.int 0]]:=by
 refine TR (many:=2) hn (by decide) (by decide) (by decide) ?_
 intro d d0 d1
 rcases(by lia:d=0\/d=1)with e|e
 ·subst e
  exact h false
 ·subst e
  exact h true
theorem Zl:Av=.seq (.assign 49 (rhs (mR 0 Av))) (.seq (.assign 63 (rhs (mR 1 Av))) (AT 2 Av)):=rfl
theorem Zm{Q:Ae}:CG (n+1) false 289 [.lW 1] Q X μ=ws lX (Ak lX prog n) false Av (fun fl _ μ'=>match fl with|.ret v=>Q v μ'|.next=>Q .none μ'|.cont=>False) X (Ad (fun _=>none) 278 (.lW 1)) μ:=rfl
theorem WZ{Q:Ae}(hn:7<=n)(GC:∀lZ,Ch (Gr lZ) (mr lZ))(GK:∀lZ,R4 (Gr lZ))
  (h:∀lZ k' m8 g',0<=k'->k'<=21->Pos (Gr lZ) m8->Q (.lW 54) (B S k' (mr lZ) (Gr lZ) m8++g')):CG n false 289 [.lW 1] Q X [il S,.list [.lW 0,.int 0]]:=by
 induction n with
 |zero=>exact absurd hn (by decide)
 |succ n=>
  rw[Zm,Zl]
  exact gm (l0 hn rfl) fun lZ=>gn lZ (l0 hn rfl) (GC lZ) (GK lZ) fun k' m8 g' _ a b P=>h lZ k' m8 g' a b P
end
section
variable{S:List Int}{k:Int}{m:Nat}{G:l7}{st:St}{g:MH}{n:Nat}{X:As}{μ:MH}{mk:Int->List Nat}
noncomputable def DV(st:St)(mk:Int->List Nat)(r:Nat)(g:MH):List V->List Int->Prop
 |[],[]=>True
 |y :: rs,v :: L=>(∃j,j≠r/\y=.tup [.int v,nV st mk j v]/\g[j]?=some (sl (pd st v)))/\DV st mk r g rs L
 |_,_=>False
theorem DV.ok:∀{rs:List V} {L:List Int},DV st mk r g rs L->BS st mk g rs L
 |[],[],_=>trivial
 |_ :: _,_ :: _,⟨⟨j,_,a,b⟩,h⟩=>⟨⟨j,a,b⟩,h.ok⟩
theorem DV.more(e:MH):∀{rs:List V} {L:List Int},DV st mk r g rs L->DV st mk r (g++e) rs L
 |[],[],_=>trivial
 |_ :: _,_ :: _,⟨⟨j,z,a,b⟩,h⟩=>⟨⟨j,z,a,Ac b e⟩,h.more e⟩
theorem DV.set{g:MH}(o:MO):∀{rs:List V} {L:List Int},DV st mk r g rs L->DV st mk r (g.set r o) rs L
 |[],[],_=>trivial
 |_ :: _,_ :: _,⟨⟨j,z,a,b⟩,h⟩=>⟨⟨j,z,a,by rw[gX (iJ z)];exact b⟩,h.set o⟩
theorem DV.snoc(hy:∃j,j≠r/\y=.tup [.int v,nV st mk j v]/\g[j]?=some (sl (pd st v))):∀{rs:List V} {L:List Int},DV st mk r g rs L->DV st mk r g (rs++[y]) (L++[v])
 |[],[],_=>⟨hy,trivial⟩
 |_ :: _,_ :: _,⟨a,h⟩=>⟨a,h.snoc hy⟩
theorem BS.len:∀{rs:List V} {L:List Int},BS st mk g rs L->rs.length=L.length
 |[],[],_=>rfl
 |_ :: _,_ :: _,⟨_,h⟩=>congrArg (·+ 1) h.len
theorem Zo{K:MH->Prop}(hn:13<=n)(GC:Ch G m)(F:Er G m st mk)(e1:env 102=some (.lW 54))(ir:r≠i)(L:List Int):∀(_:∀v∈L,v∈Ay G st) (g:MH) (xs:List V) (D:List Int),g[i]?=some (.list XS)->g[r]?=some (.list xs)->DV st mk r g xs D->xs.length+L.length<90000->
  (∀g' rT,g'[r]?=some (.list rT)->DV st mk r g' rT (D++L)->K (B S k m G st++g'))->
  Dq (some (i+61,XS)) (r+61) (fun v K μ'=>opt (AC [19] true v (AG [19] env)) fun e=>wt lX (Ak lX prog n false) e (.bool true) K (fun _ _=>False) μ')
   (fun v K μ'=>opt (AC [19] true v (AG [19] env)) fun e=>we lX (Ak lX prog n false) e (.tup (.cons (.lW 19) (.cons (.call 301 (.cons (.lW 102) (.cons (.lW 19) .nil))) .nil))) K (fun _ _=>False) μ') (L.map .int) K (B S k m G st++g):=by
 induction L with
 |nil=>
  intro _ g xs D hi hr T _ h
  rw[gD]at h
  exact⟨hi,h g xs hr T⟩
 |cons v L ih=>
  intro hL g xs D hi hr T hl h
  replace hl:=gQ▸hl
  refine⟨hi,?_⟩
  refine Ab e1 ?_
  refine W1 hn GC F (hL v gJ) ?_
  intro e j sR hj
  have ls:By (B S k m G st++(g++e)) (r+61)=some xs:=FQ (Ac hr e)
  refine Ab ls ?_
  refine Aj (gy (gY (hH _ _) (iu hl (by decide)))) ?_
  have jr:j≠r:=fun w=>by
   (rw[<- w]at hr;replace hr:=(ip sR)▸hr);exact Ao hr
  refine ih (fun v hv=>hL v (gz _ hv)) ((g++e).set r (.list (xs++[.tup [.int v,nV st mk j v]]))) (xs++[.tup [.int v,nV st mk j v]]) (D++[v]) (by refine(gX ir).symm▸?_;exact Ac hi e) (AJ (Ac hr e)) ?_ (by refine List.length_append.symm▸?_;show _+1+_<_;exact S8 hl) fun g' rT a b=>?_
  ·exact((T.more e).snoc ⟨j,jr,rfl,hj⟩).set _
  ·rw[gu]at b
   exact h g' rT a b
end
noncomputable def SG:List Nat:=[97,98,99,100,49,50,51,52,53,120,45,61,43,35,81,82,66,78,75,113,114,98,110,79,32]
theorem RV{μ:MH}{s:List Nat}{d:Int}(h0:0<=d)(h1:d<s.length):∃c,B6 μ (.str s) (.int d)=some (.str [c]):=by
 have hl:d.toNat<s.length:=by lia
 refine⟨s[d.toNat],?_⟩
 show((CU s.length d).bind fun k=>(s[k]?).map fun c=>V.str [c])=_
 unfold CU
 rw[iI h0,iI h1]
 show(s[d.toNat]?).map _=_
 rw[gV hl];rfl
theorem Zk(l:List (List Nat)):BE (l.map V.str)=some l:=by
 induction l with
 |nil=>rfl
 |cons a l ih=>show(BE (l.map V.str)).map _=_;rw[ih];rfl
theorem Sz(l:List (List Nat))(h:∀x∈l,x.length<=1):l.flatten.length<=l.length:=by
 induction l with
 |nil=>exact gE 0
 |cons a l ih=>
  rw[List.flatten_cons,gx,gQ]
  have:=h a gJ
  have:=ih fun x hx=>h x (gz _ hx)
  lia
section
variable{S:List Int}{k:Int}{m:Nat}{G:l7}{st:St}{g:MH}{n:Nat}{X:As}{μ:MH}{mk:Int->List Nat}
theorem YN{K:MH->Prop}(hn:1<=n)(e1:env 278=some (.lW 1))(items:List V):∀(k:Int) (xs:List (List Nat)),0<=k->k+items.length<800->xs.length+items.length<90000->(∀x∈xs,x.length<=1)->
  (∀k' ys,0<=k'->k'<=k+items.length->ys.length=xs.length+items.length->(∀x∈ys,x.length<=1)->K (B S k' m G st++(g++[sl ys])))->
  Dq none (g.length+61) (fun v K μ'=>opt (AC [281] true v (AG [281] env)) fun e=>wt lX (Ak lX prog n false) e (.bool true) K (fun _ _=>False) μ')
   (fun v K μ'=>opt (AC [281] true v (AG [281] env)) fun e=>we lX (Ak lX prog n false) e (.sub (.lX 310) (.call 280 (.cons (.lW 278) (.cons (.blt 0 (.cons (.lX 310) .nil)) .nil)))) K (fun _ _=>False) μ') items K (B S k m G st++(g++[sl xs])):=by
 induction items with
 |nil=>
  intro k xs k0 k1 hl hx h
  exact h k xs k0 (by simp) (by rfl) hx
 |cons it items ih=>
  intro k xs k0 k1 hl hx h
  (replace hl:=gQ▸hl;replace k1:=gQ▸k1;replace h:=gQ▸h)
  refine Ab e1 ?_
  refine Bw (many:=25) hn k0 (by lia) (by decide) ?_
  intro d d0 d1
  obtain⟨c,hc⟩:=RV (μ:=B S (k+1) m G st++(g++[sl xs])) (s:=SG) d0 d1
  refine Af hc ?_
  have hj:(g++[sl xs])[g.length]?=some (sl xs):=gv
  refine Ab (FQ hj) ?_
  refine Aj (Z2 (by exact fq hl)) ?_
  (refine VK.symm▸?_;rewrite[g8 _ _ (gE _)];rewrite[iB])
  refine ih (k+1) (xs++[[c]]) (by exact OA k0) (by exact mI (mT _ _) (.add (.add (mj 0 1) mP) (.num 1)) (.num 800) (.add (.add md (mj 1 1)) (.num 1)) (.num 800) rfl k1) (by refine List.length_append.symm▸?_;show _+1+_<_;exact S8 hl) (fun x sZ=>?_) fun k' ys a b c' d'=>h k' ys a (by exact e8 b) (by(refine c'.symm▸?_;refine List.length_append.symm▸?_);show _+1+_=_;exact jG (qq6) (qq5)) d'
  rcases List.mem_append.mp sZ with w|w
  ·exact hx x w
  ·refine(List.mem_singleton.mp w).symm▸?_;exact gE 1
noncomputable def lwB:MS:=fb (mR 6 Dn)
theorem X1{Q:Au}(hn:14<=n)(GC:Ch G m)(F:Er G m st mk)(ok:∀t,FV mk G st t=EA mk st (Ay G st) t)(ts:List (List Nat)):∀(g:MH) (env:An),g[tj]?=some (.list TS)->g[jt]?=some (.list rs)->BS st mk g rs (Ay G st)->env 102=some (.lW 54)->env 302=some (.lW (jt+61))->
  (∀env' e,(∀x,x≠224->env' x=env x)->Q .next env' (B S k m G st++(g++e)))->
  Bz (some (tj+61,TS)) (fun v K env' μ'=>opt (AC [224] true v env') fun e=>ws lX (Ak lX prog n) false lwB K X e μ') (ts.map .str) Q env (B S k m G st++g):=by
 induction ts with
 |nil=>
  intro g env h1 h2 T e1 e2 h
  have h:=h env [] fun _ _=>rfl
  rw[gD]at h
  exact⟨h1,h⟩
 |cons t ts ih=>
  intro g env h1 h2 T e1 e2 h
  have hl:rs.length<80000:=by rw[T.len];exact Hx
  refine⟨h1,?_⟩
  refine Ab e1 ?_
  refine WM hn GC F ?_
  intro e
  refine Ab e2 ?_
  refine WQ (gA (by decide) hn) (Ac h2 e) (T.more e) hl ?_
  intro e'
  refine(ok t).symm▸?_
  have fin:Bz (some (tj+61,TS)) (fun v K env' μ'=>opt (AC [224] true v env') fun e=>ws lX (Ak lX prog n) false lwB K X e μ') (ts.map .str) Q (Ad env 224 (.str t)) (B S k m G st++((g++e)++e')):=by
   refine ih ((g++e)++e') _ (Ac (Ac h1 e) e') (Ac (Ac h2 e) e') ((T.more e).more e') e1 e2 fun env' e2 a=>?_
   have w:((g++e)++e')++e2=g++(e++(e'++e2)):=by simp only[gu]
   have h:=h env' (e++(e'++e2)) fun x hx=>(a x hx).trans (iH hx)
   rw[<- w]at h
   exact h
  cases EA mk st (Ay G st) t with
  |none=>
   conv=>whnf
   exact fin
  |some v=>
   refine Cz (by refine(show(v==v)=true from io v).symm▸?_;rfl) ?_
   exact fin
end
theorem N4{b:List Int}(ha:μ[a]?=some (il b)):AZ μ 5 (.tup [.lW a,.int s,.int ky,.int h,.int f])=some (.tuple [.list (b.map .int),.int s,.int ky,.int h,.int f]):=by
 show((AZ μ 4 (.lW a)).bind fun x=>_:Option (List PyData)).map PyData.tuple=_
 refine(Iw (j:=3) ha).symm▸?_;rfl
theorem Xn(b:List Int)(s ky h f:Int):PyData.eqv (.tuple [.list (b.map .int),.int s,.int ky,.int h,.int f]) (.tuple [.list (b.map .int),.int s,.int ky,.int h,.int f])=true:=by
 simp[PyData.eqv,PyData.eqvAll]
 have:=Um b
 simp[PyData.eqv]at this
 exact this
theorem aT(ha:μ[a]?=some (il b))(hc:μ[c]?=some (il b)):JB μ .Eq (.tup [.lW a,.int s,.int ky,.int h,.int f]) (.tup [.lW c,.int s,.int ky,.int h,.int f])=some true:=by
 show((AZ μ 5 _).bind fun x=>(AZ μ 5 _).map fun y=>PyData.eqv x y)=_
 (refine(N4 ha).symm▸?_;refine(N4 hc).symm▸?_;refine(Xn b s ky h f)▸?_);rfl
theorem Xc{α:Type}(l:List α):cut l 0 l.length=l:=by unfold cut;rw[List.take_length];rfl
section
variable{S:List Int}{k:Int}{m:Nat}{G:l7}{st:St}{g:MH}{n:Nat}{X:As}{μ:MH}{mk:Int->List Nat}
theorem eG{Q:Au}(hc:g[cj]?=some (il st.board))(hh:st.hist=[])(e1:env 102=some (.lW 54))(e2:env 308=some (.tup [.lW (cj+61),.int (sd st.side),.int st.key,.int st.half,.int st.full]))(h:∀μ',Q (.ret (.bool true)) env μ'):ws lX (Ak lX prog n) false (AT 7 Dn) Q X env (B S k m G st++g):=by
 refine Ab e1 ?_
 refine Ab e1 ?_
 refine Ab e1 ?_
 refine Ab e1 ?_
 refine Ab e1 ?_
 refine Ab e2 ?_
 refine Ab (aT (b:=st.board) rfl hc) ?_
 refine Ab e1 ?_
 have q1:(B S k m G st++g++[il []])[60]?=some (il []):=by
  show some (MO.list st.hist)=_
  refine hh.symm▸?_;rfl
 have q2:(B S k m G st++g++[il []])[(B S k m G st++g).length]?=some (il []):=gv
 refine Ab (PH q1 q2) ?_
 exact h _
theorem eF{Q:Au}(hn:14<=n)(GC:Ch G m)(F:Er G m st mk)(hh:st.hist=[])(ok:∀t,FV mk G st t=EA mk st (Ay G st) t)(h1:g[tj]?=some (sl ts))(h2:g[jt]?=some (.list rs))(T:BS st mk g rs (Ay G st))(e1:env 102=some (.lW 54))(e2:env 302=some (.lW (jt+61)))(e3:env 309=some (.lW (tj+61)))
  (h:∀env' μ',Q (.ret (.bool true)) env' μ'):ws lX (Ak lX prog n) false (AT 5 Dn) Q X env (B S k m G st++g):=by
 refine Ab e1 ?_
 refine Ab e1 ?_
 refine Ab e1 ?_
 refine Ab e1 ?_
 refine Ab e1 ?_
 refine Ab e3 ?_
 refine(show cut (st.board.map V.int) 0 (st.board.map V.int).length=st.board.map V.int from Xc _).symm▸?_
 have hb:(g++[il st.board])[g.length]?=some (il st.board):=gv
 refine Ab (Ln (S:=S) (k:=k) (m:=m) (G:=G) (st:=st) (Ac h1 [il st.board])) ?_
 refine A0 ?_
 refine X1 (tj:=tj) (jt:=jt) (TS:=ts.map .str) hn GC F ok ts (g++[il st.board]) (Ad env 308 (.tup [.lW (g.length+61),.int (sd st.side),.int st.key,.int st.half,.int st.full])) (Ac h1 _) (Ac h2 _) (T.more _) e1 e2 fun env' e a=>?_
 refine eG (cj:=g.length) (Ac hb e) hh ((a 102 (by decide)).trans e1) ((a 308 (by decide)).trans rfl) fun μ'=>h env' μ'
end
theorem MP(s:Int):(mY s).length=2:=rfl
theorem Ul(p:Int):(FG p).length<=2:=by unfold FG;cases p==0;exact gE 2;exact ic _
theorem dC(v:Int):(wF v).length<=20:=by
 unfold wF EN
 cases Ah v==0 with
 |true=>show 2+2+0<=20;decide
 |false=>show 2+2+1<=20;decide
theorem Xf(v:Int):(oK v).length<=20:=by
 unfold oK PC
 rw[gx]
 cases Ah v==0 with
 |true=>show 2+2+0<=20;decide
 |false=>show 2+2+(pK (Ah v).toNat).length<=20;have:=Q7 (Ah v).toNat;lia
theorem XU(st:St)(v:Int):(nZ st v).length<=20:=by
 unfold nZ Dc
 rw[gx,gx,gx,gx,MP,MP]
 have a:=GH (oq st v).toNat
 have b:(BC (mX st v) [45]).length<=2:=Fv (mX st v) [45]
 have c:=Ul (Ah v)
 lia
theorem WE(st:St)(v:Int):∀b∈pd st v,b.length<=20:=fun b hb=>by
 obtain⟨o,ho,hb⟩:=List.mem_flatMap.mp hb
 obtain⟨e,he,rfl⟩:=List.mem_map.mp hb
 have h1:=(Ow _ _ _).1 o ho
 have h2:=(N6 _).1 e he
 unfold EX
 (refine List.length_append.symm▸?_;refine List.length_append.symm▸?_;refine List.length_append.symm▸?_;refine List.length_append.symm▸?_;rewrite[MP])
 have a:=GH (oq st v).toNat
 have b:(BC (mX st v) []).length<=1:=Fv (mX st v) []
 lia
theorem WF(st:St)(v:Int):0<(pd st v).length:=by
 unfold pd DK
 rw[List.length_flatMap]
 unfold EL Cj
 cases((oq st v).toNat==1)&&mX st v<;>cases Ah v==0<;>simp
theorem U5(G:l7)(s:St):(JV G s).length<=1:=by
 unfold JV V5
 cases Bo G s s.side with
 |false=>exact ic _
 |true=>cases(oA G s).any (Bs G s (C9 G s s.side))<;>exact gE 1
theorem QC{μ:MH}{a:Nat}{l:List (List Nat)}{d:Int}(h:μ[a]?=some (sl l))(h0:0<=d)(h1:d<l.length):∃t∈l,B6 μ (.lW a) (.int d)=some (.str t):=by
 have hl:d.toNat<l.length:=by lia
 refine⟨l[d.toNat],j5 _,?_⟩
 refine Nh h h0 (by rw[gS];exact h1) ?_
 rw[kO,gV hl];rfl
theorem fN(h:μ[a]?=some (sl (x :: l))):B6 μ (.lW a) (.int 0)=some (.str x):=HH h
section
variable{S:List Int}{k:Int}{m:Nat}{G:l7}{st:St}{g:MH}{n:Nat}{X:As}{μ:MH}{mk:Int->List Nat}
theorem Sv(μ:MH)(j:Nat)(l:List (List Nat)):(l.map V.str).mapM (AZ μ j)=some (l.map fun s=>PyData.str (sx s)):=by
 induction l with
 |nil=>rfl
 |cons a l ih=>(rewrite[iY];rewrite[jb];refine ih.symm▸?_);induction j using Nat.casesOn<;>rfl
theorem Lf{xs:List V}(h:μ[a]?=some (.list xs)):AZ μ (j+1) (.lW a)=(xs.mapM (AZ μ j)).map PyData.list:=by
 show((By μ a).bind fun xs=>(xs.mapM (AZ μ j)).map PyData.list)=_
 rw[CO h];rfl
theorem Uc(h:(B S k m G st++g)[j+61]?=some (sl (pd st v))):∃d,AZ (B S k m G st++g) 4 (.tup [.int v,nV st mk j v])=some d:=by
 have e:AZ (B S k m G st++g) 2 (.lW (j+61))=some (.list ((pd st v).map fun s=>PyData.str (sx s))):=by
  rw[Lf (j:=1) h,Sv];rfl
 refine⟨.tuple [.int v,.tuple [.str (sx (wF v)),.list ((pd st v).map fun s=>PyData.str (sx s)),.str (sx (nZ st v)),.str (sx (oK v)),.str (sx (mk v))]],?_⟩
 have e2:AZ (B S k m G st++g) 3 (nV st mk j v)=some (.tuple [.str (sx (wF v)),.list ((pd st v).map fun s=>PyData.str (sx s)),.str (sx (nZ st v)),.str (sx (oK v)),.str (sx (mk v))]):=by
  show([V.str (wF v),.lW (j+61),.str (nZ st v),.str (oK v),.str (mk v)].mapM (AZ (B S k m G st++g) 2)).map PyData.tuple=_
  rw[jb,jb,e];rfl
 show([V.int v,nV st mk j v].mapM (AZ (B S k m G st++g) 3)).map PyData.tuple=_
 rw[jb,jb,e2];rfl
theorem Su{rs:List V}:∀{L:List Int},BS st mk g rs L->∃ds,rs.mapM (AZ (B S k m G st++g) 4)=some ds/\ds.length=rs.length:=by
 induction rs with
 |nil=>exact fun _=>⟨[],rfl,rfl⟩
 |cons r rs ih=>
  intro L T
  induction L using List.casesOn with
  |nil=>exact T.elim
  |cons _ L=>
   obtain⟨⟨j,rfl,hj⟩,T⟩:=T
   obtain⟨d,hd⟩:=Uc (mk:=mk) (S:=S) (k:=k) (m:=m) (G:=G) (g:=g) hj
   obtain⟨ds,h1,h2⟩:=ih T
   exact⟨d :: ds,by rw[jb,hd,h1];rfl,congrArg (·+ 1) h2⟩
theorem Vd{rs:List V}(h:g[jt]?=some (.list rs))(T:BS st mk g rs L):JB (B S k m G st++(g++[il []])) .NotEq (.lW (jt+61)) (.lW (g.length+61))=some (!rs.isEmpty):=by
 obtain⟨ds,h1,h2⟩:=Su (S:=S) (k:=k) (m:=m) (G:=G) (T.more [il []])
 have q1:(B S k m G st++(g++[il []]))[jt+61]?=some (.list rs):=(Ac h [il []]:(g++[il []])[jt]?=_)
 have q2:(B S k m G st++(g++[il []]))[g.length+61]?=some (il []):=(gv:(g++[il []])[g.length]?=_)
 have d1:AZ (B S k m G st++(g++[il []])) 5 (.lW (jt+61))=some (.list ds):=by
  rw[Lf (j:=4) q1,h1];rfl
 show((((AZ _ 5 (.lW (jt+61))).bind fun x=>(AZ _ 5 (.lW (g.length+61))).map fun y=>PyData.eqv x y)).map (!·))=_
 (refine d1.symm▸?_;refine(Iw (j:=4) q2).symm▸?_)
 show some (!PyData.eqv (.list ds) (.list []))=_
 induction ds using List.casesOn<;>induction rs using List.casesOn<;>first|rfl|cases h2
end
theorem cJ{st:St}{mk:Int->List Nat}{g:MH}{rs:List V}:∀{L:List Int} (i:Nat),BS st mk g rs L->i<rs.length->∃v j,v∈L/\rs[i]?=some (.tup [.int v,nV st mk j v])/\g[j]?=some (sl (pd st v)):=by
 induction rs with
 |nil=>exact fun _ _ h=>absurd h (Nat.not_lt_zero _)
 |cons r rs ih=>
  intro L i T h
  induction L using List.casesOn with
  |nil=>exact T.elim
  |cons v L=>
   induction i using Nat.casesOn with
   |zero=>obtain⟨⟨j,e,hj⟩,_⟩:=T;exact⟨v,j,.head _,congrArg some e,hj⟩
   |succ i=>
    obtain⟨w,j,a,b,c⟩:=ih i T.2 (ke h)
    exact⟨w,j,.tail _ a,b,c⟩
noncomputable def lb:MS:=ft (mR 4 Dn)
section
variable{S:List Int}{k:Int}{m:Nat}{G:l7}{st:St}{g:MH}{n:Nat}{X:As}{μ:MH}{mk:Int->List Nat}
theorem QL{Φ:Az}{e:ME}{Q:List V->MH->Prop}(h:we lX Φ env e (fun v μ₁=>wl lX Φ env r (fun vs μ₂=>Q (v :: vs) μ₂) X μ₁) X μ):wl lX Φ env (.cons e r) Q X μ:=h
theorem QK{Φ:Az}{Q:Ae}(h:we lX Φ env o (fun u μ₁=>we lX Φ env i (fun v μ₂=>opt (OS μ₂ u v) fun w=>Q w μ₂) X μ₁) X μ):we lX Φ env (.sub o i) Q X μ:=h
theorem RZ{Φ:Az}{Q:Ae}(h:wl lX Φ env es (fun vs μ₁=>A7 (decide (vs.length<=lim)) (Q (.lW μ₁.length) (μ₁++[.list vs]))) X μ):we lX Φ env (.list es) Q X μ:=h
theorem Ww{Φ:Az}{x y:List Nat}{Q:Ae}(ha:∀K:Ae,K (.str x) μ->we lX Φ env a K X μ)(hb:∀K:Ae,K (.str y) μ->we lX Φ env b K X μ)(hl:decide (x.length+y.length<=lim)=true)(h:Q (.str (x++y)) μ):we lX Φ env (.bin .Add a b) Q X μ:=by
 refine ha _ (hb _ ?_)
 refine Aj hl ?_
 exact h
theorem F6{Φ:Az}{Q:Ae}(e:env 303=some (.tup l))(hv:B6 μ (.tup l) (.int i)=some v)(h:Q v μ):we lX Φ env (.sub (.lW 303) (.int i)) Q X μ:=by
 refine Ab e ?_
 refine Af hv ?_
 exact h
theorem Yt{Q:Ae}{bs:List (List Nat)}(hn:1<=n)(hj:g[j]?=some (sl bs))(pos:0<bs.length)(k0:0<=k)(k1:k<700)(e1:env 303=some (.tup [.str w,.lW (j+61),.str lg,.str dg,.str mv]))(e2:env 278=some (.lW 1))
  (h:∀b∈bs,Q (.str b) (B S (k+1) m G st++g)):we lX (Ak lX prog n false) env (.sub (.sub (.lW 303) (.int 1)) (.call 280 (.cons (.lW 278) (.cons (.blt 0 (.cons (.sub (.lW 303) (.int 1)) .nil)) .nil)))) Q X (B S k m G st++g):=by
 refine QK (F6 e1 rfl ?_)
 refine Ab e2 ?_
 refine Ab e1 ?_
 refine Af rfl ?_
 refine Ab (FQ hj) ?_
 refine Bw (many:=((bs.map V.str).length:Int)) hn k0 (by exact fv k1) (by rw[gS];exact Tb (Int.ofNat_lt.mpr pos)) ?_
 intro d d0 d1
 rw[gS]at d1
 have uK:(B S (k+1) m G st++g)[j+61]?=some (sl bs):=hj
 obtain⟨b,hb,sb⟩:=QC uK d0 d1
 refine Af sb ?_
 exact h b hb
theorem Xu{Q:Ae}{w lg dg mv:List Nat}{bs:List (List Nat)}(hn:1<=n)(hj:g[j]?=some (sl bs))(pos:0<bs.length)(hb:∀b∈bs,b.length<=20)(l1:w.length<=20)(l2:lg.length<=20)(l3:dg.length<=20)(ml:mv.length<=1)(k0:0<=k)(k1:k<700)(f0:0<=fm)(f1:fm<6)(e1:env 303=some (.tup [.str w,.lW (j+61),.str lg,.str dg,.str mv]))(e2:env 278=some (.lW 1))(e3:env 311=some (.int fm))
  (h:∀t e,t.length<=40->Q (.str t) (B S (k+1) m G st++(g++e))):we lX (Ak lX prog n false) env (rhs (mR 2 lb)) Q X (B S k m G st++g):=by
 obtain⟨b0,br,eb⟩:∃b0 br,bs=b0 :: br:=by
  induction bs using List.casesOn with
  |nil=>cases pos
  |cons a l=>exact⟨a,l,rfl⟩
 have uK:(B S (k+1) m G st++g)[j+61]?=some (sl bs):=hj
 have hb0:=hb b0 (by refine eb.symm▸?_;exact gJ)
 refine QK (RZ (QL (F6 e1 rfl (QL (Yt hn hj pos k0 k1 e1 e2 fun b tJ=>QL (F6 e1 rfl (QL (F6 e1 rfl (QL (Ww (fun K h=>F6 e1 rfl h) (fun K h=>F6 e1 rfl h) (FJ l2 ml (by decide)) (QL (Ww (y:=[43]) (fun K h=>QK (F6 e1 rfl ?_)) (fun K h=>h) (FJ (a:=20) (b:=1) hb0 (gE 1) (by decide)) ?_))))))))))))
 ·refine Af (fN (by exact eb▸uK)) ?_
  exact h
 ·have bl:=hb b tJ
  refine Ab e3 ?_
  have hl:(B S (k+1) m G st++(g++[sl [w,b,lg,dg,lg++mv,b0++[43]]]))[g.length+61]?=some (sl [w,b,lg,dg,lg++mv,b0++[43]]):=(gv:(g++[sl [w,b,lg,dg,lg++mv,b0++[43]]])[g.length]?=_)
  obtain⟨t,ht,stt⟩:=QC hl f0 f1
  have tl:t.length<=40:=by
   have all:∀x∈[w,b,lg,dg,lg++mv,b0++[43]],x.length<=40:=by
    have nil:∀e∈([]:List (List Nat)),e.length<=40:=fun _ h=>by cases h
    refine List.forall_mem_cons.mpr ⟨gA l1 (by decide),List.forall_mem_cons.mpr ⟨gA bl (by decide),List.forall_mem_cons.mpr ⟨gA l2 (by decide),List.forall_mem_cons.mpr ⟨gA l3 (by decide),List.forall_mem_cons.mpr ⟨?_,List.forall_mem_cons.mpr ⟨?_,nil⟩⟩⟩⟩⟩⟩
    ·rw[gx];exact o9 (mT _ _) (.add mi mD) (.num 40) mi (.num 20) mD (.num 1) rfl l2 ml
    ·rw[gx];show b0.length+1<=40;exact mO (mn _) (mt 0 1) (.num 40) mi (.num 20) rfl hb0
   exact all t ht
  refine Af stt ?_
  exact h t [sl [w,b,lg,dg,lg++mv,b0++[43]]] tl
end
theorem Ua(l:List Nat)(a b:Nat):(cut l a b).length<=l.length:=by unfold cut;(refine List.length_drop.symm▸?_;refine List.length_take.symm▸?_);lia
section
variable{S:List Int}{k:Int}{m:Nat}{G:l7}{st:St}{g:MH}{n:Nat}{X:As}{μ:MH}{mk:Int->List Nat}
theorem f9{Q:Au}{t:List Nat}{ts:List (List Nat)}(hn:1<=n)(hj:g[tj]?=some (sl ts))(hl:ts.length<=10)(tl:t.length<=40)(k0:0<=k)(k1:k<700)(e1:env 309=some (.lW (tj+61)))(e2:env 224=some (.str t))(e3:env 282=some (.int s))(e4:env 252=some (.str [c]))(e5:env 278=some (.lW 1))
  (h:∀u e,Q .next (Ad env 309 (.lW (tj+61))) (B S (k+1) m G st++(g.set tj (sl (ts++[t,u]))++e))):ws lX (Ak lX prog n) false (mR 5 lb) Q X env (B S k m G st++g):=by
 refine Ab e1 ?_
 refine Ab e2 ?_
 refine Ab e2 ?_
 refine Ab e3 ?_
 refine Ab e4 ?_
 refine Ab e5 ?_
 refine Bw (g:=g++[sl [[],[c]]]) (many:=2) hn k0 (by exact fv k1) (by decide) ?_
 intro d d0 d1
 have hb:(B S (k+1) m G st++(g++[sl [[],[c]]]))[g.length+61]?=some (sl [[],[c]]):=(gv:(g++[sl [[],[c]]])[g.length]?=_)
 obtain⟨x,hx,sx⟩:=QC hb d0 d1
 have xl:x.length<=1:=by
  have all:∀y∈[[],[c]],y.length<=1:=List.forall_mem_cons.mpr ⟨ic _,List.forall_mem_cons.mpr ⟨gE 1,fun _ h=>by cases h⟩⟩
  exact all x hx
 refine Af sx ?_
 refine Aj (FJ (gA (Ua _ _ _) tl) xl (by decide)) ?_
 refine Ab e2 ?_
 refine Ab e3 ?_
 refine Aj (FJ (a:=41) (b:=40) (by rw[gx];exact jk (gA (Ua _ _ _) tl) xl) (gA (Ua _ _ _) tl) (by decide)) ?_
 have ne:tj≠(g++[sl [[],[c]]]).length:=BX (Ac hj _)
 refine Aj (gy (show tj+61≠(g++[sl [[],[c]]]).length+61 by lia)) ?_
 refine Ab (FQ (Ac (Ac hj _) _)) ?_
 have hn2:∀y,(g++[sl [[],[c]]]++[y])[(g++[sl [[],[c]]]).length]?=some y:=fun y=>gv
 refine Ab (FQ (hn2 _)) ?_
 refine Aj (gy (by rw[gS];show ts.length+2<=lim;unfold lim;exact mO (mn _) (mt 0 2) (.num 1000000) mi (.num 10) rfl hl)) ?_
 have fin:∀u:List Nat,Q .next (Ad env 309 (.lW (tj+61))) ((B S (k+1) m G st++(g++[sl [[],[c]]]++[sl [t,u]])).set (tj+61) (.list (ts.map .str++[.str t,.str u]))):=fun u=>by
  have z:(B S (k+1) m G st++(g++[sl [[],[c]]]++[sl [t,u]])).set (tj+61) (.list (ts.map .str++[.str t,.str u]))=B S (k+1) m G st++(g++[sl [[],[c]]]++[sl [t,u]]).set tj (sl (ts++[t,u])):=by
   rw[show sl (ts++[t,u])=.list (ts.map V.str++[.str t,.str u]) by unfold sl;rw[ki];rfl];rfl
  rw[z,AR (Ac hj _),AR hj,gu]
  exact h u _
 exact fin _
end
section
variable{S:List Int}{k:Int}{m:Nat}{G:l7}{st:St}{g:MH}{n:Nat}{X:As}{μ:MH}{mk:Int->List Nat}
theorem sq{Φ:Bool->Az}{Q:Au}(h:ws lX Φ hd a (fun fl env' μ'=>match fl with|.next=>ws lX Φ hd b Q X env' μ'|f=>Q f env' μ') X env μ):ws lX Φ hd (.seq a b) Q X env μ:=h
theorem fZ{Q:Au}(hn:1<=n)(k0:0<=k)(k1:k<500)(e3:env 278=some (.lW 1))(h:∀fm,0<=fm->fm<6->Q .next (Ad env 311 (.int fm)) (B S (k+1) m G st++g)):ws lX (Ak lX prog n) false (mR 0 lb) Q X env (B S k m G st++g):=by
 refine Ab e3 ?_
 refine Bw (many:=6) hn k0 (by exact YJ k1) (by decide) ?_
 exact h
theorem f5{Q:Au}{rs:List V}(hn:1<=n)(hi:g[jt]?=some (.list rs))(T:BS st mk g rs L)(pos:0<rs.length)(k0:0<=k)(k1:k<500)(e2:env 302=some (.lW (jt+61)))(e3:env 278=some (.lW 1))
  (h:∀v j,v∈L->g[j]?=some (sl (pd st v))->Q .next (Ad env 303 (nV st mk j v)) (B S (k+1) m G st++g)):ws lX (Ak lX prog n) false (mR 1 lb) Q X env (B S k m G st++g):=by
 refine Ab e2 ?_
 refine Ab e3 ?_
 refine Ab e2 ?_
 refine Ab (FQ hi) ?_
 refine Bw (many:=(rs.length:Int)) hn (by assumption) (by exact YJ k1) (by exact Tb (Int.ofNat_lt.mpr pos)) ?_
 intro i i0 i1
 obtain⟨v,j,hv,er,uz⟩:=cJ (rs:=rs) i.toNat T (by lia)
 have hi1:(B S (k+1) m G st++g)[jt+61]?=some (.list rs):=hi
 refine Af (Nh hi1 i0 i1 er) ?_
 refine Af (v:=nV st mk j v) rfl ?_
 exact h v j hv uz
theorem f6{Q:Au}(hn:1<=n)(k0:0<=k)(k1:k<500)(e2:env 224=some (.str t))(e3:env 278=some (.lW 1))(h:∀s,Q .next (Ad env 282 (.int s)) (B S (k+1) m G st++g)):ws lX (Ak lX prog n) false (mR 3 lb) Q X env (B S k m G st++g):=by
 refine Ab e3 ?_
 refine Ab e2 ?_
 refine Bw (many:=(t.length:Int)+1) hn (by assumption) (by exact YJ k1) (by exact cr (gO _)) ?_
 intro s s0 s1
 exact h s
theorem f7{Q:Au}(hn:1<=n)(k0:0<=k)(k1:k<500)(e3:env 278=some (.lW 1))(h:∀c,Q .next (Ad env 252 (.str [c])) (B S (k+1) m G st++g)):ws lX (Ak lX prog n) false (mR 4 lb) Q X env (B S k m G st++g):=by
 refine Ab e3 ?_
 refine Bw (many:=25) hn (by assumption) (by exact YJ k1) (by decide) ?_
 intro d d0 d1
 obtain⟨c,hc⟩:=RV (μ:=B S (k+1) m G st++g) (s:=SG) d0 d1
 refine Af hc ?_
 exact h c
theorem eH{Q:Au}{ts:List (List Nat)}{rs:List V}(hn:1<=n)(hi:g[jt]?=some (.list rs))(hj:g[tj]?=some (sl ts))(ne:tj≠jt)(hl:ts.length<=10)(T:DV st mk tj g rs L)(pos:0<rs.length)(ml:∀v∈L,(mk v).length<=1)(k0:0<=k)(k1:k<400)(e1:env 309=some (.lW (tj+61)))(e2:env 302=some (.lW (jt+61)))(e3:env 278=some (.lW 1))
  (h:∀k' env' g' tv,0<=k'->env' 102=env 102->env' 302=env 302->env' 309=some (.lW (tj+61))->g'[tj]?=some (sl tv)->g'[jt]?=some (.list rs)->BS st mk g' rs L->Q .next env' (B S k' m G st++g')):ws lX (Ak lX prog n) false lb Q X env (B S k m G st++g):=by
 refine sq (fZ hn k0 (by exact mI (mn _) (mj 0 1) (.num 500) (mj 0 1) (.num 400) rfl k1) e3 fun fm f0 f1=>?_)
 refine sq (f5 (env:=Ad env 311 (.int fm)) hn hi T.ok pos (by exact OA k0) (by exact mI (mn _) (.add (mj 0 1) (.num 1)) (.num 500) (mj 0 1) (.num 400) rfl k1) e2 e3 fun v j hv uz=>?_)
 refine sq (Xu (k:=k+1+1) (env:=Ad (Ad env 311 (.int fm)) 303 (nV st mk j v)) (fm:=fm) hn uz (WF st v) (WE st v) (dC v) (XU st v) (Xf v) (ml v hv) (by exact cw k0) (by exact mI (mn _) (.add (.add (mj 0 1) (.num 1)) (.num 1)) (.num 700) (mj 0 1) (.num 400) rfl k1) f0 f1 rfl e3 rfl fun t e tl=>?_)
 refine sq (f6 (k:=k+1+1+1) (env:=Ad (Ad (Ad env 311 (.int fm)) 303 (nV st mk j v)) 224 (.str t)) (t:=t) hn (by exact cv k0) (by exact mI (mn _) (.add (.add (.add (mj 0 1) (.num 1)) (.num 1)) (.num 1)) (.num 500) (mj 0 1) (.num 400) rfl k1) rfl e3 fun s=>?_)
 refine sq (f7 (k:=k+1+1+1+1) (env:=Ad (Ad (Ad (Ad env 311 (.int fm)) 303 (nV st mk j v)) 224 (.str t)) 282 (.int s)) hn (by exact fu k0) (by exact mI (mn _) (.add (.add (.add (.add (.add (.var 0) (.num 1)) (.num 1)) (.num 1)) (.num 1)) (.num 1)) (.num 500) (.add (.var 0) (.num 1)) (.num 400) rfl k1) e3 fun c=>?_)
 refine sq (f9 (k:=k+1+1+1+1+1) (env:=Ad (Ad (Ad (Ad (Ad env 311 (.int fm)) 303 (nV st mk j v)) 224 (.str t)) 282 (.int s)) 252 (.str [c])) (t:=t) (c:=c) (s:=s) hn (Ac hj e) hl tl (by exact mI (mn _) (.num 0) (.add (.add (.add (.add (.add (.var 0) (.num 1)) (.num 1)) (.num 1)) (.num 1)) (.num 1)) (.num 0) (.var 0) rfl k0) (by exact mI (mn _) (.add (.add (.add (.add (.add (.add (.var 0) (.num 1)) (.num 1)) (.num 1)) (.num 1)) (.num 1)) (.num 1)) (.num 700) (.add (.var 0) (.num 1)) (.num 400) rfl k1) e1 rfl rfl rfl e3 fun u e'=>?_)
 refine h _ _ ((g++e).set tj (sl (ts++[t,u]))++e') (ts++[t,u]) (by exact mI (mn _) (.num 0) (.add (.add (.add (.add (.add (.add (.var 0) (.num 1)) (.num 1)) (.num 1)) (.num 1)) (.num 1)) (.num 1)) (.num 0) (.var 0) rfl k0) rfl rfl rfl (Ac (AJ (Ac hj e)) e') (Ac (by refine(gX ne).symm▸?_;exact Ac hi e) e') ?_
 exact(((T.more e).set _).more e').ok
end
section
variable{S:List Int}{k:Int}{m:Nat}{G:l7}{st:St}{g:MH}{n:Nat}{X:As}{μ:MH}{mk:Int->List Nat}
theorem s_4{Q:Au}{ts:List (List Nat)}(hn:1<=n)(hi:g[jt]?=some (.list rs))(hj:g[tj]?=some (sl ts))(ne:tj≠jt)(hl:ts.length<=10)(T:DV st mk tj g rs L)(ml:∀v∈L,(mk v).length<=1)(k0:0<=k)(k1:k<400)(e1:env 309=some (.lW (tj+61)))(e2:env 302=some (.lW (jt+61)))(e3:env 278=some (.lW 1))
  (h:∀k' env' g' tv,env' 102=env 102->env' 302=env 302->env' 309=some (.lW (tj+61))->g'[tj]?=some (sl tv)->g'[jt]?=some (.list rs)->BS st mk g' rs L->Q .next env' (B S k' m G st++g')):ws lX (Ak lX prog n) false (mR 4 Dn) Q X env (B S k m G st++g):=by
 refine Ab e2 ?_
 refine Ab (Vd hi T.ok) ?_
 refine Ap (fun e=>?_) fun e=>?_
 ·have pos:0<rs.length:=by
   induction rs using List.casesOn with
   |nil=>exact Dd e
   |cons=>exact jp _
  exact eH (g:=g++[il []]) hn (Ac hi _) (Ac hj _) ne hl (T.more _) pos ml k0 k1 e1 e2 e3 fun k' env' g' tv _ a b c d e f=>h k' env' g' tv a b c d e f
 ·exact h k env (g++[il []]) ts rfl rfl e1 (Ac hj _) (Ac hi _) (T.more _).ok
theorem cI{Q:Ae}(hn:1<=n)(k0:0<=k)(k1:k<300)(e1:env 278=some (.lW 1))(h:∀k' t e,0<=k'->k'<400->Q (.str t) (B S k' m G st++(g++e))) :
  we lX (Ak lX prog n false) env (.my (.str []) 4 (.cons (.comp (.sub (.lX 310) (.call 280 (.cons (.lW 278) (.cons (.blt 0 (.cons (.lX 310) .nil)) .nil)))) [281] true (.blt 4 (.cons (.call 280 (.cons (.lW 278) (.cons (.int 7) .nil))) .nil)) (.bool true)) .nil)) Q X (B S k m G st++g):=by
 refine Ab e1 ?_
 refine Bw (many:=7) hn k0 (by exact mI (mn _) (mj 0 1) (.num 900) (mj 0 1) (.num 300) rfl k1) (by decide) ?_
 intro d d0 d1
 refine Aj (gy (g6 (m:=100) (by lia) (by decide))) ?_
 conv=>whnf
 have il:(Cs (Cr 0 d 1) 0 1).length<=6:=by
  rw[LC d0];unfold G0
  rw[gS,gS,jY];lia
 refine YN (g:=g) (env:=env) hn e1 (Cs (Cr 0 d 1) 0 1) (k+1) [] (by exact OA k0) (by exact qp (mT _ _) (.add (.add (mj 0 1) mP) (.num 1)) (.num 800) (mj 0 1) (.num 300) mP (.num 6) rfl k1 (Int.ofNat_le.mpr il)) (by show 0+_<_;exact mO (mn _) (.add (.add (.num 0) mi) (.num 1)) (.num 90000) mi (.num 6) rfl il) (fun _ h=>by cases h) fun k' ys a b c l1=>?_
 have hj:(g++[sl ys])[g.length]?=some (sl ys):=gv
 have fl:=Sz ys l1
 have cl:ys.length<=6:=by rw[c];show 0+_<=6;exact mO (mn _) (.add (.num 0) mi) (.num 6) mi (.num 6) rfl il
 refine Ab (FQ hj) ?_
 refine Ab (Zk ys) ?_
 refine Aj (gy (gA fl (gA cl (by decide)))) ?_
 exact h k' _ _ a (by lia)
end
section
variable{S:List Int}{k:Int}{m:Nat}{G:l7}{st:St}{g:MH}{n:Nat}{X:As}{μ:MH}{mk:Int->List Nat}
theorem asg{Φ:Bool->Az}{e:ME}{Q:Au}(h:we lX (Φ hd) env e (fun v μ'=>Q .next (Ad env x v) μ') X μ):ws lX Φ hd (.assign x e) Q X env μ:=h
theorem s_2{Q:Au}(hn:14<=n)(GC:Ch G m)(F:Er G m st mk)(e1:env 102=some (.lW 54))
  (h:∀g' r rs,r<g'.length->g'[r]?=some (.list rs)->DV st mk r g' rs (Ay G st)->Q .next (Ad env 302 (.lW (r+61))) (B S k m G st++g')):ws lX (Ak lX prog n) false (mR 2 Dn) Q X env (B S k m G st++g):=by
 refine Ab e1 ?_
 refine Fq (gA (by decide) hn) GC.S F.R.C.low F.R.q0 F.R.q1 GC.hr F.R.ps (B5 G st) ?_
 intro e i hi
 refine Ab (Be hi) ?_
 have hr:(g++e++[MO.list []])[(g++e).length]?=some (.list []):=gv
 refine Zo (i:=i) (r:=(g++e).length) (XS:=(Ay G st).map .int) (env:=env) (gA (by decide) hn) GC F e1 (iJ (BX hi)) (Ay G st) (fun _ h=>h) (g++e++[.list []]) [] [] (Ac hi _) hr trivial (by have:=Hx (G:=G) (st:=st);show 0+_<_;exact YH this) fun g' rT a b=>?_
 have lt:(g++e).length<g'.length:=by
  rcases iV (g++e).length g'.length with c|c
  ·exact c
  ·exact AM (ip c) a
 exact h g' _ rT lt a b
theorem s_3{Q:Au}(hn:1<=n)(k0:0<=k)(k1:k<300)(e1:env 278=some (.lW 1))
  (h:∀k' t e,0<=k'->k'<400->Q .next (Ad env 309 (.lW ((g++e).length+61))) (B S k' m G st++(g++e++[sl [t]]))):ws lX (Ak lX prog n) false (mR 3 Dn) Q X env (B S k m G st++g):=
 asg (RZ (QL (cI hn k0 k1 e1 fun k' t e a b=>h k' t e a b)))
theorem DV.shift{e:MH}:∀{rs:List V} {L:List Int},DV st mk r g rs L->DV st mk (g++e).length (g++e++f) rs L
 |[],[],_=>trivial
 |_ :: _,_ :: _,⟨⟨j,_,a,b⟩,h⟩=>⟨⟨j,BX (Ac b e),a,Ac (Ac b e) f⟩,h.shift⟩
theorem eE{Q:Au}(hn:14<=n)(GC:Ch G m)(F:Er G m st mk)(hh:st.hist=[])(ml:∀v∈Ay G st,(mk v).length<=1)(ok:∀t,FV mk G st t=EA mk st (Ay G st) t)(k0:0<=k)(k1:k<300)(e1:env 102=some (.lW 54))(e3:env 278=some (.lW 1))
  (h:∀env' μ',Q (.ret (.bool true)) env' μ'):ws lX (Ak lX prog n) false (AT 2 Dn) Q X env (B S k m G st++g):=by
 have n1:1<=n:=gA (by decide) hn
 refine sq (s_2 hn GC F e1 fun g1 r rs lt hr T=>?_)
 refine sq (s_3 (env:=Ad env 302 (.lW (r+61))) n1 k0 k1 e3 fun k' t e k0' u3=>?_)
 have uT:(g1++e++[sl [t]])[r]?=some (.list rs):=Ac (Ac hr e) _
 have hj:(g1++e++[sl [t]])[(g1++e).length]?=some (sl [t]):=gv
 have T2:DV st mk (g1++e).length (g1++e++[sl [t]]) rs (Ay G st):=T.shift
 have ne:(g1++e).length≠r:=by refine List.length_append.symm▸?_;exact jN (mO (nB _ _ _) (mt 0 1) (.add mD nE) (mt 0 1) mD rfl lt)
 refine sq (s_4 (env:=Ad (Ad env 302 (.lW (r+61))) 309 (.lW ((g1++e).length+61))) (tj:=(g1++e).length) (jt:=r) (ts:=[t]) n1 uT hj ne (by show 1<=10;decide) T2 ml k0' u3 rfl rfl e3 fun k2 mQ g2 ts2 a b c d e' f=>?_)
 exact eF hn GC F hh ok d e' f (a.trans e1) b c h
end
structure Zx:Prop where
 GC:∀lZ,Ch (Gr lZ) (mr lZ)
 GK:∀lZ,R4 (Gr lZ)
 ok:∀lZ st,Pos (Gr lZ) st->∃mk,Er (Gr lZ) (mr lZ) st mk/\(∀v∈Ay (Gr lZ) st,(mk v).length<=1)/\∀t,FV mk (Gr lZ) st t=EA mk st (Ay (Gr lZ) st) t
section
variable{n:Nat}{X:As}
theorem Xd(xs:List Int)(a b:Nat):cut (xs.map V.int) a b=(cut xs a b).map V.int:=by unfold cut;rw[<- List.map_take,<- List.map_drop]
theorem s_0{Q:Au}{Φ:Bool->Az}{xs:List Int}(h:∀S,Q .next (Ad (Ad (fun _=>none) 307 (.mM (xs.map .int))) 278 (.lW 1)) [il S,.list [.lW 0,.int 0]]):ws lX Φ false (mR 0 Dn) Q X (Ad (fun _=>none) 307 (.mM (xs.map .int))) []:=by
 have h:=h (cut xs 0 (min 40 (xs.map V.int).length))
 unfold il at h
 rw[<- Xd]at h
 exact h
theorem dW{Q:Ae}{xs:List Int}(hn:15<=n)(O:Zx)(h:∀μ',Q (.bool true) μ'):CG n false 312 [.mM (xs.map .int)] Q X []:=by
 induction n with
 |zero=>exact absurd hn (by decide)
 |succ n=>
  refine sq (s_0 fun S=>?_)
  refine sq (asg ?_)
  have cl:we lX (Ak lX prog n false) (Ad (Ad (fun _=>none) 307 (.mM (xs.map .int))) 278 (.lW 1)) (rhs (mR 1 Dn)) (fun v μ'=>ws lX (Ak lX prog n) false (AT 2 Dn) (fun fl _ μ'=>match fl with|.ret v=>Q v μ'|.next=>Q .none μ'|.cont=>False) X (Ad (Ad (Ad (fun _=>none) 307 (.mM (xs.map .int))) 278 (.lW 1)) 102 v) μ') X [il S,.list [.lW 0,.int 0]]:=by
   refine WZ (show 7<=n by exact mO (mn _) (.num 7) mi (.num 15) (mt 0 1) rfl hn) O.GC O.GK fun lZ k' m8 g' k0 k1 P=>?_
   obtain⟨mk,F,ml,ok⟩:=O.ok lZ m8 P
   exact eE (lH hn) (O.GC lZ) F P.hist ml ok k0 (by exact mI (mn _) (mj 0 1) (.num 300) md (.num 21) rfl k1) rfl rfl fun _ μ'=>h μ'
  exact cl
end
noncomputable def G2(n:Nat)(p:Nat->Bool):Bool:=(List.range n).all p
theorem CM{p:Nat->Bool}(h:G2 n p=true)(hi:i<n):p i=true:=List.all_eq_true.mp h i (List.mem_range.mpr hi)
theorem PQ{p:Nat->Bool}{s x:Int}(h:G2 s.toNat p=true)(x0:0<=x)(x1:x<s):p x.toNat=true:=CM h (by lia)
noncomputable def XZ(n:Nat)(l:List Int):Bool:=l.all fun x=>decide (0<=x)&&decide (x<2 ^ n)
theorem IA{G:l7}(h:XZ G.size.toNat l=true)(i:Int):Bd G (Cu l i):=by
 unfold Cu
 refine List.getD_eq_getElem?_getD.symm▸?_
 cases e:l[i.toNat]? with
 |none=>exact⟨ix 0,jC (by decide)⟩
 |some x=>
  have:=List.all_eq_true.mp h x (jm e)
  simp only[gH,g9]at this
  exact this
theorem M7{G:l7}{p:List Int->Bool}(h:([G.r0,G.r1,G.r2,G.r3,G.r4,G.r5,G.r6,G.r7].all p)=true)(d:Nat):p (KU G d)=true:=by
 have q:∀l∈[G.r0,G.r1,G.r2,G.r3,G.r4,G.r5,G.r6,G.r7],p l=true:=List.all_eq_true.mp h
 unfold KU
 split<;>exact q _ (by simp)
theorem OF(lZ:Bool):([(Gr lZ).r0,(Gr lZ).r1,(Gr lZ).r2,(Gr lZ).r3,(Gr lZ).r4,(Gr lZ).r5,(Gr lZ).r6,(Gr lZ).r7].all (XZ (Gr lZ).size.toNat))=true:=by induction lZ<;>kernel_rfl
theorem VR(lZ:Bool):([(Gr lZ).r0,(Gr lZ).r1,(Gr lZ).r2,(Gr lZ).r3,(Gr lZ).r4,(Gr lZ).r5,(Gr lZ).r6,(Gr lZ).r7].all fun l=>((l.length:Int)==(Gr lZ).size))=true:=by induction lZ<;>kernel_rfl
theorem Xw(lZ:Bool):Ch (Gr lZ) (mr lZ):=by
 refine⟨?_,fun a b=>?_,?_,?_,?_⟩
 ·have rl:=fun d (_:d<8)=>gM (M7 (VR lZ) d)
  cases lZ
  ·exact⟨by decide,rl,rfl,rfl,rfl,rfl,by decide,by decide,rfl,rfl,by decide,by decide⟩
  ·exact⟨by decide,rl,rfl,rfl,rfl,rfl,by decide,by decide,rfl,rfl,by decide,by decide⟩
 ·unfold AW
  cases GB (Gr lZ) a b with
  |none=>exact⟨ix 0,jC (by decide)⟩
  |some d=>exact(IA (M7 (OF lZ) d) a).left _
 ·induction lZ using Bool.casesOn<;>decide
 ·induction lZ using Bool.casesOn<;>rfl
 ·cases lZ
  ·exact⟨_,rfl,rfl⟩
  ·exact⟨_,rfl,rfl⟩
noncomputable def aW(G:l7):Bool:=G2 G.size.toNat fun z=>G2 G.size.toNat fun y=>!F5 z y||!tb (Cu G.king y) z
noncomputable def Y8(G:l7):Bool:=G2 G.size.toNat fun z=>decide (0<((G0 G.size).filter (F5 z)).length)
theorem aY(lZ:Bool):aW (Gr lZ)=true:=by cases lZ<;>kernel_rfl
theorem Y9(lZ:Bool):Y8 (Gr lZ)=true:=by cases lZ<;>kernel_rfl
theorem fX(lZ:Bool):R4 (Gr lZ):=by
 refine⟨fun z y z0 z1 y0 y1 h=>?_,fun z z0 z1=>?_⟩
 ·have q:=PQ (PQ (aY lZ) z0 z1) y0 y1
  rw[gW z0,gW y0,h]at q
  simpa using q
 ·have q:=PQ (Y9 lZ) z0 z1
  rw[gW z0]at q
  exact gG q
theorem Kl{x:Int}(h:0<=x)(s k:Nat):tb (x.fdiv (2 ^ s)) k=tb x (k+s):=by
 obtain⟨a,rfl⟩:=gB h
 rw[iz _ (jf (jC (by decide)))]
 show(a / 2 ^ s).testBit k=a.testBit (k+s)
 rw[Nat.testBit_div_two_pow]
theorem Na{x:Int}(h:0<=x)(s:Nat):0<=x.fdiv (2 ^ s):=by
 rw[iz _ (jf (jC (by decide)))]
 exact jL h (jf (jC (by decide)))
structure tF(b x:Int)(w:Nat):Prop where
 pos:0<=x
 bit:∀k,tb x k=true↔∃i,i<w/\tb b (k+i)=true
theorem tF.twice{x:Int}(W:tF b x w):tF b (Builtin.bitOr x (x.fdiv (2 ^ w))) (w+w):=by
 refine⟨VA W.pos (Na W.pos w),fun k=>?_⟩
 rw[DC,Kl W.pos,hZ,W.bit,W.bit]
 constructor
 ·rintro(⟨i,h,e⟩|⟨i,h,e⟩)
  ·exact⟨i,by exact mO (mT _ _) (mt 0 1) (.add mD mD) (mt 0 1) mD rfl h,e⟩
  ·exact⟨w+i,by exact mO (mT _ _) (.add (.add mD mi) (.num 1)) (.add mD mD) (mt 0 1) mD rfl h,by rw[<- Nat.add_assoc];exact e⟩
 ·rintro⟨i,h,e⟩
  rcases iV i w with c|c
  ·exact .inl ⟨i,c,e⟩
  ·exact .inr ⟨i - w,by lia,by rw[show k+w+(i - w)=k+i by lia];exact e⟩
theorem Tl(h:0<=b)(k:Nat):tb (RS b) k=true↔∃i,i<64/\tb b (k+i)=true:=by
 have W0:tF b b 1:=⟨h,fun k=>⟨fun e=>⟨0,by decide,e⟩,fun⟨i,hi,e⟩=>by replace e:=(show i=0 by exact jG (mO (mn _) mi (.num 0) (mt 0 1) (.num 1) rfl hi) (pZ (mn _) (.num 0) mi rfl))▸e;exact e⟩⟩
 exact(W0.twice.twice.twice.twice.twice.twice).bit k
theorem dr(b:Nat):(2*b).testBit 0=false:=by rw[iZ,Nat.mul_mod_right];rfl
theorem tW(b k:Nat):(2*b).testBit (k+1)=b.testBit k:=by rw[iK,lw b (by decide)]
theorem du(b:Nat):(2*b+1).testBit 0=true:=by rw[iZ,kW];rfl
theorem tbO(b k:Nat):(2*b+1).testBit (k+1)=b.testBit k:=by rw[iK,show(2*b+1) / 2=b by lia]
theorem U3(n:Nat):∀(a:Nat),a<2 ^ n->0<a->∃j,a.testBit j=true/\(∀i,i<j->a.testBit i=false)/\∀k,(a.testBit k ^^ (a - 1).testBit k)=decide (k<=j):=by
 induction n with
 |zero=>intro a h p;exact absurd p (Nat.not_lt.mpr (kN h))
 |succ n ih=>
  intro a h p
  obtain⟨b,rfl|rfl⟩:∃b,a=2*b\/a=2*b+1:=⟨a / 2,by lia⟩
  ·induction b with
   |zero=>exact absurd p (ib 0)
   |succ c=>
    obtain⟨j,h1,h2,h3⟩:=ih (c+1) (lj (a:=2) (by rw[kH,lA (2 ^ n)]at h;exact h)) (jp c)
    refine⟨j+1,(tW _ _).trans h1,fun i hi=>?_,fun k=>?_⟩
    ·induction i using Nat.casesOn with
     |zero=>exact dr _
     |succ i=>exact(tW _ _).trans (h2 i (ke hi))
    ·show((2*(c+1)).testBit k ^^ (2*c+1).testBit k)=_
     induction k with
     |zero=>rw[dr,du];exact(gy (ic _)).symm
     |succ k=>rw[tW,tbO];exact(h3 k).trans (decide_eq_decide.mpr Nat.succ_le_succ_iff.symm)
  ·refine⟨0,du b,fun i hi=>absurd hi (Nat.not_lt_zero i),fun k=>?_⟩
   show((2*b+1).testBit k ^^ (2*b).testBit k)=_
   induction k with
   |zero=>rw[du,dr];rfl
   |succ k=>rw[tbO,tW,Bool.xor_self];exact(gR (jE k)).symm
def bef(up:Bool)(u t:Nat):Prop:=match up with|true=>u<t|false=>t<u
theorem RK(h0:0<=om)(oB:om<2 ^ 20)(t:Nat):tb (RJ up om occ) t=true↔tb om t=true/\∀u,bef up u t->¬(tb om u=true/\tb occ u=true):=by
 have sb:∀u,tb (Builtin.bitAnd om occ) u=true↔tb om u=true/\tb occ u=true:=fun u=>by rw[Bv,gH]
 have s0:0<=Builtin.bitAnd om occ:=(Es h0 occ).1
 have tp:Builtin.bitAnd om occ<2 ^ 20:=jT (Es h0 occ).2 oB
 simp only[<- sb]
 unfold RJ
 revert s0 tp
 generalize Builtin.bitAnd om occ=stop
 intro s0 tp
 obtain⟨a,rfl⟩:=gB s0
 cases e:(a:Int)==0 with
 |true=>
  have z:a=0:=by have:=gM e;lia
  cases z
  exact⟨fun h=>⟨h,fun u _ q=>by exact Ew q (show tb ((0:Nat):Int) u=false from DS u)⟩,fun h=>h.1⟩
 |false=>
  have p:0<a:=by
   rw[gP]at e;lia
  induction up using Bool.casesOn with
  |true=>
   obtain⟨j,h1,h2,h3⟩:=U3 20 a (by lia) p
   show tb (Builtin.bitAnd om (Cv (a:Int) ((a:Int) - 1))) t=true↔_
   (rewrite[Bv];refine(show(a:Int) - 1=((a - 1:Nat):Int) by lia).symm▸?_;rewrite[Km (gO _) (gO _)])
   show(tb om t&&(a.testBit t ^^ (a - 1).testBit t))=true↔_
   rw[h3,gH,g9]
   constructor
   ·rintro⟨h,k⟩
    refine⟨h,fun u hu q=>?_⟩
    have hu:u<t:=hu
    have q:a.testBit u=true:=q
    exact Ew q (h2 u (by exact o9 (nB _ _ _) (mt 2 1) mD mi mD (mt 2 1) mi rfl k hu))
   ·rintro⟨h,k⟩
    refine⟨h,?_⟩
    rcases iV j t with c|c
    ·exact absurd h1 (k j c)
    ·exact c
  |false=>
   have s1:=Na s0 1
   show tb (Builtin.bitAnd om (Builtin.bitNot (RS ((a:Int).fdiv (2 ^ 1))))) t=true↔_
   rw[Bv,Gj,gH,ji]
   have sm:=Tl s1 t
   constructor
   ·rintro⟨h,k⟩
    refine⟨h,fun u hu q=>?_⟩
    have hu:t<u:=hu
    have u20:u<20:=by
     rcases iV u 20 with c|c
     ·exact c
     ·have q:a.testBit u=true:=q
      exact Ew q (iW (g6 (by lia:a<2 ^ 20) (iy (by decide) c)))
    have:=sm.mpr ⟨u - t - 1,by lia,by(rewrite[Kl s0];refine(show t+(u - t - 1)+1=u by lia).symm▸?_);exact q⟩
    exact Ew this k
   ·rintro⟨h,k⟩
    refine⟨h,?_⟩
    cases q:tb (RS ((a:Int).fdiv (2 ^ 1))) t with
    |false=>rfl
    |true=>
     obtain⟨i,hi,e⟩:=sm.mp q
     rw[Kl s0]at e
     exact absurd e (k (t+i+1) (by show t<_;exact pZ (mT _ _) (mt 0 1) (.add (.add mi mD) (.num 1)) rfl))
noncomputable def aj(up:Bool)(u t:Nat):Bool:=match up with|true=>decide (u<t)|false=>decide (t<u)
theorem ZD:aj up u t=true↔bef up u t:=by cases up<;>exact decide_eq_true_iff
noncomputable def Ql(G:l7)(d o:Nat):Int:=(KU G d).getD o 0
noncomputable def Nj(l:List Int)(o:Nat):Int:=l.getD o 0
noncomputable def Wk(G:l7):Bool:=G2 8 fun d=>G2 G.size.toNat fun o=>!tb (Ql G d o) o&&G2 G.size.toNat fun t=>!tb (Ql G d o) t||(tb (Ql G (back d) t) o&&G2 G.size.toNat fun u=>!(tb (Ql G (back d) t) u&&aj (SI (back d)) u o)||(tb (Ql G d o) u&&aj (SI d) u t))
noncomputable def RT(G:l7):Bool:=G2 G.size.toNat fun o=>(!tb (Nj G.knight o) o&&!tb (Nj G.king o) o)&&G2 G.size.toNat fun t=>(!tb (Nj G.knight o) t||tb (Nj G.knight t) o)&&(!tb (Nj G.king o) t||tb (Nj G.king t) o)
noncomputable def Wx(w:Bool):Int:=match w with|false=>3|true=>0
noncomputable def RF(G:l7)(c w:Bool):Bool:=G2 G.size.toNat fun t=>G2 G.size.toNat fun o=>!decide ((t:Int) - B1 c w=o)||tb (Cu G.files (Wx w)) o||tb (Nj (G.pw (!c)) t) o
noncomputable def U0(G:l7):Bool:=XZ G.size.toNat G.knight&&XZ G.size.toNat G.king
theorem dm(lZ:Bool):Wk (Gr lZ)=true:=by cases lZ<;>kernel_rfl
theorem Zi(lZ:Bool):RT (Gr lZ)=true:=by cases lZ<;>kernel_rfl
theorem Ys(lZ c w:Bool):RF (Gr lZ) c w=true:=by cases lZ<;>cases c<;>cases w<;>kernel_rfl
theorem SS(lZ:Bool):U0 (Gr lZ)=true:=by cases lZ<;>kernel_rfl
structure IO(G:l7):Prop where
 low:∀d i,Bd G (Cu (KU G d) i)
 sym:Wk G=true
 step:RT G=true
 qk:∀c w,RF G c w=true
 u7:∀i,Bd G (Cu G.knight i)
 u6:∀i,Bd G (Cu G.king i)
theorem eg(lZ:Bool):IO (Gr lZ):=by
 have h:=SS lZ
 unfold U0 at h
 rw[gH]at h
 exact⟨fun d i=>IA (M7 (OF lZ) d) i,dm lZ,Zi lZ,Ys lZ,fun i=>IA h.1 i,fun i=>IA h.2 i⟩
theorem Jj{G:l7}(h:Bd G x)(hk:tb x k=true):(k:Int)<G.size/\k<G.size.toNat:=by
 obtain⟨a,rfl⟩:=gB h.1
 have h2:=h.2
 rw[show(2:Int) ^ G.size.toNat=((2 ^ G.size.toNat:Nat):Int) by rw[jK];rfl]at h2
 have:k<G.size.toNat:=by
  rcases iV k G.size.toNat with c|c
  ·exact c
  ·have q:a.testBit k=true:=hk
   rw[iW (g6 (by exact Int.ofNat_lt.mp (cq h2):a<2 ^ G.size.toNat) (iy (by decide) c))]at q
   cases q
 lia
section
variable{G:l7}{st:St}
theorem RL(L:IO G)(GS:G.l6)(hd:d<8)(ho:o<G.size.toNat)(h:tb (GQ G d o occ) t=true):tb (GQ G (back d) t occ) o=true/\t≠o:=by
 have r0:=L.low d o
 have r20:=r0.top GS
 obtain⟨h1,h2⟩:=(RK (up:=SI d) (occ:=occ) r0.1 r20 t).mp h
 have ht:=(Jj r0 h1).2
 have q:=CM (CM L.sym hd) ho
 rw[gH]at q
 obtain⟨q0,q⟩:=q
 have q:=CM q ht
 have qG:tb (Ql G d o) t=true:=h1
 rw[qG,kB,iF,gH]at q
 obtain⟨q1,q2⟩:=q
 have s0:=L.low (back d) t
 refine⟨(RK (up:=SI (back d)) (occ:=occ) s0.1 (s0.top GS) o).mpr ⟨q1,fun u hu e=>?_⟩,fun e=>?_⟩
 ·have uW:=(Jj s0 e.1).2
  have q3:=CM q2 uW
  have e1:tb (Ql G (back d) t) u=true:=e.1
  rw[e1,ZD.mpr hu,Bool.and_self,kB,iF,gH]at q3
  exact h2 u (ZD.mp q3.2) ⟨q3.1,e.2⟩
 ·subst e
  rw[qG]at q0;cases q0
theorem OH{sq occ:Int}(t:Nat):tb (CV G sq occ) t=true↔∃d,d<4/\tb (GQ G d sq occ) t=true:=by
 show tb (Builtin.bitOr (Builtin.bitOr (Builtin.bitOr (Builtin.bitOr 0 _) _) _) _) t=true↔_
 rw[DC,DC,DC,DC,DS]
 simp only[hZ,iF]
 constructor
 ·rintro(((h|h)|h)|h)
  ·exact⟨0,by decide,h⟩
  ·exact⟨1,by decide,h⟩
  ·exact⟨2,by decide,h⟩
  ·exact⟨3,by decide,h⟩
 ·rintro⟨d,hd,h⟩
  rcases(by lia:d=0\/d=1\/d=2\/d=3)with rfl|rfl|rfl|rfl
  ·exact .inl (.inl (.inl h))
  ·exact .inl (.inl (.inr h))
  ·exact .inl (.inr h)
  ·exact .inr h
theorem NR{sq occ:Int}(t:Nat):tb (DJ G sq occ) t=true↔∃d,4<=d/\d<8/\tb (GQ G d sq occ) t=true:=by
 show tb (Builtin.bitOr (Builtin.bitOr (Builtin.bitOr (Builtin.bitOr 0 _) _) _) _) t=true↔_
 rw[DC,DC,DC,DC,DS]
 simp only[hZ,iF]
 constructor
 ·rintro(((h|h)|h)|h)
  ·exact⟨4,by decide,by decide,h⟩
  ·exact⟨5,by decide,by decide,h⟩
  ·exact⟨6,by decide,by decide,h⟩
  ·exact⟨7,by decide,by decide,h⟩
 ·rintro⟨d,hd,hd2,h⟩
  rcases(by lia:d=4\/d=5\/d=6\/d=7)with rfl|rfl|rfl|rfl
  ·exact .inl (.inl (.inl h))
  ·exact .inl (.inl (.inr h))
  ·exact .inl (.inr h)
  ·exact .inr h
theorem OI(L:IO G)(GS:G.l6){o t:Nat}{occ:Int}(ho:o<G.size.toNat)(h:tb (CV G o occ) t=true):tb (CV G t occ) o=true/\t≠o:=by
 obtain⟨d,hd,h⟩:=(OH t).mp h
 obtain⟨a,b⟩:=RL L GS (by exact mO (mn _) (mt 0 1) (.num 8) (mt 0 1) (.num 4) rfl hd) ho h
 refine⟨(OH o).mpr ⟨back d,?_,a⟩,b⟩
 rcases(by lia:d=0\/d=1\/d=2\/d=3)with rfl|rfl|rfl|rfl<;>decide
theorem NS(L:IO G)(GS:G.l6)(ho:o<G.size.toNat)(h:tb (DJ G o occ) t=true):tb (DJ G t occ) o=true/\t≠o:=by
 obtain⟨d,hd,hd2,h⟩:=(NR t).mp h
 obtain⟨a,b⟩:=RL L GS hd2 ho h
 refine⟨(NR o).mpr ⟨back d,?_,?_,a⟩,b⟩
 ·rcases(by lia:d=4\/d=5\/d=6\/d=7)with rfl|rfl|rfl|rfl<;>decide
 ·rcases(by lia:d=4\/d=5\/d=6\/d=7)with rfl|rfl|rfl|rfl<;>decide
theorem Oq(L:IO G)(ho:o<G.size.toNat):(tb (Cu G.knight o) t=true->tb (Cu G.knight t) o=true/\t≠o)/\(tb (Cu G.king o) t=true->tb (Cu G.king t) o=true/\t≠o):=by
 have q:=CM L.step ho
 rw[gH,gH]at q
 obtain⟨⟨n1,n2⟩,q⟩:=q
 constructor
 ·intro h
  have q:=CM q (Jj (L.u7 o) h).2
  have h':tb (Nj G.knight o) t=true:=h
  rw[gH,h',kB,iF]at q
  exact⟨q.1,fun e=>by subst e;rw[h']at n1;cases n1⟩
 ·intro h
  have q:=CM q (Jj (L.u6 o) h).2
  have h':tb (Nj G.king o) t=true:=h
  rw[gH,h',kB,iF]at q
  exact⟨q.2,fun e=>by subst e;rw[h']at n2;cases n2⟩
theorem Ej(h:tb x k=true):(x != 0)=true:=by
 rw[ie];intro e;subst e;rw[DS]at h;cases h
theorem IV{sq occ:Int}{c:Bool}{k:Nat}(h:tb (B3 G st sq c) k=true):Bq G st sq c occ=true:=by
 unfold Bq;rw[Ej h]
theorem Nw{sq occ:Int}{c:Bool}{k:Nat}(h1:tb (CV G sq occ) k=true)(h2:tb (AQ st) k=true)(h3:tb (st.si c) k=true):Bq G st sq c occ=true:=by
 have a:tb (Am (AQ st) (st.si c)) k=true:=by show tb (Builtin.bitAnd _ _) k=true;rw[Bv,h2,h3];rfl
 have b:tb (Am (CV G sq occ) (Am (AQ st) (st.si c))) k=true:=by show tb (Builtin.bitAnd _ _) k=true;rw[Bv,h1,a];rfl
 unfold Bq
 rw[Ej a,Ej b]
 cases B3 G st sq c != 0<;>rfl
theorem Nv{sq occ:Int}{c:Bool}{k:Nat}(h1:tb (DJ G sq occ) k=true)(h2:tb (Cf st) k=true)(h3:tb (st.si c) k=true):Bq G st sq c occ=true:=by
 have a:tb (Am (Cf st) (st.si c)) k=true:=by show tb (Builtin.bitAnd _ _) k=true;rw[Bv,h2,h3];rfl
 have b:tb (Am (DJ G sq occ) (Am (Cf st) (st.si c))) k=true:=by show tb (Builtin.bitAnd _ _) k=true;rw[Bv,h1,a];rfl
 have e:B8 G st sq c occ=true:=by unfold B8;rw[Ej a];exact Ej b
 unfold Bq
 rw[e]
 cases B3 G st sq c != 0
 ·cases Am (AQ st) (st.si c) != 0
  ·rfl
  ·cases Am (CV G sq occ) (Am (AQ st) (st.si c)) != 0<;>rfl
 ·rfl
end
theorem VE:∀o:Nat,o<20->∀t:Nat,t<20->∀f:Nat,f<4->∀s:Nat,s<2->Ai (AH o t f s)=o/\mc (AH o t f s)=t/\Bt (AH o t f s)=s/\Am ((AH o t f s).fdiv (2 ^ 12)) 3=f:=by decide +kernel
theorem RE(o0:0<=o)(o1:o<20)(t0:0<=t)(t1:t<20)(f0:0<=f)(f1:f<4)(s0:0<=s)(s1:s<2):Ai (AH o t f s)=o/\mc (AH o t f s)=t/\Bt (AH o t f s)=s/\Am ((AH o t f s).fdiv (2 ^ 12)) 3=f:=by
 obtain⟨o,rfl⟩:=gB o0
 obtain⟨t,rfl⟩:=gB t0
 obtain⟨f,rfl⟩:=gB f0
 obtain⟨s,rfl⟩:=gB s0
 exact VE o (Int.ofNat_lt.mp o1) t (Int.ofNat_lt.mp t1) f (Int.ofNat_lt.mp f1) s (Int.ofNat_lt.mp s1)
noncomputable def OX(st:St)(t:Int):Option (Bool×Nat):=match AB st.board t.toNat==0 with
 |true=>none
 |false=>some ((AB st.board t.toNat).fdiv (2 ^ 3)==1,(Builtin.bitAnd (AB st.board t.toNat) 7).toNat)
theorem RY{st:St}(C:mF G st)(t:Int):AB st.board t.toNat=qY (OX st t)/\∀c q,OX st t=some (c,q)->1<=q/\q<7:=by
 unfold OX
 rcases C.rL t.toNat with e|⟨c,q,q1,q7,e⟩
 ·refine e.symm▸?_;exact⟨rfl,fun _ _ h=>by exact Ao h⟩
 ·(refine e.symm▸?_;refine(show(pc c q==0)=false by rw[gP];exact Em c q1).symm▸?_)
  rw[IF c (by exact YI q7),M3 c (by exact YI q7)]
  have h:(sd c==1)=c:=by induction c<;>rfl
  refine h.symm▸?_
  refine⟨rfl,fun c' q' z=>?_⟩
  cases Option.some.inj z
  exact⟨q1,q7⟩
structure pI(G:l7)(st:St)(kd:Nat)(o t:Int):Prop where
 k1:1<=kd
 k7:kd<7
 o0:0<=o
 o1:o<G.size
 t0:0<=t
 t1:t<G.size
 own:AB st.board o.toNat=pc st.side kd
 ne:t≠o
 qk:kd=1->t - o≠8/\o - t≠8
theorem pI.mv{G:l7}{st:St}{kd:Nat}{o t f s:Int}(GS:G.l6)(C:mF G st)(T:pI G st kd o t)(hs:f=0/\s=0\/kd=1/\s=1/\0<=f/\f<4):Mv G st (AH o t f s) kd (OX st t)/\Ai (AH o t f s)=o/\mc (AH o t f s)=t:=by
 have top:=GS.top
 have o0:=T.o0;have o1:=T.o1;have t0:=T.t0;have t1:=T.t1
 have f0:0<=f/\f<4/\(s=0\/s=1)/\0<=s/\s<2:=by
  rcases hs with⟨rfl,rfl⟩|⟨_,rfl,x,y⟩
  ·exact⟨by decide,by decide,.inl rfl,by decide,by decide⟩
  ·exact⟨x,y,.inr rfl,by decide,by decide⟩
 obtain⟨a,b,c,d⟩:=RE o0 (gK o1 top) t0 (gK t1 top) f0.1 f0.2.1 f0.2.2.2.1 f0.2.2.2.2
 have k1:=(RY C t).1;have k2:=(RY C t).2
 refine⟨⟨⟨by rw[a];exact o0,by rw[a];exact o1,by rw[b];exact t0,by rw[b];exact t1,by rw[c];exact f0.2.2.1⟩,T.k1,T.k7,by refine a.symm▸?_;exact T.own,by rw[b];exact k1,k2,by(refine a.symm▸?_;refine b.symm▸?_);exact iJ T.ne,by(refine a.symm▸?_;refine b.symm▸?_);exact T.qk,fun e=>?_⟩,a,b⟩
 replace e:=c▸e
 rcases hs with h|h
 ·replace e:=h.2▸e;exact nomatch e
 ·obtain⟨f,rfl⟩:=gB h.2.2.1
  refine⟨h.1,f+2,jh 2 f,Nat.add_le_add_right (kN (Int.ofNat_lt.mp h.2.2.2)) 2,?_⟩
  unfold Ah
  (refine c.symm▸?_;refine(show(s != 1)=false by rw[e];rfl).symm▸?_)
  refine d.symm▸?_;rfl
section
variable{G:l7}{st:St}
theorem bZ(C:mF G st)(k1:1<=kd)(k7:kd<7){o:Int}(h:o∈nC 20 (Am (st.si st.side) (st.kd kd)) 0):0<=o/\o<G.size/\AB st.board o.toNat=pc st.side kd:=by
 have a:=(((C.pJ st.side).left (st.kd kd)).sq h).1;have b:=(((C.pJ st.side).left (st.kd kd)).sq h).2.1;have c:=(((C.pJ st.side).left (st.kd kd)).sq h).2.2
 exact⟨a,b,(GX C st.side k1 k7 o.toNat).mp c⟩
theorem P3{o s:Int}(h0:0<=o)(h1:o<s):o.toNat<s.toNat:=by lia
theorem VT(L:IO G)(GS:G.l6)(k2:2<=kd)(k7:kd<7)(o0:0<=o)(o1:o<G.size)(h:tb (DB G kd o occ) t=true):(t:Int)≠o:=by
 have ho:=P3 o0 o1
 have eo:((o.toNat:Nat):Int)=o:=gW o0
 have r:=@OI G L GS o.toNat t occ ho
 have b:=@NS G o.toNat occ t L GS ho
 have n:=@Oq G o.toNat t L ho
 have fin:t≠o.toNat->(t:Int)≠o:=fun z e=>z (by refine e▸?_;rfl)
 revert h
 clear o0 o1 ho eo L GS
 refine ta k2 k7 (fun h=>fin (n.1 h).2) (fun h=>fin (b h).2) (fun h=>fin (r h).2) (fun h=>?_) (fun h=>fin (n.2 h).2)
 have h:tb (Builtin.bitOr (CV G o occ) (DJ G o occ)) t=true:=h
 rw[DC,hZ]at h
 rcases h with h|h
 ·exact fin (r h).2
 ·exact fin (b h).2
theorem SW(L:IO G)(GS:G.l6)(C:mF G st)(k2:2<=kd)(k7:kd<7)(hb:Bd G target)(h:v∈C8 G st kd target):∃o t:Int,pI G st kd o t/\tb (DB G kd o (A3 st)) t.toNat=true/\v=AH o t 0 0:=by
 obtain⟨o,ho,h⟩:=List.mem_flatMap.mp h
 obtain⟨t,ht,rfl⟩:=List.mem_map.mp h
 obtain⟨o0,o1,own⟩:=bZ C (by exact Qi k2) k7 ho
 have t0:=((hb.right (DB G kd o (A3 st))).sq ht).1;have t1:=((hb.right (DB G kd o (A3 st))).sq ht).2.1;have tq:=((hb.right (DB G kd o (A3 st))).sq ht).2.2
 have tq:tb (Builtin.bitAnd (DB G kd o (A3 st)) target) t.toNat=true:=tq
 rw[Bv,gH]at tq
 have ne:=VT L GS k2 k7 o0 o1 tq.1
 exact⟨o,t,⟨by exact Qi k2,k7,o0,o1,t0,t1,own,by lia,by exact fun e0=>⟨j9 (Nf2 (mn _) (.num 2) mi mi (.num 1) rfl k2 (hJ e0)),j9 (Nf2 (mn _) (.num 2) mi mi (.num 1) rfl k2 (hJ e0))⟩⟩,tq.1,rfl⟩
theorem Kc(hb:0<=b)(h:tb (EM G b c) k=true):∃j:Nat,(j:Int)=k - CY c/\tb b j=true:=by
 induction c with
 |false=>
  have h:tb (Builtin.bitAnd (b*2 ^ 4) G.full) k=true:=h
  rw[Bv,gH]at h
  obtain⟨a,rfl⟩:=gB hb
  have h1:(a*2 ^ 4).testBit k=true:=h.1
  rw[lv,gH,g9]at h1
  exact⟨k - 4,by show((k - 4:Nat):Int)=k - 4;lia,h1.2⟩
 |true=>
  have h:tb (b.fdiv (2 ^ 4)) k=true:=h
  rw[Kl hb]at h
  exact⟨k+4,by show((k+4:Nat):Int)=k - -4;rfl,h⟩
theorem W4(hb:0<=b)(h:tb (Md G b c w) k=true):∃j:Nat,(j:Int)=k - B1 c w/\tb b j=true/\tb (Cu G.files (Wx w)) j=false:=by
 have nb:∀x,0<=Am b x:=fun x=>(Es hb x).1
 have pp:∀x,0<=x->0<=EM G x c:=fun x hx=>by
  induction c using Bool.casesOn with
  |false=>exact(Es (k9 hx (by decide)) G.full).1
  |true=>exact Na hx 4
 have fin:∀x j,tb (Am b (Do x)) j=true->tb b j=true/\tb x j=false:=fun x j q=>by
  have q:tb (Builtin.bitAnd b (Builtin.bitNot x)) j=true:=q
  rw[Bv,Gj,gH,ji]at q
  exact q
 induction w using Bool.casesOn with
 |false=>
  have h:tb (EM G (Am b (Do (Cu G.files 3))) c*2 ^ 1) k=true:=h
  have p0:=pp _ (nb (Do (Cu G.files 3)))
  have hk:1<=k/\tb (EM G (Am b (Do (Cu G.files 3))) c) (k - 1)=true:=by
   revert h p0
   generalize EM G (Am b (Do (Cu G.files 3))) c=X
   intro h p0
   obtain⟨a,rfl⟩:=gB p0
   have h1:(a*2 ^ 1).testBit k=true:=h
   rw[lv,gH,g9]at h1
   exact h1
  obtain⟨j,e,q⟩:=Kc (nb _) hk.2
  have q1:=(fin _ j q).1;have q2:=(fin _ j q).2
  refine⟨j,?_,q1,q2⟩
  refine e.symm▸?_
  show((k - 1:Nat):Int) - CY c=k - (CY c+1 - 2*0)
  lia
 |true=>
  have h:tb ((EM G (Am b (Do (Cu G.files 0))) c).fdiv (2 ^ 1)) k=true:=h
  rw[Kl (pp _ (nb _))]at h
  obtain⟨j,e,q⟩:=Kc (nb _) h
  have q1:=(fin _ j q).1;have q2:=(fin _ j q).2
  refine⟨j,?_,q1,q2⟩
  refine e.symm▸?_
  show((k+1:Nat):Int) - CY c=k - (CY c+1 - 2*1)
  exact hY (ov (mT _ _) (.sub (mj 0 1) mP) (.sub md (.sub (mj 1 1) (.mulL 2 (.num 1)))) rfl) (ov (mT _ _) (.sub md (.sub (mj 1 1) (.mulL 2 (.num 1)))) (.sub (mj 0 1) mP) rfl)
end
section
variable{G:l7}{st:St}
theorem Ui(C:mF G st)(h:tb (PF G st) t=true):AB st.board t=0:=by
 have h:tb (Builtin.bitAnd G.full (Builtin.bitNot (Builtin.bitOr st.s0 st.s1))) t=true:=h
 rw[Bv,Gj,DC,gH,ji,lQ]at h
 rcases C.rL t with e|⟨c,q,q1,q7,e⟩
 ·exact e
 ·have z:=C.sb c t
  rw[e,Cl c q1 q7]at z
  cases c
  ·have z:tb st.s0 t=true:=z
   exact Ew z h.2.1
  ·have z:tb st.s1 t=true:=z
   exact Ew z h.2.2
theorem GP(C:mF G st)(h:tb (C7 st st.side) j=true):AB st.board j=pc st.side 1/\(j:Int)<G.size:=
 ⟨(GX C st.side (kd:=1) (by decide) (by decide) j).mp h,(Jj ((C.pJ st.side).left st.k1) h).1⟩
def IQ(G:l7)(st:St)(o t:Int):Prop:=AB st.board t.toNat=0\/∃w,t - B1 st.side w=o/\tb (Cu G.files (Wx w)) o.toNat=false
theorem Lz(C:mF G st){t:Int}(t0:0<=t)(t1:t<G.size)(h:tb (Cy G st st.side) t.toNat=true):pI G st 1 (t - CY st.side) t/\IQ G st (t - CY st.side) t:=by
 have h:tb (Builtin.bitAnd (EM G (C7 st st.side) st.side) (PF G st)) t.toNat=true:=h
 rw[Bv,gH]at h
 obtain⟨j,ej,hj⟩:=Kc ((C.pJ st.side).left st.k1).1 h.1
 have own:=(GP C hj).1;have j1:=(GP C hj).2
 replace ej:=(gW t0)▸ej
 refine ej▸?_
 have s4:CY st.side=4\/CY st.side = -4:=by cases st.side;exact .inl rfl;exact .inr rfl
 exact⟨⟨by decide,by decide,gO j,j1,t0,t1,own,by lia,by lia⟩,.inl (Ui C h.2)⟩
theorem VF(C:mF G st){t:Int}(t0:0<=t)(t1:t<G.size)(h:tb (Md G (C7 st st.side) st.side w) t.toNat=true):pI G st 1 (t - B1 st.side w) t/\IQ G st (t - B1 st.side w) t:=by
 obtain⟨j,ej,hj,hf⟩:=W4 ((C.pJ st.side).left st.k1).1 h
 have own:=(GP C hj).1;have j1:=(GP C hj).2
 replace ej:=(gW t0)▸ej
 have s4:B1 st.side w=5\/B1 st.side w=3\/B1 st.side w = -3\/B1 st.side w = -5:=by cases st.side<;>induction w using Bool.casesOn<;>decide
 refine⟨?_,.inr ⟨w,rfl,?_⟩⟩
 ·refine ej▸?_
  exact⟨by decide,by decide,gO j,j1,t0,t1,own,by lia,by lia⟩
 ·refine ej▸?_;exact hf
theorem Lq(h:v∈Fe o t):∃f,0<=f/\f<4/\v=AH o t f 1:=by
 unfold Fe at h
 simp only[hG,j4,lK]at h
 rcases h with h|h|h|h
 ·exact⟨3,by decide,by decide,h⟩
 ·exact⟨2,by decide,by decide,h⟩
 ·exact⟨1,by decide,by decide,h⟩
 ·exact⟨0,by decide,by decide,h⟩
theorem U6(GS:G.l6)(C:mF G st)(h:v∈CT G st target):∃o t f s:Int,pI G st 1 o t/\IQ G st o t/\(f=0/\s=0\/(1:Nat)=1/\s=1/\0<=f/\f<4)/\v=AH o t f s:=by
 have lo:=C.low
 have uh:∀w,v∈Ig G st target w->∃o t f s:Int,pI G st 1 o t/\IQ G st o t/\(f=0/\s=0\/(1:Nat)=1/\s=1/\0<=f/\f<4)/\v=AH o t f s:=fun w h=>by
  unfold Ig at h
  obtain⟨t,ht,h⟩:=List.mem_flatMap.mp h
  have hb:Bd G (Am (Md G (C7 st st.side) st.side w) (Am target (st.si (!st.side)))):=((C.pJ (!st.side)).right target).right _
  have t0:=(hb.sq ht).1;have t1:=(hb.sq ht).2.1;have q:=(hb.sq ht).2.2
  have q:tb (Builtin.bitAnd (Md G (C7 st st.side) st.side w) (Am target (st.si (!st.side)))) t.toNat=true:=q
  rw[Bv,gH]at q
  obtain⟨T,P⟩:=VF C t0 t1 q.1
  unfold Ev at h
  split at h
  ·obtain⟨f,f0,f1,e⟩:=Lq h
   exact⟨_,t,f,1,T,P,.inr ⟨rfl,rfl,f0,f1⟩,e⟩
  ·exact⟨_,t,0,0,T,P,.inl ⟨rfl,rfl⟩,List.mem_singleton.mp h⟩
 rcases List.mem_append.mp h with h|h
 ·rcases List.mem_append.mp h with h|h
  ·rcases List.mem_append.mp h with h|h
   ·unfold CI at h
    obtain⟨t,ht,rfl⟩:=List.mem_map.mp h
    have t0:=((((Bd.ones GS lo st.side).left target).left (Do (BF G st.side))).sq ht).1;have t1:=((((Bd.ones GS lo st.side).left target).left (Do (BF G st.side))).sq ht).2.1;have q:=((((Bd.ones GS lo st.side).left target).left (Do (BF G st.side))).sq ht).2.2
    have q:tb (Builtin.bitAnd (Builtin.bitAnd (Cy G st st.side) target) (Do (BF G st.side))) t.toNat=true:=q
    rw[Bv,Bv,gH,gH]at q
    obtain⟨T,P⟩:=Lz C t0 t1 q.1.1
    exact⟨_,t,0,0,T,P,.inl ⟨rfl,rfl⟩,rfl⟩
   ·unfold Ff at h
    obtain⟨t,ht,h⟩:=List.mem_flatMap.mp h
    have t0:=((((Bd.ones GS lo st.side).left target).left (BF G st.side)).sq ht).1;have t1:=((((Bd.ones GS lo st.side).left target).left (BF G st.side)).sq ht).2.1;have q:=((((Bd.ones GS lo st.side).left target).left (BF G st.side)).sq ht).2.2
    have q:tb (Builtin.bitAnd (Builtin.bitAnd (Cy G st st.side) target) (BF G st.side)) t.toNat=true:=q
    rw[Bv,Bv,gH,gH]at q
    obtain⟨T,P⟩:=Lz C t0 t1 q.1.1
    obtain⟨f,f0,f1,e⟩:=Lq h
    exact⟨_,t,f,1,T,P,.inr ⟨rfl,rfl,f0,f1⟩,e⟩
  ·exact uh false h
 ·exact uh true h
def TC(G:l7)(st:St)(kd:Nat)(o t:Int):Prop:=(2<=kd/\tb (DB G kd o (A3 st)) t.toNat=true)\/(kd=1/\IQ G st o t)
theorem ML(L:IO G)(GS:G.l6)(hr:∀a b,Bd G (AW G a b))(C:mF G st)(h:v∈LV G st\/v∈oA G st):∃kd,∃o t f s:Int,pI G st kd o t/\TC G st kd o t/\(f=0/\s=0\/kd=1/\s=1/\0<=f/\f<4)/\v=AH o t f s:=by
 have own:Bd G (EB G st):=(Bd.full GS).left _
 have pw:∀target,v∈CT G st target->∃kd,∃o t f s:Int,pI G st kd o t/\TC G st kd o t/\(f=0/\s=0\/kd=1/\s=1/\0<=f/\f<4)/\v=AH o t f s:=fun target h=>by
  obtain⟨o,t,f,s,T,P,q,e⟩:=U6 GS C h
  exact⟨1,o,t,f,s,T,.inr ⟨rfl,P⟩,q,e⟩
 have pm:∀kd target,2<=kd->kd<7->Bd G target->v∈C8 G st kd target->∃kd,∃o t f s:Int,pI G st kd o t/\TC G st kd o t/\(f=0/\s=0\/kd=1/\s=1/\0<=f/\f<4)/\v=AH o t f s:=fun kd target k2 k7 hb h=>by
  obtain⟨o,t,T,P,e⟩:=SW L GS C k2 k7 hb h
  exact⟨kd,o,t,0,0,T,.inl ⟨k2,P⟩,.inl ⟨rfl,rfl⟩,e⟩
 have kl:∀l:List Nat,(∀kd∈l,2<=kd/\kd<7)->∀target,Bd G target->v∈(l.flatMap fun kd=>C8 G st kd target)->∃kd,∃o t f s:Int,pI G st kd o t/\TC G st kd o t/\(f=0/\s=0\/kd=1/\s=1/\0<=f/\f<4)/\v=AH o t f s:=fun l hl target hb h=>by
  obtain⟨kd,hk,h⟩:=List.mem_flatMap.mp h
  exact pm kd target (hl kd hk).1 (hl kd hk).2 hb h
 rcases h with h|h
 ·unfold LV at h
  rcases List.mem_append.mp h with h|h
  ·exact pw _ h
  ·exact kl _ (by decide) _ own h
 ·unfold oA at h
  rcases List.mem_append.mp h with h|h
  ·have ht:Bd G (pe G st (Bc G st st.side)):=Bd.pe ((C.pJ (!st.side)).right _) hr
   split at h
   ·rcases List.mem_append.mp h with h|h
    ·exact pw _ h
    ·exact kl _ (by decide) _ ht h
   ·cases h
  ·exact pm 6 _ (by decide) (by decide) own h
theorem XA(L:IO G)(GS:G.l6)(C:mF G st){t:Int}(T:pI G st kd o t)(H:TC G st kd o t)(hd:AB st.board t.toNat=pc (!st.side) 6):Bq G st t st.side (A3 st)=true:=by
 have o0:=T.o0;have o1:=T.o1;have t0:=T.t0;have t1:=T.t1;have k1:=T.k1;have k7:=T.k7
 have ho:=P3 o0 o1
 have eo:((o.toNat:Nat):Int)=o:=gW o0
 have et:((t.toNat:Nat):Int)=t:=gW t0
 have bs:tb (st.si st.side) o.toNat=true:=by rw[C.sb,T.own,Cl _ k1 k7];exact gy rfl
 have bk:tb (st.kd kd) o.toNat=true:=by rw[C.kb kd k1 k7,T.own,Ck _ k1 k7];exact gy rfl
 have near:∀x y,(tb x o.toNat=true\/tb y o.toNat=true)->tb (bor x (Am y (st.si st.side))) o.toNat=true:=fun x y h=>by
  show tb (Builtin.bitOr x (Builtin.bitAnd y (st.si st.side))) o.toNat=true
  rw[DC,Bv,bs,lq,hZ];exact h
 have an:∀{x y:Int},tb x o.toNat=true->tb y o.toNat=true->tb (Am x y) o.toNat=true:=fun{x y} a b=>by
  show tb (Builtin.bitAnd x y) o.toNat=true
  (rewrite[Bv];refine a.symm▸?_;refine b.symm▸?_);rfl
 have vd:∀{x y:Int},tb x o.toNat=true->tb (bor x y) o.toNat=true:=fun{x y} a=>by
  show tb (Builtin.bitOr x y) o.toNat=true
  rw[DC,a];rfl
 have orr:∀{x y:Int},tb y o.toNat=true->tb (bor x y) o.toNat=true:=fun{x y} a=>by
  show tb (Builtin.bitOr x y) o.toNat=true
  rw[DC,a,jq]
 have r:=@OI G L GS o.toNat t.toNat (A3 st) ho
 have b:=@NS G o.toNat (A3 st) t.toNat L GS ho
 have nr:=@Oq G o.toNat t.toNat L ho
 rcases H with⟨k2,h⟩|⟨rfl,P⟩
 ·have near':=near
  clear T hd k1
  revert h bk
  refine ta k2 k7 (fun bk h=>IV (k:=o.toNat) (near' _ _ (.inr (vd (an (nr.1 h).1 bk))))) (fun bk h=>Nv (b h).1 (vd bk) bs) (fun bk h=>Nw (r h).1 (vd bk) bs) (fun bk h=>?_) fun bk h=>IV (k:=o.toNat) (near' _ _ (.inr (orr (an (nr.2 h).1 bk))))
  ·have h:tb (Builtin.bitOr (CV G o (A3 st)) (DJ G o (A3 st))) t.toNat=true:=h
   rw[DC,hZ]at h
   rcases h with h|h
   ·exact Nw (r h).1 (orr bk) bs
   ·exact Nv (b h).1 (orr bk) bs
 ·rcases P with P|⟨w,e,f⟩
  ·rw[P]at hd;exact absurd hd.symm (Em _ (by decide))
  ·have q:=CM (CM (L.qk st.side w) (P3 t0 t1)) ho
   rw[et,eo,gy e,f]at q
   exact IV (k:=o.toNat) (near _ _ (.inl (an (an q bk) bs)))
end
section
variable{G:l7}{st:St}{m:Nat}
theorem OG(L:IO G)(GC:Ch G m)(C:mF G st)(K:EO G st st.side x):HM G st:=by
 have q:=GI GC.S C K
 have mv:∀v,v∈LV G st\/v∈oA G st->BZ G v:=fun v h=>by
  obtain⟨kd,o,t,f,s,T,_,hs,e⟩:=ML L GC.S GC.hr C h
  rw[e];exact(T.mv GC.S C hs).1.M
 exact⟨C,by rw[q];exact K.x0,by rw[q];exact K.x1,fun v h=>mv v (.inl h),fun v h=>mv v (.inr h)⟩
noncomputable def Va(G:l7)(m:Nat)(st:St)(v:Int):List Nat:=JV G (Ij m st (oq st v).toNat (OX st (mc v)) v)
theorem Lp(h:v∈Ay G st):v∈LV G st\/v∈oA G st:=by
 have h:=(List.mem_filter.mp h).1
 unfold Cp at h
 split at h
 ·exact .inr h
 ·exact .inl h
theorem OJ(c:Bool):c≠!c:=by cases c<;>exact fun h=>(by cases h)
theorem Xv(L:IO G)(GC:Ch G m)(P:Pos G st):Er G m st (Va G m st):=by
 obtain⟨x,K⟩:=P.oR st.side
 obtain⟨y,Ky⟩:=P.oR (!st.side)
 refine⟨OG L GC P.C K,by refine P.hist.symm▸?_;decide,fun v hv=>?_⟩
 obtain⟨kd,o,t,f,s,T,H,hs,e⟩:=ML L GC.S GC.hr P.C (Lp hv)
 have V:=(T.mv GC.S P.C hs).1;have ef:=(T.mv GC.S P.C hs).2.1;have et:=(T.mv GC.S P.C hs).2.2
 (replace V:=(e).symm▸V;replace ef:=(e).symm▸ef;replace et:=(e).symm▸et)
 have kk:(oq st v).toNat=kd:=by refine V.oq.symm▸?_;rfl
 refine⟨kd,OX st t,V,?_,by unfold Va;(refine kk.symm▸?_;refine et.symm▸?_;rfl)⟩
 have A:=after (m:=m) P.C V
 have safe:AB st.board t.toNat≠pc (!st.side) 6:=fun z=>by
  have a:=XA L GC.S P.C T H z
  have e:=(Ky.it t.toNat).mp z
  have n:=P.safe
  unfold Bo at n
  (replace n:=(GI GC.S P.C Ky)▸n;rw[kJ]at n)
  (rw[show y=t by have:=T.t0;lia]at n;replace n:=a▸n)
  exact FR n
 have gl:=Mx V
 have Ks:EO G (Ij m st kd (OX st t) v) (Ij m st kd (OX st t) v).side y:=by
  refine A.side.symm▸?_
  refine⟨Ky.x0,Ky.x1,fun k=>?_⟩
  (rewrite[A.at_];refine et.symm▸?_;refine ef.symm▸?_)
  have it:=Ky.it k
  split
  ·rename_i z
   constructor
   ·intro w
    exact absurd (M2 w gl.2 (by decide)).1 (OJ st.side)
   ·intro w
    have:=it.mpr w
    replace this:=(z).symm▸this
    exact absurd this safe
  ·split
   ·rename_i z
    constructor
    ·intro w;exact absurd w.symm (Em _ (by decide))
    ·intro w
     have:=it.mpr w
     (replace this:=(z).symm▸this;rw[T.own]at this)
     exact absurd (M2 this T.k7 (by decide)).1 (OJ st.side)
   ·exact it
 exact OG L GC A.C Ks
theorem bD(v:Int):(Va G m st v).length<=1:=U5 G _
end
theorem Q6{α:Type}(l:List α)(b:Nat):cut l 0 b=l.take b:=rfl
theorem Mk{α:Type}(l:List α)(a:Nat):cut l a l.length=l.drop a:=by unfold cut;rw[List.take_length]
theorem Nd(t:List Nat):A8 t++AF t=t:=by unfold A8 AF;rw[Q6,Mk,jB]
theorem cZ(t:List Nat):BU t++Ce t=t:=by unfold BU Ce;rw[Q6,Mk,jB]
theorem c7(t:List Nat):CQ t++GW t=t:=by unfold CQ GW;rw[Q6,Mk,jB]
theorem Lo(r:List Nat)(a b:Nat):Ce (r++[a,b])=[a,b]/\BU (r++[a,b])=r:=by
 unfold Ce BU
 have e:(-2+((r++[a,b]).length:Int)).toNat=r.length:=by rw[gx];show(-2+((r.length+2:Nat):Int)).toNat=_;lia
 rw[e,Q6,Mk,List.drop_left,List.take_left]
 exact⟨rfl,rfl⟩
theorem Li:∀{i k:Int},0<=i->AE c l i=k->0<=k->l[(k - i).toNat]?=some c:=by
 induction l with
 |nil=>exact fun _ h h0=>absurd ((show(-1:Int)=_ from h).symm▸h0:(0:Int)<= -1) (by decide)
 |cons x l ih=>
  intro i k hi h h0
  by_cases e:x=c
  ·obtain rfl:i=k:=(iI e).symm.trans h
   rw[lD,e];rfl
  ·have h:AE c l (i+1)=k:=(iH e).symm.trans h
   have z:=ih (Int.le_add_one hi) h h0
   have g:=E8 c l (i+1) (Int.le_add_one hi)
   rw[show(k - i).toNat=(k - (i+1)).toNat+1 by clear ih z e;lia]
   exact z
theorem Ru{f:Int}(h:AE a oa 0=f)(h0:0<=f):a=97+f.toNat/\f<8:=by
 have z:=Li (ix 0) h h0
 have g:=E8 a oa 0 (ix 0)
 (rw[show oa.length=8 from rfl]at g;replace g:=h▸g)
 rcases(by lia:f=0\/f=1\/f=2\/f=3\/f=4\/f=5\/f=6\/f=7)with e|e|e|e|e|e|e|e<;>subst e<;>exact⟨(Option.some.inj z).symm,by decide⟩
theorem Fw{f:Int}(h:AE a nW 0=f)(h0:0<=f):a=49+f.toNat/\f<8:=by
 have z:=Li (ix 0) h h0
 have g:=E8 a nW 0 (ix 0)
 (rw[show nW.length=8 from rfl]at g;replace g:=h▸g)
 rcases(by lia:f=0\/f=1\/f=2\/f=3\/f=4\/f=5\/f=6\/f=7)with e|e|e|e|e|e|e|e<;>subst e<;>exact⟨(Option.some.inj z).symm,by decide⟩
theorem UX(h:j<8):AE (97+j) oa 0=j:=by
 rcases(by lia:j=0\/j=1\/j=2\/j=3\/j=4\/j=5\/j=6\/j=7)with e|e|e|e|e|e|e|e<;>subst e<;>rfl
theorem Ml(h:j<8):AE (49+j) nW 0=j:=by
 rcases(by lia:j=0\/j=1\/j=2\/j=3\/j=4\/j=5\/j=6\/j=7)with e|e|e|e|e|e|e|e<;>subst e<;>rfl
theorem Oo:∀n:Nat,n<20->0<=(n:Int).fmod 4/\(n:Int).fmod 4<4/\0<=(n:Int).fdiv 4/\(n:Int).fdiv 4<5/\(n:Int)=(n:Int).fdiv 4*4+(n:Int).fmod 4:=by decide +kernel
theorem Bp{s:Int}(h0:0<=s)(h1:s<20):0<=s.fmod 4/\s.fmod 4<4/\0<=s.fdiv 4/\s.fdiv 4<5/\s=s.fdiv 4*4+s.fmod 4:=by
 obtain⟨n,rfl⟩:=gB h0
 exact Oo n (Int.ofNat_lt.mp h1)
theorem J2{f r:Int}(f0:0<=f)(f1:f<4)(r0:0<=r):(r*4+f).fmod 4=f/\(r*4+f).fdiv 4=r:=by
 rw[lf _ (by decide)]
 lia
theorem HD(h0:0<=s)(h1:s<4*R)(hR:R<=5):BJ R (mY s)=s:=by
 have a:=(Bp h0 (by lia)).1;have b:=(Bp h0 (by lia)).2.1;have c:=(Bp h0 (by lia)).2.2.1;have d:=(Bp h0 (by lia)).2.2.2.1;have e:=(Bp h0 (by lia)).2.2.2.2
 show Nf R (AE (97+(s.fmod 4).toNat) oa 0) (AE (49+(s.fdiv 4).toNat) nW 0)=s
 (rewrite[UX (by lia)];rewrite[Ml (by lia)];rewrite[gW a];refine(gW c).symm▸?_)
 unfold Nf
 (rewrite[iH];refine e▸?_;rfl)
 rintro(z|z|z|z)<;>lia
theorem Eo(h:BJ R u=s)(h0:0<=s):u=mY s/\s<4*R:=by
 match u,h with
 |[a,b],h=>
  have h:Nf R (AE a oa 0) (AE b nW 0)=s:=h
  unfold Nf at h
  split at h
  ·lia
  ·rename_i z
   have f0:0<=AE a oa 0:=by rcases jO (AE a oa 0) 0 with c|c;exact absurd (.inl c) z;exact c
   have f1:AE a oa 0<4:=by rcases jO (AE a oa 0) 4 with c|c;exact c;exact absurd (.inr (.inl c)) z
   have r0:0<=AE b nW 0:=by rcases jO (AE b nW 0) 0 with c|c;exact absurd (.inr (.inr (.inl c))) z;exact c
   have r1:AE b nW 0<R:=by rcases jO (AE b nW 0) R with c|c;exact c;exact absurd (.inr (.inr (.inr c))) z
   have ea:=(Ru rfl f0).1
   have eb:=(Fw rfl r0).1
   revert h ea eb f0 f1 r0 r1
   generalize AE a oa 0=f
   generalize AE b nW 0=r
   intro h f0 f1 r0 r1 ea eb
   obtain⟨m1,m2⟩:=J2 f0 f1 r0
   rw[h]at m1 m2
   refine⟨?_,by lia⟩
   unfold mY
   rw[m1,m2,ea,eb]
 |[],h=>exact absurd h (by show ¬(-1:Int)=s;exact j9 (cx h0))
 |[_],h=>exact absurd h (by show ¬(-1:Int)=s;exact j9 (cx h0))
 |_ :: _ :: _ :: _,h=>exact absurd h (by show ¬(-1:Int)=s;exact j9 (cx h0))
theorem Hl(h:Ii o g p=some q):0<=o/\0<=g/\q=(o,g,p):=by
 unfold Ii at h
 split at h
 ·exact Ao h
 ·rename_i z
  obtain rfl:=Option.some.inj h
  exact⟨by rcases jO o 0 with c|c;exact absurd (.inl c) z;exact c,by rcases jO g 0 with c|c;exact absurd (.inr c) z;exact c,rfl⟩
structure Sq(R:Int)(v:Int):Prop where
 R5:R<=5
 f0:0<=Ai v
 f1:Ai v<4*R
 t0:0<=mc v
 t1:mc v<4*R
 pr:Ah v=0\/∃p:Nat,2<=p/\p<6/\Ah v=p
theorem Sq.pk(Q:Sq R v):Ai v<20:=by have:=Q.R5;have:=Q.f1;lia
theorem Sq.ox(Q:Sq R v):mc v<20:=by have:=Q.R5;have:=Q.t1;lia
theorem ck(h2:2<=p)(h6:p<6):pA (mW p+32)=p:=by
 rcases(by lia:p=2\/p=3\/p=4\/p=5)with e|e|e|e<;>subst e<;>rfl
theorem Yz{e:Nat}(h:pA e≠0):∃p:Nat,2<=p/\p<6/\pA e=p/\e=mW p+32:=by
 unfold pA at h ⊢
 split
 ·rename_i z;exact⟨2,by decide,by decide,rfl,z⟩
 ·split
  ·rename_i z;exact⟨3,by decide,by decide,rfl,z⟩
  ·split
   ·rename_i z;exact⟨4,by decide,by decide,rfl,z⟩
   ·split
    ·rename_i z;exact⟨5,by decide,by decide,rfl,z⟩
    ·rename_i a b c d
     rw[iH a,iH b,iH c,iH d]at h
     exact absurd rfl h
theorem Rm:Du q v=true↔q=(Ai v,mc v,Ah v):=by
 unfold Du
 rw[gH,gH,iv,iv,iv]
 constructor
 ·rintro⟨a,b,c⟩
  exact Prod.ext a.symm (Prod.ext b.symm c.symm)
 ·intro e;refine e.symm▸?_;exact⟨rfl,rfl,rfl⟩
theorem O0(Q:Sq R v):wF v=t↔KV R t=some (Ai v,mc v,Ah v):=by
 have rf:=HD Q.f0 Q.f1 Q.R5
 have rt:=HD Q.t0 Q.t1 Q.R5
 have ok:∀p,Ii (Ai v) (mc v) p=some (Ai v,mc v,p):=fun p=>T8 (by have:=Q.f0;lia) (by have:=Q.t0;lia)
 constructor
 ·intro e
  subst e
  unfold wF EN
  rcases FE Q.pr with e|⟨p,p1,p7,p2,p6,e,z,kl,c1,c2⟩
  ·refine e.symm▸?_
   show Ii (BJ R (mY (Ai v))) (BJ R (mY (mc v))) 0=_
   (refine rf.symm▸?_;refine rt.symm▸?_;rewrite[ok];rfl)
  ·(refine e.symm▸?_;rewrite[z])
   show(if pA (mW p+32)=0 then none else Ii (BJ R (mY (Ai v))) (BJ R (mY (mc v))) (pA (mW p+32)))=_
   (refine(ck p2 p6).symm▸?_;rewrite[iH (by exact iC (M6 (Int.ofNat_le.mpr p2)))];rewrite[rf];rewrite[rt];rewrite[ok];rfl)
 ·intro h
  revert h
  refine Rt t (fun a b c d h=>?_) (fun a b c d e h=>?_) fun t s4 s5 h=>?_
  ·have h1:=(Hl h).1;have h2:=(Hl h).2.1;have h3:=(Hl h).2.2
   have e1:=(Prod.mk.inj h3).1;have h3:=(Prod.mk.inj h3).2
   have e2:=(Prod.mk.inj h3).1;have e3:=(Prod.mk.inj h3).2
   have n1:=(Eo e1.symm Q.f0).1
   have n2:=(Eo e2.symm Q.t0).1
   show mY (Ai v)++mY (mc v)++(match Ah v==0 with|true=>[]|false=>[mW (Ah v).toNat+32])=_
   (refine e3.symm▸?_;refine n1▸?_;refine n2▸?_);rfl
  ·have h:(if pA e=0 then none else Ii (BJ R [a,b]) (BJ R [c,d]) (pA e))=some (Ai v,mc v,Ah v):=h
   split at h
   ·exact Ao h
   ·rename_i z
    obtain⟨p,p2,p6,ep,ee⟩:=Yz z
    have h1:=(Hl h).1;have h2:=(Hl h).2.1;have h3:=(Hl h).2.2
    have e1:=(Prod.mk.inj h3).1;have h3:=(Prod.mk.inj h3).2
    have e2:=(Prod.mk.inj h3).1;have e3:=(Prod.mk.inj h3).2
    have n1:=(Eo e1.symm Q.f0).1
    have n2:=(Eo e2.symm Q.t0).1
    replace e3:=ep▸e3
    show mY (Ai v)++mY (mc v)++(match Ah v==0 with|true=>[]|false=>[mW (Ah v).toNat+32])=_
    (refine e3.symm▸?_;refine n1▸?_;refine n2▸?_;refine(show((p:Int)==0)=false by rw[gP];exact iC (M6 (Int.ofNat_le.mpr p2))).symm▸?_;refine ee.symm▸?_);rfl
  ·exact AM (LE s4 s5) h
theorem JD{s:Int}(h0:0<=s)(h1:s<20):oU s=[49+(s.fmod 4).toNat,49+(s.fdiv 4).toNat]:=by
 unfold oU
 have q:∀j:Nat,j<4->48+(AE (97+j) [97,98,99,100] 0+1).toNat=49+j:=fun j hj=>by
  rcases(by lia:j=0\/j=1\/j=2\/j=3)with e|e|e|e<;>subst e<;>rfl
 rw[q _ (by lia)]
theorem ZM(h:0<=a/\a<4/\0<=b/\b<R)(k:0<=c/\c<4/\0<=d/\d<R):Ik R a b c d p=some (b*4+a,d*4+c,p):=by
 unfold Ik JK
 (refine(gy h.1).symm▸?_;refine(gy h.2.1).symm▸?_;refine(gy h.2.2.1).symm▸?_;refine(gy h.2.2.2).symm▸?_;refine(gy k.1).symm▸?_;refine(gy k.2.1).symm▸?_;refine(gy k.2.2.1).symm▸?_;refine(gy k.2.2.2).symm▸?_);rfl
theorem Ho(h:Ik R a b c d p=some q):(0<=a/\a<4/\0<=b/\b<R)/\(0<=c/\c<4/\0<=d/\d<R)/\q=(b*4+a,d*4+c,p):=by
 unfold Ik JK at h
 split at h
 ·rename_i z
  simp only[gH,g9]at z
  obtain rfl:=Option.some.inj h
  exact⟨⟨z.1.1,z.1.2.1,z.1.2.2.1,z.1.2.2.2⟩,⟨z.2.1,z.2.2.1,z.2.2.2.1,z.2.2.2.2⟩,rfl⟩
 ·exact Ao h
theorem aP(h2:2<=p)(h6:p<6):∃e,pK p=[e]/\(0<=fd e/\fd e<4)/\5 - fd e=p:=by
 rcases(by lia:p=2\/p=3\/p=4\/p=5)with e|e|e|e<;>subst e
 ·exact⟨52,rfl,by decide,rfl⟩
 ·exact⟨51,rfl,by decide,rfl⟩
 ·exact⟨50,rfl,by decide,rfl⟩
 ·exact⟨49,rfl,by decide,rfl⟩
theorem Xi{e:Nat}(h0:0<=fd e)(h1:fd e<4):∃p:Nat,2<=p/\p<6/\5 - fd e=p/\pK p=[e]:=by
 have z:=(Fw (a:=e) rfl h0).1
 have z:e=49+(fd e).toNat:=z
 rcases(by lia:fd e=0\/fd e=1\/fd e=2\/fd e=3)with q|q|q|q<;>rw[q]at z ⊢<;>subst z
 ·exact⟨5,by decide,by decide,rfl,rfl⟩
 ·exact⟨4,by decide,by decide,rfl,rfl⟩
 ·exact⟨3,by decide,by decide,rfl,rfl⟩
 ·exact⟨2,by decide,by decide,rfl,rfl⟩
theorem DM{s:Int}(h0:0<=s)(h1:s<4*R)(hR:R<=5):fd (49+(s.fmod 4).toNat)=s.fmod 4/\fd (49+(s.fdiv 4).toNat)=s.fdiv 4/\(0<=s.fmod 4/\s.fmod 4<4/\0<=s.fdiv 4/\s.fdiv 4<R)/\s.fdiv 4*4+s.fmod 4=s:=by
 have a:=(Bp h0 (by lia)).1;have b:=(Bp h0 (by lia)).2.1;have c:=(Bp h0 (by lia)).2.2.1;have d:=(Bp h0 (by lia)).2.2.2.1;have e:=(Bp h0 (by lia)).2.2.2.2
 refine⟨?_,?_,⟨a,b,c,by lia⟩,e.symm⟩
 ·show AE _ nW 0=_;(rewrite[Ml (by lia)];refine(gW a).symm▸?_;rfl)
 ·show AE _ nW 0=_;(rewrite[Ml (by lia)];refine(gW c).symm▸?_;rfl)
theorem GA(h:0<=fd a/\fd a<4/\0<=fd b/\fd b<R)(hR:R<=5)(e:s=fd b*4+fd a):oU s=[a,b]:=by
 obtain⟨m1,m2⟩:=J2 h.1 h.2.1 h.2.2.1
 rw[<- e]at m1 m2
 have ea:a=49+(fd a).toNat:=(Fw (a:=a) rfl h.1).1
 have eb:b=49+(fd b).toNat:=(Fw (a:=b) rfl h.2.2.1).1
 rw[JD (by lia) (by lia),m1,m2,<- ea,<- eb]
theorem Q8(Q:Sq R v):oK v=t↔KW R t=some (Ai v,mc v,Ah v):=by
 have f1:=(DM Q.f0 Q.f1 Q.R5).1;have f2:=(DM Q.f0 Q.f1 Q.R5).2.1;have f3:=(DM Q.f0 Q.f1 Q.R5).2.2.1;have f4:=(DM Q.f0 Q.f1 Q.R5).2.2.2
 have t1:=(DM Q.t0 Q.t1 Q.R5).1;have t2:=(DM Q.t0 Q.t1 Q.R5).2.1;have t3:=(DM Q.t0 Q.t1 Q.R5).2.2.1;have t4:=(DM Q.t0 Q.t1 Q.R5).2.2.2
 have R5:=Q.R5
 constructor
 ·intro e
  subst e
  unfold oK PC
  (refine(JD Q.f0 Q.pk).symm▸?_;refine(JD Q.t0 Q.ox).symm▸?_)
  rcases FE Q.pr with e|⟨p,p1,p7,p2,p6,e,z,kl,c1,c2⟩
  ·refine e.symm▸?_
   show Ik R (fd (49+((Ai v).fmod 4).toNat)) (fd (49+((Ai v).fdiv 4).toNat)) (fd (49+((mc v).fmod 4).toNat)) (fd (49+((mc v).fdiv 4).toNat)) 0=_
   (refine f1.symm▸?_;refine f2.symm▸?_;refine t1.symm▸?_;refine t2.symm▸?_;rewrite[ZM f3 t3];refine f4.symm▸?_;refine t4.symm▸?_;rfl)
  ·obtain⟨d,ed,hd,ep⟩:=aP p2 p6
   (refine e.symm▸?_;refine z.symm▸?_)
   refine ed.symm▸?_
   show(match decide (0<=fd d)&&decide (fd d<4)with|true=>Ik R (fd (49+((Ai v).fmod 4).toNat)) (fd (49+((Ai v).fdiv 4).toNat)) (fd (49+((mc v).fmod 4).toNat)) (fd (49+((mc v).fdiv 4).toNat)) (5 - fd d)|false=>none)=_
   (refine(gy hd.1).symm▸?_;refine(gy hd.2).symm▸?_;refine f1.symm▸?_;refine f2.symm▸?_;refine t1.symm▸?_;refine t2.symm▸?_;refine ep.symm▸?_)
   (rewrite[ZM f3 t3];refine f4.symm▸?_;refine t4.symm▸?_;rfl)
 ·intro h
  revert h
  refine Rt t (fun a b c d h=>?_) (fun a b c d e h=>?_) fun t s4 s5 h=>?_
  ·have h1:=(Ho h).1;have h2:=(Ho h).2.1;have h3:=(Ho h).2.2
   have e1:=(Prod.mk.inj h3).1;have h3:=(Prod.mk.inj h3).2
   have e2:=(Prod.mk.inj h3).1;have e3:=(Prod.mk.inj h3).2
   show oU (Ai v)++oU (mc v)++(match Ah v==0 with|true=>[]|false=>pK (Ah v).toNat)=_
   (refine e3.symm▸?_;refine(GA h1 R5 e1).symm▸?_;refine(GA h2 R5 e2).symm▸?_);rfl
  ·have h:(match decide (0<=fd e)&&decide (fd e<4)with|true=>Ik R (fd a) (fd b) (fd c) (fd d) (5 - fd e)|false=>none)=some (Ai v,mc v,Ah v):=h
   split at h
   ·rename_i z
    simp only[gH,g9]at z
    obtain⟨p,p2,p6,ep,ee⟩:=Xi z.1 z.2
    have h1:=(Ho h).1;have h2:=(Ho h).2.1;have h3:=(Ho h).2.2
    have e1:=(Prod.mk.inj h3).1;have h3:=(Prod.mk.inj h3).2
    have e2:=(Prod.mk.inj h3).1;have e3:=(Prod.mk.inj h3).2
    replace e3:=ep▸e3
    show oU (Ai v)++oU (mc v)++(match Ah v==0 with|true=>[]|false=>pK (Ah v).toNat)=_
    (refine e3.symm▸?_;refine(GA h1 R5 e1).symm▸?_;refine(GA h2 R5 e2).symm▸?_;refine(show((p:Int)==0)=false by rw[gP];exact iC (M6 (Int.ofNat_le.mpr p2))).symm▸?_)
    refine ee.symm▸?_;rfl
   ·exact Ao h
  ·exact AM (LF s4 s5) h
noncomputable def fl(f:Int):List Nat:=if f<0 then[] else[97+f.toNat]
noncomputable def rl(r:Int):List Nat:=if r<0 then[] else[49+r.toNat]
def pU(f:Int):Prop:=f = -1\/0<=f/\f<8
theorem XT(h:j<8):decide (97+j∈oa)=true:=by
 rcases(by lia:j=0\/j=1\/j=2\/j=3\/j=4\/j=5\/j=6\/j=7)with e|e|e|e|e|e|e|e<;>subst e<;>decide
theorem Q9(h:j<8):decide (49+j∈nW)=true/\decide (49+j∈oa)=false:=by
 rcases(by lia:j=0\/j=1\/j=2\/j=3\/j=4\/j=5\/j=6\/j=7)with e|e|e|e|e|e|e|e<;>subst e<;>decide
theorem JG:∀{l:List Nat} {i:Int},c∈l->0<=i->0<=AE c l i
 |x :: l,i,h,h0=>by
  unfold AE
  split
  ·exact h0
  ·rename_i e
   rcases List.mem_cons.mp h with z|z
   ·exact absurd z.symm e
   ·exact JG z (by exact OA h0)
theorem VX(f:Int)(h:pU r):E6 f (rl r)=some (f,r):=by
 unfold rl
 rcases h with e|⟨r0,r8⟩
 ·subst e;rfl
 ·rw[iH (by exact Int.not_lt.mpr (Oz r0)),Mj (Q9 (by lia)).1]
  show some (f,AE (49+r.toNat) nW 0)=_
  rw[Ml (by lia),gW r0]
theorem W9(hf:pU f)(hr:pU r):E5 (fl f++rl r)=some (f,r):=by
 unfold fl
 rcases hf with e|⟨f0,f8⟩
 ·subst e
  show E5 (rl r)=_
  rcases hr with e|⟨r0,r8⟩
  ·subst e;rfl
  ·have z:=VX (-1) (.inr ⟨r0,r8⟩:pU r)
   unfold rl at z ⊢
   rw[iH (by exact Int.not_lt.mpr (Oz r0))]at z ⊢
   rw[Py (Q9 (by lia)).2]
   exact z
 ·rw[iH (by exact Int.not_lt.mpr (Oz f0))]
  show E5 ((97+f.toNat) :: rl r)=_
  rw[Pz (XT (by lia)),UX (by lia),gW f0]
  exact VX f hr
theorem Le(h:E6 f o=some (a,b)):a=f/\o=rl b/\pU b:=by
 match o,h with
 |[],h=>cases Option.some.inj h;exact⟨rfl,rfl,.inl rfl⟩
 |c :: r,h=>
  cases e:decide (c∈nW) with
  |false=>exact AM (Q5 e) h
  |true=>
   replace h:=(Mj e)▸h
   match r,h with
   |[],h=>
    have h:=Option.some.inj h
    have h1:=(Prod.mk.inj h).1;have h2:=(Prod.mk.inj h).2
    have p:=JG (gG e) (ix 0)
    have q1:=(Fw h2 (by exact YK (iD h2) p)).1;have q2:=(Fw h2 (by exact YK (iD h2) p)).2
    refine⟨h1.symm,?_,.inr ⟨by exact YK (iD h2) p,q2⟩⟩
    unfold rl
    (rewrite[iH (by exact Int.not_lt.mpr (YK (iD h2) p))];refine q1.symm▸?_;rfl)
   |_ :: _,h=>exact Ao h
theorem Dr(h:E5 o=some (a,b)):o=fl a++rl b/\pU a/\pU b:=by
 match o,h with
 |[],h=>cases h;exact⟨rfl,.inl rfl,.inl rfl⟩
 |c :: r,h=>
  cases e:decide (c∈oa) with
  |false=>
   rw[Py e]at h
   obtain⟨h1,h2,h3⟩:=Le h
   subst h1
   exact⟨h2,.inl rfl,h3⟩
  |true=>
   rw[Pz e]at h
   obtain⟨h1,h2,h3⟩:=Le h
   have p:=JG (gG e) (ix 0)
   obtain⟨q1,q2⟩:=Ru h1.symm (by exact cy (iD h1.symm) p)
   refine⟨?_,.inr ⟨by exact cy (iD h1.symm) p,q2⟩,h3⟩
   rw[<- h2]
   unfold fl
   rw[iH (by exact Int.not_lt.mpr (cy (iD h1.symm) p)),q1];rfl
theorem XF:(∀kd∈l,2<=kd/\kd<7)->qL x s l≠0->∃kd:Nat,2<=kd/\kd<7/\qL x s l=kd/\x=[mW kd]/\mW kd∈s:=by
 induction l with
 |nil=>exact fun _ h=>absurd rfl h
 |cons kd l ih=>
  intro hl h
  have pS:=fun q=>ih (fun z hz=>hl z (.tail _ hz)) q
  unfold qL at h ⊢
  cases e:[mW kd]==x with
  |true=>
   rw[e]at h
   cases e2:decide (mW kd∈s) with
   |true=>exact⟨kd,(hl kd (.head _)).1,(hl kd (.head _)).2,rfl,(gM e).symm,gG e2⟩
   |false=>rw[e2]at h;exact pS h
  |false=>rw[e]at h;exact pS h
theorem MD(h:nH x s≠0):∃kd:Nat,2<=kd/\kd<7/\nH x s=kd/\x=[mW kd]/\mW kd∈s:=XF (by decide) h
theorem eA(h2:2<=kd)(h7:kd<7):nH [mW kd] pH=kd:=by
 rcases(by lia:kd=2\/kd=3\/kd=4\/kd=5\/kd=6)with e|e|e|e|e<;>subst e<;>rfl
theorem ZP(h2:2<=kd)(h6:kd<6):nH [mW kd] o8=kd:=by
 rcases(by lia:kd=2\/kd=3\/kd=4\/kd=5)with e|e|e|e<;>subst e<;>rfl
theorem MJ(h2:2<=kd)(h7:kd<7):66<=mW kd/\mW kd<=82:=by
 rcases(by lia:kd=2\/kd=3\/kd=4\/kd=5\/kd=6)with e|e|e|e|e<;>subst e<;>decide
theorem MF(s:List Nat)(h:c<66\/82<c):nH [c] s=0:=by
 by_cases z:nH [c] s=0
 ·exact z
 ·obtain⟨kd,k2,k7,_,e,_⟩:=MD z
  have:=MJ k2 k7
  lia
noncomputable def mid(a:Ask)(o:List Nat):List Nat:=o++BC a.x []++mY a.g
structure Nt(R:Int)(a:Ask)(o:List Nat):Prop where
 cut:E5 o=some (a.f,a.r)
 g0:0<=a.g
 g1:a.g<4*R
 ok:((a.k==1)&&(a.x&&decide (a.f<0)))=false
theorem Ry(o:List Nat)(s:Int):Ce (o++mY s)=mY s/\BU (o++mY s)=o:=Lo o _ _
theorem bj(h:E5 o=some (f,r)):(AF o==[120])=false:=by
 obtain⟨e,hf,hr⟩:=Dr h
 rw[gP]
 intro z
 have s:=Nd o
 rw[z]at s
 unfold fl rl at e
 have q:∀c:Nat,[c]=[120]->c=120:=fun c h=>(List.cons.inj h).1
 rcases hr with hr|hr
 ·rw[iI (show r<0 by exact cz (iD hr)),gD]at e
  split at e
  ·subst e;cases z
  ·subst e
   have:=(Br [] (97+f.toNat)).1
   rw[jI]at this
   rw[this]at z
   have:=q _ z
   rcases hf with hf|hf<;>lia
 ·rw[iH (show ¬r<0 by exact Int.not_lt.mpr (Oz hr.1))]at e
  subst e
  rw[(Br _ (49+r.toNat)).1]at z
  have:=q _ z
  lia
theorem cY{a:Ask}(hR:R<=5)(M:Nt R a o):oG R a.k a.p (mid a o)=some a:=by
 have n1:=(Ry (o++BC a.x []) a.g).1;have n2:=(Ry (o++BC a.x []) a.g).2
 have rg:=HD M.g0 M.g1 hR
 unfold oG mid
 (refine n1.symm▸?_;refine n2.symm▸?_;refine rg.symm▸?_;refine(gR (show ¬a.g<0 by have:=M.g0;lia)).symm▸?_)
 have fin:rO a.k a.p a.g a.x (some (a.f,a.r))=some a:=by
  show(match(a.k==1)&&(a.x&&decide (a.f<0))with|true=>none|false=>some _)=_
  (refine M.ok.symm▸?_;rfl)
 cases ex:a.x with
 |true=>
  replace fin:=ex▸fin
  have l1:=(Br o 120).1;have l2:=(Br o 120).2
  show(match AF (o++[120])==[120]with|true=>rO a.k a.p a.g true (E5 (A8 (o++[120])))|false=>_)=_
  (refine l1.symm▸?_;refine l2.symm▸?_;refine M.cut.symm▸?_)
  exact fin
 |false=>
  replace fin:=ex▸fin
  show(match AF (o++[])==[120]with|true=>_|false=>rO a.k a.p a.g false (E5 (o++[])))=_
  (rewrite[gD];refine(bj M.cut).symm▸?_;refine M.cut.symm▸?_)
  exact fin
theorem B2{a:Ask}(h:rO k p g x q=some a):q=some (a.f,a.r)/\a.k=k/\a.p=p/\a.g=g/\a.x=x/\((a.k==1)&&(a.x&&decide (a.f<0)))=false:=by
 induction q with
 |none=>exact Ao h
 |some q=>
  have h:(match(k==1)&&(x&&decide (q.1<0))with|true=>none|false=>some (⟨k,q.1,q.2,x,g,p⟩:Ask))=some a:=h
  split at h
  ·exact Ao h
  ·rename_i z
   obtain rfl:=Option.some.inj h
   exact⟨rfl,rfl,rfl,rfl,rfl,z⟩
theorem IJ{a:Ask}(h:oG R k p b=some a):a.k=k/\a.p=p/\∃o,b=mid a o/\Nt R a o:=by
 unfold oG at h
 split at h
 ·exact Ao h
 ·rename_i z
  have g0:0<=BJ R (Ce b):=by have:=ig z;lia
  have n1:=(Eo rfl g0).1;have n2:=(Eo rfl g0).2
  have s2:=cZ b
  split at h
  ·rename_i e
   have c1:=(B2 h).1;have c2:=(B2 h).2.1;have c3:=(B2 h).2.2.1;have c4:=(B2 h).2.2.2.1;have c5:=(B2 h).2.2.2.2.1;have c6:=(B2 h).2.2.2.2.2
   have s1:=Nd (BU b)
   replace s1:=(gM e)▸s1
   refine⟨c2,c3,A8 (BU b),?_,⟨c1,by refine c4.symm▸?_;exact g0,by refine c4.symm▸?_;exact n2,c6⟩⟩
   unfold mid
   (rewrite[c4];rewrite[c5];refine n1▸?_)
   show _=A8 (BU b)++[120]++Ce b
   (refine s1.symm▸?_;refine s2.symm▸?_;rfl)
  ·have c1:=(B2 h).1;have c2:=(B2 h).2.1;have c3:=(B2 h).2.2.1;have c4:=(B2 h).2.2.2.1;have c5:=(B2 h).2.2.2.2.1;have c6:=(B2 h).2.2.2.2.2
   refine⟨c2,c3,BU b,?_,⟨c1,by refine c4.symm▸?_;exact g0,by refine c4.symm▸?_;exact n2,c6⟩⟩
   unfold mid
   (refine c4.symm▸?_;refine c5.symm▸?_;refine n1▸?_)
   show _=BU b++[]++Ce b
   (rewrite[gD];refine s2.symm▸?_;rfl)
theorem Hn(c:Nat)(r:List Nat):CQ (c :: r)=[c]:=by
 unfold CQ
 rw[gQ,show min 1 (r.length+1)=1 by lia];rfl
structure Tx(R:Int)(a:Ask)(kd:Nat)(o e:List Nat):Prop where
 M:Nt R a o
 k:a.k=kd
 k1:1<=kd
 k7:kd<7
 e:2<=kd/\e=[]/\a.p=0\/kd=1/\e∈Cj a.p/\(a.p=0\/∃p:Nat,2<=p/\p<6/\a.p=p)
theorem U8{R:Int}{a:Ask}{o:List Nat}(M:Nt R a o):∃c r,mid a o=c :: r/\(c<66\/82<c):=by
 have e:=(Dr M.cut).1;have hf:=(Dr M.cut).2.1;have hr:=(Dr M.cut).2.2
 unfold mid
 refine e.symm▸?_
 unfold fl rl
 rcases hf with hf|hf
 ·refine(iI (show a.f<0 by exact cz (iD hf))).symm▸?_
  rcases hr with hr|hr
  ·refine(iI (show a.r<0 by exact cz (iD hr))).symm▸?_
   cases a.x with
   |true=>exact⟨120,_,rfl,.inr (by decide)⟩
   |false=>exact⟨97+(a.g.fmod 4).toNat,_,rfl,.inr (by exact fw)⟩
  ·refine(iH (show ¬a.r<0 by exact Int.not_lt.mpr (Oz hr.1))).symm▸?_
   exact⟨49+a.r.toNat,_,rfl,.inl (by lia)⟩
 ·refine(iH (show ¬a.f<0 by exact Int.not_lt.mpr (Oz hf.1))).symm▸?_
  exact⟨97+a.f.toNat,_,rfl,.inr (by exact fw)⟩
theorem U9{R:Int}{a:Ask}{o:List Nat}(hR:R<=5)(M:Nt R a o):∃c,AF (mid a o)=[c]/\c<61:=by
 have e:mid a o=(o++BC a.x []++[97+(a.g.fmod 4).toNat])++[49+(a.g.fdiv 4).toNat]:=by
  rw[gu _ [97+(a.g.fmod 4).toNat]];rfl
 have h:=(Bp M.g0 (by have:=M.g1;lia)).2.2.2.1
 (refine e.symm▸?_;refine((Br _ _).1).symm▸?_)
 exact⟨_,rfl,by lia⟩
theorem VJ{v:Int}(pr:v=0\/∃p:Nat,2<=p/\p<6/\v=p):v=0\/∃p:Nat,2<=p/\p<6/\v=p/\((p:Int)==0)=false:=by
 rcases pr with e|⟨p,p2,p6,e⟩
 ·exact .inl e
 ·exact .inr ⟨p,p2,p6,e,by rw[gP];exact iC (M6 (Int.ofNat_le.mpr p2))⟩
theorem cX{R:Int}{a:Ask}{kd:Nat}{o e:List Nat}(hR:R<=5)(A:Tx R a kd o e):oS R (DY kd++mid a o++e)=some a:=by
 have B:=cY hR A.M
 rw[A.k]at B
 rcases A.e with⟨k2,e0,p0⟩|⟨k1,he,hp⟩
 ·subst e0
  rw[p0]at B
  rw[De k2,gD]
  unfold oS
  show(match nH (CQ (mW kd :: mid a o)) pH != 0 with|true=>oG R (nH (CQ (mW kd :: mid a o)) pH) 0 (GW (mW kd :: mid a o))|false=>_)=_
  rw[Hn,N3,eA k2 A.k7,show((kd:Int) != 0)=true by rw[ie];exact iC (M6 (Int.ofNat_le.mpr k2))]
  exact B
 ·subst k1
  obtain⟨c,r,em,hc⟩:=U8 A.M
  obtain⟨d,ed,hd⟩:=U9 hR A.M
  have hh:∀e,nH (CQ (mid a o++e)) pH=0:=fun e=>by rw[em,List.cons_append,Hn];exact MF _ hc
  show oS R ([]++mid a o++e)=_
  rw[jI]
  unfold oS
  rw[hh]
  show(match nH (AF (mid a o++e)) o8 != 0 with|true=>(match AF (A8 (mid a o++e))==[61]with|true=>oG R 1 (nH (AF (mid a o++e)) o8) (A8 (A8 (mid a o++e)))|false=>oG R 1 (nH (AF (mid a o++e)) o8) (A8 (mid a o++e)))|false=>oG R 1 (nH (AF (mid a o++e)) o8) (mid a o++e))=_
  rcases VJ hp with p0|⟨p,p2,p6,ep,z⟩
  ·rw[p0]at he B
   have e0:e=[]:=List.mem_singleton.mp he
   rw[e0,gD,ed,MF _ (.inl (by exact mO (mn _) (mt 0 1) (.num 66) (mt 0 1) (.num 61) rfl hd))]
   exact B
  ·rw[ep]at he B
   unfold Cj at he
   rw[z]at he
   have he:e∈[[61]++[mW p],[mW p]]:=he
   simp only[hG,j4,lK]at he
   have nz:((p:Int) != 0)=true:=by rw[ie];exact iC (M6 (Int.ofNat_le.mpr p2))
   rcases he with he|he
   ·subst he
    rw[<- gu,(Br _ _).1,(Br _ _).2,ZP p2 p6,nz,(Br _ _).1,(Br _ _).2]
    exact B
   ·subst he
    rw[(Br _ _).1,(Br _ _).2,ZP p2 p6,nz,ed]
    show(match[d]==[61]with|true=>_|false=>oG R 1 p (mid a o))=_
    rw[show([d]==[61])=false by rw[gP];intro w;have:=(List.cons.inj w).1;lia]
    exact B
theorem Za{R:Int}{a:Ask}{t:List Nat}(h:oS R t=some a):∃kd o e,Tx R a kd o e/\t=DY kd++mid a o++e:=by
 unfold oS at h
 split at h
 ·rename_i z
  obtain⟨kd,k2,k7,ek,ex,_⟩:=MD (bne_iff_ne.mp z)
  obtain⟨b1,b2,o,e,M⟩:=IJ h
  replace b1:=ek▸b1
  refine⟨kd,o,[],⟨M,b1,by exact Qi k2,k7,.inl ⟨k2,rfl,b2⟩⟩,?_⟩
  (rewrite[De k2];rewrite[<- ex];refine e▸?_;rewrite[gD];rewrite[c7];rfl)
 ·split at h
  ·rename_i z
   obtain⟨p,p2,p7,ep,ex,hm⟩:=MD (bne_iff_ne.mp z)
   have p6:p<6:=by
    rcases(by lia:p<6\/p=6)with w|w
    ·exact w
    ·subst w;exact absurd hm (by decide)
   have nz:((p:Int)==0)=false:=by rw[gP];exact iC (M6 (Int.ofNat_le.mpr p2))
   have s1:=Nd t
   replace s1:=ex▸s1
   split at h
   ·rename_i z2
    have s2:=Nd (A8 t)
    replace s2:=(gM z2)▸s2
    obtain⟨b1,b2,o,e,M⟩:=IJ h
    replace b2:=ep▸b2
    refine⟨1,o,[61]++[mW p],⟨M,b1,by decide,by decide,.inr ⟨rfl,?_,.inr ⟨p,p2,p6,b2⟩⟩⟩,?_⟩
    ·unfold Cj;(refine b2.symm▸?_;refine nz.symm▸?_);exact gJ
    ·show t=[]++mid a o++([61]++[mW p])
     (rewrite[jI];rewrite[<- e];rewrite[<- gu];rewrite[s2];refine s1.symm▸?_;rfl)
   ·obtain⟨b1,b2,o,e,M⟩:=IJ h
    replace b2:=ep▸b2
    refine⟨1,o,[mW p],⟨M,b1,by decide,by decide,.inr ⟨rfl,?_,.inr ⟨p,p2,p6,b2⟩⟩⟩,?_⟩
    ·unfold Cj;(refine b2.symm▸?_;refine nz.symm▸?_);exact gz _ gJ
    ·show t=[]++mid a o++[mW p]
     (rewrite[jI];refine e▸?_;refine s1.symm▸?_;rfl)
  ·rename_i z
   have p0:nH (AF t) o8=0:=by simpa using z
   obtain⟨b1,b2,o,e,M⟩:=IJ h
   replace b2:=p0▸b2
   refine⟨1,o,[],⟨M,b1,by decide,by decide,.inr ⟨rfl,?_,.inl b2⟩⟩,?_⟩
   ·refine b2.symm▸?_;exact gJ
   ·show t=[]++mid a o++[]
    rw[gD];exact e
structure Wd(R:Int)(st:St)(v:Int)(kd:Nat):Prop where
 q:Sq R v
 k1:1<=kd
 k7:kd<7
 k:oq st v=kd
 p:Ah v≠0->kd=1
theorem Wz{l:List (List Nat)}:(l.any (·==b))=true↔b∈l:=by
 rw[List.any_eq_true]
 constructor
 ·rintro⟨x,h,e⟩;refine(gM e)▸?_;exact h
 ·intro h;exact⟨b,h,io b⟩
theorem Ds{st:St}{a:Ask}{v:Int}:Ee st a v=true↔mc v=a.g/\Ah v=a.p/\oq st v=a.k/\mX st v=a.x/\(a.f<0\/(Ai v).fmod 4=a.f)/\(a.r<0\/(Ai v).fdiv 4=a.r):=by
 unfold Ee
 simp only[gH,hZ,iv,g9]
theorem bX(h:1<=k):k=1\/2<=k:=(Nat.eq_or_lt_of_le h).imp Eq.symm id
theorem TM{R:Int}{st:St}{v:Int}{kd:Nat}{b:List Nat}(W:Wd R st v kd):Eg st b v=true↔∃a,oS R b=some a/\Ee st a v=true:=by
 have Q:=W.q
 have m0:=(Bp Q.f0 Q.pk).1;have m1:=(Bp Q.f0 Q.pk).2.1;have d0:=(Bp Q.f0 Q.pk).2.2.1;have d1:=(Bp Q.f0 Q.pk).2.2.2.1;have me:=(Bp Q.f0 Q.pk).2.2.2.2
 have kk:(oq st v).toNat=kd:=by refine W.k.symm▸?_;rfl
 have sG:fl ((Ai v).fmod 4)=[97+((Ai v).fmod 4).toNat]:=iH (Int.not_lt.mpr m0)
 have tU:rl ((Ai v).fdiv 4)=[49+((Ai v).fdiv 4).toNat]:=iH (Int.not_lt.mpr d0)
 have flz:∀x:Int,x<0->fl x=[]:=fun x h=>iI h
 have vg:∀x:Int,x<0->rl x=[]:=fun x h=>iI h
 unfold Eg
 rw[Wz]
 unfold pd DK
 refine kk.symm▸?_
 constructor
 ·intro h
  obtain⟨o,ho,h⟩:=List.mem_flatMap.mp h
  obtain⟨e,he,rfl⟩:=List.mem_map.mp h
  have sH:∃f r,E5 o=some (f,r)/\(f<0\/(Ai v).fmod 4=f)/\(r<0\/(Ai v).fdiv 4=r)/\(((kd==1)&&mX st v)=true->0<=f):=by
   have mk:∀f r,pU f->pU r->o=fl f++rl r->(f<0\/(Ai v).fmod 4=f)->(r<0\/(Ai v).fdiv 4=r)->(((kd==1)&&mX st v)=true->0<=f)->∃f r,E5 o=some (f,r)/\(f<0\/(Ai v).fmod 4=f)/\(r<0\/(Ai v).fdiv 4=r)/\(((kd==1)&&mX st v)=true->0<=f):=
    fun f r hf hr e a b c=>⟨f,r,by refine e.symm▸?_;exact W9 hf hr,a,b,c⟩
   have i1:pU (-1):=.inl rfl
   have im:pU ((Ai v).fmod 4):=.inr ⟨m0,iN m1 (by decide)⟩
   have id:pU ((Ai v).fdiv 4):=.inr ⟨d0,iN d1 (by decide)⟩
   unfold EL at ho
   cases ex:(kd==1)&&mX st v with
   |true=>
    (replace ho:=ex▸ho;replace mk:=ex▸mk)
    simp only[hG,j4,lK]at ho
    rcases ho with ho|ho
    ·exact mk _ _ im i1 (by(refine sG.symm▸?_;refine ho.symm▸?_);rfl) (.inr rfl) (.inl (by decide)) fun _=>m0
    ·exact mk _ _ im id (by(refine sG.symm▸?_;refine tU.symm▸?_;refine ho.symm▸?_);rfl) (.inr rfl) (.inr rfl) fun _=>m0
   |false=>
    (replace ho:=ex▸ho;replace mk:=ex▸mk)
    simp only[hG,j4,lK]at ho
    rcases ho with ho|ho|ho|ho
    ·exact mk _ _ i1 i1 (by refine ho.symm▸?_;rfl) (.inl (by decide)) (.inl (by decide)) fun z=>by exact Dd z
    ·exact mk _ _ im i1 (by(refine sG.symm▸?_;refine ho.symm▸?_);rfl) (.inr rfl) (.inl (by decide)) fun z=>by exact Dd z
    ·exact mk _ _ i1 id (by(refine tU.symm▸?_;refine ho.symm▸?_);rfl) (.inl (by decide)) (.inr rfl) fun z=>by exact Dd z
    ·exact mk _ _ im id (by(refine sG.symm▸?_;rewrite[tU];rewrite[ho]);rfl) (.inr rfl) (.inr rfl) fun z=>by exact Dd z
  obtain⟨f,r,hc,hf,hr,hx⟩:=sH
  have A:Tx R ⟨kd,f,r,mX st v,mc v,Ah v⟩ kd o e:=by
   refine⟨⟨hc,Q.t0,Q.t1,?_⟩,rfl,W.k1,W.k7,?_⟩
   ·show(((kd:Int)==1)&&(mX st v&&decide (f<0)))=false
    cases ek:((kd:Int)==1) with
    |false=>rfl
    |true=>
     have ek:kd=1:=Int.ofNat.inj (gM ek)
     cases ek
     cases ex:mX st v with
     |false=>rfl
     |true=>
      have:=hx (by refine ex.symm▸?_;rfl)
      refine(gR (Int.not_lt.mpr this)).symm▸?_;rfl
   ·by_cases p0:Ah v=0
    ·have he0:e=[]:=by
      replace he:=p0▸he
      exact List.mem_singleton.mp he
     rcases bX W.k1 with z|z
     ·exact .inr ⟨z,he,.inl p0⟩
     ·exact .inl ⟨z,he0,p0⟩
    ·exact .inr ⟨W.p p0,he,Q.pr⟩
  have z:=cX Q.R5 A
  refine⟨⟨kd,f,r,mX st v,mc v,Ah v⟩,?_,Ds.mpr ⟨rfl,rfl,W.k,rfl,hf,hr⟩⟩
  refine z▸?_
  unfold EX mid
  rw[gu (DY kd),gu (DY kd)]
 ·rintro⟨a,ha,hf⟩
  obtain⟨pD,o,e,A,et⟩:=Za ha
  have e1:=(Ds.mp hf).1;have e2:=(Ds.mp hf).2.1;have e3:=(Ds.mp hf).2.2.1;have e4:=(Ds.mp hf).2.2.2.1;have e5:=(Ds.mp hf).2.2.2.2.1;have e6:=(Ds.mp hf).2.2.2.2.2
  have ek:pD=kd:=Int.ofNat.inj (A.k.symm.trans (e3.symm.trans W.k))
  subst ek
  have eo:=(Dr A.M.cut).1;have hf8:=(Dr A.M.cut).2.1;have hr8:=(Dr A.M.cut).2.2
  refine List.mem_flatMap.mpr ⟨o,?_,List.mem_map.mpr ⟨e,?_,?_⟩⟩
  ·have ok:=A.M.ok
   (rw[A.k]at ok;replace ok:=(e4).symm▸ok)
   unfold EL
   have ff:¬a.f<0->fl a.f=[97+((Ai v).fmod 4).toNat]:=fun h=>by
    rcases e5 with z|z
    ·exact absurd z h
    ·refine z▸?_;exact sG
   have rr:¬a.r<0->rl a.r=[49+((Ai v).fdiv 4).toNat]:=fun h=>by
    rcases e6 with z|z
    ·exact absurd z h
    ·refine z▸?_;exact tU
   cases ex:(pD==1)&&mX st v with
   |true=>
    have nf:¬a.f<0:=fun h=>by
     simp only[gH,iv]at ex
     (rw[ex.1,ex.2]at ok;replace ok:=(gy h)▸ok)
     exact FR ok
    (refine eo.symm▸?_;rewrite[ff nf])
    by_cases hr:a.r<0
    ·refine(vg _ hr).symm▸?_;exact gJ
    ·refine(rr hr).symm▸?_;exact gz _ gJ
   |false=>
    refine eo.symm▸?_
    by_cases hf:a.f<0
    ·refine(flz _ hf).symm▸?_
     by_cases hr:a.r<0
     ·refine(vg _ hr).symm▸?_;exact gJ
     ·exact(rr hr)▸(gz _ (gz _ gJ))
    ·refine(ff hf).symm▸?_
     by_cases hr:a.r<0
     ·refine(vg _ hr).symm▸?_;exact gz _ gJ
     ·refine(rr hr).symm▸?_;exact gz _ (gz _ (gz _ gJ))
  ·refine e2.symm▸?_
   rcases A.e with⟨_,z,p0⟩|⟨_,z,_⟩
   ·(refine z.symm▸?_;refine p0.symm▸?_);exact gJ
   ·exact z
  ·(rewrite[et];refine e4.symm▸?_;refine e1.symm▸?_)
   unfold EX mid
   rw[gu (DY pD),gu (DY pD)]
theorem VS(R:Int)(b:Nat)(h:AE a oa 0 = -1):BJ R [a,b] = -1:=by
 show Nf R (AE a oa 0) (AE b nW 0) = -1
 refine h.symm▸?_
 exact iI (.inl (by decide))
theorem Qu(R:Int):oS R Go=none:=by
 rw[show oS R Go=oG R 1 0 Go from rfl]
 unfold oG
 rw[show Ce Go=[45,79]from rfl];rfl
theorem SR(R:Int):oS R LT=none:=by
 rw[show oS R LT=oG R 1 0 LT from rfl]
 unfold oG
 rw[show Ce LT=[45,79]from rfl];rfl
theorem CC{α:Type}{p q:α->Bool}:∀{l:List α},(∀x∈l,p x=q x)->l.find? p=l.find? q
 |[],_=>rfl
 |x :: l,h=>by
  rw[ik,ik,h x gJ,CC fun y hy=>h y (gz _ hy)]
theorem CD{α:Type}{p:α->Bool}{l:List α}(h:∀x∈l,p x=false):l.find? p=none:=List.find?_eq_none.mpr fun x hx=>by rw[h x hx];exact iM
theorem Ut{α:Type}{p q:α->Bool}{l:List α}:(∀x∈l,∀y∈l,p x=true->p y=true->q x=q y)->l.find? (fun x=>p x&&q x)=(l.find? p).filter q:=by
 induction l with
 |nil=>exact fun _=>rfl
 |cons x l ih=>
  intro h
  have ih:=ih fun a ha b hb=>h a (.tail _ ha) b (.tail _ hb)
  (rewrite[ik];refine List.find?_cons.symm▸?_)
  cases e:p x with
  |false=>exact ih
  |true=>
   cases e2:q x with
   |true=>exact(iI e2).symm
   |false=>
    refine Eq.trans (CD fun y hy=>?_) (iH fun z=>Dd (e2.symm.trans z)).symm
    cases ey:p y with
    |false=>rfl
    |true=>(refine(h x (.head _) y (.tail _ hy) e ey)▸?_;refine e2.symm▸?_);rfl
theorem K3(s mk:List Nat):([[],mk].any (·==s))=Db s mk:=by
 show([]==s||(mk==s||false))=_
 rw[ju]
 induction s using List.casesOn<;>rfl
structure Tab(R:Int)(st:St)(mk:Int->List Nat)(L:List Int):Prop where
 w:∀v∈L,∃kd,Wd R st v kd
 lg:∀v∈L,∀w∈L,nZ st v=nZ st w->mk v=mk w
section
variable{R:Int}{st:St}{mk:Int->List Nat}{L:List Int}
theorem V0(T:Tab R st mk L)(b:List Nat):Ly (CE R st L b)=Vx (L.filter (Eg st b)):=by
 have off:oS R b=none->L.filter (Eg st b)=[]:=fun e=>List.filter_eq_nil_iff.mpr fun v hv h=>by
  obtain⟨kd,W⟩:=T.w v hv
  obtain⟨a,ha,_⟩:=(TM W).mp h
  exact AM e ha
 unfold CE
 cases e1:b==Go with
 |true=>rw[off (by refine(gM e1).symm▸?_;exact Qu R)];rfl
 |false=>
  cases e2:b==LT with
  |true=>refine(off (by rw[gM e2];exact SR R)).symm▸?_;rfl
  |false=>
   cases e:oS R b with
   |none=>refine(off e).symm▸?_;rfl
   |some a=>
    have q:L.filter (Ee st a)=L.filter (Eg st b):=List.filter_congr fun v hv=>by
     obtain⟨kd,W⟩:=T.w v hv
     have z:=TM (b:=b) W
     cases h:Eg st b v with
     |true=>
      obtain⟨a',ha,hf⟩:=z.mp h
      obtain rfl:=same e ha
      exact hf
     |false=>
      cases h2:Ee st a v with
      |false=>rfl
      |true=>exact Ew (z.mpr ⟨a,e,h2⟩) h
    refine q▸?_
    show Ly (some (L.filter (Ee st a)))=_
    match L.filter (Ee st a) with
    |[]=>rfl
    |[_]=>rfl
    |_ :: _ :: _=>rfl
theorem Zs(T:Tab R st mk L)(t:List Nat):((KV R t).bind fun q=>L.find? (Du q))=L.find? (fun v=>wF v==t):=by
 cases e:KV R t with
 |none=>
  refine(CD fun v hv=>?_).symm
  obtain⟨kd,W⟩:=T.w v hv
  rw[gP]
  intro z
  exact AM e ((O0 W.q).mp z)
 |some q=>
  refine CC fun v hv=>?_
  obtain⟨kd,W⟩:=T.w v hv
  have z:=O0 (t:=t) W.q
  rw[e]at z
  rw[jM,Rm,iv,z]
  exact⟨fun h=>by exact congrArg _ h,fun h=>Option.some.inj h⟩
theorem aQ(T:Tab R st mk L)(t:List Nat):((KW R t).bind fun q=>L.find? (Du q))=L.find? (fun v=>oK v==t):=by
 cases e:KW R t with
 |none=>
  refine(CD fun v hv=>?_).symm
  obtain⟨kd,W⟩:=T.w v hv
  rw[gP]
  intro z
  exact AM e ((Q8 W.q).mp z)
 |some q=>
  refine CC fun v hv=>?_
  obtain⟨kd,W⟩:=T.w v hv
  have z:=Q8 (t:=t) W.q
  rw[e]at z
  rw[jM,Rm,iv,z]
  exact⟨fun h=>by exact congrArg _ h,fun h=>Option.some.inj h⟩
end
theorem XR(h:j<9):AE (49+j) oa 0 = -1:=by
 rcases(by lia:j=0\/j=1\/j=2\/j=3\/j=4\/j=5\/j=6\/j=7\/j=8)with e|e|e|e|e|e|e|e|e<;>subst e<;>rfl
theorem Xg(h2:2<=p)(h6:p<6):∃j,j<9/\pK p=[49+j]:=by
 rcases(by lia:p=2\/p=3\/p=4\/p=5)with e|e|e|e<;>subst e
 ·exact⟨3,by decide,rfl⟩
 ·exact⟨2,by decide,rfl⟩
 ·exact⟨1,by decide,rfl⟩
 ·exact⟨0,by decide,rfl⟩
theorem Qx:∀n:Nat,n<20->((n:Int).fmod 4).toNat<9/\((n:Int).fdiv 4).toNat<9:=by decide +kernel
theorem Ki{s:Int}(h0:0<=s)(h1:s<20):(s.fmod 4).toNat<9/\(s.fdiv 4).toNat<9:=by
 obtain⟨n,rfl⟩:=gB h0
 exact Qx n (Int.ofNat_lt.mp h1)
theorem Xj(Q:Sq R v):∃a r b c,a<9/\b<9/\c<9/\oK v=(49+a) :: r/\∃s,oK v=s++[49+b,49+c]:=by
 unfold oK PC
 (refine(JD Q.f0 Q.pk).symm▸?_;refine(JD Q.t0 Q.ox).symm▸?_)
 rcases FE Q.pr with e|⟨p,p1,p7,p2,p6,e,z,kl,c1,c2⟩
 ·rw[e]
  exact⟨_,_,((mc v).fmod 4).toNat,((mc v).fdiv 4).toNat,(Ki Q.f0 Q.pk).1,(Ki Q.t0 Q.ox).1,(Ki Q.t0 Q.ox).2,rfl,[49+((Ai v).fmod 4).toNat,49+((Ai v).fdiv 4).toNat],rfl⟩
 ·obtain⟨j,hj,ej⟩:=Xg p2 p6
  (refine e.symm▸?_;refine z.symm▸?_)
  refine⟨((Ai v).fmod 4).toNat,_,((mc v).fdiv 4).toNat,j,(Ki Q.f0 Q.pk).1,(Ki Q.t0 Q.ox).2,hj,rfl,[49+((Ai v).fmod 4).toNat,49+((Ai v).fdiv 4).toNat,49+((mc v).fmod 4).toNat],?_⟩
  show _++pK p=_
  rw[ej];rfl
theorem Ra(ha:a<9)(hb:b<9)(hc:c<9)(h1:t=(49+a) :: r)(h2:t=s++[49+b,49+c]):oS R t=none/\AX t=(t,[]):=by
 have hh:CQ t=[49+a]:=by rw[h1];exact Hn _ _
 have hl:AF t=[49+c]:=by
  rw[h2,show s++[49+b,49+c]=(s++[49+b])++[49+c] by rw[gu];rfl]
  exact(Br _ _).1
 have h2':Ce t=[49+b,49+c]:=by rw[h2];exact(Lo _ _ _).1
 constructor
 ·unfold oS
  rw[hh,hl,MF _ (.inl (by exact fx ha)),MF _ (.inl (by exact fx hc))]
  show oG R 1 0 t=none
  unfold oG
  rw[h2',VS R _ (XR hb)];rfl
 ·unfold AX
  rw[hl,show([49+c]==[43])=false by rw[gP];intro w;have:=(List.cons.inj w).1;lia,show([49+c]==[35])=false by rw[gP];intro w;have:=(List.cons.inj w).1;lia]
theorem Zq(v:Int):∃c r,wF v=c :: r/\66<=c:=⟨97+((Ai v).fmod 4).toNat,_,rfl,by exact fy⟩
theorem UY{R:Int}{st:St}{v:Int}{kd:Nat}(W:Wd R st v kd):∃c r,nZ st v=c :: r/\66<=c:=by
 unfold nZ Dc
 refine(show(oq st v).toNat=kd by rw[W.k];rfl).symm▸?_
 rcases(by have:=W.k1;lia:kd=1\/2<=kd)with e|e
 ·subst e;exact⟨97+((Ai v).fmod 4).toNat,_,rfl,by exact fy⟩
 ·refine(De e).symm▸?_;exact⟨mW kd,_,rfl,(MJ e W.k7).1⟩
theorem Uh{α:Type}(a:Option α):rX a none=a:=by cases a<;>rfl
theorem bn{G:l7}{st:St}{mk:Int->List Nat}(T:Tab G.ranks st mk (Ay G st))(t:List Nat):FV mk G st t=EA mk st (Ay G st) t:=by
 have ew:R1 G st t=(Ay G st).find? (fun v=>wF v==t):=Zs T t
 have ed:tR G st t=(Ay G st).find? (fun v=>oK v==t):=aQ T t
 unfold FV EA
 (refine ew.symm▸?_;refine ed.symm▸?_)
 unfold VZ Ol
 rw[V0 T]
 have e1:((Ay G st).find? fun v=>nZ st v==(AX t).1).filter (fun v=>Db (AX t).2 (mk v))=(Ay G st).find? (KQ st mk (AX t).1 (AX t).2):=by
  rw[<- Ut (p:=fun v=>nZ st v==(AX t).1) (q:=fun v=>Db (AX t).2 (mk v)) fun x hx y hy a b=>by
   (refine(T.lg x hx y hy ((gM a).trans (gM b).symm)).symm▸?_;rfl)]
  refine CC fun v _=>?_
  show _=(nZ st v==(AX t).1&&_)
  rw[K3]
 have e2:(fun v=>[[],mk v].any (·==(AX t).2))=fun v=>Db (AX t).2 (mk v):=funext fun v=>K3 _ _
 (refine e2.symm▸?_;refine e1▸?_)
 by_cases hd:∃v∈Ay G st,oK v=t
 ·obtain⟨v,hv,e⟩:=hd
  obtain⟨kd,W⟩:=T.w v hv
  obtain⟨a,r,b,c,ha,hb,hc,h1,s,h2⟩:=Xj W.q
  (replace h1:=e▸h1;replace h2:=e▸h2)
  have z1:=(Ra (R:=G.ranks) ha hb hc h1 h2).1;have z2:=(Ra (R:=G.ranks) ha hb hc h1 h2).2
  have nw:∀w∈Ay G st,(wF w==t)=false:=fun w _=>by
   obtain⟨c',r',e',h'⟩:=Zq w
   (rewrite[gP];refine e'.symm▸?_;rewrite[h1])
   intro z
   lia
  have nl:∀w∈Ay G st,(nZ st w==t)=false:=fun w hw=>by
   obtain⟨pD,W'⟩:=T.w w hw
   obtain⟨c',r',e',h'⟩:=UY W'
   (rewrite[gP];refine e'.symm▸?_;rewrite[h1])
   intro z
   lia
  have ns:Vx ((Ay G st).filter (Eg st t))=none:=by
   rw[<- V0 T]
   unfold CE
   refine z1.symm▸?_
   cases t==Go
   ·cases t==LT<;>rfl
   ·rfl
  have wd:(Ay G st).find? (Il t)=(Ay G st).find? (fun v=>oK v==t):=CC fun w hw=>by
   unfold Il
   (refine(nw w hw).symm▸?_;rewrite[iF];rfl)
  (refine z2.symm▸?_;refine ns.symm▸?_;refine(CD nw).symm▸?_;refine(CD nl).symm▸?_;refine wd.symm▸?_)
  cases q:(Ay G st).find? (fun v=>oK v==t) with
  |some x=>rfl
  |none=>exact absurd e (by have:=List.find?_eq_none.mp q v hv;simpa using this)
 ·have nd:∀w∈Ay G st,(oK w==t)=false:=fun w hw=>by
   rw[gP];exact fun e=>hd ⟨w,hw,e⟩
  have wd:(Ay G st).find? (Il t)=(Ay G st).find? (fun v=>wF v==t):=CC fun w hw=>by
   unfold Il
   (refine(nd w hw).symm▸?_;rewrite[ju];rfl)
  (refine(CD nd).symm▸?_;refine wd.symm▸?_;rewrite[Uh];rfl)
theorem bG:∀n:Nat,n<20->∀k:Nat,k<20->97+((n:Int).fmod 4).toNat=97+((k:Int).fmod 4).toNat->49+((n:Int).fdiv 4).toNat=49+((k:Int).fdiv 4).toNat->n=k:=by decide +kernel
theorem ZX{s t:Int}(s0:0<=s)(s1:s<20)(t0:0<=t)(t1:t<20)(a:97+(s.fmod 4).toNat=97+(t.fmod 4).toNat)(b:49+(s.fdiv 4).toNat=49+(t.fdiv 4).toNat):s=t:=by
 obtain⟨n,rfl⟩:=gB s0
 obtain⟨k,rfl⟩:=gB t0
 exact congrArg Int.ofNat (bG n (Int.ofNat_lt.mp s1) k (Int.ofNat_lt.mp t1) a b)
theorem Uj:∀n:Nat,n<6->∀k:Nat,k<6->n≠1->k≠1->(FG n==FG k)=true->n=k:=by decide +kernel
theorem Uk{p q:Int}(hp:p=0\/∃n:Nat,2<=n/\n<6/\p=n)(hq:q=0\/∃n:Nat,2<=n/\n<6/\q=n)(h:FG p=FG q):p=q:=by
 have nat:∀{p:Int},(p=0\/∃n:Nat,2<=n/\n<6/\p=n)->∃n:Nat,p=n/\n<6/\n≠1:=fun h=>by
  rcases h with rfl|⟨n,a,b,rfl⟩
  ·exact⟨0,rfl,by decide,by decide⟩
  ·exact⟨n,rfl,b,fun e=>absurd (e▸a) (by decide)⟩
 obtain⟨n,rfl,n6,n2⟩:=nat hp
 obtain⟨k,rfl,k6,k2⟩:=nat hq
 exact congrArg Int.ofNat (Uj n n6 k k6 n2 k2 (beq_iff_eq.mpr h))
theorem Rv(kd:Nat)(x:Bool)(v p:Int):∃c,Dc kd x v p=DY kd++(97+((Ai v).fmod 4).toNat) :: (49+((Ai v).fdiv 4).toNat) :: c :: (97+((mc v).fmod 4).toNat) :: (49+((mc v).fdiv 4).toNat) :: FG p:=by
 unfold Dc mY
 induction x with
 |true=>exact⟨120,by simp[BC]⟩
 |false=>exact⟨45,by simp[BC]⟩
theorem XX{a b c d e a' b' c' d' e':Nat}{l l':List Nat}(h:a :: b :: c :: d :: e :: l=a' :: b' :: c' :: d' :: e' :: l'):a=a'/\b=b'/\d=d'/\e=e'/\l=l':=by
 obtain⟨h1,h⟩:=List.cons.inj h
 obtain⟨h2,h⟩:=List.cons.inj h
 have h:=(List.cons.inj h).2
 obtain⟨h4,h⟩:=List.cons.inj h
 have h5:=(List.cons.inj h).1;have h:=(List.cons.inj h).2
 exact⟨h1,h2,h4,h5,h⟩
theorem bA{R:Int}{st:St}{v w:Int}{kd pD:Nat}(V:Wd R st v kd)(W:Wd R st w pD)(h:nZ st v=nZ st w):Ai v=Ai w/\mc v=mc w/\Ah v=Ah w:=by
 unfold nZ at h
 rw[show(oq st v).toNat=kd by rw[V.k];rfl,show(oq st w).toNat=pD by rw[W.k];rfl]at h
 obtain⟨c,e⟩:=Rv kd (mX st v) v (Ah v)
 obtain⟨c',e'⟩:=Rv pD (mX st w) w (Ah w)
 rw[e,e']at h
 have R5:=V.q.R5
 have v1:=V.q.f1;have v2:=V.q.t1;have w1:=W.q.f1;have w2:=W.q.t1
 have fin:∀{a b d f a' b' d' f':Nat} {l l':List Nat},a=97+((Ai v).fmod 4).toNat->b=49+((Ai v).fdiv 4).toNat->d=97+((mc v).fmod 4).toNat->f=49+((mc v).fdiv 4).toNat->l=FG (Ah v)->a'=97+((Ai w).fmod 4).toNat->b'=49+((Ai w).fdiv 4).toNat->d'=97+((mc w).fmod 4).toNat->f'=49+((mc w).fdiv 4).toNat->l'=FG (Ah w)->
   a :: b :: c :: d :: f :: l=a' :: b' :: c' :: d' :: f' :: l'->Ai v=Ai w/\mc v=mc w/\Ah v=Ah w:=by
  intro a b d f a' b' d' f' l l' h1 h2 h3 h4 h5 h6 h7 h8 h9 sK h
  obtain⟨q1,q2,q3,q4,q5⟩:=XX h
  subst h1 h2 h3 h4 h5 h6 h7 h8 h9 sK
  exact⟨ZX V.q.f0 (by lia) W.q.f0 (by lia) q1 q2,ZX V.q.t0 (by lia) W.q.t0 (by lia) q3 q4,Uk V.q.pr W.q.pr q5⟩
 rcases(by have:=V.k1;lia:kd=1\/2<=kd)with z|z<;>rcases(by have:=W.k1;lia:pD=1\/2<=pD)with z'|z'
 ·subst z z'
  exact fin rfl rfl rfl rfl rfl rfl rfl rfl rfl rfl h
 ·subst z
  rw[De z']at h
  have:=(List.cons.inj (show(97+((Ai v).fmod 4).toNat) :: _=mW pD :: _ from h)).1
  have:=MJ z' W.k7
  lia
 ·subst z'
  rw[De z]at h
  have:=(List.cons.inj (show mW kd :: _=(97+((Ai w).fmod 4).toNat) :: _ from h)).1
  have:=MJ z V.k7
  lia
 ·rw[De z,De z']at h
  exact fin rfl rfl rfl rfl rfl rfl rfl rfl rfl rfl (List.cons.inj (show mW kd :: _=mW pD :: _ from h)).2
theorem Kb{o t f s:Int}(o0:0<=o)(o1:o<20)(t0:0<=t)(t1:t<20)(hs:f=0/\s=0\/s=1/\0<=f/\f<4):(s=0/\f=0/\Ah (AH o t f s)=0)\/(s=1/\Ah (AH o t f s)=f+2/\2<=f+2):=by
 have f0:0<=f/\f<4/\0<=s/\s<2:=by
  rcases hs with⟨rfl,rfl⟩|⟨rfl,x,y⟩
  ·exact⟨by decide,by decide,by decide,by decide⟩
  ·exact⟨x,y,by decide,by decide⟩
 obtain⟨a,b,c,d⟩:=RE o0 o1 t0 t1 f0.1 f0.2.1 f0.2.2.1 f0.2.2.2
 unfold Ah
 rcases hs with h|h
 ·left
  refine⟨h.2,h.1,?_⟩
  rw[c,h.2];rfl
 ·right
  refine⟨h.1,?_,by exact mI (mn _) (.num 2) (mj 0 2) (.num 0) md rfl h.2.1⟩
  rw[c,show(s != 1)=false by rw[h.1];rfl]
  show Am _ 3+2=_
  rw[d]
theorem VQ(lZ:Bool):(Gr lZ).size=4*(Gr lZ).ranks/\(Gr lZ).ranks<=5:=by cases lZ<;>exact⟨rfl,by decide⟩
inductive dL(lZ:Bool)(st:St)(v:Int):Prop
 |mk (kd:Nat) (o t f s:Int) (T:pI (Gr lZ) st kd o t) (hs:f=0/\s=0\/kd=1/\s=1/\0<=f/\f<4) (e:v=AH o t f s) (ef:Ai v=o) (et:mc v=t) (W:Wd (Gr lZ).ranks st v kd)
theorem RH{v:Int}(z:Bt v=0):Ah v=0:=by unfold Ah;rw[z];rfl
theorem P1{lZ:Bool}{st:St}(P:Pos (Gr lZ) st){v:Int}(hv:v∈Ay (Gr lZ) st):dL lZ st v:=by
 obtain⟨rs,r5⟩:=VQ lZ
 have GC:=Xw lZ
 obtain⟨kd,o,t,f,s,T,H,hs,e⟩:=ML (eg lZ) GC.S GC.hr P.C (Lp hv)
 obtain⟨V,ef,et⟩:=T.mv GC.S P.C hs
 (replace V:=(e).symm▸V;replace ef:=(e).symm▸ef;replace et:=(e).symm▸et)
 refine⟨kd,o,t,f,s,T,hs,e,ef,et,⟨⟨r5,V.M.f0,by refine rs▸?_;exact V.M.f1,V.M.t0,by refine rs▸?_;exact V.M.t1,?_⟩,T.k1,T.k7,V.oq,fun p=>?_⟩⟩
 ·rcases V.M.sp with z|z
  ·exact .inl (RH z)
  ·obtain⟨_,p,h1,h2,h3⟩:=V.oi z
   exact .inr ⟨p,h1,Nat.lt_succ_of_le h2,h3⟩
 ·rcases V.M.sp with z|z
  ·exact absurd (RH z) p
  ·exact(V.oi z).1
theorem Qh{s f s' f' a b:Int}(p:(s=0/\f=0/\a=0)\/(s=1/\a=f+2/\2<=f+2))(p':(s'=0/\f'=0/\b=0)\/(s'=1/\b=f'+2/\2<=f'+2))(h:a=b):s=s'/\f=f':=by lia
theorem dq{lZ:Bool}{st:St}(P:Pos (Gr lZ) st):Tab (Gr lZ).ranks st (Va (Gr lZ) (mr lZ) st) (Ay (Gr lZ) st):=by
 have top:=(Xw lZ).S.top
 refine⟨fun v hv=>?_,fun v hv w hw h=>?_⟩
 ·obtain⟨kd,_,_,_,_,_,_,_,_,_,W⟩:=P1 P hv
  exact⟨kd,W⟩
 ·obtain⟨kd,o,t,f,s,T,hs,e,ef,et,W⟩:=P1 P hv
  obtain⟨pD,o',t',f',s',T',pO,e',ef',et',W'⟩:=P1 P hw
  obtain⟨i1,i2,i3⟩:=bA W W' h
  have p:=Kb T.o0 (gK T.o1 top) T.t0 (gK T.t1 top) (hs.imp id And.right)
  have p':=Kb T'.o0 (gK T'.o1 top) T'.t0 (gK T'.t1 top) (pO.imp id And.right)
  rw[<- e]at p
  rw[<- e']at p'
  have q:=Qh p p' i3
  rw[show v=w by(refine e.symm▸?_;rewrite[e'];refine ef▸?_;refine ef'▸?_;refine i1.symm▸?_;refine et▸?_;refine et'▸?_;refine i2.symm▸?_;refine q.1.symm▸?_;refine q.2.symm▸?_;rfl)]
theorem eD:Zx:=⟨Xw,fX,fun lZ st P=>⟨Va (Gr lZ) (mr lZ) st,Xv (eg lZ) (Xw lZ) P,fun v _=>bD v,bn (dq P)⟩⟩
theorem UU{n:Nat}{Q:Ae}{X:As}{xs:List Int}(hn:15<=n)(h:∀μ',Q (.bool true) μ'):CG n false 312 [.mM (xs.map .int)] Q X []:=dW hn eD h
noncomputable abbrev RR:=PySem.Challenge.rw_pf0107_01.row.toRowW
theorem XB{t:WTm}{e:WCtx}(v:t.value R e=some (.bool b))(h:t.holds R e=true):b=true:=by
 have h:(match t.value R e with|some (.bool true)=>true|_=>false)=true:=h
 replace h:=v▸h
 induction b<;>exact h
theorem cg{ds:List WData}(h:WTm.holds [] (.and (.not (.lt (.lit (.int 63)) (.len (.arg 0)))) (.lit (.bool true))) {args:=[.list ds]}=true):ds.length<=63:=
 Int.ofNat_le.mp (Int.not_lt.mp (ig (CF (XB (w_not (w_lt w_lit (w_len_list (w_arg rfl)))) (holds_andW h).1))))
theorem VU{cl:Str->Option Addr}(r:ReadsW [] cl h v (.int k) as):∃t,v=.int k t:=by
 cases r with
 |int i t=>exact⟨t,rfl⟩
theorem Qm{cl:Str->Option Addr}{ns:List Int}{vs:List Value}(r:ReadsAllW [] cl h vs (ns.map .int) as):vs.length=ns.length/\∀(i:Nat) (k:Int) (w:Value),ns[i]?=some k->vs[i]?=some w->∃t,w=.int k t:=by
 induction ns generalizing vs as with
 |nil=>cases r;exact⟨rfl,fun i k w a=>nomatch a⟩
 |cons n ns ih=>
  cases r with
  |cons a b=>
   have l:=(ih b).1;have q:=(ih b).2
   refine⟨congrArg (·+ 1) l,fun i k w e1 e2=>?_⟩
   induction i using Nat.casesOn with
   |zero=>obtain rfl:=Option.some.inj e1;obtain rfl:=Option.some.inj e2;exact VU a
   |succ i=>exact q i k w e1 e2
def dN(h:Heap):Prop:=∃K:Frag,Fl K=true/\K.In h
theorem QF(a b:DecidableEq Str)(K:Frag):Fl (deq:=a) K=Fl (deq:=b) K:=by rw[Subsingleton.elim a b]
theorem be(h:Heap):(pu h.get?).In h:=by
 intro a o e
 unfold pu at e
 generalize KX=l at e
 induction l with
 |nil=>exact Ao e
 |cons b l ih=>
  rw[iS]at e
  cases hb:h.get? b with
  |none=>rw[hb]at e;exact ih e
  |some x=>
   rw[hb]at e
   have e:(if a==b then some x else(List.filterMap (fun a=>(h.get? a).map (a,·)) l).lookup a)=some o:=by
    have:List.lookup a ((b,x) :: List.filterMap (fun a=>(h.get? a).map (a,·)) l)=some o:=e
    rw[hO]at this
    split at this<;>simp_all
   split at e
   ·rename_i q
    rw[gM q,hb];exact e
   ·exact ih e
theorem bu:nm 312=("law":Str):=by kernel_rfl
theorem UP:prog 312=some (.fn [307] Dn):=by kernel_rfl
theorem bq:Oj 312=true:=by kernel_rfl
theorem RM:callerA.depth+3*15+4<recursionLimit/\callerA.units+8*15+53<cLine:=by constructor<;>decide +kernel
theorem T5{G:Nat->Option V}{P:Nat->Option q9}{Q:Ae}{X:As}(hp:P f=some (.fn ps body))(h:Ak G P (n+1) hd f vs Q X μ) :
  ∃env',CP ps vs (fun _=>none)=some env'/\ws G (Ak G P n) hd body (fun fl _ μ'=>match fl with|.ret v=>Q v μ'|.next=>Q .none μ'|.cont=>False) X env' μ:=by
 obtain⟨F,e,h⟩:=Aq (o:=P f) h
 obtain rfl:=same hp e
 exact Aq h
theorem bz{xs:List Int}:∃env',CP [307] [.mM (xs.map .int)] (fun _=>none)=some env'/\ws lX (Ak lX prog 15) false Dn (fun fl _ _=>match fl with|.ret v=>v=.bool true|.next=>(V.none:V)=.bool true|.cont=>False) (fun _ _=>False) env' []:=
 T5 UP (UU (by decide) fun _=>rfl)
structure IP(r:RowW):Prop where
 pS:r.records=[]
 args:r.args=[.list .int]
 pre:r.pre=.and (.not (.lt (.lit (.int 63)) (.len (.arg 0)))) (.lit (.bool true))
 ret:r.returns=.bool
 post:r.post=.eq .res (.lit (.bool true))
 raises:r.raises=[]
theorem Yv{r:RowW}(LR:IP r)(args:List WData):r.claim.post args (.bool true) args=true:=by
 show(WShape.has r.records (.bool true) r.returns&&WTm.holds r.records r.post {args:=args,res:=some (.bool true),after:=args})=true
 rw[LR.ret,LR.post]
 kernel_rfl
theorem Vg{r:RowW}(LR:IP r)(args:List WData)(cls:ExcName):r.claim.raises args cls=false:=by
 show(r.raises.any fun ct=>ct.1==cls&&ct.2.holds r.records {args:=args})=false
 rw[LR.raises];rfl
theorem UN{r:RowW}(LR:IP r)(og:r.claim.pre args=true):∃ns:List Int,args=[.list (ns.map .int)]/\ns.length<=63:=by
 obtain⟨r9,hpr⟩:=pre_splitW (r:=r) og
 (rw[LR.pS]at r9;replace r9:=LR.args▸r9)
 rw[LR.pS,LR.pre]at hpr
 obtain⟨d1,r1,e1,qy,hs2⟩:=hasAllW_cons r9
 have e2:=hasAllW_nil hs2
 subst e2 e1
 obtain⟨ds,e3,hit⟩:=hasW_list qy
 subst e3
 obtain⟨ns,e4⟩:=items_int hit
 subst e4
 have hlen:=cg hpr
 rw[gS]at hlen
 exact⟨ns,rfl,hlen⟩
theorem XN{cl:Str->Option Addr}{vals:List Value}{ns:List Int}(hlen:ns.length<=63)(tN:ReadsAllW [] cl h vals [.list (ns.map .int)] as):Ar h lg0 [.mM (ns.map .int)] vals/\vals.length=1:=by
 cases tN with
 |cons hl hr=>
  cases hr
  cases hl with
  |@list la lo vs nn as' _ l1 l2 l3 l4=>
   obtain⟨ql,qv⟩:=Qm l4
   refine⟨Ar.cons (.mM _ la lo vs nn l1 l2 l3 (by rw[gS,<- ql];exact Array.length_toList.symm) (by rw[gS];exact gA hlen (by decide)) fun i v w a b=>?_) Ar.nil,rfl⟩
   replace a:=kO▸a
   cases hk:ns[i]? with
   |none=>replace a:=hk▸a;exact Ao a
   |some k=>
    replace a:=hk▸a
    obtain rfl:=Option.some.inj a
    obtain⟨t,e⟩:=qv i k w hk (by refine Array.getElem?_toList.symm▸?_;exact b)
    refine e.symm▸?_
    exact .int k t
theorem UV(LR:IP r){d:DefRec}(hn:d.name=("law":Str)):WalkO q loose (fun _ _=>True) (fun _ h=>dN h) r d kwd fun f vs=>PySem.call f vs:=by
 intro w s₀ s₁ mg mb G Y a o pm cd doc dV kV ho hd hcd hD hmg hg args vals as og hlay tN hwl pW
 obtain⟨K,hK,Kin⟩:=Y
 obtain⟨ns,rfl,hlen⟩:=UN LR og
 rw[LR.pS]at tN
 have P:=ci Kin G.T.nolimit G.T.g G.T.b hK
 obtain⟨mg',mb',n1,n2,_,fnn,_⟩:=P.qs.names
 have ea:Sy K 312=a:=by
  have q:=(fnn 312 bq).1
  (rw[n1.eq_nsMap,<- G.T.g.eq_nsMap,bu,<- hn]at q;replace q:=hmg▸q)
  cases Option.some.inj q;rfl
 have qB:=P.fns.fn 312 [307] Dn UP
 replace qB:=ea▸qB
 obtain⟨rel, -⟩:=XN hlen tN
 obtain⟨env',he,hw⟩:=bz (xs:=ns)
 refine jR (Wq (n:=15) P qB rfl rfl RM.1 RM.2 rel he hw (fun mf mQ mU μ2 h2 nD w2 old hq hv=>?_) fun _ _ z=>z)
 induction mf with
 |ret v=>
  subst hq
  cases hv
  exact⟨.inl ⟨_,.bool true,[],rfl,Vg LR _,.bool true,Yv LR _,fun _=>⟨k8,fun _ h=>by cases h⟩⟩,OldK.of_keep old,rfl,AllBare.of_eq hg⟩
 |next=>exact absurd hq (by intro z;cases z)
 |cont=>exact hq.elim
theorem Ok:(defOf vw "law").isSome=true:=by kernel_rfl
noncomputable def Fb:DefRec×List (Str×Expr):=(defOf vw "law").get Ok
theorem UQ:defOf vw "law"=some (Fb.1,Fb.2):=(Option.some_get Ok).symm
theorem UR:Fb.1.name=("law":Str):=by kernel_rfl
theorem bp:pw.theDef "law"=some (Fb.1.params,Fb.1.body,Fb.1.scope):=by kernel_rfl
theorem bo:kwWritten? Fb.1.params.kwonlyargs Fb.1.params.kw_defaults=some Fb.2:=by kernel_rfl
theorem UO:pw.bare:=⟨rfl,rfl,rfl,rfl,rfl,by decide +kernel⟩
theorem XO:IP RR:=⟨rfl,rfl,rfl,rfl,rfl,rfl⟩
theorem US:RR.promised:=⟨[.list []],by decide +kernel,by decide +kernel⟩
theorem XI:chainsOk vw=true:=by kernel_rfl
theorem bw:(opening pw).tameTopW=true:=by kernel_rfl
theorem bx:bearImports (behindTheImports pw)=false:=by kernel_rfl
theorem XJ:opensWell pw=true:=look_both bw (congrArg not bx)
theorem XL:(frees RR&&RR.within.isEmpty)=true:=by kernel_rfl
theorem UT:PySem.Challenge.rw_pf0107_01.wellSaid=true:=by
 rw[Fast.te9446332074065402090]
 unfold Fast.tw9446332074065402090 Fast.tw17960256430627541270 Fast.tw2436336058641802641 Fast.tw12908688711261696721
 repeat' (with_reducible refine look_both ?_ ?_)
 all_goals decide +kernel
theorem XM:(chainsOk vw&&opensWell pw&&(frees RR&&RR.within.isEmpty))=true:=by rw[XI,XJ,XL];rfl
theorem X7(s:Shared):RecFacts [] s.heap:=recFacts_of (by rfl)
theorem Th(vh:PySem.Challenge.rw_pf0107_01.row.wellSaid=true):PySem.Challenge.rw_pf0107_01.row.Holds:=
 PySem.W.holds_open (q:=vw) (loose:=so) (Xt:=fun _=>true) (XP:=fun _ _=>True) (Yf:=fun s=>Fl (deq:=Fast.sDec) (pu s.heap.get?)) (Ya:=fun _=>true) (YP:=fun _ h=>dN h) (N:=8000) (d:=Fb.1) (kwd:=Fb.2)
  left (fun _ s e=>⟨pu s.heap.get?,(QF _ _ _).trans e,be s.heap⟩) (fun _ h h' ⟨K,a,b⟩ k=>⟨K,a,fun x o e=>k x o (b x o e)⟩) (fun _ _=>trivial) (fun _ _ _ _ _=>trivial)
  UQ bp bo (fun s _=>X7 s) rfl vh XM UO US (UV XO UR)
theorem dE:PySem.Challenge.rw_pf0107_01.Holds:=holds_law UT Th
end Mine
theorem PySem.Challenge.cw_pf0107_01_holds : PySem.Challenge.rw_pf0107_01.Holds :=
  Mine.dE
