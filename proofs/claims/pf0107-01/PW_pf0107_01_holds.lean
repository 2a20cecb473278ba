import PyProof.Rows.All
import Wide.All
import OpenK.AllK
import Wide.FinOn
import PyProof.ExcBaseAll.Exception
import Lean
import PySem.Challenge.RW_pf0107_01
set_option Elab.async false
set_option maxRecDepth 100000
set_option maxHeartbeats 2000000
set_option autoImplicit true
set_option genSizeOf false
set_option genSizeOfSpec false
set_option tactic.hygienic false
set_option linter.all false
open List renaming append_assoc->gB,getElem?_concat_length->gD,length_append->gF,mem_cons_of_mem->gH,append_nil->gK,mem_cons_self->gR,length_cons->gY,length_map->g6,getD_eq_getElem?_getD->g7,getElem?_eq_getElem->g8,getElem?_set_ne->hG,set_append_right->hU,mem_cons->hW,lookup_cons->ib,set_set->ig,all_eq_true->io,find?_cons->ix,getElem?_eq_none->iz,contains_cons->iN,filterMap_cons->iZ,map_cons->ja,getElem?_append_right->jd,mapM_cons->ji,flatMap_nil->jk,filter_cons_of_pos->jl,filter_cons_of_neg->jm,mem_of_getElem?->jv,take_of_length_le->jH,take_append_drop->jI,nodup_cons->jO,nil_append->jP,length_set->jQ,getElem?_append_left->j5,length_range->j6,getElem?_set->j7,flatMap_cons->j8,not_mem_nil->kf,getElem_mem->kg,drop_eq_nil_of_le->kr,map_append->kx,getElem?_map->kW,foldl_cons->lh,filter_nil->li,nodup_nil->lm,any_cons->ly,mem_map->lI,map_nil->lJ,length_filter_le->lQ,replicate_succ->l6,map_congr_left->l7
open PySem renaming wpAny_bind->gE,wpAny_mono->gQ,wpAny_pure->gV,wpAny_standAt->ic,wpAny_holding->ie,wpAny_field->iD,wpAny_loadPart_at->iV,wpAny_isSubtype_exc->iX,wpAny_execs_cons->jA,wpAny_setField->jE,wpAny_truthy_bool->jG,wpAny_loadName_local->jK,wpAny_rule->jX,wpAny_call->jY,wpAny_call_entry->j9,wpAny_execs_nil->kt,wpAny_of_eq->kB,wpAny_loadPart->kE,wpAny_attempt->kJ,wpAny_pyIter_tuple->kM,wpAny_newObj_type->kS,wpAny_Return_some->kT,wpAny_askSetting->kZ,call_meets->lj,wpAny_pyNext_tuple_item->lB,wpAny_pyIter_tupleiter->lM,wpAny_allTrue_And_cons->lN,wpAny_allTrue_Or_cons->lP,wpAny_throw->lS,wpAny_noted->lU,codeAny_call_builtin->lW,wpAny_Constant_none->lZ,wpAt_of_wpAny->l0
open Nat renaming le_trans->gI,le_refl->gM,lt_of_le_of_lt->hH,lt_succ_of_lt->hJ,lt_of_lt_of_le->hM,le_add_right->hY,le_of_eq->hZ,lt_irrefl->ip,zero_le->iq,lt_trans->iB,pow_le_pow_right->iF,sub_self->iI,testBit_succ->iR,lt_succ_self->iS,le_of_succ_le->iW,mul_le_mul_left->iY,ne_of_lt->i6,lt_or_ge->i7,testBit_lt_two_pow->i8,le_succ->i9,testBit_zero->jb,testBit_and->je,and_le_left->jf,add_le_add_left->jh,le_add_left->jp,add_le_add->js,add_lt_add_right->ju,mod_two_eq_zero_or_one->jx,succ_pos->jy,testBit_or->jF,not_succ_le_zero->jL,eq_of_testBit_eq->jM,le_antisymm->jN,ne_of_gt->jU,succ_lt_succ->ke,add_sub_cancel_left->kh,le_of_lt->ki,lt_of_succ_lt_succ->kq,eq_of_beq_eq_true->kA,sub_lt_sub_left->kH,lt_two_pow_self->kI,pow_succ->kP,le_of_lt_succ->kU,mul_add_mod->lf,lt_of_mul_lt_mul_left->lw,testBit_mul_two_pow->lC,mul_div_cancel_left->lD,exists_eq_add_of_le->lE,mul_comm->lH,le_of_succ_le_succ->lO
open Int renaming eq_ofNat_of_zero_le->gJ,lt_of_lt_of_le->gS,natCast_nonneg->gW,toNat_of_nonneg->g9,le_antisymm->ii,le_refl->iE,fdiv_eq_ediv_of_nonneg->iG,ne_of_gt->iJ,le_of_eq->iK,lt_trans->iU,mul_fdiv_cancel_left->jg,le_of_lt->jn,le_of_sub_nonneg->jw,pow_pos->jJ,natCast_pow->jR,ediv_nonneg->jS,lt_or_le->jV,lt_of_le_of_lt->j0,zero_add->kj,ne_of_lt->km,le_trans->kQ,toNat_natCast->kX,mul_nonneg->lp,fmod_eq_emod_of_nonneg->lr,lt_of_mul_lt_mul_left->lx,dvd_of_emod_eq_zero->lF,sub_self->lK,add_zero->lL,sub_nonneg_of_le->lX
open PySem.Heap renaming get?_push_of_some->gN,lt_size->hO,get?_push_size->ia,get?_update_other->iw,get?_update_self->iA,size_push->jc
open Bool renaming and_eq_true->gP,or_eq_true->ik,false_or->iM,false_ne_true->iT,not_eq_true'->jq,or_true->jz,or_false->jB,eq_iff_iff->jT,and_false->jZ,false_eq_true->j3,xor_false->kF,false_and->kG,not_true->kK,not_not->kR,and_true->lz,or_eq_false_iff->lY
open LawfulBEq renaming eq_of_beq->gU
open PySem.Calls renaming Name_function_global->iH,callWith_builtin->jo,loadGlobal_global->jD,spliced_cons->j2,spliced_nil->kY,loadGlobal_builtin->lA
open Array renaming getElem?_toList->iL
open Ne renaming symm->iQ
open PySem.Heap.SameBut renaming update->i5
open PySem.Obj renaming data_mapFields->jC,isFreed_of_fields->kz
open PyProof.Rows renaming wpAny_release'->jW,callWith_type->lq
open PySem.F renaming excBase_Exception->j4,plainAttrs_str->k9,slot_str_ascii_iterator_next->lc,slot_tuple_iterator_next->lu,slot_range_iterator_next->lv
open Option renaming map_some->ku,bind_some->k8
open PySem.W renaming looks_findIn->lG,looks_clsIn->lV
open PySem PySem.W PyProof.Rows
namespace Mine
abbrev gG:=@decide_eq_true
abbrev gO:=@of_decide_eq_true
abbrev gX:=@beq_eq_false_iff_ne
abbrev gZ:=@decide_eq_false
abbrev hV:=@decide_eq_true_eq
abbrev iu:=@bne_iff_ne
abbrev iv:=@of_decide_eq_false
abbrev iy:=@beq_self_eq_true
abbrev iC:=@beq_iff_eq
abbrev iO:=@if_neg
abbrev iP:=@if_pos
abbrev kN:=@if_true
abbrev kO:=@if_false
abbrev lR:=@or_false
noncomputable abbrev NE:=Nat.Internal.Linear.Expr
noncomputable abbrev IE:=Int.Internal.Linear.Expr
section
noncomputable def qY(L R:NE):Bool:=(Nat.Internal.Linear.ExprCnstr.toNormPoly ⟨false,L,R⟩).isValid
theorem qg(ctx:(Lean.RArray Nat))(L R:NE)(c:qY L R=true):L.denote ctx<=R.denote ctx:=of_eq_true (Nat.Internal.Linear.ExprCnstr.eq_true_of_isValid ctx ⟨false,L,R⟩ c)
theorem tG{ctx:(Lean.RArray Nat)}{L R:NE}(l r:NE)(q:(Nat.Internal.Linear.Expr.add L r).denote ctx<=(Nat.Internal.Linear.Expr.add R l).denote ctx)(h:l.denote ctx<=r.denote ctx):L.denote ctx<=R.denote ctx:=
 Nat.le_of_add_le_add_right (b:=r.denote ctx) (gI (show L.denote ctx+r.denote ctx<=R.denote ctx+l.denote ctx from q) (jh h (R.denote ctx)))
theorem mU(ctx:(Lean.RArray Nat))(L R l r:NE)(c:qY (.add L r) (.add R l)=true)(h:l.denote ctx<=r.denote ctx):L.denote ctx<=R.denote ctx:=tG l r (qg ctx _ _ c) h
theorem pt(ctx:(Lean.RArray Nat))(L R l r l' r':NE)(c:qY (.add (.add L r) r') (.add (.add R l) l')=true)(h:l.denote ctx<=r.denote ctx)(h':l'.denote ctx<=r'.denote ctx):L.denote ctx<=R.denote ctx:=tG l r (mU ctx _ _ l' r' c h') h
theorem sK(ctx:(Lean.RArray Nat))(L R l r l' r' p s:NE)(c:qY (.add (.add (.add L r) r') s) (.add (.add (.add R l) l') p)=true)(h:l.denote ctx<=r.denote ctx)(h':l'.denote ctx<=r'.denote ctx)(oB:p.denote ctx<=s.denote ctx):L.denote ctx<=R.denote ctx:=tG l r (pt ctx _ _ l' r' p s c h' oB) h
theorem Nl4(ctx:(Lean.RArray Nat))(L R l r l' r' p s p' s':NE)(c:qY (.add (.add (.add (.add L r) r') s) s') (.add (.add (.add (.add R l) l') p) p')=true)(h:l.denote ctx<=r.denote ctx)(h':l'.denote ctx<=r'.denote ctx)(oB:p.denote ctx<=s.denote ctx)(h3:p'.denote ctx<=s'.denote ctx):L.denote ctx<=R.denote ctx:=tG l r (sK ctx _ _ l' r' p s p' s' c h' oB h3) h
theorem Nf1{P:Prop}(ctx:(Lean.RArray Nat))(l r:NE)(c:qY (.add (.num 1) r) (.add (.num 0) l)=true)(h:l.denote ctx<=r.denote ctx):P:=absurd (mU ctx (.num 1) (.num 0) l r c h) (jL 0)
theorem Nf2{P:Prop}(ctx:(Lean.RArray Nat))(l r l' r':NE)(c:qY (.add (.add (.num 1) r) r') (.add (.add (.num 0) l) l')=true)(h:l.denote ctx<=r.denote ctx)(h':l'.denote ctx<=r'.denote ctx):P:=absurd (pt ctx (.num 1) (.num 0) l r l' r' c h h') (jL 0)
theorem Nf3{P:Prop}(ctx:(Lean.RArray Nat))(l r l' r' p s:NE)(c:qY (.add (.add (.add (.num 1) r) r') s) (.add (.add (.add (.num 0) l) l') p)=true)(h:l.denote ctx<=r.denote ctx)(h':l'.denote ctx<=r'.denote ctx)(oB:p.denote ctx<=s.denote ctx):P:=absurd (sK ctx (.num 1) (.num 0) l r l' r' p s c h h' oB) (jL 0)
end
section
theorem qy{ctx:(Lean.RArray Int)}{E:IE}(l r:IE)(q:0<=(Int.Internal.Linear.Expr.add E (.sub l r)).denote ctx)(h:l.denote ctx<=r.denote ctx):0<=E.denote ctx:=by
 have q:0<=E.denote ctx+(l.denote ctx - r.denote ctx):=q
 lia
noncomputable def qx(E:IE):Bool:=match E.norm with
 |.num k=>decide (0<=k)
 |_=>false
theorem sJ{ctx:(Lean.RArray Int)}{E:IE}(c:qx E=true):0<=E.denote ctx:=by
 rw[<- Int.Internal.Linear.Expr.denote_norm]
 unfold qx at c
 revert c
 cases E.norm with
 |num k=>exact fun c=>gO c
 |add k v p=>exact fun c=>nomatch c
theorem oE(ctx:(Lean.RArray Int))(L R:IE)(c:qx (.sub R L)=true):L.denote ctx<=R.denote ctx:=jw (sJ (ctx:=ctx) c)
theorem mO(ctx:(Lean.RArray Int))(L R l r:IE)(c:qx (.add (.sub R L) (.sub l r))=true)(h:l.denote ctx<=r.denote ctx):L.denote ctx<=R.denote ctx:=jw (qy (E:=.sub R L) l r (sJ (ctx:=ctx) c) h)
theorem qf(ctx:(Lean.RArray Int))(L R l r l' r':IE)(c:qx (.add (.add (.sub R L) (.sub l r)) (.sub l' r'))=true)(h:l.denote ctx<=r.denote ctx)(h':l'.denote ctx<=r'.denote ctx):L.denote ctx<=R.denote ctx:=jw (qy (E:=.sub R L) l r (qy l' r' (sJ (ctx:=ctx) c) h') h)
theorem sH(ctx:(Lean.RArray Int))(L R l r l' r' p s:IE)(c:qx (.add (.add (.add (.sub R L) (.sub l r)) (.sub l' r')) (.sub p s))=true)(h:l.denote ctx<=r.denote ctx)(h':l'.denote ctx<=r'.denote ctx)(oB:p.denote ctx<=s.denote ctx):L.denote ctx<=R.denote ctx:=jw (qy (E:=.sub R L) l r (qy l' r' (qy p s (sJ (ctx:=ctx) c) oB) h') h)
theorem sI(ctx:(Lean.RArray Int))(L R l r l' r' p s p' s':IE)(c:qx (.add (.add (.add (.add (.sub R L) (.sub l r)) (.sub l' r')) (.sub p s)) (.sub p' s'))=true)(h:l.denote ctx<=r.denote ctx)(h':l'.denote ctx<=r'.denote ctx)(oB:p.denote ctx<=s.denote ctx)(h3:p'.denote ctx<=s'.denote ctx):L.denote ctx<=R.denote ctx:=jw (qy (E:=.sub R L) l r (qy l' r' (qy p s (qy p' s' (sJ (ctx:=ctx) c) h3) oB) h') h)
theorem If1{P:Prop}(ctx:(Lean.RArray Int))(l r:IE)(c:qx (.add (.sub (.num 0) (.num 1)) (.sub l r))=true)(h:l.denote ctx<=r.denote ctx):P:=absurd (mO ctx (.num 1) (.num 0) l r c h) (show ¬((1:Int)<=0) by decide)
theorem If2{P:Prop}(ctx:(Lean.RArray Int))(l r l' r':IE)(c:qx (.add (.add (.sub (.num 0) (.num 1)) (.sub l r)) (.sub l' r'))=true)(h:l.denote ctx<=r.denote ctx)(h':l'.denote ctx<=r'.denote ctx):P:=absurd (qf ctx (.num 1) (.num 0) l r l' r' c h h') (show ¬((1:Int)<=0) by decide)
theorem If3{P:Prop}(ctx:(Lean.RArray Int))(l r l' r' p s:IE)(c:qx (.add (.add (.add (.sub (.num 0) (.num 1)) (.sub l r)) (.sub l' r')) (.sub p s))=true)(h:l.denote ctx<=r.denote ctx)(h':l'.denote ctx<=r'.denote ctx)(oB:p.denote ctx<=s.denote ctx):P:=absurd (sH ctx (.num 1) (.num 0) l r l' r' p s c h h' oB) (show ¬((1:Int)<=0) by decide)
end
noncomputable abbrev mz{α:Type}(a:α):Lean.RArray α:=.leaf a
noncomputable abbrev m4{α:Type}(a b:α):Lean.RArray α:=.branch 1 (.leaf a) (.leaf b)
noncomputable abbrev nI{α:Type}(a b c:α):Lean.RArray α:=.branch 1 (.leaf a) (.branch 2 (.leaf b) (.leaf c))
noncomputable abbrev Cx4{α:Type}(a b c d:α):Lean.RArray α:=.branch 2 (.branch 1 (.leaf a) (.leaf b)) (.branch 3 (.leaf c) (.leaf d))
noncomputable abbrev Cx5{α:Type}(a b c d e:α):Lean.RArray α:=.branch 2 (.branch 1 (.leaf a) (.leaf b)) (.branch 3 (.leaf c) (.branch 4 (.leaf d) (.leaf e)))
noncomputable abbrev Cx6{α:Type}(a b c d e f:α):Lean.RArray α:=.branch 3 (.branch 1 (.leaf a) (.branch 2 (.leaf b) (.leaf c))) (.branch 4 (.leaf d) (.branch 5 (.leaf e) (.leaf f)))
noncomputable abbrev mD(i k:Nat):NE:=.add (.var i) (.num k)
noncomputable abbrev mw(i:Nat)(k:Int):IE:=.add (.var i) (.num k)
noncomputable abbrev mu:NE:=.var 0
noncomputable abbrev mK:NE:=.var 1
noncomputable abbrev nM:NE:=.var 2
noncomputable abbrev rj:NE:=.var 3
noncomputable abbrev ue:NE:=.var 4
noncomputable abbrev vr:NE:=.var 5
noncomputable abbrev mq:IE:=.var 0
noncomputable abbrev mW:IE:=.var 1
noncomputable abbrev oQ:IE:=.var 2
noncomputable abbrev v3I:IE:=.var 3
noncomputable abbrev v4I:IE:=.var 4
noncomputable abbrev v5I:IE:=.var 5
abbrev qq0{a b c:Int}:=sH (nI a b c) (mw 2 1) (.num 9223372036854775808) mq (.num 1000000) mW mq (mw 2 1) mW rfl
abbrev qq1{a b c:Int}:=sH (nI a b c) (.neg (.num 9223372036854775808)) oQ mq (.num 1000000) mW mq (.neg mW) oQ rfl
abbrev qq2{a b c:Int}:=qf (nI a b c) (mw 0 1) oQ (mw 0 1) mW mW oQ rfl
abbrev qq3{a b c:Int}:=sH (nI a b c) (mw 2 1) (.num 9223372036854775808) mq (.num 1000000) mW mq oQ mW rfl
abbrev qq4{a b c d:Nat}:=sK (Cx4 a b c d) rj mK mu mK nM mu rj nM rfl
abbrev qq5{a b:Nat}:=qg (m4 a b) (.add mu (mD 1 1)) (.add (mD 0 1) mK) rfl
abbrev qq6{a b:Nat}:=qg (m4 a b) (.add (mD 0 1) mK) (.add mu (mD 1 1)) rfl
abbrev qq7{a b:Int}:=mO (m4 a b) (.num 0) (.sub (.sub mW mq) (.num 1)) (mw 0 1) mW rfl
abbrev tx{a b:Nat}:=mU (m4 a b) mu mK mu mK rfl
abbrev qq9{a b c:Nat}:=mU (nI a b c) (mD 0 1) nM (.add (.add (.add mu (.mulL 3 mK)) (.num 4)) (.num 1)) nM rfl
abbrev YA{a b c:Nat}:=mU (nI a b c) (.add (.add (.add (mD 0 3) (.mulL 16 (.num 2))) (.num 16)) (.num 1)) nM (.add (.add (.add mu (.mulL 8 mK)) (.num 53)) (.num 1)) nM rfl
abbrev YB{a b c:Nat}:=mU (nI a b c) (.add (.add (.add (mD 0 1) (.mulL 3 mK)) (.num 3)) (.num 1)) nM (.add (.add (.add mu (.mulL 3 mK)) (.num 4)) (.num 1)) nM rfl
abbrev YC{a b c:Nat}:=mU (nI a b c) (.add (.add (.add (mD 0 3) (.mulL 8 mK)) (.num 50)) (.num 1)) nM (.add (.add (.add mu (.mulL 8 mK)) (.num 53)) (.num 1)) nM rfl
abbrev eZ{a b c:Nat}:=mU (nI a b c) (.add (.add (mD 0 1) (.num 2)) (.num 1)) nM (.add (.add (.add mu (.mulL 3 mK)) (.num 4)) (.num 1)) nM rfl
abbrev e8{a b c:Nat}:=pt (nI a b c) (mD 2 1) mK (mD 0 1) (mD 1 1) (mD 2 1) mu rfl
abbrev e9{a b:Nat}:=pt (m4 a b) (mD 1 1) (.num 90) (mD 0 1) (.num 90) (mD 1 1) mu rfl
abbrev fa{a b c:Int}:=mO (nI a b c) mq (.add mW (mw 2 1)) mq (.add (mw 1 1) oQ) rfl
abbrev cm{a b:Nat}:=mU (m4 a b) (.add (.add (mD 0 1) mK) (.num 1)) (.num 100000) (.add (.add mu (mD 1 1)) (.num 1)) (.num 100000) rfl
abbrev fc{a:Int}:=mO (mz a) (.num 0) mq (.num 1) mq rfl
abbrev YD{a b:Int}:=qf (m4 a b) (.add (.neg (.num 1000)) (.num 1)) (.sub mW mq) (mw 0 1) (.num 10) (.num 0) mW rfl
abbrev YE{a b:Int}:=qf (m4 a b) (.add (.sub mW mq) (.num 1)) (.num 1000) (.add (.neg (.num 10)) (.num 1)) mq (mw 1 1) (.num 20) rfl
abbrev fe{a b c:Nat}:=pt (nI a b c) (.add (.add (.add mK mu) (.mulL 400 nM)) (.num 1)) (.num 80000) mu (.num 400) (.add (.add mK (.mulL 400 (mD 2 1))) (.num 1)) (.num 80000) rfl
abbrev cn{a b:Int}:=mO (m4 a b) (mw 0 1) mW (mw 0 1) mW rfl
abbrev S7{a b:Nat}:=mU (m4 a b) (.add (.add (mD 0 1) mK) (.num 1)) (.num 90000) (.add (.add mu (mD 1 1)) (.num 1)) (.num 90000) rfl
abbrev YF{a b:Nat}:=mU (m4 a b) (.add (.add mu mK) (.num 1)) (.num 90000) (.add (.add mu (mD 1 1)) (.num 1)) (.num 90000) rfl
abbrev YG{a:Nat}:=mU (mz a) (.add (.add (.num 0) mu) (.num 1)) (.num 90000) (mD 0 1) (.num 80000) rfl
abbrev YH{a:Nat}:=mU (mz a) (mD 0 1) (.num 8) (mD 0 1) (.num 7) rfl
abbrev S8{a:Nat}:=mU (mz a) (mD 0 1) (.num 7) mu (.num 5) rfl
abbrev cq{a:Int}:=mO (mz a) (.add (.num 0) (.num 1)) (mw 0 1) (.num 0) mq rfl
abbrev Qi{a:Nat}:=mU (mz a) (.num 1) mu (.num 2) mu rfl
abbrev OA{a:Int}:=mO (mz a) (.num 0) mq (.num 0) mq rfl
abbrev Na{a:Int}:=mO (mz a) (.add (.num 0) (.num 1)) mq (.num 2) mq rfl
abbrev fg{a:Nat}:=mU (mz a) (mD 0 1) (.num 1000000) mu (.num 5) rfl
abbrev cr{a:Nat}:=mU (mz a) (mD 0 1) (.num 6) mu (.num 5) rfl
abbrev OB{a:Int}:=mO (mz a) (.num 0) (mw 0 1) (.num 0) mq rfl
abbrev fj{a b:Nat}:=mU (m4 a b) (mD 0 1) (.num 100000) (.add (.add mu (mD 1 1)) (.num 1)) (.num 1000) rfl
abbrev fk{a b:Nat}:=mU (m4 a b) (.add (.add (mD 0 1) mK) (.num 1)) (.num 1000) (.add (.add mu (mD 1 1)) (.num 1)) (.num 1000) rfl
abbrev HD{a:Nat}:=mU (mz a) (mD 0 1) (.num 7) (mD 0 1) (.num 6) rfl
abbrev S9{a:Int}:=mO (mz a) (.add (.num 0) (.num 1)) mq (.add (.num 0) (.num 1)) mq rfl
abbrev fo{a b:Int}:=oE (m4 a b) (.add (mw 0 1) mW) (.add mq (mw 1 1)) rfl
abbrev fp{a b:Int}:=oE (m4 a b) (.add mq (mw 1 1)) (.add (mw 0 1) mW) rfl
abbrev fq{a:Int}:=oE (mz a) mq (mw 0 0) rfl
abbrev fu{a:Int}:=oE (mz a) (mw 0 0) mq rfl
abbrev fv{a b:Nat}:=mU (m4 a b) (mD 0 1) (.num 100000) (.add (.add mu (mD 1 1)) (.num 1)) (.num 90000) rfl
abbrev cu{a:Int}:=mO (mz a) (.num 0) (.add (.add (mw 0 1) (.num 1)) (.num 1)) (.num 0) mq rfl
abbrev cv{a:Int}:=mO (mz a) (.num 0) (.add (mw 0 1) (.num 1)) (.num 0) mq rfl
abbrev fw{a:Int}:=mO (mz a) (.num 0) (.add (.add (.add (mw 0 1) (.num 1)) (.num 1)) (.num 1)) (.num 0) mq rfl
abbrev fx{a:Int}:=mO (mz a) (mw 0 1) (.num 900) (mw 0 1) (.num 700) rfl
abbrev YI{a:Int}:=mO (mz a) (mw 0 1) (.num 900) (mw 0 1) (.num 500) rfl
abbrev cw{a:Int}:=mO (mz a) (.add (.neg (.num 1)) (.num 1)) mq (.num 0) mq rfl
abbrev YJ{a b:Int}:=qf (m4 a b) (.num 0) mW mq mW (.num 0) mq rfl
abbrev cx{a b:Int}:=qf (m4 a b) (.num 0) mq mW mq (.num 0) mW rfl
abbrev cy{a:Int}:=mO (mz a) (mw 0 1) (.num 0) mq (.neg (.num 1)) rfl
abbrev fy{a:Nat}:=qg (mz a) (.add (.num 82) (.num 1)) (.add (.num 97) mu) rfl
abbrev fz{a:Nat}:=mU (mz a) (.add (.add (.num 49) mu) (.num 1)) (.num 66) (mD 0 1) (.num 9) rfl
abbrev fA{a:Nat}:=qg (mz a) (.num 66) (.add (.num 97) mu) rfl
theorem Ao{α:Type}{x:α}{P:Prop}(h:none=some x):P:=nomatch h
theorem Ry{α:Type}{x:α}{P:Prop}(h:some x=none):P:=nomatch h
theorem De{P:Prop}(h:false=true):P:=nomatch h
theorem FT{P:Prop}(h:true=false):P:=nomatch h
theorem AM{α:Type}{o:Option α}{x:α}{P:Prop}(a:o=none)(b:o=some x):P:=Ao (a.symm.trans b)
theorem Ex{b:Bool}{P:Prop}(a:b=true)(c:b=false):P:=FT (a.symm.trans c)
theorem same{α:Type}{o:Option α}{x y:α}(a:o=some x)(b:o=some y):x=y:=Option.some.inj (a.symm.trans b)
@[elab_as_elim] theorem stp{P:Nat->Prop}{j n:Nat}(hn:j+1<=n)(h:∀n,j+1<=n+1->P (n+1)):P n:=match n,hn with|n+1,hn=>h n hn
inductive V where
 |none
 |bool (b:Bool)
 |int (i:Int)
 |str (s:List Nat)
 |tup (l:List V)
 |mT (l:List V)
 |range (lo hi st:Int)
 |l8 (n:Nat)
set_option genInjectivity false in
inductive MO where
 |list (xs:List V)
 |inst (c:Nat) (fs:List (Nat×V))
 |dict (kv:List (Int×V))
noncomputable abbrev MH:=List MO
noncomputable abbrev An:=Nat->Option V
set_option genInjectivity false in
inductive ME where
 |int (i:Int)
 |str (s:List Nat)
 |bool (b:Bool)
 |none
 |l8 (x:Nat)
 |l9 (x:Nat)
 |bin (op:Operator) (a b:ME)
 |un (op:UnaryOp) (a:ME)
 |and (a b:ME)
 |or (a b:ME)
 |cmp (a:ME) (op:CmpOp) (b:ME)
 |oI (a:ME) (sD:CmpOp) (b:ME) (sE:CmpOp) (c:ME)
 |ite (t a b:ME)
 |call (f:Nat) (as:ME)
 |blt (f:Nat) (as:ME)
 |mG (o:ME) (name:Nat) (as:ME)
 |attr (o:ME) (a:Nat)
 |sub (o i:ME)
 |slice (o lo hi:ME)
 |list (es:ME)
 |tup (es:ME)
 |dict (es:ME)
 |comp (elt:ME) (xs:List Nat) (one:Bool) (it:ME) (cond:ME)
 |n9 (elt:ME) (x1:Nat) (pC:ME) (x2:Nat) (oa:ME)
 |nil
 |cons (e r:ME)
set_option genInjectivity false in
inductive MS where
 |skip
 |seq (a b:MS)
 |assign (x:Nat) (e:ME)
 |mA (xs:List Nat) (e:ME)
 |setAttr (o:ME) (a:Nat) (e:ME)
 |nA (o i:ME) (e:ME)
 |aug (x:Nat) (op:Operator) (e:ME)
 |mH (o:ME) (a:Nat) (op:Operator) (e:ME)
 |mS (o i:ME) (op:Operator) (e:ME)
 |expr (e:ME)
 |ret (e:ME)
 |cont
 |ite (t:ME) (a b:MS)
 |mB (xs:List Nat) (one:Bool) (it:ME) (body:MS)
 |nt (t:ME) (body:MS)
 |raise (c:Nat) (e:ME)
 |nB (e:ME) (c:Nat) (h:MS)
set_option genInjectivity false in
inductive K4 where
 |next|cont|ret (v:V)
set_option genInjectivity false in
inductive rn where
 |fn (ps:List Nat) (body:MS)
 |cls (c:Nat) (ps:List Nat) (body:MS)
abbrev Ae:=V->MH->Prop
abbrev As:=Nat->MH->Prop
abbrev Az:=Nat->List V->Ae->As->MH->Prop
noncomputable def lim:Nat:=1000000
noncomputable def sx(l:List Nat):Str:=⟨l.toArray⟩
def qe(s:List Nat):Prop:=s.length<=lim/\∀c∈s,c<128
noncomputable def Hq:List V->Option (List Int)
 |[]=>some []
 |.int i :: r=>(Hq r).map (i :: ·)
 |_ :: _=>Option.none
noncomputable def Bz:List V->Option (List (List Nat))
 |[]=>some []
 |.str s :: r=>(Bz r).map (s :: ·)
 |_ :: _=>Option.none
def opt{α:Type}(o:Option α)(k:α->Prop):Prop:=@Option.rec α (fun _=>Prop) False (fun a=>k a) o
def p9(b:Bool)(p q:Prop):Prop:=@Bool.rec (fun _=>Prop) q p b
def A7(b:Bool)(p:Prop):Prop:=@Bool.rec (fun _=>Prop) False p b
theorem Aq{α:Type}{o:Option α}{k:α->Prop}(h:opt o k):∃a,o=some a/\k a:=by
 induction o with
 |none=>exact h.elim
 |some a=>exact⟨a,rfl,h⟩
theorem A6{b:Bool}{p:Prop}(h:A7 b p):b=true/\p:=by
 cases b with
 |true=>exact⟨rfl,h⟩
 |false=>exact h.elim
theorem Ai{c:Prop}[Decidable c]{p:Prop}(h:A7 (decide c) p):c/\p:=⟨gO (A6 h).1,(A6 h).2⟩
theorem X2{c:Prop}[Decidable c]{p:Prop}(hc:c)(h:p):A7 (decide c) p:=by rw[gG hc];exact h
theorem Vx{α:Type}{o:Option α}{k:α->Prop}{a:α}(e:o=some a)(h:k a):opt o k:=by rw[e];exact h
noncomputable def By(μ:MH)(n:Nat):Option (List V):=match μ[n]? with
 |some o=>(match o with|.list xs=>some xs|_=>none)
 |none=>none
theorem Ba{μ:MH}{n:Nat}{xs:List V}(h:By μ n=some xs):μ[n]?=some (.list xs):=by
 unfold By at h
 revert h
 cases μ[n]? with
 |none=>exact fun h=>nomatch h
 |some o=>induction o with
  |list ys=>exact fun h=>by obtain rfl:=Option.some.inj h;rfl
  |_=>exact fun h=>nomatch h
noncomputable def AZ(μ:MH):Nat->V->Option PyData
 |0,v=>(match v with
  |.none=>some .none
  |.bool b=>some (.bool b)
  |.int i=>some (.int i)
  |.str s=>some (.str (sx s))
  |_=>none)
 |n+1,v=>(match v with
  |.none=>some .none
  |.bool b=>some (.bool b)
  |.int i=>some (.int i)
  |.str s=>some (.str (sx s))
  |.tup l=>(l.mapM (AZ μ n)).map .tuple
  |.l8 a=>(By μ a).bind fun xs=>(xs.mapM (AZ μ n)).map .list
  |_=>none)
noncomputable def sr(μ:MH)(a b:V):Option Bool:=(AZ μ 5 a).bind fun x=>(AZ μ 5 b).map fun y=>PyData.eqv x y
noncomputable def rC(μ:MH)(a b:V):Option Bool:=match a with
 |.int x=>(match b with|.int y=>some (x==y)|_=>sr μ a b)
 |.str x=>(match b with|.str y=>some (x==y)|_=>sr μ a b)
 |.bool x=>(match b with|.bool y=>some (x==y)|_=>sr μ a b)
 |_=>sr μ a b
noncomputable def D2:V->Option Bool
 |.none=>some false
 |.bool b=>some b
 |.int i=>some (i != 0)
 |_=>none
noncomputable def Cx:V->Option Int
 |.int i=>some i
 |_=>none
noncomputable def OM:V->Option Nat
 |.str s=>(match s with|[c]=>some c|_=>none)
 |_=>none
noncomputable def inV(μ:MH)(a b:V):Option Bool:=match b with
 |.str s=>(OM a).map fun c=>decide (c∈s)
 |.tup l=>(match a with
  |.str x=>(Bz l).map fun ss=>ss.any (·==x)
  |.int x=>(Hq l).map fun ns=>ns.any (·==x)
  |_=>none)
 |.l8 n=>(match a with
  |.str x=>(By μ n).bind fun l=>(Bz l).map fun ss=>ss.any (·==x)
  |_=>none)
 |_=>none
noncomputable def bb(a:V):Bool:=match a with|.none=>true|_=>false
noncomputable def Ol(a b:V)(f:Int->Int->Bool):Option Bool:=(Cx a).bind fun x=>(Cx b).map fun y=>f x y
noncomputable def Ij(μ:MH)(op:CmpOp)(a b:V):Option Bool:=match op with
 |.Eq=>rC μ a b
 |.NotEq=>(rC μ a b).map (!·)
 |.Lt=>Ol a b fun x y=>decide (x<y)
 |.LtE=>Ol a b fun x y=>decide (x<=y)
 |.Gt=>Ol a b fun x y=>decide (y<x)
 |.GtE=>Ol a b fun x y=>decide (y<=x)
 |.Is=>(match b with|.none=>some (bb a)|_=>none)
 |.IsNot=>(match b with|.none=>some (!bb a)|_=>none)
 |.In=>inV μ a b
 |_=>none
noncomputable def CV(len:Nat)(i:Int):Option Nat:=
 if 0<=i then(if i<(len:Int)then some i.toNat else Option.none)
 else(if 0<=i+len then some (i+len).toNat else Option.none)
noncomputable def Bn:List (Int×V)->Int->Option V
 |[],_=>Option.none
 |(k,v) :: r,i=>if k=i then some v else Bn r i
noncomputable def OS(l:List V)(i:Int):Option V:=(CV l.length i).bind (l[·]?)
noncomputable def B7(μ:MH)(a b:V):Option V:=(Cx b).bind fun i=>match a with
 |.l8 n=>(match μ[n]? with
  |some o=>(match o with
   |.list xs=>OS xs i
   |.dict kv=>Bn kv i
   |_=>none)
  |none=>none)
 |.tup l=>OS l i
 |.str s=>(CV s.length i).bind fun k=>(s[k]?).map fun c=>.str [c]
 |_=>none
noncomputable def Mj(len:Nat)(d:Nat):V->Option Nat
 |.none=>some d
 |.int i=>some (if 0<=i then min i.toNat len else(i+len).toNat)
 |_=>Option.none
noncomputable def cut{α:Type}(l:List α)(a b:Nat):List α:=(l.take b).drop a
noncomputable def Xw:List (Nat×V)->Nat->Option V
 |[],_=>Option.none
 |(k,v) :: r,a=>if k=a then some v else Xw r a
noncomputable def M9:List (Nat×V)->Nat->V->List (Nat×V)
 |[],a,v=>[(a,v)]
 |(k,w) :: r,a,v=>if k=a then(k,v) :: r else(k,w) :: M9 r a v
noncomputable def AE(c:Nat):List Nat->Int->Int
 |[],_=> -1
 |x :: r,i=>if x=c then i else AE c r (i+1)
noncomputable def BR:Nat->Int->Int->List V
 |0,_,_=>[]
 |k+1,a,st=>.int a :: BR k (a+st) st
noncomputable def Cs(lo hi st:Int):Nat:=
 if 0<st then(if lo<hi then((hi - lo - 1) / st+1).toNat else 0)
 else(if hi<lo then((lo - hi - 1) / (-st)+1).toNat else 0)
noncomputable def C6(μ:MH):V->Option (List V×Option (Nat×List V))
 |.tup l=>some (l,none)
 |.range lo hi st=>some (BR (Cs lo hi st) lo st,none)
 |.str s=>some (s.map fun c=>.str [c],none)
 |.l8 n=>(By μ n).map fun xs=>(xs,some (n,xs))
 |_=>none
def HH(c:Option (Nat×List V))(μ:MH):Prop:=match c with
 |Option.none=>True
 |some (n,xs)=>μ[n]?=some (.list xs)
noncomputable def Ad(env:An)(x:Nat)(v:V):An:=fun y=>if y=x then some v else env y
noncomputable def AG(xs:List Nat)(env:An):An:=fun y=>if xs.contains y then Option.none else env y
noncomputable def CQ:List Nat->List V->An->Option An
 |[],vs,env=>(match vs with|[]=>some env|_ :: _=>Option.none)
 |x :: xs,vs,env=>(match vs with|[]=>Option.none|v :: vs=>CQ xs vs (Ad env x v))
noncomputable def AC(xs:List Nat)(one:Bool)(v:V)(env:An):Option An:=
 match one with
 |true=>CQ xs [v] env
 |false=>(match v with
  |.tup l=>CQ xs l env
  |_=>Option.none)
abbrev Au:=K4->An->MH->Prop
noncomputable def small(x:Int):Bool:=decide (x.natAbs<2 ^ 62)
noncomputable def HF(x:Int):Bool:=decide (x.natAbs<2 ^ 60)
def aj(op:Operator)(x y:Int)(K:Int->Prop):Prop:=match op with
 |.Add=>K (x+y)
 |.Sub=>K (x - y)
 |.Mult=>A7 (small x) (A7 (small y) (K (x*y)))
 |.FloorDiv=>A7 (decide (y≠0)) (A7 (small y) (K (x.fdiv y)))
 |.Mod=>A7 (decide (y≠0)) (K (x.fmod y))
 |.LShift=>A7 (decide (0<=y)) (A7 (decide (y<1000)) (A7 (small x) (K (x*2 ^ y.toNat))))
 |.RShift=>A7 (decide (0<=y)) (K (x.fdiv (2 ^ y.toNat)))
 |.BitAnd=>K (Builtin.bitAnd x y)
 |.BitOr=>K (Builtin.bitOr x y)
 |.BitXor=>K (Builtin.bitXor x y)
 |_=>False
def We(op:Operator)(x y:List Nat)(K:List Nat->Prop):Prop:=match op with
 |.Add=>A7 (decide (x.length+y.length<=lim)) (K (x++y))
 |_=>False
def rep(op:Operator)(l:Nat)(n:Int)(Q:Ae)(μ:MH):Prop:=match op with
 |.Mult=>opt (By μ l) fun xs=>match xs with
  |[x]=>A7 (decide (0<=n)) (A7 (decide (n<=1000)) (Q (.l8 μ.length) (μ++[.list (List.replicate n.toNat x)])))
  |_=>False
 |_=>False
def ak(op:Operator)(a b:V)(Q:Ae)(μ:MH):Prop:=match a with
 |.int x=>(match b with|.int y=>aj op x y fun i=>Q (.int i) μ|_=>False)
 |.str x=>(match b with|.str y=>We op x y fun s=>Q (.str s) μ|_=>False)
 |.l8 l=>(match b with|.int n=>rep op l n Q μ|_=>False)
 |_=>False
def eA(op:Operator)(l m:Nat)(Q:Ae)(μ:MH):Prop:=match op with
 |.Add=>A7 (decide (l≠m)) (opt (By μ l) fun xs=>opt (By μ m) fun ys=>A7 (decide (xs.length+ys.length<=lim)) (Q (.l8 l) (μ.set l (.list (xs++ys)))))
 |_=>False
def TF(op:Operator)(a b:V)(Q:Ae)(μ:MH):Prop:=match a with
 |.int x=>(match b with|.int y=>(match op with|.LShift=>False|.Mod=>False|.BitAnd=>False|_=>aj op x y fun i=>Q (.int i) μ)|_=>False)
 |.str x=>(match b with|.str y=>We op x y fun s=>Q (.str s) μ|_=>False)
 |.l8 l=>(match b with|.l8 m=>eA op l m Q μ|_=>False)
 |_=>False
def unW(op:UnaryOp)(a:V)(Q:V->Prop):Prop:=match a with
 |.int x=>(match op with|.USub=>Q (.int (-x))|.Invert=>Q (.int (-x - 1))|_=>False)
 |_=>False
def gh(v:V)(μ:MH)(K:Nat->Prop):Prop:=match v with
 |.str s=>K s.length
 |.l8 n=>opt (By μ n) fun xs=>K xs.length
 |.tup l=>K l.length
 |_=>False
noncomputable def one:List V->Option V
 |[v]=>some v
 |_=>none
noncomputable def two:List V->Option (V×V)
 |[v,w]=>some (v,w)
 |_=>none
noncomputable def ub:List V->Option (V×V×V)
 |[v,w,u]=>some (v,w,u)
 |_=>none
theorem bV{as:List V}{v:V}(h:one as=some v):as=[v]:=by
 unfold one at h;split at h
 ·obtain rfl:=Option.some.inj h;rfl
 ·exact Ao h
theorem dA{as:List V}{p:V×V}(h:two as=some p):as=[p.1,p.2]:=by
 unfold two at h;split at h
 ·obtain rfl:=Option.some.inj h;rfl
 ·exact Ao h
theorem du{as:List V}{p:V×V×V}(h:ub as=some p):as=[p.1,p.2.1,p.2.2]:=by
 unfold ub at h;split at h
 ·obtain rfl:=Option.some.inj h;rfl
 ·exact Ao h
theorem Fa{v:V}{i:Int}(h:Cx v=some i):v=.int i:=by induction v using V.casesOn<;>cases h;rfl
theorem Kk{v:V}{c:Nat}(h:OM v=some c):v=.str [c]:=by
 induction v using V.casesOn with
 |str s=>
  match s,h with
  |[d],h=>obtain rfl:=Option.some.inj h;rfl
  |[],h=>exact Ao h
  |_ :: _ :: _,h=>exact Ao h
 |_=>exact Ao h
def Qj(as:List V)(Q:Ae)(μ:MH):Prop:=match as.length with
  |1=>opt (one as) fun v=>opt (Cx v) fun n=>A7 (HF n) (Q (.range 0 n 1) μ)
  |2=>opt (two as) fun p=>opt (Cx p.1) fun a=>opt (Cx p.2) fun b=>A7 (HF a) (A7 (HF b) (Q (.range a b 1) μ))
  |3=>opt (ub as) fun p=>opt (Cx p.1) fun a=>opt (Cx p.2.1) fun b=>opt (Cx p.2.2) fun c=>A7 (decide (c≠0)) (A7 (HF a) (A7 (HF b) (A7 (HF c) (Q (.range a b c) μ))))
  |_=>False
def dP(f:Nat)(as:List V)(Q:Ae)(μ:MH):Prop:=match f with
 |0=>opt (one as) fun v=>gh v μ fun n=>Q (.int n) μ
 |1=>opt (one as) fun v=>opt (Cx v) fun i=>Q (.int i.natAbs) μ
 |2=>opt (two as) fun p=>opt (Cx p.1) fun i=>opt (Cx p.2) fun j=>Q (.int (if i<j then j else i)) μ
 |3=>opt (one as) fun v=>opt (Cx v) fun i=>A7 (decide (0<=i)) (A7 (decide (i<10)) (Q (.str [48+i.toNat]) μ))
 |4=>Qj as Q μ
 |_=>False
noncomputable def Eh:List V->Option (List V×V)
 |[]=>none
 |[x]=>some ([],x)
 |x :: y :: r=>(Eh (y :: r)).map fun p=>(x :: p.1,p.2)
def U6(o:V)(f:Nat)(as:List V)(Q:Ae)(μ:MH):Prop:=match o with
 |.l8 n=>(match f with
  |0=>opt (one as) fun v=>opt (By μ n) fun xs=>A7 (decide (xs.length<lim)) (Q .none (μ.set n (.list (xs++[v]))))
  |1=>A7 as.isEmpty (opt (By μ n) fun xs=>opt (Eh xs) fun p=>Q p.2 (μ.set n (.list p.1)))
  |_=>False)
 |.str s=>(match f with
  |2=>opt (one as) fun v=>opt (OM v) fun c=>Q (.int (AE c s 0)) μ
  |3=>A7 as.isEmpty (opt (OM (.str s)) fun c=>A7 (decide (65<=c)) (A7 (decide (c<=90)) (Q (.str [c+32]) μ)))
  |4=>A7 s.isEmpty (opt (one as) fun v=>(match v with|.l8 n=>opt (By μ n) fun xs=>opt (Bz xs) fun ss=>A7 (decide (ss.flatten.length<=lim)) (Q (.str ss.flatten) μ)|_=>False))
  |_=>False)
 |_=>False
noncomputable def ZU(o:V)(f:Nat)(μ:MH):Bool:=match o with
 |.l8 n=>decide (f<2)&&(By μ n).isSome
 |.str _=>decide (2<=f)&&decide (f<5)
 |_=>false
def V5(o lo hi:V)(Q:Ae)(μ:MH):Prop:=match o with
 |.str s=>opt (Mj s.length 0 lo) fun a=>opt (Mj s.length s.length hi) fun b=>Q (.str (cut s a b)) μ
 |.mT l=>opt (Mj l.length 0 lo) fun a=>opt (Mj l.length l.length hi) fun b=>Q (.l8 μ.length) (μ++[.list (cut l a b)])
 |.l8 n=>opt (By μ n) fun l=>opt (Mj l.length 0 lo) fun a=>opt (Mj l.length l.length hi) fun b=>Q (.l8 μ.length) (μ++[.list (cut l a b)])
 |_=>False
noncomputable def UF(μ:MH)(n:Nat):Option (Nat×List (Nat×V)):=match μ[n]? with
 |some o=>(match o with|.inst c fs=>some (c,fs)|_=>none)
 |none=>none
theorem Ln{μ:MH}{n:Nat}{p:Nat×List (Nat×V)}(h:UF μ n=some p):μ[n]?=some (.inst p.1 p.2):=by
 unfold UF at h
 revert h
 cases μ[n]? with
 |none=>exact fun h=>nomatch h
 |some o=>induction o with
  |inst c fs=>exact fun h=>by obtain rfl:=Option.some.inj h;rfl
  |_=>exact fun h=>nomatch h
noncomputable def QQ(μ:MH)(o:V)(a:Nat):Option V:=match o with
 |.l8 n=>(UF μ n).bind fun p=>Xw p.2 a
 |_=>none
def Kh(o:V)(a:Nat)(v:V)(Q:MH->Prop)(μ:MH):Prop:=match o with
 |.l8 n=>opt (UF μ n) fun p=>A7 (decide (p.2.length<900)) (Q (μ.set n (.inst p.1 (M9 p.2 a v))))
 |_=>False
def Nd(o i v:V)(Q:MH->Prop)(μ:MH):Prop:=match o with
 |.l8 n=>(match i with|.int k=>opt (By μ n) fun xs=>A7 (decide (0<=k)) (A7 (decide (k<xs.length)) (Q (μ.set n (.list (xs.set k.toNat v)))))|_=>False)
 |_=>False
def nH(c:Option (Nat×List V))(μ:MH)(p:Prop):Prop:=match c with
 |none=>p
 |some (n,xs)=>μ[n]?=some (.list xs)/\p
theorem A2{c:Option (Nat×List V)}{μ:MH}{p:Prop}(h:nH c μ p):HH c μ/\p:=by
 cases c with
 |none=>exact⟨trivial,h⟩
 |some c=>exact h
def BA(c:Option (Nat×List V))(step:V->Au->An->MH->Prop):List V->Au->An->MH->Prop
 |[],Q,env,μ=>nH c μ (Q .next env μ)
 |v :: r,Q,env,μ=>nH c μ (step v (fun fl env' μ'=>match fl with
   |.ret w=>Q (.ret w) env' μ'
   |_=>BA c step r Q env' μ') env μ)
def EI(test:(Bool->MH->Prop)->An->MH->Prop)(body:Au->An->MH->Prop):Nat->Au->An->MH->Prop
 |0,_,_,_=>False
 |n+1,Q,env,μ=>test (fun b μ'=>p9 b (body (fun fl env' oh=>match fl with
   |.ret w=>Q (.ret w) env' oh
   |_=>EI test body n Q env' oh) env μ') (Q .next env μ')) env μ
@[irreducible] noncomputable def Xr(c:Option (Nat×List V))(step:V->Au->An->MH->Prop)(l:List V)(Q:Au)(env:An)(μ:MH):Prop:=BA c step l Q env μ
theorem Rj(c:Option (Nat×List V))(step:V->Au->An->MH->Prop)(l:List V)(Q:Au)(env:An)(μ:MH):Xr c step l Q env μ=BA c step l Q env μ:=by unfold Xr;rfl
@[irreducible] noncomputable def Nr(test:(Bool->MH->Prop)->An->MH->Prop)(body:Au->An->MH->Prop)(n:Nat)(Q:Au)(env:An)(μ:MH):Prop:=EI test body n Q env μ
theorem LT(test:(Bool->MH->Prop)->An->MH->Prop)(body:Au->An->MH->Prop)(n:Nat)(Q:Au)(env:An)(μ:MH):Nr test body n Q env μ=EI test body n Q env μ:=by unfold Nr;rfl
def Dr(c:Option (Nat×List V))(r:Nat)(cond:V->(Bool->MH->Prop)->MH->Prop)(elt:V->Ae->MH->Prop):List V->(MH->Prop)->MH->Prop
 |[],Q,μ=>nH c μ (Q μ)
 |v :: t,Q,μ=>nH c μ (cond v (fun b μ'=>p9 b (
   elt v (fun w oh=>opt (By oh r) fun xs=>A7 (decide (xs.length<lim)) (Dr c r cond elt t Q (oh.set r (.list (xs++[w]))))) μ')
   (Dr c r cond elt t Q μ')) μ)
def Hn(c:Option (Nat×List V))(inner:V->(MH->Prop)->MH->Prop):List V->(MH->Prop)->MH->Prop
 |[],Q,μ=>nH c μ (Q μ)
 |v :: t,Q,μ=>nH c μ (inner v (fun μ'=>Hn c inner t Q μ') μ)
@[irreducible] noncomputable def OT(μ:MH)(o i:V):Option V:=B7 μ o i
theorem IN(μ:MH)(o i:V):OT μ o i=B7 μ o i:=by unfold OT;rfl
noncomputable def PE(o:Option MO):Bool:=match o with|some (.dict [])=>true|_=>false
noncomputable def ZP(a:V)(kv:List (Int×V)):Option Int:=match a with
 |.int i=>(match kv.all fun p=>decide (p.1≠i)with|true=>some i|false=>none)
 |_=>none
noncomputable def Rc(hd:Bool)(c:Nat):Nat:=match hd with|true=>c+10|false=>c
noncomputable def DX(raised clause:Nat):Bool:=raised % 10==clause||(raised % 10==3&&clause==2)
noncomputable def Ht:MS->Bool
 |.seq a b=>(match a with|.ret e=>(match e with|.none=>(match b with|.skip=>true|_=>false)|_=>false)|_=>false)
 |_=>false
section
variable(G:Nat->Option V)(Φ:Az)
mutual
def we(env:An):ME->Ae->As->MH->Prop
 |.int i,Q,_,μ=>Q (.int i) μ
 |.str s,Q,_,μ=>Q (.str s) μ
 |.bool b,Q,_,μ=>Q (.bool b) μ
 |.none,Q,_,μ=>Q .none μ
 |.l8 x,Q,_,μ=>opt (env x) fun v=>Q v μ
 |.l9 x,Q,_,μ=>opt (G x) fun v=>Q v μ
 |.bin op a b,Q,X,μ=>we env a (fun u μ₁=>we env b (fun v μ₂=>ak op u v Q μ₂) X μ₁) X μ
 |.un op a,Q,X,μ=>match op with
  |.Not=>we env a (fun u μ₁=>opt (D2 u) fun b=>Q (.bool (!b)) μ₁) X μ
  |op=>we env a (fun u μ₁=>unW op u fun v=>Q v μ₁) X μ
 |.and a b,Q,X,μ=>we env a (fun u μ₁=>opt (D2 u) fun c=>p9 c (we env b Q X μ₁) (Q u μ₁)) X μ
 |.or a b,Q,X,μ=>we env a (fun u μ₁=>opt (D2 u) fun c=>p9 c (Q u μ₁) (we env b Q X μ₁)) X μ
 |.cmp a op b,Q,X,μ=>we env a (fun u μ₁=>we env b (fun v μ₂=>opt (Ij μ₂ op u v) fun c=>Q (.bool c) μ₂) X μ₁) X μ
 |.oI a sD b sE c,Q,X,μ=>we env a (fun u μ₁=>we env b (fun v μ₂=>opt (Ij μ₂ sD u v) fun r=>
   p9 r (we env c (fun w μ₃=>opt (Ij μ₃ sE v w) fun q=>Q (.bool q) μ₃) X μ₂) (Q (.bool false) μ₂)) X μ₁) X μ
 |.ite t a b,Q,X,μ=>wt env t (fun c μ₁=>p9 c (we env a Q X μ₁) (we env b Q X μ₁)) X μ
 |.call f as,Q,X,μ=>wl env as (fun vs μ₁=>Φ f vs Q X μ₁) X μ
 |.blt f as,Q,X,μ=>wl env as (fun vs μ₁=>dP f vs Q μ₁) X μ
 |.mG o f as,Q,X,μ=>we env o (fun u μ₁=>A7 (ZU u f μ₁) (wl env as (fun vs μ₂=>U6 u f vs Q μ₂) X μ₁)) X μ
 |.attr o a,Q,X,μ=>we env o (fun u μ₁=>opt (QQ μ₁ u a) fun v=>Q v μ₁) X μ
 |.sub o i,Q,X,μ=>we env o (fun u μ₁=>we env i (fun v μ₂=>opt (OT μ₂ u v) fun w=>Q w μ₂) X μ₁) X μ
 |.slice o lo hi,Q,X,μ=>we env o (fun u μ₁=>we env lo (fun v μ₂=>we env hi (fun w μ₃=>V5 u v w Q μ₃) X μ₂) X μ₁) X μ
 |.list es,Q,X,μ=>wl env es (fun vs μ₁=>A7 (decide (vs.length<=lim)) (Q (.l8 μ₁.length) (μ₁++[.list vs]))) X μ
 |.tup es,Q,X,μ=>wl env es (fun vs μ₁=>A7 (decide (vs.length<=lim)) (Q (.tup vs) μ₁)) X μ
 |.dict es,Q,X,μ=>wd env es (fun kv μ₁=>A7 (PE μ₁[μ.length]?) (A7 (decide (kv.length<=15)) (Q (.l8 μ.length) (μ₁.set μ.length (.dict kv))))) X (μ++[.dict []])
 |.comp elt xs one it cond,Q,X,μ=>we env it (fun s μ₁=>opt (C6 μ₁ s) fun p=>
   Dr p.2 μ₁.length (fun v K μ'=>opt (AC xs one v (AG xs env)) fun e=>wt e cond K (fun _ _=>False) μ')
    (fun v K μ'=>opt (AC xs one v (AG xs env)) fun e=>we e elt K (fun _ _=>False) μ') p.1 (Q (.l8 μ₁.length)) (μ₁++[.list []])) X μ
 |.n9 elt x1 pC x2 oa,Q,X,μ=>we env pC (fun s μ₁=>opt (C6 μ₁ s) fun p=>
   Hn p.2 (fun v K μ'=>we (Ad (AG [x1,x2] env) x1 v) oa (fun s2 μ₂=>opt (C6 μ₂ s2) fun p2=>
    Dr p2.2 μ₁.length (fun _ K' oh=>K' true oh) (fun v2 K' oh=>we (Ad (Ad (AG [x1,x2] env) x1 v) x2 v2) elt K' (fun _ _=>False) oh) p2.1 K μ₂) (fun _ _=>False) μ')
    p.1 (Q (.l8 μ₁.length)) (μ₁++[.list []])) X μ
 |.nil,_,_,_=>False
 |.cons _ _,_,_,_=>False
def wt(env:An):ME->(Bool->MH->Prop)->As->MH->Prop
 |.un op a,Q,X,μ=>match op with
  |.Not=>wt env a (fun b μ₁=>Q (!b) μ₁) X μ
  |_=>False
 |.and a b,Q,X,μ=>wt env a (fun c μ₁=>p9 c (wt env b Q X μ₁) (Q false μ₁)) X μ
 |.or a b,Q,X,μ=>wt env a (fun c μ₁=>p9 c (Q true μ₁) (wt env b Q X μ₁)) X μ
 |.ite t a b,Q,X,μ=>wt env t (fun c μ₁=>p9 c (wt env a Q X μ₁) (wt env b Q X μ₁)) X μ
 |.cmp a op b,Q,X,μ=>we env a (fun u μ₁=>we env b (fun v μ₂=>opt (Ij μ₂ op u v) fun c=>Q c μ₂) X μ₁) X μ
 |.oI a sD b sE c,Q,X,μ=>we env a (fun u μ₁=>we env b (fun v μ₂=>opt (Ij μ₂ sD u v) fun r=>
   p9 r (we env c (fun w μ₃=>opt (Ij μ₃ sE v w) fun q=>Q q μ₃) X μ₂) (Q false μ₂)) X μ₁) X μ
 |.bool b,Q,_,μ=>Q b μ
 |.l8 x,Q,_,μ=>opt (env x) fun v=>opt (D2 v) fun c=>Q c μ
 |.bin op a b,Q,X,μ=>we env a (fun u μ₁=>we env b (fun v μ₂=>ak op u v (fun w μ₃=>opt (D2 w) fun c=>Q c μ₃) μ₂) X μ₁) X μ
 |.call f as,Q,X,μ=>wl env as (fun vs μ₁=>Φ f vs (fun w μ₃=>opt (D2 w) fun c=>Q c μ₃) X μ₁) X μ
 |.attr o a,Q,X,μ=>we env o (fun u μ₁=>opt (QQ μ₁ u a) fun v=>opt (D2 v) fun c=>Q c μ₁) X μ
 |.int _,_,_,_=>False
 |.str _,_,_,_=>False
 |.none,_,_,_=>False
 |.l9 _,_,_,_=>False
 |.blt _ _,_,_,_=>False
 |.mG _ _ _,_,_,_=>False
 |.sub _ _,_,_,_=>False
 |.slice _ _ _,_,_,_=>False
 |.list _,_,_,_=>False
 |.tup _,_,_,_=>False
 |.dict _,_,_,_=>False
 |.comp _ _ _ _ _,_,_,_=>False
 |.n9 _ _ _ _ _,_,_,_=>False
 |.nil,_,_,_=>False
 |.cons _ _,_,_,_=>False
def wl(env:An):ME->(List V->MH->Prop)->As->MH->Prop
 |.nil,Q,_,μ=>Q [] μ
 |.cons e r,Q,X,μ=>we env e (fun v μ₁=>wl env r (fun vs μ₂=>Q (v :: vs) μ₂) X μ₁) X μ
 |_,_,_,_=>False
def wd(env:An):ME->(List (Int×V)->MH->Prop)->As->MH->Prop
 |.nil,Q,_,μ=>Q [] μ
 |.cons e r,Q,X,μ=>match e with
  |.cons k v=>we env k (fun a μ₁=>we env v (fun b μ₂=>wd env r (fun kv μ₃=>opt (ZP a kv) fun i=>Q ((i,b) :: kv) μ₃) X μ₂) X μ₁) X μ
  |_=>False
 |_,_,_,_=>False
end
end
section
variable(G:Nat->Option V)(Φ:Bool->Az)
def ws:Bool->MS->Au->As->An->MH->Prop
 |_,.skip,Q,_,env,μ=>Q .next env μ
 |hd,.seq a b,Q,X,env,μ=>ws hd a (fun fl env' μ'=>match fl with
   |.next=>ws hd b Q X env' μ'
   |f=>Q f env' μ') X env μ
 |hd,.assign x e,Q,X,env,μ=>we G (Φ hd) env e (fun v μ'=>Q .next (Ad env x v) μ') X μ
 |hd,.mA xs e,Q,X,env,μ=>we G (Φ hd) env e (fun v μ'=>opt (AC xs false v env) fun env'=>Q .next env' μ') X μ
 |hd,.setAttr o a e,Q,X,env,μ=>we G (Φ hd) env e (fun v μ₁=>we G (Φ hd) env o (fun u μ₂=>Kh u a v (Q .next env) μ₂) X μ₁) X μ
 |hd,.nA o i e,Q,X,env,μ=>we G (Φ hd) env e (fun v μ₁=>we G (Φ hd) env o (fun u μ₂=>we G (Φ hd) env i (fun k μ₃=>Nd u k v (Q .next env) μ₃) X μ₂) X μ₁) X μ
 |hd,.aug x op e,Q,X,env,μ=>opt (env x) fun u=>we G (Φ hd) env e (fun v μ₁=>TF op u v (fun w μ₂=>Q .next (Ad env x w) μ₂) μ₁) X μ
 |hd,.mH o a op e,Q,X,env,μ=>we G (Φ hd) env o (fun u μ₁=>opt (QQ μ₁ u a) fun w=>we G (Φ hd) env e (fun v μ₂=>TF op w v (fun y μ₃=>Kh u a y (Q .next env) μ₃) μ₂) X μ₁) X μ
 |hd,.mS o i op e,Q,X,env,μ=>we G (Φ hd) env o (fun u μ₁=>we G (Φ hd) env i (fun k μ₂=>opt (OT μ₂ u k) fun w=>we G (Φ hd) env e (fun v μ₃=>TF op w v (fun y μ₄=>Nd u k y (Q .next env) μ₄) μ₃) X μ₂) X μ₁) X μ
 |hd,.expr e,Q,X,env,μ=>we G (Φ hd) env e (fun _ μ'=>Q .next env μ') X μ
 |hd,.ret e,Q,X,env,μ=>we G (Φ hd) env e (fun v μ'=>Q (.ret v) env μ') X μ
 |_,.cont,Q,_,env,μ=>Q .cont env μ
 |hd,.ite t a b,Q,X,env,μ=>wt G (Φ hd) env t (fun c μ'=>p9 c (ws hd a Q X env μ') (ws hd b Q X env μ')) X μ
 |hd,.mB xs one it body,Q,X,env,μ=>we G (Φ hd) env it (fun s μ₁=>opt (C6 μ₁ s) fun p=>
   Xr p.2 (fun v K env' μ'=>opt (AC xs one v env') fun e=>ws hd body K X e μ') p.1 Q env μ₁) X μ
 |hd,.nt t body,Q,X,env,μ=>Nr (fun K env' μ'=>wt G (Φ hd) env' t K X μ') (fun K env' μ'=>ws hd body K X env' μ') 100 Q env μ
 |hd,.raise c e,_,X,env,μ=>A7 (decide (1<=c)) (A7 (decide (c<=3)) (we G (Φ hd) env e (fun v μ'=>match v with|.str _=>X (Rc hd c) μ'|_=>False) X μ))
 |hd,.nB e c h,Q,X,env,μ=>A7 (!hd) (we G (Φ false) env e (fun v μ'=>Q (.ret v) env μ') (fun r μ'=>p9 (DX r c) (A7 (decide (r<10)||Ht h) (ws true h Q X env μ')) (X r μ')) μ)
end
noncomputable def Ak(G:Nat->Option V)(prog:Nat->Option rn):Nat->Bool->Az
 |0,_=>fun _ _ _ _ _=>False
 |n+1,hd=>fun f vs Q X μ=>opt (prog f) fun F=>match F with
  |.fn ps body=>opt (CQ ps vs (fun _=>none)) fun env=>ws G (Ak G prog n) hd body (fun fl _ μ'=>match fl with
     |.ret v=>Q v μ'
     |.next=>Q .none μ'
     |.cont=>False) X env μ
  |.cls c ps body=>opt (CQ ps (.l8 μ.length :: vs) (fun _=>none)) fun env=>ws G (Ak G prog n) hd body (fun fl _ μ'=>match fl with
     |.next=>Q (.l8 μ.length) μ'
     |_=>False) (fun _ _=>False) env (μ++[.inst c []])
noncomputable def L3:MS:=(.seq (.ret (.bin .Add (.bin .Mult (.l8 0) (.int 8)) (.l8 1))) .skip)
noncomputable def Sf:MS:=(.seq (.ret (.bin .RShift (.l8 3) (.int 3))) .skip)
noncomputable def Sb:MS:=(.seq (.ret (.bin .BitAnd (.l8 3) (.int 7))) .skip)
noncomputable def Pg:MS:=(.seq (.ret (.and (.oI (.int 0) .Lt (.l8 6) .Lt (.int 15)) (.and (.cmp (.l8 6) .NotEq (.int 7)) (.cmp (.l8 6) .NotEq (.int 8))))) .skip)
noncomputable def NI:MS:=(.seq (.ite (.and (.cmp (.l8 3) .NotEq (.l9 9)) (.un .Not (.call 7 (.cons (.l8 3) .nil)))) (.seq (.raise 5 (.l8 3)) .skip) .skip) (.seq (.ret (.sub (.l9 8) (.l8 3))) .skip))
noncomputable def NK:MS:=(.seq (.assign 15 (.int 0)) (.seq (.ite (.cmp (.l8 13) .Eq (.l9 16)) (.seq (.assign 15 (.bin .Sub (.l8 14) (.l9 17))) .skip) .skip) (.seq (.ret (.bin .BitOr (.bin .BitOr (.bin .BitOr (.l8 12) (.bin .LShift (.l8 11) (.int 6))) (.bin .LShift (.l8 15) (.int 12))) (.bin .LShift (.l8 13) (.int 14)))) .skip)))
noncomputable def NJ:MS:=(.seq (.ret (.bin .BitAnd (.bin .RShift (.l8 19) (.int 6)) (.int 63))) .skip)
noncomputable def Sd:MS:=(.seq (.ret (.bin .BitAnd (.l8 19) (.int 63))) .skip)
noncomputable def Jb:MS:=(.seq (.ret (.bin .BitAnd (.bin .RShift (.l8 19) (.int 14)) (.int 3))) .skip)
noncomputable def L4:MS:=(.seq (.ite (.cmp (.bin .BitAnd (.bin .RShift (.l8 19) (.int 14)) (.int 3)) .NotEq (.l9 16)) (.seq (.ret (.l9 23)) .skip) .skip) (.seq (.ret (.bin .Add (.bin .BitAnd (.bin .RShift (.l8 19) (.int 12)) (.int 3)) (.l9 17))) .skip))
noncomputable def Ia:MS:=(.seq (.ret (.cmp (.bin .BitAnd (.l8 25) (.bin .Sub (.l8 25) (.int 1))) .NotEq (.int 0))) .skip)
noncomputable def Sa:MS:=(.seq (.ite (.cmp (.l8 25) .Eq (.int 0)) (.seq (.ret (.un .USub (.int 1))) .skip) .skip) (.seq (.assign 28 (.int 1)) (.seq (.nt (.bin .RShift (.l8 25) (.l8 28)) (.seq (.aug 28 .Mult (.int 2)) .skip)) (.seq (.assign 27 (.int 0)) (.seq (.nt (.cmp (.l8 28) .Gt (.int 1)) (.seq (.aug 28 .FloorDiv (.int 2)) (.seq (.ite (.bin .RShift (.l8 25) (.l8 28)) (.seq (.aug 25 .RShift (.l8 28)) (.seq (.aug 27 .Add (.l8 28)) .skip)) .skip) .skip))) (.seq (.ret (.l8 27)) .skip))))))
noncomputable def TH:MS:=(.seq (.ret (.call 29 (.cons (.bin .BitAnd (.l8 25) (.un .USub (.l8 25))) .nil))) .skip)
noncomputable def Mb:MS:=(.seq (.assign 31 (.list .nil)) (.seq (.assign 27 (.int 0)) (.seq (.nt (.l8 25) (.seq (.nt (.un .Not (.bin .BitAnd (.l8 25) (.int 15))) (.seq (.aug 25 .RShift (.int 4)) (.seq (.aug 27 .Add (.int 4)) .skip))) (.seq (.ite (.bin .BitAnd (.l8 25) (.int 1)) (.seq (.expr (.mG (.l8 31) 0 (.cons (.l8 27) .nil))) .skip) .skip) (.seq (.aug 25 .RShift (.int 1)) (.seq (.aug 27 .Add (.int 1)) .skip))))) (.seq (.ret (.l8 31)) .skip))))
noncomputable def NF:MS:=(.seq (.mB [35] true (.blt 4 (.cons (.int 8) .nil)) (.seq (.ite (.bin .BitAnd (.bin .RShift (.sub (.sub (.attr (.l8 33) 36) (.l8 35)) (.l8 34)) (.l8 25)) (.int 1)) (.seq (.ret (.l8 35)) .skip) .skip) .skip)) (.seq (.ret (.un .USub (.int 1))) .skip))
noncomputable def R8:MS:=(.seq (.assign 35 (.call 37 (.cons (.l8 33) (.cons (.l8 34) (.cons (.l8 25) .nil))))) (.seq (.ite (.cmp (.l8 35) .Lt (.int 0)) (.seq (.ret (.int 0)) .skip) .skip) (.seq (.ret (.bin .BitAnd (.sub (.sub (.attr (.l8 33) 36) (.l8 35)) (.l8 34)) (.sub (.sub (.attr (.l8 33) 36) (.bin .BitXor (.l8 35) (.int 2))) (.l8 25)))) .skip)))
noncomputable def ag:MS:=(.seq (.assign 35 (.call 37 (.cons (.l8 33) (.cons (.l8 34) (.cons (.l8 25) .nil))))) (.seq (.ite (.cmp (.l8 35) .Lt (.int 0)) (.seq (.ret (.int 0)) .skip) .skip) (.seq (.ret (.bin .BitOr (.bin .BitOr (.sub (.sub (.attr (.l8 33) 36) (.l8 35)) (.l8 34)) (.sub (.sub (.attr (.l8 33) 36) (.bin .BitXor (.l8 35) (.int 2))) (.l8 34))) (.bin .LShift (.int 1) (.l8 34)))) .skip)))
noncomputable def R7:MS:=(.seq (.ret (.cmp (.bin .BitAnd (.bin .RShift (.call 39 (.cons (.l8 33) (.cons (.l8 34) (.cons (.l8 25) .nil)))) (.l8 40)) (.int 1)) .Eq (.int 1))) .skip)
noncomputable def L1:MS:=(.seq (.ret (.or (.cmp (.sub (.l9 42) (.l8 35)) .Gt (.int 0)) (.cmp (.l8 35) .Eq (.int 1)))) .skip)
noncomputable def NC:MS:=(.seq (.assign 51 (.bin .Sub (.bin .LShift (.int 1) (.attr (.l8 33) 45)) (.int 1))) (.seq (.assign 47 (.int 0)) (.seq (.mB [48] true (.blt 4 (.cons (.attr (.l8 33) 49) .nil)) (.seq (.expr (.mG (.attr (.l8 33) 50) 0 (.cons (.bin .LShift (.l8 51) (.bin .Mult (.l8 48) (.attr (.l8 33) 45))) .nil))) (.seq (.aug 47 .BitOr (.bin .LShift (.int 1) (.bin .Mult (.l8 48) (.attr (.l8 33) 45)))) .skip))) (.seq (.mB [44] true (.blt 4 (.cons (.attr (.l8 33) 45) .nil)) (.seq (.expr (.mG (.attr (.l8 33) 46) 0 (.cons (.bin .LShift (.l8 47) (.l8 44)) .nil))) .skip)) .skip))))
noncomputable def H8:MS:=(.seq (.assign 54 (.int 0)) (.seq (.ite (.cmp (.sub (.l9 55) (.l8 35)) .Gt (.int 0)) (.seq (.aug 54 .BitOr (.sub (.attr (.l8 33) 46) (.bin .Sub (.attr (.l8 33) 45) (.int 1)))) .skip) .skip) (.seq (.ite (.cmp (.sub (.l9 55) (.l8 35)) .Lt (.int 0)) (.seq (.aug 54 .BitOr (.sub (.attr (.l8 33) 46) (.int 0))) .skip) .skip) (.seq (.ite (.cmp (.sub (.l9 42) (.l8 35)) .Gt (.int 0)) (.seq (.aug 54 .BitOr (.sub (.attr (.l8 33) 50) (.bin .Sub (.attr (.l8 33) 49) (.int 1)))) .skip) .skip) (.seq (.ite (.cmp (.sub (.l9 42) (.l8 35)) .Lt (.int 0)) (.seq (.aug 54 .BitOr (.sub (.attr (.l8 33) 50) (.int 0))) .skip) .skip) (.seq (.ret (.bin .BitAnd (.attr (.l8 33) 53) (.un .Invert (.l8 54)))) .skip))))))
noncomputable def Pb:MS:=(.seq (.setAttr (.l8 33) 60 (.bin .Mult (.list (.cons (.int 0) .nil)) (.attr (.l8 33) 63))) (.seq (.mB [35] true (.blt 4 (.cons (.int 8) .nil)) (.seq (.assign 59 (.call 56 (.cons (.l8 33) (.cons (.l8 35) .nil)))) (.seq (.assign 62 (.bin .Add (.bin .Mult (.sub (.l9 42) (.l8 35)) (.attr (.l8 33) 45)) (.sub (.l9 55) (.l8 35)))) (.seq (.assign 57 (.bin .Mult (.list (.cons (.int 0) .nil)) (.attr (.l8 33) 63))) (.seq (.assign 58 (.blt 4 (.cons (.attr (.l8 33) 63) .nil))) (.seq (.ite (.call 43 (.cons (.l8 35) .nil)) (.seq (.assign 58 (.blt 4 (.cons (.bin .Sub (.attr (.l8 33) 63) (.int 1)) (.cons (.un .USub (.int 1)) (.cons (.un .USub (.int 1)) .nil))))) .skip) .skip) (.seq (.mB [27] true (.l8 58) (.seq (.ite (.bin .BitAnd (.bin .RShift (.l8 59) (.l8 27)) (.int 1)) (.seq (.assign 61 (.bin .Add (.l8 27) (.l8 62))) (.seq (.nA (.l8 57) (.l8 27) (.bin .BitOr (.sub (.l8 57) (.l8 61)) (.bin .LShift (.int 1) (.l8 61)))) (.seq (.mS (.attr (.l8 33) 60) (.l8 27) .BitOr (.bin .LShift (.int 1) (.l8 61))) .skip))) .skip) .skip)) (.seq (.expr (.mG (.attr (.l8 33) 36) 0 (.cons (.l8 57) .nil))) .skip)))))))) .skip))
noncomputable def ND:MS:=(.seq (.mB [27] true (.blt 4 (.cons (.attr (.l8 33) 63) .nil)) (.seq (.expr (.mG (.sub (.attr (.l8 33) 65) (.int 0)) 0 (.cons (.bin .BitAnd (.sub (.attr (.l8 33) 60) (.l8 27)) (.bin .BitOr (.sub (.sub (.attr (.l8 33) 36) (.int 4)) (.l8 27)) (.sub (.sub (.attr (.l8 33) 36) (.int 7)) (.l8 27)))) .nil))) (.seq (.expr (.mG (.sub (.attr (.l8 33) 65) (.int 1)) 0 (.cons (.bin .BitAnd (.sub (.attr (.l8 33) 60) (.l8 27)) (.bin .BitOr (.sub (.sub (.attr (.l8 33) 36) (.int 5)) (.l8 27)) (.sub (.sub (.attr (.l8 33) 36) (.int 6)) (.l8 27)))) .nil))) .skip))) .skip)
noncomputable def Kx:MS:=(.seq (.assign 45 (.attr (.l8 33) 45)) (.seq (.assign 73 (.bin .BitAnd (.attr (.l8 33) 53) (.un .Invert (.sub (.attr (.l8 33) 46) (.int 0))))) (.seq (.assign 74 (.bin .BitAnd (.attr (.l8 33) 53) (.un .Invert (.sub (.attr (.l8 33) 46) (.bin .Sub (.l8 45) (.int 1)))))) (.seq (.assign 71 (.bin .BitAnd (.l8 73) (.un .Invert (.sub (.attr (.l8 33) 46) (.int 1))))) (.seq (.assign 72 (.bin .BitAnd (.l8 74) (.un .Invert (.sub (.attr (.l8 33) 46) (.bin .Sub (.l8 45) (.int 2)))))) (.seq (.mB [27] true (.blt 4 (.cons (.attr (.l8 33) 63) .nil)) (.seq (.assign 25 (.bin .LShift (.int 1) (.l8 27))) (.seq (.assign 69 (.bin .BitOr (.bin .BitAnd (.bin .LShift (.l8 25) (.int 1)) (.l8 73)) (.bin .BitAnd (.bin .RShift (.l8 25) (.int 1)) (.l8 74)))) (.seq (.assign 70 (.bin .BitOr (.bin .BitAnd (.bin .LShift (.l8 25) (.int 2)) (.l8 71)) (.bin .BitAnd (.bin .RShift (.l8 25) (.int 2)) (.l8 72)))) (.seq (.assign 68 (.bin .BitOr (.bin .BitOr (.bin .BitOr (.bin .LShift (.l8 69) (.bin .Mult (.int 2) (.l8 45))) (.bin .RShift (.l8 69) (.bin .Mult (.int 2) (.l8 45)))) (.bin .LShift (.l8 70) (.l8 45))) (.bin .RShift (.l8 70) (.l8 45)))) (.seq (.expr (.mG (.attr (.l8 33) 67) 0 (.cons (.bin .BitAnd (.l8 68) (.attr (.l8 33) 53)) .nil))) .skip)))))) .skip))))))
noncomputable def Kw:MS:=(.seq (.setAttr (.l8 33) 80 (.bin .Mult (.list (.cons (.int 0) .nil)) (.attr (.l8 33) 63))) (.seq (.assign 82 (.bin .FloorDiv (.attr (.l8 33) 45) (.int 2))) (.seq (.mB [76] true (.blt 4 (.cons (.int 4) .nil)) (.seq (.assign 81 (.bin .Mult (.bin .Mult (.bin .RShift (.l8 76) (.int 1)) (.bin .Sub (.attr (.l8 33) 49) (.int 1))) (.attr (.l8 33) 45))) (.seq (.assign 77 (.bin .Sub (.attr (.l8 33) 45) (.int 1))) (.seq (.assign 78 (.int 1)) (.seq (.ite (.bin .BitAnd (.l8 76) (.int 1)) (.seq (.assign 77 (.int 0)) (.seq (.assign 78 (.un .USub (.int 1))) .skip)) .skip) (.seq (.assign 61 (.bin .Add (.l8 82) (.bin .Mult (.int 2) (.l8 78)))) (.seq (.ite (.and (.attr (.l8 33) 79) (.cmp (.bin .Mult (.bin .Sub (.l8 77) (.l8 61)) (.l8 78)) .Gt (.int 0))) (.seq (.expr (.mG (.attr (.l8 33) 83) 0 (.cons (.tup (.cons (.bin .Add (.l8 81) (.l8 82)) (.cons (.bin .Add (.l8 81) (.l8 61)) (.cons (.bin .Add (.l8 81) (.l8 77)) (.cons (.bin .Sub (.bin .Add (.l8 81) (.l8 61)) (.l8 78)) .nil))))) .nil))) (.seq (.mS (.attr (.l8 33) 80) (.bin .Add (.l8 81) (.l8 82)) .BitOr (.bin .LShift (.int 1) (.l8 76))) (.seq (.mS (.attr (.l8 33) 80) (.bin .Add (.l8 81) (.l8 77)) .BitOr (.bin .LShift (.int 1) (.l8 76))) .skip))) (.seq (.expr (.mG (.attr (.l8 33) 83) 0 (.cons .none .nil))) .skip)) .skip))))))) .skip)))
noncomputable def H9:MS:=(.seq (.ite (.or (.cmp (.l8 45) .Lt (.int 2)) (.or (.cmp (.l8 45) .Gt (.int 8)) (.or (.cmp (.l8 49) .Lt (.int 3)) (.cmp (.l8 49) .Gt (.int 8))))) (.seq (.raise 0 (.str [110,111,32,98,111,97,114,100,32,104,97,115,32,116,104,97,116,32,109,97,110,121,32,102,105,108,101,115,32,97,110,100,32,114,97,110,107,115])) .skip) .skip) (.seq (.assign 33 (.call 86 (.cons (.l8 45) (.cons (.l8 49) (.cons (.l8 85) (.cons (.l8 79) .nil)))))) (.seq (.expr (.call 52 (.cons (.l8 33) .nil))) (.seq (.expr (.call 64 (.cons (.l8 33) .nil))) (.seq (.expr (.call 66 (.cons (.l8 33) .nil))) (.seq (.expr (.call 75 (.cons (.l8 33) .nil))) (.seq (.expr (.call 84 (.cons (.l8 33) .nil))) (.seq (.ret (.l8 33)) .skip))))))))
noncomputable def KJ:MS:=(.seq (.assign 57 (.sub (.sub (.attr (.l8 33) 36) (.l8 35)) (.l8 27))) (.seq (.assign 90 (.bin .BitAnd (.l8 57) (.l8 88))) (.seq (.ite (.cmp (.l8 90) .Eq (.int 0)) (.seq (.ret (.l8 57)) .skip) .skip) (.seq (.ite (.call 43 (.cons (.l8 35) .nil)) (.seq (.ret (.bin .BitAnd (.l8 57) (.bin .BitXor (.l8 90) (.bin .Sub (.l8 90) (.int 1))))) .skip) .skip) (.seq (.assign 89 (.bin .RShift (.l8 90) (.int 1))) (.seq (.aug 89 .BitOr (.bin .RShift (.l8 89) (.int 1))) (.seq (.aug 89 .BitOr (.bin .RShift (.l8 89) (.int 2))) (.seq (.aug 89 .BitOr (.bin .RShift (.l8 89) (.int 4))) (.seq (.aug 89 .BitOr (.bin .RShift (.l8 89) (.int 8))) (.seq (.aug 89 .BitOr (.bin .RShift (.l8 89) (.int 16))) (.seq (.aug 89 .BitOr (.bin .RShift (.l8 89) (.int 32))) (.seq (.ret (.bin .BitAnd (.l8 57) (.un .Invert (.l8 89)))) .skip))))))))))))
noncomputable def Jf:MS:=(.seq (.assign 68 (.int 0)) (.seq (.mB [35] true (.blt 4 (.cons (.int 4) .nil)) (.seq (.aug 68 .BitOr (.call 91 (.cons (.l8 33) (.cons (.l8 35) (.cons (.l8 27) (.cons (.l8 88) .nil)))))) .skip)) (.seq (.ret (.l8 68)) .skip)))
noncomputable def G9:MS:=(.seq (.assign 68 (.int 0)) (.seq (.mB [35] true (.blt 4 (.cons (.int 4) (.cons (.int 8) .nil))) (.seq (.aug 68 .BitOr (.call 91 (.cons (.l8 33) (.cons (.l8 35) (.cons (.l8 27) (.cons (.l8 88) .nil)))))) .skip)) (.seq (.ret (.l8 68)) .skip)))
noncomputable def Ie:MS:=(.seq (.ret (.bin .BitOr (.call 92 (.cons (.l8 33) (.cons (.l8 27) (.cons (.l8 88) .nil)))) (.call 93 (.cons (.l8 33) (.cons (.l8 27) (.cons (.l8 88) .nil)))))) .skip)
noncomputable def Hf:MS:=(.seq (.ite (.cmp (.l8 1) .Eq (.l9 97)) (.seq (.ret (.call 93 (.cons (.l8 33) (.cons (.l8 27) (.cons (.l8 88) .nil))))) .skip) .skip) (.seq (.ite (.cmp (.l8 1) .Eq (.l9 96)) (.seq (.ret (.call 92 (.cons (.l8 33) (.cons (.l8 27) (.cons (.l8 88) .nil))))) .skip) .skip) (.seq (.ite (.cmp (.l8 1) .Eq (.l9 95)) (.seq (.ret (.call 94 (.cons (.l8 33) (.cons (.l8 27) (.cons (.l8 88) .nil))))) .skip) .skip) (.seq (.ret (.int 0)) .skip))))
noncomputable def Ic:MS:=(.seq (.ite (.cmp (.l8 1) .Eq (.l9 100)) (.seq (.ret (.sub (.sub (.attr (.l8 33) 65) (.l8 0)) (.l8 27))) .skip) .skip) (.seq (.ite (.cmp (.l8 1) .Eq (.l9 17)) (.seq (.ret (.sub (.attr (.l8 33) 67) (.l8 27))) .skip) .skip) (.seq (.ite (.cmp (.l8 1) .Eq (.l9 99)) (.seq (.ret (.sub (.attr (.l8 33) 60) (.l8 27))) .skip) .skip) (.seq (.ret (.call 98 (.cons (.l8 33) (.cons (.l8 1) (.cons (.l8 27) (.cons (.l8 88) .nil)))))) .skip))))
noncomputable def NO:MS:=(.seq (.assign 108 (.bin .LShift (.int 1) (.l8 103))) (.seq (.nA (.attr (.l8 102) 110) (.l8 103) (.l8 3)) (.seq (.mS (.attr (.l8 102) 109) (.call 5 (.cons (.l8 3) .nil)) .BitOr (.l8 108)) (.seq (.mS (.attr (.l8 102) 107) (.call 4 (.cons (.l8 3) .nil)) .BitOr (.l8 108)) (.seq (.mH (.l8 102) 104 .BitXor (.sub (.sub (.attr (.attr (.l8 102) 105) 106) (.l8 3)) (.l8 103))) .skip)))))
noncomputable def Md:MS:=(.seq (.assign 3 (.sub (.attr (.l8 102) 110) (.l8 103))) (.seq (.assign 108 (.bin .LShift (.int 1) (.l8 103))) (.seq (.nA (.attr (.l8 102) 110) (.l8 103) (.l9 9)) (.seq (.mS (.attr (.l8 102) 109) (.call 5 (.cons (.l8 3) .nil)) .BitXor (.l8 108)) (.seq (.mS (.attr (.l8 102) 107) (.call 4 (.cons (.l8 3) .nil)) .BitXor (.l8 108)) (.seq (.mH (.l8 102) 104 .BitXor (.sub (.sub (.attr (.attr (.l8 102) 105) 106) (.l8 3)) (.l8 103))) (.seq (.ret (.l8 3)) .skip)))))))
noncomputable def KL:MS:=(.seq (.assign 3 (.sub (.attr (.l8 102) 110) (.l8 34))) (.seq (.assign 114 (.bin .BitOr (.bin .LShift (.int 1) (.l8 34)) (.bin .LShift (.int 1) (.l8 25)))) (.seq (.nA (.attr (.l8 102) 110) (.l8 34) (.l9 9)) (.seq (.nA (.attr (.l8 102) 110) (.l8 25) (.l8 3)) (.seq (.mS (.attr (.l8 102) 109) (.call 5 (.cons (.l8 3) .nil)) .BitXor (.l8 114)) (.seq (.mS (.attr (.l8 102) 107) (.call 4 (.cons (.l8 3) .nil)) .BitXor (.l8 114)) (.seq (.assign 113 (.sub (.attr (.attr (.l8 102) 105) 106) (.l8 3))) (.seq (.mH (.l8 102) 104 .BitXor (.bin .BitXor (.sub (.l8 113) (.l8 34)) (.sub (.l8 113) (.l8 25)))) .skip))))))))
noncomputable def Pj:MS:=(.seq (.ret (.bin .BitOr (.sub (.attr (.l8 102) 107) (.l9 116)) (.sub (.attr (.l8 102) 107) (.l9 117)))) .skip)
noncomputable def TI:MS:=(.seq (.ret (.bin .BitAnd (.sub (.attr (.l8 102) 107) (.l8 0)) (.sub (.attr (.l8 102) 109) (.l8 1)))) .skip)
noncomputable def KF:MS:=(.seq (.ret (.call 30 (.cons (.bin .BitAnd (.sub (.attr (.l8 102) 107) (.l8 0)) (.sub (.attr (.l8 102) 109) (.l9 99))) .nil))) .skip)
noncomputable def F0:MS:=(.seq (.ret (.bin .BitOr (.sub (.attr (.l8 102) 109) (.l9 96)) (.sub (.attr (.l8 102) 109) (.l9 95)))) .skip)
noncomputable def FZ:MS:=(.seq (.ret (.bin .BitOr (.sub (.attr (.l8 102) 109) (.l9 97)) (.sub (.attr (.l8 102) 109) (.l9 95)))) .skip)
noncomputable def Hd:MS:=(.seq (.ret (.bin .BitAnd (.bin .BitAnd (.sub (.sub (.attr (.attr (.l8 102) 33) 65) (.bin .Sub (.int 1) (.l8 0))) (.l8 27)) (.sub (.attr (.l8 102) 109) (.l9 100))) (.sub (.attr (.l8 102) 107) (.l8 0)))) .skip)
noncomputable def Hh:MS:=(.seq (.assign 33 (.attr (.l8 102) 33)) (.seq (.assign 69 (.bin .BitAnd (.sub (.attr (.l8 33) 67) (.l8 27)) (.sub (.attr (.l8 102) 109) (.l9 17)))) (.seq (.aug 69 .BitOr (.bin .BitAnd (.sub (.attr (.l8 33) 60) (.l8 27)) (.sub (.attr (.l8 102) 109) (.l9 99)))) (.seq (.ret (.bin .BitOr (.call 121 (.cons (.l8 102) (.cons (.l8 27) (.cons (.l8 0) .nil)))) (.bin .BitAnd (.l8 69) (.sub (.attr (.l8 102) 107) (.l8 0))))) .skip))))
noncomputable def Hb:MS:=(.seq (.assign 123 (.int 0)) (.seq (.assign 125 (.call 119 (.cons (.l8 102) .nil))) (.seq (.ite (.l8 125) (.seq (.aug 123 .BitOr (.bin .BitAnd (.call 92 (.cons (.attr (.l8 102) 33) (.cons (.l8 27) (.cons (.l8 88) .nil)))) (.l8 125))) .skip) .skip) (.seq (.assign 124 (.call 120 (.cons (.l8 102) .nil))) (.seq (.ite (.l8 124) (.seq (.aug 123 .BitOr (.bin .BitAnd (.call 93 (.cons (.attr (.l8 102) 33) (.cons (.l8 27) (.cons (.l8 88) .nil)))) (.l8 124))) .skip) .skip) (.seq (.ret (.l8 123)) .skip))))))
noncomputable def I7:MS:=(.seq (.assign 127 (.bin .BitOr (.call 122 (.cons (.l8 102) (.cons (.l8 27) (.cons (.l9 116) .nil)))) (.call 122 (.cons (.l8 102) (.cons (.l8 27) (.cons (.l9 117) .nil)))))) (.seq (.ret (.bin .BitOr (.l8 127) (.call 126 (.cons (.l8 102) (.cons (.l8 27) (.cons (.l8 88) .nil)))))) .skip))
noncomputable def KD:MS:=(.seq (.ite (.call 122 (.cons (.l8 102) (.cons (.l8 27) (.cons (.l8 0) .nil)))) (.seq (.ret (.bool true)) .skip) .skip) (.seq (.assign 33 (.attr (.l8 102) 33)) (.seq (.assign 129 (.sub (.attr (.l8 102) 107) (.l8 0))) (.seq (.assign 125 (.bin .BitAnd (.call 119 (.cons (.l8 102) .nil)) (.l8 129))) (.seq (.ite (.and (.l8 125) (.bin .BitAnd (.call 92 (.cons (.l8 33) (.cons (.l8 27) (.cons (.l8 88) .nil)))) (.l8 125))) (.seq (.ret (.bool true)) .skip) .skip) (.seq (.assign 124 (.bin .BitAnd (.call 120 (.cons (.l8 102) .nil)) (.l8 129))) (.seq (.ret (.and (.cmp (.l8 124) .NotEq (.int 0)) (.cmp (.bin .BitAnd (.call 93 (.cons (.l8 33) (.cons (.l8 27) (.cons (.l8 88) .nil)))) (.l8 124)) .NotEq (.int 0)))) .skip)))))))
noncomputable def KB:MS:=(.seq (.assign 131 (.bin .BitOr (.sub (.attr (.l8 102) 107) (.l9 116)) (.sub (.attr (.l8 102) 107) (.l9 117)))) (.seq (.ret (.bin .BitAnd (.call 128 (.cons (.l8 102) (.cons (.call 118 (.cons (.l8 102) (.cons (.l8 0) .nil))) (.cons (.l8 131) .nil)))) (.sub (.attr (.l8 102) 107) (.bin .Sub (.int 1) (.l8 0))))) .skip))
noncomputable def Pc:MS:=(.seq (.ret (.call 132 (.cons (.l8 102) (.cons (.attr (.l8 102) 0) .nil)))) .skip)
noncomputable def KC:MS:=(.seq (.assign 131 (.bin .BitOr (.sub (.attr (.l8 102) 107) (.l9 116)) (.sub (.attr (.l8 102) 107) (.l9 117)))) (.seq (.ret (.call 130 (.cons (.l8 102) (.cons (.call 118 (.cons (.l8 102) (.cons (.l8 0) .nil))) (.cons (.bin .Sub (.int 1) (.l8 0)) (.cons (.l8 131) .nil)))))) .skip))
noncomputable def Pe:MS:=(.seq (.ret (.call 134 (.cons (.l8 102) (.cons (.attr (.l8 102) 0) .nil)))) .skip)
noncomputable def Ma:MS:=(.seq (.assign 60 (.call 118 (.cons (.l8 102) (.cons (.l8 0) .nil)))) (.seq (.assign 123 (.bin .BitAnd (.call 92 (.cons (.attr (.l8 102) 33) (.cons (.l8 60) (.cons (.int 0) .nil)))) (.call 119 (.cons (.l8 102) .nil)))) (.seq (.aug 123 .BitOr (.bin .BitAnd (.call 93 (.cons (.attr (.l8 102) 33) (.cons (.l8 60) (.cons (.int 0) .nil)))) (.call 120 (.cons (.l8 102) .nil)))) (.seq (.ret (.bin .BitAnd (.l8 123) (.sub (.attr (.l8 102) 107) (.bin .Sub (.int 1) (.l8 0))))) .skip))))
noncomputable def I8:MS:=(.seq (.assign 60 (.call 118 (.cons (.l8 102) (.cons (.l8 0) .nil)))) (.seq (.assign 140 (.call 136 (.cons (.l8 102) (.cons (.l8 0) .nil)))) (.seq (.assign 142 (.bin .BitXor (.bin .BitOr (.sub (.attr (.l8 102) 107) (.l9 116)) (.sub (.attr (.l8 102) 107) (.l9 117))) (.l8 140))) (.seq (.assign 138 (.int 0)) (.seq (.assign 137 (.int 0)) (.seq (.mB [139] true (.call 32 (.cons (.l8 140) .nil)) (.seq (.assign 141 (.bin .BitAnd (.call 38 (.cons (.attr (.l8 102) 33) (.cons (.l8 60) (.cons (.l8 139) .nil)))) (.l8 142))) (.seq (.ite (.and (.l8 141) (.un .Not (.call 26 (.cons (.l8 141) .nil)))) (.seq (.aug 138 .BitOr (.l8 141)) (.seq (.ite (.bin .BitAnd (.l8 141) (.sub (.attr (.l8 102) 107) (.l8 0))) (.seq (.aug 137 .BitOr (.bin .LShift (.int 1) (.l8 139))) .skip) .skip) .skip)) .skip) .skip))) (.seq (.ret (.tup (.cons (.l8 138) (.cons (.l8 137) .nil)))) .skip)))))))
noncomputable def Id:MS:=(.seq (.ret (.bin .BitAnd (.sub (.call 143 (.cons (.l8 102) (.cons (.l8 0) .nil))) (.int 0)) (.sub (.attr (.l8 102) 107) (.l8 0)))) .skip)
noncomputable def Hg:MS:=(.seq (.ite (.cmp (.l8 34) .Lt (.l8 25)) (.seq (.ret (.bin .Sub (.bin .LShift (.int 1) (.l8 25)) (.bin .LShift (.int 2) (.l8 34)))) .skip) .skip) (.seq (.ret (.bin .Sub (.bin .LShift (.int 1) (.l8 34)) (.bin .LShift (.int 2) (.l8 25)))) .skip))
noncomputable def Ha:MS:=(.seq (.assign 157 (.sub (.attr (.attr (.l8 102) 33) 83) (.l8 76))) (.seq (.ite (.cmp (.l8 157) .Is .none) (.seq (.ret (.l9 160)) .skip) .skip) (.seq (.ite (.cmp (.bin .BitAnd (.attr (.l8 102) 158) (.bin .LShift (.int 1) (.l8 76))) .Eq (.int 0)) (.seq (.ret (.l9 159)) .skip) .skip) (.seq (.mA [153,149,155,151] (.l8 157)) (.seq (.assign 147 (.call 88 (.cons (.l8 102) .nil))) (.seq (.ite (.bin .BitAnd (.l8 147) (.call 145 (.cons (.l8 153) (.cons (.l8 155) .nil)))) (.seq (.ret (.l9 156)) .skip) .skip) (.seq (.assign 148 (.bin .Sub (.int 1) (.bin .RShift (.l8 76) (.int 1)))) (.seq (.ite (.call 130 (.cons (.l8 102) (.cons (.l8 153) (.cons (.l8 148) (.cons (.l8 147) .nil))))) (.seq (.ret (.l9 154)) .skip) .skip) (.seq (.ite (.call 130 (.cons (.l8 102) (.cons (.l8 151) (.cons (.l8 148) (.cons (.l8 147) .nil))))) (.seq (.ret (.l9 152)) .skip) .skip) (.seq (.ite (.call 130 (.cons (.l8 102) (.cons (.l8 149) (.cons (.l8 148) (.cons (.l8 147) .nil))))) (.seq (.ret (.l9 150)) .skip) .skip) (.seq (.ret (.l9 146)) .skip)))))))))))
noncomputable def IY:MS:=(.seq (.mB [76] true (.list (.cons (.bin .Mult (.int 2) (.attr (.l8 102) 0)) (.cons (.bin .Add (.bin .Mult (.int 2) (.attr (.l8 102) 0)) (.int 1)) .nil))) (.seq (.ite (.cmp (.call 161 (.cons (.l8 102) (.cons (.l8 76) .nil))) .Eq (.l9 146)) (.seq (.mA [153,149,155,151] (.sub (.attr (.attr (.l8 102) 33) 83) (.l8 76))) (.seq (.expr (.mG (.l8 31) 0 (.cons (.call 18 (.cons (.l8 153) (.cons (.l8 149) (.cons (.l9 162) (.cons (.l9 23) .nil))))) .nil))) .skip)) .skip) .skip)) .skip)
noncomputable def HO:MS:=(.seq (.mB [61] true (.call 32 (.cons (.l8 164) .nil)) (.seq (.expr (.mG (.l8 31) 0 (.cons (.call 18 (.cons (.l8 11) (.cons (.l8 61) (.cons (.l9 165) (.cons (.l9 23) .nil))))) .nil))) .skip)) .skip)
noncomputable def DI:MS:=(.seq (.assign 147 (.call 88 (.cons (.l8 102) .nil))) (.seq (.mB [11] true (.call 32 (.cons (.call 106 (.cons (.l8 102) (.cons (.attr (.l8 102) 0) (.cons (.l8 1) .nil)))) .nil)) (.seq (.assign 168 (.call 101 (.cons (.attr (.l8 102) 33) (.cons (.attr (.l8 102) 0) (.cons (.l8 1) (.cons (.l8 11) (.cons (.l8 147) .nil))))))) (.seq (.expr (.call 166 (.cons (.l8 11) (.cons (.bin .BitAnd (.l8 168) (.l8 167)) (.cons (.l8 31) .nil))))) .skip))) .skip))
noncomputable def Jg:MS:=(.seq (.ite (.cmp (.l8 170) .Eq (.l9 172)) (.seq (.ret (.sub (.attr (.l8 102) 107) (.bin .Sub (.int 1) (.attr (.l8 102) 0)))) .skip) .skip) (.seq (.ite (.cmp (.l8 170) .Eq (.l9 171)) (.seq (.ret (.bin .BitAnd (.attr (.attr (.l8 102) 33) 53) (.un .Invert (.call 88 (.cons (.l8 102) .nil))))) .skip) .skip) (.seq (.ret (.bin .BitAnd (.attr (.attr (.l8 102) 33) 53) (.un .Invert (.sub (.attr (.l8 102) 107) (.attr (.l8 102) 0))))) .skip)))
noncomputable def NN:MS:=(.seq (.ite (.cmp (.l8 0) .Eq (.l9 116)) (.seq (.ret (.attr (.l8 33) 45)) .skip) .skip) (.seq (.ret (.un .USub (.attr (.l8 33) 45))) .skip))
noncomputable def Mc:MS:=(.seq (.ite (.cmp (.l8 0) .Eq (.l9 116)) (.seq (.ret (.sub (.attr (.l8 33) 50) (.int 1))) .skip) .skip) (.seq (.ret (.sub (.attr (.l8 33) 50) (.bin .Sub (.attr (.l8 33) 49) (.int 2)))) .skip))
noncomputable def NG:MS:=(.seq (.ite (.cmp (.l8 0) .Eq (.l9 116)) (.seq (.ret (.sub (.attr (.l8 33) 50) (.bin .Sub (.attr (.l8 33) 49) (.int 1)))) .skip) .skip) (.seq (.ret (.sub (.attr (.l8 33) 50) (.int 0))) .skip))
noncomputable def L9:MS:=(.seq (.ite (.cmp (.l8 0) .Eq (.l9 116)) (.seq (.ret (.bin .BitAnd (.bin .LShift (.l8 25) (.attr (.l8 33) 45)) (.attr (.l8 33) 53))) .skip) .skip) (.seq (.ret (.bin .RShift (.l8 25) (.attr (.l8 33) 45))) .skip))
noncomputable def Ig:MS:=(.seq (.ite (.cmp (.l8 157) .Eq (.int 0)) (.seq (.ret (.bin .LShift (.call 177 (.cons (.l8 33) (.cons (.bin .BitAnd (.l8 25) (.un .Invert (.sub (.attr (.l8 33) 46) (.bin .Sub (.attr (.l8 33) 45) (.int 1))))) (.cons (.l8 0) .nil)))) (.int 1))) .skip) .skip) (.seq (.ret (.bin .RShift (.call 177 (.cons (.l8 33) (.cons (.bin .BitAnd (.l8 25) (.un .Invert (.sub (.attr (.l8 33) 46) (.int 0)))) (.cons (.l8 0) .nil)))) (.int 1))) .skip))
noncomputable def Je:MS:=(.seq (.assign 33 (.attr (.l8 102) 33)) (.seq (.assign 182 (.bin .BitAnd (.attr (.l8 33) 53) (.un .Invert (.call 88 (.cons (.l8 102) .nil))))) (.seq (.assign 183 (.call 106 (.cons (.l8 102) (.cons (.l8 0) (.cons (.l9 100) .nil))))) (.seq (.assign 180 (.bin .BitAnd (.call 177 (.cons (.l8 33) (.cons (.l8 183) (.cons (.l8 0) .nil)))) (.l8 182))) (.seq (.assign 179 (.int 0)) (.seq (.ite (.attr (.l8 33) 85) (.seq (.assign 181 (.bin .BitAnd (.call 177 (.cons (.l8 33) (.cons (.bin .BitAnd (.l8 183) (.call 175 (.cons (.l8 33) (.cons (.l8 0) .nil)))) (.cons (.l8 0) .nil)))) (.l8 182))) (.seq (.assign 179 (.bin .BitAnd (.call 177 (.cons (.l8 33) (.cons (.l8 181) (.cons (.l8 0) .nil)))) (.l8 182))) .skip)) .skip) (.seq (.ret (.tup (.cons (.l8 180) (.cons (.l8 179) .nil)))) .skip)))))))
noncomputable def D3:MS:=(.seq (.ite (.cmp (.l8 170) .NotEq (.l9 171)) (.seq (.expr (.mG (.l8 31) 0 (.cons (.call 18 (.cons (.l8 11) (.cons (.l8 12) (.cons (.l9 16) (.cons (.l9 95) .nil))))) .nil))) .skip) .skip) (.seq (.ite (.cmp (.l8 170) .Eq (.l9 172)) (.seq (.assign 186 (.l8 185)) .skip) (.seq (.ite (.cmp (.l8 170) .Eq (.l9 171)) (.seq (.assign 186 (.un .Not (.l8 185))) .skip) (.seq (.assign 186 (.bool true)) .skip)) .skip)) (.seq (.ite (.l8 186) (.seq (.mB [1] true (.list (.cons (.l9 96) (.cons (.l9 97) (.cons (.l9 17) .nil)))) (.seq (.expr (.mG (.l8 31) 0 (.cons (.call 18 (.cons (.l8 11) (.cons (.l8 12) (.cons (.l9 16) (.cons (.l8 1) .nil))))) .nil))) .skip)) .skip) .skip) .skip)))
noncomputable def Do:MS:=(.seq (.assign 33 (.attr (.l8 102) 33)) (.seq (.assign 188 (.call 174 (.cons (.l8 33) (.cons (.attr (.l8 102) 0) .nil)))) (.seq (.mA [180,179] (.call 184 (.cons (.l8 102) (.cons (.attr (.l8 102) 0) .nil)))) (.seq (.mB [61] true (.call 32 (.cons (.bin .BitAnd (.bin .BitAnd (.l8 180) (.l8 167)) (.un .Invert (.call 176 (.cons (.l8 33) (.cons (.attr (.l8 102) 0) .nil))))) .nil)) (.seq (.expr (.mG (.l8 31) 0 (.cons (.call 18 (.cons (.bin .Sub (.l8 61) (.l8 188)) (.cons (.l8 61) (.cons (.l9 165) (.cons (.l9 23) .nil))))) .nil))) .skip)) (.seq (.mB [61] true (.call 32 (.cons (.bin .BitAnd (.l8 179) (.l8 167)) .nil)) (.seq (.expr (.mG (.l8 31) 0 (.cons (.call 18 (.cons (.bin .Sub (.l8 61) (.bin .Mult (.int 2) (.l8 188))) (.cons (.l8 61) (.cons (.l9 165) (.cons (.l9 23) .nil))))) .nil))) .skip)) .skip)))))
noncomputable def Cw:MS:=(.seq (.assign 33 (.attr (.l8 102) 33)) (.seq (.assign 188 (.call 174 (.cons (.l8 33) (.cons (.attr (.l8 102) 0) .nil)))) (.seq (.assign 180 (.sub (.call 184 (.cons (.l8 102) (.cons (.attr (.l8 102) 0) .nil))) (.int 0))) (.seq (.mB [61] true (.call 32 (.cons (.bin .BitAnd (.bin .BitAnd (.l8 180) (.l8 167)) (.call 176 (.cons (.l8 33) (.cons (.attr (.l8 102) 0) .nil)))) .nil)) (.seq (.expr (.call 187 (.cons (.bin .Sub (.l8 61) (.l8 188)) (.cons (.l8 61) (.cons (.l8 170) (.cons (.bool false) (.cons (.l8 31) .nil))))))) .skip)) .skip))))
noncomputable def BX:MS:=(.seq (.assign 33 (.attr (.l8 102) 33)) (.seq (.assign 0 (.attr (.l8 102) 0)) (.seq (.assign 191 (.call 176 (.cons (.l8 33) (.cons (.l8 0) .nil)))) (.seq (.assign 183 (.call 106 (.cons (.l8 102) (.cons (.l8 0) (.cons (.l9 100) .nil))))) (.seq (.assign 123 (.bin .BitAnd (.l8 167) (.sub (.attr (.l8 102) 107) (.bin .Sub (.int 1) (.l8 0))))) (.seq (.mB [157] true (.list (.cons (.int 0) (.cons (.int 1) .nil))) (.seq (.assign 188 (.bin .Sub (.bin .Add (.call 174 (.cons (.l8 33) (.cons (.l8 0) .nil))) (.int 1)) (.bin .Mult (.int 2) (.l8 157)))) (.seq (.mB [61] true (.call 32 (.cons (.bin .BitAnd (.call 178 (.cons (.l8 33) (.cons (.l8 183) (.cons (.l8 0) (.cons (.l8 157) .nil))))) (.l8 123)) .nil)) (.seq (.ite (.bin .BitAnd (.l8 191) (.bin .LShift (.int 1) (.l8 61))) (.seq (.expr (.call 187 (.cons (.bin .Sub (.l8 61) (.l8 188)) (.cons (.l8 61) (.cons (.l8 170) (.cons (.bool true) (.cons (.l8 31) .nil))))))) .skip) (.seq (.expr (.mG (.l8 31) 0 (.cons (.call 18 (.cons (.bin .Sub (.l8 61) (.l8 188)) (.cons (.l8 61) (.cons (.l9 165) (.cons (.l9 23) .nil))))) .nil))) .skip)) .skip)) .skip))) .skip))))))
noncomputable def G8:MS:=(.seq (.ite (.cmp (.l8 170) .NotEq (.l9 172)) (.seq (.expr (.call 189 (.cons (.l8 102) (.cons (.l8 167) (.cons (.l8 31) .nil))))) .skip) .skip) (.seq (.expr (.call 190 (.cons (.l8 102) (.cons (.l8 170) (.cons (.l8 167) (.cons (.l8 31) .nil)))))) (.seq (.ite (.cmp (.l8 170) .NotEq (.l9 171)) (.seq (.expr (.call 192 (.cons (.l8 102) (.cons (.l8 170) (.cons (.l8 167) (.cons (.l8 31) .nil)))))) .skip) .skip) .skip)))
noncomputable def G7:MS:=(.seq (.ite (.cmp (.attr (.l8 102) 196) .Lt (.int 0)) (.seq (.ret .none) .skip) .skip) (.seq (.assign 194 (.bin .BitAnd (.sub (.sub (.attr (.attr (.l8 102) 33) 65) (.bin .Sub (.int 1) (.attr (.l8 102) 0))) (.attr (.l8 102) 196)) (.call 106 (.cons (.l8 102) (.cons (.attr (.l8 102) 0) (.cons (.l9 100) .nil)))))) (.seq (.mB [11] true (.call 32 (.cons (.l8 194) .nil)) (.seq (.expr (.mG (.l8 31) 0 (.cons (.call 18 (.cons (.l8 11) (.cons (.attr (.l8 102) 196) (.cons (.l9 195) (.cons (.l9 23) .nil))))) .nil))) .skip)) .skip)))
noncomputable def Gu:MS:=(.seq (.ite (.or (.cmp (.l8 198) .Eq (.int 0)) (.call 26 (.cons (.l8 198) .nil))) (.seq (.ret (.int 0)) .skip) .skip) (.seq (.ret (.bin .BitOr (.l8 198) (.call 38 (.cons (.attr (.l8 102) 33) (.cons (.call 118 (.cons (.l8 102) (.cons (.attr (.l8 102) 0) .nil))) (.cons (.call 30 (.cons (.l8 198) .nil)) .nil)))))) .skip))
noncomputable def EU:MS:=(.seq (.ite (.cmp (.attr (.l8 102) 0) .Eq (.l9 116)) (.seq (.ret (.bin .Sub (.attr (.l8 102) 196) (.attr (.attr (.l8 102) 33) 45))) .skip) .skip) (.seq (.ret (.bin .Add (.attr (.l8 102) 196) (.attr (.attr (.l8 102) 33) 45))) .skip))
noncomputable def D7:MS:=(.seq (.ite (.cmp (.attr (.l8 102) 196) .Lt (.int 0)) (.seq (.ret (.bool false)) .skip) .skip) (.seq (.ret (.cmp (.bin .BitAnd (.l8 167) (.bin .BitOr (.bin .LShift (.int 1) (.attr (.l8 102) 196)) (.bin .LShift (.int 1) (.call 200 (.cons (.l8 102) .nil))))) .NotEq (.int 0))) .skip))
noncomputable def IZ:MS:=(.seq (.assign 167 (.call 199 (.cons (.l8 102) (.cons (.call 133 (.cons (.l8 102) .nil)) .nil)))) (.seq (.ite (.l8 167) (.seq (.expr (.call 193 (.cons (.l8 102) (.cons (.l9 202) (.cons (.l8 167) (.cons (.l8 31) .nil)))))) (.seq (.ite (.call 201 (.cons (.l8 102) (.cons (.l8 167) .nil))) (.seq (.expr (.call 197 (.cons (.l8 102) (.cons (.l8 31) .nil)))) .skip) .skip) (.seq (.mB [1] true (.list (.cons (.l9 17) (.cons (.l9 97) (.cons (.l9 96) (.cons (.l9 95) .nil))))) (.seq (.expr (.call 169 (.cons (.l8 102) (.cons (.l8 1) (.cons (.l8 167) (.cons (.l8 31) .nil)))))) .skip)) .skip))) .skip) (.seq (.expr (.call 169 (.cons (.l8 102) (.cons (.l9 99) (.cons (.bin .BitAnd (.attr (.attr (.l8 102) 33) 53) (.un .Invert (.sub (.attr (.l8 102) 107) (.attr (.l8 102) 0)))) (.cons (.l8 31) .nil)))))) .skip)))
noncomputable def Jh:MS:=(.seq (.assign 61 (.call 21 (.cons (.l8 19) .nil))) (.seq (.ite (.cmp (.call 22 (.cons (.l8 19) .nil)) .NotEq (.l9 195)) (.seq (.ret (.l8 61)) .skip) .skip) (.seq (.ite (.cmp (.attr (.l8 102) 0) .Eq (.l9 116)) (.seq (.ret (.bin .Sub (.l8 61) (.attr (.attr (.l8 102) 33) 45))) .skip) .skip) (.seq (.ret (.bin .Add (.l8 61) (.attr (.attr (.l8 102) 33) 45))) .skip))))
noncomputable def ET:MS:=(.seq (.assign 205 (.bin .LShift (.int 1) (.call 206 (.cons (.l8 102) (.cons (.l8 19) .nil))))) (.seq (.assign 61 (.bin .LShift (.int 1) (.call 21 (.cons (.l8 19) .nil)))) (.seq (.assign 131 (.bin .BitOr (.sub (.attr (.l8 102) 107) (.l9 116)) (.sub (.attr (.l8 102) 107) (.l9 117)))) (.seq (.assign 89 (.bin .BitOr (.bin .BitXor (.bin .BitXor (.l8 131) (.bin .LShift (.int 1) (.call 20 (.cons (.l8 19) .nil)))) (.l8 205)) (.l8 61))) (.seq (.assign 123 (.call 128 (.cons (.l8 102) (.cons (.call 118 (.cons (.l8 102) (.cons (.attr (.l8 102) 0) .nil))) (.cons (.l8 89) .nil))))) (.seq (.ret (.cmp (.bin .BitAnd (.bin .BitAnd (.l8 123) (.sub (.attr (.l8 102) 107) (.bin .Sub (.int 1) (.attr (.l8 102) 0)))) (.un .Invert (.l8 205))) .Eq (.int 0))) .skip))))))
noncomputable def Pf:MS:=(.seq (.assign 13 (.call 22 (.cons (.l8 19) .nil))) (.seq (.ite (.cmp (.l8 13) .Eq (.l9 162)) (.seq (.ret (.bool true)) .skip) .skip) (.seq (.ite (.cmp (.l8 13) .Eq (.l9 195)) (.seq (.ret (.call 207 (.cons (.l8 102) (.cons (.l8 19) .nil)))) .skip) .skip) (.seq (.assign 11 (.call 20 (.cons (.l8 19) .nil))) (.seq (.assign 61 (.call 21 (.cons (.l8 19) .nil))) (.seq (.assign 60 (.call 118 (.cons (.l8 102) (.cons (.attr (.l8 102) 0) .nil)))) (.seq (.ite (.cmp (.l8 11) .Eq (.l8 60)) (.seq (.assign 209 (.bin .BitXor (.bin .BitOr (.sub (.attr (.l8 102) 107) (.l9 116)) (.sub (.attr (.l8 102) 107) (.l9 117))) (.bin .LShift (.int 1) (.l8 60)))) (.seq (.ret (.un .Not (.call 130 (.cons (.l8 102) (.cons (.l8 61) (.cons (.bin .Sub (.int 1) (.attr (.l8 102) 0)) (.cons (.l8 209) .nil))))))) .skip)) .skip) (.seq (.ite (.cmp (.bin .BitAnd (.bin .RShift (.l8 208) (.l8 11)) (.int 1)) .Eq (.int 0)) (.seq (.ret (.bool true)) .skip) .skip) (.seq (.ret (.call 41 (.cons (.attr (.l8 102) 33) (.cons (.l8 11) (.cons (.l8 61) (.cons (.l8 60) .nil)))))) .skip)))))))))
noncomputable def Ja:MS:=(.seq (.assign 31 (.list .nil)) (.seq (.ite (.cmp (.l8 170) .Eq (.l9 202)) (.seq (.expr (.call 203 (.cons (.l8 102) (.cons (.l8 31) .nil)))) (.seq (.ret (.l8 31)) .skip)) .skip) (.seq (.assign 167 (.call 173 (.cons (.l8 102) (.cons (.l8 170) .nil)))) (.seq (.expr (.call 193 (.cons (.l8 102) (.cons (.l8 170) (.cons (.attr (.attr (.l8 102) 33) 53) (.cons (.l8 31) .nil)))))) (.seq (.ite (.cmp (.l8 170) .NotEq (.l9 171)) (.seq (.expr (.call 197 (.cons (.l8 102) (.cons (.l8 31) .nil)))) .skip) .skip) (.seq (.mB [1] true (.list (.cons (.l9 17) (.cons (.l9 97) (.cons (.l9 96) (.cons (.l9 95) (.cons (.l9 99) .nil)))))) (.seq (.expr (.call 169 (.cons (.l8 102) (.cons (.l8 1) (.cons (.l8 167) (.cons (.l8 31) .nil)))))) .skip)) (.seq (.ite (.cmp (.l8 170) .NotEq (.l9 172)) (.seq (.expr (.call 163 (.cons (.l8 102) (.cons (.l8 31) .nil)))) .skip) .skip) (.seq (.ret (.l8 31)) .skip))))))))
noncomputable def Jd:MS:=(.seq (.ite (.call 135 (.cons (.l8 102) .nil)) (.seq (.ret (.call 211 (.cons (.l8 102) (.cons (.l9 202) .nil)))) .skip) .skip) (.seq (.ret (.call 211 (.cons (.l8 102) (.cons (.l9 212) .nil)))) .skip))
noncomputable def Gv:MS:=(.seq (.assign 208 (.call 144 (.cons (.l8 102) (.cons (.attr (.l8 102) 0) .nil)))) (.seq (.assign 31 (.list .nil)) (.seq (.mB [19] true (.l8 214) (.seq (.ite (.call 210 (.cons (.l8 102) (.cons (.l8 19) (.cons (.l8 208) .nil)))) (.seq (.expr (.mG (.l8 31) 0 (.cons (.l8 19) .nil))) .skip) .skip) .skip)) (.seq (.ret (.l8 31)) .skip))))
noncomputable def KH:MS:=(.seq (.ret (.call 215 (.cons (.l8 102) (.cons (.call 213 (.cons (.l8 102) .nil)) .nil)))) .skip)
noncomputable def D5:MS:=(.seq (.assign 217 (.ite (.call 135 (.cons (.l8 102) .nil)) (.list (.cons (.l9 202) .nil)) (.list (.cons (.l9 172) (.cons (.l9 171) .nil))))) (.seq (.assign 208 (.call 144 (.cons (.l8 102) (.cons (.attr (.l8 102) 0) .nil)))) (.seq (.mB [170] true (.l8 217) (.seq (.mB [19] true (.call 211 (.cons (.l8 102) (.cons (.l8 170) .nil))) (.seq (.ite (.call 210 (.cons (.l8 102) (.cons (.l8 19) (.cons (.l8 208) .nil)))) (.seq (.ret (.bool true)) .skip) .skip) .skip)) .skip)) (.seq (.ret (.bool false)) .skip))))
noncomputable def R9:MS:=(.seq (.ret (.bin .Mod (.l8 27) (.l8 45))) .skip)
noncomputable def Se:MS:=(.seq (.ret (.bin .FloorDiv (.l8 27) (.l8 45))) .skip)
noncomputable def KM:MS:=(.seq (.ite (.or (.cmp (.l8 27) .Lt (.int 0)) (.cmp (.l8 27) .GtE (.bin .Mult (.l8 45) (.int 8)))) (.seq (.raise 4 (.l8 27)) .skip) .skip) (.seq (.ret (.bin .Add (.sub (.l9 221) (.bin .Mod (.l8 27) (.l8 45))) (.sub (.l9 222) (.bin .FloorDiv (.l8 27) (.l8 45))))) .skip))
noncomputable def KK:MS:=(.seq (.ite (.cmp (.blt 0 (.cons (.l8 224) .nil)) .NotEq (.int 2)) (.seq (.ret (.un .USub (.int 1))) .skip) .skip) (.seq (.assign 226 (.mG (.l9 221) 2 (.cons (.sub (.l8 224) (.int 0)) .nil))) (.seq (.assign 225 (.mG (.l9 222) 2 (.cons (.sub (.l8 224) (.int 1)) .nil))) (.seq (.ite (.or (.cmp (.l8 226) .Lt (.int 0)) (.or (.cmp (.l8 226) .GtE (.l8 45)) (.or (.cmp (.l8 225) .Lt (.int 0)) (.cmp (.l8 225) .GtE (.l8 49))))) (.seq (.ret (.un .USub (.int 1))) .skip) .skip) (.seq (.ret (.bin .Add (.bin .Mult (.l8 225) (.l8 45)) (.l8 226))) .skip)))))
noncomputable def Jc:MS:=(.seq (.ite (.cmp (.l8 1) .Eq (.l9 17)) (.seq (.ret (.str [110])) .skip) .skip) (.seq (.ite (.cmp (.l8 1) .Eq (.l9 97)) (.seq (.ret (.str [98])) .skip) .skip) (.seq (.ite (.cmp (.l8 1) .Eq (.l9 96)) (.seq (.ret (.str [114])) .skip) .skip) (.seq (.ite (.cmp (.l8 1) .Eq (.l9 95)) (.seq (.ret (.str [113])) .skip) .skip) (.seq (.ret (.str [])) .skip)))))
noncomputable def FP:MS:=(.seq (.ite (.and (.cmp (.blt 0 (.cons (.l8 224) .nil)) .NotEq (.int 4)) (.cmp (.blt 0 (.cons (.l8 224) .nil)) .NotEq (.int 5))) (.seq (.raise 1 (.l8 224)) .skip) .skip) (.seq (.assign 11 (.call 227 (.cons (.l8 45) (.cons (.l8 49) (.cons (.slice (.l8 224) .none (.int 2)) .nil))))) (.seq (.assign 61 (.call 227 (.cons (.l8 45) (.cons (.l8 49) (.cons (.slice (.l8 224) (.int 2) (.int 4)) .nil))))) (.seq (.ite (.or (.cmp (.l8 11) .Lt (.int 0)) (.cmp (.l8 61) .Lt (.int 0))) (.seq (.raise 1 (.l8 224)) .skip) .skip) (.seq (.assign 14 (.l9 23)) (.seq (.ite (.cmp (.blt 0 (.cons (.l8 224) .nil)) .Eq (.int 5)) (.seq (.mB [1] true (.list (.cons (.l9 17) (.cons (.l9 97) (.cons (.l9 96) (.cons (.l9 95) .nil))))) (.seq (.ite (.cmp (.call 228 (.cons (.l8 1) .nil)) .Eq (.sub (.l8 224) (.int 4))) (.seq (.assign 14 (.l8 1)) .skip) .skip) .skip)) (.seq (.ite (.cmp (.l8 14) .Eq (.l9 23)) (.seq (.raise 1 (.l8 224)) .skip) .skip) .skip)) .skip) (.seq (.ret (.tup (.cons (.l8 11) (.cons (.l8 61) (.cons (.l8 14) .nil))))) .skip)))))))
noncomputable def HP:MS:=(.seq (.mA [11,61,14] (.call 229 (.cons (.l8 45) (.cons (.l8 49) (.cons (.l8 224) .nil))))) (.seq (.mB [19] true (.l8 214) (.seq (.ite (.and (.cmp (.call 20 (.cons (.l8 19) .nil)) .Eq (.l8 11)) (.and (.cmp (.call 21 (.cons (.l8 19) .nil)) .Eq (.l8 61)) (.cmp (.call 24 (.cons (.l8 19) .nil)) .Eq (.l8 14)))) (.seq (.ret (.l8 19)) .skip) .skip) .skip)) (.seq (.raise 1 (.l8 224)) .skip)))
noncomputable def L7:MS:=(.seq (.ret (.call 230 (.cons (.attr (.attr (.l8 102) 33) 45) (.cons (.attr (.attr (.l8 102) 33) 49) (.cons (.call 216 (.cons (.l8 102) .nil)) (.cons (.l8 224) .nil)))))) .skip)
noncomputable def KI:MS:=(.seq (.assign 11 (.call 20 (.cons (.l8 19) .nil))) (.seq (.ite (.or (.cmp (.l8 11) .GtE (.attr (.attr (.l8 102) 33) 63)) (.cmp (.call 21 (.cons (.l8 19) .nil)) .GtE (.attr (.attr (.l8 102) 33) 63))) (.seq (.raise 1 (.str [97,32,109,111,118,101,32,119,105,116,104,32,97,32,115,113,117,97,114,101,32,98,101,121,111,110,100,32,116,104,101,32,98,111,97,114,100])) .skip) .skip) (.seq (.assign 3 (.sub (.attr (.l8 102) 110) (.l8 11))) (.seq (.ite (.or (.cmp (.l8 3) .Eq (.l9 9)) (.cmp (.call 4 (.cons (.l8 3) .nil)) .NotEq (.attr (.l8 102) 0))) (.seq (.raise 1 (.str [97,32,109,111,118,101,32,116,104,97,116,32,115,116,97,114,116,115,32,119,105,116,104,32,110,111,32,111,119,110,32,112,105,101,99,101])) .skip) .skip) (.seq (.ret (.l8 3)) .skip)))))
noncomputable def NP:MS:=(.seq (.mB [76] true (.tup (.cons (.bin .Mult (.int 2) (.l8 0)) (.cons (.bin .Add (.bin .Mult (.int 2) (.l8 0)) (.int 1)) .nil))) (.seq (.assign 157 (.sub (.attr (.l8 33) 83) (.l8 76))) (.seq (.ite (.and (.cmp (.l8 157) .IsNot .none) (.cmp (.sub (.l8 157) (.int 1)) .Eq (.l8 61))) (.seq (.ret (.tup (.cons (.sub (.l8 157) (.int 2)) (.cons (.sub (.l8 157) (.int 3)) .nil)))) .skip) .skip) .skip))) (.seq (.raise 1 (.str [110,111,32,99,97,115,116,108,105,110,103,32,103,111,101,115,32,116,111,32,116,104,105,115,32,115,113,117,97,114,101])) .skip))
noncomputable def Ib:MS:=(.seq (.assign 45 (.attr (.attr (.l8 102) 33) 45)) (.seq (.ite (.and (.cmp (.bin .Sub (.l8 61) (.l8 11)) .NotEq (.bin .Mult (.int 2) (.l8 45))) (.cmp (.bin .Sub (.l8 11) (.l8 61)) .NotEq (.bin .Mult (.int 2) (.l8 45)))) (.seq (.ret (.un .USub (.int 1))) .skip) .skip) (.seq (.assign 181 (.bin .FloorDiv (.bin .Add (.l8 11) (.l8 61)) (.int 2))) (.seq (.assign 234 (.bin .BitAnd (.sub (.attr (.l8 102) 109) (.l9 100)) (.sub (.attr (.l8 102) 107) (.bin .Sub (.int 1) (.l8 0))))) (.seq (.ite (.cmp (.bin .BitAnd (.sub (.sub (.attr (.attr (.l8 102) 33) 65) (.l8 0)) (.l8 181)) (.l8 234)) .Eq (.int 0)) (.seq (.ret (.un .USub (.int 1))) .skip) .skip) (.seq (.ret (.l8 181)) .skip))))))
noncomputable def KE:MS:=(.seq (.assign 236 (.bin .BitOr (.sub (.attr (.attr (.l8 102) 33) 80) (.l8 11)) (.sub (.attr (.attr (.l8 102) 33) 80) (.l8 61)))) (.seq (.ret (.bin .Sub (.attr (.l8 102) 158) (.bin .BitAnd (.attr (.l8 102) 158) (.l8 236)))) .skip))
noncomputable def I9:MS:=(.seq (.ite (.cmp (.attr (.l8 102) 196) .GtE (.int 0)) (.seq (.mH (.l8 102) 104 .BitXor (.sub (.attr (.attr (.l8 102) 105) 196) (.bin .Mod (.attr (.l8 102) 196) (.attr (.attr (.l8 102) 33) 45)))) (.seq (.setAttr (.l8 102) 196 (.un .USub (.int 1))) .skip)) .skip) .skip)
noncomputable def L8:MS:=(.seq (.ite (.cmp (.l8 27) .GtE (.int 0)) (.seq (.mH (.l8 102) 104 .BitXor (.sub (.attr (.attr (.l8 102) 105) 196) (.bin .Mod (.l8 27) (.attr (.attr (.l8 102) 33) 45)))) .skip) .skip) (.seq (.setAttr (.l8 102) 196 (.l8 27)) .skip))
noncomputable def He:MS:=(.seq (.ite (.cmp (.l8 158) .NotEq (.attr (.l8 102) 158)) (.seq (.mH (.l8 102) 104 .BitXor (.bin .BitXor (.sub (.attr (.attr (.l8 102) 105) 158) (.attr (.l8 102) 158)) (.sub (.attr (.attr (.l8 102) 105) 158) (.l8 158)))) (.seq (.setAttr (.l8 102) 158 (.l8 158)) .skip)) .skip) .skip)
noncomputable def D4:MS:=(.seq (.assign 3 (.call 232 (.cons (.l8 102) (.cons (.l8 19) .nil)))) (.seq (.assign 0 (.attr (.l8 102) 0)) (.seq (.assign 11 (.call 20 (.cons (.l8 19) .nil))) (.seq (.assign 61 (.call 21 (.cons (.l8 19) .nil))) (.seq (.assign 13 (.call 22 (.cons (.l8 19) .nil))) (.seq (.assign 242 (.tup (.cons (.un .USub (.int 1)) (.cons (.un .USub (.int 1)) .nil)))) (.seq (.ite (.cmp (.l8 13) .Eq (.l9 162)) (.seq (.assign 242 (.call 233 (.cons (.attr (.l8 102) 33) (.cons (.l8 0) (.cons (.l8 61) .nil))))) .skip) .skip) (.seq (.assign 243 (.call 245 (.cons (.l8 102) (.cons (.l8 19) .nil)))) (.seq (.assign 205 (.sub (.attr (.l8 102) 110) (.l8 243))) (.seq (.expr (.mG (.attr (.l8 102) 244) 0 (.cons (.tup (.cons (.l8 19) (.cons (.l8 205) (.cons (.attr (.l8 102) 158) (.cons (.attr (.l8 102) 196) (.cons (.attr (.l8 102) 241) (.cons (.attr (.l8 102) 104) .nil))))))) .nil))) (.seq (.expr (.call 238 (.cons (.l8 102) .nil))) (.seq (.mH (.l8 102) 241 .Add (.int 1)) (.seq (.ite (.cmp (.l8 205) .NotEq (.l9 9)) (.seq (.expr (.call 112 (.cons (.l8 102) (.cons (.l8 243) .nil)))) (.seq (.setAttr (.l8 102) 241 (.int 0)) .skip)) .skip) (.seq (.ite (.cmp (.l8 13) .Eq (.l9 16)) (.seq (.expr (.call 112 (.cons (.l8 102) (.cons (.l8 11) .nil)))) (.seq (.expr (.call 111 (.cons (.l8 102) (.cons (.call 2 (.cons (.l8 0) (.cons (.call 24 (.cons (.l8 19) .nil)) .nil))) (.cons (.l8 61) .nil))))) .skip)) (.seq (.expr (.call 115 (.cons (.l8 102) (.cons (.l8 11) (.cons (.l8 61) .nil))))) .skip)) (.seq (.ite (.cmp (.l8 13) .Eq (.l9 162)) (.seq (.expr (.call 115 (.cons (.l8 102) (.cons (.sub (.l8 242) (.int 0)) (.cons (.sub (.l8 242) (.int 1)) .nil))))) .skip) .skip) (.seq (.ite (.cmp (.call 5 (.cons (.l8 3) .nil)) .Eq (.l9 100)) (.seq (.setAttr (.l8 102) 241 (.int 0)) (.seq (.expr (.call 239 (.cons (.l8 102) (.cons (.call 235 (.cons (.l8 102) (.cons (.l8 0) (.cons (.l8 11) (.cons (.l8 61) .nil))))) .nil)))) .skip)) .skip) (.seq (.expr (.call 240 (.cons (.l8 102) (.cons (.call 237 (.cons (.l8 102) (.cons (.l8 11) (.cons (.l8 61) .nil)))) .nil)))) (.seq (.ite (.cmp (.l8 0) .Eq (.l9 117)) (.seq (.mH (.l8 102) 53 .Add (.int 1)) .skip) .skip) (.seq (.setAttr (.l8 102) 0 (.bin .Sub (.int 1) (.l8 0))) (.seq (.mH (.l8 102) 104 .BitXor (.attr (.attr (.l8 102) 105) 0)) .skip))))))))))))))))))))
noncomputable def EW:MS:=(.seq (.ite (.cmp (.blt 0 (.cons (.attr (.l8 102) 244) .nil)) .Eq (.int 0)) (.seq (.raise 1 (.str [110,111,32,109,111,118,101,32,116,111,32,116,97,107,101,32,98,97,99,107])) .skip) .skip) (.seq (.mA [19,205,158,196,241,104] (.mG (.attr (.l8 102) 244) 1 .nil)) (.seq (.assign 0 (.bin .Sub (.int 1) (.attr (.l8 102) 0))) (.seq (.setAttr (.l8 102) 0 (.l8 0)) (.seq (.assign 11 (.call 20 (.cons (.l8 19) .nil))) (.seq (.assign 61 (.call 21 (.cons (.l8 19) .nil))) (.seq (.assign 13 (.call 22 (.cons (.l8 19) .nil))) (.seq (.ite (.cmp (.l8 13) .Eq (.l9 16)) (.seq (.expr (.call 112 (.cons (.l8 102) (.cons (.l8 61) .nil)))) (.seq (.expr (.call 111 (.cons (.l8 102) (.cons (.call 2 (.cons (.l8 0) (.cons (.l9 100) .nil))) (.cons (.l8 11) .nil))))) .skip)) (.seq (.expr (.call 115 (.cons (.l8 102) (.cons (.l8 61) (.cons (.l8 11) .nil))))) .skip)) (.seq (.ite (.cmp (.l8 13) .Eq (.l9 162)) (.seq (.assign 242 (.call 233 (.cons (.attr (.l8 102) 33) (.cons (.l8 0) (.cons (.l8 61) .nil))))) (.seq (.expr (.call 115 (.cons (.l8 102) (.cons (.sub (.l8 242) (.int 1)) (.cons (.sub (.l8 242) (.int 0)) .nil))))) .skip)) .skip) (.seq (.ite (.cmp (.l8 205) .NotEq (.l9 9)) (.seq (.expr (.call 111 (.cons (.l8 102) (.cons (.l8 205) (.cons (.call 245 (.cons (.l8 102) (.cons (.l8 19) .nil))) .nil))))) .skip) .skip) (.seq (.ite (.cmp (.l8 0) .Eq (.l9 117)) (.seq (.mH (.l8 102) 53 .Sub (.int 1)) .skip) .skip) (.seq (.setAttr (.l8 102) 158 (.l8 158)) (.seq (.setAttr (.l8 102) 196 (.l8 196)) (.seq (.setAttr (.l8 102) 241 (.l8 241)) (.seq (.setAttr (.l8 102) 104 (.l8 104)) .skip)))))))))))))))
noncomputable def WB:MS:=(.seq (.ret (.or (.cmp (.sub (.l8 110) (.call 21 (.cons (.l8 19) .nil))) .NotEq (.l9 9)) (.cmp (.call 22 (.cons (.l8 19) .nil)) .Eq (.l9 195)))) .skip)
noncomputable def KA:MS:=(.seq (.ite (.cmp (.call 21 (.cons (.l8 19) .nil)) .Gt (.call 20 (.cons (.l8 19) .nil))) (.seq (.ret (.l9 250)) .skip) .skip) (.seq (.ret (.l9 249)) .skip))
noncomputable def L0:MS:=(.seq (.expr (.call 246 (.cons (.l8 102) (.cons (.l8 19) .nil)))) (.seq (.assign 252 (.str [])) (.seq (.ite (.call 135 (.cons (.l8 102) .nil)) (.seq (.assign 252 (.str [35])) (.seq (.ite (.call 218 (.cons (.l8 102) .nil)) (.seq (.assign 252 (.str [43])) .skip) .skip) .skip)) .skip) (.seq (.expr (.call 247 (.cons (.l8 102) .nil))) (.seq (.ret (.l8 252)) .skip)))))
noncomputable def D6:MS:=(.seq (.mB [1] true (.list (.cons (.l9 17) (.cons (.l9 97) (.cons (.l9 96) (.cons (.l9 95) (.cons (.l9 99) .nil)))))) (.seq (.ite (.and (.cmp (.call 10 (.cons (.l8 1) .nil)) .Eq (.l8 254)) (.cmp (.l8 254) .In (.l8 255))) (.seq (.ret (.l8 1)) .skip) .skip) .skip)) (.seq (.ret (.l9 23)) .skip))
noncomputable def Pd:MS:=(.seq (.ite (.or (.cmp (.slice (.l8 224) (.un .USub (.int 1)) .none) .Eq (.str [43])) (.cmp (.slice (.l8 224) (.un .USub (.int 1)) .none) .Eq (.str [35]))) (.seq (.ret (.tup (.cons (.slice (.l8 224) .none (.un .USub (.int 1))) (.cons (.slice (.l8 224) (.un .USub (.int 1)) .none) .nil)))) .skip) .skip) (.seq (.ret (.tup (.cons (.l8 224) (.cons (.str []) .nil)))) .skip))
noncomputable def Gs:MS:=(.seq (.assign 226 (.un .USub (.int 1))) (.seq (.assign 225 (.un .USub (.int 1))) (.seq (.ite (.and (.cmp (.slice (.l8 258) .none (.int 1)) .NotEq (.str [])) (.cmp (.sub (.l8 258) (.int 0)) .In (.str [97,98,99,100,101,102,103,104]))) (.seq (.assign 226 (.mG (.str [97,98,99,100,101,102,103,104]) 2 (.cons (.sub (.l8 258) (.int 0)) .nil))) (.seq (.assign 258 (.slice (.l8 258) (.int 1) .none)) .skip)) .skip) (.seq (.ite (.and (.cmp (.slice (.l8 258) .none (.int 1)) .NotEq (.str [])) (.cmp (.sub (.l8 258) (.int 0)) .In (.str [49,50,51,52,53,54,55,56]))) (.seq (.assign 225 (.mG (.str [49,50,51,52,53,54,55,56]) 2 (.cons (.sub (.l8 258) (.int 0)) .nil))) (.seq (.assign 258 (.slice (.l8 258) (.int 1) .none)) .skip)) .skip) (.seq (.ite (.cmp (.l8 258) .NotEq (.str [])) (.seq (.ret .none) .skip) .skip) (.seq (.ret (.tup (.cons (.l8 226) (.cons (.l8 225) .nil)))) .skip))))))
noncomputable def DK:MS:=(.seq (.assign 261 (.l8 224)) (.seq (.assign 1 (.call 256 (.cons (.slice (.l8 261) .none (.int 1)) (.cons (.str [78,66,82,81,75]) .nil)))) (.seq (.assign 14 (.l9 23)) (.seq (.ite (.cmp (.l8 1) .NotEq (.l9 23)) (.seq (.assign 261 (.slice (.l8 261) (.int 1) .none)) .skip) (.seq (.assign 1 (.l9 100)) (.seq (.assign 14 (.call 256 (.cons (.slice (.l8 261) (.un .USub (.int 1)) .none) (.cons (.str [78,66,82,81]) .nil)))) (.seq (.ite (.cmp (.l8 14) .NotEq (.l9 23)) (.seq (.assign 261 (.slice (.l8 261) .none (.un .USub (.int 1)))) (.seq (.ite (.cmp (.slice (.l8 261) (.un .USub (.int 1)) .none) .Eq (.str [61])) (.seq (.assign 261 (.slice (.l8 261) .none (.un .USub (.int 1)))) .skip) .skip) .skip)) .skip) .skip)))) (.seq (.assign 61 (.call 227 (.cons (.l8 45) (.cons (.l8 49) (.cons (.slice (.l8 261) (.un .USub (.int 2)) .none) .nil))))) (.seq (.ite (.cmp (.l8 61) .Lt (.int 0)) (.seq (.raise 2 (.l8 224)) .skip) .skip) (.seq (.assign 258 (.slice (.l8 261) .none (.un .USub (.int 2)))) (.seq (.assign 260 (.cmp (.slice (.l8 258) (.un .USub (.int 1)) .none) .Eq (.str [120]))) (.seq (.ite (.l8 260) (.seq (.assign 258 (.slice (.l8 258) .none (.un .USub (.int 1)))) .skip) .skip) (.seq (.assign 11 (.call 259 (.cons (.l8 258) .nil))) (.seq (.ite (.cmp (.l8 11) .Is .none) (.seq (.raise 2 (.l8 224)) .skip) .skip) (.seq (.ite (.and (.cmp (.l8 1) .Eq (.l9 100)) (.and (.l8 260) (.cmp (.sub (.l8 11) (.int 0)) .Lt (.int 0)))) (.seq (.raise 2 (.l8 224)) .skip) .skip) (.seq (.ret (.tup (.cons (.l8 1) (.cons (.sub (.l8 11) (.int 0)) (.cons (.sub (.l8 11) (.int 1)) (.cons (.l8 260) (.cons (.l8 61) (.cons (.l8 14) .nil)))))))) .skip)))))))))))))
noncomputable def TG:MS:=(.seq (.mA [1,226,225,260,61,14] (.l8 263)) (.seq (.assign 11 (.call 20 (.cons (.l8 19) .nil))) (.seq (.ite (.or (.cmp (.call 22 (.cons (.l8 19) .nil)) .Eq (.l9 162)) (.or (.cmp (.call 21 (.cons (.l8 19) .nil)) .NotEq (.l8 61)) (.cmp (.call 24 (.cons (.l8 19) .nil)) .NotEq (.l8 14)))) (.seq (.ret (.bool false)) .skip) .skip) (.seq (.ite (.or (.cmp (.call 5 (.cons (.sub (.l8 110) (.l8 11)) .nil)) .NotEq (.l8 1)) (.cmp (.call 248 (.cons (.l8 110) (.cons (.l8 19) .nil))) .NotEq (.l8 260))) (.seq (.ret (.bool false)) .skip) .skip) (.seq (.ite (.and (.cmp (.l8 226) .GtE (.int 0)) (.cmp (.call 219 (.cons (.l8 45) (.cons (.l8 11) .nil))) .NotEq (.l8 226))) (.seq (.ret (.bool false)) .skip) .skip) (.seq (.ret (.or (.cmp (.l8 225) .Lt (.int 0)) (.cmp (.call 220 (.cons (.l8 45) (.cons (.l8 11) .nil))) .Eq (.l8 225)))) .skip))))))
noncomputable def FY:MS:=(.seq (.assign 31 (.list .nil)) (.seq (.ite (.or (.cmp (.l8 261) .Eq (.l9 250)) (.cmp (.l8 261) .Eq (.l9 249))) (.seq (.mB [19] true (.l8 214) (.seq (.ite (.and (.cmp (.call 22 (.cons (.l8 19) .nil)) .Eq (.l9 162)) (.cmp (.call 251 (.cons (.l8 19) .nil)) .Eq (.l8 261))) (.seq (.expr (.mG (.l8 31) 0 (.cons (.l8 19) .nil))) .skip) .skip) .skip)) (.seq (.ret (.l8 31)) .skip)) .skip) (.seq (.assign 263 (.call 262 (.cons (.l8 261) (.cons (.l8 45) (.cons (.l8 49) .nil))))) (.seq (.mB [19] true (.l8 214) (.seq (.ite (.call 264 (.cons (.l8 45) (.cons (.l8 110) (.cons (.l8 19) (.cons (.l8 263) .nil))))) (.seq (.expr (.mG (.l8 31) 0 (.cons (.l8 19) .nil))) .skip) .skip) .skip)) (.seq (.ret (.l8 31)) .skip)))))
noncomputable def Pk:MS:=(.seq (.mA [261,252] (.call 257 (.cons (.l8 224) .nil))) (.seq (.assign 68 (.call 265 (.cons (.l8 45) (.cons (.l8 49) (.cons (.l8 110) (.cons (.l8 214) (.cons (.l8 261) .nil))))))) (.seq (.ite (.cmp (.l8 68) .Eq (.list .nil)) (.seq (.raise 2 (.l8 224)) .skip) .skip) (.seq (.ite (.cmp (.blt 0 (.cons (.l8 68) .nil)) .Gt (.int 1)) (.seq (.raise 3 (.l8 224)) .skip) .skip) (.seq (.ret (.tup (.cons (.sub (.l8 68) (.int 0)) (.cons (.l8 252) .nil)))) .skip)))))
noncomputable def NL:MS:=(.seq (.mA [19,252] (.call 266 (.cons (.attr (.attr (.l8 102) 33) 45) (.cons (.attr (.attr (.l8 102) 33) 49) (.cons (.attr (.l8 102) 110) (.cons (.call 216 (.cons (.l8 102) .nil)) (.cons (.l8 224) .nil))))))) (.seq (.ite (.and (.cmp (.l8 252) .NotEq (.str [])) (.cmp (.call 253 (.cons (.l8 102) (.cons (.l8 19) .nil))) .NotEq (.l8 252))) (.seq (.raise 2 (.l8 224)) .skip) .skip) (.seq (.ret (.l8 19)) .skip)))
noncomputable def Hc:MS:=(.seq (.ite (.cmp (.call 22 (.cons (.l8 19) .nil)) .Eq (.l9 162)) (.seq (.ret (.call 251 (.cons (.l8 19) .nil))) .skip) .skip) (.seq (.assign 1 (.call 5 (.cons (.sub (.l8 110) (.call 20 (.cons (.l8 19) .nil))) .nil))) (.seq (.assign 224 (.call 223 (.cons (.l8 45) (.cons (.call 20 (.cons (.l8 19) .nil)) .nil)))) (.seq (.ite (.cmp (.l8 1) .NotEq (.l9 100)) (.seq (.assign 224 (.bin .Add (.call 10 (.cons (.l8 1) .nil)) (.l8 224))) .skip) .skip) (.seq (.ite (.call 248 (.cons (.l8 110) (.cons (.l8 19) .nil))) (.seq (.assign 224 (.bin .Add (.l8 224) (.str [120]))) .skip) (.seq (.assign 224 (.bin .Add (.l8 224) (.str [45]))) .skip)) (.seq (.assign 224 (.bin .Add (.l8 224) (.call 223 (.cons (.l8 45) (.cons (.call 21 (.cons (.l8 19) .nil)) .nil))))) (.seq (.ite (.cmp (.call 24 (.cons (.l8 19) .nil)) .NotEq (.l9 23)) (.seq (.assign 224 (.bin .Add (.bin .Add (.l8 224) (.str [61])) (.call 10 (.cons (.call 24 (.cons (.l8 19) .nil)) .nil)))) .skip) .skip) (.seq (.ret (.l8 224)) .skip))))))))
noncomputable def HQ:MS:=(.seq (.mA [261,252] (.call 257 (.cons (.l8 224) .nil))) (.seq (.mB [19] true (.l8 214) (.seq (.ite (.cmp (.call 268 (.cons (.l8 45) (.cons (.l8 110) (.cons (.l8 19) .nil)))) .Eq (.l8 261)) (.seq (.ret (.tup (.cons (.l8 19) (.cons (.l8 252) .nil)))) .skip) .skip) .skip)) (.seq (.raise 1 (.l8 224)) .skip)))
noncomputable def L6:MS:=(.seq (.mA [19,252] (.call 269 (.cons (.attr (.attr (.l8 102) 33) 45) (.cons (.attr (.l8 102) 110) (.cons (.call 216 (.cons (.l8 102) .nil)) (.cons (.l8 224) .nil)))))) (.seq (.ite (.and (.cmp (.l8 252) .NotEq (.str [])) (.cmp (.call 253 (.cons (.l8 102) (.cons (.l8 19) .nil))) .NotEq (.l8 252))) (.seq (.raise 1 (.l8 224)) .skip) .skip) (.seq (.ret (.l8 19)) .skip)))
noncomputable def DJ:MS:=(.seq (.ite (.and (.cmp (.blt 0 (.cons (.l8 224) .nil)) .NotEq (.int 4)) (.cmp (.blt 0 (.cons (.l8 224) .nil)) .NotEq (.int 5))) (.seq (.raise 1 (.l8 224)) .skip) .skip) (.seq (.assign 271 (.list .nil)) (.seq (.mB [252] true (.l8 224) (.seq (.expr (.mG (.l8 271) 0 (.cons (.mG (.str [49,50,51,52,53,54,55,56]) 2 (.cons (.l8 252) .nil)) .nil))) .skip)) (.seq (.mB [272] true (.list (.cons (.int 0) (.cons (.int 2) .nil))) (.seq (.ite (.or (.un .Not (.oI (.int 0) .LtE (.sub (.l8 271) (.l8 272)) .Lt (.l8 45))) (.un .Not (.oI (.int 0) .LtE (.sub (.l8 271) (.bin .Add (.l8 272) (.int 1))) .Lt (.l8 49)))) (.seq (.raise 1 (.l8 224)) .skip) .skip) .skip)) (.seq (.assign 14 (.l9 23)) (.seq (.ite (.cmp (.blt 0 (.cons (.l8 224) .nil)) .Eq (.int 5)) (.seq (.ite (.un .Not (.oI (.int 0) .LtE (.sub (.l8 271) (.int 4)) .Lt (.int 4))) (.seq (.raise 1 (.l8 224)) .skip) .skip) (.seq (.assign 14 (.bin .Sub (.l9 95) (.sub (.l8 271) (.int 4)))) .skip)) .skip) (.seq (.ret (.tup (.cons (.bin .Add (.bin .Mult (.sub (.l8 271) (.int 1)) (.l8 45)) (.sub (.l8 271) (.int 0))) (.cons (.bin .Add (.bin .Mult (.sub (.l8 271) (.int 3)) (.l8 45)) (.sub (.l8 271) (.int 2))) (.cons (.l8 14) .nil))))) .skip)))))))
noncomputable def NM:MS:=(.seq (.mA [11,61,14] (.call 273 (.cons (.l8 45) (.cons (.l8 49) (.cons (.l8 224) .nil))))) (.seq (.mB [19] true (.l8 214) (.seq (.ite (.and (.cmp (.call 20 (.cons (.l8 19) .nil)) .Eq (.l8 11)) (.and (.cmp (.call 21 (.cons (.l8 19) .nil)) .Eq (.l8 61)) (.cmp (.call 24 (.cons (.l8 19) .nil)) .Eq (.l8 14)))) (.seq (.ret (.l8 19)) .skip) .skip) .skip)) (.seq (.raise 1 (.l8 224)) .skip)))
noncomputable def L5:MS:=(.seq (.ret (.call 274 (.cons (.attr (.attr (.l8 102) 33) 45) (.cons (.attr (.attr (.l8 102) 33) 49) (.cons (.call 216 (.cons (.l8 102) .nil)) (.cons (.l8 224) .nil)))))) .skip)
noncomputable def EV:MS:=(.seq (.nB (.call 231 (.cons (.l8 102) (.cons (.l8 224) .nil))) 1 (.seq .skip .skip)) (.seq (.nB (.call 267 (.cons (.l8 102) (.cons (.l8 224) .nil))) 2 (.seq .skip .skip)) (.seq (.nB (.call 270 (.cons (.l8 102) (.cons (.l8 224) .nil))) 1 (.seq (.ret (.call 275 (.cons (.l8 102) (.cons (.l8 224) .nil)))) .skip)) .skip)))
noncomputable def KG:MS:=(.seq (.ret (.dict (.cons (.cons (.l9 99) (.str [75])) (.cons (.cons (.l9 95) (.str [81])) (.cons (.cons (.l9 96) (.str [82])) (.cons (.cons (.l9 97) (.str [66])) (.cons (.cons (.l9 17) (.str [78])) (.cons (.cons (.l9 100) (.str [])) .nil)))))))) .skip)
noncomputable def Ph:MS:=(.seq (.mS (.l8 278) (.int 1) .Add (.int 1)) (.seq (.ite (.cmp (.sub (.l8 278) (.int 1)) .LtE (.blt 0 (.cons (.sub (.l8 278) (.int 0)) .nil))) (.seq (.ret (.bin .Mod (.sub (.sub (.l8 278) (.int 0)) (.bin .Sub (.sub (.l8 278) (.int 1)) (.int 1))) (.l8 279))) .skip) .skip) (.seq (.ret (.bin .Mod (.bin .Add (.bin .Add (.bin .Mult (.sub (.l8 278) (.int 1)) (.sub (.l8 278) (.int 1))) (.bin .Mult (.int 6) (.sub (.l8 278) (.int 1)))) (.int 4)) (.l8 279))) .skip)))
noncomputable def Av:MS:=(.seq (.assign 49 (.bin .Add (.int 4) (.call 280 (.cons (.l8 278) (.cons (.int 2) .nil))))) (.seq (.assign 63 (.bin .Mult (.int 4) (.l8 49))) (.seq (.assign 287 (.comp (.comp (.bin .Add (.bin .Add (.bin .Mult (.l8 288) (.int 64)) (.l8 282)) (.int 1)) [282] true (.blt 4 (.cons (.l8 63) .nil)) (.bool true)) [288] true (.blt 4 (.cons (.int 15) .nil)) (.bool true))) (.seq (.assign 102 (.call 285 (.cons (.call 87 (.cons (.int 4) (.cons (.l8 49) (.cons (.bool false) (.cons (.bool false) .nil))))) (.cons (.call 286 (.cons (.l8 287) (.cons (.bin .Mult (.list (.cons (.int 0) .nil)) (.int 4)) (.cons (.bin .Mult (.list (.cons (.int 0) .nil)) (.int 16)) (.cons (.int 3) .nil))))) .nil)))) (.seq (.setAttr (.l8 102) 0 (.call 280 (.cons (.l8 278) (.cons (.int 2) .nil)))) (.seq (.assign 284 (.call 280 (.cons (.l8 278) (.cons (.l8 63) .nil)))) (.seq (.assign 283 (.comp (.l8 282) [282] true (.blt 4 (.cons (.l8 63) .nil)) (.cmp (.blt 2 (.cons (.blt 1 (.cons (.bin .Sub (.bin .Mod (.l8 282) (.int 4)) (.bin .Mod (.l8 284) (.int 4))) .nil)) (.cons (.blt 1 (.cons (.bin .Sub (.bin .FloorDiv (.l8 282) (.int 4)) (.bin .FloorDiv (.l8 284) (.int 4))) .nil)) .nil))) .Gt (.int 1)))) (.seq (.expr (.call 111 (.cons (.l8 102) (.cons (.call 2 (.cons (.attr (.l8 102) 0) (.cons (.l9 99) .nil))) (.cons (.l8 284) .nil))))) (.seq (.expr (.call 111 (.cons (.l8 102) (.cons (.call 2 (.cons (.bin .Sub (.int 1) (.attr (.l8 102) 0)) (.cons (.l9 99) .nil))) (.cons (.sub (.l8 283) (.call 280 (.cons (.l8 278) (.cons (.blt 0 (.cons (.l8 283) .nil)) .nil)))) .nil))))) (.seq (.mB [281] true (.blt 4 (.cons (.call 280 (.cons (.l8 278) (.cons (.int 3) .nil))) .nil)) (.seq (.assign 1 (.sub (.list (.cons (.l9 96) (.cons (.l9 97) (.cons (.l9 17) (.cons (.l9 100) (.cons (.l9 100) .nil)))))) (.call 280 (.cons (.l8 278) (.cons (.int 5) .nil))))) (.seq (.assign 0 (.ite (.cmp (.call 280 (.cons (.l8 278) (.cons (.int 3) .nil))) .Gt (.int 0)) (.attr (.l8 102) 0) (.bin .Sub (.int 1) (.attr (.l8 102) 0)))) (.seq (.assign 282 (.call 280 (.cons (.l8 278) (.cons (.l8 63) .nil)))) (.seq (.ite (.or (.cmp (.sub (.attr (.l8 102) 110) (.l8 282)) .NotEq (.l9 9)) (.and (.cmp (.l8 1) .Eq (.l9 100)) (.cmp (.bin .FloorDiv (.l8 282) (.int 4)) .In (.tup (.cons (.int 0) (.cons (.bin .Sub (.l8 49) (.int 1)) .nil)))))) (.seq .cont .skip) .skip) (.seq (.expr (.call 111 (.cons (.l8 102) (.cons (.call 2 (.cons (.l8 0) (.cons (.l8 1) .nil))) (.cons (.l8 282) .nil))))) (.seq (.ite (.call 134 (.cons (.l8 102) (.cons (.bin .Sub (.int 1) (.attr (.l8 102) 0)) .nil))) (.seq (.expr (.call 112 (.cons (.l8 102) (.cons (.l8 282) .nil)))) .skip) .skip) .skip))))))) (.seq (.ret (.l8 102)) .skip)))))))))))
noncomputable def L2:MS:=(.seq (.ret (.bin .Add (.sub (.str [97,98,99,100]) (.bin .Mod (.l8 282) (.int 4))) (.sub (.str [49,50,51,52,53]) (.bin .FloorDiv (.l8 282) (.int 4))))) .skip)
noncomputable def Pi:MS:=(.seq (.expr (.call 246 (.cons (.l8 102) (.cons (.l8 19) .nil)))) (.seq (.assign 291 (.ite (.un .Not (.call 135 (.cons (.l8 102) .nil))) (.str []) (.ite (.cmp (.call 216 (.cons (.l8 102) .nil)) .NotEq (.list .nil)) (.str [43]) (.str [35])))) (.seq (.expr (.call 247 (.cons (.l8 102) .nil))) (.seq (.ret (.l8 291)) .skip))))
noncomputable def AY:MS:=(.seq (.mA [82,61,14] (.tup (.cons (.call 20 (.cons (.l8 19) .nil)) (.cons (.call 21 (.cons (.l8 19) .nil)) (.cons (.call 24 (.cons (.l8 19) .nil)) .nil))))) (.seq (.assign 1 (.call 5 (.cons (.sub (.attr (.l8 102) 110) (.l8 82)) .nil))) (.seq (.assign 260 (.ite (.cmp (.sub (.attr (.l8 102) 110) (.l8 61)) .NotEq (.l9 9)) (.str [120]) (.str []))) (.seq (.assign 297 (.call 290 (.cons (.l8 82) .nil))) (.seq (.assign 299 (.ite (.cmp (.l8 14) .NotEq (.l9 23)) (.list (.cons (.bin .Add (.str [61]) (.sub (.call 277 .nil) (.l8 14))) (.cons (.sub (.call 277 .nil) (.l8 14)) .nil))) (.list (.cons (.str []) .nil)))) (.seq (.assign 194 (.list (.cons (.str []) (.cons (.sub (.l8 297) (.int 0)) (.cons (.sub (.l8 297) (.int 1)) (.cons (.l8 297) .nil)))))) (.seq (.ite (.and (.cmp (.l8 1) .Eq (.l9 100)) (.cmp (.l8 260) .Eq (.str [120]))) (.seq (.assign 194 (.list (.cons (.sub (.l8 297) (.int 0)) (.cons (.l8 297) .nil)))) .skip) .skip) (.seq (.assign 295 (.n9 (.bin .Add (.bin .Add (.bin .Add (.bin .Add (.sub (.call 277 .nil) (.l8 1)) (.l8 11)) (.l8 260)) (.call 290 (.cons (.l8 61) .nil))) (.l8 300)) 11 (.l8 194) 300 (.l8 299))) (.seq (.assign 296 (.bin .Add (.bin .Add (.l8 297) (.call 290 (.cons (.l8 61) .nil))) (.ite (.cmp (.l8 14) .Eq (.l9 23)) (.str []) (.mG (.sub (.call 277 .nil) (.l8 14)) 3 .nil)))) (.seq (.assign 294 (.bin .Add (.bin .Add (.bin .Add (.bin .Add (.sub (.call 277 .nil) (.l8 1)) (.l8 297)) (.ite (.cmp (.l8 260) .NotEq (.str [])) (.l8 260) (.str [45]))) (.call 290 (.cons (.l8 61) .nil))) (.sub (.l8 299) (.int 0)))) (.seq (.assign 293 (.mG (.str []) 4 (.cons (.comp (.bin .Add (.blt 3 (.cons (.bin .Add (.mG (.str [97,98,99,100]) 2 (.cons (.sub (.l8 298) (.int 0)) .nil)) (.int 1)) .nil)) (.sub (.l8 298) (.int 1))) [298] true (.tup (.cons (.l8 297) (.cons (.call 290 (.cons (.l8 61) .nil)) .nil))) (.bool true)) .nil))) (.seq (.ite (.cmp (.l8 14) .NotEq (.l9 23)) (.seq (.aug 293 .Add (.sub (.dict (.cons (.cons (.l9 95) (.str [49])) (.cons (.cons (.l9 96) (.str [50])) (.cons (.cons (.l9 97) (.str [51])) (.cons (.cons (.l9 17) (.str [52])) .nil))))) (.l8 14))) .skip) .skip) (.seq (.ret (.tup (.cons (.l8 296) (.cons (.l8 295) (.cons (.l8 294) (.cons (.l8 293) (.cons (.call 292 (.cons (.l8 102) (.cons (.l8 19) .nil))) .nil))))))) .skip)))))))))))))
noncomputable def Cc:MS:=(.seq (.mA [261,291] (.ite (.cmp (.slice (.l8 224) (.un .USub (.int 1)) .none) .In (.tup (.cons (.str [43]) (.cons (.str [35]) .nil)))) (.tup (.cons (.slice (.l8 224) .none (.un .USub (.int 1))) (.cons (.sub (.l8 224) (.un .USub (.int 1))) .nil))) (.tup (.cons (.l8 224) (.cons (.str []) .nil))))) (.seq (.mB [19,303] false (.l8 302) (.seq (.ite (.or (.cmp (.sub (.l8 303) (.int 0)) .Eq (.l8 224)) (.cmp (.sub (.l8 303) (.int 3)) .Eq (.l8 224))) (.seq (.ret (.l8 19)) .skip) .skip) .skip)) (.seq (.assign 304 (.comp (.tup (.cons (.l8 19) (.cons (.l8 303) .nil))) [19,303] false (.l8 302) (.cmp (.l8 261) .In (.sub (.l8 303) (.int 1))))) (.seq (.ite (.and (.cmp (.blt 0 (.cons (.l8 304) .nil)) .Eq (.int 1)) (.cmp (.l8 291) .In (.tup (.cons (.str []) (.cons (.sub (.sub (.sub (.l8 304) (.int 0)) (.int 1)) (.int 4)) .nil))))) (.seq (.ret (.sub (.sub (.l8 304) (.int 0)) (.int 0))) .skip) .skip) (.seq (.mB [19,303] false (.l8 302) (.seq (.ite (.and (.cmp (.sub (.l8 303) (.int 2)) .Eq (.l8 261)) (.cmp (.l8 291) .In (.tup (.cons (.str []) (.cons (.sub (.l8 303) (.int 4)) .nil))))) (.seq (.ret (.l8 19)) .skip) .skip) .skip)) (.seq (.ret .none) .skip))))))
noncomputable def NH:MS:=(.seq (.nB (.call 276 (.cons (.l8 102) (.cons (.l8 224) .nil))) 1 (.seq (.ret .none) .skip)) .skip)
noncomputable def Dc:MS:=(.seq (.assign 278 (.list (.cons (.slice (.l8 307) .none (.int 40)) (.cons (.int 0) .nil)))) (.seq (.assign 102 (.call 289 (.cons (.l8 278) .nil))) (.seq (.assign 302 (.comp (.tup (.cons (.l8 19) (.cons (.call 301 (.cons (.l8 102) (.cons (.l8 19) .nil))) .nil))) [19] true (.call 216 (.cons (.l8 102) .nil)) (.bool true))) (.seq (.assign 309 (.list (.cons (.mG (.str []) 4 (.cons (.comp (.sub (.l9 310) (.call 280 (.cons (.l8 278) (.cons (.blt 0 (.cons (.l9 310) .nil)) .nil)))) [281] true (.blt 4 (.cons (.call 280 (.cons (.l8 278) (.cons (.int 7) .nil))) .nil)) (.bool true)) .nil)) .nil))) (.seq (.ite (.cmp (.l8 302) .NotEq (.list .nil)) (.seq (.assign 311 (.call 280 (.cons (.l8 278) (.cons (.int 6) .nil)))) (.seq (.assign 303 (.sub (.sub (.l8 302) (.call 280 (.cons (.l8 278) (.cons (.blt 0 (.cons (.l8 302) .nil)) .nil)))) (.int 1))) (.seq (.assign 224 (.sub (.list (.cons (.sub (.l8 303) (.int 0)) (.cons (.sub (.sub (.l8 303) (.int 1)) (.call 280 (.cons (.l8 278) (.cons (.blt 0 (.cons (.sub (.l8 303) (.int 1)) .nil)) .nil)))) (.cons (.sub (.l8 303) (.int 2)) (.cons (.sub (.l8 303) (.int 3)) (.cons (.bin .Add (.sub (.l8 303) (.int 2)) (.sub (.l8 303) (.int 4))) (.cons (.bin .Add (.sub (.sub (.l8 303) (.int 1)) (.int 0)) (.str [43])) .nil))))))) (.l8 311))) (.seq (.assign 282 (.call 280 (.cons (.l8 278) (.cons (.bin .Add (.blt 0 (.cons (.l8 224) .nil)) (.int 1)) .nil)))) (.seq (.assign 252 (.sub (.l9 310) (.call 280 (.cons (.l8 278) (.cons (.blt 0 (.cons (.l9 310) .nil)) .nil))))) (.seq (.aug 309 .Add (.list (.cons (.l8 224) (.cons (.bin .Add (.bin .Add (.slice (.l8 224) .none (.l8 282)) (.sub (.list (.cons (.str []) (.cons (.l8 252) .nil))) (.call 280 (.cons (.l8 278) (.cons (.int 2) .nil))))) (.slice (.l8 224) (.bin .Add (.l8 282) (.int 1)) .none)) .nil)))) .skip)))))) .skip) (.seq (.assign 308 (.tup (.cons (.slice (.attr (.l8 102) 110) .none .none) (.cons (.attr (.l8 102) 0) (.cons (.attr (.l8 102) 104) (.cons (.attr (.l8 102) 241) (.cons (.attr (.l8 102) 53) .nil))))))) (.seq (.mB [224] true (.l8 309) (.seq (.ite (.cmp (.call 306 (.cons (.l8 102) (.cons (.l8 224) .nil))) .NotEq (.call 305 (.cons (.l8 302) (.cons (.l8 224) .nil)))) (.seq (.ret (.bool false)) .skip) .skip) .skip)) (.seq (.ret (.and (.cmp (.tup (.cons (.attr (.l8 102) 110) (.cons (.attr (.l8 102) 0) (.cons (.attr (.l8 102) 104) (.cons (.attr (.l8 102) 241) (.cons (.attr (.l8 102) 53) .nil)))))) .Eq (.l8 308)) (.cmp (.attr (.l8 102) 244) .Eq (.list .nil)))) .skip))))))))
noncomputable def D8:MS:=(.seq (.assign 61 (.call 21 (.cons (.l8 19) .nil))) (.seq (.ite (.cmp (.call 22 (.cons (.l8 19) .nil)) .NotEq (.l9 195)) (.seq (.ret (.l8 61)) .skip) .skip) (.seq (.ite (.cmp (.attr (.l8 102) 0) .Eq (.l9 116)) (.seq (.ret (.bin .Sub (.l8 61) (.attr (.attr (.l8 102) 33) 45))) .skip) .skip) (.seq (.ret (.bin .Add (.l8 61) (.attr (.attr (.l8 102) 33) 45))) .skip))))
noncomputable def D9:MS:=(.seq (.assign 61 (.call 21 (.cons (.l8 19) .nil))) (.seq (.ite (.cmp (.call 22 (.cons (.l8 19) .nil)) .NotEq (.l9 195)) (.seq (.ret (.l8 61)) .skip) .skip) (.seq (.ite (.cmp (.attr (.l8 102) 0) .Eq (.l9 116)) (.seq (.ret (.bin .Sub (.l8 61) (.attr (.attr (.l8 102) 33) 45))) .skip) .skip) (.seq (.ret (.bin .Add (.l8 61) (.attr (.attr (.l8 102) 33) 45))) .skip))))
noncomputable def O9:MS:=(.seq (.setAttr (.l8 313) 45 (.l8 45)) (.seq (.setAttr (.l8 313) 49 (.l8 49)) (.seq (.setAttr (.l8 313) 63 (.bin .Mult (.l8 45) (.l8 49))) (.seq (.setAttr (.l8 313) 53 (.bin .Sub (.bin .LShift (.int 1) (.bin .Mult (.l8 45) (.l8 49))) (.int 1))) (.seq (.setAttr (.l8 313) 85 (.and (.l8 85) (.cmp (.l8 49) .GtE (.int 5)))) (.seq (.setAttr (.l8 313) 79 (.l8 79)) (.seq (.setAttr (.l8 313) 46 (.list .nil)) (.seq (.setAttr (.l8 313) 50 (.list .nil)) (.seq (.setAttr (.l8 313) 36 (.list .nil)) (.seq (.setAttr (.l8 313) 60 (.list .nil)) (.seq (.setAttr (.l8 313) 67 (.list .nil)) (.seq (.setAttr (.l8 313) 65 (.list (.cons (.list .nil) (.cons (.list .nil) .nil)))) (.seq (.setAttr (.l8 313) 83 (.list .nil)) (.seq (.setAttr (.l8 313) 80 (.list .nil)) .skip))))))))))))))
noncomputable def Pa:MS:=(.seq (.setAttr (.l8 313) 33 (.l8 33)) (.seq (.setAttr (.l8 313) 105 (.l8 105)) (.seq (.setAttr (.l8 313) 110 (.bin .Mult (.list (.cons (.l9 9) .nil)) (.attr (.l8 33) 63))) (.seq (.setAttr (.l8 313) 109 (.bin .Mult (.list (.cons (.int 0) .nil)) (.int 7))) (.seq (.setAttr (.l8 313) 107 (.list (.cons (.int 0) (.cons (.int 0) .nil)))) (.seq (.setAttr (.l8 313) 0 (.l9 116)) (.seq (.setAttr (.l8 313) 158 (.int 0)) (.seq (.setAttr (.l8 313) 196 (.un .USub (.int 1))) (.seq (.setAttr (.l8 313) 241 (.int 0)) (.seq (.setAttr (.l8 313) 53 (.int 1)) (.seq (.setAttr (.l8 313) 104 (.int 0)) (.seq (.setAttr (.l8 313) 244 (.list .nil)) .skip))))))))))))
noncomputable def R6:MS:=(.seq (.setAttr (.l8 313) 106 (.l8 106)) (.seq (.setAttr (.l8 313) 196 (.l8 196)) (.seq (.setAttr (.l8 313) 158 (.l8 158)) (.seq (.setAttr (.l8 313) 0 (.l8 0)) .skip))))
noncomputable def Bg:List (List Nat):=[
 [115,105,100,101],
 [107,105,110,100],
 [109,97,107,101,95,112,105,101,99,101],
 [112,105,101,99,101],
 [115,105,100,101,95,111,102],
 [107,105,110,100,95,111,102],
 [110,117,109,98,101,114],
 [105,115,95,112,105,101,99,101],
 [76,69,84,84,69,82,83],
 [69,77,80,84,89],
 [108,101,116,116,101,114,95,111,102],
 [111,114,105,103,105,110],
 [116,111],
 [115,112,101,99,105,97,108],
 [112,114,111,109,111],
 [102,105,101,108,100],
 [80,82,79,77,79,84,73,79,78],
 [75,78,73,71,72,84],
 [112,97,99,107,95,109,111,118,101],
 [109,111,118,101],
 [109,111,118,101,95,102,114,111,109],
 [109,111,118,101,95,116,111],
 [109,111,118,101,95,115,112,101,99,105,97,108],
 [78,79,95,75,73,78,68],
 [109,111,118,101,95,112,114,111,109,111],
 [98],
 [109,111,114,101,95,116,104,97,110,95,111,110,101],
 [115,113,117,97,114,101],
 [119,105,100,116,104],
 [104,105,103,104,101,115,116],
 [108,111,119,101,115,116],
 [111,117,116],
 [115,113,117,97,114,101,115,95,111,102],
 [103,101,111],
 [97],
 [100],
 [114,97,121,115],
 [100,105,114,101,99,116,105,111,110],
 [98,101,116,119,101,101,110],
 [108,105,110,101],
 [99],
 [97,108,105,103,110,101,100],
 [83,84,69,80,95,82,65,78,75,83],
 [105,115,95,103,114,111,119,105,110,103],
 [102],
 [102,105,108,101,115],
 [102,105,108,101,95,109,97,115,107,115],
 [99,111,108,117,109,110],
 [114],
 [114,97,110,107,115],
 [114,97,110,107,95,109,97,115,107,115],
 [114,111,119],
 [97,100,100,95,109,97,115,107,115],
 [102,117,108,108],
 [101,100,103,101],
 [83,84,69,80,95,70,73,76,69,83],
 [105,110,110,101,114,95,115,113,117,97,114,101,115],
 [114,97,121],
 [111,114,100,101,114],
 [105,110,110,101,114],
 [107,105,110,103],
 [103,111,97,108],
 [100,101,108,116,97],
 [115,105,122,101],
 [97,100,100,95,114,97,121,115],
 [112,97,119,110],
 [97,100,100,95,112,97,119,110,115],
 [107,110,105,103,104,116],
 [102,111,117,110,100],
 [110,101,97,114],
 [102,97,114],
 [110,111,116,95,102,105,114,115,116,95,116,119,111],
 [110,111,116,95,108,97,115,116,95,116,119,111],
 [110,111,116,95,102,105,114,115,116],
 [110,111,116,95,108,97,115,116],
 [97,100,100,95,107,110,105,103,104,116,115],
 [105,110,100,101,120],
 [99,111,114,110,101,114],
 [119,97,121],
 [104,97,115,95,99,97,115,116,108,105,110,103],
 [114,105,103,104,116,115,95,108,111,115,116],
 [98,97,115,101],
 [115,116,97,114,116],
 [99,97,115,116,108,101,115],
 [97,100,100,95,99,97,115,116,108,101,115],
 [104,97,115,95,100,111,117,98,108,101],
 [71,101,111,109,101,116,114,121],
 [109,97,107,101,95,103,101,111,109,101,116,114,121],
 [111,99,99,117,112,105,101,100],
 [98,101,104,105,110,100],
 [115,116,111,112],
 [114,97,121,95,97,116,116,97,99,107,115],
 [114,111,111,107,95,97,116,116,97,99,107,115],
 [98,105,115,104,111,112,95,97,116,116,97,99,107,115],
 [113,117,101,101,110,95,97,116,116,97,99,107,115],
 [81,85,69,69,78],
 [82,79,79,75],
 [66,73,83,72,79,80],
 [115,108,105,100,101,114,95,97,116,116,97,99,107,115],
 [75,73,78,71],
 [80,65,87,78],
 [112,105,101,99,101,95,97,116,116,97,99,107,115],
 [112,111,115],
 [115],
 [107,101,121],
 [122,111,98],
 [112,105,101,99,101,115],
 [115,105,100,101,115],
 [98,105,116],
 [107,105,110,100,115],
 [98,111,97,114,100],
 [112,117,116,95,112,105,101,99,101],
 [116,97,107,101,95,112,105,101,99,101],
 [110,117,109,98,101,114,115],
 [98,105,116,115],
 [115,104,105,102,116,95,112,105,101,99,101],
 [87,72,73,84,69],
 [66,76,65,67,75],
 [107,105,110,103,95,115,113,117,97,114,101],
 [115,116,114,97,105,103,104,116,95,115,108,105,100,101,114,115],
 [115,108,97,110,116,105,110,103,95,115,108,105,100,101,114,115],
 [112,97,119,110,95,97,116,116,97,99,107,101,114,115],
 [115,116,101,112,95,97,116,116,97,99,107,101,114,115],
 [104,105,116,115],
 [115,108,97,110,116,105,110,103],
 [115,116,114,97,105,103,104,116],
 [108,105,110,101,95,97,116,116,97,99,107,101,114,115],
 [115,116,101,112,115],
 [97,116,116,97,99,107,101,114,115,95,116,111],
 [111,119,110],
 [105,115,95,97,116,116,97,99,107,101,100],
 [101,118,101,114,121,116,104,105,110,103],
 [99,104,101,99,107,101,114,115,95,111,102],
 [99,104,101,99,107,101,114,115],
 [105,110,95,99,104,101,99,107,95,111,102],
 [105,110,95,99,104,101,99,107],
 [115,110,105,112,101,114,115,95,111,102],
 [112,105,110,110,101,114,115],
 [104,101,108,100],
 [115,110,105,112,101,114],
 [115,110,105,112,101,114,115],
 [105,110,115,105,100,101],
 [115,116,97,110,100,105,110,103],
 [98,108,111,99,107,101,114,115],
 [112,105,110,110,101,100,95,112,105,101,99,101,115],
 [115,113,117,97,114,101,115,95,119,105,116,104,105,110],
 [77,65,89],
 [119,104,111,108,101],
 [101,110,101,109,121],
 [107,105,110,103,95,116,111],
 [71,79,65,76,95,65,84,84,65,67,75,69,68],
 [114,111,111,107,95,116,111],
 [80,65,83,83,69,83,95,65,84,84,65,67,75],
 [107,105,110,103,95,102,114,111,109],
 [73,78,95,67,72,69,67,75],
 [114,111,111,107,95,102,114,111,109],
 [78,79,84,95,70,82,69,69],
 [119,105,110,103],
 [114,105,103,104,116,115],
 [82,73,71,72,84,95,76,79,83,84],
 [78,79,95,87,73,78,71],
 [99,97,115,116,108,101,95,114,101,102,117,115,97,108],
 [67,65,83,84,76,73,78,71],
 [97,100,100,95,99,97,115,116,108,105,110,103],
 [103,111,97,108,115],
 [78,79,82,77,65,76],
 [97,100,100,95,103,111,97,108,115],
 [116,97,114,103,101,116],
 [114,101,97,99,104],
 [97,100,100,95,112,105,101,99,101,95,109,111,118,101,115],
 [115,116,97,103,101],
 [81,85,73,69,84,83],
 [67,65,80,84,85,82,69,83],
 [115,116,97,103,101,95,116,97,114,103,101,116],
 [112,117,115,104,95,115,116,101,112],
 [115,116,97,114,116,95,109,97,115,107],
 [108,97,115,116,95,109,97,115,107],
 [115,104,105,102,116,95,112,117,115,104],
 [115,104,105,102,116,95,99,97,112,116,117,114,101],
 [116,119,111,115],
 [111,110,101,115],
 [112,97,115,115,101,100],
 [101,109,112,116,121],
 [112,97,119,110,115],
 [112,117,115,104,95,116,97,114,103,101,116,115],
 [105,115,95,99,97,112,116,117,114,101],
 [119,105,116,104,95,108,101,115,115,101,114],
 [97,100,100,95,112,114,111,109,111,116,105,111,110,115],
 [115,116,101,112],
 [97,100,100,95,112,108,97,105,110,95,112,117,115,104,101,115],
 [97,100,100,95,112,117,115,104,95,112,114,111,109,111,116,105,111,110,115],
 [108,97,115,116],
 [97,100,100,95,112,97,119,110,95,99,97,112,116,117,114,101,115],
 [97,100,100,95,112,97,119,110,95,109,111,118,101,115],
 [111,114,105,103,105,110,115],
 [69,78,95,80,65,83,83,65,78,84],
 [101,112],
 [97,100,100,95,101,110,95,112,97,115,115,97,110,116],
 [103,105,118,101,110],
 [101,118,97,115,105,111,110,95,116,97,114,103,101,116,115],
 [112,97,115,115,101,100,95,112,97,119,110,95,115,113,117,97,114,101],
 [109,97,121,95,97,110,115,119,101,114,95,101,110,95,112,97,115,115,97,110,116],
 [69,86,65,83,73,79,78,83],
 [97,100,100,95,101,118,97,115,105,111,110,115],
 [116,97,107,101,110,95,115,113,117,97,114,101],
 [116,97,107,101,110],
 [116,97,107,101,110,95,115,113,117,97,114,101,95,108,101,103,97,108,105,116,121],
 [105,115,95,115,97,102,101,95,101,110,95,112,97,115,115,97,110,116],
 [112,105,110,110,101,100],
 [108,105,102,116,101,100],
 [105,115,95,108,101,103,97,108],
 [103,101,110,101,114,97,116,101],
 [78,79,78,95,69,86,65,83,73,79,78,83],
 [112,115,101,117,100,111,95,109,111,118,101,115],
 [109,111,118,101,115],
 [107,101,101,112,95,108,101,103,97,108],
 [108,101,103,97,108,95,109,111,118,101,115],
 [115,116,97,103,101,115],
 [104,97,115,95,108,101,103,97,108,95,109,111,118,101],
 [102,105,108,101,95,111,102],
 [114,97,110,107,95,111,102],
 [70,73,76,69,95,76,69,84,84,69,82,83],
 [82,65,78,75,95,68,73,71,73,84,83],
 [115,113,117,97,114,101,95,110,97,109,101],
 [116,101,120,116],
 [114,97,110,107],
 [102,105,108,101],
 [114,101,97,100,95,115,113,117,97,114,101],
 [112,114,111,109,111,95,108,101,116,116,101,114],
 [114,101,97,100,95,99,111,111,114,100,115],
 [102,105,110,100,95,109,111,118,101],
 [112,97,114,115,101,95,109,111,118,101],
 [109,111,118,101,100,95,112,105,101,99,101],
 [114,111,111,107,95,115,116,101,112],
 [101,110,101,109,105,101,115],
 [112,97,115,115,101,100,95,115,113,117,97,114,101],
 [108,111,115,116],
 [107,101,112,116,95,114,105,103,104,116,115],
 [99,108,101,97,114,95,101,112,95,107,101,121],
 [115,101,116,95,101,112,95,107,101,121],
 [115,101,116,95,114,105,103,104,116,115,95,107,101,121],
 [104,97,108,102],
 [114,111,111,107],
 [119,104,101,114,101],
 [104,105,115,116,111,114,121],
 [116,97,107,101,110,95,115,113,117,97,114,101,95,109,97,107,101,109,111,118,101],
 [100,111,95,109,111,118,101],
 [117,110,100,111,95,109,111,118,101],
 [116,97,107,101,115],
 [76,79,78,71],
 [83,72,79,82,84],
 [99,97,115,116,108,101,95,116,101,120,116],
 [115,105,103,110],
 [99,104,101,99,107,95,115,105,103,110],
 [108,101,116,116,101,114],
 [108,101,116,116,101,114,115],
 [107,105,110,100,95,98,121,95,108,101,116,116,101,114],
 [99,117,116,95,115,105,103,110],
 [114,101,115,116],
 [99,117,116,95,111,114,105,103,105,110],
 [99,114,111,115,115],
 [98,111,100,121],
 [115,112,108,105,116,95,115,97,110],
 [97,115,107,101,100],
 [102,105,116,115],
 [109,101,97,110,116,95,98,121],
 [112,105,99,107,95,115,97,110],
 [112,97,114,115,101,95,115,97,110],
 [108,111,110,103,95,111,102],
 [112,105,99,107,95,108,111,110,103],
 [112,97,114,115,101,95,108,111,110,103],
 [112,108,97,99,101,115],
 [97,116],
 [114,101,97,100,95,105,99,99,102],
 [112,105,99,107,95,105,99,99,102],
 [112,97,114,115,101,95,105,99,99,102],
 [114,101,97,100,95,119,111,114,100],
 [95,108,97,119,95,108,101,116,116,101,114,115],
 [106,97,114],
 [109,97,110,121],
 [95,108,97,119,95,100,114,111,112],
 [116,117,114,110],
 [115,112,111,116],
 [97,112,97,114,116],
 [109,105,110,101],
 [80,111,115,105,116,105,111,110],
 [90,111,98,114,105,115,116],
 [114,111,119,115],
 [109,97,110],
 [95,108,97,119,95,115,101,116,95,117,112],
 [95,108,97,119,95,115,113,117,97,114,101],
 [109,97,114,107],
 [95,108,97,119,95,109,97,114,107],
 [100,105,103,105,116,115],
 [108,111,110,103],
 [98,111,100,105,101,115],
 [119,105,114,101],
 [110,97,109,101],
 [101,97,99,104],
 [101,110,100,115],
 [101,110,100],
 [95,108,97,119,95,115,112,101,108,116],
 [116,97,98,108,101],
 [115,112,101,108,116],
 [115,104,111,114,116],
 [95,108,97,119,95,109,101,97,110,116],
 [95,108,97,119,95,104,101,97,114,100],
 [115,99,114,105,112,116],
 [115,116,111,111,100],
 [116,101,120,116,115],
 [95,108,97,119,95,115,105,103,110,115],
 [102,111,114,109],
 [108,97,119],
 [115,101,108,102]]
noncomputable def EJ:List Nat:=[60,45,80,104,33,85,0,196,241,158,49,63,53,79,46,50,36,67,65,83,105,110,109,107,244,106]
noncomputable def Cp:List (Nat×rn):=[
 (2,.fn [0,1] L3),
 (4,.fn [3] Sf),
 (5,.fn [3] Sb),
 (7,.fn [6] Pg),
 (10,.fn [3] NI),
 (18,.fn [11,12,13,14] NK),
 (20,.fn [19] NJ),
 (21,.fn [19] Sd),
 (22,.fn [19] Jb),
 (24,.fn [19] L4),
 (26,.fn [25] Ia),
 (29,.fn [25] Sa),
 (30,.fn [25] TH),
 (32,.fn [25] Mb),
 (37,.fn [33,34,25] NF),
 (38,.fn [33,34,25] R8),
 (39,.fn [33,34,25] ag),
 (41,.fn [33,34,25,40] R7),
 (43,.fn [35] L1),
 (52,.fn [33] NC),
 (56,.fn [33,35] H8),
 (64,.fn [33] Pb),
 (66,.fn [33] ND),
 (75,.fn [33] Kx),
 (84,.fn [33] Kw),
 (87,.fn [45,49,85,79] H9),
 (91,.fn [33,35,27,88] KJ),
 (92,.fn [33,27,88] Jf),
 (93,.fn [33,27,88] G9),
 (94,.fn [33,27,88] Ie),
 (98,.fn [33,1,27,88] Hf),
 (101,.fn [33,0,1,27,88] Ic),
 (111,.fn [102,3,103] NO),
 (112,.fn [102,103] Md),
 (115,.fn [102,34,25] KL),
 (88,.fn [102] Pj),
 (106,.fn [102,0,1] TI),
 (118,.fn [102,0] KF),
 (119,.fn [102] F0),
 (120,.fn [102] FZ),
 (121,.fn [102,27,0] Hd),
 (122,.fn [102,27,0] Hh),
 (126,.fn [102,27,88] Hb),
 (128,.fn [102,27,88] I7),
 (130,.fn [102,27,0,88] KD),
 (132,.fn [102,0] KB),
 (133,.fn [102] Pc),
 (134,.fn [102,0] KC),
 (135,.fn [102] Pe),
 (136,.fn [102,0] Ma),
 (143,.fn [102,0] I8),
 (144,.fn [102,0] Id),
 (145,.fn [34,25] Hg),
 (161,.fn [102,76] Ha),
 (163,.fn [102,31] IY),
 (166,.fn [11,164,31] HO),
 (169,.fn [102,1,167,31] DI),
 (173,.fn [102,170] Jg),
 (174,.fn [33,0] NN),
 (175,.fn [33,0] Mc),
 (176,.fn [33,0] NG),
 (177,.fn [33,25,0] L9),
 (178,.fn [33,25,0,157] Ig),
 (184,.fn [102,0] Je),
 (187,.fn [11,12,170,185,31] D3),
 (189,.fn [102,167,31] Do),
 (190,.fn [102,170,167,31] Cw),
 (192,.fn [102,170,167,31] BX),
 (193,.fn [102,170,167,31] G8),
 (197,.fn [102,31] G7),
 (199,.fn [102,198] Gu),
 (200,.fn [102] EU),
 (201,.fn [102,167] D7),
 (203,.fn [102,31] IZ),
 (204,.fn [102,19] Jh),
 (207,.fn [102,19] ET),
 (210,.fn [102,19,208] Pf),
 (211,.fn [102,170] Ja),
 (213,.fn [102] Jd),
 (215,.fn [102,214] Gv),
 (216,.fn [102] KH),
 (218,.fn [102] D5),
 (219,.fn [45,27] R9),
 (220,.fn [45,27] Se),
 (223,.fn [45,27] KM),
 (227,.fn [45,49,224] KK),
 (228,.fn [1] Jc),
 (229,.fn [45,49,224] FP),
 (230,.fn [45,49,214,224] HP),
 (231,.fn [102,224] L7),
 (232,.fn [102,19] KI),
 (233,.fn [33,0,61] NP),
 (235,.fn [102,0,11,61] Ib),
 (237,.fn [102,11,61] KE),
 (238,.fn [102] I9),
 (239,.fn [102,27] L8),
 (240,.fn [102,158] He),
 (246,.fn [102,19] D4),
 (247,.fn [102] EW),
 (248,.fn [110,19] WB),
 (251,.fn [19] KA),
 (253,.fn [102,19] L0),
 (256,.fn [254,255] D6),
 (257,.fn [224] Pd),
 (259,.fn [258] Gs),
 (262,.fn [224,45,49] DK),
 (264,.fn [45,110,19,263] TG),
 (265,.fn [45,49,110,214,261] FY),
 (266,.fn [45,49,110,214,224] Pk),
 (267,.fn [102,224] NL),
 (268,.fn [45,110,19] Hc),
 (269,.fn [45,110,214,224] HQ),
 (270,.fn [102,224] L6),
 (273,.fn [45,49,224] DJ),
 (274,.fn [45,49,214,224] NM),
 (275,.fn [102,224] L5),
 (276,.fn [102,224] EV),
 (277,.fn [] KG),
 (280,.fn [278,279] Ph),
 (289,.fn [278] Av),
 (290,.fn [282] L2),
 (292,.fn [102,19] Pi),
 (301,.fn [102,19] AY),
 (305,.fn [302,224] Cc),
 (306,.fn [102,224] NH),
 (312,.fn [307] Dc),
 (206,.fn [102,19] D8),
 (245,.fn [102,19] D9),
 (86,.cls 0 [313,45,49,85,79] O9),
 (285,.cls 1 [313,33,105] Pa),
 (286,.cls 2 [313,106,196,158,0] R6)]
noncomputable def Rk:List (Nat×V):=[
 (116,.int 0),
 (117,.int 1),
 (23,.int 0),
 (100,.int 1),
 (17,.int 2),
 (97,.int 3),
 (96,.int 4),
 (95,.int 5),
 (99,.int 6),
 (9,.int 0),
 (165,.int 0),
 (16,.int 1),
 (195,.int 2),
 (162,.int 3),
 (8,.str [46,80,78,66,82,81,75,46,46,112,110,98,114,113,107]),
 (55,.tup [.int 0,.int 1,.int 0,.int (-1),.int 1,.int 1,.int (-1),.int (-1)]),
 (42,.tup [.int 1,.int 0,.int (-1),.int 0,.int 1,.int (-1),.int (-1),.int 1]),
 (146,.int 0),
 (160,.int 1),
 (159,.int 2),
 (156,.int 3),
 (154,.int 4),
 (152,.int 5),
 (150,.int 6),
 (172,.int 0),
 (171,.int 1),
 (212,.int 2),
 (202,.int 3),
 (221,.str [97,98,99,100,101,102,103,104]),
 (222,.str [49,50,51,52,53,54,55,56]),
 (250,.str [79,45,79]),
 (249,.str [79,45,79,45,79]),
 (310,.str [97,98,99,100,49,50,51,52,53,120,45,61,43,35,81,82,66,78,75,113,114,98,110,79,32])]
noncomputable def prog(f:Nat):Option rn:=Cp.lookup f
noncomputable def l9(x:Nat):Option V:=Rk.lookup x
noncomputable def nm(x:Nat):Str:=sx (Bg.getD x [])
noncomputable def BO(n m:Nat)(f:n=m->Bool):Bool:=@Bool.rec (fun b=>Nat.beq n m=b->Bool) (fun _=>false) (fun h=>f (kA h)) (Nat.beq n m) rfl
theorem AA{f:n=m->Bool}(q:¬n=m):BO n m f=false:=by
 unfold BO
 have:∀(b:Bool) (h:Nat.beq n m=b),@Bool.rec (fun b=>Nat.beq n m=b->Bool) (fun _=>false) (fun h=>f (kA h)) b h=false:=fun b h=>by
  cases b with
  |false=>rfl
  |true=>exact absurd (kA h) q
 exact this _ rfl
noncomputable def FD(x:Expr)(f:Const->Bool):Bool:=BO x.ctorIdx 19 fun h=>Expr.Constant.elim x h fun c _ _=>f c
@[elab_as_elim] theorem Dz{f:Const->Bool}{P:Expr->Prop}(h:FD x f=true)(k:∀c q0 q1,f c=true->P (.Constant c q0 q1)):P x:=
 if q:x.ctorIdx=19 then Expr.Constant.elim (motive_1:=fun x=>FD x f=true->P x) x q k h else Bool.noConfusion ((AA q).symm.trans h)
noncomputable def MW(x:Expr)(f:BoolOp->List Expr->Bool):Bool:=BO x.ctorIdx 0 fun h=>Expr.BoolOp.elim x h fun o l _=>f o l
@[elab_as_elim] theorem Lv{f:BoolOp->List Expr->Bool}{P:Expr->Prop}(h:MW x f=true)(k:∀o l q0,f o l=true->P (.BoolOp o l q0)):P x:=
 if q:x.ctorIdx=0 then Expr.BoolOp.elim (motive_1:=fun x=>MW x f=true->P x) x q k h else Bool.noConfusion ((AA q).symm.trans h)
noncomputable def Vj(x:Expr)(f:Expr->Operator->Expr->Bool):Bool:=BO x.ctorIdx 2 fun h=>Expr.BinOp.elim x h fun l o r _=>f l o r
@[elab_as_elim] theorem Vk{f:Expr->Operator->Expr->Bool}{P:Expr->Prop}(h:Vj x f=true)(k:∀l o r q0,f l o r=true->P (.BinOp l o r q0)):P x:=
 if q:x.ctorIdx=2 then Expr.BinOp.elim (motive_1:=fun x=>Vj x f=true->P x) x q k h else Bool.noConfusion ((AA q).symm.trans h)
noncomputable def bU(x:Expr)(f:UnaryOp->Expr->Bool):Bool:=BO x.ctorIdx 3 fun h=>Expr.UnaryOp.elim x h fun o a _=>f o a
@[elab_as_elim] theorem Yp{f:UnaryOp->Expr->Bool}{P:Expr->Prop}(h:bU x f=true)(k:∀o a q0,f o a=true->P (.UnaryOp o a q0)):P x:=
 if q:x.ctorIdx=3 then Expr.UnaryOp.elim (motive_1:=fun x=>bU x f=true->P x) x q k h else Bool.noConfusion ((AA q).symm.trans h)
noncomputable def bS(x:Expr)(f:Expr->Expr->Expr->Bool):Bool:=BO x.ctorIdx 5 fun h=>Expr.IfExp.elim x h fun t a b _=>f t a b
@[elab_as_elim] theorem Yn{f:Expr->Expr->Expr->Bool}{P:Expr->Prop}(h:bS x f=true)(k:∀t a b q0,f t a b=true->P (.IfExp t a b q0)):P x:=
 if q:x.ctorIdx=5 then Expr.IfExp.elim (motive_1:=fun x=>bS x f=true->P x) x q k h else Bool.noConfusion ((AA q).symm.trans h)
noncomputable def P7(x:Expr)(f:List (Option Expr)->List Expr->Bool):Bool:=BO x.ctorIdx 6 fun h=>Expr.Dict.elim x h fun k v _=>f k v
@[elab_as_elim] theorem SZ{f:List (Option Expr)->List Expr->Bool}{P:Expr->Prop}(h:P7 x f=true)(k:∀k v q0,f k v=true->P (.Dict k v q0)):P x:=
 if q:x.ctorIdx=6 then Expr.Dict.elim (motive_1:=fun x=>P7 x f=true->P x) x q k h else Bool.noConfusion ((AA q).symm.trans h)
noncomputable def J7(x:Expr)(f:Expr->List Comprehension->Scope->Bool):Bool:=BO x.ctorIdx 8 fun h=>Expr.ListComp.elim x h fun e g s _=>f e g s
@[elab_as_elim] theorem HB{f:Expr->List Comprehension->Scope->Bool}{P:Expr->Prop}(h:J7 x f=true)(k:∀e g s q0,f e g s=true->P (.ListComp e g s q0)):P x:=
 if q:x.ctorIdx=8 then Expr.ListComp.elim (motive_1:=fun x=>J7 x f=true->P x) x q k h else Bool.noConfusion ((AA q).symm.trans h)
noncomputable def Rz(x:Expr)(f:Expr->List CmpOp->List Expr->Bool):Bool:=BO x.ctorIdx 15 fun h=>Expr.Compare.elim x h fun l o r _=>f l o r
@[elab_as_elim] theorem Ox{f:Expr->List CmpOp->List Expr->Bool}{P:Expr->Prop}(h:Rz x f=true)(k:∀l o r q0,f l o r=true->P (.Compare l o r q0)):P x:=
 if q:x.ctorIdx=15 then Expr.Compare.elim (motive_1:=fun x=>Rz x f=true->P x) x q k h else Bool.noConfusion ((AA q).symm.trans h)
noncomputable def Fd(x:Expr)(K:Expr->List Expr->List Keyword->Pos->Bool):Bool:=BO x.ctorIdx 16 fun h=>Expr.Call.elim x h fun f a k p=>K f a k p
@[elab_as_elim] theorem Ek{K:Expr->List Expr->List Keyword->Pos->Bool}{P:Expr->Prop}(h:Fd x K=true)(k:∀f a k p,K f a k p=true->P (.Call f a k p)):P x:=
 if q:x.ctorIdx=16 then Expr.Call.elim (motive_1:=fun x=>Fd x K=true->P x) x q k h else Bool.noConfusion ((AA q).symm.trans h)
noncomputable def Fc(x:Expr)(f:Expr->Str->Pos->Bool):Bool:=BO x.ctorIdx 20 fun h=>Expr.Attribute.elim x h fun v n p=>f v n p
@[elab_as_elim] theorem Dm{f:Expr->Str->Pos->Bool}{P:Expr->Prop}(h:Fc x f=true)(k:∀v n p,f v n p=true->P (.Attribute v n p)):P x:=
 if q:x.ctorIdx=20 then Expr.Attribute.elim (motive_1:=fun x=>Fc x f=true->P x) x q k h else Bool.noConfusion ((AA q).symm.trans h)
noncomputable def LA(x:Expr)(f:Expr->Expr->Bool):Bool:=BO x.ctorIdx 21 fun h=>Expr.Subscript.elim x h fun v i _=>f v i
@[elab_as_elim] theorem GP{f:Expr->Expr->Bool}{P:Expr->Prop}(h:LA x f=true)(k:∀v i q0,f v i=true->P (.Subscript v i q0)):P x:=
 if q:x.ctorIdx=21 then Expr.Subscript.elim (motive_1:=fun x=>LA x f=true->P x) x q k h else Bool.noConfusion ((AA q).symm.trans h)
noncomputable def Bm(x:Expr)(f:Str->Bool):Bool:=BO x.ctorIdx 23 fun h=>Expr.Name.elim x h fun n _=>f n
@[elab_as_elim] theorem AV{f:Str->Bool}{P:Expr->Prop}(h:Bm x f=true)(k:∀n q0,f n=true->P (.Name n q0)):P x:=
 if q:x.ctorIdx=23 then Expr.Name.elim (motive_1:=fun x=>Bm x f=true->P x) x q k h else Bool.noConfusion ((AA q).symm.trans h)
noncomputable def P8(x:Expr)(f:List Expr->Bool):Bool:=BO x.ctorIdx 24 fun h=>Expr.List.elim x h fun l _=>f l
@[elab_as_elim] theorem S1{f:List Expr->Bool}{P:Expr->Prop}(h:P8 x f=true)(k:∀l q0,f l=true->P (.List l q0)):P x:=
 if q:x.ctorIdx=24 then Expr.List.elim (motive_1:=fun x=>P8 x f=true->P x) x q k h else Bool.noConfusion ((AA q).symm.trans h)
noncomputable def Oy(x:Expr)(f:List Expr->Nat->Pos->Bool):Bool:=BO x.ctorIdx 25 fun h=>Expr.Tuple.elim x h fun l k p=>f l k p
@[elab_as_elim] theorem Kc{f:List Expr->Nat->Pos->Bool}{P:Expr->Prop}(h:Oy x f=true)(k:∀l k p,f l k p=true->P (.Tuple l k p)):P x:=
 if q:x.ctorIdx=25 then Expr.Tuple.elim (motive_1:=fun x=>Oy x f=true->P x) x q k h else Bool.noConfusion ((AA q).symm.trans h)
noncomputable def M1(x:Expr)(f:Option Expr->Option Expr->Option Expr->Bool):Bool:=BO x.ctorIdx 26 fun h=>Expr.Slice.elim x h fun a b c _=>f a b c
@[elab_as_elim] theorem Qb{f:Option Expr->Option Expr->Option Expr->Bool}{P:Expr->Prop}(h:M1 x f=true)(k:∀a b c q0,f a b c=true->P (.Slice a b c q0)):P x:=
 if q:x.ctorIdx=26 then Expr.Slice.elim (motive_1:=fun x=>M1 x f=true->P x) x q k h else Bool.noConfusion ((AA q).symm.trans h)
noncomputable def P9(x:Stmt)(f:Bool):Bool:=BO x.ctorIdx 25 fun h=>PySem.Stmt.Pass.elim x h fun _=>f
@[elab_as_elim] theorem S3{P:Stmt->Prop}(h:P9 x f=true)(k:∀q0,f=true->P (.Pass q0)):P x:=
 if q:x.ctorIdx=25 then PySem.Stmt.Pass.elim (motive_2:=fun x=>P9 x f=true->P x) x q k h else Bool.noConfusion ((AA q).symm.trans h)
noncomputable def P6(x:Stmt)(f:Bool):Bool:=BO x.ctorIdx 27 fun h=>PySem.Stmt.Continue.elim x h fun _=>f
@[elab_as_elim] theorem SY{P:Stmt->Prop}(h:P6 x f=true)(k:∀q0,f=true->P (.Continue q0)):P x:=
 if q:x.ctorIdx=27 then PySem.Stmt.Continue.elim (motive_2:=fun x=>P6 x f=true->P x) x q k h else Bool.noConfusion ((AA q).symm.trans h)
noncomputable def Dy(x:Stmt)(f:List Expr->Expr->Bool):Bool:=BO x.ctorIdx 5 fun h=>PySem.Stmt.Assign.elim x h fun t v _=>f t v
@[elab_as_elim] theorem CT{f:List Expr->Expr->Bool}{P:Stmt->Prop}(h:Dy x f=true)(k:∀t v q0,f t v=true->P (.Assign t v q0)):P x:=
 if q:x.ctorIdx=5 then PySem.Stmt.Assign.elim (motive_2:=fun x=>Dy x f=true->P x) x q k h else Bool.noConfusion ((AA q).symm.trans h)
noncomputable def Ow(x:Stmt)(f:Expr->Operator->Expr->Bool):Bool:=BO x.ctorIdx 7 fun h=>PySem.Stmt.AugAssign.elim x h fun t o v _=>f t o v
@[elab_as_elim] theorem J5{f:Expr->Operator->Expr->Bool}{P:Stmt->Prop}(h:Ow x f=true)(k:∀t o v q0,f t o v=true->P (.AugAssign t o v q0)):P x:=
 if q:x.ctorIdx=7 then PySem.Stmt.AugAssign.elim (motive_2:=fun x=>Ow x f=true->P x) x q k h else Bool.noConfusion ((AA q).symm.trans h)
noncomputable def MX(x:Stmt)(f:PySem.Expr->Bool):Bool:=BO x.ctorIdx 24 fun h=>PySem.Stmt.Expr.elim x h fun v _=>f v
@[elab_as_elim] theorem Lw{f:PySem.Expr->Bool}{P:Stmt->Prop}(h:MX x f=true)(k:∀v q0,f v=true->P (.Expr v q0)):P x:=
 if q:x.ctorIdx=24 then PySem.Stmt.Expr.elim (motive_2:=fun x=>MX x f=true->P x) x q k h else Bool.noConfusion ((AA q).symm.trans h)
noncomputable def RC(x:Stmt)(f:Option PySem.Expr->Bool):Bool:=BO x.ctorIdx 3 fun h=>PySem.Stmt.Return.elim x h fun v _=>f v
@[elab_as_elim] theorem Ka{f:Option PySem.Expr->Bool}{P:Stmt->Prop}(h:RC x f=true)(k:∀v q0,f v=true->P (.Return v q0)):P x:=
 if q:x.ctorIdx=3 then PySem.Stmt.Return.elim (motive_2:=fun x=>RC x f=true->P x) x q k h else Bool.noConfusion ((AA q).symm.trans h)
noncomputable def Vp(x:Stmt)(f:PySem.Expr->List Stmt->List Stmt->Bool):Bool:=BO x.ctorIdx 12 fun h=>PySem.Stmt.If.elim x h fun t a b _=>f t a b
@[elab_as_elim] theorem Vq{f:PySem.Expr->List Stmt->List Stmt->Bool}{P:Stmt->Prop}(h:Vp x f=true)(k:∀t a b q0,f t a b=true->P (.If t a b q0)):P x:=
 if q:x.ctorIdx=12 then PySem.Stmt.If.elim (motive_2:=fun x=>Vp x f=true->P x) x q k h else Bool.noConfusion ((AA q).symm.trans h)
noncomputable def Vm(x:Stmt)(f:PySem.Expr->PySem.Expr->List Stmt->List Stmt->Bool):Bool:=BO x.ctorIdx 9 fun h=>PySem.Stmt.For.elim x h fun t i b o _=>f t i b o
@[elab_as_elim] theorem Vn{f:PySem.Expr->PySem.Expr->List Stmt->List Stmt->Bool}{P:Stmt->Prop}(h:Vm x f=true)(k:∀t i b o q0,f t i b o=true->P (.For t i b o q0)):P x:=
 if q:x.ctorIdx=9 then PySem.Stmt.For.elim (motive_2:=fun x=>Vm x f=true->P x) x q k h else Bool.noConfusion ((AA q).symm.trans h)
noncomputable def M4(x:Stmt)(f:PySem.Expr->List Stmt->List Stmt->Bool):Bool:=BO x.ctorIdx 11 fun h=>PySem.Stmt.While.elim x h fun t b o _=>f t b o
@[elab_as_elim] theorem Qc{f:PySem.Expr->List Stmt->List Stmt->Bool}{P:Stmt->Prop}(h:M4 x f=true)(k:∀t b o q0,f t b o=true->P (.While t b o q0)):P x:=
 if q:x.ctorIdx=11 then PySem.Stmt.While.elim (motive_2:=fun x=>M4 x f=true->P x) x q k h else Bool.noConfusion ((AA q).symm.trans h)
noncomputable def onRaise(x:Stmt)(f:Option PySem.Expr->Option PySem.Expr->Bool):Bool:=BO x.ctorIdx 16 fun h=>PySem.Stmt.Raise.elim x h fun e c _=>f e c
@[elab_as_elim] theorem Qa{f:Option PySem.Expr->Option PySem.Expr->Bool}{P:Stmt->Prop}(h:onRaise x f=true)(k:∀e c q0,f e c=true->P (.Raise e c q0)):P x:=
 if q:x.ctorIdx=16 then PySem.Stmt.Raise.elim (motive_2:=fun x=>onRaise x f=true->P x) x q k h else Bool.noConfusion ((AA q).symm.trans h)
noncomputable def Vu(x:Stmt)(K:List Stmt->List ExceptHandler->List Stmt->List Stmt->Bool):Bool:=BO x.ctorIdx 17 fun h=>PySem.Stmt.Try.elim x h fun b h o f _=>K b h o f
@[elab_as_elim] theorem Vv{K:List Stmt->List ExceptHandler->List Stmt->List Stmt->Bool}{P:Stmt->Prop}(h:Vu x K=true)(k:∀b h o f q0,K b h o f=true->P (.Try b h o f q0)):P x:=
 if q:x.ctorIdx=17 then PySem.Stmt.Try.elim (motive_2:=fun x=>Vu x K=true->P x) x q k h else Bool.noConfusion ((AA q).symm.trans h)
section
variable{α:Type}
noncomputable def pG(l:List α)(f:α->Bool):Bool:=match l with
 |[]=>false
 |x :: r=>(match r with|[]=>f x|_ :: _=>false)
@[elab_as_elim] theorem B5{f:α->Bool}{P:List α->Prop}(h:pG l f=true)(k:∀x,f x=true->P [x]):P l:=by
 induction l using List.casesOn with
 |nil=>exact Bool.noConfusion h
 |cons x r=>induction r using List.casesOn with
  |nil=>exact k x h
  |cons _ _=>exact Bool.noConfusion h
noncomputable def BL(l:List α)(f:α->List α->Bool):Bool:=match l with
 |[]=>false
 |x :: r=>f x r
@[elab_as_elim] theorem A1{f:α->List α->Bool}{P:List α->Prop}(h:BL l f=true)(k:∀x r,f x r=true->P (x :: r)):P l:=by
 cases l with
 |nil=>exact Bool.noConfusion h
 |cons x r=>exact k x r h
noncomputable def sC(l:List α)(f:α->α->Bool):Bool:=BL l fun x r=>pG r fun y=>f x y
@[elab_as_elim] theorem HA{f:α->α->Bool}{P:List α->Prop}(h:sC l f=true)(k:∀x y,f x y=true->P [x,y]):P l:=
 A1 h fun x _ h=>B5 (P:=fun r=>P (x :: r)) h fun y h=>k x y h
noncomputable def GM(l:List α)(f:α->α->Bool)(g:α->List α->Bool):Bool:=BL l fun x r=>BL r fun y s=>(match s with|[]=>f x y|_ :: _=>g x r)
@[elab_as_elim] theorem J6{f:α->α->Bool}{g:α->List α->Bool}{P:List α->Prop}(h:GM l f g=true)(k:∀x y,f x y=true->P [x,y])(k':∀x y r,g x (y :: r)=true->P (x :: y :: r)):P l:=
 by
  induction l using List.casesOn with
  |nil=>exact Bool.noConfusion h
  |cons x r=>induction r using List.casesOn with
   |nil=>exact Bool.noConfusion h
   |cons y s=>induction s using List.casesOn with
    |nil=>exact k x y h
    |cons z s=>exact k' x y (z :: s) h
noncomputable def BM(l:List α)(b:Bool):Bool:=match l with
 |[]=>b
 |_ :: _=>false
@[elab_as_elim] theorem AP{P:List α->Prop}(h:BM l b=true)(k:b=true->P []):P l:=by
 cases l with
 |nil=>exact k h
 |cons _ _=>exact Bool.noConfusion h
noncomputable def CI(o:Option α)(f:α->Bool):Bool:=match o with
 |some x=>f x
 |none=>false
@[elab_as_elim] theorem BQ{f:α->Bool}{P:Option α->Prop}(h:CI o f=true)(k:∀x,f x=true->P (some x)):P o:=by
 cases o with
 |none=>exact Bool.noConfusion h
 |some x=>exact k x h
noncomputable def M0(o:Option α)(b:Bool):Bool:=match o with
 |some _=>false
 |none=>b
@[elab_as_elim] theorem HC{P:Option α->Prop}(h:M0 o b=true)(k:b=true->P none):P o:=by
 cases o with
 |none=>exact k h
 |some x=>exact Bool.noConfusion h
end
theorem Al(h:(a&&b)=true):a=true:=by
 cases a with
 |true=>rfl
 |false=>exact h
theorem Aa(h:(a&&b)=true):b=true:=by
 cases a with
 |true=>exact h
 |false=>exact Bool.noConfusion h
theorem BW(h:(a&&b)=true):a=true/\b=true:=⟨Al h,Aa h⟩
@[elab_as_elim] theorem EX{α:Type}[BEq α][LawfulBEq α]{a b:α}{P:α->Prop}(h:(a==b)=true)(k:P a):P b:=gU h▸k
@[elab_as_elim] theorem ZJ{α:Type}{a b:α}{P:α->Prop}(h:a=b)(k:P a):P b:=h▸k
noncomputable def ZY(c:Const)(f:Int->Bool):Bool:=match c with
 |.int i=>f i
 |_=>false
@[elab_as_elim] theorem Vo{f:Int->Bool}{P:Const->Prop}(h:ZY c f=true)(k:∀i,f i=true->P (.int i)):P c:=by
 induction c<;>first|exact k _ h|exact Bool.noConfusion h
noncomputable def ZZ(c:Const)(f:Str->Bool):Bool:=match c with
 |.str i=>f i
 |_=>false
@[elab_as_elim] theorem Vt{f:Str->Bool}{P:Const->Prop}(h:ZZ c f=true)(k:∀i,f i=true->P (.str i)):P c:=by
 induction c<;>first|exact k _ h|exact Bool.noConfusion h
noncomputable def ZX(c:Const)(f:Bool->Bool):Bool:=match c with
 |.bool i=>f i
 |_=>false
@[elab_as_elim] theorem Vl{f:Bool->Bool}{P:Const->Prop}(h:ZX c f=true)(k:∀i,f i=true->P (.bool i)):P c:=by
 induction c<;>first|exact k _ h|exact Bool.noConfusion h
noncomputable def ZN(c:Const):Bool:=match c with
 |.none=>true
 |_=>false
theorem Lp(h:ZN c=true):c=.none:=by
 induction c<;>first|rfl|exact Bool.noConfusion h
noncomputable def ZM(o:BoolOp):Bool:=match o with|.And=>true|.Or=>false
noncomputable def RA(g:Comprehension)(f:Expr->Expr->List Expr->Bool):Bool:=decide (g.is_async=0)&&f g.target g.iter g.ifs
@[elab_as_elim] theorem El{f:Expr->Expr->List Expr->Bool}{P:Comprehension->Prop}(h:RA g f=true)(k:∀t i c,f t i c=true->P ⟨t,i,c,0⟩):P g:=by
 obtain⟨t,i,c,n⟩:=g
 have h1:n=0:=gO (Al h)
 subst h1
 exact k t i c (Aa h)
noncomputable def onH(h:ExceptHandler)(f:Option Expr->Option Str->List Stmt->Bool):Bool:=match h with
 |.ExceptHandler t n b _=>f t n b
@[elab_as_elim] theorem bR{f:Option Expr->Option Str->List Stmt->Bool}{P:ExceptHandler->Prop}(q:onH h f=true)(k:∀t n b p,f t n b=true->P (.ExceptHandler t n b p)):P h:=by
 cases h;exact k _ _ _ _ q
noncomputable def Yo{α:Type}(o:Option α)(n:Bool)(f:α->Bool):Bool:=match o with
 |some x=>f x
 |none=>n
section
variable[deq:DecidableEq Str]
noncomputable def Ez(x:Nat)(n:Str):Bool:=decide (x<Bg.length)&&(n==nm x)
noncomputable abbrev Sc:=List (Str×NameKind)
noncomputable def UI(sc:Sc)(n:Str):Bool:=match sc.lookup n with
 |some .local|some .cell|some .free=>true
 |_=>false
noncomputable def Hr(sc:Sc)(n:Str):Bool:=sc.lookup n==some .globalImplicit
noncomputable def HR:Nat->String
 |0=>"len" | 1=>"abs" | 2=>"max" | 3=>"str" | _=>"range"
noncomputable def P0:Nat->String
 |0=>"append" | 1=>"pop" | 2=>"find" | 3=>"lower" | _=>"join"
noncomputable def EM:Nat->String
 |1=>"BadMove" | 2=>"BadSan" | 3=>"AmbiguousSan" | _=>"?"
noncomputable def Hs(sc:Sc)(n:Str):Bool:=sc.lookup n==some .local||sc.lookup n==some .cell
noncomputable def Dq:List Nat->List Expr->Bool
 |[],es=>BM es true
 |x :: xs,es=>BL es fun e r=>Bm e fun n=>Ez x n&&Dq xs r
noncomputable def E4(sc:Sc)(xs:List Nat)(one:Bool)(t:Expr):Bool:=match one with
 |true=>Bm t fun n=>pG xs fun x=>Ez x n&&Hs sc n
 |false=>Oy t fun es _ _=>Dq xs es&&es.all fun e=>Bm e (Hs sc)
noncomputable def FB(x:Expr):Bool:=!(Nat.beq x.ctorIdx 26)
noncomputable def EA(x:Expr):Bool:=Nat.beq x.ctorIdx 22
noncomputable def f9(x:Expr):Bool:=Nat.beq x.ctorIdx 23
noncomputable def dC(scope:Scope):Sc:=scope.names
noncomputable def IA(x:ME):Bool:=Nat.beq x.ctorIdx ME.none.ctorIdx
noncomputable def Ji(x:Expr):Bool:=!(Fd x fun f as kw _=>BM as (BM kw (Bm f fun _=>true)))
noncomputable def Dx(x:Expr):Bool:=!(Nat.beq x.ctorIdx 7)
noncomputable def Om(f:Nat):Bool:=(Cp.lookup f).isSome
noncomputable def Dj(scope:Scope)(sc:Sc):Bool:=scope.kind==.function&&scope.names.all fun(n,k)=>scope.names.lookup n==some k&&(match k with
 |.local|.cell|.globalImplicit=>true
 |.free=>sc.lookup n==some .cell||sc.lookup n==some .free
 |_=>false)
noncomputable def HY(scope:Scope)(xs:List Nat):Bool:=scope.names.all fun(n,k)=>!(k==.local||k==.cell)||xs.any (fun x=>decide (x<Bg.length)&&n==nm x)||!(Bg.any fun l=>sx l==n)
noncomputable def Ro:ME->Bool
 |.bool b=>b
 |_=>false
mutual
noncomputable def AD(j:Nat)(sc:Sc):ME->Expr->Bool
 |.int i,x=>FD x fun c=>ZY c fun j=>i==j
 |.str s,x=>FD x fun c=>ZZ c fun t=>t==sx s&&(decide (s.length<=lim)&&s.all (·< 128))
 |.bool b,x=>FD x fun c=>ZX c fun d=>b==d
 |.none,x=>FD x fun c=>ZN c
 |.l8 x,y=>Bm y fun n=>Ez x n&&(UI sc n&&!(n==("__debug__":Str)))
 |.l9 x,y=>Bm y fun n=>Ez x n&&(Hr sc n&&!(n==("__debug__":Str)))
 |.bin op a b,x=>Vj x fun l o r=>op==o&&(AD j sc a l&&AD j sc b r)
 |.un op a,x=>bU x fun o l=>op==o&&AD j sc a l
 |.and a b,x=>MW x fun o vs=>ZM o&&GM vs (fun x y=>AD j sc a x&&AD j sc b y) fun x r=>AD j sc a x&&JA j sc b r
 |.or a b,x=>MW x fun o vs=>!ZM o&&GM vs (fun x y=>AD j sc a x&&AD j sc b y) fun x r=>AD j sc a x&&N3 j sc b r
 |.cmp a op b,x=>Rz x fun l ops rs=>pG ops fun o=>pG rs fun r=>op==o&&(!behindInMarks o r&&(AD j sc a l&&AD j sc b r))
 |.oI a sD b sE c,x=>Rz x fun l ops rs=>sC ops fun o1 o2=>sC rs fun r1 r2=>sD==o1&&(sE==o2&&(!lastMarks [o1,o2] [r1,r2]&&(AD j sc a l&&(AD j sc b r1&&AD j sc c r2))))
 |.ite t a b,x=>bS x fun t' a' b'=>AD j sc t t'&&(AD j sc a a'&&AD j sc b b')
 |.call f as,x=>Fd x fun g args kw _=>BM kw (Bm g fun n=>Om f&&(Ez f n&&(Hr sc n&&(!(n==("__debug__":Str))&&N2 j sc as args))))
 |.blt f as,x=>Fd x fun g args kw _=>BM kw (Bm g fun n=>decide (f<5)&&(!(n==("__debug__":Str))&&(n==Str.ofString (HR f)&&(Hr sc n&&N2 j sc as args))))
 |.mG o f as,x=>Fd x fun g args kw pos=>BM kw (Fc g fun o' n apos=>decide (f<5)&&(Ji o'&&((apos.endLine==pos.line)&&(decide (args.length<20)&&(n==Str.ofString (P0 f)&&(AD j sc o o'&&N2 j sc as args))))))
 |.attr o a,x=>Fc x fun o' n _=>Ji o'&&(Ez a n&&(EJ.contains a&&AD j sc o o'))
 |.sub o i,x=>LA x fun o' i'=>FB i'&&(AD j sc o o'&&AD j sc i i')
 |.slice o lo hi,x=>LA x fun o' i'=>M1 i' fun tp qD st=>M0 st (AD j sc o o'&&(Yo tp (IA lo) (fun e=>AD j sc lo e)&&Yo qD (IA hi) (fun e=>AD j sc hi e)))
 |.list es,x=>P8 x fun l=>N2 j sc es l
 |.tup es,x=>Oy x fun l _ _=>N2 j sc es l
 |.dict es,x=>P7 x fun ks vs=>!ks.isEmpty&&(decide (ks.length<=15)&&W4 j sc es ks vs)
 |.comp elt xs one it cond,x=>J7 x fun mF gens scope=>pG gens fun g=>RA g fun t oF ifs=>(match j with
   |0=>false
   |j'+1=>Dx oF&&(Dj scope sc&&(HY scope xs&&(AD j' sc it oF&&(E4 scope.names xs one t&&(AD j' scope.names elt mF&&(match ifs with
    |[]=>Ro cond
    |c :: r=>BM r (AD j' scope.names cond c))))))))
 |.n9 elt x1 pC x2 oa,x=>J7 x fun mF gens scope=>sC gens fun g1 g2=>RA g1 fun t1 tg rM=>RA g2 fun t2 th rN=>BM rM (BM rN (match j with
   |0=>false
   |j'+1=>Dx tg&&(Dx th&&(Dj scope sc&&(HY scope [x1,x2]&&(x1 != x2&&(AD j' sc pC tg&&(E4 scope.names [x1] true t1&&(AD j' scope.names oa th&&(E4 scope.names [x2] true t2&&AD j' scope.names elt mF))))))))))
 |.nil,_=>false
 |.cons _ _,_=>false
noncomputable def JA(j:Nat)(sc:Sc):ME->List Expr->Bool
 |.and a b,vs=>GM vs (fun x y=>AD j sc a x&&AD j sc b y) fun x r=>AD j sc a x&&JA j sc b r
 |_,_=>false
noncomputable def N3(j:Nat)(sc:Sc):ME->List Expr->Bool
 |.or a b,vs=>GM vs (fun x y=>AD j sc a x&&AD j sc b y) fun x r=>AD j sc a x&&N3 j sc b r
 |_,_=>false
noncomputable def N2(j:Nat)(sc:Sc):ME->List Expr->Bool
 |.nil,xs=>BM xs true
 |.cons e r,xs=>BL xs fun x xs=>!EA x&&(AD j sc e x&&N2 j sc r xs)
 |_,_=>false
noncomputable def W4(j:Nat)(sc:Sc):ME->List (Option Expr)->List Expr->Bool
 |.nil,ks,vs=>BM ks (BM vs true)
 |.cons e r,ks,vs=>BL ks fun k ks=>BL vs fun v vs=>CI k fun k=>fY j sc e k v&&W4 j sc r ks vs
 |_,_,_=>false
noncomputable def fY(j:Nat)(sc:Sc):ME->Expr->Expr->Bool
 |.cons a b,k,v=>AD j sc a k&&AD j sc b v
 |_,_,_=>false
end
noncomputable def Wq(sc:Sc)(es:List Expr)(v:Expr):Bool:=!(Nat.beq v.ctorIdx 25)||es.any fun e=>Bm e fun n=>sc.lookup n==some .cell
noncomputable def FC(x:Expr):Bool:=!(Nat.ble 8 x.ctorIdx&&Nat.ble x.ctorIdx 10)
mutual
noncomputable def T5(sc:Sc):MS->Stmt->Bool
 |.skip,x=>P9 x true
 |.cont,x=>P6 x true
 |.assign x e,s=>Dy s fun ts v=>pG ts fun t=>Bm t fun n=>Ez x n&&(Hs sc n&&((J7 v (fun _ _ _=>true)||FC v)&&AD 2 sc e v))
 |.mA xs e,s=>Dy s fun ts v=>pG ts fun t=>Oy t fun es k p=>E4 sc xs false (.Tuple es k p)&&(Wq sc es v&&(FC v&&AD 2 sc e v))
 |.setAttr o a e,s=>Dy s fun ts v=>pG ts fun t=>Fc t fun o' n _=>Ez a n&&(EJ.contains a&&(AD 2 sc o o'&&AD 2 sc e v))
 |.nA o i e,s=>Dy s fun ts v=>pG ts fun t=>LA t fun o' i'=>FB i'&&(AD 2 sc o o'&&(AD 2 sc i i'&&AD 2 sc e v))
 |.aug x op e,s=>Ow s fun t o v=>Bm t fun n=>Ez x n&&(op==o&&(sc.lookup n==some .local&&AD 2 sc e v))
 |.mH o a op e,s=>Ow s fun t tv v=>Fc t fun o' n _=>Ez a n&&(EJ.contains a&&(op==tv&&(AD 2 sc o o'&&AD 2 sc e v)))
 |.mS o i op e,s=>Ow s fun t tv v=>LA t fun o' i'=>FB i'&&(op==tv&&(AD 2 sc o o'&&(AD 2 sc i i'&&AD 2 sc e v)))
 |.expr e,s=>MX s fun v=>FC v&&AD 2 sc e v
 |.ret e,s=>RC s fun v=>Yo v (IA e) fun v=>AD 2 sc e v
 |.ite t a b,s=>Vp s fun t' a' b'=>AD 2 sc t t'&&(Ii sc a a'&&Ii sc b b')
 |.mB xs one it body,s=>Vm s fun t oF qj o=>BM o (Dx oF&&(E4 sc xs one t&&(AD 2 sc it oF&&Ii sc body qj)))
 |.nt t body,s=>M4 s fun t' qj o=>BM o (AD 2 sc t t'&&Ii sc body qj)
 |.raise c e,s=>onRaise s fun x y=>M0 y (CI x fun x=>Fd x fun f as kw _=>BM kw (pG as fun v=>Bm f fun n=>decide (c<1)||(decide (3<c)||(n==Str.ofString (EM c)&&(Hr sc n&&AD 2 sc e v)))))
 |.nB e c h,s=>Vu s fun b hs o f=>BM o (BM f (pG b fun b=>RC b fun v=>CI v fun v=>pG hs fun hd=>onH hd fun t n hb=>M0 n (CI t fun t=>Bm t fun n=>AD 2 sc e v&&(n==Str.ofString (EM c)&&(Hr sc n&&(Ii sc h hb&&(!hb.isEmpty&&(decide (1<=c)&&decide (c<=3)))))))))
 |.seq _ _,_=>false
noncomputable def Ii(sc:Sc):MS->List Stmt->Bool
 |.skip,l=>BM l true
 |.seq a b,l=>BL l fun s r=>T5 sc a s&&Ii sc b r
 |_,_=>false
end
end
set_option genInjectivity false in
structure Lg where
 led:Addr->Option Obj
 mE:List (Addr×Addr)
def pI(o:Obj):Prop:=o.cls≠.type "list"/\(∀es k,o.data≠.dict es k)/\∀v,o.data≠.cell v
def Kn(base:Heap)(lg:Lg)(a:Addr)(o:Obj):Prop:=pI o/\(lg.led a=some o\/base.get? a=some o)
def Da(o:Obj):Prop:=∃v,o.data=.cell v
def sj(o:Obj):Prop:=(o.cls=.type "list"/\∃vs k,o.data=.seq vs k)\/∃es k,o.data=.dict es k
theorem sj.ox(s:sj o):¬Da o:=by
 rintro⟨v,c⟩
 rcases s with⟨_,vs,k,z⟩|⟨es,k,z⟩<;>replace z:=c▸z<;>cases z
structure Ext(lg ma:Lg):Prop where
 oA:∀a o,pI o->lg.led a=some o->ma.led a=some o
 cell:∀a o,Da o->lg.led a=some o->∃o',Da o'/\ma.led a=some o'
 mE:∀(n:Nat) (p:Addr×Addr),lg.mE[n]?=some p->ma.mE[n]?=some p
theorem Ext.refl(lg:Lg):Ext lg lg:=⟨fun _ _ _ h=>h,fun _ o c h=>⟨o,c,h⟩,fun _ _ h=>h⟩
theorem Ext.trans(x:Ext a b)(y:Ext b c):Ext a c:=⟨fun d o i h=>y.oA d o i (x.oA d o i h),fun d o k h=>by obtain⟨o',k',h'⟩:=x.cell d o k h;exact y.cell d o' k' h',fun n p h=>y.mE n p (x.mE n p h)⟩
theorem Ext.kn(x:Ext lg ma)(h:Kn base lg a o):Kn base ma a o:=
 ⟨h.1,h.2.imp (x.oA a o h.1) id⟩
noncomputable def T6:Nat->List Nat
 |0=>[71,101,111,109,101,116,114,121]
 |1=>[80,111,115,105,116,105,111,110]
 |_=>[90,111,98,114,105,115,116]
def Ce(K:Frag)(c:Nat)(C:Addr):Prop:=nsIn K mainGlobals (sx (T6 c))=some (some (.ref C))
noncomputable def Fh(lo hi st:Int)(t1 t2 t3:Tok):Obj:={cls:=.type "range",data:=.fields #[.int lo t1,.int hi t2,.int st t3]}
def tH(lo hi st:Int):Prop:=st≠0/\lo.natAbs<2 ^ 60/\hi.natAbs<2 ^ 60/\st.natAbs<2 ^ 60
inductive Aw(base:Heap)(lg:Lg):V->Value->Prop
 |none:Aw base lg .none .none
 |bool (b:Bool):Aw base lg (.bool b) (.bool b)
 |int (i:Int) (t:Tok):Aw base lg (.int i) (.int i t)
 |str (s:List Nat) (t:Tok):qe s->Aw base lg (.str s) (.str (sx s) t)
 |tup (l:List V) (a:Addr) (o:Obj) (vs:Array Value) (n:Nat):Kn base lg a o->o.cls=.type "tuple"->o.data=.seq vs n->l.length=vs.size->l.length<=lim->
   (∀(i:Nat) (v:V) (w:Value),l[i]?=some v->vs[i]?=some w->Aw base lg v w)->Aw base lg (.tup l) (.ref a)
 |mT (l:List V) (a:Addr) (o:Obj) (vs:Array Value) (n:Nat):base.get? a=some o->o.cls=.type "list"->o.data=.seq vs n->l.length=vs.size->l.length<=lim->
   (∀(i:Nat) (v:V) (w:Value),l[i]?=some v->vs[i]?=some w->Aw base lg v w)->Aw base lg (.mT l) (.ref a)
 |range (lo hi st:Int) (a:Addr) (t1 t2 t3:Tok):Kn base lg a (Fh lo hi st t1 t2 t3)->tH lo hi st->Aw base lg (.range lo hi st) (.ref a)
 |l8 (n:Nat) (a d:Addr):lg.mE[n]?=some (a,d)->Aw base lg (.l8 n) (.ref a)
theorem Aw.mono(x:Ext lg ma)(h:Aw base lg v w):Aw base ma v w:=by
 induction h with
 |none=>exact .none
 |bool b=>exact .bool b
 |int i t=>exact .int i t
 |str s t hl=>exact .str s t hl
 |tup l a o vs n hk hc hd hl hm _ ih=>exact .tup l a o vs n (x.kn hk) hc hd hl hm ih
 |mT l a o vs n hk hc hd hl hm _ ih=>exact .mT l a o vs n hk hc hd hl hm ih
 |range lo hi st a t1 t2 t3 hk hr=>exact .range lo hi st a t1 t2 t3 (x.kn hk) hr
 |l8 n a d h=>exact .l8 n a d (x.mE n _ h)
def Ar(base:Heap)(lg:Lg)(l:List V)(vs:List Value):Prop:=l.length=vs.length/\∀(i:Nat) (v:V) (w:Value),l[i]?=some v->vs[i]?=some w->Aw base lg v w
theorem Ar.mono(x:Ext lg ma)(h:Ar base lg l vs):Ar base ma l vs:=⟨h.1,fun i v w a b=>(h.2 i v w a b).mono x⟩
theorem Ar.nil:Ar base lg [] []:=⟨rfl,fun i v w a=>by simp at a⟩
theorem Ar.cons(h:Aw base lg v w)(r:Ar base lg l vs):Ar base lg (v :: l) (w :: vs):=by
 refine⟨by simp[r.1],fun i u z a b=>?_⟩
 induction i using Nat.casesOn with
 |zero=>simp at a b;subst a b;exact h
 |succ i=>simp at a b;exact r.2 i u z a b
theorem Ar.mV{base:Heap}{lg:Lg}{v:V}{l:List V}{ws:List Value}(h:Ar base lg (v :: l) ws):∃w vs,ws=w :: vs/\Aw base lg v w/\Ar base lg l vs:=by
 induction ws using List.casesOn with
 |nil=>exact absurd h.1 (nofun)
 |cons w vs=>exact⟨w,vs,rfl,h.2 0 v w rfl rfl,by have:=h.1;simpa using this,fun i u z a b=>h.2 (i+1) u z (by exact a) (by exact b)⟩
theorem Ar.append{base:Heap}{lg:Lg}{l m:List V}{vs ws:List Value}(h:Ar base lg l vs)(k:Ar base lg m ws):Ar base lg (l++m) (vs++ws):=by
 induction l generalizing vs with
 |nil=>induction vs using List.casesOn with
  |nil=>exact k
  |cons _ _=>exact absurd h.1 (nofun)
 |cons v l ih=>
  obtain⟨w,vs,rfl,hv,hl⟩:=h.mV
  exact Ar.cons hv (ih hl)
theorem Ar.at{base:Heap}{lg:Lg}{l:List V}{vs:List Value}(h:Ar base lg l vs){i:Nat}{v:V}(e:l[i]?=some v):∃w,vs[i]?=some w/\Aw base lg v w:=by
 have hi:i<l.length:=(List.getElem?_eq_some_iff.mp e).1
 have qD:i<vs.length:=h.1▸hi
 exact⟨vs[i],g8 qD,h.2 i v _ e (g8 qD)⟩
theorem Ar.set{l:List V}{vs:List Value}(h:Ar base lg l vs)(i:Nat)(r:Aw base lg v w):Ar base lg (l.set i v) (vs.set i w):=by
 refine⟨by simp[h.1],fun j u z a b=>?_⟩
 rw[j7]at a b
 by_cases q:i=j
 ·subst q
  (replace a:=(iP rfl)▸a;replace b:=(iP rfl)▸b)
  split at a
  ·obtain rfl:=Option.some.inj a
   split at b
   ·obtain rfl:=Option.some.inj b;exact r
   ·exact Ao b
  ·exact Ao a
 ·rw[iO q]at a b
  exact h.2 j u z a b
inductive DG(base:Heap)(lg:Lg):List (Nat×V)->List DictEntry->Prop
 |nil:DG base lg [] []
 |cons (a:Nat) (v:V) (fs:List (Nat×V)) (hs:Int) (t:Tok) (w:Value) (es:List DictEntry):a<Bg.length->Aw base lg v w->DG base lg fs es->
   DG base lg ((a,v) :: fs) (⟨hs,.str (nm a) t,w⟩ :: es)
theorem DG.mono(x:Ext lg ma)(h:DG base lg fs es):DG base ma fs es:=by
 induction h with
 |nil=>exact .nil
 |cons a v fs hs t w es ha hv _ ih=>exact .cons a v fs hs t w es ha (hv.mono x) ih
def Nt(base:Heap)(lg:Lg)(kv:List (Int×V))(f:Int->Option Value):Prop:=
 ∀k,(Bn kv k=none/\f k=none)\/∃v w,Bn kv k=some v/\f k=some w/\Aw base lg v w
theorem Nt.mono(x:Ext lg ma){f:Int->Option Value}(h:Nt base lg kv f):Nt base ma kv f:=
 fun k=>(h k).imp id fun nV=>by obtain⟨v,w,a,b,c⟩:=nV;exact⟨v,w,a,b,c.mono x⟩
def Gn(base:Heap)(K:Frag)(lg:Lg)(a d:Addr):MO->Prop
 |.list xs=>a=d/\xs.length<=lim/\∃vs k,lg.led d=some (listOf vs k)/\Ar base lg xs vs.toList
 |.inst c fs=>c<3/\∃C,Ce K c C/\lg.led a=some (instObj C d)/\fs.length<=900/\∃es k,lg.led d=some (dictOf es k)/\DG base lg fs es
 |.dict kv=>a=d/\∃o,lg.led d=some o/\o.cls=.type "dict"/\∃es k,o.data=.dict es k/\IntKeys es/\es.size<=kv.length/\Nt base lg kv (findBy Value.isInt es)
structure aa(base:Heap)(K:Frag)(lg:Lg)(μ:MH):Prop where
 len:lg.mE.length=μ.length
 nodup:(lg.mE.map (·.2)).Nodup
 each:∀(n:Nat) (o:MO),μ[n]?=some o->∃a d,lg.mE[n]?=some (a,d)/\Gn base K lg a d o
set_option genInjectivity false in
structure oq where
 env:Env
 m:Str->Option Value
 cells:Addr->Option Obj
def H7(o:Obj)(m:Str->Option Value):Prop:=∃es ep,o.data=.dict es ep/\StrKeys es/\∀name,nsFind es name=m name
theorem H7.ns{h:Heap}{m:Str->Option Value}(x:H7 o m)(e:h.get? a=some o):h.Ns a m:=
 let⟨es,ep,r⟩:=x;⟨o,es,ep,e,r⟩
theorem H7.of{h:Heap}{m:Str->Option Value}(x:h.Ns a m):∃o,h.get? a=some o/\H7 o m:=
 let⟨o,es,ep,e,r⟩:=x;⟨o,e,es,ep,r⟩
def FO(base:Heap)(e:Env)(m:Str->Option Value)(lg:Lg)(x:Nat)(v:V):Prop:=
 x<Bg.length/\((e.kindOf (nm x)=some .local/\∃w,m (nm x)=some w/\Aw base lg v w)\/
  (e.kindOf (nm x)=some .cell/\∃ca o w,e.cells.lookup (nm x)=some ca/\lg.led ca=some o/\o.data=.cell (some w)/\Aw base lg v w))
def R4(e:Env)(x:Nat):Prop:=x<Bg.length/\(e.kindOf (nm x)=some .local\/e.kindOf (nm x)=some .cell)
structure Inv(base:Heap)(K:Frag)(e:Env)(m:Str->Option Value)(fr:List oq)(env:An)(lg:Lg)(μ:MH)(h:Heap):Prop where
 old:base.StaysIn h
 ns:h.Ns e.locals m
 nN:base.get? e.locals=none
 mN:lg.led e.locals=none
 led:∀a o,lg.led a=some o->h.get? a=some o/\base.get? a=none
 frames:∀f∈fr,(∃o,lg.led f.env.locals=some o/\H7 o f.m)/\∀a o,f.cells a=some o->lg.led a=some o/\Da o
 dist:(e.locals :: fr.map (·.env.locals)).Nodup
 apart:∀f∈fr,∀p∈lg.mE,f.env.locals≠p.2
 vars:∀x v,env x=some v->R4 e x->FO base e m lg x v
 heap:aa base K lg μ
theorem FO.mono{e:Env}{m:Str->Option Value}{lg ma:Lg}(q:Ext lg ma)(hc:∀a o,Da o->lg.led a=some o->ma.led a=some o)
  (h:FO base e m lg x v):FO base e m ma x v:=by
 refine⟨h.1,h.2.imp (fun nV=>by obtain⟨a,w,b,c⟩:=nV;exact⟨a,w,b,c.mono q⟩) fun nV=>by obtain⟨a,ca,o,w,b,c,d,f⟩:=nV;exact⟨a,ca,o,w,b,hc _ _ ⟨_,d⟩ c,d,f.mono q⟩⟩
section
variable{base:Heap}{K:Frag}{e:Env}{m:Str->Option Value}{fr:List oq}{env:An}{lg:Lg}{μ:MH}{h h':Heap}
theorem Inv.keeps(I:Inv base K e m fr env lg μ h)(k:∀b o,h.get? b=some o->h'.get? b=some o):Inv base K e m fr env lg μ h':=
 {I with old:=fun b o q=>k b o (I.old b o q),ns:=I.ns.keeps k,led:=fun a o q=>⟨k a o (I.led a o q).1,(I.led a o q).2⟩}
theorem Inv.push(I:Inv base K e m fr env lg μ h)(o:Obj):Inv base K e m fr env lg μ (h.push o):=I.keeps fun _ _ q=>gN o q
theorem Inv.extBut(I:Inv base K e m fr env lg μ h)(x:Heap.ExtBut h.objs.size h h'):Inv base K e m fr env lg μ h':=I.keeps fun b o q=>x b o (i6 (hO q)) q
noncomputable def Lg.put(lg:Lg)(a:Addr)(o:Obj):Lg:={lg with led:=fun b=>if b=a then some o else lg.led b}
noncomputable def Lg.l8(lg:Lg)(a d:Addr):Lg:={lg with mE:=lg.mE++[(a,d)]}
theorem Lg.mm(lg:Lg)(a:Addr)(o:Obj):(lg.put a o).led a=some o:=iP rfl
theorem Lg.mj(lg:Lg)(o:Obj)(q:b≠a):(lg.put a o).led b=lg.led b:=iO q
theorem Ext.mP(o:Obj)(q:lg.led a=none):Ext lg (lg.put a o):=by
 have k:∀b p,lg.led b=some p->(lg.put a o).led b=some p:=fun b p e=>by
  rw[Lg.mj];exact e
  rintro rfl;exact AM q e
 exact⟨fun b p _ e=>k b p e,fun b p c e=>⟨p,c,k b p e⟩,fun _ _ e=>e⟩
theorem Ext.nY(o:Obj)(q:lg.led a=some o')(n:sj o'):Ext lg (lg.put a o):=by
 have k:∀b p,¬sj p->lg.led b=some p->(lg.put a o).led b=some p:=fun b p i e=>by
  rw[Lg.mj];exact e
  rintro rfl;obtain rfl:=same q e;exact i n
 refine⟨fun b p i e=>k b p ?_ e,fun b p c e=>⟨p,c,k b p ?_ e⟩,fun _ _ e=>e⟩
 ·rintro(⟨z,_⟩|⟨es,k,z⟩)
  ·exact i.1 z
  ·exact i.2.1 _ _ z
 ·exact fun z=>z.ox c
theorem Ext.l8(a d:Addr):Ext lg (lg.l8 a d):=⟨fun _ _ _ e=>e,fun _ o c e=>⟨o,c,e⟩,fun n p e=>by
 show(lg.mE++[(a,d)])[n]?=some p
 exact(j5 (List.getElem?_eq_some_iff.mp e).1).trans (e)⟩
theorem Inv.fresh(I:Inv base K e m fr env lg μ h):lg.led h.objs.size=none:=by
 cases q:lg.led h.objs.size with
 |none=>rfl
 |some o=>exact absurd (hO (I.led _ _ q).1) (ip _)
theorem Inv.free(I:Inv base K e m fr env lg μ h)(n:h.get? a=none):lg.led a=none:=by
 cases q:lg.led a with
 |none=>rfl
 |some o=>have:=(I.led _ _ q).1;exact AM n this
theorem Inv.nS(I:Inv base K e m fr env lg μ h)(n:h.get? a=none):base.get? a=none:=by
 cases q:base.get? a with
 |none=>rfl
 |some o=>have:=I.old _ _ q;exact AM n this
theorem Bl(h:Heap):h.get? h.objs.size=none:=by
 cases q:h.get? h.objs.size with
 |none=>rfl
 |some o=>exact absurd (hO q) (ip _)
theorem Gn.mono{ma:Lg}(q:Ext lg ma)(hd:∀o,lg.led d=some o->ma.led d=some o)(h:Gn base K lg a d o):Gn base K ma a d o:=by
 cases o with
 |list xs=>obtain⟨e,hm,vs,k,a1,a4⟩:=h;exact⟨e,hm,vs,k,hd _ a1,a4.mono q⟩
 |inst c fs=>obtain⟨hc,C,c1,c2,c3,es,k,c4,c5⟩:=h;exact⟨hc,C,c1,q.oA _ _ ⟨by simp,by simp,by simp⟩ c2,c3,es,k,hd _ c4,c5.mono q⟩
 |dict kv=>obtain⟨e,o,a1,a2,es,k,a3,a4,a5,a6⟩:=h;exact⟨e,o,hd _ a1,a2,es,k,a3,a4,a5,a6.mono q⟩
theorem Inv.add(I:Inv base K e m fr env lg μ h)(n:h.get? a=none)(k:∀b o,h.get? b=some o->h'.get? b=some o)(g:h'.get? a=some o):Inv base K e m fr env (lg.put a o) μ h':=by
 have hf:=I.free n
 have x:Ext lg (lg.put a o):=Ext.mP o hf
 have keep:∀b p,lg.led b=some p->(lg.put a o).led b=some p:=fun b p q=>by
  rw[Lg.mj];exact q
  rintro rfl;exact AM hf q
 have nL:e.locals≠a:=by
  rintro rfl
  obtain⟨oL,ho,_⟩:=H7.of I.ns
  exact AM n ho
 refine⟨fun b p q=>k b p (I.old b p q),I.ns.keeps k,I.nN,by rw[Lg.mj _ _ nL];exact I.mN,fun b p q=>?_,fun f pJ=>?_,I.dist,I.apart,fun x' v q ss=>(I.vars x' v q ss).mono x fun b p _ z=>keep b p z,?_⟩
 ·by_cases z:b=a
  ·cases z
   rw[Lg.mm]at q
   obtain rfl:=Option.some.inj q
   exact⟨g,I.nS n⟩
  ·rw[Lg.mj _ _ z]at q
   exact⟨k b p (I.led b p q).1,(I.led b p q).2⟩
 ·obtain⟨⟨p,a1,a2⟩,a3⟩:=I.frames f pJ
  exact⟨⟨p,keep _ _ a1,a2⟩,fun c o q=>⟨keep _ _ (a3 c o q).1,(a3 c o q).2⟩⟩
 ·refine⟨I.heap.len,I.heap.nodup,fun n' p q=>?_⟩
  obtain⟨a',d,a1,a2⟩:=I.heap.each n' p q
  exact⟨a',d,a1,a2.mono x fun p z=>keep _ _ z⟩
theorem Inv.new(I:Inv base K e m fr env lg μ h)(hd:∀p∈lg.mE,p.2≠d)(tR:∀f∈fr,f.env.locals≠d)(ho:Gn base K (lg.l8 a d) a d o):Inv base K e m fr env (lg.l8 a d) (μ++[o]) h:=by
 have x:Ext lg (lg.l8 a d):=Ext.l8 a d
 refine{I with apart:=fun f hf p hp=>?_,vars:=fun x' v q ss=>(I.vars x' v q ss).mono x fun b p _ z=>z,heap:=⟨?_,?_,fun n p q=>?_⟩}
 ·rcases List.mem_append.mp (show p∈lg.mE++[(a,d)]from hp)with z|z
  ·exact I.apart f hf p z
  ·rw[List.mem_singleton.mp z];exact tR f hf
 ·show(lg.mE++[(a,d)]).length=(μ++[o]).length
  simp[I.heap.len]
 ·show((lg.mE++[(a,d)]).map (·.2)).Nodup
  rw[kx,List.nodup_append]
  refine⟨I.heap.nodup,by simp,fun c hc b hb=>?_⟩
  simp only[ja,lJ,List.mem_singleton]at hb
  obtain⟨q,hq,rfl⟩:=List.mem_map.mp hc
  exact fun z=>hd q hq (z.trans hb)
 ·by_cases z:n<μ.length
  ·rw[j5 z]at q
   obtain⟨a',d',a1,a2⟩:=I.heap.each n p q
   exact⟨a',d',x.mE _ _ a1,a2.mono x fun p z=>z⟩
  ·have hn:n=μ.length:=by
    have:=(List.getElem?_eq_some_iff.mp q).1
    simp at this;lia
   subst hn
   rw[jd (gM _)]at q
   simp at q
   subst q
   refine⟨a,d,?_,ho⟩
   show(lg.mE++[(a,d)])[μ.length]?=_
   rw[<- I.heap.len,jd (gM _)]
   simp
theorem aa.qw(H:aa base K lg μ){n k:Nat}{a d a' d':Addr}(hn:lg.mE[n]?=some (a,d))(hk:lg.mE[k]?=some (a',d'))(q:n≠k):d≠d':=by
 intro z
 have h1:(lg.mE.map (·.2))[n]?=some d:=by simp[hn]
 have h2:(lg.mE.map (·.2))[k]?=some d':=by simp[hk]
 subst z
 have hi:=(List.getElem?_eq_some_iff.mp h1).1
 exact q ((List.getElem?_inj hi H.nodup).mp (h1.trans h2.symm))
theorem Inv.turn(I:Inv base K e m fr env lg μ h)(hn:lg.mE[n]?=some (a,d))(hl:lg.led d=some ob)(hm:sj ob)
  (hs:Heap.SameBut d h h') (hg:h'.get? d=some rd) (ho:Gn base K (lg.put d rd) a d o):Inv base K e m fr env (lg.put d rd) (μ.set n o) h':=by
 have hnf:∀f∈fr,f.env.locals≠d:=fun f hf=>I.apart f hf (a,d) (jv hn)
 have x:Ext lg (lg.put d rd):=Ext.nY rd hl hm
 have hb:=(I.led d ob hl).2
 have nL:e.locals≠d:=by rintro rfl;exact AM I.mN hl
 refine⟨fun b p q=>(hs.2 b ?_).trans (I.old b p q),I.ns.sameBut hs nL,I.nN,by refine(Lg.mj _ _ nL).symm▸?_;exact I.mN,fun b p q=>?_,fun f pJ=>?_,I.dist,I.apart,fun x' v q ss=>(I.vars x' v q ss).mono x fun b p hc z=>?_,?_⟩
 ·rintro rfl;exact AM hb q
 ·by_cases z:b=d
  ·subst z;rw[Lg.mm]at q;obtain rfl:=Option.some.inj q;exact⟨hg,hb⟩
  ·rw[Lg.mj _ _ z]at q
   exact⟨(hs.2 b z).trans (I.led b p q).1,(I.led b p q).2⟩
 ·obtain⟨⟨p,a1,a2⟩,a3⟩:=I.frames f pJ
  refine⟨⟨p,by rw[Lg.mj _ _ (hnf f pJ)];exact a1,a2⟩,fun c o q=>⟨?_,(a3 c o q).2⟩⟩
  rw[Lg.mj];exact(a3 c o q).1
  rintro rfl
  have h1:=(a3 _ o q).1;obtain rfl:=same hl h1
  exact hm.ox (a3 _ _ q).2
 ·rw[Lg.mj];exact z
  rintro rfl;obtain rfl:=same hl z
  exact hm.ox hc
 ·refine⟨by simp[Lg.put,I.heap.len],I.heap.nodup,fun k p q=>?_⟩
  by_cases z:n=k
  ·subst z
   have:p=o:=by
    rw[j7]at q;simp at q;exact q.2.symm
   subst this
   exact⟨a,d,hn,ho⟩
  ·rw[hG z]at q
   obtain⟨a',d',a1,a2⟩:=I.heap.each k p q
   refine⟨a',d',a1,a2.mono x fun p y=>?_⟩
   rw[Lg.mj];exact y
   exact(I.heap.qw hn a1 z).symm
end
inductive AH{α:Type}(base:Heap)(K:Frag)(e:Env)(m:Str->Option Value)(fr:List oq)(env:An)(lg:Lg)(s:Shared)(P:Lg->MH->α->Prop)(a:α)(s':Shared):Prop
 |mk (h':Heap) (tk:Nat) (ma:Lg) (μ':MH) (e1:s'={s with heap:=h',toks:=tk}) (I:Inv base K e m fr env ma μ' h') (x:Ext lg ma) (p:P ma μ' a)
inductive PV(base:Heap)(Q:Ae)(lg:Lg)(μ:MH)(w:Value):Prop
 |mk (v:V) (r:Aw base lg v w) (q:Q v μ)
def PB(Q:Bool->MH->Prop)(_:Lg)(μ:MH)(b:Bool):Prop:=Q b μ
inductive PL(base:Heap)(Q:List V->MH->Prop)(lg:Lg)(μ:MH)(ws:List Value):Prop
 |mk (vs:List V) (r:Ar base lg vs ws) (q:Q vs μ)
section
variable{base:Heap}{K:Frag}{e:Env}{m:Str->Option Value}{fr:List oq}{env:An}{lg:Lg}{μ:MH}{s:Shared}
theorem AH.now{α:Type}{P:Lg->MH->α->Prop}{a:α}{h':Heap}{tk:Nat}(I:Inv base K e m fr env lg μ h')(p:P lg μ a) :
  AH base K e m fr env lg s P a {s with heap:=h',toks:=tk}:=⟨h',tk,lg,μ,rfl,I,Ext.refl _,p⟩
theorem AH.to{α:Type}{P:Lg->MH->α->Prop}{a:α}{h':Heap}{tk:Nat}{ma:Lg}{μ':MH}(I:Inv base K e m fr env ma μ' h')(x:Ext lg ma)(p:P ma μ' a) :
  AH base K e m fr env lg s P a {s with heap:=h',toks:=tk}:=⟨h',tk,ma,μ',rfl,I,x,p⟩
theorem AH.here{α:Type}{P:Lg->MH->α->Prop}{a:α}(I:Inv base K e m fr env lg μ s.heap)(p:P lg μ a) :
  AH base K e m fr env lg s P a s:=⟨s.heap,s.toks,lg,μ,rfl,I,Ext.refl _,p⟩
theorem AH.trans{α:Type}{P:Lg->MH->α->Prop}{a:α}{h':Heap}{tk:Nat}{s':Shared}(x:Ext lg ma)(h:AH base K e m fr env ma {s with heap:=h',toks:=tk} P a s') :
  AH base K e m fr env lg s P a s':=by
 obtain⟨oB,qW,pi,oh,rfl,I,y,p⟩:=h
 exact⟨oB,qW,pi,oh,rfl,I,x.trans y,p⟩
theorem AH.mono{α:Type}{P P':Lg->MH->α->Prop}{a:α}{s':Shared}(h:AH base K e m fr env lg s P a s')(k:∀ma μ',Ext lg ma->P ma μ' a->P' ma μ' a):AH base K e m fr env lg s P' a s':=by
 obtain⟨oB,qW,pi,oh,rfl,I,y,p⟩:=h
 exact⟨oB,qW,pi,oh,rfl,I,y,k _ _ y p⟩
theorem Aw.mn(h:Aw base lg (.int i) w):∃t,w=.int i t:=by cases h;exact⟨_,rfl⟩
theorem Aw.mt(h:Aw base lg (.str l) w):(∃t,w=.str (sx l) t)/\qe l:=by cases h;exact⟨⟨_,rfl⟩,by assumption⟩
theorem Aw.mI(h:Aw base lg (.l8 n) w):∃a d,w=.ref a/\lg.mE[n]?=some (a,d):=by cases h;exact⟨_,_,rfl,by assumption⟩
theorem Aw.nG(h:Aw base lg .none w):w=.none:=by cases h;rfl
theorem Aw.nj(h:Aw base lg (.bool b) w):w=.bool b:=by cases h;rfl
theorem BB(l:List Nat):(sx l).length=l.length:=by simp[sx,PySem.Str.length]
theorem LS(l k:List Nat):sx l++sx k=sx (l++k):=by
 show PySem.Str.mk _=_
 simp[sx]
theorem Wi(h:sx l=sx k):l=k:=by simpa [sx] using h
theorem qe.append{l k:List Nat}(a:qe l)(b:qe k)(h:l.length+k.length<=lim):qe (l++k):=
 ⟨by refine List.length_append.symm▸?_;exact h,fun c hc=>(List.mem_append.mp hc).elim (a.2 c) (b.2 c)⟩
theorem Cn:lim<=sizeLine:=by decide
end
section
variable{prog:Program}{w:World}{A:Around}{E:Value->Shared->Prop}
variable{base:Heap}{K:Frag}{e:Env}{m:Str->Option Value}{fr:List oq}{env:An}{lg:Lg}{μ:MH}{s:Shared}
theorem AJ{tk:Nat}{Q:Ae}(I:Inv base K e m fr env lg μ s.heap)(q:Q (.int i) μ):AH base K e m fr env lg s (PV base Q) (.int i t) {s with toks:=tk}:=
 ⟨s.heap,tk,lg,μ,rfl,I,Ext.refl _,.int i,.int i t,q⟩
theorem S5{Q:Ae}(I:Inv base K e m fr env lg μ s.heap)(q:Q (.bool b) μ):AH base K e m fr env lg s (PV base Q) (.bool b) s:=
 ⟨s.heap,s.toks,lg,μ,rfl,I,Ext.refl _,.bool b,.bool b,q⟩
theorem DB{tk:Nat}{Q:Ae}(I:Inv base K e m fr env lg μ s.heap)(hl:qe l)(q:Q (.str l) μ):AH base K e m fr env lg s (PV base Q) (.str (sx l) t) {s with toks:=tk}:=
 ⟨s.heap,tk,lg,μ,rfl,I,Ext.refl _,.str l,.str l t hl,q⟩
theorem JT{x:Nat}(h:x<2 ^ 62):x.log2<62\/x=0:=by
 by_cases q:x=0
 ·exact .inr q
 ·exact .inl ((Nat.log2_lt q).mpr h)
theorem JN{x:Int}(h:x.natAbs<2 ^ 62):Builtin.Int.intBits x<=62:=by
 unfold Builtin.Int.intBits
 split
 ·decide
 ·rcases JT h with q|q
  ·assumption
  ·rename_i z;simp at z;lia
theorem ZV{x:Int}(h:x.natAbs<2 ^ 62):IntMulOk x y:=by
 unfold IntMulOk
 have:=JN h
 have e:decide (Builtin.Int.intBits x>shortFactorBits)=false:=gZ (by unfold shortFactorBits;exact Nat.not_lt.mpr (mU (mz _) mu (.num 64) mu (.num 62) rfl this))
 rw[e];simp
theorem J2{y:Int}(h:y.natAbs<2 ^ 62):Builtin.divisionGoesByPylong x y=false:=by
 unfold Builtin.divisionGoesByPylong
 have:¬(if(y==0)=true then 0 else y.natAbs.log2 / 30+1)>300:=by
  split
  ·decide
  ·rcases JT h with q|q
   ·lia
   ·rename_i z;simp at z;lia
 simp only[gZ this,kG]
inductive dK(base:Heap)(lg:Lg)(h:Heap)(a d:Addr)(xs:List V):Prop
 |mk (vs:Array Value) (k:Nat) (g:h.get? a=some (listOf vs k)) (e:a=d) (l:xs.length<=lim) (r:Ar base lg xs vs.toList) (sz:vs.size=xs.length) (ld:lg.led d=some (listOf vs k))
theorem Co{n:Nat}{a d:Addr}{xs:List V}(I:Inv base K e m fr env lg μ s.heap)(hr:lg.mE[n]?=some (a,d))(hm:μ[n]?=some (.list xs)) :
  dK base lg s.heap a d xs:=by
 obtain⟨a',d',h1,h2⟩:=I.heap.each n _ hm
 cases same hr h1
 obtain⟨rfl,hl,vs,k,h3,h6⟩:=h2
 exact⟨vs,k,(I.led _ _ h3).1,rfl,hl,h6,by have:=h6.1;simp at this;lia,h3⟩
theorem A9{h:Heap}(x:h.get? a=some (listOf vs k)):h.IsList a vs:=⟨_,x,rfl,k,rfl⟩
theorem Gn.store(h:Gn base K lg a d o):∃ob,lg.led d=some ob:=by
 induction o with
 |list xs=>obtain⟨_,_,_,_,a1,_⟩:=h;exact⟨_,a1⟩
 |inst c fs=>obtain⟨_,_,_,_,_,es,k,a1,_⟩:=h;exact⟨_,a1⟩
 |dict kv=>obtain⟨_,ob,a1,_⟩:=h;exact⟨ob,a1⟩
theorem JO{h:Heap}{vs:List Value}{xs:List V}(I:Inv base K e m fr env lg μ h)(r:Ar base lg xs vs)(hl:xs.length<=lim)(k:Nat) :
  ∃ma,Inv base K e m fr env ma (μ++[.list xs]) (h.push (listOf vs.toArray k))/\Ext lg ma/\Aw base ma (.l8 μ.length) (.ref h.objs.size):=by
 have I1:=I.add (h':=h.push (listOf vs.toArray k)) (a:=h.objs.size) (o:=listOf vs.toArray k) (Bl h) (fun b p q=>gN _ q) (ia h rfl)
 have x1:Ext lg (lg.put h.objs.size (listOf vs.toArray k)):=Ext.mP _ I.fresh
 have ph:∀p∈lg.mE,p.2≠h.objs.size:=fun p hp z=>by
  obtain⟨n,hn⟩:=List.mem_iff_getElem?.mp hp
  have uS:n<μ.length:=by refine I.heap.len▸?_;exact(List.getElem?_eq_some_iff.mp hn).1
  obtain⟨a,d,h1,h2⟩:=I.heap.each n _ (g8 uS)
  obtain rfl:=same hn h1
  obtain⟨ob,s9⟩:=h2.store
  dsimp only at z
  rw[z]at s9
  exact absurd (hO (I.led _ _ s9).1) (ip _)
 have o9:∀f∈fr,f.env.locals≠h.objs.size:=fun f pJ z=>by
  obtain⟨⟨ob,a1,_⟩,_⟩:=I.frames f pJ
  rw[z]at a1
  exact absurd (hO (I.led _ _ a1).1) (ip _)
 have I2:=I1.new (a:=h.objs.size) (d:=h.objs.size) (o:=.list xs) ph o9 ⟨rfl,hl,vs.toArray,k,Lg.mm ..,by
  have:=r.mono (x1.trans (Ext.l8 (lg:=lg.put h.objs.size (listOf vs.toArray k)) h.objs.size h.objs.size));exact this⟩
 refine⟨_,I2,x1.trans (Ext.l8 _ _),.l8 _ _ h.objs.size ?_⟩
 show(lg.mE++[(h.objs.size,h.objs.size)])[μ.length]?=_
 rw[<- I.heap.len,jd (gM _)]
 simp
theorem MF{h:Heap}(I:Inv base K e m fr env lg μ h){o:Obj}(hf:o.isFreed=false):Inv base K e m fr env (lg.put h.objs.size o) μ (h.push o)/\Ext lg (lg.put h.objs.size o):=
 ⟨I.add (Bl h) (fun b p q=>gN o q) (ia h hf),Ext.mP o I.fresh⟩
theorem QH{xs:List V}{Q:Ae}(I:Inv base K e m fr env lg μ s.heap)(r:Ar base lg xs vs)(hl:xs.length<=lim)(q:Q (.tup xs) μ) :
  wpAny (model prog w) A (newTuple vs) (AH base K e m fr env lg s (PV base Q)) E s:=by
 refine wpAny_newTuple ?_ (by rw[<- r.1];exact gI hl Cn)
 obtain⟨I',x⟩:=MF I (o:={cls:=.type "tuple",data:=.seq vs.toArray}) rfl
 refine⟨_,s.toks,_,μ,rfl,I',x,.tup xs,.tup xs _ _ vs.toArray 0 ⟨⟨by simp,by simp,by simp⟩,.inl (Lg.mm ..)⟩ rfl rfl (by simpa using r.1) hl fun i v z a b=>(r.2 i v z a (by simpa using b)).mono x,q⟩
theorem SO{xs:List V}{Q:Ae}(I:Inv base K e m fr env lg μ s.heap)(r:Ar base lg xs vs)(hl:xs.length<=lim)(q:Q (.l8 μ.length) (μ++[.list xs])) :
  wpAny (model prog w) A (newList vs) (AH base K e m fr env lg s (PV base Q)) E s:=by
 refine wpAny_newList ?_ (by refine r.1▸?_;exact gI hl Cn)
 obtain⟨ma,I',x,v⟩:=JO I r hl 0
 exact⟨_,s.toks,ma,_,rfl,I',x,_,v,q⟩
end
section
variable{prog:Program}{w:World}{A:Around}{E:Value->Shared->Prop}
variable{base:Heap}{K:Frag}{e:Env}{m:Str->Option Value}{fr:List oq}{env:An}{lg:Lg}{μ:MH}{s:Shared}
theorem VU{α:Type}(xs:List α)(n:Nat):∀(acc:Array α),List.foldl (fun x1 x2=>x1++x2) acc (List.replicate n xs.toArray)=acc++(List.replicate n xs).flatten.toArray:=by
 induction n with
 |zero=>intro acc;rfl
 |succ n ih=>
  intro acc
  rw[l6,lh,ih,l6]
  simp[Array.append_assoc]
theorem Ar.rep(h:Aw base lg v z)(n:Nat):Ar base lg (List.replicate n v) (List.replicate n z):=by
 induction n with
 |zero=>exact .nil
 |succ n ih=>exact Ar.cons h ih
theorem WC{Q:Ae}(I:Inv base K e m fr env lg μ s.heap)(h:aj op i j fun i=>Q (.int i) μ) :
  wpAny (model prog w) A (binaryOp op (.int i t) (.int j u)) (AH base K e m fr env lg s (PV base Q)) E s:=by
 induction op with
 |Add=>exact add_int (AJ I h)
 |Sub=>exact sub_int (AJ I h)
 |Mult=>exact mul_int (AJ I (Ai (Ai h).2).2) (ZV (Ai h).1)
 |FloorDiv=>exact floordiv_int (Ai h).1 (AJ I (Ai (Ai h).2).2) (.inl (J2 (Ai (Ai h).2).1))
 |Mod=>exact mod_int' (Ai h).1 (AJ I (Ai h).2)
 |LShift=>
  have h1:=(Ai h).1;have h:=(Ai h).2
  have h2:=(Ai h).1;have h:=(Ai h).2
  have h3:=(Ai h).1;have h:=(Ai h).2
  exact lshift_int h1 (by have:=JN h3;lia) (AJ I h)
 |RShift=>exact rshift_int (Ai h).1 (AJ I (Ai h).2)
 |BitAnd=>exact and_int (AJ I h)
 |BitOr=>exact or_int (AJ I h)
 |BitXor=>exact xor_int (AJ I h)
 |_=>exact h.elim
theorem cG{n:Int}{Q:Ae}(I:Inv base K e m fr env lg μ s.heap)(ha:Aw base lg (.l8 l) x)(hb:Aw base lg (.int n) y)(hm:By μ l=some xs)
  (hx:xs=[z]) (h0:0<=n) (h1:n<=1000) (q:Q (.l8 μ.length) (μ++[.list (List.replicate n.toNat z)])) :
  wpAny (model prog w) A (binaryOp .Mult x y) (AH base K e m fr env lg s (PV base Q)) E s:=by
 subst hx
 obtain⟨p,d,rfl,hr⟩:=ha.mI
 obtain⟨u,rfl⟩:=hb.mn
 obtain⟨vs,k,hg,rfl,hl,hv,nF,nT⟩:=Co I hr (Ba hm)
 obtain⟨zw,sG,e1,hz,hn⟩:=hv.mV
 have e2:sG=[]:=by have:=hn.1;simpa using this.symm
 subst e2
 have e3:vs=#[zw]:=by apply Array.toList_inj.mp;simpa using e1
 subst e3
 refine wpAny_binaryOp_repeat_ref (T:="list") (U:="int") (by decide) ⟨_,hg,rfl⟩ (fun s'=>typeIs_int s' n u) noFill_list_mul F.fills_int_mul F.slot_int_rmul repeat_list F.slot_int_index.lookup
  (lj F.slot_int_rmul (typeIs_int s n u) F.entry_int_rmul (F.args_int_rmul_2 _ _) (int___rmul___int_list n u p #[zw] k)
   ⟨hg,rfl,⟨_,hg,rfl⟩,lj F.slot_list_mul ⟨_,hg,rfl⟩ F.entry_list_mul (F.args_list_mul_2 _ _)
    (AutoListH.list___mul___list_int_3 p #[zw] k n u (by simp[Builtin.List.listFitsIndex];exact⟨mO (mz _) (.neg (.num 9223372036854775808)) mq (.num 0) mq rfl h0,mO (mz _) (mw 0 1) (.num 9223372036854775808) mq (.num 1000) rfl h1⟩) (by show ¬1*n.toNat>(2 ^ 63 - 1) / 8;lia) (by simp[Builtin.List.listTooLong,sizeLine];exact mO (mz _) mq (.num 16777216) mq (.num 1000) rfl h1))
    ⟨hg,?_⟩⟩)
 have e4:(List.foldl (fun x1 x2=>x1++x2) #[] (List.replicate (if(#[zw]:Array Value).isEmpty=true then 0 else n.toNat) #[zw]))=(List.replicate n.toNat zw).toArray:=by
  have:=VU [zw] n.toNat #[]
  rw[iO (by simp)]
  refine Eq.trans this ?_
  simp
 rw[e4]
 obtain⟨ma,I',x,v⟩:=JO I (Ar.rep hz n.toNat) (by simp[lim];exact mO (mz _) mq (.num 1000000) mq (.num 1000) rfl h1) 0
 exact⟨_,s.toks,ma,_,rfl,I',x,_,v,q⟩
theorem al{Q:Ae}(I:Inv base K e m fr env lg μ s.heap)(ha:Aw base lg a x)(hb:Aw base lg b y)(h:ak op a b Q μ) :
  wpAny (model prog w) A (binaryOp op x y) (AH base K e m fr env lg s (PV base Q)) E s:=by
 induction a using V.casesOn with
 |int i=>induction b using V.casesOn with
  |int j=>obtain⟨t,rfl⟩:=ha.mn;obtain⟨u,rfl⟩:=hb.mn;exact WC I h
  |_=>exact h.elim
 |str i=>induction b using V.casesOn with
  |str j=>induction op using Operator.casesOn with
   |Add=>
    obtain⟨⟨t,rfl⟩,l1⟩:=ha.mt;obtain⟨⟨u,rfl⟩,l2⟩:=hb.mt
    refine SBL.add (fun t' k _=>?_) (by rw[BB];exact gI (Ai h).1 Cn)
    rw[LS]
    exact DB I (l1.append l2 (Ai h).1) (Ai h).2
   |_=>exact h.elim
  |_=>exact h.elim
 |l8 l=>induction b using V.casesOn with
  |int n=>induction op using Operator.casesOn with
   |Mult=>
    obtain⟨xs,hm,h⟩:=Aq h
    match xs,hm,h with
    |[z],hm,h=>exact cG I ha hb hm rfl (Ai h).1 (Ai (Ai h).2).1 (Ai (Ai h).2).2
    |[],_,h=>exact h.elim
    |_ :: _ :: _,_,h=>exact h.elim
   |_=>exact h.elim
  |_=>exact h.elim
 |_=>exact h.elim
theorem Ws{Q:V->Prop}{Q':Ae}(I:Inv base K e m fr env lg μ s.heap)(ha:Aw base lg a x)(h:unW op a Q)(hq:∀v,Q v->Q' v μ) :
  wpAny (model prog w) A (unaryOp op x) (AH base K e m fr env lg s (PV base Q')) E s:=by
 induction a using V.casesOn with
 |int i=>
  obtain⟨t,rfl⟩:=ha.mn
  induction op with
  |USub=>exact neg_int (AJ I (hq _ h))
  |Invert=>exact invert_int (AJ I (hq _ h))
  |_=>exact h.elim
 |_=>exact h.elim
theorem G0{Q:Bool->Shared->Prop}(ha:Aw base lg a x)(h:D2 a=some b)(q:Q b s):wpAny (model prog w) A (truthy x) Q E s:=by
 induction a using V.casesOn with
 |none=>refine ha.nG.symm▸?_;obtain rfl:=Option.some.inj h;exact truthy_none q
 |bool c=>refine ha.nj.symm▸?_;obtain rfl:=Option.some.inj h;exact jG q
 |int i=>obtain⟨t,rfl⟩:=ha.mn;obtain rfl:=Option.some.inj h;exact truthy_int q
 |_=>exact Ao h
end
section
variable{prog:Program}{w:World}{A:Around}{E:Value->Shared->Prop}
variable{base:Heap}{K:Frag}{e:Env}{m:Str->Option Value}{fr:List oq}{env:An}{lg:Lg}{μ:MH}{s:Shared}{h:Heap}
theorem Inv.kn(I:Inv base K e m fr env lg μ h)(k:Kn base lg a o):h.get? a=some o:=
 k.2.elim (fun q=>(I.led a o q).1) (fun q=>I.old a o q)
inductive ae(base:Heap)(lg:Lg)(l:List V)(x:Value):Prop
 |mk (a:Addr) (o:Obj) (vs:Array Value) (n:Nat) (e:x=.ref a) (k:Kn base lg a o) (c:o.cls=.type "tuple") (d:o.data=.seq vs n) (m:l.length<=lim) (r:Ar base lg l vs.toList)
inductive Z7(base:Heap)(lg:Lg)(l:List V)(x:Value):Prop
 |mk (a:Addr) (o:Obj) (vs:Array Value) (n:Nat) (e:x=.ref a) (k:base.get? a=some o) (c:o.cls=.type "list") (d:o.data=.seq vs n) (m:l.length<=lim) (r:Ar base lg l vs.toList)
theorem Aw.nX(r:Aw base lg (.tup l) x):ae base lg l x:=by
 cases r with
 |tup _ a o vs n k c d hl hm r=>exact⟨a,o,vs,n,rfl,k,c,d,hm,by exact hl,fun i v w p q=>r i v w p (by simpa using q)⟩
theorem Aw.pW(r:Aw base lg (.mT l) x):Z7 base lg l x:=by
 cases r with
 |mT _ a o vs n k c d hl hm r=>exact⟨a,o,vs,n,rfl,k,c,d,hm,by exact hl,fun i v w p q=>r i v w p (by simpa using q)⟩
theorem Aw.pX{lo hi st:Int}{x:Value}(r:Aw base lg (.range lo hi st) x):∃a t1 t2 t3,x=.ref a/\Kn base lg a (Fh lo hi st t1 t2 t3)/\tH lo hi st:=by
 cases r with
 |range _ _ _ a t1 t2 t3 k r=>exact⟨a,t1,t2,t3,rfl,k,r⟩
theorem GH(I:Inv base K e m fr env lg μ h){o:Obj}(k:Kn base lg a o)(c:o.cls=.type "tuple")(d:o.data=.seq vs n):IsTup h a vs:=⟨o,I.kn k,c,n,d⟩
theorem Ar.nil_inv(r:Ar base lg [] vs):vs=[]:=List.length_eq_zero_iff.mp r.1.symm
theorem Gh{ss:List (List Nat)}(q:Bz l=some ss)(r:Ar base lg l vs):StrsAre vs (ss.map sx)/\∀t∈ss,qe t:=by
 induction l generalizing ss vs with
 |nil=>obtain rfl:=Option.some.inj q;obtain rfl:=r.nil_inv;exact⟨.nil,fun t ht=>by cases ht⟩
 |cons v l ih=>
  obtain⟨z,sG,rfl,hz,hr⟩:=r.mV
  induction v using V.casesOn with
  |str t=>
   simp only[Bz]at q
   cases q':Bz l with
   |none=>replace q:=q'▸q;exact Ao q
   |some pM=>
    replace q:=q'▸q;obtain rfl:=Option.some.inj q
    obtain⟨⟨u,rfl⟩,hk⟩:=hz.mt
    have h1:=(ih q' hr).1;have h2:=(ih q' hr).2
    exact⟨.cons _ _ h1,fun t' ht=>(List.mem_cons.mp ht).elim (fun q=>q▸hk) (h2 t')⟩
  |_=>exact Ao q
theorem PR(q:Hq l=some ns)(r:Ar base lg l vs):IntsAre vs ns:=by
 induction l generalizing ns vs with
 |nil=>obtain rfl:=Option.some.inj q;obtain rfl:=r.nil_inv;exact .nil
 |cons v l ih=>
  obtain⟨z,sG,rfl,hz,hr⟩:=r.mV
  induction v using V.casesOn with
  |int t=>
   simp only[Hq]at q
   cases q':Hq l with
   |none=>replace q:=q'▸q;exact Ao q
   |some pM=>
    replace q:=q'▸q;obtain rfl:=Option.some.inj q
    obtain⟨u,rfl⟩:=hz.mn
    exact .cons _ _ (ih q' hr)
  |_=>exact Ao q
theorem HT(h:qe l):PyData.strOk (sx l)=true:=by
 unfold PyData.strOk sx
 simp only[List.all_toArray,io,hV]
 exact fun c hc=>iB (h.2 c hc) (by decide)
theorem JW{α β:Type}{f:α->Option β}{a:α}{l:List α}{r:List β}(h:(a :: l).mapM f=some r):∃b t,f a=some b/\l.mapM f=some t/\r=b :: t:=by
 rw[ji]at h
 cases hf:f a with
 |none=>replace h:=hf▸h;exact Ao h
 |some b=>
  replace h:=hf▸h
  cases ht:l.mapM f with
  |none=>replace h:=ht▸h;exact Ao h
  |some t=>replace h:=ht▸h;obtain rfl:=Option.some.inj h;exact⟨b,t,rfl,rfl,rfl⟩
theorem LJ(ih:∀(v:V) (d:PyData) (x:Value),AZ μ n v=some d->Aw base lg v x->∃as,Reads h x d as/\d.canLay0=true/\d.depth<=n)
  (l:List V):∀(ds:List PyData) (vs:List Value),l.mapM (AZ μ n)=some ds->Ar base lg l vs->∃as,ReadsAll h vs ds as/\PyData.canLayAll0 ds=true/\PyData.depthAll ds<=n:=by
 induction l with
 |nil=>
  intro ds vs q r
  obtain rfl:=Option.some.inj q;obtain rfl:=r.nil_inv
  exact⟨[],.nil,rfl,iq _⟩
 |cons v l ihl=>
  intro ds vs q r
  obtain⟨z,sG,rfl,hz,hr⟩:=r.mV
  obtain⟨d,t,h1,h2,rfl⟩:=JW q
  obtain⟨as,a1,a2,a3⟩:=ih _ _ _ h1 hz
  obtain⟨bs,b1,b2,b3⟩:=ihl t sG h2 hr
  exact⟨_,.cons a1 b1,(congr (congrArg and a2) b2 :),Nat.max_le.mpr ⟨a3,b3⟩⟩
theorem GU(I:Inv base K e m fr env lg μ h):∀(n:Nat) (v:V) (d:PyData) (x:Value),AZ μ n v=some d->Aw base lg v x->∃as,Reads h x d as/\d.canLay0=true/\d.depth<=n:=by
 intro n
 induction n with
 |zero=>
  intro v d x q r
  induction v using V.casesOn<;>cases q
  ·refine r.nG.symm▸?_;exact⟨_,.none,by rfl,by decide⟩
  ·refine r.nj.symm▸?_;exact⟨_,.bool _,by rfl,by simp[PyData.depth]⟩
  ·obtain⟨t,rfl⟩:=r.mn;exact⟨_,.int _ _,by rfl,by simp[PyData.depth]⟩
  ·obtain⟨⟨t,rfl⟩,hl⟩:=r.mt;exact⟨_,.str _ _,by simp[PyData.canLay0,HT hl],by simp[PyData.depth]⟩
 |succ n ih=>
  intro v d x q r
  induction v using V.casesOn with
  |none=>obtain rfl:=Option.some.inj q;refine r.nG.symm▸?_;exact⟨_,.none,by decide,by simp[PyData.depth]⟩
  |bool b=>obtain rfl:=Option.some.inj q;refine r.nj.symm▸?_;exact⟨_,.bool _,by rfl,by simp[PyData.depth]⟩
  |int b=>obtain rfl:=Option.some.inj q;obtain⟨t,rfl⟩:=r.mn;exact⟨_,.int _ _,by rfl,by simp[PyData.depth]⟩
  |str b=>obtain rfl:=Option.some.inj q;obtain⟨⟨t,rfl⟩,hl⟩:=r.mt;exact⟨_,.str _ _,by simp[PyData.canLay0,HT hl],by simp[PyData.depth]⟩
  |tup l=>
   change (l.mapM (AZ μ n)).map PyData.tuple=some d at q
   cases q':l.mapM (AZ μ n) with
   |none=>replace q:=q'▸q;exact Ao q
   |some ds=>
    replace q:=q'▸q;obtain rfl:=Option.some.inj q
    obtain⟨a,o,vs,k,rfl,hk,hc,hd,_,hr⟩:=r.nX
    obtain⟨as,a1,a2,a3⟩:=LJ (h:=h) ih l ds _ q' hr
    exact⟨as,.tuple (I.kn hk) hc hd a1,by simpa [PyData.canLay0] using a2,by simp[PyData.depth];assumption⟩
  |mT l=>exact Ao q
  |range _ _ _=>exact Ao q
  |l8 a=>
   obtain⟨xs,hx,q⟩:=Option.bind_eq_some_iff.mp (show(By μ a).bind _=some d from q)
   obtain⟨ds,q',q⟩:=Option.map_eq_some_iff.mp q
   cases q
   obtain⟨a,d,rfl,hr⟩:=r.mI
   obtain⟨a',d',h1,h2⟩:=I.heap.each _ _ (Ba hx)
   cases same hr h1
   obtain⟨rfl,hl,vs,k,h3,h6⟩:=h2
   obtain⟨as,a1,a2,a3⟩:=LJ (h:=h) ih xs ds _ q' h6
   exact⟨_,.list (I.led _ _ h3).1 rfl rfl a1,by simpa [PyData.canLay0] using a2,by simp[PyData.depth];assumption⟩
theorem QC(a b:List Nat):(sx a==sx b)=(a==b):=by
 rw[jT,iC,iC]
 exact⟨Wi,fun q=>q▸rfl⟩
theorem TD(ss:List (List Nat))(k:List Nat):((ss.map sx).any fun x=>x==sx k)=ss.any fun x=>x==k:=by
 rw[List.any_map]
 congr 1
 funext x
 exact QC x k
theorem Mq{Q:Value->Shared->Prop}(I:Inv base K e m fr env lg μ s.heap)(hu:A.units+8<cLine)(ha:Aw base lg a x)(hb:Aw base lg b y)(h:sr μ a b=some c)(q:Q (.bool c) s) :
  wpAny (model prog w) A (compareOp .Eq x y) Q E s:=by
 obtain⟨dx,hx,h⟩:=Option.bind_eq_some_iff.mp (show(AZ μ 5 a).bind _=some c from h)
 obtain⟨dy,hy,h⟩:=Option.map_eq_some_iff.mp h
 subst h
 obtain⟨as,a1,a2,a3⟩:=GU I _ _ _ _ hx ha
 obtain⟨bs,b1,b2,b3⟩:=GU I _ _ _ _ hy hb
 exact SeqAt.compareEq_reads a1 b1 a2 b2 (by have:=Nat.min_le_left dx.depth dy.depth;lia) q
theorem d7{Q:Value->Shared->Prop}(I:Inv base K e m fr env lg μ s.heap)(hu:A.units+8<cLine)(ha:Aw base lg a x)(hb:Aw base lg b y)(h:rC μ a b=some c)(q:Q (.bool c) s) :
  wpAny (model prog w) A (compareOp .Eq x y) Q E s:=by
 induction a using V.casesOn with
 |int i=>induction b using V.casesOn with
  |int j=>obtain⟨t,rfl⟩:=ha.mn;obtain⟨u,rfl⟩:=hb.mn;obtain rfl:=Option.some.inj h;exact eq_int q
  |_=>exact Mq I hu ha hb h q
 |str i=>induction b using V.casesOn with
  |str j=>obtain⟨⟨t,rfl⟩,_⟩:=ha.mt;obtain⟨⟨u,rfl⟩,_⟩:=hb.mt;obtain rfl:=Option.some.inj h;exact eq_str (by rw[QC];exact q)
  |_=>exact Mq I hu ha hb h q
 |bool i=>induction b using V.casesOn with
  |bool j=>(refine ha.nj.symm▸?_;refine hb.nj.symm▸?_);obtain rfl:=Option.some.inj h;exact eq_bool q
  |_=>exact Mq I hu ha hb h q
 |_=>exact Mq I hu ha hb h q
theorem MR{Q:Value->Shared->Prop}(I:Inv base K e m fr env lg μ s.heap)(hu:A.units+8<cLine)(ha:Aw base lg a x)(hb:Aw base lg b y)(h:sr μ a b=some c)(q:Q (.bool (!c)) s) :
  wpAny (model prog w) A (compareOp .NotEq x y) Q E s:=by
 obtain⟨dx,hx,h⟩:=Option.bind_eq_some_iff.mp (show(AZ μ 5 a).bind _=some c from h)
 obtain⟨dy,hy,h⟩:=Option.map_eq_some_iff.mp h
 subst h
 obtain⟨as,a1,a2,a3⟩:=GU I _ _ _ _ hx ha
 obtain⟨bs,b1,b2,b3⟩:=GU I _ _ _ _ hy hb
 exact SeqAt.compareNe_reads a1 b1 a2 b2 (by have:=Nat.min_le_left dx.depth dy.depth;lia) q
theorem eT{Q:Value->Shared->Prop}(I:Inv base K e m fr env lg μ s.heap)(hu:A.units+8<cLine)(ha:Aw base lg a x)(hb:Aw base lg b y)(h:rC μ a b=some c)(q:Q (.bool (!c)) s) :
  wpAny (model prog w) A (compareOp .NotEq x y) Q E s:=by
 induction a using V.casesOn with
 |int i=>induction b using V.casesOn with
  |int j=>obtain⟨t,rfl⟩:=ha.mn;obtain⟨u,rfl⟩:=hb.mn;obtain rfl:=Option.some.inj h;exact ne_int q
  |_=>exact MR I hu ha hb h q
 |str i=>induction b using V.casesOn with
  |str j=>obtain⟨⟨t,rfl⟩,_⟩:=ha.mt;obtain⟨⟨u,rfl⟩,_⟩:=hb.mt;obtain rfl:=Option.some.inj h;exact ne_str (by rw[bne,QC];exact q)
  |_=>exact MR I hu ha hb h q
 |bool i=>induction b using V.casesOn with
  |bool j=>(refine ha.nj.symm▸?_;refine hb.nj.symm▸?_);obtain rfl:=Option.some.inj h;exact ne_bool q
  |_=>exact MR I hu ha hb h q
 |_=>exact MR I hu ha hb h q
theorem ez{Q:Value->Shared->Prop}(I:Inv base K e m fr env lg μ s.heap)(ha:Aw base lg a x)(hb:Aw base lg b y)(h:inV μ a b=some c)(q:Q (.bool c) s) :
  wpAny (model prog w) A (compareOp .In x y) Q E s:=by
 induction b using V.casesOn with
 |str t=>
  obtain⟨ch,e1,rfl⟩:=Option.map_eq_some_iff.mp (show(OM a).map _=some c from h)
  obtain rfl:=Kk e1
  obtain⟨⟨t1,rfl⟩,_⟩:=ha.mt;obtain⟨⟨u,rfl⟩,_⟩:=hb.mt
  refine in_str ?_
  have:=StrLaws.found_one (sx t) ch
  (refine(show sx [ch]={cps:=#[ch]} from rfl).symm▸?_;rewrite[this])
  exact q
 |tup l=>
  obtain⟨p,o,vs,k,rfl,hk,hc,hd,_,hr⟩:=hb.nX
  induction a using V.casesOn with
  |str i=>
   obtain⟨⟨t1,rfl⟩,_⟩:=ha.mt
   obtain⟨ss,q',h⟩:=Option.map_eq_some_iff.mp (show(Bz l).map _=some c from h)
   subst h
   exact in_tuple_strs (GH I hk hc hd) (Gh q' hr).1 (by rw[TD];exact q)
  |int i=>
   obtain⟨t1,rfl⟩:=ha.mn
   obtain⟨ss,q',h⟩:=Option.map_eq_some_iff.mp (show(Hq l).map _=some c from h)
   subst h
   exact in_tuple_ints (GH I hk hc hd) (PR q' hr) q
  |_=>exact Ao h
 |l8 n=>induction a using V.casesOn with
  |str i=>
   obtain⟨⟨t1,rfl⟩,_⟩:=ha.mt
   obtain⟨l,hm,h⟩:=Option.bind_eq_some_iff.mp (show(By μ n).bind _=some c from h)
   obtain⟨ss,q',h⟩:=Option.map_eq_some_iff.mp h
   subst h
   obtain⟨p,d,rfl,hr⟩:=hb.mI
   obtain⟨vs,k,hg,rfl,hl,hv,nF,nT⟩:=Co I hr (Ba hm)
   exact in_list_strs (vs:=vs.toList) (A9 (by exact hg)) (Gh q' hv).1 (by rw[TD];exact q)
  |_=>exact Ao h
 |_=>exact Ao h
theorem JP(ha:Aw base lg a x):PySem.plainIs x .none=true/\(x==Value.none)=bb a:=by
 induction ha<;>exact⟨rfl,by first|rfl|decide⟩
theorem GG{f:Int->Int->Bool}(h:Ol a b f=some c):∃i j,a=.int i/\b=.int j/\c=f i j:=by
 obtain⟨i,e1,h⟩:=Option.bind_eq_some_iff.mp h
 obtain⟨j,e2,h⟩:=Option.map_eq_some_iff.mp h
 exact⟨i,j,Fa e1,Fa e2,h.symm⟩
theorem Hl{Q:Value->Shared->Prop}(I:Inv base K e m fr env lg μ s.heap)(hu:A.units+8<cLine)(ha:Aw base lg a x)(hb:Aw base lg b y)(h:Ij μ op a b=some c)(q:Q (.bool c) s) :
  wpAny (model prog w) A (compareOp op x y) Q E s:=by
 induction op with
 |Eq=>exact d7 I hu ha hb h q
 |NotEq=>
  obtain⟨d,h',h⟩:=Option.map_eq_some_iff.mp (show(rC μ a b).map _=some c from h)
  subst h;exact eT I hu ha hb h' q
 |Lt=>obtain⟨i,j,rfl,rfl,rfl⟩:=GG h;obtain⟨t,rfl⟩:=ha.mn;obtain⟨u,rfl⟩:=hb.mn;exact lt_int q
 |LtE=>obtain⟨i,j,rfl,rfl,rfl⟩:=GG h;obtain⟨t,rfl⟩:=ha.mn;obtain⟨u,rfl⟩:=hb.mn;exact le_int q
 |Gt=>obtain⟨i,j,rfl,rfl,rfl⟩:=GG h;obtain⟨t,rfl⟩:=ha.mn;obtain⟨u,rfl⟩:=hb.mn;exact gt_int q
 |GtE=>obtain⟨i,j,rfl,rfl,rfl⟩:=GG h;obtain⟨t,rfl⟩:=ha.mn;obtain⟨u,rfl⟩:=hb.mn;exact ge_int q
 |Is=>induction b using V.casesOn with
  |none=>
   refine hb.nG.symm▸?_
   obtain⟨h1,h2⟩:=JP ha
   obtain rfl:=Option.some.inj h
   exact wpAny_is_plain h1 (by rw[h2];exact q)
  |_=>exact Ao h
 |IsNot=>induction b using V.casesOn with
  |none=>
   refine hb.nG.symm▸?_
   obtain⟨h1,h2⟩:=JP ha
   obtain rfl:=Option.some.inj h
   exact wpAny_isNot_plain h1 (by refine h2.symm▸?_;exact q)
  |_=>exact Ao h
 |In=>exact ez I ha hb h q
 |_=>exact Ao h
end
section
variable{prog:Program}{w:World}{A:Around}{E:Value->Shared->Prop}
variable{base:Heap}{K:Frag}{e:Env}{m:Str->Option Value}{fr:List oq}{env:An}{lg:Lg}{μ:MH}{s:Shared}{h:Heap}
theorem LE(q:CV n i=some k):seqIndex? i n=some k/\k<n:=by
 unfold CV at q
 unfold seqIndex?
 split at q
 ·split at q
  ·obtain rfl:=Option.some.inj q
   have h:¬i<0:=by lia
   simp only[h,kO]
   refine⟨?_,by lia⟩
   rw[iP (by lia)]
  ·exact Ao q
 ·split at q
  ·obtain rfl:=Option.some.inj q
   have h:i<0:=by lia
   simp only[h,kN]
   refine⟨?_,by lia⟩
   rw[iP (by lia)]
  ·exact Ao q
theorem Cr{i:Int}(q:CV n i=some k):-(n:Int)<=i/\i<n/\((0<=i/\k=i.toNat)\/(i<0/\k=(i+n).toNat)):=by
 unfold CV at q
 split at q
 ·split at q
  ·obtain rfl:=Option.some.inj q;lia
  ·exact Ao q
 ·split at q
  ·obtain rfl:=Option.some.inj q;lia
  ·exact Ao q
structure LV(prog:Program)(w:World)(A:Around)(E:Value->Shared->Prop)(o i:Value)(Q:Value->Shared->Prop)(s:Shared):Prop where
 how:∃T id,s.TypeIs o T/\typeLookup (.type T) "__getitem__"=pure (some (.builtin id))
 rZ:wpAny (model prog w) A (getItem o i) Q E s
theorem RV{Q:Value->Shared->Prop}(x:LV prog w A E o i Q s)(hs:subscripted slice false o i=operate ops (getItem o i)) :
  wpAny (model prog w) A (subscriptTail value slice o i) Q E s:=by
 obtain⟨⟨T,id,h1,h2⟩,h3⟩:=x
 exact tail_any h1 h2 h3 hs
theorem Ok{n:Nat}{a d:Addr}{kv:List (Int×V)}(I:Inv base K e m fr env lg μ h)(hr:lg.mE[n]?=some (a,d))(hm:μ[n]?=some (.dict kv)) :
  ∃f,h.IntMap a f/\Nt base lg kv f/\h.DictLe a kv.length/\a=d:=by
 obtain⟨a',d',h1,h2⟩:=I.heap.each n _ hm
 cases same hr h1
 obtain⟨rfl,o,a1,a2,es,k,a3,a4,a5,a6⟩:=h2
 refine⟨_,⟨o,es,k,(I.led _ _ a1).1,a2,a3,a4,fun _=>rfl⟩,a6,fun o' es' ep' g' d'=>?_,rfl⟩
 obtain rfl:=same ((I.led _ _ a1).1) g'
 replace d':=a3▸d';cases d';exact a5
theorem Wh{Q:Ae}(I:Inv base K e m fr env lg μ s.heap)(ha:Aw base lg a x)(hb:Aw base lg b y)(h:B7 μ a b=some v)(q:Q v μ) :
  LV prog w A E x y (AH base K e m fr env lg s (PV base Q)) s:=by
 have qE:lim=1000000:=rfl
 obtain⟨i,ei,h⟩:=Option.bind_eq_some_iff.mp (show(Cx b).bind _=some v from h)
 cases Fa ei
 obtain⟨t,rfl⟩:=hb.mn
 induction a using V.casesOn with
 |l8 n=>
  obtain⟨p,d,rfl,hr⟩:=ha.mI
  have h:(match μ[n]? with|some o=>(match o with|.list xs=>OS xs i|.dict kv=>Bn kv i|_=>none)|none=>none)=some v:=h
  cases hm:μ[n]? with
  |none=>replace h:=hm▸h;exact Ao h
  |some o=>
   replace h:=hm▸h
   induction o with
   |list xs=>
    obtain⟨vs,k,hg,rfl,hl,hv,nF,nT⟩:=Co I hr hm
    have sy:=A9 hg
    obtain⟨k,hk,hx⟩:=Option.bind_eq_some_iff.mp (show(CV _ i).bind _=some v from h)
    obtain⟨wv,hw,pf⟩:=hv.at hx
    have b1:=(Cr hk).1;have b2:=(Cr hk).2.1;have b3:=(Cr hk).2.2
    refine⟨⟨"list",_,sy.typeIs,slot_list_getitem.lookup⟩,?_⟩
    rcases b3 with⟨c1,c2⟩|⟨c1,c2⟩
    ·exact wpAny_getItem_list sy c1 (by exact qq0 (Int.ofNat_le.mpr (hZ qE)) (Int.ofNat_le.mpr hl) b2) (x:=wv) (by(refine c2▸?_;rewrite[<- iL]);exact hw) (AH.here I ⟨v,pf,q⟩)
    ·exact wpAny_getItem_list_neg sy c1 (by exact qf (nI _ _ _) (.neg mq) oQ mW mq (.neg mW) oQ rfl (Int.ofNat_le.mpr (hZ nF.symm)) b1) (by exact qq1 (Int.ofNat_le.mpr (hZ qE)) (Int.ofNat_le.mpr hl) b1) (x:=wv) (by(refine nF.symm▸?_;refine c2▸?_;rewrite[<- iL]);exact hw) (AH.here I ⟨v,pf,q⟩)
   |dict kv=>
    obtain⟨f,hf,hd,_⟩:=Ok I hr hm
    have h:Bn kv i=some v:=h
    rcases hd i with⟨z,_⟩|⟨v',w',z1,z2,z3⟩
    ·exact AM z h
    ·cases same z1 h
     exact⟨⟨"dict",_,hf.typeIs,F.slot_dict_getitem.lookup⟩,wpAny_getItem_intMap hf z2 (AH.now I ⟨v,z3,q⟩)⟩
   |inst c fs=>exact Ao h
 |tup l=>
  obtain⟨p,o,vs,k,rfl,hk,hc,hd,hm,hr⟩:=ha.nX
  obtain⟨k,qP,hx⟩:=Option.bind_eq_some_iff.mp (show(CV _ i).bind _=some v from h)
  obtain⟨wv,hw,pf⟩:=hr.at hx
  have b1:=(Cr qP).1;have b2:=(Cr qP).2.1;have b3:=(Cr qP).2.2
  have it:=GH I hk hc hd
  have nF:l.length=vs.size:=by have:=hr.1;exact this
  exact⟨⟨"tuple",_,it.typeIs,slot_tuple_getitem.lookup⟩,getItem_tuple it (by exact qq1 (Int.ofNat_le.mpr (hZ qE)) (Int.ofNat_le.mpr hm) b1) (by exact qq0 (Int.ofNat_le.mpr (hZ qE)) (Int.ofNat_le.mpr hm) b2) (by rw[<- nF];exact(LE qP).1) (by refine iL▸?_;exact hw) (AH.here I ⟨v,pf,q⟩)⟩
 |str l=>
  obtain⟨⟨t,rfl⟩,hl⟩:=ha.mt
  obtain⟨k,qP,hx⟩:=Option.bind_eq_some_iff.mp (show(CV _ i).bind _=some v from h)
  obtain⟨c,hc,rfl⟩:=Option.map_eq_some_iff.mp hx
  have b1:=(Cr qP).1;have b2:=(Cr qP).2.1;have b3:=(Cr qP).2.2
  have q8:=hl.1
  refine⟨⟨"str",_,typeIs_str _ _ _,F.slot_str_getitem.lookup⟩,getItem_str ?_ ?_ (DB I ?_ q)⟩
  ·rw[lY,decide_eq_false_iff_not];lia
  ·(rewrite[BB];refine((LE qP).1).symm▸?_)
   simp only[sx,List.getElem?_toArray];exact hc
  ·exact⟨by simp[lim],fun z hz=>by
    refine(List.mem_singleton.mp hz).symm▸?_;exact hl.2 _ (jv hc)⟩
 |_=>exact Ao h
theorem Fu(ha:Aw base lg a x)(h:Mj n d a=some k):∃p:Option (Int×Tok),x=partValue p/\IsPart x (p.map (·.1))/\
  (match p with|none=>k=d|some (i,_)=>k=if 0<=i then min i.toNat n else(i+n).toNat):=by
 induction a using V.casesOn with
 |none=>obtain rfl:=Option.some.inj h;refine ha.nG.symm▸?_;exact⟨none,rfl,.none,rfl⟩
 |int i=>
  obtain rfl:=Option.some.inj h;obtain⟨t,rfl⟩:=ha.mn
  exact⟨some (i,t),rfl,.int _ _,rfl⟩
 |_=>exact Ao h
theorem PA{α:Type}(l:List α)(a b:Nat):(l.drop a).take (b - a)=cut l a b:=by
 unfold cut;rw[List.drop_take]
theorem Ix(i:Int)(n:Nat):max 0 (min (if i<0 then i+n else i) n)=((if 0<=i then min i.toNat n else(i+n).toNat:Nat):Int):=by
 by_cases h:0<=i
 ·rw[iO (Int.not_lt.mpr h)]
  obtain⟨k,rfl⟩:=gJ h
  show max 0 (min (k:Int) n)=((min k n:Nat):Int)
  refine(show((min k n:Nat):Int)=min (k:Int) n by lia).symm▸?_;exact Int.max_eq_right (by lia)
 ·(rewrite[iP (Int.not_le.mp h)];refine(iO h).symm▸?_;rewrite[Int.min_eq_left (by exact mO (m4 _ _) (.add mq mW) mW (mw 0 1) (.num 0) rfl (Int.not_le.mp h))];rewrite[Int.toNat_eq_max];rewrite[Int.max_comm];rfl)
theorem K8{pa pb:Option (Int×Tok)}(ha:match pa with|none=>ka=0|some (i,_)=>ka=if 0<=i then min i.toNat n else(i+n).toNat)
  (hb:match pb with|none=>kb=n|some (i,_)=>kb=if 0<=i then min i.toNat n else(i+n).toNat) :
  sliceBounds (pa.map (·.1)) (pb.map (·.1)) none n=((ka:Int),(kb:Int),1):=by
 induction pa using Option.casesOn with
 |none=>
  induction pb using Option.casesOn with
  |none=>subst ha;subst hb;rfl
  |some p=>subst ha;subst hb;exact congrArg (fun z=>((0:Int),z,(1:Int))) (Ix p.1 n)
 |some p=>
  induction pb using Option.casesOn with
  |none=>subst ha;subst hb;exact congrArg (fun z=>(z,(kb:Int),(1:Int))) (Ix p.1 kb)
  |some q=>subst ha;subst hb;exact(congrArg (fun z=>(z,_,(1:Int))) (Ix p.1 n)).trans (congrArg (fun z=>(_,z,(1:Int))) (Ix q.1 n))
theorem To{pa pb:Option (Int×Tok)}(ha:match pa with|none=>ka=0|some (i,_)=>ka=if 0<=i then min i.toNat n else(i+n).toNat)
  (hb:match pb with|none=>kb=n|some (i,_)=>kb=if 0<=i then min i.toNat n else(i+n).toNat) :
  Builtin.Str.strSliceIndices (pa.map (·.1)) (pb.map (·.1)) 1 n=(List.range (kb - ka)).map (ka+·):=by
 rw[<- sliceRange_one]
 have h:=K8 ha hb
 have h1:=congrArg (·.1) h
 have h2:=congrArg (·.2.1) h
 exact congr (congrArg (fun x y=>sliceRange x y 1) h1) h2
end
section
variable{prog:Program}{w:World}{A:Around}{E:Value->Shared->Prop}
variable{base:Heap}{K:Frag}{e:Env}{m:Str->Option Value}{fr:List oq}{env:An}{lg:Lg}{μ:MH}{s:Shared}{h:Heap}
theorem Ar.drop{l:List V}{vs:List Value}(r:Ar base lg l vs)(n:Nat):Ar base lg (l.drop n) (vs.drop n):=
 ⟨by simp[r.1],fun i v w a b=>r.2 (n+i) v w (by simpa using a) (by simpa using b)⟩
theorem Ar.take{l:List V}{vs:List Value}(r:Ar base lg l vs)(n:Nat):Ar base lg (l.take n) (vs.take n):=
 ⟨by simp[r.1],fun i v w a b=>r.2 i v w (by replace a:=List.getElem?_take▸a;split at a;exact a;exact Ao a) (by replace b:=List.getElem?_take▸b;split at b;exact b;exact Ao b)⟩
theorem Ar.cut(r:Ar base lg l vs)(a b:Nat):Ar base lg (cut l a b) (cut vs a b):=(r.take b).drop a
theorem Ua{α:Type}(l:List α)(a b:Nat):(cut l a b).length<=l.length:=by unfold cut;simp;lia
theorem JS{l:List V}{vs:Array Value}{a b:Nat}{lo hi:V}{z y:Value}{p:Addr}{Q:Ae}(I:Inv base K e m fr env lg μ s.heap)(sy:s.heap.IsList p vs)(hr:Ar base lg l vs.toList)(hl:l.length<=lim)
  (qc:Aw base lg lo z) (qo:Aw base lg hi y) (h1:Mj l.length 0 lo=some a) (h2:Mj l.length l.length hi=some b) (q:Q (.l8 μ.length) (μ++[.list (cut l a b)])) :
  LV prog w A E (.ref p) (.ref s.heap.objs.size) (AH base K e m fr env lg s (PV base Q)) {s with heap:=s.heap.push {cls:=.type "slice",data:=.fields #[z,y,.none]}}:=by
 obtain⟨pa,_,p2,p3⟩:=Fu qc h1
 obtain⟨pb,_,q2,q3⟩:=Fu qo h2
 have nF:l.length=vs.size:=by have:=hr.1;simpa using this
 refine⟨⟨"list",_,(sy.push _).typeIs,slot_list_getitem.lookup⟩,wpAny_getItem_list_slice (sy.push _) (Heap.IsSliceOf.new ..) p2 q2 .none (by simp) ?_ (by rw[<- nF];exact gI hl Cn)⟩
 have e:slicePick vs (pa.map (·.1)) (pb.map (·.1)) none=(cut vs.toList a b).toArray:=by
  unfold slicePick
  rw[K8 (n:=vs.size) (ka:=a) (kb:=b) (by cases pa<;>simpa [nF] using p3) (by cases pb<;>simpa [nF] using q3)]
  simp only[sliceRange_one,pick_run,PA]
 rw[e]
 obtain⟨ma,I',x,v⟩:=JO (I.push {cls:=.type "slice",data:=.fields #[z,y,.none]}) (hr.cut a b) (gI (Ua ..) hl) 0
 exact AH.to I' x ⟨_,v,q⟩
theorem V6{o lo hi:V}{x z y:Value}{Q:Ae}(I:Inv base K e m fr env lg μ s.heap)(ho:Aw base lg o x)(qc:Aw base lg lo z)(qo:Aw base lg hi y)(h:V5 o lo hi Q μ) :
  LV prog w A E x (.ref s.heap.objs.size) (AH base K e m fr env lg s (PV base Q)) {s with heap:=s.heap.push {cls:=.type "slice",data:=.fields #[z,y,.none]}}:=by
 induction o using V.casesOn with
 |str l=>
  obtain⟨a,h1,h⟩:=Aq h
  obtain⟨b,h2,q⟩:=Aq h
  obtain⟨⟨t,rfl⟩,hl⟩:=ho.mt
  obtain⟨pa,rfl,p2,p3⟩:=Fu qc h1
  obtain⟨pb,rfl,q2,q3⟩:=Fu qo h2
  refine⟨⟨"str",_,typeIs_str _ _ _,F.slot_str_getitem.lookup⟩,wpAny_getItem_str_slice (l:=pa) (u:=pb) (st:=none) ⟨_,ia _ rfl,rfl,rfl⟩ rfl ?_⟩
  have e1:slicePicked (sx l) pa pb none=(List.range (b - a)).map (a+·):=by
   exact To (n:=(sx l).length) (by induction pa using Option.casesOn<;>simpa [BB] using p3) (by induction pb using Option.casesOn<;>simpa [BB] using q3)
  have hb:b<=l.length\/b<=a:=by
   rcases pb with _|⟨j,u⟩
   ·exact .inl (hZ q3)
   ·dsimp only at q3;split at q3<;>omega
  have e2:(⟨((slicePicked (sx l) pa pb none).filterMap ((sx l).cps[·]?)).toArray⟩:Str)=sx (cut l a b):=by
   (refine e1.symm▸?_;rewrite[pick_run];rewrite[PA]);rfl
  have ok:qe (cut l a b):=⟨gI (Ua ..) hl.1,fun c hc=>hl.2 c (List.mem_of_mem_take (List.mem_of_mem_drop hc))⟩
  have I':=I.push {cls:=.type "slice",data:=.fields #[partValue pa,partValue pb,.none]}
  unfold sliceMade
  refine e2.symm▸?_
  split
  ·rename_i hc
   have e3:cut l a b=l:=by
    replace hc:=e1▸hc
    simp[BB]at hc
    (rewrite[<- PA];refine hc.symm▸?_)
    by_cases hz:l.length=0
    ·refine(List.length_eq_zero_iff.mp hz).symm▸?_;rfl
    ·have:a=0:=by lia
     subst this
     simp
   exact AH.now I' ⟨_,.str l t hl,by exact e3▸q⟩
  ·exact⟨by rw[BB];exact gI ok.1 Cn,AH.now I' ⟨_,.str _ _ ok,q⟩⟩
 |mT l=>
  obtain⟨a,h1,h⟩:=Aq h
  obtain⟨b,h2,q⟩:=Aq h
  obtain⟨p,o,vs,n,rfl,hk,hc,hd,hm,hr⟩:=ho.pW
  exact JS I ⟨o,I.old _ _ hk,hc,n,hd⟩ hr hm qc qo h1 h2 q
 |l8 n=>
  obtain⟨l,hm,h⟩:=Aq h
  obtain⟨a,h1,h⟩:=Aq h
  obtain⟨b,h2,q⟩:=Aq h
  obtain⟨p,d,rfl,hr⟩:=ho.mI
  obtain⟨vs,k,hg,rfl,hl,hv,nF,nT⟩:=Co I hr (Ba hm)
  exact JS I (A9 hg) hv hl qc qo h1 h2 q
 |_=>exact h.elim
def PU(Q:MH->Prop)(_:Lg)(μ:MH)(_:Unit):Prop:=Q μ
theorem LM{Q:MH->Prop}(I:Inv base K e m fr env lg μ s.heap)(ho:Aw base lg o x)(hi:Aw base lg i y)(hv:Aw base lg v z)(h:Nd o i v Q μ) :
  wpAny (model prog w) A (setItem x y z) (AH base K e m fr env lg s (PU Q)) E s:=by
 induction o using V.casesOn with
 |l8 n=>induction i using V.casesOn with
  |int k=>
   obtain⟨xs,hm,h⟩:=Aq h
   have hm:=Ba hm
   have h0:=(Ai h).1;have h:=(Ai h).2
   have h1:=(Ai h).1;have q:=(Ai h).2
   obtain⟨p,d,rfl,hr⟩:=ho.mI
   obtain⟨t,rfl⟩:=hi.mn
   obtain⟨vs,n',hg,rfl,hl,tU,nF,nT⟩:=Co I hr hm
   have qE:lim=1000000:=rfl
   refine ki_setAt hg h0 (by exact sH (nI _ _ _) (mw 0 1) (.num 9223372036854775808) (mw 0 1) mW mW oQ oQ (.num 1000000) rfl h1 (Int.ofNat_le.mpr hl) (Int.ofNat_le.mpr (hZ qE))) (by exact qq2 h1 (Int.ofNat_le.mpr (hZ nF.symm))) ?_
   have up:=PySem.IsL.update (n:=n') hg (·.setIfInBounds k.toNat z)
   have x1:Ext lg (lg.put p (listOf (vs.setIfInBounds k.toNat z) (if(vs.setIfInBounds k.toNat z).size==vs.size then n' else n'+1))):=Ext.nY _ nT (.inl ⟨rfl,_,_,rfl⟩)
   have I':=I.turn (o:=.list (xs.set k.toNat v)) hr nT (.inl ⟨rfl,_,_,rfl⟩) (i5 s.heap p _) up ⟨rfl,by simpa using hl,_,_,Lg.mm ..,by
    have:=(tU.mono x1).set k.toNat (hv.mono x1);simpa using this⟩
   exact AH.to I' x1 q
  |_=>exact h.elim
 |_=>exact h.elim
structure uf(K:Frag):Prop where
 set:∀c C,Ce K c C->c<3->findIn K (.ref C) "__setattr__"=some (some (.builtin "object.__setattr__"))/\plainOver K C=true/\hasDictIn K C=true
 sk:∀c C,Ce K c C->c<3->∀a∈EJ,takerIn K C (nm a)=some none/\plainGet K C (nm a)=true/\findIn K (.ref C) (nm a)=some none
noncomputable def ndB(m:Nat)(l:List Nat):Bool:=match l with
 |[]=>true
 |a :: l=>!m.testBit a&&ndB (m||| 2 ^ a) l
theorem bD{l:List Nat}{m:Nat}(h:ndB m l=true):l.Nodup/\∀x∈l,m.testBit x=false:=by
 induction l generalizing m with
 |nil=>exact⟨.nil,nofun⟩
 |cons a l ih=>
  have r:=ih (Aa h)
  have q:∀x∈l,m.testBit x=false/\(2 ^ a).testBit x=false:=fun x hx=>by
   have:=r.2 x hx
   rw[jF]at this
   exact Bool.or_eq_false_iff.mp this
  refine⟨List.nodup_cons.mpr ⟨fun k=>?_,r.1⟩,List.forall_mem_cons.mpr ⟨(jq _).mp (Al h),fun x hx=>(q x hx).1⟩⟩
  exact absurd (Nat.testBit_two_pow_self.symm.trans (q a k).2) Bool.noConfusion
noncomputable def ndF(l:List Nat):Nat:=l.foldl (fun a c=>a*37+c) 0 % 6607
theorem Ve:Bg.Nodup:=
 List.Pairwise.of_map ndF (fun _ _ h e=>h (congrArg ndF e)) (bD (m:=0) (by decide +kernel)).1
theorem Hz(ha:a<Bg.length)(hb:b<Bg.length)(h:nm a=nm b):a=b:=by
 have:=Wi h
 rw[g7,g7,g8 ha,g8 hb]at this
 exact(List.getElem_inj Ve).mp this
theorem Vd(ha:a<Bg.length)(hb:b<Bg.length):(nm a==nm b)=decide (a=b):=by
 rw[jT,iC,hV]
 exact⟨Hz ha hb,fun q=>q▸rfl⟩
theorem NB:∀a∈EJ,a<Bg.length:=by decide +kernel
theorem Hu(n:Str)(t:Tok)(k:Str):(Value.str n t).isStr k=(n==k):=rfl
theorem DG.get(r:DG base lg fs es)(ha:a<Bg.length)(q:Xw fs a=some v):∃z,getL (nm a) es=some (some z)/\Aw base lg v z:=by
 induction r with
 |nil=>exact Ao q
 |cons b u fs hs t z es hb hv _ ih=>
  unfold Xw at q
  split at q
  ·rename_i e';obtain rfl:=Option.some.inj q;subst e'
   refine⟨z,?_,hv⟩
   unfold getL
   rw[List.find?_cons_of_pos (by rw[Hu,iy])]
  ·rename_i ne
   obtain⟨z',h1,h2⟩:=ih q
   refine⟨z',?_,h2⟩
   unfold getL at h1 ⊢
   rw[List.find?_cons_of_neg (by rw[Hu,Vd hb ha,hV];exact ne)]
   split at h1
   ·exact h1
   ·split at h1<;>exact nomatch h1
theorem DG.noRef{es:List DictEntry}(r:DG base lg fs es):es.any (·.refKey)=false:=by
 induction r with
 |nil=>rfl
 |cons b u fs hs t z es hb hv _ ih=>rw[ly,ih];rfl
theorem DG.tN(r:DG base lg fs es)(a:Nat):(getL (nm a) es).isSome=true:=by
 have h0:es.any (·.refKey)=false:=by
  induction r with
  |nil=>rfl
  |cons b u fs hs t z es hb hv _ ih=>rw[ly,ih];rfl
 unfold getL
 split
 ·rfl
 ·rw[iO (by rw[h0];decide)];rfl
theorem DG.put(r:DG base lg fs es)(ha:a<Bg.length)(hv:Aw base lg v z)(sw:Int)(tk:Tok) :
  DG base lg (M9 fs a v) (putL (nm a) sw (.str (nm a) tk) z es):=by
 induction r with
 |nil=>exact .cons _ _ _ _ _ _ _ ha hv .nil
 |cons b u fs hs t y es hb hu r ih=>
  unfold M9 putL
  rw[Hu,Vd hb ha]
  by_cases q:b=a
  ·rw[iP q,iP (gG q)];exact .cons _ _ _ _ _ _ _ hb hv r
  ·rw[iO q,iO (by rw[hV];exact q)];exact .cons _ _ _ _ _ _ _ hb hu ih
theorem DG.length{fs:List (Nat×V)}{es:List DictEntry}(r:DG base lg fs es):es.length=fs.length:=by
 induction r with
 |nil=>rfl
 |cons _ _ _ _ _ _ _ _ _ _ ih=>simp[ih]
theorem Oz(fs:List (Nat×V))(a:Nat)(v:V):(M9 fs a v).length<=fs.length+1:=by
 induction fs with
 |nil=>simp[M9]
 |cons p fs ih=>obtain⟨k,w⟩:=p;unfold M9;split<;>simp;exact mU (m4 _ _) mu (mD 1 1) mu (mD 1 1) rfl ih
theorem Aw.handed(r:Aw base lg v x):handedIn x=true:=by induction r<;>rfl
inductive dJ(base:Heap)(K:Frag)(lg:Lg)(h:Heap)(a d:Addr)(c:Nat)(fs:List (Nat×V)):Prop
 |mk (C:Addr) (es:List DictEntry) (k:Nat) (c3:c<3) (cl:Ce K c C) (i:InstAt h a (instObj C d) C (some (dictOf es k))) (l:fs.length<=900) (ld:lg.led d=some (dictOf es k)) (la:lg.led a=some (instObj C d)) (f:DG base lg fs es)
theorem UG{n:Nat}{a d:Addr}{c:Nat}{fs:List (Nat×V)}(I:Inv base K e m fr env lg μ h)(hr:lg.mE[n]?=some (a,d))(hm:μ[n]?=some (.inst c fs)) :
  dJ base K lg h a d c fs:=by
 obtain⟨a',d',h1,h2⟩:=I.heap.each n _ hm
 cases same hr h1
 obtain⟨hc,C,c1,c2,c3,es,k,c4,c5⟩:=h2
 exact⟨C,es,k,hc,c1,⟨(I.led _ _ c2).1,rfl,rfl,(I.led _ _ c4).1⟩,c3,c4,c2,c5⟩
theorem QR{Q:Ae}(C:uf K)(X:K.In base)(I:Inv base K e m fr env lg μ s.heap)(hu:Aw base lg u x)(ha:a∈EJ)(h:QQ μ u a=some v)(q:Q v μ) :
  wpAny (model prog w) A (getAttr x (nm a) expr) (AH base K e m fr env lg s (PV base Q)) E s:=by
 induction u using V.casesOn with
 |l8 n=>
   obtain⟨⟨c,fs⟩,hm,h⟩:=Option.bind_eq_some_iff.mp (show(UF μ n).bind _=some v from h)
   have hm:μ[n]?=some (.inst c fs):=Ln hm
   obtain⟨p,d,rfl,hr⟩:=hu.mI
   obtain⟨Ca,es,k,hc,hC,hI,_,_,_,hF⟩:=UG I hr hm
   obtain⟨z,hz,hv⟩:=hF.get (NB a ha) h
   have t1:=(C.sk c Ca hC hc a ha).1;have t2:=(C.sk c Ca hC hc a ha).2.1;have t3:=(C.sk c Ca hC hc a ha).2.2
   have s1:=(C.set c Ca hC hc).1;have s2:=(C.set c Ca hC hc).2.1;have s3:=(C.set c Ca hC hc).2.2
   exact get_value (X.keeps I.old) hI (plainGet_of t2).1 (findObj_own s3 t3 rfl (by rw[lookIn_dict];exact hz)) hv.handed (AH.now I ⟨v,hv,q⟩)
 |_=>exact Ao h
theorem Ki{Q:MH->Prop}(C:uf K)(X:K.In base)(I:Inv base K e m fr env lg μ s.heap)(hu:Aw base lg u x)(hv:Aw base lg v z)(ha:a∈EJ)(h:Kh u a v Q μ) :
  wpAny (model prog w) A (setAttr x (nm a) z) (AH base K e m fr env lg s (PU Q)) E s:=by
 induction u using V.casesOn with
 |l8 n=>
  obtain⟨⟨c,fs⟩,hm,h⟩:=Aq h
  have hm:μ[n]?=some (.inst c fs):=Ln hm
  have hl:=(Ai h).1;have q:=(Ai h).2
  obtain⟨p,d,rfl,hr⟩:=hu.mI
  obtain⟨Ca,es,k,hc,hC,hI,_,hd,hp,hF⟩:=UG I hr hm
  have t1:=(C.sk c Ca hC hc a ha).1;have t2:=(C.sk c Ca hC hc a ha).2.1;have t3:=(C.sk c Ca hC hc a ha).2.2
  have s1:=(C.set c Ca hC hc).1;have s2:=(C.set c Ca hC hc).2.1;have s3:=(C.set c Ca hC hc).2.2
  have Xh:=X.keeps I.old
  refine set_plain Xh hI s1 (osa_open (s:={s with toks:=s.toks+1}) Xh hI s2 t1 fun b=>?_)
  obtain⟨cd,hcd,sV⟩:=any_some s3
  have uK:s.heap.get? d=some (dictOf es k):=(I.led _ _ hd).1
  have hph:s.heap.get? p=some (instObj Ca d):=(I.led _ _ hp).1
  refine gE (gV (gE (gE (kE hph (gE ((lV Xh hcd).at ?_))))))
  refine sV.symm▸?_
  refine gV (a:=some d) (gE (gV (gE ?_)))
  refine gE (gE (kZ (gV (gE (wpAny_mkText (gE (kE uK ?_)))))))
  show wpAny _ _ (if aRefKeyMayBeTheName (nm a) es.toArray=true then _ else _) _ _ _
  have hno:es.any (·.refKey)=false:=hF.noRef
  rw[aRefKeyMayBeTheName_at,show(es.toArray.any (·.refKey))=false by refine Array.any_toList▸?_;exact hno,jZ]
  refine wpAny_updatePart uK ?_
  have e1:=putName_dict (nm a) (PyData.keyHash w.params (nm a)) (.str (nm a) (s.toks+1)) z es k
  have up:=iA (Obj.putName (nm a) (PyData.keyHash w.params (nm a)) (.str (nm a) (s.toks+1)) z) uK (by refine e1.symm▸?_;rfl)
  replace up:=e1▸up
  have F1:=hF.put (NB a ha) hv (PyData.keyHash w.params (nm a)) (s.toks+1)
  have l1:=F1.length
  have l2:=Oz fs a v
  refine gE (wpAny_lookBehind up (pastItsLine_dict (by(rewrite[List.size_toArray];refine sizeLine_eq.symm▸?_);exact sK (nI _ _ _) mK (.add (.num 16777216) (.num 1)) mu (.num 900) mK nM nM (mD 0 1) rfl l (hZ l1) l2)) (gV ?_))
  have x1:Ext lg (lg.put d (dictOf (putL (nm a) (PyData.keyHash w.params (nm a)) (.str (nm a) (s.toks+1)) z es) (putN (nm a) es k))):=Ext.nY _ hd (.inr ⟨_,_,rfl⟩)
  have ne:p≠d:=by
   rintro rfl
   cases same hp hd
  have I':=I.turn (o:=.inst c (M9 fs a v)) hr hd (.inr ⟨_,_,rfl⟩) (i5 s.heap d _) up ⟨hc,Ca,hC,by refine(Lg.mj _ _ ne).symm▸?_;exact hp,by exact pt (m4 _ _) mK (.num 900) (mD 0 1) (.num 900) mK (mD 0 1) rfl hl l2,_,_,Lg.mm ..,F1.mono x1⟩
  exact AH.to I' x1 q
 |_=>exact h.elim
end
def oD(A:Around)(h:Heap):Prop:=A.handled=none\/∃a o arr,A.handled=some (.ref a)/\h.get? a=some o/\o.data=.fields arr/\arr[2]?=some .none
noncomputable def oM(A:Around):List Addr:=match A.handled with|some (.ref a)=>[a]|_=>[]
theorem oD.keeps{h h':Heap}(x:oD A h)(k:∀b∈oM A,∀o,h.get? b=some o->h'.get? b=some o):oD A h':=
 x.imp id fun nV=>by obtain⟨a,o,arr,e,g,r⟩:=nV;exact⟨a,o,arr,e,k a (by simp[oM,e]) o g,r⟩
theorem oD.mono{h h':Heap}(x:oD A h)(k:∀b o,h.get? b=some o->h'.get? b=some o):oD A h':=x.keeps fun b _ o e=>k b o e
theorem oD.lt{h:Heap}(x:oD A h):∀b∈oM A,b<h.objs.size:=by
 rcases x with e|⟨a,o,arr,e,g,_⟩<;>intro b hb
 ·simp[oM,e]at hb
 ·simp[oM,e]at hb;subst hb;exact hO g
theorem oD.in1{A:Around}(x:oD A h):oD A.in1 h:=x
theorem KS:entryFor table "proto.unchain"=some Builtin.«proto.unchain»:=entryFor_of_tree (by kernel_rfl)
section
variable{prog:Program}{w:World}{A:Around}{s:Shared}
theorem LF{α:Type}{o:Obj}{arr:Array Value}{Q:α->Shared->Prop}{E:Value->Shared->Prop}(H:oD A s.heap)(ho:s.heap.get? a=some o)(hd:o.data=.fields arr)(hz:2<arr.size)
  (ne:a∉oM A) (h:∀h',Heap.SameBut a s.heap h'->(∃o',h'.get? a=some o'/\o'.cls=o.cls/\∃qK,o'.data=.fields qK/\qK.size=arr.size/\qK[1]?=arr[1]?/\(A.handled=none->qK=arr))->E (.ref a) {s with heap:=h'}) :
  wpAny (model prog w) A (raiseNew (.ref a):Sem α) Q E s:=by
 refine gE (wpAny_handled ?_)
 rcases H with e|⟨b,ob,brr,e,g,d,z⟩
 ·rw[e]
  exact gE (gV (lS (h s.heap (Heap.SameBut.refl ..) ⟨o,ho,rfl,arr,hd,rfl,rfl,fun _=>rfl⟩)))
 ·refine e.symm▸?_
  have nab:b≠a:=by rintro rfl;exact ne (by simp[oM,e])
  show wpAny _ _ (if(Value.ref b != Value.ref a)=true then(holding [Value.ref a] (runValue (Code.builtin "proto.unchain" ⟨[Value.ref a,.ref b,.ref b,.bool false],[]⟩)) >>= fun _=>updateField a 2 (.ref b) >>= fun _=>throw (Value.ref a))else _) _ _ s
  rw[iP (by rw[iu];intro x;injection x with x;exact nab x)]
  refine gE (ie (wpAny_runValue (codeAny_builtin KS ?_)))
  refine gE (iD g d z ?_)
  show wpAny _ _ (if(Value.none==Value.none)=true then ret .none else _) _ _ s
  refine gV ?_
  refine gE (jE (i:=2) (x:=.ref b) ho hd hz (lS (h _ (i5 ..) ⟨_,iA _ ho (kz (jC hd _)),Obj.cls_mapFields ..,_,jC hd _,by simp,by simp,fun z=>by exact AM z e⟩)))
theorem EG{α:Type}{Q:α->Shared->Prop}{E:Value->Shared->Prop}(H:oD A s.heap)
  (h:∀h' x,(∀b o,s.heap.get? b=some o->h'.get? b=some o)->(∃o,h'.get? x=some o/\o.cls=.type "StopIteration")->E (.ref x) {s with heap:=h'}) :
  wpAny (model prog w) A (newExc (.type "StopIteration") [] >>= fun e=>(raiseNew e:Sem α)) Q E s:=by
 refine gE ?_
 simp only[newExc,newTuple]
 refine gE (kS ?_ (by size_fits))
 refine gE (m:=firstArgMember _ _) (kB (a:=Value.none) (by first|rfl|(simp only[firstArgMember];rfl)) ?_)
 refine kS ?_ (by size_fits)
 refine LF (H.mono fun b o e=>gN _ (gN _ e)) (ia _ rfl) rfl (by rw[Array.size_append];exact hM (by decide:2<6) (hY ..)) (fun hm=>?_) fun h' hs hx=>?_
 ·have:=H.lt _ hm
  simp only[jc]at this
  exact absurd this (Nat.not_lt.mpr (i9 _))
 ·obtain⟨o',g,c,_⟩:=hx
  refine h h' _ (fun b o e=>?_) ⟨o',g,c⟩
  refine(hs.2 b (fun q=>?_)).trans (gN _ (gN _ e))
  have:=hO e
  subst q
  simp only[jc]at this
  exact absurd this (Nat.not_lt.mpr (i9 _))
section
variable{E:Value->Shared->Prop}{it:Addr}{Q:Option Value->Shared->Prop}
theorem Mp(hs:Heap.ExtBut it s.heap h₁)(hQ:∀h',Heap.ExtBut it s.heap h'->Q none {s with heap:=h'}){h':Heap}{x:Addr}(hk:∀b o,h₁.get? b=some o->h'.get? b=some o)
  (hx:∃o,h'.get? x=some o/\o.cls=.type "StopIteration") :
  wpAny (model prog w) A (do if <- isInstance (.ref x) (.type "StopIteration")then pure none else throw (.ref x):Sem (Option Value)) Q E {s with heap:=h'}:=by
 obtain⟨o,g,c⟩:=hx
 refine gE (wpAny_isInstance (T:="StopIteration") (b:=true) ⟨o,g,c⟩ isSubtype_stop ?_)
 exact gV (hQ _ fun b o q e=>hk b o (hs b o q e))
theorem KW(H:oD A s.heap)(ni:it∉oM A)
  (hit:s.heap.IsListIter it l i) (hl:s.heap.IsList l items) (hx:items[i]?=none)
  (hQ:∀h',Heap.ExtBut it s.heap h'->Q none {s with heap:=h'}):wpAny (model prog w) A (pyNext (.ref it)) Q E s:=by
 obtain⟨o,ho,hc,hd⟩:=id hit
 obtain⟨ol,uV,_,nl,uL⟩:=hl
 refine gE (kJ (wpAny_callSpecial?_slot (name:=Str.ofString "__next__") hit.typeIs slot_listiter_next
  (j9 slot_listiter_next hit.typeIs entry_listiter_next ?_ (args_listiter_next _))))
 show wpAny _ _ (field (.ref it) 0 >>= _) _ _ s
 refine gE (iD ho hd (x:=.ref l) rfl ?_)
 refine gE (iD ho hd (x:=.int i 0) rfl ?_)
 refine gE (wpAny_seqItems uV uL ?_)
 simp only[kX,hx]
 refine gE (jX (gE (jE ho hd (by simp) ?_)))
 have hs:=i5 s.heap it (Obj.mapFields (·.setIfInBounds 0 .none))
 refine EG (A:=A.in1) (H.in1.keeps fun b hb o e=>(hs.2 b (fun q=>ni (q▸hb))).trans e) fun h' x hk hx=>?_
 exact Mp hs.extBut hQ hk hx
theorem Dw(H:oD A s.heap)(ni:it∉oM A)
  (hit:s.heap.IsTupleIter it l i) (hl:s.heap.IsTuple l items) (hx:items[i]?=none)
  (hQ:∀h',Heap.ExtBut it s.heap h'->Q none {s with heap:=h'}):wpAny (model prog w) A (pyNext (.ref it)) Q E s:=by
 obtain⟨o,ho,hc,hd⟩:=id hit
 obtain⟨ol,uV,_,nl,uL⟩:=hl
 refine gE (kJ (wpAny_callSpecial?_slot (name:=Str.ofString "__next__") hit.typeIs lu
  (j9 lu hit.typeIs F.entry_tuple_iterator_next ?_ (F.args_tuple_iterator_next_1 _))))
 show wpAny _ _ (field (.ref it) 0 >>= _) _ _ s
 refine gE (iD ho hd (x:=.ref l) rfl ?_)
 refine gE (iD ho hd (x:=.int i 0) rfl ?_)
 refine gE (wpAny_seqItems uV uL ?_)
 simp only[kX,hx]
 refine gE (jX (gE (jE ho hd (by simp) ?_)))
 have hs:=i5 s.heap it (Obj.mapFields (·.setIfInBounds 0 .none))
 refine EG (A:=A.in1) (H.in1.keeps fun b hb o e=>(hs.2 b (fun q=>ni (q▸hb))).trans e) fun h' x hk hx=>?_
 exact Mp hs.extBut hQ hk hx
theorem J1{x left step:Int}(H:oD A s.heap)(hit:IsRangeIter s.heap it x left step)(sZ:left<=0)
  (hQ:∀h',Heap.ExtBut it s.heap h'->Q none {s with heap:=h'}):wpAny (model prog w) A (pyNext (.ref it)) Q E s:=by
 have hT:s.TypeIs (.ref it) "range_iterator":=⟨_,hit,rfl⟩
 refine gE (kJ (wpAny_callSpecial?_slot (name:=Str.ofString "__next__") hT lv
  (j9 lv hT F.entry_range_iterator_next ?_ (F.args_range_iterator_next_1 _))))
 show wpAny _ _ (field (.ref it) 0 >>= _) _ _ s
 refine gE (iD hit rfl (x:=rawInt x) rfl ?_)
 refine gE (iD hit rfl (x:=rawInt left) rfl ?_)
 refine gE (iD hit rfl (x:=rawInt step) rfl ?_)
 show wpAny _ _ (if left<=0 then _ else _) _ _ s
 refine(iP sZ).symm▸?_
 refine gE (jX ?_)
 refine gE ?_
 refine EG (A:=A.in1) H.in1 fun h' x hk hx=>?_
 exact Mp (fun _ _ _ e=>e) hQ hk hx
theorem J0{x:Str}(H:oD A s.heap)(ni:it∉oM A)
  (hit:s.heap.IsStrIter it "str_ascii_iterator" x t i) (hx:x.cps[i]?=none)
  (hQ:∀h',Heap.ExtBut it s.heap h'->Q none {s with heap:=h'}):wpAny (model prog w) A (pyNext (.ref it)) Q E s:=by
 obtain⟨o,ho,hc,hd⟩:=id hit
 refine gE (kJ (wpAny_callSpecial?_slot (name:=Str.ofString "__next__") hit.typeIs lc
  (j9 lc hit.typeIs F.entry_str_ascii_iterator_next ?_ (F.args_str_ascii_iterator_next_1 _))))
 show wpAny _ _ (field (.ref it) 0 >>= _) _ _ s
 refine gE (iD ho hd (x:=.str x t) rfl ?_)
 show wpAny _ _ (field (.ref it) 1 >>= _) _ _ s
 refine gE (iD ho hd (x:=.int i 0) rfl ?_)
 simp only[kX,hx]
 refine gE (jX (gE (jE ho hd (by simp) (gE (wpAny_letGo ?_)))))
 have hs:=i5 s.heap it (Obj.mapFields (·.setIfInBounds 0 .none))
 refine EG (A:=A.in1) (H.in1.keeps fun b hb o e=>(hs.2 b (fun q=>ni (q▸hb))).trans e) fun h' x hk hx=>?_
 exact Mp hs.extBut hQ hk hx
end
end
theorem O0{prog:Program}{w:World}{A:Around}(I ax:Addr)(hne:ax≠I)(ni:I∉oM A)(items:Array Value) :
  Walks prog w A I (I :: ax :: oM A) [I] items.size (fun i v=>items[i]?=some v) (fun i h=>(h.IsTupleIter I ax i/\h.IsTuple ax items)/\oD A h) where
 sub:=fun b hb=>by simp at hb;simp[hb]
 frame:=fun _ _ _ st hk=>⟨⟨st.1.1.at fun o e=>hk I (by simp) o e,st.1.2.at fun o e=>hk ax (by simp) o e⟩,st.2.keeps fun b hb=>hk b (by simp[hb])⟩
 item:=fun i s Q E hi st hQ=>by
  refine lB st.1.1 st.1.2 (x:=items[i]) (by simp[hi]) fun h' pd pV=>?_
  exact hQ _ h' s.toks (by simp[hi]) ⟨⟨pd,st.1.2.extBut pV.extBut hne⟩,st.2.keeps fun b hb o e=>pV.extBut b o (fun q=>ni (q▸hb)) e⟩ fun b o hb e=>pV.extBut b o (fun h=>hb (by simp[h])) e
 done:=fun s Q E st hQ=>Dw st.2 ni st.1.1 st.1.2 (by simp) fun h' sW=>hQ h' s.toks fun b o hb e=>sW b o (fun h=>hb (by simp[h])) e
 self:=fun _ _ _ _ st hQ=>lM st.1.1 hQ
section
variable{prog:Program}{w:World}{A:Around}{E:Value->Shared->Prop}
variable{base:Heap}{K:Frag}{e:Env}{m:Str->Option Value}{fr:List oq}{env:An}{lg:Lg}{μ:MH}{s:Shared}{h:Heap}
theorem SJ{Q:Value->Shared->Prop}(ha:s.TypeIs a "list")(hb:s.TypeIs b "list")
  (hc:wpAny (model prog w) A (call (.builtin "list.__iadd__") [a,b]) Q E s):wpAny (model prog w) A (inplaceOp .Add a b) Q E s:=by
 refine ie ?_
 have hl:=F.slot_list_iadd.lookup
 have hfi:fillsInplaceSlot (.type "list") "add" (Operator.Add==.Add)=pure false:=by
  show(typeLookup (.type "list") (dunderI "add") >>= fun fi=>_)=_
  have hq:isSeqSlot (some (.builtin "list.__iadd__"))=true:=by decide +kernel
  show(pure (true&&!isSeqSlot (some (.builtin "list.__iadd__"))):Sem Bool)=pure false
  refine hq.symm▸?_;rfl
 have hsi:seqSlot? (.type "list") (dunderI "add")=pure (some (.builtin "list.__iadd__")):=PyProof.Rows.seqSlot_of hl (by decide +kernel)
 refine gE (wpAny_typeOf ha (gE (kB hfi ?_)))
 refine gE (PyProof.Rows.binaryOp1_none (nm:="add") ha hb noFill_list_add ?_)
 refine gE (kB hsi ?_)
 exact gE (jX hc)
theorem KV(f:Array Value->Array Value)(sA:Array Value)(n:Nat):∃k,Obj.mapSeq f (listOf sA n)=listOf (f sA) k:=by
 exact⟨_,rfl⟩
theorem FQ{xs:List V}{f:Array Value->Array Value}(I:Inv base K e m fr env lg μ s.heap)(hr:lg.mE[n]?=some (d,d))(hl:lg.led d=some (listOf sA k))
  (hlen:xs.length<=lim) (pf:Ar base lg xs (f sA).toList) :
  ∃ma,Inv base K e m fr env ma (μ.set n (.list xs)) (s.heap.update d (Obj.mapSeq f))/\Ext lg ma:=by
 obtain⟨k',e'⟩:=KV f sA k
 have g:=iA (Obj.mapSeq f) (I.led _ _ hl).1 (by refine e'.symm▸?_;rfl)
 rw[e']at g
 have x1:Ext lg (lg.put d (listOf (f sA) k')):=Ext.nY _ hl (.inl ⟨rfl,_,_,rfl⟩)
 exact⟨_,I.turn (o:=.list xs) hr hl (.inl ⟨rfl,_,_,rfl⟩) (i5 s.heap d _) g ⟨rfl,hlen,_,_,Lg.mm ..,pf.mono x1⟩,x1⟩
theorem UK{xs ys:List V}{Q:Ae}(I:Inv base K e m fr env lg μ s.heap)(ha:Aw base lg (.l8 l) x)(hb:Aw base lg (.l8 n) y)(ne:l≠n)(hm:μ[l]?=some (.list xs))(uR:μ[n]?=some (.list ys))(hlen:xs.length+ys.length<=lim)
  (q:Q (.l8 l) (μ.set l (.list (xs++ys)))) :
  wpAny (model prog w) A (inplaceOp .Add x y) (AH base K e m fr env lg s (PV base Q)) E s:=by
 obtain⟨p,d,rfl,hr⟩:=ha.mI
 obtain⟨p2,d2,rfl,uX⟩:=hb.mI
 obtain⟨vs,k,hg,rfl,hl,hv,nF,nT⟩:=Co I hr hm
 obtain⟨vt,k2,hg2,rfl,rJ,hv2,ta,hled2⟩:=Co I uX uR
 have qF:lim<=sizeLine:=Cn
 obtain⟨ma,I',x⟩:=FQ (f:=fun z=>z++vt) I hr nT (xs:=xs++ys) (by simpa using hlen) (by refine Array.toList_append.symm▸?_;exact hv.append hv2)
 refine SJ (A9 hg).typeIs (A9 hg2).typeIs ?_
 refine lj F.slot_list_iadd (A9 hg).typeIs F.entry_list_iadd (F.args_list_iadd_2 _ _)
  (AutoSeq1.list___iadd___list_list_0 p vs k p2 vt k2 ?_ (by exact sK (Cx4 _ _ _ _) nM rj mu mK nM mu mK rj rfl hl (hZ nF) qF) (by exact Nl4 (Cx6 _ _ _ _ _ _) (.add rj ue) (mD 5 1) (.add mu mK) nM rj mu ue mK nM vr rfl hlen (hZ nF) (hZ ta) qF)) ⟨hg,hg2,AH.to I' x ⟨_,.l8 l p p (x.mE _ _ hr),q⟩⟩
 have:Builtin.List.listTooLong (vs.size+vt.size)=false:=by
  simp[Builtin.List.listTooLong];exact Nl4 (Cx6 _ _ _ _ _ _) (.add rj ue) vr (.add mu mK) nM rj mu ue mK nM vr rfl hlen (hZ nF) (hZ ta) qF
 refine this.symm▸?_;simp
theorem WA{Q:Ae}(I:Inv base K e m fr env lg μ s.heap)(h:TF op (.int i) (.int j) Q μ) :
  wpAny (model prog w) A (inplaceOp op (.int i t) (.int j u)) (AH base K e m fr env lg s (PV base Q)) E s:=by
 induction op with
 |Add=>exact iadd_int (AJ I h)
 |Sub=>exact isub_int (AJ I h)
 |Mult=>exact imul_int (AJ I (Ai (Ai h).2).2) (ZV (Ai h).1)
 |FloorDiv=>exact AutoIntOps.ifloordiv_1 (by have:=(Ai h).1;simpa using this) (by refine(J2 (Ai (Ai h).2).1).symm▸?_;decide) (AJ I (Ai (Ai h).2).2)
 |RShift=>exact irshift_int (Ai h).1 (AJ I (Ai h).2)
 |BitOr=>exact ior_int (AJ I h)
 |BitXor=>exact ixor_int (AJ I h)
 |_=>exact h.elim
theorem O8{Q:Ae}(I:Inv base K e m fr env lg μ s.heap)(ha:Aw base lg a x)(hb:Aw base lg b y)(h:TF op a b Q μ) :
  wpAny (model prog w) A (inplaceOp op x y) (AH base K e m fr env lg s (PV base Q)) E s:=by
 induction a using V.casesOn with
 |int i=>induction b using V.casesOn with
  |int j=>obtain⟨t,rfl⟩:=ha.mn;obtain⟨u,rfl⟩:=hb.mn;exact WA I h
  |_=>exact h.elim
 |str i=>cases b with
  |str j=>induction op using Operator.casesOn with
   |Add=>
    obtain⟨⟨t,rfl⟩,l1⟩:=ha.mt;obtain⟨⟨u,rfl⟩,l2⟩:=hb.mt
    refine iadd_str (fun t' k=>?_) (by rw[BB];exact gI (Ai h).1 Cn)
    rw[LS]
    exact DB I (l1.append l2 (Ai h).1) (Ai h).2
   |_=>exact h.elim
  |_=>exact h.elim
 |l8 l=>cases b with
  |l8 n=>cases op with
   |Add=>
    obtain⟨ne,h⟩:=Ai h
    obtain⟨xs,hm,h⟩:=Aq h
    obtain⟨ys,uR,h⟩:=Aq h
    exact UK I ha hb ne (Ba hm) (Ba uR) (Ai h).1 (Ai h).2
   |_=>exact h.elim
  |_=>exact h.elim
 |_=>exact h.elim
theorem Gd{lo hi st:Int}{t1 t2 t3:Tok}{tk:Nat}{Q:Ae}(I:Inv base K e m fr env lg μ s.heap)(hr:tH lo hi st)(q:Q (.range lo hi st) μ) :
  AH base K e m fr env lg s (PV base Q) (.ref s.heap.objs.size) {s with heap:=s.heap.push {cls:=.type "range",data:=.fields #[.int lo t1,.int hi t2,.int st t3]},toks:=tk}:=by
 obtain⟨I',x⟩:=MF I (o:={cls:=.type "range",data:=.fields #[.int lo t1,.int hi t2,.int st t3]}) rfl
 exact AH.to I' x ⟨_,.range lo hi st _ t1 t2 t3 ⟨⟨by simp[Fh],by simp[Fh],by simp[Fh]⟩,.inl (Lg.mm ..)⟩ hr,q⟩
theorem Sn:∃bt,CmpOf prog w A .Gt (fun i v=>#[Value.int a t,Value.int b u][i]?=some v) bt/\argBest bt 1=(if a<b then 1 else 0):=by
 refine⟨fun i j=>decide (numAt #[(a,t),(b,u)] i>numAt #[(a,t),(b,u)] j),CmpOf.ints_gt (numAt #[(a,t),(b,u)]) (fun i v hv=>intItems_at (xs:=#[(a,t),(b,u)]) (by simpa [intItems] using hv)),?_⟩
 by_cases h:a<b
 ·simp[argBest,numAt,h]
 ·simp[argBest,numAt,h]
theorem bB{Q:Value->Shared->Prop}(H:oD A s.heap)
  (h:∀h' tk v,(∀c o,s.heap.get? c=some o->h'.get? c=some o)->v=(if a<b then Value.int b u else Value.int a t)->Q v {s with heap:=h',toks:=tk}) :
  wpAny (model prog w) A (call (.builtin "max") [.int a t,.int b u]) Q E s:=by
 have hT:(s.heap.push {cls:=.type "tuple",data:=.seq #[.int a t,.int b u]}).IsTuple s.heap.objs.size #[.int a t,.int b u]:=⟨_,ia _ rfl,rfl,0,rfl⟩
 refine call_max_two (kM hT ?_)
 obtain⟨bt,hc,hb⟩:=Sn (prog:=prog) (w:=w) (A:=A.in1) (a:=a) (b:=b) (t:=t) (u:=u)
 have nF:(s.heap.push {cls:=.type "tuple",data:=.seq #[.int a t,.int b u]}).objs.size=s.heap.objs.size+1:=jc ..
 have oZ:∀b∈oM A,b<s.heap.objs.size:=H.lt
 refine⟨_,_,_,_,_,_,bt,rfl,O0 (A:=A.in1) _ s.heap.objs.size (by rw[nF];exact i6 (iS _)) (fun hm=>?_) #[.int a t,.int b u],⟨⟨⟨_,ia _ rfl,rfl,rfl⟩,hT.push _⟩,H.in1.mono fun b o e=>gN _ (gN _ e)⟩,?_,jy _,hc,?_⟩
 ·have:=oZ _ hm
  rw[nF]at this
  exact absurd this (Nat.not_lt.mpr (i9 _))
 ·intro c hc
  rw[jc,nF]
  rcases List.mem_cons.mp hc with rfl|hc
  ·rw[nF];exact iS _
  ·rcases List.mem_cons.mp hc with rfl|hc
   ·exact hJ (iS _)
   ·exact hJ (hJ (oZ _ hc))
 ·intro v h' tk hP hk
  refine h h' tk v (fun c o e=>hk c o (fun hm=>?_) (gN _ (gN _ e))) ?_
  ·rcases List.mem_cons.mp hm with e1|hm
   ·have:=hO e
    rw[e1,nF]at this
    exact absurd this (Nat.not_lt.mpr (i9 _))
   ·cases hm
  ·have rE:#[Value.int a t,Value.int b u][argBest bt 1]?=some v:=hP
   rw[hb]at rE
   by_cases h':a<b
   ·rw[iP h']at rE ⊢;simp at rE;exact rE.symm
   ·rw[iO h']at rE ⊢;simp at rE;exact rE.symm
theorem Ue:∀i:Nat,i<10->Str.ofString (toString (i:Int))=sx [48+i]:=by decide +kernel
noncomputable def Jm:Nat->Value
 |0=>.builtin "len" | 1=>.builtin "abs" | 2=>.builtin "max" | 3=>.type "str" | _=>.type "range"
theorem rY{as:List V}{ws:List Value}{v:V}(r:Ar base lg as ws)(h:one as=some v):∃x,ws=[x]/\Aw base lg v x:=by
 replace r:=(bV h)▸r
 obtain⟨x,ws,rfl,h1,r⟩:=r.mV;obtain rfl:=r.nil_inv
 exact⟨x,rfl,h1⟩
theorem un2{as:List V}{ws:List Value}{p:V×V}(r:Ar base lg as ws)(h:two as=some p):∃x y,ws=[x,y]/\Aw base lg p.1 x/\Aw base lg p.2 y:=by
 rw[dA h]at r
 obtain⟨x,ws,rfl,h1,r⟩:=r.mV
 obtain⟨y,ws,rfl,h2,r⟩:=r.mV;obtain rfl:=r.nil_inv
 exact⟨x,y,rfl,h1,h2⟩
theorem un3{as:List V}{ws:List Value}{p:V×V×V}(r:Ar base lg as ws)(h:ub as=some p):∃x y z,ws=[x,y,z]/\Aw base lg p.1 x/\Aw base lg p.2.1 y/\Aw base lg p.2.2 z:=by
 rw[du h]at r
 obtain⟨x,ws,rfl,h1,r⟩:=r.mV
 obtain⟨y,ws,rfl,h2,r⟩:=r.mV
 obtain⟨z,ws,rfl,h3,r⟩:=r.mV;obtain rfl:=r.nil_inv
 exact⟨x,y,z,rfl,h1,h2,h3⟩
theorem DY(r:Aw base lg v x)(h:Cx v=some i):∃t,x=.int i t:=by
 rw[Fa h]at r;exact r.mn
theorem VO{as:List V}{ws:List Value}{Q:Ae}(I:Inv base K e m fr env lg μ s.heap)(r:Ar base lg as ws)(h:Qj as Q μ) :
  wpAny (model prog w) A (call (.type "range") ws) (AH base K e m fr env lg s (PV base Q)) E s:=by
 unfold Qj at h
 split at h
 ·obtain⟨v,e1,h⟩:=Aq h
  obtain⟨n,e2,h⟩:=Aq h
  obtain⟨b1,h⟩:=Ai h
  obtain⟨x,rfl,h1⟩:=rY r e1
  obtain⟨t,rfl⟩:=DY h1 e2
  exact call_range_1 (Gd I ⟨by decide,by decide,b1,by decide⟩ h)
 ·obtain⟨p,e1,h⟩:=Aq h
  obtain⟨i,e2,h⟩:=Aq h
  obtain⟨j,e3,h⟩:=Aq h
  obtain⟨b1,h⟩:=Ai h
  obtain⟨b2,h⟩:=Ai h
  obtain⟨x,y,rfl,h1,h2⟩:=un2 r e1
  obtain⟨t,rfl⟩:=DY h1 e2;obtain⟨u,rfl⟩:=DY h2 e3
  exact call_range_2 (Gd I ⟨by decide,b1,b2,by decide⟩ h)
 ·obtain⟨p,e1,h⟩:=Aq h
  obtain⟨i,e2,h⟩:=Aq h
  obtain⟨j,e3,h⟩:=Aq h
  obtain⟨k,e4,h⟩:=Aq h
  obtain⟨hc,h⟩:=Ai h
  obtain⟨b1,h⟩:=Ai h
  obtain⟨b2,h⟩:=Ai h
  obtain⟨hs,q⟩:=Ai h
  obtain⟨x,y,z,rfl,h1,h2,h3⟩:=un3 r e1
  obtain⟨t,rfl⟩:=DY h1 e2;obtain⟨u,rfl⟩:=DY h2 e3;obtain⟨v,rfl⟩:=DY h3 e4
  exact call_range_3 hc (Gd (tk:=s.toks) I ⟨hc,b1,b2,hs⟩ q) (.inl (J2 (iB hs (by decide))))
 ·exact h.elim
theorem aq{f:Nat}{as:List V}{ws:List Value}{Q:Ae}(H:oD A s.heap)(I:Inv base K e m fr env lg μ s.heap)(r:Ar base lg as ws)(h:dP f as Q μ) :
  wpAny (model prog w) A (call (Jm f) ws) (AH base K e m fr env lg s (PV base Q)) E s:=by
 have qE:lim=1000000:=rfl
 match f,h with
 |0,h=>
  obtain⟨v,e1,h⟩:=Aq h
  obtain⟨x,rfl,h1⟩:=rY r e1
  induction v using V.casesOn with
  |str l=>
   obtain⟨⟨t,rfl⟩,hl⟩:=h1.mt
   have:=hl.1
   exact PyProof.Rows.len_str (by rw[BB];exact Int.not_le.mpr (qf (m4 _ _) (mw 1 1) (.num 9223372036854775808) mq (.num 1000000) mW mq rfl (Int.ofNat_le.mpr (hZ qE)) (Int.ofNat_le.mpr this))) (by rw[BB];exact AJ I h)
  |l8 n=>
   obtain⟨xs,hm,q⟩:=Aq h
   obtain⟨p,d,rfl,hr⟩:=h1.mI
   obtain⟨vs,k,hg,rfl,hl,hv,nF,nT⟩:=Co I hr (Ba hm)
   exact PySem.Calls.call_len_list (A9 hg) (by exact qq3 (Int.ofNat_le.mpr (hZ qE)) (Int.ofNat_le.mpr hl) (Int.ofNat_le.mpr (hZ nF))) (by refine nF.symm▸?_;exact AJ I q)
  |tup l=>
   obtain⟨p,o,vs,k,rfl,hk,hc,hd,hm,hr⟩:=h1.nX
   have e:l.length=vs.size:=by exact hr.1
   exact PyProof.Rows.len_tuple (GH I hk hc hd) (by exact qq3 (Int.ofNat_le.mpr (hZ qE)) (Int.ofNat_le.mpr hm) (Int.ofNat_le.mpr (hZ e.symm))) (by refine e▸?_;exact AJ I h)
  |_=>exact h.elim
 |1,h=>
  obtain⟨v,e1,h⟩:=Aq h
  obtain⟨i,e2,h⟩:=Aq h
  obtain⟨x,rfl,h1⟩:=rY r e1
  obtain⟨t,rfl⟩:=DY h1 e2
  refine call_abs_int fun u tk=>?_
  have e:(if i<0 then -i else i)=(i.natAbs:Int):=by split<;>lia
  refine e.symm▸?_;exact AJ I h
 |2,h=>
  obtain⟨p,e1,h⟩:=Aq h
  obtain⟨i,e2,h⟩:=Aq h
  obtain⟨j,e3,h⟩:=Aq h
  obtain⟨x,y,rfl,h1,h2⟩:=un2 r e1
  obtain⟨t,rfl⟩:=DY h1 e2;obtain⟨u,rfl⟩:=DY h2 e3
  refine bB H fun h' tk v hk hv=>?_
  cases hv
  refine AH.now (I.keeps hk) ⟨_,?_,h⟩
  split<;>exact .int _ _
 |3,h=>
  obtain⟨v,e1,h⟩:=Aq h
  obtain⟨i,e2,h⟩:=Aq h
  have h0:=(Ai h).1;have h:=(Ai h).2
  have qN:=(Ai h).1;have q:=(Ai h).2
  obtain⟨x,rfl,h1⟩:=rY r e1
  obtain⟨t,rfl⟩:=DY h1 e2
  obtain⟨k,rfl⟩:=gJ h0
  refine P.str_of_int ?_ ?_
  ·have:k.log2<=k:=Nat.log2_le_self k
   simp;exact Int.ofNat_lt.mp (qf (m4 _ _) (mw 1 1) (.num 1920) (mw 0 1) (.num 10) mW mq rfl qN (Int.ofNat_le.mpr this))
  ·refine(Ue k (by exact Int.ofNat_lt.mp (mO (mz _) (mw 0 1) (.num 10) (mw 0 1) (.num 10) rfl qN))).symm▸?_
   refine DB I ⟨by simp[lim],fun c hc=>?_⟩ q
   refine(List.mem_singleton.mp hc).symm▸?_;show 48+k<128;exact Int.ofNat_lt.mp (mO (mz _) (.add (.add (.num 48) mq) (.num 1)) (.num 128) (mw 0 1) (.num 10) rfl qN)
 |4,h=>exact VO I r h
theorem JH:∀{l:List Nat} {j:Int},(∀i:Nat,l[i]?≠some c)->AE c l j = -1
 |[],_,_=>rfl
 |x :: l,j,h=>by
  unfold AE
  rw[iO (fun q=>h 0 (by simp[q]))]
  exact JH fun i=>by have:=h (i+1);exact this
theorem PK:∀{j:Int} {i:Nat},l[i]?=some c->(∀k,k<i->l[k]?≠some c)->AE c l j=j+i:=by
 induction l with
 |nil=>intro j i h;exact Ao h
 |cons x l ih=>
  intro j i h n
  cases i with
  |zero=>exact(iP (Option.some.inj h)).trans (lL j).symm
  |succ i=>
   refine(iO fun e=>n 0 (jy _) (congrArg some e)).trans ((ih (i:=i) h fun k hk=>n (k+1) (ke hk)).trans ?_)
   rw[Int.add_assoc,Int.add_comm 1];rfl
theorem Xp(l:List Nat)(c:Nat):Txt.find (sx l) ⟨#[c]⟩=AE c l 0:=by
 have e:∀i,StrLaws.At (sx l) ⟨#[c]⟩ (sx l).length i↔l[i]?=some c:=fun i=>by
  have:=StrLaws.subAt_one (sx l) c i
  simpa [StrLaws.At,sx] using this
 rcases find_whole (sx l) ⟨#[c]⟩ with⟨h,n⟩|⟨i,h,a,n⟩
 ·(refine h.symm▸?_;refine(JH fun i q=>n i ((e i).mpr q)).symm▸?_;rfl)
 ·rw[h,PK ((e i).mp a) fun k hk q=>n k hk ((e k).mpr q)];simp
theorem SN:∀ss:List (List Nat),Txt.join Str.empty (ss.map sx)=sx ss.flatten:=by
 intro ss
 have key:∀(ss:List (List Nat)) (acc:Array Nat),(ss.map sx).foldl (fun acc p=>acc++Str.empty.cps++p.cps) acc=acc++ss.flatten.toArray:=by
  intro ss
  induction ss with
  |nil=>intro acc;rfl
  |cons a r ih=>intro acc;rw[ja,lh,ih];simp[sx,Str.empty]
 unfold Txt.join Builtin.Str.glued
 induction ss with
 |nil=>rfl
 |cons a r=>
  have:=key r a.toArray
  simp only[ja,List.drop_succ_cons,List.drop_zero,List.headD_cons]
  show(⟨_⟩:Str)=_
  unfold sx at this ⊢
  rw[this];simp
theorem SM(ss:List (List Nat))(h:ss.flatten.length<=lim):JoinOk Str.empty (ss.map sx)=true:=by
 have key:∀(ss:List (List Nat)) (n:Nat),(ss.map sx).foldl (fun n p=>n+p.length+Str.empty.length) n=n+ss.flatten.length:=by
  intro ss
  induction ss with
  |nil=>intro n;rfl
  |cons a r ih=>intro n;(refine List.map_cons.symm▸?_;rewrite[lh];rewrite[ih]);simp[BB,show Str.empty.length=0 from rfl];exact jN (qg (nI _ _ _) (.add (.add mu mK) nM) (.add mu (.add mK nM)) rfl) (qg (nI _ _ _) (.add mu (.add mK nM)) (.add (.add mu mK) nM) rfl)
 unfold JoinOk Builtin.Str.tooLong
 rw[<- Array.foldl_toList,key]
 have:=Cn
 lia
theorem Tp(q:Bz (v :: l)=some ss):∃t pM,v=.str t/\Bz l=some pM/\ss=t :: pM:=by
 induction v using V.casesOn with
 |str t=>
  obtain⟨pM,a,b⟩:=Option.map_eq_some_iff.mp (show(Bz l).map (t :: ·)=some ss from q)
  exact⟨t,pM,rfl,a,b.symm⟩
 |_=>exact Ao q
theorem QA:∀{ss:List (List Nat)} {vs:List Value},Bz l=some ss->Ar base lg l vs->∃k:List (Str×Tok),vs=strValues k/\k.map (·.1)=ss.map sx:=by
 induction l with
 |nil=>intro ss vs q r;obtain rfl:=Option.some.inj q;obtain rfl:=r.nil_inv;exact⟨[],rfl,rfl⟩
 |cons v l ih=>
  intro ss vs q r
  obtain⟨z,sG,rfl,hz,hr⟩:=r.mV
  obtain⟨t,pM,rfl,q',rfl⟩:=Tp q
  obtain⟨⟨u,rfl⟩,hk⟩:=hz.mt
  obtain⟨k,rfl,h2⟩:=ih q' hr
  exact⟨(sx t,u) :: k,rfl,congrArg (sx t :: ·) h2⟩
theorem Oj:∀{p:List V×V},Eh xs=some p->xs=p.1++[p.2]:=by
 induction xs with
 |nil=>exact fun h=>Ao h
 |cons x r ih=>
  intro p h
  cases r with
  |nil=>obtain rfl:=Option.some.inj h;rfl
  |cons y r=>
   obtain⟨p',q,rfl⟩:=Option.map_eq_some_iff.mp (show(Eh (y :: r)).map (fun p=>(x :: p.1,p.2))=some p from h)
   exact congrArg (x :: ·) (ih q)
noncomputable def ID:Nat->String
 |0=>"list.append" | 1=>"list.pop" | 2=>"str.find" | 3=>"str.lower" | _=>"str.join"
theorem Rv{f:Nat}{o:V}{x:Value}{as:List V}{ws:List Value}{Q:Ae}(I:Inv base K e m fr env lg μ s.heap)(ho:Aw base lg o x)(r:Ar base lg as ws)(h:U6 o f as Q μ) :
  wpAny (model prog w) A (call (.builtin (ID f)) (x :: ws)) (AH base K e m fr env lg s (PV base Q)) E s:=by
 have qF:lim<=sizeLine:=Cn
 induction o using V.casesOn with
 |l8 n=>
  obtain⟨p,d,rfl,hr⟩:=ho.mI
  match f,h with
  |0,h=>
   obtain⟨v,e1,h⟩:=Aq h
   obtain⟨xs,hm,h⟩:=Aq h
   have oZ:=(Ai h).1;have q:=(Ai h).2
   obtain⟨y,rfl,h1⟩:=rY r e1
   obtain⟨vs,k,hg,rfl,hl,hv,nF,nT⟩:=Co I hr (Ba hm)
   refine wpAny_list_append_plain ⟨k,hg⟩ (fun h' hp hs=>?_) (by exact qq4 qF hl (hZ nF))
   obtain⟨k',g⟩:=hp
   have x1:Ext lg (lg.put p (listOf (vs.push y) k')):=Ext.nY _ nT (.inl ⟨rfl,_,_,rfl⟩)
   exact AH.to (tk:=s.toks) (I.turn (o:=.list (xs++[v])) hr nT (.inl ⟨rfl,_,_,rfl⟩) hs g ⟨rfl,by simp;assumption,_,_,Lg.mm ..,by
    refine Array.toList_push.symm▸?_;exact(hv.append (Ar.cons h1 .nil)).mono x1⟩) x1 ⟨_,.none,q⟩
  |1,h=>
   have hn:=(A6 h).1;have h:=(A6 h).2
   obtain⟨xs1,hm,h⟩:=Aq h
   obtain⟨⟨xs,v⟩,hi,q⟩:=Aq h
   have hi:xs1=xs++[v]:=Oj hi
   cases hi
   replace r:=(List.isEmpty_iff.mp hn)▸r
   cases r.nil_inv
   obtain⟨vs,k,hg,rfl,hl,hv,nF,nT⟩:=Co I hr (Ba hm)
   have hlen:vs.size=xs.length+1:=by refine nF.symm▸?_;simp
   obtain⟨y,hy,hvy⟩:=hv.at (i:=xs.length) (v:=v) (by simp)
   have hy':vs[vs.size - 1]?=some y:=by(rewrite[hlen];refine iL▸?_);exact hy
   have e:(vs.eraseIdxIfInBounds (vs.size - 1)).toList=vs.toList.take xs.length:=by
    refine hlen.symm▸?_
    simp[Array.eraseIdxIfInBounds,hlen]
    rw[List.eraseIdx_eq_take_drop_succ]
    simp[hlen]
   obtain⟨ma,I',x⟩:=FQ (f:=fun z=>z.eraseIdxIfInBounds (vs.size - 1)) I hr nT (xs:=xs) (by simp at hl;exact mU (m4 _ _) mu mK (mD 0 1) mK rfl hl) (by
    refine e.symm▸?_;have:=hv.take xs.length;simpa using this)
   exact lj PySem.F.slot_list_pop (A9 hg).typeIs PySem.F.entry_list_pop (PySem.F.args_list_pop_1 _) (PySem.MeetsSeq.list_pop_last p _ k y hy' (by exact qq4 qF hl (hZ nF)))
    ⟨hg,AH.to I' x ⟨v,hvy.mono x,q⟩⟩
 |str l=>
  obtain⟨⟨t,rfl⟩,hl⟩:=ho.mt
  match f,h with
  |2,h=>
   obtain⟨v,e1,h⟩:=Aq h
   obtain⟨c,e2,h⟩:=Aq h
   obtain⟨y,rfl,h1⟩:=rY r e1
   replace h1:=(Kk e2)▸h1
   obtain⟨⟨u,rfl⟩,_⟩:=h1.mt
   refine SC.find ?_
   (refine(show sx [c]=⟨#[c]⟩from rfl).symm▸?_;rewrite[Xp])
   exact AJ I h
  |3,h=>
   have hn:=(A6 h).1;have h:=(A6 h).2
   obtain⟨c,e2,h⟩:=Aq h
   have h1:=(Ai h).1;have h:=(Ai h).2
   have h2:=(Ai h).1;have q:=(Ai h).2
   replace r:=(List.isEmpty_iff.mp hn)▸r
   cases r.nil_inv
   cases(show l=[c]from V.str.inj (Kk e2))
   have e:Txt.lower (sx [c])=sx [c+32]:=by
    rw[PyProof.Rows.lower_ascii (by simpa [sx] using hl.2)]
    simp[sx,PyProof.Rows.lo1,h1,h2]
   refine SC.lower ?_ ?_
   ·refine e.symm▸?_;rfl
   ·refine e.symm▸?_;exact DB I ⟨by simp[lim],fun z hz=>by refine(List.mem_singleton.mp hz).symm▸?_;exact mU (mz _) (.add (mD 0 32) (.num 1)) (.num 128) mu (.num 90) rfl h2⟩ q
  |4,h=>
   have hn:=(A6 h).1;have h:=(A6 h).2
   cases List.isEmpty_iff.mp hn
   obtain⟨v,e1,h⟩:=Aq h
   obtain⟨y,rfl,h1⟩:=rY r e1
   induction v using V.casesOn with
   |l8 n=>
    obtain⟨xs,hm,h⟩:=Aq h
    obtain⟨ss,hss,h⟩:=Aq h
    have hlen:=(Ai h).1;have q:=(Ai h).2
    obtain⟨p,d,rfl,hr⟩:=h1.mI
    obtain⟨vs,k,hg,rfl,hl,hv,nF,nT⟩:=Co I hr (Ba hm)
    obtain⟨ks,e1,e2⟩:=QA hss hv
    have su:=(Gh hss hv).2
    refine SC.join (l:=ks) (texts:=ss.map sx) (x:=sx []) ?_ e2 (SM ss hlen) fun t' k=>?_
    ·refine e1▸?_;simpa using A9 hg
    ·(refine(show sx []=Str.empty from rfl).symm▸?_;rewrite[SN])
     exact DB I ⟨hlen,fun c hc=>by obtain⟨l,h1,h2⟩:=List.mem_flatten.mp hc;exact(su l h1).2 c h2⟩ q
   |_=>exact h.elim
 |_=>exact h.elim
end
def tI(o:Obj):Prop:=pI o/\(o.cls=.type "tuple"\/o.cls=.type "range"\/∃C,o.cls=.ref C)
structure G2(lg ma:Lg):Prop where
 oA:∀a o,tI o->lg.led a=some o->ma.led a=some o
 mE:∀(n:Nat) (p:Addr×Addr),lg.mE[n]?=some p->ma.mE[n]?=some p
theorem Ext.v(x:Ext lg ma):G2 lg ma:=⟨fun a o i h=>x.oA a o i.1 h,x.mE⟩
theorem Aw.mR(x:G2 lg ma)(h:Aw base lg v w):Aw base ma v w:=by
 induction h with
 |none=>exact .none
 |bool b=>exact .bool b
 |int i t=>exact .int i t
 |str s t hl=>exact .str s t hl
 |tup l a o vs n hk hc hd hl hm _ ih=>exact .tup l a o vs n ⟨hk.1,hk.2.imp (x.oA a o ⟨hk.1,.inl hc⟩) id⟩ hc hd hl hm ih
 |mT l a o vs n hk hc hd hl hm _ ih=>exact .mT l a o vs n hk hc hd hl hm ih
 |range lo hi st a t1 t2 t3 hk hr=>exact .range lo hi st a t1 t2 t3 ⟨hk.1,hk.2.imp (x.oA a _ ⟨hk.1,.inr (.inl rfl)⟩) id⟩ hr
 |l8 n a d h=>exact .l8 n a d (x.mE n _ h)
theorem Ar.mR(x:G2 lg ma)(h:Ar base lg l vs):Ar base ma l vs:=⟨h.1,fun i v w a b=>(h.2 i v w a b).mR x⟩
theorem DG.mR(x:G2 lg ma)(h:DG base lg fs es):DG base ma fs es:=by
 induction h with
 |nil=>exact .nil
 |cons a v fs hs t w es ha hv _ ih=>exact .cons a v fs hs t w es ha (hv.mR x) ih
theorem Nt.mR(x:G2 lg ma){f:Int->Option Value}(h:Nt base lg kv f):Nt base ma kv f:=
 fun k=>(h k).imp id fun nV=>by obtain⟨v,w,a,b,c⟩:=nV;exact⟨v,w,a,b,c.mR x⟩
section
variable{base:Heap}{K:Frag}{e e':Env}{m m':Str->Option Value}{fr:List oq}{env env':An}{lg ma:Lg}{μ:MH}{h h':Heap}
theorem Gn.mR(q:G2 lg ma)(hd:∀o,lg.led d=some o->ma.led d=some o)(h:Gn base K lg a d o):Gn base K ma a d o:=by
 cases o with
 |list xs=>obtain⟨e,hm,vs,k,a1,a4⟩:=h;exact⟨e,hm,vs,k,hd _ a1,a4.mR q⟩
 |inst c fs=>obtain⟨hc,C,c1,c2,c3,es,k,c4,c5⟩:=h;exact⟨hc,C,c1,q.oA _ _ ⟨⟨by simp,by simp,by simp⟩,.inr (.inr ⟨C,rfl⟩)⟩ c2,c3,es,k,hd _ c4,c5.mR q⟩
 |dict kv=>obtain⟨e,o,a1,a2,es,k,a3,a4,a5,a6⟩:=h;exact⟨e,o,hd _ a1,a2,es,k,a3,a4,a5,a6.mR q⟩
theorem FO.mR(q:G2 lg ma)(hc:∀a o,Da o->lg.led a=some o->ma.led a=some o)
  (h:FO base e m lg x v):FO base e m ma x v:=by
 refine⟨h.1,h.2.imp (fun nV=>by obtain⟨a,w,b,c⟩:=nV;exact⟨a,w,b,c.mR q⟩) fun nV=>by obtain⟨a,ca,o,w,b,c,d,f⟩:=nV;exact⟨a,ca,o,w,b,hc _ _ ⟨_,d⟩ c,d,f.mR q⟩⟩
theorem Gn.nZ(h:Gn base K lg a d o):∃ob,lg.led d=some ob/\¬pI ob:=by
 induction o with
 |list xs=>obtain⟨_,_,_,_,a1,_⟩:=h;exact⟨_,a1,fun i=>i.1 rfl⟩
 |inst c fs=>obtain⟨_,_,_,_,_,es,k,a1,_⟩:=h;exact⟨_,a1,fun i=>i.2.1 _ _ rfl⟩
 |dict kv=>obtain⟨_,ob,a1,_,es,k,a3,_⟩:=h;exact⟨ob,a1,fun i=>i.2.1 _ _ a3⟩
theorem Inv.stores(I:Inv base K e m fr env lg μ h){p:Addr×Addr}(hp:p∈lg.mE):∃ob,lg.led p.2=some ob/\¬pI ob:=by
 obtain⟨n,hn⟩:=List.mem_iff_getElem?.mp hp
 have uS:n<μ.length:=by refine I.heap.len▸?_;exact(List.getElem?_eq_some_iff.mp hn).1
 obtain⟨a,d,h1,h2⟩:=I.heap.each n _ (g8 uS)
 obtain rfl:=same hn h1
 exact h2.nZ
theorem Inv.swap(I:Inv base K e m fr env lg μ h)(hl:lg.led a=some o)(hi:pI o)(nv:¬tI o)(k:∀b p,b≠a->h.get? b=some p->h'.get? b=some p)(g:h'.get? a=some o') :
  Inv base K e m fr env (lg.put a o') μ h':=by
 have hb:=(I.led a o hl).2
 have nL:e.locals≠a:=by rintro rfl;exact AM I.mN hl
 have x:G2 lg (lg.put a o'):=⟨fun b p v q=>by
  by_cases z:b=a
  ·subst z;obtain rfl:=same hl q;exact absurd v nv
  ·refine(Lg.mj _ _ z).symm▸?_;exact q,fun _ _ q=>q⟩
 have pj:∀b p,¬pI p->lg.led b=some p->(lg.put a o').led b=some p:=fun b p n q=>by
  rw[Lg.mj];exact q
  rintro rfl;replace q:=hl▸q;obtain rfl:=Option.some.inj q;exact n hi
 have oH:∀{p:Obj},Da p->¬pI p:=fun nV i=>by obtain⟨v,q⟩:=nV;exact i.2.2 v q
 refine⟨fun b p q=>k b p (fun z=>by(rw[z]at q;replace q:=hb▸q);exact Ao q) (I.old b p q),?_,I.nN,by refine(Lg.mj _ _ nL).symm▸?_;exact I.mN,fun b p q=>?_,fun f hf=>?_,I.dist,I.apart,fun y v q ss=>(I.vars y v q ss).mR x fun b p c z=>pj b p (oH c) z,I.heap.len,I.heap.nodup,fun n p q=>?_⟩
 ·obtain⟨on,es,ep,q1,q2⟩:=I.ns
  exact⟨on,es,ep,k _ _ nL q1,q2⟩
 ·by_cases z:b=a
  ·subst z;rw[Lg.mm]at q;obtain rfl:=Option.some.inj q;exact⟨g,hb⟩
  ·replace q:=(Lg.mj _ _ z)▸q
   exact⟨k b p z (I.led b p q).1,(I.led b p q).2⟩
 ·obtain⟨⟨p,a1,a2⟩,a3⟩:=I.frames f hf
  refine⟨⟨p,pj _ _ (fun i=>?_) a1,a2⟩,fun c q z=>⟨pj _ _ (oH (a3 c q z).2) (a3 c q z).1,(a3 c q z).2⟩⟩
  obtain⟨es,ep,d,_⟩:=a2
  exact i.2.1 _ _ d
 ·obtain⟨a',d,a1,a2⟩:=I.heap.each n p q
  refine⟨a',d,a1,a2.mR x fun ob z=>?_⟩
  obtain⟨rd,z',n'⟩:=a2.nZ
  obtain rfl:=same z' z
  exact pj _ _ n' z'
theorem Ext.qV{lg ma:Lg}(x:Ext lg ma)(o:Obj)(q:lg.led a=none):Ext lg (ma.put a o):=by
 have ne:∀b p,lg.led b=some p->b≠a:=fun b p e z=>by(rw[z]at e;replace e:=q▸e);exact Ao e
 refine⟨fun b p i e=>?_,fun b p c e=>?_,x.mE⟩
 ·exact(Lg.mj _ _ (ne b p e)).trans (x.oA b p i e)
 ·obtain⟨o',c',e'⟩:=x.cell b p c e
  exact⟨o',c',by exact(Lg.mj _ _ (ne b p e)).trans (e')⟩
open Classical in
noncomputable def AU(env:An)(e:Env)(lg:Lg):Addr->Option Obj:=fun a=>
 if ∃x v,x<Bg.length/\env x=some v/\e.kindOf (nm x)=some .cell/\e.cells.lookup (nm x)=some a then lg.led a else none
theorem Inv.switch{cs:Addr->Option Obj}(I:Inv base K e m fr env lg μ h)(hcs:∀a o,cs a=some o->AU env e lg a=some o)(ns:h.Ns e'.locals m')(nb:base.get? e'.locals=none)(nl:lg.led e'.locals=none)(ne:e'.locals≠e.locals)
  (nf:∀f∈fr,f.env.locals≠e'.locals) (vars:∀ma,Ext lg ma->(∀a o,lg.led a=some o->ma.led a=some o)->∀x v,env' x=some v->R4 e' x->FO base e' m' ma x v) :
  ∃oL,Inv base K e' m' (⟨e,m,cs⟩ :: fr) env' (lg.put e.locals oL) μ h/\Ext lg (lg.put e.locals oL):=by
 obtain⟨oL,g,pe⟩:=H7.of I.ns
 have x:Ext lg (lg.put e.locals oL):=Ext.mP _ I.mN
 have keep:∀a o,lg.led a=some o->(lg.put e.locals oL).led a=some o:=fun a o q=>by
  rw[Lg.mj];exact q
  rintro rfl;exact AM I.mN q
 refine⟨oL,⟨I.old,ns,nb,by refine(Lg.mj _ _ ne).symm▸?_;exact nl,fun b p q=>?_,fun f hf=>?_,?_,fun f hf p hp=>?_,vars _ x keep,I.heap.len,I.heap.nodup,fun n p q=>?_⟩,x⟩
 ·by_cases z:b=e.locals
  ·subst z;rw[Lg.mm]at q;obtain rfl:=Option.some.inj q;exact⟨g,I.nN⟩
  ·replace q:=(Lg.mj _ _ z)▸q;exact I.led b p q
 ·rcases List.mem_cons.mp hf with rfl|hf
  ·refine⟨⟨oL,Lg.mm ..,pe⟩,fun a o q=>?_⟩
   have q:AU env e lg a=some o:=hcs a o q
   unfold AU at q
   split at q
   ·rename_i hx
    obtain⟨y,v,h0,h1,h2,h3⟩:=hx
    have hv:=(I.vars y v h1 ⟨h0,.inr h2⟩).2
    rcases hv with⟨z,_⟩|⟨_,ca,oc,w,z1,z2,z4,_⟩
    ·replace z:=h2▸z;exact nomatch z
    ·obtain rfl:=same h3 z1
     obtain rfl:=same z2 q
     exact⟨keep _ _ z2,_,z4⟩
   ·exact Ao q
  ·obtain⟨⟨p,a1,a2⟩,a3⟩:=I.frames f hf
   exact⟨⟨p,keep _ _ a1,a2⟩,fun c o q=>⟨keep _ _ (a3 c o q).1,(a3 c o q).2⟩⟩
 ·have d:=I.dist
  simp only[ja,jO,hW,lI,not_or]at d ⊢
  refine⟨⟨ne,?_⟩,d⟩
  rintro⟨f,hf,q⟩
  exact nf f hf q
 ·rcases List.mem_cons.mp hf with rfl|hf
  ·intro z
   obtain⟨ob,q,_⟩:=I.stores hp
   (replace q:=(z).symm▸q;replace q:=I.mN▸q);exact Ao q
  ·exact I.apart f hf p hp
 ·obtain⟨a',d,a1,a2⟩:=I.heap.each n p q
  exact⟨a',d,a1,a2.mono x fun ob z=>keep _ _ z⟩
noncomputable def Lg.drop(lg:Lg)(a:Addr):Lg:={lg with led:=fun b=>if b=a then none else lg.led b}
theorem Inv.back{rR:Lg}{f:oq}(I:Inv base K e' m' (f :: fr) env' lg μ h)(x0:Ext rR lg)(n0:rR.led f.env.locals=none)(hc:∀a o,AU env f.env rR a=some o->f.cells a=some o)
  (vars:∀x v,env x=some v->R4 f.env x->FO base f.env f.m rR x v) :
  Inv base K f.env f.m fr env (lg.drop f.env.locals) μ h/\Ext rR (lg.drop f.env.locals):=by
 obtain⟨⟨oL,g1,g2⟩,g3⟩:=I.frames f (.head _)
 have g:=I.led _ _ g1
 have ne:∀a o,a≠f.env.locals->lg.led a=some o->(lg.drop f.env.locals).led a=some o:=fun a o n q=>by unfold Lg.drop;dsimp only;exact(iO n).trans (q)
 have x:Ext rR (lg.drop f.env.locals):=⟨fun a o i q=>ne a o (by rintro rfl;exact AM n0 q) (x0.oA a o i q),fun a o c q=>by obtain⟨o',c',q'⟩:=x0.cell a o c q;exact⟨o',c',ne a o' (by rintro rfl;exact AM n0 q) q'⟩,x0.mE⟩
 obtain⟨es,ep,hd,_⟩:=id g2
 have xv:G2 lg (lg.drop f.env.locals):=⟨fun a o i q=>ne a o (by rintro rfl;replace q:=g1▸q;obtain rfl:=Option.some.inj q;exact i.1.2.1 _ _ hd) q,fun _ _ q=>q⟩
 have qk:∀a o,lg.led a=some o->Da o->a≠f.env.locals:=fun a o q c=>by
  rintro rfl;obtain rfl:=same g1 q;obtain⟨v,c⟩:=c;replace c:=hd▸c;exact nomatch c
 have dd:=I.dist
 simp only[ja,jO,hW,lI,not_or]at dd
 refine⟨⟨I.old,g2.ns g.1,g.2,by unfold Lg.drop;simp,fun b p q=>?_,fun f' hf=>?_,?_,fun f' hf p hp=>I.apart f' (gH _ hf) p hp,fun y v q ss=>?_,I.heap.len,I.heap.nodup,fun n p q=>?_⟩,x⟩
 ·unfold Lg.drop at q;dsimp only at q;split at q
  ·exact Ao q
  ·exact I.led b p q
 ·obtain⟨⟨p,a1,a2⟩,a3⟩:=I.frames f' (gH _ hf)
  refine⟨⟨p,ne _ _ (fun z=>dd.2.1 ⟨f',hf,z⟩) a1,a2⟩,fun c o q=>⟨ne _ _ (qk _ _ (a3 c o q).1 (a3 c o q).2) (a3 c o q).1,(a3 c o q).2⟩⟩
 ·simp only[jO,lI]
  exact dd.2
 ·have a:=(vars y v q ss).1;have hv:=(vars y v q ss).2
  refine⟨a,hv.imp (fun⟨z,w,z1,z2⟩=>⟨z,w,z1,z2.mono x⟩) fun⟨z,ca,o,w,z1,z2,z4,z5⟩=>⟨z,ca,o,w,z1,?_,z4,z5.mono x⟩⟩
  have q1:AU env f.env rR ca=some o:=by unfold AU;exact(iP ⟨y,v,a,q,z,z1⟩).trans (z2)
  have q2:=g3 ca o (hc _ _ q1)
  exact ne _ _ (qk _ _ q2.1 q2.2) q2.1
 ·obtain⟨a',d,a1,a2⟩:=I.heap.each n p q
  refine⟨a',d,a1,a2.mR xv fun ob z=>ne _ _ (fun y=>?_) z⟩
  exact I.apart f (.head _) (a',d) (jv a1) y.symm
end
def E7(K:Frag)(c:Nat)(C:Addr):Prop:=nsIn K mainGlobals (Str.ofString (EM c))=some (some (.ref C))
inductive Wx(base:Heap)(K:Frag)(FA:Nat->Addr):Prop
 |mk (mg mb:Str->Option Value) (n1:base.Ns mainGlobals mg) (n2:base.Ns builtinsNs mb)
  (n3:∀x v,l9 x=some v->∃w,mg (nm x)=some w/\∀lg,Aw base lg v w)
  (n4:∀f,Om f=true->mg (nm f)=some (.ref (FA f))/\keepIn K (.ref (FA f))=true)
  (n5:∀i,i<5->mg (Str.ofString (HR i))=none/\mb (Str.ofString (HR i))=some (Jm i))
  (n6:∀c,1<=c->c<=3->∃C,E7 K c C/\mg (Str.ofString (EM c))=some (.ref C))
structure Tx(base:Heap)(K:Frag)(FA:Nat->Addr):Prop where
 qd:K.In base
 qs:base.NoLimit
 cls:uf K
 names:Wx base K FA
structure QP(e:Env)(sc:Sc):Prop where
 kind:e.scope.kind=.function
 globals:e.globals=mainGlobals
 builtins:e.builtins=builtinsNs
 l8:∀n,sc.lookup n=some .local->e.kindOf n=some .local
 cell:∀n,sc.lookup n=some .cell\/sc.lookup n=some .free->e.kindOf n=some .cell
 l9:∀n,sc.lookup n=some .globalImplicit->e.kindOf n=some .globalImplicit
structure K5(e:Env)(sc:Sc)(fr:List oq)(lg:Lg):Prop where
 apart:∀n ca,sc.lookup n=some .cell->e.cells.lookup n=some ca->∀f∈fr,f.cells ca=none
 inj:∀n n' ca,e.cells.lookup n=some ca->e.cells.lookup n'=some ca->n=n'
 led:∀n,sc.lookup n=some .cell\/sc.lookup n=some .free->∃ca o,e.cells.lookup n=some ca/\Da o/\lg.led ca=some o
theorem K5.mono{e:Env}(x:Ext lg ma)(O:K5 e sc fr lg):K5 e sc fr ma:=
 ⟨O.apart,O.inj,fun n h=>by obtain⟨ca,o,a,b,c⟩:=O.led n h;obtain⟨o',b',c'⟩:=x.cell ca o b c;exact⟨ca,o',a,b',c'⟩⟩
def HL(A:Around)(base:Heap)(lg:Lg):Prop:=A.handled=none\/∃a o arr,A.handled=some (.ref a)/\Kn base lg a o/\o.data=.fields arr/\arr[2]?=some .none
theorem HL.mono(x:Ext lg ma)(H:HL A base lg):HL A base ma:=
 H.imp id fun nV=>by obtain⟨a,o,arr,e,k,r⟩:=nV;exact⟨a,o,arr,e,x.kn k,r⟩
inductive ug(base:Heap)(lg:Lg)(h:Heap)(L a:Addr)(vs:Array Value):Prop
 |mk (T:Addr) (oT:Obj) (ts:Array Value) (h1:vs[1]?=some (.ref T)) (bT:base.get? T=none) (lT:lg.led T=none) (Ta:T≠a) (TL:T≠L) (gT:h.get? T=some oT) (dT:oT.data=.fields ts) (hz:3<ts.size)
def Zx(base:Heap)(lg:Lg)(h:Heap)(L a:Addr)(vs:Array Value):Prop:=vs[1]?=some .none\/ug base lg h L a vs
inductive FN(base:Heap)(K:Frag)(lg:Lg)(h:Heap)(L a:Addr)(r:Nat):Prop
 |mk (a1:base.get? a=none) (a2:lg.led a=none) (a3:a≠L) (o:Obj) (vs:Array Value) (C:Addr) (b1:h.get? a=some o) (b2:1<=r % 10) (b3:r % 10<=3) (b4:E7 K (r % 10) C) (b5:o.cls=.ref C) (b6:o.data=.fields vs) (b7:2<vs.size) (b8:r<10->vs[2]?=some .none) (b9:Zx base lg h L a vs)
inductive EP(base:Heap)(K:Frag)(e:Env)(m:Str->Option Value)(fr:List oq)(env:An)(lg:Lg)(s:Shared)(X:As)(v:Value)(s':Shared):Prop
 |mk (h':Heap) (tk:Nat) (ma:Lg) (μ':MH) (a:Addr) (r:Nat) (e1:s'={s with heap:=h',toks:=tk}) (I:Inv base K e m fr env ma μ' h') (x:Ext lg ma) (ev:v=.ref a) (ex:FN base K ma h' e.locals a r) (q:X r μ')
set_option genInjectivity false in
structure my where
 pg:Program
 w:World
 A:Around
 base:Heap
 K:Frag
 e:Env
 fr:List oq
 sc:Sc
 Φ:Az
structure my.H(S:my)(lg:Lg):Prop where
 hl:HL S.A S.base lg
 own:K5 S.e S.sc S.fr lg
theorem my.H.mono{S:my}(H:S.H lg)(x:Ext lg ma):S.H ma:=⟨H.hl.mono x,H.own.mono x⟩
namespace my
variable(S:my)
noncomputable abbrev M:Model:=model S.pg S.w
abbrev I(m:Str->Option Value)(env:An)(lg:Lg)(μ:MH)(h:Heap):Prop:=Inv S.base S.K S.e m S.fr env lg μ h
abbrev P{α:Type}(m:Str->Option Value)(env:An)(lg:Lg)(s:Shared)(P:Lg->MH->α->Prop)(a:α)(s':Shared):Prop:=AH S.base S.K S.e m S.fr env lg s P a s'
abbrev X(m:Str->Option Value)(env:An)(lg:Lg)(s:Shared)(X:As)(v:Value)(s':Shared):Prop:=EP S.base S.K S.e m S.fr env lg s X v s'
def nR{α:Type}(t:Sem α)(m:Str->Option Value)(env:An)(lg:Lg)(μ:MH)(P:Lg->MH->α->Prop)(X:As):Prop:=
 ∀(s:Shared) (E:Value->Shared->Prop),S.I m env lg μ s.heap->S.H lg->(∀v s',S.X m env lg s X v s'->E v s')->wpAny S.M S.A t (S.P m env lg s P) E s
def SE(a:ME)(x:Expr):Prop:=∀m env lg μ Q X,we l9 S.Φ env a Q X μ->S.nR (eval x S.e) m env lg μ (PV S.base Q) X
def ST(a:ME)(x:Expr):Prop:=∀m env lg μ Q X,wt l9 S.Φ env a Q X μ->S.nR (isTrue x S.e (eval x S.e)) m env lg μ (PB Q) X
def SL(a:ME)(xs:List Expr):Prop:=∀m env lg μ Q X,wl l9 S.Φ env a Q X μ->S.nR (spliced (xs.map fun x=>(false,eval x S.e))) m env lg μ (PL S.base Q) X
end my
theorem EP.trans{base:Heap}{K:Frag}{e:Env}{m:Str->Option Value}{fr:List oq}{env:An}{lg ma:Lg}{s:Shared}{h':Heap}{tk:Nat}{X:As}{v:Value}{s':Shared}(x:Ext lg ma)
  (h:EP base K e m fr env ma {s with heap:=h',toks:=tk} X v s'):EP base K e m fr env lg s X v s':=by
 obtain⟨oB,qW,pi,oh,a,r,rfl,I,y,z,z',z''⟩:=h
 exact⟨oB,qW,pi,oh,a,r,rfl,I,x.trans y,z,z',z''⟩
theorem EP.none{base:Heap}{K:Frag}{e:Env}{m:Str->Option Value}{fr:List oq}{env:An}{lg:Lg}{s:Shared}{v:Value}{s':Shared}(h:EP base K e m fr env lg s (fun _ _=>False) v s'):False:=by
 obtain⟨_,_,_,_,_,_,_,_,_,_,_,q⟩:=h
 exact q
section
variable{S:my}{m:Str->Option Value}{env:An}{lg:Lg}{μ:MH}
theorem my.nR.then{α:Type}{t:Sem α}{P:Lg->MH->α->Prop}{X:As}{s:Shared}{E:Value->Shared->Prop}(d:S.nR t m env lg μ P X)
  (I:S.I m env lg μ s.heap) (H:S.H lg) (hX:∀v s',S.X m env lg s X v s'->E v s') {k:α->Shared->Prop}
  (h:∀a qG μ₁ s₁,Ext lg qG->S.I m env qG μ₁ s₁.heap->S.H qG->P qG μ₁ a->(∀(β:Type) (P2:Lg->MH->β->Prop) b s',S.P m env qG s₁ P2 b s'->S.P m env lg s P2 b s')->
   (∀v s',S.X m env qG s₁ X v s'->E v s')->k a s₁) :
  wpAny S.M S.A t k E s:=by
 refine gQ (d s E I H hX) (fun a s₁ hp=>?_) fun _ _ z=>z
 obtain⟨h',tk,qG,μ₁,rfl,I₁,x,p⟩:=hp
 exact h a qG μ₁ _ x I₁ (H.mono x) p (fun β P2 b s' z=>z.trans x) (fun v s' z=>hX v s' (z.trans x))
theorem my.nR.mono{α:Type}{t:Sem α}{P P':Lg->MH->α->Prop}{X X':As}(d:S.nR t m env lg μ P X)(k:∀ma μ' a,Ext lg ma->P ma μ' a->P' ma μ' a)(k':∀r μ',X r μ'->X' r μ'):S.nR t m env lg μ P' X':=
 fun s E I H hX=>gQ (d s E I H fun v s' nV=>by obtain⟨h',tk,ma,μ',a,r,z1,z2,z3,z4,z5,z6⟩:=nV;exact hX v s' ⟨h',tk,ma,μ',a,r,z1,z2,z3,z4,z5,k' _ _ z6⟩) (fun _ _ z=>z.mono fun ma μ' x p=>k ma μ' _ x p) fun _ _ z=>z
end
def O3(A:Around)(e:Env)(fr:List oq):Prop:=
 ∃l,A.frames=some l/\∀x∈l,(x=e\/∃f∈fr,f.env=x)/\x.frame=some x.locals/\x.scope.kind≠.module
def my.Calls(S:my)(FA:Nat->Addr):Prop:=∀f as ws,Om f=true->∀m env lg μ Q X,Ar S.base lg as ws->S.Φ f as Q X μ->S.nR (call (.ref (FA f)) ws) m env lg μ (PV S.base Q) X
structure Bi(S:my)(FA:Nat->Addr)(j:Nat):Prop where
 base:Tx S.base S.K FA
 env:QP S.e S.sc
 units:S.A.units+16*j+16<cLine
 frames:O3 S.A S.e S.fr
 calls:∀e fr sc,O3 S.A e fr->({S with e:=e,fr:=fr,sc:=sc}:my).Calls FA
section
variable{S:my}{FA:Nat->Addr}{j:Nat}
theorem cP:S.SE (.int i) (.Constant (.int i) k pos):=by
 intro m env lg μ Q X h s E I H hX
 exact wpAny_Constant_int (AJ I (show Q (.int i) μ from h))
theorem cS(hl:qe t):S.SE (.str t) (.Constant (.str (sx t)) k pos):=by
 intro m env lg μ Q X h s E I H hX
 exact wpAny_Constant_str (DB I hl (show Q (.str t) μ from h))
theorem RN:S.SE (.bool b) (.Constant (.bool b) k pos):=by
 intro m env lg μ Q X h s E I H hX
 exact wpAny_Constant_bool (S5 I (show Q (.bool b) μ from h))
theorem YY:S.SE .none (.Constant .none k pos):=by
 intro m env lg μ Q X h s E I H hX
 exact lZ (AH.here I ⟨_,.none,(show Q .none μ from h)⟩)
theorem Lo{h:Heap}{o:Obj}(g:h.get? ca=some o)(d:o.data=.cell v):h.IsCell ca v:=⟨o,g,d⟩
theorem cR(G:Bi S FA j)(te:x<Bg.length)(hn:n=nm x)(hl:UI S.sc n=true)(hd:(n==("__debug__":Str))=false):S.SE (.l8 x) (.Name n pos):=by
 intro m env lg μ Q X h s E I H hX
 obtain⟨v,hv,q⟩:=Aq h
 subst hn
 have sees:R4 S.e x:=by
  unfold UI at hl
  split at hl
  ·exact⟨te,.inl (G.env.l8 _ (by assumption))⟩
  ·exact⟨te,.inr (G.env.cell _ (.inl (by assumption)))⟩
  ·exact⟨te,.inr (G.env.cell _ (.inr (by assumption)))⟩
  ·exact De hl
 have hx:=(I.vars x v hv sees).2
 refine wpAny_Name ?_ hd
 rcases hx with⟨hk,w,hw,r⟩|⟨hk,ca,o,w,hc,hl,c2,r⟩
 ·exact jK G.env.kind hk I.ns hw (AH.here I ⟨v,r,q⟩)
 ·exact wpAny_loadName_cell G.env.kind hk hc (Lo (I.led _ _ hl).1 c2) (AH.here I ⟨v,r,q⟩)
theorem CO{base h:Heap}{m:Str->Option Value}(n:base.Ns a m)(k:base.StaysIn h):h.Ns a m:=n.keeps k
theorem YV(G:Bi S FA j)(hn:n=nm x)(hg:S.sc.lookup n=some .globalImplicit)(hd:(n==("__debug__":Str))=false):S.SE (.l9 x) (.Name n pos):=by
 intro m env lg μ Q X h s E I H hX
 obtain⟨v,hv,q⟩:=Aq h
 subst hn
 obtain⟨mg,mb,n1,n2,n3,_⟩:=G.base.names
 obtain⟨w,hw,r⟩:=n3 x v hv
 exact iH G.env.kind (G.env.l9 _ hg) (jD (by refine G.env.globals.symm▸?_;exact CO n1 I.old) hw (AH.here I ⟨v,r lg,q⟩)) hd
theorem cL(ha:S.SE a l)(hb:S.SE b r):S.SE (.bin op a b) (.BinOp l op r pos):=by
 intro m env lg μ Q X h s E I H hX
 refine wpAny_BinOp ((ha _ _ _ _ _ _ h).then I H hX fun u mJ μ1 s1 x1 I1 H1 p1 k1 mQ=>?_)
 obtain⟨uv,ru,q⟩:=p1
 refine(hb _ _ _ _ _ _ q).then I1 H1 mQ fun v m5 μ2 s2 x2 I2 H2 p2 k2 pv=>?_
 obtain⟨vv,rv,q⟩:=p2
 exact gQ (al I2 (ru.mono x2) rv q) (fun _ _ z=>k1 _ _ _ _ (k2 _ _ _ _ z)) fun _ _ z=>z
theorem fL(ha:S.SE a l):S.SE (.un op a) (.UnaryOp op l pos):=by
 intro m env lg μ Q X h s E I H hX
 refine wpAny_UnaryOp ?_
 induction op with
 |Not=>
  refine(ha _ _ _ _ _ _ h).then I H hX fun u mJ μ1 s1 x1 I1 H1 p1 k1 mQ=>?_
  obtain⟨uv,ru,q⟩:=p1
  obtain⟨b,hb,q⟩:=Aq q
  exact not_of (G0 ru hb (k1 _ _ _ _ (AH.here I1 ⟨_,.bool _,q⟩)))
 |Invert=>
  refine(ha _ _ _ _ _ _ h).then I H hX fun u mJ μ1 s1 x1 I1 H1 p1 k1 mQ=>?_
  obtain⟨uv,ru,q⟩:=p1
  exact gQ (Ws I1 ru q fun _ z=>z) (fun _ _ z=>k1 _ _ _ _ z) fun _ _ z=>z
 |USub=>
  refine(ha _ _ _ _ _ _ h).then I H hX fun u mJ μ1 s1 x1 I1 H1 p1 k1 mQ=>?_
  obtain⟨uv,ru,q⟩:=p1
  exact gQ (Ws I1 ru q fun _ z=>z) (fun _ _ z=>k1 _ _ _ _ z) fun _ _ z=>z
 |UAdd=>
  refine(ha _ _ _ _ _ _ h).then I H hX fun u mJ μ1 s1 x1 I1 H1 p1 k1 mQ=>?_
  obtain⟨uv,ru,q⟩:=p1
  exact gQ (Ws I1 ru q fun _ z=>z) (fun _ _ z=>k1 _ _ _ _ z) fun _ _ z=>z
end
section
variable{S:my}{FA:Nat->Addr}{j:Nat}
theorem Bi.u8(G:Bi S FA j):S.A.units+8<cLine:=by have:=G.units;lia
theorem cO(G:Bi S FA j)(ha:S.SE a l)(hb:S.SE b r)(hm:behindInMarks op r=false):S.SE (.cmp a op b) (.Compare l [op] [r] pos):=by
 intro m env lg μ Q X h s E I H hX
 refine wpAny_Compare1 ((ha _ _ _ _ _ _ h).then I H hX fun u mJ μ1 s1 x1 I1 H1 p1 k1 mQ=>?_) hm
 obtain⟨uv,ru,q⟩:=p1
 refine(hb _ _ _ _ _ _ q).then I1 H1 mQ fun v m5 μ2 s2 x2 I2 H2 p2 k2 pv=>?_
 obtain⟨vv,rv,q⟩:=p2
 obtain⟨c,hc,q⟩:=Aq q
 exact Hl I2 G.u8 (ru.mono x2) rv hc (k1 _ _ _ _ (k2 _ _ _ _ (AH.here I2 ⟨_,.bool c,q⟩)))
theorem db(G:Bi S FA j)(ha:S.SE a l)(hb:S.SE b r)(hm:behindInMarks op r=false):S.ST (.cmp a op b) (.Compare l [op] [r] pos):=by
 intro m env lg μ Q X h s E I H hX
 refine wpAny_isTrue_Compare1 ((ha _ _ _ _ _ _ h).then I H hX fun u mJ μ1 s1 x1 I1 H1 p1 k1 mQ=>?_) hm
 obtain⟨uv,ru,q⟩:=p1
 refine(hb _ _ _ _ _ _ q).then I1 H1 mQ fun v m5 μ2 s2 x2 I2 H2 p2 k2 pv=>?_
 obtain⟨vv,rv,q⟩:=p2
 obtain⟨c,hc,q⟩:=Aq q
 exact Hl I2 G.u8 (ru.mono x2) rv hc (jG (k1 _ _ _ _ (k2 _ _ _ _ (AH.here I2 q))))
theorem YS(G:Bi S FA j)(ha:S.SE a l)(hb:S.SE b r1)(hc:S.SE c r2)(hm:lastMarks [o1,o2] [r1,r2]=false) :
  S.SE (.oI a o1 b o2 c) (.Compare l [o1,o2] [r1,r2] pos):=by
 intro m env lg μ Q X h s E I H hX
 refine Compare_chain ((ha _ _ _ _ _ _ h).then I H hX fun u mJ μ1 s1 x1 I1 H1 p1 k1 mQ=>?_) hm
 obtain⟨uv,ru,q⟩:=p1
 refine chain_link ((hb _ _ _ _ _ _ q).then I1 H1 mQ fun v m5 μ2 s2 x2 I2 H2 p2 k2 pv=>?_)
 obtain⟨vv,rv,q⟩:=p2
 obtain⟨c,uE,q⟩:=Aq q
 refine Hl I2 G.u8 (ru.mono x2) rv uE (jG ?_)
 induction c with
 |false=>exact k1 _ _ _ _ (k2 _ _ _ _ (AH.here I2 ⟨_,.bool _,q⟩))
 |true=>
  refine chain_last ((hc _ _ _ _ _ _ q).then I2 H2 pv fun w py μ3 s3 x3 I3 H3 p3 k3 sT=>?_)
  obtain⟨wv,oO,q⟩:=p3
  obtain⟨d,hd,q⟩:=Aq q
  exact Hl I3 G.u8 (rv.mono x3) oO hd (k1 _ _ _ _ (k2 _ _ _ _ (k3 _ _ _ _ (AH.here I3 ⟨_,.bool d,q⟩))))
theorem Zc(G:Bi S FA j)(ha:S.SE a l)(hb:S.SE b r1)(hc:S.SE c r2)(hm:lastMarks [o1,o2] [r1,r2]=false) :
  S.ST (.oI a o1 b o2 c) (.Compare l [o1,o2] [r1,r2] pos):=by
 intro m env lg μ Q X h s E I H hX
 refine isTrue_chain ((ha _ _ _ _ _ _ h).then I H hX fun u mJ μ1 s1 x1 I1 H1 p1 k1 mQ=>?_) hm
 obtain⟨uv,ru,q⟩:=p1
 refine test_link ((hb _ _ _ _ _ _ q).then I1 H1 mQ fun v m5 μ2 s2 x2 I2 H2 p2 k2 pv=>?_)
 obtain⟨vv,rv,q⟩:=p2
 obtain⟨c,uE,q⟩:=Aq q
 refine Hl I2 G.u8 (ru.mono x2) rv uE (jG ?_)
 induction c with
 |false=>exact k1 _ _ _ _ (k2 _ _ _ _ (AH.here I2 q))
 |true=>
  refine test_last ((hc _ _ _ _ _ _ q).then I2 H2 pv fun w py μ3 s3 x3 I3 H3 p3 k3 sT=>?_)
  obtain⟨wv,oO,q⟩:=p3
  obtain⟨d,hd,q⟩:=Aq q
  exact Hl I3 G.u8 (rv.mono x3) oO hd (jG (k1 _ _ _ _ (k2 _ _ _ _ (k3 _ _ _ _ (AH.here I3 q)))))
theorem cQ(ht:S.ST t t')(ha:S.SE a a')(hb:S.SE b b'):S.SE (.ite t a b) (.IfExp t' a' b' pos):=by
 intro m env lg μ Q X h s E I H hX
 refine wpAny_IfExp ((ht _ _ _ _ _ _ h).then I H hX fun u mJ μ1 s1 x1 I1 H1 p1 k1 mQ=>?_)
 induction u with
 |true=>exact gQ (ha _ _ _ _ _ _ p1 _ _ I1 H1 mQ) (fun _ _ z=>k1 _ _ _ _ z) fun _ _ z=>z
 |false=>exact gQ (hb _ _ _ _ _ _ p1 _ _ I1 H1 mQ) (fun _ _ z=>k1 _ _ _ _ z) fun _ _ z=>z
theorem dc(ha:S.ST a l):S.ST (.un .Not a) (.UnaryOp .Not l pos):=by
 intro m env lg μ Q X h s E I H hX
 refine wpAny_isTrue_Not ((ha _ _ _ _ _ _ h).then I H hX fun u mJ μ1 s1 x1 I1 H1 p1 k1 mQ=>?_)
 exact k1 _ _ _ _ (AH.here I1 p1)
theorem rX(ht:S.ST t t')(ha:S.ST a a')(hb:S.ST b b'):S.ST (.ite t a b) (.IfExp t' a' b' pos):=by
 intro m env lg μ Q X h s E I H hX
 refine gE ((ht _ _ _ _ _ _ h).then I H hX fun u mJ μ1 s1 x1 I1 H1 p1 k1 mQ=>?_)
 induction u with
 |true=>exact gQ (ha _ _ _ _ _ _ p1 _ _ I1 H1 mQ) (fun _ _ z=>k1 _ _ _ _ z) fun _ _ z=>z
 |false=>exact gQ (hb _ _ _ _ _ _ p1 _ _ I1 H1 mQ) (fun _ _ z=>k1 _ _ _ _ z) fun _ _ z=>z
theorem OP{x:Expr}(he:∀env A3,isTrue x env A3=(do let v <- A3;standAt x.pos;holding [v] (truthy v)))
  (hw:∀{Φ:Az} {env Q X μ},wt l9 Φ env a Q X μ->we l9 Φ env a (fun v μ'=>opt (D2 v) fun c=>Q c μ') X μ) (ha:S.SE a x):S.ST a x:=by
 intro m env lg μ Q X h s E I H hX
 refine wpAny_isTrue_value ((ha _ _ _ _ _ _ (hw h)).then I H hX fun u mJ μ1 s1 x1 I1 H1 p1 k1 mQ=>?_) (he _ _)
 obtain⟨uv,ru,q⟩:=p1
 obtain⟨c,hc,q⟩:=Aq q
 exact G0 ru hc (k1 _ _ _ _ (AH.here I1 q))
def my.SB(S:my)(op:BoolOp)(a:ME)(vs:List Expr):Prop:=∀m env lg μ Q X pos,we l9 S.Φ env a Q X μ->S.nR (boolOp pos op (evalEach vs S.e)) m env lg μ (PV S.base Q) X
def my.TB(S:my)(op:BoolOp)(a:ME)(vs:List Expr):Prop:=∀m env lg μ Q X,wt l9 S.Φ env a Q X μ->S.nR (allTrue op vs S.e) m env lg μ (PB Q) X
theorem V1(ha:S.SE a x):S.SB op a [x]:=fun m env lg μ Q X pos h=>ha m env lg μ Q X h
theorem Wn(ha:S.ST a x):S.TB op a [x]:=by
 intro m env lg μ Q X h s E I H hX
 induction op with
 |And=>
  refine lN ((ha _ _ _ _ _ _ h).then I H hX fun u mJ μ1 s1 x1 I1 H1 p1 k1 mQ=>?_)
  cases u with
  |true=>exact wpAny_allTrue_And_nil (k1 _ _ _ _ (AH.here I1 p1))
  |false=>exact k1 _ _ _ _ (AH.here I1 p1)
 |Or=>
  refine lP ((ha _ _ _ _ _ _ h).then I H hX fun u mJ μ1 s1 x1 I1 H1 p1 k1 mQ=>?_)
  cases u with
  |true=>exact k1 _ _ _ _ (AH.here I1 p1)
  |false=>exact wpAny_allTrue_Or_nil (k1 _ _ _ _ (AH.here I1 p1))
theorem V0(ha:S.SE a x)(hb:S.SB .And b (y :: r)):S.SB .And (.and a b) (x :: y :: r):=by
 intro m env lg μ Q X pos h s E I H hX
 refine gE ((ha _ _ _ _ _ _ h).then I H hX fun u mJ μ1 s1 x1 I1 H1 p1 k1 mQ=>?_)
 obtain⟨uv,ru,q⟩:=p1
 obtain⟨c,hc,q⟩:=Aq q
 refine gE (ic (gE (ie (G0 ru hc ?_))))
 induction c with
 |false=>exact gV (k1 _ _ _ _ (AH.here I1 ⟨uv,ru,q⟩))
 |true=>exact gQ (hb _ _ _ _ _ _ _ q _ _ I1 H1 mQ) (fun _ _ z=>k1 _ _ _ _ z) fun _ _ z=>z
theorem Z2(ha:S.SE a x)(hb:S.SB .Or b (y :: r)):S.SB .Or (.or a b) (x :: y :: r):=by
 intro m env lg μ Q X pos h s E I H hX
 refine gE ((ha _ _ _ _ _ _ h).then I H hX fun u mJ μ1 s1 x1 I1 H1 p1 k1 mQ=>?_)
 obtain⟨uv,ru,q⟩:=p1
 obtain⟨c,hc,q⟩:=Aq q
 refine gE (ic (gE (ie (G0 ru hc ?_))))
 induction c with
 |true=>exact gV (k1 _ _ _ _ (AH.here I1 ⟨uv,ru,q⟩))
 |false=>exact gQ (hb _ _ _ _ _ _ _ q _ _ I1 H1 mQ) (fun _ _ z=>k1 _ _ _ _ z) fun _ _ z=>z
theorem Wm(ha:S.ST a x)(hb:S.TB .And b (y :: r)):S.TB .And (.and a b) (x :: y :: r):=by
 intro m env lg μ Q X h s E I H hX
 refine lN ((ha _ _ _ _ _ _ h).then I H hX fun u mJ μ1 s1 x1 I1 H1 p1 k1 mQ=>?_)
 induction u with
 |true=>exact gQ (hb _ _ _ _ _ _ p1 _ _ I1 H1 mQ) (fun _ _ z=>k1 _ _ _ _ z) fun _ _ z=>z
 |false=>exact k1 _ _ _ _ (AH.here I1 p1)
theorem Z5(ha:S.ST a x)(hb:S.TB .Or b (y :: r)):S.TB .Or (.or a b) (x :: y :: r):=by
 intro m env lg μ Q X h s E I H hX
 refine lP ((ha _ _ _ _ _ _ h).then I H hX fun u mJ μ1 s1 x1 I1 H1 p1 k1 mQ=>?_)
 induction u with
 |true=>exact k1 _ _ _ _ (AH.here I1 p1)
 |false=>exact gQ (hb _ _ _ _ _ _ p1 _ _ I1 H1 mQ) (fun _ _ z=>k1 _ _ _ _ z) fun _ _ z=>z
theorem LK(h:S.SB op a vs):S.SE a (.BoolOp op vs pos):=fun m env lg μ Q X q=>h m env lg μ Q X pos q
theorem LP(h:S.TB op a vs):S.ST a (.BoolOp op vs pos):=by
 intro m env lg μ Q X q s E I H hX
 exact wpAny_isTrue_BoolOp (h m env lg μ Q X q s E I H hX)
theorem cV:S.SL .nil []:=by
 intro m env lg μ Q X h s E I H hX
 exact kY (AH.here I ⟨[],.nil,show Q [] μ from h⟩)
theorem Y6(ha:S.SE a x)(hr:S.SL r xs):S.SL (.cons a r) (x :: xs):=by
 intro m env lg μ Q X h s E I H hX
 refine j2 ((ha _ _ _ _ _ _ h).then I H hX fun u mJ μ1 s1 x1 I1 H1 p1 k1 mQ=>?_)
 obtain⟨uv,ru,q⟩:=p1
 refine(hr _ _ _ _ _ _ q).then I1 H1 mQ fun v m5 μ2 s2 x2 I2 H2 p2 k2 pv=>?_
 obtain⟨vs,rv,q⟩:=p2
 exact k1 _ _ _ _ (k2 _ _ _ _ (AH.here I2 ⟨_,.cons (ru.mono x2) rv,q⟩))
theorem Bf(xs:List Expr)(e:Env)(pos:Pos)(h:xs.all (fun x=>!EA x)=true):backTo pos (starEach xs e)=xs.map fun x=>(false,eval x e):=by
 induction xs with
 |nil=>rfl
 |cons x r ih=>
  have h:=BW h
  have e1:starEach (x :: r) e=(false,eval x e) :: starEach r e:=by
   have h1:=h.1
   clear h ih
   induction x using Expr.casesOn<;>first|rfl|exact nomatch h1
  refine e1.symm▸?_
  show(false,_) :: backTo pos (starEach r e)=_
  refine(ih h.2).symm▸?_;rfl
theorem YW{xs:List Expr}(hs:xs.all (fun x=>!EA x)=true)(ha:S.SL a xs):S.SE (.list a) (.List xs pos):=by
 intro m env lg μ Q X h s E I H hX
 (rewrite[arm_eval_List];refine(Bf xs S.e pos hs).symm▸?_)
 refine gE (ic (gE ((ha _ _ _ _ _ _ h).then I H hX fun u mJ μ1 s1 x1 I1 H1 p1 k1 mQ=>?_)))
 obtain⟨vs,rv,q⟩:=p1
 have hl:=(Ai q).1;have q:=(Ai q).2
 exact gQ (SO I1 rv hl q) (fun _ _ z=>k1 _ _ _ _ z) fun _ _ z=>z
theorem cU{xs:List Expr}(hs:xs.all (fun x=>!EA x)=true)(ha:S.SL a xs):S.SE (.tup a) (.Tuple xs k pos):=by
 intro m env lg μ Q X h s E I H hX
 (rewrite[arm_eval_Tuple];refine(Bf xs S.e pos hs).symm▸?_)
 refine gE (ic (gE ((ha _ _ _ _ _ _ h).then I H hX fun u mJ μ1 s1 x1 I1 H1 p1 k1 mQ=>?_)))
 obtain⟨vs,rv,q⟩:=p1
 have hl:=(Ai q).1;have q:=(Ai q).2
 exact gQ (QH I1 rv hl q) (fun _ _ z=>k1 _ _ _ _ z) fun _ _ z=>z
theorem QS(h:Ji o=true):attributeBase o a env w=w:=by
 induction o using Expr.casesOn with
 |Call f as kw p=>induction f using Expr.casesOn with
  |Name x p=>induction as using List.casesOn with
   |cons _ _=>rfl
   |nil=>induction kw using List.casesOn with
    |cons _ _=>rfl
    |nil=>exact nomatch h
  |_=>rfl
 |_=>rfl
theorem YQ(G:Bi S FA j)(hn:n=nm a)(ha:a∈EJ)(hb:Ji o'=true)(ho:S.SE o o'):S.SE (.attr o a) (.Attribute o' n pos):=by
 intro m env lg μ Q X h s E I H hX
 subst hn
 rw[arm_eval_Attribute,QS hb]
 refine gE ((ho _ _ _ _ _ _ h).then I H hX fun u mJ μ1 s1 x1 I1 H1 p1 k1 mQ=>?_)
 obtain⟨uv,ru,q⟩:=p1
 obtain⟨v,hv,q⟩:=Aq q
 refine gE (ic (gE (ie (gQ (QR G.base.cls G.base.qd I1 ru ha hv q) (fun r s2 z=>?_) fun _ _ z=>z))))
 exact gE (wpAny_letTemporaryGo (gV (k1 _ _ _ _ z)))
theorem Ko(h:FB i'=true):subscripted i' false o i=operate [o,i] (getItem o i):=by
 induction i' using Expr.casesOn<;>first|rfl|exact nomatch h
theorem cT(hs:FB i'=true)(ho:S.SE o o')(hi:S.SE i i'):S.SE (.sub o i) (.Subscript o' i' pos):=by
 intro m env lg μ Q X h s E I H hX
 refine Subscript_ ((ho _ _ _ _ _ _ h).then I H hX fun u mJ μ1 s1 x1 I1 H1 p1 k1 mQ=>?_)
 obtain⟨uv,ru,q⟩:=p1
 refine(hi _ _ _ _ _ _ q).then I1 H1 mQ fun v m5 μ2 s2 x2 I2 H2 p2 k2 pv=>?_
 obtain⟨vv,rv,q⟩:=p2
 obtain⟨z,hz,q⟩:=Aq q
 rw[IN]at hz
 have it:=Wh (prog:=S.pg) (w:=S.w) (A:=S.A) (E:=E) I2 (ru.mono x2) rv hz q
 exact RV ⟨it.how,gQ it.rZ (fun _ _ z=>k1 _ _ _ _ (k2 _ _ _ _ z)) fun _ _ z=>z⟩ (Ko hs)
def my.pz(S:my)(a:ME)(x:Option Expr):Prop:=∀m env lg μ Q X,we l9 S.Φ env a Q X μ->S.nR (evalPart x S.e) m env lg μ (PV S.base Q) X
theorem Qu:S.pz .none none:=by
 intro m env lg μ Q X h s E I H hX
 exact gV (AH.here I ⟨_,.none,show Q .none μ from h⟩)
theorem Qv(h:S.SE a x):S.pz a (some x):=h
theorem V3{o lo hi:ME}{o':Expr}{tp qD:Option Expr}{p pos:Pos}(ho:S.SE o o')(qc:S.pz lo tp)(qo:S.pz hi qD):S.SE (.slice o lo hi) (.Subscript o' (.Slice tp qD none p) pos):=by
 intro m env lg μ Q X h s E I H hX
 refine Subscript_ ((ho _ _ _ _ _ _ h).then I H hX fun u mJ μ1 s1 x1 I1 H1 p1 k1 mQ=>?_)
 obtain⟨uv,ru,q⟩:=p1
 refine wpAny_Slice ((qc _ _ _ _ _ _ q).then I1 H1 mQ fun v m5 μ2 s2 x2 I2 H2 p2 k2 pv=>?_)
 obtain⟨vv,rv,q⟩:=p2
 refine(qo _ _ _ _ _ _ q).then I2 H2 pv fun w py μ3 s3 x3 I3 H3 p3 k3 sT=>?_
 obtain⟨wv,oO,q⟩:=p3
 refine gV ?_
 have it:=V6 (prog:=S.pg) (w:=S.w) (A:=S.A) (E:=E) I3 ((ru.mono x2).mono x3) (rv.mono x3) oO q
 exact RV (ops:=[.ref s3.heap.objs.size,u]) ⟨it.how,gQ it.rZ (fun _ _ z=>k1 _ _ _ _ (k2 _ _ _ _ (k3 _ _ _ _ z))) fun _ _ z=>z⟩ rfl
end
section
variable{S:my}{FA:Nat->Addr}{j:Nat}
theorem D0(xs:List Expr)(e:Env):(xs.map fun x=>((false,eval x e):Bool×Sem Value)).any (·.1)=false:=by
 induction xs with
 |nil=>rfl
 |cons x r ih=>assumption
theorem MN(xs:List Expr)(e:Env):(xs.map fun x=>((false,eval x e):Bool×Sem Value)).all (fun x=>!x.1)=true:=by
 induction xs with
 |nil=>rfl
 |cons x r ih=>assumption
theorem Gq{E:Value->Shared->Prop}{xs:List Expr}{e:Env}{Q:Args->Shared->Prop}
  (h:wpAny M A (spliced (xs.map fun x=>(false,eval x e))) (fun vs s'=>Q ⟨vs,[]⟩ s') E s):wpAny M A (evalArgs f true (xs.map fun x=>(false,eval x e)) []) Q E s:=by
 induction xs using List.casesOn with
 |cons x r=>exact Calls.evalArgs_plain h
 |nil=>
  refine gE (gQ h (fun vs s' h'=>?_) fun _ _ x=>x)
  refine gE (gV ?_)
  refine ie ?_
  exact gE (gV (gE (gV (gV h'))))
theorem Inv.su{A:Around}{base:Heap}{K:Frag}{e:Env}{m:Str->Option Value}{fr:List oq}{env:An}{lg:Lg}{μ:MH}{h:Heap}(I:Inv base K e m fr env lg μ h)(H:HL A base lg):oD A h:=
 H.imp id fun nV=>by obtain⟨a,o,arr,e,k,r⟩:=nV;exact⟨a,o,arr,e,I.kn k,r⟩
theorem YR{xs:List Expr}(G:Bi S FA j)(hf:Om f=true)(hn:n=nm f)(hg:S.sc.lookup n=some .globalImplicit)(hd:(n==("__debug__":Str))=false)
  (hs:xs.all (fun x=>!EA x)=true) (ha:S.SL as xs):S.SE (.call f as) (.Call (.Name n p) xs [] pos):=by
 intro m env lg μ Q X h s E I H hX
 subst hn
 obtain⟨mg,mb,n1,n2,n3,n4,_⟩:=G.base.names
 have hw:=(n4 f hf).1;have hk:=(n4 f hf).2
 refine Call_Name rfl (iH G.env.kind (G.env.l9 _ hg) (jD (by refine G.env.globals.symm▸?_;exact CO n1 I.old) hw ?_) hd)
 have calls:=G.calls S.e S.fr S.sc G.frames
 refine callWith_of (by rw[Bf _ _ _ hs,D0];rfl) (keeps_K hk) ?_
 refine(Bf _ _ _ hs).symm▸?_
 refine Gq ((ha _ _ _ _ _ _ h).then I H hX fun u mJ μ1 s1 x1 I1 H1 p1 k1 mQ=>?_)
 obtain⟨vs,rv,q⟩:=p1
 exact⟨G.base.qd.keeps I1.old,gQ (calls f vs u hf m env mJ μ1 Q X rv q s1 E I1 H1 mQ) (fun _ _ z=>k1 _ _ _ _ z) fun _ _ z=>z⟩
theorem cM{xs:List Expr}(G:Bi S FA j)(hf:f<5)(hn:n=Str.ofString (HR f))(hg:S.sc.lookup n=some .globalImplicit)(hd:(n==("__debug__":Str))=false)
  (hs:xs.all (fun x=>!EA x)=true) (ha:S.SL as xs):S.SE (.blt f as) (.Call (.Name n p) xs [] pos):=by
 intro m env lg μ Q X h s E I H hX
 subst hn
 obtain⟨mg,mb,n1,n2,n3,n4,n5,_⟩:=G.base.names
 obtain⟨hw,hk⟩:=n5 f hf
 refine Call_Name rfl (iH G.env.kind (G.env.l9 _ hg) (lA (by rw[G.env.globals];exact CO n1 I.old) hw (by rw[G.env.builtins];exact CO n2 I.old) hk ?_) hd)
 have hp:(backTo pos (starEach xs S.e)).any (·.1)=false:=by rw[Bf _ _ _ hs,D0]
 have fin:∀{f':Value},f'=Jm f->wpAny S.M S.A (evalArgs f' true (backTo pos (starEach xs S.e)) []) (fun a s₁=>wpAny S.M S.A (call f' ([]++a.pos) a.kw) (S.P m env lg s (PV S.base Q)) E s₁) E s:=by
  intro f' pJ
  subst pJ
  rw[Bf _ _ _ hs]
  refine Gq ((ha _ _ _ _ _ _ h).then I H hX fun u mJ μ1 s1 x1 I1 H1 p1 k1 mQ=>?_)
  obtain⟨vs,rv,q⟩:=p1
  exact gQ (aq (I1.su H1.hl) I1 rv q) (fun _ _ z=>k1 _ _ _ _ z) fun _ _ z=>z
 have hfs:f=0\/f=1\/f=2\/f=3\/f=4:=by lia
 rcases hfs with rfl|rfl|rfl|rfl|rfl
 ·exact jo hp (fin rfl)
 ·exact jo hp (fin rfl)
 ·exact jo hp (fin rfl)
 ·exact lq hp (fin rfl)
 ·exact lq hp (fin rfl)
theorem Tj:∀f,f<5->∃T,(T="list"\/T="str")/\(T="list"↔f<2)/\PlainAttrs T/\Slot T (Str.ofString (P0 f)) (ID f)/\typeOf (.builtin (ID f))=pure (.type "method_descriptor")
 |0,_=>⟨"list",.inl rfl,by decide,F.plainAttrs_list,F.slot_list_append,F.type_list_append⟩
 |1,_=>⟨"list",.inl rfl,by decide,F.plainAttrs_list,F.slot_list_pop,F.type_list_pop⟩
 |2,_=>⟨"str",.inr rfl,by decide,k9,F.slot_str_find,F.type_str_find⟩
 |3,_=>⟨"str",.inr rfl,by decide,k9,F.slot_str_lower,F.type_str_lower⟩
 |4,_=>⟨"str",.inr rfl,by decide,k9,F.slot_str_join,F.type_str_join⟩
theorem YX{xs:List Expr}{apos pos:Pos}(hf:f<5)(hb:Ji o'=true)(hl:(apos.endLine==pos.line)=true)(hlen:xs.length<20)(hn:n=Str.ofString (P0 f))
  (hs:xs.all (fun x=>!EA x)=true) (ho:S.SE o o') (ha:S.SL as xs):S.SE (.mG o f as) (.Call (.Attribute o' n apos) xs [] pos):=by
 intro m env lg μ Q X h s E I H hX
 subst hn
 refine wpAny_Call_method_lateS (QS hb) ?_ hl ((ho _ _ _ _ _ _ h).then I H hX fun u mJ μ1 s1 x1 I1 H1 p1 k1 mQ=>?_)
 ·rw[Bf _ _ _ hs,MN]
  exact gG (show xs.length+0+0<30 from iB hlen (by decide))
 obtain⟨uv,ru,q⟩:=p1
 have ov:=(A6 q).1;have q:=(A6 q).2
 obtain⟨T,hT,hTf,pa,slot,ty⟩:=Tj f hf
 have typed:s1.TypeIs u T/\∀a,u=.ref a->∃ob,s1.heap.get? a=some ob/\ob.dict=none:=by
  induction uv using V.casesOn with
  |l8 n=>
   have ov:(decide (f<2)&&(By μ1 n).isSome)=true:=ov
   rw[gP,hV]at ov
   obtain⟨r9,hm⟩:=Option.isSome_iff_exists.mp ov.2
   obtain⟨p,d,rfl,hr⟩:=ru.mI
   obtain⟨vs,k,hg,rfl,_⟩:=Co I1 hr (Ba hm)
   rw[hTf.mpr ov.1]
   exact⟨(A9 hg).typeIs,fun a e=>by cases e;exact⟨_,hg,rfl⟩⟩
  |str z=>
   have ov:(decide (2<=f)&&decide (f<5))=true:=ov
   rw[gP,hV]at ov
   obtain⟨⟨t,rfl⟩,_⟩:=ru.mt
   have:T="str":=hT.resolve_left fun e=>Nat.not_lt.mpr ov.1 (hTf.mp e)
   rw[this]
   exact⟨typeIs_str _ _ _,fun a e=>by cases e⟩
  |_=>exact De ov
 refine⟨T,ID f,pa,slot,ty,typed.1,typed.2,jo (by rw[Bf _ _ _ hs,D0]) ?_⟩
 refine(Bf _ _ _ hs).symm▸?_
 refine Gq ((ha _ _ _ _ _ _ q).then I1 H1 mQ fun v m5 μ2 s2 x2 I2 H2 p2 k2 pv=>?_)
 obtain⟨vs,rv,q⟩:=p2
 exact gQ (Rv I2 (ru.mono x2) rv q) (fun _ _ z=>k1 _ _ _ _ (k2 _ _ _ _ z)) fun _ _ z=>z
end
section
variable{prog:Program}{w:World}{A:Around}{E:Value->Shared->Prop}
variable{base:Heap}{K:Frag}{e:Env}{m:Str->Option Value}{fr:List oq}{env:An}{lg:Lg}{μ:MH}{s:Shared}{h:Heap}
theorem Rn{h:Heap}{ob:Obj}(I:Inv base K e m fr env lg μ h)(hf:ob.isFreed=false)(ho:Gn base K ((lg.put h.objs.size ob).l8 h.objs.size h.objs.size) h.objs.size h.objs.size o) :
  ∃ma,Inv base K e m fr env ma (μ++[o]) (h.push ob)/\Ext lg ma/\ma.mE[μ.length]?=some (h.objs.size,h.objs.size)/\∀a p,lg.led a=some p->ma.led a=some p:=by
 have I1:=I.add (h':=h.push ob) (a:=h.objs.size) (o:=ob) (Bl h) (fun b p q=>gN ob q) (ia h hf)
 have x1:Ext lg (lg.put h.objs.size ob):=Ext.mP _ I.fresh
 have ph:∀p∈(lg.put h.objs.size ob).mE,p.2≠h.objs.size:=fun p hp z=>by
  obtain⟨rd,q,_⟩:=I.stores (p:=p) hp
  rw[z]at q
  exact absurd (hO (I.led _ _ q).1) (ip _)
 have o9:∀f∈fr,f.env.locals≠h.objs.size:=fun f pJ z=>by
  obtain⟨⟨ob,a1,_⟩,_⟩:=I.frames f pJ
  rw[z]at a1
  exact absurd (hO (I.led _ _ a1).1) (ip _)
 refine⟨_,I1.new ph o9 ho,x1.trans (Ext.l8 _ _),?_,fun a p q=>?_⟩
 rotate_left
 ·show(lg.put h.objs.size ob).led a=some p
  rw[Lg.mj];exact q
  rintro rfl;exact AM I.fresh q
 show(lg.mE++[(h.objs.size,h.objs.size)])[μ.length]?=_
 rw[<- I.heap.len,jd (gM _)]
 simp
inductive Kv(base:Heap)(lg:Lg):List (Int×V)->List (Value×Value)->Prop
 |nil:Kv base lg [] []
 |cons (i:Int) (v:V) (kv:List (Int×V)) (t:Tok) (z:Value) (l:List (Value×Value)) (r:Aw base lg v z) (h:Kv base lg kv l):Kv base lg ((i,v) :: kv) ((.int i t,z) :: l)
theorem Kv.mono(x:Ext lg ma)(h:Kv base lg kv l):Kv base ma kv l:=by
 induction h with
 |nil=>exact .nil
 |cons i v kv t z l r _ ih=>exact .cons i v kv t z l (r.mono x) ih
theorem Kv.length{kv:List (Int×V)}{l:List (Value×Value)}(h:Kv base lg kv l):kv.length=l.length:=by
 induction h with
 |nil=>rfl
 |cons i v kv t z l r _ ih=>exact congrArg Nat.succ ih
def Z8:List (Int×V)->Prop
 |[]=>True
 |(i,_) :: kv=>(∀p∈kv,p.1≠i)/\Z8 kv
theorem GA:∀{kv:List (Int×V)} {i:Int},(∀p∈kv,p.1≠i)->Bn kv i=none
 |[],_,_=>rfl
 |(k,v) :: kv,i,h=>by unfold Bn;rw[iO (h _ (.head _)),GA fun p hp=>h p (gH _ hp)]
theorem OQ(d:Addr):∀(l:List (Value×Value)) (kv:List (Int×V)) (s:Shared) (f:Int->Option Value) (n:Nat) (Q:PUnit->Shared->Prop),Kv base lg kv l->Z8 kv->s.heap.IntMap d f->s.heap.DictLe d n->n+l.length<=sizeLine->
  (∀h' tk g,Heap.SameBut d s.heap h'->h'.IntMap d g->h'.DictLe d (n+l.length)->(∀k,(Bn kv k=none/\g k=f k)\/∃v z,Bn kv k=some v/\g k=some z/\Aw base lg v z)->Q ⟨⟩ {s with heap:=h',toks:=tk})->
  wpAny (model prog w) A (storeAll d l) Q E s:=by
 intro l
 induction l with
 |nil=>
  intro kv s f n Q h _ hm hl _ hQ
  cases h
  exact gV (hQ s.heap s.toks f (Heap.SameBut.refl ..) hm (by exact hl) fun k=>.inl ⟨rfl,rfl⟩)
 |cons p l ih=>
  intro kv s f n Q h dd hm hl nF hQ
  cases h with
  |cons i v kv t z _ hv hr=>
   have e:storeAll d ((.int i t,z) :: l)=(dictSet d (.int i t) z >>= fun _=>storeAll d l):=by
    unfold storeAll
    rw[List.forIn_cons]
    simp only[bind_assoc,pure_bind]
   refine e.symm▸?_
   have hlen:n+(l.length+1)<=sizeLine:=nF
   refine gE (wpAny_dictSet_int_le hm hl (by exact mU (nI _ _ _) mu nM (.add mu (mD 1 1)) nM rfl hlen) fun h1 hm1 q8 qF=>?_)
   refine ih kv _ _ (n+1) Q hr dd.2 hm1 q8 (by exact mU (nI _ _ _) (.add (mD 0 1) mK) nM (.add mu (mD 1 1)) nM rfl hlen) fun h' tk g hs hg sY hk=>?_
   refine hQ h' tk g (qF.trans hs) hg (by refine List.length_cons.symm▸?_;rwa [show n+(l.length+1)=n+1+l.length by exact jN (qq5) (qq6)]) fun k=>?_
   rcases hk k with⟨q1,q2⟩|⟨v',z',q1,q2,q3⟩
   ·by_cases uP:i=k
    ·cases uP
     exact .inr ⟨v,z,by unfold Bn;exact(iP rfl),by refine q2.symm▸?_;simp,hv⟩
    ·exact .inl ⟨by unfold Bn;refine(iO uP).symm▸?_;exact q1,by refine q2.symm▸?_;simp[iQ uP]⟩
   ·refine .inr ⟨v',z',?_,q2,q3⟩
    unfold Bn
    rw[iO]
    ·exact q1
    ·rintro rfl
     exact AM (GA dd.1) q1
end
theorem UL(h:ZP a kv=some i):a=.int i/\∀p∈kv,p.1≠i:=by
 induction a using V.casesOn with
 |int j=>
  have h:(match kv.all fun p=>decide (p.1≠j)with|true=>some j|false=>none)=some i:=h
  revert h
  cases q:kv.all fun p=>decide (p.1≠j) with
  |true=>
   intro h;obtain rfl:=Option.some.inj h
   rw[io]at q
   exact⟨rfl,fun p hp=>gO (q p hp)⟩
  |false=>intro h;exact Ao h
 |_=>exact Ao h
theorem PG(h:PE o=true):o=some (.dict []):=by
 induction o with
 |none=>exact De h
 |some o=>induction o with
  |dict kv=>induction kv using List.casesOn with
   |nil=>rfl
   |cons _ _=>exact De h
  |_=>exact De h
section
variable{S:my}{FA:Nat->Addr}{j:Nat}
def PD(base:Heap)(Q:List (Int×V)->MH->Prop)(lg:Lg)(μ:MH)(l:List (Value×Value)):Prop:=∃kv,Kv base lg kv l/\Z8 kv/\Q kv μ
def my.SD(S:my)(a:ME)(ks:List (Option Expr))(vs:List Expr):Prop:=∀m env lg μ Q X pos,wd l9 S.Φ env a Q X μ->S.nR (evalPairs (pairTrees ks vs S.e pos)) m env lg μ (PD S.base Q) X
theorem cK:S.SD .nil [] []:=by
 intro m env lg μ Q X pos h s E I H hX
 exact pairTrees_nil_walk (AH.here I ⟨[],.nil,trivial,show Q [] μ from h⟩)
theorem YO(hk:S.SE k k')(hv:S.SE v v')(hr:S.SD r ks vs):S.SD (.cons (.cons k v) r) (some k' :: ks) (v' :: vs):=by
 intro m env lg μ Q X pos h s E I H hX
 refine pairTrees_cons_walk ((hk _ _ _ _ _ _ h).then I H hX fun a mJ μ1 s1 x1 I1 H1 p1 k1 mQ=>?_)
 obtain⟨av,ra,q⟩:=p1
 refine(hv _ _ _ _ _ _ q).then I1 H1 mQ fun b m5 μ2 s2 x2 I2 H2 p2 k2 pv=>?_
 obtain⟨bv,rb,q⟩:=p2
 refine(hr _ _ _ _ _ _ _ q).then I2 H2 pv fun l py μ3 s3 x3 I3 H3 p3 k3 sT=>?_
 obtain⟨kv,dl,dd,q'⟩:=p3
 obtain⟨i,hi,q''⟩:=Aq q'
 obtain⟨rfl,ne⟩:=UL hi
 obtain⟨t,rfl⟩:=ra.mn
 exact k1 _ _ _ _ (k2 _ _ _ _ (k3 _ _ _ _ (AH.here I3 ⟨(i,bv) :: kv,.cons _ _ _ t _ _ (rb.mono x3) dl,⟨ne,dd⟩,q''⟩)))
theorem YU{ks:List (Option Expr)}{vs:List Expr}(h0:ks≠[])(hlen:ks.length<=15)(rF:ks.all (·.isSome)=true)(hl:ks.length=vs.length)(ha:S.SD a ks vs):S.SE (.dict a) (.Dict ks vs pos):=by
 intro m env lg μ Q X h s E I H hX
 refine wpAny_Dict_any rF hl h0 hlen ?_
 obtain⟨lg0,I0,x0,r0,_⟩:=Rn (o:=.dict []) (ob:={cls:=.type "dict",data:=.dict #[]}) I rfl ⟨rfl,_,Lg.mm ..,rfl,#[],0,rfl,(fun _ he=>by simp at he),gM 0,fun k=>.inl ⟨rfl,rfl⟩⟩
 refine(ha _ _ _ _ _ _ pos h).then (s:={s with heap:=s.heap.push {cls:=.type "dict",data:=.dict #[]}}) I0 (H.mono x0) (fun v s' z=>hX v s' (EP.trans (tk:=s.toks) x0 z)) fun l mJ μ1 s1 x1 I1 H1 p1 k1 mQ=>?_
 obtain⟨kv,dl,dd,q⟩:=p1
 have hμ:=(A6 q).1;have q:=(A6 q).2
 have hμ:=PG hμ
 have hkl:=(Ai q).1;have q:=(Ai q).2
 have r1:=x1.mE _ _ r0
 obtain⟨f,hf,hd,hle,_⟩:=Ok I1 r1 hμ
 have fn:∀k,f k=none:=fun k=>by
  rcases hd k with⟨_,z⟩|⟨v,w,z,_⟩
  ·exact z
  ·exact Ao z
 have rJ:=dl.length
 have sl:(15:Nat)<=sizeLine:=by decide
 refine OQ _ l kv s1 f 0 _ dl dd hf hle (by lia) fun h' tk g hs hg uQ hk=>?_
 obtain⟨o',es,ep,g1,g2,g3,g4,g5⟩:=hg
 obtain⟨a',d',z1,z2⟩:=I1.heap.each _ _ hμ
 replace z1:=r1▸z1;cases Option.some.inj z1
 obtain⟨_,ob,b1,b2,es0,k0,b3,_⟩:=z2
 have x2:Ext mJ (mJ.put s.heap.objs.size o'):=Ext.nY _ b1 (.inr ⟨_,_,b3⟩)
 have I2:=I1.turn (o:=.dict kv) r1 b1 (.inr ⟨_,_,b3⟩) hs g1 ⟨rfl,o',Lg.mm ..,g2,es,ep,g3,g4,by have:=uQ _ _ _ g1 g3;lia,fun k=>by
  rcases hk k with⟨q1,q2⟩|⟨v,z,q1,q2,q3⟩
  ·exact .inl ⟨q1,by(refine(g5 k).symm▸?_;rewrite[q2];rewrite[fn];rfl)⟩
  ·exact .inr ⟨v,z,q1,by(refine(g5 k).symm▸?_;refine q2.symm▸?_;rfl),q3.mono x2⟩⟩
 have fin:=k1 _ _ _ _ (AH.to (s:=s1) (tk:=tk) (P:=PV S.base Q) (a:=.ref s.heap.objs.size) I2 x2 ⟨_,.l8 _ _ s.heap.objs.size (x2.mE _ _ r1),q⟩)
 exact AH.trans (tk:=s.toks) x0 fin
end
section
variable{base:Heap}{K:Frag}{e:Env}{m m':Str->Option Value}{fr:List oq}{env:An}{lg:Lg}{μ:MH}{h h':Heap}
theorem Inv.keepsBut(I:Inv base K e m fr env lg μ h)(hb:base.get? C=none)(hl:lg.led C=none)(ne:e.locals≠C)(k:∀b o,b≠C->h.get? b=some o->h'.get? b=some o):Inv base K e m fr env lg μ h':=by
 refine{I with old:=fun b o q=>k b o (fun z=>by(rw[z]at q;replace q:=hb▸q);exact Ao q) (I.old b o q),ns:=?_,led:=fun a o q=>⟨k a o (fun z=>by(rw[z]at q;replace q:=hl▸q);exact Ao q) (I.led a o q).1,(I.led a o q).2⟩}
 obtain⟨on,es,ep,q1,q2⟩:=I.ns
 exact⟨on,es,ep,k _ _ ne q1,q2⟩
theorem Inv.qu(I:Inv base K e m fr env lg μ h)(hx:x<Bg.length)(hk:e.kindOf (nm x)=some .local)(hv:Aw base lg v z)
  (hn:h'.Ns e.locals (fun y=>if y=nm x then some z else m y)) (hs:Heap.SameBut e.locals h h'):Inv base K e (fun y=>if y=nm x then some z else m y) fr (Ad env x v) lg μ h':=by
 have k:∀b o,b≠e.locals->h.get? b=some o->h'.get? b=some o:=fun b o n q=>(hs.2 b n).trans q
 refine{I with old:=fun b o q=>k b o (fun y=>by(rw[y]at q;replace q:=I.nN▸q);exact Ao q) (I.old b o q),ns:=hn,led:=fun a o q=>⟨k a o (fun y=>by(rw[y]at q;replace q:=I.mN▸q);exact Ao q) (I.led a o q).1,(I.led a o q).2⟩,vars:=fun y u q ss=>?_}
 unfold Ad at q
 split at q
 ·rename_i e'
  subst e';obtain rfl:=Option.some.inj q
  exact⟨hx,.inl ⟨hk,z,by simp,hv⟩⟩
 ·rename_i ne
  have hy:=(I.vars y u q ss).1;have u3:=(I.vars y u q ss).2
  refine⟨hy,u3.imp (fun⟨a,w,b,c⟩=>⟨a,w,?_,c⟩) id⟩
  show(if nm y=nm x then some z else m (nm y))=some w
  exact(iO fun q=>ne (Hz hy hx q)).trans (b)
theorem Inv.setCell(I:Inv base K e m fr env lg μ h)(hx:x<Bg.length)(hk:e.kindOf (nm x)=some .cell)(hc:e.cells.lookup (nm x)=some ca)
  (hl:lg.led ca=some o) (ho:Da o) (apart:∀f∈fr,f.cells ca=none) (inj:∀n n' ca,e.cells.lookup n=some ca->e.cells.lookup n'=some ca->n=n') (hv:Aw base lg v z) {o':Obj}
  (g:h'.get? ca=some o') (d:o'.data=.cell (some z)) (hs:Heap.SameBut ca h h'):Inv base K e m fr (Ad env x v) (lg.put ca o') μ h'/\Ext lg (lg.put ca o'):=by
 have hb:=(I.led _ _ hl).2
 have nL:e.locals≠ca:=by rintro rfl;exact AM I.mN hl
 have ne:∀b p,¬Da p->lg.led b=some p->b≠ca:=fun b p n q y=>by(rw[y]at q;replace q:=hl▸q);obtain rfl:=Option.some.inj q;exact n ho
 have k:∀b p,b≠ca->h.get? b=some p->h'.get? b=some p:=fun b p n q=>(hs.2 b n).trans q
 have x1:Ext lg (lg.put ca o'):=by
  refine⟨fun b p i q=>?_,fun b p c q=>?_,fun _ _ q=>q⟩
  ·exact(Lg.mj _ _ (ne b p (fun nV=>by obtain⟨v,c⟩:=nV;exact i.2.2 v c) q)).trans (q)
  ·by_cases y:b=ca
   ·subst y;exact⟨o',⟨_,d⟩,Lg.mm ..⟩
   ·exact⟨p,c,by exact(Lg.mj _ _ y).trans (q)⟩
 refine⟨⟨fun b p q=>k b p (fun y=>by(rw[y]at q;replace q:=hb▸q);exact Ao q) (I.old b p q),?_,I.nN,by refine(Lg.mj _ _ nL).symm▸?_;exact I.mN,fun b p q=>?_,fun f hf=>?_,I.dist,I.apart,fun y u q ss=>?_,I.heap.len,I.heap.nodup,fun n p q=>?_⟩,x1⟩
 ·obtain⟨on,es,ep,q1,q2⟩:=I.ns
  exact⟨on,es,ep,k _ _ nL q1,q2⟩
 ·by_cases y:b=ca
  ·subst y;rw[Lg.mm]at q;obtain rfl:=Option.some.inj q;exact⟨g,hb⟩
  ·replace q:=(Lg.mj _ _ y)▸q;exact⟨k b p y (I.led b p q).1,(I.led b p q).2⟩
 ·obtain⟨⟨p,a1,a2⟩,a3⟩:=I.frames f hf
  refine⟨⟨p,?_,a2⟩,fun c q y=>⟨?_,(a3 c q y).2⟩⟩
  ·rw[Lg.mj _ _ (ne _ _ (fun⟨v,c⟩=>by obtain⟨es,ep,dd,_⟩:=a2;replace c:=dd▸c;exact nomatch c) a1)];exact a1
  ·rw[Lg.mj];exact(a3 c q y).1
   rintro rfl;exact AM (apart f hf) y
 ·unfold Ad at q
  split at q
  ·rename_i e'
   subst e';obtain rfl:=Option.some.inj q
   exact⟨hx,.inr ⟨hk,ca,o',z,hc,Lg.mm ..,d,hv.mono x1⟩⟩
  ·rename_i nxy
   have hy:=(I.vars y u q ss).1;have u3:=(I.vars y u q ss).2
   refine⟨hy,u3.imp (fun⟨a,w,b,c⟩=>⟨a,w,b,c.mono x1⟩) fun⟨a,cb,p,w,b1,b2,b3,b4⟩=>⟨a,cb,p,w,b1,?_,b3,b4.mono x1⟩⟩
   rw[Lg.mj];exact b2
   rintro rfl
   exact nxy (Hz hy hx (inj _ _ _ b1 hc))
 ·obtain⟨a',dd,a1,a2⟩:=I.heap.each n p q
  refine⟨a',dd,a1,a2.mono x1 fun ob y=>?_⟩
  obtain⟨rd,y',n'⟩:=a2.nZ
  obtain⟨vg,y2,sto⟩:∃vg,lg.led dd=some vg/\sj vg:=by
   induction p with
   |list xs=>obtain⟨_,_,_,_,z1,_⟩:=a2;exact⟨_,z1,.inl ⟨rfl,_,_,rfl⟩⟩
   |inst c fs=>obtain⟨_,_,_,_,_,es,k,z1,_⟩:=a2;exact⟨_,z1,.inr ⟨_,_,rfl⟩⟩
   |dict kv=>obtain⟨_,ob,z1,_,es,k,z3,_⟩:=a2;exact⟨ob,z1,.inr ⟨_,_,z3⟩⟩
  exact(Lg.mj _ _ (ne _ _ (fun c=>sto.ox c) y2)).trans (y)
end
section
variable{S:my}{FA:Nat->Addr}{j:Nat}{m:Str->Option Value}{env:An}{lg:Lg}{μ:MH}
inductive IT(S:my)(env':An)(lg:Lg)(μ:MH)(s s':Shared):Prop
 |mk (h':Heap) (tk:Nat) (ma:Lg) (m':Str->Option Value) (e1:s'={s with heap:=h',toks:=tk}) (I:Inv S.base S.K S.e m' S.fr env' ma μ h') (x:Ext lg ma) (n:∀b,lg.led b=none->ma.led b=none) (kp:∀b o,b≠S.e.locals->lg.led b=none->s.heap.get? b=some o->h'.get? b=some o)
theorem OR{s:Shared}{E:Value->Shared->Prop}(G:Bi S FA j)(hx:x<Bg.length)(hs:S.sc.lookup (nm x)=some .local\/S.sc.lookup (nm x)=some .cell)(I:S.I m env lg μ s.heap)(H:S.H lg)(hv:Aw S.base lg v z) :
  wpAny S.M S.A (storeName S.e (nm x) z) (fun _ s'=>IT S (Ad env x v) lg μ s s') E s:=by
 rcases hs with hs|hs
 ·have hk:=G.env.l8 _ hs
  refine wpAny_storeName_local hk I.ns (fun h' hn rL=>?_) (by refine G.env.kind.symm▸?_;rfl)
  exact⟨h',_,lg,_,rfl,I.qu hx hk hv hn rL,Ext.refl _,fun _ q=>q,fun b o n _ q=>(rL.2 b n).trans q⟩
 ·have hk:=G.env.cell _ (.inl hs)
  obtain⟨ca,o,hc,co,hl⟩:=H.own.led _ (.inl hs)
  obtain⟨v0,hd⟩:=id co
  refine wpAny_storeName_cell G.env.kind hk hc (Lo (I.led _ _ hl).1 hd) fun h' sU rL=>?_
  obtain⟨o',g,d⟩:=sU
  obtain⟨I',x'⟩:=I.setCell hx hk hc hl co (fun f hf=>H.own.apart _ _ hs hc f hf) H.own.inj hv g d rL
  have nc:∀b,lg.led b=none->b≠ca:=fun b q y=>by(replace q:=y▸q;replace q:=hl▸q);exact Ry q
  exact⟨h',s.toks,_,m,rfl,I',x',fun b q=>by rw[Lg.mj _ _ (nc b q)];exact q,fun b o _ q y=>(rL.2 b (nc b q)).trans y⟩
theorem Ck{s:Shared}{E:Value->Shared->Prop}(G:Bi S FA j)(hn:n=nm x)(hx:x<Bg.length)(hs:S.sc.lookup n=some .local\/S.sc.lookup n=some .cell)(I:S.I m env lg μ s.heap)(H:S.H lg)(hv:Aw S.base lg v z) :
  wpAny S.M S.A (assign (.Name n p) S.e z) (fun _ s'=>IT S (Ad env x v) lg μ s s') E s:=by
 subst hn
 exact wpAny_assign_Name (OR G hx hs I H hv)
theorem Tt{items:Array Value}{s:Shared}{E:Value->Shared->Prop}{Q:List Value->Shared->Prop}{pg:Program}{w:World}(H:oD A s.heap)(ht:s.heap.IsTuple t items)
  (hQ:∀h',Heap.ExtBut s.heap.objs.size s.heap h'->Q items.toList {s with heap:=h'}):wpAny (model pg w) A (unpackItems (.ref t) items.size none) Q E s:=by
 have oZ:t≠s.heap.objs.size:=by obtain⟨o,ho,_⟩:=ht;exact i6 (hO ho)
 have ni:s.heap.objs.size∉oM A:=fun hm=>ip _ (H.lt _ hm)
 refine gE ?_
 refine gE (wpAny_specialOf ht.typeIs F.slot_tuple_iter.lookup ?_)
 refine gV ?_
 refine gE (ie (kM ht ?_))
 refine gE (ie (wpAny_draw_tuple oZ items.size 0 _ _ ⟨_,ia _ rfl,rfl,rfl⟩ (ht.push _) (by exact qg (mz _) (.add (.num 0) mu) mu rfl) fun h₁ uN qQ=>?_))
 have rF:List.take items.size (List.drop 0 items.toList)=items.toList:=by
  refine List.drop_zero.symm▸?_;exact jH (by simp)
 refine rF.symm▸?_
 rw[iO (by simp)]
 have ht₁:h₁.IsTuple t items:=(ht.push _).extBut qQ.extBut oZ
 have H₁:oD A h₁:=H.keeps fun b hb o e=>(qQ.2 b (fun q=>ni (q▸hb))).trans (gN _ e)
 refine gE (ie (Dw H₁ ni uN ht₁ (by simp) fun h₂ tQ=>?_))
 exact gV (hQ h₂ fun b o hb e=>tQ b o hb (qQ.extBut b o hb (gN _ e)))
@[elab_as_elim] theorem HV{P:List Expr->Prop}(h:Dq (x :: xs) es=true)(k:∀n p r,Ez x n=true->Dq xs r=true->P (.Name n p :: r)):P es:=
 A1 h fun _ r h=>AV (P:=fun e=>P (e :: r)) h fun n p h=>k n p r (Al h) (Aa h)
theorem Gz(h:Dq [] es=true):es=[]:=AP h fun _=>rfl
theorem EK(n:Str)(p:Pos)(es:List Expr)(e:Env):assignEach (.Name n p :: es) e=(false,assign (.Name n p) e) :: assignEach es e:=rfl
theorem CA:∀(xs:List Nat) (es:List Expr) (e:Env),Dq xs es=true->(assignEach es e).findIdx? (·.1)=none/\(assignEach es e).length=xs.length
 |[],es,e,h=>by rw[Gz h];exact⟨rfl,rfl⟩
 |x :: xs,es,e,h=>by
  refine HV h fun n p r _ h=>?_
  obtain⟨h1,h2⟩:=CA xs r e h
  rw[EK]
  exact⟨by rw[List.findIdx?_cons];simp[h1],by simp[h2]⟩
theorem AS(h:Ez x n=true):x<Bg.length/\n=nm x:=by
 unfold Ez at h
 rw[gP,hV,iC]at h
 exact h
theorem Fy{sc:Sc}(h:Hs sc n=true):sc.lookup n=some .local\/sc.lookup n=some .cell:=by
 simpa [Hs] using h
theorem G6(G:Bi S FA j)(xs:List Nat):∀(es:List Expr) (vs:List V) (zs:List Value) (env env':An) (m:Str->Option Value) (lg:Lg) (s:Shared) (E:Value->Shared->Prop),Dq xs es=true->es.all (fun e=>Bm e (Hs S.sc))=true->CQ xs vs env=some env'->
  S.I m env lg μ s.heap->S.H lg->Ar S.base lg vs zs->wpAny S.M S.A (assignInOrder ((assignEach es S.e).map (·.2)) zs) (fun _ s'=>IT S env' lg μ s s') E s:=by
 induction xs with
 |nil=>
  intro es vs zs env env' m lg s E h _ hb I H r
  obtain rfl:=Gz h
  induction vs using List.casesOn with
  |cons _ _=>exact nomatch hb
  |nil=>
   cases hb
   obtain rfl:=r.nil_inv
   exact assignInOrder_nil ⟨s.heap,s.toks,lg,m,rfl,I,Ext.refl _,fun _ q=>q,fun _ _ _ _ q=>q⟩
 |cons x xs ih=>
  intro es vs zs env env' m lg s E h hl hb I H r
  revert hl
  refine HV h fun n p es hn h hl=>?_
  have hx:=(AS hn).1
  have hn:=(AS hn).2
  induction vs using List.casesOn with
  |nil=>exact nomatch hb
  |cons v vs=>
   obtain⟨z,zs,rfl,hz,r⟩:=r.mV
   have hl:=BW hl
   have hs:=Fy (n:=n) hl.1
   rw[EK]
   refine assignInOrder_cons (gQ (Ck G hn hx hs I H hz) (fun _ s1 z1=>?_) fun _ _ e=>e)
   obtain⟨h1,mZ,mJ,m1,rfl,I1,x1,n1,kp1⟩:=z1
   refine gQ (ih es vs zs _ env' m1 mJ _ E h hl.2 hb I1 (H.mono x1) (r.mono x1)) (fun _ s2 z2=>?_) fun _ _ e=>e
   obtain⟨h2,nK,m5,m2,rfl,I2,x2,n2,rQ⟩:=z2
   exact⟨h2,nK,m5,m2,rfl,I2,x1.trans x2,fun b q=>n2 b (n1 b q),fun b o ne q y=>rQ b o ne (n1 b q) (kp1 b o ne q y)⟩
theorem Fp:∀{xs:List Nat} {l:List V} {env env':An},CQ xs l env=some env'->l.length=xs.length
 |[],[],_,_,_=>rfl
 |[],_ :: _,_,_,h=>nomatch h
 |_ :: _,[],_,_,h=>nomatch h
 |x :: xs,v :: l,_,_,h=>congrArg Nat.succ (Fp (xs:=xs) (l:=l) h)
theorem NS{xs:List Nat}{one:Bool}{t:Expr}{v:V}{z:Value}{env':An}{s:Shared}{E:Value->Shared->Prop}(G:Bi S FA j)(hc:E4 S.sc xs one t=true)(hb:AC xs one v env=some env')(I:S.I m env lg μ s.heap)(H:S.H lg)(hv:Aw S.base lg v z) :
  wpAny S.M S.A (assign t S.e z) (fun _ s'=>IT S env' lg μ s s') E s:=by
 induction one with
 |true=>
  refine AV hc fun n p h=>?_
  revert hb
  refine B5 h fun x h hb=>?_
  obtain rfl:=Option.some.inj hb
  exact Ck G (AS (Al h)).2 (AS (Al h)).1 (Fy (Aa h)) I H hv
 |false=>
  refine Kc hc fun es k p h=>?_
  have hn:=Al h
  have hl:=Aa h
  induction v using V.casesOn with
  |tup l=>
   obtain⟨a,o,vs,n,rfl,hk,qC,hd,hm,hr⟩:=hv.nX
   have uZ:=(CA xs es S.e hn).1;have hlen:=(CA xs es S.e hn).2
   have hlv:l.length=xs.length:=Fp (env:=env) (env':=env') hb
   have nF:vs.size=xs.length:=by have:=hr.1;simp at this;lia
   refine gE (ic ?_)
   unfold unpack
   (refine uZ.symm▸?_;refine hlen.symm▸?_;refine nF▸?_)
   have tup:s.heap.IsTuple a vs:=⟨o,I.kn hk,qC,n,hd⟩
   refine gE (ie (Tt (I.su H.hl) tup fun h1 he=>?_))
   have I1:=I.extBut he
   refine gQ (G6 G xs es l _ env env' m lg _ E hn hl hb I1 H hr) (fun _ s2 z2=>?_) fun _ _ e=>e
   obtain⟨h2,nK,m5,m2,rfl,I2,x2,n2,rQ⟩:=z2
   exact⟨h2,nK,m5,m2,rfl,I2,x2,n2,fun b o ne q y=>rQ b o ne q (he b o (i6 (hO y)) y)⟩
  |_=>exact nomatch hb
end
section
variable{prog:Program}{w:World}{A:Around}{E:Value->Shared->Prop}
variable{base:Heap}{K:Frag}{e:Env}{m:Str->Option Value}{fr:List oq}{env:An}{lg:Lg}{μ:MH}{s:Shared}{h:Heap}
inductive AL(base:Heap)(lg:Lg):List V->Option (Nat×List V)->Nat->Obj->Prop
 |list (n:Nat) (a:Addr) (xs:List V) (k:Nat) (o:Obj):lg.mE[n]?=some (a,a)->o.cls=.type "list_iterator"->o.data=.fields #[.ref a,.int k 0]->AL base lg xs (some (n,xs)) k o
 |tup (l:List V) (t:Addr) (ot:Obj) (vs:Array Value) (nn k:Nat) (o:Obj):Kn base lg t ot->ot.cls=.type "tuple"->ot.data=.seq vs nn->Ar base lg l vs.toList->o.cls=.type "tuple_iterator"->o.data=.fields #[.ref t,.int k 0]->AL base lg l none k o
 |range (lo st:Int) (n k:Nat):k<=n->AL base lg (BR n lo st) none k {cls:=.type "range_iterator",data:=.fields #[rawInt (lo+k*st),rawInt ((n:Int) - k),rawInt st]}
 |str (t:List Nat) (u:Tok) (k:Nat) (o:Obj):qe t->o.cls=.type "str_ascii_iterator"->o.data=.fields #[.str (sx t) u,.int k 0]->AL base lg (t.map fun c=>.str [c]) none k o
theorem AL.oA(x:AL base lg items c k o):pI o/\¬tI o:=by
 cases x with
 |list n a xs k o h1 h2 h3=>exact⟨⟨by rw[h2];simp,by rw[h3];simp,by rw[h3];simp⟩,by rintro⟨_,z⟩;rw[h2]at z;simp at z⟩
 |tup l t ot vs nn k o _ _ _ _ h2 h3=>exact⟨⟨by rw[h2];simp,by rw[h3];simp,by rw[h3];simp⟩,by rintro⟨_,z⟩;rw[h2]at z;simp at z⟩
 |range lo st n k hk=>exact⟨⟨by simp,by simp,by simp⟩,by rintro⟨_,z⟩;simp at z⟩
 |str t u k o _ h2 h3=>exact⟨⟨by rw[h2];simp,by rw[h3];simp,by rw[h3];simp⟩,by rintro⟨_,z⟩;rw[h2]at z;simp at z⟩
theorem AL.mono(y:G2 lg ma)(x:AL base lg items c k o):AL base ma items c k o:=by
 induction x with
 |list n a xs k o h1 h2 h3=>exact .list n a _ k o (y.mE _ _ h1) h2 h3
 |tup l t ot vs nn k o a b c d h2 h3=>exact .tup _ t ot vs nn k o ⟨a.1,a.2.imp (y.oA _ _ ⟨a.1,.inl b⟩) id⟩ b c (d.mR y) h2 h3
 |range lo st n k hk=>exact .range lo st n k hk
 |str t u k o a h2 h3=>exact .str t u k o a h2 h3
theorem Fi:∀(n:Nat) (a st:Int),(BR n a st).length=n
 |0,_,_=>rfl
 |n+1,a,st=>by simp[BR,Fi n]
theorem Kg:∀(n k:Nat) (a st:Int),k<n->(BR n a st)[k]?=some (.int (a+k*st))
 |0,_,_,_,h=>by contradiction
 |n+1,0,a,st,_=>by simp[BR]
 |n+1,k+1,a,st,h=>by
  simp only[BR,List.getElem?_cons_succ]
  refine(Kg n k _ _ (by exact mU (m4 _ _) (mD 0 1) mK (.add (mD 0 1) (.num 1)) (mD 1 1) rfl h)).symm▸?_
  congr 2
  push_cast
  rw[Int.add_mul];exact ii (oE (nI _ _ _) (.add (.add mq mW) oQ) (.add mq (.add oQ (.mulL 1 mW))) rfl) (oE (nI _ _ _) (.add mq (.add mW (.mulL 1 oQ))) (.add (.add mq oQ) mW) rfl)
theorem OE(a b c:Int):Builtin.Range.rangeSize a b c=(Cs a b c:Int):=by
 unfold Builtin.Range.rangeSize Cs
 by_cases h:0<c
 ·simp only[gt_iff_lt,h,kN]
  by_cases q:a<b
  ·simp only[q,kN]
   have:0<=(b - a - 1) / c:=jS (by exact qq7 q) (by exact mO (mz _) (.num 0) mq (.add (.num 0) (.num 1)) mq rfl h)
   omega
  ·simp[q]
 ·simp only[gt_iff_lt,h,kO]
  by_cases q:b<a
  ·simp only[q,kN]
   have:0<=(a - b - 1) / (-c):=jS (by exact qq7 q) (by exact mO (mz _) (.num 0) (.neg mq) mq (.num 0) rfl (Int.not_lt.mp h))
   omega
  ·simp[q]
theorem Og{x:Int}(h:x.natAbs<2 ^ 62):Builtin.Range.rangeFitsLong x=true:=by
 unfold Builtin.Range.rangeFitsLong
 simp;omega
theorem Rf(a:-(2 ^ 62)<x)(b:x<2 ^ 62):Builtin.Range.rangeFitsLong x=true:=Og (by omega)
theorem IU{x:Int}(h:x.natAbs<2 ^ 60):-(2 ^ 60)<x/\x<2 ^ 60:=by omega
theorem Mu{x:Int}(h:x.natAbs<2 ^ 60):Builtin.Range.rangeFitsLong x=true:=Og (iB h (by decide))
theorem Ra{d s:Int}(s0:0<s)(d0:0<d)(d1:d<2 ^ 61):0<=(d - 1) / s+1/\(d - 1) / s+1<2 ^ 61:=
 ⟨Int.add_nonneg (jS (lX d0) (jn s0)) (by decide),j0 (Int.add_le_add_right (Int.ediv_le_self _ (lX d0)) 1) (by show d - 1+1<_;rw[Int.sub_add_cancel];exact d1)⟩
theorem Iz{a b:Int}(h:a<b)(x:a.natAbs<2 ^ 60)(y:b.natAbs<2 ^ 60):0<b - a/\b - a<2 ^ 61:=by
 have:=IU x;have:=IU y
 exact⟨Int.sub_pos_of_lt h,by lia⟩
theorem Y5{lo hi st:Int}(h0:st≠0)(x:lo.natAbs<2 ^ 60)(y:hi.natAbs<2 ^ 60):0<=Builtin.Range.rangeSize lo hi st/\Builtin.Range.rangeSize lo hi st<2 ^ 61:=by
 unfold Builtin.Range.rangeSize
 by_cases h:0<st
 ·refine(iP h).symm▸?_
  by_cases q:lo<hi
  ·refine(iP q).symm▸?_;exact Ra h (Iz q x y).1 (Iz q x y).2
  ·refine(iO q).symm▸?_;exact⟨by decide,by decide⟩
 ·refine(iO h).symm▸?_
  by_cases q:hi<lo
  ·refine(iP q).symm▸?_;exact Ra (by lia) (Iz q y x).1 (Iz q y x).2
  ·refine(iO q).symm▸?_;exact⟨by decide,by decide⟩
theorem V7{lo hi st:Int}(r:tH lo hi st):Builtin.Range.small lo hi st=true:=by
 obtain⟨h0,h1,h2,h3⟩:=r
 obtain⟨s0,s1⟩:=Y5 h0 h1 h2
 unfold Builtin.Range.small
 simp only[gP,ik]
 refine⟨⟨⟨⟨Mu h1,Mu h2⟩,Mu h3⟩,Rf (gS (by decide) s0) (iU s1 (by decide))⟩,.inr ?_⟩
 clear s0 s1 h0
 have a:=IU h1
 have b:=IU h2
 have c:=IU h3
 clear h1 h2 h3
 split<;>exact Rf (by omega) (by omega)
theorem MG{R:Value->Shared->Prop}(I:Inv base K e m fr env lg μ s.heap)(hv:Aw base lg v x)(hi:C6 μ v=some (items,c))
  (hR:∀a o h' ma,lg.led a=none->Inv base K e m fr env ma μ h'->Ext lg ma->ma.led a=some o->AL base ma items c 0 o->(∀b p,s.heap.get? b=some p->h'.get? b=some p)->(∀b p,lg.led b=some p->ma.led b=some p)->R (.ref a) {s with heap:=h'}) :
  wpAny (model prog w) A (pyIter x) R E s:=by
 have fresh:∀{o:Obj},o.isFreed=false->(∀ma,Ext lg ma->AL base ma items c 0 o)->R (.ref s.heap.objs.size) {s with heap:=s.heap.push o}:=fun{o} hf ho=>by
  obtain⟨I',x⟩:=MF I hf
  refine hR _ o _ _ I.fresh I' x (Lg.mm ..) (ho _ x) (fun b p q=>gN o q) fun b p q=>?_
  rw[Lg.mj];exact q
  rintro rfl;exact AM I.fresh q
 induction v using V.casesOn with
 |tup l=>
  cases hi
  obtain⟨a,o,vs,n,rfl,hk,hc,hd,hm,hr⟩:=hv.nX
  exact kM ⟨o,I.kn hk,hc,n,hd⟩ (fresh rfl fun ma y=>.tup _ a o vs n 0 _ (y.kn hk) hc hd (hr.mono y) rfl rfl)
 |range lo qD st=>
  cases Option.some.inj hi
  obtain⟨a,t1,t2,t3,rfl,hk,hr⟩:=hv.pX
  refine wpAny_pyIter_range (I.kn hk) (V7 hr) (fresh rfl fun ma y=>?_)
  rw[OE]
  have:=AL.range (base:=base) (lg:=ma) lo st (Cs lo qD st) 0 (iq _)
  simpa using this
 |str l=>
  cases hi
  obtain⟨⟨t,rfl⟩,hl⟩:=hv.mt
  refine wpAny_pyIter_ascii (by simp[sx];exact hl.2) (fresh rfl fun ma y=>.str _ t 0 _ hl rfl rfl)
 |l8 n=>
  obtain⟨xs,hm,hi⟩:=Option.map_eq_some_iff.mp (show(By μ n).map _=some (items,c)from hi)
  cases hi
  obtain⟨p,d,rfl,hr⟩:=hv.mI
  obtain⟨vs,k,hg,rfl,hl,tU,nF,nT⟩:=Co I hr (Ba hm)
  exact wpAny_pyIter_list (A9 hg) (fresh rfl fun ma y=>.list n p _ 0 _ (y.mE _ _ hr) rfl rfl)
 |_=>exact Ao hi
theorem X4{R:Option Value->Shared->Prop}(H:oD A s.heap)(I:Inv base K e m fr env lg μ s.heap)(ni:it∉oM A)(hl:lg.led it=some o)(x:AL base lg items c k o)(hs:HH c μ)
  (oY:∀v z o' h' tk,items[k]?=some v->Aw base lg v z->AL base lg items c (k+1) o'->h'.get? it=some o'->Heap.SameBut it s.heap h'->R (some z) {s with heap:=h',toks:=tk})
  (pT:items.length<=k->∀h',Heap.ExtBut it s.heap h'->R none {s with heap:=h'}):wpAny (model prog w) A (pyNext (.ref it)) R E s:=by
 have g:=(I.led _ _ hl).1
 cases x with
 |list n a xs k o h1 h2 h3=>
  obtain⟨vs,k',hg,_,hle,tU,nF,nT⟩:=Co I h1 hs
  by_cases q:k<items.length
  ·obtain⟨z,hz,rz⟩:=tU.at (i:=k) (v:=items[k]) (by simp[q])
   refine wpAny_pyNext_list_item ⟨o,g,h2,h3⟩ (A9 hg) (x:=z) (by refine iL▸?_;exact hz) fun h' pd pV=>?_
   obtain⟨o',g',c',d'⟩:=pd
   exact oY _ _ o' h' s.toks (by simp[q]) rz (.list n a items (k+1) o' h1 c' d') g' pV
  ·exact KW H ni ⟨o,g,h2,h3⟩ (A9 hg) (by simp;exact pt (nI _ _ _) mu nM mu mK mK nM rfl (hZ nF) (Nat.not_lt.mp q)) fun h' he=>pT (by exact tx (Nat.not_lt.mp q)) h' he
 |tup l t ot vs nn k o a b c' d h2 h3=>
  have ht:s.heap.IsTuple t vs:=⟨ot,I.kn a,b,nn,c'⟩
  have nF:items.length=vs.size:=by have:=d.1;exact this
  by_cases q:k<items.length
  ·obtain⟨z,hz,rz⟩:=d.at (i:=k) (v:=items[k]) (by simp[q])
   refine lB ⟨o,g,h2,h3⟩ ht (x:=z) (by refine iL▸?_;exact hz) fun h' pd pV=>?_
   obtain⟨o',g',uk,d'⟩:=pd
   exact oY _ _ o' h' s.toks (by simp[q]) rz (.tup items t ot vs nn (k+1) o' a b c' d uk d') g' pV
  ·exact Dw H ni ⟨o,g,h2,h3⟩ ht (by simp;exact pt (nI _ _ _) mK nM mK mu mu nM rfl (hZ nF.symm) (Nat.not_lt.mp q)) fun h' he=>pT (by exact tx (Nat.not_lt.mp q)) h' he
 |range lo st n k hk=>
  by_cases q:k<n
  ·refine wpAny_pyNext_range_item (x:=lo+k*st) (left:=(n:Int) - k) (step:=st) g (by exact mO (m4 _ _) (.add (.num 0) (.num 1)) (.sub mW mq) (mw 0 1) mW rfl (Int.ofNat_lt.mpr q)) fun h' pd pV=>?_
   refine oY _ _ _ h' _ (Kg n k lo st q) (.int _ _) ?_ pd pV
   have e1:lo+k*st+st=lo+((k+1:Nat):Int)*st:=by push_cast;rw[Int.add_mul];exact ii (oE (nI _ _ _) (.add (.add mq mW) oQ) (.add mq (.add mW (.mulL 1 oQ))) rfl) (oE (nI _ _ _) (.add mq (.add mW (.mulL 1 oQ))) (.add (.add mq mW) oQ) rfl)
   have e2:(n:Int) - k - 1=(n:Int) - ((k+1:Nat):Int):=by push_cast;exact ii (oE (m4 _ _) (.sub (.sub mq mW) (.num 1)) (.sub mq (mw 1 1)) rfl) (oE (m4 _ _) (.sub mq (mw 1 1)) (.sub (.sub mq mW) (.num 1)) rfl)
   (refine e1.symm▸?_;refine e2.symm▸?_)
   exact .range lo st n (k+1) q
  ·exact J1 H (x:=lo+k*st) (left:=(n:Int) - k) (step:=st) g (by exact mO (m4 _ _) (.sub mq mW) (.num 0) mq mW rfl (Int.ofNat_le.mpr (Nat.not_lt.mp q))) fun h' he=>pT (by rw[Fi];exact tx (Nat.not_lt.mp q)) h' he
 |str t u k o ok h2 h3=>
  by_cases q:k<t.length
  ·refine wpAny_pyNext_ascii_item ⟨o,g,h2,h3⟩ (c:=t[k]) (by simp[sx,q]) fun h' pd pV=>?_
   obtain⟨o',g',uk,d'⟩:=pd
   exact oY _ _ o' h' _ (by simp[q]) (.str [t[k]] _ ⟨by simp[lim],fun z hz=>by refine(List.mem_singleton.mp hz).symm▸?_;exact ok.2 _ (kg q)⟩) (.str t u (k+1) o' ok uk d') g' pV
  ·exact J0 H ni ⟨o,g,h2,h3⟩ (by simp[sx];exact tx (Nat.not_lt.mp q)) fun h' he=>pT (by simp;exact tx (Nat.not_lt.mp q)) h' he
end
noncomputable def BC(e:Env):List (Str×NameKind)->List (Str×Addr)->List (Str×Addr)
 |[],acc=>acc
 |(n,k) :: r,acc=>if k==.free then(match e.cells.lookup n with|some ca=>BC e r ((n,ca) :: acc)|none=>BC e r acc)else BC e r acc
theorem HW(e:Env):∀(names:List (Str×NameKind)) (acc:List (Str×Addr)),(∀p∈names,p.2=.free->∃ca,e.cells.lookup p.1=some ca)->
  (forIn names acc fun(x:Str×NameKind) (r:List (Str×Addr))=>(if(x.2==.free)=true then(do let a <- cellOf e x.1;pure (ForInStep.yield ((x.1,a) :: r)))else pure (ForInStep.yield r):Sem (ForInStep (List (Str×Addr)))))=pure (BC e names acc)
 |[],acc,_=>rfl
 |(n,k) :: r,acc,h=>by
  rw[List.forIn_cons]
  have ih:=fun acc=>HW e r acc fun p hp=>h p (gH _ hp)
  unfold BC
  by_cases q:(k==NameKind.free)=true
  ·obtain⟨ca,hc⟩:=h (n,k) (.head _) (by exact gO q)
   simp only[q,kN,hc]
   unfold cellOf
   simp only[hc,pure_bind]
   exact ih _
  ·simp only[q]
   exact ih _
theorem W5{e:Env}{scope:Scope}(h:∀p∈scope.names,p.2=.free->∃ca,e.cells.lookup p.1=some ca):closureFor scope e=pure (BC e scope.names []):=by
 have:=HW e scope.names [] h
 show((forIn scope.names [] fun(x:Str×NameKind) (s:List (Str×Addr))=>(if(x.2==.free)=true then(do let a <- cellOf e x.1;pure (ForInStep.yield ((x.1,a) :: s)))else pure (ForInStep.yield s):Sem (ForInStep (List (Str×Addr))))) >>= fun cs=>pure cs)=_
 refine this.symm▸?_;rfl
theorem Fz{r:List (Str×Addr)}(h:((x,c) :: r).lookup n=some ca):(n=x/\c=ca)\/r.lookup n=some ca:=by
 rw[ib]at h
 cases q:n==x with
 |true=>rw[q]at h;exact .inl ⟨gU q,Option.some.inj h⟩
 |false=>rw[q]at h;exact .inr h
theorem UY{r:List (Str×Addr)}(y:n≠x)(h:r.lookup n=some ca):((x,c) :: r).lookup n=some ca:=by
 (rewrite[ib];refine(beq_eq_false_iff_ne.mpr y).symm▸?_);exact h
theorem ZS{n:Str}{c:Addr}{r:List (Str×Addr)}:((n,c) :: r).lookup n=some c:=by
 rw[ib,iy]
theorem JY(m:(n,k)∈(x,k') :: r)(q:¬(n=x/\k=k')):(n,k)∈r:=by
 rcases List.mem_cons.mp m with z|z
 ·exact absurd ⟨congrArg Prod.fst z,congrArg Prod.snd z⟩ q
 ·exact z
theorem Lf(e:Env):BC e ((x,.free) :: r) acc=(match e.cells.lookup x with|some ca=>BC e r ((x,ca) :: acc)|none=>BC e r acc):=rfl
theorem N4(e:Env)(q:¬k=.free):BC e ((x,k) :: r) acc=BC e r acc:=iO fun z=>q (gU z)
theorem Pu:cellsFrom k ((x,.cell) :: r) acc=cellsFrom (k+1) r ((x,k) :: acc):=rfl
theorem Ft(q:¬kd=.cell):cellsFrom k ((x,kd) :: r) acc=cellsFrom k r acc:=iO fun z=>q (gU z)
theorem VK(q:¬kd=.cell):pushCells h ((x,kd) :: r)=pushCells h r:=iO fun z=>q (gU z)
theorem KR(e:Env)(names:List (Str×NameKind)):∀(acc:List (Str×Addr)) (n:Str) (ca:Addr),(BC e names acc).lookup n=some ca->acc.lookup n=some ca\/(e.cells.lookup n=some ca/\(n,.free)∈names):=by
 induction names with
 |nil=>exact fun acc n ca h=>.inl h
 |cons p r ih=>
  obtain⟨x,k⟩:=p
  intro acc n ca h
  by_cases q:k=.free
  ·subst q
   rw[Lf]at h
   cases hc:e.cells.lookup x with
   |none=>
    replace h:=hc▸h
    exact(ih acc n ca h).imp id fun w=>⟨w.1,.tail _ w.2⟩
   |some cb=>
    rw[hc]at h
    refine(ih _ n ca h).elim (fun z=>(Fz z).elim (fun w=>?_) .inl) fun w=>.inr ⟨w.1,.tail _ w.2⟩
    (refine w.1.symm▸?_;refine w.2▸?_)
    exact .inr ⟨hc,.head _⟩
  ·rw[N4 e q]at h
   exact(ih acc n ca h).imp id fun w=>⟨w.1,.tail _ w.2⟩
theorem JC(e:Env)(names:List (Str×NameKind)):∀(acc:List (Str×Addr)) (n:Str) (ca:Addr),e.cells.lookup n=some ca->((n,.free)∈names\/acc.lookup n=some ca)->(BC e names acc).lookup n=some ca:=by
 induction names with
 |nil=>exact fun acc n ca _ h=>h.elim (fun h=>nomatch h) id
 |cons p r ih=>
  obtain⟨x,k⟩:=p
  intro acc n ca hc h
  by_cases q:k=.free
  ·subst q
   rw[Lf]
   cases hx:e.cells.lookup x with
   |none=>exact ih acc n ca hc (h.imp (fun m=>JY m fun z=>AM hx (z.1▸hc)) id)
   |some cb=>
    refine ih _ n ca hc ?_
    by_cases y:n=x
    ·subst y;rw[same hc hx];exact .inr ZS
    ·exact h.imp (fun m=>JY m fun z=>y z.1) (UY y)
  ·rw[N4 e q]
   exact ih acc n ca hc (h.imp (fun m=>JY m fun z=>q z.2.symm) id)
noncomputable def DM:Obj:={cls:=.type "cell",data:=.cell none}
theorem Mh(names:List (Str×NameKind)):∀(acc:List (Str×Addr)) (h:Heap) (n:Str) (ca:Addr),(cellsFrom h.objs.size names acc).lookup n=some ca->
  acc.lookup n=some ca\/(h.objs.size<=ca/\(pushCells h names).get? ca=some DM/\(n,.cell)∈names):=by
 induction names with
 |nil=>exact fun acc h n ca q=>.inl q
 |cons p r ih=>
  obtain⟨x,k⟩:=p
  intro acc h n ca q
  by_cases z:k=.cell
  ·subst z
   have ih:=ih ((x,h.objs.size) :: acc) (h.push DM) n ca
   rw[jc]at ih
   refine(ih q).elim (fun y=>(Fz y).elim (fun w=>?_) .inl) fun w=>.inr ⟨iW w.1,w.2.1,.tail _ w.2.2⟩
   (refine w.1.symm▸?_;refine w.2▸?_)
   exact .inr ⟨gM _,pushCells_keeps r (h.push DM) _ _ (ia _ rfl),.head _⟩
  ·replace q:=(Ft z)▸q
   refine(VK z).symm▸?_
   exact(ih acc h n ca q).imp id fun w=>⟨w.1,w.2.1,.tail _ w.2.2⟩
theorem KP(names:List (Str×NameKind)):∀(acc:List (Str×Addr)) (k:Nat),(∀n ca,acc.lookup n=some ca->ca<k)->(∀n n' ca,acc.lookup n=some ca->acc.lookup n'=some ca->n=n')->
  ∀n n' ca,(cellsFrom k names acc).lookup n=some ca->(cellsFrom k names acc).lookup n'=some ca->n=n':=by
 induction names with
 |nil=>exact fun acc k _ inj=>inj
 |cons p r ih=>
  obtain⟨x,kd⟩:=p
  intro acc k lt inj
  by_cases z:kd=.cell
  ·subst z
   refine ih _ (k+1) (fun n ca h=>(Fz h).elim (fun w=>w.2▸iS _) fun h=>hJ (lt n ca h)) fun n n' ca h h'=>?_
   refine(Fz h).elim (fun w=>(Fz h').elim (fun w'=>w.1.trans w'.1.symm) fun h'=>?_) fun h=>(Fz h').elim (fun w'=>?_) fun h'=>inj n n' ca h h'
   ·exact absurd (lt _ _ h') (w.2▸ip _)
   ·exact absurd (lt _ _ h) (w'.2▸ip _)
  ·refine(Ft z).symm▸?_
   exact ih acc k lt inj
theorem Bk(names:List (Str×NameKind)):∀(acc:List (Str×Addr)) (k:Nat) (n:Str),(n,.cell)∈names\/(∃ca,acc.lookup n=some ca)->∃ca,(cellsFrom k names acc).lookup n=some ca:=by
 induction names with
 |nil=>exact fun acc k n h=>h.elim (fun h=>nomatch h) id
 |cons p r ih=>
  obtain⟨x,kd⟩:=p
  intro acc k n h
  by_cases z:kd=.cell
  ·subst z
   rw[Pu]
   refine ih _ (k+1) n ?_
   by_cases y:n=x
   ·subst y;exact .inr ⟨k,ZS⟩
   ·exact h.imp (fun m=>JY m fun w=>y w.1) fun nV=>by obtain⟨ca,h⟩:=nV;exact⟨ca,UY y h⟩
  ·rw[Ft z]
   exact ih acc k n (h.imp (fun m=>JY m fun w=>z w.2.symm) id)
theorem EZ(names:List (Str×NameKind)):∀(acc:List (Str×Addr)) (k:Nat) (n:Str) (ca:Addr),(n,.cell)∉names->acc.lookup n=some ca->(cellsFrom k names acc).lookup n=some ca:=by
 induction names with
 |nil=>exact fun acc k n ca _ h=>h
 |cons p r ih=>
  obtain⟨x,kd⟩:=p
  intro acc k n ca nm h
  have nm':(n,.cell)∉r:=fun m=>nm (.tail _ m)
  by_cases z:kd=.cell
  ·subst z
   exact ih _ (k+1) n ca nm' (UY (fun y=>nm (y▸.head _)) h)
  ·refine(Ft z).symm▸?_
   exact ih acc k n ca nm' h
theorem Fj(scope:Scope)(e:Env)(hk:e.scope.kind=.function)(n:Str):(relabel scope e).names.lookup n=(scope.names.lookup n).map fun k=>if k==.free&&e.kindOf n==some .cell then .cell else k:=by
 unfold relabel
 dsimp only
 induction scope.names with
 |nil=>rfl
 |cons p r ih=>
  obtain⟨x,k⟩:=p
  rw[ja]
  simp only[hk,iy,lz]at ih ⊢
  by_cases q:(k==NameKind.free&&e.kindOf x==some NameKind.cell)=true
  ·simp only[q,kN]
   rw[ib,ib]
   by_cases y:(n==x)=true
   ·have:n=x:=beq_iff_eq.mp y
    subst this
    rw[y];simp only[ku,q,kN]
   ·simp only[y];exact ih
  ·simp only[q]
   rw[ib]
   simp only[j3,kO]
   rw[ib]
   by_cases y:(n==x)=true
   ·have:n=x:=beq_iff_eq.mp y
    subst this
    rw[y];simp only[ku,q];rfl
   ·simp only[y];exact ih
theorem X3{M:Model}{A:Around}{E:Value->Shared->Prop}{s:Shared}{g:Addr}{cl:List (Str×Addr)}{qual:Str}{e:Env}{Q:Env->Shared->Prop}
  (h:Q {scope:=scope,locals:=s.heap.objs.size,globals:=g,cells:=cellsFrom (s.heap.push {cls:=.type "dict",data:=.dict #[]}).objs.size scope.names cl,qual:=qual,func:=none,code:=e.code,frame:=e.frame,builtins:=e.builtins}
   {s with heap:=pushCells (s.heap.push {cls:=.type "dict",data:=.dict #[]}) scope.names}) :
  wpAny M A (newFunctionEnv scope g cl [] qual none .none (some e)) Q E s:=by
 refine gE (wpAny_alloc ?_)
 refine gE (wpAny_layCells _ (fun name kind cells=>by cases hkc:kind==NameKind.cell<;>simp[hkc]) _ _ _ _ ?_)
 exact gE (gV (gV h))
section
variable{base:Heap}{K:Frag}{e:Env}{m:Str->Option Value}{fr:List oq}{env env':An}{lg:Lg}{μ:MH}{h:Heap}
theorem Inv.withEnv(I:Inv base K e m fr env lg μ h)(k:∀x v,env' x=some v->R4 e x->FO base e m lg x v):Inv base K e m fr env' lg μ h:={I with vars:=k}
open Classical in
noncomputable def Lg.cells(lg:Lg)(P:Addr->Prop):Lg:={lg with led:=fun a=>if P a then some DM else lg.led a}
theorem Inv.qi(I:Inv base K e m fr env lg μ h)(P:Addr->Prop)(hP:∀a,P a->lg.led a=none/\base.get? a=none/\a≠e.locals/\h.get? a=some DM):Inv base K e m fr env (lg.cells P) μ h/\Ext lg (lg.cells P):=by
 have keep:∀b p,lg.led b=some p->(lg.cells P).led b=some p:=fun b p q=>by
  unfold Lg.cells;dsimp only
  rw[iO];exact q
  intro z;exact AM ((hP b z).1) q
 have x:Ext lg (lg.cells P):=⟨fun b p _ q=>keep b p q,fun b p c q=>⟨p,c,keep b p q⟩,fun _ _ q=>q⟩
 refine⟨⟨I.old,I.ns,I.nN,?_,fun b p q=>?_,fun f hf=>?_,I.dist,I.apart,fun y v q ss=>(I.vars y v q ss).mono x fun b p _ z=>keep b p z,I.heap.len,I.heap.nodup,fun n p q=>?_⟩,x⟩
 ·unfold Lg.cells;dsimp only
  rw[iO];exact I.mN
  intro z;exact(hP _ z).2.2.1 rfl
 ·unfold Lg.cells at q;dsimp only at q
  split at q
  ·rename_i z;obtain rfl:=Option.some.inj q;exact⟨(hP b z).2.2.2,(hP b z).2.1⟩
  ·exact I.led b p q
 ·obtain⟨⟨p,a1,a2⟩,a3⟩:=I.frames f hf
  exact⟨⟨p,keep _ _ a1,a2⟩,fun c o q=>⟨keep _ _ (a3 c o q).1,(a3 c o q).2⟩⟩
 ·obtain⟨a',d,a1,a2⟩:=I.heap.each n p q
  exact⟨a',d,a1,a2.mono x fun ob z=>keep _ _ z⟩
end
theorem CM{scope:Scope}{sc:Sc}(h:Dj scope sc=true):scope.kind=.function/\∀n k,(n,k)∈scope.names->scope.names.lookup n=some k/\(k=.local\/k=.cell\/k=.globalImplicit\/(k=.free/\(sc.lookup n=some .cell\/sc.lookup n=some .free))):=by
 unfold Dj at h
 rw[gP,io]at h
 refine⟨by exact gO h.1,fun n k hm=>?_⟩
 have:=h.2 (n,k) hm
 dsimp only at this
 rw[gP]at this
 refine⟨by simpa using this.1,?_⟩
 induction k<;>simp_all
theorem AN{names:Sc}(h:names.lookup n=some k):(n,k)∈names:=mem_of_lookup h
theorem VC{scope:Scope}(h:HY scope xs=true)(hy:y<Bg.length)(hk:scope.names.lookup (nm y)=some .local\/scope.names.lookup (nm y)=some .cell):(∃x∈xs,y=x):=by
 unfold HY at h
 rw[io]at h
 have key:∀k,(k=.local\/k=.cell)->scope.names.lookup (nm y)=some k->∃x∈xs,y=x:=fun k hk hl=>by
  have:=h (nm y,k) (AN hl)
  dsimp only at this
  rw[ik,ik]at this
  rcases this with(z|z)|z
  ·rcases hk with rfl|rfl<;>simp at z
  ·rw[List.any_eq_true]at z
   obtain⟨x,hx,e⟩:=z
   rw[gP,hV]at e
   exact⟨x,hx,Hz hy e.1 (beq_iff_eq.mp e.2)⟩
  ·exfalso
   rw[jq,List.any_eq_false]at z
   have:=z (Bg.getD y []) (by rw[g7,g8 hy];exact kg hy)
   exact this (by show(nm y==nm y)=true;exact iy _)
 rcases hk with q|q
 ·exact key _ (.inl rfl) q
 ·exact key _ (.inr rfl) q
noncomputable def N6(scope:Scope)(e:Env)(C:Addr):Env:=
 {scope:=relabel scope e,locals:=C,globals:=e.globals,cells:=cellsFrom (C+1) scope.names (BC e scope.names []),qual:=e.qual,func:=none,code:=e.code,frame:=e.frame,builtins:=e.builtins}
noncomputable def my.inner(S:my)(scope:Scope)(C:Addr)(m:Str->Option Value)(env:An)(lg:Lg):my:=
 {S with e:=N6 scope S.e C,fr:=⟨S.e,m,AU env S.e lg⟩ :: S.fr,sc:=scope.names}
noncomputable def Ed(h:Heap)(scope:Scope):Heap:=pushCells (h.push {cls:=.type "dict",data:=.dict #[]}) scope.names
theorem So{S:my}{FA:Nat->Addr}{scope:Scope}(G:Bi S FA j)(hs:Dj scope S.sc=true):QP (N6 scope S.e C) scope.names:=by
 have hk:=(CM hs).1;have hn:=(CM hs).2
 have lk:=Fj scope S.e G.env.kind
 refine⟨hk,G.env.globals,G.env.builtins,fun n h=>?_,fun n h=>?_,fun n h=>?_⟩
 ·show(relabel scope S.e).names.lookup n=_
  rw[lk,h];rfl
 ·show(relabel scope S.e).names.lookup n=_
  rcases h with h|h
  ·rw[lk,h];rfl
  ·rw[lk,h]
   have:=(hn n .free (AN h)).2
   have hc:S.e.kindOf n=some .cell:=by
    rcases this with z|z|z|⟨_,z⟩
    ·cases z
    ·cases z
    ·cases z
    ·exact G.env.cell _ z
   simp[hc]
 ·show(relabel scope S.e).names.lookup n=_
  rw[lk,h];rfl
theorem Px{S:my}{FA:Nat->Addr}{m:Str->Option Value}{h:Heap}(G:Bi S FA j)(hs:Dj scope S.sc=true)(ho:HY scope xs=true)
  (I:S.I m env lg μ h) (H:S.H lg) :
  ∃ma,(S.inner scope h.objs.size m env lg).I (fun _=>none) (AG xs env) ma μ (Ed h scope)/\Ext lg ma/\(S.inner scope h.objs.size m env lg).H ma/\Bi (S.inner scope h.objs.size m env lg) FA j/\
   ma.led h.objs.size=none/\S.base.get? h.objs.size=none/\h.objs.size≠S.e.locals:=by
 have hk:=(CM hs).1;have hn:=(CM hs).2
 have hC:(h.push {cls:=.type "dict",data:=.dict #[]}).objs.size=h.objs.size+1:=jc ..
 have o5:∀b o,(h.push {cls:=.type "dict",data:=.dict #[]}).get? b=some o->(Ed h scope).get? b=some o:=fun b o q=>pushCells_keeps _ _ b o q
 have keep:∀b o,h.get? b=some o->(Ed h scope).get? b=some o:=fun b o q=>o5 b o (gN _ q)
 have I1:S.I m env lg μ (Ed h scope):=I.keeps keep
 have none_of:∀a,h.objs.size<=a->h.get? a=none:=fun a ha=>by
  cases q:h.get? a with
  |none=>rfl
  |some o=>exact absurd (hO q) (Nat.not_lt.mpr ha)
 have nh:∀a,h.objs.size<=a->lg.led a=none:=fun a ha=>I.free (none_of a ha)
 have nC:∀a,h.objs.size<=a->S.base.get? a=none:=fun a ha=>I.nS (none_of a ha)
 have oN:S.e.locals<h.objs.size:=by obtain⟨o,g,_⟩:=H7.of I.ns;exact hO g
 have at_:=Mh scope.names (BC S.e scope.names []) (h.push {cls:=.type "dict",data:=.dict #[]})
 rw[hC]at at_
 let P:Addr->Prop:=fun a=>h.objs.size+1<=a/\(Ed h scope).get? a=some DM
 obtain⟨I2,x2⟩:=I1.qi P fun a ha=>⟨nh a (iW ha.1),nC a (iW ha.1),fun z=>absurd oN (Nat.not_lt.mpr (z▸iW ha.1)),ha.2⟩
 have qT:(lg.cells P).led h.objs.size=none:=by
  unfold Lg.cells;dsimp only
  exact(iO fun z=>absurd z.1 (Nat.not_succ_le_self _)).trans (nh _ (gM _))
 have cl:∀n ca,(BC S.e scope.names []).lookup n=some ca->S.e.cells.lookup n=some ca/\(n,.free)∈scope.names:=fun n ca q=>by
  rcases KR S.e scope.names [] n ca q with z|z
  ·exact Ao z
  ·exact z
 have ro:∀n,(n,.free)∈scope.names->∃ca o,S.e.cells.lookup n=some ca/\Da o/\lg.led ca=some o:=fun n q=>by
  rcases(hn n .free q).2 with z|z|z|⟨_,z⟩
  ·cases z
  ·cases z
  ·cases z
  ·exact H.own.led n z
 have um:∀n ca,(BC S.e scope.names []).lookup n=some ca->ca<h.objs.size:=fun n ca q=>by
  obtain⟨a,b⟩:=cl n ca q
  obtain⟨cb,o,c1,_,c3⟩:=ro n b
  obtain rfl:=same a c1
  exact hO (I.led _ _ c3).1
 have pL:∀n ca,(N6 scope S.e h.objs.size).cells.lookup n=some ca->(n,.free)∉scope.names->P ca:=fun n ca q nf=>by
  rcases at_ n ca q with z|⟨z1,z2,z3⟩
  ·exact absurd (cl n ca z).2 nf
  ·exact⟨z1,z2⟩
 have u9:∀a,P a->(lg.cells P).led a=some DM:=fun a ha=>by unfold Lg.cells;dsimp only;exact(iP ha)
 have own:K5 (N6 scope S.e h.objs.size) scope.names (⟨S.e,m,AU env S.e lg⟩ :: S.fr) (lg.cells P):=by
  refine⟨fun n ca q1 q2 f hf=>?_,KP scope.names _ _ (fun n ca q=>hJ (um n ca q)) (fun n n' ca a b=>H.own.inj _ _ _ (cl n ca a).1 (cl n' ca b).1),fun n q=>?_⟩
  ·have nf:(n,NameKind.free)∉scope.names:=fun q=>by have:=(hn n .free q).1;replace this:=q1▸this;cases this
   have hp:=pL n ca q2 nf
   have ln:=nh ca (iW hp.1)
   cases z:f.cells ca with
   |none=>rfl
   |some o=>
    exfalso
    rcases List.mem_cons.mp hf with rfl|hf
    ·have z:AU env S.e lg ca=some o:=z
     unfold AU at z
     split at z
     ·replace z:=ln▸z;exact Ao z
     ·exact Ao z
    ·have:=((I.frames f hf).2 ca o z).1
     exact AM ln this
  ·rcases q with q|q
   ·obtain⟨ca,px⟩:=Bk scope.names (BC S.e scope.names []) (h.objs.size+1) n (.inl (AN q))
    have nf:(n,NameKind.free)∉scope.names:=fun z=>by have:=(hn n .free z).1;exact nomatch q.symm.trans this
    exact⟨ca,DM,px,⟨_,rfl⟩,u9 ca (pL n ca px nf)⟩
   ·obtain⟨ca,o,c1,c2,c3⟩:=ro n (AN q)
    have nc:(n,NameKind.cell)∉scope.names:=fun z=>by have:=(hn n .cell z).1;cases same q this
    refine⟨ca,o,EZ _ _ _ n ca nc (JC S.e scope.names [] n ca c1 (.inl (AN q))),c2,?_⟩
    unfold Lg.cells;dsimp only
    rw[iO];exact c3
    intro z;exact AM (nh ca (iW z.1)) c3
 have lk:=Fj scope S.e G.env.kind
 obtain⟨oL,I3,x3⟩:=I2.switch (cs:=AU env S.e lg) (e':=N6 scope S.e h.objs.size) (m':=fun _=>none) (env':=AG xs env) (fun a o q=>by
   unfold AU at q ⊢
   split at q
   ·rename_i z;rw[iP z]
    unfold Lg.cells;dsimp only
    rw[iO];exact q
    intro z;exact AM (nh a (iW z.1)) q
   ·exact Ao q) ((Heap.Ns.new h (.type "dict")).keeps o5) (nC _ (gM _)) qT (iQ (i6 oN))
  (fun f hf z=>by
   obtain⟨⟨o,a1,_⟩,_⟩:=I.frames f hf
   have:=hO (I.led _ _ a1).1
   rw[z]at this;exact ip _ this) (fun ma xx kk y v q ss=>by
    unfold AG at q
    split at q
    ·exact Ao q
    ·rename_i ny
     have ny:y∉xs:=by simpa using ny
     have pM:((scope.names.lookup (nm y)).map fun k=>if k==.free&&S.e.kindOf (nm y)==some .cell then NameKind.cell else k)=some .local\/((scope.names.lookup (nm y)).map fun k=>if k==.free&&S.e.kindOf (nm y)==some .cell then NameKind.cell else k)=some .cell:=by
      rcases ss.2 with z|z
      ·exact .inl (by rw[<- lk];exact z)
      ·exact .inr (by rw[<- lk];exact z)
     cases hl:scope.names.lookup (nm y) with
     |none=>rw[hl]at pM;simp at pM
     |some k=>
      replace pM:=hl▸pM
      have hm:=hn _ _ (AN hl)
      by_cases hkf:k=.free
      ·subst hkf
       obtain⟨ca,o,c1,c2,c3⟩:=ro _ (AN hl)
       have sees:R4 S.e y:=⟨ss.1,.inr (by
        rcases hm.2 with z|z|z|⟨_,z⟩
        ·cases z
        ·cases z
        ·cases z
        ·exact G.env.cell _ z)⟩
       obtain⟨hy,hv⟩:=I2.vars y v q sees
       have kc:S.e.kindOf (nm y)=some .cell:=by
        rcases hm.2 with z|z|z|⟨_,z⟩
        ·cases z
        ·exact nomatch z
        ·exact nomatch z
        ·exact G.env.cell _ z
       rcases hv with⟨z,_⟩|⟨_,cb,ob,w,d1,d2,d3,d4⟩
       ·cases same kc z
       ·obtain rfl:=same c1 d1
        have nc:(nm y,NameKind.cell)∉scope.names:=fun z=>by have:=(hn _ .cell z).1;cases same hl this
        refine⟨hy,.inr ⟨?_,ca,ob,w,EZ _ _ _ _ ca nc (JC S.e scope.names [] _ ca c1 (.inl (AN hl))),kk _ _ d2,d3,d4.mono xx⟩⟩
        show(relabel scope S.e).names.lookup _=_
        (rewrite[lk];refine hl.symm▸?_);simp[kc]
      ·exfalso
       have:k=.local\/k=.cell:=by
        have e1:(k==NameKind.free)=false:=by simpa using hkf
        simp only[ku,e1,kG,j3,kO,Option.some.injEq]at pM
        exact pM
       obtain⟨x,hx,ex⟩:=VC ho ss.1 (by rcases this with rfl|rfl;exact .inl hl;exact .inr hl)
       exact ny (ex▸hx))
 have x4:Ext lg ((lg.cells P).put S.e.locals oL):=x2.trans x3
 refine⟨(lg.cells P).put S.e.locals oL,I3,x4,⟨H.hl.mono x4,own.mono x3⟩,⟨G.base,So G hs,G.units,?_,G.calls⟩,?_,nC _ (gM _),iQ (i6 oN)⟩
 ·obtain⟨l,hl,hx⟩:=G.frames
  refine⟨l,hl,fun y hy=>⟨.inr ?_,(hx y hy).2⟩⟩
  rcases(hx y hy).1 with z|⟨f,hf,z⟩
  ·exact⟨_,.head _,z.symm⟩
  ·exact⟨f,gH _ hf,z⟩
 ·exact(Lg.mj _ _ (iQ (i6 oN))).trans (qT)
theorem Inv.vb{base:Heap}{K:Frag}{e:Env}{m:Str->Option Value}{fr:List oq}{env:An}{lg:Lg}{μ:MH}{h h':Heap}(I:Inv base K e m fr env lg μ h){a:Addr}{o:Obj}(hl:lg.led a=some o)(hi:pI o)(nv:¬tI o)
  (k:∀b p,b≠a->h.get? b=some p->h'.get? b=some p):Inv base K e m fr env (lg.drop a) μ h':=by
 have hb:=(I.led a o hl).2
 have nL:e.locals≠a:=by rintro rfl;exact AM I.mN hl
 have ne:∀b p,b≠a->lg.led b=some p->(lg.drop a).led b=some p:=fun b p n q=>by unfold Lg.drop;dsimp only;exact(iO n).trans (q)
 have x:G2 lg (lg.drop a):=⟨fun b p v q=>ne b p (fun y=>by(rw[y]at q;replace q:=hl▸q);obtain rfl:=Option.some.inj q;exact nv v) q,fun _ _ q=>q⟩
 have pj:∀b p,¬pI p->lg.led b=some p->(lg.drop a).led b=some p:=fun b p n q=>ne b p (fun y=>by(rw[y]at q;replace q:=hl▸q);obtain rfl:=Option.some.inj q;exact n hi) q
 have oH:∀{p:Obj},Da p->¬pI p:=fun nV i=>by obtain⟨v,q⟩:=nV;exact i.2.2 v q
 refine⟨fun b p q=>k b p (fun z=>by(rw[z]at q;replace q:=hb▸q);exact Ao q) (I.old b p q),?_,I.nN,by unfold Lg.drop;dsimp only;refine(iO nL).symm▸?_;exact I.mN,fun b p q=>?_,fun f hf=>?_,I.dist,I.apart,fun y v q ss=>(I.vars y v q ss).mR x fun b p c z=>pj b p (oH c) z,I.heap.len,I.heap.nodup,fun n p q=>?_⟩
 ·obtain⟨on,es,ep,q1,q2⟩:=I.ns
  exact⟨on,es,ep,k _ _ nL q1,q2⟩
 ·unfold Lg.drop at q;dsimp only at q
  split at q
  ·exact Ao q
  ·rename_i n;exact⟨k b p n (I.led b p q).1,(I.led b p q).2⟩
 ·obtain⟨⟨p,a1,a2⟩,a3⟩:=I.frames f hf
  refine⟨⟨p,pj _ _ (fun i=>?_) a1,a2⟩,fun c q z=>⟨pj _ _ (oH (a3 c q z).2) (a3 c q z).1,(a3 c q z).2⟩⟩
  obtain⟨es,ep,d,_⟩:=a2
  exact i.2.1 _ _ d
 ·obtain⟨a',d,a1,a2⟩:=I.heap.each n p q
  refine⟨a',d,a1,a2.mR x fun ob z=>?_⟩
  obtain⟨rd,z',n'⟩:=a2.nZ
  obtain rfl:=same z' z
  exact pj _ _ n' z'
section
variable{S:my}{FA:Nat->Addr}{j:Nat}{m:Str->Option Value}{env:An}{lg:Lg}{μ:MH}{s:Shared}
theorem Hv(I:S.I m env lg μ h)(H:HL S.A S.base lg)(hl:lg.led it=some o)(x:AL S.base lg items c k o):it∉oM S.A:=by
 intro hm
 rcases H with e|⟨a,oe,arr,e,kn,d,z⟩
 ·simp[oM,e]at hm
 ·simp[oM,e]at hm
  subst hm
  have:oe=o:=by
   rcases kn.2 with q|q
   ·obtain rfl:=same hl q;rfl
   ·exact AM ((I.led _ _ hl).2) q
  subst this
  induction x with
  |list n a xs k o h1 h2 h3=>rw[h3]at d;cases d;simp at z
  |tup l t ot vs nn k o _ _ _ _ h2 h3=>replace d:=h3▸d;cases d;simp at z
  |range lo st n k hk=>cases d;simp[rawInt]at z
  |str t u k o _ h2 h3=>rw[h3]at d;cases d;simp at z
theorem ac(H:S.H lg)(hl:lg.led it=some o)(hi:pI o)(hn:it∉oM S.A):S.H (lg.put it o'):=by
 refine⟨H.hl.imp id fun nV=>by obtain⟨a,oe,arr,e,kn,d,z⟩:=nV;exact⟨a,oe,arr,e,⟨kn.1,kn.2.imp (fun q=>(Lg.mj _ _ (fun y=>hn (by refine y▸?_;simp[oM,e]))).trans q) id⟩,d,z⟩,H.own.apart,H.own.inj,fun n q=>?_⟩
 ·obtain⟨ca,oc,c1,c2,c3⟩:=H.own.led n q
  refine⟨ca,oc,c1,c2,?_⟩
  rw[Lg.mj];exact c3
  rintro rfl
  obtain rfl:=same hl c3
  obtain⟨v,c⟩:=c2
  exact hi.2.2 v c
theorem UV{E:Value->Shared->Prop}{Q:Unit->Shared->Prop}(x:AL S.base lg items c k o)(g:s.heap.get? it=some o)(q:Q () s) :
  wpAny S.M S.A (letOwnedTupleGo t (.ref it) z) Q E s:=by
 have core:∀a,wpAny S.M S.A (do let o <- load it
                                     match o.cls,o.data with
                                     |.type n,.fields vs=>if["enumerate","zip","dict_itemiterator","dict_reverseitemiterator","odict_iterator","itertools.zip_longest","itertools.pairwise"].contains n&&vs[0]?==some (rawInt a)then do rule "for.unpacks-the-owned-tuple";updateField it 0 .none else pure ()
                                     |_,_=>pure ():Sem Unit) Q E s:=fun a=>by
  refine gE (wpAny_load g ?_)
  induction x with
  |list n a xs k o h1 h2 h3=>simp only[h2,h3];rw[iO (fun h=>nomatch h)];exact gV q
  |tup l t ot vs nn k o _ _ _ _ h2 h3=>simp only[h2,h3];rw[iO (fun h=>nomatch h)];exact gV q
  |range lo st n k hk=>dsimp only;rw[iO (fun h=>nomatch h)];exact gV q
  |str t u k o _ h2 h3=>simp only[h2,h3];rw[iO (fun h=>nomatch h)];exact gV q
 induction t using Expr.casesOn<;>first|exact gV q|(induction z<;>first|exact gV q|exact core _)
theorem Np{xs:List Nat}{one:Bool}{t:Expr}{it:Addr}{o:Obj}{items:List V}{c:Option (Nat×List V)}{k:Nat}{E:Value->Shared->Prop}{Qn:Shared->Prop}{Qs:Value->Shared->Prop}(G:Bi S FA j)(hc:E4 S.sc xs one t=true)
  (I:S.I m env lg μ s.heap) (H:S.H lg) (hl:lg.led it=some o) (x:AL S.base lg items c k o) (hs:HH c μ)
  (pT:items.length<=k->∀h' ma,S.I m env ma μ h'->ma.mE=lg.mE->(∀lgA,Ext lgA lg->lgA.led it=none->Ext lgA ma)->Qn {s with heap:=h'})
  (oY:∀v z,items[k]?=some v->∀env',AC xs one v env=some env'->∀s' ma m' o',S.I m' env' ma μ s'.heap->S.H ma->(∀lgA,Ext lgA lg->lgA.led it=none->Ext lgA ma)->(∃h' tk,s'={s with heap:=h',toks:=tk})->ma.led it=some o'->AL S.base ma items c (k+1) o'->
   (∀(n:Nat) (p:Addr×Addr),lg.mE[n]?=some p->ma.mE[n]?=some p)->Qs z s')
  (hb:∀v,items[k]?=some v->∃env',AC xs one v env=some env') :
  wpAny S.M S.A (pyNext (.ref it)) (fun r s₁=>match r with|none=>Qn s₁|some z=>wpAny S.M S.A (letOwnedTupleGo t (.ref it) z) (fun _ s₂=>wpAny S.M S.A (assign t S.e z) (fun _ s₃=>Qs z s₃) E s₂) E s₁) E s:=by
 have ni:=Hv I H.hl hl x
 have hi:=x.oA
 refine X4 (I.su H.hl) I ni hl x hs (fun v z o' h' tk hv rz x' g rL=>?_) fun hle h' he=>?_
 ·obtain⟨env',tP⟩:=hb v hv
  have I1:S.I m env (lg.put it o') μ h':=I.swap hl hi.1 hi.2 (fun b p n q=>(rL.2 b n).trans q) g
  have xv:G2 lg (lg.put it o'):=⟨fun b p v q=>by
   rw[Lg.mj];exact q
   rintro rfl;obtain rfl:=same hl q;exact hi.2 v,fun _ _ q=>q⟩
  have H1:S.H (lg.put it o'):=ac H hl hi.1 ni
  refine UV (S:=S) (x'.mono xv) g ?_
  refine gQ (NS (s:={s with heap:=h',toks:=tk}) G hc tP I1 H1 (rz.mR xv)) (fun _ s3 z3=>?_) fun _ _ e=>e
  obtain⟨h3,pN,py,m3,rfl,I3,x3,n3,kp3⟩:=z3
  exact oY v z hv env' tP _ py m3 o' I3 (H1.mono x3) (fun lgA xa na=>(xa.qV o' na).trans x3) ⟨h3,pN,rfl⟩ (x3.oA _ _ x'.oA.1 (Lg.mm ..)) ((x'.mono xv).mono x3.v) fun n p q=>x3.mE n p q
 ·
  have hlA:∃ma,S.I m env ma μ h'/\ma.mE=lg.mE/\∀lgA,Ext lgA lg->lgA.led it=none->Ext lgA ma:=by
   refine⟨lg.drop it,?_,rfl,fun lgA xa na=>?_⟩
   ·exact I.vb hl hi.1 hi.2 fun b p n q=>he b p n q
   ·have ne:∀b p,lgA.led b=some p->b≠it:=fun b p q y=>by(rw[y]at q;replace q:=na▸q);exact Ao q
    refine⟨fun b p i q=>?_,fun b p c q=>?_,xa.mE⟩
    ·unfold Lg.drop;dsimp only;exact(iO (ne b p q)).trans (xa.oA b p i q)
    ·obtain⟨o',c',q'⟩:=xa.cell b p c q
     exact⟨o',c',by unfold Lg.drop;dsimp only;exact(iO (ne b p q)).trans (q')⟩
  obtain⟨ma,I',rV,x'⟩:=hlA
  exact pT hle h' ma I' rV x'
end
def Sub(e e':An):Prop:=∀y v,e y=some v->e' y=some v
theorem LL{e:An}(s:Sub e e')(x:Nat)(v:V):Sub (Ad e x v) (Ad e' x v):=fun y w h=>by
 unfold Ad at h ⊢
 split at h
 ·rename_i q;exact(iP q).trans (h)
 ·rename_i q;exact(iO q).trans (s y w h)
theorem F3:∀{xs:List Nat} {vs:List V} {e e' f:An},Sub e e'->CQ xs vs e=some f->∃f',CQ xs vs e'=some f'/\Sub f f'
 |[],[],e,e',f,s,h=>by obtain rfl:=Option.some.inj h;exact⟨e',rfl,s⟩
 |[],_ :: _,_,_,_,_,h=>nomatch h
 |_ :: _,[],_,_,_,_,h=>nomatch h
 |x :: xs,v :: vs,e,e',f,s,h=>F3 (xs:=xs) (LL s x v) h
theorem Jj{xs:List Nat}{one:Bool}{v:V}{e e' f:An}(s:Sub e e')(h:AC xs one v e=some f):∃f',AC xs one v e'=some f'/\Sub f f':=by
 induction one with
 |true=>exact F3 s h
 |false=>induction v using V.casesOn with
  |tup l=>exact F3 (vs:=l) s h
  |_=>exact nomatch h
theorem F2:∀{xs:List Nat} {vs:List V} {e f:An} {y:Nat},y∉xs->CQ xs vs e=some f->f y=e y
 |[],[],e,f,y,_,h=>by obtain rfl:=Option.some.inj h;rfl
 |[],_ :: _,_,_,_,_,h=>nomatch h
 |_ :: _,[],_,_,_,_,h=>nomatch h
 |x :: xs,v :: vs,e,f,y,n,h=>by
  refine(F2 (xs:=xs) (vs:=vs) (e:=Ad e x v) (fun q=>n (gH _ q)) h).symm▸?_
  unfold Ad
  rw[iO (fun q=>n (by refine q.symm▸?_;exact .head _))]
theorem Pl{xs:List Nat}{one:Bool}{v:V}{e f:An}{y:Nat}(n:y∉xs)(h:AC xs one v e=some f):f y=e y:=by
 induction one with
 |true=>exact F2 n h
 |false=>induction v using V.casesOn with
  |tup l=>exact F2 (vs:=l) n h
  |_=>exact nomatch h
theorem UB{xs:List Nat}{one:Bool}{v:V}{e f:An}(h:AC xs one v (AG xs e)=some f):Sub (AG xs e) f:=fun y w q=>by
 rw[Pl (fun hy=>?_) h];exact q
 unfold AG at q
 exact AM (iP (by simpa using hy)) q
section
variable{S:my}{FA:Nat->Addr}{j:Nat}{m:Str->Option Value}{env:An}{lg:Lg}{μ:MH}{s:Shared}
def my.oR(S:my)(cond:ME)(ifs:List Expr):Prop:=(ifs=[]/\cond=.bool true)\/∃c,ifs=[c]/\S.ST cond c
theorem aZ{cond:ME}{ifs:List Expr}{K:Bool->MH->Prop}{E:Value->Shared->Prop}{R:Bool->Shared->Prop}(hI:S.oR cond ifs)(I:S.I m env lg μ s.heap)(H:S.H lg)(h:wt l9 S.Φ env cond K (fun _ _=>False) μ)
  (hR:∀b s',S.P m env lg s (PB K) b s'->R b s') :
  wpAny S.M S.A (forIn ifs true fun c r=>if r=true then do let ok <- isTrue c S.e (eval c S.e);pure (ForInStep.yield ok)else pure (ForInStep.yield r)) R E s:=by
 rcases hI with⟨rfl,rfl⟩|⟨c,rfl,hc⟩
 ·exact wpAny_tests_nil (hR _ _ (AH.here I (show K true μ from h)))
 ·exact wpAny_tests_one (gQ (hc m env lg μ K (fun _ _=>False) h s E I H fun v s' nV=>by obtain⟨_,_,_,_,_,_,_,_,_,_,_,f⟩:=nV;exact f.elim) (fun b s' z=>hR _ _ z) fun _ _ e=>e)
theorem Oq{ys:List V}{Q:Ae}{μ:MH}(h:By μ r=some ys)(hl:ys.length<lim)(q:Q .none (μ.set r (.list (ys++[wv])))):U6 (.l8 r) 0 [wv] Q μ:=
 show opt (one [wv]) (fun v=>opt (By μ r) fun xs=>A7 (decide (xs.length<lim)) (Q .none (μ.set r (.list (xs++[v])))))from Vx rfl (Vx h (X2 hl q))
def CW(S:my)(xs:List Nat)(one:Bool)(cond elt:ME)(c:Option (Nat×List V))(r:Nat)(env0:An)(items:List V)(Q:MH->Prop)(μ:MH):Prop:=
 Dr c r (fun v K μ'=>opt (AC xs one v env0) fun e=>wt l9 S.Φ e cond K (fun _ _=>False) μ') (fun v K μ'=>opt (AC xs one v env0) fun e=>we l9 S.Φ e elt K (fun _ _=>False) μ') items Q μ
inductive CL(S:my)(xs:List Nat)(one:Bool)(cond elt:ME)(items:List V)(c:Option (Nat×List V))(r:Nat)(it D:Addr)(env0:An)(lgA:Lg)(s0:Shared)(Q:MH->Prop)(n:Nat)(s:Shared):Prop
 |mk (h':Heap) (tk:Nat) (ma:Lg) (μ':MH) (m':Str->Option Value) (env':An) (k:Nat) (o:Obj) (e:s={s0 with heap:=h',toks:=tk}) (I:S.I m' env' ma μ' h') (H:S.H ma) (sub:Sub env0 env') (x:Ext lgA ma) (hl:ma.led it=some o) (hit:AL S.base ma items c k o) (hr:ma.mE[r]?=some (D,D)) (hn:n=items.length - k) (hk:k<=items.length)
  (hw:CW S xs one cond elt c r env0 (items.drop k) Q μ')
inductive CS(S:my)(xs:List Nat)(one:Bool)(items:List V)(c:Option (Nat×List V))(r:Nat)(it D:Addr)(env0:An)(lgA:Lg)(s0:Shared)(μ:MH)(k:Nat)(s:Shared):Prop
 |mk (v:V) (e:An) (lg:Lg) (m:Str->Option Value) (o:Obj) (h:Heap) (tk:Nat) (hv:items[k]?=some v) (he:AC xs one v env0=some e) (es:s={s0 with heap:=h,toks:=tk}) (I:S.I m e lg μ h) (H:S.H lg) (x:Ext lgA lg) (hl:lg.led it=some o) (hit:AL S.base lg items c (k+1) o) (hr:lg.mE[r]?=some (D,D))
theorem GE{α:Type}{l:List α}{k:Nat}{v:α}(hv:l[k]?=some v):l.drop k=v :: l.drop (k+1):=by
 obtain⟨oZ,e⟩:=List.getElem?_eq_some_iff.mp hv
 rw[List.drop_eq_getElem_cons oZ,e]
theorem CW.nH{xs:List Nat}{one:Bool}{cond elt:ME}{c:Option (Nat×List V)}{r:Nat}{env0:An}{items:List V}{Q:MH->Prop}{μ:MH}(hw:CW S xs one cond elt c r env0 items Q μ):HH c μ:=by
 induction items using List.casesOn with
 |nil=>exact(A2 hw).1
 |cons v rest=>exact(A2 hw).1
theorem Sp{xs:List Nat}{one:Bool}{mF:Expr}{ifs:List Expr}{elt cond:ME}{it D:Addr}{items:List V}{c:Option (Nat×List V)}{r:Nat}{Q:MH->Prop}{lgA:Lg}{envO:An}{s0:Shared}{k:Nat}{μ:MH}{s:Shared}{cd:Code}{T:PySem.Fin->Shared->Prop}{E:Value->Shared->Prop}
  (hE:S.SE elt mF) (hI:S.oR cond ifs) (hw:CW S xs one cond elt c r (AG xs envO) (items.drop k) Q μ) (hs:CS S xs one items c r it D (AG xs envO) lgA s0 μ k s)
  (next:∀s',CL S xs one cond elt items c r it D (AG xs envO) lgA s0 Q (items.length - (k+1)) s'->k+1<=items.length->wpAny S.M S.A (again cd) T E s') :
  wpAny S.M S.A (forIn ifs true (fun c r=>if r=true then do let ok <- isTrue c S.e (eval c S.e);pure (ForInStep.yield ok)else pure (ForInStep.yield r)) >>= fun ok=>if ok=true then((eval mF S.e >>= fun v=>call (.builtin "list.append") [.ref D,v] >>= fun _=>pure ()) >>= fun _:Unit=>again cd)else again cd) T E s:=by
 obtain⟨v,e,tX,m₃,o₃,h₃,tC,hv,he,rfl,I₃,H₃,x₃,s8,pB,tT⟩:=hs
 rw[GE hv]at hw
 obtain⟨e',sW,hc⟩:=Aq (A2 hw).2
 cases he.symm.trans sW
 have oZ:=(List.getElem?_eq_some_iff.mp hv).1
 have nx:∀{h₅ tk₅ rS μ₅},S.I m₃ e rS μ₅ h₅->Ext tX rS->CW S xs one cond elt c r (AG xs envO) (items.drop (k+1)) Q μ₅->wpAny S.M S.A (again cd) T E {s0 with heap:=h₅,toks:=tk₅}:=fun{h₅ tk₅ rS μ₅} I₅ x₅ w₅=>
  next _ ⟨h₅,tk₅,rS,μ₅,m₃,e,k+1,o₃,rfl,I₅,H₃.mono x₅,UB he,x₃.trans x₅,x₅.oA _ _ pB.oA.1 s8,pB.mono x₅.v,x₅.mE _ _ tT,rfl,oZ,w₅⟩ oZ
 clear next
 refine gE (aZ (s:={s0 with heap:=h₃,toks:=tC}) hI I₃ H₃ hc fun b s₄ z₄=>?_)
 obtain⟨h₄,qH,tn,μ₄,rfl,I₄,x₄,q₄⟩:=z₄
 induction b with
 |false=>exact nx (tk₅:=qH) I₄ x₄ q₄
 |true=>
  obtain⟨tM,uM,u4⟩:=Aq q₄
  cases he.symm.trans uM
  refine gE (gE (gQ (hE _ _ _ _ _ _ u4 {s0 with heap:=h₄,toks:=qH} _ I₄ (H₃.mono x₄) fun v s' z=>z.none.elim) (fun w s₅ z₅=>?_) fun _ _ e=>e))
  obtain⟨h₅,tk₅,rS,μ₅,rfl,I₅,x₅,wv,oO,q₅⟩:=z₅
  obtain⟨ys,hys,q₅⟩:=Aq q₅
  have qq:=(Ai q₅).1;have hw₅:=(Ai q₅).2
  have hr₅:=(x₄.trans x₅).mE _ _ tT
  refine gE (gQ (Rv (f:=0) (s:={s0 with heap:=h₅,toks:=tk₅}) (o:=.l8 r) (as:=[wv]) (Q:=fun _ μ'=>CW S xs one cond elt c r (AG xs envO) (items.drop (k+1)) Q μ') I₅ (.l8 r D D hr₅) (.cons oO .nil) (Oq hys qq hw₅)) (fun _ s₆ z₆=>?_) fun _ _ e=>e)
  obtain⟨h₆,vo,lg₆,μ₆,rfl,I₆,x₆,_,_,w₆⟩:=z₆
  exact gV (nx (tk₅:=vo) I₆ ((x₄.trans x₅).trans x₆) w₆)
theorem Lh{xs:List Nat}{one:Bool}{t mF:Expr}{gens:List Comprehension}{d:Nat}{ifs:List Expr}{scope:Scope}{pos pp:Pos}{elt cond:ME}{it D:Addr}{items:List V}{c:Option (Nat×List V)}{r:Nat}{Q:MH->Prop}{R:Result->Shared->Prop}{lgA:Lg}{env0:An}
  (G:Bi S FA j) (hT:E4 S.sc xs one t=true) (hE:S.SE elt mF) (hI:S.oR cond ifs) {envO:An} (he:env0=AG xs envO) {s0:Shared} (hA:lgA.led it=none)
  (hR:∀h' tk ma μ' m' env',S.I m' env' ma μ' h'->Sub env0 env'->Ext lgA ma->Q μ'->ma.mE[r]?=some (D,D)->R (.ok .next) {s0 with heap:=h',toks:=tk})
  (tc:compTurn (.ListComp mF gens scope pos) d (.ref it) (.ref D) S.e=(do
   standAt pp
   match <- pyNext (.ref it) with
   |none=>pure (.done .next)
   |some v=>
    letOwnedTupleGo t (.ref it) v
    assign t S.e v
    let mut ok:=true
    for c in ifs do
     if ok then ok <- isTrue c S.e (eval c S.e)
    if ok then
     (do let _ <- call (.builtin "list.append") [.ref D,<- eval mF S.e])
    again (.compLoop (.ListComp mF gens scope pos) d (.ref it) (.ref D) S.e)))
  (n:Nat) (s:Shared) (hs:CL S xs one cond elt items c r it D env0 lgA s0 Q n s):codeAny S.M S.A (.compLoop (.ListComp mF gens scope pos) d (.ref it) (.ref D) S.e) R s:=by
 refine codeAny_loop rfl (CL S xs one cond elt items c r it D env0 lgA s0 Q) (fun n s sS=>?_) n hs
 obtain⟨h',tk,ma,μ',m',env',k,o,rfl,I,H,sub,xA,hl,hit,hr,hn,hk,hw⟩:=sS
 subst he
 show wpAny _ S.A ((compTurn (.ListComp mF gens scope pos) d (.ref it) (.ref D) S.e).onRaise (fun x=>do noteFrame x S.e;theTreesLotGoes x)) _ _ _
 refine lU ?_
 rw[tc]
 refine gE (ic (gE ?_))
 have step:∀v,items[k]?=some v->∃e,AC xs one v (AG xs envO)=some e:=fun v hv=>by
  rw[GE hv]at hw
  obtain⟨e,he,_⟩:=Aq (A2 hw).2
  exact⟨e,he⟩
 refine gQ (Np (s:={s0 with heap:=h',toks:=tk}) G hT I H hl hit hw.nH
  (Qn:=fun s₁=>R (.ok .next) s₁) (Qs:=fun _ s₃=>CS S xs one items c r it D (AG xs envO) lgA s0 μ' k s₃)
  (fun hle h1 mJ I1 pk x1=>?_) (fun v z hv pS hb s1 mJ m1 o1 I1 H1 x1 ⟨h1,mZ,e1⟩ q8 qp pk=>?_) fun v hv=>?_) (fun rr s₁ h₁=>?_) fun _ _ e=>e
 ·rw[kr hle]at hw
  exact hR h1 tk mJ μ' m' env' I1 sub (x1 lgA xA hA) (A2 hw).2 (by rw[pk];exact hr)
 ·subst e1
  obtain⟨e,he⟩:=step v hv
  obtain⟨f,hf,sf⟩:=Jj sub he
  cases hf.symm.trans hb
  exact⟨v,e,mJ,m1,o1,h1,mZ,hv,he,rfl,I1.withEnv fun y w q ss=>I1.vars y w (sf y w q) ss,H1,x1 lgA xA hA,q8,qp,pk _ _ hr⟩
 ·obtain⟨e,he⟩:=step v hv
  obtain⟨f,hf,_⟩:=Jj sub he
  exact⟨f,hf⟩
 ·cases rr with
  |none=>exact gV h₁
  |some z=>
   refine gE (gQ h₁ (fun _ s₂ h₂=>gE (gQ h₂ (fun _ s₃ h₃=>?_) fun _ _ e=>e)) fun _ _ e=>e)
   refine Sp hE hI hw h₃ fun s' cl lt=>gV ⟨rfl,_,?_,cl⟩
   rw[hn]
   exact kH lt (iS k)
end
section
variable{S:my}{FA:Nat->Addr}{j:Nat}{m:Str->Option Value}{env:An}{lg:Lg}{μ:MH}{s:Shared}
theorem Hw{E:Value->Shared->Prop}{Q:Value->Shared->Prop}(x:AL S.base lg items c k o)(g:s.heap.get? it=some o)(q:Q (.ref it) s) :
  wpAny S.M S.A (pyIter (.ref it)) Q E s:=by
 induction x with
 |list n a xs k o h1 h2 h3=>exact wpAny_pyIter_listiter (l:=a) (i:=k) ⟨o,g,h2,h3⟩ q
 |tup l t ot vs nn k o _ _ _ _ h2 h3=>exact lM (t:=t) (i:=k) ⟨o,g,h2,h3⟩ q
 |range lo st n k hk=>exact wpAny_pyIter_rangeiter (x:=lo+k*st) (left:=(n:Int) - k) (step:=st) g q
 |str t u k o _ h2 h3=>exact wpAny_pyIter_striter_ascii (x:=sx t) (t:=u) (i:=k) ⟨o,g,h2,h3⟩ q
theorem MV(h:Dx x=true):∀(e:Env) (u:Value),foldedSetIterable x e u=pure u:=fun e u=>by
 induction x using Expr.casesOn<;>first|rfl|exact nomatch h
theorem Fv{use:Option (Value->Sem Unit)}{g:Comprehension}{mF:Expr}{scope:Scope}{pos:Pos}{Qf:Value->Shared->Prop}{E:Value->Shared->Prop}
  {W:List V->Option (Nat×List V)->Nat->(MH->Prop)->MH->Prop} {Q:Ae} {X:As}
  (G:Bi S FA j) (hg:gens=g :: gs) (hgi:g.iter=oF) (hga:g.is_async=0) (pe:Dx oF=true) (hs:Dj scope S.sc=true) (ho:HY scope xs=true) (hit:S.SE it oF)
  (h:we l9 S.Φ env it (fun sv μ₁=>opt (C6 μ₁ sv) fun p=>W p.1 p.2 μ₁.length (Q (.l8 μ₁.length)) (μ₁++[.list []])) X μ)
  (I:S.I m env lg μ s.heap) (H:S.H lg) (hX:∀v s',S.X m env lg s X v s'->E v s')
  (s7:∀(T:my) (items:List V) (c:Option (Nat×List V)) (r:Nat) (a D:Addr) (o:Obj) (lgA lg0:Lg) (μ0:MH) (m0:Str->Option Value) (Q':MH->Prop) (s0:Shared) (R:Result->Shared->Prop),Bi T FA j->T.sc=scope.names->T.A=S.A->T.pg=S.pg->T.w=S.w->T.Φ=S.Φ->T.base=S.base->
   T.I m0 (AG xs env) lg0 μ0 s0.heap->T.H lg0->Ext lgA lg0->lgA.led a=none->lg0.led a=some o->AL T.base lg0 items c 0 o->lg0.mE[r]?=some (D,D)->W items c r Q' μ0->
   (∀h' tk ma μ' m' env',T.I m' env' ma μ' h'->Ext lgA ma->Q' μ'->ma.mE[r]?=some (D,D)->R (.ok .next) {s0 with heap:=h',toks:=tk})->
   codeAny T.M T.A (.compStart (.ListComp mF gens scope pos) 0 (.ref a) (.ref D) T.e) R s0)
  (qR:∀h' tk ma μ' D C r,S.I m env ma μ' h'->Ext lg ma->Q (.l8 r) μ'->ma.mE[r]?=some (D,D)->ma.led C=none->S.base.get? C=none->C≠S.e.locals->(∃mC,h'.Ns C mC)->S.H ma->
   compPost S.M S.A E use Qf (.ref D) C (.ok .next) {s with heap:=h',toks:=tk}) :
  wpAny S.M S.A (comprehension (.ListComp mF gens scope pos) scope S.e (firstIterPos gens pos) (newList []) false (eval oF S.e) use) Qf E s:=by
 have hk:=(CM hs).1;have hn:=(CM hs).2
 subst hg
 refine wpAny_comprehension_free (g:=g) (gs:=gs) rfl (fun x=>?_) (W5 fun p hp hf=>?_) hk (fun p hp hl=>?_) ?_
 ·refine hgi.symm▸?_
  exact MV pe _ _
 ·obtain⟨n,k⟩:=p
  dsimp only at hf;subst hf
  rcases(hn n .free hp).2 with z|z|z|⟨_,z⟩
  ·cases z
  ·cases z
  ·cases z
  ·obtain⟨ca,o,c1,_⟩:=H.own.led n z
   exact⟨ca,c1⟩
 ·obtain⟨n,k⟩:=p
  dsimp only at hl;subst hl
  exact(hn n .local hp).1
 refine gQ (hit _ _ _ _ _ _ h s E I H hX) (fun u s1 z1=>?_) fun _ _ e=>e
 obtain⟨h1,mZ,mJ,μ1,e1,I1,x1,uv,ru,hw⟩:=z1
 obtain⟨⟨items,c⟩,hi,hw⟩:=Aq hw
 have k0:∃h1 mZ,s1={s with heap:=h1,toks:=mZ}:=⟨h1,mZ,e1⟩
 have I1:S.I m env mJ μ1 s1.heap:=by rw[e1];exact I1
 clear e1
 have H1:=H.mono x1
 refine MG I1 ru hi fun a o h2 m5 na I2 x2 rJ pU rQ ke2=>?_
 refine wpAny_newList ?_ (iq _)
 obtain⟨py,I3,x3,r3,ke3⟩:=Rn (o:=.list []) (ob:={cls:=.type "list",data:=.seq ([]:List Value).toArray}) I2 rfl ⟨rfl,iq _,#[],0,Lg.mm ..,.nil⟩
 have H3:S.H py:=H1.mono (x2.trans x3)
 refine X3 ?_
 dsimp only
 obtain⟨qU,I4,x4,H4,G4,c1,c2,c3⟩:=Px (env:=env) G hs ho I3 H3
 have eC:(Heap.push (Heap.push h2 {cls:=.type "list",data:=.seq ([]:List Value).toArray}) {cls:=.type "dict",data:=.dict #[]}).objs.size=(Heap.push h2 {cls:=.type "list",data:=.seq ([]:List Value).toArray}).objs.size+1:=jc ..
 refine eC.symm▸?_
 have l4:qU.led a=some o:=x4.oA _ _ pU.oA.1 (ke3 _ _ rJ)
 have i4:=(pU.mono x3.v).mono x4.v
 refine s7 (S.inner scope (Heap.push h2 {cls:=.type "list",data:=.seq ([]:List Value).toArray}).objs.size m env py) items c μ1.length a h2.objs.size o mJ qU _ _ _ {s1 with heap:=Ed (Heap.push h2 {cls:=.type "list",data:=.seq ([]:List Value).toArray}) scope} _ G4 rfl rfl rfl rfl rfl rfl I4 H4 ((x2.trans x3).trans x4) na l4 i4 (x4.mE _ _ r3) hw fun h' tk ma μ' m' env' I' x' q' r'=>?_
 have sM:∀b p,AU env S.e mJ b=some p->AU env S.e py b=some p:=fun b p q=>by
  unfold AU at q ⊢
  split at q
  ·rename_i z;exact(iP z).trans (ke3 _ _ (ke2 _ _ q))
  ·exact Ao q
 obtain⟨I5,x5⟩:=Inv.back (f:=⟨S.e,m,AU env S.e py⟩) (env:=env) I' x' I1.mN sM I1.vars
 obtain⟨oC,gC,hC⟩:=H7.of I'.ns
 obtain⟨h1,mZ,e1⟩:∃h1 mZ,s1={s with heap:=h1,toks:=mZ}:=k0
 subst e1
 refine qR h' tk _ μ' _ _ μ1.length I5 (x1.trans x5) q' r' ?_ c2 c3 ⟨m',I'.ns⟩ (H1.mono x5)
 unfold Lg.drop;dsimp only
 split
 ·rfl
 ·exact I'.mN
end
section
variable{S:my}{FA:Nat->Addr}{j:Nat}{lg:Lg}
def IO(FA:Nat->Addr)(sc:Sc)(a:ME)(x:Expr):Prop:=∀(S:my) (j:Nat),Bi S FA j->S.sc=sc->S.SE a x
def Tv(FA:Nat->Addr)(sc:Sc)(cond:ME)(ifs:List Expr):Prop:=∀(S:my) (j:Nat),Bi S FA j->S.sc=sc->S.oR cond ifs
theorem Km{s:Shared}{R:Result->Shared->Prop}(x:AL S.base lg items c k o)(g:s.heap.get? a=some o)
  (h:codeAny S.M S.A (.compLoop (.ListComp mF (⟨t,oF,ifs,0⟩ :: gs) scope pos) 0 (.ref a) acc S.e) R s):codeAny S.M S.A (.compStart (.ListComp mF (⟨t,oF,ifs,0⟩ :: gs) scope pos) 0 (.ref a) acc S.e) R s:=
 codeAny_compStart_list h (Hw x g h)
theorem OZ{m:Str->Option Value}{ma:Lg}{E:Value->Shared->Prop}{Q:Ae}{h':Heap}{tk:Nat}(I:S.I m env ma μ' h')(x:Ext lg ma)(q:Q (.l8 r) μ')(hr:ma.mE[r]?=some (D,D))(c1:ma.led C=none)(c2:S.base.get? C=none)(c3:C≠S.e.locals)(hC:∃mC,h'.Ns C mC) :
  compPost S.M S.A E none (S.P m env lg s (PV S.base Q)) (.ref D) C (.ok .next) {s with heap:=h',toks:=tk}:=by
 obtain⟨mC,hC⟩:=hC
 refine⟨mC,hC,fun oB hs=>?_⟩
 exact⟨oB,tk,ma,μ',rfl,I.keepsBut c2 c1 (iQ c3) (fun b o n z=>(hs.2 b n).trans z),x,.l8 r,.l8 r D D hr,q⟩
theorem ZT{elt cond:ME}{xs:List Nat}{one:Bool}{t oF mF:Expr}{ifs:List Expr}{scope:Scope}{pos:Pos}{env:An}{Φ:Az}(hc:E4 scope.names xs one t=true)(hE:IO FA scope.names elt mF)(hI:Tv FA scope.names cond ifs)
  (T:my) (items:List V) (c:Option (Nat×List V)) (r:Nat) (a D:Addr) (o:Obj) (lgA lg0:Lg) (μ0:MH) (m0:Str->Option Value) (Q':MH->Prop) (s0:Shared) (R:Result->Shared->Prop) (GT:Bi T FA j) (om:T.sc=scope.names) (hΦ:T.Φ=Φ)
  (I0:T.I m0 (AG xs env) lg0 μ0 s0.heap) (H0:T.H lg0) (x0:Ext lgA lg0) (na:lgA.led a=none) (hl:lg0.led a=some o) (hi:AL T.base lg0 items c 0 o) (hr:lg0.mE[r]?=some (D,D))
  (hw:Dr c r (fun v K μ'=>opt (AC xs one v (AG xs env)) fun e=>wt l9 Φ e cond K (fun _ _=>False) μ') (fun v K μ'=>opt (AC xs one v (AG xs env)) fun e=>we l9 Φ e elt K (fun _ _=>False) μ') items Q' μ0)
  (hR:∀h' tk ma μ' m' env',T.I m' env' ma μ' h'->Ext lgA ma->Q' μ'->ma.mE[r]?=some (D,D)->R (.ok .next) {s0 with heap:=h',toks:=tk}) :
  codeAny T.M T.A (.compStart (.ListComp mF [⟨t,oF,ifs,0⟩] scope pos) 0 (.ref a) (.ref D) T.e) R s0:=by
 subst hΦ
 refine Km hi (I0.led _ _ hl).1 (Lh (env0:=AG xs env) (envO:=env) (lgA:=lgA) (Q:=Q') (items:=items) (c:=c) (r:=r) GT (by rw[om];exact hc) (hE T j GT om) (hI T j GT om) rfl na (fun h' tk ma μ' m' env' I' _ x' q' r'=>hR h' tk ma μ' m' env' I' x' q' r') (compTurn_list ..) (items.length - 0) s0 ?_)
 exact⟨s0.heap,s0.toks,lg0,μ0,m0,AG xs env,0,o,rfl,I0,H0,fun _ _ q=>q,x0,hl,hi,hr,rfl,iq _,hw⟩
theorem YT{elt it cond:ME}{xs:List Nat}{one:Bool}{t oF mF:Expr}{ifs:List Expr}{scope:Scope}{pos:Pos}(G:Bi S FA j)(pe:Dx oF=true)(hs:Dj scope S.sc=true)(ho:HY scope xs=true)(hc:E4 scope.names xs one t=true)(hit:S.SE it oF)
  (hE:IO FA scope.names elt mF) (hI:Tv FA scope.names cond ifs):S.SE (.comp elt xs one it cond) (.ListComp mF [⟨t,oF,ifs,0⟩] scope pos):=by
 intro m env lg μ Q X h s E I H hX
 refine Fv (use:=none) (W:=fun items c r Q' μ'=>Dr c r (fun v K μ'=>opt (AC xs one v (AG xs env)) fun e=>wt l9 S.Φ e cond K (fun _ _=>False) μ') (fun v K μ'=>opt (AC xs one v (AG xs env)) fun e=>we l9 S.Φ e elt K (fun _ _=>False) μ') items Q' μ')
  (Q:=Q) (X:=X) G rfl rfl rfl pe hs ho hit h I H hX ?_ ?_
 ·intro T items c r a D o lgA lg0 μ0 m0 Q' s0 R GT om hA uW td hΦ hb I0 H0 x0 na hl hi hr hw hR
  exact ZT hc hE hI T items c r a D o lgA lg0 μ0 m0 Q' s0 R GT om hΦ I0 H0 x0 na hl hi hr hw hR
 ·intro h' tk ma μ' D C r I' x' q hr c1 c2 c3 hC _
  exact OZ I' x' q hr c1 c2 c3 hC
theorem dw(elt t1 i1 t2 i2:Expr)(scope:Scope)(pos:Pos)(it acc:Value)(env:Env) :
  compTurn (.ListComp elt [⟨t1,i1,[],0⟩,⟨t2,i2,[],0⟩] scope pos) 0 it acc env=(standAt i1.pos >>= fun _=>pyNext it >>= fun r=>match r with
   |none=>pure (.done .next)
   |some v=>letOwnedTupleGo t1 it v >>= fun _=>assign t1 env v >>= fun _=>
    eval i2 env >>= fun x=>standAt i2.pos >>= fun _=>foldedSetIterable i2 env x >>= fun x=>holding [x] (pyIter x) >>= fun oa=>
     runOwn (.compStart (.ListComp elt [⟨t1,i1,[],0⟩,⟨t2,i2,[],0⟩] scope pos) 1 oa acc env) env >>= fun _=>
     again (.compLoop (.ListComp elt [⟨t1,i1,[],0⟩,⟨t2,i2,[],0⟩] scope pos) 0 it acc env)):=by with_unfolding_all rfl
theorem dz(elt t1 i1 t2 i2:Expr)(scope:Scope)(pos:Pos)(it acc:Value)(env:Env) :
  compTurn (.ListComp elt [⟨t1,i1,[],0⟩,⟨t2,i2,[],0⟩] scope pos) 1 it acc env=(do
   standAt i2.pos
   match <- pyNext it with
   |none=>pure (.done .next)
   |some v=>
    letOwnedTupleGo t2 it v
    assign t2 env v
    let mut ok:=true
    for c in([]:List Expr) do
     if ok then ok <- isTrue c env (eval c env)
    if ok then
     (do let _ <- call (.builtin "list.append") [acc,<- eval elt env])
    again (.compLoop (.ListComp elt [⟨t1,i1,[],0⟩,⟨t2,i2,[],0⟩] scope pos) 1 it acc env)):=by rfl
theorem Zg{s:Shared}{R:Result->Shared->Prop}(x:AL S.base lg items c k o)(g:s.heap.get? a=some o)
  (h:codeAny S.M S.A (.compLoop (.ListComp elt [⟨t1,i1,[],0⟩,⟨t2,i2,[],0⟩] scope pos) 1 (.ref a) acc S.e) R s):codeAny S.M S.A (.compStart (.ListComp elt [⟨t1,i1,[],0⟩,⟨t2,i2,[],0⟩] scope pos) 1 (.ref a) acc S.e) R s:=by
 refine codeAny_of_tree ?_
 refine wpAny_notedAt ?_
 refine gE (kZ (wpAny_ite ?_))
 split
 ·first
   |exact gE (gV (gV (And.intro rfl h)))
   |exact gV (And.intro rfl h)
 ·first
   |exact gE (jX (gE (ic (gE (Hw x g (gV (And.intro rfl h)))))))
   |(refine gE (jX ?_);show wpAny _ _ (standAt i2.pos >>= _) _ _ s;exact gE (ic (gE (Hw x g (gV (And.intro rfl h))))))
end
section
variable{S:my}{FA:Nat->Addr}{j:Nat}{lg:Lg}
def PP(Φ:Az)(env0:An)(elt oa:ME)(x1 x2 r:Nat)(v:V)(K:MH->Prop)(μ':MH):Prop:=
 we l9 Φ (Ad env0 x1 v) oa (fun s2 μ₂=>opt (C6 μ₂ s2) fun p2=>
  Dr p2.2 r (fun _ K' oh=>K' true oh) (fun v2 K' oh=>we l9 Φ (Ad (Ad env0 x1 v) x2 v2) elt K' (fun _ _=>False) oh) p2.1 K μ₂) (fun _ _=>False) μ'
def tF(S:my)(elt oa:ME)(x1 x2:Nat)(c:Option (Nat×List V))(r:Nat)(env0:An)(items:List V)(Q:MH->Prop)(μ:MH):Prop:=Hn c (PP S.Φ env0 elt oa x1 x2 r) items Q μ
theorem tF.nH{Q:MH->Prop}(hw:tF S elt oa x1 x2 c r env0 items Q μ):HH c μ:=by
 induction items using List.casesOn with
 |nil=>exact(A2 hw).1
 |cons v rest=>exact(A2 hw).1
inductive CL2(S:my)(elt oa:ME)(x1 x2:Nat)(items:List V)(c:Option (Nat×List V))(r:Nat)(it D:Addr)(env0:An)(lgA:Lg)(s0:Shared)(Q:MH->Prop)(n:Nat)(s:Shared):Prop
 |mk (h':Heap) (tk:Nat) (ma:Lg) (μ':MH) (m':Str->Option Value) (env':An) (k:Nat) (o:Obj) (e:s={s0 with heap:=h',toks:=tk}) (I:S.I m' env' ma μ' h') (H:S.H ma) (sub:Sub env0 env') (x:Ext lgA ma) (hl:ma.led it=some o) (hit:AL S.base ma items c k o) (hr:ma.mE[r]?=some (D,D)) (hn:n=items.length - k) (hk:k<=items.length)
  (hw:tF S elt oa x1 x2 c r env0 (items.drop k) Q μ')
inductive CS2(S:my)(x1:Nat)(items:List V)(c:Option (Nat×List V))(r:Nat)(it D:Addr)(env0:An)(lgA:Lg)(s0:Shared)(μ:MH)(k:Nat)(s:Shared):Prop
 |mk (v:V) (lg:Lg) (m:Str->Option Value) (o:Obj) (h:Heap) (tk:Nat) (hv:items[k]?=some v) (es:s={s0 with heap:=h,toks:=tk}) (I:S.I m (Ad env0 x1 v) lg μ h) (H:S.H lg) (x:Ext lgA lg) (hl:lg.led it=some o) (hit:AL S.base lg items c (k+1) o) (hr:lg.mE[r]?=some (D,D))
theorem UC(ne:x1≠x2):Ad (AG [x1,x2] env) x1 v=AG [x2] (Ad (AG [x1,x2] env) x1 v):=by
 funext y
 unfold AG
 by_cases q:y=x2
 ·subst q
  simp[Ad,iQ ne]
 ·simp[q]
theorem SI(q:AG [x1,x2] env y=some w):Ad (AG [x1,x2] env) x1 v y=some w:=by
 unfold Ad
 rw[iO]
 ·exact q
 ·rintro rfl;simp[AG]at q
theorem JD{tV:Expr}{scope:Scope}{pos:Pos}{items:List V}{c:Option (Nat×List V)}{Q:MH->Prop}{R:Result->Shared->Prop}{lgA:Lg}{env:An}
  (G:Bi S FA j) (om:S.sc=scope.names) (ne:x1≠x2) (uy:E4 scope.names [x1] true t1=true) (uz:E4 scope.names [x2] true t2=true) (pe:Dx tf=true) (hE:IO FA scope.names elt mF) (ux:IO FA scope.names oa tf) (hA:lgA.led it=none)
  (hR:∀h' tk ma μ' m' env',S.I m' env' ma μ' h'->Ext lgA ma->Q μ'->ma.mE[r]?=some (D,D)->R (.ok .next) {s0 with heap:=h',toks:=tk})
  (n:Nat) (s:Shared) (hs:CL2 S elt oa x1 x2 items c r it D (AG [x1,x2] env) lgA s0 Q n s):codeAny S.M S.A (.compLoop (.ListComp mF [⟨t1,tV,[],0⟩,⟨t2,tf,[],0⟩] scope pos) 0 (.ref it) (.ref D) S.e) R s:=by
 refine codeAny_loop rfl (CL2 S elt oa x1 x2 items c r it D (AG [x1,x2] env) lgA s0 Q) (fun n s sS=>?_) n hs
 obtain⟨h',tk,ma,μ',m',env',k,o,rfl,I,H,sub,xA,hl,hit,hr,hn,hk,hw⟩:=sS
 refine lU ?_
 rw[dw]
 refine gE (ic (gE ?_))
 refine gQ (Np (s:={s0 with heap:=h',toks:=tk}) G (by rw[om];exact uy) I H hl hit hw.nH
  (Qn:=fun s₁=>R (.ok .next) s₁) (Qs:=fun _ s₃=>CS2 S x1 items c r it D (AG [x1,x2] env) lgA s0 μ' k s₃)
  (fun hle h1 mJ I1 pk x1=>?_) (fun v z hv pS hb s1 mJ m1 o1 I1 H1 x1 ⟨h1,mZ,e1⟩ q8 qp pk=>?_) fun v hv=>⟨_,rfl⟩) (fun rr s₁ h₁=>?_) fun _ _ e=>e
 ·replace hw:=(kr hle)▸hw
  exact hR h1 tk mJ μ' m' env' I1 (x1 lgA xA hA) (A2 hw).2 (by refine pk.symm▸?_;exact hr)
 ·cases e1
  obtain rfl:=Option.some.inj hb
  exact⟨v,mJ,m1,o1,h1,mZ,hv,rfl,I1.withEnv fun y w q ss=>I1.vars y w (LL sub _ _ y w q) ss,H1,x1 lgA xA hA,q8,qp,pk _ _ hr⟩
 ·induction rr with
  |none=>exact gV h₁
  |some z=>
   refine gE (gQ h₁ (fun _ s₂ h₂=>gE (gQ h₂ (fun _ s₃ h₃=>?_) fun _ _ e=>e)) fun _ _ e=>e)
   obtain⟨v,tX,m₃,o₃,h₃,tC,hv,rfl,I₃,H₃,x₃,s8,pB,tT⟩:=h₃
   replace hw:=(GE hv)▸hw
   have oZ:=(List.getElem?_eq_some_iff.mp hv).1
   refine gE (gQ (ux S j G om _ _ _ _ _ _ (A2 hw).2 {s0 with heap:=h₃,toks:=tC} _ I₃ H₃ fun v s' z=>z.none.elim) (fun u s₄ z₄=>?_) fun _ _ e=>e)
   obtain⟨h₄,qH,tn,μ₄,rfl,I₄,x₄,uv,ru,u5⟩:=z₄
   obtain⟨⟨qr,c2⟩,pU,u5⟩:=Aq u5
   refine gE (ic (gE (kB (a:=u) (MV pe S.e u) (gE (ie ?_)))))
   refine MG (s:={s0 with heap:=h₄,toks:=qH}) I₄ ru pU fun a o₅ h₅ rS na I₅ x₅ hl₅ sX kp₅ ke₅=>?_
   have H₅:=(H₃.mono x₄).mono x₅
   refine gE (wpAny_runOwn ?_)
   refine Zg sX (I₅.led _ _ hl₅).1 (Lh (xs:=[x2]) (one:=true) (t:=t2) (ifs:=[]) (elt:=elt) (cond:=.bool true) (items:=qr) (c:=c2) (r:=r) (lgA:=tn) (env0:=Ad (AG [x1,x2] env) x1 v) (Q:=fun μ'=>tF S elt oa x1 x2 c r (AG [x1,x2] env) (items.drop (k+1)) Q μ')
    (s0:={s0 with heap:=h₅,toks:=qH}) G (by refine om.symm▸?_;exact uz) (hE S j G om) (.inl ⟨rfl,rfl⟩) (UC ne) na (fun h₆ vo lg₆ μ₆ m₆ uo I₆ vn x₆ q₆ r₆=>?_) (dz ..) (qr.length - 0) _ ?_)
   ·exact gV ⟨rfl,items.length - (k+1),by refine hn.symm▸?_;exact kH oZ (iS k),h₆,vo,lg₆,μ₆,m₆,uo,k+1,o₃,rfl,I₆,(H₃.mono x₄).mono x₆,fun y w q=>vn y w (SI q),(x₃.trans x₄).trans x₆,(x₄.trans x₆).oA _ _ pB.oA.1 s8,pB.mono (x₄.trans x₆).v,r₆,rfl,oZ,q₆⟩
   ·refine⟨h₅,qH,rS,μ₄,m₃,_,0,o₅,rfl,I₅,H₅,fun _ _ q=>q,x₅,hl₅,sX,(x₄.trans x₅).mE _ _ tT,rfl,iq _,?_⟩
    exact u5
theorem V2{scope:Scope}(G:Bi S FA j)(pe:Dx tV=true)(uT:Dx tf=true)(hs:Dj scope S.sc=true)(ho:HY scope [x1,x2]=true)(ne:x1≠x2)(uy:E4 scope.names [x1] true t1=true)(uz:E4 scope.names [x2] true t2=true)
  (hit:S.SE pC tV) (ux:IO FA scope.names oa tf) (hE:IO FA scope.names elt mF):S.SE (.n9 elt x1 pC x2 oa) (.ListComp mF [⟨t1,tV,[],0⟩,⟨t2,tf,[],0⟩] scope pos):=by
 intro m env lg μ Q X h s E I H hX
 refine Fv (use:=none) (xs:=[x1,x2]) (W:=fun items c r Q' μ'=>Hn c (PP S.Φ (AG [x1,x2] env) elt oa x1 x2 r) items Q' μ')
  (Q:=Q) (X:=X) G rfl rfl rfl pe hs ho hit h I H hX ?_ ?_
 ·intro T items c r a D o lgA lg0 μ0 m0 Q' s0 R GT om hA uW td hΦ hb I0 H0 x0 na hl hi hr hw hR
  replace hw:=(hΦ).symm▸hw
  refine Km hi (I0.led _ _ hl).1 (JD (lgA:=lgA) (env:=env) (Q:=Q') (items:=items) (c:=c) (r:=r) GT om ne uy uz uT hE ux na (fun h' tk ma μ' m' env' I' x' q' r'=>hR h' tk ma μ' m' env' I' x' q' r') (items.length - 0) s0 ?_)
  exact⟨s0.heap,s0.toks,lg0,μ0,m0,_,0,o,rfl,I0,H0,fun _ _ q=>q,x0,hl,hi,hr,rfl,iq _,hw⟩
 ·intro h' tk ma μ' D C r I' x' q hr c1 c2 c3 hC _
  exact OZ I' x' q hr c1 c2 c3 hC
end
structure mL(FA:Nat->Addr)(a:ME):Prop where
 e:∀(S:my) (j jj:Nat) (x:Expr),Bi S FA j->AD jj S.sc a x=true->S.SE a x/\S.ST a x
 an:∀(S:my) (j jj:Nat) (vs:List Expr),Bi S FA j->JA jj S.sc a vs=true->S.SB .And a vs/\S.TB .And a vs
 or:∀(S:my) (j jj:Nat) (vs:List Expr),Bi S FA j->N3 jj S.sc a vs=true->S.SB .Or a vs/\S.TB .Or a vs
 l:∀(S:my) (j jj:Nat) (xs:List Expr),Bi S FA j->N2 jj S.sc a xs=true->xs.all (fun x=>!EA x)=true/\S.SL a xs
 d:∀(S:my) (j jj:Nat) (ks:List (Option Expr)) (vs:List Expr),Bi S FA j->W4 jj S.sc a ks vs=true->ks.all (·.isSome)=true/\ks.length=vs.length/\S.SD a ks vs
theorem Fk{S:my}(h:∀{Φ:Az} {env Q X μ},¬wt l9 Φ env a Q X μ):S.ST a x:=fun _ _ _ _ _ _ q=>(h q).elim
theorem Ei{sc:Sc}(h:Hr sc n=true):sc.lookup n=some .globalImplicit:=gU h
theorem CH(h:(!b)=true):b=false:=by cases b<;>first|rfl|exact nomatch h
theorem Be{P:Prop}(h:false=true):P:=nomatch h
theorem TN{P Q R S:Prop}(h:P/\Q)(k:R/\S){T:Prop}(f:P->Q->R->S->T):T:=f h.1 h.2 k.1 k.2
section
variable{FA:Nat->Addr}
theorem mL.of(e:∀(S:my) (j jj:Nat) (x:Expr),Bi S FA j->AD jj S.sc a x=true->S.SE a x/\S.ST a x)
  (an:∀jj sc vs,JA jj sc a vs=false) (or:∀jj sc vs,N3 jj sc a vs=false) (l:∀jj sc vs,N2 jj sc a vs=false) (d:∀jj sc ks vs,W4 jj sc a ks vs=false):mL FA a:=
 ⟨e,fun _ _ _ _ _ h=>Be ((an _ _ _).symm.trans h),fun _ _ _ _ _ h=>Be ((or _ _ _).symm.trans h),fun _ _ _ _ _ h=>Be ((l _ _ _).symm.trans h),fun _ _ _ _ _ _ h=>Be ((d _ _ _ _).symm.trans h)⟩
theorem bK(i:Int):mL FA (.int i):=.of (fun S j jj x G h=>by
 exact Dz h fun c p k h=>Vo h fun i' h=>EX h ⟨cP,Fk id⟩) (fun _ _ _=>rfl) (fun _ _ _=>rfl) (fun _ _ _=>rfl) (fun _ _ _ _=>rfl)
theorem bO(l:List Nat):mL FA (.str l):=.of (fun S j jj x G h=>by
 refine Dz h fun c p k h=>Vt h fun t h=>?_
 obtain rfl:t=sx l:=gU (Al h)
 exact⟨cS ⟨gO (Al (Aa h)),fun n q=>gO (List.all_eq_true.mp (Aa (Aa h)) n q)⟩,Fk id⟩) (fun _ _ _=>rfl) (fun _ _ _=>rfl) (fun _ _ _=>rfl) (fun _ _ _ _=>rfl)
theorem Yc(b:Bool):mL FA (.bool b):=.of (fun S j jj x G h=>by
 exact Dz h fun c p k h=>Vl h fun d h=>EX h ⟨RN,OP (fun _ _=>rfl) id RN⟩) (fun _ _ _=>rfl) (fun _ _ _=>rfl) (fun _ _ _=>rfl) (fun _ _ _ _=>rfl)
theorem Ym :mL FA ME.none:=.of (fun S j jj x G h=>by
 exact Dz h fun c p k h=>ZJ (Lp h).symm ⟨YY,Fk id⟩) (fun _ _ _=>rfl) (fun _ _ _=>rfl) (fun _ _ _=>rfl) (fun _ _ _ _=>rfl)
theorem RO{S:my}{x:Expr}(he:∀env A3,isTrue x env A3=(do let v <- A3;standAt x.pos;holding [v] (truthy v)))
  (hw:∀{Φ:Az} {env Q X μ},wt l9 Φ env a Q X μ->we l9 Φ env a (fun v μ'=>opt (D2 v) fun c=>Q c μ') X μ) (ha:S.SE a x):S.SE a x/\S.ST a x:=⟨ha,OP he hw ha⟩
theorem FV{S:my}(h:∀{Φ:Az} {env Q X μ},¬wt l9 Φ env a Q X μ)(ha:S.SE a x):S.SE a x/\S.ST a x:=⟨ha,Fk h⟩
theorem bM(y:Nat):mL FA (.l8 y):=.of (fun S j jj x G h=>by
 exact AV h fun n p h=>RO (fun _ _=>rfl) id (cR (pos:=p) G (AS (Al h)).1 (AS (Al h)).2 (Al (Aa h)) (CH (Aa (Aa h))))) (fun _ _ _=>rfl) (fun _ _ _=>rfl) (fun _ _ _=>rfl) (fun _ _ _ _=>rfl)
theorem Yj(y:Nat):mL FA (.l9 y):=.of (fun S j jj x G h=>by
 exact AV h fun n p h=>FV id (YV G (AS (Al h)).2 (Ei (Al (Aa h))) (CH (Aa (Aa h))))) (fun _ _ _=>rfl) (fun _ _ _=>rfl) (fun _ _ _=>rfl) (fun _ _ _ _=>rfl)
theorem bH(op:Operator)(a b:ME)(ha:mL FA a)(hb:mL FA b):mL FA (.bin op a b):=.of (fun S j jj x G h=>by
 exact Vk h fun l o r p h=>EX (Al h) (RO (fun _ _=>rfl) id (cL (pos:=p) (op:=op) (ha.e S j jj _ G (Al (Aa h))).1 (hb.e S j jj _ G (Aa (Aa h))).1))) (fun _ _ _=>rfl) (fun _ _ _=>rfl) (fun _ _ _=>rfl) (fun _ _ _ _=>rfl)
theorem eY(op:UnaryOp)(a:ME)(ha:mL FA a):mL FA (.un op a):=.of (fun S j jj x G h=>by
 refine Yp h fun o l p h=>EX (Al h) ⟨fL (ha.e S j jj _ G (Aa h)).1,?_⟩
 induction op with
 |Not=>exact dc (ha.e S j jj _ G (Aa h)).2
 |_=>exact Fk id) (fun _ _ _=>rfl) (fun _ _ _=>rfl) (fun _ _ _=>rfl) (fun _ _ _ _=>rfl)
theorem bJ(a:ME)(op:CmpOp)(b:ME)(ha:mL FA a)(hb:mL FA b):mL FA (.cmp a op b):=.of (fun S j jj x G h=>by
 refine Ox h fun l os rs p h=>B5 h fun o h=>B5 h fun r h=>?_
 have e:op=o:=gU (Al h)
 subst e
 exact⟨cO G (ha.e S j jj _ G (Al (Aa (Aa h)))).1 (hb.e S j jj _ G (Aa (Aa (Aa h)))).1 (CH (Al (Aa h))),db G (ha.e S j jj _ G (Al (Aa (Aa h)))).1 (hb.e S j jj _ G (Aa (Aa (Aa h)))).1 (CH (Al (Aa h)))⟩) (fun _ _ _=>rfl) (fun _ _ _=>rfl) (fun _ _ _=>rfl) (fun _ _ _ _=>rfl)
theorem Ye(a:ME)(o1:CmpOp)(b:ME)(o2:CmpOp)(c:ME)(ha:mL FA a)(hb:mL FA b)(hc:mL FA c):mL FA (.oI a o1 b o2 c):=.of (fun S j jj x G h=>by
 refine Ox h fun l os rs p h=>HA h fun x1 x2 h=>HA h fun r1 r2 h=>?_
 have e:o1=x1:=gU (Al h)
 have e':o2=x2:=gU (Al (Aa h))
 subst e e'
 exact⟨YS G (ha.e S j jj _ G (Al (Aa (Aa (Aa h))))).1 (hb.e S j jj _ G (Al (Aa (Aa (Aa (Aa h)))))).1 (hc.e S j jj _ G (Aa (Aa (Aa (Aa (Aa h)))))).1 (CH (Al (Aa (Aa h)))),Zc G (ha.e S j jj _ G (Al (Aa (Aa (Aa h))))).1 (hb.e S j jj _ G (Al (Aa (Aa (Aa (Aa h)))))).1 (hc.e S j jj _ G (Aa (Aa (Aa (Aa (Aa h)))))).1 (CH (Al (Aa (Aa h))))⟩) (fun _ _ _=>rfl) (fun _ _ _=>rfl) (fun _ _ _=>rfl) (fun _ _ _ _=>rfl)
theorem bL(t a b:ME)(ht:mL FA t)(ha:mL FA a)(hb:mL FA b):mL FA (.ite t a b):=.of (fun S j jj x G h=>by
 exact Yn h fun t' a' b' p h=>TN (ha.e S j jj _ G (Al (Aa h))) (hb.e S j jj _ G (Aa (Aa h))) fun a1 a2 b1 b2=>⟨cQ (ht.e S j jj _ G (Al h)).2 a1 b1,rX (ht.e S j jj _ G (Al h)).2 a2 b2⟩) (fun _ _ _=>rfl) (fun _ _ _=>rfl) (fun _ _ _=>rfl) (fun _ _ _ _=>rfl)
theorem Yd(f:Nat)(as:ME)(ha:mL FA as):mL FA (.call f as):=.of (fun S j jj x G h=>by
 exact Ek h fun g args kw q h=>AP h fun h=>AV h fun n p h=>RO (fun _ _=>rfl) id (YR (p:=p) (pos:=q) G (Al h) (AS (Al (Aa h))).2 (Ei (Al (Aa (Aa h)))) (CH (Al (Aa (Aa (Aa h))))) (ha.l S j jj _ G (Aa (Aa (Aa (Aa h))))).1 (ha.l S j jj _ G (Aa (Aa (Aa (Aa h))))).2)) (fun _ _ _=>rfl) (fun _ _ _=>rfl) (fun _ _ _=>rfl) (fun _ _ _ _=>rfl)
theorem bI(f:Nat)(as:ME)(ha:mL FA as):mL FA (.blt f as):=.of (fun S j jj x G h=>by
 exact Ek h fun g args kw q h=>AP h fun h=>AV h fun n p h=>FV id (cM G (gO (Al h)) (gU (Al (Aa (Aa h)))) (Ei (Al (Aa (Aa (Aa h))))) (CH (Al (Aa h))) (ha.l S j jj _ G (Aa (Aa (Aa (Aa h))))).1 (ha.l S j jj _ G (Aa (Aa (Aa (Aa h))))).2)) (fun _ _ _=>rfl) (fun _ _ _=>rfl) (fun _ _ _=>rfl) (fun _ _ _ _=>rfl)
theorem Yl(o:ME)(f:Nat)(as:ME)(ho:mL FA o)(ha:mL FA as):mL FA (.mG o f as):=.of (fun S j jj x G h=>by
 exact Ek h fun g args kw q h=>AP h fun h=>Dm h fun o' n p h=>FV id (YX (gO (Al h)) (Al (Aa h)) (Al (Aa (Aa h))) (gO (Al (Aa (Aa (Aa h))))) (gU (Al (Aa (Aa (Aa (Aa h)))))) (ha.l S j jj _ G (Aa (Aa (Aa (Aa (Aa (Aa h))))))).1 (ho.e S j jj _ G (Al (Aa (Aa (Aa (Aa (Aa h))))))).1 (ha.l S j jj _ G (Aa (Aa (Aa (Aa (Aa (Aa h))))))).2)) (fun _ _ _=>rfl) (fun _ _ _=>rfl) (fun _ _ _=>rfl) (fun _ _ _ _=>rfl)
theorem Yb(o:ME)(a:Nat)(ho:mL FA o):mL FA (.attr o a):=.of (fun S j jj x G h=>by
 exact Dm h fun o' n p h=>RO (fun _ _=>rfl) id (YQ (pos:=p) G (AS (Al (Aa h))).2 (List.elem_iff.mp (Al (Aa (Aa h)))) (Al h) (ho.e S j jj _ G (Aa (Aa (Aa h)))).1)) (fun _ _ _=>rfl) (fun _ _ _=>rfl) (fun _ _ _=>rfl) (fun _ _ _ _=>rfl)
theorem bP(o i:ME)(ho:mL FA o)(hi:mL FA i):mL FA (.sub o i):=.of (fun S j jj x G h=>by
 exact GP h fun o' i' p h=>FV id (cT (Al h) (ho.e S j jj _ G (Al (Aa h))).1 (hi.e S j jj _ G (Aa (Aa h))).1)) (fun _ _ _=>rfl) (fun _ _ _=>rfl) (fun _ _ _=>rfl) (fun _ _ _ _=>rfl)
theorem Yk(es:ME)(he:mL FA es):mL FA (.list es):=.of (fun S j jj x G h=>by
 exact S1 h fun l p h=>FV id (YW (he.l S j jj _ G h).1 (he.l S j jj _ G h).2)) (fun _ _ _=>rfl) (fun _ _ _=>rfl) (fun _ _ _=>rfl) (fun _ _ _ _=>rfl)
theorem bQ(es:ME)(he:mL FA es):mL FA (.tup es):=.of (fun S j jj x G h=>by
 exact Kc h fun l k p h=>FV id (cU (he.l S j jj _ G h).1 (he.l S j jj _ G h).2)) (fun _ _ _=>rfl) (fun _ _ _=>rfl) (fun _ _ _=>rfl) (fun _ _ _ _=>rfl)
theorem Yi(es:ME)(he:mL FA es):mL FA (.dict es):=.of (fun S j jj x G h=>by
 refine SZ h fun ks vs p h=>FV id (YU ?_ (gO (Al (Aa h))) (he.d S j jj _ _ G (Aa (Aa h))).1 (he.d S j jj _ _ G (Aa (Aa h))).2.1 (he.d S j jj _ _ G (Aa (Aa h))).2.2)
 rintro rfl;exact Be (Al h)) (fun _ _ _=>rfl) (fun _ _ _=>rfl) (fun _ _ _=>rfl) (fun _ _ _ _=>rfl)
theorem Hk{S:my}(ha:mL FA a)(hb:mL FA b)(G:Bi S FA j)(h:JA jj S.sc (.and a b) vs=true):S.SB .And (.and a b) vs/\S.TB .And (.and a b) vs:=
 J6 h (fun x y h=>TN (ha.e S j jj _ G (Al h)) (hb.e S j jj _ G (Aa h)) fun a1 a2 b1 b2=>⟨V0 a1 (V1 b1),Wm a2 (Wn b2)⟩)
  fun x y r h=>TN (ha.e S j jj _ G (Al h)) (hb.an S j jj _ G (Aa h)) fun a1 a2 b1 b2=>⟨V0 a1 b1,Wm a2 b2⟩
theorem bG(a b:ME)(ha:mL FA a)(hb:mL FA b):mL FA (.and a b):=by
 refine⟨fun S j jj x G h=>?_,fun S j jj vs G h=>Hk ha hb G h,fun _ _ _ _ _ h=>Be h,fun _ _ _ _ _ h=>Be h,fun _ _ _ _ _ _ h=>Be h⟩
 refine Lv h fun o vs p h=>?_
 induction o with
 |And=>exact⟨LK (Hk ha hb G (Aa h)).1,LP (Hk ha hb G (Aa h)).2⟩
 |Or=>exact Be (Al h)
theorem Jz{S:my}(ha:mL FA a)(hb:mL FA b)(G:Bi S FA j)(h:N3 jj S.sc (.or a b) vs=true):S.SB .Or (.or a b) vs/\S.TB .Or (.or a b) vs:=
 J6 h (fun x y h=>TN (ha.e S j jj _ G (Al h)) (hb.e S j jj _ G (Aa h)) fun a1 a2 b1 b2=>⟨Z2 a1 (V1 b1),Z5 a2 (Wn b2)⟩)
  fun x y r h=>TN (ha.e S j jj _ G (Al h)) (hb.or S j jj _ G (Aa h)) fun a1 a2 b1 b2=>⟨Z2 a1 b1,Z5 a2 b2⟩
theorem eW(a b:ME)(ha:mL FA a)(hb:mL FA b):mL FA (.or a b):=by
 refine⟨fun S j jj x G h=>?_,fun _ _ _ _ _ h=>Be h,fun S j jj vs G h=>Jz ha hb G h,fun _ _ _ _ _ h=>Be h,fun _ _ _ _ _ _ h=>Be h⟩
 refine Lv h fun o vs p h=>?_
 induction o with
 |Or=>exact⟨LK (Jz ha hb G (Aa h)).1,LP (Jz ha hb G (Aa h)).2⟩
 |And=>exact Be (Al h)
theorem ON{S:my}(ha:mL FA a)(G:Bi S FA j)(h:Yo x (IA a) (fun e=>AD jj S.sc a e)=true):S.pz a x:=by
 induction x with
 |none=>clear ha;induction a using ME.casesOn<;>first|exact Qu|exact Be h
 |some e=>exact Qv (ha.e S j jj e G h).1
theorem Vi(o lo hi:ME)(ho:mL FA o)(qc:mL FA lo)(qo:mL FA hi):mL FA (.slice o lo hi):=.of (fun S j jj x G h=>by
 exact GP h fun o' i' p h=>Qb h fun tp qD st q h=>HC h fun h=>FV id (V3 (ho.e S j jj _ G (Al h)).1 (ON qc G (Al (Aa h))) (ON qo G (Aa (Aa h))))) (fun _ _ _=>rfl) (fun _ _ _=>rfl) (fun _ _ _=>rfl) (fun _ _ _ _=>rfl)
theorem UE{S:my}{tK:Expr->Bool}{cond:ME}(h:(match ifs with
  |[]=>Ro cond
  |c :: r=>BM r (tK c))=true) (k:∀c,tK c=true->S.ST cond c):S.oR cond ifs:=by
 induction ifs using List.casesOn with
 |nil=>
  clear k
  induction cond using ME.casesOn<;>first|exact Be h|exact .inl ⟨rfl,congrArg ME.bool h⟩
 |cons c r=>exact AP (P:=fun r=>S.oR cond (c :: r)) h fun h=>.inr ⟨_,rfl,k c h⟩
theorem O6(ha:mL FA a)(h:AD jj sc a x=true):IO FA sc a x:=fun T j' GT om=>(ha.e T j' jj _ GT (om.symm▸h)).1
theorem af(ha:mL FA a)(h:AD jj sc a x=true)(T:my)(j':Nat)(GT:Bi T FA j')(om:T.sc=sc):T.ST a x:=(ha.e T j' jj _ GT (om.symm▸h)).2
theorem Yg(elt:ME)(xs:List Nat)(one:Bool)(it cond:ME)(he:mL FA elt)(hi:mL FA it)(hc:mL FA cond):mL FA (.comp elt xs one it cond):=.of (fun S j jj x G h=>by
 refine HB h fun mF gens scope p h=>B5 h fun g h=>El h fun t oF ifs h=>?_
 induction jj using Nat.casesOn with
 |zero=>exact Be h
 |succ jj=>exact FV id (YT G (Al h) (Al (Aa h)) (Al (Aa (Aa h))) (Al (Aa (Aa (Aa (Aa h))))) (hi.e S j jj _ G (Al (Aa (Aa (Aa h))))).1 (O6 he (Al (Aa (Aa (Aa (Aa (Aa h))))))) fun T j' GT om=>UE (Aa (Aa (Aa (Aa (Aa (Aa h)))))) fun c q=>af hc q T j' GT om)) (fun _ _ _=>rfl) (fun _ _ _=>rfl) (fun _ _ _=>rfl) (fun _ _ _ _=>rfl)
theorem Vh(elt:ME)(x1:Nat)(pC:ME)(x2:Nat)(oa:ME)(he:mL FA elt)(hi:mL FA pC)(qb:mL FA oa):mL FA (.n9 elt x1 pC x2 oa):=.of (fun S j jj x G h=>by
 refine HB h fun mF gens scope p h=>HA h fun g1 g2 h=>El h fun t1 i1 rM h=>El h fun t2 i2 rN h=>AP h fun h=>AP h fun h=>?_
 induction jj using Nat.casesOn with
 |zero=>exact Be h
 |succ jj=>exact FV id (V2 G (Al h) (Al (Aa h)) (Al (Aa (Aa h))) (Al (Aa (Aa (Aa h)))) (bne_iff_ne.mp (Al (Aa (Aa (Aa (Aa h)))))) (Al (Aa (Aa (Aa (Aa (Aa (Aa h))))))) (Al (Aa (Aa (Aa (Aa (Aa (Aa (Aa (Aa h))))))))) (hi.e S j jj _ G (Al (Aa (Aa (Aa (Aa (Aa h))))))).1 (O6 qb (Al (Aa (Aa (Aa (Aa (Aa (Aa (Aa h))))))))) (O6 he (Aa (Aa (Aa (Aa (Aa (Aa (Aa (Aa (Aa h)))))))))))) (fun _ _ _=>rfl) (fun _ _ _=>rfl) (fun _ _ _=>rfl) (fun _ _ _ _=>rfl)
theorem bN:mL FA .nil:=
 ⟨fun _ _ _ _ _ h=>Be h,fun _ _ _ _ _ h=>Be h,fun _ _ _ _ _ h=>Be h,fun S j jj xs G h=>AP h fun _=>⟨rfl,cV⟩,fun S j jj ks vs G h=>AP h fun h=>AP h fun _=>⟨rfl,rfl,cK⟩⟩
def dM(FA:Nat->Addr)(a:ME):Prop:=∀k v,a=.cons k v->mL FA k/\mL FA v
theorem Zy(h:a=true)(k:b=true):(a&&b)=true:=by rw[h,k];rfl
theorem Yh(a r:ME)(ha:mL FA a)(hp:dM FA a)(hr:mL FA r):mL FA (.cons a r):=by
 refine⟨fun _ _ _ _ _ h=>Be h,fun _ _ _ _ _ h=>Be h,fun _ _ _ _ _ h=>Be h,fun S j jj xs G h=>?_,fun S j jj ks vs G h=>?_⟩
 ·exact A1 h fun x xs h=>⟨Zy (Al h) (hr.l S j jj xs G (Aa (Aa h))).1,Y6 (ha.e S j jj x G (Al (Aa h))).1 (hr.l S j jj xs G (Aa (Aa h))).2⟩
 ·refine A1 h fun k ks h=>A1 h fun v vs h=>BQ h fun k h=>?_
  induction a using ME.casesOn with
  |cons a b=>exact⟨Zy rfl (hr.d S j jj _ _ G (Aa h)).1,congrArg Nat.succ (hr.d S j jj _ _ G (Aa h)).2.1,YO ((hp a b rfl).1.e S j jj _ G (Al (Al h))).1 ((hp a b rfl).2.e S j jj _ G (Aa (Al h))).1 (hr.d S j jj _ _ G (Aa h)).2.2⟩
  |_=>exact Be (Al h)
theorem ER(FA:Nat->Addr)(a:ME):mL FA a/\dM FA a:=by
 induction a with
 |int i=>exact⟨bK i,fun _ _ h=>nomatch h⟩
 |str s=>exact⟨bO s,fun _ _ h=>nomatch h⟩
 |bool b=>exact⟨Yc b,fun _ _ h=>nomatch h⟩
 |none=>exact⟨Ym,fun _ _ h=>nomatch h⟩
 |l8 x=>exact⟨bM x,fun _ _ h=>nomatch h⟩
 |l9 x=>exact⟨Yj x,fun _ _ h=>nomatch h⟩
 |bin op a b ha hb=>exact⟨bH op a b ha.1 hb.1,fun _ _ h=>nomatch h⟩
 |un op a ha=>exact⟨eY op a ha.1,fun _ _ h=>nomatch h⟩
 |and a b ha hb=>exact⟨bG a b ha.1 hb.1,fun _ _ h=>nomatch h⟩
 |or a b ha hb=>exact⟨eW a b ha.1 hb.1,fun _ _ h=>nomatch h⟩
 |cmp a op b ha hb=>exact⟨bJ a op b ha.1 hb.1,fun _ _ h=>nomatch h⟩
 |oI a o1 b o2 c ha hb hc=>exact⟨Ye a o1 b o2 c ha.1 hb.1 hc.1,fun _ _ h=>nomatch h⟩
 |ite t a b ht ha hb=>exact⟨bL t a b ht.1 ha.1 hb.1,fun _ _ h=>nomatch h⟩
 |call f as ha=>exact⟨Yd f as ha.1,fun _ _ h=>nomatch h⟩
 |blt f as ha=>exact⟨bI f as ha.1,fun _ _ h=>nomatch h⟩
 |mG o f as ho ha=>exact⟨Yl o f as ho.1 ha.1,fun _ _ h=>nomatch h⟩
 |attr o a ho=>exact⟨Yb o a ho.1,fun _ _ h=>nomatch h⟩
 |sub o i ho hi=>exact⟨bP o i ho.1 hi.1,fun _ _ h=>nomatch h⟩
 |slice o lo hi ho qc qo=>exact⟨Vi o lo hi ho.1 qc.1 qo.1,fun _ _ h=>nomatch h⟩
 |list es he=>exact⟨Yk es he.1,fun _ _ h=>nomatch h⟩
 |tup es he=>exact⟨bQ es he.1,fun _ _ h=>nomatch h⟩
 |dict es he=>exact⟨Yi es he.1,fun _ _ h=>nomatch h⟩
 |comp elt xs one it cond he hi hc=>exact⟨Yg elt xs one it cond he.1 hi.1 hc.1,fun _ _ h=>nomatch h⟩
 |n9 elt x1 pC x2 oa he hi qb=>exact⟨Vh elt x1 pC x2 oa he.1 hi.1 qb.1,fun _ _ h=>nomatch h⟩
 |nil=>exact⟨bN,fun _ _ h=>nomatch h⟩
 |cons a r ha hr=>exact⟨Yh a r ha.1 ha.2 hr.1,fun _ _ h=>by cases h;exact⟨ha.1,hr.1⟩⟩
end
section
variable{base:Heap}{K:Frag}{e:Env}{m:Str->Option Value}{fr:List oq}{env:An}{lg:Lg}{μ:MH}{h h':Heap}
open Classical in
noncomputable def Lg.nk(lg:Lg)(F:List Addr)(h':Heap):Lg:={lg with led:=fun a=>if a∈F/\lg.led a≠none then h'.get? a else lg.led a}
theorem Inv.slots(I:Inv base K e m fr env lg μ h){F:List Addr}(hF:∀a∈F,a=e.locals\/∃f∈fr,a=f.env.locals)(k:∀b o,b∉F->(lg.led b≠none\/base.get? b≠none)->h.get? b=some o->h'.get? b=some o)
  (sl:∀b o,b∈F->h.get? b=some o->∃s,h'.get? b=some {o with slots:=s}) (kL:∀o,e.locals∉F->h.get? e.locals=some o->h'.get? e.locals=some o) :
  ∃ma,Inv base K e m fr env ma μ h'/\Ext lg ma/\(∀b,lg.led b=none->ma.led b=none)/\ma.mE=lg.mE:=by
 have tu:∀a∈F,∀o,lg.led a=some o->∃es ep,o.data=.dict es ep:=fun a ha o q=>by
  rcases hF a ha with rfl|⟨f,hf,rfl⟩
  ·exact AM I.mN q
  ·obtain⟨⟨p,a1,es,ep,d,_⟩,_⟩:=I.frames f hf
   obtain rfl:=same a1 q;exact⟨es,ep,d⟩
 have same:∀a o,lg.led a=some o->(∀es ep,o.data≠.dict es ep)->(lg.nk F h').led a=some o:=fun a o q nd=>by
  unfold Lg.nk;dsimp only
  rw[iO];exact q
  intro z
  obtain⟨es,ep,d⟩:=tu a z.1 o q
  exact nd es ep d
 have rq:∀{o:Obj},Da o->∀es ep,o.data≠.dict es ep:=fun⟨v,c⟩ es ep d=>by cases d.symm.trans c
 have off:∀a o,a∉F->lg.led a=some o->(lg.nk F h').led a=some o:=fun a o n q=>by
  unfold Lg.nk;dsimp only;exact(iO fun z=>n z.1).trans (q)
 have x:Ext lg (lg.nk F h'):=by
  refine⟨fun a o i q=>same a o q i.2.1,fun a o c q=>⟨o,c,same a o q fun es ep d=>?_⟩,fun _ _ q=>q⟩
  obtain⟨v,c⟩:=c;rw[d]at c;exact nomatch c
 have on:∀a o,a∈F->lg.led a=some o->∃s,h'.get? a=some {o with slots:=s}/\(lg.nk F h').led a=some {o with slots:=s}:=fun a o ha q=>by
  obtain⟨s,g⟩:=sl a o ha (I.led _ _ q).1
  refine⟨s,g,?_⟩
  unfold Lg.nk;dsimp only;rw[iP ⟨ha,by refine q.symm▸?_;simp⟩];exact g
 refine⟨lg.nk F h',⟨fun b o q=>?_,?_,I.nN,?_,fun b p q=>?_,fun f hf=>?_,I.dist,I.apart,fun y v q ss=>(I.vars y v q ss).mono x fun a o c z=>?_,I.heap.len,I.heap.nodup,fun n p q=>?_⟩,x,fun b q=>?_,rfl⟩
 ·refine k b o (fun hb=>?_) (.inr (by refine q.symm▸?_;exact nofun)) (I.old b o q)
  rcases hF b hb with rfl|⟨f,hf,rfl⟩
  ·exact AM I.nN q
  ·obtain⟨⟨p,a1,_⟩,_⟩:=I.frames f hf
   exact AM ((I.led _ _ a1).2) q
 ·obtain⟨on',es,ep,q1,q2,q3⟩:=I.ns
  by_cases hb:e.locals∈F
  ·obtain⟨s,g⟩:=sl _ _ hb q1
   exact⟨_,es,ep,g,q2,q3⟩
  ·exact⟨on',es,ep,kL _ hb q1,q2,q3⟩
 ·unfold Lg.nk;dsimp only;exact(iO fun z=>z.2 I.mN).trans (I.mN)
 ·cases q0:lg.led b with
  |none=>unfold Lg.nk at q;dsimp only at q;(rw[iO fun z=>z.2 q0]at q;replace q:=q0▸q);exact Ao q
  |some o=>
   by_cases hb:b∈F
   ·obtain⟨s,g,l⟩:=on b o hb q0
    replace q:=l▸q;obtain rfl:=Option.some.inj q
    exact⟨g,(I.led _ _ q0).2⟩
   ·replace q:=(off b o hb q0)▸q;cases Option.some.inj q
    exact⟨k b p hb (.inl (by refine q0.symm▸?_;simp)) (I.led _ _ q0).1,(I.led _ _ q0).2⟩
 ·obtain⟨⟨p,a1,es,ep,d,r⟩,a3⟩:=I.frames f hf
  refine⟨?_,fun c o q=>⟨same _ _ (a3 c o q).1 (rq (a3 c o q).2),(a3 c o q).2⟩⟩
  ·by_cases hb:f.env.locals∈F
   ·obtain⟨s,g,l⟩:=on _ p hb a1
    exact⟨_,l,es,ep,d,r⟩
   ·exact⟨p,off _ p hb a1,es,ep,d,r⟩
 ·refine same a o z fun es ep d=>?_
  obtain⟨v,cc⟩:=c;rw[d]at cc;cases cc
 ·obtain⟨a',d,a1,a2⟩:=I.heap.each n p q
  refine⟨a',d,a1,a2.mono x fun ob z=>off _ _ (fun hb=>?_) z⟩
  rcases hF d hb with rfl|⟨f,hf,rfl⟩
  ·exact AM I.mN z
  ·exact I.apart f hf (a',_) (jv a1) rfl
 ·unfold Lg.nk;dsimp only;exact(iO fun z=>z.2 q).trans (q)
end
def DV(A:Around)(e:Env)(fr:List oq):Prop:=
 ∃outer,A.frames=some (e :: outer)/\∀x∈e :: outer,(x=e\/∃f∈fr,f.env=x)/\x.frame=some x.locals/\x.scope.kind≠.module
theorem DV.qM{e:Env}(h:DV A e fr):O3 A e fr:=let⟨_,a,b⟩:=h;⟨_,a,b⟩
section
variable{S:my}{m:Str->Option Value}{env:An}{lg:Lg}{μ:MH}{h:Heap}
theorem Sz(I:S.I m env lg μ h)(l:List Env):(∀x∈l,(x=S.e\/∃f∈S.fr,f.env=x)/\x.frame=some x.locals/\x.scope.kind≠.module)->h.FunFrames {} l:=by
 induction l with
 |nil=>exact fun _=>trivial
 |cons x l ih=>
  intro hx
  have h1:=(hx x (.head _)).1;have h2:=(hx x (.head _)).2.1;have h3:=(hx x (.head _)).2.2
  refine⟨h3,⟨x.locals,?_⟩,ih fun y hy=>hx y (.tail _ hy)⟩
  have none_:({}:Heap).get? x.locals=none:=by rfl
  rcases h1 with rfl|⟨f,hf,rfl⟩
  ·obtain⟨o,es,ep,q1,q2,_⟩:=I.ns
   exact⟨o,h2,none_,q1,fun vs d=>nomatch (q2.symm.trans d)⟩
  ·obtain⟨⟨o,a1,es,ep,d,_⟩,_⟩:=I.frames f hf
   exact⟨o,h2,none_,(I.led _ _ a1).1,fun vs d'=>nomatch (d.symm.trans d')⟩
end
structure Tz(base:Heap)(K:Frag)(lg:Lg)(h:Heap)(L a:Addr)(r:Nat)(o:Obj)(vs:Array Value):Prop where
 base:base.get? a=none
 led:lg.led a=none
 l8:a≠L
 at_:h.get? a=some o
 lo:1<=r % 10
 hi:r % 10<=3
 cls:∃C,E7 K (r % 10) C/\o.cls=.ref C
 data:o.data=.fields vs
 size:2<vs.size
 ctx:r<10->vs[2]?=some .none
theorem FN.iff{base:Heap}{K:Frag}{lg:Lg}{h:Heap}{L a:Addr}{r:Nat}:FN base K lg h L a r↔∃o vs,Tz base K lg h L a r o vs/\Zx base lg h L a vs:=by
 constructor
 ·rintro⟨a1,a2,a3,o,vs,C,b1,b2,b3,b4,b5,b6,b7,b8,b9⟩
  exact⟨o,vs,⟨a1,a2,a3,b1,b2,b3,⟨C,b4,b5⟩,b6,b7,b8⟩,b9⟩
 ·rintro⟨o,vs,⟨a1,a2,a3,b1,b2,b3,⟨C,b4,b5⟩,b6,b7,b8⟩,b9⟩
  exact⟨a1,a2,a3,o,vs,C,b1,b2,b3,b4,b5,b6,b7,b8,b9⟩
inductive Nv(base:Heap)(K:Frag)(lg:Lg)(h:Heap)(L a:Addr)(r:Nat):Prop
 |mk (o:Obj) (vs:Array Value) (O:Tz base K lg h L a r o vs) (t:ug base lg h L a vs)
theorem Nv.at{base:Heap}{K:Frag}{lg:Lg}{h:Heap}{L a:Addr}{r:Nat}(x:Nv base K lg h L a r):FN base K lg h L a r:=let⟨o,vs,a,b⟩:=x;FN.iff.mpr ⟨o,vs,a,.inr b⟩
section
variable{S:my}{m:Str->Option Value}{env:An}{lg:Lg}{μ:MH}{s:Shared}{E:Value->Shared->Prop}{a:Addr}{r:Nat}
theorem RW{oT:Obj}{ts:Array Value}{x:Value}(I:S.I m env lg μ s.heap)(O:Tz S.base S.K lg s.heap S.e.locals a r o vs)(h1:vs[1]?=some (.ref T))(bT:S.base.get? T=none)(lT:lg.led T=none)(Ta:T≠a)(TL:T≠S.e.locals)
  (gT:s.heap.get? T=some oT) (dT:oT.data=.fields ts) (hz:3<ts.size) {Q:Unit->Shared->Prop}
  (h:∀h',S.I m env lg μ h'->Tz S.base S.K lg h' S.e.locals a r o vs->ug S.base lg h' S.e.locals a vs->(∀b p,b≠T->s.heap.get? b=some p->h'.get? b=some p)->Q () {s with heap:=h'}):wpAny S.M S.A (setField (.ref T) 3 x) Q E s:=by
 refine jE gT dT hz ?_
 have keep:∀b p,b≠T->s.heap.get? b=some p->(s.heap.update T (Obj.mapFields (·.setIfInBounds 3 x))).get? b=some p:=fun b p n q=>(iw _ _ (iQ n)).trans q
 have hT':=iA (Obj.mapFields (·.setIfInBounds 3 x)) gT (kz (jC dT _))
 refine h _ (I.keepsBut bT lT (iQ TL) keep) {O with at_:=keep a o (iQ Ta) O.at_} ⟨T,_,_,h1,bT,lT,Ta,TL,hT',jC dT _,by simpa using hz⟩ keep
theorem Ef{f:Option Addr}{Q:Unit->Shared->Prop}(I:S.I m env lg μ s.heap)(x:Nv S.base S.K lg s.heap S.e.locals a r)
  (h:∀h',S.I m env lg μ h'->Nv S.base S.K lg h' S.e.locals a r->Q () {s with heap:=h'}):wpAny S.M S.A (setFlight (.ref a) f) Q E s:=by
 obtain⟨o,vs,O,T,oT,ts,h1,bT,lT,Ta,TL,gT,dT,hz⟩:=x
 refine gE (iD O.at_ O.data h1 ?_)
 exact RW I O h1 bT lT Ta TL gT dT hz fun h' I' O' t _=>h h' I' ⟨o,vs,O',t⟩
theorem Oa{head:Value}{qO:Bool}{Q:Unit->Shared->Prop}(F:DV S.A S.e S.fr)(I:S.I m env lg μ s.heap)(O:Tz S.base S.K lg s.heap S.e.locals a r o vs)
  (h:∀h' ma,S.I m env ma μ h'->Ext lg ma->ma.mE=lg.mE->Nv S.base S.K ma h' S.e.locals a r->Q () {s with heap:=h'}) :
  wpAny S.M S.A (do let x <- frameOf S.e;let pl <- entryPlaceOf S.e.locals qO;let b <- EntryCells.newEntry head x .none (rawInt S.e.locals) .none pl;setField (.ref a) 1 b) Q E s:=by
 obtain⟨outer,tR,hx⟩:=F
 have hf:=(hx S.e (.head _)).2.1
 have hl:=Sz I (S.e :: outer) hx
 have mem:∀b∈(S.e :: outer).filterMap (·.frame),b=S.e.locals\/∃f∈S.fr,b=f.env.locals:=fun b hb=>by
  obtain⟨y,hy,e⟩:=List.mem_filterMap.mp hb
  have h1:=(hx y hy).1;have h2:=(hx y hy).2.1
  obtain rfl:=same h2 e
  rcases h1 with rfl|⟨f,hf,rfl⟩
  ·exact .inl rfl
  ·exact .inr ⟨f,hf,rfl⟩
 have naF:a∉(S.e :: outer).filterMap (·.frame):=fun hm=>by
  rcases mem a hm with z|⟨f,hf,z⟩
  ·exact O.l8 z
  ·obtain⟨⟨p,a1,_⟩,_⟩:=I.frames f hf
   have:=O.led;(rw[z]at this;replace this:=a1▸this);exact Ry this
 refine gE (wpAny_frameOf_fun tR hl hf fun h₁ qQ=>?_)
 refine gE (wpAny_entryPlaceOf fun pl hpl=>?_)
 refine gE (kS ?_ (hpl.sizeOk5 _ _ _ _ _))
 have he₁:h₁.get? a=some o:=(qQ.2.1 a naF).trans O.at_
 generalize s9:({cls:=.type "traceback",dict:=none,data:=.fields ([head,.ref S.e.locals,.none,rawInt S.e.locals,.none]++(if pl.isEmpty then List.replicate 6 Value.none else pl)).toArray}:Obj)=ob
 have tQ:=gN (h:=h₁) ob he₁
 refine jE tQ O.data (iB (by decide) O.size) ?_
 have hTe:h₁.objs.size≠a:=jU (hO he₁)
 have hd₃:=jC O.data (·.setIfInBounds 1 (Value.ref h₁.objs.size))
 have he₃:=iA (Obj.mapFields (·.setIfInBounds 1 (Value.ref h₁.objs.size))) tQ (kz hd₃)
 have hT₃:=(iw (h₁.push ob) (Obj.mapFields (·.setIfInBounds 1 (Value.ref h₁.objs.size))) (iQ hTe)).trans (ia h₁ (by refine s9▸?_;rfl))
 have o5:∀b p,b≠a->h₁.get? b=some p->((h₁.push ob).update a (Obj.mapFields (·.setIfInBounds 1 (Value.ref h₁.objs.size)))).get? b=some p:=fun b p n q=>
  (iw _ _ (iQ n)).trans (gN _ q)
 have vp:∀b,(lg.led b≠none\/S.base.get? b≠none)->b≠a:=fun b q z=>by
  rcases q with q|q
  ·exact q (z▸O.led)
  ·exact q (z▸O.base)
 obtain⟨ma,I',x',n',rV⟩:=I.slots (h':=(h₁.push ob).update a (Obj.mapFields (·.setIfInBounds 1 (Value.ref h₁.objs.size)))) (F:=(S.e :: outer).filterMap (·.frame)) mem
  (fun b p nb tr q=>o5 b p (vp b tr) ((qQ.2.1 b nb).trans q))
  (fun b p hb q=>by
   obtain⟨sl,g⟩:=qQ.2.2 b p q
   exact⟨sl,o5 b _ (fun z=>naF (z▸hb)) g⟩)
  (fun p nb q=>o5 _ p (iQ O.l8) ((qQ.2.1 _ nb).trans q))
 have sz:h₁.objs.size=s.heap.objs.size:=qQ.1
 have lT:lg.led h₁.objs.size=none:=by refine sz.symm▸?_;exact I.fresh
 have bT:S.base.get? h₁.objs.size=none:=by refine sz.symm▸?_;exact I.nS (Bl _)
 have tL:h₁.objs.size≠S.e.locals:=by
  obtain⟨on,g,_⟩:=H7.of I.ns
  have:=hO g
  refine sz.symm▸?_;exact jU this
 refine h _ ma I' x' rV ⟨_,_,⟨O.base,n' _ O.led,O.l8,he₃,O.lo,O.hi,?_,hd₃,by simpa using O.size,fun hr=>?_⟩,h₁.objs.size,ob,_,?_,bT,n' _ lT,hTe,tL,hT₃,by exact congrArg _ s9.symm,?_⟩
 ·obtain⟨C,c1,c2⟩:=O.cls
  exact⟨C,c1,(Obj.cls_mapFields ..).trans c2⟩
 ·have:=O.ctx hr
  simpa using this
 ·have:=O.size
  exact Array.getElem?_setIfInBounds_self_of_lt (by exact mU (mz _) (.add (.num 1) (.num 1)) mu (.add (.num 2) (.num 1)) mu rfl this)
 ·simp only[List.size_toArray,gF,gY,List.length_nil];exact qg (mz _) (.add (.num 3) (.num 1)) (.add (.add (.add (.add (.add (.add (.num 0) (.num 1)) (.num 1)) (.num 1)) (.num 1)) (.num 1)) (.var 0)) rfl
theorem IF{Q:Unit->Shared->Prop}(F:DV S.A S.e S.fr)(I:S.I m env lg μ s.heap)(x:FN S.base S.K lg s.heap S.e.locals a r)
  (h:∀h' ma,S.I m env ma μ h'->Ext lg ma->Nv S.base S.K ma h' S.e.locals a r->Q () {s with heap:=h'}):wpAny S.M S.A (noteFrame (.ref a) S.e) Q E s:=by
 obtain⟨o,vs,O,t⟩:=FN.iff.mp x
 obtain⟨outer,tR,hx⟩:=id F
 have hf:=(hx S.e (.head _)).2.1
 unfold noteFrame
 simp only[hf]
 rcases t with h1|⟨T,oT,ts,h1,bT,lT,Ta,TL,gT,dT,hz⟩
 ·refine gE (iD O.at_ O.data h1 ?_)
  exact Oa F I O fun h' ma I' x' _ e'=>h h' ma I' x' e'
 ·refine gE (iD O.at_ O.data h1 ?_)
  have h3:ts[3]?=some ts[3]:=by simp[hz]
  refine gE (iD gT dT h3 ?_)
  by_cases q:(ts[3]==rawInt S.e.locals)=true
  ·rw[iP q]
   exact gV (h s.heap lg I (Ext.refl _) ⟨o,vs,O,T,oT,ts,h1,bT,lT,Ta,TL,gT,dT,hz⟩)
  ·rw[iO q]
   refine gE (RW I O h1 bT lT Ta TL gT dT hz fun h' I' O' t' _=>?_)
   exact Oa (s:={s with heap:=h'}) F I' O' fun oB ma I'' x' _ e'=>h oB ma I'' x' e'
end
def FlR(base:Heap)(lg:Lg):K4->Flow->Prop
 |.next,.next=>True
 |.cont,.cont=>True
 |.ret v,.ret w=>Aw base lg v w
 |_,_=>False
inductive PS(S:my)(lg:Lg)(s:Shared)(Q:Au)(fl:Flow)(s':Shared):Prop
 |mk (h':Heap) (tk:Nat) (ma:Lg) (μ':MH) (m':Str->Option Value) (env':An) (mf:K4) (e:s'={s with heap:=h',toks:=tk}) (I:S.I m' env' ma μ' h') (x:Ext lg ma) (f:FlR S.base ma mf fl) (q:Q mf env' μ')
inductive ES(S:my)(lg:Lg)(s:Shared)(X:As)(v:Value)(s':Shared):Prop
 |mk (h':Heap) (tk:Nat) (ma:Lg) (μ':MH) (m':Str->Option Value) (env':An) (a:Addr) (r:Nat) (e:s'={s with heap:=h',toks:=tk}) (I:S.I m' env' ma μ' h') (x:Ext lg ma) (v:v=.ref a) (ex:FN S.base S.K ma h' S.e.locals a r) (q:X r μ')
theorem ES.of{S:my}{m:Str->Option Value}{X:As}(h:S.X m env lg s X v s'):ES S lg s X v s':=by
 obtain⟨h',tk,ma,μ',a,r,z1,z2,z3,z4,z5,z6⟩:=h
 exact⟨h',tk,ma,μ',m,env,a,r,z1,z2,z3,z4,z5,z6⟩
theorem PS.trans{h':Heap}{tk:Nat}{Q:Au}{fl:Flow}{s':Shared}(x:Ext lg ma)(h:PS S ma {s with heap:=h',toks:=tk} Q fl s'):PS S lg s Q fl s':=by
 obtain⟨oB,qW,pi,oh,m',env',mf,rfl,I,y,z,w⟩:=h
 exact⟨oB,qW,pi,oh,m',env',mf,rfl,I,x.trans y,z,w⟩
theorem ES.trans{h':Heap}{tk:Nat}{X:As}{v:Value}{s':Shared}(x:Ext lg ma)(h:ES S ma {s with heap:=h',toks:=tk} X v s'):ES S lg s X v s':=by
 obtain⟨oB,qW,pi,oh,m',env',a,r,rfl,I,y,z,w,u⟩:=h
 exact⟨oB,qW,pi,oh,m',env',a,r,rfl,I,x.trans y,z,w,u⟩
def my.Runs(S:my)(t:Sem Flow)(W:Au->As->An->MH->Prop):Prop:=
 ∀m env lg μ Q X,W Q X env μ->∀(s:Shared) (E:Value->Shared->Prop),S.I m env lg μ s.heap->S.H lg->(∀v s',ES S lg s X v s'->E v s')->wpAny S.M S.A t (PS S lg s Q) E s
structure B8(S:my)(FA:Nat->Addr)(Φs:Bool->Az)(hd:Bool):Prop where
 good:Bi S FA 2
 vi:S.Φ=Φs hd
 head:DV S.A S.e S.fr
 none:hd=false->S.A.handled=none
theorem my.nR.m7{S:my}{m:Str->Option Value}{env:An}{lg:Lg}{μ:MH}{α:Type}{t:Sem α}{P:Lg->MH->α->Prop}{X:As}{s:Shared}{E:Value->Shared->Prop}(d:S.nR t m env lg μ P X)
  (I:S.I m env lg μ s.heap) (H:S.H lg) (hX:∀v s',ES S lg s X v s'->E v s') {k:α->Shared->Prop}
  (h:∀a h1 mZ mJ μ1,Ext lg mJ->S.I m env mJ μ1 h1->S.H mJ->P mJ μ1 a->(∀Q fl s',PS S mJ {s with heap:=h1,toks:=mZ} Q fl s'->PS S lg s Q fl s')->
   (∀v s',ES S mJ {s with heap:=h1,toks:=mZ} X v s'->E v s')->k a {s with heap:=h1,toks:=mZ}):wpAny S.M S.A t k E s:=by
 refine gQ (d s E I H fun v s' z=>hX v s' (.of z)) (fun a s₁ hp=>?_) fun _ _ z=>z
 obtain⟨h',tk,qG,μ₁,rfl,I₁,x,p⟩:=hp
 exact h a h' tk qG μ₁ x I₁ (H.mono x) p (fun Q fl s' z=>z.trans x) (fun v s' z=>hX v s' (z.trans x))
theorem PS.next{S:my}{tk:Nat}{Q:Au}{m':Str->Option Value}(I:S.I m' env' ma μ' h')(x:Ext lg ma)(q:Q .next env' μ'):PS S lg s Q .next {s with heap:=h',toks:=tk}:=
 ⟨h',tk,ma,μ',m',env',.next,rfl,I,x,trivial,q⟩
theorem PS.stored{Q:Au}(h:IT S env' lg μ s s')(q:Q .next env' μ):PS S lg s Q .next s':=by
 obtain⟨h',tk,ma,m',rfl,I,x,_⟩:=h
 exact .next I x q
section
variable{S:my}{FA:Nat->Addr}{Φs:Bool->Az}{hd:Bool}
theorem B8.se(G:B8 S FA Φs hd)(h:AD 2 S.sc a x=true):∀m env lg μ Q X,we l9 (Φs hd) env a Q X μ->S.nR (eval x S.e) m env lg μ (PV S.base Q) X:=by
 have:=((ER FA a).1.e S 2 2 x G.good h).1
 unfold my.SE at this
 rwa [G.vi]at this
theorem B8.st(G:B8 S FA Φs hd)(h:AD 2 S.sc a x=true):∀m env lg μ Q X,wt l9 (Φs hd) env a Q X μ->S.nR (isTrue x S.e (eval x S.e)) m env lg μ (PB Q) X:=by
 have:=((ER FA a).1.e S 2 2 x G.good h).2
 unfold my.ST at this
 rwa [G.vi]at this
theorem fF:S.Runs (execs [] S.e) (ws l9 Φs hd .skip):=by
 intro m env lg μ Q X h s E I H hX
 exact kt ⟨s.heap,s.toks,lg,μ,m,env,.next,rfl,I,Ext.refl _,trivial,h⟩
theorem cE:S.Runs (exec (.Pass pos) S.e) (ws l9 Φs hd .skip):=by
 intro m env lg μ Q X h s E I H hX
 exact wpAny_Pass ⟨s.heap,s.toks,lg,μ,m,env,.next,rfl,I,Ext.refl _,trivial,h⟩
theorem cC:S.Runs (exec (.Continue pos) S.e) (ws l9 Φs hd .cont):=by
 intro m env lg μ Q X h s E I H hX
 exact wpAny_Continue ⟨s.heap,s.toks,lg,μ,m,env,.cont,rfl,I,Ext.refl _,trivial,h⟩
theorem cz{a b:MS}{st:Stmt}{rest:List Stmt}(ha:S.Runs (exec st S.e) (ws l9 Φs hd a))(hb:S.Runs (execs rest S.e) (ws l9 Φs hd b)):S.Runs (execs (st :: rest) S.e) (ws l9 Φs hd (.seq a b)):=by
 intro m env lg μ Q X h s E I H hX
 refine jA (gQ (ha _ _ _ _ _ _ h s E I H hX) (fun fl s1 z=>?_) fun _ _ e=>e)
 obtain⟨h1,mZ,mJ,μ1,m1,pS,mf,rfl,I1,x1,f,q⟩:=z
 induction mf with
 |next=>
  induction fl using Flow.casesOn<;>first|exact f.elim|skip
  exact gQ (hb _ _ _ _ _ _ q {s with heap:=h1,toks:=mZ} E I1 (H.mono x1) fun v s' z=>hX v s' (z.trans x1)) (fun _ _ z=>z.trans x1) fun _ _ e=>e
 |cont=>
  induction fl using Flow.casesOn<;>first|exact f.elim|skip
  exact⟨h1,mZ,mJ,μ1,m1,pS,.cont,rfl,I1,x1,trivial,q⟩
 |ret v=>
  induction fl using Flow.casesOn<;>first|exact f.elim|skip
  exact⟨h1,mZ,mJ,μ1,m1,pS,.ret v,rfl,I1,x1,f,q⟩
theorem fG{e:ME}(G:B8 S FA Φs hd)(he:AD 2 S.sc e x=true):S.Runs (exec (.Return (some x) pos) S.e) (ws l9 Φs hd (.ret e)):=by
 intro m env lg μ Q X h s E I H hX
 refine kT (gQ (G.se he _ _ _ _ _ _ h s E I H fun v s' z=>hX v s' (.of z)) (fun v s1 z=>?_) fun _ _ e=>e)
 obtain⟨h1,mZ,mJ,μ1,rfl,I1,x1,uv,ru,q⟩:=z
 exact⟨h1,mZ,mJ,μ1,m,env,.ret uv,rfl,I1,x1,ru,q⟩
theorem cF:S.Runs (exec (.Return none pos) S.e) (ws l9 Φs hd (.ret .none)):=by
 intro m env lg μ Q X h s E I H hX
 exact wpAny_Return_none ⟨s.heap,s.toks,lg,μ,m,env,.ret .none,rfl,I,Ext.refl _,.none,h⟩
theorem J3(h:FC x=true)(t:Option Expr)(line:Nat)(env:Env):swapsWith x t line env=pure false:=by
 induction x using Expr.casesOn<;>first|rfl|exact nomatch h
theorem fE{t:ME}{a b:MS}{t':Expr}{a' b':List Stmt}{pos:Pos}(G:B8 S FA Φs hd)(ht:AD 2 S.sc t t'=true)(ha:S.Runs (execs a' S.e) (ws l9 Φs hd a))(hb:S.Runs (execs b' S.e) (ws l9 Φs hd b)) :
  S.Runs (exec (.If t' a' b' pos) S.e) (ws l9 Φs hd (.ite t a b)):=by
 intro m env lg μ Q X h s E I H hX
 refine wpAny_If ((G.st ht _ _ _ _ _ _ h).m7 I H hX fun u h1 mZ mJ μ1 x1 I1 H1 p1 k1 mQ=>?_)
 induction u with
 |true=>exact gQ (ha _ _ _ _ _ _ p1 _ E I1 H1 mQ) (fun _ _ z=>k1 _ _ _ z) fun _ _ e=>e
 |false=>exact gQ (hb _ _ _ _ _ _ p1 _ E I1 H1 mQ) (fun _ _ z=>k1 _ _ _ z) fun _ _ e=>e
theorem cD{e:ME}{x:Expr}{pos:Pos}(G:B8 S FA Φs hd)(he:AD 2 S.sc e x=true)(hc:FC x=true):S.Runs (exec (.Expr x pos) S.e) (ws l9 Φs hd (.expr e)):=by
 intro m env lg μ Q X h s E I H hX
 refine wpAny_Expr_any ((G.se he _ _ _ _ _ _ h).m7 I H hX fun u h1 mZ mJ μ1 x1 I1 H1 p1 k1 mQ=>?_) (by unfold interactive;refine G.good.env.kind.symm▸?_;rfl) (J3 hc _ _ _)
 obtain⟨uv,ru,q⟩:=p1
 exact .next I1 x1 q
theorem Bi.toS(G:Bi S FA j):Bi S FA j:=G
theorem Dn{pos:Pos}{Q:Flow->Shared->Prop}{E:Value->Shared->Prop}(hs:swapsWith value (some t) pos.line S.e=pure false)(hw:swappedStores [t] value S.e=pure none)(uZ:∀e' p',t≠.Starred e' p')
  (h:wpAny S.M S.A (eval value S.e) (fun v s₁=>wpAny S.M S.A (assign t S.e v) (fun _=>Q .next) E s₁) E s):wpAny S.M S.A (exec (.Assign [t] value pos) S.e) Q E s:=by
 have e1:(assignEach [t] S.e).map (·.2)=[assign t S.e]:=by
  induction t using Expr.casesOn<;>first|rfl|(exact absurd rfl (uZ _ _))
 refine wpAny_Assign_stores (gQ h (fun v s₁ h₁=>?_) fun _ _ x=>x) hs hw
 refine e1.symm▸?_
 exact h₁
theorem OC{x:Nat}{e:ME}{n:Str}{v:Expr}{p pos:Pos}(G:B8 S FA Φs hd)(hn:Ez x n=true)(hl:S.sc.lookup n=some .local\/S.sc.lookup n=some .cell)(he:AD 2 S.sc e v=true)(hsw:swapsWith v (some (.Name n p)) pos.line S.e=pure false) :
  S.Runs (exec (.Assign [.Name n p] v pos) S.e) (ws l9 Φs hd (.assign x e)):=by
 intro m env lg μ Q X h s E I H hX
 have hx:=(AS hn).1;have hn:=(AS hn).2
 refine Dn hsw rfl (by intro _ _ z;cases z) ((G.se he _ _ _ _ _ _ h).m7 I H hX fun u h1 mZ mJ μ1 x1 I1 H1 p1 k1 mQ=>?_)
 obtain⟨uv,ru,q⟩:=p1
 exact gQ (Ck (s:={s with heap:=h1,toks:=mZ}) G.good hn hx hl I1 H1 ru) (fun _ _ z=>k1 _ _ _ (.stored z q)) fun _ _ e=>e
theorem Te{e:ME}(G:B8 S FA Φs hd)(hn:Ez a n=true)(ha:a∈EJ)(ho:AD 2 S.sc o o'=true)(he:AD 2 S.sc e v=true) :
  S.Runs (exec (.Assign [.Attribute o' n p] v pos) S.e) (ws l9 Φs hd (.setAttr o a e)):=by
 intro m env lg μ Q X h s E I H hX
 have hx:=(AS hn).1;have hn:=(AS hn).2
 subst hn
 refine Dn (by induction v using Expr.casesOn<;>rfl) (by induction v using Expr.casesOn<;>rfl) (by intro _ _ z;cases z) ((G.se he _ _ _ _ _ _ h).m7 I H hX fun u h1 mZ mJ μ1 x1 I1 H1 p1 k1 mQ=>?_)
 obtain⟨uv,ru,q⟩:=p1
 refine gE (ie ((G.se ho _ _ _ _ _ _ q).m7 I1 H1 mQ fun w h2 nK m5 μ2 x2 I2 H2 p2 k2 pv=>?_))
 obtain⟨wv,oO,q⟩:=p2
 refine gE (ic (gE (ie (gQ (Ki (s:={s with heap:=h2,toks:=nK}) G.good.base.cls G.good.base.qd I2 oO (ru.mono x2) ha q) (fun _ s3 z=>?_) fun _ _ e=>e))))
 obtain⟨h3,pN,py,μ3,rfl,I3,x3,q⟩:=z
 exact jW (k1 _ _ _ (k2 _ _ _ (.next I3 x3 q)))
theorem VM{e:ME}(G:B8 S FA Φs hd)(ho:AD 2 S.sc o o'=true)(hi:AD 2 S.sc i i'=true)(he:AD 2 S.sc e v=true) :
  S.Runs (exec (.Assign [.Subscript o' i' p] v pos) S.e) (ws l9 Φs hd (.nA o i e)):=by
 intro m env lg μ Q X h s E I H hX
 refine Dn (by induction v using Expr.casesOn<;>rfl) (by induction v using Expr.casesOn<;>rfl) (by intro _ _ z;cases z) ((G.se he _ _ _ _ _ _ h).m7 I H hX fun u h1 mZ mJ μ1 x1 I1 H1 p1 k1 mQ=>?_)
 obtain⟨uv,ru,q⟩:=p1
 refine gE (ie ((G.se ho _ _ _ _ _ _ q).m7 I1 H1 mQ fun w h2 nK m5 μ2 x2 I2 H2 p2 k2 pv=>?_))
 obtain⟨wv,oO,q⟩:=p2
 refine gE (ie ((G.se hi _ _ _ _ _ _ q).m7 I2 H2 pv fun y h3 pN py μ3 x3 I3 H3 p3 k3 sT=>?_))
 obtain⟨yv,ry,q⟩:=p3
 refine gE (ic (gE (ie (gQ (LM (s:={s with heap:=h3,toks:=pN}) I3 (oO.mono x3) ry ((ru.mono x2).mono x3) q) (fun _ s3 z=>?_) fun _ _ e=>e))))
 obtain⟨h4,uc,qU,μ4,rfl,I4,x4,q⟩:=z
 exact jW (k1 _ _ _ (k2 _ _ _ (k3 _ _ _ (.next I4 x4 q))))
theorem fB{e:ME}(G:B8 S FA Φs hd)(hn:Ez x n=true)(hl:S.sc.lookup n=some .local)(he:AD 2 S.sc e v=true) :
  S.Runs (exec (.AugAssign (.Name n p) op v pos) S.e) (ws l9 Φs hd (.aug x op e)):=by
 intro m env lg μ Q X h s E I H hX
 have hx:=(AS hn).1;have hn:=(AS hn).2
 subst hn
 obtain⟨u,hu,h⟩:=Aq h
 have hk:=G.good.env.l8 _ hl
 have hv:=(I.vars x u hu ⟨hx,.inl hk⟩).2
 rcases hv with⟨_,w,hw,oO⟩|⟨z,_⟩
 ·refine wpAny_AugAssign_Name (jK G.good.env.kind hk I.ns hw ?_)
  refine(G.se he _ _ _ _ _ _ h).m7 I H hX fun y h1 mZ mJ μ1 x1 I1 H1 p1 k1 mQ=>?_
  obtain⟨yv,ry,q⟩:=p1
  refine gQ (O8 (s:={s with heap:=h1,toks:=mZ}) I1 (oO.mono x1) ry q) (fun r s2 z=>?_) fun _ _ e=>e
  obtain⟨h2,nK,m5,μ2,rfl,I2,x2,rv,rr,q⟩:=z
  refine gQ (OR (s:={s with heap:=h2,toks:=nK}) G.good hx (.inl hl) I2 (H1.mono x2) rr) (fun _ _ z=>?_) fun _ _ e=>e
  exact k1 _ _ _ ((PS.stored z q).trans x2)
 ·replace z:=hk▸z;exact nomatch z
theorem Td{e:ME}(G:B8 S FA Φs hd)(hn:Ez a n=true)(ha:a∈EJ)(ho:AD 2 S.sc o o'=true)(he:AD 2 S.sc e v=true) :
  S.Runs (exec (.AugAssign (.Attribute o' n p) op v pos) S.e) (ws l9 Φs hd (.mH o a op e)):=by
 intro m env lg μ Q X h s E I H hX
 have hx:=(AS hn).1;have hn:=(AS hn).2
 subst hn
 refine wpAny_AugAssign_AttributeAny ((G.se ho _ _ _ _ _ _ h).m7 I H hX fun u h1 mZ mJ μ1 x1 I1 H1 p1 k1 mQ=>?_)
 obtain⟨uv,ru,q⟩:=p1
 obtain⟨w,hw,q⟩:=Aq q
 refine gQ (QR (s:={s with heap:=h1,toks:=mZ}) (Q:=fun z μ'=>z=w/\μ'=μ1) G.good.base.cls G.good.base.qd I1 ru ha hw ⟨rfl,rfl⟩) (fun old s2 z=>?_) fun _ _ e=>e
 obtain⟨h2,nK,m5,μ2,rfl,I2,x2,wv,oO,e1,e2⟩:=z
 subst e1 e2
 refine(G.se he _ _ _ _ _ _ q).m7 (s:={s with heap:=h2,toks:=nK}) I2 (H1.mono x2) (fun v s' z=>mQ v s' (ES.trans (h':=h2) (tk:=nK) x2 z)) fun y h3 pN py μ3 x3 I3 H3 p3 k3 sT=>?_
 obtain⟨yv,ry,q⟩:=p3
 refine gQ (O8 (s:={s with heap:=h3,toks:=pN}) I3 (oO.mono x3) ry q) (fun r s4 z=>?_) fun _ _ e=>e
 obtain⟨h4,uc,qU,μ4,rfl,I4,x4,rv,rr,q⟩:=z
 refine gQ (Ki (s:={s with heap:=h4,toks:=uc}) G.good.base.cls G.good.base.qd I4 (((ru.mono x2).mono x3).mono x4) rr ha q) (fun _ s5 z=>?_) fun _ _ e=>e
 obtain⟨h5,tk5,lg5,μ5,rfl,I5,x5,q⟩:=z
 exact k1 _ _ _ (PS.trans (h':=h2) (tk:=nK) x2 (k3 _ _ _ (.next I5 (x4.trans x5) q)))
theorem VL{e:ME}(G:B8 S FA Φs hd)(pe:FB i'=true)(ho:AD 2 S.sc o o'=true)(hi:AD 2 S.sc i i'=true)(he:AD 2 S.sc e v=true) :
  S.Runs (exec (.AugAssign (.Subscript o' i' p) op v pos) S.e) (ws l9 Φs hd (.mS o i op e)):=by
 intro m env lg μ Q X h s E I H hX
 refine wpAny_AugAssign_SubscriptAny ((G.se ho _ _ _ _ _ _ h).m7 I H hX fun u h1 mZ mJ μ1 x1 I1 H1 p1 k1 mQ=>?_) (fun _ _ _=>by induction i' using Expr.casesOn<;>first|rfl|exact nomatch pe)
 obtain⟨uv,ru,q⟩:=p1
 refine(G.se hi _ _ _ _ _ _ q).m7 I1 H1 mQ fun k h2 nK m5 μ2 x2 I2 H2 p2 k2 pv=>?_
 obtain⟨kv,rk,q⟩:=p2
 obtain⟨w,hw,q⟩:=Aq q
 rw[IN]at hw
 refine gQ (Wh (prog:=S.pg) (w:=S.w) (A:=S.A) (E:=E) (s:={s with heap:=h2,toks:=nK}) (Q:=fun z μ'=>z=w/\μ'=μ2) I2 (ru.mono x2) rk hw ⟨rfl,rfl⟩).rZ (fun old s3 z=>?_) fun _ _ e=>e
 obtain⟨h3,pN,py,μ3,rfl,I3,x3,wv,oO,e1,e2⟩:=z
 subst e1 e2
 refine(G.se he _ _ _ _ _ _ q).m7 (s:={s with heap:=h3,toks:=pN}) I3 (H2.mono x3) (fun v s' z=>pv v s' (ES.trans (h':=h3) (tk:=pN) x3 z)) fun y h4 uc qU μ4 x4 I4 H4 p4 k4 hX4=>?_
 obtain⟨yv,ry,q⟩:=p4
 refine gQ (O8 (s:={s with heap:=h4,toks:=uc}) I4 (oO.mono x4) ry q) (fun r s5 z=>?_) fun _ _ e=>e
 obtain⟨h5,tk5,lg5,μ5,rfl,I5,x5,rv,rr,q⟩:=z
 refine gQ (LM (s:={s with heap:=h5,toks:=tk5}) I5 ((((ru.mono x2).mono x3).mono x4).mono x5) (((rk.mono x3).mono x4).mono x5) rr q) (fun _ s6 z=>?_) fun _ _ e=>e
 obtain⟨h6,tk6,lg6,μ6,rfl,I6,x6,q⟩:=z
 exact k1 _ _ _ (k2 _ _ _ (PS.trans (h':=h3) (tk:=pN) x3 (k4 _ _ _ (.next I6 (x5.trans x6) q))))
end
section
variable{S:my}{FA:Nat->Addr}{Φs:Bool->Az}{hd:Bool}
theorem Q0{m:Str->Option Value}{s:Shared}{E:Value->Shared->Prop}(I:S.I m env lg μ s.heap)(x:Nv S.base S.K lg s.heap S.e.locals a r)
  (h:∀h',S.I m env lg μ h'->Nv S.base S.K lg h' S.e.locals a r->E (.ref a) {s with heap:=h'}):cameBackBy S.M S.A S.e E (.ref a) s:=by
 obtain⟨o,vs,O,T,oT,ts,h1,rest⟩:=id x
 refine gE (iD O.at_ O.data h1 ?_)
 exact Ef I x h
theorem JV{X:As}{E:Value->Shared->Prop}(F:DV S.A S.e S.fr)(hX:∀v s',ES S lg0 s0 X v s'->E v s')(h:ES S lg0 s0 X v s') :
  notedBy S.M S.A S.e (fun e s'=>cameBackBy S.M S.A S.e E e s') v s':=by
 obtain⟨h',tk,ma,μ',m',env',a,r,rfl,I,x,rfl,ex,q⟩:=h
 refine IF (s:={s0 with heap:=h',toks:=tk}) F I ex fun h2 m5 I2 x2 e2=>?_
 exact Q0 (s:={s0 with heap:=h2,toks:=tk}) I2 e2 fun h3 I3 e3=>hX _ _ ⟨h3,tk,m5,μ',m',env',a,r,rfl,I3,x.trans x2,rfl,e3.at,q⟩
def FW(Φs:Bool->Az)(hd:Bool)(xs:List Nat)(one:Bool)(b:MS)(X:As)(c:Option (Nat×List V))(items:List V)(Q:Au)(env:An)(μ:MH):Prop:=
 BA c (fun v K env' μ'=>opt (AC xs one v env') fun e=>ws l9 Φs hd b K X e μ') items Q env μ
theorem FW.nH{xs:List Nat}{one:Bool}{b:MS}{X:As}{c:Option (Nat×List V)}{items:List V}{Q:Au}{env:An}{μ:MH}(hw:FW Φs hd xs one b X c items Q env μ):HH c μ:=by
 induction items using List.casesOn with
 |nil=>exact(A2 hw).1
 |cons v rest=>exact(A2 hw).1
inductive FL(S:my)(Φs:Bool->Az)(hd:Bool)(xs:List Nat)(one:Bool)(b:MS)(X:As)(items:List V)(c:Option (Nat×List V))(it:Addr)(lgA:Lg)(s0:Shared)(Q:Au)(n:Nat)(s:Shared):Prop
 |mk (h':Heap) (tk:Nat) (ma:Lg) (μ':MH) (m':Str->Option Value) (env':An) (k:Nat) (o:Obj) (e:s={s0 with heap:=h',toks:=tk}) (I:S.I m' env' ma μ' h') (H:S.H ma) (x:Ext lgA ma) (hl:ma.led it=some o) (hit:AL S.base ma items c k o) (hn:n=items.length - k) (hk:k<=items.length)
  (hw:FW Φs hd xs one b X c (items.drop k) Q env' μ')
inductive FS(S:my)(xs:List Nat)(one:Bool)(items:List V)(c:Option (Nat×List V))(it:Addr)(lgA:Lg)(s0:Shared)(env0:An)(μ:MH)(k:Nat)(s:Shared):Prop
 |mk (v:V) (e:An) (lg:Lg) (m:Str->Option Value) (o:Obj) (h:Heap) (tk:Nat) (hv:items[k]?=some v) (he:AC xs one v env0=some e) (es:s={s0 with heap:=h,toks:=tk}) (I:S.I m e lg μ h) (H:S.H lg) (x:Ext lgA lg) (hl:lg.led it=some o) (hit:AL S.base lg items c (k+1) o)
theorem Uv{xs:List Nat}{one:Bool}{b:MS}{body:List Stmt}{it:Addr}{items:List V}{c:Option (Nat×List V)}{Q:Au}{X:As}{lgA:Lg}{s0:Shared}{E:Value->Shared->Prop}{k:Nat}{μ:MH}{env:An}{s:Shared}{T:Flow->Shared->Prop}
  (hb:S.Runs (execs body S.e) (ws l9 Φs hd b)) (hX:∀v s',ES S lgA s0 X v s'->E v s') (hw:FW Φs hd xs one b X c (items.drop k) Q env μ) (hs:FS S xs one items c it lgA s0 env μ k s)
  (next:∀f s',f=.next\/f=.cont->FL S Φs hd xs one b X items c it lgA s0 Q (items.length - (k+1)) s'->k+1<=items.length->T f s') (out:∀w s',PS S lgA s0 Q (.ret w) s'->T (.ret w) s') :
  wpAny S.M S.A (execs body S.e) T E s:=by
 obtain⟨v,e,tX,m₃,o₃,h₃,tC,hv,he,rfl,I₃,H₃,x₃,s8,pB⟩:=hs
 rw[GE hv]at hw
 obtain⟨e',sW,hwb⟩:=Aq (A2 hw).2
 cases he.symm.trans sW
 have oZ:=(List.getElem?_eq_some_iff.mp hv).1
 refine gQ (hb m₃ e tX μ _ X hwb {s0 with heap:=h₃,toks:=tC} _ I₃ H₃ fun v s' z=>hX _ _ (z.trans x₃)) (fun fl s₄ z=>?_) fun _ _ e=>e
 clear hb hX hw hwb
 obtain⟨h₄,qH,tn,μ₄,m₄,rB,mf,rfl,I₄,x₄,f,q⟩:=z
 have again:FW Φs hd xs one b X c (items.drop (k+1)) Q rB μ₄->FL S Φs hd xs one b X items c it lgA s0 Q (items.length - (k+1)) {s0 with heap:=h₄,toks:=qH}:=fun w₄=>
  ⟨h₄,qH,tn,μ₄,m₄,rB,k+1,o₃,rfl,I₄,H₃.mono x₄,x₃.trans x₄,x₄.oA _ _ pB.oA.1 s8,pB.mono x₄.v,rfl,oZ,w₄⟩
 induction mf with
 |next=>
  induction fl using Flow.casesOn<;>first|exact f.elim|skip
  exact next _ _ (.inl rfl) (again q) oZ
 |cont=>
  induction fl using Flow.casesOn<;>first|exact f.elim|skip
  exact next _ _ (.inr rfl) (again q) oZ
 |ret w=>
  induction fl using Flow.casesOn<;>first|exact f.elim|skip
  exact out _ _ ⟨h₄,qH,tn,μ₄,m₄,rB,.ret w,rfl,I₄,x₃.trans x₄,f,q⟩
theorem Uw{xs:List Nat}{one:Bool}{t:Expr}{b:MS}{body:List Stmt}{it:Addr}{items:List V}{c:Option (Nat×List V)}{Q:Au}{X:As}{lgA:Lg}{s0:Shared}{E:Value->Shared->Prop}(G:B8 S FA Φs hd)(hT:E4 S.sc xs one t=true)
  (hb:S.Runs (execs body S.e) (ws l9 Φs hd b)) (hA:lgA.led it=none) (hX:∀v s',ES S lgA s0 X v s'->E v s') (n:Nat) (s:Shared) (hs:FL S Φs hd xs one b X items c it lgA s0 Q n s) :
  codeAny S.M S.A (.forLoop t (.ref it) body [] S.e) (fun r s'=>match r with|.ok f=>PS S lgA s0 Q f s'|.error e=>cameBackBy S.M S.A S.e E e s') s:=by
 refine codeAny_loop' rfl (FL S Φs hd xs one b X items c it lgA s0 Q) (fun n s sS=>?_) n hs
 obtain⟨h',tk,ma,μ',m',env',k,o,rfl,I,H,xA,hl,hit,hn,hk,hw⟩:=sS
 refine lU ?_
 refine gE (ic (gE (wpAny_onRaise ?_)))
 refine gQ (Np (s:={s0 with heap:=h',toks:=tk}) (E:=fun e s'=>notedBy S.M S.A S.e (fun e s'=>cameBackBy S.M S.A S.e E e s') e s') G.good hT I H hl hit hw.nH
  (Qn:=fun s₁=>PS S lgA s0 Q .next s₁) (Qs:=fun _ s₃=>FS S xs one items c it lgA s0 env' μ' k s₃)
  (fun hle h1 mJ I1 pk x1=>?_) (fun v z hv pS uB s1 mJ m1 o1 I1 H1 x1 ⟨h1,mZ,e1⟩ q8 qp pk=>?_) fun v hv=>?_) (fun rr s₁ h₁=>?_) fun _ _ e=>ic e
 ·replace hw:=(kr hle)▸hw
  exact .next I1 (x1 lgA xA hA) (A2 hw).2
 ·cases e1
  exact⟨v,pS,mJ,m1,o1,h1,mZ,hv,uB,rfl,I1,H1,x1 lgA xA hA,q8,qp⟩
 ·replace hw:=(GE hv)▸hw
  obtain⟨e,he,_⟩:=Aq (A2 hw).2
  exact⟨e,he⟩
 ·induction rr with
  |none=>exact gV (.inr ⟨rfl,codeAny_block (kt h₁)⟩)
  |some z=>
   refine gE (gQ h₁ (fun _ s₂ h₂=>gE (gQ h₂ (fun _ s₃ h₃=>?_) fun _ _ e=>e)) fun _ _ e=>e)
   refine gE (Uv hb (fun v s' z=>JV G.head hX z) hw h₃ (fun f s' q cl lt=>?_) fun w s' z=>gV z)
   have le:items.length - (k+1)<n:=by refine hn.symm▸?_;exact kH lt (iS k)
   rcases q with rfl|rfl
   ·exact gV (.inl ⟨rfl,_,le,cl⟩)
   ·exact gV (.inl ⟨rfl,_,le,cl⟩)
theorem fD{xs:List Nat}{one:Bool}{t oF:Expr}{it:ME}{b:MS}{body:List Stmt}{pos:Pos}(G:B8 S FA Φs hd)(hT:E4 S.sc xs one t=true)(pe:Dx oF=true)(hit:AD 2 S.sc it oF=true)(hb:S.Runs (execs body S.e) (ws l9 Φs hd b)) :
  S.Runs (exec (.For t oF body [] pos) S.e) (ws l9 Φs hd (.mB xs one it b)):=by
 intro m env lg μ Q X h s E I H hX
 refine wpAny_For ((G.se hit _ _ _ _ _ _ h).m7 I H hX fun u h1 mZ mJ μ1 x1 I1 H1 p1 k1 mQ=>?_) (MV pe _)
 obtain⟨uv,ru,q⟩:=p1
 obtain⟨⟨items,c⟩,hi,hw⟩:=Aq q
 rw[Rj]at hw
 refine MG (s:={s with heap:=h1,toks:=mZ}) I1 ru hi fun a o h2 m5 na I2 x2 rJ pU rQ ke2=>?_
 refine codeAny_mono (Uw (lgA:=mJ) (s0:={s with heap:=h2,toks:=mZ}) (items:=items) (c:=c) (Q:=Q) (X:=X) (E:=E) (xs:=xs) (one:=one) (b:=b) G hT hb na (fun v s' z=>hX v s' ?_) (items.length - 0) _ ?_) fun r s' z=>?_
 ·exact ES.trans (h':=h1) (tk:=mZ) x1 (by
   obtain⟨h',tk,ma,μ',m',env',a,r,e1,z1,z2,z3,z4,z5⟩:=z
   exact⟨h',tk,ma,μ',m',env',a,r,e1,z1,z2,z3,z4,z5⟩)
 ·refine⟨h2,mZ,m5,μ1,m,env,0,o,rfl,I2,H1.mono x2,x2,rJ,pU,rfl,iq _,hw⟩
 ·induction r with
  |error e=>exact z
  |ok f=>
   refine k1 Q f s' ?_
   obtain⟨h',tk,ma,μ',m',env',mf,e1,z1,z2,z3,z4⟩:=z
   exact⟨h',tk,ma,μ',m',env',mf,e1,z1,z2,z3,z4⟩
end
section
variable{S:my}{FA:Nat->Addr}{Φs:Bool->Az}{hd:Bool}
inductive WL(S:my)(Φs:Bool->Az)(hd:Bool)(t:ME)(b:MS)(X:As)(lg0:Lg)(s0:Shared)(Q:Au)(n:Nat)(s:Shared):Prop
 |mk (h':Heap) (tk:Nat) (ma:Lg) (μ':MH) (m':Str->Option Value) (env':An) (e:s={s0 with heap:=h',toks:=tk}) (I:S.I m' env' ma μ' h') (H:S.H ma) (x:Ext lg0 ma)
  (hw:EI (fun K env' μ'=>wt l9 (Φs hd) env' t K X μ') (fun K env' μ'=>ws l9 Φs hd b K X env' μ') n Q env' μ')
theorem YK(G:B8 S FA Φs hd)(ht:AD 2 S.sc t t'=true)(hb:S.Runs (execs body S.e) (ws l9 Φs hd b)) :
  S.Runs (exec (.While t' body [] pos) S.e) (ws l9 Φs hd (.nt t b)):=by
 intro m env lg μ Q X h s E I H hX
 refine wpAny_While (codeAny_whileLoop (WL S Φs hd t b X lg s Q) (fun n s1 hI=>?_) 100 ⟨s.heap,s.toks,lg,μ,m,env,rfl,I,H,Ext.refl _,(LT _ _ _ _ _ _).mp h⟩)
 obtain⟨h',tk,ma,μ',m',env',rfl,I',H',x',hw⟩:=hI
 induction n using Nat.casesOn with
 |zero=>exact hw.elim
 |succ n=>
  refine gQ (G.st ht m' env' ma μ' _ X hw {s with heap:=h',toks:=tk} _ I' H' fun v s' z=>JV G.head hX ((ES.of z).trans x')) (fun u s2 z=>?_) fun _ _ e=>e
  obtain⟨h2,nK,m5,μ2,rfl,I2,x2,q⟩:=z
  induction u with
  |false=>
   have q':Q .next env' μ2:=q
   exact kt (.next I2 (x'.trans x2) q')
  |true=>
   have q':=q
   refine gQ (hb m' env' m5 μ2 _ X q' {s with heap:=h2,toks:=nK} _ I2 (H'.mono x2) fun v s' z=>JV G.head hX (z.trans (x'.trans x2))) (fun fl s3 z=>?_) fun _ _ e=>e
   obtain⟨h3,pN,py,μ3,m3,rA,mf,rfl,I3,x3,f,q⟩:=z
   have again:EI (fun K env' μ'=>wt l9 (Φs hd) env' t K X μ') (fun K env' μ'=>ws l9 Φs hd b K X env' μ') n Q rA μ3->∃k,k<n+1/\WL S Φs hd t b X lg s Q k {s with heap:=h3,toks:=pN}:=fun w=>
    ⟨n,iS n,h3,pN,py,μ3,m3,rA,rfl,I3,((H'.mono x2).mono x3),(x'.trans x2).trans x3,w⟩
   induction mf with
   |next=>
    induction fl using Flow.casesOn<;>first|exact f.elim|skip
    exact again q
   |cont=>
    induction fl using Flow.casesOn<;>first|exact f.elim|skip
    exact again q
   |ret w=>
    induction fl using Flow.casesOn<;>first|exact f.elim|skip
    exact⟨h3,pN,py,μ3,m3,rA,.ret w,rfl,I3,(x'.trans x2).trans x3,f,q⟩
theorem Ms{α β:Type}(f:α->Option β)(l:List α):(∃x∈l,f x=none)->(l.filterMap f).length<l.length:=by
 induction l with
 |nil=>exact fun nV=>by obtain⟨x,hx,_⟩:=nV;exact nomatch hx
 |cons a l ih=>
  intro h
  rw[iZ]
  cases hf:f a with
  |none=>exact Nat.lt_succ_of_le (List.length_filterMap_le f l)
  |some b=>
   obtain⟨x,hx,e⟩:=h
   refine ke (ih ((List.mem_cons.mp hx).elim (fun z=>?_) fun hx=>⟨x,hx,e⟩))
   exact AM (z▸e) hf
theorem Nm{e:Env}(En:QP e sc)(h:Wq sc es v=true):swappedStores [.Tuple es k p] v e=pure none:=by
 induction v using Expr.casesOn<;>first|rfl|skip
 obtain⟨x,hx,hc⟩:=List.any_eq_true.mp h
 revert hx
 refine AV hc fun n pp hc hx=>?_
 unfold swappedStores
 dsimp only
 split
 ·rfl
 ·split
  ·rfl
  ·refine iP ?_
   rw[ik]
   left
   rw[iu]
   refine i6 (Ms _ es ⟨_,hx,?_⟩)
   have kc:=En.cell n (.inl (gU hc))
   dsimp only
   rw[iO (by rw[kc];simp)]
theorem Tc{e:ME}(G:B8 S FA Φs hd)(hT:E4 S.sc xs false (.Tuple es k p)=true)(hto:Wq S.sc es v=true)(hnc:FC v=true)(he:AD 2 S.sc e v=true) :
  S.Runs (exec (.Assign [.Tuple es k p] v pos) S.e) (ws l9 Φs hd (.mA xs e)):=by
 intro m env lg μ Q X h s E I H hX
 refine Dn ?_ (Nm G.good.env hto) (by intro _ _ z;cases z) ((G.se he _ _ _ _ _ _ h).m7 I H hX fun u h1 mZ mJ μ1 x1 I1 H1 p1 k1 mQ=>?_)
 ·exact J3 hnc _ _ _
 ·obtain⟨uv,ru,q⟩:=p1
  obtain⟨env',hb,q⟩:=Aq q
  exact gQ (NS (s:={s with heap:=h1,toks:=mZ}) G.good hT hb I1 H1 ru) (fun _ _ z=>k1 _ _ _ (.stored z q)) fun _ _ e=>e
end
section
variable{S:my}{FA:Nat->Addr}{Φs:Bool->Az}{hd:Bool}
@[elab_as_elim] theorem W6{P:ME->Prop}(h:AD j sc a (.ListComp mF gens scope pos)=true)
  (k:∀elt xs one it cond,AD j sc (.comp elt xs one it cond) (.ListComp mF gens scope pos)=true->P (.comp elt xs one it cond)) (k':∀elt x1 pC x2 oa,AD j sc (.n9 elt x1 pC x2 oa) (.ListComp mF gens scope pos)=true->P (.n9 elt x1 pC x2 oa)):P a:=by
 induction a using ME.casesOn with
 |comp elt xs one it cond=>exact k _ _ _ _ _ h
 |n9 elt x1 pC x2 oa=>exact k' _ _ _ _ _ h
 |_=>with_unfolding_all exact Be h
theorem T8{use:Option (Value->Sem Unit)}{Qf:Value->Shared->Prop}{E:Value->Shared->Prop}{m:Str->Option Value}{s:Shared}{Q:Ae}{X:As}
  (G:Bi S FA j) (hc:AD jj S.sc a (.ListComp mF gens scope pos)=true) (h:we l9 S.Φ env a Q X μ) (I:S.I m env lg μ s.heap) (H:S.H lg) (hX:∀v s',S.X m env lg s X v s'->E v s')
  (qR:∀h' tk ma μ' D C r,S.I m env ma μ' h'->Ext lg ma->Q (.l8 r) μ'->ma.mE[r]?=some (D,D)->ma.led C=none->S.base.get? C=none->C≠S.e.locals->(∃mC,h'.Ns C mC)->S.H ma->
   compPost S.M S.A E use Qf (.ref D) C (.ok .next) {s with heap:=h',toks:=tk}) :
  wpAny S.M S.A (comprehension (.ListComp mF gens scope pos) scope S.e (firstIterPos gens pos) (newList []) (firstAsync gens) (firstIter gens S.e) use) Qf E s:=by
 revert h
 refine W6 hc ?_ ?_
 ·intro elt xs one it cond hc h
  refine B5 hc fun g k2=>El k2 fun t oF ifs k3=>?_
  induction jj using Nat.casesOn with
  |zero=>exact Be k3
  |succ jj=>
   obtain⟨h1,z⟩:=BW k3
   have h2:=(BW z).1;have z:=(BW z).2
   have h3:=(BW z).1;have z:=(BW z).2
   have h4:=(BW z).1;have z:=(BW z).2
   have h5:=(BW z).1;have z:=(BW z).2
   have h6:=(BW z).1;have h7:=(BW z).2
   refine Fv (use:=use) (W:=fun items c r Q' μ'=>Dr c r (fun v K μ'=>opt (AC xs one v (AG xs env)) fun e=>wt l9 S.Φ e cond K (fun _ _=>False) μ') (fun v K μ'=>opt (AC xs one v (AG xs env)) fun e=>we l9 S.Φ e elt K (fun _ _=>False) μ') items Q' μ')
    (Q:=Q) (X:=X) G rfl rfl rfl h1 h2 h3 ((ER FA it).1.e S j jj _ G h4).1 h I H hX ?_ qR
   intro T items c r a D o lgA lg0 μ0 m0 Q' s0 R GT om hA uW td hΦ hb I0 H0 x0 na hl hi hr hw hR
   refine ZT h5 (fun T j' GT om=>((ER FA elt).1.e T j' jj _ GT (by rw[om];exact h6)).1) (fun T j' GT om=>?_) T items c r a D o lgA lg0 μ0 m0 Q' s0 R GT om hΦ I0 H0 x0 na hl hi hr hw hR
   exact UE h7 fun c hc=>((ER FA cond).1.e T j' jj _ GT (by refine om.symm▸?_;exact hc)).2
 ·intro elt x1 pC x2 oa hc h
  refine HA hc fun g1 g2 k2=>El k2 fun t1 i1 rM k3=>El k3 fun t2 i2 rN k4=>AP k4 fun k5=>AP k5 fun k6=>?_
  induction jj using Nat.casesOn with
  |zero=>exact Be k6
  |succ jj=>
   obtain⟨h1,z⟩:=BW k6
   have h2:=(BW z).1;have z:=(BW z).2
   have h3:=(BW z).1;have z:=(BW z).2
   have h4:=(BW z).1;have z:=(BW z).2
   have h5:=(BW z).1;have z:=(BW z).2
   have h6:=(BW z).1;have z:=(BW z).2
   have h7:=(BW z).1;have z:=(BW z).2
   have h8:=(BW z).1;have z:=(BW z).2
   have h9:=(BW z).1;have sR:=(BW z).2
   refine Fv (use:=use) (xs:=[x1,x2]) (W:=fun items c r Q' μ'=>Hn c (PP S.Φ (AG [x1,x2] env) elt oa x1 x2 r) items Q' μ')
    (Q:=Q) (X:=X) G rfl rfl rfl h1 h3 h4 ((ER FA pC).1.e S j jj _ G h6).1 h I H hX ?_ qR
   intro T items c r a D o lgA lg0 μ0 m0 Q' s0 R GT om hA uW td hΦ hb I0 H0 x0 na hl hi hr hw hR
   replace hw:=(hΦ).symm▸hw
   refine Km hi (I0.led _ _ hl).1 (JD (lgA:=lgA) (env:=env) (Q:=Q') (items:=items) (c:=c) (r:=r) GT om (bne_iff_ne.mp h5) h7 h9 h2 (fun T j' GT om=>((ER FA elt).1.e T j' jj _ GT (by rw[om];exact sR)).1) (fun T j' GT om=>((ER FA oa).1.e T j' jj _ GT (by rw[om];exact h8)).1) na (fun h' tk ma μ' m' env' I' x' q' r'=>hR h' tk ma μ' m' env' I' x' q' r') (items.length - 0) s0 ?_)
   exact⟨s0.heap,s0.toks,lg0,μ0,m0,_,0,o,rfl,I0,H0,fun _ _ q=>q,x0,hl,hi,hr,rfl,iq _,hw⟩
theorem Tb{e:ME}(G:B8 S FA Φs hd)(hn:Ez x n=true)(hl:S.sc.lookup n=some .local\/S.sc.lookup n=some .cell)(he:AD 2 S.sc e (.ListComp mF gens scope qL)=true) :
  S.Runs (exec (.Assign [.Name n p] (.ListComp mF gens scope qL) pos) S.e) (ws l9 Φs hd (.assign x e)):=by
 obtain⟨b,hb⟩:∃b:Bool,swapsWith (.ListComp mF gens scope qL) (some (.Name n p)) pos.line S.e=pure b:=
  ⟨S.e.blockKind==.function&&S.e.kindOf n==some .local&&p.line==(Expr.ListComp mF gens scope qL).pos.line&&!(scope.names.any fun(n',k)=>n'==n&&(k==.local||k==.cell)),by rfl⟩
 induction b with
 |false=>exact OC G hn hl he hb
 |true=>
  intro m env lg μ Q X h s E I H hX
  have hx:=(AS hn).1;have hn:=(AS hn).2
  refine gE (ic ?_)
  have hs:swapsWithSole [.Name n p] (.ListComp mF gens scope qL) pos.line S.e=pure true:=hb
  refine hs.symm▸?_
  refine gE (gV ?_)
  refine gE (gE ?_)
  refine T8 G.good he (by rw[G.vi];exact h) I H (fun v s' z=>hX v s' (.of z)) ?_
  intro h' tk ma μ' D C r I' x' q hr c1 c2 c3 hC H'
  obtain⟨mC,hC⟩:=hC
  refine gQ (Ck (s:={s with heap:=h',toks:=tk}) G.good hn hx hl I' H' (.l8 r D D hr)) (fun _ s2 z=>?_) fun _ _ e=>e
  obtain⟨h2,nK,m5,m2,rfl,I2,x2,n2,rQ⟩:=z
  obtain⟨oC,es,ep,g,dd,rr⟩:=hC
  refine⟨mC,⟨oC,es,ep,rQ C oC c3 c1 g,dd,rr⟩,fun h3 uY=>?_⟩
  exact gV (gV (.next (I2.keepsBut c2 (n2 C c1) (iQ c3) fun b o nb q=>(uY.2 b nb).trans q) (x'.trans x2) q))
end
inductive Ty(K:Frag)(C:Addr)(bm:List Value):Prop
 |mk nm q N bs uJ sn sub ab col dd k0 k1 k2 k3 k5 newId (h:K.lookup C=some (excClassObj nm q C N bs bm uJ sn sub ab col dd k0 k1 k2 k3 k5 newId)) (b:bm.contains (.type "BaseException")=true)
structure IP(K:Frag):Prop where
 cls:∀c C,1<=c->c<=3->E7 K c C->∃bm,Ty K C bm/\∀d D,1<=d->d<=3->E7 K d D->(Value.ref C :: bm).contains (.ref D)=DX c d
set_option maxHeartbeats 2000000 in
theorem JG{E:Value->Shared->Prop}{K:Frag}{o:Obj}{s:Shared}{Q:Bool->Shared->Prop}(hK:∀b p,K.lookup b=some p->s.heap.get? b=some p)
  (hC:Ty K C bm) (hD:Ty K D bm') (he:s.heap.get? a=some o) (rH:o.cls=.ref C) (hq:Q ((Value.ref C :: bm).contains (.ref D)) s):wpAny M A (excMatches (.ref a) (.ref D)) Q E s:=by
 obtain⟨_,_,_,_,_,_,_,_,_,_,_,_,_,_,_,_,c1,_⟩:=hC
 obtain⟨_,_,_,_,_,_,_,_,_,_,_,_,_,_,_,_,d1,d2⟩:=hD
 have c1:=hK _ _ c1
 have d1:=hK _ _ d1
 have uH:(Value.ref D :: bm').contains (.type "BaseException")=true:=by rw[iN,d2,jz]
 have f:=tc_notTuple
 obtain⟨h,g,d,t,os⟩:=s
 unfold excMatches
 repeat(first|(with_reducible refine iV he ?_;refine rH.symm▸?_)|with_reducible refine iV d1 ?_|(with_reducible refine iX d1 ?_;refine uH.symm▸?_)|with_reducible refine iX c1 ?_|wp_step)
 cases hb:(Value.ref C :: bm).contains (.ref D)<;>(rw[hb]at hq;wp_walk;exact hq)
section
variable{base:Heap}{K:Frag}{e:Env}{m:Str->Option Value}{fr:List oq}{env:An}{lg:Lg}{μ:MH}{h:Heap}
theorem Inv.adopt(I:Inv base K e m fr env lg μ h)(hf:lg.led a=none)(hb:base.get? a=none)(nL:e.locals≠a)(g:h.get? a=some o):Inv base K e m fr env (lg.put a o) μ h:=by
 have x:Ext lg (lg.put a o):=Ext.mP o hf
 have keep:∀b p,lg.led b=some p->(lg.put a o).led b=some p:=fun b p q=>by
  rw[Lg.mj];exact q
  rintro rfl;exact AM hf q
 refine⟨I.old,I.ns,I.nN,by rw[Lg.mj _ _ nL];exact I.mN,fun b p q=>?_,fun f pJ=>?_,I.dist,I.apart,fun x' v q ss=>(I.vars x' v q ss).mono x fun b p _ z=>keep b p z,?_⟩
 ·by_cases z:b=a
  ·cases z
   rw[Lg.mm]at q
   obtain rfl:=Option.some.inj q
   exact⟨g,hb⟩
  ·rw[Lg.mj _ _ z]at q
   exact I.led b p q
 ·obtain⟨⟨p,a1,a2⟩,a3⟩:=I.frames f pJ
  exact⟨⟨p,keep _ _ a1,a2⟩,fun c o q=>⟨keep _ _ (a3 c o q).1,(a3 c o q).2⟩⟩
 ·refine⟨I.heap.len,I.heap.nodup,fun n' p q=>?_⟩
  obtain⟨a',d,a1,a2⟩:=I.heap.each n' p q
  exact⟨a',d,a1,a2.mono x fun p z=>keep _ _ z⟩
end
noncomputable def my.under(S:my)(a:Addr)(Φ:Az):my:={S with A:=S.A.mark (some (.ref a)),Φ:=Φ}
section
variable{S:my}{FA:Nat->Addr}{Φs:Bool->Az}
theorem PS.under{Φ:Az}{Q:Au}(z:PS (S.under a Φ) lg s Q f s'):PS S lg s Q f s':=by
 obtain⟨z1,z2,z3,z4,z5,z6,z7,z8,z9,y1,y2,y3⟩:=z
 exact⟨z1,z2,z3,z4,z5,z6,z7,z8,z9,y1,y2,y3⟩
theorem ES.under{Φ:Az}{X:As}(z:ES (S.under a Φ) lg s X v s'):ES S lg s X v s':=by
 obtain⟨z1,z2,z3,z4,z5,z6,z7,z8,z9,y1,y2,y3,y4,y5⟩:=z
 exact⟨z1,z2,z3,z4,z5,z6,z7,z8,z9,y1,y2,y3,y4,y5⟩
theorem Uz{Φ:Az}{X:As}{E:Value->Shared->Prop}(F:DV S.A S.e S.fr)(hX:∀v s',ES S lg0 s0 X v s'->E v s')(h:ES S lg0 s0 X v s') :
  notedBy S.M (S.under a0 Φ).A S.e (cameBackBy S.M S.A S.e E) v s':=by
 obtain⟨h',tk,ma,μ',m',env',a,r,rfl,I,x,rfl,ex,q⟩:=h
 refine IF (S:=S.under a0 Φ) (s:={s0 with heap:=h',toks:=tk}) F I ex fun h2 m5 I2 x2 e2=>?_
 exact Q0 (S:=S) (s:={s0 with heap:=h2,toks:=tk}) I2 e2 fun h3 I3 e3=>hX _ _ ⟨h3,tk,m5,μ',m',env',a,r,rfl,I3,x.trans x2,rfl,e3.at,q⟩
theorem KU(q:Ht h=true):h=.seq (.ret .none) .skip:=by
 induction h using MS.casesOn with
 |seq a b=>induction a using MS.casesOn with
  |ret e=>induction e using ME.casesOn with
   |none=>induction b using MS.casesOn with
    |skip=>rfl
    |_=>exact Be q
   |_=>exact Be q
  |_=>exact Be q
 |_=>exact Be q
theorem VV{T:Flow->Shared->Prop}{E:Value->Shared->Prop}(h1:T5 S.sc (.ret .none) b₀=true)(h2:Ii S.sc .skip body=true)(fin:T (.ret .none) s):wpAny S.M A (execs (b₀ :: body) S.e) T E s:=by
 refine AP h2 fun _=>Ka h1 fun v p h=>?_
 induction v with
 |none=>exact jA (wpAny_Return_none fin)
 |some v=>
  refine Dz h fun c p1 p2 h=>?_
  obtain rfl:=Lp h
  exact jA (kT (lZ fin))
theorem VN{e:ME}(G:B8 S FA Φs false)(EF:IP S.K)(uF:1<=c)(uG:c<=3)(hn:n=Str.ofString (EM c))(hg:S.sc.lookup n=some .globalImplicit)
  (he:AD 2 S.sc e v=true) (hb:Ii S.sc h (b₀ :: body)=true) (hh:∀a,(S.under a (Φs true)).Runs (execs (b₀ :: body) S.e) (ws l9 Φs true h)) :
  S.Runs (exec (.Try [.Return (some v) rp] [.ExceptHandler (some (.Name n np)) none (b₀ :: body) hp] [] [] pos) S.e) (ws l9 Φs false (.nB e c h)):=by
 obtain⟨mg,mb,n1,n2,_,_,_,n5⟩:=G.good.base.names
 obtain⟨D,hD,hw⟩:=n5 c uF uG
 obtain⟨bm',kD,_⟩:=EF.cls c D uF uG hD
 intro m env lg μ Q X h0 s E I H hX
 replace h0:=(A6 h0).2
 refine wpAny_Try_except (jA (kT (gQ (G.se he _ _ _ _ _ _ h0 s _ I H fun v1 s1 z=>?_) (fun v1 s1 z=>?_) fun _ _ e=>e)))
 ·obtain⟨h1,tk,mJ,μ1,a,r,rfl,I1,x1,rfl,ex,q⟩:=z
  refine IF (s:={s with heap:=h1,toks:=tk}) G.head I1 ex fun h2 m5 I2 x2 e2=>?_
  refine Ef (s:={s with heap:=h2,toks:=tk}) I2 e2 fun h3 I3 e3=>?_
  have H3:=H.mono (x1.trans x2)
  refine wpAny_handleBy_cons (codeAny_handlers_test ?_) (by intro q;exact nomatch q)
  refine iH G.good.env.kind (G.good.env.l9 _ hg) (jD (by rw[G.good.env.globals];exact CO n1 I3.old) (by rw[hn];exact hw) ?_) (by
   refine hn.symm▸?_;obtain rfl|rfl|rfl:c=1\/c=2\/c=3:=by lia
   all_goals decide)
  obtain⟨o,vs,O,t⟩:=id e3
  obtain⟨C,hC,rH⟩:=O.cls
  obtain⟨bm,kC,fC⟩:=EF.cls (r % 10) C O.lo O.hi hC
  refine JG (fun b p z=>I3.old b p (G.good.base.qd b p z)) kC kD O.at_ rH ?_
  (refine(fC c D uF uG hD).symm▸?_;refine(show DX (r % 10) c=DX r c from by unfold DX;rw[Nat.mod_mod]).symm▸?_)
  cases hcc:DX r c with
  |false=>
   replace q:=hcc▸q
   refine wpAny_handleBy_nil ?_
   obtain⟨T,oT,ts,qN,rest⟩:=id t
   refine gE (iD O.at_ O.data qN ?_)
   refine gE (Ef (s:={s with heap:=h3,toks:=tk}) I3 e3 fun h4 I4 e4=>lS (hX _ _ ⟨h4,tk,m5,μ1,m,env,a,r,rfl,I4,x1.trans x2,rfl,e4.at,q⟩))
  |true=>
   replace q:=hcc▸q
   have q1:=(A6 q).1;have q2:=(A6 q).2
   show codeAny S.M (S.under a (Φs true)).A (.handlers (.ref a) [.ExceptHandler none none (b₀ :: body) hp] S.e) _ _
   refine codeAny_handlers_suite (Ef (S:=S.under a (Φs true)) (s:={s with heap:=h3,toks:=tk}) I3 e3 fun h4 I4 e4=>?_)
   by_cases hr:decide (r<10)=true
   ·obtain⟨o4,vs4,O4,t4⟩:=id e4
    have I5:=Inv.adopt I4 O4.led O4.base (iQ O4.l8) O4.at_
    have x5:Ext m5 (m5.put a o4):=Ext.mP o4 O4.led
    obtain⟨C4,_,hc4⟩:=O4.cls
    have oA:Mine.pI o4:=⟨by refine hc4.symm▸?_;exact nofun,fun es k z=>(by replace z:=O4.data▸z;exact nomatch z),fun v z=>(by replace z:=O4.data▸z;exact nomatch z)⟩
    have H5:(S.under a (Φs true)).H (m5.put a o4):=⟨.inr ⟨a,o4,vs4,rfl,⟨oA,.inl (Lg.mm _ _ _)⟩,O4.data,O4.ctx (gO hr)⟩,(H3.mono x5).own⟩
    refine gQ (hh a m env _ μ1 Q X q2 {s with heap:=h4,toks:=tk} _ I5 H5 fun v s' z=>?_) (fun f s2 z=>?_) fun _ _ e=>e
    ·exact Uz (S:=S) (lg0:=lg) (s0:=s) (X:=X) G.head hX (ES.trans (S:=S) ((x1.trans x2).trans x5) z.under)
    ·exact PS.trans (S:=S) ((x1.trans x2).trans x5) z.under
   ·have hq:=((ik _ _).mp q1).resolve_left hr
    cases KU hq
    have fin:PS S lg s Q (.ret .none) {s with heap:=h4,toks:=tk}:=⟨h4,tk,m5,μ1,m,env,.ret .none,rfl,I4,x1.trans x2,.none,q2⟩
    have uB:=(BW (a:=T5 S.sc (.ret .none) b₀) hb).1;have uC:=(BW (a:=T5 S.sc (.ret .none) b₀) hb).2
    exact VV uB uC fin
 ·obtain⟨h1,mZ,mJ,μ1,rfl,I1,x1,uv,ru,q⟩:=z
  exact⟨h1,mZ,mJ,μ1,m,env,.ret uv,rfl,I1,x1,ru,q⟩
end
section
variable[deq:DecidableEq Str]
noncomputable def Mi:List Nat->List Arg->Bool
 |[],as=>BM as true
 |x :: xs,as=>BL as fun a as=>Ez x a.arg&&Mi xs as
noncomputable def N1(fd:FuncData)(ps:List Nat):Bool:=
 Mi ps fd.params.args&&fd.params.posonlyargs.isEmpty&&fd.params.vararg.isNone&&fd.params.kwonlyargs.isEmpty&&fd.params.kwarg.isNone&&(fd.defaults==.none)&&
 fd.closure.isEmpty&&(fd.globals==mainGlobals)&&(fd.builtins==builtinsNs)&&(fd.scope.kind==.function)&&!fd.scope.isCoroutine&&!fd.scope.isGenerator&&
 decide ps.Nodup&&ps.all (fun x=>fd.scope.names.lookup (nm x)==some .local||fd.scope.names.lookup (nm x)==some .cell)&&
 fd.scope.names.all fun(n,k)=>fd.scope.names.lookup n==some k&&(k==.local||k==.cell||k==.globalImplicit)
end
theorem KQ{xs:List Nat}:∀{as:List Arg},Mi xs as=true->as.map (·.arg)=xs.map nm/\∀x∈xs,x<Bg.length:=by
 induction xs with
 |nil=>exact fun h=>AP h fun _=>⟨rfl,fun _ h=>nomatch h⟩
 |cons x xs ih=>
  intro as h
  refine A1 (l:=as) h fun a as h=>?_
  have i:=AS (Al h)
  have j:=ih (Aa h)
  exact⟨congr (congrArg List.cons i.2) j.1,fun y hy=>(List.mem_cons.mp hy).elim (fun e=>e▸i.1) (j.2 y)⟩
structure Gl(fd:FuncData)(ps:List Nat):Prop where
 args:fd.params.args.map (·.arg)=ps.map nm
 lt:∀x∈ps,x<Bg.length
 po:fd.params.posonlyargs=[]
 va:fd.params.vararg=none
 ko:fd.params.kwonlyargs=[]
 kw:fd.params.kwarg=none
 df:fd.defaults=.none
 clo:fd.closure=[]
 gl:fd.globals=mainGlobals
 bl:fd.builtins=builtinsNs
 kind:fd.scope.kind=.function
 co:fd.scope.isCoroutine=false
 gen:fd.scope.isGenerator=false
 nodup:ps.Nodup
 par:∀x∈ps,fd.scope.names.lookup (nm x)=some .local\/fd.scope.names.lookup (nm x)=some .cell
 vf:∀n k,(n,k)∈fd.scope.names->fd.scope.names.lookup n=some k/\(k=.local\/k=.cell\/k=.globalImplicit)
theorem Mx(h:N1 fd ps=true):Gl fd ps:=by
 unfold N1 at h
 simp only[gP,io,ik,iC,hV,jq,List.isEmpty_iff,Option.isNone_iff_eq_none]at h
 obtain⟨⟨⟨⟨⟨⟨⟨⟨⟨⟨⟨⟨⟨⟨h1,h2⟩,h3⟩,h4⟩,h5⟩,h6⟩,h7⟩,h8⟩,h9⟩,sR⟩,h11⟩,h12⟩,h13⟩,h14⟩,h15⟩:=h
 obtain⟨a1,a2⟩:=KQ h1
 exact⟨a1,a2,h2,h3,h4,h5,h6,h7,h8,h9,sR,h11,h12,h13,h14,fun n k hm=>by have:=h15 (n,k) hm;exact⟨this.1,or_assoc.mp this.2⟩⟩
theorem MU{ps:List Nat}(lt:∀x∈ps,x<Bg.length)(nd:ps.Nodup):(ps.map nm).Nodup:=by
 induction ps with
 |nil=>exact lm
 |cons x xs ih=>
  rw[jO]at nd
  rw[ja,jO]
  refine⟨fun hm=>?_,ih (fun y hy=>lt y (gH _ hy)) nd.2⟩
  obtain⟨y,hy,e⟩:=List.mem_map.mp hm
  exact nd.1 ((Hz (lt y (gH _ hy)) (lt x (.head _)) e)▸hy)
theorem PM{α β:Type}{f g:α->Option β}{l:List α}(h:∀x∈l,f x=g x):l.filterMap f=l.filterMap g:=by
 induction l with
 |nil=>rfl
 |cons a l ih=>rw[iZ,iZ,h a (.head _),ih fun x m=>h x (.tail _ m)]
theorem QL{α:Type}{ns:List Str}:∀{vs:List α} (_:ns.length=vs.length) (_:ns.Nodup),ns.filterMap (fun n=>((ns.zip vs).lookup n).map (n,·))=ns.zip vs:=by
 induction ns with
 |nil=>exact fun _ _=>rfl
 |cons n ns ih=>
  intro vs hl nd
  induction vs using List.casesOn with
  |nil=>exact nomatch hl
  |cons v vs=>
   have nd:=List.nodup_cons.mp nd
   rw[List.zip_cons_cons,iZ,ib,iy]
   refine congrArg ((n,v) :: ·) ((PM fun y hy=>?_).trans (ih (Nat.succ.inj hl) nd.2))
   rw[ib,show(y==n)=false from beq_eq_false_iff_ne.mpr fun q=>nd.1 (q▸hy)]
theorem Zu{α:Type}{ns:List Str}:∀{vs:List α} (_:ns.length=vs.length) {n:Str},n∈ns->((ns.zip vs).lookup n).isSome=true:=by
 induction ns with
 |nil=>exact fun _ _ h=>nomatch h
 |cons n' ns ih=>
  intro vs hl n h
  induction vs using List.casesOn with
  |nil=>exact nomatch hl
  |cons v vs=>
   rw[List.zip_cons_cons,ib]
   cases q:n==n' with
   |true=>rfl
   |false=>exact(List.mem_cons.mp h).elim (fun e=>De (q.symm.trans (beq_iff_eq.mpr e))) (ih (Nat.succ.inj hl))
theorem SW{ns:List Str}{ws:List Value}(hl:ns.length=ws.length):ns.filter (fun n=>((ns.zip ws).lookup n).isNone)=[]:=by
 rw[List.filter_eq_nil_iff]
 intro n hn
 have:=Zu hl hn
 cases q:(ns.zip ws).lookup n with
 |none=>replace this:=q▸this;exact De this
 |some _=>exact iT
theorem NU{y2:List Arg}{y5 y7}{x4 x5 x6 x7 x9 z1 z2 z3 z4 z5 z6}{ws:List Value}(nd:(y2.map (·.arg)).Nodup)(hl:(y2.map (·.arg)).length=ws.length) :
  bindArgs ⟨x1,x2,⟨[],y2,none,[],y5,none,y7⟩,x4,x5,x6,x7,.none,x9,z1,z2,z3,z4,z5,z6⟩ ⟨ws,[]⟩=pure ((y2.map (·.arg)).zip ws):=by
 refine(iO (c:=(decide (ws.length>(y2.map (·.arg)).length)&&true)=true) ?_).trans ?_
 ·rw[hl];simp
 generalize hd:List.drop (_ - _) (_:List Value)=D
 obtain rfl:D=[]:=hd.symm.trans List.drop_nil
 clear hd
 refine(iO (c:=(!(List.filter (fun n=>(((y2.map (·.arg)).zip ws).lookup n).isNone) ((y2.map (·.arg)).take (y2.map (·.arg)).length)).isEmpty)=true) ?_).trans ?_
 ·(refine(jH (gM _)).symm▸?_;refine(SW hl).symm▸?_);exact iT
 generalize hd:List.zip (List.drop _ _) (_:List Value)=D
 obtain rfl:D=[]:=hd.symm.trans List.zip_nil_right
 clear hd
 exact congrArg (fun x=>(pure x:Sem (List (Str×Value)))) ((congrArg (List.filterMap _) (gK _)).trans (QL hl nd))
theorem Jk{ps:List Nat}(F:Gl fd ps){ws:List Value}(hl:ps.length=ws.length):bindArgs fd ⟨ws,[]⟩=pure ((ps.map nm).zip ws):=by
 have nd:=MU F.lt F.nodup
 have sY:(ps.map nm).length=ws.length:=by rw[g6];exact hl
 have e1:=F.args
 have e2:=F.po
 have e3:=F.va
 have e4:=F.ko
 have e5:=F.kw
 have e6:=F.df
 clear F hl
 obtain⟨x1,x2,⟨y1,y2,y3,y4,y5,y6,y7⟩,x4,x5,x6,x7,x8,x9⟩:=fd
 obtain rfl:=e2
 obtain rfl:=e3
 obtain rfl:=e4
 obtain rfl:=e5
 obtain rfl:=e6
 rw[<- e1]at nd sY ⊢
 exact NU nd sY
section
variable{base:Heap}{K:Frag}{e:Env}{m:Str->Option Value}{fr:List oq}{env env':An}{lg:Lg}{μ:MH}{h:Heap}
open Classical in
noncomputable def Lg.nO(lg:Lg)(P:Addr->Prop)(h:Heap):Lg:={lg with led:=fun a=>if P a then h.get? a else lg.led a}
theorem Lg.nE{P:Addr->Prop}(p:P a):(lg.nO P h).led a=h.get? a:=by unfold Lg.nO;dsimp only;rw[iP p]
theorem Lg.nD{P:Addr->Prop}(p:¬P a):(lg.nO P h).led a=lg.led a:=by unfold Lg.nO;dsimp only;rw[iO p]
theorem Inv.nO(I:Inv base K e m fr env lg μ h)(P:Addr->Prop)(hP:∀a,P a->lg.led a=none/\base.get? a=none/\a≠e.locals):Inv base K e m fr env (lg.nO P h) μ h/\Ext lg (lg.nO P h)/\∀b o,lg.led b=some o->(lg.nO P h).led b=some o:=by
 have keep:∀b p,lg.led b=some p->(lg.nO P h).led b=some p:=fun b p q=>by
  rw[Lg.nD];exact q
  intro z;exact AM ((hP b z).1) q
 have x:Ext lg (lg.nO P h):=⟨fun b p _ q=>keep b p q,fun b p c q=>⟨p,c,keep b p q⟩,fun _ _ q=>q⟩
 refine⟨⟨I.old,I.ns,I.nN,?_,fun b p q=>?_,fun f hf=>?_,I.dist,I.apart,fun y v q ss=>(I.vars y v q ss).mono x fun b p _ z=>keep b p z,I.heap.len,I.heap.nodup,fun n p q=>?_⟩,x,keep⟩
 ·exact(Lg.nD fun z=>(hP _ z).2.2 rfl).trans (I.mN)
 ·by_cases z:P b
  ·rw[Lg.nE z]at q;exact⟨q,(hP b z).2.1⟩
  ·rw[Lg.nD z]at q;exact I.led b p q
 ·obtain⟨⟨p,a1,a2⟩,a3⟩:=I.frames f hf
  exact⟨⟨p,keep _ _ a1,a2⟩,fun c o q=>⟨keep _ _ (a3 c o q).1,(a3 c o q).2⟩⟩
 ·obtain⟨a',d,a1,a2⟩:=I.heap.each n p q
  exact⟨a',d,a1,a2.mono x fun ob z=>keep _ _ z⟩
end
theorem NT{kindOf:Str->Option NameKind}{ps:List Nat}:∀{as:List V} {ws:List Value} {e0 e1:An} {m0 c0:Str->Option Value},Ar base lg as ws->CQ ps as e0=some e1->(∀x∈ps,x<Bg.length)->
  (∀y v,y<Bg.length->e0 y=some v->(kindOf (nm y)=some .local->∃w,m0 (nm y)=some w/\Aw base lg v w)/\(kindOf (nm y)=some .cell->∃w,c0 (nm y)=some w/\Aw base lg v w))->
  ∀y v,y<Bg.length->e1 y=some v->(kindOf (nm y)=some .local->∃w,bindL kindOf ((ps.map nm).zip ws) m0 (nm y)=some w/\Aw base lg v w)/\(kindOf (nm y)=some .cell->∃w,bindC kindOf ((ps.map nm).zip ws) c0 (nm y)=some w/\Aw base lg v w):=by
 induction ps with
 |nil=>
  intro as ws e0 e1 m0 c0 _ h _ k
  induction as using List.casesOn with
  |nil=>obtain rfl:=Option.some.inj h;exact k
  |cons _ _=>exact Ao h
 |cons x ps ih=>
  intro as ws e0 e1 m0 c0 hr h lt k
  induction as using List.casesOn with
  |nil=>exact Ao h
  |cons v as=>
   obtain⟨w,ws',rfl,rv,rr⟩:=hr.mV
   have hx:=lt x (.head _)
   refine ih rr (show CQ ps as (Ad e0 x v)=some e1 from h) (fun y hy=>lt y (.tail _ hy)) fun y u hy hu=>?_
   by_cases q:y=x
   ·subst q
    obtain rfl:=Option.some.inj ((iP rfl).symm.trans hu)
    exact⟨fun kl=>⟨w,(congrFun (iP kl) _).trans (iP rfl),rv⟩,fun kc=>⟨w,(congrFun (iO fun z=>nomatch (Option.some.inj (z.symm.trans kc):NameKind.local=.cell)) _).trans (iP rfl),rv⟩⟩
   ·have hu:e0 y=some u:=(iO q).symm.trans hu
    have ne:¬nm y=nm x:=fun z=>q (Hz hy hx z)
    refine⟨fun kl=>((k y u hy hu).1 kl).imp fun w' z=>⟨?_,z.2⟩,fun kc=>((k y u hy hu).2 kc).imp fun w' z=>⟨?_,z.2⟩⟩
    ·by_cases y:kindOf (nm x)=some .local
     ·exact(congrFun (iP y) _).trans ((iO ne).trans z.1)
     ·exact(congrFun (iO y) _).trans z.1
    ·by_cases y:kindOf (nm x)=some .local
     ·exact(congrFun (iP y) _).trans z.1
     ·exact(congrFun (iO y) _).trans ((iO ne).trans z.1)
noncomputable def my.callee(S:my)(fd:FuncData)(L a:Addr)(m:Str->Option Value)(env:An)(lg:Lg)(Φ:Az)(A:Around):my:=
 {S with A:=A.deeper (callEnvC fd L a),e:=callEnvC fd L a,fr:=⟨S.e,m,AU env S.e lg⟩ :: S.fr,sc:=fd.scope.names,Φ:=Φ}
section
variable{S:my}{FA:Nat->Addr}{m:Str->Option Value}{env:An}{lg:Lg}{μ:MH}{s:Shared}{fd:FuncData}{ps:List Nat}{a:Addr}{A:Around}{Φ:Az}
theorem Fs(F:Gl fd ps):QP (callEnvC fd s.heap.objs.size a) fd.scope.names:=by
 refine⟨F.kind,F.gl,F.bl,fun n h=>h,fun n h=>?_,fun n h=>h⟩
 rcases h with h|h
 ·exact h
 ·have:=(F.vf n .free (AN h)).2;simp at this
theorem Pt(B:O3 S.A S.e S.fr)(hA:A.frames=S.A.frames)(F:Gl fd ps):DV (S.callee fd s.heap.objs.size a m env lg Φ A).A (S.callee fd s.heap.objs.size a m env lg Φ A).e (S.callee fd s.heap.objs.size a m env lg Φ A).fr:=by
 obtain⟨l,hl,hx⟩:=B
 refine⟨l,?_,fun x hm=>?_⟩
 ·show(A.frames.map (callEnvC fd s.heap.objs.size a :: ·))=_
  (refine hA.symm▸?_;refine hl.symm▸?_);rfl
 ·rcases List.mem_cons.mp hm with rfl|hm
  ·exact⟨.inl rfl,rfl,fun z=>by have:=F.kind;have z:fd.scope.kind=.module:=z;replace z:=this▸z;exact nomatch z⟩
  ·obtain⟨h1,h2⟩:=hx x hm
   refine⟨.inr ?_,h2⟩
   rcases h1 with rfl|⟨f,hf,rfl⟩
   ·exact⟨_,.head _,rfl⟩
   ·exact⟨f,gH _ hf,rfl⟩
theorem Uu{as:List V}{ws:List Value}{env':An}{s₁:Shared}(I:S.I m env lg μ s.heap)(H:S.H lg)(F:Gl fd ps)(hA:A.handled=S.A.handled)(hr:Ar S.base lg as ws)(he:CQ ps as (fun _=>none)=some env')
  (x:InCallC s (callEnvC fd s.heap.objs.size a).locals (bindL (callEnvC fd s.heap.objs.size a).kindOf ((ps.map nm).zip ws) fun _=>none) (callEnvC fd s.heap.objs.size a).cells (bindC (callEnvC fd s.heap.objs.size a).kindOf ((ps.map nm).zip ws) fun _=>none) s₁) :
  ∃ma,(S.callee fd s.heap.objs.size a m env lg Φ A).I (bindL (callEnvC fd s.heap.objs.size a).kindOf ((ps.map nm).zip ws) fun _=>none) env' ma μ s₁.heap/\Ext lg ma/\(S.callee fd s.heap.objs.size a m env lg Φ A).H ma:=by
 have keep:=x.toInCall.keep
 have I1:S.I m env lg μ s₁.heap:=I.keeps keep
 have none_of:∀a,s.heap.objs.size<=a->s.heap.get? a=none:=fun a ha=>by
  cases q:s.heap.get? a with
  |none=>rfl
  |some o=>exact absurd (hO q) (Nat.not_lt.mpr ha)
 have nh:∀a,s.heap.objs.size<=a->lg.led a=none:=fun a ha=>I.free (none_of a ha)
 have nC:∀a,s.heap.objs.size<=a->S.base.get? a=none:=fun a ha=>I.nS (none_of a ha)
 have oN:S.e.locals<s.heap.objs.size:=by obtain⟨o,g,_⟩:=H7.of I.ns;exact hO g
 let P:Addr->Prop:=fun a=>s.heap.objs.size<a/\∃o,s₁.heap.get? a=some o/\Da o
 obtain⟨I2,x2,tm⟩:=I1.nO P fun a ha=>⟨nh a (ki ha.1),nC a (ki ha.1),fun z=>absurd oN (Nat.not_lt.mpr (z▸ki ha.1))⟩
 have oU:∀n ca,(callEnvC fd s.heap.objs.size a).cells.lookup n=some ca->P ca/\s₁.heap.IsCell ca ((bindC (callEnvC fd s.heap.objs.size a).kindOf ((ps.map nm).zip ws) fun _=>none) n):=fun n ca q=>by
  have c:=x.cell n ca q
  obtain⟨o,ho,hd⟩:=id c
  exact⟨⟨x.above n ca (mem_of_lookup q),o,ho,_,hd⟩,c⟩
 have qT:(lg.nO P s₁.heap).led s.heap.objs.size=none:=by
  exact(Lg.nD fun z=>absurd z.1 (ip _)).trans (nh _ (gM _))
 have rel:=fun ma (xx:Ext (lg.nO P s₁.heap) ma)=>NT (lg:=ma) (kindOf:=(callEnvC fd s.heap.objs.size a).kindOf) (m0:=fun _=>none) (c0:=fun _=>none) (hr.mono (x2.trans xx)) he F.lt (fun y v _ q=>by exact Ao q)
 obtain⟨oL,I3,x3⟩:=I2.switch (cs:=AU env S.e lg) (e':=callEnvC fd s.heap.objs.size a) (m':=bindL (callEnvC fd s.heap.objs.size a).kindOf ((ps.map nm).zip ws) fun _=>none) (env':=env')
  (fun b o q=>by
   unfold AU at q ⊢
   split at q
   ·rename_i z;exact(iP z).trans (tm _ _ q)
   ·exact Ao q) x.toInCall.ns (nC _ (gM _)) qT (iQ (i6 oN))
  (fun f hf z=>by
   obtain⟨⟨o,a1,_⟩,_⟩:=I.frames f hf
   have:=hO (I.led _ _ a1).1
   rw[z]at this;exact ip _ this)
  (fun ma xx kk y v q ss=>by
   obtain⟨r1,r2⟩:=rel ma xx y v ss.1 q
   refine⟨ss.1,?_⟩
   rcases ss.2 with z|z
   ·exact .inl ⟨z,r1 z⟩
   ·obtain⟨w,hw,oO⟩:=r2 z
    obtain⟨ca,px⟩:=Bk fd.scope.names [] (s.heap.objs.size+1) (nm y) (.inl (AN z))
    obtain⟨hp,o,ho,hd⟩:=oU _ ca px
    rw[hw]at hd
    exact .inr ⟨z,ca,o,w,px,kk _ _ (by rw[Lg.nE hp];exact ho),hd,oO⟩)
 have own:K5 (callEnvC fd s.heap.objs.size a) fd.scope.names (⟨S.e,m,AU env S.e lg⟩ :: S.fr) (lg.nO P s₁.heap):=by
  refine⟨fun n ca _ q2 f hf=>?_,fun n n' ca q1 q2=>name_of_addr x.apart (mem_of_lookup q1) (mem_of_lookup q2),fun n q=>?_⟩
  ·have hp:=(oU n ca q2).1
   have ln:=nh ca (ki hp.1)
   cases z:f.cells ca with
   |none=>rfl
   |some o=>
    exfalso
    rcases List.mem_cons.mp hf with rfl|hf
    ·have z:AU env S.e lg ca=some o:=z
     unfold AU at z
     split at z
     ·replace z:=ln▸z;exact Ao z
     ·exact Ao z
    ·have:=((I.frames f hf).2 ca o z).1
     exact AM ln this
  ·rcases q with q|q
   ·obtain⟨ca,px⟩:=Bk fd.scope.names [] (s.heap.objs.size+1) n (.inl (AN q))
    have hp:=(oU _ ca px).1
    obtain⟨o,ho,hc⟩:=id hp.2
    exact⟨ca,o,px,hc,by exact(Lg.nE hp).trans (ho)⟩
   ·have:=(F.vf n .free (AN q)).2;simp at this
 refine⟨_,I3,x2.trans x3,⟨?_,own.mono x3⟩⟩
 rcases H.hl.mono (x2.trans x3)with z|⟨b,o,arr,z,r⟩
 ·exact .inl (hA.trans z)
 ·exact .inr ⟨b,o,arr,hA.trans z,r⟩
end
inductive O2(K:Frag)(C:Addr)(bm:List Value):Prop
 |mk nm q N bs sn sub col dd k0 k1 k2 k3 k5 (h:K.lookup C=some (excClassObj nm q C N bs bm true sn sub false col dd k0 k1 k2 k3 k5 "Exception.__new__"))
structure HM(K:Frag)(C fI:Addr)(bm:List Value):Prop where
 obj:O2 K C bm
 hasB:bm.contains (.type "Exception")=true
 hasBase:bm.contains (.type "BaseException")=true
 noAttr:bm.contains (.type "AttributeError")=false
 noName:bm.contains (.type "NameError")=false
 init:findIn K (.ref C) "__init__"=some (some (.ref fI))
 fn:typeIn K (.ref fI)=some (.type "function")
 call:specialIn K (.ref C) "__call__"=some (some (.builtin "type.__call__"))
 typ:instIn K (.ref C) (.type "type")=some true
 tt:typeIn K (.ref C)=some (.type "type")
 set:findIn K (.ref C) "__setattr__"=some (some (.builtin "object.__setattr__"))
 free:findIn K (.ref C) "text"=some none
section
variable{prog:Program}{w:World}{A:Around}{E:Value->Shared->Prop}{R:Result->Shared->Prop}{K:Frag}{C fI:Addr}{bm:List Value}{h:Heap}{g:Array GenState}{d:Drawn}{t:Nat}{os:OsState}
theorem Oc{M:Model}{nm q:Str}{N:Addr}{bs:List Value}{sn:List Str}{sub:List Value}{col:Option Bool}{dd:Option Addr}{k0 k1 k2 k3 k5:Option Value}{rest:List Value}{Q:Unit->Shared->Prop}
  (hC:h.get? C=some (excClassObj nm q C N bs bm true sn sub false col dd k0 k1 k2 k3 k5 "Exception.__new__")) (hB:bm.contains (.type "Exception")=true) (hq:Q () ⟨h,g,d,t,os⟩) :
  wpAny M A (checkBuiltinCall "Exception.__new__" ⟨.ref C :: rest,[]⟩) Q E ⟨h,g,d,t,os⟩:=by
 have F:=j4
 have uH:(Value.ref C :: bm).contains (.type "Exception")=true:=by rw[iN,hB,jz]
 simp only[checkBuiltinCall,F.newKind,F.newSplit,F.newRow]
 repeat(first|refine iV hC ?_|(refine iX hC ?_;refine uH.symm▸?_)|refine wpAny_staticBase_exc hC ?_|refine wpAny_madeBy_exc hC ?_|simp only[bne_self_eq_false,j3,kO]|wp_step)
 exact hq
noncomputable abbrev Bx(C T:Addr)(dx:Option Addr):Obj:={cls:=.ref C,dict:=dx,data:=.fields #[.ref T,.none,.none,.none,.bool false,.none]}
noncomputable abbrev Fo(vs:List Value):Obj:={cls:=.type "tuple",data:=.seq vs.toArray}
theorem aT(Y:HM K C fI bm)(X:K.In h){rest:List Value}(hz:rest.length<=sizeLine)
  (hq:R (.ok (.ret (.ref (h.objs.size+1)))) ⟨(h.push (Fo rest)).push (Bx C h.objs.size none),g,d,t,os⟩) :
  codeAny (model prog w) A (.builtin "Exception.__new__" ⟨.ref C :: rest,[]⟩) R ⟨h,g,d,t,os⟩:=by
 have F:=j4
 obtain⟨nm,q,N,bs,sn,sub,col,dd,k0,k1,k2,k3,k5,hC⟩:=Y.obj
 have hC:=X _ _ hC
 have ends:=F.ends
 have cB:(Value.ref C :: bm).contains (.type "Exception")=true:=by rw[iN,Y.hasB,jz]
 have cA:(Value.ref C :: bm).contains (.type "AttributeError")=false:=by rw[iN,Y.noAttr];rfl
 have cN:(Value.ref C :: bm).contains (.type "NameError")=false:=by rw[iN,Y.noName];rfl
 refine codeAny_builtinAt F.entry ?_
 refine PySem.wpAt_bind ?_
 refine PySem.wpAt_bind (PySem.wpAt_stack fun p below=>l0 ?_)
 wp_walk
 refine l0 ?_
 refine F.owner.symm▸?_
 repeat(first|with_reducible refine wpAny_madeHere_exc F.canon hC ?_|with_reducible refine iV hC ?_|(with_reducible refine iX hC ?_;first|rw[cB]|rw[cA]|refine cN.symm▸?_)|wp_step)
 show R _ _
 rw[jc]
 exact hq
theorem Xn(Y:HM K C fI bm)(X:K.In h){rest:List Value}(hz:rest.length<=sizeLine)
  (hq:codeAny (model prog w) (A.under (.builtin "type.__call__" ⟨.ref C :: rest,[]⟩)) (.call (.ref fI) ⟨.ref (h.objs.size+1) :: rest,[]⟩) (InitBack (h.objs.size+1) R) ⟨(h.push (Fo rest)).push (Bx C h.objs.size none),g,d,t,os⟩) :
  codeAny (model prog w) A (.call (.ref C) ⟨rest,[]⟩) R ⟨h,g,d,t,os⟩:=by
 obtain⟨nm,q,N,bs,sn,sub,col,dd,k0,k1,k2,k3,k5,hCK⟩:=Y.obj
 have hC:=X _ _ hCK
 have call:Looks (model prog w) h (specialOf (.ref C) "__call__") (some (.builtin "type.__call__")):=looks_specialIn X Y.call
 have typ:Looks (model prog w) h (isInstance (.ref C) (.type "type")) true:=looks_instIn X Y.typ
 have made:Looks (model prog w) h (Bind.madeBy (.ref C)) (some "Exception.__new__"):=fun A' Q' E' s k z=>wpAny_madeBy_exc (k _ _ hC) z
 have u6:=lG (M:=model prog w) X Y.init
 have bnd:=fun self=>bind_fn (M:=model prog w) X self Y.fn
 refine codeAny_of_tree ?_
 refine nd_load hC ?_
 show wpAny _ _ (callAny.viaDunder (.ref C) _) _ _ _
 refine gE (call.at ?_)
 dsimp only
 refine gE (gV (gE (gV ?_)))
 refine gV (a:=Fin.again (.call (.builtin "type.__call__") ⟨.ref C :: rest,[]⟩)) (And.intro rfl ?_)
 refine codeAny_call_builtin_at (Code.quiet_builtin _ (by decide +kernel)) entry_typeCall (check_slot tc_kind tc_split typ (tc_args _ _ _) ?_)
 have hm:Looks (model prog w) h (mroOf (.ref C)) (Value.ref C :: bm):=fun A' Q' E' s k z=>wpAny_mroOf_exc (k _ _ hC) z
 repeat(first|simp only[List.isEmpty_cons,j3,kO]|with_reducible refine jY ?_|lk)
 refine codeAny_call_builtin_code (Code.quiet_builtin _ PySem.F.excBase_Exception.quiet) (Oc hC Y.hasB ?_)
 refine aT Y X hz ?_
 have k:∀b o,h.get? b=some o->((h.push (Fo rest)).push (Bx C h.objs.size none)).get? b=some o:=fun b o e=>gN _ (gN _ e)
 have hx:((h.push (Fo rest)).push (Bx C h.objs.size none)).get? (h.objs.size+1)=some (Bx C h.objs.size none):=by heap_get
 have t1:Looks (model prog w) ((h.push (Fo rest)).push (Bx C h.objs.size none)) (typeOf (.ref (h.objs.size+1))) (.ref C):=(Looks.ld hx).andThen .now
 have s1:Looks (model prog w) ((h.push (Fo rest)).push (Bx C h.objs.size none)) (isSubtype (.ref C) (.ref C)) true:=fun A' Q' E' s k' z=>iX (k' _ _ (k _ _ hC)) (by
  have:(Value.ref C :: bm).contains (.ref C)=true:=by simp
  refine this.symm▸?_;exact z)
 have i1:=u6.keeps k
 have b1:=(bnd (.ref (h.objs.size+1))).keeps k
 repeat(first|with_reducible refine jY ?_|lk)
 refine codeAny_mono hq fun r s' z=>?_
 rcases r with e|(v|_|_|_)<;>first|exact z|exact z.elim|skip
 obtain⟨rfl,z⟩:=z
 exact gV (gV z)
end
theorem Qm(self:Value):refuseLoop self "__setattr__" [.type "Exception",.type "BaseException",.type "object"]=pure ():=by kernel_rfl
theorem Mt(K:Frag):findCls K (.type "Exception") (.type "type") "__init__"=some (.val (.builtin "Exception.__init__")):=by kernel_rfl
theorem Wr:typeOf (.type "Exception")=pure (.type "type"):=by kernel_rfl
theorem Wf:Manifest.isStub "Exception"=false:=by kernel_rfl
theorem PN:handedIn (.builtin "Exception.__init__")=true:=by kernel_rfl
noncomputable def J9(v:Value)(f:Addr->Bool):Bool:=BO v.ctorIdx 10 fun h=>Value.ref.elim v h f
@[elab_as_elim] theorem GO{f:Addr->Bool}{P:Value->Prop}(h:J9 v f=true)(k:∀a,f a=true->P (.ref a)):P v:=
 if q:v.ctorIdx=10 then Value.ref.elim (motive:=fun v=>J9 v f=true->P v) v q k h else Be ((AA q).symm.trans h)
noncomputable def CC:List Value->Bool
 |[]=>false
 |v :: r=>bif v==.type "Exception" then r==[.type "BaseException",.type "object"]else J9 v fun _=>CC r
theorem Lk{P:List Value->Prop}(h:CC l=true)(a:P [.type "Exception",.type "BaseException",.type "object"])(b:∀c r,P r->P (.ref c :: r)):P l:=by
 induction l with
 |nil=>exact Be h
 |cons v r ih=>
  have h:(bif v==.type "Exception" then r==[.type "BaseException",.type "object"]else J9 v fun _=>CC r)=true:=h
  cases q:v==.type "Exception" with
  |true=>rw[q]at h;rw[gU q,gU h];exact a
  |false=>rw[q]at h;exact GO (v:=v) h fun c h=>b c r (ih h)
theorem Qo(self:Value)(h:CC l=true):refuseLoop self "__setattr__" l=pure ():=
 Lk (P:=fun l=>refuseLoop self "__setattr__" l=pure ()) h (Qm self) fun c r i=>(refuseLoop_ref ..).trans i
theorem X1{l:List Value}(h:CC l=true):l.contains (.type "object")=true:=
 Lk (P:=fun l=>l.contains (.type "object")=true) h (by decide +kernel) fun c r i=>by rw[iN,i,jz]
section
variable{prog:Program}{w:World}{A:Around}{E:Value->Shared->Prop}{R:Result->Shared->Prop}{K:Frag}{C fI:Addr}{bm:List Value}
theorem Sw{e T:Addr}{v:Value}{Q:Unit->Shared->Prop}{h:Heap}{g:Array GenState}{d:Drawn}{t:Nat}{os:OsState}(Y:HM K C fI bm)(hm:∃cd,clsIn K C=some cd/\CC cd.mro=true)(X:K.In h)(he:h.get? e=some (Bx C T none))
  (hq:∀h' dx o',(∀b o,b≠e->h.get? b=some o->h'.get? b=some o)->h'.get? e=some (Bx C T (some dx))->h.get? dx=none->h'.get? dx=some o'->Q () ⟨h',g,d,t+1+1,os⟩):wpAny (model prog w) A (setAttr (.ref e) "text" v) Q E ⟨h,g,d,t,os⟩:=by
 obtain⟨cd,hc,ho⟩:=hm
 have SF:=PySem.F.store_object
 have I:W.InstAt h e (Bx C T none) C none:=⟨he,rfl,rfl,trivial⟩
 refine set_plain X I Y.set ?_
 have ne:cd.mro.isEmpty=false:=by cases q:cd.mro with|nil=>replace ho:=q▸ho;simp[CC]at ho|cons _ _=>rfl
 have uA:cd.hasDict=true:=by
  obtain⟨nm,q,N,bs,sn,sub,col,dd,k0,k1,k2,k3,k5,hC⟩:=Y.obj
  unfold clsIn at hc;replace hc:=hC▸hc;obtain rfl:=Option.some.inj hc;rfl
 have sub:Looks (model prog w) h (isInstance (.ref e) (.type "object")) true:=I.type.andThen (looks_mroIn X (by unfold mroIn;(refine hc.symm▸?_;rewrite[k8];rewrite[iO (by rw[ne];decide)];rewrite[X1 ho];rfl)))
 refine lW SF.slot.plain SF.entry (@check_slot (model prog w) _ _ ⟨h,g,d,t+1,os⟩ "object.__setattr__" "object" "__setattr__" (.ref e) [.str "text" t,v] [] _ SF.kind SF.split sub (SF.args (.ref e) (.str "text" t) v) ?_)
 have hm:Looks (model prog w) h (mroOf (.ref C)) cd.mro:=(lV X hc).andThen .now
 rw[osa_eq,refuse_eq]
 refine gE (gE (I.type.here (gE (hm.here ?_))))
 refine(Qo _ ho).symm▸?_
 refine gV (gE (I.type.here (gE ((lG X Y.free).here (gE (gV ?_))))))
 show wpAny _ _ (Builtin.ObjectAttr.storeInOwnDict (.ref e) (.ref C) (.str "text" t) "text" v false) _ _ _
 refine gE (gV ?_)
 refine gE ?_
 refine gE (kE he ?_)
 dsimp only
 refine gE ((lV X hc).here ?_)
 refine uA.symm▸?_
 refine gE (wpAny_alloc ?_)
 have he1:=gN (emptyDict) he
 refine gE (wpAny_update he1 (gV ?_))
 have upE:((h.push emptyDict).update e fun o=>{o with dict:=some h.objs.size}).get? e=some (Bx C T (some h.objs.size)):=iA _ he1 rfl
 have ned:h.objs.size≠e:=jU (hO he)
 have vq:((h.push emptyDict).update e fun o=>{o with dict:=some h.objs.size}).get? h.objs.size=some emptyDict:=(iw _ _ (iQ ned)).trans (ia _ rfl)
 show wpAny _ _ (Builtin.ObjectAttr.storeInDict h.objs.size (.str "text" t) "text" v) _ _ _
 refine gE (gV (gE ?_))
 refine gE (gE (kZ (gV (gE (wpAny_mkText (gE (kE vq ?_)))))))
 dsimp only
 refine wpAny_updatePart vq ?_
 have tE:=iA (Obj.putName "text" (PyData.keyHash w.params "text") (.str "text" (t+1)) v) vq (by rfl)
 refine gE (wpAny_lookBehind tE (by exact pastItsLine_dict (by show 1<=sizeLine+1;decide)) (gV (hq _ h.objs.size _ (fun b o nb q=>?_) ?_ (by
  cases q:h.get? h.objs.size with
  |none=>rfl
  |some o=>exact absurd (hO q) (ip _)) tE)))
 ·have nbs:b≠h.objs.size:=i6 (hO q)
  exact(iw _ _ (iQ nbs)).trans ((iw _ _ (iQ nb)).trans (gN _ q))
 ·exact(iw _ _ ned).trans upE
theorem Up{e T:Addr}{v:Value}{Q:Value->Shared->Prop}{h:Heap}{g:Array GenState}{d:Drawn}{t:Nat}{os:OsState}(Y:HM K C fI bm)(X:K.In h)(he:h.get? e=some (Bx C T none))
  (hq:∀h' T',(∀b o,b≠e->h.get? b=some o->h'.get? b=some o)->h'.get? e=some (Bx C T' none)->Q .none ⟨h',g,d,t,os⟩):wpAny (model prog w) A (call (.builtin "Exception.__init__") [.ref e,v]) Q E ⟨h,g,d,t,os⟩:=by
 have F:=j4
 obtain⟨nm,q,N,bs,sn,sub,col,dd,k0,k1,k2,k3,k5,hC⟩:=Y.obj
 have hC:=X _ _ hC
 have cB:(Value.ref C :: bm).contains (.type "Exception")=true:=by rw[iN,Y.hasB,jz]
 refine jY (lW F.init.plain F.initEntry ?_)
 have tK:∀{Q':Unit->Shared->Prop} {E':Value->Shared->Prop},Q' () ⟨h,g,d,t,os⟩->wpAny (model prog w) A.in1 (checkBuiltinCall "Exception.__init__" ⟨[.ref e,v],[]⟩) Q' E' ⟨h,g,d,t,os⟩:=fun{Q' E'} hq'=>by
  simp only[checkBuiltinCall,F.initKind,F.initSplit,F.initRow]
  repeat(first|(with_reducible refine iV he ?_)|with_reducible refine iV hC ?_|(with_reducible refine iX hC ?_;refine cB.symm▸?_)|wp_step)
  exact hq'
 refine tK ?_
 wp_walk
 refine hq _ (h.objs.size) (fun b o nb q=>?_) ?_
 ·exact(iw _ _ (iQ nb)).trans (gN _ q)
 ·rw[iA _ (gN _ he) rfl]
  rfl
end
section
variable[deq:DecidableEq Str]
noncomputable def HU(b:List Stmt):Bool:=sC b fun s1 s2=>MX s1 fun e=>Dy s2 fun ts v=>pG ts fun t=>Fc t fun o n6 _=>Bm o fun n5=>Bm v fun n7=>(n5==nm 313)&&((n6==("text":Str))&&((n7==nm 224)&&
 Fd e fun f as kw cp=>BM kw (sC as fun a1 a2=>Bm a1 fun n3=>Bm a2 fun n4=>Fc f fun o2 n2 ap=>Bm o2 fun n1=>(n1==("Exception":Str))&&((n2==("__init__":Str))&&((n3==nm 313)&&((n4==nm 224)&&(ap.endLine==cp.line)))))))
noncomputable def M2(x:FuncBody)(f:List Stmt->Bool):Bool:=match x with|.stmts b=>f b|.expr _=>false
noncomputable def Q1(fd:FuncData):Bool:=N1 fd [313,224]&&(fd.scope.names.all (fun x=>x.2 != .cell)&&((fd.scope.names.lookup (nm 313)==some .local)&&((fd.scope.names.lookup (nm 224)==some .local)&&
 ((fd.scope.names.lookup ("Exception":Str)==some .globalImplicit)&&M2 fd.body HU))))
end
@[elab_as_elim] theorem JB{P:List Stmt->Prop}(h:HU b=true)
  (k:∀p1 p3 p4 ap cp ep p5 p6 p7 p8,(ap.endLine==cp.line)=true->P [.Expr (.Call (.Attribute (.Name "Exception" p1) "__init__" ap) [.Name (nm 313) p3,.Name (nm 224) p4] [] cp) ep,.Assign [.Attribute (.Name (nm 313) p5) "text" p6] (.Name (nm 224) p7) p8]):P b:=by
 refine HA h fun s1 s2 h=>Lw h fun e ep h=>CT h fun ts v p8 h=>B5 h fun t h=>Dm h fun o n6 p6 h=>AV h fun n5 p5 h=>AV h fun n7 p7 h=>?_
 obtain rfl:n5=nm 313:=gU (Al h)
 obtain rfl:n6=("text":Str):=gU (Al (Aa h))
 obtain rfl:n7=nm 224:=gU (Al (Aa (Aa h)))
 replace h:=Aa (Aa (Aa h))
 refine Ek h fun f as kw cp h=>AP h fun h=>HA h fun a1 a2 h=>AV h fun n3 p3 h=>AV h fun n4 p4 h=>Dm h fun o2 n2 ap h=>AV h fun n1 p1 h=>?_
 obtain rfl:n1=("Exception":Str):=gU (Al h)
 obtain rfl:n2=("__init__":Str):=gU (Al (Aa h))
 obtain rfl:n3=nm 313:=gU (Al (Aa (Aa h)))
 obtain rfl:n4=nm 224:=gU (Al (Aa (Aa (Aa h))))
 exact k _ _ _ _ _ _ _ _ _ _ (Aa (Aa (Aa (Aa h))))
theorem Kb{f:List Stmt->Bool}{P:Prop}(h:M2 x f=true)(k:∀b,x=.stmts b->f b=true->P):P:=by
 cases x with
 |stmts b=>exact k b rfl h
 |expr _=>exact Bool.noConfusion h
structure O5(K:Frag)(fI:Addr):Prop where
 at_:∃oc od sl fd,K.lookup fI=some ⟨oc,od,.func fd,sl⟩/\Q1 fd=true/\codeIn K fd.code fd.qualname=true
theorem fT:nm 313=("self":Str):=by decide +kernel
theorem fU:nm 224=("text":Str):=by decide +kernel
theorem eU:¬nm 224=nm 313:=by decide +kernel
theorem Uc:(nm 313==("__debug__":Str))=false:=by decide +kernel
theorem Ud:(nm 224==("__debug__":Str))=false:=by decide +kernel
theorem Xd:(("Exception":Str)==("__debug__":Str))=false:=by decide +kernel
section
variable{prog:Program}{w:World}{A:Around}{R:Result->Shared->Prop}{K:Frag}{C fI:Addr}{bm:List Value}
theorem TC{h h':Heap}{e:Addr}{m:Str->Option Value}(x:h.Ns a m)(ne:a≠e)(k:∀b o,b≠e->h.get? b=some o->h'.get? b=some o):h'.Ns a m:=
 let⟨o,es,ep,g,r⟩:=x;⟨o,es,ep,k a o ne g,r⟩
theorem Uq{e T:Addr}{v:Value}{h:Heap}{g:Array GenState}{d:Drawn}{t:Nat}{os:OsState}(Y:HM K C fI bm)(hm:∃cd,clsIn K C=some cd/\CC cd.mro=true)(FI:O5 K fI)(X:K.In h)
  (hE:K.lookup e=none) (hB:∃mg mb,h.Ns mainGlobals mg/\h.Ns builtinsNs mb/\mg "Exception"=none/\mb "Exception"=some (.type "Exception")) (qq:h.NoLimit) (nU:A.depth<recursionLimit) (he:h.get? e=some (Bx C T none))
  (hq:∀h' tk T' dx,(∀b o,b≠e->h.get? b=some o->h'.get? b=some o)->h'.get? e=some (Bx C T' (some dx))->R (.ok (.ret .none)) ⟨h',g,d,tk,os⟩) :
  codeAny (model prog w) A (.call (.ref fI) ⟨[.ref e,v],[]⟩) R ⟨h,g,d,t,os⟩:=by
 obtain⟨oc,od,sl,fd,hf,hc,oX⟩:=FI.at_
 have c1:=Al hc
 have c2:=List.all_eq_true.mp (Al (Aa hc))
 have c3:=gU (Al (Aa (Aa hc)))
 have c4:=gU (Al (Aa (Aa (Aa hc))))
 have c5:=gU (Al (Aa (Aa (Aa (Aa hc)))))
 have c6:=Aa (Aa (Aa (Aa (Aa hc))))
 have F:=Mx c1
 refine Kb c6 fun b hb c6=>?_
 ·refine codeAny_call_def (fd:=fd) (body:=b) (binds:=([313,224].map nm).zip [.ref e,v]) nU (X _ _ hf) rfl qq (codeRec_of X oX) hb (BindsTo.of_eq (Jk F rfl)) (fun x hx=>bne_iff_ne.mp (c2 x hx)) (fun x hx=>?_) (fun h₀ pe hk=>?_) F.co F.gen F.kind
  ·rcases List.mem_cons.mp hx with rfl|hx
   ·exact c3
   ·rcases List.mem_cons.mp hx with rfl|hx
    ·exact c4
    ·cases hx
  clear hc c1 c2 hb oX FI hf
  refine JB c6 fun p1 p3 p4 ap cp ep p5 p6 p7 p8 line=>?_
  have kind:(callEnv fd h.objs.size fI).scope.kind=.function:=F.kind
  have vS:(fun x=>List.lookup x (([313,224].map nm).zip [Value.ref e,v]).reverse) (nm 313)=some (.ref e):=by
   show List.lookup (nm 313) [(nm 224,v),(nm 313,Value.ref e)]=_
   rw[ib,show(nm 313==nm 224)=false from beq_eq_false_iff_ne.mpr (iQ eU),ib,iy]
  have vT:(fun x=>List.lookup x (([313,224].map nm).zip [Value.ref e,v]).reverse) (nm 224)=some v:=by
   show List.lookup (nm 224) [(nm 224,v),(nm 313,Value.ref e)]=_
   rw[ib,iy]
  obtain⟨mg,mb,ng,nb,g1,b1⟩:=hB
  have X₀:K.In h₀:=X.keeps hk
  have Xb:∀{h1:Heap},(∀b o,b≠e->h₀.get? b=some o->h1.get? b=some o)->K.In h1:=fun k b o q=>k b o (fun z=>by(rw[z]at q;replace q:=hE▸q);exact Ao q) (X₀ b o q)
  have tY:(callEnv fd h.objs.size fI).locals≠e:=jU (hO he)
  have hg:∀{h1:Heap},(∀b o,h.get? b=some o->h1.get? b=some o)->h1.Ns (callEnv fd h.objs.size fI).globals mg:=fun k=>by
   show Heap.Ns _ fd.globals _
   rw[F.gl];exact CO ng k
  have hbl:∀{h1:Heap},(∀b o,h.get? b=some o->h1.get? b=some o)->h1.Ns (callEnv fd h.objs.size fI).builtins mb:=fun k=>by
   show Heap.Ns _ fd.builtins _
   rw[F.bl];exact CO nb k
  refine jA (wpAny_Expr_any ?_ (by unfold interactive;refine kind.symm▸?_;rfl) rfl)
  have sO:methodCallForm ([Expr.Name (nm 313) p3,Expr.Name (nm 224) p4].length+([]:List Keyword).length) (backTo cp (starEach [Expr.Name (nm 313) p3,Expr.Name (nm 224) p4] (callEnv fd h.objs.size fI))) (backToKw cp (keywordEach [] (callEnv fd h.objs.size fI)))=true:=rfl
  have vj:methodCallPos true (.Name "Exception" p1) (callEnv fd h.objs.size fI) ap cp=pure cp:=by unfold methodCallPos;simp[line]
  refine gE (iH kind c5 (lA (hg hk) g1 (hbl hk) b1 ?_) Xd)
  refine gE (ic ?_)
  unfold methodCall
  refine gE (ie (method_type (h₀:=h) (L:=h.objs.size) ⟨pe,hk,gM _⟩ X Wr Wf (Mt K) PN ?_))
  refine gE (kB vj ?_)
  refine jo (by rfl) ?_
  refine Gq (xs:=[.Name (nm 313) p3,.Name (nm 224) p4]) (e:=callEnv fd h.objs.size fI) ?_
  have evS:∀{p:Pos} {Q:Value->Shared->Prop} {E:Value->Shared->Prop} {s:Shared},s.heap.Ns (callEnv fd h.objs.size fI).locals (fun x=>List.lookup x (([313,224].map nm).zip [Value.ref e,v]).reverse)->Q (.ref e) s->wpAny (model prog w) (A.deeper (callEnv fd h.objs.size fI)) (eval (.Name (nm 313) p) (callEnv fd h.objs.size fI)) Q E s:=fun n q=>
   wpAny_Name (jK kind c3 n vS q) Uc
  have pu:∀{p:Pos} {Q:Value->Shared->Prop} {E:Value->Shared->Prop} {s:Shared},s.heap.Ns (callEnv fd h.objs.size fI).locals (fun x=>List.lookup x (([313,224].map nm).zip [Value.ref e,v]).reverse)->Q v s->wpAny (model prog w) (A.deeper (callEnv fd h.objs.size fI)) (eval (.Name (nm 224) p) (callEnv fd h.objs.size fI)) Q E s:=fun n q=>
   wpAny_Name (jK kind c4 n vT q) Ud
  refine j2 (evS pe (j2 (pu pe (kY ?_))))
  refine Up Y X₀ (hk _ _ he) fun h1 T1 k1 e1=>?_
  refine jA (Dn (S:={pg:=prog,w:=w,A:=A.deeper (callEnv fd h.objs.size fI),base:=h,K:=K,e:=callEnv fd h.objs.size fI,fr:=[],sc:=[],Φ:=fun _ _ _ _ _=>False}) (by rfl) (by rfl) (by intro _ _ z;cases z) (pu (TC pe tY k1) ?_))
  refine gE (ie (evS (TC pe tY k1) (gE (ic (gE (ie ?_))))))
  refine Sw Y hm (Xb k1) e1 fun h2 dx o2 k2 e2 _ _=>?_
  refine jW (kt ?_)
  exact hq h2 _ T1 dx (fun b o nb q=>k2 b o nb (k1 b o nb (hk b o q))) e2
end
structure Nu(K:Frag)(base:Heap):Prop where
 make:∀c C,1<=c->c<=3->E7 K c C->∃fI bm,HM K C fI bm/\(∃cd,clsIn K C=some cd/\CC cd.mro=true)/\O5 K fI
 names:∃mg mb,base.Ns mainGlobals mg/\base.Ns builtinsNs mb/\mg "Exception"=none/\mb "Exception"=some (.type "Exception")
structure Gm(S:my)(FA:Nat->Addr)(Φs:Bool->Az)(hd:Bool):Prop where
 s:B8 S FA Φs hd
 exc:IP S.K
 rU:Nu S.K S.base
 room:S.A.depth+2<recursionLimit
 hand:hd=false->∀a,Bi (S.under a (Φs true)) FA 2
theorem Gm.under{S:my}{FA:Nat->Addr}{Φs:Bool->Az}(G:Gm S FA Φs false)(a:Addr):Gm (S.under a (Φs true)) FA Φs true:=
 ⟨⟨G.hand rfl a,rfl,G.s.head,fun z=>by exact FT z⟩,G.exc,G.rU,G.room,fun z=>by exact nomatch z⟩
def LX(FA:Nat->Addr)(Φs:Bool->Az):Prop:=
 ∀(S:my) (hd:Bool) (c:Nat) (e:ME) (v:Expr) (n:Str) (np cp pos:Pos),Gm S FA Φs hd->(1<=c/\c<=3)->n=Str.ofString (EM c)->S.sc.lookup n=some .globalImplicit->AD 2 S.sc e v=true->
  S.Runs (exec (.Raise (some (.Call (.Name n np) [v] [] cp)) none pos) S.e) (ws l9 Φs hd (.raise c e))
def DH(FA:Nat->Addr)(Φs:Bool->Az)(ms:MS):Prop:=∀(S:my) (hd:Bool) (st:Stmt),Gm S FA Φs hd->T5 S.sc ms st=true->S.Runs (exec st S.e) (ws l9 Φs hd ms)
def Ku(FA:Nat->Addr)(Φs:Bool->Az)(ms:MS):Prop:=∀(S:my) (hd:Bool) (sF:List Stmt),Gm S FA Φs hd->Ii S.sc ms sF=true->S.Runs (execs sF S.e) (ws l9 Φs hd ms)
variable{FA:Nat->Addr}{Φs:Bool->Az}
theorem DH.of(h:DH FA Φs ms)(n:∀sc sF,Ii sc ms sF=false):DH FA Φs ms/\Ku FA Φs ms:=⟨h,fun _ _ _ _ hc=>Be ((n _ _).symm.trans hc)⟩
theorem Wb(R:LX FA Φs)(c:Nat)(e:ME):DH FA Φs (.raise c e):=fun S hd st G hc=>by
 by_cases q:1<=c/\c<=3
 ·refine Qa hc fun x y p h=>HC h fun h=>BQ h fun x h=>Ek h fun f as kw p h=>AP h fun h=>B5 h fun v h=>AV h fun n p h=>?_
  rw[gZ (Nat.not_lt.mpr q.1),gZ (Nat.not_lt.mpr q.2)]at h
  exact R S hd c e _ _ _ _ _ G q (gU (Al h)) (Ei (Al (Aa h))) (Aa (Aa h))
 ·exact fun m env lg μ Q X z=>absurd ⟨(Ai z).1,(Ai (Ai z).2).1⟩ q
theorem dj(e:ME)(c:Nat)(b:MS)(ih:Ku FA Φs b):DH FA Φs (.nB e c b):=fun S hd st G hc=>by
 refine Vv hc fun bs hs o f p h=>AP h fun h=>AP h fun h=>B5 h fun b h=>Ka h fun v p h=>BQ h fun v h=>B5 h fun hn h=>bR h fun t n hb p h=>HC h fun h=>BQ h fun t h=>AV h fun n p h=>?_
 induction hb using List.casesOn with
 |nil=>exact Be (Al (Aa (Aa (Aa (Aa h)))))
 |cons b₀ body=>
  induction hd with
  |true=>exact fun m env lg μ Q X z=>Be (A6 z).1
  |false=>exact VN G.s G.exc (gO (Al (Aa (Aa (Aa (Aa (Aa h))))))) (gO (Aa (Aa (Aa (Aa (Aa (Aa h))))))) (gU (Al (Aa h))) (Ei (Al (Aa (Aa h)))) (Al h) (Al (Aa (Aa (Aa h)))) fun a=>ih (S.under a (Φs true)) true _ (G.under a) (Al (Aa (Aa (Aa h))))
theorem Tl(x:Nat)(e:ME):DH FA Φs (.assign x e):=fun S hd st G hc=>by
 refine CT hc fun ts v p h=>B5 h fun t h=>AV h fun n p h=>?_
 rcases(ik _ _).mp (Al (Aa (Aa h)))with z|z
 ·revert h
  exact HB z fun _ _ _ _ _ h=>Tb G.s (Al h) (Fy (Al (Aa h))) (Aa (Aa (Aa h)))
 ·exact OC G.s (Al h) (Fy (Al (Aa h))) (Aa (Aa (Aa h))) (J3 z _ _ _)
theorem Qx(xs:List Nat)(e:ME):DH FA Φs (.mA xs e):=fun S hd st G hc=>
 CT hc fun ts v p h=>B5 h fun t h=>Kc h fun es k p h=>Tc G.s (Al h) (Al (Aa h)) (Al (Aa (Aa h))) (Aa (Aa (Aa h)))
theorem Qz(o:ME)(a:Nat)(e:ME):DH FA Φs (.setAttr o a e):=fun S hd st G hc=>
 CT hc fun ts v p h=>B5 h fun t h=>Dm h fun o' n p h=>Te G.s (Al h) (List.elem_iff.mp (Al (Aa h))) (Al (Aa (Aa h))) (Aa (Aa (Aa h)))
theorem Tn(o i e:ME):DH FA Φs (.nA o i e):=fun S hd st G hc=>
 CT hc fun ts v p h=>B5 h fun t h=>GP h fun o' i' p h=>VM G.s (Al (Aa h)) (Al (Aa (Aa h))) (Aa (Aa (Aa h)))
theorem da(x:Nat)(op:Operator)(e:ME):DH FA Φs (.aug x op e):=fun S hd st G hc=>
 J5 hc fun t o v p h=>AV h fun n p h=>EX (Al (Aa h)) (fB G.s (Al h) (gU (Al (Aa (Aa h)))) (Aa (Aa (Aa h))))
theorem Qy(o:ME)(a:Nat)(op:Operator)(e:ME):DH FA Φs (.mH o a op e):=fun S hd st G hc=>
 J5 hc fun t tv v p h=>Dm h fun o' n p h=>EX (Al (Aa (Aa h))) (Td G.s (Al h) (List.elem_iff.mp (Al (Aa h))) (Al (Aa (Aa (Aa h)))) (Aa (Aa (Aa (Aa h)))))
theorem Tm(o i:ME)(op:Operator)(e:ME):DH FA Φs (.mS o i op e):=fun S hd st G hc=>
 J5 hc fun t tv v p h=>GP h fun o' i' p h=>EX (Al (Aa h)) (VL G.s (Al h) (Al (Aa (Aa h))) (Al (Aa (Aa (Aa h)))) (Aa (Aa (Aa (Aa h)))))
theorem Ze(e:ME):DH FA Φs (.expr e):=fun S hd st G hc=>Lw hc fun v p h=>cD G.s (Aa h) (Al h)
theorem dh(e:ME):DH FA Φs (.ret e):=fun S hd st G hc=>by
 refine Ka hc fun v p h=>?_
 induction v with
 |some v=>exact fG G.s h
 |none=>clear hc;induction e using ME.casesOn<;>first|exact Be h|exact cF
theorem c9(t:ME)(a b:MS)(rO:Ku FA Φs a)(rP:Ku FA Φs b):DH FA Φs (.ite t a b):=fun S hd st G hc=>
 Vq hc fun t' a' b' p h=>fE G.s (Al h) (rO S hd _ G (Al (Aa h))) (rP S hd _ G (Aa (Aa h)))
theorem c8(xs:List Nat)(one:Bool)(it:ME)(b:MS)(ih:Ku FA Φs b):DH FA Φs (.mB xs one it b):=fun S hd st G hc=>
 Vn hc fun t' oF b' o p h=>AP h fun h=>fD G.s (Al (Aa h)) (Al h) (Al (Aa (Aa h))) (ih S hd _ G (Aa (Aa (Aa h))))
theorem Wc(t:ME)(b:MS)(ih:Ku FA Φs b):DH FA Φs (.nt t b):=fun S hd st G hc=>
 Qc hc fun t' b' o p h=>AP h fun h=>YK G.s (Al h) (ih S hd _ G (Aa h))
theorem Zf:DH FA Φs .skip/\Ku FA Φs .skip:=⟨fun S hd st G hc=>S3 hc fun p h=>cE,fun S hd sF G hc=>AP hc fun h=>fF⟩
theorem di(a b:MS)(rO:DH FA Φs a)(rP:Ku FA Φs b):DH FA Φs (.seq a b)/\Ku FA Φs (.seq a b):=
 ⟨fun S hd st G hc=>Be hc,fun S hd sF G hc=>A1 hc fun s r h=>cz (rO S hd s G (Al h)) (rP S hd r G (Aa h))⟩
theorem Zd:DH FA Φs .cont:=fun S hd st G hc=>SY hc fun p h=>cC
theorem Z3(R:LX FA Φs)(ms:MS):DH FA Φs ms/\Ku FA Φs ms:=by
 induction ms with
 |skip=>exact Zf
 |seq a b rO rP=>exact di a b rO.1 rP.2
 |assign x e=>exact(Tl x e).of fun _ _=>rfl
 |mA xs e=>exact(Qx xs e).of fun _ _=>rfl
 |setAttr o a e=>exact(Qz o a e).of fun _ _=>rfl
 |nA o i e=>exact(Tn o i e).of fun _ _=>rfl
 |aug x op e=>exact(da x op e).of fun _ _=>rfl
 |mH o a op e=>exact(Qy o a op e).of fun _ _=>rfl
 |mS o i op e=>exact(Tm o i op e).of fun _ _=>rfl
 |expr e=>exact(Ze e).of fun _ _=>rfl
 |ret e=>exact(dh e).of fun _ _=>rfl
 |cont=>exact Zd.of fun _ _=>rfl
 |ite t a b rO rP=>exact(c9 t a b rO.2 rP.2).of fun _ _=>rfl
 |mB xs one it b ih=>exact(c8 xs one it b ih.2).of fun _ _=>rfl
 |nt t b ih=>exact(Wc t b ih.2).of fun _ _=>rfl
 |raise c e=>exact(Wb R c e).of fun _ _=>rfl
 |nB e c b ih=>exact(dj e c b ih.2).of fun _ _=>rfl
theorem No(C:Addr)(v:Value):(Code.builtin "type.__call__" ⟨[.ref C,v],[]⟩).weight=1:=by kernel_rfl
theorem C5{h:Heap}(k:h.objs.size<=a):h.get? a=none:=by
 cases q:h.get? a with
 |none=>rfl
 |some o=>exact absurd (hO q) (Nat.not_lt.mpr k)
section
variable{S:my}{FA:Nat->Addr}{Φs:Bool->Az}{hd:Bool}
theorem Ur{m:Str->Option Value}{s:Shared}{v:Value}{Q:Value->Shared->Prop}{E:Value->Shared->Prop}(G:Gm S FA Φs hd)(h1:1<=c)(h2:c<=3)(hC:E7 S.K c C)(I:S.I m env lg μ s.heap)
  (hq:∀h' tk e T dx,(∀b o,s.heap.get? b=some o->h'.get? b=some o)->s.heap.get? e=none->h'.get? e=some (Bx C T (some dx))->Q (.ref e) {s with heap:=h',toks:=tk}):wpAny S.M S.A (call (.ref C) [v]) Q E s:=by
 obtain⟨fI,bm,Y,hm,FI⟩:=G.rU.make c C h1 h2 hC
 have B:=G.s.good.base
 have X:S.K.In s.heap:=B.qd.keeps I.old
 obtain⟨mg,mb,n1,n2,n3,n4⟩:=G.rU.names
 obtain⟨h,g,d,t,os⟩:=s
 refine jY (Xn Y X (rest:=[v]) (by show 1<=sizeLine;decide) ?_)
 have k1:∀b o,h.get? b=some o->((h.push (Fo [v])).push (Bx C h.objs.size none)).get? b=some o:=fun b o q=>gN _ (gN _ q)
 have he:((h.push (Fo [v])).push (Bx C h.objs.size none)).get? (h.objs.size+1)=some (Bx C h.objs.size none):=by heap_get
 have neE:∀{b o},h.get? b=some o->b≠h.objs.size+1:=fun q z=>by
  have:=hO q
  replace this:=z▸this;exact absurd this (Nat.not_lt.mpr (i9 _))
 have qZ:h.get? (h.objs.size+1)=none:=C5 (i9 _)
 refine Uq (A:=S.A.under _) Y hm FI (X.keeps k1) ?_ ⟨mg,mb,CO n1 fun b o q=>k1 b o (I.old b o q),CO n2 fun b o q=>k1 b o (I.old b o q),n3,n4⟩ ?_ ?_ he fun h' tk T' dx k2 e2=>?_
 ·cases q:S.K.lookup (h.objs.size+1) with
  |none=>rfl
  |some o=>have:=X _ _ q;exact AM qZ this
 ·exact B.qs.keeps fun b o q=>k1 b o (I.old b o q)
 ·show S.A.depth+(Code.builtin "type.__call__" ⟨[.ref C,v],[]⟩).weight<_
  rw[No]
  have:=G.room;lia
 ·exact⟨rfl,hq h' tk _ T' dx (fun b o q=>k2 b o (neE q) (k1 b o q)) qZ e2⟩
theorem OD:LX FA Φs:=by
 intro S hd c e v n np cp pos G qC hn hg he
 obtain⟨mg,mb,n1,n2,_,_,_,n5⟩:=G.s.good.base.names
 obtain⟨D,hD,hw⟩:=n5 c qC.1 qC.2
 obtain⟨fI,bm,Y,hm,FI⟩:=G.rU.make c D qC.1 qC.2 hD
 have star:([v]:List Expr).all (fun x=>!EA x)=true:=by
  induction v using Expr.casesOn<;>first|rfl|(exfalso;induction e using ME.casesOn<;>with_unfolding_all exact Be he)
 have keep:keepIn S.K (.ref D)=true:=by
  obtain⟨nm,q,N,bs,sn,sub,col,dd,k0,k1,k2,k3,k5,hC⟩:=Y.obj
  unfold keepIn;dsimp only;refine hC.symm▸?_;refine Y.call.symm▸?_;rfl
 obtain⟨nm,qn,N,bs,sn,sub,col,dd,k0,k1,k2,k3,k5,hC⟩:=Y.obj
 intro m env lg μ Q X h s E I H hX
 replace h:=(Ai (Ai h).2).2
 refine gE (ic ?_)
 refine gE (gE (Call_Name rfl (iH G.s.good.env.kind (G.s.good.env.l9 _ hg) (jD (by rw[G.s.good.env.globals];exact CO n1 I.old) (by rw[hn];exact hw) ?_) (by
   refine hn.symm▸?_;obtain rfl|rfl|rfl:c=1\/c=2\/c=3:=by lia
   all_goals decide))))
 refine callWith_of (by rw[Bf _ _ _ star];rfl) (keeps_K keep) ?_
 refine(Bf _ _ _ star).symm▸?_
 refine Gq (j2 ((G.s.se he _ _ _ _ _ _ h).m7 I H hX fun u h1 mZ mJ μ1 x1 I1 H1 p1 k1 mQ=>kY ?_))
 obtain⟨uv,ru,q⟩:=p1
 obtain⟨sv,rfl,q⟩:∃s,uv=.str s/\X (Rc hd c) μ1:=by
  induction uv using V.casesOn<;>first|exact False.elim q|exact⟨_,rfl,q⟩
 refine⟨G.s.good.base.qd.keeps I1.old,Ur (s:={s with heap:=h1,toks:=mZ}) G qC.1 qC.2 hD I1 fun h2 nK a T dx kp na ga=>?_⟩
 have hC2:=kp _ _ (I1.old _ _ (G.s.good.base.qd _ _ hC))
 have cB:(Value.ref D :: bm).contains (.type "BaseException")=true:=by(rewrite[iN];refine Y.hasBase.symm▸?_;rewrite[jz];rfl)
 repeat(first|with_reducible refine iV ga ?_|with_reducible refine iV hC2 ?_|(with_reducible refine iX hC2 ?_;refine cB.symm▸?_)|wp_step)
 have naH:a∉oM S.A:=fun hm=>by
  rcases H1.hl with z|⟨b,o,arr,z,kn,_⟩
  ·simp[oM,z]at hm
  ·simp[oM,z]at hm;subst hm;have:=I1.kn kn;exact AM na this
 refine LF (s:={s with heap:=h2,toks:=nK}) ((I1.su H1.hl).mono kp) ga rfl (by show 2<6;decide) naH fun h3 uY e3=>?_
 obtain⟨o3,g3,c3,arr,d3,z3,t3,n3⟩:=e3
 have kp3:∀b o,h1.get? b=some o->h3.get? b=some o:=fun b o q=>(uY.2 b (fun z=>by(rw[z]at q;replace q:=na▸q);exact Ao q)).trans (kp b o q)
 have hr:Rc hd c % 10=c:=by induction hd using Bool.casesOn<;>unfold Rc<;>dsimp only<;>lia
 have tY:a≠S.e.locals:=fun z=>by
  obtain⟨oL,gL,_⟩:=H7.of I1.ns
  (rw[<- z]at gL;replace gL:=na▸gL);exact Ao gL
 refine mQ _ _ ⟨h3,nK,mJ,μ1,m,env,a,_,rfl,I1.keeps kp3,Ext.refl _,rfl,⟨I1.nS na,I1.free na,tY,o3,arr,D,g3,by refine hr.symm▸?_;exact qC.1,by refine hr.symm▸?_;exact qC.2,by refine hr.symm▸?_;exact hD,c3,d3,by refine z3.symm▸?_;show 2<6;decide,fun oZ=>?_,.inl (t3.trans rfl)⟩,q⟩
 induction hd using Bool.casesOn with
 |true=>exact absurd oZ (Nat.not_lt.mpr (jp 10 c))
 |false=>rw[n3 (G.s.none rfl)];rfl
end
def R2(K:Frag)(a:Addr)(ps:List Nat)(body:MS):Prop:=
 ∃oc od sl fd b,K.lookup a=some ⟨oc,od,.func fd,sl⟩/\N1 fd ps=true/\fd.body=.stmts b/\codeIn K fd.code fd.qualname=true/\Ii fd.scope.names body b=true
structure dI(K:Frag)(FA:Nat->Addr):Prop where
 fn:∀f ps body,prog f=some (.fn ps body)->R2 K (FA f) ps body
 cls:∀f c ps body,prog f=some (.cls c ps body)->c<3/\Ce K c (FA f)/\makesIn K (FA f)=true/\∃fI,findIn K (.ref (FA f)) "__init__"=some (some (.ref fI))/\typeIn K (.ref fI)=some (.type "function")/\R2 K fI ps body
structure sL(base:Heap)(K:Frag)(FA:Nat->Addr):Prop where
 qA:Tx base K FA
 exc:IP K
 rU:Nu K base
 fns:dI K FA
section
variable{S:my}{FA:Nat->Addr}{m:Str->Option Value}{env:An}{lg:Lg}{μ:MH}{s:Shared}
inductive Z9(S:my)(m:Str->Option Value)(env:An)(lg ma:Lg)(μ':MH)(h':Heap):Prop
 |mk (m5:Lg) (I:S.I m env m5 μ' h') (x:Ext lg m5) (v:G2 ma m5) (n:∀b,ma.led b=none->m5.led b=none) (oL:Obj) (g:ma.led S.e.locals=some oL)
theorem Rh{Φ:Az}{m':Str->Option Value}(I0:S.I m env lg μ h)(x:Ext lg ma)(I:(S.callee fd L a m env lg Φ A).I m' env' ma μ' h') :
  Z9 S m env lg ma μ' h':=by
 obtain⟨I2,x2⟩:=Inv.back (f:=⟨S.e,m,AU env S.e lg⟩) (env:=env) I x I0.mN (fun _ _ q=>q) I0.vars
 obtain⟨⟨oL,g1,g2⟩,_⟩:=I.frames ⟨S.e,m,AU env S.e lg⟩ (.head _)
 obtain⟨es,ep,hd,_⟩:=g2
 refine⟨_,I2,x2,⟨fun b o v q=>?_,fun _ _ q=>q⟩,fun b q=>?_,oL,g1⟩
 ·unfold Lg.drop;dsimp only
  rw[iO];exact q
  rintro rfl;obtain rfl:=same g1 q;exact v.1.2.1 _ _ hd
 ·unfold Lg.drop;dsimp only
  split
  ·rfl
  ·exact q
theorem JZ{ps:List Nat}{ws:List Value}{x:Str×Value}(h:x∈(ps.map nm).zip ws):∃p∈ps,x.1=nm p:=by
 have a:=x.1;have b:=x.2
 have:=(List.of_mem_zip h).1
 obtain⟨p,hp,e⟩:=List.mem_map.mp this
 exact⟨p,hp,e.symm⟩
theorem Ri{a:Addr}{ps:List Nat}{body:MS}{as:List V}{ws:List Value}{env':An}{A:Around}{n:Nat}{hd:Bool}{Q':Au}{X':As}{R:Result->Shared->Prop}(P:sL S.base S.K FA)(qI:R2 S.K a ps body)(B:O3 S.A S.e S.fr)
  (ih:∀(T:my) (hd:Bool),sL T.base T.K FA->T.Φ=Ak l9 prog n hd->O3 T.A T.e T.fr->T.A.depth+3*n+3<recursionLimit->T.A.units+8*n+50<cLine->(hd=false->T.A.handled=none)->T.Calls FA)
  (uu:A.handled=S.A.handled) (uw:A.frames=S.A.frames) (nU:A.depth+3*n+4<recursionLimit) (hu:A.units+8*n+53<cLine) (hh:hd=false->S.A.handled=none)
  (I:S.I m env lg μ s.heap) (H:S.H lg) (hr:Ar S.base lg as ws) (he:CQ ps as (fun _=>none)=some env') (hw:Mine.ws l9 (Ak l9 prog n) hd body Q' X' env' μ)
  (rK:∀mf mX m5 μ2 h2 nK w,S.I m env m5 μ2 h2->Ext lg m5->Q' mf mX μ2->(match mf with|.next=>w=Value.none|.ret v=>Aw S.base m5 v w|.cont=>True)->R (.ok (.ret w)) {s with heap:=h2,toks:=nK})
  (rI:∀v s',S.X m env lg s X' v s'->R (.error v) s'):codeAny S.M A (.call (.ref a) ⟨ws,[]⟩) R s:=by
 obtain⟨oc,od,sl,fd,b,hK,hc,hb,oX,rG⟩:=qI
 have F:=Mx hc
 have X:S.K.In s.heap:=P.qA.qd.keeps I.old
 have hl:ps.length=ws.length:=by(refine hr.1▸?_;refine(Fp he).symm▸?_;rfl)
 refine codeAny_call_cells (fd:=fd) (body:=b) (binds:=(ps.map nm).zip ws) (by exact qq9 nU) (X _ _ hK) rfl (P.qA.qs.keeps I.old) (codeRec_of X oX) hb (Jk F hl) F.clo (fun x hx=>?_) (fun s₁ x=>?_) F.co F.gen F.kind
 ·obtain⟨p,hp,e⟩:=JZ hx
  refine e.symm▸?_
  rcases F.par p hp with q|q
  ·exact .inl q
  ·obtain⟨ca,px⟩:=Bk fd.scope.names [] (s.heap.objs.size+1) (nm p) (.inl (AN q))
   exact .inr ⟨q,by refine px.symm▸?_;rfl⟩
 obtain⟨ma,I',x',H'⟩:=Uu (A:=A) (a:=a) (Φ:=Ak l9 prog n hd) I H F uu hr he x
 obtain⟨h1,mZ,e1,_⟩:=x.done
 have FH:DV (S.callee fd s.heap.objs.size a m env lg (Ak l9 prog n hd) A).A (S.callee fd s.heap.objs.size a m env lg (Ak l9 prog n hd) A).e (S.callee fd s.heap.objs.size a m env lg (Ak l9 prog n hd) A).fr:=Pt B uw F
 have rx:(S.callee fd s.heap.objs.size a m env lg (Ak l9 prog n hd) A).A.depth=A.depth+1:=rfl
 have qX:(S.callee fd s.heap.objs.size a m env lg (Ak l9 prog n hd) A).A.units=A.units+3:=rfl
 have GT:Gm (S.callee fd s.heap.objs.size a m env lg (Ak l9 prog n hd) A) FA (Ak l9 prog n) hd:=by
  refine⟨⟨⟨P.qA,Fs F,by refine qX.symm▸?_;exact YA hu,FH.qM,fun e fr sc fi=>ih _ hd P rfl fi (by show(S.callee fd s.heap.objs.size a m env lg (Ak l9 prog n hd) A).A.depth+_+_<_;refine rx.symm▸?_;exact YB nU) (by show(S.callee fd s.heap.objs.size a m env lg (Ak l9 prog n hd) A).A.units+_+_<_;refine qX.symm▸?_;exact YC hu) fun z=>uu.trans (hh z)⟩,rfl,FH,fun z=>uu.trans (hh z)⟩,
   P.exc,P.rU,by refine rx.symm▸?_;exact eZ nU,fun z b=>⟨P.qA,Fs F,by show(S.callee fd s.heap.objs.size a m env lg (Ak l9 prog n hd) A).A.units+_+_<_;refine qX.symm▸?_;exact YA hu,FH.qM,fun e fr sc fi=>ih _ true P rfl fi (by show(S.callee fd s.heap.objs.size a m env lg (Ak l9 prog n hd) A).A.depth+_+_<_;refine rx.symm▸?_;exact YB nU) (by show(S.callee fd s.heap.objs.size a m env lg (Ak l9 prog n hd) A).A.units+_+_<_;refine qX.symm▸?_;exact YC hu) fun z=>by exact FT z⟩⟩
 refine gQ ((Z3 OD body).2 (S.callee fd s.heap.objs.size a m env lg (Ak l9 prog n hd) A) hd b GT rG _ env' ma μ Q' X' hw s₁ _ I' H' fun v s' z=>?_) (fun fl s2 z=>?_) fun _ _ e=>e
 ·obtain⟨h2,nK,m5,μ2,m2,mX,ea,r,rfl,I2,x2,rfl,ex,q⟩:=z
  refine gE (IF (S:=S.callee fd s.heap.objs.size a m env lg (Ak l9 prog n hd) A) (s:={s₁ with heap:=h2,toks:=nK}) FH I2 ex fun h3 py I3 x3 e3=>?_)
  refine Ef (S:=S.callee fd s.heap.objs.size a m env lg (Ak l9 prog n hd) A) (s:={s₁ with heap:=h3,toks:=nK}) I3 e3 fun h4 I4 e4=>?_
  obtain⟨qU,I5,x5,_,rc,oL,gL⟩:=Rh I (x'.trans (x2.trans x3)) I4
  refine rI _ _ ⟨h4,nK,qU,μ2,ea,r,by(refine e1.symm▸?_;rfl),I5,x5,rfl,?_,q⟩
  obtain⟨o,vs,O,t⟩:=FN.iff.mp e4.at
  refine FN.iff.mpr ⟨o,vs,{O with led:=rc _ O.led,l8:=fun z=>?_},?_⟩
  ·have:=O.led;(rw[z]at this;replace this:=gL▸this);exact Ry this
  ·rcases t with t|⟨T,oT,ts,t1,t2,t3,t4,t5,t6,t7,t8⟩
   ·exact .inl t
   ·exact .inr ⟨T,oT,ts,t1,t2,rc _ t3,t4,fun z=>(by(rw[z]at t3;replace t3:=gL▸t3);exact Ry t3),t6,t7,t8⟩
 ·obtain⟨h2,nK,m5,μ2,m2,mX,mf,rfl,I2,x2,fr,q⟩:=z
  obtain⟨qU,I5,x5,v5,_⟩:=Rh I (x'.trans x2) I2
  refine e1.symm▸?_
  refine rK mf mX qU μ2 h2 nK _ I5 x5 q ?_
  induction mf<;>induction fl<;>first|trivial|exact fr.elim|rfl|exact fr.mR v5
end
theorem HK(C:Addr)(vs:List Value):(Code.builtin "type.__call__" ⟨.ref C :: vs,[]⟩).weight=1:=by kernel_rfl
theorem OX(C:Addr)(vs:List Value):(Code.builtin "type.__call__" ⟨.ref C :: vs,[]⟩).cUnits=1:=by kernel_rfl
theorem QD(C:Addr)(vs:List Value):(Code.builtin "type.__call__" ⟨.ref C :: vs,[]⟩).envs=[]:=by kernel_rfl
section
variable{base:Heap}{K:Frag}{e:Env}{m:Str->Option Value}{fr:List oq}{env:An}{lg:Lg}{μ:MH}{h:Heap}
theorem UH(I:Inv base K e m fr env lg μ h)(hc:c<3)(hC:Ce K c C) :
  ∃ma,Inv base K e m fr env ma (μ++[.inst c []]) ((h.push emptyDict).push (instObj C h.objs.size))/\Ext lg ma/\ma.mE[μ.length]?=some (h.objs.size+1,h.objs.size):=by
 have sz:(h.push emptyDict).objs.size=h.objs.size+1:=jc ..
 have I1:=I.add (h':=h.push emptyDict) (a:=h.objs.size) (o:=emptyDict) (Bl h) (fun b p q=>gN _ q) (ia h rfl)
 have x1:Ext lg (lg.put h.objs.size emptyDict):=Ext.mP _ I.fresh
 have I2:=I1.add (h':=(h.push emptyDict).push (instObj C h.objs.size)) (a:=h.objs.size+1) (o:=instObj C h.objs.size) (by refine sz▸?_;exact Bl _) (fun b p q=>gN _ q) (by
  have:=ia (h.push emptyDict) (o:=instObj C h.objs.size) rfl
  rwa [sz]at this)
 have f2:(lg.put h.objs.size emptyDict).led (h.objs.size+1)=none:=by refine sz▸?_;exact I1.free (Bl _)
 have x2:Ext (lg.put h.objs.size emptyDict) ((lg.put h.objs.size emptyDict).put (h.objs.size+1) (instObj C h.objs.size)):=Ext.mP _ f2
 have stores:∀p∈lg.mE,p.2≠h.objs.size:=fun p hp z=>by
  obtain⟨ob,q,_⟩:=I.stores hp
  (rw[z]at q;replace q:=I.fresh▸q);exact Ao q
 have frames:∀f∈fr,f.env.locals≠h.objs.size:=fun f pJ z=>by
  obtain⟨⟨ob,a1,_⟩,_⟩:=I.frames f pJ
  (rw[z]at a1;replace a1:=I.fresh▸a1);exact Ao a1
 have ld:((lg.put h.objs.size emptyDict).put (h.objs.size+1) (instObj C h.objs.size)).led h.objs.size=some emptyDict:=by
  rw[Lg.mj _ _ (i6 (iS _)),Lg.mm]
 have I3:=I2.new (a:=h.objs.size+1) (d:=h.objs.size) (o:=.inst c []) stores frames ⟨hc,C,hC,Lg.mm ..,iq _,[],0,ld,.nil⟩
 refine⟨_,I3,(x1.trans x2).trans (Ext.l8 _ _),?_⟩
 show(lg.mE++[(h.objs.size+1,h.objs.size)])[μ.length]?=_
 rw[<- I.heap.len,jd (gM _)]
 simp
end
theorem N0{FA:Nat->Addr}:∀(n:Nat) (S:my) (hd:Bool),sL S.base S.K FA->S.Φ=Ak l9 prog n hd->O3 S.A S.e S.fr->S.A.depth+3*n+3<recursionLimit->S.A.units+8*n+50<cLine->(hd=false->S.A.handled=none)->S.Calls FA:=by
 intro n
 induction n with
 |zero=>
  intro S hd P hΦ B hr hu hh f as ws hf m env lg μ Q X hr h
  replace h:=hΦ▸h
  exact h.elim
 |succ n ih=>
  intro S hd P hΦ B hr hu hh f as ws hf m env lg μ Q X pf h s E I H hX
  replace h:=hΦ▸h
  obtain⟨F,hp,h⟩:=Aq h
  ·induction F with
   |fn ps body=>
    obtain⟨env',he,hw⟩:=Aq h
    refine jY (Ri (n:=n) P (P.fns.fn f ps body hp) B (fun T uI p a b c d e=>ih T uI p a b c d e) rfl rfl (by exact mU (nI _ _ _) (.add (.add (.add (.var 0) (.mulL 3 (.var 1))) (.num 4)) (.num 1)) (.var 2) (.add (.add (.add (.var 0) (.mulL 3 (.add (.var 1) (.num 1)))) (.num 3)) (.num 1)) (.var 2) rfl hr) (by exact mU (nI _ _ _) (.add (.add (.add (.var 0) (.mulL 8 (.var 1))) (.num 53)) (.num 1)) (.var 2) (.add (.add (.add (.var 0) (.mulL 8 (.add (.var 1) (.num 1)))) (.num 50)) (.num 1)) (.var 2) rfl hu) hh I H pf he hw (fun mf mX m5 μ2 h2 nK w I2 x2 q r=>?_) fun v s' z=>hX v s' z)
    induction mf using K4.casesOn with
    |next=>subst r;exact⟨h2,nK,m5,μ2,rfl,I2,x2,.none,.none,q⟩
    |cont=>exact q.elim
    |ret v=>exact⟨h2,nK,m5,μ2,rfl,I2,x2,v,r,q⟩
   |cls c ps body=>
    obtain⟨env',he,hw⟩:=Aq h
    obtain⟨hc,hC,hmk,fI,hi,hty,qI⟩:=P.fns.cls f c ps body hp
    have XK:S.K.In s.heap:=P.qA.qd.keeps I.old
    obtain⟨hh',g,d,t,os⟩:=s
    obtain⟨mJ,I1,x1,r1⟩:=UH I hc hC
    refine jY (make_core (makes_of XK hmk) (lG XK hi) (fun self=>bind_fn XK self hty) (.inl rfl) ?_)
    have fr_:(S.A.under (.builtin "type.__call__" ⟨.ref (FA f) :: ws,[]⟩)).frames=S.A.frames:=by
     show pushEnvs (Code.builtin "type.__call__" ⟨.ref (FA f) :: ws,[]⟩).envs S.A.frames=_
     rw[QD];rfl
    have dp:(S.A.under (.builtin "type.__call__" ⟨.ref (FA f) :: ws,[]⟩)).depth=S.A.depth+1:=by
     show S.A.depth+(Code.builtin "type.__call__" ⟨.ref (FA f) :: ws,[]⟩).weight=_
     rw[HK]
    have un:(S.A.under (.builtin "type.__call__" ⟨.ref (FA f) :: ws,[]⟩)).units=S.A.units+1:=by
     show S.A.units+(Code.builtin "type.__call__" ⟨.ref (FA f) :: ws,[]⟩).cUnits=_
     rw[OX]
    refine Ri (n:=n) (s:=⟨(hh'.push emptyDict).push (instObj (FA f) hh'.objs.size),g,d,t,os⟩) P qI B (fun T uI p a b c d e=>ih T uI p a b c d e) rfl fr_ (by refine dp.symm▸?_;exact mU (nI _ _ _) (.add (.add (.add (.add (.var 0) (.num 1)) (.mulL 3 (.var 1))) (.num 4)) (.num 1)) (.var 2) (.add (.add (.add (.var 0) (.mulL 3 (.add (.var 1) (.num 1)))) (.num 3)) (.num 1)) (.var 2) rfl hr) (by refine un.symm▸?_;exact mU (nI _ _ _) (.add (.add (.add (.add (.var 0) (.num 1)) (.mulL 8 (.var 1))) (.num 53)) (.num 1)) (.var 2) (.add (.add (.add (.var 0) (.mulL 8 (.add (.var 1) (.num 1)))) (.num 50)) (.num 1)) (.var 2) rfl hu) hh I1 (H.mono x1) (Ar.cons (.l8 _ _ _ r1) (pf.mono x1)) he hw
     (fun mf mX m5 μ2 h2 nK w I2 x2 q r=>?_) fun v s' nV=>by obtain⟨_,_,_,_,_,_,_,_,_,_,_,f⟩:=nV;exact f.elim
    induction mf using K4.casesOn with
    |next=>exact⟨r,h2,nK,m5,μ2,rfl,I2,x1.trans x2,_,.l8 _ _ _ (x2.mE _ _ r1),q⟩
    |cont=>exact q.elim
    |ret v=>exact q.elim
noncomputable def lg0:Lg:=⟨fun _=>none,[]⟩
theorem Wp{pg:Program}{w:World}{A:Around}{K:Frag}{FA:Nat->Addr}{s:Shared}{a:Addr}{ps:List Nat}{body:MS}{as:List V}{ws:List Value}{env':An}{n:Nat}{Q':Au}{X':As}{R:Result->Shared->Prop}
  (P:sL s.heap K FA) (qI:R2 K a ps body) (uw:A.frames=some []) (hh:A.handled=none) (nU:A.depth+3*n+4<recursionLimit) (hu:A.units+8*n+53<cLine)
  (hr:Ar s.heap lg0 as ws) (he:CQ ps as (fun _=>none)=some env') (hw:Mine.ws l9 (Ak l9 prog n) false body Q' X' env' [])
  (rK:∀mf mX m5 μ2 h2 nK w,(∀b o,s.heap.get? b=some o->h2.get? b=some o)->Q' mf mX μ2->(match mf with|.next=>w=Value.none|.ret v=>Aw s.heap m5 v w|.cont=>True)->R (.ok (.ret w)) {s with heap:=h2,toks:=nK})
  (rI:∀r μ,¬X' r μ):codeAny (model pg w) A (.call (.ref a) ⟨ws,[]⟩) R s:=by
 obtain⟨oc,od,sl,fd,b,hK,hc,hb,oX,rG⟩:=qI
 have F:=Mx hc
 have X:K.In s.heap:=P.qA.qd
 have hl:ps.length=ws.length:=by(refine hr.1▸?_;refine(Fp he).symm▸?_;rfl)
 refine codeAny_call_cells (fd:=fd) (body:=b) (binds:=(ps.map nm).zip ws) (by exact qq9 nU) (X _ _ hK) rfl P.qA.qs (codeRec_of X oX) hb (Jk F hl) F.clo (fun x hx=>?_) (fun s₁ x=>?_) F.co F.gen F.kind
 ·obtain⟨p,hp,e⟩:=JZ hx
  refine e.symm▸?_
  rcases F.par p hp with q|q
  ·exact .inl q
  ·obtain⟨ca,px⟩:=Bk fd.scope.names [] (s.heap.objs.size+1) (nm p) (.inl (AN q))
   exact .inr ⟨q,by refine px.symm▸?_;rfl⟩
 obtain⟨h1,mZ,e1,_⟩:=x.done
 let S:my:={pg:=pg,w:=w,A:=A.deeper (callEnvC fd s.heap.objs.size a),base:=s.heap,K:=K,e:=callEnvC fd s.heap.objs.size a,fr:=[],sc:=fd.scope.names,Φ:=Ak l9 prog n false}
 let C:Addr->Prop:=fun a=>s.heap.objs.size<a/\∃o,s₁.heap.get? a=some o/\Da o
 have oU:∀n ca,(callEnvC fd s.heap.objs.size a).cells.lookup n=some ca->C ca/\s₁.heap.IsCell ca ((bindC (callEnvC fd s.heap.objs.size a).kindOf ((ps.map nm).zip ws) fun _=>none) n):=fun n ca q=>by
  have c:=x.cell n ca q
  obtain⟨o,ho,hd⟩:=id c
  exact⟨⟨x.above n ca (mem_of_lookup q),o,ho,_,hd⟩,c⟩
 have xg:Ext lg0 (lg0.nO C s₁.heap):=⟨fun _ _ _ q=>(by exact Ao q),fun _ _ _ q=>(by exact nomatch q),fun _ _ q=>(by simp[lg0]at q)⟩
 have rel:=NT (lg:=lg0.nO C s₁.heap) (kindOf:=(callEnvC fd s.heap.objs.size a).kindOf) (m0:=fun _=>none) (c0:=fun _=>none) (hr.mono xg) he F.lt (fun y v _ q=>by exact Ao q)
 have I':S.I (bindL (callEnvC fd s.heap.objs.size a).kindOf ((ps.map nm).zip ws) fun _=>none) env' (lg0.nO C s₁.heap) [] s₁.heap:=by
  refine⟨x.toInCall.keep,x.toInCall.ns,C5 (gM _),?_,fun b p q=>?_,fun f hf=>(by exact nomatch hf),?_,fun f hf=>(by exact nomatch hf),fun y v q ss=>?_,?_⟩
  ·rw[Lg.nD fun z=>absurd z.1 (ip _)];rfl
  ·by_cases z:C b
   ·replace q:=(Lg.nE z)▸q;exact⟨q,C5 (ki z.1)⟩
   ·exact AM (Lg.nD z) q
  ·exact List.Pairwise.cons (fun _ h=>by exact nomatch h) List.Pairwise.nil
  ·have r1:=(rel y v ss.1 q).1;have r2:=(rel y v ss.1 q).2
   refine⟨ss.1,?_⟩
   rcases ss.2 with z|z
   ·exact .inl ⟨z,r1 z⟩
   ·obtain⟨w',td,oO⟩:=r2 z
    obtain⟨ca,px⟩:=Bk fd.scope.names [] (s.heap.objs.size+1) (nm y) (.inl (AN z))
    obtain⟨hp,o,ho,hd⟩:=oU _ ca px
    replace hd:=td▸hd
    exact .inr ⟨z,ca,o,w',px,by refine(Lg.nE hp).symm▸?_;exact ho,hd,oO⟩
  ·exact⟨rfl,lm,fun n o q=>by simp at q⟩
 have H':S.H (lg0.nO C s₁.heap):=by
  refine⟨.inl hh,⟨fun n ca _ _ f hf=>(by exact nomatch hf),fun n n' ca q1 q2=>name_of_addr x.apart (mem_of_lookup q1) (mem_of_lookup q2),fun n q=>?_⟩⟩
  rcases q with q|q
  ·obtain⟨ca,px⟩:=Bk fd.scope.names [] (s.heap.objs.size+1) n (.inl (AN q))
   have hp:=(oU _ ca px).1
   obtain⟨o,ho,hc⟩:=id hp.2
   exact⟨ca,o,px,hc,by exact(Lg.nE hp).trans (ho)⟩
  ·have:=(F.vf n .free (AN q)).2;simp at this
 have FH:DV S.A S.e S.fr:=by
  refine⟨[],by show(A.frames.map _)=_;refine uw.symm▸?_;rfl,fun x hm=>?_⟩
  rcases List.mem_cons.mp hm with rfl|hm
  ·exact⟨.inl rfl,rfl,fun z=>by have:=F.kind;have z:fd.scope.kind=.module:=z;replace z:=this▸z;exact nomatch z⟩
  ·exact nomatch hm
 have rx:S.A.depth=A.depth+1:=rfl
 have qX:S.A.units=A.units+3:=rfl
 have GT:Gm S FA (Ak l9 prog n) false:=by
  refine⟨⟨⟨P.qA,Fs F,by refine qX.symm▸?_;exact YA hu,FH.qM,fun e fr sc fi=>N0 n _ false P rfl fi (by show S.A.depth+_+_<_;refine rx.symm▸?_;exact YB nU) (by show S.A.units+_+_<_;refine qX.symm▸?_;exact YC hu) fun _=>hh⟩,rfl,FH,fun _=>hh⟩,
   P.exc,P.rU,by refine rx.symm▸?_;exact eZ nU,fun z b=>⟨P.qA,Fs F,by show S.A.units+_+_<_;refine qX.symm▸?_;exact YA hu,FH.qM,fun e fr sc fi=>N0 n _ true P rfl fi (by show S.A.depth+_+_<_;refine rx.symm▸?_;exact YB nU) (by show S.A.units+_+_<_;refine qX.symm▸?_;exact YC hu) fun z=>by exact FT z⟩⟩
 refine gQ ((Z3 OD body).2 S false b GT rG _ env' _ [] Q' X' hw s₁ _ I' H' fun v s' z=>?_) (fun fl s2 z=>?_) fun _ _ e=>e
 ·obtain⟨h2,nK,m5,μ2,m2,mX,ea,r,_,_,_,_,_,q⟩:=z
  exact absurd q (rI r μ2)
 ·obtain⟨h2,nK,m5,μ2,m2,mX,mf,rfl,I2,x2,fr,q⟩:=z
  refine e1.symm▸?_
  refine rK mf mX m5 μ2 h2 nK _ I2.old q ?_
  induction mf<;>induction fl<;>first|trivial|exact fr.elim|rfl|exact fr
noncomputable def Lz(K:Frag)(a:Addr)(f:Value->Data->Array (Option Value)->Bool):Bool:=match K.lookup a with
 |some o=>f o.cls o.data o.slots
 |none=>false
theorem GN{K:Frag}{f:Value->Data->Array (Option Value)->Bool}{P:Prop}(h:Lz K a f=true)(k:∀c dd d sl,K.lookup a=some ⟨c,dd,d,sl⟩->f c d sl=true->P):P:=by
 unfold Lz at h
 cases q:K.lookup a with
 |none=>replace h:=q▸h;exact Be h
 |some o=>rw[q]at h;exact k _ _ _ _ q h
noncomputable def MY(d:Data)(f:FuncData->Bool):Bool:=BO d.ctorIdx 7 fun h=>Data.func.elim d h f
@[elab_as_elim] theorem Lx{f:FuncData->Bool}{P:Data->Prop}(h:MY d f=true)(k:∀x,f x=true->P (.func x)):P d:=
 if q:d.ctorIdx=7 then Data.func.elim (motive:=fun d=>MY d f=true->P d) d q k h else Be ((AA q).symm.trans h)
noncomputable def P5(d:Data)(f:ClassData->Bool):Bool:=BO d.ctorIdx 8 fun h=>Data.cls.elim d h f
@[elab_as_elim] theorem SX{f:ClassData->Bool}{P:Data->Prop}(h:P5 d f=true)(k:∀x,f x=true->P (.cls x)):P d:=
 if q:d.ctorIdx=8 then Data.cls.elim (motive:=fun d=>P5 d f=true->P d) d q k h else Be ((AA q).symm.trans h)
noncomputable def Vr(d:Data)(f:Array Value->Bool):Bool:=BO d.ctorIdx 2 fun h=>Data.seq.elim d h fun x _=>f x
@[elab_as_elim] theorem Vs{f:Array Value->Bool}{P:Data->Prop}(h:Vr d f=true)(k:∀x n,f x=true->P (.seq x n)):P d:=
 if q:d.ctorIdx=2 then Data.seq.elim (motive:=fun d=>Vr d f=true->P d) d q k h else Be ((AA q).symm.trans h)
noncomputable def MZ(v:Value)(f:Int->Bool):Bool:=BO v.ctorIdx 4 fun h=>Value.int.elim v h fun i _=>f i
@[elab_as_elim] theorem Ly{f:Int->Bool}{P:Value->Prop}(h:MZ v f=true)(k:∀i t,f i=true->P (.int i t)):P v:=
 if q:v.ctorIdx=4 then Value.int.elim (motive:=fun v=>MZ v f=true->P v) v q k h else Be ((AA q).symm.trans h)
noncomputable def M3(v:Value)(f:Str->Bool):Bool:=BO v.ctorIdx 6 fun h=>Value.str.elim v h fun s _=>f s
@[elab_as_elim] theorem S4{f:Str->Bool}{P:Value->Prop}(h:M3 v f=true)(k:∀s t,f s=true->P (.str s t)):P v:=
 if q:v.ctorIdx=6 then Value.str.elim (motive:=fun v=>M3 v f=true->P v) v q k h else Be ((AA q).symm.trans h)
noncomputable def RB(o:Option (Option Value))(f:Value->Bool):Bool:=CI o fun x=>CI x f
@[elab_as_elim] theorem J8{f:Value->Bool}{P:Option (Option Value)->Prop}(h:RB o f=true)(k:∀v,f v=true->P (some (some v))):P o:=
 BQ h fun x h=>BQ (P:=fun x=>P (some x)) h k
section
variable[deq:DecidableEq Str]
noncomputable def PX(v:Value)(n:Str):Bool:=M3 v fun s=>s==n
noncomputable def Ip(K:Frag)(ns:Addr)(n:Str):Option (Option Value):=match K.lookup ns with
 |some o=>if h:o.data.ctorIdx=3 then Data.dict.elim o.data h fun es _=>(match es.toList.find? (fun e=>PX e.key n) with
   |some e=>some (some e.val)
   |none=>bif es.toList.any (·.refKey)then none else some none)else none
 |none=>none
noncomputable def Zz(v:Value):Option Addr:=if h:v.ctorIdx=10 then Value.ref.elim v h some else none
noncomputable def DO(K:Frag)(n:Str):Option Addr:=(Ip K mainGlobals n).bind fun x=>x.bind Zz
noncomputable def Sx(K:Frag)(f:Nat):Addr:=(DO K (nm f)).getD 0
noncomputable def PT:List V->List Value->Bool
 |[],r=>BM r true
 |v :: l,r=>BL r fun w r=>CI (Cx v) fun i=>MZ w fun j=>i==j&&PT l r
noncomputable def ZR(K:Frag)(v:V)(w:Value):Bool:=match v with
 |.int i=>MZ w fun j=>i==j
 |.str l=>M3 w fun s=>s==sx l&&(decide (l.length<=lim)&&l.all (fun c=>decide (c<128)))
 |.tup l=>J9 w fun a=>Lz K a fun c d _=>c==.type "tuple"&&Vr d fun vs=>PT l vs.toList&&decide (l.length<=lim)
 |_=>false
noncomputable def Ut(K:Frag)(a:Addr)(ps:List Nat)(body:MS):Bool:=Lz K a fun _ d _=>MY d fun fd=>N1 fd ps&&(codeIn K fd.code fd.qualname&&M2 fd.body (Ii fd.scope.names body))
noncomputable def My(K:Frag):Bool:=Rk.all fun x=>RB (Ip K mainGlobals (nm x.1)) (ZR K x.2)
noncomputable def M8(K:Frag)(a:Addr)(F:rn):Bool:=match F with
 |.fn ps body=>Ut K a ps body
 |.cls c ps body=>decide (c<3)&&((Ip K mainGlobals (sx (T6 c))==some (some (.ref a)))&&(makesIn K a&&RB (findIn K (.ref a) "__init__") fun v=>J9 v fun fI=>(typeIn K (.ref fI)==some (.type "function"))&&Ut K fI ps body))
noncomputable def CK(K:Frag)(l:List (Nat×rn)):Bool:=l.all fun x=>CI (DO K (nm x.1)) fun a=>keepIn K (.ref a)&&M8 K a x.2
noncomputable def II(K:Frag):Bool:=CK K Cp
noncomputable def Pm(K:Frag):Bool:=[0,1,2,3,4].all fun i=>(Ip K mainGlobals (Str.ofString (HR i))==some none)&&(Ip K builtinsNs (Str.ofString (HR i))==some (some (Jm i)))
noncomputable def Pw(K:Frag)(C:Addr):Bool:=(findIn K (.ref C) "__setattr__"==some (some (.builtin "object.__setattr__")))&&(plainOver K C&&(hasDictIn K C&&EJ.all fun a=>(takerIn K C (nm a)==some none)&&(plainGet K C (nm a)&&(findIn K (.ref C) (nm a)==some none))))
noncomputable def Pv(K:Frag):Bool:=[0,1,2].all fun c=>CI (DO K (sx (T6 c))) (Pw K)
noncomputable def Od(K:Frag)(C:Addr)(f:List Value->Bool):Bool:=Lz K C fun c d sl=>(c==.type "type")&&P5 d fun cd=>cd.hasDict&&(!cd.abstract&&(!cd.hasDel&&BL cd.mro fun r bm=>(r==.ref C)&&
 BL sl.toList fun _ l=>BL l fun _ l=>BL l fun _ l=>BL l fun _ l=>BL l fun x l=>CI x fun x=>(x==.builtin "Exception.__new__")&&pG l fun _=>f bm))
noncomputable def Uo(K:Frag)(c:Nat)(C:Addr)(bm:List Value):Bool:=bm.contains (.type "Exception")&&(bm.contains (.type "BaseException")&&(!bm.contains (.type "AttributeError")&&(!bm.contains (.type "NameError")&&
   ((specialIn K (.ref C) "__call__"==some (some (.builtin "type.__call__")))&&((instIn K (.ref C) (.type "type")==some true)&&((typeIn K (.ref C)==some (.type "type"))&&
   ((findIn K (.ref C) "__setattr__"==some (some (.builtin "object.__setattr__")))&&((findIn K (.ref C) "text"==some none)&&(CC bm&&
   (([1,2,3].all fun d=>CI (DO K (Str.ofString (EM d))) fun D=>(Value.ref C :: bm).contains (.ref D)==DX c d)&&
   RB (findIn K (.ref C) "__init__") fun v=>J9 v fun fI=>(typeIn K (.ref fI)==some (.type "function"))&&Lz K fI fun _ d _=>MY d fun fd=>Q1 fd&&codeIn K fd.code fd.qualname))))))))))
noncomputable def Mr(K:Frag):Bool:=[1,2,3].all fun c=>CI (DO K (Str.ofString (EM c))) fun C=>Od K C (Uo K c C)
noncomputable def Fm(K:Frag):Bool:=My K&&(II K&&(Pm K&&(Pv K&&(Mr K&&((Ip K mainGlobals "Exception"==some none)&&(Ip K builtinsNs "Exception"==some (some (.type "Exception"))))))))
noncomputable def Nc(K:Frag):Bool:=My K&&(Pm K&&(Pv K&&(Mr K&&((Ip K mainGlobals "Exception"==some none)&&(Ip K builtinsNs "Exception"==some (some (.type "Exception")))))))
theorem O7(h:a=true)(k:b=true):(a&&b)=true:=by rw[h];exact k
theorem Tq{K:Frag}(g:Nc K=true)(p:II K=true):Fm K=true:=O7 (Al g) (O7 p (Aa g))
theorem FU{K:Frag}{l:List (Nat×rn)}(i:Nat)(a:CK K (l.take i)=true)(b:CK K (l.drop i)=true):CK K l=true:=by
 have e:CK K (l.take i++l.drop i)=true:=(List.all_append ..).trans (O7 a b)
 rw[jI]at e
 exact e
theorem Qg{K:Frag}(i:Nat)(a:CK K (Cp.take i)=true)(b:CK K (Cp.drop i)=true):II K=true:=FU i a b
end
section
variable{K:Frag}{h:Heap}
theorem SK(v:Value)(n:Str):PX v n=v.isStr n:=by induction v<;>rfl
theorem DP(ns:Addr)(n:Str):Ip K ns n=nsIn K ns n:=by
 unfold Ip nsIn
 refine(show(fun e:DictEntry=>PX e.key n)=fun e=>e.key.isStr n from funext fun e=>SK _ _).symm▸?_
 cases K.lookup ns with
 |none=>rfl
 |some o=>
  obtain⟨c,d,dt,sl⟩:=o
  induction dt with
  |dict es n'=>
   show(match es.toList.find? (fun e=>e.key.isStr n)with|some e=>some (some e.val)|none=>bif es.toList.any (·.refKey)then none else some none)=(match es.toList.find? (fun e=>e.key.isStr n)with|some e=>some (some e.val)|none=>if es.toList.any (·.refKey)then none else some none)
   cases es.toList.find? (fun e=>e.key.isStr n) with
   |some e=>rfl
   |none=>cases es.toList.any (·.refKey)<;>rfl
  |_=>rfl
theorem Gb{m:Str->Option Value}(X:K.In h)(N:h.Ns a m)(e:nsIn K a n=some r):m n=r:=by
 obtain⟨o,es,ep,g,d,_,f⟩:=N
 rw[<- f n]
 unfold nsFind findBy
 rw[<- Array.find?_toList]
 unfold nsIn at e
 cases q:K.lookup a with
 |none=>rw[q]at e;exact nomatch e
 |some o'=>
  rw[q]at e
  obtain rfl:=Option.some.inj ((X _ _ q).symm.trans g)
  obtain⟨c,dd,dt,sl⟩:=o'
  obtain rfl:dt=_:=d
  replace e:(match es.toList.find? (fun e=>e.key.isStr n)with|some e=>some (some e.val)|none=>if es.toList.any (·.refKey)then none else some none)=some r:=e
  clear f q g
  cases z:es.toList.find? (fun e=>e.key.isStr n) with
  |some e'=>rw[z]at e;exact Option.some.inj e
  |none=>
   rw[z]at e
   dsimp only at e
   cases y:es.toList.any (·.refKey) with
   |true=>rw[y]at e;exact nomatch e
   |false=>rw[y]at e;exact Option.some.inj e
theorem TE(e:Zz v=some a):v=.ref a:=by
 induction v<;>first|exact congrArg Value.ref (Option.some.inj e)|exact nomatch e
theorem JJ(e:DO K n=some a):nsIn K mainGlobals n=some (some (.ref a)):=by
 obtain⟨x,hx,e⟩:=Option.bind_eq_some_iff.mp e
 obtain⟨v,rfl,e⟩:=Option.bind_eq_some_iff.mp e
 rw[TE e,DP]at hx
 exact hx
theorem JK(e:nsIn K mainGlobals n=some (some (.ref a))):DO K n=some a:=by
 unfold DO;rw[DP,e];rfl
theorem PW{l:List V}:∀{r:List Value},PT l r=true->l.length=r.length/\∀(i:Nat) (v:V) (w:Value),l[i]?=some v->r[i]?=some w->Aw h lg v w:=by
 induction l with
 |nil=>exact fun e=>AP e fun _=>⟨rfl,fun i v w a=>Ao a⟩
 |cons x l ih=>
  intro r e
  refine A1 (l:=r) e fun y r e'=>?_
  cases q:Cx x with
  |none=>rw[q]at e';exact Be e'
  |some i=>
   rw[q]at e'
   obtain rfl:=Fa q
   refine Ly e' fun j t e=>?_
   obtain rfl:i=j:=gU (Al e)
   refine⟨congrArg Nat.succ (ih (Aa e)).1,fun n v w a b=>?_⟩
   cases n with
   |zero=>obtain rfl:=Option.some.inj a;obtain rfl:=Option.some.inj b;exact .int _ _
   |succ n=>exact(ih (Aa e)).2 n v w a b
theorem SP(X:K.In h)(e:ZR K v w=true)(lg:Lg):Aw h lg v w:=by
 cases v with
 |int i=>exact Ly e fun j t e=>EX e (.int _ _)
 |str l=>exact S4 e fun s t e=>ZJ (gU (Al e)).symm (.str _ _ ⟨gO (Al (Aa e)),fun c hc=>gO (List.all_eq_true.mp (Aa (Aa e)) c hc)⟩)
 |tup l=>
  refine GO e fun a e=>GN e fun c dd d sl hl e=>?_
  obtain rfl:c=.type "tuple":=gU (Al e)
  replace e:=Aa e
  revert hl
  refine Vs e fun vs n e hl=>?_
  obtain⟨k1,k2⟩:=PW (h:=h) (lg:=lg) (Al e)
  exact .tup _ a _ vs n ⟨⟨by simp,by simp,by simp⟩,.inr (X _ _ hl)⟩ rfl rfl (by simpa using k1) (gO (Aa e)) fun i v w a b=>k2 i v w a (by simpa using b)
 |_=>exact Be e
theorem Oh(e:Ut K a ps body=true):R2 K a ps body:=by
 refine GN e fun c dd d sl hl e=>?_
 revert hl
 exact Lx e fun fd e hl=>Kb (Aa (Aa e)) fun b hb e'=>⟨c,dd,sl,fd,b,hl,Al e,hb,Al (Aa e),e'⟩
theorem JU{β:Type}{l:List (Nat×β)}{p:Nat×β->Bool}(h:l.all p=true){x:Nat}{v:β}(e:l.lookup x=some v):p (x,v)=true:=by
 induction l with
 |nil=>exact Ao e
 |cons y r ih=>
  have h:=BW h
  rw[ib]at e
  cases q:x==y.1 with
  |true=>replace e:=q▸e;obtain rfl:=Option.some.inj e;refine(gU q).symm▸?_;exact h.1
  |false=>rw[q]at e;exact ih h.2 e
structure LU(K:Frag)(c:Nat)(C:Addr)(bm:List Value)(fI:Addr):Prop where
 hasB:bm.contains (.type "Exception")=true
 hasBase:bm.contains (.type "BaseException")=true
 noAttr:bm.contains (.type "AttributeError")=false
 noName:bm.contains (.type "NameError")=false
 call:specialIn K (.ref C) "__call__"=some (some (.builtin "type.__call__"))
 typ:instIn K (.ref C) (.type "type")=some true
 tt:typeIn K (.ref C)=some (.type "type")
 set:findIn K (.ref C) "__setattr__"=some (some (.builtin "object.__setattr__"))
 free:findIn K (.ref C) "text"=some none
 over:CC bm=true
 sub:∀d D,1<=d->d<=3->DO K (Str.ofString (EM d))=some D->(Value.ref C :: bm).contains (.ref D)=DX c d
 init:findIn K (.ref C) "__init__"=some (some (.ref fI))
 fn:typeIn K (.ref fI)=some (.type "function")
 u6:O5 K fI
theorem Oe{f:List Value->Bool}{P:Prop}(e:Od K C f=true)
  (k:∀bm,O2 K C bm->f bm=true->P):P:=by
 refine GN e fun c dd d sl hl e=>?_
 obtain rfl:c=.type "type":=gU (Al e)
 replace e:=Aa e
 revert hl
 refine SX e fun cd e hl=>?_
 obtain⟨a,b,mro,d,f,hd,i,j,ab,n,de⟩:=cd
 obtain rfl:hd=true:=Al e
 obtain rfl:ab=false:=CH (Al (Aa e))
 obtain rfl:de=false:=CH (Al (Aa (Aa e)))
 replace e:=Aa (Aa (Aa e))
 revert hl
 refine A1 (l:=mro) e fun r bm e hl=>?_
 obtain rfl:r=.ref C:=gU (Al e)
 replace e:=Aa e
 obtain⟨sl⟩:=sl
 revert hl
 refine A1 (l:=sl) e fun k0 l e=>A1 e fun k1 l e=>A1 e fun k2 l e=>A1 e fun k3 l e=>A1 e fun x l e=>BQ e fun x e=>?_
 obtain rfl:x=.builtin "Exception.__new__":=gU (Al e)
 exact B5 (Aa e) fun k5 e hl=>k bm ⟨_,_,_,_,_,_,_,_,k0,k1,k2,k3,k5,hl⟩ e
theorem LU.mk'(A:LU K c C bm fI)(o:O2 K C bm):HM K C fI bm/\(∃cd,clsIn K C=some cd/\CC cd.mro=true)/\Ty K C bm:=by
 refine⟨⟨o,A.hasB,A.hasBase,A.noAttr,A.noName,A.init,A.fn,A.call,A.typ,A.tt,A.set,A.free⟩,?_⟩
 obtain⟨nm,q,N,bs,sn,sub,col,dd,k0,k1,k2,k3,k5,hC⟩:=o
 exact⟨⟨_,by unfold clsIn;rw[hC],A.over⟩,nm,q,N,bs,true,sn,sub,false,col,dd,k0,k1,k2,k3,k5,_,hC,A.hasBase⟩
theorem IV{α:Type}[DecidableEq α]{l:List α}{p:α->Bool}(h:l.all p=true)(x:α)(hx:(l.contains x)=true):p x=true:=List.all_eq_true.mp h x (List.contains_iff_mem.mp hx)
theorem Kr(h1:1<=c)(h2:c<=3):[1,2,3].contains c=true:=by
 obtain rfl|rfl|rfl:c=1\/c=2\/c=3:=by lia
 all_goals rfl
theorem aN(h:c<3):[0,1,2].contains c=true:=by
 obtain rfl|rfl|rfl:c=0\/c=1\/c=2:=by lia
 all_goals rfl
theorem ao(h:c<5):[0,1,2,3,4].contains c=true:=by
 obtain rfl|rfl|rfl|rfl|rfl:c=0\/c=1\/c=2\/c=3\/c=4:=by lia
 all_goals rfl
theorem Mk(e:Pv K=true)(hC:Ce K c C)(hc:c<3):Pw K C=true:=by
 have:=IV e c (aN hc)
 rw[JK hC]at this
 exact this
theorem aU(e:Mr K=true)(h1:1<=c)(h2:c<=3):∃C,DO K (Str.ofString (EM c))=some C:=by
 have:=IV e c (Kr h1 h2)
 generalize DO K (Str.ofString (EM c))=o at this
 exact BQ this fun C _=>⟨C,rfl⟩
theorem PI(e:Uo K c C bm=true):∃fI,LU K c C bm fI:=by
 have a1:=Al e
 replace e:=Aa e
 have a2:=Al e
 replace e:=Aa e
 have a3:=CH (Al e)
 replace e:=Aa e
 have a4:=CH (Al e)
 replace e:=Aa e
 have a5:=gU (Al e)
 replace e:=Aa e
 have a6:=gU (Al e)
 replace e:=Aa e
 have a7:=gU (Al e)
 replace e:=Aa e
 have a8:=gU (Al e)
 replace e:=Aa e
 have a9:=gU (Al e)
 replace e:=Aa e
 have a10:=Al e
 replace e:=Aa e
 have a11:=Al e
 replace e:=Aa e
 have a12:∀d D,1<=d->d<=3->DO K (Str.ofString (EM d))=some D->(Value.ref C :: bm).contains (.ref D)=DX c d:=fun d D d1 d2 hD=>by
  have:=IV a11 d (Kr d1 d2)
  rw[hD]at this
  exact gU this
 clear a11
 generalize hi:findIn K (.ref C) "__init__"=o at e
 revert hi
 refine J8 e fun v e=>GO e fun fI e hi=>?_
 have b1:=gU (Al e)
 refine GN (Aa e) fun oc od d sl hl e=>?_
 revert hl
 exact Lx e fun fd e hl=>⟨fI,a1,a2,a3,a4,a5,a6,a7,a8,a9,a10,a12,hi,b1,⟨oc,od,sl,fd,hl,Al e,Aa e⟩⟩
theorem Re(e:Mr K=true)(h1:1<=c)(h2:c<=3)(hC:E7 K c C):∃fI bm,HM K C fI bm/\(∃cd,clsIn K C=some cd/\CC cd.mro=true)/\Ty K C bm/\LU K c C bm fI:=by
 have:=IV e c (Kr h1 h2)
 rw[JK hC]at this
 refine Oe this fun bm o e=>?_
 obtain⟨fI,A⟩:=PI e
 exact⟨fI,bm,(A.mk' o).1,(A.mk' o).2.1,(A.mk' o).2.2,A⟩
theorem IJ(e:II K=true)(hf:prog f=some F):DO K (nm f)=some (Sx K f)/\keepIn K (.ref (Sx K f))=true/\M8 K (Sx K f) F=true:=by
 have:=JU e hf
 unfold Sx
 generalize DO K (nm f)=o at this
 exact BQ this fun a h=>⟨rfl,Al h,Aa h⟩
theorem Xx(X:K.In h){mg:Str->Option Value}(ng:h.Ns mainGlobals mg)(e:My K=true)(hv:l9 x=some v):∃w,mg (nm x)=some w/\∀lg,Aw h lg v w:=by
 have:=JU e hv
 generalize q:Ip K mainGlobals (nm x)=o at this
 revert q
 exact J8 this fun w h q=>⟨w,Gb X ng ((DP _ _).symm.trans q),fun lg=>SP X h lg⟩
theorem am(X:K.In h){mg mb:Str->Option Value}(ng:h.Ns mainGlobals mg)(nb:h.Ns builtinsNs mb)(e:Pm K=true)(hi:i<5):mg (Str.ofString (HR i))=none/\mb (Str.ofString (HR i))=some (Jm i):=by
 have:=IV e i (ao hi)
 exact⟨Gb X ng ((DP _ _).symm.trans (gU (Al this))),Gb X nb ((DP _ _).symm.trans (gU (Aa this)))⟩
theorem N5(e:Pw K C=true)(a:Nat)(ha:a∈EJ):takerIn K C (nm a)=some none/\plainGet K C (nm a)=true/\findIn K (.ref C) (nm a)=some none:=by
 have:=List.all_eq_true.mp (Aa (Aa (Aa e))) a ha
 exact⟨gU (Al this),Al (Aa this),gU (Aa (Aa this))⟩
theorem Xq(q:M8 K a (.cls c ps body)=true):c<3/\Ce K c a/\makesIn K a=true/\∃fI,findIn K (.ref a) "__init__"=some (some (.ref fI))/\typeIn K (.ref fI)=some (.type "function")/\R2 K fI ps body:=by
 refine⟨gO (Al q),(DP _ _).symm.trans (gU (Al (Aa q))),Al (Aa (Aa q)),?_⟩
 replace q:=Aa (Aa (Aa q))
 generalize findIn K (.ref a) "__init__"=o at q
 exact J8 q fun v q=>GO q fun fI q=>⟨fI,rfl,gU (Al q),Oh (Aa q)⟩
theorem cg(X:K.In h)(qq:h.NoLimit){mg mb:Str->Option Value}(ng:h.Ns mainGlobals mg)(nb:h.Ns builtinsNs mb)(e:Fm K=true):sL h K (Sx K):=by
 have e1:=Al e
 replace e:=Aa e
 have e2:=Al e
 replace e:=Aa e
 have e3:=Al e
 replace e:=Aa e
 have e4:=Al e
 replace e:=Aa e
 have e5:=Al e
 replace e:=Aa e
 refine⟨⟨X,qq,⟨fun c C h1 h2=>⟨gU (Al (Mk e4 h1 h2)),Al (Aa (Mk e4 h1 h2)),Al (Aa (Aa (Mk e4 h1 h2)))⟩,fun c C h1 h2=>N5 (Mk e4 h1 h2)⟩,mg,mb,ng,nb,fun x v hv=>Xx X ng e1 hv,fun f hf=>?_,fun i hi=>am X ng nb e3 hi,fun c h1 h2=>?_⟩,⟨fun c C h1 h2 hC=>?_⟩,
  ⟨fun c C h1 h2 hC=>?_,mg,mb,ng,nb,Gb X ng ((DP _ _).symm.trans (gU (Al e))),Gb X nb ((DP _ _).symm.trans (gU (Aa e)))⟩,⟨fun f ps body hf=>Oh (IJ e2 hf).2.2,fun f c ps body hf=>Xq (IJ e2 hf).2.2⟩⟩
 ·obtain⟨F,hp⟩:=Option.isSome_iff_exists.mp hf
  exact⟨Gb X ng (JJ (IJ e2 hp).1),(IJ e2 hp).2.1⟩
 ·obtain⟨C,hC⟩:=aU e5 h1 h2
  exact⟨C,JJ hC,Gb X ng (JJ hC)⟩
 ·obtain⟨fI,bm,_,_,k3,k4⟩:=Re e5 h1 h2 hC
  exact⟨bm,k3,fun d D d1 d2 hD=>k4.sub d D d1 d2 (JK hD)⟩
 ·obtain⟨fI,bm,k1,k2,_,k4⟩:=Re e5 h1 h2 hC
  exact⟨fI,bm,k1,k2,k4.u6⟩
end
noncomputable def GZ(ok:Thread->Bool)(stp:SharedT->Thread->Option (SharedT×Thread)):Nat->SharedT->Thread->Option SharedT
 |0,_,_=>none
 |n+1,s,t=>match through t with
  |true=>some s
  |false=>match ok t with
   |false=>none
   |true=>match stp s t with
    |some (s',t')=>GZ ok stp n s' t'
    |none=>none
theorem Tr{tb:String->Option Builtin}{p:Program}{w:World}{n₀:Nat}{ann:Option Value}{n:Nat}{s s':SharedT}{t:Thread}(h:GZ (stepOk n₀ ann) (stepT (denote tb) p w) n s t=some s'):topRun tb p w n₀ ann n s.abs t=some s'.abs:=by
 induction n generalizing s t with
 |zero=>exact Ao h
 |succ n ih=>
  unfold GZ at h
  unfold topRun
  cases ht:through t with
  |true=>replace h:=ht▸h;obtain rfl:=Option.some.inj h;rfl
  |false=>
   replace h:=ht▸h
   cases hk:stepOk n₀ ann t with
   |false=>replace h:=hk▸h;exact Ao h
   |true=>
    replace h:=hk▸h
    cases hs:stepT (denote tb) p w s t with
    |none=>replace h:=hs▸h;exact Ao h
    |some r=>obtain⟨s₂,t₂⟩:=r;rw[hs]at h;refine(stepT_spec hs).symm▸?_;exact ih h
noncomputable def Jn(P:Params):BT:=
 .node (boot_o_0 P) (.node (boot_o_1 P) (.node (boot_o_3 P) (.node (boot_o_7 P) .nil .nil) .nil) (.node (boot_o_5 P) (.node (boot_o_9 P) .nil .nil) .nil))
  (.node (boot_o_2 P) (.node (boot_o_4 P) (.node (boot_o_8 P) .nil .nil) .nil) (.node (boot_o_6 P) (.node (boot_o_10 P) .nil .nil) .nil))
theorem KN(P:Params):absHeap (Jn P) 11 (boot_heap P).life=boot_heap P:=by kernel_rfl
noncomputable def TM(w:World)(os:OsState):SharedT:=⟨Jn w.params,11,(boot_heap w.params).life,#[],boot_drawn,boot_toks,os⟩
noncomputable def Gw(w:World):Option Value:=(boot_heap w.params).nsMap mainGlobals "__annotations__"
noncomputable abbrev pw:=PySem.Challenge.pw_pf0107_01
noncomputable def K3:List Nat:=[0,3,27,28,30,31,47,48,50,51,66,67,69,70,81,82,93,94,105,106,114,115,121,122,128,129,135,136,142,143,149,150,156,157,163,164,170,171,177,178,184,185,191,192,198,199,205,206,212,213,219,220,226,227,233,234,235,236,249,250,252,253,263,264,270,271,277,278,284,285,291,292,298,299,305,306,312,313,319,320,326,327,333,334,340,341,347,348,354,355,368,369,371,372,382,383,389,390,396,397,403,404,410,411,417,418,424,425,431,432,438,439,445,446,452,453,459,460,466,467,473,474,480,481,487,488,494,495,501,502,508,509,515,516,522,523,529,530,536,537,543,544,550,551,557,558,564,565,571,572,578,579,585,586,592,593,599,600,606,607,613,614,620,621,627,628,634,635,641,642,648,649,655,656,662,663,669,670,676,677,683,684,690,691,697,698,704,705,711,712,718,719,725,726,732,733,739,740,746,747,753,754,760,761,767,768,774,775,781,782,788,789,795,796,802,803,809,810,816,817,823,824,830,831,837,838,844,845,851,852,858,859,865,866,872,873,879,880,886,887,893,894,900,901,907,908,914,915,921,922,928,929,935,936,942,943,949,950,956,957,963,964,970,971,977,978,991,992,994,995,1005,1006,1012,1013,1017,1018,1024,1025,1031,1032,1036,1037,1041,1042,1048,1049,1053,1054]
noncomputable def pD(g:Nat->Option Obj):Frag:=K3.filterMap fun a=>(g a).map (a,·)
noncomputable def vw:Program:=view pw [191]
noncomputable def sB:List Str:=pw.boundNames.filter fun n=>!(n==("law":Str))
noncomputable def VX(w:World)(os:OsState):Option SharedT:=GZ (Fast.tw6613529449190102663 11 (Gw w)) (Fast.tw10156331382660048174 (Fast.tw11892475500146522536 Fast.tw14364793385576792824) pw w) 8000 (TM w os) (topStub pw)
noncomputable def gT(s:SharedT)(a:Addr):Option Obj:=@Bool.rec (fun _=>Option Obj) none ((s.tree.get a).bind alive) (Nat.blt a s.n)
theorem eg{s:SharedT}{a:Addr}{o:Obj}(h:gT s a=some o):s.abs.heap.get? a=some o:=by
 unfold gT at h
 cases q:Nat.blt a s.n with
 |false=>rw[q]at h;exact Ao h
 |true=>
  rw[q]at h
  obtain⟨x,h1,h2⟩:=Option.bind_eq_some_iff.mp h
  exact(abs_get (Nat.blt_eq.mp q) h1).trans h2
theorem bc{s:SharedT}(h:K3.all (fun a=>(gT s a).isSome)=true):pD (gT s)=pD s.abs.heap.get?:=by
 unfold pD
 generalize K3=l at h
 induction l with
 |nil=>rfl
 |cons a l ih=>
  obtain⟨o,e⟩:=Option.isSome_iff_exists.mp (Al h)
  rw[iZ,iZ,e,eg e,ih (Aa h)]
noncomputable def q9(l ks:List Str):Bool:=match l with
 |[]=>ks.isEmpty
 |b :: l=>match ks with
  |[]=>true
  |k :: ks=>cond (Fast.sEq b k) (q9 l ks) (q9 l (k :: ks))
theorem XB{l ks:List Str}(h:q9 l ks=true):∀k∈ks,k∈l:=by
 induction l generalizing ks with
 |nil=>cases ks with
  |nil=>exact nofun
  |cons k ks=>cases h
 |cons b l ih=>
  cases ks with
  |nil=>exact nofun
  |cons k ks=>
   cases e:Fast.sEq b k with
   |true=>
    have h:cond (Fast.sEq b k) (q9 l ks) (q9 l (k :: ks))=true:=h
    rw[e]at h
    exact List.forall_mem_cons.mpr ⟨Fast.sEq_iff.mp e▸gR,fun x hx=>gH _ (ih h x hx)⟩
   |false=>
    have h:cond (Fast.sEq b k) (q9 l ks) (q9 l (k :: ks))=true:=h
    rw[e]at h
    exact fun x hx=>gH _ (ih h x hx)
noncomputable def Rw(h:Heap):Bool:=h.isNs mainGlobals&&q9 (startupNames++pw.boundNames) (h.nsKeys mainGlobals)
theorem Vb{h:Heap}(e:Rw h=true):namesBound pw h=true:=
 O7 (Al e) (List.all_eq_true.mpr fun k hk=>(List.mem_append.mp (XB (Aa e) k hk)).elim (fun z=>by rw[List.contains_iff_mem.mpr z];rfl) (fun z=>by rw[List.contains_iff_mem.mpr z,jz]))
theorem fQ{a b c d e:Bool}(k:b=true->e=true)(h:(a&&b&&c&&d)=true):(a&&e&&c&&d)=true:=O7 (O7 (O7 (Al (Al (Al h))) (k (Aa (Al (Al h))))) (Aa (Al h))) (Aa h)
theorem eN(w:World)(os:OsState):(VX w os).map (fun s=>(staticsOk [] (boot_heap w.params) s.abs.heap&&Rw s.abs.heap&&gensDone s.abs&&laidKept (boot_heap w.params) s.abs.heap)&&(K3.all (fun a=>(gT s a).isSome)&&CK (deq:=Fast.sDec) (pD (gT s)) (Cp.take 55)))=some true:=by kernel_rfl
theorem eO(w:World)(os:OsState):(VX w os).map (fun s=>Fast.tw4187177175401517315 vw sB [] (fun _=>true) true s.abs)=some (openGood vw sB):=by kernel_rfl
theorem eP(w:World)(os:OsState):(VX w os).map (fun s=>Nc (deq:=Fast.sDec) (pD (gT s))&&CK (deq:=Fast.sDec) (pD (gT s)) ((Cp.drop 55).take 45))=some true:=by kernel_rfl
theorem eQ(w:World)(os:OsState):(VX w os).map (fun s=>CK (deq:=Fast.sDec) (pD (gT s)) ((Cp.drop 55).drop 45))=some true:=by kernel_rfl
theorem QF{tb:String->Option Builtin}{p:Program}{w:World}{N n₀:Nat}{ann:Option Value}{s₀ s₁:Shared}(h1:(s₀.heap.isNs mainGlobals&&s₀.gens.size==0)=true)(h2:s₀.heap.objs.size=n₀)(h3:s₀.heap.nsMap mainGlobals "__annotations__"=ann)
  (r:topRun tb p w n₀ ann N s₀ (topStub p)=some s₁) {ms:List Str} (hm:importedModules p.main.body=ms) (l:(staticsOk ms s₀.heap s₁.heap&&namesBound p s₁.heap&&gensDone s₁&&laidKept s₀.heap s₁.heap)=true):topFrom tb p w N s₀=some s₁:=by
 subst h2 h3 hm
 unfold topFrom
 rw[h1]
 dsimp only
 rw[r,k8,l]
theorem XO{p q:Program}{loose ms:List Str}{Xt:Shared->Bool}{α:Type}{Yf:Shared->α}{Ya:World->α}{N:Nat}{g0:Bool}{H₀:Params->Heap}{uq:Array GenState}{d₀:Drawn}{k₀:Nat}
  (tw:∀w:World,(fencedOpening treeTable p w N).map (fun s=>(s.heap,s.gens,s.drawn,s.toks))=some (H₀ w.params,uq,d₀,k₀)) (hm:importedModules p.main.body=ms)
  (run:∀(w:World) (os:OsState),∃s₁,topFrom treeTable p w N ⟨H₀ w.params,uq,d₀,k₀,os⟩=some s₁/\openSeen q loose ms Xt g0 s₁=openGood q loose/\Yf s₁=Ya w):LeftO p q loose Xt Yf Ya N g0:=by
 intro w
 obtain⟨⟨h,gs,d,k,os⟩,e,e'⟩:=Option.map_eq_some_iff.mp (tw w)
 obtain⟨rfl,rfl,rfl,rfl⟩:h=H₀ w.params/\gs=uq/\d=d₀/\k=k₀:=by simpa using e'
 obtain⟨s1,a,b,c⟩:=run w os
 unfold openEnds
 rw[e,k8,a,ku,hm,b,c]
theorem cJ{tb:String->Option Builtin}{p:Program}{n₀:Nat}{N:Nat}{ann:World->Option Value}{S0:World->OsState->SharedT}{ok:World->Thread->Bool}{stp:World->SharedT->Thread->Option (SharedT×Thread)}{w:World}{os:OsState}{s1:SharedT}
  (e1:ok w=stepOk n₀ (ann w)) (e2:stp w=stepT (denote tb) p w) (r:GZ (ok w) (stp w) N (S0 w os) (topStub p)=some s1):topRun tb p w n₀ (ann w) N (S0 w os).abs (topStub p)=some s1.abs:=Tr (by(refine e1▸?_;refine e2▸?_);exact r)
theorem Qd:opening pw=plainProg pw.main.scope.names:=by kernel_rfl
theorem Of(s:Shared):fenceModules? pw s=some s:=by kernel_rfl
theorem Ot:importedModules pw.main.body=[]:=by kernel_rfl
theorem WG(P:Params):((boot_heap P).isNs mainGlobals&&(#[]:Array GenState).size==0)=true:=by kernel_rfl
theorem Sh(P:Params):(boot_heap P).objs.size=11:=by kernel_rfl
theorem Zi(w:World):Fast.tw10156331382660048174 (Fast.tw11892475500146522536 Fast.tw14364793385576792824) pw w=stepT (denote treeTable) pw w:=by
 rw[Fast.te10156331382660048174,Fast.te11892475500146522536,Fast.te14364793385576792824]
theorem eX(w:World):Fast.tw6613529449190102663 11 (Gw w)=stepOk 11 (Gw w):=by rw[Fast.te6613529449190102663]
theorem Sg(w:World)(os:OsState):(TM w os).abs=⟨boot_heap w.params,#[],boot_drawn,boot_toks,os⟩:=by
 show Shared.mk (absHeap (Jn w.params) 11 (boot_heap w.params).life) #[] boot_drawn boot_toks os=_
 rw[KN]
theorem YZ(s:Shared):Fast.tw4187177175401517315 vw sB [] (fun _=>true) true s=openSeen vw sB [] (fun _=>true) true s:=by rw[Fast.te4187177175401517315]
theorem YN{w:World}{os:OsState}{s1:SharedT}(r1:VX w os=some s1):topRun treeTable pw w 11 (Gw w) 8000 ⟨boot_heap w.params,#[],boot_drawn,boot_toks,os⟩ (topStub pw)=some s1.abs:=
 (Sg w os)▸cJ (S0:=TM) (ok:=fun w=>Fast.tw6613529449190102663 11 (Gw w)) (stp:=fun w=>Fast.tw10156331382660048174 (Fast.tw11892475500146522536 Fast.tw14364793385576792824) pw w) (eX w) (Zi w) r1
theorem bZ{s:SharedT}{A:Bool}(l1:(A&&(K3.all (fun a=>(gT s a).isSome)&&CK (deq:=Fast.sDec) (pD (gT s)) (Cp.take 55)))=true)
  (l3:(Nc (deq:=Fast.sDec) (pD (gT s))&&CK (deq:=Fast.sDec) (pD (gT s)) ((Cp.drop 55).take 45))=true) (l4:CK (deq:=Fast.sDec) (pD (gT s)) ((Cp.drop 55).drop 45)=true):A=true/\Fm (deq:=Fast.sDec) (pD s.abs.heap.get?)=true:=by
 refine⟨Al l1,?_⟩
 rw[<- bc (Al (Aa l1))]
 exact Tq (deq:=Fast.sDec) (Al l3) (Qg (deq:=Fast.sDec) 55 (Aa (Aa l1)) (FU (deq:=Fast.sDec) 45 (Aa l3) l4))
theorem left:LeftO pw vw sB (fun _=>true) (fun s=>Fm (deq:=Fast.sDec) (pD s.heap.get?)) (fun _=>true) 8000 true:=by
 refine XO (boot_open (p:=pw) (N:=8000) Qd (by decide) Of) Ot fun w os=>?_
 obtain⟨s1,r1,l1⟩:=Option.map_eq_some_iff.mp (eN w os)
 have l2:=eO w os
 have l3:=eP w os
 have l4:=eQ w os
 rw[r1]at l2 l3 l4
 have l2:=Option.some.inj l2
 have c:=bZ l1 (Option.some.inj l3) (Option.some.inj l4)
 exact⟨s1.abs,QF (WG w.params) (Sh w.params) rfl (YN r1) Ot (fQ Vb c.1),(YZ _).symm.trans l2,c.2⟩
open PySem PySem.W
noncomputable def tb(x:Int)(k:Nat):Bool:=match x with
 |.ofNat n=>n.testBit k
 |.negSucc n=>!n.testBit k
theorem X7(n:Nat):Builtin.bitNot (n:Int)=Int.negSucc n:=by unfold Builtin.bitNot;rw[Int.negSucc_eq];exact ii (oE (mz _) (.sub (.neg mq) (.num 1)) (.neg (mw 0 1)) rfl) (oE (mz _) (.neg (mw 0 1)) (.sub (.neg mq) (.num 1)) rfl)
theorem GL(n:Nat):Builtin.bitNot (Int.negSucc n)=(n:Int):=by unfold Builtin.bitNot;rw[Int.negSucc_eq];exact ii (oE (mz _) (.sub (.neg (.neg (mw 0 1))) (.num 1)) mq rfl) (oE (mz _) mq (.sub (.neg (.neg (mw 0 1))) (.num 1)) rfl)
theorem Gk(x:Int)(k:Nat):tb (Builtin.bitNot x) k=!tb x k:=by
 induction x with
 |ofNat n=>rw[show Int.ofNat n=(n:Int)from rfl,X7];rfl
 |negSucc n=>rw[GL];simp[tb]
theorem LQ(h:c<=a)(p:c % 2<=a % 2):a - c=2*(a / 2 - c / 2)+(a % 2 - c % 2):=by
 obtain⟨t,ht⟩:=lE (Nat.div_le_div_right (c:=2) h)
 obtain⟨u,hu⟩:=lE p
 refine Nat.sub_eq_of_eq_add' (((Nat.div_add_mod a 2).symm.trans ?_).trans (congrArg (·+ _) (Nat.div_add_mod c 2)))
 rw[ht,hu,kh,kh,Nat.mul_add,Nat.add_add_add_comm]
theorem Vg(a c:Nat):a % 2 - c<2:=hH (Nat.sub_le ..) (Nat.mod_lt _ (by decide))
theorem Uy(h:c<=a)(p:c % 2<=a % 2):(a - c) / 2=a / 2 - c / 2:=by
 rw[LQ h p,Nat.mul_add_div (by decide),Nat.div_eq_of_lt (Vg ..)];rfl
theorem Yq(h:c<=a)(p:c % 2<=a % 2):(a - c) % 2=a % 2 - c % 2:=by
 rw[LQ h p,lf,Nat.mod_eq_of_lt (Vg ..)]
theorem RT(a m k:Nat):(a - (a&&& m)).testBit k=(a.testBit k&&!m.testBit k):=by
 have e:∀a m:Nat,(a&&& m) % 2=a % 2&&& m % 2:=fun a m=>Nat.and_mod_two_pow (n:=1)
 have p:∀a m:Nat,(a&&& m) % 2<=a % 2:=fun a m=>e a m▸jf
 induction k generalizing a m with
 |zero=>
  rw[jb,jb,jb,Yq jf (p a m),e]
  rcases jx a with u|u<;>rcases jx m with v|v<;>(refine u.symm▸?_;refine v.symm▸?_)<;>rfl
 |succ k ih=>rw[iR,iR,iR,<- ih,Uy jf (p a m),Nat.and_div_two]
theorem Bv(x y:Int)(k:Nat):tb (Builtin.bitAnd x y) k=(tb x k&&tb y k):=by
 have sb:∀a b:Nat,tb (Int.ofNat a - ((a&&& (Builtin.bitNot (Int.negSucc b)).toNat:Nat):Int)) k=(a.testBit k&&!b.testBit k):=fun a b=>by
  rw[GL]
  show tb ((a:Int) - ((a&&& b:Nat):Int)) k=_
  refine(Int.ofNat_sub jf)▸?_
  exact RT a b k
 induction x using Int.casesOn with
 |ofNat a=>induction y using Int.casesOn with
  |ofNat b=>exact je a b k
  |negSucc b=>exact sb a b
 |negSucc a=>induction y using Int.casesOn with
  |ofNat b=>exact(sb b a).trans (Bool.and_comm ..)
  |negSucc b=>
   show tb (Builtin.bitNot ((Builtin.bitNot (Int.negSucc a)).toNat||| (Builtin.bitNot (Int.negSucc b)).toNat:Nat)) k=_
   rw[Gk,GL,GL]
   show(!(a||| b).testBit k)=(!a.testBit k&&!b.testBit k)
   rw[jF,Bool.not_or]
theorem DE(x y:Int)(k:Nat):tb (Builtin.bitOr x y) k=(tb x k||tb y k):=by
 show tb (Builtin.bitNot (Builtin.bitAnd (Builtin.bitNot x) (Builtin.bitNot y))) k=_
 rw[Gk,Bv,Gk,Gk,Bool.not_and,kR,kR]
theorem Gj(h:∀k,tb x k=tb y k):x=y:=by
 have big:∀a b:Nat,∃k,a.testBit k=false/\b.testBit k=false:=fun a b=>by
  refine⟨a+b,i8 (hM kI (iF (by decide) (hY _ _))),i8 (hM kI (iF (by decide) (jp _ _)))⟩
 have no:∀a b:Nat,(∀k,a.testBit k=!b.testBit k)->False:=fun a b h=>by
  obtain⟨k,e1,e2⟩:=big a b
  have:=h k
  rw[e1,e2]at this
  exact Bool.noConfusion this
 induction x using Int.casesOn with
 |ofNat a=>induction y using Int.casesOn with
  |ofNat b=>exact congrArg Int.ofNat (jM h)
  |negSucc b=>exact(no a b h).elim
 |negSucc a=>induction y using Int.casesOn with
  |ofNat b=>exact(no b a fun k=>(h k).symm).elim
  |negSucc b=>exact congrArg Int.negSucc (jM fun k=>Bool.not_inj (h k))
noncomputable abbrev CG:=Ak l9 prog
noncomputable def il(l:List Int):MO:=.list (l.map .int)
noncomputable def ll(l:List Nat):MO:=.list (l.map .l8)
set_option genInjectivity false in
structure mi where
 ranks:Int
 size:Int
 full:Int
 files:List Int
 rankm:List Int
 king:List Int
 knight:List Int
 pawn0:List Int
 pawn1:List Int
 r0:List Int
 r1:List Int
 r2:List Int
 r3:List Int
 r4:List Int
 r5:List Int
 r6:List Int
 r7:List Int
 e22:MO
 e48:MO
noncomputable def sd:Bool->Int
 |false=>0
 |true=>1
set_option genInjectivity false in
structure St where
 board:List Int
 k0:Int
 k1:Int
 k2:Int
 k3:Int
 k4:Int
 k5:Int
 k6:Int
 s0:Int
 s1:Int
 side:Bool
 half:Int
 full:Int
 key:Int
 hist:List V
noncomputable def Bh(n:Nat)(man:Int):MO:=il ((List.range n).map fun(s:Nat)=>man*64+(s:Int)+1)
noncomputable def B(S:List Int)(k:Int)(n:Nat)(G:mi)(st:St):MH:=[
 il S,.list [.l8 0,.int k],
 ll [3,4,5,6,7,8,9,10,11,12,13,14,15,16,17],
 Bh n 0,Bh n 1,Bh n 2,Bh n 3,Bh n 4,Bh n 5,Bh n 6,Bh n 7,Bh n 8,Bh n 9,Bh n 10,Bh n 11,Bh n 12,Bh n 13,Bh n 14,
 .inst 0 [(45,.int 4),(49,.int G.ranks),(63,.int G.size),(53,.int G.full),(85,.bool false),(79,.bool false),(46,.l8 19),(50,.l8 20),(36,.l8 21),(60,.l8 30),(67,.l8 23),(65,.l8 26),(83,.l8 27),(80,.l8 48)],
 il G.files,il G.rankm,ll [32,34,36,38,40,42,44,46],G.e22,il G.knight,il G.pawn0,il G.pawn1,ll [24,25],.list [.none,.none,.none,.none],il [],
 il [0],il G.king,il [0],il G.r0,il [0],il G.r1,il [0],il G.r2,il [0],il G.r3,il [0],il G.r4,il [0],il G.r5,il [0],il G.r6,il [0],il G.r7,il [0],G.e48,
 il [0],il [0,0,0,0],il [0],il [0,0,0,0,0,0,0,0,0,0,0,0,0,0,0,0],
 .inst 2 [(106,.l8 2),(196,.l8 50),(158,.l8 52),(0,.int 3)],
 .inst 1 [(33,.l8 18),(105,.l8 53),(110,.l8 56),(109,.l8 58),(107,.l8 59),(0,.int (sd st.side)),(158,.int 0),(196,.int (-1)),(241,.int st.half),(53,.int st.full),(104,.int st.key),(244,.l8 60)],
 il [0],il st.board,il [0],il [st.k0,st.k1,st.k2,st.k3,st.k4,st.k5,st.k6],il [st.s0,st.s1],.list st.hist]
@[elab_as_elim] theorem pY{P:Nat->Prop}(h:d<7)(h0:P 0)(h1:P 1)(h2:P 2)(h3:P 3)(h4:P 4)(h5:P 5)(h6:P 6):P d:=by
 induction d using Nat.casesOn with
 |zero=>exact h0
 |succ d=>
  cases d with
  |zero=>exact h1
  |succ d=>
   cases d with
   |zero=>exact h2
   |succ d=>
    cases d with
    |zero=>exact h3
    |succ d=>
     cases d with
     |zero=>exact h4
     |succ d=>
      cases d with
      |zero=>exact h5
      |succ d=>
       induction d with
       |zero=>exact h6
       |succ d=>
        exact absurd h (Nat.not_lt.mpr (jp 7 d))
@[elab_as_elim] theorem ve{P:Nat->Prop}(h:d<8)(h0:P 0)(h1:P 1)(h2:P 2)(h3:P 3)(h4:P 4)(h5:P 5)(h6:P 6)(h7:P 7):P d:=by
 induction d using Nat.casesOn with
 |zero=>exact h0
 |succ d=>
  cases d with
  |zero=>exact h1
  |succ d=>
   cases d with
   |zero=>exact h2
   |succ d=>
    cases d with
    |zero=>exact h3
    |succ d=>
     cases d with
     |zero=>exact h4
     |succ d=>
      cases d with
      |zero=>exact h5
      |succ d=>
       cases d with
       |zero=>exact h6
       |succ d=>
        induction d with
        |zero=>exact h7
        |succ d=>
         exact absurd h (Nat.not_lt.mpr (jp 8 d))
@[elab_as_elim] theorem ti{P:Nat->Prop}(a:2<=d)(b:d<7)(h2:P 2)(h3:P 3)(h4:P 4)(h5:P 5)(h6:P 6):P d:=
 pY (P:=fun d=>2<=d->P d) b (fun a=>absurd a (by decide)) (fun a=>absurd a (by decide)) (fun _=>h2) (fun _=>h3) (fun _=>h4) (fun _=>h5) (fun _=>h6) a
@[elab_as_elim] theorem k36{P:Nat->Prop}(a:3<=d)(b:d<6)(h3:P 3)(h4:P 4)(h5:P 5):P d:=
 ti (P:=fun d=>3<=d->d<6->P d) (iW a) (hJ b) (fun a=>absurd a (by decide)) (fun _ _=>h3) (fun _ _=>h4) (fun _ _=>h5) (fun _ b=>absurd b (by decide)) a b
theorem Ab{α:Type}{o:Option α}{a:α}{K:α->Prop}(e:o=some a)(k:K a):@Option.rec α (fun _=>Prop) False (fun a=>K a) o:=by subst e;exact k
theorem OV(h:μ[n]?=some (.list xs)):B7 μ (.l8 n) (.int i)=OS xs i:=by
 show(match μ[n]? with
  |some o=>(match o with
   |.list xs=>OS xs i
   |.dict kv=>Bn kv i
   |_=>none)
  |none=>none)=_
 (refine h.symm▸?_;rfl)
theorem OU(h:μ[n]?=some (.dict kv)):B7 μ (.l8 n) (.int i)=Bn kv i:=by
 show(match μ[n]? with
  |some o=>(match o with
   |.list xs=>OS xs i
   |.dict kv=>Bn kv i
   |_=>none)
  |none=>none)=_
 (refine h.symm▸?_;rfl)
theorem Nl{rs:List V}{d:Int}(h:μ[a]?=some (.list rs))(h0:0<=d)(h1:d<rs.length)(hx:rs[d.toNat]?=some x):B7 μ (.l8 a) (.int d)=some x:=by
 rw[OV h]
 unfold OS CV
 rw[iP h0,iP h1]
 exact hx
theorem HI(h:μ[a]?=some (.list (x :: rs))):B7 μ (.l8 a) (.int 0)=some x:=Nl h (iE 0) (Int.natCast_pos.mpr (jy _)) rfl
theorem AO{μ:MH}{n:Nat}{xs:List Int}{i:Int}{K:V->Prop}(h:μ[n]?=some (il xs))(h0:0<=i)(qN:i<xs.length)(k:K (.int (xs.getD i.toNat 0))):@Option.rec V (fun _=>Prop) False (fun a=>K a) (OT μ (.l8 n) (.int i)):=by
 have h1:i.toNat<xs.length:=by lia
 refine Ab ?_ k
 rw[IN]
 refine(OV h).symm▸?_
 unfold OS CV
 rw[iP h0,iP (by rw[g6];assumption)]
 show((xs.map V.int)[i.toNat]?)=_
 rw[kW,g7,g8 h1]
 rfl
theorem md{K K' n:Nat}(h:K'<=n+1)(e:Nat.ble (K+1) K'=true):K<=n:=lO (gI (Nat.le_of_ble_eq_true e) h)
theorem BK(e:(l:Int)=s)(h:i<s):i<l:=e▸h
theorem A0{step:V->Au->An->MH->Prop}{Q:Au}(h:BA c step l Q env μ):Xr c step l Q env μ:=(Rj _ _ _ _ _ _).mpr h
theorem RZ{t:(Bool->MH->Prop)->An->MH->Prop}{b:Au->An->MH->Prop}{Q:Au}(h:EI t b n Q env μ):Nr t b n Q env μ:=(LT _ _ _ _ _ _).mpr h
theorem Ag{K:V->Prop}(h:B7 μ o i=some v)(k:K v):@Option.rec V (fun _=>Prop) False (fun a=>K a) (OT μ o i):=Ab ((IN _ _ _).trans h) k
theorem Aj{p:Prop}(hc:b=true)(h:p):@Bool.rec (fun _=>Prop) False p b:=by subst hc;exact h
theorem DU{p q:Prop}(e:b=true)(h:p):@Bool.rec (fun _=>Prop) q p b:=by subst e;exact h
theorem Cz{p q:Prop}(e:b=false)(h:q):@Bool.rec (fun _=>Prop) q p b:=by subst e;exact h
theorem Ap{p q:Prop}(ht:b=true->p)(hf:b=false->q):@Bool.rec (fun _=>Prop) q p b:=by
 cases b with
 |true=>exact ht rfl
 |false=>exact hf rfl
noncomputable def KX(G:mi):Nat->List Int
 |0=>G.r0|1=>G.r1|2=>G.r2|3=>G.r3|4=>G.r4|5=>G.r5|6=>G.r6|_=>G.r7
noncomputable def SH:Nat->Bool
 |0=>true|1=>true|4=>true|7=>true|_=>false
noncomputable def RQ(b0:Int):Int:=
 let b1:=Builtin.bitOr b0 (b0.fdiv (2 ^ 1))
 let b2:=Builtin.bitOr b1 (b1.fdiv (2 ^ 2))
 let b3:=Builtin.bitOr b2 (b2.fdiv (2 ^ 4))
 let b4:=Builtin.bitOr b3 (b3.fdiv (2 ^ 8))
 let b5:=Builtin.bitOr b4 (b4.fdiv (2 ^ 16))
 Builtin.bitOr b5 (b5.fdiv (2 ^ 32))
noncomputable def RI(up:Bool)(oz occ:Int):Int:=match Builtin.bitAnd oz occ==0 with
 |true=>oz
 |false=>match up with
  |true=>Builtin.bitAnd oz (Builtin.bitXor (Builtin.bitAnd oz occ) (Builtin.bitAnd oz occ - 1))
  |false=>Builtin.bitAnd oz (-(RQ ((Builtin.bitAnd oz occ).fdiv (2 ^ 1))) - 1)
noncomputable def GR(G:mi)(d:Nat)(sq:Int)(occ:Int):Int:=RI (SH d) ((KX G d).getD sq.toNat 0) occ
section
variable{S:List Int}{k:Int}{m:Nat}{G:mi}{st:St}{g:MH}{n:Nat}{hd:Bool}{Q:Ae}{X:As}{μ:MH}
theorem aB(hn:1<=n)(h8:d<8)(h:Q (.bool (SH d)) μ):CG n hd 43 [.int d] Q X μ:=by
 refine stp hn fun n hn=>?_
 revert h
 exact ve h8 (fun h=>Ag rfl h) (fun h=>Ag rfl h) (fun h=>Ag rfl h) (fun h=>Ag rfl h) (fun h=>Ag rfl h) (fun h=>Ag rfl h) (fun h=>Ag rfl h) (fun h=>Ag rfl h)
theorem Di{d:Nat}(h8:d<8):B7 (B S k m G st++g) (.l8 21) (.int d)=some (.l8 (32+2*d))/\(B S k m G st++g)[32+2*d]?=some (il (KX G d)):=by
 exact ve h8 ⟨rfl,rfl⟩ ⟨rfl,rfl⟩ ⟨rfl,rfl⟩ ⟨rfl,rfl⟩ ⟨rfl,rfl⟩ ⟨rfl,rfl⟩ ⟨rfl,rfl⟩ ⟨rfl,rfl⟩
structure mi.mh(G:mi):Prop where
 pos:0<=G.size
 oz:∀d,d<8->((KX G d).length:Int)=G.size
 king:(G.king.length:Int)=G.size
 knight:(G.knight.length:Int)=G.size
 pawn0:(G.pawn0.length:Int)=G.size
 pawn1:(G.pawn1.length:Int)=G.size
 top:G.size<=20
 ranks:1<=G.ranks
 rankm:(G.rankm.length:Int)=G.ranks
 files:G.files.length=4
 sP:0<=G.full
 sQ:G.full<2 ^ G.size.toNat
theorem HS(hn:2<=n)(GS:G.mh)(h8:d<8)(h0:0<=sq)(h1:sq<G.size)(h:Q (.int (GR G d sq occ)) (B S k m G st++g)) :
  CG n hd 91 [.l8 18,.int d,.int sq,.int occ] Q X (B S k m G st++g):=by
 refine stp hn fun n hn=>?_
 refine Ag (Di h8).1 ?_
 refine AO (Di h8).2 h0 (BK (GS.oz d h8) h1) ?_
 unfold GR at h
 revert h
 generalize(KX G d).getD sq.toNat 0=oz
 intro h
 conv=>whnf
 unfold RI at h
 refine Ap (fun e=>?_) fun e=>?_
 ·replace h:=e▸h;exact h
 ·rw[e]at h
  refine aB (md hn rfl) h8 ?_
  refine Ap (fun e=>?_) fun e=>?_
  ·rw[e]at h;exact h
  ·rw[e]at h;exact h
end
noncomputable def bor(x y:Int):Int:=Builtin.bitOr x y
noncomputable def Am(x y:Int):Int:=Builtin.bitAnd x y
noncomputable def CX(G:mi)(sq occ:Int):Int:=bor (bor (bor (bor 0 (GR G 0 sq occ)) (GR G 1 sq occ)) (GR G 2 sq occ)) (GR G 3 sq occ)
noncomputable def DL(G:mi)(sq occ:Int):Int:=bor (bor (bor (bor 0 (GR G 4 sq occ)) (GR G 5 sq occ)) (GR G 6 sq occ)) (GR G 7 sq occ)
section
variable{S:List Int}{k:Int}{m:Nat}{G:mi}{st:St}{g:MH}{n:Nat}{hd:Bool}{Q:Ae}{X:As}{μ:MH}
theorem Ju(hn:3<=n)(GS:G.mh)(h0:0<=sq)(h1:sq<G.size)(h:Q (.int (CX G sq occ)) (B S k m G st++g)) :
  CG n hd 92 [.l8 18,.int sq,.int occ] Q X (B S k m G st++g):=by
 refine stp hn fun n hn=>?_
 refine A0 ?_
 refine HS (d:=0) (md hn rfl) GS (by decide) h0 h1 ?_
 refine HS (d:=1) (md hn rfl) GS (by decide) h0 h1 ?_
 refine HS (d:=2) (md hn rfl) GS (by decide) h0 h1 ?_
 refine HS (d:=3) (md hn rfl) GS (by decide) h0 h1 ?_
 exact h
theorem F4(hn:3<=n)(GS:G.mh)(h0:0<=sq)(h1:sq<G.size)(h:Q (.int (DL G sq occ)) (B S k m G st++g)) :
  CG n hd 93 [.l8 18,.int sq,.int occ] Q X (B S k m G st++g):=by
 refine stp hn fun n hn=>?_
 refine A0 ?_
 refine HS (d:=4) (md hn rfl) GS (by decide) h0 h1 ?_
 refine HS (d:=5) (md hn rfl) GS (by decide) h0 h1 ?_
 refine HS (d:=6) (md hn rfl) GS (by decide) h0 h1 ?_
 refine HS (d:=7) (md hn rfl) GS (by decide) h0 h1 ?_
 exact h
end
noncomputable def St.si(st:St):Bool->Int
 |false=>st.s0
 |true=>st.s1
noncomputable def mi.pw(G:mi):Bool->List Int
 |false=>G.pawn0
 |true=>G.pawn1
noncomputable def Cu(l:List Int)(sq:Int):Int:=l.getD sq.toNat 0
theorem Ge(c:Bool):1 - sd c=sd (!c):=by cases c<;>rfl
noncomputable def IG(G:mi)(st:St)(sq:Int)(c:Bool):Int:=Am (Am (Cu (G.pw (!c)) sq) st.k1) (st.si c)
noncomputable def B4(G:mi)(st:St)(sq:Int)(c:Bool):Int:=bor (IG G st sq c) (Am (bor (Am (Cu G.knight sq) st.k2) (Am (Cu G.king sq) st.k6)) (st.si c))
noncomputable def AQ(st:St):Int:=bor st.k4 st.k5
noncomputable def Ch(st:St):Int:=bor st.k3 st.k5
noncomputable def ML(G:mi)(st:St)(sq occ:Int):Int:=
 let a:=match AQ st != 0 with
  |true=>bor 0 (Am (CX G sq occ) (AQ st))
  |false=>0
 match Ch st != 0 with
  |true=>bor a (Am (DL G sq occ) (Ch st))
  |false=>a
noncomputable def ZA(G:mi)(st:St)(sq occ:Int):Int:=bor (bor (B4 G st sq false) (B4 G st sq true)) (ML G st sq occ)
noncomputable def B9(G:mi)(st:St)(sq:Int)(c:Bool)(occ:Int):Bool:=match Am (Ch st) (st.si c) != 0 with
 |true=>Am (DL G sq occ) (Am (Ch st) (st.si c)) != 0
 |false=>false
noncomputable def Bq(G:mi)(st:St)(sq:Int)(c:Bool)(occ:Int):Bool:=match B4 G st sq c != 0 with
 |true=>true
 |false=>match Am (AQ st) (st.si c) != 0 with
  |true=>(match Am (CX G sq occ) (Am (AQ st) (st.si c)) != 0 with
   |true=>true
   |false=>B9 G st sq c occ)
  |false=>B9 G st sq c occ
section
variable{S:List Int}{k:Int}{m:Nat}{G:mi}{st:St}{g:MH}{n:Nat}{hd:Bool}{Q:Ae}{X:As}{μ:MH}
theorem BH(c:Bool):B7 (B S k m G st++g) (.l8 59) (.int (sd c))=some (.int (st.si c)):=by cases c<;>rfl
theorem RF(c:Bool):B7 (B S k m G st++g) (.l8 26) (.int (sd c))=some (.l8 (match c with|false=>24|true=>25))/\(B S k m G st++g)[(match c with|false=>24|true=>25:Nat)]?=some (il (G.pw c)):=by induction c<;>exact⟨rfl,rfl⟩
theorem ck(GS:G.mh)(c:Bool):((G.pw c).length:Int)=G.size:=by cases c;exact GS.pawn0;exact GS.pawn1
theorem Sl(hn:1<=n)(GS:G.mh)(h0:0<=sq)(h1:sq<G.size)(h:Q (.int (IG G st sq c)) (B S k m G st++g)) :
  CG n hd 121 [.l8 54,.int sq,.int (sd c)] Q X (B S k m G st++g):=by
 refine stp hn fun n hn=>?_
 refine Ag (by rw[Ge];exact(RF (!c)).1) ?_
 refine AO (RF (!c)).2 h0 (BK (ck GS (!c)) h1) ?_
 refine Ag rfl ?_
 exact Ag (BH c) h
theorem Hj(hn:2<=n)(GS:G.mh)(h0:0<=sq)(h1:sq<G.size)(h:Q (.int (B4 G st sq c)) (B S k m G st++g)) :
  CG n hd 122 [.l8 54,.int sq,.int (sd c)] Q X (B S k m G st++g):=by
 refine stp hn fun n hn=>?_
 refine AO (xs:=G.knight) rfl h0 (BK GS.knight h1) ?_
 refine Ag rfl ?_
 refine AO (xs:=G.king) rfl h0 (BK GS.king h1) ?_
 refine Ag rfl ?_
 refine Sl (md hn rfl) GS h0 h1 ?_
 exact Ag (BH c) h
theorem F5(hn:1<=n)(h:Q (.int (AQ st)) (B S k m G st++g)):CG n hd 119 [.l8 54] Q X (B S k m G st++g):=by
 refine stp hn fun n hn=>?_
 refine Ag rfl ?_
 exact Ag rfl h
theorem Gy(hn:1<=n)(h:Q (.int (Ch st)) (B S k m G st++g)):CG n hd 120 [.l8 54] Q X (B S k m G st++g):=by
 refine stp hn fun n hn=>?_
 refine Ag rfl ?_
 exact Ag rfl h
theorem Sj(hn:4<=n)(GS:G.mh)(h0:0<=sq)(h1:sq<G.size)(h:Q (.int (ML G st sq occ)) (B S k m G st++g)) :
  CG n hd 126 [.l8 54,.int sq,.int occ] Q X (B S k m G st++g):=by
 refine stp hn fun n hn=>?_
 unfold ML at h
 refine F5 (md hn rfl) ?_
 revert h
 generalize AQ st=str
 intro h
 refine Ap (fun e=>?_) fun e=>?_
 ·rw[e]at h
  refine Ju (md hn rfl) GS h0 h1 ?_
  refine Gy (md hn rfl) ?_
  revert h
  generalize Ch st=sl
  intro h
  refine Ap (fun e=>?_) fun e=>?_
  ·rw[e]at h
   conv=>whnf
   exact F4 (md hn rfl) GS h0 h1 h
  ·rw[e]at h
   exact h
 ·rw[e]at h
  refine Gy (md hn rfl) ?_
  revert h
  generalize Ch st=sl
  intro h
  refine Ap (fun e=>?_) fun e=>?_
  ·rw[e]at h
   exact F4 (md hn rfl) GS h0 h1 h
  ·rw[e]at h
   exact h
theorem WI(hn:5<=n)(GS:G.mh)(h0:0<=sq)(h1:sq<G.size)(h:Q (.int (ZA G st sq occ)) (B S k m G st++g)) :
  CG n hd 128 [.l8 54,.int sq,.int occ] Q X (B S k m G st++g):=by
 refine stp hn fun n hn=>?_
 refine Hj (c:=false) (md hn rfl) GS h0 h1 ?_
 refine Hj (c:=true) (md hn rfl) GS h0 h1 ?_
 exact Sj (md hn rfl) GS h0 h1 h
theorem Jo(hn:4<=n)(GS:G.mh)(h0:0<=sq)(h1:sq<G.size)(h:Q (.bool (Bq G st sq c occ)) (B S k m G st++g)) :
  CG n hd 130 [.l8 54,.int sq,.int (sd c),.int occ] Q X (B S k m G st++g):=by
 refine stp hn fun n hn=>?_
 unfold Bq at h
 refine Hj (c:=c) (md hn rfl) GS h0 h1 ?_
 refine Ap (fun e=>?_) fun e=>?_
 ·rw[e]at h;exact h
 ·replace h:=e▸h
  refine Ag (BH c) ?_
  refine F5 (md hn rfl) ?_
  refine Ap (fun e=>?_) fun e=>?_
  ·have e:(Am (AQ st) (st.si c) != 0)=true:=e
   rw[e]at h
   refine Ju (md hn rfl) GS h0 h1 ?_
   refine Ap (fun e=>?_) fun e=>?_
   ·have e:(Am (CX G sq occ) (Am (AQ st) (st.si c)) != 0)=true:=e
    rw[e]at h;exact h
   ·have e:(Am (CX G sq occ) (Am (AQ st) (st.si c)) != 0)=false:=e
    replace h:=e▸h
    refine Gy (md hn rfl) ?_
    unfold B9 at h
    refine Ap (fun e=>?_) fun e=>?_
    ·have e:(Am (Ch st) (st.si c) != 0)=true:=e
     rw[e]at h
     conv=>whnf
     exact F4 (md hn rfl) GS h0 h1 h
    ·have e:(Am (Ch st) (st.si c) != 0)=false:=e
     have e2:=e
     rw[e2]at h
     exact(congrArg (fun b=>Q (.bool b) (B S k m G st++g)) e).mpr h
  ·have e:(Am (AQ st) (st.si c) != 0)=false:=e
   rw[e]at h
   refine Gy (md hn rfl) ?_
   unfold B9 at h
   refine Ap (fun e=>?_) fun e=>?_
   ·have e:(Am (Ch st) (st.si c) != 0)=true:=e
    rw[e]at h
    conv=>whnf
    exact F4 (md hn rfl) GS h0 h1 h
   ·have e:(Am (Ch st) (st.si c) != 0)=false:=e
    have e2:=e
    rw[e2]at h
    exact(congrArg (fun b=>Q (.bool b) (B S k m G st++g)) e).mpr h
end
noncomputable def nJ:Nat->Int->Int->List Int
 |0,_,_=>[]
 |k+1,x,s=>(match Am x 1 != 0 with|true=>[s]|false=>[])++nJ k (x.fdiv 2) (s+1)
theorem NR(x:Int)(h:0<=x)(j:Nat):Am x (2 ^ j - 1:Nat)=x % (2 ^ j:Nat):=by
 obtain⟨a,rfl⟩:=gJ h
 show((a&&& (2 ^ j - 1):Nat):Int)=_
 rw[Nat.and_two_pow_sub_one_eq_mod];rfl
theorem NQ(x:Int)(h:0<=x):Am x 1=x % 2:=NR x h 1
theorem ah(x:Int)(h:0<=x):Am x 15=x % 16:=NR x h 4
theorem V9(k:Nat)(s:Int):nJ k 0 s=[]:=by
 induction k generalizing s with
 |zero=>rfl
 |succ k ih=>exact ih (s+1)
theorem GV(j:Nat)(y t:Int)(h:0<=y):nJ (j+1) (2*y) t=nJ j y (t+1):=by
 show(match Am (2*y) 1 != 0 with|true=>[t]|false=>[])++nJ j ((2*y).fdiv 2) (t+1)=_
 rw[NQ _ (lp (by decide) h),Int.mul_emod_right,jg y (by decide)];rfl
theorem c7(k:Nat)(x s:Int)(h:0<=x)(e:x % 16=0):nJ (k+4) x s=nJ k (x.fdiv 16) (s+4):=by
 obtain⟨y,rfl⟩:=lF e
 have y0:0<=y:=by lia
 have d:∀z:Int,0<=z->0<=2*z:=fun z hz=>lp (by decide) hz
 rw[jg y (by decide),show(16:Int)*y=2*(2*(2*(2*y))) by exact ii (oE (mz _) (.mulL 16 mq) (.mulL 2 (.mulL 2 (.mulL 2 (.mulL 2 mq)))) rfl) (oE (mz _) (.mulL 2 (.mulL 2 (.mulL 2 (.mulL 2 mq)))) (.mulL 16 mq) rfl),GV _ _ _ (d _ (d _ (d _ y0))),GV _ _ _ (d _ (d _ y0)),GV _ _ _ (d _ y0),GV _ _ _ y0,show s+1+1+1+1=s+4 by exact ii (oE (mz _) (.add (.add (.add (mw 0 1) (.num 1)) (.num 1)) (.num 1)) (mw 0 4) rfl) (oE (mz _) (mw 0 4) (.add (.add (.add (mw 0 1) (.num 1)) (.num 1)) (.num 1)) rfl)]
noncomputable def inS:MS:=(MS.aug 25 Operator.RShift (ME.int 4)).seq ((MS.aug 27 Operator.Add (ME.int 4)).seq MS.skip)
noncomputable def gm:MS:=(MS.nt (ME.un UnaryOp.Not (ME.bin Operator.BitAnd (ME.l8 25) (ME.int 15))) inS).seq
      ((MS.ite (ME.bin Operator.BitAnd (ME.l8 25) (ME.int 1))
         ((MS.expr ((ME.l8 31).mG 0 ((ME.l8 27).cons ME.nil))).seq MS.skip) MS.skip).seq
       ((MS.aug 25 Operator.RShift (ME.int 1)).seq ((MS.aug 27 Operator.Add (ME.int 1)).seq MS.skip)))
section
variable{S:List Int}{k:Int}{m:Nat}{G:mi}{st:St}{g:MH}{n:Nat}{hd:Bool}{X:As}{μ:MH}
theorem TU{Q:Ae}(hn:1<=n)(h:Q (.bool (Am b (b - 1) != 0)) μ):CG n hd 26 [.int b] Q X μ:=by
 induction n using Nat.casesOn with
 |zero=>exact absurd hn (by decide)
 |succ n=>exact h
theorem Bj{α:Type}{l:List α}{i:Nat}{a:α}(h:l[i]?=some a):l.set i a=l:=by
 obtain⟨c,rfl⟩:=List.getElem?_eq_some_iff.mp h
 exact List.set_getElem_self c
theorem AK{α:Type}{l:List α}{i:Nat}{a b:α}(h:l[i]?=some a):(l.set i b)[i]?=some b:=by
 rw[j7,iP rfl,iP]
 rcases i7 i l.length with c|c
 ·exact c
 ·exact AM (iz c) h
theorem CP(h:μ[n]?=some (.list xs)):By μ n=some xs:=by unfold By;rw[h]
theorem DA{o:List Int}(h:g[r]?=some (il o)):By (B S k m G st++g) (r+61)=some (o.map .int):=CP (μ:=B S k m G st++g) (n:=r+61) h
theorem Dh{p:Prop}(h:g[r]?=some (il o))(hp:p):@Bool.rec (fun _=>Prop) False p (ZU (.l8 (r+61)) 0 (B S k m G st++g)):=by
 refine Aj ?_ hp
 show(decide (0<2)&&(By (B S k m G st++g) (r+61)).isSome)=true
 refine(DA h).symm▸?_;rfl
theorem MB(o:List Int)(v:Int):il (o++[v])=.list (o.map .int++[.int v]):=by unfold il;rw[kx];rfl
theorem room{o:List Int}(h:o.length<100000):decide ((o.map V.int).length<lim)=true:=gG (by rw[g6];exact hM h (by decide))
theorem X5{y c:Int}{P:Prop}(h:0<y)(hx:16*y<c)(hc:c<=16):P:=absurd (gS hx hc) (Int.not_lt.mpr (Int.mul_le_mul_of_nonneg_left (show(1:Int)<=y from h) (show(0:Int)<=16 by decide)))
theorem XD{Φ:Bool->Nat->List V->Ae->As->MH->Prop}{Q:Au}(f:Nat):∀(j:Nat) (x s:Int) (env:An),j<f->env 25=some (.int x)->env 27=some (.int s)->0<x->x<2 ^ j->
  (∀j' x' s' env',env' 25=some (.int x')->env' 27=some (.int s')->env' 31=env 31->0<x'->x'<2 ^ j'->j'<=j->nJ j' x' s'=nJ j x s->Q .next env' μ)->
  EI (fun K env' μ'=>wt l9 (Φ hd) env' (ME.un UnaryOp.Not (ME.bin Operator.BitAnd (ME.l8 25) (ME.int 15))) K X μ') (fun K env' μ'=>ws l9 Φ hd inS K X env' μ') f Q env μ:=by
 induction f with
 |zero=>intro j x s env hj;exact absurd hj (by contradiction)
 |succ f ih=>
  intro j x s env hj qB tO h0 hx h
  refine Ab qB ?_
  refine Ap (fun e=>?_) fun e=>?_
  ·have e16:x % 16=0:=(ah x (jn h0)).symm.trans (by show Builtin.bitAnd x 15=0;simpa using e)
   have sq:=fun i=>c7 i x s (jn h0) e16
   obtain⟨y,rfl⟩:=lF e16
   have y0:0<y:=lx (a:=16) h0 (by decide)
   rw[jg y (by decide)]at sq
   refine Ab qB ?_
   refine Ab tO ?_
   show EI _ _ f Q (Ad (Ad env 25 (.int ((16*y).fdiv 16))) 27 (.int (s+4))) μ
   rw[jg y (by decide)]
   rcases j with _|_|_|_|i
   ·exact X5 y0 hx (by decide)
   ·exact X5 y0 hx (by decide)
   ·exact X5 y0 hx (by decide)
   ·exact X5 y0 hx (by decide)
   ·rw[Int.pow_add 2 i 4,Int.mul_comm (2 ^ i)]at hx
    exact ih i y (s+4) _ (Nat.lt_of_add_right_lt (k:=3) (kq hj)) rfl rfl y0 (lx (a:=16) hx (by decide)) fun j' x' s' env' a b c d e' f' g'=>h j' x' s' env' a b c d e' (gI f' (hY i 4)) (g'.trans (sq i).symm)
  ·exact h j x s env qB tO rfl h0 hx (gM _) rfl
theorem VB{Φ:Bool->Nat->List V->Ae->As->MH->Prop}{Q:Au}(f:Nat):∀(j:Nat) (x s:Int) (env:An) (o:List Int),j<f->j<90->env 25=some (.int x)->env 27=some (.int s)->env 31=some (.l8 (r+61))->0<=x->x<2 ^ j->g[r]?=some (il o)->o.length+j<100->
  (∀env',env' 31=env 31->Q .next env' (B S k m G st++g.set r (il (o++nJ j x s))))->
  EI (fun K env' μ'=>wt l9 (Φ hd) env' (ME.l8 25) K X μ') (fun K env' μ'=>ws l9 Φ hd gm K X env' μ') f Q env (B S k m G st++g):=by
 induction f generalizing g with
 |zero=>intro j x s env o hj;exact absurd hj (by contradiction)
 |succ f ih=>
  intro j x s env o hj h90 qB tO ur h0 hx hg ho h
  refine Ab qB ?_
  refine Ap (fun e=>?_) fun e=>?_
  ·have e0:x≠0:=by simpa using e
   refine RZ ?_
   refine XD 100 j x s env (by exact mU (m4 _ _) (mD 1 1) (.num 100) (.add (.add mu mK) (.num 1)) (.num 100) rfl ho) qB tO (Int.lt_iff_le_and_ne.mpr ⟨h0,iQ e0⟩) hx fun j' x' s' env' a b c d e' f' g'=>?_
   replace h:=(g').symm▸h
   induction j' with
   |zero=>exact absurd e' (by exact Int.not_lt.mpr (mO (mz _) (.num 1) mq (.add (.num 0) (.num 1)) mq rfl d))
   |succ j'=>
    have t:=fun y=>ih (g:=y) j' (x'.fdiv 2) (s'+1)
    have hx0:0<=x'.fdiv 2:=Int.fdiv_nonneg (jn d) (by decide)
    have hx1:x'.fdiv 2<2 ^ j':=iG x' (show(0:Int)<=2 by decide)▸Int.ediv_lt_of_lt_mul (by decide) (Int.pow_succ 2 j'▸e')
    have uU:o.length+1+j'<100:=by exact pt (nI _ _ _) (.add (.add (mD 0 1) nM) (.num 1)) (.num 100) (.add (.add mu mK) (.num 1)) (.num 100) (mD 2 1) mK rfl ho f'
    refine Ab a ?_
    refine Ap (fun e=>?_) fun e=>?_
    ·have e:(Am x' 1 != 0)=true:=e
     refine Ab (c.trans ur) ?_
     refine Dh hg ?_
     refine Ab b ?_
     refine Ab (DA hg) ?_
     refine Aj (room (by exact mU (m4 _ _) (mD 0 1) (.num 100000) (.add (.add (mD 0 1) mK) (.num 1)) (.num 100) rfl uU)) ?_
     refine Ab a ?_
     refine Ab b ?_
     have t:=t (g.set r (il (o++[s']))) (Ad (Ad env' 25 (.int (x'.fdiv 2))) 27 (.int (s'+1))) (o++[s']) (by exact e8 hj f') (by exact e9 h90 f') rfl rfl (c.trans ur) hx0 hx1 (AK hg) (by refine List.length_append.symm▸?_;exact uU) fun qm q=>by
      have h:=h qm (q.trans c)
      unfold nJ at h
      replace h:=e▸h
      rw[ig,gB]
      exact h
     rw[MB]at t
     exact t
    ·have e:(Am x' 1 != 0)=false:=e
     refine Ab a ?_
     refine Ab b ?_
     exact t g (Ad (Ad env' 25 (.int (x'.fdiv 2))) 27 (.int (s'+1))) o (by exact e8 hj f') (by exact e9 h90 f') rfl rfl (c.trans ur) hx0 hx1 hg (by exact mU (m4 _ _) (.add (.add mu mK) (.num 1)) (.num 100) (.add (.add (mD 0 1) mK) (.num 1)) (.num 100) rfl uU) fun qm q=>by
      have h:=h qm (q.trans c)
      unfold nJ at h
      replace h:=e▸h
      exact h
  ·have e0:x=0:=by simpa using e
   cases e0
   have h:=h env rfl
   (rw[V9,gK]at h;replace h:=(Bj hg)▸h)
   exact h
theorem CB{Q:Ae}(hn:1<=n)(h0:0<=b)(hb:b<2 ^ 20)(h:Q (.l8 (g.length+61)) (B S k m G st++(g++[il (nJ 20 b 0)]))):CG n hd 32 [.int b] Q X (B S k m G st++g):=by
 refine stp hn fun n hn=>?_
 refine RZ ?_
 refine VB (g:=g++[il []]) (r:=g.length) 100 20 b 0 _ [] (by decide) (by decide) rfl rfl rfl h0 hb (gD) (by decide) fun env' e=>?_
 rw[hU _ _ (gM _),iI]
 refine Ab e ?_
 exact h
end
noncomputable def Ga:Nat->Int->Int->Int
 |0,_,_=> -1
 |k+1,x,s=>match Am x 1 != 0 with|true=>s|false=>Ga k (x.fdiv 2) (s+1)
theorem Wk(x:Nat):(2*x).testBit 0=false:=by rw[jb,Nat.mul_mod_right];rfl
theorem Wl(x i:Nat):(2*x).testBit (i+1)=x.testBit i:=by rw[iR,lD x (by decide)]
theorem dm(x i:Nat):(2*x+1).testBit (i+1)=x.testBit i:=by rw[iR,Nat.mul_add_div (by decide)];rfl
theorem Ob(x y:Nat):(2*x)&&& (2*y+1)=2*(x&&& y):=by
 refine jM fun i=>?_
 cases i with
 |zero=>rw[je,Wk,Wk];rfl
 |succ i=>rw[je,Wl,dm,Wl,je]
theorem XZ(a:Nat):(2*a)&&& (2*a - 1)=2*(a&&& (a - 1)):=by
 cases a with
 |zero=>rfl
 |succ d=>exact Ob (d+1) d
theorem X8(a:Nat):(2*a+1)&&& (2*a)=2*a:=by rw[Nat.and_comm,Ob,Nat.and_self]
theorem Un(b:Nat):((2*b:Nat):Int) % 2=0:=by rw[Int.natCast_mul];exact Int.mul_emod_right 2 b
theorem Um(b:Nat):((2*b:Nat):Int).fdiv 2=b:=by rw[Int.natCast_mul];exact jg b (by decide)
theorem X9(b:Nat):((2*b+1:Nat):Int) % 2=1:=by
 show((2*b+1:Nat):Int) % ((2:Nat):Int)=_
 rw[<- Int.natCast_emod,lf];rfl
theorem SS(k b:Nat)(s:Int):Ga (k+1) (2*b:Nat) s=Ga k b (s+1):=by
 unfold Ga
 rw[NQ _ (gW _),Un,Um]
 induction k using Nat.casesOn<;>rfl
theorem U1(k b:Nat)(s:Int):Ga (k+1) (2*b+1:Nat) s=s:=by
 unfold Ga
 rw[NQ _ (gW _),X9];rfl
theorem U3(k:Nat):∀(a:Nat) (s:Int),0<a->a<2 ^ k->∃j,j<k/\a - (a&&& (a - 1))=2 ^ j/\Ga k a s=s+j:=by
 induction k with
 |zero=>intro a s h0 h1;exact absurd h0 (Nat.not_lt.mpr (kU h1))
 |succ k ih=>
  intro a s h0 h1
  obtain⟨b,rfl|rfl⟩:∃b,a=2*b\/a=2*b+1:=⟨a / 2,by lia⟩
  ·obtain⟨j,hj,e1,e2⟩:=ih b (s+1) (Nat.pos_of_mul_pos_left h0) (lw (a:=2) (by rw[kP,lH (2 ^ k)]at h1;exact h1))
   refine⟨j+1,ke hj,?_,?_⟩
   ·rw[XZ,<- Nat.mul_sub,e1,kP,lH]
   ·rw[SS,e2,Int.add_assoc,Int.add_comm 1];rfl
  ·refine⟨0,jy k,?_,?_⟩
   ·rw[Nat.add_sub_cancel,X8,kh]
   ·rw[U1];exact(lL s).symm
section
variable{S:List Int}{k:Int}{m:Nat}{G:mi}{st:St}{g:MH}{n:Nat}{hd:Bool}{X:As}{μ:MH}
theorem aC{Q:Ae}(j:Nat)(hn:1<=n)(hj:j<20)(h:Q (.int j) μ):CG n hd 29 [.int (2 ^ j:Nat)] Q X μ:=by
 refine stp hn fun n hn=>?_
 have e:CG (n+1) hd 29 [.int (2 ^ j:Nat)] Q X μ=Q (.int j) μ:=by
  rcases j with _|_|_|_|_|_|_|_|_|_|_|_|_|_|_|_|_|_|_|_|j<;>first|lia|kernel_rfl
 refine e.symm▸?_;exact h
theorem ZF{Q:Ae}(hn:2<=n)(h0:0<=b)(hb:b<2 ^ 20)(h:Q (.int (Ga 20 b 0)) μ):CG n hd 30 [.int b] Q X μ:=by
 obtain⟨a,rfl⟩:=gJ h0
 refine stp hn fun n hn=>?_
 cases a with
 |zero=>
  induction n using Nat.casesOn with
  |zero=>exact absurd hn (by decide)
  |succ n=>exact h
 |succ d=>
  obtain⟨j,hj,e1,e2⟩:=U3 20 (d+1) 0 (jy d) (Int.ofNat_lt.mp hb)
  have e3:Builtin.bitAnd ((d+1:Nat):Int) (-((d+1:Nat):Int))=((2 ^ j:Nat):Int):=by
   refine e1▸?_
   show((d+1:Nat):Int) - ((((d+1:Nat):Int).toNat&&& (Builtin.bitNot (Int.negSucc d)).toNat:Nat):Int)=_
   rw[GL]
   exact(Int.ofNat_sub jf).symm
  (replace h:=e2▸h;rw[kj]at h)
  conv=>whnf
  refine e3.symm▸?_
  exact aC j (md hn rfl) hj h
end
def Bd(G:mi)(b:Int):Prop:=0<=b/\b<2 ^ G.size.toNat
structure St.oj(st:St)(G:mi):Prop where
 s0:Bd G st.s0
 s1:Bd G st.s1
theorem St.oj.si{st:St}(L:st.oj G)(c:Bool):Bd G (st.si c):=by cases c;exact L.s0;exact L.s1
theorem K7(x y:Int):Am x y=Am y x:=Gj fun k=>by show tb (Builtin.bitAnd x y) k=tb (Builtin.bitAnd y x) k;rw[Bv,Bv,Bool.and_comm]
theorem Et(hx:0<=x)(y:Int):0<=Am x y/\Am x y<=x:=by
 obtain⟨a,rfl⟩:=gJ hx
 induction y with
 |ofNat b=>
  show 0<=(((a&&& b:Nat)):Int)/\((a&&& b:Nat):Int)<=a
  have:a&&& b<=a:=jf
  lia
 |negSucc b=>
  show 0<=((a:Int) - ((a&&& (Builtin.bitNot (Int.negSucc b)).toNat:Nat):Int))/\((a:Int) - ((a&&& (Builtin.bitNot (Int.negSucc b)).toNat:Nat):Int))<=a
  have:a&&& (Builtin.bitNot (Int.negSucc b)).toNat<=a:=jf
  lia
theorem Bd.left(h:Bd G x)(y:Int):Bd G (Am x y):=⟨(Et h.1 y).1,j0 (Et h.1 y).2 h.2⟩
theorem Bd.right(h:Bd G x)(y:Int):Bd G (Am y x):=by rw[K7];exact h.left y
theorem Bd.top{G:mi}(h:Bd G x)(GS:G.mh):x<2 ^ 20:=by
 have h2:=h.2
 have:(2:Nat) ^ G.size.toNat<=2 ^ 20:=iF (by decide) (by have:=GS.top;lia)
 have e:(2:Int) ^ G.size.toNat=((2 ^ G.size.toNat:Nat):Int):=by rw[jR];rfl
 lia
theorem Zb:∀{x t s:Int},0<=x->s∈nJ k x t->∃j,j<k/\s=t+j/\tb x j=true:=by
 induction k with
 |zero=>intro x t s _ h;cases h
 |succ k ih=>
  intro x t s h0 h
  have hd:x.fdiv 2=x / 2:=iG _ (by decide)
  have sh:∀j,tb (x / 2) j=tb x (j+1):=fun j=>by
   obtain⟨a,rfl⟩:=gJ h0
   show(a / 2).testBit j=a.testBit (j+1)
   rw[iR]
  unfold nJ at h
  rw[List.mem_append]at h
  rcases h with h|h
  ·have b0:(Am x 1 != 0)=tb x 0:=by
    refine(NQ x h0).symm▸?_
    obtain⟨a,rfl⟩:=gJ h0
    show _=a.testBit 0
    rw[jb]
    rcases jx a with c|c
    ·(rewrite[show(a:Int) % 2=0 by lia];refine c.symm▸?_);rfl
    ·(rewrite[show(a:Int) % 2=1 by lia];refine c.symm▸?_);rfl
   revert h b0
   cases Am x 1 != 0 with
   |true=>intro h b0;exact⟨0,jy k,by refine(List.mem_singleton.mp h).symm▸?_;exact(lL t).symm,b0.symm⟩
   |false=>intro h;exact nomatch h
  ·replace h:=hd▸h
   obtain⟨j,hj,e,q⟩:=ih (by lia) h
   exact⟨j+1,ke hj,by exact ii (fa (iK e)) (mO (nI _ _ _) (.add mW (mw 2 1)) mq (.add (mw 1 1) oQ) mq rfl (iK e.symm)),(sh j).symm.trans q⟩
theorem Bd.sq{G:mi}(h:Bd G x){s:Int}(m:s∈nJ 20 x 0):0<=s/\s<G.size/\tb x s.toNat=true:=by
 obtain⟨j,hj,e,q⟩:=Zb h.1 m
 rw[kj]at e
 cases e
 refine⟨gW j,?_,q⟩
 obtain⟨a,rfl⟩:=gJ h.1
 have e:(2:Int) ^ G.size.toNat=((2 ^ G.size.toNat:Nat):Int):=by rw[jR];rfl
 have h2:=h.2
 replace h2:=e▸h2
 rcases i7 j G.size.toNat with c|c
 ·lia
 ·have:(2:Nat) ^ G.size.toNat<=2 ^ j:=iF (by decide) c
  have q:a.testBit j=true:=q
  exact Ex q (i8 (by exact Int.ofNat_lt.mp (qq2 h2 (Int.ofNat_le.mpr this))))
noncomputable def Ax(st:St)(c:Bool):Int:=Ga 20 (Am (st.si c) st.k6) 0
noncomputable def A3(st:St):Int:=bor st.s0 st.s1
noncomputable def Bb(G:mi)(st:St)(c:Bool):Int:=Am (ZA G st (Ax st c) (A3 st)) (st.si (!c))
noncomputable def Bo(G:mi)(st:St)(c:Bool):Bool:=Bq G st (Ax st c) (!c) (A3 st)
noncomputable def HZ(G:mi)(d:Nat)(a:Int):Int:=Cu (KX G d) a
noncomputable def Sv(G:mi)(a b:Int):List Nat->Option Nat
 |[]=>none
 |d :: r=>match Am ((HZ G d a).fdiv (2 ^ b.toNat)) 1 != 0 with
  |true=>some d
  |false=>Sv G a b r
noncomputable def f5:Option Nat->Int
 |none=> -1
 |some d=>d
noncomputable def GD(G:mi)(a b:Int):Option Nat:=Sv G a b [0,1,2,3,4,5,6,7]
noncomputable def back:Nat->Nat
 |0=>2|1=>3|2=>0|3=>1|4=>6|5=>7|6=>4|_=>5
noncomputable def AW(G:mi)(a b:Int):Int:=match GD G a b with
 |none=>0
 |some d=>Am (HZ G d a) (HZ G (back d) b)
noncomputable def PY(G:mi)(a b:Int):Int:=match GD G a b with
 |none=>0
 |some d=>bor (bor (HZ G d a) (HZ G (back d) a)) (1*2 ^ a.toNat)
noncomputable def dO(G:mi)(a b c:Int):Bool:=Am ((PY G a b).fdiv (2 ^ c.toNat)) 1==1
noncomputable def fZ:MS:=(MS.ite (.bin .BitAnd (.bin .RShift (.sub (.sub (.attr (.l8 33) 36) (.l8 35)) (.l8 34)) (.l8 25)) (.int 1)) (.seq (.ret (.l8 35)) .skip) .skip).seq .skip
theorem Xj(L:List Nat)(hL:∀d∈L,d<8)(h:Sv G a b L=some d):d<8:=by
 induction L with
 |nil=>exact Ao h
 |cons x L ih=>
  unfold Sv at h
  revert h
  cases Am ((HZ G x a).fdiv (2 ^ b.toNat)) 1 != 0 with
  |true=>intro h;obtain rfl:=Option.some.inj h;exact hL _ gR
  |false=>exact ih fun d hd=>hL d (gH _ hd)
theorem N9(h:GD G a b=some d):d<8:=Xj _ (by decide) h
section
variable{S:List Int}{k:Int}{m:Nat}{G:mi}{st:St}{g:MH}{n:Nat}{hd:Bool}{X:As}{μ:MH}
theorem Uf{Φ:Bool->Nat->List V->Ae->As->MH->Prop}{Q:Au}(GS:G.mh)(a0:0<=a)(a1:a<G.size)(b0:0<=b)(L:List Nat):∀(_:∀d∈L,d<8) (env:An),env 33=some (.l8 18)->env 34=some (.int a)->env 25=some (.int b)->
  (∀env',match Sv G a b L with|some d=>Q (.ret (.int d)) env' (B S k m G st++g)|none=>Q .next env' (B S k m G st++g))->
  BA none (fun v K env' μ'=>opt (AC [35] true v env') fun e=>ws l9 Φ hd fZ K X e μ') (L.map fun(d:Nat)=>V.int d) Q env (B S k m G st++g):=by
 induction L with
 |nil=>intro _ env us ut qB h;exact h env
 |cons d L ih=>
  intro hL env us ut qB h
  have h8:=hL d gR
  refine Ab us ?_
  refine Ag (Di h8).1 ?_
  refine Ab ut ?_
  refine AO (Di h8).2 a0 (BK (GS.oz d h8) a1) ?_
  refine Ab qB ?_
  refine Aj (gG b0) ?_
  unfold Sv at h
  refine Ap (fun e=>?_) fun e=>?_
  ·have e:(Am ((HZ G d a).fdiv (2 ^ b.toNat)) 1 != 0)=true:=e
   replace h:=e▸h
   exact h _
  ·have e:(Am ((HZ G d a).fdiv (2 ^ b.toNat)) 1 != 0)=false:=e
   replace h:=e▸h
   exact ih (fun d hd=>hL d (gH _ hd)) _ us ut qB h
theorem ZD{Q:Ae}(hn:1<=n)(GS:G.mh)(a0:0<=a)(a1:a<G.size)(b0:0<=b)(h:Q (.int (f5 (GD G a b))) (B S k m G st++g)):CG n hd 37 [.l8 18,.int a,.int b] Q X (B S k m G st++g):=by
 refine stp hn fun n hn=>?_
 refine A0 ?_
 refine Uf GS a0 a1 b0 [0,1,2,3,4,5,6,7] (by decide) _ rfl rfl rfl fun env'=>?_
 show match GD G a b with|some d=>_|none=>_
 cases e:GD G a b with
 |none=>replace h:=e▸h;exact h
 |some d=>replace h:=e▸h;exact h
theorem Ir{d:Nat}(h:d<8):Builtin.bitXor (d:Int) 2=(back d:Int)/\back d<8:=by
 exact ve h ⟨rfl,by decide⟩ ⟨rfl,by decide⟩ ⟨rfl,by decide⟩ ⟨rfl,by decide⟩ ⟨rfl,by decide⟩ ⟨rfl,by decide⟩ ⟨rfl,by decide⟩ ⟨rfl,by decide⟩
theorem FG{d:Nat}(h8:d<8):B7 (B S k m G st++g) (.l8 21) (.int (Builtin.bitXor (d:Int) 2))=some (.l8 (32+2*back d))/\(B S k m G st++g)[32+2*back d]?=some (il (KX G (back d))):=by refine((Ir h8).1).symm▸?_;exact Di (Ir h8).2
theorem K9{Q:Ae}(hn:2<=n)(GS:G.mh)(a0:0<=a)(a1:a<G.size)(b0:0<=b)(b1:b<G.size)(h:Q (.int (AW G a b)) (B S k m G st++g)):CG n hd 38 [.l8 18,.int a,.int b] Q X (B S k m G st++g):=by
 refine stp hn fun n hn=>?_
 refine ZD (md hn rfl) GS a0 a1 b0 ?_
 unfold AW at h
 cases e:GD G a b with
 |none=>replace h:=e▸h;exact h
 |some d=>
  rw[e]at h
  have h8:=N9 e
  have hb:=GS.oz _ (Ir h8).2
  refine Ag (Di h8).1 ?_
  refine AO (Di h8).2 a0 (BK (GS.oz d h8) a1) ?_
  refine Ag (FG h8).1 ?_
  refine AO (FG h8).2 b0 (BK hb b1) ?_
  exact h
theorem aF{Q:Ae}(hn:2<=n)(GS:G.mh)(a0:0<=a)(a1:a<G.size)(b0:0<=b)(h:Q (.int (PY G a b)) (B S k m G st++g)):CG n hd 39 [.l8 18,.int a,.int b] Q X (B S k m G st++g):=by
 refine stp hn fun n hn=>?_
 refine ZD (md hn rfl) GS a0 a1 b0 ?_
 unfold PY at h
 cases e:GD G a b with
 |none=>replace h:=e▸h;exact h
 |some d=>
  replace h:=e▸h
  have h8:=N9 e
  have hb:=GS.oz _ (Ir h8).2
  refine Ag (Di h8).1 ?_
  refine AO (Di h8).2 a0 (BK (GS.oz d h8) a1) ?_
  refine Ag (FG h8).1 ?_
  refine AO (FG h8).2 a0 (BK hb a1) ?_
  refine Aj (gG a0) ?_
  refine Aj (gG (gS a1 (kQ GS.top (by decide)))) ?_
  exact h
theorem ar{Q:Ae}(hn:3<=n)(GS:G.mh)(a0:0<=a)(a1:a<G.size)(b0:0<=b)(c0:0<=c)(h:Q (.bool (dO G a b c)) (B S k m G st++g)):CG n hd 41 [.l8 18,.int a,.int b,.int c] Q X (B S k m G st++g):=by
 refine stp hn fun n hn=>?_
 refine aF (md hn rfl) GS a0 a1 b0 ?_
 refine Aj (gG c0) ?_
 exact h
theorem Hi{Q:Ae}(hn:3<=n)(GS:G.mh)(L:st.oj G)(h:Q (.int (Ax st c)) (B S k m G st++g)):CG n hd 118 [.l8 54,.int (sd c)] Q X (B S k m G st++g):=by
 refine stp hn fun n hn=>?_
 have hb:=Bd.left (L.si c) st.k6
 refine Ag (BH c) ?_
 refine Ag rfl ?_
 exact ZF (md hn rfl) hb.1 (hb.top GS) h
theorem Kj(c:Bool):B7 (B S k m G st++g) (.l8 59) (.int (1 - sd c))=some (.int (st.si (!c))):=by rw[Ge];exact BH (!c)
theorem Po{Q:Ae}(hn:6<=n)(GS:G.mh)(L:st.oj G)(q0:0<=Ax st c)(q1:Ax st c<G.size)(h:Q (.int (Bb G st c)) (B S k m G st++g)):CG n hd 132 [.l8 54,.int (sd c)] Q X (B S k m G st++g):=by
 refine stp hn fun n hn=>?_
 refine Ag rfl ?_
 refine Ag rfl ?_
 refine Hi (md hn rfl) GS L ?_
 refine WI (md hn rfl) GS q0 q1 ?_
 conv=>whnf
 exact Ag (Kj c) h
theorem La{Q:Ae}(hn:5<=n)(GS:G.mh)(L:st.oj G)(q0:0<=Ax st c)(q1:Ax st c<G.size)(h:Q (.bool (Bo G st c)) (B S k m G st++g)):CG n hd 134 [.l8 54,.int (sd c)] Q X (B S k m G st++g):=by
 refine stp hn fun n hn=>?_
 refine Ag rfl ?_
 refine Ag rfl ?_
 refine Hi (md hn rfl) GS L ?_
 conv=>whnf
 rw[Ge]
 exact Jo (md hn rfl) GS q0 q1 h
end
noncomputable def mY:Nat->MS->MS
 |0,.seq a _=>a
 |n+1,.seq _ b=>mY n b
 |_,s=>s
noncomputable def fb:MS->MS
 |.mB _ _ _ b=>b
 |.nt _ b=>b
 |s=>s
noncomputable def DS(G:mi)(st:St)(c:Bool):Int:=Am (bor (Am (CX G (Ax st c) 0) (AQ st)) (Am (DL G (Ax st c) 0) (Ch st))) (st.si (!c))
noncomputable def Cv(x y:Int):Int:=Builtin.bitXor x y
noncomputable def UA(G:mi)(k nW:Int):List Int->Int->Int
 |[],h=>h
 |s :: r,h=>UA G k nW r (match Am (AW G k s) nW != 0 with
  |true=>(match !(Am (Am (AW G k s) nW) (Am (AW G k s) nW - 1) != 0)with|true=>bor h (Am (AW G k s) nW)|false=>h)
  |false=>h)
noncomputable def C9(G:mi)(st:St)(c:Bool):Int:=Am (UA G (Ax st c) (Cv (A3 st) (DS G st c)) (nJ 20 (DS G st c) 0) 0) (st.si c)
section
variable{S:List Int}{k:Int}{m:Nat}{G:mi}{st:St}{g:MH}{n:Nat}{hd:Bool}{X:As}{μ:MH}
theorem dR{Q:Ae}(hn:7<=n)(GS:G.mh)(L:st.oj G)(q0:0<=Ax st st.side)(q1:Ax st st.side<G.size)(h:Q (.int (Bb G st st.side)) (B S k m G st++g)):CG n hd 133 [.l8 54] Q X (B S k m G st++g):=by
 refine stp hn fun n hn=>?_
 refine Po (md hn rfl) GS L q0 q1 ?_
 exact h
theorem Iu{Q:Ae}(hn:6<=n)(GS:G.mh)(L:st.oj G)(q0:0<=Ax st st.side)(q1:Ax st st.side<G.size)(h:Q (.bool (Bo G st st.side)) (B S k m G st++g)):CG n hd 135 [.l8 54] Q X (B S k m G st++g):=by
 refine stp hn fun n hn=>?_
 refine La (md hn rfl) GS L q0 q1 ?_
 exact h
theorem Sm{Q:Ae}(hn:4<=n)(GS:G.mh)(L:st.oj G)(q0:0<=Ax st c)(q1:Ax st c<G.size)(h:Q (.int (DS G st c)) (B S k m G st++g)):CG n hd 136 [.l8 54,.int (sd c)] Q X (B S k m G st++g):=by
 refine stp hn fun n hn=>?_
 refine Hi (md hn rfl) GS L ?_
 refine Ju (md hn rfl) GS q0 q1 ?_
 refine F5 (md hn rfl) ?_
 refine F4 (md hn rfl) GS q0 q1 ?_
 refine Gy (md hn rfl) ?_
 conv=>whnf
 exact Ag (Kj c) h
theorem eR(h:μ[n]?=some (.list xs)):By μ n=some xs:=by unfold By;rw[h]
theorem Bc{l:List Int}(h:g[j]?=some (il l)):C6 (B S k m G st++g) (.l8 (j+61))=some (l.map .int,some (j+61,l.map .int)):=by
 show(By (B S k m G st++g) (j+61)).map (fun xs=>(xs,some (j+61,xs)))=_
 refine(eR (show(B S k m G st++g)[j+61]?=_ from h)).symm▸?_;rfl
theorem Ac{α:Type}{l:List α}{i:Nat}{a:α}(h:l[i]?=some a)(e:List α):(l++e)[i]?=some a:=by
 rw[j5,h]
 rcases i7 i l.length with c|c
 ·exact c
 ·exact AM (iz c) h
noncomputable def fV:MS:=fb (mY 5 I8)
theorem TJ{Q:Au}{XS:List Int}(hn:3<=n+1)(GS:G.mh)(hj:g[j]?=some (il XS))(q0:0<=q)(q1:q<G.size)(L:List Int):∀(_:∀s∈L,0<=s/\s<G.size) (env:An) (h p:Int),env 102=some (.l8 54)->env 0=some (.int (sd c))->env 60=some (.int q)->env 142=some (.int sg)->env 138=some (.int h)->env 137=some (.int p)->
  (∀env' p',env' 138=some (.int (UA G q sg L h))->env' 137=some (.int p')->Q .next env' (B S k m G st++g))->
  BA (some (j+61,XS.map .int)) (fun v K env' μ'=>opt (AC [139] true v env') fun e=>ws l9 (Ak l9 prog n) hd fV K X e μ') (L.map .int) Q env (B S k m G st++g):=by
 induction L with
 |nil=>intro _ env h p a1 a2 a3 a4 a5 a6 hQ;exact⟨hj,hQ env p a5 a6⟩
 |cons s L ih=>
  intro hL env h p a1 a2 a3 a4 a5 a6 hQ
  have hs:=hL s gR
  have oW:∀s∈L,0<=s/\s<G.size:=fun s hs=>hL s (gH _ hs)
  refine⟨hj,?_⟩
  refine Ab a1 ?_
  refine Ab a3 ?_
  refine K9 (md hn rfl) GS q0 q1 hs.1 hs.2 ?_
  refine Ab a4 ?_
  unfold UA at hQ
  refine Ap (fun e=>?_) fun e=>?_
  ·have e:(Am (AW G q s) sg != 0)=true:=e
   replace hQ:=e▸hQ
   refine TU (md hn rfl) ?_
   refine Ap (fun e=>?_) fun e=>?_
   ·have e:(!(Am (Am (AW G q s) sg) (Am (AW G q s) sg - 1) != 0))=true:=e
    replace hQ:=e▸hQ
    refine Ab a5 ?_
    refine Ab a1 ?_
    refine Ab a2 ?_
    refine Ag (BH c) ?_
    refine Ap (fun e=>?_) fun e=>?_
    ·conv=>whnf
     refine Ab a6 ?_
     refine Aj (gG hs.1) ?_
     refine Aj (gG (gS hs.2 (kQ GS.top (by decide)))) ?_
     conv=>whnf
     exact ih oW _ _ _ a1 a2 a3 a4 rfl rfl hQ
    ·exact ih oW _ _ _ a1 a2 a3 a4 rfl a6 hQ
   ·have e:(!(Am (Am (AW G q s) sg) (Am (AW G q s) sg - 1) != 0))=false:=e
    rw[e]at hQ
    exact ih oW _ _ _ a1 a2 a3 a4 a5 a6 hQ
  ·have e:(Am (AW G q s) sg != 0)=false:=e
   replace hQ:=e▸hQ
   exact ih oW _ _ _ a1 a2 a3 a4 a5 a6 hQ
theorem Pn{Q:Ae}(hn:5<=n)(GS:G.mh)(L:st.oj G)(q0:0<=Ax st c)(q1:Ax st c<G.size)
  (h:∀p e,Q (.tup [.int (UA G (Ax st c) (Cv (A3 st) (DS G st c)) (nJ 20 (DS G st c) 0) 0),p]) (B S k m G st++(g++e))):CG n hd 143 [.l8 54,.int (sd c)] Q X (B S k m G st++g):=by
 refine stp hn fun n hn=>?_
 refine Hi (md hn rfl) GS L ?_
 refine Sm (md hn rfl) GS L q0 q1 ?_
 refine Ag rfl ?_
 refine Ag rfl ?_
 have hb:Bd G (DS G st c):=(L.si (!c)).right _
 refine CB (md hn rfl) hb.1 (hb.top GS) ?_
 have hj:(g++[il (nJ 20 (DS G st c) 0)])[g.length]?=some (il (nJ 20 (DS G st c) 0)):=gD
 refine Ab (Bc hj) ?_
 refine A0 ?_
 refine TJ (gI (by decide) hn) GS hj q0 q1 _ (fun s hs=>⟨(hb.sq hs).1,(hb.sq hs).2.1⟩) _ _ _ rfl rfl rfl rfl rfl rfl fun env' p' e1 e2=>?_
 refine Ab e1 ?_
 refine Ab e2 ?_
 exact h _ _
theorem NX{Q:Ae}(hn:6<=n)(GS:G.mh)(L:st.oj G)(q0:0<=Ax st c)(q1:Ax st c<G.size)
  (h:∀e,Q (.int (C9 G st c)) (B S k m G st++(g++e))):CG n hd 144 [.l8 54,.int (sd c)] Q X (B S k m G st++g):=by
 refine stp hn fun n hn=>?_
 refine Pn (md hn rfl) GS L q0 q1 ?_
 intro p e
 refine Ag rfl ?_
 refine Ag (BH c) ?_
 exact h e
end
noncomputable def AI(o t f s:Int):Int:=bor (bor (bor t (o*2 ^ 6)) (f*2 ^ 12)) (s*2 ^ 14)
noncomputable def St.kd(st:St):Nat->Int
 |0=>st.k0|1=>st.k1|2=>st.k2|3=>st.k3|4=>st.k4|5=>st.k5|_=>st.k6
noncomputable def DC(G:mi)(kd:Nat)(sq occ:Int):Int:=match kd with
 |2=>Cu G.knight sq
 |3=>DL G sq occ
 |4=>CX G sq occ
 |5=>bor (CX G sq occ) (DL G sq occ)
 |_=>Cu G.king sq
noncomputable def E9(o goals:Int):List Int:=(nJ 20 goals 0).map fun t=>AI o t 0 0
noncomputable def C8(G:mi)(st:St)(kd:Nat)(target:Int):List Int:=(nJ 20 (Am (st.si st.side) (st.kd kd)) 0).flatMap fun o=>E9 o (Am (DC G kd o (A3 st)) target)
theorem BI(k:Nat):∀x t,(nJ k x t).length<=k:=by
 induction k with
 |zero=>intro x t;exact gM 0
 |succ k ih=>
  intro x t
  unfold nJ
  rw[gF]
  have:=ih (x.fdiv 2) (t+1)
  cases Am x 1 != 0 with
  |true=>show 1+_<=_;exact mU (m4 _ _) (.add (.num 1) mu) (mD 1 1) mu mK rfl this
  |false=>show 0+_<=_;exact mU (m4 _ _) (.add (.num 0) mu) (mD 1 1) mu mK rfl this
theorem GF{f:Int->List Int}(hf:∀o,(f o).length<=20)(l:List Int):(l.flatMap f).length<=20*l.length:=by
 induction l with
 |nil=>exact gM 0
 |cons o l ih=>(refine List.flatMap_cons.symm▸?_;refine List.length_append.symm▸?_;refine List.length_cons.symm▸?_);have:=hf o;lia
theorem Gc(G:mi)(st:St)(kd:Nat)(target:Int):(C8 G st kd target).length<=400:=by
 refine gI (GF (fun o=>?_) _) (iY 20 (BI 20 _ _))
 unfold E9;rw[g6];exact BI 20 _ _
theorem D1(h0:-1000<x)(h1:x<1000):small x=true:=gG (hM (m:=1000) (by lia) (by decide))
section
variable{S:List Int}{k:Int}{m:Nat}{G:mi}{st:St}{g:MH}{n:Nat}{hd:Bool}{X:As}{μ:MH}
theorem Pq{Q:Ae}(hn:1<=n)(h0:-1000<o)(h1:o<1000)(h:Q (.int (AI o t 0 0)) μ):CG n hd 18 [.int o,.int t,.int 0,.int 0] Q X μ:=by
 refine stp hn fun n hn=>?_
 refine Aj (D1 h0 h1) ?_
 exact h
theorem QV{Q:Ae}(hn:1<=n)(h0:-1000<o)(h1:o<1000)(p0:-1000<p - 2)(p1:p - 2<1000)(h:Q (.int (AI o t (p - 2) 1)) μ):CG n hd 18 [.int o,.int t,.int 1,.int p] Q X μ:=by
 refine stp hn fun n hn=>?_
 refine Aj (D1 h0 h1) ?_
 refine Aj (D1 p0 p1) ?_
 exact h
theorem IB{kd:Nat}(h:kd<7):B7 (B S k m G st++g) (.l8 58) (.int kd)=some (.int (st.kd kd)):=by
 exact pY h rfl rfl rfl rfl rfl rfl rfl
theorem ZG{Q:Ae}(hn:1<=n)(h:Q (.int (A3 st)) (B S k m G st++g)):CG n hd 88 [.l8 54] Q X (B S k m G st++g):=by
 refine stp hn fun n hn=>?_
 refine Ag rfl ?_
 refine Ag rfl ?_
 exact h
theorem Js{Q:Ae}{c:Bool}{kd:Nat}(hn:1<=n)(h7:kd<7)(h:Q (.int (Am (st.si c) (st.kd kd))) (B S k m G st++g)):CG n hd 106 [.l8 54,.int (sd c),.int kd] Q X (B S k m G st++g):=by
 refine stp hn fun n hn=>?_
 refine Ag (BH c) ?_
 refine Ag (IB h7) ?_
 exact h
theorem WV{Q:Ae}(hn:4<=n)(GS:G.mh)(h0:0<=sq)(h1:sq<G.size)(h:Q (.int (bor (CX G sq occ) (DL G sq occ))) (B S k m G st++g)):CG n hd 94 [.l8 18,.int sq,.int occ] Q X (B S k m G st++g):=by
 refine stp hn fun n hn=>?_
 refine Ju (md hn rfl) GS h0 h1 ?_
 conv=>whnf
 exact F4 (md hn rfl) GS h0 h1 h
theorem Jv{Q:Ae}(hn:5<=n)(GS:G.mh)(h2:3<=kd)(h7:kd<6)(h0:0<=sq)(h1:sq<G.size)(h:Q (.int (DC G kd sq occ)) (B S k m G st++g)):CG n hd 98 [.l8 18,.int kd,.int sq,.int occ] Q X (B S k m G st++g):=by
 refine stp hn fun n hn=>?_
 revert h
 exact k36 h2 h7 (fun h=>F4 (md hn rfl) GS h0 h1 h) (fun h=>Ju (md hn rfl) GS h0 h1 h) (fun h=>WV (md hn rfl) GS h0 h1 h)
theorem WW{Q:Ae}(hn:6<=n)(GS:G.mh)(h2:2<=kd)(h7:kd<7)(h0:0<=sq)(h1:sq<G.size)(h:Q (.int (DC G kd sq occ)) (B S k m G st++g)):CG n hd 101 [.l8 18,.int (sd c),.int kd,.int sq,.int occ] Q X (B S k m G st++g):=by
 refine stp hn fun n hn=>?_
 revert h
 exact ti h2 h7 (fun h=>AO (xs:=G.knight) rfl h0 (BK GS.knight h1) h) (fun h=>Jv (kd:=3) (md hn rfl) GS (by decide) (by decide) h0 h1 h) (fun h=>Jv (kd:=4) (md hn rfl) GS (by decide) (by decide) h0 h1 h) (fun h=>Jv (kd:=5) (md hn rfl) GS (by decide) (by decide) h0 h1 h) (fun h=>AO (xs:=G.king) rfl h0 (BK GS.king h1) h)
noncomputable def eu:MS:=fb (mY 0 HO)
theorem SA{Q:Au}{XS:List Int}(hn:1<=n)(ij:j≠i)(o0:-1000<o)(o1:o<1000)(L:List Int):∀(g:MH) (xs:List Int) (env:An),g[i]?=some (il XS)->g[j]?=some (il xs)->xs.length+L.length<100000->env 31=some (.l8 (j+61))->env 11=some (.int o)->
  (∀env',Q .next env' (B S k m G st++g.set j (il (xs++L.map fun t=>AI o t 0 0))))->
  BA (some (i+61,XS.map .int)) (fun v K env' μ'=>opt (AC [61] true v env') fun e=>ws l9 (Ak l9 prog n) hd eu K X e μ') (L.map .int) Q env (B S k m G st++g):=by
 induction L with
 |nil=>
  intro g xs env hi hj hl e1 e2 h
  have h:=h env
  rw[show xs++([]:List Int).map (fun t=>AI o t 0 0)=xs from gK xs,Bj hj]at h
  exact⟨hi,h⟩
 |cons t L ih=>
  intro g xs env hi hj hl e1 e2 h
  rw[gY]at hl
  refine⟨hi,?_⟩
  refine Ab e1 ?_
  refine Dh hj ?_
  refine Ab e2 ?_
  refine Pq hn o0 o1 ?_
  refine Ab (DA hj) ?_
  refine Aj (room (hH (hY _ _) hl)) ?_
  conv=>whnf
  have t:=ih (g.set j (il (xs++[AI o t 0 0]))) (xs++[AI o t 0 0]) (Ad env 61 (.int t)) (by rw[hG ij];exact hi) (AK hj) (by rw[gF];show _+1+_<_;exact cm hl) e1 e2 fun env'=>by
   have h:=h env'
   rw[ig,gB]
   exact h
  rw[MB]at t
  exact t
theorem AR{α:Type}{l e:List α}{i:Nat}{a b:α}(h:l[i]?=some a):(l++e).set i b=l.set i b++e:=by
 refine List.set_append_left _ _ ?_
 rcases i7 i l.length with c|c
 ·exact c
 ·exact AM (iz c) h
theorem BY{α:Type}{l:List α}{i:Nat}{a:α}(h:l[i]?=some a):i≠l.length:=by
 intro e
 (rw[e]at h;replace h:=(iz (gM _))▸h);exact Ao h
theorem WJ{Q:Ae}{j:Nat}{o goals:Int}{xs:List Int}(hn:2<=n)(GS:G.mh)(o0:-1000<o)(o1:o<1000)(hb:Bd G goals)(hj:g[j]?=some (il xs))(hl:xs.length<90000)
  (h:∀e,Q .none (B S k m G st++(g.set j (il (xs++E9 o goals))++e))):CG n hd 166 [.int o,.int goals,.l8 (j+61)] Q X (B S k m G st++g):=by
 refine stp hn fun n hn=>?_
 refine CB (md hn rfl) hb.1 (hb.top GS) ?_
 have hi:(g++[il (nJ 20 goals 0)])[g.length]?=some (il (nJ 20 goals 0)):=gD
 refine Ab (Bc hi) ?_
 refine A0 ?_
 refine SA (i:=g.length) (md hn rfl) (BY hj) o0 o1 _ _ xs _ hi (Ac hj _) (hH (jh (BI 20 _ _) _) (hM (ju hl 20) (by decide))) rfl rfl fun env'=>?_
 refine(AR hj).symm▸?_
 exact h _
noncomputable def ce:MS:=fb (mY 1 DI)
theorem Qe{Q:Au}{i j:Nat}{XS:List Int}{kd:Nat}{target:Int}(hn:6<=n)(GS:G.mh)(ij:j≠i)(h2:2<=kd)(h7:kd<7)(hb:Bd G target)(L:List Int):∀(_:∀s∈L,0<=s/\s<G.size) (g:MH) (xs:List Int) (env:An),g[i]?=some (il XS)->g[j]?=some (il xs)->xs.length+20*L.length<90000->
  env 102=some (.l8 54)->env 1=some (.int kd)->env 147=some (.int (A3 st))->env 167=some (.int target)->env 31=some (.l8 (j+61))->
  (∀env' e,Q .next env' (B S k m G st++(g.set j (il (xs++L.flatMap fun o=>E9 o (Am (DC G kd o (A3 st)) target)))++e)))->
  BA (some (i+61,XS.map .int)) (fun v K env' μ'=>opt (AC [11] true v env') fun e=>ws l9 (Ak l9 prog n) hd ce K X e μ') (L.map .int) Q env (B S k m G st++g):=by
 induction L with
 |nil=>
  intro _ g xs env hi hj hl e1 e2 e3 e4 e5 h
  have h:=h env []
  (replace h:=jk▸h;rw[gK,gK,Bj hj]at h)
  exact⟨hi,h⟩
 |cons o L ih=>
  intro hL g xs env hi hj hl e1 e2 e3 e4 e5 h
  have ho:=hL o gR
  replace hl:=gY▸hl
  refine⟨hi,?_⟩
  refine Ab e1 ?_
  refine Ab e1 ?_
  refine Ab e2 ?_
  refine Ab e3 ?_
  refine WW hn GS h2 h7 ho.1 ho.2 ?_
  refine Ab e4 ?_
  refine Ab e5 ?_
  refine WJ (gI (by decide) hn) GS (gS (by decide) ho.1) (gS ho.2 (kQ GS.top (by decide))) (hb.right (DC G kd o (A3 st))) hj (hH (hY _ _) hl) ?_
  intro e
  conv=>whnf
  have lg:(E9 o (Am (DC G kd o (A3 st)) target)).length<=20:=by unfold E9;rw[g6];exact BI 20 _ _
  refine ih (fun s hs=>hL s (gH _ hs)) (g.set j (il (xs++E9 o (Am (DC G kd o (A3 st)) target)))++e) (xs++E9 o (Am (DC G kd o (A3 st)) target)) _ (Ac (by refine(hG ij).symm▸?_;exact hi) e) (Ac (AK hj) e) (by refine List.length_append.symm▸?_;exact pt (nI _ _ _) (.add (.add (.add mu nM) (.mulL 20 mK)) (.num 1)) (.num 90000) (.add (.add mu (.mulL 20 (mD 1 1))) (.num 1)) (.num 90000) nM (.num 20) rfl hl lg) e1 e2 e3 e4 e5 fun env' e'=>?_
  (refine(AR (AK hj)).symm▸?_;rewrite[ig];rewrite[gB];rewrite[gB])
  have h:=h env' (e++e')
  exact h
theorem Ev{Q:Ae}{xs:List Int}(hn:7<=n)(GS:G.mh)(L:st.oj G)(h2:2<=kd)(h7:kd<7)(hb:Bd G target)(hj:g[j]?=some (il xs))(hl:xs.length<80000)
  (h:∀e,Q .none (B S k m G st++(g.set j (il (xs++C8 G st kd target))++e))):CG n hd 169 [.l8 54,.int kd,.int target,.l8 (j+61)] Q X (B S k m G st++g):=by
 refine stp hn fun n hn=>?_
 refine ZG (md hn rfl) ?_
 refine Js (md hn rfl) h7 ?_
 have hp:Bd G (Am (st.si st.side) (st.kd kd)):=(L.si _).left _
 refine CB (md hn rfl) hp.1 (hp.top GS) ?_
 have hi:(g++[il (nJ 20 (Am (st.si st.side) (st.kd kd)) 0)])[g.length]?=some (il (nJ 20 (Am (st.si st.side) (st.kd kd)) 0)):=gD
 refine Ab (Bc hi) ?_
 refine A0 ?_
 refine Qe (i:=g.length) (md hn rfl) GS (BY hj) h2 h7 hb _ (fun s hs=>⟨(hp.sq hs).1,(hp.sq hs).2.1⟩) _ xs _ hi (Ac hj _) (hH (jh (iY 20 (BI 20 _ _)) _) (hM (ju hl 400) (by decide))) rfl rfl rfl rfl rfl fun env' e=>?_
 (refine(AR hj).symm▸?_;rewrite[gB])
 exact h _
end
noncomputable def CZ:Bool->Int
 |false=>4
 |true=> -4
noncomputable def BF(G:mi):Bool->Int
 |false=>Cu G.rankm (G.ranks - 1)
 |true=>Cu G.rankm 0
noncomputable def EN(G:mi)(b:Int):Bool->Int
 |false=>Am (b*2 ^ 4) G.full
 |true=>b.fdiv (2 ^ 4)
noncomputable def Dp(x:Int):Int:= -x - 1
noncomputable def Mg(G:mi)(b:Int)(c:Bool):Bool->Int
 |false=>EN G (Am b (Dp (Cu G.files 3))) c*2 ^ 1
 |true=>(EN G (Am b (Dp (Cu G.files 0))) c).fdiv (2 ^ 1)
noncomputable def PF(G:mi)(st:St):Int:=Am G.full (Dp (A3 st))
noncomputable def C7(st:St)(c:Bool):Int:=Am (st.si c) st.k1
noncomputable def Cy(G:mi)(st:St)(c:Bool):Int:=Am (EN G (C7 st c) c) (PF G st)
theorem Bd.full{G:mi}(GS:G.mh):Bd G G.full:=⟨GS.sP,GS.sQ⟩
theorem Bd.fdiv{x:Int}(h:Bd G x)(j:Int)(hj:1<=j):Bd G (x.fdiv j):=by
 have h0:=h.1;have h1:=h.2
 rw[iG _ (by exact fc hj)]
 exact⟨jS h0 (by exact fc hj),j0 (Int.ediv_le_self _ h0) h1⟩
theorem Bd.push{G:mi}(GS:G.mh)(h:Bd G b)(c:Bool):Bd G (EN G b c):=by
 cases c with
 |false=>exact(Bd.full GS).right _
 |true=>exact h.fdiv _ (by decide)
theorem Bd.small{G:mi}(GS:G.mh)(h:Bd G b):small b=true:=gG (by
 have:=h.top GS;have:=h.1
 exact hM (m:=2 ^ 20) (by lia) (by decide))
section
variable{S:List Int}{k:Int}{m:Nat}{G:mi}{st:St}{g:MH}{n:Nat}{hd:Bool}{X:As}{μ:MH}
theorem Ps{Q:Ae}(hn:1<=n)(h:Q (.int (CZ c)) (B S k m G st++g)):CG n hd 174 [.l8 18,.int (sd c)] Q X (B S k m G st++g):=by
 induction n using Nat.casesOn with
 |zero=>exact absurd hn (by decide)
 |succ n=>induction c<;>exact h
theorem Pp{Q:Ae}(hn:1<=n)(GS:G.mh)(h:Q (.int (BF G c)) (B S k m G st++g)):CG n hd 176 [.l8 18,.int (sd c)] Q X (B S k m G st++g):=by
 refine stp hn fun n hn=>?_
 have hr:=GS.ranks
 induction c with
 |false=>
  refine AO (xs:=G.rankm) rfl (by exact mO (mz _) (.num 0) (.sub mq (.num 1)) (.num 1) mq rfl hr) (BK GS.rankm (by exact oE (mz _) (.add (.sub mq (.num 1)) (.num 1)) mq rfl)) ?_
  exact h
 |true=>
  refine AO (xs:=G.rankm) rfl (by decide) (BK GS.rankm (by assumption)) ?_
  exact h
theorem Pr{Q:Ae}(hn:1<=n)(hs:small b=true)(h:Q (.int (EN G b c)) (B S k m G st++g)):CG n hd 177 [.l8 18,.int b,.int (sd c)] Q X (B S k m G st++g):=by
 refine stp hn fun n hn=>?_
 induction c with
 |false=>
  refine Aj hs ?_
  exact h
 |true=>exact h
theorem dQ{Q:Ae}(hn:2<=n)(GS:G.mh)(hb:Bd G b)(h:Q (.int (Mg G b c w)) (B S k m G st++g)):CG n hd 178 [.l8 18,.int b,.int (sd c),.int (sd w)] Q X (B S k m G st++g):=by
 refine stp hn fun n hn=>?_
 have hf:((G.files.length:Nat):Int)=4:=by refine GS.files.symm▸?_;rfl
 induction w with
 |false=>
  refine AO (xs:=G.files) rfl (by decide) (BK hf (by decide)) ?_
  refine Pr (md hn rfl) ((hb.left _).small GS) ?_
  refine Aj (((hb.left _).push GS c).small GS) ?_
  exact h
 |true=>
  refine AO (xs:=G.files) rfl (by decide) (BK hf (by decide)) ?_
  refine Pr (md hn rfl) ((hb.left _).small GS) ?_
  exact h
theorem QX{Q:Ae}(hn:2<=n)(GS:G.mh)(L:st.oj G)(h:Q (.tup [.int (Cy G st c),.int 0]) (B S k m G st++g)):CG n hd 184 [.l8 54,.int (sd c)] Q X (B S k m G st++g):=by
 refine stp hn fun n hn=>?_
 refine ZG (md hn rfl) ?_
 refine Js (kd:=1) (md hn rfl) (by decide) ?_
 refine Pr (md hn rfl) (((L.si c).left _).small GS) ?_
 exact h
end
noncomputable def Fe(o t:Int):List Int:=[AI o t 3 1,AI o t 2 1,AI o t 1 1,AI o t 0 1]
noncomputable def stI:Bool->Int
 |false=>2
 |true=>3
noncomputable def ft:MS->MS
 |.ite _ a _=>a
 |s=>s
section
variable{S:List Int}{k:Int}{m:Nat}{G:mi}{st:St}{g:MH}{n:Nat}{hd:Bool}{X:As}{μ:MH}
theorem Fg{xs:List Int}:(B S k m G st++g).set (j+61) (.list (xs.map .int++[.int v]))=B S k m G st++g.set j (il (xs++[v])):=by rw[MB];rfl
theorem gA{l:List Int}:B S k m G st++g++[.list (l.map .int)]=B S k m G st++(g++[il l]):=gB _ _ _
theorem gz:(B S k m G st++g).length=g.length+61:=rfl
theorem BP:C6 (B S k m G st++g++[.list l]) (.l8 (B S k m G st++g).length)=some (l,some (g.length+61,l)):=by
 show(By (B S k m G st++g++[.list l]) (g.length+61)).map (fun xs=>(xs,some (g.length+61,xs)))=_
 have e:(B S k m G st++g++[.list l])[(B S k m G st++g).length]?=some (.list l):=gD
 refine(CP (n:=g.length+61) e).symm▸?_;rfl
noncomputable def prB:MS:=fb (mY 0 (ft (mY 2 D3)))
theorem Yw{Q:Au}{XS:List Int}(hn:1<=n)(ij:j≠i)(o0:-1000<o)(o1:o<1000)(L:List Int):∀(_:∀p∈L, -1000<p - 2/\p - 2<1000) (g:MH) (xs:List Int) (env:An),g[i]?=some (il XS)->g[j]?=some (il xs)->xs.length+L.length<100000->env 31=some (.l8 (j+61))->env 11=some (.int o)->env 12=some (.int t)->
  (∀env',Q .next env' (B S k m G st++g.set j (il (xs++L.map fun p=>AI o t (p - 2) 1))))->
  BA (some (i+61,XS.map .int)) (fun v K env' μ'=>opt (AC [1] true v env') fun e=>ws l9 (Ak l9 prog n) hd prB K X e μ') (L.map .int) Q env (B S k m G st++g):=by
 induction L with
 |nil=>
  intro _ g xs env hi hj hl e1 e2 e3 h
  have h:=h env
  rw[show xs++([]:List Int).map (fun p=>AI o t (p - 2) 1)=xs from gK xs,Bj hj]at h
  exact⟨hi,h⟩
 |cons p L ih=>
  intro hL g xs env hi hj hl e1 e2 e3 h
  have hp:=hL p gR
  rw[gY]at hl
  refine⟨hi,?_⟩
  refine Ab e1 ?_
  refine Dh hj ?_
  refine Ab e2 ?_
  refine Ab e3 ?_
  refine QV hn o0 o1 hp.1 hp.2 ?_
  refine Ab (DA hj) ?_
  refine Aj (room (hH (hY _ _) hl)) ?_
  rw[Fg]
  refine ih (fun p hp=>hL p (gH _ hp)) (g.set j (il (xs++[AI o t (p - 2) 1]))) (xs++[AI o t (p - 2) 1]) _ (by rw[hG ij];exact hi) (AK hj) (by rw[gF];show _+1+_<_;exact cm hl) e1 e2 e3 fun env'=>?_
  have h:=h env'
  rw[ig,gB]
  exact h
theorem QW{Q:Ae}{xs:List Int}(hn:2<=n)(o0:-1000<o)(o1:o<1000)(hj:g[j]?=some (il xs))(hl:xs.length<90000)
  (h:∀e,Q .none (B S k m G st++(g.set j (il (xs++Fe o t))++e))):CG n hd 187 [.int o,.int t,.int (stI ev),.bool ul,.l8 (j+61)] Q X (B S k m G st++g):=by
 refine stp hn fun n hn=>?_
 have fin:Q .none (B S k m G st++(g.set j (il (xs++[AI o t 3 1]))++[il [4,3,2]]).set j (il (xs++[AI o t 3 1]++[4,3,2].map fun p=>AI o t (p - 2) 1))):=by
  (refine(AR (AK hj)).symm▸?_;rewrite[ig];rewrite[gB])
  exact h _
 have rJ:(xs++[AI o t 3 1]).length+3<100000:=by refine List.length_append.symm▸?_;show _+1+_<_;exact mU (mz _) (.add (.add (mD 0 1) (.num 3)) (.num 1)) (.num 100000) (mD 0 1) (.num 90000) rfl hl
 have hi:(g.set j (il (xs++[AI o t 3 1]))++[il [4,3,2]])[(g.set j (il (xs++[AI o t 3 1]))).length]?=some (il [4,3,2]):=gD
 cases ev
 all_goals
  refine Dh hj ?_
  refine QV (p:=5) (md hn rfl) o0 o1 (by decide) (by decide) ?_
  refine Ab (DA hj) ?_
  refine Aj (room (iB hl (by decide))) ?_
  refine Fg.symm▸?_
  refine Ab BP ?_
  refine A0 ?_
  refine Yw (i:=(g.set j (il (xs++[AI o t 3 1]))).length) (XS:=[4,3,2]) (md hn rfl) (BY (AK hj)) o0 o1 [4,3,2] (by decide) (g.set j (il (xs++[AI o t 3 1]))++[il [4,3,2]]) (xs++[AI o t 3 1]) _ hi (Ac (AK hj) _) rJ rfl rfl rfl fun env'=>?_
  exact fin
end
noncomputable def CJ(G:mi)(st:St)(target:Int):List Int:=(nJ 20 (Am (Am (Cy G st st.side) target) (Dp (BF G st.side))) 0).map fun t=>AI (t - CZ st.side) t 0 0
noncomputable def Ff(G:mi)(st:St)(target:Int):List Int:=(nJ 20 (Am (Am (Cy G st st.side) target) (BF G st.side)) 0).flatMap fun t=>Fe (t - CZ st.side) t
theorem IM(c:Bool):-5<CZ c/\CZ c<5:=by cases c<;>decide
theorem Bd.ones{G:mi}{st:St}(GS:G.mh)(L:st.oj G)(c:Bool):Bd G (Cy G st c):=(((L.si c).left _).push GS c).left _
theorem Ea(y:Int):Am 0 y=0:=by have:=Et (iE 0) y;lia
section
variable{S:List Int}{k:Int}{m:Nat}{G:mi}{st:St}{g:MH}{n:Nat}{hd:Bool}{X:As}{μ:MH}
noncomputable def plB:MS:=fb (mY 3 Do)
theorem Yt{Q:Au}{XS:List Int}(hn:1<=n)(ij:j≠i)(s0:-10<s)(s1:s<10)(L:List Int):∀(_:∀t∈L,0<=t/\t<20) (g:MH) (xs:List Int) (env:An),g[i]?=some (il XS)->g[j]?=some (il xs)->xs.length+L.length<100000->env 31=some (.l8 (j+61))->env 188=some (.int s)->
  (∀env',env' 31=env 31->env' 188=env 188->env' 179=env 179->env' 167=env 167->Q .next env' (B S k m G st++g.set j (il (xs++L.map fun t=>AI (t - s) t 0 0))))->
  BA (some (i+61,XS.map .int)) (fun v K env' μ'=>opt (AC [61] true v env') fun e=>ws l9 (Ak l9 prog n) hd plB K X e μ') (L.map .int) Q env (B S k m G st++g):=by
 induction L with
 |nil=>
  intro _ g xs env hi hj hl e1 e2 h
  have h:=h env rfl rfl rfl rfl
  rw[show xs++([]:List Int).map (fun t=>AI (t - s) t 0 0)=xs from gK xs,Bj hj]at h
  exact⟨hi,h⟩
 |cons t L ih=>
  intro hL g xs env hi hj hl e1 e2 h
  have ht:=hL t gR
  rw[gY]at hl
  refine⟨hi,?_⟩
  refine Ab e1 ?_
  refine Dh hj ?_
  refine Ab e2 ?_
  refine Pq hn (by exact YD s1 ht.1) (by exact YE s0 ht.2) ?_
  refine Ab (DA hj) ?_
  refine Aj (room (hH (hY _ _) hl)) ?_
  rw[Fg]
  refine ih (fun p hp=>hL p (gH _ hp)) (g.set j (il (xs++[AI (t - s) t 0 0]))) (xs++[AI (t - s) t 0 0]) _ (by rw[hG ij];exact hi) (AK hj) (by rw[gF];show _+1+_<_;exact cm hl) e1 e2 fun env' a b c d=>?_
  have h:=h env' a b c d
  rw[ig,gB]
  exact h
theorem WT{Q:Ae}{xs:List Int}(hn:3<=n)(GS:G.mh)(L:st.oj G)(hj:g[j]?=some (il xs))(hl:xs.length<80000)
  (h:∀e,Q .none (B S k m G st++(g.set j (il (xs++CJ G st target))++e))):CG n hd 189 [.l8 54,.int target,.l8 (j+61)] Q X (B S k m G st++g):=by
 refine stp hn fun n hn=>?_
 refine Ps (md hn rfl) ?_
 refine QX (md hn rfl) GS L ?_
 refine Pp (md hn rfl) GS ?_
 have hb:Bd G (Am (Am (Cy G st st.side) target) (Dp (BF G st.side))):=((Bd.ones GS L _).left _).left _
 refine CB (md hn rfl) hb.1 (hb.top GS) ?_
 have hi:(g++[il (nJ 20 (Am (Am (Cy G st st.side) target) (Dp (BF G st.side))) 0)])[g.length]?=some (il (nJ 20 (Am (Am (Cy G st st.side) target) (Dp (BF G st.side))) 0)):=gD
 refine Ab (Bc hi) ?_
 refine A0 ?_
 refine Yt (i:=g.length) (md hn rfl) (BY hj) (iU (by decide) (IM _).1) (iU (IM _).2 (by decide)) _ (fun t ht=>⟨(hb.sq ht).1,gS (hb.sq ht).2.1 GS.top⟩) _ xs _ hi (Ac hj _) (hH (jh (BI 20 _ _) _) (hM (ju hl 20) (by decide))) rfl rfl fun env' a b c d=>?_
 refine(AR hj).symm▸?_
 refine Ab c ?_
 refine Ab d ?_
 conv=>whnf
 refine(show Builtin.bitAnd 0 target=0 from Ea target).symm▸?_
 refine CB (md hn rfl) (iE 0) (by decide) ?_
 have qb:((g.set j (il (xs++CJ G st target))++[il (nJ 20 (Am (Am (Cy G st st.side) target) (Dp (BF G st.side))) 0)])++[il []])[(g.set j (il (xs++CJ G st target))++[il (nJ 20 (Am (Am (Cy G st st.side) target) (Dp (BF G st.side))) 0)]).length]?=some (il []):=gD
 refine Ab (Bc qb) ?_
 refine A0 ?_
 refine⟨qb,?_⟩
 exact(congrArg (fun z=>Q .none (B S k m G st++z)) (gB (g.set j (il (xs++CJ G st target))) _ _)).mpr (h _)
theorem S6(o t:Int):(Fe o t).length=4:=rfl
noncomputable def ppB:MS:=fb (mY 3 Cw)
theorem Yv{Q:Au}{XS:List Int}(hn:2<=n)(ij:j≠i)(s0:-10<s)(s1:s<10)(L:List Int):∀(_:∀t∈L,0<=t/\t<20) (g:MH) (xs:List Int) (env:An),g[i]?=some (il XS)->g[j]?=some (il xs)->xs.length+20*L.length<90000->env 31=some (.l8 (j+61))->env 188=some (.int s)->env 170=some (.int (stI ev))->
  (∀env' e,Q .next env' (B S k m G st++(g.set j (il (xs++L.flatMap fun t=>Fe (t - s) t))++e)))->
  BA (some (i+61,XS.map .int)) (fun v K env' μ'=>opt (AC [61] true v env') fun e=>ws l9 (Ak l9 prog n) hd ppB K X e μ') (L.map .int) Q env (B S k m G st++g):=by
 induction L with
 |nil=>
  intro _ g xs env hi hj hl e1 e2 e3 h
  have h:=h env []
  (replace h:=jk▸h;rw[gK,gK,Bj hj]at h)
  exact⟨hi,h⟩
 |cons t L ih=>
  intro hL g xs env hi hj hl e1 e2 e3 h
  have ht:=hL t gR
  replace hl:=gY▸hl
  refine⟨hi,?_⟩
  refine Ab e2 ?_
  refine Ab e3 ?_
  refine Ab e1 ?_
  refine QW hn (by exact YD s1 ht.1) (by exact YE s0 ht.2) hj (hH (hY _ _) hl) ?_
  intro e
  refine ih (fun s hs=>hL s (gH _ hs)) (g.set j (il (xs++Fe (t - s) t))++e) (xs++Fe (t - s) t) _ (Ac (by refine(hG ij).symm▸?_;exact hi) e) (Ac (AK hj) e) (by(refine List.length_append.symm▸?_;rewrite[S6]);exact mU (m4 _ _) (.add (.add (mD 0 4) (.mulL 20 mK)) (.num 1)) (.num 90000) (.add (.add mu (.mulL 20 (mD 1 1))) (.num 1)) (.num 90000) rfl hl) e1 e2 e3 fun env' e'=>?_
  (refine(AR (AK hj)).symm▸?_;rewrite[ig];rewrite[gB];rewrite[gB])
  have h:=h env' (e++e')
  exact h
theorem WU{Q:Ae}{xs:List Int}(hn:3<=n)(GS:G.mh)(L:st.oj G)(hj:g[j]?=some (il xs))(hl:xs.length<80000)
  (h:∀e,Q .none (B S k m G st++(g.set j (il (xs++Ff G st target))++e))):CG n hd 190 [.l8 54,.int (stI ev),.int target,.l8 (j+61)] Q X (B S k m G st++g):=by
 refine stp hn fun n hn=>?_
 refine Ps (md hn rfl) ?_
 refine QX (md hn rfl) GS L ?_
 refine Ag rfl ?_
 refine Pp (md hn rfl) GS ?_
 have hb:Bd G (Am (Am (Cy G st st.side) target) (BF G st.side)):=((Bd.ones GS L _).left _).left _
 refine CB (md hn rfl) hb.1 (hb.top GS) ?_
 have hi:(g++[il (nJ 20 (Am (Am (Cy G st st.side) target) (BF G st.side)) 0)])[g.length]?=some (il (nJ 20 (Am (Am (Cy G st st.side) target) (BF G st.side)) 0)):=gD
 refine Ab (Bc hi) ?_
 refine A0 ?_
 refine Yv (i:=g.length) (md hn rfl) (BY hj) (iU (by decide) (IM _).1) (iU (IM _).2 (by decide)) _ (fun t ht=>⟨(hb.sq ht).1,gS (hb.sq ht).2.1 GS.top⟩) _ xs _ hi (Ac hj _) (hH (jh (iY 20 (BI 20 _ _)) _) (hM (ju hl 400) (by decide))) rfl rfl rfl fun env' e=>?_
 (refine(AR hj).symm▸?_;rewrite[gB])
 exact h _
end
noncomputable def B2(c w:Bool):Int:=CZ c+1 - 2*sd w
noncomputable def Ew(last s t:Int):List Int:=match Am last (1*2 ^ t.toNat) != 0 with
 |true=>Fe (t - s) t
 |false=>[AI (t - s) t 0 0]
noncomputable def Ih(G:mi)(st:St)(target:Int)(w:Bool):List Int:=(nJ 20 (Am (Mg G (C7 st st.side) st.side w) (Am target (st.si (!st.side)))) 0).flatMap (Ew (BF G st.side) (B2 st.side w))
noncomputable def CU(G:mi)(st:St)(target:Int):List Int:=CJ G st target++Ff G st target++Ih G st target false++Ih G st target true
theorem Jx(l s t:Int):(Ew l s t).length<=4:=by
 unfold Ew
 cases Am l (1*2 ^ t.toNat) != 0 with
 |true=>exact gM 4
 |false=>exact(by decide:1<=4)
theorem Jy(c w:Bool):-10<B2 c w/\B2 c w<10:=by induction c using Bool.casesOn<;>induction w using Bool.casesOn<;>decide
section
variable{S:List Int}{k:Int}{m:Nat}{G:mi}{st:St}{g:MH}{n:Nat}{hd:Bool}{X:As}{μ:MH}
noncomputable def cpB:MS:=fb (mY 1 (fb (mY 5 BX)))
theorem W7{Q:Au}{XS:List Int}(hn:2<=n)(ij:j≠i)(s0:-10<s)(s1:s<10)(L:List Int):∀(_:∀t∈L,0<=t/\t<20) (g:MH) (xs:List Int) (env:An),g[i]?=some (il XS)->g[j]?=some (il xs)->xs.length+20*L.length<90000->env 31=some (.l8 (j+61))->env 188=some (.int s)->env 170=some (.int (stI ev))->env 191=some (.int l)->
  (∀env' e,(∀x,x≠61->env' x=env x)->Q .next env' (B S k m G st++(g.set j (il (xs++L.flatMap (Ew l s)))++e)))->
  BA (some (i+61,XS.map .int)) (fun v K env' μ'=>opt (AC [61] true v env') fun e=>ws l9 (Ak l9 prog n) hd cpB K X e μ') (L.map .int) Q env (B S k m G st++g):=by
 induction L with
 |nil=>
  intro _ g xs env hi hj hl e1 e2 e3 e4 h
  have h:=h env [] fun _ _=>rfl
  (replace h:=jk▸h;rw[gK,gK,Bj hj]at h)
  exact⟨hi,h⟩
 |cons t L ih=>
  intro hL g xs env hi hj hl e1 e2 e3 e4 h
  have ht:=hL t gR
  have oW:=fun s hs=>hL s (gH t hs)
  have oK:=Jx l s t
  replace hl:=gY▸hl
  refine⟨hi,?_⟩
  refine Ab e4 ?_
  refine Aj (gG ht.1) ?_
  refine Aj (gG (iU ht.2 (by decide))) ?_
  have fin:∀e,BA (some (i+61,XS.map .int)) (fun v K env' μ'=>opt (AC [61] true v env') fun e=>ws l9 (Ak l9 prog n) hd cpB K X e μ') (L.map .int) Q (Ad env 61 (.int t)) (B S k m G st++(g.set j (il (xs++Ew l s t))++e)):=fun e=>by
   refine ih oW (g.set j (il (xs++Ew l s t))++e) (xs++Ew l s t) _ (Ac (by refine(hG ij).symm▸?_;exact hi) e) (Ac (AK hj) e) (by refine List.length_append.symm▸?_;exact pt (nI _ _ _) (.add (.add (.add mK mu) (.mulL 20 nM)) (.num 1)) (.num 90000) mu (.num 4) (.add (.add mK (.mulL 20 (mD 2 1))) (.num 1)) (.num 90000) rfl oK hl) e1 e2 e3 e4 fun env' e' hs=>?_
   (refine(AR (AK hj)).symm▸?_;rewrite[ig];rewrite[gB];rewrite[gB])
   have h:=h env' (e++e') fun x hx=>(hs x hx).trans (iO hx)
   exact h
  unfold Ew at fin
  refine Ap (fun e=>?_) fun e=>?_
  ·have e:(Am l (1*2 ^ t.toNat) != 0)=true:=e
   replace fin:=e▸fin
   refine Ab e2 ?_
   refine Ab e3 ?_
   refine Ab e1 ?_
   refine QW hn (by exact YD s1 ht.1) (by exact YE s0 ht.2) hj (hH (hY _ _) hl) ?_
   exact fin
  ·have e:(Am l (1*2 ^ t.toNat) != 0)=false:=e
   replace fin:=e▸fin
   refine Ab e1 ?_
   refine Dh hj ?_
   refine Ab e2 ?_
   refine Pq (gI (by decide) hn) (by exact YD s1 ht.1) (by exact YE s0 ht.2) ?_
   refine Ab (DA hj) ?_
   refine Aj (room (hH (hY _ _) (iB hl (by decide)))) ?_
   refine Fg.symm▸?_
   have fin:=fin []
   rw[gK]at fin
   exact fin
noncomputable def wgB:MS:=fb (mY 5 BX)
theorem Jw(G:mi)(st:St)(t:Int)(w:Bool):(Ih G st t w).length<=400:=gI (GF (fun o=>gI (Jx _ _ o) (by decide)) _) (iY 20 (BI 20 _ _))
theorem Zq{Q:Au}(hn:3<=n+1)(GS:G.mh)(hp:Bd G (C7 st st.side))(hh:Bd G (Am target (st.si (!st.side))))(ij:j≠i)(L:List Bool):∀(g:MH) (xs:List Int) (env:An),g[i]?=some (.list XS)->g[j]?=some (il xs)->xs.length+400*L.length<80000->
  env 33=some (.l8 18)->env 0=some (.int (sd st.side))->env 191=some (.int (BF G st.side))->env 183=some (.int (C7 st st.side))->env 123=some (.int (Am target (st.si (!st.side))))->env 31=some (.l8 (j+61))->env 170=some (.int (stI ev))->
  (∀env' e,Q .next env' (B S k m G st++(g.set j (il (xs++L.flatMap (Ih G st target)))++e)))->
  BA (some (i+61,XS)) (fun v K env' μ'=>opt (AC [157] true v env') fun e=>ws l9 (Ak l9 prog n) hd wgB K X e μ') (L.map fun w=>.int (sd w)) Q env (B S k m G st++g):=by
 induction L with
 |nil=>
  intro g xs env hi hj hl e1 e2 e3 e4 e5 e6 e7 h
  have h:=h env []
  (replace h:=jk▸h;rw[gK,gK,Bj hj]at h)
  exact⟨hi,h⟩
 |cons w L ih=>
  intro g xs env hi hj hl e1 e2 e3 e4 e5 e6 e7 h
  have oK:=Jw G st target w
  replace hl:=gY▸hl
  refine⟨hi,?_⟩
  refine Ab e1 ?_
  refine Ab e2 ?_
  refine Ps (md hn rfl) ?_
  refine Aj (D1 (x:=sd w) (by induction w using Bool.casesOn<;>decide) (by induction w using Bool.casesOn<;>decide)) ?_
  refine Ab e1 ?_
  refine Ab e4 ?_
  refine Ab e2 ?_
  refine dQ (md hn rfl) GS hp ?_
  refine Ab e5 ?_
  have hb:Bd G (Am (Mg G (C7 st st.side) st.side w) (Am target (st.si (!st.side)))):=hh.right _
  refine CB (md hn rfl) hb.1 (hb.top GS) ?_
  have qb:(g++[il (nJ 20 (Am (Mg G (C7 st st.side) st.side w) (Am target (st.si (!st.side)))) 0)])[g.length]?=some (il (nJ 20 (Am (Mg G (C7 st st.side) st.side w) (Am target (st.si (!st.side)))) 0)):=gD
  refine Ab (Bc qb) ?_
  refine A0 ?_
  refine W7 (i:=g.length) (ev:=ev) (md hn rfl) (BY hj) (Jy st.side w).1 (Jy st.side w).2 _ (fun t ht=>⟨(hb.sq ht).1,gS (hb.sq ht).2.1 GS.top⟩) _ xs _ qb (Ac hj _) (hH (jh (iY 20 (BI 20 _ _)) _) (by exact mU (m4 _ _) (.add (.add mu (.mulL 20 (.num 20))) (.num 1)) (.num 90000) (.add (.add mu (.mulL 400 (mD 1 1))) (.num 1)) (.num 80000) rfl hl)) e6 rfl e7 e3 fun env' e hs=>?_
  (refine(AR hj).symm▸?_;rewrite[gB])
  have up:∀x v,x≠61->x≠188->x≠157->env x=some v->env' x=some v:=fun x v a b c d=>(hs x a).trans ((iO b).trans ((iO c).trans d))
  refine ih (g.set j (il (xs++Ih G st target w))++_) (xs++Ih G st target w) env' (Ac (by refine(hG ij).symm▸?_;exact hi) _) (Ac (AK hj) _) (by refine List.length_append.symm▸?_;exact fe oK hl) (up _ _ (by decide) (by decide) (by decide) e1) (up _ _ (by decide) (by decide) (by decide) e2) (up _ _ (by decide) (by decide) (by decide) e3) (up _ _ (by decide) (by decide) (by decide) e4) (up _ _ (by decide) (by decide) (by decide) e5) (up _ _ (by decide) (by decide) (by decide) e6) (up _ _ (by decide) (by decide) (by decide) e7) fun env' e'=>?_
  (refine(AR (AK hj)).symm▸?_;rewrite[ig];rewrite[gB];rewrite[gB])
  have h:=h env'
  exact h _
theorem au{Q:Ae}{xs:List Int}(hn:4<=n)(GS:G.mh)(L:st.oj G)(hj:g[j]?=some (il xs))(hl:xs.length<70000)
  (h:∀e,Q .none (B S k m G st++(g.set j (il (xs++Ih G st target false++Ih G st target true))++e))):CG n hd 192 [.l8 54,.int (stI ev),.int target,.l8 (j+61)] Q X (B S k m G st++g):=by
 refine stp hn fun n hn=>?_
 refine Pp (md hn rfl) GS ?_
 refine Js (kd:=1) (md hn rfl) (by decide) ?_
 refine Ag (Kj _) ?_
 refine Ab BP ?_
 refine A0 ?_
 refine Zq (target:=target) (i:=g.length) (XS:=[.int 0,.int 1]) (ev:=ev) (gI (by decide) hn) GS ((L.si _).left _) ((L.si _).right _) (BY hj) [false,true] (g++[.list [.int 0,.int 1]]) xs _ gD (Ac hj _) (hM (ju hl _) (by decide)) ?_ ?_ ?_ ?_ ?_ ?_ ?_ fun env' e=>?_
 any_goals rfl
 (refine(AR hj).symm▸?_;rewrite[gB];rewrite[j8];rewrite[j8];rewrite[jk];rewrite[gK];rewrite[<- gB xs])
 exact h _
theorem VF{xs:List Int}(hl:xs.length<60000):(xs++CJ G st target).length<80000:=by
 rw[gF];unfold CJ;rw[g6];have:=BI 20 (Am (Am (Cy G st st.side) target) (Dp (BF G st.side))) 0;lia
theorem Yz{xs:List Int}(hl:xs.length<60000):(xs++CJ G st target++Ff G st target).length<70000:=by
 have h:(Ff G st target).length<=400:=gI (GF (f:=fun t=>Fe (t - CZ st.side) t) (fun o=>by show 4<=20;decide) _) (iY 20 (BI 20 _ _))
 refine List.length_append.symm▸?_;rw[gF]at *;unfold CJ at *;rw[g6]at *;have:=BI 20 (Am (Am (Cy G st st.side) target) (Dp (BF G st.side))) 0;lia
theorem TZ{Q:Ae}{xs:List Int}(hn:5<=n)(GS:G.mh)(L:st.oj G)(hj:g[j]?=some (il xs))(hl:xs.length<60000)
  (h:∀e,Q .none (B S k m G st++(g.set j (il (xs++CU G st target))++e))):CG n hd 193 [.l8 54,.int (stI ev),.int target,.l8 (j+61)] Q X (B S k m G st++g):=by
 refine stp hn fun n hn=>?_
 cases ev
 all_goals
  refine WT (md hn rfl) GS L hj (iB hl (by decide)) ?_
  intro e
  refine WU (md hn rfl) GS L (Ac (AK hj) e) (VF hl) ?_
  intro e'
  refine au (md hn rfl) GS L (Ac (AK (Ac (AK hj) e)) e') (Yz hl) ?_
  intro tM
  rw[AR (AK (Ac (AK hj) e)),ig,AR (AK hj),ig,gB,gB,gB (xs++CJ G st target++Ff G st target),show xs++CJ G st target++Ff G st target++(Ih G st target false++Ih G st target true)=xs++CU G st target by unfold CU;rw[gB,gB,gB,gB]]
  exact h _
end
noncomputable def pu(G:mi)(st:St)(given:Int):Int:=match given==0 with
 |true=>0
 |false=>match Am given (given - 1) != 0 with
  |true=>0
  |false=>bor given (AW G (Ax st st.side) (Ga 20 given 0))
theorem Bd.or(hx:Bd G x)(hy:Bd G y):Bd G (bor x y):=by
 obtain⟨a,rfl⟩:=gJ hx.1
 obtain⟨b,rfl⟩:=gJ hy.1
 have e:(2:Int) ^ G.size.toNat=((2 ^ G.size.toNat:Nat):Int):=by rw[jR];rfl
 have h1:=hx.2
 have h2:=hy.2
 rw[e]at h1 h2
 have q:bor (a:Int) (b:Int)=((a||| b:Nat):Int):=Gj fun k=>by
  show tb (Builtin.bitOr _ _) k=(a||| b).testBit k
  rw[DE,jF];rfl
 rw[q]
 refine⟨gW _,?_⟩
 rw[e]
 have:=Nat.or_lt_two_pow (x:=a) (y:=b) (n:=G.size.toNat) (by exact Int.ofNat_lt.mp (cn h1)) (by exact Int.ofNat_lt.mp (cn h2))
 lia
theorem Bd.low{G:mi}(GS:G.mh)(h:Bd G b)(hb:b≠0):0<=Ga 20 b 0/\Ga 20 b 0<G.size:=by
 have h2:=h.2
 have e:(2:Int) ^ G.size.toNat=((2 ^ G.size.toNat:Nat):Int):=by rw[jR];rfl
 rw[e]at h2
 have ht:=h.top GS
 obtain⟨a,rfl⟩:=gJ h.1
 obtain⟨j,hj,e1,e2⟩:=U3 20 a 0 (by lia) (by lia)
 rw[e2,kj]
 refine⟨gW j,?_⟩
 rcases i7 j G.size.toNat with c|c
 ·lia
 ·have:(2:Nat) ^ G.size.toNat<=2 ^ j:=iF (by decide) c
  lia
noncomputable def EC(G:mi)(st:St):Int:=Am G.full (Dp (st.si st.side))
noncomputable def oJ(G:mi)(st:St):List Int:=(match pu G st (Bb G st st.side) != 0 with
 |true=>CU G st (pu G st (Bb G st st.side))++[2,3,4,5].flatMap fun kd=>C8 G st kd (pu G st (Bb G st st.side))
 |false=>[])++C8 G st 6 (EC G st)
noncomputable def LY(G:mi)(st:St):List Int:=CU G st G.full++[2,3,4,5,6].flatMap fun kd=>C8 G st kd (EC G st)
section
variable{S:List Int}{k:Int}{m:Nat}{G:mi}{st:St}{g:MH}{n:Nat}{hd:Bool}{X:As}{μ:MH}
theorem dS{Q:Ae}{given:Int}(hn:4<=n)(GS:G.mh)(L:st.oj G)(q0:0<=Ax st st.side)(q1:Ax st st.side<G.size)(hb:Bd G given)(h:Q (.int (pu G st given)) (B S k m G st++g)):CG n hd 199 [.l8 54,.int given] Q X (B S k m G st++g):=by
 refine stp hn fun n hn=>?_
 unfold pu at h
 refine Ap (fun e=>?_) fun e=>?_
 ·replace h:=e▸h;exact h
 ·replace h:=e▸h
  have h0:given≠0:=by intro z;subst z;exact FT e
  have hl:=hb.low GS h0
  refine TU (md hn rfl) ?_
  refine Ap (fun e=>?_) fun e=>?_
  ·rw[e]at h;exact h
  ·rw[e]at h
   refine Hi (md hn rfl) GS L ?_
   refine ZF (md hn rfl) hb.1 (hb.top GS) ?_
   refine K9 (md hn rfl) GS q0 q1 hl.1 hl.2 ?_
   exact h
theorem WO{Q:Ae}(hn:1<=n)(h:Q (.bool false) (B S k m G st++g)):CG n hd 201 [.l8 54,.int t] Q X (B S k m G st++g):=by
 induction n using Nat.casesOn with
 |zero=>exact absurd hn (by decide)
 |succ n=>exact h
theorem fX{Q:Ae}(hn:1<=n)(h:Q .none (B S k m G st++g)):CG n hd 197 [.l8 54,.l8 j] Q X (B S k m G st++g):=by
 induction n using Nat.casesOn with
 |zero=>exact absurd hn (by decide)
 |succ n=>exact h
theorem W2{Q:Ae}(hn:1<=n)(h:Q (.int (EC G st)) (B S k m G st++g)):CG n hd 173 [.l8 54,.int 2] Q X (B S k m G st++g):=by
 refine stp hn fun n hn=>?_
 refine Ag (BH _) ?_
 exact h
theorem NY{Q:Ae}(hn:1<=n)(h0:0<=i)(hi:i<4)(h:Q (.int 1) (B S k m G st++g)):CG n hd 161 [.l8 54,.int i] Q X (B S k m G st++g):=by
 refine stp hn fun n hn=>?_
 refine Ag (v:=.none) (by rcases(by lia:i=0\/i=1\/i=2\/i=3)with rfl|rfl|rfl|rfl<;>rfl) ?_
 exact h
theorem TO{Q:Ae}(hn:2<=n)(h:∀e,Q .none (B S k m G st++(g++e))):CG n hd 163 [.l8 54,.l8 j] Q X (B S k m G st++g):=by
 refine stp hn fun n hn=>?_
 refine Aj (D1 (x:=sd st.side) (by cases st.side<;>decide) (by cases st.side<;>decide)) ?_
 refine Aj (D1 (x:=sd st.side) (by cases st.side<;>decide) (by cases st.side<;>decide)) ?_
 refine Ab BP ?_
 refine A0 ?_
 have hi:(g++[MO.list [.int (2*sd st.side),.int (2*sd st.side+1)]])[g.length]?=some (.list [.int (2*sd st.side),.int (2*sd st.side+1)]):=gD
 refine⟨hi,?_⟩
 refine NY (md hn rfl) (by cases st.side<;>decide) (by cases st.side<;>decide) ?_
 refine⟨hi,?_⟩
 refine NY (md hn rfl) (by cases st.side<;>decide) (by cases st.side<;>decide) ?_
 refine⟨hi,?_⟩
 exact h _
noncomputable def kdB:MS:=fb (mY 5 Ja)
theorem Rq{Q:Au}(hn:7<=n)(GS:G.mh)(LO:st.oj G)(hb:Bd G target)(ij:j≠i)(L:List Nat):∀(_:∀kd∈L,2<=kd/\kd<7) (g:MH) (xs:List Int) (env:An),g[i]?=some (.list XS)->g[j]?=some (il xs)->xs.length+400*L.length<80000->
  env 102=some (.l8 54)->env 167=some (.int target)->env 31=some (.l8 (j+61))->
  (∀env' e,(∀x,x≠1->env' x=env x)->Q .next env' (B S k m G st++(g.set j (il (xs++L.flatMap fun kd=>C8 G st kd target))++e)))->
  BA (some (i+61,XS)) (fun v K env' μ'=>opt (AC [1] true v env') fun e=>ws l9 (Ak l9 prog n) hd kdB K X e μ') (L.map fun(kd:Nat)=>.int kd) Q env (B S k m G st++g):=by
 induction L with
 |nil=>
  intro _ g xs env hi hj hl e1 e2 e3 h
  have h:=h env [] fun _ _=>rfl
  (replace h:=jk▸h;rw[gK,gK,Bj hj]at h)
  exact⟨hi,h⟩
 |cons kd L ih=>
  intro hL g xs env hi hj hl e1 e2 e3 h
  have hk:=hL kd gR
  have oK:=Gc G st kd target
  replace hl:=gY▸hl
  refine⟨hi,?_⟩
  refine Ab e1 ?_
  refine Ab e2 ?_
  refine Ab e3 ?_
  refine Ev hn GS LO hk.1 hk.2 hb hj (hH (hY _ _) hl) ?_
  intro e
  refine ih (fun s hs=>hL s (gH _ hs)) (g.set j (il (xs++C8 G st kd target))++e) (xs++C8 G st kd target) _ (Ac (by refine(hG ij).symm▸?_;exact hi) e) (Ac (AK hj) e) (by refine List.length_append.symm▸?_;exact fe oK hl) e1 e2 e3 fun env' e' hs=>?_
  (refine(AR (AK hj)).symm▸?_;rewrite[ig];rewrite[gB];rewrite[gB])
  have h:=h env' (e++e') fun x hx=>(hs x hx).trans (iO hx)
  exact h
theorem Bd.pu{given:Int}(hb:Bd G given)(hr:∀a b,Bd G (AW G a b)):Bd G (pu G st given):=by
 have z:Bd G 0:=⟨iE 0,jJ (by decide)⟩
 unfold Mine.pu
 cases given==0 with
 |true=>exact z
 |false=>
  cases Am given (given - 1) != 0 with
  |true=>exact z
  |false=>exact hb.or (hr _ _)
theorem FE(target:Int):(CU G st target).length<=2000:=by
 have p1:=BI 20 (Am (Am (Cy G st st.side) target) (Dp (BF G st.side))) 0
 have p2:(Ff G st target).length<=400:=gI (GF (f:=fun t=>Fe (t - CZ st.side) t) (fun o=>by show 4<=20;decide) _) (iY 20 (BI 20 _ _))
 have p3:=Jw G st target false
 have p4:=Jw G st target true
 unfold CU
 (refine List.length_append.symm▸?_;rewrite[gF];rewrite[gF])
 unfold CJ
 rw[g6]
 lia
theorem Mw(target:Int)(l:List Nat):(l.flatMap fun kd=>C8 G st kd target).length<=400*l.length:=by
 induction l with
 |nil=>exact gM 0
 |cons o l ih=>rw[j8,gF,gY];have:=Gc G st o target;lia
theorem WH{Q:Ae}{xs:List Int}(hn:8<=n)(GS:G.mh)(L:st.oj G)(q0:0<=Ax st st.side)(q1:Ax st st.side<G.size)(hr:∀a b,Bd G (AW G a b))(hj:g[j]?=some (il xs))(hl:xs.length<1000)
  (h:∀e,Q .none (B S k m G st++(g.set j (il (xs++oJ G st))++e))):CG n hd 203 [.l8 54,.l8 (j+61)] Q X (B S k m G st++g):=by
 refine stp hn fun n hn=>?_
 have hc:Bd G (Bb G st st.side):=(L.si _).right _
 have ht:Bd G (pu G st (Bb G st st.side)):=Bd.pu hc hr
 have ho:Bd G (EC G st):=(Bd.full GS).left _
 refine dR (md hn rfl) GS L q0 q1 ?_
 refine dS (md hn rfl) GS L q0 q1 hc ?_
 unfold oJ at h
 revert h ht
 generalize pu G st (Bb G st st.side)=t
 intro h ht
 refine Ap (fun e=>?_) fun e=>?_
 ·replace h:=e▸h
  refine TZ (ev:=true) (md hn rfl) GS L hj (iB hl (by decide)) ?_
  intro e
  refine WO (md hn rfl) ?_
  refine Ab BP ?_
  refine A0 ?_
  have hp:=FE (G:=G) (st:=st) t
  refine Rq (target:=t) (i:=(g.set j (il (xs++CU G st t))++e).length) (XS:=[.int 2,.int 3,.int 4,.int 5]) (md hn rfl) GS L ht (BY (Ac (AK hj) e)) [2,3,4,5] (by decide) ((g.set j (il (xs++CU G st t))++e)++[.list [.int 2,.int 3,.int 4,.int 5]]) (xs++CU G st t) _ gD (Ac (Ac (AK hj) e) _) (by refine List.length_append.symm▸?_;show _+1600<_;exact pt (m4 _ _) (.add (.add (.add mu mK) (.num 1600)) (.num 1)) (.num 80000) (mD 0 1) (.num 1000) mK (.num 2000) rfl hl hp) ?_ ?_ ?_ fun env' e' hs=>?_
  any_goals rfl
  (refine(AR (Ac (AK hj) e)).symm▸?_;rewrite[AR (AK hj)];rewrite[ig];rewrite[gB];rewrite[gB])
  have a1:env' 102=some (.l8 54):=hs 102 (by decide)
  have a2:env' 31=some (.l8 (j+61)):=hs 31 (by decide)
  refine Ab a1 ?_
  refine Ab a1 ?_
  refine Ab a1 ?_
  refine Ab a1 ?_
  refine Ag (BH _) ?_
  refine Ab a2 ?_
  refine Ev (kd:=6) (md hn rfl) GS L (by decide) (by decide) ho (Ac (AK hj) _) (by(refine List.length_append.symm▸?_;refine List.length_append.symm▸?_);have:=Mw (G:=G) (st:=st) t [2,3,4,5];show _+_+_<_;have e4:400*[2,3,4,5].length=1600:=rfl;lia) ?_
  intro tM
  (refine(AR (AK hj)).symm▸?_;rewrite[ig];rewrite[gB];rewrite[gB xs];rewrite[gB xs])
  exact h _
 ·replace h:=e▸h
  refine Ag (BH _) ?_
  refine Ev (kd:=6) (md hn rfl) GS L (by decide) (by decide) ho hj (iB hl (by decide)) ?_
  intro tM
  exact h _
end
noncomputable def Ah(m:Int):Int:=Am (m.fdiv (2 ^ 6)) 63
noncomputable def mo(m:Int):Int:=Am m 63
noncomputable def Bt(m:Int):Int:=Am (m.fdiv (2 ^ 14)) 3
noncomputable def Af(m:Int):Int:=match Bt m != 1 with
 |true=>0
 |false=>Am (m.fdiv (2 ^ 12)) 3+2
structure B0(G:mi)(m:Int):Prop where
 f0:0<=Ah m
 f1:Ah m<G.size
 t0:0<=mo m
 t1:mo m<G.size
 sp:Bt m=0\/Bt m=1
noncomputable def Bs(G:mi)(st:St)(pin m:Int):Bool:=match Ah m==Ax st st.side with
 |true=>!Bq G st (mo m) (!st.side) (Cv (A3 st) (1*2 ^ (Ax st st.side).toNat))
 |false=>match Am (pin.fdiv (2 ^ (Ah m).toNat)) 1==0 with
  |true=>true
  |false=>dO G (Ah m) (mo m) (Ax st st.side)
section
variable{S:List Int}{k:Int}{m:Nat}{G:mi}{st:St}{g:MH}{n:Nat}{hd:Bool}{X:As}{μ:MH}
theorem TT{Q:Ae}(hn:9<=n)(GS:G.mh)(L:st.oj G)(q0:0<=Ax st st.side)(q1:Ax st st.side<G.size)(hr:∀a b,Bd G (AW G a b))
  (h:∀e,Q (.l8 (g.length+61)) (B S k m G st++(g++[il (oJ G st)]++e))):CG n hd 211 [.l8 54,.int 3] Q X (B S k m G st++g):=by
 refine stp hn fun n hn=>?_
 refine WH (j:=g.length) (xs:=[]) (g:=g++[il []]) (md hn rfl) GS L q0 q1 hr gD (by decide) ?_
 intro e
 rw[hU _ _ (gM _),iI]
 exact h e
theorem aA{Q:Ae}(hn:8<=n)(GS:G.mh)(L:st.oj G)
  (h:∀e,Q (.l8 (g.length+61)) (B S k m G st++(g++[il (LY G st)]++e))):CG n hd 211 [.l8 54,.int 2] Q X (B S k m G st++g):=by
 refine stp hn fun n hn=>?_
 have ho:Bd G (EC G st):=(Bd.full GS).left _
 have hp:=FE (G:=G) (st:=st) G.full
 refine W2 (g:=g++[il []]) (md hn rfl) ?_
 refine TZ (ev:=false) (j:=g.length) (xs:=[]) (g:=g++[il []]) (md hn rfl) GS L gD (by decide) ?_
 intro e
 rw[jP,hU _ _ (gM _),iI]
 have hj:(g++[il (CU G st G.full)])[g.length]?=some (il (CU G st G.full)):=gD
 refine fX (md hn rfl) ?_
 refine Ab BP ?_
 refine A0 ?_
 refine Rq (target:=EC G st) (j:=g.length) (i:=((g++[il (CU G st G.full)])++e).length) (XS:=[.int 2,.int 3,.int 4,.int 5,.int 6]) (md hn rfl) GS L ho (BY (Ac hj e)) [2,3,4,5,6] (by decide) (((g++[il (CU G st G.full)])++e)++[.list [.int 2,.int 3,.int 4,.int 5,.int 6]]) (CU G st G.full) _ gD (Ac (Ac hj e) _) (by show _+2000<_;exact mU (mz _) (.add (mD 0 2000) (.num 1)) (.num 80000) mu (.num 2000) rfl hp) ?_ ?_ ?_ fun env' e' hs=>?_
 any_goals rfl
 have a1:env' 102=some (.l8 54):=hs 102 (by decide)
 have a2:env' 31=some (.l8 (g.length+61)):=hs 31 (by decide)
 have a3:env' 170=some (.int 2):=hs 170 (by decide)
 (refine(AR (Ac hj e)).symm▸?_;rewrite[AR hj];rewrite[hU _ _ (gM _)];rewrite[iI];rewrite[gB];rewrite[gB (g++_)])
 refine Ab a3 ?_
 refine Ab a1 ?_
 refine Ab a2 ?_
 refine TO (md hn rfl) ?_
 intro tM
 refine Ab a2 ?_
 rw[gB (g++_)]
 exact h _
theorem T0{Q:Ae}(hn:10<=n)(GS:G.mh)(L:st.oj G)(q0:0<=Ax st st.side)(q1:Ax st st.side<G.size)(hr:∀a b,Bd G (AW G a b))
  (h:∀e,Q (.l8 (g.length+61)) (B S k m G st++(g++[il (match Bo G st st.side with|true=>oJ G st|false=>LY G st)]++e))):CG n hd 213 [.l8 54] Q X (B S k m G st++g):=by
 refine stp hn fun n hn=>?_
 refine Iu (md hn rfl) GS L q0 q1 ?_
 refine Ap (fun e=>?_) fun e=>?_
 ·rw[e]at h
  exact TT (md hn rfl) GS L q0 q1 hr h
 ·rw[e]at h
  exact aA (md hn rfl) GS L h
theorem Eu{Q:Ae}(hn:1<=n)(h:Q (.int (Ah v)) μ):CG n hd 20 [.int v] Q X μ:=by
 induction n using Nat.casesOn with
 |zero=>exact absurd hn (by decide)
 |succ n=>exact h
theorem KO{Q:Ae}(hn:1<=n)(h:Q (.int (mo v)) μ):CG n hd 21 [.int v] Q X μ:=by
 induction n using Nat.casesOn with
 |zero=>exact absurd hn (by decide)
 |succ n=>exact h
theorem EY{Q:Ae}(hn:1<=n)(h:Q (.int (Bt v)) μ):CG n hd 22 [.int v] Q X μ:=by
 induction n using Nat.casesOn with
 |zero=>exact absurd hn (by decide)
 |succ n=>exact h
theorem Lb{Q:Ae}(hn:5<=n)(GS:G.mh)(L:st.oj G)(q0:0<=Ax st st.side)(q1:Ax st st.side<G.size)(M:B0 G v)
  (h:Q (.bool (Bs G st pin v)) (B S k m G st++g)):CG n hd 210 [.l8 54,.int v,.int pin] Q X (B S k m G st++g):=by
 refine stp hn fun n hn=>?_
 unfold Bs at h
 refine EY (md hn rfl) ?_
 rcases M.sp with e|e
 all_goals
  refine e.symm▸?_
  refine Eu (md hn rfl) ?_
  refine KO (md hn rfl) ?_
  refine Hi (md hn rfl) GS L ?_
  refine Ap (fun e=>?_) fun e=>?_
  ·replace h:=e▸h
   refine Ag rfl ?_
   refine Ag rfl ?_
   refine Aj (gG q0) ?_
   refine Aj (gG (gS q1 (kQ GS.top (by decide)))) ?_
   conv=>whnf
   rw[Ge]
   refine Jo (md hn rfl) GS M.t0 M.t1 ?_
   exact h
  ·rw[e]at h
   refine Aj (gG M.f0) ?_
   refine Ap (fun e=>?_) fun e=>?_
   ·have e:(Am (pin.fdiv (2 ^ (Ah v).toNat)) 1==0)=true:=e
    rw[e]at h;exact h
   ·have e:(Am (pin.fdiv (2 ^ (Ah v).toNat)) 1==0)=false:=e
    rw[e]at h
    exact ar (md hn rfl) GS M.f0 M.f1 M.t0 q0 h
end
noncomputable def Cq(G:mi)(st:St):List Int:=match Bo G st st.side with|true=>oJ G st|false=>LY G st
noncomputable def Ay(G:mi)(st:St):List Int:=(Cq G st).filter (Bs G st (C9 G st st.side))
section
variable{S:List Int}{k:Int}{m:Nat}{G:mi}{st:St}{g:MH}{n:Nat}{hd:Bool}{X:As}{μ:MH}
theorem A5{l:List Int}(h:g[j]?=some (il l)):(B S k m G st++g)[j+61]?=some (.list (l.map .int)):=h
noncomputable def keB:MS:=fb (mY 2 Gv)
theorem XF{Q:Au}{XS:List Int}(hn:5<=n)(GS:G.mh)(LO:st.oj G)(q0:0<=Ax st st.side)(q1:Ax st st.side<G.size)(ij:j≠i)(L:List Int):∀(_:∀v∈L,B0 G v) (g:MH) (xs:List Int) (env:An),g[i]?=some (il XS)->g[j]?=some (il xs)->xs.length+L.length<90000->
  env 102=some (.l8 54)->env 208=some (.int pin)->env 31=some (.l8 (j+61))->
  (∀env',env' 31=some (.l8 (j+61))->Q .next env' (B S k m G st++g.set j (il (xs++L.filter (Bs G st pin)))))->
  BA (some (i+61,XS.map .int)) (fun v K env' μ'=>opt (AC [19] true v env') fun e=>ws l9 (Ak l9 prog n) hd keB K X e μ') (L.map .int) Q env (B S k m G st++g):=by
 induction L with
 |nil=>
  intro _ g xs env hi hj hl e1 e2 e3 h
  have h:=h env e3
  rw[li,gK,Bj hj]at h
  exact⟨hi,h⟩
 |cons v L ih=>
  intro hL g xs env hi hj hl e1 e2 e3 h
  have hv:=hL v gR
  have oW:∀v∈L,B0 G v:=fun s hs=>hL s (gH _ hs)
  rw[gY]at hl
  refine⟨hi,?_⟩
  refine Ab e1 ?_
  refine Ab e2 ?_
  refine Lb hn GS LO q0 q1 hv ?_
  refine Ap (fun e=>?_) fun e=>?_
  ·rw[jl e]at h
   refine Ab e3 ?_
   refine Dh hj ?_
   refine Ab (DA hj) ?_
   refine Aj (room (hH (hY _ _) (iB hl (by decide)))) ?_
   rw[Fg]
   refine ih oW (g.set j (il (xs++[v]))) (xs++[v]) _ (by rw[hG ij];exact hi) (AK hj) (by rw[gF];show _+1+_<_;exact S7 hl) e1 e2 e3 fun env' a=>?_
   have h:=h env' a
   rw[ig,gB]
   exact h
  ·rw[jm (by rw[e];exact iT)]at h
   exact ih oW g xs _ hi hj (by exact YF hl) e1 e2 e3 h
theorem aD{Q:Ae}{L:List Int}(hn:7<=n)(GS:G.mh)(LO:st.oj G)(q0:0<=Ax st st.side)(q1:Ax st st.side<G.size)(hL:∀v∈L,B0 G v)(hi:g[i]?=some (il L))(hl:L.length<80000)
  (h:∀e j,(g++e)[j]?=some (il (L.filter (Bs G st (C9 G st st.side))))->Q (.l8 (j+61)) (B S k m G st++(g++e))):CG n hd 215 [.l8 54,.l8 (i+61)] Q X (B S k m G st++g):=by
 refine stp hn fun n hn=>?_
 refine NX (md hn rfl) GS LO q0 q1 ?_
 intro e
 refine Ab (a:=(L.map .int,some (i+61,L.map .int))) ?_ ?_
 ·rw[gB (B S k m G st)]
  exact Bc (Ac (Ac hi e) _)
 refine A0 ?_
 refine XF (j:=(g++e).length) (i:=i) (pin:=C9 G st st.side) (md hn rfl) GS LO q0 q1 (iQ (BY (Ac hi e))) L hL ((g++e)++[il []]) [] _ (Ac (Ac hi e) _) gD (by show 0+_<_;exact YG hl) ?_ ?_ ?_ fun env' a=>?_
 any_goals rfl
 refine Ab a ?_
 rw[hU _ _ (gM _),iI,gB]
 refine h _ _ ?_
 rw[<- gB]
 exact gD
theorem Fr{Q:Ae}(hn:11<=n)(GS:G.mh)(LO:st.oj G)(q0:0<=Ax st st.side)(q1:Ax st st.side<G.size)(hr:∀a b,Bd G (AW G a b))(hL:∀v∈Cq G st,B0 G v)(hl:(Cq G st).length<80000)
  (h:∀e j,(g++e)[j]?=some (il (Ay G st))->Q (.l8 (j+61)) (B S k m G st++(g++e))):CG n hd 216 [.l8 54] Q X (B S k m G st++g):=by
 refine stp hn fun n hn=>?_
 refine T0 (md hn rfl) GS LO q0 q1 hr ?_
 intro e
 have hi:(g++[il (Cq G st)])[g.length]?=some (il (Cq G st)):=gD
 refine aD (md hn rfl) GS LO q0 q1 hL (Ac hi e) hl ?_
 intro e' j hj
 rw[gB,gB]at hj ⊢
 exact h _ _ hj
end
theorem UJ(h:μ[n]?=some (.list xs)):C6 μ (.l8 n)=some (xs,some (n,xs)):=by
 show(By μ n).map _=_
 rw[CP h];rfl
section
variable{S:List Int}{k:Int}{m:Nat}{G:mi}{st:St}{g:MH}{n:Nat}{hd:Bool}{X:As}{μ:MH}
noncomputable def haB:MS:=fb (mY 0 (fb (mY 2 D5)))
theorem Xy{Q:Au}{XS:List Int}(hn:5<=n)(GS:G.mh)(LO:st.oj G)(q0:0<=Ax st st.side)(q1:Ax st st.side<G.size)(hi:g[i]?=some (il XS))(L:List Int):∀(_:∀v∈L,B0 G v) (env:An),
  env 102=some (.l8 54)->env 208=some (.int pin)->
  (∀env',match L.any (Bs G st pin)with|true=>Q (.ret (.bool true)) env' (B S k m G st++g)|false=>Q .next env' (B S k m G st++g))->
  BA (some (i+61,XS.map .int)) (fun v K env' μ'=>opt (AC [19] true v env') fun e=>ws l9 (Ak l9 prog n) hd haB K X e μ') (L.map .int) Q env (B S k m G st++g):=by
 induction L with
 |nil=>intro _ env e1 e2 h;exact⟨hi,h env⟩
 |cons v L ih=>
  intro hL env e1 e2 h
  have hv:=hL v gR
  refine⟨hi,?_⟩
  refine Ab e1 ?_
  refine Ab e2 ?_
  refine Lb hn GS LO q0 q1 hv ?_
  rw[ly]at h
  refine Ap (fun e=>?_) fun e=>?_
  ·rw[e]at h;exact h _
  ·rw[e,iM]at h
   exact ih (fun s hs=>hL s (gH _ hs)) _ e1 e2 h
theorem dU{Q:Ae}(hn:10<=n)(GS:G.mh)(LO:st.oj G)(q0:0<=Ax st st.side)(q1:Ax st st.side<G.size)(hr:∀a b,Bd G (AW G a b))(hL:∀v∈oJ G st,B0 G v)(hc:Bo G st st.side=true)
  (h:∀e,Q (.bool ((oJ G st).any (Bs G st (C9 G st st.side)))) (B S k m G st++(g++e))):CG n hd 218 [.l8 54] Q X (B S k m G st++g):=by
 refine stp hn fun n hn=>?_
 refine Iu (md hn rfl) GS LO q0 q1 ?_
 refine hc.symm▸?_
 conv=>whnf
 refine NX (md hn rfl) GS LO q0 q1 ?_
 intro e
 have h1:((g++[MO.list [.int 3]])++e)[g.length]?=some (.list [.int 3]):=Ac gD e
 refine Ab (a:=([.int 3],some (g.length+61,[.int 3]))) (UJ (μ:=B S k m G st++(g++[MO.list [.int 3]]++e)) (n:=g.length+61) h1) ?_
 refine A0 ?_
 refine⟨h1,?_⟩
 refine TT (md hn rfl) GS LO q0 q1 hr ?_
 intro e'
 have hi:((g++[MO.list [.int 3]])++e++[il (oJ G st)]++e')[((g++[MO.list [.int 3]])++e).length]?=some (il (oJ G st)):=Ac gD e'
 refine Ab (Bc hi) ?_
 refine A0 ?_
 have h2:=h ([MO.list [.int 3]]++(e++([il (oJ G st)]++e')))
 refine Xy (pin:=C9 G st st.side) (md hn rfl) GS LO q0 q1 hi (oJ G st) hL _ ?_ ?_ fun env'=>?_
 any_goals rfl
 revert h2
 cases(oJ G st).any (Bs G st (C9 G st st.side)) with
 |true=>
  intro h2
  rw[gB,gB,gB]
  exact h2
 |false=>
  intro h2
  refine⟨Ac (Ac h1 _) _,?_⟩
  rw[gB,gB,gB]
  exact h2
end
noncomputable def pc(c:Bool)(kd:Nat):Int:=sd c*8+kd
noncomputable def St.nQ(st:St)(kd:Nat)(v:Int):St:=match kd with
 |0=>{st with k0:=v}|1=>{st with k1:=v}|2=>{st with k2:=v}|3=>{st with k3:=v}|4=>{st with k4:=v}|5=>{st with k5:=v}|_=>{st with k6:=v}
noncomputable def St.setB(st:St)(i:Nat)(p:Int):St:={st with board:=st.board.set i p}
noncomputable def St.nq(st:St)(v:Int):St:={st with key:=v}
noncomputable def St.n8(st:St)(c:Bool)(v:Int):St:=match c with
 |false=>{st with s0:=v}|true=>{st with s1:=v}
noncomputable def pn:Bool->Nat->Nat
 |false,kd=>kd
 |true,kd=>8+kd
noncomputable def zk(m:Nat)(c:Bool)(kd:Nat)(s:Int):Int:=((List.range m).map fun(s:Nat)=>pc c kd*64+(s:Int)+1).getD s.toNat 0
noncomputable def Bu(m:Nat)(st:St)(c:Bool)(kd:Nat)(s:Int):St:=
 let a:=st.setB s.toNat (pc c kd)
 let b:=a.nQ kd (bor (a.kd kd) (1*2 ^ s.toNat))
 let d:=b.n8 c (bor (b.si c) (1*2 ^ s.toNat))
 d.nq (Cv b.key (zk m c kd s))
noncomputable def BZ(m:Nat)(st:St)(c:Bool)(kd:Nat)(s:Int):St:=
 let a:=st.setB s.toNat 0
 let b:=a.nQ kd (Cv (a.kd kd) (1*2 ^ s.toNat))
 let d:=b.n8 c (Cv (b.si c) (1*2 ^ s.toNat))
 d.nq (Cv b.key (zk m c kd s))
noncomputable def DR(m:Nat)(st:St)(c:Bool)(kd:Nat)(x y:Int):St:=
 let a:=(st.setB x.toNat 0).setB y.toNat (pc c kd)
 let b:=a.nQ kd (Cv (a.kd kd) (bor (1*2 ^ x.toNat) (1*2 ^ y.toNat)))
 let d:=b.n8 c (Cv (b.si c) (bor (1*2 ^ x.toNat) (1*2 ^ y.toNat)))
 d.nq (Cv d.key (Cv (zk m c kd x) (zk m c kd y)))
section
variable{S:List Int}{k:Int}{m:Nat}{G:mi}{st:St}{g:MH}{n:Nat}{hd:Bool}{X:As}{μ:MH}
theorem Jr{Q:Ae}(hn:1<=n)(h:Q (.int (pc c kd)) μ):CG n hd 2 [.int (sd c),.int kd] Q X μ:=by
 refine stp hn fun n hn=>?_
 refine Aj (D1 (x:=sd c) (by induction c using Bool.casesOn<;>decide) (by induction c using Bool.casesOn<;>decide)) ?_
 exact h
theorem IH(c:Bool)(h:kd<8):Builtin.bitAnd (pc c kd) 7=kd:=by
 rcases(by lia:kd=0\/kd=1\/kd=2\/kd=3\/kd=4\/kd=5\/kd=6\/kd=7)with rfl|rfl|rfl|rfl|rfl|rfl|rfl|rfl<;>induction c<;>rfl
theorem M6(c:Bool)(h:kd<8):(pc c kd).fdiv (2 ^ 3)=sd c:=by
 rcases(by lia:kd=0\/kd=1\/kd=2\/kd=3\/kd=4\/kd=5\/kd=6\/kd=7)with rfl|rfl|rfl|rfl|rfl|rfl|rfl|rfl<;>induction c<;>rfl
theorem Eb{Q:Ae}{c:Bool}{kd:Nat}(hn:1<=n)(h8:kd<8)(h:Q (.int kd) μ):CG n hd 5 [.int (pc c kd)] Q X μ:=by
 refine stp hn fun n hn=>?_
 have e:=IH c h8
 replace h:=(e).symm▸h
 exact h
theorem Gx{Q:Ae}(hn:1<=n)(h8:kd<8)(h:Q (.int (sd c)) μ):CG n hd 4 [.int (pc c kd)] Q X μ:=by
 refine stp hn fun n hn=>?_
 have e:=M6 c h8
 replace h:=(e).symm▸h
 exact h
theorem Fq(hl:(st.board.length:Int)=G.size)(h:s<G.size):decide (s<((st.board.map V.int).length:Int))=true:=gG (by rw[g6,hl];exact h)
theorem Ey:(B S k m G st++g).set 56 (.list ((st.board.map .int).set i (.int p)))=B S k m G (st.setB i p)++g:=by
 rw[show(MO.list ((st.board.map V.int).set i (.int p)))=il (st.board.set i p) by unfold il;rw[List.map_set]];rfl
theorem Hx{a b c d e f g:Int}{kd:Nat}(h:kd<7):decide ((kd:Int)<(([a,b,c,d,e,f,g].map V.int).length:Int))=true:=gG (by show(kd:Int)<7;exact mO (mz _) (mw 0 1) (.num 7) (mw 0 1) (.num 7) rfl (Int.ofNat_lt.mpr h))
theorem F8{kd:Nat}{v:Int}(h:kd<7):(B S k m G st++g).set 58 (.list (([st.k0,st.k1,st.k2,st.k3,st.k4,st.k5,st.k6].map V.int).set (kd:Int).toNat (.int v)))=B S k m G (st.nQ kd v)++g:=by
 exact pY h rfl rfl rfl rfl rfl rfl rfl
theorem Ng(c:Bool):decide (0<=sd c)=true:=by cases c<;>rfl
theorem Nh(c:Bool):decide (sd c<(([a,b].map V.int).length:Int))=true:=by cases c<;>rfl
theorem F9:(B S k m G st++g).set 59 (.list (([st.s0,st.s1].map V.int).set (sd c).toNat (.int v)))=B S k m G (st.n8 c v)++g:=by induction c<;>rfl
theorem QM(c:Bool)(h:kd<7):B7 (B S k m G st++g) (.l8 2) (.int (pc c kd))=some (.l8 (3+pn c kd))/\(B S k m G st++g)[3+pn c kd]?=some (il ((List.range m).map fun(s:Nat)=>pc c kd*64+(s:Int)+1)):=by
 cases c
 ·exact pY h ⟨rfl,rfl⟩ ⟨rfl,rfl⟩ ⟨rfl,rfl⟩ ⟨rfl,rfl⟩ ⟨rfl,rfl⟩ ⟨rfl,rfl⟩ ⟨rfl,rfl⟩
 ·exact pY h ⟨rfl,rfl⟩ ⟨rfl,rfl⟩ ⟨rfl,rfl⟩ ⟨rfl,rfl⟩ ⟨rfl,rfl⟩ ⟨rfl,rfl⟩ ⟨rfl,rfl⟩
theorem Zv{f:Nat->Int}(hm:(m:Int)=G.size)(h:s<G.size):s<((((List.range m).map f).length:Nat):Int):=by rw[g6,j6,hm];exact h
theorem Lc{Q:Ae}(hn:2<=n)(h7:kd<7)(s0:0<=s)(s1:s<20)(tz:s<G.size)(hl:(st.board.length:Int)=G.size)(hm:(m:Int)=G.size)(h:Q .none (B S k m G (Bu m st c kd s)++g)) :
  CG n hd 111 [.l8 54,.int (pc c kd),.int s] Q X (B S k m G st++g):=by
 refine stp hn fun n hn=>?_
 refine Aj (gG s0) ?_
 refine Aj (gG (iU s1 (by decide))) ?_
 refine Aj (gG s0) ?_
 refine Aj (Fq hl tz) ?_
 rw[Ey]
 refine Eb (md hn rfl) (hJ h7) ?_
 refine Ag (IB h7) ?_
 refine Aj (Hx h7) ?_
 rw[F8 h7]
 refine Gx (md hn rfl) (hJ h7) ?_
 refine Ag (BH c) ?_
 refine Aj (Ng c) ?_
 refine Aj (Nh c) ?_
 conv=>whnf
 rw[F9]
 refine Ag (QM c h7).1 ?_
 refine AO (QM c h7).2 s0 (Zv hm tz) ?_
 exact h
theorem fS{st:St}:(st.setB i p).setB i q=st.setB i q:=by unfold St.setB;rw[ig]
theorem B1{s:Int}{K:V->Prop}(s0:0<=s)(hp:st.board[s.toNat]?=some p)(h:K (.int p)):@Option.rec V (fun _=>Prop) False (fun a=>K a) (OT (B S k m G st++g) (.l8 56) (.int s)):=by
 have hl:s.toNat<st.board.length:=by
  rcases i7 s.toNat st.board.length with c|c
  ·exact c
  ·exact AM (iz c) hp
 refine AO (xs:=st.board) rfl s0 (by lia) ?_
 (refine List.getD_eq_getElem?_getD.symm▸?_;refine hp.symm▸?_);exact h
theorem Mf{Q:Ae}{s:Int}(hn:2<=n)(h7:kd<7)(s0:0<=s)(s1:s<20)(tz:s<G.size)(hl:(st.board.length:Int)=G.size)(hm:(m:Int)=G.size)(hp:st.board[s.toNat]?=some (pc c kd))(h:Q (.int (pc c kd)) (B S k m G (BZ m st c kd s)++g)) :
  CG n hd 112 [.l8 54,.int s] Q X (B S k m G st++g):=by
 refine stp hn fun n hn=>?_
 refine B1 s0 hp ?_
 refine Aj (gG s0) ?_
 refine Aj (gG (iU s1 (by decide))) ?_
 refine Aj (gG s0) ?_
 refine Aj (Fq hl tz) ?_
 rw[Ey]
 refine Eb (md hn rfl) (hJ h7) ?_
 refine Ag (IB h7) ?_
 refine Aj (Hx h7) ?_
 rw[F8 h7]
 refine Gx (md hn rfl) (hJ h7) ?_
 refine Ag (BH c) ?_
 refine Aj (Ng c) ?_
 refine Aj (Nh c) ?_
 conv=>whnf
 rw[F9]
 refine Ag (QM c h7).1 ?_
 refine AO (QM c h7).2 s0 (Zv hm tz) ?_
 exact h
theorem QY{Q:Ae}{a:Int}(hn:2<=n)(h7:kd<7)(a0:0<=a)(a1:a<20)(a1':a<G.size)(b0:0<=b)(b1:b<20)(b1':b<G.size)(hl:(st.board.length:Int)=G.size)(hm:(m:Int)=G.size)(hp:st.board[a.toNat]?=some (pc c kd))(h:Q .none (B S k m G (DR m st c kd a b)++g)) :
  CG n hd 115 [.l8 54,.int a,.int b] Q X (B S k m G st++g):=by
 refine stp hn fun n hn=>?_
 refine B1 a0 hp ?_
 refine Aj (gG a0) ?_
 refine Aj (gG (iU a1 (by decide))) ?_
 refine Aj (gG b0) ?_
 refine Aj (gG (iU b1 (by decide))) ?_
 refine Aj (gG a0) ?_
 refine Aj (Fq hl a1') ?_
 rw[Ey]
 refine Aj (gG b0) ?_
 refine Aj (Fq (st:=st.setB a.toNat 0) (by refine(show(st.setB a.toNat 0).board.length=st.board.length from jQ).symm▸?_;exact hl) b1') ?_
 rw[Ey]
 refine Eb (md hn rfl) (hJ h7) ?_
 refine Ag (IB h7) ?_
 refine Aj (Hx h7) ?_
 rw[F8 h7]
 refine Gx (md hn rfl) (hJ h7) ?_
 refine Ag (BH c) ?_
 refine Aj (Ng c) ?_
 refine Aj (Nh c) ?_
 conv=>whnf
 rw[F9]
 refine Ag (QM c h7).1 ?_
 refine AO (QM c h7).2 a0 (Zv hm a1') ?_
 refine AO (QM c h7).2 b0 (Zv hm b1') ?_
 exact h
end
theorem Zt(a b:Nat):Cv (a:Int) (b:Int)=(((a||| b) - (a&&& b):Nat):Int):=by
 have q:Builtin.bitOr (a:Int) (b:Int)=((a||| b:Nat):Int):=Gj fun k=>by rw[DE];show _=(a||| b).testBit k;rw[jF];rfl
 show Builtin.bitOr (a:Int) (b:Int) - ((a&&& b:Nat):Int)=_
 refine q.symm▸?_
 have:a&&& b<=a:=jf
 have:a<=a||| b:=Nat.left_le_or
 lia
theorem Kq(hx:0<=x)(hy:0<=y)(k:Nat):tb (Cv x y) k=(tb x k ^^ tb y k):=by
 obtain⟨a,rfl⟩:=gJ hx
 obtain⟨b,rfl⟩:=gJ hy
 rw[Zt]
 show((a||| b) - (a&&& b)).testBit k=(a.testBit k ^^ b.testBit k)
 have e:a&&& b=(a||| b)&&& (a&&& b):=jM fun k=>by
  rw[je,je,jF,je]
  cases a.testBit k<;>cases b.testBit k<;>rfl
 (refine e.symm▸?_;rewrite[RT];rewrite[jF];rewrite[je])
 cases a.testBit k<;>cases b.testBit k<;>rfl
theorem HJ(s:Int)(k:Nat):tb (1*2 ^ s.toNat) k=decide (s.toNat=k):=by
 rw[Int.one_mul]
 show(2 ^ s.toNat).testBit k=_
 exact Nat.testBit_two_pow
theorem It(s:Int):0<=(1:Int)*2 ^ s.toNat:=by rw[Int.one_mul];exact jn (jJ (by decide))
theorem ZB(h:∀k,n<=k->tb x k=false):0<=x/\x<2 ^ n:=by
 induction x with
 |ofNat a=>
  refine⟨gW a,?_⟩
  have:a<2 ^ n:=Nat.lt_pow_two_of_testBit a fun k hk=>h k hk
  exact Int.ofNat_lt.mpr this
 |negSucc a=>
  have h1:=h (n+a) (hY _ _)
  have h2:a.testBit (n+a)=false:=i8 (hM kI (iF (by decide) (jp _ _)))
  have h1:(!a.testBit (n+a))=false:=h1
  replace h1:=h2▸h1;exact FT h1
noncomputable def Oi(p:Int)(kd:Nat):Bool:=p != 0&&Builtin.bitAnd p 7==(kd:Int)
noncomputable def PO(p:Int)(c:Bool):Bool:=p != 0&&p.fdiv (2 ^ 3)==sd c
noncomputable def AB(b:List Int)(k:Nat):Int:=b.getD k 0
theorem CY{b:List Int}(h:i<b.length)(k:Nat):AB (b.set i p) k=if i=k then p else AB b k:=by
 unfold AB
 rw[g7,j7]
 split
 ·rfl
 ·rfl
theorem Eo(c:Bool)(h:1<=kd):pc c kd≠0:=by unfold pc;induction c<;>simp only[sd]<;>lia
theorem Cl(c:Bool)(h:1<=kd)(h7:kd<7)(q:Nat):Oi (pc c kd) q=decide (kd=q):=by
 unfold Oi
 rw[bne_iff_ne.mpr (Eo c h),IH c (by exact YH h7)]
 rw[jT];simp;lia
theorem Cm(c:Bool)(h:1<=kd)(h7:kd<7)(q:Bool):PO (pc c kd) q=decide (c=q):=by
 unfold PO
 (refine(bne_iff_ne.mpr (Eo c h)).symm▸?_;rewrite[M6 c (by exact YH h7)])
 induction c using Bool.casesOn<;>induction q using Bool.casesOn<;>rfl
structure mM(G:mi)(st:St):Prop where
 len:(st.board.length:Int)=G.size
 rT:∀k,AB st.board k=0\/∃c kd,1<=kd/\kd<7/\AB st.board k=pc c kd
 kb:∀kd,1<=kd->kd<7->∀k,tb (st.kd kd) k=Oi (AB st.board k) kd
 sb:∀c k,tb (st.si c) k=PO (AB st.board k) c
 k0:st.k0=0
theorem OO{b:List Int}(h:b.length<=k):AB b k=0:=by unfold AB;rw[g7,iz h];rfl
theorem Ct{b:List Int}(h:k<b.length):b[k]?=some (AB b k):=by unfold AB;rw[g7,g8 h];rfl
theorem mM.bdK{st:St}(C:mM G st)(h:1<=kd)(h7:kd<7):Bd G (st.kd kd):=ZB fun k hk=>by
 have:=C.len
 rw[C.kb kd h h7,OO (by lia)];rfl
theorem mM.pQ{st:St}(C:mM G st)(c:Bool):Bd G (st.si c):=ZB fun k hk=>by
 have:=C.len
 rw[C.sb c,OO (by lia)];rfl
theorem mM.low{st:St}(C:mM G st):st.oj G:=⟨C.pQ false,C.pQ true⟩
theorem Y1(st:St)(v:Int)(ha:a<7)(hb:b<7):(st.nQ a v).kd b=if a=b then v else st.kd b:=by
 exact pY ha (pY hb rfl rfl rfl rfl rfl rfl rfl) (pY hb rfl rfl rfl rfl rfl rfl rfl) (pY hb rfl rfl rfl rfl rfl rfl rfl) (pY hb rfl rfl rfl rfl rfl rfl rfl) (pY hb rfl rfl rfl rfl rfl rfl rfl) (pY hb rfl rfl rfl rfl rfl rfl rfl) (pY hb rfl rfl rfl rfl rfl rfl rfl)
theorem IK(st:St)(a:Nat)(v:Int)(c:Bool):(st.nQ a v).si c=st.si c:=by
 rcases a with _|_|_|_|_|_|_<;>induction c<;>rfl
theorem Qq(st:St)(a:Nat)(v:Int):(st.nQ a v).board=st.board:=by rcases a with _|_|_|_|_|_|_<;>rfl
theorem Y0(st:St)(v:Int)(h:1<=a):(st.nQ a v).k0=st.k0:=by
 rcases a with _|_|_|_|_|_|_<;>first|rfl|exact absurd h (by decide)
theorem Y4(st:St)(c:Bool)(v:Int)(d:Bool):(st.n8 c v).si d=if c=d then v else st.si d:=by induction c using Bool.casesOn<;>induction d using Bool.casesOn<;>rfl
theorem Y3(st:St)(c:Bool)(v:Int)(a:Nat):(st.n8 c v).kd a=st.kd a:=by cases c<;>rfl
theorem Qr(st:St)(c:Bool)(v:Int):(st.n8 c v).board=st.board:=by cases c<;>rfl
theorem Y2(st:St)(c:Bool)(v:Int):(st.n8 c v).k0=st.k0:=by cases c<;>rfl
structure Upd(st nu:St)(b:List Int)(c:Bool)(kd:Nat)(vk vs:Int):Prop where
 board:nu.board=b
 kd:∀q,q<7->nu.kd q=if kd=q then vk else st.kd q
 si:∀d,nu.si d=if c=d then vs else st.si d
 k0:nu.k0=st.k0
theorem QI{st:St}{b:List Int}{c:Bool}{kd:Nat}{vk vs:Int}{f:St->St}(h1:1<=kd)(h7:kd<7)(hf:∀s,(f s).board=s.board/\(∀q,(f s).kd q=s.kd q)/\(∀d,(f s).si d=s.si d)/\(f s).k0=s.k0) :
  Upd st (f ((({st with board:=b}:St).nQ kd vk).n8 c vs)) b c kd vk vs:=by
 have a1:=(hf ((({st with board:=b}:St).nQ kd vk).n8 c vs)).1;have a2:=(hf ((({st with board:=b}:St).nQ kd vk).n8 c vs)).2.1;have a3:=(hf ((({st with board:=b}:St).nQ kd vk).n8 c vs)).2.2.1;have a4:=(hf ((({st with board:=b}:St).nQ kd vk).n8 c vs)).2.2.2
 refine⟨?_,fun q hq=>?_,fun d=>?_,?_⟩
 ·rw[a1,Qr,Qq]
 ·rw[a2,Y3,Y1 _ _ h7 hq];rfl
 ·rw[a3,Y4,IK];rfl
 ·rw[a4,Y2,Y0 _ _ h1]
theorem JQ(v:St->Int):∀s:St,(s.nq (v s)).board=s.board/\(∀q,(s.nq (v s)).kd q=s.kd q)/\(∀d,(s.nq (v s)).si d=s.si d)/\(s.nq (v s)).k0=s.k0:=fun s=>⟨rfl,fun q=>rfl,fun d=>by cases d<;>rfl,rfl⟩
theorem RH(m:Nat)(st:St)(c:Bool){kd:Nat}(s:Int)(h1:1<=kd)(h7:kd<7):Upd st (Bu m st c kd s) (st.board.set s.toNat (pc c kd)) c kd (bor (st.kd kd) (1*2 ^ s.toNat)) (bor (st.si c) (1*2 ^ s.toNat)):=by
 have e:=QI (st:=st) (b:=st.board.set s.toNat (pc c kd)) (c:=c) (vk:=bor (st.kd kd) (1*2 ^ s.toNat)) (vs:=bor (st.si c) (1*2 ^ s.toNat)) h1 h7 (f:=fun z=>z.nq (Cv (((st.setB s.toNat (pc c kd)).nQ kd (bor (st.kd kd) (1*2 ^ s.toNat))).key) (zk m c kd s))) (JQ fun _=>_)
 unfold Bu
 dsimp only
 rw[IK]
 exact e
theorem OW(m:Nat)(st:St)(c:Bool){kd:Nat}(s:Int)(h1:1<=kd)(h7:kd<7):Upd st (BZ m st c kd s) (st.board.set s.toNat 0) c kd (Cv (st.kd kd) (1*2 ^ s.toNat)) (Cv (st.si c) (1*2 ^ s.toNat)):=by
 have e:=QI (st:=st) (b:=st.board.set s.toNat 0) (c:=c) (vk:=Cv (st.kd kd) (1*2 ^ s.toNat)) (vs:=Cv (st.si c) (1*2 ^ s.toNat)) h1 h7 (f:=fun z=>z.nq (Cv (((st.setB s.toNat 0).nQ kd (Cv (st.kd kd) (1*2 ^ s.toNat))).key) (zk m c kd s))) (JQ fun _=>_)
 unfold BZ
 dsimp only
 rw[IK]
 exact e
theorem LN(m:Nat)(st:St)(c:Bool){kd:Nat}(x y:Int)(h1:1<=kd)(h7:kd<7):Upd st (DR m st c kd x y) ((st.board.set x.toNat 0).set y.toNat (pc c kd)) c kd (Cv (st.kd kd) (bor (1*2 ^ x.toNat) (1*2 ^ y.toNat))) (Cv (st.si c) (bor (1*2 ^ x.toNat) (1*2 ^ y.toNat))):=by
 have e:=QI (st:=st) (b:=(st.board.set x.toNat 0).set y.toNat (pc c kd)) (c:=c) (vk:=Cv (st.kd kd) (bor (1*2 ^ x.toNat) (1*2 ^ y.toNat))) (vs:=Cv (st.si c) (bor (1*2 ^ x.toNat) (1*2 ^ y.toNat))) h1 h7 (f:=fun z=>z.nq (Cv z.key (Cv (zk m c kd x) (zk m c kd y)))) (JQ fun _=>_)
 unfold DR
 dsimp only
 rw[IK]
 exact e
theorem Upd.con{G:mi}{st nu:St}{b:List Int}{c:Bool}{kd:Nat}{vk vs:Int}(U:Upd st nu b c kd vk vs)(C:mM G st)(h1:1<=kd)(h7:kd<7)(hb:b.length=st.board.length)
  (hm:∀k,AB b k=0\/∃c kd,1<=kd/\kd<7/\AB b k=pc c kd)
  (hk:∀k,tb vk k=Oi (AB b k) kd) (ho:∀q k,kd≠q->1<=q->Oi (AB b k) q=Oi (AB st.board k) q)
  (hs:∀k,tb vs k=PO (AB b k) c) (hd:∀d k,c≠d->PO (AB b k) d=PO (AB st.board k) d):mM G nu:=by
 refine⟨?_,?_,?_,?_,?_⟩
 ·(refine U.board.symm▸?_;refine hb.symm▸?_);exact C.len
 ·refine U.board.symm▸?_;exact hm
 ·intro q q1 q7 k
  rw[U.board,U.kd q q7]
  by_cases e:kd=q
  ·subst e;refine(iP rfl).symm▸?_;exact hk k
  ·rw[iO e,ho q k e q1];exact C.kb q q1 q7 k
 ·intro d k
  rw[U.board,U.si d]
  by_cases e:c=d
  ·subst e;rw[iP rfl];exact hs k
  ·rw[iO e,hd d k e];exact C.sb d k
 ·exact U.k0.trans (C.k0)
theorem dE(q:Nat):Oi 0 q=false:=rfl
theorem dF(q:Bool):PO 0 q=false:=rfl
theorem A4{G:mi}{st:St}(C:mM G st){s:Int}(s0:0<=s)(s1:s<G.size):s.toNat<st.board.length:=by have:=C.len;lia
theorem mM.put{G:mi}{st:St}{m:Nat}{c:Bool}{kd:Nat}{s:Int}(C:mM G st)(h1:1<=kd)(h7:kd<7)(s0:0<=s)(s1:s<G.size)(he:AB st.board s.toNat=0):mM G (Bu m st c kd s):=by
 have hb:=A4 C s0 s1
 have sq:=CY (p:=pc c kd) hb
 refine(RH m st c s h1 h7).con C h1 h7 (jQ) (fun k=>?_) (fun k=>?_) (fun q k e q1=>?_) (fun k=>?_) (fun d k e=>?_)
 ·rw[sq]
  split
  ·exact .inr ⟨c,kd,h1,h7,rfl⟩
  ·exact C.rT k
 ·show tb (Builtin.bitOr _ _) k=_
  rw[DE,HJ,C.kb kd h1 h7,sq]
  by_cases z:s.toNat=k
  ·rw[iP z,Cl c h1 h7,gG z];simp
  ·rw[iO z,gZ z,jB]
 ·rw[sq]
  by_cases z:s.toNat=k
  ·rw[iP z,<- z,he,Cl c h1 h7,gZ e];rfl
  ·rw[iO z]
 ·show tb (Builtin.bitOr _ _) k=_
  rw[DE,HJ,C.sb c,sq]
  by_cases z:s.toNat=k
  ·rw[iP z,Cm c h1 h7,gG z];simp
  ·rw[iO z,gZ z,jB]
 ·rw[sq]
  by_cases z:s.toNat=k
  ·(rewrite[iP z];refine z▸?_;rewrite[he];rewrite[Cm c h1 h7];rewrite[gZ e]);rfl
  ·rw[iO z]
theorem mM.take{G:mi}{st:St}{s:Int}(C:mM G st)(h1:1<=kd)(h7:kd<7)(s0:0<=s)(s1:s<G.size)(he:AB st.board s.toNat=pc c kd):mM G (BZ m st c kd s):=by
 have hb:=A4 C s0 s1
 have sq:=CY (p:=0) hb
 refine(OW m st c s h1 h7).con C h1 h7 (jQ) (fun k=>?_) (fun k=>?_) (fun q k e q1=>?_) (fun k=>?_) (fun d k e=>?_)
 ·rw[sq]
  split
  ·exact .inl rfl
  ·exact C.rT k
 ·rw[Kq (C.bdK h1 h7).1 (It s),HJ,C.kb kd h1 h7,sq]
  by_cases z:s.toNat=k
  ·rw[iP z,<- z,he,Cl c h1 h7,gG rfl,gG rfl];rfl
  ·rw[iO z,gZ z,kF]
 ·rw[sq]
  by_cases z:s.toNat=k
  ·rw[iP z,<- z,he,Cl c h1 h7,gZ e];rfl
  ·rw[iO z]
 ·rw[Kq (C.pQ c).1 (It s),HJ,C.sb c,sq]
  by_cases z:s.toNat=k
  ·rw[iP z,<- z,he,Cm c h1 h7,gG rfl,gG rfl];rfl
  ·rw[iO z,gZ z,kF]
 ·rw[sq]
  by_cases z:s.toNat=k
  ·(rewrite[iP z];refine z▸?_;rewrite[he];rewrite[Cm c h1 h7];rewrite[gZ e]);rfl
  ·rw[iO z]
theorem Vz(hx:0<=x)(hy:0<=y):0<=bor x y:=by
 obtain⟨a,rfl⟩:=gJ hx
 obtain⟨b,rfl⟩:=gJ hy
 have q:bor (a:Int) (b:Int)=((a||| b:Nat):Int):=Gj fun k=>by
  show tb (Builtin.bitOr _ _) k=(a||| b).testBit k
  rw[DE,jF];rfl
 refine q.symm▸?_;exact gW _
theorem mM.shift{G:mi}{st:St}{x y:Int}(C:mM G st)(h1:1<=kd)(h7:kd<7)(x0:0<=x)(x1:x<G.size)(y0:0<=y)(y1:y<G.size)(hx:AB st.board x.toNat=pc c kd)(hy:AB st.board y.toNat=0):mM G (DR m st c kd x y):=by
 have hb:=A4 C x0 x1
 have uC:y.toNat<(st.board.set x.toNat 0).length:=by rw[jQ];exact A4 C y0 y1
 have ne:x.toNat≠y.toNat:=fun e=>Eo c h1 (by(refine hx▸?_;refine e.symm▸?_;refine hy.symm▸?_;rfl))
 have sq:∀k,AB ((st.board.set x.toNat 0).set y.toNat (pc c kd)) k=if y.toNat=k then pc c kd else if x.toNat=k then 0 else AB st.board k:=fun k=>by rw[CY uC,CY hb]
 have nn:0<=bor (1*2 ^ x.toNat) (1*2 ^ y.toNat):=Vz (It x) (It y)
 have tt:∀k,tb (bor (1*2 ^ x.toNat) (1*2 ^ y.toNat)) k=(decide (x.toNat=k)||decide (y.toNat=k)):=fun k=>by
  show tb (Builtin.bitOr _ _) k=_
  rw[DE,HJ,HJ]
 refine(LN m st c x y h1 h7).con C h1 h7 (by(refine List.length_set.symm▸?_;refine List.length_set.symm▸?_;rfl)) (fun k=>?_) (fun k=>?_) (fun q k e q1=>?_) (fun k=>?_) (fun d k e=>?_)
 ·rw[sq]
  split
  ·exact .inr ⟨c,kd,h1,h7,rfl⟩
  ·split
   ·exact .inl rfl
   ·exact C.rT k
 ·rw[Kq (C.bdK h1 h7).1 nn,tt,C.kb kd h1 h7,sq]
  by_cases z:y.toNat=k
  ·rw[iP z,<- z,hy,Cl c h1 h7,gZ ne,gG rfl,gG rfl];rfl
  ·rw[iO z,gZ z,jB]
   by_cases z2:x.toNat=k
   ·rw[iP z2,<- z2,hx,Cl c h1 h7,gG rfl,gG rfl];rfl
   ·rw[iO z2,gZ z2,kF]
 ·rw[sq]
  by_cases z:y.toNat=k
  ·rw[iP z,<- z,hy,Cl c h1 h7,gZ e];rfl
  ·rw[iO z]
   by_cases z2:x.toNat=k
   ·rw[iP z2,<- z2,hx,Cl c h1 h7,gZ e];rfl
   ·rw[iO z2]
 ·rw[Kq (C.pQ c).1 nn,tt,C.sb c,sq]
  by_cases z:y.toNat=k
  ·rw[iP z,<- z,hy,Cm c h1 h7,gZ ne,gG rfl,gG rfl];rfl
  ·rw[iO z,gZ z,jB]
   by_cases z2:x.toNat=k
   ·rw[iP z2,<- z2,hx,Cm c h1 h7,gG rfl,gG rfl];rfl
   ·rw[iO z2,gZ z2,kF]
 ·rw[sq]
  by_cases z:y.toNat=k
  ·rw[iP z,<- z,hy,Cm c h1 h7,gZ e];rfl
  ·rw[iO z]
   by_cases z2:x.toNat=k
   ·(rewrite[iP z2];refine z2▸?_;rewrite[hx];rewrite[Cm c h1 h7];rewrite[gZ e]);rfl
   ·rw[iO z2]
theorem mM.uniq{a b:St}(A:mM G a)(B:mM G b)(e:a.board=b.board):(∀kd,kd<7->a.kd kd=b.kd kd)/\∀c,a.si c=b.si c:=by
 refine⟨fun kd h7=>?_,fun c=>Gj fun k=>by rw[A.sb,B.sb,e]⟩
 rcases Nat.eq_zero_or_pos kd with z|z
 ·subst z;exact A.k0.trans B.k0.symm
 ·exact Gj fun k=>by rw[A.kb kd z h7,B.kb kd z h7,e]
noncomputable def ri:Option (Bool×Nat)->Int
 |none=>0
 |some (c,q)=>pc c q
structure Mv(G:mi)(st:St)(v:Int)(kd:Nat)(tk:Option (Bool×Nat)):Prop where
 M:B0 G v
 k1:1<=kd
 k7:kd<7
 src:AB st.board (Ah v).toNat=pc st.side kd
 dst:AB st.board (mo v).toNat=ri tk
 mZ:∀c q,tk=some (c,q)->1<=q/\q<7
 ne:Ah v≠mo v
 qt:kd=1->mo v - Ah v≠8/\Ah v - mo v≠8
 oy:Bt v=1->kd=1/\∃p:Nat,2<=p/\p<=5/\Af v=p
noncomputable def Du(st:St)(v:Int)(tk:Option (Bool×Nat)):St:={st with hist:=st.hist++[.tup [.int v,.int (ri tk),.int 0,.int (-1),.int st.half,.int st.key]],half:=st.half+1}
noncomputable def Lm(st:St):St:={st with half:=0}
noncomputable def BS(m:Nat)(st:St)(t:Int):Option (Bool×Nat)->St
 |none=>st
 |some (c,q)=>Lm (BZ m st c q t)
noncomputable def BG(m:Nat)(st:St)(kd:Nat)(v:Int):St:=match Bt v==1 with
 |true=>Bu m (BZ m st st.side 1 (Ah v)) st.side (Af v).toNat (mo v)
 |false=>DR m st st.side kd (Ah v) (mo v)
noncomputable def BE(st:St)(kd:Nat):St:=match(kd:Int)==1 with
 |true=>Lm st
 |false=>st
noncomputable def Kt(st:St):St:={st with full:=match st.side with|true=>st.full+1|false=>st.full,side:=!st.side,key:=Cv st.key 3}
noncomputable def Il(m:Nat)(st:St)(kd:Nat)(tk:Option (Bool×Nat))(v:Int):St:=Kt (BE (BG m (BS m (Du st v tk) (mo v) tk) kd v) kd)
noncomputable def AT:Nat->MS->MS
 |n+1,.seq _ b=>AT n b
 |_,s=>s
section
variable{S:List Int}{k:Int}{m:Nat}{G:mi}{st:St}{g:MH}{n:Nat}{hd:Bool}{X:As}{μ:MH}
theorem DQ(M:B0 G v):(Bt v==3)=false:=by rcases M.sp with e|e<;>rw[e]<;>rfl
theorem eV(M:B0 G v):(!(Bt v==2))=true:=by rcases M.sp with e|e<;>rw[e]<;>rfl
theorem Si{Q:Ae}(hn:1<=n)(h:Q .none (B S k m G st++g)):CG n hd 238 [.l8 54] Q X (B S k m G st++g):=by
 induction n using Nat.casesOn with
 |zero=>exact absurd hn (by decide)
 |succ n=>exact h
theorem WX{Q:Ae}(hn:1<=n)(h:Q .none (B S k m G st++g)):CG n hd 239 [.l8 54,.int (-1)] Q X (B S k m G st++g):=by
 induction n using Nat.casesOn with
 |zero=>exact absurd hn (by decide)
 |succ n=>exact h
theorem NZ{Q:Ae}(hn:1<=n)(h:Q .none (B S k m G st++g)):CG n hd 240 [.l8 54,.int 0] Q X (B S k m G st++g):=by
 induction n using Nat.casesOn with
 |zero=>exact absurd hn (by decide)
 |succ n=>exact h
theorem aE{Q:Ae}{z:List Int}(hn:1<=n)(hz:G.e48=il z)(hl:(z.length:Int)=G.size)(a0:0<=a)(a1:a<G.size)(b0:0<=b)(b1:b<G.size)(h:Q (.int 0) (B S k m G st++g)):CG n hd 237 [.l8 54,.int a,.int b] Q X (B S k m G st++g):=by
 refine stp hn fun n hn=>?_
 have e:(B S k m G st++g)[48]?=some (il z):=by refine hz▸?_;rfl
 refine AO e a0 (BK hl a1) ?_
 refine AO e b0 (BK hl b1) ?_
 conv=>whnf
 rw[show Builtin.bitAnd 0 _=0 from Ea _]
 exact h
theorem TY{Q:Ae}(hn:1<=n)(h1:t - o≠8)(h2:o - t≠8)(h:Q (.int (-1)) (B S k m G st++g)):CG n hd 235 [.l8 54,.int c,.int o,.int t] Q X (B S k m G st++g):=by
 refine stp hn fun n hn=>?_
 refine DU (iu (b:=(8:Int)).mpr h1) ?_
 refine DU (iu (b:=(8:Int)).mpr h2) ?_
 exact h
theorem Ld{Q:Ae}(hn:2<=n)(M:B0 G v)(h:Q (.int (mo v)) (B S k m G st++g)):CG n hd 245 [.l8 54,.int v] Q X (B S k m G st++g):=by
 refine stp hn fun n hn=>?_
 refine KO (md hn rfl) ?_
 refine EY (md hn rfl) ?_
 refine DU (eV M) ?_
 exact h
theorem WQ{Q:Ae}(hn:2<=n)(V:Mv G st v kd tk)(hl:(st.board.length:Int)=G.size)(h:Q (.int (pc st.side kd)) (B S k m G st++g)):CG n hd 232 [.l8 54,.int v] Q X (B S k m G st++g):=by
 refine stp hn fun n hn=>?_
 have hb:st.board[(Ah v).toNat]?=some (pc st.side kd):=by refine V.src▸?_;exact Ct (by have:=V.M.f0;have:=V.M.f1;lia)
 refine Eu (md hn rfl) ?_
 refine Cz (gZ (Int.not_le.mpr V.M.f1)) ?_
 refine KO (md hn rfl) ?_
 refine Cz (gZ (Int.not_le.mpr V.M.t1)) ?_
 refine B1 V.M.f0 hb ?_
 refine Cz (by rw[gX];exact Eo _ V.k1) ?_
 refine Gx (md hn rfl) (hJ V.k7) ?_
 refine Cz (by cases st.side<;>rfl) ?_
 exact h
theorem Dl{Q:Ae}(hn:1<=n)(h:Q (.int (Af v)) μ):CG n hd 24 [.int v] Q X μ:=by
 refine stp hn fun n hn=>?_
 unfold Af at h
 refine Ap (fun e=>?_) fun e=>?_
 ·have e:(Bt v != 1)=true:=e
  rw[e]at h;exact h
 ·have e:(Bt v != 1)=false:=e
  rw[e]at h;exact h
theorem ZI{Q:Au}{kd:Nat}{z:List Int}(hn:1<=n)(hz:G.e48=il z)(hl:(z.length:Int)=G.size)(M:B0 G v)(e1:env 102=some (.l8 54))(e2:env 0=some (.int (sd st.side)))(e3:env 11=some (.int (Ah v)))(e4:env 61=some (.int (mo v)))
  (h:∀env',Q .next env' (B S k m G (Kt st)++g)):ws l9 (Ak l9 prog n) hd (AT 16 D4) Q X env (B S k m G st++g):=by
 refine Ab e1 ?_
 refine Ab e1 ?_
 refine Ab e3 ?_
 refine Ab e4 ?_
 refine aE hn hz hl M.f0 M.f1 M.t0 M.t1 ?_
 refine NZ hn ?_
 refine Ab e2 ?_
 have h:=h env
 unfold Kt at h
 have hs:st.side=true\/st.side=false:=by cases st.side<;>decide
 rcases hs with hs|hs
 ·rw[hs]at h e2 ⊢
  refine Ab e1 ?_
  refine Ab e2 ?_
  refine Ab e1 ?_
  refine Ab e1 ?_
  refine Ab e1 ?_
  exact h
 ·rw[hs]at h e2 ⊢
  refine Ab e2 ?_
  refine Ab e1 ?_
  refine Ab e1 ?_
  refine Ab e1 ?_
  exact h
theorem ZH{Q:Au}{z:List Int}(hn:1<=n)(h7:kd<7)(hp:kd=1->mo v - Ah v≠8/\Ah v - mo v≠8)(hz:G.e48=il z)(hl:(z.length:Int)=G.size)(M:B0 G v)(e1:env 102=some (.l8 54))(e2:env 0=some (.int (sd st.side)))(e3:env 11=some (.int (Ah v)))(e4:env 61=some (.int (mo v)))(e5:env 3=some (.int (pc c kd)))
  (h:∀env',Q .next env' (B S k m G (Kt (BE st kd))++g)):ws l9 (Ak l9 prog n) hd (AT 15 D4) Q X env (B S k m G st++g):=by
 refine Ab e5 ?_
 refine Eb hn (hJ h7) ?_
 unfold BE at h
 refine Ap (fun e=>?_) fun e=>?_
 ·have e:((kd:Int)==1)=true:=e
  have e0:kd=1:=by have:=gO e;lia
  replace h:=e▸h
  refine Ab e1 ?_
  refine Ab e1 ?_
  refine Ab e1 ?_
  refine Ab e2 ?_
  refine Ab e3 ?_
  refine Ab e4 ?_
  refine TY (st:=Lm st) (g:=g) hn (hp e0).1 (hp e0).2 ?_
  refine WX (st:=Lm st) (g:=g) hn ?_
  exact ZI (st:=Lm st) (kd:=kd) hn hz hl M e1 e2 e3 e4 h
 ·have e:((kd:Int)==1)=false:=e
  replace h:=e▸h
  exact ZI (kd:=kd) hn hz hl M e1 e2 e3 e4 h
structure Go(a b:St):Prop where
 side:a.side=b.side
 half:a.half=b.half
 full:a.full=b.full
 hist:a.hist=b.hist
theorem Go.trans(h:Go a b)(k:Go b c):Go a c:=⟨h.side.trans k.side,h.half.trans k.half,h.full.trans k.full,h.hist.trans k.hist⟩
theorem Th(st:St)(kd:Nat)(v:Int):Go (st.nQ kd v) st:=by
 rcases kd with _|_|_|_|_|_|_<;>exact⟨rfl,rfl,rfl,rfl⟩
theorem Ti(st:St)(c:Bool)(v:Int):Go (st.n8 c v) st:=by cases c<;>exact⟨rfl,rfl,rfl,rfl⟩
theorem IW(st:St)(kd:Nat)(v:Int)(c:Bool)(w y:Int):Go (((st.nQ kd v).n8 c w).nq y) st:=
 Go.trans (b:=(st.nQ kd v).n8 c w) ⟨rfl,rfl,rfl,rfl⟩ ((Ti _ c w).trans (Th _ kd v))
theorem BN(m:Nat)(st:St)(c:Bool)(q:Nat)(s:Int):Go (Bu m st c q s) st:=(IW (st.setB s.toNat (pc c q)) ..).trans ⟨rfl,rfl,rfl,rfl⟩
theorem Ci(m:Nat)(st:St)(c:Bool)(q:Nat)(s:Int):Go (BZ m st c q s) st:=(IW (st.setB s.toNat 0) ..).trans ⟨rfl,rfl,rfl,rfl⟩
theorem Gg(m:Nat)(st:St)(c:Bool)(q:Nat)(s v:Int):Go (DR m st c q s v) st:=(IW ((st.setB s.toNat 0).setB v.toNat (pc c q)) ..).trans ⟨rfl,rfl,rfl,rfl⟩
theorem d6{Q:Au}{z:List Int}(hn:2<=n)(C:mM G st)(GS:G.mh)(hm:(m:Int)=G.size)(k1:1<=kd)(h7:kd<7)(hs:AB st.board (Ah v).toNat=pc st.side kd)(hg:AB st.board (mo v).toNat=0)(pr:Bt v=1->kd=1/\∃p:Nat,2<=p/\p<=5/\Af v=p)
  (hp:kd=1->mo v - Ah v≠8/\Ah v - mo v≠8) (hz:G.e48=il z) (hl:(z.length:Int)=G.size) (M:B0 G v) (e1:env 102=some (.l8 54)) (e2:env 0=some (.int (sd st.side))) (e3:env 11=some (.int (Ah v))) (e4:env 61=some (.int (mo v))) (e5:env 3=some (.int (pc st.side kd))) (e6:env 13=some (.int (Bt v))) (e7:env 19=some (.int v))
  (h:∀env',Q .next env' (B S k m G (Kt (BE (BG m st kd v) kd))++g)):ws l9 (Ak l9 prog n) hd (AT 13 D4) Q X env (B S k m G st++g):=by
 have hb:=Ct (A4 C M.f0 M.f1)
 have pA:=gS M.f1 GS.top
 have oG:=gS M.t1 GS.top
 replace hb:=hs▸hb
 refine Ab e6 ?_
 unfold BG at h
 refine Ap (fun e=>?_) fun e=>?_
 ·have e:(Bt v==1)=true:=e
  obtain⟨rfl,p,p1,p2,p3⟩:=pr (by exact gO e)
  replace h:=e▸h
  refine Ab e1 ?_
  refine Ab e3 ?_
  refine Mf (gI (by decide) hn) (by decide) M.f0 pA M.f1 C.len hm hb ?_
  refine Ab e1 ?_
  refine Ab e2 ?_
  refine Ab e7 ?_
  refine Dl (gI (by decide) hn) ?_
  rw[p3]at h ⊢
  refine Jr (gI (by decide) hn) ?_
  refine Ab e4 ?_
  have C2:=C.take (m:=m) k1 h7 M.f0 M.f1 hs
  refine Lc (gI (by decide) hn) (by exact S8 p2) M.t0 oG M.t1 C2.len hm ?_
  refine Ab e6 ?_
  refine Cz (DQ M) ?_
  refine ZH (c:=st.side) (gI (by decide) hn) h7 hp hz hl M e1 ?_ e3 e4 e5 h
  (refine((BN m _ st.side p (mo v)).side).symm▸?_;refine((Ci m st st.side 1 (Ah v)).side).symm▸?_);exact e2
 ·have e:(Bt v==1)=false:=e
  replace h:=e▸h
  refine Ab e1 ?_
  refine Ab e3 ?_
  refine Ab e4 ?_
  refine QY (gI (by decide) hn) h7 M.f0 pA M.f1 M.t0 oG M.t1 C.len hm hb ?_
  refine Ab e6 ?_
  refine Cz (DQ M) ?_
  refine ZH (c:=st.side) (gI (by decide) hn) h7 hp hz hl M e1 ?_ e3 e4 e5 h
  refine((Gg m st st.side kd (Ah v) (mo v)).side).symm▸?_;exact e2
end
theorem mM.same{st nu:St}(C:mM G st)(hb:nu.board=st.board)(hk:∀q,nu.kd q=st.kd q)(hs:∀c,nu.si c=st.si c)(h0:nu.k0=st.k0):mM G nu:=by
 refine⟨by refine hb.symm▸?_;exact C.len,by refine hb.symm▸?_;exact C.rT,fun q a b k=>?_,fun c k=>?_,h0.trans C.k0⟩
 ·rw[hb,hk];exact C.kb q a b k
 ·rw[hb,hs];exact C.sb c k
theorem JL{G:mi}{st:St}{v:Int}{tk:Option (Bool×Nat)}(C:mM G st):mM G (Du st v tk):=C.same rfl (fun _=>rfl) (fun c=>by cases c<;>rfl) rfl
theorem Ux{G:mi}{st:St}(C:mM G st):mM G (Lm st):=C.same rfl (fun _=>rfl) (fun c=>by cases c<;>rfl) rfl
theorem EH{G:mi}{st:St}{s:Int}(C:mM G st)(h1:1<=kd)(h7:kd<7)(s0:0<=s)(s1:s<G.size)(j:Nat):AB (BZ m st c kd s).board j=if s.toNat=j then 0 else AB st.board j:=by
 rw[(OW m st c s h1 h7).board,CY (A4 C s0 s1)]
theorem ED{G:mi}{st:St}{s:Int}(C:mM G st)(h1:1<=kd)(h7:kd<7)(s0:0<=s)(s1:s<G.size)(j:Nat):AB (Bu m st c kd s).board j=if s.toNat=j then pc c kd else AB st.board j:=by
 rw[(RH m st c s h1 h7).board,CY (A4 C s0 s1)]
theorem OL{G:mi}{st:St}{x y:Int}(C:mM G st)(h1:1<=kd)(h7:kd<7)(x0:0<=x)(x1:x<G.size)(y0:0<=y)(y1:y<G.size)(j:Nat):AB (DR m st c kd x y).board j=if y.toNat=j then pc c kd else if x.toNat=j then 0 else AB st.board j:=by
 rw[(LN m st c x y h1 h7).board,CY (by rw[jQ];exact A4 C y0 y1),CY (A4 C x0 x1)]
structure QO(G:mi)(st s:St)(v:Int):Prop where
 C:mM G s
 side:s.side=st.side
 at_:∀j,AB s.board j=if(mo v).toNat=j then 0 else AB st.board j
theorem Iw{G:mi}{st:St}{m:Nat}{v:Int}{kd:Nat}{tk:Option (Bool×Nat)}(C:mM G st)(V:Mv G st v kd tk):QO G st (BS m (Du st v tk) (mo v) tk) v:=by
 induction tk with
 |none=>
  refine⟨JL C,rfl,fun j=>?_⟩
  split
  ·rename_i e;refine e▸?_;exact V.dst
  ·rfl
 |some t=>
  obtain⟨c,q⟩:=t
  have hq:=V.mZ c q rfl
  refine⟨Ux ((JL C).take hq.1 hq.2 V.M.t0 V.M.t1 V.dst),(Ci m _ c q (mo v)).side,fun j=>?_⟩
  exact EH (m:=m) (JL (v:=v) (tk:=some (c,q)) C) hq.1 hq.2 V.M.t0 V.M.t1 j
section
variable{S:List Int}{k:Int}{m:Nat}{G:mi}{st:St}{g:MH}{n:Nat}{hd:Bool}{X:As}{μ:MH}
noncomputable def d5(st:St)(kd:Nat)(tk:Option (Bool×Nat))(v:Int):An:=Ad (Ad (Ad (Ad (Ad (Ad (Ad (Ad (Ad (Ad (fun _=>none) 102 (.l8 54)) 19 (.int v)) 3 (.int (pc st.side kd))) 0 (.int (sd st.side))) 11 (.int (Ah v))) 61 (.int (mo v))) 13 (.int (Bt v))) 242 (.tup [.int (-1),.int (-1)])) 243 (.int (mo v))) 205 (.int (ri tk))
theorem fW{Q:Ae}{z:List Int}(hn:3<=n)(C:mM G st)(GS:G.mh)(hm:(m:Int)=G.size)(V:Mv G st v kd tk)(hz:G.e48=il z)(hl:(z.length:Int)=G.size)(hh:st.hist.length<1000)
  (h:Q .none (B S k m G (Il m st kd tk v)++g)):CG n hd 246 [.l8 54,.int v] Q X (B S k m G st++g):=by
 refine stp hn fun n hn=>?_
 have M:=V.M
 have hb:=Ct (A4 C M.t0 M.t1)
 replace hb:=V.dst▸hb
 have oG:=gS M.t1 GS.top
 have ne:(mo v).toNat≠(Ah v).toNat:=fun e=>V.ne (by have:=M.f0;have:=M.t0;lia)
 have D:=Iw (m:=m) C V
 have fin:ws l9 (Ak l9 prog n) hd (AT 13 D4) (fun fl _ μ'=>match fl with|.ret v=>Q v μ'|.next=>Q .none μ'|.cont=>False) X (d5 st kd tk v) (B S k m G (BS m (Du st v tk) (mo v) tk)++g):=
  d6 (md hn rfl) D.C GS hm V.k1 V.k7 (by(rewrite[D.at_];rewrite[iO ne];refine D.side.symm▸?_);exact V.src) (by(rewrite[D.at_];refine(iP rfl).symm▸?_;rfl)) V.oy V.qt hz hl M rfl (by refine D.side.symm▸?_;rfl) rfl rfl (by refine D.side.symm▸?_;rfl) rfl rfl fun _=>h
 refine WQ (md hn rfl) V C.len ?_
 refine Eu (md hn rfl) ?_
 refine KO (md hn rfl) ?_
 refine EY (md hn rfl) ?_
 refine Cz (DQ M) ?_
 refine Ld (md hn rfl) M ?_
 refine B1 M.t0 hb ?_
 refine Aj (gG (iB hh (by decide))) ?_
 refine Si (st:={st with hist:=st.hist++[.tup [.int v,.int (ri tk),.int 0,.int (-1),.int st.half,.int st.key]]}) (g:=g) (md hn rfl) ?_
 induction tk with
 |none=>
  exact fin
 |some t=>
  obtain⟨c,q⟩:=t
  have hq:=V.mZ c q rfl
  refine DU (bne_iff_ne.mpr (Eo c hq.1)) ?_
  refine Mf (st:=Du st v (some (c,q))) (g:=g) (md hn rfl) hq.2 M.t0 oG M.t1 C.len hm hb ?_
  exact fin
noncomputable def Nq(c:Bool)(f:Int):Int:=match c with|true=>f - 1|false=>f
noncomputable def dv(v:Int)(tk:Option (Bool×Nat))(hf ky:Int):V:=.tup [.int v,.int (ri tk),.int 0,.int (-1),.int hf,.int ky]
noncomputable def Mz(m:Nat)(a:St)(kd:Nat)(v:Int):St:=match Bt v==1 with
 |true=>Bu m (BZ m a a.side (Af v).toNat (mo v)) a.side 1 (Ah v)
 |false=>DR m a a.side kd (mo v) (Ah v)
noncomputable def Qp(m:Nat)(b:St)(t:Int):Option (Bool×Nat)->St
 |none=>b
 |some (e,q)=>Bu m b e q t
noncomputable def MK(d:St)(c:Bool)(hf ky:Int):St:={d with full:=Nq c d.full,half:=hf,key:=ky}
noncomputable def Me(m:Nat)(a:St)(hf ky:Int)(kd:Nat)(tk:Option (Bool×Nat))(v:Int):St:=MK (Qp m (Mz m a kd v) (mo v) tk) a.side hf ky
structure dH(G:mi)(a:St)(kd:Nat)(v:Int):Prop where
 C:mM G a
 src:AB a.board (Ah v).toNat=0
 dst:AB a.board (mo v).toNat=pc a.side (match Bt v==1 with|true=>(Af v).toNat|false=>kd)
theorem MD(l:List V)(x:V):Eh (l++[x])=some (l,x):=by
 induction l with
 |nil=>rfl
 |cons a l ih=>induction l using List.casesOn with
  |nil=>rfl
  |cons b l=>show(Eh ((b :: l)++[x])).map _=_;refine ih.symm▸?_;rfl
end
theorem Wt{S:List Int}{k:Int}{m:Nat}{G:mi}{st:St}{g:MH}{n:Nat}{hd:Bool}{X:As}{Q:Au}{env:An}{c:Bool}{hf ky:Int}(e1:env 102=some (.l8 54))(e2:env 0=some (.int (sd c)))(e3:env 158=some (.int 0))(e4:env 196=some (.int (-1)))(e5:env 241=some (.int hf))(e6:env 104=some (.int ky))
  (h:∀env',Q .next env' (B S k m G (MK st c hf ky)++g)):ws l9 (Ak l9 prog n) hd (AT 10 EW) Q X env (B S k m G st++g):=by
 have h:=h env
 refine Ab e2 ?_
 cases c
 ·conv=>whnf
  refine Ab e3 ?_
  refine Ab e1 ?_
  refine Ab e4 ?_
  refine Ab e1 ?_
  refine Ab e5 ?_
  refine Ab e1 ?_
  refine Ab e6 ?_
  refine Ab e1 ?_
  exact h
 ·conv=>whnf
  refine Ab e1 ?_
  refine Ab e3 ?_
  refine Ab e1 ?_
  refine Ab e4 ?_
  refine Ab e1 ?_
  refine Ab e5 ?_
  refine Ab e1 ?_
  refine Ab e6 ?_
  refine Ab e1 ?_
  exact h
theorem fR(c:Bool):1 - sd (!c)=sd c:=by cases c<;>rfl
section
variable{S:List Int}{k:Int}{m:Nat}{G:mi}{st:St}{g:MH}{n:Nat}{hd:Bool}{X:As}{μ:MH}
theorem dG:(B S k m G st++g).set 54 (.inst 1 (M9 [(33,.l8 18),(105,.l8 53),(110,.l8 56),(109,.l8 58),(107,.l8 59),(0,.int (sd st.side)),(158,.int 0),(196,.int (-1)),(241,.int st.half),(53,.int st.full),(104,.int st.key),(244,.l8 60)] 0 (.int (1 - sd (!c)))))=B S k m G {st with side:=c}++g:=by rw[fR];rfl
theorem Wu{Q:Au}(hn:3<=n)(C:mM G st)(GS:G.mh)(hm:(m:Int)=G.size)(M:B0 G v)(mZ:∀c q,tk=some (c,q)->1<=q/\q<7)(e0:env 205=some (.int (ri tk)))(e1:env 102=some (.l8 54))(e2:env 0=some (.int (sd c)))(e3:env 158=some (.int 0))(e4:env 196=some (.int (-1)))(e5:env 241=some (.int hf))(e6:env 104=some (.int ky))(e7:env 19=some (.int v))
  (h:∀env',Q .next env' (B S k m G (MK (Qp m st (mo v) tk) c hf ky)++g)):ws l9 (Ak l9 prog n) hd (AT 9 EW) Q X env (B S k m G st++g):=by
 refine Ab e0 ?_
 induction tk with
 |none=>
  conv=>whnf
  exact Wt e1 e2 e3 e4 e5 e6 h
 |some t=>
  obtain⟨d,q⟩:=t
  have hq:=mZ d q rfl
  refine DU (bne_iff_ne.mpr (Eo d hq.1)) ?_
  refine Ab e1 ?_
  refine Ab e0 ?_
  refine Ab e1 ?_
  refine Ab e7 ?_
  refine Ld (gI (by decide) hn) M ?_
  refine Lc (gI (by decide) hn) hq.2 M.t0 (gS M.t1 GS.top) M.t1 C.len hm ?_
  exact Wt e1 e2 e3 e4 e5 e6 h
noncomputable def Z6(a:St)(v hf ky:Int)(tk:Option (Bool×Nat)):An:=Ad (Ad (Ad (Ad (Ad (Ad (Ad (Ad (Ad (Ad (Ad (fun _=>none) 102 (.l8 54)) 19 (.int v)) 205 (.int (ri tk))) 158 (.int 0)) 196 (.int (-1))) 241 (.int hf)) 104 (.int ky)) 0 (.int (sd a.side))) 11 (.int (Ah v))) 61 (.int (mo v))) 13 (.int (Bt v))
theorem aL{Q:Ae}(hn:4<=n)(K:dH G a kd v)(GS:G.mh)(hm:(m:Int)=G.size)(M:B0 G v)(mZ:∀c q,tk=some (c,q)->1<=q/\q<7)(k1:1<=kd)(k7:kd<7)(pr:Bt v=1->∃p:Nat,2<=p/\p<=5/\Af v=p)
  (h:Q .none (B S k m G (Me m a hf ky kd tk v)++g)):CG n hd 247 [.l8 54] Q X (B S k m G {a with side:=!a.side,hist:=a.hist++[dv v tk hf ky]}++g):=by
 cases n with
 |zero=>exact absurd hn (by decide)
 |succ n=>
  have C:=K.C
  have pA:=gS M.f1 GS.top
  have oG:=gS M.t1 GS.top
  have q1:((((a.hist++[dv v tk hf ky]).length:Nat):Int)==0)=false:=by rw[gF,gX];show((_+1:Nat):Int)≠0;exact iJ (cq (gW _))
  have hb:=Ct (A4 C M.t0 M.t1)
  rw[K.dst]at hb
  unfold Me Mz at h
  refine Cz q1 ?_
  refine Ab (MD a.hist _) ?_
  conv=>whnf
  rw[fR]
  refine Eu (md hn rfl) ?_
  refine KO (md hn rfl) ?_
  refine EY (md hn rfl) ?_
  refine Ap (fun e=>?_) fun e=>?_
  ·have e:(Bt v==1)=true:=e
   obtain⟨p,p1,p2,p3⟩:=pr (by simpa using e)
   rw[e]at h hb
   rw[p3]at h hb
   have K2:AB a.board (mo v).toNat=pc a.side p:=by have z:=K.dst;rw[e,p3]at z;exact z
   have S2:AB (BZ m a a.side p (mo v)).board (Ah v).toNat=0:=by
    rw[EH C (by exact Qi p1) (by exact S8 p2) M.t0 M.t1]
    split
    ·rfl
    ·exact K.src
   refine Mf (st:=a) (g:=g) (kd:=p) (md hn rfl) (by exact S8 p2) M.t0 oG M.t1 C.len hm hb ?_
   have C2:=C.take (m:=m) (by exact Qi p1) (by exact S8 p2) M.t0 M.t1 K2
   refine Jr (kd:=1) (md hn rfl) ?_
   refine Lc (c:=a.side) (kd:=1) (md hn rfl) (by decide) M.f0 pA M.f1 C2.len hm ?_
   refine Cz (DQ M) ?_
   have C3:=C2.put (m:=m) (c:=a.side) (kd:=1) (by decide) (by decide) M.f0 M.f1 S2
   exact Wu (env:=Z6 a v hf ky tk) (c:=a.side) (md hn rfl) C3 GS hm M mZ rfl rfl rfl rfl rfl rfl rfl rfl fun _=>h
  ·have e:(Bt v==1)=false:=e
   rw[e]at h hb
   have K2:=K.dst
   rw[e]at K2
   refine QY (st:=a) (g:=g) (kd:=kd) (md hn rfl) k7 M.t0 oG M.t1 M.f0 pA M.f1 C.len hm hb ?_
   refine Cz (DQ M) ?_
   have C3:=C.shift (m:=m) k1 k7 M.t0 M.t1 M.f0 M.f1 K2 K.src
   exact Wu (env:=Z6 a v hf ky tk) (c:=a.side) (md hn rfl) C3 GS hm M mZ rfl rfl rfl rfl rfl rfl rfl rfl fun _=>h
end
theorem Wa{a b:List Int}(hl:a.length=b.length)(h:∀j,AB a j=AB b j):a=b:=by
 refine List.ext_getElem hl fun i h1 h2=>?_
 have z:=h i
 unfold AB at z
 rw[g7,g7,g8 h1,g8 h2]at z
 exact z
theorem St.rD{a b:St}(h1:a.board=b.board)(h2:∀q,q<7->a.kd q=b.kd q)(h3:∀c,a.si c=b.si c)(h4:a.side=b.side)(h5:a.half=b.half)(h6:a.full=b.full)(h7:a.key=b.key)(h8:a.hist=b.hist):a=b:=by
 have k0:=h2 0 (by decide)
 have k1:=h2 1 (by decide)
 have k2:=h2 2 (by decide)
 have k3:=h2 3 (by decide)
 have k4:=h2 4 (by decide)
 have k5:=h2 5 (by decide)
 have k6:=h2 6 (by decide)
 have s0:=h3 false
 have s1:=h3 true
 cases a;cases b
 simp only[St.kd,St.si]at *
 simp_all
noncomputable def HX(kd:Nat)(v:Int):Nat:=match Bt v==1 with|true=>(Af v).toNat|false=>kd
structure gx(G:mi)(st s:St)(kd:Nat)(v:Int):Prop where
 C:mM G s
 side:s.side=st.side
 full:s.full=st.full
 at_:∀j,AB s.board j=if(mo v).toNat=j then pc st.side (HX kd v)else if(Ah v).toNat=j then 0 else AB st.board j
theorem P4{G:mi}{st:St}{v:Int}{kd:Nat}{tk:Option (Bool×Nat)}(V:Mv G st v kd tk):(mo v).toNat≠(Ah v).toNat:=fun e=>V.ne (by have:=V.M.f0;have:=V.M.t0;lia)
theorem Gi{st:St}:(BS m st t tk).side=st.side/\(BS m st t tk).full=st.full/\(BS m st t tk).hist=st.hist:=by
 induction tk with
 |none=>exact⟨rfl,rfl,rfl⟩
 |some p=>obtain⟨c,q⟩:=p;exact⟨(Ci m st c q t).side,(Ci m st c q t).full,(Ci m st c q t).hist⟩
theorem MA{G:mi}{st:St}{v:Int}{kd:Nat}{tk:Option (Bool×Nat)}(V:Mv G st v kd tk):1<=HX kd v/\HX kd v<7:=by
 unfold HX
 split
 ·rename_i e
  obtain⟨_,p,h1,h2,h3⟩:=V.oy (by exact gO e)
  refine h3.symm▸?_;show 1<=p/\p<7;exact⟨Qi h1,S8 h2⟩
 ·exact⟨V.k1,V.k7⟩
theorem Va{st:St}(V:Mv G st v kd tk)(D:QO G st s v):mM G (BG m s kd v)/\Go (BG m s kd v) s/\
  ∀j,AB (BG m s kd v).board j=if(mo v).toNat=j then pc st.side (HX kd v)else if(Ah v).toNat=j then 0 else AB st.board j:=by
 have ne:=P4 V
 have M:=V.M
 have hs:AB s.board (Ah v).toNat=pc s.side kd:=by rw[D.at_,iO ne,D.side];exact V.src
 have ht:AB s.board (mo v).toNat=0:=by rw[D.at_,iP rfl]
 have gl:=MA V
 unfold BG
 unfold HX at gl ⊢
 cases e:Bt v==1 with
 |true=>
  rw[e]at gl
  obtain⟨rfl,_⟩:=V.oy (by exact gO e)
  have C2:=D.C.take (m:=m) V.k1 V.k7 M.f0 M.f1 hs
  have t2:AB (BZ m s s.side 1 (Ah v)).board (mo v).toNat=0:=by
   rw[EH D.C V.k1 V.k7 M.f0 M.f1,iO (iQ ne)];exact ht
  refine⟨C2.put gl.1 gl.2 M.t0 M.t1 t2,(BN _ _ _ _ _).trans (Ci _ _ _ _ _),fun j=>?_⟩
  rw[ED C2 gl.1 gl.2 M.t0 M.t1,EH D.C V.k1 V.k7 M.f0 M.f1,D.at_,D.side]
  split
  ·rfl
  ·rfl
 |false=>
  refine⟨D.C.shift V.k1 V.k7 M.f0 M.f1 M.t0 M.t1 hs ht,Gg _ _ _ _ _ _,fun j=>?_⟩
  rw[OL D.C V.k1 V.k7 M.f0 M.f1 M.t0 M.t1,D.at_,D.side]
  split
  ·rfl
  ·rfl
structure QN(G:mi)(st s:St)(kd:Nat)(tk:Option (Bool×Nat))(v:Int):Prop where
 C:mM G s
 side:s.side=!st.side
 full:s.full=match st.side with|true=>st.full+1|false=>st.full
 hist:s.hist=st.hist++[dv v tk st.half st.key]
 at_:∀j,AB s.board j=if(mo v).toNat=j then pc st.side (HX kd v)else if(Ah v).toNat=j then 0 else AB st.board j
theorem after{G:mi}{st:St}{m:Nat}{v:Int}{kd:Nat}{tk:Option (Bool×Nat)}(C:mM G st)(V:Mv G st v kd tk):QN G st (Il m st kd tk v) kd tk v:=by
 have C2:=(Va (m:=m) V (Iw (m:=m) C V)).1;have R:=(Va (m:=m) V (Iw (m:=m) C V)).2.1;have a:=(Va (m:=m) V (Iw (m:=m) C V)).2.2
 have t1:=(Gi (m:=m) (st:=Du st v tk) (t:=mo v) (tk:=tk)).1;have t2:=(Gi (m:=m) (st:=Du st v tk) (t:=mo v) (tk:=tk)).2.1;have t3:=(Gi (m:=m) (st:=Du st v tk) (t:=mo v) (tk:=tk)).2.2
 have P:∀s:St,(BE s kd).board=s.board/\(∀q,(BE s kd).kd q=s.kd q)/\(∀c,(BE s kd).si c=s.si c)/\(BE s kd).k0=s.k0/\(BE s kd).side=s.side/\(BE s kd).full=s.full/\(BE s kd).hist=s.hist:=fun s=>by
  unfold BE
  split
  ·exact⟨rfl,fun _=>rfl,fun c=>(by induction c using Bool.casesOn<;>rfl),rfl,rfl,rfl,rfl⟩
  ·exact⟨rfl,fun _=>rfl,fun c=>rfl,rfl,rfl,rfl,rfl⟩
 have p1:=(P (BG m (BS m (Du st v tk) (mo v) tk) kd v)).1;have p2:=(P (BG m (BS m (Du st v tk) (mo v) tk) kd v)).2.1;have p3:=(P (BG m (BS m (Du st v tk) (mo v) tk) kd v)).2.2.1;have p4:=(P (BG m (BS m (Du st v tk) (mo v) tk) kd v)).2.2.2.1;have p5:=(P (BG m (BS m (Du st v tk) (mo v) tk) kd v)).2.2.2.2.1;have p6:=(P (BG m (BS m (Du st v tk) (mo v) tk) kd v)).2.2.2.2.2.1;have p7:=(P (BG m (BS m (Du st v tk) (mo v) tk) kd v)).2.2.2.2.2.2
 refine⟨(C2.same p1 p2 p3 p4).same rfl (fun _=>rfl) (fun c=>by induction c using Bool.casesOn<;>rfl) rfl,?_,?_,?_,fun j=>?_⟩
 ·show(!(BE _ kd).side)=_
  (refine p5.symm▸?_;refine R.side.symm▸?_;refine t1.symm▸?_);rfl
 ·show(match(BE _ kd).side with|true=>(BE _ kd).full+1|false=>(BE _ kd).full)=_
  (refine p5.symm▸?_;refine p6.symm▸?_;refine R.side.symm▸?_;refine R.full.symm▸?_;refine t1.symm▸?_;refine t2.symm▸?_);rfl
 ·show(BE _ kd).hist=_
  (refine p7.symm▸?_;refine R.hist.symm▸?_;refine t3.symm▸?_);rfl
 ·show AB (BE _ kd).board j=_
  refine p1.symm▸?_;exact a j
noncomputable def DF(s st:St):St:={s with side:=st.side,hist:=st.hist}
theorem Ts{s st:St}(h1:s.side=!st.side)(h2:s.hist=st.hist++[x]):s={DF s st with side:=!(DF s st).side,hist:=(DF s st).hist++[x]}:=by
 show s={s with side:=!st.side,hist:=st.hist++[x]}
 (refine h1▸?_;refine h2▸?_;rfl)
theorem Tu{G:mi}{st s:St}{v:Int}{kd:Nat}{tk:Option (Bool×Nat)}(V:Mv G st v kd tk)(A:QN G st s kd tk v):dH G (DF s st) kd v:=by
 refine⟨A.C.same rfl (fun _=>rfl) (fun c=>by induction c<;>rfl) rfl,?_,?_⟩
 ·show AB s.board _=0
  rw[A.at_,iO (P4 V),iP rfl]
 ·show AB s.board _=_
  rw[A.at_,iP rfl];rfl
theorem fH{st:St}(C:mM G st)(V:Mv G st v kd tk)(A:QN G st s kd tk v):Me m (DF s st) st.half st.key kd tk v=st:=by
 have K:=Tu V A
 have ne:=P4 V
 have M:=V.M
 have gl:=MA V
 have hb:∃b,b=Mz m (DF s st) kd v/\mM G b/\Go b (DF s st)/\∀j,AB b.board j=if(Ah v).toNat=j then pc st.side kd else if(mo v).toNat=j then 0 else AB s.board j:=by
  have dst:=K.dst
  unfold HX at gl
  unfold Mz
  cases e:Bt v==1 with
  |true=>
   (replace gl:=e▸gl;replace dst:=e▸dst)
   obtain⟨rfl,_⟩:=V.oy (by exact gO e)
   have C2:mM G (BZ m (DF s st) st.side (Af v).toNat (mo v)):=K.C.take (m:=m) gl.1 gl.2 M.t0 M.t1 dst
   have t2:AB (BZ m (DF s st) st.side (Af v).toNat (mo v)).board (Ah v).toNat=0:=by
    have z:=EH (m:=m) (c:=st.side) K.C gl.1 gl.2 M.t0 M.t1 (Ah v).toNat
    replace z:=(iO ne)▸z
    exact z.trans K.src
   refine⟨_,rfl,C2.put V.k1 V.k7 M.f0 M.f1 t2,(BN _ _ _ _ _).trans (Ci _ _ _ _ _),fun j=>?_⟩
   show AB (Bu m (BZ m (DF s st) st.side (Af v).toNat (mo v)) st.side 1 (Ah v)).board j=_
   rw[ED C2 V.k1 V.k7 M.f0 M.f1]
   split
   ·rfl
   ·exact EH K.C gl.1 gl.2 M.t0 M.t1 j
  |false=>
   replace dst:=e▸dst
   refine⟨_,rfl,K.C.shift V.k1 V.k7 M.t0 M.t1 M.f0 M.f1 dst K.src,Gg _ _ _ _ _ _,fun j=>?_⟩
   exact OL K.C V.k1 V.k7 M.t0 M.t1 M.f0 M.f1 j
 obtain⟨b,eb,Cb,Rb,ab⟩:=hb
 have hd:∃d,d=Qp m b (mo v) tk/\mM G d/\Go d b/\∀j,AB d.board j=AB st.board j:=by
  have fin:∀j,(Ah v).toNat≠j->(mo v).toNat≠j->AB s.board j=AB st.board j:=fun j h1 h2=>by(rewrite[A.at_];rewrite[iO h2];refine(iO h1).symm▸?_;rfl)
  induction tk with
  |none=>
   refine⟨b,rfl,Cb,⟨rfl,rfl,rfl,rfl⟩,fun j=>?_⟩
   rw[ab]
   split
   ·rename_i e;refine e▸?_;exact V.src.symm
   ·split
    ·rename_i _ e;refine e▸?_;exact V.dst.symm
    ·rename_i h1 h2;exact fin j h1 h2
  |some t=>
   obtain⟨e,q⟩:=t
   have hq:=V.mZ e q rfl
   have t2:AB b.board (mo v).toNat=0:=by(rewrite[ab];rewrite[iO (iQ ne)];refine(iP rfl).symm▸?_;rfl)
   refine⟨_,rfl,Cb.put hq.1 hq.2 M.t0 M.t1 t2,BN _ _ _ _ _,fun j=>?_⟩
   show AB (Bu m b e q (mo v)).board j=_
   rw[ED Cb hq.1 hq.2 M.t0 M.t1,ab]
   split
   ·rename_i z;refine z▸?_;exact V.dst.symm
   ·rename_i h1
    split
    ·rename_i z;refine z▸?_;exact V.src.symm
    ·rename_i h2;exact fin j h2 h1
 obtain⟨d,ed,Cd,Rd,ad⟩:=hd
 have eB:d.board=st.board:=Wa (by have:=Cd.len;have:=C.len;lia) ad
 have u1:=(Cd.uniq C eB).1;have u2:=(Cd.uniq C eB).2
 have e:Me m (DF s st) st.half st.key kd tk v=MK d st.side st.half st.key:=by
  (refine ed.symm▸?_;refine eb.symm▸?_);rfl
 refine e.symm▸?_
 refine St.rD eB u1 u2 ?_ rfl ?_ rfl ?_
 ·exact(Rd.trans Rb).side
 ·show Nq st.side d.full=st.full
  refine((Rd.trans Rb).full).symm▸?_
  show Nq st.side s.full=st.full
  refine A.full.symm▸?_;unfold Nq
  cases st.side
  ·rfl
  ·show st.full+1 - 1=st.full;exact ii (oE (mz _) (.sub (mw 0 1) (.num 1)) mq rfl) (oE (mz _) mq (.sub (mw 0 1) (.num 1)) rfl)
 ·exact(Rd.trans Rb).hist
structure Cj(G:mi)(m:Nat):Prop where
 S:G.mh
 hr:∀a b,Bd G (AW G a b)
 rk:G.ranks<1000
 hm:(m:Int)=G.size
 e48:∃z:List Int,G.e48=il z/\(z.length:Int)=G.size
structure HN(G:mi)(s:St):Prop where
 C:mM G s
 q0:0<=Ax s s.side
 q1:Ax s s.side<G.size
 mv:∀v∈LY G s,B0 G v
 mvE:∀v∈oJ G s,B0 G v
theorem HN.ps(R:HN G s):∀v∈Cq G s,B0 G v:=by
 unfold Cq
 split
 ·exact R.mvE
 ·exact R.mv
theorem B6(G:mi)(s:St):(Cq G s).length<80000:=by
 have a:=FE (G:=G) (st:=s) G.full
 have b:=FE (G:=G) (st:=s) (pu G s (Bb G s s.side))
 have c:=Mw (G:=G) (st:=s) (EC G s) [2,3,4,5,6]
 have d:=Mw (G:=G) (st:=s) (pu G s (Bb G s s.side)) [2,3,4,5]
 have e:=Gc G s 6 (EC G s)
 have l5:[2,3,4,5,6].length=5:=rfl
 have l4:[2,3,4,5].length=4:=rfl
 unfold Cq oJ LY
 split
 ·refine List.length_append.symm▸?_
  split
  ·refine List.length_append.symm▸?_;lia
  ·show 0+_<_;exact mU (mz _) (.add (.add (.num 0) mu) (.num 1)) (.num 80000) mu (.num 400) rfl e
 ·refine List.length_append.symm▸?_;lia
noncomputable def V4(b:Bool):List Nat:=match b with|true=>[43]|false=>[35]
noncomputable def JX(G:mi)(s:St):List Nat:=match Bo G s s.side with
 |true=>V4 ((oJ G s).any (Bs G s (C9 G s s.side)))
 |false=>[]
section
variable{S:List Int}{k:Int}{m:Nat}{G:mi}{st:St}{g:MH}{n:Nat}{hd:Bool}{X:As}{μ:MH}
theorem Iv{Q:Ae}(hn:4<=n)(C:mM G st)(V:Mv G st v kd tk)(A:QN G st s kd tk v)(GC:Cj G m)
  (h:Q .none (B S k m G st++g)):CG n hd 247 [.l8 54] Q X (B S k m G s++g):=by
 rw[Ts A.side A.hist]
 refine aL hn (Tu V A) GC.S GC.hm V.M V.mZ V.k1 V.k7 (fun e=>(V.oy e).2) ?_
 rw[fH C V A];exact h
theorem ZE{Q:Ae}(hn:3<=n)(C:mM G st)(V:Mv G st v kd tk)(GC:Cj G m)(hh:st.hist.length<1000)
  (h:Q .none (B S k m G (Il m st kd tk v)++g)):CG n hd 246 [.l8 54,.int v] Q X (B S k m G st++g):=by
 obtain⟨z,z1,z2⟩:=GC.e48
 exact fW hn C GC.S GC.hm V z1 z2 hh h
theorem aK{Q:Ae}(hn:11<=n)(C:mM G st)(V:Mv G st v kd tk)(GC:Cj G m)(hh:st.hist.length<1000)(R:HN G (Il m st kd tk v))
  (h:∀e,Q (.str (JX G (Il m st kd tk v))) (B S k m G st++(g++e))):CG n hd 253 [.l8 54,.int v] Q X (B S k m G st++g):=by
 refine stp hn fun n hn=>?_
 have A:=after (m:=m) C V
 refine ZE (md hn rfl) C V GC hh ?_
 refine Iu (md hn rfl) GC.S R.C.low R.q0 R.q1 ?_
 unfold JX at h
 revert R A h
 generalize Il m st kd tk v=s
 intro R h A
 refine Ap (fun e=>?_) fun e=>?_
 ·rw[e]at h
  refine dU (md hn rfl) GC.S R.C.low R.q0 R.q1 GC.hr R.mvE e ?_
  intro e'
  revert h
  cases(oJ G s).any (Bs G s (C9 G s s.side))
  all_goals
   intro h
   refine Iv (md hn rfl) C V A GC ?_
   exact h e'
 ·replace h:=e▸h
  refine Iv (md hn rfl) C V A GC ?_
  have h:=h []
  rw[gK]at h
  exact h
end
noncomputable def ou:List Nat:=[97,98,99,100,101,102,103,104]
noncomputable def oi:List Nat:=[49,50,51,52,53,54,55,56]
abbrev V8(R f r:Int):Prop:=f<0\/4<=f\/r<0\/R<=r
noncomputable def Nj(R f r:Int):Int:=if V8 R f r then -1 else r*4+f
noncomputable def BJ(R:Int):List Nat->Int
 |[a,b]=>Nj R (AE a ou 0) (AE b oi 0)
 |_=> -1
noncomputable def re:Nat->List Nat
 |2=>[110]|3=>[98]|4=>[114]|_=>[113]
noncomputable def M7(e:Nat):List Nat->Int->Int
 |[],p=>p
 |kd :: r,p=>M7 e r (match re kd==[e]with|true=>kd|false=>p)
noncomputable def pH(e:Nat):Int:=if e=110 then 2 else if e=98 then 3 else if e=114 then 4 else if e=113 then 5 else 0
noncomputable def Ik(o g p:Int):Option (Int×Int×Int):=if o<0\/g<0 then none else some (o,g,p)
noncomputable def KY(R:Int):List Nat->Option (Int×Int×Int)
 |[a,b,c,d]=>Ik (BJ R [a,b]) (BJ R [c,d]) 0
 |[a,b,c,d,e]=>if pH e=0 then none else Ik (BJ R [a,b]) (BJ R [c,d]) (pH e)
 |_=>none
noncomputable def Dv(q:Int×Int×Int)(v:Int):Bool:=Ah v==q.1&&(mo v==q.2.1&&Af v==q.2.2)
noncomputable def exc(hd:Bool)(c:Nat):Nat:=match hd with|true=>c+10|false=>c
def FM{α:Type}(f:α->V)(Q:Ae)(X:As)(c:Nat)(o:Option α)(μ:MH):Prop:=match o with
 |some a=>Q (f a) μ
 |none=>X c μ
noncomputable def QG(q:Int×Int×Int):V:=.tup [.int q.1,.int q.2.1,.int q.2.2]
theorem GW(h:V8 R f r):Nj R f r = -1:=iP h
section
variable{S:List Int}{k:Int}{m:Nat}{G:mi}{st:St}{g:MH}{n:Nat}{hd:Bool}{Q:Ae}{X:As}{μ:MH}
theorem Jt(hn:1<=n)(hR:R<1000)(h:Q (.int (BJ R t)) μ):CG n hd 227 [.int 4,.int R,.str t] Q X μ:=by
 refine stp hn fun n hn=>?_
 match t,h with
 |[],h=>exact h
 |[a],h=>exact h
 |a :: b :: c :: r,h=>exact h
 |[a,b],h=>
  have h:Q (.int (Nj R (AE a ou 0) (AE b oi 0))) μ:=h
  refine Ag rfl ?_
  refine Ag rfl ?_
  unfold ou oi at h
  refine Ap (fun e=>?_) fun e=>?_
  ·replace h:=(GW (.inl (gO e)))▸h;exact h
  ·conv=>whnf
   refine Ap (fun e2=>?_) fun e2=>?_
   ·replace h:=(GW (.inr (.inl (gO e2))))▸h;exact h
   ·conv=>whnf
    refine Ap (fun e3=>?_) fun e3=>?_
    ·replace h:=(GW (.inr (.inr (.inl (gO e3)))))▸h;exact h
    ·conv=>whnf
     refine Ap (fun e4=>?_) fun e4=>?_
     ·replace h:=(GW (.inr (.inr (.inr (gO e4)))))▸h;exact h
     ·have e1:=iv e
      have e2:=iv e2
      have e3:=iv e3
      have e4:=iv e4
      have z:¬V8 R (AE a [97,98,99,100,101,102,103,104] 0) (AE b [49,50,51,52,53,54,55,56] 0):=fun z=>by
       rcases z with z|z|z|z
       ·exact e1 z
       ·exact e2 z
       ·exact e3 z
       ·exact e4 z
      replace h:=(show Nj R (AE a [97,98,99,100,101,102,103,104] 0) (AE b [49,50,51,52,53,54,55,56] 0)=AE b [49,50,51,52,53,54,55,56] 0*4+AE a [97,98,99,100,101,102,103,104] 0 from iO z)▸h
      refine Aj (D1 (by exact mO (mz _) (.add (.neg (.num 1000)) (.num 1)) mq (.num 0) mq rfl (Int.not_lt.mp e3)) (by exact qf (m4 _ _) (mw 1 1) (.num 1000) (mw 0 1) (.num 1000) (mw 1 1) mq rfl hR (Int.not_le.mp e4))) ?_
      exact h
theorem VH(hn:1<=n)(h2:2<=kd)(h6:kd<6)(h:Q (.str (re kd)) μ):CG n hd 228 [.int kd] Q X μ:=by
 refine stp hn fun n hn=>?_
 match kd,h2,h6 with
 |2,_,_=>exact h
 |3,_,_=>exact h
 |4,_,_=>exact h
 |5,_,_=>exact h
theorem Ml(h:o<0\/q<0):Ik o q p=none:=iP h
theorem T7(h1:¬o<0)(h2:¬q<0):Ik o q p=some (o,q,p):=iO fun z=>z.elim h1 h2
theorem Yx(e:Nat):pH e=M7 e [2,3,4,5] 0:=by
 unfold pH
 by_cases h1:e=110
 ·subst h1;rfl
 ·by_cases h2:e=98
  ·subst h2;rfl
  ·by_cases h3:e=114
   ·subst h3;rfl
   ·by_cases h4:e=113
    ·subst h4;rfl
    ·rw[iO h1,iO h2,iO h3,iO h4]
     have q:∀x,e≠x->([x]==[e])=false:=fun x z=>by rw[gX];intro w;cases w;exact z rfl
     unfold M7 M7 M7 M7 M7
     (refine(show(re 2==[e])=false from q 110 h1).symm▸?_;refine(show(re 3==[e])=false from q 98 h2).symm▸?_;refine(show(re 4==[e])=false from q 114 h3).symm▸?_;refine(show(re 5==[e])=false from q 113 h4).symm▸?_;rfl)
noncomputable def gr:MS:=fb (mY 0 (ft (mY 5 FP)))
theorem VG{Q:Au}{e:Nat}(hn:1<=n)(hi:μ[i]?=some (.list XS))(L:List Nat):∀(_:∀kd∈L,2<=kd/\kd<6) (env:An) (p:Int),env 224=some (.str [a,b,c,d,e])->env 14=some (.int p)->
  (∀env',env' 14=some (.int (M7 e L p))->env' 224=env 224->env' 11=env 11->env' 61=env 61->Q .next env' μ)->
  BA (some (i,XS)) (fun v K env' μ'=>opt (AC [1] true v env') fun e=>ws l9 (Ak l9 prog n) hd gr K X e μ') (L.map fun(kd:Nat)=>.int kd) Q env μ:=by
 induction L with
 |nil=>intro _ env p a1 a2 h;exact⟨hi,h env a2 rfl rfl rfl⟩
 |cons kd L ih=>
  intro hL env p a1 a2 h
  have hk:=hL kd gR
  have oW:∀kd∈L,2<=kd/\kd<6:=fun s hs=>hL s (gH _ hs)
  refine⟨hi,?_⟩
  refine VH hn hk.1 hk.2 ?_
  refine Ab a1 ?_
  refine Ag rfl ?_
  unfold M7 at h
  refine Ap (fun e3=>?_) fun e3=>?_
  ·have e3:(re kd==[e])=true:=e3
   rw[e3]at h
   exact ih oW _ _ a1 rfl h
  ·have e3:(re kd==[e])=false:=e3
   rw[e3]at h
   exact ih oW _ _ a1 a2 h
@[elab_as_elim] theorem Rs{α:Type}{P:List α->Prop}(t:List α)(h4:∀a b c d,P [a,b,c,d])(h5:∀a b c d e,P [a,b,c,d,e])(o:∀t,t.length≠4->t.length≠5->P t):P t:=by
 rcases t with _|⟨a,_|⟨b,_|⟨c,_|⟨d,_|⟨e,_|⟨f,r⟩⟩⟩⟩⟩⟩
 ·exact o _ (fun h=>nomatch h) (fun h=>nomatch h)
 ·exact o _ (fun h=>nomatch h) (fun h=>nomatch h)
 ·exact o _ (fun h=>nomatch h) (fun h=>nomatch h)
 ·exact o _ (fun h=>nomatch h) (fun h=>nomatch h)
 ·exact h4 a b c d
 ·exact h5 a b c d e
 ·exact o _ (fun h=>nomatch h) (fun h=>nomatch h)
theorem LH{t:List Nat}(h4:t.length≠4)(h5:t.length≠5):KY R t=none:=by
 rcases t with _|⟨a,_|⟨b,_|⟨c,_|⟨d,_|⟨e,_|⟨f,r⟩⟩⟩⟩⟩⟩<;>first|rfl|exact absurd rfl h4|exact absurd rfl h5
theorem aI(hn:2<=n)(hR:R<1000)(h:∀e,FM QG Q X (exc hd 1) (KY R t) (B S k m G st++(g++e))):CG n hd 229 [.int 4,.int R,.str t] Q X (B S k m G st++g):=by
 refine stp hn fun n hn=>?_
 revert h
 refine Rs t (fun a b c d h=>?_) (fun a b c d e h=>?_) fun t s4 s5 h=>?_
 rotate_left 2
 ·have h:=h []
  (rw[gK]at h;replace h:=(LH s4 s5)▸h)
  refine DU (iu (b:=(4:Int)).mpr fun z=>s4 (Int.ofNat.inj z)) ?_
  refine DU (iu (b:=(5:Int)).mpr fun z=>s5 (Int.ofNat.inj z)) ?_
  exact h
 ·have h:=h []
  rw[gK]at h
  refine Jt (md hn rfl) hR ?_
  refine Jt (md hn rfl) hR ?_
  have h:FM QG Q X (exc hd 1) (Ik (BJ R [a,b]) (BJ R [c,d]) 0) (B S k m G st++g):=h
  refine Ap (fun e=>?_) fun e=>?_
  ·have e:decide (BJ R [a,b]<0)=true:=e
   rw[Ml (.inl (gO e))]at h;exact h
  ·have e:decide (BJ R [a,b]<0)=false:=e
   refine Ap (fun e2=>?_) fun e2=>?_
   ·have e2:decide (BJ R [c,d]<0)=true:=e2
    rw[Ml (.inr (gO e2))]at h;exact h
   ·have e2:decide (BJ R [c,d]<0)=false:=e2
    rw[T7 (iv e) (iv e2)]at h;exact h
 ·refine Jt (md hn rfl) hR ?_
  refine Jt (md hn rfl) hR ?_
  have h:∀x,FM QG Q X (exc hd 1) (if pH e=0 then none else Ik (BJ R [a,b]) (BJ R [c,d]) (pH e)) (B S k m G st++(g++x)):=h
  refine Ap (fun e1=>?_) fun e1=>?_
  ·have e1:decide (BJ R [a,b]<0)=true:=e1
   (replace h:=(Ml (.inl (gO e1)))▸h;rw[ite_self]at h)
   have h:=h []
   rw[gK]at h
   exact h
  ·conv=>whnf
   refine Ap (fun e2=>?_) fun e2=>?_
   ·have e2:decide (BJ R [c,d]<0)=true:=e2
    rw[Ml (.inr (gO e2)),ite_self]at h
    have h:=h []
    rw[gK]at h
    exact h
   ·have e1:decide (BJ R [a,b]<0)=false:=e1
    have e2:decide (BJ R [c,d]<0)=false:=e2
    replace h:=(T7 (iv e1) (iv e2))▸h
    refine Ab BP ?_
    refine A0 ?_
    have hi:(B S k m G st++g++[.list [.int 2,.int 3,.int 4,.int 5]])[g.length+61]?=some (.list [.int 2,.int 3,.int 4,.int 5]):=by
     rw[gB];exact(gD:(g++[MO.list [.int 2,.int 3,.int 4,.int 5]])[g.length]?=_)
    have h:=h [.list [.int 2,.int 3,.int 4,.int 5]]
    refine VG (md hn rfl) hi [2,3,4,5] (by decide) _ 0 rfl rfl fun env' a1 a2 a3 a4=>?_
    rw[<- Yx]at a1
    revert h a1
    generalize pH e=p
    intro h a1
    refine Ab a1 ?_
    refine Ap (fun e3=>?_) fun e3=>?_
    ·have e3:p=0:=by exact gO e3
     rw[iP e3]at h
     refine Ab a2 ?_
     exact h
    ·have e3:p≠0:=by simpa using e3
     rw[iO e3]at h
     refine Ab a3 ?_
     refine Ab a4 ?_
     refine Ab a1 ?_
     exact h
noncomputable def fmB:MS:=fb (mY 1 HP)
theorem Rg{Q:Au}{q:Int×Int×Int}(hn:1<=n)(hi:μ[i]?=some (.list XS))(L:List Int):∀(env:An),env 11=some (.int q.1)->env 61=some (.int q.2.1)->env 14=some (.int q.2.2)->env 224=some (.str t)->
  (∀env',env' 224=some (.str t)->match L.find? (Dv q)with|some v=>Q (.ret (.int v)) env' μ|none=>Q .next env' μ)->
  BA (some (i,XS)) (fun v K env' μ'=>opt (AC [19] true v env') fun e=>ws l9 (Ak l9 prog n) hd fmB K X e μ') (L.map .int) Q env μ:=by
 induction L with
 |nil=>intro env a1 a2 a3 a4 h;exact⟨hi,h env a4⟩
 |cons v L ih=>
  intro env a1 a2 a3 a4 h
  refine⟨hi,?_⟩
  have skip:Dv q v=false->BA (some (i,XS)) (fun v K env' μ'=>opt (AC [19] true v env') fun e=>ws l9 (Ak l9 prog n) hd fmB K X e μ') (L.map .int) Q (Ad env 19 (.int v)) μ:=fun e=>by
   refine ih _ a1 a2 a3 a4 fun env' b=>?_
   have h:=h env' b
   (rw[ix]at h;replace h:=e▸h)
   exact h
  refine Eu hn ?_
  refine Ab a1 ?_
  refine Ap (fun e=>?_) fun e=>?_
  ·have e:(Ah v==q.1)=true:=e
   refine KO hn ?_
   refine Ab a2 ?_
   refine Ap (fun e2=>?_) fun e2=>?_
   ·have e2:(mo v==q.2.1)=true:=e2
    refine Dl hn ?_
    refine Ab a3 ?_
    refine Ap (fun e3=>?_) fun e3=>?_
    ·have e3:(Af v==q.2.2)=true:=e3
     have h:=h (Ad env 19 (.int v)) a4
     rw[ix,show Dv q v=true by unfold Dv;(refine e.symm▸?_;refine e2.symm▸?_;refine e3.symm▸?_);rfl]at h
     exact h
    ·have e3:(Af v==q.2.2)=false:=e3
     exact skip (by unfold Dv;(refine e3.symm▸?_;rewrite[jZ];rewrite[jZ];rfl))
   ·have e2:(mo v==q.2.1)=false:=e2
    exact skip (by unfold Dv;(refine e2.symm▸?_;rewrite[kG];rewrite[jZ];rfl))
  ·have e:(Ah v==q.1)=false:=e
   exact skip (by unfold Dv;(refine e.symm▸?_;rewrite[kG];rfl))
theorem ay{L:List Int}(hn:3<=n)(hR:R<1000)(hj:g[j]?=some (il L))(h:∀e,FM .int Q X (exc hd 1) ((KY R t).bind fun q=>L.find? (Dv q)) (B S k m G st++(g++e))):CG n hd 230 [.int 4,.int R,.l8 (j+61),.str t] Q X (B S k m G st++g):=by
 refine stp hn fun n hn=>?_
 refine aI (md hn rfl) hR ?_
 intro e
 have h:=h e
 revert h
 cases KY R t with
 |none=>intro h;exact h
 |some q=>
  intro h
  have h:FM .int Q X (exc hd 1) (L.find? (Dv q)) (B S k m G st++(g++e)):=h
  refine Ab (Bc (Ac hj e)) ?_
  refine A0 ?_
  refine Rg (q:=q) (t:=t) (md hn rfl) (A5 (Ac hj e)) L _ ?_ ?_ ?_ ?_ fun env' a=>?_
  any_goals rfl
  revert h
  cases L.find? (Dv q) with
  |some v=>intro h;exact h
  |none=>
   intro h
   refine Ab a ?_
   exact h
end
noncomputable def m8:Nat->Nat
 |2=>78|3=>66|4=>82|5=>81|_=>75
noncomputable def qS(x s:List Nat):List Nat->Int
 |[]=>0
 |kd :: r=>match[m8 kd]==x with
  |true=>(match decide (m8 kd∈s)with|true=>kd|false=>qS x s r)
  |false=>qS x s r
noncomputable def nP(x s:List Nat):Int:=qS x s [2,3,4,5,6]
noncomputable def CR(t:List Nat):List Nat:=cut t 0 (min 1 t.length)
noncomputable def GX(t:List Nat):List Nat:=cut t (min 1 t.length) t.length
noncomputable def AF(t:List Nat):List Nat:=cut t (-1+(t.length:Int)).toNat t.length
noncomputable def A8(t:List Nat):List Nat:=cut t 0 (-1+(t.length:Int)).toNat
noncomputable def Cg(t:List Nat):List Nat:=cut t (-2+(t.length:Int)).toNat t.length
noncomputable def BV(t:List Nat):List Nat:=cut t 0 (-2+(t.length:Int)).toNat
noncomputable def AX(t:List Nat):List Nat×List Nat:=match AF t==[43] with
 |true=>(A8 t,AF t)
 |false=>match AF t==[35] with
  |true=>(A8 t,AF t)
  |false=>(t,[])
noncomputable def E6(f:Int):List Nat->Option (Int×Int)
 |[]=>some (f, -1)
 |c :: r=>match decide (c∈oi) with
  |true=>(match r with|[]=>some (f,AE c oi 0)|_ :: _=>none)
  |false=>none
noncomputable def E5:List Nat->Option (Int×Int)
 |[]=>some (-1, -1)
 |c :: r=>match decide (c∈ou) with
  |true=>E6 (AE c ou 0) r
  |false=>E6 (-1) (c :: r)
noncomputable def Z0(q:Int×Int):V:=.tup [.int q.1,.int q.2]
noncomputable def Vy(o:Option (Int×Int)):V:=match o with|some q=>Z0 q|none=>.none
theorem N7(c:Nat)(r:List Nat):GX (c :: r)=r:=by
 unfold GX cut
 rw[jH (gM _),gY];rfl
section
variable{S:List Int}{k:Int}{m:Nat}{G:mi}{st:St}{g:MH}{n:Nat}{hd:Bool}{Q:Ae}{X:As}{μ:MH}
theorem WR(hn:12<=n)(GC:Cj G m)(R:HN G st)(h:∀e,FM .int Q X (exc hd 1) ((KY G.ranks t).bind fun q=>(Ay G st).find? (Dv q)) (B S k m G st++(g++e))):CG n hd 231 [.l8 54,.str t] Q X (B S k m G st++g):=by
 refine stp hn fun n hn=>?_
 refine Fr (md hn rfl) GC.S R.C.low R.q0 R.q1 GC.hr R.ps (B6 G st) ?_
 intro e j hj
 refine ay (md hn rfl) GC.rk hj ?_
 intro e'
 rw[gB]
 have h:=h (e++e')
 revert h
 cases(KY G.ranks t).bind fun q=>(Ay G st).find? (Dv q) with
 |none=>intro h;exact h
 |some v=>intro h;exact h
theorem Jp(hn:2<=n)(h2:2<=kd)(h7:kd<7)(h:Q (.str [m8 kd]) μ):CG n hd 10 [.int kd] Q X μ:=by
 obtain⟨n,rfl⟩:∃j,n=j+2:=⟨n - 2,by lia⟩
 revert h
 exact ti h2 h7 (fun h=>Ag rfl h) (fun h=>Ag rfl h) (fun h=>Ag rfl h) (fun h=>Ag rfl h) (fun h=>Ag rfl h)
noncomputable def klB:MS:=fb (mY 0 D6)
theorem XG{Q:Au}(hn:2<=n)(hi:μ[i]?=some (.list XS))(L:List Nat):∀(_:∀kd∈L,2<=kd/\kd<7) (env:An),env 254=some (.str x)->env 255=some (.str s)->
  (∀env',(qS x s L=0->Q .next env' μ)/\(∀fl,fl=K4.ret (.int (qS x s L))->Q fl env' μ))->
  BA (some (i,XS)) (fun v K env' μ'=>opt (AC [1] true v env') fun e=>ws l9 (Ak l9 prog n) hd klB K X e μ') (L.map fun(kd:Nat)=>.int kd) Q env μ:=by
 induction L with
 |nil=>intro _ env a1 a2 h;exact⟨hi,(h env).1 rfl⟩
 |cons kd L ih=>
  intro hL env a1 a2 h
  have hk:=hL kd gR
  have oW:∀kd∈L,2<=kd/\kd<7:=fun s hs=>hL s (gH _ hs)
  refine⟨hi,?_⟩
  refine Jp hn hk.1 hk.2 ?_
  refine Ab a1 ?_
  unfold qS at h
  refine Ap (fun e=>?_) fun e=>?_
  ·have e:([m8 kd]==x)=true:=e
   have ex:x=[m8 kd]:=(gU e).symm
   rw[e]at h
   rw[ex]at a1
   refine Ab a1 ?_
   refine Ab a2 ?_
   refine Ap (fun e2=>?_) fun e2=>?_
   ·have e2:decide (m8 kd∈s)=true:=e2
    rw[e2]at h
    exact(h _).2 _ rfl
   ·have e2:decide (m8 kd∈s)=false:=e2
    rw[e2]at h
    exact ih oW _ (by rw[<- ex]at a1;exact a1) a2 h
  ·have e:([m8 kd]==x)=false:=e
   rw[e]at h
   exact ih oW _ a1 a2 h
theorem QU(hn:3<=n)(h:∀e,Q (.int (nP x s)) (B S k m G st++(g++e))):CG n hd 256 [.str x,.str s] Q X (B S k m G st++g):=by
 refine stp hn fun n hn=>?_
 have hi:(B S k m G st++g++[.list [.int 2,.int 3,.int 4,.int 5,.int 6]])[g.length+61]?=some (.list [.int 2,.int 3,.int 4,.int 5,.int 6]):=by
  rw[gB];exact(gD:(g++[MO.list [.int 2,.int 3,.int 4,.int 5,.int 6]])[g.length]?=_)
 have h:=h [.list [.int 2,.int 3,.int 4,.int 5,.int 6]]
 unfold nP at h
 refine Ab BP ?_
 refine A0 ?_
 refine XG (x:=x) (s:=s) (md hn rfl) hi [2,3,4,5,6] (by decide) _ ?_ ?_ fun env'=>⟨fun e=>?_,fun fl e=>?_⟩
 any_goals rfl
 ·rw[e]at h;exact h
 ·rw[e];exact h
theorem TP(hn:1<=n)(h:Q (.tup [.str (AX t).1,.str (AX t).2]) μ):CG n hd 257 [.str t] Q X μ:=by
 refine stp hn fun n hn=>?_
 unfold AX at h
 refine Ap (fun e=>?_) fun e=>?_
 ·have e:(AF t==[43])=true:=e
  replace h:=e▸h;exact h
 ·have e:(AF t==[43])=false:=e
  rw[e]at h
  refine Ap (fun e=>?_) fun e=>?_
  ·have e:(AF t==[35])=true:=e
   rw[e]at h;exact h
  ·have e:(AF t==[35])=false:=e
   rw[e]at h;exact h
theorem Q4(e:decide (c∈oi)=false):E6 f (c :: r)=none:=by
 show(match decide (c∈oi)with|true=>_|false=>none)=_
 (refine e.symm▸?_;rfl)
theorem Mm(e:decide (c∈oi)=true):E6 f (c :: r)=(match r with|[]=>some (f,AE c oi 0)|_ :: _=>none):=by
 show(match decide (c∈oi)with|true=>_|false=>none)=_
 rw[e]
theorem Py(e:decide (c∈ou)=false):E5 (c :: r)=E6 (-1) (c :: r):=by
 show(match decide (c∈ou)with|true=>_|false=>E6 (-1) (c :: r))=_
 (refine e.symm▸?_;rfl)
theorem Pz(e:decide (c∈ou)=true):E5 (c :: r)=E6 (AE c ou 0) r:=by
 show(match decide (c∈ou)with|true=>_|false=>E6 (-1) (c :: r))=_
 (refine e.symm▸?_;rfl)
theorem Nk:B7 μ (.str (c :: r)) (.int 0)=some (.str [c]):=by
 show((CV (c :: r).length 0).bind fun k=>((c :: r)[k]?).map fun c=>V.str [c])=_
 unfold CV
 rw[iP (iE 0),iP (by rw[gY];exact cq (gW _))];rfl
theorem dY{Q:Au}(e1:env 258=some (.str r))(e2:env 226=some (.int f))(e3:env 225=some (.int (-1)))(h:∀env',Q (.ret (Vy (E6 f r))) env' μ):ws l9 (Ak l9 prog n) hd (AT 3 Gs) Q X env μ:=by
 refine Ab e1 ?_
 match r,e1,h with
 |[],e1,h=>
  refine Ab e1 ?_
  refine Ab e2 ?_
  refine Ab e3 ?_
  exact h _
 |c :: r,e1,h=>
  refine Ab e1 ?_
  refine Ag Nk ?_
  refine Ap (fun e=>?_) fun e=>?_
  ·rw[Mm e]at h
   refine Ab e1 ?_
   refine Ag Nk ?_
   refine Ab e1 ?_
   match r,h with
   |[],h=>
    refine Ab e2 ?_
    exact h _
   |d :: r,h=>exact h _
  ·rw[Q4 e]at h
   refine Ab e1 ?_
   exact h _
theorem aw(hn:1<=n)(h:Q (Vy (E5 r)) μ):CG n hd 259 [.str r] Q X μ:=by
 refine stp hn fun n hn=>?_
 match r,h with
 |[],h=>exact h
 |c :: r,h=>
  refine Ag Nk ?_
  refine Ap (fun e=>?_) fun e=>?_
  ·replace h:=(Pz e)▸h
   refine Ag Nk ?_
   refine dY (env:=Ad (Ad (Ad (Ad (Ad (fun _=>none) 258 (.str (c :: r))) 226 (.int (-1))) 225 (.int (-1))) 226 (.int (AE c ou 0))) 258 (.str (GX (c :: r)))) (f:=AE c ou 0) (r:=r) ?_ rfl rfl fun _=>h
   exact congrArg (fun z=>some (V.str z)) (N7 c r)
  ·replace h:=(Py e)▸h
   exact dY (env:=Ad (Ad (Ad (fun _=>none) 258 (.str (c :: r))) 226 (.int (-1))) 225 (.int (-1))) (f:= -1) (r:=c :: r) rfl rfl rfl fun _=>h
end
set_option genInjectivity false in
structure Ask where
 k:Int
 f:Int
 r:Int
 x:Bool
 g:Int
 p:Int
noncomputable def LZ(a:Ask):V:=.tup [.int a.k,.int a.f,.int a.r,.bool a.x,.int a.g,.int a.p]
noncomputable def rW(k p g:Int)(x:Bool):Option (Int×Int)->Option Ask
 |none=>none
 |some q=>match(k==1)&&(x&&decide (q.1<0)) with
  |true=>none
  |false=>some ⟨k,q.1,q.2,x,g,p⟩
noncomputable def oP(R k p:Int)(b:List Nat):Option Ask:=match decide (BJ R (Cg b)<0) with
 |true=>none
 |false=>match AF (BV b)==[120] with
  |true=>rW k p (BJ R (Cg b)) true (E5 (A8 (BV b)))
  |false=>rW k p (BJ R (Cg b)) false (E5 (BV b))
noncomputable def pO:List Nat:=[78,66,82,81,75]
noncomputable def pq:List Nat:=[78,66,82,81]
noncomputable def o7(R:Int)(t:List Nat):Option Ask:=match nP (CR t) pO != 0 with
 |true=>oP R (nP (CR t) pO) 0 (GX t)
 |false=>match nP (AF t) pq != 0 with
  |true=>(match AF (A8 t)==[61] with
   |true=>oP R 1 (nP (AF t) pq) (A8 (A8 t))
   |false=>oP R 1 (nP (AF t) pq) (A8 t))
  |false=>oP R 1 (nP (AF t) pq) t
def YL{α:Type}(f:α->V)(Q:Au)(X:As)(c:Nat)(o:Option α)(env:An)(μ:MH):Prop:=match o with
 |some a=>Q (.ret (f a)) env μ
 |none=>X c μ
section
variable{S:List Int}{k:Int}{m:Nat}{G:mi}{st:St}{g:MH}{n:Nat}{hd:Bool}{X:As}{μ:MH}
theorem fM{Q:Au}(hn:1<=n)(e1:env 1=some (.int kk))(e2:env 14=some (.int p))(e3:env 61=some (.int gl))(e4:env 260=some (.bool x))(e5:env 258=some (.str r))(e6:env 224=some (.str t))
  (h:∀env',YL LZ Q X (exc hd 2) (rW kk p gl x (E5 r)) env' μ):ws l9 (Ak l9 prog n) hd (AT 9 DK) Q X env μ:=by
 refine Ab e5 ?_
 refine aw hn ?_
 revert h
 cases E5 r with
 |none=>
  intro h
  refine Ab e6 ?_
  exact h env
 |some q=>
  intro h
  have h:∀env',YL LZ Q X (exc hd 2) (match(kk==1)&&(x&&decide (q.1<0))with|true=>none|false=>some ⟨kk,q.1,q.2,x,gl,p⟩) env' μ:=h
  have fin:((kk==1)&&(x&&decide (q.1<0)))=false->ws l9 (Ak l9 prog n) hd (AT 12 DK) Q X (Ad env 11 (Z0 q)) μ:=fun e=>by
   replace h:=e▸h
   refine Ab e1 ?_
   refine Ag rfl ?_
   refine Ag rfl ?_
   refine Ab e4 ?_
   refine Ab e3 ?_
   refine Ab e2 ?_
   exact h _
  refine Ab e1 ?_
  refine Ap (fun e=>?_) fun e=>?_
  ·have e:(kk==1)=true:=e
   refine Ab e4 ?_
   induction x with
   |true=>
    refine Ag rfl ?_
    refine Ap (fun e'=>?_) fun e'=>?_
    ·have e':decide (q.1<0)=true:=e'
     (rw[e]at h;replace h:=e'▸h)
     refine Ab e6 ?_
     exact h env
    ·have e':decide (q.1<0)=false:=e'
     exact fin (by refine e'.symm▸?_;simp)
   |false=>exact fin (by simp)
  ·have e:(kk==1)=false:=e
   exact fin (by refine e.symm▸?_;rfl)
theorem Za{Q:Au}(hn:1<=n)(hR:R<1000)(e1:env 1=some (.int kk))(e2:env 14=some (.int p))(e3:env 45=some (.int 4))(e4:env 49=some (.int R))(e5:env 261=some (.str b))(e6:env 224=some (.str t))
  (h:∀env',YL LZ Q X (exc hd 2) (oP R kk p b) env' μ):ws l9 (Ak l9 prog n) hd (AT 4 DK) Q X env μ:=by
 unfold oP at h
 refine Ab e3 ?_
 refine Ab e4 ?_
 refine Ab e5 ?_
 refine Jt hn hR ?_
 refine Ap (fun e=>?_) fun e=>?_
 ·have e:decide (BJ R (Cg b)<0)=true:=e
  replace h:=e▸h
  refine Ab e6 ?_
  exact h env
 ·have e:decide (BJ R (Cg b)<0)=false:=e
  rw[e]at h
  refine Ab e5 ?_
  refine Ap (fun e=>?_) fun e=>?_
  ·have e:(AF (BV b)==[120])=true:=e
   rw[e]at h
   exact fM (env:=Ad (Ad (Ad (Ad env 61 (.int (BJ R (Cg b)))) 258 (.str (BV b))) 260 (.bool (AF (BV b)==[120]))) 258 (.str (A8 (BV b)))) (gl:=BJ R (Cg b)) (x:=true) (r:=A8 (BV b)) hn e1 e2 rfl (congrArg (fun z=>some (V.bool z)) e) rfl e6 h
  ·have e:(AF (BV b)==[120])=false:=e
   rw[e]at h
   exact fM (env:=Ad (Ad (Ad env 61 (.int (BJ R (Cg b)))) 258 (.str (BV b))) 260 (.bool (AF (BV b)==[120]))) (gl:=BJ R (Cg b)) (x:=false) (r:=BV b) hn e1 e2 rfl (congrArg (fun z=>some (V.bool z)) e) rfl e6 h
theorem W1{Q:Ae}(hn:4<=n)(hR:R<1000)(h:∀e,FM LZ Q X (exc hd 2) (o7 R t) (B S k m G st++(g++e))):CG n hd 262 [.str t,.int 4,.int R] Q X (B S k m G st++g):=by
 refine stp hn fun n hn=>?_
 have to:∀{o:Option Ask} {μ:MH},FM LZ Q X (exc hd 2) o μ->∀env',YL LZ (fun fl _ μ'=>match fl with|.ret v=>Q v μ'|.next=>Q .none μ'|.cont=>False) X (exc hd 2) o env' μ:=fun{o μ} h _=>by induction o<;>exact h
 unfold o7 at h
 refine QU (md hn rfl) ?_
 intro e0
 refine Ap (fun e=>?_) fun e=>?_
 ·have e:(nP (CR t) pO != 0)=true:=e
  replace h:=e▸h
  exact Za (env:=Ad (Ad (Ad (Ad (Ad (Ad (Ad (fun _=>none) 224 (.str t)) 45 (.int 4)) 49 (.int R)) 261 (.str t)) 1 (.int (nP (CR t) pO))) 14 (.int 0)) 261 (.str (GX t))) (kk:=nP (CR t) pO) (p:=0) (b:=GX t) (t:=t) (md hn rfl) hR rfl rfl rfl rfl rfl rfl (to (h e0))
 ·have e:(nP (CR t) pO != 0)=false:=e
  replace h:=e▸h
  refine QU (md hn rfl) ?_
  intro e1
  have h:=h (e0++e1)
  rw[<- gB g e0 e1]at h
  refine Ap (fun e=>?_) fun e=>?_
  ·have e:(nP (AF t) pq != 0)=true:=e
   replace h:=e▸h
   refine Ap (fun e=>?_) fun e=>?_
   ·have e:(AF (A8 t)==[61])=true:=e
    rw[e]at h
    exact Za (env:=Ad (Ad (Ad (Ad (Ad (Ad (Ad (Ad (Ad (Ad (fun _=>none) 224 (.str t)) 45 (.int 4)) 49 (.int R)) 261 (.str t)) 1 (.int (nP (CR t) pO))) 14 (.int 0)) 1 (.int 1)) 14 (.int (nP (AF t) pq))) 261 (.str (A8 t))) 261 (.str (A8 (A8 t)))) (kk:=1) (p:=nP (AF t) pq) (b:=A8 (A8 t)) (t:=t) (md hn rfl) hR rfl rfl rfl rfl rfl rfl (to h)
   ·have e:(AF (A8 t)==[61])=false:=e
    rw[e]at h
    exact Za (env:=Ad (Ad (Ad (Ad (Ad (Ad (Ad (Ad (Ad (fun _=>none) 224 (.str t)) 45 (.int 4)) 49 (.int R)) 261 (.str t)) 1 (.int (nP (CR t) pO))) 14 (.int 0)) 1 (.int 1)) 14 (.int (nP (AF t) pq))) 261 (.str (A8 t))) (kk:=1) (p:=nP (AF t) pq) (b:=A8 t) (t:=t) (md hn rfl) hR rfl rfl rfl rfl rfl rfl (to h)
  ·have e:(nP (AF t) pq != 0)=false:=e
   replace h:=e▸h
   exact Za (env:=Ad (Ad (Ad (Ad (Ad (Ad (Ad (Ad (fun _=>none) 224 (.str t)) 45 (.int 4)) 49 (.int R)) 261 (.str t)) 1 (.int (nP (CR t) pO))) 14 (.int 0)) 1 (.int 1)) 14 (.int (nP (AF t) pq))) (kk:=1) (p:=nP (AF t) pq) (b:=t) (t:=t) (md hn rfl) hR rfl rfl rfl rfl rfl rfl (to h)
end
theorem Xl(ns:List Int):PyData.eqv (.list (ns.map PyData.int)) (.list [])=ns.isEmpty:=by
 induction ns using List.casesOn<;>rfl
theorem Ul(ns:List Int):PyData.eqv (.list (ns.map PyData.int)) (.list (ns.map PyData.int))=true:=by
 have h:∀l:List Int,PyData.eqvAll (l.map PyData.int) (l.map PyData.int)=true:=fun l=>by
  induction l with
  |nil=>rfl
  |cons a l ih=>simp[PyData.eqvAll,PyData.eqv,ih]
 simp[PyData.eqv,h]
theorem Sr(μ:MH)(j:Nat)(l:List Int):(l.map V.int).mapM (AZ μ j)=some (l.map PyData.int):=by
 induction l with
 |nil=>rfl
 |cons a l ih=>(rewrite[ja];rewrite[ji];refine ih.symm▸?_);induction j using Nat.casesOn<;>rfl
theorem Iy{l:List Int}(h:μ[a]?=some (il l)):AZ μ (j+1) (.l8 a)=some (.list (l.map .int)):=by
 show((By μ a).bind fun xs=>(xs.mapM (AZ μ j)).map _)=_
 rw[CP h]
 show((l.map V.int).mapM (AZ μ j)).map _=_
 rw[Sr];rfl
theorem PH{l:List Int}(ha:μ[a]?=some (il l))(hb:μ[b]?=some (il [])):rC μ (.l8 a) (.l8 b)=some l.isEmpty:=by
 show((AZ μ 5 (.l8 a)).bind fun x=>(AZ μ 5 (.l8 b)).map fun y=>PyData.eqv x y)=_
 (refine(Iy ha).symm▸?_;refine(Iy hb).symm▸?_;rewrite[<- Xl]);rfl
noncomputable def ow(st:St)(v:Int):Int:=Builtin.bitAnd (AB st.board (Ah v).toNat) 7
noncomputable def m6(st:St)(v:Int):Bool:=AB st.board (mo v).toNat != 0
noncomputable def Ee(st:St)(a:Ask)(v:Int):Bool:=
 mo v==a.g&&(Af v==a.p&&(ow st v==a.k&&(m6 st v==a.x&&((decide (a.f<0)||(Ah v).fmod 4==a.f)&&(decide (a.r<0)||(Ah v).fdiv 4==a.r)))))
noncomputable def Gp:List Nat:=[79,45,79]
noncomputable def LW:List Nat:=[79,45,79,45,79]
noncomputable def CF(R:Int)(st:St)(L:List Int)(b:List Nat):Option (List Int):=match b==Gp with
 |true=>some []
 |false=>match b==LW with
  |true=>some []
  |false=>(o7 R b).map fun a=>L.filter (Ee st a)
section
variable{S:List Int}{k:Int}{m:Nat}{G:mi}{st:St}{g:MH}{n:Nat}{hd:Bool}{X:As}{μ:MH}
theorem QZ{Q:Ae}(hn:2<=n)(hl:(st.board.length:Int)=G.size)(M:B0 G v)(h:Q (.bool (m6 st v)) (B S k m G st++g)):CG n hd 248 [.l8 56,.int v] Q X (B S k m G st++g):=by
 refine stp hn fun n hn=>?_
 unfold m6 at h
 refine KO (md hn rfl) ?_
 refine B1 M.t0 (Ct (by have:=M.t0;have:=M.t1;lia)) ?_
 refine Ap (fun e=>?_) fun e=>?_
 ·have e:(AB st.board (mo v).toNat != 0)=true:=e
  replace h:=e▸h
  have q:∀b,b=true->Q (.bool b) (B S k m G st++g):=fun b hb=>by refine hb.symm▸?_;exact h
  exact q _ e
 ·have e:(AB st.board (mo v).toNat != 0)=false:=e
  replace h:=e▸h
  refine EY (md hn rfl) ?_
  have q:∀b,b=false->Q (.bool b) (B S k m G st++g):=fun b hb=>by refine hb.symm▸?_;exact h
  exact q _ (by rcases M.sp with z|z<;>refine z.symm▸?_<;>rfl)
theorem WM{Q:Ae}(hn:1<=n)(h:Q (.int (Builtin.bitAnd p 7)) μ):CG n hd 5 [.int p] Q X μ:=by
 induction n using Nat.casesOn with
 |zero=>exact absurd hn (by decide)
 |succ n=>exact h
theorem TR{Q:Ae}{s:Int}(hn:1<=n)(h:Q (.int (s.fmod 4)) μ):CG n hd 219 [.int 4,.int s] Q X μ:=by
 induction n using Nat.casesOn with
 |zero=>exact absurd hn (by decide)
 |succ n=>exact h
theorem T3{Q:Ae}{s:Int}(hn:1<=n)(h:Q (.int (s.fdiv 4)) μ):CG n hd 220 [.int 4,.int s] Q X μ:=by
 induction n using Nat.casesOn with
 |zero=>exact absurd hn (by decide)
 |succ n=>exact h
noncomputable def aY(a:Ask)(v:Int):An:=Ad (Ad (Ad (Ad (Ad (Ad (Ad (Ad (Ad (Ad (Ad (fun _=>none) 45 (.int 4)) 110 (.l8 56)) 19 (.int v)) 263 (LZ a)) 1 (.int a.k)) 226 (.int a.f)) 225 (.int a.r)) 260 (.bool a.x)) 61 (.int a.g)) 14 (.int a.p)) 11 (.int (Ah v))
theorem QT{Q:Ae}(h:Q (.bool b) μ)(e:b=c):Q (.bool c) μ:=by rw[<- e];exact h
theorem az{Q:Ae}(hn:3<=n)(hl:(st.board.length:Int)=G.size)(M:B0 G v)(h:Q (.bool (Ee st a v)) (B S k m G st++g)):CG n hd 264 [.int 4,.l8 56,.int v,LZ a] Q X (B S k m G st++g):=by
 refine stp hn fun n hn=>?_
 unfold Ee at h
 refine Eu (md hn rfl) ?_
 refine EY (md hn rfl) ?_
 refine Cz (DQ M) ?_
 refine KO (md hn rfl) ?_
 refine Ap (fun e=>?_) fun e=>?_
 ·have e:(mo v==a.g)=false:=by simpa using e
  replace h:=e▸h;exact h
 ·have e:(mo v==a.g)=true:=by simpa using e
  replace h:=e▸h
  refine Dl (md hn rfl) ?_
  refine Ap (fun e=>?_) fun e=>?_
  ·have e:(Af v==a.p)=false:=by simpa using e
   replace h:=e▸h;exact h
  ·have e:(Af v==a.p)=true:=by simpa using e
   replace h:=e▸h
   refine B1 M.f0 (Ct (by have:=M.f0;have:=M.f1;lia)) ?_
   refine WM (md hn rfl) ?_
   refine Ap (fun e=>?_) fun e=>?_
   ·have e:(ow st v==a.k)=false:=by unfold ow;simpa using e
    replace h:=e▸h;exact h
   ·have e:(ow st v==a.k)=true:=by unfold ow;simpa using e
    replace h:=e▸h
    refine QZ (md hn rfl) hl M ?_
    refine Ap (fun e=>?_) fun e=>?_
    ·have e:(m6 st v==a.x)=false:=by simpa using e
     replace h:=e▸h;exact h
    ·have e:(m6 st v==a.x)=true:=by simpa using e
     replace h:=e▸h
     have last:(decide (a.f<0)||(Ah v).fmod 4==a.f)=true->ws l9 (Ak l9 prog n) hd (AT 5 TG) (fun fl _ μ'=>match fl with|.ret v=>Q v μ'|.next=>Q .none μ'|.cont=>False) X (aY a v) (B S k m G st++g):=fun e=>by
      replace h:=e▸h
      refine Ap (fun e2=>?_) fun e2=>?_
      ·have e2:decide (a.r<0)=true:=e2
       exact QT h (by refine e2.symm▸?_;simpa using e2)
      ·have e2:decide (a.r<0)=false:=e2
       refine T3 (md hn rfl) ?_
       exact QT h (by refine e2.symm▸?_;rfl)
     refine Ap (fun e2=>?_) fun e2=>?_
     ·have e2:decide (a.f<0)=false:=by simpa using e2
      refine TR (md hn rfl) ?_
      refine Ap (fun e3=>?_) fun e3=>?_
      ·have e3:((Ah v).fmod 4==a.f)=false:=by simpa using e3
       (rw[e2]at h;replace h:=e3▸h);exact h
      ·have e3:((Ah v).fmod 4==a.f)=true:=by simpa using e3
       exact last (by refine e3.symm▸?_;simp)
     ·have e2:decide (a.f<0)=true:=by simpa using e2
      exact last (by refine e2.symm▸?_;rfl)
end
section
variable{S:List Int}{k:Int}{m:Nat}{G:mi}{st:St}{g:MH}{n:Nat}{hd:Bool}{X:As}{μ:MH}
noncomputable def csB:MS:=fb (mY 0 (ft (mY 1 FY)))
theorem Q3{Q:Au}(hn:1<=n)(hi:μ[i]?=some (.list XS))(L:List Int):∀(_:∀v∈L,B0 G v) (env:An),
  (∀env',env' 31=env 31->Q .next env' μ)->
  BA (some (i,XS)) (fun v K env' μ'=>opt (AC [19] true v env') fun e=>ws l9 (Ak l9 prog n) hd csB K X e μ') (L.map .int) Q env μ:=by
 induction L with
 |nil=>intro _ env h;exact⟨hi,h env rfl⟩
 |cons v L ih=>
  intro hL env h
  refine⟨hi,?_⟩
  refine EY hn ?_
  refine Cz (DQ (hL v gR)) ?_
  exact ih (fun s hs=>hL s (gH _ hs)) _ h
noncomputable def fiB:MS:=fb (mY 3 FY)
theorem Xo{Q:Au}(hn:3<=n)(hb:(st.board.length:Int)=G.size)(ij:j≠i)(L:List Int):∀(_:∀v∈L,B0 G v) (g:MH) (xs:List Int) (env:An),g[i]?=some (.list XS)->g[j]?=some (il xs)->xs.length+L.length<90000->
  env 45=some (.int 4)->env 110=some (.l8 56)->env 263=some (LZ a)->env 31=some (.l8 (j+61))->
  (∀env',env' 31=some (.l8 (j+61))->Q .next env' (B S k m G st++g.set j (il (xs++L.filter (Ee st a)))))->
  BA (some (i+61,XS)) (fun v K env' μ'=>opt (AC [19] true v env') fun e=>ws l9 (Ak l9 prog n) hd fiB K X e μ') (L.map .int) Q env (B S k m G st++g):=by
 induction L with
 |nil=>
  intro _ g xs env hi hj hl e1 e2 e3 e4 h
  have h:=h env e4
  rw[li,gK,Bj hj]at h
  exact⟨hi,h⟩
 |cons v L ih=>
  intro hL g xs env hi hj hl e1 e2 e3 e4 h
  have hv:=hL v gR
  have oW:∀v∈L,B0 G v:=fun s hs=>hL s (gH _ hs)
  rw[gY]at hl
  refine⟨hi,?_⟩
  refine Ab e1 ?_
  refine Ab e2 ?_
  refine Ab e3 ?_
  refine az hn hb hv ?_
  refine Ap (fun e=>?_) fun e=>?_
  ·rw[jl e]at h
   refine Ab e4 ?_
   refine Dh hj ?_
   refine Ab (DA hj) ?_
   refine Aj (room (hH (hY _ _) (iB hl (by decide)))) ?_
   rw[Fg]
   refine ih oW (g.set j (il (xs++[v]))) (xs++[v]) _ (by rw[hG ij];exact hi) (AK hj) (by rw[gF];show _+1+_<_;exact S7 hl) e1 e2 e3 e4 fun env' a=>?_
   have h:=h env' a
   rw[ig,gB]
   exact h
  ·rw[jm (by rw[e];exact iT)]at h
   exact ih oW g xs _ hi hj (by exact YF hl) e1 e2 e3 e4 h
theorem Sk{Q:Ae}{L:List Int}(hn:5<=n)(hR:R<1000)(hb:(st.board.length:Int)=G.size)(hL:∀v∈L,B0 G v)(hi:g[i]?=some (il L))(hl:L.length<80000)
  (hN:CF R st L b=none->∀e,X (exc hd 2) (B S k m G st++(g++e))) (hS:∀l,CF R st L b=some l->∀e j,(g++e)[j]?=some (il l)->Q (.l8 (j+61)) (B S k m G st++(g++e))):CG n hd 265 [.int 4,.int R,.l8 56,.l8 (i+61),.str b] Q X (B S k m G st++g):=by
 refine stp hn fun n hn=>?_
 unfold CF at hN hS
 have hj:(g++[il []])[g.length]?=some (il []):=gD
 have hx:=Bc (S:=S) (k:=k) (m:=m) (G:=G) (st:=st) (Ac hi [il []])
 have qb:=A5 (S:=S) (k:=k) (m:=m) (G:=G) (st:=st) (Ac hi [il []])
 refine Ap (fun e=>?_) fun e=>?_
 ·have e:(b==Gp)=true:=e
  replace hS:=e▸hS
  refine Ab hx ?_
  refine A0 ?_
  refine Q3 (μ:=B S k m G st++(g++[il []])) (md hn rfl) qb L hL _ fun env' a=>?_
  refine Ab a ?_
  exact hS [] rfl [il []] g.length hj
 ·have e:(b==Gp)=false:=e
  (replace hN:=e▸hN;replace hS:=e▸hS)
  refine Ap (fun e=>?_) fun e=>?_
  ·have e:(b==LW)=true:=e
   replace hS:=e▸hS
   refine Ab hx ?_
   refine A0 ?_
   refine Q3 (μ:=B S k m G st++(g++[il []])) (md hn rfl) qb L hL _ fun env' a=>?_
   refine Ab a ?_
   exact hS [] rfl [il []] g.length hj
  ·have e:(b==LW)=false:=e
   (replace hN:=e▸hN;replace hS:=e▸hS)
   conv=>whnf
   refine W1 (g:=g++[il []]) (md hn rfl) hR fun e0=>?_
   revert hN hS
   cases o7 R b with
   |none=>intro hN _;have hN:=hN rfl ([il []]++e0);rw[<- gB g]at hN;exact hN
   |some a=>
    intro _ hS
    have hS:=hS _ rfl
    refine Ab (Bc (Ac (Ac hi [il []]) e0)) ?_
    refine A0 ?_
    refine Xo (j:=g.length) (i:=i) (a:=a) (XS:=L.map .int) (md hn rfl) hb (iQ (BY hi)) L hL ((g++[il []])++e0) [] _ (Ac (Ac hi _) _) (Ac hj _) (by show 0+_<_;exact YG hl) ?_ ?_ ?_ ?_ fun env' z=>?_
    any_goals rfl
    refine Ab z ?_
    rw[AR hj,hU _ _ (gM _),iI]
    have q6:((g++[il (L.filter (Ee st a))])++e0)[g.length]?=some (il (L.filter (Ee st a))):=Ac gD e0
    rw[gB]at q6 ⊢
    exact hS _ _ q6
noncomputable def LB:Option (List Int)->Option Int
 |some [v]=>some v
 |_=>none
theorem aH{Q:Ae}{L:List Int}(hn:6<=n)(hR:R<1000)(hb:(st.board.length:Int)=G.size)(hL:∀v∈L,B0 G v)(hi:g[i]?=some (il L))(hl:L.length<80000)
  (hN:LB (CF R st L (AX t).1)=none->∀c e,c=2\/c=3->X (exc hd c) (B S k m G st++(g++e))) (hS:∀v,LB (CF R st L (AX t).1)=some v->∀e,Q (.tup [.int v,.str (AX t).2]) (B S k m G st++(g++e))):CG n hd 266 [.int 4,.int R,.l8 56,.l8 (i+61),.str t] Q X (B S k m G st++g):=by
 refine stp hn fun n hn=>?_
 refine TP (md hn rfl) ?_
 refine Sk (md hn rfl) hR hb hL hi hl (fun e=>?_) fun l e e' j hj=>?_
 ·intro e'
  exact hN (by refine e.symm▸?_;rfl) 2 e' (.inl rfl)
 ·(replace hN:=e▸hN;replace hS:=e▸hS)
  have q1:(B S k m G st++(g++e')++[il []])[j+61]?=some (il l):=Ac (A5 hj) _
  have q2:(B S k m G st++(g++e')++[il []])[(B S k m G st++(g++e')).length]?=some (il []):=gD
  refine Ab (PH q1 q2) ?_
  match l,hj,hN,hS,q1 with
  |[],hj,hN,hS,q1=>
   conv=>whnf
   rw[gB,gB]
   exact hN rfl 2 _ (.inl rfl)
  |[v],hj,hN,hS,q1=>
   refine Ab (CP q1) ?_
   refine AO q1 (iE 0) (by show(0:Int)<1;decide) ?_
   conv=>whnf
   rw[gB,gB]
   exact hS v rfl _
  |v :: w :: l,hj,hN,hS,q1=>
   refine Ab (CP q1) ?_
   refine DU (gG (by(rewrite[g6];rewrite[gY];refine List.length_cons.symm▸?_);exact mO (mz _) (.add (.num 1) (.num 1)) (.add (mw 0 1) (.num 1)) (.num 0) mq rfl (gW _))) ?_
   conv=>whnf
   rw[gB,gB]
   exact hN rfl 3 _ (.inr rfl)
theorem SU(h:LB (CF R st L b)=some v):v∈L:=by
 have q:∀l,CF R st L b=some l->∀x∈l,x∈L:=fun l e x hx=>by
  unfold CF at e
  split at e
  ·obtain rfl:=Option.some.inj e;exact nomatch hx
  ·split at e
   ·obtain rfl:=Option.some.inj e;exact nomatch hx
   ·cases z:o7 R b with
    |none=>replace e:=z▸e;exact Ao e
    |some a=>replace e:=z▸e;obtain rfl:=Option.some.inj e;exact(List.mem_filter.mp hx).1
 cases e:CF R st L b with
 |none=>replace h:=e▸h;exact Ao h
 |some l=>
  replace h:=e▸h
  match l,e,h with
  |[w],e,h=>obtain rfl:=Option.some.inj h;exact q _ e _ gR
structure Es(G:mi)(m:Nat)(st:St)(mk:Int->List Nat):Prop where
 R:HN G st
 hist:st.hist.length<1000
 mv:∀v∈Ay G st,∃kd tk,Mv G st v kd tk/\HN G (Il m st kd tk v)/\mk v=JX G (Il m st kd tk v)
theorem Es.ok{mk:Int->List Nat}(F:Es G m st mk):∀v∈Ay G st,B0 G v:=fun v h=>by
 obtain⟨_,_,V,_⟩:=F.mv v h
 exact V.M
theorem Hy:(Ay G st).length<80000:=hH (lQ _ _) (B6 G st)
noncomputable def Db(s mk:List Nat):Bool:=s==[]||mk==s
noncomputable def VY(mk:Int->List Nat)(G:mi)(st:St)(t:List Nat):Option Int:=(LB (CF G.ranks st (Ay G st) (AX t).1)).filter fun v=>Db (AX t).2 (mk v)
theorem Ny{mk:Int->List Nat}{K:V->MH->Prop}(hn:11<=n)(GC:Cj G m)(F:Es G m st mk)(hv:v∈Ay G st)
  (h:∀e,K (.str (mk v)) (B S k m G st++(g++e))):CG n hd 253 [.l8 54,.int v] K X (B S k m G st++g):=by
 obtain⟨kd,tk,V,R,e⟩:=F.mv v hv
 refine aK hn F.R.C V GC F.hist R ?_
 refine e▸?_;exact h
theorem dX{Q:Ae}{mk:Int->List Nat}(hn:12<=n)(GC:Cj G m)(F:Es G m st mk)
  (hN:VY mk G st t=none->∀c e,c=2\/c=3->X (exc hd c) (B S k m G st++(g++e))) (hS:∀v,VY mk G st t=some v->∀e,Q (.int v) (B S k m G st++(g++e))):CG n hd 267 [.l8 54,.str t] Q X (B S k m G st++g):=by
 refine stp hn fun n hn=>?_
 unfold VY at hN hS
 refine Fr (md hn rfl) GC.S F.R.C.low F.R.q0 F.R.q1 GC.hr F.R.ps (B6 G st) ?_
 intro e j hj
 refine aH (md hn rfl) GC.rk F.R.C.len F.ok hj Hy (fun z c e' hc=>?_) fun v z e'=>?_
 ·rw[gB]
  exact hN (by refine z.symm▸?_;rfl) c _ hc
 ·have hv:=SU z
  rw[z]at hN hS
  have hS:Db (AX t).2 (mk v)=true->∀e,Q (.int v) (B S k m G st++(g++e)):=fun a=>hS v (by show(if Db _ _=true then some v else none)=_;exact(iP a))
  have hN:Db (AX t).2 (mk v)=false->∀c e,c=2\/c=3->X (exc hd c) (B S k m G st++(g++e)):=fun a=>hN (by show(if Db _ _=true then some v else none)=_;refine a.symm▸?_;rfl)
  unfold Db at hS hN
  conv=>whnf
  rw[gB]
  refine Ap (fun e1=>?_) fun e1=>?_
  ·have e1:((AX t).2==[])=false:=by simpa using e1
   rw[e1]at hS hN
   refine Ny (md hn rfl) GC F hv fun e2=>?_
   rw[gB]
   refine Ap (fun e3=>?_) fun e3=>?_
   ·have e3:(mk v==(AX t).2)=false:=by simpa using e3
    exact hN e3 2 _ (.inl rfl)
   ·have e3:(mk v==(AX t).2)=true:=by simpa using e3
    exact hS e3 _
  ·have e1:((AX t).2==[])=true:=by simpa using e1
   rw[e1]at hS
   exact hS rfl _
end
noncomputable def m9(s:Int):List Nat:=[97+(s.fmod 4).toNat,49+(s.fdiv 4).toNat]
noncomputable def DZ(kd:Nat):List Nat:=match kd with
 |1=>[]
 |kd=>[m8 kd]
noncomputable def BD(x:Bool)(e:List Nat):List Nat:=match x with|true=>[120]|false=>e
noncomputable def FJ(p:Int):List Nat:=match p==0 with|true=>[]|false=>[61]++[m8 p.toNat]
theorem aR{p:Nat}(h:((p:Int)==0)=false):FJ p=[61]++[m8 p]:=by unfold FJ;rw[h];rfl
noncomputable def Dd(kd:Nat)(x:Bool)(v:Int)(p:Int):List Nat:=DZ kd++m9 (Ah v)++BD x [45]++m9 (mo v)++FJ p
section
variable{S:List Int}{k:Int}{m:Nat}{G:mi}{st:St}{g:MH}{n:Nat}{hd:Bool}{X:As}{μ:MH}
theorem Dg(e:2<=kd):DZ kd=[m8 kd]:=by
 unfold DZ
 split
 ·exact absurd e (by decide)
 ·rfl
theorem TV{Q:Ae}(hn:1<=n)(h0:0<=s)(h1:s<20)(h:Q (.str (m9 s)) μ):CG n hd 223 [.int 4,.int s] Q X μ:=by
 refine stp hn fun n hn=>?_
 refine Cz (gZ (by exact Int.not_lt.mpr (OA h0))) ?_
 refine Cz (gZ (by show ¬(4*8:Int)<=s;exact Int.not_le.mpr (mO (mz _) (mw 0 1) (.mulL 4 (.num 8)) (mw 0 1) (.num 20) rfl h1))) ?_
 have q1:B7 μ (.str [97,98,99,100,101,102,103,104]) (.int (s.fmod 4))=some (.str [97+(s.fmod 4).toNat]):=by
  rcases(by lia:s.fmod 4=0\/s.fmod 4=1\/s.fmod 4=2\/s.fmod 4=3)with e|e|e|e<;>refine e.symm▸?_<;>rfl
 have q2:B7 μ (.str [49,50,51,52,53,54,55,56]) (.int (s.fdiv 4))=some (.str [49+(s.fdiv 4).toNat]):=by
  rcases(by lia:s.fdiv 4=0\/s.fdiv 4=1\/s.fdiv 4=2\/s.fdiv 4=3\/s.fdiv 4=4)with e|e|e|e|e<;>refine e.symm▸?_<;>rfl
 refine Ag q1 ?_
 refine Ag q2 ?_
 exact h
noncomputable def ZQ(kd:Nat)(v:Int):An:=Ad (Ad (Ad (Ad (fun _=>none) 45 (.int 4)) 110 (.l8 56)) 19 (.int v)) 1 (.int kd)
theorem eK{Q:Ae}{t:List Nat}(hn:3<=n)(C:mM G st)(M:B0 G v)(oK:G.size<=20)(pr:Af v=0\/∃p:Nat,2<=p/\p<7/\Af v=p)(ht:t.length<=5)(e1:env 45=some (.int 4))(e2:env 110=some (.l8 56))(e3:env 19=some (.int v))(e4:env 224=some (.str t))
  (h:Q (.str (t++BD (m6 st v) [45]++m9 (mo v)++FJ (Af v))) (B S k m G st++g)) :
  ws l9 (Ak l9 prog n) hd (AT 4 Hc) (fun fl _ μ'=>match fl with|.ret v=>Q v μ'|.next=>Q .none μ'|.cont=>False) X env (B S k m G st++g):=by
 have oG:=gS M.t1 oK
 refine Ab e2 ?_
 refine Ab e3 ?_
 refine QZ (gI (by decide) hn) C.len M ?_
 have tail:∀(env:An) (u:List Nat),u.length<=6->env 45=some (.int 4)->env 19=some (.int v)->env 224=some (.str u)->Q (.str (u++m9 (mo v)++FJ (Af v))) (B S k m G st++g)->
   ws l9 (Ak l9 prog n) hd (AT 5 Hc) (fun fl _ μ'=>match fl with|.ret v=>Q v μ'|.next=>Q .none μ'|.cont=>False) X env (B S k m G st++g):=by
  intro env u hu a1 a2 a3 h
  refine Ab a3 ?_
  refine Ab a1 ?_
  refine Ab a2 ?_
  refine KO (gI (by decide) hn) ?_
  refine TV (gI (by decide) hn) M.t0 oG ?_
  refine Aj (gG (by show u.length+2<=lim;unfold lim;exact mU (mz _) (mD 0 2) (.num 1000000) mu (.num 6) rfl hu)) ?_
  refine Ab a2 ?_
  refine Dl (gI (by decide) hn) ?_
  rcases pr with e|⟨p,p2,p7,e⟩
  ·rw[e]at h ⊢
   conv=>whnf
   have h:Q (.str (u++m9 (mo v)++[])) (B S k m G st++g):=h
   rw[gK]at h
   exact h
  ·rw[e]at h ⊢
   have z:((p:Int)==0)=false:=by rw[gX];exact iJ (Na (Int.ofNat_le.mpr p2))
   replace h:=(aR z)▸h
   refine DU (by refine z.symm▸?_;rfl) ?_
   refine Aj (gG (by refine List.length_append.symm▸?_;show u.length+2+1<=lim;unfold lim;exact mU (mz _) (.add (mD 0 2) (.num 1)) (.num 1000000) mu (.num 6) rfl hu)) ?_
   refine Ab a2 ?_
   refine Dl (gI (by decide) hn) ?_
   refine e.symm▸?_
   refine Jp (gI (by decide) hn) p2 p7 ?_
   refine Aj (gG (by(refine List.length_append.symm▸?_;rewrite[gF]);show u.length+2+1+1<=lim;unfold lim;exact mU (mz _) (.add (.add (mD 0 2) (.num 1)) (.num 1)) (.num 1000000) mu (.num 6) rfl hu)) ?_
   rw[<- gB]at h
   exact h
 refine Ap (fun e=>?_) fun e=>?_
 ·replace h:=e▸h
  refine Ab e4 ?_
  refine Aj (gG (by show t.length+1<=lim;unfold lim;exact fg ht)) ?_
  exact tail (Ad env 224 (.str (t++[120]))) (t++[120]) (by refine List.length_append.symm▸?_;show t.length+1<=6;exact cr ht) e1 e3 rfl h
 ·replace h:=e▸h
  refine Ab e4 ?_
  refine Aj (gG (by show t.length+1<=lim;unfold lim;exact fg ht)) ?_
  exact tail (Ad env 224 (.str (t++[45]))) (t++[45]) (by refine List.length_append.symm▸?_;show t.length+1<=6;exact cr ht) e1 e3 rfl h
theorem aG{Q:Ae}(hn:4<=n)(C:mM G st)(V:Mv G st v kd tk)(oK:G.size<=20)(pr:Af v=0\/∃p:Nat,2<=p/\p<7/\Af v=p)
  (h:Q (.str (Dd kd (m6 st v) v (Af v))) (B S k m G st++g)):CG n hd 268 [.int 4,.l8 56,.int v] Q X (B S k m G st++g):=by
 cases n with
 |zero=>exact absurd hn (by decide)
 |succ n=>
  have M:=V.M
  have pA:=gS M.f1 oK
  have hb:=Ct (A4 C M.f0 M.f1)
  rw[V.src]at hb
  refine EY (md hn rfl) ?_
  refine Cz (DQ M) ?_
  refine Eu (md hn rfl) ?_
  refine B1 M.f0 hb ?_
  refine Eb (md hn rfl) (hJ V.k7) ?_
  refine Eu (md hn rfl) ?_
  refine TV (md hn rfl) M.f0 pA ?_
  unfold Dd at h
  rcases(by have:=V.k1;lia:kd=1\/2<=kd)with e|e
  ·subst e
   exact eK (env:=Ad (ZQ 1 v) 224 (.str (m9 (Ah v)))) (t:=m9 (Ah v)) (md hn rfl) C M oK pr (by show 2<=5;decide) rfl rfl rfl rfl h
  ·rw[Dg e]at h
   refine DU (by rw[jq,gX];exact iJ (mO (mz _) (.add (.num 1) (.num 1)) mq (.num 2) mq rfl (Int.ofNat_le.mpr e))) ?_
   refine Jp (md hn rfl) e V.k7 ?_
   exact eK (env:=Ad (Ad (ZQ kd v) 224 (.str (m9 (Ah v)))) 224 (.str ([m8 kd]++m9 (Ah v)))) (t:=[m8 kd]++m9 (Ah v)) (md hn rfl) C M oK pr (by show 3<=5;decide) rfl rfl rfl rfl h
theorem Mv.pr(V:Mv G st v kd tk):Af v=0\/∃p:Nat,2<=p/\p<7/\Af v=p:=by
 rcases V.M.sp with e|e
 ·left;unfold Af;refine e.symm▸?_;rfl
 ·obtain⟨_,p,h1,h2,h3⟩:=V.oy e
  exact .inr ⟨p,h1,by exact S8 h2,h3⟩
theorem Mv.ow(V:Mv G st v kd tk):Mine.ow st v=kd:=by
 unfold Mine.ow;rw[V.src];exact IH _ (hJ V.k7)
noncomputable def oo(st:St)(v:Int):List Nat:=Dd (Mine.ow st v).toNat (m6 st v) v (Af v)
noncomputable def gn:MS:=fb (mY 1 HQ)
theorem XU{Q:Au}(hn:4<=n)(C:mM G st)(oK:G.size<=20)(hi:(B S k m G st++g)[i]?=some (.list XS))(L:List Int):∀(_:∀v∈L,∃kd tk,Mv G st v kd tk) (env:An),env 45=some (.int 4)->env 110=some (.l8 56)->env 261=some (.str b)->env 224=some (.str t)->
  (∀env',env' 224=some (.str t)->env' 252=env 252->match L.find? (fun v=>oo st v==b)with|some v=>∀w,env 252=some w->Q (.ret (.tup [.int v,w])) env' (B S k m G st++g)|none=>Q .next env' (B S k m G st++g))->(∃w,env 252=some w)->
  BA (some (i,XS)) (fun v K env' μ'=>opt (AC [19] true v env') fun e=>ws l9 (Ak l9 prog n) hd gn K X e μ') (L.map .int) Q env (B S k m G st++g):=by
 induction L with
 |nil=>intro _ env a1 a2 a3 a4 h _;exact⟨hi,h env a4 rfl⟩
 |cons v L ih=>
  intro hL env a1 a2 a3 a4 h hw
  obtain⟨kd,tk,V⟩:=hL v gR
  refine⟨hi,?_⟩
  refine Ab a1 ?_
  refine Ab a2 ?_
  refine aG hn C V oK V.pr ?_
  refine Ab a3 ?_
  have q:oo st v=Dd kd (m6 st v) v (Af v):=by unfold oo;rw[V.ow];rfl
  refine Ap (fun e=>?_) fun e=>?_
  ·have e:(oo st v==b)=true:=by rw[q];exact e
   obtain⟨w,hw⟩:=hw
   have h:=h (Ad env 19 (.int v)) a4 rfl
   rw[ix,e]at h
   refine Ab hw ?_
   exact h w hw
  ·have e:(oo st v==b)=false:=by rw[q];exact e
   refine ih (fun s hs=>hL s (gH _ hs)) _ a1 a2 a3 a4 (fun env' b1 b2=>?_) hw
   have h:=h env' b1 b2
   rw[ix,e]at h
   exact h
theorem WS{Q:Ae}{L:List Int}(hn:5<=n)(C:mM G st)(oK:G.size<=20)(hL:∀v∈L,∃kd tk,Mv G st v kd tk)(hi:g[i]?=some (il L))
  (hN:L.find? (fun v=>oo st v==(AX t).1)=none->X (exc hd 1) (B S k m G st++g)) (hS:∀v,L.find? (fun v=>oo st v==(AX t).1)=some v->Q (.tup [.int v,.str (AX t).2]) (B S k m G st++g)):CG n hd 269 [.int 4,.l8 56,.l8 (i+61),.str t] Q X (B S k m G st++g):=by
 refine stp hn fun n hn=>?_
 refine TP (md hn rfl) ?_
 refine Ab (Bc hi) ?_
 refine A0 ?_
 refine XU (b:=(AX t).1) (t:=t) (md hn rfl) C oK (A5 hi) L hL _ ?_ ?_ ?_ ?_ (fun env' a b=>?_) ⟨_,rfl⟩
 any_goals rfl
 cases e:L.find? (fun v=>oo st v==(AX t).1) with
 |some v=>intro w hw;obtain rfl:=Option.some.inj hw;exact hS v e
 |none=>
  refine Ab a ?_
  exact hN e
noncomputable def Oo(mk:Int->List Nat)(G:mi)(st:St)(t:List Nat):Option Int:=((Ay G st).find? fun v=>oo st v==(AX t).1).filter fun v=>Db (AX t).2 (mk v)
theorem TX{Q:Ae}{mk:Int->List Nat}(hn:12<=n)(GC:Cj G m)(F:Es G m st mk)
  (hN:Oo mk G st t=none->∀e,X (exc hd 1) (B S k m G st++(g++e))) (hS:∀v,Oo mk G st t=some v->∀e,Q (.int v) (B S k m G st++(g++e))):CG n hd 270 [.l8 54,.str t] Q X (B S k m G st++g):=by
 refine stp hn fun n hn=>?_
 unfold Oo at hN hS
 refine Fr (md hn rfl) GC.S F.R.C.low F.R.q0 F.R.q1 GC.hr F.R.ps (B6 G st) ?_
 intro e j hj
 refine WS (md hn rfl) F.R.C GC.S.top (fun v h=>by obtain⟨kd,tk,V,_⟩:=F.mv v h;exact⟨kd,tk,V⟩) hj (fun z=>hN (by refine z.symm▸?_;rfl) _) fun v z=>?_
 have hv:=List.mem_of_find?_eq_some z
 rw[z]at hN hS
 have hS:Db (AX t).2 (mk v)=true->∀e,Q (.int v) (B S k m G st++(g++e)):=fun a=>hS v (by show(if Db _ _=true then some v else none)=_;exact(iP a))
 have hN:Db (AX t).2 (mk v)=false->∀e,X (exc hd 1) (B S k m G st++(g++e)):=fun a=>hN (by show(if Db _ _=true then some v else none)=_;refine a.symm▸?_;rfl)
 unfold Db at hS hN
 refine Ap (fun e1=>?_) fun e1=>?_
 ·have e1:((AX t).2==[])=false:=by simpa using e1
  (replace hS:=e1▸hS;replace hN:=e1▸hN)
  refine Ny (md hn rfl) GC F hv fun e2=>?_
  rw[gB]
  refine Ap (fun e3=>?_) fun e3=>?_
  ·have e3:(mk v==(AX t).2)=false:=by simpa using e3
   exact hN e3 _
  ·have e3:(mk v==(AX t).2)=true:=by simpa using e3
   exact hS e3 _
 ·have e1:((AX t).2==[])=true:=by simpa using e1
  rw[e1]at hS
  exact hS rfl _
end
noncomputable def fd(c:Nat):Int:=AE c oi 0
theorem E8(c:Nat)(l:List Nat):∀i:Int,0<=i->AE c l i = -1\/(i<=AE c l i/\AE c l i<i+l.length):=by
 induction l with
 |nil=>intro i _;exact .inl rfl
 |cons x l ih=>
  intro i h
  unfold AE
  rw[gY]
  split
  ·right;exact⟨oE (mz _) mq mq rfl,mO (m4 _ _) (mw 0 1) (.add mq (mw 1 1)) (.num 0) mW rfl (gW _)⟩
  ·rcases ih (i+1) (by exact OB h)with e|e
   ·exact .inl e
   ·right;exact⟨mO (m4 _ _) mq mW (mw 0 1) mW rfl e.1,mO (nI _ _ _) (mw 1 1) (.add mq (mw 2 1)) (mw 1 1) (.add (mw 0 1) oQ) rfl e.2⟩
theorem d9(c:Nat):-1<=fd c/\fd c<8:=by
 have h:=E8 c oi 0 (iE 0)
 replace h:=(show oi.length=8 from rfl)▸h
 unfold fd
 lia
noncomputable def JM(R a b:Int):Bool:=decide (0<=a)&&(decide (a<4)&&(decide (0<=b)&&decide (b<R)))
noncomputable def Le(R:Int)(xs:List Int)(L:List Nat):Bool:=L.all fun i=>JM R (xs.getD i 0) (xs.getD (i+1) 0)
noncomputable def Im(R a b c d p:Int):Option (Int×Int×Int):=match JM R a b&&JM R c d with
 |true=>some (b*4+a,d*4+c,p)
 |false=>none
noncomputable def KZ(R:Int):List Nat->Option (Int×Int×Int)
 |[a,b,c,d]=>Im R (fd a) (fd b) (fd c) (fd d) 0
 |[a,b,c,d,e]=>match decide (0<=fd e)&&decide (fd e<4) with
  |true=>Im R (fd a) (fd b) (fd c) (fd d) (5 - fd e)
  |false=>none
 |_=>none
section
variable{S:List Int}{k:Int}{m:Nat}{G:mi}{st:St}{g:MH}{n:Nat}{hd:Bool}{X:As}{μ:MH}
noncomputable def icB:MS:=fb (mY 2 DJ)
theorem Rm{Q:Au}(L:List Nat):∀(g:MH) (xs:List Int) (env:An),g[j]?=some (il xs)->xs.length+L.length<1000->env 271=some (.l8 (j+61))->
  (∀env',(∀x,x≠252->env' x=env x)->Q .next env' (B S k m G st++g.set j (il (xs++L.map fd))))->
  BA none (fun v K env' μ'=>opt (AC [252] true v env') fun e=>ws l9 (Ak l9 prog n) hd icB K X e μ') (L.map fun c=>.str [c]) Q env (B S k m G st++g):=by
 induction L with
 |nil=>
  intro g xs env hj hl e1 h
  have h:=h env fun _ _=>rfl
  rw[lJ,gK,Bj hj]at h
  exact h
 |cons c L ih=>
  intro g xs env hj hl e1 h
  rw[gY]at hl
  refine Ab e1 ?_
  refine Dh hj ?_
  refine Ab (DA hj) ?_
  refine Aj (room (by exact fj hl)) ?_
  rw[Fg]
  refine ih (g.set j (il (xs++[fd c]))) (xs++[fd c]) _ (AK hj) (by rw[gF];show _+1+_<_;exact fk hl) e1 fun env' a=>?_
  have h:=h env' fun x hx=>(a x hx).trans (iO hx)
  rw[ig,gB]
  exact h
noncomputable def ckB:MS:=fb (mY 3 DJ)
theorem Q2{Q:Au}{xs:List Int}(hi:(B S k m G st++g)[i]?=some (.list XS))(hj:g[j]?=some (il xs))(L:List Nat):∀(_:∀x∈L,x+1<xs.length) (env:An),env 271=some (.l8 (j+61))->env 45=some (.int 4)->env 49=some (.int R)->env 224=some (.str t)->
  (Le R xs L=false->X (exc hd 1) (B S k m G st++g))->(Le R xs L=true->∀env',(∀x,x≠272->env' x=env x)->Q .next env' (B S k m G st++g))->
  BA (some (i,XS)) (fun v K env' μ'=>opt (AC [272] true v env') fun e=>ws l9 (Ak l9 prog n) hd ckB K X e μ') (L.map fun(x:Nat)=>.int x) Q env (B S k m G st++g):=by
 induction L with
 |nil=>intro _ env e1 e2 e3 e4 hN hS;exact⟨hi,hS rfl env fun _ _=>rfl⟩
 |cons y L ih=>
  intro hL env e1 e2 e3 e4 hN hS
  have hy:=hL y gR
  have oW:∀x∈L,x+1<xs.length:=fun s hs=>hL s (gH _ hs)
  have un:Le R xs (y :: L)=(JM R (xs.getD y 0) (xs.getD (y+1) 0)&&Le R xs L):=rfl
  (replace hN:=un▸hN;replace hS:=un▸hS)
  unfold JM at hN hS
  have p1:((y:Int)+1).toNat=y+1:=by rfl
  have p0:((y:Int)).toNat=y:=by rfl
  refine⟨hi,?_⟩
  refine Ab e1 ?_
  refine AO (A5 hj) (gW y) (by exact mO (m4 _ _) (mw 0 1) mW (.add (mw 0 1) (.num 1)) mW rfl (Int.ofNat_lt.mpr hy)) ?_
  refine Ap (fun e=>?_) fun e=>?_
  ·have e:decide (0<=xs.getD y 0)=true:=e
   (replace hN:=e▸hN;replace hS:=e▸hS)
   refine Ab e2 ?_
   refine Ap (fun e=>?_) fun e=>?_
   ·have e:decide (xs.getD y 0<4)=false:=by simpa using e
    replace hN:=e▸hN
    refine Ab e4 ?_
    exact hN rfl
   ·have e:decide (xs.getD y 0<4)=true:=by simpa using e
    (replace hN:=e▸hN;replace hS:=e▸hS)
    refine Ab e1 ?_
    refine AO (A5 hj) (by exact OB (gW _)) (by exact mO (m4 _ _) (.add (mw 0 1) (.num 1)) mW (.add (mw 0 1) (.num 1)) mW rfl (Int.ofNat_lt.mpr hy)) ?_
    refine Ap (fun e=>?_) fun e=>?_
    ·have e:decide (0<=xs.getD (y+1) 0)=true:=e
     (replace hN:=e▸hN;replace hS:=e▸hS)
     refine Ab e3 ?_
     refine Ap (fun e=>?_) fun e=>?_
     ·have e:decide (xs.getD (y+1) 0<R)=false:=by simpa using e
      replace hN:=e▸hN
      refine Ab e4 ?_
      exact hN rfl
     ·have e:decide (xs.getD (y+1) 0<R)=true:=by simpa using e
      (replace hN:=e▸hN;replace hS:=e▸hS)
      refine ih oW _ e1 e2 e3 e4 hN fun z env' a=>hS z env' fun x hx=>(a x hx).trans (iO hx)
    ·have e:decide (0<=xs.getD (y+1) 0)=false:=e
     replace hN:=e▸hN
     refine Ab e4 ?_
     exact hN rfl
  ·have e:decide (0<=xs.getD y 0)=false:=e
   replace hN:=e▸hN
   refine Ab e4 ?_
   exact hN rfl
theorem UD{Q:Au}{xs:List Int}(hj:g[j]?=some (il xs))(hl:3<xs.length)(hs:∀i, -1<=xs.getD i 0/\xs.getD i 0<8)(e1:env 271=some (.l8 (j+61)))(e2:env 45=some (.int 4))(e3:env 14=some (.int p))
  (h:∀env',Q (.ret (QG (xs.getD 1 0*4+xs.getD 0 0,xs.getD 3 0*4+xs.getD 2 0,p))) env' (B S k m G st++g)):ws l9 (Ak l9 prog n) hd (AT 6 DJ) Q X env (B S k m G st++g):=by
 have sm:∀i,small (xs.getD i 0)=true:=fun i=>D1 (by have:=hs i;lia) (by have:=hs i;lia)
 refine Ab e1 ?_
 refine AO (A5 hj) (by decide) (by exact mO (mz _) (.add (.num 1) (.num 1)) mq (.add (.num 3) (.num 1)) mq rfl (Int.ofNat_lt.mpr hl)) ?_
 refine Ab e2 ?_
 refine Aj (sm 1) ?_
 refine Ab e1 ?_
 refine AO (A5 hj) (by decide) (by exact mO (mz _) (.add (.num 0) (.num 1)) mq (.add (.num 3) (.num 1)) mq rfl (Int.ofNat_lt.mpr hl)) ?_
 refine Ab e1 ?_
 refine AO (A5 hj) (by decide) (by exact mO (mz _) (.add (.num 3) (.num 1)) mq (.add (.num 3) (.num 1)) mq rfl (Int.ofNat_lt.mpr hl)) ?_
 refine Ab e2 ?_
 refine Aj (sm 3) ?_
 refine Ab e1 ?_
 refine AO (A5 hj) (by decide) (by exact mO (mz _) (.add (.num 2) (.num 1)) mq (.add (.num 3) (.num 1)) mq rfl (Int.ofNat_lt.mpr hl)) ?_
 refine Ab e3 ?_
 exact h _
theorem Z4(l:List Nat)(i:Nat):-1<=(l.map fd).getD i 0/\(l.map fd).getD i 0<8:=by
 (refine List.getD_eq_getElem?_getD.symm▸?_;refine List.getElem?_map.symm▸?_)
 cases l[i]? with
 |none=>exact⟨by decide,by decide⟩
 |some c=>exact d9 c
theorem ZK:Im R a b c d p=match Le R (a :: b :: c :: d :: r) [0,2]with|true=>some (b*4+a,d*4+c,p)|false=>none:=by
 have e:Le R (a :: b :: c :: d :: r) [0,2]=(JM R a b&&JM R c d):=by
  show(JM R a b&&(JM R c d&&true))=_
  rw[lz]
 refine e.symm▸?_;rfl
theorem eS:∀x∈[0,2],x+1<4:=by decide
theorem LI{t:List Nat}(h4:t.length≠4)(h5:t.length≠5):KZ R t=none:=by
 rcases t with _|⟨a,_|⟨b,_|⟨c,_|⟨d,_|⟨e,_|⟨f,r⟩⟩⟩⟩⟩⟩<;>first|rfl|exact absurd rfl h4|exact absurd rfl h5
theorem aJ{Q:Ae}(hn:1<=n)(h:∀e,FM QG Q X (exc hd 1) (KZ R t) (B S k m G st++(g++e))):CG n hd 273 [.int 4,.int R,.str t] Q X (B S k m G st++g):=by
 refine stp hn fun n hn=>?_
 have hj:∀xs:List Int,(g++[il xs])[g.length]?=some (il xs):=fun xs=>gD
 have hx:∀xs:List Int,(g++[il xs]++[MO.list [.int 0,.int 2]])[g.length]?=some (il xs):=fun xs=>Ac (hj xs) _
 have hi:∀xs:List Int,(B S k m G st++(g++[il xs]++[MO.list [.int 0,.int 2]]))[(g++[il xs]).length+61]?=some (.list [.int 0,.int 2]):=fun xs=>(gD:(g++[il xs]++[MO.list [.int 0,.int 2]])[(g++[il xs]).length]?=_)
 revert h
 refine Rs t (fun a b c d h=>?_) (fun a b c d e h=>?_) fun t s4 s5 h=>?_
 rotate_left 2
 ·clear hj hx hi
  have h:=h []
  (rw[gK]at h;replace h:=(LI s4 s5)▸h)
  refine DU (iu (b:=(4:Int)).mpr fun z=>s4 (Int.ofNat.inj z)) ?_
  refine DU (iu (b:=(5:Int)).mpr fun z=>s5 (Int.ofNat.inj z)) ?_
  exact h
 ·have h:=h ([il [fd a,fd b,fd c,fd d]]++[.list [.int 0,.int 2]])
  have h:FM QG Q X (exc hd 1) (Im R (fd a) (fd b) (fd c) (fd d) 0) (B S k m G st++(g++([il [fd a,fd b,fd c,fd d]]++[.list [.int 0,.int 2]]))):=h
  (replace h:=(ZK (r:=[]))▸h;rw[<- gB g]at h)
  refine A0 ?_
  refine Rm (j:=g.length) [a,b,c,d] (g++[il []]) [] _ (hj []) (by show 4<1000;decide) rfl fun env' a1=>?_
  rw[hU _ _ (gM _),iI]
  refine Ab BP ?_
  refine A0 ?_
  refine Q2 (g:=g++[il [fd a,fd b,fd c,fd d]]++[.list [.int 0,.int 2]]) (R:=R) (t:=[a,b,c,d]) (xs:=[fd a,fd b,fd c,fd d]) (hi _) (hx _) [0,2] eS _ (a1 271 (by decide)) (a1 45 (by decide)) (a1 49 (by decide)) (a1 224 (by decide)) (fun z=>?_) fun z mX a2=>?_
  ·replace h:=z▸h;exact h
  ·replace h:=z▸h
   refine Ab ((a2 224 (by decide)).trans (a1 224 (by decide))) ?_
   have b1:mX 271=some (.l8 (g.length+61)):=(a2 271 (by decide)).trans (a1 271 (by decide))
   have b3:mX 45=some (.int 4):=(a2 45 (by decide)).trans (a1 45 (by decide))
   have z:=fun Q h=>UD (S:=S) (k:=k) (m:=m) (G:=G) (st:=st) (g:=g++[il [fd a,fd b,fd c,fd d]]++[.list [.int 0,.int 2]]) (j:=g.length) (n:=n) (hd:=hd) (X:=X) (Q:=Q) (env:=Ad mX 14 (.int 0)) (p:=0) (xs:=[fd a,fd b,fd c,fd d]) (hx [fd a,fd b,fd c,fd d]) (by show 3<4;decide) (Z4 [a,b,c,d]) b1 b3 rfl h
   refine z (fun fl _ μ'=>match fl with|.ret v=>Q v μ'|.next=>Q .none μ'|.cont=>False) ?_
   intro _
   exact h
 ·have h:=h ([il [fd a,fd b,fd c,fd d,fd e]]++[.list [.int 0,.int 2]])
  have h:FM QG Q X (exc hd 1) (match decide (0<=fd e)&&decide (fd e<4)with|true=>Im R (fd a) (fd b) (fd c) (fd d) (5 - fd e)|false=>none) (B S k m G st++(g++([il [fd a,fd b,fd c,fd d,fd e]]++[.list [.int 0,.int 2]]))):=h
  (replace h:=(ZK (r:=[fd e]))▸h;rw[<- gB g]at h)
  refine A0 ?_
  refine Rm (j:=g.length) [a,b,c,d,e] (g++[il []]) [] _ (hj []) (by show 5<1000;decide) rfl fun env' a1=>?_
  rw[hU _ _ (gM _),iI]
  refine Ab BP ?_
  refine A0 ?_
  refine Q2 (g:=g++[il [fd a,fd b,fd c,fd d,fd e]]++[.list [.int 0,.int 2]]) (R:=R) (t:=[a,b,c,d,e]) (xs:=[fd a,fd b,fd c,fd d,fd e]) (hi _) (hx _) [0,2] (fun x hx=>hJ (eS x hx)) _ (a1 271 (by decide)) (a1 45 (by decide)) (a1 49 (by decide)) (a1 224 (by decide)) (fun z=>?_) fun z mX a2=>?_
  ·replace h:=z▸h
   revert h
   cases decide (0<=fd e)&&decide (fd e<4)<;>exact fun h=>h
  ·replace h:=z▸h
   have b1:=(a2 271 (by decide)).trans (a1 271 (by decide))
   have b2:=(a2 224 (by decide)).trans (a1 224 (by decide))
   refine Ab b2 ?_
   refine Ab b1 ?_
   refine AO (A5 (hx _)) (by decide) (by show(4:Int)<5;decide) ?_
   refine Ap (fun e3=>?_) fun e3=>?_
   ·have e3:decide (0<=fd e)=true:=e3
    replace h:=e3▸h
    refine Ap (fun e4=>?_) fun e4=>?_
    ·have e4:decide (fd e<4)=false:=by
      have e4:(!decide (fd e<4))=true:=e4
      simpa using e4
     replace h:=e4▸h
     refine Ab b2 ?_
     exact h
    ·have e4:decide (fd e<4)=true:=by
      have e4:(!decide (fd e<4))=false:=e4
      simpa using e4
     replace h:=e4▸h
     refine Ab b1 ?_
     refine AO (A5 (hx _)) (by decide) (by show(4:Int)<5;decide) ?_
     refine UD (Q:=fun fl _ μ'=>match fl with|.ret v=>Q v μ'|.next=>Q .none μ'|.cont=>False) (env:=Ad (Ad mX 14 (.int 0)) 14 (.int (5 - fd e))) (p:=5 - fd e) (xs:=[fd a,fd b,fd c,fd d,fd e]) (hx _) (by show 3<5;decide) (Z4 [a,b,c,d,e]) b1 ((a2 45 (by decide)).trans (a1 45 (by decide))) rfl ?_
     intro _
     exact h
   ·have e3:decide (0<=fd e)=false:=e3
    replace h:=e3▸h
    refine Ab b2 ?_
    exact h
theorem XV{Q:Ae}{L:List Int}(hn:2<=n)(hj:g[j]?=some (il L))(h:∀e,FM .int Q X (exc hd 1) ((KZ R t).bind fun q=>L.find? (Dv q)) (B S k m G st++(g++e))):CG n hd 274 [.int 4,.int R,.l8 (j+61),.str t] Q X (B S k m G st++g):=by
 refine stp hn fun n hn=>?_
 refine aJ (md hn rfl) ?_
 intro e
 have h:=h e
 revert h
 cases KZ R t with
 |none=>intro h;exact h
 |some q=>
  intro h
  have h:FM .int Q X (exc hd 1) (L.find? (Dv q)) (B S k m G st++(g++e)):=h
  refine Ab (Bc (Ac hj e)) ?_
  refine A0 ?_
  refine Rg (q:=q) (t:=t) (md hn rfl) (A5 (Ac hj e)) L _ ?_ ?_ ?_ ?_ fun env' a=>?_
  any_goals rfl
  revert h
  cases L.find? (Dv q) with
  |some v=>intro h;exact h
  |none=>
   intro h
   refine Ab a ?_
   exact h
theorem TW{Q:Ae}(hn:12<=n)(GC:Cj G m)(R:HN G st)(h:∀e,FM .int Q X (exc hd 1) ((KZ G.ranks t).bind fun q=>(Ay G st).find? (Dv q)) (B S k m G st++(g++e))):CG n hd 275 [.l8 54,.str t] Q X (B S k m G st++g):=by
 refine stp hn fun n hn=>?_
 refine Fr (md hn rfl) GC.S R.C.low R.q0 R.q1 GC.hr R.ps (B6 G st) ?_
 intro e j hj
 refine XV (md hn rfl) hj ?_
 intro e'
 rw[gB]
 have h:=h (e++e')
 revert h
 cases(KZ G.ranks t).bind fun q=>(Ay G st).find? (Dv q) with
 |none=>intro h;exact h
 |some v=>intro h;exact h
end
noncomputable def fh:MS->MS
 |.nB _ _ h=>h
 |s=>s
noncomputable def R0(G:mi)(st:St)(t:List Nat):Option Int:=(KY G.ranks t).bind fun q=>(Ay G st).find? (Dv q)
noncomputable def tW(G:mi)(st:St)(t:List Nat):Option Int:=(KZ G.ranks t).bind fun q=>(Ay G st).find? (Dv q)
noncomputable def so{α:Type}(a b:Option α):Option α:=match a with|some x=>some x|none=>b
noncomputable def FX(mk:Int->List Nat)(G:mi)(st:St)(t:List Nat):Option Int:=so (R0 G st t) (so (VY mk G st t) (so (Oo mk G st t) (tW G st t)))
noncomputable def bX:Option Int->V
 |some v=>.int v
 |none=>.none
section
variable{S:List Int}{k:Int}{m:Nat}{G:mi}{st:St}{g:MH}{n:Nat}{X:As}{μ:MH}
theorem aM{Q:Ae}{mk:Int->List Nat}(hn:13<=n)(GC:Cj G m)(F:Es G m st mk)
  (hN:FX mk G st t=none->∀e,X 11 (B S k m G st++(g++e))) (hS:∀v,FX mk G st t=some v->∀e,Q (.int v) (B S k m G st++(g++e))):CG n false 276 [.l8 54,.str t] Q X (B S k m G st++g):=by
 refine stp hn fun n hn=>?_
 unfold FX at hN hS
 refine WR (md hn rfl) GC F.R ?_
 intro e
 show FM .int _ _ _ (R0 G st t) _
 revert hN hS
 cases R0 G st t with
 |some v=>intro _ hS;exact hS v rfl e
 |none=>
  intro hN hS
  refine dX (mk:=mk) (md hn rfl) GC F (fun z c e' hc=>?_) fun v z e'=>?_
  ·rw[z]at hN hS
   rw[gB]
   have rest:CG n false 270 [.l8 54,.str t] (fun v μ'=>Q v μ') (fun r μ'=>p9 (DX r 1) (A7 (decide (r<10)||Ht (fh (mY 2 EV))) (ws l9 (Ak l9 prog n) true (fh (mY 2 EV)) (fun fl _ μ'=>match fl with|.ret v=>Q v μ'|.next=>Q .none μ'|.cont=>False) X (Ad (Ad (fun _=>none) 102 (.l8 54)) 224 (.str t)) μ')) (X r μ')) (B S k m G st++(g++(e++e'))):=by
    refine TX (mk:=mk) (md hn rfl) GC F (fun z2 e2=>?_) fun v z2 e2=>?_
    ·rw[z2]at hN hS
     refine TW (md hn rfl) GC F.R fun e3=>?_
     show FM .int _ _ _ (tW G st t) _
     revert hN hS
     cases tW G st t with
     |some v=>
      intro _ hS
      rw[gB,gB]
      exact hS v rfl _
     |none=>
      intro hN _
      rw[gB,gB]
      exact hN rfl _
    ·replace hS:=z2▸hS
     rw[gB]
     exact hS v rfl _
   rcases hc with rfl|rfl
   ·exact rest
   ·exact rest
  ·replace hS:=z▸hS
   rw[gB]
   exact hS v rfl _
theorem WK{Q:Ae}{mk:Int->List Nat}(hn:14<=n)(GC:Cj G m)(F:Es G m st mk)
  (h:∀e,Q (bX (FX mk G st t)) (B S k m G st++(g++e))):CG n false 306 [.l8 54,.str t] Q X (B S k m G st++g):=by
 refine stp hn fun n hn=>?_
 refine aM (mk:=mk) (md hn rfl) GC F (fun z e=>?_) fun v z e=>?_
 ·have h:=h e
  rw[z]at h
  exact h
 ·have h:=h e
  rw[z]at h
  exact h
end
noncomputable def LD:MO:=.dict [(6,.str [75]),(5,.str [81]),(4,.str [82]),(3,.str [66]),(2,.str [78]),(1,.str [])]
theorem bE{l:List Int}(ha:μ[a]?=some (il l))(hb:μ[b]?=some (il [])):Ij μ .NotEq (.l8 a) (.l8 b)=some (!l.isEmpty):=by
 show(rC μ (.l8 a) (.l8 b)).map (!·)=_
 rw[PH ha hb];rfl
theorem PJ{α:Type}(p:α->Bool)(l:List α):(l.filter p).isEmpty=!l.any p:=by
 induction l with
 |nil=>rfl
 |cons a l ih=>
  refine List.any_cons.symm▸?_
  cases e:p a with
  |true=>rw[jl e];rfl
  |false=>rw[jm (by refine e.symm▸?_;exact iT),ih];rfl
section
variable{S:List Int}{k:Int}{m:Nat}{G:mi}{st:St}{g:MH}{n:Nat}{hd:Bool}{X:As}{μ:MH}
theorem Ov:(B S k m G st++g++[MO.dict []]).set (B S k m G st++g).length o=B S k m G st++(g++[o]):=by
 rw[hU _ _ (gM _),iI];rfl
theorem Rp{p:Prop}(h:p):@Bool.rec (fun _=>Prop) False p (PE (B S k m G st++g++[MO.dict []])[(B S k m G st++g).length]?):=by
 rw[gD];exact h
theorem Ec{Q:Ae}(hn:1<=n)(h:Q (.l8 (g.length+61)) (B S k m G st++(g++[LD]))):CG n hd 277 [] Q X (B S k m G st++g):=by
 refine stp hn fun n hn=>?_
 refine Rp ?_
 conv=>whnf
 rw[Ov]
 exact h
theorem JR{kd:Nat}(h1:1<=kd)(h7:kd<7):B7 (B S k m G st++(g++[LD])) (.l8 (g.length+61)) (.int kd)=some (.str (DZ kd)):=by
 have e:(B S k m G st++(g++[LD]))[g.length+61]?=some LD:=(gD:(g++[LD])[g.length]?=_)
 refine(OU e).symm▸?_
 rcases(by lia:kd=1\/kd=2\/kd=3\/kd=4\/kd=5\/kd=6)with rfl|rfl|rfl|rfl|rfl|rfl<;>rfl
theorem Jq{Q:Ae}(hn:1<=n)(h0:0<=s)(h1:s<20)(h:Q (.str (m9 s)) μ):CG n hd 290 [.int s] Q X μ:=by
 refine stp hn fun n hn=>?_
 have q1:B7 μ (.str [97,98,99,100]) (.int (s.fmod 4))=some (.str [97+(s.fmod 4).toNat]):=by
  rcases(by lia:s.fmod 4=0\/s.fmod 4=1\/s.fmod 4=2\/s.fmod 4=3)with e|e|e|e<;>refine e.symm▸?_<;>rfl
 have q2:B7 μ (.str [49,50,51,52,53]) (.int (s.fdiv 4))=some (.str [49+(s.fdiv 4).toNat]):=by
  rcases(by lia:s.fdiv 4=0\/s.fdiv 4=1\/s.fdiv 4=2\/s.fdiv 4=3\/s.fdiv 4=4)with e|e|e|e|e<;>refine e.symm▸?_<;>rfl
 refine Ag q1 ?_
 refine Ag q2 ?_
 exact h
theorem WN{Q:Ae}{mk:Int->List Nat}(hn:12<=n)(GC:Cj G m)(F:Es G m st mk)(hv:v∈Ay G st)(h:∀e,Q (.str (mk v)) (B S k m G st++(g++e))):CG n hd 292 [.l8 54,.int v] Q X (B S k m G st++g):=by
 refine stp hn fun n hn=>?_
 obtain⟨kd,tk,V,R,e⟩:=F.mv v hv
 have A:=after (m:=m) F.R.C V
 rw[e]at h
 refine ZE (md hn rfl) F.R.C V GC F.hist ?_
 refine Iu (md hn rfl) GC.S R.C.low R.q0 R.q1 ?_
 unfold JX at h
 revert R h A
 generalize Il m st kd tk v=s
 intro h R A
 refine Ap (fun e=>?_) fun e=>?_
 ·have e:Bo G s s.side=false:=by simpa using e
  replace h:=e▸h
  refine Iv (md hn rfl) F.R.C V A GC ?_
  have h:=h []
  rw[gK]at h
  exact h
 ·have e:Bo G s s.side=true:=by simpa using e
  replace h:=e▸h
  refine Fr (md hn rfl) GC.S R.C.low R.q0 R.q1 GC.hr R.ps (B6 G s) ?_
  intro e' j hj
  have q1:(B S k m G s++(g++e')++[il []])[j+61]?=some (il (Ay G s)):=Ac (A5 hj) _
  have q2:(B S k m G s++(g++e')++[il []])[(B S k m G s++(g++e')).length]?=some (il []):=gD
  have q3:(Ay G s).isEmpty=!(oJ G s).any (Bs G s (C9 G s s.side)):=by
   unfold Ay Cq
   refine e.symm▸?_;exact PJ _ _
  refine Ab (bE q1 q2) ?_
  rw[q3]
  revert h
  cases(oJ G s).any (Bs G s (C9 G s s.side))
  all_goals
   intro h
   conv=>whnf
   rw[gB (B S k m G s),gB g]
   refine Iv (md hn rfl) F.R.C V A GC ?_
   exact h _
end
noncomputable def sl(l:List (List Nat)):MO:=.list (l.map .str)
noncomputable def Cf(p:Int):List (List Nat):=match p==0 with
 |true=>[[]]
 |false=>[[61]++[m8 p.toNat],[m8 p.toNat]]
noncomputable def Em(kd:Nat)(x:Bool)(s:Int):List (List Nat):=match(kd==1)&&x with
 |true=>[[97+(s.fmod 4).toNat],m9 s]
 |false=>[[],[97+(s.fmod 4).toNat],[49+(s.fdiv 4).toNat],m9 s]
noncomputable def EL(kd:Nat)(x:Bool)(t:Int)(o e:List Nat):List Nat:=DZ kd++o++BD x []++m9 t++e
noncomputable def Df(kd:Nat)(x:Bool)(v p:Int):List (List Nat):=(Em kd x (Ah v)).flatMap fun o=>(Cf p).map fun e=>EL kd x (mo v) o e
noncomputable def EO(v p:Int):List Nat:=m9 (Ah v)++m9 (mo v)++(match p==0 with|true=>[]|false=>[m8 p.toNat+32])
noncomputable def o8(s:Int):List Nat:=[48+(AE (97+(s.fmod 4).toNat) [97,98,99,100] 0+1).toNat,49+(s.fdiv 4).toNat]
noncomputable def pR:Nat->List Nat
 |5=>[49]|4=>[50]|3=>[51]|_=>[52]
noncomputable def PC(v p:Int):List Nat:=o8 (Ah v)++o8 (mo v)++(match p==0 with|true=>[]|false=>pR p.toNat)
theorem GI(kd:Nat):(DZ kd).length<=1:=by
 unfold DZ
 split
 ·exact iq _
 ·exact gM 1
theorem Fw(x:Bool)(e:List Nat):(BD x e).length<=1+e.length:=by cases x;exact jp _ _;exact hY _ _
section
variable{S:List Int}{k:Int}{m:Nat}{G:mi}{st:St}{g:MH}{n:Nat}{hd:Bool}{X:As}{μ:MH}
theorem FR(h:g[r]?=some (.list xs)):By (B S k m G st++g) (r+61)=some xs:=CP (μ:=B S k m G st++g) (n:=r+61) h
theorem Lq(h:g[r]?=some (.list xs)):C6 (B S k m G st++g) (.l8 (r+61))=some (xs,some (r+61,xs)):=UJ (μ:=B S k m G st++g) (n:=r+61) h
theorem VJ{xs:List (List Nat)}:(B S k m G st++g).set (j+61) (.list (xs.map .str++[.str v]))=B S k m G st++g.set j (sl (xs++[v])):=by
 rw[show sl (xs++[v])=.list (xs.map V.str++[.str v]) by unfold sl;rw[kx];rfl];rfl
theorem Z1{o:List (List Nat)}(h:o.length<100000):decide ((o.map V.str).length<lim)=true:=gG (by rw[g6];exact hM h (by decide))
theorem FK{u v:List Nat}(hu:u.length<=a)(hv:v.length<=b)(h:a+b<=1000):decide (u.length+v.length<=lim)=true:=gG (gI (js hu hv) (gI h (by decide)))
noncomputable def uj:ME:=(ME.bin .Add (.bin .Add (.bin .Add (.bin .Add (.sub (.call 277 .nil) (.l8 1)) (.l8 11)) (.l8 260)) (.call 290 (.cons (.l8 61) .nil))) (.l8 300))
theorem WF{Q:Ae}{o e:List Nat}(hn:1<=n)(k1:1<=kd)(k7:kd<7)(t0:0<=t)(oG:t<20)(ho:o.length<=2)(he:e.length<=2)(e1:env 1=some (.int kd))(e2:env 11=some (.str o))(e3:env 260=some (.str (BD x [])))(e4:env 61=some (.int t))(e5:env 300=some (.str e))
  (h:Q (.str (EL kd x t o e)) (B S k m G st++(g++[LD]))):we l9 (Ak l9 prog n false) env uj Q (fun _ _=>False) (B S k m G st++g):=by
 have l1:=GI kd
 have l2:(DZ kd++o).length<=3:=by refine List.length_append.symm▸?_;exact pt (m4 _ _) (.add mK mu) (.num 3) mu (.num 2) mK (.num 1) rfl ho l1
 have l3:(DZ kd++o++BD x []).length<=4:=by refine List.length_append.symm▸?_;have:=Fw x [];show _<=3+1;exact js l2 this
 have l4:(DZ kd++o++BD x []++m9 t).length<=6:=by refine List.length_append.symm▸?_;exact js l3 (gM 2)
 refine Ec hn ?_
 refine Ab e1 ?_
 refine Ag (JR k1 k7) ?_
 refine Ab e2 ?_
 refine Aj (FK l1 ho (by decide)) ?_
 refine Ab e3 ?_
 refine Aj (FK l2 (Fw x []) (by decide)) ?_
 refine Ab e4 ?_
 refine Jq hn t0 oG ?_
 refine Aj (FK (b:=2) l3 (gM 2) (by decide)) ?_
 refine Ab e5 ?_
 refine Aj (FK l4 he (by decide)) ?_
 exact h
theorem XC{K:MH->Prop}{E:List V}{o:List Nat}(hn:1<=n)(k1:1<=kd)(k7:kd<7)(t0:0<=t)(oG:t<20)(ho:o.length<=2)(ij:j≠i2)(e1:env 1=some (.int kd))(e2:env 11=some (.str o))(e3:env 260=some (.str (BD x [])))(e4:env 61=some (.int t))(L:List (List Nat)):∀(_:∀e∈L,e.length<=2) (g:MH) (xs:List (List Nat)),g[i2]?=some (.list E)->g[j]?=some (sl xs)->xs.length+L.length<1000->
  (∀e',K (B S k m G st++(g.set j (sl (xs++L.map (EL kd x t o)))++e')))->
  Dr (some (i2+61,E)) (j+61) (fun _ K' oh=>K' true oh) (fun v2 K' oh=>we l9 (Ak l9 prog n false) (Ad env 300 v2) uj K' (fun _ _=>False) oh) (L.map .str) K (B S k m G st++g):=by
 induction L with
 |nil=>
  intro _ g xs hi hj hl h
  have h:=h []
  rw[lJ,gK,gK,Bj hj]at h
  exact⟨hi,h⟩
 |cons e L ih=>
  intro hL g xs hi hj hl h
  rw[gY]at hl
  refine⟨hi,?_⟩
  refine WF (x:=x) (o:=o) (e:=e) hn k1 k7 t0 oG ho (hL e gR) e1 e2 e3 e4 rfl ?_
  refine Ab (FR (Ac hj [LD])) ?_
  refine Aj (Z1 (by exact fj hl)) ?_
  rw[VJ,AR hj]
  refine ih (fun s hs=>hL s (gH _ hs)) (g.set j (sl (xs++[EL kd x t o e]))++[LD]) (xs++[EL kd x t o e]) (Ac (by rw[hG ij];exact hi) _) (Ac (AK hj) _) (by rw[gF];show _+1+_<_;exact fk hl) fun e'=>?_
  rw[AR (AK hj),ig,gB,gB]
  exact h _
theorem VA{K:MH->Prop}{E:List (List Nat)}(hn:1<=n)(k1:1<=kd)(k7:kd<7)(t0:0<=t)(oG:t<20)(ij1:j≠i1)(ij2:j≠i2)(hE:∀e∈E,e.length<=2)(hE2:E.length<=2)(e1:env 1=some (.int kd))(e3:env 260=some (.str (BD x [])))(e4:env 61=some (.int t))(e5:env 299=some (.l8 (i2+61)))(L:List (List Nat)):∀(_:∀o∈L,o.length<=2) (g:MH) (xs:List (List Nat)),g[i1]?=some (.list O)->g[i2]?=some (sl E)->g[j]?=some (sl xs)->xs.length+2*L.length<900->
  (∀e',K (B S k m G st++(g.set j (sl (xs++L.flatMap fun o=>E.map (EL kd x t o)))++e')))->
  Hn (some (i1+61,O)) (fun v K μ'=>we l9 (Ak l9 prog n false) (Ad (AG [11,300] env) 11 v) (ME.l8 299) (fun s2 μ₂=>opt (C6 μ₂ s2) fun p2=>
    Dr p2.2 (j+61) (fun _ K' oh=>K' true oh) (fun v2 K' oh=>we l9 (Ak l9 prog n false) (Ad (Ad (AG [11,300] env) 11 v) 300 v2) uj K' (fun _ _=>False) oh) p2.1 K μ₂) (fun _ _=>False) μ') (L.map .str) K (B S k m G st++g):=by
 induction L with
 |nil=>
  intro _ g xs h1 h2 hj hl h
  have h:=h []
  (replace h:=jk▸h;rw[gK,gK,Bj hj]at h)
  exact⟨h1,h⟩
 |cons o L ih=>
  intro hL g xs h1 h2 hj hl h
  replace hl:=gY▸hl
  refine⟨h1,?_⟩
  refine Ab e5 ?_
  refine Ab (Lq h2) ?_
  refine XC (env:=Ad (AG [11,300] env) 11 (.str o)) hn k1 k7 t0 oG (hL o gR) ij2 e1 rfl e3 e4 E hE g xs h2 hj (by exact pt (nI _ _ _) (.add (.add mK mu) (.num 1)) (.num 1000) mu (.num 2) (.add (.add mK (.mulL 2 (mD 2 1))) (.num 1)) (.num 900) rfl hE2 hl) fun e'=>?_
  refine ih (fun s hs=>hL s (gH _ hs)) (g.set j (sl (xs++E.map (EL kd x t o)))++e') (xs++E.map (EL kd x t o)) (Ac (by refine(hG ij1).symm▸?_;exact h1) _) (Ac (by refine(hG ij2).symm▸?_;exact h2) _) (Ac (AK hj) _) (by(refine List.length_append.symm▸?_;rewrite[g6]);exact pt (nI _ _ _) (.add (.add (.add mK mu) (.mulL 2 nM)) (.num 1)) (.num 900) mu (.num 2) (.add (.add mK (.mulL 2 (mD 2 1))) (.num 1)) (.num 900) rfl hE2 hl) fun e2=>?_
  (refine(AR (AK hj)).symm▸?_;rewrite[ig];rewrite[gB];rewrite[gB])
  have h:=h (e'++e2)
  exact h
end
noncomputable def rhs:MS->ME
 |.assign _ e=>e
 |.aug _ _ e=>e
 |.ret e=>e
 |_=>.nil
structure qh(env:An)(st:St)(v:Int)(kd:Nat)(i2:Nat):Prop where
 p:env 102=some (.l8 54)
 m:env 19=some (.int v)
 f:env 82=some (.int (Ah v))
 t:env 61=some (.int (mo v))
 pr:env 14=some (.int (Af v))
 k:env 1=some (.int kd)
 c:env 260=some (.str (BD (m6 st v) []))
 nm:env 297=some (.str (m9 (Ah v)))
 en:env 299=some (.l8 (i2+61))
section
variable{S:List Int}{k:Int}{m:Nat}{G:mi}{st:St}{g:MH}{n:Nat}{X:As}{μ:MH}
theorem JF(p:Int):(∀e∈Cf p,e.length<=2)/\(Cf p).length<=2:=by
 have nil:∀e∈([]:List (List Nat)),e.length<=2:=fun _ h=>by cases h
 unfold Cf
 cases p==0 with
 |true=>exact⟨List.forall_mem_cons.mpr ⟨iq _,nil⟩,i9 1⟩
 |false=>exact⟨List.forall_mem_cons.mpr ⟨gM 2,List.forall_mem_cons.mpr ⟨i9 1,nil⟩⟩,gM 2⟩
theorem Kd(kd:Nat)(x:Bool)(s:Int):(∀o∈Em kd x s,o.length<=2)/\(Em kd x s).length<=4:=by
 have nil:∀e∈([]:List (List Nat)),e.length<=2:=fun _ h=>by cases h
 unfold Em
 cases(kd==1)&&x with
 |true=>exact⟨List.forall_mem_cons.mpr ⟨i9 1,List.forall_mem_cons.mpr ⟨gM 2,nil⟩⟩,by show 2<=4;decide⟩
 |false=>exact⟨List.forall_mem_cons.mpr ⟨iq _,List.forall_mem_cons.mpr ⟨i9 1,List.forall_mem_cons.mpr ⟨i9 1,List.forall_mem_cons.mpr ⟨gM 2,nil⟩⟩⟩⟩,gM 4⟩
theorem FF(pr:Af v=0\/∃p:Nat,2<=p/\p<6/\Af v=p):Af v=0\/∃p:Nat,1<=p/\p<7/\2<=p/\p<6/\Af v=p/\((p:Int)==0)=false/\DZ p=[m8 p]/\(65<=m8 p/\m8 p<=90):=by
 rcases pr with e|⟨p,p2,p6,e⟩
 ·exact .inl e
 ·refine .inr ⟨p,by exact Qi p2,by exact HD p6,p2,p6,e,by rw[gX];exact iJ (Na (Int.ofNat_le.mpr p2)),Dg p2,?_⟩
  rcases(by lia:p=2\/p=3\/p=4\/p=5)with rfl|rfl|rfl|rfl<;>decide
theorem Zs{Q:Ae}(hn:1<=n)(E:qh env st v kd i2)(M:B0 G v)(oK:G.size<=20)(pr:Af v=0\/∃p:Nat,2<=p/\p<6/\Af v=p)
  (h:∀e,Q (.str (EO v (Af v))) (B S k m G st++(g++e))):we l9 (Ak l9 prog n false) env (rhs (mY 8 AY)) Q X (B S k m G st++g):=by
 unfold EO at h
 refine Ab E.nm ?_
 refine Ab E.t ?_
 refine Jq hn M.t0 (gS M.t1 oK) ?_
 refine Ab E.pr ?_
 rcases FF pr with e|⟨p,p1,p7,p2,p6,e,z,kl,c1,c2⟩
 ·rw[e]at h ⊢
  conv=>whnf
  have h:=h []
  rw[gK]at h
  exact h
 ·rw[e]at h ⊢
  rw[z]at h
  refine Cz z ?_
  refine Ec hn ?_
  refine Ab E.pr ?_
  refine e.symm▸?_
  refine Ag (JR p1 p7) ?_
  rw[kl]
  refine Aj (gG c1) ?_
  refine Aj (gG c2) ?_
  exact h _
theorem XX{Q:Ae}(hn:1<=n)(E:qh env st v kd i2)(k1:1<=kd)(k7:kd<7)(M:B0 G v)(oK:G.size<=20)(hi:g[i2]?=some (sl (Cf (Af v))))
  (h:∀e,Q (.str (Dd kd (m6 st v) v (Af v))) (B S k m G st++(g++e))):we l9 (Ak l9 prog n false) env (rhs (mY 9 AY)) Q X (B S k m G st++g):=by
 have l1:=GI kd
 have l2:(DZ kd++m9 (Ah v)).length<=3:=by rw[gF];exact js l1 (gM 2)
 have l3:∀c,(DZ kd++m9 (Ah v)++[c]).length<=4:=fun c=>by rw[gF];exact js l2 (gM 1)
 have l4:∀c,(DZ kd++m9 (Ah v)++[c]++m9 (mo v)).length<=6:=fun c=>by rw[gF];exact js (l3 c) (gM 2)
 have oG:=gS M.t1 oK
 have en:∃a r,Cf (Af v)=a :: r/\a.length<=2/\a=FJ (Af v):=by
  unfold Cf FJ
  cases Af v==0 with
  |true=>exact⟨[],[],rfl,iq _,rfl⟩
  |false=>exact⟨_,_,rfl,gM 2,rfl⟩
 obtain⟨a,r,ea,la,eq⟩:=en
 unfold Dd at h
 rw[<- eq]at h
 rw[ea]at hi
 have sa:B7 (B S k m G st++(g++[LD])) (.l8 (i2+61)) (.int 0)=some (.str a):=by
  exact HI (show(B S k m G st++(g++[LD]))[i2+61]?=some (.list (.str a :: r.map .str)) from(Ac hi [LD]:(g++[LD])[i2]?=_))
 refine Ec hn ?_
 refine Ab E.k ?_
 refine Ag (JR k1 k7) ?_
 refine Ab E.nm ?_
 refine Aj (FK (b:=2) l1 (gM 2) (by decide)) ?_
 refine Ab E.c ?_
 cases ex:m6 st v
 all_goals
  rw[ex]at h
  have ec:=E.c
  rw[ex]at ec
  conv=>whnf
 ·conv=>whnf
  refine Aj (FK (b:=1) l2 (gM 1) (by decide)) ?_
  refine Ab E.t ?_
  refine Jq hn M.t0 oG ?_
  refine Aj (FK (b:=2) (l3 45) (gM 2) (by decide)) ?_
  refine Ab E.en ?_
  refine Ag sa ?_
  refine Aj (FK (l4 45) la (by decide)) ?_
  exact h _
 ·conv=>whnf
  refine Ab ec ?_
  refine Aj (FK (b:=1) l2 (gM 1) (by decide)) ?_
  refine Ab E.t ?_
  refine Jq hn M.t0 oG ?_
  refine Aj (FK (b:=2) (l3 120) (gM 2) (by decide)) ?_
  refine Ab E.en ?_
  refine Ag sa ?_
  refine Aj (FK (l4 120) la (by decide)) ?_
  exact h _
end
section
variable{S:List Int}{k:Int}{m:Nat}{G:mi}{st:St}{g:MH}{n:Nat}{X:As}{μ:MH}
theorem Iq(c:Nat):decide (0<=AE c [97,98,99,100] 0+1)=true/\decide (AE c [97,98,99,100] 0+1<10)=true:=by
 have h:=E8 c [97,98,99,100] 0 (iE 0)
 rw[show[97,98,99,100].length=4 from rfl]at h
 exact⟨gG (by lia),gG (by lia)⟩
theorem PZ:By (B S k m G st++g++[MO.list xs]) (B S k m G st++g).length=some xs:=CP (by rw[gD])
theorem RP:(B S k m G st++g++[o]).set (B S k m G st++g).length o'=B S k m G st++g++[o']:=by
 rw[hU _ _ (gM _),iI];rfl
theorem aQ{Q:Ae}(hn:1<=n)(E:qh env st v kd i2)(M:B0 G v)(oK:G.size<=20)
  (h:∀e,Q (.str (o8 (Ah v)++o8 (mo v))) (B S k m G st++(g++e))):we l9 (Ak l9 prog n false) env (rhs (mY 10 AY)) Q X (B S k m G st++g):=by
 refine Ab E.nm ?_
 refine Ab E.t ?_
 refine Jq hn M.t0 (gS M.t1 oK) ?_
 refine Ag rfl ?_
 refine Aj (Iq _).1 ?_
 refine Aj (Iq _).2 ?_
 refine Ag rfl ?_
 refine Ab PZ ?_
 rw[RP]
 refine Ag rfl ?_
 refine Aj (Iq _).1 ?_
 refine Aj (Iq _).2 ?_
 refine Ag rfl ?_
 refine Ab PZ ?_
 rw[RP]
 refine Ab PZ ?_
 exact h _
theorem Xk{Q:Ae}(hn:1<=n)(e1:env 14=some (.int (Af v)))(pr:Af v=0\/∃p:Nat,2<=p/\p<6/\Af v=p)
  (h:∀e j,(g++e)[j]?=some (sl (Cf (Af v)))->Q (.l8 (j+61)) (B S k m G st++(g++e))):we l9 (Ak l9 prog n false) env (rhs (mY 4 AY)) Q X (B S k m G st++g):=by
 refine Ab e1 ?_
 rcases FF pr with e|⟨p,p1,p7,p2,p6,e,z,kl,c1,c2⟩
 ·rw[e]at h ⊢
  exact h [sl [[]]] g.length gD
 ·rw[e]at h e1 ⊢
  refine DU (by refine z.symm▸?_;rfl) ?_
  refine Ec hn ?_
  refine Ab e1 ?_
  refine Ag (JR p1 p7) ?_
  rw[kl]
  refine Ec hn ?_
  refine Ab e1 ?_
  refine Ag (JR p1 p7) ?_
  rw[kl]
  conv=>whnf
  have q:(g++([LD]++[LD]++[sl (Cf (p:Int))]))[(g++([LD]++[LD])).length]?=some (sl (Cf (p:Int))):=by
   rw[<- gB];exact gD
  have h:=h _ _ q
  replace h:=(show Cf (p:Int)=[[61]++[m8 p],[m8 p]] by unfold Cf;rw[z];rfl)▸h
  rw[gB g,gB (B S k m G st),gB g]
  exact h
theorem Rr{Q:Au}{mk:Int->List Nat}(hn:12<=n)(GC:Cj G m)(F:Es G m st mk)(hv:v∈Ay G st)(E:qh env st v kd i2)(e1:env 296=some (.str wr))(e2:env 295=some (.l8 (j+61)))(e3:env 294=some (.str lg))(e4:env 293=some (.str dg))
  (h:∀env' e,Q (.ret (.tup [.str wr,.l8 (j+61),.str lg,.str dg,.str (mk v)])) env' (B S k m G st++(g++e))):ws l9 (Ak l9 prog n) false (AT 12 AY) Q X env (B S k m G st++g):=by
 refine Ab e1 ?_
 refine Ab e2 ?_
 refine Ab e3 ?_
 refine Ab e4 ?_
 refine Ab E.p ?_
 refine Ab E.m ?_
 refine WN hn GC F hv ?_
 intro e
 exact h _ e
theorem qh.set(E:qh env st v kd i2)(hy:293<=y/\y<297\/y=194)(w:V):qh (Ad env y w) st v kd i2:=by
 have q:∀x,x≠y->Ad env y w x=env x:=fun x h=>iO h
 exact⟨(q _ (by lia)).trans E.p,(q _ (by lia)).trans E.m,(q _ (by lia)).trans E.f,(q _ (by lia)).trans E.t,(q _ (by lia)).trans E.pr,(q _ (by lia)).trans E.k,(q _ (by lia)).trans E.c,(q _ (by lia)).trans E.nm,(q _ (by lia)).trans E.en⟩
noncomputable def DD:MO:=.dict [(5,.str [49]),(4,.str [50]),(3,.str [51]),(2,.str [52])]
theorem dZ{p:Nat}(h2:2<=p)(h6:p<6):B7 (B S k m G st++(g++[DD])) (.l8 (g.length+61)) (.int p)=some (.str (pR p)):=by
 have e:(B S k m G st++(g++[DD]))[g.length+61]?=some DD:=(gD:(g++[DD])[g.length]?=_)
 refine(OU e).symm▸?_
 rcases(by lia:p=2\/p=3\/p=4\/p=5)with rfl|rfl|rfl|rfl<;>rfl
theorem Q6(p:Nat):(pR p).length<=1:=by unfold pR;split<;>exact gM 1
theorem bh{Q:Au}{mk:Int->List Nat}(hn:12<=n)(GC:Cj G m)(F:Es G m st mk)(hv:v∈Ay G st)(E:qh env st v kd i2)(k1:1<=kd)(k7:kd<7)(pr:Af v=0\/∃p:Nat,2<=p/\p<6/\Af v=p)(hi:g[i2]?=some (sl (Cf (Af v))))(e2:env 295=some (.l8 (j+61)))
  (h:∀env' e,Q (.ret (.tup [.str (EO v (Af v)),.l8 (j+61),.str (Dd kd (m6 st v) v (Af v)),.str (PC v (Af v)),.str (mk v)])) env' (B S k m G st++(g++e))):ws l9 (Ak l9 prog n) false (AT 8 AY) Q X env (B S k m G st++g):=by
 have M:=F.ok v hv
 have n1:1<=n:=gI (by decide) hn
 unfold PC at h
 refine Zs n1 E M GC.S.top pr fun a=>?_
 refine XX (env:=Ad env 296 (.str (EO v (Af v)))) n1 (E.set (by decide) _) k1 k7 M GC.S.top (Ac hi a) fun b=>?_
 refine aQ (env:=Ad (Ad env 296 (.str (EO v (Af v)))) 294 (.str (Dd kd (m6 st v) v (Af v)))) n1 ((E.set (by decide) _).set (by decide) _) M GC.S.top fun c=>?_
 have EE:=((E.set (by decide:293<=296/\296<297\/296=194) (.str (EO v (Af v)))).set (by decide:293<=294/\294<297\/294=194) (.str (Dd kd (m6 st v) v (Af v)))).set (by decide:293<=293/\293<297\/293=194) (.str (o8 (Ah v)++o8 (mo v)))
 refine Ab E.pr ?_
 rcases FF pr with e|⟨p,p1,p7,p2,p6,e,z,kl,c1,c2⟩
 ·have h:∀env' e,Q (.ret (.tup [.str (EO v (Af v)),.l8 (j+61),.str (Dd kd (m6 st v) v (Af v)),.str (o8 (Ah v)++o8 (mo v)),.str (mk v)])) env' (B S k m G st++(g++e)):=by
   rw[e]at h ⊢
   exact h
  refine Cz (by rw[e];rfl) ?_
  refine Rr (mk:=mk) hn GC F hv EE rfl e2 rfl rfl fun env' d=>?_
  rw[gB,gB,gB]
  exact h _ _
 ·have h:∀env' e,Q (.ret (.tup [.str (EO v (Af v)),.l8 (j+61),.str (Dd kd (m6 st v) v (Af v)),.str (o8 (Ah v)++o8 (mo v)++pR p),.str (mk v)])) env' (B S k m G st++(g++e)):=by
   rw[e,z]at h
   refine e.symm▸?_
   exact h
  refine DU (by rw[e,z];rfl) ?_
  refine Rp ?_
  rw[Ov]
  refine Ab E.pr ?_
  refine Ag (by rw[e];exact dZ p2 p6) ?_
  refine Aj (FK (a:=4) (b:=1) (gM 4) (Q6 p) (by decide)) ?_
  refine Rr (mk:=mk) hn GC F hv (EE.set (by decide:293<=293/\293<297\/293=194) (.str (o8 (Ah v)++o8 (mo v)++pR p))) rfl e2 rfl rfl fun env' d=>?_
  have w:g++a++b++c++[DD]++d=g++(a++(b++(c++([DD]++d)))):=by simp only[gB]
  have h:=h env' (a++(b++(c++([DD]++d))))
  exact w.symm▸h
theorem bg{Q:Au}{mk:Int->List Nat}(hn:12<=n)(GC:Cj G m)(F:Es G m st mk)(hv:v∈Ay G st)(V:Mv G st v kd tk)(E:∀i2,qh (Ad env 299 (.l8 (i2+61))) st v kd i2)
  (h:∀env' e j,g.length<=j->(g++e)[j]?=some (sl (Df kd (m6 st v) v (Af v)))->Q (.ret (.tup [.str (EO v (Af v)),.l8 (j+61),.str (Dd kd (m6 st v) v (Af v)),.str (PC v (Af v)),.str (mk v)])) env' (B S k m G st++(g++e))):ws l9 (Ak l9 prog n) false (AT 4 AY) Q X env (B S k m G st++g):=by
 have M:=F.ok v hv
 have n1:1<=n:=gI (by decide) hn
 have pr:Af v=0\/∃p:Nat,2<=p/\p<6/\Af v=p:=by
  rcases M.sp with e|e
  ·left;unfold Af;refine e.symm▸?_;rfl
  ·obtain⟨_,p,h1,h2,h3⟩:=V.oy e
   exact .inr ⟨p,h1,by exact cr h2,h3⟩
 refine Xk n1 (E 0).pr pr fun a i2 hi=>?_
 have E2:=E i2
 have nm0:B7 (B S k m G st++(g++a)) (.str (m9 (Ah v))) (.int 0)=some (.str [97+((Ah v).fmod 4).toNat]):=rfl
 have nm1:B7 (B S k m G st++(g++a)) (.str (m9 (Ah v))) (.int 1)=some (.str [49+((Ah v).fdiv 4).toNat]):=rfl
 have part:∀(mX:An) (e2:MH) (i1:Nat),qh mX st v kd i2->mX 194=some (.l8 (i1+61))->(g++a++e2)[i1]?=some (sl (Em kd (m6 st v) (Ah v)))->ws l9 (Ak l9 prog n) false (AT 7 AY) Q X mX (B S k m G st++(g++a++e2)):=by
  intro mX e2 i1 E3 a1 h1
  have ol:=Kd kd (m6 st v) (Ah v)
  have el:=JF (Af v)
  refine Ab a1 ?_
  refine Ab (Lq h1) ?_
  refine VA (env:=mX) (i1:=i1) (i2:=i2) (j:=(g++a++e2).length) (E:=Cf (Af v)) (kd:=kd) (x:=m6 st v) (t:=mo v) n1 V.k1 V.k7 M.t0 (gS M.t1 GC.S.top) (iQ (BY h1)) (iQ (BY (Ac hi e2))) el.1 el.2 E3.k E3.c E3.t E3.en (Em kd (m6 st v) (Ah v)) ol.1 (g++a++e2++[sl []]) [] (Ac h1 _) (Ac (Ac hi e2) _) gD (by have:=ol.2;show 0+_<_;exact pt (mz _) (.add (.add (.num 0) (.mulL 2 mu)) (.num 1)) (.num 900) mu (.num 4) mu (.num 4) rfl this this) fun e3=>?_
  rw[hU _ _ (gM _),iI]
  have hj:(g++a++e2++[sl (Df kd (m6 st v) v (Af v))]++e3)[(g++a++e2).length]?=some (sl (Df kd (m6 st v) v (Af v))):=Ac gD e3
  refine bh (env:=Ad mX 295 (.l8 ((g++a++e2).length+61))) (mk:=mk) hn GC F hv (E3.set (by decide) _) V.k1 V.k7 pr (Ac (Ac (Ac hi e2) _) _) rfl fun env' e4=>?_
  have w:g++a++e2++[sl (Df kd (m6 st v) v (Af v))]++e3++e4=g++(a++(e2++([sl (Df kd (m6 st v) v (Af v))]++(e3++e4)))):=by simp only[gB]
  have q6:=Ac hj e4
  replace q6:=w▸q6
  have h:=h env' _ _ (by(rewrite[gF];refine List.length_append.symm▸?_;rewrite[Nat.add_assoc]);exact hY _ _) q6
  exact w▸h
 have full:((kd==1)&&m6 st v)=false->sl [[],[97+((Ah v).fmod 4).toNat],[49+((Ah v).fdiv 4).toNat],m9 (Ah v)]=sl (Em kd (m6 st v) (Ah v)):=fun e=>by unfold Em;(refine e.symm▸?_;rfl)
 have plain:((kd==1)&&m6 st v)=false->ws l9 (Ak l9 prog n) false (AT 7 AY) Q X (Ad (Ad env 299 (.l8 (i2+61))) 194 (.l8 ((g++a).length+61))) (B S k m G st++(g++a++[sl [[],[97+((Ah v).fmod 4).toNat],[49+((Ah v).fdiv 4).toNat],m9 (Ah v)]])):=fun e=>
  part _ _ (g++a).length (E2.set (by decide) _) rfl (by refine(full e).symm▸?_;exact gD)
 refine Ab E2.nm ?_
 refine Ag nm0 ?_
 refine Ab E2.nm ?_
 refine Ag nm1 ?_
 refine Ab E2.nm ?_
 refine Ab E2.k ?_
 refine Ap (fun e=>?_) fun e=>?_
 ·have e:kd=1:=by
   rw[iC]at e;exact jN (Int.ofNat_le.mp (mO (mz _) mq (.num 1) mq (.num 1) rfl (iK e))) (Int.ofNat_le.mp (mO (mz _) (.num 1) mq (.num 1) mq rfl (iK e.symm)))
  refine Ab E2.c ?_
  cases ex:m6 st v with
  |false=>
   replace plain:=ex▸plain
   exact plain (by simp)
  |true=>
   have fl:sl [[97+((Ah v).fmod 4).toNat],m9 (Ah v)]=sl (Em kd (m6 st v) (Ah v)):=by(refine e.symm▸?_;refine ex.symm▸?_);rfl
   refine Ab E2.nm ?_
   refine Ag rfl ?_
   refine Ab E2.nm ?_
   have z:=part (Ad (Ad (Ad env 299 (.l8 (i2+61))) 194 (.l8 ((g++a).length+61))) 194 (.l8 ((g++a++[sl [[],[97+((Ah v).fmod 4).toNat],[49+((Ah v).fdiv 4).toNat],m9 (Ah v)]]).length+61))) ([sl [[],[97+((Ah v).fmod 4).toNat],[49+((Ah v).fdiv 4).toNat],m9 (Ah v)]]++[sl [[97+((Ah v).fmod 4).toNat],m9 (Ah v)]]) _ ((E2.set (by decide) _).set (by decide) _) rfl (by(refine fl.symm▸?_;rewrite[<- gB]);exact gD)
   rw[<- gB (g++a)]at z
   exact z
 ·have e:kd≠1:=by
   rw[gX]at e;lia
  exact plain (by refine(show(kd==1)=false by rw[gX];exact e).symm▸?_;rfl)
end
noncomputable def wF(v:Int):List Nat:=EO v (Af v)
noncomputable def oS(st:St)(v:Int):List (List Nat):=Df (ow st v).toNat (m6 st v) v (Af v)
noncomputable def oV(v:Int):List Nat:=PC v (Af v)
noncomputable def og(st:St)(mk:Int->List Nat)(j:Nat)(v:Int):V:=.tup [.str (wF v),.l8 (j+61),.str (oo st v),.str (oV v),.str (mk v)]
section
variable{S:List Int}{k:Int}{m:Nat}{G:mi}{st:St}{g:MH}{n:Nat}{X:As}{μ:MH}
theorem WZ{Q:Ae}{mk:Int->List Nat}(hn:13<=n)(GC:Cj G m)(F:Es G m st mk)(hv:v∈Ay G st)
  (h:∀e j,g.length<=j->(g++e)[j]?=some (sl (oS st v))->Q (og st mk j v) (B S k m G st++(g++e))):CG n false 301 [.l8 54,.int v] Q X (B S k m G st++g):=by
 refine stp hn fun n hn=>?_
 obtain⟨kd,tk,V,R,e⟩:=F.mv v hv
 have M:=V.M
 have C:=F.R.C
 have hb:=Ct (A4 C M.f0 M.f1)
 replace hb:=V.src▸hb
 have kk:(Mine.ow st v).toNat=kd:=by refine V.ow.symm▸?_;rfl
 unfold oS og oo at h
 replace h:=kk▸h
 refine Eu (md hn rfl) ?_
 refine KO (md hn rfl) ?_
 refine Dl (md hn rfl) ?_
 refine B1 M.f0 hb ?_
 refine Eb (md hn rfl) (hJ V.k7) ?_
 refine B1 M.t0 (Ct (A4 C M.t0 M.t1)) ?_
 have fin:∀env:An,(∀i2,qh (Ad env 299 (.l8 (i2+61))) st v kd i2)->ws l9 (Ak l9 prog n) false (AT 4 AY) (fun fl _ μ'=>match fl with|.ret v=>Q v μ'|.next=>Q .none μ'|.cont=>False) X env (B S k m G st++g):=fun env E=>bg (mk:=mk) (md hn rfl) GC F hv V E fun _ e j hl hj=>h e j hl hj
 refine Ap (fun e=>?_) fun e=>?_
 ·have e:m6 st v=true:=e
  refine Jq (md hn rfl) M.f0 (gS M.f1 GC.S.top) ?_
  exact fin (Ad (Ad (Ad (Ad (Ad (Ad (Ad (Ad (fun _=>none) 102 (.l8 54)) 19 (.int v)) 82 (.int (Ah v))) 61 (.int (mo v))) 14 (.int (Af v))) 1 (.int kd)) 260 (.str [120])) 297 (.str (m9 (Ah v)))) fun i2=>⟨rfl,rfl,rfl,rfl,rfl,rfl,by refine e.symm▸?_;rfl,rfl,rfl⟩
 ·have e:m6 st v=false:=e
  refine Jq (md hn rfl) M.f0 (gS M.f1 GC.S.top) ?_
  exact fin (Ad (Ad (Ad (Ad (Ad (Ad (Ad (Ad (fun _=>none) 102 (.l8 54)) 19 (.int v)) 82 (.int (Ah v))) 61 (.int (mo v))) 14 (.int (Af v))) 1 (.int kd)) 260 (.str [])) 297 (.str (m9 (Ah v)))) fun i2=>⟨rfl,rfl,rfl,rfl,rfl,rfl,by refine e.symm▸?_;rfl,rfl,rfl⟩
def BU(st:St)(mk:Int->List Nat)(g:MH):List V->List Int->Prop
 |[],[]=>True
 |r :: rs,v :: L=>(∃j,r=.tup [.int v,og st mk j v]/\g[j]?=some (sl (oS st v)))/\BU st mk g rs L
 |_,_=>False
theorem BU.more{mk:Int->List Nat}(e:MH):∀{rs:List V} {L:List Int},BU st mk g rs L->BU st mk (g++e) rs L
 |[],[],_=>trivial
 |_ :: _,_ :: _,⟨⟨j,a,b⟩,h⟩=>⟨⟨j,a,Ac b e⟩,h.more e⟩
theorem f7:Ij μ .In (.str x) (.tup l)=(Bz l).map fun ss=>ss.any (·==x):=rfl
theorem ba{l:List (List Nat)}(h:μ[a]?=some (sl l)):Ij μ .In (.str x) (.l8 a)=some (l.any (·==x)):=by
 have q:∀l:List (List Nat),Bz (l.map V.str)=some l:=fun l=>by
  induction l with
  |nil=>rfl
  |cons a l ih=>show(Bz (l.map V.str)).map _=_;rw[ih];rfl
 show((By μ a).bind fun l=>(Bz l).map fun ss=>ss.any (·==x))=_
 rw[CP h]
 show(Bz (l.map V.str)).map _=_
 rw[q];rfl
theorem Br(r:List Nat)(c:Nat):AF (r++[c])=[c]/\A8 (r++[c])=r:=by
 unfold AF A8 cut
 have e:(-1+((r++[c]).length:Int)).toNat=r.length:=by refine List.length_append.symm▸?_;show(-1+((r.length+1:Nat):Int)).toNat=_;lia
 (refine e.symm▸?_;refine(jH (gM _)).symm▸?_;refine List.drop_left.symm▸?_;refine List.take_left.symm▸?_)
 exact⟨rfl,rfl⟩
theorem Wg(h:AF t=[c]):B7 μ (.str t) (.int (-1))=some (.str [c]):=by
 rcases List.eq_nil_or_concat t with e|⟨r,d,e⟩
 ·subst e;exact nomatch h
 ·cases e
  rw[List.concat_eq_append]at h ⊢
  replace h:=((Br r d).1)▸h
  cases h
  show((CV (r++[c]).length (-1)).bind fun k=>((r++[c])[k]?).map fun c=>V.str [c])=_
  unfold CV
  rw[iO (by decide),iP (by refine List.length_append.symm▸?_;show(0:Int)<= -1+((r.length+1:Nat):Int);exact mO (mz _) (.num 0) (.add (.neg (.num 1)) (mw 0 1)) (.num 0) mq rfl (gW _))]
  show((r++[c])[(-1+((r++[c]).length:Int)).toNat]?).map _=_
  have e:(-1+((r++[c]).length:Int)).toNat=r.length:=by refine List.length_append.symm▸?_;show(-1+((r.length+1:Nat):Int)).toNat=_;lia
  (refine e.symm▸?_;refine List.getElem?_concat_length.symm▸?_);rfl
end
noncomputable def Io(t:List Nat)(v:Int):Bool:=wF v==t||oV v==t
noncomputable def Eg(st:St)(b:List Nat)(v:Int):Bool:=(oS st v).any (·==b)
noncomputable def KT(st:St)(mk:Int->List Nat)(b s:List Nat)(v:Int):Bool:=oo st v==b&&([[],mk v].any (·==s))
noncomputable def Vw:List Int->Option Int
 |[v]=>some v
 |_=>none
noncomputable def EB(mk:Int->List Nat)(st:St)(L:List Int)(t:List Nat):Option Int:=
 so (L.find? (Io t)) (so ((Vw (L.filter (Eg st (AX t).1))).filter fun v=>[[],mk v].any (·==(AX t).2)) (L.find? (KT st mk (AX t).1 (AX t).2)))
section
variable{S:List Int}{k:Int}{m:Nat}{G:mi}{st:St}{g:MH}{n:Nat}{X:As}{μ:MH}{mk:Int->List Nat}
noncomputable def eL:MS:=fb (mY 1 Cc)
theorem gi{Q:Au}(hi:μ[i]?=some (.list XS)):∀(rs:List V) (L:List Int) (env:An),BU st mk g rs L->env 224=some (.str t)->
  (∀env',(∀x,x≠19->x≠303->env' x=env x)->match L.find? (Io t)with|some v=>Q (.ret (.int v)) env' μ|none=>Q .next env' μ)->
  BA (some (i,XS)) (fun v K env' μ'=>opt (AC [19,303] false v env') fun e=>ws l9 (Ak l9 prog n) false eL K X e μ') rs Q env μ:=by
 intro rs
 induction rs with
 |nil=>
  intro L env T a h
  induction L using List.casesOn with
  |nil=>exact⟨hi,h env fun _ _ _=>rfl⟩
  |cons=>exact T.elim
 |cons r rs ih=>
  intro L env T a h
  induction L using List.casesOn with
  |nil=>exact T.elim
  |cons v L=>
   obtain⟨⟨j,er,hj⟩,T⟩:=T
   subst er
   refine⟨hi,?_⟩
   have skip:Io t v=false->BA (some (i,XS)) (fun v K env' μ'=>opt (AC [19,303] false v env') fun e=>ws l9 (Ak l9 prog n) false eL K X e μ') rs Q (Ad (Ad env 19 (.int v)) 303 (og st mk j v)) μ:=fun e=>by
    refine ih L _ T a fun env' b=>?_
    have h:=h env' fun x h1 h2=>(b x h1 h2).trans ((iO h2).trans (iO h1))
    (rw[ix]at h;replace h:=e▸h)
    exact h
   have got:Io t v=true->Q (.ret (.int v)) (Ad (Ad env 19 (.int v)) 303 (og st mk j v)) μ:=fun e=>by
    have h:=h (Ad (Ad env 19 (.int v)) 303 (og st mk j v)) fun x h1 h2=>(iO h2).trans (iO h1)
    (replace h:=ix▸h;rw[e]at h)
    exact h
   refine Ag rfl ?_
   refine Ab a ?_
   refine Ap (fun e=>?_) fun e=>?_
   ·have e:(wF v==t)=true:=e
    exact got (by unfold Io;refine e.symm▸?_;rfl)
   ·have e:(wF v==t)=false:=e
    refine Ag rfl ?_
    refine Ab a ?_
    refine Ap (fun e2=>?_) fun e2=>?_
    ·have e2:(oV v==t)=true:=e2
     exact got (by unfold Io;(refine e2.symm▸?_;rewrite[jz];rfl))
    ·have e2:(oV v==t)=false:=e2
     exact skip (by unfold Io;(refine e.symm▸?_;refine e2.symm▸?_);rfl)
noncomputable def eM:MS:=fb (mY 4 Cc)
theorem gk{Q:Au}(hi:μ[i]?=some (.list XS)):∀(rs:List V) (L:List Int) (env:An),BU st mk g rs L->env 261=some (.str b)->env 291=some (.str s)->
  (∀env',match L.find? (KT st mk b s)with|some v=>Q (.ret (.int v)) env' μ|none=>Q .next env' μ)->
  BA (some (i,XS)) (fun v K env' μ'=>opt (AC [19,303] false v env') fun e=>ws l9 (Ak l9 prog n) false eM K X e μ') rs Q env μ:=by
 intro rs
 induction rs with
 |nil=>
  intro L env T a a2 h
  induction L using List.casesOn with
  |nil=>exact⟨hi,h env⟩
  |cons=>exact T.elim
 |cons r rs ih=>
  intro L env T a a2 h
  induction L using List.casesOn with
  |nil=>exact T.elim
  |cons v L=>
   obtain⟨⟨j,er,hj⟩,T⟩:=T
   subst er
   refine⟨hi,?_⟩
   have skip:KT st mk b s v=false->BA (some (i,XS)) (fun v K env' μ'=>opt (AC [19,303] false v env') fun e=>ws l9 (Ak l9 prog n) false eM K X e μ') rs Q (Ad (Ad env 19 (.int v)) 303 (og st mk j v)) μ:=fun e=>by
    refine ih L _ T a a2 fun env'=>?_
    have h:=h env'
    (rw[ix]at h;replace h:=e▸h)
    exact h
   refine Ag rfl ?_
   refine Ab a ?_
   refine Ap (fun e=>?_) fun e=>?_
   ·have e:(oo st v==b)=true:=e
    refine Ab a2 ?_
    refine Ag rfl ?_
    refine Ab rfl ?_
    refine Ap (fun e2=>?_) fun e2=>?_
    ·have e2:([[],mk v].any (·==s))=true:=e2
     have h:=h (Ad (Ad env 19 (.int v)) 303 (og st mk j v))
     rw[ix,show KT st mk b s v=true by unfold KT;(refine e.symm▸?_;refine e2.symm▸?_);rfl]at h
     exact h
    ·have e2:([[],mk v].any (·==s))=false:=e2
     exact skip (by unfold KT;(refine e2.symm▸?_;rewrite[jZ];rfl))
   ·have e:(oo st v==b)=false:=e
    exact skip (by unfold KT;refine e.symm▸?_;rfl)
noncomputable def lmC:ME:=.cmp (.l8 261) .In (.sub (.l8 303) (.int 1))
theorem gj{K:MH->Prop}(hi:g[i]?=some (.list XS))(a:env 261=some (.str b)):∀(rs:List V) (L:List Int) (xs:List V),BU st mk g rs L->xs.length+rs.length<90000->
  (∀ys,BU st mk g ys (L.filter (Eg st b))->K (B S k m G st++(g++[.list (xs++ys)])))->
  Dr (some (i+61,XS)) (g.length+61) (fun v K μ'=>opt (AC [19,303] false v (AG [19,303] env)) fun e=>wt l9 (Ak l9 prog n false) e lmC K (fun _ _=>False) μ')
   (fun v K μ'=>opt (AC [19,303] false v (AG [19,303] env)) fun e=>we l9 (Ak l9 prog n false) e (.tup (.cons (.l8 19) (.cons (.l8 303) .nil))) K (fun _ _=>False) μ') rs K (B S k m G st++(g++[.list xs])):=by
 intro rs
 induction rs with
 |nil=>
  intro L xs T _ h
  cases L with
  |nil=>have h:=h [] trivial;rw[gK]at h;exact⟨Ac hi _,h⟩
  |cons=>exact T.elim
 |cons r rs ih=>
  intro L xs T hl h
  cases L with
  |nil=>exact T.elim
  |cons v L=>
   obtain⟨⟨j,er,hj⟩,T⟩:=T
   subst er
   rw[gY]at hl
   have q6:(B S k m G st++(g++[MO.list xs]))[j+61]?=some (sl (oS st v)):=(Ac hj [MO.list xs]:(g++[MO.list xs])[j]?=_)
   refine⟨Ac hi _,?_⟩
   refine Ab a ?_
   refine Ag rfl ?_
   refine Ab (ba q6) ?_
   refine Ap (fun e=>?_) fun e=>?_
   ·have e:Eg st b v=true:=e
    rw[jl e]at h
    have q:By (B S k m G st++(g++[MO.list xs])) (g.length+61)=some xs:=FR (gD:(g++[MO.list xs])[g.length]?=_)
    refine Ab q ?_
    refine Aj (gG (hH (hY _ _) (iB hl (by decide)))) ?_
    rw[show(B S k m G st++(g++[MO.list xs])).set (g.length+61) (.list (xs++[.tup [.int v,og st mk j v]]))=B S k m G st++(g++[.list (xs++[.tup [.int v,og st mk j v]])]) by
     have z:(g++[MO.list xs]).set g.length (.list (xs++[.tup [.int v,og st mk j v]]))=g++[.list (xs++[.tup [.int v,og st mk j v]])]:=by rw[hU _ _ (gM _),iI];rfl
     rw[<- z];rfl]
    refine ih L (xs++[.tup [.int v,og st mk j v]]) T (by rw[gF];show _+1+_<_;exact S7 hl) fun ys U=>?_
    rw[gB]
    exact h (.tup [.int v,og st mk j v] :: ys) ⟨⟨j,rfl,hj⟩,U⟩
   ·have e:Eg st b v=false:=e
    rw[jm (by rw[e];exact iT)]at h
    exact ih L xs T (by exact YF hl) h
theorem bA{Q:Au}{L:List Int}(hi:g[jt]?=some (.list rs))(T:BU st mk g rs L)(e1:env 302=some (.l8 (jt+61)))(e2:env 261=some (.str b))(e3:env 291=some (.str s))
  (h:∀env',Q (.ret (bX (L.find? (KT st mk b s)))) env' (B S k m G st++g)):ws l9 (Ak l9 prog n) false (AT 4 Cc) Q X env (B S k m G st++g):=by
 refine Ab e1 ?_
 refine Ab (Lq hi) ?_
 refine A0 ?_
 refine gk (μ:=B S k m G st++g) (i:=jt+61) hi rs L env T e2 e3 fun env'=>?_
 revert h
 cases L.find? (KT st mk b s) with
 |some v=>intro h;exact h _
 |none=>intro h;exact h _
theorem W9(t:List Nat):([[43],[35]].any (·==AF t))=(AF t==[43]||AF t==[35]):=by
 have q:∀a b:List Nat,(a==b)=(b==a):=fun a b=>by
  cases e:b==a with
  |true=>exact(gU e)▸(iy _)
  |false=>
   cases e2:a==b with
   |true=>(replace e:=(gU e2)▸e;rw[iy]at e);exact FT e
   |false=>rfl
 show([43]==AF t||([35]==AF t||false))=_
 rw[q [43],q [35],jB]
@[elab_as_elim] theorem gw{mk:Int->List Nat}{motive:List V->List Int->Prop}(U:BU st mk g ys M)(h0:motive [] [])(h1:∀v j,g[j]?=some (sl (oS st v))->motive [.tup [.int v,og st mk j v]] [v])(h2:∀y y2 ys v v2 M,motive (y :: y2 :: ys) (v :: v2 :: M)):motive ys M:=by
 rcases ys with _|⟨y,_|⟨y2,ys⟩⟩<;>rcases M with _|⟨v,_|⟨v2,M⟩⟩
 ·exact h0
 ·exact U.elim
 ·exact U.elim
 ·exact U.elim
 ·obtain⟨⟨j,rfl,hj⟩,_⟩:=U;exact h1 v j hj
 ·exact U.2.elim
 ·exact U.elim
 ·exact U.2.elim
 ·exact h2 ..
theorem WP{Q:Ae}{rs:List V}(hn:1<=n)(hi:g[jt]?=some (.list rs))(T:BU st mk g rs L)(hl:rs.length<80000)
  (h:∀e,Q (bX (EB mk st L t)) (B S k m G st++(g++e))):CG n false 305 [.l8 (jt+61),.str t] Q X (B S k m G st++g):=by
 refine stp hn fun n hn=>?_
 unfold EB at h
 have rest:∀(env:An),env 224=some (.str t)->env 302=some (.l8 (jt+61))->env 261=some (.str (AX t).1)->env 291=some (.str (AX t).2)->
   ws l9 (Ak l9 prog n) false (AT 1 Cc) (fun fl _ μ'=>match fl with|.ret v=>Q v μ'|.next=>Q .none μ'|.cont=>False) X env (B S k m G st++g):=by
  intro env a1 a2 a3 a4
  refine Ab a2 ?_
  refine Ab (Lq hi) ?_
  refine A0 ?_
  refine gi (st:=st) (g:=g) (mk:=mk) (μ:=B S k m G st++g) (i:=jt+61) (t:=t) hi rs L env T a1 fun env' z=>?_
  revert h
  cases L.find? (Io t) with
  |some v=>intro h;have h:=h [];rw[gK]at h;exact h
  |none=>
   intro h
   refine Ab ((z 302 (by decide) (by decide)).trans a2) ?_
   refine Ab (Lq hi) ?_
   refine gj (env:=env') (b:=(AX t).1) hi ((z 261 (by decide) (by decide)).trans a3) rs L [] T (by show 0+_<_;exact YG hl) fun ys U=>?_
   have hs:(g++[MO.list ys])[g.length]?=some (.list ys):=gD
   have b1:Ad env' 304 (.l8 (g.length+61)) 302=some (.l8 (jt+61)):=(z 302 (by decide) (by decide)).trans a2
   have b2:Ad env' 304 (.l8 (g.length+61)) 261=some (.str (AX t).1):=(z 261 (by decide) (by decide)).trans a3
   have b3:Ad env' 304 (.l8 (g.length+61)) 291=some (.str (AX t).2):=(z 291 (by decide) (by decide)).trans a4
   have last:(Vw (L.filter (Eg st (AX t).1))).filter (fun v=>[[],mk v].any (·==(AX t).2))=none->ws l9 (Ak l9 prog n) false (AT 4 Cc) (fun fl _ μ'=>match fl with|.ret v=>Q v μ'|.next=>Q .none μ'|.cont=>False) X (Ad env' 304 (.l8 (g.length+61))) (B S k m G st++(g++[.list ys])):=fun w=>by
    refine bA (Ac hi [.list ys]) (T.more _) b1 b2 b3 fun _=>?_
    have h:=h [.list ys]
    replace h:=w▸h
    exact h
   refine Ab (FR hs) ?_
   clear hs
   revert h last
   generalize L.filter (Eg st (AX t).1)=M at U
   refine gw U (fun _ last=>last rfl) (fun v j _ h last=>?_) fun _ _ _ _ _ _ _ last=>last rfl
   have s0:B7 (B S k m G st++(g++[MO.list [.tup [.int v,og st mk j v]]])) (.l8 (g.length+61)) (.int 0)=some (.tup [.int v,og st mk j v]):=HI (gD)
   refine Ab b3 ?_
   refine Ag s0 ?_
   refine Ag rfl ?_
   refine Ag rfl ?_
   refine Ab rfl ?_
   refine Ap (fun e=>?_) fun e=>?_
   ·have e:([[],mk v].any (·==(AX t).2))=true:=e
    have h:=h [.list [.tup [.int v,og st mk j v]]]
    rw[show(Vw [v]).filter (fun v=>[[],mk v].any (·==(AX t).2))=some v from iP e]at h
    refine Ag s0 ?_
    refine Ag rfl ?_
    exact h
   ·exact last (iO fun q=>Ex q e)
 have pm:=W9 t
 refine Ab rfl ?_
 refine Ap (fun e=>?_) fun e=>?_
 ·have e:([[43],[35]].any (·==AF t))=true:=e
  replace e:=pm▸e
  have cs:AX t=(A8 t,AF t)/\∃c,AF t=[c]:=by
   unfold AX
   cases e1:AF t==[43] with
   |true=>exact⟨rfl,43,gU e1⟩
   |false=>
    (replace e:=e1▸e;rw[iM]at e)
    refine e.symm▸?_
    exact⟨rfl,35,gU e⟩
  obtain⟨cs,c,ec⟩:=cs
  refine Ag (Wg ec) ?_
  refine rest (Ad (Ad (Ad (Ad (fun _=>none) 302 (.l8 (jt+61))) 224 (.str t)) 261 (.str (A8 t))) 291 (.str [c])) rfl rfl ?_ ?_
  ·refine cs.symm▸?_;rfl
  ·(refine cs.symm▸?_;refine ec.symm▸?_);rfl
 ·have e:([[43],[35]].any (·==AF t))=false:=e
  replace e:=pm▸e
  have cs:AX t=(t,[]):=by
   unfold AX
   cases e1:AF t==[43] with
   |true=>replace e:=e1▸e;exact FT e
   |false=>(replace e:=e1▸e;rw[iM]at e);(refine e.symm▸?_;rfl)
  refine rest (Ad (Ad (Ad (Ad (fun _=>none) 302 (.l8 (jt+61))) 224 (.str t)) 261 (.str t)) 291 (.str [])) rfl rfl ?_ ?_
  ·refine cs.symm▸?_;rfl
  ·refine cs.symm▸?_;rfl
end
section
variable{S:List Int}{k:Int}{n:Nat}{hd:Bool}{Q:Ae}{X:As}{r:MH}
theorem MQ{a:Int}(h:0<many):0<=a.fmod many/\a.fmod many<many:=by
 refine(lr _ (jn h)).symm▸?_
 exact⟨Int.emod_nonneg _ (by exact iJ (S9 h)),Int.emod_lt_of_pos _ h⟩
theorem TQ(hn:1<=n)(k0:0<=k)(k1:k<900)(hm:0<many)(h:∀d,0<=d->d<many->Q (.int d) (il S :: .list [.l8 0,.int (k+1)] :: r)):CG n hd 280 [.l8 1,.int many] Q X (il S :: .list [.l8 0,.int k] :: r):=by
 refine stp hn fun n hn=>?_
 have q:(il S :: MO.list [.l8 0,.int (k+1)] :: r)[0]?=some (il S):=rfl
 have sm:small (k+1)=true:=D1 (by exact mO (mz _) (.add (.neg (.num 1000)) (.num 1)) (mw 0 1) (.num 0) mq rfl k0) (by exact mO (mz _) (.add (mw 0 1) (.num 1)) (.num 1000) (mw 0 1) (.num 900) rfl k1)
 refine Ag rfl ?_
 refine Ag rfl ?_
 refine Ag rfl ?_
 refine Ap (fun e=>?_) fun e=>?_
 ·have e:decide (k+1<=(((S.map V.int).length:Nat):Int))=true:=e
  rw[g6]at e
  refine Ag rfl ?_
  refine Ag rfl ?_
  refine AO q (by exact mO (mz _) (.num 0) (.sub (mw 0 1) (.num 1)) (.num 0) mq rfl k0) (by lia) ?_
  refine Aj (gG (by exact iJ (S9 hm):many≠0)) ?_
  exact h _ (MQ hm).1 (MQ hm).2
 ·conv=>whnf
  refine Ag rfl ?_
  refine Ag rfl ?_
  refine Aj sm ?_
  refine Aj sm ?_
  refine Ag rfl ?_
  refine Aj sm ?_
  refine Aj (gG (by exact iJ (S9 hm):many≠0)) ?_
  exact h _ (MQ hm).1 (MQ hm).2
end
noncomputable def G4:mi:={ranks:=4,size:=16,full:=65535,files:=[4369,8738,17476,34952],rankm:=[15,240,3840,61440],e22:=il [],knight:=[576,1408,2576,1056,9220,22536,41217,16898,16450,32901,4122,8228,1056,2128,416,576],pawn0:=[32,80,160,64,512,1280,2560,1024,8192,20480,40960,16384,0,0,0,0],pawn1:=[0,0,0,0,2,5,10,4,32,80,160,64,512,1280,2560,1024],king:=[50,117,234,196,803,1879,3758,3148,12848,30064,60128,50368,8960,22272,44544,19456],r0:=[4368,8736,17472,34944,4352,8704,17408,34816,4096,8192,16384,32768,0,0,0,0],r1:=[14,12,8,0,224,192,128,0,3584,3072,2048,0,57344,49152,32768,0],r2:=[0,0,0,0,1,2,4,8,17,34,68,136,273,546,1092,2184],r3:=[0,1,3,7,0,16,48,112,0,256,768,1792,0,4096,12288,28672],r4:=[33824,2112,128,0,16896,33792,2048,0,8192,16384,32768,0,0,0,0,0],r5:=[0,0,0,0,2,4,8,0,36,72,128,0,584,1152,2048,0],r6:=[0,0,0,0,0,1,2,4,0,16,33,66,0,256,528,1057],r7:=[0,16,288,4672,0,256,4608,9216,0,4096,8192,16384,0,0,0,0],e48:=il [0,0,0,0,0,0,0,0,0,0,0,0,0,0,0,0]}
noncomputable def G5:mi:={ranks:=5,size:=20,full:=1048575,files:=[69905,139810,279620,559240],rankm:=[15,240,3840,61440,983040],e22:=il [],knight:=[576,1408,2576,1056,9220,22536,41217,16898,147522,360581,659482,270372,263200,526416,65952,131648,16896,34048,6656,9216],pawn0:=[32,80,160,64,512,1280,2560,1024,8192,20480,40960,16384,131072,327680,655360,262144,0,0,0,0],pawn1:=[0,0,0,0,2,5,10,4,32,80,160,64,512,1280,2560,1024,8192,20480,40960,16384],king:=[50,117,234,196,803,1879,3758,3148,12848,30064,60128,50368,205568,481024,962048,805888,143360,356352,712704,311296],r0:=[69904,139808,279616,559232,69888,139776,279552,559104,69632,139264,278528,557056,65536,131072,262144,524288,0,0,0,0],r1:=[14,12,8,0,224,192,128,0,3584,3072,2048,0,57344,49152,32768,0,917504,786432,524288,0],r2:=[0,0,0,0,1,2,4,8,17,34,68,136,273,546,1092,2184,4369,8738,17476,34952],r3:=[0,1,3,7,0,16,48,112,0,256,768,1792,0,4096,12288,28672,0,65536,196608,458752],r4:=[33824,2112,128,0,541184,33792,2048,0,270336,540672,32768,0,131072,262144,524288,0,0,0,0,0],r5:=[0,0,0,0,2,4,8,0,36,72,128,0,584,1152,2048,0,9344,18432,32768,0],r6:=[0,0,0,0,0,1,2,4,0,16,33,66,0,256,528,1057,0,4096,8448,16912],r7:=[0,16,288,4672,0,256,4608,74752,0,4096,73728,147456,0,65536,131072,262144,0,0,0,0],e48:=il [0,0,0,0,0,0,0,0,0,0,0,0,0,0,0,0,0,0,0,0]}
noncomputable def t9(m:Nat):St:={board:=List.replicate m 0,k0:=0,k1:=0,k2:=0,k3:=0,k4:=0,k5:=0,k6:=0,s0:=0,s1:=0,side:=false,half:=0,full:=1,key:=0,hist:=[]}
noncomputable def RM(m:Nat):MH:=[ll [3,4,5,6,7,8,9,10,11,12,13,14,15,16,17],Bh m 0,Bh m 1,Bh m 2,Bh m 3,Bh m 4,Bh m 5,Bh m 6,Bh m 7,Bh m 8,Bh m 9,Bh m 10,Bh m 11,Bh m 12,Bh m 13,Bh m 14]
noncomputable def H6(r:Int):An:=Ad (Ad (Ad (fun _=>none) 278 (.l8 1)) 49 (.int r)) 63 (.int (4*r))
theorem fJ(n:Nat)(Q:Ae)(X:As)(a b:MO):we l9 (Ak l9 prog n false) (H6 4) (rhs (mY 2 Av)) Q X [a,b]=Q (.l8 2) (a :: b :: RM 16):=by kernel_rfl
theorem fK(n:Nat)(Q:Ae)(X:As)(a b:MO):we l9 (Ak l9 prog n false) (H6 5) (rhs (mY 2 Av)) Q X [a,b]=Q (.l8 2) (a :: b :: RM 20):=by kernel_rfl
theorem gp(n:Nat)(Q:Ae)(X:As)(S:List Int)(k:Int):we l9 (Ak l9 prog (n+5) false) (Ad (H6 4) 287 (.l8 2)) (rhs (mY 3 Av)) Q X (il S :: .list [.l8 0,.int k] :: RM 16)=Q (.l8 54) (B S k 16 G4 (t9 16)):=by kernel_rfl
theorem gq(n:Nat)(Q:Ae)(X:As)(S:List Int)(k:Int):we l9 (Ak l9 prog (n+5) false) (Ad (H6 5) 287 (.l8 2)) (rhs (mY 3 Av)) Q X (il S :: .list [.l8 0,.int k] :: RM 20)=Q (.l8 54) (B S k 20 G5 (t9 20)):=by kernel_rfl
structure EQ(G:mi)(st:St)(c:Bool)(x:Int):Prop where
 x0:0<=x
 x1:x<G.size
 it:∀k:Nat,AB st.board k=pc c 6↔(k:Int)=x
theorem M5(h:pc c a=pc d b)(ha:a<7)(hb:b<7):c=d/\a=b:=by
 unfold pc at h
 induction c using Bool.casesOn<;>induction d using Bool.casesOn<;>simp only[sd]at h<;>first|exact⟨rfl,by decide⟩|lia
theorem GY{st:St}(C:mM G st)(c:Bool)(h1:1<=kd)(h7:kd<7)(k:Nat):tb (Am (st.si c) (st.kd kd)) k=true↔AB st.board k=pc c kd:=by
 show tb (Builtin.bitAnd _ _) k=true↔_
 rw[Bv,C.sb,C.kb kd h1 h7]
 rcases C.rT k with e|⟨d,q,q1,q7,e⟩
 ·rw[e]
  exact⟨fun h=>(by exact De h),fun h=>absurd h.symm (Eo c h1)⟩
 ·(refine e.symm▸?_;rewrite[Cm d q1 q7];rewrite[Cl d q1 q7])
  constructor
  ·intro h
   simp only[gP,hV]at h
   (refine h.1.symm▸?_;refine h.2.symm▸?_;rfl)
  ·intro h
   obtain⟨rfl,rfl⟩:=M5 h q7 h7
   simp
theorem U0(k:Nat):∀(a:Nat) (s:Int),0<a->a<2 ^ k->∃j:Nat,Ga k a s=s+j/\a.testBit j=true:=by
 induction k with
 |zero=>intro a s h0 h1;exact absurd h1 (by exact Nat.not_lt.mpr (mU (mz _) (.num 1) mu (.add (.num 0) (.num 1)) mu rfl h0))
 |succ k ih=>
  intro a s h0 h1
  have b1:=NQ a (by exact OA (gW _))
  have hf:(a:Int).fdiv 2=((a / 2:Nat):Int):=by rw[iG _ (by decide)];rfl
  unfold Ga
  rcases jx a with c|c
  ·obtain⟨j,e2,e3⟩:=ih (a / 2) (s+1) (by lia) (by rw[kP]at h1;lia)
   refine⟨j+1,?_,by rw[iR];exact e3⟩
   rw[b1,show((a:Int) % 2 != 0)=false by simp;lia,hf]
   show Ga k _ _=_
   rw[e2];exact ii (fo) (fp)
  ·refine⟨0,?_,by rw[jb,c];rfl⟩
   rw[b1,show((a:Int) % 2 != 0)=true by simp;lia]
   show s=_
   exact ii (fq) (fu)
theorem GJ{G:mi}{st:St}{c:Bool}{x:Int}(GS:G.mh)(C:mM G st)(K:EQ G st c x):Ax st c=x:=by
 have hb:Bd G (Am (st.si c) st.k6):=(C.pQ c).left _
 have ht:=hb.top GS
 have t:=GY C c (kd:=6) (by decide) (by decide)
 have t:∀k,tb (Am (st.si c) st.k6) k=true↔AB st.board k=pc c 6:=t
 unfold Ax
 revert hb ht t
 generalize Am (st.si c) st.k6=y
 intro hb ht t
 obtain⟨a,rfl⟩:=gJ hb.1
 have hx:a.testBit x.toNat=true:=(t x.toNat).mpr ((K.it x.toNat).mpr (g9 K.x0))
 have a0:0<a:=by
  rcases Nat.eq_zero_or_pos a with z|z
  ·subst z;rw[Nat.zero_testBit]at hx;exact De hx
  ·exact z
 obtain⟨j,e1,e2⟩:=U0 20 a 0 a0 (by lia)
 (refine e1.symm▸?_;rewrite[kj])
 exact(K.it j).mp ((t j).mp e2)
theorem MC{a b:St}(hk:∀kd,kd<7->a.kd kd=b.kd kd)(hs:∀c,a.si c=b.si c)(c:Bool):Bo G a c=Bo G b c:=by
 have k1:a.k1=b.k1:=hk 1 (by decide)
 have k2:a.k2=b.k2:=hk 2 (by decide)
 have k3:a.k3=b.k3:=hk 3 (by decide)
 have k4:a.k4=b.k4:=hk 4 (by decide)
 have k5:a.k5=b.k5:=hk 5 (by decide)
 have k6:a.k6=b.k6:=hk 6 (by decide)
 have s0:a.s0=b.s0:=hs false
 have s1:a.s1=b.s1:=hs true
 have e1:Ax a c=Ax b c:=by unfold Ax;rw[hs,k6]
 have e2:A3 a=A3 b:=by unfold A3;(refine s0.symm▸?_;refine s1.symm▸?_;rfl)
 have e3:AQ a=AQ b:=by unfold AQ;(refine k4.symm▸?_;refine k5.symm▸?_;rfl)
 have e4:Ch a=Ch b:=by unfold Ch;(refine k3.symm▸?_;refine k5.symm▸?_;rfl)
 have e5:∀sq d,B4 G a sq d=B4 G b sq d:=fun sq d=>by unfold B4 IG;rw[hs,k1,k2,k6]
 unfold Bo Bq B9
 rw[e1,e2,e3,e4,e5,hs]
structure Pos(G:mi)(st:St):Prop where
 C:mM G st
 o6:∀c,∃x,EQ G st c x
 safe:Bo G st (!st.side)=false
 hist:st.hist=[]
theorem Pos.king{G:mi}{st:St}(GS:G.mh)(P:Pos G st)(c:Bool):0<=Ax st c/\Ax st c<G.size:=by
 obtain⟨x,K⟩:=P.o6 c
 rw[GJ GS P.C K]
 exact⟨K.x0,K.x1⟩
theorem Nw{G:mi}{st:St}{s:Int}(C:mM G st)(h1:1<=kd)(h6:kd<6)(s0:0<=s)(s1:s<G.size)(he:AB st.board s.toNat=0)(K:EQ G st d x):EQ G (Bu m st c kd s) d x:=by
 refine⟨K.x0,K.x1,fun k=>?_⟩
 rw[ED C h1 (by exact HD h6) s0 s1]
 split
 ·rename_i e
  constructor
  ·intro z;have:=(M5 z (by exact HD h6) (by decide)).2;lia
  ·intro z
   have:=(K.it k).mpr z
   rw[<- e,he]at this
   exact absurd this.symm (Eo d (by decide))
 ·exact K.it k
theorem Pos.put{G:mi}{st:St}{s:Int}(P:Pos G st)(h1:1<=kd)(h6:kd<6)(s0:0<=s)(s1:s<G.size)(he:AB st.board s.toNat=0)(ok:Bo G (Bu m st c kd s) (!st.side)=false):Pos G (Bu m st c kd s):=by
 refine⟨P.C.put h1 (by exact HD h6) s0 s1 he,fun d=>?_,?_,?_⟩
 ·obtain⟨x,K⟩:=P.o6 d
  exact⟨x,Nw P.C h1 h6 s0 s1 he K⟩
 ·refine((BN m st c kd s).side).symm▸?_;exact ok
 ·exact((BN m st c kd s).hist).trans (P.hist)
theorem Pos.back{G:mi}{st:St}{s:Int}(P:Pos G st)(h1:1<=kd)(h6:kd<6)(s0:0<=s)(s1:s<G.size)(he:AB st.board s.toNat=0):Pos G (BZ m (Bu m st c kd s) c kd s):=by
 have C1:=P.C.put (m:=m) (c:=c) h1 (by exact HD h6) s0 s1 he
 have ui:AB (Bu m st c kd s).board s.toNat=pc c kd:=by(rewrite[ED P.C h1 (by exact HD h6) s0 s1];refine(iP rfl).symm▸?_;rfl)
 have C2:=C1.take (m:=m) h1 (by exact HD h6) s0 s1 ui
 have R:=(Ci m (Bu m st c kd s) c kd s).trans (BN m st c kd s)
 have eb:(BZ m (Bu m st c kd s) c kd s).board=st.board:=by
  refine Wa (by have:=C2.len;have:=P.C.len;lia) fun j=>?_
  rw[EH C1 h1 (by exact HD h6) s0 s1,ED P.C h1 (by exact HD h6) s0 s1]
  split
  ·rename_i e;(refine e▸?_;refine he.symm▸?_;rfl)
  ·rfl
 have u1:=(C2.uniq P.C eb).1;have u2:=(C2.uniq P.C eb).2
 refine⟨C2,fun d=>?_,?_,R.hist.trans P.hist⟩
 ·obtain⟨x,K⟩:=P.o6 d
  exact⟨x,K.x0,K.x1,fun k=>by refine eb.symm▸?_;exact K.it k⟩
 ·(refine R.side.symm▸?_;rewrite[MC u1 u2]);exact P.safe
noncomputable def mx(i j:Int):Int:=if i<j then j else i
noncomputable def F6(z s:Int):Bool:=decide (1<mx ((s.fmod 4 - z.fmod 4).natAbs:Int) ((s.fdiv 4 - z.fdiv 4).natAbs:Int))
noncomputable def G1(size:Int):List Int:=(List.range size.toNat).map fun(i:Nat)=>(i:Int)
theorem OF:∀(j:Nat) (a:Int),BR j a 1=(List.range j).map fun(i:Nat)=>V.int (a+i)
 |0,a=>rfl
 |j+1,a=>by
  rw[List.range_succ_eq_map,ja,List.map_map]
  show V.int a :: BR j (a+1) 1=_
  rw[OF j (a+1)]
  congr 1
  ·rw[show a+((0:Nat):Int)=a by exact ii (fu) (fq)]
  ·refine l7 fun i _=>?_
   show V.int (a+1+i)=V.int (a+((i+1:Nat):Int))
   congr 1;exact ii (fo) (fp)
theorem Tf{size:Int}(h:0<=size):Cs 0 size 1=size.toNat:=by
 unfold Cs
 rw[iP (by decide)]
 split
 ·rw[Int.ediv_one];lia
 ·lia
theorem LG(h:0<=size):BR (Cs 0 size 1) 0 1=(G1 size).map V.int:=by
 rw[Tf h,OF]
 unfold G1
 rw[List.map_map]
 refine l7 fun i _=>?_
 show V.int (0+(i:Int))=V.int i
 rw[kj]
theorem Op(h:y∈G1 size):0<=y/\y<size:=by
 unfold G1 at h
 obtain⟨i,hi,e⟩:=List.mem_map.mp h
 have:=List.mem_range.mp hi
 lia
section
variable{S:List Int}{k:Int}{m:Nat}{G:mi}{st:St}{g:MH}{n:Nat}{hd:Bool}{X:As}{μ:MH}
noncomputable def apC:ME:=.cmp (.blt 2 (.cons (.blt 1 (.cons (.bin .Sub (.bin .Mod (.l8 282) (.int 4)) (.bin .Mod (.l8 284) (.int 4))) .nil)) (.cons (.blt 1 (.cons (.bin .Sub (.bin .FloorDiv (.l8 282) (.int 4)) (.bin .FloorDiv (.l8 284) (.int 4))) .nil)) .nil))) .Gt (.int 1)
theorem Wz{K:MH->Prop}(a:env 284=some (.int z)):∀(L:List Int) (items:List V) (xs:List Int),items=L.map V.int->xs.length+L.length<90000->
  K (B S k m G st++(g++[il (xs++L.filter (F6 z))]))->
  Dr none (g.length+61) (fun v K μ'=>opt (AC [282] true v (AG [282] env)) fun e=>wt l9 (Ak l9 prog n false) e apC K (fun _ _=>False) μ')
   (fun v K μ'=>opt (AC [282] true v (AG [282] env)) fun e=>we l9 (Ak l9 prog n false) e (.l8 282) K (fun _ _=>False) μ') items K (B S k m G st++(g++[il xs])):=by
 intro L
 induction L with
 |nil=>
  intro items xs e _ h
  subst e
  rw[li,gK]at h
  exact h
 |cons s L ih=>
  intro items xs e hl h
  subst e
  rw[gY]at hl
  refine Ab a ?_
  refine Ab a ?_
  refine Ap (fun e=>?_) fun e=>?_
  ·have e:F6 z s=true:=e
   rw[jl e]at h
   have hj:(g++[il xs])[g.length]?=some (il xs):=gD
   refine Ab (DA hj) ?_
   refine Aj (room (by exact fv hl)) ?_
   rw[Fg,hU _ _ (gM _),iI]
   refine ih _ (xs++[s]) rfl (by rw[gF];show _+1+_<_;exact S7 hl) ?_
   rw[gB]
   exact h
  ·have e:F6 z s=false:=e
   rw[jm (by rw[e];exact iT)]at h
   exact ih _ xs rfl (by exact YF hl) h
end
structure qz(G:mi)(env:An):Prop where
 j:env 278=some (.l8 1)
 p:env 102=some (.l8 54)
 s:env 63=some (.int G.size)
 r:env 49=some (.int G.ranks)
theorem qz.set(E:qz G env)(h1:y≠278/\y≠102/\y≠63/\y≠49)(w:V):qz G (Ad env y w):=by
 have q:∀x,x≠y->Ad env y w x=env x:=fun x h=>iO h
 exact⟨(q _ h1.1.symm).trans E.j,(q _ h1.2.1.symm).trans E.p,(q _ h1.2.2.1.symm).trans E.s,(q _ h1.2.2.2.symm).trans E.r⟩
section
variable{S:List Int}{k:Int}{m:Nat}{G:mi}{st:St}{g:MH}{n:Nat}{hd:Bool}{X:As}{μ:MH}
theorem Bw{Q:Ae}(hn:1<=n)(k0:0<=k)(k1:k<900)(hm:0<many)(h:∀d,0<=d->d<many->Q (.int d) (B S (k+1) m G st++g)):CG n hd 280 [.l8 1,.int many] Q X (B S k m G st++g):=TQ hn k0 k1 hm h
noncomputable def rh:MS:=fb (mY 9 Av)
theorem fO{Q:Au}{env:An}{c:Bool}{kd:Nat}{s:Int}(hn:6<=n)(GC:Cj G m)(P:Pos G st)(E:qz G env)(h1:1<=kd)(h6:kd<6)(s0:0<=s)(s1:s<G.size)(he:AB st.board s.toNat=0)(e1:env 1=some (.int kd))(e2:env 0=some (.int (sd c)))(e3:env 282=some (.int s))
  (h:∀nu,Pos G nu->Q .next env (B S k m G nu++g)):ws l9 (Ak l9 prog n) false (AT 4 rh) Q X env (B S k m G st++g):=by
 have tA:=gS s1 GC.S.top
 have C1:=P.C.put (m:=m) (c:=c) h1 (by exact HD h6) s0 s1 he
 have pE:=(BN m st c kd s).side
 obtain⟨x,K⟩:=P.o6 (!st.side)
 have K1:=Nw (m:=m) (c:=c) P.C h1 h6 s0 s1 he K
 have q:=GJ GC.S C1 K1
 have ui:AB (Bu m st c kd s).board s.toNat=pc c kd:=by rw[ED P.C h1 (by exact HD h6) s0 s1,iP rfl]
 have hb:(Bu m st c kd s).board[s.toNat]?=some (pc c kd):=by refine ui▸?_;exact Ct (A4 C1 s0 s1)
 have hp:=P.put (m:=m) (c:=c) h1 h6 s0 s1 he
 have hk:=P.back (m:=m) (c:=c) h1 h6 s0 s1 he
 have K0:=K1.x0
 have K2:=K1.x1
 rw[<- q]at K0 K2
 refine Ab E.p ?_
 refine Ab e2 ?_
 refine Ab e1 ?_
 refine Jr (gI (by decide) hn) ?_
 refine Ab e3 ?_
 refine Lc (gI (by decide) hn) (by exact HD h6) s0 tA s1 P.C.len GC.hm ?_
 revert C1 pE hb hp hk K0 K2
 generalize Bu m st c kd s=st2
 intro C1 pE hb hp hk K0 K2
 refine Ab E.p ?_
 refine Ab E.p ?_
 conv=>whnf
 rw[Ge,pE]
 refine La (gI (by decide) hn) GC.S C1.low K0 K2 ?_
 refine Ap (fun e=>?_) fun e=>?_
 ·conv=>whnf
  refine Ab E.p ?_
  refine Ab e3 ?_
  refine Mf (gI (by decide) hn) (by exact HD h6) s0 tA s1 C1.len GC.hm hb ?_
  exact h _ hk
 ·exact h _ (hp e)
theorem Zm{Q:Au}(hn:6<=n)(GC:Cj G m)(items:List V):∀(k:Int) (st:St) (g:MH) (env:An),0<=k->k+3*items.length<800->Pos G st->qz G env->
  (∀k' nu g' env',0<=k'->k'<=k+3*items.length->Pos G nu->qz G env'->Q .next env' (B S k' m G nu++g'))->
  BA none (fun v K env' μ'=>opt (AC [281] true v env') fun e=>ws l9 (Ak l9 prog n) false rh K X e μ') items Q env (B S k m G st++g):=by
 induction items with
 |nil=>
  intro k st g env k0 k1 P E h
  exact h k st g env k0 (by simp) P E
 |cons it items ih=>
  intro k st g env k0 k1 P E h
  have kk:k+1+1+1+3*(items.length:Int)<800:=by exact mO (m4 _ _) (.add (.add (.add (.add (.add (.var 0) (.num 1)) (.num 1)) (.num 1)) (.mulL 3 (.var 1))) (.num 1)) (.num 800) (.add (.add (.var 0) (.mulL 3 (.add (.var 1) (.num 1)))) (.num 1)) (.num 800) rfl k1
  have step:∀nu g' env',Pos G nu->qz G env'->BA none (fun v K env' μ'=>opt (AC [281] true v env') fun e=>ws l9 (Ak l9 prog n) false rh K X e μ') items Q env' (B S (k+1+1+1) m G nu++g'):=fun nu g' env' P' E'=>
   ih (k+1+1+1) nu g' env' (by exact cu k0) kk P' E' fun k' st2 g2 mX a b=>h k' st2 g2 mX a (by exact mO (nI _ _ _) mq (.add mW (.mulL 3 (mw 2 1))) mq (.add (.add (.add (mw 1 1) (.num 1)) (.num 1)) (.mulL 3 oQ)) rfl b)
  have E0:=E.set (y:=281) (by decide) it
  refine Ab E.j ?_
  refine Bw (g:=g++[il [4,3,2,1,1]]) (many:=5) (gI (by decide) hn) k0 (by exact sI (m4 _ _) (.add (.var 0) (.num 1)) (.num 900) (.add (.add (.add (.add (.add (.var 0) (.num 1)) (.num 1)) (.num 1)) (.mulL 3 (.var 1))) (.num 1)) (.num 800) (.num 0) (.var 1) (.num 0) (.var 1) (.num 0) (.var 1) rfl kk (gW _) (gW _) (gW _)) (by decide) ?_
  intro d d0 d1
  have hl:(g++[il [4,3,2,1,1]])[g.length]?=some (il [4,3,2,1,1]):=gD
  refine AO (A5 hl) d0 d1 ?_
  obtain⟨kd,u7,k6',ek⟩:∃kd:Nat,1<=kd/\kd<6/\[4,3,2,1,1].getD d.toNat 0=(kd:Int):=by
   rcases(by lia:d=0\/d=1\/d=2\/d=3\/d=4)with e|e|e|e|e<;>subst e
   ·exact⟨4,by decide,by decide,rfl⟩
   ·exact⟨3,by decide,by decide,rfl⟩
   ·exact⟨2,by decide,by decide,rfl⟩
   ·exact⟨1,by decide,by decide,rfl⟩
   ·exact⟨1,by decide,by decide,rfl⟩
  refine ek.symm▸?_
  refine Ab E.j ?_
  refine Bw (many:=3) (gI (by decide) hn) (by exact OB k0) (by exact sI (m4 _ _) (.add (.add (.var 0) (.num 1)) (.num 1)) (.num 900) (.add (.add (.add (.add (.add (.var 0) (.num 1)) (.num 1)) (.num 1)) (.mulL 3 (.var 1))) (.num 1)) (.num 800) (.num 0) (.var 1) (.num 0) (.var 1) (.num 0) (.var 1) rfl kk (gW _) (gW _) (gW _)) (by decide) ?_
  intro d2 d20 d21
  have rest:∀c:Bool,ws l9 (Ak l9 prog n) false (AT 2 rh) (fun fl env' μ'=>match fl with|.ret w=>Q (.ret w) env' μ'|_=>BA none (fun v K env' μ'=>opt (AC [281] true v env') fun e=>ws l9 (Ak l9 prog n) false rh K X e μ') items Q env' μ') X (Ad (Ad (Ad env 281 it) 1 (.int kd)) 0 (.int (sd c))) (B S (k+1+1) m G st++(g++[il [4,3,2,1,1]])):=by
   intro c
   have E1:=(E0.set (y:=1) (by decide) (.int kd)).set (y:=0) (by decide) (.int (sd c))
   refine Ab E.j ?_
   refine Ab E.s ?_
   refine Bw (many:=G.size) (gI (by decide) hn) (by exact cv k0) (by exact sI (m4 _ _) (.add (.add (.add (.var 0) (.num 1)) (.num 1)) (.num 1)) (.num 900) (.add (.add (.add (.add (.add (.var 0) (.num 1)) (.num 1)) (.num 1)) (.mulL 3 (.var 1))) (.num 1)) (.num 800) (.num 0) (.var 1) (.num 0) (.var 1) (.num 0) (.var 1) rfl kk (gW _) (gW _) (gW _)) (by have:=(P.king GC.S true);lia) ?_
   intro s s0 s1
   have hb:=Ct (A4 P.C s0 s1)
   have E2:=E1.set (y:=282) (by decide) (.int s)
   have cont:=step st (g++[il [4,3,2,1,1]]) _ P E2
   have go:AB st.board s.toNat=0->ws l9 (Ak l9 prog n) false (AT 4 rh) (fun fl env' μ'=>match fl with|.ret w=>Q (.ret w) env' μ'|_=>BA none (fun v K env' μ'=>opt (AC [281] true v env') fun e=>ws l9 (Ak l9 prog n) false rh K X e μ') items Q env' μ') X (Ad (Ad (Ad (Ad env 281 it) 1 (.int kd)) 0 (.int (sd c))) 282 (.int s)) (B S (k+1+1+1) m G st++(g++[il [4,3,2,1,1]])):=fun he=>
    fO hn GC P E2 u7 k6' s0 s1 he rfl rfl rfl fun nu P'=>step nu _ _ P' E2
   refine Ab E.p ?_
   refine B1 s0 hb ?_
   refine Ap (fun e=>?_) fun e=>?_
   ·exact cont
   ·have he:AB st.board s.toNat=0:=by
     simpa using e
    refine Ap (fun e=>?_) fun e=>?_
    ·conv=>whnf
     refine Ab E.r ?_
     refine Ap (fun e=>?_) fun e=>?_
     ·exact cont
     ·exact go he
    ·exact go he
  refine Ap (fun e=>?_) fun e=>?_
  ·conv=>whnf
   refine Ab E.p ?_
   exact rest st.side
  ·conv=>whnf
   refine Ab E.p ?_
   conv=>whnf
   rw[Ge]
   exact rest (!st.side)
end
structure R3(G:mi):Prop where
 far:∀z y,0<=z->z<G.size->0<=y->y<G.size->F6 z y=true->tb (Cu G.king y) z.toNat=false
 pF:∀z,0<=z->z<G.size->0<((G1 G.size).filter (F6 z)).length
theorem aW(h:F6 z z=true):False:=by
 unfold F6 mx at h
 rw[lK,lK]at h
 exact De h
noncomputable def Fl(m:Nat)(c:Bool):St:={t9 m with side:=c}
theorem Er(m:Nat)(c:Bool)(k:Nat):AB (Fl m c).board k=0:=by
 show(List.replicate m (0:Int)).getD k 0=0
 rw[g7,List.getElem?_replicate]
 split<;>rfl
theorem DT(k:Nat):tb 0 k=false:=by show(0:Nat).testBit k=false;exact Nat.zero_testBit k
theorem HG{G:mi}{m:Nat}(hm:(m:Int)=G.size)(c:Bool):mM G (Fl m c):=by
 refine⟨?_,fun k=>.inl (Er m c k),fun kd h1 h7 k=>?_,fun d k=>?_,rfl⟩
 ·show((List.replicate m (0:Int)).length:Int)=_
  refine List.length_replicate.symm▸?_;exact hm
 ·rw[Er]
  rcases(by lia:kd=1\/kd=2\/kd=3\/kd=4\/kd=5\/kd=6)with rfl|rfl|rfl|rfl|rfl|rfl<;>exact DT k
 ·rw[Er]
  induction d<;>exact DT k
theorem R1(h:∀k,tb x k=false):x=0:=Gj fun k=>by rw[h,DT]
noncomputable def Dk(m:Nat)(c:Bool)(z y:Int):St:=Bu m (Bu m (Fl m c) c 6 z) (!c) 6 y
theorem Wo{z y:Int}(a:0<=z)(b:0<=y)(h:z.toNat=y.toNat):z=y:=by rw[<- g9 a,h,g9 b]
theorem bf{y:Int}(h:0<=y)(e:y.toNat=k):(k:Int)=y:=e▸g9 h
theorem be{y:Int}{k:Nat}(h:(k:Int)=y)(e:¬y.toNat=k):False:=e (h▸rfl)
theorem Zo{G:mi}(GC:Cj G m)(GK:R3 G)(z0:0<=z)(z1:z<G.size)(y0:0<=y)(y1:y<G.size)(hf:F6 z y=true):Pos G (Dk m c z y):=by
 have C0:=HG (G:=G) GC.hm c
 have C1:=C0.put (m:=m) (c:=c) (kd:=6) (by decide) (by decide) z0 z1 (Er m c _)
 have ne:z≠y:=fun e=>aW (e▸hf)
 have a1:∀k,AB (Bu m (Fl m c) c 6 z).board k=if z.toNat=k then pc c 6 else 0:=fun k=>by
  rw[ED C0 (by decide) (by decide) z0 z1,Er]
 have C2:mM G (Dk m c z y):=C1.put (m:=m) (c:=!c) (kd:=6) (by decide) (by decide) y0 y1 (by rw[a1,iO (show ¬z.toNat=y.toNat from fun w=>ne (Wo z0 y0 w))])
 have a2:∀k,AB (Dk m c z y).board k=if y.toNat=k then pc (!c) 6 else if z.toNat=k then pc c 6 else 0:=fun k=>by
  show AB (Bu m _ (!c) 6 y).board k=_
  rw[ED C1 (by decide) (by decide) y0 y1,a1]
 have R:=(BN m (Bu m (Fl m c) c 6 z) (!c) 6 y).trans (BN m (Fl m c) c 6 z)
 have cc:pc c 6≠pc (!c) 6:=by induction c using Bool.casesOn<;>decide
 have Ky:EQ G (Dk m c z y) (!c) y:=⟨y0,y1,fun k=>by
  rw[a2]
  split
  ·rename_i e;exact⟨fun _=>bf y0 e,fun _=>rfl⟩
  ·rename_i e
   split
   ·exact⟨fun h=>absurd h cc,fun h=>(be h e).elim⟩
   ·exact⟨fun h=>absurd h.symm (Eo _ (by decide)),fun h=>(be h e).elim⟩⟩
 have Kz:EQ G (Dk m c z y) c z:=⟨z0,z1,fun k=>by
  rw[a2]
  split
  ·rename_i e;exact⟨fun h=>absurd h.symm cc,fun h=>(ne (h.symm.trans (bf y0 e))).elim⟩
  ·split
   ·rename_i e;exact⟨fun _=>bf z0 e,fun _=>rfl⟩
   ·rename_i e;exact⟨fun h=>absurd h.symm (Eo _ (by decide)),fun h=>(be h e).elim⟩⟩
 have side:(Dk m c z y).side=c:=R.side
 have tq:∀kd,1<=kd->kd<6->(Dk m c z y).kd kd=0:=fun kd h1 h6=>R1 fun k=>by
  rw[C2.kb kd h1 (hJ h6),a2]
  have q:∀d:Bool,Oi (pc d 6) kd=false:=fun d=>by rw[Cl d (by decide) (by decide)];exact gZ (jU h6)
  split
  ·exact q _
  ·split
   ·exact q _
   ·rfl
 refine⟨C2,fun d=>?_,?_,R.hist⟩
 ·by_cases e:d=c
  ·subst e;exact⟨z,Kz⟩
  ·exact⟨y,by rw[show d=!c by induction d using Bool.casesOn<;>induction c using Bool.casesOn<;>simp_all];exact Ky⟩
 ·refine side.symm▸?_
  unfold Bo
  (refine(GJ GC.S C2 Ky).symm▸?_;rewrite[kR])
  have b0:∀x,Am x 0=0:=fun x=>by rw[K7];exact Ea x
  have k1:(Dk m c z y).k1=0:=tq 1 (by decide) (by decide)
  have k2:(Dk m c z y).k2=0:=tq 2 (by decide) (by decide)
  have k3:(Dk m c z y).k3=0:=tq 3 (by decide) (by decide)
  have k4:(Dk m c z y).k4=0:=tq 4 (by decide) (by decide)
  have k5:(Dk m c z y).k5=0:=tq 5 (by decide) (by decide)
  have step:B4 G (Dk m c z y) y c=0:=R1 fun k=>by
   unfold B4 IG
   rw[k1,k2,b0,b0,Ea]
   show tb (Builtin.bitOr 0 (Builtin.bitAnd (Builtin.bitOr 0 (Builtin.bitAnd _ _)) _)) k=false
   rw[DE,Bv,DE,Bv,DT,iM,iM]
   have t:=GY C2 c (kd:=6) (by decide) (by decide) k
   have t:tb (Builtin.bitAnd ((Dk m c z y).si c) (Dk m c z y).k6) k=true↔AB (Dk m c z y).board k=pc c 6:=t
   rw[Bv]at t
   by_cases e:AB (Dk m c z y).board k=pc c 6
   ·have hk:=(Kz.it k).mp e
    have f:=GK.far z y z0 z1 y0 y1 hf
    replace f:=(show z.toNat=k from hk▸rfl)▸f
    refine f.symm▸?_;rfl
   ·rw[Bool.and_assoc]
    cases q1:tb (Dk m c z y).k6 k
    ·simp
    ·cases q2:tb ((Dk m c z y).si c) k
     ·simp
     ·exact absurd (t.mp (by(refine q1.symm▸?_;refine q2.symm▸?_);rfl)) e
  have s0:AQ (Dk m c z y)=0:=by unfold AQ;(refine k4.symm▸?_;refine k5.symm▸?_);rfl
  have s1:Ch (Dk m c z y)=0:=by unfold Ch;(refine k3.symm▸?_;refine k5.symm▸?_);rfl
  unfold Bq B9
  (refine step.symm▸?_;refine s0.symm▸?_;refine s1.symm▸?_;rewrite[Ea])
  rfl
section
variable{S:List Int}{k:Int}{m:Nat}{G:mi}{st:St}{g:MH}{n:Nat}{hd:Bool}{X:As}{μ:MH}
theorem fN{Q:Au}(hn:6<=n)(GC:Cj G m)(GK:R3 G)(E:qz G env)(k0:0<=k)(k1:k<100)(sz:0<G.size)
  (h:∀k' nu g' env',0<=k'->k'<=k+20->Pos G nu->Q (.ret (.l8 54)) env' (B S k' m G nu++g')):ws l9 (Ak l9 prog n) false (AT 4 Av) Q X env (B S k m G (t9 m)++[]):=by
 have n1:1<=n:=gI (by decide) hn
 refine Ab E.j ?_
 refine Bw (many:=2) n1 k0 (by exact mO (mz _) (mw 0 1) (.num 900) (mw 0 1) (.num 100) rfl k1) (by decide) ?_
 intro d d0 d1
 obtain⟨c,rfl⟩:∃c:Bool,d=sd c:=by
  rcases(by lia:d=0\/d=1)with e|e
  ·exact⟨false,e⟩
  ·exact⟨true,e⟩
 have go5:ws l9 (Ak l9 prog n) false (AT 5 Av) Q X env (B S (k+1) m G (Fl m c)++[]):=by
  refine Ab E.j ?_
  refine Ab E.s ?_
  refine Bw (many:=G.size) n1 (by exact OB k0) (by exact mO (mz _) (.add (mw 0 1) (.num 1)) (.num 900) (mw 0 1) (.num 100) rfl k1) sz ?_
  intro z z0 z1
  have E1:=E.set (y:=284) (by decide) (.int z)
  have pF:=GK.pF z z0 z1
  have all:∀y∈(G1 G.size).filter (F6 z),0<=y/\y<G.size/\F6 z y=true:=fun y hy=>by
   obtain⟨a,b⟩:=List.mem_filter.mp hy
   exact⟨(Op a).1,(Op a).2,b⟩
  have len:((G1 G.size).filter (F6 z)).length<=20:=by
   refine gI (lQ _ _) ?_
   unfold G1
   rw[g6,j6]
   have:=GC.S.top
   lia
  have go7:ws l9 (Ak l9 prog n) false (AT 7 Av) Q X (Ad (Ad env 284 (.int z)) 283 (.l8 (([]:MH).length+61))) (B S (k+1+1) m G (Fl m c)++([]++[il ((G1 G.size).filter (F6 z))])):=by
   revert pF all len
   generalize(G1 G.size).filter (F6 z)=ap
   intro pF all len
   have E2:=E1.set (y:=283) (by decide) (.l8 (([]:MH).length+61))
   have hj:([]++[il ap]:MH)[([]:MH).length]?=some (il ap):=rfl
   refine Ab E.p ?_
   refine Ab E.p ?_
   refine Jr (kd:=6) n1 ?_
   refine Lc (st:=Fl m c) (g:=[]++[il ap]) (c:=c) (kd:=6) (gI (by decide) hn) (by decide) z0 (gS z1 GC.S.top) z1 (HG GC.hm c).len GC.hm ?_
   have C1:=(HG (G:=G) GC.hm c).put (m:=m) (c:=c) (kd:=6) (by decide) (by decide) z0 z1 (Er m c _)
   have pE:=(BN m (Fl m c) c 6 z).side
   refine Ab E.p ?_
   refine Ab E.p ?_
   conv=>whnf
   rw[pE,Ge]
   refine Jr (kd:=6) n1 ?_
   refine Ab E.j ?_
   refine Bw (g:=[]++[il ap]) (many:=((ap.map V.int).length:Int)) n1 (by exact cv k0) (by exact mO (mz _) (.add (.add (mw 0 1) (.num 1)) (.num 1)) (.num 900) (mw 0 1) (.num 100) rfl k1) (by rw[g6];exact S9 (Int.ofNat_lt.mpr pF)) ?_
   intro i i0 i1
   rw[g6]at i1
   refine AO (A5 hj) i0 i1 ?_
   have hy:ap.getD i.toNat 0∈ap:=by
    rw[g7,g8 (by lia)]
    exact kg _
   obtain⟨y0,y1,hf⟩:=all _ hy
   revert y0 y1 hf
   generalize ap.getD i.toNat 0=y
   intro y0 y1 hf
   have P:=Zo (c:=c) GC GK z0 z1 y0 y1 hf
   refine Lc (c:=!c) (kd:=6) (g:=[]++[il ap]) (gI (by decide) hn) (by decide) y0 (gS y1 GC.S.top) y1 C1.len GC.hm ?_
   refine Ab E.j ?_
   refine Bw (st:=Dk m c z y) (g:=[]++[il ap]) (many:=3) n1 (by exact cu k0) (by exact mO (mz _) (.add (.add (.add (mw 0 1) (.num 1)) (.num 1)) (.num 1)) (.num 900) (mw 0 1) (.num 100) rfl k1) (by decide) ?_
   intro t t0 t1
   have fin:∀items:List V,items.length<=2->BA none (fun v K env' μ'=>opt (AC [281] true v env') fun e=>ws l9 (Ak l9 prog n) false rh K X e μ') items (fun fl env' μ'=>match fl with|.next=>ws l9 (Ak l9 prog n) false (AT 10 Av) Q X env' μ'|f=>Q f env' μ') (Ad (Ad env 284 (.int z)) 283 (.l8 (([]:MH).length+61))) (B S (k+1+1+1+1) m G (Dk m c z y)++([]++[il ap])):=fun items hi=>by
    refine Zm hn GC items (k+1+1+1+1) (Dk m c z y) ([]++[il ap]) _ (by exact fw k0) (by exact sI (m4 _ _) (.add (.add (.add (.add (.add (.add (.var 0) (.num 1)) (.num 1)) (.num 1)) (.num 1)) (.mulL 3 (.var 1))) (.num 1)) (.num 800) (.add (.var 0) (.num 1)) (.num 100) (.var 1) (.num 2) (.var 1) (.num 2) (.var 1) (.num 2) rfl k1 (Int.ofNat_le.mpr hi) (Int.ofNat_le.mpr hi) (Int.ofNat_le.mpr hi)) P E2 fun k' nu g' env' a b P' E'=>?_
    refine Ab E'.p ?_
    exact h k' nu g' env' a (by exact sI (nI _ _ _) (.var 1) (.add (.var 2) (.num 20)) (.var 0) (.num 2) (.var 0) (.num 2) (.var 0) (.num 2) (.var 1) (.add (.add (.add (.add (.add (.var 2) (.num 1)) (.num 1)) (.num 1)) (.num 1)) (.mulL 3 (.var 0))) rfl (Int.ofNat_le.mpr hi) (Int.ofNat_le.mpr hi) (Int.ofNat_le.mpr hi) b) P'
   rcases(by lia:t=0\/t=1\/t=2)with e|e|e
   all_goals
    subst e
    refine A0 ?_
   ·exact fin [] (by decide)
   ·exact fin [.int 0] (i9 1)
   ·exact fin [.int 0,.int (0+1)] (gM 2)
  refine Ab E.s ?_
  refine Aj (gG (by have:=GC.S.top;exact hM (m:=100) (by lia) (by decide))) ?_
  refine Wz (st:=Fl m c) (g:=[]) (env:=Ad env 284 (.int z)) (z:=z) rfl (G1 G.size) _ [] (LG GC.S.pos) (by unfold G1;rw[g6,j6];have:=GC.S.top;show 0+_<_;lia) ?_
  exact go7
 refine Ab E.p ?_
 exact go5
end
theorem Gf{Φ:Bool->Az}{e:ME}{Q:Au}{X:As}:ws l9 Φ hd (.seq (.assign x e) r) Q X env μ=we l9 (Φ hd) env e (fun v μ'=>ws l9 Φ hd r Q X (Ad env x v) μ') X μ:=rfl
noncomputable def Gr(mc:Bool):mi:=match mc with|true=>G5|false=>G4
noncomputable def mr(mc:Bool):Nat:=match mc with|true=>20|false=>16
section
variable{S:List Int}{n:Nat}{X:As}
theorem gv{Q:Au}(mc:Bool)(hn:6<=n)(GC:Cj (Gr mc) (mr mc))(GK:R3 (Gr mc))
  (h:∀k' nu g' env',0<=k'->k'<=21->Pos (Gr mc) nu->Q (.ret (.l8 54)) env' (B S k' (mr mc) (Gr mc) nu++g')):ws l9 (Ak l9 prog n) false (AT 2 Av) Q X (H6 (Gr mc).ranks) [il S,.list [.l8 0,.int 1]]:=by
 obtain⟨j,rfl⟩:∃j,n=j+5:=⟨n - 5,by lia⟩
 have e2:AT 2 Av=.seq (.assign 287 (rhs (mY 2 Av))) (AT 3 Av):=rfl
 have e3:AT 3 Av=.seq (.assign 102 (rhs (mY 3 Av))) (AT 4 Av):=rfl
 rw[e2,Gf]
 cases mc with
 |false=>
  rw[show(Gr false).ranks=4 from rfl,fJ,e3,Gf,gp]
  have E:qz G4 (Ad (Ad (H6 4) 287 (.l8 2)) 102 (.l8 54)):=⟨rfl,rfl,rfl,rfl⟩
  have z:=fN (S:=S) (k:=1) (m:=16) (G:=G4) (n:=j+5) (X:=X) (Q:=Q) hn GC GK E (by decide) (by decide) (by decide) fun k' nu g' env' a b=>h k' nu g' env' a b
  rw[gK]at z
  exact z
 |true=>
  rw[show(Gr true).ranks=5 from rfl,fK,e3,Gf,gq]
  have E:qz G5 (Ad (Ad (H6 5) 287 (.l8 2)) 102 (.l8 54)):=⟨rfl,rfl,rfl,rfl⟩
  have z:=fN (S:=S) (k:=1) (m:=20) (G:=G5) (n:=j+5) (X:=X) (Q:=Q) hn GC GK E (by decide) (by decide) (by decide) fun k' nu g' env' a b=>h k' nu g' env' a b
  rw[gK]at z
  exact z
theorem gu{Q:Au}(hn:1<=n)(h:∀mc,ws l9 (Ak l9 prog n) false r Q X (H6 (Gr mc).ranks) [il S,.list [.l8 0,.int 1]]) :
  ws l9 (Ak l9 prog n) false (.seq (.assign 49 (rhs (mY 0 Av))) (.seq (.assign 63 (rhs (mY 1 Av))) r)) Q X (Ad (fun _=>none) 278 (.l8 1)) [il S,.list [.l8 0,.int 0]]:=by
 refine TQ (many:=2) hn (by decide) (by decide) (by decide) ?_
 intro d d0 d1
 rcases(by lia:d=0\/d=1)with e|e
 ·subst e
  exact h false
 ·subst e
  exact h true
theorem Zk:Av=.seq (.assign 49 (rhs (mY 0 Av))) (.seq (.assign 63 (rhs (mY 1 Av))) (AT 2 Av)):=rfl
theorem Zl{Q:Ae}:CG (n+1) false 289 [.l8 1] Q X μ=ws l9 (Ak l9 prog n) false Av (fun fl _ μ'=>match fl with|.ret v=>Q v μ'|.next=>Q .none μ'|.cont=>False) X (Ad (fun _=>none) 278 (.l8 1)) μ:=rfl
theorem WY{Q:Ae}(hn:7<=n)(GC:∀mc,Cj (Gr mc) (mr mc))(GK:∀mc,R3 (Gr mc))
  (h:∀mc k' nu g',0<=k'->k'<=21->Pos (Gr mc) nu->Q (.l8 54) (B S k' (mr mc) (Gr mc) nu++g')):CG n false 289 [.l8 1] Q X [il S,.list [.l8 0,.int 0]]:=by
 induction n with
 |zero=>exact absurd hn (by decide)
 |succ n=>
  rw[Zl,Zk]
  exact gu (md hn rfl) fun mc=>gv mc (md hn rfl) (GC mc) (GK mc) fun k' nu g' _ a b P=>h mc k' nu g' a b P
end
section
variable{S:List Int}{k:Int}{m:Nat}{G:mi}{st:St}{g:MH}{n:Nat}{X:As}{μ:MH}{mk:Int->List Nat}
def DW(st:St)(mk:Int->List Nat)(r:Nat)(g:MH):List V->List Int->Prop
 |[],[]=>True
 |y :: rs,v :: L=>(∃j,j≠r/\y=.tup [.int v,og st mk j v]/\g[j]?=some (sl (oS st v)))/\DW st mk r g rs L
 |_,_=>False
theorem DW.ok:∀{rs:List V} {L:List Int},DW st mk r g rs L->BU st mk g rs L
 |[],[],_=>trivial
 |_ :: _,_ :: _,⟨⟨j,_,a,b⟩,h⟩=>⟨⟨j,a,b⟩,h.ok⟩
theorem DW.more(e:MH):∀{rs:List V} {L:List Int},DW st mk r g rs L->DW st mk r (g++e) rs L
 |[],[],_=>trivial
 |_ :: _,_ :: _,⟨⟨j,z,a,b⟩,h⟩=>⟨⟨j,z,a,Ac b e⟩,h.more e⟩
theorem DW.set{g:MH}(o:MO):∀{rs:List V} {L:List Int},DW st mk r g rs L->DW st mk r (g.set r o) rs L
 |[],[],_=>trivial
 |_ :: _,_ :: _,⟨⟨j,z,a,b⟩,h⟩=>⟨⟨j,z,a,by rw[hG (iQ z)];exact b⟩,h.set o⟩
theorem DW.snoc(hy:∃j,j≠r/\y=.tup [.int v,og st mk j v]/\g[j]?=some (sl (oS st v))):∀{rs:List V} {L:List Int},DW st mk r g rs L->DW st mk r g (rs++[y]) (L++[v])
 |[],[],_=>⟨hy,trivial⟩
 |_ :: _,_ :: _,⟨a,h⟩=>⟨a,h.snoc hy⟩
theorem BU.len:∀{rs:List V} {L:List Int},BU st mk g rs L->rs.length=L.length
 |[],[],_=>rfl
 |_ :: _,_ :: _,⟨_,h⟩=>congrArg (·+ 1) h.len
theorem Zn{K:MH->Prop}(hn:13<=n)(GC:Cj G m)(F:Es G m st mk)(e1:env 102=some (.l8 54))(ir:r≠i)(L:List Int):∀(_:∀v∈L,v∈Ay G st) (g:MH) (xs:List V) (D:List Int),g[i]?=some (.list XS)->g[r]?=some (.list xs)->DW st mk r g xs D->xs.length+L.length<90000->
  (∀g' r9,g'[r]?=some (.list r9)->DW st mk r g' r9 (D++L)->K (B S k m G st++g'))->
  Dr (some (i+61,XS)) (r+61) (fun v K μ'=>opt (AC [19] true v (AG [19] env)) fun e=>wt l9 (Ak l9 prog n false) e (.bool true) K (fun _ _=>False) μ')
   (fun v K μ'=>opt (AC [19] true v (AG [19] env)) fun e=>we l9 (Ak l9 prog n false) e (.tup (.cons (.l8 19) (.cons (.call 301 (.cons (.l8 102) (.cons (.l8 19) .nil))) .nil))) K (fun _ _=>False) μ') (L.map .int) K (B S k m G st++g):=by
 induction L with
 |nil=>
  intro _ g xs D hi hr T _ h
  rw[gK]at h
  exact⟨hi,h g xs hr T⟩
 |cons v L ih=>
  intro hL g xs D hi hr T hl h
  replace hl:=gY▸hl
  refine⟨hi,?_⟩
  refine Ab e1 ?_
  refine WZ hn GC F (hL v gR) ?_
  intro e j sY hj
  have ls:By (B S k m G st++(g++e)) (r+61)=some xs:=FR (Ac hr e)
  refine Ab ls ?_
  refine Aj (gG (hH (hY _ _) (iB hl (by decide)))) ?_
  have jr:j≠r:=fun w=>by
   (rw[<- w]at hr;replace hr:=(iz sY)▸hr);exact Ao hr
  refine ih (fun v hv=>hL v (gH _ hv)) ((g++e).set r (.list (xs++[.tup [.int v,og st mk j v]]))) (xs++[.tup [.int v,og st mk j v]]) (D++[v]) (by refine(hG ir).symm▸?_;exact Ac hi e) (AK (Ac hr e)) ?_ (by refine List.length_append.symm▸?_;show _+1+_<_;exact S7 hl) fun g' r9 a b=>?_
  ·exact((T.more e).snoc ⟨j,jr,rfl,hj⟩).set _
  ·rw[gB]at b
   exact h g' r9 a b
end
noncomputable def SG:List Nat:=[97,98,99,100,49,50,51,52,53,120,45,61,43,35,81,82,66,78,75,113,114,98,110,79,32]
theorem RU{μ:MH}{s:List Nat}{d:Int}(h0:0<=d)(h1:d<s.length):∃c,B7 μ (.str s) (.int d)=some (.str [c]):=by
 have hl:d.toNat<s.length:=by lia
 refine⟨s[d.toNat],?_⟩
 show((CV s.length d).bind fun k=>(s[k]?).map fun c=>V.str [c])=_
 unfold CV
 rw[iP h0,iP h1]
 show(s[d.toNat]?).map _=_
 rw[g8 hl];rfl
theorem Zj(l:List (List Nat)):Bz (l.map V.str)=some l:=by
 induction l with
 |nil=>rfl
 |cons a l ih=>show(Bz (l.map V.str)).map _=_;rw[ih];rfl
theorem Sy(l:List (List Nat))(h:∀x∈l,x.length<=1):l.flatten.length<=l.length:=by
 induction l with
 |nil=>exact gM 0
 |cons a l ih=>
  rw[List.flatten_cons,gF,gY]
  have:=h a gR
  have:=ih fun x hx=>h x (gH _ hx)
  lia
section
variable{S:List Int}{k:Int}{m:Nat}{G:mi}{st:St}{g:MH}{n:Nat}{X:As}{μ:MH}{mk:Int->List Nat}
theorem YM{K:MH->Prop}(hn:1<=n)(e1:env 278=some (.l8 1))(items:List V):∀(k:Int) (xs:List (List Nat)),0<=k->k+items.length<800->xs.length+items.length<90000->(∀x∈xs,x.length<=1)->
  (∀k' ys,0<=k'->k'<=k+items.length->ys.length=xs.length+items.length->(∀x∈ys,x.length<=1)->K (B S k' m G st++(g++[sl ys])))->
  Dr none (g.length+61) (fun v K μ'=>opt (AC [281] true v (AG [281] env)) fun e=>wt l9 (Ak l9 prog n false) e (.bool true) K (fun _ _=>False) μ')
   (fun v K μ'=>opt (AC [281] true v (AG [281] env)) fun e=>we l9 (Ak l9 prog n false) e (.sub (.l9 310) (.call 280 (.cons (.l8 278) (.cons (.blt 0 (.cons (.l9 310) .nil)) .nil)))) K (fun _ _=>False) μ') items K (B S k m G st++(g++[sl xs])):=by
 induction items with
 |nil=>
  intro k xs k0 k1 hl hx h
  exact h k xs k0 (by simp) (by rfl) hx
 |cons it items ih=>
  intro k xs k0 k1 hl hx h
  (replace hl:=gY▸hl;replace k1:=gY▸k1;replace h:=gY▸h)
  refine Ab e1 ?_
  refine Bw (many:=25) hn k0 (by lia) (by decide) ?_
  intro d d0 d1
  obtain⟨c,hc⟩:=RU (μ:=B S (k+1) m G st++(g++[sl xs])) (s:=SG) d0 d1
  refine Ag hc ?_
  have hj:(g++[sl xs])[g.length]?=some (sl xs):=gD
  refine Ab (FR hj) ?_
  refine Aj (Z1 (by exact fv hl)) ?_
  (refine VJ.symm▸?_;rewrite[hU _ _ (gM _)];rewrite[iI])
  refine ih (k+1) (xs++[[c]]) (by exact OB k0) (by exact mO (m4 _ _) (.add (.add (mw 0 1) mW) (.num 1)) (.num 800) (.add (.add mq (mw 1 1)) (.num 1)) (.num 800) rfl k1) (by refine List.length_append.symm▸?_;show _+1+_<_;exact S7 hl) (fun x te=>?_) fun k' ys a b c' d'=>h k' ys a (by exact fa b) (by(refine c'.symm▸?_;refine List.length_append.symm▸?_);show _+1+_=_;exact jN (qq6) (qq5)) d'
  rcases List.mem_append.mp te with w|w
  ·exact hx x w
  ·refine(List.mem_singleton.mp w).symm▸?_;exact gM 1
noncomputable def lwB:MS:=fb (mY 6 Dc)
theorem X0{Q:Au}(hn:14<=n)(GC:Cj G m)(F:Es G m st mk)(ok:∀t,FX mk G st t=EB mk st (Ay G st) t)(ts:List (List Nat)):∀(g:MH) (env:An),g[tj]?=some (.list TS)->g[jt]?=some (.list rs)->BU st mk g rs (Ay G st)->env 102=some (.l8 54)->env 302=some (.l8 (jt+61))->
  (∀env' e,(∀x,x≠224->env' x=env x)->Q .next env' (B S k m G st++(g++e)))->
  BA (some (tj+61,TS)) (fun v K env' μ'=>opt (AC [224] true v env') fun e=>ws l9 (Ak l9 prog n) false lwB K X e μ') (ts.map .str) Q env (B S k m G st++g):=by
 induction ts with
 |nil=>
  intro g env h1 h2 T e1 e2 h
  have h:=h env [] fun _ _=>rfl
  rw[gK]at h
  exact⟨h1,h⟩
 |cons t ts ih=>
  intro g env h1 h2 T e1 e2 h
  have hl:rs.length<80000:=by rw[T.len];exact Hy
  refine⟨h1,?_⟩
  refine Ab e1 ?_
  refine WK hn GC F ?_
  intro e
  refine Ab e2 ?_
  refine WP (gI (by decide) hn) (Ac h2 e) (T.more e) hl ?_
  intro e'
  refine(ok t).symm▸?_
  have fin:BA (some (tj+61,TS)) (fun v K env' μ'=>opt (AC [224] true v env') fun e=>ws l9 (Ak l9 prog n) false lwB K X e μ') (ts.map .str) Q (Ad env 224 (.str t)) (B S k m G st++((g++e)++e')):=by
   refine ih ((g++e)++e') _ (Ac (Ac h1 e) e') (Ac (Ac h2 e) e') ((T.more e).more e') e1 e2 fun env' e2 a=>?_
   have w:((g++e)++e')++e2=g++(e++(e'++e2)):=by simp only[gB]
   have h:=h env' (e++(e'++e2)) fun x hx=>(a x hx).trans (iO hx)
   rw[<- w]at h
   exact h
  cases EB mk st (Ay G st) t with
  |none=>
   conv=>whnf
   exact fin
  |some v=>
   refine Cz (by refine(show(v==v)=true from iy v).symm▸?_;rfl) ?_
   exact fin
end
theorem N8{b:List Int}(ha:μ[a]?=some (il b)):AZ μ 5 (.tup [.l8 a,.int s,.int ky,.int h,.int f])=some (.tuple [.list (b.map .int),.int s,.int ky,.int h,.int f]):=by
 show((AZ μ 4 (.l8 a)).bind fun x=>_:Option (List PyData)).map PyData.tuple=_
 refine(Iy (j:=3) ha).symm▸?_;rfl
theorem Xm(b:List Int)(s ky h f:Int):PyData.eqv (.tuple [.list (b.map .int),.int s,.int ky,.int h,.int f]) (.tuple [.list (b.map .int),.int s,.int ky,.int h,.int f])=true:=by
 simp[PyData.eqv,PyData.eqvAll]
 have:=Ul b
 simp[PyData.eqv]at this
 exact this
theorem aS(ha:μ[a]?=some (il b))(hc:μ[c]?=some (il b)):Ij μ .Eq (.tup [.l8 a,.int s,.int ky,.int h,.int f]) (.tup [.l8 c,.int s,.int ky,.int h,.int f])=some true:=by
 show((AZ μ 5 _).bind fun x=>(AZ μ 5 _).map fun y=>PyData.eqv x y)=_
 (refine(N8 ha).symm▸?_;refine(N8 hc).symm▸?_;refine(Xm b s ky h f)▸?_);rfl
theorem Xa{α:Type}(l:List α):cut l 0 l.length=l:=by unfold cut;rw[List.take_length];rfl
theorem d8(ds:List PyData):PyData.eqv (.list ds) (.list [])=ds.isEmpty:=by cases ds<;>simp[PyData.eqv,PyData.eqvAll]
section
variable{S:List Int}{k:Int}{m:Nat}{G:mi}{st:St}{g:MH}{n:Nat}{X:As}{μ:MH}{mk:Int->List Nat}
theorem eH{Q:Au}(hc:g[cj]?=some (il st.board))(hh:st.hist=[])(e1:env 102=some (.l8 54))(e2:env 308=some (.tup [.l8 (cj+61),.int (sd st.side),.int st.key,.int st.half,.int st.full]))(h:∀μ',Q (.ret (.bool true)) env μ'):ws l9 (Ak l9 prog n) false (AT 7 Dc) Q X env (B S k m G st++g):=by
 refine Ab e1 ?_
 refine Ab e1 ?_
 refine Ab e1 ?_
 refine Ab e1 ?_
 refine Ab e1 ?_
 refine Ab e2 ?_
 refine Ab (aS (b:=st.board) rfl hc) ?_
 refine Ab e1 ?_
 have q1:(B S k m G st++g++[il []])[60]?=some (il []):=by
  show some (MO.list st.hist)=_
  refine hh.symm▸?_;rfl
 have q2:(B S k m G st++g++[il []])[(B S k m G st++g).length]?=some (il []):=gD
 refine Ab (PH q1 q2) ?_
 exact h _
theorem eG{Q:Au}(hn:14<=n)(GC:Cj G m)(F:Es G m st mk)(hh:st.hist=[])(ok:∀t,FX mk G st t=EB mk st (Ay G st) t)(h1:g[tj]?=some (sl ts))(h2:g[jt]?=some (.list rs))(T:BU st mk g rs (Ay G st))(e1:env 102=some (.l8 54))(e2:env 302=some (.l8 (jt+61)))(e3:env 309=some (.l8 (tj+61)))
  (h:∀env' μ',Q (.ret (.bool true)) env' μ'):ws l9 (Ak l9 prog n) false (AT 5 Dc) Q X env (B S k m G st++g):=by
 refine Ab e1 ?_
 refine Ab e1 ?_
 refine Ab e1 ?_
 refine Ab e1 ?_
 refine Ab e1 ?_
 refine Ab e3 ?_
 refine(show cut (st.board.map V.int) 0 (st.board.map V.int).length=st.board.map V.int from Xa _).symm▸?_
 have hb:(g++[il st.board])[g.length]?=some (il st.board):=gD
 refine Ab (Lq (S:=S) (k:=k) (m:=m) (G:=G) (st:=st) (Ac h1 [il st.board])) ?_
 refine A0 ?_
 refine X0 (tj:=tj) (jt:=jt) (TS:=ts.map .str) hn GC F ok ts (g++[il st.board]) (Ad env 308 (.tup [.l8 (g.length+61),.int (sd st.side),.int st.key,.int st.half,.int st.full])) (Ac h1 _) (Ac h2 _) (T.more _) e1 e2 fun env' e a=>?_
 refine eH (cj:=g.length) (Ac hb e) hh ((a 102 (by decide)).trans e1) ((a 308 (by decide)).trans rfl) fun μ'=>h env' μ'
end
theorem MT(s:Int):(m9 s).length=2:=rfl
theorem Uk(p:Int):(FJ p).length<=2:=by unfold FJ;cases p==0;exact gM 2;exact iq _
theorem dB(v:Int):(wF v).length<=20:=by
 unfold wF EO
 cases Af v==0 with
 |true=>show 2+2+0<=20;decide
 |false=>show 2+2+1<=20;decide
theorem Xe(v:Int):(oV v).length<=20:=by
 unfold oV PC
 rw[gF]
 cases Af v==0 with
 |true=>show 2+2+0<=20;decide
 |false=>show 2+2+(pR (Af v).toNat).length<=20;have:=Q6 (Af v).toNat;lia
theorem XT(st:St)(v:Int):(oo st v).length<=20:=by
 unfold oo Dd
 rw[gF,gF,gF,gF,MT,MT]
 have a:=GI (ow st v).toNat
 have b:(BD (m6 st v) [45]).length<=2:=Fw (m6 st v) [45]
 have c:=Uk (Af v)
 lia
theorem WD(st:St)(v:Int):∀b∈oS st v,b.length<=20:=fun b hb=>by
 obtain⟨o,ho,hb⟩:=List.mem_flatMap.mp hb
 obtain⟨e,he,rfl⟩:=List.mem_map.mp hb
 have h1:=(Kd _ _ _).1 o ho
 have h2:=(JF _).1 e he
 unfold EL
 (refine List.length_append.symm▸?_;refine List.length_append.symm▸?_;refine List.length_append.symm▸?_;refine List.length_append.symm▸?_;rewrite[MT])
 have a:=GI (ow st v).toNat
 have b:(BD (m6 st v) []).length<=1:=Fw (m6 st v) []
 lia
theorem WE(st:St)(v:Int):0<(oS st v).length:=by
 unfold oS Df
 rw[List.length_flatMap]
 unfold Em Cf
 cases((ow st v).toNat==1)&&m6 st v<;>cases Af v==0<;>simp
theorem U4(G:mi)(s:St):(JX G s).length<=1:=by
 unfold JX V4
 cases Bo G s s.side with
 |false=>exact iq _
 |true=>cases(oJ G s).any (Bs G s (C9 G s s.side))<;>exact gM 1
theorem QB{μ:MH}{a:Nat}{l:List (List Nat)}{d:Int}(h:μ[a]?=some (sl l))(h0:0<=d)(h1:d<l.length):∃t∈l,B7 μ (.l8 a) (.int d)=some (.str t):=by
 have hl:d.toNat<l.length:=by lia
 refine⟨l[d.toNat],kg _,?_⟩
 refine Nl h h0 (by rw[g6];exact h1) ?_
 rw[kW,g8 hl];rfl
theorem fP(h:μ[a]?=some (sl (x :: l))):B7 μ (.l8 a) (.int 0)=some (.str x):=HI h
section
variable{S:List Int}{k:Int}{m:Nat}{G:mi}{st:St}{g:MH}{n:Nat}{X:As}{μ:MH}{mk:Int->List Nat}
theorem Su(μ:MH)(j:Nat)(l:List (List Nat)):(l.map V.str).mapM (AZ μ j)=some (l.map fun s=>PyData.str (sx s)):=by
 induction l with
 |nil=>rfl
 |cons a l ih=>(rewrite[ja];rewrite[ji];refine ih.symm▸?_);induction j using Nat.casesOn<;>rfl
theorem Lj{xs:List V}(h:μ[a]?=some (.list xs)):AZ μ (j+1) (.l8 a)=(xs.mapM (AZ μ j)).map PyData.list:=by
 show((By μ a).bind fun xs=>(xs.mapM (AZ μ j)).map PyData.list)=_
 rw[CP h];rfl
theorem Ub(h:(B S k m G st++g)[j+61]?=some (sl (oS st v))):∃d,AZ (B S k m G st++g) 4 (.tup [.int v,og st mk j v])=some d:=by
 have e:AZ (B S k m G st++g) 2 (.l8 (j+61))=some (.list ((oS st v).map fun s=>PyData.str (sx s))):=by
  rw[Lj (j:=1) h,Su];rfl
 refine⟨.tuple [.int v,.tuple [.str (sx (wF v)),.list ((oS st v).map fun s=>PyData.str (sx s)),.str (sx (oo st v)),.str (sx (oV v)),.str (sx (mk v))]],?_⟩
 have e2:AZ (B S k m G st++g) 3 (og st mk j v)=some (.tuple [.str (sx (wF v)),.list ((oS st v).map fun s=>PyData.str (sx s)),.str (sx (oo st v)),.str (sx (oV v)),.str (sx (mk v))]):=by
  show([V.str (wF v),.l8 (j+61),.str (oo st v),.str (oV v),.str (mk v)].mapM (AZ (B S k m G st++g) 2)).map PyData.tuple=_
  rw[ji,ji,e];rfl
 show([V.int v,og st mk j v].mapM (AZ (B S k m G st++g) 3)).map PyData.tuple=_
 rw[ji,ji,e2];rfl
theorem Ss{rs:List V}:∀{L:List Int},BU st mk g rs L->∃ds,rs.mapM (AZ (B S k m G st++g) 4)=some ds/\ds.length=rs.length:=by
 induction rs with
 |nil=>exact fun _=>⟨[],rfl,rfl⟩
 |cons r rs ih=>
  intro L T
  induction L using List.casesOn with
  |nil=>exact T.elim
  |cons _ L=>
   obtain⟨⟨j,rfl,hj⟩,T⟩:=T
   obtain⟨d,hd⟩:=Ub (mk:=mk) (S:=S) (k:=k) (m:=m) (G:=G) (g:=g) hj
   obtain⟨ds,h1,h2⟩:=ih T
   exact⟨d :: ds,by rw[ji,hd,h1];rfl,congrArg (·+ 1) h2⟩
theorem Vc{rs:List V}(h:g[jt]?=some (.list rs))(T:BU st mk g rs L):Ij (B S k m G st++(g++[il []])) .NotEq (.l8 (jt+61)) (.l8 (g.length+61))=some (!rs.isEmpty):=by
 obtain⟨ds,h1,h2⟩:=Ss (S:=S) (k:=k) (m:=m) (G:=G) (T.more [il []])
 have q1:(B S k m G st++(g++[il []]))[jt+61]?=some (.list rs):=(Ac h [il []]:(g++[il []])[jt]?=_)
 have q2:(B S k m G st++(g++[il []]))[g.length+61]?=some (il []):=(gD:(g++[il []])[g.length]?=_)
 have d1:AZ (B S k m G st++(g++[il []])) 5 (.l8 (jt+61))=some (.list ds):=by
  rw[Lj (j:=4) q1,h1];rfl
 show((((AZ _ 5 (.l8 (jt+61))).bind fun x=>(AZ _ 5 (.l8 (g.length+61))).map fun y=>PyData.eqv x y)).map (!·))=_
 (refine d1.symm▸?_;refine(Iy (j:=4) q2).symm▸?_)
 show some (!PyData.eqv (.list ds) (.list []))=_
 induction ds using List.casesOn<;>induction rs using List.casesOn<;>first|rfl|cases h2
end
theorem cI{st:St}{mk:Int->List Nat}{g:MH}{rs:List V}:∀{L:List Int} (i:Nat),BU st mk g rs L->i<rs.length->∃v j,v∈L/\rs[i]?=some (.tup [.int v,og st mk j v])/\g[j]?=some (sl (oS st v)):=by
 induction rs with
 |nil=>exact fun _ _ h=>absurd h (Nat.not_lt_zero _)
 |cons r rs ih=>
  intro L i T h
  induction L using List.casesOn with
  |nil=>exact T.elim
  |cons v L=>
   induction i using Nat.casesOn with
   |zero=>obtain⟨⟨j,e,hj⟩,_⟩:=T;exact⟨v,j,.head _,congrArg some e,hj⟩
   |succ i=>
    obtain⟨w,j,a,b,c⟩:=ih i T.2 (kq h)
    exact⟨w,j,.tail _ a,b,c⟩
noncomputable def lb:MS:=ft (mY 4 Dc)
section
variable{S:List Int}{k:Int}{m:Nat}{G:mi}{st:St}{g:MH}{n:Nat}{X:As}{μ:MH}{mk:Int->List Nat}
theorem QK{Φ:Az}{e:ME}{Q:List V->MH->Prop}(h:we l9 Φ env e (fun v μ₁=>wl l9 Φ env r (fun vs μ₂=>Q (v :: vs) μ₂) X μ₁) X μ):wl l9 Φ env (.cons e r) Q X μ:=h
theorem QJ{Φ:Az}{Q:Ae}(h:we l9 Φ env o (fun u μ₁=>we l9 Φ env i (fun v μ₂=>opt (OT μ₂ u v) fun w=>Q w μ₂) X μ₁) X μ):we l9 Φ env (.sub o i) Q X μ:=h
theorem RY{Φ:Az}{Q:Ae}(h:wl l9 Φ env es (fun vs μ₁=>A7 (decide (vs.length<=lim)) (Q (.l8 μ₁.length) (μ₁++[.list vs]))) X μ):we l9 Φ env (.list es) Q X μ:=h
theorem Wv{Φ:Az}{x y:List Nat}{Q:Ae}(ha:∀K:Ae,K (.str x) μ->we l9 Φ env a K X μ)(hb:∀K:Ae,K (.str y) μ->we l9 Φ env b K X μ)(hl:decide (x.length+y.length<=lim)=true)(h:Q (.str (x++y)) μ):we l9 Φ env (.bin .Add a b) Q X μ:=by
 refine ha _ (hb _ ?_)
 refine Aj hl ?_
 exact h
theorem F7{Φ:Az}{Q:Ae}(e:env 303=some (.tup l))(hv:B7 μ (.tup l) (.int i)=some v)(h:Q v μ):we l9 Φ env (.sub (.l8 303) (.int i)) Q X μ:=by
 refine Ab e ?_
 refine Ag hv ?_
 exact h
theorem Ys{Q:Ae}{bs:List (List Nat)}(hn:1<=n)(hj:g[j]?=some (sl bs))(pos:0<bs.length)(k0:0<=k)(k1:k<700)(e1:env 303=some (.tup [.str w,.l8 (j+61),.str lg,.str dg,.str mv]))(e2:env 278=some (.l8 1))
  (h:∀b∈bs,Q (.str b) (B S (k+1) m G st++g)):we l9 (Ak l9 prog n false) env (.sub (.sub (.l8 303) (.int 1)) (.call 280 (.cons (.l8 278) (.cons (.blt 0 (.cons (.sub (.l8 303) (.int 1)) .nil)) .nil)))) Q X (B S k m G st++g):=by
 refine QJ (F7 e1 rfl ?_)
 refine Ab e2 ?_
 refine Ab e1 ?_
 refine Ag rfl ?_
 refine Ab (FR hj) ?_
 refine Bw (many:=((bs.map V.str).length:Int)) hn k0 (by exact fx k1) (by rw[g6];exact S9 (Int.ofNat_lt.mpr pos)) ?_
 intro d d0 d1
 rw[g6]at d1
 have uO:(B S (k+1) m G st++g)[j+61]?=some (sl bs):=hj
 obtain⟨b,hb,sb⟩:=QB uO d0 d1
 refine Ag sb ?_
 exact h b hb
theorem Xs{Q:Ae}{w lg dg mv:List Nat}{bs:List (List Nat)}(hn:1<=n)(hj:g[j]?=some (sl bs))(pos:0<bs.length)(hb:∀b∈bs,b.length<=20)(l1:w.length<=20)(l2:lg.length<=20)(l3:dg.length<=20)(ml:mv.length<=1)(k0:0<=k)(k1:k<700)(f0:0<=fm)(f1:fm<6)(e1:env 303=some (.tup [.str w,.l8 (j+61),.str lg,.str dg,.str mv]))(e2:env 278=some (.l8 1))(e3:env 311=some (.int fm))
  (h:∀t e,t.length<=40->Q (.str t) (B S (k+1) m G st++(g++e))):we l9 (Ak l9 prog n false) env (rhs (mY 2 lb)) Q X (B S k m G st++g):=by
 obtain⟨b0,br,eb⟩:∃b0 br,bs=b0 :: br:=by
  induction bs using List.casesOn with
  |nil=>cases pos
  |cons a l=>exact⟨a,l,rfl⟩
 have uO:(B S (k+1) m G st++g)[j+61]?=some (sl bs):=hj
 have hb0:=hb b0 (by refine eb.symm▸?_;exact gR)
 refine QJ (RY (QK (F7 e1 rfl (QK (Ys hn hj pos k0 k1 e1 e2 fun b tP=>QK (F7 e1 rfl (QK (F7 e1 rfl (QK (Wv (fun K h=>F7 e1 rfl h) (fun K h=>F7 e1 rfl h) (FK l2 ml (by decide)) (QK (Wv (y:=[43]) (fun K h=>QJ (F7 e1 rfl ?_)) (fun K h=>h) (FK (a:=20) (b:=1) hb0 (gM 1) (by decide)) ?_))))))))))))
 ·refine Ag (fP (by exact eb▸uO)) ?_
  exact h
 ·have bl:=hb b tP
  refine Ab e3 ?_
  have hl:(B S (k+1) m G st++(g++[sl [w,b,lg,dg,lg++mv,b0++[43]]]))[g.length+61]?=some (sl [w,b,lg,dg,lg++mv,b0++[43]]):=(gD:(g++[sl [w,b,lg,dg,lg++mv,b0++[43]]])[g.length]?=_)
  obtain⟨t,ht,stt⟩:=QB hl f0 f1
  have tl:t.length<=40:=by
   have all:∀x∈[w,b,lg,dg,lg++mv,b0++[43]],x.length<=40:=by
    have nil:∀e∈([]:List (List Nat)),e.length<=40:=fun _ h=>by cases h
    refine List.forall_mem_cons.mpr ⟨gI l1 (by decide),List.forall_mem_cons.mpr ⟨gI bl (by decide),List.forall_mem_cons.mpr ⟨gI l2 (by decide),List.forall_mem_cons.mpr ⟨gI l3 (by decide),List.forall_mem_cons.mpr ⟨?_,List.forall_mem_cons.mpr ⟨?_,nil⟩⟩⟩⟩⟩⟩
    ·rw[gF];exact pt (m4 _ _) (.add mu mK) (.num 40) mu (.num 20) mK (.num 1) rfl l2 ml
    ·rw[gF];show b0.length+1<=40;exact mU (mz _) (mD 0 1) (.num 40) mu (.num 20) rfl hb0
   exact all t ht
  refine Ag stt ?_
  exact h t [sl [w,b,lg,dg,lg++mv,b0++[43]]] tl
end
theorem T9(l:List Nat)(a b:Nat):(cut l a b).length<=l.length:=by unfold cut;(refine List.length_drop.symm▸?_;refine List.length_take.symm▸?_);lia
section
variable{S:List Int}{k:Int}{m:Nat}{G:mi}{st:St}{g:MH}{n:Nat}{X:As}{μ:MH}{mk:Int->List Nat}
theorem gg{Q:Au}{t:List Nat}{ts:List (List Nat)}(hn:1<=n)(hj:g[tj]?=some (sl ts))(hl:ts.length<=10)(tl:t.length<=40)(k0:0<=k)(k1:k<700)(e1:env 309=some (.l8 (tj+61)))(e2:env 224=some (.str t))(e3:env 282=some (.int s))(e4:env 252=some (.str [c]))(e5:env 278=some (.l8 1))
  (h:∀u e,Q .next (Ad env 309 (.l8 (tj+61))) (B S (k+1) m G st++(g.set tj (sl (ts++[t,u]))++e))):ws l9 (Ak l9 prog n) false (mY 5 lb) Q X env (B S k m G st++g):=by
 refine Ab e1 ?_
 refine Ab e2 ?_
 refine Ab e2 ?_
 refine Ab e3 ?_
 refine Ab e4 ?_
 refine Ab e5 ?_
 refine Bw (g:=g++[sl [[],[c]]]) (many:=2) hn k0 (by exact fx k1) (by decide) ?_
 intro d d0 d1
 have hb:(B S (k+1) m G st++(g++[sl [[],[c]]]))[g.length+61]?=some (sl [[],[c]]):=(gD:(g++[sl [[],[c]]])[g.length]?=_)
 obtain⟨x,hx,sx⟩:=QB hb d0 d1
 have xl:x.length<=1:=by
  have all:∀y∈[[],[c]],y.length<=1:=List.forall_mem_cons.mpr ⟨iq _,List.forall_mem_cons.mpr ⟨gM 1,fun _ h=>by cases h⟩⟩
  exact all x hx
 refine Ag sx ?_
 refine Aj (FK (gI (T9 _ _ _) tl) xl (by decide)) ?_
 refine Ab e2 ?_
 refine Ab e3 ?_
 refine Aj (FK (a:=41) (b:=40) (by rw[gF];exact js (gI (T9 _ _ _) tl) xl) (gI (T9 _ _ _) tl) (by decide)) ?_
 have ne:tj≠(g++[sl [[],[c]]]).length:=BY (Ac hj _)
 refine Aj (gG (show tj+61≠(g++[sl [[],[c]]]).length+61 by lia)) ?_
 refine Ab (FR (Ac (Ac hj _) _)) ?_
 have hn2:∀y,(g++[sl [[],[c]]]++[y])[(g++[sl [[],[c]]]).length]?=some y:=fun y=>gD
 refine Ab (FR (hn2 _)) ?_
 refine Aj (gG (by rw[g6];show ts.length+2<=lim;unfold lim;exact mU (mz _) (mD 0 2) (.num 1000000) mu (.num 10) rfl hl)) ?_
 have fin:∀u:List Nat,Q .next (Ad env 309 (.l8 (tj+61))) ((B S (k+1) m G st++(g++[sl [[],[c]]]++[sl [t,u]])).set (tj+61) (.list (ts.map .str++[.str t,.str u]))):=fun u=>by
  have z:(B S (k+1) m G st++(g++[sl [[],[c]]]++[sl [t,u]])).set (tj+61) (.list (ts.map .str++[.str t,.str u]))=B S (k+1) m G st++(g++[sl [[],[c]]]++[sl [t,u]]).set tj (sl (ts++[t,u])):=by
   rw[show sl (ts++[t,u])=.list (ts.map V.str++[.str t,.str u]) by unfold sl;rw[kx];rfl];rfl
  rw[z,AR (Ac hj _),AR hj,gB]
  exact h u _
 exact fin _
end
section
variable{S:List Int}{k:Int}{m:Nat}{G:mi}{st:St}{g:MH}{n:Nat}{X:As}{μ:MH}{mk:Int->List Nat}
theorem gy(st:St)(v:Int):(oS st v).length<=1000:=by
 unfold oS Df
 have a:=(Kd (Mine.ow st v).toNat (m6 st v) (Ah v)).2
 have b:=(JF (Af v)).2
 revert a b
 generalize Em (Mine.ow st v).toNat (m6 st v) (Ah v)=O
 generalize Cf (Af v)=E
 intro a b
 have:∀O:List (List Nat),(O.flatMap fun o=>E.map fun e=>EL (Mine.ow st v).toNat (m6 st v) (mo v) o e).length=O.length*E.length:=fun O=>by
  induction O with
  |nil=>simp
  |cons o O ih=>rw[j8,gF,g6,ih,gY,Nat.add_mul,Nat.one_mul,Nat.add_comm]
 rw[this]
 exact gI (Nat.mul_le_mul a b) (by decide)
theorem sq{Φ:Bool->Az}{Q:Au}(h:ws l9 Φ hd a (fun fl env' μ'=>match fl with|.next=>ws l9 Φ hd b Q X env' μ'|f=>Q f env' μ') X env μ):ws l9 Φ hd (.seq a b) Q X env μ:=h
theorem gb{Q:Au}(hn:1<=n)(k0:0<=k)(k1:k<500)(e3:env 278=some (.l8 1))(h:∀fm,0<=fm->fm<6->Q .next (Ad env 311 (.int fm)) (B S (k+1) m G st++g)):ws l9 (Ak l9 prog n) false (mY 0 lb) Q X env (B S k m G st++g):=by
 refine Ab e3 ?_
 refine Bw (many:=6) hn k0 (by exact YI k1) (by decide) ?_
 exact h
theorem gc{Q:Au}{rs:List V}(hn:1<=n)(hi:g[jt]?=some (.list rs))(T:BU st mk g rs L)(pos:0<rs.length)(k0:0<=k)(k1:k<500)(e2:env 302=some (.l8 (jt+61)))(e3:env 278=some (.l8 1))
  (h:∀v j,v∈L->g[j]?=some (sl (oS st v))->Q .next (Ad env 303 (og st mk j v)) (B S (k+1) m G st++g)):ws l9 (Ak l9 prog n) false (mY 1 lb) Q X env (B S k m G st++g):=by
 refine Ab e2 ?_
 refine Ab e3 ?_
 refine Ab e2 ?_
 refine Ab (FR hi) ?_
 refine Bw (many:=(rs.length:Int)) hn (by assumption) (by exact YI k1) (by exact S9 (Int.ofNat_lt.mpr pos)) ?_
 intro i i0 i1
 obtain⟨v,j,hv,er,uD⟩:=cI (rs:=rs) i.toNat T (by lia)
 have hi1:(B S (k+1) m G st++g)[jt+61]?=some (.list rs):=hi
 refine Ag (Nl hi1 i0 i1 er) ?_
 refine Ag (v:=og st mk j v) rfl ?_
 exact h v j hv uD
theorem gd{Q:Au}(hn:1<=n)(k0:0<=k)(k1:k<500)(e2:env 224=some (.str t))(e3:env 278=some (.l8 1))(h:∀s,Q .next (Ad env 282 (.int s)) (B S (k+1) m G st++g)):ws l9 (Ak l9 prog n) false (mY 3 lb) Q X env (B S k m G st++g):=by
 refine Ab e3 ?_
 refine Ab e2 ?_
 refine Bw (many:=(t.length:Int)+1) hn (by assumption) (by exact YI k1) (by exact cq (gW _)) ?_
 intro s s0 s1
 exact h s
theorem gf{Q:Au}(hn:1<=n)(k0:0<=k)(k1:k<500)(e3:env 278=some (.l8 1))(h:∀c,Q .next (Ad env 252 (.str [c])) (B S (k+1) m G st++g)):ws l9 (Ak l9 prog n) false (mY 4 lb) Q X env (B S k m G st++g):=by
 refine Ab e3 ?_
 refine Bw (many:=25) hn (by assumption) (by exact YI k1) (by decide) ?_
 intro d d0 d1
 obtain⟨c,hc⟩:=RU (μ:=B S (k+1) m G st++g) (s:=SG) d0 d1
 refine Ag hc ?_
 exact h c
theorem eJ{Q:Au}{ts:List (List Nat)}{rs:List V}(hn:1<=n)(hi:g[jt]?=some (.list rs))(hj:g[tj]?=some (sl ts))(ne:tj≠jt)(hl:ts.length<=10)(T:DW st mk tj g rs L)(pos:0<rs.length)(ml:∀v∈L,(mk v).length<=1)(k0:0<=k)(k1:k<400)(e1:env 309=some (.l8 (tj+61)))(e2:env 302=some (.l8 (jt+61)))(e3:env 278=some (.l8 1))
  (h:∀k' env' g' tD,0<=k'->env' 102=env 102->env' 302=env 302->env' 309=some (.l8 (tj+61))->g'[tj]?=some (sl tD)->g'[jt]?=some (.list rs)->BU st mk g' rs L->Q .next env' (B S k' m G st++g')):ws l9 (Ak l9 prog n) false lb Q X env (B S k m G st++g):=by
 refine sq (gb hn k0 (by exact mO (mz _) (mw 0 1) (.num 500) (mw 0 1) (.num 400) rfl k1) e3 fun fm f0 f1=>?_)
 refine sq (gc (env:=Ad env 311 (.int fm)) hn hi T.ok pos (by exact OB k0) (by exact mO (mz _) (.add (mw 0 1) (.num 1)) (.num 500) (mw 0 1) (.num 400) rfl k1) e2 e3 fun v j hv uD=>?_)
 refine sq (Xs (k:=k+1+1) (env:=Ad (Ad env 311 (.int fm)) 303 (og st mk j v)) (fm:=fm) hn uD (WE st v) (WD st v) (dB v) (XT st v) (Xe v) (ml v hv) (by exact cv k0) (by exact mO (mz _) (.add (.add (mw 0 1) (.num 1)) (.num 1)) (.num 700) (mw 0 1) (.num 400) rfl k1) f0 f1 rfl e3 rfl fun t e tl=>?_)
 refine sq (gd (k:=k+1+1+1) (env:=Ad (Ad (Ad env 311 (.int fm)) 303 (og st mk j v)) 224 (.str t)) (t:=t) hn (by exact cu k0) (by exact mO (mz _) (.add (.add (.add (mw 0 1) (.num 1)) (.num 1)) (.num 1)) (.num 500) (mw 0 1) (.num 400) rfl k1) rfl e3 fun s=>?_)
 refine sq (gf (k:=k+1+1+1+1) (env:=Ad (Ad (Ad (Ad env 311 (.int fm)) 303 (og st mk j v)) 224 (.str t)) 282 (.int s)) hn (by exact fw k0) (by exact mO (mz _) (.add (.add (.add (.add (.add (.var 0) (.num 1)) (.num 1)) (.num 1)) (.num 1)) (.num 1)) (.num 500) (.add (.var 0) (.num 1)) (.num 400) rfl k1) e3 fun c=>?_)
 refine sq (gg (k:=k+1+1+1+1+1) (env:=Ad (Ad (Ad (Ad (Ad env 311 (.int fm)) 303 (og st mk j v)) 224 (.str t)) 282 (.int s)) 252 (.str [c])) (t:=t) (c:=c) (s:=s) hn (Ac hj e) hl tl (by exact mO (mz _) (.num 0) (.add (.add (.add (.add (.add (.var 0) (.num 1)) (.num 1)) (.num 1)) (.num 1)) (.num 1)) (.num 0) (.var 0) rfl k0) (by exact mO (mz _) (.add (.add (.add (.add (.add (.add (.var 0) (.num 1)) (.num 1)) (.num 1)) (.num 1)) (.num 1)) (.num 1)) (.num 700) (.add (.var 0) (.num 1)) (.num 400) rfl k1) e1 rfl rfl rfl e3 fun u e'=>?_)
 refine h _ _ ((g++e).set tj (sl (ts++[t,u]))++e') (ts++[t,u]) (by exact mO (mz _) (.num 0) (.add (.add (.add (.add (.add (.add (.var 0) (.num 1)) (.num 1)) (.num 1)) (.num 1)) (.num 1)) (.num 1)) (.num 0) (.var 0) rfl k0) rfl rfl rfl (Ac (AK (Ac hj e)) e') (Ac (by refine(hG ne).symm▸?_;exact Ac hi e) e') ?_
 exact(((T.more e).set _).more e').ok
end
section
variable{S:List Int}{k:Int}{m:Nat}{G:mi}{st:St}{g:MH}{n:Nat}{X:As}{μ:MH}{mk:Int->List Nat}
theorem s_4{Q:Au}{ts:List (List Nat)}(hn:1<=n)(hi:g[jt]?=some (.list rs))(hj:g[tj]?=some (sl ts))(ne:tj≠jt)(hl:ts.length<=10)(T:DW st mk tj g rs L)(ml:∀v∈L,(mk v).length<=1)(k0:0<=k)(k1:k<400)(e1:env 309=some (.l8 (tj+61)))(e2:env 302=some (.l8 (jt+61)))(e3:env 278=some (.l8 1))
  (h:∀k' env' g' tD,env' 102=env 102->env' 302=env 302->env' 309=some (.l8 (tj+61))->g'[tj]?=some (sl tD)->g'[jt]?=some (.list rs)->BU st mk g' rs L->Q .next env' (B S k' m G st++g')):ws l9 (Ak l9 prog n) false (mY 4 Dc) Q X env (B S k m G st++g):=by
 refine Ab e2 ?_
 refine Ab (Vc hi T.ok) ?_
 refine Ap (fun e=>?_) fun e=>?_
 ·have pos:0<rs.length:=by
   induction rs using List.casesOn with
   |nil=>exact De e
   |cons=>exact jy _
  exact eJ (g:=g++[il []]) hn (Ac hi _) (Ac hj _) ne hl (T.more _) pos ml k0 k1 e1 e2 e3 fun k' env' g' tD _ a b c d e f=>h k' env' g' tD a b c d e f
 ·exact h k env (g++[il []]) ts rfl rfl e1 (Ac hj _) (Ac hi _) (T.more _).ok
theorem cH{Q:Ae}(hn:1<=n)(k0:0<=k)(k1:k<300)(e1:env 278=some (.l8 1))(h:∀k' t e,0<=k'->k'<400->Q (.str t) (B S k' m G st++(g++e))) :
  we l9 (Ak l9 prog n false) env (.mG (.str []) 4 (.cons (.comp (.sub (.l9 310) (.call 280 (.cons (.l8 278) (.cons (.blt 0 (.cons (.l9 310) .nil)) .nil)))) [281] true (.blt 4 (.cons (.call 280 (.cons (.l8 278) (.cons (.int 7) .nil))) .nil)) (.bool true)) .nil)) Q X (B S k m G st++g):=by
 refine Ab e1 ?_
 refine Bw (many:=7) hn k0 (by exact mO (mz _) (mw 0 1) (.num 900) (mw 0 1) (.num 300) rfl k1) (by decide) ?_
 intro d d0 d1
 refine Aj (gG (hM (m:=100) (by lia) (by decide))) ?_
 conv=>whnf
 have il:(BR (Cs 0 d 1) 0 1).length<=6:=by
  rw[LG d0];unfold G1
  rw[g6,g6,j6];lia
 refine YM (g:=g) (env:=env) hn e1 (BR (Cs 0 d 1) 0 1) (k+1) [] (by exact OB k0) (by exact qf (m4 _ _) (.add (.add (mw 0 1) mW) (.num 1)) (.num 800) (mw 0 1) (.num 300) mW (.num 6) rfl k1 (Int.ofNat_le.mpr il)) (by show 0+_<_;exact mU (mz _) (.add (.add (.num 0) mu) (.num 1)) (.num 90000) mu (.num 6) rfl il) (fun _ h=>by cases h) fun k' ys a b c l1=>?_
 have hj:(g++[sl ys])[g.length]?=some (sl ys):=gD
 have fl:=Sy ys l1
 have cl:ys.length<=6:=by rw[c];show 0+_<=6;exact mU (mz _) (.add (.num 0) mu) (.num 6) mu (.num 6) rfl il
 refine Ab (FR hj) ?_
 refine Ab (Zj ys) ?_
 refine Aj (gG (gI fl (gI cl (by decide)))) ?_
 exact h k' _ _ a (by lia)
end
section
variable{S:List Int}{k:Int}{m:Nat}{G:mi}{st:St}{g:MH}{n:Nat}{X:As}{μ:MH}{mk:Int->List Nat}
theorem asg{Φ:Bool->Az}{e:ME}{Q:Au}(h:we l9 (Φ hd) env e (fun v μ'=>Q .next (Ad env x v) μ') X μ):ws l9 Φ hd (.assign x e) Q X env μ:=h
theorem s_2{Q:Au}(hn:14<=n)(GC:Cj G m)(F:Es G m st mk)(e1:env 102=some (.l8 54))
  (h:∀g' r rs,r<g'.length->g'[r]?=some (.list rs)->DW st mk r g' rs (Ay G st)->Q .next (Ad env 302 (.l8 (r+61))) (B S k m G st++g')):ws l9 (Ak l9 prog n) false (mY 2 Dc) Q X env (B S k m G st++g):=by
 refine Ab e1 ?_
 refine Fr (gI (by decide) hn) GC.S F.R.C.low F.R.q0 F.R.q1 GC.hr F.R.ps (B6 G st) ?_
 intro e i hi
 refine Ab (Bc hi) ?_
 have hr:(g++e++[MO.list []])[(g++e).length]?=some (.list []):=gD
 refine Zn (i:=i) (r:=(g++e).length) (XS:=(Ay G st).map .int) (env:=env) (gI (by decide) hn) GC F e1 (iQ (BY hi)) (Ay G st) (fun _ h=>h) (g++e++[.list []]) [] [] (Ac hi _) hr trivial (by have:=Hy (G:=G) (st:=st);show 0+_<_;exact YG this) fun g' r9 a b=>?_
 have lt:(g++e).length<g'.length:=by
  rcases i7 (g++e).length g'.length with c|c
  ·exact c
  ·exact AM (iz c) a
 exact h g' _ r9 lt a b
theorem s_3{Q:Au}(hn:1<=n)(k0:0<=k)(k1:k<300)(e1:env 278=some (.l8 1))
  (h:∀k' t e,0<=k'->k'<400->Q .next (Ad env 309 (.l8 ((g++e).length+61))) (B S k' m G st++(g++e++[sl [t]]))):ws l9 (Ak l9 prog n) false (mY 3 Dc) Q X env (B S k m G st++g):=
 asg (RY (QK (cH hn k0 k1 e1 fun k' t e a b=>h k' t e a b)))
theorem DW.shift{e:MH}:∀{rs:List V} {L:List Int},DW st mk r g rs L->DW st mk (g++e).length (g++e++f) rs L
 |[],[],_=>trivial
 |_ :: _,_ :: _,⟨⟨j,_,a,b⟩,h⟩=>⟨⟨j,BY (Ac b e),a,Ac (Ac b e) f⟩,h.shift⟩
theorem eF{Q:Au}(hn:14<=n)(GC:Cj G m)(F:Es G m st mk)(hh:st.hist=[])(ml:∀v∈Ay G st,(mk v).length<=1)(ok:∀t,FX mk G st t=EB mk st (Ay G st) t)(k0:0<=k)(k1:k<300)(e1:env 102=some (.l8 54))(e3:env 278=some (.l8 1))
  (h:∀env' μ',Q (.ret (.bool true)) env' μ'):ws l9 (Ak l9 prog n) false (AT 2 Dc) Q X env (B S k m G st++g):=by
 have n1:1<=n:=gI (by decide) hn
 refine sq (s_2 hn GC F e1 fun g1 r rs lt hr T=>?_)
 refine sq (s_3 (env:=Ad env 302 (.l8 (r+61))) n1 k0 k1 e3 fun k' t e k0' u7=>?_)
 have uX:(g1++e++[sl [t]])[r]?=some (.list rs):=Ac (Ac hr e) _
 have hj:(g1++e++[sl [t]])[(g1++e).length]?=some (sl [t]):=gD
 have T2:DW st mk (g1++e).length (g1++e++[sl [t]]) rs (Ay G st):=T.shift
 have ne:(g1++e).length≠r:=by refine List.length_append.symm▸?_;exact jU (mU (nI _ _ _) (mD 0 1) (.add mK nM) (mD 0 1) mK rfl lt)
 refine sq (s_4 (env:=Ad (Ad env 302 (.l8 (r+61))) 309 (.l8 ((g1++e).length+61))) (tj:=(g1++e).length) (jt:=r) (ts:=[t]) n1 uX hj ne (by show 1<=10;decide) T2 ml k0' u7 rfl rfl e3 fun k2 mX g2 ts2 a b c d e' f=>?_)
 exact eG hn GC F hh ok d e' f (a.trans e1) b c h
end
structure Zw:Prop where
 GC:∀mc,Cj (Gr mc) (mr mc)
 GK:∀mc,R3 (Gr mc)
 ok:∀mc st,Pos (Gr mc) st->∃mk,Es (Gr mc) (mr mc) st mk/\(∀v∈Ay (Gr mc) st,(mk v).length<=1)/\∀t,FX mk (Gr mc) st t=EB mk st (Ay (Gr mc) st) t
section
variable{n:Nat}{X:As}
theorem Xc(xs:List Int)(a b:Nat):cut (xs.map V.int) a b=(cut xs a b).map V.int:=by unfold cut;rw[<- List.map_take,<- List.map_drop]
theorem s_0{Q:Au}{Φ:Bool->Az}{xs:List Int}(h:∀S,Q .next (Ad (Ad (fun _=>none) 307 (.mT (xs.map .int))) 278 (.l8 1)) [il S,.list [.l8 0,.int 0]]):ws l9 Φ false (mY 0 Dc) Q X (Ad (fun _=>none) 307 (.mT (xs.map .int))) []:=by
 have h:=h (cut xs 0 (min 40 (xs.map V.int).length))
 unfold il at h
 rw[<- Xc]at h
 exact h
theorem eI{Q:Ae}:CG (n+1) false 312 [v] Q X μ=ws l9 (Ak l9 prog n) false Dc (fun fl _ μ'=>match fl with|.ret v=>Q v μ'|.next=>Q .none μ'|.cont=>False) X (Ad (fun _=>none) 307 v) μ:=rfl
theorem dW{Q:Ae}{xs:List Int}(hn:15<=n)(O:Zw)(h:∀μ',Q (.bool true) μ'):CG n false 312 [.mT (xs.map .int)] Q X []:=by
 induction n with
 |zero=>exact absurd hn (by decide)
 |succ n=>
  refine sq (s_0 fun S=>?_)
  refine sq (asg ?_)
  have cl:we l9 (Ak l9 prog n false) (Ad (Ad (fun _=>none) 307 (.mT (xs.map .int))) 278 (.l8 1)) (rhs (mY 1 Dc)) (fun v μ'=>ws l9 (Ak l9 prog n) false (AT 2 Dc) (fun fl _ μ'=>match fl with|.ret v=>Q v μ'|.next=>Q .none μ'|.cont=>False) X (Ad (Ad (Ad (fun _=>none) 307 (.mT (xs.map .int))) 278 (.l8 1)) 102 v) μ') X [il S,.list [.l8 0,.int 0]]:=by
   refine WY (show 7<=n by exact mU (mz _) (.num 7) mu (.num 15) (mD 0 1) rfl hn) O.GC O.GK fun mc k' nu g' k0 k1 P=>?_
   obtain⟨mk,F,ml,ok⟩:=O.ok mc nu P
   exact eF (lO hn) (O.GC mc) F P.hist ml ok k0 (by exact mO (mz _) (mw 0 1) (.num 300) mq (.num 21) rfl k1) rfl rfl fun _ μ'=>h μ'
  exact cl
end
noncomputable def G3(n:Nat)(p:Nat->Bool):Bool:=(List.range n).all p
theorem CN{p:Nat->Bool}(h:G3 n p=true)(hi:i<n):p i=true:=List.all_eq_true.mp h i (List.mem_range.mpr hi)
theorem PQ{p:Nat->Bool}{s x:Int}(h:G3 s.toNat p=true)(x0:0<=x)(x1:x<s):p x.toNat=true:=CN h (by lia)
noncomputable def XY(n:Nat)(l:List Int):Bool:=l.all fun x=>decide (0<=x)&&decide (x<2 ^ n)
theorem IC{G:mi}(h:XY G.size.toNat l=true)(i:Int):Bd G (Cu l i):=by
 unfold Cu
 refine List.getD_eq_getElem?_getD.symm▸?_
 cases e:l[i.toNat]? with
 |none=>exact⟨iE 0,jJ (by decide)⟩
 |some x=>
  have:=List.all_eq_true.mp h x (jv e)
  simp only[gP,hV]at this
  exact this
theorem Nb{G:mi}{p:List Int->Bool}(h:([G.r0,G.r1,G.r2,G.r3,G.r4,G.r5,G.r6,G.r7].all p)=true)(d:Nat):p (KX G d)=true:=by
 have q:∀l∈[G.r0,G.r1,G.r2,G.r3,G.r4,G.r5,G.r6,G.r7],p l=true:=List.all_eq_true.mp h
 unfold KX
 split<;>exact q _ (by simp)
theorem OG(mc:Bool):([(Gr mc).r0,(Gr mc).r1,(Gr mc).r2,(Gr mc).r3,(Gr mc).r4,(Gr mc).r5,(Gr mc).r6,(Gr mc).r7].all (XY (Gr mc).size.toNat))=true:=by induction mc<;>kernel_rfl
theorem VQ(mc:Bool):([(Gr mc).r0,(Gr mc).r1,(Gr mc).r2,(Gr mc).r3,(Gr mc).r4,(Gr mc).r5,(Gr mc).r6,(Gr mc).r7].all fun l=>((l.length:Int)==(Gr mc).size))=true:=by induction mc<;>kernel_rfl
theorem Xv(mc:Bool):Cj (Gr mc) (mr mc):=by
 refine⟨?_,fun a b=>?_,?_,?_,?_⟩
 ·have rl:=fun d (_:d<8)=>gU (Nb (VQ mc) d)
  cases mc
  ·exact⟨by decide,rl,rfl,rfl,rfl,rfl,by decide,by decide,rfl,rfl,by decide,by decide⟩
  ·exact⟨by decide,rl,rfl,rfl,rfl,rfl,by decide,by decide,rfl,rfl,by decide,by decide⟩
 ·unfold AW
  cases GD (Gr mc) a b with
  |none=>exact⟨iE 0,jJ (by decide)⟩
  |some d=>exact(IC (Nb (OG mc) d) a).left _
 ·induction mc using Bool.casesOn<;>decide
 ·induction mc using Bool.casesOn<;>rfl
 ·cases mc
  ·exact⟨_,rfl,rfl⟩
  ·exact⟨_,rfl,rfl⟩
noncomputable def aV(G:mi):Bool:=G3 G.size.toNat fun z=>G3 G.size.toNat fun y=>!F6 z y||!tb (Cu G.king y) z
noncomputable def Y7(G:mi):Bool:=G3 G.size.toNat fun z=>decide (0<((G1 G.size).filter (F6 z)).length)
theorem aX(mc:Bool):aV (Gr mc)=true:=by cases mc<;>kernel_rfl
theorem Y8(mc:Bool):Y7 (Gr mc)=true:=by cases mc<;>kernel_rfl
theorem f6(mc:Bool):R3 (Gr mc):=by
 refine⟨fun z y z0 z1 y0 y1 h=>?_,fun z z0 z1=>?_⟩
 ·have q:=PQ (PQ (aX mc) z0 z1) y0 y1
  rw[g9 z0,g9 y0,h]at q
  simpa using q
 ·have q:=PQ (Y8 mc) z0 z1
  rw[g9 z0]at q
  exact gO q
theorem Kp{x:Int}(h:0<=x)(s k:Nat):tb (x.fdiv (2 ^ s)) k=tb x (k+s):=by
 obtain⟨a,rfl⟩:=gJ h
 rw[iG _ (jn (jJ (by decide)))]
 show(a / 2 ^ s).testBit k=a.testBit (k+s)
 rw[Nat.testBit_div_two_pow]
theorem Nf{x:Int}(h:0<=x)(s:Nat):0<=x.fdiv (2 ^ s):=by
 rw[iG _ (jn (jJ (by decide)))]
 exact jS h (jn (jJ (by decide)))
structure tJ(b x:Int)(w:Nat):Prop where
 pos:0<=x
 bit:∀k,tb x k=true↔∃i,i<w/\tb b (k+i)=true
theorem tJ.twice{x:Int}(W:tJ b x w):tJ b (Builtin.bitOr x (x.fdiv (2 ^ w))) (w+w):=by
 refine⟨Vz W.pos (Nf W.pos w),fun k=>?_⟩
 rw[DE,Kp W.pos,ik,W.bit,W.bit]
 constructor
 ·rintro(⟨i,h,e⟩|⟨i,h,e⟩)
  ·exact⟨i,by exact mU (m4 _ _) (mD 0 1) (.add mK mK) (mD 0 1) mK rfl h,e⟩
  ·exact⟨w+i,by exact mU (m4 _ _) (.add (.add mK mu) (.num 1)) (.add mK mK) (mD 0 1) mK rfl h,by rw[<- Nat.add_assoc];exact e⟩
 ·rintro⟨i,h,e⟩
  rcases i7 i w with c|c
  ·exact .inl ⟨i,c,e⟩
  ·exact .inr ⟨i - w,by lia,by rw[show k+w+(i - w)=k+i by lia];exact e⟩
theorem Tk(h:0<=b)(k:Nat):tb (RQ b) k=true↔∃i,i<64/\tb b (k+i)=true:=by
 have W0:tJ b b 1:=⟨h,fun k=>⟨fun e=>⟨0,by decide,e⟩,fun⟨i,hi,e⟩=>by replace e:=(show i=0 by exact jN (mU (mz _) mu (.num 0) (mD 0 1) (.num 1) rfl hi) (qg (mz _) (.num 0) mu rfl))▸e;exact e⟩⟩
 exact(W0.twice.twice.twice.twice.twice.twice).bit k
theorem dq(b:Nat):(2*b).testBit 0=false:=by rw[jb,Nat.mul_mod_right];rfl
theorem ua(b k:Nat):(2*b).testBit (k+1)=b.testBit k:=by rw[iR,lD b (by decide)]
theorem dr(b:Nat):(2*b+1).testBit 0=true:=by rw[jb,lf];rfl
theorem tbO(b k:Nat):(2*b+1).testBit (k+1)=b.testBit k:=by rw[iR,show(2*b+1) / 2=b by lia]
theorem U2(n:Nat):∀(a:Nat),a<2 ^ n->0<a->∃j,a.testBit j=true/\(∀i,i<j->a.testBit i=false)/\∀k,(a.testBit k ^^ (a - 1).testBit k)=decide (k<=j):=by
 induction n with
 |zero=>intro a h p;exact absurd p (Nat.not_lt.mpr (kU h))
 |succ n ih=>
  intro a h p
  obtain⟨b,rfl|rfl⟩:∃b,a=2*b\/a=2*b+1:=⟨a / 2,by lia⟩
  ·induction b with
   |zero=>exact absurd p (ip 0)
   |succ c=>
    obtain⟨j,h1,h2,h3⟩:=ih (c+1) (lw (a:=2) (by rw[kP,lH (2 ^ n)]at h;exact h)) (jy c)
    refine⟨j+1,(ua _ _).trans h1,fun i hi=>?_,fun k=>?_⟩
    ·induction i using Nat.casesOn with
     |zero=>exact dq _
     |succ i=>exact(ua _ _).trans (h2 i (kq hi))
    ·show((2*(c+1)).testBit k ^^ (2*c+1).testBit k)=_
     induction k with
     |zero=>rw[dq,dr];exact(gG (iq _)).symm
     |succ k=>rw[ua,tbO];exact(h3 k).trans (decide_eq_decide.mpr Nat.succ_le_succ_iff.symm)
  ·refine⟨0,dr b,fun i hi=>absurd hi (Nat.not_lt_zero i),fun k=>?_⟩
   show((2*b+1).testBit k ^^ (2*b).testBit k)=_
   induction k with
   |zero=>rw[dr,dq];rfl
   |succ k=>rw[tbO,ua,Bool.xor_self];exact(gZ (jL k)).symm
def bef(up:Bool)(u t:Nat):Prop:=match up with|true=>u<t|false=>t<u
theorem RJ(h0:0<=oz)(oK:oz<2 ^ 20)(t:Nat):tb (RI up oz occ) t=true↔tb oz t=true/\∀u,bef up u t->¬(tb oz u=true/\tb occ u=true):=by
 have sb:∀u,tb (Builtin.bitAnd oz occ) u=true↔tb oz u=true/\tb occ u=true:=fun u=>by rw[Bv,gP]
 have s0:0<=Builtin.bitAnd oz occ:=(Et h0 occ).1
 have tA:Builtin.bitAnd oz occ<2 ^ 20:=j0 (Et h0 occ).2 oK
 simp only[<- sb]
 unfold RI
 revert s0 tA
 generalize Builtin.bitAnd oz occ=stop
 intro s0 tA
 obtain⟨a,rfl⟩:=gJ s0
 cases e:(a:Int)==0 with
 |true=>
  have z:a=0:=by have:=gU e;lia
  cases z
  exact⟨fun h=>⟨h,fun u _ q=>by exact Ex q (show tb ((0:Nat):Int) u=false from DT u)⟩,fun h=>h.1⟩
 |false=>
  have p:0<a:=by
   rw[gX]at e;lia
  induction up using Bool.casesOn with
  |true=>
   obtain⟨j,h1,h2,h3⟩:=U2 20 a (by lia) p
   show tb (Builtin.bitAnd oz (Cv (a:Int) ((a:Int) - 1))) t=true↔_
   (rewrite[Bv];refine(show(a:Int) - 1=((a - 1:Nat):Int) by lia).symm▸?_;rewrite[Kq (gW _) (gW _)])
   show(tb oz t&&(a.testBit t ^^ (a - 1).testBit t))=true↔_
   rw[h3,gP,hV]
   constructor
   ·rintro⟨h,k⟩
    refine⟨h,fun u hu q=>?_⟩
    have hu:u<t:=hu
    have q:a.testBit u=true:=q
    exact Ex q (h2 u (by exact pt (nI _ _ _) (mD 2 1) mK mu mK (mD 2 1) mu rfl k hu))
   ·rintro⟨h,k⟩
    refine⟨h,?_⟩
    rcases i7 j t with c|c
    ·exact absurd h1 (k j c)
    ·exact c
  |false=>
   have s1:=Nf s0 1
   show tb (Builtin.bitAnd oz (Builtin.bitNot (RQ ((a:Int).fdiv (2 ^ 1))))) t=true↔_
   rw[Bv,Gk,gP,jq]
   have sm:=Tk s1 t
   constructor
   ·rintro⟨h,k⟩
    refine⟨h,fun u hu q=>?_⟩
    have hu:t<u:=hu
    have u20:u<20:=by
     rcases i7 u 20 with c|c
     ·exact c
     ·have q:a.testBit u=true:=q
      exact Ex q (i8 (hM (by lia:a<2 ^ 20) (iF (by decide) c)))
    have:=sm.mpr ⟨u - t - 1,by lia,by(rewrite[Kp s0];refine(show t+(u - t - 1)+1=u by lia).symm▸?_);exact q⟩
    exact Ex this k
   ·rintro⟨h,k⟩
    refine⟨h,?_⟩
    cases q:tb (RQ ((a:Int).fdiv (2 ^ 1))) t with
    |false=>rfl
    |true=>
     obtain⟨i,hi,e⟩:=sm.mp q
     rw[Kp s0]at e
     exact absurd e (k (t+i+1) (by show t<_;exact qg (m4 _ _) (mD 0 1) (.add (.add mu mK) (.num 1)) rfl))
noncomputable def ai(up:Bool)(u t:Nat):Bool:=match up with|true=>decide (u<t)|false=>decide (t<u)
theorem ZC:ai up u t=true↔bef up u t:=by cases up<;>exact decide_eq_true_iff
noncomputable def Qk(G:mi)(d o:Nat):Int:=(KX G d).getD o 0
noncomputable def Nn(l:List Int)(o:Nat):Int:=l.getD o 0
noncomputable def Wj(G:mi):Bool:=G3 8 fun d=>G3 G.size.toNat fun o=>!tb (Qk G d o) o&&G3 G.size.toNat fun t=>!tb (Qk G d o) t||(tb (Qk G (back d) t) o&&G3 G.size.toNat fun u=>!(tb (Qk G (back d) t) u&&ai (SH (back d)) u o)||(tb (Qk G d o) u&&ai (SH d) u t))
noncomputable def RS(G:mi):Bool:=G3 G.size.toNat fun o=>(!tb (Nn G.knight o) o&&!tb (Nn G.king o) o)&&G3 G.size.toNat fun t=>(!tb (Nn G.knight o) t||tb (Nn G.knight t) o)&&(!tb (Nn G.king o) t||tb (Nn G.king t) o)
noncomputable def Ww(w:Bool):Int:=match w with|false=>3|true=>0
noncomputable def RE(G:mi)(c w:Bool):Bool:=G3 G.size.toNat fun t=>G3 G.size.toNat fun o=>!decide ((t:Int) - B2 c w=o)||tb (Cu G.files (Ww w)) o||tb (Nn (G.pw (!c)) t) o
noncomputable def UZ(G:mi):Bool:=XY G.size.toNat G.knight&&XY G.size.toNat G.king
theorem dk(mc:Bool):Wj (Gr mc)=true:=by cases mc<;>kernel_rfl
theorem Zh(mc:Bool):RS (Gr mc)=true:=by cases mc<;>kernel_rfl
theorem Yr(mc c w:Bool):RE (Gr mc) c w=true:=by cases mc<;>cases c<;>cases w<;>kernel_rfl
theorem SR(mc:Bool):UZ (Gr mc)=true:=by cases mc<;>kernel_rfl
structure IQ(G:mi):Prop where
 low:∀d i,Bd G (Cu (KX G d) i)
 sym:Wj G=true
 step:RS G=true
 qt:∀c w,RE G c w=true
 vd:∀i,Bd G (Cu G.knight i)
 vc:∀i,Bd G (Cu G.king i)
theorem eh(mc:Bool):IQ (Gr mc):=by
 have h:=SR mc
 unfold UZ at h
 rw[gP]at h
 exact⟨fun d i=>IC (Nb (OG mc) d) i,dk mc,Zh mc,Yr mc,fun i=>IC h.1 i,fun i=>IC h.2 i⟩
theorem Jl{G:mi}(h:Bd G x)(hk:tb x k=true):(k:Int)<G.size/\k<G.size.toNat:=by
 obtain⟨a,rfl⟩:=gJ h.1
 have h2:=h.2
 rw[show(2:Int) ^ G.size.toNat=((2 ^ G.size.toNat:Nat):Int) by rw[jR];rfl]at h2
 have:k<G.size.toNat:=by
  rcases i7 k G.size.toNat with c|c
  ·exact c
  ·have q:a.testBit k=true:=hk
   rw[i8 (hM (by exact Int.ofNat_lt.mp (cn h2):a<2 ^ G.size.toNat) (iF (by decide) c))]at q
   cases q
 lia
section
variable{G:mi}{st:St}
theorem RK(L:IQ G)(GS:G.mh)(hd:d<8)(ho:o<G.size.toNat)(h:tb (GR G d o occ) t=true):tb (GR G (back d) t occ) o=true/\t≠o:=by
 have r0:=L.low d o
 have r20:=r0.top GS
 obtain⟨h1,h2⟩:=(RJ (up:=SH d) (occ:=occ) r0.1 r20 t).mp h
 have ht:=(Jl r0 h1).2
 have q:=CN (CN L.sym hd) ho
 rw[gP]at q
 obtain⟨q0,q⟩:=q
 have q:=CN q ht
 have qN:tb (Qk G d o) t=true:=h1
 rw[qN,kK,iM,gP]at q
 obtain⟨q1,q2⟩:=q
 have s0:=L.low (back d) t
 refine⟨(RJ (up:=SH (back d)) (occ:=occ) s0.1 (s0.top GS) o).mpr ⟨q1,fun u hu e=>?_⟩,fun e=>?_⟩
 ·have u0:=(Jl s0 e.1).2
  have q3:=CN q2 u0
  have e1:tb (Qk G (back d) t) u=true:=e.1
  rw[e1,ZC.mpr hu,Bool.and_self,kK,iM,gP]at q3
  exact h2 u (ZC.mp q3.2) ⟨q3.1,e.2⟩
 ·subst e
  rw[qN]at q0;cases q0
theorem OI{sq occ:Int}(t:Nat):tb (CX G sq occ) t=true↔∃d,d<4/\tb (GR G d sq occ) t=true:=by
 show tb (Builtin.bitOr (Builtin.bitOr (Builtin.bitOr (Builtin.bitOr 0 _) _) _) _) t=true↔_
 rw[DE,DE,DE,DE,DT]
 simp only[ik,iM]
 constructor
 ·rintro(((h|h)|h)|h)
  ·exact⟨0,by decide,h⟩
  ·exact⟨1,by decide,h⟩
  ·exact⟨2,by decide,h⟩
  ·exact⟨3,by decide,h⟩
 ·rintro⟨d,hd,h⟩
  rcases(by lia:d=0\/d=1\/d=2\/d=3)with rfl|rfl|rfl|rfl
  ·exact .inl (.inl (.inl h))
  ·exact .inl (.inl (.inr h))
  ·exact .inl (.inr h)
  ·exact .inr h
theorem NV{sq occ:Int}(t:Nat):tb (DL G sq occ) t=true↔∃d,4<=d/\d<8/\tb (GR G d sq occ) t=true:=by
 show tb (Builtin.bitOr (Builtin.bitOr (Builtin.bitOr (Builtin.bitOr 0 _) _) _) _) t=true↔_
 rw[DE,DE,DE,DE,DT]
 simp only[ik,iM]
 constructor
 ·rintro(((h|h)|h)|h)
  ·exact⟨4,by decide,by decide,h⟩
  ·exact⟨5,by decide,by decide,h⟩
  ·exact⟨6,by decide,by decide,h⟩
  ·exact⟨7,by decide,by decide,h⟩
 ·rintro⟨d,hd,hd2,h⟩
  rcases(by lia:d=4\/d=5\/d=6\/d=7)with rfl|rfl|rfl|rfl
  ·exact .inl (.inl (.inl h))
  ·exact .inl (.inl (.inr h))
  ·exact .inl (.inr h)
  ·exact .inr h
theorem OJ(L:IQ G)(GS:G.mh){o t:Nat}{occ:Int}(ho:o<G.size.toNat)(h:tb (CX G o occ) t=true):tb (CX G t occ) o=true/\t≠o:=by
 obtain⟨d,hd,h⟩:=(OI t).mp h
 obtain⟨a,b⟩:=RK L GS (by exact mU (mz _) (mD 0 1) (.num 8) (mD 0 1) (.num 4) rfl hd) ho h
 refine⟨(OI o).mpr ⟨back d,?_,a⟩,b⟩
 rcases(by lia:d=0\/d=1\/d=2\/d=3)with rfl|rfl|rfl|rfl<;>decide
theorem NW(L:IQ G)(GS:G.mh)(ho:o<G.size.toNat)(h:tb (DL G o occ) t=true):tb (DL G t occ) o=true/\t≠o:=by
 obtain⟨d,hd,hd2,h⟩:=(NV t).mp h
 obtain⟨a,b⟩:=RK L GS hd2 ho h
 refine⟨(NV o).mpr ⟨back d,?_,?_,a⟩,b⟩
 ·rcases(by lia:d=4\/d=5\/d=6\/d=7)with rfl|rfl|rfl|rfl<;>decide
 ·rcases(by lia:d=4\/d=5\/d=6\/d=7)with rfl|rfl|rfl|rfl<;>decide
theorem Ou(L:IQ G)(ho:o<G.size.toNat):(tb (Cu G.knight o) t=true->tb (Cu G.knight t) o=true/\t≠o)/\(tb (Cu G.king o) t=true->tb (Cu G.king t) o=true/\t≠o):=by
 have q:=CN L.step ho
 rw[gP,gP]at q
 obtain⟨⟨n1,n2⟩,q⟩:=q
 constructor
 ·intro h
  have q:=CN q (Jl (L.vd o) h).2
  have h':tb (Nn G.knight o) t=true:=h
  rw[gP,h',kK,iM]at q
  exact⟨q.1,fun e=>by subst e;rw[h']at n1;cases n1⟩
 ·intro h
  have q:=CN q (Jl (L.vc o) h).2
  have h':tb (Nn G.king o) t=true:=h
  rw[gP,h',kK,iM]at q
  exact⟨q.2,fun e=>by subst e;rw[h']at n2;cases n2⟩
theorem Ej(h:tb x k=true):(x != 0)=true:=by
 rw[iu];intro e;subst e;rw[DT]at h;cases h
theorem IX{sq occ:Int}{c:Bool}{k:Nat}(h:tb (B4 G st sq c) k=true):Bq G st sq c occ=true:=by
 unfold Bq;rw[Ej h]
theorem NA{sq occ:Int}{c:Bool}{k:Nat}(h1:tb (CX G sq occ) k=true)(h2:tb (AQ st) k=true)(h3:tb (st.si c) k=true):Bq G st sq c occ=true:=by
 have a:tb (Am (AQ st) (st.si c)) k=true:=by show tb (Builtin.bitAnd _ _) k=true;rw[Bv,h2,h3];rfl
 have b:tb (Am (CX G sq occ) (Am (AQ st) (st.si c))) k=true:=by show tb (Builtin.bitAnd _ _) k=true;rw[Bv,h1,a];rfl
 unfold Bq
 rw[Ej a,Ej b]
 cases B4 G st sq c != 0<;>rfl
theorem Nz{sq occ:Int}{c:Bool}{k:Nat}(h1:tb (DL G sq occ) k=true)(h2:tb (Ch st) k=true)(h3:tb (st.si c) k=true):Bq G st sq c occ=true:=by
 have a:tb (Am (Ch st) (st.si c)) k=true:=by show tb (Builtin.bitAnd _ _) k=true;rw[Bv,h2,h3];rfl
 have b:tb (Am (DL G sq occ) (Am (Ch st) (st.si c))) k=true:=by show tb (Builtin.bitAnd _ _) k=true;rw[Bv,h1,a];rfl
 have e:B9 G st sq c occ=true:=by unfold B9;rw[Ej a];exact Ej b
 unfold Bq
 rw[e]
 cases B4 G st sq c != 0
 ·cases Am (AQ st) (st.si c) != 0
  ·rfl
  ·cases Am (CX G sq occ) (Am (AQ st) (st.si c)) != 0<;>rfl
 ·rfl
end
theorem VD:∀o:Nat,o<20->∀t:Nat,t<20->∀f:Nat,f<4->∀s:Nat,s<2->Ah (AI o t f s)=o/\mo (AI o t f s)=t/\Bt (AI o t f s)=s/\Am ((AI o t f s).fdiv (2 ^ 12)) 3=f:=by decide +kernel
theorem RD(o0:0<=o)(o1:o<20)(t0:0<=t)(t1:t<20)(f0:0<=f)(f1:f<4)(s0:0<=s)(s1:s<2):Ah (AI o t f s)=o/\mo (AI o t f s)=t/\Bt (AI o t f s)=s/\Am ((AI o t f s).fdiv (2 ^ 12)) 3=f:=by
 obtain⟨o,rfl⟩:=gJ o0
 obtain⟨t,rfl⟩:=gJ t0
 obtain⟨f,rfl⟩:=gJ f0
 obtain⟨s,rfl⟩:=gJ s0
 exact VD o (Int.ofNat_lt.mp o1) t (Int.ofNat_lt.mp t1) f (Int.ofNat_lt.mp f1) s (Int.ofNat_lt.mp s1)
noncomputable def OY(st:St)(t:Int):Option (Bool×Nat):=match AB st.board t.toNat==0 with
 |true=>none
 |false=>some ((AB st.board t.toNat).fdiv (2 ^ 3)==1,(Builtin.bitAnd (AB st.board t.toNat) 7).toNat)
theorem RX{st:St}(C:mM G st)(t:Int):AB st.board t.toNat=ri (OY st t)/\∀c q,OY st t=some (c,q)->1<=q/\q<7:=by
 unfold OY
 rcases C.rT t.toNat with e|⟨c,q,q1,q7,e⟩
 ·refine e.symm▸?_;exact⟨rfl,fun _ _ h=>by exact Ao h⟩
 ·(refine e.symm▸?_;refine(show(pc c q==0)=false by rw[gX];exact Eo c q1).symm▸?_)
  rw[IH c (by exact YH q7),M6 c (by exact YH q7)]
  have h:(sd c==1)=c:=by induction c<;>rfl
  refine h.symm▸?_
  refine⟨rfl,fun c' q' z=>?_⟩
  cases Option.some.inj z
  exact⟨q1,q7⟩
structure pP(G:mi)(st:St)(kd:Nat)(o t:Int):Prop where
 k1:1<=kd
 k7:kd<7
 o0:0<=o
 o1:o<G.size
 t0:0<=t
 t1:t<G.size
 own:AB st.board o.toNat=pc st.side kd
 ne:t≠o
 qt:kd=1->t - o≠8/\o - t≠8
theorem pP.mv{G:mi}{st:St}{kd:Nat}{o t f s:Int}(GS:G.mh)(C:mM G st)(T:pP G st kd o t)(hs:f=0/\s=0\/kd=1/\s=1/\0<=f/\f<4):Mv G st (AI o t f s) kd (OY st t)/\Ah (AI o t f s)=o/\mo (AI o t f s)=t:=by
 have top:=GS.top
 have o0:=T.o0;have o1:=T.o1;have t0:=T.t0;have t1:=T.t1
 have f0:0<=f/\f<4/\(s=0\/s=1)/\0<=s/\s<2:=by
  rcases hs with⟨rfl,rfl⟩|⟨_,rfl,x,y⟩
  ·exact⟨by decide,by decide,.inl rfl,by decide,by decide⟩
  ·exact⟨x,y,.inr rfl,by decide,by decide⟩
 obtain⟨a,b,c,d⟩:=RD o0 (gS o1 top) t0 (gS t1 top) f0.1 f0.2.1 f0.2.2.2.1 f0.2.2.2.2
 have k1:=(RX C t).1;have k2:=(RX C t).2
 refine⟨⟨⟨by rw[a];exact o0,by rw[a];exact o1,by rw[b];exact t0,by rw[b];exact t1,by rw[c];exact f0.2.2.1⟩,T.k1,T.k7,by refine a.symm▸?_;exact T.own,by rw[b];exact k1,k2,by(refine a.symm▸?_;refine b.symm▸?_);exact iQ T.ne,by(refine a.symm▸?_;refine b.symm▸?_);exact T.qt,fun e=>?_⟩,a,b⟩
 replace e:=c▸e
 rcases hs with h|h
 ·replace e:=h.2▸e;exact nomatch e
 ·obtain⟨f,rfl⟩:=gJ h.2.2.1
  refine⟨h.1,f+2,jp 2 f,Nat.add_le_add_right (kU (Int.ofNat_lt.mp h.2.2.2)) 2,?_⟩
  unfold Af
  (refine c.symm▸?_;refine(show(s != 1)=false by rw[e];rfl).symm▸?_)
  refine d.symm▸?_;rfl
section
variable{G:mi}{st:St}
theorem bY(C:mM G st)(k1:1<=kd)(k7:kd<7){o:Int}(h:o∈nJ 20 (Am (st.si st.side) (st.kd kd)) 0):0<=o/\o<G.size/\AB st.board o.toNat=pc st.side kd:=by
 have a:=(((C.pQ st.side).left (st.kd kd)).sq h).1;have b:=(((C.pQ st.side).left (st.kd kd)).sq h).2.1;have c:=(((C.pQ st.side).left (st.kd kd)).sq h).2.2
 exact⟨a,b,(GY C st.side k1 k7 o.toNat).mp c⟩
theorem P3{o s:Int}(h0:0<=o)(h1:o<s):o.toNat<s.toNat:=by lia
theorem VS(L:IQ G)(GS:G.mh)(k2:2<=kd)(k7:kd<7)(o0:0<=o)(o1:o<G.size)(h:tb (DC G kd o occ) t=true):(t:Int)≠o:=by
 have ho:=P3 o0 o1
 have eo:((o.toNat:Nat):Int)=o:=g9 o0
 have r:=@OJ G L GS o.toNat t occ ho
 have b:=@NW G o.toNat occ t L GS ho
 have n:=@Ou G o.toNat t L ho
 have fin:t≠o.toNat->(t:Int)≠o:=fun z e=>z (by refine e▸?_;rfl)
 revert h
 clear o0 o1 ho eo L GS
 refine ti k2 k7 (fun h=>fin (n.1 h).2) (fun h=>fin (b h).2) (fun h=>fin (r h).2) (fun h=>?_) (fun h=>fin (n.2 h).2)
 have h:tb (Builtin.bitOr (CX G o occ) (DL G o occ)) t=true:=h
 rw[DE,ik]at h
 rcases h with h|h
 ·exact fin (r h).2
 ·exact fin (b h).2
theorem SV(L:IQ G)(GS:G.mh)(C:mM G st)(k2:2<=kd)(k7:kd<7)(hb:Bd G target)(h:v∈C8 G st kd target):∃o t:Int,pP G st kd o t/\tb (DC G kd o (A3 st)) t.toNat=true/\v=AI o t 0 0:=by
 obtain⟨o,ho,h⟩:=List.mem_flatMap.mp h
 obtain⟨t,ht,rfl⟩:=List.mem_map.mp h
 obtain⟨o0,o1,own⟩:=bY C (by exact Qi k2) k7 ho
 have t0:=((hb.right (DC G kd o (A3 st))).sq ht).1;have t1:=((hb.right (DC G kd o (A3 st))).sq ht).2.1;have tB:=((hb.right (DC G kd o (A3 st))).sq ht).2.2
 have tB:tb (Builtin.bitAnd (DC G kd o (A3 st)) target) t.toNat=true:=tB
 rw[Bv,gP]at tB
 have ne:=VS L GS k2 k7 o0 o1 tB.1
 exact⟨o,t,⟨by exact Qi k2,k7,o0,o1,t0,t1,own,by lia,by exact fun e0=>⟨km (Nf2 (mz _) (.num 2) mu mu (.num 1) rfl k2 (hZ e0)),km (Nf2 (mz _) (.num 2) mu mu (.num 1) rfl k2 (hZ e0))⟩⟩,tB.1,rfl⟩
theorem Kf(hb:0<=b)(h:tb (EN G b c) k=true):∃j:Nat,(j:Int)=k - CZ c/\tb b j=true:=by
 induction c with
 |false=>
  have h:tb (Builtin.bitAnd (b*2 ^ 4) G.full) k=true:=h
  rw[Bv,gP]at h
  obtain⟨a,rfl⟩:=gJ hb
  have h1:(a*2 ^ 4).testBit k=true:=h.1
  rw[lC,gP,hV]at h1
  exact⟨k - 4,by show((k - 4:Nat):Int)=k - 4;lia,h1.2⟩
 |true=>
  have h:tb (b.fdiv (2 ^ 4)) k=true:=h
  rw[Kp hb]at h
  exact⟨k+4,by show((k+4:Nat):Int)=k - -4;rfl,h⟩
theorem W3(hb:0<=b)(h:tb (Mg G b c w) k=true):∃j:Nat,(j:Int)=k - B2 c w/\tb b j=true/\tb (Cu G.files (Ww w)) j=false:=by
 have nb:∀x,0<=Am b x:=fun x=>(Et hb x).1
 have pp:∀x,0<=x->0<=EN G x c:=fun x hx=>by
  induction c using Bool.casesOn with
  |false=>exact(Et (lp hx (by decide)) G.full).1
  |true=>exact Nf hx 4
 have fin:∀x j,tb (Am b (Dp x)) j=true->tb b j=true/\tb x j=false:=fun x j q=>by
  have q:tb (Builtin.bitAnd b (Builtin.bitNot x)) j=true:=q
  rw[Bv,Gk,gP,jq]at q
  exact q
 induction w using Bool.casesOn with
 |false=>
  have h:tb (EN G (Am b (Dp (Cu G.files 3))) c*2 ^ 1) k=true:=h
  have p0:=pp _ (nb (Dp (Cu G.files 3)))
  have hk:1<=k/\tb (EN G (Am b (Dp (Cu G.files 3))) c) (k - 1)=true:=by
   revert h p0
   generalize EN G (Am b (Dp (Cu G.files 3))) c=X
   intro h p0
   obtain⟨a,rfl⟩:=gJ p0
   have h1:(a*2 ^ 1).testBit k=true:=h
   rw[lC,gP,hV]at h1
   exact h1
  obtain⟨j,e,q⟩:=Kf (nb _) hk.2
  have q1:=(fin _ j q).1;have q2:=(fin _ j q).2
  refine⟨j,?_,q1,q2⟩
  refine e.symm▸?_
  show((k - 1:Nat):Int) - CZ c=k - (CZ c+1 - 2*0)
  lia
 |true=>
  have h:tb ((EN G (Am b (Dp (Cu G.files 0))) c).fdiv (2 ^ 1)) k=true:=h
  rw[Kp (pp _ (nb _))]at h
  obtain⟨j,e,q⟩:=Kf (nb _) h
  have q1:=(fin _ j q).1;have q2:=(fin _ j q).2
  refine⟨j,?_,q1,q2⟩
  refine e.symm▸?_
  show((k+1:Nat):Int) - CZ c=k - (CZ c+1 - 2*1)
  exact ii (oE (m4 _ _) (.sub (mw 0 1) mW) (.sub mq (.sub (mw 1 1) (.mulL 2 (.num 1)))) rfl) (oE (m4 _ _) (.sub mq (.sub (mw 1 1) (.mulL 2 (.num 1)))) (.sub (mw 0 1) mW) rfl)
end
section
variable{G:mi}{st:St}
theorem Uh(C:mM G st)(h:tb (PF G st) t=true):AB st.board t=0:=by
 have h:tb (Builtin.bitAnd G.full (Builtin.bitNot (Builtin.bitOr st.s0 st.s1))) t=true:=h
 rw[Bv,Gk,DE,gP,jq,lY]at h
 rcases C.rT t with e|⟨c,q,q1,q7,e⟩
 ·exact e
 ·have z:=C.sb c t
  rw[e,Cm c q1 q7]at z
  cases c
  ·have z:tb st.s0 t=true:=z
   exact Ex z h.2.1
  ·have z:tb st.s1 t=true:=z
   exact Ex z h.2.2
theorem GQ(C:mM G st)(h:tb (C7 st st.side) j=true):AB st.board j=pc st.side 1/\(j:Int)<G.size:=
 ⟨(GY C st.side (kd:=1) (by decide) (by decide) j).mp h,(Jl ((C.pQ st.side).left st.k1) h).1⟩
def IS(G:mi)(st:St)(o t:Int):Prop:=AB st.board t.toNat=0\/∃w,t - B2 st.side w=o/\tb (Cu G.files (Ww w)) o.toNat=false
theorem LC(C:mM G st){t:Int}(t0:0<=t)(t1:t<G.size)(h:tb (Cy G st st.side) t.toNat=true):pP G st 1 (t - CZ st.side) t/\IS G st (t - CZ st.side) t:=by
 have h:tb (Builtin.bitAnd (EN G (C7 st st.side) st.side) (PF G st)) t.toNat=true:=h
 rw[Bv,gP]at h
 obtain⟨j,ej,hj⟩:=Kf ((C.pQ st.side).left st.k1).1 h.1
 have own:=(GQ C hj).1;have j1:=(GQ C hj).2
 replace ej:=(g9 t0)▸ej
 refine ej▸?_
 have s4:CZ st.side=4\/CZ st.side = -4:=by cases st.side;exact .inl rfl;exact .inr rfl
 exact⟨⟨by decide,by decide,gW j,j1,t0,t1,own,by lia,by lia⟩,.inl (Uh C h.2)⟩
theorem VE(C:mM G st){t:Int}(t0:0<=t)(t1:t<G.size)(h:tb (Mg G (C7 st st.side) st.side w) t.toNat=true):pP G st 1 (t - B2 st.side w) t/\IS G st (t - B2 st.side w) t:=by
 obtain⟨j,ej,hj,hf⟩:=W3 ((C.pQ st.side).left st.k1).1 h
 have own:=(GQ C hj).1;have j1:=(GQ C hj).2
 replace ej:=(g9 t0)▸ej
 have s4:B2 st.side w=5\/B2 st.side w=3\/B2 st.side w = -3\/B2 st.side w = -5:=by cases st.side<;>induction w using Bool.casesOn<;>decide
 refine⟨?_,.inr ⟨w,rfl,?_⟩⟩
 ·refine ej▸?_
  exact⟨by decide,by decide,gW j,j1,t0,t1,own,by lia,by lia⟩
 ·refine ej▸?_;exact hf
theorem Lu(h:v∈Fe o t):∃f,0<=f/\f<4/\v=AI o t f 1:=by
 unfold Fe at h
 simp only[hW,kf,lR]at h
 rcases h with h|h|h|h
 ·exact⟨3,by decide,by decide,h⟩
 ·exact⟨2,by decide,by decide,h⟩
 ·exact⟨1,by decide,by decide,h⟩
 ·exact⟨0,by decide,by decide,h⟩
theorem U5(GS:G.mh)(C:mM G st)(h:v∈CU G st target):∃o t f s:Int,pP G st 1 o t/\IS G st o t/\(f=0/\s=0\/(1:Nat)=1/\s=1/\0<=f/\f<4)/\v=AI o t f s:=by
 have lo:=C.low
 have ul:∀w,v∈Ih G st target w->∃o t f s:Int,pP G st 1 o t/\IS G st o t/\(f=0/\s=0\/(1:Nat)=1/\s=1/\0<=f/\f<4)/\v=AI o t f s:=fun w h=>by
  unfold Ih at h
  obtain⟨t,ht,h⟩:=List.mem_flatMap.mp h
  have hb:Bd G (Am (Mg G (C7 st st.side) st.side w) (Am target (st.si (!st.side)))):=((C.pQ (!st.side)).right target).right _
  have t0:=(hb.sq ht).1;have t1:=(hb.sq ht).2.1;have q:=(hb.sq ht).2.2
  have q:tb (Builtin.bitAnd (Mg G (C7 st st.side) st.side w) (Am target (st.si (!st.side)))) t.toNat=true:=q
  rw[Bv,gP]at q
  obtain⟨T,P⟩:=VE C t0 t1 q.1
  unfold Ew at h
  split at h
  ·obtain⟨f,f0,f1,e⟩:=Lu h
   exact⟨_,t,f,1,T,P,.inr ⟨rfl,rfl,f0,f1⟩,e⟩
  ·exact⟨_,t,0,0,T,P,.inl ⟨rfl,rfl⟩,List.mem_singleton.mp h⟩
 rcases List.mem_append.mp h with h|h
 ·rcases List.mem_append.mp h with h|h
  ·rcases List.mem_append.mp h with h|h
   ·unfold CJ at h
    obtain⟨t,ht,rfl⟩:=List.mem_map.mp h
    have t0:=((((Bd.ones GS lo st.side).left target).left (Dp (BF G st.side))).sq ht).1;have t1:=((((Bd.ones GS lo st.side).left target).left (Dp (BF G st.side))).sq ht).2.1;have q:=((((Bd.ones GS lo st.side).left target).left (Dp (BF G st.side))).sq ht).2.2
    have q:tb (Builtin.bitAnd (Builtin.bitAnd (Cy G st st.side) target) (Dp (BF G st.side))) t.toNat=true:=q
    rw[Bv,Bv,gP,gP]at q
    obtain⟨T,P⟩:=LC C t0 t1 q.1.1
    exact⟨_,t,0,0,T,P,.inl ⟨rfl,rfl⟩,rfl⟩
   ·unfold Ff at h
    obtain⟨t,ht,h⟩:=List.mem_flatMap.mp h
    have t0:=((((Bd.ones GS lo st.side).left target).left (BF G st.side)).sq ht).1;have t1:=((((Bd.ones GS lo st.side).left target).left (BF G st.side)).sq ht).2.1;have q:=((((Bd.ones GS lo st.side).left target).left (BF G st.side)).sq ht).2.2
    have q:tb (Builtin.bitAnd (Builtin.bitAnd (Cy G st st.side) target) (BF G st.side)) t.toNat=true:=q
    rw[Bv,Bv,gP,gP]at q
    obtain⟨T,P⟩:=LC C t0 t1 q.1.1
    obtain⟨f,f0,f1,e⟩:=Lu h
    exact⟨_,t,f,1,T,P,.inr ⟨rfl,rfl,f0,f1⟩,e⟩
  ·exact ul false h
 ·exact ul true h
def TA(G:mi)(st:St)(kd:Nat)(o t:Int):Prop:=(2<=kd/\tb (DC G kd o (A3 st)) t.toNat=true)\/(kd=1/\IS G st o t)
theorem MP(L:IQ G)(GS:G.mh)(hr:∀a b,Bd G (AW G a b))(C:mM G st)(h:v∈LY G st\/v∈oJ G st):∃kd,∃o t f s:Int,pP G st kd o t/\TA G st kd o t/\(f=0/\s=0\/kd=1/\s=1/\0<=f/\f<4)/\v=AI o t f s:=by
 have own:Bd G (EC G st):=(Bd.full GS).left _
 have pw:∀target,v∈CU G st target->∃kd,∃o t f s:Int,pP G st kd o t/\TA G st kd o t/\(f=0/\s=0\/kd=1/\s=1/\0<=f/\f<4)/\v=AI o t f s:=fun target h=>by
  obtain⟨o,t,f,s,T,P,q,e⟩:=U5 GS C h
  exact⟨1,o,t,f,s,T,.inr ⟨rfl,P⟩,q,e⟩
 have pm:∀kd target,2<=kd->kd<7->Bd G target->v∈C8 G st kd target->∃kd,∃o t f s:Int,pP G st kd o t/\TA G st kd o t/\(f=0/\s=0\/kd=1/\s=1/\0<=f/\f<4)/\v=AI o t f s:=fun kd target k2 k7 hb h=>by
  obtain⟨o,t,T,P,e⟩:=SV L GS C k2 k7 hb h
  exact⟨kd,o,t,0,0,T,.inl ⟨k2,P⟩,.inl ⟨rfl,rfl⟩,e⟩
 have kl:∀l:List Nat,(∀kd∈l,2<=kd/\kd<7)->∀target,Bd G target->v∈(l.flatMap fun kd=>C8 G st kd target)->∃kd,∃o t f s:Int,pP G st kd o t/\TA G st kd o t/\(f=0/\s=0\/kd=1/\s=1/\0<=f/\f<4)/\v=AI o t f s:=fun l hl target hb h=>by
  obtain⟨kd,hk,h⟩:=List.mem_flatMap.mp h
  exact pm kd target (hl kd hk).1 (hl kd hk).2 hb h
 rcases h with h|h
 ·unfold LY at h
  rcases List.mem_append.mp h with h|h
  ·exact pw _ h
  ·exact kl _ (by decide) _ own h
 ·unfold oJ at h
  rcases List.mem_append.mp h with h|h
  ·have ht:Bd G (pu G st (Bb G st st.side)):=Bd.pu ((C.pQ (!st.side)).right _) hr
   split at h
   ·rcases List.mem_append.mp h with h|h
    ·exact pw _ h
    ·exact kl _ (by decide) _ ht h
   ·cases h
  ·exact pm 6 _ (by decide) (by decide) own h
theorem Xz(L:IQ G)(GS:G.mh)(C:mM G st){t:Int}(T:pP G st kd o t)(H:TA G st kd o t)(hd:AB st.board t.toNat=pc (!st.side) 6):Bq G st t st.side (A3 st)=true:=by
 have o0:=T.o0;have o1:=T.o1;have t0:=T.t0;have t1:=T.t1;have k1:=T.k1;have k7:=T.k7
 have ho:=P3 o0 o1
 have eo:((o.toNat:Nat):Int)=o:=g9 o0
 have et:((t.toNat:Nat):Int)=t:=g9 t0
 have bs:tb (st.si st.side) o.toNat=true:=by rw[C.sb,T.own,Cm _ k1 k7];exact gG rfl
 have bk:tb (st.kd kd) o.toNat=true:=by rw[C.kb kd k1 k7,T.own,Cl _ k1 k7];exact gG rfl
 have near:∀x y,(tb x o.toNat=true\/tb y o.toNat=true)->tb (bor x (Am y (st.si st.side))) o.toNat=true:=fun x y h=>by
  show tb (Builtin.bitOr x (Builtin.bitAnd y (st.si st.side))) o.toNat=true
  rw[DE,Bv,bs,lz,ik];exact h
 have an:∀{x y:Int},tb x o.toNat=true->tb y o.toNat=true->tb (Am x y) o.toNat=true:=fun{x y} a b=>by
  show tb (Builtin.bitAnd x y) o.toNat=true
  (rewrite[Bv];refine a.symm▸?_;refine b.symm▸?_);rfl
 have vh:∀{x y:Int},tb x o.toNat=true->tb (bor x y) o.toNat=true:=fun{x y} a=>by
  show tb (Builtin.bitOr x y) o.toNat=true
  rw[DE,a];rfl
 have orr:∀{x y:Int},tb y o.toNat=true->tb (bor x y) o.toNat=true:=fun{x y} a=>by
  show tb (Builtin.bitOr x y) o.toNat=true
  rw[DE,a,jz]
 have r:=@OJ G L GS o.toNat t.toNat (A3 st) ho
 have b:=@NW G o.toNat (A3 st) t.toNat L GS ho
 have nr:=@Ou G o.toNat t.toNat L ho
 rcases H with⟨k2,h⟩|⟨rfl,P⟩
 ·have near':=near
  clear T hd k1
  revert h bk
  refine ti k2 k7 (fun bk h=>IX (k:=o.toNat) (near' _ _ (.inr (vh (an (nr.1 h).1 bk))))) (fun bk h=>Nz (b h).1 (vh bk) bs) (fun bk h=>NA (r h).1 (vh bk) bs) (fun bk h=>?_) fun bk h=>IX (k:=o.toNat) (near' _ _ (.inr (orr (an (nr.2 h).1 bk))))
  ·have h:tb (Builtin.bitOr (CX G o (A3 st)) (DL G o (A3 st))) t.toNat=true:=h
   rw[DE,ik]at h
   rcases h with h|h
   ·exact NA (r h).1 (orr bk) bs
   ·exact Nz (b h).1 (orr bk) bs
 ·rcases P with P|⟨w,e,f⟩
  ·rw[P]at hd;exact absurd hd.symm (Eo _ (by decide))
  ·have q:=CN (CN (L.qt st.side w) (P3 t0 t1)) ho
   rw[et,eo,gG e,f]at q
   exact IX (k:=o.toNat) (near _ _ (.inl (an (an q bk) bs)))
end
section
variable{G:mi}{st:St}{m:Nat}
theorem OH(L:IQ G)(GC:Cj G m)(C:mM G st)(K:EQ G st st.side x):HN G st:=by
 have q:=GJ GC.S C K
 have mv:∀v,v∈LY G st\/v∈oJ G st->B0 G v:=fun v h=>by
  obtain⟨kd,o,t,f,s,T,_,hs,e⟩:=MP L GC.S GC.hr C h
  rw[e];exact(T.mv GC.S C hs).1.M
 exact⟨C,by rw[q];exact K.x0,by rw[q];exact K.x1,fun v h=>mv v (.inl h),fun v h=>mv v (.inr h)⟩
noncomputable def U9(G:mi)(m:Nat)(st:St)(v:Int):List Nat:=JX G (Il m st (ow st v).toNat (OY st (mo v)) v)
theorem Ls(h:v∈Ay G st):v∈LY G st\/v∈oJ G st:=by
 have h:=(List.mem_filter.mp h).1
 unfold Cq at h
 split at h
 ·exact .inr h
 ·exact .inl h
theorem OK(c:Bool):c≠!c:=by cases c<;>exact fun h=>(by cases h)
theorem Xu(L:IQ G)(GC:Cj G m)(P:Pos G st):Es G m st (U9 G m st):=by
 obtain⟨x,K⟩:=P.o6 st.side
 obtain⟨y,Ky⟩:=P.o6 (!st.side)
 refine⟨OH L GC P.C K,by refine P.hist.symm▸?_;decide,fun v hv=>?_⟩
 obtain⟨kd,o,t,f,s,T,H,hs,e⟩:=MP L GC.S GC.hr P.C (Ls hv)
 have V:=(T.mv GC.S P.C hs).1;have ef:=(T.mv GC.S P.C hs).2.1;have et:=(T.mv GC.S P.C hs).2.2
 (replace V:=(e).symm▸V;replace ef:=(e).symm▸ef;replace et:=(e).symm▸et)
 have kk:(ow st v).toNat=kd:=by refine V.ow.symm▸?_;rfl
 refine⟨kd,OY st t,V,?_,by unfold U9;(refine kk.symm▸?_;refine et.symm▸?_;rfl)⟩
 have A:=after (m:=m) P.C V
 have safe:AB st.board t.toNat≠pc (!st.side) 6:=fun z=>by
  have a:=Xz L GC.S P.C T H z
  have e:=(Ky.it t.toNat).mp z
  have n:=P.safe
  unfold Bo at n
  (replace n:=(GJ GC.S P.C Ky)▸n;rw[kR]at n)
  (rw[show y=t by have:=T.t0;lia]at n;replace n:=a▸n)
  exact FT n
 have gl:=MA V
 have Ks:EQ G (Il m st kd (OY st t) v) (Il m st kd (OY st t) v).side y:=by
  refine A.side.symm▸?_
  refine⟨Ky.x0,Ky.x1,fun k=>?_⟩
  (rewrite[A.at_];refine et.symm▸?_;refine ef.symm▸?_)
  have it:=Ky.it k
  split
  ·rename_i z
   constructor
   ·intro w
    exact absurd (M5 w gl.2 (by decide)).1 (OK st.side)
   ·intro w
    have:=it.mpr w
    replace this:=(z).symm▸this
    exact absurd this safe
  ·split
   ·rename_i z
    constructor
    ·intro w;exact absurd w.symm (Eo _ (by decide))
    ·intro w
     have:=it.mpr w
     (replace this:=(z).symm▸this;rw[T.own]at this)
     exact absurd (M5 this T.k7 (by decide)).1 (OK st.side)
   ·exact it
 exact OH L GC A.C Ks
theorem bC(v:Int):(U9 G m st v).length<=1:=U4 G _
end
theorem Q5{α:Type}(l:List α)(b:Nat):cut l 0 b=l.take b:=rfl
theorem Mn{α:Type}(l:List α)(a:Nat):cut l a l.length=l.drop a:=by unfold cut;rw[List.take_length]
theorem Ni(t:List Nat):A8 t++AF t=t:=by unfold A8 AF;rw[Q5,Mn,jI]
theorem cY(t:List Nat):BV t++Cg t=t:=by unfold BV Cg;rw[Q5,Mn,jI]
theorem cZ(t:List Nat):CR t++GX t=t:=by unfold CR GX;rw[Q5,Mn,jI]
theorem Lr(r:List Nat)(a b:Nat):Cg (r++[a,b])=[a,b]/\BV (r++[a,b])=r:=by
 unfold Cg BV
 have e:(-2+((r++[a,b]).length:Int)).toNat=r.length:=by rw[gF];show(-2+((r.length+2:Nat):Int)).toNat=_;lia
 rw[e,Q5,Mn,List.drop_left,List.take_left]
 exact⟨rfl,rfl⟩
theorem Ll:∀{i k:Int},0<=i->AE c l i=k->0<=k->l[(k - i).toNat]?=some c:=by
 induction l with
 |nil=>exact fun _ h h0=>absurd ((show(-1:Int)=_ from h).symm▸h0:(0:Int)<= -1) (by decide)
 |cons x l ih=>
  intro i k hi h h0
  by_cases e:x=c
  ·obtain rfl:i=k:=(iP e).symm.trans h
   rw[lK,e];rfl
  ·have h:AE c l (i+1)=k:=(iO e).symm.trans h
   have z:=ih (Int.le_add_one hi) h h0
   have g:=E8 c l (i+1) (Int.le_add_one hi)
   rw[show(k - i).toNat=(k - (i+1)).toNat+1 by clear ih z e;lia]
   exact z
theorem Rt{f:Int}(h:AE a ou 0=f)(h0:0<=f):a=97+f.toNat/\f<8:=by
 have z:=Ll (iE 0) h h0
 have g:=E8 a ou 0 (iE 0)
 (rw[show ou.length=8 from rfl]at g;replace g:=h▸g)
 rcases(by lia:f=0\/f=1\/f=2\/f=3\/f=4\/f=5\/f=6\/f=7)with e|e|e|e|e|e|e|e<;>subst e<;>exact⟨(Option.some.inj z).symm,by decide⟩
theorem Fx{f:Int}(h:AE a oi 0=f)(h0:0<=f):a=49+f.toNat/\f<8:=by
 have z:=Ll (iE 0) h h0
 have g:=E8 a oi 0 (iE 0)
 (rw[show oi.length=8 from rfl]at g;replace g:=h▸g)
 rcases(by lia:f=0\/f=1\/f=2\/f=3\/f=4\/f=5\/f=6\/f=7)with e|e|e|e|e|e|e|e<;>subst e<;>exact⟨(Option.some.inj z).symm,by decide⟩
theorem UW(h:j<8):AE (97+j) ou 0=j:=by
 rcases(by lia:j=0\/j=1\/j=2\/j=3\/j=4\/j=5\/j=6\/j=7)with e|e|e|e|e|e|e|e<;>subst e<;>rfl
theorem Mo(h:j<8):AE (49+j) oi 0=j:=by
 rcases(by lia:j=0\/j=1\/j=2\/j=3\/j=4\/j=5\/j=6\/j=7)with e|e|e|e|e|e|e|e<;>subst e<;>rfl
theorem Os:∀n:Nat,n<20->0<=(n:Int).fmod 4/\(n:Int).fmod 4<4/\0<=(n:Int).fdiv 4/\(n:Int).fdiv 4<5/\(n:Int)=(n:Int).fdiv 4*4+(n:Int).fmod 4:=by decide +kernel
theorem Bp{s:Int}(h0:0<=s)(h1:s<20):0<=s.fmod 4/\s.fmod 4<4/\0<=s.fdiv 4/\s.fdiv 4<5/\s=s.fdiv 4*4+s.fmod 4:=by
 obtain⟨n,rfl⟩:=gJ h0
 exact Os n (Int.ofNat_lt.mp h1)
theorem J4{f r:Int}(f0:0<=f)(f1:f<4)(r0:0<=r):(r*4+f).fmod 4=f/\(r*4+f).fdiv 4=r:=by
 rw[lr _ (by decide)]
 lia
theorem HE(h0:0<=s)(h1:s<4*R)(hR:R<=5):BJ R (m9 s)=s:=by
 have a:=(Bp h0 (by lia)).1;have b:=(Bp h0 (by lia)).2.1;have c:=(Bp h0 (by lia)).2.2.1;have d:=(Bp h0 (by lia)).2.2.2.1;have e:=(Bp h0 (by lia)).2.2.2.2
 show Nj R (AE (97+(s.fmod 4).toNat) ou 0) (AE (49+(s.fdiv 4).toNat) oi 0)=s
 (rewrite[UW (by lia)];rewrite[Mo (by lia)];rewrite[g9 a];refine(g9 c).symm▸?_)
 unfold Nj
 (rewrite[iO];refine e▸?_;rfl)
 rintro(z|z|z|z)<;>lia
theorem Ep(h:BJ R u=s)(h0:0<=s):u=m9 s/\s<4*R:=by
 match u,h with
 |[a,b],h=>
  have h:Nj R (AE a ou 0) (AE b oi 0)=s:=h
  unfold Nj at h
  split at h
  ·lia
  ·rename_i z
   have f0:0<=AE a ou 0:=by rcases jV (AE a ou 0) 0 with c|c;exact absurd (.inl c) z;exact c
   have f1:AE a ou 0<4:=by rcases jV (AE a ou 0) 4 with c|c;exact c;exact absurd (.inr (.inl c)) z
   have r0:0<=AE b oi 0:=by rcases jV (AE b oi 0) 0 with c|c;exact absurd (.inr (.inr (.inl c))) z;exact c
   have r1:AE b oi 0<R:=by rcases jV (AE b oi 0) R with c|c;exact c;exact absurd (.inr (.inr (.inr c))) z
   have ea:=(Rt rfl f0).1
   have eb:=(Fx rfl r0).1
   revert h ea eb f0 f1 r0 r1
   generalize AE a ou 0=f
   generalize AE b oi 0=r
   intro h f0 f1 r0 r1 ea eb
   obtain⟨m1,m2⟩:=J4 f0 f1 r0
   rw[h]at m1 m2
   refine⟨?_,by lia⟩
   unfold m9
   rw[m1,m2,ea,eb]
 |[],h=>exact absurd h (by show ¬(-1:Int)=s;exact km (cw h0))
 |[_],h=>exact absurd h (by show ¬(-1:Int)=s;exact km (cw h0))
 |_ :: _ :: _ :: _,h=>exact absurd h (by show ¬(-1:Int)=s;exact km (cw h0))
theorem Hm(h:Ik o g p=some q):0<=o/\0<=g/\q=(o,g,p):=by
 unfold Ik at h
 split at h
 ·exact Ao h
 ·rename_i z
  obtain rfl:=Option.some.inj h
  exact⟨by rcases jV o 0 with c|c;exact absurd (.inl c) z;exact c,by rcases jV g 0 with c|c;exact absurd (.inr c) z;exact c,rfl⟩
structure Sq(R:Int)(v:Int):Prop where
 R5:R<=5
 f0:0<=Ah v
 f1:Ah v<4*R
 t0:0<=mo v
 t1:mo v<4*R
 pr:Af v=0\/∃p:Nat,2<=p/\p<6/\Af v=p
theorem Sq.pA(Q:Sq R v):Ah v<20:=by have:=Q.R5;have:=Q.f1;lia
theorem Sq.oG(Q:Sq R v):mo v<20:=by have:=Q.R5;have:=Q.t1;lia
theorem ci(h2:2<=p)(h6:p<6):pH (m8 p+32)=p:=by
 rcases(by lia:p=2\/p=3\/p=4\/p=5)with e|e|e|e<;>subst e<;>rfl
theorem Yy{e:Nat}(h:pH e≠0):∃p:Nat,2<=p/\p<6/\pH e=p/\e=m8 p+32:=by
 unfold pH at h ⊢
 split
 ·rename_i z;exact⟨2,by decide,by decide,rfl,z⟩
 ·split
  ·rename_i z;exact⟨3,by decide,by decide,rfl,z⟩
  ·split
   ·rename_i z;exact⟨4,by decide,by decide,rfl,z⟩
   ·split
    ·rename_i z;exact⟨5,by decide,by decide,rfl,z⟩
    ·rename_i a b c d
     rw[iO a,iO b,iO c,iO d]at h
     exact absurd rfl h
theorem Rl:Dv q v=true↔q=(Ah v,mo v,Af v):=by
 unfold Dv
 rw[gP,gP,iC,iC,iC]
 constructor
 ·rintro⟨a,b,c⟩
  exact Prod.ext a.symm (Prod.ext b.symm c.symm)
 ·intro e;refine e.symm▸?_;exact⟨rfl,rfl,rfl⟩
theorem O1(Q:Sq R v):wF v=t↔KY R t=some (Ah v,mo v,Af v):=by
 have rf:=HE Q.f0 Q.f1 Q.R5
 have rt:=HE Q.t0 Q.t1 Q.R5
 have ok:∀p,Ik (Ah v) (mo v) p=some (Ah v,mo v,p):=fun p=>T7 (by have:=Q.f0;lia) (by have:=Q.t0;lia)
 constructor
 ·intro e
  subst e
  unfold wF EO
  rcases FF Q.pr with e|⟨p,p1,p7,p2,p6,e,z,kl,c1,c2⟩
  ·refine e.symm▸?_
   show Ik (BJ R (m9 (Ah v))) (BJ R (m9 (mo v))) 0=_
   (refine rf.symm▸?_;refine rt.symm▸?_;rewrite[ok];rfl)
  ·(refine e.symm▸?_;rewrite[z])
   show(if pH (m8 p+32)=0 then none else Ik (BJ R (m9 (Ah v))) (BJ R (m9 (mo v))) (pH (m8 p+32)))=_
   (refine(ci p2 p6).symm▸?_;rewrite[iO (by exact iJ (Na (Int.ofNat_le.mpr p2)))];rewrite[rf];rewrite[rt];rewrite[ok];rfl)
 ·intro h
  revert h
  refine Rs t (fun a b c d h=>?_) (fun a b c d e h=>?_) fun t s4 s5 h=>?_
  ·have h1:=(Hm h).1;have h2:=(Hm h).2.1;have h3:=(Hm h).2.2
   have e1:=(Prod.mk.inj h3).1;have h3:=(Prod.mk.inj h3).2
   have e2:=(Prod.mk.inj h3).1;have e3:=(Prod.mk.inj h3).2
   have n1:=(Ep e1.symm Q.f0).1
   have n2:=(Ep e2.symm Q.t0).1
   show m9 (Ah v)++m9 (mo v)++(match Af v==0 with|true=>[]|false=>[m8 (Af v).toNat+32])=_
   (refine e3.symm▸?_;refine n1▸?_;refine n2▸?_);rfl
  ·have h:(if pH e=0 then none else Ik (BJ R [a,b]) (BJ R [c,d]) (pH e))=some (Ah v,mo v,Af v):=h
   split at h
   ·exact Ao h
   ·rename_i z
    obtain⟨p,p2,p6,ep,ee⟩:=Yy z
    have h1:=(Hm h).1;have h2:=(Hm h).2.1;have h3:=(Hm h).2.2
    have e1:=(Prod.mk.inj h3).1;have h3:=(Prod.mk.inj h3).2
    have e2:=(Prod.mk.inj h3).1;have e3:=(Prod.mk.inj h3).2
    have n1:=(Ep e1.symm Q.f0).1
    have n2:=(Ep e2.symm Q.t0).1
    replace e3:=ep▸e3
    show m9 (Ah v)++m9 (mo v)++(match Af v==0 with|true=>[]|false=>[m8 (Af v).toNat+32])=_
    (refine e3.symm▸?_;refine n1▸?_;refine n2▸?_;refine(show((p:Int)==0)=false by rw[gX];exact iJ (Na (Int.ofNat_le.mpr p2))).symm▸?_;refine ee.symm▸?_);rfl
  ·exact AM (LH s4 s5) h
theorem JE{s:Int}(h0:0<=s)(h1:s<20):o8 s=[49+(s.fmod 4).toNat,49+(s.fdiv 4).toNat]:=by
 unfold o8
 have q:∀j:Nat,j<4->48+(AE (97+j) [97,98,99,100] 0+1).toNat=49+j:=fun j hj=>by
  rcases(by lia:j=0\/j=1\/j=2\/j=3)with e|e|e|e<;>subst e<;>rfl
 rw[q _ (by lia)]
theorem ZL(h:0<=a/\a<4/\0<=b/\b<R)(k:0<=c/\c<4/\0<=d/\d<R):Im R a b c d p=some (b*4+a,d*4+c,p):=by
 unfold Im JM
 (refine(gG h.1).symm▸?_;refine(gG h.2.1).symm▸?_;refine(gG h.2.2.1).symm▸?_;refine(gG h.2.2.2).symm▸?_;refine(gG k.1).symm▸?_;refine(gG k.2.1).symm▸?_;refine(gG k.2.2.1).symm▸?_;refine(gG k.2.2.2).symm▸?_);rfl
theorem Hp(h:Im R a b c d p=some q):(0<=a/\a<4/\0<=b/\b<R)/\(0<=c/\c<4/\0<=d/\d<R)/\q=(b*4+a,d*4+c,p):=by
 unfold Im JM at h
 split at h
 ·rename_i z
  simp only[gP,hV]at z
  obtain rfl:=Option.some.inj h
  exact⟨⟨z.1.1,z.1.2.1,z.1.2.2.1,z.1.2.2.2⟩,⟨z.2.1,z.2.2.1,z.2.2.2.1,z.2.2.2.2⟩,rfl⟩
 ·exact Ao h
theorem aO(h2:2<=p)(h6:p<6):∃e,pR p=[e]/\(0<=fd e/\fd e<4)/\5 - fd e=p:=by
 rcases(by lia:p=2\/p=3\/p=4\/p=5)with e|e|e|e<;>subst e
 ·exact⟨52,rfl,by decide,rfl⟩
 ·exact⟨51,rfl,by decide,rfl⟩
 ·exact⟨50,rfl,by decide,rfl⟩
 ·exact⟨49,rfl,by decide,rfl⟩
theorem Xg{e:Nat}(h0:0<=fd e)(h1:fd e<4):∃p:Nat,2<=p/\p<6/\5 - fd e=p/\pR p=[e]:=by
 have z:=(Fx (a:=e) rfl h0).1
 have z:e=49+(fd e).toNat:=z
 rcases(by lia:fd e=0\/fd e=1\/fd e=2\/fd e=3)with q|q|q|q<;>rw[q]at z ⊢<;>subst z
 ·exact⟨5,by decide,by decide,rfl,rfl⟩
 ·exact⟨4,by decide,by decide,rfl,rfl⟩
 ·exact⟨3,by decide,by decide,rfl,rfl⟩
 ·exact⟨2,by decide,by decide,rfl,rfl⟩
theorem DN{s:Int}(h0:0<=s)(h1:s<4*R)(hR:R<=5):fd (49+(s.fmod 4).toNat)=s.fmod 4/\fd (49+(s.fdiv 4).toNat)=s.fdiv 4/\(0<=s.fmod 4/\s.fmod 4<4/\0<=s.fdiv 4/\s.fdiv 4<R)/\s.fdiv 4*4+s.fmod 4=s:=by
 have a:=(Bp h0 (by lia)).1;have b:=(Bp h0 (by lia)).2.1;have c:=(Bp h0 (by lia)).2.2.1;have d:=(Bp h0 (by lia)).2.2.2.1;have e:=(Bp h0 (by lia)).2.2.2.2
 refine⟨?_,?_,⟨a,b,c,by lia⟩,e.symm⟩
 ·show AE _ oi 0=_;(rewrite[Mo (by lia)];refine(g9 a).symm▸?_;rfl)
 ·show AE _ oi 0=_;(rewrite[Mo (by lia)];refine(g9 c).symm▸?_;rfl)
theorem GB(h:0<=fd a/\fd a<4/\0<=fd b/\fd b<R)(hR:R<=5)(e:s=fd b*4+fd a):o8 s=[a,b]:=by
 obtain⟨m1,m2⟩:=J4 h.1 h.2.1 h.2.2.1
 rw[<- e]at m1 m2
 have ea:a=49+(fd a).toNat:=(Fx (a:=a) rfl h.1).1
 have eb:b=49+(fd b).toNat:=(Fx (a:=b) rfl h.2.2.1).1
 rw[JE (by lia) (by lia),m1,m2,<- ea,<- eb]
theorem Q7(Q:Sq R v):oV v=t↔KZ R t=some (Ah v,mo v,Af v):=by
 have f1:=(DN Q.f0 Q.f1 Q.R5).1;have f2:=(DN Q.f0 Q.f1 Q.R5).2.1;have f3:=(DN Q.f0 Q.f1 Q.R5).2.2.1;have f4:=(DN Q.f0 Q.f1 Q.R5).2.2.2
 have t1:=(DN Q.t0 Q.t1 Q.R5).1;have t2:=(DN Q.t0 Q.t1 Q.R5).2.1;have t3:=(DN Q.t0 Q.t1 Q.R5).2.2.1;have t4:=(DN Q.t0 Q.t1 Q.R5).2.2.2
 have R5:=Q.R5
 constructor
 ·intro e
  subst e
  unfold oV PC
  (refine(JE Q.f0 Q.pA).symm▸?_;refine(JE Q.t0 Q.oG).symm▸?_)
  rcases FF Q.pr with e|⟨p,p1,p7,p2,p6,e,z,kl,c1,c2⟩
  ·refine e.symm▸?_
   show Im R (fd (49+((Ah v).fmod 4).toNat)) (fd (49+((Ah v).fdiv 4).toNat)) (fd (49+((mo v).fmod 4).toNat)) (fd (49+((mo v).fdiv 4).toNat)) 0=_
   (refine f1.symm▸?_;refine f2.symm▸?_;refine t1.symm▸?_;refine t2.symm▸?_;rewrite[ZL f3 t3];refine f4.symm▸?_;refine t4.symm▸?_;rfl)
  ·obtain⟨d,ed,hd,ep⟩:=aO p2 p6
   (refine e.symm▸?_;refine z.symm▸?_)
   refine ed.symm▸?_
   show(match decide (0<=fd d)&&decide (fd d<4)with|true=>Im R (fd (49+((Ah v).fmod 4).toNat)) (fd (49+((Ah v).fdiv 4).toNat)) (fd (49+((mo v).fmod 4).toNat)) (fd (49+((mo v).fdiv 4).toNat)) (5 - fd d)|false=>none)=_
   (refine(gG hd.1).symm▸?_;refine(gG hd.2).symm▸?_;refine f1.symm▸?_;refine f2.symm▸?_;refine t1.symm▸?_;refine t2.symm▸?_;refine ep.symm▸?_)
   (rewrite[ZL f3 t3];refine f4.symm▸?_;refine t4.symm▸?_;rfl)
 ·intro h
  revert h
  refine Rs t (fun a b c d h=>?_) (fun a b c d e h=>?_) fun t s4 s5 h=>?_
  ·have h1:=(Hp h).1;have h2:=(Hp h).2.1;have h3:=(Hp h).2.2
   have e1:=(Prod.mk.inj h3).1;have h3:=(Prod.mk.inj h3).2
   have e2:=(Prod.mk.inj h3).1;have e3:=(Prod.mk.inj h3).2
   show o8 (Ah v)++o8 (mo v)++(match Af v==0 with|true=>[]|false=>pR (Af v).toNat)=_
   (refine e3.symm▸?_;refine(GB h1 R5 e1).symm▸?_;refine(GB h2 R5 e2).symm▸?_);rfl
  ·have h:(match decide (0<=fd e)&&decide (fd e<4)with|true=>Im R (fd a) (fd b) (fd c) (fd d) (5 - fd e)|false=>none)=some (Ah v,mo v,Af v):=h
   split at h
   ·rename_i z
    simp only[gP,hV]at z
    obtain⟨p,p2,p6,ep,ee⟩:=Xg z.1 z.2
    have h1:=(Hp h).1;have h2:=(Hp h).2.1;have h3:=(Hp h).2.2
    have e1:=(Prod.mk.inj h3).1;have h3:=(Prod.mk.inj h3).2
    have e2:=(Prod.mk.inj h3).1;have e3:=(Prod.mk.inj h3).2
    replace e3:=ep▸e3
    show o8 (Ah v)++o8 (mo v)++(match Af v==0 with|true=>[]|false=>pR (Af v).toNat)=_
    (refine e3.symm▸?_;refine(GB h1 R5 e1).symm▸?_;refine(GB h2 R5 e2).symm▸?_;refine(show((p:Int)==0)=false by rw[gX];exact iJ (Na (Int.ofNat_le.mpr p2))).symm▸?_)
    refine ee.symm▸?_;rfl
   ·exact Ao h
  ·exact AM (LI s4 s5) h
noncomputable def fl(f:Int):List Nat:=if f<0 then[] else[97+f.toNat]
noncomputable def rl(r:Int):List Nat:=if r<0 then[] else[49+r.toNat]
def qa(f:Int):Prop:=f = -1\/0<=f/\f<8
theorem XR(h:j<8):decide (97+j∈ou)=true:=by
 rcases(by lia:j=0\/j=1\/j=2\/j=3\/j=4\/j=5\/j=6\/j=7)with e|e|e|e|e|e|e|e<;>subst e<;>decide
theorem Q8(h:j<8):decide (49+j∈oi)=true/\decide (49+j∈ou)=false:=by
 rcases(by lia:j=0\/j=1\/j=2\/j=3\/j=4\/j=5\/j=6\/j=7)with e|e|e|e|e|e|e|e<;>subst e<;>decide
theorem JI:∀{l:List Nat} {i:Int},c∈l->0<=i->0<=AE c l i
 |x :: l,i,h,h0=>by
  unfold AE
  split
  ·exact h0
  ·rename_i e
   rcases List.mem_cons.mp h with z|z
   ·exact absurd z.symm e
   ·exact JI z (by exact OB h0)
theorem VW(f:Int)(h:qa r):E6 f (rl r)=some (f,r):=by
 unfold rl
 rcases h with e|⟨r0,r8⟩
 ·subst e;rfl
 ·rw[iO (by exact Int.not_lt.mpr (OA r0)),Mm (Q8 (by lia)).1]
  show some (f,AE (49+r.toNat) oi 0)=_
  rw[Mo (by lia),g9 r0]
theorem W8(hf:qa f)(hr:qa r):E5 (fl f++rl r)=some (f,r):=by
 unfold fl
 rcases hf with e|⟨f0,f8⟩
 ·subst e
  show E5 (rl r)=_
  rcases hr with e|⟨r0,r8⟩
  ·subst e;rfl
  ·have z:=VW (-1) (.inr ⟨r0,r8⟩:qa r)
   unfold rl at z ⊢
   rw[iO (by exact Int.not_lt.mpr (OA r0))]at z ⊢
   rw[Py (Q8 (by lia)).2]
   exact z
 ·rw[iO (by exact Int.not_lt.mpr (OA f0))]
  show E5 ((97+f.toNat) :: rl r)=_
  rw[Pz (XR (by lia)),UW (by lia),g9 f0]
  exact VW f hr
theorem Li(h:E6 f o=some (a,b)):a=f/\o=rl b/\qa b:=by
 match o,h with
 |[],h=>cases Option.some.inj h;exact⟨rfl,rfl,.inl rfl⟩
 |c :: r,h=>
  cases e:decide (c∈oi) with
  |false=>exact AM (Q4 e) h
  |true=>
   replace h:=(Mm e)▸h
   match r,h with
   |[],h=>
    have h:=Option.some.inj h
    have h1:=(Prod.mk.inj h).1;have h2:=(Prod.mk.inj h).2
    have p:=JI (gO e) (iE 0)
    have q1:=(Fx h2 (by exact YJ (iK h2) p)).1;have q2:=(Fx h2 (by exact YJ (iK h2) p)).2
    refine⟨h1.symm,?_,.inr ⟨by exact YJ (iK h2) p,q2⟩⟩
    unfold rl
    (rewrite[iO (by exact Int.not_lt.mpr (YJ (iK h2) p))];refine q1.symm▸?_;rfl)
   |_ :: _,h=>exact Ao h
theorem Ds(h:E5 o=some (a,b)):o=fl a++rl b/\qa a/\qa b:=by
 match o,h with
 |[],h=>cases h;exact⟨rfl,.inl rfl,.inl rfl⟩
 |c :: r,h=>
  cases e:decide (c∈ou) with
  |false=>
   rw[Py e]at h
   obtain⟨h1,h2,h3⟩:=Li h
   subst h1
   exact⟨h2,.inl rfl,h3⟩
  |true=>
   rw[Pz e]at h
   obtain⟨h1,h2,h3⟩:=Li h
   have p:=JI (gO e) (iE 0)
   obtain⟨q1,q2⟩:=Rt h1.symm (by exact cx (iK h1.symm) p)
   refine⟨?_,.inr ⟨by exact cx (iK h1.symm) p,q2⟩,h3⟩
   rw[<- h2]
   unfold fl
   rw[iO (by exact Int.not_lt.mpr (cx (iK h1.symm) p)),q1];rfl
theorem XE:(∀kd∈l,2<=kd/\kd<7)->qS x s l≠0->∃kd:Nat,2<=kd/\kd<7/\qS x s l=kd/\x=[m8 kd]/\m8 kd∈s:=by
 induction l with
 |nil=>exact fun _ h=>absurd rfl h
 |cons kd l ih=>
  intro hl h
  have pZ:=fun q=>ih (fun z hz=>hl z (.tail _ hz)) q
  unfold qS at h ⊢
  cases e:[m8 kd]==x with
  |true=>
   rw[e]at h
   cases e2:decide (m8 kd∈s) with
   |true=>exact⟨kd,(hl kd (.head _)).1,(hl kd (.head _)).2,rfl,(gU e).symm,gO e2⟩
   |false=>rw[e2]at h;exact pZ h
  |false=>rw[e]at h;exact pZ h
theorem MI(h:nP x s≠0):∃kd:Nat,2<=kd/\kd<7/\nP x s=kd/\x=[m8 kd]/\m8 kd∈s:=XE (by decide) h
theorem eD(h2:2<=kd)(h7:kd<7):nP [m8 kd] pO=kd:=by
 rcases(by lia:kd=2\/kd=3\/kd=4\/kd=5\/kd=6)with e|e|e|e|e<;>subst e<;>rfl
theorem ZO(h2:2<=kd)(h6:kd<6):nP [m8 kd] pq=kd:=by
 rcases(by lia:kd=2\/kd=3\/kd=4\/kd=5)with e|e|e|e<;>subst e<;>rfl
theorem MM(h2:2<=kd)(h7:kd<7):66<=m8 kd/\m8 kd<=82:=by
 rcases(by lia:kd=2\/kd=3\/kd=4\/kd=5\/kd=6)with e|e|e|e|e<;>subst e<;>decide
theorem MJ(s:List Nat)(h:c<66\/82<c):nP [c] s=0:=by
 by_cases z:nP [c] s=0
 ·exact z
 ·obtain⟨kd,k2,k7,_,e,_⟩:=MI z
  have:=MM k2 k7
  lia
noncomputable def mid(a:Ask)(o:List Nat):List Nat:=o++BD a.x []++m9 a.g
structure Nx(R:Int)(a:Ask)(o:List Nat):Prop where
 cut:E5 o=some (a.f,a.r)
 g0:0<=a.g
 g1:a.g<4*R
 ok:((a.k==1)&&(a.x&&decide (a.f<0)))=false
theorem Rx(o:List Nat)(s:Int):Cg (o++m9 s)=m9 s/\BV (o++m9 s)=o:=Lr o _ _
theorem bi(h:E5 o=some (f,r)):(AF o==[120])=false:=by
 obtain⟨e,hf,hr⟩:=Ds h
 rw[gX]
 intro z
 have s:=Ni o
 rw[z]at s
 unfold fl rl at e
 have q:∀c:Nat,[c]=[120]->c=120:=fun c h=>(List.cons.inj h).1
 rcases hr with hr|hr
 ·rw[iP (show r<0 by exact cy (iK hr)),gK]at e
  split at e
  ·subst e;cases z
  ·subst e
   have:=(Br [] (97+f.toNat)).1
   rw[jP]at this
   rw[this]at z
   have:=q _ z
   rcases hf with hf|hf<;>lia
 ·rw[iO (show ¬r<0 by exact Int.not_lt.mpr (OA hr.1))]at e
  subst e
  rw[(Br _ (49+r.toNat)).1]at z
  have:=q _ z
  lia
theorem cX{a:Ask}(hR:R<=5)(M:Nx R a o):oP R a.k a.p (mid a o)=some a:=by
 have n1:=(Rx (o++BD a.x []) a.g).1;have n2:=(Rx (o++BD a.x []) a.g).2
 have rg:=HE M.g0 M.g1 hR
 unfold oP mid
 (refine n1.symm▸?_;refine n2.symm▸?_;refine rg.symm▸?_;refine(gZ (show ¬a.g<0 by have:=M.g0;lia)).symm▸?_)
 have fin:rW a.k a.p a.g a.x (some (a.f,a.r))=some a:=by
  show(match(a.k==1)&&(a.x&&decide (a.f<0))with|true=>none|false=>some _)=_
  (refine M.ok.symm▸?_;rfl)
 cases ex:a.x with
 |true=>
  replace fin:=ex▸fin
  have l1:=(Br o 120).1;have l2:=(Br o 120).2
  show(match AF (o++[120])==[120]with|true=>rW a.k a.p a.g true (E5 (A8 (o++[120])))|false=>_)=_
  (refine l1.symm▸?_;refine l2.symm▸?_;refine M.cut.symm▸?_)
  exact fin
 |false=>
  replace fin:=ex▸fin
  show(match AF (o++[])==[120]with|true=>_|false=>rW a.k a.p a.g false (E5 (o++[])))=_
  (rewrite[gK];refine(bi M.cut).symm▸?_;refine M.cut.symm▸?_)
  exact fin
theorem B3{a:Ask}(h:rW k p g x q=some a):q=some (a.f,a.r)/\a.k=k/\a.p=p/\a.g=g/\a.x=x/\((a.k==1)&&(a.x&&decide (a.f<0)))=false:=by
 induction q with
 |none=>exact Ao h
 |some q=>
  have h:(match(k==1)&&(x&&decide (q.1<0))with|true=>none|false=>some (⟨k,q.1,q.2,x,g,p⟩:Ask))=some a:=h
  split at h
  ·exact Ao h
  ·rename_i z
   obtain rfl:=Option.some.inj h
   exact⟨rfl,rfl,rfl,rfl,rfl,z⟩
theorem IL{a:Ask}(h:oP R k p b=some a):a.k=k/\a.p=p/\∃o,b=mid a o/\Nx R a o:=by
 unfold oP at h
 split at h
 ·exact Ao h
 ·rename_i z
  have g0:0<=BJ R (Cg b):=by have:=iv z;lia
  have n1:=(Ep rfl g0).1;have n2:=(Ep rfl g0).2
  have s2:=cY b
  split at h
  ·rename_i e
   have c1:=(B3 h).1;have c2:=(B3 h).2.1;have c3:=(B3 h).2.2.1;have c4:=(B3 h).2.2.2.1;have c5:=(B3 h).2.2.2.2.1;have c6:=(B3 h).2.2.2.2.2
   have s1:=Ni (BV b)
   replace s1:=(gU e)▸s1
   refine⟨c2,c3,A8 (BV b),?_,⟨c1,by refine c4.symm▸?_;exact g0,by refine c4.symm▸?_;exact n2,c6⟩⟩
   unfold mid
   (rewrite[c4];rewrite[c5];refine n1▸?_)
   show _=A8 (BV b)++[120]++Cg b
   (refine s1.symm▸?_;refine s2.symm▸?_;rfl)
  ·have c1:=(B3 h).1;have c2:=(B3 h).2.1;have c3:=(B3 h).2.2.1;have c4:=(B3 h).2.2.2.1;have c5:=(B3 h).2.2.2.2.1;have c6:=(B3 h).2.2.2.2.2
   refine⟨c2,c3,BV b,?_,⟨c1,by refine c4.symm▸?_;exact g0,by refine c4.symm▸?_;exact n2,c6⟩⟩
   unfold mid
   (refine c4.symm▸?_;refine c5.symm▸?_;refine n1▸?_)
   show _=BV b++[]++Cg b
   (rewrite[gK];refine s2.symm▸?_;rfl)
theorem Ho(c:Nat)(r:List Nat):CR (c :: r)=[c]:=by
 unfold CR
 rw[gY,show min 1 (r.length+1)=1 by lia];rfl
structure Tw(R:Int)(a:Ask)(kd:Nat)(o e:List Nat):Prop where
 M:Nx R a o
 k:a.k=kd
 k1:1<=kd
 k7:kd<7
 e:2<=kd/\e=[]/\a.p=0\/kd=1/\e∈Cf a.p/\(a.p=0\/∃p:Nat,2<=p/\p<6/\a.p=p)
theorem U7{R:Int}{a:Ask}{o:List Nat}(M:Nx R a o):∃c r,mid a o=c :: r/\(c<66\/82<c):=by
 have e:=(Ds M.cut).1;have hf:=(Ds M.cut).2.1;have hr:=(Ds M.cut).2.2
 unfold mid
 refine e.symm▸?_
 unfold fl rl
 rcases hf with hf|hf
 ·refine(iP (show a.f<0 by exact cy (iK hf))).symm▸?_
  rcases hr with hr|hr
  ·refine(iP (show a.r<0 by exact cy (iK hr))).symm▸?_
   cases a.x with
   |true=>exact⟨120,_,rfl,.inr (by decide)⟩
   |false=>exact⟨97+(a.g.fmod 4).toNat,_,rfl,.inr (by exact fy)⟩
  ·refine(iO (show ¬a.r<0 by exact Int.not_lt.mpr (OA hr.1))).symm▸?_
   exact⟨49+a.r.toNat,_,rfl,.inl (by lia)⟩
 ·refine(iO (show ¬a.f<0 by exact Int.not_lt.mpr (OA hf.1))).symm▸?_
  exact⟨97+a.f.toNat,_,rfl,.inr (by exact fy)⟩
theorem U8{R:Int}{a:Ask}{o:List Nat}(hR:R<=5)(M:Nx R a o):∃c,AF (mid a o)=[c]/\c<61:=by
 have e:mid a o=(o++BD a.x []++[97+(a.g.fmod 4).toNat])++[49+(a.g.fdiv 4).toNat]:=by
  rw[gB _ [97+(a.g.fmod 4).toNat]];rfl
 have h:=(Bp M.g0 (by have:=M.g1;lia)).2.2.2.1
 (refine e.symm▸?_;refine((Br _ _).1).symm▸?_)
 exact⟨_,rfl,by lia⟩
theorem VI{v:Int}(pr:v=0\/∃p:Nat,2<=p/\p<6/\v=p):v=0\/∃p:Nat,2<=p/\p<6/\v=p/\((p:Int)==0)=false:=by
 rcases pr with e|⟨p,p2,p6,e⟩
 ·exact .inl e
 ·exact .inr ⟨p,p2,p6,e,by rw[gX];exact iJ (Na (Int.ofNat_le.mpr p2))⟩
theorem cW{R:Int}{a:Ask}{kd:Nat}{o e:List Nat}(hR:R<=5)(A:Tw R a kd o e):o7 R (DZ kd++mid a o++e)=some a:=by
 have B:=cX hR A.M
 rw[A.k]at B
 rcases A.e with⟨k2,e0,p0⟩|⟨k1,he,hp⟩
 ·subst e0
  rw[p0]at B
  rw[Dg k2,gK]
  unfold o7
  show(match nP (CR (m8 kd :: mid a o)) pO != 0 with|true=>oP R (nP (CR (m8 kd :: mid a o)) pO) 0 (GX (m8 kd :: mid a o))|false=>_)=_
  rw[Ho,N7,eD k2 A.k7,show((kd:Int) != 0)=true by rw[iu];exact iJ (Na (Int.ofNat_le.mpr k2))]
  exact B
 ·subst k1
  obtain⟨c,r,em,hc⟩:=U7 A.M
  obtain⟨d,ed,hd⟩:=U8 hR A.M
  have hh:∀e,nP (CR (mid a o++e)) pO=0:=fun e=>by rw[em,List.cons_append,Ho];exact MJ _ hc
  show o7 R ([]++mid a o++e)=_
  rw[jP]
  unfold o7
  rw[hh]
  show(match nP (AF (mid a o++e)) pq != 0 with|true=>(match AF (A8 (mid a o++e))==[61]with|true=>oP R 1 (nP (AF (mid a o++e)) pq) (A8 (A8 (mid a o++e)))|false=>oP R 1 (nP (AF (mid a o++e)) pq) (A8 (mid a o++e)))|false=>oP R 1 (nP (AF (mid a o++e)) pq) (mid a o++e))=_
  rcases VI hp with p0|⟨p,p2,p6,ep,z⟩
  ·rw[p0]at he B
   have e0:e=[]:=List.mem_singleton.mp he
   rw[e0,gK,ed,MJ _ (.inl (by exact mU (mz _) (mD 0 1) (.num 66) (mD 0 1) (.num 61) rfl hd))]
   exact B
  ·rw[ep]at he B
   unfold Cf at he
   rw[z]at he
   have he:e∈[[61]++[m8 p],[m8 p]]:=he
   simp only[hW,kf,lR]at he
   have nz:((p:Int) != 0)=true:=by rw[iu];exact iJ (Na (Int.ofNat_le.mpr p2))
   rcases he with he|he
   ·subst he
    rw[<- gB,(Br _ _).1,(Br _ _).2,ZO p2 p6,nz,(Br _ _).1,(Br _ _).2]
    exact B
   ·subst he
    rw[(Br _ _).1,(Br _ _).2,ZO p2 p6,nz,ed]
    show(match[d]==[61]with|true=>_|false=>oP R 1 p (mid a o))=_
    rw[show([d]==[61])=false by rw[gX];intro w;have:=(List.cons.inj w).1;lia]
    exact B
theorem Y9{R:Int}{a:Ask}{t:List Nat}(h:o7 R t=some a):∃kd o e,Tw R a kd o e/\t=DZ kd++mid a o++e:=by
 unfold o7 at h
 split at h
 ·rename_i z
  obtain⟨kd,k2,k7,ek,ex,_⟩:=MI (bne_iff_ne.mp z)
  obtain⟨b1,b2,o,e,M⟩:=IL h
  replace b1:=ek▸b1
  refine⟨kd,o,[],⟨M,b1,by exact Qi k2,k7,.inl ⟨k2,rfl,b2⟩⟩,?_⟩
  (rewrite[Dg k2];rewrite[<- ex];refine e▸?_;rewrite[gK];rewrite[cZ];rfl)
 ·split at h
  ·rename_i z
   obtain⟨p,p2,p7,ep,ex,hm⟩:=MI (bne_iff_ne.mp z)
   have p6:p<6:=by
    rcases(by lia:p<6\/p=6)with w|w
    ·exact w
    ·subst w;exact absurd hm (by decide)
   have nz:((p:Int)==0)=false:=by rw[gX];exact iJ (Na (Int.ofNat_le.mpr p2))
   have s1:=Ni t
   replace s1:=ex▸s1
   split at h
   ·rename_i z2
    have s2:=Ni (A8 t)
    replace s2:=(gU z2)▸s2
    obtain⟨b1,b2,o,e,M⟩:=IL h
    replace b2:=ep▸b2
    refine⟨1,o,[61]++[m8 p],⟨M,b1,by decide,by decide,.inr ⟨rfl,?_,.inr ⟨p,p2,p6,b2⟩⟩⟩,?_⟩
    ·unfold Cf;(refine b2.symm▸?_;refine nz.symm▸?_);exact gR
    ·show t=[]++mid a o++([61]++[m8 p])
     (rewrite[jP];rewrite[<- e];rewrite[<- gB];rewrite[s2];refine s1.symm▸?_;rfl)
   ·obtain⟨b1,b2,o,e,M⟩:=IL h
    replace b2:=ep▸b2
    refine⟨1,o,[m8 p],⟨M,b1,by decide,by decide,.inr ⟨rfl,?_,.inr ⟨p,p2,p6,b2⟩⟩⟩,?_⟩
    ·unfold Cf;(refine b2.symm▸?_;refine nz.symm▸?_);exact gH _ gR
    ·show t=[]++mid a o++[m8 p]
     (rewrite[jP];refine e▸?_;refine s1.symm▸?_;rfl)
  ·rename_i z
   have p0:nP (AF t) pq=0:=by simpa using z
   obtain⟨b1,b2,o,e,M⟩:=IL h
   replace b2:=p0▸b2
   refine⟨1,o,[],⟨M,b1,by decide,by decide,.inr ⟨rfl,?_,.inl b2⟩⟩,?_⟩
   ·refine b2.symm▸?_;exact gR
   ·show t=[]++mid a o++[]
    rw[gK];exact e
structure Wd(R:Int)(st:St)(v:Int)(kd:Nat):Prop where
 q:Sq R v
 k1:1<=kd
 k7:kd<7
 k:ow st v=kd
 p:Af v≠0->kd=1
theorem Wy{l:List (List Nat)}:(l.any (·==b))=true↔b∈l:=by
 rw[List.any_eq_true]
 constructor
 ·rintro⟨x,h,e⟩;refine(gU e)▸?_;exact h
 ·intro h;exact⟨b,h,iy b⟩
theorem Dt{st:St}{a:Ask}{v:Int}:Ee st a v=true↔mo v=a.g/\Af v=a.p/\ow st v=a.k/\m6 st v=a.x/\(a.f<0\/(Ah v).fmod 4=a.f)/\(a.r<0\/(Ah v).fdiv 4=a.r):=by
 unfold Ee
 simp only[gP,ik,iC,hV]
theorem bW(h:1<=k):k=1\/2<=k:=(Nat.eq_or_lt_of_le h).imp Eq.symm id
theorem TK{R:Int}{st:St}{v:Int}{kd:Nat}{b:List Nat}(W:Wd R st v kd):Eg st b v=true↔∃a,o7 R b=some a/\Ee st a v=true:=by
 have Q:=W.q
 have m0:=(Bp Q.f0 Q.pA).1;have m1:=(Bp Q.f0 Q.pA).2.1;have d0:=(Bp Q.f0 Q.pA).2.2.1;have d1:=(Bp Q.f0 Q.pA).2.2.2.1;have me:=(Bp Q.f0 Q.pA).2.2.2.2
 have kk:(ow st v).toNat=kd:=by refine W.k.symm▸?_;rfl
 have sN:fl ((Ah v).fmod 4)=[97+((Ah v).fmod 4).toNat]:=iO (Int.not_lt.mpr m0)
 have tZ:rl ((Ah v).fdiv 4)=[49+((Ah v).fdiv 4).toNat]:=iO (Int.not_lt.mpr d0)
 have flz:∀x:Int,x<0->fl x=[]:=fun x h=>iP h
 have vl:∀x:Int,x<0->rl x=[]:=fun x h=>iP h
 unfold Eg
 rw[Wy]
 unfold oS Df
 refine kk.symm▸?_
 constructor
 ·intro h
  obtain⟨o,ho,h⟩:=List.mem_flatMap.mp h
  obtain⟨e,he,rfl⟩:=List.mem_map.mp h
  have sO:∃f r,E5 o=some (f,r)/\(f<0\/(Ah v).fmod 4=f)/\(r<0\/(Ah v).fdiv 4=r)/\(((kd==1)&&m6 st v)=true->0<=f):=by
   have mk:∀f r,qa f->qa r->o=fl f++rl r->(f<0\/(Ah v).fmod 4=f)->(r<0\/(Ah v).fdiv 4=r)->(((kd==1)&&m6 st v)=true->0<=f)->∃f r,E5 o=some (f,r)/\(f<0\/(Ah v).fmod 4=f)/\(r<0\/(Ah v).fdiv 4=r)/\(((kd==1)&&m6 st v)=true->0<=f):=
    fun f r hf hr e a b c=>⟨f,r,by refine e.symm▸?_;exact W8 hf hr,a,b,c⟩
   have i1:qa (-1):=.inl rfl
   have im:qa ((Ah v).fmod 4):=.inr ⟨m0,iU m1 (by decide)⟩
   have id:qa ((Ah v).fdiv 4):=.inr ⟨d0,iU d1 (by decide)⟩
   unfold Em at ho
   cases ex:(kd==1)&&m6 st v with
   |true=>
    (replace ho:=ex▸ho;replace mk:=ex▸mk)
    simp only[hW,kf,lR]at ho
    rcases ho with ho|ho
    ·exact mk _ _ im i1 (by(refine sN.symm▸?_;refine ho.symm▸?_);rfl) (.inr rfl) (.inl (by decide)) fun _=>m0
    ·exact mk _ _ im id (by(refine sN.symm▸?_;refine tZ.symm▸?_;refine ho.symm▸?_);rfl) (.inr rfl) (.inr rfl) fun _=>m0
   |false=>
    (replace ho:=ex▸ho;replace mk:=ex▸mk)
    simp only[hW,kf,lR]at ho
    rcases ho with ho|ho|ho|ho
    ·exact mk _ _ i1 i1 (by refine ho.symm▸?_;rfl) (.inl (by decide)) (.inl (by decide)) fun z=>by exact De z
    ·exact mk _ _ im i1 (by(refine sN.symm▸?_;refine ho.symm▸?_);rfl) (.inr rfl) (.inl (by decide)) fun z=>by exact De z
    ·exact mk _ _ i1 id (by(refine tZ.symm▸?_;refine ho.symm▸?_);rfl) (.inl (by decide)) (.inr rfl) fun z=>by exact De z
    ·exact mk _ _ im id (by(refine sN.symm▸?_;rewrite[tZ];rewrite[ho]);rfl) (.inr rfl) (.inr rfl) fun z=>by exact De z
  obtain⟨f,r,hc,hf,hr,hx⟩:=sO
  have A:Tw R ⟨kd,f,r,m6 st v,mo v,Af v⟩ kd o e:=by
   refine⟨⟨hc,Q.t0,Q.t1,?_⟩,rfl,W.k1,W.k7,?_⟩
   ·show(((kd:Int)==1)&&(m6 st v&&decide (f<0)))=false
    cases ek:((kd:Int)==1) with
    |false=>rfl
    |true=>
     have ek:kd=1:=Int.ofNat.inj (gU ek)
     cases ek
     cases ex:m6 st v with
     |false=>rfl
     |true=>
      have:=hx (by refine ex.symm▸?_;rfl)
      refine(gZ (Int.not_lt.mpr this)).symm▸?_;rfl
   ·by_cases p0:Af v=0
    ·have he0:e=[]:=by
      replace he:=p0▸he
      exact List.mem_singleton.mp he
     rcases bW W.k1 with z|z
     ·exact .inr ⟨z,he,.inl p0⟩
     ·exact .inl ⟨z,he0,p0⟩
    ·exact .inr ⟨W.p p0,he,Q.pr⟩
  have z:=cW Q.R5 A
  refine⟨⟨kd,f,r,m6 st v,mo v,Af v⟩,?_,Dt.mpr ⟨rfl,rfl,W.k,rfl,hf,hr⟩⟩
  refine z▸?_
  unfold EL mid
  rw[gB (DZ kd),gB (DZ kd)]
 ·rintro⟨a,ha,hf⟩
  obtain⟨pK,o,e,A,et⟩:=Y9 ha
  have e1:=(Dt.mp hf).1;have e2:=(Dt.mp hf).2.1;have e3:=(Dt.mp hf).2.2.1;have e4:=(Dt.mp hf).2.2.2.1;have e5:=(Dt.mp hf).2.2.2.2.1;have e6:=(Dt.mp hf).2.2.2.2.2
  have ek:pK=kd:=Int.ofNat.inj (A.k.symm.trans (e3.symm.trans W.k))
  subst ek
  have eo:=(Ds A.M.cut).1;have hf8:=(Ds A.M.cut).2.1;have hr8:=(Ds A.M.cut).2.2
  refine List.mem_flatMap.mpr ⟨o,?_,List.mem_map.mpr ⟨e,?_,?_⟩⟩
  ·have ok:=A.M.ok
   (rw[A.k]at ok;replace ok:=(e4).symm▸ok)
   unfold Em
   have ff:¬a.f<0->fl a.f=[97+((Ah v).fmod 4).toNat]:=fun h=>by
    rcases e5 with z|z
    ·exact absurd z h
    ·refine z▸?_;exact sN
   have rr:¬a.r<0->rl a.r=[49+((Ah v).fdiv 4).toNat]:=fun h=>by
    rcases e6 with z|z
    ·exact absurd z h
    ·refine z▸?_;exact tZ
   cases ex:(pK==1)&&m6 st v with
   |true=>
    have nf:¬a.f<0:=fun h=>by
     simp only[gP,iC]at ex
     (rw[ex.1,ex.2]at ok;replace ok:=(gG h)▸ok)
     exact FT ok
    (refine eo.symm▸?_;rewrite[ff nf])
    by_cases hr:a.r<0
    ·refine(vl _ hr).symm▸?_;exact gR
    ·refine(rr hr).symm▸?_;exact gH _ gR
   |false=>
    refine eo.symm▸?_
    by_cases hf:a.f<0
    ·refine(flz _ hf).symm▸?_
     by_cases hr:a.r<0
     ·refine(vl _ hr).symm▸?_;exact gR
     ·exact(rr hr)▸(gH _ (gH _ gR))
    ·refine(ff hf).symm▸?_
     by_cases hr:a.r<0
     ·refine(vl _ hr).symm▸?_;exact gH _ gR
     ·refine(rr hr).symm▸?_;exact gH _ (gH _ (gH _ gR))
  ·refine e2.symm▸?_
   rcases A.e with⟨_,z,p0⟩|⟨_,z,_⟩
   ·(refine z.symm▸?_;refine p0.symm▸?_);exact gR
   ·exact z
  ·(rewrite[et];refine e4.symm▸?_;refine e1.symm▸?_)
   unfold EL mid
   rw[gB (DZ pK),gB (DZ pK)]
theorem VR(R:Int)(b:Nat)(h:AE a ou 0 = -1):BJ R [a,b] = -1:=by
 show Nj R (AE a ou 0) (AE b oi 0) = -1
 refine h.symm▸?_
 exact iP (.inl (by decide))
theorem Qt(R:Int):o7 R Gp=none:=by
 rw[show o7 R Gp=oP R 1 0 Gp from rfl]
 unfold oP
 rw[show Cg Gp=[45,79]from rfl];rfl
theorem SQ(R:Int):o7 R LW=none:=by
 rw[show o7 R LW=oP R 1 0 LW from rfl]
 unfold oP
 rw[show Cg LW=[45,79]from rfl];rfl
theorem CD{α:Type}{p q:α->Bool}:∀{l:List α},(∀x∈l,p x=q x)->l.find? p=l.find? q
 |[],_=>rfl
 |x :: l,h=>by
  rw[ix,ix,h x gR,CD fun y hy=>h y (gH _ hy)]
theorem CE{α:Type}{p:α->Bool}{l:List α}(h:∀x∈l,p x=false):l.find? p=none:=List.find?_eq_none.mpr fun x hx=>by rw[h x hx];exact iT
theorem Us{α:Type}{p q:α->Bool}{l:List α}:(∀x∈l,∀y∈l,p x=true->p y=true->q x=q y)->l.find? (fun x=>p x&&q x)=(l.find? p).filter q:=by
 induction l with
 |nil=>exact fun _=>rfl
 |cons x l ih=>
  intro h
  have ih:=ih fun a ha b hb=>h a (.tail _ ha) b (.tail _ hb)
  (rewrite[ix];refine List.find?_cons.symm▸?_)
  cases e:p x with
  |false=>exact ih
  |true=>
   cases e2:q x with
   |true=>exact(iP e2).symm
   |false=>
    refine Eq.trans (CE fun y hy=>?_) (iO fun z=>De (e2.symm.trans z)).symm
    cases ey:p y with
    |false=>rfl
    |true=>(refine(h x (.head _) y (.tail _ hy) e ey)▸?_;refine e2.symm▸?_);rfl
theorem K6(s mk:List Nat):([[],mk].any (·==s))=Db s mk:=by
 show([]==s||(mk==s||false))=_
 rw[jB]
 induction s using List.casesOn<;>rfl
structure Tab(R:Int)(st:St)(mk:Int->List Nat)(L:List Int):Prop where
 w:∀v∈L,∃kd,Wd R st v kd
 lg:∀v∈L,∀w∈L,oo st v=oo st w->mk v=mk w
section
variable{R:Int}{st:St}{mk:Int->List Nat}{L:List Int}
theorem VZ(T:Tab R st mk L)(b:List Nat):LB (CF R st L b)=Vw (L.filter (Eg st b)):=by
 have off:o7 R b=none->L.filter (Eg st b)=[]:=fun e=>List.filter_eq_nil_iff.mpr fun v hv h=>by
  obtain⟨kd,W⟩:=T.w v hv
  obtain⟨a,ha,_⟩:=(TK W).mp h
  exact AM e ha
 unfold CF
 cases e1:b==Gp with
 |true=>rw[off (by refine(gU e1).symm▸?_;exact Qt R)];rfl
 |false=>
  cases e2:b==LW with
  |true=>refine(off (by rw[gU e2];exact SQ R)).symm▸?_;rfl
  |false=>
   cases e:o7 R b with
   |none=>refine(off e).symm▸?_;rfl
   |some a=>
    have q:L.filter (Ee st a)=L.filter (Eg st b):=List.filter_congr fun v hv=>by
     obtain⟨kd,W⟩:=T.w v hv
     have z:=TK (b:=b) W
     cases h:Eg st b v with
     |true=>
      obtain⟨a',ha,hf⟩:=z.mp h
      obtain rfl:=same e ha
      exact hf
     |false=>
      cases h2:Ee st a v with
      |false=>rfl
      |true=>exact Ex (z.mpr ⟨a,e,h2⟩) h
    refine q▸?_
    show LB (some (L.filter (Ee st a)))=_
    match L.filter (Ee st a) with
    |[]=>rfl
    |[_]=>rfl
    |_ :: _ :: _=>rfl
theorem Zr(T:Tab R st mk L)(t:List Nat):((KY R t).bind fun q=>L.find? (Dv q))=L.find? (fun v=>wF v==t):=by
 cases e:KY R t with
 |none=>
  refine(CE fun v hv=>?_).symm
  obtain⟨kd,W⟩:=T.w v hv
  rw[gX]
  intro z
  exact AM e ((O1 W.q).mp z)
 |some q=>
  refine CD fun v hv=>?_
  obtain⟨kd,W⟩:=T.w v hv
  have z:=O1 (t:=t) W.q
  rw[e]at z
  rw[jT,Rl,iC,z]
  exact⟨fun h=>by exact congrArg _ h,fun h=>Option.some.inj h⟩
theorem aP(T:Tab R st mk L)(t:List Nat):((KZ R t).bind fun q=>L.find? (Dv q))=L.find? (fun v=>oV v==t):=by
 cases e:KZ R t with
 |none=>
  refine(CE fun v hv=>?_).symm
  obtain⟨kd,W⟩:=T.w v hv
  rw[gX]
  intro z
  exact AM e ((Q7 W.q).mp z)
 |some q=>
  refine CD fun v hv=>?_
  obtain⟨kd,W⟩:=T.w v hv
  have z:=Q7 (t:=t) W.q
  rw[e]at z
  rw[jT,Rl,iC,z]
  exact⟨fun h=>by exact congrArg _ h,fun h=>Option.some.inj h⟩
end
theorem XQ(h:j<9):AE (49+j) ou 0 = -1:=by
 rcases(by lia:j=0\/j=1\/j=2\/j=3\/j=4\/j=5\/j=6\/j=7\/j=8)with e|e|e|e|e|e|e|e|e<;>subst e<;>rfl
theorem Xf(h2:2<=p)(h6:p<6):∃j,j<9/\pR p=[49+j]:=by
 rcases(by lia:p=2\/p=3\/p=4\/p=5)with e|e|e|e<;>subst e
 ·exact⟨3,by decide,rfl⟩
 ·exact⟨2,by decide,rfl⟩
 ·exact⟨1,by decide,rfl⟩
 ·exact⟨0,by decide,rfl⟩
theorem Qw:∀n:Nat,n<20->((n:Int).fmod 4).toNat<9/\((n:Int).fdiv 4).toNat<9:=by decide +kernel
theorem Kl{s:Int}(h0:0<=s)(h1:s<20):(s.fmod 4).toNat<9/\(s.fdiv 4).toNat<9:=by
 obtain⟨n,rfl⟩:=gJ h0
 exact Qw n (Int.ofNat_lt.mp h1)
theorem Xi(Q:Sq R v):∃a r b c,a<9/\b<9/\c<9/\oV v=(49+a) :: r/\∃s,oV v=s++[49+b,49+c]:=by
 unfold oV PC
 (refine(JE Q.f0 Q.pA).symm▸?_;refine(JE Q.t0 Q.oG).symm▸?_)
 rcases FF Q.pr with e|⟨p,p1,p7,p2,p6,e,z,kl,c1,c2⟩
 ·rw[e]
  exact⟨_,_,((mo v).fmod 4).toNat,((mo v).fdiv 4).toNat,(Kl Q.f0 Q.pA).1,(Kl Q.t0 Q.oG).1,(Kl Q.t0 Q.oG).2,rfl,[49+((Ah v).fmod 4).toNat,49+((Ah v).fdiv 4).toNat],rfl⟩
 ·obtain⟨j,hj,ej⟩:=Xf p2 p6
  (refine e.symm▸?_;refine z.symm▸?_)
  refine⟨((Ah v).fmod 4).toNat,_,((mo v).fdiv 4).toNat,j,(Kl Q.f0 Q.pA).1,(Kl Q.t0 Q.oG).2,hj,rfl,[49+((Ah v).fmod 4).toNat,49+((Ah v).fdiv 4).toNat,49+((mo v).fmod 4).toNat],?_⟩
  show _++pR p=_
  rw[ej];rfl
theorem Q9(ha:a<9)(hb:b<9)(hc:c<9)(h1:t=(49+a) :: r)(h2:t=s++[49+b,49+c]):o7 R t=none/\AX t=(t,[]):=by
 have hh:CR t=[49+a]:=by rw[h1];exact Ho _ _
 have hl:AF t=[49+c]:=by
  rw[h2,show s++[49+b,49+c]=(s++[49+b])++[49+c] by rw[gB];rfl]
  exact(Br _ _).1
 have h2':Cg t=[49+b,49+c]:=by rw[h2];exact(Lr _ _ _).1
 constructor
 ·unfold o7
  rw[hh,hl,MJ _ (.inl (by exact fz ha)),MJ _ (.inl (by exact fz hc))]
  show oP R 1 0 t=none
  unfold oP
  rw[h2',VR R _ (XQ hb)];rfl
 ·unfold AX
  rw[hl,show([49+c]==[43])=false by rw[gX];intro w;have:=(List.cons.inj w).1;lia,show([49+c]==[35])=false by rw[gX];intro w;have:=(List.cons.inj w).1;lia]
theorem Zp(v:Int):∃c r,wF v=c :: r/\66<=c:=⟨97+((Ah v).fmod 4).toNat,_,rfl,by exact fA⟩
theorem UX{R:Int}{st:St}{v:Int}{kd:Nat}(W:Wd R st v kd):∃c r,oo st v=c :: r/\66<=c:=by
 unfold oo Dd
 refine(show(ow st v).toNat=kd by rw[W.k];rfl).symm▸?_
 rcases(by have:=W.k1;lia:kd=1\/2<=kd)with e|e
 ·subst e;exact⟨97+((Ah v).fmod 4).toNat,_,rfl,by exact fA⟩
 ·refine(Dg e).symm▸?_;exact⟨m8 kd,_,rfl,(MM e W.k7).1⟩
theorem Ug{α:Type}(a:Option α):so a none=a:=by cases a<;>rfl
theorem bj{G:mi}{st:St}{mk:Int->List Nat}(T:Tab G.ranks st mk (Ay G st))(t:List Nat):FX mk G st t=EB mk st (Ay G st) t:=by
 have ew:R0 G st t=(Ay G st).find? (fun v=>wF v==t):=Zr T t
 have ed:tW G st t=(Ay G st).find? (fun v=>oV v==t):=aP T t
 unfold FX EB
 (refine ew.symm▸?_;refine ed.symm▸?_)
 unfold VY Oo
 rw[VZ T]
 have e1:((Ay G st).find? fun v=>oo st v==(AX t).1).filter (fun v=>Db (AX t).2 (mk v))=(Ay G st).find? (KT st mk (AX t).1 (AX t).2):=by
  rw[<- Us (p:=fun v=>oo st v==(AX t).1) (q:=fun v=>Db (AX t).2 (mk v)) fun x hx y hy a b=>by
   (refine(T.lg x hx y hy ((gU a).trans (gU b).symm)).symm▸?_;rfl)]
  refine CD fun v _=>?_
  show _=(oo st v==(AX t).1&&_)
  rw[K6]
 have e2:(fun v=>[[],mk v].any (·==(AX t).2))=fun v=>Db (AX t).2 (mk v):=funext fun v=>K6 _ _
 (refine e2.symm▸?_;refine e1▸?_)
 by_cases hd:∃v∈Ay G st,oV v=t
 ·obtain⟨v,hv,e⟩:=hd
  obtain⟨kd,W⟩:=T.w v hv
  obtain⟨a,r,b,c,ha,hb,hc,h1,s,h2⟩:=Xi W.q
  (replace h1:=e▸h1;replace h2:=e▸h2)
  have z1:=(Q9 (R:=G.ranks) ha hb hc h1 h2).1;have z2:=(Q9 (R:=G.ranks) ha hb hc h1 h2).2
  have nw:∀w∈Ay G st,(wF w==t)=false:=fun w _=>by
   obtain⟨c',r',e',h'⟩:=Zp w
   (rewrite[gX];refine e'.symm▸?_;rewrite[h1])
   intro z
   lia
  have nl:∀w∈Ay G st,(oo st w==t)=false:=fun w hw=>by
   obtain⟨pK,W'⟩:=T.w w hw
   obtain⟨c',r',e',h'⟩:=UX W'
   (rewrite[gX];refine e'.symm▸?_;rewrite[h1])
   intro z
   lia
  have ns:Vw ((Ay G st).filter (Eg st t))=none:=by
   rw[<- VZ T]
   unfold CF
   refine z1.symm▸?_
   cases t==Gp
   ·cases t==LW<;>rfl
   ·rfl
  have wd:(Ay G st).find? (Io t)=(Ay G st).find? (fun v=>oV v==t):=CD fun w hw=>by
   unfold Io
   (refine(nw w hw).symm▸?_;rewrite[iM];rfl)
  (refine z2.symm▸?_;refine ns.symm▸?_;refine(CE nw).symm▸?_;refine(CE nl).symm▸?_;refine wd.symm▸?_)
  cases q:(Ay G st).find? (fun v=>oV v==t) with
  |some x=>rfl
  |none=>exact absurd e (by have:=List.find?_eq_none.mp q v hv;simpa using this)
 ·have nd:∀w∈Ay G st,(oV w==t)=false:=fun w hw=>by
   rw[gX];exact fun e=>hd ⟨w,hw,e⟩
  have wd:(Ay G st).find? (Io t)=(Ay G st).find? (fun v=>wF v==t):=CD fun w hw=>by
   unfold Io
   (refine(nd w hw).symm▸?_;rewrite[jB];rfl)
  (refine(CE nd).symm▸?_;refine wd.symm▸?_;rewrite[Ug];rfl)
theorem bF:∀n:Nat,n<20->∀k:Nat,k<20->97+((n:Int).fmod 4).toNat=97+((k:Int).fmod 4).toNat->49+((n:Int).fdiv 4).toNat=49+((k:Int).fdiv 4).toNat->n=k:=by decide +kernel
theorem ZW{s t:Int}(s0:0<=s)(s1:s<20)(t0:0<=t)(t1:t<20)(a:97+(s.fmod 4).toNat=97+(t.fmod 4).toNat)(b:49+(s.fdiv 4).toNat=49+(t.fdiv 4).toNat):s=t:=by
 obtain⟨n,rfl⟩:=gJ s0
 obtain⟨k,rfl⟩:=gJ t0
 exact congrArg Int.ofNat (bF n (Int.ofNat_lt.mp s1) k (Int.ofNat_lt.mp t1) a b)
theorem Ui:∀n:Nat,n<6->∀k:Nat,k<6->n≠1->k≠1->(FJ n==FJ k)=true->n=k:=by decide +kernel
theorem Uj{p q:Int}(hp:p=0\/∃n:Nat,2<=n/\n<6/\p=n)(hq:q=0\/∃n:Nat,2<=n/\n<6/\q=n)(h:FJ p=FJ q):p=q:=by
 have nat:∀{p:Int},(p=0\/∃n:Nat,2<=n/\n<6/\p=n)->∃n:Nat,p=n/\n<6/\n≠1:=fun h=>by
  rcases h with rfl|⟨n,a,b,rfl⟩
  ·exact⟨0,rfl,by decide,by decide⟩
  ·exact⟨n,rfl,b,fun e=>absurd (e▸a) (by decide)⟩
 obtain⟨n,rfl,n6,n2⟩:=nat hp
 obtain⟨k,rfl,k6,k2⟩:=nat hq
 exact congrArg Int.ofNat (Ui n n6 k k6 n2 k2 (beq_iff_eq.mpr h))
theorem Ru(kd:Nat)(x:Bool)(v p:Int):∃c,Dd kd x v p=DZ kd++(97+((Ah v).fmod 4).toNat) :: (49+((Ah v).fdiv 4).toNat) :: c :: (97+((mo v).fmod 4).toNat) :: (49+((mo v).fdiv 4).toNat) :: FJ p:=by
 unfold Dd m9
 induction x with
 |true=>exact⟨120,by simp[BD]⟩
 |false=>exact⟨45,by simp[BD]⟩
theorem XW{a b c d e a' b' c' d' e':Nat}{l l':List Nat}(h:a :: b :: c :: d :: e :: l=a' :: b' :: c' :: d' :: e' :: l'):a=a'/\b=b'/\d=d'/\e=e'/\l=l':=by
 obtain⟨h1,h⟩:=List.cons.inj h
 obtain⟨h2,h⟩:=List.cons.inj h
 have h:=(List.cons.inj h).2
 obtain⟨h4,h⟩:=List.cons.inj h
 have h5:=(List.cons.inj h).1;have h:=(List.cons.inj h).2
 exact⟨h1,h2,h4,h5,h⟩
theorem bz{R:Int}{st:St}{v w:Int}{kd pK:Nat}(V:Wd R st v kd)(W:Wd R st w pK)(h:oo st v=oo st w):Ah v=Ah w/\mo v=mo w/\Af v=Af w:=by
 unfold oo at h
 rw[show(ow st v).toNat=kd by rw[V.k];rfl,show(ow st w).toNat=pK by rw[W.k];rfl]at h
 obtain⟨c,e⟩:=Ru kd (m6 st v) v (Af v)
 obtain⟨c',e'⟩:=Ru pK (m6 st w) w (Af w)
 rw[e,e']at h
 have R5:=V.q.R5
 have v1:=V.q.f1;have v2:=V.q.t1;have w1:=W.q.f1;have w2:=W.q.t1
 have fin:∀{a b d f a' b' d' f':Nat} {l l':List Nat},a=97+((Ah v).fmod 4).toNat->b=49+((Ah v).fdiv 4).toNat->d=97+((mo v).fmod 4).toNat->f=49+((mo v).fdiv 4).toNat->l=FJ (Af v)->a'=97+((Ah w).fmod 4).toNat->b'=49+((Ah w).fdiv 4).toNat->d'=97+((mo w).fmod 4).toNat->f'=49+((mo w).fdiv 4).toNat->l'=FJ (Af w)->
   a :: b :: c :: d :: f :: l=a' :: b' :: c' :: d' :: f' :: l'->Ah v=Ah w/\mo v=mo w/\Af v=Af w:=by
  intro a b d f a' b' d' f' l l' h1 h2 h3 h4 h5 h6 h7 h8 h9 sR h
  obtain⟨q1,q2,q3,q4,q5⟩:=XW h
  subst h1 h2 h3 h4 h5 h6 h7 h8 h9 sR
  exact⟨ZW V.q.f0 (by lia) W.q.f0 (by lia) q1 q2,ZW V.q.t0 (by lia) W.q.t0 (by lia) q3 q4,Uj V.q.pr W.q.pr q5⟩
 rcases(by have:=V.k1;lia:kd=1\/2<=kd)with z|z<;>rcases(by have:=W.k1;lia:pK=1\/2<=pK)with z'|z'
 ·subst z z'
  exact fin rfl rfl rfl rfl rfl rfl rfl rfl rfl rfl h
 ·subst z
  rw[Dg z']at h
  have:=(List.cons.inj (show(97+((Ah v).fmod 4).toNat) :: _=m8 pK :: _ from h)).1
  have:=MM z' W.k7
  lia
 ·subst z'
  rw[Dg z]at h
  have:=(List.cons.inj (show m8 kd :: _=(97+((Ah w).fmod 4).toNat) :: _ from h)).1
  have:=MM z V.k7
  lia
 ·rw[Dg z,Dg z']at h
  exact fin rfl rfl rfl rfl rfl rfl rfl rfl rfl rfl (List.cons.inj (show m8 kd :: _=m8 pK :: _ from h)).2
theorem Ke{o t f s:Int}(o0:0<=o)(o1:o<20)(t0:0<=t)(t1:t<20)(hs:f=0/\s=0\/s=1/\0<=f/\f<4):(s=0/\f=0/\Af (AI o t f s)=0)\/(s=1/\Af (AI o t f s)=f+2/\2<=f+2):=by
 have f0:0<=f/\f<4/\0<=s/\s<2:=by
  rcases hs with⟨rfl,rfl⟩|⟨rfl,x,y⟩
  ·exact⟨by decide,by decide,by decide,by decide⟩
  ·exact⟨x,y,by decide,by decide⟩
 obtain⟨a,b,c,d⟩:=RD o0 o1 t0 t1 f0.1 f0.2.1 f0.2.2.1 f0.2.2.2
 unfold Af
 rcases hs with h|h
 ·left
  refine⟨h.2,h.1,?_⟩
  rw[c,h.2];rfl
 ·right
  refine⟨h.1,?_,by exact mO (mz _) (.num 2) (mw 0 2) (.num 0) mq rfl h.2.1⟩
  rw[c,show(s != 1)=false by rw[h.1];rfl]
  show Am _ 3+2=_
  rw[d]
theorem VP(mc:Bool):(Gr mc).size=4*(Gr mc).ranks/\(Gr mc).ranks<=5:=by cases mc<;>exact⟨rfl,by decide⟩
inductive dL(mc:Bool)(st:St)(v:Int):Prop
 |mk (kd:Nat) (o t f s:Int) (T:pP (Gr mc) st kd o t) (hs:f=0/\s=0\/kd=1/\s=1/\0<=f/\f<4) (e:v=AI o t f s) (ef:Ah v=o) (et:mo v=t) (W:Wd (Gr mc).ranks st v kd)
theorem RG{v:Int}(z:Bt v=0):Af v=0:=by unfold Af;rw[z];rfl
theorem P1{mc:Bool}{st:St}(P:Pos (Gr mc) st){v:Int}(hv:v∈Ay (Gr mc) st):dL mc st v:=by
 obtain⟨rs,r5⟩:=VP mc
 have GC:=Xv mc
 obtain⟨kd,o,t,f,s,T,H,hs,e⟩:=MP (eh mc) GC.S GC.hr P.C (Ls hv)
 obtain⟨V,ef,et⟩:=T.mv GC.S P.C hs
 (replace V:=(e).symm▸V;replace ef:=(e).symm▸ef;replace et:=(e).symm▸et)
 refine⟨kd,o,t,f,s,T,hs,e,ef,et,⟨⟨r5,V.M.f0,by refine rs▸?_;exact V.M.f1,V.M.t0,by refine rs▸?_;exact V.M.t1,?_⟩,T.k1,T.k7,V.ow,fun p=>?_⟩⟩
 ·rcases V.M.sp with z|z
  ·exact .inl (RG z)
  ·obtain⟨_,p,h1,h2,h3⟩:=V.oy z
   exact .inr ⟨p,h1,Nat.lt_succ_of_le h2,h3⟩
 ·rcases V.M.sp with z|z
  ·exact absurd (RG z) p
  ·exact(V.oy z).1
theorem Qh{s f s' f' a b:Int}(p:(s=0/\f=0/\a=0)\/(s=1/\a=f+2/\2<=f+2))(p':(s'=0/\f'=0/\b=0)\/(s'=1/\b=f'+2/\2<=f'+2))(h:a=b):s=s'/\f=f':=by lia
theorem dn{mc:Bool}{st:St}(P:Pos (Gr mc) st):Tab (Gr mc).ranks st (U9 (Gr mc) (mr mc) st) (Ay (Gr mc) st):=by
 have top:=(Xv mc).S.top
 refine⟨fun v hv=>?_,fun v hv w hw h=>?_⟩
 ·obtain⟨kd,_,_,_,_,_,_,_,_,_,W⟩:=P1 P hv
  exact⟨kd,W⟩
 ·obtain⟨kd,o,t,f,s,T,hs,e,ef,et,W⟩:=P1 P hv
  obtain⟨pK,o',t',f',s',T',pV,e',ef',et',W'⟩:=P1 P hw
  obtain⟨i1,i2,i3⟩:=bz W W' h
  have p:=Ke T.o0 (gS T.o1 top) T.t0 (gS T.t1 top) (hs.imp id And.right)
  have p':=Ke T'.o0 (gS T'.o1 top) T'.t0 (gS T'.t1 top) (pV.imp id And.right)
  rw[<- e]at p
  rw[<- e']at p'
  have q:=Qh p p' i3
  rw[show v=w by(refine e.symm▸?_;rewrite[e'];refine ef▸?_;refine ef'▸?_;refine i1.symm▸?_;refine et▸?_;refine et'▸?_;refine i2.symm▸?_;refine q.1.symm▸?_;refine q.2.symm▸?_;rfl)]
theorem eE:Zw:=⟨Xv,f6,fun mc st P=>⟨U9 (Gr mc) (mr mc) st,Xu (eh mc) (Xv mc) P,fun v _=>bC v,bj (dn P)⟩⟩
theorem UT{n:Nat}{Q:Ae}{X:As}{xs:List Int}(hn:15<=n)(h:∀μ',Q (.bool true) μ'):CG n false 312 [.mT (xs.map .int)] Q X []:=dW hn eE h
noncomputable abbrev RR:=PySem.Challenge.rw_pf0107_01.row.toRowW
theorem XA{t:WTm}{e:WCtx}(v:t.value R e=some (.bool b))(h:t.holds R e=true):b=true:=by
 have h:(match t.value R e with|some (.bool true)=>true|_=>false)=true:=h
 replace h:=v▸h
 induction b<;>exact h
theorem cf{ds:List WData}(h:WTm.holds [] (.and (.not (.lt (.lit (.int 63)) (.len (.arg 0)))) (.lit (.bool true))) {args:=[.list ds]}=true):ds.length<=63:=
 Int.ofNat_le.mp (Int.not_lt.mp (iv (CH (XA (w_not (w_lt w_lit (w_len_list (w_arg rfl)))) (holds_andW h).1))))
theorem VT{cl:Str->Option Addr}(r:ReadsW [] cl h v (.int k) as):∃t,v=.int k t:=by
 cases r with
 |int i t=>exact⟨t,rfl⟩
theorem Ql{cl:Str->Option Addr}{ns:List Int}{vs:List Value}(r:ReadsAllW [] cl h vs (ns.map .int) as):vs.length=ns.length/\∀(i:Nat) (k:Int) (w:Value),ns[i]?=some k->vs[i]?=some w->∃t,w=.int k t:=by
 induction ns generalizing vs as with
 |nil=>cases r;exact⟨rfl,fun i k w a=>nomatch a⟩
 |cons n ns ih=>
  cases r with
  |cons a b=>
   have l:=(ih b).1;have q:=(ih b).2
   refine⟨congrArg (·+ 1) l,fun i k w e1 e2=>?_⟩
   induction i using Nat.casesOn with
   |zero=>obtain rfl:=Option.some.inj e1;obtain rfl:=Option.some.inj e2;exact VT a
   |succ i=>exact q i k w e1 e2
def dN(h:Heap):Prop:=∃K:Frag,Fm K=true/\K.In h
theorem QE(a b:DecidableEq Str)(K:Frag):Fm (deq:=a) K=Fm (deq:=b) K:=by rw[Subsingleton.elim a b]
theorem bd(h:Heap):(pD h.get?).In h:=by
 intro a o e
 unfold pD at e
 generalize K3=l at e
 induction l with
 |nil=>exact Ao e
 |cons b l ih=>
  rw[iZ]at e
  cases hb:h.get? b with
  |none=>rw[hb]at e;exact ih e
  |some x=>
   rw[hb]at e
   have e:(if a==b then some x else(List.filterMap (fun a=>(h.get? a).map (a,·)) l).lookup a)=some o:=by
    have:List.lookup a ((b,x) :: List.filterMap (fun a=>(h.get? a).map (a,·)) l)=some o:=e
    rw[ib]at this
    split at this<;>simp_all
   split at e
   ·rename_i q
    rw[gU q,hb];exact e
   ·exact ih e
theorem bq:nm 312=("law":Str):=by kernel_rfl
theorem UO:prog 312=some (.fn [307] Dc):=by kernel_rfl
theorem bp:Om 312=true:=by kernel_rfl
theorem RL:callerA.depth+3*15+4<recursionLimit/\callerA.units+8*15+53<cLine:=by constructor<;>decide +kernel
theorem T4{G:Nat->Option V}{P:Nat->Option rn}{Q:Ae}{X:As}(hp:P f=some (.fn ps body))(h:Ak G P (n+1) hd f vs Q X μ) :
  ∃env',CQ ps vs (fun _=>none)=some env'/\ws G (Ak G P n) hd body (fun fl _ μ'=>match fl with|.ret v=>Q v μ'|.next=>Q .none μ'|.cont=>False) X env' μ:=by
 obtain⟨F,e,h⟩:=Aq (o:=P f) h
 obtain rfl:=same hp e
 exact Aq h
theorem bx{xs:List Int}:∃env',CQ [307] [.mT (xs.map .int)] (fun _=>none)=some env'/\ws l9 (Ak l9 prog 15) false Dc (fun fl _ _=>match fl with|.ret v=>v=.bool true|.next=>(V.none:V)=.bool true|.cont=>False) (fun _ _=>False) env' []:=
 T4 UO (UT (by decide) fun _=>rfl)
structure IR(r:RowW):Prop where
 pZ:r.records=[]
 args:r.args=[.list .int]
 pre:r.pre=.and (.not (.lt (.lit (.int 63)) (.len (.arg 0)))) (.lit (.bool true))
 ret:r.returns=.bool
 post:r.post=.eq .res (.lit (.bool true))
 raises:r.raises=[]
theorem Yu{r:RowW}(LR:IR r)(args:List WData):r.claim.post args (.bool true) args=true:=by
 show(WShape.has r.records (.bool true) r.returns&&WTm.holds r.records r.post {args:=args,res:=some (.bool true),after:=args})=true
 rw[LR.ret,LR.post]
 kernel_rfl
theorem Vf{r:RowW}(LR:IR r)(args:List WData)(cls:ExcName):r.claim.raises args cls=false:=by
 show(r.raises.any fun ct=>ct.1==cls&&ct.2.holds r.records {args:=args})=false
 rw[LR.raises];rfl
theorem UM{r:RowW}(LR:IR r)(ov:r.claim.pre args=true):∃ns:List Int,args=[.list (ns.map .int)]/\ns.length<=63:=by
 obtain⟨sw,hpr⟩:=pre_splitW (r:=r) ov
 (rw[LR.pZ]at sw;replace sw:=LR.args▸sw)
 rw[LR.pZ,LR.pre]at hpr
 obtain⟨d1,r1,e1,qF,hs2⟩:=hasAllW_cons sw
 have e2:=hasAllW_nil hs2
 subst e2 e1
 obtain⟨ds,e3,hit⟩:=hasW_list qF
 subst e3
 obtain⟨ns,e4⟩:=items_int hit
 subst e4
 have hlen:=cf hpr
 rw[g6]at hlen
 exact⟨ns,rfl,hlen⟩
theorem XM{cl:Str->Option Addr}{vals:List Value}{ns:List Int}(hlen:ns.length<=63)(tS:ReadsAllW [] cl h vals [.list (ns.map .int)] as):Ar h lg0 [.mT (ns.map .int)] vals/\vals.length=1:=by
 cases tS with
 |cons hl hr=>
  cases hr
  cases hl with
  |@list la lo vs nn as' _ l1 l2 l3 l4=>
   obtain⟨ql,qv⟩:=Ql l4
   refine⟨Ar.cons (.mT _ la lo vs nn l1 l2 l3 (by rw[g6,<- ql];exact Array.length_toList.symm) (by rw[g6];exact gI hlen (by decide)) fun i v w a b=>?_) Ar.nil,rfl⟩
   replace a:=kW▸a
   cases hk:ns[i]? with
   |none=>replace a:=hk▸a;exact Ao a
   |some k=>
    replace a:=hk▸a
    obtain rfl:=Option.some.inj a
    obtain⟨t,e⟩:=qv i k w hk (by refine Array.getElem?_toList.symm▸?_;exact b)
    refine e.symm▸?_
    exact .int k t
theorem UU(LR:IR r){d:DefRec}(hn:d.name=("law":Str)):WalkO q loose (fun _ _=>True) (fun _ h=>dN h) r d kwd fun f vs=>PySem.call f vs:=by
 intro w s₀ s₁ mg mb G Y a o pm cd doc dV kV ho hd hcd hD hmg hg args vals as ov hlay tS hwl qc
 obtain⟨K,hK,Kin⟩:=Y
 obtain⟨ns,rfl,hlen⟩:=UM LR ov
 rw[LR.pZ]at tS
 have P:=cg Kin G.T.nolimit G.T.g G.T.b hK
 obtain⟨mg',mb',n1,n2,_,fnn,_⟩:=P.qA.names
 have ea:Sx K 312=a:=by
  have q:=(fnn 312 bp).1
  (rw[n1.eq_nsMap,<- G.T.g.eq_nsMap,bq,<- hn]at q;replace q:=hmg▸q)
  cases Option.some.inj q;rfl
 have qI:=P.fns.fn 312 [307] Dc UO
 replace qI:=ea▸qI
 obtain⟨rel, -⟩:=XM hlen tS
 obtain⟨env',he,hw⟩:=bx (xs:=ns)
 refine jY (Wp (n:=15) P qI rfl rfl RL.1 RL.2 rel he hw (fun mf mX m5 μ2 h2 nK w2 old hq hv=>?_) fun _ _ z=>z)
 induction mf with
 |ret v=>
  subst hq
  cases hv
  exact⟨.inl ⟨_,.bool true,[],rfl,Vf LR _,.bool true,Yu LR _,fun _=>⟨lm,fun _ h=>by cases h⟩⟩,OldK.of_keep old,rfl,AllBare.of_eq hg⟩
 |next=>exact absurd hq (by intro z;cases z)
 |cont=>exact hq.elim
theorem On:(defOf vw "law").isSome=true:=by kernel_rfl
noncomputable def Fb:DefRec×List (Str×Expr):=(defOf vw "law").get On
theorem UP:defOf vw "law"=some (Fb.1,Fb.2):=(Option.some_get On).symm
theorem UQ:Fb.1.name=("law":Str):=by kernel_rfl
theorem bo:pw.theDef "law"=some (Fb.1.params,Fb.1.body,Fb.1.scope):=by kernel_rfl
theorem bn:kwWritten? Fb.1.params.kwonlyargs Fb.1.params.kw_defaults=some Fb.2:=by kernel_rfl
theorem UN:pw.bare:=⟨rfl,rfl,rfl,rfl,rfl,by decide +kernel⟩
theorem XN:IR RR:=⟨rfl,rfl,rfl,rfl,rfl,rfl⟩
theorem UR:RR.promised:=⟨[.list []],by decide +kernel,by decide +kernel⟩
theorem XH:chainsOk vw=true:=by kernel_rfl
theorem bu:(opening pw).tameTopW=true:=by kernel_rfl
theorem bw:bearImports (behindTheImports pw)=false:=by kernel_rfl
theorem XI:opensWell pw=true:=look_both bu (congrArg not bw)
theorem XJ:(frees RR&&RR.within.isEmpty)=true:=by kernel_rfl
theorem US:PySem.Challenge.rw_pf0107_01.wellSaid=true:=by
 rw[Fast.te9446332074065402090]
 unfold Fast.tw9446332074065402090 Fast.tw17960256430627541270 Fast.tw2436336058641802641 Fast.tw12908688711261696721
 repeat' (with_reducible refine look_both ?_ ?_)
 all_goals decide +kernel
theorem XL:(chainsOk vw&&opensWell pw&&(frees RR&&RR.within.isEmpty))=true:=by rw[XH,XI,XJ];rfl
theorem X6(s:Shared):RecFacts [] s.heap:=recFacts_of (by rfl)
theorem Tg(vm:PySem.Challenge.rw_pf0107_01.row.wellSaid=true):PySem.Challenge.rw_pf0107_01.row.Holds:=
 PySem.W.holds_open (q:=vw) (loose:=sB) (Xt:=fun _=>true) (XP:=fun _ _=>True) (Yf:=fun s=>Fm (deq:=Fast.sDec) (pD s.heap.get?)) (Ya:=fun _=>true) (YP:=fun _ h=>dN h) (N:=8000) (d:=Fb.1) (kwd:=Fb.2)
  left (fun _ s e=>⟨pD s.heap.get?,(QE _ _ _).trans e,bd s.heap⟩) (fun _ h h' ⟨K,a,b⟩ k=>⟨K,a,fun x o e=>k x o (b x o e)⟩) (fun _ _=>trivial) (fun _ _ _ _ _=>trivial)
  UP bo bn (fun s _=>X6 s) rfl vm XL UN UR (UU XN UQ)
theorem dD:PySem.Challenge.rw_pf0107_01.Holds:=holds_law US Tg
end Mine
theorem PySem.Challenge.cw_pf0107_01_holds : PySem.Challenge.rw_pf0107_01.Holds :=
  Mine.dD
