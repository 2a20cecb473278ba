import PyProof.Rows.All
import Wide.All
import KE.KItem
import Open.FastT9
import Open.FastRun
import Open.Line
import OpenK.KWalk
import OpenK.KMake
import OpenK.KMore
import OpenK.KList
import Wide.FinOn
import PyProof.ExcBaseAll.Exception
import Lean
import PySem.Challenge.RW_pf0107_01
set_option Elab.async false
set_option maxRecDepth 100000
set_option maxHeartbeats 2000000
set_option autoImplicit true
set_option genSizeOf false
set_option genSizeOfSpec false
set_option tactic.hygienic false
set_option linter.all false
open List renaming append_assoc->gv,getElem?_concat_length->gw,length_append->gy,mem_cons_of_mem->gA,append_nil->gE,mem_cons_self->gK,length_cons->gR,length_map->gU,getD_eq_getElem?_getD->gV,getElem?_eq_getElem->gW,getElem?_set_ne->gY,set_append_right->g9,mem_cons->hH,lookup_cons->hU,set_set->hY,all_eq_true->ib,find?_cons->io,getElem?_eq_none->iq,contains_cons->iH,filterMap_cons->iT,map_cons->iZ,getElem?_append_right->i7,mapM_cons->jc,flatMap_nil->jd,filter_cons_of_pos->je,filter_cons_of_neg->jf,mem_of_getElem?->jn,take_of_length_le->jB,take_append_drop->jC,nodup_cons->jI,nil_append->jJ,length_set->jK,getElem?_append_left->jY,length_range->jZ,getElem?_set->j0,flatMap_cons->j2,not_mem_nil->j5,getElem_mem->j6,drop_eq_nil_of_le->kg,map_append->kj,getElem?_map->kP,foldl_cons->kY,filter_nil->kZ,nodup_nil->k9,any_cons->lq,mem_map->lC,map_nil->lD,length_filter_le->lK,replicate_succ->lV,map_congr_left->lW
open PySem renaming wpAny_bind->gx,wpAny_mono->gJ,wpAny_pure->gO,wpAny_standAt->hV,wpAny_holding->hW,wpAny_field->ix,wpAny_loadPart_at->iP,wpAny_isSubtype_exc->iR,wpAny_execs_cons->ju,wpAny_setField->jy,wpAny_truthy_bool->jA,wpAny_loadName_local->jE,wpAny_rule->jR,wpAny_call->jS,wpAny_call_entry->j3,wpAny_execs_nil->kh,wpAny_of_eq->kr,wpAny_loadPart->kt,wpAny_attempt->kB,wpAny_pyIter_tuple->kF,wpAny_newObj_type->kM,wpAny_Return_some->kN,wpAny_askSetting->kS,call_meets->k8,wpAny_pyNext_tuple_item->lv,wpAny_pyIter_tupleiter->lG,wpAny_allTrue_And_cons->lH,wpAny_allTrue_Or_cons->lJ,wpAny_throw->lM,wpAny_noted->lN,codeAny_call_builtin->lP,wpAny_Constant_none->lS,wpAt_of_wpAny->lU
open Nat renaming le_trans->gB,le_refl->gF,lt_of_le_of_lt->gZ,lt_succ_of_lt->g6,lt_of_lt_of_le->g7,le_add_right->hJ,le_of_eq->hM,lt_irrefl->ic,zero_le->ie,lt_trans->iv,pow_le_pow_right->iz,sub_self->iC,testBit_succ->iL,lt_succ_self->iM,le_of_succ_le->iQ,mul_le_mul_left->iS,ne_of_lt->iV,lt_or_ge->iW,testBit_lt_two_pow->iX,le_succ->iY,testBit_zero->i5,testBit_and->i8,and_le_left->i9,add_le_add_left->jb,le_add_left->ji,add_le_add->jl,add_lt_add_right->jm,mod_two_eq_zero_or_one->jp,succ_pos->jq,testBit_or->jz,not_succ_le_zero->jF,eq_of_testBit_eq->jG,le_antisymm->jH,ne_of_gt->jO,succ_lt_succ->j4,add_sub_cancel_left->j7,le_of_lt->j8,lt_of_succ_lt_succ->kf,eq_of_beq_eq_true->kq,sub_lt_sub_left->kz,lt_two_pow_self->kA,pow_succ->kI,le_of_lt_succ->kO,mul_add_mod->kX,lt_of_mul_lt_mul_left->lm,testBit_mul_two_pow->lw,mul_div_cancel_left->lx,exists_eq_add_of_le->ly,mul_comm->lB,le_of_succ_le_succ->lI
open Int renaming eq_ofNat_of_zero_le->gD,lt_of_lt_of_le->gM,natCast_nonneg->gP,toNat_of_nonneg->gX,le_antisymm->hZ,le_refl->iy,fdiv_eq_ediv_of_nonneg->iA,ne_of_gt->iD,le_of_eq->iE,lt_trans->iO,mul_fdiv_cancel_left->ja,le_of_lt->jg,le_of_sub_nonneg->jo,pow_pos->jD,natCast_pow->jL,ediv_nonneg->jM,lt_or_le->jP,lt_of_le_of_lt->jU,zero_add->j9,ne_of_lt->ke,le_trans->kJ,toNat_natCast->kQ,mul_nonneg->lc,fmod_eq_emod_of_nonneg->lh,lt_of_mul_lt_mul_left->lp,dvd_of_emod_eq_zero->lz,sub_self->lE,add_zero->lF,sub_nonneg_of_le->lQ
open PySem.Heap renaming get?_push_of_some->gG,lt_size->g8,get?_push_size->hO,get?_update_other->ik,get?_update_self->iu,size_push->i6
open Bool renaming and_eq_true->gI,or_eq_true->ia,false_or->iG,false_ne_true->iN,not_eq_true'->jk,or_true->js,or_false->jv,eq_iff_iff->jN,and_false->jT,false_eq_true->jW,xor_false->ku,false_and->kx,not_true->kE,not_not->kK,and_true->lr,or_eq_false_iff->lR
open LawfulBEq renaming eq_of_beq->gN
open PySem.Calls renaming Name_function_global->iB,callWith_builtin->jh,loadGlobal_global->jx,spliced_cons->jV,spliced_nil->kR,loadGlobal_builtin->lu
open Array renaming getElem?_toList->iF
open Ne renaming symm->iK
open PySem.Heap.SameBut renaming update->iU
open PySem.Obj renaming data_mapFields->jw,isFreed_of_fields->km
open PyProof.Rows renaming wpAny_release'->jQ,callWith_type->lf
open PySem.F renaming excBase_Exception->jX,plainAttrs_str->kU,slot_str_ascii_iterator_next->kW,slot_tuple_iterator_next->li,slot_range_iterator_next->lj
open Option renaming map_some->ki,bind_some->kT
open PySem.W renaming looks_findIn->lA,looks_clsIn->lO
open PySem PySem.W PyProof.Rows
namespace Mine
abbrev gz:=@decide_eq_true
abbrev gH:=@of_decide_eq_true
abbrev gQ:=@beq_eq_false_iff_ne
abbrev gS:=@decide_eq_false
abbrev hG:=@decide_eq_true_eq
abbrev ig:=@bne_iff_ne
abbrev ii:=@of_decide_eq_false
abbrev ip:=@beq_self_eq_true
abbrev iw:=@beq_iff_eq
abbrev iI:=@if_neg
abbrev iJ:=@if_pos
abbrev kG:=@if_true
abbrev kH:=@if_false
abbrev lL:=@or_false
noncomputable abbrev NE:=Nat.Internal.Linear.Expr
noncomputable abbrev IE:=Int.Internal.Linear.Expr
section
noncomputable def rV(L R:NE):Bool:=(Nat.Internal.Linear.ExprCnstr.toNormPoly ⟨false,L,R⟩).isValid
theorem p9(ctx:(Lean.RArray Nat))(L R:NE)(c:rV L R=true):L.denote ctx<=R.denote ctx:=of_eq_true (Nat.Internal.Linear.ExprCnstr.eq_true_of_isValid ctx ⟨false,L,R⟩ c)
theorem tD{ctx:(Lean.RArray Nat)}{L R:NE}(l r:NE)(q:(Nat.Internal.Linear.Expr.add L r).denote ctx<=(Nat.Internal.Linear.Expr.add R l).denote ctx)(h:l.denote ctx<=r.denote ctx):L.denote ctx<=R.denote ctx:=
 Nat.le_of_add_le_add_right (b:=r.denote ctx) (gB (show L.denote ctx+r.denote ctx<=R.denote ctx+l.denote ctx from q) (jb h (R.denote ctx)))
theorem mP(ctx:(Lean.RArray Nat))(L R l r:NE)(c:rV (.add L r) (.add R l)=true)(h:l.denote ctx<=r.denote ctx):L.denote ctx<=R.denote ctx:=tD l r (p9 ctx _ _ c) h
theorem pe(ctx:(Lean.RArray Nat))(L R l r l' r':NE)(c:rV (.add (.add L r) r') (.add (.add R l) l')=true)(h:l.denote ctx<=r.denote ctx)(h':l'.denote ctx<=r'.denote ctx):L.denote ctx<=R.denote ctx:=tD l r (mP ctx _ _ l' r' c h') h
theorem tC(ctx:(Lean.RArray Nat))(L R l r l' r' p s:NE)(c:rV (.add (.add (.add L r) r') s) (.add (.add (.add R l) l') p)=true)(h:l.denote ctx<=r.denote ctx)(h':l'.denote ctx<=r'.denote ctx)(oW:p.denote ctx<=s.denote ctx):L.denote ctx<=R.denote ctx:=tD l r (pe ctx _ _ l' r' p s c h' oW) h
theorem Nl4(ctx:(Lean.RArray Nat))(L R l r l' r' p s p' s':NE)(c:rV (.add (.add (.add (.add L r) r') s) s') (.add (.add (.add (.add R l) l') p) p')=true)(h:l.denote ctx<=r.denote ctx)(h':l'.denote ctx<=r'.denote ctx)(oW:p.denote ctx<=s.denote ctx)(h3:p'.denote ctx<=s'.denote ctx):L.denote ctx<=R.denote ctx:=tD l r (tC ctx _ _ l' r' p s p' s' c h' oW h3) h
theorem Nf2{P:Prop}(ctx:(Lean.RArray Nat))(l r l' r':NE)(c:rV (.add (.add (.num 1) r) r') (.add (.add (.num 0) l) l')=true)(h:l.denote ctx<=r.denote ctx)(h':l'.denote ctx<=r'.denote ctx):P:=absurd (pe ctx (.num 1) (.num 0) l r l' r' c h h') (jF 0)
end
section
theorem qr{ctx:(Lean.RArray Int)}{E:IE}(l r:IE)(q:0<=(Int.Internal.Linear.Expr.add E (.sub l r)).denote ctx)(h:l.denote ctx<=r.denote ctx):0<=E.denote ctx:=by
 have q:0<=E.denote ctx+(l.denote ctx - r.denote ctx):=q
 lia
noncomputable def q9(E:IE):Bool:=match E.norm with
 |.num k=>decide (0<=k)
 |_=>false
theorem sD{ctx:(Lean.RArray Int)}{E:IE}(c:q9 E=true):0<=E.denote ctx:=by
 rw[<- Int.Internal.Linear.Expr.denote_norm]
 unfold q9 at c
 revert c
 cases E.norm with
 |num k=>exact fun c=>gH c
 |add k v p=>exact fun c=>nomatch c
theorem ow(ctx:(Lean.RArray Int))(L R:IE)(c:q9 (.sub R L)=true):L.denote ctx<=R.denote ctx:=jo (sD (ctx:=ctx) c)
theorem mJ(ctx:(Lean.RArray Int))(L R l r:IE)(c:q9 (.add (.sub R L) (.sub l r))=true)(h:l.denote ctx<=r.denote ctx):L.denote ctx<=R.denote ctx:=jo (qr (E:=.sub R L) l r (sD (ctx:=ctx) c) h)
theorem qq(ctx:(Lean.RArray Int))(L R l r l' r':IE)(c:q9 (.add (.add (.sub R L) (.sub l r)) (.sub l' r'))=true)(h:l.denote ctx<=r.denote ctx)(h':l'.denote ctx<=r'.denote ctx):L.denote ctx<=R.denote ctx:=jo (qr (E:=.sub R L) l r (qr l' r' (sD (ctx:=ctx) c) h') h)
theorem tB(ctx:(Lean.RArray Int))(L R l r l' r' p s:IE)(c:q9 (.add (.add (.add (.sub R L) (.sub l r)) (.sub l' r')) (.sub p s))=true)(h:l.denote ctx<=r.denote ctx)(h':l'.denote ctx<=r'.denote ctx)(oW:p.denote ctx<=s.denote ctx):L.denote ctx<=R.denote ctx:=jo (qr (E:=.sub R L) l r (qr l' r' (qr p s (sD (ctx:=ctx) c) oW) h') h)
theorem sC(ctx:(Lean.RArray Int))(L R l r l' r' p s p' s':IE)(c:q9 (.add (.add (.add (.add (.sub R L) (.sub l r)) (.sub l' r')) (.sub p s)) (.sub p' s'))=true)(h:l.denote ctx<=r.denote ctx)(h':l'.denote ctx<=r'.denote ctx)(oW:p.denote ctx<=s.denote ctx)(h3:p'.denote ctx<=s'.denote ctx):L.denote ctx<=R.denote ctx:=jo (qr (E:=.sub R L) l r (qr l' r' (qr p s (qr p' s' (sD (ctx:=ctx) c) h3) oW) h') h)
end
noncomputable abbrev mo{α:Type}(a:α):Lean.RArray α:=.leaf a
noncomputable abbrev mU{α:Type}(a b:α):Lean.RArray α:=.branch 1 (.leaf a) (.leaf b)
noncomputable abbrev nC{α:Type}(a b c:α):Lean.RArray α:=.branch 1 (.leaf a) (.branch 2 (.leaf b) (.leaf c))
noncomputable abbrev Cx4{α:Type}(a b c d:α):Lean.RArray α:=.branch 2 (.branch 1 (.leaf a) (.leaf b)) (.branch 3 (.leaf c) (.leaf d))
noncomputable abbrev Cx5{α:Type}(a b c d e:α):Lean.RArray α:=.branch 2 (.branch 1 (.leaf a) (.leaf b)) (.branch 3 (.leaf c) (.branch 4 (.leaf d) (.leaf e)))
noncomputable abbrev Cx6{α:Type}(a b c d e f:α):Lean.RArray α:=.branch 3 (.branch 1 (.leaf a) (.branch 2 (.leaf b) (.leaf c))) (.branch 4 (.leaf d) (.branch 5 (.leaf e) (.leaf f)))
noncomputable abbrev mu(i k:Nat):NE:=.add (.var i) (.num k)
noncomputable abbrev mm(i:Nat)(k:Int):IE:=.add (.var i) (.num k)
noncomputable abbrev mj:NE:=.var 0
noncomputable abbrev mE:NE:=.var 1
noncomputable abbrev nF:NE:=.var 2
noncomputable abbrev q6:NE:=.var 3
noncomputable abbrev ua:NE:=.var 4
noncomputable abbrev vo:NE:=.var 5
noncomputable abbrev mh:IE:=.var 0
noncomputable abbrev mQ:IE:=.var 1
noncomputable abbrev oI:IE:=.var 2
noncomputable abbrev v3I:IE:=.var 3
noncomputable abbrev v4I:IE:=.var 4
noncomputable abbrev v5I:IE:=.var 5
abbrev qq0{a b c:Int}:=tB (nC a b c) (mm 2 1) (.num 9223372036854775808) mh (.num 1000000) mQ mh (mm 2 1) mQ rfl
abbrev qq1{a b c:Int}:=tB (nC a b c) (.neg (.num 9223372036854775808)) oI mh (.num 1000000) mQ mh (.neg mQ) oI rfl
abbrev qq2{a b c:Int}:=qq (nC a b c) (mm 0 1) oI (mm 0 1) mQ mQ oI rfl
abbrev qq3{a b c:Int}:=tB (nC a b c) (mm 2 1) (.num 9223372036854775808) mh (.num 1000000) mQ mh oI mQ rfl
abbrev qq4{a b c d:Nat}:=tC (Cx4 a b c d) q6 mE mj mE nF mj q6 nF rfl
abbrev qq5{a b:Nat}:=p9 (mU a b) (.add mj (mu 1 1)) (.add (mu 0 1) mE) rfl
abbrev qq6{a b:Nat}:=p9 (mU a b) (.add (mu 0 1) mE) (.add mj (mu 1 1)) rfl
abbrev qq7{a b:Int}:=mJ (mU a b) (.num 0) (.sub (.sub mQ mh) (.num 1)) (mm 0 1) mQ rfl
abbrev tn{a b:Nat}:=mP (mU a b) mj mE mj mE rfl
abbrev qq9{a b c:Nat}:=mP (nC a b c) (mu 0 1) nF (.add (.add (.add mj (.mulL 3 mE)) (.num 4)) (.num 1)) nF rfl
abbrev YB{a b c:Nat}:=mP (nC a b c) (.add (.add (.add (mu 0 3) (.mulL 16 (.num 2))) (.num 16)) (.num 1)) nF (.add (.add (.add mj (.mulL 8 mE)) (.num 53)) (.num 1)) nF rfl
abbrev YC{a b c:Nat}:=mP (nC a b c) (.add (.add (.add (mu 0 1) (.mulL 3 mE)) (.num 3)) (.num 1)) nF (.add (.add (.add mj (.mulL 3 mE)) (.num 4)) (.num 1)) nF rfl
abbrev YD{a b c:Nat}:=mP (nC a b c) (.add (.add (.add (mu 0 3) (.mulL 8 mE)) (.num 50)) (.num 1)) nF (.add (.add (.add mj (.mulL 8 mE)) (.num 53)) (.num 1)) nF rfl
abbrev eY{a b c:Nat}:=mP (nC a b c) (.add (.add (mu 0 1) (.num 2)) (.num 1)) nF (.add (.add (.add mj (.mulL 3 mE)) (.num 4)) (.num 1)) nF rfl
abbrev eZ{a b c:Nat}:=pe (nC a b c) (mu 2 1) mE (mu 0 1) (mu 1 1) (mu 2 1) mj rfl
abbrev e8{a b:Nat}:=pe (mU a b) (mu 1 1) (.num 90) (mu 0 1) (.num 90) (mu 1 1) mj rfl
abbrev e9{a b c:Int}:=mJ (nC a b c) mh (.add mQ (mm 2 1)) mh (.add (mm 1 1) oI) rfl
abbrev cn{a b:Nat}:=mP (mU a b) (.add (.add (mu 0 1) mE) (.num 1)) (.num 100000) (.add (.add mj (mu 1 1)) (.num 1)) (.num 100000) rfl
abbrev fa{a:Int}:=mJ (mo a) (.num 0) mh (.num 1) mh rfl
abbrev YE{a b:Int}:=qq (mU a b) (.add (.neg (.num 1000)) (.num 1)) (.sub mQ mh) (mm 0 1) (.num 10) (.num 0) mQ rfl
abbrev YF{a b:Int}:=qq (mU a b) (.add (.sub mQ mh) (.num 1)) (.num 1000) (.add (.neg (.num 10)) (.num 1)) mh (mm 1 1) (.num 20) rfl
abbrev fc{a b c:Nat}:=pe (nC a b c) (.add (.add (.add mE mj) (.mulL 400 nF)) (.num 1)) (.num 80000) mj (.num 400) (.add (.add mE (.mulL 400 (mu 2 1))) (.num 1)) (.num 80000) rfl
abbrev cq{a b:Int}:=mJ (mU a b) (mm 0 1) mQ (mm 0 1) mQ rfl
abbrev S8{a b:Nat}:=mP (mU a b) (.add (.add (mu 0 1) mE) (.num 1)) (.num 90000) (.add (.add mj (mu 1 1)) (.num 1)) (.num 90000) rfl
abbrev YG{a b:Nat}:=mP (mU a b) (.add (.add mj mE) (.num 1)) (.num 90000) (.add (.add mj (mu 1 1)) (.num 1)) (.num 90000) rfl
abbrev YH{a:Nat}:=mP (mo a) (.add (.add (.num 0) mj) (.num 1)) (.num 90000) (mu 0 1) (.num 80000) rfl
abbrev YI{a:Nat}:=mP (mo a) (mu 0 1) (.num 8) (mu 0 1) (.num 7) rfl
abbrev S9{a:Nat}:=mP (mo a) (mu 0 1) (.num 7) mj (.num 5) rfl
abbrev cr{a:Int}:=mJ (mo a) (.add (.num 0) (.num 1)) (mm 0 1) (.num 0) mh rfl
abbrev Qi{a:Nat}:=mP (mo a) (.num 1) mj (.num 2) mj rfl
abbrev Oz{a:Int}:=mJ (mo a) (.num 0) mh (.num 0) mh rfl
abbrev M6{a:Int}:=mJ (mo a) (.add (.num 0) (.num 1)) mh (.num 2) mh rfl
abbrev fe{a:Nat}:=mP (mo a) (mu 0 1) (.num 1000000) mj (.num 5) rfl
abbrev cu{a:Nat}:=mP (mo a) (mu 0 1) (.num 6) mj (.num 5) rfl
abbrev OA{a:Int}:=mJ (mo a) (.num 0) (mm 0 1) (.num 0) mh rfl
abbrev fg{a b:Nat}:=mP (mU a b) (mu 0 1) (.num 100000) (.add (.add mj (mu 1 1)) (.num 1)) (.num 1000) rfl
abbrev fj{a b:Nat}:=mP (mU a b) (.add (.add (mu 0 1) mE) (.num 1)) (.num 1000) (.add (.add mj (mu 1 1)) (.num 1)) (.num 1000) rfl
abbrev HC{a:Nat}:=mP (mo a) (mu 0 1) (.num 7) (mu 0 1) (.num 6) rfl
abbrev Tb{a:Int}:=mJ (mo a) (.add (.num 0) (.num 1)) mh (.add (.num 0) (.num 1)) mh rfl
abbrev fk{a b:Int}:=ow (mU a b) (.add (mm 0 1) mQ) (.add mh (mm 1 1)) rfl
abbrev fo{a b:Int}:=ow (mU a b) (.add mh (mm 1 1)) (.add (mm 0 1) mQ) rfl
abbrev fp{a:Int}:=ow (mo a) mh (mm 0 0) rfl
abbrev fq{a:Int}:=ow (mo a) (mm 0 0) mh rfl
abbrev fu{a b:Nat}:=mP (mU a b) (mu 0 1) (.num 100000) (.add (.add mj (mu 1 1)) (.num 1)) (.num 90000) rfl
abbrev cv{a:Int}:=mJ (mo a) (.num 0) (.add (.add (mm 0 1) (.num 1)) (.num 1)) (.num 0) mh rfl
abbrev cw{a:Int}:=mJ (mo a) (.num 0) (.add (mm 0 1) (.num 1)) (.num 0) mh rfl
abbrev fv{a:Int}:=mJ (mo a) (.num 0) (.add (.add (.add (mm 0 1) (.num 1)) (.num 1)) (.num 1)) (.num 0) mh rfl
abbrev fw{a:Int}:=mJ (mo a) (mm 0 1) (.num 900) (mm 0 1) (.num 700) rfl
abbrev YJ{a:Int}:=mJ (mo a) (mm 0 1) (.num 900) (mm 0 1) (.num 500) rfl
abbrev cx{a:Int}:=mJ (mo a) (.add (.neg (.num 1)) (.num 1)) mh (.num 0) mh rfl
abbrev YK{a b:Int}:=qq (mU a b) (.num 0) mQ mh mQ (.num 0) mh rfl
abbrev cy{a b:Int}:=qq (mU a b) (.num 0) mh mQ mh (.num 0) mQ rfl
abbrev cz{a:Int}:=mJ (mo a) (mm 0 1) (.num 0) mh (.neg (.num 1)) rfl
abbrev fx{a:Nat}:=p9 (mo a) (.add (.num 82) (.num 1)) (.add (.num 97) mj) rfl
abbrev fy{a:Nat}:=mP (mo a) (.add (.add (.num 49) mj) (.num 1)) (.num 66) (mu 0 1) (.num 9) rfl
abbrev fz{a:Nat}:=p9 (mo a) (.num 66) (.add (.num 97) mj) rfl
theorem Ao{α:Type}{x:α}{P:Prop}(h:none=some x):P:=nomatch h
theorem Rz{α:Type}{x:α}{P:Prop}(h:some x=none):P:=nomatch h
theorem Dd{P:Prop}(h:false=true):P:=nomatch h
theorem FT{P:Prop}(h:true=false):P:=nomatch h
theorem AM{α:Type}{o:Option α}{x:α}{P:Prop}(a:o=none)(b:o=some x):P:=Ao (a.symm.trans b)
theorem Ex{b:Bool}{P:Prop}(a:b=true)(c:b=false):P:=FT (a.symm.trans c)
theorem same{α:Type}{o:Option α}{x y:α}(a:o=some x)(b:o=some y):x=y:=Option.some.inj (a.symm.trans b)
@[elab_as_elim] theorem stp{P:Nat->Prop}{j n:Nat}(hn:j+1<=n)(h:∀n,j+1<=n+1->P (n+1)):P n:=match n,hn with|n+1,hn=>h n hn
inductive V where
 |none
 |bool (b:Bool)
 |int (i:Int)
 |str (s:List Nat)
 |tup (l:List V)
 |mN (l:List V)
 |range (lo hi st:Int)
 |lX (n:Nat)
set_option genInjectivity false in
inductive MO where
 |list (xs:List V)
 |inst (c:Nat) (fs:List (Nat×V))
 |dict (kv:List (Int×V))
noncomputable abbrev MH:=List MO
noncomputable abbrev An:=Nat->Option V
set_option genInjectivity false in
inductive ME where
 |int (i:Int)
 |str (s:List Nat)
 |bool (b:Bool)
 |none
 |lX (x:Nat)
 |lY (x:Nat)
 |bin (op:Operator) (a b:ME)
 |un (op:UnaryOp) (a:ME)
 |and (a b:ME)
 |or (a b:ME)
 |cmp (a:ME) (op:CmpOp) (b:ME)
 |oA (a:ME) (sw:CmpOp) (b:ME) (sy:CmpOp) (c:ME)
 |ite (t a b:ME)
 |call (f:Nat) (as:ME)
 |blt (f:Nat) (as:ME)
 |mz (o:ME) (name:Nat) (as:ME)
 |attr (o:ME) (a:Nat)
 |sub (o i:ME)
 |slice (o lo hi:ME)
 |list (es:ME)
 |tup (es:ME)
 |dict (es:ME)
 |comp (elt:ME) (xs:List Nat) (one:Bool) (it:ME) (cond:ME)
 |nU (elt:ME) (x1:Nat) (pv:ME) (x2:Nat) (nV:ME)
 |nil
 |cons (e r:ME)
set_option genInjectivity false in
inductive MS where
 |skip
 |seq (a b:MS)
 |assign (x:Nat) (e:ME)
 |mq (xs:List Nat) (e:ME)
 |setAttr (o:ME) (a:Nat) (e:ME)
 |nh (o i:ME) (e:ME)
 |aug (x:Nat) (op:Operator) (e:ME)
 |mA (o:ME) (a:Nat) (op:Operator) (e:ME)
 |mM (o i:ME) (op:Operator) (e:ME)
 |expr (e:ME)
 |ret (e:ME)
 |cont
 |ite (t:ME) (a b:MS)
 |mt (xs:List Nat) (one:Bool) (it:ME) (body:MS)
 |m8 (t:ME) (body:MS)
 |raise (c:Nat) (e:ME)
 |nj (e:ME) (c:Nat) (h:MS)
set_option genInjectivity false in
inductive KY where
 |next|cont|ret (v:V)
set_option genInjectivity false in
inductive rc where
 |fn (ps:List Nat) (body:MS)
 |cls (c:Nat) (ps:List Nat) (body:MS)
abbrev Ae:=V->MH->Prop
abbrev As:=Nat->MH->Prop
abbrev Az:=Nat->List V->Ae->As->MH->Prop
noncomputable def lim:Nat:=1000000
noncomputable def sx(l:List Nat):Str:=⟨l.toArray⟩
def pZ(s:List Nat):Prop:=s.length<=lim/\∀c∈s,c<128
noncomputable def Hp:List V->Option (List Int)
 |[]=>some []
 |.int i :: r=>(Hp r).map (i :: ·)
 |_ :: _=>Option.none
noncomputable def BE:List V->Option (List (List Nat))
 |[]=>some []
 |.str s :: r=>(BE r).map (s :: ·)
 |_ :: _=>Option.none
def opt{α:Type}(o:Option α)(k:α->Prop):Prop:=@Option.rec α (fun _=>Prop) False (fun a=>k a) o
def pU(b:Bool)(p q:Prop):Prop:=@Bool.rec (fun _=>Prop) q p b
def A7(b:Bool)(p:Prop):Prop:=@Bool.rec (fun _=>Prop) False p b
theorem Aq{α:Type}{o:Option α}{k:α->Prop}(h:opt o k):∃a,o=some a/\k a:=by
 induction o with
 |none=>exact h.elim
 |some a=>exact⟨a,rfl,h⟩
theorem A6{b:Bool}{p:Prop}(h:A7 b p):b=true/\p:=by
 cases b with
 |true=>exact⟨rfl,h⟩
 |false=>exact h.elim
theorem Ag{c:Prop}[Decidable c]{p:Prop}(h:A7 (decide c) p):c/\p:=⟨gH (A6 h).1,(A6 h).2⟩
theorem X3{c:Prop}[Decidable c]{p:Prop}(hc:c)(h:p):A7 (decide c) p:=by rw[gz hc];exact h
theorem Vz{α:Type}{o:Option α}{k:α->Prop}{a:α}(e:o=some a)(h:k a):opt o k:=by rw[e];exact h
noncomputable def By(μ:MH)(n:Nat):Option (List V):=match μ[n]? with
 |some o=>(match o with|.list xs=>some xs|_=>none)
 |none=>none
theorem Ba{μ:MH}{n:Nat}{xs:List V}(h:By μ n=some xs):μ[n]?=some (.list xs):=by
 unfold By at h
 revert h
 cases μ[n]? with
 |none=>exact fun h=>nomatch h
 |some o=>induction o with
  |list ys=>exact fun h=>by obtain rfl:=Option.some.inj h;rfl
  |_=>exact fun h=>nomatch h
noncomputable def AZ(μ:MH):Nat->V->Option PyData
 |0,v=>(match v with
  |.none=>some .none
  |.bool b=>some (.bool b)
  |.int i=>some (.int i)
  |.str s=>some (.str (sx s))
  |_=>none)
 |n+1,v=>(match v with
  |.none=>some .none
  |.bool b=>some (.bool b)
  |.int i=>some (.int i)
  |.str s=>some (.str (sx s))
  |.tup l=>(l.mapM (AZ μ n)).map .tuple
  |.lX a=>(By μ a).bind fun xs=>(xs.mapM (AZ μ n)).map .list
  |_=>none)
noncomputable def rZ(μ:MH)(a b:V):Option Bool:=(AZ μ 5 a).bind fun x=>(AZ μ 5 b).map fun y=>PyData.eqv x y
noncomputable def rm(μ:MH)(a b:V):Option Bool:=match a with
 |.int x=>(match b with|.int y=>some (x==y)|_=>rZ μ a b)
 |.str x=>(match b with|.str y=>some (x==y)|_=>rZ μ a b)
 |.bool x=>(match b with|.bool y=>some (x==y)|_=>rZ μ a b)
 |_=>rZ μ a b
noncomputable def D2:V->Option Bool
 |.none=>some false
 |.bool b=>some b
 |.int i=>some (i != 0)
 |_=>none
noncomputable def Cy:V->Option Int
 |.int i=>some i
 |_=>none
noncomputable def OL:V->Option Nat
 |.str s=>(match s with|[c]=>some c|_=>none)
 |_=>none
noncomputable def inV(μ:MH)(a b:V):Option Bool:=match b with
 |.str s=>(OL a).map fun c=>decide (c∈s)
 |.tup l=>(match a with
  |.str x=>(BE l).map fun ss=>ss.any (·==x)
  |.int x=>(Hp l).map fun ns=>ns.any (·==x)
  |_=>none)
 |.lX n=>(match a with
  |.str x=>(By μ n).bind fun l=>(BE l).map fun ss=>ss.any (·==x)
  |_=>none)
 |_=>none
noncomputable def bc(a:V):Bool:=match a with|.none=>true|_=>false
noncomputable def Oi(a b:V)(f:Int->Int->Bool):Option Bool:=(Cy a).bind fun x=>(Cy b).map fun y=>f x y
noncomputable def JB(μ:MH)(op:CmpOp)(a b:V):Option Bool:=match op with
 |.Eq=>rm μ a b
 |.NotEq=>(rm μ a b).map (!·)
 |.Lt=>Oi a b fun x y=>decide (x<y)
 |.LtE=>Oi a b fun x y=>decide (x<=y)
 |.Gt=>Oi a b fun x y=>decide (y<x)
 |.GtE=>Oi a b fun x y=>decide (y<=x)
 |.Is=>(match b with|.none=>some (bc a)|_=>none)
 |.IsNot=>(match b with|.none=>some (!bc a)|_=>none)
 |.In=>inV μ a b
 |_=>none
noncomputable def CU(len:Nat)(i:Int):Option Nat:=
 if 0<=i then(if i<(len:Int)then some i.toNat else Option.none)
 else(if 0<=i+len then some (i+len).toNat else Option.none)
noncomputable def Bn:List (Int×V)->Int->Option V
 |[],_=>Option.none
 |(k,v) :: r,i=>if k=i then some v else Bn r i
noncomputable def OR(l:List V)(i:Int):Option V:=(CU l.length i).bind (l[·]?)
noncomputable def B8(μ:MH)(a b:V):Option V:=(Cy b).bind fun i=>match a with
 |.lX n=>(match μ[n]? with
  |some o=>(match o with
   |.list xs=>OR xs i
   |.dict kv=>Bn kv i
   |_=>none)
  |none=>none)
 |.tup l=>OR l i
 |.str s=>(CU s.length i).bind fun k=>(s[k]?).map fun c=>.str [c]
 |_=>none
noncomputable def Mg(len:Nat)(d:Nat):V->Option Nat
 |.none=>some d
 |.int i=>some (if 0<=i then min i.toNat len else(i+len).toNat)
 |_=>Option.none
noncomputable def cut{α:Type}(l:List α)(a b:Nat):List α:=(l.take b).drop a
noncomputable def Xx:List (Nat×V)->Nat->Option V
 |[],_=>Option.none
 |(k,v) :: r,a=>if k=a then some v else Xx r a
noncomputable def Ox:List (Nat×V)->Nat->V->List (Nat×V)
 |[],a,v=>[(a,v)]
 |(k,w) :: r,a,v=>if k=a then(k,v) :: r else(k,w) :: Ox r a v
noncomputable def AE(c:Nat):List Nat->Int->Int
 |[],_=> -1
 |x :: r,i=>if x=c then i else AE c r (i+1)
noncomputable def Ct:Nat->Int->Int->List V
 |0,_,_=>[]
 |k+1,a,st=>.int a :: Ct k (a+st) st
noncomputable def Cs(lo hi st:Int):Nat:=
 if 0<st then(if lo<hi then((hi - lo - 1) / st+1).toNat else 0)
 else(if hi<lo then((lo - hi - 1) / (-st)+1).toNat else 0)
noncomputable def C6(μ:MH):V->Option (List V×Option (Nat×List V))
 |.tup l=>some (l,none)
 |.range lo hi st=>some (Ct (Cs lo hi st) lo st,none)
 |.str s=>some (s.map fun c=>.str [c],none)
 |.lX n=>(By μ n).map fun xs=>(xs,some (n,xs))
 |_=>none
def HG(c:Option (Nat×List V))(μ:MH):Prop:=match c with
 |Option.none=>True
 |some (n,xs)=>μ[n]?=some (.list xs)
noncomputable def Ad(env:An)(x:Nat)(v:V):An:=fun y=>if y=x then some v else env y
noncomputable def AG(xs:List Nat)(env:An):An:=fun y=>if xs.contains y then Option.none else env y
noncomputable def CP:List Nat->List V->An->Option An
 |[],vs,env=>(match vs with|[]=>some env|_ :: _=>Option.none)
 |x :: xs,vs,env=>(match vs with|[]=>Option.none|v :: vs=>CP xs vs (Ad env x v))
noncomputable def AC(xs:List Nat)(one:Bool)(v:V)(env:An):Option An:=
 match one with
 |true=>CP xs [v] env
 |false=>(match v with
  |.tup l=>CP xs l env
  |_=>Option.none)
abbrev Au:=KY->An->MH->Prop
noncomputable def small(x:Int):Bool:=decide (x.natAbs<2 ^ 62)
noncomputable def HE(x:Int):Bool:=decide (x.natAbs<2 ^ 60)
def ak(op:Operator)(x y:Int)(K:Int->Prop):Prop:=match op with
 |.Add=>K (x+y)
 |.Sub=>K (x - y)
 |.Mult=>A7 (small x) (A7 (small y) (K (x*y)))
 |.FloorDiv=>A7 (decide (y≠0)) (A7 (small y) (K (x.fdiv y)))
 |.Mod=>A7 (decide (y≠0)) (K (x.fmod y))
 |.LShift=>A7 (decide (0<=y)) (A7 (decide (y<1000)) (A7 (small x) (K (x*2 ^ y.toNat))))
 |.RShift=>A7 (decide (0<=y)) (K (x.fdiv (2 ^ y.toNat)))
 |.BitAnd=>K (Builtin.bitAnd x y)
 |.BitOr=>K (Builtin.bitOr x y)
 |.BitXor=>K (Builtin.bitXor x y)
 |_=>False
def Wf(op:Operator)(x y:List Nat)(K:List Nat->Prop):Prop:=match op with
 |.Add=>A7 (decide (x.length+y.length<=lim)) (K (x++y))
 |_=>False
def rep(op:Operator)(l:Nat)(n:Int)(Q:Ae)(μ:MH):Prop:=match op with
 |.Mult=>opt (By μ l) fun xs=>match xs with
  |[x]=>A7 (decide (0<=n)) (A7 (decide (n<=1000)) (Q (.lX μ.length) (μ++[.list (List.replicate n.toNat x)])))
  |_=>False
 |_=>False
def al(op:Operator)(a b:V)(Q:Ae)(μ:MH):Prop:=match a with
 |.int x=>(match b with|.int y=>ak op x y fun i=>Q (.int i) μ|_=>False)
 |.str x=>(match b with|.str y=>Wf op x y fun s=>Q (.str s) μ|_=>False)
 |.lX l=>(match b with|.int n=>rep op l n Q μ|_=>False)
 |_=>False
def ez(op:Operator)(l m:Nat)(Q:Ae)(μ:MH):Prop:=match op with
 |.Add=>A7 (decide (l≠m)) (opt (By μ l) fun xs=>opt (By μ m) fun ys=>A7 (decide (xs.length+ys.length<=lim)) (Q (.lX l) (μ.set l (.list (xs++ys)))))
 |_=>False
def TH(op:Operator)(a b:V)(Q:Ae)(μ:MH):Prop:=match a with
 |.int x=>(match b with|.int y=>(match op with|.LShift=>False|.Mod=>False|.BitAnd=>False|_=>ak op x y fun i=>Q (.int i) μ)|_=>False)
 |.str x=>(match b with|.str y=>Wf op x y fun s=>Q (.str s) μ|_=>False)
 |.lX l=>(match b with|.lX m=>ez op l m Q μ|_=>False)
 |_=>False
def unW(op:UnaryOp)(a:V)(Q:V->Prop):Prop:=match a with
 |.int x=>(match op with|.USub=>Q (.int (-x))|.Invert=>Q (.int (-x - 1))|_=>False)
 |_=>False
def gc(v:V)(μ:MH)(K:Nat->Prop):Prop:=match v with
 |.str s=>K s.length
 |.lX n=>opt (By μ n) fun xs=>K xs.length
 |.tup l=>K l.length
 |_=>False
noncomputable def one:List V->Option V
 |[v]=>some v
 |_=>none
noncomputable def two:List V->Option (V×V)
 |[v,w]=>some (v,w)
 |_=>none
noncomputable def tY:List V->Option (V×V×V)
 |[v,w,u]=>some (v,w,u)
 |_=>none
theorem bW{as:List V}{v:V}(h:one as=some v):as=[v]:=by
 unfold one at h;split at h
 ·obtain rfl:=Option.some.inj h;rfl
 ·exact Ao h
theorem dB{as:List V}{p:V×V}(h:two as=some p):as=[p.1,p.2]:=by
 unfold two at h;split at h
 ·obtain rfl:=Option.some.inj h;rfl
 ·exact Ao h
theorem dv{as:List V}{p:V×V×V}(h:tY as=some p):as=[p.1,p.2.1,p.2.2]:=by
 unfold tY at h;split at h
 ·obtain rfl:=Option.some.inj h;rfl
 ·exact Ao h
theorem Fb{v:V}{i:Int}(h:Cy v=some i):v=.int i:=by induction v using V.casesOn<;>cases h;rfl
theorem Kh{v:V}{c:Nat}(h:OL v=some c):v=.str [c]:=by
 induction v using V.casesOn with
 |str s=>
  match s,h with
  |[d],h=>obtain rfl:=Option.some.inj h;rfl
  |[],h=>exact Ao h
  |_ :: _ :: _,h=>exact Ao h
 |_=>exact Ao h
def Qk(as:List V)(Q:Ae)(μ:MH):Prop:=match as.length with
  |1=>opt (one as) fun v=>opt (Cy v) fun n=>A7 (HE n) (Q (.range 0 n 1) μ)
  |2=>opt (two as) fun p=>opt (Cy p.1) fun a=>opt (Cy p.2) fun b=>A7 (HE a) (A7 (HE b) (Q (.range a b 1) μ))
  |3=>opt (tY as) fun p=>opt (Cy p.1) fun a=>opt (Cy p.2.1) fun b=>opt (Cy p.2.2) fun c=>A7 (decide (c≠0)) (A7 (HE a) (A7 (HE b) (A7 (HE c) (Q (.range a b c) μ))))
  |_=>False
def dP(f:Nat)(as:List V)(Q:Ae)(μ:MH):Prop:=match f with
 |0=>opt (one as) fun v=>gc v μ fun n=>Q (.int n) μ
 |1=>opt (one as) fun v=>opt (Cy v) fun i=>Q (.int i.natAbs) μ
 |2=>opt (two as) fun p=>opt (Cy p.1) fun i=>opt (Cy p.2) fun j=>Q (.int (if i<j then j else i)) μ
 |3=>opt (one as) fun v=>opt (Cy v) fun i=>A7 (decide (0<=i)) (A7 (decide (i<10)) (Q (.str [48+i.toNat]) μ))
 |4=>Qk as Q μ
 |_=>False
noncomputable def Ei:List V->Option (List V×V)
 |[]=>none
 |[x]=>some ([],x)
 |x :: y :: r=>(Ei (y :: r)).map fun p=>(x :: p.1,p.2)
def U8(o:V)(f:Nat)(as:List V)(Q:Ae)(μ:MH):Prop:=match o with
 |.lX n=>(match f with
  |0=>opt (one as) fun v=>opt (By μ n) fun xs=>A7 (decide (xs.length<lim)) (Q .none (μ.set n (.list (xs++[v]))))
  |1=>A7 as.isEmpty (opt (By μ n) fun xs=>opt (Ei xs) fun p=>Q p.2 (μ.set n (.list p.1)))
  |_=>False)
 |.str s=>(match f with
  |2=>opt (one as) fun v=>opt (OL v) fun c=>Q (.int (AE c s 0)) μ
  |3=>A7 as.isEmpty (opt (OL (.str s)) fun c=>A7 (decide (65<=c)) (A7 (decide (c<=90)) (Q (.str [c+32]) μ)))
  |4=>A7 s.isEmpty (opt (one as) fun v=>(match v with|.lX n=>opt (By μ n) fun xs=>opt (BE xs) fun ss=>A7 (decide (ss.flatten.length<=lim)) (Q (.str ss.flatten) μ)|_=>False))
  |_=>False)
 |_=>False
noncomputable def ZV(o:V)(f:Nat)(μ:MH):Bool:=match o with
 |.lX n=>decide (f<2)&&(By μ n).isSome
 |.str _=>decide (2<=f)&&decide (f<5)
 |_=>false
def V6(o lo hi:V)(Q:Ae)(μ:MH):Prop:=match o with
 |.str s=>opt (Mg s.length 0 lo) fun a=>opt (Mg s.length s.length hi) fun b=>Q (.str (cut s a b)) μ
 |.mN l=>opt (Mg l.length 0 lo) fun a=>opt (Mg l.length l.length hi) fun b=>Q (.lX μ.length) (μ++[.list (cut l a b)])
 |.lX n=>opt (By μ n) fun l=>opt (Mg l.length 0 lo) fun a=>opt (Mg l.length l.length hi) fun b=>Q (.lX μ.length) (μ++[.list (cut l a b)])
 |_=>False
noncomputable def UH(μ:MH)(n:Nat):Option (Nat×List (Nat×V)):=match μ[n]? with
 |some o=>(match o with|.inst c fs=>some (c,fs)|_=>none)
 |none=>none
theorem Lk{μ:MH}{n:Nat}{p:Nat×List (Nat×V)}(h:UH μ n=some p):μ[n]?=some (.inst p.1 p.2):=by
 unfold UH at h
 revert h
 cases μ[n]? with
 |none=>exact fun h=>nomatch h
 |some o=>induction o with
  |inst c fs=>exact fun h=>by obtain rfl:=Option.some.inj h;rfl
  |_=>exact fun h=>nomatch h
noncomputable def QR(μ:MH)(o:V)(a:Nat):Option V:=match o with
 |.lX n=>(UH μ n).bind fun p=>Xx p.2 a
 |_=>none
def Ke(o:V)(a:Nat)(v:V)(Q:MH->Prop)(μ:MH):Prop:=match o with
 |.lX n=>opt (UH μ n) fun p=>A7 (decide (p.2.length<900)) (Q (μ.set n (.inst p.1 (Ox p.2 a v))))
 |_=>False
def M9(o i v:V)(Q:MH->Prop)(μ:MH):Prop:=match o with
 |.lX n=>(match i with|.int k=>opt (By μ n) fun xs=>A7 (decide (0<=k)) (A7 (decide (k<xs.length)) (Q (μ.set n (.list (xs.set k.toNat v)))))|_=>False)
 |_=>False
def nB(c:Option (Nat×List V))(μ:MH)(p:Prop):Prop:=match c with
 |none=>p
 |some (n,xs)=>μ[n]?=some (.list xs)/\p
theorem A2{c:Option (Nat×List V)}{μ:MH}{p:Prop}(h:nB c μ p):HG c μ/\p:=by
 cases c with
 |none=>exact⟨trivial,h⟩
 |some c=>exact h
noncomputable def Bz(c:Option (Nat×List V))(step:V->Au->An->MH->Prop):List V->Au->An->MH->Prop
 |[],Q,env,μ=>nB c μ (Q .next env μ)
 |v :: r,Q,env,μ=>nB c μ (step v (fun fl env' μ'=>match fl with
   |.ret w=>Q (.ret w) env' μ'
   |_=>Bz c step r Q env' μ') env μ)
noncomputable def EI(test:(Bool->MH->Prop)->An->MH->Prop)(body:Au->An->MH->Prop):Nat->Au->An->MH->Prop
 |0,_,_,_=>False
 |n+1,Q,env,μ=>test (fun b μ'=>pU b (body (fun fl env' om=>match fl with
   |.ret w=>Q (.ret w) env' om
   |_=>EI test body n Q env' om) env μ') (Q .next env μ')) env μ
@[irreducible] noncomputable def Xs(c:Option (Nat×List V))(step:V->Au->An->MH->Prop)(l:List V)(Q:Au)(env:An)(μ:MH):Prop:=Bz c step l Q env μ
theorem Rk(c:Option (Nat×List V))(step:V->Au->An->MH->Prop)(l:List V)(Q:Au)(env:An)(μ:MH):Xs c step l Q env μ=Bz c step l Q env μ:=by unfold Xs;rfl
@[irreducible] noncomputable def Nn(test:(Bool->MH->Prop)->An->MH->Prop)(body:Au->An->MH->Prop)(n:Nat)(Q:Au)(env:An)(μ:MH):Prop:=EI test body n Q env μ
theorem LP(test:(Bool->MH->Prop)->An->MH->Prop)(body:Au->An->MH->Prop)(n:Nat)(Q:Au)(env:An)(μ:MH):Nn test body n Q env μ=EI test body n Q env μ:=by unfold Nn;rfl
noncomputable def Dq(c:Option (Nat×List V))(r:Nat)(cond:V->(Bool->MH->Prop)->MH->Prop)(elt:V->Ae->MH->Prop):List V->(MH->Prop)->MH->Prop
 |[],Q,μ=>nB c μ (Q μ)
 |v :: t,Q,μ=>nB c μ (cond v (fun b μ'=>pU b (
   elt v (fun w om=>opt (By om r) fun xs=>A7 (decide (xs.length<lim)) (Dq c r cond elt t Q (om.set r (.list (xs++[w]))))) μ')
   (Dq c r cond elt t Q μ')) μ)
noncomputable def Hm(c:Option (Nat×List V))(inner:V->(MH->Prop)->MH->Prop):List V->(MH->Prop)->MH->Prop
 |[],Q,μ=>nB c μ (Q μ)
 |v :: t,Q,μ=>nB c μ (inner v (fun μ'=>Hm c inner t Q μ') μ)
@[irreducible] noncomputable def OS(μ:MH)(o i:V):Option V:=B8 μ o i
theorem IL(μ:MH)(o i:V):OS μ o i=B8 μ o i:=by unfold OS;rfl
noncomputable def PE(o:Option MO):Bool:=match o with|some (.dict [])=>true|_=>false
noncomputable def ZQ(a:V)(kv:List (Int×V)):Option Int:=match a with
 |.int i=>(match kv.all fun p=>decide (p.1≠i)with|true=>some i|false=>none)
 |_=>none
noncomputable def Re(hd:Bool)(c:Nat):Nat:=match hd with|true=>c+10|false=>c
noncomputable def DW(raised clause:Nat):Bool:=raised % 10==clause||(raised % 10==3&&clause==2)
noncomputable def Hs:MS->Bool
 |.seq a b=>(match a with|.ret e=>(match e with|.none=>(match b with|.skip=>true|_=>false)|_=>false)|_=>false)
 |_=>false
section
variable(G:Nat->Option V)(Φ:Az)
mutual
noncomputable def we(env:An):ME->Ae->As->MH->Prop
 |.int i,Q,_,μ=>Q (.int i) μ
 |.str s,Q,_,μ=>Q (.str s) μ
 |.bool b,Q,_,μ=>Q (.bool b) μ
 |.none,Q,_,μ=>Q .none μ
 |.lX x,Q,_,μ=>opt (env x) fun v=>Q v μ
 |.lY x,Q,_,μ=>opt (G x) fun v=>Q v μ
 |.bin op a b,Q,X,μ=>we env a (fun u μ₁=>we env b (fun v μ₂=>al op u v Q μ₂) X μ₁) X μ
 |.un op a,Q,X,μ=>match op with
  |.Not=>we env a (fun u μ₁=>opt (D2 u) fun b=>Q (.bool (!b)) μ₁) X μ
  |op=>we env a (fun u μ₁=>unW op u fun v=>Q v μ₁) X μ
 |.and a b,Q,X,μ=>we env a (fun u μ₁=>opt (D2 u) fun c=>pU c (we env b Q X μ₁) (Q u μ₁)) X μ
 |.or a b,Q,X,μ=>we env a (fun u μ₁=>opt (D2 u) fun c=>pU c (Q u μ₁) (we env b Q X μ₁)) X μ
 |.cmp a op b,Q,X,μ=>we env a (fun u μ₁=>we env b (fun v μ₂=>opt (JB μ₂ op u v) fun c=>Q (.bool c) μ₂) X μ₁) X μ
 |.oA a sw b sy c,Q,X,μ=>we env a (fun u μ₁=>we env b (fun v μ₂=>opt (JB μ₂ sw u v) fun r=>
   pU r (we env c (fun w μ₃=>opt (JB μ₃ sy v w) fun q=>Q (.bool q) μ₃) X μ₂) (Q (.bool false) μ₂)) X μ₁) X μ
 |.ite t a b,Q,X,μ=>wt env t (fun c μ₁=>pU c (we env a Q X μ₁) (we env b Q X μ₁)) X μ
 |.call f as,Q,X,μ=>wl env as (fun vs μ₁=>Φ f vs Q X μ₁) X μ
 |.blt f as,Q,X,μ=>wl env as (fun vs μ₁=>dP f vs Q μ₁) X μ
 |.mz o f as,Q,X,μ=>we env o (fun u μ₁=>A7 (ZV u f μ₁) (wl env as (fun vs μ₂=>U8 u f vs Q μ₂) X μ₁)) X μ
 |.attr o a,Q,X,μ=>we env o (fun u μ₁=>opt (QR μ₁ u a) fun v=>Q v μ₁) X μ
 |.sub o i,Q,X,μ=>we env o (fun u μ₁=>we env i (fun v μ₂=>opt (OS μ₂ u v) fun w=>Q w μ₂) X μ₁) X μ
 |.slice o lo hi,Q,X,μ=>we env o (fun u μ₁=>we env lo (fun v μ₂=>we env hi (fun w μ₃=>V6 u v w Q μ₃) X μ₂) X μ₁) X μ
 |.list es,Q,X,μ=>wl env es (fun vs μ₁=>A7 (decide (vs.length<=lim)) (Q (.lX μ₁.length) (μ₁++[.list vs]))) X μ
 |.tup es,Q,X,μ=>wl env es (fun vs μ₁=>A7 (decide (vs.length<=lim)) (Q (.tup vs) μ₁)) X μ
 |.dict es,Q,X,μ=>wd env es (fun kv μ₁=>A7 (PE μ₁[μ.length]?) (A7 (decide (kv.length<=15)) (Q (.lX μ.length) (μ₁.set μ.length (.dict kv))))) X (μ++[.dict []])
 |.comp elt xs one it cond,Q,X,μ=>we env it (fun s μ₁=>opt (C6 μ₁ s) fun p=>
   Dq p.2 μ₁.length (fun v K μ'=>opt (AC xs one v (AG xs env)) fun e=>wt e cond K (fun _ _=>False) μ')
    (fun v K μ'=>opt (AC xs one v (AG xs env)) fun e=>we e elt K (fun _ _=>False) μ') p.1 (Q (.lX μ₁.length)) (μ₁++[.list []])) X μ
 |.nU elt x1 pv x2 nV,Q,X,μ=>we env pv (fun s μ₁=>opt (C6 μ₁ s) fun p=>
   Hm p.2 (fun v K μ'=>we (Ad (AG [x1,x2] env) x1 v) nV (fun s2 μ₂=>opt (C6 μ₂ s2) fun p2=>
    Dq p2.2 μ₁.length (fun _ K' om=>K' true om) (fun v2 K' om=>we (Ad (Ad (AG [x1,x2] env) x1 v) x2 v2) elt K' (fun _ _=>False) om) p2.1 K μ₂) (fun _ _=>False) μ')
    p.1 (Q (.lX μ₁.length)) (μ₁++[.list []])) X μ
 |.nil,_,_,_=>False
 |.cons _ _,_,_,_=>False
noncomputable def wt(env:An):ME->(Bool->MH->Prop)->As->MH->Prop
 |.un op a,Q,X,μ=>match op with
  |.Not=>wt env a (fun b μ₁=>Q (!b) μ₁) X μ
  |_=>False
 |.and a b,Q,X,μ=>wt env a (fun c μ₁=>pU c (wt env b Q X μ₁) (Q false μ₁)) X μ
 |.or a b,Q,X,μ=>wt env a (fun c μ₁=>pU c (Q true μ₁) (wt env b Q X μ₁)) X μ
 |.ite t a b,Q,X,μ=>wt env t (fun c μ₁=>pU c (wt env a Q X μ₁) (wt env b Q X μ₁)) X μ
 |.cmp a op b,Q,X,μ=>we env a (fun u μ₁=>we env b (fun v μ₂=>opt (JB μ₂ op u v) fun c=>Q c μ₂) X μ₁) X μ
 |.oA a sw b sy c,Q,X,μ=>we env a (fun u μ₁=>we env b (fun v μ₂=>opt (JB μ₂ sw u v) fun r=>
   pU r (we env c (fun w μ₃=>opt (JB μ₃ sy v w) fun q=>Q q μ₃) X μ₂) (Q false μ₂)) X μ₁) X μ
 |.bool b,Q,_,μ=>Q b μ
 |.lX x,Q,_,μ=>opt (env x) fun v=>opt (D2 v) fun c=>Q c μ
 |.bin op a b,Q,X,μ=>we env a (fun u μ₁=>we env b (fun v μ₂=>al op u v (fun w μ₃=>opt (D2 w) fun c=>Q c μ₃) μ₂) X μ₁) X μ
 |.call f as,Q,X,μ=>wl env as (fun vs μ₁=>Φ f vs (fun w μ₃=>opt (D2 w) fun c=>Q c μ₃) X μ₁) X μ
 |.attr o a,Q,X,μ=>we env o (fun u μ₁=>opt (QR μ₁ u a) fun v=>opt (D2 v) fun c=>Q c μ₁) X μ
 |.int _,_,_,_=>False
 |.str _,_,_,_=>False
 |.none,_,_,_=>False
 |.lY _,_,_,_=>False
 |.blt _ _,_,_,_=>False
 |.mz _ _ _,_,_,_=>False
 |.sub _ _,_,_,_=>False
 |.slice _ _ _,_,_,_=>False
 |.list _,_,_,_=>False
 |.tup _,_,_,_=>False
 |.dict _,_,_,_=>False
 |.comp _ _ _ _ _,_,_,_=>False
 |.nU _ _ _ _ _,_,_,_=>False
 |.nil,_,_,_=>False
 |.cons _ _,_,_,_=>False
noncomputable def wl(env:An):ME->(List V->MH->Prop)->As->MH->Prop
 |.nil,Q,_,μ=>Q [] μ
 |.cons e r,Q,X,μ=>we env e (fun v μ₁=>wl env r (fun vs μ₂=>Q (v :: vs) μ₂) X μ₁) X μ
 |_,_,_,_=>False
noncomputable def wd(env:An):ME->(List (Int×V)->MH->Prop)->As->MH->Prop
 |.nil,Q,_,μ=>Q [] μ
 |.cons e r,Q,X,μ=>match e with
  |.cons k v=>we env k (fun a μ₁=>we env v (fun b μ₂=>wd env r (fun kv μ₃=>opt (ZQ a kv) fun i=>Q ((i,b) :: kv) μ₃) X μ₂) X μ₁) X μ
  |_=>False
 |_,_,_,_=>False
end
end
section
variable(G:Nat->Option V)(Φ:Bool->Az)
noncomputable def ws:Bool->MS->Au->As->An->MH->Prop
 |_,.skip,Q,_,env,μ=>Q .next env μ
 |hd,.seq a b,Q,X,env,μ=>ws hd a (fun fl env' μ'=>match fl with
   |.next=>ws hd b Q X env' μ'
   |f=>Q f env' μ') X env μ
 |hd,.assign x e,Q,X,env,μ=>we G (Φ hd) env e (fun v μ'=>Q .next (Ad env x v) μ') X μ
 |hd,.mq xs e,Q,X,env,μ=>we G (Φ hd) env e (fun v μ'=>opt (AC xs false v env) fun env'=>Q .next env' μ') X μ
 |hd,.setAttr o a e,Q,X,env,μ=>we G (Φ hd) env e (fun v μ₁=>we G (Φ hd) env o (fun u μ₂=>Ke u a v (Q .next env) μ₂) X μ₁) X μ
 |hd,.nh o i e,Q,X,env,μ=>we G (Φ hd) env e (fun v μ₁=>we G (Φ hd) env o (fun u μ₂=>we G (Φ hd) env i (fun k μ₃=>M9 u k v (Q .next env) μ₃) X μ₂) X μ₁) X μ
 |hd,.aug x op e,Q,X,env,μ=>opt (env x) fun u=>we G (Φ hd) env e (fun v μ₁=>TH op u v (fun w μ₂=>Q .next (Ad env x w) μ₂) μ₁) X μ
 |hd,.mA o a op e,Q,X,env,μ=>we G (Φ hd) env o (fun u μ₁=>opt (QR μ₁ u a) fun w=>we G (Φ hd) env e (fun v μ₂=>TH op w v (fun y μ₃=>Ke u a y (Q .next env) μ₃) μ₂) X μ₁) X μ
 |hd,.mM o i op e,Q,X,env,μ=>we G (Φ hd) env o (fun u μ₁=>we G (Φ hd) env i (fun k μ₂=>opt (OS μ₂ u k) fun w=>we G (Φ hd) env e (fun v μ₃=>TH op w v (fun y μ₄=>M9 u k y (Q .next env) μ₄) μ₃) X μ₂) X μ₁) X μ
 |hd,.expr e,Q,X,env,μ=>we G (Φ hd) env e (fun _ μ'=>Q .next env μ') X μ
 |hd,.ret e,Q,X,env,μ=>we G (Φ hd) env e (fun v μ'=>Q (.ret v) env μ') X μ
 |_,.cont,Q,_,env,μ=>Q .cont env μ
 |hd,.ite t a b,Q,X,env,μ=>wt G (Φ hd) env t (fun c μ'=>pU c (ws hd a Q X env μ') (ws hd b Q X env μ')) X μ
 |hd,.mt xs one it body,Q,X,env,μ=>we G (Φ hd) env it (fun s μ₁=>opt (C6 μ₁ s) fun p=>
   Xs p.2 (fun v K env' μ'=>opt (AC xs one v env') fun e=>ws hd body K X e μ') p.1 Q env μ₁) X μ
 |hd,.m8 t body,Q,X,env,μ=>Nn (fun K env' μ'=>wt G (Φ hd) env' t K X μ') (fun K env' μ'=>ws hd body K X env' μ') 100 Q env μ
 |hd,.raise c e,_,X,env,μ=>A7 (decide (1<=c)) (A7 (decide (c<=3)) (we G (Φ hd) env e (fun v μ'=>match v with|.str _=>X (Re hd c) μ'|_=>False) X μ))
 |hd,.nj e c h,Q,X,env,μ=>A7 (!hd) (we G (Φ false) env e (fun v μ'=>Q (.ret v) env μ') (fun r μ'=>pU (DW r c) (A7 (decide (r<10)||Hs h) (ws true h Q X env μ')) (X r μ')) μ)
end
noncomputable def Ak(G:Nat->Option V)(prog:Nat->Option rc):Nat->Bool->Az
 |0,_=>fun _ _ _ _ _=>False
 |n+1,hd=>fun f vs Q X μ=>opt (prog f) fun F=>match F with
  |.fn ps body=>opt (CP ps vs (fun _=>none)) fun env=>ws G (Ak G prog n) hd body (fun fl _ μ'=>match fl with
     |.ret v=>Q v μ'
     |.next=>Q .none μ'
     |.cont=>False) X env μ
  |.cls c ps body=>opt (CP ps (.lX μ.length :: vs) (fun _=>none)) fun env=>ws G (Ak G prog n) hd body (fun fl _ μ'=>match fl with
     |.next=>Q (.lX μ.length) μ'
     |_=>False) (fun _ _=>False) env (μ++[.inst c []])
noncomputable def L0:MS:=(.seq (.ret (.bin .Add (.bin .Mult (.lX 0) (.int 8)) (.lX 1))) .skip)
noncomputable def Sg:MS:=(.seq (.ret (.bin .RShift (.lX 3) (.int 3))) .skip)
noncomputable def Sd:MS:=(.seq (.ret (.bin .BitAnd (.lX 3) (.int 7))) .skip)
noncomputable def Pg:MS:=(.seq (.ret (.and (.oA (.int 0) .Lt (.lX 6) .Lt (.int 15)) (.and (.cmp (.lX 6) .NotEq (.int 7)) (.cmp (.lX 6) .NotEq (.int 8))))) .skip)
noncomputable def ND:MS:=(.seq (.ite (.and (.cmp (.lX 3) .NotEq (.lY 9)) (.un .Not (.call 7 (.cons (.lX 3) .nil)))) (.seq (.raise 5 (.lX 3)) .skip) .skip) (.seq (.ret (.sub (.lY 8) (.lX 3))) .skip))
noncomputable def NG:MS:=(.seq (.assign 15 (.int 0)) (.seq (.ite (.cmp (.lX 13) .Eq (.lY 16)) (.seq (.assign 15 (.bin .Sub (.lX 14) (.lY 17))) .skip) .skip) (.seq (.ret (.bin .BitOr (.bin .BitOr (.bin .BitOr (.lX 12) (.bin .LShift (.lX 11) (.int 6))) (.bin .LShift (.lX 15) (.int 12))) (.bin .LShift (.lX 13) (.int 14)))) .skip)))
noncomputable def NF:MS:=(.seq (.ret (.bin .BitAnd (.bin .RShift (.lX 19) (.int 6)) (.int 63))) .skip)
noncomputable def Se:MS:=(.seq (.ret (.bin .BitAnd (.lX 19) (.int 63))) .skip)
noncomputable def I9:MS:=(.seq (.ret (.bin .BitAnd (.bin .RShift (.lX 19) (.int 14)) (.int 3))) .skip)
noncomputable def L1:MS:=(.seq (.ite (.cmp (.bin .BitAnd (.bin .RShift (.lX 19) (.int 14)) (.int 3)) .NotEq (.lY 16)) (.seq (.ret (.lY 23)) .skip) .skip) (.seq (.ret (.bin .Add (.bin .BitAnd (.bin .RShift (.lX 19) (.int 12)) (.int 3)) (.lY 17))) .skip))
noncomputable def H9:MS:=(.seq (.ret (.cmp (.bin .BitAnd (.lX 25) (.bin .Sub (.lX 25) (.int 1))) .NotEq (.int 0))) .skip)
noncomputable def Sb:MS:=(.seq (.ite (.cmp (.lX 25) .Eq (.int 0)) (.seq (.ret (.un .USub (.int 1))) .skip) .skip) (.seq (.assign 28 (.int 1)) (.seq (.m8 (.bin .RShift (.lX 25) (.lX 28)) (.seq (.aug 28 .Mult (.int 2)) .skip)) (.seq (.assign 27 (.int 0)) (.seq (.m8 (.cmp (.lX 28) .Gt (.int 1)) (.seq (.aug 28 .FloorDiv (.int 2)) (.seq (.ite (.bin .RShift (.lX 25) (.lX 28)) (.seq (.aug 25 .RShift (.lX 28)) (.seq (.aug 27 .Add (.lX 28)) .skip)) .skip) .skip))) (.seq (.ret (.lX 27)) .skip))))))
noncomputable def TJ:MS:=(.seq (.ret (.call 29 (.cons (.bin .BitAnd (.lX 25) (.un .USub (.lX 25))) .nil))) .skip)
noncomputable def L8:MS:=(.seq (.assign 31 (.list .nil)) (.seq (.assign 27 (.int 0)) (.seq (.m8 (.lX 25) (.seq (.m8 (.un .Not (.bin .BitAnd (.lX 25) (.int 15))) (.seq (.aug 25 .RShift (.int 4)) (.seq (.aug 27 .Add (.int 4)) .skip))) (.seq (.ite (.bin .BitAnd (.lX 25) (.int 1)) (.seq (.expr (.mz (.lX 31) 0 (.cons (.lX 27) .nil))) .skip) .skip) (.seq (.aug 25 .RShift (.int 1)) (.seq (.aug 27 .Add (.int 1)) .skip))))) (.seq (.ret (.lX 31)) .skip))))
noncomputable def NA:MS:=(.seq (.mt [35] true (.blt 4 (.cons (.int 8) .nil)) (.seq (.ite (.bin .BitAnd (.bin .RShift (.sub (.sub (.attr (.lX 33) 36) (.lX 35)) (.lX 34)) (.lX 25)) (.int 1)) (.seq (.ret (.lX 35)) .skip) .skip) .skip)) (.seq (.ret (.un .USub (.int 1))) .skip))
noncomputable def R9:MS:=(.seq (.assign 35 (.call 37 (.cons (.lX 33) (.cons (.lX 34) (.cons (.lX 25) .nil))))) (.seq (.ite (.cmp (.lX 35) .Lt (.int 0)) (.seq (.ret (.int 0)) .skip) .skip) (.seq (.ret (.bin .BitAnd (.sub (.sub (.attr (.lX 33) 36) (.lX 35)) (.lX 34)) (.sub (.sub (.attr (.lX 33) 36) (.bin .BitXor (.lX 35) (.int 2))) (.lX 25)))) .skip)))
noncomputable def ah:MS:=(.seq (.assign 35 (.call 37 (.cons (.lX 33) (.cons (.lX 34) (.cons (.lX 25) .nil))))) (.seq (.ite (.cmp (.lX 35) .Lt (.int 0)) (.seq (.ret (.int 0)) .skip) .skip) (.seq (.ret (.bin .BitOr (.bin .BitOr (.sub (.sub (.attr (.lX 33) 36) (.lX 35)) (.lX 34)) (.sub (.sub (.attr (.lX 33) 36) (.bin .BitXor (.lX 35) (.int 2))) (.lX 34))) (.bin .LShift (.int 1) (.lX 34)))) .skip)))
noncomputable def R8:MS:=(.seq (.ret (.cmp (.bin .BitAnd (.bin .RShift (.call 39 (.cons (.lX 33) (.cons (.lX 34) (.cons (.lX 25) .nil)))) (.lX 40)) (.int 1)) .Eq (.int 1))) .skip)
noncomputable def LY:MS:=(.seq (.ret (.or (.cmp (.sub (.lY 42) (.lX 35)) .Gt (.int 0)) (.cmp (.lX 35) .Eq (.int 1)))) .skip)
noncomputable def Ny:MS:=(.seq (.assign 51 (.bin .Sub (.bin .LShift (.int 1) (.attr (.lX 33) 45)) (.int 1))) (.seq (.assign 47 (.int 0)) (.seq (.mt [48] true (.blt 4 (.cons (.attr (.lX 33) 49) .nil)) (.seq (.expr (.mz (.attr (.lX 33) 50) 0 (.cons (.bin .LShift (.lX 51) (.bin .Mult (.lX 48) (.attr (.lX 33) 45))) .nil))) (.seq (.aug 47 .BitOr (.bin .LShift (.int 1) (.bin .Mult (.lX 48) (.attr (.lX 33) 45)))) .skip))) (.seq (.mt [44] true (.blt 4 (.cons (.attr (.lX 33) 45) .nil)) (.seq (.expr (.mz (.attr (.lX 33) 46) 0 (.cons (.bin .LShift (.lX 47) (.lX 44)) .nil))) .skip)) .skip))))
noncomputable def H7:MS:=(.seq (.assign 54 (.int 0)) (.seq (.ite (.cmp (.sub (.lY 55) (.lX 35)) .Gt (.int 0)) (.seq (.aug 54 .BitOr (.sub (.attr (.lX 33) 46) (.bin .Sub (.attr (.lX 33) 45) (.int 1)))) .skip) .skip) (.seq (.ite (.cmp (.sub (.lY 55) (.lX 35)) .Lt (.int 0)) (.seq (.aug 54 .BitOr (.sub (.attr (.lX 33) 46) (.int 0))) .skip) .skip) (.seq (.ite (.cmp (.sub (.lY 42) (.lX 35)) .Gt (.int 0)) (.seq (.aug 54 .BitOr (.sub (.attr (.lX 33) 50) (.bin .Sub (.attr (.lX 33) 49) (.int 1)))) .skip) .skip) (.seq (.ite (.cmp (.sub (.lY 42) (.lX 35)) .Lt (.int 0)) (.seq (.aug 54 .BitOr (.sub (.attr (.lX 33) 50) (.int 0))) .skip) .skip) (.seq (.ret (.bin .BitAnd (.attr (.lX 33) 53) (.un .Invert (.lX 54)))) .skip))))))
noncomputable def Pb:MS:=(.seq (.setAttr (.lX 33) 60 (.bin .Mult (.list (.cons (.int 0) .nil)) (.attr (.lX 33) 63))) (.seq (.mt [35] true (.blt 4 (.cons (.int 8) .nil)) (.seq (.assign 59 (.call 56 (.cons (.lX 33) (.cons (.lX 35) .nil)))) (.seq (.assign 62 (.bin .Add (.bin .Mult (.sub (.lY 42) (.lX 35)) (.attr (.lX 33) 45)) (.sub (.lY 55) (.lX 35)))) (.seq (.assign 57 (.bin .Mult (.list (.cons (.int 0) .nil)) (.attr (.lX 33) 63))) (.seq (.assign 58 (.blt 4 (.cons (.attr (.lX 33) 63) .nil))) (.seq (.ite (.call 43 (.cons (.lX 35) .nil)) (.seq (.assign 58 (.blt 4 (.cons (.bin .Sub (.attr (.lX 33) 63) (.int 1)) (.cons (.un .USub (.int 1)) (.cons (.un .USub (.int 1)) .nil))))) .skip) .skip) (.seq (.mt [27] true (.lX 58) (.seq (.ite (.bin .BitAnd (.bin .RShift (.lX 59) (.lX 27)) (.int 1)) (.seq (.assign 61 (.bin .Add (.lX 27) (.lX 62))) (.seq (.nh (.lX 57) (.lX 27) (.bin .BitOr (.sub (.lX 57) (.lX 61)) (.bin .LShift (.int 1) (.lX 61)))) (.seq (.mM (.attr (.lX 33) 60) (.lX 27) .BitOr (.bin .LShift (.int 1) (.lX 61))) .skip))) .skip) .skip)) (.seq (.expr (.mz (.attr (.lX 33) 36) 0 (.cons (.lX 57) .nil))) .skip)))))))) .skip))
noncomputable def Nz:MS:=(.seq (.mt [27] true (.blt 4 (.cons (.attr (.lX 33) 63) .nil)) (.seq (.expr (.mz (.sub (.attr (.lX 33) 65) (.int 0)) 0 (.cons (.bin .BitAnd (.sub (.attr (.lX 33) 60) (.lX 27)) (.bin .BitOr (.sub (.sub (.attr (.lX 33) 36) (.int 4)) (.lX 27)) (.sub (.sub (.attr (.lX 33) 36) (.int 7)) (.lX 27)))) .nil))) (.seq (.expr (.mz (.sub (.attr (.lX 33) 65) (.int 1)) 0 (.cons (.bin .BitAnd (.sub (.attr (.lX 33) 60) (.lX 27)) (.bin .BitOr (.sub (.sub (.attr (.lX 33) 36) (.int 5)) (.lX 27)) (.sub (.sub (.attr (.lX 33) 36) (.int 6)) (.lX 27)))) .nil))) .skip))) .skip)
noncomputable def Kt:MS:=(.seq (.assign 45 (.attr (.lX 33) 45)) (.seq (.assign 73 (.bin .BitAnd (.attr (.lX 33) 53) (.un .Invert (.sub (.attr (.lX 33) 46) (.int 0))))) (.seq (.assign 74 (.bin .BitAnd (.attr (.lX 33) 53) (.un .Invert (.sub (.attr (.lX 33) 46) (.bin .Sub (.lX 45) (.int 1)))))) (.seq (.assign 71 (.bin .BitAnd (.lX 73) (.un .Invert (.sub (.attr (.lX 33) 46) (.int 1))))) (.seq (.assign 72 (.bin .BitAnd (.lX 74) (.un .Invert (.sub (.attr (.lX 33) 46) (.bin .Sub (.lX 45) (.int 2)))))) (.seq (.mt [27] true (.blt 4 (.cons (.attr (.lX 33) 63) .nil)) (.seq (.assign 25 (.bin .LShift (.int 1) (.lX 27))) (.seq (.assign 69 (.bin .BitOr (.bin .BitAnd (.bin .LShift (.lX 25) (.int 1)) (.lX 73)) (.bin .BitAnd (.bin .RShift (.lX 25) (.int 1)) (.lX 74)))) (.seq (.assign 70 (.bin .BitOr (.bin .BitAnd (.bin .LShift (.lX 25) (.int 2)) (.lX 71)) (.bin .BitAnd (.bin .RShift (.lX 25) (.int 2)) (.lX 72)))) (.seq (.assign 68 (.bin .BitOr (.bin .BitOr (.bin .BitOr (.bin .LShift (.lX 69) (.bin .Mult (.int 2) (.lX 45))) (.bin .RShift (.lX 69) (.bin .Mult (.int 2) (.lX 45)))) (.bin .LShift (.lX 70) (.lX 45))) (.bin .RShift (.lX 70) (.lX 45)))) (.seq (.expr (.mz (.attr (.lX 33) 67) 0 (.cons (.bin .BitAnd (.lX 68) (.attr (.lX 33) 53)) .nil))) .skip)))))) .skip))))))
noncomputable def Kr:MS:=(.seq (.setAttr (.lX 33) 80 (.bin .Mult (.list (.cons (.int 0) .nil)) (.attr (.lX 33) 63))) (.seq (.assign 82 (.bin .FloorDiv (.attr (.lX 33) 45) (.int 2))) (.seq (.mt [76] true (.blt 4 (.cons (.int 4) .nil)) (.seq (.assign 81 (.bin .Mult (.bin .Mult (.bin .RShift (.lX 76) (.int 1)) (.bin .Sub (.attr (.lX 33) 49) (.int 1))) (.attr (.lX 33) 45))) (.seq (.assign 77 (.bin .Sub (.attr (.lX 33) 45) (.int 1))) (.seq (.assign 78 (.int 1)) (.seq (.ite (.bin .BitAnd (.lX 76) (.int 1)) (.seq (.assign 77 (.int 0)) (.seq (.assign 78 (.un .USub (.int 1))) .skip)) .skip) (.seq (.assign 61 (.bin .Add (.lX 82) (.bin .Mult (.int 2) (.lX 78)))) (.seq (.ite (.and (.attr (.lX 33) 79) (.cmp (.bin .Mult (.bin .Sub (.lX 77) (.lX 61)) (.lX 78)) .Gt (.int 0))) (.seq (.expr (.mz (.attr (.lX 33) 83) 0 (.cons (.tup (.cons (.bin .Add (.lX 81) (.lX 82)) (.cons (.bin .Add (.lX 81) (.lX 61)) (.cons (.bin .Add (.lX 81) (.lX 77)) (.cons (.bin .Sub (.bin .Add (.lX 81) (.lX 61)) (.lX 78)) .nil))))) .nil))) (.seq (.mM (.attr (.lX 33) 80) (.bin .Add (.lX 81) (.lX 82)) .BitOr (.bin .LShift (.int 1) (.lX 76))) (.seq (.mM (.attr (.lX 33) 80) (.bin .Add (.lX 81) (.lX 77)) .BitOr (.bin .LShift (.int 1) (.lX 76))) .skip))) (.seq (.expr (.mz (.attr (.lX 33) 83) 0 (.cons .none .nil))) .skip)) .skip))))))) .skip)))
noncomputable def H8:MS:=(.seq (.ite (.or (.cmp (.lX 45) .Lt (.int 2)) (.or (.cmp (.lX 45) .Gt (.int 8)) (.or (.cmp (.lX 49) .Lt (.int 3)) (.cmp (.lX 49) .Gt (.int 8))))) (.seq (.raise 0 (.str [110,111,32,98,111,97,114,100,32,104,97,115,32,116,104,97,116,32,109,97,110,121,32,102,105,108,101,115,32,97,110,100,32,114,97,110,107,115])) .skip) .skip) (.seq (.assign 33 (.call 86 (.cons (.lX 45) (.cons (.lX 49) (.cons (.lX 85) (.cons (.lX 79) .nil)))))) (.seq (.expr (.call 52 (.cons (.lX 33) .nil))) (.seq (.expr (.call 64 (.cons (.lX 33) .nil))) (.seq (.expr (.call 66 (.cons (.lX 33) .nil))) (.seq (.expr (.call 75 (.cons (.lX 33) .nil))) (.seq (.expr (.call 84 (.cons (.lX 33) .nil))) (.seq (.ret (.lX 33)) .skip))))))))
noncomputable def KG:MS:=(.seq (.assign 57 (.sub (.sub (.attr (.lX 33) 36) (.lX 35)) (.lX 27))) (.seq (.assign 90 (.bin .BitAnd (.lX 57) (.lX 88))) (.seq (.ite (.cmp (.lX 90) .Eq (.int 0)) (.seq (.ret (.lX 57)) .skip) .skip) (.seq (.ite (.call 43 (.cons (.lX 35) .nil)) (.seq (.ret (.bin .BitAnd (.lX 57) (.bin .BitXor (.lX 90) (.bin .Sub (.lX 90) (.int 1))))) .skip) .skip) (.seq (.assign 89 (.bin .RShift (.lX 90) (.int 1))) (.seq (.aug 89 .BitOr (.bin .RShift (.lX 89) (.int 1))) (.seq (.aug 89 .BitOr (.bin .RShift (.lX 89) (.int 2))) (.seq (.aug 89 .BitOr (.bin .RShift (.lX 89) (.int 4))) (.seq (.aug 89 .BitOr (.bin .RShift (.lX 89) (.int 8))) (.seq (.aug 89 .BitOr (.bin .RShift (.lX 89) (.int 16))) (.seq (.aug 89 .BitOr (.bin .RShift (.lX 89) (.int 32))) (.seq (.ret (.bin .BitAnd (.lX 57) (.un .Invert (.lX 89)))) .skip))))))))))))
noncomputable def Jd:MS:=(.seq (.assign 68 (.int 0)) (.seq (.mt [35] true (.blt 4 (.cons (.int 4) .nil)) (.seq (.aug 68 .BitOr (.call 91 (.cons (.lX 33) (.cons (.lX 35) (.cons (.lX 27) (.cons (.lX 88) .nil)))))) .skip)) (.seq (.ret (.lX 68)) .skip)))
noncomputable def G8:MS:=(.seq (.assign 68 (.int 0)) (.seq (.mt [35] true (.blt 4 (.cons (.int 4) (.cons (.int 8) .nil))) (.seq (.aug 68 .BitOr (.call 91 (.cons (.lX 33) (.cons (.lX 35) (.cons (.lX 27) (.cons (.lX 88) .nil)))))) .skip)) (.seq (.ret (.lX 68)) .skip)))
noncomputable def Id:MS:=(.seq (.ret (.bin .BitOr (.call 92 (.cons (.lX 33) (.cons (.lX 27) (.cons (.lX 88) .nil)))) (.call 93 (.cons (.lX 33) (.cons (.lX 27) (.cons (.lX 88) .nil)))))) .skip)
noncomputable def He:MS:=(.seq (.ite (.cmp (.lX 1) .Eq (.lY 97)) (.seq (.ret (.call 93 (.cons (.lX 33) (.cons (.lX 27) (.cons (.lX 88) .nil))))) .skip) .skip) (.seq (.ite (.cmp (.lX 1) .Eq (.lY 96)) (.seq (.ret (.call 92 (.cons (.lX 33) (.cons (.lX 27) (.cons (.lX 88) .nil))))) .skip) .skip) (.seq (.ite (.cmp (.lX 1) .Eq (.lY 95)) (.seq (.ret (.call 94 (.cons (.lX 33) (.cons (.lX 27) (.cons (.lX 88) .nil))))) .skip) .skip) (.seq (.ret (.int 0)) .skip))))
noncomputable def Ib:MS:=(.seq (.ite (.cmp (.lX 1) .Eq (.lY 100)) (.seq (.ret (.sub (.sub (.attr (.lX 33) 65) (.lX 0)) (.lX 27))) .skip) .skip) (.seq (.ite (.cmp (.lX 1) .Eq (.lY 17)) (.seq (.ret (.sub (.attr (.lX 33) 67) (.lX 27))) .skip) .skip) (.seq (.ite (.cmp (.lX 1) .Eq (.lY 99)) (.seq (.ret (.sub (.attr (.lX 33) 60) (.lX 27))) .skip) .skip) (.seq (.ret (.call 98 (.cons (.lX 33) (.cons (.lX 1) (.cons (.lX 27) (.cons (.lX 88) .nil)))))) .skip))))
noncomputable def NK:MS:=(.seq (.assign 108 (.bin .LShift (.int 1) (.lX 103))) (.seq (.nh (.attr (.lX 102) 110) (.lX 103) (.lX 3)) (.seq (.mM (.attr (.lX 102) 109) (.call 5 (.cons (.lX 3) .nil)) .BitOr (.lX 108)) (.seq (.mM (.attr (.lX 102) 107) (.call 4 (.cons (.lX 3) .nil)) .BitOr (.lX 108)) (.seq (.mA (.lX 102) 104 .BitXor (.sub (.sub (.attr (.attr (.lX 102) 105) 106) (.lX 3)) (.lX 103))) .skip)))))
noncomputable def Ma:MS:=(.seq (.assign 3 (.sub (.attr (.lX 102) 110) (.lX 103))) (.seq (.assign 108 (.bin .LShift (.int 1) (.lX 103))) (.seq (.nh (.attr (.lX 102) 110) (.lX 103) (.lY 9)) (.seq (.mM (.attr (.lX 102) 109) (.call 5 (.cons (.lX 3) .nil)) .BitXor (.lX 108)) (.seq (.mM (.attr (.lX 102) 107) (.call 4 (.cons (.lX 3) .nil)) .BitXor (.lX 108)) (.seq (.mA (.lX 102) 104 .BitXor (.sub (.sub (.attr (.attr (.lX 102) 105) 106) (.lX 3)) (.lX 103))) (.seq (.ret (.lX 3)) .skip)))))))
noncomputable def KI:MS:=(.seq (.assign 3 (.sub (.attr (.lX 102) 110) (.lX 34))) (.seq (.assign 114 (.bin .BitOr (.bin .LShift (.int 1) (.lX 34)) (.bin .LShift (.int 1) (.lX 25)))) (.seq (.nh (.attr (.lX 102) 110) (.lX 34) (.lY 9)) (.seq (.nh (.attr (.lX 102) 110) (.lX 25) (.lX 3)) (.seq (.mM (.attr (.lX 102) 109) (.call 5 (.cons (.lX 3) .nil)) .BitXor (.lX 114)) (.seq (.mM (.attr (.lX 102) 107) (.call 4 (.cons (.lX 3) .nil)) .BitXor (.lX 114)) (.seq (.assign 113 (.sub (.attr (.attr (.lX 102) 105) 106) (.lX 3))) (.seq (.mA (.lX 102) 104 .BitXor (.bin .BitXor (.sub (.lX 113) (.lX 34)) (.sub (.lX 113) (.lX 25)))) .skip))))))))
noncomputable def Pj:MS:=(.seq (.ret (.bin .BitOr (.sub (.attr (.lX 102) 107) (.lY 116)) (.sub (.attr (.lX 102) 107) (.lY 117)))) .skip)
noncomputable def TK:MS:=(.seq (.ret (.bin .BitAnd (.sub (.attr (.lX 102) 107) (.lX 0)) (.sub (.attr (.lX 102) 109) (.lX 1)))) .skip)
noncomputable def KB:MS:=(.seq (.ret (.call 30 (.cons (.bin .BitAnd (.sub (.attr (.lX 102) 107) (.lX 0)) (.sub (.attr (.lX 102) 109) (.lY 99))) .nil))) .skip)
noncomputable def FZ:MS:=(.seq (.ret (.bin .BitOr (.sub (.attr (.lX 102) 109) (.lY 96)) (.sub (.attr (.lX 102) 109) (.lY 95)))) .skip)
noncomputable def FY:MS:=(.seq (.ret (.bin .BitOr (.sub (.attr (.lX 102) 109) (.lY 97)) (.sub (.attr (.lX 102) 109) (.lY 95)))) .skip)
noncomputable def Hc:MS:=(.seq (.ret (.bin .BitAnd (.bin .BitAnd (.sub (.sub (.attr (.attr (.lX 102) 33) 65) (.bin .Sub (.int 1) (.lX 0))) (.lX 27)) (.sub (.attr (.lX 102) 109) (.lY 100))) (.sub (.attr (.lX 102) 107) (.lX 0)))) .skip)
noncomputable def Hg:MS:=(.seq (.assign 33 (.attr (.lX 102) 33)) (.seq (.assign 69 (.bin .BitAnd (.sub (.attr (.lX 33) 67) (.lX 27)) (.sub (.attr (.lX 102) 109) (.lY 17)))) (.seq (.aug 69 .BitOr (.bin .BitAnd (.sub (.attr (.lX 33) 60) (.lX 27)) (.sub (.attr (.lX 102) 109) (.lY 99)))) (.seq (.ret (.bin .BitOr (.call 121 (.cons (.lX 102) (.cons (.lX 27) (.cons (.lX 0) .nil)))) (.bin .BitAnd (.lX 69) (.sub (.attr (.lX 102) 107) (.lX 0))))) .skip))))
noncomputable def Ha:MS:=(.seq (.assign 123 (.int 0)) (.seq (.assign 125 (.call 119 (.cons (.lX 102) .nil))) (.seq (.ite (.lX 125) (.seq (.aug 123 .BitOr (.bin .BitAnd (.call 92 (.cons (.attr (.lX 102) 33) (.cons (.lX 27) (.cons (.lX 88) .nil)))) (.lX 125))) .skip) .skip) (.seq (.assign 124 (.call 120 (.cons (.lX 102) .nil))) (.seq (.ite (.lX 124) (.seq (.aug 123 .BitOr (.bin .BitAnd (.call 93 (.cons (.attr (.lX 102) 33) (.cons (.lX 27) (.cons (.lX 88) .nil)))) (.lX 124))) .skip) .skip) (.seq (.ret (.lX 123)) .skip))))))
noncomputable def IY:MS:=(.seq (.assign 127 (.bin .BitOr (.call 122 (.cons (.lX 102) (.cons (.lX 27) (.cons (.lY 116) .nil)))) (.call 122 (.cons (.lX 102) (.cons (.lX 27) (.cons (.lY 117) .nil)))))) (.seq (.ret (.bin .BitOr (.lX 127) (.call 126 (.cons (.lX 102) (.cons (.lX 27) (.cons (.lX 88) .nil)))))) .skip))
noncomputable def Kx:MS:=(.seq (.ite (.call 122 (.cons (.lX 102) (.cons (.lX 27) (.cons (.lX 0) .nil)))) (.seq (.ret (.bool true)) .skip) .skip) (.seq (.assign 33 (.attr (.lX 102) 33)) (.seq (.assign 129 (.sub (.attr (.lX 102) 107) (.lX 0))) (.seq (.assign 125 (.bin .BitAnd (.call 119 (.cons (.lX 102) .nil)) (.lX 129))) (.seq (.ite (.and (.lX 125) (.bin .BitAnd (.call 92 (.cons (.lX 33) (.cons (.lX 27) (.cons (.lX 88) .nil)))) (.lX 125))) (.seq (.ret (.bool true)) .skip) .skip) (.seq (.assign 124 (.bin .BitAnd (.call 120 (.cons (.lX 102) .nil)) (.lX 129))) (.seq (.ret (.and (.cmp (.lX 124) .NotEq (.int 0)) (.cmp (.bin .BitAnd (.call 93 (.cons (.lX 33) (.cons (.lX 27) (.cons (.lX 88) .nil)))) (.lX 124)) .NotEq (.int 0)))) .skip)))))))
noncomputable def Kv:MS:=(.seq (.assign 131 (.bin .BitOr (.sub (.attr (.lX 102) 107) (.lY 116)) (.sub (.attr (.lX 102) 107) (.lY 117)))) (.seq (.ret (.bin .BitAnd (.call 128 (.cons (.lX 102) (.cons (.call 118 (.cons (.lX 102) (.cons (.lX 0) .nil))) (.cons (.lX 131) .nil)))) (.sub (.attr (.lX 102) 107) (.bin .Sub (.int 1) (.lX 0))))) .skip))
noncomputable def Pc:MS:=(.seq (.ret (.call 132 (.cons (.lX 102) (.cons (.attr (.lX 102) 0) .nil)))) .skip)
noncomputable def Kw:MS:=(.seq (.assign 131 (.bin .BitOr (.sub (.attr (.lX 102) 107) (.lY 116)) (.sub (.attr (.lX 102) 107) (.lY 117)))) (.seq (.ret (.call 130 (.cons (.lX 102) (.cons (.call 118 (.cons (.lX 102) (.cons (.lX 0) .nil))) (.cons (.bin .Sub (.int 1) (.lX 0)) (.cons (.lX 131) .nil)))))) .skip))
noncomputable def Pe:MS:=(.seq (.ret (.call 134 (.cons (.lX 102) (.cons (.attr (.lX 102) 0) .nil)))) .skip)
noncomputable def L7:MS:=(.seq (.assign 60 (.call 118 (.cons (.lX 102) (.cons (.lX 0) .nil)))) (.seq (.assign 123 (.bin .BitAnd (.call 92 (.cons (.attr (.lX 102) 33) (.cons (.lX 60) (.cons (.int 0) .nil)))) (.call 119 (.cons (.lX 102) .nil)))) (.seq (.aug 123 .BitOr (.bin .BitAnd (.call 93 (.cons (.attr (.lX 102) 33) (.cons (.lX 60) (.cons (.int 0) .nil)))) (.call 120 (.cons (.lX 102) .nil)))) (.seq (.ret (.bin .BitAnd (.lX 123) (.sub (.attr (.lX 102) 107) (.bin .Sub (.int 1) (.lX 0))))) .skip))))
noncomputable def IZ:MS:=(.seq (.assign 60 (.call 118 (.cons (.lX 102) (.cons (.lX 0) .nil)))) (.seq (.assign 140 (.call 136 (.cons (.lX 102) (.cons (.lX 0) .nil)))) (.seq (.assign 142 (.bin .BitXor (.bin .BitOr (.sub (.attr (.lX 102) 107) (.lY 116)) (.sub (.attr (.lX 102) 107) (.lY 117))) (.lX 140))) (.seq (.assign 138 (.int 0)) (.seq (.assign 137 (.int 0)) (.seq (.mt [139] true (.call 32 (.cons (.lX 140) .nil)) (.seq (.assign 141 (.bin .BitAnd (.call 38 (.cons (.attr (.lX 102) 33) (.cons (.lX 60) (.cons (.lX 139) .nil)))) (.lX 142))) (.seq (.ite (.and (.lX 141) (.un .Not (.call 26 (.cons (.lX 141) .nil)))) (.seq (.aug 138 .BitOr (.lX 141)) (.seq (.ite (.bin .BitAnd (.lX 141) (.sub (.attr (.lX 102) 107) (.lX 0))) (.seq (.aug 137 .BitOr (.bin .LShift (.int 1) (.lX 139))) .skip) .skip) .skip)) .skip) .skip))) (.seq (.ret (.tup (.cons (.lX 138) (.cons (.lX 137) .nil)))) .skip)))))))
noncomputable def Ic:MS:=(.seq (.ret (.bin .BitAnd (.sub (.call 143 (.cons (.lX 102) (.cons (.lX 0) .nil))) (.int 0)) (.sub (.attr (.lX 102) 107) (.lX 0)))) .skip)
noncomputable def Hf:MS:=(.seq (.ite (.cmp (.lX 34) .Lt (.lX 25)) (.seq (.ret (.bin .Sub (.bin .LShift (.int 1) (.lX 25)) (.bin .LShift (.int 2) (.lX 34)))) .skip) .skip) (.seq (.ret (.bin .Sub (.bin .LShift (.int 1) (.lX 34)) (.bin .LShift (.int 2) (.lX 25)))) .skip))
noncomputable def G9:MS:=(.seq (.assign 157 (.sub (.attr (.attr (.lX 102) 33) 83) (.lX 76))) (.seq (.ite (.cmp (.lX 157) .Is .none) (.seq (.ret (.lY 160)) .skip) .skip) (.seq (.ite (.cmp (.bin .BitAnd (.attr (.lX 102) 158) (.bin .LShift (.int 1) (.lX 76))) .Eq (.int 0)) (.seq (.ret (.lY 159)) .skip) .skip) (.seq (.mq [153,149,155,151] (.lX 157)) (.seq (.assign 147 (.call 88 (.cons (.lX 102) .nil))) (.seq (.ite (.bin .BitAnd (.lX 147) (.call 145 (.cons (.lX 153) (.cons (.lX 155) .nil)))) (.seq (.ret (.lY 156)) .skip) .skip) (.seq (.assign 148 (.bin .Sub (.int 1) (.bin .RShift (.lX 76) (.int 1)))) (.seq (.ite (.call 130 (.cons (.lX 102) (.cons (.lX 153) (.cons (.lX 148) (.cons (.lX 147) .nil))))) (.seq (.ret (.lY 154)) .skip) .skip) (.seq (.ite (.call 130 (.cons (.lX 102) (.cons (.lX 151) (.cons (.lX 148) (.cons (.lX 147) .nil))))) (.seq (.ret (.lY 152)) .skip) .skip) (.seq (.ite (.call 130 (.cons (.lX 102) (.cons (.lX 149) (.cons (.lX 148) (.cons (.lX 147) .nil))))) (.seq (.ret (.lY 150)) .skip) .skip) (.seq (.ret (.lY 146)) .skip)))))))))))
noncomputable def IW:MS:=(.seq (.mt [76] true (.list (.cons (.bin .Mult (.int 2) (.attr (.lX 102) 0)) (.cons (.bin .Add (.bin .Mult (.int 2) (.attr (.lX 102) 0)) (.int 1)) .nil))) (.seq (.ite (.cmp (.call 161 (.cons (.lX 102) (.cons (.lX 76) .nil))) .Eq (.lY 146)) (.seq (.mq [153,149,155,151] (.sub (.attr (.attr (.lX 102) 33) 83) (.lX 76))) (.seq (.expr (.mz (.lX 31) 0 (.cons (.call 18 (.cons (.lX 153) (.cons (.lX 149) (.cons (.lY 162) (.cons (.lY 23) .nil))))) .nil))) .skip)) .skip) .skip)) .skip)
noncomputable def HN:MS:=(.seq (.mt [61] true (.call 32 (.cons (.lX 164) .nil)) (.seq (.expr (.mz (.lX 31) 0 (.cons (.call 18 (.cons (.lX 11) (.cons (.lX 61) (.cons (.lY 165) (.cons (.lY 23) .nil))))) .nil))) .skip)) .skip)
noncomputable def DG:MS:=(.seq (.assign 147 (.call 88 (.cons (.lX 102) .nil))) (.seq (.mt [11] true (.call 32 (.cons (.call 106 (.cons (.lX 102) (.cons (.attr (.lX 102) 0) (.cons (.lX 1) .nil)))) .nil)) (.seq (.assign 168 (.call 101 (.cons (.attr (.lX 102) 33) (.cons (.attr (.lX 102) 0) (.cons (.lX 1) (.cons (.lX 11) (.cons (.lX 147) .nil))))))) (.seq (.expr (.call 166 (.cons (.lX 11) (.cons (.bin .BitAnd (.lX 168) (.lX 167)) (.cons (.lX 31) .nil))))) .skip))) .skip))
noncomputable def Je:MS:=(.seq (.ite (.cmp (.lX 170) .Eq (.lY 172)) (.seq (.ret (.sub (.attr (.lX 102) 107) (.bin .Sub (.int 1) (.attr (.lX 102) 0)))) .skip) .skip) (.seq (.ite (.cmp (.lX 170) .Eq (.lY 171)) (.seq (.ret (.bin .BitAnd (.attr (.attr (.lX 102) 33) 53) (.un .Invert (.call 88 (.cons (.lX 102) .nil))))) .skip) .skip) (.seq (.ret (.bin .BitAnd (.attr (.attr (.lX 102) 33) 53) (.un .Invert (.sub (.attr (.lX 102) 107) (.attr (.lX 102) 0))))) .skip)))
noncomputable def NJ:MS:=(.seq (.ite (.cmp (.lX 0) .Eq (.lY 116)) (.seq (.ret (.attr (.lX 33) 45)) .skip) .skip) (.seq (.ret (.un .USub (.attr (.lX 33) 45))) .skip))
noncomputable def L9:MS:=(.seq (.ite (.cmp (.lX 0) .Eq (.lY 116)) (.seq (.ret (.sub (.attr (.lX 33) 50) (.int 1))) .skip) .skip) (.seq (.ret (.sub (.attr (.lX 33) 50) (.bin .Sub (.attr (.lX 33) 49) (.int 2)))) .skip))
noncomputable def NB:MS:=(.seq (.ite (.cmp (.lX 0) .Eq (.lY 116)) (.seq (.ret (.sub (.attr (.lX 33) 50) (.bin .Sub (.attr (.lX 33) 49) (.int 1)))) .skip) .skip) (.seq (.ret (.sub (.attr (.lX 33) 50) (.int 0))) .skip))
noncomputable def L6:MS:=(.seq (.ite (.cmp (.lX 0) .Eq (.lY 116)) (.seq (.ret (.bin .BitAnd (.bin .LShift (.lX 25) (.attr (.lX 33) 45)) (.attr (.lX 33) 53))) .skip) .skip) (.seq (.ret (.bin .RShift (.lX 25) (.attr (.lX 33) 45))) .skip))
noncomputable def Ie:MS:=(.seq (.ite (.cmp (.lX 157) .Eq (.int 0)) (.seq (.ret (.bin .LShift (.call 177 (.cons (.lX 33) (.cons (.bin .BitAnd (.lX 25) (.un .Invert (.sub (.attr (.lX 33) 46) (.bin .Sub (.attr (.lX 33) 45) (.int 1))))) (.cons (.lX 0) .nil)))) (.int 1))) .skip) .skip) (.seq (.ret (.bin .RShift (.call 177 (.cons (.lX 33) (.cons (.bin .BitAnd (.lX 25) (.un .Invert (.sub (.attr (.lX 33) 46) (.int 0)))) (.cons (.lX 0) .nil)))) (.int 1))) .skip))
noncomputable def Jc:MS:=(.seq (.assign 33 (.attr (.lX 102) 33)) (.seq (.assign 182 (.bin .BitAnd (.attr (.lX 33) 53) (.un .Invert (.call 88 (.cons (.lX 102) .nil))))) (.seq (.assign 183 (.call 106 (.cons (.lX 102) (.cons (.lX 0) (.cons (.lY 100) .nil))))) (.seq (.assign 180 (.bin .BitAnd (.call 177 (.cons (.lX 33) (.cons (.lX 183) (.cons (.lX 0) .nil)))) (.lX 182))) (.seq (.assign 179 (.int 0)) (.seq (.ite (.attr (.lX 33) 85) (.seq (.assign 181 (.bin .BitAnd (.call 177 (.cons (.lX 33) (.cons (.bin .BitAnd (.lX 183) (.call 175 (.cons (.lX 33) (.cons (.lX 0) .nil)))) (.cons (.lX 0) .nil)))) (.lX 182))) (.seq (.assign 179 (.bin .BitAnd (.call 177 (.cons (.lX 33) (.cons (.lX 181) (.cons (.lX 0) .nil)))) (.lX 182))) .skip)) .skip) (.seq (.ret (.tup (.cons (.lX 180) (.cons (.lX 179) .nil)))) .skip)))))))
noncomputable def D4:MS:=(.seq (.ite (.cmp (.lX 170) .NotEq (.lY 171)) (.seq (.expr (.mz (.lX 31) 0 (.cons (.call 18 (.cons (.lX 11) (.cons (.lX 12) (.cons (.lY 16) (.cons (.lY 95) .nil))))) .nil))) .skip) .skip) (.seq (.ite (.cmp (.lX 170) .Eq (.lY 172)) (.seq (.assign 186 (.lX 185)) .skip) (.seq (.ite (.cmp (.lX 170) .Eq (.lY 171)) (.seq (.assign 186 (.un .Not (.lX 185))) .skip) (.seq (.assign 186 (.bool true)) .skip)) .skip)) (.seq (.ite (.lX 186) (.seq (.mt [1] true (.list (.cons (.lY 96) (.cons (.lY 97) (.cons (.lY 17) .nil)))) (.seq (.expr (.mz (.lX 31) 0 (.cons (.call 18 (.cons (.lX 11) (.cons (.lX 12) (.cons (.lY 16) (.cons (.lX 1) .nil))))) .nil))) .skip)) .skip) .skip) .skip)))
noncomputable def Dm:MS:=(.seq (.assign 33 (.attr (.lX 102) 33)) (.seq (.assign 188 (.call 174 (.cons (.lX 33) (.cons (.attr (.lX 102) 0) .nil)))) (.seq (.mq [180,179] (.call 184 (.cons (.lX 102) (.cons (.attr (.lX 102) 0) .nil)))) (.seq (.mt [61] true (.call 32 (.cons (.bin .BitAnd (.bin .BitAnd (.lX 180) (.lX 167)) (.un .Invert (.call 176 (.cons (.lX 33) (.cons (.attr (.lX 102) 0) .nil))))) .nil)) (.seq (.expr (.mz (.lX 31) 0 (.cons (.call 18 (.cons (.bin .Sub (.lX 61) (.lX 188)) (.cons (.lX 61) (.cons (.lY 165) (.cons (.lY 23) .nil))))) .nil))) .skip)) (.seq (.mt [61] true (.call 32 (.cons (.bin .BitAnd (.lX 179) (.lX 167)) .nil)) (.seq (.expr (.mz (.lX 31) 0 (.cons (.call 18 (.cons (.bin .Sub (.lX 61) (.bin .Mult (.int 2) (.lX 188))) (.cons (.lX 61) (.cons (.lY 165) (.cons (.lY 23) .nil))))) .nil))) .skip)) .skip)))))
noncomputable def Cx:MS:=(.seq (.assign 33 (.attr (.lX 102) 33)) (.seq (.assign 188 (.call 174 (.cons (.lX 33) (.cons (.attr (.lX 102) 0) .nil)))) (.seq (.assign 180 (.sub (.call 184 (.cons (.lX 102) (.cons (.attr (.lX 102) 0) .nil))) (.int 0))) (.seq (.mt [61] true (.call 32 (.cons (.bin .BitAnd (.bin .BitAnd (.lX 180) (.lX 167)) (.call 176 (.cons (.lX 33) (.cons (.attr (.lX 102) 0) .nil)))) .nil)) (.seq (.expr (.call 187 (.cons (.bin .Sub (.lX 61) (.lX 188)) (.cons (.lX 61) (.cons (.lX 170) (.cons (.bool false) (.cons (.lX 31) .nil))))))) .skip)) .skip))))
noncomputable def BX:MS:=(.seq (.assign 33 (.attr (.lX 102) 33)) (.seq (.assign 0 (.attr (.lX 102) 0)) (.seq (.assign 191 (.call 176 (.cons (.lX 33) (.cons (.lX 0) .nil)))) (.seq (.assign 183 (.call 106 (.cons (.lX 102) (.cons (.lX 0) (.cons (.lY 100) .nil))))) (.seq (.assign 123 (.bin .BitAnd (.lX 167) (.sub (.attr (.lX 102) 107) (.bin .Sub (.int 1) (.lX 0))))) (.seq (.mt [157] true (.list (.cons (.int 0) (.cons (.int 1) .nil))) (.seq (.assign 188 (.bin .Sub (.bin .Add (.call 174 (.cons (.lX 33) (.cons (.lX 0) .nil))) (.int 1)) (.bin .Mult (.int 2) (.lX 157)))) (.seq (.mt [61] true (.call 32 (.cons (.bin .BitAnd (.call 178 (.cons (.lX 33) (.cons (.lX 183) (.cons (.lX 0) (.cons (.lX 157) .nil))))) (.lX 123)) .nil)) (.seq (.ite (.bin .BitAnd (.lX 191) (.bin .LShift (.int 1) (.lX 61))) (.seq (.expr (.call 187 (.cons (.bin .Sub (.lX 61) (.lX 188)) (.cons (.lX 61) (.cons (.lX 170) (.cons (.bool true) (.cons (.lX 31) .nil))))))) .skip) (.seq (.expr (.mz (.lX 31) 0 (.cons (.call 18 (.cons (.bin .Sub (.lX 61) (.lX 188)) (.cons (.lX 61) (.cons (.lY 165) (.cons (.lY 23) .nil))))) .nil))) .skip)) .skip)) .skip))) .skip))))))
noncomputable def G7:MS:=(.seq (.ite (.cmp (.lX 170) .NotEq (.lY 172)) (.seq (.expr (.call 189 (.cons (.lX 102) (.cons (.lX 167) (.cons (.lX 31) .nil))))) .skip) .skip) (.seq (.expr (.call 190 (.cons (.lX 102) (.cons (.lX 170) (.cons (.lX 167) (.cons (.lX 31) .nil)))))) (.seq (.ite (.cmp (.lX 170) .NotEq (.lY 171)) (.seq (.expr (.call 192 (.cons (.lX 102) (.cons (.lX 170) (.cons (.lX 167) (.cons (.lX 31) .nil)))))) .skip) .skip) .skip)))
noncomputable def G6:MS:=(.seq (.ite (.cmp (.attr (.lX 102) 196) .Lt (.int 0)) (.seq (.ret .none) .skip) .skip) (.seq (.assign 194 (.bin .BitAnd (.sub (.sub (.attr (.attr (.lX 102) 33) 65) (.bin .Sub (.int 1) (.attr (.lX 102) 0))) (.attr (.lX 102) 196)) (.call 106 (.cons (.lX 102) (.cons (.attr (.lX 102) 0) (.cons (.lY 100) .nil)))))) (.seq (.mt [11] true (.call 32 (.cons (.lX 194) .nil)) (.seq (.expr (.mz (.lX 31) 0 (.cons (.call 18 (.cons (.lX 11) (.cons (.attr (.lX 102) 196) (.cons (.lY 195) (.cons (.lY 23) .nil))))) .nil))) .skip)) .skip)))
noncomputable def Gs:MS:=(.seq (.ite (.or (.cmp (.lX 198) .Eq (.int 0)) (.call 26 (.cons (.lX 198) .nil))) (.seq (.ret (.int 0)) .skip) .skip) (.seq (.ret (.bin .BitOr (.lX 198) (.call 38 (.cons (.attr (.lX 102) 33) (.cons (.call 118 (.cons (.lX 102) (.cons (.attr (.lX 102) 0) .nil))) (.cons (.call 30 (.cons (.lX 198) .nil)) .nil)))))) .skip))
noncomputable def EU:MS:=(.seq (.ite (.cmp (.attr (.lX 102) 0) .Eq (.lY 116)) (.seq (.ret (.bin .Sub (.attr (.lX 102) 196) (.attr (.attr (.lX 102) 33) 45))) .skip) .skip) (.seq (.ret (.bin .Add (.attr (.lX 102) 196) (.attr (.attr (.lX 102) 33) 45))) .skip))
noncomputable def D8:MS:=(.seq (.ite (.cmp (.attr (.lX 102) 196) .Lt (.int 0)) (.seq (.ret (.bool false)) .skip) .skip) (.seq (.ret (.cmp (.bin .BitAnd (.lX 167) (.bin .BitOr (.bin .LShift (.int 1) (.attr (.lX 102) 196)) (.bin .LShift (.int 1) (.call 200 (.cons (.lX 102) .nil))))) .NotEq (.int 0))) .skip))
noncomputable def IX:MS:=(.seq (.assign 167 (.call 199 (.cons (.lX 102) (.cons (.call 133 (.cons (.lX 102) .nil)) .nil)))) (.seq (.ite (.lX 167) (.seq (.expr (.call 193 (.cons (.lX 102) (.cons (.lY 202) (.cons (.lX 167) (.cons (.lX 31) .nil)))))) (.seq (.ite (.call 201 (.cons (.lX 102) (.cons (.lX 167) .nil))) (.seq (.expr (.call 197 (.cons (.lX 102) (.cons (.lX 31) .nil)))) .skip) .skip) (.seq (.mt [1] true (.list (.cons (.lY 17) (.cons (.lY 97) (.cons (.lY 96) (.cons (.lY 95) .nil))))) (.seq (.expr (.call 169 (.cons (.lX 102) (.cons (.lX 1) (.cons (.lX 167) (.cons (.lX 31) .nil)))))) .skip)) .skip))) .skip) (.seq (.expr (.call 169 (.cons (.lX 102) (.cons (.lY 99) (.cons (.bin .BitAnd (.attr (.attr (.lX 102) 33) 53) (.un .Invert (.sub (.attr (.lX 102) 107) (.attr (.lX 102) 0)))) (.cons (.lX 31) .nil)))))) .skip)))
noncomputable def Jf:MS:=(.seq (.assign 61 (.call 21 (.cons (.lX 19) .nil))) (.seq (.ite (.cmp (.call 22 (.cons (.lX 19) .nil)) .NotEq (.lY 195)) (.seq (.ret (.lX 61)) .skip) .skip) (.seq (.ite (.cmp (.attr (.lX 102) 0) .Eq (.lY 116)) (.seq (.ret (.bin .Sub (.lX 61) (.attr (.attr (.lX 102) 33) 45))) .skip) .skip) (.seq (.ret (.bin .Add (.lX 61) (.attr (.attr (.lX 102) 33) 45))) .skip))))
noncomputable def ET:MS:=(.seq (.assign 205 (.bin .LShift (.int 1) (.call 206 (.cons (.lX 102) (.cons (.lX 19) .nil))))) (.seq (.assign 61 (.bin .LShift (.int 1) (.call 21 (.cons (.lX 19) .nil)))) (.seq (.assign 131 (.bin .BitOr (.sub (.attr (.lX 102) 107) (.lY 116)) (.sub (.attr (.lX 102) 107) (.lY 117)))) (.seq (.assign 89 (.bin .BitOr (.bin .BitXor (.bin .BitXor (.lX 131) (.bin .LShift (.int 1) (.call 20 (.cons (.lX 19) .nil)))) (.lX 205)) (.lX 61))) (.seq (.assign 123 (.call 128 (.cons (.lX 102) (.cons (.call 118 (.cons (.lX 102) (.cons (.attr (.lX 102) 0) .nil))) (.cons (.lX 89) .nil))))) (.seq (.ret (.cmp (.bin .BitAnd (.bin .BitAnd (.lX 123) (.sub (.attr (.lX 102) 107) (.bin .Sub (.int 1) (.attr (.lX 102) 0)))) (.un .Invert (.lX 205))) .Eq (.int 0))) .skip))))))
noncomputable def Pf:MS:=(.seq (.assign 13 (.call 22 (.cons (.lX 19) .nil))) (.seq (.ite (.cmp (.lX 13) .Eq (.lY 162)) (.seq (.ret (.bool true)) .skip) .skip) (.seq (.ite (.cmp (.lX 13) .Eq (.lY 195)) (.seq (.ret (.call 207 (.cons (.lX 102) (.cons (.lX 19) .nil)))) .skip) .skip) (.seq (.assign 11 (.call 20 (.cons (.lX 19) .nil))) (.seq (.assign 61 (.call 21 (.cons (.lX 19) .nil))) (.seq (.assign 60 (.call 118 (.cons (.lX 102) (.cons (.attr (.lX 102) 0) .nil)))) (.seq (.ite (.cmp (.lX 11) .Eq (.lX 60)) (.seq (.assign 209 (.bin .BitXor (.bin .BitOr (.sub (.attr (.lX 102) 107) (.lY 116)) (.sub (.attr (.lX 102) 107) (.lY 117))) (.bin .LShift (.int 1) (.lX 60)))) (.seq (.ret (.un .Not (.call 130 (.cons (.lX 102) (.cons (.lX 61) (.cons (.bin .Sub (.int 1) (.attr (.lX 102) 0)) (.cons (.lX 209) .nil))))))) .skip)) .skip) (.seq (.ite (.cmp (.bin .BitAnd (.bin .RShift (.lX 208) (.lX 11)) (.int 1)) .Eq (.int 0)) (.seq (.ret (.bool true)) .skip) .skip) (.seq (.ret (.call 41 (.cons (.attr (.lX 102) 33) (.cons (.lX 11) (.cons (.lX 61) (.cons (.lX 60) .nil)))))) .skip)))))))))
noncomputable def I8:MS:=(.seq (.assign 31 (.list .nil)) (.seq (.ite (.cmp (.lX 170) .Eq (.lY 202)) (.seq (.expr (.call 203 (.cons (.lX 102) (.cons (.lX 31) .nil)))) (.seq (.ret (.lX 31)) .skip)) .skip) (.seq (.assign 167 (.call 173 (.cons (.lX 102) (.cons (.lX 170) .nil)))) (.seq (.expr (.call 193 (.cons (.lX 102) (.cons (.lX 170) (.cons (.attr (.attr (.lX 102) 33) 53) (.cons (.lX 31) .nil)))))) (.seq (.ite (.cmp (.lX 170) .NotEq (.lY 171)) (.seq (.expr (.call 197 (.cons (.lX 102) (.cons (.lX 31) .nil)))) .skip) .skip) (.seq (.mt [1] true (.list (.cons (.lY 17) (.cons (.lY 97) (.cons (.lY 96) (.cons (.lY 95) (.cons (.lY 99) .nil)))))) (.seq (.expr (.call 169 (.cons (.lX 102) (.cons (.lX 1) (.cons (.lX 167) (.cons (.lX 31) .nil)))))) .skip)) (.seq (.ite (.cmp (.lX 170) .NotEq (.lY 172)) (.seq (.expr (.call 163 (.cons (.lX 102) (.cons (.lX 31) .nil)))) .skip) .skip) (.seq (.ret (.lX 31)) .skip))))))))
noncomputable def Jb:MS:=(.seq (.ite (.call 135 (.cons (.lX 102) .nil)) (.seq (.ret (.call 211 (.cons (.lX 102) (.cons (.lY 202) .nil)))) .skip) .skip) (.seq (.ret (.call 211 (.cons (.lX 102) (.cons (.lY 212) .nil)))) .skip))
noncomputable def Gu:MS:=(.seq (.assign 208 (.call 144 (.cons (.lX 102) (.cons (.attr (.lX 102) 0) .nil)))) (.seq (.assign 31 (.list .nil)) (.seq (.mt [19] true (.lX 214) (.seq (.ite (.call 210 (.cons (.lX 102) (.cons (.lX 19) (.cons (.lX 208) .nil)))) (.seq (.expr (.mz (.lX 31) 0 (.cons (.lX 19) .nil))) .skip) .skip) .skip)) (.seq (.ret (.lX 31)) .skip))))
noncomputable def KD:MS:=(.seq (.ret (.call 215 (.cons (.lX 102) (.cons (.call 213 (.cons (.lX 102) .nil)) .nil)))) .skip)
noncomputable def D6:MS:=(.seq (.assign 217 (.ite (.call 135 (.cons (.lX 102) .nil)) (.list (.cons (.lY 202) .nil)) (.list (.cons (.lY 172) (.cons (.lY 171) .nil))))) (.seq (.assign 208 (.call 144 (.cons (.lX 102) (.cons (.attr (.lX 102) 0) .nil)))) (.seq (.mt [170] true (.lX 217) (.seq (.mt [19] true (.call 211 (.cons (.lX 102) (.cons (.lX 170) .nil))) (.seq (.ite (.call 210 (.cons (.lX 102) (.cons (.lX 19) (.cons (.lX 208) .nil)))) (.seq (.ret (.bool true)) .skip) .skip) .skip)) .skip)) (.seq (.ret (.bool false)) .skip))))
noncomputable def Sa:MS:=(.seq (.ret (.bin .Mod (.lX 27) (.lX 45))) .skip)
noncomputable def Sf:MS:=(.seq (.ret (.bin .FloorDiv (.lX 27) (.lX 45))) .skip)
noncomputable def KJ:MS:=(.seq (.ite (.or (.cmp (.lX 27) .Lt (.int 0)) (.cmp (.lX 27) .GtE (.bin .Mult (.lX 45) (.int 8)))) (.seq (.raise 4 (.lX 27)) .skip) .skip) (.seq (.ret (.bin .Add (.sub (.lY 221) (.bin .Mod (.lX 27) (.lX 45))) (.sub (.lY 222) (.bin .FloorDiv (.lX 27) (.lX 45))))) .skip))
noncomputable def KH:MS:=(.seq (.ite (.cmp (.blt 0 (.cons (.lX 224) .nil)) .NotEq (.int 2)) (.seq (.ret (.un .USub (.int 1))) .skip) .skip) (.seq (.assign 226 (.mz (.lY 221) 2 (.cons (.sub (.lX 224) (.int 0)) .nil))) (.seq (.assign 225 (.mz (.lY 222) 2 (.cons (.sub (.lX 224) (.int 1)) .nil))) (.seq (.ite (.or (.cmp (.lX 226) .Lt (.int 0)) (.or (.cmp (.lX 226) .GtE (.lX 45)) (.or (.cmp (.lX 225) .Lt (.int 0)) (.cmp (.lX 225) .GtE (.lX 49))))) (.seq (.ret (.un .USub (.int 1))) .skip) .skip) (.seq (.ret (.bin .Add (.bin .Mult (.lX 225) (.lX 45)) (.lX 226))) .skip)))))
noncomputable def Ja:MS:=(.seq (.ite (.cmp (.lX 1) .Eq (.lY 17)) (.seq (.ret (.str [110])) .skip) .skip) (.seq (.ite (.cmp (.lX 1) .Eq (.lY 97)) (.seq (.ret (.str [98])) .skip) .skip) (.seq (.ite (.cmp (.lX 1) .Eq (.lY 96)) (.seq (.ret (.str [114])) .skip) .skip) (.seq (.ite (.cmp (.lX 1) .Eq (.lY 95)) (.seq (.ret (.str [113])) .skip) .skip) (.seq (.ret (.str [])) .skip)))))
noncomputable def FP:MS:=(.seq (.ite (.and (.cmp (.blt 0 (.cons (.lX 224) .nil)) .NotEq (.int 4)) (.cmp (.blt 0 (.cons (.lX 224) .nil)) .NotEq (.int 5))) (.seq (.raise 1 (.lX 224)) .skip) .skip) (.seq (.assign 11 (.call 227 (.cons (.lX 45) (.cons (.lX 49) (.cons (.slice (.lX 224) .none (.int 2)) .nil))))) (.seq (.assign 61 (.call 227 (.cons (.lX 45) (.cons (.lX 49) (.cons (.slice (.lX 224) (.int 2) (.int 4)) .nil))))) (.seq (.ite (.or (.cmp (.lX 11) .Lt (.int 0)) (.cmp (.lX 61) .Lt (.int 0))) (.seq (.raise 1 (.lX 224)) .skip) .skip) (.seq (.assign 14 (.lY 23)) (.seq (.ite (.cmp (.blt 0 (.cons (.lX 224) .nil)) .Eq (.int 5)) (.seq (.mt [1] true (.list (.cons (.lY 17) (.cons (.lY 97) (.cons (.lY 96) (.cons (.lY 95) .nil))))) (.seq (.ite (.cmp (.call 228 (.cons (.lX 1) .nil)) .Eq (.sub (.lX 224) (.int 4))) (.seq (.assign 14 (.lX 1)) .skip) .skip) .skip)) (.seq (.ite (.cmp (.lX 14) .Eq (.lY 23)) (.seq (.raise 1 (.lX 224)) .skip) .skip) .skip)) .skip) (.seq (.ret (.tup (.cons (.lX 11) (.cons (.lX 61) (.cons (.lX 14) .nil))))) .skip)))))))
noncomputable def HO:MS:=(.seq (.mq [11,61,14] (.call 229 (.cons (.lX 45) (.cons (.lX 49) (.cons (.lX 224) .nil))))) (.seq (.mt [19] true (.lX 214) (.seq (.ite (.and (.cmp (.call 20 (.cons (.lX 19) .nil)) .Eq (.lX 11)) (.and (.cmp (.call 21 (.cons (.lX 19) .nil)) .Eq (.lX 61)) (.cmp (.call 24 (.cons (.lX 19) .nil)) .Eq (.lX 14)))) (.seq (.ret (.lX 19)) .skip) .skip) .skip)) (.seq (.raise 1 (.lX 224)) .skip)))
noncomputable def L4:MS:=(.seq (.ret (.call 230 (.cons (.attr (.attr (.lX 102) 33) 45) (.cons (.attr (.attr (.lX 102) 33) 49) (.cons (.call 216 (.cons (.lX 102) .nil)) (.cons (.lX 224) .nil)))))) .skip)
noncomputable def KF:MS:=(.seq (.assign 11 (.call 20 (.cons (.lX 19) .nil))) (.seq (.ite (.or (.cmp (.lX 11) .GtE (.attr (.attr (.lX 102) 33) 63)) (.cmp (.call 21 (.cons (.lX 19) .nil)) .GtE (.attr (.attr (.lX 102) 33) 63))) (.seq (.raise 1 (.str [97,32,109,111,118,101,32,119,105,116,104,32,97,32,115,113,117,97,114,101,32,98,101,121,111,110,100,32,116,104,101,32,98,111,97,114,100])) .skip) .skip) (.seq (.assign 3 (.sub (.attr (.lX 102) 110) (.lX 11))) (.seq (.ite (.or (.cmp (.lX 3) .Eq (.lY 9)) (.cmp (.call 4 (.cons (.lX 3) .nil)) .NotEq (.attr (.lX 102) 0))) (.seq (.raise 1 (.str [97,32,109,111,118,101,32,116,104,97,116,32,115,116,97,114,116,115,32,119,105,116,104,32,110,111,32,111,119,110,32,112,105,101,99,101])) .skip) .skip) (.seq (.ret (.lX 3)) .skip)))))
noncomputable def NL:MS:=(.seq (.mt [76] true (.tup (.cons (.bin .Mult (.int 2) (.lX 0)) (.cons (.bin .Add (.bin .Mult (.int 2) (.lX 0)) (.int 1)) .nil))) (.seq (.assign 157 (.sub (.attr (.lX 33) 83) (.lX 76))) (.seq (.ite (.and (.cmp (.lX 157) .IsNot .none) (.cmp (.sub (.lX 157) (.int 1)) .Eq (.lX 61))) (.seq (.ret (.tup (.cons (.sub (.lX 157) (.int 2)) (.cons (.sub (.lX 157) (.int 3)) .nil)))) .skip) .skip) .skip))) (.seq (.raise 1 (.str [110,111,32,99,97,115,116,108,105,110,103,32,103,111,101,115,32,116,111,32,116,104,105,115,32,115,113,117,97,114,101])) .skip))
noncomputable def Ia:MS:=(.seq (.assign 45 (.attr (.attr (.lX 102) 33) 45)) (.seq (.ite (.and (.cmp (.bin .Sub (.lX 61) (.lX 11)) .NotEq (.bin .Mult (.int 2) (.lX 45))) (.cmp (.bin .Sub (.lX 11) (.lX 61)) .NotEq (.bin .Mult (.int 2) (.lX 45)))) (.seq (.ret (.un .USub (.int 1))) .skip) .skip) (.seq (.assign 181 (.bin .FloorDiv (.bin .Add (.lX 11) (.lX 61)) (.int 2))) (.seq (.assign 234 (.bin .BitAnd (.sub (.attr (.lX 102) 109) (.lY 100)) (.sub (.attr (.lX 102) 107) (.bin .Sub (.int 1) (.lX 0))))) (.seq (.ite (.cmp (.bin .BitAnd (.sub (.sub (.attr (.attr (.lX 102) 33) 65) (.lX 0)) (.lX 181)) (.lX 234)) .Eq (.int 0)) (.seq (.ret (.un .USub (.int 1))) .skip) .skip) (.seq (.ret (.lX 181)) .skip))))))
noncomputable def KA:MS:=(.seq (.assign 236 (.bin .BitOr (.sub (.attr (.attr (.lX 102) 33) 80) (.lX 11)) (.sub (.attr (.attr (.lX 102) 33) 80) (.lX 61)))) (.seq (.ret (.bin .Sub (.attr (.lX 102) 158) (.bin .BitAnd (.attr (.lX 102) 158) (.lX 236)))) .skip))
noncomputable def I7:MS:=(.seq (.ite (.cmp (.attr (.lX 102) 196) .GtE (.int 0)) (.seq (.mA (.lX 102) 104 .BitXor (.sub (.attr (.attr (.lX 102) 105) 196) (.bin .Mod (.attr (.lX 102) 196) (.attr (.attr (.lX 102) 33) 45)))) (.seq (.setAttr (.lX 102) 196 (.un .USub (.int 1))) .skip)) .skip) .skip)
noncomputable def L5:MS:=(.seq (.ite (.cmp (.lX 27) .GtE (.int 0)) (.seq (.mA (.lX 102) 104 .BitXor (.sub (.attr (.attr (.lX 102) 105) 196) (.bin .Mod (.lX 27) (.attr (.attr (.lX 102) 33) 45)))) .skip) .skip) (.seq (.setAttr (.lX 102) 196 (.lX 27)) .skip))
noncomputable def Hd:MS:=(.seq (.ite (.cmp (.lX 158) .NotEq (.attr (.lX 102) 158)) (.seq (.mA (.lX 102) 104 .BitXor (.bin .BitXor (.sub (.attr (.attr (.lX 102) 105) 158) (.attr (.lX 102) 158)) (.sub (.attr (.attr (.lX 102) 105) 158) (.lX 158)))) (.seq (.setAttr (.lX 102) 158 (.lX 158)) .skip)) .skip) .skip)
noncomputable def D5:MS:=(.seq (.assign 3 (.call 232 (.cons (.lX 102) (.cons (.lX 19) .nil)))) (.seq (.assign 0 (.attr (.lX 102) 0)) (.seq (.assign 11 (.call 20 (.cons (.lX 19) .nil))) (.seq (.assign 61 (.call 21 (.cons (.lX 19) .nil))) (.seq (.assign 13 (.call 22 (.cons (.lX 19) .nil))) (.seq (.assign 242 (.tup (.cons (.un .USub (.int 1)) (.cons (.un .USub (.int 1)) .nil)))) (.seq (.ite (.cmp (.lX 13) .Eq (.lY 162)) (.seq (.assign 242 (.call 233 (.cons (.attr (.lX 102) 33) (.cons (.lX 0) (.cons (.lX 61) .nil))))) .skip) .skip) (.seq (.assign 243 (.call 245 (.cons (.lX 102) (.cons (.lX 19) .nil)))) (.seq (.assign 205 (.sub (.attr (.lX 102) 110) (.lX 243))) (.seq (.expr (.mz (.attr (.lX 102) 244) 0 (.cons (.tup (.cons (.lX 19) (.cons (.lX 205) (.cons (.attr (.lX 102) 158) (.cons (.attr (.lX 102) 196) (.cons (.attr (.lX 102) 241) (.cons (.attr (.lX 102) 104) .nil))))))) .nil))) (.seq (.expr (.call 238 (.cons (.lX 102) .nil))) (.seq (.mA (.lX 102) 241 .Add (.int 1)) (.seq (.ite (.cmp (.lX 205) .NotEq (.lY 9)) (.seq (.expr (.call 112 (.cons (.lX 102) (.cons (.lX 243) .nil)))) (.seq (.setAttr (.lX 102) 241 (.int 0)) .skip)) .skip) (.seq (.ite (.cmp (.lX 13) .Eq (.lY 16)) (.seq (.expr (.call 112 (.cons (.lX 102) (.cons (.lX 11) .nil)))) (.seq (.expr (.call 111 (.cons (.lX 102) (.cons (.call 2 (.cons (.lX 0) (.cons (.call 24 (.cons (.lX 19) .nil)) .nil))) (.cons (.lX 61) .nil))))) .skip)) (.seq (.expr (.call 115 (.cons (.lX 102) (.cons (.lX 11) (.cons (.lX 61) .nil))))) .skip)) (.seq (.ite (.cmp (.lX 13) .Eq (.lY 162)) (.seq (.expr (.call 115 (.cons (.lX 102) (.cons (.sub (.lX 242) (.int 0)) (.cons (.sub (.lX 242) (.int 1)) .nil))))) .skip) .skip) (.seq (.ite (.cmp (.call 5 (.cons (.lX 3) .nil)) .Eq (.lY 100)) (.seq (.setAttr (.lX 102) 241 (.int 0)) (.seq (.expr (.call 239 (.cons (.lX 102) (.cons (.call 235 (.cons (.lX 102) (.cons (.lX 0) (.cons (.lX 11) (.cons (.lX 61) .nil))))) .nil)))) .skip)) .skip) (.seq (.expr (.call 240 (.cons (.lX 102) (.cons (.call 237 (.cons (.lX 102) (.cons (.lX 11) (.cons (.lX 61) .nil)))) .nil)))) (.seq (.ite (.cmp (.lX 0) .Eq (.lY 117)) (.seq (.mA (.lX 102) 53 .Add (.int 1)) .skip) .skip) (.seq (.setAttr (.lX 102) 0 (.bin .Sub (.int 1) (.lX 0))) (.seq (.mA (.lX 102) 104 .BitXor (.attr (.attr (.lX 102) 105) 0)) .skip))))))))))))))))))))
noncomputable def EW:MS:=(.seq (.ite (.cmp (.blt 0 (.cons (.attr (.lX 102) 244) .nil)) .Eq (.int 0)) (.seq (.raise 1 (.str [110,111,32,109,111,118,101,32,116,111,32,116,97,107,101,32,98,97,99,107])) .skip) .skip) (.seq (.mq [19,205,158,196,241,104] (.mz (.attr (.lX 102) 244) 1 .nil)) (.seq (.assign 0 (.bin .Sub (.int 1) (.attr (.lX 102) 0))) (.seq (.setAttr (.lX 102) 0 (.lX 0)) (.seq (.assign 11 (.call 20 (.cons (.lX 19) .nil))) (.seq (.assign 61 (.call 21 (.cons (.lX 19) .nil))) (.seq (.assign 13 (.call 22 (.cons (.lX 19) .nil))) (.seq (.ite (.cmp (.lX 13) .Eq (.lY 16)) (.seq (.expr (.call 112 (.cons (.lX 102) (.cons (.lX 61) .nil)))) (.seq (.expr (.call 111 (.cons (.lX 102) (.cons (.call 2 (.cons (.lX 0) (.cons (.lY 100) .nil))) (.cons (.lX 11) .nil))))) .skip)) (.seq (.expr (.call 115 (.cons (.lX 102) (.cons (.lX 61) (.cons (.lX 11) .nil))))) .skip)) (.seq (.ite (.cmp (.lX 13) .Eq (.lY 162)) (.seq (.assign 242 (.call 233 (.cons (.attr (.lX 102) 33) (.cons (.lX 0) (.cons (.lX 61) .nil))))) (.seq (.expr (.call 115 (.cons (.lX 102) (.cons (.sub (.lX 242) (.int 1)) (.cons (.sub (.lX 242) (.int 0)) .nil))))) .skip)) .skip) (.seq (.ite (.cmp (.lX 205) .NotEq (.lY 9)) (.seq (.expr (.call 111 (.cons (.lX 102) (.cons (.lX 205) (.cons (.call 245 (.cons (.lX 102) (.cons (.lX 19) .nil))) .nil))))) .skip) .skip) (.seq (.ite (.cmp (.lX 0) .Eq (.lY 117)) (.seq (.mA (.lX 102) 53 .Sub (.int 1)) .skip) .skip) (.seq (.setAttr (.lX 102) 158 (.lX 158)) (.seq (.setAttr (.lX 102) 196 (.lX 196)) (.seq (.setAttr (.lX 102) 241 (.lX 241)) (.seq (.setAttr (.lX 102) 104 (.lX 104)) .skip)))))))))))))))
noncomputable def WC:MS:=(.seq (.ret (.or (.cmp (.sub (.lX 110) (.call 21 (.cons (.lX 19) .nil))) .NotEq (.lY 9)) (.cmp (.call 22 (.cons (.lX 19) .nil)) .Eq (.lY 195)))) .skip)
noncomputable def Ku:MS:=(.seq (.ite (.cmp (.call 21 (.cons (.lX 19) .nil)) .Gt (.call 20 (.cons (.lX 19) .nil))) (.seq (.ret (.lY 250)) .skip) .skip) (.seq (.ret (.lY 249)) .skip))
noncomputable def LX:MS:=(.seq (.expr (.call 246 (.cons (.lX 102) (.cons (.lX 19) .nil)))) (.seq (.assign 252 (.str [])) (.seq (.ite (.call 135 (.cons (.lX 102) .nil)) (.seq (.assign 252 (.str [35])) (.seq (.ite (.call 218 (.cons (.lX 102) .nil)) (.seq (.assign 252 (.str [43])) .skip) .skip) .skip)) .skip) (.seq (.expr (.call 247 (.cons (.lX 102) .nil))) (.seq (.ret (.lX 252)) .skip)))))
noncomputable def D7:MS:=(.seq (.mt [1] true (.list (.cons (.lY 17) (.cons (.lY 97) (.cons (.lY 96) (.cons (.lY 95) (.cons (.lY 99) .nil)))))) (.seq (.ite (.and (.cmp (.call 10 (.cons (.lX 1) .nil)) .Eq (.lX 254)) (.cmp (.lX 254) .In (.lX 255))) (.seq (.ret (.lX 1)) .skip) .skip) .skip)) (.seq (.ret (.lY 23)) .skip))
noncomputable def Pd:MS:=(.seq (.ite (.or (.cmp (.slice (.lX 224) (.un .USub (.int 1)) .none) .Eq (.str [43])) (.cmp (.slice (.lX 224) (.un .USub (.int 1)) .none) .Eq (.str [35]))) (.seq (.ret (.tup (.cons (.slice (.lX 224) .none (.un .USub (.int 1))) (.cons (.slice (.lX 224) (.un .USub (.int 1)) .none) .nil)))) .skip) .skip) (.seq (.ret (.tup (.cons (.lX 224) (.cons (.str []) .nil)))) .skip))
noncomputable def Gq:MS:=(.seq (.assign 226 (.un .USub (.int 1))) (.seq (.assign 225 (.un .USub (.int 1))) (.seq (.ite (.and (.cmp (.slice (.lX 258) .none (.int 1)) .NotEq (.str [])) (.cmp (.sub (.lX 258) (.int 0)) .In (.str [97,98,99,100,101,102,103,104]))) (.seq (.assign 226 (.mz (.str [97,98,99,100,101,102,103,104]) 2 (.cons (.sub (.lX 258) (.int 0)) .nil))) (.seq (.assign 258 (.slice (.lX 258) (.int 1) .none)) .skip)) .skip) (.seq (.ite (.and (.cmp (.slice (.lX 258) .none (.int 1)) .NotEq (.str [])) (.cmp (.sub (.lX 258) (.int 0)) .In (.str [49,50,51,52,53,54,55,56]))) (.seq (.assign 225 (.mz (.str [49,50,51,52,53,54,55,56]) 2 (.cons (.sub (.lX 258) (.int 0)) .nil))) (.seq (.assign 258 (.slice (.lX 258) (.int 1) .none)) .skip)) .skip) (.seq (.ite (.cmp (.lX 258) .NotEq (.str [])) (.seq (.ret .none) .skip) .skip) (.seq (.ret (.tup (.cons (.lX 226) (.cons (.lX 225) .nil)))) .skip))))))
noncomputable def DI:MS:=(.seq (.assign 261 (.lX 224)) (.seq (.assign 1 (.call 256 (.cons (.slice (.lX 261) .none (.int 1)) (.cons (.str [78,66,82,81,75]) .nil)))) (.seq (.assign 14 (.lY 23)) (.seq (.ite (.cmp (.lX 1) .NotEq (.lY 23)) (.seq (.assign 261 (.slice (.lX 261) (.int 1) .none)) .skip) (.seq (.assign 1 (.lY 100)) (.seq (.assign 14 (.call 256 (.cons (.slice (.lX 261) (.un .USub (.int 1)) .none) (.cons (.str [78,66,82,81]) .nil)))) (.seq (.ite (.cmp (.lX 14) .NotEq (.lY 23)) (.seq (.assign 261 (.slice (.lX 261) .none (.un .USub (.int 1)))) (.seq (.ite (.cmp (.slice (.lX 261) (.un .USub (.int 1)) .none) .Eq (.str [61])) (.seq (.assign 261 (.slice (.lX 261) .none (.un .USub (.int 1)))) .skip) .skip) .skip)) .skip) .skip)))) (.seq (.assign 61 (.call 227 (.cons (.lX 45) (.cons (.lX 49) (.cons (.slice (.lX 261) (.un .USub (.int 2)) .none) .nil))))) (.seq (.ite (.cmp (.lX 61) .Lt (.int 0)) (.seq (.raise 2 (.lX 224)) .skip) .skip) (.seq (.assign 258 (.slice (.lX 261) .none (.un .USub (.int 2)))) (.seq (.assign 260 (.cmp (.slice (.lX 258) (.un .USub (.int 1)) .none) .Eq (.str [120]))) (.seq (.ite (.lX 260) (.seq (.assign 258 (.slice (.lX 258) .none (.un .USub (.int 1)))) .skip) .skip) (.seq (.assign 11 (.call 259 (.cons (.lX 258) .nil))) (.seq (.ite (.cmp (.lX 11) .Is .none) (.seq (.raise 2 (.lX 224)) .skip) .skip) (.seq (.ite (.and (.cmp (.lX 1) .Eq (.lY 100)) (.and (.lX 260) (.cmp (.sub (.lX 11) (.int 0)) .Lt (.int 0)))) (.seq (.raise 2 (.lX 224)) .skip) .skip) (.seq (.ret (.tup (.cons (.lX 1) (.cons (.sub (.lX 11) (.int 0)) (.cons (.sub (.lX 11) (.int 1)) (.cons (.lX 260) (.cons (.lX 61) (.cons (.lX 14) .nil)))))))) .skip)))))))))))))
noncomputable def TI:MS:=(.seq (.mq [1,226,225,260,61,14] (.lX 263)) (.seq (.assign 11 (.call 20 (.cons (.lX 19) .nil))) (.seq (.ite (.or (.cmp (.call 22 (.cons (.lX 19) .nil)) .Eq (.lY 162)) (.or (.cmp (.call 21 (.cons (.lX 19) .nil)) .NotEq (.lX 61)) (.cmp (.call 24 (.cons (.lX 19) .nil)) .NotEq (.lX 14)))) (.seq (.ret (.bool false)) .skip) .skip) (.seq (.ite (.or (.cmp (.call 5 (.cons (.sub (.lX 110) (.lX 11)) .nil)) .NotEq (.lX 1)) (.cmp (.call 248 (.cons (.lX 110) (.cons (.lX 19) .nil))) .NotEq (.lX 260))) (.seq (.ret (.bool false)) .skip) .skip) (.seq (.ite (.and (.cmp (.lX 226) .GtE (.int 0)) (.cmp (.call 219 (.cons (.lX 45) (.cons (.lX 11) .nil))) .NotEq (.lX 226))) (.seq (.ret (.bool false)) .skip) .skip) (.seq (.ret (.or (.cmp (.lX 225) .Lt (.int 0)) (.cmp (.call 220 (.cons (.lX 45) (.cons (.lX 11) .nil))) .Eq (.lX 225)))) .skip))))))
noncomputable def FX:MS:=(.seq (.assign 31 (.list .nil)) (.seq (.ite (.or (.cmp (.lX 261) .Eq (.lY 250)) (.cmp (.lX 261) .Eq (.lY 249))) (.seq (.mt [19] true (.lX 214) (.seq (.ite (.and (.cmp (.call 22 (.cons (.lX 19) .nil)) .Eq (.lY 162)) (.cmp (.call 251 (.cons (.lX 19) .nil)) .Eq (.lX 261))) (.seq (.expr (.mz (.lX 31) 0 (.cons (.lX 19) .nil))) .skip) .skip) .skip)) (.seq (.ret (.lX 31)) .skip)) .skip) (.seq (.assign 263 (.call 262 (.cons (.lX 261) (.cons (.lX 45) (.cons (.lX 49) .nil))))) (.seq (.mt [19] true (.lX 214) (.seq (.ite (.call 264 (.cons (.lX 45) (.cons (.lX 110) (.cons (.lX 19) (.cons (.lX 263) .nil))))) (.seq (.expr (.mz (.lX 31) 0 (.cons (.lX 19) .nil))) .skip) .skip) .skip)) (.seq (.ret (.lX 31)) .skip)))))
noncomputable def Pk:MS:=(.seq (.mq [261,252] (.call 257 (.cons (.lX 224) .nil))) (.seq (.assign 68 (.call 265 (.cons (.lX 45) (.cons (.lX 49) (.cons (.lX 110) (.cons (.lX 214) (.cons (.lX 261) .nil))))))) (.seq (.ite (.cmp (.lX 68) .Eq (.list .nil)) (.seq (.raise 2 (.lX 224)) .skip) .skip) (.seq (.ite (.cmp (.blt 0 (.cons (.lX 68) .nil)) .Gt (.int 1)) (.seq (.raise 3 (.lX 224)) .skip) .skip) (.seq (.ret (.tup (.cons (.sub (.lX 68) (.int 0)) (.cons (.lX 252) .nil)))) .skip)))))
noncomputable def NH:MS:=(.seq (.mq [19,252] (.call 266 (.cons (.attr (.attr (.lX 102) 33) 45) (.cons (.attr (.attr (.lX 102) 33) 49) (.cons (.attr (.lX 102) 110) (.cons (.call 216 (.cons (.lX 102) .nil)) (.cons (.lX 224) .nil))))))) (.seq (.ite (.and (.cmp (.lX 252) .NotEq (.str [])) (.cmp (.call 253 (.cons (.lX 102) (.cons (.lX 19) .nil))) .NotEq (.lX 252))) (.seq (.raise 2 (.lX 224)) .skip) .skip) (.seq (.ret (.lX 19)) .skip)))
noncomputable def Hb:MS:=(.seq (.ite (.cmp (.call 22 (.cons (.lX 19) .nil)) .Eq (.lY 162)) (.seq (.ret (.call 251 (.cons (.lX 19) .nil))) .skip) .skip) (.seq (.assign 1 (.call 5 (.cons (.sub (.lX 110) (.call 20 (.cons (.lX 19) .nil))) .nil))) (.seq (.assign 224 (.call 223 (.cons (.lX 45) (.cons (.call 20 (.cons (.lX 19) .nil)) .nil)))) (.seq (.ite (.cmp (.lX 1) .NotEq (.lY 100)) (.seq (.assign 224 (.bin .Add (.call 10 (.cons (.lX 1) .nil)) (.lX 224))) .skip) .skip) (.seq (.ite (.call 248 (.cons (.lX 110) (.cons (.lX 19) .nil))) (.seq (.assign 224 (.bin .Add (.lX 224) (.str [120]))) .skip) (.seq (.assign 224 (.bin .Add (.lX 224) (.str [45]))) .skip)) (.seq (.assign 224 (.bin .Add (.lX 224) (.call 223 (.cons (.lX 45) (.cons (.call 21 (.cons (.lX 19) .nil)) .nil))))) (.seq (.ite (.cmp (.call 24 (.cons (.lX 19) .nil)) .NotEq (.lY 23)) (.seq (.assign 224 (.bin .Add (.bin .Add (.lX 224) (.str [61])) (.call 10 (.cons (.call 24 (.cons (.lX 19) .nil)) .nil)))) .skip) .skip) (.seq (.ret (.lX 224)) .skip))))))))
noncomputable def HP:MS:=(.seq (.mq [261,252] (.call 257 (.cons (.lX 224) .nil))) (.seq (.mt [19] true (.lX 214) (.seq (.ite (.cmp (.call 268 (.cons (.lX 45) (.cons (.lX 110) (.cons (.lX 19) .nil)))) .Eq (.lX 261)) (.seq (.ret (.tup (.cons (.lX 19) (.cons (.lX 252) .nil)))) .skip) .skip) .skip)) (.seq (.raise 1 (.lX 224)) .skip)))
noncomputable def L3:MS:=(.seq (.mq [19,252] (.call 269 (.cons (.attr (.attr (.lX 102) 33) 45) (.cons (.attr (.lX 102) 110) (.cons (.call 216 (.cons (.lX 102) .nil)) (.cons (.lX 224) .nil)))))) (.seq (.ite (.and (.cmp (.lX 252) .NotEq (.str [])) (.cmp (.call 253 (.cons (.lX 102) (.cons (.lX 19) .nil))) .NotEq (.lX 252))) (.seq (.raise 1 (.lX 224)) .skip) .skip) (.seq (.ret (.lX 19)) .skip)))
noncomputable def DH:MS:=(.seq (.ite (.and (.cmp (.blt 0 (.cons (.lX 224) .nil)) .NotEq (.int 4)) (.cmp (.blt 0 (.cons (.lX 224) .nil)) .NotEq (.int 5))) (.seq (.raise 1 (.lX 224)) .skip) .skip) (.seq (.assign 271 (.list .nil)) (.seq (.mt [252] true (.lX 224) (.seq (.expr (.mz (.lX 271) 0 (.cons (.mz (.str [49,50,51,52,53,54,55,56]) 2 (.cons (.lX 252) .nil)) .nil))) .skip)) (.seq (.mt [272] true (.list (.cons (.int 0) (.cons (.int 2) .nil))) (.seq (.ite (.or (.un .Not (.oA (.int 0) .LtE (.sub (.lX 271) (.lX 272)) .Lt (.lX 45))) (.un .Not (.oA (.int 0) .LtE (.sub (.lX 271) (.bin .Add (.lX 272) (.int 1))) .Lt (.lX 49)))) (.seq (.raise 1 (.lX 224)) .skip) .skip) .skip)) (.seq (.assign 14 (.lY 23)) (.seq (.ite (.cmp (.blt 0 (.cons (.lX 224) .nil)) .Eq (.int 5)) (.seq (.ite (.un .Not (.oA (.int 0) .LtE (.sub (.lX 271) (.int 4)) .Lt (.int 4))) (.seq (.raise 1 (.lX 224)) .skip) .skip) (.seq (.assign 14 (.bin .Sub (.lY 95) (.sub (.lX 271) (.int 4)))) .skip)) .skip) (.seq (.ret (.tup (.cons (.bin .Add (.bin .Mult (.sub (.lX 271) (.int 1)) (.lX 45)) (.sub (.lX 271) (.int 0))) (.cons (.bin .Add (.bin .Mult (.sub (.lX 271) (.int 3)) (.lX 45)) (.sub (.lX 271) (.int 2))) (.cons (.lX 14) .nil))))) .skip)))))))
noncomputable def NI:MS:=(.seq (.mq [11,61,14] (.call 273 (.cons (.lX 45) (.cons (.lX 49) (.cons (.lX 224) .nil))))) (.seq (.mt [19] true (.lX 214) (.seq (.ite (.and (.cmp (.call 20 (.cons (.lX 19) .nil)) .Eq (.lX 11)) (.and (.cmp (.call 21 (.cons (.lX 19) .nil)) .Eq (.lX 61)) (.cmp (.call 24 (.cons (.lX 19) .nil)) .Eq (.lX 14)))) (.seq (.ret (.lX 19)) .skip) .skip) .skip)) (.seq (.raise 1 (.lX 224)) .skip)))
noncomputable def L2:MS:=(.seq (.ret (.call 274 (.cons (.attr (.attr (.lX 102) 33) 45) (.cons (.attr (.attr (.lX 102) 33) 49) (.cons (.call 216 (.cons (.lX 102) .nil)) (.cons (.lX 224) .nil)))))) .skip)
noncomputable def EV:MS:=(.seq (.nj (.call 231 (.cons (.lX 102) (.cons (.lX 224) .nil))) 1 (.seq .skip .skip)) (.seq (.nj (.call 267 (.cons (.lX 102) (.cons (.lX 224) .nil))) 2 (.seq .skip .skip)) (.seq (.nj (.call 270 (.cons (.lX 102) (.cons (.lX 224) .nil))) 1 (.seq (.ret (.call 275 (.cons (.lX 102) (.cons (.lX 224) .nil)))) .skip)) .skip)))
noncomputable def KC:MS:=(.seq (.ret (.dict (.cons (.cons (.lY 99) (.str [75])) (.cons (.cons (.lY 95) (.str [81])) (.cons (.cons (.lY 96) (.str [82])) (.cons (.cons (.lY 97) (.str [66])) (.cons (.cons (.lY 17) (.str [78])) (.cons (.cons (.lY 100) (.str [])) .nil)))))))) .skip)
noncomputable def Ph:MS:=(.seq (.mM (.lX 278) (.int 1) .Add (.int 1)) (.seq (.ite (.cmp (.sub (.lX 278) (.int 1)) .LtE (.blt 0 (.cons (.sub (.lX 278) (.int 0)) .nil))) (.seq (.ret (.bin .Mod (.sub (.sub (.lX 278) (.int 0)) (.bin .Sub (.sub (.lX 278) (.int 1)) (.int 1))) (.lX 279))) .skip) .skip) (.seq (.ret (.bin .Mod (.bin .Add (.bin .Add (.bin .Mult (.sub (.lX 278) (.int 1)) (.sub (.lX 278) (.int 1))) (.bin .Mult (.int 6) (.sub (.lX 278) (.int 1)))) (.int 4)) (.lX 279))) .skip)))
noncomputable def Av:MS:=(.seq (.assign 49 (.bin .Add (.int 4) (.call 280 (.cons (.lX 278) (.cons (.int 2) .nil))))) (.seq (.assign 63 (.bin .Mult (.int 4) (.lX 49))) (.seq (.assign 287 (.comp (.comp (.bin .Add (.bin .Add (.bin .Mult (.lX 288) (.int 64)) (.lX 282)) (.int 1)) [282] true (.blt 4 (.cons (.lX 63) .nil)) (.bool true)) [288] true (.blt 4 (.cons (.int 15) .nil)) (.bool true))) (.seq (.assign 102 (.call 285 (.cons (.call 87 (.cons (.int 4) (.cons (.lX 49) (.cons (.bool false) (.cons (.bool false) .nil))))) (.cons (.call 286 (.cons (.lX 287) (.cons (.bin .Mult (.list (.cons (.int 0) .nil)) (.int 4)) (.cons (.bin .Mult (.list (.cons (.int 0) .nil)) (.int 16)) (.cons (.int 3) .nil))))) .nil)))) (.seq (.setAttr (.lX 102) 0 (.call 280 (.cons (.lX 278) (.cons (.int 2) .nil)))) (.seq (.assign 284 (.call 280 (.cons (.lX 278) (.cons (.lX 63) .nil)))) (.seq (.assign 283 (.comp (.lX 282) [282] true (.blt 4 (.cons (.lX 63) .nil)) (.cmp (.blt 2 (.cons (.blt 1 (.cons (.bin .Sub (.bin .Mod (.lX 282) (.int 4)) (.bin .Mod (.lX 284) (.int 4))) .nil)) (.cons (.blt 1 (.cons (.bin .Sub (.bin .FloorDiv (.lX 282) (.int 4)) (.bin .FloorDiv (.lX 284) (.int 4))) .nil)) .nil))) .Gt (.int 1)))) (.seq (.expr (.call 111 (.cons (.lX 102) (.cons (.call 2 (.cons (.attr (.lX 102) 0) (.cons (.lY 99) .nil))) (.cons (.lX 284) .nil))))) (.seq (.expr (.call 111 (.cons (.lX 102) (.cons (.call 2 (.cons (.bin .Sub (.int 1) (.attr (.lX 102) 0)) (.cons (.lY 99) .nil))) (.cons (.sub (.lX 283) (.call 280 (.cons (.lX 278) (.cons (.blt 0 (.cons (.lX 283) .nil)) .nil)))) .nil))))) (.seq (.mt [281] true (.blt 4 (.cons (.call 280 (.cons (.lX 278) (.cons (.int 3) .nil))) .nil)) (.seq (.assign 1 (.sub (.list (.cons (.lY 96) (.cons (.lY 97) (.cons (.lY 17) (.cons (.lY 100) (.cons (.lY 100) .nil)))))) (.call 280 (.cons (.lX 278) (.cons (.int 5) .nil))))) (.seq (.assign 0 (.ite (.cmp (.call 280 (.cons (.lX 278) (.cons (.int 3) .nil))) .Gt (.int 0)) (.attr (.lX 102) 0) (.bin .Sub (.int 1) (.attr (.lX 102) 0)))) (.seq (.assign 282 (.call 280 (.cons (.lX 278) (.cons (.lX 63) .nil)))) (.seq (.ite (.or (.cmp (.sub (.attr (.lX 102) 110) (.lX 282)) .NotEq (.lY 9)) (.and (.cmp (.lX 1) .Eq (.lY 100)) (.cmp (.bin .FloorDiv (.lX 282) (.int 4)) .In (.tup (.cons (.int 0) (.cons (.bin .Sub (.lX 49) (.int 1)) .nil)))))) (.seq .cont .skip) .skip) (.seq (.expr (.call 111 (.cons (.lX 102) (.cons (.call 2 (.cons (.lX 0) (.cons (.lX 1) .nil))) (.cons (.lX 282) .nil))))) (.seq (.ite (.call 134 (.cons (.lX 102) (.cons (.bin .Sub (.int 1) (.attr (.lX 102) 0)) .nil))) (.seq (.expr (.call 112 (.cons (.lX 102) (.cons (.lX 282) .nil)))) .skip) .skip) .skip))))))) (.seq (.ret (.lX 102)) .skip)))))))))))
noncomputable def LZ:MS:=(.seq (.ret (.bin .Add (.sub (.str [97,98,99,100]) (.bin .Mod (.lX 282) (.int 4))) (.sub (.str [49,50,51,52,53]) (.bin .FloorDiv (.lX 282) (.int 4))))) .skip)
noncomputable def Pi:MS:=(.seq (.expr (.call 246 (.cons (.lX 102) (.cons (.lX 19) .nil)))) (.seq (.assign 291 (.ite (.un .Not (.call 135 (.cons (.lX 102) .nil))) (.str []) (.ite (.cmp (.call 216 (.cons (.lX 102) .nil)) .NotEq (.list .nil)) (.str [43]) (.str [35])))) (.seq (.expr (.call 247 (.cons (.lX 102) .nil))) (.seq (.ret (.lX 291)) .skip))))
noncomputable def AY:MS:=(.seq (.mq [82,61,14] (.tup (.cons (.call 20 (.cons (.lX 19) .nil)) (.cons (.call 21 (.cons (.lX 19) .nil)) (.cons (.call 24 (.cons (.lX 19) .nil)) .nil))))) (.seq (.assign 1 (.call 5 (.cons (.sub (.attr (.lX 102) 110) (.lX 82)) .nil))) (.seq (.assign 260 (.ite (.cmp (.sub (.attr (.lX 102) 110) (.lX 61)) .NotEq (.lY 9)) (.str [120]) (.str []))) (.seq (.assign 297 (.call 290 (.cons (.lX 82) .nil))) (.seq (.assign 299 (.ite (.cmp (.lX 14) .NotEq (.lY 23)) (.list (.cons (.bin .Add (.str [61]) (.sub (.call 277 .nil) (.lX 14))) (.cons (.sub (.call 277 .nil) (.lX 14)) .nil))) (.list (.cons (.str []) .nil)))) (.seq (.assign 194 (.list (.cons (.str []) (.cons (.sub (.lX 297) (.int 0)) (.cons (.sub (.lX 297) (.int 1)) (.cons (.lX 297) .nil)))))) (.seq (.ite (.and (.cmp (.lX 1) .Eq (.lY 100)) (.cmp (.lX 260) .Eq (.str [120]))) (.seq (.assign 194 (.list (.cons (.sub (.lX 297) (.int 0)) (.cons (.lX 297) .nil)))) .skip) .skip) (.seq (.assign 295 (.nU (.bin .Add (.bin .Add (.bin .Add (.bin .Add (.sub (.call 277 .nil) (.lX 1)) (.lX 11)) (.lX 260)) (.call 290 (.cons (.lX 61) .nil))) (.lX 300)) 11 (.lX 194) 300 (.lX 299))) (.seq (.assign 296 (.bin .Add (.bin .Add (.lX 297) (.call 290 (.cons (.lX 61) .nil))) (.ite (.cmp (.lX 14) .Eq (.lY 23)) (.str []) (.mz (.sub (.call 277 .nil) (.lX 14)) 3 .nil)))) (.seq (.assign 294 (.bin .Add (.bin .Add (.bin .Add (.bin .Add (.sub (.call 277 .nil) (.lX 1)) (.lX 297)) (.ite (.cmp (.lX 260) .NotEq (.str [])) (.lX 260) (.str [45]))) (.call 290 (.cons (.lX 61) .nil))) (.sub (.lX 299) (.int 0)))) (.seq (.assign 293 (.mz (.str []) 4 (.cons (.comp (.bin .Add (.blt 3 (.cons (.bin .Add (.mz (.str [97,98,99,100]) 2 (.cons (.sub (.lX 298) (.int 0)) .nil)) (.int 1)) .nil)) (.sub (.lX 298) (.int 1))) [298] true (.tup (.cons (.lX 297) (.cons (.call 290 (.cons (.lX 61) .nil)) .nil))) (.bool true)) .nil))) (.seq (.ite (.cmp (.lX 14) .NotEq (.lY 23)) (.seq (.aug 293 .Add (.sub (.dict (.cons (.cons (.lY 95) (.str [49])) (.cons (.cons (.lY 96) (.str [50])) (.cons (.cons (.lY 97) (.str [51])) (.cons (.cons (.lY 17) (.str [52])) .nil))))) (.lX 14))) .skip) .skip) (.seq (.ret (.tup (.cons (.lX 296) (.cons (.lX 295) (.cons (.lX 294) (.cons (.lX 293) (.cons (.call 292 (.cons (.lX 102) (.cons (.lX 19) .nil))) .nil))))))) .skip)))))))))))))
noncomputable def Ce:MS:=(.seq (.mq [261,291] (.ite (.cmp (.slice (.lX 224) (.un .USub (.int 1)) .none) .In (.tup (.cons (.str [43]) (.cons (.str [35]) .nil)))) (.tup (.cons (.slice (.lX 224) .none (.un .USub (.int 1))) (.cons (.sub (.lX 224) (.un .USub (.int 1))) .nil))) (.tup (.cons (.lX 224) (.cons (.str []) .nil))))) (.seq (.mt [19,303] false (.lX 302) (.seq (.ite (.or (.cmp (.sub (.lX 303) (.int 0)) .Eq (.lX 224)) (.cmp (.sub (.lX 303) (.int 3)) .Eq (.lX 224))) (.seq (.ret (.lX 19)) .skip) .skip) .skip)) (.seq (.assign 304 (.comp (.tup (.cons (.lX 19) (.cons (.lX 303) .nil))) [19,303] false (.lX 302) (.cmp (.lX 261) .In (.sub (.lX 303) (.int 1))))) (.seq (.ite (.and (.cmp (.blt 0 (.cons (.lX 304) .nil)) .Eq (.int 1)) (.cmp (.lX 291) .In (.tup (.cons (.str []) (.cons (.sub (.sub (.sub (.lX 304) (.int 0)) (.int 1)) (.int 4)) .nil))))) (.seq (.ret (.sub (.sub (.lX 304) (.int 0)) (.int 0))) .skip) .skip) (.seq (.mt [19,303] false (.lX 302) (.seq (.ite (.and (.cmp (.sub (.lX 303) (.int 2)) .Eq (.lX 261)) (.cmp (.lX 291) .In (.tup (.cons (.str []) (.cons (.sub (.lX 303) (.int 4)) .nil))))) (.seq (.ret (.lX 19)) .skip) .skip) .skip)) (.seq (.ret .none) .skip))))))
noncomputable def NC:MS:=(.seq (.nj (.call 276 (.cons (.lX 102) (.cons (.lX 224) .nil))) 1 (.seq (.ret .none) .skip)) .skip)
noncomputable def Dn:MS:=(.seq (.assign 278 (.list (.cons (.slice (.lX 307) .none (.int 40)) (.cons (.int 0) .nil)))) (.seq (.assign 102 (.call 289 (.cons (.lX 278) .nil))) (.seq (.assign 302 (.comp (.tup (.cons (.lX 19) (.cons (.call 301 (.cons (.lX 102) (.cons (.lX 19) .nil))) .nil))) [19] true (.call 216 (.cons (.lX 102) .nil)) (.bool true))) (.seq (.assign 309 (.list (.cons (.mz (.str []) 4 (.cons (.comp (.sub (.lY 310) (.call 280 (.cons (.lX 278) (.cons (.blt 0 (.cons (.lY 310) .nil)) .nil)))) [281] true (.blt 4 (.cons (.call 280 (.cons (.lX 278) (.cons (.int 7) .nil))) .nil)) (.bool true)) .nil)) .nil))) (.seq (.ite (.cmp (.lX 302) .NotEq (.list .nil)) (.seq (.assign 311 (.call 280 (.cons (.lX 278) (.cons (.int 6) .nil)))) (.seq (.assign 303 (.sub (.sub (.lX 302) (.call 280 (.cons (.lX 278) (.cons (.blt 0 (.cons (.lX 302) .nil)) .nil)))) (.int 1))) (.seq (.assign 224 (.sub (.list (.cons (.sub (.lX 303) (.int 0)) (.cons (.sub (.sub (.lX 303) (.int 1)) (.call 280 (.cons (.lX 278) (.cons (.blt 0 (.cons (.sub (.lX 303) (.int 1)) .nil)) .nil)))) (.cons (.sub (.lX 303) (.int 2)) (.cons (.sub (.lX 303) (.int 3)) (.cons (.bin .Add (.sub (.lX 303) (.int 2)) (.sub (.lX 303) (.int 4))) (.cons (.bin .Add (.sub (.sub (.lX 303) (.int 1)) (.int 0)) (.str [43])) .nil))))))) (.lX 311))) (.seq (.assign 282 (.call 280 (.cons (.lX 278) (.cons (.bin .Add (.blt 0 (.cons (.lX 224) .nil)) (.int 1)) .nil)))) (.seq (.assign 252 (.sub (.lY 310) (.call 280 (.cons (.lX 278) (.cons (.blt 0 (.cons (.lY 310) .nil)) .nil))))) (.seq (.aug 309 .Add (.list (.cons (.lX 224) (.cons (.bin .Add (.bin .Add (.slice (.lX 224) .none (.lX 282)) (.sub (.list (.cons (.str []) (.cons (.lX 252) .nil))) (.call 280 (.cons (.lX 278) (.cons (.int 2) .nil))))) (.slice (.lX 224) (.bin .Add (.lX 282) (.int 1)) .none)) .nil)))) .skip)))))) .skip) (.seq (.assign 308 (.tup (.cons (.slice (.attr (.lX 102) 110) .none .none) (.cons (.attr (.lX 102) 0) (.cons (.attr (.lX 102) 104) (.cons (.attr (.lX 102) 241) (.cons (.attr (.lX 102) 53) .nil))))))) (.seq (.mt [224] true (.lX 309) (.seq (.ite (.cmp (.call 306 (.cons (.lX 102) (.cons (.lX 224) .nil))) .NotEq (.call 305 (.cons (.lX 302) (.cons (.lX 224) .nil)))) (.seq (.ret (.bool false)) .skip) .skip) .skip)) (.seq (.ret (.and (.cmp (.tup (.cons (.attr (.lX 102) 110) (.cons (.attr (.lX 102) 0) (.cons (.attr (.lX 102) 104) (.cons (.attr (.lX 102) 241) (.cons (.attr (.lX 102) 53) .nil)))))) .Eq (.lX 308)) (.cmp (.attr (.lX 102) 244) .Eq (.list .nil)))) .skip))))))))
noncomputable def D9:MS:=(.seq (.assign 61 (.call 21 (.cons (.lX 19) .nil))) (.seq (.ite (.cmp (.call 22 (.cons (.lX 19) .nil)) .NotEq (.lY 195)) (.seq (.ret (.lX 61)) .skip) .skip) (.seq (.ite (.cmp (.attr (.lX 102) 0) .Eq (.lY 116)) (.seq (.ret (.bin .Sub (.lX 61) (.attr (.attr (.lX 102) 33) 45))) .skip) .skip) (.seq (.ret (.bin .Add (.lX 61) (.attr (.attr (.lX 102) 33) 45))) .skip))))
noncomputable def Ea:MS:=(.seq (.assign 61 (.call 21 (.cons (.lX 19) .nil))) (.seq (.ite (.cmp (.call 22 (.cons (.lX 19) .nil)) .NotEq (.lY 195)) (.seq (.ret (.lX 61)) .skip) .skip) (.seq (.ite (.cmp (.attr (.lX 102) 0) .Eq (.lY 116)) (.seq (.ret (.bin .Sub (.lX 61) (.attr (.attr (.lX 102) 33) 45))) .skip) .skip) (.seq (.ret (.bin .Add (.lX 61) (.attr (.attr (.lX 102) 33) 45))) .skip))))
noncomputable def O9:MS:=(.seq (.setAttr (.lX 313) 45 (.lX 45)) (.seq (.setAttr (.lX 313) 49 (.lX 49)) (.seq (.setAttr (.lX 313) 63 (.bin .Mult (.lX 45) (.lX 49))) (.seq (.setAttr (.lX 313) 53 (.bin .Sub (.bin .LShift (.int 1) (.bin .Mult (.lX 45) (.lX 49))) (.int 1))) (.seq (.setAttr (.lX 313) 85 (.and (.lX 85) (.cmp (.lX 49) .GtE (.int 5)))) (.seq (.setAttr (.lX 313) 79 (.lX 79)) (.seq (.setAttr (.lX 313) 46 (.list .nil)) (.seq (.setAttr (.lX 313) 50 (.list .nil)) (.seq (.setAttr (.lX 313) 36 (.list .nil)) (.seq (.setAttr (.lX 313) 60 (.list .nil)) (.seq (.setAttr (.lX 313) 67 (.list .nil)) (.seq (.setAttr (.lX 313) 65 (.list (.cons (.list .nil) (.cons (.list .nil) .nil)))) (.seq (.setAttr (.lX 313) 83 (.list .nil)) (.seq (.setAttr (.lX 313) 80 (.list .nil)) .skip))))))))))))))
noncomputable def Pa:MS:=(.seq (.setAttr (.lX 313) 33 (.lX 33)) (.seq (.setAttr (.lX 313) 105 (.lX 105)) (.seq (.setAttr (.lX 313) 110 (.bin .Mult (.list (.cons (.lY 9) .nil)) (.attr (.lX 33) 63))) (.seq (.setAttr (.lX 313) 109 (.bin .Mult (.list (.cons (.int 0) .nil)) (.int 7))) (.seq (.setAttr (.lX 313) 107 (.list (.cons (.int 0) (.cons (.int 0) .nil)))) (.seq (.setAttr (.lX 313) 0 (.lY 116)) (.seq (.setAttr (.lX 313) 158 (.int 0)) (.seq (.setAttr (.lX 313) 196 (.un .USub (.int 1))) (.seq (.setAttr (.lX 313) 241 (.int 0)) (.seq (.setAttr (.lX 313) 53 (.int 1)) (.seq (.setAttr (.lX 313) 104 (.int 0)) (.seq (.setAttr (.lX 313) 244 (.list .nil)) .skip))))))))))))
noncomputable def R7:MS:=(.seq (.setAttr (.lX 313) 106 (.lX 106)) (.seq (.setAttr (.lX 313) 196 (.lX 196)) (.seq (.setAttr (.lX 313) 158 (.lX 158)) (.seq (.setAttr (.lX 313) 0 (.lX 0)) .skip))))
noncomputable def Bg:List (List Nat):=[
 [115,105,100,101],
 [107,105,110,100],
 [109,97,107,101,95,112,105,101,99,101],
 [112,105,101,99,101],
 [115,105,100,101,95,111,102],
 [107,105,110,100,95,111,102],
 [110,117,109,98,101,114],
 [105,115,95,112,105,101,99,101],
 [76,69,84,84,69,82,83],
 [69,77,80,84,89],
 [108,101,116,116,101,114,95,111,102],
 [111,114,105,103,105,110],
 [116,111],
 [115,112,101,99,105,97,108],
 [112,114,111,109,111],
 [102,105,101,108,100],
 [80,82,79,77,79,84,73,79,78],
 [75,78,73,71,72,84],
 [112,97,99,107,95,109,111,118,101],
 [109,111,118,101],
 [109,111,118,101,95,102,114,111,109],
 [109,111,118,101,95,116,111],
 [109,111,118,101,95,115,112,101,99,105,97,108],
 [78,79,95,75,73,78,68],
 [109,111,118,101,95,112,114,111,109,111],
 [98],
 [109,111,114,101,95,116,104,97,110,95,111,110,101],
 [115,113,117,97,114,101],
 [119,105,100,116,104],
 [104,105,103,104,101,115,116],
 [108,111,119,101,115,116],
 [111,117,116],
 [115,113,117,97,114,101,115,95,111,102],
 [103,101,111],
 [97],
 [100],
 [114,97,121,115],
 [100,105,114,101,99,116,105,111,110],
 [98,101,116,119,101,101,110],
 [108,105,110,101],
 [99],
 [97,108,105,103,110,101,100],
 [83,84,69,80,95,82,65,78,75,83],
 [105,115,95,103,114,111,119,105,110,103],
 [102],
 [102,105,108,101,115],
 [102,105,108,101,95,109,97,115,107,115],
 [99,111,108,117,109,110],
 [114],
 [114,97,110,107,115],
 [114,97,110,107,95,109,97,115,107,115],
 [114,111,119],
 [97,100,100,95,109,97,115,107,115],
 [102,117,108,108],
 [101,100,103,101],
 [83,84,69,80,95,70,73,76,69,83],
 [105,110,110,101,114,95,115,113,117,97,114,101,115],
 [114,97,121],
 [111,114,100,101,114],
 [105,110,110,101,114],
 [107,105,110,103],
 [103,111,97,108],
 [100,101,108,116,97],
 [115,105,122,101],
 [97,100,100,95,114,97,121,115],
 [112,97,119,110],
 [97,100,100,95,112,97,119,110,115],
 [107,110,105,103,104,116],
 [102,111,117,110,100],
 [110,101,97,114],
 [102,97,114],
 [110,111,116,95,102,105,114,115,116,95,116,119,111],
 [110,111,116,95,108,97,115,116,95,116,119,111],
 [110,111,116,95,102,105,114,115,116],
 [110,111,116,95,108,97,115,116],
 [97,100,100,95,107,110,105,103,104,116,115],
 [105,110,100,101,120],
 [99,111,114,110,101,114],
 [119,97,121],
 [104,97,115,95,99,97,115,116,108,105,110,103],
 [114,105,103,104,116,115,95,108,111,115,116],
 [98,97,115,101],
 [115,116,97,114,116],
 [99,97,115,116,108,101,115],
 [97,100,100,95,99,97,115,116,108,101,115],
 [104,97,115,95,100,111,117,98,108,101],
 [71,101,111,109,101,116,114,121],
 [109,97,107,101,95,103,101,111,109,101,116,114,121],
 [111,99,99,117,112,105,101,100],
 [98,101,104,105,110,100],
 [115,116,111,112],
 [114,97,121,95,97,116,116,97,99,107,115],
 [114,111,111,107,95,97,116,116,97,99,107,115],
 [98,105,115,104,111,112,95,97,116,116,97,99,107,115],
 [113,117,101,101,110,95,97,116,116,97,99,107,115],
 [81,85,69,69,78],
 [82,79,79,75],
 [66,73,83,72,79,80],
 [115,108,105,100,101,114,95,97,116,116,97,99,107,115],
 [75,73,78,71],
 [80,65,87,78],
 [112,105,101,99,101,95,97,116,116,97,99,107,115],
 [112,111,115],
 [115],
 [107,101,121],
 [122,111,98],
 [112,105,101,99,101,115],
 [115,105,100,101,115],
 [98,105,116],
 [107,105,110,100,115],
 [98,111,97,114,100],
 [112,117,116,95,112,105,101,99,101],
 [116,97,107,101,95,112,105,101,99,101],
 [110,117,109,98,101,114,115],
 [98,105,116,115],
 [115,104,105,102,116,95,112,105,101,99,101],
 [87,72,73,84,69],
 [66,76,65,67,75],
 [107,105,110,103,95,115,113,117,97,114,101],
 [115,116,114,97,105,103,104,116,95,115,108,105,100,101,114,115],
 [115,108,97,110,116,105,110,103,95,115,108,105,100,101,114,115],
 [112,97,119,110,95,97,116,116,97,99,107,101,114,115],
 [115,116,101,112,95,97,116,116,97,99,107,101,114,115],
 [104,105,116,115],
 [115,108,97,110,116,105,110,103],
 [115,116,114,97,105,103,104,116],
 [108,105,110,101,95,97,116,116,97,99,107,101,114,115],
 [115,116,101,112,115],
 [97,116,116,97,99,107,101,114,115,95,116,111],
 [111,119,110],
 [105,115,95,97,116,116,97,99,107,101,100],
 [101,118,101,114,121,116,104,105,110,103],
 [99,104,101,99,107,101,114,115,95,111,102],
 [99,104,101,99,107,101,114,115],
 [105,110,95,99,104,101,99,107,95,111,102],
 [105,110,95,99,104,101,99,107],
 [115,110,105,112,101,114,115,95,111,102],
 [112,105,110,110,101,114,115],
 [104,101,108,100],
 [115,110,105,112,101,114],
 [115,110,105,112,101,114,115],
 [105,110,115,105,100,101],
 [115,116,97,110,100,105,110,103],
 [98,108,111,99,107,101,114,115],
 [112,105,110,110,101,100,95,112,105,101,99,101,115],
 [115,113,117,97,114,101,115,95,119,105,116,104,105,110],
 [77,65,89],
 [119,104,111,108,101],
 [101,110,101,109,121],
 [107,105,110,103,95,116,111],
 [71,79,65,76,95,65,84,84,65,67,75,69,68],
 [114,111,111,107,95,116,111],
 [80,65,83,83,69,83,95,65,84,84,65,67,75],
 [107,105,110,103,95,102,114,111,109],
 [73,78,95,67,72,69,67,75],
 [114,111,111,107,95,102,114,111,109],
 [78,79,84,95,70,82,69,69],
 [119,105,110,103],
 [114,105,103,104,116,115],
 [82,73,71,72,84,95,76,79,83,84],
 [78,79,95,87,73,78,71],
 [99,97,115,116,108,101,95,114,101,102,117,115,97,108],
 [67,65,83,84,76,73,78,71],
 [97,100,100,95,99,97,115,116,108,105,110,103],
 [103,111,97,108,115],
 [78,79,82,77,65,76],
 [97,100,100,95,103,111,97,108,115],
 [116,97,114,103,101,116],
 [114,101,97,99,104],
 [97,100,100,95,112,105,101,99,101,95,109,111,118,101,115],
 [115,116,97,103,101],
 [81,85,73,69,84,83],
 [67,65,80,84,85,82,69,83],
 [115,116,97,103,101,95,116,97,114,103,101,116],
 [112,117,115,104,95,115,116,101,112],
 [115,116,97,114,116,95,109,97,115,107],
 [108,97,115,116,95,109,97,115,107],
 [115,104,105,102,116,95,112,117,115,104],
 [115,104,105,102,116,95,99,97,112,116,117,114,101],
 [116,119,111,115],
 [111,110,101,115],
 [112,97,115,115,101,100],
 [101,109,112,116,121],
 [112,97,119,110,115],
 [112,117,115,104,95,116,97,114,103,101,116,115],
 [105,115,95,99,97,112,116,117,114,101],
 [119,105,116,104,95,108,101,115,115,101,114],
 [97,100,100,95,112,114,111,109,111,116,105,111,110,115],
 [115,116,101,112],
 [97,100,100,95,112,108,97,105,110,95,112,117,115,104,101,115],
 [97,100,100,95,112,117,115,104,95,112,114,111,109,111,116,105,111,110,115],
 [108,97,115,116],
 [97,100,100,95,112,97,119,110,95,99,97,112,116,117,114,101,115],
 [97,100,100,95,112,97,119,110,95,109,111,118,101,115],
 [111,114,105,103,105,110,115],
 [69,78,95,80,65,83,83,65,78,84],
 [101,112],
 [97,100,100,95,101,110,95,112,97,115,115,97,110,116],
 [103,105,118,101,110],
 [101,118,97,115,105,111,110,95,116,97,114,103,101,116,115],
 [112,97,115,115,101,100,95,112,97,119,110,95,115,113,117,97,114,101],
 [109,97,121,95,97,110,115,119,101,114,95,101,110,95,112,97,115,115,97,110,116],
 [69,86,65,83,73,79,78,83],
 [97,100,100,95,101,118,97,115,105,111,110,115],
 [116,97,107,101,110,95,115,113,117,97,114,101],
 [116,97,107,101,110],
 [116,97,107,101,110,95,115,113,117,97,114,101,95,108,101,103,97,108,105,116,121],
 [105,115,95,115,97,102,101,95,101,110,95,112,97,115,115,97,110,116],
 [112,105,110,110,101,100],
 [108,105,102,116,101,100],
 [105,115,95,108,101,103,97,108],
 [103,101,110,101,114,97,116,101],
 [78,79,78,95,69,86,65,83,73,79,78,83],
 [112,115,101,117,100,111,95,109,111,118,101,115],
 [109,111,118,101,115],
 [107,101,101,112,95,108,101,103,97,108],
 [108,101,103,97,108,95,109,111,118,101,115],
 [115,116,97,103,101,115],
 [104,97,115,95,108,101,103,97,108,95,109,111,118,101],
 [102,105,108,101,95,111,102],
 [114,97,110,107,95,111,102],
 [70,73,76,69,95,76,69,84,84,69,82,83],
 [82,65,78,75,95,68,73,71,73,84,83],
 [115,113,117,97,114,101,95,110,97,109,101],
 [116,101,120,116],
 [114,97,110,107],
 [102,105,108,101],
 [114,101,97,100,95,115,113,117,97,114,101],
 [112,114,111,109,111,95,108,101,116,116,101,114],
 [114,101,97,100,95,99,111,111,114,100,115],
 [102,105,110,100,95,109,111,118,101],
 [112,97,114,115,101,95,109,111,118,101],
 [109,111,118,101,100,95,112,105,101,99,101],
 [114,111,111,107,95,115,116,101,112],
 [101,110,101,109,105,101,115],
 [112,97,115,115,101,100,95,115,113,117,97,114,101],
 [108,111,115,116],
 [107,101,112,116,95,114,105,103,104,116,115],
 [99,108,101,97,114,95,101,112,95,107,101,121],
 [115,101,116,95,101,112,95,107,101,121],
 [115,101,116,95,114,105,103,104,116,115,95,107,101,121],
 [104,97,108,102],
 [114,111,111,107],
 [119,104,101,114,101],
 [104,105,115,116,111,114,121],
 [116,97,107,101,110,95,115,113,117,97,114,101,95,109,97,107,101,109,111,118,101],
 [100,111,95,109,111,118,101],
 [117,110,100,111,95,109,111,118,101],
 [116,97,107,101,115],
 [76,79,78,71],
 [83,72,79,82,84],
 [99,97,115,116,108,101,95,116,101,120,116],
 [115,105,103,110],
 [99,104,101,99,107,95,115,105,103,110],
 [108,101,116,116,101,114],
 [108,101,116,116,101,114,115],
 [107,105,110,100,95,98,121,95,108,101,116,116,101,114],
 [99,117,116,95,115,105,103,110],
 [114,101,115,116],
 [99,117,116,95,111,114,105,103,105,110],
 [99,114,111,115,115],
 [98,111,100,121],
 [115,112,108,105,116,95,115,97,110],
 [97,115,107,101,100],
 [102,105,116,115],
 [109,101,97,110,116,95,98,121],
 [112,105,99,107,95,115,97,110],
 [112,97,114,115,101,95,115,97,110],
 [108,111,110,103,95,111,102],
 [112,105,99,107,95,108,111,110,103],
 [112,97,114,115,101,95,108,111,110,103],
 [112,108,97,99,101,115],
 [97,116],
 [114,101,97,100,95,105,99,99,102],
 [112,105,99,107,95,105,99,99,102],
 [112,97,114,115,101,95,105,99,99,102],
 [114,101,97,100,95,119,111,114,100],
 [95,108,97,119,95,108,101,116,116,101,114,115],
 [106,97,114],
 [109,97,110,121],
 [95,108,97,119,95,100,114,111,112],
 [116,117,114,110],
 [115,112,111,116],
 [97,112,97,114,116],
 [109,105,110,101],
 [80,111,115,105,116,105,111,110],
 [90,111,98,114,105,115,116],
 [114,111,119,115],
 [109,97,110],
 [95,108,97,119,95,115,101,116,95,117,112],
 [95,108,97,119,95,115,113,117,97,114,101],
 [109,97,114,107],
 [95,108,97,119,95,109,97,114,107],
 [100,105,103,105,116,115],
 [108,111,110,103],
 [98,111,100,105,101,115],
 [119,105,114,101],
 [110,97,109,101],
 [101,97,99,104],
 [101,110,100,115],
 [101,110,100],
 [95,108,97,119,95,115,112,101,108,116],
 [116,97,98,108,101],
 [115,112,101,108,116],
 [115,104,111,114,116],
 [95,108,97,119,95,109,101,97,110,116],
 [95,108,97,119,95,104,101,97,114,100],
 [115,99,114,105,112,116],
 [115,116,111,111,100],
 [116,101,120,116,115],
 [95,108,97,119,95,115,105,103,110,115],
 [102,111,114,109],
 [108,97,119],
 [115,101,108,102]]
noncomputable def EJ:List Nat:=[60,45,80,104,33,85,0,196,241,158,49,63,53,79,46,50,36,67,65,83,105,110,109,107,244,106]
noncomputable def BR:List (Nat×rc):=[
 (2,.fn [0,1] L0),
 (4,.fn [3] Sg),
 (5,.fn [3] Sd),
 (7,.fn [6] Pg),
 (10,.fn [3] ND),
 (18,.fn [11,12,13,14] NG),
 (20,.fn [19] NF),
 (21,.fn [19] Se),
 (22,.fn [19] I9),
 (24,.fn [19] L1),
 (26,.fn [25] H9),
 (29,.fn [25] Sb),
 (30,.fn [25] TJ),
 (32,.fn [25] L8),
 (37,.fn [33,34,25] NA),
 (38,.fn [33,34,25] R9),
 (39,.fn [33,34,25] ah),
 (41,.fn [33,34,25,40] R8),
 (43,.fn [35] LY),
 (52,.fn [33] Ny),
 (56,.fn [33,35] H7),
 (64,.fn [33] Pb),
 (66,.fn [33] Nz),
 (75,.fn [33] Kt),
 (84,.fn [33] Kr),
 (87,.fn [45,49,85,79] H8),
 (91,.fn [33,35,27,88] KG),
 (92,.fn [33,27,88] Jd),
 (93,.fn [33,27,88] G8),
 (94,.fn [33,27,88] Id),
 (98,.fn [33,1,27,88] He),
 (101,.fn [33,0,1,27,88] Ib),
 (111,.fn [102,3,103] NK),
 (112,.fn [102,103] Ma),
 (115,.fn [102,34,25] KI),
 (88,.fn [102] Pj),
 (106,.fn [102,0,1] TK),
 (118,.fn [102,0] KB),
 (119,.fn [102] FZ),
 (120,.fn [102] FY),
 (121,.fn [102,27,0] Hc),
 (122,.fn [102,27,0] Hg),
 (126,.fn [102,27,88] Ha),
 (128,.fn [102,27,88] IY),
 (130,.fn [102,27,0,88] Kx),
 (132,.fn [102,0] Kv),
 (133,.fn [102] Pc),
 (134,.fn [102,0] Kw),
 (135,.fn [102] Pe),
 (136,.fn [102,0] L7),
 (143,.fn [102,0] IZ),
 (144,.fn [102,0] Ic),
 (145,.fn [34,25] Hf),
 (161,.fn [102,76] G9),
 (163,.fn [102,31] IW),
 (166,.fn [11,164,31] HN),
 (169,.fn [102,1,167,31] DG),
 (173,.fn [102,170] Je),
 (174,.fn [33,0] NJ),
 (175,.fn [33,0] L9),
 (176,.fn [33,0] NB),
 (177,.fn [33,25,0] L6),
 (178,.fn [33,25,0,157] Ie),
 (184,.fn [102,0] Jc),
 (187,.fn [11,12,170,185,31] D4),
 (189,.fn [102,167,31] Dm),
 (190,.fn [102,170,167,31] Cx),
 (192,.fn [102,170,167,31] BX),
 (193,.fn [102,170,167,31] G7),
 (197,.fn [102,31] G6),
 (199,.fn [102,198] Gs),
 (200,.fn [102] EU),
 (201,.fn [102,167] D8),
 (203,.fn [102,31] IX),
 (204,.fn [102,19] Jf),
 (207,.fn [102,19] ET),
 (210,.fn [102,19,208] Pf),
 (211,.fn [102,170] I8),
 (213,.fn [102] Jb),
 (215,.fn [102,214] Gu),
 (216,.fn [102] KD),
 (218,.fn [102] D6),
 (219,.fn [45,27] Sa),
 (220,.fn [45,27] Sf),
 (223,.fn [45,27] KJ),
 (227,.fn [45,49,224] KH),
 (228,.fn [1] Ja),
 (229,.fn [45,49,224] FP),
 (230,.fn [45,49,214,224] HO),
 (231,.fn [102,224] L4),
 (232,.fn [102,19] KF),
 (233,.fn [33,0,61] NL),
 (235,.fn [102,0,11,61] Ia),
 (237,.fn [102,11,61] KA),
 (238,.fn [102] I7),
 (239,.fn [102,27] L5),
 (240,.fn [102,158] Hd),
 (246,.fn [102,19] D5),
 (247,.fn [102] EW),
 (248,.fn [110,19] WC),
 (251,.fn [19] Ku),
 (253,.fn [102,19] LX),
 (256,.fn [254,255] D7),
 (257,.fn [224] Pd),
 (259,.fn [258] Gq),
 (262,.fn [224,45,49] DI),
 (264,.fn [45,110,19,263] TI),
 (265,.fn [45,49,110,214,261] FX),
 (266,.fn [45,49,110,214,224] Pk),
 (267,.fn [102,224] NH),
 (268,.fn [45,110,19] Hb),
 (269,.fn [45,110,214,224] HP),
 (270,.fn [102,224] L3),
 (273,.fn [45,49,224] DH),
 (274,.fn [45,49,214,224] NI),
 (275,.fn [102,224] L2),
 (276,.fn [102,224] EV),
 (277,.fn [] KC),
 (280,.fn [278,279] Ph),
 (289,.fn [278] Av),
 (290,.fn [282] LZ),
 (292,.fn [102,19] Pi),
 (301,.fn [102,19] AY),
 (305,.fn [302,224] Ce),
 (306,.fn [102,224] NC),
 (312,.fn [307] Dn),
 (206,.fn [102,19] D9),
 (245,.fn [102,19] Ea),
 (86,.cls 0 [313,45,49,85,79] O9),
 (285,.cls 1 [313,33,105] Pa),
 (286,.cls 2 [313,106,196,158,0] R7)]
noncomputable def Rl:List (Nat×V):=[
 (116,.int 0),
 (117,.int 1),
 (23,.int 0),
 (100,.int 1),
 (17,.int 2),
 (97,.int 3),
 (96,.int 4),
 (95,.int 5),
 (99,.int 6),
 (9,.int 0),
 (165,.int 0),
 (16,.int 1),
 (195,.int 2),
 (162,.int 3),
 (8,.str [46,80,78,66,82,81,75,46,46,112,110,98,114,113,107]),
 (55,.tup [.int 0,.int 1,.int 0,.int (-1),.int 1,.int 1,.int (-1),.int (-1)]),
 (42,.tup [.int 1,.int 0,.int (-1),.int 0,.int 1,.int (-1),.int (-1),.int 1]),
 (146,.int 0),
 (160,.int 1),
 (159,.int 2),
 (156,.int 3),
 (154,.int 4),
 (152,.int 5),
 (150,.int 6),
 (172,.int 0),
 (171,.int 1),
 (212,.int 2),
 (202,.int 3),
 (221,.str [97,98,99,100,101,102,103,104]),
 (222,.str [49,50,51,52,53,54,55,56]),
 (250,.str [79,45,79]),
 (249,.str [79,45,79,45,79]),
 (310,.str [97,98,99,100,49,50,51,52,53,120,45,61,43,35,81,82,66,78,75,113,114,98,110,79,32])]
noncomputable def prog(f:Nat):Option rc:=BR.lookup f
noncomputable def lY(x:Nat):Option V:=Rl.lookup x
noncomputable def nm(x:Nat):Str:=sx (Bg.getD x [])
noncomputable def BO(n m:Nat)(f:n=m->Bool):Bool:=@Bool.rec (fun b=>Nat.beq n m=b->Bool) (fun _=>false) (fun h=>f (kq h)) (Nat.beq n m) rfl
theorem AA{f:n=m->Bool}(q:¬n=m):BO n m f=false:=by
 unfold BO
 have:∀(b:Bool) (h:Nat.beq n m=b),@Bool.rec (fun b=>Nat.beq n m=b->Bool) (fun _=>false) (fun h=>f (kq h)) b h=false:=fun b h=>by
  cases b with
  |false=>rfl
  |true=>exact absurd (kq h) q
 exact this _ rfl
noncomputable def FD(x:Expr)(f:Const->Bool):Bool:=BO x.ctorIdx 19 fun h=>Expr.Constant.elim x h fun c _ _=>f c
@[elab_as_elim] theorem Dy{f:Const->Bool}{P:Expr->Prop}(h:FD x f=true)(k:∀c q0 q1,f c=true->P (.Constant c q0 q1)):P x:=
 if q:x.ctorIdx=19 then Expr.Constant.elim (motive_1:=fun x=>FD x f=true->P x) x q k h else Bool.noConfusion ((AA q).symm.trans h)
noncomputable def MT(x:Expr)(f:BoolOp->List Expr->Bool):Bool:=BO x.ctorIdx 0 fun h=>Expr.BoolOp.elim x h fun o l _=>f o l
@[elab_as_elim] theorem Lr{f:BoolOp->List Expr->Bool}{P:Expr->Prop}(h:MT x f=true)(k:∀o l q0,f o l=true->P (.BoolOp o l q0)):P x:=
 if q:x.ctorIdx=0 then Expr.BoolOp.elim (motive_1:=fun x=>MT x f=true->P x) x q k h else Bool.noConfusion ((AA q).symm.trans h)
noncomputable def Vl(x:Expr)(f:Expr->Operator->Expr->Bool):Bool:=BO x.ctorIdx 2 fun h=>Expr.BinOp.elim x h fun l o r _=>f l o r
@[elab_as_elim] theorem Vm{f:Expr->Operator->Expr->Bool}{P:Expr->Prop}(h:Vl x f=true)(k:∀l o r q0,f l o r=true->P (.BinOp l o r q0)):P x:=
 if q:x.ctorIdx=2 then Expr.BinOp.elim (motive_1:=fun x=>Vl x f=true->P x) x q k h else Bool.noConfusion ((AA q).symm.trans h)
noncomputable def bV(x:Expr)(f:UnaryOp->Expr->Bool):Bool:=BO x.ctorIdx 3 fun h=>Expr.UnaryOp.elim x h fun o a _=>f o a
@[elab_as_elim] theorem Yq{f:UnaryOp->Expr->Bool}{P:Expr->Prop}(h:bV x f=true)(k:∀o a q0,f o a=true->P (.UnaryOp o a q0)):P x:=
 if q:x.ctorIdx=3 then Expr.UnaryOp.elim (motive_1:=fun x=>bV x f=true->P x) x q k h else Bool.noConfusion ((AA q).symm.trans h)
noncomputable def bU(x:Expr)(f:Expr->Expr->Expr->Bool):Bool:=BO x.ctorIdx 5 fun h=>Expr.IfExp.elim x h fun t a b _=>f t a b
@[elab_as_elim] theorem Yo{f:Expr->Expr->Expr->Bool}{P:Expr->Prop}(h:bU x f=true)(k:∀t a b q0,f t a b=true->P (.IfExp t a b q0)):P x:=
 if q:x.ctorIdx=5 then Expr.IfExp.elim (motive_1:=fun x=>bU x f=true->P x) x q k h else Bool.noConfusion ((AA q).symm.trans h)
noncomputable def P7(x:Expr)(f:List (Option Expr)->List Expr->Bool):Bool:=BO x.ctorIdx 6 fun h=>Expr.Dict.elim x h fun k v _=>f k v
@[elab_as_elim] theorem S1{f:List (Option Expr)->List Expr->Bool}{P:Expr->Prop}(h:P7 x f=true)(k:∀k v q0,f k v=true->P (.Dict k v q0)):P x:=
 if q:x.ctorIdx=6 then Expr.Dict.elim (motive_1:=fun x=>P7 x f=true->P x) x q k h else Bool.noConfusion ((AA q).symm.trans h)
noncomputable def J5(x:Expr)(f:Expr->List Comprehension->Scope->Bool):Bool:=BO x.ctorIdx 8 fun h=>Expr.ListComp.elim x h fun e g s _=>f e g s
@[elab_as_elim] theorem HA{f:Expr->List Comprehension->Scope->Bool}{P:Expr->Prop}(h:J5 x f=true)(k:∀e g s q0,f e g s=true->P (.ListComp e g s q0)):P x:=
 if q:x.ctorIdx=8 then Expr.ListComp.elim (motive_1:=fun x=>J5 x f=true->P x) x q k h else Bool.noConfusion ((AA q).symm.trans h)
noncomputable def RA(x:Expr)(f:Expr->List CmpOp->List Expr->Bool):Bool:=BO x.ctorIdx 15 fun h=>Expr.Compare.elim x h fun l o r _=>f l o r
@[elab_as_elim] theorem Ou{f:Expr->List CmpOp->List Expr->Bool}{P:Expr->Prop}(h:RA x f=true)(k:∀l o r q0,f l o r=true->P (.Compare l o r q0)):P x:=
 if q:x.ctorIdx=15 then Expr.Compare.elim (motive_1:=fun x=>RA x f=true->P x) x q k h else Bool.noConfusion ((AA q).symm.trans h)
noncomputable def Fe(x:Expr)(K:Expr->List Expr->List Keyword->Pos->Bool):Bool:=BO x.ctorIdx 16 fun h=>Expr.Call.elim x h fun f a k p=>K f a k p
@[elab_as_elim] theorem El{K:Expr->List Expr->List Keyword->Pos->Bool}{P:Expr->Prop}(h:Fe x K=true)(k:∀f a k p,K f a k p=true->P (.Call f a k p)):P x:=
 if q:x.ctorIdx=16 then Expr.Call.elim (motive_1:=fun x=>Fe x K=true->P x) x q k h else Bool.noConfusion ((AA q).symm.trans h)
noncomputable def Fd(x:Expr)(f:Expr->Str->Pos->Bool):Bool:=BO x.ctorIdx 20 fun h=>Expr.Attribute.elim x h fun v n p=>f v n p
@[elab_as_elim] theorem Dk{f:Expr->Str->Pos->Bool}{P:Expr->Prop}(h:Fd x f=true)(k:∀v n p,f v n p=true->P (.Attribute v n p)):P x:=
 if q:x.ctorIdx=20 then Expr.Attribute.elim (motive_1:=fun x=>Fd x f=true->P x) x q k h else Bool.noConfusion ((AA q).symm.trans h)
noncomputable def Lx(x:Expr)(f:Expr->Expr->Bool):Bool:=BO x.ctorIdx 21 fun h=>Expr.Subscript.elim x h fun v i _=>f v i
@[elab_as_elim] theorem GO{f:Expr->Expr->Bool}{P:Expr->Prop}(h:Lx x f=true)(k:∀v i q0,f v i=true->P (.Subscript v i q0)):P x:=
 if q:x.ctorIdx=21 then Expr.Subscript.elim (motive_1:=fun x=>Lx x f=true->P x) x q k h else Bool.noConfusion ((AA q).symm.trans h)
noncomputable def Bm(x:Expr)(f:Str->Bool):Bool:=BO x.ctorIdx 23 fun h=>Expr.Name.elim x h fun n _=>f n
@[elab_as_elim] theorem AV{f:Str->Bool}{P:Expr->Prop}(h:Bm x f=true)(k:∀n q0,f n=true->P (.Name n q0)):P x:=
 if q:x.ctorIdx=23 then Expr.Name.elim (motive_1:=fun x=>Bm x f=true->P x) x q k h else Bool.noConfusion ((AA q).symm.trans h)
noncomputable def P8(x:Expr)(f:List Expr->Bool):Bool:=BO x.ctorIdx 24 fun h=>Expr.List.elim x h fun l _=>f l
@[elab_as_elim] theorem S3{f:List Expr->Bool}{P:Expr->Prop}(h:P8 x f=true)(k:∀l q0,f l=true->P (.List l q0)):P x:=
 if q:x.ctorIdx=24 then Expr.List.elim (motive_1:=fun x=>P8 x f=true->P x) x q k h else Bool.noConfusion ((AA q).symm.trans h)
noncomputable def Ov(x:Expr)(f:List Expr->Nat->Pos->Bool):Bool:=BO x.ctorIdx 25 fun h=>Expr.Tuple.elim x h fun l k p=>f l k p
@[elab_as_elim] theorem Ka{f:List Expr->Nat->Pos->Bool}{P:Expr->Prop}(h:Ov x f=true)(k:∀l k p,f l k p=true->P (.Tuple l k p)):P x:=
 if q:x.ctorIdx=25 then Expr.Tuple.elim (motive_1:=fun x=>Ov x f=true->P x) x q k h else Bool.noConfusion ((AA q).symm.trans h)
noncomputable def MY(x:Expr)(f:Option Expr->Option Expr->Option Expr->Bool):Bool:=BO x.ctorIdx 26 fun h=>Expr.Slice.elim x h fun a b c _=>f a b c
@[elab_as_elim] theorem Qb{f:Option Expr->Option Expr->Option Expr->Bool}{P:Expr->Prop}(h:MY x f=true)(k:∀a b c q0,f a b c=true->P (.Slice a b c q0)):P x:=
 if q:x.ctorIdx=26 then Expr.Slice.elim (motive_1:=fun x=>MY x f=true->P x) x q k h else Bool.noConfusion ((AA q).symm.trans h)
noncomputable def P9(x:Stmt)(f:Bool):Bool:=BO x.ctorIdx 25 fun h=>PySem.Stmt.Pass.elim x h fun _=>f
@[elab_as_elim] theorem S4{P:Stmt->Prop}(h:P9 x f=true)(k:∀q0,f=true->P (.Pass q0)):P x:=
 if q:x.ctorIdx=25 then PySem.Stmt.Pass.elim (motive_2:=fun x=>P9 x f=true->P x) x q k h else Bool.noConfusion ((AA q).symm.trans h)
noncomputable def P6(x:Stmt)(f:Bool):Bool:=BO x.ctorIdx 27 fun h=>PySem.Stmt.Continue.elim x h fun _=>f
@[elab_as_elim] theorem SZ{P:Stmt->Prop}(h:P6 x f=true)(k:∀q0,f=true->P (.Continue q0)):P x:=
 if q:x.ctorIdx=27 then PySem.Stmt.Continue.elim (motive_2:=fun x=>P6 x f=true->P x) x q k h else Bool.noConfusion ((AA q).symm.trans h)
noncomputable def Dx(x:Stmt)(f:List Expr->Expr->Bool):Bool:=BO x.ctorIdx 5 fun h=>PySem.Stmt.Assign.elim x h fun t v _=>f t v
@[elab_as_elim] theorem CR{f:List Expr->Expr->Bool}{P:Stmt->Prop}(h:Dx x f=true)(k:∀t v q0,f t v=true->P (.Assign t v q0)):P x:=
 if q:x.ctorIdx=5 then PySem.Stmt.Assign.elim (motive_2:=fun x=>Dx x f=true->P x) x q k h else Bool.noConfusion ((AA q).symm.trans h)
noncomputable def Ot(x:Stmt)(f:Expr->Operator->Expr->Bool):Bool:=BO x.ctorIdx 7 fun h=>PySem.Stmt.AugAssign.elim x h fun t o v _=>f t o v
@[elab_as_elim] theorem J3{f:Expr->Operator->Expr->Bool}{P:Stmt->Prop}(h:Ot x f=true)(k:∀t o v q0,f t o v=true->P (.AugAssign t o v q0)):P x:=
 if q:x.ctorIdx=7 then PySem.Stmt.AugAssign.elim (motive_2:=fun x=>Ot x f=true->P x) x q k h else Bool.noConfusion ((AA q).symm.trans h)
noncomputable def MU(x:Stmt)(f:PySem.Expr->Bool):Bool:=BO x.ctorIdx 24 fun h=>PySem.Stmt.Expr.elim x h fun v _=>f v
@[elab_as_elim] theorem Ls{f:PySem.Expr->Bool}{P:Stmt->Prop}(h:MU x f=true)(k:∀v q0,f v=true->P (.Expr v q0)):P x:=
 if q:x.ctorIdx=24 then PySem.Stmt.Expr.elim (motive_2:=fun x=>MU x f=true->P x) x q k h else Bool.noConfusion ((AA q).symm.trans h)
noncomputable def RD(x:Stmt)(f:Option PySem.Expr->Bool):Bool:=BO x.ctorIdx 3 fun h=>PySem.Stmt.Return.elim x h fun v _=>f v
@[elab_as_elim] theorem J8{f:Option PySem.Expr->Bool}{P:Stmt->Prop}(h:RD x f=true)(k:∀v q0,f v=true->P (.Return v q0)):P x:=
 if q:x.ctorIdx=3 then PySem.Stmt.Return.elim (motive_2:=fun x=>RD x f=true->P x) x q k h else Bool.noConfusion ((AA q).symm.trans h)
noncomputable def Vr(x:Stmt)(f:PySem.Expr->List Stmt->List Stmt->Bool):Bool:=BO x.ctorIdx 12 fun h=>PySem.Stmt.If.elim x h fun t a b _=>f t a b
@[elab_as_elim] theorem Vs{f:PySem.Expr->List Stmt->List Stmt->Bool}{P:Stmt->Prop}(h:Vr x f=true)(k:∀t a b q0,f t a b=true->P (.If t a b q0)):P x:=
 if q:x.ctorIdx=12 then PySem.Stmt.If.elim (motive_2:=fun x=>Vr x f=true->P x) x q k h else Bool.noConfusion ((AA q).symm.trans h)
noncomputable def Vo(x:Stmt)(f:PySem.Expr->PySem.Expr->List Stmt->List Stmt->Bool):Bool:=BO x.ctorIdx 9 fun h=>PySem.Stmt.For.elim x h fun t i b o _=>f t i b o
@[elab_as_elim] theorem Vp{f:PySem.Expr->PySem.Expr->List Stmt->List Stmt->Bool}{P:Stmt->Prop}(h:Vo x f=true)(k:∀t i b o q0,f t i b o=true->P (.For t i b o q0)):P x:=
 if q:x.ctorIdx=9 then PySem.Stmt.For.elim (motive_2:=fun x=>Vo x f=true->P x) x q k h else Bool.noConfusion ((AA q).symm.trans h)
noncomputable def M1(x:Stmt)(f:PySem.Expr->List Stmt->List Stmt->Bool):Bool:=BO x.ctorIdx 11 fun h=>PySem.Stmt.While.elim x h fun t b o _=>f t b o
@[elab_as_elim] theorem Qc{f:PySem.Expr->List Stmt->List Stmt->Bool}{P:Stmt->Prop}(h:M1 x f=true)(k:∀t b o q0,f t b o=true->P (.While t b o q0)):P x:=
 if q:x.ctorIdx=11 then PySem.Stmt.While.elim (motive_2:=fun x=>M1 x f=true->P x) x q k h else Bool.noConfusion ((AA q).symm.trans h)
noncomputable def onRaise(x:Stmt)(f:Option PySem.Expr->Option PySem.Expr->Bool):Bool:=BO x.ctorIdx 16 fun h=>PySem.Stmt.Raise.elim x h fun e c _=>f e c
@[elab_as_elim] theorem Qa{f:Option PySem.Expr->Option PySem.Expr->Bool}{P:Stmt->Prop}(h:onRaise x f=true)(k:∀e c q0,f e c=true->P (.Raise e c q0)):P x:=
 if q:x.ctorIdx=16 then PySem.Stmt.Raise.elim (motive_2:=fun x=>onRaise x f=true->P x) x q k h else Bool.noConfusion ((AA q).symm.trans h)
noncomputable def Vw(x:Stmt)(K:List Stmt->List ExceptHandler->List Stmt->List Stmt->Bool):Bool:=BO x.ctorIdx 17 fun h=>PySem.Stmt.Try.elim x h fun b h o f _=>K b h o f
@[elab_as_elim] theorem Vx{K:List Stmt->List ExceptHandler->List Stmt->List Stmt->Bool}{P:Stmt->Prop}(h:Vw x K=true)(k:∀b h o f q0,K b h o f=true->P (.Try b h o f q0)):P x:=
 if q:x.ctorIdx=17 then PySem.Stmt.Try.elim (motive_2:=fun x=>Vw x K=true->P x) x q k h else Bool.noConfusion ((AA q).symm.trans h)
section
variable{α:Type}
noncomputable def pA(l:List α)(f:α->Bool):Bool:=match l with
 |[]=>false
 |x :: r=>(match r with|[]=>f x|_ :: _=>false)
@[elab_as_elim] theorem B5{f:α->Bool}{P:List α->Prop}(h:pA l f=true)(k:∀x,f x=true->P [x]):P l:=by
 induction l using List.casesOn with
 |nil=>exact Bool.noConfusion h
 |cons x r=>induction r using List.casesOn with
  |nil=>exact k x h
  |cons _ _=>exact Bool.noConfusion h
noncomputable def BL(l:List α)(f:α->List α->Bool):Bool:=match l with
 |[]=>false
 |x :: r=>f x r
@[elab_as_elim] theorem A1{f:α->List α->Bool}{P:List α->Prop}(h:BL l f=true)(k:∀x r,f x r=true->P (x :: r)):P l:=by
 cases l with
 |nil=>exact Bool.noConfusion h
 |cons x r=>exact k x r h
noncomputable def su(l:List α)(f:α->α->Bool):Bool:=BL l fun x r=>pA r fun y=>f x y
@[elab_as_elim] theorem Hz{f:α->α->Bool}{P:List α->Prop}(h:su l f=true)(k:∀x y,f x y=true->P [x,y]):P l:=
 A1 h fun x _ h=>B5 (P:=fun r=>P (x :: r)) h fun y h=>k x y h
noncomputable def GL(l:List α)(f:α->α->Bool)(g:α->List α->Bool):Bool:=BL l fun x r=>BL r fun y s=>(match s with|[]=>f x y|_ :: _=>g x r)
@[elab_as_elim] theorem J4{f:α->α->Bool}{g:α->List α->Bool}{P:List α->Prop}(h:GL l f g=true)(k:∀x y,f x y=true->P [x,y])(k':∀x y r,g x (y :: r)=true->P (x :: y :: r)):P l:=
 by
  induction l using List.casesOn with
  |nil=>exact Bool.noConfusion h
  |cons x r=>induction r using List.casesOn with
   |nil=>exact Bool.noConfusion h
   |cons y s=>induction s using List.casesOn with
    |nil=>exact k x y h
    |cons z s=>exact k' x y (z :: s) h
noncomputable def BM(l:List α)(b:Bool):Bool:=match l with
 |[]=>b
 |_ :: _=>false
@[elab_as_elim] theorem AP{P:List α->Prop}(h:BM l b=true)(k:b=true->P []):P l:=by
 cases l with
 |nil=>exact k h
 |cons _ _=>exact Bool.noConfusion h
noncomputable def CI(o:Option α)(f:α->Bool):Bool:=match o with
 |some x=>f x
 |none=>false
@[elab_as_elim] theorem BQ{f:α->Bool}{P:Option α->Prop}(h:CI o f=true)(k:∀x,f x=true->P (some x)):P o:=by
 cases o with
 |none=>exact Bool.noConfusion h
 |some x=>exact k x h
noncomputable def MX(o:Option α)(b:Bool):Bool:=match o with
 |some _=>false
 |none=>b
@[elab_as_elim] theorem HB{P:Option α->Prop}(h:MX o b=true)(k:b=true->P none):P o:=by
 cases o with
 |none=>exact k h
 |some x=>exact Bool.noConfusion h
end
theorem Al(h:(a&&b)=true):a=true:=by
 cases a with
 |true=>rfl
 |false=>exact h
theorem Aa(h:(a&&b)=true):b=true:=by
 cases a with
 |true=>exact h
 |false=>exact Bool.noConfusion h
theorem BW(h:(a&&b)=true):a=true/\b=true:=⟨Al h,Aa h⟩
@[elab_as_elim] theorem EX{α:Type}[BEq α][LawfulBEq α]{a b:α}{P:α->Prop}(h:(a==b)=true)(k:P a):P b:=gN h▸k
@[elab_as_elim] theorem ZK{α:Type}{a b:α}{P:α->Prop}(h:a=b)(k:P a):P b:=h▸k
noncomputable def ZZ(c:Const)(f:Int->Bool):Bool:=match c with
 |.int i=>f i
 |_=>false
@[elab_as_elim] theorem Vq{f:Int->Bool}{P:Const->Prop}(h:ZZ c f=true)(k:∀i,f i=true->P (.int i)):P c:=by
 induction c<;>first|exact k _ h|exact Bool.noConfusion h
noncomputable def Z0(c:Const)(f:Str->Bool):Bool:=match c with
 |.str i=>f i
 |_=>false
@[elab_as_elim] theorem Vv{f:Str->Bool}{P:Const->Prop}(h:Z0 c f=true)(k:∀i,f i=true->P (.str i)):P c:=by
 induction c<;>first|exact k _ h|exact Bool.noConfusion h
noncomputable def ZY(c:Const)(f:Bool->Bool):Bool:=match c with
 |.bool i=>f i
 |_=>false
@[elab_as_elim] theorem Vn{f:Bool->Bool}{P:Const->Prop}(h:ZY c f=true)(k:∀i,f i=true->P (.bool i)):P c:=by
 induction c<;>first|exact k _ h|exact Bool.noConfusion h
noncomputable def ZO(c:Const):Bool:=match c with
 |.none=>true
 |_=>false
theorem Lm(h:ZO c=true):c=.none:=by
 induction c<;>first|rfl|exact Bool.noConfusion h
noncomputable def ZN(o:BoolOp):Bool:=match o with|.And=>true|.Or=>false
noncomputable def RB(g:Comprehension)(f:Expr->Expr->List Expr->Bool):Bool:=decide (g.is_async=0)&&f g.target g.iter g.ifs
@[elab_as_elim] theorem Em{f:Expr->Expr->List Expr->Bool}{P:Comprehension->Prop}(h:RB g f=true)(k:∀t i c,f t i c=true->P ⟨t,i,c,0⟩):P g:=by
 obtain⟨t,i,c,n⟩:=g
 have h1:n=0:=gH (Al h)
 subst h1
 exact k t i c (Aa h)
noncomputable def onH(h:ExceptHandler)(f:Option Expr->Option Str->List Stmt->Bool):Bool:=match h with
 |.ExceptHandler t n b _=>f t n b
@[elab_as_elim] theorem bS{f:Option Expr->Option Str->List Stmt->Bool}{P:ExceptHandler->Prop}(q:onH h f=true)(k:∀t n b p,f t n b=true->P (.ExceptHandler t n b p)):P h:=by
 cases h;exact k _ _ _ _ q
noncomputable def Yp{α:Type}(o:Option α)(n:Bool)(f:α->Bool):Bool:=match o with
 |some x=>f x
 |none=>n
section
variable[deq:DecidableEq Str]
noncomputable def Ez(x:Nat)(n:Str):Bool:=decide (x<Bg.length)&&(n==nm x)
noncomputable abbrev Sc:=List (Str×NameKind)
noncomputable def UK(sc:Sc)(n:Str):Bool:=match sc.lookup n with
 |some .local|some .cell|some .free=>true
 |_=>false
noncomputable def Hq(sc:Sc)(n:Str):Bool:=sc.lookup n==some .globalImplicit
noncomputable def HQ:Nat->String
 |0=>"len" | 1=>"abs" | 2=>"max" | 3=>"str" | _=>"range"
noncomputable def P0:Nat->String
 |0=>"append" | 1=>"pop" | 2=>"find" | 3=>"lower" | _=>"join"
noncomputable def EL:Nat->String
 |1=>"BadMove" | 2=>"BadSan" | 3=>"AmbiguousSan" | _=>"?"
noncomputable def Hr(sc:Sc)(n:Str):Bool:=sc.lookup n==some .local||sc.lookup n==some .cell
noncomputable def Dp:List Nat->List Expr->Bool
 |[],es=>BM es true
 |x :: xs,es=>BL es fun e r=>Bm e fun n=>Ez x n&&Dp xs r
noncomputable def E5(sc:Sc)(xs:List Nat)(one:Bool)(t:Expr):Bool:=match one with
 |true=>Bm t fun n=>pA xs fun x=>Ez x n&&Hr sc n
 |false=>Ov t fun es _ _=>Dp xs es&&es.all fun e=>Bm e (Hr sc)
noncomputable def FB(x:Expr):Bool:=!(Nat.beq x.ctorIdx 26)
noncomputable def EA(x:Expr):Bool:=Nat.beq x.ctorIdx 22
noncomputable def fZ(x:Expr):Bool:=Nat.beq x.ctorIdx 23
noncomputable def dD(scope:Scope):Sc:=scope.names
noncomputable def Iy(x:ME):Bool:=Nat.beq x.ctorIdx ME.none.ctorIdx
noncomputable def Jg(x:Expr):Bool:=!(Fe x fun f as kw _=>BM as (BM kw (Bm f fun _=>true)))
noncomputable def Dw(x:Expr):Bool:=!(Nat.beq x.ctorIdx 7)
noncomputable def Oj(f:Nat):Bool:=(BR.lookup f).isSome
noncomputable def Dh(scope:Scope)(sc:Sc):Bool:=scope.kind==.function&&scope.names.all fun(n,k)=>scope.names.lookup n==some k&&(match k with
 |.local|.cell|.globalImplicit=>true
 |.free=>sc.lookup n==some .cell||sc.lookup n==some .free
 |_=>false)
noncomputable def HX(scope:Scope)(xs:List Nat):Bool:=scope.names.all fun(n,k)=>!(k==.local||k==.cell)||xs.any (fun x=>decide (x<Bg.length)&&n==nm x)||!(Bg.any fun l=>sx l==n)
noncomputable def Rp:ME->Bool
 |.bool b=>b
 |_=>false
mutual
noncomputable def AD(j:Nat)(sc:Sc):ME->Expr->Bool
 |.int i,x=>FD x fun c=>ZZ c fun j=>i==j
 |.str s,x=>FD x fun c=>Z0 c fun t=>t==sx s&&(decide (s.length<=lim)&&s.all (·< 128))
 |.bool b,x=>FD x fun c=>ZY c fun d=>b==d
 |.none,x=>FD x fun c=>ZO c
 |.lX x,y=>Bm y fun n=>Ez x n&&(UK sc n&&!(n==("__debug__":Str)))
 |.lY x,y=>Bm y fun n=>Ez x n&&(Hq sc n&&!(n==("__debug__":Str)))
 |.bin op a b,x=>Vl x fun l o r=>op==o&&(AD j sc a l&&AD j sc b r)
 |.un op a,x=>bV x fun o l=>op==o&&AD j sc a l
 |.and a b,x=>MT x fun o vs=>ZN o&&GL vs (fun x y=>AD j sc a x&&AD j sc b y) fun x r=>AD j sc a x&&Jy j sc b r
 |.or a b,x=>MT x fun o vs=>!ZN o&&GL vs (fun x y=>AD j sc a x&&AD j sc b y) fun x r=>AD j sc a x&&NZ j sc b r
 |.cmp a op b,x=>RA x fun l ops rs=>pA ops fun o=>pA rs fun r=>op==o&&(!behindInMarks o r&&(AD j sc a l&&AD j sc b r))
 |.oA a sw b sy c,x=>RA x fun l ops rs=>su ops fun o1 o2=>su rs fun r1 r2=>sw==o1&&(sy==o2&&(!lastMarks [o1,o2] [r1,r2]&&(AD j sc a l&&(AD j sc b r1&&AD j sc c r2))))
 |.ite t a b,x=>bU x fun t' a' b'=>AD j sc t t'&&(AD j sc a a'&&AD j sc b b')
 |.call f as,x=>Fe x fun g args kw _=>BM kw (Bm g fun n=>Oj f&&(Ez f n&&(Hq sc n&&(!(n==("__debug__":Str))&&NY j sc as args))))
 |.blt f as,x=>Fe x fun g args kw _=>BM kw (Bm g fun n=>decide (f<5)&&(!(n==("__debug__":Str))&&(n==Str.ofString (HQ f)&&(Hq sc n&&NY j sc as args))))
 |.mz o f as,x=>Fe x fun g args kw pos=>BM kw (Fd g fun o' n apos=>decide (f<5)&&(Jg o'&&((apos.endLine==pos.line)&&(decide (args.length<20)&&(n==Str.ofString (P0 f)&&(AD j sc o o'&&NY j sc as args))))))
 |.attr o a,x=>Fd x fun o' n _=>Jg o'&&(Ez a n&&(EJ.contains a&&AD j sc o o'))
 |.sub o i,x=>Lx x fun o' i'=>FB i'&&(AD j sc o o'&&AD j sc i i')
 |.slice o lo hi,x=>Lx x fun o' i'=>MY i' fun tf qx st=>MX st (AD j sc o o'&&(Yp tf (Iy lo) (fun e=>AD j sc lo e)&&Yp qx (Iy hi) (fun e=>AD j sc hi e)))
 |.list es,x=>P8 x fun l=>NY j sc es l
 |.tup es,x=>Ov x fun l _ _=>NY j sc es l
 |.dict es,x=>P7 x fun ks vs=>!ks.isEmpty&&(decide (ks.length<=15)&&W5 j sc es ks vs)
 |.comp elt xs one it cond,x=>J5 x fun my gens scope=>pA gens fun g=>RB g fun t ox ifs=>(match j with
   |0=>false
   |j'+1=>Dw ox&&(Dh scope sc&&(HX scope xs&&(AD j' sc it ox&&(E5 scope.names xs one t&&(AD j' scope.names elt my&&(match ifs with
    |[]=>Rp cond
    |c :: r=>BM r (AD j' scope.names cond c))))))))
 |.nU elt x1 pv x2 nV,x=>J5 x fun my gens scope=>su gens fun g1 g2=>RB g1 fun t1 s9 rF=>RB g2 fun t2 ta rG=>BM rF (BM rG (match j with
   |0=>false
   |j'+1=>Dw s9&&(Dw ta&&(Dh scope sc&&(HX scope [x1,x2]&&(x1 != x2&&(AD j' sc pv s9&&(E5 scope.names [x1] true t1&&(AD j' scope.names nV ta&&(E5 scope.names [x2] true t2&&AD j' scope.names elt my))))))))))
 |.nil,_=>false
 |.cons _ _,_=>false
noncomputable def Jy(j:Nat)(sc:Sc):ME->List Expr->Bool
 |.and a b,vs=>GL vs (fun x y=>AD j sc a x&&AD j sc b y) fun x r=>AD j sc a x&&Jy j sc b r
 |_,_=>false
noncomputable def NZ(j:Nat)(sc:Sc):ME->List Expr->Bool
 |.or a b,vs=>GL vs (fun x y=>AD j sc a x&&AD j sc b y) fun x r=>AD j sc a x&&NZ j sc b r
 |_,_=>false
noncomputable def NY(j:Nat)(sc:Sc):ME->List Expr->Bool
 |.nil,xs=>BM xs true
 |.cons e r,xs=>BL xs fun x xs=>!EA x&&(AD j sc e x&&NY j sc r xs)
 |_,_=>false
noncomputable def W5(j:Nat)(sc:Sc):ME->List (Option Expr)->List Expr->Bool
 |.nil,ks,vs=>BM ks (BM vs true)
 |.cons e r,ks,vs=>BL ks fun k ks=>BL vs fun v vs=>CI k fun k=>fV j sc e k v&&W5 j sc r ks vs
 |_,_,_=>false
noncomputable def fV(j:Nat)(sc:Sc):ME->Expr->Expr->Bool
 |.cons a b,k,v=>AD j sc a k&&AD j sc b v
 |_,_,_=>false
end
noncomputable def Wr(sc:Sc)(es:List Expr)(v:Expr):Bool:=!(Nat.beq v.ctorIdx 25)||es.any fun e=>Bm e fun n=>sc.lookup n==some .cell
noncomputable def FC(x:Expr):Bool:=!(Nat.ble 8 x.ctorIdx&&Nat.ble x.ctorIdx 10)
mutual
noncomputable def T7(sc:Sc):MS->Stmt->Bool
 |.skip,x=>P9 x true
 |.cont,x=>P6 x true
 |.assign x e,s=>Dx s fun ts v=>pA ts fun t=>Bm t fun n=>Ez x n&&(Hr sc n&&((J5 v (fun _ _ _=>true)||FC v)&&AD 2 sc e v))
 |.mq xs e,s=>Dx s fun ts v=>pA ts fun t=>Ov t fun es k p=>E5 sc xs false (.Tuple es k p)&&(Wr sc es v&&(FC v&&AD 2 sc e v))
 |.setAttr o a e,s=>Dx s fun ts v=>pA ts fun t=>Fd t fun o' n _=>Ez a n&&(EJ.contains a&&(AD 2 sc o o'&&AD 2 sc e v))
 |.nh o i e,s=>Dx s fun ts v=>pA ts fun t=>Lx t fun o' i'=>FB i'&&(AD 2 sc o o'&&(AD 2 sc i i'&&AD 2 sc e v))
 |.aug x op e,s=>Ot s fun t o v=>Bm t fun n=>Ez x n&&(op==o&&(sc.lookup n==some .local&&AD 2 sc e v))
 |.mA o a op e,s=>Ot s fun t ti v=>Fd t fun o' n _=>Ez a n&&(EJ.contains a&&(op==ti&&(AD 2 sc o o'&&AD 2 sc e v)))
 |.mM o i op e,s=>Ot s fun t ti v=>Lx t fun o' i'=>FB i'&&(op==ti&&(AD 2 sc o o'&&(AD 2 sc i i'&&AD 2 sc e v)))
 |.expr e,s=>MU s fun v=>FC v&&AD 2 sc e v
 |.ret e,s=>RD s fun v=>Yp v (Iy e) fun v=>AD 2 sc e v
 |.ite t a b,s=>Vr s fun t' a' b'=>AD 2 sc t t'&&(Ih sc a a'&&Ih sc b b')
 |.mt xs one it body,s=>Vo s fun t ox qd o=>BM o (Dw ox&&(E5 sc xs one t&&(AD 2 sc it ox&&Ih sc body qd)))
 |.m8 t body,s=>M1 s fun t' qd o=>BM o (AD 2 sc t t'&&Ih sc body qd)
 |.raise c e,s=>onRaise s fun x y=>MX y (CI x fun x=>Fe x fun f as kw _=>BM kw (pA as fun v=>Bm f fun n=>decide (c<1)||(decide (3<c)||(n==Str.ofString (EL c)&&(Hq sc n&&AD 2 sc e v)))))
 |.nj e c h,s=>Vw s fun b hs o f=>BM o (BM f (pA b fun b=>RD b fun v=>CI v fun v=>pA hs fun hd=>onH hd fun t n hb=>MX n (CI t fun t=>Bm t fun n=>AD 2 sc e v&&(n==Str.ofString (EL c)&&(Hq sc n&&(Ih sc h hb&&(!hb.isEmpty&&(decide (1<=c)&&decide (c<=3)))))))))
 |.seq _ _,_=>false
noncomputable def Ih(sc:Sc):MS->List Stmt->Bool
 |.skip,l=>BM l true
 |.seq a b,l=>BL l fun s r=>T7 sc a s&&Ih sc b r
 |_,_=>false
end
end
set_option genInjectivity false in
structure Lg where
 led:Addr->Option Obj
 mw:List (Addr×Addr)
def pC(o:Obj):Prop:=o.cls≠.type "list"/\(∀es k,o.data≠.dict es k)/\∀v,o.data≠.cell v
def Kn(base:Heap)(lg:Lg)(a:Addr)(o:Obj):Prop:=pC o/\(lg.led a=some o\/base.get? a=some o)
def Da(o:Obj):Prop:=∃v,o.data=.cell v
def rW(o:Obj):Prop:=(o.cls=.type "list"/\∃vs k,o.data=.seq vs k)\/∃es k,o.data=.dict es k
theorem rW.oi(s:rW o):¬Da o:=by
 rintro⟨v,c⟩
 rcases s with⟨_,vs,k,z⟩|⟨es,k,z⟩<;>replace z:=c▸z<;>cases z
structure Ext(lg lZ:Lg):Prop where
 oq:∀a o,pC o->lg.led a=some o->lZ.led a=some o
 cell:∀a o,Da o->lg.led a=some o->∃o',Da o'/\lZ.led a=some o'
 mw:∀(n:Nat) (p:Addr×Addr),lg.mw[n]?=some p->lZ.mw[n]?=some p
theorem Ext.refl(lg:Lg):Ext lg lg:=⟨fun _ _ _ h=>h,fun _ o c h=>⟨o,c,h⟩,fun _ _ h=>h⟩
theorem Ext.trans(x:Ext a b)(y:Ext b c):Ext a c:=⟨fun d o i h=>y.oq d o i (x.oq d o i h),fun d o k h=>by obtain⟨o',k',h'⟩:=x.cell d o k h;exact y.cell d o' k' h',fun n p h=>y.mw n p (x.mw n p h)⟩
theorem Ext.kn(x:Ext lg lZ)(h:Kn base lg a o):Kn base lZ a o:=
 ⟨h.1,h.2.imp (x.oq a o h.1) id⟩
noncomputable def T8:Nat->List Nat
 |0=>[71,101,111,109,101,116,114,121]
 |1=>[80,111,115,105,116,105,111,110]
 |_=>[90,111,98,114,105,115,116]
def Cf(K:Frag)(c:Nat)(C:Addr):Prop:=nsIn K mainGlobals (sx (T8 c))=some (some (.ref C))
noncomputable def Fi(lo hi st:Int)(t1 t2 t3:Tok):Obj:={cls:=.type "range",data:=.fields #[.int lo t1,.int hi t2,.int st t3]}
def tE(lo hi st:Int):Prop:=st≠0/\lo.natAbs<2 ^ 60/\hi.natAbs<2 ^ 60/\st.natAbs<2 ^ 60
inductive Aw(base:Heap)(lg:Lg):V->Value->Prop
 |none:Aw base lg .none .none
 |bool (b:Bool):Aw base lg (.bool b) (.bool b)
 |int (i:Int) (t:Tok):Aw base lg (.int i) (.int i t)
 |str (s:List Nat) (t:Tok):pZ s->Aw base lg (.str s) (.str (sx s) t)
 |tup (l:List V) (a:Addr) (o:Obj) (vs:Array Value) (n:Nat):Kn base lg a o->o.cls=.type "tuple"->o.data=.seq vs n->l.length=vs.size->l.length<=lim->
   (∀(i:Nat) (v:V) (w:Value),l[i]?=some v->vs[i]?=some w->Aw base lg v w)->Aw base lg (.tup l) (.ref a)
 |mN (l:List V) (a:Addr) (o:Obj) (vs:Array Value) (n:Nat):base.get? a=some o->o.cls=.type "list"->o.data=.seq vs n->l.length=vs.size->l.length<=lim->
   (∀(i:Nat) (v:V) (w:Value),l[i]?=some v->vs[i]?=some w->Aw base lg v w)->Aw base lg (.mN l) (.ref a)
 |range (lo hi st:Int) (a:Addr) (t1 t2 t3:Tok):Kn base lg a (Fi lo hi st t1 t2 t3)->tE lo hi st->Aw base lg (.range lo hi st) (.ref a)
 |lX (n:Nat) (a d:Addr):lg.mw[n]?=some (a,d)->Aw base lg (.lX n) (.ref a)
theorem Aw.mono(x:Ext lg lZ)(h:Aw base lg v w):Aw base lZ v w:=by
 induction h with
 |none=>exact .none
 |bool b=>exact .bool b
 |int i t=>exact .int i t
 |str s t hl=>exact .str s t hl
 |tup l a o vs n hk hc hd hl hm _ ih=>exact .tup l a o vs n (x.kn hk) hc hd hl hm ih
 |mN l a o vs n hk hc hd hl hm _ ih=>exact .mN l a o vs n hk hc hd hl hm ih
 |range lo hi st a t1 t2 t3 hk hr=>exact .range lo hi st a t1 t2 t3 (x.kn hk) hr
 |lX n a d h=>exact .lX n a d (x.mw n _ h)
def Ar(base:Heap)(lg:Lg)(l:List V)(vs:List Value):Prop:=l.length=vs.length/\∀(i:Nat) (v:V) (w:Value),l[i]?=some v->vs[i]?=some w->Aw base lg v w
theorem Ar.mono(x:Ext lg lZ)(h:Ar base lg l vs):Ar base lZ l vs:=⟨h.1,fun i v w a b=>(h.2 i v w a b).mono x⟩
theorem Ar.nil:Ar base lg [] []:=⟨rfl,fun i v w a=>by simp at a⟩
theorem Ar.cons(h:Aw base lg v w)(r:Ar base lg l vs):Ar base lg (v :: l) (w :: vs):=by
 refine⟨by simp[r.1],fun i u z a b=>?_⟩
 induction i using Nat.casesOn with
 |zero=>simp at a b;subst a b;exact h
 |succ i=>simp at a b;exact r.2 i u z a b
theorem Ar.mO{base:Heap}{lg:Lg}{v:V}{l:List V}{ws:List Value}(h:Ar base lg (v :: l) ws):∃w vs,ws=w :: vs/\Aw base lg v w/\Ar base lg l vs:=by
 induction ws using List.casesOn with
 |nil=>exact absurd h.1 (nofun)
 |cons w vs=>exact⟨w,vs,rfl,h.2 0 v w rfl rfl,by have:=h.1;simpa using this,fun i u z a b=>h.2 (i+1) u z (by exact a) (by exact b)⟩
theorem Ar.append{base:Heap}{lg:Lg}{l m:List V}{vs ws:List Value}(h:Ar base lg l vs)(k:Ar base lg m ws):Ar base lg (l++m) (vs++ws):=by
 induction l generalizing vs with
 |nil=>induction vs using List.casesOn with
  |nil=>exact k
  |cons _ _=>exact absurd h.1 (nofun)
 |cons v l ih=>
  obtain⟨w,vs,rfl,hv,hl⟩:=h.mO
  exact Ar.cons hv (ih hl)
theorem Ar.at{base:Heap}{lg:Lg}{l:List V}{vs:List Value}(h:Ar base lg l vs){i:Nat}{v:V}(e:l[i]?=some v):∃w,vs[i]?=some w/\Aw base lg v w:=by
 have hi:i<l.length:=(List.getElem?_eq_some_iff.mp e).1
 have qx:i<vs.length:=h.1▸hi
 exact⟨vs[i],gW qx,h.2 i v _ e (gW qx)⟩
theorem Ar.set{l:List V}{vs:List Value}(h:Ar base lg l vs)(i:Nat)(r:Aw base lg v w):Ar base lg (l.set i v) (vs.set i w):=by
 refine⟨by simp[h.1],fun j u z a b=>?_⟩
 rw[j0]at a b
 by_cases q:i=j
 ·subst q
  (replace a:=(iJ rfl)▸a;replace b:=(iJ rfl)▸b)
  split at a
  ·obtain rfl:=Option.some.inj a
   split at b
   ·obtain rfl:=Option.some.inj b;exact r
   ·exact Ao b
  ·exact Ao a
 ·rw[iI q]at a b
  exact h.2 j u z a b
inductive D3(base:Heap)(lg:Lg):List (Nat×V)->List DictEntry->Prop
 |nil:D3 base lg [] []
 |cons (a:Nat) (v:V) (fs:List (Nat×V)) (hs:Int) (t:Tok) (w:Value) (es:List DictEntry):a<Bg.length->Aw base lg v w->D3 base lg fs es->
   D3 base lg ((a,v) :: fs) (⟨hs,.str (nm a) t,w⟩ :: es)
theorem D3.mono(x:Ext lg lZ)(h:D3 base lg fs es):D3 base lZ fs es:=by
 induction h with
 |nil=>exact .nil
 |cons a v fs hs t w es ha hv _ ih=>exact .cons a v fs hs t w es ha (hv.mono x) ih
def No(base:Heap)(lg:Lg)(kv:List (Int×V))(f:Int->Option Value):Prop:=
 ∀k,(Bn kv k=none/\f k=none)\/∃v w,Bn kv k=some v/\f k=some w/\Aw base lg v w
theorem No.mono(x:Ext lg lZ){f:Int->Option Value}(h:No base lg kv f):No base lZ kv f:=
 fun k=>(h k).imp id fun nS=>by obtain⟨v,w,a,b,c⟩:=nS;exact⟨v,w,a,b,c.mono x⟩
def Gm(base:Heap)(K:Frag)(lg:Lg)(a d:Addr):MO->Prop
 |.list xs=>a=d/\xs.length<=lim/\∃vs k,lg.led d=some (listOf vs k)/\Ar base lg xs vs.toList
 |.inst c fs=>c<3/\∃C,Cf K c C/\lg.led a=some (instObj C d)/\fs.length<=900/\∃es k,lg.led d=some (dictOf es k)/\D3 base lg fs es
 |.dict kv=>a=d/\∃o,lg.led d=some o/\o.cls=.type "dict"/\∃es k,o.data=.dict es k/\IntKeys es/\es.size<=kv.length/\No base lg kv (findBy Value.isInt es)
structure ac(base:Heap)(K:Frag)(lg:Lg)(μ:MH):Prop where
 len:lg.mw.length=μ.length
 nodup:(lg.mw.map (·.2)).Nodup
 each:∀(n:Nat) (o:MO),μ[n]?=some o->∃a d,lg.mw[n]?=some (a,d)/\Gm base K lg a d o
set_option genInjectivity false in
structure oa where
 env:Env
 m:Str->Option Value
 cells:Addr->Option Obj
def H6(o:Obj)(m:Str->Option Value):Prop:=∃es ep,o.data=.dict es ep/\StrKeys es/\∀name,nsFind es name=m name
theorem H6.ns{h:Heap}{m:Str->Option Value}(x:H6 o m)(e:h.get? a=some o):h.Ns a m:=
 let⟨es,ep,r⟩:=x;⟨o,es,ep,e,r⟩
theorem H6.of{h:Heap}{m:Str->Option Value}(x:h.Ns a m):∃o,h.get? a=some o/\H6 o m:=
 let⟨o,es,ep,e,r⟩:=x;⟨o,e,es,ep,r⟩
def FO(base:Heap)(e:Env)(m:Str->Option Value)(lg:Lg)(x:Nat)(v:V):Prop:=
 x<Bg.length/\((e.kindOf (nm x)=some .local/\∃w,m (nm x)=some w/\Aw base lg v w)\/
  (e.kindOf (nm x)=some .cell/\∃ca o w,e.cells.lookup (nm x)=some ca/\lg.led ca=some o/\o.data=.cell (some w)/\Aw base lg v w))
def R6(e:Env)(x:Nat):Prop:=x<Bg.length/\(e.kindOf (nm x)=some .local\/e.kindOf (nm x)=some .cell)
structure Inv(base:Heap)(K:Frag)(e:Env)(m:Str->Option Value)(fr:List oa)(env:An)(lg:Lg)(μ:MH)(h:Heap):Prop where
 old:base.StaysIn h
 ns:h.Ns e.locals m
 nG:base.get? e.locals=none
 mH:lg.led e.locals=none
 led:∀a o,lg.led a=some o->h.get? a=some o/\base.get? a=none
 frames:∀f∈fr,(∃o,lg.led f.env.locals=some o/\H6 o f.m)/\∀a o,f.cells a=some o->lg.led a=some o/\Da o
 dist:(e.locals :: fr.map (·.env.locals)).Nodup
 apart:∀f∈fr,∀p∈lg.mw,f.env.locals≠p.2
 vars:∀x v,env x=some v->R6 e x->FO base e m lg x v
 heap:ac base K lg μ
theorem FO.mono{e:Env}{m:Str->Option Value}{lg lZ:Lg}(q:Ext lg lZ)(hc:∀a o,Da o->lg.led a=some o->lZ.led a=some o)
  (h:FO base e m lg x v):FO base e m lZ x v:=by
 refine⟨h.1,h.2.imp (fun nS=>by obtain⟨a,w,b,c⟩:=nS;exact⟨a,w,b,c.mono q⟩) fun nS=>by obtain⟨a,ca,o,w,b,c,d,f⟩:=nS;exact⟨a,ca,o,w,b,hc _ _ ⟨_,d⟩ c,d,f.mono q⟩⟩
section
variable{base:Heap}{K:Frag}{e:Env}{m:Str->Option Value}{fr:List oa}{env:An}{lg:Lg}{μ:MH}{h h':Heap}
theorem Inv.keeps(I:Inv base K e m fr env lg μ h)(k:∀b o,h.get? b=some o->h'.get? b=some o):Inv base K e m fr env lg μ h':=
 {I with old:=fun b o q=>k b o (I.old b o q),ns:=I.ns.keeps k,led:=fun a o q=>⟨k a o (I.led a o q).1,(I.led a o q).2⟩}
theorem Inv.push(I:Inv base K e m fr env lg μ h)(o:Obj):Inv base K e m fr env lg μ (h.push o):=I.keeps fun _ _ q=>gG o q
theorem Inv.extBut(I:Inv base K e m fr env lg μ h)(x:Heap.ExtBut h.objs.size h h'):Inv base K e m fr env lg μ h':=I.keeps fun b o q=>x b o (iV (g8 q)) q
noncomputable def Lg.put(lg:Lg)(a:Addr)(o:Obj):Lg:={lg with led:=fun b=>if b=a then some o else lg.led b}
noncomputable def Lg.lX(lg:Lg)(a d:Addr):Lg:={lg with mw:=lg.mw++[(a,d)]}
theorem Lg.ma(lg:Lg)(a:Addr)(o:Obj):(lg.put a o).led a=some o:=iJ rfl
theorem Lg.l9(lg:Lg)(o:Obj)(q:b≠a):(lg.put a o).led b=lg.led b:=iI q
theorem Ext.mI(o:Obj)(q:lg.led a=none):Ext lg (lg.put a o):=by
 have k:∀b p,lg.led b=some p->(lg.put a o).led b=some p:=fun b p e=>by
  rw[Lg.l9];exact e
  rintro rfl;exact AM q e
 exact⟨fun b p _ e=>k b p e,fun b p c e=>⟨p,c,k b p e⟩,fun _ _ e=>e⟩
theorem Ext.nQ(o:Obj)(q:lg.led a=some o')(n:rW o'):Ext lg (lg.put a o):=by
 have k:∀b p,¬rW p->lg.led b=some p->(lg.put a o).led b=some p:=fun b p i e=>by
  rw[Lg.l9];exact e
  rintro rfl;obtain rfl:=same q e;exact i n
 refine⟨fun b p i e=>k b p ?_ e,fun b p c e=>⟨p,c,k b p ?_ e⟩,fun _ _ e=>e⟩
 ·rintro(⟨z,_⟩|⟨es,k,z⟩)
  ·exact i.1 z
  ·exact i.2.1 _ _ z
 ·exact fun z=>z.oi c
theorem Ext.lX(a d:Addr):Ext lg (lg.lX a d):=⟨fun _ _ _ e=>e,fun _ o c e=>⟨o,c,e⟩,fun n p e=>by
 show(lg.mw++[(a,d)])[n]?=some p
 exact(jY (List.getElem?_eq_some_iff.mp e).1).trans (e)⟩
theorem Inv.fresh(I:Inv base K e m fr env lg μ h):lg.led h.objs.size=none:=by
 cases q:lg.led h.objs.size with
 |none=>rfl
 |some o=>exact absurd (g8 (I.led _ _ q).1) (ic _)
theorem Inv.free(I:Inv base K e m fr env lg μ h)(n:h.get? a=none):lg.led a=none:=by
 cases q:lg.led a with
 |none=>rfl
 |some o=>have:=(I.led _ _ q).1;exact AM n this
theorem Inv.nK(I:Inv base K e m fr env lg μ h)(n:h.get? a=none):base.get? a=none:=by
 cases q:base.get? a with
 |none=>rfl
 |some o=>have:=I.old _ _ q;exact AM n this
theorem Bl(h:Heap):h.get? h.objs.size=none:=by
 cases q:h.get? h.objs.size with
 |none=>rfl
 |some o=>exact absurd (g8 q) (ic _)
theorem Gm.mono{lZ:Lg}(q:Ext lg lZ)(hd:∀o,lg.led d=some o->lZ.led d=some o)(h:Gm base K lg a d o):Gm base K lZ a d o:=by
 cases o with
 |list xs=>obtain⟨e,hm,vs,k,a1,a4⟩:=h;exact⟨e,hm,vs,k,hd _ a1,a4.mono q⟩
 |inst c fs=>obtain⟨hc,C,c1,c2,c3,es,k,c4,c5⟩:=h;exact⟨hc,C,c1,q.oq _ _ ⟨by simp,by simp,by simp⟩ c2,c3,es,k,hd _ c4,c5.mono q⟩
 |dict kv=>obtain⟨e,o,a1,a2,es,k,a3,a4,a5,a6⟩:=h;exact⟨e,o,hd _ a1,a2,es,k,a3,a4,a5,a6.mono q⟩
theorem Inv.add(I:Inv base K e m fr env lg μ h)(n:h.get? a=none)(k:∀b o,h.get? b=some o->h'.get? b=some o)(g:h'.get? a=some o):Inv base K e m fr env (lg.put a o) μ h':=by
 have hf:=I.free n
 have x:Ext lg (lg.put a o):=Ext.mI o hf
 have keep:∀b p,lg.led b=some p->(lg.put a o).led b=some p:=fun b p q=>by
  rw[Lg.l9];exact q
  rintro rfl;exact AM hf q
 have nL:e.locals≠a:=by
  rintro rfl
  obtain⟨oL,ho,_⟩:=H6.of I.ns
  exact AM n ho
 refine⟨fun b p q=>k b p (I.old b p q),I.ns.keeps k,I.nG,by rw[Lg.l9 _ _ nL];exact I.mH,fun b p q=>?_,fun f pD=>?_,I.dist,I.apart,fun x' v q ss=>(I.vars x' v q ss).mono x fun b p _ z=>keep b p z,?_⟩
 ·by_cases z:b=a
  ·cases z
   rw[Lg.ma]at q
   obtain rfl:=Option.some.inj q
   exact⟨g,I.nK n⟩
  ·rw[Lg.l9 _ _ z]at q
   exact⟨k b p (I.led b p q).1,(I.led b p q).2⟩
 ·obtain⟨⟨p,a1,a2⟩,a3⟩:=I.frames f pD
  exact⟨⟨p,keep _ _ a1,a2⟩,fun c o q=>⟨keep _ _ (a3 c o q).1,(a3 c o q).2⟩⟩
 ·refine⟨I.heap.len,I.heap.nodup,fun n' p q=>?_⟩
  obtain⟨a',d,a1,a2⟩:=I.heap.each n' p q
  exact⟨a',d,a1,a2.mono x fun p z=>keep _ _ z⟩
theorem Inv.new(I:Inv base K e m fr env lg μ h)(hd:∀p∈lg.mw,p.2≠d)(tN:∀f∈fr,f.env.locals≠d)(ho:Gm base K (lg.lX a d) a d o):Inv base K e m fr env (lg.lX a d) (μ++[o]) h:=by
 have x:Ext lg (lg.lX a d):=Ext.lX a d
 refine{I with apart:=fun f hf p hp=>?_,vars:=fun x' v q ss=>(I.vars x' v q ss).mono x fun b p _ z=>z,heap:=⟨?_,?_,fun n p q=>?_⟩}
 ·rcases List.mem_append.mp (show p∈lg.mw++[(a,d)]from hp)with z|z
  ·exact I.apart f hf p z
  ·rw[List.mem_singleton.mp z];exact tN f hf
 ·show(lg.mw++[(a,d)]).length=(μ++[o]).length
  simp[I.heap.len]
 ·show((lg.mw++[(a,d)]).map (·.2)).Nodup
  rw[kj,List.nodup_append]
  refine⟨I.heap.nodup,by simp,fun c hc b hb=>?_⟩
  simp only[iZ,lD,List.mem_singleton]at hb
  obtain⟨q,hq,rfl⟩:=List.mem_map.mp hc
  exact fun z=>hd q hq (z.trans hb)
 ·by_cases z:n<μ.length
  ·rw[jY z]at q
   obtain⟨a',d',a1,a2⟩:=I.heap.each n p q
   exact⟨a',d',x.mw _ _ a1,a2.mono x fun p z=>z⟩
  ·have hn:n=μ.length:=by
    have:=(List.getElem?_eq_some_iff.mp q).1
    simp at this;lia
   subst hn
   rw[i7 (gF _)]at q
   simp at q
   subst q
   refine⟨a,d,?_,ho⟩
   show(lg.mw++[(a,d)])[μ.length]?=_
   rw[<- I.heap.len,i7 (gF _)]
   simp
theorem ac.qp(H:ac base K lg μ){n k:Nat}{a d a' d':Addr}(hn:lg.mw[n]?=some (a,d))(hk:lg.mw[k]?=some (a',d'))(q:n≠k):d≠d':=by
 intro z
 have h1:(lg.mw.map (·.2))[n]?=some d:=by simp[hn]
 have h2:(lg.mw.map (·.2))[k]?=some d':=by simp[hk]
 subst z
 have hi:=(List.getElem?_eq_some_iff.mp h1).1
 exact q ((List.getElem?_inj hi H.nodup).mp (h1.trans h2.symm))
theorem Inv.turn(I:Inv base K e m fr env lg μ h)(hn:lg.mw[n]?=some (a,d))(hl:lg.led d=some ob)(hm:rW ob)
  (hs:Heap.SameBut d h h') (hg:h'.get? d=some qW) (ho:Gm base K (lg.put d qW) a d o):Inv base K e m fr env (lg.put d qW) (μ.set n o) h':=by
 have hnf:∀f∈fr,f.env.locals≠d:=fun f hf=>I.apart f hf (a,d) (jn hn)
 have x:Ext lg (lg.put d qW):=Ext.nQ qW hl hm
 have hb:=(I.led d ob hl).2
 have nL:e.locals≠d:=by rintro rfl;exact AM I.mH hl
 refine⟨fun b p q=>(hs.2 b ?_).trans (I.old b p q),I.ns.sameBut hs nL,I.nG,by refine(Lg.l9 _ _ nL).symm▸?_;exact I.mH,fun b p q=>?_,fun f pD=>?_,I.dist,I.apart,fun x' v q ss=>(I.vars x' v q ss).mono x fun b p hc z=>?_,?_⟩
 ·rintro rfl;exact AM hb q
 ·by_cases z:b=d
  ·subst z;rw[Lg.ma]at q;obtain rfl:=Option.some.inj q;exact⟨hg,hb⟩
  ·rw[Lg.l9 _ _ z]at q
   exact⟨(hs.2 b z).trans (I.led b p q).1,(I.led b p q).2⟩
 ·obtain⟨⟨p,a1,a2⟩,a3⟩:=I.frames f pD
  refine⟨⟨p,by rw[Lg.l9 _ _ (hnf f pD)];exact a1,a2⟩,fun c o q=>⟨?_,(a3 c o q).2⟩⟩
  rw[Lg.l9];exact(a3 c o q).1
  rintro rfl
  have h1:=(a3 _ o q).1;obtain rfl:=same hl h1
  exact hm.oi (a3 _ _ q).2
 ·rw[Lg.l9];exact z
  rintro rfl;obtain rfl:=same hl z
  exact hm.oi hc
 ·refine⟨by simp[Lg.put,I.heap.len],I.heap.nodup,fun k p q=>?_⟩
  by_cases z:n=k
  ·subst z
   have:p=o:=by
    rw[j0]at q;simp at q;exact q.2.symm
   subst this
   exact⟨a,d,hn,ho⟩
  ·rw[gY z]at q
   obtain⟨a',d',a1,a2⟩:=I.heap.each k p q
   refine⟨a',d',a1,a2.mono x fun p y=>?_⟩
   rw[Lg.l9];exact y
   exact(I.heap.qp hn a1 z).symm
end
inductive AK{α:Type}(base:Heap)(K:Frag)(e:Env)(m:Str->Option Value)(fr:List oa)(env:An)(lg:Lg)(s:Shared)(P:Lg->MH->α->Prop)(a:α)(s':Shared):Prop
 |mk (h':Heap) (tk:Nat) (lZ:Lg) (μ':MH) (e1:s'={s with heap:=h',toks:=tk}) (I:Inv base K e m fr env lZ μ' h') (x:Ext lg lZ) (p:P lZ μ' a)
inductive PV(base:Heap)(Q:Ae)(lg:Lg)(μ:MH)(w:Value):Prop
 |mk (v:V) (r:Aw base lg v w) (q:Q v μ)
def PB(Q:Bool->MH->Prop)(_:Lg)(μ:MH)(b:Bool):Prop:=Q b μ
inductive PL(base:Heap)(Q:List V->MH->Prop)(lg:Lg)(μ:MH)(ws:List Value):Prop
 |mk (vs:List V) (r:Ar base lg vs ws) (q:Q vs μ)
section
variable{base:Heap}{K:Frag}{e:Env}{m:Str->Option Value}{fr:List oa}{env:An}{lg:Lg}{μ:MH}{s:Shared}
theorem AK.now{α:Type}{P:Lg->MH->α->Prop}{a:α}{h':Heap}{tk:Nat}(I:Inv base K e m fr env lg μ h')(p:P lg μ a) :
  AK base K e m fr env lg s P a {s with heap:=h',toks:=tk}:=⟨h',tk,lg,μ,rfl,I,Ext.refl _,p⟩
theorem AK.to{α:Type}{P:Lg->MH->α->Prop}{a:α}{h':Heap}{tk:Nat}{lZ:Lg}{μ':MH}(I:Inv base K e m fr env lZ μ' h')(x:Ext lg lZ)(p:P lZ μ' a) :
  AK base K e m fr env lg s P a {s with heap:=h',toks:=tk}:=⟨h',tk,lZ,μ',rfl,I,x,p⟩
theorem AK.here{α:Type}{P:Lg->MH->α->Prop}{a:α}(I:Inv base K e m fr env lg μ s.heap)(p:P lg μ a) :
  AK base K e m fr env lg s P a s:=⟨s.heap,s.toks,lg,μ,rfl,I,Ext.refl _,p⟩
theorem AK.trans{α:Type}{P:Lg->MH->α->Prop}{a:α}{h':Heap}{tk:Nat}{s':Shared}(x:Ext lg lZ)(h:AK base K e m fr env lZ {s with heap:=h',toks:=tk} P a s') :
  AK base K e m fr env lg s P a s':=by
 obtain⟨oW,rR,pz,om,rfl,I,y,p⟩:=h
 exact⟨oW,rR,pz,om,rfl,I,x.trans y,p⟩
theorem Aw.mc(h:Aw base lg (.int i) w):∃t,w=.int i t:=by cases h;exact⟨_,rfl⟩
theorem Aw.mi(h:Aw base lg (.str l) w):(∃t,w=.str (sx l) t)/\pZ l:=by cases h;exact⟨⟨_,rfl⟩,by assumption⟩
theorem Aw.mB(h:Aw base lg (.lX n) w):∃a d,w=.ref a/\lg.mw[n]?=some (a,d):=by cases h;exact⟨_,_,rfl,by assumption⟩
theorem Aw.nA(h:Aw base lg .none w):w=.none:=by cases h;rfl
theorem Aw.m5(h:Aw base lg (.bool b) w):w=.bool b:=by cases h;rfl
theorem BA(l:List Nat):(sx l).length=l.length:=by simp[sx,PySem.Str.length]
theorem LN(l k:List Nat):sx l++sx k=sx (l++k):=by
 show PySem.Str.mk _=_
 simp[sx]
theorem Wj(h:sx l=sx k):l=k:=by simpa [sx] using h
theorem pZ.append{l k:List Nat}(a:pZ l)(b:pZ k)(h:l.length+k.length<=lim):pZ (l++k):=
 ⟨by refine List.length_append.symm▸?_;exact h,fun c hc=>(List.mem_append.mp hc).elim (a.2 c) (b.2 c)⟩
theorem Co:lim<=sizeLine:=by decide
end
section
variable{prog:Program}{w:World}{A:Around}{E:Value->Shared->Prop}
variable{base:Heap}{K:Frag}{e:Env}{m:Str->Option Value}{fr:List oa}{env:An}{lg:Lg}{μ:MH}{s:Shared}
theorem AI{tk:Nat}{Q:Ae}(I:Inv base K e m fr env lg μ s.heap)(q:Q (.int i) μ):AK base K e m fr env lg s (PV base Q) (.int i t) {s with toks:=tk}:=
 ⟨s.heap,tk,lg,μ,rfl,I,Ext.refl _,.int i,.int i t,q⟩
theorem S6{Q:Ae}(I:Inv base K e m fr env lg μ s.heap)(q:Q (.bool b) μ):AK base K e m fr env lg s (PV base Q) (.bool b) s:=
 ⟨s.heap,s.toks,lg,μ,rfl,I,Ext.refl _,.bool b,.bool b,q⟩
theorem DA{tk:Nat}{Q:Ae}(I:Inv base K e m fr env lg μ s.heap)(hl:pZ l)(q:Q (.str l) μ):AK base K e m fr env lg s (PV base Q) (.str (sx l) t) {s with toks:=tk}:=
 ⟨s.heap,tk,lg,μ,rfl,I,Ext.refl _,.str l,.str l t hl,q⟩
theorem JR{x:Nat}(h:x<2 ^ 62):x.log2<62\/x=0:=by
 by_cases q:x=0
 ·exact .inr q
 ·exact .inl ((Nat.log2_lt q).mpr h)
theorem JL{x:Int}(h:x.natAbs<2 ^ 62):Builtin.Int.intBits x<=62:=by
 unfold Builtin.Int.intBits
 split
 ·decide
 ·rcases JR h with q|q
  ·assumption
  ·rename_i z;simp at z;lia
theorem ZW{x:Int}(h:x.natAbs<2 ^ 62):IntMulOk x y:=by
 unfold IntMulOk
 have:=JL h
 have e:decide (Builtin.Int.intBits x>shortFactorBits)=false:=gS (by unfold shortFactorBits;exact Nat.not_lt.mpr (mP (mo _) mj (.num 64) mj (.num 62) rfl this))
 rw[e];simp
theorem J0{y:Int}(h:y.natAbs<2 ^ 62):Builtin.divisionGoesByPylong x y=false:=by
 unfold Builtin.divisionGoesByPylong
 have:¬(if(y==0)=true then 0 else y.natAbs.log2 / 30+1)>300:=by
  split
  ·decide
  ·rcases JR h with q|q
   ·lia
   ·rename_i z;simp at z;lia
 simp only[gS this,kx]
inductive dK(base:Heap)(lg:Lg)(h:Heap)(a d:Addr)(xs:List V):Prop
 |mk (vs:Array Value) (k:Nat) (g:h.get? a=some (listOf vs k)) (e:a=d) (l:xs.length<=lim) (r:Ar base lg xs vs.toList) (sz:vs.size=xs.length) (ld:lg.led d=some (listOf vs k))
theorem Cp{n:Nat}{a d:Addr}{xs:List V}(I:Inv base K e m fr env lg μ s.heap)(hr:lg.mw[n]?=some (a,d))(hm:μ[n]?=some (.list xs)) :
  dK base lg s.heap a d xs:=by
 obtain⟨a',d',h1,h2⟩:=I.heap.each n _ hm
 cases same hr h1
 obtain⟨rfl,hl,vs,k,h3,h6⟩:=h2
 exact⟨vs,k,(I.led _ _ h3).1,rfl,hl,h6,by have:=h6.1;simp at this;lia,h3⟩
theorem A9{h:Heap}(x:h.get? a=some (listOf vs k)):h.IsList a vs:=⟨_,x,rfl,k,rfl⟩
theorem Gm.store(h:Gm base K lg a d o):∃ob,lg.led d=some ob:=by
 induction o with
 |list xs=>obtain⟨_,_,_,_,a1,_⟩:=h;exact⟨_,a1⟩
 |inst c fs=>obtain⟨_,_,_,_,_,es,k,a1,_⟩:=h;exact⟨_,a1⟩
 |dict kv=>obtain⟨_,ob,a1,_⟩:=h;exact⟨ob,a1⟩
theorem JM{h:Heap}{vs:List Value}{xs:List V}(I:Inv base K e m fr env lg μ h)(r:Ar base lg xs vs)(hl:xs.length<=lim)(k:Nat) :
  ∃lZ,Inv base K e m fr env lZ (μ++[.list xs]) (h.push (listOf vs.toArray k))/\Ext lg lZ/\Aw base lZ (.lX μ.length) (.ref h.objs.size):=by
 have I1:=I.add (h':=h.push (listOf vs.toArray k)) (a:=h.objs.size) (o:=listOf vs.toArray k) (Bl h) (fun b p q=>gG _ q) (hO h rfl)
 have x1:Ext lg (lg.put h.objs.size (listOf vs.toArray k)):=Ext.mI _ I.fresh
 have o6:∀p∈lg.mw,p.2≠h.objs.size:=fun p hp z=>by
  obtain⟨n,hn⟩:=List.mem_iff_getElem?.mp hp
  have uP:n<μ.length:=by refine I.heap.len▸?_;exact(List.getElem?_eq_some_iff.mp hn).1
  obtain⟨a,d,h1,h2⟩:=I.heap.each n _ (gW uP)
  obtain rfl:=same hn h1
  obtain⟨ob,sW⟩:=h2.store
  dsimp only at z
  rw[z]at sW
  exact absurd (g8 (I.led _ _ sW).1) (ic _)
 have oX:∀f∈fr,f.env.locals≠h.objs.size:=fun f pD z=>by
  obtain⟨⟨ob,a1,_⟩,_⟩:=I.frames f pD
  rw[z]at a1
  exact absurd (g8 (I.led _ _ a1).1) (ic _)
 have I2:=I1.new (a:=h.objs.size) (d:=h.objs.size) (o:=.list xs) o6 oX ⟨rfl,hl,vs.toArray,k,Lg.ma ..,by
  have:=r.mono (x1.trans (Ext.lX (lg:=lg.put h.objs.size (listOf vs.toArray k)) h.objs.size h.objs.size));exact this⟩
 refine⟨_,I2,x1.trans (Ext.lX _ _),.lX _ _ h.objs.size ?_⟩
 show(lg.mw++[(h.objs.size,h.objs.size)])[μ.length]?=_
 rw[<- I.heap.len,i7 (gF _)]
 simp
theorem MB{h:Heap}(I:Inv base K e m fr env lg μ h){o:Obj}(hf:o.isFreed=false):Inv base K e m fr env (lg.put h.objs.size o) μ (h.push o)/\Ext lg (lg.put h.objs.size o):=
 ⟨I.add (Bl h) (fun b p q=>gG o q) (hO h hf),Ext.mI o I.fresh⟩
theorem QI{xs:List V}{Q:Ae}(I:Inv base K e m fr env lg μ s.heap)(r:Ar base lg xs vs)(hl:xs.length<=lim)(q:Q (.tup xs) μ) :
  wpAny (model prog w) A (newTuple vs) (AK base K e m fr env lg s (PV base Q)) E s:=by
 refine wpAny_newTuple ?_ (by rw[<- r.1];exact gB hl Co)
 obtain⟨I',x⟩:=MB I (o:={cls:=.type "tuple",data:=.seq vs.toArray}) rfl
 refine⟨_,s.toks,_,μ,rfl,I',x,.tup xs,.tup xs _ _ vs.toArray 0 ⟨⟨by simp,by simp,by simp⟩,.inl (Lg.ma ..)⟩ rfl rfl (by simpa using r.1) hl fun i v z a b=>(r.2 i v z a (by simpa using b)).mono x,q⟩
theorem SP{xs:List V}{Q:Ae}(I:Inv base K e m fr env lg μ s.heap)(r:Ar base lg xs vs)(hl:xs.length<=lim)(q:Q (.lX μ.length) (μ++[.list xs])) :
  wpAny (model prog w) A (newList vs) (AK base K e m fr env lg s (PV base Q)) E s:=by
 refine wpAny_newList ?_ (by refine r.1▸?_;exact gB hl Co)
 obtain⟨lZ,I',x,v⟩:=JM I r hl 0
 exact⟨_,s.toks,lZ,_,rfl,I',x,_,v,q⟩
end
section
variable{prog:Program}{w:World}{A:Around}{E:Value->Shared->Prop}
variable{base:Heap}{K:Frag}{e:Env}{m:Str->Option Value}{fr:List oa}{env:An}{lg:Lg}{μ:MH}{s:Shared}
theorem VW{α:Type}(xs:List α)(n:Nat):∀(acc:Array α),List.foldl (fun x1 x2=>x1++x2) acc (List.replicate n xs.toArray)=acc++(List.replicate n xs).flatten.toArray:=by
 induction n with
 |zero=>intro acc;rfl
 |succ n ih=>
  intro acc
  rw[lV,kY,ih,lV]
  simp[Array.append_assoc]
theorem Ar.rep(h:Aw base lg v z)(n:Nat):Ar base lg (List.replicate n v) (List.replicate n z):=by
 induction n with
 |zero=>exact .nil
 |succ n ih=>exact Ar.cons h ih
theorem WD{Q:Ae}(I:Inv base K e m fr env lg μ s.heap)(h:ak op i j fun i=>Q (.int i) μ) :
  wpAny (model prog w) A (binaryOp op (.int i t) (.int j u)) (AK base K e m fr env lg s (PV base Q)) E s:=by
 induction op with
 |Add=>exact add_int (AI I h)
 |Sub=>exact sub_int (AI I h)
 |Mult=>exact mul_int (AI I (Ag (Ag h).2).2) (ZW (Ag h).1)
 |FloorDiv=>exact floordiv_int (Ag h).1 (AI I (Ag (Ag h).2).2) (.inl (J0 (Ag (Ag h).2).1))
 |Mod=>exact mod_int' (Ag h).1 (AI I (Ag h).2)
 |LShift=>
  have h1:=(Ag h).1;have h:=(Ag h).2
  have h2:=(Ag h).1;have h:=(Ag h).2
  have h3:=(Ag h).1;have h:=(Ag h).2
  exact lshift_int h1 (by have:=JL h3;lia) (AI I h)
 |RShift=>exact rshift_int (Ag h).1 (AI I (Ag h).2)
 |BitAnd=>exact and_int (AI I h)
 |BitOr=>exact or_int (AI I h)
 |BitXor=>exact xor_int (AI I h)
 |_=>exact h.elim
theorem cH{n:Int}{Q:Ae}(I:Inv base K e m fr env lg μ s.heap)(ha:Aw base lg (.lX l) x)(hb:Aw base lg (.int n) y)(hm:By μ l=some xs)
  (hx:xs=[z]) (h0:0<=n) (h1:n<=1000) (q:Q (.lX μ.length) (μ++[.list (List.replicate n.toNat z)])) :
  wpAny (model prog w) A (binaryOp .Mult x y) (AK base K e m fr env lg s (PV base Q)) E s:=by
 subst hx
 obtain⟨p,d,rfl,hr⟩:=ha.mB
 obtain⟨u,rfl⟩:=hb.mc
 obtain⟨vs,k,hg,rfl,hl,hv,nu,nM⟩:=Cp I hr (Ba hm)
 obtain⟨zw,sB,e1,hz,hn⟩:=hv.mO
 have e2:sB=[]:=by have:=hn.1;simpa using this.symm
 subst e2
 have e3:vs=#[zw]:=by apply Array.toList_inj.mp;simpa using e1
 subst e3
 refine wpAny_binaryOp_repeat_ref (T:="list") (U:="int") (by decide) ⟨_,hg,rfl⟩ (fun s'=>typeIs_int s' n u) noFill_list_mul F.fills_int_mul F.slot_int_rmul repeat_list F.slot_int_index.lookup
  (k8 F.slot_int_rmul (typeIs_int s n u) F.entry_int_rmul (F.args_int_rmul_2 _ _) (int___rmul___int_list n u p #[zw] k)
   ⟨hg,rfl,⟨_,hg,rfl⟩,k8 F.slot_list_mul ⟨_,hg,rfl⟩ F.entry_list_mul (F.args_list_mul_2 _ _)
    (AutoListH.list___mul___list_int_3 p #[zw] k n u (by simp[Builtin.List.listFitsIndex];exact⟨mJ (mo _) (.neg (.num 9223372036854775808)) mh (.num 0) mh rfl h0,mJ (mo _) (mm 0 1) (.num 9223372036854775808) mh (.num 1000) rfl h1⟩) (by show ¬1*n.toNat>(2 ^ 63 - 1) / 8;lia) (by simp[Builtin.List.listTooLong,sizeLine];exact mJ (mo _) mh (.num 16777216) mh (.num 1000) rfl h1))
    ⟨hg,?_⟩⟩)
 have e4:(List.foldl (fun x1 x2=>x1++x2) #[] (List.replicate (if(#[zw]:Array Value).isEmpty=true then 0 else n.toNat) #[zw]))=(List.replicate n.toNat zw).toArray:=by
  have:=VW [zw] n.toNat #[]
  rw[iI (by simp)]
  refine Eq.trans this ?_
  simp
 rw[e4]
 obtain⟨lZ,I',x,v⟩:=JM I (Ar.rep hz n.toNat) (by simp[lim];exact mJ (mo _) mh (.num 1000000) mh (.num 1000) rfl h1) 0
 exact⟨_,s.toks,lZ,_,rfl,I',x,_,v,q⟩
theorem am{Q:Ae}(I:Inv base K e m fr env lg μ s.heap)(ha:Aw base lg a x)(hb:Aw base lg b y)(h:al op a b Q μ) :
  wpAny (model prog w) A (binaryOp op x y) (AK base K e m fr env lg s (PV base Q)) E s:=by
 induction a using V.casesOn with
 |int i=>induction b using V.casesOn with
  |int j=>obtain⟨t,rfl⟩:=ha.mc;obtain⟨u,rfl⟩:=hb.mc;exact WD I h
  |_=>exact h.elim
 |str i=>induction b using V.casesOn with
  |str j=>induction op using Operator.casesOn with
   |Add=>
    obtain⟨⟨t,rfl⟩,l1⟩:=ha.mi;obtain⟨⟨u,rfl⟩,l2⟩:=hb.mi
    refine SBL.add (fun t' k _=>?_) (by rw[BA];exact gB (Ag h).1 Co)
    rw[LN]
    exact DA I (l1.append l2 (Ag h).1) (Ag h).2
   |_=>exact h.elim
  |_=>exact h.elim
 |lX l=>induction b using V.casesOn with
  |int n=>induction op using Operator.casesOn with
   |Mult=>
    obtain⟨xs,hm,h⟩:=Aq h
    match xs,hm,h with
    |[z],hm,h=>exact cH I ha hb hm rfl (Ag h).1 (Ag (Ag h).2).1 (Ag (Ag h).2).2
    |[],_,h=>exact h.elim
    |_ :: _ :: _,_,h=>exact h.elim
   |_=>exact h.elim
  |_=>exact h.elim
 |_=>exact h.elim
theorem Wt{Q:V->Prop}{Q':Ae}(I:Inv base K e m fr env lg μ s.heap)(ha:Aw base lg a x)(h:unW op a Q)(hq:∀v,Q v->Q' v μ) :
  wpAny (model prog w) A (unaryOp op x) (AK base K e m fr env lg s (PV base Q')) E s:=by
 induction a using V.casesOn with
 |int i=>
  obtain⟨t,rfl⟩:=ha.mc
  induction op with
  |USub=>exact neg_int (AI I (hq _ h))
  |Invert=>exact invert_int (AI I (hq _ h))
  |_=>exact h.elim
 |_=>exact h.elim
theorem GZ{Q:Bool->Shared->Prop}(ha:Aw base lg a x)(h:D2 a=some b)(q:Q b s):wpAny (model prog w) A (truthy x) Q E s:=by
 induction a using V.casesOn with
 |none=>refine ha.nA.symm▸?_;obtain rfl:=Option.some.inj h;exact truthy_none q
 |bool c=>refine ha.m5.symm▸?_;obtain rfl:=Option.some.inj h;exact jA q
 |int i=>obtain⟨t,rfl⟩:=ha.mc;obtain rfl:=Option.some.inj h;exact truthy_int q
 |_=>exact Ao h
end
section
variable{prog:Program}{w:World}{A:Around}{E:Value->Shared->Prop}
variable{base:Heap}{K:Frag}{e:Env}{m:Str->Option Value}{fr:List oa}{env:An}{lg:Lg}{μ:MH}{s:Shared}{h:Heap}
theorem Inv.kn(I:Inv base K e m fr env lg μ h)(k:Kn base lg a o):h.get? a=some o:=
 k.2.elim (fun q=>(I.led a o q).1) (fun q=>I.old a o q)
inductive af(base:Heap)(lg:Lg)(l:List V)(x:Value):Prop
 |mk (a:Addr) (o:Obj) (vs:Array Value) (n:Nat) (e:x=.ref a) (k:Kn base lg a o) (c:o.cls=.type "tuple") (d:o.data=.seq vs n) (m:l.length<=lim) (r:Ar base lg l vs.toList)
inductive Z8(base:Heap)(lg:Lg)(l:List V)(x:Value):Prop
 |mk (a:Addr) (o:Obj) (vs:Array Value) (n:Nat) (e:x=.ref a) (k:base.get? a=some o) (c:o.cls=.type "list") (d:o.data=.seq vs n) (m:l.length<=lim) (r:Ar base lg l vs.toList)
theorem Aw.nP(r:Aw base lg (.tup l) x):af base lg l x:=by
 cases r with
 |tup _ a o vs n k c d hl hm r=>exact⟨a,o,vs,n,rfl,k,c,d,hm,by exact hl,fun i v w p q=>r i v w p (by simpa using q)⟩
theorem Aw.pQ(r:Aw base lg (.mN l) x):Z8 base lg l x:=by
 cases r with
 |mN _ a o vs n k c d hl hm r=>exact⟨a,o,vs,n,rfl,k,c,d,hm,by exact hl,fun i v w p q=>r i v w p (by simpa using q)⟩
theorem Aw.pR{lo hi st:Int}{x:Value}(r:Aw base lg (.range lo hi st) x):∃a t1 t2 t3,x=.ref a/\Kn base lg a (Fi lo hi st t1 t2 t3)/\tE lo hi st:=by
 cases r with
 |range _ _ _ a t1 t2 t3 k r=>exact⟨a,t1,t2,t3,rfl,k,r⟩
theorem GG(I:Inv base K e m fr env lg μ h){o:Obj}(k:Kn base lg a o)(c:o.cls=.type "tuple")(d:o.data=.seq vs n):IsTup h a vs:=⟨o,I.kn k,c,n,d⟩
theorem Ar.nil_inv(r:Ar base lg [] vs):vs=[]:=List.length_eq_zero_iff.mp r.1.symm
theorem Gg{ss:List (List Nat)}(q:BE l=some ss)(r:Ar base lg l vs):StrsAre vs (ss.map sx)/\∀t∈ss,pZ t:=by
 induction l generalizing ss vs with
 |nil=>obtain rfl:=Option.some.inj q;obtain rfl:=r.nil_inv;exact⟨.nil,fun t ht=>by cases ht⟩
 |cons v l ih=>
  obtain⟨z,sB,rfl,hz,hr⟩:=r.mO
  induction v using V.casesOn with
  |str t=>
   replace q:(BE l).map (t :: ·)=some ss:=q
   cases q':BE l with
   |none=>replace q:=q'▸q;exact Ao q
   |some pG=>
    replace q:=q'▸q;obtain rfl:=Option.some.inj q
    obtain⟨⟨u,rfl⟩,hk⟩:=hz.mi
    have h1:=(ih q' hr).1;have h2:=(ih q' hr).2
    exact⟨.cons _ _ h1,fun t' ht=>(List.mem_cons.mp ht).elim (fun q=>q▸hk) (h2 t')⟩
  |_=>exact Ao q
theorem PR(q:Hp l=some ns)(r:Ar base lg l vs):IntsAre vs ns:=by
 induction l generalizing ns vs with
 |nil=>obtain rfl:=Option.some.inj q;obtain rfl:=r.nil_inv;exact .nil
 |cons v l ih=>
  obtain⟨z,sB,rfl,hz,hr⟩:=r.mO
  induction v using V.casesOn with
  |int t=>
   replace q:(Hp l).map (t :: ·)=some ns:=q
   cases q':Hp l with
   |none=>replace q:=q'▸q;exact Ao q
   |some pG=>
    replace q:=q'▸q;obtain rfl:=Option.some.inj q
    obtain⟨u,rfl⟩:=hz.mc
    exact .cons _ _ (ih q' hr)
  |_=>exact Ao q
theorem HS(h:pZ l):PyData.strOk (sx l)=true:=by
 unfold PyData.strOk sx
 simp only[List.all_toArray,ib,hG]
 exact fun c hc=>iv (h.2 c hc) (by decide)
theorem JU{α β:Type}{f:α->Option β}{a:α}{l:List α}{r:List β}(h:(a :: l).mapM f=some r):∃b t,f a=some b/\l.mapM f=some t/\r=b :: t:=by
 rw[jc]at h
 cases hf:f a with
 |none=>replace h:=hf▸h;exact Ao h
 |some b=>
  replace h:=hf▸h
  cases ht:l.mapM f with
  |none=>replace h:=ht▸h;exact Ao h
  |some t=>replace h:=ht▸h;obtain rfl:=Option.some.inj h;exact⟨b,t,rfl,rfl,rfl⟩
theorem LG(ih:∀(v:V) (d:PyData) (x:Value),AZ μ n v=some d->Aw base lg v x->∃as,Reads h x d as/\d.canLay0=true/\d.depth<=n)
  (l:List V):∀(ds:List PyData) (vs:List Value),l.mapM (AZ μ n)=some ds->Ar base lg l vs->∃as,ReadsAll h vs ds as/\PyData.canLayAll0 ds=true/\PyData.depthAll ds<=n:=by
 induction l with
 |nil=>
  intro ds vs q r
  obtain rfl:=Option.some.inj q;obtain rfl:=r.nil_inv
  exact⟨[],.nil,rfl,ie _⟩
 |cons v l ihl=>
  intro ds vs q r
  obtain⟨z,sB,rfl,hz,hr⟩:=r.mO
  obtain⟨d,t,h1,h2,rfl⟩:=JU q
  obtain⟨as,a1,a2,a3⟩:=ih _ _ _ h1 hz
  obtain⟨bs,b1,b2,b3⟩:=ihl t sB h2 hr
  exact⟨_,.cons a1 b1,(congr (congrArg and a2) b2 :),Nat.max_le.mpr ⟨a3,b3⟩⟩
theorem GR(I:Inv base K e m fr env lg μ h):∀(n:Nat) (v:V) (d:PyData) (x:Value),AZ μ n v=some d->Aw base lg v x->∃as,Reads h x d as/\d.canLay0=true/\d.depth<=n:=by
 intro n
 induction n with
 |zero=>
  intro v d x q r
  induction v using V.casesOn<;>cases q
  ·refine r.nA.symm▸?_;exact⟨_,.none,by rfl,by decide⟩
  ·refine r.m5.symm▸?_;exact⟨_,.bool _,by rfl,by simp[PyData.depth]⟩
  ·obtain⟨t,rfl⟩:=r.mc;exact⟨_,.int _ _,by rfl,by simp[PyData.depth]⟩
  ·obtain⟨⟨t,rfl⟩,hl⟩:=r.mi;exact⟨_,.str _ _,by simp[PyData.canLay0,HS hl],by simp[PyData.depth]⟩
 |succ n ih=>
  intro v d x q r
  induction v using V.casesOn with
  |none=>obtain rfl:=Option.some.inj q;refine r.nA.symm▸?_;exact⟨_,.none,by decide,by simp[PyData.depth]⟩
  |bool b=>obtain rfl:=Option.some.inj q;refine r.m5.symm▸?_;exact⟨_,.bool _,by rfl,by simp[PyData.depth]⟩
  |int b=>obtain rfl:=Option.some.inj q;obtain⟨t,rfl⟩:=r.mc;exact⟨_,.int _ _,by rfl,by simp[PyData.depth]⟩
  |str b=>obtain rfl:=Option.some.inj q;obtain⟨⟨t,rfl⟩,hl⟩:=r.mi;exact⟨_,.str _ _,by simp[PyData.canLay0,HS hl],by simp[PyData.depth]⟩
  |tup l=>
   change (l.mapM (AZ μ n)).map PyData.tuple=some d at q
   cases q':l.mapM (AZ μ n) with
   |none=>replace q:=q'▸q;exact Ao q
   |some ds=>
    replace q:=q'▸q;obtain rfl:=Option.some.inj q
    obtain⟨a,o,vs,k,rfl,hk,hc,hd,_,hr⟩:=r.nP
    obtain⟨as,a1,a2,a3⟩:=LG (h:=h) ih l ds _ q' hr
    exact⟨as,.tuple (I.kn hk) hc hd a1,by simpa [PyData.canLay0] using a2,by simp[PyData.depth];assumption⟩
  |mN l=>exact Ao q
  |range _ _ _=>exact Ao q
  |lX a=>
   obtain⟨xs,hx,q⟩:=Option.bind_eq_some_iff.mp (show(By μ a).bind _=some d from q)
   obtain⟨ds,q',q⟩:=Option.map_eq_some_iff.mp q
   cases q
   obtain⟨a,d,rfl,hr⟩:=r.mB
   obtain⟨a',d',h1,h2⟩:=I.heap.each _ _ (Ba hx)
   cases same hr h1
   obtain⟨rfl,hl,vs,k,h3,h6⟩:=h2
   obtain⟨as,a1,a2,a3⟩:=LG (h:=h) ih xs ds _ q' h6
   exact⟨_,.list (I.led _ _ h3).1 rfl rfl a1,by simpa [PyData.canLay0] using a2,by simp[PyData.depth];assumption⟩
theorem QD(a b:List Nat):(sx a==sx b)=(a==b):=by
 rw[jN,iw,iw]
 exact⟨Wj,fun q=>q▸rfl⟩
theorem TF(ss:List (List Nat))(k:List Nat):((ss.map sx).any fun x=>x==sx k)=ss.any fun x=>x==k:=by
 rw[List.any_map]
 congr 1
 funext x
 exact QD x k
theorem Mn{Q:Value->Shared->Prop}(I:Inv base K e m fr env lg μ s.heap)(hu:A.units+8<cLine)(ha:Aw base lg a x)(hb:Aw base lg b y)(h:rZ μ a b=some c)(q:Q (.bool c) s) :
  wpAny (model prog w) A (compareOp .Eq x y) Q E s:=by
 obtain⟨dx,hx,h⟩:=Option.bind_eq_some_iff.mp (show(AZ μ 5 a).bind _=some c from h)
 obtain⟨dy,hy,h⟩:=Option.map_eq_some_iff.mp h
 subst h
 obtain⟨as,a1,a2,a3⟩:=GR I _ _ _ _ hx ha
 obtain⟨bs,b1,b2,b3⟩:=GR I _ _ _ _ hy hb
 exact SeqAt.compareEq_reads a1 b1 a2 b2 (by have:=Nat.min_le_left dx.depth dy.depth;lia) q
theorem d7{Q:Value->Shared->Prop}(I:Inv base K e m fr env lg μ s.heap)(hu:A.units+8<cLine)(ha:Aw base lg a x)(hb:Aw base lg b y)(h:rm μ a b=some c)(q:Q (.bool c) s) :
  wpAny (model prog w) A (compareOp .Eq x y) Q E s:=by
 induction a using V.casesOn with
 |int i=>induction b using V.casesOn with
  |int j=>obtain⟨t,rfl⟩:=ha.mc;obtain⟨u,rfl⟩:=hb.mc;obtain rfl:=Option.some.inj h;exact eq_int q
  |_=>exact Mn I hu ha hb h q
 |str i=>induction b using V.casesOn with
  |str j=>obtain⟨⟨t,rfl⟩,_⟩:=ha.mi;obtain⟨⟨u,rfl⟩,_⟩:=hb.mi;obtain rfl:=Option.some.inj h;exact eq_str (by rw[QD];exact q)
  |_=>exact Mn I hu ha hb h q
 |bool i=>induction b using V.casesOn with
  |bool j=>(refine ha.m5.symm▸?_;refine hb.m5.symm▸?_);obtain rfl:=Option.some.inj h;exact eq_bool q
  |_=>exact Mn I hu ha hb h q
 |_=>exact Mn I hu ha hb h q
theorem MN{Q:Value->Shared->Prop}(I:Inv base K e m fr env lg μ s.heap)(hu:A.units+8<cLine)(ha:Aw base lg a x)(hb:Aw base lg b y)(h:rZ μ a b=some c)(q:Q (.bool (!c)) s) :
  wpAny (model prog w) A (compareOp .NotEq x y) Q E s:=by
 obtain⟨dx,hx,h⟩:=Option.bind_eq_some_iff.mp (show(AZ μ 5 a).bind _=some c from h)
 obtain⟨dy,hy,h⟩:=Option.map_eq_some_iff.mp h
 subst h
 obtain⟨as,a1,a2,a3⟩:=GR I _ _ _ _ hx ha
 obtain⟨bs,b1,b2,b3⟩:=GR I _ _ _ _ hy hb
 exact SeqAt.compareNe_reads a1 b1 a2 b2 (by have:=Nat.min_le_left dx.depth dy.depth;lia) q
theorem eS{Q:Value->Shared->Prop}(I:Inv base K e m fr env lg μ s.heap)(hu:A.units+8<cLine)(ha:Aw base lg a x)(hb:Aw base lg b y)(h:rm μ a b=some c)(q:Q (.bool (!c)) s) :
  wpAny (model prog w) A (compareOp .NotEq x y) Q E s:=by
 induction a using V.casesOn with
 |int i=>induction b using V.casesOn with
  |int j=>obtain⟨t,rfl⟩:=ha.mc;obtain⟨u,rfl⟩:=hb.mc;obtain rfl:=Option.some.inj h;exact ne_int q
  |_=>exact MN I hu ha hb h q
 |str i=>induction b using V.casesOn with
  |str j=>obtain⟨⟨t,rfl⟩,_⟩:=ha.mi;obtain⟨⟨u,rfl⟩,_⟩:=hb.mi;obtain rfl:=Option.some.inj h;exact ne_str (by rw[bne,QD];exact q)
  |_=>exact MN I hu ha hb h q
 |bool i=>induction b using V.casesOn with
  |bool j=>(refine ha.m5.symm▸?_;refine hb.m5.symm▸?_);obtain rfl:=Option.some.inj h;exact ne_bool q
  |_=>exact MN I hu ha hb h q
 |_=>exact MN I hu ha hb h q
theorem eu{Q:Value->Shared->Prop}(I:Inv base K e m fr env lg μ s.heap)(ha:Aw base lg a x)(hb:Aw base lg b y)(h:inV μ a b=some c)(q:Q (.bool c) s) :
  wpAny (model prog w) A (compareOp .In x y) Q E s:=by
 induction b using V.casesOn with
 |str t=>
  obtain⟨ch,e1,rfl⟩:=Option.map_eq_some_iff.mp (show(OL a).map _=some c from h)
  obtain rfl:=Kh e1
  obtain⟨⟨t1,rfl⟩,_⟩:=ha.mi;obtain⟨⟨u,rfl⟩,_⟩:=hb.mi
  refine in_str ?_
  have:=StrLaws.found_one (sx t) ch
  (refine(show sx [ch]={cps:=#[ch]} from rfl).symm▸?_;rewrite[this])
  exact q
 |tup l=>
  obtain⟨p,o,vs,k,rfl,hk,hc,hd,_,hr⟩:=hb.nP
  induction a using V.casesOn with
  |str i=>
   obtain⟨⟨t1,rfl⟩,_⟩:=ha.mi
   obtain⟨ss,q',h⟩:=Option.map_eq_some_iff.mp (show(BE l).map _=some c from h)
   subst h
   exact in_tuple_strs (GG I hk hc hd) (Gg q' hr).1 (by rw[TF];exact q)
  |int i=>
   obtain⟨t1,rfl⟩:=ha.mc
   obtain⟨ss,q',h⟩:=Option.map_eq_some_iff.mp (show(Hp l).map _=some c from h)
   subst h
   exact in_tuple_ints (GG I hk hc hd) (PR q' hr) q
  |_=>exact Ao h
 |lX n=>induction a using V.casesOn with
  |str i=>
   obtain⟨⟨t1,rfl⟩,_⟩:=ha.mi
   obtain⟨l,hm,h⟩:=Option.bind_eq_some_iff.mp (show(By μ n).bind _=some c from h)
   obtain⟨ss,q',h⟩:=Option.map_eq_some_iff.mp h
   subst h
   obtain⟨p,d,rfl,hr⟩:=hb.mB
   obtain⟨vs,k,hg,rfl,hl,hv,nu,nM⟩:=Cp I hr (Ba hm)
   exact in_list_strs (vs:=vs.toList) (A9 (by exact hg)) (Gg q' hv).1 (by rw[TF];exact q)
  |_=>exact Ao h
 |_=>exact Ao h
theorem JN(ha:Aw base lg a x):PySem.plainIs x .none=true/\(x==Value.none)=bc a:=by
 induction ha<;>exact⟨rfl,by first|rfl|decide⟩
theorem GF{f:Int->Int->Bool}(h:Oi a b f=some c):∃i j,a=.int i/\b=.int j/\c=f i j:=by
 obtain⟨i,e1,h⟩:=Option.bind_eq_some_iff.mp h
 obtain⟨j,e2,h⟩:=Option.map_eq_some_iff.mp h
 exact⟨i,j,Fb e1,Fb e2,h.symm⟩
theorem Hk{Q:Value->Shared->Prop}(I:Inv base K e m fr env lg μ s.heap)(hu:A.units+8<cLine)(ha:Aw base lg a x)(hb:Aw base lg b y)(h:JB μ op a b=some c)(q:Q (.bool c) s) :
  wpAny (model prog w) A (compareOp op x y) Q E s:=by
 induction op with
 |Eq=>exact d7 I hu ha hb h q
 |NotEq=>
  obtain⟨d,h',h⟩:=Option.map_eq_some_iff.mp (show(rm μ a b).map _=some c from h)
  subst h;exact eS I hu ha hb h' q
 |Lt=>obtain⟨i,j,rfl,rfl,rfl⟩:=GF h;obtain⟨t,rfl⟩:=ha.mc;obtain⟨u,rfl⟩:=hb.mc;exact lt_int q
 |LtE=>obtain⟨i,j,rfl,rfl,rfl⟩:=GF h;obtain⟨t,rfl⟩:=ha.mc;obtain⟨u,rfl⟩:=hb.mc;exact le_int q
 |Gt=>obtain⟨i,j,rfl,rfl,rfl⟩:=GF h;obtain⟨t,rfl⟩:=ha.mc;obtain⟨u,rfl⟩:=hb.mc;exact gt_int q
 |GtE=>obtain⟨i,j,rfl,rfl,rfl⟩:=GF h;obtain⟨t,rfl⟩:=ha.mc;obtain⟨u,rfl⟩:=hb.mc;exact ge_int q
 |Is=>induction b using V.casesOn with
  |none=>
   refine hb.nA.symm▸?_
   obtain⟨h1,h2⟩:=JN ha
   obtain rfl:=Option.some.inj h
   exact wpAny_is_plain h1 (by rw[h2];exact q)
  |_=>exact Ao h
 |IsNot=>induction b using V.casesOn with
  |none=>
   refine hb.nA.symm▸?_
   obtain⟨h1,h2⟩:=JN ha
   obtain rfl:=Option.some.inj h
   exact wpAny_isNot_plain h1 (by refine h2.symm▸?_;exact q)
  |_=>exact Ao h
 |In=>exact eu I ha hb h q
 |_=>exact Ao h
end
section
variable{prog:Program}{w:World}{A:Around}{E:Value->Shared->Prop}
variable{base:Heap}{K:Frag}{e:Env}{m:Str->Option Value}{fr:List oa}{env:An}{lg:Lg}{μ:MH}{s:Shared}{h:Heap}
theorem LA(q:CU n i=some k):seqIndex? i n=some k/\k<n:=by
 unfold CU at q
 unfold seqIndex?
 split at q
 ·split at q
  ·obtain rfl:=Option.some.inj q
   have h:¬i<0:=by lia
   simp only[h,kH]
   refine⟨?_,by lia⟩
   rw[iJ (by lia)]
  ·exact Ao q
 ·split at q
  ·obtain rfl:=Option.some.inj q
   have h:i<0:=by lia
   simp only[h,kG]
   refine⟨?_,by lia⟩
   rw[iJ (by lia)]
  ·exact Ao q
theorem Cr{i:Int}(q:CU n i=some k):-(n:Int)<=i/\i<n/\((0<=i/\k=i.toNat)\/(i<0/\k=(i+n).toNat)):=by
 unfold CU at q
 split at q
 ·split at q
  ·obtain rfl:=Option.some.inj q;lia
  ·exact Ao q
 ·split at q
  ·obtain rfl:=Option.some.inj q;lia
  ·exact Ao q
structure LS(prog:Program)(w:World)(A:Around)(E:Value->Shared->Prop)(o i:Value)(Q:Value->Shared->Prop)(s:Shared):Prop where
 how:∃T id,s.TypeIs o T/\typeLookup (.type T) "__getitem__"=pure (some (.builtin id))
 rT:wpAny (model prog w) A (getItem o i) Q E s
theorem RW{Q:Value->Shared->Prop}(x:LS prog w A E o i Q s)(hs:subscripted slice false o i=operate ops (getItem o i)) :
  wpAny (model prog w) A (subscriptTail value slice o i) Q E s:=by
 obtain⟨⟨T,id,h1,h2⟩,h3⟩:=x
 exact tail_any h1 h2 h3 hs
theorem Oh{n:Nat}{a d:Addr}{kv:List (Int×V)}(I:Inv base K e m fr env lg μ h)(hr:lg.mw[n]?=some (a,d))(hm:μ[n]?=some (.dict kv)) :
  ∃f,h.IntMap a f/\No base lg kv f/\h.DictLe a kv.length/\a=d:=by
 obtain⟨a',d',h1,h2⟩:=I.heap.each n _ hm
 cases same hr h1
 obtain⟨rfl,o,a1,a2,es,k,a3,a4,a5,a6⟩:=h2
 refine⟨_,⟨o,es,k,(I.led _ _ a1).1,a2,a3,a4,fun _=>rfl⟩,a6,fun o' es' ep' g' d'=>?_,rfl⟩
 obtain rfl:=same ((I.led _ _ a1).1) g'
 replace d':=a3▸d';cases d';exact a5
theorem Wi{Q:Ae}(I:Inv base K e m fr env lg μ s.heap)(ha:Aw base lg a x)(hb:Aw base lg b y)(h:B8 μ a b=some v)(q:Q v μ) :
  LS prog w A E x y (AK base K e m fr env lg s (PV base Q)) s:=by
 have qy:lim=1000000:=rfl
 obtain⟨i,ei,h⟩:=Option.bind_eq_some_iff.mp (show(Cy b).bind _=some v from h)
 cases Fb ei
 obtain⟨t,rfl⟩:=hb.mc
 induction a using V.casesOn with
 |lX n=>
  obtain⟨p,d,rfl,hr⟩:=ha.mB
  have h:(match μ[n]? with|some o=>(match o with|.list xs=>OR xs i|.dict kv=>Bn kv i|_=>none)|none=>none)=some v:=h
  cases hm:μ[n]? with
  |none=>replace h:=hm▸h;exact Ao h
  |some o=>
   replace h:=hm▸h
   induction o with
   |list xs=>
    obtain⟨vs,k,hg,rfl,hl,hv,nu,nM⟩:=Cp I hr hm
    have sk:=A9 hg
    obtain⟨k,hk,hx⟩:=Option.bind_eq_some_iff.mp (show(CU _ i).bind _=some v from h)
    obtain⟨wv,hw,o5⟩:=hv.at hx
    have b1:=(Cr hk).1;have b2:=(Cr hk).2.1;have b3:=(Cr hk).2.2
    refine⟨⟨"list",_,sk.typeIs,slot_list_getitem.lookup⟩,?_⟩
    rcases b3 with⟨c1,c2⟩|⟨c1,c2⟩
    ·exact wpAny_getItem_list sk c1 (by exact qq0 (Int.ofNat_le.mpr (hM qy)) (Int.ofNat_le.mpr hl) b2) (x:=wv) (by(refine c2▸?_;rewrite[<- iF]);exact hw) (AK.here I ⟨v,o5,q⟩)
    ·exact wpAny_getItem_list_neg sk c1 (by exact qq (nC _ _ _) (.neg mh) oI mQ mh (.neg mQ) oI rfl (Int.ofNat_le.mpr (hM nu.symm)) b1) (by exact qq1 (Int.ofNat_le.mpr (hM qy)) (Int.ofNat_le.mpr hl) b1) (x:=wv) (by(refine nu.symm▸?_;refine c2▸?_;rewrite[<- iF]);exact hw) (AK.here I ⟨v,o5,q⟩)
   |dict kv=>
    obtain⟨f,hf,hd,_⟩:=Oh I hr hm
    have h:Bn kv i=some v:=h
    rcases hd i with⟨z,_⟩|⟨v',w',z1,z2,z3⟩
    ·exact AM z h
    ·cases same z1 h
     exact⟨⟨"dict",_,hf.typeIs,F.slot_dict_getitem.lookup⟩,wpAny_getItem_intMap hf z2 (AK.now I ⟨v,z3,q⟩)⟩
   |inst c fs=>exact Ao h
 |tup l=>
  obtain⟨p,o,vs,k,rfl,hk,hc,hd,hm,hr⟩:=ha.nP
  obtain⟨k,qJ,hx⟩:=Option.bind_eq_some_iff.mp (show(CU _ i).bind _=some v from h)
  obtain⟨wv,hw,o5⟩:=hr.at hx
  have b1:=(Cr qJ).1;have b2:=(Cr qJ).2.1;have b3:=(Cr qJ).2.2
  have it:=GG I hk hc hd
  have nu:l.length=vs.size:=by have:=hr.1;exact this
  exact⟨⟨"tuple",_,it.typeIs,slot_tuple_getitem.lookup⟩,getItem_tuple it (by exact qq1 (Int.ofNat_le.mpr (hM qy)) (Int.ofNat_le.mpr hm) b1) (by exact qq0 (Int.ofNat_le.mpr (hM qy)) (Int.ofNat_le.mpr hm) b2) (by rw[<- nu];exact(LA qJ).1) (by refine iF▸?_;exact hw) (AK.here I ⟨v,o5,q⟩)⟩
 |str l=>
  obtain⟨⟨t,rfl⟩,hl⟩:=ha.mi
  obtain⟨k,qJ,hx⟩:=Option.bind_eq_some_iff.mp (show(CU _ i).bind _=some v from h)
  obtain⟨c,hc,rfl⟩:=Option.map_eq_some_iff.mp hx
  have b1:=(Cr qJ).1;have b2:=(Cr qJ).2.1;have b3:=(Cr qJ).2.2
  have qT:=hl.1
  refine⟨⟨"str",_,typeIs_str _ _ _,F.slot_str_getitem.lookup⟩,getItem_str ?_ ?_ (DA I ?_ q)⟩
  ·rw[lR,decide_eq_false_iff_not];lia
  ·(rewrite[BA];refine((LA qJ).1).symm▸?_)
   simp only[sx,List.getElem?_toArray];exact hc
  ·exact⟨by simp[lim],fun z hz=>by
    refine(List.mem_singleton.mp hz).symm▸?_;exact hl.2 _ (jn hc)⟩
 |_=>exact Ao h
theorem Fu(ha:Aw base lg a x)(h:Mg n d a=some k):∃p:Option (Int×Tok),x=partValue p/\IsPart x (p.map (·.1))/\
  (match p with|none=>k=d|some (i,_)=>k=if 0<=i then min i.toNat n else(i+n).toNat):=by
 induction a using V.casesOn with
 |none=>obtain rfl:=Option.some.inj h;refine ha.nA.symm▸?_;exact⟨none,rfl,.none,rfl⟩
 |int i=>
  obtain rfl:=Option.some.inj h;obtain⟨t,rfl⟩:=ha.mc
  exact⟨some (i,t),rfl,.int _ _,rfl⟩
 |_=>exact Ao h
theorem PA{α:Type}(l:List α)(a b:Nat):(l.drop a).take (b - a)=cut l a b:=by
 unfold cut;rw[List.drop_take]
theorem Iv(i:Int)(n:Nat):max 0 (min (if i<0 then i+n else i) n)=((if 0<=i then min i.toNat n else(i+n).toNat:Nat):Int):=by
 by_cases h:0<=i
 ·rw[iI (Int.not_lt.mpr h)]
  obtain⟨k,rfl⟩:=gD h
  show max 0 (min (k:Int) n)=((min k n:Nat):Int)
  refine(show((min k n:Nat):Int)=min (k:Int) n by lia).symm▸?_;exact Int.max_eq_right (by lia)
 ·(rewrite[iJ (Int.not_le.mp h)];refine(iI h).symm▸?_;rewrite[Int.min_eq_left (by exact mJ (mU _ _) (.add mh mQ) mQ (mm 0 1) (.num 0) rfl (Int.not_le.mp h))];rewrite[Int.toNat_eq_max];rewrite[Int.max_comm];rfl)
theorem K5{pa pb:Option (Int×Tok)}(ha:match pa with|none=>ka=0|some (i,_)=>ka=if 0<=i then min i.toNat n else(i+n).toNat)
  (hb:match pb with|none=>kb=n|some (i,_)=>kb=if 0<=i then min i.toNat n else(i+n).toNat) :
  sliceBounds (pa.map (·.1)) (pb.map (·.1)) none n=((ka:Int),(kb:Int),1):=by
 induction pa using Option.casesOn with
 |none=>
  induction pb using Option.casesOn with
  |none=>subst ha;subst hb;rfl
  |some p=>subst ha;subst hb;exact congrArg (fun z=>((0:Int),z,(1:Int))) (Iv p.1 n)
 |some p=>
  induction pb using Option.casesOn with
  |none=>subst ha;subst hb;exact congrArg (fun z=>(z,(kb:Int),(1:Int))) (Iv p.1 kb)
  |some q=>subst ha;subst hb;exact(congrArg (fun z=>(z,_,(1:Int))) (Iv p.1 n)).trans (congrArg (fun z=>(_,z,(1:Int))) (Iv q.1 n))
theorem Tq{pa pb:Option (Int×Tok)}(ha:match pa with|none=>ka=0|some (i,_)=>ka=if 0<=i then min i.toNat n else(i+n).toNat)
  (hb:match pb with|none=>kb=n|some (i,_)=>kb=if 0<=i then min i.toNat n else(i+n).toNat) :
  Builtin.Str.strSliceIndices (pa.map (·.1)) (pb.map (·.1)) 1 n=(List.range (kb - ka)).map (ka+·):=by
 rw[<- sliceRange_one]
 have h:=K5 ha hb
 have h1:=congrArg (·.1) h
 have h2:=congrArg (·.2.1) h
 exact congr (congrArg (fun x y=>sliceRange x y 1) h1) h2
end
section
variable{prog:Program}{w:World}{A:Around}{E:Value->Shared->Prop}
variable{base:Heap}{K:Frag}{e:Env}{m:Str->Option Value}{fr:List oa}{env:An}{lg:Lg}{μ:MH}{s:Shared}{h:Heap}
theorem Ar.drop{l:List V}{vs:List Value}(r:Ar base lg l vs)(n:Nat):Ar base lg (l.drop n) (vs.drop n):=
 ⟨by simp[r.1],fun i v w a b=>r.2 (n+i) v w (by simpa using a) (by simpa using b)⟩
theorem Ar.take{l:List V}{vs:List Value}(r:Ar base lg l vs)(n:Nat):Ar base lg (l.take n) (vs.take n):=
 ⟨by simp[r.1],fun i v w a b=>r.2 i v w (by replace a:=List.getElem?_take▸a;split at a;exact a;exact Ao a) (by replace b:=List.getElem?_take▸b;split at b;exact b;exact Ao b)⟩
theorem Ar.cut(r:Ar base lg l vs)(a b:Nat):Ar base lg (cut l a b) (cut vs a b):=(r.take b).drop a
theorem Uc{α:Type}(l:List α)(a b:Nat):(cut l a b).length<=l.length:=by unfold cut;simp;lia
theorem JQ{l:List V}{vs:Array Value}{a b:Nat}{lo hi:V}{z y:Value}{p:Addr}{Q:Ae}(I:Inv base K e m fr env lg μ s.heap)(sk:s.heap.IsList p vs)(hr:Ar base lg l vs.toList)(hl:l.length<=lim)
  (pX:Aw base lg lo z) (qg:Aw base lg hi y) (h1:Mg l.length 0 lo=some a) (h2:Mg l.length l.length hi=some b) (q:Q (.lX μ.length) (μ++[.list (cut l a b)])) :
  LS prog w A E (.ref p) (.ref s.heap.objs.size) (AK base K e m fr env lg s (PV base Q)) {s with heap:=s.heap.push {cls:=.type "slice",data:=.fields #[z,y,.none]}}:=by
 obtain⟨pa,_,p2,p3⟩:=Fu pX h1
 obtain⟨pb,_,q2,q3⟩:=Fu qg h2
 have nu:l.length=vs.size:=by have:=hr.1;simpa using this
 refine⟨⟨"list",_,(sk.push _).typeIs,slot_list_getitem.lookup⟩,wpAny_getItem_list_slice (sk.push _) (Heap.IsSliceOf.new ..) p2 q2 .none (by simp) ?_ (by rw[<- nu];exact gB hl Co)⟩
 have e:slicePick vs (pa.map (·.1)) (pb.map (·.1)) none=(cut vs.toList a b).toArray:=by
  unfold slicePick
  rw[K5 (n:=vs.size) (ka:=a) (kb:=b) (by cases pa<;>simpa [nu] using p3) (by cases pb<;>simpa [nu] using q3)]
  simp only[sliceRange_one,pick_run,PA]
 rw[e]
 obtain⟨lZ,I',x,v⟩:=JM (I.push {cls:=.type "slice",data:=.fields #[z,y,.none]}) (hr.cut a b) (gB (Uc ..) hl) 0
 exact AK.to I' x ⟨_,v,q⟩
theorem V7{o lo hi:V}{x z y:Value}{Q:Ae}(I:Inv base K e m fr env lg μ s.heap)(ho:Aw base lg o x)(pX:Aw base lg lo z)(qg:Aw base lg hi y)(h:V6 o lo hi Q μ) :
  LS prog w A E x (.ref s.heap.objs.size) (AK base K e m fr env lg s (PV base Q)) {s with heap:=s.heap.push {cls:=.type "slice",data:=.fields #[z,y,.none]}}:=by
 induction o using V.casesOn with
 |str l=>
  obtain⟨a,h1,h⟩:=Aq h
  obtain⟨b,h2,q⟩:=Aq h
  obtain⟨⟨t,rfl⟩,hl⟩:=ho.mi
  obtain⟨pa,rfl,p2,p3⟩:=Fu pX h1
  obtain⟨pb,rfl,q2,q3⟩:=Fu qg h2
  refine⟨⟨"str",_,typeIs_str _ _ _,F.slot_str_getitem.lookup⟩,wpAny_getItem_str_slice (l:=pa) (u:=pb) (st:=none) ⟨_,hO _ rfl,rfl,rfl⟩ rfl ?_⟩
  have e1:slicePicked (sx l) pa pb none=(List.range (b - a)).map (a+·):=by
   exact Tq (n:=(sx l).length) (by induction pa using Option.casesOn<;>simpa [BA] using p3) (by induction pb using Option.casesOn<;>simpa [BA] using q3)
  have hb:b<=l.length\/b<=a:=by
   rcases pb with _|⟨j,u⟩
   ·exact .inl (hM q3)
   ·dsimp only at q3;split at q3<;>omega
  have e2:(⟨((slicePicked (sx l) pa pb none).filterMap ((sx l).cps[·]?)).toArray⟩:Str)=sx (cut l a b):=by
   (refine e1.symm▸?_;rewrite[pick_run];rewrite[PA]);rfl
  have ok:pZ (cut l a b):=⟨gB (Uc ..) hl.1,fun c hc=>hl.2 c (List.mem_of_mem_take (List.mem_of_mem_drop hc))⟩
  have I':=I.push {cls:=.type "slice",data:=.fields #[partValue pa,partValue pb,.none]}
  unfold sliceMade
  refine e2.symm▸?_
  split
  ·rename_i hc
   have e3:cut l a b=l:=by
    replace hc:=e1▸hc
    simp[BA]at hc
    (rewrite[<- PA];refine hc.symm▸?_)
    by_cases hz:l.length=0
    ·refine(List.length_eq_zero_iff.mp hz).symm▸?_;rfl
    ·have:a=0:=by lia
     subst this
     simp
   exact AK.now I' ⟨_,.str l t hl,by exact e3▸q⟩
  ·exact⟨by rw[BA];exact gB ok.1 Co,AK.now I' ⟨_,.str _ _ ok,q⟩⟩
 |mN l=>
  obtain⟨a,h1,h⟩:=Aq h
  obtain⟨b,h2,q⟩:=Aq h
  obtain⟨p,o,vs,n,rfl,hk,hc,hd,hm,hr⟩:=ho.pQ
  exact JQ I ⟨o,I.old _ _ hk,hc,n,hd⟩ hr hm pX qg h1 h2 q
 |lX n=>
  obtain⟨l,hm,h⟩:=Aq h
  obtain⟨a,h1,h⟩:=Aq h
  obtain⟨b,h2,q⟩:=Aq h
  obtain⟨p,d,rfl,hr⟩:=ho.mB
  obtain⟨vs,k,hg,rfl,hl,hv,nu,nM⟩:=Cp I hr (Ba hm)
  exact JQ I (A9 hg) hv hl pX qg h1 h2 q
 |_=>exact h.elim
def PU(Q:MH->Prop)(_:Lg)(μ:MH)(_:Unit):Prop:=Q μ
theorem LJ{Q:MH->Prop}(I:Inv base K e m fr env lg μ s.heap)(ho:Aw base lg o x)(hi:Aw base lg i y)(hv:Aw base lg v z)(h:M9 o i v Q μ) :
  wpAny (model prog w) A (setItem x y z) (AK base K e m fr env lg s (PU Q)) E s:=by
 induction o using V.casesOn with
 |lX n=>induction i using V.casesOn with
  |int k=>
   obtain⟨xs,hm,h⟩:=Aq h
   have hm:=Ba hm
   have h0:=(Ag h).1;have h:=(Ag h).2
   have h1:=(Ag h).1;have q:=(Ag h).2
   obtain⟨p,d,rfl,hr⟩:=ho.mB
   obtain⟨t,rfl⟩:=hi.mc
   obtain⟨vs,n',hg,rfl,hl,tQ,nu,nM⟩:=Cp I hr hm
   have qy:lim=1000000:=rfl
   refine ki_setAt hg h0 (by exact tB (nC _ _ _) (mm 0 1) (.num 9223372036854775808) (mm 0 1) mQ mQ oI oI (.num 1000000) rfl h1 (Int.ofNat_le.mpr hl) (Int.ofNat_le.mpr (hM qy))) (by exact qq2 h1 (Int.ofNat_le.mpr (hM nu.symm))) ?_
   have up:=PySem.IsL.update (n:=n') hg (·.setIfInBounds k.toNat z)
   have x1:Ext lg (lg.put p (listOf (vs.setIfInBounds k.toNat z) (if(vs.setIfInBounds k.toNat z).size==vs.size then n' else n'+1))):=Ext.nQ _ nM (.inl ⟨rfl,_,_,rfl⟩)
   have I':=I.turn (o:=.list (xs.set k.toNat v)) hr nM (.inl ⟨rfl,_,_,rfl⟩) (iU s.heap p _) up ⟨rfl,by simpa using hl,_,_,Lg.ma ..,by
    have:=(tQ.mono x1).set k.toNat (hv.mono x1);simpa using this⟩
   exact AK.to I' x1 q
  |_=>exact h.elim
 |_=>exact h.elim
structure ub(K:Frag):Prop where
 set:∀c C,Cf K c C->c<3->findIn K (.ref C) "__setattr__"=some (some (.builtin "object.__setattr__"))/\plainOver K C=true/\hasDictIn K C=true
 rX:∀c C,Cf K c C->c<3->∀a∈EJ,takerIn K C (nm a)=some none/\plainGet K C (nm a)=true/\findIn K (.ref C) (nm a)=some none
noncomputable def ndB(m:Nat)(l:List Nat):Bool:=match l with
 |[]=>true
 |a :: l=>!m.testBit a&&ndB (m||| 2 ^ a) l
theorem bE{l:List Nat}{m:Nat}(h:ndB m l=true):l.Nodup/\∀x∈l,m.testBit x=false:=by
 induction l generalizing m with
 |nil=>exact⟨.nil,nofun⟩
 |cons a l ih=>
  have r:=ih (Aa h)
  have q:∀x∈l,m.testBit x=false/\(2 ^ a).testBit x=false:=fun x hx=>by
   have:=r.2 x hx
   rw[jz]at this
   exact Bool.or_eq_false_iff.mp this
  refine⟨List.nodup_cons.mpr ⟨fun k=>?_,r.1⟩,List.forall_mem_cons.mpr ⟨(jk _).mp (Al h),fun x hx=>(q x hx).1⟩⟩
  exact absurd (Nat.testBit_two_pow_self.symm.trans (q a k).2) Bool.noConfusion
noncomputable def ndF(l:List Nat):Nat:=l.foldl (fun a c=>a*37+c) 0 % 6607
theorem Vg:Bg.Nodup:=
 List.Pairwise.of_map ndF (fun _ _ h e=>h (congrArg ndF e)) (bE (m:=0) (by decide +kernel)).1
theorem Hy(ha:a<Bg.length)(hb:b<Bg.length)(h:nm a=nm b):a=b:=by
 have:=Wj h
 rw[gV,gV,gW ha,gW hb]at this
 exact(List.getElem_inj Vg).mp this
theorem Vf(ha:a<Bg.length)(hb:b<Bg.length):(nm a==nm b)=decide (a=b):=by
 rw[jN,iw,hG]
 exact⟨Hy ha hb,fun q=>q▸rfl⟩
theorem Nx:∀a∈EJ,a<Bg.length:=by decide +kernel
theorem Ht(n:Str)(t:Tok)(k:Str):(Value.str n t).isStr k=(n==k):=rfl
theorem D3.get(r:D3 base lg fs es)(ha:a<Bg.length)(q:Xx fs a=some v):∃z,getL (nm a) es=some (some z)/\Aw base lg v z:=by
 induction r with
 |nil=>exact Ao q
 |cons b u fs hs t z es hb hv _ ih=>
  unfold Xx at q
  split at q
  ·rename_i e';obtain rfl:=Option.some.inj q;subst e'
   refine⟨z,?_,hv⟩
   unfold getL
   rw[List.find?_cons_of_pos (by rw[Ht,ip])]
  ·rename_i ne
   obtain⟨z',h1,h2⟩:=ih q
   refine⟨z',?_,h2⟩
   unfold getL at h1 ⊢
   rw[List.find?_cons_of_neg (by rw[Ht,Vf hb ha,hG];exact ne)]
   split at h1
   ·exact h1
   ·split at h1<;>exact nomatch h1
theorem D3.noRef{es:List DictEntry}(r:D3 base lg fs es):es.any (·.refKey)=false:=by
 induction r with
 |nil=>rfl
 |cons b u fs hs t z es hb hv _ ih=>rw[lq,ih];rfl
theorem D3.put(r:D3 base lg fs es)(ha:a<Bg.length)(hv:Aw base lg v z)(sj:Int)(tk:Tok) :
  D3 base lg (Ox fs a v) (putL (nm a) sj (.str (nm a) tk) z es):=by
 induction r with
 |nil=>exact .cons _ _ _ _ _ _ _ ha hv .nil
 |cons b u fs hs t y es hb hu r ih=>
  unfold Ox putL
  rw[Ht,Vf hb ha]
  by_cases q:b=a
  ·rw[iJ q,iJ (gz q)];exact .cons _ _ _ _ _ _ _ hb hv r
  ·rw[iI q,iI (by rw[hG];exact q)];exact .cons _ _ _ _ _ _ _ hb hu ih
theorem D3.length{fs:List (Nat×V)}{es:List DictEntry}(r:D3 base lg fs es):es.length=fs.length:=by
 induction r with
 |nil=>rfl
 |cons _ _ _ _ _ _ _ _ _ _ ih=>simp[ih]
theorem Oy(fs:List (Nat×V))(a:Nat)(v:V):(Ox fs a v).length<=fs.length+1:=by
 induction fs with
 |nil=>simp[Ox]
 |cons p fs ih=>obtain⟨k,w⟩:=p;unfold Ox;split<;>simp;exact mP (mU _ _) mj (mu 1 1) mj (mu 1 1) rfl ih
theorem Aw.handed(r:Aw base lg v x):handedIn x=true:=by induction r<;>rfl
inductive dJ(base:Heap)(K:Frag)(lg:Lg)(h:Heap)(a d:Addr)(c:Nat)(fs:List (Nat×V)):Prop
 |mk (C:Addr) (es:List DictEntry) (k:Nat) (c3:c<3) (cl:Cf K c C) (i:InstAt h a (instObj C d) C (some (dictOf es k))) (l:fs.length<=900) (ld:lg.led d=some (dictOf es k)) (la:lg.led a=some (instObj C d)) (f:D3 base lg fs es)
theorem UI{n:Nat}{a d:Addr}{c:Nat}{fs:List (Nat×V)}(I:Inv base K e m fr env lg μ h)(hr:lg.mw[n]?=some (a,d))(hm:μ[n]?=some (.inst c fs)) :
  dJ base K lg h a d c fs:=by
 obtain⟨a',d',h1,h2⟩:=I.heap.each n _ hm
 cases same hr h1
 obtain⟨hc,C,c1,c2,c3,es,k,c4,c5⟩:=h2
 exact⟨C,es,k,hc,c1,⟨(I.led _ _ c2).1,rfl,rfl,(I.led _ _ c4).1⟩,c3,c4,c2,c5⟩
theorem QS{Q:Ae}(C:ub K)(X:K.In base)(I:Inv base K e m fr env lg μ s.heap)(hu:Aw base lg u x)(ha:a∈EJ)(h:QR μ u a=some v)(q:Q v μ) :
  wpAny (model prog w) A (getAttr x (nm a) expr) (AK base K e m fr env lg s (PV base Q)) E s:=by
 induction u using V.casesOn with
 |lX n=>
   obtain⟨⟨c,fs⟩,hm,h⟩:=Option.bind_eq_some_iff.mp (show(UH μ n).bind _=some v from h)
   have hm:μ[n]?=some (.inst c fs):=Lk hm
   obtain⟨p,d,rfl,hr⟩:=hu.mB
   obtain⟨Ca,es,k,hc,hC,hI,_,_,_,hF⟩:=UI I hr hm
   obtain⟨z,hz,hv⟩:=hF.get (Nx a ha) h
   have t1:=(C.rX c Ca hC hc a ha).1;have t2:=(C.rX c Ca hC hc a ha).2.1;have t3:=(C.rX c Ca hC hc a ha).2.2
   have s1:=(C.set c Ca hC hc).1;have s2:=(C.set c Ca hC hc).2.1;have s3:=(C.set c Ca hC hc).2.2
   exact get_value (X.keeps I.old) hI (plainGet_of t2).1 (findObj_own s3 t3 rfl (by rw[lookIn_dict];exact hz)) hv.handed (AK.now I ⟨v,hv,q⟩)
 |_=>exact Ao h
theorem Kf{Q:MH->Prop}(C:ub K)(X:K.In base)(I:Inv base K e m fr env lg μ s.heap)(hu:Aw base lg u x)(hv:Aw base lg v z)(ha:a∈EJ)(h:Ke u a v Q μ) :
  wpAny (model prog w) A (setAttr x (nm a) z) (AK base K e m fr env lg s (PU Q)) E s:=by
 induction u using V.casesOn with
 |lX n=>
  obtain⟨⟨c,fs⟩,hm,h⟩:=Aq h
  have hm:μ[n]?=some (.inst c fs):=Lk hm
  have hl:=(Ag h).1;have q:=(Ag h).2
  obtain⟨p,d,rfl,hr⟩:=hu.mB
  obtain⟨Ca,es,k,hc,hC,hI,_,hd,hp,hF⟩:=UI I hr hm
  have t1:=(C.rX c Ca hC hc a ha).1;have t2:=(C.rX c Ca hC hc a ha).2.1;have t3:=(C.rX c Ca hC hc a ha).2.2
  have s1:=(C.set c Ca hC hc).1;have s2:=(C.set c Ca hC hc).2.1;have s3:=(C.set c Ca hC hc).2.2
  have Xh:=X.keeps I.old
  refine set_plain Xh hI s1 (osa_open (s:={s with toks:=s.toks+1}) Xh hI s2 t1 fun b=>?_)
  obtain⟨cd,hcd,sP⟩:=any_some s3
  have uH:s.heap.get? d=some (dictOf es k):=(I.led _ _ hd).1
  have hph:s.heap.get? p=some (instObj Ca d):=(I.led _ _ hp).1
  refine gx (gO (gx (gx (kt hph (gx ((lO Xh hcd).at ?_))))))
  refine sP.symm▸?_
  refine gO (a:=some d) (gx (gO (gx ?_)))
  refine gx (gx (kS (gO (gx (wpAny_mkText (gx (kt uH ?_)))))))
  show wpAny _ _ (if aRefKeyMayBeTheName (nm a) es.toArray=true then _ else _) _ _ _
  have hno:es.any (·.refKey)=false:=hF.noRef
  rw[aRefKeyMayBeTheName_at,show(es.toArray.any (·.refKey))=false by refine Array.any_toList▸?_;exact hno,jT]
  refine wpAny_updatePart uH ?_
  have e1:=putName_dict (nm a) (PyData.keyHash w.params (nm a)) (.str (nm a) (s.toks+1)) z es k
  have up:=iu (Obj.putName (nm a) (PyData.keyHash w.params (nm a)) (.str (nm a) (s.toks+1)) z) uH (by refine e1.symm▸?_;rfl)
  replace up:=e1▸up
  have F1:=hF.put (Nx a ha) hv (PyData.keyHash w.params (nm a)) (s.toks+1)
  have l1:=F1.length
  have l2:=Oy fs a v
  refine gx (wpAny_lookBehind up (pastItsLine_dict (by(rewrite[List.size_toArray];refine sizeLine_eq.symm▸?_);exact tC (nC _ _ _) mE (.add (.num 16777216) (.num 1)) mj (.num 900) mE nF nF (mu 0 1) rfl l (hM l1) l2)) (gO ?_))
  have x1:Ext lg (lg.put d (dictOf (putL (nm a) (PyData.keyHash w.params (nm a)) (.str (nm a) (s.toks+1)) z es) (putN (nm a) es k))):=Ext.nQ _ hd (.inr ⟨_,_,rfl⟩)
  have ne:p≠d:=by
   rintro rfl
   cases same hp hd
  have I':=I.turn (o:=.inst c (Ox fs a v)) hr hd (.inr ⟨_,_,rfl⟩) (iU s.heap d _) up ⟨hc,Ca,hC,by refine(Lg.l9 _ _ ne).symm▸?_;exact hp,by exact pe (mU _ _) mE (.num 900) (mu 0 1) (.num 900) mE (mu 0 1) rfl hl l2,_,_,Lg.ma ..,F1.mono x1⟩
  exact AK.to I' x1 q
 |_=>exact h.elim
end
def ov(A:Around)(h:Heap):Prop:=A.handled=none\/∃a o arr,A.handled=some (.ref a)/\h.get? a=some o/\o.data=.fields arr/\arr[2]?=some .none
noncomputable def oE(A:Around):List Addr:=match A.handled with|some (.ref a)=>[a]|_=>[]
theorem ov.keeps{h h':Heap}(x:ov A h)(k:∀b∈oE A,∀o,h.get? b=some o->h'.get? b=some o):ov A h':=
 x.imp id fun nS=>by obtain⟨a,o,arr,e,g,r⟩:=nS;exact⟨a,o,arr,e,k a (by simp[oE,e]) o g,r⟩
theorem ov.mono{h h':Heap}(x:ov A h)(k:∀b o,h.get? b=some o->h'.get? b=some o):ov A h':=x.keeps fun b _ o e=>k b o e
theorem ov.lt{h:Heap}(x:ov A h):∀b∈oE A,b<h.objs.size:=by
 rcases x with e|⟨a,o,arr,e,g,_⟩<;>intro b hb
 ·simp[oE,e]at hb
 ·simp[oE,e]at hb;subst hb;exact g8 g
theorem ov.in1{A:Around}(x:ov A h):ov A.in1 h:=x
theorem KP:entryFor table "proto.unchain"=some Builtin.«proto.unchain»:=entryFor_of_tree (by kernel_rfl)
section
variable{prog:Program}{w:World}{A:Around}{s:Shared}
theorem LB{α:Type}{o:Obj}{arr:Array Value}{Q:α->Shared->Prop}{E:Value->Shared->Prop}(H:ov A s.heap)(ho:s.heap.get? a=some o)(hd:o.data=.fields arr)(hz:2<arr.size)
  (ne:a∉oE A) (h:∀h',Heap.SameBut a s.heap h'->(∃o',h'.get? a=some o'/\o'.cls=o.cls/\∃qE,o'.data=.fields qE/\qE.size=arr.size/\qE[1]?=arr[1]?/\(A.handled=none->qE=arr))->E (.ref a) {s with heap:=h'}) :
  wpAny (model prog w) A (raiseNew (.ref a):Sem α) Q E s:=by
 refine gx (wpAny_handled ?_)
 rcases H with e|⟨b,ob,brr,e,g,d,z⟩
 ·rw[e]
  exact gx (gO (lM (h s.heap (Heap.SameBut.refl ..) ⟨o,ho,rfl,arr,hd,rfl,rfl,fun _=>rfl⟩)))
 ·refine e.symm▸?_
  have nab:b≠a:=by rintro rfl;exact ne (by simp[oE,e])
  show wpAny _ _ (if(Value.ref b != Value.ref a)=true then(holding [Value.ref a] (runValue (Code.builtin "proto.unchain" ⟨[Value.ref a,.ref b,.ref b,.bool false],[]⟩)) >>= fun _=>updateField a 2 (.ref b) >>= fun _=>throw (Value.ref a))else _) _ _ s
  rw[iJ (by rw[ig];intro x;injection x with x;exact nab x)]
  refine gx (hW (wpAny_runValue (codeAny_builtin KP ?_)))
  refine gx (ix g d z ?_)
  show wpAny _ _ (if(Value.none==Value.none)=true then ret .none else _) _ _ s
  refine gO ?_
  refine gx (jy (i:=2) (x:=.ref b) ho hd hz (lM (h _ (iU ..) ⟨_,iu _ ho (km (jw hd _)),Obj.cls_mapFields ..,_,jw hd _,by simp,by simp,fun z=>by exact AM z e⟩)))
theorem EG{α:Type}{Q:α->Shared->Prop}{E:Value->Shared->Prop}(H:ov A s.heap)
  (h:∀h' x,(∀b o,s.heap.get? b=some o->h'.get? b=some o)->(∃o,h'.get? x=some o/\o.cls=.type "StopIteration")->E (.ref x) {s with heap:=h'}) :
  wpAny (model prog w) A (newExc (.type "StopIteration") [] >>= fun e=>(raiseNew e:Sem α)) Q E s:=by
 refine gx ?_
 simp only[newExc,newTuple]
 refine gx (kM ?_ (by size_fits))
 refine gx (m:=firstArgMember _ _) (kr (a:=Value.none) (by first|rfl|(simp only[firstArgMember];rfl)) ?_)
 refine kM ?_ (by size_fits)
 refine LB (H.mono fun b o e=>gG _ (gG _ e)) (hO _ rfl) rfl (by rw[Array.size_append];exact g7 (by decide:2<6) (hJ ..)) (fun hm=>?_) fun h' hs hx=>?_
 ·have:=H.lt _ hm
  simp only[i6]at this
  exact absurd this (Nat.not_lt.mpr (iY _))
 ·obtain⟨o',g,c,_⟩:=hx
  refine h h' _ (fun b o e=>?_) ⟨o',g,c⟩
  refine(hs.2 b (fun q=>?_)).trans (gG _ (gG _ e))
  have:=g8 e
  subst q
  simp only[i6]at this
  exact absurd this (Nat.not_lt.mpr (iY _))
section
variable{E:Value->Shared->Prop}{it:Addr}{Q:Option Value->Shared->Prop}
theorem Mm(hs:Heap.ExtBut it s.heap h₁)(hQ:∀h',Heap.ExtBut it s.heap h'->Q none {s with heap:=h'}){h':Heap}{x:Addr}(hk:∀b o,h₁.get? b=some o->h'.get? b=some o)
  (hx:∃o,h'.get? x=some o/\o.cls=.type "StopIteration") :
  wpAny (model prog w) A (do if <- isInstance (.ref x) (.type "StopIteration")then pure none else throw (.ref x):Sem (Option Value)) Q E {s with heap:=h'}:=by
 obtain⟨o,g,c⟩:=hx
 refine gx (wpAny_isInstance (T:="StopIteration") (b:=true) ⟨o,g,c⟩ isSubtype_stop ?_)
 exact gO (hQ _ fun b o q e=>hk b o (hs b o q e))
theorem KT(H:ov A s.heap)(ni:it∉oE A)
  (hit:s.heap.IsListIter it l i) (hl:s.heap.IsList l items) (hx:items[i]?=none)
  (hQ:∀h',Heap.ExtBut it s.heap h'->Q none {s with heap:=h'}):wpAny (model prog w) A (pyNext (.ref it)) Q E s:=by
 obtain⟨o,ho,hc,hd⟩:=id hit
 obtain⟨ol,uS,_,nl,uI⟩:=hl
 refine gx (kB (wpAny_callSpecial?_slot (name:=Str.ofString "__next__") hit.typeIs slot_listiter_next
  (j3 slot_listiter_next hit.typeIs entry_listiter_next ?_ (args_listiter_next _))))
 show wpAny _ _ (field (.ref it) 0 >>= _) _ _ s
 refine gx (ix ho hd (x:=.ref l) rfl ?_)
 refine gx (ix ho hd (x:=.int i 0) rfl ?_)
 refine gx (wpAny_seqItems uS uI ?_)
 simp only[kQ,hx]
 refine gx (jR (gx (jy ho hd (by simp) ?_)))
 have hs:=iU s.heap it (Obj.mapFields (·.setIfInBounds 0 .none))
 refine EG (A:=A.in1) (H.in1.keeps fun b hb o e=>(hs.2 b (fun q=>ni (q▸hb))).trans e) fun h' x hk hx=>?_
 exact Mm hs.extBut hQ hk hx
theorem Dv(H:ov A s.heap)(ni:it∉oE A)
  (hit:s.heap.IsTupleIter it l i) (hl:s.heap.IsTuple l items) (hx:items[i]?=none)
  (hQ:∀h',Heap.ExtBut it s.heap h'->Q none {s with heap:=h'}):wpAny (model prog w) A (pyNext (.ref it)) Q E s:=by
 obtain⟨o,ho,hc,hd⟩:=id hit
 obtain⟨ol,uS,_,nl,uI⟩:=hl
 refine gx (kB (wpAny_callSpecial?_slot (name:=Str.ofString "__next__") hit.typeIs li
  (j3 li hit.typeIs F.entry_tuple_iterator_next ?_ (F.args_tuple_iterator_next_1 _))))
 show wpAny _ _ (field (.ref it) 0 >>= _) _ _ s
 refine gx (ix ho hd (x:=.ref l) rfl ?_)
 refine gx (ix ho hd (x:=.int i 0) rfl ?_)
 refine gx (wpAny_seqItems uS uI ?_)
 simp only[kQ,hx]
 refine gx (jR (gx (jy ho hd (by simp) ?_)))
 have hs:=iU s.heap it (Obj.mapFields (·.setIfInBounds 0 .none))
 refine EG (A:=A.in1) (H.in1.keeps fun b hb o e=>(hs.2 b (fun q=>ni (q▸hb))).trans e) fun h' x hk hx=>?_
 exact Mm hs.extBut hQ hk hx
theorem JZ{x left step:Int}(H:ov A s.heap)(hit:IsRangeIter s.heap it x left step)(sT:left<=0)
  (hQ:∀h',Heap.ExtBut it s.heap h'->Q none {s with heap:=h'}):wpAny (model prog w) A (pyNext (.ref it)) Q E s:=by
 have hT:s.TypeIs (.ref it) "range_iterator":=⟨_,hit,rfl⟩
 refine gx (kB (wpAny_callSpecial?_slot (name:=Str.ofString "__next__") hT lj
  (j3 lj hT F.entry_range_iterator_next ?_ (F.args_range_iterator_next_1 _))))
 show wpAny _ _ (field (.ref it) 0 >>= _) _ _ s
 refine gx (ix hit rfl (x:=rawInt x) rfl ?_)
 refine gx (ix hit rfl (x:=rawInt left) rfl ?_)
 refine gx (ix hit rfl (x:=rawInt step) rfl ?_)
 show wpAny _ _ (if left<=0 then _ else _) _ _ s
 refine(iJ sT).symm▸?_
 refine gx (jR ?_)
 refine gx ?_
 refine EG (A:=A.in1) H.in1 fun h' x hk hx=>?_
 exact Mm (fun _ _ _ e=>e) hQ hk hx
theorem JY{x:Str}(H:ov A s.heap)(ni:it∉oE A)
  (hit:s.heap.IsStrIter it "str_ascii_iterator" x t i) (hx:x.cps[i]?=none)
  (hQ:∀h',Heap.ExtBut it s.heap h'->Q none {s with heap:=h'}):wpAny (model prog w) A (pyNext (.ref it)) Q E s:=by
 obtain⟨o,ho,hc,hd⟩:=id hit
 refine gx (kB (wpAny_callSpecial?_slot (name:=Str.ofString "__next__") hit.typeIs kW
  (j3 kW hit.typeIs F.entry_str_ascii_iterator_next ?_ (F.args_str_ascii_iterator_next_1 _))))
 show wpAny _ _ (field (.ref it) 0 >>= _) _ _ s
 refine gx (ix ho hd (x:=.str x t) rfl ?_)
 show wpAny _ _ (field (.ref it) 1 >>= _) _ _ s
 refine gx (ix ho hd (x:=.int i 0) rfl ?_)
 simp only[kQ,hx]
 refine gx (jR (gx (jy ho hd (by simp) (gx (wpAny_letGo ?_)))))
 have hs:=iU s.heap it (Obj.mapFields (·.setIfInBounds 0 .none))
 refine EG (A:=A.in1) (H.in1.keeps fun b hb o e=>(hs.2 b (fun q=>ni (q▸hb))).trans e) fun h' x hk hx=>?_
 exact Mm hs.extBut hQ hk hx
end
end
theorem OZ{prog:Program}{w:World}{A:Around}(I ax:Addr)(hne:ax≠I)(ni:I∉oE A)(items:Array Value) :
  Walks prog w A I (I :: ax :: oE A) [I] items.size (fun i v=>items[i]?=some v) (fun i h=>(h.IsTupleIter I ax i/\h.IsTuple ax items)/\ov A h) where
 sub:=fun b hb=>by simp at hb;simp[hb]
 frame:=fun _ _ _ st hk=>⟨⟨st.1.1.at fun o e=>hk I (by simp) o e,st.1.2.at fun o e=>hk ax (by simp) o e⟩,st.2.keeps fun b hb=>hk b (by simp[hb])⟩
 item:=fun i s Q E hi st hQ=>by
  refine lv st.1.1 st.1.2 (x:=items[i]) (by simp[hi]) fun h' oY pP=>?_
  exact hQ _ h' s.toks (by simp[hi]) ⟨⟨oY,st.1.2.extBut pP.extBut hne⟩,st.2.keeps fun b hb o e=>pP.extBut b o (fun q=>ni (q▸hb)) e⟩ fun b o hb e=>pP.extBut b o (fun h=>hb (by simp[h])) e
 done:=fun s Q E st hQ=>Dv st.2 ni st.1.1 st.1.2 (by simp) fun h' sQ=>hQ h' s.toks fun b o hb e=>sQ b o (fun h=>hb (by simp[h])) e
 self:=fun _ _ _ _ st hQ=>lG st.1.1 hQ
section
variable{prog:Program}{w:World}{A:Around}{E:Value->Shared->Prop}
variable{base:Heap}{K:Frag}{e:Env}{m:Str->Option Value}{fr:List oa}{env:An}{lg:Lg}{μ:MH}{s:Shared}{h:Heap}
theorem SK{Q:Value->Shared->Prop}(ha:s.TypeIs a "list")(hb:s.TypeIs b "list")
  (hc:wpAny (model prog w) A (call (.builtin "list.__iadd__") [a,b]) Q E s):wpAny (model prog w) A (inplaceOp .Add a b) Q E s:=by
 refine hW ?_
 have hl:=F.slot_list_iadd.lookup
 have hfi:fillsInplaceSlot (.type "list") "add" (Operator.Add==.Add)=pure false:=by
  show(typeLookup (.type "list") (dunderI "add") >>= fun fi=>_)=_
  have hq:isSeqSlot (some (.builtin "list.__iadd__"))=true:=by decide +kernel
  show(pure (true&&!isSeqSlot (some (.builtin "list.__iadd__"))):Sem Bool)=pure false
  refine hq.symm▸?_;rfl
 have hsi:seqSlot? (.type "list") (dunderI "add")=pure (some (.builtin "list.__iadd__")):=PyProof.Rows.seqSlot_of hl (by decide +kernel)
 refine gx (wpAny_typeOf ha (gx (kr hfi ?_)))
 refine gx (PyProof.Rows.binaryOp1_none (nm:="add") ha hb noFill_list_add ?_)
 refine gx (kr hsi ?_)
 exact gx (jR hc)
theorem KS(f:Array Value->Array Value)(so:Array Value)(n:Nat):∃k,Obj.mapSeq f (listOf so n)=listOf (f so) k:=by
 exact⟨_,rfl⟩
theorem FQ{xs:List V}{f:Array Value->Array Value}(I:Inv base K e m fr env lg μ s.heap)(hr:lg.mw[n]?=some (d,d))(hl:lg.led d=some (listOf so k))
  (hlen:xs.length<=lim) (o5:Ar base lg xs (f so).toList) :
  ∃lZ,Inv base K e m fr env lZ (μ.set n (.list xs)) (s.heap.update d (Obj.mapSeq f))/\Ext lg lZ:=by
 obtain⟨k',e'⟩:=KS f so k
 have g:=iu (Obj.mapSeq f) (I.led _ _ hl).1 (by refine e'.symm▸?_;rfl)
 rw[e']at g
 have x1:Ext lg (lg.put d (listOf (f so) k')):=Ext.nQ _ hl (.inl ⟨rfl,_,_,rfl⟩)
 exact⟨_,I.turn (o:=.list xs) hr hl (.inl ⟨rfl,_,_,rfl⟩) (iU s.heap d _) g ⟨rfl,hlen,_,_,Lg.ma ..,o5.mono x1⟩,x1⟩
theorem UM{xs ys:List V}{Q:Ae}(I:Inv base K e m fr env lg μ s.heap)(ha:Aw base lg (.lX l) x)(hb:Aw base lg (.lX n) y)(ne:l≠n)(hm:μ[l]?=some (.list xs))(uO:μ[n]?=some (.list ys))(hlen:xs.length+ys.length<=lim)
  (q:Q (.lX l) (μ.set l (.list (xs++ys)))) :
  wpAny (model prog w) A (inplaceOp .Add x y) (AK base K e m fr env lg s (PV base Q)) E s:=by
 obtain⟨p,d,rfl,hr⟩:=ha.mB
 obtain⟨p2,d2,rfl,uU⟩:=hb.mB
 obtain⟨vs,k,hg,rfl,hl,hv,nu,nM⟩:=Cp I hr hm
 obtain⟨vp,k2,hg2,rfl,rC,hv2,sX,hled2⟩:=Cp I uU uO
 have qz:lim<=sizeLine:=Co
 obtain⟨lZ,I',x⟩:=FQ (f:=fun z=>z++vp) I hr nM (xs:=xs++ys) (by simpa using hlen) (by refine Array.toList_append.symm▸?_;exact hv.append hv2)
 refine SK (A9 hg).typeIs (A9 hg2).typeIs ?_
 refine k8 F.slot_list_iadd (A9 hg).typeIs F.entry_list_iadd (F.args_list_iadd_2 _ _)
  (AutoSeq1.list___iadd___list_list_0 p vs k p2 vp k2 ?_ (by exact tC (Cx4 _ _ _ _) nF q6 mj mE nF mj mE q6 rfl hl (hM nu) qz) (by exact Nl4 (Cx6 _ _ _ _ _ _) (.add q6 ua) (mu 5 1) (.add mj mE) nF q6 mj ua mE nF vo rfl hlen (hM nu) (hM sX) qz)) ⟨hg,hg2,AK.to I' x ⟨_,.lX l p p (x.mw _ _ hr),q⟩⟩
 have:Builtin.List.listTooLong (vs.size+vp.size)=false:=by
  simp[Builtin.List.listTooLong];exact Nl4 (Cx6 _ _ _ _ _ _) (.add q6 ua) vo (.add mj mE) nF q6 mj ua mE nF vo rfl hlen (hM nu) (hM sX) qz
 refine this.symm▸?_;simp
theorem WB{Q:Ae}(I:Inv base K e m fr env lg μ s.heap)(h:TH op (.int i) (.int j) Q μ) :
  wpAny (model prog w) A (inplaceOp op (.int i t) (.int j u)) (AK base K e m fr env lg s (PV base Q)) E s:=by
 induction op with
 |Add=>exact iadd_int (AI I h)
 |Sub=>exact isub_int (AI I h)
 |Mult=>exact imul_int (AI I (Ag (Ag h).2).2) (ZW (Ag h).1)
 |FloorDiv=>exact AutoIntOps.ifloordiv_1 (by have:=(Ag h).1;simpa using this) (by refine(J0 (Ag (Ag h).2).1).symm▸?_;decide) (AI I (Ag (Ag h).2).2)
 |RShift=>exact irshift_int (Ag h).1 (AI I (Ag h).2)
 |BitOr=>exact ior_int (AI I h)
 |BitXor=>exact ixor_int (AI I h)
 |_=>exact h.elim
theorem O8{Q:Ae}(I:Inv base K e m fr env lg μ s.heap)(ha:Aw base lg a x)(hb:Aw base lg b y)(h:TH op a b Q μ) :
  wpAny (model prog w) A (inplaceOp op x y) (AK base K e m fr env lg s (PV base Q)) E s:=by
 induction a using V.casesOn with
 |int i=>induction b using V.casesOn with
  |int j=>obtain⟨t,rfl⟩:=ha.mc;obtain⟨u,rfl⟩:=hb.mc;exact WB I h
  |_=>exact h.elim
 |str i=>cases b with
  |str j=>induction op using Operator.casesOn with
   |Add=>
    obtain⟨⟨t,rfl⟩,l1⟩:=ha.mi;obtain⟨⟨u,rfl⟩,l2⟩:=hb.mi
    refine iadd_str (fun t' k=>?_) (by rw[BA];exact gB (Ag h).1 Co)
    rw[LN]
    exact DA I (l1.append l2 (Ag h).1) (Ag h).2
   |_=>exact h.elim
  |_=>exact h.elim
 |lX l=>cases b with
  |lX n=>cases op with
   |Add=>
    obtain⟨ne,h⟩:=Ag h
    obtain⟨xs,hm,h⟩:=Aq h
    obtain⟨ys,uO,h⟩:=Aq h
    exact UM I ha hb ne (Ba hm) (Ba uO) (Ag h).1 (Ag h).2
   |_=>exact h.elim
  |_=>exact h.elim
 |_=>exact h.elim
theorem Gc{lo hi st:Int}{t1 t2 t3:Tok}{tk:Nat}{Q:Ae}(I:Inv base K e m fr env lg μ s.heap)(hr:tE lo hi st)(q:Q (.range lo hi st) μ) :
  AK base K e m fr env lg s (PV base Q) (.ref s.heap.objs.size) {s with heap:=s.heap.push {cls:=.type "range",data:=.fields #[.int lo t1,.int hi t2,.int st t3]},toks:=tk}:=by
 obtain⟨I',x⟩:=MB I (o:={cls:=.type "range",data:=.fields #[.int lo t1,.int hi t2,.int st t3]}) rfl
 exact AK.to I' x ⟨_,.range lo hi st _ t1 t2 t3 ⟨⟨by simp[Fi],by simp[Fi],by simp[Fi]⟩,.inl (Lg.ma ..)⟩ hr,q⟩
theorem So:∃bt,CmpOf prog w A .Gt (fun i v=>#[Value.int a t,Value.int b u][i]?=some v) bt/\argBest bt 1=(if a<b then 1 else 0):=by
 refine⟨fun i j=>decide (numAt #[(a,t),(b,u)] i>numAt #[(a,t),(b,u)] j),CmpOf.ints_gt (numAt #[(a,t),(b,u)]) (fun i v hv=>intItems_at (xs:=#[(a,t),(b,u)]) (by simpa [intItems] using hv)),?_⟩
 by_cases h:a<b
 ·simp[argBest,numAt,h]
 ·simp[argBest,numAt,h]
theorem bC{Q:Value->Shared->Prop}(H:ov A s.heap)
  (h:∀h' tk v,(∀c o,s.heap.get? c=some o->h'.get? c=some o)->v=(if a<b then Value.int b u else Value.int a t)->Q v {s with heap:=h',toks:=tk}) :
  wpAny (model prog w) A (call (.builtin "max") [.int a t,.int b u]) Q E s:=by
 have hT:(s.heap.push {cls:=.type "tuple",data:=.seq #[.int a t,.int b u]}).IsTuple s.heap.objs.size #[.int a t,.int b u]:=⟨_,hO _ rfl,rfl,0,rfl⟩
 refine call_max_two (kF hT ?_)
 obtain⟨bt,hc,hb⟩:=So (prog:=prog) (w:=w) (A:=A.in1) (a:=a) (b:=b) (t:=t) (u:=u)
 have nu:(s.heap.push {cls:=.type "tuple",data:=.seq #[.int a t,.int b u]}).objs.size=s.heap.objs.size+1:=i6 ..
 have oQ:∀b∈oE A,b<s.heap.objs.size:=H.lt
 refine⟨_,_,_,_,_,_,bt,rfl,OZ (A:=A.in1) _ s.heap.objs.size (by rw[nu];exact iV (iM _)) (fun hm=>?_) #[.int a t,.int b u],⟨⟨⟨_,hO _ rfl,rfl,rfl⟩,hT.push _⟩,H.in1.mono fun b o e=>gG _ (gG _ e)⟩,?_,jq _,hc,?_⟩
 ·have:=oQ _ hm
  rw[nu]at this
  exact absurd this (Nat.not_lt.mpr (iY _))
 ·intro c hc
  rw[i6,nu]
  rcases List.mem_cons.mp hc with rfl|hc
  ·rw[nu];exact iM _
  ·rcases List.mem_cons.mp hc with rfl|hc
   ·exact g6 (iM _)
   ·exact g6 (g6 (oQ _ hc))
 ·intro v h' tk hP hk
  refine h h' tk v (fun c o e=>hk c o (fun hm=>?_) (gG _ (gG _ e))) ?_
  ·rcases List.mem_cons.mp hm with e1|hm
   ·have:=g8 e
    rw[e1,nu]at this
    exact absurd this (Nat.not_lt.mpr (iY _))
   ·cases hm
  ·have ro:#[Value.int a t,Value.int b u][argBest bt 1]?=some v:=hP
   rw[hb]at ro
   by_cases h':a<b
   ·rw[iJ h']at ro ⊢;simp at ro;exact ro.symm
   ·rw[iI h']at ro ⊢;simp at ro;exact ro.symm
theorem Ug:∀i:Nat,i<10->Str.ofString (toString (i:Int))=sx [48+i]:=by decide +kernel
noncomputable def Jk:Nat->Value
 |0=>.builtin "len" | 1=>.builtin "abs" | 2=>.builtin "max" | 3=>.type "str" | _=>.type "range"
theorem rS{as:List V}{ws:List Value}{v:V}(r:Ar base lg as ws)(h:one as=some v):∃x,ws=[x]/\Aw base lg v x:=by
 replace r:=(bW h)▸r
 obtain⟨x,ws,rfl,h1,r⟩:=r.mO;obtain rfl:=r.nil_inv
 exact⟨x,rfl,h1⟩
theorem un2{as:List V}{ws:List Value}{p:V×V}(r:Ar base lg as ws)(h:two as=some p):∃x y,ws=[x,y]/\Aw base lg p.1 x/\Aw base lg p.2 y:=by
 rw[dB h]at r
 obtain⟨x,ws,rfl,h1,r⟩:=r.mO
 obtain⟨y,ws,rfl,h2,r⟩:=r.mO;obtain rfl:=r.nil_inv
 exact⟨x,y,rfl,h1,h2⟩
theorem un3{as:List V}{ws:List Value}{p:V×V×V}(r:Ar base lg as ws)(h:tY as=some p):∃x y z,ws=[x,y,z]/\Aw base lg p.1 x/\Aw base lg p.2.1 y/\Aw base lg p.2.2 z:=by
 rw[dv h]at r
 obtain⟨x,ws,rfl,h1,r⟩:=r.mO
 obtain⟨y,ws,rfl,h2,r⟩:=r.mO
 obtain⟨z,ws,rfl,h3,r⟩:=r.mO;obtain rfl:=r.nil_inv
 exact⟨x,y,z,rfl,h1,h2,h3⟩
theorem DX(r:Aw base lg v x)(h:Cy v=some i):∃t,x=.int i t:=by
 rw[Fb h]at r;exact r.mc
theorem VQ{as:List V}{ws:List Value}{Q:Ae}(I:Inv base K e m fr env lg μ s.heap)(r:Ar base lg as ws)(h:Qk as Q μ) :
  wpAny (model prog w) A (call (.type "range") ws) (AK base K e m fr env lg s (PV base Q)) E s:=by
 unfold Qk at h
 split at h
 ·obtain⟨v,e1,h⟩:=Aq h
  obtain⟨n,e2,h⟩:=Aq h
  obtain⟨b1,h⟩:=Ag h
  obtain⟨x,rfl,h1⟩:=rS r e1
  obtain⟨t,rfl⟩:=DX h1 e2
  exact call_range_1 (Gc I ⟨by decide,by decide,b1,by decide⟩ h)
 ·obtain⟨p,e1,h⟩:=Aq h
  obtain⟨i,e2,h⟩:=Aq h
  obtain⟨j,e3,h⟩:=Aq h
  obtain⟨b1,h⟩:=Ag h
  obtain⟨b2,h⟩:=Ag h
  obtain⟨x,y,rfl,h1,h2⟩:=un2 r e1
  obtain⟨t,rfl⟩:=DX h1 e2;obtain⟨u,rfl⟩:=DX h2 e3
  exact call_range_2 (Gc I ⟨by decide,b1,b2,by decide⟩ h)
 ·obtain⟨p,e1,h⟩:=Aq h
  obtain⟨i,e2,h⟩:=Aq h
  obtain⟨j,e3,h⟩:=Aq h
  obtain⟨k,e4,h⟩:=Aq h
  obtain⟨hc,h⟩:=Ag h
  obtain⟨b1,h⟩:=Ag h
  obtain⟨b2,h⟩:=Ag h
  obtain⟨hs,q⟩:=Ag h
  obtain⟨x,y,z,rfl,h1,h2,h3⟩:=un3 r e1
  obtain⟨t,rfl⟩:=DX h1 e2;obtain⟨u,rfl⟩:=DX h2 e3;obtain⟨v,rfl⟩:=DX h3 e4
  exact call_range_3 hc (Gc (tk:=s.toks) I ⟨hc,b1,b2,hs⟩ q) (.inl (J0 (iv hs (by decide))))
 ·exact h.elim
theorem ar{f:Nat}{as:List V}{ws:List Value}{Q:Ae}(H:ov A s.heap)(I:Inv base K e m fr env lg μ s.heap)(r:Ar base lg as ws)(h:dP f as Q μ) :
  wpAny (model prog w) A (call (Jk f) ws) (AK base K e m fr env lg s (PV base Q)) E s:=by
 have qy:lim=1000000:=rfl
 match f,h with
 |0,h=>
  obtain⟨v,e1,h⟩:=Aq h
  obtain⟨x,rfl,h1⟩:=rS r e1
  induction v using V.casesOn with
  |str l=>
   obtain⟨⟨t,rfl⟩,hl⟩:=h1.mi
   have:=hl.1
   exact PyProof.Rows.len_str (by rw[BA];exact Int.not_le.mpr (qq (mU _ _) (mm 1 1) (.num 9223372036854775808) mh (.num 1000000) mQ mh rfl (Int.ofNat_le.mpr (hM qy)) (Int.ofNat_le.mpr this))) (by rw[BA];exact AI I h)
  |lX n=>
   obtain⟨xs,hm,q⟩:=Aq h
   obtain⟨p,d,rfl,hr⟩:=h1.mB
   obtain⟨vs,k,hg,rfl,hl,hv,nu,nM⟩:=Cp I hr (Ba hm)
   exact PySem.Calls.call_len_list (A9 hg) (by exact qq3 (Int.ofNat_le.mpr (hM qy)) (Int.ofNat_le.mpr hl) (Int.ofNat_le.mpr (hM nu))) (by refine nu.symm▸?_;exact AI I q)
  |tup l=>
   obtain⟨p,o,vs,k,rfl,hk,hc,hd,hm,hr⟩:=h1.nP
   have e:l.length=vs.size:=by exact hr.1
   exact PyProof.Rows.len_tuple (GG I hk hc hd) (by exact qq3 (Int.ofNat_le.mpr (hM qy)) (Int.ofNat_le.mpr hm) (Int.ofNat_le.mpr (hM e.symm))) (by refine e▸?_;exact AI I h)
  |_=>exact h.elim
 |1,h=>
  obtain⟨v,e1,h⟩:=Aq h
  obtain⟨i,e2,h⟩:=Aq h
  obtain⟨x,rfl,h1⟩:=rS r e1
  obtain⟨t,rfl⟩:=DX h1 e2
  refine call_abs_int fun u tk=>?_
  have e:(if i<0 then -i else i)=(i.natAbs:Int):=by split<;>lia
  refine e.symm▸?_;exact AI I h
 |2,h=>
  obtain⟨p,e1,h⟩:=Aq h
  obtain⟨i,e2,h⟩:=Aq h
  obtain⟨j,e3,h⟩:=Aq h
  obtain⟨x,y,rfl,h1,h2⟩:=un2 r e1
  obtain⟨t,rfl⟩:=DX h1 e2;obtain⟨u,rfl⟩:=DX h2 e3
  refine bC H fun h' tk v hk hv=>?_
  cases hv
  refine AK.now (I.keeps hk) ⟨_,?_,h⟩
  split<;>exact .int _ _
 |3,h=>
  obtain⟨v,e1,h⟩:=Aq h
  obtain⟨i,e2,h⟩:=Aq h
  have h0:=(Ag h).1;have h:=(Ag h).2
  have qH:=(Ag h).1;have q:=(Ag h).2
  obtain⟨x,rfl,h1⟩:=rS r e1
  obtain⟨t,rfl⟩:=DX h1 e2
  obtain⟨k,rfl⟩:=gD h0
  refine P.str_of_int ?_ ?_
  ·have:k.log2<=k:=Nat.log2_le_self k
   simp;exact Int.ofNat_lt.mp (qq (mU _ _) (mm 1 1) (.num 1920) (mm 0 1) (.num 10) mQ mh rfl qH (Int.ofNat_le.mpr this))
  ·refine(Ug k (by exact Int.ofNat_lt.mp (mJ (mo _) (mm 0 1) (.num 10) (mm 0 1) (.num 10) rfl qH))).symm▸?_
   refine DA I ⟨by simp[lim],fun c hc=>?_⟩ q
   refine(List.mem_singleton.mp hc).symm▸?_;show 48+k<128;exact Int.ofNat_lt.mp (mJ (mo _) (.add (.add (.num 48) mh) (.num 1)) (.num 128) (mm 0 1) (.num 10) rfl qH)
 |4,h=>exact VQ I r h
theorem JF:∀{l:List Nat} {j:Int},(∀i:Nat,l[i]?≠some c)->AE c l j = -1
 |[],_,_=>rfl
 |x :: l,j,h=>by
  unfold AE
  rw[iI (fun q=>h 0 (by simp[q]))]
  exact JF fun i=>by have:=h (i+1);exact this
theorem PK:∀{j:Int} {i:Nat},l[i]?=some c->(∀k,k<i->l[k]?≠some c)->AE c l j=j+i:=by
 induction l with
 |nil=>intro j i h;exact Ao h
 |cons x l ih=>
  intro j i h n
  cases i with
  |zero=>exact(iJ (Option.some.inj h)).trans (lF j).symm
  |succ i=>
   refine(iI fun e=>n 0 (jq _) (congrArg some e)).trans ((ih (i:=i) h fun k hk=>n (k+1) (j4 hk)).trans ?_)
   rw[Int.add_assoc,Int.add_comm 1];rfl
theorem Xq(l:List Nat)(c:Nat):Txt.find (sx l) ⟨#[c]⟩=AE c l 0:=by
 have e:∀i,StrLaws.At (sx l) ⟨#[c]⟩ (sx l).length i↔l[i]?=some c:=fun i=>by
  have:=StrLaws.subAt_one (sx l) c i
  show(i+(⟨#[c]⟩:Str).length<=(sx l).length/\Builtin.Str.subAt (sx l) ⟨#[c]⟩ i=true)↔_
  simpa [sx] using this
 rcases find_whole (sx l) ⟨#[c]⟩ with⟨h,n⟩|⟨i,h,a,n⟩
 ·(refine h.symm▸?_;refine(JF fun i q=>n i ((e i).mpr q)).symm▸?_;rfl)
 ·rw[h,PK ((e i).mp a) fun k hk q=>n k hk ((e k).mpr q)];simp
theorem SO:∀ss:List (List Nat),Txt.join Str.empty (ss.map sx)=sx ss.flatten:=by
 intro ss
 have key:∀(ss:List (List Nat)) (acc:Array Nat),(ss.map sx).foldl (fun acc p=>acc++Str.empty.cps++p.cps) acc=acc++ss.flatten.toArray:=by
  intro ss
  induction ss with
  |nil=>intro acc;rfl
  |cons a r ih=>intro acc;rw[iZ,kY,ih];simp[sx,Str.empty]
 unfold Txt.join Builtin.Str.glued
 induction ss with
 |nil=>rfl
 |cons a r=>
  have:=key r a.toArray
  simp only[iZ,List.drop_succ_cons,List.drop_zero,List.headD_cons]
  show(⟨_⟩:Str)=_
  unfold sx at this ⊢
  rw[this];simp
theorem SN(ss:List (List Nat))(h:ss.flatten.length<=lim):JoinOk Str.empty (ss.map sx)=true:=by
 have key:∀(ss:List (List Nat)) (n:Nat),(ss.map sx).foldl (fun n p=>n+p.length+Str.empty.length) n=n+ss.flatten.length:=by
  intro ss
  induction ss with
  |nil=>intro n;rfl
  |cons a r ih=>intro n;(refine List.map_cons.symm▸?_;rewrite[kY];rewrite[ih]);simp[BA,show Str.empty.length=0 from rfl];exact jH (p9 (nC _ _ _) (.add (.add mj mE) nF) (.add mj (.add mE nF)) rfl) (p9 (nC _ _ _) (.add mj (.add mE nF)) (.add (.add mj mE) nF) rfl)
 unfold JoinOk Builtin.Str.tooLong
 rw[<- Array.foldl_toList,key]
 have:=Co
 lia
theorem Tr(q:BE (v :: l)=some ss):∃t pG,v=.str t/\BE l=some pG/\ss=t :: pG:=by
 induction v using V.casesOn with
 |str t=>
  obtain⟨pG,a,b⟩:=Option.map_eq_some_iff.mp (show(BE l).map (t :: ·)=some ss from q)
  exact⟨t,pG,rfl,a,b.symm⟩
 |_=>exact Ao q
theorem QB:∀{ss:List (List Nat)} {vs:List Value},BE l=some ss->Ar base lg l vs->∃k:List (Str×Tok),vs=strValues k/\k.map (·.1)=ss.map sx:=by
 induction l with
 |nil=>intro ss vs q r;obtain rfl:=Option.some.inj q;obtain rfl:=r.nil_inv;exact⟨[],rfl,rfl⟩
 |cons v l ih=>
  intro ss vs q r
  obtain⟨z,sB,rfl,hz,hr⟩:=r.mO
  obtain⟨t,pG,rfl,q',rfl⟩:=Tr q
  obtain⟨⟨u,rfl⟩,hk⟩:=hz.mi
  obtain⟨k,rfl,h2⟩:=ih q' hr
  exact⟨(sx t,u) :: k,rfl,congrArg (sx t :: ·) h2⟩
theorem Og:∀{p:List V×V},Ei xs=some p->xs=p.1++[p.2]:=by
 induction xs with
 |nil=>exact fun h=>Ao h
 |cons x r ih=>
  intro p h
  cases r with
  |nil=>obtain rfl:=Option.some.inj h;rfl
  |cons y r=>
   obtain⟨p',q,rfl⟩:=Option.map_eq_some_iff.mp (show(Ei (y :: r)).map (fun p=>(x :: p.1,p.2))=some p from h)
   exact congrArg (x :: ·) (ih q)
noncomputable def IB:Nat->String
 |0=>"list.append" | 1=>"list.pop" | 2=>"str.find" | 3=>"str.lower" | _=>"str.join"
theorem Rw{f:Nat}{o:V}{x:Value}{as:List V}{ws:List Value}{Q:Ae}(I:Inv base K e m fr env lg μ s.heap)(ho:Aw base lg o x)(r:Ar base lg as ws)(h:U8 o f as Q μ) :
  wpAny (model prog w) A (call (.builtin (IB f)) (x :: ws)) (AK base K e m fr env lg s (PV base Q)) E s:=by
 have qz:lim<=sizeLine:=Co
 induction o using V.casesOn with
 |lX n=>
  obtain⟨p,d,rfl,hr⟩:=ho.mB
  match f,h with
  |0,h=>
   obtain⟨v,e1,h⟩:=Aq h
   obtain⟨xs,hm,h⟩:=Aq h
   have oQ:=(Ag h).1;have q:=(Ag h).2
   obtain⟨y,rfl,h1⟩:=rS r e1
   obtain⟨vs,k,hg,rfl,hl,hv,nu,nM⟩:=Cp I hr (Ba hm)
   refine wpAny_list_append_plain ⟨k,hg⟩ (fun h' hp hs=>?_) (by exact qq4 qz hl (hM nu))
   obtain⟨k',g⟩:=hp
   have x1:Ext lg (lg.put p (listOf (vs.push y) k')):=Ext.nQ _ nM (.inl ⟨rfl,_,_,rfl⟩)
   exact AK.to (tk:=s.toks) (I.turn (o:=.list (xs++[v])) hr nM (.inl ⟨rfl,_,_,rfl⟩) hs g ⟨rfl,by simp;assumption,_,_,Lg.ma ..,by
    refine Array.toList_push.symm▸?_;exact(hv.append (Ar.cons h1 .nil)).mono x1⟩) x1 ⟨_,.none,q⟩
  |1,h=>
   have hn:=(A6 h).1;have h:=(A6 h).2
   obtain⟨xs1,hm,h⟩:=Aq h
   obtain⟨⟨xs,v⟩,hi,q⟩:=Aq h
   have hi:xs1=xs++[v]:=Og hi
   cases hi
   replace r:=(List.isEmpty_iff.mp hn)▸r
   cases r.nil_inv
   obtain⟨vs,k,hg,rfl,hl,hv,nu,nM⟩:=Cp I hr (Ba hm)
   have hlen:vs.size=xs.length+1:=by refine nu.symm▸?_;simp
   obtain⟨y,hy,hvy⟩:=hv.at (i:=xs.length) (v:=v) (by simp)
   have hy':vs[vs.size - 1]?=some y:=by(rewrite[hlen];refine iF▸?_);exact hy
   have e:(vs.eraseIdxIfInBounds (vs.size - 1)).toList=vs.toList.take xs.length:=by
    refine hlen.symm▸?_
    simp[Array.eraseIdxIfInBounds,hlen]
    rw[List.eraseIdx_eq_take_drop_succ]
    simp[hlen]
   obtain⟨lZ,I',x⟩:=FQ (f:=fun z=>z.eraseIdxIfInBounds (vs.size - 1)) I hr nM (xs:=xs) (by simp at hl;exact mP (mU _ _) mj mE (mu 0 1) mE rfl hl) (by
    refine e.symm▸?_;have:=hv.take xs.length;simpa using this)
   exact k8 PySem.F.slot_list_pop (A9 hg).typeIs PySem.F.entry_list_pop (PySem.F.args_list_pop_1 _) (PySem.MeetsSeq.list_pop_last p _ k y hy' (by exact qq4 qz hl (hM nu)))
    ⟨hg,AK.to I' x ⟨v,hvy.mono x,q⟩⟩
 |str l=>
  obtain⟨⟨t,rfl⟩,hl⟩:=ho.mi
  match f,h with
  |2,h=>
   obtain⟨v,e1,h⟩:=Aq h
   obtain⟨c,e2,h⟩:=Aq h
   obtain⟨y,rfl,h1⟩:=rS r e1
   replace h1:=(Kh e2)▸h1
   obtain⟨⟨u,rfl⟩,_⟩:=h1.mi
   refine SC.find ?_
   (refine(show sx [c]=⟨#[c]⟩from rfl).symm▸?_;rewrite[Xq])
   exact AI I h
  |3,h=>
   have hn:=(A6 h).1;have h:=(A6 h).2
   obtain⟨c,e2,h⟩:=Aq h
   have h1:=(Ag h).1;have h:=(Ag h).2
   have h2:=(Ag h).1;have q:=(Ag h).2
   replace r:=(List.isEmpty_iff.mp hn)▸r
   cases r.nil_inv
   cases(show l=[c]from V.str.inj (Kh e2))
   have e:Txt.lower (sx [c])=sx [c+32]:=by
    rw[PyProof.Rows.lower_ascii (by simpa [sx] using hl.2)]
    have e1:PyProof.Rows.lo1 c=c+32:=iJ ⟨h1,h2⟩
    simp[sx,e1]
   refine SC.lower ?_ ?_
   ·refine e.symm▸?_;rfl
   ·refine e.symm▸?_;exact DA I ⟨by simp[lim],fun z hz=>by refine(List.mem_singleton.mp hz).symm▸?_;exact mP (mo _) (.add (mu 0 32) (.num 1)) (.num 128) mj (.num 90) rfl h2⟩ q
  |4,h=>
   have hn:=(A6 h).1;have h:=(A6 h).2
   cases List.isEmpty_iff.mp hn
   obtain⟨v,e1,h⟩:=Aq h
   obtain⟨y,rfl,h1⟩:=rS r e1
   induction v using V.casesOn with
   |lX n=>
    obtain⟨xs,hm,h⟩:=Aq h
    obtain⟨ss,hss,h⟩:=Aq h
    have hlen:=(Ag h).1;have q:=(Ag h).2
    obtain⟨p,d,rfl,hr⟩:=h1.mB
    obtain⟨vs,k,hg,rfl,hl,hv,nu,nM⟩:=Cp I hr (Ba hm)
    obtain⟨ks,e1,e2⟩:=QB hss hv
    have r9:=(Gg hss hv).2
    refine SC.join (l:=ks) (texts:=ss.map sx) (x:=sx []) ?_ e2 (SN ss hlen) fun t' k=>?_
    ·refine e1▸?_;simpa using A9 hg
    ·(refine(show sx []=Str.empty from rfl).symm▸?_;rewrite[SO])
     exact DA I ⟨hlen,fun c hc=>by obtain⟨l,h1,h2⟩:=List.mem_flatten.mp hc;exact(r9 l h1).2 c h2⟩ q
   |_=>exact h.elim
 |_=>exact h.elim
end
def tF(o:Obj):Prop:=pC o/\(o.cls=.type "tuple"\/o.cls=.type "range"\/∃C,o.cls=.ref C)
structure G1(lg lZ:Lg):Prop where
 oq:∀a o,tF o->lg.led a=some o->lZ.led a=some o
 mw:∀(n:Nat) (p:Addr×Addr),lg.mw[n]?=some p->lZ.mw[n]?=some p
theorem Ext.v(x:Ext lg lZ):G1 lg lZ:=⟨fun a o i h=>x.oq a o i.1 h,x.mw⟩
theorem Aw.mL(x:G1 lg lZ)(h:Aw base lg v w):Aw base lZ v w:=by
 induction h with
 |none=>exact .none
 |bool b=>exact .bool b
 |int i t=>exact .int i t
 |str s t hl=>exact .str s t hl
 |tup l a o vs n hk hc hd hl hm _ ih=>exact .tup l a o vs n ⟨hk.1,hk.2.imp (x.oq a o ⟨hk.1,.inl hc⟩) id⟩ hc hd hl hm ih
 |mN l a o vs n hk hc hd hl hm _ ih=>exact .mN l a o vs n hk hc hd hl hm ih
 |range lo hi st a t1 t2 t3 hk hr=>exact .range lo hi st a t1 t2 t3 ⟨hk.1,hk.2.imp (x.oq a _ ⟨hk.1,.inr (.inl rfl)⟩) id⟩ hr
 |lX n a d h=>exact .lX n a d (x.mw n _ h)
theorem Ar.mL(x:G1 lg lZ)(h:Ar base lg l vs):Ar base lZ l vs:=⟨h.1,fun i v w a b=>(h.2 i v w a b).mL x⟩
theorem D3.mL(x:G1 lg lZ)(h:D3 base lg fs es):D3 base lZ fs es:=by
 induction h with
 |nil=>exact .nil
 |cons a v fs hs t w es ha hv _ ih=>exact .cons a v fs hs t w es ha (hv.mL x) ih
theorem No.mL(x:G1 lg lZ){f:Int->Option Value}(h:No base lg kv f):No base lZ kv f:=
 fun k=>(h k).imp id fun nS=>by obtain⟨v,w,a,b,c⟩:=nS;exact⟨v,w,a,b,c.mL x⟩
section
variable{base:Heap}{K:Frag}{e e':Env}{m m':Str->Option Value}{fr:List oa}{env env':An}{lg lZ:Lg}{μ:MH}{h h':Heap}
theorem Gm.mL(q:G1 lg lZ)(hd:∀o,lg.led d=some o->lZ.led d=some o)(h:Gm base K lg a d o):Gm base K lZ a d o:=by
 cases o with
 |list xs=>obtain⟨e,hm,vs,k,a1,a4⟩:=h;exact⟨e,hm,vs,k,hd _ a1,a4.mL q⟩
 |inst c fs=>obtain⟨hc,C,c1,c2,c3,es,k,c4,c5⟩:=h;exact⟨hc,C,c1,q.oq _ _ ⟨⟨by simp,by simp,by simp⟩,.inr (.inr ⟨C,rfl⟩)⟩ c2,c3,es,k,hd _ c4,c5.mL q⟩
 |dict kv=>obtain⟨e,o,a1,a2,es,k,a3,a4,a5,a6⟩:=h;exact⟨e,o,hd _ a1,a2,es,k,a3,a4,a5,a6.mL q⟩
theorem FO.mL(q:G1 lg lZ)(hc:∀a o,Da o->lg.led a=some o->lZ.led a=some o)
  (h:FO base e m lg x v):FO base e m lZ x v:=by
 refine⟨h.1,h.2.imp (fun nS=>by obtain⟨a,w,b,c⟩:=nS;exact⟨a,w,b,c.mL q⟩) fun nS=>by obtain⟨a,ca,o,w,b,c,d,f⟩:=nS;exact⟨a,ca,o,w,b,hc _ _ ⟨_,d⟩ c,d,f.mL q⟩⟩
theorem Gm.nR(h:Gm base K lg a d o):∃ob,lg.led d=some ob/\¬pC ob:=by
 induction o with
 |list xs=>obtain⟨_,_,_,_,a1,_⟩:=h;exact⟨_,a1,fun i=>i.1 rfl⟩
 |inst c fs=>obtain⟨_,_,_,_,_,es,k,a1,_⟩:=h;exact⟨_,a1,fun i=>i.2.1 _ _ rfl⟩
 |dict kv=>obtain⟨_,ob,a1,_,es,k,a3,_⟩:=h;exact⟨ob,a1,fun i=>i.2.1 _ _ a3⟩
theorem Inv.stores(I:Inv base K e m fr env lg μ h){p:Addr×Addr}(hp:p∈lg.mw):∃ob,lg.led p.2=some ob/\¬pC ob:=by
 obtain⟨n,hn⟩:=List.mem_iff_getElem?.mp hp
 have uP:n<μ.length:=by refine I.heap.len▸?_;exact(List.getElem?_eq_some_iff.mp hn).1
 obtain⟨a,d,h1,h2⟩:=I.heap.each n _ (gW uP)
 obtain rfl:=same hn h1
 exact h2.nR
theorem Inv.swap(I:Inv base K e m fr env lg μ h)(hl:lg.led a=some o)(hi:pC o)(nv:¬tF o)(k:∀b p,b≠a->h.get? b=some p->h'.get? b=some p)(g:h'.get? a=some o') :
  Inv base K e m fr env (lg.put a o') μ h':=by
 have hb:=(I.led a o hl).2
 have nL:e.locals≠a:=by rintro rfl;exact AM I.mH hl
 have x:G1 lg (lg.put a o'):=⟨fun b p v q=>by
  by_cases z:b=a
  ·subst z;obtain rfl:=same hl q;exact absurd v nv
  ·refine(Lg.l9 _ _ z).symm▸?_;exact q,fun _ _ q=>q⟩
 have o8:∀b p,¬pC p->lg.led b=some p->(lg.put a o').led b=some p:=fun b p n q=>by
  rw[Lg.l9];exact q
  rintro rfl;replace q:=hl▸q;obtain rfl:=Option.some.inj q;exact n hi
 have oz:∀{p:Obj},Da p->¬pC p:=fun nS i=>by obtain⟨v,q⟩:=nS;exact i.2.2 v q
 refine⟨fun b p q=>k b p (fun z=>by(rw[z]at q;replace q:=hb▸q);exact Ao q) (I.old b p q),?_,I.nG,by refine(Lg.l9 _ _ nL).symm▸?_;exact I.mH,fun b p q=>?_,fun f hf=>?_,I.dist,I.apart,fun y v q ss=>(I.vars y v q ss).mL x fun b p c z=>o8 b p (oz c) z,I.heap.len,I.heap.nodup,fun n p q=>?_⟩
 ·obtain⟨on,es,ep,q1,q2⟩:=I.ns
  exact⟨on,es,ep,k _ _ nL q1,q2⟩
 ·by_cases z:b=a
  ·subst z;rw[Lg.ma]at q;obtain rfl:=Option.some.inj q;exact⟨g,hb⟩
  ·replace q:=(Lg.l9 _ _ z)▸q
   exact⟨k b p z (I.led b p q).1,(I.led b p q).2⟩
 ·obtain⟨⟨p,a1,a2⟩,a3⟩:=I.frames f hf
  refine⟨⟨p,o8 _ _ (fun i=>?_) a1,a2⟩,fun c q z=>⟨o8 _ _ (oz (a3 c q z).2) (a3 c q z).1,(a3 c q z).2⟩⟩
  obtain⟨es,ep,d,_⟩:=a2
  exact i.2.1 _ _ d
 ·obtain⟨a',d,a1,a2⟩:=I.heap.each n p q
  refine⟨a',d,a1,a2.mL x fun ob z=>?_⟩
  obtain⟨qW,z',n'⟩:=a2.nR
  obtain rfl:=same z' z
  exact o8 _ _ n' z'
theorem Ext.qP{lg lZ:Lg}(x:Ext lg lZ)(o:Obj)(q:lg.led a=none):Ext lg (lZ.put a o):=by
 have ne:∀b p,lg.led b=some p->b≠a:=fun b p e z=>by(rw[z]at e;replace e:=q▸e);exact Ao e
 refine⟨fun b p i e=>?_,fun b p c e=>?_,x.mw⟩
 ·exact(Lg.l9 _ _ (ne b p e)).trans (x.oq b p i e)
 ·obtain⟨o',c',e'⟩:=x.cell b p c e
  exact⟨o',c',by exact(Lg.l9 _ _ (ne b p e)).trans (e')⟩
open Classical in
noncomputable def AU(env:An)(e:Env)(lg:Lg):Addr->Option Obj:=fun a=>
 if ∃x v,x<Bg.length/\env x=some v/\e.kindOf (nm x)=some .cell/\e.cells.lookup (nm x)=some a then lg.led a else none
theorem Inv.switch{cs:Addr->Option Obj}(I:Inv base K e m fr env lg μ h)(hcs:∀a o,cs a=some o->AU env e lg a=some o)(ns:h.Ns e'.locals m')(nb:base.get? e'.locals=none)(nl:lg.led e'.locals=none)(ne:e'.locals≠e.locals)
  (nf:∀f∈fr,f.env.locals≠e'.locals) (vars:∀lZ,Ext lg lZ->(∀a o,lg.led a=some o->lZ.led a=some o)->∀x v,env' x=some v->R6 e' x->FO base e' m' lZ x v) :
  ∃oL,Inv base K e' m' (⟨e,m,cs⟩ :: fr) env' (lg.put e.locals oL) μ h/\Ext lg (lg.put e.locals oL):=by
 obtain⟨oL,g,oZ⟩:=H6.of I.ns
 have x:Ext lg (lg.put e.locals oL):=Ext.mI _ I.mH
 have keep:∀a o,lg.led a=some o->(lg.put e.locals oL).led a=some o:=fun a o q=>by
  rw[Lg.l9];exact q
  rintro rfl;exact AM I.mH q
 refine⟨oL,⟨I.old,ns,nb,by refine(Lg.l9 _ _ ne).symm▸?_;exact nl,fun b p q=>?_,fun f hf=>?_,?_,fun f hf p hp=>?_,vars _ x keep,I.heap.len,I.heap.nodup,fun n p q=>?_⟩,x⟩
 ·by_cases z:b=e.locals
  ·subst z;rw[Lg.ma]at q;obtain rfl:=Option.some.inj q;exact⟨g,I.nG⟩
  ·replace q:=(Lg.l9 _ _ z)▸q;exact I.led b p q
 ·rcases List.mem_cons.mp hf with rfl|hf
  ·refine⟨⟨oL,Lg.ma ..,oZ⟩,fun a o q=>?_⟩
   have q:AU env e lg a=some o:=hcs a o q
   unfold AU at q
   split at q
   ·rename_i hx
    obtain⟨y,v,h0,h1,h2,h3⟩:=hx
    have hv:=(I.vars y v h1 ⟨h0,.inr h2⟩).2
    rcases hv with⟨z,_⟩|⟨_,ca,oc,w,z1,z2,z4,_⟩
    ·replace z:=h2▸z;exact nomatch z
    ·obtain rfl:=same h3 z1
     obtain rfl:=same z2 q
     exact⟨keep _ _ z2,_,z4⟩
   ·exact Ao q
  ·obtain⟨⟨p,a1,a2⟩,a3⟩:=I.frames f hf
   exact⟨⟨p,keep _ _ a1,a2⟩,fun c o q=>⟨keep _ _ (a3 c o q).1,(a3 c o q).2⟩⟩
 ·have d:=I.dist
  simp only[iZ,jI,hH,lC,not_or]at d ⊢
  refine⟨⟨ne,?_⟩,d⟩
  rintro⟨f,hf,q⟩
  exact nf f hf q
 ·rcases List.mem_cons.mp hf with rfl|hf
  ·intro z
   obtain⟨ob,q,_⟩:=I.stores hp
   (replace q:=(z).symm▸q;replace q:=I.mH▸q);exact Ao q
  ·exact I.apart f hf p hp
 ·obtain⟨a',d,a1,a2⟩:=I.heap.each n p q
  exact⟨a',d,a1,a2.mono x fun ob z=>keep _ _ z⟩
noncomputable def Lg.drop(lg:Lg)(a:Addr):Lg:={lg with led:=fun b=>if b=a then none else lg.led b}
theorem Inv.back{rK:Lg}{f:oa}(I:Inv base K e' m' (f :: fr) env' lg μ h)(x0:Ext rK lg)(n0:rK.led f.env.locals=none)(hc:∀a o,AU env f.env rK a=some o->f.cells a=some o)
  (vars:∀x v,env x=some v->R6 f.env x->FO base f.env f.m rK x v) :
  Inv base K f.env f.m fr env (lg.drop f.env.locals) μ h/\Ext rK (lg.drop f.env.locals):=by
 obtain⟨⟨oL,g1,g2⟩,g3⟩:=I.frames f (.head _)
 have g:=I.led _ _ g1
 have ne:∀a o,a≠f.env.locals->lg.led a=some o->(lg.drop f.env.locals).led a=some o:=fun a o n q=>by unfold Lg.drop;dsimp only;exact(iI n).trans (q)
 have x:Ext rK (lg.drop f.env.locals):=⟨fun a o i q=>ne a o (by rintro rfl;exact AM n0 q) (x0.oq a o i q),fun a o c q=>by obtain⟨o',c',q'⟩:=x0.cell a o c q;exact⟨o',c',ne a o' (by rintro rfl;exact AM n0 q) q'⟩,x0.mw⟩
 obtain⟨es,ep,hd,_⟩:=id g2
 have xv:G1 lg (lg.drop f.env.locals):=⟨fun a o i q=>ne a o (by rintro rfl;replace q:=g1▸q;obtain rfl:=Option.some.inj q;exact i.1.2.1 _ _ hd) q,fun _ _ q=>q⟩
 have qe:∀a o,lg.led a=some o->Da o->a≠f.env.locals:=fun a o q c=>by
  rintro rfl;obtain rfl:=same g1 q;obtain⟨v,c⟩:=c;replace c:=hd▸c;exact nomatch c
 have dd:=I.dist
 simp only[iZ,jI,hH,lC,not_or]at dd
 refine⟨⟨I.old,g2.ns g.1,g.2,by unfold Lg.drop;simp,fun b p q=>?_,fun f' hf=>?_,?_,fun f' hf p hp=>I.apart f' (gA _ hf) p hp,fun y v q ss=>?_,I.heap.len,I.heap.nodup,fun n p q=>?_⟩,x⟩
 ·unfold Lg.drop at q;dsimp only at q;split at q
  ·exact Ao q
  ·exact I.led b p q
 ·obtain⟨⟨p,a1,a2⟩,a3⟩:=I.frames f' (gA _ hf)
  refine⟨⟨p,ne _ _ (fun z=>dd.2.1 ⟨f',hf,z⟩) a1,a2⟩,fun c o q=>⟨ne _ _ (qe _ _ (a3 c o q).1 (a3 c o q).2) (a3 c o q).1,(a3 c o q).2⟩⟩
 ·simp only[jI,lC]
  exact dd.2
 ·have a:=(vars y v q ss).1;have hv:=(vars y v q ss).2
  refine⟨a,hv.imp (fun⟨z,w,z1,z2⟩=>⟨z,w,z1,z2.mono x⟩) fun⟨z,ca,o,w,z1,z2,z4,z5⟩=>⟨z,ca,o,w,z1,?_,z4,z5.mono x⟩⟩
  have q1:AU env f.env rK ca=some o:=by unfold AU;exact(iJ ⟨y,v,a,q,z,z1⟩).trans (z2)
  have q2:=g3 ca o (hc _ _ q1)
  exact ne _ _ (qe _ _ q2.1 q2.2) q2.1
 ·obtain⟨a',d,a1,a2⟩:=I.heap.each n p q
  refine⟨a',d,a1,a2.mL xv fun ob z=>ne _ _ (fun y=>?_) z⟩
  exact I.apart f (.head _) (a',d) (jn a1) y.symm
end
def E8(K:Frag)(c:Nat)(C:Addr):Prop:=nsIn K mainGlobals (Str.ofString (EL c))=some (some (.ref C))
inductive Wy(base:Heap)(K:Frag)(FA:Nat->Addr):Prop
 |mk (mg mb:Str->Option Value) (n1:base.Ns mainGlobals mg) (n2:base.Ns builtinsNs mb)
  (n3:∀x v,lY x=some v->∃w,mg (nm x)=some w/\∀lg,Aw base lg v w)
  (n4:∀f,Oj f=true->mg (nm f)=some (.ref (FA f))/\keepIn K (.ref (FA f))=true)
  (n5:∀i,i<5->mg (Str.ofString (HQ i))=none/\mb (Str.ofString (HQ i))=some (Jk i))
  (n6:∀c,1<=c->c<=3->∃C,E8 K c C/\mg (Str.ofString (EL c))=some (.ref C))
structure Tz(base:Heap)(K:Frag)(FA:Nat->Addr):Prop where
 pY:K.In base
 qk:base.NoLimit
 cls:ub K
 names:Wy base K FA
structure QQ(e:Env)(sc:Sc):Prop where
 kind:e.scope.kind=.function
 globals:e.globals=mainGlobals
 builtins:e.builtins=builtinsNs
 lX:∀n,sc.lookup n=some .local->e.kindOf n=some .local
 cell:∀n,sc.lookup n=some .cell\/sc.lookup n=some .free->e.kindOf n=some .cell
 lY:∀n,sc.lookup n=some .globalImplicit->e.kindOf n=some .globalImplicit
structure KZ(e:Env)(sc:Sc)(fr:List oa)(lg:Lg):Prop where
 apart:∀n ca,sc.lookup n=some .cell->e.cells.lookup n=some ca->∀f∈fr,f.cells ca=none
 inj:∀n n' ca,e.cells.lookup n=some ca->e.cells.lookup n'=some ca->n=n'
 led:∀n,sc.lookup n=some .cell\/sc.lookup n=some .free->∃ca o,e.cells.lookup n=some ca/\Da o/\lg.led ca=some o
theorem KZ.mono{e:Env}(x:Ext lg lZ)(O:KZ e sc fr lg):KZ e sc fr lZ:=
 ⟨O.apart,O.inj,fun n h=>by obtain⟨ca,o,a,b,c⟩:=O.led n h;obtain⟨o',b',c'⟩:=x.cell ca o b c;exact⟨ca,o',a,b',c'⟩⟩
def HL(A:Around)(base:Heap)(lg:Lg):Prop:=A.handled=none\/∃a o arr,A.handled=some (.ref a)/\Kn base lg a o/\o.data=.fields arr/\arr[2]?=some .none
theorem HL.mono(x:Ext lg lZ)(H:HL A base lg):HL A base lZ:=
 H.imp id fun nS=>by obtain⟨a,o,arr,e,k,r⟩:=nS;exact⟨a,o,arr,e,x.kn k,r⟩
inductive ud(base:Heap)(lg:Lg)(h:Heap)(L a:Addr)(vs:Array Value):Prop
 |mk (T:Addr) (oT:Obj) (ts:Array Value) (h1:vs[1]?=some (.ref T)) (bT:base.get? T=none) (lT:lg.led T=none) (Ta:T≠a) (TL:T≠L) (gT:h.get? T=some oT) (dT:oT.data=.fields ts) (hz:3<ts.size)
def Zy(base:Heap)(lg:Lg)(h:Heap)(L a:Addr)(vs:Array Value):Prop:=vs[1]?=some .none\/ud base lg h L a vs
inductive FN(base:Heap)(K:Frag)(lg:Lg)(h:Heap)(L a:Addr)(r:Nat):Prop
 |mk (a1:base.get? a=none) (a2:lg.led a=none) (a3:a≠L) (o:Obj) (vs:Array Value) (C:Addr) (b1:h.get? a=some o) (b2:1<=r % 10) (b3:r % 10<=3) (b4:E8 K (r % 10) C) (b5:o.cls=.ref C) (b6:o.data=.fields vs) (b7:2<vs.size) (b8:r<10->vs[2]?=some .none) (b9:Zy base lg h L a vs)
inductive EP(base:Heap)(K:Frag)(e:Env)(m:Str->Option Value)(fr:List oa)(env:An)(lg:Lg)(s:Shared)(X:As)(v:Value)(s':Shared):Prop
 |mk (h':Heap) (tk:Nat) (lZ:Lg) (μ':MH) (a:Addr) (r:Nat) (e1:s'={s with heap:=h',toks:=tk}) (I:Inv base K e m fr env lZ μ' h') (x:Ext lg lZ) (ev:v=.ref a) (ex:FN base K lZ h' e.locals a r) (q:X r μ')
set_option genInjectivity false in
structure mn where
 pg:Program
 w:World
 A:Around
 base:Heap
 K:Frag
 e:Env
 fr:List oa
 sc:Sc
 Φ:Az
structure mn.H(S:mn)(lg:Lg):Prop where
 hl:HL S.A S.base lg
 own:KZ S.e S.sc S.fr lg
theorem mn.H.mono{S:mn}(H:S.H lg)(x:Ext lg lZ):S.H lZ:=⟨H.hl.mono x,H.own.mono x⟩
namespace mn
variable(S:mn)
noncomputable abbrev M:Model:=model S.pg S.w
abbrev I(m:Str->Option Value)(env:An)(lg:Lg)(μ:MH)(h:Heap):Prop:=Inv S.base S.K S.e m S.fr env lg μ h
noncomputable abbrev P{α:Type}(m:Str->Option Value)(env:An)(lg:Lg)(s:Shared)(P:Lg->MH->α->Prop)(a:α)(s':Shared):Prop:=AK S.base S.K S.e m S.fr env lg s P a s'
noncomputable abbrev X(m:Str->Option Value)(env:An)(lg:Lg)(s:Shared)(X:As)(v:Value)(s':Shared):Prop:=EP S.base S.K S.e m S.fr env lg s X v s'
def n9{α:Type}(t:Sem α)(m:Str->Option Value)(env:An)(lg:Lg)(μ:MH)(P:Lg->MH->α->Prop)(X:As):Prop:=
 ∀(s:Shared) (E:Value->Shared->Prop),S.I m env lg μ s.heap->S.H lg->(∀v s',S.X m env lg s X v s'->E v s')->wpAny S.M S.A t (S.P m env lg s P) E s
def SE(a:ME)(x:Expr):Prop:=∀m env lg μ Q X,we lY S.Φ env a Q X μ->S.n9 (eval x S.e) m env lg μ (PV S.base Q) X
def ST(a:ME)(x:Expr):Prop:=∀m env lg μ Q X,wt lY S.Φ env a Q X μ->S.n9 (isTrue x S.e (eval x S.e)) m env lg μ (PB Q) X
def SL(a:ME)(xs:List Expr):Prop:=∀m env lg μ Q X,wl lY S.Φ env a Q X μ->S.n9 (spliced (xs.map fun x=>(false,eval x S.e))) m env lg μ (PL S.base Q) X
end mn
theorem EP.trans{base:Heap}{K:Frag}{e:Env}{m:Str->Option Value}{fr:List oa}{env:An}{lg lZ:Lg}{s:Shared}{h':Heap}{tk:Nat}{X:As}{v:Value}{s':Shared}(x:Ext lg lZ)
  (h:EP base K e m fr env lZ {s with heap:=h',toks:=tk} X v s'):EP base K e m fr env lg s X v s':=by
 obtain⟨oW,rR,pz,om,a,r,rfl,I,y,z,z',z''⟩:=h
 exact⟨oW,rR,pz,om,a,r,rfl,I,x.trans y,z,z',z''⟩
theorem EP.none{base:Heap}{K:Frag}{e:Env}{m:Str->Option Value}{fr:List oa}{env:An}{lg:Lg}{s:Shared}{v:Value}{s':Shared}(h:EP base K e m fr env lg s (fun _ _=>False) v s'):False:=by
 obtain⟨_,_,_,_,_,_,_,_,_,_,_,q⟩:=h
 exact q
section
variable{S:mn}{m:Str->Option Value}{env:An}{lg:Lg}{μ:MH}
theorem mn.n9.then{α:Type}{t:Sem α}{P:Lg->MH->α->Prop}{X:As}{s:Shared}{E:Value->Shared->Prop}(d:S.n9 t m env lg μ P X)
  (I:S.I m env lg μ s.heap) (H:S.H lg) (hX:∀v s',S.X m env lg s X v s'->E v s') {k:α->Shared->Prop}
  (h:∀a qA μ₁ s₁,Ext lg qA->S.I m env qA μ₁ s₁.heap->S.H qA->P qA μ₁ a->(∀(β:Type) (P2:Lg->MH->β->Prop) b s',S.P m env qA s₁ P2 b s'->S.P m env lg s P2 b s')->
   (∀v s',S.X m env qA s₁ X v s'->E v s')->k a s₁) :
  wpAny S.M S.A t k E s:=by
 refine gJ (d s E I H hX) (fun a s₁ hp=>?_) fun _ _ z=>z
 obtain⟨h',tk,qA,μ₁,rfl,I₁,x,p⟩:=hp
 exact h a qA μ₁ _ x I₁ (H.mono x) p (fun β P2 b s' z=>z.trans x) (fun v s' z=>hX v s' (z.trans x))
end
def O3(A:Around)(e:Env)(fr:List oa):Prop:=
 ∃l,A.frames=some l/\∀x∈l,(x=e\/∃f∈fr,f.env=x)/\x.frame=some x.locals/\x.scope.kind≠.module
def mn.Calls(S:mn)(FA:Nat->Addr):Prop:=∀f as ws,Oj f=true->∀m env lg μ Q X,Ar S.base lg as ws->S.Φ f as Q X μ->S.n9 (call (.ref (FA f)) ws) m env lg μ (PV S.base Q) X
structure Bi(S:mn)(FA:Nat->Addr)(j:Nat):Prop where
 base:Tz S.base S.K FA
 env:QQ S.e S.sc
 units:S.A.units+16*j+16<cLine
 frames:O3 S.A S.e S.fr
 calls:∀e fr sc,O3 S.A e fr->({S with e:=e,fr:=fr,sc:=sc}:mn).Calls FA
section
variable{S:mn}{FA:Nat->Addr}{j:Nat}
theorem cQ:S.SE (.int i) (.Constant (.int i) k pos):=by
 intro m env lg μ Q X h s E I H hX
 exact wpAny_Constant_int (AI I (show Q (.int i) μ from h))
theorem cT(hl:pZ t):S.SE (.str t) (.Constant (.str (sx t)) k pos):=by
 intro m env lg μ Q X h s E I H hX
 exact wpAny_Constant_str (DA I hl (show Q (.str t) μ from h))
theorem RO:S.SE (.bool b) (.Constant (.bool b) k pos):=by
 intro m env lg μ Q X h s E I H hX
 exact wpAny_Constant_bool (S6 I (show Q (.bool b) μ from h))
theorem YZ:S.SE .none (.Constant .none k pos):=by
 intro m env lg μ Q X h s E I H hX
 exact lS (AK.here I ⟨_,.none,(show Q .none μ from h)⟩)
theorem Ll{h:Heap}{o:Obj}(g:h.get? ca=some o)(d:o.data=.cell v):h.IsCell ca v:=⟨o,g,d⟩
theorem cS(G:Bi S FA j)(s7:x<Bg.length)(hn:n=nm x)(hl:UK S.sc n=true)(hd:(n==("__debug__":Str))=false):S.SE (.lX x) (.Name n pos):=by
 intro m env lg μ Q X h s E I H hX
 obtain⟨v,hv,q⟩:=Aq h
 subst hn
 have sees:R6 S.e x:=by
  unfold UK at hl
  split at hl
  ·exact⟨s7,.inl (G.env.lX _ (by assumption))⟩
  ·exact⟨s7,.inr (G.env.cell _ (.inl (by assumption)))⟩
  ·exact⟨s7,.inr (G.env.cell _ (.inr (by assumption)))⟩
  ·exact Dd hl
 have hx:=(I.vars x v hv sees).2
 refine wpAny_Name ?_ hd
 rcases hx with⟨hk,w,hw,r⟩|⟨hk,ca,o,w,hc,hl,c2,r⟩
 ·exact jE G.env.kind hk I.ns hw (AK.here I ⟨v,r,q⟩)
 ·exact wpAny_loadName_cell G.env.kind hk hc (Ll (I.led _ _ hl).1 c2) (AK.here I ⟨v,r,q⟩)
theorem CN{base h:Heap}{m:Str->Option Value}(n:base.Ns a m)(k:base.StaysIn h):h.Ns a m:=n.keeps k
theorem YW(G:Bi S FA j)(hn:n=nm x)(hg:S.sc.lookup n=some .globalImplicit)(hd:(n==("__debug__":Str))=false):S.SE (.lY x) (.Name n pos):=by
 intro m env lg μ Q X h s E I H hX
 obtain⟨v,hv,q⟩:=Aq h
 subst hn
 obtain⟨mg,mb,n1,n2,n3,_⟩:=G.base.names
 obtain⟨w,hw,r⟩:=n3 x v hv
 exact iB G.env.kind (G.env.lY _ hg) (jx (by refine G.env.globals.symm▸?_;exact CN n1 I.old) hw (AK.here I ⟨v,r lg,q⟩)) hd
theorem cM(ha:S.SE a l)(hb:S.SE b r):S.SE (.bin op a b) (.BinOp l op r pos):=by
 intro m env lg μ Q X h s E I H hX
 refine wpAny_BinOp ((ha _ _ _ _ _ _ h).then I H hX fun u mD μ1 s1 x1 I1 H1 p1 k1 mK=>?_)
 obtain⟨uv,ru,q⟩:=p1
 refine(hb _ _ _ _ _ _ q).then I1 H1 mK fun v mV μ2 s2 x2 I2 H2 p2 k2 pi=>?_
 obtain⟨vv,rv,q⟩:=p2
 exact gJ (am I2 (ru.mono x2) rv q) (fun _ _ z=>k1 _ _ _ _ (k2 _ _ _ _ z)) fun _ _ z=>z
theorem fK(ha:S.SE a l):S.SE (.un op a) (.UnaryOp op l pos):=by
 intro m env lg μ Q X h s E I H hX
 refine wpAny_UnaryOp ?_
 induction op with
 |Not=>
  refine(ha _ _ _ _ _ _ h).then I H hX fun u mD μ1 s1 x1 I1 H1 p1 k1 mK=>?_
  obtain⟨uv,ru,q⟩:=p1
  obtain⟨b,hb,q⟩:=Aq q
  exact not_of (GZ ru hb (k1 _ _ _ _ (AK.here I1 ⟨_,.bool _,q⟩)))
 |Invert=>
  refine(ha _ _ _ _ _ _ h).then I H hX fun u mD μ1 s1 x1 I1 H1 p1 k1 mK=>?_
  obtain⟨uv,ru,q⟩:=p1
  exact gJ (Wt I1 ru q fun _ z=>z) (fun _ _ z=>k1 _ _ _ _ z) fun _ _ z=>z
 |USub=>
  refine(ha _ _ _ _ _ _ h).then I H hX fun u mD μ1 s1 x1 I1 H1 p1 k1 mK=>?_
  obtain⟨uv,ru,q⟩:=p1
  exact gJ (Wt I1 ru q fun _ z=>z) (fun _ _ z=>k1 _ _ _ _ z) fun _ _ z=>z
 |UAdd=>
  refine(ha _ _ _ _ _ _ h).then I H hX fun u mD μ1 s1 x1 I1 H1 p1 k1 mK=>?_
  obtain⟨uv,ru,q⟩:=p1
  exact gJ (Wt I1 ru q fun _ z=>z) (fun _ _ z=>k1 _ _ _ _ z) fun _ _ z=>z
end
section
variable{S:mn}{FA:Nat->Addr}{j:Nat}
theorem Bi.u8(G:Bi S FA j):S.A.units+8<cLine:=by have:=G.units;lia
theorem cP(G:Bi S FA j)(ha:S.SE a l)(hb:S.SE b r)(hm:behindInMarks op r=false):S.SE (.cmp a op b) (.Compare l [op] [r] pos):=by
 intro m env lg μ Q X h s E I H hX
 refine wpAny_Compare1 ((ha _ _ _ _ _ _ h).then I H hX fun u mD μ1 s1 x1 I1 H1 p1 k1 mK=>?_) hm
 obtain⟨uv,ru,q⟩:=p1
 refine(hb _ _ _ _ _ _ q).then I1 H1 mK fun v mV μ2 s2 x2 I2 H2 p2 k2 pi=>?_
 obtain⟨vv,rv,q⟩:=p2
 obtain⟨c,hc,q⟩:=Aq q
 exact Hk I2 G.u8 (ru.mono x2) rv hc (k1 _ _ _ _ (k2 _ _ _ _ (AK.here I2 ⟨_,.bool c,q⟩)))
theorem dc(G:Bi S FA j)(ha:S.SE a l)(hb:S.SE b r)(hm:behindInMarks op r=false):S.ST (.cmp a op b) (.Compare l [op] [r] pos):=by
 intro m env lg μ Q X h s E I H hX
 refine wpAny_isTrue_Compare1 ((ha _ _ _ _ _ _ h).then I H hX fun u mD μ1 s1 x1 I1 H1 p1 k1 mK=>?_) hm
 obtain⟨uv,ru,q⟩:=p1
 refine(hb _ _ _ _ _ _ q).then I1 H1 mK fun v mV μ2 s2 x2 I2 H2 p2 k2 pi=>?_
 obtain⟨vv,rv,q⟩:=p2
 obtain⟨c,hc,q⟩:=Aq q
 exact Hk I2 G.u8 (ru.mono x2) rv hc (jA (k1 _ _ _ _ (k2 _ _ _ _ (AK.here I2 q))))
theorem YT(G:Bi S FA j)(ha:S.SE a l)(hb:S.SE b r1)(hc:S.SE c r2)(hm:lastMarks [o1,o2] [r1,r2]=false) :
  S.SE (.oA a o1 b o2 c) (.Compare l [o1,o2] [r1,r2] pos):=by
 intro m env lg μ Q X h s E I H hX
 refine Compare_chain ((ha _ _ _ _ _ _ h).then I H hX fun u mD μ1 s1 x1 I1 H1 p1 k1 mK=>?_) hm
 obtain⟨uv,ru,q⟩:=p1
 refine chain_link ((hb _ _ _ _ _ _ q).then I1 H1 mK fun v mV μ2 s2 x2 I2 H2 p2 k2 pi=>?_)
 obtain⟨vv,rv,q⟩:=p2
 obtain⟨c,uB,q⟩:=Aq q
 refine Hk I2 G.u8 (ru.mono x2) rv uB (jA ?_)
 induction c with
 |false=>exact k1 _ _ _ _ (k2 _ _ _ _ (AK.here I2 ⟨_,.bool _,q⟩))
 |true=>
  refine chain_last ((hc _ _ _ _ _ _ q).then I2 H2 pi fun w pk μ3 s3 x3 I3 H3 p3 k3 sN=>?_)
  obtain⟨wv,oG,q⟩:=p3
  obtain⟨d,hd,q⟩:=Aq q
  exact Hk I3 G.u8 (rv.mono x3) oG hd (k1 _ _ _ _ (k2 _ _ _ _ (k3 _ _ _ _ (AK.here I3 ⟨_,.bool d,q⟩))))
theorem Zd(G:Bi S FA j)(ha:S.SE a l)(hb:S.SE b r1)(hc:S.SE c r2)(hm:lastMarks [o1,o2] [r1,r2]=false) :
  S.ST (.oA a o1 b o2 c) (.Compare l [o1,o2] [r1,r2] pos):=by
 intro m env lg μ Q X h s E I H hX
 refine isTrue_chain ((ha _ _ _ _ _ _ h).then I H hX fun u mD μ1 s1 x1 I1 H1 p1 k1 mK=>?_) hm
 obtain⟨uv,ru,q⟩:=p1
 refine test_link ((hb _ _ _ _ _ _ q).then I1 H1 mK fun v mV μ2 s2 x2 I2 H2 p2 k2 pi=>?_)
 obtain⟨vv,rv,q⟩:=p2
 obtain⟨c,uB,q⟩:=Aq q
 refine Hk I2 G.u8 (ru.mono x2) rv uB (jA ?_)
 induction c with
 |false=>exact k1 _ _ _ _ (k2 _ _ _ _ (AK.here I2 q))
 |true=>
  refine test_last ((hc _ _ _ _ _ _ q).then I2 H2 pi fun w pk μ3 s3 x3 I3 H3 p3 k3 sN=>?_)
  obtain⟨wv,oG,q⟩:=p3
  obtain⟨d,hd,q⟩:=Aq q
  exact Hk I3 G.u8 (rv.mono x3) oG hd (jA (k1 _ _ _ _ (k2 _ _ _ _ (k3 _ _ _ _ (AK.here I3 q)))))
theorem cR(ht:S.ST t t')(ha:S.SE a a')(hb:S.SE b b'):S.SE (.ite t a b) (.IfExp t' a' b' pos):=by
 intro m env lg μ Q X h s E I H hX
 refine wpAny_IfExp ((ht _ _ _ _ _ _ h).then I H hX fun u mD μ1 s1 x1 I1 H1 p1 k1 mK=>?_)
 induction u with
 |true=>exact gJ (ha _ _ _ _ _ _ p1 _ _ I1 H1 mK) (fun _ _ z=>k1 _ _ _ _ z) fun _ _ z=>z
 |false=>exact gJ (hb _ _ _ _ _ _ p1 _ _ I1 H1 mK) (fun _ _ z=>k1 _ _ _ _ z) fun _ _ z=>z
theorem dh(ha:S.ST a l):S.ST (.un .Not a) (.UnaryOp .Not l pos):=by
 intro m env lg μ Q X h s E I H hX
 refine wpAny_isTrue_Not ((ha _ _ _ _ _ _ h).then I H hX fun u mD μ1 s1 x1 I1 H1 p1 k1 mK=>?_)
 exact k1 _ _ _ _ (AK.here I1 p1)
theorem rQ(ht:S.ST t t')(ha:S.ST a a')(hb:S.ST b b'):S.ST (.ite t a b) (.IfExp t' a' b' pos):=by
 intro m env lg μ Q X h s E I H hX
 refine gx ((ht _ _ _ _ _ _ h).then I H hX fun u mD μ1 s1 x1 I1 H1 p1 k1 mK=>?_)
 induction u with
 |true=>exact gJ (ha _ _ _ _ _ _ p1 _ _ I1 H1 mK) (fun _ _ z=>k1 _ _ _ _ z) fun _ _ z=>z
 |false=>exact gJ (hb _ _ _ _ _ _ p1 _ _ I1 H1 mK) (fun _ _ z=>k1 _ _ _ _ z) fun _ _ z=>z
theorem OO{x:Expr}(he:∀env A3,isTrue x env A3=(do let v <- A3;standAt x.pos;holding [v] (truthy v)))
  (hw:∀{Φ:Az} {env Q X μ},wt lY Φ env a Q X μ->we lY Φ env a (fun v μ'=>opt (D2 v) fun c=>Q c μ') X μ) (ha:S.SE a x):S.ST a x:=by
 intro m env lg μ Q X h s E I H hX
 refine wpAny_isTrue_value ((ha _ _ _ _ _ _ (hw h)).then I H hX fun u mD μ1 s1 x1 I1 H1 p1 k1 mK=>?_) (he _ _)
 obtain⟨uv,ru,q⟩:=p1
 obtain⟨c,hc,q⟩:=Aq q
 exact GZ ru hc (k1 _ _ _ _ (AK.here I1 q))
def mn.SB(S:mn)(op:BoolOp)(a:ME)(vs:List Expr):Prop:=∀m env lg μ Q X pos,we lY S.Φ env a Q X μ->S.n9 (boolOp pos op (evalEach vs S.e)) m env lg μ (PV S.base Q) X
def mn.TB(S:mn)(op:BoolOp)(a:ME)(vs:List Expr):Prop:=∀m env lg μ Q X,wt lY S.Φ env a Q X μ->S.n9 (allTrue op vs S.e) m env lg μ (PB Q) X
theorem V2(ha:S.SE a x):S.SB op a [x]:=fun m env lg μ Q X pos h=>ha m env lg μ Q X h
theorem Wo(ha:S.ST a x):S.TB op a [x]:=by
 intro m env lg μ Q X h s E I H hX
 induction op with
 |And=>
  refine lH ((ha _ _ _ _ _ _ h).then I H hX fun u mD μ1 s1 x1 I1 H1 p1 k1 mK=>?_)
  cases u with
  |true=>exact wpAny_allTrue_And_nil (k1 _ _ _ _ (AK.here I1 p1))
  |false=>exact k1 _ _ _ _ (AK.here I1 p1)
 |Or=>
  refine lJ ((ha _ _ _ _ _ _ h).then I H hX fun u mD μ1 s1 x1 I1 H1 p1 k1 mK=>?_)
  cases u with
  |true=>exact k1 _ _ _ _ (AK.here I1 p1)
  |false=>exact wpAny_allTrue_Or_nil (k1 _ _ _ _ (AK.here I1 p1))
theorem V1(ha:S.SE a x)(hb:S.SB .And b (y :: r)):S.SB .And (.and a b) (x :: y :: r):=by
 intro m env lg μ Q X pos h s E I H hX
 refine gx ((ha _ _ _ _ _ _ h).then I H hX fun u mD μ1 s1 x1 I1 H1 p1 k1 mK=>?_)
 obtain⟨uv,ru,q⟩:=p1
 obtain⟨c,hc,q⟩:=Aq q
 refine gx (hV (gx (hW (GZ ru hc ?_))))
 induction c with
 |false=>exact gO (k1 _ _ _ _ (AK.here I1 ⟨uv,ru,q⟩))
 |true=>exact gJ (hb _ _ _ _ _ _ _ q _ _ I1 H1 mK) (fun _ _ z=>k1 _ _ _ _ z) fun _ _ z=>z
theorem Z3(ha:S.SE a x)(hb:S.SB .Or b (y :: r)):S.SB .Or (.or a b) (x :: y :: r):=by
 intro m env lg μ Q X pos h s E I H hX
 refine gx ((ha _ _ _ _ _ _ h).then I H hX fun u mD μ1 s1 x1 I1 H1 p1 k1 mK=>?_)
 obtain⟨uv,ru,q⟩:=p1
 obtain⟨c,hc,q⟩:=Aq q
 refine gx (hV (gx (hW (GZ ru hc ?_))))
 induction c with
 |true=>exact gO (k1 _ _ _ _ (AK.here I1 ⟨uv,ru,q⟩))
 |false=>exact gJ (hb _ _ _ _ _ _ _ q _ _ I1 H1 mK) (fun _ _ z=>k1 _ _ _ _ z) fun _ _ z=>z
theorem Wn(ha:S.ST a x)(hb:S.TB .And b (y :: r)):S.TB .And (.and a b) (x :: y :: r):=by
 intro m env lg μ Q X h s E I H hX
 refine lH ((ha _ _ _ _ _ _ h).then I H hX fun u mD μ1 s1 x1 I1 H1 p1 k1 mK=>?_)
 induction u with
 |true=>exact gJ (hb _ _ _ _ _ _ p1 _ _ I1 H1 mK) (fun _ _ z=>k1 _ _ _ _ z) fun _ _ z=>z
 |false=>exact k1 _ _ _ _ (AK.here I1 p1)
theorem Z6(ha:S.ST a x)(hb:S.TB .Or b (y :: r)):S.TB .Or (.or a b) (x :: y :: r):=by
 intro m env lg μ Q X h s E I H hX
 refine lJ ((ha _ _ _ _ _ _ h).then I H hX fun u mD μ1 s1 x1 I1 H1 p1 k1 mK=>?_)
 induction u with
 |true=>exact k1 _ _ _ _ (AK.here I1 p1)
 |false=>exact gJ (hb _ _ _ _ _ _ p1 _ _ I1 H1 mK) (fun _ _ z=>k1 _ _ _ _ z) fun _ _ z=>z
theorem LH(h:S.SB op a vs):S.SE a (.BoolOp op vs pos):=fun m env lg μ Q X q=>h m env lg μ Q X pos q
theorem LL(h:S.TB op a vs):S.ST a (.BoolOp op vs pos):=by
 intro m env lg μ Q X q s E I H hX
 exact wpAny_isTrue_BoolOp (h m env lg μ Q X q s E I H hX)
theorem cW:S.SL .nil []:=by
 intro m env lg μ Q X h s E I H hX
 exact kR (AK.here I ⟨[],.nil,show Q [] μ from h⟩)
theorem Y7(ha:S.SE a x)(hr:S.SL r xs):S.SL (.cons a r) (x :: xs):=by
 intro m env lg μ Q X h s E I H hX
 refine jV ((ha _ _ _ _ _ _ h).then I H hX fun u mD μ1 s1 x1 I1 H1 p1 k1 mK=>?_)
 obtain⟨uv,ru,q⟩:=p1
 refine(hr _ _ _ _ _ _ q).then I1 H1 mK fun v mV μ2 s2 x2 I2 H2 p2 k2 pi=>?_
 obtain⟨vs,rv,q⟩:=p2
 exact k1 _ _ _ _ (k2 _ _ _ _ (AK.here I2 ⟨_,.cons (ru.mono x2) rv,q⟩))
theorem Bf(xs:List Expr)(e:Env)(pos:Pos)(h:xs.all (fun x=>!EA x)=true):backTo pos (starEach xs e)=xs.map fun x=>(false,eval x e):=by
 induction xs with
 |nil=>rfl
 |cons x r ih=>
  have h:=BW h
  have e1:starEach (x :: r) e=(false,eval x e) :: starEach r e:=by
   have h1:=h.1
   clear h ih
   induction x using Expr.casesOn<;>first|rfl|exact nomatch h1
  refine e1.symm▸?_
  show(false,_) :: backTo pos (starEach r e)=_
  refine(ih h.2).symm▸?_;rfl
theorem YX{xs:List Expr}(hs:xs.all (fun x=>!EA x)=true)(ha:S.SL a xs):S.SE (.list a) (.List xs pos):=by
 intro m env lg μ Q X h s E I H hX
 (rewrite[arm_eval_List];refine(Bf xs S.e pos hs).symm▸?_)
 refine gx (hV (gx ((ha _ _ _ _ _ _ h).then I H hX fun u mD μ1 s1 x1 I1 H1 p1 k1 mK=>?_)))
 obtain⟨vs,rv,q⟩:=p1
 have hl:=(Ag q).1;have q:=(Ag q).2
 exact gJ (SP I1 rv hl q) (fun _ _ z=>k1 _ _ _ _ z) fun _ _ z=>z
theorem cV{xs:List Expr}(hs:xs.all (fun x=>!EA x)=true)(ha:S.SL a xs):S.SE (.tup a) (.Tuple xs k pos):=by
 intro m env lg μ Q X h s E I H hX
 (rewrite[arm_eval_Tuple];refine(Bf xs S.e pos hs).symm▸?_)
 refine gx (hV (gx ((ha _ _ _ _ _ _ h).then I H hX fun u mD μ1 s1 x1 I1 H1 p1 k1 mK=>?_)))
 obtain⟨vs,rv,q⟩:=p1
 have hl:=(Ag q).1;have q:=(Ag q).2
 exact gJ (QI I1 rv hl q) (fun _ _ z=>k1 _ _ _ _ z) fun _ _ z=>z
theorem QT(h:Jg o=true):attributeBase o a env w=w:=by
 induction o using Expr.casesOn with
 |Call f as kw p=>induction f using Expr.casesOn with
  |Name x p=>induction as using List.casesOn with
   |cons _ _=>rfl
   |nil=>induction kw using List.casesOn with
    |cons _ _=>rfl
    |nil=>exact nomatch h
  |_=>rfl
 |_=>rfl
theorem YR(G:Bi S FA j)(hn:n=nm a)(ha:a∈EJ)(hb:Jg o'=true)(ho:S.SE o o'):S.SE (.attr o a) (.Attribute o' n pos):=by
 intro m env lg μ Q X h s E I H hX
 subst hn
 rw[arm_eval_Attribute,QT hb]
 refine gx ((ho _ _ _ _ _ _ h).then I H hX fun u mD μ1 s1 x1 I1 H1 p1 k1 mK=>?_)
 obtain⟨uv,ru,q⟩:=p1
 obtain⟨v,hv,q⟩:=Aq q
 refine gx (hV (gx (hW (gJ (QS G.base.cls G.base.pY I1 ru ha hv q) (fun r s2 z=>?_) fun _ _ z=>z))))
 exact gx (wpAny_letTemporaryGo (gO (k1 _ _ _ _ z)))
theorem Kk(h:FB i'=true):subscripted i' false o i=operate [o,i] (getItem o i):=by
 induction i' using Expr.casesOn<;>first|rfl|exact nomatch h
theorem cU(hs:FB i'=true)(ho:S.SE o o')(hi:S.SE i i'):S.SE (.sub o i) (.Subscript o' i' pos):=by
 intro m env lg μ Q X h s E I H hX
 refine Subscript_ ((ho _ _ _ _ _ _ h).then I H hX fun u mD μ1 s1 x1 I1 H1 p1 k1 mK=>?_)
 obtain⟨uv,ru,q⟩:=p1
 refine(hi _ _ _ _ _ _ q).then I1 H1 mK fun v mV μ2 s2 x2 I2 H2 p2 k2 pi=>?_
 obtain⟨vv,rv,q⟩:=p2
 obtain⟨z,hz,q⟩:=Aq q
 rw[IL]at hz
 have it:=Wi (prog:=S.pg) (w:=S.w) (A:=S.A) (E:=E) I2 (ru.mono x2) rv hz q
 exact RW ⟨it.how,gJ it.rT (fun _ _ z=>k1 _ _ _ _ (k2 _ _ _ _ z)) fun _ _ z=>z⟩ (Kk hs)
def mn.pq(S:mn)(a:ME)(x:Option Expr):Prop:=∀m env lg μ Q X,we lY S.Φ env a Q X μ->S.n9 (evalPart x S.e) m env lg μ (PV S.base Q) X
theorem Qv:S.pq .none none:=by
 intro m env lg μ Q X h s E I H hX
 exact gO (AK.here I ⟨_,.none,show Q .none μ from h⟩)
theorem Qw(h:S.SE a x):S.pq a (some x):=h
theorem V4{o lo hi:ME}{o':Expr}{tf qx:Option Expr}{p pos:Pos}(ho:S.SE o o')(pX:S.pq lo tf)(qg:S.pq hi qx):S.SE (.slice o lo hi) (.Subscript o' (.Slice tf qx none p) pos):=by
 intro m env lg μ Q X h s E I H hX
 refine Subscript_ ((ho _ _ _ _ _ _ h).then I H hX fun u mD μ1 s1 x1 I1 H1 p1 k1 mK=>?_)
 obtain⟨uv,ru,q⟩:=p1
 refine wpAny_Slice ((pX _ _ _ _ _ _ q).then I1 H1 mK fun v mV μ2 s2 x2 I2 H2 p2 k2 pi=>?_)
 obtain⟨vv,rv,q⟩:=p2
 refine(qg _ _ _ _ _ _ q).then I2 H2 pi fun w pk μ3 s3 x3 I3 H3 p3 k3 sN=>?_
 obtain⟨wv,oG,q⟩:=p3
 refine gO ?_
 have it:=V7 (prog:=S.pg) (w:=S.w) (A:=S.A) (E:=E) I3 ((ru.mono x2).mono x3) (rv.mono x3) oG q
 exact RW (ops:=[.ref s3.heap.objs.size,u]) ⟨it.how,gJ it.rT (fun _ _ z=>k1 _ _ _ _ (k2 _ _ _ _ (k3 _ _ _ _ z))) fun _ _ z=>z⟩ rfl
end
section
variable{S:mn}{FA:Nat->Addr}{j:Nat}
theorem DZ(xs:List Expr)(e:Env):(xs.map fun x=>((false,eval x e):Bool×Sem Value)).any (·.1)=false:=by
 induction xs with
 |nil=>rfl
 |cons x r ih=>assumption
theorem MK(xs:List Expr)(e:Env):(xs.map fun x=>((false,eval x e):Bool×Sem Value)).all (fun x=>!x.1)=true:=by
 induction xs with
 |nil=>rfl
 |cons x r ih=>assumption
theorem Gp{E:Value->Shared->Prop}{xs:List Expr}{e:Env}{Q:Args->Shared->Prop}
  (h:wpAny M A (spliced (xs.map fun x=>(false,eval x e))) (fun vs s'=>Q ⟨vs,[]⟩ s') E s):wpAny M A (evalArgs f true (xs.map fun x=>(false,eval x e)) []) Q E s:=by
 induction xs using List.casesOn with
 |cons x r=>exact Calls.evalArgs_plain h
 |nil=>
  refine gx (gJ h (fun vs s' h'=>?_) fun _ _ x=>x)
  refine gx (gO ?_)
  refine hW ?_
  exact gx (gO (gx (gO (gO h'))))
theorem Inv.r9{A:Around}{base:Heap}{K:Frag}{e:Env}{m:Str->Option Value}{fr:List oa}{env:An}{lg:Lg}{μ:MH}{h:Heap}(I:Inv base K e m fr env lg μ h)(H:HL A base lg):ov A h:=
 H.imp id fun nS=>by obtain⟨a,o,arr,e,k,r⟩:=nS;exact⟨a,o,arr,e,I.kn k,r⟩
theorem YS{xs:List Expr}(G:Bi S FA j)(hf:Oj f=true)(hn:n=nm f)(hg:S.sc.lookup n=some .globalImplicit)(hd:(n==("__debug__":Str))=false)
  (hs:xs.all (fun x=>!EA x)=true) (ha:S.SL as xs):S.SE (.call f as) (.Call (.Name n p) xs [] pos):=by
 intro m env lg μ Q X h s E I H hX
 subst hn
 obtain⟨mg,mb,n1,n2,n3,n4,_⟩:=G.base.names
 have hw:=(n4 f hf).1;have hk:=(n4 f hf).2
 refine Call_Name rfl (iB G.env.kind (G.env.lY _ hg) (jx (by refine G.env.globals.symm▸?_;exact CN n1 I.old) hw ?_) hd)
 have calls:=G.calls S.e S.fr S.sc G.frames
 refine callWith_of (by rw[Bf _ _ _ hs,DZ];rfl) (keeps_K hk) ?_
 refine(Bf _ _ _ hs).symm▸?_
 refine Gp ((ha _ _ _ _ _ _ h).then I H hX fun u mD μ1 s1 x1 I1 H1 p1 k1 mK=>?_)
 obtain⟨vs,rv,q⟩:=p1
 exact⟨G.base.pY.keeps I1.old,gJ (calls f vs u hf m env mD μ1 Q X rv q s1 E I1 H1 mK) (fun _ _ z=>k1 _ _ _ _ z) fun _ _ z=>z⟩
theorem cO{xs:List Expr}(G:Bi S FA j)(hf:f<5)(hn:n=Str.ofString (HQ f))(hg:S.sc.lookup n=some .globalImplicit)(hd:(n==("__debug__":Str))=false)
  (hs:xs.all (fun x=>!EA x)=true) (ha:S.SL as xs):S.SE (.blt f as) (.Call (.Name n p) xs [] pos):=by
 intro m env lg μ Q X h s E I H hX
 subst hn
 obtain⟨mg,mb,n1,n2,n3,n4,n5,_⟩:=G.base.names
 obtain⟨hw,hk⟩:=n5 f hf
 refine Call_Name rfl (iB G.env.kind (G.env.lY _ hg) (lu (by rw[G.env.globals];exact CN n1 I.old) hw (by rw[G.env.builtins];exact CN n2 I.old) hk ?_) hd)
 have hp:(backTo pos (starEach xs S.e)).any (·.1)=false:=by rw[Bf _ _ _ hs,DZ]
 have fin:∀{f':Value},f'=Jk f->wpAny S.M S.A (evalArgs f' true (backTo pos (starEach xs S.e)) []) (fun a s₁=>wpAny S.M S.A (call f' ([]++a.pos) a.kw) (S.P m env lg s (PV S.base Q)) E s₁) E s:=by
  intro f' pD
  subst pD
  rw[Bf _ _ _ hs]
  refine Gp ((ha _ _ _ _ _ _ h).then I H hX fun u mD μ1 s1 x1 I1 H1 p1 k1 mK=>?_)
  obtain⟨vs,rv,q⟩:=p1
  exact gJ (ar (I1.r9 H1.hl) I1 rv q) (fun _ _ z=>k1 _ _ _ _ z) fun _ _ z=>z
 have hfs:f=0\/f=1\/f=2\/f=3\/f=4:=by lia
 rcases hfs with rfl|rfl|rfl|rfl|rfl
 ·exact jh hp (fin rfl)
 ·exact jh hp (fin rfl)
 ·exact jh hp (fin rfl)
 ·exact lf hp (fin rfl)
 ·exact lf hp (fin rfl)
theorem Tl:∀f,f<5->∃T,(T="list"\/T="str")/\(T="list"↔f<2)/\PlainAttrs T/\Slot T (Str.ofString (P0 f)) (IB f)/\typeOf (.builtin (IB f))=pure (.type "method_descriptor")
 |0,_=>⟨"list",.inl rfl,by decide,F.plainAttrs_list,F.slot_list_append,F.type_list_append⟩
 |1,_=>⟨"list",.inl rfl,by decide,F.plainAttrs_list,F.slot_list_pop,F.type_list_pop⟩
 |2,_=>⟨"str",.inr rfl,by decide,kU,F.slot_str_find,F.type_str_find⟩
 |3,_=>⟨"str",.inr rfl,by decide,kU,F.slot_str_lower,F.type_str_lower⟩
 |4,_=>⟨"str",.inr rfl,by decide,kU,F.slot_str_join,F.type_str_join⟩
theorem YY{xs:List Expr}{apos pos:Pos}(hf:f<5)(hb:Jg o'=true)(hl:(apos.endLine==pos.line)=true)(hlen:xs.length<20)(hn:n=Str.ofString (P0 f))
  (hs:xs.all (fun x=>!EA x)=true) (ho:S.SE o o') (ha:S.SL as xs):S.SE (.mz o f as) (.Call (.Attribute o' n apos) xs [] pos):=by
 intro m env lg μ Q X h s E I H hX
 subst hn
 refine wpAny_Call_method_lateS (QT hb) ?_ hl ((ho _ _ _ _ _ _ h).then I H hX fun u mD μ1 s1 x1 I1 H1 p1 k1 mK=>?_)
 ·rw[Bf _ _ _ hs,MK]
  exact gz (show xs.length+0+0<30 from iv hlen (by decide))
 obtain⟨uv,ru,q⟩:=p1
 have oh:=(A6 q).1;have q:=(A6 q).2
 obtain⟨T,hT,hTf,pa,slot,ty⟩:=Tl f hf
 have typed:s1.TypeIs u T/\∀a,u=.ref a->∃ob,s1.heap.get? a=some ob/\ob.dict=none:=by
  induction uv using V.casesOn with
  |lX n=>
   have oh:(decide (f<2)&&(By μ1 n).isSome)=true:=oh
   rw[gI,hG]at oh
   obtain⟨rU,hm⟩:=Option.isSome_iff_exists.mp oh.2
   obtain⟨p,d,rfl,hr⟩:=ru.mB
   obtain⟨vs,k,hg,rfl,_⟩:=Cp I1 hr (Ba hm)
   rw[hTf.mpr oh.1]
   exact⟨(A9 hg).typeIs,fun a e=>by cases e;exact⟨_,hg,rfl⟩⟩
  |str z=>
   have oh:(decide (2<=f)&&decide (f<5))=true:=oh
   rw[gI,hG]at oh
   obtain⟨⟨t,rfl⟩,_⟩:=ru.mi
   have:T="str":=hT.resolve_left fun e=>Nat.not_lt.mpr oh.1 (hTf.mp e)
   rw[this]
   exact⟨typeIs_str _ _ _,fun a e=>by cases e⟩
  |_=>exact Dd oh
 refine⟨T,IB f,pa,slot,ty,typed.1,typed.2,jh (by rw[Bf _ _ _ hs,DZ]) ?_⟩
 refine(Bf _ _ _ hs).symm▸?_
 refine Gp ((ha _ _ _ _ _ _ q).then I1 H1 mK fun v mV μ2 s2 x2 I2 H2 p2 k2 pi=>?_)
 obtain⟨vs,rv,q⟩:=p2
 exact gJ (Rw I2 (ru.mono x2) rv q) (fun _ _ z=>k1 _ _ _ _ (k2 _ _ _ _ z)) fun _ _ z=>z
end
section
variable{prog:Program}{w:World}{A:Around}{E:Value->Shared->Prop}
variable{base:Heap}{K:Frag}{e:Env}{m:Str->Option Value}{fr:List oa}{env:An}{lg:Lg}{μ:MH}{s:Shared}{h:Heap}
theorem Ro{h:Heap}{ob:Obj}(I:Inv base K e m fr env lg μ h)(hf:ob.isFreed=false)(ho:Gm base K ((lg.put h.objs.size ob).lX h.objs.size h.objs.size) h.objs.size h.objs.size o) :
  ∃lZ,Inv base K e m fr env lZ (μ++[o]) (h.push ob)/\Ext lg lZ/\lZ.mw[μ.length]?=some (h.objs.size,h.objs.size)/\∀a p,lg.led a=some p->lZ.led a=some p:=by
 have I1:=I.add (h':=h.push ob) (a:=h.objs.size) (o:=ob) (Bl h) (fun b p q=>gG ob q) (hO h hf)
 have x1:Ext lg (lg.put h.objs.size ob):=Ext.mI _ I.fresh
 have o6:∀p∈(lg.put h.objs.size ob).mw,p.2≠h.objs.size:=fun p hp z=>by
  obtain⟨qW,q,_⟩:=I.stores (p:=p) hp
  rw[z]at q
  exact absurd (g8 (I.led _ _ q).1) (ic _)
 have oX:∀f∈fr,f.env.locals≠h.objs.size:=fun f pD z=>by
  obtain⟨⟨ob,a1,_⟩,_⟩:=I.frames f pD
  rw[z]at a1
  exact absurd (g8 (I.led _ _ a1).1) (ic _)
 refine⟨_,I1.new o6 oX ho,x1.trans (Ext.lX _ _),?_,fun a p q=>?_⟩
 rotate_left
 ·show(lg.put h.objs.size ob).led a=some p
  rw[Lg.l9];exact q
  rintro rfl;exact AM I.fresh q
 show(lg.mw++[(h.objs.size,h.objs.size)])[μ.length]?=_
 rw[<- I.heap.len,i7 (gF _)]
 simp
inductive O1(base:Heap)(lg:Lg):List (Int×V)->List (Value×Value)->Prop
 |nil:O1 base lg [] []
 |cons (i:Int) (v:V) (kv:List (Int×V)) (t:Tok) (z:Value) (l:List (Value×Value)) (r:Aw base lg v z) (h:O1 base lg kv l):O1 base lg ((i,v) :: kv) ((.int i t,z) :: l)
theorem O1.length{kv:List (Int×V)}{l:List (Value×Value)}(h:O1 base lg kv l):kv.length=l.length:=by
 induction h with
 |nil=>rfl
 |cons i v kv t z l r _ ih=>exact congrArg Nat.succ ih
noncomputable def Z9:List (Int×V)->Prop
 |[]=>True
 |(i,_) :: kv=>(∀p∈kv,p.1≠i)/\Z9 kv
theorem Gz:∀{kv:List (Int×V)} {i:Int},(∀p∈kv,p.1≠i)->Bn kv i=none
 |[],_,_=>rfl
 |(k,v) :: kv,i,h=>by unfold Bn;rw[iI (h _ (.head _)),Gz fun p hp=>h p (gA _ hp)]
theorem OP(d:Addr):∀(l:List (Value×Value)) (kv:List (Int×V)) (s:Shared) (f:Int->Option Value) (n:Nat) (Q:PUnit->Shared->Prop),O1 base lg kv l->Z9 kv->s.heap.IntMap d f->s.heap.DictLe d n->n+l.length<=sizeLine->
  (∀h' tk g,Heap.SameBut d s.heap h'->h'.IntMap d g->h'.DictLe d (n+l.length)->(∀k,(Bn kv k=none/\g k=f k)\/∃v z,Bn kv k=some v/\g k=some z/\Aw base lg v z)->Q ⟨⟩ {s with heap:=h',toks:=tk})->
  wpAny (model prog w) A (storeAll d l) Q E s:=by
 intro l
 induction l with
 |nil=>
  intro kv s f n Q h _ hm hl _ hQ
  cases h
  exact gO (hQ s.heap s.toks f (Heap.SameBut.refl ..) hm (by exact hl) fun k=>.inl ⟨rfl,rfl⟩)
 |cons p l ih=>
  intro kv s f n Q h dd hm hl nu hQ
  cases h with
  |cons i v kv t z _ hv hr=>
   have e:storeAll d ((.int i t,z) :: l)=(dictSet d (.int i t) z >>= fun _=>storeAll d l):=by
    unfold storeAll
    rw[List.forIn_cons]
    simp only[bind_assoc,pure_bind]
   refine e.symm▸?_
   have hlen:n+(l.length+1)<=sizeLine:=nu
   refine gx (wpAny_dictSet_int_le hm hl (by exact mP (nC _ _ _) mj nF (.add mj (mu 1 1)) nF rfl hlen) fun h1 hm1 qT qz=>?_)
   refine ih kv _ _ (n+1) Q hr dd.2 hm1 qT (by exact mP (nC _ _ _) (.add (mu 0 1) mE) nF (.add mj (mu 1 1)) nF rfl hlen) fun h' tk g hs hg sS hk=>?_
   refine hQ h' tk g (qz.trans hs) hg (by refine List.length_cons.symm▸?_;rwa [show n+(l.length+1)=n+1+l.length by exact jH (qq5) (qq6)]) fun k=>?_
   rcases hk k with⟨q1,q2⟩|⟨v',z',q1,q2,q3⟩
   ·by_cases uM:i=k
    ·cases uM
     exact .inr ⟨v,z,by unfold Bn;exact(iJ rfl),by refine q2.symm▸?_;simp,hv⟩
    ·exact .inl ⟨by unfold Bn;refine(iI uM).symm▸?_;exact q1,by refine q2.symm▸?_;simp[iK uM]⟩
   ·refine .inr ⟨v',z',?_,q2,q3⟩
    unfold Bn
    rw[iI]
    ·exact q1
    ·rintro rfl
     exact AM (Gz dd.1) q1
end
theorem UN(h:ZQ a kv=some i):a=.int i/\∀p∈kv,p.1≠i:=by
 induction a using V.casesOn with
 |int j=>
  have h:(match kv.all fun p=>decide (p.1≠j)with|true=>some j|false=>none)=some i:=h
  revert h
  cases q:kv.all fun p=>decide (p.1≠j) with
  |true=>
   intro h;obtain rfl:=Option.some.inj h
   rw[ib]at q
   exact⟨rfl,fun p hp=>gH (q p hp)⟩
  |false=>intro h;exact Ao h
 |_=>exact Ao h
theorem PG(h:PE o=true):o=some (.dict []):=by
 induction o with
 |none=>exact Dd h
 |some o=>induction o with
  |dict kv=>induction kv using List.casesOn with
   |nil=>rfl
   |cons _ _=>exact Dd h
  |_=>exact Dd h
section
variable{S:mn}{FA:Nat->Addr}{j:Nat}
def PD(base:Heap)(Q:List (Int×V)->MH->Prop)(lg:Lg)(μ:MH)(l:List (Value×Value)):Prop:=∃kv,O1 base lg kv l/\Z9 kv/\Q kv μ
def mn.SD(S:mn)(a:ME)(ks:List (Option Expr))(vs:List Expr):Prop:=∀m env lg μ Q X pos,wd lY S.Φ env a Q X μ->S.n9 (evalPairs (pairTrees ks vs S.e pos)) m env lg μ (PD S.base Q) X
theorem cL:S.SD .nil [] []:=by
 intro m env lg μ Q X pos h s E I H hX
 exact pairTrees_nil_walk (AK.here I ⟨[],.nil,trivial,show Q [] μ from h⟩)
theorem YQ(hk:S.SE k k')(hv:S.SE v v')(hr:S.SD r ks vs):S.SD (.cons (.cons k v) r) (some k' :: ks) (v' :: vs):=by
 intro m env lg μ Q X pos h s E I H hX
 refine pairTrees_cons_walk ((hk _ _ _ _ _ _ h).then I H hX fun a mD μ1 s1 x1 I1 H1 p1 k1 mK=>?_)
 obtain⟨av,ra,q⟩:=p1
 refine(hv _ _ _ _ _ _ q).then I1 H1 mK fun b mV μ2 s2 x2 I2 H2 p2 k2 pi=>?_
 obtain⟨bv,rb,q⟩:=p2
 refine(hr _ _ _ _ _ _ _ q).then I2 H2 pi fun l pk μ3 s3 x3 I3 H3 p3 k3 sN=>?_
 obtain⟨kv,dl,dd,q'⟩:=p3
 obtain⟨i,hi,q''⟩:=Aq q'
 obtain⟨rfl,ne⟩:=UN hi
 obtain⟨t,rfl⟩:=ra.mc
 exact k1 _ _ _ _ (k2 _ _ _ _ (k3 _ _ _ _ (AK.here I3 ⟨(i,bv) :: kv,.cons _ _ _ t _ _ (rb.mono x3) dl,⟨ne,dd⟩,q''⟩)))
theorem YV{ks:List (Option Expr)}{vs:List Expr}(h0:ks≠[])(hlen:ks.length<=15)(rq:ks.all (·.isSome)=true)(hl:ks.length=vs.length)(ha:S.SD a ks vs):S.SE (.dict a) (.Dict ks vs pos):=by
 intro m env lg μ Q X h s E I H hX
 refine wpAny_Dict_any rq hl h0 hlen ?_
 obtain⟨lg0,I0,x0,r0,_⟩:=Ro (o:=.dict []) (ob:={cls:=.type "dict",data:=.dict #[]}) I rfl ⟨rfl,_,Lg.ma ..,rfl,#[],0,rfl,(fun _ he=>by simp at he),gF 0,fun k=>.inl ⟨rfl,rfl⟩⟩
 refine(ha _ _ _ _ _ _ pos h).then (s:={s with heap:=s.heap.push {cls:=.type "dict",data:=.dict #[]}}) I0 (H.mono x0) (fun v s' z=>hX v s' (EP.trans (tk:=s.toks) x0 z)) fun l mD μ1 s1 x1 I1 H1 p1 k1 mK=>?_
 obtain⟨kv,dl,dd,q⟩:=p1
 have hμ:=(A6 q).1;have q:=(A6 q).2
 have hμ:=PG hμ
 have hkl:=(Ag q).1;have q:=(Ag q).2
 have r1:=x1.mw _ _ r0
 obtain⟨f,hf,hd,hle,_⟩:=Oh I1 r1 hμ
 have fn:∀k,f k=none:=fun k=>by
  rcases hd k with⟨_,z⟩|⟨v,w,z,_⟩
  ·exact z
  ·exact Ao z
 have rC:=dl.length
 have sl:(15:Nat)<=sizeLine:=by decide
 refine OP _ l kv s1 f 0 _ dl dd hf hle (by lia) fun h' tk g hs hg uN hk=>?_
 obtain⟨o',es,ep,g1,g2,g3,g4,g5⟩:=hg
 obtain⟨a',d',z1,z2⟩:=I1.heap.each _ _ hμ
 replace z1:=r1▸z1;cases Option.some.inj z1
 obtain⟨_,ob,b1,b2,es0,k0,b3,_⟩:=z2
 have x2:Ext mD (mD.put s.heap.objs.size o'):=Ext.nQ _ b1 (.inr ⟨_,_,b3⟩)
 have I2:=I1.turn (o:=.dict kv) r1 b1 (.inr ⟨_,_,b3⟩) hs g1 ⟨rfl,o',Lg.ma ..,g2,es,ep,g3,g4,by have:=uN _ _ _ g1 g3;lia,fun k=>by
  rcases hk k with⟨q1,q2⟩|⟨v,z,q1,q2,q3⟩
  ·exact .inl ⟨q1,by(refine(g5 k).symm▸?_;rewrite[q2];rewrite[fn];rfl)⟩
  ·exact .inr ⟨v,z,q1,by(refine(g5 k).symm▸?_;refine q2.symm▸?_;rfl),q3.mono x2⟩⟩
 have fin:=k1 _ _ _ _ (AK.to (s:=s1) (tk:=tk) (P:=PV S.base Q) (a:=.ref s.heap.objs.size) I2 x2 ⟨_,.lX _ _ s.heap.objs.size (x2.mw _ _ r1),q⟩)
 exact AK.trans (tk:=s.toks) x0 fin
end
section
variable{base:Heap}{K:Frag}{e:Env}{m m':Str->Option Value}{fr:List oa}{env:An}{lg:Lg}{μ:MH}{h h':Heap}
theorem Inv.keepsBut(I:Inv base K e m fr env lg μ h)(hb:base.get? C=none)(hl:lg.led C=none)(ne:e.locals≠C)(k:∀b o,b≠C->h.get? b=some o->h'.get? b=some o):Inv base K e m fr env lg μ h':=by
 refine{I with old:=fun b o q=>k b o (fun z=>by(rw[z]at q;replace q:=hb▸q);exact Ao q) (I.old b o q),ns:=?_,led:=fun a o q=>⟨k a o (fun z=>by(rw[z]at q;replace q:=hl▸q);exact Ao q) (I.led a o q).1,(I.led a o q).2⟩}
 obtain⟨on,es,ep,q1,q2⟩:=I.ns
 exact⟨on,es,ep,k _ _ ne q1,q2⟩
theorem Inv.qo(I:Inv base K e m fr env lg μ h)(hx:x<Bg.length)(hk:e.kindOf (nm x)=some .local)(hv:Aw base lg v z)
  (hn:h'.Ns e.locals (fun y=>if y=nm x then some z else m y)) (hs:Heap.SameBut e.locals h h'):Inv base K e (fun y=>if y=nm x then some z else m y) fr (Ad env x v) lg μ h':=by
 have k:∀b o,b≠e.locals->h.get? b=some o->h'.get? b=some o:=fun b o n q=>(hs.2 b n).trans q
 refine{I with old:=fun b o q=>k b o (fun y=>by(rw[y]at q;replace q:=I.nG▸q);exact Ao q) (I.old b o q),ns:=hn,led:=fun a o q=>⟨k a o (fun y=>by(rw[y]at q;replace q:=I.mH▸q);exact Ao q) (I.led a o q).1,(I.led a o q).2⟩,vars:=fun y u q ss=>?_}
 unfold Ad at q
 split at q
 ·rename_i e'
  subst e';obtain rfl:=Option.some.inj q
  exact⟨hx,.inl ⟨hk,z,by simp,hv⟩⟩
 ·rename_i ne
  have hy:=(I.vars y u q ss).1;have uY:=(I.vars y u q ss).2
  refine⟨hy,uY.imp (fun⟨a,w,b,c⟩=>⟨a,w,?_,c⟩) id⟩
  show(if nm y=nm x then some z else m (nm y))=some w
  exact(iI fun q=>ne (Hy hy hx q)).trans (b)
theorem Inv.setCell(I:Inv base K e m fr env lg μ h)(hx:x<Bg.length)(hk:e.kindOf (nm x)=some .cell)(hc:e.cells.lookup (nm x)=some ca)
  (hl:lg.led ca=some o) (ho:Da o) (apart:∀f∈fr,f.cells ca=none) (inj:∀n n' ca,e.cells.lookup n=some ca->e.cells.lookup n'=some ca->n=n') (hv:Aw base lg v z) {o':Obj}
  (g:h'.get? ca=some o') (d:o'.data=.cell (some z)) (hs:Heap.SameBut ca h h'):Inv base K e m fr (Ad env x v) (lg.put ca o') μ h'/\Ext lg (lg.put ca o'):=by
 have hb:=(I.led _ _ hl).2
 have nL:e.locals≠ca:=by rintro rfl;exact AM I.mH hl
 have ne:∀b p,¬Da p->lg.led b=some p->b≠ca:=fun b p n q y=>by(rw[y]at q;replace q:=hl▸q);obtain rfl:=Option.some.inj q;exact n ho
 have k:∀b p,b≠ca->h.get? b=some p->h'.get? b=some p:=fun b p n q=>(hs.2 b n).trans q
 have x1:Ext lg (lg.put ca o'):=by
  refine⟨fun b p i q=>?_,fun b p c q=>?_,fun _ _ q=>q⟩
  ·exact(Lg.l9 _ _ (ne b p (fun nS=>by obtain⟨v,c⟩:=nS;exact i.2.2 v c) q)).trans (q)
  ·by_cases y:b=ca
   ·subst y;exact⟨o',⟨_,d⟩,Lg.ma ..⟩
   ·exact⟨p,c,by exact(Lg.l9 _ _ y).trans (q)⟩
 refine⟨⟨fun b p q=>k b p (fun y=>by(rw[y]at q;replace q:=hb▸q);exact Ao q) (I.old b p q),?_,I.nG,by refine(Lg.l9 _ _ nL).symm▸?_;exact I.mH,fun b p q=>?_,fun f hf=>?_,I.dist,I.apart,fun y u q ss=>?_,I.heap.len,I.heap.nodup,fun n p q=>?_⟩,x1⟩
 ·obtain⟨on,es,ep,q1,q2⟩:=I.ns
  exact⟨on,es,ep,k _ _ nL q1,q2⟩
 ·by_cases y:b=ca
  ·subst y;rw[Lg.ma]at q;obtain rfl:=Option.some.inj q;exact⟨g,hb⟩
  ·replace q:=(Lg.l9 _ _ y)▸q;exact⟨k b p y (I.led b p q).1,(I.led b p q).2⟩
 ·obtain⟨⟨p,a1,a2⟩,a3⟩:=I.frames f hf
  refine⟨⟨p,?_,a2⟩,fun c q y=>⟨?_,(a3 c q y).2⟩⟩
  ·rw[Lg.l9 _ _ (ne _ _ (fun⟨v,c⟩=>by obtain⟨es,ep,dd,_⟩:=a2;replace c:=dd▸c;exact nomatch c) a1)];exact a1
  ·rw[Lg.l9];exact(a3 c q y).1
   rintro rfl;exact AM (apart f hf) y
 ·unfold Ad at q
  split at q
  ·rename_i e'
   subst e';obtain rfl:=Option.some.inj q
   exact⟨hx,.inr ⟨hk,ca,o',z,hc,Lg.ma ..,d,hv.mono x1⟩⟩
  ·rename_i nxy
   have hy:=(I.vars y u q ss).1;have uY:=(I.vars y u q ss).2
   refine⟨hy,uY.imp (fun⟨a,w,b,c⟩=>⟨a,w,b,c.mono x1⟩) fun⟨a,cb,p,w,b1,b2,b3,b4⟩=>⟨a,cb,p,w,b1,?_,b3,b4.mono x1⟩⟩
   rw[Lg.l9];exact b2
   rintro rfl
   exact nxy (Hy hy hx (inj _ _ _ b1 hc))
 ·obtain⟨a',dd,a1,a2⟩:=I.heap.each n p q
  refine⟨a',dd,a1,a2.mono x1 fun ob y=>?_⟩
  obtain⟨qW,y',n'⟩:=a2.nR
  obtain⟨vd,y2,sto⟩:∃vd,lg.led dd=some vd/\rW vd:=by
   induction p with
   |list xs=>obtain⟨_,_,_,_,z1,_⟩:=a2;exact⟨_,z1,.inl ⟨rfl,_,_,rfl⟩⟩
   |inst c fs=>obtain⟨_,_,_,_,_,es,k,z1,_⟩:=a2;exact⟨_,z1,.inr ⟨_,_,rfl⟩⟩
   |dict kv=>obtain⟨_,ob,z1,_,es,k,z3,_⟩:=a2;exact⟨ob,z1,.inr ⟨_,_,z3⟩⟩
  exact(Lg.l9 _ _ (ne _ _ (fun c=>sto.oi c) y2)).trans (y)
end
section
variable{S:mn}{FA:Nat->Addr}{j:Nat}{m:Str->Option Value}{env:An}{lg:Lg}{μ:MH}
inductive IR(S:mn)(env':An)(lg:Lg)(μ:MH)(s s':Shared):Prop
 |mk (h':Heap) (tk:Nat) (lZ:Lg) (m':Str->Option Value) (e1:s'={s with heap:=h',toks:=tk}) (I:Inv S.base S.K S.e m' S.fr env' lZ μ h') (x:Ext lg lZ) (n:∀b,lg.led b=none->lZ.led b=none) (kp:∀b o,b≠S.e.locals->lg.led b=none->s.heap.get? b=some o->h'.get? b=some o)
theorem OQ{s:Shared}{E:Value->Shared->Prop}(G:Bi S FA j)(hx:x<Bg.length)(hs:S.sc.lookup (nm x)=some .local\/S.sc.lookup (nm x)=some .cell)(I:S.I m env lg μ s.heap)(H:S.H lg)(hv:Aw S.base lg v z) :
  wpAny S.M S.A (storeName S.e (nm x) z) (fun _ s'=>IR S (Ad env x v) lg μ s s') E s:=by
 rcases hs with hs|hs
 ·have hk:=G.env.lX _ hs
  refine wpAny_storeName_local hk I.ns (fun h' hn rE=>?_) (by refine G.env.kind.symm▸?_;rfl)
  exact⟨h',_,lg,_,rfl,I.qo hx hk hv hn rE,Ext.refl _,fun _ q=>q,fun b o n _ q=>(rE.2 b n).trans q⟩
 ·have hk:=G.env.cell _ (.inl hs)
  obtain⟨ca,o,hc,co,hl⟩:=H.own.led _ (.inl hs)
  obtain⟨v0,hd⟩:=id co
  refine wpAny_storeName_cell G.env.kind hk hc (Ll (I.led _ _ hl).1 hd) fun h' sO rE=>?_
  obtain⟨o',g,d⟩:=sO
  obtain⟨I',x'⟩:=I.setCell hx hk hc hl co (fun f hf=>H.own.apart _ _ hs hc f hf) H.own.inj hv g d rE
  have nc:∀b,lg.led b=none->b≠ca:=fun b q y=>by(replace q:=y▸q;replace q:=hl▸q);exact Rz q
  exact⟨h',s.toks,_,m,rfl,I',x',fun b q=>by rw[Lg.l9 _ _ (nc b q)];exact q,fun b o _ q y=>(rE.2 b (nc b q)).trans y⟩
theorem Ck{s:Shared}{E:Value->Shared->Prop}(G:Bi S FA j)(hn:n=nm x)(hx:x<Bg.length)(hs:S.sc.lookup n=some .local\/S.sc.lookup n=some .cell)(I:S.I m env lg μ s.heap)(H:S.H lg)(hv:Aw S.base lg v z) :
  wpAny S.M S.A (assign (.Name n p) S.e z) (fun _ s'=>IR S (Ad env x v) lg μ s s') E s:=by
 subst hn
 exact wpAny_assign_Name (OQ G hx hs I H hv)
theorem Tv{items:Array Value}{s:Shared}{E:Value->Shared->Prop}{Q:List Value->Shared->Prop}{pg:Program}{w:World}(H:ov A s.heap)(ht:s.heap.IsTuple t items)
  (hQ:∀h',Heap.ExtBut s.heap.objs.size s.heap h'->Q items.toList {s with heap:=h'}):wpAny (model pg w) A (unpackItems (.ref t) items.size none) Q E s:=by
 have oQ:t≠s.heap.objs.size:=by obtain⟨o,ho,_⟩:=ht;exact iV (g8 ho)
 have ni:s.heap.objs.size∉oE A:=fun hm=>ic _ (H.lt _ hm)
 refine gx ?_
 refine gx (wpAny_specialOf ht.typeIs F.slot_tuple_iter.lookup ?_)
 refine gO ?_
 refine gx (hW (kF ht ?_))
 refine gx (hW (wpAny_draw_tuple oQ items.size 0 _ _ ⟨_,hO _ rfl,rfl,rfl⟩ (ht.push _) (by exact p9 (mo _) (.add (.num 0) mj) mj rfl) fun h₁ uK qK=>?_))
 have rq:List.take items.size (List.drop 0 items.toList)=items.toList:=by
  refine List.drop_zero.symm▸?_;exact jB (by simp)
 refine rq.symm▸?_
 rw[iI (by simp)]
 have ht₁:h₁.IsTuple t items:=(ht.push _).extBut qK.extBut oQ
 have H₁:ov A h₁:=H.keeps fun b hb o e=>(qK.2 b (fun q=>ni (q▸hb))).trans (gG _ e)
 refine gx (hW (Dv H₁ ni uK ht₁ (by simp) fun h₂ tM=>?_))
 exact gO (hQ h₂ fun b o hb e=>tM b o hb (qK.extBut b o hb (gG _ e)))
@[elab_as_elim] theorem HU{P:List Expr->Prop}(h:Dp (x :: xs) es=true)(k:∀n p r,Ez x n=true->Dp xs r=true->P (.Name n p :: r)):P es:=
 A1 h fun _ r h=>AV (P:=fun e=>P (e :: r)) h fun n p h=>k n p r (Al h) (Aa h)
theorem Gy(h:Dp [] es=true):es=[]:=AP h fun _=>rfl
theorem EK(n:Str)(p:Pos)(es:List Expr)(e:Env):assignEach (.Name n p :: es) e=(false,assign (.Name n p) e) :: assignEach es e:=rfl
theorem CB:∀(xs:List Nat) (es:List Expr) (e:Env),Dp xs es=true->(assignEach es e).findIdx? (·.1)=none/\(assignEach es e).length=xs.length
 |[],es,e,h=>by rw[Gy h];exact⟨rfl,rfl⟩
 |x :: xs,es,e,h=>by
  refine HU h fun n p r _ h=>?_
  obtain⟨h1,h2⟩:=CB xs r e h
  rw[EK]
  exact⟨by rw[List.findIdx?_cons];simp[h1],by simp[h2]⟩
theorem AS(h:Ez x n=true):x<Bg.length/\n=nm x:=by
 unfold Ez at h
 rw[gI,hG,iw]at h
 exact h
theorem Fy{sc:Sc}(h:Hr sc n=true):sc.lookup n=some .local\/sc.lookup n=some .cell:=by
 simpa [Hr] using h
theorem G3(G:Bi S FA j)(xs:List Nat):∀(es:List Expr) (vs:List V) (zs:List Value) (env env':An) (m:Str->Option Value) (lg:Lg) (s:Shared) (E:Value->Shared->Prop),Dp xs es=true->es.all (fun e=>Bm e (Hr S.sc))=true->CP xs vs env=some env'->
  S.I m env lg μ s.heap->S.H lg->Ar S.base lg vs zs->wpAny S.M S.A (assignInOrder ((assignEach es S.e).map (·.2)) zs) (fun _ s'=>IR S env' lg μ s s') E s:=by
 induction xs with
 |nil=>
  intro es vs zs env env' m lg s E h _ hb I H r
  obtain rfl:=Gy h
  induction vs using List.casesOn with
  |cons _ _=>exact nomatch hb
  |nil=>
   cases hb
   obtain rfl:=r.nil_inv
   exact assignInOrder_nil ⟨s.heap,s.toks,lg,m,rfl,I,Ext.refl _,fun _ q=>q,fun _ _ _ _ q=>q⟩
 |cons x xs ih=>
  intro es vs zs env env' m lg s E h hl hb I H r
  revert hl
  refine HU h fun n p es hn h hl=>?_
  have hx:=(AS hn).1
  have hn:=(AS hn).2
  induction vs using List.casesOn with
  |nil=>exact nomatch hb
  |cons v vs=>
   obtain⟨z,zs,rfl,hz,r⟩:=r.mO
   have hl:=BW hl
   have hs:=Fy (n:=n) hl.1
   rw[EK]
   refine assignInOrder_cons (gJ (Ck G hn hx hs I H hz) (fun _ s1 z1=>?_) fun _ _ e=>e)
   obtain⟨h1,mT,mD,m1,rfl,I1,x1,n1,kp1⟩:=z1
   refine gJ (ih es vs zs _ env' m1 mD _ E h hl.2 hb I1 (H.mono x1) (r.mono x1)) (fun _ s2 z2=>?_) fun _ _ e=>e
   obtain⟨h2,nE,mV,m2,rfl,I2,x2,n2,rJ⟩:=z2
   exact⟨h2,nE,mV,m2,rfl,I2,x1.trans x2,fun b q=>n2 b (n1 b q),fun b o ne q y=>rJ b o ne (n1 b q) (kp1 b o ne q y)⟩
theorem Fp:∀{xs:List Nat} {l:List V} {env env':An},CP xs l env=some env'->l.length=xs.length
 |[],[],_,_,_=>rfl
 |[],_ :: _,_,_,h=>nomatch h
 |_ :: _,[],_,_,h=>nomatch h
 |x :: xs,v :: l,_,_,h=>congrArg Nat.succ (Fp (xs:=xs) (l:=l) h)
theorem NO{xs:List Nat}{one:Bool}{t:Expr}{v:V}{z:Value}{env':An}{s:Shared}{E:Value->Shared->Prop}(G:Bi S FA j)(hc:E5 S.sc xs one t=true)(hb:AC xs one v env=some env')(I:S.I m env lg μ s.heap)(H:S.H lg)(hv:Aw S.base lg v z) :
  wpAny S.M S.A (assign t S.e z) (fun _ s'=>IR S env' lg μ s s') E s:=by
 induction one with
 |true=>
  refine AV hc fun n p h=>?_
  revert hb
  refine B5 h fun x h hb=>?_
  obtain rfl:=Option.some.inj hb
  exact Ck G (AS (Al h)).2 (AS (Al h)).1 (Fy (Aa h)) I H hv
 |false=>
  refine Ka hc fun es k p h=>?_
  have hn:=Al h
  have hl:=Aa h
  induction v using V.casesOn with
  |tup l=>
   obtain⟨a,o,vs,n,rfl,hk,qw,hd,hm,hr⟩:=hv.nP
   have uW:=(CB xs es S.e hn).1;have hlen:=(CB xs es S.e hn).2
   have hlv:l.length=xs.length:=Fp (env:=env) (env':=env') hb
   have nu:vs.size=xs.length:=by have:=hr.1;simp at this;lia
   refine gx (hV ?_)
   unfold unpack
   (refine uW.symm▸?_;refine hlen.symm▸?_;refine nu▸?_)
   have tup:s.heap.IsTuple a vs:=⟨o,I.kn hk,qw,n,hd⟩
   refine gx (hW (Tv (I.r9 H.hl) tup fun h1 he=>?_))
   have I1:=I.extBut he
   refine gJ (G3 G xs es l _ env env' m lg _ E hn hl hb I1 H hr) (fun _ s2 z2=>?_) fun _ _ e=>e
   obtain⟨h2,nE,mV,m2,rfl,I2,x2,n2,rJ⟩:=z2
   exact⟨h2,nE,mV,m2,rfl,I2,x2,n2,fun b o ne q y=>rJ b o ne q (he b o (iV (g8 y)) y)⟩
  |_=>exact nomatch hb
end
section
variable{prog:Program}{w:World}{A:Around}{E:Value->Shared->Prop}
variable{base:Heap}{K:Frag}{e:Env}{m:Str->Option Value}{fr:List oa}{env:An}{lg:Lg}{μ:MH}{s:Shared}{h:Heap}
inductive AL(base:Heap)(lg:Lg):List V->Option (Nat×List V)->Nat->Obj->Prop
 |list (n:Nat) (a:Addr) (xs:List V) (k:Nat) (o:Obj):lg.mw[n]?=some (a,a)->o.cls=.type "list_iterator"->o.data=.fields #[.ref a,.int k 0]->AL base lg xs (some (n,xs)) k o
 |tup (l:List V) (t:Addr) (ot:Obj) (vs:Array Value) (nn k:Nat) (o:Obj):Kn base lg t ot->ot.cls=.type "tuple"->ot.data=.seq vs nn->Ar base lg l vs.toList->o.cls=.type "tuple_iterator"->o.data=.fields #[.ref t,.int k 0]->AL base lg l none k o
 |range (lo st:Int) (n k:Nat):k<=n->AL base lg (Ct n lo st) none k {cls:=.type "range_iterator",data:=.fields #[rawInt (lo+k*st),rawInt ((n:Int) - k),rawInt st]}
 |str (t:List Nat) (u:Tok) (k:Nat) (o:Obj):pZ t->o.cls=.type "str_ascii_iterator"->o.data=.fields #[.str (sx t) u,.int k 0]->AL base lg (t.map fun c=>.str [c]) none k o
theorem AL.oq(x:AL base lg items c k o):pC o/\¬tF o:=by
 cases x with
 |list n a xs k o h1 h2 h3=>exact⟨⟨by rw[h2];simp,by rw[h3];simp,by rw[h3];simp⟩,by rintro⟨_,z⟩;rw[h2]at z;simp at z⟩
 |tup l t ot vs nn k o _ _ _ _ h2 h3=>exact⟨⟨by rw[h2];simp,by rw[h3];simp,by rw[h3];simp⟩,by rintro⟨_,z⟩;rw[h2]at z;simp at z⟩
 |range lo st n k hk=>exact⟨⟨by simp,by simp,by simp⟩,by rintro⟨_,z⟩;simp at z⟩
 |str t u k o _ h2 h3=>exact⟨⟨by rw[h2];simp,by rw[h3];simp,by rw[h3];simp⟩,by rintro⟨_,z⟩;rw[h2]at z;simp at z⟩
theorem AL.mono(y:G1 lg lZ)(x:AL base lg items c k o):AL base lZ items c k o:=by
 induction x with
 |list n a xs k o h1 h2 h3=>exact .list n a _ k o (y.mw _ _ h1) h2 h3
 |tup l t ot vs nn k o a b c d h2 h3=>exact .tup _ t ot vs nn k o ⟨a.1,a.2.imp (y.oq _ _ ⟨a.1,.inl b⟩) id⟩ b c (d.mL y) h2 h3
 |range lo st n k hk=>exact .range lo st n k hk
 |str t u k o a h2 h3=>exact .str t u k o a h2 h3
theorem Kd(n:Nat)(a st:Int):(Ct n a st).length=n:=by
 induction n generalizing a with
 |zero=>rfl
 |succ n ih=>exact congrArg Nat.succ (ih _)
theorem Qj(n k:Nat)(a st:Int)(h:k<n):(Ct n a st)[k]?=some (.int (a+k*st)):=by
 induction n generalizing a k with
 |zero=>exact absurd h (Nat.not_lt_zero k)
 |succ n ih=>
  induction k using Nat.casesOn with
  |zero=>show some (V.int a)=some (.int (a+0*st));rw[Int.zero_mul,lF]
  |succ k=>
   show(Ct n (a+st) st)[k]?=_
   refine(ih k (a+st) (by exact mP (mU _ _) (mu 0 1) mE (.add (mu 0 1) (.num 1)) (mu 1 1) rfl h)).symm▸?_
   congr 2
   push_cast
   rw[Int.add_mul];exact hZ (ow (nC _ _ _) (.add (.add mh mQ) oI) (.add mh (.add oI (.mulL 1 mQ))) rfl) (ow (nC _ _ _) (.add mh (.add mQ (.mulL 1 oI))) (.add (.add mh oI) mQ) rfl)
theorem OD(a b c:Int):Builtin.Range.rangeSize a b c=(Cs a b c:Int):=by
 unfold Builtin.Range.rangeSize Cs
 by_cases h:0<c
 ·simp only[gt_iff_lt,h,kG]
  by_cases q:a<b
  ·simp only[q,kG]
   have:0<=(b - a - 1) / c:=jM (by exact qq7 q) (by exact mJ (mo _) (.num 0) mh (.add (.num 0) (.num 1)) mh rfl h)
   omega
  ·simp[q]
 ·simp only[gt_iff_lt,h,kH]
  by_cases q:b<a
  ·simp only[q,kG]
   have:0<=(a - b - 1) / (-c):=jM (by exact qq7 q) (by exact mJ (mo _) (.num 0) (.neg mh) mh (.num 0) rfl (Int.not_lt.mp h))
   omega
  ·simp[q]
theorem Od{x:Int}(h:x.natAbs<2 ^ 62):Builtin.Range.rangeFitsLong x=true:=by
 unfold Builtin.Range.rangeFitsLong
 simp;omega
theorem Rg(a:-(2 ^ 62)<x)(b:x<2 ^ 62):Builtin.Range.rangeFitsLong x=true:=Od (by omega)
theorem IS{x:Int}(h:x.natAbs<2 ^ 60):-(2 ^ 60)<x/\x<2 ^ 60:=by omega
theorem Mr{x:Int}(h:x.natAbs<2 ^ 60):Builtin.Range.rangeFitsLong x=true:=Od (iv h (by decide))
theorem Rc{d s:Int}(s0:0<s)(d0:0<d)(d1:d<2 ^ 61):0<=(d - 1) / s+1/\(d - 1) / s+1<2 ^ 61:=
 ⟨Int.add_nonneg (jM (lQ d0) (jg s0)) (by decide),jU (Int.add_le_add_right (Int.ediv_le_self _ (lQ d0)) 1) (by show d - 1+1<_;rw[Int.sub_add_cancel];exact d1)⟩
theorem Ix{a b:Int}(h:a<b)(x:a.natAbs<2 ^ 60)(y:b.natAbs<2 ^ 60):0<b - a/\b - a<2 ^ 61:=by
 have:=IS x;have:=IS y
 exact⟨Int.sub_pos_of_lt h,by lia⟩
theorem Y6{lo hi st:Int}(h0:st≠0)(x:lo.natAbs<2 ^ 60)(y:hi.natAbs<2 ^ 60):0<=Builtin.Range.rangeSize lo hi st/\Builtin.Range.rangeSize lo hi st<2 ^ 61:=by
 unfold Builtin.Range.rangeSize
 by_cases h:0<st
 ·refine(iJ h).symm▸?_
  by_cases q:lo<hi
  ·refine(iJ q).symm▸?_;exact Rc h (Ix q x y).1 (Ix q x y).2
  ·refine(iI q).symm▸?_;exact⟨by decide,by decide⟩
 ·refine(iI h).symm▸?_
  by_cases q:hi<lo
  ·refine(iJ q).symm▸?_;exact Rc (by lia) (Ix q y x).1 (Ix q y x).2
  ·refine(iI q).symm▸?_;exact⟨by decide,by decide⟩
theorem V8{lo hi st:Int}(r:tE lo hi st):Builtin.Range.small lo hi st=true:=by
 obtain⟨h0,h1,h2,h3⟩:=r
 obtain⟨s0,s1⟩:=Y6 h0 h1 h2
 unfold Builtin.Range.small
 simp only[gI,ia]
 refine⟨⟨⟨⟨Mr h1,Mr h2⟩,Mr h3⟩,Rg (gM (by decide) s0) (iO s1 (by decide))⟩,.inr ?_⟩
 clear s0 s1 h0
 have a:=IS h1
 have b:=IS h2
 have c:=IS h3
 clear h1 h2 h3
 split<;>exact Rg (by omega) (by omega)
theorem MC{R:Value->Shared->Prop}(I:Inv base K e m fr env lg μ s.heap)(hv:Aw base lg v x)(hi:C6 μ v=some (items,c))
  (hR:∀a o h' lZ,lg.led a=none->Inv base K e m fr env lZ μ h'->Ext lg lZ->lZ.led a=some o->AL base lZ items c 0 o->(∀b p,s.heap.get? b=some p->h'.get? b=some p)->(∀b p,lg.led b=some p->lZ.led b=some p)->R (.ref a) {s with heap:=h'}) :
  wpAny (model prog w) A (pyIter x) R E s:=by
 have fresh:∀{o:Obj},o.isFreed=false->(∀lZ,Ext lg lZ->AL base lZ items c 0 o)->R (.ref s.heap.objs.size) {s with heap:=s.heap.push o}:=fun{o} hf ho=>by
  obtain⟨I',x⟩:=MB I hf
  refine hR _ o _ _ I.fresh I' x (Lg.ma ..) (ho _ x) (fun b p q=>gG o q) fun b p q=>?_
  rw[Lg.l9];exact q
  rintro rfl;exact AM I.fresh q
 induction v using V.casesOn with
 |tup l=>
  cases hi
  obtain⟨a,o,vs,n,rfl,hk,hc,hd,hm,hr⟩:=hv.nP
  exact kF ⟨o,I.kn hk,hc,n,hd⟩ (fresh rfl fun lZ y=>.tup _ a o vs n 0 _ (y.kn hk) hc hd (hr.mono y) rfl rfl)
 |range lo qx st=>
  cases Option.some.inj hi
  obtain⟨a,t1,t2,t3,rfl,hk,hr⟩:=hv.pR
  refine wpAny_pyIter_range (I.kn hk) (V8 hr) (fresh rfl fun lZ y=>?_)
  rw[OD]
  have:=AL.range (base:=base) (lg:=lZ) lo st (Cs lo qx st) 0 (ie _)
  simpa using this
 |str l=>
  cases hi
  obtain⟨⟨t,rfl⟩,hl⟩:=hv.mi
  refine wpAny_pyIter_ascii (by simp[sx];exact hl.2) (fresh rfl fun lZ y=>.str _ t 0 _ hl rfl rfl)
 |lX n=>
  obtain⟨xs,hm,hi⟩:=Option.map_eq_some_iff.mp (show(By μ n).map _=some (items,c)from hi)
  cases hi
  obtain⟨p,d,rfl,hr⟩:=hv.mB
  obtain⟨vs,k,hg,rfl,hl,tQ,nu,nM⟩:=Cp I hr (Ba hm)
  exact wpAny_pyIter_list (A9 hg) (fresh rfl fun lZ y=>.list n p _ 0 _ (y.mw _ _ hr) rfl rfl)
 |_=>exact Ao hi
theorem X5{R:Option Value->Shared->Prop}(H:ov A s.heap)(I:Inv base K e m fr env lg μ s.heap)(ni:it∉oE A)(hl:lg.led it=some o)(x:AL base lg items c k o)(hs:HG c μ)
  (oP:∀v z o' h' tk,items[k]?=some v->Aw base lg v z->AL base lg items c (k+1) o'->h'.get? it=some o'->Heap.SameBut it s.heap h'->R (some z) {s with heap:=h',toks:=tk})
  (pN:items.length<=k->∀h',Heap.ExtBut it s.heap h'->R none {s with heap:=h'}):wpAny (model prog w) A (pyNext (.ref it)) R E s:=by
 have g:=(I.led _ _ hl).1
 cases x with
 |list n a xs k o h1 h2 h3=>
  obtain⟨vs,k',hg,_,hle,tQ,nu,nM⟩:=Cp I h1 hs
  by_cases q:k<items.length
  ·obtain⟨z,hz,rz⟩:=tQ.at (i:=k) (v:=items[k]) (by simp[q])
   refine wpAny_pyNext_list_item ⟨o,g,h2,h3⟩ (A9 hg) (x:=z) (by refine iF▸?_;exact hz) fun h' oY pP=>?_
   obtain⟨o',g',c',d'⟩:=oY
   exact oP _ _ o' h' s.toks (by simp[q]) rz (.list n a items (k+1) o' h1 c' d') g' pP
  ·exact KT H ni ⟨o,g,h2,h3⟩ (A9 hg) (by simp;exact pe (nC _ _ _) mj nF mj mE mE nF rfl (hM nu) (Nat.not_lt.mp q)) fun h' he=>pN (by exact tn (Nat.not_lt.mp q)) h' he
 |tup l t ot vs nn k o a b c' d h2 h3=>
  have ht:s.heap.IsTuple t vs:=⟨ot,I.kn a,b,nn,c'⟩
  have nu:items.length=vs.size:=by have:=d.1;exact this
  by_cases q:k<items.length
  ·obtain⟨z,hz,rz⟩:=d.at (i:=k) (v:=items[k]) (by simp[q])
   refine lv ⟨o,g,h2,h3⟩ ht (x:=z) (by refine iF▸?_;exact hz) fun h' oY pP=>?_
   obtain⟨o',g',uh,d'⟩:=oY
   exact oP _ _ o' h' s.toks (by simp[q]) rz (.tup items t ot vs nn (k+1) o' a b c' d uh d') g' pP
  ·exact Dv H ni ⟨o,g,h2,h3⟩ ht (by simp;exact pe (nC _ _ _) mE nF mE mj mj nF rfl (hM nu.symm) (Nat.not_lt.mp q)) fun h' he=>pN (by exact tn (Nat.not_lt.mp q)) h' he
 |range lo st n k hk=>
  by_cases q:k<n
  ·refine wpAny_pyNext_range_item (x:=lo+k*st) (left:=(n:Int) - k) (step:=st) g (by exact mJ (mU _ _) (.add (.num 0) (.num 1)) (.sub mQ mh) (mm 0 1) mQ rfl (Int.ofNat_lt.mpr q)) fun h' oY pP=>?_
   refine oP _ _ _ h' _ (Qj n k lo st q) (.int _ _) ?_ oY pP
   have e1:lo+k*st+st=lo+((k+1:Nat):Int)*st:=by push_cast;rw[Int.add_mul];exact hZ (ow (nC _ _ _) (.add (.add mh mQ) oI) (.add mh (.add mQ (.mulL 1 oI))) rfl) (ow (nC _ _ _) (.add mh (.add mQ (.mulL 1 oI))) (.add (.add mh mQ) oI) rfl)
   have e2:(n:Int) - k - 1=(n:Int) - ((k+1:Nat):Int):=by push_cast;exact hZ (ow (mU _ _) (.sub (.sub mh mQ) (.num 1)) (.sub mh (mm 1 1)) rfl) (ow (mU _ _) (.sub mh (mm 1 1)) (.sub (.sub mh mQ) (.num 1)) rfl)
   (refine e1.symm▸?_;refine e2.symm▸?_)
   exact .range lo st n (k+1) q
  ·exact JZ H (x:=lo+k*st) (left:=(n:Int) - k) (step:=st) g (by exact mJ (mU _ _) (.sub mh mQ) (.num 0) mh mQ rfl (Int.ofNat_le.mpr (Nat.not_lt.mp q))) fun h' he=>pN (by rw[Kd];exact tn (Nat.not_lt.mp q)) h' he
 |str t u k o ok h2 h3=>
  by_cases q:k<t.length
  ·refine wpAny_pyNext_ascii_item ⟨o,g,h2,h3⟩ (c:=t[k]) (by simp[sx,q]) fun h' oY pP=>?_
   obtain⟨o',g',uh,d'⟩:=oY
   exact oP _ _ o' h' _ (by simp[q]) (.str [t[k]] _ ⟨by simp[lim],fun z hz=>by refine(List.mem_singleton.mp hz).symm▸?_;exact ok.2 _ (j6 q)⟩) (.str t u (k+1) o' ok uh d') g' pP
  ·exact JY H ni ⟨o,g,h2,h3⟩ (by simp[sx];exact tn (Nat.not_lt.mp q)) fun h' he=>pN (by simp;exact tn (Nat.not_lt.mp q)) h' he
end
noncomputable def BB(e:Env):List (Str×NameKind)->List (Str×Addr)->List (Str×Addr)
 |[],acc=>acc
 |(n,k) :: r,acc=>if k==.free then(match e.cells.lookup n with|some ca=>BB e r ((n,ca) :: acc)|none=>BB e r acc)else BB e r acc
theorem HV(e:Env):∀(names:List (Str×NameKind)) (acc:List (Str×Addr)),(∀p∈names,p.2=.free->∃ca,e.cells.lookup p.1=some ca)->
  (forIn names acc fun(x:Str×NameKind) (r:List (Str×Addr))=>(if(x.2==.free)=true then(do let a <- cellOf e x.1;pure (ForInStep.yield ((x.1,a) :: r)))else pure (ForInStep.yield r):Sem (ForInStep (List (Str×Addr)))))=pure (BB e names acc)
 |[],acc,_=>rfl
 |(n,k) :: r,acc,h=>by
  rw[List.forIn_cons]
  have ih:=fun acc=>HV e r acc fun p hp=>h p (gA _ hp)
  unfold BB
  by_cases q:(k==NameKind.free)=true
  ·obtain⟨ca,hc⟩:=h (n,k) (.head _) (by exact gH q)
   simp only[q,kG,hc]
   unfold cellOf
   simp only[hc,pure_bind]
   exact ih _
  ·simp only[q]
   exact ih _
theorem W6{e:Env}{scope:Scope}(h:∀p∈scope.names,p.2=.free->∃ca,e.cells.lookup p.1=some ca):closureFor scope e=pure (BB e scope.names []):=by
 have:=HV e scope.names [] h
 show((forIn scope.names [] fun(x:Str×NameKind) (s:List (Str×Addr))=>(if(x.2==.free)=true then(do let a <- cellOf e x.1;pure (ForInStep.yield ((x.1,a) :: s)))else pure (ForInStep.yield s):Sem (ForInStep (List (Str×Addr))))) >>= fun cs=>pure cs)=_
 refine this.symm▸?_;rfl
theorem Fz{r:List (Str×Addr)}(h:((x,c) :: r).lookup n=some ca):(n=x/\c=ca)\/r.lookup n=some ca:=by
 rw[hU]at h
 cases q:n==x with
 |true=>rw[q]at h;exact .inl ⟨gN q,Option.some.inj h⟩
 |false=>rw[q]at h;exact .inr h
theorem U0{r:List (Str×Addr)}(y:n≠x)(h:r.lookup n=some ca):((x,c) :: r).lookup n=some ca:=by
 (rewrite[hU];refine(beq_eq_false_iff_ne.mpr y).symm▸?_);exact h
theorem ZT{n:Str}{c:Addr}{r:List (Str×Addr)}:((n,c) :: r).lookup n=some c:=by
 rw[hU,ip]
theorem JW(m:(n,k)∈(x,k') :: r)(q:¬(n=x/\k=k')):(n,k)∈r:=by
 rcases List.mem_cons.mp m with z|z
 ·exact absurd ⟨congrArg Prod.fst z,congrArg Prod.snd z⟩ q
 ·exact z
theorem Lc(e:Env):BB e ((x,.free) :: r) acc=(match e.cells.lookup x with|some ca=>BB e r ((x,ca) :: acc)|none=>BB e r acc):=rfl
theorem N0(e:Env)(q:¬k=.free):BB e ((x,k) :: r) acc=BB e r acc:=iI fun z=>q (gN z)
theorem Pu:cellsFrom k ((x,.cell) :: r) acc=cellsFrom (k+1) r ((x,k) :: acc):=rfl
theorem Ft(q:¬kd=.cell):cellsFrom k ((x,kd) :: r) acc=cellsFrom k r acc:=iI fun z=>q (gN z)
theorem VM(q:¬kd=.cell):pushCells h ((x,kd) :: r)=pushCells h r:=iI fun z=>q (gN z)
theorem KO(e:Env)(names:List (Str×NameKind)):∀(acc:List (Str×Addr)) (n:Str) (ca:Addr),(BB e names acc).lookup n=some ca->acc.lookup n=some ca\/(e.cells.lookup n=some ca/\(n,.free)∈names):=by
 induction names with
 |nil=>exact fun acc n ca h=>.inl h
 |cons p r ih=>
  obtain⟨x,k⟩:=p
  intro acc n ca h
  by_cases q:k=.free
  ·subst q
   rw[Lc]at h
   cases hc:e.cells.lookup x with
   |none=>
    replace h:=hc▸h
    exact(ih acc n ca h).imp id fun w=>⟨w.1,.tail _ w.2⟩
   |some cb=>
    rw[hc]at h
    refine(ih _ n ca h).elim (fun z=>(Fz z).elim (fun w=>?_) .inl) fun w=>.inr ⟨w.1,.tail _ w.2⟩
    (refine w.1.symm▸?_;refine w.2▸?_)
    exact .inr ⟨hc,.head _⟩
  ·rw[N0 e q]at h
   exact(ih acc n ca h).imp id fun w=>⟨w.1,.tail _ w.2⟩
theorem JA(e:Env)(names:List (Str×NameKind)):∀(acc:List (Str×Addr)) (n:Str) (ca:Addr),e.cells.lookup n=some ca->((n,.free)∈names\/acc.lookup n=some ca)->(BB e names acc).lookup n=some ca:=by
 induction names with
 |nil=>exact fun acc n ca _ h=>h.elim (fun h=>nomatch h) id
 |cons p r ih=>
  obtain⟨x,k⟩:=p
  intro acc n ca hc h
  by_cases q:k=.free
  ·subst q
   rw[Lc]
   cases hx:e.cells.lookup x with
   |none=>exact ih acc n ca hc (h.imp (fun m=>JW m fun z=>AM hx (z.1▸hc)) id)
   |some cb=>
    refine ih _ n ca hc ?_
    by_cases y:n=x
    ·subst y;rw[same hc hx];exact .inr ZT
    ·exact h.imp (fun m=>JW m fun z=>y z.1) (U0 y)
  ·rw[N0 e q]
   exact ih acc n ca hc (h.imp (fun m=>JW m fun z=>q z.2.symm) id)
noncomputable def DL:Obj:={cls:=.type "cell",data:=.cell none}
theorem Me(names:List (Str×NameKind)):∀(acc:List (Str×Addr)) (h:Heap) (n:Str) (ca:Addr),(cellsFrom h.objs.size names acc).lookup n=some ca->
  acc.lookup n=some ca\/(h.objs.size<=ca/\(pushCells h names).get? ca=some DL/\(n,.cell)∈names):=by
 induction names with
 |nil=>exact fun acc h n ca q=>.inl q
 |cons p r ih=>
  obtain⟨x,k⟩:=p
  intro acc h n ca q
  by_cases z:k=.cell
  ·subst z
   have ih:=ih ((x,h.objs.size) :: acc) (h.push DL) n ca
   rw[i6]at ih
   refine(ih q).elim (fun y=>(Fz y).elim (fun w=>?_) .inl) fun w=>.inr ⟨iQ w.1,w.2.1,.tail _ w.2.2⟩
   (refine w.1.symm▸?_;refine w.2▸?_)
   exact .inr ⟨gF _,pushCells_keeps r (h.push DL) _ _ (hO _ rfl),.head _⟩
  ·replace q:=(Ft z)▸q
   refine(VM z).symm▸?_
   exact(ih acc h n ca q).imp id fun w=>⟨w.1,w.2.1,.tail _ w.2.2⟩
theorem KM(names:List (Str×NameKind)):∀(acc:List (Str×Addr)) (k:Nat),(∀n ca,acc.lookup n=some ca->ca<k)->(∀n n' ca,acc.lookup n=some ca->acc.lookup n'=some ca->n=n')->
  ∀n n' ca,(cellsFrom k names acc).lookup n=some ca->(cellsFrom k names acc).lookup n'=some ca->n=n':=by
 induction names with
 |nil=>exact fun acc k _ inj=>inj
 |cons p r ih=>
  obtain⟨x,kd⟩:=p
  intro acc k lt inj
  by_cases z:kd=.cell
  ·subst z
   refine ih _ (k+1) (fun n ca h=>(Fz h).elim (fun w=>w.2▸iM _) fun h=>g6 (lt n ca h)) fun n n' ca h h'=>?_
   refine(Fz h).elim (fun w=>(Fz h').elim (fun w'=>w.1.trans w'.1.symm) fun h'=>?_) fun h=>(Fz h').elim (fun w'=>?_) fun h'=>inj n n' ca h h'
   ·exact absurd (lt _ _ h') (w.2▸ic _)
   ·exact absurd (lt _ _ h) (w'.2▸ic _)
  ·refine(Ft z).symm▸?_
   exact ih acc k lt inj
theorem Bk(names:List (Str×NameKind)):∀(acc:List (Str×Addr)) (k:Nat) (n:Str),(n,.cell)∈names\/(∃ca,acc.lookup n=some ca)->∃ca,(cellsFrom k names acc).lookup n=some ca:=by
 induction names with
 |nil=>exact fun acc k n h=>h.elim (fun h=>nomatch h) id
 |cons p r ih=>
  obtain⟨x,kd⟩:=p
  intro acc k n h
  by_cases z:kd=.cell
  ·subst z
   rw[Pu]
   refine ih _ (k+1) n ?_
   by_cases y:n=x
   ·subst y;exact .inr ⟨k,ZT⟩
   ·exact h.imp (fun m=>JW m fun w=>y w.1) fun nS=>by obtain⟨ca,h⟩:=nS;exact⟨ca,U0 y h⟩
  ·rw[Ft z]
   exact ih acc k n (h.imp (fun m=>JW m fun w=>z w.2.symm) id)
theorem E4(names:List (Str×NameKind)):∀(acc:List (Str×Addr)) (k:Nat) (n:Str) (ca:Addr),(n,.cell)∉names->acc.lookup n=some ca->(cellsFrom k names acc).lookup n=some ca:=by
 induction names with
 |nil=>exact fun acc k n ca _ h=>h
 |cons p r ih=>
  obtain⟨x,kd⟩:=p
  intro acc k n ca nm h
  have nm':(n,.cell)∉r:=fun m=>nm (.tail _ m)
  by_cases z:kd=.cell
  ·subst z
   exact ih _ (k+1) n ca nm' (U0 (fun y=>nm (y▸.head _)) h)
  ·refine(Ft z).symm▸?_
   exact ih acc k n ca nm' h
theorem Fj(scope:Scope)(e:Env)(hk:e.scope.kind=.function)(n:Str):(relabel scope e).names.lookup n=(scope.names.lookup n).map fun k=>if k==.free&&e.kindOf n==some .cell then .cell else k:=by
 unfold relabel
 dsimp only
 induction scope.names with
 |nil=>rfl
 |cons p r ih=>
  obtain⟨x,k⟩:=p
  rw[iZ]
  simp only[hk,ip,lr]at ih ⊢
  by_cases q:(k==NameKind.free&&e.kindOf x==some NameKind.cell)=true
  ·simp only[q,kG]
   rw[hU,hU]
   by_cases y:(n==x)=true
   ·have:n=x:=beq_iff_eq.mp y
    subst this
    rw[y];simp only[ki,q,kG]
   ·simp only[y];exact ih
  ·simp only[q]
   rw[hU]
   simp only[jW,kH]
   rw[hU]
   by_cases y:(n==x)=true
   ·have:n=x:=beq_iff_eq.mp y
    subst this
    rw[y];simp only[ki,q];rfl
   ·simp only[y];exact ih
theorem X4{M:Model}{A:Around}{E:Value->Shared->Prop}{s:Shared}{g:Addr}{cl:List (Str×Addr)}{qual:Str}{e:Env}{Q:Env->Shared->Prop}
  (h:Q {scope:=scope,locals:=s.heap.objs.size,globals:=g,cells:=cellsFrom (s.heap.push {cls:=.type "dict",data:=.dict #[]}).objs.size scope.names cl,qual:=qual,func:=none,code:=e.code,frame:=e.frame,builtins:=e.builtins}
   {s with heap:=pushCells (s.heap.push {cls:=.type "dict",data:=.dict #[]}) scope.names}) :
  wpAny M A (newFunctionEnv scope g cl [] qual none .none (some e)) Q E s:=by
 refine gx (wpAny_alloc ?_)
 refine gx (wpAny_layCells _ (fun name kind cells=>by cases hkc:kind==NameKind.cell<;>simp[hkc]) _ _ _ _ ?_)
 exact gx (gO (gO h))
section
variable{base:Heap}{K:Frag}{e:Env}{m:Str->Option Value}{fr:List oa}{env env':An}{lg:Lg}{μ:MH}{h:Heap}
theorem Inv.withEnv(I:Inv base K e m fr env lg μ h)(k:∀x v,env' x=some v->R6 e x->FO base e m lg x v):Inv base K e m fr env' lg μ h:={I with vars:=k}
open Classical in
noncomputable def Lg.cells(lg:Lg)(P:Addr->Prop):Lg:={lg with led:=fun a=>if P a then some DL else lg.led a}
theorem Inv.qc(I:Inv base K e m fr env lg μ h)(P:Addr->Prop)(hP:∀a,P a->lg.led a=none/\base.get? a=none/\a≠e.locals/\h.get? a=some DL):Inv base K e m fr env (lg.cells P) μ h/\Ext lg (lg.cells P):=by
 have keep:∀b p,lg.led b=some p->(lg.cells P).led b=some p:=fun b p q=>by
  unfold Lg.cells;dsimp only
  rw[iI];exact q
  intro z;exact AM ((hP b z).1) q
 have x:Ext lg (lg.cells P):=⟨fun b p _ q=>keep b p q,fun b p c q=>⟨p,c,keep b p q⟩,fun _ _ q=>q⟩
 refine⟨⟨I.old,I.ns,I.nG,?_,fun b p q=>?_,fun f hf=>?_,I.dist,I.apart,fun y v q ss=>(I.vars y v q ss).mono x fun b p _ z=>keep b p z,I.heap.len,I.heap.nodup,fun n p q=>?_⟩,x⟩
 ·unfold Lg.cells;dsimp only
  rw[iI];exact I.mH
  intro z;exact(hP _ z).2.2.1 rfl
 ·unfold Lg.cells at q;dsimp only at q
  split at q
  ·rename_i z;obtain rfl:=Option.some.inj q;exact⟨(hP b z).2.2.2,(hP b z).2.1⟩
  ·exact I.led b p q
 ·obtain⟨⟨p,a1,a2⟩,a3⟩:=I.frames f hf
  exact⟨⟨p,keep _ _ a1,a2⟩,fun c o q=>⟨keep _ _ (a3 c o q).1,(a3 c o q).2⟩⟩
 ·obtain⟨a',d,a1,a2⟩:=I.heap.each n p q
  exact⟨a',d,a1,a2.mono x fun ob z=>keep _ _ z⟩
end
theorem CK{scope:Scope}{sc:Sc}(h:Dh scope sc=true):scope.kind=.function/\∀n k,(n,k)∈scope.names->scope.names.lookup n=some k/\(k=.local\/k=.cell\/k=.globalImplicit\/(k=.free/\(sc.lookup n=some .cell\/sc.lookup n=some .free))):=by
 unfold Dh at h
 rw[gI,ib]at h
 refine⟨by exact gH h.1,fun n k hm=>?_⟩
 have:=h.2 (n,k) hm
 dsimp only at this
 rw[gI]at this
 refine⟨beq_iff_eq.mp this.1,?_⟩
 induction k using NameKind.casesOn with
 |«local»=>exact .inl rfl
 |cell=>exact .inr (.inl rfl)
 |free=>exact .inr (.inr (.inr ⟨rfl,(ia _ _▸this.2:_\/_).imp beq_iff_eq.mp beq_iff_eq.mp⟩))
 |globalExplicit=>exact nomatch (this.2:false=true)
 |globalImplicit=>exact .inr (.inr (.inl rfl))
theorem AN{names:Sc}(h:names.lookup n=some k):(n,k)∈names:=mem_of_lookup h
theorem VE{scope:Scope}(h:HX scope xs=true)(hy:y<Bg.length)(hk:scope.names.lookup (nm y)=some .local\/scope.names.lookup (nm y)=some .cell):(∃x∈xs,y=x):=by
 unfold HX at h
 rw[ib]at h
 have key:∀k,(k=.local\/k=.cell)->scope.names.lookup (nm y)=some k->∃x∈xs,y=x:=fun k hk hl=>by
  have:=h (nm y,k) (AN hl)
  dsimp only at this
  rw[ia,ia]at this
  rcases this with(z|z)|z
  ·rcases hk with rfl|rfl<;>simp at z
  ·rw[List.any_eq_true]at z
   obtain⟨x,hx,e⟩:=z
   rw[gI,hG]at e
   exact⟨x,hx,Hy hy e.1 (beq_iff_eq.mp e.2)⟩
  ·exfalso
   rw[jk,List.any_eq_false]at z
   have:=z (Bg.getD y []) (by rw[gV,gW hy];exact j6 hy)
   exact this (by show(nm y==nm y)=true;exact ip _)
 rcases hk with q|q
 ·exact key _ (.inl rfl) q
 ·exact key _ (.inr rfl) q
noncomputable def N2(scope:Scope)(e:Env)(C:Addr):Env:=
 {scope:=relabel scope e,locals:=C,globals:=e.globals,cells:=cellsFrom (C+1) scope.names (BB e scope.names []),qual:=e.qual,func:=none,code:=e.code,frame:=e.frame,builtins:=e.builtins}
noncomputable def mn.inner(S:mn)(scope:Scope)(C:Addr)(m:Str->Option Value)(env:An)(lg:Lg):mn:=
 {S with e:=N2 scope S.e C,fr:=⟨S.e,m,AU env S.e lg⟩ :: S.fr,sc:=scope.names}
noncomputable def Ee(h:Heap)(scope:Scope):Heap:=pushCells (h.push {cls:=.type "dict",data:=.dict #[]}) scope.names
theorem Sp{S:mn}{FA:Nat->Addr}{scope:Scope}(G:Bi S FA j)(hs:Dh scope S.sc=true):QQ (N2 scope S.e C) scope.names:=by
 have hk:=(CK hs).1;have hn:=(CK hs).2
 have lk:=Fj scope S.e G.env.kind
 refine⟨hk,G.env.globals,G.env.builtins,fun n h=>?_,fun n h=>?_,fun n h=>?_⟩
 ·show(relabel scope S.e).names.lookup n=_
  rw[lk,h];rfl
 ·show(relabel scope S.e).names.lookup n=_
  rcases h with h|h
  ·rw[lk,h];rfl
  ·rw[lk,h]
   have:=(hn n .free (AN h)).2
   have hc:S.e.kindOf n=some .cell:=by
    rcases this with z|z|z|⟨_,z⟩
    ·cases z
    ·cases z
    ·cases z
    ·exact G.env.cell _ z
   simp[hc]
 ·show(relabel scope S.e).names.lookup n=_
  rw[lk,h];rfl
theorem Px{S:mn}{FA:Nat->Addr}{m:Str->Option Value}{h:Heap}(G:Bi S FA j)(hs:Dh scope S.sc=true)(ho:HX scope xs=true)
  (I:S.I m env lg μ h) (H:S.H lg) :
  ∃lZ,(S.inner scope h.objs.size m env lg).I (fun _=>none) (AG xs env) lZ μ (Ee h scope)/\Ext lg lZ/\(S.inner scope h.objs.size m env lg).H lZ/\Bi (S.inner scope h.objs.size m env lg) FA j/\
   lZ.led h.objs.size=none/\S.base.get? h.objs.size=none/\h.objs.size≠S.e.locals:=by
 have hk:=(CK hs).1;have hn:=(CK hs).2
 have hC:(h.push {cls:=.type "dict",data:=.dict #[]}).objs.size=h.objs.size+1:=i6 ..
 have oR:∀b o,(h.push {cls:=.type "dict",data:=.dict #[]}).get? b=some o->(Ee h scope).get? b=some o:=fun b o q=>pushCells_keeps _ _ b o q
 have keep:∀b o,h.get? b=some o->(Ee h scope).get? b=some o:=fun b o q=>oR b o (gG _ q)
 have I1:S.I m env lg μ (Ee h scope):=I.keeps keep
 have none_of:∀a,h.objs.size<=a->h.get? a=none:=fun a ha=>by
  cases q:h.get? a with
  |none=>rfl
  |some o=>exact absurd (g8 q) (Nat.not_lt.mpr ha)
 have m4:∀a,h.objs.size<=a->lg.led a=none:=fun a ha=>I.free (none_of a ha)
 have nk:∀a,h.objs.size<=a->S.base.get? a=none:=fun a ha=>I.nK (none_of a ha)
 have oF:S.e.locals<h.objs.size:=by obtain⟨o,g,_⟩:=H6.of I.ns;exact g8 g
 have at_:=Me scope.names (BB S.e scope.names []) (h.push {cls:=.type "dict",data:=.dict #[]})
 rw[hC]at at_
 let P:Addr->Prop:=fun a=>h.objs.size+1<=a/\(Ee h scope).get? a=some DL
 obtain⟨I2,x2⟩:=I1.qc P fun a ha=>⟨m4 a (iQ ha.1),nk a (iQ ha.1),fun z=>absurd oF (Nat.not_lt.mpr (z▸iQ ha.1)),ha.2⟩
 have qN:(lg.cells P).led h.objs.size=none:=by
  unfold Lg.cells;dsimp only
  exact(iI fun z=>absurd z.1 (Nat.not_succ_le_self _)).trans (m4 _ (gF _))
 have cl:∀n ca,(BB S.e scope.names []).lookup n=some ca->S.e.cells.lookup n=some ca/\(n,.free)∈scope.names:=fun n ca q=>by
  rcases KO S.e scope.names [] n ca q with z|z
  ·exact Ao z
  ·exact z
 have rd:∀n,(n,.free)∈scope.names->∃ca o,S.e.cells.lookup n=some ca/\Da o/\lg.led ca=some o:=fun n q=>by
  rcases(hn n .free q).2 with z|z|z|⟨_,z⟩
  ·cases z
  ·cases z
  ·cases z
  ·exact H.own.led n z
 have uj:∀n ca,(BB S.e scope.names []).lookup n=some ca->ca<h.objs.size:=fun n ca q=>by
  obtain⟨a,b⟩:=cl n ca q
  obtain⟨cb,o,c1,_,c3⟩:=rd n b
  obtain rfl:=same a c1
  exact g8 (I.led _ _ c3).1
 have pF:∀n ca,(N2 scope S.e h.objs.size).cells.lookup n=some ca->(n,.free)∉scope.names->P ca:=fun n ca q nf=>by
  rcases at_ n ca q with z|⟨z1,z2,z3⟩
  ·exact absurd (cl n ca z).2 nf
  ·exact⟨z1,z2⟩
 have u5:∀a,P a->(lg.cells P).led a=some DL:=fun a ha=>by unfold Lg.cells;dsimp only;exact(iJ ha)
 have own:KZ (N2 scope S.e h.objs.size) scope.names (⟨S.e,m,AU env S.e lg⟩ :: S.fr) (lg.cells P):=by
  refine⟨fun n ca q1 q2 f hf=>?_,KM scope.names _ _ (fun n ca q=>g6 (uj n ca q)) (fun n n' ca a b=>H.own.inj _ _ _ (cl n ca a).1 (cl n' ca b).1),fun n q=>?_⟩
  ·have nf:(n,NameKind.free)∉scope.names:=fun q=>by have:=(hn n .free q).1;replace this:=q1▸this;cases this
   have hp:=pF n ca q2 nf
   have ln:=m4 ca (iQ hp.1)
   cases z:f.cells ca with
   |none=>rfl
   |some o=>
    exfalso
    rcases List.mem_cons.mp hf with rfl|hf
    ·have z:AU env S.e lg ca=some o:=z
     unfold AU at z
     split at z
     ·replace z:=ln▸z;exact Ao z
     ·exact Ao z
    ·have:=((I.frames f hf).2 ca o z).1
     exact AM ln this
  ·rcases q with q|q
   ·obtain⟨ca,pj⟩:=Bk scope.names (BB S.e scope.names []) (h.objs.size+1) n (.inl (AN q))
    have nf:(n,NameKind.free)∉scope.names:=fun z=>by have:=(hn n .free z).1;exact nomatch q.symm.trans this
    exact⟨ca,DL,pj,⟨_,rfl⟩,u5 ca (pF n ca pj nf)⟩
   ·obtain⟨ca,o,c1,c2,c3⟩:=rd n (AN q)
    have nc:(n,NameKind.cell)∉scope.names:=fun z=>by have:=(hn n .cell z).1;cases same q this
    refine⟨ca,o,E4 _ _ _ n ca nc (JA S.e scope.names [] n ca c1 (.inl (AN q))),c2,?_⟩
    unfold Lg.cells;dsimp only
    rw[iI];exact c3
    intro z;exact AM (m4 ca (iQ z.1)) c3
 have lk:=Fj scope S.e G.env.kind
 obtain⟨oL,I3,x3⟩:=I2.switch (cs:=AU env S.e lg) (e':=N2 scope S.e h.objs.size) (m':=fun _=>none) (env':=AG xs env) (fun a o q=>by
   unfold AU at q ⊢
   split at q
   ·rename_i z;rw[iJ z]
    unfold Lg.cells;dsimp only
    rw[iI];exact q
    intro z;exact AM (m4 a (iQ z.1)) q
   ·exact Ao q) ((Heap.Ns.new h (.type "dict")).keeps oR) (nk _ (gF _)) qN (iK (iV oF))
  (fun f hf z=>by
   obtain⟨⟨o,a1,_⟩,_⟩:=I.frames f hf
   have:=g8 (I.led _ _ a1).1
   rw[z]at this;exact ic _ this) (fun lZ xx kk y v q ss=>by
    unfold AG at q
    split at q
    ·exact Ao q
    ·rename_i ny
     have ny:y∉xs:=by simpa using ny
     have pG:((scope.names.lookup (nm y)).map fun k=>if k==.free&&S.e.kindOf (nm y)==some .cell then NameKind.cell else k)=some .local\/((scope.names.lookup (nm y)).map fun k=>if k==.free&&S.e.kindOf (nm y)==some .cell then NameKind.cell else k)=some .cell:=by
      rcases ss.2 with z|z
      ·exact .inl (by rw[<- lk];exact z)
      ·exact .inr (by rw[<- lk];exact z)
     cases hl:scope.names.lookup (nm y) with
     |none=>rw[hl]at pG;simp at pG
     |some k=>
      replace pG:=hl▸pG
      have hm:=hn _ _ (AN hl)
      by_cases hkf:k=.free
      ·subst hkf
       obtain⟨ca,o,c1,c2,c3⟩:=rd _ (AN hl)
       have sees:R6 S.e y:=⟨ss.1,.inr (by
        rcases hm.2 with z|z|z|⟨_,z⟩
        ·cases z
        ·cases z
        ·cases z
        ·exact G.env.cell _ z)⟩
       obtain⟨hy,hv⟩:=I2.vars y v q sees
       have kc:S.e.kindOf (nm y)=some .cell:=by
        rcases hm.2 with z|z|z|⟨_,z⟩
        ·cases z
        ·exact nomatch z
        ·exact nomatch z
        ·exact G.env.cell _ z
       rcases hv with⟨z,_⟩|⟨_,cb,ob,w,d1,d2,d3,d4⟩
       ·cases same kc z
       ·obtain rfl:=same c1 d1
        have nc:(nm y,NameKind.cell)∉scope.names:=fun z=>by have:=(hn _ .cell z).1;cases same hl this
        refine⟨hy,.inr ⟨?_,ca,ob,w,E4 _ _ _ _ ca nc (JA S.e scope.names [] _ ca c1 (.inl (AN hl))),kk _ _ d2,d3,d4.mono xx⟩⟩
        show(relabel scope S.e).names.lookup _=_
        (rewrite[lk];refine hl.symm▸?_);simp[kc]
      ·exfalso
       have:k=.local\/k=.cell:=by
        have e1:(k==NameKind.free)=false:=by simpa using hkf
        simp only[ki,e1,kx,jW,kH,Option.some.injEq]at pG
        exact pG
       obtain⟨x,hx,ex⟩:=VE ho ss.1 (by rcases this with rfl|rfl;exact .inl hl;exact .inr hl)
       exact ny (ex▸hx))
 have x4:Ext lg ((lg.cells P).put S.e.locals oL):=x2.trans x3
 refine⟨(lg.cells P).put S.e.locals oL,I3,x4,⟨H.hl.mono x4,own.mono x3⟩,⟨G.base,Sp G hs,G.units,?_,G.calls⟩,?_,nk _ (gF _),iK (iV oF)⟩
 ·obtain⟨l,hl,hx⟩:=G.frames
  refine⟨l,hl,fun y hy=>⟨.inr ?_,(hx y hy).2⟩⟩
  rcases(hx y hy).1 with z|⟨f,hf,z⟩
  ·exact⟨_,.head _,z.symm⟩
  ·exact⟨f,gA _ hf,z⟩
 ·exact(Lg.l9 _ _ (iK (iV oF))).trans (qN)
theorem Inv.u6{base:Heap}{K:Frag}{e:Env}{m:Str->Option Value}{fr:List oa}{env:An}{lg:Lg}{μ:MH}{h h':Heap}(I:Inv base K e m fr env lg μ h){a:Addr}{o:Obj}(hl:lg.led a=some o)(hi:pC o)(nv:¬tF o)
  (k:∀b p,b≠a->h.get? b=some p->h'.get? b=some p):Inv base K e m fr env (lg.drop a) μ h':=by
 have hb:=(I.led a o hl).2
 have nL:e.locals≠a:=by rintro rfl;exact AM I.mH hl
 have ne:∀b p,b≠a->lg.led b=some p->(lg.drop a).led b=some p:=fun b p n q=>by unfold Lg.drop;dsimp only;exact(iI n).trans (q)
 have x:G1 lg (lg.drop a):=⟨fun b p v q=>ne b p (fun y=>by(rw[y]at q;replace q:=hl▸q);obtain rfl:=Option.some.inj q;exact nv v) q,fun _ _ q=>q⟩
 have o8:∀b p,¬pC p->lg.led b=some p->(lg.drop a).led b=some p:=fun b p n q=>ne b p (fun y=>by(rw[y]at q;replace q:=hl▸q);obtain rfl:=Option.some.inj q;exact n hi) q
 have oz:∀{p:Obj},Da p->¬pC p:=fun nS i=>by obtain⟨v,q⟩:=nS;exact i.2.2 v q
 refine⟨fun b p q=>k b p (fun z=>by(rw[z]at q;replace q:=hb▸q);exact Ao q) (I.old b p q),?_,I.nG,by unfold Lg.drop;dsimp only;refine(iI nL).symm▸?_;exact I.mH,fun b p q=>?_,fun f hf=>?_,I.dist,I.apart,fun y v q ss=>(I.vars y v q ss).mL x fun b p c z=>o8 b p (oz c) z,I.heap.len,I.heap.nodup,fun n p q=>?_⟩
 ·obtain⟨on,es,ep,q1,q2⟩:=I.ns
  exact⟨on,es,ep,k _ _ nL q1,q2⟩
 ·unfold Lg.drop at q;dsimp only at q
  split at q
  ·exact Ao q
  ·rename_i n;exact⟨k b p n (I.led b p q).1,(I.led b p q).2⟩
 ·obtain⟨⟨p,a1,a2⟩,a3⟩:=I.frames f hf
  refine⟨⟨p,o8 _ _ (fun i=>?_) a1,a2⟩,fun c q z=>⟨o8 _ _ (oz (a3 c q z).2) (a3 c q z).1,(a3 c q z).2⟩⟩
  obtain⟨es,ep,d,_⟩:=a2
  exact i.2.1 _ _ d
 ·obtain⟨a',d,a1,a2⟩:=I.heap.each n p q
  refine⟨a',d,a1,a2.mL x fun ob z=>?_⟩
  obtain⟨qW,z',n'⟩:=a2.nR
  obtain rfl:=same z' z
  exact o8 _ _ n' z'
section
variable{S:mn}{FA:Nat->Addr}{j:Nat}{m:Str->Option Value}{env:An}{lg:Lg}{μ:MH}{s:Shared}
theorem Hu(I:S.I m env lg μ h)(H:HL S.A S.base lg)(hl:lg.led it=some o)(x:AL S.base lg items c k o):it∉oE S.A:=by
 intro hm
 rcases H with e|⟨a,oe,arr,e,kn,d,z⟩
 ·simp[oE,e]at hm
 ·simp[oE,e]at hm
  subst hm
  have:oe=o:=by
   rcases kn.2 with q|q
   ·obtain rfl:=same hl q;rfl
   ·exact AM ((I.led _ _ hl).2) q
  subst this
  induction x with
  |list n a xs k o h1 h2 h3=>rw[h3]at d;cases d;simp at z
  |tup l t ot vs nn k o _ _ _ _ h2 h3=>replace d:=h3▸d;cases d;simp at z
  |range lo st n k hk=>cases d;simp[rawInt]at z
  |str t u k o _ h2 h3=>rw[h3]at d;cases d;simp at z
theorem ae(H:S.H lg)(hl:lg.led it=some o)(hi:pC o)(hn:it∉oE S.A):S.H (lg.put it o'):=by
 refine⟨H.hl.imp id fun nS=>by obtain⟨a,oe,arr,e,kn,d,z⟩:=nS;exact⟨a,oe,arr,e,⟨kn.1,kn.2.imp (fun q=>(Lg.l9 _ _ (fun y=>hn (by refine y▸?_;simp[oE,e]))).trans q) id⟩,d,z⟩,H.own.apart,H.own.inj,fun n q=>?_⟩
 ·obtain⟨ca,oc,c1,c2,c3⟩:=H.own.led n q
  refine⟨ca,oc,c1,c2,?_⟩
  rw[Lg.l9];exact c3
  rintro rfl
  obtain rfl:=same hl c3
  obtain⟨v,c⟩:=c2
  exact hi.2.2 v c
theorem UX{E:Value->Shared->Prop}{Q:Unit->Shared->Prop}(x:AL S.base lg items c k o)(g:s.heap.get? it=some o)(q:Q () s) :
  wpAny S.M S.A (letOwnedTupleGo t (.ref it) z) Q E s:=by
 have core:∀a,wpAny S.M S.A (do let o <- load it
                                     match o.cls,o.data with
                                     |.type n,.fields vs=>if["enumerate","zip","dict_itemiterator","dict_reverseitemiterator","odict_iterator","itertools.zip_longest","itertools.pairwise"].contains n&&vs[0]?==some (rawInt a)then do rule "for.unpacks-the-owned-tuple";updateField it 0 .none else pure ()
                                     |_,_=>pure ():Sem Unit) Q E s:=fun a=>by
  refine gx (wpAny_load g ?_)
  induction x with
  |list n a xs k o h1 h2 h3=>simp only[h2,h3];rw[iI (fun h=>nomatch h)];exact gO q
  |tup l t ot vs nn k o _ _ _ _ h2 h3=>simp only[h2,h3];rw[iI (fun h=>nomatch h)];exact gO q
  |range lo st n k hk=>dsimp only;rw[iI (fun h=>nomatch h)];exact gO q
  |str t u k o _ h2 h3=>simp only[h2,h3];rw[iI (fun h=>nomatch h)];exact gO q
 induction t using Expr.casesOn<;>first|exact gO q|(induction z<;>first|exact gO q|exact core _)
theorem Nl{xs:List Nat}{one:Bool}{t:Expr}{it:Addr}{o:Obj}{items:List V}{c:Option (Nat×List V)}{k:Nat}{E:Value->Shared->Prop}{Qn:Shared->Prop}{Qs:Value->Shared->Prop}(G:Bi S FA j)(hc:E5 S.sc xs one t=true)
  (I:S.I m env lg μ s.heap) (H:S.H lg) (hl:lg.led it=some o) (x:AL S.base lg items c k o) (hs:HG c μ)
  (pN:items.length<=k->∀h' lZ,S.I m env lZ μ h'->lZ.mw=lg.mw->(∀lgA,Ext lgA lg->lgA.led it=none->Ext lgA lZ)->Qn {s with heap:=h'})
  (oP:∀v z,items[k]?=some v->∀env',AC xs one v env=some env'->∀s' lZ m' o',S.I m' env' lZ μ s'.heap->S.H lZ->(∀lgA,Ext lgA lg->lgA.led it=none->Ext lgA lZ)->(∃h' tk,s'={s with heap:=h',toks:=tk})->lZ.led it=some o'->AL S.base lZ items c (k+1) o'->
   (∀(n:Nat) (p:Addr×Addr),lg.mw[n]?=some p->lZ.mw[n]?=some p)->Qs z s')
  (hb:∀v,items[k]?=some v->∃env',AC xs one v env=some env') :
  wpAny S.M S.A (pyNext (.ref it)) (fun r s₁=>match r with|none=>Qn s₁|some z=>wpAny S.M S.A (letOwnedTupleGo t (.ref it) z) (fun _ s₂=>wpAny S.M S.A (assign t S.e z) (fun _ s₃=>Qs z s₃) E s₂) E s₁) E s:=by
 have ni:=Hu I H.hl hl x
 have hi:=x.oq
 refine X5 (I.r9 H.hl) I ni hl x hs (fun v z o' h' tk hv rz x' g rE=>?_) fun hle h' he=>?_
 ·obtain⟨env',tK⟩:=hb v hv
  have I1:S.I m env (lg.put it o') μ h':=I.swap hl hi.1 hi.2 (fun b p n q=>(rE.2 b n).trans q) g
  have xv:G1 lg (lg.put it o'):=⟨fun b p v q=>by
   rw[Lg.l9];exact q
   rintro rfl;obtain rfl:=same hl q;exact hi.2 v,fun _ _ q=>q⟩
  have H1:S.H (lg.put it o'):=ae H hl hi.1 ni
  refine UX (S:=S) (x'.mono xv) g ?_
  refine gJ (NO (s:={s with heap:=h',toks:=tk}) G hc tK I1 H1 (rz.mL xv)) (fun _ s3 z3=>?_) fun _ _ e=>e
  obtain⟨h3,pH,pk,m3,rfl,I3,x3,n3,kp3⟩:=z3
  exact oP v z hv env' tK _ pk m3 o' I3 (H1.mono x3) (fun lgA xa na=>(xa.qP o' na).trans x3) ⟨h3,pH,rfl⟩ (x3.oq _ _ x'.oq.1 (Lg.ma ..)) ((x'.mono xv).mono x3.v) fun n p q=>x3.mw n p q
 ·
  have hlA:∃lZ,S.I m env lZ μ h'/\lZ.mw=lg.mw/\∀lgA,Ext lgA lg->lgA.led it=none->Ext lgA lZ:=by
   refine⟨lg.drop it,?_,rfl,fun lgA xa na=>?_⟩
   ·exact I.u6 hl hi.1 hi.2 fun b p n q=>he b p n q
   ·have ne:∀b p,lgA.led b=some p->b≠it:=fun b p q y=>by(rw[y]at q;replace q:=na▸q);exact Ao q
    refine⟨fun b p i q=>?_,fun b p c q=>?_,xa.mw⟩
    ·unfold Lg.drop;dsimp only;exact(iI (ne b p q)).trans (xa.oq b p i q)
    ·obtain⟨o',c',q'⟩:=xa.cell b p c q
     exact⟨o',c',by unfold Lg.drop;dsimp only;exact(iI (ne b p q)).trans (q')⟩
  obtain⟨lZ,I',rO,x'⟩:=hlA
  exact pN hle h' lZ I' rO x'
end
def Sub(e e':An):Prop:=∀y v,e y=some v->e' y=some v
theorem LI{e:An}(s:Sub e e')(x:Nat)(v:V):Sub (Ad e x v) (Ad e' x v):=fun y w h=>by
 unfold Ad at h ⊢
 split at h
 ·rename_i q;exact(iJ q).trans (h)
 ·rename_i q;exact(iI q).trans (s y w h)
theorem F2:∀{xs:List Nat} {vs:List V} {e e' f:An},Sub e e'->CP xs vs e=some f->∃f',CP xs vs e'=some f'/\Sub f f'
 |[],[],e,e',f,s,h=>by obtain rfl:=Option.some.inj h;exact⟨e',rfl,s⟩
 |[],_ :: _,_,_,_,_,h=>nomatch h
 |_ :: _,[],_,_,_,_,h=>nomatch h
 |x :: xs,v :: vs,e,e',f,s,h=>F2 (xs:=xs) (LI s x v) h
theorem Jh{xs:List Nat}{one:Bool}{v:V}{e e' f:An}(s:Sub e e')(h:AC xs one v e=some f):∃f',AC xs one v e'=some f'/\Sub f f':=by
 induction one with
 |true=>exact F2 s h
 |false=>induction v using V.casesOn with
  |tup l=>exact F2 (vs:=l) s h
  |_=>exact nomatch h
theorem F0:∀{xs:List Nat} {vs:List V} {e f:An} {y:Nat},y∉xs->CP xs vs e=some f->f y=e y
 |[],[],e,f,y,_,h=>by obtain rfl:=Option.some.inj h;rfl
 |[],_ :: _,_,_,_,_,h=>nomatch h
 |_ :: _,[],_,_,_,_,h=>nomatch h
 |x :: xs,v :: vs,e,f,y,n,h=>by
  refine(F0 (xs:=xs) (vs:=vs) (e:=Ad e x v) (fun q=>n (gA _ q)) h).symm▸?_
  unfold Ad
  rw[iI (fun q=>n (by refine q.symm▸?_;exact .head _))]
theorem Pl{xs:List Nat}{one:Bool}{v:V}{e f:An}{y:Nat}(n:y∉xs)(h:AC xs one v e=some f):f y=e y:=by
 induction one with
 |true=>exact F0 n h
 |false=>induction v using V.casesOn with
  |tup l=>exact F0 (vs:=l) n h
  |_=>exact nomatch h
theorem UD{xs:List Nat}{one:Bool}{v:V}{e f:An}(h:AC xs one v (AG xs e)=some f):Sub (AG xs e) f:=fun y w q=>by
 rw[Pl (fun hy=>?_) h];exact q
 unfold AG at q
 exact AM (iJ (by simpa using hy)) q
section
variable{S:mn}{FA:Nat->Addr}{j:Nat}{m:Str->Option Value}{env:An}{lg:Lg}{μ:MH}{s:Shared}
def mn.oJ(S:mn)(cond:ME)(ifs:List Expr):Prop:=(ifs=[]/\cond=.bool true)\/∃c,ifs=[c]/\S.ST cond c
theorem ba{cond:ME}{ifs:List Expr}{K:Bool->MH->Prop}{E:Value->Shared->Prop}{R:Bool->Shared->Prop}(hI:S.oJ cond ifs)(I:S.I m env lg μ s.heap)(H:S.H lg)(h:wt lY S.Φ env cond K (fun _ _=>False) μ)
  (hR:∀b s',S.P m env lg s (PB K) b s'->R b s') :
  wpAny S.M S.A (forIn ifs true fun c r=>if r=true then do let ok <- isTrue c S.e (eval c S.e);pure (ForInStep.yield ok)else pure (ForInStep.yield r)) R E s:=by
 rcases hI with⟨rfl,rfl⟩|⟨c,rfl,hc⟩
 ·exact wpAny_tests_nil (hR _ _ (AK.here I (show K true μ from h)))
 ·exact wpAny_tests_one (gJ (hc m env lg μ K (fun _ _=>False) h s E I H fun v s' nS=>by obtain⟨_,_,_,_,_,_,_,_,_,_,_,f⟩:=nS;exact f.elim) (fun b s' z=>hR _ _ z) fun _ _ e=>e)
theorem On{ys:List V}{Q:Ae}{μ:MH}(h:By μ r=some ys)(hl:ys.length<lim)(q:Q .none (μ.set r (.list (ys++[wv])))):U8 (.lX r) 0 [wv] Q μ:=
 show opt (one [wv]) (fun v=>opt (By μ r) fun xs=>A7 (decide (xs.length<lim)) (Q .none (μ.set r (.list (xs++[v])))))from Vz rfl (Vz h (X3 hl q))
def CW(S:mn)(xs:List Nat)(one:Bool)(cond elt:ME)(c:Option (Nat×List V))(r:Nat)(env0:An)(items:List V)(Q:MH->Prop)(μ:MH):Prop:=
 Dq c r (fun v K μ'=>opt (AC xs one v env0) fun e=>wt lY S.Φ e cond K (fun _ _=>False) μ') (fun v K μ'=>opt (AC xs one v env0) fun e=>we lY S.Φ e elt K (fun _ _=>False) μ') items Q μ
inductive CL(S:mn)(xs:List Nat)(one:Bool)(cond elt:ME)(items:List V)(c:Option (Nat×List V))(r:Nat)(it D:Addr)(env0:An)(lgA:Lg)(s0:Shared)(Q:MH->Prop)(n:Nat)(s:Shared):Prop
 |mk (h':Heap) (tk:Nat) (lZ:Lg) (μ':MH) (m':Str->Option Value) (env':An) (k:Nat) (o:Obj) (e:s={s0 with heap:=h',toks:=tk}) (I:S.I m' env' lZ μ' h') (H:S.H lZ) (sub:Sub env0 env') (x:Ext lgA lZ) (hl:lZ.led it=some o) (hit:AL S.base lZ items c k o) (hr:lZ.mw[r]?=some (D,D)) (hn:n=items.length - k) (hk:k<=items.length)
  (hw:CW S xs one cond elt c r env0 (items.drop k) Q μ')
inductive CS(S:mn)(xs:List Nat)(one:Bool)(items:List V)(c:Option (Nat×List V))(r:Nat)(it D:Addr)(env0:An)(lgA:Lg)(s0:Shared)(μ:MH)(k:Nat)(s:Shared):Prop
 |mk (v:V) (e:An) (lg:Lg) (m:Str->Option Value) (o:Obj) (h:Heap) (tk:Nat) (hv:items[k]?=some v) (he:AC xs one v env0=some e) (es:s={s0 with heap:=h,toks:=tk}) (I:S.I m e lg μ h) (H:S.H lg) (x:Ext lgA lg) (hl:lg.led it=some o) (hit:AL S.base lg items c (k+1) o) (hr:lg.mw[r]?=some (D,D))
theorem GD{α:Type}{l:List α}{k:Nat}{v:α}(hv:l[k]?=some v):l.drop k=v :: l.drop (k+1):=by
 obtain⟨oQ,e⟩:=List.getElem?_eq_some_iff.mp hv
 rw[List.drop_eq_getElem_cons oQ,e]
theorem CW.nB{xs:List Nat}{one:Bool}{cond elt:ME}{c:Option (Nat×List V)}{r:Nat}{env0:An}{items:List V}{Q:MH->Prop}{μ:MH}(hw:CW S xs one cond elt c r env0 items Q μ):HG c μ:=by
 induction items using List.casesOn with
 |nil=>exact(A2 hw).1
 |cons v rest=>exact(A2 hw).1
theorem Sr{xs:List Nat}{one:Bool}{my:Expr}{ifs:List Expr}{elt cond:ME}{it D:Addr}{items:List V}{c:Option (Nat×List V)}{r:Nat}{Q:MH->Prop}{lgA:Lg}{envO:An}{s0:Shared}{k:Nat}{μ:MH}{s:Shared}{cd:Code}{T:PySem.Fin->Shared->Prop}{E:Value->Shared->Prop}
  (hE:S.SE elt my) (hI:S.oJ cond ifs) (hw:CW S xs one cond elt c r (AG xs envO) (items.drop k) Q μ) (hs:CS S xs one items c r it D (AG xs envO) lgA s0 μ k s)
  (next:∀s',CL S xs one cond elt items c r it D (AG xs envO) lgA s0 Q (items.length - (k+1)) s'->k+1<=items.length->wpAny S.M S.A (again cd) T E s') :
  wpAny S.M S.A (forIn ifs true (fun c r=>if r=true then do let ok <- isTrue c S.e (eval c S.e);pure (ForInStep.yield ok)else pure (ForInStep.yield r)) >>= fun ok=>if ok=true then((eval my S.e >>= fun v=>call (.builtin "list.append") [.ref D,v] >>= fun _=>pure ()) >>= fun _:Unit=>again cd)else again cd) T E s:=by
 obtain⟨v,e,tT,m₃,o₃,h₃,tv,hv,he,rfl,I₃,H₃,x₃,sV,pu,tP⟩:=hs
 rw[GD hv]at hw
 obtain⟨e',sQ,hc⟩:=Aq (A2 hw).2
 cases he.symm.trans sQ
 have oQ:=(List.getElem?_eq_some_iff.mp hv).1
 have nx:∀{h₅ tk₅ rL μ₅},S.I m₃ e rL μ₅ h₅->Ext tT rL->CW S xs one cond elt c r (AG xs envO) (items.drop (k+1)) Q μ₅->wpAny S.M S.A (again cd) T E {s0 with heap:=h₅,toks:=tk₅}:=fun{h₅ tk₅ rL μ₅} I₅ x₅ w₅=>
  next _ ⟨h₅,tk₅,rL,μ₅,m₃,e,k+1,o₃,rfl,I₅,H₃.mono x₅,UD he,x₃.trans x₅,x₅.oq _ _ pu.oq.1 sV,pu.mono x₅.v,x₅.mw _ _ tP,rfl,oQ,w₅⟩ oQ
 clear next
 refine gx (ba (s:={s0 with heap:=h₃,toks:=tv}) hI I₃ H₃ hc fun b s₄ z₄=>?_)
 obtain⟨h₄,qB,te,μ₄,rfl,I₄,x₄,q₄⟩:=z₄
 induction b with
 |false=>exact nx (tk₅:=qB) I₄ x₄ q₄
 |true=>
  obtain⟨tI,uJ,uZ⟩:=Aq q₄
  cases he.symm.trans uJ
  refine gx (gx (gJ (hE _ _ _ _ _ _ uZ {s0 with heap:=h₄,toks:=qB} _ I₄ (H₃.mono x₄) fun v s' z=>z.none.elim) (fun w s₅ z₅=>?_) fun _ _ e=>e))
  obtain⟨h₅,tk₅,rL,μ₅,rfl,I₅,x₅,wv,oG,q₅⟩:=z₅
  obtain⟨ys,hys,q₅⟩:=Aq q₅
  have qi:=(Ag q₅).1;have hw₅:=(Ag q₅).2
  have hr₅:=(x₄.trans x₅).mw _ _ tP
  refine gx (gJ (Rw (f:=0) (s:={s0 with heap:=h₅,toks:=tk₅}) (o:=.lX r) (as:=[wv]) (Q:=fun _ μ'=>CW S xs one cond elt c r (AG xs envO) (items.drop (k+1)) Q μ') I₅ (.lX r D D hr₅) (.cons oG .nil) (On hys qi hw₅)) (fun _ s₆ z₆=>?_) fun _ _ e=>e)
  obtain⟨h₆,vl,lg₆,μ₆,rfl,I₆,x₆,_,_,w₆⟩:=z₆
  exact gO (nx (tk₅:=vl) I₆ ((x₄.trans x₅).trans x₆) w₆)
theorem Ld{xs:List Nat}{one:Bool}{t my:Expr}{gens:List Comprehension}{d:Nat}{ifs:List Expr}{scope:Scope}{pos pp:Pos}{elt cond:ME}{it D:Addr}{items:List V}{c:Option (Nat×List V)}{r:Nat}{Q:MH->Prop}{R:Result->Shared->Prop}{lgA:Lg}{env0:An}
  (G:Bi S FA j) (hT:E5 S.sc xs one t=true) (hE:S.SE elt my) (hI:S.oJ cond ifs) {envO:An} (he:env0=AG xs envO) {s0:Shared} (hA:lgA.led it=none)
  (hR:∀h' tk lZ μ' m' env',S.I m' env' lZ μ' h'->Sub env0 env'->Ext lgA lZ->Q μ'->lZ.mw[r]?=some (D,D)->R (.ok .next) {s0 with heap:=h',toks:=tk})
  (sY:compTurn (.ListComp my gens scope pos) d (.ref it) (.ref D) S.e=(do
   standAt pp
   match <- pyNext (.ref it) with
   |none=>pure (.done .next)
   |some v=>
    letOwnedTupleGo t (.ref it) v
    assign t S.e v
    let mut ok:=true
    for c in ifs do
     if ok then ok <- isTrue c S.e (eval c S.e)
    if ok then
     (do let _ <- call (.builtin "list.append") [.ref D,<- eval my S.e])
    again (.compLoop (.ListComp my gens scope pos) d (.ref it) (.ref D) S.e)))
  (n:Nat) (s:Shared) (hs:CL S xs one cond elt items c r it D env0 lgA s0 Q n s):codeAny S.M S.A (.compLoop (.ListComp my gens scope pos) d (.ref it) (.ref D) S.e) R s:=by
 refine codeAny_loop rfl (CL S xs one cond elt items c r it D env0 lgA s0 Q) (fun n s sM=>?_) n hs
 obtain⟨h',tk,lZ,μ',m',env',k,o,rfl,I,H,sub,xA,hl,hit,hr,hn,hk,hw⟩:=sM
 subst he
 show wpAny _ S.A ((compTurn (.ListComp my gens scope pos) d (.ref it) (.ref D) S.e).onRaise (fun x=>do noteFrame x S.e;theTreesLotGoes x)) _ _ _
 refine lN ?_
 rw[sY]
 refine gx (hV (gx ?_))
 have step:∀v,items[k]?=some v->∃e,AC xs one v (AG xs envO)=some e:=fun v hv=>by
  rw[GD hv]at hw
  obtain⟨e,he,_⟩:=Aq (A2 hw).2
  exact⟨e,he⟩
 refine gJ (Nl (s:={s0 with heap:=h',toks:=tk}) G hT I H hl hit hw.nB
  (Qn:=fun s₁=>R (.ok .next) s₁) (Qs:=fun _ s₃=>CS S xs one items c r it D (AG xs envO) lgA s0 μ' k s₃)
  (fun hle h1 mD I1 o9 x1=>?_) (fun v z hv pM hb s1 mD m1 o1 I1 H1 x1 ⟨h1,mT,e1⟩ qT qh o9=>?_) fun v hv=>?_) (fun rr s₁ h₁=>?_) fun _ _ e=>e
 ·rw[kg hle]at hw
  exact hR h1 tk mD μ' m' env' I1 sub (x1 lgA xA hA) (A2 hw).2 (by rw[o9];exact hr)
 ·subst e1
  obtain⟨e,he⟩:=step v hv
  obtain⟨f,hf,sf⟩:=Jh sub he
  cases hf.symm.trans hb
  exact⟨v,e,mD,m1,o1,h1,mT,hv,he,rfl,I1.withEnv fun y w q ss=>I1.vars y w (sf y w q) ss,H1,x1 lgA xA hA,qT,qh,o9 _ _ hr⟩
 ·obtain⟨e,he⟩:=step v hv
  obtain⟨f,hf,_⟩:=Jh sub he
  exact⟨f,hf⟩
 ·cases rr with
  |none=>exact gO h₁
  |some z=>
   refine gx (gJ h₁ (fun _ s₂ h₂=>gx (gJ h₂ (fun _ s₃ h₃=>?_) fun _ _ e=>e)) fun _ _ e=>e)
   refine Sr hE hI hw h₃ fun s' cl lt=>gO ⟨rfl,_,?_,cl⟩
   rw[hn]
   exact kz lt (iM k)
end
section
variable{S:mn}{FA:Nat->Addr}{j:Nat}{m:Str->Option Value}{env:An}{lg:Lg}{μ:MH}{s:Shared}
theorem Hv{E:Value->Shared->Prop}{Q:Value->Shared->Prop}(x:AL S.base lg items c k o)(g:s.heap.get? it=some o)(q:Q (.ref it) s) :
  wpAny S.M S.A (pyIter (.ref it)) Q E s:=by
 induction x with
 |list n a xs k o h1 h2 h3=>exact wpAny_pyIter_listiter (l:=a) (i:=k) ⟨o,g,h2,h3⟩ q
 |tup l t ot vs nn k o _ _ _ _ h2 h3=>exact lG (t:=t) (i:=k) ⟨o,g,h2,h3⟩ q
 |range lo st n k hk=>exact wpAny_pyIter_rangeiter (x:=lo+k*st) (left:=(n:Int) - k) (step:=st) g q
 |str t u k o _ h2 h3=>exact wpAny_pyIter_striter_ascii (x:=sx t) (t:=u) (i:=k) ⟨o,g,h2,h3⟩ q
theorem MR(h:Dw x=true):∀(e:Env) (u:Value),foldedSetIterable x e u=pure u:=fun e u=>by
 induction x using Expr.casesOn<;>first|rfl|exact nomatch h
theorem Fv{use:Option (Value->Sem Unit)}{g:Comprehension}{my:Expr}{scope:Scope}{pos:Pos}{Qf:Value->Shared->Prop}{E:Value->Shared->Prop}
  {W:List V->Option (Nat×List V)->Nat->(MH->Prop)->MH->Prop} {Q:Ae} {X:As}
  (G:Bi S FA j) (hg:gens=g :: gs) (hgi:g.iter=ox) (hga:g.is_async=0) (oZ:Dw ox=true) (hs:Dh scope S.sc=true) (ho:HX scope xs=true) (hit:S.SE it ox)
  (h:we lY S.Φ env it (fun sv μ₁=>opt (C6 μ₁ sv) fun p=>W p.1 p.2 μ₁.length (Q (.lX μ₁.length)) (μ₁++[.list []])) X μ)
  (I:S.I m env lg μ s.heap) (H:S.H lg) (hX:∀v s',S.X m env lg s X v s'->E v s')
  (sU:∀(T:mn) (items:List V) (c:Option (Nat×List V)) (r:Nat) (a D:Addr) (o:Obj) (lgA lg0:Lg) (μ0:MH) (m0:Str->Option Value) (Q':MH->Prop) (s0:Shared) (R:Result->Shared->Prop),Bi T FA j->T.sc=scope.names->T.A=S.A->T.pg=S.pg->T.w=S.w->T.Φ=S.Φ->T.base=S.base->
   T.I m0 (AG xs env) lg0 μ0 s0.heap->T.H lg0->Ext lgA lg0->lgA.led a=none->lg0.led a=some o->AL T.base lg0 items c 0 o->lg0.mw[r]?=some (D,D)->W items c r Q' μ0->
   (∀h' tk lZ μ' m' env',T.I m' env' lZ μ' h'->Ext lgA lZ->Q' μ'->lZ.mw[r]?=some (D,D)->R (.ok .next) {s0 with heap:=h',toks:=tk})->
   codeAny T.M T.A (.compStart (.ListComp my gens scope pos) 0 (.ref a) (.ref D) T.e) R s0)
  (qL:∀h' tk lZ μ' D C r,S.I m env lZ μ' h'->Ext lg lZ->Q (.lX r) μ'->lZ.mw[r]?=some (D,D)->lZ.led C=none->S.base.get? C=none->C≠S.e.locals->(∃mC,h'.Ns C mC)->S.H lZ->
   compPost S.M S.A E use Qf (.ref D) C (.ok .next) {s with heap:=h',toks:=tk}) :
  wpAny S.M S.A (comprehension (.ListComp my gens scope pos) scope S.e (firstIterPos gens pos) (newList []) false (eval ox S.e) use) Qf E s:=by
 have hk:=(CK hs).1;have hn:=(CK hs).2
 subst hg
 refine wpAny_comprehension_free (g:=g) (gs:=gs) rfl (fun x=>?_) (W6 fun p hp hf=>?_) hk (fun p hp hl=>?_) ?_
 ·refine hgi.symm▸?_
  exact MR oZ _ _
 ·obtain⟨n,k⟩:=p
  dsimp only at hf;subst hf
  rcases(hn n .free hp).2 with z|z|z|⟨_,z⟩
  ·cases z
  ·cases z
  ·cases z
  ·obtain⟨ca,o,c1,_⟩:=H.own.led n z
   exact⟨ca,c1⟩
 ·obtain⟨n,k⟩:=p
  dsimp only at hl;subst hl
  exact(hn n .local hp).1
 refine gJ (hit _ _ _ _ _ _ h s E I H hX) (fun u s1 z1=>?_) fun _ _ e=>e
 obtain⟨h1,mT,mD,μ1,e1,I1,x1,uv,ru,hw⟩:=z1
 obtain⟨⟨items,c⟩,hi,hw⟩:=Aq hw
 have k0:∃h1 mT,s1={s with heap:=h1,toks:=mT}:=⟨h1,mT,e1⟩
 have I1:S.I m env mD μ1 s1.heap:=by rw[e1];exact I1
 clear e1
 have H1:=H.mono x1
 refine MC I1 ru hi fun a o h2 mV na I2 x2 rC pO rJ ke2=>?_
 refine wpAny_newList ?_ (ie _)
 obtain⟨pk,I3,x3,r3,ke3⟩:=Ro (o:=.list []) (ob:={cls:=.type "list",data:=.seq ([]:List Value).toArray}) I2 rfl ⟨rfl,ie _,#[],0,Lg.ma ..,.nil⟩
 have H3:S.H pk:=H1.mono (x2.trans x3)
 refine X4 ?_
 dsimp only
 obtain⟨qO,I4,x4,H4,G4,c1,c2,c3⟩:=Px (env:=env) G hs ho I3 H3
 have eC:(Heap.push (Heap.push h2 {cls:=.type "list",data:=.seq ([]:List Value).toArray}) {cls:=.type "dict",data:=.dict #[]}).objs.size=(Heap.push h2 {cls:=.type "list",data:=.seq ([]:List Value).toArray}).objs.size+1:=i6 ..
 refine eC.symm▸?_
 have l4:qO.led a=some o:=x4.oq _ _ pO.oq.1 (ke3 _ _ rC)
 have i4:=(pO.mono x3.v).mono x4.v
 refine sU (S.inner scope (Heap.push h2 {cls:=.type "list",data:=.seq ([]:List Value).toArray}).objs.size m env pk) items c μ1.length a h2.objs.size o mD qO _ _ _ {s1 with heap:=Ee (Heap.push h2 {cls:=.type "list",data:=.seq ([]:List Value).toArray}) scope} _ G4 rfl rfl rfl rfl rfl rfl I4 H4 ((x2.trans x3).trans x4) na l4 i4 (x4.mw _ _ r3) hw fun h' tk lZ μ' m' env' I' x' q' r'=>?_
 have sG:∀b p,AU env S.e mD b=some p->AU env S.e pk b=some p:=fun b p q=>by
  unfold AU at q ⊢
  split at q
  ·rename_i z;exact(iJ z).trans (ke3 _ _ (ke2 _ _ q))
  ·exact Ao q
 obtain⟨I5,x5⟩:=Inv.back (f:=⟨S.e,m,AU env S.e pk⟩) (env:=env) I' x' I1.mH sG I1.vars
 obtain⟨oC,gC,hC⟩:=H6.of I'.ns
 obtain⟨h1,mT,e1⟩:∃h1 mT,s1={s with heap:=h1,toks:=mT}:=k0
 subst e1
 refine qL h' tk _ μ' _ _ μ1.length I5 (x1.trans x5) q' r' ?_ c2 c3 ⟨m',I'.ns⟩ (H1.mono x5)
 unfold Lg.drop;dsimp only
 split
 ·rfl
 ·exact I'.mH
end
section
variable{S:mn}{FA:Nat->Addr}{j:Nat}{lg:Lg}
def IM(FA:Nat->Addr)(sc:Sc)(a:ME)(x:Expr):Prop:=∀(S:mn) (j:Nat),Bi S FA j->S.sc=sc->S.SE a x
def Tx(FA:Nat->Addr)(sc:Sc)(cond:ME)(ifs:List Expr):Prop:=∀(S:mn) (j:Nat),Bi S FA j->S.sc=sc->S.oJ cond ifs
theorem Kj{s:Shared}{R:Result->Shared->Prop}(x:AL S.base lg items c k o)(g:s.heap.get? a=some o)
  (h:codeAny S.M S.A (.compLoop (.ListComp my (⟨t,ox,ifs,0⟩ :: gs) scope pos) 0 (.ref a) acc S.e) R s):codeAny S.M S.A (.compStart (.ListComp my (⟨t,ox,ifs,0⟩ :: gs) scope pos) 0 (.ref a) acc S.e) R s:=
 codeAny_compStart_list h (Hv x g h)
theorem OY{m:Str->Option Value}{lZ:Lg}{E:Value->Shared->Prop}{Q:Ae}{h':Heap}{tk:Nat}(I:S.I m env lZ μ' h')(x:Ext lg lZ)(q:Q (.lX r) μ')(hr:lZ.mw[r]?=some (D,D))(c1:lZ.led C=none)(c2:S.base.get? C=none)(c3:C≠S.e.locals)(hC:∃mC,h'.Ns C mC) :
  compPost S.M S.A E none (S.P m env lg s (PV S.base Q)) (.ref D) C (.ok .next) {s with heap:=h',toks:=tk}:=by
 obtain⟨mC,hC⟩:=hC
 refine⟨mC,hC,fun oW hs=>?_⟩
 exact⟨oW,tk,lZ,μ',rfl,I.keepsBut c2 c1 (iK c3) (fun b o n z=>(hs.2 b n).trans z),x,.lX r,.lX r D D hr,q⟩
theorem ZU{elt cond:ME}{xs:List Nat}{one:Bool}{t ox my:Expr}{ifs:List Expr}{scope:Scope}{pos:Pos}{env:An}{Φ:Az}(hc:E5 scope.names xs one t=true)(hE:IM FA scope.names elt my)(hI:Tx FA scope.names cond ifs)
  (T:mn) (items:List V) (c:Option (Nat×List V)) (r:Nat) (a D:Addr) (o:Obj) (lgA lg0:Lg) (μ0:MH) (m0:Str->Option Value) (Q':MH->Prop) (s0:Shared) (R:Result->Shared->Prop) (GT:Bi T FA j) (nZ:T.sc=scope.names) (hΦ:T.Φ=Φ)
  (I0:T.I m0 (AG xs env) lg0 μ0 s0.heap) (H0:T.H lg0) (x0:Ext lgA lg0) (na:lgA.led a=none) (hl:lg0.led a=some o) (hi:AL T.base lg0 items c 0 o) (hr:lg0.mw[r]?=some (D,D))
  (hw:Dq c r (fun v K μ'=>opt (AC xs one v (AG xs env)) fun e=>wt lY Φ e cond K (fun _ _=>False) μ') (fun v K μ'=>opt (AC xs one v (AG xs env)) fun e=>we lY Φ e elt K (fun _ _=>False) μ') items Q' μ0)
  (hR:∀h' tk lZ μ' m' env',T.I m' env' lZ μ' h'->Ext lgA lZ->Q' μ'->lZ.mw[r]?=some (D,D)->R (.ok .next) {s0 with heap:=h',toks:=tk}) :
  codeAny T.M T.A (.compStart (.ListComp my [⟨t,ox,ifs,0⟩] scope pos) 0 (.ref a) (.ref D) T.e) R s0:=by
 subst hΦ
 refine Kj hi (I0.led _ _ hl).1 (Ld (env0:=AG xs env) (envO:=env) (lgA:=lgA) (Q:=Q') (items:=items) (c:=c) (r:=r) GT (by rw[nZ];exact hc) (hE T j GT nZ) (hI T j GT nZ) rfl na (fun h' tk lZ μ' m' env' I' _ x' q' r'=>hR h' tk lZ μ' m' env' I' x' q' r') (compTurn_list ..) (items.length - 0) s0 ?_)
 exact⟨s0.heap,s0.toks,lg0,μ0,m0,AG xs env,0,o,rfl,I0,H0,fun _ _ q=>q,x0,hl,hi,hr,rfl,ie _,hw⟩
theorem YU{elt it cond:ME}{xs:List Nat}{one:Bool}{t ox my:Expr}{ifs:List Expr}{scope:Scope}{pos:Pos}(G:Bi S FA j)(oZ:Dw ox=true)(hs:Dh scope S.sc=true)(ho:HX scope xs=true)(hc:E5 scope.names xs one t=true)(hit:S.SE it ox)
  (hE:IM FA scope.names elt my) (hI:Tx FA scope.names cond ifs):S.SE (.comp elt xs one it cond) (.ListComp my [⟨t,ox,ifs,0⟩] scope pos):=by
 intro m env lg μ Q X h s E I H hX
 refine Fv (use:=none) (W:=fun items c r Q' μ'=>Dq c r (fun v K μ'=>opt (AC xs one v (AG xs env)) fun e=>wt lY S.Φ e cond K (fun _ _=>False) μ') (fun v K μ'=>opt (AC xs one v (AG xs env)) fun e=>we lY S.Φ e elt K (fun _ _=>False) μ') items Q' μ')
  (Q:=Q) (X:=X) G rfl rfl rfl oZ hs ho hit h I H hX ?_ ?_
 ·intro T items c r a D o lgA lg0 μ0 m0 Q' s0 R GT nZ hA uT sZ hΦ hb I0 H0 x0 na hl hi hr hw hR
  exact ZU hc hE hI T items c r a D o lgA lg0 μ0 m0 Q' s0 R GT nZ hΦ I0 H0 x0 na hl hi hr hw hR
 ·intro h' tk lZ μ' D C r I' x' q hr c1 c2 c3 hC _
  exact OY I' x' q hr c1 c2 c3 hC
theorem dz(elt t1 i1 t2 i2:Expr)(scope:Scope)(pos:Pos)(it acc:Value)(env:Env) :
  compTurn (.ListComp elt [⟨t1,i1,[],0⟩,⟨t2,i2,[],0⟩] scope pos) 0 it acc env=(standAt i1.pos >>= fun _=>pyNext it >>= fun r=>match r with
   |none=>pure (.done .next)
   |some v=>letOwnedTupleGo t1 it v >>= fun _=>assign t1 env v >>= fun _=>
    eval i2 env >>= fun x=>standAt i2.pos >>= fun _=>foldedSetIterable i2 env x >>= fun x=>holding [x] (pyIter x) >>= fun nV=>
     runOwn (.compStart (.ListComp elt [⟨t1,i1,[],0⟩,⟨t2,i2,[],0⟩] scope pos) 1 nV acc env) env >>= fun _=>
     again (.compLoop (.ListComp elt [⟨t1,i1,[],0⟩,⟨t2,i2,[],0⟩] scope pos) 0 it acc env)):=by with_unfolding_all rfl
theorem dA(elt t1 i1 t2 i2:Expr)(scope:Scope)(pos:Pos)(it acc:Value)(env:Env) :
  compTurn (.ListComp elt [⟨t1,i1,[],0⟩,⟨t2,i2,[],0⟩] scope pos) 1 it acc env=(do
   standAt i2.pos
   match <- pyNext it with
   |none=>pure (.done .next)
   |some v=>
    letOwnedTupleGo t2 it v
    assign t2 env v
    let mut ok:=true
    for c in([]:List Expr) do
     if ok then ok <- isTrue c env (eval c env)
    if ok then
     (do let _ <- call (.builtin "list.append") [acc,<- eval elt env])
    again (.compLoop (.ListComp elt [⟨t1,i1,[],0⟩,⟨t2,i2,[],0⟩] scope pos) 1 it acc env)):=by rfl
theorem Zh{s:Shared}{R:Result->Shared->Prop}(x:AL S.base lg items c k o)(g:s.heap.get? a=some o)
  (h:codeAny S.M S.A (.compLoop (.ListComp elt [⟨t1,i1,[],0⟩,⟨t2,i2,[],0⟩] scope pos) 1 (.ref a) acc S.e) R s):codeAny S.M S.A (.compStart (.ListComp elt [⟨t1,i1,[],0⟩,⟨t2,i2,[],0⟩] scope pos) 1 (.ref a) acc S.e) R s:=by
 refine codeAny_of_tree ?_
 refine wpAny_notedAt ?_
 refine gx (kS (wpAny_ite ?_))
 split
 ·first
   |exact gx (gO (gO (And.intro rfl h)))
   |exact gO (And.intro rfl h)
 ·first
   |exact gx (jR (gx (hV (gx (Hv x g (gO (And.intro rfl h)))))))
   |(refine gx (jR ?_);show wpAny _ _ (standAt i2.pos >>= _) _ _ s;exact gx (hV (gx (Hv x g (gO (And.intro rfl h))))))
end
section
variable{S:mn}{FA:Nat->Addr}{j:Nat}{lg:Lg}
def PP(Φ:Az)(env0:An)(elt nV:ME)(x1 x2 r:Nat)(v:V)(K:MH->Prop)(μ':MH):Prop:=
 we lY Φ (Ad env0 x1 v) nV (fun s2 μ₂=>opt (C6 μ₂ s2) fun p2=>
  Dq p2.2 r (fun _ K' om=>K' true om) (fun v2 K' om=>we lY Φ (Ad (Ad env0 x1 v) x2 v2) elt K' (fun _ _=>False) om) p2.1 K μ₂) (fun _ _=>False) μ'
def tz(S:mn)(elt nV:ME)(x1 x2:Nat)(c:Option (Nat×List V))(r:Nat)(env0:An)(items:List V)(Q:MH->Prop)(μ:MH):Prop:=Hm c (PP S.Φ env0 elt nV x1 x2 r) items Q μ
theorem tz.nB{Q:MH->Prop}(hw:tz S elt nV x1 x2 c r env0 items Q μ):HG c μ:=by
 induction items using List.casesOn with
 |nil=>exact(A2 hw).1
 |cons v rest=>exact(A2 hw).1
inductive CL2(S:mn)(elt nV:ME)(x1 x2:Nat)(items:List V)(c:Option (Nat×List V))(r:Nat)(it D:Addr)(env0:An)(lgA:Lg)(s0:Shared)(Q:MH->Prop)(n:Nat)(s:Shared):Prop
 |mk (h':Heap) (tk:Nat) (lZ:Lg) (μ':MH) (m':Str->Option Value) (env':An) (k:Nat) (o:Obj) (e:s={s0 with heap:=h',toks:=tk}) (I:S.I m' env' lZ μ' h') (H:S.H lZ) (sub:Sub env0 env') (x:Ext lgA lZ) (hl:lZ.led it=some o) (hit:AL S.base lZ items c k o) (hr:lZ.mw[r]?=some (D,D)) (hn:n=items.length - k) (hk:k<=items.length)
  (hw:tz S elt nV x1 x2 c r env0 (items.drop k) Q μ')
inductive CS2(S:mn)(x1:Nat)(items:List V)(c:Option (Nat×List V))(r:Nat)(it D:Addr)(env0:An)(lgA:Lg)(s0:Shared)(μ:MH)(k:Nat)(s:Shared):Prop
 |mk (v:V) (lg:Lg) (m:Str->Option Value) (o:Obj) (h:Heap) (tk:Nat) (hv:items[k]?=some v) (es:s={s0 with heap:=h,toks:=tk}) (I:S.I m (Ad env0 x1 v) lg μ h) (H:S.H lg) (x:Ext lgA lg) (hl:lg.led it=some o) (hit:AL S.base lg items c (k+1) o) (hr:lg.mw[r]?=some (D,D))
theorem UE(ne:x1≠x2):Ad (AG [x1,x2] env) x1 v=AG [x2] (Ad (AG [x1,x2] env) x1 v):=by
 funext y
 unfold AG
 by_cases q:y=x2
 ·subst q
  simp[Ad,iK ne]
 ·simp[q]
theorem SJ(q:AG [x1,x2] env y=some w):Ad (AG [x1,x2] env) x1 v y=some w:=by
 unfold Ad
 rw[iI]
 ·exact q
 ·rintro rfl;simp[AG]at q
theorem JC{tR:Expr}{scope:Scope}{pos:Pos}{items:List V}{c:Option (Nat×List V)}{Q:MH->Prop}{R:Result->Shared->Prop}{lgA:Lg}{env:An}
  (G:Bi S FA j) (nZ:S.sc=scope.names) (ne:x1≠x2) (uu:E5 scope.names [x1] true t1=true) (uw:E5 scope.names [x2] true t2=true) (oZ:Dw s8=true) (hE:IM FA scope.names elt my) (ut:IM FA scope.names nV s8) (hA:lgA.led it=none)
  (hR:∀h' tk lZ μ' m' env',S.I m' env' lZ μ' h'->Ext lgA lZ->Q μ'->lZ.mw[r]?=some (D,D)->R (.ok .next) {s0 with heap:=h',toks:=tk})
  (n:Nat) (s:Shared) (hs:CL2 S elt nV x1 x2 items c r it D (AG [x1,x2] env) lgA s0 Q n s):codeAny S.M S.A (.compLoop (.ListComp my [⟨t1,tR,[],0⟩,⟨t2,s8,[],0⟩] scope pos) 0 (.ref it) (.ref D) S.e) R s:=by
 refine codeAny_loop rfl (CL2 S elt nV x1 x2 items c r it D (AG [x1,x2] env) lgA s0 Q) (fun n s sM=>?_) n hs
 obtain⟨h',tk,lZ,μ',m',env',k,o,rfl,I,H,sub,xA,hl,hit,hr,hn,hk,hw⟩:=sM
 refine lN ?_
 rw[dz]
 refine gx (hV (gx ?_))
 refine gJ (Nl (s:={s0 with heap:=h',toks:=tk}) G (by rw[nZ];exact uu) I H hl hit hw.nB
  (Qn:=fun s₁=>R (.ok .next) s₁) (Qs:=fun _ s₃=>CS2 S x1 items c r it D (AG [x1,x2] env) lgA s0 μ' k s₃)
  (fun hle h1 mD I1 o9 x1=>?_) (fun v z hv pM hb s1 mD m1 o1 I1 H1 x1 ⟨h1,mT,e1⟩ qT qh o9=>?_) fun v hv=>⟨_,rfl⟩) (fun rr s₁ h₁=>?_) fun _ _ e=>e
 ·replace hw:=(kg hle)▸hw
  exact hR h1 tk mD μ' m' env' I1 (x1 lgA xA hA) (A2 hw).2 (by refine o9.symm▸?_;exact hr)
 ·cases e1
  obtain rfl:=Option.some.inj hb
  exact⟨v,mD,m1,o1,h1,mT,hv,rfl,I1.withEnv fun y w q ss=>I1.vars y w (LI sub _ _ y w q) ss,H1,x1 lgA xA hA,qT,qh,o9 _ _ hr⟩
 ·induction rr with
  |none=>exact gO h₁
  |some z=>
   refine gx (gJ h₁ (fun _ s₂ h₂=>gx (gJ h₂ (fun _ s₃ h₃=>?_) fun _ _ e=>e)) fun _ _ e=>e)
   obtain⟨v,tT,m₃,o₃,h₃,tv,hv,rfl,I₃,H₃,x₃,sV,pu,tP⟩:=h₃
   replace hw:=(GD hv)▸hw
   have oQ:=(List.getElem?_eq_some_iff.mp hv).1
   refine gx (gJ (ut S j G nZ _ _ _ _ _ _ (A2 hw).2 {s0 with heap:=h₃,toks:=tv} _ I₃ H₃ fun v s' z=>z.none.elim) (fun u s₄ z₄=>?_) fun _ _ e=>e)
   obtain⟨h₄,qB,te,μ₄,rfl,I₄,x₄,uv,ru,u0⟩:=z₄
   obtain⟨⟨qj,c2⟩,pO,u0⟩:=Aq u0
   refine gx (hV (gx (kr (a:=u) (MR oZ S.e u) (gx (hW ?_)))))
   refine MC (s:={s0 with heap:=h₄,toks:=qB}) I₄ ru pO fun a o₅ h₅ rL na I₅ x₅ hl₅ sR kp₅ ke₅=>?_
   have H₅:=(H₃.mono x₄).mono x₅
   refine gx (wpAny_runOwn ?_)
   refine Zh sR (I₅.led _ _ hl₅).1 (Ld (xs:=[x2]) (one:=true) (t:=t2) (ifs:=[]) (elt:=elt) (cond:=.bool true) (items:=qj) (c:=c2) (r:=r) (lgA:=te) (env0:=Ad (AG [x1,x2] env) x1 v) (Q:=fun μ'=>tz S elt nV x1 x2 c r (AG [x1,x2] env) (items.drop (k+1)) Q μ')
    (s0:={s0 with heap:=h₅,toks:=qB}) G (by refine nZ.symm▸?_;exact uw) (hE S j G nZ) (.inl ⟨rfl,rfl⟩) (UE ne) na (fun h₆ vl lg₆ μ₆ m₆ uk I₆ vj x₆ q₆ r₆=>?_) (dA ..) (qj.length - 0) _ ?_)
   ·exact gO ⟨rfl,items.length - (k+1),by refine hn.symm▸?_;exact kz oQ (iM k),h₆,vl,lg₆,μ₆,m₆,uk,k+1,o₃,rfl,I₆,(H₃.mono x₄).mono x₆,fun y w q=>vj y w (SJ q),(x₃.trans x₄).trans x₆,(x₄.trans x₆).oq _ _ pu.oq.1 sV,pu.mono (x₄.trans x₆).v,r₆,rfl,oQ,q₆⟩
   ·refine⟨h₅,qB,rL,μ₄,m₃,_,0,o₅,rfl,I₅,H₅,fun _ _ q=>q,x₅,hl₅,sR,(x₄.trans x₅).mw _ _ tP,rfl,ie _,?_⟩
    exact u0
theorem V3{scope:Scope}(G:Bi S FA j)(oZ:Dw tR=true)(uQ:Dw s8=true)(hs:Dh scope S.sc=true)(ho:HX scope [x1,x2]=true)(ne:x1≠x2)(uu:E5 scope.names [x1] true t1=true)(uw:E5 scope.names [x2] true t2=true)
  (hit:S.SE pv tR) (ut:IM FA scope.names nV s8) (hE:IM FA scope.names elt my):S.SE (.nU elt x1 pv x2 nV) (.ListComp my [⟨t1,tR,[],0⟩,⟨t2,s8,[],0⟩] scope pos):=by
 intro m env lg μ Q X h s E I H hX
 refine Fv (use:=none) (xs:=[x1,x2]) (W:=fun items c r Q' μ'=>Hm c (PP S.Φ (AG [x1,x2] env) elt nV x1 x2 r) items Q' μ')
  (Q:=Q) (X:=X) G rfl rfl rfl oZ hs ho hit h I H hX ?_ ?_
 ·intro T items c r a D o lgA lg0 μ0 m0 Q' s0 R GT nZ hA uT sZ hΦ hb I0 H0 x0 na hl hi hr hw hR
  replace hw:=(hΦ).symm▸hw
  refine Kj hi (I0.led _ _ hl).1 (JC (lgA:=lgA) (env:=env) (Q:=Q') (items:=items) (c:=c) (r:=r) GT nZ ne uu uw uQ hE ut na (fun h' tk lZ μ' m' env' I' x' q' r'=>hR h' tk lZ μ' m' env' I' x' q' r') (items.length - 0) s0 ?_)
  exact⟨s0.heap,s0.toks,lg0,μ0,m0,_,0,o,rfl,I0,H0,fun _ _ q=>q,x0,hl,hi,hr,rfl,ie _,hw⟩
 ·intro h' tk lZ μ' D C r I' x' q hr c1 c2 c3 hC _
  exact OY I' x' q hr c1 c2 c3 hC
end
structure mF(FA:Nat->Addr)(a:ME):Prop where
 e:∀(S:mn) (j jj:Nat) (x:Expr),Bi S FA j->AD jj S.sc a x=true->S.SE a x/\S.ST a x
 an:∀(S:mn) (j jj:Nat) (vs:List Expr),Bi S FA j->Jy jj S.sc a vs=true->S.SB .And a vs/\S.TB .And a vs
 or:∀(S:mn) (j jj:Nat) (vs:List Expr),Bi S FA j->NZ jj S.sc a vs=true->S.SB .Or a vs/\S.TB .Or a vs
 l:∀(S:mn) (j jj:Nat) (xs:List Expr),Bi S FA j->NY jj S.sc a xs=true->xs.all (fun x=>!EA x)=true/\S.SL a xs
 d:∀(S:mn) (j jj:Nat) (ks:List (Option Expr)) (vs:List Expr),Bi S FA j->W5 jj S.sc a ks vs=true->ks.all (·.isSome)=true/\ks.length=vs.length/\S.SD a ks vs
theorem Fk{S:mn}(h:∀{Φ:Az} {env Q X μ},¬wt lY Φ env a Q X μ):S.ST a x:=fun _ _ _ _ _ _ q=>(h q).elim
theorem Ej{sc:Sc}(h:Hq sc n=true):sc.lookup n=some .globalImplicit:=gN h
theorem CH(h:(!b)=true):b=false:=by cases b<;>first|rfl|exact nomatch h
theorem Bb{P:Prop}(h:false=true):P:=nomatch h
theorem TP{P Q R S:Prop}(h:P/\Q)(k:R/\S){T:Prop}(f:P->Q->R->S->T):T:=f h.1 h.2 k.1 k.2
section
variable{FA:Nat->Addr}
theorem mF.of(e:∀(S:mn) (j jj:Nat) (x:Expr),Bi S FA j->AD jj S.sc a x=true->S.SE a x/\S.ST a x)
  (an:∀jj sc vs,Jy jj sc a vs=false) (or:∀jj sc vs,NZ jj sc a vs=false) (l:∀jj sc vs,NY jj sc a vs=false) (d:∀jj sc ks vs,W5 jj sc a ks vs=false):mF FA a:=
 ⟨e,fun _ _ _ _ _ h=>Bb ((an _ _ _).symm.trans h),fun _ _ _ _ _ h=>Bb ((or _ _ _).symm.trans h),fun _ _ _ _ _ h=>Bb ((l _ _ _).symm.trans h),fun _ _ _ _ _ _ h=>Bb ((d _ _ _ _).symm.trans h)⟩
theorem bL(i:Int):mF FA (.int i):=.of (fun S j jj x G h=>by
 exact Dy h fun c p k h=>Vq h fun i' h=>EX h ⟨cQ,Fk id⟩) (fun _ _ _=>rfl) (fun _ _ _=>rfl) (fun _ _ _=>rfl) (fun _ _ _ _=>rfl)
theorem bP(l:List Nat):mF FA (.str l):=.of (fun S j jj x G h=>by
 refine Dy h fun c p k h=>Vv h fun t h=>?_
 obtain rfl:t=sx l:=gN (Al h)
 exact⟨cT ⟨gH (Al (Aa h)),fun n q=>gH (List.all_eq_true.mp (Aa (Aa h)) n q)⟩,Fk id⟩) (fun _ _ _=>rfl) (fun _ _ _=>rfl) (fun _ _ _=>rfl) (fun _ _ _ _=>rfl)
theorem Yd(b:Bool):mF FA (.bool b):=.of (fun S j jj x G h=>by
 exact Dy h fun c p k h=>Vn h fun d h=>EX h ⟨RO,OO (fun _ _=>rfl) id RO⟩) (fun _ _ _=>rfl) (fun _ _ _=>rfl) (fun _ _ _=>rfl) (fun _ _ _ _=>rfl)
theorem Yn :mF FA ME.none:=.of (fun S j jj x G h=>by
 exact Dy h fun c p k h=>ZK (Lm h).symm ⟨YZ,Fk id⟩) (fun _ _ _=>rfl) (fun _ _ _=>rfl) (fun _ _ _=>rfl) (fun _ _ _ _=>rfl)
theorem RP{S:mn}{x:Expr}(he:∀env A3,isTrue x env A3=(do let v <- A3;standAt x.pos;holding [v] (truthy v)))
  (hw:∀{Φ:Az} {env Q X μ},wt lY Φ env a Q X μ->we lY Φ env a (fun v μ'=>opt (D2 v) fun c=>Q c μ') X μ) (ha:S.SE a x):S.SE a x/\S.ST a x:=⟨ha,OO he hw ha⟩
theorem FU{S:mn}(h:∀{Φ:Az} {env Q X μ},¬wt lY Φ env a Q X μ)(ha:S.SE a x):S.SE a x/\S.ST a x:=⟨ha,Fk h⟩
theorem bN(y:Nat):mF FA (.lX y):=.of (fun S j jj x G h=>by
 exact AV h fun n p h=>RP (fun _ _=>rfl) id (cS (pos:=p) G (AS (Al h)).1 (AS (Al h)).2 (Al (Aa h)) (CH (Aa (Aa h))))) (fun _ _ _=>rfl) (fun _ _ _=>rfl) (fun _ _ _=>rfl) (fun _ _ _ _=>rfl)
theorem Yk(y:Nat):mF FA (.lY y):=.of (fun S j jj x G h=>by
 exact AV h fun n p h=>FU id (YW G (AS (Al h)).2 (Ej (Al (Aa h))) (CH (Aa (Aa h))))) (fun _ _ _=>rfl) (fun _ _ _=>rfl) (fun _ _ _=>rfl) (fun _ _ _ _=>rfl)
theorem bI(op:Operator)(a b:ME)(ha:mF FA a)(hb:mF FA b):mF FA (.bin op a b):=.of (fun S j jj x G h=>by
 exact Vm h fun l o r p h=>EX (Al h) (RP (fun _ _=>rfl) id (cM (pos:=p) (op:=op) (ha.e S j jj _ G (Al (Aa h))).1 (hb.e S j jj _ G (Aa (Aa h))).1))) (fun _ _ _=>rfl) (fun _ _ _=>rfl) (fun _ _ _=>rfl) (fun _ _ _ _=>rfl)
theorem eX(op:UnaryOp)(a:ME)(ha:mF FA a):mF FA (.un op a):=.of (fun S j jj x G h=>by
 refine Yq h fun o l p h=>EX (Al h) ⟨fK (ha.e S j jj _ G (Aa h)).1,?_⟩
 induction op with
 |Not=>exact dh (ha.e S j jj _ G (Aa h)).2
 |_=>exact Fk id) (fun _ _ _=>rfl) (fun _ _ _=>rfl) (fun _ _ _=>rfl) (fun _ _ _ _=>rfl)
theorem bK(a:ME)(op:CmpOp)(b:ME)(ha:mF FA a)(hb:mF FA b):mF FA (.cmp a op b):=.of (fun S j jj x G h=>by
 refine Ou h fun l os rs p h=>B5 h fun o h=>B5 h fun r h=>?_
 have e:op=o:=gN (Al h)
 subst e
 exact⟨cP G (ha.e S j jj _ G (Al (Aa (Aa h)))).1 (hb.e S j jj _ G (Aa (Aa (Aa h)))).1 (CH (Al (Aa h))),dc G (ha.e S j jj _ G (Al (Aa (Aa h)))).1 (hb.e S j jj _ G (Aa (Aa (Aa h)))).1 (CH (Al (Aa h)))⟩) (fun _ _ _=>rfl) (fun _ _ _=>rfl) (fun _ _ _=>rfl) (fun _ _ _ _=>rfl)
theorem Yg(a:ME)(o1:CmpOp)(b:ME)(o2:CmpOp)(c:ME)(ha:mF FA a)(hb:mF FA b)(hc:mF FA c):mF FA (.oA a o1 b o2 c):=.of (fun S j jj x G h=>by
 refine Ou h fun l os rs p h=>Hz h fun x1 x2 h=>Hz h fun r1 r2 h=>?_
 have e:o1=x1:=gN (Al h)
 have e':o2=x2:=gN (Al (Aa h))
 subst e e'
 exact⟨YT G (ha.e S j jj _ G (Al (Aa (Aa (Aa h))))).1 (hb.e S j jj _ G (Al (Aa (Aa (Aa (Aa h)))))).1 (hc.e S j jj _ G (Aa (Aa (Aa (Aa (Aa h)))))).1 (CH (Al (Aa (Aa h)))),Zd G (ha.e S j jj _ G (Al (Aa (Aa (Aa h))))).1 (hb.e S j jj _ G (Al (Aa (Aa (Aa (Aa h)))))).1 (hc.e S j jj _ G (Aa (Aa (Aa (Aa (Aa h)))))).1 (CH (Al (Aa (Aa h))))⟩) (fun _ _ _=>rfl) (fun _ _ _=>rfl) (fun _ _ _=>rfl) (fun _ _ _ _=>rfl)
theorem bM(t a b:ME)(ht:mF FA t)(ha:mF FA a)(hb:mF FA b):mF FA (.ite t a b):=.of (fun S j jj x G h=>by
 exact Yo h fun t' a' b' p h=>TP (ha.e S j jj _ G (Al (Aa h))) (hb.e S j jj _ G (Aa (Aa h))) fun a1 a2 b1 b2=>⟨cR (ht.e S j jj _ G (Al h)).2 a1 b1,rQ (ht.e S j jj _ G (Al h)).2 a2 b2⟩) (fun _ _ _=>rfl) (fun _ _ _=>rfl) (fun _ _ _=>rfl) (fun _ _ _ _=>rfl)
theorem Ye(f:Nat)(as:ME)(ha:mF FA as):mF FA (.call f as):=.of (fun S j jj x G h=>by
 exact El h fun g args kw q h=>AP h fun h=>AV h fun n p h=>RP (fun _ _=>rfl) id (YS (p:=p) (pos:=q) G (Al h) (AS (Al (Aa h))).2 (Ej (Al (Aa (Aa h)))) (CH (Al (Aa (Aa (Aa h))))) (ha.l S j jj _ G (Aa (Aa (Aa (Aa h))))).1 (ha.l S j jj _ G (Aa (Aa (Aa (Aa h))))).2)) (fun _ _ _=>rfl) (fun _ _ _=>rfl) (fun _ _ _=>rfl) (fun _ _ _ _=>rfl)
theorem bJ(f:Nat)(as:ME)(ha:mF FA as):mF FA (.blt f as):=.of (fun S j jj x G h=>by
 exact El h fun g args kw q h=>AP h fun h=>AV h fun n p h=>FU id (cO G (gH (Al h)) (gN (Al (Aa (Aa h)))) (Ej (Al (Aa (Aa (Aa h))))) (CH (Al (Aa h))) (ha.l S j jj _ G (Aa (Aa (Aa (Aa h))))).1 (ha.l S j jj _ G (Aa (Aa (Aa (Aa h))))).2)) (fun _ _ _=>rfl) (fun _ _ _=>rfl) (fun _ _ _=>rfl) (fun _ _ _ _=>rfl)
theorem Ym(o:ME)(f:Nat)(as:ME)(ho:mF FA o)(ha:mF FA as):mF FA (.mz o f as):=.of (fun S j jj x G h=>by
 exact El h fun g args kw q h=>AP h fun h=>Dk h fun o' n p h=>FU id (YY (gH (Al h)) (Al (Aa h)) (Al (Aa (Aa h))) (gH (Al (Aa (Aa (Aa h))))) (gN (Al (Aa (Aa (Aa (Aa h)))))) (ha.l S j jj _ G (Aa (Aa (Aa (Aa (Aa (Aa h))))))).1 (ho.e S j jj _ G (Al (Aa (Aa (Aa (Aa (Aa h))))))).1 (ha.l S j jj _ G (Aa (Aa (Aa (Aa (Aa (Aa h))))))).2)) (fun _ _ _=>rfl) (fun _ _ _=>rfl) (fun _ _ _=>rfl) (fun _ _ _ _=>rfl)
theorem Yc(o:ME)(a:Nat)(ho:mF FA o):mF FA (.attr o a):=.of (fun S j jj x G h=>by
 exact Dk h fun o' n p h=>RP (fun _ _=>rfl) id (YR (pos:=p) G (AS (Al (Aa h))).2 (List.elem_iff.mp (Al (Aa (Aa h)))) (Al h) (ho.e S j jj _ G (Aa (Aa (Aa h)))).1)) (fun _ _ _=>rfl) (fun _ _ _=>rfl) (fun _ _ _=>rfl) (fun _ _ _ _=>rfl)
theorem bQ(o i:ME)(ho:mF FA o)(hi:mF FA i):mF FA (.sub o i):=.of (fun S j jj x G h=>by
 exact GO h fun o' i' p h=>FU id (cU (Al h) (ho.e S j jj _ G (Al (Aa h))).1 (hi.e S j jj _ G (Aa (Aa h))).1)) (fun _ _ _=>rfl) (fun _ _ _=>rfl) (fun _ _ _=>rfl) (fun _ _ _ _=>rfl)
theorem Yl(es:ME)(he:mF FA es):mF FA (.list es):=.of (fun S j jj x G h=>by
 exact S3 h fun l p h=>FU id (YX (he.l S j jj _ G h).1 (he.l S j jj _ G h).2)) (fun _ _ _=>rfl) (fun _ _ _=>rfl) (fun _ _ _=>rfl) (fun _ _ _ _=>rfl)
theorem bR(es:ME)(he:mF FA es):mF FA (.tup es):=.of (fun S j jj x G h=>by
 exact Ka h fun l k p h=>FU id (cV (he.l S j jj _ G h).1 (he.l S j jj _ G h).2)) (fun _ _ _=>rfl) (fun _ _ _=>rfl) (fun _ _ _=>rfl) (fun _ _ _ _=>rfl)
theorem Yj(es:ME)(he:mF FA es):mF FA (.dict es):=.of (fun S j jj x G h=>by
 refine S1 h fun ks vs p h=>FU id (YV ?_ (gH (Al (Aa h))) (he.d S j jj _ _ G (Aa (Aa h))).1 (he.d S j jj _ _ G (Aa (Aa h))).2.1 (he.d S j jj _ _ G (Aa (Aa h))).2.2)
 rintro rfl;exact Bb (Al h)) (fun _ _ _=>rfl) (fun _ _ _=>rfl) (fun _ _ _=>rfl) (fun _ _ _ _=>rfl)
theorem Hj{S:mn}(ha:mF FA a)(hb:mF FA b)(G:Bi S FA j)(h:Jy jj S.sc (.and a b) vs=true):S.SB .And (.and a b) vs/\S.TB .And (.and a b) vs:=
 J4 h (fun x y h=>TP (ha.e S j jj _ G (Al h)) (hb.e S j jj _ G (Aa h)) fun a1 a2 b1 b2=>⟨V1 a1 (V2 b1),Wn a2 (Wo b2)⟩)
  fun x y r h=>TP (ha.e S j jj _ G (Al h)) (hb.an S j jj _ G (Aa h)) fun a1 a2 b1 b2=>⟨V1 a1 b1,Wn a2 b2⟩
theorem bH(a b:ME)(ha:mF FA a)(hb:mF FA b):mF FA (.and a b):=by
 refine⟨fun S j jj x G h=>?_,fun S j jj vs G h=>Hj ha hb G h,fun _ _ _ _ _ h=>Bb h,fun _ _ _ _ _ h=>Bb h,fun _ _ _ _ _ _ h=>Bb h⟩
 refine Lr h fun o vs p h=>?_
 induction o with
 |And=>exact⟨LH (Hj ha hb G (Aa h)).1,LL (Hj ha hb G (Aa h)).2⟩
 |Or=>exact Bb (Al h)
theorem Jx{S:mn}(ha:mF FA a)(hb:mF FA b)(G:Bi S FA j)(h:NZ jj S.sc (.or a b) vs=true):S.SB .Or (.or a b) vs/\S.TB .Or (.or a b) vs:=
 J4 h (fun x y h=>TP (ha.e S j jj _ G (Al h)) (hb.e S j jj _ G (Aa h)) fun a1 a2 b1 b2=>⟨Z3 a1 (V2 b1),Z6 a2 (Wo b2)⟩)
  fun x y r h=>TP (ha.e S j jj _ G (Al h)) (hb.or S j jj _ G (Aa h)) fun a1 a2 b1 b2=>⟨Z3 a1 b1,Z6 a2 b2⟩
theorem eV(a b:ME)(ha:mF FA a)(hb:mF FA b):mF FA (.or a b):=by
 refine⟨fun S j jj x G h=>?_,fun _ _ _ _ _ h=>Bb h,fun S j jj vs G h=>Jx ha hb G h,fun _ _ _ _ _ h=>Bb h,fun _ _ _ _ _ _ h=>Bb h⟩
 refine Lr h fun o vs p h=>?_
 induction o with
 |Or=>exact⟨LH (Jx ha hb G (Aa h)).1,LL (Jx ha hb G (Aa h)).2⟩
 |And=>exact Bb (Al h)
theorem OM{S:mn}(ha:mF FA a)(G:Bi S FA j)(h:Yp x (Iy a) (fun e=>AD jj S.sc a e)=true):S.pq a x:=by
 induction x with
 |none=>clear ha;induction a using ME.casesOn<;>first|exact Qv|exact Bb h
 |some e=>exact Qw (ha.e S j jj e G h).1
theorem Vk(o lo hi:ME)(ho:mF FA o)(pX:mF FA lo)(qg:mF FA hi):mF FA (.slice o lo hi):=.of (fun S j jj x G h=>by
 exact GO h fun o' i' p h=>Qb h fun tf qx st q h=>HB h fun h=>FU id (V4 (ho.e S j jj _ G (Al h)).1 (OM pX G (Al (Aa h))) (OM qg G (Aa (Aa h))))) (fun _ _ _=>rfl) (fun _ _ _=>rfl) (fun _ _ _=>rfl) (fun _ _ _ _=>rfl)
theorem UG{S:mn}{tH:Expr->Bool}{cond:ME}(h:(match ifs with
  |[]=>Rp cond
  |c :: r=>BM r (tH c))=true) (k:∀c,tH c=true->S.ST cond c):S.oJ cond ifs:=by
 induction ifs using List.casesOn with
 |nil=>
  clear k
  induction cond using ME.casesOn<;>first|exact Bb h|exact .inl ⟨rfl,congrArg ME.bool h⟩
 |cons c r=>exact AP (P:=fun r=>S.oJ cond (c :: r)) h fun h=>.inr ⟨_,rfl,k c h⟩
theorem O6(ha:mF FA a)(h:AD jj sc a x=true):IM FA sc a x:=fun T j' GT nZ=>(ha.e T j' jj _ GT (nZ.symm▸h)).1
theorem ag(ha:mF FA a)(h:AD jj sc a x=true)(T:mn)(j':Nat)(GT:Bi T FA j')(nZ:T.sc=sc):T.ST a x:=(ha.e T j' jj _ GT (nZ.symm▸h)).2
theorem Yh(elt:ME)(xs:List Nat)(one:Bool)(it cond:ME)(he:mF FA elt)(hi:mF FA it)(hc:mF FA cond):mF FA (.comp elt xs one it cond):=.of (fun S j jj x G h=>by
 refine HA h fun my gens scope p h=>B5 h fun g h=>Em h fun t ox ifs h=>?_
 induction jj using Nat.casesOn with
 |zero=>exact Bb h
 |succ jj=>exact FU id (YU G (Al h) (Al (Aa h)) (Al (Aa (Aa h))) (Al (Aa (Aa (Aa (Aa h))))) (hi.e S j jj _ G (Al (Aa (Aa (Aa h))))).1 (O6 he (Al (Aa (Aa (Aa (Aa (Aa h))))))) fun T j' GT nZ=>UG (Aa (Aa (Aa (Aa (Aa (Aa h)))))) fun c q=>ag hc q T j' GT nZ)) (fun _ _ _=>rfl) (fun _ _ _=>rfl) (fun _ _ _=>rfl) (fun _ _ _ _=>rfl)
theorem Vj(elt:ME)(x1:Nat)(pv:ME)(x2:Nat)(nV:ME)(he:mF FA elt)(hi:mF FA pv)(pW:mF FA nV):mF FA (.nU elt x1 pv x2 nV):=.of (fun S j jj x G h=>by
 refine HA h fun my gens scope p h=>Hz h fun g1 g2 h=>Em h fun t1 i1 rF h=>Em h fun t2 i2 rG h=>AP h fun h=>AP h fun h=>?_
 induction jj using Nat.casesOn with
 |zero=>exact Bb h
 |succ jj=>exact FU id (V3 G (Al h) (Al (Aa h)) (Al (Aa (Aa h))) (Al (Aa (Aa (Aa h)))) (bne_iff_ne.mp (Al (Aa (Aa (Aa (Aa h)))))) (Al (Aa (Aa (Aa (Aa (Aa (Aa h))))))) (Al (Aa (Aa (Aa (Aa (Aa (Aa (Aa (Aa h))))))))) (hi.e S j jj _ G (Al (Aa (Aa (Aa (Aa (Aa h))))))).1 (O6 pW (Al (Aa (Aa (Aa (Aa (Aa (Aa (Aa h))))))))) (O6 he (Aa (Aa (Aa (Aa (Aa (Aa (Aa (Aa (Aa h)))))))))))) (fun _ _ _=>rfl) (fun _ _ _=>rfl) (fun _ _ _=>rfl) (fun _ _ _ _=>rfl)
theorem bO:mF FA .nil:=
 ⟨fun _ _ _ _ _ h=>Bb h,fun _ _ _ _ _ h=>Bb h,fun _ _ _ _ _ h=>Bb h,fun S j jj xs G h=>AP h fun _=>⟨rfl,cW⟩,fun S j jj ks vs G h=>AP h fun h=>AP h fun _=>⟨rfl,rfl,cL⟩⟩
def dM(FA:Nat->Addr)(a:ME):Prop:=∀k v,a=.cons k v->mF FA k/\mF FA v
theorem Zz(h:a=true)(k:b=true):(a&&b)=true:=by rw[h,k];rfl
theorem Yi(a r:ME)(ha:mF FA a)(hp:dM FA a)(hr:mF FA r):mF FA (.cons a r):=by
 refine⟨fun _ _ _ _ _ h=>Bb h,fun _ _ _ _ _ h=>Bb h,fun _ _ _ _ _ h=>Bb h,fun S j jj xs G h=>?_,fun S j jj ks vs G h=>?_⟩
 ·exact A1 h fun x xs h=>⟨Zz (Al h) (hr.l S j jj xs G (Aa (Aa h))).1,Y7 (ha.e S j jj x G (Al (Aa h))).1 (hr.l S j jj xs G (Aa (Aa h))).2⟩
 ·refine A1 h fun k ks h=>A1 h fun v vs h=>BQ h fun k h=>?_
  induction a using ME.casesOn with
  |cons a b=>exact⟨Zz rfl (hr.d S j jj _ _ G (Aa h)).1,congrArg Nat.succ (hr.d S j jj _ _ G (Aa h)).2.1,YQ ((hp a b rfl).1.e S j jj _ G (Al (Al h))).1 ((hp a b rfl).2.e S j jj _ G (Aa (Al h))).1 (hr.d S j jj _ _ G (Aa h)).2.2⟩
  |_=>exact Bb (Al h)
theorem ER(FA:Nat->Addr)(a:ME):mF FA a/\dM FA a:=by
 induction a with
 |int i=>exact⟨bL i,fun _ _ h=>nomatch h⟩
 |str s=>exact⟨bP s,fun _ _ h=>nomatch h⟩
 |bool b=>exact⟨Yd b,fun _ _ h=>nomatch h⟩
 |none=>exact⟨Yn,fun _ _ h=>nomatch h⟩
 |lX x=>exact⟨bN x,fun _ _ h=>nomatch h⟩
 |lY x=>exact⟨Yk x,fun _ _ h=>nomatch h⟩
 |bin op a b ha hb=>exact⟨bI op a b ha.1 hb.1,fun _ _ h=>nomatch h⟩
 |un op a ha=>exact⟨eX op a ha.1,fun _ _ h=>nomatch h⟩
 |and a b ha hb=>exact⟨bH a b ha.1 hb.1,fun _ _ h=>nomatch h⟩
 |or a b ha hb=>exact⟨eV a b ha.1 hb.1,fun _ _ h=>nomatch h⟩
 |cmp a op b ha hb=>exact⟨bK a op b ha.1 hb.1,fun _ _ h=>nomatch h⟩
 |oA a o1 b o2 c ha hb hc=>exact⟨Yg a o1 b o2 c ha.1 hb.1 hc.1,fun _ _ h=>nomatch h⟩
 |ite t a b ht ha hb=>exact⟨bM t a b ht.1 ha.1 hb.1,fun _ _ h=>nomatch h⟩
 |call f as ha=>exact⟨Ye f as ha.1,fun _ _ h=>nomatch h⟩
 |blt f as ha=>exact⟨bJ f as ha.1,fun _ _ h=>nomatch h⟩
 |mz o f as ho ha=>exact⟨Ym o f as ho.1 ha.1,fun _ _ h=>nomatch h⟩
 |attr o a ho=>exact⟨Yc o a ho.1,fun _ _ h=>nomatch h⟩
 |sub o i ho hi=>exact⟨bQ o i ho.1 hi.1,fun _ _ h=>nomatch h⟩
 |slice o lo hi ho pX qg=>exact⟨Vk o lo hi ho.1 pX.1 qg.1,fun _ _ h=>nomatch h⟩
 |list es he=>exact⟨Yl es he.1,fun _ _ h=>nomatch h⟩
 |tup es he=>exact⟨bR es he.1,fun _ _ h=>nomatch h⟩
 |dict es he=>exact⟨Yj es he.1,fun _ _ h=>nomatch h⟩
 |comp elt xs one it cond he hi hc=>exact⟨Yh elt xs one it cond he.1 hi.1 hc.1,fun _ _ h=>nomatch h⟩
 |nU elt x1 pv x2 nV he hi pW=>exact⟨Vj elt x1 pv x2 nV he.1 hi.1 pW.1,fun _ _ h=>nomatch h⟩
 |nil=>exact⟨bO,fun _ _ h=>nomatch h⟩
 |cons a r ha hr=>exact⟨Yi a r ha.1 ha.2 hr.1,fun _ _ h=>by cases h;exact⟨ha.1,hr.1⟩⟩
end
section
variable{base:Heap}{K:Frag}{e:Env}{m:Str->Option Value}{fr:List oa}{env:An}{lg:Lg}{μ:MH}{h h':Heap}
open Classical in
noncomputable def Lg.m6(lg:Lg)(F:List Addr)(h':Heap):Lg:={lg with led:=fun a=>if a∈F/\lg.led a≠none then h'.get? a else lg.led a}
theorem Inv.slots(I:Inv base K e m fr env lg μ h){F:List Addr}(hF:∀a∈F,a=e.locals\/∃f∈fr,a=f.env.locals)(k:∀b o,b∉F->(lg.led b≠none\/base.get? b≠none)->h.get? b=some o->h'.get? b=some o)
  (sl:∀b o,b∈F->h.get? b=some o->∃s,h'.get? b=some {o with slots:=s}) (kL:∀o,e.locals∉F->h.get? e.locals=some o->h'.get? e.locals=some o) :
  ∃lZ,Inv base K e m fr env lZ μ h'/\Ext lg lZ/\(∀b,lg.led b=none->lZ.led b=none)/\lZ.mw=lg.mw:=by
 have th:∀a∈F,∀o,lg.led a=some o->∃es ep,o.data=.dict es ep:=fun a ha o q=>by
  rcases hF a ha with rfl|⟨f,hf,rfl⟩
  ·exact AM I.mH q
  ·obtain⟨⟨p,a1,es,ep,d,_⟩,_⟩:=I.frames f hf
   obtain rfl:=same a1 q;exact⟨es,ep,d⟩
 have same:∀a o,lg.led a=some o->(∀es ep,o.data≠.dict es ep)->(lg.m6 F h').led a=some o:=fun a o q nd=>by
  unfold Lg.m6;dsimp only
  rw[iI];exact q
  intro z
  obtain⟨es,ep,d⟩:=th a z.1 o q
  exact nd es ep d
 have re:∀{o:Obj},Da o->∀es ep,o.data≠.dict es ep:=fun⟨v,c⟩ es ep d=>by cases d.symm.trans c
 have off:∀a o,a∉F->lg.led a=some o->(lg.m6 F h').led a=some o:=fun a o n q=>by
  unfold Lg.m6;dsimp only;exact(iI fun z=>n z.1).trans (q)
 have x:Ext lg (lg.m6 F h'):=by
  refine⟨fun a o i q=>same a o q i.2.1,fun a o c q=>⟨o,c,same a o q fun es ep d=>?_⟩,fun _ _ q=>q⟩
  obtain⟨v,c⟩:=c;rw[d]at c;exact nomatch c
 have on:∀a o,a∈F->lg.led a=some o->∃s,h'.get? a=some {o with slots:=s}/\(lg.m6 F h').led a=some {o with slots:=s}:=fun a o ha q=>by
  obtain⟨s,g⟩:=sl a o ha (I.led _ _ q).1
  refine⟨s,g,?_⟩
  unfold Lg.m6;dsimp only;rw[iJ ⟨ha,by refine q.symm▸?_;simp⟩];exact g
 refine⟨lg.m6 F h',⟨fun b o q=>?_,?_,I.nG,?_,fun b p q=>?_,fun f hf=>?_,I.dist,I.apart,fun y v q ss=>(I.vars y v q ss).mono x fun a o c z=>?_,I.heap.len,I.heap.nodup,fun n p q=>?_⟩,x,fun b q=>?_,rfl⟩
 ·refine k b o (fun hb=>?_) (.inr (by refine q.symm▸?_;exact nofun)) (I.old b o q)
  rcases hF b hb with rfl|⟨f,hf,rfl⟩
  ·exact AM I.nG q
  ·obtain⟨⟨p,a1,_⟩,_⟩:=I.frames f hf
   exact AM ((I.led _ _ a1).2) q
 ·obtain⟨on',es,ep,q1,q2,q3⟩:=I.ns
  by_cases hb:e.locals∈F
  ·obtain⟨s,g⟩:=sl _ _ hb q1
   exact⟨_,es,ep,g,q2,q3⟩
  ·exact⟨on',es,ep,kL _ hb q1,q2,q3⟩
 ·unfold Lg.m6;dsimp only;exact(iI fun z=>z.2 I.mH).trans (I.mH)
 ·cases q0:lg.led b with
  |none=>unfold Lg.m6 at q;dsimp only at q;(rw[iI fun z=>z.2 q0]at q;replace q:=q0▸q);exact Ao q
  |some o=>
   by_cases hb:b∈F
   ·obtain⟨s,g,l⟩:=on b o hb q0
    replace q:=l▸q;obtain rfl:=Option.some.inj q
    exact⟨g,(I.led _ _ q0).2⟩
   ·replace q:=(off b o hb q0)▸q;cases Option.some.inj q
    exact⟨k b p hb (.inl (by refine q0.symm▸?_;simp)) (I.led _ _ q0).1,(I.led _ _ q0).2⟩
 ·obtain⟨⟨p,a1,es,ep,d,r⟩,a3⟩:=I.frames f hf
  refine⟨?_,fun c o q=>⟨same _ _ (a3 c o q).1 (re (a3 c o q).2),(a3 c o q).2⟩⟩
  ·by_cases hb:f.env.locals∈F
   ·obtain⟨s,g,l⟩:=on _ p hb a1
    exact⟨_,l,es,ep,d,r⟩
   ·exact⟨p,off _ p hb a1,es,ep,d,r⟩
 ·refine same a o z fun es ep d=>?_
  obtain⟨v,cc⟩:=c;rw[d]at cc;cases cc
 ·obtain⟨a',d,a1,a2⟩:=I.heap.each n p q
  refine⟨a',d,a1,a2.mono x fun ob z=>off _ _ (fun hb=>?_) z⟩
  rcases hF d hb with rfl|⟨f,hf,rfl⟩
  ·exact AM I.mH z
  ·exact I.apart f hf (a',_) (jn a1) rfl
 ·unfold Lg.m6;dsimp only;exact(iI fun z=>z.2 q).trans (q)
end
def DU(A:Around)(e:Env)(fr:List oa):Prop:=
 ∃outer,A.frames=some (e :: outer)/\∀x∈e :: outer,(x=e\/∃f∈fr,f.env=x)/\x.frame=some x.locals/\x.scope.kind≠.module
theorem DU.qG{e:Env}(h:DU A e fr):O3 A e fr:=let⟨_,a,b⟩:=h;⟨_,a,b⟩
section
variable{S:mn}{m:Str->Option Value}{env:An}{lg:Lg}{μ:MH}{h:Heap}
theorem SA(I:S.I m env lg μ h)(l:List Env):(∀x∈l,(x=S.e\/∃f∈S.fr,f.env=x)/\x.frame=some x.locals/\x.scope.kind≠.module)->h.FunFrames {} l:=by
 induction l with
 |nil=>exact fun _=>trivial
 |cons x l ih=>
  intro hx
  have h1:=(hx x (.head _)).1;have h2:=(hx x (.head _)).2.1;have h3:=(hx x (.head _)).2.2
  refine⟨h3,⟨x.locals,?_⟩,ih fun y hy=>hx y (.tail _ hy)⟩
  have none_:({}:Heap).get? x.locals=none:=by rfl
  rcases h1 with rfl|⟨f,hf,rfl⟩
  ·obtain⟨o,es,ep,q1,q2,_⟩:=I.ns
   exact⟨o,h2,none_,q1,fun vs d=>nomatch (q2.symm.trans d)⟩
  ·obtain⟨⟨o,a1,es,ep,d,_⟩,_⟩:=I.frames f hf
   exact⟨o,h2,none_,(I.led _ _ a1).1,fun vs d'=>nomatch (d.symm.trans d')⟩
end
structure TC(base:Heap)(K:Frag)(lg:Lg)(h:Heap)(L a:Addr)(r:Nat)(o:Obj)(vs:Array Value):Prop where
 base:base.get? a=none
 led:lg.led a=none
 lX:a≠L
 at_:h.get? a=some o
 lo:1<=r % 10
 hi:r % 10<=3
 cls:∃C,E8 K (r % 10) C/\o.cls=.ref C
 data:o.data=.fields vs
 size:2<vs.size
 ctx:r<10->vs[2]?=some .none
theorem FN.iff{base:Heap}{K:Frag}{lg:Lg}{h:Heap}{L a:Addr}{r:Nat}:FN base K lg h L a r↔∃o vs,TC base K lg h L a r o vs/\Zy base lg h L a vs:=by
 constructor
 ·rintro⟨a1,a2,a3,o,vs,C,b1,b2,b3,b4,b5,b6,b7,b8,b9⟩
  exact⟨o,vs,⟨a1,a2,a3,b1,b2,b3,⟨C,b4,b5⟩,b6,b7,b8⟩,b9⟩
 ·rintro⟨o,vs,⟨a1,a2,a3,b1,b2,b3,⟨C,b4,b5⟩,b6,b7,b8⟩,b9⟩
  exact⟨a1,a2,a3,o,vs,C,b1,b2,b3,b4,b5,b6,b7,b8,b9⟩
inductive Nq(base:Heap)(K:Frag)(lg:Lg)(h:Heap)(L a:Addr)(r:Nat):Prop
 |mk (o:Obj) (vs:Array Value) (O:TC base K lg h L a r o vs) (t:ud base lg h L a vs)
theorem Nq.at{base:Heap}{K:Frag}{lg:Lg}{h:Heap}{L a:Addr}{r:Nat}(x:Nq base K lg h L a r):FN base K lg h L a r:=let⟨o,vs,a,b⟩:=x;FN.iff.mpr ⟨o,vs,a,.inr b⟩
section
variable{S:mn}{m:Str->Option Value}{env:An}{lg:Lg}{μ:MH}{s:Shared}{E:Value->Shared->Prop}{a:Addr}{r:Nat}
theorem RX{oT:Obj}{ts:Array Value}{x:Value}(I:S.I m env lg μ s.heap)(O:TC S.base S.K lg s.heap S.e.locals a r o vs)(h1:vs[1]?=some (.ref T))(bT:S.base.get? T=none)(lT:lg.led T=none)(Ta:T≠a)(TL:T≠S.e.locals)
  (gT:s.heap.get? T=some oT) (dT:oT.data=.fields ts) (hz:3<ts.size) {Q:Unit->Shared->Prop}
  (h:∀h',S.I m env lg μ h'->TC S.base S.K lg h' S.e.locals a r o vs->ud S.base lg h' S.e.locals a vs->(∀b p,b≠T->s.heap.get? b=some p->h'.get? b=some p)->Q () {s with heap:=h'}):wpAny S.M S.A (setField (.ref T) 3 x) Q E s:=by
 refine jy gT dT hz ?_
 have keep:∀b p,b≠T->s.heap.get? b=some p->(s.heap.update T (Obj.mapFields (·.setIfInBounds 3 x))).get? b=some p:=fun b p n q=>(ik _ _ (iK n)).trans q
 have hT':=iu (Obj.mapFields (·.setIfInBounds 3 x)) gT (km (jw dT _))
 refine h _ (I.keepsBut bT lT (iK TL) keep) {O with at_:=keep a o (iK Ta) O.at_} ⟨T,_,_,h1,bT,lT,Ta,TL,hT',jw dT _,by simpa using hz⟩ keep
theorem Eg{f:Option Addr}{Q:Unit->Shared->Prop}(I:S.I m env lg μ s.heap)(x:Nq S.base S.K lg s.heap S.e.locals a r)
  (h:∀h',S.I m env lg μ h'->Nq S.base S.K lg h' S.e.locals a r->Q () {s with heap:=h'}):wpAny S.M S.A (setFlight (.ref a) f) Q E s:=by
 obtain⟨o,vs,O,T,oT,ts,h1,bT,lT,Ta,TL,gT,dT,hz⟩:=x
 refine gx (ix O.at_ O.data h1 ?_)
 exact RX I O h1 bT lT Ta TL gT dT hz fun h' I' O' t _=>h h' I' ⟨o,vs,O',t⟩
theorem N7{head:Value}{qI:Bool}{Q:Unit->Shared->Prop}(F:DU S.A S.e S.fr)(I:S.I m env lg μ s.heap)(O:TC S.base S.K lg s.heap S.e.locals a r o vs)
  (h:∀h' lZ,S.I m env lZ μ h'->Ext lg lZ->lZ.mw=lg.mw->Nq S.base S.K lZ h' S.e.locals a r->Q () {s with heap:=h'}) :
  wpAny S.M S.A (do let x <- frameOf S.e;let pl <- entryPlaceOf S.e.locals qI;let b <- EntryCells.newEntry head x .none (rawInt S.e.locals) .none pl;setField (.ref a) 1 b) Q E s:=by
 obtain⟨outer,tN,hx⟩:=F
 have hf:=(hx S.e (.head _)).2.1
 have hl:=SA I (S.e :: outer) hx
 have mem:∀b∈(S.e :: outer).filterMap (·.frame),b=S.e.locals\/∃f∈S.fr,b=f.env.locals:=fun b hb=>by
  obtain⟨y,hy,e⟩:=List.mem_filterMap.mp hb
  have h1:=(hx y hy).1;have h2:=(hx y hy).2.1
  obtain rfl:=same h2 e
  rcases h1 with rfl|⟨f,hf,rfl⟩
  ·exact .inl rfl
  ·exact .inr ⟨f,hf,rfl⟩
 have naF:a∉(S.e :: outer).filterMap (·.frame):=fun hm=>by
  rcases mem a hm with z|⟨f,hf,z⟩
  ·exact O.lX z
  ·obtain⟨⟨p,a1,_⟩,_⟩:=I.frames f hf
   have:=O.led;(rw[z]at this;replace this:=a1▸this);exact Rz this
 refine gx (wpAny_frameOf_fun tN hl hf fun h₁ qK=>?_)
 refine gx (wpAny_entryPlaceOf fun pl hpl=>?_)
 refine gx (kM ?_ (hpl.sizeOk5 _ _ _ _ _))
 have he₁:h₁.get? a=some o:=(qK.2.1 a naF).trans O.at_
 generalize sW:({cls:=.type "traceback",dict:=none,data:=.fields ([head,.ref S.e.locals,.none,rawInt S.e.locals,.none]++(if pl.isEmpty then List.replicate 6 Value.none else pl)).toArray}:Obj)=ob
 have tM:=gG (h:=h₁) ob he₁
 refine jy tM O.data (iv (by decide) O.size) ?_
 have hTe:h₁.objs.size≠a:=jO (g8 he₁)
 have hd₃:=jw O.data (·.setIfInBounds 1 (Value.ref h₁.objs.size))
 have he₃:=iu (Obj.mapFields (·.setIfInBounds 1 (Value.ref h₁.objs.size))) tM (km hd₃)
 have hT₃:=(ik (h₁.push ob) (Obj.mapFields (·.setIfInBounds 1 (Value.ref h₁.objs.size))) (iK hTe)).trans (hO h₁ (by refine sW▸?_;rfl))
 have oR:∀b p,b≠a->h₁.get? b=some p->((h₁.push ob).update a (Obj.mapFields (·.setIfInBounds 1 (Value.ref h₁.objs.size)))).get? b=some p:=fun b p n q=>
  (ik _ _ (iK n)).trans (gG _ q)
 have vm:∀b,(lg.led b≠none\/S.base.get? b≠none)->b≠a:=fun b q z=>by
  rcases q with q|q
  ·exact q (z▸O.led)
  ·exact q (z▸O.base)
 obtain⟨lZ,I',x',n',rO⟩:=I.slots (h':=(h₁.push ob).update a (Obj.mapFields (·.setIfInBounds 1 (Value.ref h₁.objs.size)))) (F:=(S.e :: outer).filterMap (·.frame)) mem
  (fun b p nb tr q=>oR b p (vm b tr) ((qK.2.1 b nb).trans q))
  (fun b p hb q=>by
   obtain⟨sl,g⟩:=qK.2.2 b p q
   exact⟨sl,oR b _ (fun z=>naF (z▸hb)) g⟩)
  (fun p nb q=>oR _ p (iK O.lX) ((qK.2.1 _ nb).trans q))
 have sz:h₁.objs.size=s.heap.objs.size:=qK.1
 have lT:lg.led h₁.objs.size=none:=by refine sz.symm▸?_;exact I.fresh
 have bT:S.base.get? h₁.objs.size=none:=by refine sz.symm▸?_;exact I.nK (Bl _)
 have tL:h₁.objs.size≠S.e.locals:=by
  obtain⟨on,g,_⟩:=H6.of I.ns
  have:=g8 g
  refine sz.symm▸?_;exact jO this
 refine h _ lZ I' x' rO ⟨_,_,⟨O.base,n' _ O.led,O.lX,he₃,O.lo,O.hi,?_,hd₃,by simpa using O.size,fun hr=>?_⟩,h₁.objs.size,ob,_,?_,bT,n' _ lT,hTe,tL,hT₃,by exact congrArg _ sW.symm,?_⟩
 ·obtain⟨C,c1,c2⟩:=O.cls
  exact⟨C,c1,(Obj.cls_mapFields ..).trans c2⟩
 ·have:=O.ctx hr
  simpa using this
 ·have:=O.size
  exact Array.getElem?_setIfInBounds_self_of_lt (by exact mP (mo _) (.add (.num 1) (.num 1)) mj (.add (.num 2) (.num 1)) mj rfl this)
 ·simp only[List.size_toArray,gy,gR,List.length_nil];exact p9 (mo _) (.add (.num 3) (.num 1)) (.add (.add (.add (.add (.add (.add (.num 0) (.num 1)) (.num 1)) (.num 1)) (.num 1)) (.num 1)) (.var 0)) rfl
theorem IC{Q:Unit->Shared->Prop}(F:DU S.A S.e S.fr)(I:S.I m env lg μ s.heap)(x:FN S.base S.K lg s.heap S.e.locals a r)
  (h:∀h' lZ,S.I m env lZ μ h'->Ext lg lZ->Nq S.base S.K lZ h' S.e.locals a r->Q () {s with heap:=h'}):wpAny S.M S.A (noteFrame (.ref a) S.e) Q E s:=by
 obtain⟨o,vs,O,t⟩:=FN.iff.mp x
 obtain⟨outer,tN,hx⟩:=id F
 have hf:=(hx S.e (.head _)).2.1
 unfold noteFrame
 simp only[hf]
 rcases t with h1|⟨T,oT,ts,h1,bT,lT,Ta,TL,gT,dT,hz⟩
 ·refine gx (ix O.at_ O.data h1 ?_)
  exact N7 F I O fun h' lZ I' x' _ e'=>h h' lZ I' x' e'
 ·refine gx (ix O.at_ O.data h1 ?_)
  have h3:ts[3]?=some ts[3]:=by simp[hz]
  refine gx (ix gT dT h3 ?_)
  by_cases q:(ts[3]==rawInt S.e.locals)=true
  ·rw[iJ q]
   exact gO (h s.heap lg I (Ext.refl _) ⟨o,vs,O,T,oT,ts,h1,bT,lT,Ta,TL,gT,dT,hz⟩)
  ·rw[iI q]
   refine gx (RX I O h1 bT lT Ta TL gT dT hz fun h' I' O' t' _=>?_)
   exact N7 (s:={s with heap:=h'}) F I' O' fun oW lZ I'' x' _ e'=>h oW lZ I'' x' e'
end
def FlR(base:Heap)(lg:Lg):KY->Flow->Prop
 |.next,.next=>True
 |.cont,.cont=>True
 |.ret v,.ret w=>Aw base lg v w
 |_,_=>False
inductive PS(S:mn)(lg:Lg)(s:Shared)(Q:Au)(fl:Flow)(s':Shared):Prop
 |mk (h':Heap) (tk:Nat) (lZ:Lg) (μ':MH) (m':Str->Option Value) (env':An) (mf:KY) (e:s'={s with heap:=h',toks:=tk}) (I:S.I m' env' lZ μ' h') (x:Ext lg lZ) (f:FlR S.base lZ mf fl) (q:Q mf env' μ')
inductive ES(S:mn)(lg:Lg)(s:Shared)(X:As)(v:Value)(s':Shared):Prop
 |mk (h':Heap) (tk:Nat) (lZ:Lg) (μ':MH) (m':Str->Option Value) (env':An) (a:Addr) (r:Nat) (e:s'={s with heap:=h',toks:=tk}) (I:S.I m' env' lZ μ' h') (x:Ext lg lZ) (v:v=.ref a) (ex:FN S.base S.K lZ h' S.e.locals a r) (q:X r μ')
theorem ES.of{S:mn}{m:Str->Option Value}{X:As}(h:S.X m env lg s X v s'):ES S lg s X v s':=by
 obtain⟨h',tk,lZ,μ',a,r,z1,z2,z3,z4,z5,z6⟩:=h
 exact⟨h',tk,lZ,μ',m,env,a,r,z1,z2,z3,z4,z5,z6⟩
theorem PS.trans{h':Heap}{tk:Nat}{Q:Au}{fl:Flow}{s':Shared}(x:Ext lg lZ)(h:PS S lZ {s with heap:=h',toks:=tk} Q fl s'):PS S lg s Q fl s':=by
 obtain⟨oW,rR,pz,om,m',env',mf,rfl,I,y,z,w⟩:=h
 exact⟨oW,rR,pz,om,m',env',mf,rfl,I,x.trans y,z,w⟩
theorem ES.trans{h':Heap}{tk:Nat}{X:As}{v:Value}{s':Shared}(x:Ext lg lZ)(h:ES S lZ {s with heap:=h',toks:=tk} X v s'):ES S lg s X v s':=by
 obtain⟨oW,rR,pz,om,m',env',a,r,rfl,I,y,z,w,u⟩:=h
 exact⟨oW,rR,pz,om,m',env',a,r,rfl,I,x.trans y,z,w,u⟩
def mn.Runs(S:mn)(t:Sem Flow)(W:Au->As->An->MH->Prop):Prop:=
 ∀m env lg μ Q X,W Q X env μ->∀(s:Shared) (E:Value->Shared->Prop),S.I m env lg μ s.heap->S.H lg->(∀v s',ES S lg s X v s'->E v s')->wpAny S.M S.A t (PS S lg s Q) E s
structure B9(S:mn)(FA:Nat->Addr)(Φs:Bool->Az)(hd:Bool):Prop where
 good:Bi S FA 2
 vf:S.Φ=Φs hd
 head:DU S.A S.e S.fr
 none:hd=false->S.A.handled=none
theorem mn.n9.mW{S:mn}{m:Str->Option Value}{env:An}{lg:Lg}{μ:MH}{α:Type}{t:Sem α}{P:Lg->MH->α->Prop}{X:As}{s:Shared}{E:Value->Shared->Prop}(d:S.n9 t m env lg μ P X)
  (I:S.I m env lg μ s.heap) (H:S.H lg) (hX:∀v s',ES S lg s X v s'->E v s') {k:α->Shared->Prop}
  (h:∀a h1 mT mD μ1,Ext lg mD->S.I m env mD μ1 h1->S.H mD->P mD μ1 a->(∀Q fl s',PS S mD {s with heap:=h1,toks:=mT} Q fl s'->PS S lg s Q fl s')->
   (∀v s',ES S mD {s with heap:=h1,toks:=mT} X v s'->E v s')->k a {s with heap:=h1,toks:=mT}):wpAny S.M S.A t k E s:=by
 refine gJ (d s E I H fun v s' z=>hX v s' (.of z)) (fun a s₁ hp=>?_) fun _ _ z=>z
 obtain⟨h',tk,qA,μ₁,rfl,I₁,x,p⟩:=hp
 exact h a h' tk qA μ₁ x I₁ (H.mono x) p (fun Q fl s' z=>z.trans x) (fun v s' z=>hX v s' (z.trans x))
theorem PS.next{S:mn}{tk:Nat}{Q:Au}{m':Str->Option Value}(I:S.I m' env' lZ μ' h')(x:Ext lg lZ)(q:Q .next env' μ'):PS S lg s Q .next {s with heap:=h',toks:=tk}:=
 ⟨h',tk,lZ,μ',m',env',.next,rfl,I,x,trivial,q⟩
theorem PS.stored{Q:Au}(h:IR S env' lg μ s s')(q:Q .next env' μ):PS S lg s Q .next s':=by
 obtain⟨h',tk,lZ,m',rfl,I,x,_⟩:=h
 exact .next I x q
section
variable{S:mn}{FA:Nat->Addr}{Φs:Bool->Az}{hd:Bool}
theorem B9.se(G:B9 S FA Φs hd)(h:AD 2 S.sc a x=true):∀m env lg μ Q X,we lY (Φs hd) env a Q X μ->S.n9 (eval x S.e) m env lg μ (PV S.base Q) X:=by
 have:=((ER FA a).1.e S 2 2 x G.good h).1
 unfold mn.SE at this
 rwa [G.vf]at this
theorem B9.st(G:B9 S FA Φs hd)(h:AD 2 S.sc a x=true):∀m env lg μ Q X,wt lY (Φs hd) env a Q X μ->S.n9 (isTrue x S.e (eval x S.e)) m env lg μ (PB Q) X:=by
 have:=((ER FA a).1.e S 2 2 x G.good h).2
 unfold mn.ST at this
 rwa [G.vf]at this
theorem fE:S.Runs (execs [] S.e) (ws lY Φs hd .skip):=by
 intro m env lg μ Q X h s E I H hX
 exact kh ⟨s.heap,s.toks,lg,μ,m,env,.next,rfl,I,Ext.refl _,trivial,h⟩
theorem cF:S.Runs (exec (.Pass pos) S.e) (ws lY Φs hd .skip):=by
 intro m env lg μ Q X h s E I H hX
 exact wpAny_Pass ⟨s.heap,s.toks,lg,μ,m,env,.next,rfl,I,Ext.refl _,trivial,h⟩
theorem cD:S.Runs (exec (.Continue pos) S.e) (ws lY Φs hd .cont):=by
 intro m env lg μ Q X h s E I H hX
 exact wpAny_Continue ⟨s.heap,s.toks,lg,μ,m,env,.cont,rfl,I,Ext.refl _,trivial,h⟩
theorem cC{a b:MS}{st:Stmt}{rest:List Stmt}(ha:S.Runs (exec st S.e) (ws lY Φs hd a))(hb:S.Runs (execs rest S.e) (ws lY Φs hd b)):S.Runs (execs (st :: rest) S.e) (ws lY Φs hd (.seq a b)):=by
 intro m env lg μ Q X h s E I H hX
 refine ju (gJ (ha _ _ _ _ _ _ h s E I H hX) (fun fl s1 z=>?_) fun _ _ e=>e)
 obtain⟨h1,mT,mD,μ1,m1,pM,mf,rfl,I1,x1,f,q⟩:=z
 induction mf with
 |next=>
  induction fl using Flow.casesOn<;>first|exact f.elim|skip
  exact gJ (hb _ _ _ _ _ _ q {s with heap:=h1,toks:=mT} E I1 (H.mono x1) fun v s' z=>hX v s' (z.trans x1)) (fun _ _ z=>z.trans x1) fun _ _ e=>e
 |cont=>
  induction fl using Flow.casesOn<;>first|exact f.elim|skip
  exact⟨h1,mT,mD,μ1,m1,pM,.cont,rfl,I1,x1,trivial,q⟩
 |ret v=>
  induction fl using Flow.casesOn<;>first|exact f.elim|skip
  exact⟨h1,mT,mD,μ1,m1,pM,.ret v,rfl,I1,x1,f,q⟩
theorem fF{e:ME}(G:B9 S FA Φs hd)(he:AD 2 S.sc e x=true):S.Runs (exec (.Return (some x) pos) S.e) (ws lY Φs hd (.ret e)):=by
 intro m env lg μ Q X h s E I H hX
 refine kN (gJ (G.se he _ _ _ _ _ _ h s E I H fun v s' z=>hX v s' (.of z)) (fun v s1 z=>?_) fun _ _ e=>e)
 obtain⟨h1,mT,mD,μ1,rfl,I1,x1,uv,ru,q⟩:=z
 exact⟨h1,mT,mD,μ1,m,env,.ret uv,rfl,I1,x1,ru,q⟩
theorem cG:S.Runs (exec (.Return none pos) S.e) (ws lY Φs hd (.ret .none)):=by
 intro m env lg μ Q X h s E I H hX
 exact wpAny_Return_none ⟨s.heap,s.toks,lg,μ,m,env,.ret .none,rfl,I,Ext.refl _,.none,h⟩
theorem J1(h:FC x=true)(t:Option Expr)(line:Nat)(env:Env):swapsWith x t line env=pure false:=by
 induction x using Expr.casesOn<;>first|rfl|exact nomatch h
theorem fD{t:ME}{a b:MS}{t':Expr}{a' b':List Stmt}{pos:Pos}(G:B9 S FA Φs hd)(ht:AD 2 S.sc t t'=true)(ha:S.Runs (execs a' S.e) (ws lY Φs hd a))(hb:S.Runs (execs b' S.e) (ws lY Φs hd b)) :
  S.Runs (exec (.If t' a' b' pos) S.e) (ws lY Φs hd (.ite t a b)):=by
 intro m env lg μ Q X h s E I H hX
 refine wpAny_If ((G.st ht _ _ _ _ _ _ h).mW I H hX fun u h1 mT mD μ1 x1 I1 H1 p1 k1 mK=>?_)
 induction u with
 |true=>exact gJ (ha _ _ _ _ _ _ p1 _ E I1 H1 mK) (fun _ _ z=>k1 _ _ _ z) fun _ _ e=>e
 |false=>exact gJ (hb _ _ _ _ _ _ p1 _ E I1 H1 mK) (fun _ _ z=>k1 _ _ _ z) fun _ _ e=>e
theorem cE{e:ME}{x:Expr}{pos:Pos}(G:B9 S FA Φs hd)(he:AD 2 S.sc e x=true)(hc:FC x=true):S.Runs (exec (.Expr x pos) S.e) (ws lY Φs hd (.expr e)):=by
 intro m env lg μ Q X h s E I H hX
 refine wpAny_Expr_any ((G.se he _ _ _ _ _ _ h).mW I H hX fun u h1 mT mD μ1 x1 I1 H1 p1 k1 mK=>?_) (by unfold interactive;refine G.good.env.kind.symm▸?_;rfl) (J1 hc _ _ _)
 obtain⟨uv,ru,q⟩:=p1
 exact .next I1 x1 q
theorem Bi.toS(G:Bi S FA j):Bi S FA j:=G
theorem Dl{pos:Pos}{Q:Flow->Shared->Prop}{E:Value->Shared->Prop}(hs:swapsWith value (some t) pos.line S.e=pure false)(hw:swappedStores [t] value S.e=pure none)(uW:∀e' p',t≠.Starred e' p')
  (h:wpAny S.M S.A (eval value S.e) (fun v s₁=>wpAny S.M S.A (assign t S.e v) (fun _=>Q .next) E s₁) E s):wpAny S.M S.A (exec (.Assign [t] value pos) S.e) Q E s:=by
 have e1:(assignEach [t] S.e).map (·.2)=[assign t S.e]:=by
  induction t using Expr.casesOn<;>first|rfl|(exact absurd rfl (uW _ _))
 refine wpAny_Assign_stores (gJ h (fun v s₁ h₁=>?_) fun _ _ x=>x) hs hw
 refine e1.symm▸?_
 exact h₁
theorem OB{x:Nat}{e:ME}{n:Str}{v:Expr}{p pos:Pos}(G:B9 S FA Φs hd)(hn:Ez x n=true)(hl:S.sc.lookup n=some .local\/S.sc.lookup n=some .cell)(he:AD 2 S.sc e v=true)(hsw:swapsWith v (some (.Name n p)) pos.line S.e=pure false) :
  S.Runs (exec (.Assign [.Name n p] v pos) S.e) (ws lY Φs hd (.assign x e)):=by
 intro m env lg μ Q X h s E I H hX
 have hx:=(AS hn).1;have hn:=(AS hn).2
 refine Dl hsw rfl (by intro _ _ z;cases z) ((G.se he _ _ _ _ _ _ h).mW I H hX fun u h1 mT mD μ1 x1 I1 H1 p1 k1 mK=>?_)
 obtain⟨uv,ru,q⟩:=p1
 exact gJ (Ck (s:={s with heap:=h1,toks:=mT}) G.good hn hx hl I1 H1 ru) (fun _ _ z=>k1 _ _ _ (.stored z q)) fun _ _ e=>e
theorem Tf{e:ME}(G:B9 S FA Φs hd)(hn:Ez a n=true)(ha:a∈EJ)(ho:AD 2 S.sc o o'=true)(he:AD 2 S.sc e v=true) :
  S.Runs (exec (.Assign [.Attribute o' n p] v pos) S.e) (ws lY Φs hd (.setAttr o a e)):=by
 intro m env lg μ Q X h s E I H hX
 have hx:=(AS hn).1;have hn:=(AS hn).2
 subst hn
 refine Dl (by induction v using Expr.casesOn<;>rfl) (by induction v using Expr.casesOn<;>rfl) (by intro _ _ z;cases z) ((G.se he _ _ _ _ _ _ h).mW I H hX fun u h1 mT mD μ1 x1 I1 H1 p1 k1 mK=>?_)
 obtain⟨uv,ru,q⟩:=p1
 refine gx (hW ((G.se ho _ _ _ _ _ _ q).mW I1 H1 mK fun w h2 nE mV μ2 x2 I2 H2 p2 k2 pi=>?_))
 obtain⟨wv,oG,q⟩:=p2
 refine gx (hV (gx (hW (gJ (Kf (s:={s with heap:=h2,toks:=nE}) G.good.base.cls G.good.base.pY I2 oG (ru.mono x2) ha q) (fun _ s3 z=>?_) fun _ _ e=>e))))
 obtain⟨h3,pH,pk,μ3,rfl,I3,x3,q⟩:=z
 exact jQ (k1 _ _ _ (k2 _ _ _ (.next I3 x3 q)))
theorem VO{e:ME}(G:B9 S FA Φs hd)(ho:AD 2 S.sc o o'=true)(hi:AD 2 S.sc i i'=true)(he:AD 2 S.sc e v=true) :
  S.Runs (exec (.Assign [.Subscript o' i' p] v pos) S.e) (ws lY Φs hd (.nh o i e)):=by
 intro m env lg μ Q X h s E I H hX
 refine Dl (by induction v using Expr.casesOn<;>rfl) (by induction v using Expr.casesOn<;>rfl) (by intro _ _ z;cases z) ((G.se he _ _ _ _ _ _ h).mW I H hX fun u h1 mT mD μ1 x1 I1 H1 p1 k1 mK=>?_)
 obtain⟨uv,ru,q⟩:=p1
 refine gx (hW ((G.se ho _ _ _ _ _ _ q).mW I1 H1 mK fun w h2 nE mV μ2 x2 I2 H2 p2 k2 pi=>?_))
 obtain⟨wv,oG,q⟩:=p2
 refine gx (hW ((G.se hi _ _ _ _ _ _ q).mW I2 H2 pi fun y h3 pH pk μ3 x3 I3 H3 p3 k3 sN=>?_))
 obtain⟨yv,ry,q⟩:=p3
 refine gx (hV (gx (hW (gJ (LJ (s:={s with heap:=h3,toks:=pH}) I3 (oG.mono x3) ry ((ru.mono x2).mono x3) q) (fun _ s3 z=>?_) fun _ _ e=>e))))
 obtain⟨h4,tZ,qO,μ4,rfl,I4,x4,q⟩:=z
 exact jQ (k1 _ _ _ (k2 _ _ _ (k3 _ _ _ (.next I4 x4 q))))
theorem fA{e:ME}(G:B9 S FA Φs hd)(hn:Ez x n=true)(hl:S.sc.lookup n=some .local)(he:AD 2 S.sc e v=true) :
  S.Runs (exec (.AugAssign (.Name n p) op v pos) S.e) (ws lY Φs hd (.aug x op e)):=by
 intro m env lg μ Q X h s E I H hX
 have hx:=(AS hn).1;have hn:=(AS hn).2
 subst hn
 obtain⟨u,hu,h⟩:=Aq h
 have hk:=G.good.env.lX _ hl
 have hv:=(I.vars x u hu ⟨hx,.inl hk⟩).2
 rcases hv with⟨_,w,hw,oG⟩|⟨z,_⟩
 ·refine wpAny_AugAssign_Name (jE G.good.env.kind hk I.ns hw ?_)
  refine(G.se he _ _ _ _ _ _ h).mW I H hX fun y h1 mT mD μ1 x1 I1 H1 p1 k1 mK=>?_
  obtain⟨yv,ry,q⟩:=p1
  refine gJ (O8 (s:={s with heap:=h1,toks:=mT}) I1 (oG.mono x1) ry q) (fun r s2 z=>?_) fun _ _ e=>e
  obtain⟨h2,nE,mV,μ2,rfl,I2,x2,rv,rr,q⟩:=z
  refine gJ (OQ (s:={s with heap:=h2,toks:=nE}) G.good hx (.inl hl) I2 (H1.mono x2) rr) (fun _ _ z=>?_) fun _ _ e=>e
  exact k1 _ _ _ ((PS.stored z q).trans x2)
 ·replace z:=hk▸z;exact nomatch z
theorem Te{e:ME}(G:B9 S FA Φs hd)(hn:Ez a n=true)(ha:a∈EJ)(ho:AD 2 S.sc o o'=true)(he:AD 2 S.sc e v=true) :
  S.Runs (exec (.AugAssign (.Attribute o' n p) op v pos) S.e) (ws lY Φs hd (.mA o a op e)):=by
 intro m env lg μ Q X h s E I H hX
 have hx:=(AS hn).1;have hn:=(AS hn).2
 subst hn
 refine wpAny_AugAssign_AttributeAny ((G.se ho _ _ _ _ _ _ h).mW I H hX fun u h1 mT mD μ1 x1 I1 H1 p1 k1 mK=>?_)
 obtain⟨uv,ru,q⟩:=p1
 obtain⟨w,hw,q⟩:=Aq q
 refine gJ (QS (s:={s with heap:=h1,toks:=mT}) (Q:=fun z μ'=>z=w/\μ'=μ1) G.good.base.cls G.good.base.pY I1 ru ha hw ⟨rfl,rfl⟩) (fun old s2 z=>?_) fun _ _ e=>e
 obtain⟨h2,nE,mV,μ2,rfl,I2,x2,wv,oG,e1,e2⟩:=z
 subst e1 e2
 refine(G.se he _ _ _ _ _ _ q).mW (s:={s with heap:=h2,toks:=nE}) I2 (H1.mono x2) (fun v s' z=>mK v s' (ES.trans (h':=h2) (tk:=nE) x2 z)) fun y h3 pH pk μ3 x3 I3 H3 p3 k3 sN=>?_
 obtain⟨yv,ry,q⟩:=p3
 refine gJ (O8 (s:={s with heap:=h3,toks:=pH}) I3 (oG.mono x3) ry q) (fun r s4 z=>?_) fun _ _ e=>e
 obtain⟨h4,tZ,qO,μ4,rfl,I4,x4,rv,rr,q⟩:=z
 refine gJ (Kf (s:={s with heap:=h4,toks:=tZ}) G.good.base.cls G.good.base.pY I4 (((ru.mono x2).mono x3).mono x4) rr ha q) (fun _ s5 z=>?_) fun _ _ e=>e
 obtain⟨h5,tk5,lg5,μ5,rfl,I5,x5,q⟩:=z
 exact k1 _ _ _ (PS.trans (h':=h2) (tk:=nE) x2 (k3 _ _ _ (.next I5 (x4.trans x5) q)))
theorem VN{e:ME}(G:B9 S FA Φs hd)(oZ:FB i'=true)(ho:AD 2 S.sc o o'=true)(hi:AD 2 S.sc i i'=true)(he:AD 2 S.sc e v=true) :
  S.Runs (exec (.AugAssign (.Subscript o' i' p) op v pos) S.e) (ws lY Φs hd (.mM o i op e)):=by
 intro m env lg μ Q X h s E I H hX
 refine wpAny_AugAssign_SubscriptAny ((G.se ho _ _ _ _ _ _ h).mW I H hX fun u h1 mT mD μ1 x1 I1 H1 p1 k1 mK=>?_) (fun _ _ _=>by induction i' using Expr.casesOn<;>first|rfl|exact nomatch oZ)
 obtain⟨uv,ru,q⟩:=p1
 refine(G.se hi _ _ _ _ _ _ q).mW I1 H1 mK fun k h2 nE mV μ2 x2 I2 H2 p2 k2 pi=>?_
 obtain⟨kv,rk,q⟩:=p2
 obtain⟨w,hw,q⟩:=Aq q
 rw[IL]at hw
 refine gJ (Wi (prog:=S.pg) (w:=S.w) (A:=S.A) (E:=E) (s:={s with heap:=h2,toks:=nE}) (Q:=fun z μ'=>z=w/\μ'=μ2) I2 (ru.mono x2) rk hw ⟨rfl,rfl⟩).rT (fun old s3 z=>?_) fun _ _ e=>e
 obtain⟨h3,pH,pk,μ3,rfl,I3,x3,wv,oG,e1,e2⟩:=z
 subst e1 e2
 refine(G.se he _ _ _ _ _ _ q).mW (s:={s with heap:=h3,toks:=pH}) I3 (H2.mono x3) (fun v s' z=>pi v s' (ES.trans (h':=h3) (tk:=pH) x3 z)) fun y h4 tZ qO μ4 x4 I4 H4 p4 k4 hX4=>?_
 obtain⟨yv,ry,q⟩:=p4
 refine gJ (O8 (s:={s with heap:=h4,toks:=tZ}) I4 (oG.mono x4) ry q) (fun r s5 z=>?_) fun _ _ e=>e
 obtain⟨h5,tk5,lg5,μ5,rfl,I5,x5,rv,rr,q⟩:=z
 refine gJ (LJ (s:={s with heap:=h5,toks:=tk5}) I5 ((((ru.mono x2).mono x3).mono x4).mono x5) (((rk.mono x3).mono x4).mono x5) rr q) (fun _ s6 z=>?_) fun _ _ e=>e
 obtain⟨h6,tk6,lg6,μ6,rfl,I6,x6,q⟩:=z
 exact k1 _ _ _ (k2 _ _ _ (PS.trans (h':=h3) (tk:=pH) x3 (k4 _ _ _ (.next I6 (x5.trans x6) q))))
end
section
variable{S:mn}{FA:Nat->Addr}{Φs:Bool->Az}{hd:Bool}
theorem Q1{m:Str->Option Value}{s:Shared}{E:Value->Shared->Prop}(I:S.I m env lg μ s.heap)(x:Nq S.base S.K lg s.heap S.e.locals a r)
  (h:∀h',S.I m env lg μ h'->Nq S.base S.K lg h' S.e.locals a r->E (.ref a) {s with heap:=h'}):cameBackBy S.M S.A S.e E (.ref a) s:=by
 obtain⟨o,vs,O,T,oT,ts,h1,rest⟩:=id x
 refine gx (ix O.at_ O.data h1 ?_)
 exact Eg I x h
theorem JT{X:As}{E:Value->Shared->Prop}(F:DU S.A S.e S.fr)(hX:∀v s',ES S lg0 s0 X v s'->E v s')(h:ES S lg0 s0 X v s') :
  notedBy S.M S.A S.e (fun e s'=>cameBackBy S.M S.A S.e E e s') v s':=by
 obtain⟨h',tk,lZ,μ',m',env',a,r,rfl,I,x,rfl,ex,q⟩:=h
 refine IC (s:={s0 with heap:=h',toks:=tk}) F I ex fun h2 mV I2 x2 e2=>?_
 exact Q1 (s:={s0 with heap:=h2,toks:=tk}) I2 e2 fun h3 I3 e3=>hX _ _ ⟨h3,tk,mV,μ',m',env',a,r,rfl,I3,x.trans x2,rfl,e3.at,q⟩
def FW(Φs:Bool->Az)(hd:Bool)(xs:List Nat)(one:Bool)(b:MS)(X:As)(c:Option (Nat×List V))(items:List V)(Q:Au)(env:An)(μ:MH):Prop:=
 Bz c (fun v K env' μ'=>opt (AC xs one v env') fun e=>ws lY Φs hd b K X e μ') items Q env μ
theorem FW.nB{xs:List Nat}{one:Bool}{b:MS}{X:As}{c:Option (Nat×List V)}{items:List V}{Q:Au}{env:An}{μ:MH}(hw:FW Φs hd xs one b X c items Q env μ):HG c μ:=by
 induction items using List.casesOn with
 |nil=>exact(A2 hw).1
 |cons v rest=>exact(A2 hw).1
inductive FL(S:mn)(Φs:Bool->Az)(hd:Bool)(xs:List Nat)(one:Bool)(b:MS)(X:As)(items:List V)(c:Option (Nat×List V))(it:Addr)(lgA:Lg)(s0:Shared)(Q:Au)(n:Nat)(s:Shared):Prop
 |mk (h':Heap) (tk:Nat) (lZ:Lg) (μ':MH) (m':Str->Option Value) (env':An) (k:Nat) (o:Obj) (e:s={s0 with heap:=h',toks:=tk}) (I:S.I m' env' lZ μ' h') (H:S.H lZ) (x:Ext lgA lZ) (hl:lZ.led it=some o) (hit:AL S.base lZ items c k o) (hn:n=items.length - k) (hk:k<=items.length)
  (hw:FW Φs hd xs one b X c (items.drop k) Q env' μ')
inductive FS(S:mn)(xs:List Nat)(one:Bool)(items:List V)(c:Option (Nat×List V))(it:Addr)(lgA:Lg)(s0:Shared)(env0:An)(μ:MH)(k:Nat)(s:Shared):Prop
 |mk (v:V) (e:An) (lg:Lg) (m:Str->Option Value) (o:Obj) (h:Heap) (tk:Nat) (hv:items[k]?=some v) (he:AC xs one v env0=some e) (es:s={s0 with heap:=h,toks:=tk}) (I:S.I m e lg μ h) (H:S.H lg) (x:Ext lgA lg) (hl:lg.led it=some o) (hit:AL S.base lg items c (k+1) o)
theorem Ux{xs:List Nat}{one:Bool}{b:MS}{body:List Stmt}{it:Addr}{items:List V}{c:Option (Nat×List V)}{Q:Au}{X:As}{lgA:Lg}{s0:Shared}{E:Value->Shared->Prop}{k:Nat}{μ:MH}{env:An}{s:Shared}{T:Flow->Shared->Prop}
  (hb:S.Runs (execs body S.e) (ws lY Φs hd b)) (hX:∀v s',ES S lgA s0 X v s'->E v s') (hw:FW Φs hd xs one b X c (items.drop k) Q env μ) (hs:FS S xs one items c it lgA s0 env μ k s)
  (next:∀f s',f=.next\/f=.cont->FL S Φs hd xs one b X items c it lgA s0 Q (items.length - (k+1)) s'->k+1<=items.length->T f s') (out:∀w s',PS S lgA s0 Q (.ret w) s'->T (.ret w) s') :
  wpAny S.M S.A (execs body S.e) T E s:=by
 obtain⟨v,e,tT,m₃,o₃,h₃,tv,hv,he,rfl,I₃,H₃,x₃,sV,pu⟩:=hs
 rw[GD hv]at hw
 obtain⟨e',sQ,hwb⟩:=Aq (A2 hw).2
 cases he.symm.trans sQ
 have oQ:=(List.getElem?_eq_some_iff.mp hv).1
 refine gJ (hb m₃ e tT μ _ X hwb {s0 with heap:=h₃,toks:=tv} _ I₃ H₃ fun v s' z=>hX _ _ (z.trans x₃)) (fun fl s₄ z=>?_) fun _ _ e=>e
 clear hb hX hw hwb
 obtain⟨h₄,qB,te,μ₄,m₄,rj,mf,rfl,I₄,x₄,f,q⟩:=z
 have again:FW Φs hd xs one b X c (items.drop (k+1)) Q rj μ₄->FL S Φs hd xs one b X items c it lgA s0 Q (items.length - (k+1)) {s0 with heap:=h₄,toks:=qB}:=fun w₄=>
  ⟨h₄,qB,te,μ₄,m₄,rj,k+1,o₃,rfl,I₄,H₃.mono x₄,x₃.trans x₄,x₄.oq _ _ pu.oq.1 sV,pu.mono x₄.v,rfl,oQ,w₄⟩
 induction mf with
 |next=>
  induction fl using Flow.casesOn<;>first|exact f.elim|skip
  exact next _ _ (.inl rfl) (again q) oQ
 |cont=>
  induction fl using Flow.casesOn<;>first|exact f.elim|skip
  exact next _ _ (.inr rfl) (again q) oQ
 |ret w=>
  induction fl using Flow.casesOn<;>first|exact f.elim|skip
  exact out _ _ ⟨h₄,qB,te,μ₄,m₄,rj,.ret w,rfl,I₄,x₃.trans x₄,f,q⟩
theorem Uy{xs:List Nat}{one:Bool}{t:Expr}{b:MS}{body:List Stmt}{it:Addr}{items:List V}{c:Option (Nat×List V)}{Q:Au}{X:As}{lgA:Lg}{s0:Shared}{E:Value->Shared->Prop}(G:B9 S FA Φs hd)(hT:E5 S.sc xs one t=true)
  (hb:S.Runs (execs body S.e) (ws lY Φs hd b)) (hA:lgA.led it=none) (hX:∀v s',ES S lgA s0 X v s'->E v s') (n:Nat) (s:Shared) (hs:FL S Φs hd xs one b X items c it lgA s0 Q n s) :
  codeAny S.M S.A (.forLoop t (.ref it) body [] S.e) (fun r s'=>match r with|.ok f=>PS S lgA s0 Q f s'|.error e=>cameBackBy S.M S.A S.e E e s') s:=by
 refine codeAny_loop' rfl (FL S Φs hd xs one b X items c it lgA s0 Q) (fun n s sM=>?_) n hs
 obtain⟨h',tk,lZ,μ',m',env',k,o,rfl,I,H,xA,hl,hit,hn,hk,hw⟩:=sM
 refine lN ?_
 refine gx (hV (gx (wpAny_onRaise ?_)))
 refine gJ (Nl (s:={s0 with heap:=h',toks:=tk}) (E:=fun e s'=>notedBy S.M S.A S.e (fun e s'=>cameBackBy S.M S.A S.e E e s') e s') G.good hT I H hl hit hw.nB
  (Qn:=fun s₁=>PS S lgA s0 Q .next s₁) (Qs:=fun _ s₃=>FS S xs one items c it lgA s0 env' μ' k s₃)
  (fun hle h1 mD I1 o9 x1=>?_) (fun v z hv pM uy s1 mD m1 o1 I1 H1 x1 ⟨h1,mT,e1⟩ qT qh o9=>?_) fun v hv=>?_) (fun rr s₁ h₁=>?_) fun _ _ e=>hV e
 ·replace hw:=(kg hle)▸hw
  exact .next I1 (x1 lgA xA hA) (A2 hw).2
 ·cases e1
  exact⟨v,pM,mD,m1,o1,h1,mT,hv,uy,rfl,I1,H1,x1 lgA xA hA,qT,qh⟩
 ·replace hw:=(GD hv)▸hw
  obtain⟨e,he,_⟩:=Aq (A2 hw).2
  exact⟨e,he⟩
 ·induction rr with
  |none=>exact gO (.inr ⟨rfl,codeAny_block (kh h₁)⟩)
  |some z=>
   refine gx (gJ h₁ (fun _ s₂ h₂=>gx (gJ h₂ (fun _ s₃ h₃=>?_) fun _ _ e=>e)) fun _ _ e=>e)
   refine gx (Ux hb (fun v s' z=>JT G.head hX z) hw h₃ (fun f s' q cl lt=>?_) fun w s' z=>gO z)
   have le:items.length - (k+1)<n:=by refine hn.symm▸?_;exact kz lt (iM k)
   rcases q with rfl|rfl
   ·exact gO (.inl ⟨rfl,_,le,cl⟩)
   ·exact gO (.inl ⟨rfl,_,le,cl⟩)
theorem fB{xs:List Nat}{one:Bool}{t ox:Expr}{it:ME}{b:MS}{body:List Stmt}{pos:Pos}(G:B9 S FA Φs hd)(hT:E5 S.sc xs one t=true)(oZ:Dw ox=true)(hit:AD 2 S.sc it ox=true)(hb:S.Runs (execs body S.e) (ws lY Φs hd b)) :
  S.Runs (exec (.For t ox body [] pos) S.e) (ws lY Φs hd (.mt xs one it b)):=by
 intro m env lg μ Q X h s E I H hX
 refine wpAny_For ((G.se hit _ _ _ _ _ _ h).mW I H hX fun u h1 mT mD μ1 x1 I1 H1 p1 k1 mK=>?_) (MR oZ _)
 obtain⟨uv,ru,q⟩:=p1
 obtain⟨⟨items,c⟩,hi,hw⟩:=Aq q
 rw[Rk]at hw
 refine MC (s:={s with heap:=h1,toks:=mT}) I1 ru hi fun a o h2 mV na I2 x2 rC pO rJ ke2=>?_
 refine codeAny_mono (Uy (lgA:=mD) (s0:={s with heap:=h2,toks:=mT}) (items:=items) (c:=c) (Q:=Q) (X:=X) (E:=E) (xs:=xs) (one:=one) (b:=b) G hT hb na (fun v s' z=>hX v s' ?_) (items.length - 0) _ ?_) fun r s' z=>?_
 ·exact ES.trans (h':=h1) (tk:=mT) x1 (by
   obtain⟨h',tk,lZ,μ',m',env',a,r,e1,z1,z2,z3,z4,z5⟩:=z
   exact⟨h',tk,lZ,μ',m',env',a,r,e1,z1,z2,z3,z4,z5⟩)
 ·refine⟨h2,mT,mV,μ1,m,env,0,o,rfl,I2,H1.mono x2,x2,rC,pO,rfl,ie _,hw⟩
 ·induction r with
  |error e=>exact z
  |ok f=>
   refine k1 Q f s' ?_
   obtain⟨h',tk,lZ,μ',m',env',mf,e1,z1,z2,z3,z4⟩:=z
   exact⟨h',tk,lZ,μ',m',env',mf,e1,z1,z2,z3,z4⟩
end
section
variable{S:mn}{FA:Nat->Addr}{Φs:Bool->Az}{hd:Bool}
inductive WL(S:mn)(Φs:Bool->Az)(hd:Bool)(t:ME)(b:MS)(X:As)(lg0:Lg)(s0:Shared)(Q:Au)(n:Nat)(s:Shared):Prop
 |mk (h':Heap) (tk:Nat) (lZ:Lg) (μ':MH) (m':Str->Option Value) (env':An) (e:s={s0 with heap:=h',toks:=tk}) (I:S.I m' env' lZ μ' h') (H:S.H lZ) (x:Ext lg0 lZ)
  (hw:EI (fun K env' μ'=>wt lY (Φs hd) env' t K X μ') (fun K env' μ'=>ws lY Φs hd b K X env' μ') n Q env' μ')
theorem YL(G:B9 S FA Φs hd)(ht:AD 2 S.sc t t'=true)(hb:S.Runs (execs body S.e) (ws lY Φs hd b)) :
  S.Runs (exec (.While t' body [] pos) S.e) (ws lY Φs hd (.m8 t b)):=by
 intro m env lg μ Q X h s E I H hX
 refine wpAny_While (codeAny_whileLoop (WL S Φs hd t b X lg s Q) (fun n s1 hI=>?_) 100 ⟨s.heap,s.toks,lg,μ,m,env,rfl,I,H,Ext.refl _,(LP _ _ _ _ _ _).mp h⟩)
 obtain⟨h',tk,lZ,μ',m',env',rfl,I',H',x',hw⟩:=hI
 induction n using Nat.casesOn with
 |zero=>exact hw.elim
 |succ n=>
  refine gJ (G.st ht m' env' lZ μ' _ X hw {s with heap:=h',toks:=tk} _ I' H' fun v s' z=>JT G.head hX ((ES.of z).trans x')) (fun u s2 z=>?_) fun _ _ e=>e
  obtain⟨h2,nE,mV,μ2,rfl,I2,x2,q⟩:=z
  induction u with
  |false=>
   have q':Q .next env' μ2:=q
   exact kh (.next I2 (x'.trans x2) q')
  |true=>
   have q':=q
   refine gJ (hb m' env' mV μ2 _ X q' {s with heap:=h2,toks:=nE} _ I2 (H'.mono x2) fun v s' z=>JT G.head hX (z.trans (x'.trans x2))) (fun fl s3 z=>?_) fun _ _ e=>e
   obtain⟨h3,pH,pk,μ3,m3,ri,mf,rfl,I3,x3,f,q⟩:=z
   have again:EI (fun K env' μ'=>wt lY (Φs hd) env' t K X μ') (fun K env' μ'=>ws lY Φs hd b K X env' μ') n Q ri μ3->∃k,k<n+1/\WL S Φs hd t b X lg s Q k {s with heap:=h3,toks:=pH}:=fun w=>
    ⟨n,iM n,h3,pH,pk,μ3,m3,ri,rfl,I3,((H'.mono x2).mono x3),(x'.trans x2).trans x3,w⟩
   induction mf with
   |next=>
    induction fl using Flow.casesOn<;>first|exact f.elim|skip
    exact again q
   |cont=>
    induction fl using Flow.casesOn<;>first|exact f.elim|skip
    exact again q
   |ret w=>
    induction fl using Flow.casesOn<;>first|exact f.elim|skip
    exact⟨h3,pH,pk,μ3,m3,ri,.ret w,rfl,I3,(x'.trans x2).trans x3,f,q⟩
theorem Mp{α β:Type}(f:α->Option β)(l:List α):(∃x∈l,f x=none)->(l.filterMap f).length<l.length:=by
 induction l with
 |nil=>exact fun nS=>by obtain⟨x,hx,_⟩:=nS;exact nomatch hx
 |cons a l ih=>
  intro h
  rw[iT]
  cases hf:f a with
  |none=>exact Nat.lt_succ_of_le (List.length_filterMap_le f l)
  |some b=>
   obtain⟨x,hx,e⟩:=h
   refine j4 (ih ((List.mem_cons.mp hx).elim (fun z=>?_) fun hx=>⟨x,hx,e⟩))
   exact AM (z▸e) hf
theorem Ni{e:Env}(En:QQ e sc)(h:Wr sc es v=true):swappedStores [.Tuple es k p] v e=pure none:=by
 induction v using Expr.casesOn<;>first|rfl|skip
 obtain⟨x,hx,hc⟩:=List.any_eq_true.mp h
 revert hx
 refine AV hc fun n pp hc hx=>?_
 unfold swappedStores
 dsimp only
 split
 ·rfl
 ·split
  ·rfl
  ·refine iJ ?_
   rw[ia]
   left
   rw[ig]
   refine iV (Mp _ es ⟨_,hx,?_⟩)
   have kc:=En.cell n (.inl (gN hc))
   dsimp only
   rw[iI (by rw[kc];simp)]
theorem Td{e:ME}(G:B9 S FA Φs hd)(hT:E5 S.sc xs false (.Tuple es k p)=true)(hto:Wr S.sc es v=true)(hnc:FC v=true)(he:AD 2 S.sc e v=true) :
  S.Runs (exec (.Assign [.Tuple es k p] v pos) S.e) (ws lY Φs hd (.mq xs e)):=by
 intro m env lg μ Q X h s E I H hX
 refine Dl ?_ (Ni G.good.env hto) (by intro _ _ z;cases z) ((G.se he _ _ _ _ _ _ h).mW I H hX fun u h1 mT mD μ1 x1 I1 H1 p1 k1 mK=>?_)
 ·exact J1 hnc _ _ _
 ·obtain⟨uv,ru,q⟩:=p1
  obtain⟨env',hb,q⟩:=Aq q
  exact gJ (NO (s:={s with heap:=h1,toks:=mT}) G.good hT hb I1 H1 ru) (fun _ _ z=>k1 _ _ _ (.stored z q)) fun _ _ e=>e
end
section
variable{S:mn}{FA:Nat->Addr}{Φs:Bool->Az}{hd:Bool}
@[elab_as_elim] theorem W7{P:ME->Prop}(h:AD j sc a (.ListComp my gens scope pos)=true)
  (k:∀elt xs one it cond,AD j sc (.comp elt xs one it cond) (.ListComp my gens scope pos)=true->P (.comp elt xs one it cond)) (k':∀elt x1 pv x2 nV,AD j sc (.nU elt x1 pv x2 nV) (.ListComp my gens scope pos)=true->P (.nU elt x1 pv x2 nV)):P a:=by
 induction a using ME.casesOn with
 |comp elt xs one it cond=>exact k _ _ _ _ _ h
 |nU elt x1 pv x2 nV=>exact k' _ _ _ _ _ h
 |_=>with_unfolding_all exact Bb h
theorem Ua{use:Option (Value->Sem Unit)}{Qf:Value->Shared->Prop}{E:Value->Shared->Prop}{m:Str->Option Value}{s:Shared}{Q:Ae}{X:As}
  (G:Bi S FA j) (hc:AD jj S.sc a (.ListComp my gens scope pos)=true) (h:we lY S.Φ env a Q X μ) (I:S.I m env lg μ s.heap) (H:S.H lg) (hX:∀v s',S.X m env lg s X v s'->E v s')
  (qL:∀h' tk lZ μ' D C r,S.I m env lZ μ' h'->Ext lg lZ->Q (.lX r) μ'->lZ.mw[r]?=some (D,D)->lZ.led C=none->S.base.get? C=none->C≠S.e.locals->(∃mC,h'.Ns C mC)->S.H lZ->
   compPost S.M S.A E use Qf (.ref D) C (.ok .next) {s with heap:=h',toks:=tk}) :
  wpAny S.M S.A (comprehension (.ListComp my gens scope pos) scope S.e (firstIterPos gens pos) (newList []) (firstAsync gens) (firstIter gens S.e) use) Qf E s:=by
 revert h
 refine W7 hc ?_ ?_
 ·intro elt xs one it cond hc h
  refine B5 hc fun g k2=>Em k2 fun t ox ifs k3=>?_
  induction jj using Nat.casesOn with
  |zero=>exact Bb k3
  |succ jj=>
   obtain⟨h1,z⟩:=BW k3
   have h2:=(BW z).1;have z:=(BW z).2
   have h3:=(BW z).1;have z:=(BW z).2
   have h4:=(BW z).1;have z:=(BW z).2
   have h5:=(BW z).1;have z:=(BW z).2
   have h6:=(BW z).1;have h7:=(BW z).2
   refine Fv (use:=use) (W:=fun items c r Q' μ'=>Dq c r (fun v K μ'=>opt (AC xs one v (AG xs env)) fun e=>wt lY S.Φ e cond K (fun _ _=>False) μ') (fun v K μ'=>opt (AC xs one v (AG xs env)) fun e=>we lY S.Φ e elt K (fun _ _=>False) μ') items Q' μ')
    (Q:=Q) (X:=X) G rfl rfl rfl h1 h2 h3 ((ER FA it).1.e S j jj _ G h4).1 h I H hX ?_ qL
   intro T items c r a D o lgA lg0 μ0 m0 Q' s0 R GT nZ hA uT sZ hΦ hb I0 H0 x0 na hl hi hr hw hR
   refine ZU h5 (fun T j' GT nZ=>((ER FA elt).1.e T j' jj _ GT (by rw[nZ];exact h6)).1) (fun T j' GT nZ=>?_) T items c r a D o lgA lg0 μ0 m0 Q' s0 R GT nZ hΦ I0 H0 x0 na hl hi hr hw hR
   exact UG h7 fun c hc=>((ER FA cond).1.e T j' jj _ GT (by refine nZ.symm▸?_;exact hc)).2
 ·intro elt x1 pv x2 nV hc h
  refine Hz hc fun g1 g2 k2=>Em k2 fun t1 i1 rF k3=>Em k3 fun t2 i2 rG k4=>AP k4 fun k5=>AP k5 fun k6=>?_
  induction jj using Nat.casesOn with
  |zero=>exact Bb k6
  |succ jj=>
   obtain⟨h1,z⟩:=BW k6
   have h2:=(BW z).1;have z:=(BW z).2
   have h3:=(BW z).1;have z:=(BW z).2
   have h4:=(BW z).1;have z:=(BW z).2
   have h5:=(BW z).1;have z:=(BW z).2
   have h6:=(BW z).1;have z:=(BW z).2
   have h7:=(BW z).1;have z:=(BW z).2
   have h8:=(BW z).1;have z:=(BW z).2
   have h9:=(BW z).1;have sL:=(BW z).2
   refine Fv (use:=use) (xs:=[x1,x2]) (W:=fun items c r Q' μ'=>Hm c (PP S.Φ (AG [x1,x2] env) elt nV x1 x2 r) items Q' μ')
    (Q:=Q) (X:=X) G rfl rfl rfl h1 h3 h4 ((ER FA pv).1.e S j jj _ G h6).1 h I H hX ?_ qL
   intro T items c r a D o lgA lg0 μ0 m0 Q' s0 R GT nZ hA uT sZ hΦ hb I0 H0 x0 na hl hi hr hw hR
   replace hw:=(hΦ).symm▸hw
   refine Kj hi (I0.led _ _ hl).1 (JC (lgA:=lgA) (env:=env) (Q:=Q') (items:=items) (c:=c) (r:=r) GT nZ (bne_iff_ne.mp h5) h7 h9 h2 (fun T j' GT nZ=>((ER FA elt).1.e T j' jj _ GT (by rw[nZ];exact sL)).1) (fun T j' GT nZ=>((ER FA nV).1.e T j' jj _ GT (by rw[nZ];exact h8)).1) na (fun h' tk lZ μ' m' env' I' x' q' r'=>hR h' tk lZ μ' m' env' I' x' q' r') (items.length - 0) s0 ?_)
   exact⟨s0.heap,s0.toks,lg0,μ0,m0,_,0,o,rfl,I0,H0,fun _ _ q=>q,x0,hl,hi,hr,rfl,ie _,hw⟩
theorem Tc{e:ME}(G:B9 S FA Φs hd)(hn:Ez x n=true)(hl:S.sc.lookup n=some .local\/S.sc.lookup n=some .cell)(he:AD 2 S.sc e (.ListComp my gens scope qF)=true) :
  S.Runs (exec (.Assign [.Name n p] (.ListComp my gens scope qF) pos) S.e) (ws lY Φs hd (.assign x e)):=by
 obtain⟨b,hb⟩:∃b:Bool,swapsWith (.ListComp my gens scope qF) (some (.Name n p)) pos.line S.e=pure b:=
  ⟨S.e.blockKind==.function&&S.e.kindOf n==some .local&&p.line==(Expr.ListComp my gens scope qF).pos.line&&!(scope.names.any fun(n',k)=>n'==n&&(k==.local||k==.cell)),by rfl⟩
 induction b with
 |false=>exact OB G hn hl he hb
 |true=>
  intro m env lg μ Q X h s E I H hX
  have hx:=(AS hn).1;have hn:=(AS hn).2
  refine gx (hV ?_)
  have hs:swapsWithSole [.Name n p] (.ListComp my gens scope qF) pos.line S.e=pure true:=hb
  refine hs.symm▸?_
  refine gx (gO ?_)
  refine gx (gx ?_)
  refine Ua G.good he (by rw[G.vf];exact h) I H (fun v s' z=>hX v s' (.of z)) ?_
  intro h' tk lZ μ' D C r I' x' q hr c1 c2 c3 hC H'
  obtain⟨mC,hC⟩:=hC
  refine gJ (Ck (s:={s with heap:=h',toks:=tk}) G.good hn hx hl I' H' (.lX r D D hr)) (fun _ s2 z=>?_) fun _ _ e=>e
  obtain⟨h2,nE,mV,m2,rfl,I2,x2,n2,rJ⟩:=z
  obtain⟨oC,es,ep,g,dd,rr⟩:=hC
  refine⟨mC,⟨oC,es,ep,rJ C oC c3 c1 g,dd,rr⟩,fun h3 uV=>?_⟩
  exact gO (gO (.next (I2.keepsBut c2 (n2 C c1) (iK c3) fun b o nb q=>(uV.2 b nb).trans q) (x'.trans x2) q))
end
inductive TA(K:Frag)(C:Addr)(bm:List Value):Prop
 |mk nm q N bs uG sn sub ab col dd k0 k1 k2 k3 k5 newId (h:K.lookup C=some (excClassObj nm q C N bs bm uG sn sub ab col dd k0 k1 k2 k3 k5 newId)) (b:bm.contains (.type "BaseException")=true)
structure IN(K:Frag):Prop where
 cls:∀c C,1<=c->c<=3->E8 K c C->∃bm,TA K C bm/\∀d D,1<=d->d<=3->E8 K d D->(Value.ref C :: bm).contains (.ref D)=DW c d
set_option maxHeartbeats 2000000 in
theorem JE{E:Value->Shared->Prop}{K:Frag}{o:Obj}{s:Shared}{Q:Bool->Shared->Prop}(hK:∀b p,K.lookup b=some p->s.heap.get? b=some p)
  (hC:TA K C bm) (hD:TA K D bm') (he:s.heap.get? a=some o) (rA:o.cls=.ref C) (hq:Q ((Value.ref C :: bm).contains (.ref D)) s):wpAny M A (excMatches (.ref a) (.ref D)) Q E s:=by
 obtain⟨_,_,_,_,_,_,_,_,_,_,_,_,_,_,_,_,c1,_⟩:=hC
 obtain⟨_,_,_,_,_,_,_,_,_,_,_,_,_,_,_,_,d1,d2⟩:=hD
 have c1:=hK _ _ c1
 have d1:=hK _ _ d1
 have uE:(Value.ref D :: bm').contains (.type "BaseException")=true:=by rw[iH,d2,js]
 have f:=tc_notTuple
 obtain⟨h,g,d,t,os⟩:=s
 unfold excMatches
 repeat(first|(with_reducible refine iP he ?_;refine rA.symm▸?_)|with_reducible refine iP d1 ?_|(with_reducible refine iR d1 ?_;refine uE.symm▸?_)|with_reducible refine iR c1 ?_|wp_step)
 cases hb:(Value.ref C :: bm).contains (.ref D)<;>(rw[hb]at hq;wp_walk;exact hq)
section
variable{base:Heap}{K:Frag}{e:Env}{m:Str->Option Value}{fr:List oa}{env:An}{lg:Lg}{μ:MH}{h:Heap}
theorem Inv.adopt(I:Inv base K e m fr env lg μ h)(hf:lg.led a=none)(hb:base.get? a=none)(nL:e.locals≠a)(g:h.get? a=some o):Inv base K e m fr env (lg.put a o) μ h:=by
 have x:Ext lg (lg.put a o):=Ext.mI o hf
 have keep:∀b p,lg.led b=some p->(lg.put a o).led b=some p:=fun b p q=>by
  rw[Lg.l9];exact q
  rintro rfl;exact AM hf q
 refine⟨I.old,I.ns,I.nG,by rw[Lg.l9 _ _ nL];exact I.mH,fun b p q=>?_,fun f pD=>?_,I.dist,I.apart,fun x' v q ss=>(I.vars x' v q ss).mono x fun b p _ z=>keep b p z,?_⟩
 ·by_cases z:b=a
  ·cases z
   rw[Lg.ma]at q
   obtain rfl:=Option.some.inj q
   exact⟨g,hb⟩
  ·rw[Lg.l9 _ _ z]at q
   exact I.led b p q
 ·obtain⟨⟨p,a1,a2⟩,a3⟩:=I.frames f pD
  exact⟨⟨p,keep _ _ a1,a2⟩,fun c o q=>⟨keep _ _ (a3 c o q).1,(a3 c o q).2⟩⟩
 ·refine⟨I.heap.len,I.heap.nodup,fun n' p q=>?_⟩
  obtain⟨a',d,a1,a2⟩:=I.heap.each n' p q
  exact⟨a',d,a1,a2.mono x fun p z=>keep _ _ z⟩
end
noncomputable def mn.under(S:mn)(a:Addr)(Φ:Az):mn:={S with A:=S.A.mark (some (.ref a)),Φ:=Φ}
section
variable{S:mn}{FA:Nat->Addr}{Φs:Bool->Az}
theorem PS.under{Φ:Az}{Q:Au}(z:PS (S.under a Φ) lg s Q f s'):PS S lg s Q f s':=by
 obtain⟨z1,z2,z3,z4,z5,z6,z7,z8,z9,y1,y2,y3⟩:=z
 exact⟨z1,z2,z3,z4,z5,z6,z7,z8,z9,y1,y2,y3⟩
theorem ES.under{Φ:Az}{X:As}(z:ES (S.under a Φ) lg s X v s'):ES S lg s X v s':=by
 obtain⟨z1,z2,z3,z4,z5,z6,z7,z8,z9,y1,y2,y3,y4,y5⟩:=z
 exact⟨z1,z2,z3,z4,z5,z6,z7,z8,z9,y1,y2,y3,y4,y5⟩
theorem UB{Φ:Az}{X:As}{E:Value->Shared->Prop}(F:DU S.A S.e S.fr)(hX:∀v s',ES S lg0 s0 X v s'->E v s')(h:ES S lg0 s0 X v s') :
  notedBy S.M (S.under a0 Φ).A S.e (cameBackBy S.M S.A S.e E) v s':=by
 obtain⟨h',tk,lZ,μ',m',env',a,r,rfl,I,x,rfl,ex,q⟩:=h
 refine IC (S:=S.under a0 Φ) (s:={s0 with heap:=h',toks:=tk}) F I ex fun h2 mV I2 x2 e2=>?_
 exact Q1 (S:=S) (s:={s0 with heap:=h2,toks:=tk}) I2 e2 fun h3 I3 e3=>hX _ _ ⟨h3,tk,mV,μ',m',env',a,r,rfl,I3,x.trans x2,rfl,e3.at,q⟩
theorem KR(q:Hs h=true):h=.seq (.ret .none) .skip:=by
 induction h using MS.casesOn with
 |seq a b=>induction a using MS.casesOn with
  |ret e=>induction e using ME.casesOn with
   |none=>induction b using MS.casesOn with
    |skip=>rfl
    |_=>exact Bb q
   |_=>exact Bb q
  |_=>exact Bb q
 |_=>exact Bb q
theorem VX{T:Flow->Shared->Prop}{E:Value->Shared->Prop}(h1:T7 S.sc (.ret .none) b₀=true)(h2:Ih S.sc .skip body=true)(fin:T (.ret .none) s):wpAny S.M A (execs (b₀ :: body) S.e) T E s:=by
 refine AP h2 fun _=>J8 h1 fun v p h=>?_
 induction v with
 |none=>exact ju (wpAny_Return_none fin)
 |some v=>
  refine Dy h fun c p1 p2 h=>?_
  obtain rfl:=Lm h
  exact ju (kN (lS fin))
theorem VP{e:ME}(G:B9 S FA Φs false)(EF:IN S.K)(uC:1<=c)(uD:c<=3)(hn:n=Str.ofString (EL c))(hg:S.sc.lookup n=some .globalImplicit)
  (he:AD 2 S.sc e v=true) (hb:Ih S.sc h (b₀ :: body)=true) (hh:∀a,(S.under a (Φs true)).Runs (execs (b₀ :: body) S.e) (ws lY Φs true h)) :
  S.Runs (exec (.Try [.Return (some v) rp] [.ExceptHandler (some (.Name n np)) none (b₀ :: body) hp] [] [] pos) S.e) (ws lY Φs false (.nj e c h)):=by
 obtain⟨mg,mb,n1,n2,_,_,_,n5⟩:=G.good.base.names
 obtain⟨D,hD,hw⟩:=n5 c uC uD
 obtain⟨bm',kD,_⟩:=EF.cls c D uC uD hD
 intro m env lg μ Q X h0 s E I H hX
 replace h0:=(A6 h0).2
 refine wpAny_Try_except (ju (kN (gJ (G.se he _ _ _ _ _ _ h0 s _ I H fun v1 s1 z=>?_) (fun v1 s1 z=>?_) fun _ _ e=>e)))
 ·obtain⟨h1,tk,mD,μ1,a,r,rfl,I1,x1,rfl,ex,q⟩:=z
  refine IC (s:={s with heap:=h1,toks:=tk}) G.head I1 ex fun h2 mV I2 x2 e2=>?_
  refine Eg (s:={s with heap:=h2,toks:=tk}) I2 e2 fun h3 I3 e3=>?_
  have H3:=H.mono (x1.trans x2)
  refine wpAny_handleBy_cons (codeAny_handlers_test ?_) (by intro q;exact nomatch q)
  refine iB G.good.env.kind (G.good.env.lY _ hg) (jx (by rw[G.good.env.globals];exact CN n1 I3.old) (by rw[hn];exact hw) ?_) (by
   refine hn.symm▸?_;obtain rfl|rfl|rfl:c=1\/c=2\/c=3:=by lia
   all_goals decide)
  obtain⟨o,vs,O,t⟩:=id e3
  obtain⟨C,hC,rA⟩:=O.cls
  obtain⟨bm,kC,fC⟩:=EF.cls (r % 10) C O.lo O.hi hC
  refine JE (fun b p z=>I3.old b p (G.good.base.pY b p z)) kC kD O.at_ rA ?_
  (refine(fC c D uC uD hD).symm▸?_;refine(show DW (r % 10) c=DW r c from by unfold DW;rw[Nat.mod_mod]).symm▸?_)
  cases hcc:DW r c with
  |false=>
   replace q:=hcc▸q
   refine wpAny_handleBy_nil ?_
   obtain⟨T,oT,ts,qH,rest⟩:=id t
   refine gx (ix O.at_ O.data qH ?_)
   refine gx (Eg (s:={s with heap:=h3,toks:=tk}) I3 e3 fun h4 I4 e4=>lM (hX _ _ ⟨h4,tk,mV,μ1,m,env,a,r,rfl,I4,x1.trans x2,rfl,e4.at,q⟩))
  |true=>
   replace q:=hcc▸q
   have q1:=(A6 q).1;have q2:=(A6 q).2
   show codeAny S.M (S.under a (Φs true)).A (.handlers (.ref a) [.ExceptHandler none none (b₀ :: body) hp] S.e) _ _
   refine codeAny_handlers_suite (Eg (S:=S.under a (Φs true)) (s:={s with heap:=h3,toks:=tk}) I3 e3 fun h4 I4 e4=>?_)
   by_cases hr:decide (r<10)=true
   ·obtain⟨o4,vs4,O4,t4⟩:=id e4
    have I5:=Inv.adopt I4 O4.led O4.base (iK O4.lX) O4.at_
    have x5:Ext mV (mV.put a o4):=Ext.mI o4 O4.led
    obtain⟨C4,_,hc4⟩:=O4.cls
    have oq:Mine.pC o4:=⟨by refine hc4.symm▸?_;exact nofun,fun es k z=>(by replace z:=O4.data▸z;exact nomatch z),fun v z=>(by replace z:=O4.data▸z;exact nomatch z)⟩
    have H5:(S.under a (Φs true)).H (mV.put a o4):=⟨.inr ⟨a,o4,vs4,rfl,⟨oq,.inl (Lg.ma _ _ _)⟩,O4.data,O4.ctx (gH hr)⟩,(H3.mono x5).own⟩
    refine gJ (hh a m env _ μ1 Q X q2 {s with heap:=h4,toks:=tk} _ I5 H5 fun v s' z=>?_) (fun f s2 z=>?_) fun _ _ e=>e
    ·exact UB (S:=S) (lg0:=lg) (s0:=s) (X:=X) G.head hX (ES.trans (S:=S) ((x1.trans x2).trans x5) z.under)
    ·exact PS.trans (S:=S) ((x1.trans x2).trans x5) z.under
   ·have hq:=((ia _ _).mp q1).resolve_left hr
    cases KR hq
    have fin:PS S lg s Q (.ret .none) {s with heap:=h4,toks:=tk}:=⟨h4,tk,mV,μ1,m,env,.ret .none,rfl,I4,x1.trans x2,.none,q2⟩
    have uy:=(BW (a:=T7 S.sc (.ret .none) b₀) hb).1;have uz:=(BW (a:=T7 S.sc (.ret .none) b₀) hb).2
    exact VX uy uz fin
 ·obtain⟨h1,mT,mD,μ1,rfl,I1,x1,uv,ru,q⟩:=z
  exact⟨h1,mT,mD,μ1,m,env,.ret uv,rfl,I1,x1,ru,q⟩
end
section
variable[deq:DecidableEq Str]
noncomputable def Mf:List Nat->List Arg->Bool
 |[],as=>BM as true
 |x :: xs,as=>BL as fun a as=>Ez x a.arg&&Mf xs as
noncomputable def NX(fd:FuncData)(ps:List Nat):Bool:=
 Mf ps fd.params.args&&fd.params.posonlyargs.isEmpty&&fd.params.vararg.isNone&&fd.params.kwonlyargs.isEmpty&&fd.params.kwarg.isNone&&(fd.defaults==.none)&&
 fd.closure.isEmpty&&(fd.globals==mainGlobals)&&(fd.builtins==builtinsNs)&&(fd.scope.kind==.function)&&!fd.scope.isCoroutine&&!fd.scope.isGenerator&&
 decide ps.Nodup&&ps.all (fun x=>fd.scope.names.lookup (nm x)==some .local||fd.scope.names.lookup (nm x)==some .cell)&&
 fd.scope.names.all fun(n,k)=>fd.scope.names.lookup n==some k&&(k==.local||k==.cell||k==.globalImplicit)
end
theorem KN{xs:List Nat}:∀{as:List Arg},Mf xs as=true->as.map (·.arg)=xs.map nm/\∀x∈xs,x<Bg.length:=by
 induction xs with
 |nil=>exact fun h=>AP h fun _=>⟨rfl,fun _ h=>nomatch h⟩
 |cons x xs ih=>
  intro as h
  refine A1 (l:=as) h fun a as h=>?_
  have i:=AS (Al h)
  have j:=ih (Aa h)
  exact⟨congr (congrArg List.cons i.2) j.1,fun y hy=>(List.mem_cons.mp hy).elim (fun e=>e▸i.1) (j.2 y)⟩
structure Gk(fd:FuncData)(ps:List Nat):Prop where
 args:fd.params.args.map (·.arg)=ps.map nm
 lt:∀x∈ps,x<Bg.length
 po:fd.params.posonlyargs=[]
 va:fd.params.vararg=none
 ko:fd.params.kwonlyargs=[]
 kw:fd.params.kwarg=none
 df:fd.defaults=.none
 clo:fd.closure=[]
 gl:fd.globals=mainGlobals
 bl:fd.builtins=builtinsNs
 kind:fd.scope.kind=.function
 co:fd.scope.isCoroutine=false
 gen:fd.scope.isGenerator=false
 nodup:ps.Nodup
 par:∀x∈ps,fd.scope.names.lookup (nm x)=some .local\/fd.scope.names.lookup (nm x)=some .cell
 vc:∀n k,(n,k)∈fd.scope.names->fd.scope.names.lookup n=some k/\(k=.local\/k=.cell\/k=.globalImplicit)
theorem Mt(h:NX fd ps=true):Gk fd ps:=by
 unfold NX at h
 simp only[gI,ib,ia,iw,hG,jk,List.isEmpty_iff,Option.isNone_iff_eq_none]at h
 obtain⟨⟨⟨⟨⟨⟨⟨⟨⟨⟨⟨⟨⟨⟨h1,h2⟩,h3⟩,h4⟩,h5⟩,h6⟩,h7⟩,h8⟩,h9⟩,sL⟩,h11⟩,h12⟩,h13⟩,h14⟩,h15⟩:=h
 obtain⟨a1,a2⟩:=KN h1
 exact⟨a1,a2,h2,h3,h4,h5,h6,h7,h8,h9,sL,h11,h12,h13,h14,fun n k hm=>by have:=h15 (n,k) hm;exact⟨this.1,or_assoc.mp this.2⟩⟩
theorem MQ{ps:List Nat}(lt:∀x∈ps,x<Bg.length)(nd:ps.Nodup):(ps.map nm).Nodup:=by
 induction ps with
 |nil=>exact k9
 |cons x xs ih=>
  rw[jI]at nd
  rw[iZ,jI]
  refine⟨fun hm=>?_,ih (fun y hy=>lt y (gA _ hy)) nd.2⟩
  obtain⟨y,hy,e⟩:=List.mem_map.mp hm
  exact nd.1 ((Hy (lt y (gA _ hy)) (lt x (.head _)) e)▸hy)
theorem PM{α β:Type}{f g:α->Option β}{l:List α}(h:∀x∈l,f x=g x):l.filterMap f=l.filterMap g:=by
 induction l with
 |nil=>rfl
 |cons a l ih=>rw[iT,iT,h a (.head _),ih fun x m=>h x (.tail _ m)]
theorem QM{α:Type}{ns:List Str}:∀{vs:List α} (_:ns.length=vs.length) (_:ns.Nodup),ns.filterMap (fun n=>((ns.zip vs).lookup n).map (n,·))=ns.zip vs:=by
 induction ns with
 |nil=>exact fun _ _=>rfl
 |cons n ns ih=>
  intro vs hl nd
  induction vs using List.casesOn with
  |nil=>exact nomatch hl
  |cons v vs=>
   have nd:=List.nodup_cons.mp nd
   rw[List.zip_cons_cons,iT,hU,ip]
   refine congrArg ((n,v) :: ·) ((PM fun y hy=>?_).trans (ih (Nat.succ.inj hl) nd.2))
   rw[hU,show(y==n)=false from beq_eq_false_iff_ne.mpr fun q=>nd.1 (q▸hy)]
theorem Zv{α:Type}{ns:List Str}:∀{vs:List α} (_:ns.length=vs.length) {n:Str},n∈ns->((ns.zip vs).lookup n).isSome=true:=by
 induction ns with
 |nil=>exact fun _ _ h=>nomatch h
 |cons n' ns ih=>
  intro vs hl n h
  induction vs using List.casesOn with
  |nil=>exact nomatch hl
  |cons v vs=>
   rw[List.zip_cons_cons,hU]
   cases q:n==n' with
   |true=>rfl
   |false=>exact(List.mem_cons.mp h).elim (fun e=>Dd (q.symm.trans (beq_iff_eq.mpr e))) (ih (Nat.succ.inj hl))
theorem SX{ns:List Str}{ws:List Value}(hl:ns.length=ws.length):ns.filter (fun n=>((ns.zip ws).lookup n).isNone)=[]:=by
 rw[List.filter_eq_nil_iff]
 intro n hn
 have:=Zv hl hn
 cases q:(ns.zip ws).lookup n with
 |none=>replace this:=q▸this;exact Dd this
 |some _=>exact iN
theorem NQ{y2:List Arg}{y5 y7}{x4 x5 x6 x7 x9 z1 z2 z3 z4 z5 z6}{ws:List Value}(nd:(y2.map (·.arg)).Nodup)(hl:(y2.map (·.arg)).length=ws.length) :
  bindArgs ⟨x1,x2,⟨[],y2,none,[],y5,none,y7⟩,x4,x5,x6,x7,.none,x9,z1,z2,z3,z4,z5,z6⟩ ⟨ws,[]⟩=pure ((y2.map (·.arg)).zip ws):=by
 refine(iI (c:=(decide (ws.length>(y2.map (·.arg)).length)&&true)=true) ?_).trans ?_
 ·rw[hl];simp
 generalize hd:List.drop (_ - _) (_:List Value)=D
 obtain rfl:D=[]:=hd.symm.trans List.drop_nil
 clear hd
 refine(iI (c:=(!(List.filter (fun n=>(((y2.map (·.arg)).zip ws).lookup n).isNone) ((y2.map (·.arg)).take (y2.map (·.arg)).length)).isEmpty)=true) ?_).trans ?_
 ·(refine(jB (gF _)).symm▸?_;refine(SX hl).symm▸?_);exact iN
 generalize hd:List.zip (List.drop _ _) (_:List Value)=D
 obtain rfl:D=[]:=hd.symm.trans List.zip_nil_right
 clear hd
 exact congrArg (fun x=>(pure x:Sem (List (Str×Value)))) ((congrArg (List.filterMap _) (gE _)).trans (QM hl nd))
theorem Ji{ps:List Nat}(F:Gk fd ps){ws:List Value}(hl:ps.length=ws.length):bindArgs fd ⟨ws,[]⟩=pure ((ps.map nm).zip ws):=by
 have nd:=MQ F.lt F.nodup
 have sS:(ps.map nm).length=ws.length:=by rw[gU];exact hl
 have e1:=F.args
 have e2:=F.po
 have e3:=F.va
 have e4:=F.ko
 have e5:=F.kw
 have e6:=F.df
 clear F hl
 obtain⟨x1,x2,⟨y1,y2,y3,y4,y5,y6,y7⟩,x4,x5,x6,x7,x8,x9⟩:=fd
 obtain rfl:=e2
 obtain rfl:=e3
 obtain rfl:=e4
 obtain rfl:=e5
 obtain rfl:=e6
 rw[<- e1]at nd sS ⊢
 exact NQ nd sS
section
variable{base:Heap}{K:Frag}{e:Env}{m:Str->Option Value}{fr:List oa}{env env':An}{lg:Lg}{μ:MH}{h:Heap}
open Classical in
noncomputable def Lg.nH(lg:Lg)(P:Addr->Prop)(h:Heap):Lg:={lg with led:=fun a=>if P a then h.get? a else lg.led a}
theorem Lg.nt{P:Addr->Prop}(p:P a):(lg.nH P h).led a=h.get? a:=by unfold Lg.nH;dsimp only;rw[iJ p]
theorem Lg.nq{P:Addr->Prop}(p:¬P a):(lg.nH P h).led a=lg.led a:=by unfold Lg.nH;dsimp only;rw[iI p]
theorem Inv.nH(I:Inv base K e m fr env lg μ h)(P:Addr->Prop)(hP:∀a,P a->lg.led a=none/\base.get? a=none/\a≠e.locals):Inv base K e m fr env (lg.nH P h) μ h/\Ext lg (lg.nH P h)/\∀b o,lg.led b=some o->(lg.nH P h).led b=some o:=by
 have keep:∀b p,lg.led b=some p->(lg.nH P h).led b=some p:=fun b p q=>by
  rw[Lg.nq];exact q
  intro z;exact AM ((hP b z).1) q
 have x:Ext lg (lg.nH P h):=⟨fun b p _ q=>keep b p q,fun b p c q=>⟨p,c,keep b p q⟩,fun _ _ q=>q⟩
 refine⟨⟨I.old,I.ns,I.nG,?_,fun b p q=>?_,fun f hf=>?_,I.dist,I.apart,fun y v q ss=>(I.vars y v q ss).mono x fun b p _ z=>keep b p z,I.heap.len,I.heap.nodup,fun n p q=>?_⟩,x,keep⟩
 ·exact(Lg.nq fun z=>(hP _ z).2.2 rfl).trans (I.mH)
 ·by_cases z:P b
  ·rw[Lg.nt z]at q;exact⟨q,(hP b z).2.1⟩
  ·rw[Lg.nq z]at q;exact I.led b p q
 ·obtain⟨⟨p,a1,a2⟩,a3⟩:=I.frames f hf
  exact⟨⟨p,keep _ _ a1,a2⟩,fun c o q=>⟨keep _ _ (a3 c o q).1,(a3 c o q).2⟩⟩
 ·obtain⟨a',d,a1,a2⟩:=I.heap.each n p q
  exact⟨a',d,a1,a2.mono x fun ob z=>keep _ _ z⟩
end
theorem NP{kindOf:Str->Option NameKind}{ps:List Nat}:∀{as:List V} {ws:List Value} {e0 e1:An} {m0 c0:Str->Option Value},Ar base lg as ws->CP ps as e0=some e1->(∀x∈ps,x<Bg.length)->
  (∀y v,y<Bg.length->e0 y=some v->(kindOf (nm y)=some .local->∃w,m0 (nm y)=some w/\Aw base lg v w)/\(kindOf (nm y)=some .cell->∃w,c0 (nm y)=some w/\Aw base lg v w))->
  ∀y v,y<Bg.length->e1 y=some v->(kindOf (nm y)=some .local->∃w,bindL kindOf ((ps.map nm).zip ws) m0 (nm y)=some w/\Aw base lg v w)/\(kindOf (nm y)=some .cell->∃w,bindC kindOf ((ps.map nm).zip ws) c0 (nm y)=some w/\Aw base lg v w):=by
 induction ps with
 |nil=>
  intro as ws e0 e1 m0 c0 _ h _ k
  induction as using List.casesOn with
  |nil=>obtain rfl:=Option.some.inj h;exact k
  |cons _ _=>exact Ao h
 |cons x ps ih=>
  intro as ws e0 e1 m0 c0 hr h lt k
  induction as using List.casesOn with
  |nil=>exact Ao h
  |cons v as=>
   obtain⟨w,ws',rfl,rv,rr⟩:=hr.mO
   have hx:=lt x (.head _)
   refine ih rr (show CP ps as (Ad e0 x v)=some e1 from h) (fun y hy=>lt y (.tail _ hy)) fun y u hy hu=>?_
   by_cases q:y=x
   ·subst q
    obtain rfl:=Option.some.inj ((iJ rfl).symm.trans hu)
    exact⟨fun kl=>⟨w,(congrFun (iJ kl) _).trans (iJ rfl),rv⟩,fun kc=>⟨w,(congrFun (iI fun z=>nomatch (Option.some.inj (z.symm.trans kc):NameKind.local=.cell)) _).trans (iJ rfl),rv⟩⟩
   ·have hu:e0 y=some u:=(iI q).symm.trans hu
    have ne:¬nm y=nm x:=fun z=>q (Hy hy hx z)
    refine⟨fun kl=>((k y u hy hu).1 kl).imp fun w' z=>⟨?_,z.2⟩,fun kc=>((k y u hy hu).2 kc).imp fun w' z=>⟨?_,z.2⟩⟩
    ·by_cases y:kindOf (nm x)=some .local
     ·exact(congrFun (iJ y) _).trans ((iI ne).trans z.1)
     ·exact(congrFun (iI y) _).trans z.1
    ·by_cases y:kindOf (nm x)=some .local
     ·exact(congrFun (iJ y) _).trans z.1
     ·exact(congrFun (iI y) _).trans ((iI ne).trans z.1)
noncomputable def mn.callee(S:mn)(fd:FuncData)(L a:Addr)(m:Str->Option Value)(env:An)(lg:Lg)(Φ:Az)(A:Around):mn:=
 {S with A:=A.deeper (callEnvC fd L a),e:=callEnvC fd L a,fr:=⟨S.e,m,AU env S.e lg⟩ :: S.fr,sc:=fd.scope.names,Φ:=Φ}
section
variable{S:mn}{FA:Nat->Addr}{m:Str->Option Value}{env:An}{lg:Lg}{μ:MH}{s:Shared}{fd:FuncData}{ps:List Nat}{a:Addr}{A:Around}{Φ:Az}
theorem Fs(F:Gk fd ps):QQ (callEnvC fd s.heap.objs.size a) fd.scope.names:=by
 refine⟨F.kind,F.gl,F.bl,fun n h=>h,fun n h=>?_,fun n h=>h⟩
 rcases h with h|h
 ·exact h
 ·have:=(F.vc n .free (AN h)).2;simp at this
theorem Pt(B:O3 S.A S.e S.fr)(hA:A.frames=S.A.frames)(F:Gk fd ps):DU (S.callee fd s.heap.objs.size a m env lg Φ A).A (S.callee fd s.heap.objs.size a m env lg Φ A).e (S.callee fd s.heap.objs.size a m env lg Φ A).fr:=by
 obtain⟨l,hl,hx⟩:=B
 refine⟨l,?_,fun x hm=>?_⟩
 ·show(A.frames.map (callEnvC fd s.heap.objs.size a :: ·))=_
  (refine hA.symm▸?_;refine hl.symm▸?_);rfl
 ·rcases List.mem_cons.mp hm with rfl|hm
  ·exact⟨.inl rfl,rfl,fun z=>by have:=F.kind;have z:fd.scope.kind=.module:=z;replace z:=this▸z;exact nomatch z⟩
  ·obtain⟨h1,h2⟩:=hx x hm
   refine⟨.inr ?_,h2⟩
   rcases h1 with rfl|⟨f,hf,rfl⟩
   ·exact⟨_,.head _,rfl⟩
   ·exact⟨f,gA _ hf,rfl⟩
theorem Uw{as:List V}{ws:List Value}{env':An}{s₁:Shared}(I:S.I m env lg μ s.heap)(H:S.H lg)(F:Gk fd ps)(hA:A.handled=S.A.handled)(hr:Ar S.base lg as ws)(he:CP ps as (fun _=>none)=some env')
  (x:InCallC s (callEnvC fd s.heap.objs.size a).locals (bindL (callEnvC fd s.heap.objs.size a).kindOf ((ps.map nm).zip ws) fun _=>none) (callEnvC fd s.heap.objs.size a).cells (bindC (callEnvC fd s.heap.objs.size a).kindOf ((ps.map nm).zip ws) fun _=>none) s₁) :
  ∃lZ,(S.callee fd s.heap.objs.size a m env lg Φ A).I (bindL (callEnvC fd s.heap.objs.size a).kindOf ((ps.map nm).zip ws) fun _=>none) env' lZ μ s₁.heap/\Ext lg lZ/\(S.callee fd s.heap.objs.size a m env lg Φ A).H lZ:=by
 have keep:=x.toInCall.keep
 have I1:S.I m env lg μ s₁.heap:=I.keeps keep
 have none_of:∀a,s.heap.objs.size<=a->s.heap.get? a=none:=fun a ha=>by
  cases q:s.heap.get? a with
  |none=>rfl
  |some o=>exact absurd (g8 q) (Nat.not_lt.mpr ha)
 have m4:∀a,s.heap.objs.size<=a->lg.led a=none:=fun a ha=>I.free (none_of a ha)
 have nk:∀a,s.heap.objs.size<=a->S.base.get? a=none:=fun a ha=>I.nK (none_of a ha)
 have oF:S.e.locals<s.heap.objs.size:=by obtain⟨o,g,_⟩:=H6.of I.ns;exact g8 g
 let P:Addr->Prop:=fun a=>s.heap.objs.size<a/\∃o,s₁.heap.get? a=some o/\Da o
 obtain⟨I2,x2,td⟩:=I1.nH P fun a ha=>⟨m4 a (j8 ha.1),nk a (j8 ha.1),fun z=>absurd oF (Nat.not_lt.mpr (z▸j8 ha.1))⟩
 have oK:∀n ca,(callEnvC fd s.heap.objs.size a).cells.lookup n=some ca->P ca/\s₁.heap.IsCell ca ((bindC (callEnvC fd s.heap.objs.size a).kindOf ((ps.map nm).zip ws) fun _=>none) n):=fun n ca q=>by
  have c:=x.cell n ca q
  obtain⟨o,ho,hd⟩:=id c
  exact⟨⟨x.above n ca (mem_of_lookup q),o,ho,_,hd⟩,c⟩
 have qN:(lg.nH P s₁.heap).led s.heap.objs.size=none:=by
  exact(Lg.nq fun z=>absurd z.1 (ic _)).trans (m4 _ (gF _))
 have rel:=fun lZ (xx:Ext (lg.nH P s₁.heap) lZ)=>NP (lg:=lZ) (kindOf:=(callEnvC fd s.heap.objs.size a).kindOf) (m0:=fun _=>none) (c0:=fun _=>none) (hr.mono (x2.trans xx)) he F.lt (fun y v _ q=>by exact Ao q)
 obtain⟨oL,I3,x3⟩:=I2.switch (cs:=AU env S.e lg) (e':=callEnvC fd s.heap.objs.size a) (m':=bindL (callEnvC fd s.heap.objs.size a).kindOf ((ps.map nm).zip ws) fun _=>none) (env':=env')
  (fun b o q=>by
   unfold AU at q ⊢
   split at q
   ·rename_i z;exact(iJ z).trans (td _ _ q)
   ·exact Ao q) x.toInCall.ns (nk _ (gF _)) qN (iK (iV oF))
  (fun f hf z=>by
   obtain⟨⟨o,a1,_⟩,_⟩:=I.frames f hf
   have:=g8 (I.led _ _ a1).1
   rw[z]at this;exact ic _ this)
  (fun lZ xx kk y v q ss=>by
   obtain⟨r1,r2⟩:=rel lZ xx y v ss.1 q
   refine⟨ss.1,?_⟩
   rcases ss.2 with z|z
   ·exact .inl ⟨z,r1 z⟩
   ·obtain⟨w,hw,oG⟩:=r2 z
    obtain⟨ca,pj⟩:=Bk fd.scope.names [] (s.heap.objs.size+1) (nm y) (.inl (AN z))
    obtain⟨hp,o,ho,hd⟩:=oK _ ca pj
    rw[hw]at hd
    exact .inr ⟨z,ca,o,w,pj,kk _ _ (by rw[Lg.nt hp];exact ho),hd,oG⟩)
 have own:KZ (callEnvC fd s.heap.objs.size a) fd.scope.names (⟨S.e,m,AU env S.e lg⟩ :: S.fr) (lg.nH P s₁.heap):=by
  refine⟨fun n ca _ q2 f hf=>?_,fun n n' ca q1 q2=>name_of_addr x.apart (mem_of_lookup q1) (mem_of_lookup q2),fun n q=>?_⟩
  ·have hp:=(oK n ca q2).1
   have ln:=m4 ca (j8 hp.1)
   cases z:f.cells ca with
   |none=>rfl
   |some o=>
    exfalso
    rcases List.mem_cons.mp hf with rfl|hf
    ·have z:AU env S.e lg ca=some o:=z
     unfold AU at z
     split at z
     ·replace z:=ln▸z;exact Ao z
     ·exact Ao z
    ·have:=((I.frames f hf).2 ca o z).1
     exact AM ln this
  ·rcases q with q|q
   ·obtain⟨ca,pj⟩:=Bk fd.scope.names [] (s.heap.objs.size+1) n (.inl (AN q))
    have hp:=(oK _ ca pj).1
    obtain⟨o,ho,hc⟩:=id hp.2
    exact⟨ca,o,pj,hc,by exact(Lg.nt hp).trans (ho)⟩
   ·have:=(F.vc n .free (AN q)).2;simp at this
 refine⟨_,I3,x2.trans x3,⟨?_,own.mono x3⟩⟩
 rcases H.hl.mono (x2.trans x3)with z|⟨b,o,arr,z,r⟩
 ·exact .inl (hA.trans z)
 ·exact .inr ⟨b,o,arr,hA.trans z,r⟩
end
inductive O2(K:Frag)(C:Addr)(bm:List Value):Prop
 |mk nm q N bs sn sub col dd k0 k1 k2 k3 k5 (h:K.lookup C=some (excClassObj nm q C N bs bm true sn sub false col dd k0 k1 k2 k3 k5 "Exception.__new__"))
structure HK(K:Frag)(C fI:Addr)(bm:List Value):Prop where
 obj:O2 K C bm
 hasB:bm.contains (.type "Exception")=true
 hasBase:bm.contains (.type "BaseException")=true
 noAttr:bm.contains (.type "AttributeError")=false
 noName:bm.contains (.type "NameError")=false
 init:findIn K (.ref C) "__init__"=some (some (.ref fI))
 fn:typeIn K (.ref fI)=some (.type "function")
 call:specialIn K (.ref C) "__call__"=some (some (.builtin "type.__call__"))
 typ:instIn K (.ref C) (.type "type")=some true
 tt:typeIn K (.ref C)=some (.type "type")
 set:findIn K (.ref C) "__setattr__"=some (some (.builtin "object.__setattr__"))
 free:findIn K (.ref C) "text"=some none
section
variable{prog:Program}{w:World}{A:Around}{E:Value->Shared->Prop}{R:Result->Shared->Prop}{K:Frag}{C fI:Addr}{bm:List Value}{h:Heap}{g:Array GenState}{d:Drawn}{t:Nat}{os:OsState}
theorem N9{M:Model}{nm q:Str}{N:Addr}{bs:List Value}{sn:List Str}{sub:List Value}{col:Option Bool}{dd:Option Addr}{k0 k1 k2 k3 k5:Option Value}{rest:List Value}{Q:Unit->Shared->Prop}
  (hC:h.get? C=some (excClassObj nm q C N bs bm true sn sub false col dd k0 k1 k2 k3 k5 "Exception.__new__")) (hB:bm.contains (.type "Exception")=true) (hq:Q () ⟨h,g,d,t,os⟩) :
  wpAny M A (checkBuiltinCall "Exception.__new__" ⟨.ref C :: rest,[]⟩) Q E ⟨h,g,d,t,os⟩:=by
 have F:=jX
 have uE:(Value.ref C :: bm).contains (.type "Exception")=true:=by rw[iH,hB,js]
 simp only[checkBuiltinCall,F.newKind,F.newSplit,F.newRow]
 repeat(first|refine iP hC ?_|(refine iR hC ?_;refine uE.symm▸?_)|refine wpAny_staticBase_exc hC ?_|refine wpAny_madeBy_exc hC ?_|simp only[bne_self_eq_false,jW,kH]|wp_step)
 exact hq
noncomputable abbrev Bx(C T:Addr)(dx:Option Addr):Obj:={cls:=.ref C,dict:=dx,data:=.fields #[.ref T,.none,.none,.none,.bool false,.none]}
noncomputable abbrev Fo(vs:List Value):Obj:={cls:=.type "tuple",data:=.seq vs.toArray}
theorem aU(Y:HK K C fI bm)(X:K.In h){rest:List Value}(hz:rest.length<=sizeLine)
  (hq:R (.ok (.ret (.ref (h.objs.size+1)))) ⟨(h.push (Fo rest)).push (Bx C h.objs.size none),g,d,t,os⟩) :
  codeAny (model prog w) A (.builtin "Exception.__new__" ⟨.ref C :: rest,[]⟩) R ⟨h,g,d,t,os⟩:=by
 have F:=jX
 obtain⟨nm,q,N,bs,sn,sub,col,dd,k0,k1,k2,k3,k5,hC⟩:=Y.obj
 have hC:=X _ _ hC
 have ends:=F.ends
 have cB:(Value.ref C :: bm).contains (.type "Exception")=true:=by rw[iH,Y.hasB,js]
 have cA:(Value.ref C :: bm).contains (.type "AttributeError")=false:=by rw[iH,Y.noAttr];rfl
 have cN:(Value.ref C :: bm).contains (.type "NameError")=false:=by rw[iH,Y.noName];rfl
 refine codeAny_builtinAt F.entry ?_
 refine PySem.wpAt_bind ?_
 refine PySem.wpAt_bind (PySem.wpAt_stack fun p below=>lU ?_)
 wp_walk
 refine lU ?_
 refine F.owner.symm▸?_
 repeat(first|with_reducible refine wpAny_madeHere_exc F.canon hC ?_|with_reducible refine iP hC ?_|(with_reducible refine iR hC ?_;first|rw[cB]|rw[cA]|refine cN.symm▸?_)|wp_step)
 show R _ _
 rw[i6]
 exact hq
theorem Xo(Y:HK K C fI bm)(X:K.In h){rest:List Value}(hz:rest.length<=sizeLine)
  (hq:codeAny (model prog w) (A.under (.builtin "type.__call__" ⟨.ref C :: rest,[]⟩)) (.call (.ref fI) ⟨.ref (h.objs.size+1) :: rest,[]⟩) (InitBack (h.objs.size+1) R) ⟨(h.push (Fo rest)).push (Bx C h.objs.size none),g,d,t,os⟩) :
  codeAny (model prog w) A (.call (.ref C) ⟨rest,[]⟩) R ⟨h,g,d,t,os⟩:=by
 obtain⟨nm,q,N,bs,sn,sub,col,dd,k0,k1,k2,k3,k5,hCK⟩:=Y.obj
 have hC:=X _ _ hCK
 have call:Looks (model prog w) h (specialOf (.ref C) "__call__") (some (.builtin "type.__call__")):=looks_specialIn X Y.call
 have typ:Looks (model prog w) h (isInstance (.ref C) (.type "type")) true:=looks_instIn X Y.typ
 have made:Looks (model prog w) h (Bind.madeBy (.ref C)) (some "Exception.__new__"):=fun A' Q' E' s k z=>wpAny_madeBy_exc (k _ _ hC) z
 have u3:=lA (M:=model prog w) X Y.init
 have bnd:=fun self=>bind_fn (M:=model prog w) X self Y.fn
 refine codeAny_of_tree ?_
 refine nd_load hC ?_
 show wpAny _ _ (callAny.viaDunder (.ref C) _) _ _ _
 refine gx (call.at ?_)
 dsimp only
 refine gx (gO (gx (gO ?_)))
 refine gO (a:=Fin.again (.call (.builtin "type.__call__") ⟨.ref C :: rest,[]⟩)) (And.intro rfl ?_)
 refine codeAny_call_builtin_at (Code.quiet_builtin _ (by decide +kernel)) entry_typeCall (check_slot tc_kind tc_split typ (tc_args _ _ _) ?_)
 have hm:Looks (model prog w) h (mroOf (.ref C)) (Value.ref C :: bm):=fun A' Q' E' s k z=>wpAny_mroOf_exc (k _ _ hC) z
 repeat(first|simp only[List.isEmpty_cons,jW,kH]|with_reducible refine jS ?_|lk)
 refine codeAny_call_builtin_code (Code.quiet_builtin _ PySem.F.excBase_Exception.quiet) (N9 hC Y.hasB ?_)
 refine aU Y X hz ?_
 have k:∀b o,h.get? b=some o->((h.push (Fo rest)).push (Bx C h.objs.size none)).get? b=some o:=fun b o e=>gG _ (gG _ e)
 have hx:((h.push (Fo rest)).push (Bx C h.objs.size none)).get? (h.objs.size+1)=some (Bx C h.objs.size none):=by heap_get
 have t1:Looks (model prog w) ((h.push (Fo rest)).push (Bx C h.objs.size none)) (typeOf (.ref (h.objs.size+1))) (.ref C):=(Looks.ld hx).andThen .now
 have s1:Looks (model prog w) ((h.push (Fo rest)).push (Bx C h.objs.size none)) (isSubtype (.ref C) (.ref C)) true:=fun A' Q' E' s k' z=>iR (k' _ _ (k _ _ hC)) (by
  have:(Value.ref C :: bm).contains (.ref C)=true:=by simp
  refine this.symm▸?_;exact z)
 have i1:=u3.keeps k
 have b1:=(bnd (.ref (h.objs.size+1))).keeps k
 repeat(first|with_reducible refine jS ?_|lk)
 refine codeAny_mono hq fun r s' z=>?_
 rcases r with e|(v|_|_|_)<;>first|exact z|exact z.elim|skip
 obtain⟨rfl,z⟩:=z
 exact gO (gO z)
end
theorem Qo(self:Value):refuseLoop self "__setattr__" [.type "Exception",.type "BaseException",.type "object"]=pure ():=by kernel_rfl
theorem Mq(K:Frag):findCls K (.type "Exception") (.type "type") "__init__"=some (.val (.builtin "Exception.__init__")):=by kernel_rfl
theorem Ws:typeOf (.type "Exception")=pure (.type "type"):=by kernel_rfl
theorem Wg:Manifest.isStub "Exception"=false:=by kernel_rfl
theorem PN:handedIn (.builtin "Exception.__init__")=true:=by kernel_rfl
noncomputable def J7(v:Value)(f:Addr->Bool):Bool:=BO v.ctorIdx 10 fun h=>Value.ref.elim v h f
@[elab_as_elim] theorem GN{f:Addr->Bool}{P:Value->Prop}(h:J7 v f=true)(k:∀a,f a=true->P (.ref a)):P v:=
 if q:v.ctorIdx=10 then Value.ref.elim (motive:=fun v=>J7 v f=true->P v) v q k h else Bb ((AA q).symm.trans h)
noncomputable def CZ:List Value->Bool
 |[]=>false
 |v :: r=>bif v==.type "Exception" then r==[.type "BaseException",.type "object"]else J7 v fun _=>CZ r
theorem Lh{P:List Value->Prop}(h:CZ l=true)(a:P [.type "Exception",.type "BaseException",.type "object"])(b:∀c r,P r->P (.ref c :: r)):P l:=by
 induction l with
 |nil=>exact Bb h
 |cons v r ih=>
  have h:(bif v==.type "Exception" then r==[.type "BaseException",.type "object"]else J7 v fun _=>CZ r)=true:=h
  cases q:v==.type "Exception" with
  |true=>rw[q]at h;rw[gN q,gN h];exact a
  |false=>rw[q]at h;exact GN (v:=v) h fun c h=>b c r (ih h)
theorem Qp(self:Value)(h:CZ l=true):refuseLoop self "__setattr__" l=pure ():=
 Lh (P:=fun l=>refuseLoop self "__setattr__" l=pure ()) h (Qo self) fun c r i=>(refuseLoop_ref ..).trans i
theorem X2{l:List Value}(h:CZ l=true):l.contains (.type "object")=true:=
 Lh (P:=fun l=>l.contains (.type "object")=true) h (by decide +kernel) fun c r i=>by rw[iH,i,js]
section
variable{prog:Program}{w:World}{A:Around}{E:Value->Shared->Prop}{R:Result->Shared->Prop}{K:Frag}{C fI:Addr}{bm:List Value}
theorem Sx{e T:Addr}{v:Value}{Q:Unit->Shared->Prop}{h:Heap}{g:Array GenState}{d:Drawn}{t:Nat}{os:OsState}(Y:HK K C fI bm)(hm:∃cd,clsIn K C=some cd/\CZ cd.mro=true)(X:K.In h)(he:h.get? e=some (Bx C T none))
  (hq:∀h' dx o',(∀b o,b≠e->h.get? b=some o->h'.get? b=some o)->h'.get? e=some (Bx C T (some dx))->h.get? dx=none->h'.get? dx=some o'->Q () ⟨h',g,d,t+1+1,os⟩):wpAny (model prog w) A (setAttr (.ref e) "text" v) Q E ⟨h,g,d,t,os⟩:=by
 obtain⟨cd,hc,ho⟩:=hm
 have SF:=PySem.F.store_object
 have I:W.InstAt h e (Bx C T none) C none:=⟨he,rfl,rfl,trivial⟩
 refine set_plain X I Y.set ?_
 have ne:cd.mro.isEmpty=false:=by cases q:cd.mro with|nil=>replace ho:=q▸ho;exact Bb ho|cons _ _=>rfl
 have ux:cd.hasDict=true:=by
  obtain⟨nm,q,N,bs,sn,sub,col,dd,k0,k1,k2,k3,k5,hC⟩:=Y.obj
  unfold clsIn at hc;replace hc:=hC▸hc;obtain rfl:=Option.some.inj hc;rfl
 have sub:Looks (model prog w) h (isInstance (.ref e) (.type "object")) true:=I.type.andThen (looks_mroIn X (by unfold mroIn;(refine hc.symm▸?_;rewrite[kT];rewrite[iI (by rw[ne];decide)];rewrite[X2 ho];rfl)))
 refine lP SF.slot.plain SF.entry (@check_slot (model prog w) _ _ ⟨h,g,d,t+1,os⟩ "object.__setattr__" "object" "__setattr__" (.ref e) [.str "text" t,v] [] _ SF.kind SF.split sub (SF.args (.ref e) (.str "text" t) v) ?_)
 have hm:Looks (model prog w) h (mroOf (.ref C)) cd.mro:=(lO X hc).andThen .now
 rw[osa_eq,refuse_eq]
 refine gx (gx (I.type.here (gx (hm.here ?_))))
 refine(Qp _ ho).symm▸?_
 refine gO (gx (I.type.here (gx ((lA X Y.free).here (gx (gO ?_))))))
 show wpAny _ _ (Builtin.ObjectAttr.storeInOwnDict (.ref e) (.ref C) (.str "text" t) "text" v false) _ _ _
 refine gx (gO ?_)
 refine gx ?_
 refine gx (kt he ?_)
 dsimp only
 refine gx ((lO X hc).here ?_)
 refine ux.symm▸?_
 refine gx (wpAny_alloc ?_)
 have he1:=gG (emptyDict) he
 refine gx (wpAny_update he1 (gO ?_))
 have upE:((h.push emptyDict).update e fun o=>{o with dict:=some h.objs.size}).get? e=some (Bx C T (some h.objs.size)):=iu _ he1 rfl
 have ned:h.objs.size≠e:=jO (g8 he)
 have vn:((h.push emptyDict).update e fun o=>{o with dict:=some h.objs.size}).get? h.objs.size=some emptyDict:=(ik _ _ (iK ned)).trans (hO _ rfl)
 show wpAny _ _ (Builtin.ObjectAttr.storeInDict h.objs.size (.str "text" t) "text" v) _ _ _
 refine gx (gO (gx ?_))
 refine gx (gx (kS (gO (gx (wpAny_mkText (gx (kt vn ?_)))))))
 dsimp only
 refine wpAny_updatePart vn ?_
 have tx:=iu (Obj.putName "text" (PyData.keyHash w.params "text") (.str "text" (t+1)) v) vn (by rfl)
 refine gx (wpAny_lookBehind tx (by exact pastItsLine_dict (by show 1<=sizeLine+1;decide)) (gO (hq _ h.objs.size _ (fun b o nb q=>?_) ?_ (by
  cases q:h.get? h.objs.size with
  |none=>rfl
  |some o=>exact absurd (g8 q) (ic _)) tx)))
 ·have nbs:b≠h.objs.size:=iV (g8 q)
  exact(ik _ _ (iK nbs)).trans ((ik _ _ (iK nb)).trans (gG _ q))
 ·exact(ik _ _ ned).trans upE
theorem Ur{e T:Addr}{v:Value}{Q:Value->Shared->Prop}{h:Heap}{g:Array GenState}{d:Drawn}{t:Nat}{os:OsState}(Y:HK K C fI bm)(X:K.In h)(he:h.get? e=some (Bx C T none))
  (hq:∀h' T',(∀b o,b≠e->h.get? b=some o->h'.get? b=some o)->h'.get? e=some (Bx C T' none)->Q .none ⟨h',g,d,t,os⟩):wpAny (model prog w) A (call (.builtin "Exception.__init__") [.ref e,v]) Q E ⟨h,g,d,t,os⟩:=by
 have F:=jX
 obtain⟨nm,q,N,bs,sn,sub,col,dd,k0,k1,k2,k3,k5,hC⟩:=Y.obj
 have hC:=X _ _ hC
 have cB:(Value.ref C :: bm).contains (.type "Exception")=true:=by rw[iH,Y.hasB,js]
 refine jS (lP F.init.plain F.initEntry ?_)
 have tH:∀{Q':Unit->Shared->Prop} {E':Value->Shared->Prop},Q' () ⟨h,g,d,t,os⟩->wpAny (model prog w) A.in1 (checkBuiltinCall "Exception.__init__" ⟨[.ref e,v],[]⟩) Q' E' ⟨h,g,d,t,os⟩:=fun{Q' E'} hq'=>by
  simp only[checkBuiltinCall,F.initKind,F.initSplit,F.initRow]
  repeat(first|(with_reducible refine iP he ?_)|with_reducible refine iP hC ?_|(with_reducible refine iR hC ?_;refine cB.symm▸?_)|wp_step)
  exact hq'
 refine tH ?_
 wp_walk
 refine hq _ (h.objs.size) (fun b o nb q=>?_) ?_
 ·exact(ik _ _ (iK nb)).trans (gG _ q)
 ·rw[iu _ (gG _ he) rfl]
  rfl
end
section
variable[deq:DecidableEq Str]
noncomputable def HT(b:List Stmt):Bool:=su b fun s1 s2=>MU s1 fun e=>Dx s2 fun ts v=>pA ts fun t=>Fd t fun o n6 _=>Bm o fun n5=>Bm v fun n7=>(n5==nm 313)&&((n6==("text":Str))&&((n7==nm 224)&&
 Fe e fun f as kw cp=>BM kw (su as fun a1 a2=>Bm a1 fun n3=>Bm a2 fun n4=>Fd f fun o2 n2 ap=>Bm o2 fun n1=>(n1==("Exception":Str))&&((n2==("__init__":Str))&&((n3==nm 313)&&((n4==nm 224)&&(ap.endLine==cp.line)))))))
noncomputable def MZ(x:FuncBody)(f:List Stmt->Bool):Bool:=match x with|.stmts b=>f b|.expr _=>false
noncomputable def Q2(fd:FuncData):Bool:=NX fd [313,224]&&(fd.scope.names.all (fun x=>x.2 != .cell)&&((fd.scope.names.lookup (nm 313)==some .local)&&((fd.scope.names.lookup (nm 224)==some .local)&&
 ((fd.scope.names.lookup ("Exception":Str)==some .globalImplicit)&&MZ fd.body HT))))
end
@[elab_as_elim] theorem Jz{P:List Stmt->Prop}(h:HT b=true)
  (k:∀p1 p3 p4 ap cp ep p5 p6 p7 p8,(ap.endLine==cp.line)=true->P [.Expr (.Call (.Attribute (.Name "Exception" p1) "__init__" ap) [.Name (nm 313) p3,.Name (nm 224) p4] [] cp) ep,.Assign [.Attribute (.Name (nm 313) p5) "text" p6] (.Name (nm 224) p7) p8]):P b:=by
 refine Hz h fun s1 s2 h=>Ls h fun e ep h=>CR h fun ts v p8 h=>B5 h fun t h=>Dk h fun o n6 p6 h=>AV h fun n5 p5 h=>AV h fun n7 p7 h=>?_
 obtain rfl:n5=nm 313:=gN (Al h)
 obtain rfl:n6=("text":Str):=gN (Al (Aa h))
 obtain rfl:n7=nm 224:=gN (Al (Aa (Aa h)))
 replace h:=Aa (Aa (Aa h))
 refine El h fun f as kw cp h=>AP h fun h=>Hz h fun a1 a2 h=>AV h fun n3 p3 h=>AV h fun n4 p4 h=>Dk h fun o2 n2 ap h=>AV h fun n1 p1 h=>?_
 obtain rfl:n1=("Exception":Str):=gN (Al h)
 obtain rfl:n2=("__init__":Str):=gN (Al (Aa h))
 obtain rfl:n3=nm 313:=gN (Al (Aa (Aa h)))
 obtain rfl:n4=nm 224:=gN (Al (Aa (Aa (Aa h))))
 exact k _ _ _ _ _ _ _ _ _ _ (Aa (Aa (Aa (Aa h))))
theorem J9{f:List Stmt->Bool}{P:Prop}(h:MZ x f=true)(k:∀b,x=.stmts b->f b=true->P):P:=by
 cases x with
 |stmts b=>exact k b rfl h
 |expr _=>exact Bool.noConfusion h
structure O5(K:Frag)(fI:Addr):Prop where
 at_:∃oc od sl fd,K.lookup fI=some ⟨oc,od,.func fd,sl⟩/\Q2 fd=true/\codeIn K fd.code fd.qualname=true
theorem fQ:nm 313=("self":Str):=by decide +kernel
theorem fR:nm 224=("text":Str):=by decide +kernel
theorem eT:¬nm 224=nm 313:=by decide +kernel
theorem Ue:(nm 313==("__debug__":Str))=false:=by decide +kernel
theorem Uf:(nm 224==("__debug__":Str))=false:=by decide +kernel
theorem Xe:(("Exception":Str)==("__debug__":Str))=false:=by decide +kernel
section
variable{prog:Program}{w:World}{A:Around}{R:Result->Shared->Prop}{K:Frag}{C fI:Addr}{bm:List Value}
theorem TE{h h':Heap}{e:Addr}{m:Str->Option Value}(x:h.Ns a m)(ne:a≠e)(k:∀b o,b≠e->h.get? b=some o->h'.get? b=some o):h'.Ns a m:=
 let⟨o,es,ep,g,r⟩:=x;⟨o,es,ep,k a o ne g,r⟩
theorem Us{e T:Addr}{v:Value}{h:Heap}{g:Array GenState}{d:Drawn}{t:Nat}{os:OsState}(Y:HK K C fI bm)(hm:∃cd,clsIn K C=some cd/\CZ cd.mro=true)(FI:O5 K fI)(X:K.In h)
  (hE:K.lookup e=none) (hB:∃mg mb,h.Ns mainGlobals mg/\h.Ns builtinsNs mb/\mg "Exception"=none/\mb "Exception"=some (.type "Exception")) (qi:h.NoLimit) (nN:A.depth<recursionLimit) (he:h.get? e=some (Bx C T none))
  (hq:∀h' tk T' dx,(∀b o,b≠e->h.get? b=some o->h'.get? b=some o)->h'.get? e=some (Bx C T' (some dx))->R (.ok (.ret .none)) ⟨h',g,d,tk,os⟩) :
  codeAny (model prog w) A (.call (.ref fI) ⟨[.ref e,v],[]⟩) R ⟨h,g,d,t,os⟩:=by
 obtain⟨oc,od,sl,fd,hf,hc,oO⟩:=FI.at_
 have c1:=Al hc
 have c2:=List.all_eq_true.mp (Al (Aa hc))
 have c3:=gN (Al (Aa (Aa hc)))
 have c4:=gN (Al (Aa (Aa (Aa hc))))
 have c5:=gN (Al (Aa (Aa (Aa (Aa hc)))))
 have c6:=Aa (Aa (Aa (Aa (Aa hc))))
 have F:=Mt c1
 refine J9 c6 fun b hb c6=>?_
 ·refine codeAny_call_def (fd:=fd) (body:=b) (binds:=([313,224].map nm).zip [.ref e,v]) nN (X _ _ hf) rfl qi (codeRec_of X oO) hb (BindsTo.of_eq (Ji F rfl)) (fun x hx=>bne_iff_ne.mp (c2 x hx)) (fun x hx=>?_) (fun h₀ oZ hk=>?_) F.co F.gen F.kind
  ·rcases List.mem_cons.mp hx with rfl|hx
   ·exact c3
   ·rcases List.mem_cons.mp hx with rfl|hx
    ·exact c4
    ·cases hx
  clear hc c1 c2 hb oO FI hf
  refine Jz c6 fun p1 p3 p4 ap cp ep p5 p6 p7 p8 line=>?_
  have kind:(callEnv fd h.objs.size fI).scope.kind=.function:=F.kind
  have vS:(fun x=>List.lookup x (([313,224].map nm).zip [Value.ref e,v]).reverse) (nm 313)=some (.ref e):=by
   show List.lookup (nm 313) [(nm 224,v),(nm 313,Value.ref e)]=_
   rw[hU,show(nm 313==nm 224)=false from beq_eq_false_iff_ne.mpr (iK eT),hU,ip]
  have vT:(fun x=>List.lookup x (([313,224].map nm).zip [Value.ref e,v]).reverse) (nm 224)=some v:=by
   show List.lookup (nm 224) [(nm 224,v),(nm 313,Value.ref e)]=_
   rw[hU,ip]
  obtain⟨mg,mb,ng,nb,g1,b1⟩:=hB
  have X₀:K.In h₀:=X.keeps hk
  have Xb:∀{h1:Heap},(∀b o,b≠e->h₀.get? b=some o->h1.get? b=some o)->K.In h1:=fun k b o q=>k b o (fun z=>by(rw[z]at q;replace q:=hE▸q);exact Ao q) (X₀ b o q)
  have tU:(callEnv fd h.objs.size fI).locals≠e:=jO (g8 he)
  have hg:∀{h1:Heap},(∀b o,h.get? b=some o->h1.get? b=some o)->h1.Ns (callEnv fd h.objs.size fI).globals mg:=fun k=>by
   show Heap.Ns _ fd.globals _
   rw[F.gl];exact CN ng k
  have hbl:∀{h1:Heap},(∀b o,h.get? b=some o->h1.get? b=some o)->h1.Ns (callEnv fd h.objs.size fI).builtins mb:=fun k=>by
   show Heap.Ns _ fd.builtins _
   rw[F.bl];exact CN nb k
  refine ju (wpAny_Expr_any ?_ (by unfold interactive;refine kind.symm▸?_;rfl) rfl)
  have sI:methodCallForm ([Expr.Name (nm 313) p3,Expr.Name (nm 224) p4].length+([]:List Keyword).length) (backTo cp (starEach [Expr.Name (nm 313) p3,Expr.Name (nm 224) p4] (callEnv fd h.objs.size fI))) (backToKw cp (keywordEach [] (callEnv fd h.objs.size fI)))=true:=rfl
  have vg:methodCallPos true (.Name "Exception" p1) (callEnv fd h.objs.size fI) ap cp=pure cp:=by unfold methodCallPos;simp[line]
  refine gx (iB kind c5 (lu (hg hk) g1 (hbl hk) b1 ?_) Xe)
  refine gx (hV ?_)
  unfold methodCall
  refine gx (hW (method_type (h₀:=h) (L:=h.objs.size) ⟨oZ,hk,gF _⟩ X Ws Wg (Mq K) PN ?_))
  refine gx (kr vg ?_)
  refine jh (by rfl) ?_
  refine Gp (xs:=[.Name (nm 313) p3,.Name (nm 224) p4]) (e:=callEnv fd h.objs.size fI) ?_
  have evS:∀{p:Pos} {Q:Value->Shared->Prop} {E:Value->Shared->Prop} {s:Shared},s.heap.Ns (callEnv fd h.objs.size fI).locals (fun x=>List.lookup x (([313,224].map nm).zip [Value.ref e,v]).reverse)->Q (.ref e) s->wpAny (model prog w) (A.deeper (callEnv fd h.objs.size fI)) (eval (.Name (nm 313) p) (callEnv fd h.objs.size fI)) Q E s:=fun n q=>
   wpAny_Name (jE kind c3 n vS q) Ue
  have ph:∀{p:Pos} {Q:Value->Shared->Prop} {E:Value->Shared->Prop} {s:Shared},s.heap.Ns (callEnv fd h.objs.size fI).locals (fun x=>List.lookup x (([313,224].map nm).zip [Value.ref e,v]).reverse)->Q v s->wpAny (model prog w) (A.deeper (callEnv fd h.objs.size fI)) (eval (.Name (nm 224) p) (callEnv fd h.objs.size fI)) Q E s:=fun n q=>
   wpAny_Name (jE kind c4 n vT q) Uf
  refine jV (evS oZ (jV (ph oZ (kR ?_))))
  refine Ur Y X₀ (hk _ _ he) fun h1 T1 k1 e1=>?_
  refine ju (Dl (S:={pg:=prog,w:=w,A:=A.deeper (callEnv fd h.objs.size fI),base:=h,K:=K,e:=callEnv fd h.objs.size fI,fr:=[],sc:=[],Φ:=fun _ _ _ _ _=>False}) (by rfl) (by rfl) (by intro _ _ z;cases z) (ph (TE oZ tU k1) ?_))
  refine gx (hW (evS (TE oZ tU k1) (gx (hV (gx (hW ?_))))))
  refine Sx Y hm (Xb k1) e1 fun h2 dx o2 k2 e2 _ _=>?_
  refine jQ (kh ?_)
  exact hq h2 _ T1 dx (fun b o nb q=>k2 b o nb (k1 b o nb (hk b o q))) e2
end
structure Np(K:Frag)(base:Heap):Prop where
 make:∀c C,1<=c->c<=3->E8 K c C->∃fI bm,HK K C fI bm/\(∃cd,clsIn K C=some cd/\CZ cd.mro=true)/\O5 K fI
 names:∃mg mb,base.Ns mainGlobals mg/\base.Ns builtinsNs mb/\mg "Exception"=none/\mb "Exception"=some (.type "Exception")
structure Gl(S:mn)(FA:Nat->Addr)(Φs:Bool->Az)(hd:Bool):Prop where
 s:B9 S FA Φs hd
 exc:IN S.K
 rN:Np S.K S.base
 room:S.A.depth+2<recursionLimit
 hand:hd=false->∀a,Bi (S.under a (Φs true)) FA 2
theorem Gl.under{S:mn}{FA:Nat->Addr}{Φs:Bool->Az}(G:Gl S FA Φs false)(a:Addr):Gl (S.under a (Φs true)) FA Φs true:=
 ⟨⟨G.hand rfl a,rfl,G.s.head,fun z=>by exact FT z⟩,G.exc,G.rN,G.room,fun z=>by exact nomatch z⟩
def LU(FA:Nat->Addr)(Φs:Bool->Az):Prop:=
 ∀(S:mn) (hd:Bool) (c:Nat) (e:ME) (v:Expr) (n:Str) (np cp pos:Pos),Gl S FA Φs hd->(1<=c/\c<=3)->n=Str.ofString (EL c)->S.sc.lookup n=some .globalImplicit->AD 2 S.sc e v=true->
  S.Runs (exec (.Raise (some (.Call (.Name n np) [v] [] cp)) none pos) S.e) (ws lY Φs hd (.raise c e))
def DF(FA:Nat->Addr)(Φs:Bool->Az)(ms:MS):Prop:=∀(S:mn) (hd:Bool) (st:Stmt),Gl S FA Φs hd->T7 S.sc ms st=true->S.Runs (exec st S.e) (ws lY Φs hd ms)
def Kq(FA:Nat->Addr)(Φs:Bool->Az)(ms:MS):Prop:=∀(S:mn) (hd:Bool) (sA:List Stmt),Gl S FA Φs hd->Ih S.sc ms sA=true->S.Runs (execs sA S.e) (ws lY Φs hd ms)
variable{FA:Nat->Addr}{Φs:Bool->Az}
theorem DF.of(h:DF FA Φs ms)(n:∀sc sA,Ih sc ms sA=false):DF FA Φs ms/\Kq FA Φs ms:=⟨h,fun _ _ _ _ hc=>Bb ((n _ _).symm.trans hc)⟩
theorem Wc(R:LU FA Φs)(c:Nat)(e:ME):DF FA Φs (.raise c e):=fun S hd st G hc=>by
 by_cases q:1<=c/\c<=3
 ·refine Qa hc fun x y p h=>HB h fun h=>BQ h fun x h=>El h fun f as kw p h=>AP h fun h=>B5 h fun v h=>AV h fun n p h=>?_
  rw[gS (Nat.not_lt.mpr q.1),gS (Nat.not_lt.mpr q.2)]at h
  exact R S hd c e _ _ _ _ _ G q (gN (Al h)) (Ej (Al (Aa h))) (Aa (Aa h))
 ·exact fun m env lg μ Q X z=>absurd ⟨(Ag z).1,(Ag (Ag z).2).1⟩ q
theorem dk(e:ME)(c:Nat)(b:MS)(ih:Kq FA Φs b):DF FA Φs (.nj e c b):=fun S hd st G hc=>by
 refine Vx hc fun bs hs o f p h=>AP h fun h=>AP h fun h=>B5 h fun b h=>J8 h fun v p h=>BQ h fun v h=>B5 h fun hn h=>bS h fun t n hb p h=>HB h fun h=>BQ h fun t h=>AV h fun n p h=>?_
 induction hb using List.casesOn with
 |nil=>exact Bb (Al (Aa (Aa (Aa (Aa h)))))
 |cons b₀ body=>
  induction hd with
  |true=>exact fun m env lg μ Q X z=>Bb (A6 z).1
  |false=>exact VP G.s G.exc (gH (Al (Aa (Aa (Aa (Aa (Aa h))))))) (gH (Aa (Aa (Aa (Aa (Aa (Aa h))))))) (gN (Al (Aa h))) (Ej (Al (Aa (Aa h)))) (Al h) (Al (Aa (Aa (Aa h)))) fun a=>ih (S.under a (Φs true)) true _ (G.under a) (Al (Aa (Aa (Aa h))))
theorem Tn(x:Nat)(e:ME):DF FA Φs (.assign x e):=fun S hd st G hc=>by
 refine CR hc fun ts v p h=>B5 h fun t h=>AV h fun n p h=>?_
 rcases(ia _ _).mp (Al (Aa (Aa h)))with z|z
 ·revert h
  exact HA z fun _ _ _ _ _ h=>Tc G.s (Al h) (Fy (Al (Aa h))) (Aa (Aa (Aa h)))
 ·exact OB G.s (Al h) (Fy (Al (Aa h))) (Aa (Aa (Aa h))) (J1 z _ _ _)
theorem Qy(xs:List Nat)(e:ME):DF FA Φs (.mq xs e):=fun S hd st G hc=>
 CR hc fun ts v p h=>B5 h fun t h=>Ka h fun es k p h=>Td G.s (Al h) (Al (Aa h)) (Al (Aa (Aa h))) (Aa (Aa (Aa h)))
theorem QA(o:ME)(a:Nat)(e:ME):DF FA Φs (.setAttr o a e):=fun S hd st G hc=>
 CR hc fun ts v p h=>B5 h fun t h=>Dk h fun o' n p h=>Tf G.s (Al h) (List.elem_iff.mp (Al (Aa h))) (Al (Aa (Aa h))) (Aa (Aa (Aa h)))
theorem Tp(o i e:ME):DF FA Φs (.nh o i e):=fun S hd st G hc=>
 CR hc fun ts v p h=>B5 h fun t h=>GO h fun o' i' p h=>VO G.s (Al (Aa h)) (Al (Aa (Aa h))) (Aa (Aa (Aa h)))
theorem db(x:Nat)(op:Operator)(e:ME):DF FA Φs (.aug x op e):=fun S hd st G hc=>
 J3 hc fun t o v p h=>AV h fun n p h=>EX (Al (Aa h)) (fA G.s (Al h) (gN (Al (Aa (Aa h)))) (Aa (Aa (Aa h))))
theorem Qz(o:ME)(a:Nat)(op:Operator)(e:ME):DF FA Φs (.mA o a op e):=fun S hd st G hc=>
 J3 hc fun t ti v p h=>Dk h fun o' n p h=>EX (Al (Aa (Aa h))) (Te G.s (Al h) (List.elem_iff.mp (Al (Aa h))) (Al (Aa (Aa (Aa h)))) (Aa (Aa (Aa (Aa h)))))
theorem To(o i:ME)(op:Operator)(e:ME):DF FA Φs (.mM o i op e):=fun S hd st G hc=>
 J3 hc fun t ti v p h=>GO h fun o' i' p h=>EX (Al (Aa h)) (VN G.s (Al h) (Al (Aa (Aa h))) (Al (Aa (Aa (Aa h)))) (Aa (Aa (Aa (Aa h)))))
theorem Zf(e:ME):DF FA Φs (.expr e):=fun S hd st G hc=>Ls hc fun v p h=>cE G.s (Aa h) (Al h)
theorem di(e:ME):DF FA Φs (.ret e):=fun S hd st G hc=>by
 refine J8 hc fun v p h=>?_
 induction v with
 |some v=>exact fF G.s h
 |none=>clear hc;induction e using ME.casesOn<;>first|exact Bb h|exact cG
theorem da(t:ME)(a b:MS)(rH:Kq FA Φs a)(rI:Kq FA Φs b):DF FA Φs (.ite t a b):=fun S hd st G hc=>
 Vs hc fun t' a' b' p h=>fD G.s (Al h) (rH S hd _ G (Al (Aa h))) (rI S hd _ G (Aa (Aa h)))
theorem c9(xs:List Nat)(one:Bool)(it:ME)(b:MS)(ih:Kq FA Φs b):DF FA Φs (.mt xs one it b):=fun S hd st G hc=>
 Vp hc fun t' ox b' o p h=>AP h fun h=>fB G.s (Al (Aa h)) (Al h) (Al (Aa (Aa h))) (ih S hd _ G (Aa (Aa (Aa h))))
theorem We(t:ME)(b:MS)(ih:Kq FA Φs b):DF FA Φs (.m8 t b):=fun S hd st G hc=>
 Qc hc fun t' b' o p h=>AP h fun h=>YL G.s (Al h) (ih S hd _ G (Aa h))
theorem Zg:DF FA Φs .skip/\Kq FA Φs .skip:=⟨fun S hd st G hc=>S4 hc fun p h=>cF,fun S hd sA G hc=>AP hc fun h=>fE⟩
theorem dj(a b:MS)(rH:DF FA Φs a)(rI:Kq FA Φs b):DF FA Φs (.seq a b)/\Kq FA Φs (.seq a b):=
 ⟨fun S hd st G hc=>Bb hc,fun S hd sA G hc=>A1 hc fun s r h=>cC (rH S hd s G (Al h)) (rI S hd r G (Aa h))⟩
theorem Ze:DF FA Φs .cont:=fun S hd st G hc=>SZ hc fun p h=>cD
theorem Z4(R:LU FA Φs)(ms:MS):DF FA Φs ms/\Kq FA Φs ms:=by
 induction ms with
 |skip=>exact Zg
 |seq a b rH rI=>exact dj a b rH.1 rI.2
 |assign x e=>exact(Tn x e).of fun _ _=>rfl
 |mq xs e=>exact(Qy xs e).of fun _ _=>rfl
 |setAttr o a e=>exact(QA o a e).of fun _ _=>rfl
 |nh o i e=>exact(Tp o i e).of fun _ _=>rfl
 |aug x op e=>exact(db x op e).of fun _ _=>rfl
 |mA o a op e=>exact(Qz o a op e).of fun _ _=>rfl
 |mM o i op e=>exact(To o i op e).of fun _ _=>rfl
 |expr e=>exact(Zf e).of fun _ _=>rfl
 |ret e=>exact(di e).of fun _ _=>rfl
 |cont=>exact Ze.of fun _ _=>rfl
 |ite t a b rH rI=>exact(da t a b rH.2 rI.2).of fun _ _=>rfl
 |mt xs one it b ih=>exact(c9 xs one it b ih.2).of fun _ _=>rfl
 |m8 t b ih=>exact(We t b ih.2).of fun _ _=>rfl
 |raise c e=>exact(Wc R c e).of fun _ _=>rfl
 |nj e c b ih=>exact(dk e c b ih.2).of fun _ _=>rfl
theorem Nk(C:Addr)(v:Value):(Code.builtin "type.__call__" ⟨[.ref C,v],[]⟩).weight=1:=by kernel_rfl
theorem C5{h:Heap}(k:h.objs.size<=a):h.get? a=none:=by
 cases q:h.get? a with
 |none=>rfl
 |some o=>exact absurd (g8 q) (Nat.not_lt.mpr k)
section
variable{S:mn}{FA:Nat->Addr}{Φs:Bool->Az}{hd:Bool}
theorem Ut{m:Str->Option Value}{s:Shared}{v:Value}{Q:Value->Shared->Prop}{E:Value->Shared->Prop}(G:Gl S FA Φs hd)(h1:1<=c)(h2:c<=3)(hC:E8 S.K c C)(I:S.I m env lg μ s.heap)
  (hq:∀h' tk e T dx,(∀b o,s.heap.get? b=some o->h'.get? b=some o)->s.heap.get? e=none->h'.get? e=some (Bx C T (some dx))->Q (.ref e) {s with heap:=h',toks:=tk}):wpAny S.M S.A (call (.ref C) [v]) Q E s:=by
 obtain⟨fI,bm,Y,hm,FI⟩:=G.rN.make c C h1 h2 hC
 have B:=G.s.good.base
 have X:S.K.In s.heap:=B.pY.keeps I.old
 obtain⟨mg,mb,n1,n2,n3,n4⟩:=G.rN.names
 obtain⟨h,g,d,t,os⟩:=s
 refine jS (Xo Y X (rest:=[v]) (by show 1<=sizeLine;decide) ?_)
 have k1:∀b o,h.get? b=some o->((h.push (Fo [v])).push (Bx C h.objs.size none)).get? b=some o:=fun b o q=>gG _ (gG _ q)
 have he:((h.push (Fo [v])).push (Bx C h.objs.size none)).get? (h.objs.size+1)=some (Bx C h.objs.size none):=by heap_get
 have neE:∀{b o},h.get? b=some o->b≠h.objs.size+1:=fun q z=>by
  have:=g8 q
  replace this:=z▸this;exact absurd this (Nat.not_lt.mpr (iY _))
 have qR:h.get? (h.objs.size+1)=none:=C5 (iY _)
 refine Us (A:=S.A.under _) Y hm FI (X.keeps k1) ?_ ⟨mg,mb,CN n1 fun b o q=>k1 b o (I.old b o q),CN n2 fun b o q=>k1 b o (I.old b o q),n3,n4⟩ ?_ ?_ he fun h' tk T' dx k2 e2=>?_
 ·cases q:S.K.lookup (h.objs.size+1) with
  |none=>rfl
  |some o=>have:=X _ _ q;exact AM qR this
 ·exact B.qk.keeps fun b o q=>k1 b o (I.old b o q)
 ·show S.A.depth+(Code.builtin "type.__call__" ⟨[.ref C,v],[]⟩).weight<_
  rw[Nk]
  have:=G.room;lia
 ·exact⟨rfl,hq h' tk _ T' dx (fun b o q=>k2 b o (neE q) (k1 b o q)) qR e2⟩
theorem OC:LU FA Φs:=by
 intro S hd c e v n np cp pos G qw hn hg he
 obtain⟨mg,mb,n1,n2,_,_,_,n5⟩:=G.s.good.base.names
 obtain⟨D,hD,hw⟩:=n5 c qw.1 qw.2
 obtain⟨fI,bm,Y,hm,FI⟩:=G.rN.make c D qw.1 qw.2 hD
 have star:([v]:List Expr).all (fun x=>!EA x)=true:=by
  induction v using Expr.casesOn<;>first|rfl|(exfalso;induction e using ME.casesOn<;>with_unfolding_all exact Bb he)
 have keep:keepIn S.K (.ref D)=true:=by
  obtain⟨nm,q,N,bs,sn,sub,col,dd,k0,k1,k2,k3,k5,hC⟩:=Y.obj
  unfold keepIn;dsimp only;refine hC.symm▸?_;refine Y.call.symm▸?_;rfl
 obtain⟨nm,qn,N,bs,sn,sub,col,dd,k0,k1,k2,k3,k5,hC⟩:=Y.obj
 intro m env lg μ Q X h s E I H hX
 replace h:=(Ag (Ag h).2).2
 refine gx (hV ?_)
 refine gx (gx (Call_Name rfl (iB G.s.good.env.kind (G.s.good.env.lY _ hg) (jx (by rw[G.s.good.env.globals];exact CN n1 I.old) (by rw[hn];exact hw) ?_) (by
   refine hn.symm▸?_;obtain rfl|rfl|rfl:c=1\/c=2\/c=3:=by lia
   all_goals decide))))
 refine callWith_of (by rw[Bf _ _ _ star];rfl) (keeps_K keep) ?_
 refine(Bf _ _ _ star).symm▸?_
 refine Gp (jV ((G.s.se he _ _ _ _ _ _ h).mW I H hX fun u h1 mT mD μ1 x1 I1 H1 p1 k1 mK=>kR ?_))
 obtain⟨uv,ru,q⟩:=p1
 obtain⟨sv,rfl,q⟩:∃s,uv=.str s/\X (Re hd c) μ1:=by
  induction uv using V.casesOn<;>first|exact False.elim q|exact⟨_,rfl,q⟩
 refine⟨G.s.good.base.pY.keeps I1.old,Ut (s:={s with heap:=h1,toks:=mT}) G qw.1 qw.2 hD I1 fun h2 nE a T dx kp na ga=>?_⟩
 have hC2:=kp _ _ (I1.old _ _ (G.s.good.base.pY _ _ hC))
 have cB:(Value.ref D :: bm).contains (.type "BaseException")=true:=by(rewrite[iH];refine Y.hasBase.symm▸?_;rewrite[js];rfl)
 repeat(first|with_reducible refine iP ga ?_|with_reducible refine iP hC2 ?_|(with_reducible refine iR hC2 ?_;refine cB.symm▸?_)|wp_step)
 have naH:a∉oE S.A:=fun hm=>by
  rcases H1.hl with z|⟨b,o,arr,z,kn,_⟩
  ·simp[oE,z]at hm
  ·simp[oE,z]at hm;subst hm;have:=I1.kn kn;exact AM na this
 refine LB (s:={s with heap:=h2,toks:=nE}) ((I1.r9 H1.hl).mono kp) ga rfl (by show 2<6;decide) naH fun h3 uV e3=>?_
 obtain⟨o3,g3,c3,arr,d3,z3,t3,n3⟩:=e3
 have kp3:∀b o,h1.get? b=some o->h3.get? b=some o:=fun b o q=>(uV.2 b (fun z=>by(rw[z]at q;replace q:=na▸q);exact Ao q)).trans (kp b o q)
 have hr:Re hd c % 10=c:=by induction hd using Bool.casesOn<;>unfold Re<;>dsimp only<;>lia
 have tU:a≠S.e.locals:=fun z=>by
  obtain⟨oL,gL,_⟩:=H6.of I1.ns
  (rw[<- z]at gL;replace gL:=na▸gL);exact Ao gL
 refine mK _ _ ⟨h3,nE,mD,μ1,m,env,a,_,rfl,I1.keeps kp3,Ext.refl _,rfl,⟨I1.nK na,I1.free na,tU,o3,arr,D,g3,by refine hr.symm▸?_;exact qw.1,by refine hr.symm▸?_;exact qw.2,by refine hr.symm▸?_;exact hD,c3,d3,by refine z3.symm▸?_;show 2<6;decide,fun oQ=>?_,.inl (t3.trans rfl)⟩,q⟩
 induction hd using Bool.casesOn with
 |true=>exact absurd oQ (Nat.not_lt.mpr (ji 10 c))
 |false=>rw[n3 (G.s.none rfl)];rfl
end
def R3(K:Frag)(a:Addr)(ps:List Nat)(body:MS):Prop:=
 ∃oc od sl fd b,K.lookup a=some ⟨oc,od,.func fd,sl⟩/\NX fd ps=true/\fd.body=.stmts b/\codeIn K fd.code fd.qualname=true/\Ih fd.scope.names body b=true
structure dI(K:Frag)(FA:Nat->Addr):Prop where
 fn:∀f ps body,prog f=some (.fn ps body)->R3 K (FA f) ps body
 cls:∀f c ps body,prog f=some (.cls c ps body)->c<3/\Cf K c (FA f)/\makesIn K (FA f)=true/\∃fI,findIn K (.ref (FA f)) "__init__"=some (some (.ref fI))/\typeIn K (.ref fI)=some (.type "function")/\R3 K fI ps body
structure sF(base:Heap)(K:Frag)(FA:Nat->Addr):Prop where
 qt:Tz base K FA
 exc:IN K
 rN:Np K base
 fns:dI K FA
section
variable{S:mn}{FA:Nat->Addr}{m:Str->Option Value}{env:An}{lg:Lg}{μ:MH}{s:Shared}
inductive aa(S:mn)(m:Str->Option Value)(env:An)(lg lZ:Lg)(μ':MH)(h':Heap):Prop
 |mk (mV:Lg) (I:S.I m env mV μ' h') (x:Ext lg mV) (v:G1 lZ mV) (n:∀b,lZ.led b=none->mV.led b=none) (oL:Obj) (g:lZ.led S.e.locals=some oL)
theorem Ri{Φ:Az}{m':Str->Option Value}(I0:S.I m env lg μ h)(x:Ext lg lZ)(I:(S.callee fd L a m env lg Φ A).I m' env' lZ μ' h') :
  aa S m env lg lZ μ' h':=by
 obtain⟨I2,x2⟩:=Inv.back (f:=⟨S.e,m,AU env S.e lg⟩) (env:=env) I x I0.mH (fun _ _ q=>q) I0.vars
 obtain⟨⟨oL,g1,g2⟩,_⟩:=I.frames ⟨S.e,m,AU env S.e lg⟩ (.head _)
 obtain⟨es,ep,hd,_⟩:=g2
 refine⟨_,I2,x2,⟨fun b o v q=>?_,fun _ _ q=>q⟩,fun b q=>?_,oL,g1⟩
 ·unfold Lg.drop;dsimp only
  rw[iI];exact q
  rintro rfl;obtain rfl:=same g1 q;exact v.1.2.1 _ _ hd
 ·unfold Lg.drop;dsimp only
  split
  ·rfl
  ·exact q
theorem JX{ps:List Nat}{ws:List Value}{x:Str×Value}(h:x∈(ps.map nm).zip ws):∃p∈ps,x.1=nm p:=by
 have a:=x.1;have b:=x.2
 have:=(List.of_mem_zip h).1
 obtain⟨p,hp,e⟩:=List.mem_map.mp this
 exact⟨p,hp,e.symm⟩
theorem Rj{a:Addr}{ps:List Nat}{body:MS}{as:List V}{ws:List Value}{env':An}{A:Around}{n:Nat}{hd:Bool}{Q':Au}{X':As}{R:Result->Shared->Prop}(P:sF S.base S.K FA)(qC:R3 S.K a ps body)(B:O3 S.A S.e S.fr)
  (ih:∀(T:mn) (hd:Bool),sF T.base T.K FA->T.Φ=Ak lY prog n hd->O3 T.A T.e T.fr->T.A.depth+3*n+3<recursionLimit->T.A.units+8*n+50<cLine->(hd=false->T.A.handled=none)->T.Calls FA)
  (ur:A.handled=S.A.handled) (us:A.frames=S.A.frames) (nN:A.depth+3*n+4<recursionLimit) (hu:A.units+8*n+53<cLine) (hh:hd=false->S.A.handled=none)
  (I:S.I m env lg μ s.heap) (H:S.H lg) (hr:Ar S.base lg as ws) (he:CP ps as (fun _=>none)=some env') (hw:Mine.ws lY (Ak lY prog n) hd body Q' X' env' μ)
  (rD:∀mf mR mV μ2 h2 nE w,S.I m env mV μ2 h2->Ext lg mV->Q' mf mR μ2->(match mf with|.next=>w=Value.none|.ret v=>Aw S.base mV v w|.cont=>True)->R (.ok (.ret w)) {s with heap:=h2,toks:=nE})
  (rB:∀v s',S.X m env lg s X' v s'->R (.error v) s'):codeAny S.M A (.call (.ref a) ⟨ws,[]⟩) R s:=by
 obtain⟨oc,od,sl,fd,b,hK,hc,hb,oO,rx⟩:=qC
 have F:=Mt hc
 have X:S.K.In s.heap:=P.qt.pY.keeps I.old
 have hl:ps.length=ws.length:=by(refine hr.1▸?_;refine(Fp he).symm▸?_;rfl)
 refine codeAny_call_cells (fd:=fd) (body:=b) (binds:=(ps.map nm).zip ws) (by exact qq9 nN) (X _ _ hK) rfl (P.qt.qk.keeps I.old) (codeRec_of X oO) hb (Ji F hl) F.clo (fun x hx=>?_) (fun s₁ x=>?_) F.co F.gen F.kind
 ·obtain⟨p,hp,e⟩:=JX hx
  refine e.symm▸?_
  rcases F.par p hp with q|q
  ·exact .inl q
  ·obtain⟨ca,pj⟩:=Bk fd.scope.names [] (s.heap.objs.size+1) (nm p) (.inl (AN q))
   exact .inr ⟨q,by refine pj.symm▸?_;rfl⟩
 obtain⟨lZ,I',x',H'⟩:=Uw (A:=A) (a:=a) (Φ:=Ak lY prog n hd) I H F ur hr he x
 obtain⟨h1,mT,e1,_⟩:=x.done
 have FH:DU (S.callee fd s.heap.objs.size a m env lg (Ak lY prog n hd) A).A (S.callee fd s.heap.objs.size a m env lg (Ak lY prog n hd) A).e (S.callee fd s.heap.objs.size a m env lg (Ak lY prog n hd) A).fr:=Pt B us F
 have rh:(S.callee fd s.heap.objs.size a m env lg (Ak lY prog n hd) A).A.depth=A.depth+1:=rfl
 have qQ:(S.callee fd s.heap.objs.size a m env lg (Ak lY prog n hd) A).A.units=A.units+3:=rfl
 have GT:Gl (S.callee fd s.heap.objs.size a m env lg (Ak lY prog n hd) A) FA (Ak lY prog n) hd:=by
  refine⟨⟨⟨P.qt,Fs F,by refine qQ.symm▸?_;exact YB hu,FH.qG,fun e fr sc fi=>ih _ hd P rfl fi (by show(S.callee fd s.heap.objs.size a m env lg (Ak lY prog n hd) A).A.depth+_+_<_;refine rh.symm▸?_;exact YC nN) (by show(S.callee fd s.heap.objs.size a m env lg (Ak lY prog n hd) A).A.units+_+_<_;refine qQ.symm▸?_;exact YD hu) fun z=>ur.trans (hh z)⟩,rfl,FH,fun z=>ur.trans (hh z)⟩,
   P.exc,P.rN,by refine rh.symm▸?_;exact eY nN,fun z b=>⟨P.qt,Fs F,by show(S.callee fd s.heap.objs.size a m env lg (Ak lY prog n hd) A).A.units+_+_<_;refine qQ.symm▸?_;exact YB hu,FH.qG,fun e fr sc fi=>ih _ true P rfl fi (by show(S.callee fd s.heap.objs.size a m env lg (Ak lY prog n hd) A).A.depth+_+_<_;refine rh.symm▸?_;exact YC nN) (by show(S.callee fd s.heap.objs.size a m env lg (Ak lY prog n hd) A).A.units+_+_<_;refine qQ.symm▸?_;exact YD hu) fun z=>by exact FT z⟩⟩
 refine gJ ((Z4 OC body).2 (S.callee fd s.heap.objs.size a m env lg (Ak lY prog n hd) A) hd b GT rx _ env' lZ μ Q' X' hw s₁ _ I' H' fun v s' z=>?_) (fun fl s2 z=>?_) fun _ _ e=>e
 ·obtain⟨h2,nE,mV,μ2,m2,mR,ea,r,rfl,I2,x2,rfl,ex,q⟩:=z
  refine gx (IC (S:=S.callee fd s.heap.objs.size a m env lg (Ak lY prog n hd) A) (s:={s₁ with heap:=h2,toks:=nE}) FH I2 ex fun h3 pk I3 x3 e3=>?_)
  refine Eg (S:=S.callee fd s.heap.objs.size a m env lg (Ak lY prog n hd) A) (s:={s₁ with heap:=h3,toks:=nE}) I3 e3 fun h4 I4 e4=>?_
  obtain⟨qO,I5,x5,_,qV,oL,gL⟩:=Ri I (x'.trans (x2.trans x3)) I4
  refine rB _ _ ⟨h4,nE,qO,μ2,ea,r,by(refine e1.symm▸?_;rfl),I5,x5,rfl,?_,q⟩
  obtain⟨o,vs,O,t⟩:=FN.iff.mp e4.at
  refine FN.iff.mpr ⟨o,vs,{O with led:=qV _ O.led,lX:=fun z=>?_},?_⟩
  ·have:=O.led;(rw[z]at this;replace this:=gL▸this);exact Rz this
  ·rcases t with t|⟨T,oT,ts,t1,t2,t3,t4,t5,t6,t7,t8⟩
   ·exact .inl t
   ·exact .inr ⟨T,oT,ts,t1,t2,qV _ t3,t4,fun z=>(by(rw[z]at t3;replace t3:=gL▸t3);exact Rz t3),t6,t7,t8⟩
 ·obtain⟨h2,nE,mV,μ2,m2,mR,mf,rfl,I2,x2,fr,q⟩:=z
  obtain⟨qO,I5,x5,v5,_⟩:=Ri I (x'.trans x2) I2
  refine e1.symm▸?_
  refine rD mf mR qO μ2 h2 nE _ I5 x5 q ?_
  induction mf<;>induction fl<;>first|trivial|exact fr.elim|rfl|exact fr.mL v5
end
theorem HJ(C:Addr)(vs:List Value):(Code.builtin "type.__call__" ⟨.ref C :: vs,[]⟩).weight=1:=by kernel_rfl
theorem OW(C:Addr)(vs:List Value):(Code.builtin "type.__call__" ⟨.ref C :: vs,[]⟩).cUnits=1:=by kernel_rfl
theorem QE(C:Addr)(vs:List Value):(Code.builtin "type.__call__" ⟨.ref C :: vs,[]⟩).envs=[]:=by kernel_rfl
section
variable{base:Heap}{K:Frag}{e:Env}{m:Str->Option Value}{fr:List oa}{env:An}{lg:Lg}{μ:MH}{h:Heap}
theorem UJ(I:Inv base K e m fr env lg μ h)(hc:c<3)(hC:Cf K c C) :
  ∃lZ,Inv base K e m fr env lZ (μ++[.inst c []]) ((h.push emptyDict).push (instObj C h.objs.size))/\Ext lg lZ/\lZ.mw[μ.length]?=some (h.objs.size+1,h.objs.size):=by
 have sz:(h.push emptyDict).objs.size=h.objs.size+1:=i6 ..
 have I1:=I.add (h':=h.push emptyDict) (a:=h.objs.size) (o:=emptyDict) (Bl h) (fun b p q=>gG _ q) (hO h rfl)
 have x1:Ext lg (lg.put h.objs.size emptyDict):=Ext.mI _ I.fresh
 have I2:=I1.add (h':=(h.push emptyDict).push (instObj C h.objs.size)) (a:=h.objs.size+1) (o:=instObj C h.objs.size) (by refine sz▸?_;exact Bl _) (fun b p q=>gG _ q) (by
  have:=hO (h.push emptyDict) (o:=instObj C h.objs.size) rfl
  rwa [sz]at this)
 have f2:(lg.put h.objs.size emptyDict).led (h.objs.size+1)=none:=by refine sz▸?_;exact I1.free (Bl _)
 have x2:Ext (lg.put h.objs.size emptyDict) ((lg.put h.objs.size emptyDict).put (h.objs.size+1) (instObj C h.objs.size)):=Ext.mI _ f2
 have stores:∀p∈lg.mw,p.2≠h.objs.size:=fun p hp z=>by
  obtain⟨ob,q,_⟩:=I.stores hp
  (rw[z]at q;replace q:=I.fresh▸q);exact Ao q
 have frames:∀f∈fr,f.env.locals≠h.objs.size:=fun f pD z=>by
  obtain⟨⟨ob,a1,_⟩,_⟩:=I.frames f pD
  (rw[z]at a1;replace a1:=I.fresh▸a1);exact Ao a1
 have ld:((lg.put h.objs.size emptyDict).put (h.objs.size+1) (instObj C h.objs.size)).led h.objs.size=some emptyDict:=by
  rw[Lg.l9 _ _ (iV (iM _)),Lg.ma]
 have I3:=I2.new (a:=h.objs.size+1) (d:=h.objs.size) (o:=.inst c []) stores frames ⟨hc,C,hC,Lg.ma ..,ie _,[],0,ld,.nil⟩
 refine⟨_,I3,(x1.trans x2).trans (Ext.lX _ _),?_⟩
 show(lg.mw++[(h.objs.size+1,h.objs.size)])[μ.length]?=_
 rw[<- I.heap.len,i7 (gF _)]
 simp
end
theorem NW{FA:Nat->Addr}:∀(n:Nat) (S:mn) (hd:Bool),sF S.base S.K FA->S.Φ=Ak lY prog n hd->O3 S.A S.e S.fr->S.A.depth+3*n+3<recursionLimit->S.A.units+8*n+50<cLine->(hd=false->S.A.handled=none)->S.Calls FA:=by
 intro n
 induction n with
 |zero=>
  intro S hd P hΦ B hr hu hh f as ws hf m env lg μ Q X hr h
  replace h:=hΦ▸h
  exact h.elim
 |succ n ih=>
  intro S hd P hΦ B hr hu hh f as ws hf m env lg μ Q X o5 h s E I H hX
  replace h:=hΦ▸h
  obtain⟨F,hp,h⟩:=Aq h
  ·induction F with
   |fn ps body=>
    obtain⟨env',he,hw⟩:=Aq h
    refine jS (Rj (n:=n) P (P.fns.fn f ps body hp) B (fun T uF p a b c d e=>ih T uF p a b c d e) rfl rfl (by exact mP (nC _ _ _) (.add (.add (.add (.var 0) (.mulL 3 (.var 1))) (.num 4)) (.num 1)) (.var 2) (.add (.add (.add (.var 0) (.mulL 3 (.add (.var 1) (.num 1)))) (.num 3)) (.num 1)) (.var 2) rfl hr) (by exact mP (nC _ _ _) (.add (.add (.add (.var 0) (.mulL 8 (.var 1))) (.num 53)) (.num 1)) (.var 2) (.add (.add (.add (.var 0) (.mulL 8 (.add (.var 1) (.num 1)))) (.num 50)) (.num 1)) (.var 2) rfl hu) hh I H o5 he hw (fun mf mR mV μ2 h2 nE w I2 x2 q r=>?_) fun v s' z=>hX v s' z)
    induction mf using KY.casesOn with
    |next=>subst r;exact⟨h2,nE,mV,μ2,rfl,I2,x2,.none,.none,q⟩
    |cont=>exact q.elim
    |ret v=>exact⟨h2,nE,mV,μ2,rfl,I2,x2,v,r,q⟩
   |cls c ps body=>
    obtain⟨env',he,hw⟩:=Aq h
    obtain⟨hc,hC,hmk,fI,hi,hty,qC⟩:=P.fns.cls f c ps body hp
    have XK:S.K.In s.heap:=P.qt.pY.keeps I.old
    obtain⟨hh',g,d,t,os⟩:=s
    obtain⟨mD,I1,x1,r1⟩:=UJ I hc hC
    refine jS (make_core (makes_of XK hmk) (lA XK hi) (fun self=>bind_fn XK self hty) (.inl rfl) ?_)
    have fr_:(S.A.under (.builtin "type.__call__" ⟨.ref (FA f) :: ws,[]⟩)).frames=S.A.frames:=by
     show pushEnvs (Code.builtin "type.__call__" ⟨.ref (FA f) :: ws,[]⟩).envs S.A.frames=_
     rw[QE];rfl
    have dp:(S.A.under (.builtin "type.__call__" ⟨.ref (FA f) :: ws,[]⟩)).depth=S.A.depth+1:=by
     show S.A.depth+(Code.builtin "type.__call__" ⟨.ref (FA f) :: ws,[]⟩).weight=_
     rw[HJ]
    have un:(S.A.under (.builtin "type.__call__" ⟨.ref (FA f) :: ws,[]⟩)).units=S.A.units+1:=by
     show S.A.units+(Code.builtin "type.__call__" ⟨.ref (FA f) :: ws,[]⟩).cUnits=_
     rw[OW]
    refine Rj (n:=n) (s:=⟨(hh'.push emptyDict).push (instObj (FA f) hh'.objs.size),g,d,t,os⟩) P qC B (fun T uF p a b c d e=>ih T uF p a b c d e) rfl fr_ (by refine dp.symm▸?_;exact mP (nC _ _ _) (.add (.add (.add (.add (.var 0) (.num 1)) (.mulL 3 (.var 1))) (.num 4)) (.num 1)) (.var 2) (.add (.add (.add (.var 0) (.mulL 3 (.add (.var 1) (.num 1)))) (.num 3)) (.num 1)) (.var 2) rfl hr) (by refine un.symm▸?_;exact mP (nC _ _ _) (.add (.add (.add (.add (.var 0) (.num 1)) (.mulL 8 (.var 1))) (.num 53)) (.num 1)) (.var 2) (.add (.add (.add (.var 0) (.mulL 8 (.add (.var 1) (.num 1)))) (.num 50)) (.num 1)) (.var 2) rfl hu) hh I1 (H.mono x1) (Ar.cons (.lX _ _ _ r1) (o5.mono x1)) he hw
     (fun mf mR mV μ2 h2 nE w I2 x2 q r=>?_) fun v s' nS=>by obtain⟨_,_,_,_,_,_,_,_,_,_,_,f⟩:=nS;exact f.elim
    induction mf using KY.casesOn with
    |next=>exact⟨r,h2,nE,mV,μ2,rfl,I2,x1.trans x2,_,.lX _ _ _ (x2.mw _ _ r1),q⟩
    |cont=>exact q.elim
    |ret v=>exact q.elim
noncomputable def lg0:Lg:=⟨fun _=>none,[]⟩
theorem Wq{pg:Program}{w:World}{A:Around}{K:Frag}{FA:Nat->Addr}{s:Shared}{a:Addr}{ps:List Nat}{body:MS}{as:List V}{ws:List Value}{env':An}{n:Nat}{Q':Au}{X':As}{R:Result->Shared->Prop}
  (P:sF s.heap K FA) (qC:R3 K a ps body) (us:A.frames=some []) (hh:A.handled=none) (nN:A.depth+3*n+4<recursionLimit) (hu:A.units+8*n+53<cLine)
  (hr:Ar s.heap lg0 as ws) (he:CP ps as (fun _=>none)=some env') (hw:Mine.ws lY (Ak lY prog n) false body Q' X' env' [])
  (rD:∀mf mR mV μ2 h2 nE w,(∀b o,s.heap.get? b=some o->h2.get? b=some o)->Q' mf mR μ2->(match mf with|.next=>w=Value.none|.ret v=>Aw s.heap mV v w|.cont=>True)->R (.ok (.ret w)) {s with heap:=h2,toks:=nE})
  (rB:∀r μ,¬X' r μ):codeAny (model pg w) A (.call (.ref a) ⟨ws,[]⟩) R s:=by
 obtain⟨oc,od,sl,fd,b,hK,hc,hb,oO,rx⟩:=qC
 have F:=Mt hc
 have X:K.In s.heap:=P.qt.pY
 have hl:ps.length=ws.length:=by(refine hr.1▸?_;refine(Fp he).symm▸?_;rfl)
 refine codeAny_call_cells (fd:=fd) (body:=b) (binds:=(ps.map nm).zip ws) (by exact qq9 nN) (X _ _ hK) rfl P.qt.qk (codeRec_of X oO) hb (Ji F hl) F.clo (fun x hx=>?_) (fun s₁ x=>?_) F.co F.gen F.kind
 ·obtain⟨p,hp,e⟩:=JX hx
  refine e.symm▸?_
  rcases F.par p hp with q|q
  ·exact .inl q
  ·obtain⟨ca,pj⟩:=Bk fd.scope.names [] (s.heap.objs.size+1) (nm p) (.inl (AN q))
   exact .inr ⟨q,by refine pj.symm▸?_;rfl⟩
 obtain⟨h1,mT,e1,_⟩:=x.done
 let S:mn:={pg:=pg,w:=w,A:=A.deeper (callEnvC fd s.heap.objs.size a),base:=s.heap,K:=K,e:=callEnvC fd s.heap.objs.size a,fr:=[],sc:=fd.scope.names,Φ:=Ak lY prog n false}
 let C:Addr->Prop:=fun a=>s.heap.objs.size<a/\∃o,s₁.heap.get? a=some o/\Da o
 have oK:∀n ca,(callEnvC fd s.heap.objs.size a).cells.lookup n=some ca->C ca/\s₁.heap.IsCell ca ((bindC (callEnvC fd s.heap.objs.size a).kindOf ((ps.map nm).zip ws) fun _=>none) n):=fun n ca q=>by
  have c:=x.cell n ca q
  obtain⟨o,ho,hd⟩:=id c
  exact⟨⟨x.above n ca (mem_of_lookup q),o,ho,_,hd⟩,c⟩
 have xg:Ext lg0 (lg0.nH C s₁.heap):=⟨fun _ _ _ q=>(by exact Ao q),fun _ _ _ q=>(by exact nomatch q),fun _ _ q=>(by simp[lg0]at q)⟩
 have rel:=NP (lg:=lg0.nH C s₁.heap) (kindOf:=(callEnvC fd s.heap.objs.size a).kindOf) (m0:=fun _=>none) (c0:=fun _=>none) (hr.mono xg) he F.lt (fun y v _ q=>by exact Ao q)
 have I':S.I (bindL (callEnvC fd s.heap.objs.size a).kindOf ((ps.map nm).zip ws) fun _=>none) env' (lg0.nH C s₁.heap) [] s₁.heap:=by
  refine⟨x.toInCall.keep,x.toInCall.ns,C5 (gF _),?_,fun b p q=>?_,fun f hf=>(by exact nomatch hf),?_,fun f hf=>(by exact nomatch hf),fun y v q ss=>?_,?_⟩
  ·rw[Lg.nq fun z=>absurd z.1 (ic _)];rfl
  ·by_cases z:C b
   ·replace q:=(Lg.nt z)▸q;exact⟨q,C5 (j8 z.1)⟩
   ·exact AM (Lg.nq z) q
  ·exact List.Pairwise.cons (fun _ h=>by exact nomatch h) List.Pairwise.nil
  ·have r1:=(rel y v ss.1 q).1;have r2:=(rel y v ss.1 q).2
   refine⟨ss.1,?_⟩
   rcases ss.2 with z|z
   ·exact .inl ⟨z,r1 z⟩
   ·obtain⟨w',sZ,oG⟩:=r2 z
    obtain⟨ca,pj⟩:=Bk fd.scope.names [] (s.heap.objs.size+1) (nm y) (.inl (AN z))
    obtain⟨hp,o,ho,hd⟩:=oK _ ca pj
    replace hd:=sZ▸hd
    exact .inr ⟨z,ca,o,w',pj,by refine(Lg.nt hp).symm▸?_;exact ho,hd,oG⟩
  ·exact⟨rfl,k9,fun n o q=>by simp at q⟩
 have H':S.H (lg0.nH C s₁.heap):=by
  refine⟨.inl hh,⟨fun n ca _ _ f hf=>(by exact nomatch hf),fun n n' ca q1 q2=>name_of_addr x.apart (mem_of_lookup q1) (mem_of_lookup q2),fun n q=>?_⟩⟩
  rcases q with q|q
  ·obtain⟨ca,pj⟩:=Bk fd.scope.names [] (s.heap.objs.size+1) n (.inl (AN q))
   have hp:=(oK _ ca pj).1
   obtain⟨o,ho,hc⟩:=id hp.2
   exact⟨ca,o,pj,hc,by exact(Lg.nt hp).trans (ho)⟩
  ·have:=(F.vc n .free (AN q)).2;simp at this
 have FH:DU S.A S.e S.fr:=by
  refine⟨[],by show(A.frames.map _)=_;refine us.symm▸?_;rfl,fun x hm=>?_⟩
  rcases List.mem_cons.mp hm with rfl|hm
  ·exact⟨.inl rfl,rfl,fun z=>by have:=F.kind;have z:fd.scope.kind=.module:=z;replace z:=this▸z;exact nomatch z⟩
  ·exact nomatch hm
 have rh:S.A.depth=A.depth+1:=rfl
 have qQ:S.A.units=A.units+3:=rfl
 have GT:Gl S FA (Ak lY prog n) false:=by
  refine⟨⟨⟨P.qt,Fs F,by refine qQ.symm▸?_;exact YB hu,FH.qG,fun e fr sc fi=>NW n _ false P rfl fi (by show S.A.depth+_+_<_;refine rh.symm▸?_;exact YC nN) (by show S.A.units+_+_<_;refine qQ.symm▸?_;exact YD hu) fun _=>hh⟩,rfl,FH,fun _=>hh⟩,
   P.exc,P.rN,by refine rh.symm▸?_;exact eY nN,fun z b=>⟨P.qt,Fs F,by show S.A.units+_+_<_;refine qQ.symm▸?_;exact YB hu,FH.qG,fun e fr sc fi=>NW n _ true P rfl fi (by show S.A.depth+_+_<_;refine rh.symm▸?_;exact YC nN) (by show S.A.units+_+_<_;refine qQ.symm▸?_;exact YD hu) fun z=>by exact FT z⟩⟩
 refine gJ ((Z4 OC body).2 S false b GT rx _ env' _ [] Q' X' hw s₁ _ I' H' fun v s' z=>?_) (fun fl s2 z=>?_) fun _ _ e=>e
 ·obtain⟨h2,nE,mV,μ2,m2,mR,ea,r,_,_,_,_,_,q⟩:=z
  exact absurd q (rB r μ2)
 ·obtain⟨h2,nE,mV,μ2,m2,mR,mf,rfl,I2,x2,fr,q⟩:=z
  refine e1.symm▸?_
  refine rD mf mR mV μ2 h2 nE _ I2.old q ?_
  induction mf<;>induction fl<;>first|trivial|exact fr.elim|rfl|exact fr
noncomputable def Lw(K:Frag)(a:Addr)(f:Value->Data->Array (Option Value)->Bool):Bool:=match K.lookup a with
 |some o=>f o.cls o.data o.slots
 |none=>false
theorem GM{K:Frag}{f:Value->Data->Array (Option Value)->Bool}{P:Prop}(h:Lw K a f=true)(k:∀c dd d sl,K.lookup a=some ⟨c,dd,d,sl⟩->f c d sl=true->P):P:=by
 unfold Lw at h
 cases q:K.lookup a with
 |none=>replace h:=q▸h;exact Bb h
 |some o=>rw[q]at h;exact k _ _ _ _ q h
noncomputable def MV(d:Data)(f:FuncData->Bool):Bool:=BO d.ctorIdx 7 fun h=>Data.func.elim d h f
@[elab_as_elim] theorem Lu{f:FuncData->Bool}{P:Data->Prop}(h:MV d f=true)(k:∀x,f x=true->P (.func x)):P d:=
 if q:d.ctorIdx=7 then Data.func.elim (motive:=fun d=>MV d f=true->P d) d q k h else Bb ((AA q).symm.trans h)
noncomputable def P5(d:Data)(f:ClassData->Bool):Bool:=BO d.ctorIdx 8 fun h=>Data.cls.elim d h f
@[elab_as_elim] theorem SY{f:ClassData->Bool}{P:Data->Prop}(h:P5 d f=true)(k:∀x,f x=true->P (.cls x)):P d:=
 if q:d.ctorIdx=8 then Data.cls.elim (motive:=fun d=>P5 d f=true->P d) d q k h else Bb ((AA q).symm.trans h)
noncomputable def Vt(d:Data)(f:Array Value->Bool):Bool:=BO d.ctorIdx 2 fun h=>Data.seq.elim d h fun x _=>f x
@[elab_as_elim] theorem Vu{f:Array Value->Bool}{P:Data->Prop}(h:Vt d f=true)(k:∀x n,f x=true->P (.seq x n)):P d:=
 if q:d.ctorIdx=2 then Data.seq.elim (motive:=fun d=>Vt d f=true->P d) d q k h else Bb ((AA q).symm.trans h)
noncomputable def MW(v:Value)(f:Int->Bool):Bool:=BO v.ctorIdx 4 fun h=>Value.int.elim v h fun i _=>f i
@[elab_as_elim] theorem Lv{f:Int->Bool}{P:Value->Prop}(h:MW v f=true)(k:∀i t,f i=true->P (.int i t)):P v:=
 if q:v.ctorIdx=4 then Value.int.elim (motive:=fun v=>MW v f=true->P v) v q k h else Bb ((AA q).symm.trans h)
noncomputable def M0(v:Value)(f:Str->Bool):Bool:=BO v.ctorIdx 6 fun h=>Value.str.elim v h fun s _=>f s
@[elab_as_elim] theorem S5{f:Str->Bool}{P:Value->Prop}(h:M0 v f=true)(k:∀s t,f s=true->P (.str s t)):P v:=
 if q:v.ctorIdx=6 then Value.str.elim (motive:=fun v=>M0 v f=true->P v) v q k h else Bb ((AA q).symm.trans h)
noncomputable def RC(o:Option (Option Value))(f:Value->Bool):Bool:=CI o fun x=>CI x f
@[elab_as_elim] theorem J6{f:Value->Bool}{P:Option (Option Value)->Prop}(h:RC o f=true)(k:∀v,f v=true->P (some (some v))):P o:=
 BQ h fun x h=>BQ (P:=fun x=>P (some x)) h k
section
variable[deq:DecidableEq Str]
noncomputable def PX(v:Value)(n:Str):Bool:=M0 v fun s=>s==n
noncomputable def Im(K:Frag)(ns:Addr)(n:Str):Option (Option Value):=match K.lookup ns with
 |some o=>if h:o.data.ctorIdx=3 then Data.dict.elim o.data h fun es _=>(match es.toList.find? (fun e=>PX e.key n) with
   |some e=>some (some e.val)
   |none=>bif es.toList.any (·.refKey)then none else some none)else none
 |none=>none
noncomputable def ZA(v:Value):Option Addr:=if h:v.ctorIdx=10 then Value.ref.elim v h some else none
noncomputable def DN(K:Frag)(n:Str):Option Addr:=(Im K mainGlobals n).bind fun x=>x.bind ZA
noncomputable def Sy(K:Frag)(f:Nat):Addr:=(DN K (nm f)).getD 0
noncomputable def PT:List V->List Value->Bool
 |[],r=>BM r true
 |v :: l,r=>BL r fun w r=>CI (Cy v) fun i=>MW w fun j=>i==j&&PT l r
noncomputable def ZS(K:Frag)(v:V)(w:Value):Bool:=match v with
 |.int i=>MW w fun j=>i==j
 |.str l=>M0 w fun s=>s==sx l&&(decide (l.length<=lim)&&l.all (fun c=>decide (c<128)))
 |.tup l=>J7 w fun a=>Lw K a fun c d _=>c==.type "tuple"&&Vt d fun vs=>PT l vs.toList&&decide (l.length<=lim)
 |_=>false
noncomputable def Uv(K:Frag)(a:Addr)(ps:List Nat)(body:MS):Bool:=Lw K a fun _ d _=>MV d fun fd=>NX fd ps&&(codeIn K fd.code fd.qualname&&MZ fd.body (Ih fd.scope.names body))
noncomputable def Mu(K:Frag):Bool:=Rl.all fun x=>RC (Im K mainGlobals (nm x.1)) (ZS K x.2)
noncomputable def M5(K:Frag)(a:Addr)(F:rc):Bool:=match F with
 |.fn ps body=>Uv K a ps body
 |.cls c ps body=>decide (c<3)&&((Im K mainGlobals (sx (T8 c))==some (some (.ref a)))&&(makesIn K a&&RC (findIn K (.ref a) "__init__") fun v=>J7 v fun fI=>(typeIn K (.ref fI)==some (.type "function"))&&Uv K fI ps body))
noncomputable def B6(K:Frag)(l:List (Nat×rc)):Bool:=l.all fun x=>CI (DN K (nm x.1)) fun a=>keepIn K (.ref a)&&M5 K a x.2
noncomputable def IG(K:Frag):Bool:=B6 K BR
noncomputable def Pm(K:Frag):Bool:=[0,1,2,3,4].all fun i=>(Im K mainGlobals (Str.ofString (HQ i))==some none)&&(Im K builtinsNs (Str.ofString (HQ i))==some (some (Jk i)))
noncomputable def Pw(K:Frag)(C:Addr):Bool:=(findIn K (.ref C) "__setattr__"==some (some (.builtin "object.__setattr__")))&&(plainOver K C&&(hasDictIn K C&&EJ.all fun a=>(takerIn K C (nm a)==some none)&&(plainGet K C (nm a)&&(findIn K (.ref C) (nm a)==some none))))
noncomputable def Pv(K:Frag):Bool:=[0,1,2].all fun c=>CI (DN K (sx (T8 c))) (Pw K)
noncomputable def Oa(K:Frag)(C:Addr)(f:List Value->Bool):Bool:=Lw K C fun c d sl=>(c==.type "type")&&P5 d fun cd=>cd.hasDict&&(!cd.abstract&&(!cd.hasDel&&BL cd.mro fun r bm=>(r==.ref C)&&
 BL sl.toList fun _ l=>BL l fun _ l=>BL l fun _ l=>BL l fun _ l=>BL l fun x l=>CI x fun x=>(x==.builtin "Exception.__new__")&&pA l fun _=>f bm))
noncomputable def Uq(K:Frag)(c:Nat)(C:Addr)(bm:List Value):Bool:=bm.contains (.type "Exception")&&(bm.contains (.type "BaseException")&&(!bm.contains (.type "AttributeError")&&(!bm.contains (.type "NameError")&&
   ((specialIn K (.ref C) "__call__"==some (some (.builtin "type.__call__")))&&((instIn K (.ref C) (.type "type")==some true)&&((typeIn K (.ref C)==some (.type "type"))&&
   ((findIn K (.ref C) "__setattr__"==some (some (.builtin "object.__setattr__")))&&((findIn K (.ref C) "text"==some none)&&(CZ bm&&
   (([1,2,3].all fun d=>CI (DN K (Str.ofString (EL d))) fun D=>(Value.ref C :: bm).contains (.ref D)==DW c d)&&
   RC (findIn K (.ref C) "__init__") fun v=>J7 v fun fI=>(typeIn K (.ref fI)==some (.type "function"))&&Lw K fI fun _ d _=>MV d fun fd=>Q2 fd&&codeIn K fd.code fd.qualname))))))))))
noncomputable def Mo(K:Frag):Bool:=[1,2,3].all fun c=>CI (DN K (Str.ofString (EL c))) fun C=>Oa K C (Uq K c C)
noncomputable def Fm(K:Frag):Bool:=Mu K&&(IG K&&(Pm K&&(Pv K&&(Mo K&&((Im K mainGlobals "Exception"==some none)&&(Im K builtinsNs "Exception"==some (some (.type "Exception"))))))))
noncomputable def M8(K:Frag):Bool:=Mu K&&(Pm K&&(Pv K&&(Mo K&&((Im K mainGlobals "Exception"==some none)&&(Im K builtinsNs "Exception"==some (some (.type "Exception")))))))
theorem O7(h:a=true)(k:b=true):(a&&b)=true:=by rw[h];exact k
theorem Ts{K:Frag}(g:M8 K=true)(p:IG K=true):Fm K=true:=O7 (Al g) (O7 p (Aa g))
theorem D0{K:Frag}{l:List (Nat×rc)}(i:Nat)(a:B6 K (l.take i)=true)(b:B6 K (l.drop i)=true):B6 K l=true:=by
 have e:B6 K (l.take i++l.drop i)=true:=(List.all_append ..).trans (O7 a b)
 rw[jC]at e
 exact e
theorem Qg{K:Frag}(i:Nat)(a:B6 K (BR.take i)=true)(b:B6 K (BR.drop i)=true):IG K=true:=D0 i a b
end
section
variable{K:Frag}{h:Heap}
theorem SM(v:Value)(n:Str):PX v n=v.isStr n:=by induction v<;>rfl
theorem DO(ns:Addr)(n:Str):Im K ns n=nsIn K ns n:=by
 unfold Im nsIn
 refine(show(fun e:DictEntry=>PX e.key n)=fun e=>e.key.isStr n from funext fun e=>SM _ _).symm▸?_
 cases K.lookup ns with
 |none=>rfl
 |some o=>
  obtain⟨c,d,dt,sl⟩:=o
  induction dt with
  |dict es n'=>
   show(match es.toList.find? (fun e=>e.key.isStr n)with|some e=>some (some e.val)|none=>bif es.toList.any (·.refKey)then none else some none)=(match es.toList.find? (fun e=>e.key.isStr n)with|some e=>some (some e.val)|none=>if es.toList.any (·.refKey)then none else some none)
   cases es.toList.find? (fun e=>e.key.isStr n) with
   |some e=>rfl
   |none=>cases es.toList.any (·.refKey)<;>rfl
  |_=>rfl
theorem Ga{m:Str->Option Value}(X:K.In h)(N:h.Ns a m)(e:nsIn K a n=some r):m n=r:=by
 obtain⟨o,es,ep,g,d,_,f⟩:=N
 rw[<- f n]
 unfold nsFind findBy
 rw[<- Array.find?_toList]
 unfold nsIn at e
 cases q:K.lookup a with
 |none=>rw[q]at e;exact nomatch e
 |some o'=>
  rw[q]at e
  obtain rfl:=Option.some.inj ((X _ _ q).symm.trans g)
  obtain⟨c,dd,dt,sl⟩:=o'
  obtain rfl:dt=_:=d
  replace e:(match es.toList.find? (fun e=>e.key.isStr n)with|some e=>some (some e.val)|none=>if es.toList.any (·.refKey)then none else some none)=some r:=e
  clear f q g
  cases z:es.toList.find? (fun e=>e.key.isStr n) with
  |some e'=>rw[z]at e;exact Option.some.inj e
  |none=>
   rw[z]at e
   dsimp only at e
   cases y:es.toList.any (·.refKey) with
   |true=>rw[y]at e;exact nomatch e
   |false=>rw[y]at e;exact Option.some.inj e
theorem TG(e:ZA v=some a):v=.ref a:=by
 induction v<;>first|exact congrArg Value.ref (Option.some.inj e)|exact nomatch e
theorem JH(e:DN K n=some a):nsIn K mainGlobals n=some (some (.ref a)):=by
 obtain⟨x,hx,e⟩:=Option.bind_eq_some_iff.mp e
 obtain⟨v,rfl,e⟩:=Option.bind_eq_some_iff.mp e
 rw[TG e,DO]at hx
 exact hx
theorem JI(e:nsIn K mainGlobals n=some (some (.ref a))):DN K n=some a:=by
 unfold DN;rw[DO,e];rfl
theorem PW{l:List V}:∀{r:List Value},PT l r=true->l.length=r.length/\∀(i:Nat) (v:V) (w:Value),l[i]?=some v->r[i]?=some w->Aw h lg v w:=by
 induction l with
 |nil=>exact fun e=>AP e fun _=>⟨rfl,fun i v w a=>Ao a⟩
 |cons x l ih=>
  intro r e
  refine A1 (l:=r) e fun y r e'=>?_
  cases q:Cy x with
  |none=>rw[q]at e';exact Bb e'
  |some i=>
   rw[q]at e'
   obtain rfl:=Fb q
   refine Lv e' fun j t e=>?_
   obtain rfl:i=j:=gN (Al e)
   refine⟨congrArg Nat.succ (ih (Aa e)).1,fun n v w a b=>?_⟩
   cases n with
   |zero=>obtain rfl:=Option.some.inj a;obtain rfl:=Option.some.inj b;exact .int _ _
   |succ n=>exact(ih (Aa e)).2 n v w a b
theorem SQ(X:K.In h)(e:ZS K v w=true)(lg:Lg):Aw h lg v w:=by
 cases v with
 |int i=>exact Lv e fun j t e=>EX e (.int _ _)
 |str l=>exact S5 e fun s t e=>ZK (gN (Al e)).symm (.str _ _ ⟨gH (Al (Aa e)),fun c hc=>gH (List.all_eq_true.mp (Aa (Aa e)) c hc)⟩)
 |tup l=>
  refine GN e fun a e=>GM e fun c dd d sl hl e=>?_
  obtain rfl:c=.type "tuple":=gN (Al e)
  replace e:=Aa e
  revert hl
  refine Vu e fun vs n e hl=>?_
  obtain⟨k1,k2⟩:=PW (h:=h) (lg:=lg) (Al e)
  exact .tup _ a _ vs n ⟨⟨by simp,by simp,by simp⟩,.inr (X _ _ hl)⟩ rfl rfl (by simpa using k1) (gH (Aa e)) fun i v w a b=>k2 i v w a (by simpa using b)
 |_=>exact Bb e
theorem Oe(e:Uv K a ps body=true):R3 K a ps body:=by
 refine GM e fun c dd d sl hl e=>?_
 revert hl
 exact Lu e fun fd e hl=>J9 (Aa (Aa e)) fun b hb e'=>⟨c,dd,sl,fd,b,hl,Al e,hb,Al (Aa e),e'⟩
theorem JS{β:Type}{l:List (Nat×β)}{p:Nat×β->Bool}(h:l.all p=true){x:Nat}{v:β}(e:l.lookup x=some v):p (x,v)=true:=by
 induction l with
 |nil=>exact Ao e
 |cons y r ih=>
  have h:=BW h
  rw[hU]at e
  cases q:x==y.1 with
  |true=>replace e:=q▸e;obtain rfl:=Option.some.inj e;refine(gN q).symm▸?_;exact h.1
  |false=>rw[q]at e;exact ih h.2 e
structure LQ(K:Frag)(c:Nat)(C:Addr)(bm:List Value)(fI:Addr):Prop where
 hasB:bm.contains (.type "Exception")=true
 hasBase:bm.contains (.type "BaseException")=true
 noAttr:bm.contains (.type "AttributeError")=false
 noName:bm.contains (.type "NameError")=false
 call:specialIn K (.ref C) "__call__"=some (some (.builtin "type.__call__"))
 typ:instIn K (.ref C) (.type "type")=some true
 tt:typeIn K (.ref C)=some (.type "type")
 set:findIn K (.ref C) "__setattr__"=some (some (.builtin "object.__setattr__"))
 free:findIn K (.ref C) "text"=some none
 over:CZ bm=true
 sub:∀d D,1<=d->d<=3->DN K (Str.ofString (EL d))=some D->(Value.ref C :: bm).contains (.ref D)=DW c d
 init:findIn K (.ref C) "__init__"=some (some (.ref fI))
 fn:typeIn K (.ref fI)=some (.type "function")
 u3:O5 K fI
theorem Ob{f:List Value->Bool}{P:Prop}(e:Oa K C f=true)
  (k:∀bm,O2 K C bm->f bm=true->P):P:=by
 refine GM e fun c dd d sl hl e=>?_
 obtain rfl:c=.type "type":=gN (Al e)
 replace e:=Aa e
 revert hl
 refine SY e fun cd e hl=>?_
 obtain⟨a,b,mro,d,f,hd,i,j,ab,n,de⟩:=cd
 obtain rfl:hd=true:=Al e
 obtain rfl:ab=false:=CH (Al (Aa e))
 obtain rfl:de=false:=CH (Al (Aa (Aa e)))
 replace e:=Aa (Aa (Aa e))
 revert hl
 refine A1 (l:=mro) e fun r bm e hl=>?_
 obtain rfl:r=.ref C:=gN (Al e)
 replace e:=Aa e
 obtain⟨sl⟩:=sl
 revert hl
 refine A1 (l:=sl) e fun k0 l e=>A1 e fun k1 l e=>A1 e fun k2 l e=>A1 e fun k3 l e=>A1 e fun x l e=>BQ e fun x e=>?_
 obtain rfl:x=.builtin "Exception.__new__":=gN (Al e)
 exact B5 (Aa e) fun k5 e hl=>k bm ⟨_,_,_,_,_,_,_,_,k0,k1,k2,k3,k5,hl⟩ e
theorem LQ.mk'(A:LQ K c C bm fI)(o:O2 K C bm):HK K C fI bm/\(∃cd,clsIn K C=some cd/\CZ cd.mro=true)/\TA K C bm:=by
 refine⟨⟨o,A.hasB,A.hasBase,A.noAttr,A.noName,A.init,A.fn,A.call,A.typ,A.tt,A.set,A.free⟩,?_⟩
 obtain⟨nm,q,N,bs,sn,sub,col,dd,k0,k1,k2,k3,k5,hC⟩:=o
 exact⟨⟨_,by unfold clsIn;rw[hC],A.over⟩,nm,q,N,bs,true,sn,sub,false,col,dd,k0,k1,k2,k3,k5,_,hC,A.hasBase⟩
theorem IT{α:Type}[DecidableEq α]{l:List α}{p:α->Bool}(h:l.all p=true)(x:α)(hx:(l.contains x)=true):p x=true:=List.all_eq_true.mp h x (List.contains_iff_mem.mp hx)
theorem Ko(h1:1<=c)(h2:c<=3):[1,2,3].contains c=true:=by
 obtain rfl|rfl|rfl:c=1\/c=2\/c=3:=by lia
 all_goals rfl
theorem aO(h:c<3):[0,1,2].contains c=true:=by
 obtain rfl|rfl|rfl:c=0\/c=1\/c=2:=by lia
 all_goals rfl
theorem aq(h:c<5):[0,1,2,3,4].contains c=true:=by
 obtain rfl|rfl|rfl|rfl|rfl:c=0\/c=1\/c=2\/c=3\/c=4:=by lia
 all_goals rfl
theorem Mh(e:Pv K=true)(hC:Cf K c C)(hc:c<3):Pw K C=true:=by
 have:=IT e c (aO hc)
 rw[JI hC]at this
 exact this
theorem aV(e:Mo K=true)(h1:1<=c)(h2:c<=3):∃C,DN K (Str.ofString (EL c))=some C:=by
 have:=IT e c (Ko h1 h2)
 generalize DN K (Str.ofString (EL c))=o at this
 exact BQ this fun C _=>⟨C,rfl⟩
theorem PI(e:Uq K c C bm=true):∃fI,LQ K c C bm fI:=by
 have a1:=Al e
 replace e:=Aa e
 have a2:=Al e
 replace e:=Aa e
 have a3:=CH (Al e)
 replace e:=Aa e
 have a4:=CH (Al e)
 replace e:=Aa e
 have a5:=gN (Al e)
 replace e:=Aa e
 have a6:=gN (Al e)
 replace e:=Aa e
 have a7:=gN (Al e)
 replace e:=Aa e
 have a8:=gN (Al e)
 replace e:=Aa e
 have a9:=gN (Al e)
 replace e:=Aa e
 have a10:=Al e
 replace e:=Aa e
 have a11:=Al e
 replace e:=Aa e
 have a12:∀d D,1<=d->d<=3->DN K (Str.ofString (EL d))=some D->(Value.ref C :: bm).contains (.ref D)=DW c d:=fun d D d1 d2 hD=>by
  have:=IT a11 d (Ko d1 d2)
  rw[hD]at this
  exact gN this
 clear a11
 generalize hi:findIn K (.ref C) "__init__"=o at e
 revert hi
 refine J6 e fun v e=>GN e fun fI e hi=>?_
 have b1:=gN (Al e)
 refine GM (Aa e) fun oc od d sl hl e=>?_
 revert hl
 exact Lu e fun fd e hl=>⟨fI,a1,a2,a3,a4,a5,a6,a7,a8,a9,a10,a12,hi,b1,⟨oc,od,sl,fd,hl,Al e,Aa e⟩⟩
theorem Rf(e:Mo K=true)(h1:1<=c)(h2:c<=3)(hC:E8 K c C):∃fI bm,HK K C fI bm/\(∃cd,clsIn K C=some cd/\CZ cd.mro=true)/\TA K C bm/\LQ K c C bm fI:=by
 have:=IT e c (Ko h1 h2)
 rw[JI hC]at this
 refine Ob this fun bm o e=>?_
 obtain⟨fI,A⟩:=PI e
 exact⟨fI,bm,(A.mk' o).1,(A.mk' o).2.1,(A.mk' o).2.2,A⟩
theorem IH(e:IG K=true)(hf:prog f=some F):DN K (nm f)=some (Sy K f)/\keepIn K (.ref (Sy K f))=true/\M5 K (Sy K f) F=true:=by
 have:=JS e hf
 unfold Sy
 generalize DN K (nm f)=o at this
 exact BQ this fun a h=>⟨rfl,Al h,Aa h⟩
theorem Xy(X:K.In h){mg:Str->Option Value}(ng:h.Ns mainGlobals mg)(e:Mu K=true)(hv:lY x=some v):∃w,mg (nm x)=some w/\∀lg,Aw h lg v w:=by
 have:=JS e hv
 generalize q:Im K mainGlobals (nm x)=o at this
 revert q
 exact J6 this fun w h q=>⟨w,Ga X ng ((DO _ _).symm.trans q),fun lg=>SQ X h lg⟩
theorem ao(X:K.In h){mg mb:Str->Option Value}(ng:h.Ns mainGlobals mg)(nb:h.Ns builtinsNs mb)(e:Pm K=true)(hi:i<5):mg (Str.ofString (HQ i))=none/\mb (Str.ofString (HQ i))=some (Jk i):=by
 have:=IT e i (aq hi)
 exact⟨Ga X ng ((DO _ _).symm.trans (gN (Al this))),Ga X nb ((DO _ _).symm.trans (gN (Aa this)))⟩
theorem N1(e:Pw K C=true)(a:Nat)(ha:a∈EJ):takerIn K C (nm a)=some none/\plainGet K C (nm a)=true/\findIn K (.ref C) (nm a)=some none:=by
 have:=List.all_eq_true.mp (Aa (Aa (Aa e))) a ha
 exact⟨gN (Al this),Al (Aa this),gN (Aa (Aa this))⟩
theorem Xr(q:M5 K a (.cls c ps body)=true):c<3/\Cf K c a/\makesIn K a=true/\∃fI,findIn K (.ref a) "__init__"=some (some (.ref fI))/\typeIn K (.ref fI)=some (.type "function")/\R3 K fI ps body:=by
 refine⟨gH (Al q),(DO _ _).symm.trans (gN (Al (Aa q))),Al (Aa (Aa q)),?_⟩
 replace q:=Aa (Aa (Aa q))
 generalize findIn K (.ref a) "__init__"=o at q
 exact J6 q fun v q=>GN q fun fI q=>⟨fI,rfl,gN (Al q),Oe (Aa q)⟩
theorem ci(X:K.In h)(qi:h.NoLimit){mg mb:Str->Option Value}(ng:h.Ns mainGlobals mg)(nb:h.Ns builtinsNs mb)(e:Fm K=true):sF h K (Sy K):=by
 have e1:=Al e
 replace e:=Aa e
 have e2:=Al e
 replace e:=Aa e
 have e3:=Al e
 replace e:=Aa e
 have e4:=Al e
 replace e:=Aa e
 have e5:=Al e
 replace e:=Aa e
 refine⟨⟨X,qi,⟨fun c C h1 h2=>⟨gN (Al (Mh e4 h1 h2)),Al (Aa (Mh e4 h1 h2)),Al (Aa (Aa (Mh e4 h1 h2)))⟩,fun c C h1 h2=>N1 (Mh e4 h1 h2)⟩,mg,mb,ng,nb,fun x v hv=>Xy X ng e1 hv,fun f hf=>?_,fun i hi=>ao X ng nb e3 hi,fun c h1 h2=>?_⟩,⟨fun c C h1 h2 hC=>?_⟩,
  ⟨fun c C h1 h2 hC=>?_,mg,mb,ng,nb,Ga X ng ((DO _ _).symm.trans (gN (Al e))),Ga X nb ((DO _ _).symm.trans (gN (Aa e)))⟩,⟨fun f ps body hf=>Oe (IH e2 hf).2.2,fun f c ps body hf=>Xr (IH e2 hf).2.2⟩⟩
 ·obtain⟨F,hp⟩:=Option.isSome_iff_exists.mp hf
  exact⟨Ga X ng (JH (IH e2 hp).1),(IH e2 hp).2.1⟩
 ·obtain⟨C,hC⟩:=aV e5 h1 h2
  exact⟨C,JH hC,Ga X ng (JH hC)⟩
 ·obtain⟨fI,bm,_,_,k3,k4⟩:=Rf e5 h1 h2 hC
  exact⟨bm,k3,fun d D d1 d2 hD=>k4.sub d D d1 d2 (JI hD)⟩
 ·obtain⟨fI,bm,k1,k2,_,k4⟩:=Rf e5 h1 h2 hC
  exact⟨fI,bm,k1,k2,k4.u3⟩
end
noncomputable def GY(ok:Thread->Bool)(stp:SharedT->Thread->Option (SharedT×Thread)):Nat->SharedT->Thread->Option SharedT
 |0,_,_=>none
 |n+1,s,t=>match through t with
  |true=>some s
  |false=>match ok t with
   |false=>none
   |true=>match stp s t with
    |some (s',t')=>GY ok stp n s' t'
    |none=>none
theorem Tt{tb:String->Option Builtin}{p:Program}{w:World}{n₀:Nat}{ann:Option Value}{n:Nat}{s s':SharedT}{t:Thread}(h:GY (stepOk n₀ ann) (stepT (denote tb) p w) n s t=some s'):topRun tb p w n₀ ann n s.abs t=some s'.abs:=by
 induction n generalizing s t with
 |zero=>exact Ao h
 |succ n ih=>
  unfold GY at h
  unfold topRun
  cases ht:through t with
  |true=>replace h:=ht▸h;obtain rfl:=Option.some.inj h;rfl
  |false=>
   replace h:=ht▸h
   cases hk:stepOk n₀ ann t with
   |false=>replace h:=hk▸h;exact Ao h
   |true=>
    replace h:=hk▸h
    cases hs:stepT (denote tb) p w s t with
    |none=>replace h:=hs▸h;exact Ao h
    |some r=>obtain⟨s₂,t₂⟩:=r;rw[hs]at h;refine(stepT_spec hs).symm▸?_;exact ih h
noncomputable def Jl(P:Params):BT:=
 .node (boot_o_0 P) (.node (boot_o_1 P) (.node (boot_o_3 P) (.node (boot_o_7 P) .nil .nil) .nil) (.node (boot_o_5 P) (.node (boot_o_9 P) .nil .nil) .nil))
  (.node (boot_o_2 P) (.node (boot_o_4 P) (.node (boot_o_8 P) .nil .nil) .nil) (.node (boot_o_6 P) (.node (boot_o_10 P) .nil .nil) .nil))
theorem KK(P:Params):absHeap (Jl P) 11 (boot_heap P).life=boot_heap P:=by kernel_rfl
noncomputable def TO(w:World)(os:OsState):SharedT:=⟨Jl w.params,11,(boot_heap w.params).life,#[],boot_drawn,boot_toks,os⟩
noncomputable def Gv(w:World):Option Value:=(boot_heap w.params).nsMap mainGlobals "__annotations__"
noncomputable abbrev pw:=PySem.Challenge.pw_pf0107_01
noncomputable def KX:List Nat:=[0,3,27,28,30,31,47,48,50,51,66,67,69,70,81,82,93,94,105,106,114,115,121,122,128,129,135,136,142,143,149,150,156,157,163,164,170,171,177,178,184,185,191,192,198,199,205,206,212,213,219,220,226,227,233,234,235,236,249,250,252,253,263,264,270,271,277,278,284,285,291,292,298,299,305,306,312,313,319,320,326,327,333,334,340,341,347,348,354,355,368,369,371,372,382,383,389,390,396,397,403,404,410,411,417,418,424,425,431,432,438,439,445,446,452,453,459,460,466,467,473,474,480,481,487,488,494,495,501,502,508,509,515,516,522,523,529,530,536,537,543,544,550,551,557,558,564,565,571,572,578,579,585,586,592,593,599,600,606,607,613,614,620,621,627,628,634,635,641,642,648,649,655,656,662,663,669,670,676,677,683,684,690,691,697,698,704,705,711,712,718,719,725,726,732,733,739,740,746,747,753,754,760,761,767,768,774,775,781,782,788,789,795,796,802,803,809,810,816,817,823,824,830,831,837,838,844,845,851,852,858,859,865,866,872,873,879,880,886,887,893,894,900,901,907,908,914,915,921,922,928,929,935,936,942,943,949,950,956,957,963,964,970,971,977,978,991,992,994,995,1005,1006,1012,1013,1017,1018,1024,1025,1031,1032,1036,1037,1041,1042,1048,1049,1053,1054]
noncomputable def o7(g:Nat->Option Obj):Frag:=KX.filterMap fun a=>(g a).map (a,·)
noncomputable def vw:Program:=view pw [191]
noncomputable def sr:List Str:=pw.boundNames.filter fun n=>!(n==("law":Str))
noncomputable def Ti(w:World)(os:OsState):Option SharedT:=GY (Fast.tw6613529449190102663 11 (Gv w)) (Fast.tw10156331382660048174 (Fast.tw11892475500146522536 Fast.tw14364793385576792824) pw w) 8000 (TO w os) (topStub pw)
noncomputable def gT(s:SharedT)(a:Addr):Option Obj:=@Bool.rec (fun _=>Option Obj) none ((s.tree.get a).bind alive) (Nat.blt a s.n)
theorem d9{s:SharedT}{a:Addr}{o:Obj}(h:gT s a=some o):s.abs.heap.get? a=some o:=by
 unfold gT at h
 cases q:Nat.blt a s.n with
 |false=>rw[q]at h;exact Ao h
 |true=>
  rw[q]at h
  obtain⟨x,h1,h2⟩:=Option.bind_eq_some_iff.mp h
  exact(abs_get (Nat.blt_eq.mp q) h1).trans h2
theorem bd{s:SharedT}(h:KX.all (fun a=>(gT s a).isSome)=true):o7 (gT s)=o7 s.abs.heap.get?:=by
 unfold o7
 generalize KX=l at h
 induction l with
 |nil=>rfl
 |cons a l ih=>
  obtain⟨o,e⟩:=Option.isSome_iff_exists.mp (Al h)
  rw[iT,iT,e,d9 e,ih (Aa h)]
noncomputable def qU(l ks:List Str):Bool:=match l with
 |[]=>ks.isEmpty
 |b :: l=>match ks with
  |[]=>true
  |k :: ks=>cond (Fast.sEq b k) (qU l ks) (qU l (k :: ks))
theorem XC{l ks:List Str}(h:qU l ks=true):∀k∈ks,k∈l:=by
 induction l generalizing ks with
 |nil=>cases ks with
  |nil=>exact nofun
  |cons k ks=>cases h
 |cons b l ih=>
  cases ks with
  |nil=>exact nofun
  |cons k ks=>
   cases e:Fast.sEq b k with
   |true=>
    have h:cond (Fast.sEq b k) (qU l ks) (qU l (k :: ks))=true:=h
    rw[e]at h
    exact List.forall_mem_cons.mpr ⟨Fast.sEq_iff.mp e▸gK,fun x hx=>gA _ (ih h x hx)⟩
   |false=>
    have h:cond (Fast.sEq b k) (qU l ks) (qU l (k :: ks))=true:=h
    rw[e]at h
    exact fun x hx=>gA _ (ih h x hx)
noncomputable def Rx(h:Heap):Bool:=h.isNs mainGlobals&&qU (startupNames++pw.boundNames) (h.nsKeys mainGlobals)
theorem Vd{h:Heap}(e:Rx h=true):namesBound pw h=true:=
 O7 (Al e) (List.all_eq_true.mpr fun k hk=>(List.mem_append.mp (XC (Aa e) k hk)).elim (fun z=>by rw[List.contains_iff_mem.mpr z];rfl) (fun z=>by rw[List.contains_iff_mem.mpr z,js]))
theorem fP{a b c d e:Bool}(k:b=true->e=true)(h:(a&&b&&c&&d)=true):(a&&e&&c&&d)=true:=O7 (O7 (O7 (Al (Al (Al h))) (k (Aa (Al (Al h))))) (Aa (Al h))) (Aa h)
theorem eL(w:World)(os:OsState):(Ti w os).map (fun s=>(staticsOk [] (boot_heap w.params) s.abs.heap&&Rx s.abs.heap&&gensDone s.abs&&laidKept (boot_heap w.params) s.abs.heap)&&(KX.all (fun a=>(gT s a).isSome)&&B6 (deq:=Fast.sDec) (o7 (gT s)) (BR.take 50)))=some true:=by kernel_rfl
theorem eM(w:World)(os:OsState):(Ti w os).map (fun s=>Fast.tw4187177175401517315 vw sr [] (fun _=>true) true s.abs)=some (openGood vw sr):=by kernel_rfl
theorem eN(w:World)(os:OsState):(Ti w os).map (fun s=>M8 (deq:=Fast.sDec) (o7 (gT s))&&B6 (deq:=Fast.sDec) (o7 (gT s)) ((BR.drop 50).take 36))=some true:=by kernel_rfl
theorem eO(w:World)(os:OsState):(Ti w os).map (fun s=>B6 (deq:=Fast.sDec) (o7 (gT s)) (((BR.drop 50).drop 36).take 21))=some true:=by kernel_rfl
theorem eP(w:World)(os:OsState):(Ti w os).map (fun s=>B6 (deq:=Fast.sDec) (o7 (gT s)) (((BR.drop 50).drop 36).drop 21))=some true:=by kernel_rfl
theorem QG{tb:String->Option Builtin}{p:Program}{w:World}{N n₀:Nat}{ann:Option Value}{s₀ s₁:Shared}(h1:(s₀.heap.isNs mainGlobals&&s₀.gens.size==0)=true)(h2:s₀.heap.objs.size=n₀)(h3:s₀.heap.nsMap mainGlobals "__annotations__"=ann)
  (r:topRun tb p w n₀ ann N s₀ (topStub p)=some s₁) {ms:List Str} (hm:importedModules p.main.body=ms) (l:(staticsOk ms s₀.heap s₁.heap&&namesBound p s₁.heap&&gensDone s₁&&laidKept s₀.heap s₁.heap)=true):topFrom tb p w N s₀=some s₁:=by
 subst h2 h3 hm
 unfold topFrom
 rw[h1]
 dsimp only
 rw[r,kT,l]
theorem XQ{p q:Program}{loose ms:List Str}{Xt:Shared->Bool}{α:Type}{Yf:Shared->α}{Ya:World->α}{N:Nat}{g0:Bool}{H₀:Params->Heap}{ul:Array GenState}{d₀:Drawn}{k₀:Nat}
  (tm:∀w:World,(fencedOpening treeTable p w N).map (fun s=>(s.heap,s.gens,s.drawn,s.toks))=some (H₀ w.params,ul,d₀,k₀)) (hm:importedModules p.main.body=ms)
  (run:∀(w:World) (os:OsState),∃s₁,topFrom treeTable p w N ⟨H₀ w.params,ul,d₀,k₀,os⟩=some s₁/\openSeen q loose ms Xt g0 s₁=openGood q loose/\Yf s₁=Ya w):LeftO p q loose Xt Yf Ya N g0:=by
 intro w
 obtain⟨⟨h,gs,d,k,os⟩,e,e'⟩:=Option.map_eq_some_iff.mp (tm w)
 obtain⟨rfl,rfl,rfl,rfl⟩:h=H₀ w.params/\gs=ul/\d=d₀/\k=k₀:=by simpa using e'
 obtain⟨s1,a,b,c⟩:=run w os
 unfold openEnds
 rw[e,kT,a,ki,hm,b,c]
theorem cK{tb:String->Option Builtin}{p:Program}{n₀:Nat}{N:Nat}{ann:World->Option Value}{S0:World->OsState->SharedT}{ok:World->Thread->Bool}{stp:World->SharedT->Thread->Option (SharedT×Thread)}{w:World}{os:OsState}{s1:SharedT}
  (e1:ok w=stepOk n₀ (ann w)) (e2:stp w=stepT (denote tb) p w) (r:GY (ok w) (stp w) N (S0 w os) (topStub p)=some s1):topRun tb p w n₀ (ann w) N (S0 w os).abs (topStub p)=some s1.abs:=Tt (by(refine e1▸?_;refine e2▸?_);exact r)
theorem Qd:opening pw=plainProg pw.main.scope.names:=by kernel_rfl
theorem Oc(s:Shared):fenceModules? pw s=some s:=by kernel_rfl
theorem Op:importedModules pw.main.body=[]:=by kernel_rfl
theorem WH(P:Params):((boot_heap P).isNs mainGlobals&&(#[]:Array GenState).size==0)=true:=by kernel_rfl
theorem Si(P:Params):(boot_heap P).objs.size=11:=by kernel_rfl
theorem Zj(w:World):Fast.tw10156331382660048174 (Fast.tw11892475500146522536 Fast.tw14364793385576792824) pw w=stepT (denote treeTable) pw w:=by
 rw[Fast.te10156331382660048174,Fast.te11892475500146522536,Fast.te14364793385576792824]
theorem eW(w:World):Fast.tw6613529449190102663 11 (Gv w)=stepOk 11 (Gv w):=by rw[Fast.te6613529449190102663]
theorem Sh(w:World)(os:OsState):(TO w os).abs=⟨boot_heap w.params,#[],boot_drawn,boot_toks,os⟩:=by
 show Shared.mk (absHeap (Jl w.params) 11 (boot_heap w.params).life) #[] boot_drawn boot_toks os=_
 rw[KK]
theorem Y0(s:Shared):Fast.tw4187177175401517315 vw sr [] (fun _=>true) true s=openSeen vw sr [] (fun _=>true) true s:=by rw[Fast.te4187177175401517315]
theorem YO{w:World}{os:OsState}{s1:SharedT}(r1:Ti w os=some s1):topRun treeTable pw w 11 (Gv w) 8000 ⟨boot_heap w.params,#[],boot_drawn,boot_toks,os⟩ (topStub pw)=some s1.abs:=
 (Sh w os)▸cK (S0:=TO) (ok:=fun w=>Fast.tw6613529449190102663 11 (Gv w)) (stp:=fun w=>Fast.tw10156331382660048174 (Fast.tw11892475500146522536 Fast.tw14364793385576792824) pw w) (eW w) (Zj w) r1
theorem ce{s:SharedT}{A:Bool}(l1:(A&&(KX.all (fun a=>(gT s a).isSome)&&B6 (deq:=Fast.sDec) (o7 (gT s)) (BR.take 50)))=true)
  (l3:(M8 (deq:=Fast.sDec) (o7 (gT s))&&B6 (deq:=Fast.sDec) (o7 (gT s)) ((BR.drop 50).take 36))=true) (l4:B6 (deq:=Fast.sDec) (o7 (gT s)) (((BR.drop 50).drop 36).take 21)=true) (l5:B6 (deq:=Fast.sDec) (o7 (gT s)) (((BR.drop 50).drop 36).drop 21)=true):A=true/\Fm (deq:=Fast.sDec) (o7 s.abs.heap.get?)=true:=by
 refine⟨Al l1,?_⟩
 rw[<- bd (Al (Aa l1))]
 exact Ts (deq:=Fast.sDec) (Al l3) (Qg (deq:=Fast.sDec) 50 (Aa (Aa l1)) (D0 (deq:=Fast.sDec) 36 (Aa l3) (D0 (deq:=Fast.sDec) 21 l4 l5)))
theorem left:LeftO pw vw sr (fun _=>true) (fun s=>Fm (deq:=Fast.sDec) (o7 s.heap.get?)) (fun _=>true) 8000 true:=by
 refine XQ (boot_open (p:=pw) (N:=8000) Qd (by decide) Oc) Op fun w os=>?_
 obtain⟨s1,r1,l1⟩:=Option.map_eq_some_iff.mp (eL w os)
 have l2:=eM w os
 have l3:=eN w os
 have l4:=eO w os
 have l5:=eP w os
 rw[r1]at l2 l3 l4 l5
 have l2:=Option.some.inj l2
 have c:=ce l1 (Option.some.inj l3) (Option.some.inj l4) (Option.some.inj l5)
 exact⟨s1.abs,QG (WH w.params) (Si w.params) rfl (YO r1) Op (fP Vd c.1),(Y0 _).symm.trans l2,c.2⟩
open PySem PySem.W
noncomputable def tb(x:Int)(k:Nat):Bool:=match x with
 |.ofNat n=>n.testBit k
 |.negSucc n=>!n.testBit k
theorem X8(n:Nat):Builtin.bitNot (n:Int)=Int.negSucc n:=by unfold Builtin.bitNot;rw[Int.negSucc_eq];exact hZ (ow (mo _) (.sub (.neg mh) (.num 1)) (.neg (mm 0 1)) rfl) (ow (mo _) (.neg (mm 0 1)) (.sub (.neg mh) (.num 1)) rfl)
theorem GJ(n:Nat):Builtin.bitNot (Int.negSucc n)=(n:Int):=by unfold Builtin.bitNot;rw[Int.negSucc_eq];exact hZ (ow (mo _) (.sub (.neg (.neg (mm 0 1))) (.num 1)) mh rfl) (ow (mo _) mh (.sub (.neg (.neg (mm 0 1))) (.num 1)) rfl)
theorem Gj(x:Int)(k:Nat):tb (Builtin.bitNot x) k=!tb x k:=by
 induction x with
 |ofNat n=>rw[show Int.ofNat n=(n:Int)from rfl,X8];rfl
 |negSucc n=>rw[GJ];simp[tb]
theorem LM(h:c<=a)(p:c % 2<=a % 2):a - c=2*(a / 2 - c / 2)+(a % 2 - c % 2):=by
 obtain⟨t,ht⟩:=ly (Nat.div_le_div_right (c:=2) h)
 obtain⟨u,hu⟩:=ly p
 refine Nat.sub_eq_of_eq_add' (((Nat.div_add_mod a 2).symm.trans ?_).trans (congrArg (·+ _) (Nat.div_add_mod c 2)))
 rw[ht,hu,j7,j7,Nat.mul_add,Nat.add_add_add_comm]
theorem Vi(a c:Nat):a % 2 - c<2:=gZ (Nat.sub_le ..) (Nat.mod_lt _ (by decide))
theorem UA(h:c<=a)(p:c % 2<=a % 2):(a - c) / 2=a / 2 - c / 2:=by
 rw[LM h p,Nat.mul_add_div (by decide),Nat.div_eq_of_lt (Vi ..)];rfl
theorem Yr(h:c<=a)(p:c % 2<=a % 2):(a - c) % 2=a % 2 - c % 2:=by
 rw[LM h p,kX,Nat.mod_eq_of_lt (Vi ..)]
theorem RU(a m k:Nat):(a - (a&&& m)).testBit k=(a.testBit k&&!m.testBit k):=by
 have e:∀a m:Nat,(a&&& m) % 2=a % 2&&& m % 2:=fun a m=>Nat.and_mod_two_pow (n:=1)
 have p:∀a m:Nat,(a&&& m) % 2<=a % 2:=fun a m=>e a m▸i9
 induction k generalizing a m with
 |zero=>
  rw[i5,i5,i5,Yr i9 (p a m),e]
  rcases jp a with u|u<;>rcases jp m with v|v<;>(refine u.symm▸?_;refine v.symm▸?_)<;>rfl
 |succ k ih=>rw[iL,iL,iL,<- ih,UA i9 (p a m),Nat.and_div_two]
theorem Bv(x y:Int)(k:Nat):tb (Builtin.bitAnd x y) k=(tb x k&&tb y k):=by
 have sb:∀a b:Nat,tb (Int.ofNat a - ((a&&& (Builtin.bitNot (Int.negSucc b)).toNat:Nat):Int)) k=(a.testBit k&&!b.testBit k):=fun a b=>by
  rw[GJ]
  show tb ((a:Int) - ((a&&& b:Nat):Int)) k=_
  refine(Int.ofNat_sub i9)▸?_
  exact RU a b k
 induction x using Int.casesOn with
 |ofNat a=>induction y using Int.casesOn with
  |ofNat b=>exact i8 a b k
  |negSucc b=>exact sb a b
 |negSucc a=>induction y using Int.casesOn with
  |ofNat b=>exact(sb b a).trans (Bool.and_comm ..)
  |negSucc b=>
   show tb (Builtin.bitNot ((Builtin.bitNot (Int.negSucc a)).toNat||| (Builtin.bitNot (Int.negSucc b)).toNat:Nat)) k=_
   rw[Gj,GJ,GJ]
   show(!(a||| b).testBit k)=(!a.testBit k&&!b.testBit k)
   rw[jz,Bool.not_or]
theorem DC(x y:Int)(k:Nat):tb (Builtin.bitOr x y) k=(tb x k||tb y k):=by
 show tb (Builtin.bitNot (Builtin.bitAnd (Builtin.bitNot x) (Builtin.bitNot y))) k=_
 rw[Gj,Bv,Gj,Gj,Bool.not_and,kK,kK]
theorem Gi(h:∀k,tb x k=tb y k):x=y:=by
 have big:∀a b:Nat,∃k,a.testBit k=false/\b.testBit k=false:=fun a b=>by
  refine⟨a+b,iX (g7 kA (iz (by decide) (hJ _ _))),iX (g7 kA (iz (by decide) (ji _ _)))⟩
 have no:∀a b:Nat,(∀k,a.testBit k=!b.testBit k)->False:=fun a b h=>by
  obtain⟨k,e1,e2⟩:=big a b
  have:=h k
  rw[e1,e2]at this
  exact Bool.noConfusion this
 induction x using Int.casesOn with
 |ofNat a=>induction y using Int.casesOn with
  |ofNat b=>exact congrArg Int.ofNat (jG h)
  |negSucc b=>exact(no a b h).elim
 |negSucc a=>induction y using Int.casesOn with
  |ofNat b=>exact(no b a fun k=>(h k).symm).elim
  |negSucc b=>exact congrArg Int.negSucc (jG fun k=>Bool.not_inj (h k))
noncomputable abbrev CG:=Ak lY prog
noncomputable def il(l:List Int):MO:=.list (l.map .int)
noncomputable def ll(l:List Nat):MO:=.list (l.map .lX)
set_option genInjectivity false in
structure l8 where
 ranks:Int
 size:Int
 full:Int
 files:List Int
 rankm:List Int
 king:List Int
 knight:List Int
 pawn0:List Int
 pawn1:List Int
 r0:List Int
 r1:List Int
 r2:List Int
 r3:List Int
 r4:List Int
 r5:List Int
 r6:List Int
 r7:List Int
 e22:MO
 e48:MO
noncomputable def sd:Bool->Int
 |false=>0
 |true=>1
set_option genInjectivity false in
structure St where
 board:List Int
 k0:Int
 k1:Int
 k2:Int
 k3:Int
 k4:Int
 k5:Int
 k6:Int
 s0:Int
 s1:Int
 side:Bool
 half:Int
 full:Int
 key:Int
 hist:List V
noncomputable def Bh(n:Nat)(man:Int):MO:=il ((List.range n).map fun(s:Nat)=>man*64+(s:Int)+1)
noncomputable def B(S:List Int)(k:Int)(n:Nat)(G:l8)(st:St):MH:=[
 il S,.list [.lX 0,.int k],
 ll [3,4,5,6,7,8,9,10,11,12,13,14,15,16,17],
 Bh n 0,Bh n 1,Bh n 2,Bh n 3,Bh n 4,Bh n 5,Bh n 6,Bh n 7,Bh n 8,Bh n 9,Bh n 10,Bh n 11,Bh n 12,Bh n 13,Bh n 14,
 .inst 0 [(45,.int 4),(49,.int G.ranks),(63,.int G.size),(53,.int G.full),(85,.bool false),(79,.bool false),(46,.lX 19),(50,.lX 20),(36,.lX 21),(60,.lX 30),(67,.lX 23),(65,.lX 26),(83,.lX 27),(80,.lX 48)],
 il G.files,il G.rankm,ll [32,34,36,38,40,42,44,46],G.e22,il G.knight,il G.pawn0,il G.pawn1,ll [24,25],.list [.none,.none,.none,.none],il [],
 il [0],il G.king,il [0],il G.r0,il [0],il G.r1,il [0],il G.r2,il [0],il G.r3,il [0],il G.r4,il [0],il G.r5,il [0],il G.r6,il [0],il G.r7,il [0],G.e48,
 il [0],il [0,0,0,0],il [0],il [0,0,0,0,0,0,0,0,0,0,0,0,0,0,0,0],
 .inst 2 [(106,.lX 2),(196,.lX 50),(158,.lX 52),(0,.int 3)],
 .inst 1 [(33,.lX 18),(105,.lX 53),(110,.lX 56),(109,.lX 58),(107,.lX 59),(0,.int (sd st.side)),(158,.int 0),(196,.int (-1)),(241,.int st.half),(53,.int st.full),(104,.int st.key),(244,.lX 60)],
 il [0],il st.board,il [0],il [st.k0,st.k1,st.k2,st.k3,st.k4,st.k5,st.k6],il [st.s0,st.s1],.list st.hist]
@[elab_as_elim] theorem pS{P:Nat->Prop}(h:d<7)(h0:P 0)(h1:P 1)(h2:P 2)(h3:P 3)(h4:P 4)(h5:P 5)(h6:P 6):P d:=by
 induction d using Nat.casesOn with
 |zero=>exact h0
 |succ d=>
  cases d with
  |zero=>exact h1
  |succ d=>
   cases d with
   |zero=>exact h2
   |succ d=>
    cases d with
    |zero=>exact h3
    |succ d=>
     cases d with
     |zero=>exact h4
     |succ d=>
      cases d with
      |zero=>exact h5
      |succ d=>
       induction d with
       |zero=>exact h6
       |succ d=>
        exact absurd h (Nat.not_lt.mpr (ji 7 d))
@[elab_as_elim] theorem vb{P:Nat->Prop}(h:d<8)(h0:P 0)(h1:P 1)(h2:P 2)(h3:P 3)(h4:P 4)(h5:P 5)(h6:P 6)(h7:P 7):P d:=by
 induction d using Nat.casesOn with
 |zero=>exact h0
 |succ d=>
  cases d with
  |zero=>exact h1
  |succ d=>
   cases d with
   |zero=>exact h2
   |succ d=>
    cases d with
    |zero=>exact h3
    |succ d=>
     cases d with
     |zero=>exact h4
     |succ d=>
      cases d with
      |zero=>exact h5
      |succ d=>
       cases d with
       |zero=>exact h6
       |succ d=>
        induction d with
        |zero=>exact h7
        |succ d=>
         exact absurd h (Nat.not_lt.mpr (ji 8 d))
@[elab_as_elim] theorem tc{P:Nat->Prop}(a:2<=d)(b:d<7)(h2:P 2)(h3:P 3)(h4:P 4)(h5:P 5)(h6:P 6):P d:=
 pS (P:=fun d=>2<=d->P d) b (fun a=>absurd a (by decide)) (fun a=>absurd a (by decide)) (fun _=>h2) (fun _=>h3) (fun _=>h4) (fun _=>h5) (fun _=>h6) a
@[elab_as_elim] theorem k36{P:Nat->Prop}(a:3<=d)(b:d<6)(h3:P 3)(h4:P 4)(h5:P 5):P d:=
 tc (P:=fun d=>3<=d->d<6->P d) (iQ a) (g6 b) (fun a=>absurd a (by decide)) (fun _ _=>h3) (fun _ _=>h4) (fun _ _=>h5) (fun _ b=>absurd b (by decide)) a b
theorem Ab{α:Type}{o:Option α}{a:α}{K:α->Prop}(e:o=some a)(k:K a):@Option.rec α (fun _=>Prop) False (fun a=>K a) o:=by subst e;exact k
theorem OU(h:μ[n]?=some (.list xs)):B8 μ (.lX n) (.int i)=OR xs i:=by
 show(match μ[n]? with
  |some o=>(match o with
   |.list xs=>OR xs i
   |.dict kv=>Bn kv i
   |_=>none)
  |none=>none)=_
 (refine h.symm▸?_;rfl)
theorem OT(h:μ[n]?=some (.dict kv)):B8 μ (.lX n) (.int i)=Bn kv i:=by
 show(match μ[n]? with
  |some o=>(match o with
   |.list xs=>OR xs i
   |.dict kv=>Bn kv i
   |_=>none)
  |none=>none)=_
 (refine h.symm▸?_;rfl)
theorem Nh{rs:List V}{d:Int}(h:μ[a]?=some (.list rs))(h0:0<=d)(h1:d<rs.length)(hx:rs[d.toNat]?=some x):B8 μ (.lX a) (.int d)=some x:=by
 rw[OU h]
 unfold OR CU
 rw[iJ h0,iJ h1]
 exact hx
theorem HH(h:μ[a]?=some (.list (x :: rs))):B8 μ (.lX a) (.int 0)=some x:=Nh h (iy 0) (Int.natCast_pos.mpr (jq _)) rfl
theorem AO{μ:MH}{n:Nat}{xs:List Int}{i:Int}{K:V->Prop}(h:μ[n]?=some (il xs))(h0:0<=i)(qH:i<xs.length)(k:K (.int (xs.getD i.toNat 0))):@Option.rec V (fun _=>Prop) False (fun a=>K a) (OS μ (.lX n) (.int i)):=by
 have h1:i.toNat<xs.length:=by lia
 refine Ab ?_ k
 rw[IL]
 refine(OU h).symm▸?_
 unfold OR CU
 rw[iJ h0,iJ (by rw[gU];assumption)]
 show((xs.map V.int)[i.toNat]?)=_
 rw[kP,gV,gW h1]
 rfl
theorem l6{K K' n:Nat}(h:K'<=n+1)(e:Nat.ble (K+1) K'=true):K<=n:=lI (gB (Nat.le_of_ble_eq_true e) h)
theorem BK(e:(l:Int)=s)(h:i<s):i<l:=e▸h
theorem A0{step:V->Au->An->MH->Prop}{Q:Au}(h:Bz c step l Q env μ):Xs c step l Q env μ:=(Rk _ _ _ _ _ _).mpr h
theorem R0{t:(Bool->MH->Prop)->An->MH->Prop}{b:Au->An->MH->Prop}{Q:Au}(h:EI t b n Q env μ):Nn t b n Q env μ:=(LP _ _ _ _ _ _).mpr h
theorem Af{K:V->Prop}(h:B8 μ o i=some v)(k:K v):@Option.rec V (fun _=>Prop) False (fun a=>K a) (OS μ o i):=Ab ((IL _ _ _).trans h) k
theorem Aj{p:Prop}(hc:b=true)(h:p):@Bool.rec (fun _=>Prop) False p b:=by subst hc;exact h
theorem DT{p q:Prop}(e:b=true)(h:p):@Bool.rec (fun _=>Prop) q p b:=by subst e;exact h
theorem CA{p q:Prop}(e:b=false)(h:q):@Bool.rec (fun _=>Prop) q p b:=by subst e;exact h
theorem Ap{p q:Prop}(ht:b=true->p)(hf:b=false->q):@Bool.rec (fun _=>Prop) q p b:=by
 cases b with
 |true=>exact ht rfl
 |false=>exact hf rfl
noncomputable def KU(G:l8):Nat->List Int
 |0=>G.r0|1=>G.r1|2=>G.r2|3=>G.r3|4=>G.r4|5=>G.r5|6=>G.r6|_=>G.r7
noncomputable def SI:Nat->Bool
 |0=>true|1=>true|4=>true|7=>true|_=>false
noncomputable def RS(b0:Int):Int:=
 let b1:=Builtin.bitOr b0 (b0.fdiv (2 ^ 1))
 let b2:=Builtin.bitOr b1 (b1.fdiv (2 ^ 2))
 let b3:=Builtin.bitOr b2 (b2.fdiv (2 ^ 4))
 let b4:=Builtin.bitOr b3 (b3.fdiv (2 ^ 8))
 let b5:=Builtin.bitOr b4 (b4.fdiv (2 ^ 16))
 Builtin.bitOr b5 (b5.fdiv (2 ^ 32))
noncomputable def RJ(up:Bool)(oo occ:Int):Int:=match Builtin.bitAnd oo occ==0 with
 |true=>oo
 |false=>match up with
  |true=>Builtin.bitAnd oo (Builtin.bitXor (Builtin.bitAnd oo occ) (Builtin.bitAnd oo occ - 1))
  |false=>Builtin.bitAnd oo (-(RS ((Builtin.bitAnd oo occ).fdiv (2 ^ 1))) - 1)
noncomputable def GQ(G:l8)(d:Nat)(sq:Int)(occ:Int):Int:=RJ (SI d) ((KU G d).getD sq.toNat 0) occ
section
variable{S:List Int}{k:Int}{m:Nat}{G:l8}{st:St}{g:MH}{n:Nat}{hd:Bool}{Q:Ae}{X:As}{μ:MH}
theorem aC(hn:1<=n)(h8:d<8)(h:Q (.bool (SI d)) μ):CG n hd 43 [.int d] Q X μ:=by
 refine stp hn fun n hn=>?_
 revert h
 exact vb h8 (fun h=>Af rfl h) (fun h=>Af rfl h) (fun h=>Af rfl h) (fun h=>Af rfl h) (fun h=>Af rfl h) (fun h=>Af rfl h) (fun h=>Af rfl h) (fun h=>Af rfl h)
theorem Dg{d:Nat}(h8:d<8):B8 (B S k m G st++g) (.lX 21) (.int d)=some (.lX (32+2*d))/\(B S k m G st++g)[32+2*d]?=some (il (KU G d)):=by
 exact vb h8 ⟨rfl,rfl⟩ ⟨rfl,rfl⟩ ⟨rfl,rfl⟩ ⟨rfl,rfl⟩ ⟨rfl,rfl⟩ ⟨rfl,rfl⟩ ⟨rfl,rfl⟩ ⟨rfl,rfl⟩
structure l8.l7(G:l8):Prop where
 pos:0<=G.size
 oo:∀d,d<8->((KU G d).length:Int)=G.size
 king:(G.king.length:Int)=G.size
 knight:(G.knight.length:Int)=G.size
 pawn0:(G.pawn0.length:Int)=G.size
 pawn1:(G.pawn1.length:Int)=G.size
 top:G.size<=20
 ranks:1<=G.ranks
 rankm:(G.rankm.length:Int)=G.ranks
 files:G.files.length=4
 sJ:0<=G.full
 sK:G.full<2 ^ G.size.toNat
theorem HR(hn:2<=n)(GS:G.l7)(h8:d<8)(h0:0<=sq)(h1:sq<G.size)(h:Q (.int (GQ G d sq occ)) (B S k m G st++g)) :
  CG n hd 91 [.lX 18,.int d,.int sq,.int occ] Q X (B S k m G st++g):=by
 refine stp hn fun n hn=>?_
 refine Af (Dg h8).1 ?_
 refine AO (Dg h8).2 h0 (BK (GS.oo d h8) h1) ?_
 unfold GQ at h
 revert h
 generalize(KU G d).getD sq.toNat 0=oo
 intro h
 conv=>whnf
 unfold RJ at h
 refine Ap (fun e=>?_) fun e=>?_
 ·replace h:=e▸h;exact h
 ·rw[e]at h
  refine aC (l6 hn rfl) h8 ?_
  refine Ap (fun e=>?_) fun e=>?_
  ·rw[e]at h;exact h
  ·rw[e]at h;exact h
end
noncomputable def bor(x y:Int):Int:=Builtin.bitOr x y
noncomputable def Am(x y:Int):Int:=Builtin.bitAnd x y
noncomputable def CV(G:l8)(sq occ:Int):Int:=bor (bor (bor (bor 0 (GQ G 0 sq occ)) (GQ G 1 sq occ)) (GQ G 2 sq occ)) (GQ G 3 sq occ)
noncomputable def DJ(G:l8)(sq occ:Int):Int:=bor (bor (bor (bor 0 (GQ G 4 sq occ)) (GQ G 5 sq occ)) (GQ G 6 sq occ)) (GQ G 7 sq occ)
section
variable{S:List Int}{k:Int}{m:Nat}{G:l8}{st:St}{g:MH}{n:Nat}{hd:Bool}{Q:Ae}{X:As}{μ:MH}
theorem Js(hn:3<=n)(GS:G.l7)(h0:0<=sq)(h1:sq<G.size)(h:Q (.int (CV G sq occ)) (B S k m G st++g)) :
  CG n hd 92 [.lX 18,.int sq,.int occ] Q X (B S k m G st++g):=by
 refine stp hn fun n hn=>?_
 refine A0 ?_
 refine HR (d:=0) (l6 hn rfl) GS (by decide) h0 h1 ?_
 refine HR (d:=1) (l6 hn rfl) GS (by decide) h0 h1 ?_
 refine HR (d:=2) (l6 hn rfl) GS (by decide) h0 h1 ?_
 refine HR (d:=3) (l6 hn rfl) GS (by decide) h0 h1 ?_
 exact h
theorem F3(hn:3<=n)(GS:G.l7)(h0:0<=sq)(h1:sq<G.size)(h:Q (.int (DJ G sq occ)) (B S k m G st++g)) :
  CG n hd 93 [.lX 18,.int sq,.int occ] Q X (B S k m G st++g):=by
 refine stp hn fun n hn=>?_
 refine A0 ?_
 refine HR (d:=4) (l6 hn rfl) GS (by decide) h0 h1 ?_
 refine HR (d:=5) (l6 hn rfl) GS (by decide) h0 h1 ?_
 refine HR (d:=6) (l6 hn rfl) GS (by decide) h0 h1 ?_
 refine HR (d:=7) (l6 hn rfl) GS (by decide) h0 h1 ?_
 exact h
end
noncomputable def St.si(st:St):Bool->Int
 |false=>st.s0
 |true=>st.s1
noncomputable def l8.pw(G:l8):Bool->List Int
 |false=>G.pawn0
 |true=>G.pawn1
noncomputable def Cv(l:List Int)(sq:Int):Int:=l.getD sq.toNat 0
theorem Gd(c:Bool):1 - sd c=sd (!c):=by cases c<;>rfl
noncomputable def ID(G:l8)(st:St)(sq:Int)(c:Bool):Int:=Am (Am (Cv (G.pw (!c)) sq) st.k1) (st.si c)
noncomputable def B4(G:l8)(st:St)(sq:Int)(c:Bool):Int:=bor (ID G st sq c) (Am (bor (Am (Cv G.knight sq) st.k2) (Am (Cv G.king sq) st.k6)) (st.si c))
noncomputable def AQ(st:St):Int:=bor st.k4 st.k5
noncomputable def Ch(st:St):Int:=bor st.k3 st.k5
noncomputable def MI(G:l8)(st:St)(sq occ:Int):Int:=
 let a:=match AQ st != 0 with
  |true=>bor 0 (Am (CV G sq occ) (AQ st))
  |false=>0
 match Ch st != 0 with
  |true=>bor a (Am (DJ G sq occ) (Ch st))
  |false=>a
noncomputable def ZB(G:l8)(st:St)(sq occ:Int):Int:=bor (bor (B4 G st sq false) (B4 G st sq true)) (MI G st sq occ)
noncomputable def Cc(G:l8)(st:St)(sq:Int)(c:Bool)(occ:Int):Bool:=match Am (Ch st) (st.si c) != 0 with
 |true=>Am (DJ G sq occ) (Am (Ch st) (st.si c)) != 0
 |false=>false
noncomputable def Bq(G:l8)(st:St)(sq:Int)(c:Bool)(occ:Int):Bool:=match B4 G st sq c != 0 with
 |true=>true
 |false=>match Am (AQ st) (st.si c) != 0 with
  |true=>(match Am (CV G sq occ) (Am (AQ st) (st.si c)) != 0 with
   |true=>true
   |false=>Cc G st sq c occ)
  |false=>Cc G st sq c occ
section
variable{S:List Int}{k:Int}{m:Nat}{G:l8}{st:St}{g:MH}{n:Nat}{hd:Bool}{Q:Ae}{X:As}{μ:MH}
theorem BH(c:Bool):B8 (B S k m G st++g) (.lX 59) (.int (sd c))=some (.int (st.si c)):=by cases c<;>rfl
theorem RG(c:Bool):B8 (B S k m G st++g) (.lX 26) (.int (sd c))=some (.lX (match c with|false=>24|true=>25))/\(B S k m G st++g)[(match c with|false=>24|true=>25:Nat)]?=some (il (G.pw c)):=by induction c<;>exact⟨rfl,rfl⟩
theorem cm(GS:G.l7)(c:Bool):((G.pw c).length:Int)=G.size:=by cases c;exact GS.pawn0;exact GS.pawn1
theorem Sm(hn:1<=n)(GS:G.l7)(h0:0<=sq)(h1:sq<G.size)(h:Q (.int (ID G st sq c)) (B S k m G st++g)) :
  CG n hd 121 [.lX 54,.int sq,.int (sd c)] Q X (B S k m G st++g):=by
 refine stp hn fun n hn=>?_
 refine Af (by rw[Gd];exact(RG (!c)).1) ?_
 refine AO (RG (!c)).2 h0 (BK (cm GS (!c)) h1) ?_
 refine Af rfl ?_
 exact Af (BH c) h
theorem Hi(hn:2<=n)(GS:G.l7)(h0:0<=sq)(h1:sq<G.size)(h:Q (.int (B4 G st sq c)) (B S k m G st++g)) :
  CG n hd 122 [.lX 54,.int sq,.int (sd c)] Q X (B S k m G st++g):=by
 refine stp hn fun n hn=>?_
 refine AO (xs:=G.knight) rfl h0 (BK GS.knight h1) ?_
 refine Af rfl ?_
 refine AO (xs:=G.king) rfl h0 (BK GS.king h1) ?_
 refine Af rfl ?_
 refine Sm (l6 hn rfl) GS h0 h1 ?_
 exact Af (BH c) h
theorem F4(hn:1<=n)(h:Q (.int (AQ st)) (B S k m G st++g)):CG n hd 119 [.lX 54] Q X (B S k m G st++g):=by
 refine stp hn fun n hn=>?_
 refine Af rfl ?_
 exact Af rfl h
theorem Gx(hn:1<=n)(h:Q (.int (Ch st)) (B S k m G st++g)):CG n hd 120 [.lX 54] Q X (B S k m G st++g):=by
 refine stp hn fun n hn=>?_
 refine Af rfl ?_
 exact Af rfl h
theorem Sk(hn:4<=n)(GS:G.l7)(h0:0<=sq)(h1:sq<G.size)(h:Q (.int (MI G st sq occ)) (B S k m G st++g)) :
  CG n hd 126 [.lX 54,.int sq,.int occ] Q X (B S k m G st++g):=by
 refine stp hn fun n hn=>?_
 unfold MI at h
 refine F4 (l6 hn rfl) ?_
 revert h
 generalize AQ st=str
 intro h
 refine Ap (fun e=>?_) fun e=>?_
 ·rw[e]at h
  refine Js (l6 hn rfl) GS h0 h1 ?_
  refine Gx (l6 hn rfl) ?_
  revert h
  generalize Ch st=sl
  intro h
  refine Ap (fun e=>?_) fun e=>?_
  ·rw[e]at h
   conv=>whnf
   exact F3 (l6 hn rfl) GS h0 h1 h
  ·rw[e]at h
   exact h
 ·rw[e]at h
  refine Gx (l6 hn rfl) ?_
  revert h
  generalize Ch st=sl
  intro h
  refine Ap (fun e=>?_) fun e=>?_
  ·rw[e]at h
   exact F3 (l6 hn rfl) GS h0 h1 h
  ·rw[e]at h
   exact h
theorem WJ(hn:5<=n)(GS:G.l7)(h0:0<=sq)(h1:sq<G.size)(h:Q (.int (ZB G st sq occ)) (B S k m G st++g)) :
  CG n hd 128 [.lX 54,.int sq,.int occ] Q X (B S k m G st++g):=by
 refine stp hn fun n hn=>?_
 refine Hi (c:=false) (l6 hn rfl) GS h0 h1 ?_
 refine Hi (c:=true) (l6 hn rfl) GS h0 h1 ?_
 exact Sk (l6 hn rfl) GS h0 h1 h
theorem Jm(hn:4<=n)(GS:G.l7)(h0:0<=sq)(h1:sq<G.size)(h:Q (.bool (Bq G st sq c occ)) (B S k m G st++g)) :
  CG n hd 130 [.lX 54,.int sq,.int (sd c),.int occ] Q X (B S k m G st++g):=by
 refine stp hn fun n hn=>?_
 unfold Bq at h
 refine Hi (c:=c) (l6 hn rfl) GS h0 h1 ?_
 refine Ap (fun e=>?_) fun e=>?_
 ·rw[e]at h;exact h
 ·replace h:=e▸h
  refine Af (BH c) ?_
  refine F4 (l6 hn rfl) ?_
  refine Ap (fun e=>?_) fun e=>?_
  ·have e:(Am (AQ st) (st.si c) != 0)=true:=e
   rw[e]at h
   refine Js (l6 hn rfl) GS h0 h1 ?_
   refine Ap (fun e=>?_) fun e=>?_
   ·have e:(Am (CV G sq occ) (Am (AQ st) (st.si c)) != 0)=true:=e
    rw[e]at h;exact h
   ·have e:(Am (CV G sq occ) (Am (AQ st) (st.si c)) != 0)=false:=e
    replace h:=e▸h
    refine Gx (l6 hn rfl) ?_
    unfold Cc at h
    refine Ap (fun e=>?_) fun e=>?_
    ·have e:(Am (Ch st) (st.si c) != 0)=true:=e
     rw[e]at h
     conv=>whnf
     exact F3 (l6 hn rfl) GS h0 h1 h
    ·have e:(Am (Ch st) (st.si c) != 0)=false:=e
     have e2:=e
     rw[e2]at h
     exact(congrArg (fun b=>Q (.bool b) (B S k m G st++g)) e).mpr h
  ·have e:(Am (AQ st) (st.si c) != 0)=false:=e
   rw[e]at h
   refine Gx (l6 hn rfl) ?_
   unfold Cc at h
   refine Ap (fun e=>?_) fun e=>?_
   ·have e:(Am (Ch st) (st.si c) != 0)=true:=e
    rw[e]at h
    conv=>whnf
    exact F3 (l6 hn rfl) GS h0 h1 h
   ·have e:(Am (Ch st) (st.si c) != 0)=false:=e
    have e2:=e
    rw[e2]at h
    exact(congrArg (fun b=>Q (.bool b) (B S k m G st++g)) e).mpr h
end
noncomputable def nD:Nat->Int->Int->List Int
 |0,_,_=>[]
 |k+1,x,s=>(match Am x 1 != 0 with|true=>[s]|false=>[])++nD k (x.fdiv 2) (s+1)
theorem NN(x:Int)(h:0<=x)(j:Nat):Am x (2 ^ j - 1:Nat)=x % (2 ^ j:Nat):=by
 obtain⟨a,rfl⟩:=gD h
 show((a&&& (2 ^ j - 1):Nat):Int)=_
 rw[Nat.and_two_pow_sub_one_eq_mod];rfl
theorem NM(x:Int)(h:0<=x):Am x 1=x % 2:=NN x h 1
theorem ai(x:Int)(h:0<=x):Am x 15=x % 16:=NN x h 4
theorem Wa(k:Nat)(s:Int):nD k 0 s=[]:=by
 induction k generalizing s with
 |zero=>rfl
 |succ k ih=>exact ih (s+1)
theorem GU(j:Nat)(y t:Int)(h:0<=y):nD (j+1) (2*y) t=nD j y (t+1):=by
 show(match Am (2*y) 1 != 0 with|true=>[t]|false=>[])++nD j ((2*y).fdiv 2) (t+1)=_
 rw[NM _ (lc (by decide) h),Int.mul_emod_right,ja y (by decide)];rfl
theorem c8(k:Nat)(x s:Int)(h:0<=x)(e:x % 16=0):nD (k+4) x s=nD k (x.fdiv 16) (s+4):=by
 obtain⟨y,rfl⟩:=lz e
 have y0:0<=y:=by lia
 have d:∀z:Int,0<=z->0<=2*z:=fun z hz=>lc (by decide) hz
 rw[ja y (by decide),show(16:Int)*y=2*(2*(2*(2*y))) by exact hZ (ow (mo _) (.mulL 16 mh) (.mulL 2 (.mulL 2 (.mulL 2 (.mulL 2 mh)))) rfl) (ow (mo _) (.mulL 2 (.mulL 2 (.mulL 2 (.mulL 2 mh)))) (.mulL 16 mh) rfl),GU _ _ _ (d _ (d _ (d _ y0))),GU _ _ _ (d _ (d _ y0)),GU _ _ _ (d _ y0),GU _ _ _ y0,show s+1+1+1+1=s+4 by exact hZ (ow (mo _) (.add (.add (.add (mm 0 1) (.num 1)) (.num 1)) (.num 1)) (mm 0 4) rfl) (ow (mo _) (mm 0 4) (.add (.add (.add (mm 0 1) (.num 1)) (.num 1)) (.num 1)) rfl)]
noncomputable def inS:MS:=(MS.aug 25 Operator.RShift (ME.int 4)).seq ((MS.aug 27 Operator.Add (ME.int 4)).seq MS.skip)
noncomputable def gh:MS:=(MS.m8 (ME.un UnaryOp.Not (ME.bin Operator.BitAnd (ME.lX 25) (ME.int 15))) inS).seq
      ((MS.ite (ME.bin Operator.BitAnd (ME.lX 25) (ME.int 1))
         ((MS.expr ((ME.lX 31).mz 0 ((ME.lX 27).cons ME.nil))).seq MS.skip) MS.skip).seq
       ((MS.aug 25 Operator.RShift (ME.int 1)).seq ((MS.aug 27 Operator.Add (ME.int 1)).seq MS.skip)))
section
variable{S:List Int}{k:Int}{m:Nat}{G:l8}{st:St}{g:MH}{n:Nat}{hd:Bool}{X:As}{μ:MH}
theorem TW{Q:Ae}(hn:1<=n)(h:Q (.bool (Am b (b - 1) != 0)) μ):CG n hd 26 [.int b] Q X μ:=by
 induction n using Nat.casesOn with
 |zero=>exact absurd hn (by decide)
 |succ n=>exact h
theorem Bj{α:Type}{l:List α}{i:Nat}{a:α}(h:l[i]?=some a):l.set i a=l:=by
 obtain⟨c,rfl⟩:=List.getElem?_eq_some_iff.mp h
 exact List.set_getElem_self c
theorem AJ{α:Type}{l:List α}{i:Nat}{a b:α}(h:l[i]?=some a):(l.set i b)[i]?=some b:=by
 rw[j0,iJ rfl,iJ]
 rcases iW i l.length with c|c
 ·exact c
 ·exact AM (iq c) h
theorem CO(h:μ[n]?=some (.list xs)):By μ n=some xs:=by unfold By;rw[h]
theorem Dz{o:List Int}(h:g[r]?=some (il o)):By (B S k m G st++g) (r+61)=some (o.map .int):=CO (μ:=B S k m G st++g) (n:=r+61) h
theorem Df{p:Prop}(h:g[r]?=some (il o))(hp:p):@Bool.rec (fun _=>Prop) False p (ZV (.lX (r+61)) 0 (B S k m G st++g)):=by
 refine Aj ?_ hp
 show(decide (0<2)&&(By (B S k m G st++g) (r+61)).isSome)=true
 refine(Dz h).symm▸?_;rfl
theorem My(o:List Int)(v:Int):il (o++[v])=.list (o.map .int++[.int v]):=by unfold il;rw[kj];rfl
theorem room{o:List Int}(h:o.length<100000):decide ((o.map V.int).length<lim)=true:=gz (by rw[gU];exact g7 h (by decide))
theorem X6{y c:Int}{P:Prop}(h:0<y)(hx:16*y<c)(hc:c<=16):P:=absurd (gM hx hc) (Int.not_lt.mpr (Int.mul_le_mul_of_nonneg_left (show(1:Int)<=y from h) (show(0:Int)<=16 by decide)))
theorem XE{Φ:Bool->Nat->List V->Ae->As->MH->Prop}{Q:Au}(f:Nat):∀(j:Nat) (x s:Int) (env:An),j<f->env 25=some (.int x)->env 27=some (.int s)->0<x->x<2 ^ j->
  (∀j' x' s' env',env' 25=some (.int x')->env' 27=some (.int s')->env' 31=env 31->0<x'->x'<2 ^ j'->j'<=j->nD j' x' s'=nD j x s->Q .next env' μ)->
  EI (fun K env' μ'=>wt lY (Φ hd) env' (ME.un UnaryOp.Not (ME.bin Operator.BitAnd (ME.lX 25) (ME.int 15))) K X μ') (fun K env' μ'=>ws lY Φ hd inS K X env' μ') f Q env μ:=by
 induction f with
 |zero=>intro j x s env hj;exact absurd hj (by contradiction)
 |succ f ih=>
  intro j x s env hj qu tJ h0 hx h
  refine Ab qu ?_
  refine Ap (fun e=>?_) fun e=>?_
  ·have e16:x % 16=0:=(ai x (jg h0)).symm.trans (by show Builtin.bitAnd x 15=0;simpa using e)
   have sq:=fun i=>c8 i x s (jg h0) e16
   obtain⟨y,rfl⟩:=lz e16
   have y0:0<y:=lp (a:=16) h0 (by decide)
   rw[ja y (by decide)]at sq
   refine Ab qu ?_
   refine Ab tJ ?_
   show EI _ _ f Q (Ad (Ad env 25 (.int ((16*y).fdiv 16))) 27 (.int (s+4))) μ
   rw[ja y (by decide)]
   rcases j with _|_|_|_|i
   ·exact X6 y0 hx (by decide)
   ·exact X6 y0 hx (by decide)
   ·exact X6 y0 hx (by decide)
   ·exact X6 y0 hx (by decide)
   ·rw[Int.pow_add 2 i 4,Int.mul_comm (2 ^ i)]at hx
    exact ih i y (s+4) _ (Nat.lt_of_add_right_lt (k:=3) (kf hj)) rfl rfl y0 (lp (a:=16) hx (by decide)) fun j' x' s' env' a b c d e' f' g'=>h j' x' s' env' a b c d e' (gB f' (hJ i 4)) (g'.trans (sq i).symm)
  ·exact h j x s env qu tJ rfl h0 hx (gF _) rfl
theorem VD{Φ:Bool->Nat->List V->Ae->As->MH->Prop}{Q:Au}(f:Nat):∀(j:Nat) (x s:Int) (env:An) (o:List Int),j<f->j<90->env 25=some (.int x)->env 27=some (.int s)->env 31=some (.lX (r+61))->0<=x->x<2 ^ j->g[r]?=some (il o)->o.length+j<100->
  (∀env',env' 31=env 31->Q .next env' (B S k m G st++g.set r (il (o++nD j x s))))->
  EI (fun K env' μ'=>wt lY (Φ hd) env' (ME.lX 25) K X μ') (fun K env' μ'=>ws lY Φ hd gh K X env' μ') f Q env (B S k m G st++g):=by
 induction f generalizing g with
 |zero=>intro j x s env o hj;exact absurd hj (by contradiction)
 |succ f ih=>
  intro j x s env o hj h90 qu tJ um h0 hx hg ho h
  refine Ab qu ?_
  refine Ap (fun e=>?_) fun e=>?_
  ·have e0:x≠0:=by simpa using e
   refine R0 ?_
   refine XE 100 j x s env (by exact mP (mU _ _) (mu 1 1) (.num 100) (.add (.add mj mE) (.num 1)) (.num 100) rfl ho) qu tJ (Int.lt_iff_le_and_ne.mpr ⟨h0,iK e0⟩) hx fun j' x' s' env' a b c d e' f' g'=>?_
   replace h:=(g').symm▸h
   induction j' with
   |zero=>exact absurd e' (by exact Int.not_lt.mpr (mJ (mo _) (.num 1) mh (.add (.num 0) (.num 1)) mh rfl d))
   |succ j'=>
    have t:=fun y=>ih (g:=y) j' (x'.fdiv 2) (s'+1)
    have hx0:0<=x'.fdiv 2:=Int.fdiv_nonneg (jg d) (by decide)
    have hx1:x'.fdiv 2<2 ^ j':=iA x' (show(0:Int)<=2 by decide)▸Int.ediv_lt_of_lt_mul (by decide) (Int.pow_succ 2 j'▸e')
    have uR:o.length+1+j'<100:=by exact pe (nC _ _ _) (.add (.add (mu 0 1) nF) (.num 1)) (.num 100) (.add (.add mj mE) (.num 1)) (.num 100) (mu 2 1) mE rfl ho f'
    refine Ab a ?_
    refine Ap (fun e=>?_) fun e=>?_
    ·have e:(Am x' 1 != 0)=true:=e
     refine Ab (c.trans um) ?_
     refine Df hg ?_
     refine Ab b ?_
     refine Ab (Dz hg) ?_
     refine Aj (room (by exact mP (mU _ _) (mu 0 1) (.num 100000) (.add (.add (mu 0 1) mE) (.num 1)) (.num 100) rfl uR)) ?_
     refine Ab a ?_
     refine Ab b ?_
     have t:=t (g.set r (il (o++[s']))) (Ad (Ad env' 25 (.int (x'.fdiv 2))) 27 (.int (s'+1))) (o++[s']) (by exact eZ hj f') (by exact e8 h90 f') rfl rfl (c.trans um) hx0 hx1 (AJ hg) (by refine List.length_append.symm▸?_;exact uR) fun qf q=>by
      have h:=h qf (q.trans c)
      unfold nD at h
      replace h:=e▸h
      rw[hY,gv]
      exact h
     rw[My]at t
     exact t
    ·have e:(Am x' 1 != 0)=false:=e
     refine Ab a ?_
     refine Ab b ?_
     exact t g (Ad (Ad env' 25 (.int (x'.fdiv 2))) 27 (.int (s'+1))) o (by exact eZ hj f') (by exact e8 h90 f') rfl rfl (c.trans um) hx0 hx1 hg (by exact mP (mU _ _) (.add (.add mj mE) (.num 1)) (.num 100) (.add (.add (mu 0 1) mE) (.num 1)) (.num 100) rfl uR) fun qf q=>by
      have h:=h qf (q.trans c)
      unfold nD at h
      replace h:=e▸h
      exact h
  ·have e0:x=0:=by simpa using e
   cases e0
   have h:=h env rfl
   (rw[Wa,gE]at h;replace h:=(Bj hg)▸h)
   exact h
theorem CC{Q:Ae}(hn:1<=n)(h0:0<=b)(hb:b<2 ^ 20)(h:Q (.lX (g.length+61)) (B S k m G st++(g++[il (nD 20 b 0)]))):CG n hd 32 [.int b] Q X (B S k m G st++g):=by
 refine stp hn fun n hn=>?_
 refine R0 ?_
 refine VD (g:=g++[il []]) (r:=g.length) 100 20 b 0 _ [] (by decide) (by decide) rfl rfl rfl h0 hb (gw) (by decide) fun env' e=>?_
 rw[g9 _ _ (gF _),iC]
 refine Ab e ?_
 exact h
end
noncomputable def F9:Nat->Int->Int->Int
 |0,_,_=> -1
 |k+1,x,s=>match Am x 1 != 0 with|true=>s|false=>F9 k (x.fdiv 2) (s+1)
theorem Wl(x:Nat):(2*x).testBit 0=false:=by rw[i5,Nat.mul_mod_right];rfl
theorem Wm(x i:Nat):(2*x).testBit (i+1)=x.testBit i:=by rw[iL,lx x (by decide)]
theorem dn(x i:Nat):(2*x+1).testBit (i+1)=x.testBit i:=by rw[iL,Nat.mul_add_div (by decide)];rfl
theorem N8(x y:Nat):(2*x)&&& (2*y+1)=2*(x&&& y):=by
 refine jG fun i=>?_
 cases i with
 |zero=>rw[i8,Wl,Wl];rfl
 |succ i=>rw[i8,Wm,dn,Wm,i8]
theorem X0(a:Nat):(2*a)&&& (2*a - 1)=2*(a&&& (a - 1)):=by
 cases a with
 |zero=>rfl
 |succ d=>exact N8 (d+1) d
theorem X9(a:Nat):(2*a+1)&&& (2*a)=2*a:=by rw[Nat.and_comm,N8,Nat.and_self]
theorem Up(b:Nat):((2*b:Nat):Int) % 2=0:=by rw[Int.natCast_mul];exact Int.mul_emod_right 2 b
theorem Uo(b:Nat):((2*b:Nat):Int).fdiv 2=b:=by rw[Int.natCast_mul];exact ja b (by decide)
theorem Yb(b:Nat):((2*b+1:Nat):Int) % 2=1:=by
 show((2*b+1:Nat):Int) % ((2:Nat):Int)=_
 rw[<- Int.natCast_emod,kX];rfl
theorem SU(k b:Nat)(s:Int):F9 (k+1) (2*b:Nat) s=F9 k b (s+1):=by
 unfold F9
 rw[NM _ (gP _),Up,Uo]
 induction k using Nat.casesOn<;>rfl
theorem U3(k b:Nat)(s:Int):F9 (k+1) (2*b+1:Nat) s=s:=by
 unfold F9
 rw[NM _ (gP _),Yb];rfl
theorem U5(k:Nat):∀(a:Nat) (s:Int),0<a->a<2 ^ k->∃j,j<k/\a - (a&&& (a - 1))=2 ^ j/\F9 k a s=s+j:=by
 induction k with
 |zero=>intro a s h0 h1;exact absurd h0 (Nat.not_lt.mpr (kO h1))
 |succ k ih=>
  intro a s h0 h1
  obtain⟨b,rfl|rfl⟩:∃b,a=2*b\/a=2*b+1:=⟨a / 2,by lia⟩
  ·obtain⟨j,hj,e1,e2⟩:=ih b (s+1) (Nat.pos_of_mul_pos_left h0) (lm (a:=2) (by rw[kI,lB (2 ^ k)]at h1;exact h1))
   refine⟨j+1,j4 hj,?_,?_⟩
   ·rw[X0,<- Nat.mul_sub,e1,kI,lB]
   ·rw[SU,e2,Int.add_assoc,Int.add_comm 1];rfl
  ·refine⟨0,jq k,?_,?_⟩
   ·rw[Nat.add_sub_cancel,X9,j7]
   ·rw[U3];exact(lF s).symm
section
variable{S:List Int}{k:Int}{m:Nat}{G:l8}{st:St}{g:MH}{n:Nat}{hd:Bool}{X:As}{μ:MH}
theorem aD{Q:Ae}(j:Nat)(hn:1<=n)(hj:j<20)(h:Q (.int j) μ):CG n hd 29 [.int (2 ^ j:Nat)] Q X μ:=by
 refine stp hn fun n hn=>?_
 have e:CG (n+1) hd 29 [.int (2 ^ j:Nat)] Q X μ=Q (.int j) μ:=by
  rcases j with _|_|_|_|_|_|_|_|_|_|_|_|_|_|_|_|_|_|_|_|j<;>first|lia|kernel_rfl
 refine e.symm▸?_;exact h
theorem ZG{Q:Ae}(hn:2<=n)(h0:0<=b)(hb:b<2 ^ 20)(h:Q (.int (F9 20 b 0)) μ):CG n hd 30 [.int b] Q X μ:=by
 obtain⟨a,rfl⟩:=gD h0
 refine stp hn fun n hn=>?_
 cases a with
 |zero=>
  induction n using Nat.casesOn with
  |zero=>exact absurd hn (by decide)
  |succ n=>exact h
 |succ d=>
  obtain⟨j,hj,e1,e2⟩:=U5 20 (d+1) 0 (jq d) (Int.ofNat_lt.mp hb)
  have e3:Builtin.bitAnd ((d+1:Nat):Int) (-((d+1:Nat):Int))=((2 ^ j:Nat):Int):=by
   refine e1▸?_
   show((d+1:Nat):Int) - ((((d+1:Nat):Int).toNat&&& (Builtin.bitNot (Int.negSucc d)).toNat:Nat):Int)=_
   rw[GJ]
   exact(Int.ofNat_sub i9).symm
  (replace h:=e2▸h;rw[j9]at h)
  conv=>whnf
  refine e3.symm▸?_
  exact aD j (l6 hn rfl) hj h
end
def Bd(G:l8)(b:Int):Prop:=0<=b/\b<2 ^ G.size.toNat
structure St.nY(st:St)(G:l8):Prop where
 s0:Bd G st.s0
 s1:Bd G st.s1
theorem St.nY.si{st:St}(L:st.nY G)(c:Bool):Bd G (st.si c):=by cases c;exact L.s0;exact L.s1
theorem K4(x y:Int):Am x y=Am y x:=Gi fun k=>by show tb (Builtin.bitAnd x y) k=tb (Builtin.bitAnd y x) k;rw[Bv,Bv,Bool.and_comm]
theorem Et(hx:0<=x)(y:Int):0<=Am x y/\Am x y<=x:=by
 obtain⟨a,rfl⟩:=gD hx
 induction y with
 |ofNat b=>
  show 0<=(((a&&& b:Nat)):Int)/\((a&&& b:Nat):Int)<=a
  have:a&&& b<=a:=i9
  lia
 |negSucc b=>
  show 0<=((a:Int) - ((a&&& (Builtin.bitNot (Int.negSucc b)).toNat:Nat):Int))/\((a:Int) - ((a&&& (Builtin.bitNot (Int.negSucc b)).toNat:Nat):Int))<=a
  have:a&&& (Builtin.bitNot (Int.negSucc b)).toNat<=a:=i9
  lia
theorem Bd.left(h:Bd G x)(y:Int):Bd G (Am x y):=⟨(Et h.1 y).1,jU (Et h.1 y).2 h.2⟩
theorem Bd.right(h:Bd G x)(y:Int):Bd G (Am y x):=by rw[K4];exact h.left y
theorem Bd.top{G:l8}(h:Bd G x)(GS:G.l7):x<2 ^ 20:=by
 have h2:=h.2
 have:(2:Nat) ^ G.size.toNat<=2 ^ 20:=iz (by decide) (by have:=GS.top;lia)
 have e:(2:Int) ^ G.size.toNat=((2 ^ G.size.toNat:Nat):Int):=by rw[jL];rfl
 lia
theorem Zc:∀{x t s:Int},0<=x->s∈nD k x t->∃j,j<k/\s=t+j/\tb x j=true:=by
 induction k with
 |zero=>intro x t s _ h;cases h
 |succ k ih=>
  intro x t s h0 h
  have hd:x.fdiv 2=x / 2:=iA _ (by decide)
  have sh:∀j,tb (x / 2) j=tb x (j+1):=fun j=>by
   obtain⟨a,rfl⟩:=gD h0
   show(a / 2).testBit j=a.testBit (j+1)
   rw[iL]
  unfold nD at h
  rw[List.mem_append]at h
  rcases h with h|h
  ·have b0:(Am x 1 != 0)=tb x 0:=by
    refine(NM x h0).symm▸?_
    obtain⟨a,rfl⟩:=gD h0
    show _=a.testBit 0
    rw[i5]
    rcases jp a with c|c
    ·(rewrite[show(a:Int) % 2=0 by lia];refine c.symm▸?_);rfl
    ·(rewrite[show(a:Int) % 2=1 by lia];refine c.symm▸?_);rfl
   revert h b0
   cases Am x 1 != 0 with
   |true=>intro h b0;exact⟨0,jq k,by refine(List.mem_singleton.mp h).symm▸?_;exact(lF t).symm,b0.symm⟩
   |false=>intro h;exact nomatch h
  ·replace h:=hd▸h
   obtain⟨j,hj,e,q⟩:=ih (by lia) h
   exact⟨j+1,j4 hj,by exact hZ (e9 (iE e)) (mJ (nC _ _ _) (.add mQ (mm 2 1)) mh (.add (mm 1 1) oI) mh rfl (iE e.symm)),(sh j).symm.trans q⟩
theorem Bd.sq{G:l8}(h:Bd G x){s:Int}(m:s∈nD 20 x 0):0<=s/\s<G.size/\tb x s.toNat=true:=by
 obtain⟨j,hj,e,q⟩:=Zc h.1 m
 rw[j9]at e
 cases e
 refine⟨gP j,?_,q⟩
 obtain⟨a,rfl⟩:=gD h.1
 have e:(2:Int) ^ G.size.toNat=((2 ^ G.size.toNat:Nat):Int):=by rw[jL];rfl
 have h2:=h.2
 replace h2:=e▸h2
 rcases iW j G.size.toNat with c|c
 ·lia
 ·have:(2:Nat) ^ G.size.toNat<=2 ^ j:=iz (by decide) c
  have q:a.testBit j=true:=q
  exact Ex q (iX (by exact Int.ofNat_lt.mp (qq2 h2 (Int.ofNat_le.mpr this))))
noncomputable def Ax(st:St)(c:Bool):Int:=F9 20 (Am (st.si c) st.k6) 0
noncomputable def A3(st:St):Int:=bor st.s0 st.s1
noncomputable def Bc(G:l8)(st:St)(c:Bool):Int:=Am (ZB G st (Ax st c) (A3 st)) (st.si (!c))
noncomputable def Bo(G:l8)(st:St)(c:Bool):Bool:=Bq G st (Ax st c) (!c) (A3 st)
noncomputable def HY(G:l8)(d:Nat)(a:Int):Int:=Cv (KU G d) a
noncomputable def Sw(G:l8)(a b:Int):List Nat->Option Nat
 |[]=>none
 |d :: r=>match Am ((HY G d a).fdiv (2 ^ b.toNat)) 1 != 0 with
  |true=>some d
  |false=>Sw G a b r
noncomputable def fX:Option Nat->Int
 |none=> -1
 |some d=>d
noncomputable def GB(G:l8)(a b:Int):Option Nat:=Sw G a b [0,1,2,3,4,5,6,7]
noncomputable def back:Nat->Nat
 |0=>2|1=>3|2=>0|3=>1|4=>6|5=>7|6=>4|_=>5
noncomputable def AW(G:l8)(a b:Int):Int:=match GB G a b with
 |none=>0
 |some d=>Am (HY G d a) (HY G (back d) b)
noncomputable def PY(G:l8)(a b:Int):Int:=match GB G a b with
 |none=>0
 |some d=>bor (bor (HY G d a) (HY G (back d) a)) (1*2 ^ a.toNat)
noncomputable def dO(G:l8)(a b c:Int):Bool:=Am ((PY G a b).fdiv (2 ^ c.toNat)) 1==1
noncomputable def fW:MS:=(MS.ite (.bin .BitAnd (.bin .RShift (.sub (.sub (.attr (.lX 33) 36) (.lX 35)) (.lX 34)) (.lX 25)) (.int 1)) (.seq (.ret (.lX 35)) .skip) .skip).seq .skip
theorem Xk(L:List Nat)(hL:∀d∈L,d<8)(h:Sw G a b L=some d):d<8:=by
 induction L with
 |nil=>exact Ao h
 |cons x L ih=>
  unfold Sw at h
  revert h
  cases Am ((HY G x a).fdiv (2 ^ b.toNat)) 1 != 0 with
  |true=>intro h;obtain rfl:=Option.some.inj h;exact hL _ gK
  |false=>exact ih fun d hd=>hL d (gA _ hd)
theorem N5(h:GB G a b=some d):d<8:=Xk _ (by decide) h
section
variable{S:List Int}{k:Int}{m:Nat}{G:l8}{st:St}{g:MH}{n:Nat}{hd:Bool}{X:As}{μ:MH}
theorem Uh{Φ:Bool->Nat->List V->Ae->As->MH->Prop}{Q:Au}(GS:G.l7)(a0:0<=a)(a1:a<G.size)(b0:0<=b)(L:List Nat):∀(_:∀d∈L,d<8) (env:An),env 33=some (.lX 18)->env 34=some (.int a)->env 25=some (.int b)->
  (∀env',match Sw G a b L with|some d=>Q (.ret (.int d)) env' (B S k m G st++g)|none=>Q .next env' (B S k m G st++g))->
  Bz none (fun v K env' μ'=>opt (AC [35] true v env') fun e=>ws lY Φ hd fW K X e μ') (L.map fun(d:Nat)=>V.int d) Q env (B S k m G st++g):=by
 induction L with
 |nil=>intro _ env uo uq qu h;exact h env
 |cons d L ih=>
  intro hL env uo uq qu h
  have h8:=hL d gK
  refine Ab uo ?_
  refine Af (Dg h8).1 ?_
  refine Ab uq ?_
  refine AO (Dg h8).2 a0 (BK (GS.oo d h8) a1) ?_
  refine Ab qu ?_
  refine Aj (gz b0) ?_
  unfold Sw at h
  refine Ap (fun e=>?_) fun e=>?_
  ·have e:(Am ((HY G d a).fdiv (2 ^ b.toNat)) 1 != 0)=true:=e
   replace h:=e▸h
   exact h _
  ·have e:(Am ((HY G d a).fdiv (2 ^ b.toNat)) 1 != 0)=false:=e
   replace h:=e▸h
   exact ih (fun d hd=>hL d (gA _ hd)) _ uo uq qu h
theorem ZE{Q:Ae}(hn:1<=n)(GS:G.l7)(a0:0<=a)(a1:a<G.size)(b0:0<=b)(h:Q (.int (fX (GB G a b))) (B S k m G st++g)):CG n hd 37 [.lX 18,.int a,.int b] Q X (B S k m G st++g):=by
 refine stp hn fun n hn=>?_
 refine A0 ?_
 refine Uh GS a0 a1 b0 [0,1,2,3,4,5,6,7] (by decide) _ rfl rfl rfl fun env'=>?_
 show match GB G a b with|some d=>_|none=>_
 cases e:GB G a b with
 |none=>replace h:=e▸h;exact h
 |some d=>replace h:=e▸h;exact h
theorem Ip{d:Nat}(h:d<8):Builtin.bitXor (d:Int) 2=(back d:Int)/\back d<8:=by
 exact vb h ⟨rfl,by decide⟩ ⟨rfl,by decide⟩ ⟨rfl,by decide⟩ ⟨rfl,by decide⟩ ⟨rfl,by decide⟩ ⟨rfl,by decide⟩ ⟨rfl,by decide⟩ ⟨rfl,by decide⟩
theorem FG{d:Nat}(h8:d<8):B8 (B S k m G st++g) (.lX 21) (.int (Builtin.bitXor (d:Int) 2))=some (.lX (32+2*back d))/\(B S k m G st++g)[32+2*back d]?=some (il (KU G (back d))):=by refine((Ip h8).1).symm▸?_;exact Dg (Ip h8).2
theorem K6{Q:Ae}(hn:2<=n)(GS:G.l7)(a0:0<=a)(a1:a<G.size)(b0:0<=b)(b1:b<G.size)(h:Q (.int (AW G a b)) (B S k m G st++g)):CG n hd 38 [.lX 18,.int a,.int b] Q X (B S k m G st++g):=by
 refine stp hn fun n hn=>?_
 refine ZE (l6 hn rfl) GS a0 a1 b0 ?_
 unfold AW at h
 cases e:GB G a b with
 |none=>replace h:=e▸h;exact h
 |some d=>
  rw[e]at h
  have h8:=N5 e
  have hb:=GS.oo _ (Ip h8).2
  refine Af (Dg h8).1 ?_
  refine AO (Dg h8).2 a0 (BK (GS.oo d h8) a1) ?_
  refine Af (FG h8).1 ?_
  refine AO (FG h8).2 b0 (BK hb b1) ?_
  exact h
theorem aG{Q:Ae}(hn:2<=n)(GS:G.l7)(a0:0<=a)(a1:a<G.size)(b0:0<=b)(h:Q (.int (PY G a b)) (B S k m G st++g)):CG n hd 39 [.lX 18,.int a,.int b] Q X (B S k m G st++g):=by
 refine stp hn fun n hn=>?_
 refine ZE (l6 hn rfl) GS a0 a1 b0 ?_
 unfold PY at h
 cases e:GB G a b with
 |none=>replace h:=e▸h;exact h
 |some d=>
  replace h:=e▸h
  have h8:=N5 e
  have hb:=GS.oo _ (Ip h8).2
  refine Af (Dg h8).1 ?_
  refine AO (Dg h8).2 a0 (BK (GS.oo d h8) a1) ?_
  refine Af (FG h8).1 ?_
  refine AO (FG h8).2 a0 (BK hb a1) ?_
  refine Aj (gz a0) ?_
  refine Aj (gz (gM a1 (kJ GS.top (by decide)))) ?_
  exact h
theorem au{Q:Ae}(hn:3<=n)(GS:G.l7)(a0:0<=a)(a1:a<G.size)(b0:0<=b)(c0:0<=c)(h:Q (.bool (dO G a b c)) (B S k m G st++g)):CG n hd 41 [.lX 18,.int a,.int b,.int c] Q X (B S k m G st++g):=by
 refine stp hn fun n hn=>?_
 refine aG (l6 hn rfl) GS a0 a1 b0 ?_
 refine Aj (gz c0) ?_
 exact h
theorem Hh{Q:Ae}(hn:3<=n)(GS:G.l7)(L:st.nY G)(h:Q (.int (Ax st c)) (B S k m G st++g)):CG n hd 118 [.lX 54,.int (sd c)] Q X (B S k m G st++g):=by
 refine stp hn fun n hn=>?_
 have hb:=Bd.left (L.si c) st.k6
 refine Af (BH c) ?_
 refine Af rfl ?_
 exact ZG (l6 hn rfl) hb.1 (hb.top GS) h
theorem Kg(c:Bool):B8 (B S k m G st++g) (.lX 59) (.int (1 - sd c))=some (.int (st.si (!c))):=by rw[Gd];exact BH (!c)
theorem Po{Q:Ae}(hn:6<=n)(GS:G.l7)(L:st.nY G)(q0:0<=Ax st c)(q1:Ax st c<G.size)(h:Q (.int (Bc G st c)) (B S k m G st++g)):CG n hd 132 [.lX 54,.int (sd c)] Q X (B S k m G st++g):=by
 refine stp hn fun n hn=>?_
 refine Af rfl ?_
 refine Af rfl ?_
 refine Hh (l6 hn rfl) GS L ?_
 refine WJ (l6 hn rfl) GS q0 q1 ?_
 conv=>whnf
 exact Af (Kg c) h
theorem K7{Q:Ae}(hn:5<=n)(GS:G.l7)(L:st.nY G)(q0:0<=Ax st c)(q1:Ax st c<G.size)(h:Q (.bool (Bo G st c)) (B S k m G st++g)):CG n hd 134 [.lX 54,.int (sd c)] Q X (B S k m G st++g):=by
 refine stp hn fun n hn=>?_
 refine Af rfl ?_
 refine Af rfl ?_
 refine Hh (l6 hn rfl) GS L ?_
 conv=>whnf
 rw[Gd]
 exact Jm (l6 hn rfl) GS q0 q1 h
end
noncomputable def mS:Nat->MS->MS
 |0,.seq a _=>a
 |n+1,.seq _ b=>mS n b
 |_,s=>s
noncomputable def fb:MS->MS
 |.mt _ _ _ b=>b
 |.m8 _ b=>b
 |s=>s
noncomputable def DR(G:l8)(st:St)(c:Bool):Int:=Am (bor (Am (CV G (Ax st c) 0) (AQ st)) (Am (DJ G (Ax st c) 0) (Ch st))) (st.si (!c))
noncomputable def Cw(x y:Int):Int:=Builtin.bitXor x y
noncomputable def UC(G:l8)(k nO:Int):List Int->Int->Int
 |[],h=>h
 |s :: r,h=>UC G k nO r (match Am (AW G k s) nO != 0 with
  |true=>(match !(Am (Am (AW G k s) nO) (Am (AW G k s) nO - 1) != 0)with|true=>bor h (Am (AW G k s) nO)|false=>h)
  |false=>h)
noncomputable def C9(G:l8)(st:St)(c:Bool):Int:=Am (UC G (Ax st c) (Cw (A3 st) (DR G st c)) (nD 20 (DR G st c) 0) 0) (st.si c)
section
variable{S:List Int}{k:Int}{m:Nat}{G:l8}{st:St}{g:MH}{n:Nat}{hd:Bool}{X:As}{μ:MH}
theorem dR{Q:Ae}(hn:7<=n)(GS:G.l7)(L:st.nY G)(q0:0<=Ax st st.side)(q1:Ax st st.side<G.size)(h:Q (.int (Bc G st st.side)) (B S k m G st++g)):CG n hd 133 [.lX 54] Q X (B S k m G st++g):=by
 refine stp hn fun n hn=>?_
 refine Po (l6 hn rfl) GS L q0 q1 ?_
 exact h
theorem Ir{Q:Ae}(hn:6<=n)(GS:G.l7)(L:st.nY G)(q0:0<=Ax st st.side)(q1:Ax st st.side<G.size)(h:Q (.bool (Bo G st st.side)) (B S k m G st++g)):CG n hd 135 [.lX 54] Q X (B S k m G st++g):=by
 refine stp hn fun n hn=>?_
 refine K7 (l6 hn rfl) GS L q0 q1 ?_
 exact h
theorem Sn{Q:Ae}(hn:4<=n)(GS:G.l7)(L:st.nY G)(q0:0<=Ax st c)(q1:Ax st c<G.size)(h:Q (.int (DR G st c)) (B S k m G st++g)):CG n hd 136 [.lX 54,.int (sd c)] Q X (B S k m G st++g):=by
 refine stp hn fun n hn=>?_
 refine Hh (l6 hn rfl) GS L ?_
 refine Js (l6 hn rfl) GS q0 q1 ?_
 refine F4 (l6 hn rfl) ?_
 refine F3 (l6 hn rfl) GS q0 q1 ?_
 refine Gx (l6 hn rfl) ?_
 conv=>whnf
 exact Af (Kg c) h
theorem eQ(h:μ[n]?=some (.list xs)):By μ n=some xs:=by unfold By;rw[h]
theorem Be{l:List Int}(h:g[j]?=some (il l)):C6 (B S k m G st++g) (.lX (j+61))=some (l.map .int,some (j+61,l.map .int)):=by
 show(By (B S k m G st++g) (j+61)).map (fun xs=>(xs,some (j+61,xs)))=_
 refine(eQ (show(B S k m G st++g)[j+61]?=_ from h)).symm▸?_;rfl
theorem Ac{α:Type}{l:List α}{i:Nat}{a:α}(h:l[i]?=some a)(e:List α):(l++e)[i]?=some a:=by
 rw[jY,h]
 rcases iW i l.length with c|c
 ·exact c
 ·exact AM (iq c) h
noncomputable def fS:MS:=fb (mS 5 IZ)
theorem TM{Q:Au}{XS:List Int}(hn:3<=n+1)(GS:G.l7)(hj:g[j]?=some (il XS))(q0:0<=q)(q1:q<G.size)(L:List Int):∀(_:∀s∈L,0<=s/\s<G.size) (env:An) (h p:Int),env 102=some (.lX 54)->env 0=some (.int (sd c))->env 60=some (.int q)->env 142=some (.int sg)->env 138=some (.int h)->env 137=some (.int p)->
  (∀env' p',env' 138=some (.int (UC G q sg L h))->env' 137=some (.int p')->Q .next env' (B S k m G st++g))->
  Bz (some (j+61,XS.map .int)) (fun v K env' μ'=>opt (AC [139] true v env') fun e=>ws lY (Ak lY prog n) hd fS K X e μ') (L.map .int) Q env (B S k m G st++g):=by
 induction L with
 |nil=>intro _ env h p a1 a2 a3 a4 a5 a6 hQ;exact⟨hj,hQ env p a5 a6⟩
 |cons s L ih=>
  intro hL env h p a1 a2 a3 a4 a5 a6 hQ
  have hs:=hL s gK
  have oN:∀s∈L,0<=s/\s<G.size:=fun s hs=>hL s (gA _ hs)
  refine⟨hj,?_⟩
  refine Ab a1 ?_
  refine Ab a3 ?_
  refine K6 (l6 hn rfl) GS q0 q1 hs.1 hs.2 ?_
  refine Ab a4 ?_
  unfold UC at hQ
  refine Ap (fun e=>?_) fun e=>?_
  ·have e:(Am (AW G q s) sg != 0)=true:=e
   replace hQ:=e▸hQ
   refine TW (l6 hn rfl) ?_
   refine Ap (fun e=>?_) fun e=>?_
   ·have e:(!(Am (Am (AW G q s) sg) (Am (AW G q s) sg - 1) != 0))=true:=e
    replace hQ:=e▸hQ
    refine Ab a5 ?_
    refine Ab a1 ?_
    refine Ab a2 ?_
    refine Af (BH c) ?_
    refine Ap (fun e=>?_) fun e=>?_
    ·conv=>whnf
     refine Ab a6 ?_
     refine Aj (gz hs.1) ?_
     refine Aj (gz (gM hs.2 (kJ GS.top (by decide)))) ?_
     conv=>whnf
     exact ih oN _ _ _ a1 a2 a3 a4 rfl rfl hQ
    ·exact ih oN _ _ _ a1 a2 a3 a4 rfl a6 hQ
   ·have e:(!(Am (Am (AW G q s) sg) (Am (AW G q s) sg - 1) != 0))=false:=e
    rw[e]at hQ
    exact ih oN _ _ _ a1 a2 a3 a4 a5 a6 hQ
  ·have e:(Am (AW G q s) sg != 0)=false:=e
   replace hQ:=e▸hQ
   exact ih oN _ _ _ a1 a2 a3 a4 a5 a6 hQ
theorem Pn{Q:Ae}(hn:5<=n)(GS:G.l7)(L:st.nY G)(q0:0<=Ax st c)(q1:Ax st c<G.size)
  (h:∀p e,Q (.tup [.int (UC G (Ax st c) (Cw (A3 st) (DR G st c)) (nD 20 (DR G st c) 0) 0),p]) (B S k m G st++(g++e))):CG n hd 143 [.lX 54,.int (sd c)] Q X (B S k m G st++g):=by
 refine stp hn fun n hn=>?_
 refine Hh (l6 hn rfl) GS L ?_
 refine Sn (l6 hn rfl) GS L q0 q1 ?_
 refine Af rfl ?_
 refine Af rfl ?_
 have hb:Bd G (DR G st c):=(L.si (!c)).right _
 refine CC (l6 hn rfl) hb.1 (hb.top GS) ?_
 have hj:(g++[il (nD 20 (DR G st c) 0)])[g.length]?=some (il (nD 20 (DR G st c) 0)):=gw
 refine Ab (Be hj) ?_
 refine A0 ?_
 refine TM (gB (by decide) hn) GS hj q0 q1 _ (fun s hs=>⟨(hb.sq hs).1,(hb.sq hs).2.1⟩) _ _ _ rfl rfl rfl rfl rfl rfl fun env' p' e1 e2=>?_
 refine Ab e1 ?_
 refine Ab e2 ?_
 exact h _ _
theorem NT{Q:Ae}(hn:6<=n)(GS:G.l7)(L:st.nY G)(q0:0<=Ax st c)(q1:Ax st c<G.size)
  (h:∀e,Q (.int (C9 G st c)) (B S k m G st++(g++e))):CG n hd 144 [.lX 54,.int (sd c)] Q X (B S k m G st++g):=by
 refine stp hn fun n hn=>?_
 refine Pn (l6 hn rfl) GS L q0 q1 ?_
 intro p e
 refine Af rfl ?_
 refine Af (BH c) ?_
 exact h e
end
noncomputable def AH(o t f s:Int):Int:=bor (bor (bor t (o*2 ^ 6)) (f*2 ^ 12)) (s*2 ^ 14)
noncomputable def St.kd(st:St):Nat->Int
 |0=>st.k0|1=>st.k1|2=>st.k2|3=>st.k3|4=>st.k4|5=>st.k5|_=>st.k6
noncomputable def DB(G:l8)(kd:Nat)(sq occ:Int):Int:=match kd with
 |2=>Cv G.knight sq
 |3=>DJ G sq occ
 |4=>CV G sq occ
 |5=>bor (CV G sq occ) (DJ G sq occ)
 |_=>Cv G.king sq
noncomputable def Fa(o goals:Int):List Int:=(nD 20 goals 0).map fun t=>AH o t 0 0
noncomputable def C8(G:l8)(st:St)(kd:Nat)(target:Int):List Int:=(nD 20 (Am (st.si st.side) (st.kd kd)) 0).flatMap fun o=>Fa o (Am (DB G kd o (A3 st)) target)
theorem BI(k:Nat):∀x t,(nD k x t).length<=k:=by
 induction k with
 |zero=>intro x t;exact gF 0
 |succ k ih=>
  intro x t
  unfold nD
  rw[gy]
  have:=ih (x.fdiv 2) (t+1)
  cases Am x 1 != 0 with
  |true=>show 1+_<=_;exact mP (mU _ _) (.add (.num 1) mj) (mu 1 1) mj mE rfl this
  |false=>show 0+_<=_;exact mP (mU _ _) (.add (.num 0) mj) (mu 1 1) mj mE rfl this
theorem GE{f:Int->List Int}(hf:∀o,(f o).length<=20)(l:List Int):(l.flatMap f).length<=20*l.length:=by
 induction l with
 |nil=>exact gF 0
 |cons o l ih=>(refine List.flatMap_cons.symm▸?_;refine List.length_append.symm▸?_;refine List.length_cons.symm▸?_);have:=hf o;lia
theorem Gb(G:l8)(st:St)(kd:Nat)(target:Int):(C8 G st kd target).length<=400:=by
 refine gB (GE (fun o=>?_) _) (iS 20 (BI 20 _ _))
 unfold Fa;rw[gU];exact BI 20 _ _
theorem D1(h0:-1000<x)(h1:x<1000):small x=true:=gz (g7 (m:=1000) (by lia) (by decide))
section
variable{S:List Int}{k:Int}{m:Nat}{G:l8}{st:St}{g:MH}{n:Nat}{hd:Bool}{X:As}{μ:MH}
theorem Pq{Q:Ae}(hn:1<=n)(h0:-1000<o)(h1:o<1000)(h:Q (.int (AH o t 0 0)) μ):CG n hd 18 [.int o,.int t,.int 0,.int 0] Q X μ:=by
 refine stp hn fun n hn=>?_
 refine Aj (D1 h0 h1) ?_
 exact h
theorem QW{Q:Ae}(hn:1<=n)(h0:-1000<o)(h1:o<1000)(p0:-1000<p - 2)(p1:p - 2<1000)(h:Q (.int (AH o t (p - 2) 1)) μ):CG n hd 18 [.int o,.int t,.int 1,.int p] Q X μ:=by
 refine stp hn fun n hn=>?_
 refine Aj (D1 h0 h1) ?_
 refine Aj (D1 p0 p1) ?_
 exact h
theorem Iz{kd:Nat}(h:kd<7):B8 (B S k m G st++g) (.lX 58) (.int kd)=some (.int (st.kd kd)):=by
 exact pS h rfl rfl rfl rfl rfl rfl rfl
theorem ZH{Q:Ae}(hn:1<=n)(h:Q (.int (A3 st)) (B S k m G st++g)):CG n hd 88 [.lX 54] Q X (B S k m G st++g):=by
 refine stp hn fun n hn=>?_
 refine Af rfl ?_
 refine Af rfl ?_
 exact h
theorem Jq{Q:Ae}{c:Bool}{kd:Nat}(hn:1<=n)(h7:kd<7)(h:Q (.int (Am (st.si c) (st.kd kd))) (B S k m G st++g)):CG n hd 106 [.lX 54,.int (sd c),.int kd] Q X (B S k m G st++g):=by
 refine stp hn fun n hn=>?_
 refine Af (BH c) ?_
 refine Af (Iz h7) ?_
 exact h
theorem WW{Q:Ae}(hn:4<=n)(GS:G.l7)(h0:0<=sq)(h1:sq<G.size)(h:Q (.int (bor (CV G sq occ) (DJ G sq occ))) (B S k m G st++g)):CG n hd 94 [.lX 18,.int sq,.int occ] Q X (B S k m G st++g):=by
 refine stp hn fun n hn=>?_
 refine Js (l6 hn rfl) GS h0 h1 ?_
 conv=>whnf
 exact F3 (l6 hn rfl) GS h0 h1 h
theorem Jt{Q:Ae}(hn:5<=n)(GS:G.l7)(h2:3<=kd)(h7:kd<6)(h0:0<=sq)(h1:sq<G.size)(h:Q (.int (DB G kd sq occ)) (B S k m G st++g)):CG n hd 98 [.lX 18,.int kd,.int sq,.int occ] Q X (B S k m G st++g):=by
 refine stp hn fun n hn=>?_
 revert h
 exact k36 h2 h7 (fun h=>F3 (l6 hn rfl) GS h0 h1 h) (fun h=>Js (l6 hn rfl) GS h0 h1 h) (fun h=>WW (l6 hn rfl) GS h0 h1 h)
theorem WX{Q:Ae}(hn:6<=n)(GS:G.l7)(h2:2<=kd)(h7:kd<7)(h0:0<=sq)(h1:sq<G.size)(h:Q (.int (DB G kd sq occ)) (B S k m G st++g)):CG n hd 101 [.lX 18,.int (sd c),.int kd,.int sq,.int occ] Q X (B S k m G st++g):=by
 refine stp hn fun n hn=>?_
 revert h
 exact tc h2 h7 (fun h=>AO (xs:=G.knight) rfl h0 (BK GS.knight h1) h) (fun h=>Jt (kd:=3) (l6 hn rfl) GS (by decide) (by decide) h0 h1 h) (fun h=>Jt (kd:=4) (l6 hn rfl) GS (by decide) (by decide) h0 h1 h) (fun h=>Jt (kd:=5) (l6 hn rfl) GS (by decide) (by decide) h0 h1 h) (fun h=>AO (xs:=G.king) rfl h0 (BK GS.king h1) h)
noncomputable def eh:MS:=fb (mS 0 HN)
theorem SH{Q:Au}{XS:List Int}(hn:1<=n)(ij:j≠i)(o0:-1000<o)(o1:o<1000)(L:List Int):∀(g:MH) (xs:List Int) (env:An),g[i]?=some (il XS)->g[j]?=some (il xs)->xs.length+L.length<100000->env 31=some (.lX (j+61))->env 11=some (.int o)->
  (∀env',Q .next env' (B S k m G st++g.set j (il (xs++L.map fun t=>AH o t 0 0))))->
  Bz (some (i+61,XS.map .int)) (fun v K env' μ'=>opt (AC [61] true v env') fun e=>ws lY (Ak lY prog n) hd eh K X e μ') (L.map .int) Q env (B S k m G st++g):=by
 induction L with
 |nil=>
  intro g xs env hi hj hl e1 e2 h
  have h:=h env
  rw[show xs++([]:List Int).map (fun t=>AH o t 0 0)=xs from gE xs,Bj hj]at h
  exact⟨hi,h⟩
 |cons t L ih=>
  intro g xs env hi hj hl e1 e2 h
  rw[gR]at hl
  refine⟨hi,?_⟩
  refine Ab e1 ?_
  refine Df hj ?_
  refine Ab e2 ?_
  refine Pq hn o0 o1 ?_
  refine Ab (Dz hj) ?_
  refine Aj (room (gZ (hJ _ _) hl)) ?_
  conv=>whnf
  have t:=ih (g.set j (il (xs++[AH o t 0 0]))) (xs++[AH o t 0 0]) (Ad env 61 (.int t)) (by rw[gY ij];exact hi) (AJ hj) (by rw[gy];show _+1+_<_;exact cn hl) e1 e2 fun env'=>by
   have h:=h env'
   rw[hY,gv]
   exact h
  rw[My]at t
  exact t
theorem AR{α:Type}{l e:List α}{i:Nat}{a b:α}(h:l[i]?=some a):(l++e).set i b=l.set i b++e:=by
 refine List.set_append_left _ _ ?_
 rcases iW i l.length with c|c
 ·exact c
 ·exact AM (iq c) h
theorem BY{α:Type}{l:List α}{i:Nat}{a:α}(h:l[i]?=some a):i≠l.length:=by
 intro e
 (rw[e]at h;replace h:=(iq (gF _))▸h);exact Ao h
theorem WK{Q:Ae}{j:Nat}{o goals:Int}{xs:List Int}(hn:2<=n)(GS:G.l7)(o0:-1000<o)(o1:o<1000)(hb:Bd G goals)(hj:g[j]?=some (il xs))(hl:xs.length<90000)
  (h:∀e,Q .none (B S k m G st++(g.set j (il (xs++Fa o goals))++e))):CG n hd 166 [.int o,.int goals,.lX (j+61)] Q X (B S k m G st++g):=by
 refine stp hn fun n hn=>?_
 refine CC (l6 hn rfl) hb.1 (hb.top GS) ?_
 have hi:(g++[il (nD 20 goals 0)])[g.length]?=some (il (nD 20 goals 0)):=gw
 refine Ab (Be hi) ?_
 refine A0 ?_
 refine SH (i:=g.length) (l6 hn rfl) (BY hj) o0 o1 _ _ xs _ hi (Ac hj _) (gZ (jb (BI 20 _ _) _) (g7 (jm hl 20) (by decide))) rfl rfl fun env'=>?_
 refine(AR hj).symm▸?_
 exact h _
noncomputable def cf:MS:=fb (mS 1 DG)
theorem Qe{Q:Au}{i j:Nat}{XS:List Int}{kd:Nat}{target:Int}(hn:6<=n)(GS:G.l7)(ij:j≠i)(h2:2<=kd)(h7:kd<7)(hb:Bd G target)(L:List Int):∀(_:∀s∈L,0<=s/\s<G.size) (g:MH) (xs:List Int) (env:An),g[i]?=some (il XS)->g[j]?=some (il xs)->xs.length+20*L.length<90000->
  env 102=some (.lX 54)->env 1=some (.int kd)->env 147=some (.int (A3 st))->env 167=some (.int target)->env 31=some (.lX (j+61))->
  (∀env' e,Q .next env' (B S k m G st++(g.set j (il (xs++L.flatMap fun o=>Fa o (Am (DB G kd o (A3 st)) target)))++e)))->
  Bz (some (i+61,XS.map .int)) (fun v K env' μ'=>opt (AC [11] true v env') fun e=>ws lY (Ak lY prog n) hd cf K X e μ') (L.map .int) Q env (B S k m G st++g):=by
 induction L with
 |nil=>
  intro _ g xs env hi hj hl e1 e2 e3 e4 e5 h
  have h:=h env []
  (replace h:=jd▸h;rw[gE,gE,Bj hj]at h)
  exact⟨hi,h⟩
 |cons o L ih=>
  intro hL g xs env hi hj hl e1 e2 e3 e4 e5 h
  have ho:=hL o gK
  replace hl:=gR▸hl
  refine⟨hi,?_⟩
  refine Ab e1 ?_
  refine Ab e1 ?_
  refine Ab e2 ?_
  refine Ab e3 ?_
  refine WX hn GS h2 h7 ho.1 ho.2 ?_
  refine Ab e4 ?_
  refine Ab e5 ?_
  refine WK (gB (by decide) hn) GS (gM (by decide) ho.1) (gM ho.2 (kJ GS.top (by decide))) (hb.right (DB G kd o (A3 st))) hj (gZ (hJ _ _) hl) ?_
  intro e
  conv=>whnf
  have lg:(Fa o (Am (DB G kd o (A3 st)) target)).length<=20:=by unfold Fa;rw[gU];exact BI 20 _ _
  refine ih (fun s hs=>hL s (gA _ hs)) (g.set j (il (xs++Fa o (Am (DB G kd o (A3 st)) target)))++e) (xs++Fa o (Am (DB G kd o (A3 st)) target)) _ (Ac (by refine(gY ij).symm▸?_;exact hi) e) (Ac (AJ hj) e) (by refine List.length_append.symm▸?_;exact pe (nC _ _ _) (.add (.add (.add mj nF) (.mulL 20 mE)) (.num 1)) (.num 90000) (.add (.add mj (.mulL 20 (mu 1 1))) (.num 1)) (.num 90000) nF (.num 20) rfl hl lg) e1 e2 e3 e4 e5 fun env' e'=>?_
  (refine(AR (AJ hj)).symm▸?_;rewrite[hY];rewrite[gv];rewrite[gv])
  have h:=h env' (e++e')
  exact h
theorem Ev{Q:Ae}{xs:List Int}(hn:7<=n)(GS:G.l7)(L:st.nY G)(h2:2<=kd)(h7:kd<7)(hb:Bd G target)(hj:g[j]?=some (il xs))(hl:xs.length<80000)
  (h:∀e,Q .none (B S k m G st++(g.set j (il (xs++C8 G st kd target))++e))):CG n hd 169 [.lX 54,.int kd,.int target,.lX (j+61)] Q X (B S k m G st++g):=by
 refine stp hn fun n hn=>?_
 refine ZH (l6 hn rfl) ?_
 refine Jq (l6 hn rfl) h7 ?_
 have hp:Bd G (Am (st.si st.side) (st.kd kd)):=(L.si _).left _
 refine CC (l6 hn rfl) hp.1 (hp.top GS) ?_
 have hi:(g++[il (nD 20 (Am (st.si st.side) (st.kd kd)) 0)])[g.length]?=some (il (nD 20 (Am (st.si st.side) (st.kd kd)) 0)):=gw
 refine Ab (Be hi) ?_
 refine A0 ?_
 refine Qe (i:=g.length) (l6 hn rfl) GS (BY hj) h2 h7 hb _ (fun s hs=>⟨(hp.sq hs).1,(hp.sq hs).2.1⟩) _ xs _ hi (Ac hj _) (gZ (jb (iS 20 (BI 20 _ _)) _) (g7 (jm hl 400) (by decide))) rfl rfl rfl rfl rfl fun env' e=>?_
 (refine(AR hj).symm▸?_;rewrite[gv])
 exact h _
end
noncomputable def CY:Bool->Int
 |false=>4
 |true=> -4
noncomputable def BF(G:l8):Bool->Int
 |false=>Cv G.rankm (G.ranks - 1)
 |true=>Cv G.rankm 0
noncomputable def EN(G:l8)(b:Int):Bool->Int
 |false=>Am (b*2 ^ 4) G.full
 |true=>b.fdiv (2 ^ 4)
noncomputable def Do(x:Int):Int:= -x - 1
noncomputable def Md(G:l8)(b:Int)(c:Bool):Bool->Int
 |false=>EN G (Am b (Do (Cv G.files 3))) c*2 ^ 1
 |true=>(EN G (Am b (Do (Cv G.files 0))) c).fdiv (2 ^ 1)
noncomputable def PF(G:l8)(st:St):Int:=Am G.full (Do (A3 st))
noncomputable def C7(st:St)(c:Bool):Int:=Am (st.si c) st.k1
noncomputable def Cz(G:l8)(st:St)(c:Bool):Int:=Am (EN G (C7 st c) c) (PF G st)
theorem Bd.full{G:l8}(GS:G.l7):Bd G G.full:=⟨GS.sJ,GS.sK⟩
theorem Bd.fdiv{x:Int}(h:Bd G x)(j:Int)(hj:1<=j):Bd G (x.fdiv j):=by
 have h0:=h.1;have h1:=h.2
 rw[iA _ (by exact fa hj)]
 exact⟨jM h0 (by exact fa hj),jU (Int.ediv_le_self _ h0) h1⟩
theorem Bd.push{G:l8}(GS:G.l7)(h:Bd G b)(c:Bool):Bd G (EN G b c):=by
 cases c with
 |false=>exact(Bd.full GS).right _
 |true=>exact h.fdiv _ (by decide)
theorem Bd.small{G:l8}(GS:G.l7)(h:Bd G b):small b=true:=gz (by
 have:=h.top GS;have:=h.1
 exact g7 (m:=2 ^ 20) (by lia) (by decide))
section
variable{S:List Int}{k:Int}{m:Nat}{G:l8}{st:St}{g:MH}{n:Nat}{hd:Bool}{X:As}{μ:MH}
theorem Ps{Q:Ae}(hn:1<=n)(h:Q (.int (CY c)) (B S k m G st++g)):CG n hd 174 [.lX 18,.int (sd c)] Q X (B S k m G st++g):=by
 induction n using Nat.casesOn with
 |zero=>exact absurd hn (by decide)
 |succ n=>induction c<;>exact h
theorem Pp{Q:Ae}(hn:1<=n)(GS:G.l7)(h:Q (.int (BF G c)) (B S k m G st++g)):CG n hd 176 [.lX 18,.int (sd c)] Q X (B S k m G st++g):=by
 refine stp hn fun n hn=>?_
 have hr:=GS.ranks
 induction c with
 |false=>
  refine AO (xs:=G.rankm) rfl (by exact mJ (mo _) (.num 0) (.sub mh (.num 1)) (.num 1) mh rfl hr) (BK GS.rankm (by exact ow (mo _) (.add (.sub mh (.num 1)) (.num 1)) mh rfl)) ?_
  exact h
 |true=>
  refine AO (xs:=G.rankm) rfl (by decide) (BK GS.rankm (by assumption)) ?_
  exact h
theorem Pr{Q:Ae}(hn:1<=n)(hs:small b=true)(h:Q (.int (EN G b c)) (B S k m G st++g)):CG n hd 177 [.lX 18,.int b,.int (sd c)] Q X (B S k m G st++g):=by
 refine stp hn fun n hn=>?_
 induction c with
 |false=>
  refine Aj hs ?_
  exact h
 |true=>exact h
theorem dQ{Q:Ae}(hn:2<=n)(GS:G.l7)(hb:Bd G b)(h:Q (.int (Md G b c w)) (B S k m G st++g)):CG n hd 178 [.lX 18,.int b,.int (sd c),.int (sd w)] Q X (B S k m G st++g):=by
 refine stp hn fun n hn=>?_
 have hf:((G.files.length:Nat):Int)=4:=by refine GS.files.symm▸?_;rfl
 induction w with
 |false=>
  refine AO (xs:=G.files) rfl (by decide) (BK hf (by decide)) ?_
  refine Pr (l6 hn rfl) ((hb.left _).small GS) ?_
  refine Aj (((hb.left _).push GS c).small GS) ?_
  exact h
 |true=>
  refine AO (xs:=G.files) rfl (by decide) (BK hf (by decide)) ?_
  refine Pr (l6 hn rfl) ((hb.left _).small GS) ?_
  exact h
theorem QY{Q:Ae}(hn:2<=n)(GS:G.l7)(L:st.nY G)(h:Q (.tup [.int (Cz G st c),.int 0]) (B S k m G st++g)):CG n hd 184 [.lX 54,.int (sd c)] Q X (B S k m G st++g):=by
 refine stp hn fun n hn=>?_
 refine ZH (l6 hn rfl) ?_
 refine Jq (kd:=1) (l6 hn rfl) (by decide) ?_
 refine Pr (l6 hn rfl) (((L.si c).left _).small GS) ?_
 exact h
end
noncomputable def Ff(o t:Int):List Int:=[AH o t 3 1,AH o t 2 1,AH o t 1 1,AH o t 0 1]
noncomputable def stI:Bool->Int
 |false=>2
 |true=>3
noncomputable def ft:MS->MS
 |.ite _ a _=>a
 |s=>s
section
variable{S:List Int}{k:Int}{m:Nat}{G:l8}{st:St}{g:MH}{n:Nat}{hd:Bool}{X:As}{μ:MH}
theorem Fh{xs:List Int}:(B S k m G st++g).set (j+61) (.list (xs.map .int++[.int v]))=B S k m G st++g.set j (il (xs++[v])):=by rw[My];rfl
theorem BP:C6 (B S k m G st++g++[.list l]) (.lX (B S k m G st++g).length)=some (l,some (g.length+61,l)):=by
 show(By (B S k m G st++g++[.list l]) (g.length+61)).map (fun xs=>(xs,some (g.length+61,xs)))=_
 have e:(B S k m G st++g++[.list l])[(B S k m G st++g).length]?=some (.list l):=gw
 refine(CO (n:=g.length+61) e).symm▸?_;rfl
noncomputable def prB:MS:=fb (mS 0 (ft (mS 2 D4)))
theorem Yx{Q:Au}{XS:List Int}(hn:1<=n)(ij:j≠i)(o0:-1000<o)(o1:o<1000)(L:List Int):∀(_:∀p∈L, -1000<p - 2/\p - 2<1000) (g:MH) (xs:List Int) (env:An),g[i]?=some (il XS)->g[j]?=some (il xs)->xs.length+L.length<100000->env 31=some (.lX (j+61))->env 11=some (.int o)->env 12=some (.int t)->
  (∀env',Q .next env' (B S k m G st++g.set j (il (xs++L.map fun p=>AH o t (p - 2) 1))))->
  Bz (some (i+61,XS.map .int)) (fun v K env' μ'=>opt (AC [1] true v env') fun e=>ws lY (Ak lY prog n) hd prB K X e μ') (L.map .int) Q env (B S k m G st++g):=by
 induction L with
 |nil=>
  intro _ g xs env hi hj hl e1 e2 e3 h
  have h:=h env
  rw[show xs++([]:List Int).map (fun p=>AH o t (p - 2) 1)=xs from gE xs,Bj hj]at h
  exact⟨hi,h⟩
 |cons p L ih=>
  intro hL g xs env hi hj hl e1 e2 e3 h
  have hp:=hL p gK
  rw[gR]at hl
  refine⟨hi,?_⟩
  refine Ab e1 ?_
  refine Df hj ?_
  refine Ab e2 ?_
  refine Ab e3 ?_
  refine QW hn o0 o1 hp.1 hp.2 ?_
  refine Ab (Dz hj) ?_
  refine Aj (room (gZ (hJ _ _) hl)) ?_
  rw[Fh]
  refine ih (fun p hp=>hL p (gA _ hp)) (g.set j (il (xs++[AH o t (p - 2) 1]))) (xs++[AH o t (p - 2) 1]) _ (by rw[gY ij];exact hi) (AJ hj) (by rw[gy];show _+1+_<_;exact cn hl) e1 e2 e3 fun env'=>?_
  have h:=h env'
  rw[hY,gv]
  exact h
theorem QX{Q:Ae}{xs:List Int}(hn:2<=n)(o0:-1000<o)(o1:o<1000)(hj:g[j]?=some (il xs))(hl:xs.length<90000)
  (h:∀e,Q .none (B S k m G st++(g.set j (il (xs++Ff o t))++e))):CG n hd 187 [.int o,.int t,.int (stI ev),.bool ui,.lX (j+61)] Q X (B S k m G st++g):=by
 refine stp hn fun n hn=>?_
 have fin:Q .none (B S k m G st++(g.set j (il (xs++[AH o t 3 1]))++[il [4,3,2]]).set j (il (xs++[AH o t 3 1]++[4,3,2].map fun p=>AH o t (p - 2) 1))):=by
  (refine(AR (AJ hj)).symm▸?_;rewrite[hY];rewrite[gv])
  exact h _
 have rC:(xs++[AH o t 3 1]).length+3<100000:=by refine List.length_append.symm▸?_;show _+1+_<_;exact mP (mo _) (.add (.add (mu 0 1) (.num 3)) (.num 1)) (.num 100000) (mu 0 1) (.num 90000) rfl hl
 have hi:(g.set j (il (xs++[AH o t 3 1]))++[il [4,3,2]])[(g.set j (il (xs++[AH o t 3 1]))).length]?=some (il [4,3,2]):=gw
 cases ev
 all_goals
  refine Df hj ?_
  refine QW (p:=5) (l6 hn rfl) o0 o1 (by decide) (by decide) ?_
  refine Ab (Dz hj) ?_
  refine Aj (room (iv hl (by decide))) ?_
  refine Fh.symm▸?_
  refine Ab BP ?_
  refine A0 ?_
  refine Yx (i:=(g.set j (il (xs++[AH o t 3 1]))).length) (XS:=[4,3,2]) (l6 hn rfl) (BY (AJ hj)) o0 o1 [4,3,2] (by decide) (g.set j (il (xs++[AH o t 3 1]))++[il [4,3,2]]) (xs++[AH o t 3 1]) _ hi (Ac (AJ hj) _) rC rfl rfl rfl fun env'=>?_
  exact fin
end
noncomputable def CJ(G:l8)(st:St)(target:Int):List Int:=(nD 20 (Am (Am (Cz G st st.side) target) (Do (BF G st.side))) 0).map fun t=>AH (t - CY st.side) t 0 0
noncomputable def Fg(G:l8)(st:St)(target:Int):List Int:=(nD 20 (Am (Am (Cz G st st.side) target) (BF G st.side)) 0).flatMap fun t=>Ff (t - CY st.side) t
theorem IK(c:Bool):-5<CY c/\CY c<5:=by cases c<;>decide
theorem Bd.ones{G:l8}{st:St}(GS:G.l7)(L:st.nY G)(c:Bool):Bd G (Cz G st c):=(((L.si c).left _).push GS c).left _
theorem Eb(y:Int):Am 0 y=0:=by have:=Et (iy 0) y;lia
section
variable{S:List Int}{k:Int}{m:Nat}{G:l8}{st:St}{g:MH}{n:Nat}{hd:Bool}{X:As}{μ:MH}
noncomputable def plB:MS:=fb (mS 3 Dm)
theorem Yu{Q:Au}{XS:List Int}(hn:1<=n)(ij:j≠i)(s0:-10<s)(s1:s<10)(L:List Int):∀(_:∀t∈L,0<=t/\t<20) (g:MH) (xs:List Int) (env:An),g[i]?=some (il XS)->g[j]?=some (il xs)->xs.length+L.length<100000->env 31=some (.lX (j+61))->env 188=some (.int s)->
  (∀env',env' 31=env 31->env' 188=env 188->env' 179=env 179->env' 167=env 167->Q .next env' (B S k m G st++g.set j (il (xs++L.map fun t=>AH (t - s) t 0 0))))->
  Bz (some (i+61,XS.map .int)) (fun v K env' μ'=>opt (AC [61] true v env') fun e=>ws lY (Ak lY prog n) hd plB K X e μ') (L.map .int) Q env (B S k m G st++g):=by
 induction L with
 |nil=>
  intro _ g xs env hi hj hl e1 e2 h
  have h:=h env rfl rfl rfl rfl
  rw[show xs++([]:List Int).map (fun t=>AH (t - s) t 0 0)=xs from gE xs,Bj hj]at h
  exact⟨hi,h⟩
 |cons t L ih=>
  intro hL g xs env hi hj hl e1 e2 h
  have ht:=hL t gK
  rw[gR]at hl
  refine⟨hi,?_⟩
  refine Ab e1 ?_
  refine Df hj ?_
  refine Ab e2 ?_
  refine Pq hn (by exact YE s1 ht.1) (by exact YF s0 ht.2) ?_
  refine Ab (Dz hj) ?_
  refine Aj (room (gZ (hJ _ _) hl)) ?_
  rw[Fh]
  refine ih (fun p hp=>hL p (gA _ hp)) (g.set j (il (xs++[AH (t - s) t 0 0]))) (xs++[AH (t - s) t 0 0]) _ (by rw[gY ij];exact hi) (AJ hj) (by rw[gy];show _+1+_<_;exact cn hl) e1 e2 fun env' a b c d=>?_
  have h:=h env' a b c d
  rw[hY,gv]
  exact h
theorem WU{Q:Ae}{xs:List Int}(hn:3<=n)(GS:G.l7)(L:st.nY G)(hj:g[j]?=some (il xs))(hl:xs.length<80000)
  (h:∀e,Q .none (B S k m G st++(g.set j (il (xs++CJ G st target))++e))):CG n hd 189 [.lX 54,.int target,.lX (j+61)] Q X (B S k m G st++g):=by
 refine stp hn fun n hn=>?_
 refine Ps (l6 hn rfl) ?_
 refine QY (l6 hn rfl) GS L ?_
 refine Pp (l6 hn rfl) GS ?_
 have hb:Bd G (Am (Am (Cz G st st.side) target) (Do (BF G st.side))):=((Bd.ones GS L _).left _).left _
 refine CC (l6 hn rfl) hb.1 (hb.top GS) ?_
 have hi:(g++[il (nD 20 (Am (Am (Cz G st st.side) target) (Do (BF G st.side))) 0)])[g.length]?=some (il (nD 20 (Am (Am (Cz G st st.side) target) (Do (BF G st.side))) 0)):=gw
 refine Ab (Be hi) ?_
 refine A0 ?_
 refine Yu (i:=g.length) (l6 hn rfl) (BY hj) (iO (by decide) (IK _).1) (iO (IK _).2 (by decide)) _ (fun t ht=>⟨(hb.sq ht).1,gM (hb.sq ht).2.1 GS.top⟩) _ xs _ hi (Ac hj _) (gZ (jb (BI 20 _ _) _) (g7 (jm hl 20) (by decide))) rfl rfl fun env' a b c d=>?_
 refine(AR hj).symm▸?_
 refine Ab c ?_
 refine Ab d ?_
 conv=>whnf
 refine(show Builtin.bitAnd 0 target=0 from Eb target).symm▸?_
 refine CC (l6 hn rfl) (iy 0) (by decide) ?_
 have pW:((g.set j (il (xs++CJ G st target))++[il (nD 20 (Am (Am (Cz G st st.side) target) (Do (BF G st.side))) 0)])++[il []])[(g.set j (il (xs++CJ G st target))++[il (nD 20 (Am (Am (Cz G st st.side) target) (Do (BF G st.side))) 0)]).length]?=some (il []):=gw
 refine Ab (Be pW) ?_
 refine A0 ?_
 refine⟨pW,?_⟩
 exact(congrArg (fun z=>Q .none (B S k m G st++z)) (gv (g.set j (il (xs++CJ G st target))) _ _)).mpr (h _)
theorem S7(o t:Int):(Ff o t).length=4:=rfl
noncomputable def ppB:MS:=fb (mS 3 Cx)
theorem Yw{Q:Au}{XS:List Int}(hn:2<=n)(ij:j≠i)(s0:-10<s)(s1:s<10)(L:List Int):∀(_:∀t∈L,0<=t/\t<20) (g:MH) (xs:List Int) (env:An),g[i]?=some (il XS)->g[j]?=some (il xs)->xs.length+20*L.length<90000->env 31=some (.lX (j+61))->env 188=some (.int s)->env 170=some (.int (stI ev))->
  (∀env' e,Q .next env' (B S k m G st++(g.set j (il (xs++L.flatMap fun t=>Ff (t - s) t))++e)))->
  Bz (some (i+61,XS.map .int)) (fun v K env' μ'=>opt (AC [61] true v env') fun e=>ws lY (Ak lY prog n) hd ppB K X e μ') (L.map .int) Q env (B S k m G st++g):=by
 induction L with
 |nil=>
  intro _ g xs env hi hj hl e1 e2 e3 h
  have h:=h env []
  (replace h:=jd▸h;rw[gE,gE,Bj hj]at h)
  exact⟨hi,h⟩
 |cons t L ih=>
  intro hL g xs env hi hj hl e1 e2 e3 h
  have ht:=hL t gK
  replace hl:=gR▸hl
  refine⟨hi,?_⟩
  refine Ab e2 ?_
  refine Ab e3 ?_
  refine Ab e1 ?_
  refine QX hn (by exact YE s1 ht.1) (by exact YF s0 ht.2) hj (gZ (hJ _ _) hl) ?_
  intro e
  refine ih (fun s hs=>hL s (gA _ hs)) (g.set j (il (xs++Ff (t - s) t))++e) (xs++Ff (t - s) t) _ (Ac (by refine(gY ij).symm▸?_;exact hi) e) (Ac (AJ hj) e) (by(refine List.length_append.symm▸?_;rewrite[S7]);exact mP (mU _ _) (.add (.add (mu 0 4) (.mulL 20 mE)) (.num 1)) (.num 90000) (.add (.add mj (.mulL 20 (mu 1 1))) (.num 1)) (.num 90000) rfl hl) e1 e2 e3 fun env' e'=>?_
  (refine(AR (AJ hj)).symm▸?_;rewrite[hY];rewrite[gv];rewrite[gv])
  have h:=h env' (e++e')
  exact h
theorem WV{Q:Ae}{xs:List Int}(hn:3<=n)(GS:G.l7)(L:st.nY G)(hj:g[j]?=some (il xs))(hl:xs.length<80000)
  (h:∀e,Q .none (B S k m G st++(g.set j (il (xs++Fg G st target))++e))):CG n hd 190 [.lX 54,.int (stI ev),.int target,.lX (j+61)] Q X (B S k m G st++g):=by
 refine stp hn fun n hn=>?_
 refine Ps (l6 hn rfl) ?_
 refine QY (l6 hn rfl) GS L ?_
 refine Af rfl ?_
 refine Pp (l6 hn rfl) GS ?_
 have hb:Bd G (Am (Am (Cz G st st.side) target) (BF G st.side)):=((Bd.ones GS L _).left _).left _
 refine CC (l6 hn rfl) hb.1 (hb.top GS) ?_
 have hi:(g++[il (nD 20 (Am (Am (Cz G st st.side) target) (BF G st.side)) 0)])[g.length]?=some (il (nD 20 (Am (Am (Cz G st st.side) target) (BF G st.side)) 0)):=gw
 refine Ab (Be hi) ?_
 refine A0 ?_
 refine Yw (i:=g.length) (l6 hn rfl) (BY hj) (iO (by decide) (IK _).1) (iO (IK _).2 (by decide)) _ (fun t ht=>⟨(hb.sq ht).1,gM (hb.sq ht).2.1 GS.top⟩) _ xs _ hi (Ac hj _) (gZ (jb (iS 20 (BI 20 _ _)) _) (g7 (jm hl 400) (by decide))) rfl rfl rfl fun env' e=>?_
 (refine(AR hj).symm▸?_;rewrite[gv])
 exact h _
end
noncomputable def B2(c w:Bool):Int:=CY c+1 - 2*sd w
noncomputable def Ew(last s t:Int):List Int:=match Am last (1*2 ^ t.toNat) != 0 with
 |true=>Ff (t - s) t
 |false=>[AH (t - s) t 0 0]
noncomputable def Ig(G:l8)(st:St)(target:Int)(w:Bool):List Int:=(nD 20 (Am (Md G (C7 st st.side) st.side w) (Am target (st.si (!st.side)))) 0).flatMap (Ew (BF G st.side) (B2 st.side w))
noncomputable def CT(G:l8)(st:St)(target:Int):List Int:=CJ G st target++Fg G st target++Ig G st target false++Ig G st target true
theorem Jv(l s t:Int):(Ew l s t).length<=4:=by
 unfold Ew
 cases Am l (1*2 ^ t.toNat) != 0 with
 |true=>exact gF 4
 |false=>exact(by decide:1<=4)
theorem Jw(c w:Bool):-10<B2 c w/\B2 c w<10:=by induction c using Bool.casesOn<;>induction w using Bool.casesOn<;>decide
section
variable{S:List Int}{k:Int}{m:Nat}{G:l8}{st:St}{g:MH}{n:Nat}{hd:Bool}{X:As}{μ:MH}
noncomputable def cpB:MS:=fb (mS 1 (fb (mS 5 BX)))
theorem W8{Q:Au}{XS:List Int}(hn:2<=n)(ij:j≠i)(s0:-10<s)(s1:s<10)(L:List Int):∀(_:∀t∈L,0<=t/\t<20) (g:MH) (xs:List Int) (env:An),g[i]?=some (il XS)->g[j]?=some (il xs)->xs.length+20*L.length<90000->env 31=some (.lX (j+61))->env 188=some (.int s)->env 170=some (.int (stI ev))->env 191=some (.int l)->
  (∀env' e,(∀x,x≠61->env' x=env x)->Q .next env' (B S k m G st++(g.set j (il (xs++L.flatMap (Ew l s)))++e)))->
  Bz (some (i+61,XS.map .int)) (fun v K env' μ'=>opt (AC [61] true v env') fun e=>ws lY (Ak lY prog n) hd cpB K X e μ') (L.map .int) Q env (B S k m G st++g):=by
 induction L with
 |nil=>
  intro _ g xs env hi hj hl e1 e2 e3 e4 h
  have h:=h env [] fun _ _=>rfl
  (replace h:=jd▸h;rw[gE,gE,Bj hj]at h)
  exact⟨hi,h⟩
 |cons t L ih=>
  intro hL g xs env hi hj hl e1 e2 e3 e4 h
  have ht:=hL t gK
  have oN:=fun s hs=>hL s (gA t hs)
  have oD:=Jv l s t
  replace hl:=gR▸hl
  refine⟨hi,?_⟩
  refine Ab e4 ?_
  refine Aj (gz ht.1) ?_
  refine Aj (gz (iO ht.2 (by decide))) ?_
  have fin:∀e,Bz (some (i+61,XS.map .int)) (fun v K env' μ'=>opt (AC [61] true v env') fun e=>ws lY (Ak lY prog n) hd cpB K X e μ') (L.map .int) Q (Ad env 61 (.int t)) (B S k m G st++(g.set j (il (xs++Ew l s t))++e)):=fun e=>by
   refine ih oN (g.set j (il (xs++Ew l s t))++e) (xs++Ew l s t) _ (Ac (by refine(gY ij).symm▸?_;exact hi) e) (Ac (AJ hj) e) (by refine List.length_append.symm▸?_;exact pe (nC _ _ _) (.add (.add (.add mE mj) (.mulL 20 nF)) (.num 1)) (.num 90000) mj (.num 4) (.add (.add mE (.mulL 20 (mu 2 1))) (.num 1)) (.num 90000) rfl oD hl) e1 e2 e3 e4 fun env' e' hs=>?_
   (refine(AR (AJ hj)).symm▸?_;rewrite[hY];rewrite[gv];rewrite[gv])
   have h:=h env' (e++e') fun x hx=>(hs x hx).trans (iI hx)
   exact h
  unfold Ew at fin
  refine Ap (fun e=>?_) fun e=>?_
  ·have e:(Am l (1*2 ^ t.toNat) != 0)=true:=e
   replace fin:=e▸fin
   refine Ab e2 ?_
   refine Ab e3 ?_
   refine Ab e1 ?_
   refine QX hn (by exact YE s1 ht.1) (by exact YF s0 ht.2) hj (gZ (hJ _ _) hl) ?_
   exact fin
  ·have e:(Am l (1*2 ^ t.toNat) != 0)=false:=e
   replace fin:=e▸fin
   refine Ab e1 ?_
   refine Df hj ?_
   refine Ab e2 ?_
   refine Pq (gB (by decide) hn) (by exact YE s1 ht.1) (by exact YF s0 ht.2) ?_
   refine Ab (Dz hj) ?_
   refine Aj (room (gZ (hJ _ _) (iv hl (by decide)))) ?_
   refine Fh.symm▸?_
   have fin:=fin []
   rw[gE]at fin
   exact fin
noncomputable def wgB:MS:=fb (mS 5 BX)
theorem Ju(G:l8)(st:St)(t:Int)(w:Bool):(Ig G st t w).length<=400:=gB (GE (fun o=>gB (Jv _ _ o) (by decide)) _) (iS 20 (BI 20 _ _))
theorem Zr{Q:Au}(hn:3<=n+1)(GS:G.l7)(hp:Bd G (C7 st st.side))(hh:Bd G (Am target (st.si (!st.side))))(ij:j≠i)(L:List Bool):∀(g:MH) (xs:List Int) (env:An),g[i]?=some (.list XS)->g[j]?=some (il xs)->xs.length+400*L.length<80000->
  env 33=some (.lX 18)->env 0=some (.int (sd st.side))->env 191=some (.int (BF G st.side))->env 183=some (.int (C7 st st.side))->env 123=some (.int (Am target (st.si (!st.side))))->env 31=some (.lX (j+61))->env 170=some (.int (stI ev))->
  (∀env' e,Q .next env' (B S k m G st++(g.set j (il (xs++L.flatMap (Ig G st target)))++e)))->
  Bz (some (i+61,XS)) (fun v K env' μ'=>opt (AC [157] true v env') fun e=>ws lY (Ak lY prog n) hd wgB K X e μ') (L.map fun w=>.int (sd w)) Q env (B S k m G st++g):=by
 induction L with
 |nil=>
  intro g xs env hi hj hl e1 e2 e3 e4 e5 e6 e7 h
  have h:=h env []
  (replace h:=jd▸h;rw[gE,gE,Bj hj]at h)
  exact⟨hi,h⟩
 |cons w L ih=>
  intro g xs env hi hj hl e1 e2 e3 e4 e5 e6 e7 h
  have oD:=Ju G st target w
  replace hl:=gR▸hl
  refine⟨hi,?_⟩
  refine Ab e1 ?_
  refine Ab e2 ?_
  refine Ps (l6 hn rfl) ?_
  refine Aj (D1 (x:=sd w) (by induction w using Bool.casesOn<;>decide) (by induction w using Bool.casesOn<;>decide)) ?_
  refine Ab e1 ?_
  refine Ab e4 ?_
  refine Ab e2 ?_
  refine dQ (l6 hn rfl) GS hp ?_
  refine Ab e5 ?_
  have hb:Bd G (Am (Md G (C7 st st.side) st.side w) (Am target (st.si (!st.side)))):=hh.right _
  refine CC (l6 hn rfl) hb.1 (hb.top GS) ?_
  have pW:(g++[il (nD 20 (Am (Md G (C7 st st.side) st.side w) (Am target (st.si (!st.side)))) 0)])[g.length]?=some (il (nD 20 (Am (Md G (C7 st st.side) st.side w) (Am target (st.si (!st.side)))) 0)):=gw
  refine Ab (Be pW) ?_
  refine A0 ?_
  refine W8 (i:=g.length) (ev:=ev) (l6 hn rfl) (BY hj) (Jw st.side w).1 (Jw st.side w).2 _ (fun t ht=>⟨(hb.sq ht).1,gM (hb.sq ht).2.1 GS.top⟩) _ xs _ pW (Ac hj _) (gZ (jb (iS 20 (BI 20 _ _)) _) (by exact mP (mU _ _) (.add (.add mj (.mulL 20 (.num 20))) (.num 1)) (.num 90000) (.add (.add mj (.mulL 400 (mu 1 1))) (.num 1)) (.num 80000) rfl hl)) e6 rfl e7 e3 fun env' e hs=>?_
  (refine(AR hj).symm▸?_;rewrite[gv])
  have up:∀x v,x≠61->x≠188->x≠157->env x=some v->env' x=some v:=fun x v a b c d=>(hs x a).trans ((iI b).trans ((iI c).trans d))
  refine ih (g.set j (il (xs++Ig G st target w))++_) (xs++Ig G st target w) env' (Ac (by refine(gY ij).symm▸?_;exact hi) _) (Ac (AJ hj) _) (by refine List.length_append.symm▸?_;exact fc oD hl) (up _ _ (by decide) (by decide) (by decide) e1) (up _ _ (by decide) (by decide) (by decide) e2) (up _ _ (by decide) (by decide) (by decide) e3) (up _ _ (by decide) (by decide) (by decide) e4) (up _ _ (by decide) (by decide) (by decide) e5) (up _ _ (by decide) (by decide) (by decide) e6) (up _ _ (by decide) (by decide) (by decide) e7) fun env' e'=>?_
  (refine(AR (AJ hj)).symm▸?_;rewrite[hY];rewrite[gv];rewrite[gv])
  have h:=h env'
  exact h _
theorem aw{Q:Ae}{xs:List Int}(hn:4<=n)(GS:G.l7)(L:st.nY G)(hj:g[j]?=some (il xs))(hl:xs.length<70000)
  (h:∀e,Q .none (B S k m G st++(g.set j (il (xs++Ig G st target false++Ig G st target true))++e))):CG n hd 192 [.lX 54,.int (stI ev),.int target,.lX (j+61)] Q X (B S k m G st++g):=by
 refine stp hn fun n hn=>?_
 refine Pp (l6 hn rfl) GS ?_
 refine Jq (kd:=1) (l6 hn rfl) (by decide) ?_
 refine Af (Kg _) ?_
 refine Ab BP ?_
 refine A0 ?_
 refine Zr (target:=target) (i:=g.length) (XS:=[.int 0,.int 1]) (ev:=ev) (gB (by decide) hn) GS ((L.si _).left _) ((L.si _).right _) (BY hj) [false,true] (g++[.list [.int 0,.int 1]]) xs _ gw (Ac hj _) (g7 (jm hl _) (by decide)) ?_ ?_ ?_ ?_ ?_ ?_ ?_ fun env' e=>?_
 any_goals rfl
 (refine(AR hj).symm▸?_;rewrite[gv];rewrite[j2];rewrite[j2];rewrite[jd];rewrite[gE];rewrite[<- gv xs])
 exact h _
theorem VH{xs:List Int}(hl:xs.length<60000):(xs++CJ G st target).length<80000:=by
 rw[gy];unfold CJ;rw[gU];have:=BI 20 (Am (Am (Cz G st st.side) target) (Do (BF G st.side))) 0;lia
theorem YA{xs:List Int}(hl:xs.length<60000):(xs++CJ G st target++Fg G st target).length<70000:=by
 have h:(Fg G st target).length<=400:=gB (GE (f:=fun t=>Ff (t - CY st.side) t) (fun o=>by show 4<=20;decide) _) (iS 20 (BI 20 _ _))
 refine List.length_append.symm▸?_;rw[gy]at *;unfold CJ at *;rw[gU]at *;have:=BI 20 (Am (Am (Cz G st st.side) target) (Do (BF G st.side))) 0;lia
theorem T3{Q:Ae}{xs:List Int}(hn:5<=n)(GS:G.l7)(L:st.nY G)(hj:g[j]?=some (il xs))(hl:xs.length<60000)
  (h:∀e,Q .none (B S k m G st++(g.set j (il (xs++CT G st target))++e))):CG n hd 193 [.lX 54,.int (stI ev),.int target,.lX (j+61)] Q X (B S k m G st++g):=by
 refine stp hn fun n hn=>?_
 cases ev
 all_goals
  refine WU (l6 hn rfl) GS L hj (iv hl (by decide)) ?_
  intro e
  refine WV (l6 hn rfl) GS L (Ac (AJ hj) e) (VH hl) ?_
  intro e'
  refine aw (l6 hn rfl) GS L (Ac (AJ (Ac (AJ hj) e)) e') (YA hl) ?_
  intro tI
  rw[AR (AJ (Ac (AJ hj) e)),hY,AR (AJ hj),hY,gv,gv,gv (xs++CJ G st target++Fg G st target),show xs++CJ G st target++Fg G st target++(Ig G st target false++Ig G st target true)=xs++CT G st target by unfold CT;rw[gv,gv,gv,gv]]
  exact h _
end
noncomputable def ph(G:l8)(st:St)(given:Int):Int:=match given==0 with
 |true=>0
 |false=>match Am given (given - 1) != 0 with
  |true=>0
  |false=>bor given (AW G (Ax st st.side) (F9 20 given 0))
theorem Bd.or(hx:Bd G x)(hy:Bd G y):Bd G (bor x y):=by
 obtain⟨a,rfl⟩:=gD hx.1
 obtain⟨b,rfl⟩:=gD hy.1
 have e:(2:Int) ^ G.size.toNat=((2 ^ G.size.toNat:Nat):Int):=by rw[jL];rfl
 have h1:=hx.2
 have h2:=hy.2
 rw[e]at h1 h2
 have q:bor (a:Int) (b:Int)=((a||| b:Nat):Int):=Gi fun k=>by
  show tb (Builtin.bitOr _ _) k=(a||| b).testBit k
  rw[DC,jz];rfl
 rw[q]
 refine⟨gP _,?_⟩
 rw[e]
 have:=Nat.or_lt_two_pow (x:=a) (y:=b) (n:=G.size.toNat) (by exact Int.ofNat_lt.mp (cq h1)) (by exact Int.ofNat_lt.mp (cq h2))
 lia
theorem Bd.low{G:l8}(GS:G.l7)(h:Bd G b)(hb:b≠0):0<=F9 20 b 0/\F9 20 b 0<G.size:=by
 have h2:=h.2
 have e:(2:Int) ^ G.size.toNat=((2 ^ G.size.toNat:Nat):Int):=by rw[jL];rfl
 rw[e]at h2
 have ht:=h.top GS
 obtain⟨a,rfl⟩:=gD h.1
 obtain⟨j,hj,e1,e2⟩:=U5 20 a 0 (by lia) (by lia)
 rw[e2,j9]
 refine⟨gP j,?_⟩
 rcases iW j G.size.toNat with c|c
 ·lia
 ·have:(2:Nat) ^ G.size.toNat<=2 ^ j:=iz (by decide) c
  lia
noncomputable def EC(G:l8)(st:St):Int:=Am G.full (Do (st.si st.side))
noncomputable def oB(G:l8)(st:St):List Int:=(match ph G st (Bc G st st.side) != 0 with
 |true=>CT G st (ph G st (Bc G st st.side))++[2,3,4,5].flatMap fun kd=>C8 G st kd (ph G st (Bc G st st.side))
 |false=>[])++C8 G st 6 (EC G st)
noncomputable def LV(G:l8)(st:St):List Int:=CT G st G.full++[2,3,4,5,6].flatMap fun kd=>C8 G st kd (EC G st)
section
variable{S:List Int}{k:Int}{m:Nat}{G:l8}{st:St}{g:MH}{n:Nat}{hd:Bool}{X:As}{μ:MH}
theorem dS{Q:Ae}{given:Int}(hn:4<=n)(GS:G.l7)(L:st.nY G)(q0:0<=Ax st st.side)(q1:Ax st st.side<G.size)(hb:Bd G given)(h:Q (.int (ph G st given)) (B S k m G st++g)):CG n hd 199 [.lX 54,.int given] Q X (B S k m G st++g):=by
 refine stp hn fun n hn=>?_
 unfold ph at h
 refine Ap (fun e=>?_) fun e=>?_
 ·replace h:=e▸h;exact h
 ·replace h:=e▸h
  have h0:given≠0:=by intro z;subst z;exact FT e
  have hl:=hb.low GS h0
  refine TW (l6 hn rfl) ?_
  refine Ap (fun e=>?_) fun e=>?_
  ·rw[e]at h;exact h
  ·rw[e]at h
   refine Hh (l6 hn rfl) GS L ?_
   refine ZG (l6 hn rfl) hb.1 (hb.top GS) ?_
   refine K6 (l6 hn rfl) GS q0 q1 hl.1 hl.2 ?_
   exact h
theorem WP{Q:Ae}(hn:1<=n)(h:Q (.bool false) (B S k m G st++g)):CG n hd 201 [.lX 54,.int t] Q X (B S k m G st++g):=by
 induction n using Nat.casesOn with
 |zero=>exact absurd hn (by decide)
 |succ n=>exact h
theorem fU{Q:Ae}(hn:1<=n)(h:Q .none (B S k m G st++g)):CG n hd 197 [.lX 54,.lX j] Q X (B S k m G st++g):=by
 induction n using Nat.casesOn with
 |zero=>exact absurd hn (by decide)
 |succ n=>exact h
theorem W3{Q:Ae}(hn:1<=n)(h:Q (.int (EC G st)) (B S k m G st++g)):CG n hd 173 [.lX 54,.int 2] Q X (B S k m G st++g):=by
 refine stp hn fun n hn=>?_
 refine Af (BH _) ?_
 exact h
theorem NU{Q:Ae}(hn:1<=n)(h0:0<=i)(hi:i<4)(h:Q (.int 1) (B S k m G st++g)):CG n hd 161 [.lX 54,.int i] Q X (B S k m G st++g):=by
 refine stp hn fun n hn=>?_
 refine Af (v:=.none) (by rcases(by lia:i=0\/i=1\/i=2\/i=3)with rfl|rfl|rfl|rfl<;>rfl) ?_
 exact h
theorem TQ{Q:Ae}(hn:2<=n)(h:∀e,Q .none (B S k m G st++(g++e))):CG n hd 163 [.lX 54,.lX j] Q X (B S k m G st++g):=by
 refine stp hn fun n hn=>?_
 refine Aj (D1 (x:=sd st.side) (by cases st.side<;>decide) (by cases st.side<;>decide)) ?_
 refine Aj (D1 (x:=sd st.side) (by cases st.side<;>decide) (by cases st.side<;>decide)) ?_
 refine Ab BP ?_
 refine A0 ?_
 have hi:(g++[MO.list [.int (2*sd st.side),.int (2*sd st.side+1)]])[g.length]?=some (.list [.int (2*sd st.side),.int (2*sd st.side+1)]):=gw
 refine⟨hi,?_⟩
 refine NU (l6 hn rfl) (by cases st.side<;>decide) (by cases st.side<;>decide) ?_
 refine⟨hi,?_⟩
 refine NU (l6 hn rfl) (by cases st.side<;>decide) (by cases st.side<;>decide) ?_
 refine⟨hi,?_⟩
 exact h _
noncomputable def kdB:MS:=fb (mS 5 I8)
theorem Rr{Q:Au}(hn:7<=n)(GS:G.l7)(LO:st.nY G)(hb:Bd G target)(ij:j≠i)(L:List Nat):∀(_:∀kd∈L,2<=kd/\kd<7) (g:MH) (xs:List Int) (env:An),g[i]?=some (.list XS)->g[j]?=some (il xs)->xs.length+400*L.length<80000->
  env 102=some (.lX 54)->env 167=some (.int target)->env 31=some (.lX (j+61))->
  (∀env' e,(∀x,x≠1->env' x=env x)->Q .next env' (B S k m G st++(g.set j (il (xs++L.flatMap fun kd=>C8 G st kd target))++e)))->
  Bz (some (i+61,XS)) (fun v K env' μ'=>opt (AC [1] true v env') fun e=>ws lY (Ak lY prog n) hd kdB K X e μ') (L.map fun(kd:Nat)=>.int kd) Q env (B S k m G st++g):=by
 induction L with
 |nil=>
  intro _ g xs env hi hj hl e1 e2 e3 h
  have h:=h env [] fun _ _=>rfl
  (replace h:=jd▸h;rw[gE,gE,Bj hj]at h)
  exact⟨hi,h⟩
 |cons kd L ih=>
  intro hL g xs env hi hj hl e1 e2 e3 h
  have hk:=hL kd gK
  have oD:=Gb G st kd target
  replace hl:=gR▸hl
  refine⟨hi,?_⟩
  refine Ab e1 ?_
  refine Ab e2 ?_
  refine Ab e3 ?_
  refine Ev hn GS LO hk.1 hk.2 hb hj (gZ (hJ _ _) hl) ?_
  intro e
  refine ih (fun s hs=>hL s (gA _ hs)) (g.set j (il (xs++C8 G st kd target))++e) (xs++C8 G st kd target) _ (Ac (by refine(gY ij).symm▸?_;exact hi) e) (Ac (AJ hj) e) (by refine List.length_append.symm▸?_;exact fc oD hl) e1 e2 e3 fun env' e' hs=>?_
  (refine(AR (AJ hj)).symm▸?_;rewrite[hY];rewrite[gv];rewrite[gv])
  have h:=h env' (e++e') fun x hx=>(hs x hx).trans (iI hx)
  exact h
theorem Bd.ph{given:Int}(hb:Bd G given)(hr:∀a b,Bd G (AW G a b)):Bd G (ph G st given):=by
 have z:Bd G 0:=⟨iy 0,jD (by decide)⟩
 unfold Mine.ph
 cases given==0 with
 |true=>exact z
 |false=>
  cases Am given (given - 1) != 0 with
  |true=>exact z
  |false=>exact hb.or (hr _ _)
theorem FE(target:Int):(CT G st target).length<=2000:=by
 have p1:=BI 20 (Am (Am (Cz G st st.side) target) (Do (BF G st.side))) 0
 have p2:(Fg G st target).length<=400:=gB (GE (f:=fun t=>Ff (t - CY st.side) t) (fun o=>by show 4<=20;decide) _) (iS 20 (BI 20 _ _))
 have p3:=Ju G st target false
 have p4:=Ju G st target true
 unfold CT
 (refine List.length_append.symm▸?_;rewrite[gy];rewrite[gy])
 unfold CJ
 rw[gU]
 lia
theorem Ms(target:Int)(l:List Nat):(l.flatMap fun kd=>C8 G st kd target).length<=400*l.length:=by
 induction l with
 |nil=>exact gF 0
 |cons o l ih=>rw[j2,gy,gR];have:=Gb G st o target;lia
theorem WI{Q:Ae}{xs:List Int}(hn:8<=n)(GS:G.l7)(L:st.nY G)(q0:0<=Ax st st.side)(q1:Ax st st.side<G.size)(hr:∀a b,Bd G (AW G a b))(hj:g[j]?=some (il xs))(hl:xs.length<1000)
  (h:∀e,Q .none (B S k m G st++(g.set j (il (xs++oB G st))++e))):CG n hd 203 [.lX 54,.lX (j+61)] Q X (B S k m G st++g):=by
 refine stp hn fun n hn=>?_
 have hc:Bd G (Bc G st st.side):=(L.si _).right _
 have ht:Bd G (ph G st (Bc G st st.side)):=Bd.ph hc hr
 have ho:Bd G (EC G st):=(Bd.full GS).left _
 refine dR (l6 hn rfl) GS L q0 q1 ?_
 refine dS (l6 hn rfl) GS L q0 q1 hc ?_
 unfold oB at h
 revert h ht
 generalize ph G st (Bc G st st.side)=t
 intro h ht
 refine Ap (fun e=>?_) fun e=>?_
 ·replace h:=e▸h
  refine T3 (ev:=true) (l6 hn rfl) GS L hj (iv hl (by decide)) ?_
  intro e
  refine WP (l6 hn rfl) ?_
  refine Ab BP ?_
  refine A0 ?_
  have hp:=FE (G:=G) (st:=st) t
  refine Rr (target:=t) (i:=(g.set j (il (xs++CT G st t))++e).length) (XS:=[.int 2,.int 3,.int 4,.int 5]) (l6 hn rfl) GS L ht (BY (Ac (AJ hj) e)) [2,3,4,5] (by decide) ((g.set j (il (xs++CT G st t))++e)++[.list [.int 2,.int 3,.int 4,.int 5]]) (xs++CT G st t) _ gw (Ac (Ac (AJ hj) e) _) (by refine List.length_append.symm▸?_;show _+1600<_;exact pe (mU _ _) (.add (.add (.add mj mE) (.num 1600)) (.num 1)) (.num 80000) (mu 0 1) (.num 1000) mE (.num 2000) rfl hl hp) ?_ ?_ ?_ fun env' e' hs=>?_
  any_goals rfl
  (refine(AR (Ac (AJ hj) e)).symm▸?_;rewrite[AR (AJ hj)];rewrite[hY];rewrite[gv];rewrite[gv])
  have a1:env' 102=some (.lX 54):=hs 102 (by decide)
  have a2:env' 31=some (.lX (j+61)):=hs 31 (by decide)
  refine Ab a1 ?_
  refine Ab a1 ?_
  refine Ab a1 ?_
  refine Ab a1 ?_
  refine Af (BH _) ?_
  refine Ab a2 ?_
  refine Ev (kd:=6) (l6 hn rfl) GS L (by decide) (by decide) ho (Ac (AJ hj) _) (by(refine List.length_append.symm▸?_;refine List.length_append.symm▸?_);have:=Ms (G:=G) (st:=st) t [2,3,4,5];show _+_+_<_;have e4:400*[2,3,4,5].length=1600:=rfl;lia) ?_
  intro tI
  (refine(AR (AJ hj)).symm▸?_;rewrite[hY];rewrite[gv];rewrite[gv xs];rewrite[gv xs])
  exact h _
 ·replace h:=e▸h
  refine Af (BH _) ?_
  refine Ev (kd:=6) (l6 hn rfl) GS L (by decide) (by decide) ho hj (iv hl (by decide)) ?_
  intro tI
  exact h _
end
noncomputable def Ai(m:Int):Int:=Am (m.fdiv (2 ^ 6)) 63
noncomputable def md(m:Int):Int:=Am m 63
noncomputable def Bt(m:Int):Int:=Am (m.fdiv (2 ^ 14)) 3
noncomputable def Ah(m:Int):Int:=match Bt m != 1 with
 |true=>0
 |false=>Am (m.fdiv (2 ^ 12)) 3+2
structure B0(G:l8)(m:Int):Prop where
 f0:0<=Ai m
 f1:Ai m<G.size
 t0:0<=md m
 t1:md m<G.size
 sp:Bt m=0\/Bt m=1
noncomputable def Bs(G:l8)(st:St)(pin m:Int):Bool:=match Ai m==Ax st st.side with
 |true=>!Bq G st (md m) (!st.side) (Cw (A3 st) (1*2 ^ (Ax st st.side).toNat))
 |false=>match Am (pin.fdiv (2 ^ (Ai m).toNat)) 1==0 with
  |true=>true
  |false=>dO G (Ai m) (md m) (Ax st st.side)
section
variable{S:List Int}{k:Int}{m:Nat}{G:l8}{st:St}{g:MH}{n:Nat}{hd:Bool}{X:As}{μ:MH}
theorem TV{Q:Ae}(hn:9<=n)(GS:G.l7)(L:st.nY G)(q0:0<=Ax st st.side)(q1:Ax st st.side<G.size)(hr:∀a b,Bd G (AW G a b))
  (h:∀e,Q (.lX (g.length+61)) (B S k m G st++(g++[il (oB G st)]++e))):CG n hd 211 [.lX 54,.int 3] Q X (B S k m G st++g):=by
 refine stp hn fun n hn=>?_
 refine WI (j:=g.length) (xs:=[]) (g:=g++[il []]) (l6 hn rfl) GS L q0 q1 hr gw (by decide) ?_
 intro e
 rw[g9 _ _ (gF _),iC]
 exact h e
theorem aB{Q:Ae}(hn:8<=n)(GS:G.l7)(L:st.nY G)
  (h:∀e,Q (.lX (g.length+61)) (B S k m G st++(g++[il (LV G st)]++e))):CG n hd 211 [.lX 54,.int 2] Q X (B S k m G st++g):=by
 refine stp hn fun n hn=>?_
 have ho:Bd G (EC G st):=(Bd.full GS).left _
 have hp:=FE (G:=G) (st:=st) G.full
 refine W3 (g:=g++[il []]) (l6 hn rfl) ?_
 refine T3 (ev:=false) (j:=g.length) (xs:=[]) (g:=g++[il []]) (l6 hn rfl) GS L gw (by decide) ?_
 intro e
 rw[jJ,g9 _ _ (gF _),iC]
 have hj:(g++[il (CT G st G.full)])[g.length]?=some (il (CT G st G.full)):=gw
 refine fU (l6 hn rfl) ?_
 refine Ab BP ?_
 refine A0 ?_
 refine Rr (target:=EC G st) (j:=g.length) (i:=((g++[il (CT G st G.full)])++e).length) (XS:=[.int 2,.int 3,.int 4,.int 5,.int 6]) (l6 hn rfl) GS L ho (BY (Ac hj e)) [2,3,4,5,6] (by decide) (((g++[il (CT G st G.full)])++e)++[.list [.int 2,.int 3,.int 4,.int 5,.int 6]]) (CT G st G.full) _ gw (Ac (Ac hj e) _) (by show _+2000<_;exact mP (mo _) (.add (mu 0 2000) (.num 1)) (.num 80000) mj (.num 2000) rfl hp) ?_ ?_ ?_ fun env' e' hs=>?_
 any_goals rfl
 have a1:env' 102=some (.lX 54):=hs 102 (by decide)
 have a2:env' 31=some (.lX (g.length+61)):=hs 31 (by decide)
 have a3:env' 170=some (.int 2):=hs 170 (by decide)
 (refine(AR (Ac hj e)).symm▸?_;rewrite[AR hj];rewrite[g9 _ _ (gF _)];rewrite[iC];rewrite[gv];rewrite[gv (g++_)])
 refine Ab a3 ?_
 refine Ab a1 ?_
 refine Ab a2 ?_
 refine TQ (l6 hn rfl) ?_
 intro tI
 refine Ab a2 ?_
 rw[gv (g++_)]
 exact h _
theorem T4{Q:Ae}(hn:10<=n)(GS:G.l7)(L:st.nY G)(q0:0<=Ax st st.side)(q1:Ax st st.side<G.size)(hr:∀a b,Bd G (AW G a b))
  (h:∀e,Q (.lX (g.length+61)) (B S k m G st++(g++[il (match Bo G st st.side with|true=>oB G st|false=>LV G st)]++e))):CG n hd 213 [.lX 54] Q X (B S k m G st++g):=by
 refine stp hn fun n hn=>?_
 refine Ir (l6 hn rfl) GS L q0 q1 ?_
 refine Ap (fun e=>?_) fun e=>?_
 ·rw[e]at h
  exact TV (l6 hn rfl) GS L q0 q1 hr h
 ·rw[e]at h
  exact aB (l6 hn rfl) GS L h
theorem Eu{Q:Ae}(hn:1<=n)(h:Q (.int (Ai v)) μ):CG n hd 20 [.int v] Q X μ:=by
 induction n using Nat.casesOn with
 |zero=>exact absurd hn (by decide)
 |succ n=>exact h
theorem KL{Q:Ae}(hn:1<=n)(h:Q (.int (md v)) μ):CG n hd 21 [.int v] Q X μ:=by
 induction n using Nat.casesOn with
 |zero=>exact absurd hn (by decide)
 |succ n=>exact h
theorem EZ{Q:Ae}(hn:1<=n)(h:Q (.int (Bt v)) μ):CG n hd 22 [.int v] Q X μ:=by
 induction n using Nat.casesOn with
 |zero=>exact absurd hn (by decide)
 |succ n=>exact h
theorem K8{Q:Ae}(hn:5<=n)(GS:G.l7)(L:st.nY G)(q0:0<=Ax st st.side)(q1:Ax st st.side<G.size)(M:B0 G v)
  (h:Q (.bool (Bs G st pin v)) (B S k m G st++g)):CG n hd 210 [.lX 54,.int v,.int pin] Q X (B S k m G st++g):=by
 refine stp hn fun n hn=>?_
 unfold Bs at h
 refine EZ (l6 hn rfl) ?_
 rcases M.sp with e|e
 all_goals
  refine e.symm▸?_
  refine Eu (l6 hn rfl) ?_
  refine KL (l6 hn rfl) ?_
  refine Hh (l6 hn rfl) GS L ?_
  refine Ap (fun e=>?_) fun e=>?_
  ·replace h:=e▸h
   refine Af rfl ?_
   refine Af rfl ?_
   refine Aj (gz q0) ?_
   refine Aj (gz (gM q1 (kJ GS.top (by decide)))) ?_
   conv=>whnf
   rw[Gd]
   refine Jm (l6 hn rfl) GS M.t0 M.t1 ?_
   exact h
  ·rw[e]at h
   refine Aj (gz M.f0) ?_
   refine Ap (fun e=>?_) fun e=>?_
   ·have e:(Am (pin.fdiv (2 ^ (Ai v).toNat)) 1==0)=true:=e
    rw[e]at h;exact h
   ·have e:(Am (pin.fdiv (2 ^ (Ai v).toNat)) 1==0)=false:=e
    rw[e]at h
    exact au (l6 hn rfl) GS M.f0 M.f1 M.t0 q0 h
end
noncomputable def Cq(G:l8)(st:St):List Int:=match Bo G st st.side with|true=>oB G st|false=>LV G st
noncomputable def Ay(G:l8)(st:St):List Int:=(Cq G st).filter (Bs G st (C9 G st st.side))
section
variable{S:List Int}{k:Int}{m:Nat}{G:l8}{st:St}{g:MH}{n:Nat}{hd:Bool}{X:As}{μ:MH}
theorem A5{l:List Int}(h:g[j]?=some (il l)):(B S k m G st++g)[j+61]?=some (.list (l.map .int)):=h
noncomputable def keB:MS:=fb (mS 2 Gu)
theorem XG{Q:Au}{XS:List Int}(hn:5<=n)(GS:G.l7)(LO:st.nY G)(q0:0<=Ax st st.side)(q1:Ax st st.side<G.size)(ij:j≠i)(L:List Int):∀(_:∀v∈L,B0 G v) (g:MH) (xs:List Int) (env:An),g[i]?=some (il XS)->g[j]?=some (il xs)->xs.length+L.length<90000->
  env 102=some (.lX 54)->env 208=some (.int pin)->env 31=some (.lX (j+61))->
  (∀env',env' 31=some (.lX (j+61))->Q .next env' (B S k m G st++g.set j (il (xs++L.filter (Bs G st pin)))))->
  Bz (some (i+61,XS.map .int)) (fun v K env' μ'=>opt (AC [19] true v env') fun e=>ws lY (Ak lY prog n) hd keB K X e μ') (L.map .int) Q env (B S k m G st++g):=by
 induction L with
 |nil=>
  intro _ g xs env hi hj hl e1 e2 e3 h
  have h:=h env e3
  rw[kZ,gE,Bj hj]at h
  exact⟨hi,h⟩
 |cons v L ih=>
  intro hL g xs env hi hj hl e1 e2 e3 h
  have hv:=hL v gK
  have oN:∀v∈L,B0 G v:=fun s hs=>hL s (gA _ hs)
  rw[gR]at hl
  refine⟨hi,?_⟩
  refine Ab e1 ?_
  refine Ab e2 ?_
  refine K8 hn GS LO q0 q1 hv ?_
  refine Ap (fun e=>?_) fun e=>?_
  ·rw[je e]at h
   refine Ab e3 ?_
   refine Df hj ?_
   refine Ab (Dz hj) ?_
   refine Aj (room (gZ (hJ _ _) (iv hl (by decide)))) ?_
   rw[Fh]
   refine ih oN (g.set j (il (xs++[v]))) (xs++[v]) _ (by rw[gY ij];exact hi) (AJ hj) (by rw[gy];show _+1+_<_;exact S8 hl) e1 e2 e3 fun env' a=>?_
   have h:=h env' a
   rw[hY,gv]
   exact h
  ·rw[jf (by rw[e];exact iN)]at h
   exact ih oN g xs _ hi hj (by exact YG hl) e1 e2 e3 h
theorem aE{Q:Ae}{L:List Int}(hn:7<=n)(GS:G.l7)(LO:st.nY G)(q0:0<=Ax st st.side)(q1:Ax st st.side<G.size)(hL:∀v∈L,B0 G v)(hi:g[i]?=some (il L))(hl:L.length<80000)
  (h:∀e j,(g++e)[j]?=some (il (L.filter (Bs G st (C9 G st st.side))))->Q (.lX (j+61)) (B S k m G st++(g++e))):CG n hd 215 [.lX 54,.lX (i+61)] Q X (B S k m G st++g):=by
 refine stp hn fun n hn=>?_
 refine NT (l6 hn rfl) GS LO q0 q1 ?_
 intro e
 refine Ab (a:=(L.map .int,some (i+61,L.map .int))) ?_ ?_
 ·rw[gv (B S k m G st)]
  exact Be (Ac (Ac hi e) _)
 refine A0 ?_
 refine XG (j:=(g++e).length) (i:=i) (pin:=C9 G st st.side) (l6 hn rfl) GS LO q0 q1 (iK (BY (Ac hi e))) L hL ((g++e)++[il []]) [] _ (Ac (Ac hi e) _) gw (by show 0+_<_;exact YH hl) ?_ ?_ ?_ fun env' a=>?_
 any_goals rfl
 refine Ab a ?_
 rw[g9 _ _ (gF _),iC,gv]
 refine h _ _ ?_
 rw[<- gv]
 exact gw
theorem Fr{Q:Ae}(hn:11<=n)(GS:G.l7)(LO:st.nY G)(q0:0<=Ax st st.side)(q1:Ax st st.side<G.size)(hr:∀a b,Bd G (AW G a b))(hL:∀v∈Cq G st,B0 G v)(hl:(Cq G st).length<80000)
  (h:∀e j,(g++e)[j]?=some (il (Ay G st))->Q (.lX (j+61)) (B S k m G st++(g++e))):CG n hd 216 [.lX 54] Q X (B S k m G st++g):=by
 refine stp hn fun n hn=>?_
 refine T4 (l6 hn rfl) GS LO q0 q1 hr ?_
 intro e
 have hi:(g++[il (Cq G st)])[g.length]?=some (il (Cq G st)):=gw
 refine aE (l6 hn rfl) GS LO q0 q1 hL (Ac hi e) hl ?_
 intro e' j hj
 rw[gv,gv]at hj ⊢
 exact h _ _ hj
end
theorem UL(h:μ[n]?=some (.list xs)):C6 μ (.lX n)=some (xs,some (n,xs)):=by
 show(By μ n).map _=_
 rw[CO h];rfl
section
variable{S:List Int}{k:Int}{m:Nat}{G:l8}{st:St}{g:MH}{n:Nat}{hd:Bool}{X:As}{μ:MH}
noncomputable def haB:MS:=fb (mS 0 (fb (mS 2 D6)))
theorem Xz{Q:Au}{XS:List Int}(hn:5<=n)(GS:G.l7)(LO:st.nY G)(q0:0<=Ax st st.side)(q1:Ax st st.side<G.size)(hi:g[i]?=some (il XS))(L:List Int):∀(_:∀v∈L,B0 G v) (env:An),
  env 102=some (.lX 54)->env 208=some (.int pin)->
  (∀env',match L.any (Bs G st pin)with|true=>Q (.ret (.bool true)) env' (B S k m G st++g)|false=>Q .next env' (B S k m G st++g))->
  Bz (some (i+61,XS.map .int)) (fun v K env' μ'=>opt (AC [19] true v env') fun e=>ws lY (Ak lY prog n) hd haB K X e μ') (L.map .int) Q env (B S k m G st++g):=by
 induction L with
 |nil=>intro _ env e1 e2 h;exact⟨hi,h env⟩
 |cons v L ih=>
  intro hL env e1 e2 h
  have hv:=hL v gK
  refine⟨hi,?_⟩
  refine Ab e1 ?_
  refine Ab e2 ?_
  refine K8 hn GS LO q0 q1 hv ?_
  rw[lq]at h
  refine Ap (fun e=>?_) fun e=>?_
  ·rw[e]at h;exact h _
  ·rw[e,iG]at h
   exact ih (fun s hs=>hL s (gA _ hs)) _ e1 e2 h
theorem dU{Q:Ae}(hn:10<=n)(GS:G.l7)(LO:st.nY G)(q0:0<=Ax st st.side)(q1:Ax st st.side<G.size)(hr:∀a b,Bd G (AW G a b))(hL:∀v∈oB G st,B0 G v)(hc:Bo G st st.side=true)
  (h:∀e,Q (.bool ((oB G st).any (Bs G st (C9 G st st.side)))) (B S k m G st++(g++e))):CG n hd 218 [.lX 54] Q X (B S k m G st++g):=by
 refine stp hn fun n hn=>?_
 refine Ir (l6 hn rfl) GS LO q0 q1 ?_
 refine hc.symm▸?_
 conv=>whnf
 refine NT (l6 hn rfl) GS LO q0 q1 ?_
 intro e
 have h1:((g++[MO.list [.int 3]])++e)[g.length]?=some (.list [.int 3]):=Ac gw e
 refine Ab (a:=([.int 3],some (g.length+61,[.int 3]))) (UL (μ:=B S k m G st++(g++[MO.list [.int 3]]++e)) (n:=g.length+61) h1) ?_
 refine A0 ?_
 refine⟨h1,?_⟩
 refine TV (l6 hn rfl) GS LO q0 q1 hr ?_
 intro e'
 have hi:((g++[MO.list [.int 3]])++e++[il (oB G st)]++e')[((g++[MO.list [.int 3]])++e).length]?=some (il (oB G st)):=Ac gw e'
 refine Ab (Be hi) ?_
 refine A0 ?_
 have h2:=h ([MO.list [.int 3]]++(e++([il (oB G st)]++e')))
 refine Xz (pin:=C9 G st st.side) (l6 hn rfl) GS LO q0 q1 hi (oB G st) hL _ ?_ ?_ fun env'=>?_
 any_goals rfl
 revert h2
 cases(oB G st).any (Bs G st (C9 G st st.side)) with
 |true=>
  intro h2
  rw[gv,gv,gv]
  exact h2
 |false=>
  intro h2
  refine⟨Ac (Ac h1 _) _,?_⟩
  rw[gv,gv,gv]
  exact h2
end
noncomputable def pc(c:Bool)(kd:Nat):Int:=sd c*8+kd
noncomputable def St.nJ(st:St)(kd:Nat)(v:Int):St:=match kd with
 |0=>{st with k0:=v}|1=>{st with k1:=v}|2=>{st with k2:=v}|3=>{st with k3:=v}|4=>{st with k4:=v}|5=>{st with k5:=v}|_=>{st with k6:=v}
noncomputable def St.setB(st:St)(i:Nat)(p:Int):St:={st with board:=st.board.set i p}
noncomputable def St.m7(st:St)(v:Int):St:={st with key:=v}
noncomputable def St.nT(st:St)(c:Bool)(v:Int):St:=match c with
 |false=>{st with s0:=v}|true=>{st with s1:=v}
noncomputable def pn:Bool->Nat->Nat
 |false,kd=>kd
 |true,kd=>8+kd
noncomputable def zk(m:Nat)(c:Bool)(kd:Nat)(s:Int):Int:=((List.range m).map fun(s:Nat)=>pc c kd*64+(s:Int)+1).getD s.toNat 0
noncomputable def Bu(m:Nat)(st:St)(c:Bool)(kd:Nat)(s:Int):St:=
 let a:=st.setB s.toNat (pc c kd)
 let b:=a.nJ kd (bor (a.kd kd) (1*2 ^ s.toNat))
 let d:=b.nT c (bor (b.si c) (1*2 ^ s.toNat))
 d.m7 (Cw b.key (zk m c kd s))
noncomputable def BZ(m:Nat)(st:St)(c:Bool)(kd:Nat)(s:Int):St:=
 let a:=st.setB s.toNat 0
 let b:=a.nJ kd (Cw (a.kd kd) (1*2 ^ s.toNat))
 let d:=b.nT c (Cw (b.si c) (1*2 ^ s.toNat))
 d.m7 (Cw b.key (zk m c kd s))
noncomputable def DQ(m:Nat)(st:St)(c:Bool)(kd:Nat)(x y:Int):St:=
 let a:=(st.setB x.toNat 0).setB y.toNat (pc c kd)
 let b:=a.nJ kd (Cw (a.kd kd) (bor (1*2 ^ x.toNat) (1*2 ^ y.toNat)))
 let d:=b.nT c (Cw (b.si c) (bor (1*2 ^ x.toNat) (1*2 ^ y.toNat)))
 d.m7 (Cw d.key (Cw (zk m c kd x) (zk m c kd y)))
section
variable{S:List Int}{k:Int}{m:Nat}{G:l8}{st:St}{g:MH}{n:Nat}{hd:Bool}{X:As}{μ:MH}
theorem Jp{Q:Ae}(hn:1<=n)(h:Q (.int (pc c kd)) μ):CG n hd 2 [.int (sd c),.int kd] Q X μ:=by
 refine stp hn fun n hn=>?_
 refine Aj (D1 (x:=sd c) (by induction c using Bool.casesOn<;>decide) (by induction c using Bool.casesOn<;>decide)) ?_
 exact h
theorem IF(c:Bool)(h:kd<8):Builtin.bitAnd (pc c kd) 7=kd:=by
 rcases(by lia:kd=0\/kd=1\/kd=2\/kd=3\/kd=4\/kd=5\/kd=6\/kd=7)with rfl|rfl|rfl|rfl|rfl|rfl|rfl|rfl<;>induction c<;>rfl
theorem M3(c:Bool)(h:kd<8):(pc c kd).fdiv (2 ^ 3)=sd c:=by
 rcases(by lia:kd=0\/kd=1\/kd=2\/kd=3\/kd=4\/kd=5\/kd=6\/kd=7)with rfl|rfl|rfl|rfl|rfl|rfl|rfl|rfl<;>induction c<;>rfl
theorem Ec{Q:Ae}{c:Bool}{kd:Nat}(hn:1<=n)(h8:kd<8)(h:Q (.int kd) μ):CG n hd 5 [.int (pc c kd)] Q X μ:=by
 refine stp hn fun n hn=>?_
 have e:=IF c h8
 replace h:=(e).symm▸h
 exact h
theorem Gw{Q:Ae}(hn:1<=n)(h8:kd<8)(h:Q (.int (sd c)) μ):CG n hd 4 [.int (pc c kd)] Q X μ:=by
 refine stp hn fun n hn=>?_
 have e:=M3 c h8
 replace h:=(e).symm▸h
 exact h
theorem Fq(hl:(st.board.length:Int)=G.size)(h:s<G.size):decide (s<((st.board.map V.int).length:Int))=true:=gz (by rw[gU,hl];exact h)
theorem Ey:(B S k m G st++g).set 56 (.list ((st.board.map .int).set i (.int p)))=B S k m G (st.setB i p)++g:=by
 rw[show(MO.list ((st.board.map V.int).set i (.int p)))=il (st.board.set i p) by unfold il;rw[List.map_set]];rfl
theorem Hw{a b c d e f g:Int}{kd:Nat}(h:kd<7):decide ((kd:Int)<(([a,b,c,d,e,f,g].map V.int).length:Int))=true:=gz (by show(kd:Int)<7;exact mJ (mo _) (mm 0 1) (.num 7) (mm 0 1) (.num 7) rfl (Int.ofNat_lt.mpr h))
theorem F7{kd:Nat}{v:Int}(h:kd<7):(B S k m G st++g).set 58 (.list (([st.k0,st.k1,st.k2,st.k3,st.k4,st.k5,st.k6].map V.int).set (kd:Int).toNat (.int v)))=B S k m G (st.nJ kd v)++g:=by
 exact pS h rfl rfl rfl rfl rfl rfl rfl
theorem Nb(c:Bool):decide (0<=sd c)=true:=by cases c<;>rfl
theorem Nc(c:Bool):decide (sd c<(([a,b].map V.int).length:Int))=true:=by cases c<;>rfl
theorem F8:(B S k m G st++g).set 59 (.list (([st.s0,st.s1].map V.int).set (sd c).toNat (.int v)))=B S k m G (st.nT c v)++g:=by induction c<;>rfl
theorem QN(c:Bool)(h:kd<7):B8 (B S k m G st++g) (.lX 2) (.int (pc c kd))=some (.lX (3+pn c kd))/\(B S k m G st++g)[3+pn c kd]?=some (il ((List.range m).map fun(s:Nat)=>pc c kd*64+(s:Int)+1)):=by
 cases c
 ·exact pS h ⟨rfl,rfl⟩ ⟨rfl,rfl⟩ ⟨rfl,rfl⟩ ⟨rfl,rfl⟩ ⟨rfl,rfl⟩ ⟨rfl,rfl⟩ ⟨rfl,rfl⟩
 ·exact pS h ⟨rfl,rfl⟩ ⟨rfl,rfl⟩ ⟨rfl,rfl⟩ ⟨rfl,rfl⟩ ⟨rfl,rfl⟩ ⟨rfl,rfl⟩ ⟨rfl,rfl⟩
theorem Zw{f:Nat->Int}(hm:(m:Int)=G.size)(h:s<G.size):s<((((List.range m).map f).length:Nat):Int):=by rw[gU,jZ,hm];exact h
theorem K9{Q:Ae}(hn:2<=n)(h7:kd<7)(s0:0<=s)(s1:s<20)(tp:s<G.size)(hl:(st.board.length:Int)=G.size)(hm:(m:Int)=G.size)(h:Q .none (B S k m G (Bu m st c kd s)++g)) :
  CG n hd 111 [.lX 54,.int (pc c kd),.int s] Q X (B S k m G st++g):=by
 refine stp hn fun n hn=>?_
 refine Aj (gz s0) ?_
 refine Aj (gz (iO s1 (by decide))) ?_
 refine Aj (gz s0) ?_
 refine Aj (Fq hl tp) ?_
 rw[Ey]
 refine Ec (l6 hn rfl) (g6 h7) ?_
 refine Af (Iz h7) ?_
 refine Aj (Hw h7) ?_
 rw[F7 h7]
 refine Gw (l6 hn rfl) (g6 h7) ?_
 refine Af (BH c) ?_
 refine Aj (Nb c) ?_
 refine Aj (Nc c) ?_
 conv=>whnf
 rw[F8]
 refine Af (QN c h7).1 ?_
 refine AO (QN c h7).2 s0 (Zw hm tp) ?_
 exact h
theorem B1{s:Int}{K:V->Prop}(s0:0<=s)(hp:st.board[s.toNat]?=some p)(h:K (.int p)):@Option.rec V (fun _=>Prop) False (fun a=>K a) (OS (B S k m G st++g) (.lX 56) (.int s)):=by
 have hl:s.toNat<st.board.length:=by
  rcases iW s.toNat st.board.length with c|c
  ·exact c
  ·exact AM (iq c) hp
 refine AO (xs:=st.board) rfl s0 (by lia) ?_
 (refine List.getD_eq_getElem?_getD.symm▸?_;refine hp.symm▸?_);exact h
theorem Mc{Q:Ae}{s:Int}(hn:2<=n)(h7:kd<7)(s0:0<=s)(s1:s<20)(tp:s<G.size)(hl:(st.board.length:Int)=G.size)(hm:(m:Int)=G.size)(hp:st.board[s.toNat]?=some (pc c kd))(h:Q (.int (pc c kd)) (B S k m G (BZ m st c kd s)++g)) :
  CG n hd 112 [.lX 54,.int s] Q X (B S k m G st++g):=by
 refine stp hn fun n hn=>?_
 refine B1 s0 hp ?_
 refine Aj (gz s0) ?_
 refine Aj (gz (iO s1 (by decide))) ?_
 refine Aj (gz s0) ?_
 refine Aj (Fq hl tp) ?_
 rw[Ey]
 refine Ec (l6 hn rfl) (g6 h7) ?_
 refine Af (Iz h7) ?_
 refine Aj (Hw h7) ?_
 rw[F7 h7]
 refine Gw (l6 hn rfl) (g6 h7) ?_
 refine Af (BH c) ?_
 refine Aj (Nb c) ?_
 refine Aj (Nc c) ?_
 conv=>whnf
 rw[F8]
 refine Af (QN c h7).1 ?_
 refine AO (QN c h7).2 s0 (Zw hm tp) ?_
 exact h
theorem QZ{Q:Ae}{a:Int}(hn:2<=n)(h7:kd<7)(a0:0<=a)(a1:a<20)(a1':a<G.size)(b0:0<=b)(b1:b<20)(b1':b<G.size)(hl:(st.board.length:Int)=G.size)(hm:(m:Int)=G.size)(hp:st.board[a.toNat]?=some (pc c kd))(h:Q .none (B S k m G (DQ m st c kd a b)++g)) :
  CG n hd 115 [.lX 54,.int a,.int b] Q X (B S k m G st++g):=by
 refine stp hn fun n hn=>?_
 refine B1 a0 hp ?_
 refine Aj (gz a0) ?_
 refine Aj (gz (iO a1 (by decide))) ?_
 refine Aj (gz b0) ?_
 refine Aj (gz (iO b1 (by decide))) ?_
 refine Aj (gz a0) ?_
 refine Aj (Fq hl a1') ?_
 rw[Ey]
 refine Aj (gz b0) ?_
 refine Aj (Fq (st:=st.setB a.toNat 0) (by refine(show(st.setB a.toNat 0).board.length=st.board.length from jK).symm▸?_;exact hl) b1') ?_
 rw[Ey]
 refine Ec (l6 hn rfl) (g6 h7) ?_
 refine Af (Iz h7) ?_
 refine Aj (Hw h7) ?_
 rw[F7 h7]
 refine Gw (l6 hn rfl) (g6 h7) ?_
 refine Af (BH c) ?_
 refine Aj (Nb c) ?_
 refine Aj (Nc c) ?_
 conv=>whnf
 rw[F8]
 refine Af (QN c h7).1 ?_
 refine AO (QN c h7).2 a0 (Zw hm a1') ?_
 refine AO (QN c h7).2 b0 (Zw hm b1') ?_
 exact h
end
theorem Zu(a b:Nat):Cw (a:Int) (b:Int)=(((a||| b) - (a&&& b):Nat):Int):=by
 have q:Builtin.bitOr (a:Int) (b:Int)=((a||| b:Nat):Int):=Gi fun k=>by rw[DC];show _=(a||| b).testBit k;rw[jz];rfl
 show Builtin.bitOr (a:Int) (b:Int) - ((a&&& b:Nat):Int)=_
 refine q.symm▸?_
 have:a&&& b<=a:=i9
 have:a<=a||| b:=Nat.left_le_or
 lia
theorem Km(hx:0<=x)(hy:0<=y)(k:Nat):tb (Cw x y) k=(tb x k ^^ tb y k):=by
 obtain⟨a,rfl⟩:=gD hx
 obtain⟨b,rfl⟩:=gD hy
 rw[Zu]
 show((a||| b) - (a&&& b)).testBit k=(a.testBit k ^^ b.testBit k)
 have e:a&&& b=(a||| b)&&& (a&&& b):=jG fun k=>by
  rw[i8,i8,jz,i8]
  cases a.testBit k<;>cases b.testBit k<;>rfl
 (refine e.symm▸?_;rewrite[RU];rewrite[jz];rewrite[i8])
 cases a.testBit k<;>cases b.testBit k<;>rfl
theorem HI(s:Int)(k:Nat):tb (1*2 ^ s.toNat) k=decide (s.toNat=k):=by
 rw[Int.one_mul]
 show(2 ^ s.toNat).testBit k=_
 exact Nat.testBit_two_pow
theorem Iq(s:Int):0<=(1:Int)*2 ^ s.toNat:=by rw[Int.one_mul];exact jg (jD (by decide))
theorem ZC(h:∀k,n<=k->tb x k=false):0<=x/\x<2 ^ n:=by
 induction x with
 |ofNat a=>
  refine⟨gP a,?_⟩
  have:a<2 ^ n:=Nat.lt_pow_two_of_testBit a fun k hk=>h k hk
  exact Int.ofNat_lt.mpr this
 |negSucc a=>
  have h1:=h (n+a) (hJ _ _)
  have h2:a.testBit (n+a)=false:=iX (g7 kA (iz (by decide) (ji _ _)))
  have h1:(!a.testBit (n+a))=false:=h1
  replace h1:=h2▸h1;exact FT h1
noncomputable def Of(p:Int)(kd:Nat):Bool:=p != 0&&Builtin.bitAnd p 7==(kd:Int)
noncomputable def PO(p:Int)(c:Bool):Bool:=p != 0&&p.fdiv (2 ^ 3)==sd c
noncomputable def AB(b:List Int)(k:Nat):Int:=b.getD k 0
theorem CX{b:List Int}(h:i<b.length)(k:Nat):AB (b.set i p) k=if i=k then p else AB b k:=by
 unfold AB
 rw[gV,j0]
 split
 ·rfl
 ·rfl
theorem Eo(c:Bool)(h:1<=kd):pc c kd≠0:=by unfold pc;induction c<;>simp only[sd]<;>lia
theorem Cm(c:Bool)(h:1<=kd)(h7:kd<7)(q:Nat):Of (pc c kd) q=decide (kd=q):=by
 unfold Of
 rw[bne_iff_ne.mpr (Eo c h),IF c (by exact YI h7)]
 rw[jN];simp;lia
theorem Cn(c:Bool)(h:1<=kd)(h7:kd<7)(q:Bool):PO (pc c kd) q=decide (c=q):=by
 unfold PO
 (refine(bne_iff_ne.mpr (Eo c h)).symm▸?_;rewrite[M3 c (by exact YI h7)])
 induction c using Bool.casesOn<;>induction q using Bool.casesOn<;>rfl
structure mG(G:l8)(st:St):Prop where
 len:(st.board.length:Int)=G.size
 rM:∀k,AB st.board k=0\/∃c kd,1<=kd/\kd<7/\AB st.board k=pc c kd
 kb:∀kd,1<=kd->kd<7->∀k,tb (st.kd kd) k=Of (AB st.board k) kd
 sb:∀c k,tb (st.si c) k=PO (AB st.board k) c
 k0:st.k0=0
theorem ON{b:List Int}(h:b.length<=k):AB b k=0:=by unfold AB;rw[gV,iq h];rfl
theorem Cu{b:List Int}(h:k<b.length):b[k]?=some (AB b k):=by unfold AB;rw[gV,gW h];rfl
theorem mG.bdK{st:St}(C:mG G st)(h:1<=kd)(h7:kd<7):Bd G (st.kd kd):=ZC fun k hk=>by
 have:=C.len
 rw[C.kb kd h h7,ON (by lia)];rfl
theorem mG.pK{st:St}(C:mG G st)(c:Bool):Bd G (st.si c):=ZC fun k hk=>by
 have:=C.len
 rw[C.sb c,ON (by lia)];rfl
theorem mG.low{st:St}(C:mG G st):st.nY G:=⟨C.pK false,C.pK true⟩
theorem Y2(st:St)(v:Int)(ha:a<7)(hb:b<7):(st.nJ a v).kd b=if a=b then v else st.kd b:=by
 exact pS ha (pS hb rfl rfl rfl rfl rfl rfl rfl) (pS hb rfl rfl rfl rfl rfl rfl rfl) (pS hb rfl rfl rfl rfl rfl rfl rfl) (pS hb rfl rfl rfl rfl rfl rfl rfl) (pS hb rfl rfl rfl rfl rfl rfl rfl) (pS hb rfl rfl rfl rfl rfl rfl rfl) (pS hb rfl rfl rfl rfl rfl rfl rfl)
theorem II(st:St)(a:Nat)(v:Int)(c:Bool):(st.nJ a v).si c=st.si c:=by
 rcases a with _|_|_|_|_|_|_<;>induction c<;>rfl
theorem Qr(st:St)(a:Nat)(v:Int):(st.nJ a v).board=st.board:=by rcases a with _|_|_|_|_|_|_<;>rfl
theorem Y1(st:St)(v:Int)(h:1<=a):(st.nJ a v).k0=st.k0:=by
 rcases a with _|_|_|_|_|_|_<;>first|rfl|exact absurd h (by decide)
theorem Y5(st:St)(c:Bool)(v:Int)(d:Bool):(st.nT c v).si d=if c=d then v else st.si d:=by induction c using Bool.casesOn<;>induction d using Bool.casesOn<;>rfl
theorem Y4(st:St)(c:Bool)(v:Int)(a:Nat):(st.nT c v).kd a=st.kd a:=by cases c<;>rfl
theorem Qt(st:St)(c:Bool)(v:Int):(st.nT c v).board=st.board:=by cases c<;>rfl
theorem Y3(st:St)(c:Bool)(v:Int):(st.nT c v).k0=st.k0:=by cases c<;>rfl
structure Upd(st m9:St)(b:List Int)(c:Bool)(kd:Nat)(vk vs:Int):Prop where
 board:m9.board=b
 kd:∀q,q<7->m9.kd q=if kd=q then vk else st.kd q
 si:∀d,m9.si d=if c=d then vs else st.si d
 k0:m9.k0=st.k0
theorem QJ{st:St}{b:List Int}{c:Bool}{kd:Nat}{vk vs:Int}{f:St->St}(h1:1<=kd)(h7:kd<7)(hf:∀s,(f s).board=s.board/\(∀q,(f s).kd q=s.kd q)/\(∀d,(f s).si d=s.si d)/\(f s).k0=s.k0) :
  Upd st (f ((({st with board:=b}:St).nJ kd vk).nT c vs)) b c kd vk vs:=by
 have a1:=(hf ((({st with board:=b}:St).nJ kd vk).nT c vs)).1;have a2:=(hf ((({st with board:=b}:St).nJ kd vk).nT c vs)).2.1;have a3:=(hf ((({st with board:=b}:St).nJ kd vk).nT c vs)).2.2.1;have a4:=(hf ((({st with board:=b}:St).nJ kd vk).nT c vs)).2.2.2
 refine⟨?_,fun q hq=>?_,fun d=>?_,?_⟩
 ·rw[a1,Qt,Qr]
 ·rw[a2,Y4,Y2 _ _ h7 hq];rfl
 ·rw[a3,Y5,II];rfl
 ·rw[a4,Y3,Y1 _ _ h1]
theorem JO(v:St->Int):∀s:St,(s.m7 (v s)).board=s.board/\(∀q,(s.m7 (v s)).kd q=s.kd q)/\(∀d,(s.m7 (v s)).si d=s.si d)/\(s.m7 (v s)).k0=s.k0:=fun s=>⟨rfl,fun q=>rfl,fun d=>by cases d<;>rfl,rfl⟩
theorem RI(m:Nat)(st:St)(c:Bool){kd:Nat}(s:Int)(h1:1<=kd)(h7:kd<7):Upd st (Bu m st c kd s) (st.board.set s.toNat (pc c kd)) c kd (bor (st.kd kd) (1*2 ^ s.toNat)) (bor (st.si c) (1*2 ^ s.toNat)):=by
 have e:=QJ (st:=st) (b:=st.board.set s.toNat (pc c kd)) (c:=c) (vk:=bor (st.kd kd) (1*2 ^ s.toNat)) (vs:=bor (st.si c) (1*2 ^ s.toNat)) h1 h7 (f:=fun z=>z.m7 (Cw (((st.setB s.toNat (pc c kd)).nJ kd (bor (st.kd kd) (1*2 ^ s.toNat))).key) (zk m c kd s))) (JO fun _=>_)
 unfold Bu
 dsimp only
 rw[II]
 exact e
theorem OV(m:Nat)(st:St)(c:Bool){kd:Nat}(s:Int)(h1:1<=kd)(h7:kd<7):Upd st (BZ m st c kd s) (st.board.set s.toNat 0) c kd (Cw (st.kd kd) (1*2 ^ s.toNat)) (Cw (st.si c) (1*2 ^ s.toNat)):=by
 have e:=QJ (st:=st) (b:=st.board.set s.toNat 0) (c:=c) (vk:=Cw (st.kd kd) (1*2 ^ s.toNat)) (vs:=Cw (st.si c) (1*2 ^ s.toNat)) h1 h7 (f:=fun z=>z.m7 (Cw (((st.setB s.toNat 0).nJ kd (Cw (st.kd kd) (1*2 ^ s.toNat))).key) (zk m c kd s))) (JO fun _=>_)
 unfold BZ
 dsimp only
 rw[II]
 exact e
theorem LK(m:Nat)(st:St)(c:Bool){kd:Nat}(x y:Int)(h1:1<=kd)(h7:kd<7):Upd st (DQ m st c kd x y) ((st.board.set x.toNat 0).set y.toNat (pc c kd)) c kd (Cw (st.kd kd) (bor (1*2 ^ x.toNat) (1*2 ^ y.toNat))) (Cw (st.si c) (bor (1*2 ^ x.toNat) (1*2 ^ y.toNat))):=by
 have e:=QJ (st:=st) (b:=(st.board.set x.toNat 0).set y.toNat (pc c kd)) (c:=c) (vk:=Cw (st.kd kd) (bor (1*2 ^ x.toNat) (1*2 ^ y.toNat))) (vs:=Cw (st.si c) (bor (1*2 ^ x.toNat) (1*2 ^ y.toNat))) h1 h7 (f:=fun z=>z.m7 (Cw z.key (Cw (zk m c kd x) (zk m c kd y)))) (JO fun _=>_)
 unfold DQ
 dsimp only
 rw[II]
 exact e
theorem Upd.con{G:l8}{st m9:St}{b:List Int}{c:Bool}{kd:Nat}{vk vs:Int}(U:Upd st m9 b c kd vk vs)(C:mG G st)(h1:1<=kd)(h7:kd<7)(hb:b.length=st.board.length)
  (hm:∀k,AB b k=0\/∃c kd,1<=kd/\kd<7/\AB b k=pc c kd)
  (hk:∀k,tb vk k=Of (AB b k) kd) (ho:∀q k,kd≠q->1<=q->Of (AB b k) q=Of (AB st.board k) q)
  (hs:∀k,tb vs k=PO (AB b k) c) (hd:∀d k,c≠d->PO (AB b k) d=PO (AB st.board k) d):mG G m9:=by
 refine⟨?_,?_,?_,?_,?_⟩
 ·(refine U.board.symm▸?_;refine hb.symm▸?_);exact C.len
 ·refine U.board.symm▸?_;exact hm
 ·intro q q1 q7 k
  rw[U.board,U.kd q q7]
  by_cases e:kd=q
  ·subst e;refine(iJ rfl).symm▸?_;exact hk k
  ·rw[iI e,ho q k e q1];exact C.kb q q1 q7 k
 ·intro d k
  rw[U.board,U.si d]
  by_cases e:c=d
  ·subst e;rw[iJ rfl];exact hs k
  ·rw[iI e,hd d k e];exact C.sb d k
 ·exact U.k0.trans (C.k0)
theorem dF(q:Nat):Of 0 q=false:=rfl
theorem dG(q:Bool):PO 0 q=false:=rfl
theorem A4{G:l8}{st:St}(C:mG G st){s:Int}(s0:0<=s)(s1:s<G.size):s.toNat<st.board.length:=by have:=C.len;lia
theorem mG.put{G:l8}{st:St}{m:Nat}{c:Bool}{kd:Nat}{s:Int}(C:mG G st)(h1:1<=kd)(h7:kd<7)(s0:0<=s)(s1:s<G.size)(he:AB st.board s.toNat=0):mG G (Bu m st c kd s):=by
 have hb:=A4 C s0 s1
 have sq:=CX (p:=pc c kd) hb
 refine(RI m st c s h1 h7).con C h1 h7 (jK) (fun k=>?_) (fun k=>?_) (fun q k e q1=>?_) (fun k=>?_) (fun d k e=>?_)
 ·rw[sq]
  split
  ·exact .inr ⟨c,kd,h1,h7,rfl⟩
  ·exact C.rM k
 ·show tb (Builtin.bitOr _ _) k=_
  rw[DC,HI,C.kb kd h1 h7,sq]
  by_cases z:s.toNat=k
  ·rw[iJ z,Cm c h1 h7,gz z];simp
  ·rw[iI z,gS z,jv]
 ·rw[sq]
  by_cases z:s.toNat=k
  ·rw[iJ z,<- z,he,Cm c h1 h7,gS e];rfl
  ·rw[iI z]
 ·show tb (Builtin.bitOr _ _) k=_
  rw[DC,HI,C.sb c,sq]
  by_cases z:s.toNat=k
  ·rw[iJ z,Cn c h1 h7,gz z];simp
  ·rw[iI z,gS z,jv]
 ·rw[sq]
  by_cases z:s.toNat=k
  ·(rewrite[iJ z];refine z▸?_;rewrite[he];rewrite[Cn c h1 h7];rewrite[gS e]);rfl
  ·rw[iI z]
theorem mG.take{G:l8}{st:St}{s:Int}(C:mG G st)(h1:1<=kd)(h7:kd<7)(s0:0<=s)(s1:s<G.size)(he:AB st.board s.toNat=pc c kd):mG G (BZ m st c kd s):=by
 have hb:=A4 C s0 s1
 have sq:=CX (p:=0) hb
 refine(OV m st c s h1 h7).con C h1 h7 (jK) (fun k=>?_) (fun k=>?_) (fun q k e q1=>?_) (fun k=>?_) (fun d k e=>?_)
 ·rw[sq]
  split
  ·exact .inl rfl
  ·exact C.rM k
 ·rw[Km (C.bdK h1 h7).1 (Iq s),HI,C.kb kd h1 h7,sq]
  by_cases z:s.toNat=k
  ·rw[iJ z,<- z,he,Cm c h1 h7,gz rfl,gz rfl];rfl
  ·rw[iI z,gS z,ku]
 ·rw[sq]
  by_cases z:s.toNat=k
  ·rw[iJ z,<- z,he,Cm c h1 h7,gS e];rfl
  ·rw[iI z]
 ·rw[Km (C.pK c).1 (Iq s),HI,C.sb c,sq]
  by_cases z:s.toNat=k
  ·rw[iJ z,<- z,he,Cn c h1 h7,gz rfl,gz rfl];rfl
  ·rw[iI z,gS z,ku]
 ·rw[sq]
  by_cases z:s.toNat=k
  ·(rewrite[iJ z];refine z▸?_;rewrite[he];rewrite[Cn c h1 h7];rewrite[gS e]);rfl
  ·rw[iI z]
theorem VB(hx:0<=x)(hy:0<=y):0<=bor x y:=by
 obtain⟨a,rfl⟩:=gD hx
 obtain⟨b,rfl⟩:=gD hy
 have q:bor (a:Int) (b:Int)=((a||| b:Nat):Int):=Gi fun k=>by
  show tb (Builtin.bitOr _ _) k=(a||| b).testBit k
  rw[DC,jz];rfl
 refine q.symm▸?_;exact gP _
theorem mG.shift{G:l8}{st:St}{x y:Int}(C:mG G st)(h1:1<=kd)(h7:kd<7)(x0:0<=x)(x1:x<G.size)(y0:0<=y)(y1:y<G.size)(hx:AB st.board x.toNat=pc c kd)(hy:AB st.board y.toNat=0):mG G (DQ m st c kd x y):=by
 have hb:=A4 C x0 x1
 have uz:y.toNat<(st.board.set x.toNat 0).length:=by rw[jK];exact A4 C y0 y1
 have ne:x.toNat≠y.toNat:=fun e=>Eo c h1 (by(refine hx▸?_;refine e.symm▸?_;refine hy.symm▸?_;rfl))
 have sq:∀k,AB ((st.board.set x.toNat 0).set y.toNat (pc c kd)) k=if y.toNat=k then pc c kd else if x.toNat=k then 0 else AB st.board k:=fun k=>by rw[CX uz,CX hb]
 have nn:0<=bor (1*2 ^ x.toNat) (1*2 ^ y.toNat):=VB (Iq x) (Iq y)
 have tt:∀k,tb (bor (1*2 ^ x.toNat) (1*2 ^ y.toNat)) k=(decide (x.toNat=k)||decide (y.toNat=k)):=fun k=>by
  show tb (Builtin.bitOr _ _) k=_
  rw[DC,HI,HI]
 refine(LK m st c x y h1 h7).con C h1 h7 (by(refine List.length_set.symm▸?_;refine List.length_set.symm▸?_;rfl)) (fun k=>?_) (fun k=>?_) (fun q k e q1=>?_) (fun k=>?_) (fun d k e=>?_)
 ·rw[sq]
  split
  ·exact .inr ⟨c,kd,h1,h7,rfl⟩
  ·split
   ·exact .inl rfl
   ·exact C.rM k
 ·rw[Km (C.bdK h1 h7).1 nn,tt,C.kb kd h1 h7,sq]
  by_cases z:y.toNat=k
  ·rw[iJ z,<- z,hy,Cm c h1 h7,gS ne,gz rfl,gz rfl];rfl
  ·rw[iI z,gS z,jv]
   by_cases z2:x.toNat=k
   ·rw[iJ z2,<- z2,hx,Cm c h1 h7,gz rfl,gz rfl];rfl
   ·rw[iI z2,gS z2,ku]
 ·rw[sq]
  by_cases z:y.toNat=k
  ·rw[iJ z,<- z,hy,Cm c h1 h7,gS e];rfl
  ·rw[iI z]
   by_cases z2:x.toNat=k
   ·rw[iJ z2,<- z2,hx,Cm c h1 h7,gS e];rfl
   ·rw[iI z2]
 ·rw[Km (C.pK c).1 nn,tt,C.sb c,sq]
  by_cases z:y.toNat=k
  ·rw[iJ z,<- z,hy,Cn c h1 h7,gS ne,gz rfl,gz rfl];rfl
  ·rw[iI z,gS z,jv]
   by_cases z2:x.toNat=k
   ·rw[iJ z2,<- z2,hx,Cn c h1 h7,gz rfl,gz rfl];rfl
   ·rw[iI z2,gS z2,ku]
 ·rw[sq]
  by_cases z:y.toNat=k
  ·rw[iJ z,<- z,hy,Cn c h1 h7,gS e];rfl
  ·rw[iI z]
   by_cases z2:x.toNat=k
   ·(rewrite[iJ z2];refine z2▸?_;rewrite[hx];rewrite[Cn c h1 h7];rewrite[gS e]);rfl
   ·rw[iI z2]
theorem mG.uniq{a b:St}(A:mG G a)(B:mG G b)(e:a.board=b.board):(∀kd,kd<7->a.kd kd=b.kd kd)/\∀c,a.si c=b.si c:=by
 refine⟨fun kd h7=>?_,fun c=>Gi fun k=>by rw[A.sb,B.sb,e]⟩
 rcases Nat.eq_zero_or_pos kd with z|z
 ·subst z;exact A.k0.trans B.k0.symm
 ·exact Gi fun k=>by rw[A.kb kd z h7,B.kb kd z h7,e]
noncomputable def qZ:Option (Bool×Nat)->Int
 |none=>0
 |some (c,q)=>pc c q
structure Mv(G:l8)(st:St)(v:Int)(kd:Nat)(tk:Option (Bool×Nat)):Prop where
 M:B0 G v
 k1:1<=kd
 k7:kd<7
 src:AB st.board (Ai v).toNat=pc st.side kd
 dst:AB st.board (md v).toNat=qZ tk
 mT:∀c q,tk=some (c,q)->1<=q/\q<7
 ne:Ai v≠md v
 qm:kd=1->md v - Ai v≠8/\Ai v - md v≠8
 oj:Bt v=1->kd=1/\∃p:Nat,2<=p/\p<=5/\Ah v=p
noncomputable def Dt(st:St)(v:Int)(tk:Option (Bool×Nat)):St:={st with hist:=st.hist++[.tup [.int v,.int (qZ tk),.int 0,.int (-1),.int st.half,.int st.key]],half:=st.half+1}
noncomputable def Lj(st:St):St:={st with half:=0}
noncomputable def BS(m:Nat)(st:St)(t:Int):Option (Bool×Nat)->St
 |none=>st
 |some (c,q)=>Lj (BZ m st c q t)
noncomputable def BG(m:Nat)(st:St)(kd:Nat)(v:Int):St:=match Bt v==1 with
 |true=>Bu m (BZ m st st.side 1 (Ai v)) st.side (Ah v).toNat (md v)
 |false=>DQ m st st.side kd (Ai v) (md v)
noncomputable def BD(st:St)(kd:Nat):St:=match(kd:Int)==1 with
 |true=>Lj st
 |false=>st
noncomputable def Kp(st:St):St:={st with full:=match st.side with|true=>st.full+1|false=>st.full,side:=!st.side,key:=Cw st.key 3}
noncomputable def Ij(m:Nat)(st:St)(kd:Nat)(tk:Option (Bool×Nat))(v:Int):St:=Kp (BD (BG m (BS m (Dt st v tk) (md v) tk) kd v) kd)
noncomputable def AT:Nat->MS->MS
 |n+1,.seq _ b=>AT n b
 |_,s=>s
section
variable{S:List Int}{k:Int}{m:Nat}{G:l8}{st:St}{g:MH}{n:Nat}{hd:Bool}{X:As}{μ:MH}
theorem DP(M:B0 G v):(Bt v==3)=false:=by rcases M.sp with e|e<;>rw[e]<;>rfl
theorem eU(M:B0 G v):(!(Bt v==2))=true:=by rcases M.sp with e|e<;>rw[e]<;>rfl
theorem Sj{Q:Ae}(hn:1<=n)(h:Q .none (B S k m G st++g)):CG n hd 238 [.lX 54] Q X (B S k m G st++g):=by
 induction n using Nat.casesOn with
 |zero=>exact absurd hn (by decide)
 |succ n=>exact h
theorem WY{Q:Ae}(hn:1<=n)(h:Q .none (B S k m G st++g)):CG n hd 239 [.lX 54,.int (-1)] Q X (B S k m G st++g):=by
 induction n using Nat.casesOn with
 |zero=>exact absurd hn (by decide)
 |succ n=>exact h
theorem NV{Q:Ae}(hn:1<=n)(h:Q .none (B S k m G st++g)):CG n hd 240 [.lX 54,.int 0] Q X (B S k m G st++g):=by
 induction n using Nat.casesOn with
 |zero=>exact absurd hn (by decide)
 |succ n=>exact h
theorem aF{Q:Ae}{z:List Int}(hn:1<=n)(hz:G.e48=il z)(hl:(z.length:Int)=G.size)(a0:0<=a)(a1:a<G.size)(b0:0<=b)(b1:b<G.size)(h:Q (.int 0) (B S k m G st++g)):CG n hd 237 [.lX 54,.int a,.int b] Q X (B S k m G st++g):=by
 refine stp hn fun n hn=>?_
 have e:(B S k m G st++g)[48]?=some (il z):=by refine hz▸?_;rfl
 refine AO e a0 (BK hl a1) ?_
 refine AO e b0 (BK hl b1) ?_
 conv=>whnf
 rw[show Builtin.bitAnd 0 _=0 from Eb _]
 exact h
theorem T0{Q:Ae}(hn:1<=n)(h1:t - o≠8)(h2:o - t≠8)(h:Q (.int (-1)) (B S k m G st++g)):CG n hd 235 [.lX 54,.int c,.int o,.int t] Q X (B S k m G st++g):=by
 refine stp hn fun n hn=>?_
 refine DT (ig (b:=(8:Int)).mpr h1) ?_
 refine DT (ig (b:=(8:Int)).mpr h2) ?_
 exact h
theorem La{Q:Ae}(hn:2<=n)(M:B0 G v)(h:Q (.int (md v)) (B S k m G st++g)):CG n hd 245 [.lX 54,.int v] Q X (B S k m G st++g):=by
 refine stp hn fun n hn=>?_
 refine KL (l6 hn rfl) ?_
 refine EZ (l6 hn rfl) ?_
 refine DT (eU M) ?_
 exact h
theorem WR{Q:Ae}(hn:2<=n)(V:Mv G st v kd tk)(hl:(st.board.length:Int)=G.size)(h:Q (.int (pc st.side kd)) (B S k m G st++g)):CG n hd 232 [.lX 54,.int v] Q X (B S k m G st++g):=by
 refine stp hn fun n hn=>?_
 have hb:st.board[(Ai v).toNat]?=some (pc st.side kd):=by refine V.src▸?_;exact Cu (by have:=V.M.f0;have:=V.M.f1;lia)
 refine Eu (l6 hn rfl) ?_
 refine CA (gS (Int.not_le.mpr V.M.f1)) ?_
 refine KL (l6 hn rfl) ?_
 refine CA (gS (Int.not_le.mpr V.M.t1)) ?_
 refine B1 V.M.f0 hb ?_
 refine CA (by rw[gQ];exact Eo _ V.k1) ?_
 refine Gw (l6 hn rfl) (g6 V.k7) ?_
 refine CA (by cases st.side<;>rfl) ?_
 exact h
theorem Dj{Q:Ae}(hn:1<=n)(h:Q (.int (Ah v)) μ):CG n hd 24 [.int v] Q X μ:=by
 refine stp hn fun n hn=>?_
 unfold Ah at h
 refine Ap (fun e=>?_) fun e=>?_
 ·have e:(Bt v != 1)=true:=e
  rw[e]at h;exact h
 ·have e:(Bt v != 1)=false:=e
  rw[e]at h;exact h
theorem ZJ{Q:Au}{kd:Nat}{z:List Int}(hn:1<=n)(hz:G.e48=il z)(hl:(z.length:Int)=G.size)(M:B0 G v)(e1:env 102=some (.lX 54))(e2:env 0=some (.int (sd st.side)))(e3:env 11=some (.int (Ai v)))(e4:env 61=some (.int (md v)))
  (h:∀env',Q .next env' (B S k m G (Kp st)++g)):ws lY (Ak lY prog n) hd (AT 16 D5) Q X env (B S k m G st++g):=by
 refine Ab e1 ?_
 refine Ab e1 ?_
 refine Ab e3 ?_
 refine Ab e4 ?_
 refine aF hn hz hl M.f0 M.f1 M.t0 M.t1 ?_
 refine NV hn ?_
 refine Ab e2 ?_
 have h:=h env
 unfold Kp at h
 have hs:st.side=true\/st.side=false:=by cases st.side<;>decide
 rcases hs with hs|hs
 ·rw[hs]at h e2 ⊢
  refine Ab e1 ?_
  refine Ab e2 ?_
  refine Ab e1 ?_
  refine Ab e1 ?_
  refine Ab e1 ?_
  exact h
 ·rw[hs]at h e2 ⊢
  refine Ab e2 ?_
  refine Ab e1 ?_
  refine Ab e1 ?_
  refine Ab e1 ?_
  exact h
theorem ZI{Q:Au}{z:List Int}(hn:1<=n)(h7:kd<7)(hp:kd=1->md v - Ai v≠8/\Ai v - md v≠8)(hz:G.e48=il z)(hl:(z.length:Int)=G.size)(M:B0 G v)(e1:env 102=some (.lX 54))(e2:env 0=some (.int (sd st.side)))(e3:env 11=some (.int (Ai v)))(e4:env 61=some (.int (md v)))(e5:env 3=some (.int (pc c kd)))
  (h:∀env',Q .next env' (B S k m G (Kp (BD st kd))++g)):ws lY (Ak lY prog n) hd (AT 15 D5) Q X env (B S k m G st++g):=by
 refine Ab e5 ?_
 refine Ec hn (g6 h7) ?_
 unfold BD at h
 refine Ap (fun e=>?_) fun e=>?_
 ·have e:((kd:Int)==1)=true:=e
  have e0:kd=1:=by have:=gH e;lia
  replace h:=e▸h
  refine Ab e1 ?_
  refine Ab e1 ?_
  refine Ab e1 ?_
  refine Ab e2 ?_
  refine Ab e3 ?_
  refine Ab e4 ?_
  refine T0 (st:=Lj st) (g:=g) hn (hp e0).1 (hp e0).2 ?_
  refine WY (st:=Lj st) (g:=g) hn ?_
  exact ZJ (st:=Lj st) (kd:=kd) hn hz hl M e1 e2 e3 e4 h
 ·have e:((kd:Int)==1)=false:=e
  replace h:=e▸h
  exact ZJ (kd:=kd) hn hz hl M e1 e2 e3 e4 h
structure Gn(a b:St):Prop where
 side:a.side=b.side
 half:a.half=b.half
 full:a.full=b.full
 hist:a.hist=b.hist
theorem Gn.trans(h:Gn a b)(k:Gn b c):Gn a c:=⟨h.side.trans k.side,h.half.trans k.half,h.full.trans k.full,h.hist.trans k.hist⟩
theorem Tj(st:St)(kd:Nat)(v:Int):Gn (st.nJ kd v) st:=by
 rcases kd with _|_|_|_|_|_|_<;>exact⟨rfl,rfl,rfl,rfl⟩
theorem Tk(st:St)(c:Bool)(v:Int):Gn (st.nT c v) st:=by cases c<;>exact⟨rfl,rfl,rfl,rfl⟩
theorem IU(st:St)(kd:Nat)(v:Int)(c:Bool)(w y:Int):Gn (((st.nJ kd v).nT c w).m7 y) st:=
 Gn.trans (b:=(st.nJ kd v).nT c w) ⟨rfl,rfl,rfl,rfl⟩ ((Tk _ c w).trans (Tj _ kd v))
theorem BN(m:Nat)(st:St)(c:Bool)(q:Nat)(s:Int):Gn (Bu m st c q s) st:=(IU (st.setB s.toNat (pc c q)) ..).trans ⟨rfl,rfl,rfl,rfl⟩
theorem Ci(m:Nat)(st:St)(c:Bool)(q:Nat)(s:Int):Gn (BZ m st c q s) st:=(IU (st.setB s.toNat 0) ..).trans ⟨rfl,rfl,rfl,rfl⟩
theorem Gf(m:Nat)(st:St)(c:Bool)(q:Nat)(s v:Int):Gn (DQ m st c q s v) st:=(IU ((st.setB s.toNat 0).setB v.toNat (pc c q)) ..).trans ⟨rfl,rfl,rfl,rfl⟩
theorem d6{Q:Au}{z:List Int}(hn:2<=n)(C:mG G st)(GS:G.l7)(hm:(m:Int)=G.size)(k1:1<=kd)(h7:kd<7)(hs:AB st.board (Ai v).toNat=pc st.side kd)(hg:AB st.board (md v).toNat=0)(pr:Bt v=1->kd=1/\∃p:Nat,2<=p/\p<=5/\Ah v=p)
  (hp:kd=1->md v - Ai v≠8/\Ai v - md v≠8) (hz:G.e48=il z) (hl:(z.length:Int)=G.size) (M:B0 G v) (e1:env 102=some (.lX 54)) (e2:env 0=some (.int (sd st.side))) (e3:env 11=some (.int (Ai v))) (e4:env 61=some (.int (md v))) (e5:env 3=some (.int (pc st.side kd))) (e6:env 13=some (.int (Bt v))) (e7:env 19=some (.int v))
  (h:∀env',Q .next env' (B S k m G (Kp (BD (BG m st kd v) kd))++g)):ws lY (Ak lY prog n) hd (AT 13 D5) Q X env (B S k m G st++g):=by
 have hb:=Cu (A4 C M.f0 M.f1)
 have pt:=gM M.f1 GS.top
 have oy:=gM M.t1 GS.top
 replace hb:=hs▸hb
 refine Ab e6 ?_
 unfold BG at h
 refine Ap (fun e=>?_) fun e=>?_
 ·have e:(Bt v==1)=true:=e
  obtain⟨rfl,p,p1,p2,p3⟩:=pr (by exact gH e)
  replace h:=e▸h
  refine Ab e1 ?_
  refine Ab e3 ?_
  refine Mc (gB (by decide) hn) (by decide) M.f0 pt M.f1 C.len hm hb ?_
  refine Ab e1 ?_
  refine Ab e2 ?_
  refine Ab e7 ?_
  refine Dj (gB (by decide) hn) ?_
  rw[p3]at h ⊢
  refine Jp (gB (by decide) hn) ?_
  refine Ab e4 ?_
  have C2:=C.take (m:=m) k1 h7 M.f0 M.f1 hs
  refine K9 (gB (by decide) hn) (by exact S9 p2) M.t0 oy M.t1 C2.len hm ?_
  refine Ab e6 ?_
  refine CA (DP M) ?_
  refine ZI (c:=st.side) (gB (by decide) hn) h7 hp hz hl M e1 ?_ e3 e4 e5 h
  (refine((BN m _ st.side p (md v)).side).symm▸?_;refine((Ci m st st.side 1 (Ai v)).side).symm▸?_);exact e2
 ·have e:(Bt v==1)=false:=e
  replace h:=e▸h
  refine Ab e1 ?_
  refine Ab e3 ?_
  refine Ab e4 ?_
  refine QZ (gB (by decide) hn) h7 M.f0 pt M.f1 M.t0 oy M.t1 C.len hm hb ?_
  refine Ab e6 ?_
  refine CA (DP M) ?_
  refine ZI (c:=st.side) (gB (by decide) hn) h7 hp hz hl M e1 ?_ e3 e4 e5 h
  refine((Gf m st st.side kd (Ai v) (md v)).side).symm▸?_;exact e2
end
theorem mG.same{st m9:St}(C:mG G st)(hb:m9.board=st.board)(hk:∀q,m9.kd q=st.kd q)(hs:∀c,m9.si c=st.si c)(h0:m9.k0=st.k0):mG G m9:=by
 refine⟨by refine hb.symm▸?_;exact C.len,by refine hb.symm▸?_;exact C.rM,fun q a b k=>?_,fun c k=>?_,h0.trans C.k0⟩
 ·rw[hb,hk];exact C.kb q a b k
 ·rw[hb,hs];exact C.sb c k
theorem JJ{G:l8}{st:St}{v:Int}{tk:Option (Bool×Nat)}(C:mG G st):mG G (Dt st v tk):=C.same rfl (fun _=>rfl) (fun c=>by cases c<;>rfl) rfl
theorem Uz{G:l8}{st:St}(C:mG G st):mG G (Lj st):=C.same rfl (fun _=>rfl) (fun c=>by cases c<;>rfl) rfl
theorem EH{G:l8}{st:St}{s:Int}(C:mG G st)(h1:1<=kd)(h7:kd<7)(s0:0<=s)(s1:s<G.size)(j:Nat):AB (BZ m st c kd s).board j=if s.toNat=j then 0 else AB st.board j:=by
 rw[(OV m st c s h1 h7).board,CX (A4 C s0 s1)]
theorem ED{G:l8}{st:St}{s:Int}(C:mG G st)(h1:1<=kd)(h7:kd<7)(s0:0<=s)(s1:s<G.size)(j:Nat):AB (Bu m st c kd s).board j=if s.toNat=j then pc c kd else AB st.board j:=by
 rw[(RI m st c s h1 h7).board,CX (A4 C s0 s1)]
theorem OK{G:l8}{st:St}{x y:Int}(C:mG G st)(h1:1<=kd)(h7:kd<7)(x0:0<=x)(x1:x<G.size)(y0:0<=y)(y1:y<G.size)(j:Nat):AB (DQ m st c kd x y).board j=if y.toNat=j then pc c kd else if x.toNat=j then 0 else AB st.board j:=by
 rw[(LK m st c x y h1 h7).board,CX (by rw[jK];exact A4 C y0 y1),CX (A4 C x0 x1)]
structure QP(G:l8)(st s:St)(v:Int):Prop where
 C:mG G s
 side:s.side=st.side
 at_:∀j,AB s.board j=if(md v).toNat=j then 0 else AB st.board j
theorem Iu{G:l8}{st:St}{m:Nat}{v:Int}{kd:Nat}{tk:Option (Bool×Nat)}(C:mG G st)(V:Mv G st v kd tk):QP G st (BS m (Dt st v tk) (md v) tk) v:=by
 induction tk with
 |none=>
  refine⟨JJ C,rfl,fun j=>?_⟩
  split
  ·rename_i e;refine e▸?_;exact V.dst
  ·rfl
 |some t=>
  obtain⟨c,q⟩:=t
  have hq:=V.mT c q rfl
  refine⟨Uz ((JJ C).take hq.1 hq.2 V.M.t0 V.M.t1 V.dst),(Ci m _ c q (md v)).side,fun j=>?_⟩
  exact EH (m:=m) (JJ (v:=v) (tk:=some (c,q)) C) hq.1 hq.2 V.M.t0 V.M.t1 j
section
variable{S:List Int}{k:Int}{m:Nat}{G:l8}{st:St}{g:MH}{n:Nat}{hd:Bool}{X:As}{μ:MH}
noncomputable def d5(st:St)(kd:Nat)(tk:Option (Bool×Nat))(v:Int):An:=Ad (Ad (Ad (Ad (Ad (Ad (Ad (Ad (Ad (Ad (fun _=>none) 102 (.lX 54)) 19 (.int v)) 3 (.int (pc st.side kd))) 0 (.int (sd st.side))) 11 (.int (Ai v))) 61 (.int (md v))) 13 (.int (Bt v))) 242 (.tup [.int (-1),.int (-1)])) 243 (.int (md v))) 205 (.int (qZ tk))
theorem fT{Q:Ae}{z:List Int}(hn:3<=n)(C:mG G st)(GS:G.l7)(hm:(m:Int)=G.size)(V:Mv G st v kd tk)(hz:G.e48=il z)(hl:(z.length:Int)=G.size)(hh:st.hist.length<1000)
  (h:Q .none (B S k m G (Ij m st kd tk v)++g)):CG n hd 246 [.lX 54,.int v] Q X (B S k m G st++g):=by
 refine stp hn fun n hn=>?_
 have M:=V.M
 have hb:=Cu (A4 C M.t0 M.t1)
 replace hb:=V.dst▸hb
 have oy:=gM M.t1 GS.top
 have ne:(md v).toNat≠(Ai v).toNat:=fun e=>V.ne (by have:=M.f0;have:=M.t0;lia)
 have D:=Iu (m:=m) C V
 have fin:ws lY (Ak lY prog n) hd (AT 13 D5) (fun fl _ μ'=>match fl with|.ret v=>Q v μ'|.next=>Q .none μ'|.cont=>False) X (d5 st kd tk v) (B S k m G (BS m (Dt st v tk) (md v) tk)++g):=
  d6 (l6 hn rfl) D.C GS hm V.k1 V.k7 (by(rewrite[D.at_];rewrite[iI ne];refine D.side.symm▸?_);exact V.src) (by(rewrite[D.at_];refine(iJ rfl).symm▸?_;rfl)) V.oj V.qm hz hl M rfl (by refine D.side.symm▸?_;rfl) rfl rfl (by refine D.side.symm▸?_;rfl) rfl rfl fun _=>h
 refine WR (l6 hn rfl) V C.len ?_
 refine Eu (l6 hn rfl) ?_
 refine KL (l6 hn rfl) ?_
 refine EZ (l6 hn rfl) ?_
 refine CA (DP M) ?_
 refine La (l6 hn rfl) M ?_
 refine B1 M.t0 hb ?_
 refine Aj (gz (iv hh (by decide))) ?_
 refine Sj (st:={st with hist:=st.hist++[.tup [.int v,.int (qZ tk),.int 0,.int (-1),.int st.half,.int st.key]]}) (g:=g) (l6 hn rfl) ?_
 induction tk with
 |none=>
  exact fin
 |some t=>
  obtain⟨c,q⟩:=t
  have hq:=V.mT c q rfl
  refine DT (bne_iff_ne.mpr (Eo c hq.1)) ?_
  refine Mc (st:=Dt st v (some (c,q))) (g:=g) (l6 hn rfl) hq.2 M.t0 oy M.t1 C.len hm hb ?_
  exact fin
noncomputable def Nm(c:Bool)(f:Int):Int:=match c with|true=>f - 1|false=>f
noncomputable def dw(v:Int)(tk:Option (Bool×Nat))(hf ky:Int):V:=.tup [.int v,.int (qZ tk),.int 0,.int (-1),.int hf,.int ky]
noncomputable def Mw(m:Nat)(a:St)(kd:Nat)(v:Int):St:=match Bt v==1 with
 |true=>Bu m (BZ m a a.side (Ah v).toNat (md v)) a.side 1 (Ai v)
 |false=>DQ m a a.side kd (md v) (Ai v)
noncomputable def Qq(m:Nat)(b:St)(t:Int):Option (Bool×Nat)->St
 |none=>b
 |some (e,q)=>Bu m b e q t
noncomputable def MG(d:St)(c:Bool)(hf ky:Int):St:={d with full:=Nm c d.full,half:=hf,key:=ky}
noncomputable def Mb(m:Nat)(a:St)(hf ky:Int)(kd:Nat)(tk:Option (Bool×Nat))(v:Int):St:=MG (Qq m (Mw m a kd v) (md v) tk) a.side hf ky
structure dH(G:l8)(a:St)(kd:Nat)(v:Int):Prop where
 C:mG G a
 src:AB a.board (Ai v).toNat=0
 dst:AB a.board (md v).toNat=pc a.side (match Bt v==1 with|true=>(Ah v).toNat|false=>kd)
theorem MA(l:List V)(x:V):Ei (l++[x])=some (l,x):=by
 induction l with
 |nil=>rfl
 |cons a l ih=>induction l using List.casesOn with
  |nil=>rfl
  |cons b l=>show(Ei ((b :: l)++[x])).map _=_;refine ih.symm▸?_;rfl
end
theorem Wu{S:List Int}{k:Int}{m:Nat}{G:l8}{st:St}{g:MH}{n:Nat}{hd:Bool}{X:As}{Q:Au}{env:An}{c:Bool}{hf ky:Int}(e1:env 102=some (.lX 54))(e2:env 0=some (.int (sd c)))(e3:env 158=some (.int 0))(e4:env 196=some (.int (-1)))(e5:env 241=some (.int hf))(e6:env 104=some (.int ky))
  (h:∀env',Q .next env' (B S k m G (MG st c hf ky)++g)):ws lY (Ak lY prog n) hd (AT 10 EW) Q X env (B S k m G st++g):=by
 have h:=h env
 refine Ab e2 ?_
 cases c
 ·conv=>whnf
  refine Ab e3 ?_
  refine Ab e1 ?_
  refine Ab e4 ?_
  refine Ab e1 ?_
  refine Ab e5 ?_
  refine Ab e1 ?_
  refine Ab e6 ?_
  refine Ab e1 ?_
  exact h
 ·conv=>whnf
  refine Ab e1 ?_
  refine Ab e3 ?_
  refine Ab e1 ?_
  refine Ab e4 ?_
  refine Ab e1 ?_
  refine Ab e5 ?_
  refine Ab e1 ?_
  refine Ab e6 ?_
  refine Ab e1 ?_
  exact h
theorem gr(c:Bool):1 - sd (!c)=sd c:=by cases c<;>rfl
section
variable{S:List Int}{k:Int}{m:Nat}{G:l8}{st:St}{g:MH}{n:Nat}{hd:Bool}{X:As}{μ:MH}
theorem Wv{Q:Au}(hn:3<=n)(C:mG G st)(GS:G.l7)(hm:(m:Int)=G.size)(M:B0 G v)(mT:∀c q,tk=some (c,q)->1<=q/\q<7)(e0:env 205=some (.int (qZ tk)))(e1:env 102=some (.lX 54))(e2:env 0=some (.int (sd c)))(e3:env 158=some (.int 0))(e4:env 196=some (.int (-1)))(e5:env 241=some (.int hf))(e6:env 104=some (.int ky))(e7:env 19=some (.int v))
  (h:∀env',Q .next env' (B S k m G (MG (Qq m st (md v) tk) c hf ky)++g)):ws lY (Ak lY prog n) hd (AT 9 EW) Q X env (B S k m G st++g):=by
 refine Ab e0 ?_
 induction tk with
 |none=>
  conv=>whnf
  exact Wu e1 e2 e3 e4 e5 e6 h
 |some t=>
  obtain⟨d,q⟩:=t
  have hq:=mT d q rfl
  refine DT (bne_iff_ne.mpr (Eo d hq.1)) ?_
  refine Ab e1 ?_
  refine Ab e0 ?_
  refine Ab e1 ?_
  refine Ab e7 ?_
  refine La (gB (by decide) hn) M ?_
  refine K9 (gB (by decide) hn) hq.2 M.t0 (gM M.t1 GS.top) M.t1 C.len hm ?_
  exact Wu e1 e2 e3 e4 e5 e6 h
noncomputable def Z7(a:St)(v hf ky:Int)(tk:Option (Bool×Nat)):An:=Ad (Ad (Ad (Ad (Ad (Ad (Ad (Ad (Ad (Ad (Ad (fun _=>none) 102 (.lX 54)) 19 (.int v)) 205 (.int (qZ tk))) 158 (.int 0)) 196 (.int (-1))) 241 (.int hf)) 104 (.int ky)) 0 (.int (sd a.side))) 11 (.int (Ai v))) 61 (.int (md v))) 13 (.int (Bt v))
theorem aM{Q:Ae}(hn:4<=n)(K:dH G a kd v)(GS:G.l7)(hm:(m:Int)=G.size)(M:B0 G v)(mT:∀c q,tk=some (c,q)->1<=q/\q<7)(k1:1<=kd)(k7:kd<7)(pr:Bt v=1->∃p:Nat,2<=p/\p<=5/\Ah v=p)
  (h:Q .none (B S k m G (Mb m a hf ky kd tk v)++g)):CG n hd 247 [.lX 54] Q X (B S k m G {a with side:=!a.side,hist:=a.hist++[dw v tk hf ky]}++g):=by
 cases n with
 |zero=>exact absurd hn (by decide)
 |succ n=>
  have C:=K.C
  have pt:=gM M.f1 GS.top
  have oy:=gM M.t1 GS.top
  have q1:((((a.hist++[dw v tk hf ky]).length:Nat):Int)==0)=false:=by rw[gy,gQ];show((_+1:Nat):Int)≠0;exact iD (cr (gP _))
  have hb:=Cu (A4 C M.t0 M.t1)
  rw[K.dst]at hb
  unfold Mb Mw at h
  refine CA q1 ?_
  refine Ab (MA a.hist _) ?_
  conv=>whnf
  rw[gr]
  refine Eu (l6 hn rfl) ?_
  refine KL (l6 hn rfl) ?_
  refine EZ (l6 hn rfl) ?_
  refine Ap (fun e=>?_) fun e=>?_
  ·have e:(Bt v==1)=true:=e
   obtain⟨p,p1,p2,p3⟩:=pr (by simpa using e)
   rw[e]at h hb
   rw[p3]at h hb
   have K2:AB a.board (md v).toNat=pc a.side p:=by have z:=K.dst;rw[e,p3]at z;exact z
   have S2:AB (BZ m a a.side p (md v)).board (Ai v).toNat=0:=by
    rw[EH C (by exact Qi p1) (by exact S9 p2) M.t0 M.t1]
    split
    ·rfl
    ·exact K.src
   refine Mc (st:=a) (g:=g) (kd:=p) (l6 hn rfl) (by exact S9 p2) M.t0 oy M.t1 C.len hm hb ?_
   have C2:=C.take (m:=m) (by exact Qi p1) (by exact S9 p2) M.t0 M.t1 K2
   refine Jp (kd:=1) (l6 hn rfl) ?_
   refine K9 (c:=a.side) (kd:=1) (l6 hn rfl) (by decide) M.f0 pt M.f1 C2.len hm ?_
   refine CA (DP M) ?_
   have C3:=C2.put (m:=m) (c:=a.side) (kd:=1) (by decide) (by decide) M.f0 M.f1 S2
   exact Wv (env:=Z7 a v hf ky tk) (c:=a.side) (l6 hn rfl) C3 GS hm M mT rfl rfl rfl rfl rfl rfl rfl rfl fun _=>h
  ·have e:(Bt v==1)=false:=e
   rw[e]at h hb
   have K2:=K.dst
   rw[e]at K2
   refine QZ (st:=a) (g:=g) (kd:=kd) (l6 hn rfl) k7 M.t0 oy M.t1 M.f0 pt M.f1 C.len hm hb ?_
   refine CA (DP M) ?_
   have C3:=C.shift (m:=m) k1 k7 M.t0 M.t1 M.f0 M.f1 K2 K.src
   exact Wv (env:=Z7 a v hf ky tk) (c:=a.side) (l6 hn rfl) C3 GS hm M mT rfl rfl rfl rfl rfl rfl rfl rfl fun _=>h
end
theorem Wb{a b:List Int}(hl:a.length=b.length)(h:∀j,AB a j=AB b j):a=b:=by
 refine List.ext_getElem hl fun i h1 h2=>?_
 have z:=h i
 unfold AB at z
 rw[gV,gV,gW h1,gW h2]at z
 exact z
theorem St.rn{a b:St}(h1:a.board=b.board)(h2:∀q,q<7->a.kd q=b.kd q)(h3:∀c,a.si c=b.si c)(h4:a.side=b.side)(h5:a.half=b.half)(h6:a.full=b.full)(h7:a.key=b.key)(h8:a.hist=b.hist):a=b:=by
 have k0:=h2 0 (by decide)
 have k1:=h2 1 (by decide)
 have k2:=h2 2 (by decide)
 have k3:=h2 3 (by decide)
 have k4:=h2 4 (by decide)
 have k5:=h2 5 (by decide)
 have k6:=h2 6 (by decide)
 have s0:=h3 false
 have s1:=h3 true
 cases a;cases b
 simp only[St.kd,St.si]at *
 simp_all
noncomputable def HW(kd:Nat)(v:Int):Nat:=match Bt v==1 with|true=>(Ah v).toNat|false=>kd
structure gu(G:l8)(st s:St)(kd:Nat)(v:Int):Prop where
 C:mG G s
 side:s.side=st.side
 full:s.full=st.full
 at_:∀j,AB s.board j=if(md v).toNat=j then pc st.side (HW kd v)else if(Ai v).toNat=j then 0 else AB st.board j
theorem P4{G:l8}{st:St}{v:Int}{kd:Nat}{tk:Option (Bool×Nat)}(V:Mv G st v kd tk):(md v).toNat≠(Ai v).toNat:=fun e=>V.ne (by have:=V.M.f0;have:=V.M.t0;lia)
theorem Gh{st:St}:(BS m st t tk).side=st.side/\(BS m st t tk).full=st.full/\(BS m st t tk).hist=st.hist:=by
 induction tk with
 |none=>exact⟨rfl,rfl,rfl⟩
 |some p=>obtain⟨c,q⟩:=p;exact⟨(Ci m st c q t).side,(Ci m st c q t).full,(Ci m st c q t).hist⟩
theorem Mx{G:l8}{st:St}{v:Int}{kd:Nat}{tk:Option (Bool×Nat)}(V:Mv G st v kd tk):1<=HW kd v/\HW kd v<7:=by
 unfold HW
 split
 ·rename_i e
  obtain⟨_,p,h1,h2,h3⟩:=V.oj (by exact gH e)
  refine h3.symm▸?_;show 1<=p/\p<7;exact⟨Qi h1,S9 h2⟩
 ·exact⟨V.k1,V.k7⟩
theorem Vc{st:St}(V:Mv G st v kd tk)(D:QP G st s v):mG G (BG m s kd v)/\Gn (BG m s kd v) s/\
  ∀j,AB (BG m s kd v).board j=if(md v).toNat=j then pc st.side (HW kd v)else if(Ai v).toNat=j then 0 else AB st.board j:=by
 have ne:=P4 V
 have M:=V.M
 have hs:AB s.board (Ai v).toNat=pc s.side kd:=by rw[D.at_,iI ne,D.side];exact V.src
 have ht:AB s.board (md v).toNat=0:=by rw[D.at_,iJ rfl]
 have gl:=Mx V
 unfold BG
 unfold HW at gl ⊢
 cases e:Bt v==1 with
 |true=>
  rw[e]at gl
  obtain⟨rfl,_⟩:=V.oj (by exact gH e)
  have C2:=D.C.take (m:=m) V.k1 V.k7 M.f0 M.f1 hs
  have t2:AB (BZ m s s.side 1 (Ai v)).board (md v).toNat=0:=by
   rw[EH D.C V.k1 V.k7 M.f0 M.f1,iI (iK ne)];exact ht
  refine⟨C2.put gl.1 gl.2 M.t0 M.t1 t2,(BN _ _ _ _ _).trans (Ci _ _ _ _ _),fun j=>?_⟩
  rw[ED C2 gl.1 gl.2 M.t0 M.t1,EH D.C V.k1 V.k7 M.f0 M.f1,D.at_,D.side]
  split
  ·rfl
  ·rfl
 |false=>
  refine⟨D.C.shift V.k1 V.k7 M.f0 M.f1 M.t0 M.t1 hs ht,Gf _ _ _ _ _ _,fun j=>?_⟩
  rw[OK D.C V.k1 V.k7 M.f0 M.f1 M.t0 M.t1,D.at_,D.side]
  split
  ·rfl
  ·rfl
structure QO(G:l8)(st s:St)(kd:Nat)(tk:Option (Bool×Nat))(v:Int):Prop where
 C:mG G s
 side:s.side=!st.side
 full:s.full=match st.side with|true=>st.full+1|false=>st.full
 hist:s.hist=st.hist++[dw v tk st.half st.key]
 at_:∀j,AB s.board j=if(md v).toNat=j then pc st.side (HW kd v)else if(Ai v).toNat=j then 0 else AB st.board j
theorem after{G:l8}{st:St}{m:Nat}{v:Int}{kd:Nat}{tk:Option (Bool×Nat)}(C:mG G st)(V:Mv G st v kd tk):QO G st (Ij m st kd tk v) kd tk v:=by
 have C2:=(Vc (m:=m) V (Iu (m:=m) C V)).1;have R:=(Vc (m:=m) V (Iu (m:=m) C V)).2.1;have a:=(Vc (m:=m) V (Iu (m:=m) C V)).2.2
 have t1:=(Gh (m:=m) (st:=Dt st v tk) (t:=md v) (tk:=tk)).1;have t2:=(Gh (m:=m) (st:=Dt st v tk) (t:=md v) (tk:=tk)).2.1;have t3:=(Gh (m:=m) (st:=Dt st v tk) (t:=md v) (tk:=tk)).2.2
 have P:∀s:St,(BD s kd).board=s.board/\(∀q,(BD s kd).kd q=s.kd q)/\(∀c,(BD s kd).si c=s.si c)/\(BD s kd).k0=s.k0/\(BD s kd).side=s.side/\(BD s kd).full=s.full/\(BD s kd).hist=s.hist:=fun s=>by
  unfold BD
  split
  ·exact⟨rfl,fun _=>rfl,fun c=>(by induction c using Bool.casesOn<;>rfl),rfl,rfl,rfl,rfl⟩
  ·exact⟨rfl,fun _=>rfl,fun c=>rfl,rfl,rfl,rfl,rfl⟩
 have p1:=(P (BG m (BS m (Dt st v tk) (md v) tk) kd v)).1;have p2:=(P (BG m (BS m (Dt st v tk) (md v) tk) kd v)).2.1;have p3:=(P (BG m (BS m (Dt st v tk) (md v) tk) kd v)).2.2.1;have p4:=(P (BG m (BS m (Dt st v tk) (md v) tk) kd v)).2.2.2.1;have p5:=(P (BG m (BS m (Dt st v tk) (md v) tk) kd v)).2.2.2.2.1;have p6:=(P (BG m (BS m (Dt st v tk) (md v) tk) kd v)).2.2.2.2.2.1;have p7:=(P (BG m (BS m (Dt st v tk) (md v) tk) kd v)).2.2.2.2.2.2
 refine⟨(C2.same p1 p2 p3 p4).same rfl (fun _=>rfl) (fun c=>by induction c using Bool.casesOn<;>rfl) rfl,?_,?_,?_,fun j=>?_⟩
 ·show(!(BD _ kd).side)=_
  (refine p5.symm▸?_;refine R.side.symm▸?_;refine t1.symm▸?_);rfl
 ·show(match(BD _ kd).side with|true=>(BD _ kd).full+1|false=>(BD _ kd).full)=_
  (refine p5.symm▸?_;refine p6.symm▸?_;refine R.side.symm▸?_;refine R.full.symm▸?_;refine t1.symm▸?_;refine t2.symm▸?_);rfl
 ·show(BD _ kd).hist=_
  (refine p7.symm▸?_;refine R.hist.symm▸?_;refine t3.symm▸?_);rfl
 ·show AB (BD _ kd).board j=_
  refine p1.symm▸?_;exact a j
noncomputable def DE(s st:St):St:={s with side:=st.side,hist:=st.hist}
theorem Tu{s st:St}(h1:s.side=!st.side)(h2:s.hist=st.hist++[x]):s={DE s st with side:=!(DE s st).side,hist:=(DE s st).hist++[x]}:=by
 show s={s with side:=!st.side,hist:=st.hist++[x]}
 (refine h1▸?_;refine h2▸?_;rfl)
theorem Tw{G:l8}{st s:St}{v:Int}{kd:Nat}{tk:Option (Bool×Nat)}(V:Mv G st v kd tk)(A:QO G st s kd tk v):dH G (DE s st) kd v:=by
 refine⟨A.C.same rfl (fun _=>rfl) (fun c=>by induction c<;>rfl) rfl,?_,?_⟩
 ·show AB s.board _=0
  rw[A.at_,iI (P4 V),iJ rfl]
 ·show AB s.board _=_
  rw[A.at_,iJ rfl];rfl
theorem fG{st:St}(C:mG G st)(V:Mv G st v kd tk)(A:QO G st s kd tk v):Mb m (DE s st) st.half st.key kd tk v=st:=by
 have K:=Tw V A
 have ne:=P4 V
 have M:=V.M
 have gl:=Mx V
 have hb:∃b,b=Mw m (DE s st) kd v/\mG G b/\Gn b (DE s st)/\∀j,AB b.board j=if(Ai v).toNat=j then pc st.side kd else if(md v).toNat=j then 0 else AB s.board j:=by
  have dst:=K.dst
  unfold HW at gl
  unfold Mw
  cases e:Bt v==1 with
  |true=>
   (replace gl:=e▸gl;replace dst:=e▸dst)
   obtain⟨rfl,_⟩:=V.oj (by exact gH e)
   have C2:mG G (BZ m (DE s st) st.side (Ah v).toNat (md v)):=K.C.take (m:=m) gl.1 gl.2 M.t0 M.t1 dst
   have t2:AB (BZ m (DE s st) st.side (Ah v).toNat (md v)).board (Ai v).toNat=0:=by
    have z:=EH (m:=m) (c:=st.side) K.C gl.1 gl.2 M.t0 M.t1 (Ai v).toNat
    replace z:=(iI ne)▸z
    exact z.trans K.src
   refine⟨_,rfl,C2.put V.k1 V.k7 M.f0 M.f1 t2,(BN _ _ _ _ _).trans (Ci _ _ _ _ _),fun j=>?_⟩
   show AB (Bu m (BZ m (DE s st) st.side (Ah v).toNat (md v)) st.side 1 (Ai v)).board j=_
   rw[ED C2 V.k1 V.k7 M.f0 M.f1]
   split
   ·rfl
   ·exact EH K.C gl.1 gl.2 M.t0 M.t1 j
  |false=>
   replace dst:=e▸dst
   refine⟨_,rfl,K.C.shift V.k1 V.k7 M.t0 M.t1 M.f0 M.f1 dst K.src,Gf _ _ _ _ _ _,fun j=>?_⟩
   exact OK K.C V.k1 V.k7 M.t0 M.t1 M.f0 M.f1 j
 obtain⟨b,eb,Cb,Rb,ab⟩:=hb
 have hd:∃d,d=Qq m b (md v) tk/\mG G d/\Gn d b/\∀j,AB d.board j=AB st.board j:=by
  have fin:∀j,(Ai v).toNat≠j->(md v).toNat≠j->AB s.board j=AB st.board j:=fun j h1 h2=>by(rewrite[A.at_];rewrite[iI h2];refine(iI h1).symm▸?_;rfl)
  induction tk with
  |none=>
   refine⟨b,rfl,Cb,⟨rfl,rfl,rfl,rfl⟩,fun j=>?_⟩
   rw[ab]
   split
   ·rename_i e;refine e▸?_;exact V.src.symm
   ·split
    ·rename_i _ e;refine e▸?_;exact V.dst.symm
    ·rename_i h1 h2;exact fin j h1 h2
  |some t=>
   obtain⟨e,q⟩:=t
   have hq:=V.mT e q rfl
   have t2:AB b.board (md v).toNat=0:=by(rewrite[ab];rewrite[iI (iK ne)];refine(iJ rfl).symm▸?_;rfl)
   refine⟨_,rfl,Cb.put hq.1 hq.2 M.t0 M.t1 t2,BN _ _ _ _ _,fun j=>?_⟩
   show AB (Bu m b e q (md v)).board j=_
   rw[ED Cb hq.1 hq.2 M.t0 M.t1,ab]
   split
   ·rename_i z;refine z▸?_;exact V.dst.symm
   ·rename_i h1
    split
    ·rename_i z;refine z▸?_;exact V.src.symm
    ·rename_i h2;exact fin j h2 h1
 obtain⟨d,ed,Cd,Rd,ad⟩:=hd
 have eB:d.board=st.board:=Wb (by have:=Cd.len;have:=C.len;lia) ad
 have u1:=(Cd.uniq C eB).1;have u2:=(Cd.uniq C eB).2
 have e:Mb m (DE s st) st.half st.key kd tk v=MG d st.side st.half st.key:=by
  (refine ed.symm▸?_;refine eb.symm▸?_);rfl
 refine e.symm▸?_
 refine St.rn eB u1 u2 ?_ rfl ?_ rfl ?_
 ·exact(Rd.trans Rb).side
 ·show Nm st.side d.full=st.full
  refine((Rd.trans Rb).full).symm▸?_
  show Nm st.side s.full=st.full
  refine A.full.symm▸?_;unfold Nm
  cases st.side
  ·rfl
  ·show st.full+1 - 1=st.full;exact hZ (ow (mo _) (.sub (mm 0 1) (.num 1)) mh rfl) (ow (mo _) mh (.sub (mm 0 1) (.num 1)) rfl)
 ·exact(Rd.trans Rb).hist
structure Cj(G:l8)(m:Nat):Prop where
 S:G.l7
 hr:∀a b,Bd G (AW G a b)
 rk:G.ranks<1000
 hm:(m:Int)=G.size
 e48:∃z:List Int,G.e48=il z/\(z.length:Int)=G.size
structure HM(G:l8)(s:St):Prop where
 C:mG G s
 q0:0<=Ax s s.side
 q1:Ax s s.side<G.size
 mv:∀v∈LV G s,B0 G v
 mvE:∀v∈oB G s,B0 G v
theorem HM.ps(R:HM G s):∀v∈Cq G s,B0 G v:=by
 unfold Cq
 split
 ·exact R.mvE
 ·exact R.mv
theorem B7(G:l8)(s:St):(Cq G s).length<80000:=by
 have a:=FE (G:=G) (st:=s) G.full
 have b:=FE (G:=G) (st:=s) (ph G s (Bc G s s.side))
 have c:=Ms (G:=G) (st:=s) (EC G s) [2,3,4,5,6]
 have d:=Ms (G:=G) (st:=s) (ph G s (Bc G s s.side)) [2,3,4,5]
 have e:=Gb G s 6 (EC G s)
 have l5:[2,3,4,5,6].length=5:=rfl
 have l4:[2,3,4,5].length=4:=rfl
 unfold Cq oB LV
 split
 ·refine List.length_append.symm▸?_
  split
  ·refine List.length_append.symm▸?_;lia
  ·show 0+_<_;exact mP (mo _) (.add (.add (.num 0) mj) (.num 1)) (.num 80000) mj (.num 400) rfl e
 ·refine List.length_append.symm▸?_;lia
noncomputable def V5(b:Bool):List Nat:=match b with|true=>[43]|false=>[35]
noncomputable def JV(G:l8)(s:St):List Nat:=match Bo G s s.side with
 |true=>V5 ((oB G s).any (Bs G s (C9 G s s.side)))
 |false=>[]
section
variable{S:List Int}{k:Int}{m:Nat}{G:l8}{st:St}{g:MH}{n:Nat}{hd:Bool}{X:As}{μ:MH}
theorem It{Q:Ae}(hn:4<=n)(C:mG G st)(V:Mv G st v kd tk)(A:QO G st s kd tk v)(GC:Cj G m)
  (h:Q .none (B S k m G st++g)):CG n hd 247 [.lX 54] Q X (B S k m G s++g):=by
 rw[Tu A.side A.hist]
 refine aM hn (Tw V A) GC.S GC.hm V.M V.mT V.k1 V.k7 (fun e=>(V.oj e).2) ?_
 rw[fG C V A];exact h
theorem ZF{Q:Ae}(hn:3<=n)(C:mG G st)(V:Mv G st v kd tk)(GC:Cj G m)(hh:st.hist.length<1000)
  (h:Q .none (B S k m G (Ij m st kd tk v)++g)):CG n hd 246 [.lX 54,.int v] Q X (B S k m G st++g):=by
 obtain⟨z,z1,z2⟩:=GC.e48
 exact fT hn C GC.S GC.hm V z1 z2 hh h
theorem aL{Q:Ae}(hn:11<=n)(C:mG G st)(V:Mv G st v kd tk)(GC:Cj G m)(hh:st.hist.length<1000)(R:HM G (Ij m st kd tk v))
  (h:∀e,Q (.str (JV G (Ij m st kd tk v))) (B S k m G st++(g++e))):CG n hd 253 [.lX 54,.int v] Q X (B S k m G st++g):=by
 refine stp hn fun n hn=>?_
 have A:=after (m:=m) C V
 refine ZF (l6 hn rfl) C V GC hh ?_
 refine Ir (l6 hn rfl) GC.S R.C.low R.q0 R.q1 ?_
 unfold JV at h
 revert R A h
 generalize Ij m st kd tk v=s
 intro R h A
 refine Ap (fun e=>?_) fun e=>?_
 ·rw[e]at h
  refine dU (l6 hn rfl) GC.S R.C.low R.q0 R.q1 GC.hr R.mvE e ?_
  intro e'
  revert h
  cases(oB G s).any (Bs G s (C9 G s s.side))
  all_goals
   intro h
   refine It (l6 hn rfl) C V A GC ?_
   exact h e'
 ·replace h:=e▸h
  refine It (l6 hn rfl) C V A GC ?_
  have h:=h []
  rw[gE]at h
  exact h
end
noncomputable def og:List Nat:=[97,98,99,100,101,102,103,104]
noncomputable def nX:List Nat:=[49,50,51,52,53,54,55,56]
abbrev V9(R f r:Int):Prop:=f<0\/4<=f\/r<0\/R<=r
noncomputable def Nf(R f r:Int):Int:=if V9 R f r then -1 else r*4+f
noncomputable def BJ(R:Int):List Nat->Int
 |[a,b]=>Nf R (AE a og 0) (AE b nX 0)
 |_=> -1
noncomputable def qX:Nat->List Nat
 |2=>[110]|3=>[98]|4=>[114]|_=>[113]
noncomputable def M4(e:Nat):List Nat->Int->Int
 |[],p=>p
 |kd :: r,p=>M4 e r (match qX kd==[e]with|true=>kd|false=>p)
noncomputable def pB(e:Nat):Int:=if e=110 then 2 else if e=98 then 3 else if e=114 then 4 else if e=113 then 5 else 0
noncomputable def Ii(o g p:Int):Option (Int×Int×Int):=if o<0\/g<0 then none else some (o,g,p)
noncomputable def KV(R:Int):List Nat->Option (Int×Int×Int)
 |[a,b,c,d]=>Ii (BJ R [a,b]) (BJ R [c,d]) 0
 |[a,b,c,d,e]=>if pB e=0 then none else Ii (BJ R [a,b]) (BJ R [c,d]) (pB e)
 |_=>none
noncomputable def Du(q:Int×Int×Int)(v:Int):Bool:=Ai v==q.1&&(md v==q.2.1&&Ah v==q.2.2)
noncomputable def exc(hd:Bool)(c:Nat):Nat:=match hd with|true=>c+10|false=>c
def FM{α:Type}(f:α->V)(Q:Ae)(X:As)(c:Nat)(o:Option α)(μ:MH):Prop:=match o with
 |some a=>Q (f a) μ
 |none=>X c μ
noncomputable def QH(q:Int×Int×Int):V:=.tup [.int q.1,.int q.2.1,.int q.2.2]
theorem GV(h:V9 R f r):Nf R f r = -1:=iJ h
section
variable{S:List Int}{k:Int}{m:Nat}{G:l8}{st:St}{g:MH}{n:Nat}{hd:Bool}{Q:Ae}{X:As}{μ:MH}
theorem Jr(hn:1<=n)(hR:R<1000)(h:Q (.int (BJ R t)) μ):CG n hd 227 [.int 4,.int R,.str t] Q X μ:=by
 refine stp hn fun n hn=>?_
 match t,h with
 |[],h=>exact h
 |[a],h=>exact h
 |a :: b :: c :: r,h=>exact h
 |[a,b],h=>
  have h:Q (.int (Nf R (AE a og 0) (AE b nX 0))) μ:=h
  refine Af rfl ?_
  refine Af rfl ?_
  unfold og nX at h
  refine Ap (fun e=>?_) fun e=>?_
  ·replace h:=(GV (.inl (gH e)))▸h;exact h
  ·conv=>whnf
   refine Ap (fun e2=>?_) fun e2=>?_
   ·replace h:=(GV (.inr (.inl (gH e2))))▸h;exact h
   ·conv=>whnf
    refine Ap (fun e3=>?_) fun e3=>?_
    ·replace h:=(GV (.inr (.inr (.inl (gH e3)))))▸h;exact h
    ·conv=>whnf
     refine Ap (fun e4=>?_) fun e4=>?_
     ·replace h:=(GV (.inr (.inr (.inr (gH e4)))))▸h;exact h
     ·have e1:=ii e
      have e2:=ii e2
      have e3:=ii e3
      have e4:=ii e4
      have z:¬V9 R (AE a [97,98,99,100,101,102,103,104] 0) (AE b [49,50,51,52,53,54,55,56] 0):=fun z=>by
       rcases z with z|z|z|z
       ·exact e1 z
       ·exact e2 z
       ·exact e3 z
       ·exact e4 z
      replace h:=(show Nf R (AE a [97,98,99,100,101,102,103,104] 0) (AE b [49,50,51,52,53,54,55,56] 0)=AE b [49,50,51,52,53,54,55,56] 0*4+AE a [97,98,99,100,101,102,103,104] 0 from iI z)▸h
      refine Aj (D1 (by exact mJ (mo _) (.add (.neg (.num 1000)) (.num 1)) mh (.num 0) mh rfl (Int.not_lt.mp e3)) (by exact qq (mU _ _) (mm 1 1) (.num 1000) (mm 0 1) (.num 1000) (mm 1 1) mh rfl hR (Int.not_le.mp e4))) ?_
      exact h
theorem VJ(hn:1<=n)(h2:2<=kd)(h6:kd<6)(h:Q (.str (qX kd)) μ):CG n hd 228 [.int kd] Q X μ:=by
 refine stp hn fun n hn=>?_
 match kd,h2,h6 with
 |2,_,_=>exact h
 |3,_,_=>exact h
 |4,_,_=>exact h
 |5,_,_=>exact h
theorem Mi(h:o<0\/q<0):Ii o q p=none:=iJ h
theorem T9(h1:¬o<0)(h2:¬q<0):Ii o q p=some (o,q,p):=iI fun z=>z.elim h1 h2
theorem Yy(e:Nat):pB e=M4 e [2,3,4,5] 0:=by
 unfold pB
 by_cases h1:e=110
 ·subst h1;rfl
 ·by_cases h2:e=98
  ·subst h2;rfl
  ·by_cases h3:e=114
   ·subst h3;rfl
   ·by_cases h4:e=113
    ·subst h4;rfl
    ·rw[iI h1,iI h2,iI h3,iI h4]
     have q:∀x,e≠x->([x]==[e])=false:=fun x z=>by rw[gQ];intro w;cases w;exact z rfl
     unfold M4 M4 M4 M4 M4
     (refine(show(qX 2==[e])=false from q 110 h1).symm▸?_;refine(show(qX 3==[e])=false from q 98 h2).symm▸?_;refine(show(qX 4==[e])=false from q 114 h3).symm▸?_;refine(show(qX 5==[e])=false from q 113 h4).symm▸?_;rfl)
noncomputable def gm:MS:=fb (mS 0 (ft (mS 5 FP)))
theorem VI{Q:Au}{e:Nat}(hn:1<=n)(hi:μ[i]?=some (.list XS))(L:List Nat):∀(_:∀kd∈L,2<=kd/\kd<6) (env:An) (p:Int),env 224=some (.str [a,b,c,d,e])->env 14=some (.int p)->
  (∀env',env' 14=some (.int (M4 e L p))->env' 224=env 224->env' 11=env 11->env' 61=env 61->Q .next env' μ)->
  Bz (some (i,XS)) (fun v K env' μ'=>opt (AC [1] true v env') fun e=>ws lY (Ak lY prog n) hd gm K X e μ') (L.map fun(kd:Nat)=>.int kd) Q env μ:=by
 induction L with
 |nil=>intro _ env p a1 a2 h;exact⟨hi,h env a2 rfl rfl rfl⟩
 |cons kd L ih=>
  intro hL env p a1 a2 h
  have hk:=hL kd gK
  have oN:∀kd∈L,2<=kd/\kd<6:=fun s hs=>hL s (gA _ hs)
  refine⟨hi,?_⟩
  refine VJ hn hk.1 hk.2 ?_
  refine Ab a1 ?_
  refine Af rfl ?_
  unfold M4 at h
  refine Ap (fun e3=>?_) fun e3=>?_
  ·have e3:(qX kd==[e])=true:=e3
   rw[e3]at h
   exact ih oN _ _ a1 rfl h
  ·have e3:(qX kd==[e])=false:=e3
   rw[e3]at h
   exact ih oN _ _ a1 a2 h
@[elab_as_elim] theorem Rt{α:Type}{P:List α->Prop}(t:List α)(h4:∀a b c d,P [a,b,c,d])(h5:∀a b c d e,P [a,b,c,d,e])(o:∀t,t.length≠4->t.length≠5->P t):P t:=by
 rcases t with _|⟨a,_|⟨b,_|⟨c,_|⟨d,_|⟨e,_|⟨f,r⟩⟩⟩⟩⟩⟩
 ·exact o _ (fun h=>nomatch h) (fun h=>nomatch h)
 ·exact o _ (fun h=>nomatch h) (fun h=>nomatch h)
 ·exact o _ (fun h=>nomatch h) (fun h=>nomatch h)
 ·exact o _ (fun h=>nomatch h) (fun h=>nomatch h)
 ·exact h4 a b c d
 ·exact h5 a b c d e
 ·exact o _ (fun h=>nomatch h) (fun h=>nomatch h)
theorem LE{t:List Nat}(h4:t.length≠4)(h5:t.length≠5):KV R t=none:=by
 rcases t with _|⟨a,_|⟨b,_|⟨c,_|⟨d,_|⟨e,_|⟨f,r⟩⟩⟩⟩⟩⟩<;>first|rfl|exact absurd rfl h4|exact absurd rfl h5
theorem aJ(hn:2<=n)(hR:R<1000)(h:∀e,FM QH Q X (exc hd 1) (KV R t) (B S k m G st++(g++e))):CG n hd 229 [.int 4,.int R,.str t] Q X (B S k m G st++g):=by
 refine stp hn fun n hn=>?_
 revert h
 refine Rt t (fun a b c d h=>?_) (fun a b c d e h=>?_) fun t s4 s5 h=>?_
 rotate_left 2
 ·have h:=h []
  (rw[gE]at h;replace h:=(LE s4 s5)▸h)
  refine DT (ig (b:=(4:Int)).mpr fun z=>s4 (Int.ofNat.inj z)) ?_
  refine DT (ig (b:=(5:Int)).mpr fun z=>s5 (Int.ofNat.inj z)) ?_
  exact h
 ·have h:=h []
  rw[gE]at h
  refine Jr (l6 hn rfl) hR ?_
  refine Jr (l6 hn rfl) hR ?_
  have h:FM QH Q X (exc hd 1) (Ii (BJ R [a,b]) (BJ R [c,d]) 0) (B S k m G st++g):=h
  refine Ap (fun e=>?_) fun e=>?_
  ·have e:decide (BJ R [a,b]<0)=true:=e
   rw[Mi (.inl (gH e))]at h;exact h
  ·have e:decide (BJ R [a,b]<0)=false:=e
   refine Ap (fun e2=>?_) fun e2=>?_
   ·have e2:decide (BJ R [c,d]<0)=true:=e2
    rw[Mi (.inr (gH e2))]at h;exact h
   ·have e2:decide (BJ R [c,d]<0)=false:=e2
    rw[T9 (ii e) (ii e2)]at h;exact h
 ·refine Jr (l6 hn rfl) hR ?_
  refine Jr (l6 hn rfl) hR ?_
  have h:∀x,FM QH Q X (exc hd 1) (if pB e=0 then none else Ii (BJ R [a,b]) (BJ R [c,d]) (pB e)) (B S k m G st++(g++x)):=h
  refine Ap (fun e1=>?_) fun e1=>?_
  ·have e1:decide (BJ R [a,b]<0)=true:=e1
   (replace h:=(Mi (.inl (gH e1)))▸h;rw[ite_self]at h)
   have h:=h []
   rw[gE]at h
   exact h
  ·conv=>whnf
   refine Ap (fun e2=>?_) fun e2=>?_
   ·have e2:decide (BJ R [c,d]<0)=true:=e2
    rw[Mi (.inr (gH e2)),ite_self]at h
    have h:=h []
    rw[gE]at h
    exact h
   ·have e1:decide (BJ R [a,b]<0)=false:=e1
    have e2:decide (BJ R [c,d]<0)=false:=e2
    replace h:=(T9 (ii e1) (ii e2))▸h
    refine Ab BP ?_
    refine A0 ?_
    have hi:(B S k m G st++g++[.list [.int 2,.int 3,.int 4,.int 5]])[g.length+61]?=some (.list [.int 2,.int 3,.int 4,.int 5]):=by
     rw[gv];exact(gw:(g++[MO.list [.int 2,.int 3,.int 4,.int 5]])[g.length]?=_)
    have h:=h [.list [.int 2,.int 3,.int 4,.int 5]]
    refine VI (l6 hn rfl) hi [2,3,4,5] (by decide) _ 0 rfl rfl fun env' a1 a2 a3 a4=>?_
    rw[<- Yy]at a1
    revert h a1
    generalize pB e=p
    intro h a1
    refine Ab a1 ?_
    refine Ap (fun e3=>?_) fun e3=>?_
    ·have e3:p=0:=by exact gH e3
     rw[iJ e3]at h
     refine Ab a2 ?_
     exact h
    ·have e3:p≠0:=by simpa using e3
     rw[iI e3]at h
     refine Ab a3 ?_
     refine Ab a4 ?_
     refine Ab a1 ?_
     exact h
noncomputable def fmB:MS:=fb (mS 1 HO)
theorem Rh{Q:Au}{q:Int×Int×Int}(hn:1<=n)(hi:μ[i]?=some (.list XS))(L:List Int):∀(env:An),env 11=some (.int q.1)->env 61=some (.int q.2.1)->env 14=some (.int q.2.2)->env 224=some (.str t)->
  (∀env',env' 224=some (.str t)->match L.find? (Du q)with|some v=>Q (.ret (.int v)) env' μ|none=>Q .next env' μ)->
  Bz (some (i,XS)) (fun v K env' μ'=>opt (AC [19] true v env') fun e=>ws lY (Ak lY prog n) hd fmB K X e μ') (L.map .int) Q env μ:=by
 induction L with
 |nil=>intro env a1 a2 a3 a4 h;exact⟨hi,h env a4⟩
 |cons v L ih=>
  intro env a1 a2 a3 a4 h
  refine⟨hi,?_⟩
  have skip:Du q v=false->Bz (some (i,XS)) (fun v K env' μ'=>opt (AC [19] true v env') fun e=>ws lY (Ak lY prog n) hd fmB K X e μ') (L.map .int) Q (Ad env 19 (.int v)) μ:=fun e=>by
   refine ih _ a1 a2 a3 a4 fun env' b=>?_
   have h:=h env' b
   (rw[io]at h;replace h:=e▸h)
   exact h
  refine Eu hn ?_
  refine Ab a1 ?_
  refine Ap (fun e=>?_) fun e=>?_
  ·have e:(Ai v==q.1)=true:=e
   refine KL hn ?_
   refine Ab a2 ?_
   refine Ap (fun e2=>?_) fun e2=>?_
   ·have e2:(md v==q.2.1)=true:=e2
    refine Dj hn ?_
    refine Ab a3 ?_
    refine Ap (fun e3=>?_) fun e3=>?_
    ·have e3:(Ah v==q.2.2)=true:=e3
     have h:=h (Ad env 19 (.int v)) a4
     rw[io,show Du q v=true by unfold Du;(refine e.symm▸?_;refine e2.symm▸?_;refine e3.symm▸?_);rfl]at h
     exact h
    ·have e3:(Ah v==q.2.2)=false:=e3
     exact skip (by unfold Du;(refine e3.symm▸?_;rewrite[jT];rewrite[jT];rfl))
   ·have e2:(md v==q.2.1)=false:=e2
    exact skip (by unfold Du;(refine e2.symm▸?_;rewrite[kx];rewrite[jT];rfl))
  ·have e:(Ai v==q.1)=false:=e
   exact skip (by unfold Du;(refine e.symm▸?_;rewrite[kx];rfl))
theorem az{L:List Int}(hn:3<=n)(hR:R<1000)(hj:g[j]?=some (il L))(h:∀e,FM .int Q X (exc hd 1) ((KV R t).bind fun q=>L.find? (Du q)) (B S k m G st++(g++e))):CG n hd 230 [.int 4,.int R,.lX (j+61),.str t] Q X (B S k m G st++g):=by
 refine stp hn fun n hn=>?_
 refine aJ (l6 hn rfl) hR ?_
 intro e
 have h:=h e
 revert h
 cases KV R t with
 |none=>intro h;exact h
 |some q=>
  intro h
  have h:FM .int Q X (exc hd 1) (L.find? (Du q)) (B S k m G st++(g++e)):=h
  refine Ab (Be (Ac hj e)) ?_
  refine A0 ?_
  refine Rh (q:=q) (t:=t) (l6 hn rfl) (A5 (Ac hj e)) L _ ?_ ?_ ?_ ?_ fun env' a=>?_
  any_goals rfl
  revert h
  cases L.find? (Du q) with
  |some v=>intro h;exact h
  |none=>
   intro h
   refine Ab a ?_
   exact h
end
noncomputable def mX:Nat->Nat
 |2=>78|3=>66|4=>82|5=>81|_=>75
noncomputable def qM(x s:List Nat):List Nat->Int
 |[]=>0
 |kd :: r=>match[mX kd]==x with
  |true=>(match decide (mX kd∈s)with|true=>kd|false=>qM x s r)
  |false=>qM x s r
noncomputable def nI(x s:List Nat):Int:=qM x s [2,3,4,5,6]
noncomputable def CQ(t:List Nat):List Nat:=cut t 0 (min 1 t.length)
noncomputable def GW(t:List Nat):List Nat:=cut t (min 1 t.length) t.length
noncomputable def AF(t:List Nat):List Nat:=cut t (-1+(t.length:Int)).toNat t.length
noncomputable def A8(t:List Nat):List Nat:=cut t 0 (-1+(t.length:Int)).toNat
noncomputable def Cg(t:List Nat):List Nat:=cut t (-2+(t.length:Int)).toNat t.length
noncomputable def BV(t:List Nat):List Nat:=cut t 0 (-2+(t.length:Int)).toNat
noncomputable def AX(t:List Nat):List Nat×List Nat:=match AF t==[43] with
 |true=>(A8 t,AF t)
 |false=>match AF t==[35] with
  |true=>(A8 t,AF t)
  |false=>(t,[])
noncomputable def E7(f:Int):List Nat->Option (Int×Int)
 |[]=>some (f, -1)
 |c :: r=>match decide (c∈nX) with
  |true=>(match r with|[]=>some (f,AE c nX 0)|_ :: _=>none)
  |false=>none
noncomputable def E6:List Nat->Option (Int×Int)
 |[]=>some (-1, -1)
 |c :: r=>match decide (c∈og) with
  |true=>E7 (AE c og 0) r
  |false=>E7 (-1) (c :: r)
noncomputable def Z1(q:Int×Int):V:=.tup [.int q.1,.int q.2]
noncomputable def VA(o:Option (Int×Int)):V:=match o with|some q=>Z1 q|none=>.none
theorem N3(c:Nat)(r:List Nat):GW (c :: r)=r:=by
 unfold GW cut
 rw[jB (gF _),gR];rfl
section
variable{S:List Int}{k:Int}{m:Nat}{G:l8}{st:St}{g:MH}{n:Nat}{hd:Bool}{Q:Ae}{X:As}{μ:MH}
theorem WS(hn:12<=n)(GC:Cj G m)(R:HM G st)(h:∀e,FM .int Q X (exc hd 1) ((KV G.ranks t).bind fun q=>(Ay G st).find? (Du q)) (B S k m G st++(g++e))):CG n hd 231 [.lX 54,.str t] Q X (B S k m G st++g):=by
 refine stp hn fun n hn=>?_
 refine Fr (l6 hn rfl) GC.S R.C.low R.q0 R.q1 GC.hr R.ps (B7 G st) ?_
 intro e j hj
 refine az (l6 hn rfl) GC.rk hj ?_
 intro e'
 rw[gv]
 have h:=h (e++e')
 revert h
 cases(KV G.ranks t).bind fun q=>(Ay G st).find? (Du q) with
 |none=>intro h;exact h
 |some v=>intro h;exact h
theorem Jn(hn:2<=n)(h2:2<=kd)(h7:kd<7)(h:Q (.str [mX kd]) μ):CG n hd 10 [.int kd] Q X μ:=by
 obtain⟨n,rfl⟩:∃j,n=j+2:=⟨n - 2,by lia⟩
 revert h
 exact tc h2 h7 (fun h=>Af rfl h) (fun h=>Af rfl h) (fun h=>Af rfl h) (fun h=>Af rfl h) (fun h=>Af rfl h)
noncomputable def klB:MS:=fb (mS 0 D7)
theorem XH{Q:Au}(hn:2<=n)(hi:μ[i]?=some (.list XS))(L:List Nat):∀(_:∀kd∈L,2<=kd/\kd<7) (env:An),env 254=some (.str x)->env 255=some (.str s)->
  (∀env',(qM x s L=0->Q .next env' μ)/\(∀fl,fl=KY.ret (.int (qM x s L))->Q fl env' μ))->
  Bz (some (i,XS)) (fun v K env' μ'=>opt (AC [1] true v env') fun e=>ws lY (Ak lY prog n) hd klB K X e μ') (L.map fun(kd:Nat)=>.int kd) Q env μ:=by
 induction L with
 |nil=>intro _ env a1 a2 h;exact⟨hi,(h env).1 rfl⟩
 |cons kd L ih=>
  intro hL env a1 a2 h
  have hk:=hL kd gK
  have oN:∀kd∈L,2<=kd/\kd<7:=fun s hs=>hL s (gA _ hs)
  refine⟨hi,?_⟩
  refine Jn hn hk.1 hk.2 ?_
  refine Ab a1 ?_
  unfold qM at h
  refine Ap (fun e=>?_) fun e=>?_
  ·have e:([mX kd]==x)=true:=e
   have ex:x=[mX kd]:=(gN e).symm
   rw[e]at h
   rw[ex]at a1
   refine Ab a1 ?_
   refine Ab a2 ?_
   refine Ap (fun e2=>?_) fun e2=>?_
   ·have e2:decide (mX kd∈s)=true:=e2
    rw[e2]at h
    exact(h _).2 _ rfl
   ·have e2:decide (mX kd∈s)=false:=e2
    rw[e2]at h
    exact ih oN _ (by rw[<- ex]at a1;exact a1) a2 h
  ·have e:([mX kd]==x)=false:=e
   rw[e]at h
   exact ih oN _ a1 a2 h
theorem QV(hn:3<=n)(h:∀e,Q (.int (nI x s)) (B S k m G st++(g++e))):CG n hd 256 [.str x,.str s] Q X (B S k m G st++g):=by
 refine stp hn fun n hn=>?_
 have hi:(B S k m G st++g++[.list [.int 2,.int 3,.int 4,.int 5,.int 6]])[g.length+61]?=some (.list [.int 2,.int 3,.int 4,.int 5,.int 6]):=by
  rw[gv];exact(gw:(g++[MO.list [.int 2,.int 3,.int 4,.int 5,.int 6]])[g.length]?=_)
 have h:=h [.list [.int 2,.int 3,.int 4,.int 5,.int 6]]
 unfold nI at h
 refine Ab BP ?_
 refine A0 ?_
 refine XH (x:=x) (s:=s) (l6 hn rfl) hi [2,3,4,5,6] (by decide) _ ?_ ?_ fun env'=>⟨fun e=>?_,fun fl e=>?_⟩
 any_goals rfl
 ·rw[e]at h;exact h
 ·rw[e];exact h
theorem TR(hn:1<=n)(h:Q (.tup [.str (AX t).1,.str (AX t).2]) μ):CG n hd 257 [.str t] Q X μ:=by
 refine stp hn fun n hn=>?_
 unfold AX at h
 refine Ap (fun e=>?_) fun e=>?_
 ·have e:(AF t==[43])=true:=e
  replace h:=e▸h;exact h
 ·have e:(AF t==[43])=false:=e
  rw[e]at h
  refine Ap (fun e=>?_) fun e=>?_
  ·have e:(AF t==[35])=true:=e
   rw[e]at h;exact h
  ·have e:(AF t==[35])=false:=e
   rw[e]at h;exact h
theorem Q5(e:decide (c∈nX)=false):E7 f (c :: r)=none:=by
 show(match decide (c∈nX)with|true=>_|false=>none)=_
 (refine e.symm▸?_;rfl)
theorem Mj(e:decide (c∈nX)=true):E7 f (c :: r)=(match r with|[]=>some (f,AE c nX 0)|_ :: _=>none):=by
 show(match decide (c∈nX)with|true=>_|false=>none)=_
 rw[e]
theorem Py(e:decide (c∈og)=false):E6 (c :: r)=E7 (-1) (c :: r):=by
 show(match decide (c∈og)with|true=>_|false=>E7 (-1) (c :: r))=_
 (refine e.symm▸?_;rfl)
theorem Pz(e:decide (c∈og)=true):E6 (c :: r)=E7 (AE c og 0) r:=by
 show(match decide (c∈og)with|true=>_|false=>E7 (-1) (c :: r))=_
 (refine e.symm▸?_;rfl)
theorem Ng:B8 μ (.str (c :: r)) (.int 0)=some (.str [c]):=by
 show((CU (c :: r).length 0).bind fun k=>((c :: r)[k]?).map fun c=>V.str [c])=_
 unfold CU
 rw[iJ (iy 0),iJ (by rw[gR];exact cr (gP _))];rfl
theorem dY{Q:Au}(e1:env 258=some (.str r))(e2:env 226=some (.int f))(e3:env 225=some (.int (-1)))(h:∀env',Q (.ret (VA (E7 f r))) env' μ):ws lY (Ak lY prog n) hd (AT 3 Gq) Q X env μ:=by
 refine Ab e1 ?_
 match r,e1,h with
 |[],e1,h=>
  refine Ab e1 ?_
  refine Ab e2 ?_
  refine Ab e3 ?_
  exact h _
 |c :: r,e1,h=>
  refine Ab e1 ?_
  refine Af Ng ?_
  refine Ap (fun e=>?_) fun e=>?_
  ·rw[Mj e]at h
   refine Ab e1 ?_
   refine Af Ng ?_
   refine Ab e1 ?_
   match r,h with
   |[],h=>
    refine Ab e2 ?_
    exact h _
   |d :: r,h=>exact h _
  ·rw[Q5 e]at h
   refine Ab e1 ?_
   exact h _
theorem ay(hn:1<=n)(h:Q (VA (E6 r)) μ):CG n hd 259 [.str r] Q X μ:=by
 refine stp hn fun n hn=>?_
 match r,h with
 |[],h=>exact h
 |c :: r,h=>
  refine Af Ng ?_
  refine Ap (fun e=>?_) fun e=>?_
  ·replace h:=(Pz e)▸h
   refine Af Ng ?_
   refine dY (env:=Ad (Ad (Ad (Ad (Ad (fun _=>none) 258 (.str (c :: r))) 226 (.int (-1))) 225 (.int (-1))) 226 (.int (AE c og 0))) 258 (.str (GW (c :: r)))) (f:=AE c og 0) (r:=r) ?_ rfl rfl fun _=>h
   exact congrArg (fun z=>some (V.str z)) (N3 c r)
  ·replace h:=(Py e)▸h
   exact dY (env:=Ad (Ad (Ad (fun _=>none) 258 (.str (c :: r))) 226 (.int (-1))) 225 (.int (-1))) (f:= -1) (r:=c :: r) rfl rfl rfl fun _=>h
end
set_option genInjectivity false in
structure Ask where
 k:Int
 f:Int
 r:Int
 x:Bool
 g:Int
 p:Int
noncomputable def LW(a:Ask):V:=.tup [.int a.k,.int a.f,.int a.r,.bool a.x,.int a.g,.int a.p]
noncomputable def rP(k p g:Int)(x:Bool):Option (Int×Int)->Option Ask
 |none=>none
 |some q=>match(k==1)&&(x&&decide (q.1<0)) with
  |true=>none
  |false=>some ⟨k,q.1,q.2,x,g,p⟩
noncomputable def oH(R k p:Int)(b:List Nat):Option Ask:=match decide (BJ R (Cg b)<0) with
 |true=>none
 |false=>match AF (BV b)==[120] with
  |true=>rP k p (BJ R (Cg b)) true (E6 (A8 (BV b)))
  |false=>rP k p (BJ R (Cg b)) false (E6 (BV b))
noncomputable def pI:List Nat:=[78,66,82,81,75]
noncomputable def pd:List Nat:=[78,66,82,81]
noncomputable def oU(R:Int)(t:List Nat):Option Ask:=match nI (CQ t) pI != 0 with
 |true=>oH R (nI (CQ t) pI) 0 (GW t)
 |false=>match nI (AF t) pd != 0 with
  |true=>(match AF (A8 t)==[61] with
   |true=>oH R 1 (nI (AF t) pd) (A8 (A8 t))
   |false=>oH R 1 (nI (AF t) pd) (A8 t))
  |false=>oH R 1 (nI (AF t) pd) t
def YM{α:Type}(f:α->V)(Q:Au)(X:As)(c:Nat)(o:Option α)(env:An)(μ:MH):Prop:=match o with
 |some a=>Q (.ret (f a)) env μ
 |none=>X c μ
section
variable{S:List Int}{k:Int}{m:Nat}{G:l8}{st:St}{g:MH}{n:Nat}{hd:Bool}{X:As}{μ:MH}
theorem fL{Q:Au}(hn:1<=n)(e1:env 1=some (.int kk))(e2:env 14=some (.int p))(e3:env 61=some (.int gl))(e4:env 260=some (.bool x))(e5:env 258=some (.str r))(e6:env 224=some (.str t))
  (h:∀env',YM LW Q X (exc hd 2) (rP kk p gl x (E6 r)) env' μ):ws lY (Ak lY prog n) hd (AT 9 DI) Q X env μ:=by
 refine Ab e5 ?_
 refine ay hn ?_
 revert h
 cases E6 r with
 |none=>
  intro h
  refine Ab e6 ?_
  exact h env
 |some q=>
  intro h
  have h:∀env',YM LW Q X (exc hd 2) (match(kk==1)&&(x&&decide (q.1<0))with|true=>none|false=>some ⟨kk,q.1,q.2,x,gl,p⟩) env' μ:=h
  have fin:((kk==1)&&(x&&decide (q.1<0)))=false->ws lY (Ak lY prog n) hd (AT 12 DI) Q X (Ad env 11 (Z1 q)) μ:=fun e=>by
   replace h:=e▸h
   refine Ab e1 ?_
   refine Af rfl ?_
   refine Af rfl ?_
   refine Ab e4 ?_
   refine Ab e3 ?_
   refine Ab e2 ?_
   exact h _
  refine Ab e1 ?_
  refine Ap (fun e=>?_) fun e=>?_
  ·have e:(kk==1)=true:=e
   refine Ab e4 ?_
   induction x with
   |true=>
    refine Af rfl ?_
    refine Ap (fun e'=>?_) fun e'=>?_
    ·have e':decide (q.1<0)=true:=e'
     (rw[e]at h;replace h:=e'▸h)
     refine Ab e6 ?_
     exact h env
    ·have e':decide (q.1<0)=false:=e'
     exact fin (by refine e'.symm▸?_;simp)
   |false=>exact fin (by simp)
  ·have e:(kk==1)=false:=e
   exact fin (by refine e.symm▸?_;rfl)
theorem Zb{Q:Au}(hn:1<=n)(hR:R<1000)(e1:env 1=some (.int kk))(e2:env 14=some (.int p))(e3:env 45=some (.int 4))(e4:env 49=some (.int R))(e5:env 261=some (.str b))(e6:env 224=some (.str t))
  (h:∀env',YM LW Q X (exc hd 2) (oH R kk p b) env' μ):ws lY (Ak lY prog n) hd (AT 4 DI) Q X env μ:=by
 unfold oH at h
 refine Ab e3 ?_
 refine Ab e4 ?_
 refine Ab e5 ?_
 refine Jr hn hR ?_
 refine Ap (fun e=>?_) fun e=>?_
 ·have e:decide (BJ R (Cg b)<0)=true:=e
  replace h:=e▸h
  refine Ab e6 ?_
  exact h env
 ·have e:decide (BJ R (Cg b)<0)=false:=e
  rw[e]at h
  refine Ab e5 ?_
  refine Ap (fun e=>?_) fun e=>?_
  ·have e:(AF (BV b)==[120])=true:=e
   rw[e]at h
   exact fL (env:=Ad (Ad (Ad (Ad env 61 (.int (BJ R (Cg b)))) 258 (.str (BV b))) 260 (.bool (AF (BV b)==[120]))) 258 (.str (A8 (BV b)))) (gl:=BJ R (Cg b)) (x:=true) (r:=A8 (BV b)) hn e1 e2 rfl (congrArg (fun z=>some (V.bool z)) e) rfl e6 h
  ·have e:(AF (BV b)==[120])=false:=e
   rw[e]at h
   exact fL (env:=Ad (Ad (Ad env 61 (.int (BJ R (Cg b)))) 258 (.str (BV b))) 260 (.bool (AF (BV b)==[120]))) (gl:=BJ R (Cg b)) (x:=false) (r:=BV b) hn e1 e2 rfl (congrArg (fun z=>some (V.bool z)) e) rfl e6 h
theorem W2{Q:Ae}(hn:4<=n)(hR:R<1000)(h:∀e,FM LW Q X (exc hd 2) (oU R t) (B S k m G st++(g++e))):CG n hd 262 [.str t,.int 4,.int R] Q X (B S k m G st++g):=by
 refine stp hn fun n hn=>?_
 have to:∀{o:Option Ask} {μ:MH},FM LW Q X (exc hd 2) o μ->∀env',YM LW (fun fl _ μ'=>match fl with|.ret v=>Q v μ'|.next=>Q .none μ'|.cont=>False) X (exc hd 2) o env' μ:=fun{o μ} h _=>by induction o<;>exact h
 unfold oU at h
 refine QV (l6 hn rfl) ?_
 intro e0
 refine Ap (fun e=>?_) fun e=>?_
 ·have e:(nI (CQ t) pI != 0)=true:=e
  replace h:=e▸h
  exact Zb (env:=Ad (Ad (Ad (Ad (Ad (Ad (Ad (fun _=>none) 224 (.str t)) 45 (.int 4)) 49 (.int R)) 261 (.str t)) 1 (.int (nI (CQ t) pI))) 14 (.int 0)) 261 (.str (GW t))) (kk:=nI (CQ t) pI) (p:=0) (b:=GW t) (t:=t) (l6 hn rfl) hR rfl rfl rfl rfl rfl rfl (to (h e0))
 ·have e:(nI (CQ t) pI != 0)=false:=e
  replace h:=e▸h
  refine QV (l6 hn rfl) ?_
  intro e1
  have h:=h (e0++e1)
  rw[<- gv g e0 e1]at h
  refine Ap (fun e=>?_) fun e=>?_
  ·have e:(nI (AF t) pd != 0)=true:=e
   replace h:=e▸h
   refine Ap (fun e=>?_) fun e=>?_
   ·have e:(AF (A8 t)==[61])=true:=e
    rw[e]at h
    exact Zb (env:=Ad (Ad (Ad (Ad (Ad (Ad (Ad (Ad (Ad (Ad (fun _=>none) 224 (.str t)) 45 (.int 4)) 49 (.int R)) 261 (.str t)) 1 (.int (nI (CQ t) pI))) 14 (.int 0)) 1 (.int 1)) 14 (.int (nI (AF t) pd))) 261 (.str (A8 t))) 261 (.str (A8 (A8 t)))) (kk:=1) (p:=nI (AF t) pd) (b:=A8 (A8 t)) (t:=t) (l6 hn rfl) hR rfl rfl rfl rfl rfl rfl (to h)
   ·have e:(AF (A8 t)==[61])=false:=e
    rw[e]at h
    exact Zb (env:=Ad (Ad (Ad (Ad (Ad (Ad (Ad (Ad (Ad (fun _=>none) 224 (.str t)) 45 (.int 4)) 49 (.int R)) 261 (.str t)) 1 (.int (nI (CQ t) pI))) 14 (.int 0)) 1 (.int 1)) 14 (.int (nI (AF t) pd))) 261 (.str (A8 t))) (kk:=1) (p:=nI (AF t) pd) (b:=A8 t) (t:=t) (l6 hn rfl) hR rfl rfl rfl rfl rfl rfl (to h)
  ·have e:(nI (AF t) pd != 0)=false:=e
   replace h:=e▸h
   exact Zb (env:=Ad (Ad (Ad (Ad (Ad (Ad (Ad (Ad (fun _=>none) 224 (.str t)) 45 (.int 4)) 49 (.int R)) 261 (.str t)) 1 (.int (nI (CQ t) pI))) 14 (.int 0)) 1 (.int 1)) 14 (.int (nI (AF t) pd))) (kk:=1) (p:=nI (AF t) pd) (b:=t) (t:=t) (l6 hn rfl) hR rfl rfl rfl rfl rfl rfl (to h)
end
theorem Xm(ns:List Int):PyData.eqv (.list (ns.map PyData.int)) (.list [])=ns.isEmpty:=by
 induction ns using List.casesOn<;>rfl
theorem Un(ns:List Int):PyData.eqv (.list (ns.map PyData.int)) (.list (ns.map PyData.int))=true:=by
 have h:∀l:List Int,PyData.eqvAll (l.map PyData.int) (l.map PyData.int)=true:=fun l=>by
  induction l with
  |nil=>rfl
  |cons a l ih=>simp[PyData.eqvAll,PyData.eqv,ih]
 simp[PyData.eqv,h]
theorem Ss(μ:MH)(j:Nat)(l:List Int):(l.map V.int).mapM (AZ μ j)=some (l.map PyData.int):=by
 induction l with
 |nil=>rfl
 |cons a l ih=>(rewrite[iZ];rewrite[jc];refine ih.symm▸?_);induction j using Nat.casesOn<;>rfl
theorem Iw{l:List Int}(h:μ[a]?=some (il l)):AZ μ (j+1) (.lX a)=some (.list (l.map .int)):=by
 show((By μ a).bind fun xs=>(xs.mapM (AZ μ j)).map _)=_
 rw[CO h]
 show((l.map V.int).mapM (AZ μ j)).map _=_
 rw[Ss];rfl
theorem PH{l:List Int}(ha:μ[a]?=some (il l))(hb:μ[b]?=some (il [])):rm μ (.lX a) (.lX b)=some l.isEmpty:=by
 show((AZ μ 5 (.lX a)).bind fun x=>(AZ μ 5 (.lX b)).map fun y=>PyData.eqv x y)=_
 (refine(Iw ha).symm▸?_;refine(Iw hb).symm▸?_;rewrite[<- Xm]);rfl
noncomputable def ou(st:St)(v:Int):Int:=Builtin.bitAnd (AB st.board (Ai v).toNat) 7
noncomputable def mY(st:St)(v:Int):Bool:=AB st.board (md v).toNat != 0
noncomputable def Ef(st:St)(a:Ask)(v:Int):Bool:=
 md v==a.g&&(Ah v==a.p&&(ou st v==a.k&&(mY st v==a.x&&((decide (a.f<0)||(Ai v).fmod 4==a.f)&&(decide (a.r<0)||(Ai v).fdiv 4==a.r)))))
noncomputable def Go:List Nat:=[79,45,79]
noncomputable def LT:List Nat:=[79,45,79,45,79]
noncomputable def CF(R:Int)(st:St)(L:List Int)(b:List Nat):Option (List Int):=match b==Go with
 |true=>some []
 |false=>match b==LT with
  |true=>some []
  |false=>(oU R b).map fun a=>L.filter (Ef st a)
section
variable{S:List Int}{k:Int}{m:Nat}{G:l8}{st:St}{g:MH}{n:Nat}{hd:Bool}{X:As}{μ:MH}
theorem Q0{Q:Ae}(hn:2<=n)(hl:(st.board.length:Int)=G.size)(M:B0 G v)(h:Q (.bool (mY st v)) (B S k m G st++g)):CG n hd 248 [.lX 56,.int v] Q X (B S k m G st++g):=by
 refine stp hn fun n hn=>?_
 unfold mY at h
 refine KL (l6 hn rfl) ?_
 refine B1 M.t0 (Cu (by have:=M.t0;have:=M.t1;lia)) ?_
 refine Ap (fun e=>?_) fun e=>?_
 ·have e:(AB st.board (md v).toNat != 0)=true:=e
  replace h:=e▸h
  have q:∀b,b=true->Q (.bool b) (B S k m G st++g):=fun b hb=>by refine hb.symm▸?_;exact h
  exact q _ e
 ·have e:(AB st.board (md v).toNat != 0)=false:=e
  replace h:=e▸h
  refine EZ (l6 hn rfl) ?_
  have q:∀b,b=false->Q (.bool b) (B S k m G st++g):=fun b hb=>by refine hb.symm▸?_;exact h
  exact q _ (by rcases M.sp with z|z<;>refine z.symm▸?_<;>rfl)
theorem WN{Q:Ae}(hn:1<=n)(h:Q (.int (Builtin.bitAnd p 7)) μ):CG n hd 5 [.int p] Q X μ:=by
 induction n using Nat.casesOn with
 |zero=>exact absurd hn (by decide)
 |succ n=>exact h
theorem TU{Q:Ae}{s:Int}(hn:1<=n)(h:Q (.int (s.fmod 4)) μ):CG n hd 219 [.int 4,.int s] Q X μ:=by
 induction n using Nat.casesOn with
 |zero=>exact absurd hn (by decide)
 |succ n=>exact h
theorem T5{Q:Ae}{s:Int}(hn:1<=n)(h:Q (.int (s.fdiv 4)) μ):CG n hd 220 [.int 4,.int s] Q X μ:=by
 induction n using Nat.casesOn with
 |zero=>exact absurd hn (by decide)
 |succ n=>exact h
noncomputable def aZ(a:Ask)(v:Int):An:=Ad (Ad (Ad (Ad (Ad (Ad (Ad (Ad (Ad (Ad (Ad (fun _=>none) 45 (.int 4)) 110 (.lX 56)) 19 (.int v)) 263 (LW a)) 1 (.int a.k)) 226 (.int a.f)) 225 (.int a.r)) 260 (.bool a.x)) 61 (.int a.g)) 14 (.int a.p)) 11 (.int (Ai v))
theorem QU{Q:Ae}(h:Q (.bool b) μ)(e:b=c):Q (.bool c) μ:=by rw[<- e];exact h
theorem aA{Q:Ae}(hn:3<=n)(hl:(st.board.length:Int)=G.size)(M:B0 G v)(h:Q (.bool (Ef st a v)) (B S k m G st++g)):CG n hd 264 [.int 4,.lX 56,.int v,LW a] Q X (B S k m G st++g):=by
 refine stp hn fun n hn=>?_
 unfold Ef at h
 refine Eu (l6 hn rfl) ?_
 refine EZ (l6 hn rfl) ?_
 refine CA (DP M) ?_
 refine KL (l6 hn rfl) ?_
 refine Ap (fun e=>?_) fun e=>?_
 ·have e:(md v==a.g)=false:=by simpa using e
  replace h:=e▸h;exact h
 ·have e:(md v==a.g)=true:=by simpa using e
  replace h:=e▸h
  refine Dj (l6 hn rfl) ?_
  refine Ap (fun e=>?_) fun e=>?_
  ·have e:(Ah v==a.p)=false:=by simpa using e
   replace h:=e▸h;exact h
  ·have e:(Ah v==a.p)=true:=by simpa using e
   replace h:=e▸h
   refine B1 M.f0 (Cu (by have:=M.f0;have:=M.f1;lia)) ?_
   refine WN (l6 hn rfl) ?_
   refine Ap (fun e=>?_) fun e=>?_
   ·have e:(ou st v==a.k)=false:=by unfold ou;simpa using e
    replace h:=e▸h;exact h
   ·have e:(ou st v==a.k)=true:=by unfold ou;simpa using e
    replace h:=e▸h
    refine Q0 (l6 hn rfl) hl M ?_
    refine Ap (fun e=>?_) fun e=>?_
    ·have e:(mY st v==a.x)=false:=by simpa using e
     replace h:=e▸h;exact h
    ·have e:(mY st v==a.x)=true:=by simpa using e
     replace h:=e▸h
     have last:(decide (a.f<0)||(Ai v).fmod 4==a.f)=true->ws lY (Ak lY prog n) hd (AT 5 TI) (fun fl _ μ'=>match fl with|.ret v=>Q v μ'|.next=>Q .none μ'|.cont=>False) X (aZ a v) (B S k m G st++g):=fun e=>by
      replace h:=e▸h
      refine Ap (fun e2=>?_) fun e2=>?_
      ·have e2:decide (a.r<0)=true:=e2
       exact QU h (by refine e2.symm▸?_;simpa using e2)
      ·have e2:decide (a.r<0)=false:=e2
       refine T5 (l6 hn rfl) ?_
       exact QU h (by refine e2.symm▸?_;rfl)
     refine Ap (fun e2=>?_) fun e2=>?_
     ·have e2:decide (a.f<0)=false:=by simpa using e2
      refine TU (l6 hn rfl) ?_
      refine Ap (fun e3=>?_) fun e3=>?_
      ·have e3:((Ai v).fmod 4==a.f)=false:=by simpa using e3
       (rw[e2]at h;replace h:=e3▸h);exact h
      ·have e3:((Ai v).fmod 4==a.f)=true:=by simpa using e3
       exact last (by refine e3.symm▸?_;simp)
     ·have e2:decide (a.f<0)=true:=by simpa using e2
      exact last (by refine e2.symm▸?_;rfl)
end
section
variable{S:List Int}{k:Int}{m:Nat}{G:l8}{st:St}{g:MH}{n:Nat}{hd:Bool}{X:As}{μ:MH}
noncomputable def csB:MS:=fb (mS 0 (ft (mS 1 FX)))
theorem Q4{Q:Au}(hn:1<=n)(hi:μ[i]?=some (.list XS))(L:List Int):∀(_:∀v∈L,B0 G v) (env:An),
  (∀env',env' 31=env 31->Q .next env' μ)->
  Bz (some (i,XS)) (fun v K env' μ'=>opt (AC [19] true v env') fun e=>ws lY (Ak lY prog n) hd csB K X e μ') (L.map .int) Q env μ:=by
 induction L with
 |nil=>intro _ env h;exact⟨hi,h env rfl⟩
 |cons v L ih=>
  intro hL env h
  refine⟨hi,?_⟩
  refine EZ hn ?_
  refine CA (DP (hL v gK)) ?_
  exact ih (fun s hs=>hL s (gA _ hs)) _ h
noncomputable def fiB:MS:=fb (mS 3 FX)
theorem Xp{Q:Au}(hn:3<=n)(hb:(st.board.length:Int)=G.size)(ij:j≠i)(L:List Int):∀(_:∀v∈L,B0 G v) (g:MH) (xs:List Int) (env:An),g[i]?=some (.list XS)->g[j]?=some (il xs)->xs.length+L.length<90000->
  env 45=some (.int 4)->env 110=some (.lX 56)->env 263=some (LW a)->env 31=some (.lX (j+61))->
  (∀env',env' 31=some (.lX (j+61))->Q .next env' (B S k m G st++g.set j (il (xs++L.filter (Ef st a)))))->
  Bz (some (i+61,XS)) (fun v K env' μ'=>opt (AC [19] true v env') fun e=>ws lY (Ak lY prog n) hd fiB K X e μ') (L.map .int) Q env (B S k m G st++g):=by
 induction L with
 |nil=>
  intro _ g xs env hi hj hl e1 e2 e3 e4 h
  have h:=h env e4
  rw[kZ,gE,Bj hj]at h
  exact⟨hi,h⟩
 |cons v L ih=>
  intro hL g xs env hi hj hl e1 e2 e3 e4 h
  have hv:=hL v gK
  have oN:∀v∈L,B0 G v:=fun s hs=>hL s (gA _ hs)
  rw[gR]at hl
  refine⟨hi,?_⟩
  refine Ab e1 ?_
  refine Ab e2 ?_
  refine Ab e3 ?_
  refine aA hn hb hv ?_
  refine Ap (fun e=>?_) fun e=>?_
  ·rw[je e]at h
   refine Ab e4 ?_
   refine Df hj ?_
   refine Ab (Dz hj) ?_
   refine Aj (room (gZ (hJ _ _) (iv hl (by decide)))) ?_
   rw[Fh]
   refine ih oN (g.set j (il (xs++[v]))) (xs++[v]) _ (by rw[gY ij];exact hi) (AJ hj) (by rw[gy];show _+1+_<_;exact S8 hl) e1 e2 e3 e4 fun env' a=>?_
   have h:=h env' a
   rw[hY,gv]
   exact h
  ·rw[jf (by rw[e];exact iN)]at h
   exact ih oN g xs _ hi hj (by exact YG hl) e1 e2 e3 e4 h
theorem Sl{Q:Ae}{L:List Int}(hn:5<=n)(hR:R<1000)(hb:(st.board.length:Int)=G.size)(hL:∀v∈L,B0 G v)(hi:g[i]?=some (il L))(hl:L.length<80000)
  (hN:CF R st L b=none->∀e,X (exc hd 2) (B S k m G st++(g++e))) (hS:∀l,CF R st L b=some l->∀e j,(g++e)[j]?=some (il l)->Q (.lX (j+61)) (B S k m G st++(g++e))):CG n hd 265 [.int 4,.int R,.lX 56,.lX (i+61),.str b] Q X (B S k m G st++g):=by
 refine stp hn fun n hn=>?_
 unfold CF at hN hS
 have hj:(g++[il []])[g.length]?=some (il []):=gw
 have hx:=Be (S:=S) (k:=k) (m:=m) (G:=G) (st:=st) (Ac hi [il []])
 have pW:=A5 (S:=S) (k:=k) (m:=m) (G:=G) (st:=st) (Ac hi [il []])
 refine Ap (fun e=>?_) fun e=>?_
 ·have e:(b==Go)=true:=e
  replace hS:=e▸hS
  refine Ab hx ?_
  refine A0 ?_
  refine Q4 (μ:=B S k m G st++(g++[il []])) (l6 hn rfl) pW L hL _ fun env' a=>?_
  refine Ab a ?_
  exact hS [] rfl [il []] g.length hj
 ·have e:(b==Go)=false:=e
  (replace hN:=e▸hN;replace hS:=e▸hS)
  refine Ap (fun e=>?_) fun e=>?_
  ·have e:(b==LT)=true:=e
   replace hS:=e▸hS
   refine Ab hx ?_
   refine A0 ?_
   refine Q4 (μ:=B S k m G st++(g++[il []])) (l6 hn rfl) pW L hL _ fun env' a=>?_
   refine Ab a ?_
   exact hS [] rfl [il []] g.length hj
  ·have e:(b==LT)=false:=e
   (replace hN:=e▸hN;replace hS:=e▸hS)
   conv=>whnf
   refine W2 (g:=g++[il []]) (l6 hn rfl) hR fun e0=>?_
   revert hN hS
   cases oU R b with
   |none=>intro hN _;have hN:=hN rfl ([il []]++e0);rw[<- gv g]at hN;exact hN
   |some a=>
    intro _ hS
    have hS:=hS _ rfl
    refine Ab (Be (Ac (Ac hi [il []]) e0)) ?_
    refine A0 ?_
    refine Xp (j:=g.length) (i:=i) (a:=a) (XS:=L.map .int) (l6 hn rfl) hb (iK (BY hi)) L hL ((g++[il []])++e0) [] _ (Ac (Ac hi _) _) (Ac hj _) (by show 0+_<_;exact YH hl) ?_ ?_ ?_ ?_ fun env' z=>?_
    any_goals rfl
    refine Ab z ?_
    rw[AR hj,g9 _ _ (gF _),iC]
    have qS:((g++[il (L.filter (Ef st a))])++e0)[g.length]?=some (il (L.filter (Ef st a))):=Ac gw e0
    rw[gv]at qS ⊢
    exact hS _ _ qS
noncomputable def Ly:Option (List Int)->Option Int
 |some [v]=>some v
 |_=>none
theorem aI{Q:Ae}{L:List Int}(hn:6<=n)(hR:R<1000)(hb:(st.board.length:Int)=G.size)(hL:∀v∈L,B0 G v)(hi:g[i]?=some (il L))(hl:L.length<80000)
  (hN:Ly (CF R st L (AX t).1)=none->∀c e,c=2\/c=3->X (exc hd c) (B S k m G st++(g++e))) (hS:∀v,Ly (CF R st L (AX t).1)=some v->∀e,Q (.tup [.int v,.str (AX t).2]) (B S k m G st++(g++e))):CG n hd 266 [.int 4,.int R,.lX 56,.lX (i+61),.str t] Q X (B S k m G st++g):=by
 refine stp hn fun n hn=>?_
 refine TR (l6 hn rfl) ?_
 refine Sl (l6 hn rfl) hR hb hL hi hl (fun e=>?_) fun l e e' j hj=>?_
 ·intro e'
  exact hN (by refine e.symm▸?_;rfl) 2 e' (.inl rfl)
 ·(replace hN:=e▸hN;replace hS:=e▸hS)
  have q1:(B S k m G st++(g++e')++[il []])[j+61]?=some (il l):=Ac (A5 hj) _
  have q2:(B S k m G st++(g++e')++[il []])[(B S k m G st++(g++e')).length]?=some (il []):=gw
  refine Ab (PH q1 q2) ?_
  match l,hj,hN,hS,q1 with
  |[],hj,hN,hS,q1=>
   conv=>whnf
   rw[gv,gv]
   exact hN rfl 2 _ (.inl rfl)
  |[v],hj,hN,hS,q1=>
   refine Ab (CO q1) ?_
   refine AO q1 (iy 0) (by show(0:Int)<1;decide) ?_
   conv=>whnf
   rw[gv,gv]
   exact hS v rfl _
  |v :: w :: l,hj,hN,hS,q1=>
   refine Ab (CO q1) ?_
   refine DT (gz (by(rewrite[gU];rewrite[gR];refine List.length_cons.symm▸?_);exact mJ (mo _) (.add (.num 1) (.num 1)) (.add (mm 0 1) (.num 1)) (.num 0) mh rfl (gP _))) ?_
   conv=>whnf
   rw[gv,gv]
   exact hN rfl 3 _ (.inr rfl)
theorem SV(h:Ly (CF R st L b)=some v):v∈L:=by
 have q:∀l,CF R st L b=some l->∀x∈l,x∈L:=fun l e x hx=>by
  unfold CF at e
  split at e
  ·obtain rfl:=Option.some.inj e;exact nomatch hx
  ·split at e
   ·obtain rfl:=Option.some.inj e;exact nomatch hx
   ·cases z:oU R b with
    |none=>replace e:=z▸e;exact Ao e
    |some a=>replace e:=z▸e;obtain rfl:=Option.some.inj e;exact(List.mem_filter.mp hx).1
 cases e:CF R st L b with
 |none=>replace h:=e▸h;exact Ao h
 |some l=>
  replace h:=e▸h
  match l,e,h with
  |[w],e,h=>obtain rfl:=Option.some.inj h;exact q _ e _ gK
structure Es(G:l8)(m:Nat)(st:St)(mk:Int->List Nat):Prop where
 R:HM G st
 hist:st.hist.length<1000
 mv:∀v∈Ay G st,∃kd tk,Mv G st v kd tk/\HM G (Ij m st kd tk v)/\mk v=JV G (Ij m st kd tk v)
theorem Es.ok{mk:Int->List Nat}(F:Es G m st mk):∀v∈Ay G st,B0 G v:=fun v h=>by
 obtain⟨_,_,V,_⟩:=F.mv v h
 exact V.M
theorem Hx:(Ay G st).length<80000:=gZ (lK _ _) (B7 G st)
noncomputable def Db(s mk:List Nat):Bool:=s==[]||mk==s
noncomputable def VZ(mk:Int->List Nat)(G:l8)(st:St)(t:List Nat):Option Int:=(Ly (CF G.ranks st (Ay G st) (AX t).1)).filter fun v=>Db (AX t).2 (mk v)
theorem Nu{mk:Int->List Nat}{K:V->MH->Prop}(hn:11<=n)(GC:Cj G m)(F:Es G m st mk)(hv:v∈Ay G st)
  (h:∀e,K (.str (mk v)) (B S k m G st++(g++e))):CG n hd 253 [.lX 54,.int v] K X (B S k m G st++g):=by
 obtain⟨kd,tk,V,R,e⟩:=F.mv v hv
 refine aL hn F.R.C V GC F.hist R ?_
 refine e▸?_;exact h
theorem dX{Q:Ae}{mk:Int->List Nat}(hn:12<=n)(GC:Cj G m)(F:Es G m st mk)
  (hN:VZ mk G st t=none->∀c e,c=2\/c=3->X (exc hd c) (B S k m G st++(g++e))) (hS:∀v,VZ mk G st t=some v->∀e,Q (.int v) (B S k m G st++(g++e))):CG n hd 267 [.lX 54,.str t] Q X (B S k m G st++g):=by
 refine stp hn fun n hn=>?_
 unfold VZ at hN hS
 refine Fr (l6 hn rfl) GC.S F.R.C.low F.R.q0 F.R.q1 GC.hr F.R.ps (B7 G st) ?_
 intro e j hj
 refine aI (l6 hn rfl) GC.rk F.R.C.len F.ok hj Hx (fun z c e' hc=>?_) fun v z e'=>?_
 ·rw[gv]
  exact hN (by refine z.symm▸?_;rfl) c _ hc
 ·have hv:=SV z
  rw[z]at hN hS
  have hS:Db (AX t).2 (mk v)=true->∀e,Q (.int v) (B S k m G st++(g++e)):=fun a=>hS v (by show(if Db _ _=true then some v else none)=_;exact(iJ a))
  have hN:Db (AX t).2 (mk v)=false->∀c e,c=2\/c=3->X (exc hd c) (B S k m G st++(g++e)):=fun a=>hN (by show(if Db _ _=true then some v else none)=_;refine a.symm▸?_;rfl)
  unfold Db at hS hN
  conv=>whnf
  rw[gv]
  refine Ap (fun e1=>?_) fun e1=>?_
  ·have e1:((AX t).2==[])=false:=by simpa using e1
   rw[e1]at hS hN
   refine Nu (l6 hn rfl) GC F hv fun e2=>?_
   rw[gv]
   refine Ap (fun e3=>?_) fun e3=>?_
   ·have e3:(mk v==(AX t).2)=false:=by simpa using e3
    exact hN e3 2 _ (.inl rfl)
   ·have e3:(mk v==(AX t).2)=true:=by simpa using e3
    exact hS e3 _
  ·have e1:((AX t).2==[])=true:=by simpa using e1
   rw[e1]at hS
   exact hS rfl _
end
noncomputable def mZ(s:Int):List Nat:=[97+(s.fmod 4).toNat,49+(s.fdiv 4).toNat]
noncomputable def DY(kd:Nat):List Nat:=match kd with
 |1=>[]
 |kd=>[mX kd]
noncomputable def BC(x:Bool)(e:List Nat):List Nat:=match x with|true=>[120]|false=>e
noncomputable def FJ(p:Int):List Nat:=match p==0 with|true=>[]|false=>[61]++[mX p.toNat]
theorem aS{p:Nat}(h:((p:Int)==0)=false):FJ p=[61]++[mX p]:=by unfold FJ;rw[h];rfl
noncomputable def Dc(kd:Nat)(x:Bool)(v:Int)(p:Int):List Nat:=DY kd++mZ (Ai v)++BC x [45]++mZ (md v)++FJ p
section
variable{S:List Int}{k:Int}{m:Nat}{G:l8}{st:St}{g:MH}{n:Nat}{hd:Bool}{X:As}{μ:MH}
theorem De(e:2<=kd):DY kd=[mX kd]:=by
 unfold DY
 split
 ·exact absurd e (by decide)
 ·rfl
theorem TX{Q:Ae}(hn:1<=n)(h0:0<=s)(h1:s<20)(h:Q (.str (mZ s)) μ):CG n hd 223 [.int 4,.int s] Q X μ:=by
 refine stp hn fun n hn=>?_
 refine CA (gS (by exact Int.not_lt.mpr (Oz h0))) ?_
 refine CA (gS (by show ¬(4*8:Int)<=s;exact Int.not_le.mpr (mJ (mo _) (mm 0 1) (.mulL 4 (.num 8)) (mm 0 1) (.num 20) rfl h1))) ?_
 have q1:B8 μ (.str [97,98,99,100,101,102,103,104]) (.int (s.fmod 4))=some (.str [97+(s.fmod 4).toNat]):=by
  rcases(by lia:s.fmod 4=0\/s.fmod 4=1\/s.fmod 4=2\/s.fmod 4=3)with e|e|e|e<;>refine e.symm▸?_<;>rfl
 have q2:B8 μ (.str [49,50,51,52,53,54,55,56]) (.int (s.fdiv 4))=some (.str [49+(s.fdiv 4).toNat]):=by
  rcases(by lia:s.fdiv 4=0\/s.fdiv 4=1\/s.fdiv 4=2\/s.fdiv 4=3\/s.fdiv 4=4)with e|e|e|e|e<;>refine e.symm▸?_<;>rfl
 refine Af q1 ?_
 refine Af q2 ?_
 exact h
noncomputable def ZR(kd:Nat)(v:Int):An:=Ad (Ad (Ad (Ad (fun _=>none) 45 (.int 4)) 110 (.lX 56)) 19 (.int v)) 1 (.int kd)
theorem eI{Q:Ae}{t:List Nat}(hn:3<=n)(C:mG G st)(M:B0 G v)(oD:G.size<=20)(pr:Ah v=0\/∃p:Nat,2<=p/\p<7/\Ah v=p)(ht:t.length<=5)(e1:env 45=some (.int 4))(e2:env 110=some (.lX 56))(e3:env 19=some (.int v))(e4:env 224=some (.str t))
  (h:Q (.str (t++BC (mY st v) [45]++mZ (md v)++FJ (Ah v))) (B S k m G st++g)) :
  ws lY (Ak lY prog n) hd (AT 4 Hb) (fun fl _ μ'=>match fl with|.ret v=>Q v μ'|.next=>Q .none μ'|.cont=>False) X env (B S k m G st++g):=by
 have oy:=gM M.t1 oD
 refine Ab e2 ?_
 refine Ab e3 ?_
 refine Q0 (gB (by decide) hn) C.len M ?_
 have tail:∀(env:An) (u:List Nat),u.length<=6->env 45=some (.int 4)->env 19=some (.int v)->env 224=some (.str u)->Q (.str (u++mZ (md v)++FJ (Ah v))) (B S k m G st++g)->
   ws lY (Ak lY prog n) hd (AT 5 Hb) (fun fl _ μ'=>match fl with|.ret v=>Q v μ'|.next=>Q .none μ'|.cont=>False) X env (B S k m G st++g):=by
  intro env u hu a1 a2 a3 h
  refine Ab a3 ?_
  refine Ab a1 ?_
  refine Ab a2 ?_
  refine KL (gB (by decide) hn) ?_
  refine TX (gB (by decide) hn) M.t0 oy ?_
  refine Aj (gz (by show u.length+2<=lim;unfold lim;exact mP (mo _) (mu 0 2) (.num 1000000) mj (.num 6) rfl hu)) ?_
  refine Ab a2 ?_
  refine Dj (gB (by decide) hn) ?_
  rcases pr with e|⟨p,p2,p7,e⟩
  ·rw[e]at h ⊢
   conv=>whnf
   have h:Q (.str (u++mZ (md v)++[])) (B S k m G st++g):=h
   rw[gE]at h
   exact h
  ·rw[e]at h ⊢
   have z:((p:Int)==0)=false:=by rw[gQ];exact iD (M6 (Int.ofNat_le.mpr p2))
   replace h:=(aS z)▸h
   refine DT (by refine z.symm▸?_;rfl) ?_
   refine Aj (gz (by refine List.length_append.symm▸?_;show u.length+2+1<=lim;unfold lim;exact mP (mo _) (.add (mu 0 2) (.num 1)) (.num 1000000) mj (.num 6) rfl hu)) ?_
   refine Ab a2 ?_
   refine Dj (gB (by decide) hn) ?_
   refine e.symm▸?_
   refine Jn (gB (by decide) hn) p2 p7 ?_
   refine Aj (gz (by(refine List.length_append.symm▸?_;rewrite[gy]);show u.length+2+1+1<=lim;unfold lim;exact mP (mo _) (.add (.add (mu 0 2) (.num 1)) (.num 1)) (.num 1000000) mj (.num 6) rfl hu)) ?_
   rw[<- gv]at h
   exact h
 refine Ap (fun e=>?_) fun e=>?_
 ·replace h:=e▸h
  refine Ab e4 ?_
  refine Aj (gz (by show t.length+1<=lim;unfold lim;exact fe ht)) ?_
  exact tail (Ad env 224 (.str (t++[120]))) (t++[120]) (by refine List.length_append.symm▸?_;show t.length+1<=6;exact cu ht) e1 e3 rfl h
 ·replace h:=e▸h
  refine Ab e4 ?_
  refine Aj (gz (by show t.length+1<=lim;unfold lim;exact fe ht)) ?_
  exact tail (Ad env 224 (.str (t++[45]))) (t++[45]) (by refine List.length_append.symm▸?_;show t.length+1<=6;exact cu ht) e1 e3 rfl h
theorem aH{Q:Ae}(hn:4<=n)(C:mG G st)(V:Mv G st v kd tk)(oD:G.size<=20)(pr:Ah v=0\/∃p:Nat,2<=p/\p<7/\Ah v=p)
  (h:Q (.str (Dc kd (mY st v) v (Ah v))) (B S k m G st++g)):CG n hd 268 [.int 4,.lX 56,.int v] Q X (B S k m G st++g):=by
 cases n with
 |zero=>exact absurd hn (by decide)
 |succ n=>
  have M:=V.M
  have pt:=gM M.f1 oD
  have hb:=Cu (A4 C M.f0 M.f1)
  rw[V.src]at hb
  refine EZ (l6 hn rfl) ?_
  refine CA (DP M) ?_
  refine Eu (l6 hn rfl) ?_
  refine B1 M.f0 hb ?_
  refine Ec (l6 hn rfl) (g6 V.k7) ?_
  refine Eu (l6 hn rfl) ?_
  refine TX (l6 hn rfl) M.f0 pt ?_
  unfold Dc at h
  rcases(by have:=V.k1;lia:kd=1\/2<=kd)with e|e
  ·subst e
   exact eI (env:=Ad (ZR 1 v) 224 (.str (mZ (Ai v)))) (t:=mZ (Ai v)) (l6 hn rfl) C M oD pr (by show 2<=5;decide) rfl rfl rfl rfl h
  ·rw[De e]at h
   refine DT (by rw[jk,gQ];exact iD (mJ (mo _) (.add (.num 1) (.num 1)) mh (.num 2) mh rfl (Int.ofNat_le.mpr e))) ?_
   refine Jn (l6 hn rfl) e V.k7 ?_
   exact eI (env:=Ad (Ad (ZR kd v) 224 (.str (mZ (Ai v)))) 224 (.str ([mX kd]++mZ (Ai v)))) (t:=[mX kd]++mZ (Ai v)) (l6 hn rfl) C M oD pr (by show 3<=5;decide) rfl rfl rfl rfl h
theorem Mv.pr(V:Mv G st v kd tk):Ah v=0\/∃p:Nat,2<=p/\p<7/\Ah v=p:=by
 rcases V.M.sp with e|e
 ·left;unfold Ah;refine e.symm▸?_;rfl
 ·obtain⟨_,p,h1,h2,h3⟩:=V.oj e
  exact .inr ⟨p,h1,by exact S9 h2,h3⟩
theorem Mv.ou(V:Mv G st v kd tk):Mine.ou st v=kd:=by
 unfold Mine.ou;rw[V.src];exact IF _ (g6 V.k7)
noncomputable def n8(st:St)(v:Int):List Nat:=Dc (Mine.ou st v).toNat (mY st v) v (Ah v)
noncomputable def gi:MS:=fb (mS 1 HP)
theorem XV{Q:Au}(hn:4<=n)(C:mG G st)(oD:G.size<=20)(hi:(B S k m G st++g)[i]?=some (.list XS))(L:List Int):∀(_:∀v∈L,∃kd tk,Mv G st v kd tk) (env:An),env 45=some (.int 4)->env 110=some (.lX 56)->env 261=some (.str b)->env 224=some (.str t)->
  (∀env',env' 224=some (.str t)->env' 252=env 252->match L.find? (fun v=>n8 st v==b)with|some v=>∀w,env 252=some w->Q (.ret (.tup [.int v,w])) env' (B S k m G st++g)|none=>Q .next env' (B S k m G st++g))->(∃w,env 252=some w)->
  Bz (some (i,XS)) (fun v K env' μ'=>opt (AC [19] true v env') fun e=>ws lY (Ak lY prog n) hd gi K X e μ') (L.map .int) Q env (B S k m G st++g):=by
 induction L with
 |nil=>intro _ env a1 a2 a3 a4 h _;exact⟨hi,h env a4 rfl⟩
 |cons v L ih=>
  intro hL env a1 a2 a3 a4 h hw
  obtain⟨kd,tk,V⟩:=hL v gK
  refine⟨hi,?_⟩
  refine Ab a1 ?_
  refine Ab a2 ?_
  refine aH hn C V oD V.pr ?_
  refine Ab a3 ?_
  have q:n8 st v=Dc kd (mY st v) v (Ah v):=by unfold n8;rw[V.ou];rfl
  refine Ap (fun e=>?_) fun e=>?_
  ·have e:(n8 st v==b)=true:=by rw[q];exact e
   obtain⟨w,hw⟩:=hw
   have h:=h (Ad env 19 (.int v)) a4 rfl
   rw[io,e]at h
   refine Ab hw ?_
   exact h w hw
  ·have e:(n8 st v==b)=false:=by rw[q];exact e
   refine ih (fun s hs=>hL s (gA _ hs)) _ a1 a2 a3 a4 (fun env' b1 b2=>?_) hw
   have h:=h env' b1 b2
   rw[io,e]at h
   exact h
theorem WT{Q:Ae}{L:List Int}(hn:5<=n)(C:mG G st)(oD:G.size<=20)(hL:∀v∈L,∃kd tk,Mv G st v kd tk)(hi:g[i]?=some (il L))
  (hN:L.find? (fun v=>n8 st v==(AX t).1)=none->X (exc hd 1) (B S k m G st++g)) (hS:∀v,L.find? (fun v=>n8 st v==(AX t).1)=some v->Q (.tup [.int v,.str (AX t).2]) (B S k m G st++g)):CG n hd 269 [.int 4,.lX 56,.lX (i+61),.str t] Q X (B S k m G st++g):=by
 refine stp hn fun n hn=>?_
 refine TR (l6 hn rfl) ?_
 refine Ab (Be hi) ?_
 refine A0 ?_
 refine XV (b:=(AX t).1) (t:=t) (l6 hn rfl) C oD (A5 hi) L hL _ ?_ ?_ ?_ ?_ (fun env' a b=>?_) ⟨_,rfl⟩
 any_goals rfl
 cases e:L.find? (fun v=>n8 st v==(AX t).1) with
 |some v=>intro w hw;obtain rfl:=Option.some.inj hw;exact hS v e
 |none=>
  refine Ab a ?_
  exact hN e
noncomputable def Ol(mk:Int->List Nat)(G:l8)(st:St)(t:List Nat):Option Int:=((Ay G st).find? fun v=>n8 st v==(AX t).1).filter fun v=>Db (AX t).2 (mk v)
theorem TZ{Q:Ae}{mk:Int->List Nat}(hn:12<=n)(GC:Cj G m)(F:Es G m st mk)
  (hN:Ol mk G st t=none->∀e,X (exc hd 1) (B S k m G st++(g++e))) (hS:∀v,Ol mk G st t=some v->∀e,Q (.int v) (B S k m G st++(g++e))):CG n hd 270 [.lX 54,.str t] Q X (B S k m G st++g):=by
 refine stp hn fun n hn=>?_
 unfold Ol at hN hS
 refine Fr (l6 hn rfl) GC.S F.R.C.low F.R.q0 F.R.q1 GC.hr F.R.ps (B7 G st) ?_
 intro e j hj
 refine WT (l6 hn rfl) F.R.C GC.S.top (fun v h=>by obtain⟨kd,tk,V,_⟩:=F.mv v h;exact⟨kd,tk,V⟩) hj (fun z=>hN (by refine z.symm▸?_;rfl) _) fun v z=>?_
 have hv:=List.mem_of_find?_eq_some z
 rw[z]at hN hS
 have hS:Db (AX t).2 (mk v)=true->∀e,Q (.int v) (B S k m G st++(g++e)):=fun a=>hS v (by show(if Db _ _=true then some v else none)=_;exact(iJ a))
 have hN:Db (AX t).2 (mk v)=false->∀e,X (exc hd 1) (B S k m G st++(g++e)):=fun a=>hN (by show(if Db _ _=true then some v else none)=_;refine a.symm▸?_;rfl)
 unfold Db at hS hN
 refine Ap (fun e1=>?_) fun e1=>?_
 ·have e1:((AX t).2==[])=false:=by simpa using e1
  (replace hS:=e1▸hS;replace hN:=e1▸hN)
  refine Nu (l6 hn rfl) GC F hv fun e2=>?_
  rw[gv]
  refine Ap (fun e3=>?_) fun e3=>?_
  ·have e3:(mk v==(AX t).2)=false:=by simpa using e3
   exact hN e3 _
  ·have e3:(mk v==(AX t).2)=true:=by simpa using e3
   exact hS e3 _
 ·have e1:((AX t).2==[])=true:=by simpa using e1
  rw[e1]at hS
  exact hS rfl _
end
noncomputable def fd(c:Nat):Int:=AE c nX 0
theorem E9(c:Nat)(l:List Nat):∀i:Int,0<=i->AE c l i = -1\/(i<=AE c l i/\AE c l i<i+l.length):=by
 induction l with
 |nil=>intro i _;exact .inl rfl
 |cons x l ih=>
  intro i h
  unfold AE
  rw[gR]
  split
  ·right;exact⟨ow (mo _) mh mh rfl,mJ (mU _ _) (mm 0 1) (.add mh (mm 1 1)) (.num 0) mQ rfl (gP _)⟩
  ·rcases ih (i+1) (by exact OA h)with e|e
   ·exact .inl e
   ·right;exact⟨mJ (mU _ _) mh mQ (mm 0 1) mQ rfl e.1,mJ (nC _ _ _) (mm 1 1) (.add mh (mm 2 1)) (mm 1 1) (.add (mm 0 1) oI) rfl e.2⟩
theorem d8(c:Nat):-1<=fd c/\fd c<8:=by
 have h:=E9 c nX 0 (iy 0)
 replace h:=(show nX.length=8 from rfl)▸h
 unfold fd
 lia
noncomputable def JK(R a b:Int):Bool:=decide (0<=a)&&(decide (a<4)&&(decide (0<=b)&&decide (b<R)))
noncomputable def Lb(R:Int)(xs:List Int)(L:List Nat):Bool:=L.all fun i=>JK R (xs.getD i 0) (xs.getD (i+1) 0)
noncomputable def Ik(R a b c d p:Int):Option (Int×Int×Int):=match JK R a b&&JK R c d with
 |true=>some (b*4+a,d*4+c,p)
 |false=>none
noncomputable def KW(R:Int):List Nat->Option (Int×Int×Int)
 |[a,b,c,d]=>Ik R (fd a) (fd b) (fd c) (fd d) 0
 |[a,b,c,d,e]=>match decide (0<=fd e)&&decide (fd e<4) with
  |true=>Ik R (fd a) (fd b) (fd c) (fd d) (5 - fd e)
  |false=>none
 |_=>none
section
variable{S:List Int}{k:Int}{m:Nat}{G:l8}{st:St}{g:MH}{n:Nat}{hd:Bool}{X:As}{μ:MH}
noncomputable def icB:MS:=fb (mS 2 DH)
theorem Rn{Q:Au}(L:List Nat):∀(g:MH) (xs:List Int) (env:An),g[j]?=some (il xs)->xs.length+L.length<1000->env 271=some (.lX (j+61))->
  (∀env',(∀x,x≠252->env' x=env x)->Q .next env' (B S k m G st++g.set j (il (xs++L.map fd))))->
  Bz none (fun v K env' μ'=>opt (AC [252] true v env') fun e=>ws lY (Ak lY prog n) hd icB K X e μ') (L.map fun c=>.str [c]) Q env (B S k m G st++g):=by
 induction L with
 |nil=>
  intro g xs env hj hl e1 h
  have h:=h env fun _ _=>rfl
  rw[lD,gE,Bj hj]at h
  exact h
 |cons c L ih=>
  intro g xs env hj hl e1 h
  rw[gR]at hl
  refine Ab e1 ?_
  refine Df hj ?_
  refine Ab (Dz hj) ?_
  refine Aj (room (by exact fg hl)) ?_
  rw[Fh]
  refine ih (g.set j (il (xs++[fd c]))) (xs++[fd c]) _ (AJ hj) (by rw[gy];show _+1+_<_;exact fj hl) e1 fun env' a=>?_
  have h:=h env' fun x hx=>(a x hx).trans (iI hx)
  rw[hY,gv]
  exact h
noncomputable def ckB:MS:=fb (mS 3 DH)
theorem Q3{Q:Au}{xs:List Int}(hi:(B S k m G st++g)[i]?=some (.list XS))(hj:g[j]?=some (il xs))(L:List Nat):∀(_:∀x∈L,x+1<xs.length) (env:An),env 271=some (.lX (j+61))->env 45=some (.int 4)->env 49=some (.int R)->env 224=some (.str t)->
  (Lb R xs L=false->X (exc hd 1) (B S k m G st++g))->(Lb R xs L=true->∀env',(∀x,x≠272->env' x=env x)->Q .next env' (B S k m G st++g))->
  Bz (some (i,XS)) (fun v K env' μ'=>opt (AC [272] true v env') fun e=>ws lY (Ak lY prog n) hd ckB K X e μ') (L.map fun(x:Nat)=>.int x) Q env (B S k m G st++g):=by
 induction L with
 |nil=>intro _ env e1 e2 e3 e4 hN hS;exact⟨hi,hS rfl env fun _ _=>rfl⟩
 |cons y L ih=>
  intro hL env e1 e2 e3 e4 hN hS
  have hy:=hL y gK
  have oN:∀x∈L,x+1<xs.length:=fun s hs=>hL s (gA _ hs)
  have un:Lb R xs (y :: L)=(JK R (xs.getD y 0) (xs.getD (y+1) 0)&&Lb R xs L):=rfl
  (replace hN:=un▸hN;replace hS:=un▸hS)
  unfold JK at hN hS
  have p1:((y:Int)+1).toNat=y+1:=by rfl
  have p0:((y:Int)).toNat=y:=by rfl
  refine⟨hi,?_⟩
  refine Ab e1 ?_
  refine AO (A5 hj) (gP y) (by exact mJ (mU _ _) (mm 0 1) mQ (.add (mm 0 1) (.num 1)) mQ rfl (Int.ofNat_lt.mpr hy)) ?_
  refine Ap (fun e=>?_) fun e=>?_
  ·have e:decide (0<=xs.getD y 0)=true:=e
   (replace hN:=e▸hN;replace hS:=e▸hS)
   refine Ab e2 ?_
   refine Ap (fun e=>?_) fun e=>?_
   ·have e:decide (xs.getD y 0<4)=false:=by simpa using e
    replace hN:=e▸hN
    refine Ab e4 ?_
    exact hN rfl
   ·have e:decide (xs.getD y 0<4)=true:=by simpa using e
    (replace hN:=e▸hN;replace hS:=e▸hS)
    refine Ab e1 ?_
    refine AO (A5 hj) (by exact OA (gP _)) (by exact mJ (mU _ _) (.add (mm 0 1) (.num 1)) mQ (.add (mm 0 1) (.num 1)) mQ rfl (Int.ofNat_lt.mpr hy)) ?_
    refine Ap (fun e=>?_) fun e=>?_
    ·have e:decide (0<=xs.getD (y+1) 0)=true:=e
     (replace hN:=e▸hN;replace hS:=e▸hS)
     refine Ab e3 ?_
     refine Ap (fun e=>?_) fun e=>?_
     ·have e:decide (xs.getD (y+1) 0<R)=false:=by simpa using e
      replace hN:=e▸hN
      refine Ab e4 ?_
      exact hN rfl
     ·have e:decide (xs.getD (y+1) 0<R)=true:=by simpa using e
      (replace hN:=e▸hN;replace hS:=e▸hS)
      refine ih oN _ e1 e2 e3 e4 hN fun z env' a=>hS z env' fun x hx=>(a x hx).trans (iI hx)
    ·have e:decide (0<=xs.getD (y+1) 0)=false:=e
     replace hN:=e▸hN
     refine Ab e4 ?_
     exact hN rfl
  ·have e:decide (0<=xs.getD y 0)=false:=e
   replace hN:=e▸hN
   refine Ab e4 ?_
   exact hN rfl
theorem UF{Q:Au}{xs:List Int}(hj:g[j]?=some (il xs))(hl:3<xs.length)(hs:∀i, -1<=xs.getD i 0/\xs.getD i 0<8)(e1:env 271=some (.lX (j+61)))(e2:env 45=some (.int 4))(e3:env 14=some (.int p))
  (h:∀env',Q (.ret (QH (xs.getD 1 0*4+xs.getD 0 0,xs.getD 3 0*4+xs.getD 2 0,p))) env' (B S k m G st++g)):ws lY (Ak lY prog n) hd (AT 6 DH) Q X env (B S k m G st++g):=by
 have sm:∀i,small (xs.getD i 0)=true:=fun i=>D1 (by have:=hs i;lia) (by have:=hs i;lia)
 refine Ab e1 ?_
 refine AO (A5 hj) (by decide) (by exact mJ (mo _) (.add (.num 1) (.num 1)) mh (.add (.num 3) (.num 1)) mh rfl (Int.ofNat_lt.mpr hl)) ?_
 refine Ab e2 ?_
 refine Aj (sm 1) ?_
 refine Ab e1 ?_
 refine AO (A5 hj) (by decide) (by exact mJ (mo _) (.add (.num 0) (.num 1)) mh (.add (.num 3) (.num 1)) mh rfl (Int.ofNat_lt.mpr hl)) ?_
 refine Ab e1 ?_
 refine AO (A5 hj) (by decide) (by exact mJ (mo _) (.add (.num 3) (.num 1)) mh (.add (.num 3) (.num 1)) mh rfl (Int.ofNat_lt.mpr hl)) ?_
 refine Ab e2 ?_
 refine Aj (sm 3) ?_
 refine Ab e1 ?_
 refine AO (A5 hj) (by decide) (by exact mJ (mo _) (.add (.num 2) (.num 1)) mh (.add (.num 3) (.num 1)) mh rfl (Int.ofNat_lt.mpr hl)) ?_
 refine Ab e3 ?_
 exact h _
theorem Z5(l:List Nat)(i:Nat):-1<=(l.map fd).getD i 0/\(l.map fd).getD i 0<8:=by
 (refine List.getD_eq_getElem?_getD.symm▸?_;refine List.getElem?_map.symm▸?_)
 cases l[i]? with
 |none=>exact⟨by decide,by decide⟩
 |some c=>exact d8 c
theorem ZL:Ik R a b c d p=match Lb R (a :: b :: c :: d :: r) [0,2]with|true=>some (b*4+a,d*4+c,p)|false=>none:=by
 have e:Lb R (a :: b :: c :: d :: r) [0,2]=(JK R a b&&JK R c d):=by
  show(JK R a b&&(JK R c d&&true))=_
  rw[lr]
 refine e.symm▸?_;rfl
theorem eR:∀x∈[0,2],x+1<4:=by decide
theorem LF{t:List Nat}(h4:t.length≠4)(h5:t.length≠5):KW R t=none:=by
 rcases t with _|⟨a,_|⟨b,_|⟨c,_|⟨d,_|⟨e,_|⟨f,r⟩⟩⟩⟩⟩⟩<;>first|rfl|exact absurd rfl h4|exact absurd rfl h5
theorem aK{Q:Ae}(hn:1<=n)(h:∀e,FM QH Q X (exc hd 1) (KW R t) (B S k m G st++(g++e))):CG n hd 273 [.int 4,.int R,.str t] Q X (B S k m G st++g):=by
 refine stp hn fun n hn=>?_
 have hj:∀xs:List Int,(g++[il xs])[g.length]?=some (il xs):=fun xs=>gw
 have hx:∀xs:List Int,(g++[il xs]++[MO.list [.int 0,.int 2]])[g.length]?=some (il xs):=fun xs=>Ac (hj xs) _
 have hi:∀xs:List Int,(B S k m G st++(g++[il xs]++[MO.list [.int 0,.int 2]]))[(g++[il xs]).length+61]?=some (.list [.int 0,.int 2]):=fun xs=>(gw:(g++[il xs]++[MO.list [.int 0,.int 2]])[(g++[il xs]).length]?=_)
 revert h
 refine Rt t (fun a b c d h=>?_) (fun a b c d e h=>?_) fun t s4 s5 h=>?_
 rotate_left 2
 ·clear hj hx hi
  have h:=h []
  (rw[gE]at h;replace h:=(LF s4 s5)▸h)
  refine DT (ig (b:=(4:Int)).mpr fun z=>s4 (Int.ofNat.inj z)) ?_
  refine DT (ig (b:=(5:Int)).mpr fun z=>s5 (Int.ofNat.inj z)) ?_
  exact h
 ·have h:=h ([il [fd a,fd b,fd c,fd d]]++[.list [.int 0,.int 2]])
  have h:FM QH Q X (exc hd 1) (Ik R (fd a) (fd b) (fd c) (fd d) 0) (B S k m G st++(g++([il [fd a,fd b,fd c,fd d]]++[.list [.int 0,.int 2]]))):=h
  (replace h:=(ZL (r:=[]))▸h;rw[<- gv g]at h)
  refine A0 ?_
  refine Rn (j:=g.length) [a,b,c,d] (g++[il []]) [] _ (hj []) (by show 4<1000;decide) rfl fun env' a1=>?_
  rw[g9 _ _ (gF _),iC]
  refine Ab BP ?_
  refine A0 ?_
  refine Q3 (g:=g++[il [fd a,fd b,fd c,fd d]]++[.list [.int 0,.int 2]]) (R:=R) (t:=[a,b,c,d]) (xs:=[fd a,fd b,fd c,fd d]) (hi _) (hx _) [0,2] eR _ (a1 271 (by decide)) (a1 45 (by decide)) (a1 49 (by decide)) (a1 224 (by decide)) (fun z=>?_) fun z mR a2=>?_
  ·replace h:=z▸h;exact h
  ·replace h:=z▸h
   refine Ab ((a2 224 (by decide)).trans (a1 224 (by decide))) ?_
   have b1:mR 271=some (.lX (g.length+61)):=(a2 271 (by decide)).trans (a1 271 (by decide))
   have b3:mR 45=some (.int 4):=(a2 45 (by decide)).trans (a1 45 (by decide))
   have z:=fun Q h=>UF (S:=S) (k:=k) (m:=m) (G:=G) (st:=st) (g:=g++[il [fd a,fd b,fd c,fd d]]++[.list [.int 0,.int 2]]) (j:=g.length) (n:=n) (hd:=hd) (X:=X) (Q:=Q) (env:=Ad mR 14 (.int 0)) (p:=0) (xs:=[fd a,fd b,fd c,fd d]) (hx [fd a,fd b,fd c,fd d]) (by show 3<4;decide) (Z5 [a,b,c,d]) b1 b3 rfl h
   refine z (fun fl _ μ'=>match fl with|.ret v=>Q v μ'|.next=>Q .none μ'|.cont=>False) ?_
   intro _
   exact h
 ·have h:=h ([il [fd a,fd b,fd c,fd d,fd e]]++[.list [.int 0,.int 2]])
  have h:FM QH Q X (exc hd 1) (match decide (0<=fd e)&&decide (fd e<4)with|true=>Ik R (fd a) (fd b) (fd c) (fd d) (5 - fd e)|false=>none) (B S k m G st++(g++([il [fd a,fd b,fd c,fd d,fd e]]++[.list [.int 0,.int 2]]))):=h
  (replace h:=(ZL (r:=[fd e]))▸h;rw[<- gv g]at h)
  refine A0 ?_
  refine Rn (j:=g.length) [a,b,c,d,e] (g++[il []]) [] _ (hj []) (by show 5<1000;decide) rfl fun env' a1=>?_
  rw[g9 _ _ (gF _),iC]
  refine Ab BP ?_
  refine A0 ?_
  refine Q3 (g:=g++[il [fd a,fd b,fd c,fd d,fd e]]++[.list [.int 0,.int 2]]) (R:=R) (t:=[a,b,c,d,e]) (xs:=[fd a,fd b,fd c,fd d,fd e]) (hi _) (hx _) [0,2] (fun x hx=>g6 (eR x hx)) _ (a1 271 (by decide)) (a1 45 (by decide)) (a1 49 (by decide)) (a1 224 (by decide)) (fun z=>?_) fun z mR a2=>?_
  ·replace h:=z▸h
   revert h
   cases decide (0<=fd e)&&decide (fd e<4)<;>exact fun h=>h
  ·replace h:=z▸h
   have b1:=(a2 271 (by decide)).trans (a1 271 (by decide))
   have b2:=(a2 224 (by decide)).trans (a1 224 (by decide))
   refine Ab b2 ?_
   refine Ab b1 ?_
   refine AO (A5 (hx _)) (by decide) (by show(4:Int)<5;decide) ?_
   refine Ap (fun e3=>?_) fun e3=>?_
   ·have e3:decide (0<=fd e)=true:=e3
    replace h:=e3▸h
    refine Ap (fun e4=>?_) fun e4=>?_
    ·have e4:decide (fd e<4)=false:=by
      have e4:(!decide (fd e<4))=true:=e4
      simpa using e4
     replace h:=e4▸h
     refine Ab b2 ?_
     exact h
    ·have e4:decide (fd e<4)=true:=by
      have e4:(!decide (fd e<4))=false:=e4
      simpa using e4
     replace h:=e4▸h
     refine Ab b1 ?_
     refine AO (A5 (hx _)) (by decide) (by show(4:Int)<5;decide) ?_
     refine UF (Q:=fun fl _ μ'=>match fl with|.ret v=>Q v μ'|.next=>Q .none μ'|.cont=>False) (env:=Ad (Ad mR 14 (.int 0)) 14 (.int (5 - fd e))) (p:=5 - fd e) (xs:=[fd a,fd b,fd c,fd d,fd e]) (hx _) (by show 3<5;decide) (Z5 [a,b,c,d,e]) b1 ((a2 45 (by decide)).trans (a1 45 (by decide))) rfl ?_
     intro _
     exact h
   ·have e3:decide (0<=fd e)=false:=e3
    replace h:=e3▸h
    refine Ab b2 ?_
    exact h
theorem XW{Q:Ae}{L:List Int}(hn:2<=n)(hj:g[j]?=some (il L))(h:∀e,FM .int Q X (exc hd 1) ((KW R t).bind fun q=>L.find? (Du q)) (B S k m G st++(g++e))):CG n hd 274 [.int 4,.int R,.lX (j+61),.str t] Q X (B S k m G st++g):=by
 refine stp hn fun n hn=>?_
 refine aK (l6 hn rfl) ?_
 intro e
 have h:=h e
 revert h
 cases KW R t with
 |none=>intro h;exact h
 |some q=>
  intro h
  have h:FM .int Q X (exc hd 1) (L.find? (Du q)) (B S k m G st++(g++e)):=h
  refine Ab (Be (Ac hj e)) ?_
  refine A0 ?_
  refine Rh (q:=q) (t:=t) (l6 hn rfl) (A5 (Ac hj e)) L _ ?_ ?_ ?_ ?_ fun env' a=>?_
  any_goals rfl
  revert h
  cases L.find? (Du q) with
  |some v=>intro h;exact h
  |none=>
   intro h
   refine Ab a ?_
   exact h
theorem TY{Q:Ae}(hn:12<=n)(GC:Cj G m)(R:HM G st)(h:∀e,FM .int Q X (exc hd 1) ((KW G.ranks t).bind fun q=>(Ay G st).find? (Du q)) (B S k m G st++(g++e))):CG n hd 275 [.lX 54,.str t] Q X (B S k m G st++g):=by
 refine stp hn fun n hn=>?_
 refine Fr (l6 hn rfl) GC.S R.C.low R.q0 R.q1 GC.hr R.ps (B7 G st) ?_
 intro e j hj
 refine XW (l6 hn rfl) hj ?_
 intro e'
 rw[gv]
 have h:=h (e++e')
 revert h
 cases(KW G.ranks t).bind fun q=>(Ay G st).find? (Du q) with
 |none=>intro h;exact h
 |some v=>intro h;exact h
end
noncomputable def fh:MS->MS
 |.nj _ _ h=>h
 |s=>s
noncomputable def R1(G:l8)(st:St)(t:List Nat):Option Int:=(KV G.ranks t).bind fun q=>(Ay G st).find? (Du q)
noncomputable def tS(G:l8)(st:St)(t:List Nat):Option Int:=(KW G.ranks t).bind fun q=>(Ay G st).find? (Du q)
noncomputable def rY{α:Type}(a b:Option α):Option α:=match a with|some x=>some x|none=>b
noncomputable def FV(mk:Int->List Nat)(G:l8)(st:St)(t:List Nat):Option Int:=rY (R1 G st t) (rY (VZ mk G st t) (rY (Ol mk G st t) (tS G st t)))
noncomputable def bY:Option Int->V
 |some v=>.int v
 |none=>.none
section
variable{S:List Int}{k:Int}{m:Nat}{G:l8}{st:St}{g:MH}{n:Nat}{X:As}{μ:MH}
theorem aN{Q:Ae}{mk:Int->List Nat}(hn:13<=n)(GC:Cj G m)(F:Es G m st mk)
  (hN:FV mk G st t=none->∀e,X 11 (B S k m G st++(g++e))) (hS:∀v,FV mk G st t=some v->∀e,Q (.int v) (B S k m G st++(g++e))):CG n false 276 [.lX 54,.str t] Q X (B S k m G st++g):=by
 refine stp hn fun n hn=>?_
 unfold FV at hN hS
 refine WS (l6 hn rfl) GC F.R ?_
 intro e
 show FM .int _ _ _ (R1 G st t) _
 revert hN hS
 cases R1 G st t with
 |some v=>intro _ hS;exact hS v rfl e
 |none=>
  intro hN hS
  refine dX (mk:=mk) (l6 hn rfl) GC F (fun z c e' hc=>?_) fun v z e'=>?_
  ·rw[z]at hN hS
   rw[gv]
   have rest:CG n false 270 [.lX 54,.str t] (fun v μ'=>Q v μ') (fun r μ'=>pU (DW r 1) (A7 (decide (r<10)||Hs (fh (mS 2 EV))) (ws lY (Ak lY prog n) true (fh (mS 2 EV)) (fun fl _ μ'=>match fl with|.ret v=>Q v μ'|.next=>Q .none μ'|.cont=>False) X (Ad (Ad (fun _=>none) 102 (.lX 54)) 224 (.str t)) μ')) (X r μ')) (B S k m G st++(g++(e++e'))):=by
    refine TZ (mk:=mk) (l6 hn rfl) GC F (fun z2 e2=>?_) fun v z2 e2=>?_
    ·rw[z2]at hN hS
     refine TY (l6 hn rfl) GC F.R fun e3=>?_
     show FM .int _ _ _ (tS G st t) _
     revert hN hS
     cases tS G st t with
     |some v=>
      intro _ hS
      rw[gv,gv]
      exact hS v rfl _
     |none=>
      intro hN _
      rw[gv,gv]
      exact hN rfl _
    ·replace hS:=z2▸hS
     rw[gv]
     exact hS v rfl _
   rcases hc with rfl|rfl
   ·exact rest
   ·exact rest
  ·replace hS:=z▸hS
   rw[gv]
   exact hS v rfl _
theorem WM{Q:Ae}{mk:Int->List Nat}(hn:14<=n)(GC:Cj G m)(F:Es G m st mk)
  (h:∀e,Q (bY (FV mk G st t)) (B S k m G st++(g++e))):CG n false 306 [.lX 54,.str t] Q X (B S k m G st++g):=by
 refine stp hn fun n hn=>?_
 refine aN (mk:=mk) (l6 hn rfl) GC F (fun z e=>?_) fun v z e=>?_
 ·have h:=h e
  rw[z]at h
  exact h
 ·have h:=h e
  rw[z]at h
  exact h
end
noncomputable def LD:MO:=.dict [(6,.str [75]),(5,.str [81]),(4,.str [82]),(3,.str [66]),(2,.str [78]),(1,.str [])]
theorem bF{l:List Int}(ha:μ[a]?=some (il l))(hb:μ[b]?=some (il [])):JB μ .NotEq (.lX a) (.lX b)=some (!l.isEmpty):=by
 show(rm μ (.lX a) (.lX b)).map (!·)=_
 rw[PH ha hb];rfl
theorem PJ{α:Type}(p:α->Bool)(l:List α):(l.filter p).isEmpty=!l.any p:=by
 induction l with
 |nil=>rfl
 |cons a l ih=>
  refine List.any_cons.symm▸?_
  cases e:p a with
  |true=>rw[je e];rfl
  |false=>rw[jf (by refine e.symm▸?_;exact iN),ih];rfl
section
variable{S:List Int}{k:Int}{m:Nat}{G:l8}{st:St}{g:MH}{n:Nat}{hd:Bool}{X:As}{μ:MH}
theorem Os:(B S k m G st++g++[MO.dict []]).set (B S k m G st++g).length o=B S k m G st++(g++[o]):=by
 rw[g9 _ _ (gF _),iC];rfl
theorem Rq{p:Prop}(h:p):@Bool.rec (fun _=>Prop) False p (PE (B S k m G st++g++[MO.dict []])[(B S k m G st++g).length]?):=by
 rw[gw];exact h
theorem Ed{Q:Ae}(hn:1<=n)(h:Q (.lX (g.length+61)) (B S k m G st++(g++[LD]))):CG n hd 277 [] Q X (B S k m G st++g):=by
 refine stp hn fun n hn=>?_
 refine Rq ?_
 conv=>whnf
 rw[Os]
 exact h
theorem JP{kd:Nat}(h1:1<=kd)(h7:kd<7):B8 (B S k m G st++(g++[LD])) (.lX (g.length+61)) (.int kd)=some (.str (DY kd)):=by
 have e:(B S k m G st++(g++[LD]))[g.length+61]?=some LD:=(gw:(g++[LD])[g.length]?=_)
 refine(OT e).symm▸?_
 rcases(by lia:kd=1\/kd=2\/kd=3\/kd=4\/kd=5\/kd=6)with rfl|rfl|rfl|rfl|rfl|rfl<;>rfl
theorem Jo{Q:Ae}(hn:1<=n)(h0:0<=s)(h1:s<20)(h:Q (.str (mZ s)) μ):CG n hd 290 [.int s] Q X μ:=by
 refine stp hn fun n hn=>?_
 have q1:B8 μ (.str [97,98,99,100]) (.int (s.fmod 4))=some (.str [97+(s.fmod 4).toNat]):=by
  rcases(by lia:s.fmod 4=0\/s.fmod 4=1\/s.fmod 4=2\/s.fmod 4=3)with e|e|e|e<;>refine e.symm▸?_<;>rfl
 have q2:B8 μ (.str [49,50,51,52,53]) (.int (s.fdiv 4))=some (.str [49+(s.fdiv 4).toNat]):=by
  rcases(by lia:s.fdiv 4=0\/s.fdiv 4=1\/s.fdiv 4=2\/s.fdiv 4=3\/s.fdiv 4=4)with e|e|e|e|e<;>refine e.symm▸?_<;>rfl
 refine Af q1 ?_
 refine Af q2 ?_
 exact h
theorem WO{Q:Ae}{mk:Int->List Nat}(hn:12<=n)(GC:Cj G m)(F:Es G m st mk)(hv:v∈Ay G st)(h:∀e,Q (.str (mk v)) (B S k m G st++(g++e))):CG n hd 292 [.lX 54,.int v] Q X (B S k m G st++g):=by
 refine stp hn fun n hn=>?_
 obtain⟨kd,tk,V,R,e⟩:=F.mv v hv
 have A:=after (m:=m) F.R.C V
 rw[e]at h
 refine ZF (l6 hn rfl) F.R.C V GC F.hist ?_
 refine Ir (l6 hn rfl) GC.S R.C.low R.q0 R.q1 ?_
 unfold JV at h
 revert R h A
 generalize Ij m st kd tk v=s
 intro h R A
 refine Ap (fun e=>?_) fun e=>?_
 ·have e:Bo G s s.side=false:=by simpa using e
  replace h:=e▸h
  refine It (l6 hn rfl) F.R.C V A GC ?_
  have h:=h []
  rw[gE]at h
  exact h
 ·have e:Bo G s s.side=true:=by simpa using e
  replace h:=e▸h
  refine Fr (l6 hn rfl) GC.S R.C.low R.q0 R.q1 GC.hr R.ps (B7 G s) ?_
  intro e' j hj
  have q1:(B S k m G s++(g++e')++[il []])[j+61]?=some (il (Ay G s)):=Ac (A5 hj) _
  have q2:(B S k m G s++(g++e')++[il []])[(B S k m G s++(g++e')).length]?=some (il []):=gw
  have q3:(Ay G s).isEmpty=!(oB G s).any (Bs G s (C9 G s s.side)):=by
   unfold Ay Cq
   refine e.symm▸?_;exact PJ _ _
  refine Ab (bF q1 q2) ?_
  rw[q3]
  revert h
  cases(oB G s).any (Bs G s (C9 G s s.side))
  all_goals
   intro h
   conv=>whnf
   rw[gv (B S k m G s),gv g]
   refine It (l6 hn rfl) F.R.C V A GC ?_
   exact h _
end
noncomputable def sl(l:List (List Nat)):MO:=.list (l.map .str)
noncomputable def Cl(p:Int):List (List Nat):=match p==0 with
 |true=>[[]]
 |false=>[[61]++[mX p.toNat],[mX p.toNat]]
noncomputable def EM(kd:Nat)(x:Bool)(s:Int):List (List Nat):=match(kd==1)&&x with
 |true=>[[97+(s.fmod 4).toNat],mZ s]
 |false=>[[],[97+(s.fmod 4).toNat],[49+(s.fdiv 4).toNat],mZ s]
noncomputable def EY(kd:Nat)(x:Bool)(t:Int)(o e:List Nat):List Nat:=DY kd++o++BC x []++mZ t++e
noncomputable def DK(kd:Nat)(x:Bool)(v p:Int):List (List Nat):=(EM kd x (Ai v)).flatMap fun o=>(Cl p).map fun e=>EY kd x (md v) o e
noncomputable def EO(v p:Int):List Nat:=mZ (Ai v)++mZ (md v)++(match p==0 with|true=>[]|false=>[mX p.toNat+32])
noncomputable def oV(s:Int):List Nat:=[48+(AE (97+(s.fmod 4).toNat) [97,98,99,100] 0+1).toNat,49+(s.fdiv 4).toNat]
noncomputable def pL:Nat->List Nat
 |5=>[49]|4=>[50]|3=>[51]|_=>[52]
noncomputable def PC(v p:Int):List Nat:=oV (Ai v)++oV (md v)++(match p==0 with|true=>[]|false=>pL p.toNat)
theorem GH(kd:Nat):(DY kd).length<=1:=by
 unfold DY
 split
 ·exact ie _
 ·exact gF 1
theorem Fw(x:Bool)(e:List Nat):(BC x e).length<=1+e.length:=by cases x;exact ji _ _;exact hJ _ _
section
variable{S:List Int}{k:Int}{m:Nat}{G:l8}{st:St}{g:MH}{n:Nat}{hd:Bool}{X:As}{μ:MH}
theorem FR(h:g[r]?=some (.list xs)):By (B S k m G st++g) (r+61)=some xs:=CO (μ:=B S k m G st++g) (n:=r+61) h
theorem Ln(h:g[r]?=some (.list xs)):C6 (B S k m G st++g) (.lX (r+61))=some (xs,some (r+61,xs)):=UL (μ:=B S k m G st++g) (n:=r+61) h
theorem VL{xs:List (List Nat)}:(B S k m G st++g).set (j+61) (.list (xs.map .str++[.str v]))=B S k m G st++g.set j (sl (xs++[v])):=by
 rw[show sl (xs++[v])=.list (xs.map V.str++[.str v]) by unfold sl;rw[kj];rfl];rfl
theorem Z2{o:List (List Nat)}(h:o.length<100000):decide ((o.map V.str).length<lim)=true:=gz (by rw[gU];exact g7 h (by decide))
theorem FK{u v:List Nat}(hu:u.length<=a)(hv:v.length<=b)(h:a+b<=1000):decide (u.length+v.length<=lim)=true:=gz (gB (jl hu hv) (gB h (by decide)))
noncomputable def ug:ME:=(ME.bin .Add (.bin .Add (.bin .Add (.bin .Add (.sub (.call 277 .nil) (.lX 1)) (.lX 11)) (.lX 260)) (.call 290 (.cons (.lX 61) .nil))) (.lX 300))
theorem WG{Q:Ae}{o e:List Nat}(hn:1<=n)(k1:1<=kd)(k7:kd<7)(t0:0<=t)(oy:t<20)(ho:o.length<=2)(he:e.length<=2)(e1:env 1=some (.int kd))(e2:env 11=some (.str o))(e3:env 260=some (.str (BC x [])))(e4:env 61=some (.int t))(e5:env 300=some (.str e))
  (h:Q (.str (EY kd x t o e)) (B S k m G st++(g++[LD]))):we lY (Ak lY prog n false) env ug Q (fun _ _=>False) (B S k m G st++g):=by
 have l1:=GH kd
 have l2:(DY kd++o).length<=3:=by refine List.length_append.symm▸?_;exact pe (mU _ _) (.add mE mj) (.num 3) mj (.num 2) mE (.num 1) rfl ho l1
 have l3:(DY kd++o++BC x []).length<=4:=by refine List.length_append.symm▸?_;have:=Fw x [];show _<=3+1;exact jl l2 this
 have l4:(DY kd++o++BC x []++mZ t).length<=6:=by refine List.length_append.symm▸?_;exact jl l3 (gF 2)
 refine Ed hn ?_
 refine Ab e1 ?_
 refine Af (JP k1 k7) ?_
 refine Ab e2 ?_
 refine Aj (FK l1 ho (by decide)) ?_
 refine Ab e3 ?_
 refine Aj (FK l2 (Fw x []) (by decide)) ?_
 refine Ab e4 ?_
 refine Jo hn t0 oy ?_
 refine Aj (FK (b:=2) l3 (gF 2) (by decide)) ?_
 refine Ab e5 ?_
 refine Aj (FK l4 he (by decide)) ?_
 exact h
theorem XD{K:MH->Prop}{E:List V}{o:List Nat}(hn:1<=n)(k1:1<=kd)(k7:kd<7)(t0:0<=t)(oy:t<20)(ho:o.length<=2)(ij:j≠i2)(e1:env 1=some (.int kd))(e2:env 11=some (.str o))(e3:env 260=some (.str (BC x [])))(e4:env 61=some (.int t))(L:List (List Nat)):∀(_:∀e∈L,e.length<=2) (g:MH) (xs:List (List Nat)),g[i2]?=some (.list E)->g[j]?=some (sl xs)->xs.length+L.length<1000->
  (∀e',K (B S k m G st++(g.set j (sl (xs++L.map (EY kd x t o)))++e')))->
  Dq (some (i2+61,E)) (j+61) (fun _ K' om=>K' true om) (fun v2 K' om=>we lY (Ak lY prog n false) (Ad env 300 v2) ug K' (fun _ _=>False) om) (L.map .str) K (B S k m G st++g):=by
 induction L with
 |nil=>
  intro _ g xs hi hj hl h
  have h:=h []
  rw[lD,gE,gE,Bj hj]at h
  exact⟨hi,h⟩
 |cons e L ih=>
  intro hL g xs hi hj hl h
  rw[gR]at hl
  refine⟨hi,?_⟩
  refine WG (x:=x) (o:=o) (e:=e) hn k1 k7 t0 oy ho (hL e gK) e1 e2 e3 e4 rfl ?_
  refine Ab (FR (Ac hj [LD])) ?_
  refine Aj (Z2 (by exact fg hl)) ?_
  rw[VL,AR hj]
  refine ih (fun s hs=>hL s (gA _ hs)) (g.set j (sl (xs++[EY kd x t o e]))++[LD]) (xs++[EY kd x t o e]) (Ac (by rw[gY ij];exact hi) _) (Ac (AJ hj) _) (by rw[gy];show _+1+_<_;exact fj hl) fun e'=>?_
  rw[AR (AJ hj),hY,gv,gv]
  exact h _
theorem VC{K:MH->Prop}{E:List (List Nat)}(hn:1<=n)(k1:1<=kd)(k7:kd<7)(t0:0<=t)(oy:t<20)(ij1:j≠i1)(ij2:j≠i2)(hE:∀e∈E,e.length<=2)(hE2:E.length<=2)(e1:env 1=some (.int kd))(e3:env 260=some (.str (BC x [])))(e4:env 61=some (.int t))(e5:env 299=some (.lX (i2+61)))(L:List (List Nat)):∀(_:∀o∈L,o.length<=2) (g:MH) (xs:List (List Nat)),g[i1]?=some (.list O)->g[i2]?=some (sl E)->g[j]?=some (sl xs)->xs.length+2*L.length<900->
  (∀e',K (B S k m G st++(g.set j (sl (xs++L.flatMap fun o=>E.map (EY kd x t o)))++e')))->
  Hm (some (i1+61,O)) (fun v K μ'=>we lY (Ak lY prog n false) (Ad (AG [11,300] env) 11 v) (ME.lX 299) (fun s2 μ₂=>opt (C6 μ₂ s2) fun p2=>
    Dq p2.2 (j+61) (fun _ K' om=>K' true om) (fun v2 K' om=>we lY (Ak lY prog n false) (Ad (Ad (AG [11,300] env) 11 v) 300 v2) ug K' (fun _ _=>False) om) p2.1 K μ₂) (fun _ _=>False) μ') (L.map .str) K (B S k m G st++g):=by
 induction L with
 |nil=>
  intro _ g xs h1 h2 hj hl h
  have h:=h []
  (replace h:=jd▸h;rw[gE,gE,Bj hj]at h)
  exact⟨h1,h⟩
 |cons o L ih=>
  intro hL g xs h1 h2 hj hl h
  replace hl:=gR▸hl
  refine⟨h1,?_⟩
  refine Ab e5 ?_
  refine Ab (Ln h2) ?_
  refine XD (env:=Ad (AG [11,300] env) 11 (.str o)) hn k1 k7 t0 oy (hL o gK) ij2 e1 rfl e3 e4 E hE g xs h2 hj (by exact pe (nC _ _ _) (.add (.add mE mj) (.num 1)) (.num 1000) mj (.num 2) (.add (.add mE (.mulL 2 (mu 2 1))) (.num 1)) (.num 900) rfl hE2 hl) fun e'=>?_
  refine ih (fun s hs=>hL s (gA _ hs)) (g.set j (sl (xs++E.map (EY kd x t o)))++e') (xs++E.map (EY kd x t o)) (Ac (by refine(gY ij1).symm▸?_;exact h1) _) (Ac (by refine(gY ij2).symm▸?_;exact h2) _) (Ac (AJ hj) _) (by(refine List.length_append.symm▸?_;rewrite[gU]);exact pe (nC _ _ _) (.add (.add (.add mE mj) (.mulL 2 nF)) (.num 1)) (.num 900) mj (.num 2) (.add (.add mE (.mulL 2 (mu 2 1))) (.num 1)) (.num 900) rfl hE2 hl) fun e2=>?_
  (refine(AR (AJ hj)).symm▸?_;rewrite[hY];rewrite[gv];rewrite[gv])
  have h:=h (e'++e2)
  exact h
end
noncomputable def rhs:MS->ME
 |.assign _ e=>e
 |.aug _ _ e=>e
 |.ret e=>e
 |_=>.nil
structure qb(env:An)(st:St)(v:Int)(kd:Nat)(i2:Nat):Prop where
 p:env 102=some (.lX 54)
 m:env 19=some (.int v)
 f:env 82=some (.int (Ai v))
 t:env 61=some (.int (md v))
 pr:env 14=some (.int (Ah v))
 k:env 1=some (.int kd)
 c:env 260=some (.str (BC (mY st v) []))
 nm:env 297=some (.str (mZ (Ai v)))
 en:env 299=some (.lX (i2+61))
section
variable{S:List Int}{k:Int}{m:Nat}{G:l8}{st:St}{g:MH}{n:Nat}{X:As}{μ:MH}
theorem N6(p:Int):(∀e∈Cl p,e.length<=2)/\(Cl p).length<=2:=by
 have nil:∀e∈([]:List (List Nat)),e.length<=2:=fun _ h=>by cases h
 unfold Cl
 cases p==0 with
 |true=>exact⟨List.forall_mem_cons.mpr ⟨ie _,nil⟩,iY 1⟩
 |false=>exact⟨List.forall_mem_cons.mpr ⟨gF 2,List.forall_mem_cons.mpr ⟨iY 1,nil⟩⟩,gF 2⟩
theorem Ow(kd:Nat)(x:Bool)(s:Int):(∀o∈EM kd x s,o.length<=2)/\(EM kd x s).length<=4:=by
 have nil:∀e∈([]:List (List Nat)),e.length<=2:=fun _ h=>by cases h
 unfold EM
 cases(kd==1)&&x with
 |true=>exact⟨List.forall_mem_cons.mpr ⟨iY 1,List.forall_mem_cons.mpr ⟨gF 2,nil⟩⟩,by show 2<=4;decide⟩
 |false=>exact⟨List.forall_mem_cons.mpr ⟨ie _,List.forall_mem_cons.mpr ⟨iY 1,List.forall_mem_cons.mpr ⟨iY 1,List.forall_mem_cons.mpr ⟨gF 2,nil⟩⟩⟩⟩,gF 4⟩
theorem FF(pr:Ah v=0\/∃p:Nat,2<=p/\p<6/\Ah v=p):Ah v=0\/∃p:Nat,1<=p/\p<7/\2<=p/\p<6/\Ah v=p/\((p:Int)==0)=false/\DY p=[mX p]/\(65<=mX p/\mX p<=90):=by
 rcases pr with e|⟨p,p2,p6,e⟩
 ·exact .inl e
 ·refine .inr ⟨p,by exact Qi p2,by exact HC p6,p2,p6,e,by rw[gQ];exact iD (M6 (Int.ofNat_le.mpr p2)),De p2,?_⟩
  rcases(by lia:p=2\/p=3\/p=4\/p=5)with rfl|rfl|rfl|rfl<;>decide
theorem Zt{Q:Ae}(hn:1<=n)(E:qb env st v kd i2)(M:B0 G v)(oD:G.size<=20)(pr:Ah v=0\/∃p:Nat,2<=p/\p<6/\Ah v=p)
  (h:∀e,Q (.str (EO v (Ah v))) (B S k m G st++(g++e))):we lY (Ak lY prog n false) env (rhs (mS 8 AY)) Q X (B S k m G st++g):=by
 unfold EO at h
 refine Ab E.nm ?_
 refine Ab E.t ?_
 refine Jo hn M.t0 (gM M.t1 oD) ?_
 refine Ab E.pr ?_
 rcases FF pr with e|⟨p,p1,p7,p2,p6,e,z,kl,c1,c2⟩
 ·rw[e]at h ⊢
  conv=>whnf
  have h:=h []
  rw[gE]at h
  exact h
 ·rw[e]at h ⊢
  rw[z]at h
  refine CA z ?_
  refine Ed hn ?_
  refine Ab E.pr ?_
  refine e.symm▸?_
  refine Af (JP p1 p7) ?_
  rw[kl]
  refine Aj (gz c1) ?_
  refine Aj (gz c2) ?_
  exact h _
theorem XY{Q:Ae}(hn:1<=n)(E:qb env st v kd i2)(k1:1<=kd)(k7:kd<7)(M:B0 G v)(oD:G.size<=20)(hi:g[i2]?=some (sl (Cl (Ah v))))
  (h:∀e,Q (.str (Dc kd (mY st v) v (Ah v))) (B S k m G st++(g++e))):we lY (Ak lY prog n false) env (rhs (mS 9 AY)) Q X (B S k m G st++g):=by
 have l1:=GH kd
 have l2:(DY kd++mZ (Ai v)).length<=3:=by rw[gy];exact jl l1 (gF 2)
 have l3:∀c,(DY kd++mZ (Ai v)++[c]).length<=4:=fun c=>by rw[gy];exact jl l2 (gF 1)
 have l4:∀c,(DY kd++mZ (Ai v)++[c]++mZ (md v)).length<=6:=fun c=>by rw[gy];exact jl (l3 c) (gF 2)
 have oy:=gM M.t1 oD
 have en:∃a r,Cl (Ah v)=a :: r/\a.length<=2/\a=FJ (Ah v):=by
  unfold Cl FJ
  cases Ah v==0 with
  |true=>exact⟨[],[],rfl,ie _,rfl⟩
  |false=>exact⟨_,_,rfl,gF 2,rfl⟩
 obtain⟨a,r,ea,la,eq⟩:=en
 unfold Dc at h
 rw[<- eq]at h
 rw[ea]at hi
 have sa:B8 (B S k m G st++(g++[LD])) (.lX (i2+61)) (.int 0)=some (.str a):=by
  exact HH (show(B S k m G st++(g++[LD]))[i2+61]?=some (.list (.str a :: r.map .str)) from(Ac hi [LD]:(g++[LD])[i2]?=_))
 refine Ed hn ?_
 refine Ab E.k ?_
 refine Af (JP k1 k7) ?_
 refine Ab E.nm ?_
 refine Aj (FK (b:=2) l1 (gF 2) (by decide)) ?_
 refine Ab E.c ?_
 cases ex:mY st v
 all_goals
  rw[ex]at h
  have ec:=E.c
  rw[ex]at ec
  conv=>whnf
 ·conv=>whnf
  refine Aj (FK (b:=1) l2 (gF 1) (by decide)) ?_
  refine Ab E.t ?_
  refine Jo hn M.t0 oy ?_
  refine Aj (FK (b:=2) (l3 45) (gF 2) (by decide)) ?_
  refine Ab E.en ?_
  refine Af sa ?_
  refine Aj (FK (l4 45) la (by decide)) ?_
  exact h _
 ·conv=>whnf
  refine Ab ec ?_
  refine Aj (FK (b:=1) l2 (gF 1) (by decide)) ?_
  refine Ab E.t ?_
  refine Jo hn M.t0 oy ?_
  refine Aj (FK (b:=2) (l3 120) (gF 2) (by decide)) ?_
  refine Ab E.en ?_
  refine Af sa ?_
  refine Aj (FK (l4 120) la (by decide)) ?_
  exact h _
end
section
variable{S:List Int}{k:Int}{m:Nat}{G:l8}{st:St}{g:MH}{n:Nat}{X:As}{μ:MH}
theorem Io(c:Nat):decide (0<=AE c [97,98,99,100] 0+1)=true/\decide (AE c [97,98,99,100] 0+1<10)=true:=by
 have h:=E9 c [97,98,99,100] 0 (iy 0)
 rw[show[97,98,99,100].length=4 from rfl]at h
 exact⟨gz (by lia),gz (by lia)⟩
theorem PZ:By (B S k m G st++g++[MO.list xs]) (B S k m G st++g).length=some xs:=CO (by rw[gw])
theorem RQ:(B S k m G st++g++[o]).set (B S k m G st++g).length o'=B S k m G st++g++[o']:=by
 rw[g9 _ _ (gF _),iC];rfl
theorem aR{Q:Ae}(hn:1<=n)(E:qb env st v kd i2)(M:B0 G v)(oD:G.size<=20)
  (h:∀e,Q (.str (oV (Ai v)++oV (md v))) (B S k m G st++(g++e))):we lY (Ak lY prog n false) env (rhs (mS 10 AY)) Q X (B S k m G st++g):=by
 refine Ab E.nm ?_
 refine Ab E.t ?_
 refine Jo hn M.t0 (gM M.t1 oD) ?_
 refine Af rfl ?_
 refine Aj (Io _).1 ?_
 refine Aj (Io _).2 ?_
 refine Af rfl ?_
 refine Ab PZ ?_
 rw[RQ]
 refine Af rfl ?_
 refine Aj (Io _).1 ?_
 refine Aj (Io _).2 ?_
 refine Af rfl ?_
 refine Ab PZ ?_
 rw[RQ]
 refine Ab PZ ?_
 exact h _
theorem Xl{Q:Ae}(hn:1<=n)(e1:env 14=some (.int (Ah v)))(pr:Ah v=0\/∃p:Nat,2<=p/\p<6/\Ah v=p)
  (h:∀e j,(g++e)[j]?=some (sl (Cl (Ah v)))->Q (.lX (j+61)) (B S k m G st++(g++e))):we lY (Ak lY prog n false) env (rhs (mS 4 AY)) Q X (B S k m G st++g):=by
 refine Ab e1 ?_
 rcases FF pr with e|⟨p,p1,p7,p2,p6,e,z,kl,c1,c2⟩
 ·rw[e]at h ⊢
  exact h [sl [[]]] g.length gw
 ·rw[e]at h e1 ⊢
  refine DT (by refine z.symm▸?_;rfl) ?_
  refine Ed hn ?_
  refine Ab e1 ?_
  refine Af (JP p1 p7) ?_
  rw[kl]
  refine Ed hn ?_
  refine Ab e1 ?_
  refine Af (JP p1 p7) ?_
  rw[kl]
  conv=>whnf
  have q:(g++([LD]++[LD]++[sl (Cl (p:Int))]))[(g++([LD]++[LD])).length]?=some (sl (Cl (p:Int))):=by
   rw[<- gv];exact gw
  have h:=h _ _ q
  replace h:=(show Cl (p:Int)=[[61]++[mX p],[mX p]] by unfold Cl;rw[z];rfl)▸h
  rw[gv g,gv (B S k m G st),gv g]
  exact h
theorem Rs{Q:Au}{mk:Int->List Nat}(hn:12<=n)(GC:Cj G m)(F:Es G m st mk)(hv:v∈Ay G st)(E:qb env st v kd i2)(e1:env 296=some (.str wr))(e2:env 295=some (.lX (j+61)))(e3:env 294=some (.str lg))(e4:env 293=some (.str dg))
  (h:∀env' e,Q (.ret (.tup [.str wr,.lX (j+61),.str lg,.str dg,.str (mk v)])) env' (B S k m G st++(g++e))):ws lY (Ak lY prog n) false (AT 12 AY) Q X env (B S k m G st++g):=by
 refine Ab e1 ?_
 refine Ab e2 ?_
 refine Ab e3 ?_
 refine Ab e4 ?_
 refine Ab E.p ?_
 refine Ab E.m ?_
 refine WO hn GC F hv ?_
 intro e
 exact h _ e
theorem qb.set(E:qb env st v kd i2)(hy:293<=y/\y<297\/y=194)(w:V):qb (Ad env y w) st v kd i2:=by
 have q:∀x,x≠y->Ad env y w x=env x:=fun x h=>iI h
 exact⟨(q _ (by lia)).trans E.p,(q _ (by lia)).trans E.m,(q _ (by lia)).trans E.f,(q _ (by lia)).trans E.t,(q _ (by lia)).trans E.pr,(q _ (by lia)).trans E.k,(q _ (by lia)).trans E.c,(q _ (by lia)).trans E.nm,(q _ (by lia)).trans E.en⟩
noncomputable def DD:MO:=.dict [(5,.str [49]),(4,.str [50]),(3,.str [51]),(2,.str [52])]
theorem dZ{p:Nat}(h2:2<=p)(h6:p<6):B8 (B S k m G st++(g++[DD])) (.lX (g.length+61)) (.int p)=some (.str (pL p)):=by
 have e:(B S k m G st++(g++[DD]))[g.length+61]?=some DD:=(gw:(g++[DD])[g.length]?=_)
 refine(OT e).symm▸?_
 rcases(by lia:p=2\/p=3\/p=4\/p=5)with rfl|rfl|rfl|rfl<;>rfl
theorem Q7(p:Nat):(pL p).length<=1:=by unfold pL;split<;>exact gF 1
theorem bi{Q:Au}{mk:Int->List Nat}(hn:12<=n)(GC:Cj G m)(F:Es G m st mk)(hv:v∈Ay G st)(E:qb env st v kd i2)(k1:1<=kd)(k7:kd<7)(pr:Ah v=0\/∃p:Nat,2<=p/\p<6/\Ah v=p)(hi:g[i2]?=some (sl (Cl (Ah v))))(e2:env 295=some (.lX (j+61)))
  (h:∀env' e,Q (.ret (.tup [.str (EO v (Ah v)),.lX (j+61),.str (Dc kd (mY st v) v (Ah v)),.str (PC v (Ah v)),.str (mk v)])) env' (B S k m G st++(g++e))):ws lY (Ak lY prog n) false (AT 8 AY) Q X env (B S k m G st++g):=by
 have M:=F.ok v hv
 have n1:1<=n:=gB (by decide) hn
 unfold PC at h
 refine Zt n1 E M GC.S.top pr fun a=>?_
 refine XY (env:=Ad env 296 (.str (EO v (Ah v)))) n1 (E.set (by decide) _) k1 k7 M GC.S.top (Ac hi a) fun b=>?_
 refine aR (env:=Ad (Ad env 296 (.str (EO v (Ah v)))) 294 (.str (Dc kd (mY st v) v (Ah v)))) n1 ((E.set (by decide) _).set (by decide) _) M GC.S.top fun c=>?_
 have EE:=((E.set (by decide:293<=296/\296<297\/296=194) (.str (EO v (Ah v)))).set (by decide:293<=294/\294<297\/294=194) (.str (Dc kd (mY st v) v (Ah v)))).set (by decide:293<=293/\293<297\/293=194) (.str (oV (Ai v)++oV (md v)))
 refine Ab E.pr ?_
 rcases FF pr with e|⟨p,p1,p7,p2,p6,e,z,kl,c1,c2⟩
 ·have h:∀env' e,Q (.ret (.tup [.str (EO v (Ah v)),.lX (j+61),.str (Dc kd (mY st v) v (Ah v)),.str (oV (Ai v)++oV (md v)),.str (mk v)])) env' (B S k m G st++(g++e)):=by
   rw[e]at h ⊢
   exact h
  refine CA (by rw[e];rfl) ?_
  refine Rs (mk:=mk) hn GC F hv EE rfl e2 rfl rfl fun env' d=>?_
  rw[gv,gv,gv]
  exact h _ _
 ·have h:∀env' e,Q (.ret (.tup [.str (EO v (Ah v)),.lX (j+61),.str (Dc kd (mY st v) v (Ah v)),.str (oV (Ai v)++oV (md v)++pL p),.str (mk v)])) env' (B S k m G st++(g++e)):=by
   rw[e,z]at h
   refine e.symm▸?_
   exact h
  refine DT (by rw[e,z];rfl) ?_
  refine Rq ?_
  rw[Os]
  refine Ab E.pr ?_
  refine Af (by rw[e];exact dZ p2 p6) ?_
  refine Aj (FK (a:=4) (b:=1) (gF 4) (Q7 p) (by decide)) ?_
  refine Rs (mk:=mk) hn GC F hv (EE.set (by decide:293<=293/\293<297\/293=194) (.str (oV (Ai v)++oV (md v)++pL p))) rfl e2 rfl rfl fun env' d=>?_
  have w:g++a++b++c++[DD]++d=g++(a++(b++(c++([DD]++d)))):=by simp only[gv]
  have h:=h env' (a++(b++(c++([DD]++d))))
  exact w.symm▸h
theorem bh{Q:Au}{mk:Int->List Nat}(hn:12<=n)(GC:Cj G m)(F:Es G m st mk)(hv:v∈Ay G st)(V:Mv G st v kd tk)(E:∀i2,qb (Ad env 299 (.lX (i2+61))) st v kd i2)
  (h:∀env' e j,g.length<=j->(g++e)[j]?=some (sl (DK kd (mY st v) v (Ah v)))->Q (.ret (.tup [.str (EO v (Ah v)),.lX (j+61),.str (Dc kd (mY st v) v (Ah v)),.str (PC v (Ah v)),.str (mk v)])) env' (B S k m G st++(g++e))):ws lY (Ak lY prog n) false (AT 4 AY) Q X env (B S k m G st++g):=by
 have M:=F.ok v hv
 have n1:1<=n:=gB (by decide) hn
 have pr:Ah v=0\/∃p:Nat,2<=p/\p<6/\Ah v=p:=by
  rcases M.sp with e|e
  ·left;unfold Ah;refine e.symm▸?_;rfl
  ·obtain⟨_,p,h1,h2,h3⟩:=V.oj e
   exact .inr ⟨p,h1,by exact cu h2,h3⟩
 refine Xl n1 (E 0).pr pr fun a i2 hi=>?_
 have E2:=E i2
 have nm0:B8 (B S k m G st++(g++a)) (.str (mZ (Ai v))) (.int 0)=some (.str [97+((Ai v).fmod 4).toNat]):=rfl
 have nm1:B8 (B S k m G st++(g++a)) (.str (mZ (Ai v))) (.int 1)=some (.str [49+((Ai v).fdiv 4).toNat]):=rfl
 have part:∀(mR:An) (e2:MH) (i1:Nat),qb mR st v kd i2->mR 194=some (.lX (i1+61))->(g++a++e2)[i1]?=some (sl (EM kd (mY st v) (Ai v)))->ws lY (Ak lY prog n) false (AT 7 AY) Q X mR (B S k m G st++(g++a++e2)):=by
  intro mR e2 i1 E3 a1 h1
  have ol:=Ow kd (mY st v) (Ai v)
  have el:=N6 (Ah v)
  refine Ab a1 ?_
  refine Ab (Ln h1) ?_
  refine VC (env:=mR) (i1:=i1) (i2:=i2) (j:=(g++a++e2).length) (E:=Cl (Ah v)) (kd:=kd) (x:=mY st v) (t:=md v) n1 V.k1 V.k7 M.t0 (gM M.t1 GC.S.top) (iK (BY h1)) (iK (BY (Ac hi e2))) el.1 el.2 E3.k E3.c E3.t E3.en (EM kd (mY st v) (Ai v)) ol.1 (g++a++e2++[sl []]) [] (Ac h1 _) (Ac (Ac hi e2) _) gw (by have:=ol.2;show 0+_<_;exact pe (mo _) (.add (.add (.num 0) (.mulL 2 mj)) (.num 1)) (.num 900) mj (.num 4) mj (.num 4) rfl this this) fun e3=>?_
  rw[g9 _ _ (gF _),iC]
  have hj:(g++a++e2++[sl (DK kd (mY st v) v (Ah v))]++e3)[(g++a++e2).length]?=some (sl (DK kd (mY st v) v (Ah v))):=Ac gw e3
  refine bi (env:=Ad mR 295 (.lX ((g++a++e2).length+61))) (mk:=mk) hn GC F hv (E3.set (by decide) _) V.k1 V.k7 pr (Ac (Ac (Ac hi e2) _) _) rfl fun env' e4=>?_
  have w:g++a++e2++[sl (DK kd (mY st v) v (Ah v))]++e3++e4=g++(a++(e2++([sl (DK kd (mY st v) v (Ah v))]++(e3++e4)))):=by simp only[gv]
  have qS:=Ac hj e4
  replace qS:=w▸qS
  have h:=h env' _ _ (by(rewrite[gy];refine List.length_append.symm▸?_;rewrite[Nat.add_assoc]);exact hJ _ _) qS
  exact w▸h
 have full:((kd==1)&&mY st v)=false->sl [[],[97+((Ai v).fmod 4).toNat],[49+((Ai v).fdiv 4).toNat],mZ (Ai v)]=sl (EM kd (mY st v) (Ai v)):=fun e=>by unfold EM;(refine e.symm▸?_;rfl)
 have plain:((kd==1)&&mY st v)=false->ws lY (Ak lY prog n) false (AT 7 AY) Q X (Ad (Ad env 299 (.lX (i2+61))) 194 (.lX ((g++a).length+61))) (B S k m G st++(g++a++[sl [[],[97+((Ai v).fmod 4).toNat],[49+((Ai v).fdiv 4).toNat],mZ (Ai v)]])):=fun e=>
  part _ _ (g++a).length (E2.set (by decide) _) rfl (by refine(full e).symm▸?_;exact gw)
 refine Ab E2.nm ?_
 refine Af nm0 ?_
 refine Ab E2.nm ?_
 refine Af nm1 ?_
 refine Ab E2.nm ?_
 refine Ab E2.k ?_
 refine Ap (fun e=>?_) fun e=>?_
 ·have e:kd=1:=by
   rw[iw]at e;exact jH (Int.ofNat_le.mp (mJ (mo _) mh (.num 1) mh (.num 1) rfl (iE e))) (Int.ofNat_le.mp (mJ (mo _) (.num 1) mh (.num 1) mh rfl (iE e.symm)))
  refine Ab E2.c ?_
  cases ex:mY st v with
  |false=>
   replace plain:=ex▸plain
   exact plain (by simp)
  |true=>
   have fl:sl [[97+((Ai v).fmod 4).toNat],mZ (Ai v)]=sl (EM kd (mY st v) (Ai v)):=by(refine e.symm▸?_;refine ex.symm▸?_);rfl
   refine Ab E2.nm ?_
   refine Af rfl ?_
   refine Ab E2.nm ?_
   have z:=part (Ad (Ad (Ad env 299 (.lX (i2+61))) 194 (.lX ((g++a).length+61))) 194 (.lX ((g++a++[sl [[],[97+((Ai v).fmod 4).toNat],[49+((Ai v).fdiv 4).toNat],mZ (Ai v)]]).length+61))) ([sl [[],[97+((Ai v).fmod 4).toNat],[49+((Ai v).fdiv 4).toNat],mZ (Ai v)]]++[sl [[97+((Ai v).fmod 4).toNat],mZ (Ai v)]]) _ ((E2.set (by decide) _).set (by decide) _) rfl (by(refine fl.symm▸?_;rewrite[<- gv]);exact gw)
   rw[<- gv (g++a)]at z
   exact z
 ·have e:kd≠1:=by
   rw[gQ]at e;lia
  exact plain (by refine(show(kd==1)=false by rw[gQ];exact e).symm▸?_;rfl)
end
noncomputable def wF(v:Int):List Nat:=EO v (Ah v)
noncomputable def pf(st:St)(v:Int):List (List Nat):=DK (ou st v).toNat (mY st v) v (Ah v)
noncomputable def oM(v:Int):List Nat:=PC v (Ah v)
noncomputable def nW(st:St)(mk:Int->List Nat)(j:Nat)(v:Int):V:=.tup [.str (wF v),.lX (j+61),.str (n8 st v),.str (oM v),.str (mk v)]
section
variable{S:List Int}{k:Int}{m:Nat}{G:l8}{st:St}{g:MH}{n:Nat}{X:As}{μ:MH}
theorem W1{Q:Ae}{mk:Int->List Nat}(hn:13<=n)(GC:Cj G m)(F:Es G m st mk)(hv:v∈Ay G st)
  (h:∀e j,g.length<=j->(g++e)[j]?=some (sl (pf st v))->Q (nW st mk j v) (B S k m G st++(g++e))):CG n false 301 [.lX 54,.int v] Q X (B S k m G st++g):=by
 refine stp hn fun n hn=>?_
 obtain⟨kd,tk,V,R,e⟩:=F.mv v hv
 have M:=V.M
 have C:=F.R.C
 have hb:=Cu (A4 C M.f0 M.f1)
 replace hb:=V.src▸hb
 have kk:(Mine.ou st v).toNat=kd:=by refine V.ou.symm▸?_;rfl
 unfold pf nW n8 at h
 replace h:=kk▸h
 refine Eu (l6 hn rfl) ?_
 refine KL (l6 hn rfl) ?_
 refine Dj (l6 hn rfl) ?_
 refine B1 M.f0 hb ?_
 refine Ec (l6 hn rfl) (g6 V.k7) ?_
 refine B1 M.t0 (Cu (A4 C M.t0 M.t1)) ?_
 have fin:∀env:An,(∀i2,qb (Ad env 299 (.lX (i2+61))) st v kd i2)->ws lY (Ak lY prog n) false (AT 4 AY) (fun fl _ μ'=>match fl with|.ret v=>Q v μ'|.next=>Q .none μ'|.cont=>False) X env (B S k m G st++g):=fun env E=>bh (mk:=mk) (l6 hn rfl) GC F hv V E fun _ e j hl hj=>h e j hl hj
 refine Ap (fun e=>?_) fun e=>?_
 ·have e:mY st v=true:=e
  refine Jo (l6 hn rfl) M.f0 (gM M.f1 GC.S.top) ?_
  exact fin (Ad (Ad (Ad (Ad (Ad (Ad (Ad (Ad (fun _=>none) 102 (.lX 54)) 19 (.int v)) 82 (.int (Ai v))) 61 (.int (md v))) 14 (.int (Ah v))) 1 (.int kd)) 260 (.str [120])) 297 (.str (mZ (Ai v)))) fun i2=>⟨rfl,rfl,rfl,rfl,rfl,rfl,by refine e.symm▸?_;rfl,rfl,rfl⟩
 ·have e:mY st v=false:=e
  refine Jo (l6 hn rfl) M.f0 (gM M.f1 GC.S.top) ?_
  exact fin (Ad (Ad (Ad (Ad (Ad (Ad (Ad (Ad (fun _=>none) 102 (.lX 54)) 19 (.int v)) 82 (.int (Ai v))) 61 (.int (md v))) 14 (.int (Ah v))) 1 (.int kd)) 260 (.str [])) 297 (.str (mZ (Ai v)))) fun i2=>⟨rfl,rfl,rfl,rfl,rfl,rfl,by refine e.symm▸?_;rfl,rfl,rfl⟩
noncomputable def BU(st:St)(mk:Int->List Nat)(g:MH):List V->List Int->Prop
 |[],[]=>True
 |r :: rs,v :: L=>(∃j,r=.tup [.int v,nW st mk j v]/\g[j]?=some (sl (pf st v)))/\BU st mk g rs L
 |_,_=>False
theorem BU.more{mk:Int->List Nat}(e:MH):∀{rs:List V} {L:List Int},BU st mk g rs L->BU st mk (g++e) rs L
 |[],[],_=>trivial
 |_ :: _,_ :: _,⟨⟨j,a,b⟩,h⟩=>⟨⟨j,a,Ac b e⟩,h.more e⟩
theorem bb{l:List (List Nat)}(h:μ[a]?=some (sl l)):JB μ .In (.str x) (.lX a)=some (l.any (·==x)):=by
 have q:∀l:List (List Nat),BE (l.map V.str)=some l:=fun l=>by
  induction l with
  |nil=>rfl
  |cons a l ih=>show(BE (l.map V.str)).map _=_;rw[ih];rfl
 show((By μ a).bind fun l=>(BE l).map fun ss=>ss.any (·==x))=_
 rw[CO h]
 show(BE (l.map V.str)).map _=_
 rw[q];rfl
theorem Br(r:List Nat)(c:Nat):AF (r++[c])=[c]/\A8 (r++[c])=r:=by
 unfold AF A8 cut
 have e:(-1+((r++[c]).length:Int)).toNat=r.length:=by refine List.length_append.symm▸?_;show(-1+((r.length+1:Nat):Int)).toNat=_;lia
 (refine e.symm▸?_;refine(jB (gF _)).symm▸?_;refine List.drop_left.symm▸?_;refine List.take_left.symm▸?_)
 exact⟨rfl,rfl⟩
theorem Wh(h:AF t=[c]):B8 μ (.str t) (.int (-1))=some (.str [c]):=by
 rcases List.eq_nil_or_concat t with e|⟨r,d,e⟩
 ·subst e;exact nomatch h
 ·cases e
  rw[List.concat_eq_append]at h ⊢
  replace h:=((Br r d).1)▸h
  cases h
  show((CU (r++[c]).length (-1)).bind fun k=>((r++[c])[k]?).map fun c=>V.str [c])=_
  unfold CU
  rw[iI (by decide),iJ (by refine List.length_append.symm▸?_;show(0:Int)<= -1+((r.length+1:Nat):Int);exact mJ (mo _) (.num 0) (.add (.neg (.num 1)) (mm 0 1)) (.num 0) mh rfl (gP _))]
  show((r++[c])[(-1+((r++[c]).length:Int)).toNat]?).map _=_
  have e:(-1+((r++[c]).length:Int)).toNat=r.length:=by refine List.length_append.symm▸?_;show(-1+((r.length+1:Nat):Int)).toNat=_;lia
  (refine e.symm▸?_;refine List.getElem?_concat_length.symm▸?_);rfl
end
noncomputable def Il(t:List Nat)(v:Int):Bool:=wF v==t||oM v==t
noncomputable def Eh(st:St)(b:List Nat)(v:Int):Bool:=(pf st v).any (·==b)
noncomputable def KQ(st:St)(mk:Int->List Nat)(b s:List Nat)(v:Int):Bool:=n8 st v==b&&([[],mk v].any (·==s))
noncomputable def Vy:List Int->Option Int
 |[v]=>some v
 |_=>none
noncomputable def EB(mk:Int->List Nat)(st:St)(L:List Int)(t:List Nat):Option Int:=
 rY (L.find? (Il t)) (rY ((Vy (L.filter (Eh st (AX t).1))).filter fun v=>[[],mk v].any (·==(AX t).2)) (L.find? (KQ st mk (AX t).1 (AX t).2)))
section
variable{S:List Int}{k:Int}{m:Nat}{G:l8}{st:St}{g:MH}{n:Nat}{X:As}{μ:MH}{mk:Int->List Nat}
noncomputable def eJ:MS:=fb (mS 1 Ce)
theorem gd{Q:Au}(hi:μ[i]?=some (.list XS)):∀(rs:List V) (L:List Int) (env:An),BU st mk g rs L->env 224=some (.str t)->
  (∀env',(∀x,x≠19->x≠303->env' x=env x)->match L.find? (Il t)with|some v=>Q (.ret (.int v)) env' μ|none=>Q .next env' μ)->
  Bz (some (i,XS)) (fun v K env' μ'=>opt (AC [19,303] false v env') fun e=>ws lY (Ak lY prog n) false eJ K X e μ') rs Q env μ:=by
 intro rs
 induction rs with
 |nil=>
  intro L env T a h
  induction L using List.casesOn with
  |nil=>exact⟨hi,h env fun _ _ _=>rfl⟩
  |cons=>exact T.elim
 |cons r rs ih=>
  intro L env T a h
  induction L using List.casesOn with
  |nil=>exact T.elim
  |cons v L=>
   obtain⟨⟨j,er,hj⟩,T⟩:=T
   subst er
   refine⟨hi,?_⟩
   have skip:Il t v=false->Bz (some (i,XS)) (fun v K env' μ'=>opt (AC [19,303] false v env') fun e=>ws lY (Ak lY prog n) false eJ K X e μ') rs Q (Ad (Ad env 19 (.int v)) 303 (nW st mk j v)) μ:=fun e=>by
    refine ih L _ T a fun env' b=>?_
    have h:=h env' fun x h1 h2=>(b x h1 h2).trans ((iI h2).trans (iI h1))
    (rw[io]at h;replace h:=e▸h)
    exact h
   have got:Il t v=true->Q (.ret (.int v)) (Ad (Ad env 19 (.int v)) 303 (nW st mk j v)) μ:=fun e=>by
    have h:=h (Ad (Ad env 19 (.int v)) 303 (nW st mk j v)) fun x h1 h2=>(iI h2).trans (iI h1)
    (replace h:=io▸h;rw[e]at h)
    exact h
   refine Af rfl ?_
   refine Ab a ?_
   refine Ap (fun e=>?_) fun e=>?_
   ·have e:(wF v==t)=true:=e
    exact got (by unfold Il;refine e.symm▸?_;rfl)
   ·have e:(wF v==t)=false:=e
    refine Af rfl ?_
    refine Ab a ?_
    refine Ap (fun e2=>?_) fun e2=>?_
    ·have e2:(oM v==t)=true:=e2
     exact got (by unfold Il;(refine e2.symm▸?_;rewrite[js];rfl))
    ·have e2:(oM v==t)=false:=e2
     exact skip (by unfold Il;(refine e.symm▸?_;refine e2.symm▸?_);rfl)
noncomputable def eK:MS:=fb (mS 4 Ce)
theorem gg{Q:Au}(hi:μ[i]?=some (.list XS)):∀(rs:List V) (L:List Int) (env:An),BU st mk g rs L->env 261=some (.str b)->env 291=some (.str s)->
  (∀env',match L.find? (KQ st mk b s)with|some v=>Q (.ret (.int v)) env' μ|none=>Q .next env' μ)->
  Bz (some (i,XS)) (fun v K env' μ'=>opt (AC [19,303] false v env') fun e=>ws lY (Ak lY prog n) false eK K X e μ') rs Q env μ:=by
 intro rs
 induction rs with
 |nil=>
  intro L env T a a2 h
  induction L using List.casesOn with
  |nil=>exact⟨hi,h env⟩
  |cons=>exact T.elim
 |cons r rs ih=>
  intro L env T a a2 h
  induction L using List.casesOn with
  |nil=>exact T.elim
  |cons v L=>
   obtain⟨⟨j,er,hj⟩,T⟩:=T
   subst er
   refine⟨hi,?_⟩
   have skip:KQ st mk b s v=false->Bz (some (i,XS)) (fun v K env' μ'=>opt (AC [19,303] false v env') fun e=>ws lY (Ak lY prog n) false eK K X e μ') rs Q (Ad (Ad env 19 (.int v)) 303 (nW st mk j v)) μ:=fun e=>by
    refine ih L _ T a a2 fun env'=>?_
    have h:=h env'
    (rw[io]at h;replace h:=e▸h)
    exact h
   refine Af rfl ?_
   refine Ab a ?_
   refine Ap (fun e=>?_) fun e=>?_
   ·have e:(n8 st v==b)=true:=e
    refine Ab a2 ?_
    refine Af rfl ?_
    refine Ab rfl ?_
    refine Ap (fun e2=>?_) fun e2=>?_
    ·have e2:([[],mk v].any (·==s))=true:=e2
     have h:=h (Ad (Ad env 19 (.int v)) 303 (nW st mk j v))
     rw[io,show KQ st mk b s v=true by unfold KQ;(refine e.symm▸?_;refine e2.symm▸?_);rfl]at h
     exact h
    ·have e2:([[],mk v].any (·==s))=false:=e2
     exact skip (by unfold KQ;(refine e2.symm▸?_;rewrite[jT];rfl))
   ·have e:(n8 st v==b)=false:=e
    exact skip (by unfold KQ;refine e.symm▸?_;rfl)
noncomputable def lmC:ME:=.cmp (.lX 261) .In (.sub (.lX 303) (.int 1))
theorem gf{K:MH->Prop}(hi:g[i]?=some (.list XS))(a:env 261=some (.str b)):∀(rs:List V) (L:List Int) (xs:List V),BU st mk g rs L->xs.length+rs.length<90000->
  (∀ys,BU st mk g ys (L.filter (Eh st b))->K (B S k m G st++(g++[.list (xs++ys)])))->
  Dq (some (i+61,XS)) (g.length+61) (fun v K μ'=>opt (AC [19,303] false v (AG [19,303] env)) fun e=>wt lY (Ak lY prog n false) e lmC K (fun _ _=>False) μ')
   (fun v K μ'=>opt (AC [19,303] false v (AG [19,303] env)) fun e=>we lY (Ak lY prog n false) e (.tup (.cons (.lX 19) (.cons (.lX 303) .nil))) K (fun _ _=>False) μ') rs K (B S k m G st++(g++[.list xs])):=by
 intro rs
 induction rs with
 |nil=>
  intro L xs T _ h
  cases L with
  |nil=>have h:=h [] trivial;rw[gE]at h;exact⟨Ac hi _,h⟩
  |cons=>exact T.elim
 |cons r rs ih=>
  intro L xs T hl h
  cases L with
  |nil=>exact T.elim
  |cons v L=>
   obtain⟨⟨j,er,hj⟩,T⟩:=T
   subst er
   rw[gR]at hl
   have qS:(B S k m G st++(g++[MO.list xs]))[j+61]?=some (sl (pf st v)):=(Ac hj [MO.list xs]:(g++[MO.list xs])[j]?=_)
   refine⟨Ac hi _,?_⟩
   refine Ab a ?_
   refine Af rfl ?_
   refine Ab (bb qS) ?_
   refine Ap (fun e=>?_) fun e=>?_
   ·have e:Eh st b v=true:=e
    rw[je e]at h
    have q:By (B S k m G st++(g++[MO.list xs])) (g.length+61)=some xs:=FR (gw:(g++[MO.list xs])[g.length]?=_)
    refine Ab q ?_
    refine Aj (gz (gZ (hJ _ _) (iv hl (by decide)))) ?_
    rw[show(B S k m G st++(g++[MO.list xs])).set (g.length+61) (.list (xs++[.tup [.int v,nW st mk j v]]))=B S k m G st++(g++[.list (xs++[.tup [.int v,nW st mk j v]])]) by
     have z:(g++[MO.list xs]).set g.length (.list (xs++[.tup [.int v,nW st mk j v]]))=g++[.list (xs++[.tup [.int v,nW st mk j v]])]:=by rw[g9 _ _ (gF _),iC];rfl
     rw[<- z];rfl]
    refine ih L (xs++[.tup [.int v,nW st mk j v]]) T (by rw[gy];show _+1+_<_;exact S8 hl) fun ys U=>?_
    rw[gv]
    exact h (.tup [.int v,nW st mk j v] :: ys) ⟨⟨j,rfl,hj⟩,U⟩
   ·have e:Eh st b v=false:=e
    rw[jf (by rw[e];exact iN)]at h
    exact ih L xs T (by exact YG hl) h
theorem bB{Q:Au}{L:List Int}(hi:g[jt]?=some (.list rs))(T:BU st mk g rs L)(e1:env 302=some (.lX (jt+61)))(e2:env 261=some (.str b))(e3:env 291=some (.str s))
  (h:∀env',Q (.ret (bY (L.find? (KQ st mk b s)))) env' (B S k m G st++g)):ws lY (Ak lY prog n) false (AT 4 Ce) Q X env (B S k m G st++g):=by
 refine Ab e1 ?_
 refine Ab (Ln hi) ?_
 refine A0 ?_
 refine gg (μ:=B S k m G st++g) (i:=jt+61) hi rs L env T e2 e3 fun env'=>?_
 revert h
 cases L.find? (KQ st mk b s) with
 |some v=>intro h;exact h _
 |none=>intro h;exact h _
theorem Xa(t:List Nat):([[43],[35]].any (·==AF t))=(AF t==[43]||AF t==[35]):=by
 have q:∀a b:List Nat,(a==b)=(b==a):=fun a b=>by
  cases e:b==a with
  |true=>exact(gN e)▸(ip _)
  |false=>
   cases e2:a==b with
   |true=>(replace e:=(gN e2)▸e;rw[ip]at e);exact FT e
   |false=>rfl
 show([43]==AF t||([35]==AF t||false))=_
 rw[q [43],q [35],jv]
@[elab_as_elim] theorem gq{mk:Int->List Nat}{motive:List V->List Int->Prop}(U:BU st mk g ys M)(h0:motive [] [])(h1:∀v j,g[j]?=some (sl (pf st v))->motive [.tup [.int v,nW st mk j v]] [v])(h2:∀y y2 ys v v2 M,motive (y :: y2 :: ys) (v :: v2 :: M)):motive ys M:=by
 rcases ys with _|⟨y,_|⟨y2,ys⟩⟩<;>rcases M with _|⟨v,_|⟨v2,M⟩⟩
 ·exact h0
 ·exact U.elim
 ·exact U.elim
 ·exact U.elim
 ·obtain⟨⟨j,rfl,hj⟩,_⟩:=U;exact h1 v j hj
 ·exact U.2.elim
 ·exact U.elim
 ·exact U.2.elim
 ·exact h2 ..
theorem WQ{Q:Ae}{rs:List V}(hn:1<=n)(hi:g[jt]?=some (.list rs))(T:BU st mk g rs L)(hl:rs.length<80000)
  (h:∀e,Q (bY (EB mk st L t)) (B S k m G st++(g++e))):CG n false 305 [.lX (jt+61),.str t] Q X (B S k m G st++g):=by
 refine stp hn fun n hn=>?_
 unfold EB at h
 have rest:∀(env:An),env 224=some (.str t)->env 302=some (.lX (jt+61))->env 261=some (.str (AX t).1)->env 291=some (.str (AX t).2)->
   ws lY (Ak lY prog n) false (AT 1 Ce) (fun fl _ μ'=>match fl with|.ret v=>Q v μ'|.next=>Q .none μ'|.cont=>False) X env (B S k m G st++g):=by
  intro env a1 a2 a3 a4
  refine Ab a2 ?_
  refine Ab (Ln hi) ?_
  refine A0 ?_
  refine gd (st:=st) (g:=g) (mk:=mk) (μ:=B S k m G st++g) (i:=jt+61) (t:=t) hi rs L env T a1 fun env' z=>?_
  revert h
  cases L.find? (Il t) with
  |some v=>intro h;have h:=h [];rw[gE]at h;exact h
  |none=>
   intro h
   refine Ab ((z 302 (by decide) (by decide)).trans a2) ?_
   refine Ab (Ln hi) ?_
   refine gf (env:=env') (b:=(AX t).1) hi ((z 261 (by decide) (by decide)).trans a3) rs L [] T (by show 0+_<_;exact YH hl) fun ys U=>?_
   have hs:(g++[MO.list ys])[g.length]?=some (.list ys):=gw
   have b1:Ad env' 304 (.lX (g.length+61)) 302=some (.lX (jt+61)):=(z 302 (by decide) (by decide)).trans a2
   have b2:Ad env' 304 (.lX (g.length+61)) 261=some (.str (AX t).1):=(z 261 (by decide) (by decide)).trans a3
   have b3:Ad env' 304 (.lX (g.length+61)) 291=some (.str (AX t).2):=(z 291 (by decide) (by decide)).trans a4
   have last:(Vy (L.filter (Eh st (AX t).1))).filter (fun v=>[[],mk v].any (·==(AX t).2))=none->ws lY (Ak lY prog n) false (AT 4 Ce) (fun fl _ μ'=>match fl with|.ret v=>Q v μ'|.next=>Q .none μ'|.cont=>False) X (Ad env' 304 (.lX (g.length+61))) (B S k m G st++(g++[.list ys])):=fun w=>by
    refine bB (Ac hi [.list ys]) (T.more _) b1 b2 b3 fun _=>?_
    have h:=h [.list ys]
    replace h:=w▸h
    exact h
   refine Ab (FR hs) ?_
   clear hs
   revert h last
   generalize L.filter (Eh st (AX t).1)=M at U
   refine gq U (fun _ last=>last rfl) (fun v j _ h last=>?_) fun _ _ _ _ _ _ _ last=>last rfl
   have s0:B8 (B S k m G st++(g++[MO.list [.tup [.int v,nW st mk j v]]])) (.lX (g.length+61)) (.int 0)=some (.tup [.int v,nW st mk j v]):=HH (gw)
   refine Ab b3 ?_
   refine Af s0 ?_
   refine Af rfl ?_
   refine Af rfl ?_
   refine Ab rfl ?_
   refine Ap (fun e=>?_) fun e=>?_
   ·have e:([[],mk v].any (·==(AX t).2))=true:=e
    have h:=h [.list [.tup [.int v,nW st mk j v]]]
    rw[show(Vy [v]).filter (fun v=>[[],mk v].any (·==(AX t).2))=some v from iJ e]at h
    refine Af s0 ?_
    refine Af rfl ?_
    exact h
   ·exact last (iI fun q=>Ex q e)
 have pm:=Xa t
 refine Ab rfl ?_
 refine Ap (fun e=>?_) fun e=>?_
 ·have e:([[43],[35]].any (·==AF t))=true:=e
  replace e:=pm▸e
  have cs:AX t=(A8 t,AF t)/\∃c,AF t=[c]:=by
   unfold AX
   cases e1:AF t==[43] with
   |true=>exact⟨rfl,43,gN e1⟩
   |false=>
    (replace e:=e1▸e;rw[iG]at e)
    refine e.symm▸?_
    exact⟨rfl,35,gN e⟩
  obtain⟨cs,c,ec⟩:=cs
  refine Af (Wh ec) ?_
  refine rest (Ad (Ad (Ad (Ad (fun _=>none) 302 (.lX (jt+61))) 224 (.str t)) 261 (.str (A8 t))) 291 (.str [c])) rfl rfl ?_ ?_
  ·refine cs.symm▸?_;rfl
  ·(refine cs.symm▸?_;refine ec.symm▸?_);rfl
 ·have e:([[43],[35]].any (·==AF t))=false:=e
  replace e:=pm▸e
  have cs:AX t=(t,[]):=by
   unfold AX
   cases e1:AF t==[43] with
   |true=>replace e:=e1▸e;exact FT e
   |false=>(replace e:=e1▸e;rw[iG]at e);(refine e.symm▸?_;rfl)
  refine rest (Ad (Ad (Ad (Ad (fun _=>none) 302 (.lX (jt+61))) 224 (.str t)) 261 (.str t)) 291 (.str [])) rfl rfl ?_ ?_
  ·refine cs.symm▸?_;rfl
  ·refine cs.symm▸?_;rfl
end
section
variable{S:List Int}{k:Int}{n:Nat}{hd:Bool}{Q:Ae}{X:As}{r:MH}
theorem MM{a:Int}(h:0<many):0<=a.fmod many/\a.fmod many<many:=by
 refine(lh _ (jg h)).symm▸?_
 exact⟨Int.emod_nonneg _ (by exact iD (Tb h)),Int.emod_lt_of_pos _ h⟩
theorem TT(hn:1<=n)(k0:0<=k)(k1:k<900)(hm:0<many)(h:∀d,0<=d->d<many->Q (.int d) (il S :: .list [.lX 0,.int (k+1)] :: r)):CG n hd 280 [.lX 1,.int many] Q X (il S :: .list [.lX 0,.int k] :: r):=by
 refine stp hn fun n hn=>?_
 have q:(il S :: MO.list [.lX 0,.int (k+1)] :: r)[0]?=some (il S):=rfl
 have sm:small (k+1)=true:=D1 (by exact mJ (mo _) (.add (.neg (.num 1000)) (.num 1)) (mm 0 1) (.num 0) mh rfl k0) (by exact mJ (mo _) (.add (mm 0 1) (.num 1)) (.num 1000) (mm 0 1) (.num 900) rfl k1)
 refine Af rfl ?_
 refine Af rfl ?_
 refine Af rfl ?_
 refine Ap (fun e=>?_) fun e=>?_
 ·have e:decide (k+1<=(((S.map V.int).length:Nat):Int))=true:=e
  rw[gU]at e
  refine Af rfl ?_
  refine Af rfl ?_
  refine AO q (by exact mJ (mo _) (.num 0) (.sub (mm 0 1) (.num 1)) (.num 0) mh rfl k0) (by lia) ?_
  refine Aj (gz (by exact iD (Tb hm):many≠0)) ?_
  exact h _ (MM hm).1 (MM hm).2
 ·conv=>whnf
  refine Af rfl ?_
  refine Af rfl ?_
  refine Aj sm ?_
  refine Aj sm ?_
  refine Af rfl ?_
  refine Aj sm ?_
  refine Aj (gz (by exact iD (Tb hm):many≠0)) ?_
  exact h _ (MM hm).1 (MM hm).2
end
noncomputable def G4:l8:={ranks:=4,size:=16,full:=65535,files:=[4369,8738,17476,34952],rankm:=[15,240,3840,61440],e22:=il [],knight:=[576,1408,2576,1056,9220,22536,41217,16898,16450,32901,4122,8228,1056,2128,416,576],pawn0:=[32,80,160,64,512,1280,2560,1024,8192,20480,40960,16384,0,0,0,0],pawn1:=[0,0,0,0,2,5,10,4,32,80,160,64,512,1280,2560,1024],king:=[50,117,234,196,803,1879,3758,3148,12848,30064,60128,50368,8960,22272,44544,19456],r0:=[4368,8736,17472,34944,4352,8704,17408,34816,4096,8192,16384,32768,0,0,0,0],r1:=[14,12,8,0,224,192,128,0,3584,3072,2048,0,57344,49152,32768,0],r2:=[0,0,0,0,1,2,4,8,17,34,68,136,273,546,1092,2184],r3:=[0,1,3,7,0,16,48,112,0,256,768,1792,0,4096,12288,28672],r4:=[33824,2112,128,0,16896,33792,2048,0,8192,16384,32768,0,0,0,0,0],r5:=[0,0,0,0,2,4,8,0,36,72,128,0,584,1152,2048,0],r6:=[0,0,0,0,0,1,2,4,0,16,33,66,0,256,528,1057],r7:=[0,16,288,4672,0,256,4608,9216,0,4096,8192,16384,0,0,0,0],e48:=il [0,0,0,0,0,0,0,0,0,0,0,0,0,0,0,0]}
noncomputable def G5:l8:={ranks:=5,size:=20,full:=1048575,files:=[69905,139810,279620,559240],rankm:=[15,240,3840,61440,983040],e22:=il [],knight:=[576,1408,2576,1056,9220,22536,41217,16898,147522,360581,659482,270372,263200,526416,65952,131648,16896,34048,6656,9216],pawn0:=[32,80,160,64,512,1280,2560,1024,8192,20480,40960,16384,131072,327680,655360,262144,0,0,0,0],pawn1:=[0,0,0,0,2,5,10,4,32,80,160,64,512,1280,2560,1024,8192,20480,40960,16384],king:=[50,117,234,196,803,1879,3758,3148,12848,30064,60128,50368,205568,481024,962048,805888,143360,356352,712704,311296],r0:=[69904,139808,279616,559232,69888,139776,279552,559104,69632,139264,278528,557056,65536,131072,262144,524288,0,0,0,0],r1:=[14,12,8,0,224,192,128,0,3584,3072,2048,0,57344,49152,32768,0,917504,786432,524288,0],r2:=[0,0,0,0,1,2,4,8,17,34,68,136,273,546,1092,2184,4369,8738,17476,34952],r3:=[0,1,3,7,0,16,48,112,0,256,768,1792,0,4096,12288,28672,0,65536,196608,458752],r4:=[33824,2112,128,0,541184,33792,2048,0,270336,540672,32768,0,131072,262144,524288,0,0,0,0,0],r5:=[0,0,0,0,2,4,8,0,36,72,128,0,584,1152,2048,0,9344,18432,32768,0],r6:=[0,0,0,0,0,1,2,4,0,16,33,66,0,256,528,1057,0,4096,8448,16912],r7:=[0,16,288,4672,0,256,4608,74752,0,4096,73728,147456,0,65536,131072,262144,0,0,0,0],e48:=il [0,0,0,0,0,0,0,0,0,0,0,0,0,0,0,0,0,0,0,0]}
noncomputable def tW(m:Nat):St:={board:=List.replicate m 0,k0:=0,k1:=0,k2:=0,k3:=0,k4:=0,k5:=0,k6:=0,s0:=0,s1:=0,side:=false,half:=0,full:=1,key:=0,hist:=[]}
noncomputable def RN(m:Nat):MH:=[ll [3,4,5,6,7,8,9,10,11,12,13,14,15,16,17],Bh m 0,Bh m 1,Bh m 2,Bh m 3,Bh m 4,Bh m 5,Bh m 6,Bh m 7,Bh m 8,Bh m 9,Bh m 10,Bh m 11,Bh m 12,Bh m 13,Bh m 14]
noncomputable def HZ(r:Int):An:=Ad (Ad (Ad (fun _=>none) 278 (.lX 1)) 49 (.int r)) 63 (.int (4*r))
theorem fH(n:Nat)(Q:Ae)(X:As)(a b:MO):we lY (Ak lY prog n false) (HZ 4) (rhs (mS 2 Av)) Q X [a,b]=Q (.lX 2) (a :: b :: RN 16):=by kernel_rfl
theorem fJ(n:Nat)(Q:Ae)(X:As)(a b:MO):we lY (Ak lY prog n false) (HZ 5) (rhs (mS 2 Av)) Q X [a,b]=Q (.lX 2) (a :: b :: RN 20):=by kernel_rfl
theorem gj(n:Nat)(Q:Ae)(X:As)(S:List Int)(k:Int):we lY (Ak lY prog (n+5) false) (Ad (HZ 4) 287 (.lX 2)) (rhs (mS 3 Av)) Q X (il S :: .list [.lX 0,.int k] :: RN 16)=Q (.lX 54) (B S k 16 G4 (tW 16)):=by kernel_rfl
theorem gk(n:Nat)(Q:Ae)(X:As)(S:List Int)(k:Int):we lY (Ak lY prog (n+5) false) (Ad (HZ 5) 287 (.lX 2)) (rhs (mS 3 Av)) Q X (il S :: .list [.lX 0,.int k] :: RN 20)=Q (.lX 54) (B S k 20 G5 (tW 20)):=by kernel_rfl
structure EQ(G:l8)(st:St)(c:Bool)(x:Int):Prop where
 x0:0<=x
 x1:x<G.size
 it:∀k:Nat,AB st.board k=pc c 6↔(k:Int)=x
theorem M2(h:pc c a=pc d b)(ha:a<7)(hb:b<7):c=d/\a=b:=by
 unfold pc at h
 induction c using Bool.casesOn<;>induction d using Bool.casesOn<;>simp only[sd]at h<;>first|exact⟨rfl,by decide⟩|lia
theorem GX{st:St}(C:mG G st)(c:Bool)(h1:1<=kd)(h7:kd<7)(k:Nat):tb (Am (st.si c) (st.kd kd)) k=true↔AB st.board k=pc c kd:=by
 show tb (Builtin.bitAnd _ _) k=true↔_
 rw[Bv,C.sb,C.kb kd h1 h7]
 rcases C.rM k with e|⟨d,q,q1,q7,e⟩
 ·rw[e]
  exact⟨fun h=>(by exact Dd h),fun h=>absurd h.symm (Eo c h1)⟩
 ·(refine e.symm▸?_;rewrite[Cn d q1 q7];rewrite[Cm d q1 q7])
  constructor
  ·intro h
   simp only[gI,hG]at h
   (refine h.1.symm▸?_;refine h.2.symm▸?_;rfl)
  ·intro h
   obtain⟨rfl,rfl⟩:=M2 h q7 h7
   simp
theorem U2(k:Nat):∀(a:Nat) (s:Int),0<a->a<2 ^ k->∃j:Nat,F9 k a s=s+j/\a.testBit j=true:=by
 induction k with
 |zero=>intro a s h0 h1;exact absurd h1 (by exact Nat.not_lt.mpr (mP (mo _) (.num 1) mj (.add (.num 0) (.num 1)) mj rfl h0))
 |succ k ih=>
  intro a s h0 h1
  have b1:=NM a (by exact Oz (gP _))
  have hf:(a:Int).fdiv 2=((a / 2:Nat):Int):=by rw[iA _ (by decide)];rfl
  unfold F9
  rcases jp a with c|c
  ·obtain⟨j,e2,e3⟩:=ih (a / 2) (s+1) (by lia) (by rw[kI]at h1;lia)
   refine⟨j+1,?_,by rw[iL];exact e3⟩
   rw[b1,show((a:Int) % 2 != 0)=false by simp;lia,hf]
   show F9 k _ _=_
   rw[e2];exact hZ (fk) (fo)
  ·refine⟨0,?_,by rw[i5,c];rfl⟩
   rw[b1,show((a:Int) % 2 != 0)=true by simp;lia]
   show s=_
   exact hZ (fp) (fq)
theorem GI{G:l8}{st:St}{c:Bool}{x:Int}(GS:G.l7)(C:mG G st)(K:EQ G st c x):Ax st c=x:=by
 have hb:Bd G (Am (st.si c) st.k6):=(C.pK c).left _
 have ht:=hb.top GS
 have t:=GX C c (kd:=6) (by decide) (by decide)
 have t:∀k,tb (Am (st.si c) st.k6) k=true↔AB st.board k=pc c 6:=t
 unfold Ax
 revert hb ht t
 generalize Am (st.si c) st.k6=y
 intro hb ht t
 obtain⟨a,rfl⟩:=gD hb.1
 have hx:a.testBit x.toNat=true:=(t x.toNat).mpr ((K.it x.toNat).mpr (gX K.x0))
 have a0:0<a:=by
  rcases Nat.eq_zero_or_pos a with z|z
  ·subst z;rw[Nat.zero_testBit]at hx;exact Dd hx
  ·exact z
 obtain⟨j,e1,e2⟩:=U2 20 a 0 a0 (by lia)
 (refine e1.symm▸?_;rewrite[j9])
 exact(K.it j).mp ((t j).mp e2)
theorem Mz{a b:St}(hk:∀kd,kd<7->a.kd kd=b.kd kd)(hs:∀c,a.si c=b.si c)(c:Bool):Bo G a c=Bo G b c:=by
 have k1:a.k1=b.k1:=hk 1 (by decide)
 have k2:a.k2=b.k2:=hk 2 (by decide)
 have k3:a.k3=b.k3:=hk 3 (by decide)
 have k4:a.k4=b.k4:=hk 4 (by decide)
 have k5:a.k5=b.k5:=hk 5 (by decide)
 have k6:a.k6=b.k6:=hk 6 (by decide)
 have s0:a.s0=b.s0:=hs false
 have s1:a.s1=b.s1:=hs true
 have e1:Ax a c=Ax b c:=by unfold Ax;rw[hs,k6]
 have e2:A3 a=A3 b:=by unfold A3;(refine s0.symm▸?_;refine s1.symm▸?_;rfl)
 have e3:AQ a=AQ b:=by unfold AQ;(refine k4.symm▸?_;refine k5.symm▸?_;rfl)
 have e4:Ch a=Ch b:=by unfold Ch;(refine k3.symm▸?_;refine k5.symm▸?_;rfl)
 have e5:∀sq d,B4 G a sq d=B4 G b sq d:=fun sq d=>by unfold B4 ID;rw[hs,k1,k2,k6]
 unfold Bo Bq Cc
 rw[e1,e2,e3,e4,e5,hs]
structure Pos(G:l8)(st:St):Prop where
 C:mG G st
 oS:∀c,∃x,EQ G st c x
 safe:Bo G st (!st.side)=false
 hist:st.hist=[]
theorem Pos.king{G:l8}{st:St}(GS:G.l7)(P:Pos G st)(c:Bool):0<=Ax st c/\Ax st c<G.size:=by
 obtain⟨x,K⟩:=P.oS c
 rw[GI GS P.C K]
 exact⟨K.x0,K.x1⟩
theorem Nr{G:l8}{st:St}{s:Int}(C:mG G st)(h1:1<=kd)(h6:kd<6)(s0:0<=s)(s1:s<G.size)(he:AB st.board s.toNat=0)(K:EQ G st d x):EQ G (Bu m st c kd s) d x:=by
 refine⟨K.x0,K.x1,fun k=>?_⟩
 rw[ED C h1 (by exact HC h6) s0 s1]
 split
 ·rename_i e
  constructor
  ·intro z;have:=(M2 z (by exact HC h6) (by decide)).2;lia
  ·intro z
   have:=(K.it k).mpr z
   rw[<- e,he]at this
   exact absurd this.symm (Eo d (by decide))
 ·exact K.it k
theorem Pos.put{G:l8}{st:St}{s:Int}(P:Pos G st)(h1:1<=kd)(h6:kd<6)(s0:0<=s)(s1:s<G.size)(he:AB st.board s.toNat=0)(ok:Bo G (Bu m st c kd s) (!st.side)=false):Pos G (Bu m st c kd s):=by
 refine⟨P.C.put h1 (by exact HC h6) s0 s1 he,fun d=>?_,?_,?_⟩
 ·obtain⟨x,K⟩:=P.oS d
  exact⟨x,Nr P.C h1 h6 s0 s1 he K⟩
 ·refine((BN m st c kd s).side).symm▸?_;exact ok
 ·exact((BN m st c kd s).hist).trans (P.hist)
theorem Pos.back{G:l8}{st:St}{s:Int}(P:Pos G st)(h1:1<=kd)(h6:kd<6)(s0:0<=s)(s1:s<G.size)(he:AB st.board s.toNat=0):Pos G (BZ m (Bu m st c kd s) c kd s):=by
 have C1:=P.C.put (m:=m) (c:=c) h1 (by exact HC h6) s0 s1 he
 have uf:AB (Bu m st c kd s).board s.toNat=pc c kd:=by(rewrite[ED P.C h1 (by exact HC h6) s0 s1];refine(iJ rfl).symm▸?_;rfl)
 have C2:=C1.take (m:=m) h1 (by exact HC h6) s0 s1 uf
 have R:=(Ci m (Bu m st c kd s) c kd s).trans (BN m st c kd s)
 have eb:(BZ m (Bu m st c kd s) c kd s).board=st.board:=by
  refine Wb (by have:=C2.len;have:=P.C.len;lia) fun j=>?_
  rw[EH C1 h1 (by exact HC h6) s0 s1,ED P.C h1 (by exact HC h6) s0 s1]
  split
  ·rename_i e;(refine e▸?_;refine he.symm▸?_;rfl)
  ·rfl
 have u1:=(C2.uniq P.C eb).1;have u2:=(C2.uniq P.C eb).2
 refine⟨C2,fun d=>?_,?_,R.hist.trans P.hist⟩
 ·obtain⟨x,K⟩:=P.oS d
  exact⟨x,K.x0,K.x1,fun k=>by refine eb.symm▸?_;exact K.it k⟩
 ·(refine R.side.symm▸?_;rewrite[Mz u1 u2]);exact P.safe
noncomputable def mx(i j:Int):Int:=if i<j then j else i
noncomputable def F5(z s:Int):Bool:=decide (1<mx ((s.fmod 4 - z.fmod 4).natAbs:Int) ((s.fdiv 4 - z.fdiv 4).natAbs:Int))
noncomputable def G0(size:Int):List Int:=(List.range size.toNat).map fun(i:Nat)=>(i:Int)
theorem OE:∀(j:Nat) (a:Int),Ct j a 1=(List.range j).map fun(i:Nat)=>V.int (a+i)
 |0,a=>rfl
 |j+1,a=>by
  rw[List.range_succ_eq_map,iZ,List.map_map]
  show V.int a :: Ct j (a+1) 1=_
  rw[OE j (a+1)]
  congr 1
  ·rw[show a+((0:Nat):Int)=a by exact hZ (fq) (fp)]
  ·refine lW fun i _=>?_
   show V.int (a+1+i)=V.int (a+((i+1:Nat):Int))
   congr 1;exact hZ (fk) (fo)
theorem Tg{size:Int}(h:0<=size):Cs 0 size 1=size.toNat:=by
 unfold Cs
 rw[iJ (by decide)]
 split
 ·rw[Int.ediv_one];lia
 ·lia
theorem LC(h:0<=size):Ct (Cs 0 size 1) 0 1=(G0 size).map V.int:=by
 rw[Tg h,OE]
 unfold G0
 rw[List.map_map]
 refine lW fun i _=>?_
 show V.int (0+(i:Int))=V.int i
 rw[j9]
theorem Om(h:y∈G0 size):0<=y/\y<size:=by
 unfold G0 at h
 obtain⟨i,hi,e⟩:=List.mem_map.mp h
 have:=List.mem_range.mp hi
 lia
section
variable{S:List Int}{k:Int}{m:Nat}{G:l8}{st:St}{g:MH}{n:Nat}{hd:Bool}{X:As}{μ:MH}
noncomputable def apC:ME:=.cmp (.blt 2 (.cons (.blt 1 (.cons (.bin .Sub (.bin .Mod (.lX 282) (.int 4)) (.bin .Mod (.lX 284) (.int 4))) .nil)) (.cons (.blt 1 (.cons (.bin .Sub (.bin .FloorDiv (.lX 282) (.int 4)) (.bin .FloorDiv (.lX 284) (.int 4))) .nil)) .nil))) .Gt (.int 1)
theorem WA{K:MH->Prop}(a:env 284=some (.int z)):∀(L:List Int) (items:List V) (xs:List Int),items=L.map V.int->xs.length+L.length<90000->
  K (B S k m G st++(g++[il (xs++L.filter (F5 z))]))->
  Dq none (g.length+61) (fun v K μ'=>opt (AC [282] true v (AG [282] env)) fun e=>wt lY (Ak lY prog n false) e apC K (fun _ _=>False) μ')
   (fun v K μ'=>opt (AC [282] true v (AG [282] env)) fun e=>we lY (Ak lY prog n false) e (.lX 282) K (fun _ _=>False) μ') items K (B S k m G st++(g++[il xs])):=by
 intro L
 induction L with
 |nil=>
  intro items xs e _ h
  subst e
  rw[kZ,gE]at h
  exact h
 |cons s L ih=>
  intro items xs e hl h
  subst e
  rw[gR]at hl
  refine Ab a ?_
  refine Ab a ?_
  refine Ap (fun e=>?_) fun e=>?_
  ·have e:F5 z s=true:=e
   rw[je e]at h
   have hj:(g++[il xs])[g.length]?=some (il xs):=gw
   refine Ab (Dz hj) ?_
   refine Aj (room (by exact fu hl)) ?_
   rw[Fh,g9 _ _ (gF _),iC]
   refine ih _ (xs++[s]) rfl (by rw[gy];show _+1+_<_;exact S8 hl) ?_
   rw[gv]
   exact h
  ·have e:F5 z s=false:=e
   rw[jf (by rw[e];exact iN)]at h
   exact ih _ xs rfl (by exact YG hl) h
end
structure qs(G:l8)(env:An):Prop where
 j:env 278=some (.lX 1)
 p:env 102=some (.lX 54)
 s:env 63=some (.int G.size)
 r:env 49=some (.int G.ranks)
theorem qs.set(E:qs G env)(h1:y≠278/\y≠102/\y≠63/\y≠49)(w:V):qs G (Ad env y w):=by
 have q:∀x,x≠y->Ad env y w x=env x:=fun x h=>iI h
 exact⟨(q _ h1.1.symm).trans E.j,(q _ h1.2.1.symm).trans E.p,(q _ h1.2.2.1.symm).trans E.s,(q _ h1.2.2.2.symm).trans E.r⟩
section
variable{S:List Int}{k:Int}{m:Nat}{G:l8}{st:St}{g:MH}{n:Nat}{hd:Bool}{X:As}{μ:MH}
theorem Bw{Q:Ae}(hn:1<=n)(k0:0<=k)(k1:k<900)(hm:0<many)(h:∀d,0<=d->d<many->Q (.int d) (B S (k+1) m G st++g)):CG n hd 280 [.lX 1,.int many] Q X (B S k m G st++g):=TT hn k0 k1 hm h
noncomputable def qY:MS:=fb (mS 9 Av)
theorem fN{Q:Au}{env:An}{c:Bool}{kd:Nat}{s:Int}(hn:6<=n)(GC:Cj G m)(P:Pos G st)(E:qs G env)(h1:1<=kd)(h6:kd<6)(s0:0<=s)(s1:s<G.size)(he:AB st.board s.toNat=0)(e1:env 1=some (.int kd))(e2:env 0=some (.int (sd c)))(e3:env 282=some (.int s))
  (h:∀m9,Pos G m9->Q .next env (B S k m G m9++g)):ws lY (Ak lY prog n) false (AT 4 qY) Q X env (B S k m G st++g):=by
 have tq:=gM s1 GC.S.top
 have C1:=P.C.put (m:=m) (c:=c) h1 (by exact HC h6) s0 s1 he
 have px:=(BN m st c kd s).side
 obtain⟨x,K⟩:=P.oS (!st.side)
 have K1:=Nr (m:=m) (c:=c) P.C h1 h6 s0 s1 he K
 have q:=GI GC.S C1 K1
 have uf:AB (Bu m st c kd s).board s.toNat=pc c kd:=by rw[ED P.C h1 (by exact HC h6) s0 s1,iJ rfl]
 have hb:(Bu m st c kd s).board[s.toNat]?=some (pc c kd):=by refine uf▸?_;exact Cu (A4 C1 s0 s1)
 have hp:=P.put (m:=m) (c:=c) h1 h6 s0 s1 he
 have hk:=P.back (m:=m) (c:=c) h1 h6 s0 s1 he
 have K0:=K1.x0
 have K2:=K1.x1
 rw[<- q]at K0 K2
 refine Ab E.p ?_
 refine Ab e2 ?_
 refine Ab e1 ?_
 refine Jp (gB (by decide) hn) ?_
 refine Ab e3 ?_
 refine K9 (gB (by decide) hn) (by exact HC h6) s0 tq s1 P.C.len GC.hm ?_
 revert C1 px hb hp hk K0 K2
 generalize Bu m st c kd s=st2
 intro C1 px hb hp hk K0 K2
 refine Ab E.p ?_
 refine Ab E.p ?_
 conv=>whnf
 rw[Gd,px]
 refine K7 (gB (by decide) hn) GC.S C1.low K0 K2 ?_
 refine Ap (fun e=>?_) fun e=>?_
 ·conv=>whnf
  refine Ab E.p ?_
  refine Ab e3 ?_
  refine Mc (gB (by decide) hn) (by exact HC h6) s0 tq s1 C1.len GC.hm hb ?_
  exact h _ hk
 ·exact h _ (hp e)
theorem Zn{Q:Au}(hn:6<=n)(GC:Cj G m)(items:List V):∀(k:Int) (st:St) (g:MH) (env:An),0<=k->k+3*items.length<800->Pos G st->qs G env->
  (∀k' m9 g' env',0<=k'->k'<=k+3*items.length->Pos G m9->qs G env'->Q .next env' (B S k' m G m9++g'))->
  Bz none (fun v K env' μ'=>opt (AC [281] true v env') fun e=>ws lY (Ak lY prog n) false qY K X e μ') items Q env (B S k m G st++g):=by
 induction items with
 |nil=>
  intro k st g env k0 k1 P E h
  exact h k st g env k0 (by simp) P E
 |cons it items ih=>
  intro k st g env k0 k1 P E h
  have kk:k+1+1+1+3*(items.length:Int)<800:=by exact mJ (mU _ _) (.add (.add (.add (.add (.add (.var 0) (.num 1)) (.num 1)) (.num 1)) (.mulL 3 (.var 1))) (.num 1)) (.num 800) (.add (.add (.var 0) (.mulL 3 (.add (.var 1) (.num 1)))) (.num 1)) (.num 800) rfl k1
  have step:∀m9 g' env',Pos G m9->qs G env'->Bz none (fun v K env' μ'=>opt (AC [281] true v env') fun e=>ws lY (Ak lY prog n) false qY K X e μ') items Q env' (B S (k+1+1+1) m G m9++g'):=fun m9 g' env' P' E'=>
   ih (k+1+1+1) m9 g' env' (by exact cv k0) kk P' E' fun k' st2 g2 mR a b=>h k' st2 g2 mR a (by exact mJ (nC _ _ _) mh (.add mQ (.mulL 3 (mm 2 1))) mh (.add (.add (.add (mm 1 1) (.num 1)) (.num 1)) (.mulL 3 oI)) rfl b)
  have E0:=E.set (y:=281) (by decide) it
  refine Ab E.j ?_
  refine Bw (g:=g++[il [4,3,2,1,1]]) (many:=5) (gB (by decide) hn) k0 (by exact sC (mU _ _) (.add (.var 0) (.num 1)) (.num 900) (.add (.add (.add (.add (.add (.var 0) (.num 1)) (.num 1)) (.num 1)) (.mulL 3 (.var 1))) (.num 1)) (.num 800) (.num 0) (.var 1) (.num 0) (.var 1) (.num 0) (.var 1) rfl kk (gP _) (gP _) (gP _)) (by decide) ?_
  intro d d0 d1
  have hl:(g++[il [4,3,2,1,1]])[g.length]?=some (il [4,3,2,1,1]):=gw
  refine AO (A5 hl) d0 d1 ?_
  obtain⟨kd,u4,k6',ek⟩:∃kd:Nat,1<=kd/\kd<6/\[4,3,2,1,1].getD d.toNat 0=(kd:Int):=by
   rcases(by lia:d=0\/d=1\/d=2\/d=3\/d=4)with e|e|e|e|e<;>subst e
   ·exact⟨4,by decide,by decide,rfl⟩
   ·exact⟨3,by decide,by decide,rfl⟩
   ·exact⟨2,by decide,by decide,rfl⟩
   ·exact⟨1,by decide,by decide,rfl⟩
   ·exact⟨1,by decide,by decide,rfl⟩
  refine ek.symm▸?_
  refine Ab E.j ?_
  refine Bw (many:=3) (gB (by decide) hn) (by exact OA k0) (by exact sC (mU _ _) (.add (.add (.var 0) (.num 1)) (.num 1)) (.num 900) (.add (.add (.add (.add (.add (.var 0) (.num 1)) (.num 1)) (.num 1)) (.mulL 3 (.var 1))) (.num 1)) (.num 800) (.num 0) (.var 1) (.num 0) (.var 1) (.num 0) (.var 1) rfl kk (gP _) (gP _) (gP _)) (by decide) ?_
  intro d2 d20 d21
  have rest:∀c:Bool,ws lY (Ak lY prog n) false (AT 2 qY) (fun fl env' μ'=>match fl with|.ret w=>Q (.ret w) env' μ'|_=>Bz none (fun v K env' μ'=>opt (AC [281] true v env') fun e=>ws lY (Ak lY prog n) false qY K X e μ') items Q env' μ') X (Ad (Ad (Ad env 281 it) 1 (.int kd)) 0 (.int (sd c))) (B S (k+1+1) m G st++(g++[il [4,3,2,1,1]])):=by
   intro c
   have E1:=(E0.set (y:=1) (by decide) (.int kd)).set (y:=0) (by decide) (.int (sd c))
   refine Ab E.j ?_
   refine Ab E.s ?_
   refine Bw (many:=G.size) (gB (by decide) hn) (by exact cw k0) (by exact sC (mU _ _) (.add (.add (.add (.var 0) (.num 1)) (.num 1)) (.num 1)) (.num 900) (.add (.add (.add (.add (.add (.var 0) (.num 1)) (.num 1)) (.num 1)) (.mulL 3 (.var 1))) (.num 1)) (.num 800) (.num 0) (.var 1) (.num 0) (.var 1) (.num 0) (.var 1) rfl kk (gP _) (gP _) (gP _)) (by have:=(P.king GC.S true);lia) ?_
   intro s s0 s1
   have hb:=Cu (A4 P.C s0 s1)
   have E2:=E1.set (y:=282) (by decide) (.int s)
   have cont:=step st (g++[il [4,3,2,1,1]]) _ P E2
   have go:AB st.board s.toNat=0->ws lY (Ak lY prog n) false (AT 4 qY) (fun fl env' μ'=>match fl with|.ret w=>Q (.ret w) env' μ'|_=>Bz none (fun v K env' μ'=>opt (AC [281] true v env') fun e=>ws lY (Ak lY prog n) false qY K X e μ') items Q env' μ') X (Ad (Ad (Ad (Ad env 281 it) 1 (.int kd)) 0 (.int (sd c))) 282 (.int s)) (B S (k+1+1+1) m G st++(g++[il [4,3,2,1,1]])):=fun he=>
    fN hn GC P E2 u4 k6' s0 s1 he rfl rfl rfl fun m9 P'=>step m9 _ _ P' E2
   refine Ab E.p ?_
   refine B1 s0 hb ?_
   refine Ap (fun e=>?_) fun e=>?_
   ·exact cont
   ·have he:AB st.board s.toNat=0:=by
     simpa using e
    refine Ap (fun e=>?_) fun e=>?_
    ·conv=>whnf
     refine Ab E.r ?_
     refine Ap (fun e=>?_) fun e=>?_
     ·exact cont
     ·exact go he
    ·exact go he
  refine Ap (fun e=>?_) fun e=>?_
  ·conv=>whnf
   refine Ab E.p ?_
   exact rest st.side
  ·conv=>whnf
   refine Ab E.p ?_
   conv=>whnf
   rw[Gd]
   exact rest (!st.side)
end
structure R4(G:l8):Prop where
 far:∀z y,0<=z->z<G.size->0<=y->y<G.size->F5 z y=true->tb (Cv G.king y) z.toNat=false
 py:∀z,0<=z->z<G.size->0<((G0 G.size).filter (F5 z)).length
theorem aX(h:F5 z z=true):False:=by
 unfold F5 mx at h
 rw[lE,lE]at h
 exact Dd h
noncomputable def Fl(m:Nat)(c:Bool):St:={tW m with side:=c}
theorem Er(m:Nat)(c:Bool)(k:Nat):AB (Fl m c).board k=0:=by
 show(List.replicate m (0:Int)).getD k 0=0
 rw[gV,List.getElem?_replicate]
 split<;>rfl
theorem DS(k:Nat):tb 0 k=false:=by show(0:Nat).testBit k=false;exact Nat.zero_testBit k
theorem HF{G:l8}{m:Nat}(hm:(m:Int)=G.size)(c:Bool):mG G (Fl m c):=by
 refine⟨?_,fun k=>.inl (Er m c k),fun kd h1 h7 k=>?_,fun d k=>?_,rfl⟩
 ·show((List.replicate m (0:Int)).length:Int)=_
  refine List.length_replicate.symm▸?_;exact hm
 ·rw[Er]
  rcases(by lia:kd=1\/kd=2\/kd=3\/kd=4\/kd=5\/kd=6)with rfl|rfl|rfl|rfl|rfl|rfl<;>exact DS k
 ·rw[Er]
  induction d<;>exact DS k
theorem R2(h:∀k,tb x k=false):x=0:=Gi fun k=>by rw[h,DS]
noncomputable def Di(m:Nat)(c:Bool)(z y:Int):St:=Bu m (Bu m (Fl m c) c 6 z) (!c) 6 y
theorem Wp{z y:Int}(a:0<=z)(b:0<=y)(h:z.toNat=y.toNat):z=y:=by rw[<- gX a,h,gX b]
theorem bg{y:Int}(h:0<=y)(e:y.toNat=k):(k:Int)=y:=e▸gX h
theorem bf{y:Int}{k:Nat}(h:(k:Int)=y)(e:¬y.toNat=k):False:=e (h▸rfl)
theorem Zp{G:l8}(GC:Cj G m)(GK:R4 G)(z0:0<=z)(z1:z<G.size)(y0:0<=y)(y1:y<G.size)(hf:F5 z y=true):Pos G (Di m c z y):=by
 have C0:=HF (G:=G) GC.hm c
 have C1:=C0.put (m:=m) (c:=c) (kd:=6) (by decide) (by decide) z0 z1 (Er m c _)
 have ne:z≠y:=fun e=>aX (e▸hf)
 have a1:∀k,AB (Bu m (Fl m c) c 6 z).board k=if z.toNat=k then pc c 6 else 0:=fun k=>by
  rw[ED C0 (by decide) (by decide) z0 z1,Er]
 have C2:mG G (Di m c z y):=C1.put (m:=m) (c:=!c) (kd:=6) (by decide) (by decide) y0 y1 (by rw[a1,iI (show ¬z.toNat=y.toNat from fun w=>ne (Wp z0 y0 w))])
 have a2:∀k,AB (Di m c z y).board k=if y.toNat=k then pc (!c) 6 else if z.toNat=k then pc c 6 else 0:=fun k=>by
  show AB (Bu m _ (!c) 6 y).board k=_
  rw[ED C1 (by decide) (by decide) y0 y1,a1]
 have R:=(BN m (Bu m (Fl m c) c 6 z) (!c) 6 y).trans (BN m (Fl m c) c 6 z)
 have cc:pc c 6≠pc (!c) 6:=by induction c using Bool.casesOn<;>decide
 have Ky:EQ G (Di m c z y) (!c) y:=⟨y0,y1,fun k=>by
  rw[a2]
  split
  ·rename_i e;exact⟨fun _=>bg y0 e,fun _=>rfl⟩
  ·rename_i e
   split
   ·exact⟨fun h=>absurd h cc,fun h=>(bf h e).elim⟩
   ·exact⟨fun h=>absurd h.symm (Eo _ (by decide)),fun h=>(bf h e).elim⟩⟩
 have Kz:EQ G (Di m c z y) c z:=⟨z0,z1,fun k=>by
  rw[a2]
  split
  ·rename_i e;exact⟨fun h=>absurd h.symm cc,fun h=>(ne (h.symm.trans (bg y0 e))).elim⟩
  ·split
   ·rename_i e;exact⟨fun _=>bg z0 e,fun _=>rfl⟩
   ·rename_i e;exact⟨fun h=>absurd h.symm (Eo _ (by decide)),fun h=>(bf h e).elim⟩⟩
 have side:(Di m c z y).side=c:=R.side
 have tg:∀kd,1<=kd->kd<6->(Di m c z y).kd kd=0:=fun kd h1 h6=>R2 fun k=>by
  rw[C2.kb kd h1 (g6 h6),a2]
  have q:∀d:Bool,Of (pc d 6) kd=false:=fun d=>by rw[Cm d (by decide) (by decide)];exact gS (jO h6)
  split
  ·exact q _
  ·split
   ·exact q _
   ·rfl
 refine⟨C2,fun d=>?_,?_,R.hist⟩
 ·by_cases e:d=c
  ·subst e;exact⟨z,Kz⟩
  ·exact⟨y,by rw[show d=!c by induction d using Bool.casesOn<;>induction c using Bool.casesOn<;>simp_all];exact Ky⟩
 ·refine side.symm▸?_
  unfold Bo
  (refine(GI GC.S C2 Ky).symm▸?_;rewrite[kK])
  have b0:∀x,Am x 0=0:=fun x=>by rw[K4];exact Eb x
  have k1:(Di m c z y).k1=0:=tg 1 (by decide) (by decide)
  have k2:(Di m c z y).k2=0:=tg 2 (by decide) (by decide)
  have k3:(Di m c z y).k3=0:=tg 3 (by decide) (by decide)
  have k4:(Di m c z y).k4=0:=tg 4 (by decide) (by decide)
  have k5:(Di m c z y).k5=0:=tg 5 (by decide) (by decide)
  have step:B4 G (Di m c z y) y c=0:=R2 fun k=>by
   unfold B4 ID
   rw[k1,k2,b0,b0,Eb]
   show tb (Builtin.bitOr 0 (Builtin.bitAnd (Builtin.bitOr 0 (Builtin.bitAnd _ _)) _)) k=false
   rw[DC,Bv,DC,Bv,DS,iG,iG]
   have t:=GX C2 c (kd:=6) (by decide) (by decide) k
   have t:tb (Builtin.bitAnd ((Di m c z y).si c) (Di m c z y).k6) k=true↔AB (Di m c z y).board k=pc c 6:=t
   rw[Bv]at t
   by_cases e:AB (Di m c z y).board k=pc c 6
   ·have hk:=(Kz.it k).mp e
    have f:=GK.far z y z0 z1 y0 y1 hf
    replace f:=(show z.toNat=k from hk▸rfl)▸f
    refine f.symm▸?_;rfl
   ·rw[Bool.and_assoc]
    cases q1:tb (Di m c z y).k6 k
    ·simp
    ·cases q2:tb ((Di m c z y).si c) k
     ·simp
     ·exact absurd (t.mp (by(refine q1.symm▸?_;refine q2.symm▸?_);rfl)) e
  have s0:AQ (Di m c z y)=0:=by unfold AQ;(refine k4.symm▸?_;refine k5.symm▸?_);rfl
  have s1:Ch (Di m c z y)=0:=by unfold Ch;(refine k3.symm▸?_;refine k5.symm▸?_);rfl
  unfold Bq Cc
  (refine step.symm▸?_;refine s0.symm▸?_;refine s1.symm▸?_;rewrite[Eb])
  rfl
section
variable{S:List Int}{k:Int}{m:Nat}{G:l8}{st:St}{g:MH}{n:Nat}{hd:Bool}{X:As}{μ:MH}
theorem fM{Q:Au}(hn:6<=n)(GC:Cj G m)(GK:R4 G)(E:qs G env)(k0:0<=k)(k1:k<100)(sz:0<G.size)
  (h:∀k' m9 g' env',0<=k'->k'<=k+20->Pos G m9->Q (.ret (.lX 54)) env' (B S k' m G m9++g')):ws lY (Ak lY prog n) false (AT 4 Av) Q X env (B S k m G (tW m)++[]):=by
 have n1:1<=n:=gB (by decide) hn
 refine Ab E.j ?_
 refine Bw (many:=2) n1 k0 (by exact mJ (mo _) (mm 0 1) (.num 900) (mm 0 1) (.num 100) rfl k1) (by decide) ?_
 intro d d0 d1
 obtain⟨c,rfl⟩:∃c:Bool,d=sd c:=by
  rcases(by lia:d=0\/d=1)with e|e
  ·exact⟨false,e⟩
  ·exact⟨true,e⟩
 have go5:ws lY (Ak lY prog n) false (AT 5 Av) Q X env (B S (k+1) m G (Fl m c)++[]):=by
  refine Ab E.j ?_
  refine Ab E.s ?_
  refine Bw (many:=G.size) n1 (by exact OA k0) (by exact mJ (mo _) (.add (mm 0 1) (.num 1)) (.num 900) (mm 0 1) (.num 100) rfl k1) sz ?_
  intro z z0 z1
  have E1:=E.set (y:=284) (by decide) (.int z)
  have py:=GK.py z z0 z1
  have all:∀y∈(G0 G.size).filter (F5 z),0<=y/\y<G.size/\F5 z y=true:=fun y hy=>by
   obtain⟨a,b⟩:=List.mem_filter.mp hy
   exact⟨(Om a).1,(Om a).2,b⟩
  have len:((G0 G.size).filter (F5 z)).length<=20:=by
   refine gB (lK _ _) ?_
   unfold G0
   rw[gU,jZ]
   have:=GC.S.top
   lia
  have go7:ws lY (Ak lY prog n) false (AT 7 Av) Q X (Ad (Ad env 284 (.int z)) 283 (.lX (([]:MH).length+61))) (B S (k+1+1) m G (Fl m c)++([]++[il ((G0 G.size).filter (F5 z))])):=by
   revert py all len
   generalize(G0 G.size).filter (F5 z)=ap
   intro py all len
   have E2:=E1.set (y:=283) (by decide) (.lX (([]:MH).length+61))
   have hj:([]++[il ap]:MH)[([]:MH).length]?=some (il ap):=rfl
   refine Ab E.p ?_
   refine Ab E.p ?_
   refine Jp (kd:=6) n1 ?_
   refine K9 (st:=Fl m c) (g:=[]++[il ap]) (c:=c) (kd:=6) (gB (by decide) hn) (by decide) z0 (gM z1 GC.S.top) z1 (HF GC.hm c).len GC.hm ?_
   have C1:=(HF (G:=G) GC.hm c).put (m:=m) (c:=c) (kd:=6) (by decide) (by decide) z0 z1 (Er m c _)
   have px:=(BN m (Fl m c) c 6 z).side
   refine Ab E.p ?_
   refine Ab E.p ?_
   conv=>whnf
   rw[px,Gd]
   refine Jp (kd:=6) n1 ?_
   refine Ab E.j ?_
   refine Bw (g:=[]++[il ap]) (many:=((ap.map V.int).length:Int)) n1 (by exact cw k0) (by exact mJ (mo _) (.add (.add (mm 0 1) (.num 1)) (.num 1)) (.num 900) (mm 0 1) (.num 100) rfl k1) (by rw[gU];exact Tb (Int.ofNat_lt.mpr py)) ?_
   intro i i0 i1
   rw[gU]at i1
   refine AO (A5 hj) i0 i1 ?_
   have hy:ap.getD i.toNat 0∈ap:=by
    rw[gV,gW (by lia)]
    exact j6 _
   obtain⟨y0,y1,hf⟩:=all _ hy
   revert y0 y1 hf
   generalize ap.getD i.toNat 0=y
   intro y0 y1 hf
   have P:=Zp (c:=c) GC GK z0 z1 y0 y1 hf
   refine K9 (c:=!c) (kd:=6) (g:=[]++[il ap]) (gB (by decide) hn) (by decide) y0 (gM y1 GC.S.top) y1 C1.len GC.hm ?_
   refine Ab E.j ?_
   refine Bw (st:=Di m c z y) (g:=[]++[il ap]) (many:=3) n1 (by exact cv k0) (by exact mJ (mo _) (.add (.add (.add (mm 0 1) (.num 1)) (.num 1)) (.num 1)) (.num 900) (mm 0 1) (.num 100) rfl k1) (by decide) ?_
   intro t t0 t1
   have fin:∀items:List V,items.length<=2->Bz none (fun v K env' μ'=>opt (AC [281] true v env') fun e=>ws lY (Ak lY prog n) false qY K X e μ') items (fun fl env' μ'=>match fl with|.next=>ws lY (Ak lY prog n) false (AT 10 Av) Q X env' μ'|f=>Q f env' μ') (Ad (Ad env 284 (.int z)) 283 (.lX (([]:MH).length+61))) (B S (k+1+1+1+1) m G (Di m c z y)++([]++[il ap])):=fun items hi=>by
    refine Zn hn GC items (k+1+1+1+1) (Di m c z y) ([]++[il ap]) _ (by exact fv k0) (by exact sC (mU _ _) (.add (.add (.add (.add (.add (.add (.var 0) (.num 1)) (.num 1)) (.num 1)) (.num 1)) (.mulL 3 (.var 1))) (.num 1)) (.num 800) (.add (.var 0) (.num 1)) (.num 100) (.var 1) (.num 2) (.var 1) (.num 2) (.var 1) (.num 2) rfl k1 (Int.ofNat_le.mpr hi) (Int.ofNat_le.mpr hi) (Int.ofNat_le.mpr hi)) P E2 fun k' m9 g' env' a b P' E'=>?_
    refine Ab E'.p ?_
    exact h k' m9 g' env' a (by exact sC (nC _ _ _) (.var 1) (.add (.var 2) (.num 20)) (.var 0) (.num 2) (.var 0) (.num 2) (.var 0) (.num 2) (.var 1) (.add (.add (.add (.add (.add (.var 2) (.num 1)) (.num 1)) (.num 1)) (.num 1)) (.mulL 3 (.var 0))) rfl (Int.ofNat_le.mpr hi) (Int.ofNat_le.mpr hi) (Int.ofNat_le.mpr hi) b) P'
   rcases(by lia:t=0\/t=1\/t=2)with e|e|e
   all_goals
    subst e
    refine A0 ?_
   ·exact fin [] (by decide)
   ·exact fin [.int 0] (iY 1)
   ·exact fin [.int 0,.int (0+1)] (gF 2)
  refine Ab E.s ?_
  refine Aj (gz (by have:=GC.S.top;exact g7 (m:=100) (by lia) (by decide))) ?_
  refine WA (st:=Fl m c) (g:=[]) (env:=Ad env 284 (.int z)) (z:=z) rfl (G0 G.size) _ [] (LC GC.S.pos) (by unfold G0;rw[gU,jZ];have:=GC.S.top;show 0+_<_;lia) ?_
  exact go7
 refine Ab E.p ?_
 exact go5
end
theorem Ge{Φ:Bool->Az}{e:ME}{Q:Au}{X:As}:ws lY Φ hd (.seq (.assign x e) r) Q X env μ=we lY (Φ hd) env e (fun v μ'=>ws lY Φ hd r Q X (Ad env x v) μ') X μ:=rfl
noncomputable def Gr(l0:Bool):l8:=match l0 with|true=>G5|false=>G4
noncomputable def mr(l0:Bool):Nat:=match l0 with|true=>20|false=>16
section
variable{S:List Int}{n:Nat}{X:As}
theorem gp{Q:Au}(l0:Bool)(hn:6<=n)(GC:Cj (Gr l0) (mr l0))(GK:R4 (Gr l0))
  (h:∀k' m9 g' env',0<=k'->k'<=21->Pos (Gr l0) m9->Q (.ret (.lX 54)) env' (B S k' (mr l0) (Gr l0) m9++g')):ws lY (Ak lY prog n) false (AT 2 Av) Q X (HZ (Gr l0).ranks) [il S,.list [.lX 0,.int 1]]:=by
 obtain⟨j,rfl⟩:∃j,n=j+5:=⟨n - 5,by lia⟩
 have e2:AT 2 Av=.seq (.assign 287 (rhs (mS 2 Av))) (AT 3 Av):=rfl
 have e3:AT 3 Av=.seq (.assign 102 (rhs (mS 3 Av))) (AT 4 Av):=rfl
 rw[e2,Ge]
 cases l0 with
 |false=>
  rw[show(Gr false).ranks=4 from rfl,fH,e3,Ge,gj]
  have E:qs G4 (Ad (Ad (HZ 4) 287 (.lX 2)) 102 (.lX 54)):=⟨rfl,rfl,rfl,rfl⟩
  have z:=fM (S:=S) (k:=1) (m:=16) (G:=G4) (n:=j+5) (X:=X) (Q:=Q) hn GC GK E (by decide) (by decide) (by decide) fun k' m9 g' env' a b=>h k' m9 g' env' a b
  rw[gE]at z
  exact z
 |true=>
  rw[show(Gr true).ranks=5 from rfl,fJ,e3,Ge,gk]
  have E:qs G5 (Ad (Ad (HZ 5) 287 (.lX 2)) 102 (.lX 54)):=⟨rfl,rfl,rfl,rfl⟩
  have z:=fM (S:=S) (k:=1) (m:=20) (G:=G5) (n:=j+5) (X:=X) (Q:=Q) hn GC GK E (by decide) (by decide) (by decide) fun k' m9 g' env' a b=>h k' m9 g' env' a b
  rw[gE]at z
  exact z
theorem gn{Q:Au}(hn:1<=n)(h:∀l0,ws lY (Ak lY prog n) false r Q X (HZ (Gr l0).ranks) [il S,.list [.lX 0,.int 1]]) :
  ws lY (Ak lY prog n) false (.seq (.assign 49 (rhs (mS 0 Av))) (.seq (.assign 63 (rhs (mS 1 Av))) r)) Q X (Ad (fun _=>none) 278 (.lX 1)) [il S,.list [.lX 0,.int 0]]:=by
 refine TT (many:=2) hn (by decide) (by decide) (by decide) ?_
 intro d d0 d1
 rcases(by lia:d=0\/d=1)with e|e
 ·subst e
  exact h false
 ·subst e
  exact h true
theorem Zl:Av=.seq (.assign 49 (rhs (mS 0 Av))) (.seq (.assign 63 (rhs (mS 1 Av))) (AT 2 Av)):=rfl
theorem Zm{Q:Ae}:CG (n+1) false 289 [.lX 1] Q X μ=ws lY (Ak lY prog n) false Av (fun fl _ μ'=>match fl with|.ret v=>Q v μ'|.next=>Q .none μ'|.cont=>False) X (Ad (fun _=>none) 278 (.lX 1)) μ:=rfl
theorem WZ{Q:Ae}(hn:7<=n)(GC:∀l0,Cj (Gr l0) (mr l0))(GK:∀l0,R4 (Gr l0))
  (h:∀l0 k' m9 g',0<=k'->k'<=21->Pos (Gr l0) m9->Q (.lX 54) (B S k' (mr l0) (Gr l0) m9++g')):CG n false 289 [.lX 1] Q X [il S,.list [.lX 0,.int 0]]:=by
 induction n with
 |zero=>exact absurd hn (by decide)
 |succ n=>
  rw[Zm,Zl]
  exact gn (l6 hn rfl) fun l0=>gp l0 (l6 hn rfl) (GC l0) (GK l0) fun k' m9 g' _ a b P=>h l0 k' m9 g' a b P
end
section
variable{S:List Int}{k:Int}{m:Nat}{G:l8}{st:St}{g:MH}{n:Nat}{X:As}{μ:MH}{mk:Int->List Nat}
noncomputable def DV(st:St)(mk:Int->List Nat)(r:Nat)(g:MH):List V->List Int->Prop
 |[],[]=>True
 |y :: rs,v :: L=>(∃j,j≠r/\y=.tup [.int v,nW st mk j v]/\g[j]?=some (sl (pf st v)))/\DV st mk r g rs L
 |_,_=>False
theorem DV.ok:∀{rs:List V} {L:List Int},DV st mk r g rs L->BU st mk g rs L
 |[],[],_=>trivial
 |_ :: _,_ :: _,⟨⟨j,_,a,b⟩,h⟩=>⟨⟨j,a,b⟩,h.ok⟩
theorem DV.more(e:MH):∀{rs:List V} {L:List Int},DV st mk r g rs L->DV st mk r (g++e) rs L
 |[],[],_=>trivial
 |_ :: _,_ :: _,⟨⟨j,z,a,b⟩,h⟩=>⟨⟨j,z,a,Ac b e⟩,h.more e⟩
theorem DV.set{g:MH}(o:MO):∀{rs:List V} {L:List Int},DV st mk r g rs L->DV st mk r (g.set r o) rs L
 |[],[],_=>trivial
 |_ :: _,_ :: _,⟨⟨j,z,a,b⟩,h⟩=>⟨⟨j,z,a,by rw[gY (iK z)];exact b⟩,h.set o⟩
theorem DV.snoc(hy:∃j,j≠r/\y=.tup [.int v,nW st mk j v]/\g[j]?=some (sl (pf st v))):∀{rs:List V} {L:List Int},DV st mk r g rs L->DV st mk r g (rs++[y]) (L++[v])
 |[],[],_=>⟨hy,trivial⟩
 |_ :: _,_ :: _,⟨a,h⟩=>⟨a,h.snoc hy⟩
theorem BU.len:∀{rs:List V} {L:List Int},BU st mk g rs L->rs.length=L.length
 |[],[],_=>rfl
 |_ :: _,_ :: _,⟨_,h⟩=>congrArg (·+ 1) h.len
theorem Zo{K:MH->Prop}(hn:13<=n)(GC:Cj G m)(F:Es G m st mk)(e1:env 102=some (.lX 54))(ir:r≠i)(L:List Int):∀(_:∀v∈L,v∈Ay G st) (g:MH) (xs:List V) (D:List Int),g[i]?=some (.list XS)->g[r]?=some (.list xs)->DV st mk r g xs D->xs.length+L.length<90000->
  (∀g' rU,g'[r]?=some (.list rU)->DV st mk r g' rU (D++L)->K (B S k m G st++g'))->
  Dq (some (i+61,XS)) (r+61) (fun v K μ'=>opt (AC [19] true v (AG [19] env)) fun e=>wt lY (Ak lY prog n false) e (.bool true) K (fun _ _=>False) μ')
   (fun v K μ'=>opt (AC [19] true v (AG [19] env)) fun e=>we lY (Ak lY prog n false) e (.tup (.cons (.lX 19) (.cons (.call 301 (.cons (.lX 102) (.cons (.lX 19) .nil))) .nil))) K (fun _ _=>False) μ') (L.map .int) K (B S k m G st++g):=by
 induction L with
 |nil=>
  intro _ g xs D hi hr T _ h
  rw[gE]at h
  exact⟨hi,h g xs hr T⟩
 |cons v L ih=>
  intro hL g xs D hi hr T hl h
  replace hl:=gR▸hl
  refine⟨hi,?_⟩
  refine Ab e1 ?_
  refine W1 hn GC F (hL v gK) ?_
  intro e j sS hj
  have ls:By (B S k m G st++(g++e)) (r+61)=some xs:=FR (Ac hr e)
  refine Ab ls ?_
  refine Aj (gz (gZ (hJ _ _) (iv hl (by decide)))) ?_
  have jr:j≠r:=fun w=>by
   (rw[<- w]at hr;replace hr:=(iq sS)▸hr);exact Ao hr
  refine ih (fun v hv=>hL v (gA _ hv)) ((g++e).set r (.list (xs++[.tup [.int v,nW st mk j v]]))) (xs++[.tup [.int v,nW st mk j v]]) (D++[v]) (by refine(gY ir).symm▸?_;exact Ac hi e) (AJ (Ac hr e)) ?_ (by refine List.length_append.symm▸?_;show _+1+_<_;exact S8 hl) fun g' rU a b=>?_
  ·exact((T.more e).snoc ⟨j,jr,rfl,hj⟩).set _
  ·rw[gv]at b
   exact h g' rU a b
end
noncomputable def SG:List Nat:=[97,98,99,100,49,50,51,52,53,120,45,61,43,35,81,82,66,78,75,113,114,98,110,79,32]
theorem RV{μ:MH}{s:List Nat}{d:Int}(h0:0<=d)(h1:d<s.length):∃c,B8 μ (.str s) (.int d)=some (.str [c]):=by
 have hl:d.toNat<s.length:=by lia
 refine⟨s[d.toNat],?_⟩
 show((CU s.length d).bind fun k=>(s[k]?).map fun c=>V.str [c])=_
 unfold CU
 rw[iJ h0,iJ h1]
 show(s[d.toNat]?).map _=_
 rw[gW hl];rfl
theorem Zk(l:List (List Nat)):BE (l.map V.str)=some l:=by
 induction l with
 |nil=>rfl
 |cons a l ih=>show(BE (l.map V.str)).map _=_;rw[ih];rfl
theorem Sz(l:List (List Nat))(h:∀x∈l,x.length<=1):l.flatten.length<=l.length:=by
 induction l with
 |nil=>exact gF 0
 |cons a l ih=>
  rw[List.flatten_cons,gy,gR]
  have:=h a gK
  have:=ih fun x hx=>h x (gA _ hx)
  lia
section
variable{S:List Int}{k:Int}{m:Nat}{G:l8}{st:St}{g:MH}{n:Nat}{X:As}{μ:MH}{mk:Int->List Nat}
theorem YN{K:MH->Prop}(hn:1<=n)(e1:env 278=some (.lX 1))(items:List V):∀(k:Int) (xs:List (List Nat)),0<=k->k+items.length<800->xs.length+items.length<90000->(∀x∈xs,x.length<=1)->
  (∀k' ys,0<=k'->k'<=k+items.length->ys.length=xs.length+items.length->(∀x∈ys,x.length<=1)->K (B S k' m G st++(g++[sl ys])))->
  Dq none (g.length+61) (fun v K μ'=>opt (AC [281] true v (AG [281] env)) fun e=>wt lY (Ak lY prog n false) e (.bool true) K (fun _ _=>False) μ')
   (fun v K μ'=>opt (AC [281] true v (AG [281] env)) fun e=>we lY (Ak lY prog n false) e (.sub (.lY 310) (.call 280 (.cons (.lX 278) (.cons (.blt 0 (.cons (.lY 310) .nil)) .nil)))) K (fun _ _=>False) μ') items K (B S k m G st++(g++[sl xs])):=by
 induction items with
 |nil=>
  intro k xs k0 k1 hl hx h
  exact h k xs k0 (by simp) (by rfl) hx
 |cons it items ih=>
  intro k xs k0 k1 hl hx h
  (replace hl:=gR▸hl;replace k1:=gR▸k1;replace h:=gR▸h)
  refine Ab e1 ?_
  refine Bw (many:=25) hn k0 (by lia) (by decide) ?_
  intro d d0 d1
  obtain⟨c,hc⟩:=RV (μ:=B S (k+1) m G st++(g++[sl xs])) (s:=SG) d0 d1
  refine Af hc ?_
  have hj:(g++[sl xs])[g.length]?=some (sl xs):=gw
  refine Ab (FR hj) ?_
  refine Aj (Z2 (by exact fu hl)) ?_
  (refine VL.symm▸?_;rewrite[g9 _ _ (gF _)];rewrite[iC])
  refine ih (k+1) (xs++[[c]]) (by exact OA k0) (by exact mJ (mU _ _) (.add (.add (mm 0 1) mQ) (.num 1)) (.num 800) (.add (.add mh (mm 1 1)) (.num 1)) (.num 800) rfl k1) (by refine List.length_append.symm▸?_;show _+1+_<_;exact S8 hl) (fun x s7=>?_) fun k' ys a b c' d'=>h k' ys a (by exact e9 b) (by(refine c'.symm▸?_;refine List.length_append.symm▸?_);show _+1+_=_;exact jH (qq6) (qq5)) d'
  rcases List.mem_append.mp s7 with w|w
  ·exact hx x w
  ·refine(List.mem_singleton.mp w).symm▸?_;exact gF 1
noncomputable def lwB:MS:=fb (mS 6 Dn)
theorem X1{Q:Au}(hn:14<=n)(GC:Cj G m)(F:Es G m st mk)(ok:∀t,FV mk G st t=EB mk st (Ay G st) t)(ts:List (List Nat)):∀(g:MH) (env:An),g[tj]?=some (.list TS)->g[jt]?=some (.list rs)->BU st mk g rs (Ay G st)->env 102=some (.lX 54)->env 302=some (.lX (jt+61))->
  (∀env' e,(∀x,x≠224->env' x=env x)->Q .next env' (B S k m G st++(g++e)))->
  Bz (some (tj+61,TS)) (fun v K env' μ'=>opt (AC [224] true v env') fun e=>ws lY (Ak lY prog n) false lwB K X e μ') (ts.map .str) Q env (B S k m G st++g):=by
 induction ts with
 |nil=>
  intro g env h1 h2 T e1 e2 h
  have h:=h env [] fun _ _=>rfl
  rw[gE]at h
  exact⟨h1,h⟩
 |cons t ts ih=>
  intro g env h1 h2 T e1 e2 h
  have hl:rs.length<80000:=by rw[T.len];exact Hx
  refine⟨h1,?_⟩
  refine Ab e1 ?_
  refine WM hn GC F ?_
  intro e
  refine Ab e2 ?_
  refine WQ (gB (by decide) hn) (Ac h2 e) (T.more e) hl ?_
  intro e'
  refine(ok t).symm▸?_
  have fin:Bz (some (tj+61,TS)) (fun v K env' μ'=>opt (AC [224] true v env') fun e=>ws lY (Ak lY prog n) false lwB K X e μ') (ts.map .str) Q (Ad env 224 (.str t)) (B S k m G st++((g++e)++e')):=by
   refine ih ((g++e)++e') _ (Ac (Ac h1 e) e') (Ac (Ac h2 e) e') ((T.more e).more e') e1 e2 fun env' e2 a=>?_
   have w:((g++e)++e')++e2=g++(e++(e'++e2)):=by simp only[gv]
   have h:=h env' (e++(e'++e2)) fun x hx=>(a x hx).trans (iI hx)
   rw[<- w]at h
   exact h
  cases EB mk st (Ay G st) t with
  |none=>
   conv=>whnf
   exact fin
  |some v=>
   refine CA (by refine(show(v==v)=true from ip v).symm▸?_;rfl) ?_
   exact fin
end
theorem N4{b:List Int}(ha:μ[a]?=some (il b)):AZ μ 5 (.tup [.lX a,.int s,.int ky,.int h,.int f])=some (.tuple [.list (b.map .int),.int s,.int ky,.int h,.int f]):=by
 show((AZ μ 4 (.lX a)).bind fun x=>_:Option (List PyData)).map PyData.tuple=_
 refine(Iw (j:=3) ha).symm▸?_;rfl
theorem Xn(b:List Int)(s ky h f:Int):PyData.eqv (.tuple [.list (b.map .int),.int s,.int ky,.int h,.int f]) (.tuple [.list (b.map .int),.int s,.int ky,.int h,.int f])=true:=by
 simp[PyData.eqv,PyData.eqvAll]
 have:=Un b
 simp[PyData.eqv]at this
 exact this
theorem aT(ha:μ[a]?=some (il b))(hc:μ[c]?=some (il b)):JB μ .Eq (.tup [.lX a,.int s,.int ky,.int h,.int f]) (.tup [.lX c,.int s,.int ky,.int h,.int f])=some true:=by
 show((AZ μ 5 _).bind fun x=>(AZ μ 5 _).map fun y=>PyData.eqv x y)=_
 (refine(N4 ha).symm▸?_;refine(N4 hc).symm▸?_;refine(Xn b s ky h f)▸?_);rfl
theorem Xc{α:Type}(l:List α):cut l 0 l.length=l:=by unfold cut;rw[List.take_length];rfl
section
variable{S:List Int}{k:Int}{m:Nat}{G:l8}{st:St}{g:MH}{n:Nat}{X:As}{μ:MH}{mk:Int->List Nat}
theorem eG{Q:Au}(hc:g[cj]?=some (il st.board))(hh:st.hist=[])(e1:env 102=some (.lX 54))(e2:env 308=some (.tup [.lX (cj+61),.int (sd st.side),.int st.key,.int st.half,.int st.full]))(h:∀μ',Q (.ret (.bool true)) env μ'):ws lY (Ak lY prog n) false (AT 7 Dn) Q X env (B S k m G st++g):=by
 refine Ab e1 ?_
 refine Ab e1 ?_
 refine Ab e1 ?_
 refine Ab e1 ?_
 refine Ab e1 ?_
 refine Ab e2 ?_
 refine Ab (aT (b:=st.board) rfl hc) ?_
 refine Ab e1 ?_
 have q1:(B S k m G st++g++[il []])[60]?=some (il []):=by
  show some (MO.list st.hist)=_
  refine hh.symm▸?_;rfl
 have q2:(B S k m G st++g++[il []])[(B S k m G st++g).length]?=some (il []):=gw
 refine Ab (PH q1 q2) ?_
 exact h _
theorem eF{Q:Au}(hn:14<=n)(GC:Cj G m)(F:Es G m st mk)(hh:st.hist=[])(ok:∀t,FV mk G st t=EB mk st (Ay G st) t)(h1:g[tj]?=some (sl ts))(h2:g[jt]?=some (.list rs))(T:BU st mk g rs (Ay G st))(e1:env 102=some (.lX 54))(e2:env 302=some (.lX (jt+61)))(e3:env 309=some (.lX (tj+61)))
  (h:∀env' μ',Q (.ret (.bool true)) env' μ'):ws lY (Ak lY prog n) false (AT 5 Dn) Q X env (B S k m G st++g):=by
 refine Ab e1 ?_
 refine Ab e1 ?_
 refine Ab e1 ?_
 refine Ab e1 ?_
 refine Ab e1 ?_
 refine Ab e3 ?_
 refine(show cut (st.board.map V.int) 0 (st.board.map V.int).length=st.board.map V.int from Xc _).symm▸?_
 have hb:(g++[il st.board])[g.length]?=some (il st.board):=gw
 refine Ab (Ln (S:=S) (k:=k) (m:=m) (G:=G) (st:=st) (Ac h1 [il st.board])) ?_
 refine A0 ?_
 refine X1 (tj:=tj) (jt:=jt) (TS:=ts.map .str) hn GC F ok ts (g++[il st.board]) (Ad env 308 (.tup [.lX (g.length+61),.int (sd st.side),.int st.key,.int st.half,.int st.full])) (Ac h1 _) (Ac h2 _) (T.more _) e1 e2 fun env' e a=>?_
 refine eG (cj:=g.length) (Ac hb e) hh ((a 102 (by decide)).trans e1) ((a 308 (by decide)).trans rfl) fun μ'=>h env' μ'
end
theorem MP(s:Int):(mZ s).length=2:=rfl
theorem Um(p:Int):(FJ p).length<=2:=by unfold FJ;cases p==0;exact gF 2;exact ie _
theorem dC(v:Int):(wF v).length<=20:=by
 unfold wF EO
 cases Ah v==0 with
 |true=>show 2+2+0<=20;decide
 |false=>show 2+2+1<=20;decide
theorem Xf(v:Int):(oM v).length<=20:=by
 unfold oM PC
 rw[gy]
 cases Ah v==0 with
 |true=>show 2+2+0<=20;decide
 |false=>show 2+2+(pL (Ah v).toNat).length<=20;have:=Q7 (Ah v).toNat;lia
theorem XU(st:St)(v:Int):(n8 st v).length<=20:=by
 unfold n8 Dc
 rw[gy,gy,gy,gy,MP,MP]
 have a:=GH (ou st v).toNat
 have b:(BC (mY st v) [45]).length<=2:=Fw (mY st v) [45]
 have c:=Um (Ah v)
 lia
theorem WE(st:St)(v:Int):∀b∈pf st v,b.length<=20:=fun b hb=>by
 obtain⟨o,ho,hb⟩:=List.mem_flatMap.mp hb
 obtain⟨e,he,rfl⟩:=List.mem_map.mp hb
 have h1:=(Ow _ _ _).1 o ho
 have h2:=(N6 _).1 e he
 unfold EY
 (refine List.length_append.symm▸?_;refine List.length_append.symm▸?_;refine List.length_append.symm▸?_;refine List.length_append.symm▸?_;rewrite[MP])
 have a:=GH (ou st v).toNat
 have b:(BC (mY st v) []).length<=1:=Fw (mY st v) []
 lia
theorem WF(st:St)(v:Int):0<(pf st v).length:=by
 unfold pf DK
 rw[List.length_flatMap]
 unfold EM Cl
 cases((ou st v).toNat==1)&&mY st v<;>cases Ah v==0<;>simp
theorem U6(G:l8)(s:St):(JV G s).length<=1:=by
 unfold JV V5
 cases Bo G s s.side with
 |false=>exact ie _
 |true=>cases(oB G s).any (Bs G s (C9 G s s.side))<;>exact gF 1
theorem QC{μ:MH}{a:Nat}{l:List (List Nat)}{d:Int}(h:μ[a]?=some (sl l))(h0:0<=d)(h1:d<l.length):∃t∈l,B8 μ (.lX a) (.int d)=some (.str t):=by
 have hl:d.toNat<l.length:=by lia
 refine⟨l[d.toNat],j6 _,?_⟩
 refine Nh h h0 (by rw[gU];exact h1) ?_
 rw[kP,gW hl];rfl
theorem fO(h:μ[a]?=some (sl (x :: l))):B8 μ (.lX a) (.int 0)=some (.str x):=HH h
section
variable{S:List Int}{k:Int}{m:Nat}{G:l8}{st:St}{g:MH}{n:Nat}{X:As}{μ:MH}{mk:Int->List Nat}
theorem Sv(μ:MH)(j:Nat)(l:List (List Nat)):(l.map V.str).mapM (AZ μ j)=some (l.map fun s=>PyData.str (sx s)):=by
 induction l with
 |nil=>rfl
 |cons a l ih=>(rewrite[iZ];rewrite[jc];refine ih.symm▸?_);induction j using Nat.casesOn<;>rfl
theorem Lf{xs:List V}(h:μ[a]?=some (.list xs)):AZ μ (j+1) (.lX a)=(xs.mapM (AZ μ j)).map PyData.list:=by
 show((By μ a).bind fun xs=>(xs.mapM (AZ μ j)).map PyData.list)=_
 rw[CO h];rfl
theorem Ud(h:(B S k m G st++g)[j+61]?=some (sl (pf st v))):∃d,AZ (B S k m G st++g) 4 (.tup [.int v,nW st mk j v])=some d:=by
 have e:AZ (B S k m G st++g) 2 (.lX (j+61))=some (.list ((pf st v).map fun s=>PyData.str (sx s))):=by
  rw[Lf (j:=1) h,Sv];rfl
 refine⟨.tuple [.int v,.tuple [.str (sx (wF v)),.list ((pf st v).map fun s=>PyData.str (sx s)),.str (sx (n8 st v)),.str (sx (oM v)),.str (sx (mk v))]],?_⟩
 have e2:AZ (B S k m G st++g) 3 (nW st mk j v)=some (.tuple [.str (sx (wF v)),.list ((pf st v).map fun s=>PyData.str (sx s)),.str (sx (n8 st v)),.str (sx (oM v)),.str (sx (mk v))]):=by
  show([V.str (wF v),.lX (j+61),.str (n8 st v),.str (oM v),.str (mk v)].mapM (AZ (B S k m G st++g) 2)).map PyData.tuple=_
  rw[jc,jc,e];rfl
 show([V.int v,nW st mk j v].mapM (AZ (B S k m G st++g) 3)).map PyData.tuple=_
 rw[jc,jc,e2];rfl
theorem Su{rs:List V}:∀{L:List Int},BU st mk g rs L->∃ds,rs.mapM (AZ (B S k m G st++g) 4)=some ds/\ds.length=rs.length:=by
 induction rs with
 |nil=>exact fun _=>⟨[],rfl,rfl⟩
 |cons r rs ih=>
  intro L T
  induction L using List.casesOn with
  |nil=>exact T.elim
  |cons _ L=>
   obtain⟨⟨j,rfl,hj⟩,T⟩:=T
   obtain⟨d,hd⟩:=Ud (mk:=mk) (S:=S) (k:=k) (m:=m) (G:=G) (g:=g) hj
   obtain⟨ds,h1,h2⟩:=ih T
   exact⟨d :: ds,by rw[jc,hd,h1];rfl,congrArg (·+ 1) h2⟩
theorem Ve{rs:List V}(h:g[jt]?=some (.list rs))(T:BU st mk g rs L):JB (B S k m G st++(g++[il []])) .NotEq (.lX (jt+61)) (.lX (g.length+61))=some (!rs.isEmpty):=by
 obtain⟨ds,h1,h2⟩:=Su (S:=S) (k:=k) (m:=m) (G:=G) (T.more [il []])
 have q1:(B S k m G st++(g++[il []]))[jt+61]?=some (.list rs):=(Ac h [il []]:(g++[il []])[jt]?=_)
 have q2:(B S k m G st++(g++[il []]))[g.length+61]?=some (il []):=(gw:(g++[il []])[g.length]?=_)
 have d1:AZ (B S k m G st++(g++[il []])) 5 (.lX (jt+61))=some (.list ds):=by
  rw[Lf (j:=4) q1,h1];rfl
 show((((AZ _ 5 (.lX (jt+61))).bind fun x=>(AZ _ 5 (.lX (g.length+61))).map fun y=>PyData.eqv x y)).map (!·))=_
 (refine d1.symm▸?_;refine(Iw (j:=4) q2).symm▸?_)
 show some (!PyData.eqv (.list ds) (.list []))=_
 induction ds using List.casesOn<;>induction rs using List.casesOn<;>first|rfl|cases h2
end
theorem cJ{st:St}{mk:Int->List Nat}{g:MH}{rs:List V}:∀{L:List Int} (i:Nat),BU st mk g rs L->i<rs.length->∃v j,v∈L/\rs[i]?=some (.tup [.int v,nW st mk j v])/\g[j]?=some (sl (pf st v)):=by
 induction rs with
 |nil=>exact fun _ _ h=>absurd h (Nat.not_lt_zero _)
 |cons r rs ih=>
  intro L i T h
  induction L using List.casesOn with
  |nil=>exact T.elim
  |cons v L=>
   induction i using Nat.casesOn with
   |zero=>obtain⟨⟨j,e,hj⟩,_⟩:=T;exact⟨v,j,.head _,congrArg some e,hj⟩
   |succ i=>
    obtain⟨w,j,a,b,c⟩:=ih i T.2 (kf h)
    exact⟨w,j,.tail _ a,b,c⟩
noncomputable def lb:MS:=ft (mS 4 Dn)
section
variable{S:List Int}{k:Int}{m:Nat}{G:l8}{st:St}{g:MH}{n:Nat}{X:As}{μ:MH}{mk:Int->List Nat}
theorem QL{Φ:Az}{e:ME}{Q:List V->MH->Prop}(h:we lY Φ env e (fun v μ₁=>wl lY Φ env r (fun vs μ₂=>Q (v :: vs) μ₂) X μ₁) X μ):wl lY Φ env (.cons e r) Q X μ:=h
theorem QK{Φ:Az}{Q:Ae}(h:we lY Φ env o (fun u μ₁=>we lY Φ env i (fun v μ₂=>opt (OS μ₂ u v) fun w=>Q w μ₂) X μ₁) X μ):we lY Φ env (.sub o i) Q X μ:=h
theorem RZ{Φ:Az}{Q:Ae}(h:wl lY Φ env es (fun vs μ₁=>A7 (decide (vs.length<=lim)) (Q (.lX μ₁.length) (μ₁++[.list vs]))) X μ):we lY Φ env (.list es) Q X μ:=h
theorem Ww{Φ:Az}{x y:List Nat}{Q:Ae}(ha:∀K:Ae,K (.str x) μ->we lY Φ env a K X μ)(hb:∀K:Ae,K (.str y) μ->we lY Φ env b K X μ)(hl:decide (x.length+y.length<=lim)=true)(h:Q (.str (x++y)) μ):we lY Φ env (.bin .Add a b) Q X μ:=by
 refine ha _ (hb _ ?_)
 refine Aj hl ?_
 exact h
theorem F6{Φ:Az}{Q:Ae}(e:env 303=some (.tup l))(hv:B8 μ (.tup l) (.int i)=some v)(h:Q v μ):we lY Φ env (.sub (.lX 303) (.int i)) Q X μ:=by
 refine Ab e ?_
 refine Af hv ?_
 exact h
theorem Yt{Q:Ae}{bs:List (List Nat)}(hn:1<=n)(hj:g[j]?=some (sl bs))(pos:0<bs.length)(k0:0<=k)(k1:k<700)(e1:env 303=some (.tup [.str w,.lX (j+61),.str lg,.str dg,.str mv]))(e2:env 278=some (.lX 1))
  (h:∀b∈bs,Q (.str b) (B S (k+1) m G st++g)):we lY (Ak lY prog n false) env (.sub (.sub (.lX 303) (.int 1)) (.call 280 (.cons (.lX 278) (.cons (.blt 0 (.cons (.sub (.lX 303) (.int 1)) .nil)) .nil)))) Q X (B S k m G st++g):=by
 refine QK (F6 e1 rfl ?_)
 refine Ab e2 ?_
 refine Ab e1 ?_
 refine Af rfl ?_
 refine Ab (FR hj) ?_
 refine Bw (many:=((bs.map V.str).length:Int)) hn k0 (by exact fw k1) (by rw[gU];exact Tb (Int.ofNat_lt.mpr pos)) ?_
 intro d d0 d1
 rw[gU]at d1
 have uL:(B S (k+1) m G st++g)[j+61]?=some (sl bs):=hj
 obtain⟨b,hb,sb⟩:=QC uL d0 d1
 refine Af sb ?_
 exact h b hb
theorem Xu{Q:Ae}{w lg dg mv:List Nat}{bs:List (List Nat)}(hn:1<=n)(hj:g[j]?=some (sl bs))(pos:0<bs.length)(hb:∀b∈bs,b.length<=20)(l1:w.length<=20)(l2:lg.length<=20)(l3:dg.length<=20)(ml:mv.length<=1)(k0:0<=k)(k1:k<700)(f0:0<=fm)(f1:fm<6)(e1:env 303=some (.tup [.str w,.lX (j+61),.str lg,.str dg,.str mv]))(e2:env 278=some (.lX 1))(e3:env 311=some (.int fm))
  (h:∀t e,t.length<=40->Q (.str t) (B S (k+1) m G st++(g++e))):we lY (Ak lY prog n false) env (rhs (mS 2 lb)) Q X (B S k m G st++g):=by
 obtain⟨b0,br,eb⟩:∃b0 br,bs=b0 :: br:=by
  induction bs using List.casesOn with
  |nil=>cases pos
  |cons a l=>exact⟨a,l,rfl⟩
 have uL:(B S (k+1) m G st++g)[j+61]?=some (sl bs):=hj
 have hb0:=hb b0 (by refine eb.symm▸?_;exact gK)
 refine QK (RZ (QL (F6 e1 rfl (QL (Yt hn hj pos k0 k1 e1 e2 fun b tK=>QL (F6 e1 rfl (QL (F6 e1 rfl (QL (Ww (fun K h=>F6 e1 rfl h) (fun K h=>F6 e1 rfl h) (FK l2 ml (by decide)) (QL (Ww (y:=[43]) (fun K h=>QK (F6 e1 rfl ?_)) (fun K h=>h) (FK (a:=20) (b:=1) hb0 (gF 1) (by decide)) ?_))))))))))))
 ·refine Af (fO (by exact eb▸uL)) ?_
  exact h
 ·have bl:=hb b tK
  refine Ab e3 ?_
  have hl:(B S (k+1) m G st++(g++[sl [w,b,lg,dg,lg++mv,b0++[43]]]))[g.length+61]?=some (sl [w,b,lg,dg,lg++mv,b0++[43]]):=(gw:(g++[sl [w,b,lg,dg,lg++mv,b0++[43]]])[g.length]?=_)
  obtain⟨t,ht,stt⟩:=QC hl f0 f1
  have tl:t.length<=40:=by
   have all:∀x∈[w,b,lg,dg,lg++mv,b0++[43]],x.length<=40:=by
    have nil:∀e∈([]:List (List Nat)),e.length<=40:=fun _ h=>by cases h
    refine List.forall_mem_cons.mpr ⟨gB l1 (by decide),List.forall_mem_cons.mpr ⟨gB bl (by decide),List.forall_mem_cons.mpr ⟨gB l2 (by decide),List.forall_mem_cons.mpr ⟨gB l3 (by decide),List.forall_mem_cons.mpr ⟨?_,List.forall_mem_cons.mpr ⟨?_,nil⟩⟩⟩⟩⟩⟩
    ·rw[gy];exact pe (mU _ _) (.add mj mE) (.num 40) mj (.num 20) mE (.num 1) rfl l2 ml
    ·rw[gy];show b0.length+1<=40;exact mP (mo _) (mu 0 1) (.num 40) mj (.num 20) rfl hb0
   exact all t ht
  refine Af stt ?_
  exact h t [sl [w,b,lg,dg,lg++mv,b0++[43]]] tl
end
theorem Ub(l:List Nat)(a b:Nat):(cut l a b).length<=l.length:=by unfold cut;(refine List.length_drop.symm▸?_;refine List.length_take.symm▸?_);lia
section
variable{S:List Int}{k:Int}{m:Nat}{G:l8}{st:St}{g:MH}{n:Nat}{X:As}{μ:MH}{mk:Int->List Nat}
theorem gb{Q:Au}{t:List Nat}{ts:List (List Nat)}(hn:1<=n)(hj:g[tj]?=some (sl ts))(hl:ts.length<=10)(tl:t.length<=40)(k0:0<=k)(k1:k<700)(e1:env 309=some (.lX (tj+61)))(e2:env 224=some (.str t))(e3:env 282=some (.int s))(e4:env 252=some (.str [c]))(e5:env 278=some (.lX 1))
  (h:∀u e,Q .next (Ad env 309 (.lX (tj+61))) (B S (k+1) m G st++(g.set tj (sl (ts++[t,u]))++e))):ws lY (Ak lY prog n) false (mS 5 lb) Q X env (B S k m G st++g):=by
 refine Ab e1 ?_
 refine Ab e2 ?_
 refine Ab e2 ?_
 refine Ab e3 ?_
 refine Ab e4 ?_
 refine Ab e5 ?_
 refine Bw (g:=g++[sl [[],[c]]]) (many:=2) hn k0 (by exact fw k1) (by decide) ?_
 intro d d0 d1
 have hb:(B S (k+1) m G st++(g++[sl [[],[c]]]))[g.length+61]?=some (sl [[],[c]]):=(gw:(g++[sl [[],[c]]])[g.length]?=_)
 obtain⟨x,hx,sx⟩:=QC hb d0 d1
 have xl:x.length<=1:=by
  have all:∀y∈[[],[c]],y.length<=1:=List.forall_mem_cons.mpr ⟨ie _,List.forall_mem_cons.mpr ⟨gF 1,fun _ h=>by cases h⟩⟩
  exact all x hx
 refine Af sx ?_
 refine Aj (FK (gB (Ub _ _ _) tl) xl (by decide)) ?_
 refine Ab e2 ?_
 refine Ab e3 ?_
 refine Aj (FK (a:=41) (b:=40) (by rw[gy];exact jl (gB (Ub _ _ _) tl) xl) (gB (Ub _ _ _) tl) (by decide)) ?_
 have ne:tj≠(g++[sl [[],[c]]]).length:=BY (Ac hj _)
 refine Aj (gz (show tj+61≠(g++[sl [[],[c]]]).length+61 by lia)) ?_
 refine Ab (FR (Ac (Ac hj _) _)) ?_
 have hn2:∀y,(g++[sl [[],[c]]]++[y])[(g++[sl [[],[c]]]).length]?=some y:=fun y=>gw
 refine Ab (FR (hn2 _)) ?_
 refine Aj (gz (by rw[gU];show ts.length+2<=lim;unfold lim;exact mP (mo _) (mu 0 2) (.num 1000000) mj (.num 10) rfl hl)) ?_
 have fin:∀u:List Nat,Q .next (Ad env 309 (.lX (tj+61))) ((B S (k+1) m G st++(g++[sl [[],[c]]]++[sl [t,u]])).set (tj+61) (.list (ts.map .str++[.str t,.str u]))):=fun u=>by
  have z:(B S (k+1) m G st++(g++[sl [[],[c]]]++[sl [t,u]])).set (tj+61) (.list (ts.map .str++[.str t,.str u]))=B S (k+1) m G st++(g++[sl [[],[c]]]++[sl [t,u]]).set tj (sl (ts++[t,u])):=by
   rw[show sl (ts++[t,u])=.list (ts.map V.str++[.str t,.str u]) by unfold sl;rw[kj];rfl];rfl
  rw[z,AR (Ac hj _),AR hj,gv]
  exact h u _
 exact fin _
end
section
variable{S:List Int}{k:Int}{m:Nat}{G:l8}{st:St}{g:MH}{n:Nat}{X:As}{μ:MH}{mk:Int->List Nat}
theorem sq{Φ:Bool->Az}{Q:Au}(h:ws lY Φ hd a (fun fl env' μ'=>match fl with|.next=>ws lY Φ hd b Q X env' μ'|f=>Q f env' μ') X env μ):ws lY Φ hd (.seq a b) Q X env μ:=h
theorem f5{Q:Au}(hn:1<=n)(k0:0<=k)(k1:k<500)(e3:env 278=some (.lX 1))(h:∀fm,0<=fm->fm<6->Q .next (Ad env 311 (.int fm)) (B S (k+1) m G st++g)):ws lY (Ak lY prog n) false (mS 0 lb) Q X env (B S k m G st++g):=by
 refine Ab e3 ?_
 refine Bw (many:=6) hn k0 (by exact YJ k1) (by decide) ?_
 exact h
theorem f6{Q:Au}{rs:List V}(hn:1<=n)(hi:g[jt]?=some (.list rs))(T:BU st mk g rs L)(pos:0<rs.length)(k0:0<=k)(k1:k<500)(e2:env 302=some (.lX (jt+61)))(e3:env 278=some (.lX 1))
  (h:∀v j,v∈L->g[j]?=some (sl (pf st v))->Q .next (Ad env 303 (nW st mk j v)) (B S (k+1) m G st++g)):ws lY (Ak lY prog n) false (mS 1 lb) Q X env (B S k m G st++g):=by
 refine Ab e2 ?_
 refine Ab e3 ?_
 refine Ab e2 ?_
 refine Ab (FR hi) ?_
 refine Bw (many:=(rs.length:Int)) hn (by assumption) (by exact YJ k1) (by exact Tb (Int.ofNat_lt.mpr pos)) ?_
 intro i i0 i1
 obtain⟨v,j,hv,er,uA⟩:=cJ (rs:=rs) i.toNat T (by lia)
 have hi1:(B S (k+1) m G st++g)[jt+61]?=some (.list rs):=hi
 refine Af (Nh hi1 i0 i1 er) ?_
 refine Af (v:=nW st mk j v) rfl ?_
 exact h v j hv uA
theorem f7{Q:Au}(hn:1<=n)(k0:0<=k)(k1:k<500)(e2:env 224=some (.str t))(e3:env 278=some (.lX 1))(h:∀s,Q .next (Ad env 282 (.int s)) (B S (k+1) m G st++g)):ws lY (Ak lY prog n) false (mS 3 lb) Q X env (B S k m G st++g):=by
 refine Ab e3 ?_
 refine Ab e2 ?_
 refine Bw (many:=(t.length:Int)+1) hn (by assumption) (by exact YJ k1) (by exact cr (gP _)) ?_
 intro s s0 s1
 exact h s
theorem f9{Q:Au}(hn:1<=n)(k0:0<=k)(k1:k<500)(e3:env 278=some (.lX 1))(h:∀c,Q .next (Ad env 252 (.str [c])) (B S (k+1) m G st++g)):ws lY (Ak lY prog n) false (mS 4 lb) Q X env (B S k m G st++g):=by
 refine Ab e3 ?_
 refine Bw (many:=25) hn (by assumption) (by exact YJ k1) (by decide) ?_
 intro d d0 d1
 obtain⟨c,hc⟩:=RV (μ:=B S (k+1) m G st++g) (s:=SG) d0 d1
 refine Af hc ?_
 exact h c
theorem eH{Q:Au}{ts:List (List Nat)}{rs:List V}(hn:1<=n)(hi:g[jt]?=some (.list rs))(hj:g[tj]?=some (sl ts))(ne:tj≠jt)(hl:ts.length<=10)(T:DV st mk tj g rs L)(pos:0<rs.length)(ml:∀v∈L,(mk v).length<=1)(k0:0<=k)(k1:k<400)(e1:env 309=some (.lX (tj+61)))(e2:env 302=some (.lX (jt+61)))(e3:env 278=some (.lX 1))
  (h:∀k' env' g' tw,0<=k'->env' 102=env 102->env' 302=env 302->env' 309=some (.lX (tj+61))->g'[tj]?=some (sl tw)->g'[jt]?=some (.list rs)->BU st mk g' rs L->Q .next env' (B S k' m G st++g')):ws lY (Ak lY prog n) false lb Q X env (B S k m G st++g):=by
 refine sq (f5 hn k0 (by exact mJ (mo _) (mm 0 1) (.num 500) (mm 0 1) (.num 400) rfl k1) e3 fun fm f0 f1=>?_)
 refine sq (f6 (env:=Ad env 311 (.int fm)) hn hi T.ok pos (by exact OA k0) (by exact mJ (mo _) (.add (mm 0 1) (.num 1)) (.num 500) (mm 0 1) (.num 400) rfl k1) e2 e3 fun v j hv uA=>?_)
 refine sq (Xu (k:=k+1+1) (env:=Ad (Ad env 311 (.int fm)) 303 (nW st mk j v)) (fm:=fm) hn uA (WF st v) (WE st v) (dC v) (XU st v) (Xf v) (ml v hv) (by exact cw k0) (by exact mJ (mo _) (.add (.add (mm 0 1) (.num 1)) (.num 1)) (.num 700) (mm 0 1) (.num 400) rfl k1) f0 f1 rfl e3 rfl fun t e tl=>?_)
 refine sq (f7 (k:=k+1+1+1) (env:=Ad (Ad (Ad env 311 (.int fm)) 303 (nW st mk j v)) 224 (.str t)) (t:=t) hn (by exact cv k0) (by exact mJ (mo _) (.add (.add (.add (mm 0 1) (.num 1)) (.num 1)) (.num 1)) (.num 500) (mm 0 1) (.num 400) rfl k1) rfl e3 fun s=>?_)
 refine sq (f9 (k:=k+1+1+1+1) (env:=Ad (Ad (Ad (Ad env 311 (.int fm)) 303 (nW st mk j v)) 224 (.str t)) 282 (.int s)) hn (by exact fv k0) (by exact mJ (mo _) (.add (.add (.add (.add (.add (.var 0) (.num 1)) (.num 1)) (.num 1)) (.num 1)) (.num 1)) (.num 500) (.add (.var 0) (.num 1)) (.num 400) rfl k1) e3 fun c=>?_)
 refine sq (gb (k:=k+1+1+1+1+1) (env:=Ad (Ad (Ad (Ad (Ad env 311 (.int fm)) 303 (nW st mk j v)) 224 (.str t)) 282 (.int s)) 252 (.str [c])) (t:=t) (c:=c) (s:=s) hn (Ac hj e) hl tl (by exact mJ (mo _) (.num 0) (.add (.add (.add (.add (.add (.var 0) (.num 1)) (.num 1)) (.num 1)) (.num 1)) (.num 1)) (.num 0) (.var 0) rfl k0) (by exact mJ (mo _) (.add (.add (.add (.add (.add (.add (.var 0) (.num 1)) (.num 1)) (.num 1)) (.num 1)) (.num 1)) (.num 1)) (.num 700) (.add (.var 0) (.num 1)) (.num 400) rfl k1) e1 rfl rfl rfl e3 fun u e'=>?_)
 refine h _ _ ((g++e).set tj (sl (ts++[t,u]))++e') (ts++[t,u]) (by exact mJ (mo _) (.num 0) (.add (.add (.add (.add (.add (.add (.var 0) (.num 1)) (.num 1)) (.num 1)) (.num 1)) (.num 1)) (.num 1)) (.num 0) (.var 0) rfl k0) rfl rfl rfl (Ac (AJ (Ac hj e)) e') (Ac (by refine(gY ne).symm▸?_;exact Ac hi e) e') ?_
 exact(((T.more e).set _).more e').ok
end
section
variable{S:List Int}{k:Int}{m:Nat}{G:l8}{st:St}{g:MH}{n:Nat}{X:As}{μ:MH}{mk:Int->List Nat}
theorem s_4{Q:Au}{ts:List (List Nat)}(hn:1<=n)(hi:g[jt]?=some (.list rs))(hj:g[tj]?=some (sl ts))(ne:tj≠jt)(hl:ts.length<=10)(T:DV st mk tj g rs L)(ml:∀v∈L,(mk v).length<=1)(k0:0<=k)(k1:k<400)(e1:env 309=some (.lX (tj+61)))(e2:env 302=some (.lX (jt+61)))(e3:env 278=some (.lX 1))
  (h:∀k' env' g' tw,env' 102=env 102->env' 302=env 302->env' 309=some (.lX (tj+61))->g'[tj]?=some (sl tw)->g'[jt]?=some (.list rs)->BU st mk g' rs L->Q .next env' (B S k' m G st++g')):ws lY (Ak lY prog n) false (mS 4 Dn) Q X env (B S k m G st++g):=by
 refine Ab e2 ?_
 refine Ab (Ve hi T.ok) ?_
 refine Ap (fun e=>?_) fun e=>?_
 ·have pos:0<rs.length:=by
   induction rs using List.casesOn with
   |nil=>exact Dd e
   |cons=>exact jq _
  exact eH (g:=g++[il []]) hn (Ac hi _) (Ac hj _) ne hl (T.more _) pos ml k0 k1 e1 e2 e3 fun k' env' g' tw _ a b c d e f=>h k' env' g' tw a b c d e f
 ·exact h k env (g++[il []]) ts rfl rfl e1 (Ac hj _) (Ac hi _) (T.more _).ok
theorem cI{Q:Ae}(hn:1<=n)(k0:0<=k)(k1:k<300)(e1:env 278=some (.lX 1))(h:∀k' t e,0<=k'->k'<400->Q (.str t) (B S k' m G st++(g++e))) :
  we lY (Ak lY prog n false) env (.mz (.str []) 4 (.cons (.comp (.sub (.lY 310) (.call 280 (.cons (.lX 278) (.cons (.blt 0 (.cons (.lY 310) .nil)) .nil)))) [281] true (.blt 4 (.cons (.call 280 (.cons (.lX 278) (.cons (.int 7) .nil))) .nil)) (.bool true)) .nil)) Q X (B S k m G st++g):=by
 refine Ab e1 ?_
 refine Bw (many:=7) hn k0 (by exact mJ (mo _) (mm 0 1) (.num 900) (mm 0 1) (.num 300) rfl k1) (by decide) ?_
 intro d d0 d1
 refine Aj (gz (g7 (m:=100) (by lia) (by decide))) ?_
 conv=>whnf
 have il:(Ct (Cs 0 d 1) 0 1).length<=6:=by
  rw[LC d0];unfold G0
  rw[gU,gU,jZ];lia
 refine YN (g:=g) (env:=env) hn e1 (Ct (Cs 0 d 1) 0 1) (k+1) [] (by exact OA k0) (by exact qq (mU _ _) (.add (.add (mm 0 1) mQ) (.num 1)) (.num 800) (mm 0 1) (.num 300) mQ (.num 6) rfl k1 (Int.ofNat_le.mpr il)) (by show 0+_<_;exact mP (mo _) (.add (.add (.num 0) mj) (.num 1)) (.num 90000) mj (.num 6) rfl il) (fun _ h=>by cases h) fun k' ys a b c l1=>?_
 have hj:(g++[sl ys])[g.length]?=some (sl ys):=gw
 have fl:=Sz ys l1
 have cl:ys.length<=6:=by rw[c];show 0+_<=6;exact mP (mo _) (.add (.num 0) mj) (.num 6) mj (.num 6) rfl il
 refine Ab (FR hj) ?_
 refine Ab (Zk ys) ?_
 refine Aj (gz (gB fl (gB cl (by decide)))) ?_
 exact h k' _ _ a (by lia)
end
section
variable{S:List Int}{k:Int}{m:Nat}{G:l8}{st:St}{g:MH}{n:Nat}{X:As}{μ:MH}{mk:Int->List Nat}
theorem asg{Φ:Bool->Az}{e:ME}{Q:Au}(h:we lY (Φ hd) env e (fun v μ'=>Q .next (Ad env x v) μ') X μ):ws lY Φ hd (.assign x e) Q X env μ:=h
theorem s_2{Q:Au}(hn:14<=n)(GC:Cj G m)(F:Es G m st mk)(e1:env 102=some (.lX 54))
  (h:∀g' r rs,r<g'.length->g'[r]?=some (.list rs)->DV st mk r g' rs (Ay G st)->Q .next (Ad env 302 (.lX (r+61))) (B S k m G st++g')):ws lY (Ak lY prog n) false (mS 2 Dn) Q X env (B S k m G st++g):=by
 refine Ab e1 ?_
 refine Fr (gB (by decide) hn) GC.S F.R.C.low F.R.q0 F.R.q1 GC.hr F.R.ps (B7 G st) ?_
 intro e i hi
 refine Ab (Be hi) ?_
 have hr:(g++e++[MO.list []])[(g++e).length]?=some (.list []):=gw
 refine Zo (i:=i) (r:=(g++e).length) (XS:=(Ay G st).map .int) (env:=env) (gB (by decide) hn) GC F e1 (iK (BY hi)) (Ay G st) (fun _ h=>h) (g++e++[.list []]) [] [] (Ac hi _) hr trivial (by have:=Hx (G:=G) (st:=st);show 0+_<_;exact YH this) fun g' rU a b=>?_
 have lt:(g++e).length<g'.length:=by
  rcases iW (g++e).length g'.length with c|c
  ·exact c
  ·exact AM (iq c) a
 exact h g' _ rU lt a b
theorem s_3{Q:Au}(hn:1<=n)(k0:0<=k)(k1:k<300)(e1:env 278=some (.lX 1))
  (h:∀k' t e,0<=k'->k'<400->Q .next (Ad env 309 (.lX ((g++e).length+61))) (B S k' m G st++(g++e++[sl [t]]))):ws lY (Ak lY prog n) false (mS 3 Dn) Q X env (B S k m G st++g):=
 asg (RZ (QL (cI hn k0 k1 e1 fun k' t e a b=>h k' t e a b)))
theorem DV.shift{e:MH}:∀{rs:List V} {L:List Int},DV st mk r g rs L->DV st mk (g++e).length (g++e++f) rs L
 |[],[],_=>trivial
 |_ :: _,_ :: _,⟨⟨j,_,a,b⟩,h⟩=>⟨⟨j,BY (Ac b e),a,Ac (Ac b e) f⟩,h.shift⟩
theorem eE{Q:Au}(hn:14<=n)(GC:Cj G m)(F:Es G m st mk)(hh:st.hist=[])(ml:∀v∈Ay G st,(mk v).length<=1)(ok:∀t,FV mk G st t=EB mk st (Ay G st) t)(k0:0<=k)(k1:k<300)(e1:env 102=some (.lX 54))(e3:env 278=some (.lX 1))
  (h:∀env' μ',Q (.ret (.bool true)) env' μ'):ws lY (Ak lY prog n) false (AT 2 Dn) Q X env (B S k m G st++g):=by
 have n1:1<=n:=gB (by decide) hn
 refine sq (s_2 hn GC F e1 fun g1 r rs lt hr T=>?_)
 refine sq (s_3 (env:=Ad env 302 (.lX (r+61))) n1 k0 k1 e3 fun k' t e k0' u4=>?_)
 have uU:(g1++e++[sl [t]])[r]?=some (.list rs):=Ac (Ac hr e) _
 have hj:(g1++e++[sl [t]])[(g1++e).length]?=some (sl [t]):=gw
 have T2:DV st mk (g1++e).length (g1++e++[sl [t]]) rs (Ay G st):=T.shift
 have ne:(g1++e).length≠r:=by refine List.length_append.symm▸?_;exact jO (mP (nC _ _ _) (mu 0 1) (.add mE nF) (mu 0 1) mE rfl lt)
 refine sq (s_4 (env:=Ad (Ad env 302 (.lX (r+61))) 309 (.lX ((g1++e).length+61))) (tj:=(g1++e).length) (jt:=r) (ts:=[t]) n1 uU hj ne (by show 1<=10;decide) T2 ml k0' u4 rfl rfl e3 fun k2 mR g2 ts2 a b c d e' f=>?_)
 exact eF hn GC F hh ok d e' f (a.trans e1) b c h
end
structure Zx:Prop where
 GC:∀l0,Cj (Gr l0) (mr l0)
 GK:∀l0,R4 (Gr l0)
 ok:∀l0 st,Pos (Gr l0) st->∃mk,Es (Gr l0) (mr l0) st mk/\(∀v∈Ay (Gr l0) st,(mk v).length<=1)/\∀t,FV mk (Gr l0) st t=EB mk st (Ay (Gr l0) st) t
section
variable{n:Nat}{X:As}
theorem Xd(xs:List Int)(a b:Nat):cut (xs.map V.int) a b=(cut xs a b).map V.int:=by unfold cut;rw[<- List.map_take,<- List.map_drop]
theorem s_0{Q:Au}{Φ:Bool->Az}{xs:List Int}(h:∀S,Q .next (Ad (Ad (fun _=>none) 307 (.mN (xs.map .int))) 278 (.lX 1)) [il S,.list [.lX 0,.int 0]]):ws lY Φ false (mS 0 Dn) Q X (Ad (fun _=>none) 307 (.mN (xs.map .int))) []:=by
 have h:=h (cut xs 0 (min 40 (xs.map V.int).length))
 unfold il at h
 rw[<- Xd]at h
 exact h
theorem dW{Q:Ae}{xs:List Int}(hn:15<=n)(O:Zx)(h:∀μ',Q (.bool true) μ'):CG n false 312 [.mN (xs.map .int)] Q X []:=by
 induction n with
 |zero=>exact absurd hn (by decide)
 |succ n=>
  refine sq (s_0 fun S=>?_)
  refine sq (asg ?_)
  have cl:we lY (Ak lY prog n false) (Ad (Ad (fun _=>none) 307 (.mN (xs.map .int))) 278 (.lX 1)) (rhs (mS 1 Dn)) (fun v μ'=>ws lY (Ak lY prog n) false (AT 2 Dn) (fun fl _ μ'=>match fl with|.ret v=>Q v μ'|.next=>Q .none μ'|.cont=>False) X (Ad (Ad (Ad (fun _=>none) 307 (.mN (xs.map .int))) 278 (.lX 1)) 102 v) μ') X [il S,.list [.lX 0,.int 0]]:=by
   refine WZ (show 7<=n by exact mP (mo _) (.num 7) mj (.num 15) (mu 0 1) rfl hn) O.GC O.GK fun l0 k' m9 g' k0 k1 P=>?_
   obtain⟨mk,F,ml,ok⟩:=O.ok l0 m9 P
   exact eE (lI hn) (O.GC l0) F P.hist ml ok k0 (by exact mJ (mo _) (mm 0 1) (.num 300) mh (.num 21) rfl k1) rfl rfl fun _ μ'=>h μ'
  exact cl
end
noncomputable def G2(n:Nat)(p:Nat->Bool):Bool:=(List.range n).all p
theorem CM{p:Nat->Bool}(h:G2 n p=true)(hi:i<n):p i=true:=List.all_eq_true.mp h i (List.mem_range.mpr hi)
theorem PQ{p:Nat->Bool}{s x:Int}(h:G2 s.toNat p=true)(x0:0<=x)(x1:x<s):p x.toNat=true:=CM h (by lia)
noncomputable def XZ(n:Nat)(l:List Int):Bool:=l.all fun x=>decide (0<=x)&&decide (x<2 ^ n)
theorem IA{G:l8}(h:XZ G.size.toNat l=true)(i:Int):Bd G (Cv l i):=by
 unfold Cv
 refine List.getD_eq_getElem?_getD.symm▸?_
 cases e:l[i.toNat]? with
 |none=>exact⟨iy 0,jD (by decide)⟩
 |some x=>
  have:=List.all_eq_true.mp h x (jn e)
  simp only[gI,hG]at this
  exact this
theorem M7{G:l8}{p:List Int->Bool}(h:([G.r0,G.r1,G.r2,G.r3,G.r4,G.r5,G.r6,G.r7].all p)=true)(d:Nat):p (KU G d)=true:=by
 have q:∀l∈[G.r0,G.r1,G.r2,G.r3,G.r4,G.r5,G.r6,G.r7],p l=true:=List.all_eq_true.mp h
 unfold KU
 split<;>exact q _ (by simp)
theorem OF(l0:Bool):([(Gr l0).r0,(Gr l0).r1,(Gr l0).r2,(Gr l0).r3,(Gr l0).r4,(Gr l0).r5,(Gr l0).r6,(Gr l0).r7].all (XZ (Gr l0).size.toNat))=true:=by induction l0<;>kernel_rfl
theorem VS(l0:Bool):([(Gr l0).r0,(Gr l0).r1,(Gr l0).r2,(Gr l0).r3,(Gr l0).r4,(Gr l0).r5,(Gr l0).r6,(Gr l0).r7].all fun l=>((l.length:Int)==(Gr l0).size))=true:=by induction l0<;>kernel_rfl
theorem Xw(l0:Bool):Cj (Gr l0) (mr l0):=by
 refine⟨?_,fun a b=>?_,?_,?_,?_⟩
 ·have rl:=fun d (_:d<8)=>gN (M7 (VS l0) d)
  cases l0
  ·exact⟨by decide,rl,rfl,rfl,rfl,rfl,by decide,by decide,rfl,rfl,by decide,by decide⟩
  ·exact⟨by decide,rl,rfl,rfl,rfl,rfl,by decide,by decide,rfl,rfl,by decide,by decide⟩
 ·unfold AW
  cases GB (Gr l0) a b with
  |none=>exact⟨iy 0,jD (by decide)⟩
  |some d=>exact(IA (M7 (OF l0) d) a).left _
 ·induction l0 using Bool.casesOn<;>decide
 ·induction l0 using Bool.casesOn<;>rfl
 ·cases l0
  ·exact⟨_,rfl,rfl⟩
  ·exact⟨_,rfl,rfl⟩
noncomputable def aW(G:l8):Bool:=G2 G.size.toNat fun z=>G2 G.size.toNat fun y=>!F5 z y||!tb (Cv G.king y) z
noncomputable def Y8(G:l8):Bool:=G2 G.size.toNat fun z=>decide (0<((G0 G.size).filter (F5 z)).length)
theorem aY(l0:Bool):aW (Gr l0)=true:=by cases l0<;>kernel_rfl
theorem Y9(l0:Bool):Y8 (Gr l0)=true:=by cases l0<;>kernel_rfl
theorem fY(l0:Bool):R4 (Gr l0):=by
 refine⟨fun z y z0 z1 y0 y1 h=>?_,fun z z0 z1=>?_⟩
 ·have q:=PQ (PQ (aY l0) z0 z1) y0 y1
  rw[gX z0,gX y0,h]at q
  simpa using q
 ·have q:=PQ (Y9 l0) z0 z1
  rw[gX z0]at q
  exact gH q
theorem Kl{x:Int}(h:0<=x)(s k:Nat):tb (x.fdiv (2 ^ s)) k=tb x (k+s):=by
 obtain⟨a,rfl⟩:=gD h
 rw[iA _ (jg (jD (by decide)))]
 show(a / 2 ^ s).testBit k=a.testBit (k+s)
 rw[Nat.testBit_div_two_pow]
theorem Na{x:Int}(h:0<=x)(s:Nat):0<=x.fdiv (2 ^ s):=by
 rw[iA _ (jg (jD (by decide)))]
 exact jM h (jg (jD (by decide)))
structure tG(b x:Int)(w:Nat):Prop where
 pos:0<=x
 bit:∀k,tb x k=true↔∃i,i<w/\tb b (k+i)=true
theorem tG.twice{x:Int}(W:tG b x w):tG b (Builtin.bitOr x (x.fdiv (2 ^ w))) (w+w):=by
 refine⟨VB W.pos (Na W.pos w),fun k=>?_⟩
 rw[DC,Kl W.pos,ia,W.bit,W.bit]
 constructor
 ·rintro(⟨i,h,e⟩|⟨i,h,e⟩)
  ·exact⟨i,by exact mP (mU _ _) (mu 0 1) (.add mE mE) (mu 0 1) mE rfl h,e⟩
  ·exact⟨w+i,by exact mP (mU _ _) (.add (.add mE mj) (.num 1)) (.add mE mE) (mu 0 1) mE rfl h,by rw[<- Nat.add_assoc];exact e⟩
 ·rintro⟨i,h,e⟩
  rcases iW i w with c|c
  ·exact .inl ⟨i,c,e⟩
  ·exact .inr ⟨i - w,by lia,by rw[show k+w+(i - w)=k+i by lia];exact e⟩
theorem Tm(h:0<=b)(k:Nat):tb (RS b) k=true↔∃i,i<64/\tb b (k+i)=true:=by
 have W0:tG b b 1:=⟨h,fun k=>⟨fun e=>⟨0,by decide,e⟩,fun⟨i,hi,e⟩=>by replace e:=(show i=0 by exact jH (mP (mo _) mj (.num 0) (mu 0 1) (.num 1) rfl hi) (p9 (mo _) (.num 0) mj rfl))▸e;exact e⟩⟩
 exact(W0.twice.twice.twice.twice.twice.twice).bit k
theorem dr(b:Nat):(2*b).testBit 0=false:=by rw[i5,Nat.mul_mod_right];rfl
theorem tX(b k:Nat):(2*b).testBit (k+1)=b.testBit k:=by rw[iL,lx b (by decide)]
theorem du(b:Nat):(2*b+1).testBit 0=true:=by rw[i5,kX];rfl
theorem tbO(b k:Nat):(2*b+1).testBit (k+1)=b.testBit k:=by rw[iL,show(2*b+1) / 2=b by lia]
theorem U4(n:Nat):∀(a:Nat),a<2 ^ n->0<a->∃j,a.testBit j=true/\(∀i,i<j->a.testBit i=false)/\∀k,(a.testBit k ^^ (a - 1).testBit k)=decide (k<=j):=by
 induction n with
 |zero=>intro a h p;exact absurd p (Nat.not_lt.mpr (kO h))
 |succ n ih=>
  intro a h p
  obtain⟨b,rfl|rfl⟩:∃b,a=2*b\/a=2*b+1:=⟨a / 2,by lia⟩
  ·induction b with
   |zero=>exact absurd p (ic 0)
   |succ c=>
    obtain⟨j,h1,h2,h3⟩:=ih (c+1) (lm (a:=2) (by rw[kI,lB (2 ^ n)]at h;exact h)) (jq c)
    refine⟨j+1,(tX _ _).trans h1,fun i hi=>?_,fun k=>?_⟩
    ·induction i using Nat.casesOn with
     |zero=>exact dr _
     |succ i=>exact(tX _ _).trans (h2 i (kf hi))
    ·show((2*(c+1)).testBit k ^^ (2*c+1).testBit k)=_
     induction k with
     |zero=>rw[dr,du];exact(gz (ie _)).symm
     |succ k=>rw[tX,tbO];exact(h3 k).trans (decide_eq_decide.mpr Nat.succ_le_succ_iff.symm)
  ·refine⟨0,du b,fun i hi=>absurd hi (Nat.not_lt_zero i),fun k=>?_⟩
   show((2*b+1).testBit k ^^ (2*b).testBit k)=_
   induction k with
   |zero=>rw[du,dr];rfl
   |succ k=>rw[tbO,tX,Bool.xor_self];exact(gS (jF k)).symm
def bef(up:Bool)(u t:Nat):Prop:=match up with|true=>u<t|false=>t<u
theorem RK(h0:0<=oo)(oD:oo<2 ^ 20)(t:Nat):tb (RJ up oo occ) t=true↔tb oo t=true/\∀u,bef up u t->¬(tb oo u=true/\tb occ u=true):=by
 have sb:∀u,tb (Builtin.bitAnd oo occ) u=true↔tb oo u=true/\tb occ u=true:=fun u=>by rw[Bv,gI]
 have s0:0<=Builtin.bitAnd oo occ:=(Et h0 occ).1
 have tq:Builtin.bitAnd oo occ<2 ^ 20:=jU (Et h0 occ).2 oD
 simp only[<- sb]
 unfold RJ
 revert s0 tq
 generalize Builtin.bitAnd oo occ=stop
 intro s0 tq
 obtain⟨a,rfl⟩:=gD s0
 cases e:(a:Int)==0 with
 |true=>
  have z:a=0:=by have:=gN e;lia
  cases z
  exact⟨fun h=>⟨h,fun u _ q=>by exact Ex q (show tb ((0:Nat):Int) u=false from DS u)⟩,fun h=>h.1⟩
 |false=>
  have p:0<a:=by
   rw[gQ]at e;lia
  induction up using Bool.casesOn with
  |true=>
   obtain⟨j,h1,h2,h3⟩:=U4 20 a (by lia) p
   show tb (Builtin.bitAnd oo (Cw (a:Int) ((a:Int) - 1))) t=true↔_
   (rewrite[Bv];refine(show(a:Int) - 1=((a - 1:Nat):Int) by lia).symm▸?_;rewrite[Km (gP _) (gP _)])
   show(tb oo t&&(a.testBit t ^^ (a - 1).testBit t))=true↔_
   rw[h3,gI,hG]
   constructor
   ·rintro⟨h,k⟩
    refine⟨h,fun u hu q=>?_⟩
    have hu:u<t:=hu
    have q:a.testBit u=true:=q
    exact Ex q (h2 u (by exact pe (nC _ _ _) (mu 2 1) mE mj mE (mu 2 1) mj rfl k hu))
   ·rintro⟨h,k⟩
    refine⟨h,?_⟩
    rcases iW j t with c|c
    ·exact absurd h1 (k j c)
    ·exact c
  |false=>
   have s1:=Na s0 1
   show tb (Builtin.bitAnd oo (Builtin.bitNot (RS ((a:Int).fdiv (2 ^ 1))))) t=true↔_
   rw[Bv,Gj,gI,jk]
   have sm:=Tm s1 t
   constructor
   ·rintro⟨h,k⟩
    refine⟨h,fun u hu q=>?_⟩
    have hu:t<u:=hu
    have u20:u<20:=by
     rcases iW u 20 with c|c
     ·exact c
     ·have q:a.testBit u=true:=q
      exact Ex q (iX (g7 (by lia:a<2 ^ 20) (iz (by decide) c)))
    have:=sm.mpr ⟨u - t - 1,by lia,by(rewrite[Kl s0];refine(show t+(u - t - 1)+1=u by lia).symm▸?_);exact q⟩
    exact Ex this k
   ·rintro⟨h,k⟩
    refine⟨h,?_⟩
    cases q:tb (RS ((a:Int).fdiv (2 ^ 1))) t with
    |false=>rfl
    |true=>
     obtain⟨i,hi,e⟩:=sm.mp q
     rw[Kl s0]at e
     exact absurd e (k (t+i+1) (by show t<_;exact p9 (mU _ _) (mu 0 1) (.add (.add mj mE) (.num 1)) rfl))
noncomputable def aj(up:Bool)(u t:Nat):Bool:=match up with|true=>decide (u<t)|false=>decide (t<u)
theorem ZD:aj up u t=true↔bef up u t:=by cases up<;>exact decide_eq_true_iff
noncomputable def Ql(G:l8)(d o:Nat):Int:=(KU G d).getD o 0
noncomputable def Nj(l:List Int)(o:Nat):Int:=l.getD o 0
noncomputable def Wk(G:l8):Bool:=G2 8 fun d=>G2 G.size.toNat fun o=>!tb (Ql G d o) o&&G2 G.size.toNat fun t=>!tb (Ql G d o) t||(tb (Ql G (back d) t) o&&G2 G.size.toNat fun u=>!(tb (Ql G (back d) t) u&&aj (SI (back d)) u o)||(tb (Ql G d o) u&&aj (SI d) u t))
noncomputable def RT(G:l8):Bool:=G2 G.size.toNat fun o=>(!tb (Nj G.knight o) o&&!tb (Nj G.king o) o)&&G2 G.size.toNat fun t=>(!tb (Nj G.knight o) t||tb (Nj G.knight t) o)&&(!tb (Nj G.king o) t||tb (Nj G.king t) o)
noncomputable def Wx(w:Bool):Int:=match w with|false=>3|true=>0
noncomputable def RF(G:l8)(c w:Bool):Bool:=G2 G.size.toNat fun t=>G2 G.size.toNat fun o=>!decide ((t:Int) - B2 c w=o)||tb (Cv G.files (Wx w)) o||tb (Nj (G.pw (!c)) t) o
noncomputable def U1(G:l8):Bool:=XZ G.size.toNat G.knight&&XZ G.size.toNat G.king
theorem dm(l0:Bool):Wk (Gr l0)=true:=by cases l0<;>kernel_rfl
theorem Zi(l0:Bool):RT (Gr l0)=true:=by cases l0<;>kernel_rfl
theorem Ys(l0 c w:Bool):RF (Gr l0) c w=true:=by cases l0<;>cases c<;>cases w<;>kernel_rfl
theorem SS(l0:Bool):U1 (Gr l0)=true:=by cases l0<;>kernel_rfl
structure IO(G:l8):Prop where
 low:∀d i,Bd G (Cv (KU G d) i)
 sym:Wk G=true
 step:RT G=true
 qm:∀c w,RF G c w=true
 u9:∀i,Bd G (Cv G.knight i)
 u7:∀i,Bd G (Cv G.king i)
theorem eg(l0:Bool):IO (Gr l0):=by
 have h:=SS l0
 unfold U1 at h
 rw[gI]at h
 exact⟨fun d i=>IA (M7 (OF l0) d) i,dm l0,Zi l0,Ys l0,fun i=>IA h.1 i,fun i=>IA h.2 i⟩
theorem Jj{G:l8}(h:Bd G x)(hk:tb x k=true):(k:Int)<G.size/\k<G.size.toNat:=by
 obtain⟨a,rfl⟩:=gD h.1
 have h2:=h.2
 rw[show(2:Int) ^ G.size.toNat=((2 ^ G.size.toNat:Nat):Int) by rw[jL];rfl]at h2
 have:k<G.size.toNat:=by
  rcases iW k G.size.toNat with c|c
  ·exact c
  ·have q:a.testBit k=true:=hk
   rw[iX (g7 (by exact Int.ofNat_lt.mp (cq h2):a<2 ^ G.size.toNat) (iz (by decide) c))]at q
   cases q
 lia
section
variable{G:l8}{st:St}
theorem RL(L:IO G)(GS:G.l7)(hd:d<8)(ho:o<G.size.toNat)(h:tb (GQ G d o occ) t=true):tb (GQ G (back d) t occ) o=true/\t≠o:=by
 have r0:=L.low d o
 have r20:=r0.top GS
 obtain⟨h1,h2⟩:=(RK (up:=SI d) (occ:=occ) r0.1 r20 t).mp h
 have ht:=(Jj r0 h1).2
 have q:=CM (CM L.sym hd) ho
 rw[gI]at q
 obtain⟨q0,q⟩:=q
 have q:=CM q ht
 have qH:tb (Ql G d o) t=true:=h1
 rw[qH,kE,iG,gI]at q
 obtain⟨q1,q2⟩:=q
 have s0:=L.low (back d) t
 refine⟨(RK (up:=SI (back d)) (occ:=occ) s0.1 (s0.top GS) o).mpr ⟨q1,fun u hu e=>?_⟩,fun e=>?_⟩
 ·have uX:=(Jj s0 e.1).2
  have q3:=CM q2 uX
  have e1:tb (Ql G (back d) t) u=true:=e.1
  rw[e1,ZD.mpr hu,Bool.and_self,kE,iG,gI]at q3
  exact h2 u (ZD.mp q3.2) ⟨q3.1,e.2⟩
 ·subst e
  rw[qH]at q0;cases q0
theorem OH{sq occ:Int}(t:Nat):tb (CV G sq occ) t=true↔∃d,d<4/\tb (GQ G d sq occ) t=true:=by
 show tb (Builtin.bitOr (Builtin.bitOr (Builtin.bitOr (Builtin.bitOr 0 _) _) _) _) t=true↔_
 rw[DC,DC,DC,DC,DS]
 simp only[ia,iG]
 constructor
 ·rintro(((h|h)|h)|h)
  ·exact⟨0,by decide,h⟩
  ·exact⟨1,by decide,h⟩
  ·exact⟨2,by decide,h⟩
  ·exact⟨3,by decide,h⟩
 ·rintro⟨d,hd,h⟩
  rcases(by lia:d=0\/d=1\/d=2\/d=3)with rfl|rfl|rfl|rfl
  ·exact .inl (.inl (.inl h))
  ·exact .inl (.inl (.inr h))
  ·exact .inl (.inr h)
  ·exact .inr h
theorem NR{sq occ:Int}(t:Nat):tb (DJ G sq occ) t=true↔∃d,4<=d/\d<8/\tb (GQ G d sq occ) t=true:=by
 show tb (Builtin.bitOr (Builtin.bitOr (Builtin.bitOr (Builtin.bitOr 0 _) _) _) _) t=true↔_
 rw[DC,DC,DC,DC,DS]
 simp only[ia,iG]
 constructor
 ·rintro(((h|h)|h)|h)
  ·exact⟨4,by decide,by decide,h⟩
  ·exact⟨5,by decide,by decide,h⟩
  ·exact⟨6,by decide,by decide,h⟩
  ·exact⟨7,by decide,by decide,h⟩
 ·rintro⟨d,hd,hd2,h⟩
  rcases(by lia:d=4\/d=5\/d=6\/d=7)with rfl|rfl|rfl|rfl
  ·exact .inl (.inl (.inl h))
  ·exact .inl (.inl (.inr h))
  ·exact .inl (.inr h)
  ·exact .inr h
theorem OI(L:IO G)(GS:G.l7){o t:Nat}{occ:Int}(ho:o<G.size.toNat)(h:tb (CV G o occ) t=true):tb (CV G t occ) o=true/\t≠o:=by
 obtain⟨d,hd,h⟩:=(OH t).mp h
 obtain⟨a,b⟩:=RL L GS (by exact mP (mo _) (mu 0 1) (.num 8) (mu 0 1) (.num 4) rfl hd) ho h
 refine⟨(OH o).mpr ⟨back d,?_,a⟩,b⟩
 rcases(by lia:d=0\/d=1\/d=2\/d=3)with rfl|rfl|rfl|rfl<;>decide
theorem NS(L:IO G)(GS:G.l7)(ho:o<G.size.toNat)(h:tb (DJ G o occ) t=true):tb (DJ G t occ) o=true/\t≠o:=by
 obtain⟨d,hd,hd2,h⟩:=(NR t).mp h
 obtain⟨a,b⟩:=RL L GS hd2 ho h
 refine⟨(NR o).mpr ⟨back d,?_,?_,a⟩,b⟩
 ·rcases(by lia:d=4\/d=5\/d=6\/d=7)with rfl|rfl|rfl|rfl<;>decide
 ·rcases(by lia:d=4\/d=5\/d=6\/d=7)with rfl|rfl|rfl|rfl<;>decide
theorem Oq(L:IO G)(ho:o<G.size.toNat):(tb (Cv G.knight o) t=true->tb (Cv G.knight t) o=true/\t≠o)/\(tb (Cv G.king o) t=true->tb (Cv G.king t) o=true/\t≠o):=by
 have q:=CM L.step ho
 rw[gI,gI]at q
 obtain⟨⟨n1,n2⟩,q⟩:=q
 constructor
 ·intro h
  have q:=CM q (Jj (L.u9 o) h).2
  have h':tb (Nj G.knight o) t=true:=h
  rw[gI,h',kE,iG]at q
  exact⟨q.1,fun e=>by subst e;rw[h']at n1;cases n1⟩
 ·intro h
  have q:=CM q (Jj (L.u7 o) h).2
  have h':tb (Nj G.king o) t=true:=h
  rw[gI,h',kE,iG]at q
  exact⟨q.2,fun e=>by subst e;rw[h']at n2;cases n2⟩
theorem Ek(h:tb x k=true):(x != 0)=true:=by
 rw[ig];intro e;subst e;rw[DS]at h;cases h
theorem IV{sq occ:Int}{c:Bool}{k:Nat}(h:tb (B4 G st sq c) k=true):Bq G st sq c occ=true:=by
 unfold Bq;rw[Ek h]
theorem Nw{sq occ:Int}{c:Bool}{k:Nat}(h1:tb (CV G sq occ) k=true)(h2:tb (AQ st) k=true)(h3:tb (st.si c) k=true):Bq G st sq c occ=true:=by
 have a:tb (Am (AQ st) (st.si c)) k=true:=by show tb (Builtin.bitAnd _ _) k=true;rw[Bv,h2,h3];rfl
 have b:tb (Am (CV G sq occ) (Am (AQ st) (st.si c))) k=true:=by show tb (Builtin.bitAnd _ _) k=true;rw[Bv,h1,a];rfl
 unfold Bq
 rw[Ek a,Ek b]
 cases B4 G st sq c != 0<;>rfl
theorem Nv{sq occ:Int}{c:Bool}{k:Nat}(h1:tb (DJ G sq occ) k=true)(h2:tb (Ch st) k=true)(h3:tb (st.si c) k=true):Bq G st sq c occ=true:=by
 have a:tb (Am (Ch st) (st.si c)) k=true:=by show tb (Builtin.bitAnd _ _) k=true;rw[Bv,h2,h3];rfl
 have b:tb (Am (DJ G sq occ) (Am (Ch st) (st.si c))) k=true:=by show tb (Builtin.bitAnd _ _) k=true;rw[Bv,h1,a];rfl
 have e:Cc G st sq c occ=true:=by unfold Cc;rw[Ek a];exact Ek b
 unfold Bq
 rw[e]
 cases B4 G st sq c != 0
 ·cases Am (AQ st) (st.si c) != 0
  ·rfl
  ·cases Am (CV G sq occ) (Am (AQ st) (st.si c)) != 0<;>rfl
 ·rfl
end
theorem VF:∀o:Nat,o<20->∀t:Nat,t<20->∀f:Nat,f<4->∀s:Nat,s<2->Ai (AH o t f s)=o/\md (AH o t f s)=t/\Bt (AH o t f s)=s/\Am ((AH o t f s).fdiv (2 ^ 12)) 3=f:=by decide +kernel
theorem RE(o0:0<=o)(o1:o<20)(t0:0<=t)(t1:t<20)(f0:0<=f)(f1:f<4)(s0:0<=s)(s1:s<2):Ai (AH o t f s)=o/\md (AH o t f s)=t/\Bt (AH o t f s)=s/\Am ((AH o t f s).fdiv (2 ^ 12)) 3=f:=by
 obtain⟨o,rfl⟩:=gD o0
 obtain⟨t,rfl⟩:=gD t0
 obtain⟨f,rfl⟩:=gD f0
 obtain⟨s,rfl⟩:=gD s0
 exact VF o (Int.ofNat_lt.mp o1) t (Int.ofNat_lt.mp t1) f (Int.ofNat_lt.mp f1) s (Int.ofNat_lt.mp s1)
noncomputable def OX(st:St)(t:Int):Option (Bool×Nat):=match AB st.board t.toNat==0 with
 |true=>none
 |false=>some ((AB st.board t.toNat).fdiv (2 ^ 3)==1,(Builtin.bitAnd (AB st.board t.toNat) 7).toNat)
theorem RY{st:St}(C:mG G st)(t:Int):AB st.board t.toNat=qZ (OX st t)/\∀c q,OX st t=some (c,q)->1<=q/\q<7:=by
 unfold OX
 rcases C.rM t.toNat with e|⟨c,q,q1,q7,e⟩
 ·refine e.symm▸?_;exact⟨rfl,fun _ _ h=>by exact Ao h⟩
 ·(refine e.symm▸?_;refine(show(pc c q==0)=false by rw[gQ];exact Eo c q1).symm▸?_)
  rw[IF c (by exact YI q7),M3 c (by exact YI q7)]
  have h:(sd c==1)=c:=by induction c<;>rfl
  refine h.symm▸?_
  refine⟨rfl,fun c' q' z=>?_⟩
  cases Option.some.inj z
  exact⟨q1,q7⟩
structure pJ(G:l8)(st:St)(kd:Nat)(o t:Int):Prop where
 k1:1<=kd
 k7:kd<7
 o0:0<=o
 o1:o<G.size
 t0:0<=t
 t1:t<G.size
 own:AB st.board o.toNat=pc st.side kd
 ne:t≠o
 qm:kd=1->t - o≠8/\o - t≠8
theorem pJ.mv{G:l8}{st:St}{kd:Nat}{o t f s:Int}(GS:G.l7)(C:mG G st)(T:pJ G st kd o t)(hs:f=0/\s=0\/kd=1/\s=1/\0<=f/\f<4):Mv G st (AH o t f s) kd (OX st t)/\Ai (AH o t f s)=o/\md (AH o t f s)=t:=by
 have top:=GS.top
 have o0:=T.o0;have o1:=T.o1;have t0:=T.t0;have t1:=T.t1
 have f0:0<=f/\f<4/\(s=0\/s=1)/\0<=s/\s<2:=by
  rcases hs with⟨rfl,rfl⟩|⟨_,rfl,x,y⟩
  ·exact⟨by decide,by decide,.inl rfl,by decide,by decide⟩
  ·exact⟨x,y,.inr rfl,by decide,by decide⟩
 obtain⟨a,b,c,d⟩:=RE o0 (gM o1 top) t0 (gM t1 top) f0.1 f0.2.1 f0.2.2.2.1 f0.2.2.2.2
 have k1:=(RY C t).1;have k2:=(RY C t).2
 refine⟨⟨⟨by rw[a];exact o0,by rw[a];exact o1,by rw[b];exact t0,by rw[b];exact t1,by rw[c];exact f0.2.2.1⟩,T.k1,T.k7,by refine a.symm▸?_;exact T.own,by rw[b];exact k1,k2,by(refine a.symm▸?_;refine b.symm▸?_);exact iK T.ne,by(refine a.symm▸?_;refine b.symm▸?_);exact T.qm,fun e=>?_⟩,a,b⟩
 replace e:=c▸e
 rcases hs with h|h
 ·replace e:=h.2▸e;exact nomatch e
 ·obtain⟨f,rfl⟩:=gD h.2.2.1
  refine⟨h.1,f+2,ji 2 f,Nat.add_le_add_right (kO (Int.ofNat_lt.mp h.2.2.2)) 2,?_⟩
  unfold Ah
  (refine c.symm▸?_;refine(show(s != 1)=false by rw[e];rfl).symm▸?_)
  refine d.symm▸?_;rfl
section
variable{G:l8}{st:St}
theorem bZ(C:mG G st)(k1:1<=kd)(k7:kd<7){o:Int}(h:o∈nD 20 (Am (st.si st.side) (st.kd kd)) 0):0<=o/\o<G.size/\AB st.board o.toNat=pc st.side kd:=by
 have a:=(((C.pK st.side).left (st.kd kd)).sq h).1;have b:=(((C.pK st.side).left (st.kd kd)).sq h).2.1;have c:=(((C.pK st.side).left (st.kd kd)).sq h).2.2
 exact⟨a,b,(GX C st.side k1 k7 o.toNat).mp c⟩
theorem P3{o s:Int}(h0:0<=o)(h1:o<s):o.toNat<s.toNat:=by lia
theorem VU(L:IO G)(GS:G.l7)(k2:2<=kd)(k7:kd<7)(o0:0<=o)(o1:o<G.size)(h:tb (DB G kd o occ) t=true):(t:Int)≠o:=by
 have ho:=P3 o0 o1
 have eo:((o.toNat:Nat):Int)=o:=gX o0
 have r:=@OI G L GS o.toNat t occ ho
 have b:=@NS G o.toNat occ t L GS ho
 have n:=@Oq G o.toNat t L ho
 have fin:t≠o.toNat->(t:Int)≠o:=fun z e=>z (by refine e▸?_;rfl)
 revert h
 clear o0 o1 ho eo L GS
 refine tc k2 k7 (fun h=>fin (n.1 h).2) (fun h=>fin (b h).2) (fun h=>fin (r h).2) (fun h=>?_) (fun h=>fin (n.2 h).2)
 have h:tb (Builtin.bitOr (CV G o occ) (DJ G o occ)) t=true:=h
 rw[DC,ia]at h
 rcases h with h|h
 ·exact fin (r h).2
 ·exact fin (b h).2
theorem SW(L:IO G)(GS:G.l7)(C:mG G st)(k2:2<=kd)(k7:kd<7)(hb:Bd G target)(h:v∈C8 G st kd target):∃o t:Int,pJ G st kd o t/\tb (DB G kd o (A3 st)) t.toNat=true/\v=AH o t 0 0:=by
 obtain⟨o,ho,h⟩:=List.mem_flatMap.mp h
 obtain⟨t,ht,rfl⟩:=List.mem_map.mp h
 obtain⟨o0,o1,own⟩:=bZ C (by exact Qi k2) k7 ho
 have t0:=((hb.right (DB G kd o (A3 st))).sq ht).1;have t1:=((hb.right (DB G kd o (A3 st))).sq ht).2.1;have tu:=((hb.right (DB G kd o (A3 st))).sq ht).2.2
 have tu:tb (Builtin.bitAnd (DB G kd o (A3 st)) target) t.toNat=true:=tu
 rw[Bv,gI]at tu
 have ne:=VU L GS k2 k7 o0 o1 tu.1
 exact⟨o,t,⟨by exact Qi k2,k7,o0,o1,t0,t1,own,by lia,by exact fun e0=>⟨ke (Nf2 (mo _) (.num 2) mj mj (.num 1) rfl k2 (hM e0)),ke (Nf2 (mo _) (.num 2) mj mj (.num 1) rfl k2 (hM e0))⟩⟩,tu.1,rfl⟩
theorem Kc(hb:0<=b)(h:tb (EN G b c) k=true):∃j:Nat,(j:Int)=k - CY c/\tb b j=true:=by
 induction c with
 |false=>
  have h:tb (Builtin.bitAnd (b*2 ^ 4) G.full) k=true:=h
  rw[Bv,gI]at h
  obtain⟨a,rfl⟩:=gD hb
  have h1:(a*2 ^ 4).testBit k=true:=h.1
  rw[lw,gI,hG]at h1
  exact⟨k - 4,by show((k - 4:Nat):Int)=k - 4;lia,h1.2⟩
 |true=>
  have h:tb (b.fdiv (2 ^ 4)) k=true:=h
  rw[Kl hb]at h
  exact⟨k+4,by show((k+4:Nat):Int)=k - -4;rfl,h⟩
theorem W4(hb:0<=b)(h:tb (Md G b c w) k=true):∃j:Nat,(j:Int)=k - B2 c w/\tb b j=true/\tb (Cv G.files (Wx w)) j=false:=by
 have nb:∀x,0<=Am b x:=fun x=>(Et hb x).1
 have pp:∀x,0<=x->0<=EN G x c:=fun x hx=>by
  induction c using Bool.casesOn with
  |false=>exact(Et (lc hx (by decide)) G.full).1
  |true=>exact Na hx 4
 have fin:∀x j,tb (Am b (Do x)) j=true->tb b j=true/\tb x j=false:=fun x j q=>by
  have q:tb (Builtin.bitAnd b (Builtin.bitNot x)) j=true:=q
  rw[Bv,Gj,gI,jk]at q
  exact q
 induction w using Bool.casesOn with
 |false=>
  have h:tb (EN G (Am b (Do (Cv G.files 3))) c*2 ^ 1) k=true:=h
  have p0:=pp _ (nb (Do (Cv G.files 3)))
  have hk:1<=k/\tb (EN G (Am b (Do (Cv G.files 3))) c) (k - 1)=true:=by
   revert h p0
   generalize EN G (Am b (Do (Cv G.files 3))) c=X
   intro h p0
   obtain⟨a,rfl⟩:=gD p0
   have h1:(a*2 ^ 1).testBit k=true:=h
   rw[lw,gI,hG]at h1
   exact h1
  obtain⟨j,e,q⟩:=Kc (nb _) hk.2
  have q1:=(fin _ j q).1;have q2:=(fin _ j q).2
  refine⟨j,?_,q1,q2⟩
  refine e.symm▸?_
  show((k - 1:Nat):Int) - CY c=k - (CY c+1 - 2*0)
  lia
 |true=>
  have h:tb ((EN G (Am b (Do (Cv G.files 0))) c).fdiv (2 ^ 1)) k=true:=h
  rw[Kl (pp _ (nb _))]at h
  obtain⟨j,e,q⟩:=Kc (nb _) h
  have q1:=(fin _ j q).1;have q2:=(fin _ j q).2
  refine⟨j,?_,q1,q2⟩
  refine e.symm▸?_
  show((k+1:Nat):Int) - CY c=k - (CY c+1 - 2*1)
  exact hZ (ow (mU _ _) (.sub (mm 0 1) mQ) (.sub mh (.sub (mm 1 1) (.mulL 2 (.num 1)))) rfl) (ow (mU _ _) (.sub mh (.sub (mm 1 1) (.mulL 2 (.num 1)))) (.sub (mm 0 1) mQ) rfl)
end
section
variable{G:l8}{st:St}
theorem Uj(C:mG G st)(h:tb (PF G st) t=true):AB st.board t=0:=by
 have h:tb (Builtin.bitAnd G.full (Builtin.bitNot (Builtin.bitOr st.s0 st.s1))) t=true:=h
 rw[Bv,Gj,DC,gI,jk,lR]at h
 rcases C.rM t with e|⟨c,q,q1,q7,e⟩
 ·exact e
 ·have z:=C.sb c t
  rw[e,Cn c q1 q7]at z
  cases c
  ·have z:tb st.s0 t=true:=z
   exact Ex z h.2.1
  ·have z:tb st.s1 t=true:=z
   exact Ex z h.2.2
theorem GP(C:mG G st)(h:tb (C7 st st.side) j=true):AB st.board j=pc st.side 1/\(j:Int)<G.size:=
 ⟨(GX C st.side (kd:=1) (by decide) (by decide) j).mp h,(Jj ((C.pK st.side).left st.k1) h).1⟩
def IQ(G:l8)(st:St)(o t:Int):Prop:=AB st.board t.toNat=0\/∃w,t - B2 st.side w=o/\tb (Cv G.files (Wx w)) o.toNat=false
theorem Lz(C:mG G st){t:Int}(t0:0<=t)(t1:t<G.size)(h:tb (Cz G st st.side) t.toNat=true):pJ G st 1 (t - CY st.side) t/\IQ G st (t - CY st.side) t:=by
 have h:tb (Builtin.bitAnd (EN G (C7 st st.side) st.side) (PF G st)) t.toNat=true:=h
 rw[Bv,gI]at h
 obtain⟨j,ej,hj⟩:=Kc ((C.pK st.side).left st.k1).1 h.1
 have own:=(GP C hj).1;have j1:=(GP C hj).2
 replace ej:=(gX t0)▸ej
 refine ej▸?_
 have s4:CY st.side=4\/CY st.side = -4:=by cases st.side;exact .inl rfl;exact .inr rfl
 exact⟨⟨by decide,by decide,gP j,j1,t0,t1,own,by lia,by lia⟩,.inl (Uj C h.2)⟩
theorem VG(C:mG G st){t:Int}(t0:0<=t)(t1:t<G.size)(h:tb (Md G (C7 st st.side) st.side w) t.toNat=true):pJ G st 1 (t - B2 st.side w) t/\IQ G st (t - B2 st.side w) t:=by
 obtain⟨j,ej,hj,hf⟩:=W4 ((C.pK st.side).left st.k1).1 h
 have own:=(GP C hj).1;have j1:=(GP C hj).2
 replace ej:=(gX t0)▸ej
 have s4:B2 st.side w=5\/B2 st.side w=3\/B2 st.side w = -3\/B2 st.side w = -5:=by cases st.side<;>induction w using Bool.casesOn<;>decide
 refine⟨?_,.inr ⟨w,rfl,?_⟩⟩
 ·refine ej▸?_
  exact⟨by decide,by decide,gP j,j1,t0,t1,own,by lia,by lia⟩
 ·refine ej▸?_;exact hf
theorem Lq(h:v∈Ff o t):∃f,0<=f/\f<4/\v=AH o t f 1:=by
 unfold Ff at h
 simp only[hH,j5,lL]at h
 rcases h with h|h|h|h
 ·exact⟨3,by decide,by decide,h⟩
 ·exact⟨2,by decide,by decide,h⟩
 ·exact⟨1,by decide,by decide,h⟩
 ·exact⟨0,by decide,by decide,h⟩
theorem U7(GS:G.l7)(C:mG G st)(h:v∈CT G st target):∃o t f s:Int,pJ G st 1 o t/\IQ G st o t/\(f=0/\s=0\/(1:Nat)=1/\s=1/\0<=f/\f<4)/\v=AH o t f s:=by
 have lo:=C.low
 have ui:∀w,v∈Ig G st target w->∃o t f s:Int,pJ G st 1 o t/\IQ G st o t/\(f=0/\s=0\/(1:Nat)=1/\s=1/\0<=f/\f<4)/\v=AH o t f s:=fun w h=>by
  unfold Ig at h
  obtain⟨t,ht,h⟩:=List.mem_flatMap.mp h
  have hb:Bd G (Am (Md G (C7 st st.side) st.side w) (Am target (st.si (!st.side)))):=((C.pK (!st.side)).right target).right _
  have t0:=(hb.sq ht).1;have t1:=(hb.sq ht).2.1;have q:=(hb.sq ht).2.2
  have q:tb (Builtin.bitAnd (Md G (C7 st st.side) st.side w) (Am target (st.si (!st.side)))) t.toNat=true:=q
  rw[Bv,gI]at q
  obtain⟨T,P⟩:=VG C t0 t1 q.1
  unfold Ew at h
  split at h
  ·obtain⟨f,f0,f1,e⟩:=Lq h
   exact⟨_,t,f,1,T,P,.inr ⟨rfl,rfl,f0,f1⟩,e⟩
  ·exact⟨_,t,0,0,T,P,.inl ⟨rfl,rfl⟩,List.mem_singleton.mp h⟩
 rcases List.mem_append.mp h with h|h
 ·rcases List.mem_append.mp h with h|h
  ·rcases List.mem_append.mp h with h|h
   ·unfold CJ at h
    obtain⟨t,ht,rfl⟩:=List.mem_map.mp h
    have t0:=((((Bd.ones GS lo st.side).left target).left (Do (BF G st.side))).sq ht).1;have t1:=((((Bd.ones GS lo st.side).left target).left (Do (BF G st.side))).sq ht).2.1;have q:=((((Bd.ones GS lo st.side).left target).left (Do (BF G st.side))).sq ht).2.2
    have q:tb (Builtin.bitAnd (Builtin.bitAnd (Cz G st st.side) target) (Do (BF G st.side))) t.toNat=true:=q
    rw[Bv,Bv,gI,gI]at q
    obtain⟨T,P⟩:=Lz C t0 t1 q.1.1
    exact⟨_,t,0,0,T,P,.inl ⟨rfl,rfl⟩,rfl⟩
   ·unfold Fg at h
    obtain⟨t,ht,h⟩:=List.mem_flatMap.mp h
    have t0:=((((Bd.ones GS lo st.side).left target).left (BF G st.side)).sq ht).1;have t1:=((((Bd.ones GS lo st.side).left target).left (BF G st.side)).sq ht).2.1;have q:=((((Bd.ones GS lo st.side).left target).left (BF G st.side)).sq ht).2.2
    have q:tb (Builtin.bitAnd (Builtin.bitAnd (Cz G st st.side) target) (BF G st.side)) t.toNat=true:=q
    rw[Bv,Bv,gI,gI]at q
    obtain⟨T,P⟩:=Lz C t0 t1 q.1.1
    obtain⟨f,f0,f1,e⟩:=Lq h
    exact⟨_,t,f,1,T,P,.inr ⟨rfl,rfl,f0,f1⟩,e⟩
  ·exact ui false h
 ·exact ui true h
def TD(G:l8)(st:St)(kd:Nat)(o t:Int):Prop:=(2<=kd/\tb (DB G kd o (A3 st)) t.toNat=true)\/(kd=1/\IQ G st o t)
theorem ML(L:IO G)(GS:G.l7)(hr:∀a b,Bd G (AW G a b))(C:mG G st)(h:v∈LV G st\/v∈oB G st):∃kd,∃o t f s:Int,pJ G st kd o t/\TD G st kd o t/\(f=0/\s=0\/kd=1/\s=1/\0<=f/\f<4)/\v=AH o t f s:=by
 have own:Bd G (EC G st):=(Bd.full GS).left _
 have pw:∀target,v∈CT G st target->∃kd,∃o t f s:Int,pJ G st kd o t/\TD G st kd o t/\(f=0/\s=0\/kd=1/\s=1/\0<=f/\f<4)/\v=AH o t f s:=fun target h=>by
  obtain⟨o,t,f,s,T,P,q,e⟩:=U7 GS C h
  exact⟨1,o,t,f,s,T,.inr ⟨rfl,P⟩,q,e⟩
 have pm:∀kd target,2<=kd->kd<7->Bd G target->v∈C8 G st kd target->∃kd,∃o t f s:Int,pJ G st kd o t/\TD G st kd o t/\(f=0/\s=0\/kd=1/\s=1/\0<=f/\f<4)/\v=AH o t f s:=fun kd target k2 k7 hb h=>by
  obtain⟨o,t,T,P,e⟩:=SW L GS C k2 k7 hb h
  exact⟨kd,o,t,0,0,T,.inl ⟨k2,P⟩,.inl ⟨rfl,rfl⟩,e⟩
 have kl:∀l:List Nat,(∀kd∈l,2<=kd/\kd<7)->∀target,Bd G target->v∈(l.flatMap fun kd=>C8 G st kd target)->∃kd,∃o t f s:Int,pJ G st kd o t/\TD G st kd o t/\(f=0/\s=0\/kd=1/\s=1/\0<=f/\f<4)/\v=AH o t f s:=fun l hl target hb h=>by
  obtain⟨kd,hk,h⟩:=List.mem_flatMap.mp h
  exact pm kd target (hl kd hk).1 (hl kd hk).2 hb h
 rcases h with h|h
 ·unfold LV at h
  rcases List.mem_append.mp h with h|h
  ·exact pw _ h
  ·exact kl _ (by decide) _ own h
 ·unfold oB at h
  rcases List.mem_append.mp h with h|h
  ·have ht:Bd G (ph G st (Bc G st st.side)):=Bd.ph ((C.pK (!st.side)).right _) hr
   split at h
   ·rcases List.mem_append.mp h with h|h
    ·exact pw _ h
    ·exact kl _ (by decide) _ ht h
   ·cases h
  ·exact pm 6 _ (by decide) (by decide) own h
theorem XA(L:IO G)(GS:G.l7)(C:mG G st){t:Int}(T:pJ G st kd o t)(H:TD G st kd o t)(hd:AB st.board t.toNat=pc (!st.side) 6):Bq G st t st.side (A3 st)=true:=by
 have o0:=T.o0;have o1:=T.o1;have t0:=T.t0;have t1:=T.t1;have k1:=T.k1;have k7:=T.k7
 have ho:=P3 o0 o1
 have eo:((o.toNat:Nat):Int)=o:=gX o0
 have et:((t.toNat:Nat):Int)=t:=gX t0
 have bs:tb (st.si st.side) o.toNat=true:=by rw[C.sb,T.own,Cn _ k1 k7];exact gz rfl
 have bk:tb (st.kd kd) o.toNat=true:=by rw[C.kb kd k1 k7,T.own,Cm _ k1 k7];exact gz rfl
 have near:∀x y,(tb x o.toNat=true\/tb y o.toNat=true)->tb (bor x (Am y (st.si st.side))) o.toNat=true:=fun x y h=>by
  show tb (Builtin.bitOr x (Builtin.bitAnd y (st.si st.side))) o.toNat=true
  rw[DC,Bv,bs,lr,ia];exact h
 have an:∀{x y:Int},tb x o.toNat=true->tb y o.toNat=true->tb (Am x y) o.toNat=true:=fun{x y} a b=>by
  show tb (Builtin.bitAnd x y) o.toNat=true
  (rewrite[Bv];refine a.symm▸?_;refine b.symm▸?_);rfl
 have ve:∀{x y:Int},tb x o.toNat=true->tb (bor x y) o.toNat=true:=fun{x y} a=>by
  show tb (Builtin.bitOr x y) o.toNat=true
  rw[DC,a];rfl
 have orr:∀{x y:Int},tb y o.toNat=true->tb (bor x y) o.toNat=true:=fun{x y} a=>by
  show tb (Builtin.bitOr x y) o.toNat=true
  rw[DC,a,js]
 have r:=@OI G L GS o.toNat t.toNat (A3 st) ho
 have b:=@NS G o.toNat (A3 st) t.toNat L GS ho
 have nr:=@Oq G o.toNat t.toNat L ho
 rcases H with⟨k2,h⟩|⟨rfl,P⟩
 ·have near':=near
  clear T hd k1
  revert h bk
  refine tc k2 k7 (fun bk h=>IV (k:=o.toNat) (near' _ _ (.inr (ve (an (nr.1 h).1 bk))))) (fun bk h=>Nv (b h).1 (ve bk) bs) (fun bk h=>Nw (r h).1 (ve bk) bs) (fun bk h=>?_) fun bk h=>IV (k:=o.toNat) (near' _ _ (.inr (orr (an (nr.2 h).1 bk))))
  ·have h:tb (Builtin.bitOr (CV G o (A3 st)) (DJ G o (A3 st))) t.toNat=true:=h
   rw[DC,ia]at h
   rcases h with h|h
   ·exact Nw (r h).1 (orr bk) bs
   ·exact Nv (b h).1 (orr bk) bs
 ·rcases P with P|⟨w,e,f⟩
  ·rw[P]at hd;exact absurd hd.symm (Eo _ (by decide))
  ·have q:=CM (CM (L.qm st.side w) (P3 t0 t1)) ho
   rw[et,eo,gz e,f]at q
   exact IV (k:=o.toNat) (near _ _ (.inl (an (an q bk) bs)))
end
section
variable{G:l8}{st:St}{m:Nat}
theorem OG(L:IO G)(GC:Cj G m)(C:mG G st)(K:EQ G st st.side x):HM G st:=by
 have q:=GI GC.S C K
 have mv:∀v,v∈LV G st\/v∈oB G st->B0 G v:=fun v h=>by
  obtain⟨kd,o,t,f,s,T,_,hs,e⟩:=ML L GC.S GC.hr C h
  rw[e];exact(T.mv GC.S C hs).1.M
 exact⟨C,by rw[q];exact K.x0,by rw[q];exact K.x1,fun v h=>mv v (.inl h),fun v h=>mv v (.inr h)⟩
noncomputable def Vb(G:l8)(m:Nat)(st:St)(v:Int):List Nat:=JV G (Ij m st (ou st v).toNat (OX st (md v)) v)
theorem Lp(h:v∈Ay G st):v∈LV G st\/v∈oB G st:=by
 have h:=(List.mem_filter.mp h).1
 unfold Cq at h
 split at h
 ·exact .inr h
 ·exact .inl h
theorem OJ(c:Bool):c≠!c:=by cases c<;>exact fun h=>(by cases h)
theorem Xv(L:IO G)(GC:Cj G m)(P:Pos G st):Es G m st (Vb G m st):=by
 obtain⟨x,K⟩:=P.oS st.side
 obtain⟨y,Ky⟩:=P.oS (!st.side)
 refine⟨OG L GC P.C K,by refine P.hist.symm▸?_;decide,fun v hv=>?_⟩
 obtain⟨kd,o,t,f,s,T,H,hs,e⟩:=ML L GC.S GC.hr P.C (Lp hv)
 have V:=(T.mv GC.S P.C hs).1;have ef:=(T.mv GC.S P.C hs).2.1;have et:=(T.mv GC.S P.C hs).2.2
 (replace V:=(e).symm▸V;replace ef:=(e).symm▸ef;replace et:=(e).symm▸et)
 have kk:(ou st v).toNat=kd:=by refine V.ou.symm▸?_;rfl
 refine⟨kd,OX st t,V,?_,by unfold Vb;(refine kk.symm▸?_;refine et.symm▸?_;rfl)⟩
 have A:=after (m:=m) P.C V
 have safe:AB st.board t.toNat≠pc (!st.side) 6:=fun z=>by
  have a:=XA L GC.S P.C T H z
  have e:=(Ky.it t.toNat).mp z
  have n:=P.safe
  unfold Bo at n
  (replace n:=(GI GC.S P.C Ky)▸n;rw[kK]at n)
  (rw[show y=t by have:=T.t0;lia]at n;replace n:=a▸n)
  exact FT n
 have gl:=Mx V
 have Ks:EQ G (Ij m st kd (OX st t) v) (Ij m st kd (OX st t) v).side y:=by
  refine A.side.symm▸?_
  refine⟨Ky.x0,Ky.x1,fun k=>?_⟩
  (rewrite[A.at_];refine et.symm▸?_;refine ef.symm▸?_)
  have it:=Ky.it k
  split
  ·rename_i z
   constructor
   ·intro w
    exact absurd (M2 w gl.2 (by decide)).1 (OJ st.side)
   ·intro w
    have:=it.mpr w
    replace this:=(z).symm▸this
    exact absurd this safe
  ·split
   ·rename_i z
    constructor
    ·intro w;exact absurd w.symm (Eo _ (by decide))
    ·intro w
     have:=it.mpr w
     (replace this:=(z).symm▸this;rw[T.own]at this)
     exact absurd (M2 this T.k7 (by decide)).1 (OJ st.side)
   ·exact it
 exact OG L GC A.C Ks
theorem bD(v:Int):(Vb G m st v).length<=1:=U6 G _
end
theorem Q6{α:Type}(l:List α)(b:Nat):cut l 0 b=l.take b:=rfl
theorem Mk{α:Type}(l:List α)(a:Nat):cut l a l.length=l.drop a:=by unfold cut;rw[List.take_length]
theorem Nd(t:List Nat):A8 t++AF t=t:=by unfold A8 AF;rw[Q6,Mk,jC]
theorem cZ(t:List Nat):BV t++Cg t=t:=by unfold BV Cg;rw[Q6,Mk,jC]
theorem c7(t:List Nat):CQ t++GW t=t:=by unfold CQ GW;rw[Q6,Mk,jC]
theorem Lo(r:List Nat)(a b:Nat):Cg (r++[a,b])=[a,b]/\BV (r++[a,b])=r:=by
 unfold Cg BV
 have e:(-2+((r++[a,b]).length:Int)).toNat=r.length:=by rw[gy];show(-2+((r.length+2:Nat):Int)).toNat=_;lia
 rw[e,Q6,Mk,List.drop_left,List.take_left]
 exact⟨rfl,rfl⟩
theorem Li:∀{i k:Int},0<=i->AE c l i=k->0<=k->l[(k - i).toNat]?=some c:=by
 induction l with
 |nil=>exact fun _ h h0=>absurd ((show(-1:Int)=_ from h).symm▸h0:(0:Int)<= -1) (by decide)
 |cons x l ih=>
  intro i k hi h h0
  by_cases e:x=c
  ·obtain rfl:i=k:=(iJ e).symm.trans h
   rw[lE,e];rfl
  ·have h:AE c l (i+1)=k:=(iI e).symm.trans h
   have z:=ih (Int.le_add_one hi) h h0
   have g:=E9 c l (i+1) (Int.le_add_one hi)
   rw[show(k - i).toNat=(k - (i+1)).toNat+1 by clear ih z e;lia]
   exact z
theorem Ru{f:Int}(h:AE a og 0=f)(h0:0<=f):a=97+f.toNat/\f<8:=by
 have z:=Li (iy 0) h h0
 have g:=E9 a og 0 (iy 0)
 (rw[show og.length=8 from rfl]at g;replace g:=h▸g)
 rcases(by lia:f=0\/f=1\/f=2\/f=3\/f=4\/f=5\/f=6\/f=7)with e|e|e|e|e|e|e|e<;>subst e<;>exact⟨(Option.some.inj z).symm,by decide⟩
theorem Fx{f:Int}(h:AE a nX 0=f)(h0:0<=f):a=49+f.toNat/\f<8:=by
 have z:=Li (iy 0) h h0
 have g:=E9 a nX 0 (iy 0)
 (rw[show nX.length=8 from rfl]at g;replace g:=h▸g)
 rcases(by lia:f=0\/f=1\/f=2\/f=3\/f=4\/f=5\/f=6\/f=7)with e|e|e|e|e|e|e|e<;>subst e<;>exact⟨(Option.some.inj z).symm,by decide⟩
theorem UY(h:j<8):AE (97+j) og 0=j:=by
 rcases(by lia:j=0\/j=1\/j=2\/j=3\/j=4\/j=5\/j=6\/j=7)with e|e|e|e|e|e|e|e<;>subst e<;>rfl
theorem Ml(h:j<8):AE (49+j) nX 0=j:=by
 rcases(by lia:j=0\/j=1\/j=2\/j=3\/j=4\/j=5\/j=6\/j=7)with e|e|e|e|e|e|e|e<;>subst e<;>rfl
theorem Oo:∀n:Nat,n<20->0<=(n:Int).fmod 4/\(n:Int).fmod 4<4/\0<=(n:Int).fdiv 4/\(n:Int).fdiv 4<5/\(n:Int)=(n:Int).fdiv 4*4+(n:Int).fmod 4:=by decide +kernel
theorem Bp{s:Int}(h0:0<=s)(h1:s<20):0<=s.fmod 4/\s.fmod 4<4/\0<=s.fdiv 4/\s.fdiv 4<5/\s=s.fdiv 4*4+s.fmod 4:=by
 obtain⟨n,rfl⟩:=gD h0
 exact Oo n (Int.ofNat_lt.mp h1)
theorem J2{f r:Int}(f0:0<=f)(f1:f<4)(r0:0<=r):(r*4+f).fmod 4=f/\(r*4+f).fdiv 4=r:=by
 rw[lh _ (by decide)]
 lia
theorem HD(h0:0<=s)(h1:s<4*R)(hR:R<=5):BJ R (mZ s)=s:=by
 have a:=(Bp h0 (by lia)).1;have b:=(Bp h0 (by lia)).2.1;have c:=(Bp h0 (by lia)).2.2.1;have d:=(Bp h0 (by lia)).2.2.2.1;have e:=(Bp h0 (by lia)).2.2.2.2
 show Nf R (AE (97+(s.fmod 4).toNat) og 0) (AE (49+(s.fdiv 4).toNat) nX 0)=s
 (rewrite[UY (by lia)];rewrite[Ml (by lia)];rewrite[gX a];refine(gX c).symm▸?_)
 unfold Nf
 (rewrite[iI];refine e▸?_;rfl)
 rintro(z|z|z|z)<;>lia
theorem Ep(h:BJ R u=s)(h0:0<=s):u=mZ s/\s<4*R:=by
 match u,h with
 |[a,b],h=>
  have h:Nf R (AE a og 0) (AE b nX 0)=s:=h
  unfold Nf at h
  split at h
  ·lia
  ·rename_i z
   have f0:0<=AE a og 0:=by rcases jP (AE a og 0) 0 with c|c;exact absurd (.inl c) z;exact c
   have f1:AE a og 0<4:=by rcases jP (AE a og 0) 4 with c|c;exact c;exact absurd (.inr (.inl c)) z
   have r0:0<=AE b nX 0:=by rcases jP (AE b nX 0) 0 with c|c;exact absurd (.inr (.inr (.inl c))) z;exact c
   have r1:AE b nX 0<R:=by rcases jP (AE b nX 0) R with c|c;exact c;exact absurd (.inr (.inr (.inr c))) z
   have ea:=(Ru rfl f0).1
   have eb:=(Fx rfl r0).1
   revert h ea eb f0 f1 r0 r1
   generalize AE a og 0=f
   generalize AE b nX 0=r
   intro h f0 f1 r0 r1 ea eb
   obtain⟨m1,m2⟩:=J2 f0 f1 r0
   rw[h]at m1 m2
   refine⟨?_,by lia⟩
   unfold mZ
   rw[m1,m2,ea,eb]
 |[],h=>exact absurd h (by show ¬(-1:Int)=s;exact ke (cx h0))
 |[_],h=>exact absurd h (by show ¬(-1:Int)=s;exact ke (cx h0))
 |_ :: _ :: _ :: _,h=>exact absurd h (by show ¬(-1:Int)=s;exact ke (cx h0))
theorem Hl(h:Ii o g p=some q):0<=o/\0<=g/\q=(o,g,p):=by
 unfold Ii at h
 split at h
 ·exact Ao h
 ·rename_i z
  obtain rfl:=Option.some.inj h
  exact⟨by rcases jP o 0 with c|c;exact absurd (.inl c) z;exact c,by rcases jP g 0 with c|c;exact absurd (.inr c) z;exact c,rfl⟩
structure Sq(R:Int)(v:Int):Prop where
 R5:R<=5
 f0:0<=Ai v
 f1:Ai v<4*R
 t0:0<=md v
 t1:md v<4*R
 pr:Ah v=0\/∃p:Nat,2<=p/\p<6/\Ah v=p
theorem Sq.pt(Q:Sq R v):Ai v<20:=by have:=Q.R5;have:=Q.f1;lia
theorem Sq.oy(Q:Sq R v):md v<20:=by have:=Q.R5;have:=Q.t1;lia
theorem ck(h2:2<=p)(h6:p<6):pB (mX p+32)=p:=by
 rcases(by lia:p=2\/p=3\/p=4\/p=5)with e|e|e|e<;>subst e<;>rfl
theorem Yz{e:Nat}(h:pB e≠0):∃p:Nat,2<=p/\p<6/\pB e=p/\e=mX p+32:=by
 unfold pB at h ⊢
 split
 ·rename_i z;exact⟨2,by decide,by decide,rfl,z⟩
 ·split
  ·rename_i z;exact⟨3,by decide,by decide,rfl,z⟩
  ·split
   ·rename_i z;exact⟨4,by decide,by decide,rfl,z⟩
   ·split
    ·rename_i z;exact⟨5,by decide,by decide,rfl,z⟩
    ·rename_i a b c d
     rw[iI a,iI b,iI c,iI d]at h
     exact absurd rfl h
theorem Rm:Du q v=true↔q=(Ai v,md v,Ah v):=by
 unfold Du
 rw[gI,gI,iw,iw,iw]
 constructor
 ·rintro⟨a,b,c⟩
  exact Prod.ext a.symm (Prod.ext b.symm c.symm)
 ·intro e;refine e.symm▸?_;exact⟨rfl,rfl,rfl⟩
theorem O0(Q:Sq R v):wF v=t↔KV R t=some (Ai v,md v,Ah v):=by
 have rf:=HD Q.f0 Q.f1 Q.R5
 have rt:=HD Q.t0 Q.t1 Q.R5
 have ok:∀p,Ii (Ai v) (md v) p=some (Ai v,md v,p):=fun p=>T9 (by have:=Q.f0;lia) (by have:=Q.t0;lia)
 constructor
 ·intro e
  subst e
  unfold wF EO
  rcases FF Q.pr with e|⟨p,p1,p7,p2,p6,e,z,kl,c1,c2⟩
  ·refine e.symm▸?_
   show Ii (BJ R (mZ (Ai v))) (BJ R (mZ (md v))) 0=_
   (refine rf.symm▸?_;refine rt.symm▸?_;rewrite[ok];rfl)
  ·(refine e.symm▸?_;rewrite[z])
   show(if pB (mX p+32)=0 then none else Ii (BJ R (mZ (Ai v))) (BJ R (mZ (md v))) (pB (mX p+32)))=_
   (refine(ck p2 p6).symm▸?_;rewrite[iI (by exact iD (M6 (Int.ofNat_le.mpr p2)))];rewrite[rf];rewrite[rt];rewrite[ok];rfl)
 ·intro h
  revert h
  refine Rt t (fun a b c d h=>?_) (fun a b c d e h=>?_) fun t s4 s5 h=>?_
  ·have h1:=(Hl h).1;have h2:=(Hl h).2.1;have h3:=(Hl h).2.2
   have e1:=(Prod.mk.inj h3).1;have h3:=(Prod.mk.inj h3).2
   have e2:=(Prod.mk.inj h3).1;have e3:=(Prod.mk.inj h3).2
   have n1:=(Ep e1.symm Q.f0).1
   have n2:=(Ep e2.symm Q.t0).1
   show mZ (Ai v)++mZ (md v)++(match Ah v==0 with|true=>[]|false=>[mX (Ah v).toNat+32])=_
   (refine e3.symm▸?_;refine n1▸?_;refine n2▸?_);rfl
  ·have h:(if pB e=0 then none else Ii (BJ R [a,b]) (BJ R [c,d]) (pB e))=some (Ai v,md v,Ah v):=h
   split at h
   ·exact Ao h
   ·rename_i z
    obtain⟨p,p2,p6,ep,ee⟩:=Yz z
    have h1:=(Hl h).1;have h2:=(Hl h).2.1;have h3:=(Hl h).2.2
    have e1:=(Prod.mk.inj h3).1;have h3:=(Prod.mk.inj h3).2
    have e2:=(Prod.mk.inj h3).1;have e3:=(Prod.mk.inj h3).2
    have n1:=(Ep e1.symm Q.f0).1
    have n2:=(Ep e2.symm Q.t0).1
    replace e3:=ep▸e3
    show mZ (Ai v)++mZ (md v)++(match Ah v==0 with|true=>[]|false=>[mX (Ah v).toNat+32])=_
    (refine e3.symm▸?_;refine n1▸?_;refine n2▸?_;refine(show((p:Int)==0)=false by rw[gQ];exact iD (M6 (Int.ofNat_le.mpr p2))).symm▸?_;refine ee.symm▸?_);rfl
  ·exact AM (LE s4 s5) h
theorem JD{s:Int}(h0:0<=s)(h1:s<20):oV s=[49+(s.fmod 4).toNat,49+(s.fdiv 4).toNat]:=by
 unfold oV
 have q:∀j:Nat,j<4->48+(AE (97+j) [97,98,99,100] 0+1).toNat=49+j:=fun j hj=>by
  rcases(by lia:j=0\/j=1\/j=2\/j=3)with e|e|e|e<;>subst e<;>rfl
 rw[q _ (by lia)]
theorem ZM(h:0<=a/\a<4/\0<=b/\b<R)(k:0<=c/\c<4/\0<=d/\d<R):Ik R a b c d p=some (b*4+a,d*4+c,p):=by
 unfold Ik JK
 (refine(gz h.1).symm▸?_;refine(gz h.2.1).symm▸?_;refine(gz h.2.2.1).symm▸?_;refine(gz h.2.2.2).symm▸?_;refine(gz k.1).symm▸?_;refine(gz k.2.1).symm▸?_;refine(gz k.2.2.1).symm▸?_;refine(gz k.2.2.2).symm▸?_);rfl
theorem Ho(h:Ik R a b c d p=some q):(0<=a/\a<4/\0<=b/\b<R)/\(0<=c/\c<4/\0<=d/\d<R)/\q=(b*4+a,d*4+c,p):=by
 unfold Ik JK at h
 split at h
 ·rename_i z
  simp only[gI,hG]at z
  obtain rfl:=Option.some.inj h
  exact⟨⟨z.1.1,z.1.2.1,z.1.2.2.1,z.1.2.2.2⟩,⟨z.2.1,z.2.2.1,z.2.2.2.1,z.2.2.2.2⟩,rfl⟩
 ·exact Ao h
theorem aP(h2:2<=p)(h6:p<6):∃e,pL p=[e]/\(0<=fd e/\fd e<4)/\5 - fd e=p:=by
 rcases(by lia:p=2\/p=3\/p=4\/p=5)with e|e|e|e<;>subst e
 ·exact⟨52,rfl,by decide,rfl⟩
 ·exact⟨51,rfl,by decide,rfl⟩
 ·exact⟨50,rfl,by decide,rfl⟩
 ·exact⟨49,rfl,by decide,rfl⟩
theorem Xi{e:Nat}(h0:0<=fd e)(h1:fd e<4):∃p:Nat,2<=p/\p<6/\5 - fd e=p/\pL p=[e]:=by
 have z:=(Fx (a:=e) rfl h0).1
 have z:e=49+(fd e).toNat:=z
 rcases(by lia:fd e=0\/fd e=1\/fd e=2\/fd e=3)with q|q|q|q<;>rw[q]at z ⊢<;>subst z
 ·exact⟨5,by decide,by decide,rfl,rfl⟩
 ·exact⟨4,by decide,by decide,rfl,rfl⟩
 ·exact⟨3,by decide,by decide,rfl,rfl⟩
 ·exact⟨2,by decide,by decide,rfl,rfl⟩
theorem DM{s:Int}(h0:0<=s)(h1:s<4*R)(hR:R<=5):fd (49+(s.fmod 4).toNat)=s.fmod 4/\fd (49+(s.fdiv 4).toNat)=s.fdiv 4/\(0<=s.fmod 4/\s.fmod 4<4/\0<=s.fdiv 4/\s.fdiv 4<R)/\s.fdiv 4*4+s.fmod 4=s:=by
 have a:=(Bp h0 (by lia)).1;have b:=(Bp h0 (by lia)).2.1;have c:=(Bp h0 (by lia)).2.2.1;have d:=(Bp h0 (by lia)).2.2.2.1;have e:=(Bp h0 (by lia)).2.2.2.2
 refine⟨?_,?_,⟨a,b,c,by lia⟩,e.symm⟩
 ·show AE _ nX 0=_;(rewrite[Ml (by lia)];refine(gX a).symm▸?_;rfl)
 ·show AE _ nX 0=_;(rewrite[Ml (by lia)];refine(gX c).symm▸?_;rfl)
theorem GA(h:0<=fd a/\fd a<4/\0<=fd b/\fd b<R)(hR:R<=5)(e:s=fd b*4+fd a):oV s=[a,b]:=by
 obtain⟨m1,m2⟩:=J2 h.1 h.2.1 h.2.2.1
 rw[<- e]at m1 m2
 have ea:a=49+(fd a).toNat:=(Fx (a:=a) rfl h.1).1
 have eb:b=49+(fd b).toNat:=(Fx (a:=b) rfl h.2.2.1).1
 rw[JD (by lia) (by lia),m1,m2,<- ea,<- eb]
theorem Q8(Q:Sq R v):oM v=t↔KW R t=some (Ai v,md v,Ah v):=by
 have f1:=(DM Q.f0 Q.f1 Q.R5).1;have f2:=(DM Q.f0 Q.f1 Q.R5).2.1;have f3:=(DM Q.f0 Q.f1 Q.R5).2.2.1;have f4:=(DM Q.f0 Q.f1 Q.R5).2.2.2
 have t1:=(DM Q.t0 Q.t1 Q.R5).1;have t2:=(DM Q.t0 Q.t1 Q.R5).2.1;have t3:=(DM Q.t0 Q.t1 Q.R5).2.2.1;have t4:=(DM Q.t0 Q.t1 Q.R5).2.2.2
 have R5:=Q.R5
 constructor
 ·intro e
  subst e
  unfold oM PC
  (refine(JD Q.f0 Q.pt).symm▸?_;refine(JD Q.t0 Q.oy).symm▸?_)
  rcases FF Q.pr with e|⟨p,p1,p7,p2,p6,e,z,kl,c1,c2⟩
  ·refine e.symm▸?_
   show Ik R (fd (49+((Ai v).fmod 4).toNat)) (fd (49+((Ai v).fdiv 4).toNat)) (fd (49+((md v).fmod 4).toNat)) (fd (49+((md v).fdiv 4).toNat)) 0=_
   (refine f1.symm▸?_;refine f2.symm▸?_;refine t1.symm▸?_;refine t2.symm▸?_;rewrite[ZM f3 t3];refine f4.symm▸?_;refine t4.symm▸?_;rfl)
  ·obtain⟨d,ed,hd,ep⟩:=aP p2 p6
   (refine e.symm▸?_;refine z.symm▸?_)
   refine ed.symm▸?_
   show(match decide (0<=fd d)&&decide (fd d<4)with|true=>Ik R (fd (49+((Ai v).fmod 4).toNat)) (fd (49+((Ai v).fdiv 4).toNat)) (fd (49+((md v).fmod 4).toNat)) (fd (49+((md v).fdiv 4).toNat)) (5 - fd d)|false=>none)=_
   (refine(gz hd.1).symm▸?_;refine(gz hd.2).symm▸?_;refine f1.symm▸?_;refine f2.symm▸?_;refine t1.symm▸?_;refine t2.symm▸?_;refine ep.symm▸?_)
   (rewrite[ZM f3 t3];refine f4.symm▸?_;refine t4.symm▸?_;rfl)
 ·intro h
  revert h
  refine Rt t (fun a b c d h=>?_) (fun a b c d e h=>?_) fun t s4 s5 h=>?_
  ·have h1:=(Ho h).1;have h2:=(Ho h).2.1;have h3:=(Ho h).2.2
   have e1:=(Prod.mk.inj h3).1;have h3:=(Prod.mk.inj h3).2
   have e2:=(Prod.mk.inj h3).1;have e3:=(Prod.mk.inj h3).2
   show oV (Ai v)++oV (md v)++(match Ah v==0 with|true=>[]|false=>pL (Ah v).toNat)=_
   (refine e3.symm▸?_;refine(GA h1 R5 e1).symm▸?_;refine(GA h2 R5 e2).symm▸?_);rfl
  ·have h:(match decide (0<=fd e)&&decide (fd e<4)with|true=>Ik R (fd a) (fd b) (fd c) (fd d) (5 - fd e)|false=>none)=some (Ai v,md v,Ah v):=h
   split at h
   ·rename_i z
    simp only[gI,hG]at z
    obtain⟨p,p2,p6,ep,ee⟩:=Xi z.1 z.2
    have h1:=(Ho h).1;have h2:=(Ho h).2.1;have h3:=(Ho h).2.2
    have e1:=(Prod.mk.inj h3).1;have h3:=(Prod.mk.inj h3).2
    have e2:=(Prod.mk.inj h3).1;have e3:=(Prod.mk.inj h3).2
    replace e3:=ep▸e3
    show oV (Ai v)++oV (md v)++(match Ah v==0 with|true=>[]|false=>pL (Ah v).toNat)=_
    (refine e3.symm▸?_;refine(GA h1 R5 e1).symm▸?_;refine(GA h2 R5 e2).symm▸?_;refine(show((p:Int)==0)=false by rw[gQ];exact iD (M6 (Int.ofNat_le.mpr p2))).symm▸?_)
    refine ee.symm▸?_;rfl
   ·exact Ao h
  ·exact AM (LF s4 s5) h
noncomputable def fl(f:Int):List Nat:=if f<0 then[] else[97+f.toNat]
noncomputable def rl(r:Int):List Nat:=if r<0 then[] else[49+r.toNat]
def pV(f:Int):Prop:=f = -1\/0<=f/\f<8
theorem XT(h:j<8):decide (97+j∈og)=true:=by
 rcases(by lia:j=0\/j=1\/j=2\/j=3\/j=4\/j=5\/j=6\/j=7)with e|e|e|e|e|e|e|e<;>subst e<;>decide
theorem Q9(h:j<8):decide (49+j∈nX)=true/\decide (49+j∈og)=false:=by
 rcases(by lia:j=0\/j=1\/j=2\/j=3\/j=4\/j=5\/j=6\/j=7)with e|e|e|e|e|e|e|e<;>subst e<;>decide
theorem JG:∀{l:List Nat} {i:Int},c∈l->0<=i->0<=AE c l i
 |x :: l,i,h,h0=>by
  unfold AE
  split
  ·exact h0
  ·rename_i e
   rcases List.mem_cons.mp h with z|z
   ·exact absurd z.symm e
   ·exact JG z (by exact OA h0)
theorem VY(f:Int)(h:pV r):E7 f (rl r)=some (f,r):=by
 unfold rl
 rcases h with e|⟨r0,r8⟩
 ·subst e;rfl
 ·rw[iI (by exact Int.not_lt.mpr (Oz r0)),Mj (Q9 (by lia)).1]
  show some (f,AE (49+r.toNat) nX 0)=_
  rw[Ml (by lia),gX r0]
theorem W9(hf:pV f)(hr:pV r):E6 (fl f++rl r)=some (f,r):=by
 unfold fl
 rcases hf with e|⟨f0,f8⟩
 ·subst e
  show E6 (rl r)=_
  rcases hr with e|⟨r0,r8⟩
  ·subst e;rfl
  ·have z:=VY (-1) (.inr ⟨r0,r8⟩:pV r)
   unfold rl at z ⊢
   rw[iI (by exact Int.not_lt.mpr (Oz r0))]at z ⊢
   rw[Py (Q9 (by lia)).2]
   exact z
 ·rw[iI (by exact Int.not_lt.mpr (Oz f0))]
  show E6 ((97+f.toNat) :: rl r)=_
  rw[Pz (XT (by lia)),UY (by lia),gX f0]
  exact VY f hr
theorem Le(h:E7 f o=some (a,b)):a=f/\o=rl b/\pV b:=by
 match o,h with
 |[],h=>cases Option.some.inj h;exact⟨rfl,rfl,.inl rfl⟩
 |c :: r,h=>
  cases e:decide (c∈nX) with
  |false=>exact AM (Q5 e) h
  |true=>
   replace h:=(Mj e)▸h
   match r,h with
   |[],h=>
    have h:=Option.some.inj h
    have h1:=(Prod.mk.inj h).1;have h2:=(Prod.mk.inj h).2
    have p:=JG (gH e) (iy 0)
    have q1:=(Fx h2 (by exact YK (iE h2) p)).1;have q2:=(Fx h2 (by exact YK (iE h2) p)).2
    refine⟨h1.symm,?_,.inr ⟨by exact YK (iE h2) p,q2⟩⟩
    unfold rl
    (rewrite[iI (by exact Int.not_lt.mpr (YK (iE h2) p))];refine q1.symm▸?_;rfl)
   |_ :: _,h=>exact Ao h
theorem Dr(h:E6 o=some (a,b)):o=fl a++rl b/\pV a/\pV b:=by
 match o,h with
 |[],h=>cases h;exact⟨rfl,.inl rfl,.inl rfl⟩
 |c :: r,h=>
  cases e:decide (c∈og) with
  |false=>
   rw[Py e]at h
   obtain⟨h1,h2,h3⟩:=Le h
   subst h1
   exact⟨h2,.inl rfl,h3⟩
  |true=>
   rw[Pz e]at h
   obtain⟨h1,h2,h3⟩:=Le h
   have p:=JG (gH e) (iy 0)
   obtain⟨q1,q2⟩:=Ru h1.symm (by exact cy (iE h1.symm) p)
   refine⟨?_,.inr ⟨by exact cy (iE h1.symm) p,q2⟩,h3⟩
   rw[<- h2]
   unfold fl
   rw[iI (by exact Int.not_lt.mpr (cy (iE h1.symm) p)),q1];rfl
theorem XF:(∀kd∈l,2<=kd/\kd<7)->qM x s l≠0->∃kd:Nat,2<=kd/\kd<7/\qM x s l=kd/\x=[mX kd]/\mX kd∈s:=by
 induction l with
 |nil=>exact fun _ h=>absurd rfl h
 |cons kd l ih=>
  intro hl h
  have pT:=fun q=>ih (fun z hz=>hl z (.tail _ hz)) q
  unfold qM at h ⊢
  cases e:[mX kd]==x with
  |true=>
   rw[e]at h
   cases e2:decide (mX kd∈s) with
   |true=>exact⟨kd,(hl kd (.head _)).1,(hl kd (.head _)).2,rfl,(gN e).symm,gH e2⟩
   |false=>rw[e2]at h;exact pT h
  |false=>rw[e]at h;exact pT h
theorem MD(h:nI x s≠0):∃kd:Nat,2<=kd/\kd<7/\nI x s=kd/\x=[mX kd]/\mX kd∈s:=XF (by decide) h
theorem eA(h2:2<=kd)(h7:kd<7):nI [mX kd] pI=kd:=by
 rcases(by lia:kd=2\/kd=3\/kd=4\/kd=5\/kd=6)with e|e|e|e|e<;>subst e<;>rfl
theorem ZP(h2:2<=kd)(h6:kd<6):nI [mX kd] pd=kd:=by
 rcases(by lia:kd=2\/kd=3\/kd=4\/kd=5)with e|e|e|e<;>subst e<;>rfl
theorem MJ(h2:2<=kd)(h7:kd<7):66<=mX kd/\mX kd<=82:=by
 rcases(by lia:kd=2\/kd=3\/kd=4\/kd=5\/kd=6)with e|e|e|e|e<;>subst e<;>decide
theorem MF(s:List Nat)(h:c<66\/82<c):nI [c] s=0:=by
 by_cases z:nI [c] s=0
 ·exact z
 ·obtain⟨kd,k2,k7,_,e,_⟩:=MD z
  have:=MJ k2 k7
  lia
noncomputable def mid(a:Ask)(o:List Nat):List Nat:=o++BC a.x []++mZ a.g
structure Nt(R:Int)(a:Ask)(o:List Nat):Prop where
 cut:E6 o=some (a.f,a.r)
 g0:0<=a.g
 g1:a.g<4*R
 ok:((a.k==1)&&(a.x&&decide (a.f<0)))=false
theorem Ry(o:List Nat)(s:Int):Cg (o++mZ s)=mZ s/\BV (o++mZ s)=o:=Lo o _ _
theorem bj(h:E6 o=some (f,r)):(AF o==[120])=false:=by
 obtain⟨e,hf,hr⟩:=Dr h
 rw[gQ]
 intro z
 have s:=Nd o
 rw[z]at s
 unfold fl rl at e
 have q:∀c:Nat,[c]=[120]->c=120:=fun c h=>(List.cons.inj h).1
 rcases hr with hr|hr
 ·rw[iJ (show r<0 by exact cz (iE hr)),gE]at e
  split at e
  ·subst e;cases z
  ·subst e
   have:=(Br [] (97+f.toNat)).1
   rw[jJ]at this
   rw[this]at z
   have:=q _ z
   rcases hf with hf|hf<;>lia
 ·rw[iI (show ¬r<0 by exact Int.not_lt.mpr (Oz hr.1))]at e
  subst e
  rw[(Br _ (49+r.toNat)).1]at z
  have:=q _ z
  lia
theorem cY{a:Ask}(hR:R<=5)(M:Nt R a o):oH R a.k a.p (mid a o)=some a:=by
 have n1:=(Ry (o++BC a.x []) a.g).1;have n2:=(Ry (o++BC a.x []) a.g).2
 have rg:=HD M.g0 M.g1 hR
 unfold oH mid
 (refine n1.symm▸?_;refine n2.symm▸?_;refine rg.symm▸?_;refine(gS (show ¬a.g<0 by have:=M.g0;lia)).symm▸?_)
 have fin:rP a.k a.p a.g a.x (some (a.f,a.r))=some a:=by
  show(match(a.k==1)&&(a.x&&decide (a.f<0))with|true=>none|false=>some _)=_
  (refine M.ok.symm▸?_;rfl)
 cases ex:a.x with
 |true=>
  replace fin:=ex▸fin
  have l1:=(Br o 120).1;have l2:=(Br o 120).2
  show(match AF (o++[120])==[120]with|true=>rP a.k a.p a.g true (E6 (A8 (o++[120])))|false=>_)=_
  (refine l1.symm▸?_;refine l2.symm▸?_;refine M.cut.symm▸?_)
  exact fin
 |false=>
  replace fin:=ex▸fin
  show(match AF (o++[])==[120]with|true=>_|false=>rP a.k a.p a.g false (E6 (o++[])))=_
  (rewrite[gE];refine(bj M.cut).symm▸?_;refine M.cut.symm▸?_)
  exact fin
theorem B3{a:Ask}(h:rP k p g x q=some a):q=some (a.f,a.r)/\a.k=k/\a.p=p/\a.g=g/\a.x=x/\((a.k==1)&&(a.x&&decide (a.f<0)))=false:=by
 induction q with
 |none=>exact Ao h
 |some q=>
  have h:(match(k==1)&&(x&&decide (q.1<0))with|true=>none|false=>some (⟨k,q.1,q.2,x,g,p⟩:Ask))=some a:=h
  split at h
  ·exact Ao h
  ·rename_i z
   obtain rfl:=Option.some.inj h
   exact⟨rfl,rfl,rfl,rfl,rfl,z⟩
theorem IJ{a:Ask}(h:oH R k p b=some a):a.k=k/\a.p=p/\∃o,b=mid a o/\Nt R a o:=by
 unfold oH at h
 split at h
 ·exact Ao h
 ·rename_i z
  have g0:0<=BJ R (Cg b):=by have:=ii z;lia
  have n1:=(Ep rfl g0).1;have n2:=(Ep rfl g0).2
  have s2:=cZ b
  split at h
  ·rename_i e
   have c1:=(B3 h).1;have c2:=(B3 h).2.1;have c3:=(B3 h).2.2.1;have c4:=(B3 h).2.2.2.1;have c5:=(B3 h).2.2.2.2.1;have c6:=(B3 h).2.2.2.2.2
   have s1:=Nd (BV b)
   replace s1:=(gN e)▸s1
   refine⟨c2,c3,A8 (BV b),?_,⟨c1,by refine c4.symm▸?_;exact g0,by refine c4.symm▸?_;exact n2,c6⟩⟩
   unfold mid
   (rewrite[c4];rewrite[c5];refine n1▸?_)
   show _=A8 (BV b)++[120]++Cg b
   (refine s1.symm▸?_;refine s2.symm▸?_;rfl)
  ·have c1:=(B3 h).1;have c2:=(B3 h).2.1;have c3:=(B3 h).2.2.1;have c4:=(B3 h).2.2.2.1;have c5:=(B3 h).2.2.2.2.1;have c6:=(B3 h).2.2.2.2.2
   refine⟨c2,c3,BV b,?_,⟨c1,by refine c4.symm▸?_;exact g0,by refine c4.symm▸?_;exact n2,c6⟩⟩
   unfold mid
   (refine c4.symm▸?_;refine c5.symm▸?_;refine n1▸?_)
   show _=BV b++[]++Cg b
   (rewrite[gE];refine s2.symm▸?_;rfl)
theorem Hn(c:Nat)(r:List Nat):CQ (c :: r)=[c]:=by
 unfold CQ
 rw[gR,show min 1 (r.length+1)=1 by lia];rfl
structure Ty(R:Int)(a:Ask)(kd:Nat)(o e:List Nat):Prop where
 M:Nt R a o
 k:a.k=kd
 k1:1<=kd
 k7:kd<7
 e:2<=kd/\e=[]/\a.p=0\/kd=1/\e∈Cl a.p/\(a.p=0\/∃p:Nat,2<=p/\p<6/\a.p=p)
theorem U9{R:Int}{a:Ask}{o:List Nat}(M:Nt R a o):∃c r,mid a o=c :: r/\(c<66\/82<c):=by
 have e:=(Dr M.cut).1;have hf:=(Dr M.cut).2.1;have hr:=(Dr M.cut).2.2
 unfold mid
 refine e.symm▸?_
 unfold fl rl
 rcases hf with hf|hf
 ·refine(iJ (show a.f<0 by exact cz (iE hf))).symm▸?_
  rcases hr with hr|hr
  ·refine(iJ (show a.r<0 by exact cz (iE hr))).symm▸?_
   cases a.x with
   |true=>exact⟨120,_,rfl,.inr (by decide)⟩
   |false=>exact⟨97+(a.g.fmod 4).toNat,_,rfl,.inr (by exact fx)⟩
  ·refine(iI (show ¬a.r<0 by exact Int.not_lt.mpr (Oz hr.1))).symm▸?_
   exact⟨49+a.r.toNat,_,rfl,.inl (by lia)⟩
 ·refine(iI (show ¬a.f<0 by exact Int.not_lt.mpr (Oz hf.1))).symm▸?_
  exact⟨97+a.f.toNat,_,rfl,.inr (by exact fx)⟩
theorem Va{R:Int}{a:Ask}{o:List Nat}(hR:R<=5)(M:Nt R a o):∃c,AF (mid a o)=[c]/\c<61:=by
 have e:mid a o=(o++BC a.x []++[97+(a.g.fmod 4).toNat])++[49+(a.g.fdiv 4).toNat]:=by
  rw[gv _ [97+(a.g.fmod 4).toNat]];rfl
 have h:=(Bp M.g0 (by have:=M.g1;lia)).2.2.2.1
 (refine e.symm▸?_;refine((Br _ _).1).symm▸?_)
 exact⟨_,rfl,by lia⟩
theorem VK{v:Int}(pr:v=0\/∃p:Nat,2<=p/\p<6/\v=p):v=0\/∃p:Nat,2<=p/\p<6/\v=p/\((p:Int)==0)=false:=by
 rcases pr with e|⟨p,p2,p6,e⟩
 ·exact .inl e
 ·exact .inr ⟨p,p2,p6,e,by rw[gQ];exact iD (M6 (Int.ofNat_le.mpr p2))⟩
theorem cX{R:Int}{a:Ask}{kd:Nat}{o e:List Nat}(hR:R<=5)(A:Ty R a kd o e):oU R (DY kd++mid a o++e)=some a:=by
 have B:=cY hR A.M
 rw[A.k]at B
 rcases A.e with⟨k2,e0,p0⟩|⟨k1,he,hp⟩
 ·subst e0
  rw[p0]at B
  rw[De k2,gE]
  unfold oU
  show(match nI (CQ (mX kd :: mid a o)) pI != 0 with|true=>oH R (nI (CQ (mX kd :: mid a o)) pI) 0 (GW (mX kd :: mid a o))|false=>_)=_
  rw[Hn,N3,eA k2 A.k7,show((kd:Int) != 0)=true by rw[ig];exact iD (M6 (Int.ofNat_le.mpr k2))]
  exact B
 ·subst k1
  obtain⟨c,r,em,hc⟩:=U9 A.M
  obtain⟨d,ed,hd⟩:=Va hR A.M
  have hh:∀e,nI (CQ (mid a o++e)) pI=0:=fun e=>by rw[em,List.cons_append,Hn];exact MF _ hc
  show oU R ([]++mid a o++e)=_
  rw[jJ]
  unfold oU
  rw[hh]
  show(match nI (AF (mid a o++e)) pd != 0 with|true=>(match AF (A8 (mid a o++e))==[61]with|true=>oH R 1 (nI (AF (mid a o++e)) pd) (A8 (A8 (mid a o++e)))|false=>oH R 1 (nI (AF (mid a o++e)) pd) (A8 (mid a o++e)))|false=>oH R 1 (nI (AF (mid a o++e)) pd) (mid a o++e))=_
  rcases VK hp with p0|⟨p,p2,p6,ep,z⟩
  ·rw[p0]at he B
   have e0:e=[]:=List.mem_singleton.mp he
   rw[e0,gE,ed,MF _ (.inl (by exact mP (mo _) (mu 0 1) (.num 66) (mu 0 1) (.num 61) rfl hd))]
   exact B
  ·rw[ep]at he B
   unfold Cl at he
   rw[z]at he
   have he:e∈[[61]++[mX p],[mX p]]:=he
   simp only[hH,j5,lL]at he
   have nz:((p:Int) != 0)=true:=by rw[ig];exact iD (M6 (Int.ofNat_le.mpr p2))
   rcases he with he|he
   ·subst he
    rw[<- gv,(Br _ _).1,(Br _ _).2,ZP p2 p6,nz,(Br _ _).1,(Br _ _).2]
    exact B
   ·subst he
    rw[(Br _ _).1,(Br _ _).2,ZP p2 p6,nz,ed]
    show(match[d]==[61]with|true=>_|false=>oH R 1 p (mid a o))=_
    rw[show([d]==[61])=false by rw[gQ];intro w;have:=(List.cons.inj w).1;lia]
    exact B
theorem Za{R:Int}{a:Ask}{t:List Nat}(h:oU R t=some a):∃kd o e,Ty R a kd o e/\t=DY kd++mid a o++e:=by
 unfold oU at h
 split at h
 ·rename_i z
  obtain⟨kd,k2,k7,ek,ex,_⟩:=MD (bne_iff_ne.mp z)
  obtain⟨b1,b2,o,e,M⟩:=IJ h
  replace b1:=ek▸b1
  refine⟨kd,o,[],⟨M,b1,by exact Qi k2,k7,.inl ⟨k2,rfl,b2⟩⟩,?_⟩
  (rewrite[De k2];rewrite[<- ex];refine e▸?_;rewrite[gE];rewrite[c7];rfl)
 ·split at h
  ·rename_i z
   obtain⟨p,p2,p7,ep,ex,hm⟩:=MD (bne_iff_ne.mp z)
   have p6:p<6:=by
    rcases(by lia:p<6\/p=6)with w|w
    ·exact w
    ·subst w;exact absurd hm (by decide)
   have nz:((p:Int)==0)=false:=by rw[gQ];exact iD (M6 (Int.ofNat_le.mpr p2))
   have s1:=Nd t
   replace s1:=ex▸s1
   split at h
   ·rename_i z2
    have s2:=Nd (A8 t)
    replace s2:=(gN z2)▸s2
    obtain⟨b1,b2,o,e,M⟩:=IJ h
    replace b2:=ep▸b2
    refine⟨1,o,[61]++[mX p],⟨M,b1,by decide,by decide,.inr ⟨rfl,?_,.inr ⟨p,p2,p6,b2⟩⟩⟩,?_⟩
    ·unfold Cl;(refine b2.symm▸?_;refine nz.symm▸?_);exact gK
    ·show t=[]++mid a o++([61]++[mX p])
     (rewrite[jJ];rewrite[<- e];rewrite[<- gv];rewrite[s2];refine s1.symm▸?_;rfl)
   ·obtain⟨b1,b2,o,e,M⟩:=IJ h
    replace b2:=ep▸b2
    refine⟨1,o,[mX p],⟨M,b1,by decide,by decide,.inr ⟨rfl,?_,.inr ⟨p,p2,p6,b2⟩⟩⟩,?_⟩
    ·unfold Cl;(refine b2.symm▸?_;refine nz.symm▸?_);exact gA _ gK
    ·show t=[]++mid a o++[mX p]
     (rewrite[jJ];refine e▸?_;refine s1.symm▸?_;rfl)
  ·rename_i z
   have p0:nI (AF t) pd=0:=by simpa using z
   obtain⟨b1,b2,o,e,M⟩:=IJ h
   replace b2:=p0▸b2
   refine⟨1,o,[],⟨M,b1,by decide,by decide,.inr ⟨rfl,?_,.inl b2⟩⟩,?_⟩
   ·refine b2.symm▸?_;exact gK
   ·show t=[]++mid a o++[]
    rw[gE];exact e
structure Wd(R:Int)(st:St)(v:Int)(kd:Nat):Prop where
 q:Sq R v
 k1:1<=kd
 k7:kd<7
 k:ou st v=kd
 p:Ah v≠0->kd=1
theorem Wz{l:List (List Nat)}:(l.any (·==b))=true↔b∈l:=by
 rw[List.any_eq_true]
 constructor
 ·rintro⟨x,h,e⟩;refine(gN e)▸?_;exact h
 ·intro h;exact⟨b,h,ip b⟩
theorem Ds{st:St}{a:Ask}{v:Int}:Ef st a v=true↔md v=a.g/\Ah v=a.p/\ou st v=a.k/\mY st v=a.x/\(a.f<0\/(Ai v).fmod 4=a.f)/\(a.r<0\/(Ai v).fdiv 4=a.r):=by
 unfold Ef
 simp only[gI,ia,iw,hG]
theorem bX(h:1<=k):k=1\/2<=k:=(Nat.eq_or_lt_of_le h).imp Eq.symm id
theorem TN{R:Int}{st:St}{v:Int}{kd:Nat}{b:List Nat}(W:Wd R st v kd):Eh st b v=true↔∃a,oU R b=some a/\Ef st a v=true:=by
 have Q:=W.q
 have m0:=(Bp Q.f0 Q.pt).1;have m1:=(Bp Q.f0 Q.pt).2.1;have d0:=(Bp Q.f0 Q.pt).2.2.1;have d1:=(Bp Q.f0 Q.pt).2.2.2.1;have me:=(Bp Q.f0 Q.pt).2.2.2.2
 have kk:(ou st v).toNat=kd:=by refine W.k.symm▸?_;rfl
 have sH:fl ((Ai v).fmod 4)=[97+((Ai v).fmod 4).toNat]:=iI (Int.not_lt.mpr m0)
 have tV:rl ((Ai v).fdiv 4)=[49+((Ai v).fdiv 4).toNat]:=iI (Int.not_lt.mpr d0)
 have flz:∀x:Int,x<0->fl x=[]:=fun x h=>iJ h
 have vh:∀x:Int,x<0->rl x=[]:=fun x h=>iJ h
 unfold Eh
 rw[Wz]
 unfold pf DK
 refine kk.symm▸?_
 constructor
 ·intro h
  obtain⟨o,ho,h⟩:=List.mem_flatMap.mp h
  obtain⟨e,he,rfl⟩:=List.mem_map.mp h
  have sI:∃f r,E6 o=some (f,r)/\(f<0\/(Ai v).fmod 4=f)/\(r<0\/(Ai v).fdiv 4=r)/\(((kd==1)&&mY st v)=true->0<=f):=by
   have mk:∀f r,pV f->pV r->o=fl f++rl r->(f<0\/(Ai v).fmod 4=f)->(r<0\/(Ai v).fdiv 4=r)->(((kd==1)&&mY st v)=true->0<=f)->∃f r,E6 o=some (f,r)/\(f<0\/(Ai v).fmod 4=f)/\(r<0\/(Ai v).fdiv 4=r)/\(((kd==1)&&mY st v)=true->0<=f):=
    fun f r hf hr e a b c=>⟨f,r,by refine e.symm▸?_;exact W9 hf hr,a,b,c⟩
   have i1:pV (-1):=.inl rfl
   have im:pV ((Ai v).fmod 4):=.inr ⟨m0,iO m1 (by decide)⟩
   have id:pV ((Ai v).fdiv 4):=.inr ⟨d0,iO d1 (by decide)⟩
   unfold EM at ho
   cases ex:(kd==1)&&mY st v with
   |true=>
    (replace ho:=ex▸ho;replace mk:=ex▸mk)
    simp only[hH,j5,lL]at ho
    rcases ho with ho|ho
    ·exact mk _ _ im i1 (by(refine sH.symm▸?_;refine ho.symm▸?_);rfl) (.inr rfl) (.inl (by decide)) fun _=>m0
    ·exact mk _ _ im id (by(refine sH.symm▸?_;refine tV.symm▸?_;refine ho.symm▸?_);rfl) (.inr rfl) (.inr rfl) fun _=>m0
   |false=>
    (replace ho:=ex▸ho;replace mk:=ex▸mk)
    simp only[hH,j5,lL]at ho
    rcases ho with ho|ho|ho|ho
    ·exact mk _ _ i1 i1 (by refine ho.symm▸?_;rfl) (.inl (by decide)) (.inl (by decide)) fun z=>by exact Dd z
    ·exact mk _ _ im i1 (by(refine sH.symm▸?_;refine ho.symm▸?_);rfl) (.inr rfl) (.inl (by decide)) fun z=>by exact Dd z
    ·exact mk _ _ i1 id (by(refine tV.symm▸?_;refine ho.symm▸?_);rfl) (.inl (by decide)) (.inr rfl) fun z=>by exact Dd z
    ·exact mk _ _ im id (by(refine sH.symm▸?_;rewrite[tV];rewrite[ho]);rfl) (.inr rfl) (.inr rfl) fun z=>by exact Dd z
  obtain⟨f,r,hc,hf,hr,hx⟩:=sI
  have A:Ty R ⟨kd,f,r,mY st v,md v,Ah v⟩ kd o e:=by
   refine⟨⟨hc,Q.t0,Q.t1,?_⟩,rfl,W.k1,W.k7,?_⟩
   ·show(((kd:Int)==1)&&(mY st v&&decide (f<0)))=false
    cases ek:((kd:Int)==1) with
    |false=>rfl
    |true=>
     have ek:kd=1:=Int.ofNat.inj (gN ek)
     cases ek
     cases ex:mY st v with
     |false=>rfl
     |true=>
      have:=hx (by refine ex.symm▸?_;rfl)
      refine(gS (Int.not_lt.mpr this)).symm▸?_;rfl
   ·by_cases p0:Ah v=0
    ·have he0:e=[]:=by
      replace he:=p0▸he
      exact List.mem_singleton.mp he
     rcases bX W.k1 with z|z
     ·exact .inr ⟨z,he,.inl p0⟩
     ·exact .inl ⟨z,he0,p0⟩
    ·exact .inr ⟨W.p p0,he,Q.pr⟩
  have z:=cX Q.R5 A
  refine⟨⟨kd,f,r,mY st v,md v,Ah v⟩,?_,Ds.mpr ⟨rfl,rfl,W.k,rfl,hf,hr⟩⟩
  refine z▸?_
  unfold EY mid
  rw[gv (DY kd),gv (DY kd)]
 ·rintro⟨a,ha,hf⟩
  obtain⟨pE,o,e,A,et⟩:=Za ha
  have e1:=(Ds.mp hf).1;have e2:=(Ds.mp hf).2.1;have e3:=(Ds.mp hf).2.2.1;have e4:=(Ds.mp hf).2.2.2.1;have e5:=(Ds.mp hf).2.2.2.2.1;have e6:=(Ds.mp hf).2.2.2.2.2
  have ek:pE=kd:=Int.ofNat.inj (A.k.symm.trans (e3.symm.trans W.k))
  subst ek
  have eo:=(Dr A.M.cut).1;have hf8:=(Dr A.M.cut).2.1;have hr8:=(Dr A.M.cut).2.2
  refine List.mem_flatMap.mpr ⟨o,?_,List.mem_map.mpr ⟨e,?_,?_⟩⟩
  ·have ok:=A.M.ok
   (rw[A.k]at ok;replace ok:=(e4).symm▸ok)
   unfold EM
   have ff:¬a.f<0->fl a.f=[97+((Ai v).fmod 4).toNat]:=fun h=>by
    rcases e5 with z|z
    ·exact absurd z h
    ·refine z▸?_;exact sH
   have rr:¬a.r<0->rl a.r=[49+((Ai v).fdiv 4).toNat]:=fun h=>by
    rcases e6 with z|z
    ·exact absurd z h
    ·refine z▸?_;exact tV
   cases ex:(pE==1)&&mY st v with
   |true=>
    have nf:¬a.f<0:=fun h=>by
     simp only[gI,iw]at ex
     (rw[ex.1,ex.2]at ok;replace ok:=(gz h)▸ok)
     exact FT ok
    (refine eo.symm▸?_;rewrite[ff nf])
    by_cases hr:a.r<0
    ·refine(vh _ hr).symm▸?_;exact gK
    ·refine(rr hr).symm▸?_;exact gA _ gK
   |false=>
    refine eo.symm▸?_
    by_cases hf:a.f<0
    ·refine(flz _ hf).symm▸?_
     by_cases hr:a.r<0
     ·refine(vh _ hr).symm▸?_;exact gK
     ·exact(rr hr)▸(gA _ (gA _ gK))
    ·refine(ff hf).symm▸?_
     by_cases hr:a.r<0
     ·refine(vh _ hr).symm▸?_;exact gA _ gK
     ·refine(rr hr).symm▸?_;exact gA _ (gA _ (gA _ gK))
  ·refine e2.symm▸?_
   rcases A.e with⟨_,z,p0⟩|⟨_,z,_⟩
   ·(refine z.symm▸?_;refine p0.symm▸?_);exact gK
   ·exact z
  ·(rewrite[et];refine e4.symm▸?_;refine e1.symm▸?_)
   unfold EY mid
   rw[gv (DY pE),gv (DY pE)]
theorem VT(R:Int)(b:Nat)(h:AE a og 0 = -1):BJ R [a,b] = -1:=by
 show Nf R (AE a og 0) (AE b nX 0) = -1
 refine h.symm▸?_
 exact iJ (.inl (by decide))
theorem Qu(R:Int):oU R Go=none:=by
 rw[show oU R Go=oH R 1 0 Go from rfl]
 unfold oH
 rw[show Cg Go=[45,79]from rfl];rfl
theorem SR(R:Int):oU R LT=none:=by
 rw[show oU R LT=oH R 1 0 LT from rfl]
 unfold oH
 rw[show Cg LT=[45,79]from rfl];rfl
theorem CD{α:Type}{p q:α->Bool}:∀{l:List α},(∀x∈l,p x=q x)->l.find? p=l.find? q
 |[],_=>rfl
 |x :: l,h=>by
  rw[io,io,h x gK,CD fun y hy=>h y (gA _ hy)]
theorem CE{α:Type}{p:α->Bool}{l:List α}(h:∀x∈l,p x=false):l.find? p=none:=List.find?_eq_none.mpr fun x hx=>by rw[h x hx];exact iN
theorem Uu{α:Type}{p q:α->Bool}{l:List α}:(∀x∈l,∀y∈l,p x=true->p y=true->q x=q y)->l.find? (fun x=>p x&&q x)=(l.find? p).filter q:=by
 induction l with
 |nil=>exact fun _=>rfl
 |cons x l ih=>
  intro h
  have ih:=ih fun a ha b hb=>h a (.tail _ ha) b (.tail _ hb)
  (rewrite[io];refine List.find?_cons.symm▸?_)
  cases e:p x with
  |false=>exact ih
  |true=>
   cases e2:q x with
   |true=>exact(iJ e2).symm
   |false=>
    refine Eq.trans (CE fun y hy=>?_) (iI fun z=>Dd (e2.symm.trans z)).symm
    cases ey:p y with
    |false=>rfl
    |true=>(refine(h x (.head _) y (.tail _ hy) e ey)▸?_;refine e2.symm▸?_);rfl
theorem K3(s mk:List Nat):([[],mk].any (·==s))=Db s mk:=by
 show([]==s||(mk==s||false))=_
 rw[jv]
 induction s using List.casesOn<;>rfl
structure Tab(R:Int)(st:St)(mk:Int->List Nat)(L:List Int):Prop where
 w:∀v∈L,∃kd,Wd R st v kd
 lg:∀v∈L,∀w∈L,n8 st v=n8 st w->mk v=mk w
section
variable{R:Int}{st:St}{mk:Int->List Nat}{L:List Int}
theorem V0(T:Tab R st mk L)(b:List Nat):Ly (CF R st L b)=Vy (L.filter (Eh st b)):=by
 have off:oU R b=none->L.filter (Eh st b)=[]:=fun e=>List.filter_eq_nil_iff.mpr fun v hv h=>by
  obtain⟨kd,W⟩:=T.w v hv
  obtain⟨a,ha,_⟩:=(TN W).mp h
  exact AM e ha
 unfold CF
 cases e1:b==Go with
 |true=>rw[off (by refine(gN e1).symm▸?_;exact Qu R)];rfl
 |false=>
  cases e2:b==LT with
  |true=>refine(off (by rw[gN e2];exact SR R)).symm▸?_;rfl
  |false=>
   cases e:oU R b with
   |none=>refine(off e).symm▸?_;rfl
   |some a=>
    have q:L.filter (Ef st a)=L.filter (Eh st b):=List.filter_congr fun v hv=>by
     obtain⟨kd,W⟩:=T.w v hv
     have z:=TN (b:=b) W
     cases h:Eh st b v with
     |true=>
      obtain⟨a',ha,hf⟩:=z.mp h
      obtain rfl:=same e ha
      exact hf
     |false=>
      cases h2:Ef st a v with
      |false=>rfl
      |true=>exact Ex (z.mpr ⟨a,e,h2⟩) h
    refine q▸?_
    show Ly (some (L.filter (Ef st a)))=_
    match L.filter (Ef st a) with
    |[]=>rfl
    |[_]=>rfl
    |_ :: _ :: _=>rfl
theorem Zs(T:Tab R st mk L)(t:List Nat):((KV R t).bind fun q=>L.find? (Du q))=L.find? (fun v=>wF v==t):=by
 cases e:KV R t with
 |none=>
  refine(CE fun v hv=>?_).symm
  obtain⟨kd,W⟩:=T.w v hv
  rw[gQ]
  intro z
  exact AM e ((O0 W.q).mp z)
 |some q=>
  refine CD fun v hv=>?_
  obtain⟨kd,W⟩:=T.w v hv
  have z:=O0 (t:=t) W.q
  rw[e]at z
  rw[jN,Rm,iw,z]
  exact⟨fun h=>by exact congrArg _ h,fun h=>Option.some.inj h⟩
theorem aQ(T:Tab R st mk L)(t:List Nat):((KW R t).bind fun q=>L.find? (Du q))=L.find? (fun v=>oM v==t):=by
 cases e:KW R t with
 |none=>
  refine(CE fun v hv=>?_).symm
  obtain⟨kd,W⟩:=T.w v hv
  rw[gQ]
  intro z
  exact AM e ((Q8 W.q).mp z)
 |some q=>
  refine CD fun v hv=>?_
  obtain⟨kd,W⟩:=T.w v hv
  have z:=Q8 (t:=t) W.q
  rw[e]at z
  rw[jN,Rm,iw,z]
  exact⟨fun h=>by exact congrArg _ h,fun h=>Option.some.inj h⟩
end
theorem XR(h:j<9):AE (49+j) og 0 = -1:=by
 rcases(by lia:j=0\/j=1\/j=2\/j=3\/j=4\/j=5\/j=6\/j=7\/j=8)with e|e|e|e|e|e|e|e|e<;>subst e<;>rfl
theorem Xg(h2:2<=p)(h6:p<6):∃j,j<9/\pL p=[49+j]:=by
 rcases(by lia:p=2\/p=3\/p=4\/p=5)with e|e|e|e<;>subst e
 ·exact⟨3,by decide,rfl⟩
 ·exact⟨2,by decide,rfl⟩
 ·exact⟨1,by decide,rfl⟩
 ·exact⟨0,by decide,rfl⟩
theorem Qx:∀n:Nat,n<20->((n:Int).fmod 4).toNat<9/\((n:Int).fdiv 4).toNat<9:=by decide +kernel
theorem Ki{s:Int}(h0:0<=s)(h1:s<20):(s.fmod 4).toNat<9/\(s.fdiv 4).toNat<9:=by
 obtain⟨n,rfl⟩:=gD h0
 exact Qx n (Int.ofNat_lt.mp h1)
theorem Xj(Q:Sq R v):∃a r b c,a<9/\b<9/\c<9/\oM v=(49+a) :: r/\∃s,oM v=s++[49+b,49+c]:=by
 unfold oM PC
 (refine(JD Q.f0 Q.pt).symm▸?_;refine(JD Q.t0 Q.oy).symm▸?_)
 rcases FF Q.pr with e|⟨p,p1,p7,p2,p6,e,z,kl,c1,c2⟩
 ·rw[e]
  exact⟨_,_,((md v).fmod 4).toNat,((md v).fdiv 4).toNat,(Ki Q.f0 Q.pt).1,(Ki Q.t0 Q.oy).1,(Ki Q.t0 Q.oy).2,rfl,[49+((Ai v).fmod 4).toNat,49+((Ai v).fdiv 4).toNat],rfl⟩
 ·obtain⟨j,hj,ej⟩:=Xg p2 p6
  (refine e.symm▸?_;refine z.symm▸?_)
  refine⟨((Ai v).fmod 4).toNat,_,((md v).fdiv 4).toNat,j,(Ki Q.f0 Q.pt).1,(Ki Q.t0 Q.oy).2,hj,rfl,[49+((Ai v).fmod 4).toNat,49+((Ai v).fdiv 4).toNat,49+((md v).fmod 4).toNat],?_⟩
  show _++pL p=_
  rw[ej];rfl
theorem Ra(ha:a<9)(hb:b<9)(hc:c<9)(h1:t=(49+a) :: r)(h2:t=s++[49+b,49+c]):oU R t=none/\AX t=(t,[]):=by
 have hh:CQ t=[49+a]:=by rw[h1];exact Hn _ _
 have hl:AF t=[49+c]:=by
  rw[h2,show s++[49+b,49+c]=(s++[49+b])++[49+c] by rw[gv];rfl]
  exact(Br _ _).1
 have h2':Cg t=[49+b,49+c]:=by rw[h2];exact(Lo _ _ _).1
 constructor
 ·unfold oU
  rw[hh,hl,MF _ (.inl (by exact fy ha)),MF _ (.inl (by exact fy hc))]
  show oH R 1 0 t=none
  unfold oH
  rw[h2',VT R _ (XR hb)];rfl
 ·unfold AX
  rw[hl,show([49+c]==[43])=false by rw[gQ];intro w;have:=(List.cons.inj w).1;lia,show([49+c]==[35])=false by rw[gQ];intro w;have:=(List.cons.inj w).1;lia]
theorem Zq(v:Int):∃c r,wF v=c :: r/\66<=c:=⟨97+((Ai v).fmod 4).toNat,_,rfl,by exact fz⟩
theorem UZ{R:Int}{st:St}{v:Int}{kd:Nat}(W:Wd R st v kd):∃c r,n8 st v=c :: r/\66<=c:=by
 unfold n8 Dc
 refine(show(ou st v).toNat=kd by rw[W.k];rfl).symm▸?_
 rcases(by have:=W.k1;lia:kd=1\/2<=kd)with e|e
 ·subst e;exact⟨97+((Ai v).fmod 4).toNat,_,rfl,by exact fz⟩
 ·refine(De e).symm▸?_;exact⟨mX kd,_,rfl,(MJ e W.k7).1⟩
theorem Ui{α:Type}(a:Option α):rY a none=a:=by cases a<;>rfl
theorem bn{G:l8}{st:St}{mk:Int->List Nat}(T:Tab G.ranks st mk (Ay G st))(t:List Nat):FV mk G st t=EB mk st (Ay G st) t:=by
 have ew:R1 G st t=(Ay G st).find? (fun v=>wF v==t):=Zs T t
 have ed:tS G st t=(Ay G st).find? (fun v=>oM v==t):=aQ T t
 unfold FV EB
 (refine ew.symm▸?_;refine ed.symm▸?_)
 unfold VZ Ol
 rw[V0 T]
 have e1:((Ay G st).find? fun v=>n8 st v==(AX t).1).filter (fun v=>Db (AX t).2 (mk v))=(Ay G st).find? (KQ st mk (AX t).1 (AX t).2):=by
  rw[<- Uu (p:=fun v=>n8 st v==(AX t).1) (q:=fun v=>Db (AX t).2 (mk v)) fun x hx y hy a b=>by
   (refine(T.lg x hx y hy ((gN a).trans (gN b).symm)).symm▸?_;rfl)]
  refine CD fun v _=>?_
  show _=(n8 st v==(AX t).1&&_)
  rw[K3]
 have e2:(fun v=>[[],mk v].any (·==(AX t).2))=fun v=>Db (AX t).2 (mk v):=funext fun v=>K3 _ _
 (refine e2.symm▸?_;refine e1▸?_)
 by_cases hd:∃v∈Ay G st,oM v=t
 ·obtain⟨v,hv,e⟩:=hd
  obtain⟨kd,W⟩:=T.w v hv
  obtain⟨a,r,b,c,ha,hb,hc,h1,s,h2⟩:=Xj W.q
  (replace h1:=e▸h1;replace h2:=e▸h2)
  have z1:=(Ra (R:=G.ranks) ha hb hc h1 h2).1;have z2:=(Ra (R:=G.ranks) ha hb hc h1 h2).2
  have nw:∀w∈Ay G st,(wF w==t)=false:=fun w _=>by
   obtain⟨c',r',e',h'⟩:=Zq w
   (rewrite[gQ];refine e'.symm▸?_;rewrite[h1])
   intro z
   lia
  have nl:∀w∈Ay G st,(n8 st w==t)=false:=fun w hw=>by
   obtain⟨pE,W'⟩:=T.w w hw
   obtain⟨c',r',e',h'⟩:=UZ W'
   (rewrite[gQ];refine e'.symm▸?_;rewrite[h1])
   intro z
   lia
  have ns:Vy ((Ay G st).filter (Eh st t))=none:=by
   rw[<- V0 T]
   unfold CF
   refine z1.symm▸?_
   cases t==Go
   ·cases t==LT<;>rfl
   ·rfl
  have wd:(Ay G st).find? (Il t)=(Ay G st).find? (fun v=>oM v==t):=CD fun w hw=>by
   unfold Il
   (refine(nw w hw).symm▸?_;rewrite[iG];rfl)
  (refine z2.symm▸?_;refine ns.symm▸?_;refine(CE nw).symm▸?_;refine(CE nl).symm▸?_;refine wd.symm▸?_)
  cases q:(Ay G st).find? (fun v=>oM v==t) with
  |some x=>rfl
  |none=>exact absurd e (by have:=List.find?_eq_none.mp q v hv;simpa using this)
 ·have nd:∀w∈Ay G st,(oM w==t)=false:=fun w hw=>by
   rw[gQ];exact fun e=>hd ⟨w,hw,e⟩
  have wd:(Ay G st).find? (Il t)=(Ay G st).find? (fun v=>wF v==t):=CD fun w hw=>by
   unfold Il
   (refine(nd w hw).symm▸?_;rewrite[jv];rfl)
  (refine(CE nd).symm▸?_;refine wd.symm▸?_;rewrite[Ui];rfl)
theorem bG:∀n:Nat,n<20->∀k:Nat,k<20->97+((n:Int).fmod 4).toNat=97+((k:Int).fmod 4).toNat->49+((n:Int).fdiv 4).toNat=49+((k:Int).fdiv 4).toNat->n=k:=by decide +kernel
theorem ZX{s t:Int}(s0:0<=s)(s1:s<20)(t0:0<=t)(t1:t<20)(a:97+(s.fmod 4).toNat=97+(t.fmod 4).toNat)(b:49+(s.fdiv 4).toNat=49+(t.fdiv 4).toNat):s=t:=by
 obtain⟨n,rfl⟩:=gD s0
 obtain⟨k,rfl⟩:=gD t0
 exact congrArg Int.ofNat (bG n (Int.ofNat_lt.mp s1) k (Int.ofNat_lt.mp t1) a b)
theorem Uk:∀n:Nat,n<6->∀k:Nat,k<6->n≠1->k≠1->(FJ n==FJ k)=true->n=k:=by decide +kernel
theorem Ul{p q:Int}(hp:p=0\/∃n:Nat,2<=n/\n<6/\p=n)(hq:q=0\/∃n:Nat,2<=n/\n<6/\q=n)(h:FJ p=FJ q):p=q:=by
 have nat:∀{p:Int},(p=0\/∃n:Nat,2<=n/\n<6/\p=n)->∃n:Nat,p=n/\n<6/\n≠1:=fun h=>by
  rcases h with rfl|⟨n,a,b,rfl⟩
  ·exact⟨0,rfl,by decide,by decide⟩
  ·exact⟨n,rfl,b,fun e=>absurd (e▸a) (by decide)⟩
 obtain⟨n,rfl,n6,n2⟩:=nat hp
 obtain⟨k,rfl,k6,k2⟩:=nat hq
 exact congrArg Int.ofNat (Uk n n6 k k6 n2 k2 (beq_iff_eq.mpr h))
theorem Rv(kd:Nat)(x:Bool)(v p:Int):∃c,Dc kd x v p=DY kd++(97+((Ai v).fmod 4).toNat) :: (49+((Ai v).fdiv 4).toNat) :: c :: (97+((md v).fmod 4).toNat) :: (49+((md v).fdiv 4).toNat) :: FJ p:=by
 unfold Dc mZ
 induction x with
 |true=>exact⟨120,by simp[BC]⟩
 |false=>exact⟨45,by simp[BC]⟩
theorem XX{a b c d e a' b' c' d' e':Nat}{l l':List Nat}(h:a :: b :: c :: d :: e :: l=a' :: b' :: c' :: d' :: e' :: l'):a=a'/\b=b'/\d=d'/\e=e'/\l=l':=by
 obtain⟨h1,h⟩:=List.cons.inj h
 obtain⟨h2,h⟩:=List.cons.inj h
 have h:=(List.cons.inj h).2
 obtain⟨h4,h⟩:=List.cons.inj h
 have h5:=(List.cons.inj h).1;have h:=(List.cons.inj h).2
 exact⟨h1,h2,h4,h5,h⟩
theorem bA{R:Int}{st:St}{v w:Int}{kd pE:Nat}(V:Wd R st v kd)(W:Wd R st w pE)(h:n8 st v=n8 st w):Ai v=Ai w/\md v=md w/\Ah v=Ah w:=by
 unfold n8 at h
 rw[show(ou st v).toNat=kd by rw[V.k];rfl,show(ou st w).toNat=pE by rw[W.k];rfl]at h
 obtain⟨c,e⟩:=Rv kd (mY st v) v (Ah v)
 obtain⟨c',e'⟩:=Rv pE (mY st w) w (Ah w)
 rw[e,e']at h
 have R5:=V.q.R5
 have v1:=V.q.f1;have v2:=V.q.t1;have w1:=W.q.f1;have w2:=W.q.t1
 have fin:∀{a b d f a' b' d' f':Nat} {l l':List Nat},a=97+((Ai v).fmod 4).toNat->b=49+((Ai v).fdiv 4).toNat->d=97+((md v).fmod 4).toNat->f=49+((md v).fdiv 4).toNat->l=FJ (Ah v)->a'=97+((Ai w).fmod 4).toNat->b'=49+((Ai w).fdiv 4).toNat->d'=97+((md w).fmod 4).toNat->f'=49+((md w).fdiv 4).toNat->l'=FJ (Ah w)->
   a :: b :: c :: d :: f :: l=a' :: b' :: c' :: d' :: f' :: l'->Ai v=Ai w/\md v=md w/\Ah v=Ah w:=by
  intro a b d f a' b' d' f' l l' h1 h2 h3 h4 h5 h6 h7 h8 h9 sL h
  obtain⟨q1,q2,q3,q4,q5⟩:=XX h
  subst h1 h2 h3 h4 h5 h6 h7 h8 h9 sL
  exact⟨ZX V.q.f0 (by lia) W.q.f0 (by lia) q1 q2,ZX V.q.t0 (by lia) W.q.t0 (by lia) q3 q4,Ul V.q.pr W.q.pr q5⟩
 rcases(by have:=V.k1;lia:kd=1\/2<=kd)with z|z<;>rcases(by have:=W.k1;lia:pE=1\/2<=pE)with z'|z'
 ·subst z z'
  exact fin rfl rfl rfl rfl rfl rfl rfl rfl rfl rfl h
 ·subst z
  rw[De z']at h
  have:=(List.cons.inj (show(97+((Ai v).fmod 4).toNat) :: _=mX pE :: _ from h)).1
  have:=MJ z' W.k7
  lia
 ·subst z'
  rw[De z]at h
  have:=(List.cons.inj (show mX kd :: _=(97+((Ai w).fmod 4).toNat) :: _ from h)).1
  have:=MJ z V.k7
  lia
 ·rw[De z,De z']at h
  exact fin rfl rfl rfl rfl rfl rfl rfl rfl rfl rfl (List.cons.inj (show mX kd :: _=mX pE :: _ from h)).2
theorem Kb{o t f s:Int}(o0:0<=o)(o1:o<20)(t0:0<=t)(t1:t<20)(hs:f=0/\s=0\/s=1/\0<=f/\f<4):(s=0/\f=0/\Ah (AH o t f s)=0)\/(s=1/\Ah (AH o t f s)=f+2/\2<=f+2):=by
 have f0:0<=f/\f<4/\0<=s/\s<2:=by
  rcases hs with⟨rfl,rfl⟩|⟨rfl,x,y⟩
  ·exact⟨by decide,by decide,by decide,by decide⟩
  ·exact⟨x,y,by decide,by decide⟩
 obtain⟨a,b,c,d⟩:=RE o0 o1 t0 t1 f0.1 f0.2.1 f0.2.2.1 f0.2.2.2
 unfold Ah
 rcases hs with h|h
 ·left
  refine⟨h.2,h.1,?_⟩
  rw[c,h.2];rfl
 ·right
  refine⟨h.1,?_,by exact mJ (mo _) (.num 2) (mm 0 2) (.num 0) mh rfl h.2.1⟩
  rw[c,show(s != 1)=false by rw[h.1];rfl]
  show Am _ 3+2=_
  rw[d]
theorem VR(l0:Bool):(Gr l0).size=4*(Gr l0).ranks/\(Gr l0).ranks<=5:=by cases l0<;>exact⟨rfl,by decide⟩
inductive dL(l0:Bool)(st:St)(v:Int):Prop
 |mk (kd:Nat) (o t f s:Int) (T:pJ (Gr l0) st kd o t) (hs:f=0/\s=0\/kd=1/\s=1/\0<=f/\f<4) (e:v=AH o t f s) (ef:Ai v=o) (et:md v=t) (W:Wd (Gr l0).ranks st v kd)
theorem RH{v:Int}(z:Bt v=0):Ah v=0:=by unfold Ah;rw[z];rfl
theorem P1{l0:Bool}{st:St}(P:Pos (Gr l0) st){v:Int}(hv:v∈Ay (Gr l0) st):dL l0 st v:=by
 obtain⟨rs,r5⟩:=VR l0
 have GC:=Xw l0
 obtain⟨kd,o,t,f,s,T,H,hs,e⟩:=ML (eg l0) GC.S GC.hr P.C (Lp hv)
 obtain⟨V,ef,et⟩:=T.mv GC.S P.C hs
 (replace V:=(e).symm▸V;replace ef:=(e).symm▸ef;replace et:=(e).symm▸et)
 refine⟨kd,o,t,f,s,T,hs,e,ef,et,⟨⟨r5,V.M.f0,by refine rs▸?_;exact V.M.f1,V.M.t0,by refine rs▸?_;exact V.M.t1,?_⟩,T.k1,T.k7,V.ou,fun p=>?_⟩⟩
 ·rcases V.M.sp with z|z
  ·exact .inl (RH z)
  ·obtain⟨_,p,h1,h2,h3⟩:=V.oj z
   exact .inr ⟨p,h1,Nat.lt_succ_of_le h2,h3⟩
 ·rcases V.M.sp with z|z
  ·exact absurd (RH z) p
  ·exact(V.oj z).1
theorem Qh{s f s' f' a b:Int}(p:(s=0/\f=0/\a=0)\/(s=1/\a=f+2/\2<=f+2))(p':(s'=0/\f'=0/\b=0)\/(s'=1/\b=f'+2/\2<=f'+2))(h:a=b):s=s'/\f=f':=by lia
theorem dq{l0:Bool}{st:St}(P:Pos (Gr l0) st):Tab (Gr l0).ranks st (Vb (Gr l0) (mr l0) st) (Ay (Gr l0) st):=by
 have top:=(Xw l0).S.top
 refine⟨fun v hv=>?_,fun v hv w hw h=>?_⟩
 ·obtain⟨kd,_,_,_,_,_,_,_,_,_,W⟩:=P1 P hv
  exact⟨kd,W⟩
 ·obtain⟨kd,o,t,f,s,T,hs,e,ef,et,W⟩:=P1 P hv
  obtain⟨pE,o',t',f',s',T',pP,e',ef',et',W'⟩:=P1 P hw
  obtain⟨i1,i2,i3⟩:=bA W W' h
  have p:=Kb T.o0 (gM T.o1 top) T.t0 (gM T.t1 top) (hs.imp id And.right)
  have p':=Kb T'.o0 (gM T'.o1 top) T'.t0 (gM T'.t1 top) (pP.imp id And.right)
  rw[<- e]at p
  rw[<- e']at p'
  have q:=Qh p p' i3
  rw[show v=w by(refine e.symm▸?_;rewrite[e'];refine ef▸?_;refine ef'▸?_;refine i1.symm▸?_;refine et▸?_;refine et'▸?_;refine i2.symm▸?_;refine q.1.symm▸?_;refine q.2.symm▸?_;rfl)]
theorem eD:Zx:=⟨Xw,fY,fun l0 st P=>⟨Vb (Gr l0) (mr l0) st,Xv (eg l0) (Xw l0) P,fun v _=>bD v,bn (dq P)⟩⟩
theorem UV{n:Nat}{Q:Ae}{X:As}{xs:List Int}(hn:15<=n)(h:∀μ',Q (.bool true) μ'):CG n false 312 [.mN (xs.map .int)] Q X []:=dW hn eD h
noncomputable abbrev RR:=PySem.Challenge.rw_pf0107_01.row.toRowW
theorem XB{t:WTm}{e:WCtx}(v:t.value R e=some (.bool b))(h:t.holds R e=true):b=true:=by
 have h:(match t.value R e with|some (.bool true)=>true|_=>false)=true:=h
 replace h:=v▸h
 induction b<;>exact h
theorem cg{ds:List WData}(h:WTm.holds [] (.and (.not (.lt (.lit (.int 63)) (.len (.arg 0)))) (.lit (.bool true))) {args:=[.list ds]}=true):ds.length<=63:=
 Int.ofNat_le.mp (Int.not_lt.mp (ii (CH (XB (w_not (w_lt w_lit (w_len_list (w_arg rfl)))) (holds_andW h).1))))
theorem VV{cl:Str->Option Addr}(r:ReadsW [] cl h v (.int k) as):∃t,v=.int k t:=by
 cases r with
 |int i t=>exact⟨t,rfl⟩
theorem Qm{cl:Str->Option Addr}{ns:List Int}{vs:List Value}(r:ReadsAllW [] cl h vs (ns.map .int) as):vs.length=ns.length/\∀(i:Nat) (k:Int) (w:Value),ns[i]?=some k->vs[i]?=some w->∃t,w=.int k t:=by
 induction ns generalizing vs as with
 |nil=>cases r;exact⟨rfl,fun i k w a=>nomatch a⟩
 |cons n ns ih=>
  cases r with
  |cons a b=>
   have l:=(ih b).1;have q:=(ih b).2
   refine⟨congrArg (·+ 1) l,fun i k w e1 e2=>?_⟩
   induction i using Nat.casesOn with
   |zero=>obtain rfl:=Option.some.inj e1;obtain rfl:=Option.some.inj e2;exact VV a
   |succ i=>exact q i k w e1 e2
def dN(h:Heap):Prop:=∃K:Frag,Fm K=true/\K.In h
theorem QF(a b:DecidableEq Str)(K:Frag):Fm (deq:=a) K=Fm (deq:=b) K:=by rw[Subsingleton.elim a b]
theorem be(h:Heap):(o7 h.get?).In h:=by
 intro a o e
 unfold o7 at e
 generalize KX=l at e
 induction l with
 |nil=>exact Ao e
 |cons b l ih=>
  rw[iT]at e
  cases hb:h.get? b with
  |none=>rw[hb]at e;exact ih e
  |some x=>
   rw[hb]at e
   have e:(if a==b then some x else(List.filterMap (fun a=>(h.get? a).map (a,·)) l).lookup a)=some o:=by
    have:List.lookup a ((b,x) :: List.filterMap (fun a=>(h.get? a).map (a,·)) l)=some o:=e
    rw[hU]at this
    split at this<;>simp_all
   split at e
   ·rename_i q
    rw[gN q,hb];exact e
   ·exact ih e
theorem bu:nm 312=("law":Str):=by kernel_rfl
theorem UQ:prog 312=some (.fn [307] Dn):=by kernel_rfl
theorem bq:Oj 312=true:=by kernel_rfl
theorem RM:callerA.depth+3*15+4<recursionLimit/\callerA.units+8*15+53<cLine:=by constructor<;>decide +kernel
theorem T6{G:Nat->Option V}{P:Nat->Option rc}{Q:Ae}{X:As}(hp:P f=some (.fn ps body))(h:Ak G P (n+1) hd f vs Q X μ) :
  ∃env',CP ps vs (fun _=>none)=some env'/\ws G (Ak G P n) hd body (fun fl _ μ'=>match fl with|.ret v=>Q v μ'|.next=>Q .none μ'|.cont=>False) X env' μ:=by
 obtain⟨F,e,h⟩:=Aq (o:=P f) h
 obtain rfl:=same hp e
 exact Aq h
theorem bz{xs:List Int}:∃env',CP [307] [.mN (xs.map .int)] (fun _=>none)=some env'/\ws lY (Ak lY prog 15) false Dn (fun fl _ _=>match fl with|.ret v=>v=.bool true|.next=>(V.none:V)=.bool true|.cont=>False) (fun _ _=>False) env' []:=
 T6 UQ (UV (by decide) fun _=>rfl)
structure IP(r:RowW):Prop where
 pT:r.records=[]
 args:r.args=[.list .int]
 pre:r.pre=.and (.not (.lt (.lit (.int 63)) (.len (.arg 0)))) (.lit (.bool true))
 ret:r.returns=.bool
 post:r.post=.eq .res (.lit (.bool true))
 raises:r.raises=[]
theorem Yv{r:RowW}(LR:IP r)(args:List WData):r.claim.post args (.bool true) args=true:=by
 show(WShape.has r.records (.bool true) r.returns&&WTm.holds r.records r.post {args:=args,res:=some (.bool true),after:=args})=true
 rw[LR.ret,LR.post]
 kernel_rfl
theorem Vh{r:RowW}(LR:IP r)(args:List WData)(cls:ExcName):r.claim.raises args cls=false:=by
 show(r.raises.any fun ct=>ct.1==cls&&ct.2.holds r.records {args:=args})=false
 rw[LR.raises];rfl
theorem UO{r:RowW}(LR:IP r)(oh:r.claim.pre args=true):∃ns:List Int,args=[.list (ns.map .int)]/\ns.length<=63:=by
 obtain⟨sj,hpr⟩:=pre_splitW (r:=r) oh
 (rw[LR.pT]at sj;replace sj:=LR.args▸sj)
 rw[LR.pT,LR.pre]at hpr
 obtain⟨d1,r1,e1,qz,hs2⟩:=hasAllW_cons sj
 have e2:=hasAllW_nil hs2
 subst e2 e1
 obtain⟨ds,e3,hit⟩:=hasW_list qz
 subst e3
 obtain⟨ns,e4⟩:=items_int hit
 subst e4
 have hlen:=cg hpr
 rw[gU]at hlen
 exact⟨ns,rfl,hlen⟩
theorem XN{cl:Str->Option Addr}{vals:List Value}{ns:List Int}(hlen:ns.length<=63)(tO:ReadsAllW [] cl h vals [.list (ns.map .int)] as):Ar h lg0 [.mN (ns.map .int)] vals/\vals.length=1:=by
 cases tO with
 |cons hl hr=>
  cases hr
  cases hl with
  |@list la lo vs nn as' _ l1 l2 l3 l4=>
   obtain⟨ql,qv⟩:=Qm l4
   refine⟨Ar.cons (.mN _ la lo vs nn l1 l2 l3 (by rw[gU,<- ql];exact Array.length_toList.symm) (by rw[gU];exact gB hlen (by decide)) fun i v w a b=>?_) Ar.nil,rfl⟩
   replace a:=kP▸a
   cases hk:ns[i]? with
   |none=>replace a:=hk▸a;exact Ao a
   |some k=>
    replace a:=hk▸a
    obtain rfl:=Option.some.inj a
    obtain⟨t,e⟩:=qv i k w hk (by refine Array.getElem?_toList.symm▸?_;exact b)
    refine e.symm▸?_
    exact .int k t
theorem UW(LR:IP r){d:DefRec}(hn:d.name=("law":Str)):WalkO q loose (fun _ _=>True) (fun _ h=>dN h) r d kwd fun f vs=>PySem.call f vs:=by
 intro w s₀ s₁ mg mb G Y a o pm cd doc dV kV ho hd hcd hD hmg hg args vals as oh hlay tO hwl pX
 obtain⟨K,hK,Kin⟩:=Y
 obtain⟨ns,rfl,hlen⟩:=UO LR oh
 rw[LR.pT]at tO
 have P:=ci Kin G.T.nolimit G.T.g G.T.b hK
 obtain⟨mg',mb',n1,n2,_,fnn,_⟩:=P.qt.names
 have ea:Sy K 312=a:=by
  have q:=(fnn 312 bq).1
  (rw[n1.eq_nsMap,<- G.T.g.eq_nsMap,bu,<- hn]at q;replace q:=hmg▸q)
  cases Option.some.inj q;rfl
 have qC:=P.fns.fn 312 [307] Dn UQ
 replace qC:=ea▸qC
 obtain⟨rel, -⟩:=XN hlen tO
 obtain⟨env',he,hw⟩:=bz (xs:=ns)
 refine jS (Wq (n:=15) P qC rfl rfl RM.1 RM.2 rel he hw (fun mf mR mV μ2 h2 nE w2 old hq hv=>?_) fun _ _ z=>z)
 induction mf with
 |ret v=>
  subst hq
  cases hv
  exact⟨.inl ⟨_,.bool true,[],rfl,Vh LR _,.bool true,Yv LR _,fun _=>⟨k9,fun _ h=>by cases h⟩⟩,OldK.of_keep old,rfl,AllBare.of_eq hg⟩
 |next=>exact absurd hq (by intro z;cases z)
 |cont=>exact hq.elim
theorem Ok:(defOf vw "law").isSome=true:=by kernel_rfl
noncomputable def Fc:DefRec×List (Str×Expr):=(defOf vw "law").get Ok
theorem UR:defOf vw "law"=some (Fc.1,Fc.2):=(Option.some_get Ok).symm
theorem US:Fc.1.name=("law":Str):=by kernel_rfl
theorem bp:pw.theDef "law"=some (Fc.1.params,Fc.1.body,Fc.1.scope):=by kernel_rfl
theorem bo:kwWritten? Fc.1.params.kwonlyargs Fc.1.params.kw_defaults=some Fc.2:=by kernel_rfl
theorem UP:pw.bare:=⟨rfl,rfl,rfl,rfl,rfl,by decide +kernel⟩
theorem XO:IP RR:=⟨rfl,rfl,rfl,rfl,rfl,rfl⟩
theorem UT:RR.promised:=⟨[.list []],by decide +kernel,by decide +kernel⟩
theorem XI:chainsOk vw=true:=by kernel_rfl
theorem bw:(opening pw).tameTopW=true:=by kernel_rfl
theorem bx:bearImports (behindTheImports pw)=false:=by kernel_rfl
theorem XJ:opensWell pw=true:=look_both bw (congrArg not bx)
theorem XL:(frees RR&&RR.within.isEmpty)=true:=by kernel_rfl
theorem UU:PySem.Challenge.rw_pf0107_01.wellSaid=true:=by
 rw[Fast.te9446332074065402090]
 unfold Fast.tw9446332074065402090 Fast.tw17960256430627541270 Fast.tw2436336058641802641 Fast.tw12908688711261696721
 repeat' (with_reducible refine look_both ?_ ?_)
 all_goals decide +kernel
theorem XM:(chainsOk vw&&opensWell pw&&(frees RR&&RR.within.isEmpty))=true:=by rw[XI,XJ,XL];rfl
theorem X7(s:Shared):RecFacts [] s.heap:=recFacts_of (by rfl)
theorem Th(vi:PySem.Challenge.rw_pf0107_01.row.wellSaid=true):PySem.Challenge.rw_pf0107_01.row.Holds:=
 PySem.W.holds_open (q:=vw) (loose:=sr) (Xt:=fun _=>true) (XP:=fun _ _=>True) (Yf:=fun s=>Fm (deq:=Fast.sDec) (o7 s.heap.get?)) (Ya:=fun _=>true) (YP:=fun _ h=>dN h) (N:=8000) (d:=Fc.1) (kwd:=Fc.2)
  left (fun _ s e=>⟨o7 s.heap.get?,(QF _ _ _).trans e,be s.heap⟩) (fun _ h h' ⟨K,a,b⟩ k=>⟨K,a,fun x o e=>k x o (b x o e)⟩) (fun _ _=>trivial) (fun _ _ _ _ _=>trivial)
  UR bp bo (fun s _=>X7 s) rfl vi XM UP UT (UW XO US)
theorem dE:PySem.Challenge.rw_pf0107_01.Holds:=holds_law UU Th
end Mine
theorem PySem.Challenge.cw_pf0107_01_holds : PySem.Challenge.rw_pf0107_01.Holds :=
  Mine.dE
