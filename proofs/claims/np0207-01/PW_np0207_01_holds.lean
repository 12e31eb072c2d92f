import PyProof.Rows.All
import Wide.All
import OpenK.AllK
import Wide.FinOn
import KE.BitLaws
import KE.KDictSum
import KE.KTryMore
import Lean
import PySem.Challenge.RW_np0207_01
open PySem PySem.W PySem.Calls PyProof.Rows
set_option Elab.async false
set_option autoImplicit true
set_option genInjectivity false
set_option genCtorIdx false
set_option bootstrap.genMatcherCode false
set_option compiler.extract_closed false
set_option maxRecDepth 100000
set_option genSizeOf false
set_option tactic.hygienic false
set_option linter.all false
namespace Mine
def ab:=@Nat.le_trans
def ae:=@wpAny_bind
def aw:=@List.append_assoc
def aH:=@List.mem_of_getElem?
def aJ:=@Nat.lt_of_lt_of_le
def aW:=@List.length_append
def aS:=@List.all_eq_true
def aK:=@List.length_map
def bP:=@List.getElem?_eq_some_iff
def ba:=@Nat.sub_add_cancel
def aN:=@of_decide_eq_true
def aV:=@List.mem_singleton
def a6:=@Nat.lt_of_le_of_lt
def bf:=@Bool.false_ne_true
def ao:=@wpAny_pure
def aB:=@Nat.le_refl
def bu:=@Nat.le_antisymm
def cg:=@Heap.get?_push_of_some
def c8:=@List.getElem?_eq_getElem
def cG:=@Bool.and_eq_true_iff
def bV:=@List.prefix_refl
def d9:=@List.getElem?_append_right
def cu:=@List.size_toArray
def cv:=@List.getElem?_map
def bK:=@List.mem_cons
def ai:=@if_neg
def bH:=@List.mem_map
def eH:=@List.getElem?_append_left
def cT:=@Nat.le_add_right
def bL:=@Nat.le_of_eq
def dD:=@Heap.get?_push_size
def au:=@if_pos
def bQ:=@List.map_map
def dP:=@Array.length_toList
def dU:=@Nat.lt_mul_div_succ
def bM:=@Nat.zero_le
def cH:=@decide_eq_true
def cI:=@Nat.mul_div_le
def bX:=@Heap.lt_size
def dj:=@List.isEmpty_iff
def c9:=@decide_eq_false
def dE:=@List.length_cons
def fu:=@builtinLookup_eq_fast
def eQ:=@List.forall_mem_cons
def dt:=@List.mem_append
def f9:=@Option.map_eq_some_iff
def cc:=@wpAny_of_eq
def cU:=@Nat.ne_of_lt
def cZ:=@Nat.le_of_lt
def fv:=@Nat.lt_of_le_of_ne
def bE:=@congrArg
def gb:=@Int.natCast_nonneg
def dW:=@wpAny_holding
def cV:=@Nat.sub_le
def eT:=@List.mem_filter
def iD:=@Heap.get?_update_self
def gc:=@List.length_range
def gW:=@List.filter_sublist
def gX:=@Int.toNat_of_nonneg
def fw:=@typeLookup_type
def fy:=@List.map_append
def eC:=@List.map_cons
def fQ:=@List.nodup_cons
def dQ:=@sizeLine_eq
def gv:=@List.take_length
def jG:=@List.length_replicate
def jH:=@List.length_filter_le
def du:=@wpAny_mono
def lO:=@Option.isNone_iff_eq_none
def lP:=@List.pairwise_iff_getElem
def gY:=@List.length_take
def iE:=@Nat.lt_succ_of_lt
def iF:=@Nat.le_of_lt_succ
def iG:=@List.take_add_one
def kj:=@List.take_append_drop
def kl:=@List.set_append_right
def fR:=@wpAny_standAt
def jI:=@List.mem_map_of_mem
def jJ:=@Heap.SameBut.update
def nz:=@Classical.byContradiction
def iH:=@wpAny_call_entry
def i8:=@Int.toNat_natCast
def i9:=@Int.self_le_toNat
def ea:=@Nat.mod_lt
def nA:=@List.filterMap_cons_some
def fS:=@Nat.zero_add
def iI:=@Nat.min_le_left
def iJ:=@Nat.le_add_left
def ja:=@Nat.le_of_not_lt
def jb:=@List.getElem_mem
def pD:=@List.getD_eq_getElem?_getD
def jc:=@Bool.and_eq_true
def lQ:=@PySem.W.typeIs_bytes
def lR:=@List.mem_of_mem_take
def nB:=@Heap.get?_update_other
def jK:=@List.lookup_cons
def fT:=@wpAny_field
def nD:=@List.getElem?_toArray
def gw:=@Nat.sub_self
def pE:=@wpAny_callSpecial?_slot
def gV:=@wpAny_setField
def eU:=@bm_if_false
def jS:=@List.mem_eraseDups
def kP:=@List.map_congr_left
def kQ:=@Heap.get?_update_ne
def jT:=@decide_eq_true_eq
def cM:=@Ne.symm
def iy:=@List.nodup_nil
def iz:=@List.mem_range
def jd:=@wpAny_specialOf
def je:=@List.length_nil
def ou:=@Nat.add_sub_cancel_left
def c3:=@dif_pos
def c4:=@dif_neg
def kR:=@wpAny_newObj_type
def ow:=@List.getElem?_set_self
def kS:=@List.filter_congr
def jf:=@Heap.size_push
def rg:=@Array.getElem?_eq_getElem
def mQ:=@PySem.F.called_set
def jg:=@Nat.lt_irrefl
def ox:=@Nat.pow_le_pow_right
def oy:=@List.getElem?_set_ne
def oz:=@Around.under_plainId
def mR:=@wpAny_loadPart_at
def mS:=@Nat.le_of_succ_le
def mT:=@List.nodup_append
def rh:=@List.length_eq_zero_iff
def kT:=@List.foldl_cons
def kU:=@List.append_nil
def kW:=@Int.le_antisymm
def jh:=@Nat.ne_of_gt
def ri:=@List.take_of_length_le
def ji:=@Int.add_zero
def rj:=@Array.getElem?_eq_none
def oA:=@Bool.false_eq_true
def mU:=@List.drop_left'
def oB:=@Nat.le_succ_of_le
def tX:=@Option.isSome_iff_exists
def rk:=@List.getElem_of_mem
def oC:=@decide_eq_decide
def oD:=@Nat.lt_succ_self
def ye:=@List.Nodup.length_le_of_subset
def kX:=@codeAny_mono
def kY:=@Int.zero_add
def tY:=@List.mem_append_right
def rl:=@Nat.lt_succ_of_le
def rm:=@Nat.lt_of_sub_pos
def ro:=@List.take_sublist
def rp:=@Bool.not_eq_true'
def yf:=@Array.getD_eq_getD_getElem?
def oE:=@isSubtype_type
def kZ:=@Nat.le_succ
def tZ:=@List.getElem?_of_mem
def oF:=@List.drop_zero
def oG:=@List.drop_drop
def t6:=@Int.natAbs_of_nonneg
def rq:=@wpAny_isInstance
def mV:=@Nat.pow_succ
def rt:=@Nat.min_le_right
def mW:=@List.set_set
def mX:=@Int.le_trans
def yg:=@List.mem_take_iff_getElem
def yh:=@List.mem_drop_iff_getElem
def Cg:=@PyProof.Rows.F.plain_set_update_loop
def iA:=@congrFun
def oH:=@List.sum_cons
def yi:=@List.filterMap_cons_none
def ru:=@codeAny_builtin
def rv:=@KBw.iter_typeIs
def t7:=@Obj.data_mapFields
def t9:=@List.getElem_range
def ua:=@Code.quiet_builtin
def yj:=@decide_eq_false_iff_not
def ub:=@wpAny_truthy_bool
def uc:=@wpAny_assign_Name
def ud:=@List.flatten_cons
def ue:=@List.cons_eq_cons
def yk:=@Array.getElem?_toList
def mY:=@wpAny_rule
def mZ:=@wpAny_load
def uf:=@wpAny_execs_cons
def ug:=@entryFor_of_tree
def uh:=@Nat.succ_le_succ
def ui:=@Nat.lt_of_not_le
def uj:=@List.length_drop
def uk:=@Array.toList_inj
def rx:=@wpAny_attempt
def ry:=@plainId_quiet
def rz:=@Nat.add_assoc
def rA:=@KBw.slot_next
def yl:=@Heap.get?_none_of_le
def ym:=@F.args_object_init_2
def um:=@codeAny_of_tree
def uo:=@List.take_left'
def uq:=@List.find?_cons
def ur:=@Bool.eq_iff_iff
def yn:=@wpAny_isSubtype_exc
def yo:=@Nat.add_sub_cancel'
def yp:=@List.getElem?_range
def yq:=@List.filter_eq_self
def rB:=@Nat.lt_or_ge
def rC:=@Int.zero_mul
def uu:=@wpAny_seqItems
def oI:=@wpAny_call
def k0:=@tail_any
def oJ:=@beq_iff_eq
def oK:=@Nat.not_lt
def Ci:=@List.perm_ext_iff_of_nodup
def yr:=@List.pairwise_cons
def yt:=@List.filter_filter
def Cj:=@Array.perm_iff_toList_perm
def Cm:=@Array.getElem?_eq_some_iff
def Cn:=@PySem.F.excBase_Exception
def yu:=@wpAny_setState_of
def yv:=@readsAll_cons_val
def yw:=@Value.isInt_shape
def yx:=@Nat.lt_of_succ_le
def yy:=@List.foldl_append
def Co:=@SetTable.toList_insertAt
def uw:=@Looks.of_pure
def Cp:=@List.sublist_append_left
def Cq:=@List.getElem?_take_of_lt
def uy:=@List.any_cons
def yz:=@wpAny_askSetting
def Cr:=@Nat.lt_add_of_pos_right
def yA:=@List.getElem_map
def yB:=@List.getElem_inj
def Cs:=@Int.eq_ofNat_of_zero_le
def rD:=@codeRec_of
def rE:=@Nat.sub_lt
def uz:=@Nat.mul_comm
def uA:=@Nat.lt_trans
def Ct:=@Nat.div_div_eq_div_mul
def Cu:=@List.length_eq_one_iff
def uB:=@List.all_map
def uC:=@Int.mul_zero
def yC:=@wpAny_execs_nil
def yD:=@Nat.min_eq_left
def yE:=@List.Perm.of_eq
def yF:=@Bool.or_eq_true
def Cv:=@wpAny_storeName_local
def Cw:=@codeAny_call_function
def Cy:=@Obj.isFreed_of_fields
def Cz:=@List.getElem?_eq_none
def CA:=@FB.slot_bytes_getitem
def oM:=@if_false
def CB:=@codeAny_call_builtin
def uD:=@Sem.wp_mono
def CD:=@Name_function_global
def CE:=@List.pairwise_append
def CG:=@List.mem_append_left
def yG:=@List.drop_take
def uE:=@F.bm_called
def CH:=@list_getitem_lookup
def CI:=@beq_eq_false_iff_ne
def CJ:=@arm_eval_Call_Name'
def JQ:=@PyProof.Rows.F.entry_set_update_loop
def CL:=@List.flatten_append
def CM:=@List.filterMap_cons
def CN:=@List.drop_succ_cons
def CO:=@Bool.or_eq_true_iff
def yH:=@List.set_comm
def uF:=@intKind_is
def CP:=@Nat.add_sub_cancel
def CQ:=@List.getElem?_drop
def CR:=@List.find?_eq_none
def CT:=@wpAny_pyIter_list
def rF:=@kp_binds
def CU:=@Nat.succ_le_of_lt
def yI:=@Nat.add_comm
def yJ:=@Int.mul_comm
def yK:=@Int.le_of_lt
def CV:=@Array.toList_push
def JR:=@Array.all_eq_true_iff_forall_mem
def JS:=@plainObj_wpAny_Assign_Attribute
def CW:=@wpAny_lookBehind
def CX:=@wpAny_eqBool_int
def CY:=@beq_self_eq_true
def JT:=@PyProof.Rows.callWith_builtin1
def CZ:=@Nat.succ_ne_self
def C3:=@List.zipIdx_cons
def C4:=@List.nodup_range
def C5:=@List.ext_getElem
def C6:=@List.Perm.eq_nil
def C7:=@KBw.pyIter_bytes
def C8:=@Int.natCast_ediv
def JU:=@F.slot_str_ascii_iterator_next
def C9:=@Bool.not_eq_true
def yL:=@Nat.pow_pos
def yM:=@Nat.pow_add
def yN:=@List.map_id
def JV:=@List.exists_mem_of_length_pos
def yO:=@Int.le_refl
@[elab_as_elim] theorem rwL {A:Sort _} {a b:A} {p:A->Prop} (h:a=b) (x:p b):p a:=h▸x
@[elab_as_elim] theorem rwS {A:Sort _} {a b:A} {p:A->Prop} (h:b=a) (x:p b):p a:=h▸x
theorem nle{a b:Nat}(h:a<=b):(a:Int)<=b:=Int.ofNat_le.mpr h
theorem nlt{a b:Nat}(h:a<b):(a:Int)<b:=Int.ofNat_lt.mpr h
theorem rN{a b:Nat}(h:a<b):(a:Int).natAbs<b:=h
theorem xA{P Q p:Prop}(h:P/\Q)(k:P->Q->p):p:=by
 obtain⟨h1,h2⟩:=h;exact k h1 h2
theorem jL{P Q R p:Prop}(h:P/\Q/\R)(k:P->Q->R->p):p:=by
 obtain⟨h1,h2,h3⟩:=h;exact k h1 h2 h3
theorem p9{P Q R S p:Prop}(h:P/\Q/\R/\S)(k:P->Q->R->S->p):p:=by
 obtain⟨h1,h2,h3,h4⟩:=h;exact k h1 h2 h3 h4
theorem Sn{P Q R S T p:Prop}(h:P/\Q/\R/\S/\T)(k:P->Q->R->S->T->p):p:=by
 obtain⟨h1,h2,h3,h4,h5⟩:=h;exact k h1 h2 h3 h4 h5
theorem Wk{P Q R S T U p:Prop}(h:P/\Q/\R/\S/\T/\U)(k:P->Q->R->S->T->U->p):p:=by
 obtain⟨h1,h2,h3,h4,h5,h6⟩:=h;exact k h1 h2 h3 h4 h5 h6
theorem Wl{A:Sort _}{P Q p:Prop}{R:A->Prop}(h:P/\Q/\∃a,R a)(k:P->Q->∀a,R a->p):p:=by
 obtain⟨h1,h2,a,h3⟩:=h;exact k h1 h2 a h3
theorem Gf{A B:Sort _}{P Q p:Prop}{R:A->B->Prop}(h:P/\Q/\∃a,∃b,R a b)(k:P->Q->∀a,∀b,R a b->p):p:=by
 obtain⟨h1,h2,a,b,h3⟩:=h;exact k h1 h2 a b h3
theorem xAE{A:Sort _}{P p:Prop}{Q:A->Prop}(h:P/\∃a,Q a)(k:P->∀a,Q a->p):p:=by
 obtain⟨h1,a,h2⟩:=h;exact k h1 a h2
theorem Lz{A:Sort _}{P p:Prop}{Q R:A->Prop}(h:P/\∃a,Q a/\R a)(k:P->∀a,Q a->R a->p):p:=by
 obtain⟨h1,a,h2,h3⟩:=h;exact k h1 a h2 h3
theorem ab8{A B:Sort _}{P p:Prop}{Q:A->B->Prop}(h:P/\∃a,∃b,Q a b)(k:P->∀a,∀b,Q a b->p):p:=by
 obtain⟨h1,a,b,h2⟩:=h;exact k h1 a b h2
theorem Wm{A B:Sort _}{P p:Prop}{Q R S:A->B->Prop}(h:P/\∃a,∃b,Q a b/\R a b/\S a b)(k:P->∀a,∀b,Q a b->R a b->S a b->p):p:=by
 obtain⟨h1,a,b,h2,h3,h4⟩:=h;exact k h1 a b h2 h3 h4
theorem Wn{A B C:Sort _}{P p:Prop}{Q R:A->B->C->Prop}(h:P/\∃a,∃b,∃c,Q a b c/\R a b c)(k:P->∀a,∀b,∀c,Q a b c->R a b c->p):p:=by
 obtain⟨h1,a,b,c,h2,h3⟩:=h;exact k h1 a b c h2 h3
theorem xE{A:Sort _}{P:A->Prop}{p:Prop}(h:∃a,P a)(k:∀a,P a->p):p:=by
 obtain⟨a,h1⟩:=h;exact k a h1
theorem ak{A:Sort _}{P Q:A->Prop}{p:Prop}(h:∃a,P a/\Q a)(k:∀a,P a->Q a->p):p:=by
 obtain⟨a,h1,h2⟩:=h;exact k a h1 h2
theorem dY{A:Sort _}{P Q R:A->Prop}{p:Prop}(h:∃a,P a/\Q a/\R a)(k:∀a,P a->Q a->R a->p):p:=by
 obtain⟨a,h1,h2,h3⟩:=h;exact k a h1 h2 h3
theorem u9{A:Sort _}{P Q R S:A->Prop}{p:Prop}(h:∃a,P a/\Q a/\R a/\S a)(k:∀a,P a->Q a->R a->S a->p):p:=by
 obtain⟨a,h1,h2,h3,h4⟩:=h;exact k a h1 h2 h3 h4
theorem Gw{A:Sort _}{P Q R S T:A->Prop}{p:Prop}(h:∃a,P a/\Q a/\R a/\S a/\T a)(k:∀a,P a->Q a->R a->S a->T a->p):p:=by
 obtain⟨a,h1,h2,h3,h4,h5⟩:=h;exact k a h1 h2 h3 h4 h5
theorem Uj{A:Sort _}{P Q R S T U:A->Prop}{p:Prop}(h:∃a,P a/\Q a/\R a/\S a/\T a/\U a)(k:∀a,P a->Q a->R a->S a->T a->U a->p):p:=by
 obtain⟨a,h1,h2,h3,h4,h5,h6⟩:=h;exact k a h1 h2 h3 h4 h5 h6
theorem Gg{A B:Sort _}{P Q:A->Prop}{R:A->B->Prop}{p:Prop}(h:∃a,P a/\Q a/\∃b,R a b)(k:∀a,P a->Q a->∀b,R a b->p):p:=by
 obtain⟨a,h1,h2,b,h3⟩:=h;exact k a h1 h2 b h3
theorem Zy{A B:Sort _}{P:A->Prop}{Q R:A->B->Prop}{p:Prop}(h:∃a,P a/\∃b,Q a b/\R a b)(k:∀a,P a->∀b,Q a b->R a b->p):p:=by
 obtain⟨a,h1,b,h2,h3⟩:=h;exact k a h1 b h2 h3
theorem uG{A B:Sort _}{P:A->B->Prop}{p:Prop}(h:∃a,∃b,P a b)(k:∀a,∀b,P a b->p):p:=by
 obtain⟨a,b,h1⟩:=h;exact k a b h1
theorem cq{A B:Sort _}{P Q:A->B->Prop}{p:Prop}(h:∃a,∃b,P a b/\Q a b)(k:∀a,∀b,P a b->Q a b->p):p:=by
 obtain⟨a,b,h1,h2⟩:=h;exact k a b h1 h2
theorem dH{A B:Sort _}{P Q R:A->B->Prop}{p:Prop}(h:∃a,∃b,P a b/\Q a b/\R a b)(k:∀a,∀b,P a b->Q a b->R a b->p):p:=by
 obtain⟨a,b,h1,h2,h3⟩:=h;exact k a b h1 h2 h3
theorem Nc{A B C:Sort _}{P Q:A->B->Prop}{R:A->B->C->Prop}{p:Prop}(h:∃a,∃b,P a b/\Q a b/\∃c,R a b c)(k:∀a,∀b,P a b->Q a b->∀c,R a b c->p):p:=by
 obtain⟨a,b,h1,h2,c,h3⟩:=h;exact k a b h1 h2 c h3
theorem Wo{A B C:Sort _}{P:A->B->Prop}{Q R:A->B->C->Prop}{p:Prop}(h:∃a,∃b,P a b/\∃c,Q a b c/\R a b c)(k:∀a,∀b,P a b->∀c,Q a b c->R a b c->p):p:=by
 obtain⟨a,b,h1,c,h2,h3⟩:=h;exact k a b h1 c h2 h3
theorem PS{A B C:Sort _}{P:A->B->C->Prop}{p:Prop}(h:∃a,∃b,∃c,P a b c)(k:∀a,∀b,∀c,P a b c->p):p:=by
 obtain⟨a,b,c,h1⟩:=h;exact k a b c h1
theorem nE{A B C:Sort _}{P Q:A->B->C->Prop}{p:Prop}(h:∃a,∃b,∃c,P a b c/\Q a b c)(k:∀a,∀b,∀c,P a b c->Q a b c->p):p:=by
 obtain⟨a,b,c,h1,h2⟩:=h;exact k a b c h1 h2
theorem fz{A B C:Sort _}{P Q R:A->B->C->Prop}{p:Prop}(h:∃a,∃b,∃c,P a b c/\Q a b c/\R a b c)(k:∀a,∀b,∀c,P a b c->Q a b c->R a b c->p):p:=by
 obtain⟨a,b,c,h1,h2,h3⟩:=h;exact k a b c h1 h2 h3
theorem k8{A B C:Sort _}{P Q R S:A->B->C->Prop}{p:Prop}(h:∃a,∃b,∃c,P a b c/\Q a b c/\R a b c/\S a b c)(k:∀a,∀b,∀c,P a b c->Q a b c->R a b c->S a b c->p):p:=by
 obtain⟨a,b,c,h1,h2,h3,h4⟩:=h;exact k a b c h1 h2 h3 h4
theorem PT{A B C:Sort _}{P Q R S T:A->B->C->Prop}{p:Prop}(h:∃a,∃b,∃c,P a b c/\Q a b c/\R a b c/\S a b c/\T a b c)(k:∀a,∀b,∀c,P a b c->Q a b c->R a b c->S a b c->T a b c->p):p:=by
 obtain⟨a,b,c,h1,h2,h3,h4,h5⟩:=h;exact k a b c h1 h2 h3 h4 h5
theorem pF{A B C:Sort _}{P Q R S T U:A->B->C->Prop}{p:Prop}(h:∃a,∃b,∃c,P a b c/\Q a b c/\R a b c/\S a b c/\T a b c/\U a b c)(k:∀a,∀b,∀c,P a b c->Q a b c->R a b c->S a b c->T a b c->U a b c->p):p:=by
 obtain⟨a,b,c,h1,h2,h3,h4,h5,h6⟩:=h;exact k a b c h1 h2 h3 h4 h5 h6
theorem qD{A B C:Sort _}{P Q R S T U V:A->B->C->Prop}{p:Prop}(h:∃a,∃b,∃c,P a b c/\Q a b c/\R a b c/\S a b c/\T a b c/\U a b c/\V a b c)(k:∀a,∀b,∀c,P a b c->Q a b c->R a b c->S a b c->T a b c->U a b c->V a b c->p):p:=by
 obtain⟨a,b,c,h1,h2,h3,h4,h5,h6,h7⟩:=h;exact k a b c h1 h2 h3 h4 h5 h6 h7
theorem LA{A B C J:Sort _}{P:A->B->C->J->Prop}{p:Prop}(h:∃a,∃b,∃c,∃d,P a b c d)(k:∀a,∀b,∀c,∀d,P a b c d->p):p:=by
 obtain⟨a,b,c,d,h1⟩:=h;exact k a b c d h1
theorem rO{A B C J:Sort _}{P Q:A->B->C->J->Prop}{p:Prop}(h:∃a,∃b,∃c,∃d,P a b c d/\Q a b c d)(k:∀a,∀b,∀c,∀d,P a b c d->Q a b c d->p):p:=by
 obtain⟨a,b,c,d,h1,h2⟩:=h;exact k a b c d h1 h2
theorem Uk{A B C J:Sort _}{P Q R:A->B->C->J->Prop}{p:Prop}(h:∃a,∃b,∃c,∃d,P a b c d/\Q a b c d/\R a b c d)(k:∀a,∀b,∀c,∀d,P a b c d->Q a b c d->R a b c d->p):p:=by
 obtain⟨a,b,c,d,h1,h2,h3⟩:=h;exact k a b c d h1 h2 h3
theorem mE{A B C J:Sort _}{P Q R S:A->B->C->J->Prop}{p:Prop}(h:∃a,∃b,∃c,∃d,P a b c d/\Q a b c d/\R a b c d/\S a b c d)(k:∀a,∀b,∀c,∀d,P a b c d->Q a b c d->R a b c d->S a b c d->p):p:=by
 obtain⟨a,b,c,d,h1,h2,h3,h4⟩:=h;exact k a b c d h1 h2 h3 h4
theorem AK{A B C J:Sort _}{P Q R S T U:A->B->C->J->Prop}{p:Prop}(h:∃a,∃b,∃c,∃d,P a b c d/\Q a b c d/\R a b c d/\S a b c d/\T a b c d/\U a b c d)(k:∀a,∀b,∀c,∀d,P a b c d->Q a b c d->R a b c d->S a b c d->T a b c d->U a b c d->p):p:=by
 obtain⟨a,b,c,d,h1,h2,h3,h4,h5,h6⟩:=h;exact k a b c d h1 h2 h3 h4 h5 h6
theorem Jk{A B C J:Sort _}{P Q R S T U V:A->B->C->J->Prop}{p:Prop}(h:∃a,∃b,∃c,∃d,P a b c d/\Q a b c d/\R a b c d/\S a b c d/\T a b c d/\U a b c d/\V a b c d)(k:∀a,∀b,∀c,∀d,P a b c d->Q a b c d->R a b c d->S a b c d->T a b c d->U a b c d->V a b c d->p):p:=by
 obtain⟨a,b,c,d,h1,h2,h3,h4,h5,h6,h7⟩:=h;exact k a b c d h1 h2 h3 h4 h5 h6 h7
theorem Ul{A B C J E:Sort _}{P Q:A->B->C->J->E->Prop}{p:Prop}(h:∃a,∃b,∃c,∃d,∃e,P a b c d e/\Q a b c d e)(k:∀a,∀b,∀c,∀d,∀e,P a b c d e->Q a b c d e->p):p:=by
 obtain⟨a,b,c,d,e,h1,h2⟩:=h;exact k a b c d e h1 h2
theorem JW{A B C J E F:Sort _}{P:A->B->C->J->E->F->Prop}{p:Prop}(h:∃a,∃b,∃c,∃d,∃e,∃f,P a b c d e f)(k:∀a,∀b,∀c,∀d,∀e,∀f,P a b c d e f->p):p:=by
 obtain⟨a,b,c,d,e,f,h1⟩:=h;exact k a b c d e f h1
theorem zM{A B C J E F G:Sort _}{P:A->B->C->J->E->F->G->Prop}{p:Prop}(h:∃a,∃b,∃c,∃d,∃e,∃f,∃g,P a b c d e f g)(k:∀a,∀b,∀c,∀d,∀e,∀f,∀g,P a b c d e f g->p):p:=by
 obtain⟨a,b,c,d,e,f,g,h1⟩:=h;exact k a b c d e f g h1
theorem Nf{A B C J E F G:Sort _}{P Q:A->B->C->J->E->F->G->Prop}{p:Prop}(h:∃a,∃b,∃c,∃d,∃e,∃f,∃g,P a b c d e f g/\Q a b c d e f g)(k:∀a,∀b,∀c,∀d,∀e,∀f,∀g,P a b c d e f g->Q a b c d e f g->p):p:=by
 obtain⟨a,b,c,d,e,f,g,h1,h2⟩:=h;exact k a b c d e f g h1 h2
theorem PU{A B D:Sort _}{x:D}{P Q:Prop}{R:A->B->Prop}{t:A->B->D}(h:P/\Q/\∃a,∃b,x=t a b/\R a b):∀{M:D->Prop},(P->Q->∀a,∀b,R a b->M (t a b))->M x:=by
 obtain⟨h1,h2,a,b,rfl,h3⟩:=h;exact λk=>k h1 h2 a b h3
theorem Wq{A D:Sort _}{x:D}{P Q:A->Prop}{t:D}(h:x=t/\∃a,P a/\Q a):∀{M:D->Prop},(∀a,P a->Q a->M (t))->M x:=by
 obtain⟨rfl,a,h1,h2⟩:=h;exact λk=>k a h1 h2
theorem dq{A D:Sort _}{x:D}{P:A->Prop}{t:A->D}(h:∃a,x=t a/\P a):∀{M:D->Prop},(∀a,P a->M (t a))->M x:=by
 obtain⟨a,rfl,h1⟩:=h;exact λk=>k a h1
theorem LB{A D:Sort _}{x:D}{P:A->Prop}{t:A->D}(h:∃a,P a/\x=t a):∀{M:D->Prop},(∀a,P a->M (t a))->M x:=by
 obtain⟨a,h1,rfl⟩:=h;exact λk=>k a h1
theorem eN{A D:Sort _}{x:D}{P:A->Prop}{t:A->D}(h:∃a,P a/\t a=x):∀{M:D->Prop},(∀a,P a->M (t a))->M x:=by
 obtain⟨a,h1,rfl⟩:=h;exact λk=>k a h1
theorem JX{A B D:Sort _}{x:D}{P Q:A->B->Prop}{t:A->D}(h:∃a,x=t a/\∃b,P a b/\Q a b):∀{M:D->Prop},(∀a,∀b,P a b->Q a b->M (t a))->M x:=by
 obtain⟨a,rfl,b,h1,h2⟩:=h;exact λk=>k a b h1 h2
theorem So{A B D:Sort _}{x:D}{t:A->B->D}(h:∃a,∃b,x=t a b):∀{M:D->Prop},(∀a,∀b,M (t a b))->M x:=by
 obtain⟨a,b,rfl⟩:=h;exact λk=>k a b
theorem c0{A B D:Sort _}{x:D}{P:A->B->Prop}{t:A->B->D}(h:∃a,∃b,x=t a b/\P a b):∀{M:D->Prop},(∀a,∀b,P a b->M (t a b))->M x:=by
 obtain⟨a,b,rfl,h1⟩:=h;exact λk=>k a b h1
theorem Wr{A B D:Sort _}{x:D}{P:A->B->Prop}{t:A->B->D}(h:∃a,∃b,P a b/\x=t a b):∀{M:D->Prop},(∀a,∀b,P a b->M (t a b))->M x:=by
 obtain⟨a,b,h1,rfl⟩:=h;exact λk=>k a b h1
theorem yP{A B D:Sort _}{x:D}{P Q:A->B->Prop}{t:A->B->D}(h:∃a,∃b,x=t a b/\P a b/\Q a b):∀{M:D->Prop},(∀a,∀b,P a b->Q a b->M (t a b))->M x:=by
 obtain⟨a,b,rfl,h1,h2⟩:=h;exact λk=>k a b h1 h2
theorem Gx{A B C D:Sort _}{x:D}{t:A->B->C->D}(h:∃a,∃b,∃c,x=t a b c):∀{M:D->Prop},(∀a,∀b,∀c,M (t a b c))->M x:=by
 obtain⟨a,b,c,rfl⟩:=h;exact λk=>k a b c
theorem bJ{A B C D:Sort _}{x:D}{P:A->B->C->Prop}{t:A->B->C->D}(h:∃a,∃b,∃c,x=t a b c/\P a b c):∀{M:D->Prop},(∀a,∀b,∀c,P a b c->M (t a b c))->M x:=by
 obtain⟨a,b,c,rfl,h1⟩:=h;exact λk=>k a b c h1
theorem Gy{A B C D:Sort _}{x:D}{P Q:A->B->C->Prop}{t:A->B->C->D}(h:∃a,∃b,∃c,x=t a b c/\P a b c/\Q a b c):∀{M:D->Prop},(∀a,∀b,∀c,P a b c->Q a b c->M (t a b c))->M x:=by
 obtain⟨a,b,c,rfl,h1,h2⟩:=h;exact λk=>k a b c h1 h2
theorem iK{A B C D:Sort _}{x:D}{P Q R S:A->B->C->Prop}{t:A->B->C->D}(h:∃a,∃b,∃c,x=t a b c/\P a b c/\Q a b c/\R a b c/\S a b c):∀{M:D->Prop},(∀a,∀b,∀c,P a b c->Q a b c->R a b c->S a b c->M (t a b c))->M x:=by
 obtain⟨a,b,c,rfl,h1,h2,h3,h4⟩:=h;exact λk=>k a b c h1 h2 h3 h4
theorem zr{A B C D:Sort _}{x:D}{P Q R S T:A->B->C->Prop}{t:A->B->C->D}(h:∃a,∃b,∃c,x=t a b c/\P a b c/\Q a b c/\R a b c/\S a b c/\T a b c):∀{M:D->Prop},(∀a,∀b,∀c,P a b c->Q a b c->R a b c->S a b c->T a b c->M (t a b c))->M x:=by
 obtain⟨a,b,c,rfl,h1,h2,h3,h4,h5⟩:=h;exact λk=>k a b c h1 h2 h3 h4 h5
theorem ed{A B C J D:Sort _}{x:D}{P:A->B->C->J->Prop}{t:A->B->C->J->D}(h:∃a,∃b,∃c,∃d,x=t a b c d/\P a b c d):∀{M:D->Prop},(∀a,∀b,∀c,∀d,P a b c d->M (t a b c d))->M x:=by
 obtain⟨a,b,c,d,rfl,h1⟩:=h;exact λk=>k a b c d h1
theorem EB{A B C J D:Sort _}{x:D}{P Q:A->B->C->J->Prop}{t:A->B->C->J->D}(h:∃a,∃b,∃c,∃d,x=t a b c d/\P a b c d/\Q a b c d):∀{M:D->Prop},(∀a,∀b,∀c,∀d,P a b c d->Q a b c d->M (t a b c d))->M x:=by
 obtain⟨a,b,c,d,rfl,h1,h2⟩:=h;exact λk=>k a b c d h1 h2
theorem qE{A B C J D:Sort _}{x:D}{P Q R:A->B->C->J->Prop}{t:A->B->C->J->D}(h:∃a,∃b,∃c,∃d,x=t a b c d/\P a b c d/\Q a b c d/\R a b c d):∀{M:D->Prop},(∀a,∀b,∀c,∀d,P a b c d->Q a b c d->R a b c d->M (t a b c d))->M x:=by
 obtain⟨a,b,c,d,rfl,h1,h2,h3⟩:=h;exact λk=>k a b c d h1 h2 h3
theorem jj{A B C J D:Sort _}{x:D}{P Q R S T:A->B->C->J->Prop}{t:A->B->C->J->D}(h:∃a,∃b,∃c,∃d,x=t a b c d/\P a b c d/\Q a b c d/\R a b c d/\S a b c d/\T a b c d):∀{M:D->Prop},(∀a,∀b,∀c,∀d,P a b c d->Q a b c d->R a b c d->S a b c d->T a b c d->M (t a b c d))->M x:=by
 obtain⟨a,b,c,d,rfl,h1,h2,h3,h4,h5⟩:=h;exact λk=>k a b c d h1 h2 h3 h4 h5
theorem l9{A B C J D:Sort _}{x:D}{P Q R S T U:A->B->C->J->Prop}{t:A->B->C->J->D}(h:∃a,∃b,∃c,∃d,x=t a b c d/\P a b c d/\Q a b c d/\R a b c d/\S a b c d/\T a b c d/\U a b c d):∀{M:D->Prop},(∀a,∀b,∀c,∀d,P a b c d->Q a b c d->R a b c d->S a b c d->T a b c d->U a b c d->M (t a b c d))->M x:=by
 obtain⟨a,b,c,d,rfl,h1,h2,h3,h4,h5,h6⟩:=h;exact λk=>k a b c d h1 h2 h3 h4 h5 h6
theorem EC{A B C J E D:Sort _}{x:D}{P:A->B->C->J->E->Prop}{t:A->B->C->J->E->D}(h:∃a,∃b,∃c,∃d,∃e,x=t a b c d e/\P a b c d e):∀{M:D->Prop},(∀a,∀b,∀c,∀d,∀e,P a b c d e->M (t a b c d e))->M x:=by
 obtain⟨a,b,c,d,e,rfl,h1⟩:=h;exact λk=>k a b c d e h1
theorem Jl{A B C J E F G D:Sort _}{x:D}{P:A->B->C->J->E->F->G->Prop}{t:A->B->C->J->E->F->G->D}(h:∃a,∃b,∃c,∃d,∃e,∃f,∃g,x=t a b c d e f g/\P a b c d e f g):∀{M:D->Prop},(∀a,∀b,∀c,∀d,∀e,∀f,∀g,P a b c d e f g->M (t a b c d e f g))->M x:=by
 obtain⟨a,b,c,d,e,f,g,rfl,h1⟩:=h;exact λk=>k a b c d e f g h1
theorem zL{α:Sort _}{x t:α}(e:x=t):∀{M:α->Prop} (_:M t),M x:=by
 cases e;exact λk=>k
theorem zR{α:Sort _}{x t:α}(e:t=x):∀{M:α->Prop} (_:M t),M x:=by
 cases e;exact λk=>k
local macro_rules | `(tactic| rw [$rs,*])=>do let s<-rs.getElems.mapM (λr=>(do let t:Lean.Term:=⟨r.raw[1]⟩;let f:=Lean.mkIdent (if r.raw[0].getNumArgs=0 then `rwL else `rwS);`(tactic| first | refine $f $t ?_ | refine $f ($t _) ?_ | refine $f ($t _ _) ?_ | refine $f ($t _ _ _) ?_ | rewrite [$r])));`(tactic| ($[$s]*;try with_reducible rfl))
inductive Lx where
 | n (k:Nat) | v (i:Nat) | w (i:Nat) | a (x y:Lx) | s (x y:Lx) | g (x:Lx) | l (k:Nat) (x:Lx) | r (x:Lx) (k:Nat) | c (x:Lx)
noncomputable def Lx.ctorIdx(x:Lx):Nat:=Lx.casesOn x (λz=>0) (λz=>1) (λz=>2) (λz z=>3) (λz z=>4) (λz=>5) (λz z=>6) (λz z=>7) (λz=>8)
noncomputable def Sp(o:α)(l:List α):Nat->α:=List.rec (λz=>o) (λx z f i=>Nat.rec x (λj z=>f j) i) l
noncomputable def Lx.N(cn:List Nat)(t:Lx):Nat:=Lx.rec (λk=>k) (λi=>Sp 0 cn i) (λz=>0) (λz z x y=>x+y) (λz z z z=>0) (λz z=>0) (λk z x=>k*x) (λz k x=>x*k) (λz z=>0) t
noncomputable def Lx.Z(cn:List Nat)(cz:List Int)(t:Lx):Int:=Lx.rec (λk=>Int.ofNat k) (λz=>0) (λi=>Sp 0 cz i) (λz z x y=>x+y) (λz z x y=>x-y) (λz x=> -x) (λk z x=>Int.ofNat k*x) (λz k x=>x*Int.ofNat k) (λx z=>(Lx.N cn x:Int)) t
noncomputable def mF(x:List Int):List Int->List Int:=List.rec (λy=>y) (λa z f y=>List.rec (a::f []) (λb t z=>(a+b)::f t) y) x
noncomputable def mulL(k:Int)(x:List Int):List Int:=List.rec [] (λa z f=>(k*a)::f) x
noncomputable def km(i:Nat):List Int:=Nat.rec [1] (λz f=>0::f) i
noncomputable def dZ(x:List Int):List Nat->Int:=List.rec (λz=>0) (λa z f y=>List.rec 0 (λ(b:Nat) t _=>a*b+f t) y) x
noncomputable def gn(x:List Int):List Int->Int:=List.rec (λz=>0) (λa z f y=>List.rec 0 (λb t z=>a*b+f t) y) x
noncomputable def Lx.ln(t:Lx):List Int:=Lx.rec (λk=>[Int.ofNat k]) (λi=>0::km i) (λz=>[]) (λz z x y=>mF x y) (λz z z z=>[]) (λz z=>[]) (λk z x=>mulL (Int.ofNat k) x) (λz k x=>mulL (Int.ofNat k) x) (λz z=>[]) t
noncomputable def Lx.lz(t:Lx):List Int×List Int:=Lx.rec (λk=>([Int.ofNat k],[])) (λz=>([],[])) (λi=>([],km i)) (λz z x y=>(mF x.1 y.1,mF x.2 y.2)) (λz z x y=>(mF x.1 (mulL (-1) y.1),mF x.2 (mulL (-1) y.2)))
 (λz x=>(mulL (-1) x.1,mulL (-1) x.2)) (λk z x=>(mulL (Int.ofNat k) x.1,mulL (Int.ofNat k) x.2)) (λz k x=>(mulL (Int.ofNat k) x.1,mulL (Int.ofNat k) x.2)) (λx z=>(Lx.ln x,[])) t
theorem zN(x:List Int):dZ x []=0:=by cases x<;>rfl
theorem zO(x:List Int):gn x []=0:=by cases x<;>rfl
theorem Gz(x:List Int):mF x []=x:=by
 induction x with
 | nil=>rfl
 | cons a x ih=>exact bE (a::·) ih
theorem GA(x:List Int):∀y c,dZ (mF x y) c=dZ x c+dZ y c:=by
 induction x with
 | nil=>exact λy c=>(kY _).symm
 | cons a x ih =>
  intro y c;cases c with
  | nil=>rw[zN,zN,zN];rfl
  | cons n c =>
   cases y with
   | nil=>rw[Gz];exact(ji _).symm
   | cons b y =>
    show(a+b)*(n:Int)+dZ (mF x y) c=(a*n+dZ x c)+(b*n+dZ y c);rw[ih,Int.add_mul];ac_rfl
theorem PW(x:List Int):∀y c,gn (mF x y) c=gn x c+gn y c:=by
 induction x with
 | nil=>exact λy c=>(kY _).symm
 | cons a x ih =>
  intro y c;cases c with
  | nil=>rw[zO,zO,zO];rfl
  | cons n c =>
   cases y with
   | nil=>rw[Gz];exact(ji _).symm
   | cons b y =>
    show(a+b)*n+gn (mF x y) c=(a*n+gn x c)+(b*n+gn y c);rw[ih,Int.add_mul];ac_rfl
theorem zP(k:Int)(x:List Int):∀c,dZ (mulL k x) c=k*dZ x c:=by
 induction x with
 | nil=>exact λc=>(uC k).symm
 | cons a x ih =>
  intro c;cases c with
  | nil=>exact(uC k).symm
  | cons n c =>
   show(k*a)*(n:Int)+dZ (mulL k x) c=k*(a*n+dZ x c);rw[ih,Int.mul_add,Int.mul_assoc]
theorem PX(k:Int)(x:List Int):∀c,gn (mulL k x) c=k*gn x c:=by
 induction x with
 | nil=>exact λc=>(uC k).symm
 | cons a x ih =>
  intro c;cases c with
  | nil=>exact(uC k).symm
  | cons n c =>
   show(k*a)*n+gn (mulL k x) c=k*(a*n+gn x c);rw[ih,Int.mul_add,Int.mul_assoc]
theorem PY(i:Nat):∀c,dZ (km i) c=(Sp 0 c i:Nat):=by
 induction i with
 | zero =>
  intro c;cases c with
  | nil=>rfl
  | cons n c =>
   show 1*(n:Int)+dZ [] c=(n:Int);rw[Int.one_mul];exact ji _
 | succ i ih =>
  intro c;cases c with
  | nil=>rfl
  | cons n c =>
   show 0*(n:Int)+dZ (km i) c=_;rw[ih,rC];exact kY _
theorem PZ(i:Nat):∀c,gn (km i) c=Sp 0 c i:=by
 induction i with
 | zero =>
  intro c;cases c with
  | nil=>rfl
  | cons n c =>
   show 1*n+gn [] c=n;rw[Int.one_mul];exact ji _
 | succ i ih =>
  intro c;cases c with
  | nil=>rfl
  | cons n c =>
   show 0*n+gn (km i) c=_;rw[ih,rC];exact kY _
theorem Lx.Sq(cn:List Nat)(t:Lx):dZ t.ln (1::cn)=(t.N cn:Nat):=by
 induction t with
 | n k=>show Int.ofNat k*(1:Nat)+dZ [] cn=(k:Nat);rw[show dZ [] cn=0 from rfl];simp
 | v i=>show 0*((1:Nat):Int)+dZ (km i) cn=_;rw[PY,rC];exact kY _
 | w i=>rfl
 | a x y hx hy=>show dZ (mF x.ln y.ln) _=((x.N cn+y.N cn:Nat):Int);rw[GA,hx,hy];rfl
 | s x y hx hy=>rfl
 | g x hx=>rfl
 | l k x hx=>show dZ (mulL (Int.ofNat k) x.ln) _=((k*x.N cn:Nat):Int);rw[zP,hx];rfl
 | r x k hx=>show dZ (mulL (Int.ofNat k) x.ln) _=((x.N cn*k:Nat):Int);rw[zP,hx,uz];rfl
 | c x hx=>rfl
noncomputable def val(cn:List Nat)(cz:List Int)(f:List Int×List Int):Int:=dZ f.1 (1::cn)+gn f.2 cz
noncomputable def jk(x y:List Int×List Int):List Int×List Int:=(mF x.1 y.1,mF x.2 y.2)
noncomputable def jl(k:Int)(x:List Int×List Int):List Int×List Int:=(mulL k x.1,mulL k x.2)
section
variable (cn:List Nat) (cz:List Int)
theorem oN(x y:List Int×List Int):val cn cz (jk x y)=val cn cz x+val cn cz y:=by
 show dZ (mF x.1 y.1) _+gn (mF x.2 y.2) _=(dZ x.1 _+gn x.2 _)+(dZ y.1 _+gn y.2 _);rw[GA,PW];ac_rfl
theorem m8(k:Int)(x:List Int×List Int):val cn cz (jl k x)=k*val cn cz x:=by
 show dZ (mulL k x.1) _+gn (mulL k x.2) _=k*(dZ x.1 _+gn x.2 _);rw[zP,PX,Int.mul_add]
theorem Sr(k:Int):val cn cz ([k],[])=k:=by
 show k*((1:Nat):Int)+0+0=k;rw[ji,ji];exact Int.mul_one k
theorem Lx.gi(t:Lx):val cn cz t.lz=t.Z cn cz:=by
 induction t with
 | n k=>exact Sr cn cz _
 | v i=>rfl
 | w i=>show 0+gn (km i) cz=_;rw[PZ];exact kY _
 | a x y hx hy=>show val cn cz (jk x.lz y.lz)=_;rw[oN,hx,hy];rfl
 | s x y hx hy=>show val cn cz (jk x.lz (jl (-1) y.lz))=x.Z cn cz-y.Z cn cz;rw[oN,m8,hx,hy,Int.neg_one_mul];rfl
 | g x hx=>show val cn cz (jl (-1) x.lz)= -x.Z cn cz;rw[m8,hx,Int.neg_one_mul]
 | l k x hx=>show val cn cz (jl (Int.ofNat k) x.lz)=Int.ofNat k*x.Z cn cz;rw[m8,hx]
 | r x k hx=>show val cn cz (jl (Int.ofNat k) x.lz)=x.Z cn cz*Int.ofNat k;rw[m8,hx,yJ]
 | c x hx=>show dZ x.ln _+0=_;rw[x.Sq];exact ji _
end
structure Lc where
 k:Nat
 z:Bool
 x:Lx
 y:Lx
 m:Int
def rel[LE α][LT α](k:Nat)(x y:α):Prop:=Nat.rec (x<=y) (λk z=>Nat.rec (x<y) (λk z=>Nat.rec (x=y) (λk z=>Nat.rec (¬x<=y) (λz z=>¬x<y) k) k) k) k
def Lc.den(cn:List Nat)(cz:List Int)(c:Lc):Prop:=Bool.rec (rel c.k (c.x.N cn) (c.y.N cn)) (rel c.k (c.x.Z cn cz) (c.y.Z cn cz)) c.z
noncomputable def Lc.fx(c:Lc)(t:Lx):List Int×List Int:=Bool.rec (t.ln,[]) t.lz c.z
noncomputable def gM(x y:List Int×List Int)(k:Int):List Int×List Int:=jk y (jk (jl (-1) x) ([k],[]))
noncomputable def Lc.D(c:Lc):List Int×List Int:=Nat.rec (gM (c.fx c.x) (c.fx c.y) 0) (λk z=>Nat.rec (gM (c.fx c.x) (c.fx c.y) (-1)) (λk z=>Nat.rec (gM (c.fx c.x) (c.fx c.y) 0) (λk z=>Nat.rec (gM (c.fx c.y) (c.fx c.x) (-1)) (λz z=>gM (c.fx c.y) (c.fx c.x) 0) k) k) k) c.k
noncomputable def Lc.neg(c:Lc):List Int×List Int:=Nat.rec (gM (c.fx c.y) (c.fx c.x) (-1)) (λk z=>Nat.rec (gM (c.fx c.y) (c.fx c.x) 0) (λk z=>Nat.rec ([],[]) (λk z=>Nat.rec (gM (c.fx c.x) (c.fx c.y) 0) (λz z=>gM (c.fx c.x) (c.fx c.y) (-1)) k) k) k) c.k
section
variable (cn:List Nat) (cz:List Int)
theorem d6(x y:List Int×List Int)(k:Int):val cn cz (gM x y k)=val cn cz y-val cn cz x+k:=by
 show val cn cz (jk y (jk (jl (-1) x) ([k],[])))=_;rw[oN,oN,m8,Sr,Int.neg_one_mul];omega
theorem eV(t:Lx):val cn cz (t.ln,[])=(t.N cn:Nat):=by
 show dZ t.ln _+0=_;rw[t.Sq];exact ji _
theorem Lc.ab9(c:Lc)(h:c.den cn cz):0<=val cn cz c.D/\(c.k=2->val cn cz c.D=0):=by
 obtain⟨k,z,x,y,m⟩:=c;cases z with
 | false =>
  rcases k with _ | _ | _ | _ | k<;>refine(λh=>?_:_->_) h
  ·replace h:x.N cn<=y.N cn:=h;show 0<=val cn cz (gM (x.ln,[]) (y.ln,[]) 0)/\_;rw[d6,eV,eV];exact⟨by omega,λe=>nomatch e⟩
  ·replace h:x.N cn<y.N cn:=h;show 0<=val cn cz (gM (x.ln,[]) (y.ln,[]) (-1))/\_;rw[d6,eV,eV];exact⟨by omega,λe=>nomatch e⟩
  ·replace h:x.N cn=y.N cn:=h;show 0<=val cn cz (gM (x.ln,[]) (y.ln,[]) 0)/\(_->val cn cz (gM (x.ln,[]) (y.ln,[]) 0)=0);rw[d6,eV,eV];exact⟨by omega,λw=>by omega⟩
  ·replace h:¬x.N cn<=y.N cn:=h;show 0<=val cn cz (gM (y.ln,[]) (x.ln,[]) (-1))/\_;rw[d6,eV,eV];exact⟨by omega,λe=>nomatch e⟩
  ·replace h:¬x.N cn<y.N cn:=h;show 0<=val cn cz (gM (y.ln,[]) (x.ln,[]) 0)/\_;rw[d6,eV,eV];exact⟨by omega,λe=>nomatch e⟩
 | true =>
  rcases k with _ | _ | _ | _ | k<;>refine(λh=>?_:_->_) h
  ·replace h:x.Z cn cz<=y.Z cn cz:=h;show 0<=val cn cz (gM x.lz y.lz 0)/\_;rw[d6,Lx.gi,Lx.gi];exact⟨by omega,λe=>nomatch e⟩
  ·replace h:x.Z cn cz<y.Z cn cz:=h;show 0<=val cn cz (gM x.lz y.lz (-1))/\_;rw[d6,Lx.gi,Lx.gi];exact⟨by omega,λe=>nomatch e⟩
  ·replace h:x.Z cn cz=y.Z cn cz:=h;show 0<=val cn cz (gM x.lz y.lz 0)/\(_->val cn cz (gM x.lz y.lz 0)=0);rw[d6,Lx.gi,Lx.gi];exact⟨by omega,λw=>by omega⟩
  ·replace h:¬x.Z cn cz<=y.Z cn cz:=h;show 0<=val cn cz (gM y.lz x.lz (-1))/\_;rw[d6,Lx.gi,Lx.gi];exact⟨by omega,λe=>nomatch e⟩
  ·replace h:¬x.Z cn cz<y.Z cn cz:=h;show 0<=val cn cz (gM y.lz x.lz 0)/\_;rw[d6,Lx.gi,Lx.gi];exact⟨by omega,λe=>nomatch e⟩
end
noncomputable def i5(l:List Int):Bool:=List.rec true (λa z f=>decide (a=0)&&f) l
noncomputable def Ng(l:List Int):Bool:=List.rec true (λa z f=>decide (a<=0)&&f) l
noncomputable def below(l:List Int):Bool:=List.rec false (λa t z=>decide (a<0)&&Ng t) l
noncomputable def nF(hs:List Lc):List Int×List Int:=List.rec ([],[]) (λc z f=>jk (jl c.m c.D) f) hs
noncomputable def Nh(e:Bool)(hs:List Lc):Bool:=List.rec true (λc z f=>(decide (c.k=2)||(!e&&decide (0<=c.m)))&&f) hs
noncomputable def pG(g:Lc)(hs:List Lc):Bool:=Bool.rec
 (Nh false hs&&(decide (0<=g.m)&&(below (jk (nF hs) (jl g.m g.neg)).1&&i5 (jk (nF hs) (jl g.m g.neg)).2)))
 (Nh true hs&&(!decide (g.m=0)&&(i5 (jk (nF hs) (jl g.m g.D)).1&&i5 (jk (nF hs) (jl g.m g.D)).2))) (decide (g.k=2))
theorem qa(h:(a&&b)=true):a=true/\b=true:=by
 cases a with
 | false=>cases h
 | true=>exact⟨rfl,h⟩
section
variable (cn:List Nat) (cz:List Int)
theorem Ni(l:List Int):∀c,i5 l=true->gn l c=0:=by
 induction l with
 | nil=>exact λz z=>rfl
 | cons a l ih =>
  intro c h;obtain h:=qa h;cases c with
  | nil=>rfl
  | cons n c=>show a*n+gn l c=0;rw[aN h.1,ih c h.2,rC];rfl
theorem Ws(l:List Int):∀c,i5 l=true->dZ l c=0:=by
 induction l with
 | nil=>exact λz z=>rfl
 | cons a l ih =>
  intro c h;obtain h:=qa h;cases c with
  | nil=>rfl
  | cons n c=>show a*(n:Int)+dZ l c=0;rw[aN h.1,ih c h.2,rC];rfl
theorem Um(l:List Int):∀c,Ng l=true->dZ l c<=0:=by
 induction l with
 | nil=>exact λz z=>yO _
 | cons a l ih =>
  intro c h;obtain h:=qa h;cases c with
  | nil=>exact yO _
  | cons n c =>
   obtain p:=Int.mul_le_mul_of_nonneg_right (aN h.1) (gb n);rw[rC]at p;exact Int.add_nonpos p (ih c h.2)
theorem Wt(l:List Int)(h:below l=true):dZ l (1::cn)<0:=by
 cases l with
 | nil=>cases h
 | cons a l =>
  obtain h:=qa h;obtain h1:=aN h.1;obtain h2:=Um l cn h.2;show a*((1:Nat):Int)+dZ l cn<0;omega
theorem Lc.Wu(c:Lc)(h:c.k≠2)(n:¬c.den cn cz):0<=val cn cz c.neg:=by
 obtain⟨k,z,x,y,m⟩:=c;cases z with
 | false =>
  rcases k with _ | _ | _ | _ | k<;>refine(λn=>?_:_->_) n
  ·replace n:¬x.N cn<=y.N cn:=n;show 0<=val cn cz (gM (y.ln,[]) (x.ln,[]) (-1));rw[d6,eV,eV];omega
  ·replace n:¬x.N cn<y.N cn:=n;show 0<=val cn cz (gM (y.ln,[]) (x.ln,[]) 0);rw[d6,eV,eV];omega
  ·exact absurd rfl h
  ·replace n:¬¬x.N cn<=y.N cn:=n;show 0<=val cn cz (gM (x.ln,[]) (y.ln,[]) 0);rw[d6,eV,eV];omega
  ·replace n:¬¬x.N cn<y.N cn:=n;show 0<=val cn cz (gM (x.ln,[]) (y.ln,[]) (-1));rw[d6,eV,eV];omega
 | true =>
  rcases k with _ | _ | _ | _ | k<;>refine(λn=>?_:_->_) n
  ·replace n:¬x.Z cn cz<=y.Z cn cz:=n;show 0<=val cn cz (gM y.lz x.lz (-1));rw[d6,Lx.gi,Lx.gi];omega
  ·replace n:¬x.Z cn cz<y.Z cn cz:=n;show 0<=val cn cz (gM y.lz x.lz 0);rw[d6,Lx.gi,Lx.gi];omega
  ·exact absurd rfl h
  ·replace n:¬¬x.Z cn cz<=y.Z cn cz:=n;show 0<=val cn cz (gM x.lz y.lz 0);rw[d6,Lx.gi,Lx.gi];omega
  ·replace n:¬¬x.Z cn cz<y.Z cn cz:=n;show 0<=val cn cz (gM x.lz y.lz (-1));rw[d6,Lx.gi,Lx.gi];omega
theorem Lc.Zz(c:Lc)(h:c.k=2)(n:val cn cz c.D=0):c.den cn cz:=by
 obtain⟨k,z,x,y,m⟩:=c;replace h:k=2:=h;subst h;cases z with
 | false =>
  replace n:val cn cz (gM (x.ln,[]) (y.ln,[]) 0)=0:=n;rw[d6,eV,eV]at n;show x.N cn=y.N cn;omega
 | true =>
  replace n:val cn cz (gM x.lz y.lz 0)=0:=n;rw[d6,Lx.gi,Lx.gi]at n;show x.Z cn cz=y.Z cn cz;omega
def P0(hs:List Lc):Prop:=List.rec True (λc z P=>c.den cn cz/\P) hs
theorem Nj(e:Bool)(hs:List Lc)(h:Nh e hs=true)(t:P0 cn cz hs):0<=val cn cz (nF hs)/\(e=true->val cn cz (nF hs)=0):=by
 induction hs with
 | nil=>exact⟨yO _,λz=>rfl⟩
 | cons c hs ih =>
  obtain h:=qa h;have i:=ih h.2 t.2;have d:=c.ab9 cn cz t.1;show 0<=val cn cz (jk (jl c.m c.D) (nF hs))/\(_->val cn cz (jk (jl c.m c.D) (nF hs))=0);rw[oN,m8];rcases(yF _ _).mp h.1 with g | g
  ·rw[d.2 (aN g),uC,kY];exact i
  ·obtain g:=qa g;refine⟨Int.add_nonneg (Int.mul_nonneg (aN g.2) d.1) i.1,λe'=>?_⟩;rw[e']at g;cases g.1
theorem Wv(g:Lc)(hs:List Lc)(h:pG g hs=true)(t:P0 cn cz hs):g.den cn cz:=by
 by_cases e:g.k=2
 ·obtain h:(Nh true hs&&(!decide (g.m=0)&&(i5 (jk (nF hs) (jl g.m g.D)).1&&i5 (jk (nF hs) (jl g.m g.D)).2)))=true:=by
   unfold pG at h;rw[cH e]at h;exact h
  have h:=qa h;obtain h':=qa h.2;obtain da:=qa h'.2;obtain s:=(Nj cn cz true hs h.1 t).2 rfl;obtain z:val cn cz (jk (nF hs) (jl g.m g.D))=0:=by
   show dZ _ _+gn _ _=0;rw[Ws _ _ da.1,Ni _ _ da.2];rfl
  rw[oN,m8,s,kY]at z;obtain hm:g.m≠0:=of_decide_eq_false ((rp _).mp h'.1);exact g.Zz cn cz e ((Int.mul_eq_zero.mp z).resolve_left hm)
 ·obtain h:(Nh false hs&&(decide (0<=g.m)&&(below (jk (nF hs) (jl g.m g.neg)).1&&i5 (jk (nF hs) (jl g.m g.neg)).2)))=true:=by
   unfold pG at h;rw[c9 e]at h;exact h
  have h:=qa h;obtain h':=qa h.2;obtain da:=qa h'.2;refine nz λn=>?_;obtain s:=(Nj cn cz false hs h.1 t).1;obtain p:=Int.mul_nonneg (aN h'.1) (g.Wu cn cz e n);obtain z:val cn cz (jk (nF hs) (jl g.m g.neg))<0:=by
   show dZ _ _+gn _ _<0;rw[Ni _ _ da.2,ji];exact Wt cn _ da.1
  rw[oN,m8]at z;omega
def Ww(G:Prop)(hs:List Lc):Prop:=List.rec (λG=>G) (λc z f G=>f (c.den cn cz->G)) hs G
theorem Un(hs:List Lc):∀G:Prop,(P0 cn cz hs->P->G)->P->Ww cn cz G hs:=by
 induction hs with
 | nil=>exact λG k p=>k trivial p
 | cons c hs ih=>exact λG k p=>ih _ (λt p' d=>k ⟨d,t⟩ p') p
end
structure Ls where
 st:List Lx
 cs:List Lc
noncomputable def Lx.num(t:Lx):Nat:=Lx.rec (λk=>k) (λz=>0) (λz=>0) (λz z z z=>0) (λz z z z=>0) (λz z=>0) (λz z z=>0) (λz z z=>0) (λz z=>0) t
noncomputable def Ls.un(s:Ls)(f:Lx->Lx):Ls:=List.rec s (λx r z=>⟨f x::r,s.cs⟩) s.st
noncomputable def Ls.bi(s:Ls)(f:Lx->Lx->Lx):Ls:=List.rec s (λy r z=>List.rec s (λx r z=>⟨f x y::r,s.cs⟩) r) s.st
noncomputable def Ls.con(s:Ls)(k:Nat)(z:Bool):Ls:=List.rec s (λy r w=>List.rec s (λx r w=>⟨r,⟨k,z,x,y,1⟩::s.cs⟩) r) s.st
noncomputable def Ls.mul(s:Ls)(f:Nat->Int):Ls:=List.rec s (λy r w=>List.rec s (λc t w=>⟨r,⟨c.k,c.z,c.x,c.y,f y.num⟩::t⟩) s.cs) s.st
noncomputable def Ls.op(s:Ls)(d:Nat):Ls :=
 bif Nat.blt d 12 then⟨.v d::s.st,s.cs⟩else bif Nat.blt d 18 then⟨.w (d-12)::s.st,s.cs⟩else
 bif Nat.beq d 18 then s.bi .a else bif Nat.beq d 19 then s.bi .s else bif Nat.beq d 20 then s.un .g else bif Nat.beq d 21 then s.un .c else
 bif Nat.beq d 22 then s.bi (λx y=>.l x.num y)else bif Nat.beq d 23 then s.bi (λx y=>.r x y.num)else bif Nat.beq d 24 then⟨.n 0::s.st,s.cs⟩else
 bif Nat.blt d 35 then s.un (λx=>.n (10*x.num+(d-25)))else bif Nat.blt d 40 then s.con (d-35) false else bif Nat.blt d 45 then s.con (d-40) true else
 bif Nat.beq d 45 then s.mul Int.ofNat else bif Nat.beq d 46 then s.mul (λk=> -Int.ofNat k)else s.un (λx=>.n (2^x.num))
noncomputable def dec(N:Nat):List Lc:=(Nat.rec (λ(_:Nat)(s:Ls)=>s) (λz f N s=>bif Nat.beq N 0 then s else f (N/50) (s.op (N%50-1))) 99 N ⟨[],[]⟩:Ls).cs
def den(N:Nat)(cn:List Nat)(cz:List Int):Prop:=List.rec True (λg hs z=>Bool.rec True (Ww cn cz (g.den cn cz) hs) (pG g hs)) (dec N)
theorem gZ(N:Nat)(cn:List Nat)(cz:List Int):den N cn cz:=by
 unfold den;cases dec N with
 | nil=>trivial
 | cons g hs =>
  cases e:pG g hs with
  | false=>show Bool.rec True _ (pG g hs);rw[e];trivial
  | true=>show Bool.rec True _ (pG g hs);rw[e];exact Un cn cz (P:=True) hs _ (λt z=>Wv cn cz g hs e t) trivial
theorem cP{a b:Nat}:a<=a-b+b:=by omega
theorem j6(n:Nat):den n [] [x]:=gZ ..
theorem l02(n:Nat):den n [] [x,y]:=gZ ..
theorem ah(n:Nat):den n [a] []:=gZ ..
theorem wb(n:Nat):den n [a] [x]:=gZ ..
theorem l12(n:Nat):den n [a] [x,y]:=gZ ..
theorem ag(n:Nat):den n [a,b] []:=gZ ..
theorem l21(n:Nat):den n [a,b] [x]:=gZ ..
theorem az(n:Nat):den n [a,b,c] []:=gZ ..
theorem l31(n:Nat):den n [a,b,c] [x]:=gZ ..
theorem bO(n:Nat):den n [a,b,c,d] []:=gZ ..
theorem gd(n:Nat):den n [a,b,c,d,e] []:=gZ ..
theorem uH(n:Nat):den n [a,b,c,d,e,f] []:=gZ ..
theorem l70(n:Nat):den n [a,b,c,d,e,f,g] []:=gZ ..
theorem l80(n:Nat):den n [a,b,c,d,e,f,g,h] []:=gZ ..
theorem l90(n:Nat):den n [a,b,c,d,e,f,g,h,i] []:=gZ ..
noncomputable abbrev lw:OpenLaw:=PySem.Challenge.rw_np0207_01
noncomputable abbrev pw:Program:=PySem.Challenge.pw_np0207_01
noncomputable def st(i:Nat):Stmt:=pw.main.body.getD i default
noncomputable def jm(i j:Nat):Stmt:=match st i with
 | .ClassDef _ _ _ b _ _ _ _ _ _ _=>b.getD j default
 | _=>default
noncomputable def fO(s:Stmt)(qual:Str)(dV kV doc pm:Value)(an:Option Addr)(cd ct:Value)(bi:Addr)(d:Option Addr)(sl:List (Option Value)):Obj:=match s with
 | .FunctionDef n a b _ _ _ sc _ _ _=>⟨.type "function",d,.func ⟨n,qual,a,.stmts b,sc,3,[],dV,kV,doc,pm,an,cd,ct,bi⟩,sl.toArray⟩
 | _=>default
noncomputable def dO(c:Value)(d:Option Addr)(es:List DictEntry)(n:Nat)(sl:List (Option Value)):Obj:=⟨c,d,.dict es.toArray n,sl.toArray⟩
noncomputable def e(P:Params)(x:Str)(t:Nat)(v:Value):DictEntry:=⟨PyData.keyHash P x,.str x t,v⟩
noncomputable def md0:Value:=.str "__main__" 164
noncomputable def GB:Value:=.str "law_np0207_01" 1054
noncomputable def JY:Value:=.str "treepool.faults" 194
noncomputable def rP:Value:=.str "treepool.memset" 885
noncomputable def pH:Value:=.str "treepool.octets" 289
noncomputable def Ss:Value:=.str "treepool.shape" 447
noncomputable def sL:Value:=.str "treepool.zapform" 554
noncomputable def Wx:Value:=.str "treepool.zaphash" 525
noncomputable def JZ:Value:=.str "treepool.zapread" 737
noncomputable def zt:Value:=.str "treepool.zaps" 792
noncomputable def fP(s:Stmt)(q:Str)(m:Value)(r:Nat):Obj:=fO s q .none .none .none m none (.ref r) .none 0 none []
noncomputable def cO(n q:Str)(t:Nat)(l k f:Int)(r s:Nat)(x y z:Value)(w u:Nat):Obj:=⟨.type "code",none,.fields #[.str n t,.str q (t+1),.str "/claim/cut.py" (t+2),.int l 0,.int k 0,.int 0 0,.int 0 0,.int f 0,.ref r,.bool true,.int 181 0,.ref s,x,y,z,.ref w,.int u 0,.int l 0,.str "/claim/cut.py" (u+1)],#[]⟩
noncomputable def cF(n:Str)(t:Nat)(l k:Int)(r s w u:Nat):Obj:=cO n n t l k 3 r s .none .none .none w u
noncomputable def KF(P:Params):Frag:=[
 (3,dO (.type "dict") none [e P "__name__" 165 GB,e P "__doc__" 166 .none,e P "__package__" 167 .none,e P "__loader__" 168 (.builtin "__main__.__loader__#opaque"),e P "__spec__" 169 .none,e P "__annotations__" 170 (.ref 6),e P "__builtins__" 171 (.ref 4),e P "__file__" 173 (.str "/claim/cut.py" 172),e P "__cached__" 174 .none,e P "_wall" 193 (.ref 21),e P "PoolFault" 224 (.ref 38),e P "Corrupt" 240 (.ref 51),e P "NoSpace" 256 (.ref 63),e P "Missing" 272 (.ref 75),e P "Misused" 288 (.ref 87),e P "number_of" 296 (.ref 94),e P "octets_of" 302 (.ref 99),e P "text_octets" 308 (.ref 104),e P "octets_text" 314 (.ref 109),e P "Sink" 375 (.ref 154),e P "Cursor" 438 (.ref 204),e P "padded" 446 (.ref 215),e P "Shape" 508 (.ref 233),e P "round_up" 516 (.ref 244),e P "many_of" 524 (.ref 251),e P "BITS" 528 (.int 32 527),e P "zap_hash" 538 (.ref 258),e P "first_bits" 546 (.ref 265),e P "salt_of" 553 (.ref 272),e P "MICRO" 557 (.int 1 556),e P "FAT" 559 (.int 2 558),e P "LEAF" 561 (.int 3 560),e P "MICRO_HEAD" 563 (.int 7 562),e P "FAT_HEAD" 565 (.int 18 564),e P "LEAF_HEAD" 567 (.int 8 566),e P "NUMBER" 569 (.int 8 568),e P "PLACE" 571 (.int 4 570),e P "CHAINS" 573 (.int 4 572),e P "LINK" 575 (.int 2 574),e P "ENTRY" 577 (.int 15 576),e P "LONGEST" 579 (.int 28 578),e P "want_row" 587 (.ref 279),e P "micro_octets" 600 (.ref 286),e P "micro_rows" 611 (.ref 293),e P "FatHead" 656 (.ref 317),e P "fat_head" 668 (.ref 328),e P "sort_of" 675 (.ref 335),e P "leaf_octets" 681 (.ref 340),e P "want_leaf" 688 (.ref 347),e P "entry_at" 700 (.ref 354),e P "leaf_find" 715 (.ref 361),e P "leaf_rows" 729 (.ref 368),e P "leaf_bits" 736 (.ref 375),e P "first_block" 746 (.ref 382),e P "block_at" 756 (.ref 389),e P "table_entry" 767 (.ref 396),e P "table_of" 773 (.ref 401),e P "zap_find" 779 (.ref 406),e P "zap_all" 791 (.ref 413),e P "MOST_BITS" 795 (.int 16 794),e P "new_zap" 805 (.ref 420),e P "zap_put" 811 (.ref 425),e P "zap_take" 817 (.ref 430),e P "make_fat" 829 (.ref 437),e P "put_head" 838 (.ref 444),e P "leaf_for" 849 (.ref 451),e P "put_leaf" 864 (.ref 458),e P "put_fat" 870 (.ref 463),e P "grow_table" 876 (.ref 468),e P "part_leaf" 882 (.ref 473),e P "ZAP" 884 (.int 7 883),e P "MemDnode" 920 (.ref 490),e P "MemSet" 1053 (.ref 589),e P "_law_number" 1063 (.ref 600),e P "_law_rows" 1077 (.ref 607),e P "_law_fullest_first" 1083 (.ref 612),e P "_law_is_gone" 1092 (.ref 619),e P "_law_is_laid_right" 1098 (.ref 624),e P "law" 1104 (.ref 629)] 79 []),
 (20,cO "_wall" "_wall" 187 1 1 3 15 16 .none (.ref 17) (.ref 18) 19 191),
 (21,fP (st 0) "_wall" md0 20),
 (34,cO "__init__" "PoolFault.__init__" 208 7 2 3 29 30 .none (.ref 31) (.ref 32) 33 213),
 (35,fP (jm 2 0) "PoolFault.__init__" JY 34),
 (37,dO (.type "dict") none [e P "__module__" 203 JY,e P "__firstlineno__" 207 (.int 5 206),e P "__init__" 215 (.ref 35),e P "__static_attributes__" 217 (.ref 36),e P "__weakref__" 219 (.ref 39),e P "__doc__" 220 .none] 3 []),
 (38,⟨(.type "type"),none,.cls ⟨"PoolFault",[(.type "Exception")],[(.ref 38),(.type "Exception"),(.type "BaseException"),(.type "object")],37,"PoolFault",true,[],[(.ref 51),(.ref 63),(.ref 75),(.ref 87)],false,none,false⟩,#[some (.ref 22),none,some (.str "PoolFault" 196),some (.str "PoolFault" 204),some (.builtin "Exception.__new__"),some (.bool true)]⟩),
 (50,dO (.type "dict") none [e P "__module__" 232 JY,e P "__firstlineno__" 236 (.int 10 235),e P "__static_attributes__" 237 (.ref 49),e P "__doc__" 238 .none] 2 []),
 (51,⟨(.type "type"),none,.cls ⟨"Corrupt",[(.ref 38)],[(.ref 51),(.ref 38),(.type "Exception"),(.type "BaseException"),(.type "object")],50,"Corrupt",true,[],[],false,none,false⟩,#[some (.ref 42),none,some (.str "Corrupt" 225),some (.str "Corrupt" 233),some (.builtin "Exception.__new__"),some (.bool true)]⟩),
 (62,dO (.type "dict") none [e P "__module__" 248 JY,e P "__firstlineno__" 252 (.int 12 251),e P "__static_attributes__" 253 (.ref 61),e P "__doc__" 254 .none] 2 []),
 (63,⟨(.type "type"),none,.cls ⟨"NoSpace",[(.ref 38)],[(.ref 63),(.ref 38),(.type "Exception"),(.type "BaseException"),(.type "object")],62,"NoSpace",true,[],[],false,none,false⟩,#[some (.ref 54),none,some (.str "NoSpace" 241),some (.str "NoSpace" 249),some (.builtin "Exception.__new__"),some (.bool true)]⟩),
 (74,dO (.type "dict") none [e P "__module__" 264 JY,e P "__firstlineno__" 268 (.int 14 267),e P "__static_attributes__" 269 (.ref 73),e P "__doc__" 270 .none] 2 []),
 (75,⟨(.type "type"),none,.cls ⟨"Missing",[(.ref 38)],[(.ref 75),(.ref 38),(.type "Exception"),(.type "BaseException"),(.type "object")],74,"Missing",true,[],[],false,none,false⟩,#[some (.ref 66),none,some (.str "Missing" 257),some (.str "Missing" 265),some (.builtin "Exception.__new__"),some (.bool true)]⟩),
 (86,dO (.type "dict") none [e P "__module__" 280 JY,e P "__firstlineno__" 284 (.int 16 283),e P "__static_attributes__" 285 (.ref 85),e P "__doc__" 286 .none] 2 []),
 (87,⟨(.type "type"),none,.cls ⟨"Misused",[(.ref 38)],[(.ref 87),(.ref 38),(.type "Exception"),(.type "BaseException"),(.type "object")],86,"Misused",true,[],[],false,none,false⟩,#[some (.ref 78),none,some (.str "Misused" 273),some (.str "Misused" 281),some (.builtin "Exception.__new__"),some (.bool true)]⟩),
 (93,cF "number_of" 291 19 1 90 91 92 294),
 (94,fP (st 8) "number_of" pH 93),
 (98,cF "octets_of" 297 21 2 95 96 97 300),
 (99,fP (st 9) "octets_of" pH 98),
 (103,cF "text_octets" 303 25 1 100 101 102 306),
 (104,fP (st 10) "text_octets" pH 103),
 (108,cF "octets_text" 309 30 1 105 106 107 312),
 (109,fP (st 11) "octets_text" pH 108),
 (122,cO "__init__" "Sink.__init__" 327 36 1 3 117 118 .none (.ref 119) (.ref 120) 121 331),
 (123,fP (jm 12 0) "Sink.__init__" pH 122),
 (129,cO "number" "Sink.number" 334 39 3 3 124 125 .none (.ref 126) (.ref 127) 128 340),
 (130,fP (jm 12 1) "Sink.number" pH 129),
 (136,cO "put" "Sink.put" 343 42 2 3 131 132 .none (.ref 133) (.ref 134) 135 348),
 (137,fP (jm 12 2) "Sink.put" pH 136),
 (143,cO "text" "Sink.text" 351 45 2 3 138 139 .none (.ref 140) (.ref 141) 142 357),
 (144,fP (jm 12 3) "Sink.text" pH 143),
 (150,cO "whole" "Sink.whole" 360 50 1 3 145 146 .none (.ref 147) (.ref 148) 149 364),
 (151,fP (jm 12 4) "Sink.whole" pH 150),
 (153,dO (.type "dict") none [e P "__module__" 322 pH,e P "__firstlineno__" 326 (.int 34 325),e P "__init__" 333 (.ref 123),e P "number" 342 (.ref 130),e P "put" 350 (.ref 137),e P "text" 359 (.ref 144),e P "whole" 366 (.ref 151),e P "__static_attributes__" 368 (.ref 152),e P "__dict__" 370 (.ref 155),e P "__weakref__" 372 (.ref 156),e P "__doc__" 373 .none] 4 []),
 (154,⟨(.type "type"),none,.cls ⟨"Sink",[(.type "object")],[(.ref 154),(.type "object")],153,"Sink",true,[],[],false,none,false⟩,#[none,none,some (.str "Sink" 315),some (.str "Sink" 323),some (.builtin "object.__new__"),some (.bool true)]⟩),
 (166,⟨(.type "tuple"),none,.seq #[(.int 0 388)] 0,#[]⟩),
 (172,cO "__init__" "Cursor.__init__" 389 54 3 3 167 168 .none (.ref 169) (.ref 170) 171 395),
 (173,fO (jm 13 0) "Cursor.__init__" (.ref 166) .none .none pH none (.ref 172) .none 0 none []),
 (179,cO "left" "Cursor.left" 398 58 1 3 174 175 .none (.ref 176) (.ref 177) 178 402),
 (180,fP (jm 13 1) "Cursor.left" pH 179),
 (186,cO "take" "Cursor.take" 405 61 2 3 181 182 .none (.ref 183) (.ref 184) 185 411),
 (187,fP (jm 13 2) "Cursor.take" pH 186),
 (193,cO "number" "Cursor.number" 414 68 2 3 188 189 .none (.ref 190) (.ref 191) 192 419),
 (194,fP (jm 13 3) "Cursor.number" pH 193),
 (200,cO "text" "Cursor.text" 422 71 1 3 195 196 .none (.ref 197) (.ref 198) 199 426),
 (201,fP (jm 13 4) "Cursor.text" pH 200),
 (203,dO (.type "dict") none [e P "__module__" 383 pH,e P "__firstlineno__" 387 (.int 52 386),e P "__init__" 397 (.ref 173),e P "left" 404 (.ref 180),e P "take" 413 (.ref 187),e P "number" 421 (.ref 194),e P "text" 428 (.ref 201),e P "__static_attributes__" 431 (.ref 202),e P "__dict__" 433 (.ref 205),e P "__weakref__" 435 (.ref 206),e P "__doc__" 436 .none] 4 []),
 (204,⟨(.type "type"),none,.cls ⟨"Cursor",[(.type "object")],[(.ref 204),(.type "object")],203,"Cursor",true,[],[],false,none,false⟩,#[none,none,some (.str "Cursor" 376),some (.str "Cursor" 384),some (.builtin "object.__new__"),some (.bool true)]⟩),
 (214,cO "padded" "padded" 439 73 2 3 209 210 .none (.ref 211) (.ref 212) 213 444),
 (215,fP (st 14) "padded" pH 214),
 (223,⟨(.type "tuple"),none,.seq #[(.int 16 461),(.int 32 462),(.int 32 463),(.int 4 464),(.int 4 465),(.int 4 466),(.int 2 467),(.int 128 468),(.int 192 469),(.int 160 470),(.int 128 471)] 0,#[]⟩),
 (229,cO "__init__" "Shape.__init__" 472 80 12 3 224 225 .none (.ref 226) (.ref 227) 228 487),
 (230,fO (jm 16 0) "Shape.__init__" (.ref 223) .none .none Ss none (.ref 229) .none 0 none []),
 (232,dO (.type "dict") none [e P "__module__" 456 Ss,e P "__firstlineno__" 460 (.int 78 459),e P "__init__" 489 (.ref 230),e P "__static_attributes__" 501 (.ref 231),e P "__dict__" 503 (.ref 234),e P "__weakref__" 505 (.ref 235),e P "__doc__" 506 .none] 4 []),
 (233,⟨(.type "type"),none,.cls ⟨"Shape",[(.type "object")],[(.ref 233),(.type "object")],232,"Shape",true,[],[],false,none,false⟩,#[none,none,some (.str "Shape" 449),some (.str "Shape" 457),some (.builtin "object.__new__"),some (.bool true)]⟩),
 (243,cO "round_up" "round_up" 509 92 2 3 238 239 .none (.ref 240) (.ref 241) 242 514),
 (244,fP (st 17) "round_up" Ss 243),
 (250,cO "many_of" "many_of" 517 94 2 3 245 246 .none (.ref 247) (.ref 248) 249 522),
 (251,fP (st 18) "many_of" Ss 250),
 (257,cO "zap_hash" "zap_hash" 529 98 2 3 252 253 .none (.ref 254) (.ref 255) 256 536),
 (258,fP (st 21) "zap_hash" Wx 257),
 (264,cO "first_bits" "first_bits" 539 105 2 3 259 260 .none (.ref 261) (.ref 262) 263 544),
 (265,fP (st 22) "first_bits" Wx 264),
 (271,cO "salt_of" "salt_of" 547 107 1 3 266 267 .none (.ref 268) (.ref 269) 270 551),
 (272,fP (st 23) "salt_of" Wx 271),
 (278,cO "want_row" "want_row" 580 122 2 3 273 274 .none (.ref 275) (.ref 276) 277 585),
 (279,fP (st 37) "want_row" sL 278),
 (285,cO "micro_octets" "micro_octets" 588 127 3 3 280 281 .none (.ref 282) (.ref 283) 284 598),
 (286,fP (st 38) "micro_octets" sL 285),
 (292,cO "micro_rows" "micro_rows" 601 137 1 3 287 288 .none (.ref 289) (.ref 290) 291 609),
 (293,fP (st 39) "micro_rows" sL 292),
 (306,cO "__init__" "FatHead.__init__" 624 145 6 3 301 302 .none (.ref 303) (.ref 304) 305 633),
 (307,fP (jm 40 0) "FatHead.__init__" sL 306),
 (313,cO "octets" "FatHead.octets" 636 152 1 3 308 309 .none (.ref 310) (.ref 311) 312 641),
 (314,fP (jm 40 1) "FatHead.octets" sL 313),
 (316,dO (.type "dict") none [e P "__module__" 619 sL,e P "__firstlineno__" 623 (.int 143 622),e P "__init__" 635 (.ref 307),e P "octets" 643 (.ref 314),e P "__static_attributes__" 649 (.ref 315),e P "__dict__" 651 (.ref 318),e P "__weakref__" 653 (.ref 319),e P "__doc__" 654 .none] 4 []),
 (317,⟨(.type "type"),none,.cls ⟨"FatHead",[(.type "object")],[(.ref 317),(.type "object")],316,"FatHead",true,[],[],false,none,false⟩,#[none,none,some (.str "FatHead" 612),some (.str "FatHead" 620),some (.builtin "object.__new__"),some (.bool true)]⟩),
 (327,cO "fat_head" "fat_head" 657 155 1 3 322 323 .none (.ref 324) (.ref 325) 326 666),
 (328,fP (st 41) "fat_head" sL 327),
 (334,cO "sort_of" "sort_of" 669 162 1 3 329 330 .none (.ref 331) (.ref 332) 333 673),
 (335,fP (st 42) "sort_of" sL 334),
 (339,cF "leaf_octets" 676 166 5 336 337 338 679),
 (340,fP (st 43) "leaf_octets" sL 339),
 (346,cO "want_leaf" "want_leaf" 682 180 1 3 341 342 .none (.ref 343) (.ref 344) 345 686),
 (347,fP (st 44) "want_leaf" sL 346),
 (353,cO "entry_at" "entry_at" 689 183 2 3 348 349 .none (.ref 350) (.ref 351) 352 698),
 (354,fP (st 45) "entry_at" sL 353),
 (360,cO "leaf_find" "leaf_find" 701 189 3 3 355 356 .none (.ref 357) (.ref 358) 359 713),
 (361,fP (st 46) "leaf_find" sL 360),
 (367,cO "leaf_rows" "leaf_rows" 716 201 1 3 362 363 .none (.ref 364) (.ref 365) 366 727),
 (368,fP (st 47) "leaf_rows" sL 367),
 (374,cO "leaf_bits" "leaf_bits" 730 209 1 3 369 370 .none (.ref 371) (.ref 372) 373 734),
 (375,fP (st 48) "leaf_bits" sL 374),
 (381,cO "first_block" "first_block" 739 213 2 3 376 377 .none (.ref 378) (.ref 379) 380 744),
 (382,fP (st 50) "first_block" JZ 381),
 (388,cO "block_at" "block_at" 747 215 4 3 383 384 .none (.ref 385) (.ref 386) 387 754),
 (389,fP (st 51) "block_at" JZ 388),
 (395,cO "table_entry" "table_entry" 757 217 5 3 390 391 .none (.ref 392) (.ref 393) 394 765),
 (396,fP (st 52) "table_entry" JZ 395),
 (400,cF "table_of" 768 219 4 397 398 399 771),
 (401,fP (st 53) "table_of" JZ 400),
 (405,cF "zap_find" 774 222 3 402 403 404 777),
 (406,fP (st 54) "zap_find" JZ 405),
 (412,cO "zap_all" "zap_all" 780 231 2 3 407 408 .none (.ref 409) (.ref 410) 411 789),
 (413,fP (st 55) "zap_all" JZ 412),
 (419,cO "new_zap" "new_zap" 796 241 2 3 414 415 .none (.ref 416) (.ref 417) 418 803),
 (420,fP (st 58) "new_zap" zt 419),
 (424,cF "zap_put" 806 246 4 421 422 423 809),
 (425,fP (st 59) "zap_put" zt 424),
 (429,cF "zap_take" 812 260 3 426 427 428 815),
 (430,fP (st 60) "zap_take" zt 429),
 (436,cO "make_fat" "make_fat" 818 274 2 3 431 432 .none (.ref 433) (.ref 434) 435 827),
 (437,fP (st 61) "make_fat" zt 436),
 (443,cO "put_head" "put_head" 830 281 3 3 438 439 .none (.ref 440) (.ref 441) 442 836),
 (444,fP (st 62) "put_head" zt 443),
 (450,cO "leaf_for" "leaf_for" 839 283 5 3 445 446 .none (.ref 447) (.ref 448) 449 847),
 (451,fP (st 63) "leaf_for" zt 450),
 (457,cO "put_leaf" "put_leaf" 850 285 6 3 452 453 .none (.ref 454) (.ref 455) 456 862),
 (458,fP (st 64) "put_leaf" zt 457),
 (462,cF "put_fat" 865 292 4 459 460 461 868),
 (463,fP (st 65) "put_fat" zt 462),
 (467,cF "grow_table" 871 307 4 464 465 466 874),
 (468,fP (st 66) "grow_table" zt 467),
 (472,cF "part_leaf" 877 317 5 469 470 471 880),
 (473,fP (st 67) "part_leaf" zt 472),
 (486,cO "__init__" "MemDnode.__init__" 899 335 4 3 481 482 .none (.ref 483) (.ref 484) 485 906),
 (487,fP (jm 70 0) "MemDnode.__init__" rP 486),
 (489,dO (.type "dict") none [e P "__module__" 894 rP,e P "__firstlineno__" 898 (.int 333 897),e P "__init__" 908 (.ref 487),e P "__static_attributes__" 913 (.ref 488),e P "__dict__" 915 (.ref 491),e P "__weakref__" 917 (.ref 492),e P "__doc__" 918 .none] 4 []),
 (490,⟨(.type "type"),none,.cls ⟨"MemDnode",[(.type "object")],[(.ref 490),(.type "object")],489,"MemDnode",true,[],[],false,none,false⟩,#[none,none,some (.str "MemDnode" 887),some (.str "MemDnode" 895),some (.builtin "object.__new__"),some (.bool true)]⟩),
 (507,cO "__init__" "MemSet.__init__" 933 342 2 3 502 503 .none (.ref 504) (.ref 505) 506 938),
 (508,fP (jm 71 0) "MemSet.__init__" rP 507),
 (514,cO "is_there" "MemSet.is_there" 941 348 2 3 509 510 .none (.ref 511) (.ref 512) 513 946),
 (515,fP (jm 71 1) "MemSet.is_there" rP 514),
 (521,cO "objects" "MemSet.objects" 949 351 1 3 516 517 .none (.ref 518) (.ref 519) 520 953),
 (522,fP (jm 71 2) "MemSet.objects" rP 521),
 (528,cO "dnode" "MemSet.dnode" 956 354 2 3 523 524 .none (.ref 525) (.ref 526) 527 961),
 (529,fP (jm 71 3) "MemSet.dnode" rP 528),
 (535,cO "size" "MemSet.size" 964 359 2 3 530 531 .none (.ref 532) (.ref 533) 534 969),
 (536,fP (jm 71 4) "MemSet.size" rP 535),
 (542,cO "read" "MemSet.read" 972 363 4 3 537 538 .none (.ref 539) (.ref 540) 541 980),
 (543,fP (jm 71 5) "MemSet.read" rP 542),
 (544,⟨(.type "tuple"),none,.seq #[(.bytes #[] 983)] 0,#[]⟩),
 (550,cO "add" "MemSet.add" 984 370 4 3 545 546 .none (.ref 547) (.ref 548) 549 991),
 (551,fO (jm 71 6) "MemSet.add" (.ref 544) .none .none rP none (.ref 550) .none 0 none []),
 (557,cO "drop" "MemSet.drop" 994 378 2 3 552 553 .none (.ref 554) (.ref 555) 556 999),
 (558,fP (jm 71 7) "MemSet.drop" rP 557),
 (564,cO "set_bonus" "MemSet.set_bonus" 1002 381 3 3 559 560 .none (.ref 561) (.ref 562) 563 1008),
 (565,fP (jm 71 8) "MemSet.set_bonus" rP 564),
 (571,cO "put" "MemSet.put" 1011 384 3 3 566 567 .none (.ref 568) (.ref 569) 570 1019),
 (572,fP (jm 71 9) "MemSet.put" rP 571),
 (578,cO "write" "MemSet.write" 1022 390 4 3 573 574 .none (.ref 575) (.ref 576) 577 1030),
 (579,fP (jm 71 10) "MemSet.write" rP 578),
 (585,cO "cut" "MemSet.cut" 1033 398 3 3 580 581 .none (.ref 582) (.ref 583) 584 1039),
 (586,fP (jm 71 11) "MemSet.cut" rP 585),
 (588,dO (.type "dict") none [e P "__module__" 928 rP,e P "__firstlineno__" 932 (.int 340 931),e P "__init__" 940 (.ref 508),e P "is_there" 948 (.ref 515),e P "objects" 955 (.ref 522),e P "dnode" 963 (.ref 529),e P "size" 971 (.ref 536),e P "read" 982 (.ref 543),e P "add" 993 (.ref 551),e P "drop" 1001 (.ref 558),e P "set_bonus" 1010 (.ref 565),e P "put" 1021 (.ref 572),e P "write" 1032 (.ref 579),e P "cut" 1041 (.ref 586),e P "__static_attributes__" 1046 (.ref 587),e P "__dict__" 1048 (.ref 590),e P "__weakref__" 1050 (.ref 591),e P "__doc__" 1051 .none] 4 []),
 (589,⟨(.type "type"),none,.cls ⟨"MemSet",[(.type "object")],[(.ref 589),(.type "object")],588,"MemSet",true,[],[],false,none,false⟩,#[none,none,some (.str "MemSet" 921),some (.str "MemSet" 929),some (.builtin "object.__new__"),some (.bool true)]⟩),
 (599,cO "_law_number" "_law_number" 1056 401 2 3 594 595 .none (.ref 596) (.ref 597) 598 1061),
 (600,fP (st 73) "_law_number" GB 599),
 (606,cO "_law_rows" "_law_rows" 1064 403 2 3 601 602 .none (.ref 603) (.ref 604) 605 1075),
 (607,fP (st 74) "_law_rows" GB 606),
 (611,cF "_law_fullest_first" 1078 413 1 608 609 610 1081),
 (612,fP (st 75) "_law_fullest_first" GB 611),
 (618,cO "_law_is_gone" "_law_is_gone" 1084 417 3 3 613 614 .none (.ref 615) (.ref 616) 617 1090),
 (619,fP (st 76) "_law_is_gone" GB 618),
 (623,cF "_law_is_laid_right" 1093 423 3 620 621 622 1096),
 (624,fP (st 77) "_law_is_laid_right" GB 623),
 (628,cF "law" 1099 432 1 625 626 627 1102),
 (629,fP (st 78) "law" GB 628)]
noncomputable def Su:List Addr:=[3,20,21,34,35,37,38,50,51,62,63,74,75,86,87,93,94,98,99,103,104,108,109,122,123,129,130,136,137,143,144,150,151,153,154,166,172,173,179,180,186,187,193,194,200,201,203,204,214,215,223,229,230,232,233,243,244,250,251,257,258,264,265,271,272,278,279,285,286,292,293,306,307,313,314,316,317,327,328,334,335,339,340,346,347,353,354,360,361,367,368,374,375,381,382,388,389,395,396,400,401,405,406,412,413,419,420,424,425,429,430,436,437,443,444,450,451,457,458,462,463,467,468,472,473,486,487,489,490,507,508,514,515,521,522,528,529,535,536,542,543,544,550,551,557,558,564,565,571,572,578,579,585,586,588,589,599,600,606,607,611,612,618,619,623,624,628,629]
theorem Wy(P:Params):Su=(KF P).map (·.1):=by kernel_rfl
noncomputable def P2(p:Program)(w:World)(Dc:Nat)(AL:Option Value)(n:Nat):SharedT->Thread->Option SharedT :=
 Nat.rec (λz z=>none) (λz f s t=>cond (through t) (some s) (cond (Fast.tw6613529449190102663 Dc AL t) ((Fast.tw10156331382660048174 (Fast.tw11892475500146522536 Fast.tw14364793385576792824) p w s t).bind λr=>f r.1 r.2) none)) n
theorem J0{p:Program}{w:World}{Dc:Nat}{AL:Option Value}:∀{n:Nat} {s s':SharedT} {t:Thread},P2 p w Dc AL n s t=some s'->topRun treeTable p w Dc AL n s.abs t=some s'.abs
 | 0,_,_,_,h=>by cases h
 | n+1,s,s',t,h=>by
  have h:cond _ _ (cond _ (Option.bind _ λ(r:SharedT×Thread)=>P2 p w Dc AL n r.1 r.2) _)=_:=h;unfold topRun;cases ht:through t with
  | true=>rw[ht]at h;cases h;rfl
  | false =>
   rw[ht,<-Fast.te6613529449190102663,<-Fast.te10156331382660048174,<-Fast.te11892475500146522536,<-Fast.te14364793385576792824]at h;cases hk:stepOk Dc AL t with
   | false=>rw[hk]at h;cases h
   | true =>
    rw[hk]at h;cases hs:stepT (denote treeTable) p w s t with
    | none=>rw[hs]at h;cases h
    | some r=>obtain⟨bq,Dd⟩:=r;rw[hs]at h;rw[stepT_spec hs];exact J0 h
noncomputable def ZA(P:Params):BT:=.node (boot_o_0 P)
 (.node (boot_o_1 P) (.node (boot_o_3 P) (.node (boot_o_7 P) .nil .nil) .nil) (.node (boot_o_5 P) (.node (boot_o_9 P) .nil .nil) .nil))
 (.node (boot_o_2 P) (.node (boot_o_4 P) (.node (boot_o_8 P) .nil .nil) .nil) (.node (boot_o_6 P) (.node (boot_o_10 P) .nil .nil) .nil))
noncomputable def Sv(P:Params)(os:OsState):SharedT:=⟨ZA P,11,(boot_heap P).life,#[],boot_drawn,boot_toks,os⟩
theorem P6(P:Params)(os:OsState):(Sv P os).abs=⟨boot_heap P,#[],boot_drawn,boot_toks,os⟩:=by kernel_rfl
noncomputable def qw:Program:={pw with main:={pw.main with body:=[st 78]}}
noncomputable def nG:List Str:=(["_wall","PoolFault","Corrupt","NoSpace","Missing","Misused","number_of","octets_of","text_octets","octets_text","Sink","Cursor","padded","Shape","round_up","many_of","BITS","zap_hash","first_bits","salt_of","MICRO","FAT","LEAF","MICRO_HEAD","FAT_HEAD","LEAF_HEAD","NUMBER","PLACE","CHAINS","LINK","ENTRY","LONGEST","want_row","micro_octets","micro_rows","FatHead","fat_head","sort_of","leaf_octets","want_leaf","entry_at","leaf_find","leaf_rows","leaf_bits","first_block","block_at","table_entry","table_of","zap_find","zap_all","MOST_BITS","new_zap","zap_put","zap_take","make_fat","put_head","leaf_for","put_leaf","put_fat","grow_table","part_leaf","ZAP","MemDnode","MemSet","_law_number","_law_rows","_law_fullest_first","_law_is_gone","_law_is_laid_right"]:List String).map Str.ofString
noncomputable def Xt:Shared->Bool:=λz=>true
noncomputable def Sw(P:Params)(s:Shared):=((staticsOk (importedModules pw.main.body) (boot_heap P) s.heap&&namesBound pw s.heap&&gensDone s&&laidKept (boot_heap P) s.heap),
 Fast.tw4187177175401517315 qw nG (importedModules pw.main.body) Xt true s,Su.map s.heap.get?)
noncomputable def NN:Nat:=4700
set_option maxHeartbeats 0 in
theorem Wz(w:World)(os:OsState):(P2 pw w 11 (some (.ref 6)) NN (Sv w.params os) (topStub pw)).map (λs=>Sw w.params s.abs)=some (true,openGood qw nG,(KF w.params).map λp=>some p.2):=by kernel_rfl
theorem Nk(P:Params):((boot_heap P).isNs mainGlobals&&(#[]:Array GenState).size==0)=true/\(boot_heap P).objs.size=11/\(boot_heap P).nsMap mainGlobals "__annotations__"=some (.ref 6):=by
 refine⟨?_,?_,?_⟩<;>kernel_rfl
theorem Uo{p q:Program}{yQ:List Str}{Xt:Shared->Bool}{α:Type}{Yf:Shared->α}{Ya:World->α}{N:Nat}{g0:Bool}{rQ:Params->Heap}{Gh:Array GenState}{P7:Drawn}{P8 WA:Nat}{AL:Option Value}
  (ZC:∀w:World,(fencedOpening treeTable p w N).map (λs=>(s.heap,s.gens,s.drawn,s.toks))=some (rQ w.params,Gh,P7,P8))
  (size:∀P,((rQ P).isNs mainGlobals&&Gh.size==0)=true/\(rQ P).objs.size=WA/\(rQ P).nsMap mainGlobals "__annotations__"=AL)
  (run:∀(w:World) (os:OsState),∃aE,topRun treeTable p w WA AL N ⟨rQ w.params,Gh,P7,P8,os⟩ (topStub p)=some aE /\
   (staticsOk (importedModules p.main.body) (rQ w.params) aE.heap&&namesBound p aE.heap&&gensDone aE&&laidKept (rQ w.params) aE.heap)=true /\
   openSeen q yQ (importedModules p.main.body) Xt g0 aE=openGood q yQ/\Yf aE=Ya w):LeftO p q yQ Xt Yf Ya N g0:=λw=>by
 refine ak (f9.mp (ZC w)) λdc e1 e2=>?_;obtain⟨h,gs,d,k,os⟩:=dc;obtain⟨rfl,rfl,rfl,rfl⟩:h=rQ w.params/\gs=Gh/\d=P7/\k=P8:=by
  have e2:(h,gs,d,k)=_:=e2;refine xA (Prod.mk.inj e2) λa b=>?_;refine xA (Prod.mk.inj b) λb c=>?_;refine xA (Prod.mk.inj c) λc d=>?_;exact⟨a,b,c,d⟩
 refine u9 (run w os) λr r3 l1 l2 l3=>?_;refine jL (size w.params) λz1 z2 z3=>?_;have t:topFrom treeTable p w N ⟨rQ w.params,gs,d,k,os⟩=some r:=by
  unfold topFrom;dsimp only;rw[z1,z2,z3,r3];show(match staticsOk (importedModules p.main.body) (rQ w.params) r.heap&&namesBound p r.heap&&gensDone r&&laidKept (rQ w.params) r.heap with | true=>_ | false=>_)=_
  rw[l1]
 unfold openEnds;rw[e1];show(topFrom treeTable p w N _).map _=_;rw[t];exact bE some (Prod.ext l2 l3)
theorem P9(w:World)(os:OsState){r:SharedT}(r2:Sw w.params r.abs=(true,openGood qw nG,(KF w.params).map λp=>some p.2)) :
  (staticsOk (importedModules pw.main.body) (boot_heap w.params) r.abs.heap&&namesBound pw r.abs.heap&&gensDone r.abs&&laidKept (boot_heap w.params) r.abs.heap)=true /\
   openSeen qw nG (importedModules pw.main.body) Xt true r.abs=openGood qw nG/\Su.map r.abs.heap.get? =(KF w.params).map λp=>some p.2 :=
 ⟨bE (·.1) r2,(iA (iA (iA (iA (iA (iA Fast.te4187177175401517315 qw) nG) (importedModules pw.main.body)) Xt) true) r.abs).trans (bE (·.2.1) r2),bE (·.2.2) r2⟩
theorem left:LeftO pw qw nG Xt (λs=>Su.map s.heap.get?) (λw=>(KF w.params).map λp=>some p.2) NN :=
 Uo (boot_open (p:=pw) (N:=NN) (by kernel_rfl) (by kernel_rfl) (λz=>by kernel_rfl)) Nk λw os=>by
  refine ak (f9.mp (Wz w os)) λr r1 r2=>?_;exact⟨r.abs,P6 w.params os▸J0 r1,P9 w os r2⟩
theorem aca:lw.wellSaid=true:=by
 rw[Fast.te9446332074065402090];kernel_rfl
theorem AM:(defOf qw "law").isSome=true:=by kernel_rfl
noncomputable def dk:DefRec×List (Str×Expr):=(defOf qw "law").get AM
noncomputable def num(l:List UInt8):Nat:=List.rec 0 (λb z n=>b.toNat+256*n) l
theorem LC:num []=0:=rfl
theorem Gi:num (b::r)=b.toNat+256*num r:=rfl
noncomputable def le(k:Nat):Nat->List UInt8:=Nat.rec (λz=>[]) (λz f x=>UInt8.ofNat x::f (x/256)) k
theorem oO:le 0 x=[]:=rfl
theorem lH:le (k+1) x=UInt8.ofNat x::le k (x/256):=rfl
theorem aQ(k:Nat):∀x,(le k x).length=k:=by
 induction k with
 | zero=>intro x;rfl
 | succ k ih=>intro x;simp[lH,ih]
theorem gf(k:Nat):∀x,x<256^k->num (le k x)=x:=by
 induction k with
 | zero=>intro x h;simp at h;subst h;rfl
 | succ k ih =>
  intro x h;rw[lH,Gi,ih _ (by rw[mV]at h;exact az 0xa36f862037a865aeaec819e6b1d1553dd9 h (cI _ _))];simp;lia
theorem WB:∀b:List UInt8,num b<256^b.length
 | []=>by simp[LC]
 | b::r=>by
  rw[Gi,dE,mV];obtain this:=WB r;obtain this:=b.toNat_lt;lia
theorem J1:∀(b:List UInt8) (k:Nat),((b.zipIdx k).map λp=>(p.1.toNat:Int)*2^(8*(p.2:Int)).toNat).sum=(num b:Int)*2^(8*k)
 | [],k=>by simp[LC]
 | b::r,k=>by
  rw[C3,eC,oH,J1 r (k+1),Gi];obtain e:(8*(k:Int)).toNat=8*k:=by exact ah 0xc962259ae70883889
  rw[e,show 8*(k+1)=8*k+8 by exact Eq.refl (8*(k+1)),Int.pow_add];simp only[Int.natCast_add,Int.natCast_mul];rw[Int.add_mul]
  congr 1
  rw[yJ (2^(8*k)) (2^8),<-Int.mul_assoc]
  congr 1
  rw[yJ];rfl
theorem Qa(k:Nat):∀(x:Nat),((List.range k).map λ(i:Nat)=>UInt8.ofNat ((((x:Int)/2^(8*(i:Int)).toNat)%256).toNat))=le k x:=by
 induction k with
 | zero=>intro x;rfl
 | succ k ih =>
  intro x;rw[List.range_succ_eq_map,eC,bQ,lH,<-ih (x/256)]
  congr 1
  ·simp;apply UInt8.toNat_inj.mp;simp;lia
  ·apply kP;intro i _;simp only[Function.comp]
   congr 2
   obtain e1:(8*((i+1:Nat):Int)).toNat=8*i+8:=by exact ah 0x2dca0e4472e2655cfad73364d9
   obtain e2:(8*(i:Int)).toNat=8*i:=by exact ah 0xc962259ae70883889
   rw[e1,e2,Int.pow_add]
   congr 1
   rw[yJ,<-Int.ediv_ediv_of_nonneg (by decide)];rfl
noncomputable def pI(x:Str):List UInt8:=x.cps.toList.map λc=>UInt8.ofNat c
def hG(x:Str):Prop:=∀c∈x.cps.toList,32<=c/\c<127
theorem dI(x:Str):(pI x).length=x.cps.size:=by simp[pI]
theorem Qc(h:hG x):(pI x).map (λb=>b.toNat)=x.cps.toList:=by
 unfold pI;rw[bQ]
 conv=>rhs;rw[<- yN x.cps.toList]
 apply kP;intro c hc;obtain this:=h c hc;simp;exact ah 0x9f770fa32a9a65adf this.2
theorem wD(hx:0<=x)(jn:x<4294967296)(hy:0<=y)(hy':y<4294967296):0<=Builtin.bitXor x y/\Builtin.bitXor x y<4294967296:=by
 obtain⟨a,rfl⟩:=Cs hx;obtain⟨b,rfl⟩:=Cs hy;obtain ha:Builtin.bitAnd (a:Int) (b:Int)=((a &&& b:Nat):Int):=by
  unfold Builtin.bitAnd;simp
 obtain ho:Builtin.bitOr (a:Int) (b:Int)=((a ||| b:Nat):Int):=by
  unfold Builtin.bitOr Builtin.bitAnd Builtin.bitNot;obtain h1:decide ((0:Int)<=-(a:Int)-1)=false:=by simp;exact ah 13296928601
  obtain h2:decide ((0:Int)<=-(b:Int)-1)=false:=by simp;exact ah 13296928601
  rw[h1,h2];obtain e1:(-(-(a:Int)-1)-1).toNat=a:=by exact bu (ag 0x38dcbded650095dde029f35 (gX (ah 0xaf61e65e78989377b))) (ag 0x38dcbc4c38f908250a20f59 (i9 _))
  have e2:(-(-(b:Int)-1)-1).toNat=b:=by exact bu (ag 0x38dcbded650095dde029f35 (gX (ah 0xaf61e65e78989377b))) (ag 0x38dcbc4c38f908250a20f59 (i9 _))
  simp only[e1,e2];exact ah 0x4b056eb2f54030f61342b59
 unfold Builtin.bitXor;rw[ha,ho];obtain h1:a ||| b<2^32:=Nat.or_lt_two_pow (ah 0x1f68c3aba6097b1f259 jn) (ah 0x1f68c3aba6097b1f259 hy')
 obtain h2:a &&& b<=a ||| b:=ab Nat.and_le_left Nat.left_le_or
 exact⟨ag 80876585015715101 h2,ag 0x43cc0659d1e11db95bef7d7 h1⟩
noncomputable def k9(h:Int)(c:Nat):Int:=Builtin.bitXor h c*16777619%2^32
noncomputable def wF(f:Int):Int :=
 let g:=Builtin.bitXor f (f/2^15)*2246822519%2^32
 let h:=Builtin.bitXor g (g/2^13)*3266489917%2^32
 Builtin.bitXor h (h/2^16)
noncomputable def aU(x:Str)(salt:Nat):Nat:=(wF (x.cps.toList.foldl k9 (Builtin.bitXor salt 2654435769))).toNat
theorem Qd(h:Int)(c:Nat):0<=k9 h c/\k9 h c<4294967296:=by
 unfold k9;lia
theorem J3(l:List Nat){h:Int}(h0:0<=h/\h<4294967296):0<=l.foldl k9 h/\l.foldl k9 h<4294967296:=by
 induction l generalizing h with
 | nil=>exact h0
 | cons c l ih=>exact ih (Qd h c)
theorem J4(f:Int):0<=wF f/\wF f<4294967296:=by
 unfold wF;dsimp only;generalize Builtin.bitXor f (f/2^15)*2246822519%2^32=g;obtain this:0<=Builtin.bitXor g (g/2^13)*3266489917%2^32/\Builtin.bitXor g (g/2^13)*3266489917%2^32<4294967296:=by lia
 generalize Builtin.bitXor g (g/2^13)*3266489917%2^32=h at this;exact wD this.1 this.2 (by lia) (by lia)
theorem AN(x:Str)(salt:Nat):(aU x salt:Int)=wF (x.cps.toList.foldl k9 (Builtin.bitXor salt 2654435769)):=by
 unfold aU;obtain this:=J4 (x.cps.toList.foldl k9 (Builtin.bitXor salt 2654435769));exact kW (wb 32241261658601 (gX (j6 12896978175 this.1))) (wb 32375398930063 (i9 _))
theorem vb(x:Str)(salt:Nat):aU x salt<4294967296:=by
 have:=J4 (x.cps.toList.foldl k9 (Builtin.bitXor salt 2654435769));obtain this:=AN x salt;lia
inductive L2{α β:Type}(R:α->β->Prop):List α->List β->Prop
 | nil:L2 R [] []
 | cons {a:α} {b:β} {as:List α} {bs:List β}:R a b->L2 R as bs->L2 R (a::as) (b::bs)
section
variable {R R':α->β->Prop}
theorem L2.len(x:L2 R as bs):as.length=bs.length:=by
 induction x with
 | nil=>rfl
 | cons _ _ ih=>exact bE Nat.succ ih
theorem L2.mono(x:L2 R as bs)(k:∀a b,R a b->R' a b):L2 R' as bs:=by
 induction x with
 | nil=>exact .nil
 | cons h _ ih=>exact .cons (k _ _ h) ih
theorem L2.get(x:L2 R as bs):∀{i:Nat} {b:β},bs[i]? =some b->∃a,as[i]? =some a/\R a b:=by
 induction x with
 | nil=>exact λe=>nomatch e
 | cons h _ ih=>exact λ{i b}=>Nat.casesOn i (λe=>⟨_,rfl,Option.some.inj e▸h⟩) λi e=>ih e
theorem L2.append{as:List α}{bs:List β}(x:L2 R as bs){cs:List α}{ds:List β}(y:L2 R cs ds):L2 R (as++cs) (bs++ds):=by
 induction x with
 | nil=>exact y
 | cons h _ ih=>exact .cons h ih
theorem L2.take(x:L2 R as bs):∀n:Nat,L2 R (as.take n) (bs.take n):=by
 induction x with
 | nil=>exact λn=>Nat.casesOn n .nil λz=>.nil
 | cons h _ ih=>exact λn=>Nat.casesOn n .nil λn=>.cons h (ih n)
theorem L2.drop(x:L2 R as bs):∀n:Nat,L2 R (as.drop n) (bs.drop n):=by
 induction x with
 | nil=>exact λn=>Nat.casesOn n .nil λz=>.nil
 | cons h r ih=>exact λn=>Nat.casesOn n (.cons h r) ih
theorem L2.set{as:List α}{bs:List β}(x:L2 R as bs){a:α}{b:β}(y:R a b):∀i:Nat,L2 R (as.set i a) (bs.set i b):=by
 induction x with
 | nil=>exact λz=>.nil
 | cons h r ih=>exact λn=>Nat.casesOn n (.cons y r) λn=>.cons h (ih n)
theorem L2.ZD(x:L2 R as bs):∀i:Nat,L2 R (as.eraseIdx i) (bs.eraseIdx i):=by
 induction x with
 | nil=>exact λz=>.nil
 | cons h r ih=>exact λn=>Nat.casesOn n r λn=>.cons h (ih n)
theorem L2.WC(x:L2 R as bs):L2 R as.reverse bs.reverse:=by
 induction x with
 | nil=>exact .nil
 | cons h r ih=>rw[List.reverse_cons,List.reverse_cons];exact ih.append (.cons h .nil)
theorem L2.km(x:L2 R [a] bs):∃b,bs=[b]/\R a b:=by
 cases x with | cons h r=>cases r;exact⟨_,rfl,h⟩
theorem L2.vc(x:L2 R as [b]):∃a,as=[a]/\R a b:=by
 cases x with | cons h r=>cases r;exact⟨_,rfl,h⟩
theorem L2.tx(x:L2 R as [b,c]):∃a d,as=[a,d]/\R a b/\R d c:=by
 cases x with | cons h r=>refine ak r.vc λd dc h'=>?_;obtain rfl:=dc;exact⟨_,_,rfl,h,h'⟩
theorem L2.GC(x:L2 R as []):as=[]:=by cases x;rfl
theorem L2.Gj(x:L2 R as (b::bs)):∃a as',as=a::as'/\R a b/\L2 R as' bs:=by cases x with | cons h r=>exact⟨_,_,rfl,h,r⟩
end
theorem d7{α:Type}{ρ ar:List α}(h:ρ <+: ar){i:Nat}{a:α}(e:ρ[i]? =some a):ar[i]? =some a:=by
 obtain⟨t,rfl⟩:=h;rw[eH (bP.mp e).1];exact e
set_option genInjectivity true in
inductive PV where
 | none
 | bool (b:Bool)
 | int (i:Int)
 | str (x:Str)
 | bytes (b:List UInt8)
 | tup (ds:List PV)
 | ref (i:Nat)
noncomputable def PV.ctorIdx(x:PV):Nat:=PV.casesOn x 0 (λz=>1) (λz=>2) (λz=>3) (λz=>4) (λz=>5) (λz=>6)
set_option genCtorIdx true in
inductive jo where
 | kn | cW | cw | cB | fA | iT
 deriving DecidableEq
set_option genCtorIdx true in
inductive Fd where
 | bZ | at_ | wG | GD | wH | Nl | gg | ring | AP | lS | GF | wI | J5 | bits | salt | many | behind | table | kind | block | most | sM | cw | gx
 deriving DecidableEq
set_option genCtorIdx true in
inductive Mt where
 | number | De | LD | left | take | bZ | fA | size | Dg | add | put | write
 deriving DecidableEq
noncomputable def dJ:jo->Addr
 | .kn=>154 | .cW=>204 | .cw=>233 | .cB=>317 | .fA=>490 | .iT=>589
noncomputable def er:Fd->Str
 | .bZ=>"octets" | .at_=>"at" | .wG=>"sector" | .GD=>"slab" | .wH=>"record" | .Nl=>"fan" | .gg=>"dnodes" | .ring=>"ring" | .AP=>"defer" | .lS=>"most_record"
 | .GF=>"uber" | .wI=>"config" | .J5=>"zap" | .bits=>"bits" | .salt=>"salt" | .many=>"many" | .behind=>"behind" | .table=>"table" | .kind=>"kind" | .block=>"block" | .most=>"most"
 | .sM=>"bonus" | .cw=>"shape" | .gx=>"top"
noncomputable def qF:Mt->Str
 | .number=>"number" | .De=>"text" | .LD=>"whole" | .left=>"left" | .take=>"take" | .bZ=>"octets" | .fA=>"dnode" | .size=>"size" | .Dg=>"read" | .add=>"add" | .put=>"put" | .write=>"write"
noncomputable def WD:jo->List (Mt×Addr)
 | .kn=>[(.number,130),(.De,144),(.LD,151)]
 | .cW=>[(.left,180),(.take,187),(.number,194),(.De,201)]
 | .cw=>[] | .fA=>[]
 | .cB=>[(.bZ,314)]
 | .iT=>[(.fA,529),(.size,536),(.Dg,543),(.add,551),(.put,572),(.write,579)]
noncomputable def ma:jo->Addr
 | .kn=>123 | .cW=>173 | .cw=>230 | .cB=>307 | .fA=>487 | .iT=>508
noncomputable def lT:jo->List Fd
 | .kn=>[.bZ] | .cW=>[.bZ,.at_]
 | .cw=>[.wG,.GD,.wH,.Nl,.gg,.ring,.AP,.lS,.GF,.wI,.J5]
 | .cB=>[.bits,.salt,.many,.behind,.table] | .fA=>[.kind,.block,.most,.sM] | .iT=>[.cw,.gg,.bZ,.gx]
set_option genInjectivity true in
inductive AO where
 | list (ds:List PV)
 | dr (es:List (Int×PV))
 | bD (es:List (Str×PV)) (ep:Nat)
 | bc (c:jo) (dx:Nat)
 | aA (c:jo) (fs:List (Fd×PV))
 | barr (b:List UInt8)
 | raw (o:Obj)
noncomputable def AO.ctorIdx(x:AO):Nat:=AO.casesOn x (λz=>0) (λz=>1) (λz z=>2) (λz z=>3) (λz z=>4) (λz=>5) (λz=>6)
noncomputable abbrev St:=List AO
noncomputable def lk{K V:Type}[DecidableEq K](es:List (K×V))(k:K):Option V:=(es.find? λp=>p.1=k).map (·.2)
noncomputable def put{K V:Type}[DecidableEq K](es:List (K×V))(k:K)(d:V):List (K×V) :=
 if es.any (λp=>p.1=k)then es.map (λp=>if p.1=k then(p.1,d)else p)else es++[(k,d)]
noncomputable def LF(c:jo)(m:Mt):Option Addr:=lk (WD c) m
noncomputable abbrev ee(vs:List Value)(n:Nat):Obj:={cls:=.type "tuple",data:=.seq vs.toArray n}
noncomputable def VA(ρ:List Addr)(v:Value):PV->Prop
 | .none=>v=.none
 | .bool b=>v=.bool b
 | .int i=>∃t,v=.int i t
 | .str x=>∃t,v=.str x t
 | .bytes b=>∃t,v=.bytes b.toArray t
 | .tup _=>False
 | .ref i=>∃a,ρ[i]? =some a/\v=.ref a
noncomputable def VI(ρ:List Addr)(h:Heap)(v:Value):PV->Prop
 | .none=>v=.none
 | .bool b=>v=.bool b
 | .int i=>∃t,v=.int i t
 | .str x=>∃t,v=.str x t
 | .bytes b=>∃t,v=.bytes b.toArray t
 | .tup ds=>∃a vs n,v=.ref a/\h.get? a=some (ee vs n)/\L2 (VA ρ) vs ds
 | .ref i=>∃a,ρ[i]? =some a/\v=.ref a
noncomputable def c5(ρ:List Addr)(h:Heap):List Value->List PV->Prop:=L2 (VI ρ h)
def bB(h h':Heap):Prop:=∀a vs n,h.get? a=some (ee vs n)->h'.get? a=some (ee vs n)
theorem bB.refl(h:Heap):bB h h:=λz z z e=>e
theorem bB.trans(x:bB h₁ cJ)(y:bB cJ ko):bB h₁ ko:=λa vs n e=>y a vs n (x a vs n e)
section
theorem VA.mono(p:ρ <+: ar){v:Value}{d:PV}(x:VA ρ v d):VA ar v d:=by
 cases d with
 | ref i=>refine ak x λa e r=>?_;exact⟨a,d7 p e,r⟩
 | _=>exact x
theorem VI.mono{v:Value}{d:PV}(x:VI ρ h v d)(p:ρ <+: ar)(k:bB h h'):VI ar h' v d:=by
 cases d with
 | ref i=>refine ak x λa e r=>?_;exact⟨a,d7 p e,r⟩
 | tup ds=>refine fz x λa vs n e ho r=>?_;exact⟨a,vs,n,e,k _ _ _ ho,r.mono λz z=>VA.mono p⟩
 | _=>exact x
theorem c5.mono(x:c5 ρ h vs ds)(p:ρ <+: ar)(k:bB h h'):c5 ar h' vs ds:=L2.mono x λz z y=>y.mono p k
end
def KR{K:Type}(ρ:List Addr)(h:Heap)(p:K×Value)(q:K×PV):Prop:=p.1=q.1/\VI ρ h p.2 q.2
def FR(ρ:List Addr)(h:Heap)(e:DictEntry)(q:Fd×PV):Prop:=(∃t,e.key=.str (er q.1) t)/\VI ρ h e.val q.2
noncomputable abbrev fV(b:Array UInt8):Obj:={cls:=.type "bytearray",data:=.bytearray b 0}
structure GX where
 prog:Program
 w:World
 p:Program
 yQ:List Str
 WE:ExcName->Option Value
 mg:Str->Option Value
 mb:Str->Option Value
noncomputable abbrev GX.K(G:GX):Frag:=KF G.w.params
noncomputable abbrev GX.M(G:GX):Model:=model G.prog G.w
noncomputable def OI(G:GX)(ρ:List Addr)(h:Heap)(a:Addr):AO->Prop
 | .list ds=>∃vs n,h.get? a=some (listOf vs.toArray n)/\c5 ρ h vs ds
 | .dr es=>∃kvs,h.DictOf (intKind G.prog G.w) a kvs/\L2 (KR ρ h) kvs es/\(a==sysModules)=false
 | .bD es ep=>∃kvs,h.DictAt (strKind G.prog G.w) a kvs ep/\L2 (KR ρ h) kvs es/\(a==sysModules)=false
 | .bc c dx=>∃d,ρ[dx]? =some d/\h.get? a=some (instObj (dJ c) d)
 | .aA c fs=>∃es n,h.get? a=some (dictOf es n)/\L2 (FR ρ h) es fs/\(fs.length<=20/\(fs.map (·.1)).Nodup)/\∀f∈fs,f.1∈lT c
 | .barr b=>h.get? a=some (fV b.toArray)
 | .raw o=>h.get? a=some o/\∀vs n,o≠ee vs n
theorem m9(hc:o.cls=.type n)(hn:n≠"tuple")(vs:List Value)(k:Nat):o≠ee vs k:=by
 rintro rfl;exact hn (by cases hc;rfl)
section
theorem OI.live(x:OI G ρ h a o):∃ob,h.get? a=some ob/\∀vs n,ob≠ee vs n:=by
 cases o with
 | list=>refine cq x λvs n e z=>?_;exact⟨_,e,m9 (n:="list") rfl (by decide)⟩
 | dr=>refine ak x λkvs dn z=>?_;obtain⟨o,es,ep,e,_,hd,_⟩:=dn;exact⟨_,e,λvs n q=>nomatch hd.symm.trans (bE Obj.data q)⟩
 | bD=>refine ak x λkvs dX z=>?_;obtain⟨o,es,e,_,hd,_⟩:=dX;exact⟨_,e,λvs n q=>nomatch hd.symm.trans (bE Obj.data q)⟩
 | bc=>refine ak x λd z e=>?_;exact⟨_,e,λvs n q=>nomatch bE Obj.data q⟩
 | aA=>refine cq x λes n e z=>?_;exact⟨_,e,λvs n q=>nomatch bE Obj.data q⟩
 | barr=>exact⟨_,x,λvs n q=>nomatch bE Obj.data q⟩
 | raw=>exact⟨_,x.1,x.2⟩
theorem OI.keep(x:OI G ρ h a o)(p:ρ <+: ar)(k:bB h h')(e:∀ob,h.get? a=some ob->h'.get? a=some ob):OI G ar h' a o:=by
 cases o with
 | list=>refine cq x λvs n e1 r=>?_;exact⟨vs,n,e _ e1,r.mono p k⟩
 | dr=>refine dY x λkvs fB q z=>?_;obtain⟨o,es,ep,e1,r⟩:=fB;exact⟨kvs,⟨o,es,ep,e _ e1,r⟩,q.mono λw w y=>⟨y.1,y.2.mono p k⟩,z⟩
 | bD=>refine dY x λkvs gy q z=>?_;obtain⟨o,es,e1,r⟩:=gy;exact⟨kvs,⟨o,es,e _ e1,r⟩,q.mono λw w y=>⟨y.1,y.2.mono p k⟩,z⟩
 | bc=>refine ak x λd e1 e2=>?_;exact⟨d,d7 p e1,e _ e2⟩
 | aA=>refine dH x λes n e1 r q=>?_;exact⟨es,n,e _ e1,r.mono λw w y=>⟨y.1,y.2.mono p k⟩,q⟩
 | barr=>exact e _ x
 | raw=>exact⟨e _ x.1,x.2⟩
end
set_option genInjectivity true in
inductive iw where
 | ns (a:Addr) (x:Str)
 | cell (a:Addr)
noncomputable def iw.ctorIdx(x:iw):Nat:=iw.casesOn x (λz z=>0) (λz=>1)
noncomputable def iw.iU:iw->Addr
 | .ns a _=>a
 | .cell a=>a
noncomputable abbrev a9:=List (Option PV)
structure Cx where
 A:Around
 hO:Env
 aj:Env
 bY:List Env
 GG:Around
 base:Heap
 h₀:Heap
 L:Addr
 dS:List iw
noncomputable def mc(ρ:List Addr)(h:Heap):iw->Option PV->Prop
 | .ns a x,od=>∃m,h.Ns a m/\∀d,od=some d->∃v,m x=some v/\VI ρ h v d
 | .cell a,od=>∃ob ov,h.get? a=some ob/\ob.data=.cell ov/\∀d,od=some d->∃v,ov=some v/\VI ρ h v d
structure bR(G:GX)(c:Cx)(h:Heap)(ρ:List Addr)(S:St):Prop where
 len:ρ.length=S.length
 nd:ρ.Nodup
 at_:∀(i:Nat) (a:Addr) (o:AO),ρ[i]? =some a->S[i]? =some o->OI G ρ h a o
 cQ:∀a∈ρ,c.h₀.get? a=none/\a≠c.L/\∀v∈c.dS,v.iU≠a
structure dK(L:Addr)(h h':Heap):Prop where
 old:∀b o,b≠L->h.get? b=some o->h'.get? b=some o
 ns:∀m,h.Ns L m->h'.Ns L m
theorem dK.refl(L:Addr)(h:Heap):dK L h h:=⟨λz z z e=>e,λz e=>e⟩
theorem dK.trans(x:dK L h₁ cJ)(y:dK L cJ ko):dK L h₁ ko:=⟨λb o n e=>y.old b o n (x.old b o n e),λm e=>y.ns m (x.ns m e)⟩
theorem dK.of(k:∀b o,h.get? b=some o->h'.get? b=some o):dK L h h':=⟨λb o z e=>k b o e,λz e=>e.keeps k⟩
theorem dw(L:Addr)(h:Heap)(o:Obj):dK L h (h.push o):=.of λz z e=>cg _ e
structure bS(L:Addr)(h:Heap)(ρ:List Addr)(h':Heap)(ar:List Addr):Prop where
 pre:ρ <+: ar
 old:∀b o,b≠L->h.get? b=some o->b∉ρ->h'.get? b=some o/\b∉ar
 ns:∀m,h.Ns L m->h'.Ns L m
theorem bS.refl(L:Addr)(h:Heap)(ρ:List Addr):bS L h ρ h ρ:=⟨bV _,λz z z e q=>⟨e,q⟩,λz e=>e⟩
theorem bS.trans(x:bS L h₁ fa cJ sN)(y:bS L cJ sN ko la):bS L h₁ fa ko la :=
 ⟨x.pre.trans y.pre,λb o n e q=>xA (x.old b o n e q) λe' q'=>y.old b o n e' q',λm e=>y.ns m (x.ns m e)⟩
theorem bS.eD{L:Addr}{h h':Heap}{ρ:List Addr}(k:dK L h h'):bS L h ρ h' ρ:=⟨bV _,λb o n e q=>⟨k.old b o n e,q⟩,k.ns⟩
structure ZE(L:Addr)(h:Heap)(ρ:List Addr)(v:Value):Prop where
 at_:∃a ob vs,v=.ref a/\a≠L/\h.get? a=some ob/\ob.data=.fields vs/\vs[2]? =some .none/\a∉ρ
structure aG(G:GX)(c:Cx)(h:Heap)(ρ:List Addr)(l:a9)(S:St):Prop where
 keep:∀b o,c.h₀.get? b=some o->h.get? b=some o
 above:c.h₀.objs.size<=c.L
 rR:sysModules<c.h₀.objs.size
 len:l.length=c.dS.length
 gz:∃m,h.Ns c.L m
 cQ:∀v∈c.dS,c.h₀.get? v.iU=none
 var:∀(i:Nat) (v:iw),c.dS[i]? =some v->mc ρ h v (l[i]?.join)
 aX:bR G c h ρ S
 exc:∀v,c.A.handled=some v->ZE c.L h ρ v
theorem uI{h:Heap}{L:Addr}{m:Str->Option Value}(hn:h.Ns L m){o:Obj}(e:h.get? L=some o):∃es n,o.data=.dict es n:=by
 refine fz hn λo' es ep ho hd z=>?_;rw[e]at ho;cases ho;exact⟨_,_,hd⟩
theorem kq{h:Heap}{L:Addr}(hn:h.Ns L m)(e:h.get? L=some (ee vs n)):False:=by
 refine uG (uI hn e) λes k hd=>?_;cases hd
theorem AQ{h:Heap}(x:h.Ns a m)(y:h.Ns a m'):m=m':=by
 refine k8 x λo es ep ho hd w hf=>?_;refine k8 y λo' wc ED jM lU w Sz=>?_;rw[ho]at jM;cases jM;rw[hd]at lU;cases lU
 funext z;rw[<- hf z,Sz z]
theorem jq{h:Heap}(ha:h.objs.size<=a)(ob:Obj):h.get? a≠some ob:=λe=>absurd (bX e) (oK.mpr ha)
theorem mc.keep{h h':Heap}(x:mc ρ h v od)(gz:∃m,h.Ns L m)(p:ρ <+: ar)(k:bB h h')(e:v.iU≠L->∀ob,h.get? v.iU=some ob->h'.get? v.iU=some ob)(hn:∀m,h.Ns L m->h'.Ns L m):mc ar h' v od:=by
 cases v with
 | ns a y =>
  refine ak x λm hm q=>?_;refine⟨m,?_,λd hd=>ak (q d hd) λv h1 h2=>⟨v,h1,h2.mono p k⟩⟩;by_cases ha:a=L
  ·subst ha;exact hn _ hm
  ·exact hm.at' (e ha)
 | cell a =>
  refine dH x λob ov ho hd q=>?_;obtain ha:a≠L:=by
   rintro rfl;refine xE gz λm hm=>?_;refine uG (uI hm ho) λes n lU=>?_;cases hd.symm.trans lU
  exact⟨ob,ov,e ha _ ho,hd,λd hd=>ak (q d hd) λv h1 h2=>⟨v,h1,h2.mono p k⟩⟩
theorem mc.live(x:mc ρ h v od):∃ob,h.get? v.iU=some ob/\∀vs n,ob≠ee vs n:=by
 cases v with
 | ns a y=>refine ak x λm dc q=>?_;obtain⟨o,es,ep,ho,hd,_⟩:=dc;exact⟨o,ho,λvs n q=>nomatch hd.symm.trans (bE Obj.data q)⟩
 | cell a=>refine dH x λob ov ho hd q=>?_;exact⟨ob,ho,λvs n q=>nomatch hd.symm.trans (bE Obj.data q)⟩
section
variable {i:Nat}
theorem bR.get(X:bR G c h ρ S)(e:S[i]? =some o):∃a,ρ[i]? =some a/\OI G ρ h a o:=by
 obtain hi:i<ρ.length:=X.len▸(bP.mp e).1;exact⟨_,c8 hi,X.at_ _ _ _ (c8 hi) e⟩
theorem bR.mem(X:bR G c h ρ S)(e:a∈ρ):∃(i:Nat) (o:AO),ρ[i]? =some a/\S[i]? =some o/\OI G ρ h a o:=by
 refine xE (tZ e) λi hi=>?_;obtain hs:i<S.length:=X.len▸(bP.mp hi).1;exact⟨i,_,hi,c8 hs,X.at_ _ _ _ hi (c8 hs)⟩
theorem bR.live(X:bR G c h ρ S)(e:a∈ρ):∃ob,h.get? a=some ob/\∀vs n,ob≠ee vs n:=dH (X.mem e) λz z z z x=>x.live
theorem bR.inj(X:bR G c h ρ S){j:Nat}(x:ρ[i]? =some a)(y:ρ[j]? =some a):i=j:=by
 refine xE (bP.mp x) λhi e=>?_;refine xE (bP.mp y) λhj e'=>?_;exact(yB X.nd).mp (e.trans e'.symm)
theorem bR.tup(X:bR G c h ρ S)(gz:∃m,h.Ns c.L m)(E:∀b o,b≠c.L->h.get? b=some o->b∉ρ->h'.get? b=some o):bB h h':=λa vs n e=>by
 refine E a _ ?_ e λhm=>?_
 ·rintro rfl;refine xE gz λm hn=>?_;exact kq hn e
 ·refine ak (X.live hm) λob h1 h2=>?_;exact h2 vs n (Option.some.inj (h1.symm.trans e))
theorem aG.tup(R:aG G c h ρ l S)(E:bS c.L h ρ h' ar):bB h h':=R.aX.tup R.gz λb o n e q=>(E.old b o n e q).1
theorem aG.WG(R:aG G c h ρ l S){b:Addr}{o:Obj}(e:c.h₀.get? b=some o):b∉ρ:=λq=>nomatch e.symm.trans (R.aX.cQ b q).1
theorem aG.Gk(R:aG G c h ρ l S){b:Addr}{o:Obj}(e:c.h₀.get? b=some o):b≠c.L:=cU (aJ (bX e) R.above)
theorem aG.SA(R:aG G c h ρ l S){v:iw}(hv:v∈c.dS):v.iU∉ρ:=λq=>(R.aX.cQ _ q).2.2 v hv rfl
theorem aG.AR(R:aG G c h ρ l S){v:iw}(hv:v∈c.dS):∃ob,h.get? v.iU=some ob/\∀vs n,ob≠ee vs n:=by
 refine xE (tZ hv) λi hi=>?_;exact(R.var i v hi).live
theorem aG.re(R:aG G c h ρ l S)(p:ρ <+: ar)(k:bB h h')(old:∀b o,b≠c.L->h.get? b=some o->b∉ρ->(b∈c.dS.map iw.iU∨(∃o,c.h₀.get? b=some o)∨c.A.handled=some (.ref b))->h'.get? b=some o/\b∉ar)(ns:∀m,h.Ns c.L m->h'.Ns c.L m)(X:bR G c h' ar S'):aG G c h' ar l S' where
 keep:=λb o e=>(old b o (R.Gk e) (R.keep b o e) (R.WG e) (.inr (.inl ⟨o,e⟩))).1
 above:=R.above
 rR:=R.rR
 len:=R.len
 gz:=xE (R.gz) λm hm=>⟨m,ns m hm⟩
 cQ:=R.cQ
 var:=λi v hv=>(R.var i v hv).keep R.gz p k (λn ob e=>(old _ _ n e (R.SA (aH hv)) (.inl (jI (aH hv)))).1) ns
 aX:=X
 exc:=λv hv=>by
  refine pF ((R.exc v hv).at_) λa ob vs dn hL ho hd h2 hs=>?_;obtain rfl:=dn;obtain z:=old _ _ hL ho hs (.inr (.inr hv));exact⟨a,ob,vs,rfl,hL,z.1,hd,h2,z.2⟩
theorem aG.step(R:aG G c h ρ l S)(E:bS c.L h ρ h' ar)(X:bR G c h' ar S'):aG G c h' ar l S':=R.re E.pre (R.tup E) (λb o n e q z=>E.old b o n e q) E.ns X
theorem aG.fr(R:aG G c h ρ l S):∃m,Fr c.h₀ c.L h m:=xE (R.gz) λm hn=>⟨m,hn,R.keep,R.above⟩
theorem aG.dead(R:aG G c h ρ l S)(ha:∀ob,h.get? a≠some ob):a∉ρ:=λq=>ak (R.aX.live q) λob e z=>ha ob e
theorem aG.jU(R:aG G c h ρ l S)(k:dK c.L h h'):bB h h':=R.tup (.eD k)
theorem aG.yR(R:aG G c h ρ l S)(k:dK c.L h h'):bR G c h' ρ S :=
 ⟨R.aX.len,R.aX.nd,λi a o ha ho=>(R.aX.at_ i a o ha ho).keep (bV _) (R.jU k) λz e=>k.old _ _ (R.aX.cQ a (aH ha)).2.1 e,R.aX.cQ⟩
theorem aG.eD(R:aG G c h ρ l S)(k:dK c.L h h'):aG G c h' ρ l S:=R.step (.eD k) (R.yR k)
theorem aG.uJ(R:aG G c h ρ l S)(nn:∀ob,h.get? a≠some ob):c.h₀.get? a=none/\a≠c.L/\∀v∈c.dS,v.iU≠a:=by
 refine⟨?_,?_,λv hv e=>?_⟩
 ·cases q:c.h₀.get? a with
  | none=>rfl
  | some ob=>exact(nn _ (R.keep _ _ q)).elim
 ·rintro rfl;refine rO R.gz λm ob es ep q z=>?_;exact nn _ q
 ·refine ak (R.AR hv) λob q z=>?_;rw[e]at q;exact nn _ q
theorem Dh(e:(xs++[x])[i]? =some y):xs[i]? =some y∨(i=xs.length/\x=y):=by
 rw[List.getElem?_append]at e;by_cases hi:i<xs.length
 ·rw[au hi]at e;exact .inl e
 ·rw[ai hi]at e;obtain this:=(bP.mp e).1;obtain hz:i-xs.length=0:=Nat.lt_one_iff.mp this;rw[hz]at e;exact .inr ⟨bu (Nat.le_of_sub_eq_zero hz) (ja hi),Option.some.inj e⟩
theorem bR.Di(X:bR G c h ρ S)(na:a∉ρ)(of:c.h₀.get? a=none/\a≠c.L/\∀v∈c.dS,v.iU≠a)(ho:OI G (ρ++[a]) h a o):bR G c h (ρ++[a]) (S++[o]) where
 len:=by rw[aW,aW,X.len];rfl
 nd:=by
  rw[mT];exact⟨X.nd,fQ.mpr ⟨(λq=>nomatch q),iy⟩,λx hx y hy e=>na (aV.mp hy▸e▸hx)⟩
 at_:=λi b p hb hp=>by
  rcases Dh hb with hb | ⟨hi,rfl⟩
  ·rcases Dh hp with hp | ⟨hi,rfl⟩
   ·exact(X.at_ i b p hb hp).keep ⟨_,rfl⟩ (bB.refl _) λz e=>e
   ·exact absurd (bP.mp hb).1 (by rw[hi,X.len];exact jg _)
  ·rcases Dh hp with hp | ⟨_,rfl⟩
   ·exact absurd (bP.mp hp).1 (by rw[hi,X.len];exact jg _)
   ·exact ho
 cQ:=λb hb=>by
  rcases dt.mp hb with hb | hb
  ·exact X.cQ b hb
  ·rw[aV.mp hb];exact of
theorem aG.GH(R:aG G c h ρ l S)(k:dK c.L h h')(nn:∀ob,h.get? a≠some ob)(ho:OI G (ρ++[a]) h' a o):bR G c h' (ρ++[a]) (S++[o]):=(R.yR k).Di (R.dead nn) (R.uJ nn) ho
theorem aG.zQ(R:aG G c h ρ l S)(k:dK c.L h h')(nn:∀ob,h.get? a≠some ob):bS c.L h ρ h' (ρ++[a]) :=
 ⟨⟨_,rfl⟩,λb ob n e q=>⟨k.old b ob n e,λhm=>(dt.mp hm).elim q λhm=>nn ob (aV.mp hm▸e)⟩,k.ns⟩
structure zu(L a:Addr)(h h':Heap):Prop where
 old:∀b o,b≠a->b≠L->h.get? b=some o->h'.get? b=some o
 ns:∀m,h.Ns L m->h'.Ns L m
theorem zu.same(n:L≠a)(hs:Heap.SameBut a h h'):zu L a h h':=⟨λb o h1 z e=>hs.extBut b o h1 e,λz hm=>hm.at' λob e=>hs.extBut _ ob n e⟩
theorem aG.oP(_R:aG G c h ρ l S)(ha:ρ[i]? =some a)(hs:zu c.L a h h'):bS c.L h ρ h' ρ :=
 ⟨bV _,λb ob n e q=>⟨hs.old b ob (λx=>q (x▸aH ha)) n e,q⟩,hs.ns⟩
theorem Up{xs:List α}{x y:α}(e:(xs.set i x)[j]? =some y):(i=j/\x=y)∨(i≠j/\xs[j]? =some y):=by
 rw[List.getElem?_set]at e;by_cases eI:i=j
 ·rw[au eI]at e;by_cases hi:i<xs.length
  ·rw[au hi]at e;exact .inl ⟨eI,Option.some.inj e⟩
  ·rw[ai hi]at e;cases e
 ·rw[ai eI]at e;exact .inr ⟨eI,e⟩
theorem aG.AS(R:aG G c h ρ l S){o':AO}(ha:ρ[i]? =some a)(hs:zu c.L a h h')(ho:OI G ρ h' a o'):bR G c h' ρ (S.set i o') where
 len:=by rw[List.length_set];exact R.aX.len
 nd:=R.aX.nd
 at_:=λj b p hb hp=>by
  rcases Up hp with⟨rfl,rfl⟩ | ⟨eI,hp⟩
  ·rw[Option.some.inj (hb.symm.trans ha)];exact ho
  ·exact(R.aX.at_ j b p hb hp).keep (bV _) (R.tup (R.oP ha hs)) λz e=>hs.old _ _ (λq=>eI (R.aX.inj ha (q▸hb))) (R.aX.cQ b (aH hb)).2.1 e
 cQ:=R.aX.cQ
noncomputable def ng(c:Cx)(h:Heap):List (Addr×Obj):=((List.range h.objs.size).filterMap λa=>(h.get? a).map λo=>(a,o)).filter λp=>(c.h₀.get? p.1).isNone&&p.1 != c.L
theorem lg:(a,ob)∈ng c h↔h.get? a=some ob/\c.h₀.get? a=none/\a≠c.L:=by
 unfold ng;rw[eT,List.mem_filterMap,jc,lO,bne_iff_ne];refine and_congr_left' ⟨?_,λe=>⟨a,iz.mpr (bX e),by rw[e];rfl⟩⟩;rintro⟨b,_,e⟩;refine ak (f9.mp e) λo' ho e=>?_;cases e;exact ho
theorem aG.news(_R:aG G c h ρ l S):News c.h₀ c.L h (ng c h):=λw hp=>jL (lg.mp hp) λx y z=>⟨x,z,y⟩
theorem aG.fresh(_R:aG G c h ρ l S){D:Addr}{ob:Obj}{r:List (Addr×Obj)}(N:News c.h₀ c.L h' ((D,ob)::r))(hD:∀p∈ng c h,p.1<D)(ob:Obj):h.get? D≠some ob:=λe=>by
 obtain z:=N _ (.head _);exact absurd (hD _ (lg.mpr ⟨e,z.2.2,z.2.1⟩)) (jg _)
theorem aG.rS(R:aG G c h ρ l S){m:Str->Option Value}{news:List (Addr×Obj)}(hm:h.Ns c.L m)(F:Fr c.h₀ c.L h' m)(N:News c.h₀ c.L h' news)(hs:∀p∈ng c h,p∈news):dK c.L h h' where
 old:=λb ob n e=>by
  cases q:c.h₀.get? b with
  | some o'=>have:=R.keep b o' q;rw[e]at this;cases this;exact F.keep b ob q
  | none=>exact(N _ (hs _ (lg.mpr ⟨e,q,n⟩))).1
 ns:=λm' hU=>AQ hm hU▸F.ns
end
def fi(G:GX)(c:Cx)(s:Shared)(ρ:List Addr)(Q:PV->St->Prop)(QQ:Value->Shared->Prop):Prop :=
 ∀v d h' tk' ar S',bR G c h' ar S'->bS c.L s.heap ρ h' ar->VI ar h' v d->Q d S'->QQ v {s with heap:=h',toks:=tk'}
def TR(G:GX)(c:Cx)(t:Sem Value)(ρ:List Addr)(l:a9)(S:St)(s:Shared)(Q:PV->St->Prop):Prop :=
 ∀QQ E,aG G c s.heap ρ l S->fi G c s ρ Q QQ->wpAny G.M c.A t QQ E s
def EV(G:GX)(c:Cx)(e:Expr)(l:a9)(S:St)(Q:PV->St->Prop):Prop:=∀ρ s,TR G c (eval e c.aj) ρ l S s Q
section
theorem fi.step(K:fi G c s ρ Q QQ)(E:bS c.L s.heap ρ h' ar):fi G c {s with heap:=h',toks:=tk'} ar Q QQ :=
 λv d da lI jX n8 X T V q=>K v d da lI jX n8 X (E.trans T) V q
theorem fi.same(R:aG G c s.heap ρ l S)(K:fi G c s ρ Q QQ){v:Value}(d:PV){tk:Nat}(V:VI ρ s.heap v d)(q:Q d S):QQ v {s with toks:=tk} :=
 K v d s.heap tk ρ S R.aX (.refl _ _ _) V q
theorem fi.eD(R:aG G c s.heap ρ l S)(K:fi G c s ρ Q QQ){v:Value}(d:PV){h':Heap}{tk:Nat}(k:dK c.L s.heap h')(V:VI ρ h' v d)(q:Q d S):QQ v {s with heap:=h',toks:=tk} :=
 K v d h' tk ρ S (R.yR k) (.eD k) V q
theorem fi.new(R:aG G c s.heap ρ l S)(K:fi G c s ρ Q QQ){h':Heap}{tk:Nat}(k:dK c.L s.heap h'){a:Addr}(ha:∀ob,s.heap.get? a≠some ob)(o:AO)(ho:OI G (ρ++[a]) h' a o)(q:Q (.ref S.length) (S++[o])):QQ (.ref a) {s with heap:=h',toks:=tk} :=
 K _ (.ref S.length) h' tk _ _ (R.GH k ha ho) (R.zQ k ha) ⟨a,by rw[<- R.aX.len,d9 (aB _),gw];rfl,rfl⟩ q
theorem fi.put(R:aG G c s.heap ρ l S)(K:fi G c s ρ Q QQ){h':Heap}{tk:Nat}{v:Value}(d:PV){i:Nat}{a:Addr}(o':AO)(ha:ρ[i]? =some a)(hs:zu c.L a s.heap h')(ho:OI G ρ h' a o')(V:VI ρ h' v d)(q:Q d (S.set i o')):QQ v {s with heap:=h',toks:=tk} :=
 K _ d h' tk _ _ (R.AS ha hs ho) (R.oP ha hs) V q
end
noncomputable def GI(z:Expr)(K:BoolOp->(List Expr)->Pos->Bool):Bool:=if q:z.ctorIdx=0 then Expr.BoolOp.elim (motive_1:=λy=>Bool) z q λop es p=>K op es p else false
theorem Jm{K:BoolOp->(List Expr)->Pos->Bool}(h:GI z K=true):∃op es p,z=.BoolOp op es p/\K op es p=true:=by
 by_cases q:z.ctorIdx=0
 ·exact Expr.BoolOp.elim (motive_1:=λz=>∀q:z.ctorIdx=0,(Expr.BoolOp.elim (motive_1:=λy=>Bool) z q λop es p=>K op es p)=true->∃op es p,z=.BoolOp op es p/\K op es p=true) z q (λop es p y h=>⟨op,es,p,rfl,h⟩) q ((c3 q).symm.trans h)
 ·exact absurd ((c4 q).symm.trans h) bf
noncomputable def J6(z:Expr)(K:Expr->Operator->Expr->Pos->Bool):Bool:=if q:z.ctorIdx=2 then Expr.BinOp.elim (motive_1:=λy=>Bool) z q λa op b p=>K a op b p else false
theorem LG{K:Expr->Operator->Expr->Pos->Bool}(h:J6 z K=true):∃a op b p,z=.BinOp a op b p/\K a op b p=true:=by
 by_cases q:z.ctorIdx=2
 ·exact Expr.BinOp.elim (motive_1:=λz=>∀q:z.ctorIdx=2,(Expr.BinOp.elim (motive_1:=λy=>Bool) z q λa op b p=>K a op b p)=true->∃a op b p,z=.BinOp a op b p/\K a op b p=true) z q (λa op b p y h=>⟨a,op,b,p,rfl,h⟩) q ((c3 q).symm.trans h)
 ·exact absurd ((c4 q).symm.trans h) bf
noncomputable def wJ(z:Expr)(K:UnaryOp->Expr->Pos->Bool):Bool:=if q:z.ctorIdx=3 then Expr.UnaryOp.elim (motive_1:=λy=>Bool) z q λop a p=>K op a p else false
theorem wK{K:UnaryOp->Expr->Pos->Bool}(h:wJ z K=true):∃op a p,z=.UnaryOp op a p/\K op a p=true:=by
 by_cases q:z.ctorIdx=3
 ·exact Expr.UnaryOp.elim (motive_1:=λz=>∀q:z.ctorIdx=3,(Expr.UnaryOp.elim (motive_1:=λy=>Bool) z q λop a p=>K op a p)=true->∃op a p,z=.UnaryOp op a p/\K op a p=true) z q (λop a p y h=>⟨op,a,p,rfl,h⟩) q ((c3 q).symm.trans h)
 ·exact absurd ((c4 q).symm.trans h) bf
noncomputable def J7(z:Expr)(K:Expr->Expr->Expr->Pos->Bool):Bool:=if q:z.ctorIdx=5 then Expr.IfExp.elim (motive_1:=λy=>Bool) z q λt a b p=>K t a b p else false
theorem LH{K:Expr->Expr->Expr->Pos->Bool}(h:J7 z K=true):∃t a b p,z=.IfExp t a b p/\K t a b p=true:=by
 by_cases q:z.ctorIdx=5
 ·exact Expr.IfExp.elim (motive_1:=λz=>∀q:z.ctorIdx=5,(Expr.IfExp.elim (motive_1:=λy=>Bool) z q λt a b p=>K t a b p)=true->∃t a b p,z=.IfExp t a b p/\K t a b p=true) z q (λt a b p y h=>⟨t,a,b,p,rfl,h⟩) q ((c3 q).symm.trans h)
 ·exact absurd ((c4 q).symm.trans h) bf
noncomputable def wL(z:Expr)(K:(List (Option Expr))->(List Expr)->Pos->Bool):Bool:=if q:z.ctorIdx=6 then Expr.Dict.elim (motive_1:=λy=>Bool) z q λks vs p=>K ks vs p else false
theorem EE{K:(List (Option Expr))->(List Expr)->Pos->Bool}(h:wL z K=true):∃ks vs p,z=.Dict ks vs p/\K ks vs p=true:=by
 by_cases q:z.ctorIdx=6
 ·exact Expr.Dict.elim (motive_1:=λz=>∀q:z.ctorIdx=6,(Expr.Dict.elim (motive_1:=λy=>Bool) z q λks vs p=>K ks vs p)=true->∃ks vs p,z=.Dict ks vs p/\K ks vs p=true) z q (λks vs p y h=>⟨ks,vs,p,rfl,h⟩) q ((c3 q).symm.trans h)
 ·exact absurd ((c4 q).symm.trans h) bf
noncomputable def AU(z:Expr)(K:Expr->(List Comprehension)->Scope->Pos->Bool):Bool:=if q:z.ctorIdx=8 then Expr.ListComp.elim (motive_1:=λy=>Bool) z q λa gs sc p=>K a gs sc p else false
theorem Fv{K:Expr->(List Comprehension)->Scope->Pos->Bool}(h:AU z K=true):∃a gs sc p,z=.ListComp a gs sc p/\K a gs sc p=true:=by
 by_cases q:z.ctorIdx=8
 ·exact Expr.ListComp.elim (motive_1:=λz=>∀q:z.ctorIdx=8,(Expr.ListComp.elim (motive_1:=λy=>Bool) z q λa gs sc p=>K a gs sc p)=true->∃a gs sc p,z=.ListComp a gs sc p/\K a gs sc p=true) z q (λa gs sc p y h=>⟨a,gs,sc,p,rfl,h⟩) q ((c3 q).symm.trans h)
 ·exact absurd ((c4 q).symm.trans h) bf
noncomputable def wM(z:Expr)(K:Expr->(List CmpOp)->(List Expr)->Pos->Bool):Bool:=if q:z.ctorIdx=15 then Expr.Compare.elim (motive_1:=λy=>Bool) z q λa pJ es p=>K a pJ es p else false
theorem wN{K:Expr->(List CmpOp)->(List Expr)->Pos->Bool}(h:wM z K=true):∃a pJ es p,z=.Compare a pJ es p/\K a pJ es p=true:=by
 by_cases q:z.ctorIdx=15
 ·exact Expr.Compare.elim (motive_1:=λz=>∀q:z.ctorIdx=15,(Expr.Compare.elim (motive_1:=λy=>Bool) z q λa pJ es p=>K a pJ es p)=true->∃a pJ es p,z=.Compare a pJ es p/\K a pJ es p=true) z q (λa pJ es p y h=>⟨a,pJ,es,p,rfl,h⟩) q ((c3 q).symm.trans h)
 ·exact absurd ((c4 q).symm.trans h) bf
noncomputable def nH(z:Expr)(K:Expr->(List Expr)->(List Keyword)->Pos->Bool):Bool:=if q:z.ctorIdx=16 then Expr.Call.elim (motive_1:=λy=>Bool) z q λf es kw p=>K f es kw p else false
theorem jz{K:Expr->(List Expr)->(List Keyword)->Pos->Bool}(h:nH z K=true):∃f es kw p,z=.Call f es kw p/\K f es kw p=true:=by
 by_cases q:z.ctorIdx=16
 ·exact Expr.Call.elim (motive_1:=λz=>∀q:z.ctorIdx=16,(Expr.Call.elim (motive_1:=λy=>Bool) z q λf es kw p=>K f es kw p)=true->∃f es kw p,z=.Call f es kw p/\K f es kw p=true) z q (λf es kw p y h=>⟨f,es,kw,p,rfl,h⟩) q ((c3 q).symm.trans h)
 ·exact absurd ((c4 q).symm.trans h) bf
noncomputable def vd(z:Expr)(K:Const->Nat->Pos->Bool):Bool:=if q:z.ctorIdx=19 then Expr.Constant.elim (motive_1:=λy=>Bool) z q λk n p=>K k n p else false
theorem wd{K:Const->Nat->Pos->Bool}(h:vd z K=true):∃k n p,z=.Constant k n p/\K k n p=true:=by
 by_cases q:z.ctorIdx=19
 ·exact Expr.Constant.elim (motive_1:=λz=>∀q:z.ctorIdx=19,(Expr.Constant.elim (motive_1:=λy=>Bool) z q λk n p=>K k n p)=true->∃k n p,z=.Constant k n p/\K k n p=true) z q (λk n p y h=>⟨k,n,p,rfl,h⟩) q ((c3 q).symm.trans h)
 ·exact absurd ((c4 q).symm.trans h) bf
noncomputable def gO(z:Expr)(K:Expr->Str->Pos->Bool):Bool:=if q:z.ctorIdx=20 then Expr.Attribute.elim (motive_1:=λy=>Bool) z q λa x p=>K a x p else false
theorem fW{K:Expr->Str->Pos->Bool}(h:gO z K=true):∃a x p,z=.Attribute a x p/\K a x p=true:=by
 by_cases q:z.ctorIdx=20
 ·exact Expr.Attribute.elim (motive_1:=λz=>∀q:z.ctorIdx=20,(Expr.Attribute.elim (motive_1:=λy=>Bool) z q λa x p=>K a x p)=true->∃a x p,z=.Attribute a x p/\K a x p=true) z q (λa x p y h=>⟨a,x,p,rfl,h⟩) q ((c3 q).symm.trans h)
 ·exact absurd ((c4 q).symm.trans h) bf
noncomputable def jV(z:Expr)(K:Expr->Expr->Pos->Bool):Bool:=if q:z.ctorIdx=21 then Expr.Subscript.elim (motive_1:=λy=>Bool) z q λa b p=>K a b p else false
theorem jr{K:Expr->Expr->Pos->Bool}(h:jV z K=true):∃a b p,z=.Subscript a b p/\K a b p=true:=by
 by_cases q:z.ctorIdx=21
 ·exact Expr.Subscript.elim (motive_1:=λz=>∀q:z.ctorIdx=21,(Expr.Subscript.elim (motive_1:=λy=>Bool) z q λa b p=>K a b p)=true->∃a b p,z=.Subscript a b p/\K a b p=true) z q (λa b p y h=>⟨a,b,p,rfl,h⟩) q ((c3 q).symm.trans h)
 ·exact absurd ((c4 q).symm.trans h) bf
noncomputable def hZ(z:Expr)(K:Str->Pos->Bool):Bool:=if q:z.ctorIdx=23 then Expr.Name.elim (motive_1:=λy=>Bool) z q λx p=>K x p else false
theorem eE{K:Str->Pos->Bool}(h:hZ z K=true):∃x p,z=.Name x p/\K x p=true:=by
 by_cases q:z.ctorIdx=23
 ·exact Expr.Name.elim (motive_1:=λz=>∀q:z.ctorIdx=23,(Expr.Name.elim (motive_1:=λy=>Bool) z q λx p=>K x p)=true->∃x p,z=.Name x p/\K x p=true) z q (λx p y h=>⟨x,p,rfl,h⟩) q ((c3 q).symm.trans h)
 ·exact absurd ((c4 q).symm.trans h) bf
noncomputable def Nm(z:Expr)(K:(List Expr)->Pos->Bool):Bool:=if q:z.ctorIdx=24 then Expr.List.elim (motive_1:=λy=>Bool) z q λes p=>K es p else false
theorem Nn{K:(List Expr)->Pos->Bool}(h:Nm z K=true):∃es p,z=.List es p/\K es p=true:=by
 by_cases q:z.ctorIdx=24
 ·exact Expr.List.elim (motive_1:=λz=>∀q:z.ctorIdx=24,(Expr.List.elim (motive_1:=λy=>Bool) z q λes p=>K es p)=true->∃es p,z=.List es p/\K es p=true) z q (λes p y h=>⟨es,p,rfl,h⟩) q ((c3 q).symm.trans h)
 ·exact absurd ((c4 q).symm.trans h) bf
noncomputable def lh(z:Expr)(K:(List Expr)->Nat->Pos->Bool):Bool:=if q:z.ctorIdx=25 then Expr.Tuple.elim (motive_1:=λy=>Bool) z q λes n p=>K es n p else false
theorem f6{K:(List Expr)->Nat->Pos->Bool}(h:lh z K=true):∃es n p,z=.Tuple es n p/\K es n p=true:=by
 by_cases q:z.ctorIdx=25
 ·exact Expr.Tuple.elim (motive_1:=λz=>∀q:z.ctorIdx=25,(Expr.Tuple.elim (motive_1:=λy=>Bool) z q λes n p=>K es n p)=true->∃es n p,z=.Tuple es n p/\K es n p=true) z q (λes n p y h=>⟨es,n,p,rfl,h⟩) q ((c3 q).symm.trans h)
 ·exact absurd ((c4 q).symm.trans h) bf
noncomputable def yS(z:Expr)(K:(Option Expr)->(Option Expr)->(Option Expr)->Pos->Bool):Bool:=if q:z.ctorIdx=26 then Expr.Slice.elim (motive_1:=λy=>Bool) z q λa b d p=>K a b d p else false
theorem vf{K:(Option Expr)->(Option Expr)->(Option Expr)->Pos->Bool}(h:yS z K=true):∃a b d p,z=.Slice a b d p/\K a b d p=true:=by
 by_cases q:z.ctorIdx=26
 ·exact Expr.Slice.elim (motive_1:=λz=>∀q:z.ctorIdx=26,(Expr.Slice.elim (motive_1:=λy=>Bool) z q λa b d p=>K a b d p)=true->∃a b d p,z=.Slice a b d p/\K a b d p=true) z q (λa b d p y h=>⟨a,b,d,p,rfl,h⟩) q ((c3 q).symm.trans h)
 ·exact absurd ((c4 q).symm.trans h) bf
noncomputable def Dj(z:Stmt)(K:(Option Expr)->Pos->Bool):Bool:=if q:z.ctorIdx=3 then Stmt.Return.elim (motive_2:=λy=>Bool) z q λe p=>K e p else false
theorem AV{K:(Option Expr)->Pos->Bool}(h:Dj z K=true):∃e p,z=.Return e p/\K e p=true:=by
 by_cases q:z.ctorIdx=3
 ·exact Stmt.Return.elim (motive_2:=λz=>∀q:z.ctorIdx=3,(Stmt.Return.elim (motive_2:=λy=>Bool) z q λe p=>K e p)=true->∃e p,z=.Return e p/\K e p=true) z q (λe p y h=>⟨e,p,rfl,h⟩) q ((c3 q).symm.trans h)
 ·exact absurd ((c4 q).symm.trans h) bf
noncomputable def J8(z:Stmt)(K:(List Expr)->Expr->Pos->Bool):Bool:=if q:z.ctorIdx=5 then Stmt.Assign.elim (motive_2:=λy=>Bool) z q λts v p=>K ts v p else false
theorem LI{K:(List Expr)->Expr->Pos->Bool}(h:J8 z K=true):∃ts v p,z=.Assign ts v p/\K ts v p=true:=by
 by_cases q:z.ctorIdx=5
 ·exact Stmt.Assign.elim (motive_2:=λz=>∀q:z.ctorIdx=5,(Stmt.Assign.elim (motive_2:=λy=>Bool) z q λts v p=>K ts v p)=true->∃ts v p,z=.Assign ts v p/\K ts v p=true) z q (λts v p y h=>⟨ts,v,p,rfl,h⟩) q ((c3 q).symm.trans h)
 ·exact absurd ((c4 q).symm.trans h) bf
noncomputable def Qe(z:Stmt)(K:Expr->Expr->(List Stmt)->(List Stmt)->Pos->Bool):Bool:=if q:z.ctorIdx=9 then Stmt.For.elim (motive_2:=λy=>Bool) z q λt e b o p=>K t e b o p else false
theorem J9{K:Expr->Expr->(List Stmt)->(List Stmt)->Pos->Bool}(h:Qe z K=true):∃t e b o p,z=.For t e b o p/\K t e b o p=true:=by
 by_cases q:z.ctorIdx=9
 ·exact Stmt.For.elim (motive_2:=λz=>∀q:z.ctorIdx=9,(Stmt.For.elim (motive_2:=λy=>Bool) z q λt e b o p=>K t e b o p)=true->∃t e b o p,z=.For t e b o p/\K t e b o p=true) z q (λt e b o p y h=>⟨t,e,b,o,p,rfl,h⟩) q ((c3 q).symm.trans h)
 ·exact absurd ((c4 q).symm.trans h) bf
noncomputable def Np(z:Stmt)(K:Expr->(List Stmt)->(List Stmt)->Pos->Bool):Bool:=if q:z.ctorIdx=11 then Stmt.While.elim (motive_2:=λy=>Bool) z q λe b o p=>K e b o p else false
theorem Nq{K:Expr->(List Stmt)->(List Stmt)->Pos->Bool}(h:Np z K=true):∃e b o p,z=.While e b o p/\K e b o p=true:=by
 by_cases q:z.ctorIdx=11
 ·exact Stmt.While.elim (motive_2:=λz=>∀q:z.ctorIdx=11,(Stmt.While.elim (motive_2:=λy=>Bool) z q λe b o p=>K e b o p)=true->∃e b o p,z=.While e b o p/\K e b o p=true) z q (λe b o p y h=>⟨e,b,o,p,rfl,h⟩) q ((c3 q).symm.trans h)
 ·exact absurd ((c4 q).symm.trans h) bf
noncomputable def WH(z:Stmt)(K:Expr->(List Stmt)->(List Stmt)->Pos->Bool):Bool:=if q:z.ctorIdx=12 then Stmt.If.elim (motive_2:=λy=>Bool) z q λe a b p=>K e a b p else false
theorem Nr{K:Expr->(List Stmt)->(List Stmt)->Pos->Bool}(h:WH z K=true):∃e a b p,z=.If e a b p/\K e a b p=true:=by
 by_cases q:z.ctorIdx=12
 ·exact Stmt.If.elim (motive_2:=λz=>∀q:z.ctorIdx=12,(Stmt.If.elim (motive_2:=λy=>Bool) z q λe a b p=>K e a b p)=true->∃e a b p,z=.If e a b p/\K e a b p=true) z q (λe a b p y h=>⟨e,a,b,p,rfl,h⟩) q ((c3 q).symm.trans h)
 ·exact absurd ((c4 q).symm.trans h) bf
noncomputable def sO(z:Stmt)(K:Expr->Pos->Bool):Bool:=if q:z.ctorIdx=24 then Stmt.Expr.elim (motive_2:=λy=>Bool) z q λe p=>K e p else false
theorem mG{K:Expr->Pos->Bool}(h:sO z K=true):∃e p,z=.Expr e p/\K e p=true:=by
 by_cases q:z.ctorIdx=24
 ·exact Stmt.Expr.elim (motive_2:=λz=>∀q:z.ctorIdx=24,(Stmt.Expr.elim (motive_2:=λy=>Bool) z q λe p=>K e p)=true->∃e p,z=.Expr e p/\K e p=true) z q (λe p y h=>⟨e,p,rfl,h⟩) q ((c3 q).symm.trans h)
 ·exact absurd ((c4 q).symm.trans h) bf
noncomputable def SD(z:Stmt)(K:Pos->Bool):Bool:=if q:z.ctorIdx=25 then Stmt.Pass.elim (motive_2:=λy=>Bool) z q λp=>K p else false
theorem Qg{K:Pos->Bool}(h:SD z K=true):∃p,z=.Pass p/\K p=true:=by
 by_cases q:z.ctorIdx=25
 ·exact Stmt.Pass.elim (motive_2:=λz=>∀q:z.ctorIdx=25,(Stmt.Pass.elim (motive_2:=λy=>Bool) z q λp=>K p)=true->∃p,z=.Pass p/\K p=true) z q (λp y h=>⟨p,rfl,h⟩) q ((c3 q).symm.trans h)
 ·exact absurd ((c4 q).symm.trans h) bf
set_option genCtorIdx true in
inductive BI where
 | sum | len | ord | Nt | all | bytes | Dk | iB | sorted | eW | str
 deriving DecidableEq
set_option genCtorIdx true in
inductive BM where
 | append | pK | EF | count | join
set_option genCtorIdx true in
inductive IK where
 | ex | uK | Dl | EG
inductive T where
 | lit (v:PV)
 | loc (i:Nat)
 | bin (op:Operator) (a b:T)
 | not (a:T)
 | neg (n:Int)
 | and (a b:T)
 | or (a b:T)
 | cmp (op:CmpOp) (a b:T)
 | cmp2 (qG qH:CmpOp) (a b c:T)
 | ife (t a b:T)
 | tup (es:T)
 | lst (es:T)
 | dnilI
 | dnilS
 | attr (e:T) (f:Fd)
 | idx (a i:T)
 | slc (a lo hi:T)
 | slcL (a lo:T)
 | slcH (a hi:T)
 | call (f:Addr) (es:T)
 | new (c:jo) (es:T)
 | meth (e:T) (m:Mt) (es:T)
 | mcall (e:T) (m:BM) (es:T)
 | bi (b:BI) (es:T)
 | comp (fj:T) (n:Nat) (tup:Bool) (k:IK) (its gG:T)
 | nil
 | cons (e r:T)
noncomputable def T.ctorIdx(x:T):Nat:=T.casesOn x (λz=>0) (λz=>1) (λz z z=>2) (λz=>3) (λz=>4) (λz z=>5) (λz z=>6) (λz z z=>7) (λz z z z z=>8) (λz z z=>9) (λz=>10) (λz=>11) 12 13 (λz z=>14) (λz z=>15) (λz z z=>16) (λz z=>17) (λz z=>18) (λz z=>19) (λz z=>20) (λz z z=>21) (λz z z=>22) (λz z=>23) (λz z z z z z=>24) 25 (λz z=>26)
inductive P where
 | asg (i:Nat) (e:T)
 | asgT (is:List Nat) (es:T)
 | asgU (is:List Nat) (e:T)
 | sattr (o:T) (f:Fd) (v:T)
 | sidx (o i v:T)
 | ret (e:T)
 | ret0
 | iff (t:T) (a b:P)
 | whil (t:T) (b:P)
 | forr (is:List Nat) (tup:Bool) (k:IK) (its:T) (b:P)
 | expr (e:T)
 | pass
 | dead
 | nil
 | cons (st r:P)
noncomputable def P.ctorIdx(x:P):Nat:=P.casesOn x (λz z=>0) (λz z=>1) (λz z=>2) (λz z z=>3) (λz z z=>4) (λz=>5) 6 (λz z z=>7) (λz z=>8) (λz z z z z=>9) (λz=>10) 11 12 13 (λz z=>14)
inductive Fl where
 | next
 | ret (d:PV)
noncomputable def Fl.ctorIdx(x:Fl):Nat:=Fl.casesOn x 0 (λz=>1)
structure Lv where
 n:Nat
 hn:Bool
noncomputable abbrev sz:Nat:=16777216
set_option genCtorIdx true in
set_option genInjectivity true in
inductive cK where
 | i (n:Int)
 | s (x:Str)
 | r (x:Str) (n:Int)
 deriving DecidableEq
noncomputable def cK.ok:cK->Bool
 | .i _=>true
 | .s x=>PyData.strOk x
 | .r x _=>PyData.strOk x
noncomputable def cK.pv:cK->PV
 | .i n=>.int n
 | .s x=>.str x
 | .r x n=>.tup [.str x,.int n]
inductive b9 where
 | c6 (ds:List PV)
 | list (a:Nat) (ds:List PV)
 | bD (a:Nat) (es:List (Str×PV)) (ep:Nat)
noncomputable def b9.ctorIdx(x:b9):Nat:=b9.casesOn x (λz=>0) (λz z=>1) (λz z z=>2)
noncomputable def b9.items:b9->List PV
 | .c6 ds=>ds
 | .list _ ds=>ds
 | .bD _ es _=>es.map λp=>.str p.1
noncomputable def oQ(x:Str):List PV:=x.cps.toList.map λc=>.str ⟨#[c]⟩
noncomputable def ib(b:List UInt8):List PV:=b.map λc=>.int c.toNat
noncomputable def bg(a:Int)(n:Nat):List PV:=(List.range n).map λ(i:Nat)=>PV.int (a+(i:Int))
noncomputable def uL(b:List UInt8):List PV:=b.zipIdx.map λp=>.tup [.int (p.2:Int),.int p.1.toNat]
noncomputable def sP(a b:Str×Int):Bool:=PySem.Spec.ltCps a.1.cps.toList b.1.cps.toList
def fU(d:PV)(K:Bool->Prop):Prop:=match d with
 | .bool b=>K b
 | _=>False
def fc(d:PV)(K:Int->Prop):Prop:=match d with
 | .int i=>K i
 | _=>False
def cY(d:PV)(K:List PV->Prop):Prop:=match d with
 | .tup ds=>K ds
 | _=>False
def fg(d:PV)(K:Nat->Prop):Prop:=match d with
 | .ref i=>K i
 | _=>False
def sQ(ds:List PV)(K:PV->Prop):Prop:=match ds with
 | [d]=>K d
 | _=>False
def Ka(ds:List PV)(K:PV->PV->Prop):Prop:=match ds with
 | [d,e]=>K d e
 | _=>False
theorem pL{K:Bool->Prop}(h:fU d K):∃b,d=.bool b/\K b:=by cases d<;>first | exact⟨_,rfl,h⟩ | exact False.elim h
theorem dg{K:Int->Prop}(h:fc d K):∃b,d=.int b/\K b:=by cases d<;>first | exact⟨_,rfl,h⟩ | exact False.elim h
theorem mH{K:List PV->Prop}(h:cY d K):∃b,d=.tup b/\K b:=by cases d<;>first | exact⟨_,rfl,h⟩ | exact False.elim h
theorem dy{K:Nat->Prop}(h:fg d K):∃b,d=.ref b/\K b:=by cases d<;>first | exact⟨_,rfl,h⟩ | exact False.elim h
theorem rT{K:PV->Prop}(h:sQ ds K):∃d,ds=[d]/\K d:=by
 cases ds with
 | nil=>exact False.elim h
 | cons d r=>cases r with
  | nil=>exact⟨_,rfl,h⟩
  | cons=>exact False.elim h
theorem AW{K:PV->PV->Prop}(h:Ka ds K):∃d e,ds=[d,e]/\K d e:=by
 cases ds with
 | nil=>exact False.elim h
 | cons d r=>cases r with
  | nil=>exact False.elim h
  | cons e r=>cases r with
   | nil=>exact⟨_,_,rfl,h⟩
   | cons=>exact False.elim h
noncomputable def LJ:PV->Bool
 | .tup _=>false
 | _=>true
noncomputable def vg(ds:List PV):Bool:=decide (ds.length<=1000)&&ds.all LJ
section
variable (S:St) (Q:PV->St->Prop)
def dM(o:AO):Prop:=Q (.ref S.length) (S++[o])
def iL(op:Operator)(a b:Int)(K:Int->Prop):Prop:=match op with
 | .Add=>K (a+b)
 | .Sub=>K (a-b)
 | .Mult=>a.natAbs<2^64/\b.natAbs<2^64/\K (a*b)
 | .FloorDiv=>0<b/\b<1073741824/\K (a/b)
 | .Mod=>0<b/\K (a%b)
 | .Pow=>0<=b/\b<=1000/\a.natAbs<2^64/\K (a^b.toNat)
 | .LShift=>0<=b/\b<=1000/\a.natAbs<2^64/\K (a*2^b.toNat)
 | .RShift=>0<=b/\K (a/2^b.toNat)
 | .BitXor=>K (Builtin.bitXor a b)
 | .BitAnd=>K (Builtin.bitAnd a b)
 | _=>False
def acb(op:Operator)(a:List UInt8)(y:PV):Prop:=match y with
 | .bytes b=>op=.Add/\a.length+b.length<=sz/\Q (.bytes (a++b)) S
 | .int n=>op=.Mult/\a≠[]/\0<=n/\n<=1048576/\a.length<=16/\Q (.bytes (List.replicate n.toNat a).flatten) S
 | _=>False
def acd(op:Operator)(a:Str)(y:PV):Prop:=match y with
 | .str b=>op=.Add/\a.length+b.length<=sz/\Q (.str (a++b)) S
 | .int n=>op=.Mult/\a.cps.size=1/\1<=n/\n<=3/\Q (.str ⟨(List.replicate n.toNat (a.cps.getD 0 0)).toArray⟩) S
 | _=>False
def ace(op:Operator)(l:Nat)(y:PV):Prop:=match y with
 | .int n=>op=.Mult/\n=4/\∃x,S[l]? =some (.list [.int x])/\dM S Q (.list [.int x,.int x,.int x,.int x])
 | .ref m=>op=.Add/\∃ds es,S[l]? =some (.list ds)/\S[m]? =some (.list es)/\ds.length+es.length<=1000/\dM S Q (.list (ds++es))
 | _=>False
def rU(op:Operator)(x y:PV):Prop:=match x with
 | .int a=>fc y λb=>iL op a b λc=>Q (.int c) S
 | .bytes a=>acb S Q op a y
 | .str a=>acd S Q op a y
 | .ref l=>ace S Q op l y
 | _=>False
def iM(op:CmpOp)(a b:Int)(K:Bool->Prop):Prop:=match op with
 | .Lt=>K (decide (a<b))
 | .LtE=>K (decide (a<=b))
 | .Gt=>K (decide (a>b))
 | .GtE=>K (decide (a>=b))
 | .Eq=>K (decide (a=b))
 | .NotEq=>K (decide (a≠b))
 | _=>False
def SG(op:CmpOp)(b:Bool):Prop:=match op with
 | .Eq=>Q (.bool b) S
 | .NotEq=>Q (.bool !b) S
 | _=>False
def vh(op:CmpOp)(b:Bool):Prop:=match op with
 | .Is=>Q (.bool b) S
 | .IsNot=>Q (.bool !b) S
 | _=>False
def ku(l:Nat)(K:List cK->Prop):Prop:=∃as:List cK,S[l]? =some (.list (as.map cK.pv))/\as.all cK.ok=true/\K as
def EH(op:CmpOp)(x:PV)(l:Nat):Prop:=match op with
 | .NotIn=>(∃a es,x=.int a/\S[l]? =some (.dr es)/\Q (.bool (!(es.any λp=>decide (p.1=a)))) S)∨(∃a:cK,x=a.pv/\a.ok=true/\ku S l λas=>Q (.bool (!decide (a∈as))) S)
 | .In=>∃a:cK,x=a.pv/\a.ok=true/\ku S l λas=>Q (.bool (decide (a∈as))) S
 | _=>False
def acf(op:CmpOp)(a:Int)(y:PV):Prop:=match y with
 | .int b=>iM op a b λc=>Q (.bool c) S
 | .none=>vh S Q op false∨(op=.NotEq/\Q (.bool true) S)
 | .tup ds=>op=.NotIn/\Ka ds λb c=>fc b λb=>fc c λc=>Q (.bool (!(decide (a=b)||decide (a=c)))) S
 | .ref l=>EH S Q op (.int a) l
 | _=>False
def acg(op:CmpOp)(y:PV):Prop:=match y with
 | .none=>vh S Q op true
 | .int _=>op=.NotEq/\Q (.bool true) S
 | _=>False
def ach(op:CmpOp)(a:Str)(y:PV):Prop:=match y with
 | .str b=>SG S Q op (decide (a=b))
 | .ref l=>EH S Q op (.str a) l
 | _=>False
def aci(op:CmpOp)(l:Nat)(y:PV):Prop:=fg y λm=>ku S l λas=>ku S m λbs=>SG S Q op (decide (as=bs))
def fX(op:CmpOp)(x y:PV):Prop:=match x with
 | .int a=>acf S Q op a y
 | .str a=>ach S Q op a y
 | .none=>acg S Q op y
 | .bytes _=>y=.none/\vh S Q op false
 | .ref l=>aci S Q op l y
 | .tup ds=>fg y λl=>EH S Q op (.tup ds) l
 | _=>False
noncomputable def b9.nh:b9->Prop
 | .c6 _=>True
 | .list a ds=>S[a]? =some (.list ds)
 | .bD a es ep=>S[a]? =some (.bD es ep)
def qI(lv:Lv)(d:PV)(K:b9->Prop):Prop:=match d with
 | .tup ds=>lv.hn=true/\ds.length<=8/\K (.c6 ds)
 | .str x=>(∀c∈x.cps,c<128)/\x.cps.size<=1000/\K (.c6 (oQ x))
 | .bytes b=>b.length<=100000/\K (.c6 (ib b))
 | .ref a=>(∃ds,S[a]? =some (.list ds)/\ds.length<=100000/\K (.list a ds))∨(∃es ep,S[a]? =some (.bD es ep)/\lv.hn=true/\es.length<=100000/\K (.bD a es ep))
 | _=>False
def md(lv:Lv)(k:IK)(d:PV)(K:b9->Prop):Prop:=match k with
 | .ex=>qI S lv d K
 | .uK=>cY d λds=>sQ ds λd=>fc d λn=>lv.hn=true/\ -100000<=n/\n<=100000/\K (.c6 (bg 0 n.toNat))
 | .Dl=>cY d λds=>Ka ds λd e=>fc d λa=>fc e λb=>lv.hn=true/\ -100000<=a/\a<=100000/\ -100000<=b/\b<=100000/\K (.c6 (bg a (b-a).toNat))
 | .EG=>cY d λds=>sQ ds λd=>match d with
   | .bytes b=>b.length<=100000/\K (.c6 (uL b))
   | _=>False
def WI(d:PV):Prop:=match d with
 | .bytes x=>x.length<=sz/\Q (.int x.length) S
 | .str x=>x.cps.size<=sz/\Q (.int x.cps.size) S
 | .ref a=>(∃ds,S[a]? =some (.list ds)/\ds.length<=sz/\Q (.int ds.length) S)∨(∃es ep,S[a]? =some (.bD es ep)/\es.length<=1000/\Q (.int es.length) S)
 | _=>False
def Nu(lv:Lv)(d:PV):Prop:=match d with
 | .bytes x=>Q (.bytes x) S
 | .int n=>0<=n/\n<=100000/\Q (.bytes (List.replicate n.toNat 0)) S
 | .ref a=>(∃x,S[a]? =some (.barr x)/\x.length<=sz/\Q (.bytes x) S)∨(∃ns:List Int,S[a]? =some (.list (ns.map .int))/\(∀n∈ns,0<=n/\n<256)/\ns.length<=100000/\lv.hn=true/\Q (.bytes (ns.map λn=>UInt8.ofNat n.toNat)) S)
 | _=>False
def SH(a:Nat):Prop :=
   ((∃rows:List (Str×Int),S[a]? =some (.list (rows.map λr=>.tup [.str r.1,.int r.2]))/\rows.length<64/\(rows.map (·.1)).Nodup /\
     ∀cR:List (Str×Int),cR.Perm rows->cR.Pairwise (λp q=>sP q p=false)->dM S Q (.list (cR.map λr=>.tup [.str r.1,.int r.2]))) ∨
   (∃ps:List (Int×Int),S[a]? =some (.list (ps.map λp=>.tup [.int p.1,.int p.2]))/\ps.length<64 /\
     ∀pM:List (Int×Int),pM.Perm ps->dM S Q (.list (pM.map λp=>.tup [.int p.1,.int p.2]))) ∨
   (∃(es:List (Str×PV)) (ep:Nat),S[a]? =some (.bD es ep)/\es.length<64 /\
     ∀ks:List Str,ks.Perm (es.map (·.1))->dM S Q (.list (ks.map .str))))
def i3(lv:Lv)(b:BI)(ds:List PV):Prop:=match b with
 | .sum=>sQ ds λd=>fg d λa=>∃ns:List Int,S[a]? =some (.list (ns.map .int))/\ns.length<=1000/\Q (.int ns.sum) S
 | .len=>sQ ds λd=>WI S Q d
 | .ord=>sQ ds λd=>match d with
   | .str x=>∃c,x.cps=#[c]/\Q (.int c) S
   | _=>False
 | .Nt=>sQ ds λd=>fc d λc=>0<=c/\c<128/\Q (.str ⟨#[c.toNat]⟩) S
 | .all=>sQ ds λd=>fg d λa=>∃bs:List Bool,S[a]? =some (.list (bs.map .bool))/\bs.length<=1000/\Q (.bool (bs.all id)) S
 | .bytes=>sQ ds λd=>Nu S Q lv d
 | .Dk=>Ka ds λd e=>fc d λa=>fc e λb=>lv.hn=true/\Q (.int (max a b)) S
 | .iB=>Ka ds λd e=>fc d λa=>fc e λb=>a<=b/\b-a<=1000/\ -100000<=a/\b<=100000/\lv.hn=true/\dM S Q (.list (bg a (b-a).toNat))
 | .str=>sQ ds λd=>fc d λn=>0<=n/\n<100/\Q (.str (Str.ofString (toString n))) S
 | .sorted=>sQ ds λd=>fg d λa=>lv.hn=true/\SH S Q a
 | .eW=>sQ ds λd=>fg d λa=>lv.hn=true/\∃ns:List Int,S[a]? =some (.list (ns.map .int))/\ns.length<=1000/\(∀n∈ns,0<=n/\n<1000000)/\ns.eraseDups.length<=18 /\
   ∀ks:List Int,ks.Perm ns.eraseDups->dM S Q (.list (ks.map .int))
def ZF(lv:Lv)(d:PV)(b:Nat):Prop:=match d with
 | .str GJ=>GJ=Str.empty/\∃xs:List Str,S[b]? =some (.list (xs.map .str))/\xs.length<=1000/\(∀x∈xs,x.cps.size<=1)/\Q (.str ⟨(xs.flatMap λx=>x.cps.toList).toArray⟩) S
 | .bytes GJ=>GJ=[]/\∃xs:List (List UInt8),S[b]? =some (.list (xs.map .bytes))/\xs.length<=1000/\(∀x∈xs,x.length<=1000)/\lv.hn=true/\Q (.bytes xs.flatten) S
 | _=>False
def uM(lv:Lv)(d:PV)(m:BM)(ds:List PV):Prop:=sQ ds λx=>match m with
 | .append=>fg d λa=>∃xs,S[a]? =some (.list xs)/\xs.length<=100000/\Q .none (S.set a (.list (xs++[x])))
 | .pK=>fg d λa=>fg x λb=>∃xs ys,S[a]? =some (.list xs)/\S[b]? =some (.list ys)/\a≠b/\xs.length+ys.length<=100000/\lv.hn=true/\Q .none (S.set a (.list (xs++ys)))
 | .EF=>fg d λa=>fc x λi=>∃xs y,S[a]? =some (.list xs)/\xs.length<=1000/\0<=i/\xs[i.toNat]? =some y/\Q y (S.set a (.list (xs.eraseIdx i.toNat)))
 | .count=>fg d λa=>fc x λi=>∃ns:List Int,S[a]? =some (.list (ns.map .int))/\ns.length<=1000/\Q (.int (ns.count i)) S
 | .join=>fg x λb=>ZF S Q lv d b
def nI(d:PV)(m:BM)(K:Prop):Prop:=match m with
 | .join=>(match d with
  | .str _=>K
  | .bytes _=>K
  | _=>False)
 | _=>fg d λa=>∃xs,S[a]? =some (.list xs)/\K
def AX(d:PV)(f:Fd):Prop:=fg d λx=>∃c dx fs v,S[x]? =some (.bc c dx)/\S[dx]? =some (.aA c fs)/\lk fs f=some v/\Q v S
def WJ(d:PV)(k:Int):Prop:=match d with
 | .tup ds=>∃x,0<=k/\ds.length<=8/\ds[k.toNat]? =some x/\Q x S
 | .bytes b=>∃x:UInt8,0<=k/\b.length<=sz/\b[k.toNat]? =some x/\Q (.int x.toNat) S
 | .str s=>∃x,0<=k/\s.cps.size<=1000/\s.cps[k.toNat]? =some x/\x<128/\Q (.str ⟨#[x]⟩) S
 | .ref a=>(∃ds x,S[a]? =some (.list ds)/\ds.length<=100000/\((0<=k/\ds[k.toNat]? =some x)∨(k= -1/\ds.getLast? =some x))/\Q x S)∨(∃es x,S[a]? =some (.dr es)/\lk es k=some x/\Q x S)
 | _=>False
def qb(d i:PV):Prop:=match i with
 | .int k=>WJ S Q d k
 | .str k=>fg d λa=>∃es ep x,S[a]? =some (.bD es ep)/\lk es k=some x/\Q x S
 | _=>False
def GK(d lo hi:PV):Prop:=match d with
 | .bytes b=>b.length<=100000/\fc lo λi=>fc hi λj=>0<=i/\i<=10000000/\0<=j/\j<=10000000/\Q (.bytes ((b.take j.toNat).drop i.toNat)) S
 | _=>False
def yT(d lo:PV):Prop:=fc lo λi=>match d with
 | .bytes b=>b.length<=100000/\0<=i/\i<=10000000/\Q (.bytes (b.drop i.toNat)) S
 | .ref a=>∃ds,S[a]? =some (.list ds)/\ds.length<=1000/\0<=i/\i<=1000000/\dM S Q (.list (ds.drop i.toNat))
 | _=>False
def GL(a:Nat)(ds:List PV):Prop:=S[a]? =some (.list ds)∨∃o vs n,S[a]? =some (.raw o)/\o.cls=.type "list"/\o.data=.seq (List.toArray vs) n/\∀ρ h,c5 ρ h vs ds
def vj(d hi:PV):Prop:=fc hi λj=>match d with
 | .bytes b=>b.length<=100000/\0<=j/\j<=10000000/\Q (.bytes (b.take j.toNat)) S
 | .ref a=>∃ds,GL S a ds/\ds.length<=1000/\0<=j/\j<=1000000/\dM S Q (.list (ds.take j.toNat))
 | _=>False
end
structure bw(G:GX)(lv:Lv)(c:Cx):Prop where
 below:Below c.GG c.base c.bY c.h₀
 frames:c.A.frames=some (c.hO::c.bY)
 pN:c.hO.frame=some c.L
 fk:c.hO.scope.kind=.function
 K:G.K.In c.h₀
 T:Top G.p G.yQ G.WE G.mg G.mb c.h₀
 depth:c.A.depth+lv.n<=900
 units:c.A.units+8*lv.n<=9000
 hn:lv.hn=true->c.A.handled=none
 nb:c.A.handled≠some byPass
 gx:lv.n<=100∨(lv.n<=101/\c.bY=[])
def j7(QQ:Value->Shared->Prop)(E:Value->Shared->Prop)(r:Result)(s':Shared):Prop:=match r with
 | .ok (.ret v)=>QQ v s'
 | .ok _=>False
 | .error e=>E e s'
def aT(G:GX)(lv:Lv)(f:Addr)(ds:List PV)(S:St)(Q:PV->St->Prop):Prop :=
 ∀c,bw G lv c->∀(s:Shared) (ρ:List Addr) (vs:List Value) (l:a9) QQ E,aG G c s.heap ρ l S->c5 ρ s.heap vs ds->fi G c s ρ Q QQ->codeAny G.M c.A (.call (.ref f) ⟨vs,[]⟩) (j7 QQ E) s
def gA(Dm:St)(l:a9)(S:St)(l':a9)(S':St):Prop :=
 ∀(G:GX) (c:Cx) (h:Heap) (de ρ:List Addr),de.length=Dm.length->de <+: ρ->aG G c h ρ l S->∃ar,de <+: ar/\(∀a,a∉ρ->a∉ar)/\aG G c h ar l' S'
noncomputable def ni(z:Int):List (Fd×PV):=[(.wG,.int 16),(.GD,.int 32),(.wH,.int 32),(.Nl,.int 4),(.gg,.int 4),(.ring,.int 4),(.AP,.int 2),(.lS,.int 128),(.GF,.int 192),(.wI,.int 160),(.J5,.int z)]
section
variable (S:St)
def nJ(d:PV)(m:Mt)(K:Addr->Nat->Prop):Prop:=fg d λx=>∃c dx fs f,S[x]? =some (.bc c dx)/\S[dx]? =some (.aA c fs)/\LF c m=some f/\K f x
def rV(x:PV)(f:Fd)(d:PV)(K:St->Prop):Prop:=fg x λx=>∃c dx fs,S[x]? =some (.bc c dx)/\S[dx]? =some (.aA c fs)/\f∈lT c/\fs.length<20/\K (S.set dx (.aA c (put fs f d)))
def AY(x k d:PV)(K:St->Prop):Prop:=fg x λa=>match k with
 | .int k=>(∃ds,S[a]? =some (.list ds)/\ds.length<=1000/\0<=k/\k<ds.length/\K (S.set a (.list (ds.set k.toNat d))))∨(∃es,S[a]? =some (.dr es)/\es.length<=1000/\K (S.set a (.dr (put es k d))))
 | .str k=>∃es ep,S[a]? =some (.bD es ep)/\es.length<=1000/\∀ED,K (S.set a (.bD (put es k d) ED))
 | _=>False
end
noncomputable def lj(step:PV->St->(Option PV->St->Prop)->Prop)(aC:b9):List PV->List PV->St->(List PV->St->Prop)->Prop
 | [],bA,S,K=>aC.nh S/\K bA S
 | d::r,bA,S,K=>aC.nh S/\step d S λo S'=>lj step aC r (bA++o.toList) S' K
def fY(n:Nat)(tup:Bool)(d:PV)(k:List (Option PV)->Prop):Prop:=match tup with
 | true=>cY d λds=>ds.length=n/\k (ds.map some)
 | false=>n=1/\k [some d]
structure AZ(t:Bool)(P R:Prop):Prop where
 y:t=true->P
 n:t=false->R
def j8(x:PV)(S:St)(P R:St->Prop):Prop:=match x with
 | .bool t=>AZ t (P S) (R S)
 | _=>False
def LK(gG fj:a9->St->(PV->St->Prop)->Prop)(n:Nat)(tup:Bool)(l:a9)(d:PV)(S:St)(k:Option PV->St->Prop):Prop :=
 fY n tup d λxs=>gG (l++xs) S λt af=>j8 t af (λaf=>fj (l++xs) af λr aL=>k (some r) aL) (k none)
noncomputable def PV.atom:PV->Bool
 | .ref _=>false
 | .tup _=>false
 | _=>true
noncomputable def aO(G:GX)(lv:Lv)(e:T):a9->St->(PV->St->Prop)->Prop :=
 T.rec (motive:=λw=>a9->St->(PV->St->Prop)->Prop)
  (lit:=λv w S Q=>(match v.atom with
   | true=>Q v S
   | false=>False))
  (loc:=λi l S Q=>(match l[i]? with
   | some (some d)=>Q d S
   | _=>False))
  (bin:=λop w w a b l S Q=>a l S λx aa=>b l aa λy af=>rU af Q op x y)
  (not:=λw a l S Q=>a l S λx aa=>fU x λt=>Q (.bool (!t)) aa)
  (neg:=λn w S Q=>Q (.int (-n)) S)
  (and:=λw w a b l S Q=>a l S λx aa=>j8 x aa (λaa=>b l aa Q) (Q (.bool false)))
  (or:=λw w a b l S Q=>a l S λx aa=>j8 x aa (Q (.bool true)) (λaa=>b l aa Q))
  (cmp:=λop w w a b l S Q=>a l S λx aa=>b l aa λy af=>fX af Q op x y)
  (cmp2:=λqG qH w w w a b d l S Q=>a l S λx aa=>b l aa λy af=>fc x λi=>fc y λj=>iM qG i j λt=>AZ t (d l af λu aL=>fX aL Q qH (.int j) u) (Q (.bool false) af))
  (ife:=λw w w t a b l S Q=>t l S λx aa=>j8 x aa (λaa=>a l aa Q) (λaa=>b l aa Q))
  (tup:=λw es l S Q=>es l S λds aa=>cY ds λds=>vg ds=true/\Q (.tup ds) aa)
  (lst:=λw es l S Q=>es l S λds aa=>cY ds λds=>ds.length<=1000/\dM aa Q (.list ds))
  (dnilI:=λw S Q=>dM S Q (.dr []))
  (dnilS:=λw S Q=>dM S Q (.bD [] 0))
  (attr:=λw f e l S Q=>e l S λd aa=>AX aa Q d f)
  (idx:=λw w a i l S Q=>a l S λx aa=>i l aa λy af=>qb af Q x y)
  (slc:=λw w w a lo hi l S Q=>a l S λx aa=>lo l aa λy af=>hi l af λz aL=>GK aL Q x y z)
  (slcL:=λw w a lo l S Q=>a l S λx aa=>lo l aa λy af=>yT af Q x y)
  (slcH:=λw w a hi l S Q=>a l S λx aa=>hi l aa λz af=>vj af Q x z)
  (call:=λf w es l S Q=>es l S λds aa=>cY ds λds=>aT G lv f ds aa Q)
  (new:=λc w es l S Q=>es l S λds aa=>cY ds λds=>1<=lv.n/\aT G ⟨lv.n-1,lv.hn⟩ (ma c) (.ref (aa.length+1)::ds) (aa++[.aA c [],.bc c aa.length]) λr af=>r=.none/\Q (.ref (aa.length+1)) af)
  (meth:=λw m w e es l S Q=>e l S λd aa=>nJ aa d m λf x=>es l aa λds af=>cY ds λds=>aT G lv f (.ref x::ds) af Q)
  (mcall:=λw m w e es l S Q=>e l S λd aa=>nI aa d m (es l aa λds af=>cY ds λds=>uM af Q lv d m ds))
  (bi:=λb w es l S Q=>es l S λds aa=>cY ds λds=>i3 aa Q lv b ds)
  (comp:=λw n tup k w w fj its gG l S Q=>its l S λd aa=>md aa lv k d λaC=>aC.items.length<=1000000/\lj (LK gG fj n tup l) aC aC.items [] aa λrs af=>dM af Q (.list rs))
  (nil:=λw S Q=>Q (.tup []) S)
  (cons:=λw w e r l S Q=>e l S λd aa=>r l aa λds af=>cY ds λds=>Q (.tup (d::ds)) af) e
def qy(G:GX)(lv:Lv)(k:IK)(its:T)(l:a9)(S:St)(K:b9->St->Prop):Prop:=aO G lv its l S λd aa=>md aa lv k d λaC=>K aC aa
noncomputable def d8:List Nat->List PV->a9->a9
 | i::is,d::ds,l=>d8 is ds (l.set i (some d))
 | _,_,l=>l
def fJ(is:List Nat)(tup:Bool)(d:PV)(l:a9)(k:a9->Prop):Prop:=match tup with
 | true=>cY d λds=>ds.length=is.length/\k (d8 is ds l)
 | false=>∃i,is=[i]/\k (l.set i (some d))
def gp(r:a9->St->(Fl->a9->St->Prop)->Prop)(Q:Fl->a9->St->Prop)(f:Fl)(l:a9)(S:St):Prop:=match f with
 | .next=>r l S Q
 | .ret d=>Q (.ret d) l S
noncomputable def bI(G:GX)(lv:Lv)(st:P):a9->St->(Fl->a9->St->Prop)->Prop :=
 P.rec (motive:=λz=>a9->St->(Fl->a9->St->Prop)->Prop)
  (asg:=λi e l S Q=>aO G lv e l S λd aa=>Q .next (l.set i (some d)) aa)
  (asgT:=λis es l S Q=>aO G lv es l S λds aa=>cY ds λds=>vg ds=true/\ds.length=is.length/\Q .next (d8 is ds l) aa)
  (asgU:=λis e l S Q=>aO G lv e l S λd aa=>cY d λds=>ds.length=is.length/\Q .next (d8 is ds l) aa)
  (sattr:=λo f v l S Q=>aO G lv v l S λd aa=>aO G lv o l aa λx af=>rV af x f d (Q .next l))
  (sidx:=λo i v l S Q=>aO G lv v l S λd aa=>aO G lv o l aa λx af=>aO G lv i l af λk aL=>AY aL x k d (Q .next l))
  (ret:=λe l S Q=>aO G lv e l S λd aa=>Q (.ret d) l aa)
  (ret0:=λl S Q=>Q (.ret .none) l S)
  (iff:=λt z z a b l S Q=>aO G lv t l S λx aa=>j8 x aa (λaa=>a l aa Q) (λaa=>b l aa Q))
  (whil:=λt z b l S Q=>∃(I:Nat->a9->St->Prop) (n:Nat),I n l S/\∀n l' S',I n l' S'->aO G lv t l' S' λx aa=>j8 x aa
   (λaa=>b l' aa (gp (λl₂ af z=>∃bN aL,gA S l₂ af bN aL/\∃m,m<n/\I m bN aL) Q)) (Q .next l'))
  (forr:=λis tup k its z b l S Q=>qy G lv k its l S λaC aa=>∃I:Nat->a9->St->Prop,I 0 l aa/\(∀k l' S',I k l' S'->aC.nh S') /\
   (∀k l' S' d,I k l' S'->aC.items[k]? =some d->fJ is tup d l' λl₁=>b l₁ S' (gp (λl₂ af z=>∃bN aL,gA aa l₂ af bN aL/\I (k+1) bN aL) Q)) /\
   ∀l' S',I aC.items.length l' S'->Q .next l' S')
  (expr:=λe l S Q=>aO G lv e l S λz aa=>Q .next l aa)
  (pass:=λl S Q=>Q .next l S)
  (dead:=λz z z=>False)
  (nil:=λl S Q=>Q .next l S)
  (cons:=λz z st r l S Q=>st l S (gp r Q)) st
section
variable {K:Fl->a9->St->Prop} {a b d t e r es its gG fj:T}
theorem agO{K:Bool->Prop}:fU (.bool x) K=K x:=rfl
theorem agP{K:Int->Prop}:fc (.int x) K=K x:=rfl
theorem agQ{K:List PV->Prop}:cY (.tup x) K=K x:=rfl
theorem agR{K:Nat->Prop}:fg (.ref x) K=K x:=rfl
theorem agS{K:PV->Prop}:sQ [x] K=K x:=rfl
theorem agT{K:PV->PV->Prop}:Ka [x,y] K=K x y:=rfl
theorem ZG:aO G lv (.lit (.int i)) l S Q=Q (.int i) S:=rfl
theorem af8:aO G lv (.lit (.str i)) l S Q=Q (.str i) S:=rfl
theorem af9:aO G lv (.lit (.bytes i)) l S Q=Q (.bytes i) S:=rfl
theorem ZH:aO G lv (.lit (.bool i)) l S Q=Q (.bool i) S:=rfl
theorem aga:aO G lv (.lit .none) l S Q=Q .none S:=rfl
def WK(o:Option (Option PV))(S:St)(Q:PV->St->Prop):Prop:=match o with
 | some (some d)=>Q d S
 | _=>False
theorem agb:aO G lv (.loc i) l S Q=WK l[i]? S Q:=rfl
theorem agc{d:PV}:WK (some (some d)) S Q=Q d S:=rfl
theorem ZI:aO G lv (.bin op a b) l S Q=aO G lv a l S λx aa=>aO G lv b l aa λy af=>rU af Q op x y:=rfl
theorem ZJ:aO G lv (.not a) l S Q=aO G lv a l S λx aa=>fU x λt=>Q (.bool (!t)) aa:=rfl
theorem agd:aO G lv (.neg n) l S Q=Q (.int (-n)) S:=rfl
theorem SJ:aO G lv (.and a b) l S Q=aO G lv a l S λx aa=>j8 x aa (λaa=>aO G lv b l aa Q) (Q (.bool false)):=rfl
theorem WL:aO G lv (.or a b) l S Q=aO G lv a l S λx aa=>j8 x aa (Q (.bool true)) λaa=>aO G lv b l aa Q:=rfl
theorem SM:aO G lv (.cmp op a b) l S Q=aO G lv a l S λx aa=>aO G lv b l aa λy af=>fX af Q op x y:=rfl
theorem Nv:aO G lv (.cmp2 tA Dn a b d) l S Q=aO G lv a l S λx aa=>aO G lv b l aa λy af=>fc x λi=>fc y λj=>iM tA i j λt=>j8 (.bool t) af (λaf=>aO G lv d l af λu aL=>fX aL Q Dn (.int j) u) (Q (.bool false)):=rfl
theorem ZK:aO G lv (.ife t a b) l S Q=aO G lv t l S λx aa=>j8 x aa (λaa=>aO G lv a l aa Q) λaa=>aO G lv b l aa Q:=rfl
theorem ZL:aO G lv (.tup es) l S Q=aO G lv es l S λds aa=>cY ds λds=>vg ds=true/\Q (.tup ds) aa:=rfl
theorem ZM:aO G lv (.lst es) l S Q=aO G lv es l S λds aa=>cY ds λds=>ds.length<=1000/\dM aa Q (.list ds):=rfl
theorem adz:aO G lv .dnilI l S Q=dM S Q (.dr []):=rfl
theorem adA:aO G lv .dnilS l S Q=dM S Q (.bD [] 0):=rfl
theorem WM:aO G lv (.attr a f) l S Q=aO G lv a l S λd aa=>AX aa Q d f:=rfl
theorem ZN:aO G lv (.idx a b) l S Q=aO G lv a l S λx aa=>aO G lv b l aa λy af=>qb af Q x y:=rfl
theorem ZO:aO G lv (.slc a b d) l S Q=aO G lv a l S λx aa=>aO G lv b l aa λy af=>aO G lv d l af λz aL=>GK aL Q x y z:=rfl
theorem WN:aO G lv (.slcL a b) l S Q=aO G lv a l S λx aa=>aO G lv b l aa λy af=>yT af Q x y:=rfl
theorem WO:aO G lv (.slcH a b) l S Q=aO G lv a l S λx aa=>aO G lv b l aa λy af=>vj af Q x y:=rfl
theorem WQ:aO G lv (.call f es) l S Q=aO G lv es l S λds aa=>cY ds λds=>aT G lv f ds aa Q:=rfl
theorem ZP:aO G lv (.new c es) l S Q=aO G lv es l S λds aa=>cY ds λds=>1<=lv.n/\aT G ⟨lv.n-1,lv.hn⟩ (ma c) (.ref (aa.length+1)::ds) (aa++[.aA c [],.bc c aa.length]) λr af=>r=.none/\Q (.ref (aa.length+1)) af:=rfl
theorem WR:aO G lv (.meth a m es) l S Q=aO G lv a l S λd aa=>nJ aa d m λf x=>aO G lv es l aa λds af=>cY ds λds=>aT G lv f (.ref x::ds) af Q:=rfl
theorem Uq:aO G lv (.mcall a m es) l S Q=aO G lv a l S λd aa=>nI aa d m (aO G lv es l aa λds af=>cY ds λds=>uM af Q lv d m ds):=rfl
theorem Qh:aO G lv (.bi m es) l S Q=aO G lv es l S λds aa=>cY ds λds=>i3 aa Q lv m ds:=rfl
theorem GN:aO G lv (.comp fj n tup k its gG) l S Q=qy G lv k its l S λaC aa=>aC.items.length<=1000000/\lj (LK (aO G lv gG) (aO G lv fj) n tup l) aC aC.items [] aa λrs af=>dM af Q (.list rs):=rfl
theorem age:aO G lv .nil l S Q=Q (.tup []) S:=rfl
theorem WS:aO G lv (.cons e r) l S Q=aO G lv e l S λd aa=>aO G lv r l aa λds af=>cY ds λds=>Q (.tup (d::ds)) af:=rfl
theorem acj{KK:b9->St->Prop}:qy G lv .ex its l S KK=aO G lv its l S λd aa=>qI aa lv d λaC=>KK aC aa:=rfl
theorem w_i{KK:b9->St->Prop}:qy G lv k its l S KK=aO G lv its l S λd aa=>md aa lv k d λaC=>KK aC aa:=rfl
theorem ZQ:bI G lv (.asg i e) l S K=aO G lv e l S λd aa=>K .next (l.set i (some d)) aa:=rfl
theorem WT:bI G lv (.asgT is es) l S K=aO G lv es l S λds aa=>cY ds λds=>vg ds=true/\ds.length=is.length/\K .next (d8 is ds l) aa:=rfl
theorem WU:bI G lv (.asgU is e) l S K=aO G lv e l S λd aa=>cY d λds=>ds.length=is.length/\K .next (d8 is ds l) aa:=rfl
theorem Ur:bI G lv (.sattr a f b) l S K=aO G lv b l S λd aa=>aO G lv a l aa λx af=>rV af x f d (K .next l):=rfl
theorem WV:bI G lv (.sidx a b d) l S K=aO G lv d l S λd aa=>aO G lv a l aa λx af=>aO G lv b l af λk aL=>AY aL x k d (K .next l):=rfl
theorem ZR:bI G lv (.ret e) l S K=aO G lv e l S λd aa=>K (.ret d) l aa:=rfl
theorem adM:bI G lv .ret0 l S K=K (.ret .none) l S:=rfl
def WW(G:GX)(lv:Lv)(p:P)(l:a9)(K:Fl->a9->St->Prop)(S:St):Prop:=bI G lv p l S K
theorem ack:bI G lv (.iff t p q) l S K=aO G lv t l S λx aa=>j8 x aa (WW G lv p l K) (WW G lv q l K):=rfl
theorem Kb:bI G lv (.whil t p) l S K=∃(I:Nat->a9->St->Prop) (n:Nat),I n l S/\∀n l' S',I n l' S'->aO G lv t l' S' λx aa=>j8 x aa
   (λaa=>bI G lv p l' aa (gp (λl₂ af z=>∃bN aL,gA S l₂ af bN aL/\∃m,m<n/\I m bN aL) K)) (K .next l'):=rfl
theorem LL:bI G lv (.forr is tup k its p) l S K=qy G lv k its l S λaC aa=>∃I:Nat->a9->St->Prop,I 0 l aa/\(∀k l' S',I k l' S'->aC.nh S') /\
   (∀k l' S' d,I k l' S'->aC.items[k]? =some d->fJ is tup d l' λl₁=>bI G lv p l₁ S' (gp (λl₂ af z=>∃bN aL,gA aa l₂ af bN aL/\I (k+1) bN aL) K)) /\
   ∀l' S',I aC.items.length l' S'->K .next l' S':=rfl
theorem WX:bI G lv (.expr e) l S K=aO G lv e l S λz aa=>K .next l aa:=rfl
theorem adN:bI G lv .dead l S K=False:=rfl
theorem adO:bI G lv .pass l S K=K .next l S:=rfl
theorem agf:bI G lv .nil l S K=K .next l S:=rfl
theorem WY:bI G lv (.cons p q) l S K=bI G lv p l S (gp (bI G lv q) K):=rfl
def Sm(p q:Prop):Prop:=p->q
theorem sm(p:Prop):Sm p p:=id
def Hm(p q:Prop):Prop:=Sm p q->q->p
theorem acm(h:bI G lv p l S K):WW G lv p l K S:=h
theorem WZ{r:a9->St->(Fl->a9->St->Prop)->Prop}(h:r l S K):gp r K .next l S:=h
theorem ZS{r:a9->St->(Fl->a9->St->Prop)->Prop}{d:PV}(h:K (.ret d) l S):gp r K (.ret d) l S:=h
theorem adP{r:a9->St->(Fl->a9->St->Prop)->Prop}:gp r K .next l S=r l S K:=rfl
theorem agg{r:a9->St->(Fl->a9->St->Prop)->Prop}{d:PV}:gp r K (.ret d) l S=K (.ret d) l S:=rfl
end
theorem VI.Kc(t:Tok)(e:a.toList=b):VI ρ h (.bytes a t) (.bytes b):=by subst e;exact⟨t,rfl⟩
section
theorem VI.int(i:Int)(t:Tok):VI ρ h (.int i t) (.int i):=⟨t,rfl⟩
theorem VI.str(i:Str)(t:Tok):VI ρ h (.str i t) (.str i):=⟨t,rfl⟩
theorem VI.bytes(b:List UInt8)(t:Tok):VI ρ h (.bytes b.toArray t) (.bytes b):=⟨t,rfl⟩
theorem VI.bool(b:Bool):VI ρ h (.bool b) (.bool b):=rfl
theorem VI.none:VI ρ h .none .none:=rfl
theorem VI.ref(e:ρ[i]? =some a):VI ρ h (.ref a) (.ref i):=⟨a,e,rfl⟩
theorem VI.tup(e:h.get? a=some (ee vs n))(r:L2 (VA ρ) vs ds):VI ρ h (.ref a) (.tup ds):=⟨a,vs,n,rfl,e,r⟩
theorem VA.vi(x:VA ρ v d):VI ρ h v d:=by cases d<;>first | exact x | exact False.elim x
theorem VI.va(x:VI ρ h v d)(n:LJ d=true):VA ρ v d:=by cases d<;>first | exact x | cases n
end
theorem Nw(x:Str)(n:Int)(h0:1<=n)(h3:n<=3)(h:x.cps.size=1):Txt.mul x n=⟨(List.replicate n.toNat (x.cps.getD 0 0)).toArray⟩/\MulOk x n:=by
 have hl:x.length=1:=h;obtain⟨⟨l⟩⟩:=x;obtain⟨c,rfl⟩:=Cu.mp (show l.length=1 from h);obtain hk:n=1∨n=2∨n=3:=by lia
 unfold MulOk;rw[hl];rcases hk with rfl | rfl | rfl<;>exact⟨rfl,by decide,λz z=>by decide,λz z=>by decide +kernel⟩
theorem SN:sizeLine=sz:=dQ
section
variable {G:GX} {c:Cx} {s:Shared}
theorem aG.list(R:aG G c s.heap ρ l S){i:Nat}{a:Addr}{ds:List PV}(ha:ρ[i]? =some a)(e:S[i]? =some (.list ds)):∃vs,s.heap.IsList a vs.toArray/\c5 ρ s.heap vs ds:=by
 obtain⟨vs,n,ho,hv⟩:=R.aX.at_ _ _ _ ha e;exact⟨vs,⟨_,ho,rfl,n,rfl⟩,hv⟩
theorem Ny{K:Int->Prop}(h:iL op a b K)(k:∀i t tk,K i->QQ (.int i t) {s with toks:=tk}):wpAny G.M c.A (binaryOp op (.int a t) (.int b t')) QQ E s:=by
 cases op with
 | Add=>exact add_int (k _ _ _ h)
 | Sub=>exact sub_int (k _ _ _ h)
 | Mult=>exact mul_int (k _ _ _ h.2.2) (IntMulOk.of_left (intBits_le h.1))
 | FloorDiv=>exact floordiv_int (hp:=.inl (PyProof.noPylong_small (by obtain this:=h.1;obtain this:=h.2.1;lia))) (Int.ne_of_gt h.1) (k _ _ _ (Int.fdiv_eq_ediv_of_nonneg a (yK h.1)▸h.2.2))
 | Mod=>exact mod_int' (Int.ne_of_gt h.1) (k _ _ _ (Int.fmod_eq_emod_of_nonneg a (yK h.1)▸h.2))
 | Pow=>exact pow_int_small h.1 (by have:=h.2.1;exact j6 0xccc3008fa4d0102ac6423a8b this) h.2.2.1 (k _ _ _ h.2.2.2)
 | LShift=>exact lshift_int_small h.1 (by have:=h.2.1;exact j6 0xccc3008fa4d0102ac6423a8b this) h.2.2.1 (k _ _ _ h.2.2.2)
 | RShift=>exact rshift_int h.1 (k _ _ _ (Int.fdiv_eq_ediv_of_nonneg a (yK (kbt_pos _))▸h.2))
 | BitXor=>exact xor_int (k _ _ _ h)
 | BitAnd=>exact and_int (k _ _ _ h)
 | _=>exact h.elim
theorem Us{op:Operator}(V:VI ρ s.heap v x)(U:VI ρ s.heap u y)(h:rU S Q op x y):TR G c (binaryOp op v u) ρ l S s Q:=by
 intro QQ E R K;cases x with
 | int a =>
  refine ak (dg (K:=λb=>iL op a b λc=>Q (.int c) S) h) λb dc h1=>?_;obtain rfl:=dc;obtain⟨t,rfl⟩:=V;obtain⟨t',rfl⟩:=U;exact Ny h1 λi t tk q=>K.same R (.int i) ⟨_,rfl⟩ q
 | bytes a =>
  obtain⟨t,rfl⟩:=V;cases y with
  | bytes b =>
   obtain⟨t',rfl⟩:=U;obtain⟨rfl,h1,h⟩:=h;exact KBy.add_bytes (by rw[cu,cu];exact h1) λt' k=>K.same R (.bytes _) (VI.Kc _ (by rw[Array.toList_append])) h
  | int n =>
   obtain⟨t',rfl⟩:=U;obtain⟨rfl,h1,h2,h3,h4,h⟩:=h;exact bytes_mul_any h1 (mX (by decide) h2) h3 h4 λt' k=>K.same R (.bytes _) ⟨_,rfl⟩ h
  | _=>exact h.elim
 | str a =>
  obtain⟨t,rfl⟩:=V;cases y with
  | str b =>
   obtain⟨t',rfl⟩:=U;obtain⟨rfl,h1,h⟩:=h;exact add_str (λt' k=>K.same R (.str _) ⟨_,rfl⟩ h) (by rw[SN];exact h1)
  | int n =>
   obtain⟨t',rfl⟩:=U;obtain⟨rfl,h1,h2,h3,h⟩:=h;obtain⟨e,m⟩:=Nw a n h2 h3 h1;exact SB.mul m λt' k=>K.same R (.str _) ⟨_,rfl⟩ (e▸h)
  | _=>exact h.elim
 | ref i =>
  refine ak V λa ha dn=>?_;obtain rfl:=dn;refine xE R.gz λm hm=>?_;cases y with
  | int n =>
   obtain⟨t',rfl⟩:=U;obtain⟨rfl,rfl,z,e,h⟩:=h;obtain⟨vs,hl,hv⟩:=R.list ha e;obtain⟨v0,rfl,t0,rfl⟩:=hv.vc;refine KMa.mul ⟨hm,R.keep,R.above⟩ R.news hl (by decide) (by decide) (show 4<=256 by decide) (ws:=[.int z t0,.int z t0,.int z t0,.int z t0]) rfl λD h' F' N' hD=>?_;exact K.new R (R.rS hm F' N' λp hp=>.tail _ hp) (R.fresh N' hD) (.list _) ⟨_,_,N'.get (.head _),.cons (.int _ _) (.cons (.int _ _) (.cons (.int _ _) (.cons (.int _ _) .nil)))⟩ h
  | ref j =>
   refine ak U λb hb dX=>?_;obtain rfl:=dX;obtain⟨rfl,ds,es,e1,e2,hz,h⟩:=h;obtain⟨vs,hl,hv⟩:=R.list ha e1;obtain⟨ws,wO,hw⟩:=R.list hb e2;refine kmk_add_lit ⟨hm,R.keep,R.above⟩ R.news hl wO rfl (λD h' F' N' hD=>?_) (by show vs.length+ws.length<=_;rw[L2.len hv,L2.len hw,SN];exact ab hz (by decide));have gr:=R.rS hm F' N' λp hp=>.tail _ hp;obtain tk:=R.jU gr;exact K.new R gr (R.fresh N' hD) (.list _) ⟨_,_,N'.get (.head _),L2.append (hv.mono ⟨_,rfl⟩ tk) (hw.mono ⟨_,rfl⟩ tk)⟩ h
  | _=>exact h.elim
 | _=>exact h.elim
end
noncomputable def cK.data:cK->PyData
 | .i n=>.int n
 | .s x=>.str x
 | .r x n=>.tuple [.str x,.int n]
theorem cK.Nz{a:cK}(h:a.ok=true):a.data.canLay0=true/\a.data.depth<=3:=by
 cases a with
 | i n=>exact⟨rfl,bM _⟩
 | s x=>exact⟨h,bM _⟩
 | r x n=>exact⟨cG.mpr ⟨h,rfl⟩,show 1<=3 by decide⟩
theorem cK.W0{as:List cK}(h:as.all cK.ok=true):PyData.canLayAll0 (as.map cK.data)=true/\PyData.depthAll (as.map cK.data)<=3:=by
 induction as with
 | nil=>exact⟨rfl,bM _⟩
 | cons a as ih =>
  rw[List.all_cons,jc]at h;obtain h1:=cK.Nz h.1;obtain h2:=ih h.2;exact⟨cG.mpr ⟨h1.1,h2.1⟩,Nat.max_le.mpr ⟨h1.2,h2.2⟩⟩
theorem cK.eqv(a b:cK):PyData.eqv a.data b.data=decide (a=b):=by
 cases a<;>cases b<;>simp[cK.data,PyData.eqv,PyData.eqvAll]
 all_goals (rw[ur];simp)
theorem cK.eqvAll(as bs:List cK):PyData.eqvAll (as.map cK.data) (bs.map cK.data)=decide (as=bs):=by
 induction as generalizing bs with
 | nil=>cases bs with
  | nil=>rfl
  | cons=>exact(c9 (λq=>nomatch q)).symm
 | cons a as ih =>
  cases bs with
  | nil=>exact(c9 (λq=>nomatch q)).symm
  | cons b bs =>
   rw[eC,eC,PyData.eqvAll,cK.eqv,ih,<-Bool.decide_and];exact oC.mpr ue.symm
theorem cK.any(as:List cK)(a:cK):((as.map cK.data).any λy=>PyData.eqv y a.data)=decide (a∈as):=by
 induction as with
 | nil=>rfl
 | cons b as ih =>
  rw[eC,uy,ih,cK.eqv,<-Bool.decide_or];exact oC.mpr ((or_congr_left eq_comm).trans bK.symm)
section
theorem cK.reads{a:cK}(x:VI ρ h v a.pv):∃as,Reads h v a.data as:=by
 cases a with
 | i n=>obtain⟨t,rfl⟩:=x;exact⟨_,.int n t⟩
 | s y=>obtain⟨t,rfl⟩:=x;exact⟨_,.str y t⟩
 | r y n =>
  refine fz x λa vs k dc ho hv=>?_;obtain rfl:=dc;refine Nc hv.tx λz z dn dX t' fB=>?_;obtain rfl:=dn;obtain⟨t,rfl⟩:=dX;obtain rfl:=fB;exact⟨_,reads_tuple_at ho rfl rfl (yv (.str y t) (yv (.int n t') .nil))⟩
theorem cK.Qi{as:List cK}:∀{vs:List Value},c5 ρ h vs (as.map cK.pv)->∃bs,ReadsAll h vs (as.map cK.data) bs:=by
 induction as with
 | nil=>exact λx=>by rw[L2.GC x];exact⟨_,.nil⟩
 | cons a as ih =>
  intro vs x;apply yP (L2.Gj x);intro v vs p r;refine xE (ih r) λbs q=>?_;refine xE (cK.reads p) λcs w=>?_;exact⟨_,.cons w q⟩
section
variable {K:Type} [DecidableEq K] {es:List (K×PV)}
theorem KR.any(x:L2 (KR ρ h) kvs es)(k:K):kvs.any (λp=>p.1=k)=es.any λp=>p.1=k:=by
 induction x with
 | nil=>rfl
 | cons y _ ih=>rw[uy,uy,ih,y.1]
theorem Kd(a:K×V)(es:List (K×V))(k:K):lk (a::es) k=if a.1=k then some a.2 else lk es k:=by
 unfold lk;rw[uq];by_cases q:a.1=k
 ·rw[au q,cH q];rfl
 ·rw[ai q,c9 q]
theorem KR.ky(x:L2 (KR ρ h) kvs es){k:K}{d:PV}:lk es k=some d->∃v,valueAt kvs k=some v/\VI ρ h v d:=by
 induction x with
 | nil=>exact λe=>nomatch e
 | @cons p q ps qs y _ ih =>
  intro e;rw[Kd]at e;by_cases hk:q.1=k
  ·rw[au hk]at e;cases e;exact⟨_,by unfold valueAt;rw[uq,cH (y.1.trans hk)];rfl,y.2⟩
  ·rw[ai hk]at e;refine ak (ih e) λv h4 h5=>?_;exact⟨v,by unfold valueAt at h4 ⊢;rw[uq,c9 (λz=>hk (y.1.symm.trans z))];exact h4,h5⟩
theorem KR.map(x:L2 (KR ρ h) kvs es){k:K}{v:Value}{d:PV}(y:VI ρ h v d) :
  L2 (KR ρ h) (kvs.map λp=>if p.1=k then(p.1,v)else p) (es.map λp=>if p.1=k then(p.1,d)else p):=by
 induction x with
 | nil=>exact .nil
 | @cons p q _ _ z _ ih =>
  refine .cons ?_ ih;by_cases hk:p.1=k
  ·show KR ρ h (if p.1=k then(p.1,v)else p) (if q.1=k then(q.1,d)else q)
   rw[au hk,au (z.1▸hk)];exact⟨z.1,y⟩
  ·show KR ρ h (if p.1=k then(p.1,v)else p) (if q.1=k then(q.1,d)else q)
   rw[ai hk,ai (z.1▸hk)];exact z
theorem KR.stored(x:L2 (KR ρ h) kvs es){k:K}{v:Value}{d:PV}(y:VI ρ h v d):L2 (KR ρ h) (PySem.stored kvs k v) (put es k d):=by
 unfold PySem.stored put;rw[KR.any x k];by_cases hb:(es.any λp=>decide (p.1=k))=true
 ·rw[au hb,au hb];exact KR.map x y
 ·rw[ai hb,ai hb];exact x.append (.cons ⟨rfl,y⟩ .nil)
end
end
theorem NA(x y:Str):(x==y)=decide (x=y):=by rw[ur,oJ,jT]
theorem W2(x y:Int):(x != y)=decide (x≠y):=by rw[ur,bne_iff_ne,jT]
theorem W3(h1:k<=64)(hu:u<=9000):u+k<cLine:=a6 (Nat.add_le_add hu h1) (by decide)
theorem LM(h1:k<=3)(hu:u<=9000):u+1+min k j<cLine:=a6 (Nat.add_le_add (Nat.add_le_add_right hu 1) (ab (iI _ _) h1)) (by decide)
section
variable {G:GX} {c:Cx} {s:Shared}
theorem aG.rows(R:aG G c s.heap ρ l S){i:Nat}{a:Addr}{P:List cK->Prop}(ha:ρ[i]? =some a)(e:ku S i P) :
  ∃(as:List cK) (bs:_),Reads s.heap (.ref a) (.list (as.map cK.data)) bs/\P as/\PyData.canLayAll0 (as.map cK.data)=true/\PyData.depthAll (as.map cK.data)<=3:=by
 refine dY e λas e ok p=>?_;refine cq (R.aX.at_ _ _ _ ha e) λvs n ho hv=>?_;refine xE (cK.Qi hv) λbs q=>?_;exact⟨as,_,reads_list_at ho rfl rfl q,p,cK.W0 ok⟩
theorem NB{K:Bool->Prop}(h:iM op a b K)(k:∀b tk,K b->QQ (.bool b) {s with toks:=tk}):wpAny G.M c.A (compareOp op (.int a t) (.int b t')) QQ E s:=by
 cases op with
 | Lt=>exact lt_int (k _ _ h)
 | LtE=>exact le_int (k _ _ h)
 | Gt=>exact gt_int (k _ _ h)
 | GtE=>exact ge_int (k _ _ h)
 | Eq=>exact eq_int (k _ _ h)
 | NotEq=>exact ne_int (k _ _ (W2 a b▸h))
 | _=>exact h.elim
theorem GO(hu:c.A.units<=9000)(V:VI ρ s.heap v x)(ha:ρ[i]? =some a)(h:EH S Q op x i):TR G c (compareOp op v (.ref a)) ρ l S s Q:=by
 intro QQ E R K;cases op with
 | In =>
  obtain⟨r,rfl,hr,h⟩:=h;obtain⟨as,bs,hR,h,h1⟩:=R.rows ha h;refine xE (cK.reads V) λcs r'=>?_;obtain h2:=cK.Nz hr;refine SeqAt.in_list_reads hR r' h1.1 h2.1 (LM h1.2 hu) (K.same R (.bool _) (VI.bool _) ?_);rw[cK.any];exact h
 | NotIn =>
  rcases h with⟨j,es,rfl,e,h⟩ | ⟨r,rfl,hr,h⟩
  ·obtain⟨t,rfl⟩:=V;refine dY (R.aX.at_ _ _ _ ha e) λkvs hd hk lo=>?_;refine wpAny_notIn_of (uF _ _ _ _) lo hd.mapOf (K.same R (.bool _) (VI.bool _) ?_);rw[valueAt_isSome_eq_any,KR.any hk];exact h
  ·refine dH (R.rows ha h) λas bs hR h h1=>?_;refine xE (cK.reads V) λcs r'=>?_;have h2:=cK.Nz hr;refine SeqAt.notIn_list_reads hR r' h1.1 h2.1 (LM h1.2 hu) (K.same R (.bool _) (VI.bool _) ?_);rw[cK.any];exact h
 | _=>exact h.elim
theorem sR{as:List cK}(h1:PyData.canLayAll0 (as.map cK.data)=true/\PyData.depthAll (as.map cK.data)<=3):SeqAt.shaped (.list (as.map cK.data))=true:=cG.mpr ⟨h1.1,cH (ab (uh h1.2) (by decide))⟩
theorem rG{v u:Value}(hu:c.A.units<=9000)(V:VI ρ s.heap v x)(U:VI ρ s.heap u y)(h:fX S Q op x y):TR G c (compareOp op v u) ρ l S s Q:=by
 intro QQ E R K;cases x with
 | int a =>
  have Qj:=V;obtain⟨t,rfl⟩:=V;cases y with
  | int b =>
   obtain⟨t',rfl⟩:=U;exact NB (K:=λb=>Q (.bool b) S) h λb tk q=>K.same R (.bool b) (VI.bool _) q
  | none =>
   obtain rfl:=U;rcases h with h | ⟨rfl,h⟩
   ·cases op with
    | Is=>exact is_int_none (K.same R (.bool _) (VI.bool _) h)
    | IsNot=>exact isnot_int_none (K.same R (.bool _) (VI.bool _) h)
    | _=>exact h.elim
   ·exact EqNone.ne_int_none (K.same R (.bool _) (VI.bool _) h)
  | tup ds =>
   obtain⟨rfl,h⟩:=h;refine cq (AW h) λp q kz h=>?_;obtain rfl:=kz;refine ak (dg h) λp wQ h=>?_;obtain rfl:=wQ;refine ak (dg h) λq kA h=>?_;obtain rfl:=kA;refine fz U λb vs k wR ho hv=>?_;obtain rfl:=wR;refine Nc hv.tx λz z rW Qk t2 acn=>?_;obtain rfl:=rW;obtain⟨t1,rfl⟩:=Qk;obtain rfl:=acn;refine SeqAt.notIn_tuple_reads (reads_tuple_at ho rfl rfl (yv (.int _ _) (yv (.int _ _) .nil))) (.int _ _) rfl rfl (LM (bM _) hu) (K.same R (.bool _) (VI.bool _) ?_);obtain e1:∀p q:Int,(p==q)=decide (q=p):=λp q=>by rw[ur,oJ,jT];exact eq_comm
   show Q (.bool (!((p==a)||((q==a)||false)))) S;rw[Bool.or_false,e1,e1];exact h
  | ref i =>
   refine ak U λb hb GP=>?_;obtain rfl:=GP;exact GO hu Qj hb h _ _ R K
  | _=>exact h.elim
 | str a =>
  have Qj:=V;obtain⟨t,rfl⟩:=V;cases y with
  | str b =>
   obtain⟨t',rfl⟩:=U;cases op with
   | Eq=>exact eq_str (K.same R (.bool _) (VI.bool _) (NA a b▸h))
   | NotEq=>exact ne_str (K.same R (.bool _) (VI.bool _) (by rw[bne,NA];exact h))
   | _=>exact h.elim
  | ref i =>
   refine ak U λb hb zS=>?_;obtain rfl:=zS;exact GO hu Qj hb h _ _ R K
  | _=>exact h.elim
 | none =>
  obtain rfl:=V;cases y with
  | none =>
   obtain rfl:=U;cases op with
   | Is=>exact is_none_none (K.same R (.bool _) (VI.bool _) h)
   | IsNot=>exact isnot_none_none (K.same R (.bool _) (VI.bool _) h)
   | _=>exact h.elim
  | int b =>
   obtain⟨t',rfl⟩:=U;obtain⟨rfl,h⟩:=h;exact EqNone.ne_none_int (K.same R (.bool _) (VI.bool _) h)
  | _=>exact h.elim
 | bytes b =>
  obtain⟨t,rfl⟩:=V;obtain⟨rfl,h⟩:=h;obtain rfl:=U;cases op with
  | Is=>exact is_bytes_none (K.same R (.bool _) (VI.bool _) h)
  | IsNot=>exact isnot_bytes_none (K.same R (.bool _) (VI.bool _) h)
  | _=>exact h.elim
 | tup ds =>
  refine ak (dy h) λi GQ h=>?_;obtain rfl:=GQ;refine ak U λb hb GR=>?_;obtain rfl:=GR;exact GO hu V hb h _ _ R K
 | ref i =>
  refine ak (dy h) λj Ql h=>?_;obtain rfl:=Ql;refine ak V λa ha Qm=>?_;obtain rfl:=Qm;refine ak U λb hb GS=>?_;obtain rfl:=GS;refine dH (R.rows ha h) λas cs r h h1=>?_;refine dH (R.rows hb h) λbs ds r' h h2=>?_;cases op with
  | Eq =>
   refine eq_dataH r r' (sR h1) (sR h2) (W3 (aB _) hu) (K.same R (.bool _) (VI.bool _) ?_);rw[PyData.eqv,cK.eqvAll];exact h
  | NotEq =>
   refine ne_dataH r r' (sR h1) (sR h2) (W3 (aB _) hu) (K.same R (.bool _) (VI.bool _) ?_);rw[PyData.eqv,cK.eqvAll];exact h
  | _=>exact h.elim
 | _=>exact h.elim
end
noncomputable def oR(k:Nat)(e:Expr):Bool:=e.ctorIdx != k
noncomputable abbrev rX:Expr->Bool:=oR 26
theorem iV{e:Expr}(h:rX e=true)(o i:Value):subscripted e false o i=operate [o,i] (getItem o i):=by
 cases e<;>first | rfl | cases h
theorem toNat_lt{k:Int}(h:k.toNat<n)(h0:0<=k):k<n:=by rw[<- gX h0];exact Int.ofNat_lt.mpr h
theorem LN{k:Int}(h0:0<=k){n:Nat}(h:k.toNat<n)(hn:n<=sz): -0x8000000000000000<=k/\k<0x8000000000000000:=by obtain this:=toNat_lt h h0;exact⟨j6 80603103015728175 h0,wb 0x43cc323072b10eb434a3403 hn this⟩
theorem ND{k:Int}(h0:0<=k)(h:k.toNat<n):seqIndex? k n=some k.toNat:=by
 unfold seqIndex?;rw[ai (Int.not_lt.mpr h0)];dsimp only;rw[cH h0,cH (toNat_lt h h0)];rfl
section
theorem Ut{e ie:Expr}{t:Tok}(hn:rX ie=true)(V:VI ρ s.heap v x)(h:WJ S Q x k):TR G c (subscriptTail e ie v (.int k t)) ρ l S s Q:=by
 intro QQ E R K;cases x with
 | tup ds =>
  refine u9 h λx h0 hl hx h=>?_;refine fz V λa vs n dc ho hv=>?_;obtain rfl:=dc;refine ak (hv.get hx) λw hw W=>?_;obtain bz:=(bP.mp hw).1;obtain av:=hv.len;exact k0 (T:="tuple") ⟨_,ho,rfl⟩ slot_tuple_getitem.lookup (getItem_tuple ⟨_,ho,rfl,_,rfl⟩ (LN h0 (n:=vs.length) bz (ag 0x1e952c7f16b697909cb hl av)).1 (LN h0 (n:=vs.length) bz (ag 0x1e952c7f16b697909cb hl av)).2 (j:=k.toNat) (ND h0 bz) (by rw[nD];exact hw) (K.same R _ W.vi h)) (iV hn _ _)
 | bytes b =>
  refine u9 h λx h0 hl hx h=>?_;obtain⟨t,rfl⟩:=V;obtain bz:=(bP.mp hx).1;refine k0 (T:="bytes") (typeIs_bytes _ _ _) CA.lookup (getItem_bytes (ab hl (by decide)) h0 (toNat_lt bz h0) (K.same R (.int x.toNat) ?_ h)) (iV hn _ _);rw[show b.getD k.toNat 0=x from by rw[pD,hx];rfl];exact⟨_,rfl⟩
 | str b =>
  refine Gw h λx h0 hl hx h1 h=>?_;obtain⟨t,rfl⟩:=V;have bz:=(Cm.mp hx).1;obtain hf:=LN h0 bz (ab hl (by decide));exact k0 (T:="str") (typeIs_str _ _ _) slot_str_getitem.lookup (getItem_str (c:=x) (by rw[c9 (by exact j6 88748900782978175 h0),c9 (by exact j6 0xbb87dcaccbc496717 hf.2)];rfl) (by rw[show seqIndex? k b.length=some k.toNat from ND h0 bz];exact hx) (K.same R (.str _) ⟨_,rfl⟩ h)) (iV hn _ _)
 | ref i =>
  refine ak V λa ha dn=>?_;obtain rfl:=dn;rcases h with⟨ds,x,e,hz,hx,h⟩ | ⟨es,x,e,hx,h⟩
  ·refine ak (R.list ha e) λvs hl hv=>?_;obtain av:=L2.len hv;rcases hx with⟨h0,hx⟩ | ⟨rfl,hx⟩
   ·refine ak (L2.get hv hx) λw hw W=>?_;have bz:=toNat_lt (bP.mp hw).1 h0;exact k0 hl.typeIs CH (wpAny_getItem_list hl h0 (l21 0xf6a5793144af5cfb74871d012404a3f hz av bz) (by rw[nD];exact hw) (K.same R _ W h)) (iV hn _ _)
   ·rw[List.getLast?_eq_getElem?]at hx;refine ak (L2.get hv hx) λw hw W=>?_;have bz:=(bP.mp hw).1;refine k0 hl.typeIs CH (wpAny_getItem_list_neg hl (by decide) (by rw[cu];exact ag 80919928575342601 bz) (by decide) ?_ (K.same R _ W h)) (iV hn _ _);rw[show((-1:Int)+(vs.toArray.size:Int)).toNat=ds.length-1 by rw[cu];exact bu (bO 0x423c3efcb0257be3acc9b7ec55cc9d av cP (gX (ag 0x3817a1a003fb92f1 bz))) (az 0x1234bd851650cfda533691 bz (i9 _)),nD];exact hw
  ·refine dY (R.aX.at_ _ _ _ ha e) λkvs hd hk lo=>?_;refine ak (KR.ky hk hx) λw hw W=>?_;exact k0 hd.typeIs slot_dict_getitem.lookup (wpAny_getItem_of (uF _ _ _ _) hd.mapOf hw (K.same R _ W h)) (iV hn _ _)
 | _=>exact h.elim
theorem Uu{e ie:Expr}(hn:rX ie=true)(V:VI ρ s.heap v x)(U:VI ρ s.heap u y)(h:qb S Q x y):TR G c (subscriptTail e ie v u) ρ l S s Q:=by
 cases y with
 | int k=>obtain⟨t,rfl⟩:=U;exact Ut hn V h
 | str k =>
  intro QQ E R K;obtain⟨i,rfl,es,ep,x,e,hx,h⟩:=dy h;obtain⟨t,rfl⟩:=U;refine ak V λa ha dX=>?_;obtain rfl:=dX;refine dY (R.aX.at_ _ _ _ ha e) λkvs lU hk lo=>?_;obtain hd:=lU.dictOf;refine ak (KR.ky hk hx) λw hw W=>?_;exact k0 hd.typeIs slot_dict_getitem.lookup (wpAny_getItem_of (strKind_is _ _ _ _) hd.mapOf hw (K.same R _ W h)) (iV hn _ _)
 | _=>exact False.elim h
theorem jW(n:Nat)(i:Int)(h:0<=i):clipAt n i=min i.toNat n:=by
 obtain this:=clipAt_nat n i.toNat
 rwa [gX h]at this
theorem wU{e:Expr}{b:List UInt8}
  (hb:b.length<=100000) (pl:IsPart wV SO) (pu:IsPart uv iu) (hr:(KBy.picked b.toArray SO iu).toList=r) (R:aG G c s.heap ρ l S) (K:fi G c s ρ Q QQ) (q:Q (.bytes r) S) :
  wpAny G.M c.A (subscriptTail e (.Slice loE GU none p) (.bytes b.toArray t) (.ref s.heap.objs.size)) QQ E {s with heap:=s.heap.push {cls:=.type "slice",data:=.fields #[wV,uv,.none]}}:=by
 refine k0 (T:="bytes") (typeIs_bytes _ _ _) CA.lookup (getItem_meets (typeIs_bytes _ _ _) (by decide) CA FB.entry_bytes_getitem (FB.args_bytes_getitem_2 _ _) (KBc.meets_slice2 b.toArray t _ pl pu)
  ⟨Heap.IsSliceOf.new _ _ _ _,ab (KBc.size_picked_le _ _ _) (ab hb (by decide)),λt' k=>?_⟩) rfl
 exact K.eD R (.bytes r) (dw _ _ _) (VI.Kc _ hr) q
theorem GW{e:Expr}
  (R:aG G c s.heap ρ l S) (K:fi G c s ρ Q QQ) (ha:ρ[i]? =some a) (he:GL S i ds) (hb:ds.length<=1000) (pl:IsPart wV SO) (pu:IsPart uv iu)
  (hp:∀vs:List Value,c5 ρ s.heap vs ds->c5 ρ s.heap (slicePick vs.toArray SO iu none).toList ds') (q:dM S Q (.list ds')) :
  wpAny G.M c.A (subscriptTail e (.Slice loE GU none p) (.ref a) (.ref s.heap.objs.size)) QQ E {s with heap:=s.heap.push {cls:=.type "slice",data:=.fields #[wV,uv,.none]}}:=by
 obtain⟨vs,hl,hv⟩:∃vs,s.heap.IsList a vs.toArray/\c5 ρ s.heap vs ds:=by
  rcases he with he | ⟨o,vs,n,he,hc,hd,hv⟩
  ·exact R.list ha he
  ·exact⟨vs,⟨_,(R.aX.at_ _ _ _ ha he).1,hc,n,hd⟩,hv _ _⟩
 obtain av:=L2.len hv;refine k0 (Heap.IsList.typeIs (s:={s with heap:=s.heap.push {cls:=.type "slice",data:=.fields #[wV,uv,.none]}}) (hl.push _)) CH
  (wpAny_getItem_list_slice (hl.push _) (Heap.IsSliceOf.new ..) pl pu .none (by simp) ?_ (by rw[dQ,cu,av];exact ab hb (by decide))) rfl
 obtain gr:dK c.L s.heap ((s.heap.push {cls:=.type "slice",data:=.fields #[wV,uv,.none]}).push {cls:=.type "list",data:=.seq (slicePick vs.toArray SO iu none)}):=(dw _ _ _).trans (dw _ _ _);refine K.new R gr (jq (by rw[jf];exact kZ _)) (.list ds') ⟨_,0,dD _ rfl,(hp vs hv).mono ⟨_,rfl⟩ (R.jU gr)⟩ q
theorem Qn{xs:List UInt8}(h:xs.length<=n):xs.drop (min i n)=xs.drop i:=by
 rcases Nat.le_total i n with q | q
 ·rw[yD q]
 ·rw[Nat.min_eq_right q,List.drop_of_length_le h,List.drop_of_length_le (ab h q)]
theorem Dp{b:List UInt8}(h0:0<=i)(h1:0<=j):(KBy.picked b.toArray (some i) (some j)).toList=(b.take j.toNat).drop i.toNat:=by
 rw[KBc.picked_eq];simp only[Option.elim,jW _ _ h0,jW _ _ h1,cu];rw[<- yG,kmk_take_min];exact Qn (by rw[gY];exact rt _ _)
theorem GY(b:List α)(i:Nat):(b.drop i).length<=b.length-min i b.length:=by rw[uj];exact Nat.sub_le_sub_left (iI _ _) _
theorem Uv{e:Expr}{loE GU:Option Expr}{p:Pos}{x lo hi:PV}{v wV uv:Value}(V:VI ρ s.heap v x)(L:VI ρ s.heap wV lo)(H:VI ρ s.heap uv hi)(h:GK S Q x lo hi){QQ:Value->Shared->Prop}{E:Value->Shared->Prop}(R:aG G c s.heap ρ l S)(K:fi G c s ρ Q QQ) :
  wpAny G.M c.A (subscriptTail e (.Slice loE GU none p) v (.ref s.heap.objs.size)) QQ E {s with heap:=s.heap.push {cls:=.type "slice",data:=.fields #[wV,uv,.none]}}:=by
 cases x with
 | bytes b =>
  refine xA h λhb h=>?_;refine ak (dg h) λi fB g=>?_;obtain rfl:=fB;refine Uj (dg g) λj gy h0 h1 h2 h3 g'=>?_;obtain rfl:=gy;obtain⟨t,rfl⟩:=V;obtain⟨t1,rfl⟩:=L;obtain⟨t2,rfl⟩:=H;exact wU (loE:=loE) hb (.int _ _) (.int _ _) (Dp h0 h2) R K g'
 | _=>exact False.elim h
theorem Qo{e:Expr}{loE GU:Option Expr}{p:Pos}{x lo:PV}{v wV:Value}(V:VI ρ s.heap v x)(L:VI ρ s.heap wV lo)(h:yT S Q x lo){QQ:Value->Shared->Prop}{E:Value->Shared->Prop}(R:aG G c s.heap ρ l S)(K:fi G c s ρ Q QQ) :
  wpAny G.M c.A (subscriptTail e (.Slice loE GU none p) v (.ref s.heap.objs.size)) QQ E {s with heap:=s.heap.push {cls:=.type "slice",data:=.fields #[wV,.none,.none]}}:=by
 refine ak (dg h) λi kz g=>?_;obtain rfl:=kz;clear h;have h:=g;obtain⟨t1,rfl⟩:=L;cases x with
 | bytes b =>
  refine p9 h λhb h0 h1 h=>?_;obtain⟨t,rfl⟩:=V;refine wU (loE:=loE) hb (.int _ _) .none ?_ R K h;rw[KBc.picked_eq];simp only[Option.elim,jW _ _ h0,cu];rw[kmk_drop_min b _,ri (GY _ _)]
 | ref j =>
  refine Gw h λds e hb h0 h1 h=>?_;refine ak V λa ha wQ=>?_;obtain rfl:=wQ;refine GW R K ha (.inl e) hb (.int _ _) .none (λvs hv=>?_) h;obtain this:=L2.drop hv i.toNat;unfold slicePick;rw[sliceBounds_plain];simp only[Option.elim,jW _ _ h0,sliceRange_one,pick_run,cu];rw[kmk_drop_min,ri (GY _ _)];exact this
 | _=>exact False.elim h
theorem Qp{e:Expr}{loE GU:Option Expr}{p:Pos}{x hi:PV}{v uv:Value}(V:VI ρ s.heap v x)(H:VI ρ s.heap uv hi)(h:vj S Q x hi){QQ:Value->Shared->Prop}{E:Value->Shared->Prop}(R:aG G c s.heap ρ l S)(K:fi G c s ρ Q QQ) :
  wpAny G.M c.A (subscriptTail e (.Slice loE GU none p) v (.ref s.heap.objs.size)) QQ E {s with heap:=s.heap.push {cls:=.type "slice",data:=.fields #[.none,uv,.none]}}:=by
 refine ak (dg h) λj kA g=>?_;obtain rfl:=kA;clear h;have h:=g;obtain⟨t1,rfl⟩:=H;cases x with
 | bytes b =>
  refine p9 h λhb h0 h1 h=>?_;obtain⟨t,rfl⟩:=V;refine wU (loE:=loE) hb .none (.int _ _) ?_ R K h;rw[KBc.picked_eq];simp only[Option.elim,jW _ _ h0,cu,oF,Nat.sub_zero];exact kmk_take_min b _
 | ref i =>
  refine Gw h λds e hb h0 h1 h=>?_;refine ak V λa ha wR=>?_;obtain rfl:=wR;refine GW R K ha e hb .none (.int _ _) (λvs hv=>?_) h;obtain this:=L2.take hv j.toNat;unfold slicePick;rw[sliceBounds_plain];simp only[Option.elim,jW _ _ h0,cu];obtain e2:=sliceRange_one 0 (min j.toNat vs.length);rw[e2,pick_run];simp only[oF,Nat.sub_zero];rw[kmk_take_min];exact this
 | _=>exact False.elim h
end
noncomputable def GZ:List jo:=[.kn,.cW,.cw,.cB,.fA,.iT]
noncomputable def LO:List Fd:=[.bZ,.at_,.wG,.GD,.wH,.Nl,.gg,.ring,.AP,.lS,.GF,.wI,.J5,.bits,.salt,.many,.behind,.table,.kind,.block,.most,.sM,.cw,.gx]
theorem Ke(c:jo):c∈GZ:=aN (by cases c<;>rfl)
theorem NG(f:Fd):f∈LO:=aN (by cases f<;>rfl)
noncomputable def SP(K:Frag)(c:jo):Bool :=
 hasDictIn K (dJ c)&&plainGet K (dJ c) Str.empty&&plainOver K (dJ c)&&findIn K (.ref (dJ c)) "__setattr__"==some (some (.builtin "object.__setattr__")) &&
  (lT c).all λf=>findIn K (.ref (dJ c)) (er f)==some none&&takerIn K (dJ c) (er f)==some none
theorem W4(p:Params):GZ.all (SP (KF p))=true:=by kernel_rfl
theorem LP:(LO.all λf=>LO.all λg=>(er f==er g)==decide (f=g))=true:=by decide +kernel
theorem Qq(f g:Fd):(er f==er g)=decide (f=g):=eq_of_beq (aS.mp (aS.mp LP f (NG f)) g (NG g))
section
variable {fs:List (Fd×PV)}
theorem FR.key{e:DictEntry}(x:FR ρ h e q)(f:Fd):e.key.isStr (er f)=decide (q.1=f)/\e.refKey=false:=by
 refine xA x λdc z=>?_;obtain⟨t,ht⟩:=dc;exact⟨by rw[ht];exact Qq _ _,by unfold DictEntry.refKey;rw[ht]⟩
theorem FR.SQ(x:L2 (FR ρ h) es fs):es.any (·.refKey)=false:=by
 induction x with
 | nil=>rfl
 | cons y _ ih=>rw[uy,ih,(y.key .gx).2];rfl
theorem FR.ky(x:L2 (FR ρ h) es fs):lk fs f=some d->∃e v,es.find? (·.key.isStr (er f))=some e/\e.val=v/\VI ρ h v d:=by
 induction x with
 | nil=>exact λe=>nomatch e
 | @cons p q _ _ y _ ih =>
  intro e;rw[Kd]at e;rw[uq,(y.key f).1];by_cases hk:q.1=f
  ·rw[au hk]at e;cases e;rw[cH hk];exact⟨_,_,rfl,rfl,y.2⟩
  ·rw[ai hk]at e;rw[c9 hk];exact ih e
theorem FR.get(x:L2 (FR ρ h) es fs)(e:lk fs f=some d):∃v,getL (er f) es=some (some v)/\VI ρ h v d:=by
 refine dH (FR.ky x e) λe v h1 dn h2=>?_;obtain rfl:=dn;exact⟨_,by unfold getL;rw[h1],h2⟩
theorem FR.isSome(x:L2 (FR ρ h) es fs):(getL (er f) es).isSome=true:=by
 unfold getL;cases es.find? (·.key.isStr (er f))with
 | some e=>rfl
 | none=>rw[FR.SQ x];rfl
theorem FR.none(x:L2 (FR ρ h) es fs)(q:∀f∈fs,(er f.1==n)=false):getL n es=some Option.none:=by
 obtain this:es.find? (·.key.isStr n)=Option.none:=by
  induction x with
  | nil=>rfl
  | cons y _ ih =>
   refine xA y λdX z=>?_;obtain⟨t,ht⟩:=dX;rw[uq,show(_:DictEntry).key.isStr n=false by rw[ht];exact q _ (.head _)];exact ih λf hf=>q f (.tail _ hf)
 unfold getL;rw[this,FR.SQ x];rfl
theorem FR.put(y:VI ρ h v d)(x:L2 (FR ρ h) es fs):(fs.map (·.1)).Nodup->L2 (FR ρ h) (putL (er f) SR (.str (er f) t) v es) (Mine.put fs f d):=by
 induction x with
 | nil=>exact λw=>.cons ⟨⟨t,rfl⟩,y⟩ .nil
 | @cons p q ps qs z r ih =>
  intro hn;refine xA (fQ.mp hn) λn1 n2=>?_;unfold putL Mine.put;rw[(z.key f).1,uy,eC];by_cases hk:q.1=f
  ·rw[cH hk,au rfl,au hk,Bool.true_or,au rfl];refine .cons ⟨z.1,y⟩ ?_;obtain e3:qs.map (λp=>if p.1=f then(p.1,d)else p)=qs:=by
    conv=>rhs;rw[<- yN qs]
    exact kP λp hp=>ai λe=>n1 (by show q.1∈_;rw[hk,<-e];exact jI hp)
   rw[e3];exact r
  ·rw[c9 hk,ai bf,ai hk,Bool.false_or];obtain ih:=ih n2;unfold Mine.put at ih;by_cases hb:(qs.any λp=>decide (p.1=f))=true
   ·rw[au hb]at ih ⊢;exact .cons z ih
   ·rw[ai hb]at ih ⊢;exact .cons z ih
theorem Qr:(put fs f d).map (·.1)=if f∈fs.map (·.1)then fs.map (·.1)else fs.map (·.1)++[f]:=by
 unfold put;have e:((fs.any λp=>decide (p.1=f))=true)↔f∈fs.map (·.1):=by
  rw[List.any_eq_true,bH];exact exists_congr λp=>and_congr_right λz=>decide_eq_true_iff
 by_cases h:f∈fs.map (·.1)
 ·rw[au h,au (e.mpr h),bQ];refine kP λp z=>?_;show(if p.1=f then(p.1,d)else p).1=p.1
  by_cases q:p.1=f
  ·rw[au q]
  ·rw[ai q]
 ·rw[ai h,ai λq=>h (e.mp q),fy];rfl
end
theorem Jn(n:Str)(SR:Int)(k v:Value)(es:List DictEntry):(putL n SR k v es).length<=es.length+1:=by
 induction es with
 | nil=>exact aB _
 | cons e r ih =>
  unfold putL;by_cases q:e.key.isStr n=true
  ·rw[au q];exact kZ _
  ·rw[ai q];exact uh ih
theorem Qs(x:VI ρ h v d):handedIn v=true:=by
 cases d with
 | none=>obtain rfl:=x;rfl
 | bool=>obtain rfl:=x;rfl
 | tup=>refine nE x λz z z fB z=>?_;obtain rfl:=fB;rfl
 | ref=>refine ak x λz z gy=>?_;obtain rfl:=gy;rfl
 | _=>obtain⟨_,rfl⟩:=x;rfl
structure Qt(K:Frag)(c:jo):Prop where
 hd:hasDictIn K (dJ c)=true
 pg:∀n,plainGet K (dJ c) n=true
 po:plainOver K (dJ c)=true
 sa:findIn K (.ref (dJ c)) "__setattr__"=some (some (.builtin "object.__setattr__"))
 f:∀f∈lT c,findIn K (.ref (dJ c)) (er f)=some none/\takerIn K (dJ c) (er f)=some none
theorem vk(G:GX)(c:jo):Qt G.K c:=by
 obtain this:=aS.mp (W4 G.w.params) c (Ke c);unfold SP at this;rw[jc,jc,jc,jc,aS]at this;refine xA this λkz h5=>?_;obtain⟨⟨⟨h1,h2⟩,h3⟩,h4⟩:=kz;exact⟨h1,λy=>h2,h3,eq_of_beq h4,λf hf=>let z:=cG.mp (h5 f hf);⟨eq_of_beq z.1,eq_of_beq z.2⟩⟩
theorem NH{K V:Type}[DecidableEq K]{es:List (K×V)}{k:K}{d:V}(e:lk es k=some d):(k,d)∈es:=by
 unfold lk at e;apply eN (f9.mp e);intro p q;obtain h2:p.1=k:=by simpa using List.find?_some q
 apply zR h2;exact List.mem_of_find?_eq_some q
section
structure aco(G:GX)(ρ:List Addr)(h:Heap)(a:Addr)(cl:jo)(dx:Nat)(fs:List (Fd×PV)):Prop where
 at_:∃d es n,ρ[dx]? =some d/\h.get? a=some (instObj (dJ cl) d)/\InstAt h a (instObj (dJ cl) d) (dJ cl) (some (dictOf es n))/\h.get? d=some (dictOf es n)/\L2 (FR ρ h) es fs/\(fs.length<=20/\(fs.map (·.1)).Nodup)/\∀f∈fs,f.1∈lT cl
theorem aG.bc{h:Heap}(R:aG G c h ρ l S){i:Nat}{a:Addr}{cl:jo}{dx:Nat}{fs:List (Fd×PV)}(ha:ρ[i]? =some a)(e1:S[i]? =some (.bc cl dx))(e2:S[dx]? =some (.aA cl fs)):aco G ρ h a cl dx fs:=by
 refine ak (R.aX.at_ _ _ _ ha e1) λd hd ho=>?_;refine cq (R.aX.at_ _ _ _ hd e2) λes n lU r=>?_;exact⟨d,es,n,hd,ho,⟨ho,rfl,rfl,lU⟩,lU,r⟩
theorem Qu{f:Fd}{x:PV}{v:Value}(hK:G.K.In c.h₀)(V:VI ρ s.heap v x)(h:AX S Q x f):TR G c (getAttr v (er f) true) ρ l S s Q:=by
 intro QQ E R K;obtain⟨i,rfl,cl,dx,fs,w,e1,e2,e3,h⟩:=dy h;refine ak V λa ha kA=>?_;obtain rfl:=kA;refine qD ((R.bc ha e1 e2).at_) λd es n z z I z hf z oU=>?_;refine ak (FR.get hf e3) λu hu U=>?_;refine xE R.fr λm F=>?_;obtain CF:=vk G cl;exact get_own F hK I (CF.pg _) CF.hd (CF.f f (oU _ (NH e3))).1 rfl hu (Qs U) (K.same R _ U h)
end
structure SE where
 names:List (Str×NameKind)
 idx:List (Str×Nat)
 n:Nat
structure bh(se:SE)(c:Cx):Prop where
 kind:c.aj.scope.kind=.function
 names:c.aj.scope.names=se.names
 mI:c.aj.globals=mainGlobals
 bi:c.aj.builtins=builtinsNs
 len:c.dS.length=se.n
 var:∀x i,se.idx.lookup x=some i->(c.aj.kindOf x=some .local/\c.dS[i]? =some (.ns c.aj.locals x)) ∨
  ((c.aj.kindOf x=some .cell∨c.aj.kindOf x=some .free)/\∃a,c.aj.cells.lookup x=some a/\c.dS[i]? =some (.cell a))
set_option genCtorIdx true in
inductive GV where
 | int (i:Int)
 | fn (a:Addr)
 | cls (c:jo)
 deriving DecidableEq
noncomputable def gI(x:String)(i:Int):Str×GV:=(Str.ofString x,.int i)
noncomputable def gF(x:String)(a:Addr):Str×GV:=(Str.ofString x,.fn a)
noncomputable def gC(x:String)(c:jo):Str×GV:=(Str.ofString x,.cls c)
noncomputable def ZT:List (Str×GV):=[gI "BITS" 32,gI "MICRO" 1,gI "FAT" 2,gI "LEAF" 3,gI "MICRO_HEAD" 7,gI "FAT_HEAD" 18,gI "LEAF_HEAD" 8,gI "NUMBER" 8,gI "PLACE" 4,gI "CHAINS" 4,gI "LINK" 2,gI "ENTRY" 15,gI "LONGEST" 28,gI "MOST_BITS" 16,gI "ZAP" 7,gF "number_of" 94,gF "octets_of" 99,gF "text_octets" 104,gF "octets_text" 109,gF "padded" 215,gF "round_up" 244,gF "many_of" 251,gF "zap_hash" 258,gF "first_bits" 265,gF "salt_of" 272,gF "want_row" 279,gF "micro_octets" 286,gF "micro_rows" 293,gF "fat_head" 328,gF "sort_of" 335]
noncomputable def ZU:List (Str×GV):=[gF "leaf_octets" 340,gF "want_leaf" 347,gF "entry_at" 354,gF "leaf_find" 361,gF "leaf_rows" 368,gF "leaf_bits" 375,gF "first_block" 382,gF "block_at" 389,gF "table_entry" 396,gF "table_of" 401,gF "zap_find" 406,gF "zap_all" 413,gF "new_zap" 420,gF "zap_put" 425,gF "zap_take" 430,gF "make_fat" 437,gF "put_head" 444,gF "leaf_for" 451,gF "put_leaf" 458,gF "put_fat" 463,gF "grow_table" 468,gF "part_leaf" 473,gF "_law_number" 600,gF "_law_rows" 607,gF "_law_fullest_first" 612,gF "_law_is_gone" 619,gF "_law_is_laid_right" 624,gC "Sink" .kn,gC "Cursor" .cW,gC "Shape" .cw,gC "FatHead" .cB,gC "MemDnode" .fA,gC "MemSet" .iT]
noncomputable def jC:List (Str×GV):=ZT++ZU
noncomputable def NI(o:Option (Option Value))(i:Int):Bool:=match o with
 | some (some (.int j _))=>i==j
 | _=>false
theorem NJ(h:NI o i=true):∃t,o=some (some (.int i t)):=by
 cases o with
 | none=>cases h
 | some o=>cases o with
  | none=>cases h
  | some v=>cases v<;>first | (obtain rfl:=eq_of_beq h;exact⟨_,rfl⟩) | cases h
noncomputable def NK(o:Option (Option Value)):GV->Bool
 | .int i=>NI o i
 | .fn a=>o==some (some (.ref a))
 | .cls c=>o==some (some (.ref (dJ c)))
theorem acp(p:Params):(jC.all λq=>NK (nsIn (KF p) mainGlobals q.1) q.2)=true:=by kernel_rfl
noncomputable def wW:List Str:=["sum","len","ord","chr","all","bytes","bytearray","max","list","range","sorted","set","str","enumerate"]
theorem acq(p:Params):(wW.all λx=>nsIn (KF p) mainGlobals x==some none)=true:=by kernel_rfl
theorem iN{v:V}{l:List (Str×V)}(h:l.lookup k=some v):(k,v)∈l:=by
 induction l with
 | nil=>cases h
 | cons p r ih =>
  rw[jK]at h;cases q:k==p.1 with
  | true=>rw[q]at h;cases h;rw[eq_of_beq q];exact .head _
  | false=>rw[q]at h;exact .tail _ (ih h)
section
variable {G:GX} {c:Cx} {s:Shared}
theorem W5(O:bh se c)(hi:se.idx.lookup x=some i)(hx:(x==("__debug__":Str))=false)(hy:(x==("__classdict__":Str))=false)(e:l[i]? =some (some d))(q:Q d S):EV G c (.Name x p) l S Q:=by
 intro ρ s QQ E R K;refine wpAny_Name ?_ hx;obtain ej:l[i]?.join=some d:=by rw[e];rfl
 rcases O.var x i hi with⟨h1,h2⟩ | ⟨h1,a,h2,h3⟩
 ·obtain V:=R.var i _ h2;rw[ej]at V;refine ak V λm hm hv=>?_;refine ak (hv d rfl) λv h3 V=>?_;exact wpAny_loadName_local O.kind h1 hm h3 (K.same R d V q)
 ·obtain V:=R.var i _ h3;rw[ej]at V;refine dH V λob ov ho hd hv=>?_;refine ak (hv d rfl) λv dc V=>?_;obtain rfl:=dc;rcases h1 with h1 | h1
  ·exact wpAny_loadName_cell O.kind h1 h2 ⟨ob,ho,hd⟩ (K.same R d V q)
  ·exact wpAny_loadName_free O.kind h1 h2 ⟨ob,ho,hd⟩ (K.same R d V q) hy
theorem lp(O:bh se c)(C:bw G lv c)(R:aG G c s.heap ρ l S)(hx:(x==("__debug__":Str))=false)(hk:se.names.lookup x=some .globalImplicit)
  (hg:nsIn G.K mainGlobals x=some (some v)) (h:QQ v s):wpAny G.M c.A (eval (.Name x p) c.aj) QQ E s :=
 CD O.kind (by unfold Env.kindOf;rw[O.names];exact hk) (loadGlobal_global (mg:=G.mg) (by rw[O.mI];exact C.T.g.keeps R.keep) (mg_of C.K C.T.g hg) h) hx
theorem Gl(O:bh se c)(C:bw G lv c)(R:aG G c s.heap ρ l S)(hx:(x==("__debug__":Str))=false)(hk:se.names.lookup x=some .globalImplicit)
  (hb:x∈wW) (hn:x≠"__name__") (hv:bootBuiltins x=some v) (h:QQ v s):wpAny G.M c.A (eval (.Name x p) c.aj) QQ E s:=by
 obtain hg:nsIn G.K mainGlobals x=some none:=eq_of_beq (aS.mp (acq G.w.params) x hb);exact CD O.kind (by unfold Env.kindOf;rw[O.names];exact hk) (loadGlobal_builtin (mg:=G.mg) (mb:=G.mb) (by rw[O.mI];exact C.T.g.keeps R.keep) (mg_none_of C.K C.T.g hg) (by rw[O.bi];exact C.T.b.keeps R.keep)
  ((C.T.builtins x hn).trans hv) h) hx
theorem G0{x:Str}{g:GV}(h:jC.lookup x=some g):NK (nsIn G.K mainGlobals x) g=true:=aS.mp (acp G.w.params) _ (iN h)
theorem Qv(h:jC.lookup x=some (.fn a)):nsIn G.K mainGlobals x=some (some (.ref a)):=eq_of_beq (G0 (G:=G) h)
theorem LQ(h:jC.lookup x=some (.cls a)):nsIn G.K mainGlobals x=some (some (.ref (dJ a))):=eq_of_beq (G0 (G:=G) h)
theorem Uw(O:bh se c)(C:bw G lv c)(hx:(x==("__debug__":Str))=false)(hk:se.names.lookup x=some .globalImplicit)(hg:jC.lookup x=some (.int i))(q:Q (.int i) S):EV G c (.Name x p) l S Q:=by
 intro ρ s QQ E R K;refine xE (NJ (G0 (G:=G) hg)) λt ht=>?_;exact lp O C R hx hk ht (K.same R (.int i) ⟨_,rfl⟩ q)
theorem W7(q:Q (.int i) S):EV G c (.Constant (.int i) k p) l S Q:=λz z z z R K=>wpAny_Constant_int (K.same R (.int i) ⟨_,rfl⟩ q)
theorem W8(q:Q (.str x) S):EV G c (.Constant (.str x) k p) l S Q:=λz z z z R K=>wpAny_Constant_str (K.same R (.str x) ⟨_,rfl⟩ q)
theorem Qw(q:Q (.bytes x) S):EV G c (.Constant (.bytes x) k p) l S Q:=λz z z z R K=>Constant_bytes (K.same R (.bytes x) ⟨_,rfl⟩ q)
theorem Ux(q:Q .none S):EV G c (.Constant .none k p) l S Q:=λz s z z R K=>wpAny_Constant_none (K.same (tk:=s.toks) R .none rfl q)
theorem Uy(q:Q (.bool b) S):EV G c (.Constant (.bool b) k p) l S Q:=λz s z z R K=>wpAny_Constant_bool (K.same (tk:=s.toks) R (.bool b) rfl q)
theorem W9(h:EV G c a l S λx aa=>EV G c b l aa λy af=>rU af Q op x y):EV G c (.BinOp a op b p) l S Q:=λz z z E R K=>
 wpAny_BinOp (h _ _ _ E R λz z z z z z X T V q=>q _ _ _ E (R.step T X) λz z z z z z X' T' U q'=>
  Us (V.mono T'.pre ((R.step T X).tup T')) U q' _ E ((R.step T X).step T' X') ((K.step T).step T'))
theorem Xa(hu:c.A.units<=9000)(hm:behindInMarks op b=false)(h:EV G c a l S λx aa=>EV G c b l aa λy af=>fX af Q op x y):EV G c (.Compare a [op] [b] p) l S Q:=λz z z E R K=>
 wpAny_Compare1 (hm:=hm) (h _ _ _ E R λz z z z z z X T V q=>q _ _ _ E (R.step T X) λz z z z z z X' T' U q'=>
  rG hu (V.mono T'.pre ((R.step T X).tup T')) U q' _ E ((R.step T X).step T' X') ((K.step T).step T'))
theorem Xb(hn:rX b=true)(h:EV G c a l S λx aa=>EV G c b l aa λy af=>qb af Q x y):EV G c (.Subscript a b p) l S Q:=λz z z E R K=>
 Subscript_ (h _ _ _ E R λz z z z z z X T V q=>q _ _ _ E (R.step T X) λz z z z z z X' T' U q'=>
  Uu hn (V.mono T'.pre ((R.step T X).tup T')) U q' _ E ((R.step T X).step T' X') ((K.step T).step T'))
theorem Xc{a lo hi:Expr}(h:EV G c a l S λx aa=>EV G c lo l aa λy af=>EV G c hi l af λz aL=>GK aL Q x y z):EV G c (.Subscript a (.Slice (some lo) (some hi) none p) p') l S Q:=λw w w E R K=>
 Subscript_ (h _ _ _ E R λw w w w w w X T V q=>wpAny_Slice (q _ _ _ E (R.step T X) λw w w w w w X' T' U q'=>q' _ _ _ E ((R.step T X).step T' X') λw w w w w w A0 j9 W uN=>ao (
  Uv ((V.mono T'.pre ((R.step T X).tup T')).mono j9.pre (((R.step T X).step T' X').tup j9)) (U.mono j9.pre (((R.step T X).step T' X').tup j9)) W uN (((R.step T X).step T' X').step j9 A0) (((K.step T).step T').step j9))))
theorem Uz{a lo:Expr}(h:EV G c a l S λx aa=>EV G c lo l aa λy af=>yT af Q x y):EV G c (.Subscript a (.Slice (some lo) none none p) p') l S Q:=λz z z E R K=>
 Subscript_ (h _ _ _ E R λz z z z z z X T V q=>wpAny_Slice (q _ _ _ E (R.step T X) λz z z z z z X' T' U q'=>ao (ao (
  Qo (V.mono T'.pre ((R.step T X).tup T')) U q' ((R.step T X).step T' X') ((K.step T).step T')))))
theorem UA(h:EV G c a l S λx aa=>EV G c hi l aa λy af=>vj af Q x y):EV G c (.Subscript a (.Slice none (some hi) none p) p') l S Q:=λz z z E R K=>
 Subscript_ (h _ _ _ E R λz z z z z z X T V q=>wpAny_Slice (ao (q _ _ _ E (R.step T X) λz z z z z z X' T' U q'=>ao (
  Qp (V.mono T'.pre ((R.step T X).tup T')) U q' ((R.step T X).step T' X') ((K.step T).step T')))))
noncomputable def jN(e:Expr):Bool:=oR 16 e||(match e with
 | .Call f args _ _=>oR 23 f||!args.isEmpty
 | _=>true)
theorem tB(h:jN o=true)(f:Str)(aj:Env)(t:Sem Value):attributeBase o f aj t=t:=by
 cases o with
 | Call g args kw p =>
  cases g with
  | Name=>cases args with
   | nil=>cases h
   | cons=>rfl
  | _=>rfl
 | _=>rfl
theorem UB(hK:G.K.In c.h₀)(hn:jN a=true)(h:EV G c a l S λx aa=>AX aa Q x f):EV G c (.Attribute a (er f) p) l S Q:=λz z z E R K=>
 Attribute_any_ (he:=by rw[arm_eval_Attribute,tB hn]) (h _ _ _ E R λz z z z z z X T V q=>Qu hK V q _ E (R.step T X) (K.step T))
def ET(G:GX)(c:Cx)(e:Expr)(l:a9)(S:St)(Q:Bool->St->Prop):Prop:=∀(ρ:List Addr) (s:Shared) (QQ:Bool->Shared->Prop) (E:Value->Shared->Prop),aG G c s.heap ρ l S ->
 (∀b h' tk' ar S',bR G c h' ar S'->bS c.L s.heap ρ h' ar->Q b S'->QQ b {s with heap:=h',toks:=tk'})->wpAny G.M c.A (isTrue e c.aj (eval e c.aj)) QQ E s
noncomputable def sS(e:Expr):Bool:=oR 15 e&&oR 0 e&&oR 5 e&&oR 3 e
theorem G1{e:Expr}(hp:sS e=true)(aj:Env)(w:Sem Value):isTrue e aj w=(do let v<-w;standAt e.pos;holding [v] (truthy v)):=by cases e<;>first | rfl | cases hp
theorem Gm{K:Bool->Prop}(V:VI ρ s.heap v d)(q:fU d K)(k:∀b,K b->QB b s):wpAny G.M c.A (truthy v) QB E s:=by
 refine ak (pL q) λb dn q=>?_;obtain rfl:=dn;obtain rfl:=V;exact ub (k b q)
theorem Qx{e:Expr}(hp:sS e=true)(h:EV G c e l S λx aa=>fU x λt=>Qb t aa):ET G c e l S Qb:=λz z z E R K=>
 isTrue_plain (h _ _ _ E R λz z h' tk ar S' X T V q=>Gm (s:=⟨h',_,_,tk,_⟩) V q λb q=>K b h' tk ar S' X T q) (G1 hp _ _)
theorem Xd{e:Expr}(h:ET G c e l S λt aa=>Qb (!t) aa):ET G c (.UnaryOp .Not e p) l S Qb:=λz z z E R K=>
 isTrue_not (h _ _ _ E R λb h' tk ar S' X T q=>K _ h' tk ar S' X T q)
theorem Xe{op:CmpOp}(hu:c.A.units<=9000)(hm:behindInMarks op b=false)(h:EV G c a l S λx aa=>EV G c b l aa λy af=>fX af (λz aL=>fU z λt=>Qb t aL) op x y) :
  ET G c (.Compare a [op] [b] p) l S Qb:=λw w w E R K=>
 wpAny_isTrue_Compare1 (hm:=hm) (h _ _ _ E R λw w w w w w X T V q=>q _ _ _ E (R.step T X) λw w w w w w X' T' U q'=>
  rG hu (V.mono T'.pre ((R.step T X).tup T')) U q' _ E ((R.step T X).step T' X') λw w h' tk ar S' A0 j9 W uN=>Gm (s:=⟨h',_,_,tk,_⟩) W uN λb q=>K b h' tk ar S' A0 ((T.trans T').trans j9) q)
theorem UC{qG qH:CmpOp}(hu:c.A.units<=9000)(hm:lastMarks [qG,qH] [b,d]=false)
  (h:EV G c a l S λx aa=>EV G c b l aa λy af=>fX af (λz aL=>fU z λt=>(t=true->EV G c d l aL λu qc=>fX qc (λz wX=>fU z λt=>Qb t wX) qH y u)/\(t=false->Qb false aL)) qG x y) :
  ET G c (.Compare a [qG,qH] [b,d] p) l S Qb:=λv v v E R K=>
 isTrue_chain (hm:=hm) (h _ _ _ E R λv v v v v v X T V q=>test_link (q _ _ _ E (R.step T X) λv v v v v v X' T' U q'=>
  rG hu (V.mono T'.pre ((R.step T X).tup T')) U q' _ E ((R.step T X).step T' X') λv v h' tk v v A0 j9 W uN=>Gm (s:=⟨h',_,_,tk,_⟩) W uN λb uN=>by
   have zT:=((R.step T X).step T' X').step j9 A0;cases b with
   | false=>exact K _ _ _ _ _ A0 ((T.trans T').trans j9) (uN.2 rfl)
   | true =>
    refine test_last (uN.1 rfl _ _ _ E zT λw d h' tk ar S' G2 rY Qy Qz=>?_);exact rG hu ((U.mono j9.pre (((R.step T X).step T' X').tup j9)).mono rY.pre (zT.tup rY)) Qy Qz _ E (zT.step rY G2) λz d h' tk ar S' acr acs acu acv=>
     Gm (s:=⟨h',_,_,tk,_⟩) acu acv λb q=>K b h' tk ar S' acr ((((T.trans T').trans j9).trans rY).trans acs) q))
theorem UD(hu:c.A.units<=9000)(hm:lastMarks [qG,qH] [b,d]=false)
  (h:EV G c a l S λx aa=>EV G c b l aa λy af=>fX af (λz aL=>fU z λt=>(t=true->EV G c d l aL λu qc=>fX qc Q qH y u)/\(t=false->Q (.bool false) aL)) qG x y) :
  EV G c (.Compare a [qG,qH] [b,d] p) l S Q:=λv v v E R K=>
 Compare_chain (hm:=hm) (h _ _ _ E R λv v v v v v X T V q=>chain_link (q _ _ _ E (R.step T X) λv v v v v v X' T' U q'=>
  rG hu (V.mono T'.pre ((R.step T X).tup T')) U q' _ E ((R.step T X).step T' X') λz v h' tk v v A0 j9 W uN=>by
   have zT:=((R.step T X).step T' X').step j9 A0;refine ak (pL uN) λb dX uN=>?_;obtain rfl:=dX;obtain rfl:z=.bool b:=W;refine ub ?_;cases b with
   | false=>exact K _ (.bool false) _ _ _ _ A0 ((T.trans T').trans j9) rfl (uN.2 rfl)
   | true =>
    refine chain_last (uN.1 rfl _ _ _ E zT λw d h' tk ar S' G2 rY Qy Qz=>?_);exact rG hu ((U.mono j9.pre (((R.step T X).step T' X').tup j9)).mono rY.pre (zT.tup rY)) Qy Qz _ E (zT.step rY G2) ((((K.step T).step T').step j9).step rY)))
theorem Xf(h:ET G c a l S λt aa=>(t=true->ET G c (.BoolOp .And r p) l aa Qb)/\(t=false->Qb false aa)):ET G c (.BoolOp .And (a::r) p) l S Qb:=λz z z E R K=>
 isTrue_and (h _ _ _ E R λb h' tk ar S' X T q=>by
  cases b with
  | false=>exact K _ _ _ _ _ X T (q.2 rfl)
  | true=>exact q.1 rfl _ _ _ E (R.step T X) λb da tk' jX n8 X' T' q'=>K _ _ _ _ _ X' (T.trans T') q')
theorem ZV(h:ET G c a l S λt aa=>(t=true->Qb true aa)/\(t=false->ET G c (.BoolOp .Or r p) l aa Qb)):ET G c (.BoolOp .Or (a::r) p) l S Qb:=λz z z E R K=>
 isTrue_or (h _ _ _ E R λb h' tk ar S' X T q=>by
  cases b with
  | true=>exact K _ _ _ _ _ X T (q.1 rfl)
  | false=>exact q.2 rfl _ _ _ E (R.step T X) λb da tk' jX n8 X' T' q'=>K _ _ _ _ _ X' (T.trans T') q')
theorem UE(h:ET G c a l S Qb):ET G c (.BoolOp .And [a] p) l S Qb:=λz z z E R K=>
 isTrue_and (h _ _ _ E R λb h' tk ar S' X T q=>by
  cases b with
  | false=>exact K _ _ _ _ _ X T q
  | true=>exact isTrue_and_nil (K _ _ _ _ _ X T q))
theorem Xg(h:ET G c a l S Qb):ET G c (.BoolOp .Or [a] p) l S Qb:=λz z z E R K=>
 isTrue_or (h _ _ _ E R λb h' tk ar S' X T q=>by
  cases b with
  | true=>exact K _ _ _ _ _ X T q
  | false=>exact isTrue_or_nil (K _ _ _ _ _ X T q))
theorem Xh(h:EV G c a l S λx aa=>fU x λt=>(t=true->EV G c (.BoolOp .And (b::r) p) l aa Q)/\(t=false->Q (.bool false) aa)):EV G c (.BoolOp .And (a::b::r) p) l S Q:=λz z z E R K=>
 BoolOp_and (h _ _ _ E R λv d h' tk ar S' X T V q=>by
  refine ak (pL q) λt fB q=>?_;obtain rfl:=fB;obtain rfl:v=.bool t:=V;refine ub ?_;cases t with
  | false=>exact K _ (.bool false) _ _ _ _ X T rfl (q.2 rfl)
  | true=>exact q.1 rfl _ _ _ E (R.step T X) (K.step T))
theorem ZW(h:EV G c a l S λx aa=>fU x λt=>(t=true->Q (.bool true) aa)/\(t=false->EV G c (.BoolOp .Or (b::r) p) l aa Q)):EV G c (.BoolOp .Or (a::b::r) p) l S Q:=λz z z E R K=>
 BoolOp_or (h _ _ _ E R λv d h' tk ar S' X T V q=>by
  refine ak (pL q) λt gy q=>?_;obtain rfl:=gy;obtain rfl:v=.bool t:=V;refine ub ?_;cases t with
  | true=>exact K _ (.bool true) _ _ _ _ X T rfl (q.1 rfl)
  | false=>exact q.2 rfl _ _ _ E (R.step T X) (K.step T))
theorem Xi(h:ET G c t l S λx aa=>(x=true->EV G c a l aa Q)/\(x=false->EV G c b l aa Q)):EV G c (.IfExp t a b p) l S Q:=λz z z E R K=>
 IfExp_ (h _ _ _ E R λx h' tk ar S' X T q=>by
  cases x with
  | true=>exact q.1 rfl _ _ _ E (R.step T X) (K.step T)
  | false=>exact q.2 rfl _ _ _ E (R.step T X) (K.step T))
theorem Xj(q:Q (.int (-n)) S):EV G c (.UnaryOp .USub (.Constant (.int n) k p') p) l S Q:=λz z z z R K=>
 UnaryOp_ (wpAny_Constant_int (neg_int (K.same R (.int (-n)) ⟨_,rfl⟩ q)))
def gj(G:GX)(c:Cx)(es:List Expr)(l:a9)(S:St)(Q:List PV->St->Prop):Prop:=∀(pos:Pos) (ρ:List Addr) (s:Shared) (QQ:List Value->Shared->Prop) (E:Value->Shared->Prop),aG G c s.heap ρ l S ->
 (∀vs ds h' tk' ar S',bR G c h' ar S'->bS c.L s.heap ρ h' ar->c5 ar h' vs ds->Q ds S'->QQ vs {s with heap:=h',toks:=tk'})->wpAny G.M c.A (spliced (backTo pos (starEach es c.aj))) QQ E s
noncomputable abbrev noStar:Expr->Bool:=oR 22
theorem fZ{e:Expr}(h:noStar e=true)(r:List Expr)(aj:Env):starEach (e::r) aj=(false,eval e aj)::starEach r aj:=by
 cases e<;>first | rfl | cases h
theorem uO{Q:List PV->St->Prop}(q:Q [] S):gj G c [] l S Q:=λz ρ s z z R K=>spliced_nil (K [] [] s.heap s.toks ρ S R.aX (.refl _ _ _) .nil q)
theorem vl{e:Expr}{Q:List PV->St->Prop}(hn:noStar e=true)(h:EV G c e l S λd aa=>gj G c r l aa λds af=>Q (d::ds) af):gj G c (e::r) l S Q:=λpos z z z E R K=>
 args_cons (he:=fZ hn _ _) (h _ _ _ E R λv d h' tk ar S' X T V q=>
  q pos _ _ _ E (R.step T X) λvs ds da tk' jX n8 X' T' V' q'=>K _ _ _ _ _ _ X' (T.trans T') (.cons (V.mono T'.pre ((R.step T X).tup T')) V') q')
theorem vas(x:c5 ρ h vs ds):ds.all LJ=true->L2 (VA ρ) vs ds:=by
 induction x with
 | nil=>exact λw=>.nil
 | cons y _ ih=>exact λq=>let z:=cG.mp q;.cons (y.va z.1) (ih z.2)
theorem NL(x:L2 R vs ds)(h:ds.length<=1000):vs.toArray.size<=sizeLine:=by
 rw[cu,x.len];exact ab h (by decide)
theorem G3(h:gj G c es l S λds aa=>vg ds=true/\Q (.tup ds) aa):EV G c (.Tuple es k p) l S Q:=λy y y E R K=>
 Tuple_ (h p _ _ _ E R λvs ds h' tk ar S' X T V q=>by
  obtain z:=cG.mp q.1;obtain gr:=dw c.L h' ({cls:=.type "tuple",data:=.seq vs.toArray}:Obj);refine kR ?_ (NL V (aN z.1));exact(K.step T).eD (R.step T X) (.tup ds) gr (.tup (dD _ rfl) (vas V z.2)) q.2)
theorem Xk(h:gj G c es l S λds aa=>ds.length<=1000/\dM aa Q (.list ds)):EV G c (.List es p) l S Q:=λz z z E R K=>
 List_ (h p _ _ _ E R λvs ds h' tk ar S' X T V q=>by
  obtain gr:=dw c.L h' ({cls:=.type "list",data:=.seq vs.toArray}:Obj);refine kR ?_ (NL V q.1);exact(K.step T).new (R.step T X) gr (jq (aB _)) (.list ds) ⟨_,0,dD _ rfl,V.mono ⟨_,rfl⟩ ((R.step T X).jU gr)⟩ q.2)
theorem NM(R:aG G c s.heap ρ l S):(s.heap.objs.size==sysModules)=false:=by
 refine xE R.fr λm F=>?_;exact F.notModules R.rR
theorem Dq(o:AO)(ho:o=.dr []∨o=.bD [] 0)(q:dM S Q o):EV G c (.Dict [] [] p) l S Q:=λz s z E R K=>by
 refine wpAny_Dict_empty ?_;refine K.new (tk:=s.toks) R (dw _ _ _) (jq (aB _)) o ?_ q;rcases ho with rfl | rfl
 ·exact⟨[],Heap.DictOf.new _,.nil,NM R⟩
 ·exact⟨[],⟨_,#[],dD _ rfl,⟨rfl,rfl,rfl⟩,rfl,λz he=>by simp at he,Pairs.nil,iy⟩,.nil,NM R⟩
end
structure eO(c:Cx)(h:Heap)(ρ:List Addr)(h':Heap)(ar:List Addr):Prop where
 pre:ρ <+: ar
 old:∀b o,b≠c.L->(∀v∈c.dS,v.iU≠b)->h.get? b=some o->b∉ρ->h'.get? b=some o/\b∉ar
theorem eO.refl(c:Cx)(h:Heap)(ρ:List Addr):eO c h ρ h ρ:=⟨bV _,λz z z z e q=>⟨e,q⟩⟩
theorem eO.trans(x:eO c h₁ fa cJ sN)(y:eO c cJ sN ko la):eO c h₁ fa ko la :=
 ⟨x.pre.trans y.pre,λb o n m e q=>xA (x.old b o n m e q) λe' q'=>y.old b o n m e' q'⟩
theorem bS.s(x:bS c.L h ρ h' ar):eO c h ρ h' ar:=⟨x.pre,λb o n z e q=>x.old b o n e q⟩
noncomputable def FlV(ρ:List Addr)(h:Heap)(f:Flow):Fl->Prop
 | .next=>f=.next
 | .ret d=>∃v,f=.ret v/\VI ρ h v d
def SC(G:GX)(c:Cx)(s:Shared)(ρ:List Addr)(Q:Fl->a9->St->Prop)(QQ:Flow->Shared->Prop):Prop :=
 ∀f fl h' tk' ar l' S',aG G c h' ar l' S'->eO c s.heap ρ h' ar->FlV ar h' f fl->Q fl l' S'->QQ f {s with heap:=h',toks:=tk'}
def ES(G:GX)(c:Cx)(b:List Stmt)(l:a9)(S:St)(Q:Fl->a9->St->Prop):Prop :=
 ∀(ρ:List Addr) (s:Shared) QQ E,aG G c s.heap ρ l S->SC G c s ρ Q QQ->wpAny G.M c.A (execs b c.aj) QQ E s
def dT(S:St)(Q:PV->St->Prop)(d:PV)(S':St):Prop :=
 ∀(G:GX) (c:Cx) (h:Heap) (de ρ:List Addr) (v:Value),de.length=S.length->de <+: ρ->bR G c h ρ S'->VI ρ h v d ->
  ∃ar e n8,de <+: ar/\(∀a,a∉ρ->a∉ar)/\bR G c h ar n8/\VI ar h v e/\Q e n8
noncomputable def lq:Fl->PV
 | .next=>.none
 | .ret d=>d
noncomputable def fC(L:Addr)(names:List (Str×NameKind))(x:Str):iw:=if names.lookup x=some .cell then .cell (((cellsFrom (L+1) names []).lookup x).getD 0)else .ns L x
noncomputable def zU(sc:Scope)(aD:List Str):SE:=⟨sc.names,aD.zipIdx,aD.length⟩
noncomputable def Dr(sc:Scope)(aD:List Str)(np:Nat):Bool :=
 decide (sc.kind=.function)&&!sc.isGenerator&&!sc.isCoroutine&&decide aD.Nodup&&decide ((cellsFrom 0 sc.names []).map (·.1)).Nodup&&decide (np<=aD.length)&&(sc.names.all λp=>decide (p.2≠.free)) &&
  aD.all λx=>decide (sc.names.lookup x=some .local)||(decide (sc.names.lookup x=some .cell)&&((cellsFrom 0 sc.names []).lookup x).isSome)
structure fD(c:Cx):Prop where
 loc:c.aj.locals=c.L
 ap:∀(i j:Nat) (v w:iw),c.dS[i]? =some v->c.dS[j]? =some w->i≠j->v≠w
 EJ:∀(i:Nat) a x,c.dS[i]? =some (.ns a x)->a=c.L
 nf:∀x,c.aj.kindOf x≠some .free
theorem wY{l:List (Str×V)}:∀{l':List (Str×W)},l.map (·.1)=l'.map (·.1)->(l.lookup x).isSome=(l'.lookup x).isSome:=by
 induction l with
 | nil=>exact λ{l'} h=>by cases l' with
  | nil=>rfl
  | cons=>cases h
 | cons p r ih=>exact λ{l'} h=>by cases l' with
  | nil=>cases h
  | cons q r' =>
   refine xA (ue.mp h) λh1 h2=>?_;obtain h1:p.1=q.1:=h1;rw[jK,jK,h1];cases x==q.1
   ·exact ih h2
   ·rfl
theorem QA{lo:Nat}(names:List (Str×NameKind)):∀(n:Nat) (bA:List (Str×Addr)),lo<=n->(∀p∈bA,lo<=p.2)->∀p∈cellsFrom n names bA,lo<=p.2:=by
 induction names with
 | nil=>exact λz z z h=>h
 | cons p r ih =>
  intro n bA hn h;show ∀q∈(if p.2==.cell then cellsFrom (n+1) r ((p.1,n)::bA)else cellsFrom n r bA),lo<=q.2
  by_cases k:(p.2==NameKind.cell)=true
  ·rw[au k];refine ih _ _ (oB hn) λq hq=>?_;rcases bK.mp hq with rfl | hq
   ·exact hn
   ·exact h q hq
  ·rw[ai k];exact ih n bA hn h
theorem NO(names:List (Str×NameKind)):∀(n:Nat) (bA:List (Str×Addr)),(∀p∈bA,p.2<n)->bA.Pairwise (λx y=>x.2≠y.2)->(cellsFrom n names bA).Pairwise λx y=>x.2≠y.2:=by
 induction names with
 | nil=>exact λz z z h=>h
 | cons p r ih =>
  intro n bA hn h;show(if p.2==.cell then cellsFrom (n+1) r ((p.1,n)::bA)else cellsFrom n r bA).Pairwise _
  by_cases k:(p.2==NameKind.cell)=true
  ·rw[au k];refine ih _ _ (λq hq=>?_) (yr.mpr ⟨λp hp=>jh (hn p hp),h⟩);rcases bK.mp hq with rfl | hq
   ·exact oD _
   ·exact iE (hn q hq)
  ·rw[ai k];exact ih n bA hn h
theorem QC{l:List (Str×Addr)}(h:l.Pairwise λx y=>x.2≠y.2){p q:Str×Addr}(hp:p∈l)(hq:q∈l)(e:p.2=q.2):p=q:=by
 induction l with
 | nil=>cases hp
 | cons a r ih =>
  refine xA (yr.mp h) λh1 h2=>?_;rcases bK.mp hp with rfl | SU<;>rcases bK.mp hq with rfl | hq'
  ·rfl
  ·exact absurd e (h1 _ hq')
  ·exact absurd e.symm (h1 _ SU)
  ·exact ih h2 SU hq'
section
variable (b:List (Str×Value))
theorem LR:∀m:Str->Option Value,x∉b.map (·.1)->bindL k b m x=m x:=by
 induction b with
 | nil=>exact λz z=>rfl
 | cons p r ih =>
  intro m h;refine xA (not_or.mp (λq=>h (bK.mpr q))) λh1 h2=>?_;refine(ih _ h2).trans ?_;by_cases q:k p.1=some .local
  ·rw[au q];exact ai h1
  ·rw[ai q]
theorem LU:∀m:Str->Option Value,x∉b.map (·.1)->bindC k b m x=m x:=by
 induction b with
 | nil=>exact λz z=>rfl
 | cons p r ih =>
  intro m h;refine xA (not_or.mp (λq=>h (bK.mpr q))) λh1 h2=>?_;refine(ih _ h2).trans ?_;by_cases q:k p.1=some .local
  ·rw[au q]
  ·rw[ai q];exact ai h1
theorem EK(hk:k x=some .local):∀m:Str->Option Value,(b.map (·.1)).Nodup->(x,v)∈b->bindL k b m x=some v:=by
 induction b with
 | nil=>exact λz z h=>nomatch h
 | cons p r ih =>
  intro m hn h;refine xA (fQ.mp hn) λh1 h2=>?_;rcases bK.mp h with e | h
  ·subst e;refine(LR r _ h1).trans ?_;rw[au hk,au rfl]
  ·exact ih _ h2 h
theorem EL(hk:k x=some .cell):∀m:Str->Option Value,(b.map (·.1)).Nodup->(x,v)∈b->bindC k b m x=some v:=by
 induction b with
 | nil=>exact λz z h=>nomatch h
 | cons p r ih =>
  intro m hn h;refine xA (fQ.mp hn) λh1 h2=>?_;rcases bK.mp h with e | h
  ·subst e;refine(LU r _ h1).trans ?_;rw[ai (by rw[hk];exact λq=>nomatch q),au rfl]
  ·exact ih _ h2 h
end
set_option tactic.hygienic true in
theorem Fw(y:CellsAre cm cs cells):cs.lookup x=some a->∃o,(a,o)∈cells/\o.data=.cell (cm x):=by
 induction y with
 | nil=>exact λh=>nomatch h
 | cons hd _ ih =>
  intro h;rw[jK]at h
  rename_i n _ _ _ _ _
  cases q:x==n with
  | true=>rw[q]at h;cases h;rw[eq_of_beq q];exact⟨_,.head _,hd⟩
  | false =>
   rw[q]at h;refine ak (ih h) λo h1 h2=>?_;exact⟨o,.tail _ h1,h2⟩
theorem we(l:List Str):∀{k i:Nat},(l.zipIdx k).lookup x=some i->∃j,i=k+j/\l[j]? =some x:=by
 induction l with
 | nil=>exact λh=>nomatch h
 | cons a r ih =>
  intro k i h;rw[C3,jK]at h;cases q:x==a with
  | true=>rw[q]at h;cases h;rw[eq_of_beq q];exact⟨0,rfl,rfl⟩
  | false =>
   rw[q]at h;apply dq (ih h);intro j h2;exact⟨j+1,Nat.succ_add_eq_add_succ k j,h2⟩
structure pO(sc:Scope)(aD:List Str)(np:Nat):Prop where
 kind:sc.kind=.function
 gen:sc.isGenerator=false
 co:sc.isCoroutine=false
 nd:aD.Nodup
 ndc:((cellsFrom 0 sc.names []).map (·.1)).Nodup
 np:np<=aD.length
 nf:∀x,sc.names.lookup x≠some .free
 k:∀x∈aD,sc.names.lookup x=some .local∨(sc.names.lookup x=some .cell/\∀n,∃a,(cellsFrom n sc.names []).lookup x=some a)
theorem LV{b:Bool}(h:(!b)=true):b=false:=by
 cases b with
 | false=>rfl
 | true=>cases h
theorem uP{np:Nat}(h:Dr sc aD np=true):pO sc aD np:=by
 refine xA (cG.mp h) λh h7=>?_;refine xA (cG.mp h) λh h8=>?_;refine xA (cG.mp h) λh h6=>?_;refine xA (cG.mp h) λh h5=>?_;refine xA (cG.mp h) λh h4=>?_;refine xA (cG.mp h) λh h3=>?_;refine xA (cG.mp h) λh1 h2=>?_;refine⟨aN h1,LV h2,LV h3,aN h4,aN h5,aN h6,λx hx=>aN (aS.mp h8 _ (iN hx)) rfl,λx hx=>?_⟩;rcases CO.mp (aS.mp h7 x hx)with h | h
 ·exact .inl (aN h)
 ·refine xA (cG.mp h) λh h'=>?_;exact .inr ⟨aN h,λn=>tX.mp (by rw[wY (cellsFrom_names sc.names n 0 [] [] rfl)];exact h')⟩
theorem G4(l:List α):∀vs:List β,(l.zip vs).map (·.1)=l.take vs.length:=by
 induction l with
 | nil=>exact λvs=>by rw[List.take_nil];rfl
 | cons a l ih=>exact λvs=>by cases vs with
  | nil=>rfl
  | cons b vs=>exact bE (a::·) (ih vs)
theorem G5{ds:List PV}{n i:Nat}(e:((ds.map some++List.replicate n none)[i]?).join=some d):ds[i]? =some d:=by
 rw[List.getElem?_append]at e;by_cases h:i<(ds.map some).length
 ·rw[au h,cv]at e;cases q:ds[i]? with
  | none=>rw[q]at e;cases e
  | some d'=>rw[q]at e;exact e
 ·rw[ai h,List.getElem?_replicate]at e;by_cases q:i-(ds.map some).length<n
  ·rw[au q]at e;cases e
  ·rw[ai q]at e;cases e
theorem yU{sc:Scope}{aD:List Str}{np:Nat}{L:Addr}{cm:Str->Option Value}{cells:List (Addr×Obj)}(SF:pO sc aD np)(Y:CellsAre cm (cellsFrom (L+1) sc.names []) cells){x:Str}(hx:x∈aD) :
  (sc.names.lookup x=some .local/\fC L sc.names x=.ns L x)∨∃a o,sc.names.lookup x=some .cell/\fC L sc.names x=.cell a/\(cellsFrom (L+1) sc.names []).lookup x=some a/\L<a/\(a,o)∈cells/\o.data=.cell (cm x):=by
 rcases SF.k x hx with h | ⟨h,h'⟩
 ·exact .inl ⟨h,ai (by rw[h];exact λq=>nomatch q)⟩
 ·refine xE (h' (L+1)) λa ha=>?_;refine ak (Fw Y ha) λo ho hd=>?_;exact .inr ⟨a,o,h,by unfold fC;rw[au h,ha];rfl,ha,QA sc.names (L+1) [] (aB _) (λp hp=>nomatch hp) _ (iN ha),ho,hd⟩
noncomputable def A1(c:Cx)(G6:Env)(g:Heap)(L':Addr)(dS:List iw):Cx:={A:=c.A.deeper G6,hO:=G6,aj:=G6,bY:=c.hO::c.bY,GG:=c.A,base:=c.base,h₀:=g,L:=L',dS:=dS}
theorem EM(SF:pO sc aD np):bh (zU sc aD) (A1 c (envOfC qual sc L f cdv) g L (aD.map (fC L sc.names))) where
 kind:=SF.kind
 names:=rfl
 mI:=rfl
 bi:=rfl
 len:=aK _
 var:=λx i hi=>by
  apply dq (we aD hi);intro j hx;rw[fS];obtain hl:(aD.map (fC L sc.names))[j]? =some (fC L sc.names x):=by rw[cv,hx];rfl
  rcases SF.k x (aH hx)with h | ⟨h,h'⟩
  ·refine .inl ⟨h,hl.trans (bE some (ai (by rw[h];exact λq=>nomatch q)))⟩
  ·refine xE (h' (L+1)) λa ha=>?_;exact .inr ⟨.inl h,a,ha,hl.trans (bE some (by unfold fC;rw[au h,ha];rfl))⟩
theorem G7{c:Cx}(SF:pO sc aD np):fD (A1 c (envOfC qual sc L f cdv) g L (aD.map (fC L sc.names))) where
 loc:=rfl
 ap:=λi j v w hv hw eI=>by
  obtain hv:(aD.map (fC L sc.names))[i]? =some v:=hv;obtain hw:(aD.map (fC L sc.names))[j]? =some w:=hw;rw[cv]at hv hw;apply eN (f9.mp hv);intro x hx;apply eN (f9.mp hw);intro y hy;have G8:x≠y:=by
   rintro rfl;refine xE (bP.mp hx) λh1 e1=>?_;refine xE (bP.mp hy) λh2 e2=>?_;exact eI ((yB SF.nd).mp (e1.trans e2.symm))
  unfold fC;rcases SF.k x (aH hx)with h | ⟨h,h'⟩<;>rcases SF.k y (aH hy)with g | ⟨g,g'⟩
  ·rw[ai (show ¬ sc.names.lookup x=some .cell by rw[h];exact λq=>nomatch q),ai (show ¬ sc.names.lookup y=some .cell by rw[g];exact λq=>nomatch q)];exact λe=>G8 (iw.ns.inj e).2
  ·rw[ai (show ¬ sc.names.lookup x=some .cell by rw[h];exact λq=>nomatch q),au g];exact λe=>nomatch e
  ·rw[ai (show ¬ sc.names.lookup y=some .cell by rw[g];exact λq=>nomatch q),au h];exact λe=>nomatch e
  ·refine xE (h' (L+1)) λa ha=>?_;refine xE (g' (L+1)) λb hb=>?_;rw[au h,au g,ha,hb];intro e;obtain this:=QC (NO sc.names (L+1) [] (λp hp=>nomatch hp) List.Pairwise.nil) (iN ha) (iN hb) (iw.cell.inj e);exact G8 (bE (·.1) this)
 EJ:=λi a x hi=>by
  obtain hi:(aD.map (fC L sc.names))[i]? =some (.ns a x):=hi;rw[cv]at hi;refine ak (f9.mp hi) λy hy e=>?_;unfold fC at e;by_cases q:sc.names.lookup y=some .cell
  ·rw[au q]at e;cases e
  ·rw[ai q]at e;cases e;rfl
 nf:=SF.nf
section
theorem LX{P:Env->Shared->Prop}
  (B:Below GG base bY h₀) (F:Fr h₀ L s.heap m) (N:News h₀ L s.heap news) (acw:h₀.NoLimit) (hA:A.frames=some (aj::bY)) (hf:aj.frame=some L) (hke:aj.scope.kind=.function)
  (qJ:BindsTo s (fnX name qual params body scope [] dV kV doc pm an cdv ct) args me)
  (ZX:∀n,∀x∈me,scope.names.lookup x.1=some .local∨(scope.names.lookup x.1=some .cell/\((cellsFrom n scope.names []).lookup x.1).isSome=true))
  (G9:((cellsFrom 0 scope.names []).map (·.1)).Nodup) (hk:scope.kind=.function)
  (h:∀g L' h₁ tk cells,Fr h₀ L g m->Fr g L' h₁ (bindL (envOfC qual scope L' f cdv).kindOf me λz=>none)->News g L' h₁ (cells++news) ->
   CellsAre (bindC (envOfC qual scope L' f cdv).kindOf me λz=>none) (cellsFrom (L'+1) scope.names []) cells->Below A base (aj::bY) g->h₀.StaysIn g->(∀p∈news,p.1<L') ->
   P (envOfC qual scope L' f cdv) {s with heap:=h₁,toks:=tk}) :
  wpAny (model prog w) A.in1 (bindArgs (fnX name qual params body scope [] dV kV doc pm an cdv ct) args) (λme aE=>wpAny (model prog w) A.in1 (newFunctionEnv scope mainGlobals [] me (qual++".<locals>.") (some f) cdv none builtinsNs)
   (λaj bq=>bq.heap.NoLimit/\P aj bq) E aE) E s:=by
 refine p9 (groundX (R:=λz z=>True) B F N hA hf hke) λFG BG st z=>?_;refine qJ _ _ _ _ (wpAny_newFunctionEnv_cells hk (ZX _) λG6 he s' x=>?_);subst he;refine cq x.done λh₁ tk gy z=>?_;obtain rfl:=gy;obtain keep:=x.toInCall.keep;refine ak (Cl.news (h₀:=s.heap) (aB _) λn c hm=>⟨x.cell n c (lookup_of_mem_nodup (cellsFrom_names scope.names 0 (s.heap.objs.size+1) [] [] rfl▸G9) hm),x.above n c hm⟩) λcells NC Y=>?_;refine⟨(acw.keeps F.keep).keeps keep,h _ s.heap.objs.size h₁ tk cells FG ⟨x.toInCall.ns,λb o e=>keep b o (of_hideAll _ e),bL (hideAll_size _ _)⟩ (λp hp=>?_) Y BG st (λp hp=>bX (N p hp).1)⟩;rcases dt.mp hp with hp | hp
 ·refine⟨(NC p hp).1,(NC p hp).2.1,?_⟩;cases q:(hideAll s.heap (news.map (·.1))).get? p.1 with
  | none=>rfl
  | some o=>exact nomatch (NC p hp).2.2.symm.trans (of_hideAll _ q)
 ·exact⟨keep _ _ (N p hp).1,cU (bX (N p hp).1),hideAll_none _ (jI hp)⟩
noncomputable def SV(f:Flow):Value:=match f with | .ret v=>v | _=>.none
structure NQ(c c':Cx)(s bq:Shared):Prop where
 A:c'.A=c.A.deeper c'.aj
 bY:c'.bY=c.hO::c.bY
 GG:c'.GG=c.A
 base:c'.base=c.base
 jY:c.h₀.StaysIn c'.h₀
 ground:c'.h₀.FunFrames c.base (c.hO::c.bY)
 size:∀b o,s.heap.get? b=some o->b<c'.L
 gr:dK c.L s.heap bq.heap
 frame:∃o,bq.heap.get? c.L=some o
 loc:∀b o,s.heap.get? b=some o->∀v∈c'.dS,v.iU≠b
 rest:∃tk,bq={s with heap:=bq.heap,toks:=tk}
theorem wZ{ds:List PV}{E':Value->Shared->Prop}{P:Env->Shared->Prop}
  (C:bw G ⟨n+1,hn⟩ c) (R:aG G c s.heap ρ l S) (V:c5 ρ s.heap vs ds)
  (SF:pO scope aD ds.length)
  (qJ:BindsTo s (fnX name qual params body scope [] dV kV doc pm an cdv ct) args (aD.zip vs))
  (fE:∀c' (bq:Shared),NQ c c' s bq->bw G ⟨n,hn⟩ c'->bh (zU scope aD) c'->fD c'->aG G c' bq.heap ρ (ds.map some++List.replicate (aD.length-ds.length) none) S->P c'.aj bq) :
  wpAny G.M c.A.in1 (bindArgs (fnX name qual params body scope [] dV kV doc pm an cdv ct) args) (λme aE=>wpAny G.M c.A.in1 (newFunctionEnv scope mainGlobals [] me (qual++".<locals>.") (some f) cdv none builtinsNs)
   (λaj bq=>bq.heap.NoLimit/\P aj bq) E' aE) E' s:=by
 refine xE R.fr λm F=>?_;have NR:((aD.zip vs).map (·.1)).Nodup:=by rw[G4];exact SF.nd.sublist (ro _ _)
 refine LX C.below F R.news C.T.nolimit C.frames C.pN C.fk qJ (λk x hx=>?_) SF.ndc SF.kind (λg L' h₁ tk cells Fg F' N' Y B st low=>?_)
 ·rcases SF.k _ (List.of_mem_zip hx).1 with h | ⟨h,h'⟩
  ·exact .inl h
  ·refine xE (h' k) λa ha=>?_;exact .inr ⟨h,by rw[ha];rfl⟩
 have gr:dK c.L s.heap h₁:=by
  refine⟨λb o nb e=>?_,λm' hU=>?_⟩
  ·cases q:c.h₀.get? b with
   | some o'=>have:=R.keep b o' q;rw[e]at this;cases this;exact F'.keep b o (st b o q)
   | none=>exact(N' _ (tY _ (lg.mpr ⟨e,q,nb⟩))).1
  ·rw[AQ hU F.ns];exact Fg.ns.keeps F'.keep
 have Ha:∀b o,s.heap.get? b=some o->b<L':=by
  intro b o e;by_cases hb:b=c.L
  ·subst hb;exact aJ Fg.ns.lt F'.above
  ·cases q:c.h₀.get? b with
   | some o'=>exact aJ (bX (st b o' q)) F'.above
   | none=>exact low _ (lg.mpr ⟨e,q,hb⟩)
 obtain tk':=R.jU gr;have yV:∀v∈aD.map (fC L' scope.names),L'<=v.iU/\g.get? v.iU=none:=by
  intro v hv;apply eN (bH.mp hv);intro x hx;rcases yU SF Y hx with⟨_,e⟩ | ⟨a,o,_,e,_,bz,hm,_⟩
  ·rw[e];exact⟨aB _,yl F'.above⟩
  ·rw[e];exact⟨cZ bz,(N' _ (CG _ hm)).2.2⟩
 have SW:∀b o,s.heap.get? b=some o->∀v∈aD.map (fC L' scope.names),v.iU≠b:=λb o e v hv e'=>absurd (Ha b o e) (oK.mpr (e'▸(yV v hv).1));have C':bw G ⟨n,hn⟩ (A1 c (envOfC qual scope L' f cdv) g L' (aD.map (fC L' scope.names))) :=
  {
   below:=B
   frames:=by show c.A.frames.map _=_;rw[C.frames];rfl
   pN:=rfl
   fk:=SF.kind
   K:=C.K.keeps st
   T:=C.T.keeps st
   depth:=ab (bL (Nat.succ_add_eq_add_succ _ _)) C.depth
   units:=by obtain this:=C.units;show c.A.units+3+8*n<=9000;simp only at this;exact ag 0x1d192b036d1ccd757fc9be7ba92ca3b6f71999782ab this
   hn:=C.hn
   nb:=C.nb
   gx:=.inl (C.gx.elim (λh=>mS h) λh=>Nat.le_of_succ_le_succ h.1)}
 obtain R':aG G (A1 c (envOfC qual scope L' f cdv) g L' (aD.map (fC L' scope.names))) h₁ ρ (ds.map some++List.replicate (aD.length-ds.length) none) S :=
  {
   keep:=F'.keep
   above:=F'.above
   rR:=uA (by decide) C'.T.g.lt
   len:=by show _=(aD.map _).length;rw[aW,aK,aK,jG];exact yo SF.np
   gz:=⟨_,F'.ns⟩
   cQ:=λv hv=>(yV v hv).2
   var:=λi v hi=>by
    have iu:(aD.map (fC L' scope.names))[i]? =some v:=hi;rw[cv]at iu;apply eN (f9.mp iu);intro x hx;have hz:∀d,((ds.map some++List.replicate (aD.length-ds.length) none)[i]?).join=some d->∃w,(x,w)∈aD.zip vs/\VI ρ h₁ w d:=by
     intro d e;refine ak (L2.get V (G5 e)) λw hw W=>?_;exact⟨w,aH (i:=i) (List.getElem?_zip_eq_some.mpr ⟨hx,hw⟩),W.mono (bV _) tk'⟩
    rcases yU SF Y (aH hx)with⟨h,e⟩ | ⟨a,o,h,e,_,_,hm,hd⟩
    ·rw[e];refine⟨_,F'.ns,λd e=>?_⟩;refine ak (hz d e) λw hw W=>?_;exact⟨w,EK _ h _ NR hw,W⟩
    ·rw[e];refine⟨o,_,(N' _ (CG _ hm)).1,hd,λd e=>?_⟩;refine ak (hz d e) λw hw W=>?_;exact⟨w,EL _ h _ NR hw,W⟩
   aX:=⟨R.aX.len,R.aX.nd,(R.yR gr).at_,λa ha=>by
    refine ak (R.aX.live ha) λob Hb y=>?_;obtain z:=R.aX.cQ a ha;obtain hN:=N' _ (tY _ (lg.mpr ⟨Hb,z.1,z.2.1⟩));exact⟨hN.2.2,hN.2.1,SW a ob Hb⟩⟩
   exc:=λv hv=>by
    apply zr ((R.exc v hv).at_);intro a ob ws hL ho hd h2 hs;exact⟨a,ob,ws,rfl,cU (Ha a ob ho),gr.old _ _ hL ho,hd,h2,hs⟩}
 refine fE (A1 c (envOfC qual scope L' f cdv) g L' (aD.map (fC L' scope.names))) ⟨h₁,_,_,tk,_⟩ ⟨rfl,rfl,rfl,rfl,st,B.frames,Ha,gr,(nE (Fg.ns) λy y y EO y=>⟨_,F'.keep _ _ EO⟩),SW,tk,rfl⟩ C' (EM SF) (G7 SF) R'
theorem NQ.Xl(N:NQ c c' s bq)(R:aG G c s.heap ρ l S)(T:eO c' bq.heap ρ da jX)(Hc:ρ <+: la)(sub:∀a,a∉jX->a∉la)(xa:bR G c' da la aL) :
  bR G c da la aL/\bS c.L s.heap ρ da la:=by
 have keep:∀b o,s.heap.get? b=some o->b∉ρ->(∀o',bq.heap.get? b=some o'->da.get? b=some o')/\b∉la:=by
  intro b o e q';obtain⟨tA,SX⟩:∃tA,bq.heap.get? b=some tA:=by
   by_cases hb:b=c.L
   ·subst hb;exact N.frame
   ·exact⟨_,N.gr.old b o hb e⟩
  have z:=T.old b tA (cU (N.size b o e)) (N.loc b o e) SX q';exact⟨λo' e'=>Option.some.inj (SX.symm.trans e')▸z.1,sub b z.2⟩
 refine xE R.fr λm F=>?_;refine⟨⟨xa.len,xa.nd,xa.at_,λa ha=>⟨?_,?_,λw hw e'=>?_⟩⟩,⟨Hc,λb o nb e q'=>⟨(keep b o e q').1 o (N.gr.old b o nb e),(keep b o e q').2⟩,λm' hU=>?_⟩⟩
 ·cases q':c.h₀.get? a with
  | none=>rfl
  | some o'=>exact nomatch (N.jY a o' q').symm.trans (xa.cQ a ha).1
 ·rintro rfl;refine nE F.ns λoL esL epL EO rL=>?_;exact(keep _ _ EO λq=>(R.aX.cQ _ q).2.1 rfl).2 ha
 ·refine ak (R.AR hw) λob Hb y=>?_;rw[e']at Hb;exact(keep _ _ Hb λq=>(R.aX.cQ _ q).2.2 w hw e').2 ha
 ·obtain h1:=N.gr.ns m' hU;refine nE F.ns λoL esL epL EO rL=>?_;exact h1.at' λo e=>(keep c.L oL EO λq=>(R.aX.cQ _ q).2.1 rfl).1 o e
theorem A2{P:Env->Shared->Prop}
  (C:bw G ⟨n+1,hn⟩ c) (R:aG G c s.heap ρ l S) (V:c5 ρ s.heap vs ds)
  (SF:pO scope aD ds.length)
  (qJ:BindsTo s (fnX name qual params body scope [] dV kV doc pm an cdv ct) args (aD.zip vs))
  (fE:∀c' (bq:Shared),c'.A=c.A.deeper c'.aj->bw G ⟨n,hn⟩ c'->bh (zU scope aD) c'->fD c'->aG G c' bq.heap ρ (ds.map some++List.replicate (aD.length-ds.length) none) S ->
   (∀fl f' h' tk' ar l' S',aG G c' h' ar l' S'->eO c' bq.heap ρ h' ar->FlV ar h' fl f'->dT S Q (lq f') S'->j7 QQ E (.ok (.ret (match fl with | .ret v=>v | _=>.none))) {bq with heap:=h',toks:=tk'})->P c'.aj bq)
  (K:fi G c s ρ Q QQ):wpAny G.M c.A.in1 (bindArgs (fnX name qual params body scope [] dV kV doc pm an cdv ct) args) (λme aE=>wpAny G.M c.A.in1 (newFunctionEnv scope mainGlobals [] me (qual++".<locals>.") (some f) cdv none builtinsNs)
   (λaj bq=>bq.heap.NoLimit/\P aj bq) E' aE) E' s:=by
 refine wZ C R V SF qJ λc' bq N C' O' F' R'=>fE c' bq N.A C' O' F' R' λfl f' da lI jX l'' n8 xb T W q=>?_;obtain⟨v,hv,V''⟩:∃v,SV fl=v/\VI jX da v (lq f'):=by
  cases f' with
  | next=>obtain rfl:=W;exact⟨_,rfl,VI.none⟩
  | ret d=>obtain⟨v,rfl,W⟩:=W;exact⟨v,rfl,W⟩
 refine xE N.rest λiO Hd=>?_;rw[Hd];show QQ (SV fl) {s with heap:=da,toks:=lI};rw[hv];refine PT (q G _ da ρ jX v R.aX.len T.pre xb.aX V'') λla e aL Hc sub xa QD acx=>?_;refine xA (N.Xl R T Hc sub xa) λX T'=>?_;exact K v e da lI la aL X T' QD acx
theorem enter{E:Value->Shared->Prop}
  (C:bw G ⟨n+1,hn⟩ c) (R:aG G c s.heap ρ l S) (V:c5 ρ s.heap vs ds)
  (ho:s.heap.get? f=some fo) (hd:fo.data=.func (fnX name qual params body scope [] dV kV doc pm an cdv ct)) (NT:s.heap.CodeRec cdv qual) (SF:pO scope aD ds.length)
  (qJ:BindsTo s (fnX name qual params body scope [] dV kV doc pm an cdv ct) args (aD.zip vs))
  (fE:∀c',bw G ⟨n,hn⟩ c'->bh (zU scope aD) c'->fD c'->ES G c' body (ds.map some++List.replicate (aD.length-ds.length) none) S λfl z S'=>dT S Q (lq fl) S')
  (K:fi G c s ρ Q QQ):codeAny G.M c.A (.call (.ref f) args) (j7 QQ E) s:=by
 refine Cw (a6 (ab (cT _ _) C.depth) (by decide)) ho hd SF.co SF.gen rfl NT (A2 (E:=E) C R V SF qJ (P:=λaj bq=>codeAny G.M c.A (.func body aj) (j7 QQ E) bq) (λc' bq hA C' O' F' R' L=>codeAny_func ?_) K);obtain this:=fE c' C' O' F' ρ bq (λfl s'=>j7 QQ E (.ok (.ret (match fl with | .ret v=>v | _=>.none))) s') (λe s'=>wpAny G.M c'.A (leaving c'.aj e) (λz A3=>j7 QQ E (.error e) A3) (λe' A3=>j7 QQ E (.error e') A3) s') R' λf fl h' tk' ar l' S' xb T W q=>L f fl h' tk' ar l' S' xb T W q
 rw[hA]at this;exact this
end
noncomputable def UG(K:Frag):Bool:=jC.all λq=>match q.2 with
 | .fn a=>keepIn K (.ref a)
 | .cls c=>keepIn K (.ref (dJ c))&&makesIn K (dJ c)&&findIn K (.ref (dJ c)) "__init__"==some (some (.ref (ma c)))&&typeIn K (.ref (ma c))==some (.type "function")
 | _=>true
theorem He(p:Params):UG (KF p)=true:=by kernel_rfl
noncomputable def NU(K:Frag)(c:jo)(q:Mt×Addr):Bool:=findIn K (.ref (dJ c)) (qF q.1)==some (some (.ref q.2))&&isFn K (.ref q.2)&&keepIn K (.ref q.2)&&(lT c).all λg=>!(er g==qF q.1)
theorem UH(p:Params):(GZ.all λc=>(WD c).all (NU (KF p) c))=true:=by kernel_rfl
structure ZY(K:Frag)(c:jo)(m:Mt)(f:Addr):Prop where
 find:findIn K (.ref (dJ c)) (qF m)=some (some (.ref f))
 fn:isFn K (.ref f)=true
 keep:keepIn K (.ref f)=true
 no:∀g∈lT c,(er g==qF m)=false
theorem SY(G:GX){c:jo}{m:Mt}{f:Addr}(h:LF c m=some f):ZY G.K c m f:=by
 obtain this:=aS.mp (aS.mp (UH G.w.params) c (Ke c)) _ (NH h);unfold NU at this;rw[jc,jc,jc,aS]at this;refine xA this λdc h4=>?_;obtain⟨⟨h1,h2⟩,h3⟩:=dc;exact⟨eq_of_beq h1,h2,h3,λg hg=>LV (h4 g hg)⟩
theorem Ds(G:GX){x:Str}{a:Addr}(h:jC.lookup x=some (.fn a)):keepIn G.K (.ref a)=true:=aS.mp (He G.w.params) _ (iN h)
structure Xm(K:Frag)(c:jo):Prop where
 keep:keepIn K (.ref (dJ c))=true
 mks:makesIn K (dJ c)=true
 init:findIn K (.ref (dJ c)) "__init__"=some (some (.ref (ma c)))
 fn:typeIn K (.ref (ma c))=some (.type "function")
theorem Hf(G:GX){x:Str}{c:jo}(h:jC.lookup x=some (.cls c)):Xm G.K c:=by
 obtain this:=aS.mp (He G.w.params) _ (iN h);dsimp only at this;rw[jc,jc,jc]at this;refine xA this λdn h4=>?_;obtain⟨⟨h1,h2⟩,h3⟩:=dn;exact⟨h1,h2,eq_of_beq h3,eq_of_beq h4⟩
section
variable {G:GX} {c:Cx} {s:Shared}
theorem qK(h:es.all noStar=true)(aj:Env)(pos:Pos):(backTo pos (starEach es aj)).any (·.1)=false:=by
 induction es with
 | nil=>rfl
 | cons e r ih =>
  refine xA (cG.mp h) λh1 h2=>?_;rw[fZ h1];show(false||(backTo pos (starEach r aj)).any (·.1))=false;rw[ih h2];rfl
theorem A4(C:bw G lv c)(hk:keepIn G.K f=true)(hs:es.all noStar=true)(R:aG G c s.heap ρ l S)
  (h:gj G c es l S Q') (K:∀vs ds h' tk' ar S',bR G c h' ar S'->bS c.L s.heap ρ h' ar->c5 ar h' vs ds->Q' ds S'->wpAny G.M c.A (call f (first++vs)) QQ E {s with heap:=h',toks:=tk'}) :
  wpAny G.M c.A (callWith pos f first (backTo pos (starEach es c.aj)) []) QQ E s:=by
 cases es with
 | nil =>
  refine callWith_K0 (C.K.keeps R.keep) hk ?_;exact ae (m:=spliced (backTo pos (starEach [] c.aj))) (f:=λvs=>call f (first++vs)) (h pos ρ s _ E R λvs ds h' tk' ar S' X T V q=>K vs ds h' tk' ar S' X T V q)
 | cons e r =>
  refine xA (cG.mp hs) λh1 h2=>?_;refine callWith_K C.K hk ?_ (fZ h1 _ _) (qK h2 _ _);exact h pos ρ s _ E R λvs ds h' tk' ar S' X T V q=>⟨C.K.keeps (R.step T X).keep,K vs ds h' tk' ar S' X T V q⟩
theorem uQ(h:codeAny G.M c.A (.call f ⟨vs,[]⟩) (j7 QQ E) s):wpAny G.M c.A (call f vs) QQ E s :=
 oI (kX h λr s' z=>by rcases r with e | (v | _ | _ | _)<;>exact z)
theorem UI(O:bh se c)(C:bw G lv c)(hx:(x==("__debug__":Str))=false)(hk:se.names.lookup x=some .globalImplicit)(hg:jC.lookup x=some (.fn f))(hs:es.all noStar=true)
  (h:gj G c es l S λds aa=>aT G lv f ds aa Q):EV G c (.Call (.Name x p) es [] pos) l S Q:=λρ s QQ E R K=>by
 refine Call_ (lp O C R hx hk (Qv hg) ?_) rfl;refine A4 C (Ds G hg) hs R h (first:=[]) λvs ds h' tk' ar S' X T V q=>uQ ?_
 exact q c C _ _ vs l QQ E (R.step T X) V (K.step T)
theorem aG.under(R:aG G c s.heap ρ l S){A:Around}(h:A.handled=c.A.handled):aG G {c with A:=A} s.heap ρ l S :=
 {keep:=R.keep,above:=R.above,rR:=R.rR,len:=R.len,gz:=R.gz,cQ:=R.cQ,var:=R.var,aX:=⟨R.aX.len,R.aX.nd,R.aX.at_,R.aX.cQ⟩,exc:=λv hv=>R.exc v (h▸hv)}
structure Made(G:GX)(lv:Lv)(c:Cx)(h:Heap)(ρ:List Addr)(l:a9)(S:St)(cl:jo)(A':Around)(x dx:Addr)(h':Heap):Prop where
 n9:aG G {c with A:=A'} h' (ρ++[dx,x]) l (S++[.aA cl [],.bc cl S.length])
 step:bS c.L h ρ h' (ρ++[dx,x])
 ok:bw G ⟨lv.n-1,lv.hn⟩ {c with A:=A'}
 at_:(ρ++[dx,x])[S.length+1]? =some x
theorem Hg(C:bw G lv c)(hl:1<=lv.n)(R:aG G c s.heap ρ l S)(F:Fr c.h₀ c.L s.heap m)(F':Fr c.h₀ c.L h' m)(N':News c.h₀ c.L h' ((x,instObj (dJ cl) dx)::(dx,emptyDict)::ng c s.heap))
  (l1:∀p∈ng c s.heap,p.1<dx) (l2:dx<x):Made G lv c s.heap ρ l S cl (c.A.under (.builtin "type.__call__" ⟨.ref (dJ cl)::vs,kw⟩)) x dx h':=by
 have gr:dK c.L s.heap h':=R.rS F.ns F' N' λp hp=>.tail _ (.tail _ hp);obtain Nx:=N' _ (.head _);obtain Nd:=N' _ (.tail _ (.head _));have fd:∀ob,s.heap.get? dx≠some ob:=λob e=>absurd (l1 _ (lg.mpr ⟨e,Nd.2.2,Nd.2.1⟩)) (jg _);have fx:∀ob,s.heap.get? x≠some ob:=λob e=>absurd (uA (l1 _ (lg.mpr ⟨e,Nx.2.2,Nx.2.1⟩)) l2) (jg _);have X1:bR G c h' (ρ++[dx]) (S++[.aA cl []]):=R.GH gr fd (o:=.aA cl []) ⟨[],0,Nd.1,.nil,⟨bM _,iy⟩,λf hf=>nomatch hf⟩;obtain T1:=R.zQ gr fd;obtain hd:(ρ++[dx])[S.length]? =some dx:=by rw[<- R.aX.len,d9 (aB _),gw];rfl
 obtain e1:ρ++[dx]++[x]=ρ++[dx,x]:=aw _ _ _;obtain e2:S++[AO.aA cl []]++[AO.bc cl S.length]=S++[.aA cl [],.bc cl S.length]:=aw _ _ _;obtain hx:(ρ++[dx,x])[S.length+1]? =some x:=by rw[<- R.aX.len,d9 (kZ _),show ρ.length.succ-ρ.length=1 from ou (n:=ρ.length) (m:=1)];rfl
 obtain hnx:x∉ρ++[dx]:=λq=>(dt.mp q).elim (R.dead fx) λq=>absurd (aV.mp q) (jh l2);have X2:bR G c h' (ρ++[dx]++[x]) (S++[.aA cl []]++[.bc cl S.length]) :=
  X1.Di hnx (R.uJ fx) ⟨dx,d7 ⟨_,rfl⟩ hd,Nx.1⟩
 obtain T2:bS c.L s.heap ρ h' (ρ++[dx]++[x]):=⟨⟨_,e1.symm⟩,λb ob n e q=>⟨gr.old b ob n e,λhm=>(dt.mp hm).elim (T1.old b ob n e q).2 λhm=>fx ob (aV.mp hm▸e)⟩,gr.ns⟩;rw[e1]at X2 T2;rw[e2]at X2;refine⟨aG.under (s:={s with heap:=h'}) (R.step T2 X2) rfl,T2,?_,hx⟩;exact {
     below:=C.below,frames:=by show pushEnvs [] c.A.frames=_;rw[C.frames];rfl,pN:=C.pN,fk:=C.fk,K:=C.K,T:=C.T,
      depth:=by obtain this:=C.depth;show c.A.depth+1+(lv.n-1)<=900;exact az 0x18fecc86f77f8c06885beb5f38bf7d15a7e9 this (ba (ah 28149223253875 hl)),
      units:=by obtain this:=C.units;show c.A.units+1+8*(lv.n-1)<=9000;exact az 0x69dbea571011833d9470e4f7fda694a174f50cd8439b7f9d20b this (ba (ah 28149223253875 hl)),hn:=C.hn,nb:=C.nb,gx:=C.gx.imp (ab (cV _ _)) λh=>⟨ab (cV _ _) h.1,h.2⟩}
theorem Kf(C:bw G lv c)(hl:1<=lv.n)(N:Xm G.K cl)(R:aG G c s.heap ρ l S)
  (h:∀x dx h',Made G lv c s.heap ρ l S cl (c.A.under (.builtin "type.__call__" ⟨.ref (dJ cl)::vs,kw⟩)) x dx h' ->
   codeAny G.M (c.A.under (.builtin "type.__call__" ⟨.ref (dJ cl)::vs,kw⟩)) (.call (.ref (ma cl)) ⟨.ref x::vs,kw⟩) (InitBack x (j7 QQ E)) {s with heap:=h'}) :
  codeAny G.M c.A (.call (.ref (dJ cl)) ⟨vs,kw⟩) (j7 QQ E) s:=by
 refine xE R.fr λm F=>?_;exact make_K F R.news (C.K.keeps R.keep) N.mks N.init N.fn λx dx h' F' N' l1 l2=>h x dx h' (Hg C hl R F F' N' l1 l2)
theorem NV(O:bh se c)(C:bw G lv c)(hx:(x==("__debug__":Str))=false)(hk:se.names.lookup x=some .globalImplicit)(hg:jC.lookup x=some (.cls cl))(hs:es.all noStar=true)
  (h:gj G c es l S λds aa=>1<=lv.n/\aT G ⟨lv.n-1,lv.hn⟩ (ma cl) (.ref (aa.length+1)::ds) (aa++[.aA cl [],.bc cl aa.length]) λr af=>r=.none/\Q (.ref (aa.length+1)) af) :
  EV G c (.Call (.Name x p) es [] pos) l S Q:=λρ s QQ E R K=>by
 refine Call_ (lp O C R hx hk (LQ hg) ?_) rfl;refine A4 C (Hf G hg).keep hs R h (first:=[]) λvs ds h' tk' ar S' X T V q=>uQ ?_
 refine Kf C q.1 (Hf G hg) (R.step T X) λx dx da ⟨R2,T2,C2,EP⟩=>?_;obtain ER:=(R.step T X).tup T2;refine kX (q.2 _ C2 _ _ (.ref x::vs) l (λv s'=>v=.none/\QQ (.ref x) s') E R2 (.cons (.ref EP) (V.mono T2.pre ER)) λv d h3 lV uR S3 X3 T3 V3 q3=>?_) λr s' z=>?_
 ·obtain⟨rfl,q3⟩:=q3;exact⟨V3,K _ (.ref (S'.length+1)) _ _ _ _ ⟨X3.len,X3.nd,X3.at_,X3.cQ⟩ ((T.trans T2).trans T3) (.ref (d7 T3.pre EP)) q3⟩
 ·rcases r with e | (v | _ | _ | _)<;>exact z
theorem oV(hn:jN o=true)(hs:args.all noStar=true)(hl:args.length<29)(lr:(dh.endLine==pos.line)=true)
  (h:wpAny G.M c.A (eval o c.aj) (λov aE=>wpAny G.M c.A (getMethod ov name (do return(<- importBound o c.aj).getD true)) (λfx bq=>wpAny G.M c.A (callWith pos fx.1 fx.2 (backTo pos (starEach args c.aj)) []) QQ E bq) E aE) E s) :
  wpAny G.M c.A (eval (.Call (.Attribute o name dh) args [] pos) c.aj) QQ E s:=by
 rw[arm_eval_Call,tB hn];refine ae (du h (λov aE h₁=>ae (fR ?_)) λz z e=>e);obtain LY:methodCallForm (args.length+([]:List Keyword).length) (backTo pos (starEach args c.aj)) (backToKw pos (keywordEach [] c.aj))=true:=by
  obtain e1:(backTo pos (starEach args c.aj)).all (λx=>!x.1)=true:=by
   rw[List.all_eq_not_any_not];obtain this:=qK hs c.aj pos;simpa using this
  unfold methodCallForm;rw[e1];exact cH (show args.length+0+0<30 from iE hl)
 unfold methodCall;rw[LY];refine ae (dW (du (show wpAny G.M c.A (calleeOf true o c.aj ov name) _ E aE from h₁) (λfx bq cJ=>?_) λz z e=>e));exact ae (cc (show methodCallPos true o c.aj dh pos=pure pos from by unfold methodCallPos;rw[lr];rfl) cJ)
theorem UJ(C:bw G lv c)(hn:jN o=true)(hs:es.all noStar=true)(hl:es.length<29)(lr:(dh.endLine==pos.line)=true)
  (h:EV G c o l S λd aa=>nJ aa d m λf x=>gj G c es l aa λds af=>aT G lv f (.ref x::ds) af Q):EV G c (.Call (.Attribute o (qF m) dh) es [] pos) l S Q:=λρ s QQ E R K=>by
 refine oV hn hs hl lr (h _ _ _ E R λv d h' tk ar S' X T V q=>?_);obtain⟨i,rfl,cl,dx,fs,f,e1,e2,hf,q⟩:=dy q;refine ak V λa ha dX=>?_;obtain rfl:=dX;have R':=R.step T X;refine qD ((R'.bc ha e1 e2).at_) λd wc n z z I z ef z oU=>?_;refine xE R'.fr λm' F=>?_;obtain CF:=vk G cl;obtain MF:=SY G hf;refine method_inst F C.K I (CF.pg _) MF.find MF.fn (FR.none ef λg hg=>MF.no _ (oU _ hg)) ?_;refine A4 C MF.keep hs R' q (first:=[.ref a]) λvs ds h2 ER Xn S2 X2 T2 V2 q2=>uQ ?_
 exact q2 c C _ _ (.ref a::vs) l QQ E (R'.step T2 X2) (.cons (.ref (d7 T2.pre ha)) V2) ((K.step T).step T2)
end
def jt(A:Around)(h:Heap):Prop:=∀v,A.handled=some v->∃a ob vs,v=.ref a/\h.get? a=some ob/\ob.data=.fields vs/\vs[2]? =some .none
theorem NW:entryFor table "proto.unchain"=some Builtin.«proto.unchain»:=ug (by kernel_rfl)
section
theorem NX{α:Type}{e:Addr}{oe:Obj}{ve:Array Value}{Q:α->Shared->Prop}(H:jt A s.heap)(he:s.heap.get? e=some oe)(hd:oe.data=.fields ve)(ek:2<ve.size)(ei:∀a,A.handled=some (.ref a)->a≠e)
  (h:∀h' o',(∀b,b≠e->h'.get? b=s.heap.get? b)->h'.get? e=some o'->o'.cls=oe.cls->E (.ref e) {s with heap:=h'}):wpAny (model prog w) A (raiseNew (.ref e):Sem α) Q E s:=by
 unfold raiseNew;refine ae (wpAny_handled ?_);cases hh:A.handled with
 | none=>exact ae (ao (wpAny_throw (h s.heap oe (λz z=>rfl) he rfl)))
 | some v =>
  refine k8 (H v hh) λa ob vs dc ho hdo h2=>?_;obtain rfl:=dc;obtain hn:a≠e:=ei a hh;have hb:(Value.ref a != Value.ref e)=true:=by
   rw[bne_iff_ne];intro q;exact hn (Value.ref.inj q)
  dsimp only;rw[au hb];refine ae (dW (wpAny_runValue (ru NW ?_)));refine ae (fT ho hdo h2 ?_);refine ao ?_;show wpAny _ _ (updateField e 2 (.ref a)>>=λz=>throw (.ref e)) _ _ s;refine ae ?_;obtain this:wpAny (model prog w) A (setField (.ref e) 2 (.ref a)) (λz s'=>wpAny (model prog w) A (throw (.ref e):Sem α) Q E s') E s :=
   gV he hd ek (wpAny_throw (h _ _ (λb hb=>kQ _ _ _ _ hb) (iD _ he (Cy (t7 hd _))) (Obj.cls_mapFields ..)))
  exact this
theorem A5{α:Type}{Q:α->Shared->Prop}(H:jt A s.heap)
  (h:∀h' e,(∀b o,s.heap.get? b=some o->h'.get? b=some o)->(∃o,h'.get? e=some o/\o.cls=.type "StopIteration")->E (.ref e) {s with heap:=h'}) :
  wpAny (model prog w) A (do raiseNew (<- newExc (.type "StopIteration") []):Sem α) Q E s:=by
 refine ae ?_;simp only[newExc,newTuple];refine ae (kR ?_ (by size_fits));refine ae (m:=firstArgMember _ _) (cc (a:=Value.none) (by first | rfl | (simp only[firstArgMember];rfl)) ?_)
 refine kR ?_ (by size_fits);obtain up:∀b o,s.heap.get? b=some o->((s.heap.push {cls:=.type "tuple",data:=.seq ([]:List Value).toArray}).push {cls:=.type "StopIteration",data:=.fields (#[.ref s.heap.objs.size,.none,.none,.none,.bool false,.none]++ownMembersOf (.type "StopIteration") [])}).get? b=some o :=
  λb o e=>cg _ (cg _ e)
 refine NX (λv hv=>?_) (dD _ rfl) rfl (by simp;omega) (λa ha=>?_) λh' o' h1 h2 h3=>?_
 ·refine fz (H v hv) λa ob vs e1 e2 e3=>?_;exact⟨a,ob,vs,e1,up _ _ e2,e3⟩
 ·refine fz (H _ ha) λb ob vs e1 e2 e3=>?_;cases e1;obtain this:=bX e2;rw[jf];exact cU (iE this)
 ·refine h h' _ (λb o e=>?_) ⟨o',h2,h3⟩;rw[h1 b (cU (by rw[jf];exact iE (bX e)))];exact up b o e
theorem jt.S0{h h':Heap}(H:jt A h)(k:∀a ob vs,A.handled=some (.ref a)->h.get? a=some ob->ob.data=.fields vs->vs[2]? =some .none->∃ob vs,h'.get? a=some ob/\ob.data=.fields vs/\vs[2]? =some .none):jt A h':=λv hv=>by
 refine k8 (H v hv) λa ob vs dn e1 e2 e3=>?_;obtain rfl:=dn;refine uG (k a ob vs hv e1 e2 e3) λob' NY x=>?_;exact⟨a,ob',NY,rfl,x⟩
end
noncomputable def A6(G:GX)(ρ:List Addr)(h:Heap):b9->Prop
 | .c6 _=>True
 | .list i ds=>∃a,ρ[i]? =some a/\OI G ρ h a (.list ds)
 | .bD i es ep=>∃a,ρ[i]? =some a/\OI G ρ h a (.bD es ep)
noncomputable abbrev Hh(e:Expr):Bool:=e.ctorIdx==25
structure xc(G:GX)(A:Around)(de:List Addr)(I:Addr)(aC:b9)(St:Nat->Heap->Prop)(pr:List Addr)(tb:Bool):Prop where
 inI:I∈pr
 live:∀i h,St i h->∀p∈pr,∃o,h.get? p=some o/\∀vs n,o≠ee vs n
 jY:∀i h h',St i h->bB h h'->(∀p∈pr,∀o,h.get? p=some o->h'.get? p=some o)->St i h'
 item:∀i d (tg:Expr) (ρ:List Addr) (s:Shared) (Q:Value->Shared->Prop) (E:Value->Shared->Prop),de <+: ρ->aC.items[i]? =some d->(tb=true->Hh tg=true)->St i s.heap->A6 G ρ s.heap aC->jt A s.heap->(∀a,A.handled=some (.ref a)->a∉pr) ->
  (∀v h' tk,VI ρ h' v d->St (i+1) h'->(∀b o,b∉pr->s.heap.get? b=some o->h'.get? b=some o)->Q v {s with heap:=h',toks:=tk}) ->
  wpAny G.M A (pyNext (.ref I)) (λr aE=>∃v,r=some v/\wpAny G.M A (letOwnedTupleGo tg (.ref I) v) (λz bq=>Q v bq) E aE) E s
 done:∀(ρ:List Addr) (s:Shared) (Q:Option Value->Shared->Prop) (E:Value->Shared->Prop),de <+: ρ->St aC.items.length s.heap->A6 G ρ s.heap aC->jt A s.heap->(∀a,A.handled=some (.ref a)->a∉pr) ->
  (∀h',(∀b o,b∉pr->s.heap.get? b=some o->h'.get? b=some o)->Q none {s with heap:=h'})->wpAny G.M A (pyNext (.ref I)) Q E s
 self:∀i (s:Shared) (Q:Value->Shared->Prop) (E:Value->Shared->Prop),St i s.heap->Q (.ref I) s->wpAny G.M A (pyIter (.ref I)) Q E s
theorem LZ{h h':Heap}{pr:List Addr}(l:∀p∈pr,∃o,h.get? p=some o/\∀vs n,o≠ee vs n)(k:∀b o,b∉pr->h.get? b=some o->h'.get? b=some o):bB h h':=λa vs n e=>k a _ (λhm=>by
 refine ak (l a hm) λo ho hn=>?_;exact hn vs n (Option.some.inj (ho.symm.trans e))) e
noncomputable def zV:List String:=["enumerate","zip","dict_itemiterator","dict_reverseitemiterator","odict_iterator","itertools.zip_longest","itertools.pairwise"]
theorem Xo{M:Model}{A:Around}{s:Shared}{tg:Expr}{I:Addr}{v:Value}{o:Obj}{n:String}{Q:Unit->Shared->Prop}{E:Value->Shared->Prop}(ho:s.heap.get? I=some o)(hc:o.cls=.type n)(hn:zV.contains n=false)(h:Q () s) :
  wpAny M A (letOwnedTupleGo tg (.ref I) v) Q E s:=by
 have main:wpAny M A (do
   let(.ref r,.ref a):=(Value.ref I,v) | return
   let o<-load r
   match o.cls,o.data with
   | .type n,.fields vs =>
    if zV.contains n&&vs[0]? ==some (rawInt a)then
     rule "for.unpacks-the-owned-tuple"
     updateField r 0 .none
   | _,_=>pure ()) Q E s:=by
  cases v<;>try exact ao h
  refine ae (mZ ho ?_);rw[hc];cases o.data<;>try exact ao h
  dsimp only;rw[hn];exact ao h
 unfold letOwnedTupleGo;cases tg<;>first | exact main | exact ao h
section
variable {G:GX}
theorem sT{s:Shared}{it:Addr}{E:Value->Shared->Prop}{Q:Option Value->Shared->Prop}{α:Type}{Q':α->Shared->Prop}(H:jt A s.heap)
  (hQ:∀h',(∀b o,s.heap.get? b=some o->h'.get? b=some o)->Q none {s with heap:=h'}) :
  wpAny G.M A.in1 (do raiseNew (<- newExc (.type "StopIteration") []):Sem α) Q' (λe s'=>wpAny G.M A (do if<-isInstance e (.type "StopIteration")then pure none else throw e) Q E s') s:=by
 refine A5 (A:=A.in1) H λh' e k ⟨o,ho,hc⟩=>?_;refine ae (rq (T:="StopIteration") (b:=true) ⟨o,ho,hc⟩ isSubtype_stop ?_);exact ao (hQ h' k)
theorem jt.field{h:Heap}(H:jt A h){it:Addr}{o:Obj}(f:Obj->Obj)(hn:∀a,A.handled=some (.ref a)->a≠it):jt A (h.update it f):=H.S0 λa ob vs ha e1 e2 e3=>⟨ob,vs,(kQ _ _ _ _ (hn a ha)).trans e1,e2,e3⟩
theorem wg{s:Shared}{it l:Addr}{i:Nat}{items:Array Value}{Q:Option Value->Shared->Prop}{E:Value->Shared->Prop}(H:jt A s.heap)(hn:∀a,A.handled=some (.ref a)->a≠it)
  (kB:s.heap.IsListIter it l i) (hl:s.heap.IsList l items) (hx:items[i]? =none) (hQ:∀h',(∀b o,b≠it->s.heap.get? b=some o->h'.get? b=some o)->Q none {s with heap:=h'}):wpAny G.M A (pyNext (.ref it)) Q E s:=by
 refine dY (id kB) λo ho hc hd=>?_;refine Gg hl λol pP z nl Kg=>?_;unfold pyNext;refine ae (rx (pE (name:=Str.ofString "__next__") kB.typeIs slot_listiter_next (iH slot_listiter_next kB.typeIs entry_listiter_next ?_ (args_listiter_next _))));show wpAny _ _ (field (.ref it) 0>>=_) _ _ s;refine ae (fT ho hd (x:=.ref l) rfl ?_);show wpAny _ _ (if(Value.ref l==Value.none)=true then _ else _) _ _ s
 rw[ai (show ¬ ((Value.ref l==Value.none)=true)from bf)];show wpAny _ _ (field (.ref it) 1>>=_) _ _ s;refine ae (fT ho hd (x:=.int i 0) rfl ?_);show wpAny _ _ (seqItems? (.ref l)>>=_) _ _ s;refine ae (uu pP Kg ?_);simp only[i8,hx];refine ae (mY (ae (gV ho hd (by simp) ?_)));exact sT (it:=it) (H.field (o:=o) _ hn) λh' k=>hQ h' λb ob hb e=>k b ob ((kQ _ _ _ _ hb).trans e)
theorem Dt{s:Shared}{it:Addr}{b:Array UInt8}{t:Tok}{i:Nat}{Q:Option Value->Shared->Prop}{E:Value->Shared->Prop}(H:jt A s.heap)(hn:∀a,A.handled=some (.ref a)->a≠it)
  (kB:KBw.IsBytesIter s.heap it b t i) (hx:b[i]? =none) (hQ:∀h',(∀b o,b≠it->s.heap.get? b=some o->h'.get? b=some o)->Q none {s with heap:=h'}):wpAny G.M A (pyNext (.ref it)) Q E s:=by
 refine dY (id kB) λo ho hc hd=>?_;unfold pyNext;refine ae (rx (pE (name:=PySem.Str.ofString "__next__") (rv kB) rA (iH rA (rv kB) KBw.entry_next ?_ (KBw.args_next _))));show wpAny _ _ (field (.ref it) 0>>=_) _ _ s;refine ae (fT ho hd (x:=.bytes b t) rfl ?_);show wpAny _ _ (if(Value.bytes b t==Value.none)=true then _ else _) _ _ s
 rw[ai (show ¬ ((Value.bytes b t==Value.none)=true)from bf)];show wpAny _ _ (field (.ref it) 1>>=_) _ _ s;refine ae (fT ho hd (x:=.int i 0) rfl ?_);refine ae (cc (a:=b) rfl ?_);simp only[i8,hx];refine ae (mY (ae (gV ho hd (by simp) ?_)));exact sT (it:=it) (H.field (o:=o) _ hn) λh' k=>hQ h' λb ob hb e=>k b ob ((kQ _ _ _ _ hb).trans e)
theorem Du{s:Shared}{it:Addr}{x:Str}{t:Tok}{i:Nat}{Q:Option Value->Shared->Prop}{E:Value->Shared->Prop}(H:jt A s.heap)(hn:∀a,A.handled=some (.ref a)->a≠it)
  (kB:s.heap.IsStrIter it "str_ascii_iterator" x t i) (hx:x.cps[i]? =none) (hQ:∀h',(∀b o,b≠it->s.heap.get? b=some o->h'.get? b=some o)->Q none {s with heap:=h'}):wpAny G.M A (pyNext (.ref it)) Q E s:=by
 refine dY (id kB) λo ho hc hd=>?_;unfold pyNext;refine ae (rx (pE (name:=Str.ofString "__next__") kB.typeIs JU (iH JU kB.typeIs F.entry_str_ascii_iterator_next ?_ (F.args_str_ascii_iterator_next_1 _))));show wpAny _ _ (field (.ref it) 0>>=_) _ _ s;refine ae (fT ho hd (x:=.str x t) rfl ?_);show wpAny _ _ (field (.ref it) 1>>=_) _ _ s;refine ae (fT ho hd (x:=.int i 0) rfl ?_);simp only[i8,hx];refine ae (mY (ae (gV ho hd (by simp) (ae (wpAny_letGo ?_)))));exact sT (it:=it) (H.field (o:=o) _ hn) λh' k=>hQ h' λb ob hb e=>k b ob ((kQ _ _ _ _ hb).trans e)
theorem zi{s:Shared}{it:Addr}{b:Array UInt8}{t:Tok}{i:Nat}{u:UInt8}{Q:Value->Shared->Prop}{E:Value->Shared->Prop}(kB:KBw.IsBytesIter s.heap it b t i)(hx:b[i]? =some u)
  (hQ:∀h',KBw.IsBytesIter h' it b t (i+1)->Heap.SameBut it s.heap h'->Q (.int (u.toNat:Int) s.toks) {s with heap:=h',toks:=s.toks+1}):wpAny G.M A (Builtin.SmallTypes.nextOf (.ref it)) Q E s:=by
 refine dY (id kB) λo ho hc hd=>?_;unfold Builtin.SmallTypes.nextOf;refine ae (pE (name:=PySem.Str.ofString "__next__") (rv kB) rA (iH rA (rv kB) KBw.entry_next ?_ (KBw.args_next _)));show wpAny _ _ (field (.ref it) 0>>=_) _ _ s;refine ae (fT ho hd (x:=.bytes b t) rfl ?_);show wpAny _ _ (if(Value.bytes b t==Value.none)=true then _ else _) _ _ s
 rw[ai (show ¬ ((Value.bytes b t==Value.none)=true)from bf)];show wpAny _ _ (field (.ref it) 1>>=_) _ _ s;refine ae (fT ho hd (x:=.int i 0) rfl ?_);refine ae (cc (a:=b) rfl ?_);simp only[i8,hx];refine ae (gV ho hd (by simp) (ae (wpAny_mkInt (ao ⟨_,rfl,ao (hQ _ ?_ (jJ ..))⟩))));exact⟨_,iD _ ho (Cy (t7 hd _)),(Obj.cls_mapFields ..).trans hc,by
  rw[t7 hd];simp[rawInt]⟩
theorem zW{s:Shared}{it:Addr}{b:Array UInt8}{t:Tok}{i:Nat}{Q:Value->Shared->Prop}{E:Value->Shared->Prop}(H:jt A s.heap)(hn:∀a,A.handled=some (.ref a)->a≠it)(kB:KBw.IsBytesIter s.heap it b t i)(hx:b[i]? =none)
  (hE:∀h' e,(∀b o,b≠it->s.heap.get? b=some o->h'.get? b=some o)->(∃o,h'.get? e=some o/\o.cls=.type "StopIteration")->E (.ref e) {s with heap:=h'}):wpAny G.M A (Builtin.SmallTypes.nextOf (.ref it)) Q E s:=by
 refine dY (id kB) λo ho hc hd=>?_;unfold Builtin.SmallTypes.nextOf;refine ae (pE (name:=PySem.Str.ofString "__next__") (rv kB) rA (iH rA (rv kB) KBw.entry_next ?_ (KBw.args_next _)));show wpAny _ _ (field (.ref it) 0>>=_) _ _ s;refine ae (fT ho hd (x:=.bytes b t) rfl ?_);show wpAny _ _ (if(Value.bytes b t==Value.none)=true then _ else _) _ _ s
 rw[ai (show ¬ ((Value.bytes b t==Value.none)=true)from bf)];show wpAny _ _ (field (.ref it) 1>>=_) _ _ s;refine ae (fT ho hd (x:=.int i 0) rfl ?_);refine ae (cc (a:=b) rfl ?_);simp only[i8,hx];refine ae (mY (ae (gV ho hd (by simp) ?_)));refine A5 (A:=A.in1) (jt.field (A:=A) H (o:=o) _ hn) λh' e k x=>hE h' e (λb ob hb e=>k b ob ((kQ _ _ _ _ hb).trans e)) x
theorem Dv{s:Shared}{it t:Addr}{i:Nat}{items:Array Value}{Q:Option Value->Shared->Prop}{E:Value->Shared->Prop}(H:jt A s.heap)(hn:∀a,A.handled=some (.ref a)->a≠it)
  (kB:s.heap.IsTupleIter it t i) (ht:s.heap.IsTuple t items) (hx:items[i]? =none) (hQ:∀h',(∀b o,b≠it->s.heap.get? b=some o->h'.get? b=some o)->Q none {s with heap:=h'}):wpAny G.M A (pyNext (.ref it)) Q E s:=by
 refine dY (id kB) λo ho hc hd=>?_;refine Gg ht λol pP z nl Kg=>?_;unfold pyNext;refine ae (rx (pE (name:=Str.ofString "__next__") kB.typeIs F.slot_tuple_iterator_next (iH F.slot_tuple_iterator_next kB.typeIs F.entry_tuple_iterator_next ?_ (F.args_tuple_iterator_next_1 _))));show wpAny _ _ (field (.ref it) 0>>=_) _ _ s;refine ae (fT ho hd (x:=.ref t) rfl ?_);show wpAny _ _ (if(Value.ref t==Value.none)=true then _ else _) _ _ s
 rw[ai (show ¬ ((Value.ref t==Value.none)=true)from bf)];show wpAny _ _ (field (.ref it) 1>>=_) _ _ s;refine ae (fT ho hd (x:=.int i 0) rfl ?_);show wpAny _ _ (seqItems? (.ref t)>>=_) _ _ s;refine ae (uu pP Kg ?_);simp only[i8,hx];refine ae (mY (ae (gV ho hd (by simp) ?_)));exact sT (it:=it) (H.field (o:=o) _ hn) λh' k=>hQ h' λb ob hb e=>k b ob ((kQ _ _ _ _ hb).trans e)
theorem vm{s:Shared}{t:Addr}{items:Array Value}{n:Nat}{Q:List Value->Shared->Prop}{E:Value->Shared->Prop}(H:jt A s.heap)(ht:s.heap.IsTuple t items)(hn:n=items.size)
  (hQ:∀h',(∀b o,s.heap.get? b=some o->h'.get? b=some o)->Q items.toList {s with heap:=h'}):wpAny G.M A (unpackItems (.ref t) n none) Q E s:=by
 subst hn;have bz:t≠s.heap.objs.size:=by refine ak ht λo ho z=>?_;exact cU (bX ho)
 have ei:∀a,A.handled=some (.ref a)->a≠s.heap.objs.size:=λa ha=>by
  refine fz (H _ ha) λb ob vs e1 e2 z=>?_;cases e1;exact cU (bX e2)
 unfold unpackItems;refine ae ?_;unfold notIterableAtAll;refine ae (jd ht.typeIs F.slot_tuple_iter.lookup ?_);refine ao ?_;simp only[oA,oM];refine ae (dW (wpAny_pyIter_tuple ht ?_));refine ae (dW (wpAny_draw_tuple bz items.size 0 _ _ ⟨_,dD _ rfl,rfl,rfl⟩ (ht.push _) (by omega) λh₁ Xp qL=>?_));have QE:List.take items.size (List.drop 0 items.toList)=items.toList:=by
  rw[oF];exact ri (by simp)
 rw[QE];rw[ai (by simp)];have ZZ:h₁.IsTuple t items:=(ht.push _).extBut qL.extBut bz;have acy:jt A h₁:=H.S0 λa ob vs ha e1 e2 e3=>⟨ob,vs,qL.extBut a ob (ei a ha) (cg _ e1),e2,e3⟩;refine ae (dW (Dv (s:={s with heap:=h₁}) acy ei Xp ZZ (by simp) λcJ k=>?_));simp only[Option.isSome_none,oA,oM];refine ao (hQ cJ λb o e=>k b o (cU (bX e)) (qL.extBut b o (cU (bX e)) (cg _ e)))
end
section
variable {G:GX}
theorem xc.km{St:Nat->Heap->Prop}(n:String)(hn:n≠"tuple")(hg:zV.contains n=false)
  (hl:∀i h,St i h->∃o,h.get? I=some o/\o.cls=.type n)
  (hs:∀i h h',St i h->bB h h'->(∀o,h.get? I=some o->h'.get? I=some o)->St i h')
  (hi:∀i d (ρ:List Addr) (s:Shared) (Q:Option Value->Shared->Prop) (E:Value->Shared->Prop),de <+: ρ->aC.items[i]? =some d->St i s.heap->A6 G ρ s.heap aC ->
   (∀v h' tk,VI ρ s.heap v d->bB s.heap h'->(bB s.heap h'->St (i+1) h')->Heap.SameBut I s.heap h'->Q (some v) {s with heap:=h',toks:=tk})->(∀h',Heap.SameBut I s.heap h'->bB s.heap h')->wpAny G.M A (pyNext (.ref I)) Q E s)
  (hd:∀(ρ:List Addr) (s:Shared) (Q:Option Value->Shared->Prop) (E:Value->Shared->Prop),de <+: ρ->St aC.items.length s.heap->A6 G ρ s.heap aC->jt A s.heap->(∀a,A.handled=some (.ref a)->a≠I) ->
   (∀h',(∀b o,b≠I->s.heap.get? b=some o->h'.get? b=some o)->Q none {s with heap:=h'})->wpAny G.M A (pyNext (.ref I)) Q E s)
  (hf:∀i (s:Shared) (Q:Value->Shared->Prop) (E:Value->Shared->Prop),St i s.heap->Q (.ref I) s->wpAny G.M A (pyIter (.ref I)) Q E s):xc G A de I aC St [I] false where
 inI:=.head _
 live:=λi h st p hp=>by obtain rfl:=aV.mp hp;refine ak (hl i h st) λo ho hc=>?_;exact⟨o,ho,m9 hc hn⟩
 jY:=λi h h' st tk k=>hs i h h' st tk (k I (.head _))
 item:=λi d tg ρ s Q E p he z st aC H z hQ=>by
  refine ak (hl i _ st) λo ho hc=>?_;obtain tk:∀h',Heap.SameBut I s.heap h'->bB s.heap h':=λh' sb a vs n e=>sb.extBut a _ (λq=>m9 hc hn vs n (Option.some.inj (ho.symm.trans (q▸e)))) e;refine hi i d ρ s _ E p he st aC (λv h' Hi V tk lG sb=>⟨v,rfl,?_⟩) tk;refine ak (hl _ _ (lG tk)) λo' jM hc'=>?_;exact Xo jM hc' hg (hQ v h' Hi (V.mono (bV _) tk) (lG tk) λb o hb e=>sb.extBut b o (λq=>hb (aV.mpr q)) e)
 done:=λρ s Q E p st aC H ei hQ=>hd ρ s Q E p st aC H (λa ha q=>ei a ha (aV.mpr q)) λh' k=>hQ h' λb o hb e=>k b o (λq=>hb (aV.mpr q)) e
 self:=λi s Q E st hQ=>hf i s Q E st hQ
theorem vn{vs:List α}(h:vs.length<=n):vs.toArray[n]? =none:=by rw[nD];exact Cz h
theorem vo{vs:List α}{n:Nat}{v:α}(h:vs[n]? =some v):vs.toArray[n]? =some v:=by rw[nD];exact h
theorem UK(I a:Addr)(kC:Nat)(ds:List PV)(ha:de[kC]? =some a):xc G A de I (.list kC ds) (λi h=>h.IsListIter I a i) [I] false :=
 .km "list_iterator" (by decide) (by decide) (λi h ⟨o,ho,hc,_⟩=>⟨o,ho,hc⟩) (λi h h' ⟨o,ho,r⟩ _ k=>⟨o,k o ho,r⟩)
  (λi d ρ s Q E p hd st ⟨b,hb,vs,n,hl,hv⟩ hQ tk=>by
   obtain rfl:=Option.some.inj ((d7 p ha).symm.trans hb);refine ak (L2.get hv hd) λv hx V=>?_;exact wpAny_pyNext_list_item st ⟨_,hl,rfl,_,rfl⟩ (vo hx) λh' lG hs=>hQ v h' s.toks V (tk h' hs) (λz=>lG) hs)
  (λρ s Q E p st ⟨b,hb,vs,n,hl,hv⟩ H hn hQ=>by
   obtain rfl:=Option.some.inj ((d7 p ha).symm.trans hb);exact wg H hn st ⟨_,hl,rfl,_,rfl⟩ (vn (bL (L2.len hv))) hQ)
  λi s Q E st hQ=>wpAny_pyIter_listiter st hQ
theorem QG(I:Addr)(b:List UInt8)(t:Tok):xc G A de I (.c6 (ib b)) (λi h=>KBw.IsBytesIter h I b.toArray t i) [I] false :=
 .km "bytes_iterator" (by decide) (by decide) (λi h ⟨o,ho,hc,_⟩=>⟨o,ho,hc⟩) (λi h h' ⟨o,ho,r⟩ _ k=>⟨o,k o ho,r⟩)
  (λi d ρ s Q E p hd st z hQ tk=>by
   obtain hd:(ib b)[i]? =some d:=hd;unfold ib at hd;rw[cv]at hd;refine ak (f9.mp hd) λu hu dc=>?_;obtain rfl:=dc;exact KBw.next_item st (vo hu) λh' lG hs=>hQ _ h' _ ⟨_,rfl⟩ (tk h' hs) (λz=>lG) hs)
  (λρ s Q E p st z H hn hQ=>Dt H hn st (vn (by show b.length<=(ib b).length;unfold ib;rw[aK];exact aB _)) hQ)
  λi s Q E st hQ=>KBw.pyIter_self st hQ
theorem Xq(I:Addr)(x:Str)(t:Tok):xc G A de I (.c6 (oQ x)) (λi h=>h.IsStrIter I "str_ascii_iterator" x t i) [I] false :=
 .km "str_ascii_iterator" (by decide) (by decide) (λi h ⟨o,ho,hc,_⟩=>⟨o,ho,hc⟩) (λi h h' ⟨o,ho,r⟩ _ k=>⟨o,k o ho,r⟩)
  (λi d ρ s Q E p hd st z hQ tk=>by
   obtain hd:(oQ x)[i]? =some d:=hd;unfold oQ at hd;rw[cv]at hd;refine ak (f9.mp hd) λu hu dn=>?_;obtain rfl:=dn;exact wpAny_pyNext_ascii_item st (by rw[<- yk];exact hu) λh' lG hs=>hQ _ h' _ ⟨_,rfl⟩ (tk h' hs) (λz=>lG) hs)
  (λρ s Q E p st z H hn hQ=>Du H hn st (rj (by show x.cps.size<=(oQ x).length;unfold oQ;rw[aK];exact aB _)) hQ)
  λi s Q E st hQ=>wpAny_pyIter_striter_ascii st hQ
theorem QH(hh:A.handled=none)(I:Addr)(a:Int)(n:Nat):xc G A de I (.c6 (bg a n)) (λi h=>IsRangeIter h I (a+(i:Nat)) ((n:Int)-(i:Nat)) 1) [I] false :=
 .km "range_iterator" (by decide) (by decide) (λi h ho=>⟨_,ho,rfl⟩) (λi h h' ho z k=>k _ ho)
  (λi d ρ s Q E p hd st z hQ tk=>by
   obtain hd:(bg a n)[i]? =some d:=hd;unfold bg at hd;rw[cv]at hd;refine ak (f9.mp hd) λj hj dX=>?_;obtain rfl:=dX;refine xE (bP.mp hj) λh3 h4=>?_;rw[gc]at h3;obtain rfl:i=j:=by rw[<- h4,t9]
   refine wpAny_pyNext_range_item st (ag 82829710015717601 h3) λh' lG hs=>hQ _ h' _ ⟨_,rfl⟩ (tk h' hs) (λz=>?_) hs;show IsRangeIter _ _ _ _ _;rw[show a+((i+1:Nat):Int)=a+(i:Int)+1 by exact wb 0x2dca10ca5257f7608b2d79f82b,show((n:Int)-((i+1:Nat):Int))=(n:Int)-(i:Int)-1 by exact ag 0x1bf294c110a898323fd2df7577e6d];exact lG)
  (λρ s Q E p st z H hn hQ=>wpAny_pyNext_range_end hh st (by show(n:Int)-((bg a n).length:Nat)<=0;unfold bg;rw[aK,gc,Int.sub_self];exact yO _) hQ)
  λi s Q E st hQ=>wpAny_pyIter_rangeiter st hQ
theorem Xr(hh:A.handled=none)(I t:Addr)(ds:List PV):xc G A de I (.c6 ds) (λi h=>h.IsTupleIter I t i/\∃vs n,h.get? t=some (ee vs n)/\L2 (VA de) vs ds) [I] false :=
 .km "tuple_iterator" (by decide) (by decide) (λi h ⟨⟨o,ho,hc,_⟩,_⟩=>⟨o,ho,hc⟩) (λi h h' ⟨⟨o,ho,r⟩,vs,n,ht,hv⟩ tk k=>⟨⟨o,k o ho,r⟩,vs,n,tk _ _ _ ht,hv⟩)
  (λi d ρ s Q E p hd ⟨st,vs,n,ht,hv⟩ _ hQ tk=>by
   refine ak (hv.get hd) λv hx V=>?_;exact wpAny_pyNext_tuple_item st ⟨_,ht,rfl,_,rfl⟩ (vo hx) λh' lG hs=>hQ v h' s.toks (V.mono p).vi (tk h' hs) (λtk=>⟨lG,vs,n,tk _ _ _ ht,hv⟩) hs)
  (λρ s Q E p ⟨st,vs,n,ht,hv⟩ _ H hn hQ=>wpAny_pyNext_tuple_end hh st ⟨_,ht,rfl,_,rfl⟩ (vn (bL hv.len)) hQ)
  λi s Q E st hQ=>wpAny_pyIter_tupleiter st.1 hQ
theorem UL(h:(strKind G.prog G.w).is k key=true):∃t,key=.str k t:=by
 cases key<;>first | cases h | (obtain rfl:=eq_of_beq h;exact⟨_,rfl⟩)
theorem KR.at{K:Type}{ρ:List Addr}{h:Heap}{kvs:List (K×Value)}{es:List (K×PV)}(x:L2 (KR ρ h) kvs es){i:Nat}{e:K×PV}(he:es[i]? =some e):∃kv,kvs[i]? =some kv/\kv.1=e.1:=ak (x.get he) λkv h1 h2=>⟨kv,h1,h2.1⟩
theorem UM(hh:A.handled=none)(I a:Addr)(kC:Nat)(es:List (Str×PV))(ep:Nat)(ha:de[kC]? =some a):xc G A de I (.bD kC es ep) (λi h=>h.IsKeyIter I a i es.length ep) [I] false :=
 .km "dict_keyiterator" (by decide) (by decide) (λi h ⟨o,ho,hc,_⟩=>⟨o,ho,hc⟩) (λi h h' ⟨o,ho,r⟩ _ k=>⟨o,k o ho,r⟩)
  (λi d ρ s Q E p hd st ⟨b,hb,kvs,hm,hk,_⟩ hQ tk=>by
   obtain rfl:=Option.some.inj ((d7 p ha).symm.trans hb);obtain av:=hk.len;obtain hd:(es.map λp=>PV.str p.1)[i]? =some d:=hd;rw[cv]at hd;refine ak (f9.mp hd) λe he fB=>?_;obtain rfl:=fB;refine ak (KR.at hk he) λkv hkv cC=>?_;refine wpAny_pyNext_dict_item (by rw[av];exact st) hm (k:=kv.1) (v:=kv.2) hkv λkey h' L0 lG hs=>?_;obtain⟨t,rfl⟩:=UL L0;exact hQ _ h' s.toks ⟨t,by rw[cC]⟩ (tk h' hs) (λz=>by rw[<- av];exact lG) hs)
  (λρ s Q E p st ⟨b,hb,kvs,hm,hk,_⟩ H hn hQ=>by
   obtain rfl:=Option.some.inj ((d7 p ha).symm.trans hb);obtain av:=hk.len;exact wpAny_pyNext_dict_end hh (by rw[av];exact st) hm (Cz (by show kvs.length<=(es.map _).length;rw[aK,av];exact aB _)) hQ)
  λi s Q E st hQ=>wpAny_pyIter_keyiter st hQ
noncomputable def sU(A:Around):List Addr:=match A.handled with
 | some (.ref a)=>[a]
 | _=>[]
theorem xd:a∈sU A↔A.handled=some (.ref a):=by
 unfold sU;cases A.handled with
 | none=>exact⟨(λh=>nomatch h),λh=>nomatch h⟩
 | some v=>cases v with
  | ref b=>exact⟨λh=>by rw[aV.mp h],λh=>by cases h;exact .head _⟩
  | _=>exact⟨(λh=>nomatch h),λh=>nomatch h⟩
theorem jt.jY(H:jt A h)(k:∀b∈sU A,∀o,h.get? b=some o->h'.get? b=some o):jt A h':=λv hv=>by
 refine k8 (H v hv) λa ob vs gy e1 e2 e3=>?_;obtain rfl:=gy;exact⟨a,ob,vs,rfl,k a (xd.mpr hv) _ e1,e2,e3⟩
theorem Hj(it:Addr)(b:List UInt8)(t:Tok)(hn:∀a,A.handled=some (.ref a)->a≠it) :
  Draws G.prog G.w A.in1 it (it::sU A) b.length (λi v=>∃u t,b[i]? =some u/\v=.int (u.toNat:Int) t) (λi h=>KBw.IsBytesIter h it b.toArray t i/\jt A h) where
 live:=λi h st=>let⟨o,ho,_⟩:=st.1;⟨o,ho⟩
 frame:=λi h h' st k=>⟨let⟨o,ho,r⟩:=st.1;⟨o,k it (.head _) o ho,r⟩,st.2.jY λb hb=>k b (.tail _ hb)⟩
 item:=λi s Q E hi st hQ=>zi st.1 (u:=b[i]) (vo (c8 hi)) λh' lG hs=>hQ _ h' _ ⟨_,_,c8 hi,rfl⟩ ⟨lG,st.2.S0 λa ob vs ha e1 e2 e3=>⟨ob,vs,hs.extBut a ob (hn a ha) e1,e2,e3⟩⟩ hs
 done:=λs Q E st hE=>zW (A:=A.in1) st.2 hn st.1 (vn (aB _)) λh' e k x=>hE h' e k x
theorem acz(h:Hh tg=true):∃es k p,tg=.Tuple es k p:=Expr.Tuple.elim (motive_1:=λe=>∃es k p,e=.Tuple es k p) tg (eq_of_beq h) λz z z=>⟨_,_,_,rfl⟩
theorem UN(I it:Addr)(ei:I≠it)(b:List UInt8)(t:Tok):xc G A de I (.c6 (uL b)) (λi h=>(∃old,IsEnum h I it (i:Nat) old)/\KBw.IsBytesIter h it b.toArray t i) [I,it] true where
 inI:=.head _
 live:=λi h ⟨⟨old,ho⟩,o,jM,hc,_⟩ p hp=>by
  rcases bK.mp hp with rfl | hp
  ·exact⟨_,ho,m9 (n:="enumerate") rfl (by decide)⟩
  ·obtain rfl:=aV.mp hp;exact⟨o,jM,m9 hc (by decide)⟩
 jY:=λi h h' ⟨⟨old,ho⟩,o,jM,r⟩ _ k=>⟨⟨old,k I (.head _) _ ho⟩,o,k it (.tail _ (.head _)) o jM,r⟩
 item:=λi d tg ρ s Q E _ hd sV ⟨⟨old,he⟩,st⟩ _ H hn hQ=>by
  obtain hd:(b.zipIdx.map λp=>PV.tup [.int (p.2:Int),.int p.1.toNat])[i]? =some d:=hd;rw[cv]at hd;refine ak (f9.mp hd) λp hp kz=>?_;obtain rfl:=kz;rw[List.getElem?_zipIdx]at hp;refine ak (f9.mp hp) λu hu wQ=>?_;obtain rfl:=wQ;obtain bz:=(bP.mp hu).1;have hi:I∉it::sU A:=λhm=>(bK.mp hm).elim ei λhm=>hn I (xd.mp hm) (.head _);refine wpAny_pyNext_enum_itemD (Hj (G:=G) (A:=A) it b t λa ha q=>hn a ha (q▸.tail _ (.head _))) he ⟨st,H⟩ bz ei hi λx h' tk hx eo lG ht hz hk=>?_;refine cq hx λu' t' hu' kA=>?_;obtain rfl:=kA;rw[hu]at hu';cases hu';apply Gx (acz (sV rfl));intro es k p;refine⟨_,rfl,wpAny_letOwnedTupleGo_enum eo λda acA QI=>?_⟩;obtain ek:s.heap.objs.size≠I:=jh (bX he);obtain ht2:=QI.extBut _ _ ek ht;refine hQ _ da _ (.tup (vs:=[.int (i:Int) tk,.int (u.toNat:Int) t']) (n:=0) ht2 (.cons ⟨tk,by rw[fS]⟩ (.cons ⟨_,rfl⟩ .nil))) ⟨⟨_,by exact_mod_cast acA⟩,?_⟩ λb o hb e=>?_
  ·refine ak lG.1 λo ho r=>?_;exact⟨o,QI.extBut _ _ (cM ei) ho,r⟩
  ·exact QI.extBut _ _ (λq=>hb (q▸.head _)) (hk b o (λq=>hb (q▸.head _)) (λq=>hb (q▸.tail _ (.head _))) e)
 done:=λρ s Q E _ ⟨⟨old,he⟩,st⟩ _ H hn hQ=>by
  obtain hl:(b9.c6 (uL b)).items.length=b.length:=by show(b.zipIdx.map _).length=_;rw[aK,List.length_zipIdx]
  rw[hl]at st;exact wpAny_pyNext_enum_endD (Hj (G:=G) (A:=A) it b t λa ha q=>hn a ha (q▸.tail _ (.head _))) he ⟨st,H⟩ λh' k=>hQ h' λb o hb e=>k b o (λq=>hb (q▸.tail _ (.head _))) e
 self:=λi s Q E ⟨⟨old,he⟩,st⟩ hQ=>wpAny_pyIter_enum he hQ
end
section
variable {l:a9}
theorem aG.cD(R:aG G c h ρ l S):jt c.A h:=λv hv=>by
 refine pF ((R.exc v hv).at_) λa ob vs e hL ho hd h2 hs=>?_;exact⟨a,ob,vs,e,ho,hd,h2⟩
theorem QJ(h:i<l.length):(l.set i (some d))[j]?.join=if j=i then some d else l[j]?.join:=by
 by_cases e:j=i
 ·subst e;rw[au rfl,ow h];rfl
 ·rw[oy (cM e),ai e]
theorem aG.S1(R:aG G c h ρ l S)(hw:c.dS[i]? =some w)(ha:a=c.L∨a=w.iU)(hs:Heap.SameBut a h h')(hns:∃m,h'.Ns c.L m)(ap:∀(j:Nat) (v:iw),c.dS[j]? =some v->j≠i->∀od,mc ρ h v od->bB h h'->mc ρ h' v od)
  (hv:bB h h'->mc ρ h' w (some d)):aG G c h' ρ (l.set i (some d)) S/\eO c h ρ h' ρ:=by
 have fq:i<l.length:=by rw[R.len];exact(bP.mp hw).1
 have hm:=aH hw;have nt:∀vs n,h.get? a≠some (ee vs n):=λvs n e=>by
  rcases ha with rfl | rfl
  ·refine xE R.gz λm hn=>?_;exact kq hn e
  ·refine ak (R.AR hm) λob h1 h2=>?_;exact h2 vs n (Option.some.inj (h1.symm.trans e))
 have tk:bB h h':=λb vs n e=>hs.extBut b _ (λq=>nt vs n (q▸e)) e;have base:∀b o,c.h₀.get? b=some o->b≠a:=λb o e q=>by
  rcases ha with rfl | rfl
  ·exact R.Gk e q
  ·rw[q,R.cQ w hm]at e;cases e
 have aX:∀b∈ρ,b≠a:=λb hb q=>by
  rcases ha with rfl | rfl
  ·exact(R.aX.cQ b hb).2.1 q
  ·exact(R.aX.cQ b hb).2.2 w hm q.symm
 refine⟨?_,bV _,λb o nb nl e q=>⟨hs.extBut b o (λx=>?_) e,q⟩⟩
 ·exact
  {
   keep:=λb o e=>hs.extBut b o (base b o e) (R.keep b o e)
   above:=R.above
   rR:=R.rR
   len:=by rw[List.length_set];exact R.len
   gz:=hns
   cQ:=R.cQ
   var:=λj v hj=>by
    rw[QJ fq];by_cases e:j=i
    ·subst e;rw[au rfl,Option.some.inj (hj.symm.trans hw)];exact hv tk
    ·rw[ai e];exact ap j v hj e _ (R.var j v hj) tk
   aX:=⟨R.aX.len,R.aX.nd,λj b o hb ho=>(R.aX.at_ j b o hb ho).keep (bV _) tk λob e=>hs.extBut b ob (aX b (aH hb)) e,R.aX.cQ⟩
   exc:=λv hv=>by
    apply zr ((R.exc v hv).at_);intro b ob vs hL ho hd h2 pQ;refine⟨b,ob,vs,rfl,hL,hs.extBut b ob (λq=>?_) ho,hd,h2,pQ⟩;rcases ha with rfl | rfl
    ·exact hL q
    ·obtain W:=R.var i w hw;subst q;cases w with
     | ns b y=>refine ak W λm hn z=>?_;refine uG (uI hn ho) λes n lU=>?_;cases hd.symm.trans lU
     | cell b=>refine dH W λob' ov jM lU z=>?_;rw[show h.get? b=some ob from ho]at jM;cases jM;cases hd.symm.trans lU}
 ·rcases ha with rfl | rfl
  ·exact nb x
  ·exact nl w hm x.symm
theorem oW(O:bh se c)(FC:fD c)(R:aG G c s.heap ρ l S)(hi:se.idx.lookup x=some i)(V:VI ρ s.heap v d)
  (K:∀h' tk',aG G c h' ρ (l.set i (some d)) S->eO c s.heap ρ h' ρ->QQ () {s with heap:=h',toks:=tk'}):wpAny G.M c.A (storeName c.aj x v) QQ E s:=by
 refine xE R.gz λm hm=>?_;rcases O.var x i hi with⟨h1,h2⟩ | ⟨h1,a,h2,h3⟩
 ·rw[FC.loc]at h2;obtain hmL:s.heap.Ns c.aj.locals m:=by rw[FC.loc];exact hm
  refine Cv h1 hmL (λh' nj hs=>?_) (by rw[O.kind];rfl);rw[FC.loc]at nj hs;have z:=R.S1 (d:=d) h2 (.inl rfl) hs ⟨_,nj⟩ (λj w hj e od W tk=>?_) λtk=>⟨_,nj,λd' e=>⟨v,au rfl,Option.some.inj e▸V.mono (bV _) tk⟩⟩
  ·exact K h' _ z.1 z.2
  ·cases w with
   | ns b y =>
    obtain rfl:=FC.EJ j b y hj;obtain hy:y≠x:=λq=>FC.ap j i _ _ hj h2 e (by rw[q]);refine ak W λm' hU q=>?_;obtain rfl:=AQ hm hU;exact⟨_,nj,λd' e=>ak (q d' e) λu h4 h5=>⟨u,(ai hy).trans h4,h5.mono (bV _) tk⟩⟩
   | cell b =>
    refine dH W λob ov ho hd q=>?_;obtain hb:b≠c.L:=by
     rintro rfl;refine uG (uI hm ho) λes n lU=>?_;cases hd.symm.trans lU
    exact⟨ob,ov,hs.extBut b ob hb ho,hd,λd' e=>ak (q d' e) λu h4 h5=>⟨u,h4,h5.mono (bV _) tk⟩⟩
 ·refine dH (R.var i _ h3) λZ0 agh S4 S7 t=>?_;have haL:c.L≠a:=by
   rintro rfl;refine uG (uI hm S4) λes n lU=>?_;cases S7.symm.trans lU
  rcases h1 with h1 | h1
  ·refine wpAny_storeName_cell O.kind h1 h2 ⟨Z0,S4,S7⟩ λh' hv hs=>?_;have hn:∀m,s.heap.Ns c.L m->h'.Ns c.L m:=λm hm=>hm.at' λo e=>hs.extBut _ o haL e;have z:=R.S1 (d:=d) h3 (.inr rfl) hs ⟨m,hn m hm⟩ (λj w hj e od W tk=>?_) λtk=>?_
   ·exact K h' _ z.1 z.2
   ·refine W.keep ⟨m,hm⟩ (bV _) tk (λn ob e'=>hs.extBut _ ob (λq=>?_) e') hn;cases w with
    | ns b y=>exact n (FC.EJ j b y hj)
    | cell b=>exact FC.ap j i _ _ hj h3 e (bE iw.cell q)
   ·refine ak hv λo ho hd=>?_;exact⟨o,_,ho,hd,λd' e=>⟨v,rfl,Option.some.inj e▸V.mono (bV _) tk⟩⟩
  ·exact(FC.nf x h1).elim
def kb(G:GX)(c:Cx)(st:Stmt)(l:a9)(S:St)(Q:Fl->a9->St->Prop):Prop :=
 ∀(ρ:List Addr) (s:Shared) QQ E,aG G c s.heap ρ l S->SC G c s ρ Q QQ->wpAny G.M c.A (exec st c.aj) QQ E s
noncomputable def eX(e:Expr):Bool:=oR 8 e&&oR 9 e&&oR 10 e
theorem gP{e:Expr}(h:eX e=true)(t:Option Expr)(n:Nat)(aj:Env):swapsWith e t n aj=pure false:=by
 cases e<;>first | rfl | cases h
theorem SC.step(K:SC G c s ρ Q QQ)(T:eO c s.heap ρ h' ar):SC G c {s with heap:=h',toks:=tk'} ar Q QQ :=
 λf fl da lI jX l'' n8 R T' V q=>K f fl da lI jX l'' n8 R (T.trans T') V q
theorem SC.next(K:SC G c s ρ Q QQ)(R:aG G c h' ar l' S')(T:eO c s.heap ρ h' ar)(q:Q .next l' S'):QQ .next {s with heap:=h',toks:=tk'}:=K .next .next h' tk' ar l' S' R T rfl q
theorem SC.now(K:SC G c s ρ Q QQ)(R:aG G c s.heap ρ l S)(q:Q .next l S):QQ .next s:=K.next (h':=s.heap) (tk':=s.toks) R (.refl _ _ _) q
theorem Hk(q:Q .next l S):ES G c [] l S Q:=λz z z z R K=>yC (K.now R q)
theorem Dw{st:Stmt}(h:kb G c st l S (gp (ES G c r) Q)):ES G c (st::r) l S Q:=λz z z E R K=>by
 refine uf (h _ _ _ E R λf fl h' tk' ar l' S' R' T V q=>?_);cases fl with
 | next=>obtain rfl:=V;exact q _ _ _ E R' (K.step T)
 | ret d=>obtain⟨v,rfl,V⟩:=V;exact K _ (.ret d) _ _ _ _ _ R' T ⟨v,rfl,V⟩ q
theorem QK(q:Q .next l S):kb G c (.Pass p) l S Q:=λz z z z R K=>wpAny_Pass (K.now R q)
theorem UO{e:Expr}(h:EV G c e l S λd aa=>Q (.ret d) l aa):kb G c (.Return (some e) p) l S Q:=λz z z E R K=>
 wpAny_Return_some (h _ _ _ E R λz d z z z z X T V q=>K _ (.ret d) _ _ _ _ _ (R.step T X) T.s ⟨_,rfl,V⟩ q)
theorem QL(q:Q (.ret .none) l S):kb G c (.Return none p) l S Q:=λz s z z R K=>wpAny_Return_none (K (.ret .none) (.ret .none) s.heap s.toks _ l S R (.refl _ _ _) ⟨_,rfl,rfl⟩ q)
theorem Hl{e:Expr}(O:bh se c)(hn:eX e=true)(h:EV G c e l S λz aa=>Q .next l aa):kb G c (.Expr e p) l S Q:=λz z z E R K=>
 wpAny_Expr_any (h _ _ _ E R λv d h' tk ar S' X T V q=>K.next (R.step T X) T.s q) (by unfold interactive;rw[O.kind];rfl) (gP hn _ _ _)
theorem Xs(h:ET G c t l S λx aa=>(x=true->ES G c a l aa Q)/\(x=false->ES G c b l aa Q)):kb G c (.If t a b p) l S Q:=λz z z E R K=>
 wpAny_If (h _ _ _ E R λx h' tk ar S' X T q=>by
  cases x with
  | true=>exact q.1 rfl _ _ _ E (R.step T X) (K.step T.s)
  | false=>exact q.2 rfl _ _ _ E (R.step T X) (K.step T.s))
theorem UP{e:Expr}(O:bh se c)(FC:fD c)(hi:se.idx.lookup x=some i)(hn:eX e=true)(h:EV G c e l S λd aa=>Q .next (l.set i (some d)) aa):kb G c (.Assign [.Name x p'] e p) l S Q:=λz z z E R K=>
 wpAny_Assign_Name (h _ _ _ E R λv d h' tk ar S' X T V q=>oW (s:=⟨h',_,_,tk,_⟩) O FC (R.step T X) hi V λda tk' R' T'=>K.next R' (T.s.trans T') q) (gP hn _ _ _)
noncomputable def S8(se:SE)(e:Expr)(i:Nat):Bool:=hZ e λx z=>se.idx.lookup x==some i
theorem NZ{e:Expr}(h:S8 se e i=true):∃y p,e=.Name y p/\se.idx.lookup y=some i:=cq (eE h) λx p h1 h2=>⟨x,p,h1,eq_of_beq h2⟩
noncomputable def sW(se:SE):List Expr->List Nat->Bool
 | [],is=>is.isEmpty
 | e::r,is=>match is with
  | []=>false
  | i::is=>S8 se e i&&sW se r is
theorem Kh(h:sW se [] is=true):is=[]:=dj.mp h
theorem zX{r:List Expr}(h:sW se (x::r) is=true):∃y p i js,x=.Name y p/\is=i::js/\se.idx.lookup y=some i/\sW se r js=true:=by
 cases is with
 | nil=>cases h
 | cons i js =>
  refine xA (cG.mp h) λh1 h2=>?_;apply c0 (NZ h1);intro y p h3;exact⟨y,p,i,js,rfl,rfl,h3,h2⟩
theorem UQ:∀{is:List Nat},sW se es is=true->es.length=is.length:=by
 induction es with
 | nil=>exact λh=>by rw[Kh h];rfl
 | cons x r ih =>
  intro is h;apply qE (zX h);intro y p i js fB h1 h2;obtain rfl:=fB;exact bE Nat.succ (ih h2)
theorem QM(aj:Env):∀{is:List Nat},sW se es is=true->(assignEach es aj).findIdx? (·.1)=none/\(assignEach es aj).length=es.length:=by
 induction es with
 | nil=>exact λz=>⟨rfl,rfl⟩
 | cons x r ih =>
  intro is h;apply qE (zX h);intro y p i js kz h1 h2;obtain rfl:=kz;refine xA (ih h2) λh3 h4=>?_;refine⟨?_,bE Nat.succ h4⟩;show((false,assign _ aj)::assignEach r aj).findIdx? (·.1)=none;rw[List.findIdx?_cons,h3];rfl
theorem aG.QN(R:aG G c h ρ l S)(FC:fD c)(T:eO c h ρ h' ar):bB h h':=λa ws n e=>by
 refine(T.old a _ ?_ (λw hw ew=>?_) e λq=>?_).1
 ·rintro rfl;refine xE R.gz λm hn=>?_;exact kq hn e
 ·refine ak (R.AR hw) λob h1 h2=>?_;exact h2 ws n (Option.some.inj (h1.symm.trans (ew▸e)))
 ·refine ak (R.aX.live q) λob h1 h2=>?_;exact h2 ws n (Option.some.inj (h1.symm.trans e))
def vp(G:GX)(c:Cx)(ts:List (Value->Sem Unit))(is:List Nat):Prop:=∀(ρ:List Addr) (vs:List Value) (ds:List PV) (l:a9) (S:St) (s:Shared) (QQ:Unit->Shared->Prop) (E:Value->Shared->Prop),aG G c s.heap ρ l S->c5 ρ s.heap vs ds->ds.length=is.length ->
  (∀h' tk',aG G c h' ρ (d8 is ds l) S->eO c s.heap ρ h' ρ->QQ () {s with heap:=h',toks:=tk'})->wpAny G.M c.A (assignInOrder ts vs) QQ E s
theorem vp.nil:vp G c [] []:=λρ vs ds l S s QQ E R V hl K=>by
 obtain rfl:=rh.mp hl;rw[L2.GC V];exact ao (K s.heap s.toks R (.refl _ _ _))
theorem vp.cons{t:Value->Sem Unit}{ts:List (Value->Sem Unit)}{i:Nat}{is:List Nat}(O:bh se c)(FC:fD c){x:Str}(hi:se.idx.lookup x=some i)(ht:∀v (s:Shared) QQ E,wpAny G.M c.A (storeName c.aj x v) QQ E s->wpAny G.M c.A (t v) QQ E s)(b:vp G c ts is):vp G c (t::ts) (i::is):=λρ vs ds l S s QQ E R V hl K=>by
 cases V with
 | nil=>cases hl
 | cons acB Dx =>
  show wpAny _ _ (do holding _ (t _);assignInOrder ts _) _ _ s
  refine ae (dW (ht _ _ _ _ (oW O FC R hi acB λh' tk' R' T'=>?_)));exact b ρ _ _ _ _ ⟨h',_,_,tk',_⟩ QQ E R' (Dx.mono λz z y=>y.mono (bV _) (R.QN FC T')) (Nat.succ.inj hl) λda lI xb j9=>K da lI xb (T'.trans j9)
theorem N0(O:bh se c)(FC:fD c)(es:List Expr):∀{is:List Nat},sW se es is=true->vp G c ((assignEach es c.aj).map (·.2)) is:=by
 induction es with
 | nil=>exact λh=>by rw[Kh h];exact .nil
 | cons x r ih =>
  intro is h;apply qE (zX h);intro y p i js kA h1 h2;obtain rfl:=kA;exact .cons O FC h1 (λv s QQ E z=>uc z) (ih h2)
theorem Jo(O:bh se c)(FC:fD c)(xs:List Str):∀{is:List Nat},xs.map (λx=>se.idx.lookup x)=is.map some->vp G c (xs.map λn=>bindName c.aj n) is:=by
 induction xs with
 | nil=>exact λ{is} h=>by cases is with
  | nil=>exact .nil
  | cons=>cases h
 | cons x r ih=>exact λ{is} h=>by cases is with
  | nil=>cases h
  | cons i is =>
   refine xA (ue.mp h) λh1 h2=>?_;exact .cons O FC h1 (λv s QQ E z=>wpAny_bindName z) (ih h2)
theorem Xu(x:L2 (VA ρ) vs ds):c5 ρ h vs ds:=x.mono λz z=>VA.vi
theorem vq(O:bh se c)(FC:fD c){es:List Expr}{is:List Nat}{k:Nat}{p:Pos}{v:Value}{ds:List PV}{QQ:Unit->Shared->Prop}{E:Value->Shared->Prop}(ht:sW se es is=true)(R:aG G c s.heap ρ l S)(V:VI ρ s.heap v (.tup ds))(hl:ds.length=is.length)
  (K:∀h' tk',aG G c h' ρ (d8 is ds l) S->eO c s.heap ρ h' ρ->QQ () {s with heap:=h',toks:=tk'}):wpAny G.M c.A (assign (.Tuple es k p) c.aj v) QQ E s:=by
 refine fz V λa vs n wR ho hv=>?_;obtain rfl:=wR;rw[arm_assign_Tuple];refine ae (fR ?_);refine xA (QM c.aj ht) λt1 t2=>?_;unfold unpack;rw[t1];refine ae (dW (vm R.cD (items:=vs.toArray) ⟨_,ho,rfl,_,rfl⟩ (by rw[t2,UQ ht,<-hl,cu];exact hv.len.symm) λh' k=>?_));obtain gr:dK c.L s.heap h':=.of k;exact N0 O FC es ht ρ vs ds l S ⟨h',_,_,_,_⟩ _ E (R.eD gr) (Xu hv) hl λda lI xb j9=>K da lI xb ((bS.eD gr).s.trans j9)
noncomputable abbrev Hn:Expr->Bool:=oR 25
theorem QO{e:Expr}(hn:eX e=true)(t:Expr)(n:Nat)(aj:Env):swapsWithSole [t] e n aj=pure false:=gP hn (some t) n aj
theorem Xv{e:Expr}(h:Hn e=true)(es:List Expr)(k:Nat)(p:Pos)(aj:Env):swappedStores [.Tuple es k p] e aj=pure none:=by cases e<;>first | rfl | cases h
theorem QP{e:Expr}(O:bh se c)(FC:fD c)(ht:sW se es is=true)(hn:eX e=true)(hu:Hn e=true)
  (h:EV G c e l S λd aa=>cY d λds=>ds.length=is.length/\Q .next (d8 is ds l) aa):kb G c (.Assign [.Tuple es k p'] e p) l S Q:=λz z z E R K=>by
 refine Assign_Tuple (h _ _ _ E R λv d h' tk ar S' X T V q=>?_) (QO hn _ _ _) (Xv hu _ _ _ _);refine ak (mH q) λds rW q=>?_;obtain rfl:=rW;exact vq (s:=⟨h',_,_,tk,_⟩) O FC ht (R.step T X) V q.1 λda tk' R' T'=>K.next R' (T.s.trans T') q.2
noncomputable def Dy(names:List (Str×NameKind)):Env:=envX Str.empty {kind:=.function,names,isGenerator:=false,isCoroutine:=false} 0 0 .none []
noncomputable def Ho(t:Sem α):Option α:=if q:t.ctorIdx=0 then Sem.pure.elim (motive:=λz=>Option α) t q some else none
theorem EU{t:Sem α}{a:α}(h:Ho t=some a):t=pure a:=by
 by_cases q:t.ctorIdx=0
 ·exact Sem.pure.elim (motive:=λt=>∀q:t.ctorIdx=0,Sem.pure.elim (motive:=λz=>Option α) t q some=some a->t=pure a) t q (λb z h=>bE Sem.pure (Option.some.inj h)) q ((c3 q).symm.trans h)
 ·exact nomatch (c4 q).symm.trans h
noncomputable def S9(names:List (Str×NameKind))(ts:List Expr)(k:Nat)(p:Pos)(v:Expr):Option (Option (List Str)):=Ho (swappedStores [.Tuple ts k p] v (Dy names))
theorem N1(O:bh se c){ts:List Expr}{v:Expr}{k:Nat}{p:Pos}{r:Option (List Str)}(h:S9 se.names ts k p v=some r):swappedStores [.Tuple ts k p] v c.aj=pure r:=by
 rw[<- EU h];obtain hb:c.aj.blockKind=(Dy se.names).blockKind:=by unfold Env.blockKind;rw[O.kind];rfl
 obtain hk:c.aj.kindOf=(Dy se.names).kindOf:=by funext x;unfold Env.kindOf;rw[O.names];rfl
 unfold swappedStores;rw[hb,hk]
theorem nk(h:xs.length=n+1):∃a r,xs=a::r/\r.length=n:=by
 cases xs with
 | nil=>cases h
 | cons a r=>exact⟨a,r,rfl,Nat.succ.inj h⟩
theorem QR(h:xs.length=2):∃a b,xs=[a,b]:=by
 apply c0 (nk h);intro a r h';obtain⟨b,rfl⟩:=Cu.mp h';exact⟨a,b,rfl⟩
theorem Xw(h:xs.length=3):∃a b c,xs=[a,b,c]:=by
 apply c0 (nk h);intro a r h';apply So (QR h');intro b c;exact⟨a,b,c,rfl⟩
theorem Jp(hn:is.Nodup)(hl:is.length=2∨is.length=3)(hd:ds.length=is.length):d8 is.reverse ds.reverse l=d8 is ds l:=by
 rcases hl with hl | hl
 ·refine uG (QR hl) λi j zS=>?_;obtain rfl:=zS;apply So (QR (hd.trans hl));intro a b;obtain h1:i≠j:=λq=>(fQ.mp hn).1 (q▸.head _);show(l.set j (some b)).set i (some a)=(l.set i (some a)).set j (some b);rw[yH _ _ (cM h1)]
 ·refine PS (Xw hl) λi j k GR=>?_;obtain rfl:=GR;apply Gx (Xw (hd.trans hl));intro a b d;refine xA (fQ.mp hn) λh1 h2=>?_;obtain h3:j≠k:=λq=>(fQ.mp h2).1 (q▸.head _);obtain h4:i≠j:=λq=>h1 (q▸.head _);obtain h5:i≠k:=λq=>h1 (q▸.tail _ (.head _));show((l.set k (some d)).set j (some b)).set i (some a)=((l.set i (some a)).set j (some b)).set k (some d);rw[yH _ _ (cM h3),yH _ _ (cM h5),yH _ _ (cM h4)]
theorem Hp(O:bh se c)(FC:fD c)(hw:S9 se.names es k p' (.Tuple vs k' EW)=some r)(ht:sW se es is=true)
  (hr:∀xs,r=some xs->xs.map (λx=>se.idx.lookup x)=is.map some/\is.Nodup/\(is.length=2∨is.length=3))
  (h:EV G c (.Tuple vs k' EW) l S λd aa=>cY d λds=>ds.length=is.length/\Q .next (d8 is ds l) aa):kb G c (.Assign [.Tuple es k p'] (.Tuple vs k' EW) p) l S Q:=λz z z E R K=>by
 cases r with
 | none =>
  refine Assign_Tuple (h _ _ _ E R λv d h' tk ar S' X T V q=>?_) rfl (N1 O hw);refine ak (mH q) λds Qm q=>?_;obtain rfl:=Qm;exact vq (s:=⟨h',_,_,tk,_⟩) O FC ht (R.step T X) V q.1 λda tk' R' T'=>K.next R' (T.s.trans T') q.2
 | some xs =>
  refine jL (hr xs rfl) λTa Tb hr3=>?_;refine Assign_Tuple_swapped (h _ _ _ E R λv d h' tk ar S' X T V q=>?_) rfl (N1 O hw);refine ak (mH q) λds GS q=>?_;obtain rfl:=GS;refine fz V λa ws n QS ho hv=>?_;obtain rfl:=QS;obtain hx:xs.length=is.length:=by obtain this:=bE List.length Ta;rwa [aK,aK]at this
  have R':=R.step T X;refine vm (s:=⟨h',_,_,tk,_⟩) R'.cD (items:=ws.toArray) ⟨_,ho,rfl,_,rfl⟩ (by rw[hx,<-q.1,cu];exact hv.len.symm) λda k=>?_;have gr:dK c.L h' da:=.of k;refine Jo O FC xs.reverse (by rw[List.map_reverse,List.map_reverse,Ta]) _ _ _ l _ ⟨da,_,_,tk,_⟩ _ E (R'.eD gr) (L2.WC (Xu hv)) (by rw[List.length_reverse,List.length_reverse];exact q.1) λh3 lV R3 T3=>?_;rw[Jp Tb hr3 q.1]at R3;exact K.next R3 (T.s.trans ((bS.eD gr).s.trans T3)) q.2
end
theorem Jq(f:Array Value->Array Value)(its:Array Value)(n:Nat):∃n',Obj.mapSeq f (listOf its n)=listOf (f its) n':=⟨_,by simp[Obj.mapSeq];rfl⟩
theorem Fx{k:Int}(ho:s.heap.get? a=some (listOf its n))(h0:0<=k)(zY:k<2^63)(hk:k<its.size)
  (hQ:∀h' n',h'.get? a=some (listOf (its.setIfInBounds k.toNat v) n')->Heap.SameBut a s.heap h'->Q () {s with heap:=h'}):wpAny (model prog w) A (setItem (.ref a) (.int k t) v) Q E s:=by
 obtain hT:s.TypeIs (.ref a) "list":=⟨_,ho,rfl⟩;obtain hd:(listOf its n).data=.seq its n:=rfl;unfold setItem
 try with_reducible refine dW ?_
 refine ae (wpAny_sequenceKey hT (by decide) ?_);refine ae (pE (name:=Str.ofString "__setitem__") hT slot_list_setitem (iH slot_list_setitem hT entry_list_setitem ?_ (args_list_setitem _ _ _)));show wpAny _ _ (Builtin.List.listSubscript? (.int k t)>>=_) _ _ s;refine ae (wpAny_listSubscript_int (fitsIndex_of h0 zY) ?_);obtain⟨j,rfl⟩:=Cs h0;have hj:j<its.size:=Int.ofNat_lt.mp hk;show wpAny _ _ ((seqItemAt a j>>=λr=>pure (r.map (j,·)))>>=_) _ _ s;refine ae (ae (wpAny_seqItemAt ho hd (ao ?_)));rw[rg hj];show wpAny _ _ (setSeqItemAt a j v>>=_) _ _ s;refine xE (Jq (·.setIfInBounds j v) its n) λn' nj=>?_;obtain wF:(s.heap.update a (Obj.mapSeq (·.setIfInBounds j v))).get? a=some (listOf (its.setIfInBounds j v) n'):=by rw[iD _ ho (by rw[nj];rfl),nj]
 refine ae (wpAny_setSeqItemAt ho hd ?_);exact ao ⟨.none,rfl,ao (hQ _ n' wF (jJ ..))⟩
section
theorem A7{i:Nat}(hK:G.K.In c.h₀)(R:aG G c s.heap ρ l S)(V:VI ρ s.heap v d)(hx:ρ[i]? =some x)(e1:S[i]? =some (.bc cl dx))(e2:S[dx]? =some (.aA cl fs))(hf:f∈lT cl)(hz:fs.length<20)
  (K:∀h' tk',aG G c h' ρ l (S.set dx (.aA cl (put fs f d)))->bS c.L s.heap ρ h' ρ->QU () {s with heap:=h',toks:=tk'}):wpAny G.M c.A (setAttr (.ref x) (er f) v) QU E s:=by
 refine qD ((R.bc hx e1 e2).at_) λdd es n Xx z I hd ef dc oU=>?_;obtain⟨hl,G9⟩:=dc;obtain cQ:=R.aX.cQ dd (aH Xx);obtain CF:=vk G cl;refine xE R.fr λm F=>?_;refine set_plain (hK.keeps R.keep) I CF.sa ?_;obtain N:News c.h₀ c.L s.heap ([]++(dd,dictOf es n)::(ng c s.heap).filter λp=>p.1≠dd):=λp hp=>by
  rcases bK.mp hp with rfl | hp
  ·exact⟨hd,cQ.2.1,cQ.1⟩
  ·exact R.news p (eT.mp hp).1
 refine osa_dict (s:={s with toks:=s.toks+1}) F N (hK.keeps R.keep) I rfl CF.po (CF.f f hf).2 CF.hd (FR.isSome ef) (λp hp=>nomatch hp) (λp hp=>aN (eT.mp hp).2) (putName_dict _ _ _ _ _ _) rfl (ab (Jn _ _ _ _ _) (by rw[ef.len];exact ab hz (by decide))) λh' F' N'=>?_;have bt:zu c.L dd s.heap h':=⟨λb o nb nL e=>by
   cases q:c.h₀.get? b with
   | some o'=>have:=R.keep b o' q;rw[e]at this;cases this;exact F'.keep b o q
   | none=>exact(N' (b,o) (.tail _ (eT.mpr ⟨lg.mpr ⟨e,q,nL⟩,cH nb⟩))).1,
  λm' hU=>AQ F.ns hU▸F'.ns⟩
 have T:=R.oP Xx bt;have tk:=R.tup T;have ho:OI G ρ h' dd (.aA cl (put fs f d)):=by
  obtain hp:=bV ρ;refine⟨_,_,(N' _ (.head _)).1,FR.put (V.mono hp tk) (ef.mono λz z y=>⟨y.1,y.2.mono hp tk⟩) G9,?_⟩;obtain av:(put fs f d).length=((put fs f d).map (·.1)).length:=(aK _).symm;obtain jZ:∀g∈put fs f d,g.1∈(put fs f d).map (·.1):=λg hg=>jI hg;rw[av];rw[Qr]at jZ ⊢;have old:∀y∈fs.map (·.1),y∈lT cl:=λy hy=>by refine ak (bH.mp hy) λp hp dn=>?_;obtain rfl:=dn;exact oU p hp
  by_cases hi:f∈fs.map (·.1)
  ·rw[au hi]at jZ ⊢;exact⟨⟨by rw[aK];exact hl,G9⟩,λg hg=>old _ (jZ g hg)⟩
  ·rw[ai hi]at jZ ⊢;refine⟨⟨by rw[aW,aK];exact hz,mT.mpr ⟨G9,fQ.mpr ⟨(λq=>nomatch q),iy⟩,λa ha b hb e=>hi (aV.mp hb▸e▸ha)⟩⟩,λg hg=>?_⟩;rcases dt.mp (jZ g hg)with h | h
   ·exact old _ h
   ·rw[aV.mp h];exact hf
 exact K h' _ (R.step T (R.AS Xx bt ho)) T
theorem N2{o e:Expr}(hK:G.K.In c.h₀)(hn:eX e=true)(h:EV G c e l S λd aa=>EV G c o l aa λx af=>rV af x f d (Q .next l)):kb G c (.Assign [.Attribute o (er f) p'] e p) l S Q:=λz z z E R K=>by
 refine JS (h _ _ _ E R λv d h' tk ar S' X T V q=>q _ _ _ E (R.step T X) λu x da tk' jX n8 X' T' U q'=>?_) (gP hn _ _ _);obtain⟨i,rfl,cl,dx,fs,e1,e2,hf,hz,q'⟩:=dy q';refine ak U λa ha dX=>?_;obtain rfl:=dX;obtain R':=(R.step T X).step T' X';exact A7 (s:=⟨da,_,_,tk',_⟩) hK R' (V.mono T'.pre ((R.step T X).tup T')) ha e1 e2 hf hz λh3 lV R3 T3=>K.next R3 ((T.trans T').trans T3).s q'
theorem QT{o i e:Expr}(hn:eX e=true)(h:EV G c e l S λd aa=>EV G c o l aa λx af=>EV G c i l af λk aL=>AY aL x k d (Q .next l)):kb G c (.Assign [.Subscript o i p'] e p) l S Q:=λz z QQ E R K=>by
 refine wpAny_Assign_Subscript (h _ _ _ E R λv d h' tk ar S' X T V q=>q _ _ _ E (R.step T X) λu x da tk' jX n8 X' T' U q'=>q' _ _ _ E ((R.step T X).step T' X') λw k h3 lV uR S3 X3 T3 W q3=>?_) (gP hn _ _ _);have R3:=((R.step T X).step T' X').step T3 X3;have V3:VI uR h3 v d:=(V.mono T'.pre ((R.step T X).tup T')).mono T3.pre (((R.step T X).step T' X').tup T3);obtain T4:=(T.trans T').trans T3;refine ak (dy q3) λj fB q3=>?_;obtain rfl:=fB;refine ak U λXy Z1 gy=>?_;obtain rfl:=gy;have ha:=d7 T3.pre Z1;obtain nL:=cM (R3.aX.cQ _ (aH ha)).2.1;have dz:∀{h4:Heap} (o':AO) {tk:Nat},Heap.SameBut Xy h3 h4->(bB h3 h4->OI G uR h4 Xy o')->Q .next l (S3.set j o')->QQ .next ⟨h4,_,_,tk,_⟩:=λo' z hs ho q=>by
  have bt:=zu.same nL hs;obtain T5:=R3.oP ha bt;exact K.next (R3.step T5 (R3.AS ha bt (ho (R3.tup T5)))) (T4.trans T5).s q
 obtain hp:=bV uR;cases k with
 | int k =>
  obtain⟨t,rfl⟩:=W;rcases q3 with⟨ds,e1,hz,h0,h1,q3⟩ | ⟨es,e1,hz,q3⟩
  ·refine cq (R3.aX.at_ _ _ _ ha e1) λvs n hl hv=>?_;obtain av:=L2.len hv;refine Fx (s:=⟨h3,_,_,lV,_⟩) hl h0 (wb 0xd3de1cd766694df18934cb3f hz h1) (by rw[cu,av];exact h1) λh4 n4 hl4 EX=>dz (.list _) EX (λtk=>⟨_,n4,by rw[hl4,List.setIfInBounds_toArray],L2.set (hv.mono hp tk) (V3.mono hp tk) _⟩) q3
  ·refine dY (R3.aX.at_ _ _ _ ha e1) λkvs hm hk lo=>?_;exact wpAny_setItem_pairs (s:=⟨h3,_,_,lV,_⟩) (uF _ _ _ _) hm (λh4 N3 EX=>dz (.dr _) EX (λtk=>⟨_,N3,KR.stored (hk.mono λz z y=>⟨y.1,y.2.mono hp tk⟩) (V3.mono hp tk),lo⟩) q3) (by rw[dQ,hk.len];exact ab hz (by decide))
 | str k =>
  obtain⟨t,rfl⟩:=W;refine dH q3 λes ep e1 hz q3=>?_;refine dY (R3.aX.at_ _ _ _ ha e1) λkvs hm hk lo=>?_;refine wpAny_setItem_pairs (s:=⟨h3,_,_,lV,_⟩) (strKind_is _ _ _ _) hm.dictOf (λh4 N3 EX=>?_) (by rw[dQ,hk.len];exact ab hz (by decide));refine xE N3.dictAt λED hm5=>?_;exact dz (.bD _ ED) EX (λtk=>⟨_,hm5,KR.stored (hk.mono λz z y=>⟨y.1,y.2.mono hp tk⟩) (V3.mono hp tk),lo⟩) (q3 ED)
 | _=>exact False.elim q3
theorem N4(I:Nat->a9->St->Prop)(n:Nat)(h0:I n l S)
  (h:∀n l' S',I n l' S'->ET G c t l' S' λx aa=>(x=true->ES G c b l' aa (gp (λl₂ af y=>∃bN aL,gA S l₂ af bN aL/\∃m,m<n/\I m bN aL) Q))/\(x=false->Q .next l' aa)):kb G c (.While t b [] p) l S Q:=λρ s QQ E R K=>by
 refine wpAny_While (codeAny_whileLoop (λn s'=>∃h' tk' ar l' S',s'={s with heap:=h',toks:=tk'}/\aG G c h' ar l' S'/\eO c s.heap ρ h' ar/\I n l' S') ?_ n ⟨s.heap,s.toks,ρ,l,S,rfl,R,.refl _ _ _,h0⟩);rintro n s' ⟨h',tk',ar,l',S',rfl,R',T',hI⟩;refine h n l' S' hI _ _ _ _ R' λx h2 ER Xn S2 X T q=>?_;obtain R2:=R'.step T X;cases x with
 | true =>
  rw[au rfl];refine q.1 rfl _ _ _ _ R2 λf fl h3 lV uR l3 S3 R3 T3 V q3=>?_;have T4:=(T'.trans T.s).trans T3;cases fl with
  | next =>
   obtain rfl:=V;refine Wo q3 λacC qc hD m hm hI'=>?_;refine dY (hD G c h3 ρ uR R.aX.len T4.pre R3) λZ2 p4 sub R4=>?_;exact⟨m,hm,h3,lV,Z2,acC,qc,rfl,R4,⟨p4,λb o n m e q=>let z:=T4.old b o n m e q;⟨z.1,sub b z.2⟩⟩,hI'⟩
  | ret d=>obtain⟨v,rfl,V⟩:=V;exact K _ (.ret d) _ _ _ _ _ R3 T4 ⟨v,rfl,V⟩ q3
 | false =>
  rw[ai bf];exact yC (K.next R2 (T'.trans T.s) (q.2 rfl))
end
structure Pv(c:Cx)(ρ:List Addr)(pr:List Addr):Prop where
 base:∀p∈pr,c.h₀.get? p=none
 nl:∀p∈pr,p≠c.L
 ns:∀p∈pr,p∉ρ
 loc:∀p∈pr,∀v∈c.dS,v.iU≠p
 exc:∀p∈pr,c.A.handled≠some (.ref p)
section
variable {G:GX} {lv:Lv} {c:Cx} {ρ ar:List Addr} {l:a9} {S:St} {s:Shared} {h h':Heap} {pr:List Addr}
theorem Pv.new(R:aG G c h ρ l S)(n:∀p∈pr,∀ob,h.get? p≠some ob):Pv c ρ pr where
 base:=λp hp=>(R.uJ (n p hp)).1
 nl:=λp hp=>(R.uJ (n p hp)).2.1
 ns:=λp hp=>R.dead (n p hp)
 loc:=λp hp=>(R.uJ (n p hp)).2.2
 exc:=λp hp e=>by
  refine k8 ((R.exc _ e).at_) λa ob vs e' hL ho z=>?_;cases e';exact n _ hp _ ho
theorem Pv.zv(P:Pv c ρ pr)(lv:∀p∈pr,∃o,h.get? p=some o)(T:eO c h ρ h' ar):Pv c ar pr/\∀p∈pr,∀o,h.get? p=some o->h'.get? p=some o :=
 ⟨{
  base:=P.base,nl:=P.nl,loc:=P.loc,exc:=P.exc
  ns:=λp hp=>xE (lv p hp) λo ho=>(T.old p o (P.nl p hp) (P.loc p hp) ho (P.ns p hp)).2},
 λp hp o ho=>(T.old p o (P.nl p hp) (P.loc p hp) ho (P.ns p hp)).1⟩
theorem Pv.sub(P:Pv c ρ pr){qs:List Addr}(k:∀p∈qs,p∈pr):Pv c ρ qs:=⟨λp hp=>P.base p (k p hp),λp hp=>P.nl p (k p hp),λp hp=>P.ns p (k p hp),λp hp=>P.loc p (k p hp),λp hp=>P.exc p (k p hp)⟩
theorem aG.qd(R:aG G c h ρ l S)(P:Pv c ρ pr)(k:∀b o,b∉pr->h.get? b=some o->h'.get? b=some o)(tk:bB h h'):aG G c h' ρ l S :=
 R.re (bV _) tk (λb o nL e q x=>⟨k b o (λhm=>by
  rcases x with x | ⟨o',x⟩ | x
  ·refine ak (bH.mp x) λv hv dc=>?_;obtain rfl:=dc;exact P.loc _ hm v hv rfl
  ·rw[P.base b hm]at x;cases x
  ·exact P.exc b hm x) e,q⟩) (λm hm=>hm.at' λo e=>k _ o (λhp=>P.nl _ hp rfl) e)
  ⟨R.aX.len,R.aX.nd,λi a o ha ho=>(R.aX.at_ i a o ha ho).keep (bV _) tk λob e=>k a ob (λhp=>P.ns a hp (aH ha)) e,R.aX.cQ⟩
theorem eO.qd(T:eO c h₀ de h ρ)(n:∀p∈pr,∀ob,h₀.get? p≠some ob)(k:∀b o,b∉pr->h.get? b=some o->h'.get? b=some o):eO c h₀ de h' ρ :=
 ⟨T.pre,λb o nb nl e q=>xA (T.old b o nb nl e q) λe' q'=>⟨k b o (λhp=>n b hp o e) e',q'⟩⟩
theorem bS.qd(T:bS L h₀ de h ρ)(n:∀p∈pr,∀ob,h₀.get? p≠some ob)(nl:L∉pr)(k:∀b o,b∉pr->h.get? b=some o->h'.get? b=some o):bS L h₀ de h' ρ :=
 ⟨T.pre,λb o nb e q=>xA (T.old b o nb e q) λe' q'=>⟨k b o (λhp=>n b hp o e) e',q'⟩,λm hm=>(T.ns m hm).at' λo e=>k _ o nl e⟩
def xe(G:GX)(c:Cx)(ρ:List Addr)(h₀ h:Heap)(I:Addr)(aC:b9)(tb:Bool):Prop:=∃St pr,xc G c.A ρ I aC St pr tb/\St 0 h/\∀p∈pr,∀ob,h₀.get? p≠some ob
theorem xe.of{St:Nat->Heap->Prop}(n:h.objs.size<=I)(x:xc G c.A ρ I aC St [I] tb)(y:St 0 h'):xe G c ρ h h' I aC tb:=⟨St,[I],x,y,λp hp=>jq (aV.mp hp▸n)⟩
theorem N5{K:b9->Prop}(hh:lv.hn=true->c.A.handled=none)(R:aG G c s.heap ρ l S)(V:VI ρ s.heap v d)(q:qI S lv d K)
  (k:∀I aC h',K aC->xe G c ρ s.heap h' I aC false->dK c.L s.heap h'->QQ (.ref I) {s with heap:=h'}):wpAny G.M c.A (pyIter v) QQ E s:=by
 have z:=aB s.heap.objs.size;cases d with
 | tup ds =>
  refine jL q λhn hl q=>?_;refine fz V λa vs n dn ho hv=>?_;obtain rfl:=dn;have gr:=dw c.L s.heap ({cls:=.type "tuple_iterator",data:=.fields #[.ref a,.int 0 0]}:Obj);exact wpAny_pyIter_tuple (items:=vs.toArray) ⟨_,ho,rfl,_,rfl⟩ (k _ _ _ q (.of z (Xr (hh hn) _ a _) ⟨⟨_,dD _ rfl,rfl,rfl⟩,vs,n,R.jU gr _ _ _ ho,hv⟩) gr)
 | str x =>
  refine jL q λha hl q=>?_;obtain⟨t,rfl⟩:=V;exact wpAny_pyIter_ascii (JR.mpr λc hc=>cH (ha c hc)) (k _ _ _ q (.of z (Xq _ x t) ⟨_,dD _ rfl,rfl,rfl⟩) (dw _ _ _))
 | bytes b =>
  refine xA q λhl q=>?_;obtain⟨t,rfl⟩:=V;exact C7 (k _ _ _ q (.of z (QG _ _ t) ⟨_,dD _ rfl,rfl,rfl⟩) (dw _ _ _))
 | ref i =>
  refine ak V λa ha dX=>?_;obtain rfl:=dX;rcases q with⟨ds,e,hl,q⟩ | ⟨es,ep,e,hn,hl,q⟩
  ·refine ak (R.list ha e) λvs wO hv=>?_;exact CT wO (k _ _ _ q (.of z (UK _ _ i ds ha) ⟨_,dD _ rfl,rfl,rfl⟩) (dw _ _ _))
  ·refine dY (R.aX.at_ _ _ _ ha e) λkvs hm hk lo=>?_;exact wpAny_pyIter_dict lo hm (k _ _ _ q (.of z (UM (hh hn) _ _ i es ep ha) (by rw[<- hk.len];exact⟨_,dD _ rfl,rfl,rfl⟩)) (dw _ _ _))
 | _=>exact False.elim q
def EI(G:GX)(c:Cx)(e:Expr)(l:a9)(S:St)(tb:Bool)(K:b9->St->Prop):Prop:=∀(ρ:List Addr) (s:Shared) (QQ:Value->Shared->Prop) (E:Value->Shared->Prop),aG G c s.heap ρ l S ->
 (∀I aC h₁ h' tk' ar S',bR G c h₁ ar S'->bS c.L s.heap ρ h₁ ar->xe G c ar h₁ h' I aC tb->dK c.L h₁ h'->K aC S'->QQ (.ref I) {s with heap:=h',toks:=tk'}) ->
 wpAny G.M c.A (eval e c.aj) (λx aE=>wpAny G.M c.A (pyIter x) QQ E aE) E s
theorem Z3{e:Expr}{K:b9->St->Prop}(hh:lv.hn=true->c.A.handled=none)(q:EV G c e l S λd aa=>qI aa lv d λaC=>K aC aa):EI G c e l S false K:=λz z QQ E R k=>
 q _ _ _ E R λv d h₁ tk fa aa X T V q=>N5 (s:=⟨h₁,_,_,tk,_⟩) hh (R.step T X) V q λI aC h' hK B gr=>k I aC h₁ h' tk fa aa X T B gr hK
theorem Hq(a b:Int):Builtin.Range.rangeSize a b 1=((b-a).toNat:Int):=rangeSize_nat a b
theorem A8(p: -1000000<=x)(q:x<=1000000):Builtin.Range.rangeFitsLong x=true:=by
 unfold Builtin.Range.rangeFitsLong;rw[jc];exact⟨cH (mX (by decide) p),cH (Int.lt_of_le_of_lt q (by decide))⟩
theorem zZ(h1: -100000<=a)(h2:a<=100000)(h3: -100000<=b)(h4:b<=100000):Builtin.Range.small a b 1=true:=by
 unfold Builtin.Range.small;rw[Hq];have e:=A8 (x:=((b-a).toNat:Int)) (ah 0xaf81f55d6f7589bf7) (by lia)
 rewrite[A8 (x:=a) (mX (by decide) h1) (mX h2 (by decide)),A8 (x:=b) (mX (by decide) h3) (mX h4 (by decide)),A8 (x:=1) (by decide) (by decide),e,au (by decide),A8 (by exact j6 0x1148d6c6409bfcbabea5500d76e4c999cb85977 h3) (by exact j6 0x1c6a990fa82cc32c9eaf88dc93b1001fdd4b h4),Bool.or_true]
 rfl
theorem Hr(hn:c.A.handled=none)(hr:IsRange s.heap r a b 1 t u v)(hs:Builtin.Range.small a b 1=true)
  (k:∀I h',xe G c ρ s.heap h' I (.c6 (bg a (b-a).toNat)) false->dK c.L s.heap h'->QQ (.ref I) {s with heap:=h'}):wpAny G.M c.A (pyIter (.ref r)) QQ E s:=by
 refine wpAny_pyIter_range hr hs ?_;rw[Hq];refine k _ _ (.of (aB _) (QH hn _ a _) ?_) (dw _ _ _);show IsRangeIter _ _ (a+((0:Nat):Int)) (((b-a).toNat:Int)-((0:Nat):Int)) _;rw[Int.natCast_zero,ji,Int.sub_zero];exact dD s.heap (o:={cls:=.type "range_iterator",data:=.fields #[rawInt a,rawInt ((b-a).toNat:Int),rawInt 1]}) rfl
theorem xe.mono(B:xe G c ρ cJ h' I aC tb)(k:∀b o,h₁.get? b=some o->cJ.get? b=some o):xe G c ρ h₁ h' I aC tb :=
 dH (B) λSt pr h1 h2 h3=>⟨St,pr,h1,h2,λp hp ob e=>h3 p hp ob (k _ _ e)⟩
theorem A9:bootBuiltins "range"=some (.type "range"):=by decide +kernel
theorem Dz:bootBuiltins "enumerate"=some (.type "enumerate"):=by decide +kernel
variable {se:SE}
theorem rZ(O:bh se c)(C:bw G lv c)(R:aG G c s.heap ρ l S)(hx:(x==("__debug__":Str))=false)(hk:se.names.lookup x=some .globalImplicit)
  (hb:x∈wW) (hv:bootBuiltins x=some f) (hf:(∃T,f=.type T)∨∃id,f=.builtin id) (hs:es.all noStar=true) (he:es≠[]) (q:gj G c es l S Q')
  (K:∀vs ds h' tk' ar S',bR G c h' ar S'->bS c.L s.heap ρ h' ar->c5 ar h' vs ds->Q' ds S'->wpAny G.M c.A (call f vs) QQ E {s with heap:=h',toks:=tk'}) :
  wpAny G.M c.A (eval (.Call (.Name x p) es [] pos) c.aj) QQ E s:=by
 have hn:x≠"__name__":=by rintro rfl;revert hb;decide +kernel
 refine Call_ (Gl O C R hx hk hb hn hv ?_) rfl;cases es with
 | nil=>exact(he rfl).elim
 | cons e r =>
  refine xA (cG.mp hs) λh1 h2=>?_;rcases hf with⟨T,rfl⟩ | ⟨id,rfl⟩
  ·exact callWith_type1 (q pos _ s _ E R λvs ds h' tk' ar S' X T V q=>K vs ds h' tk' ar S' X T V q) (fZ h1 _ _) (qK h2 _ _)
  ·exact JT (q pos _ s _ E R λvs ds h' tk' ar S' X T V q=>K vs ds h' tk' ar S' X T V q) (fZ h1 _ _) (qK h2 _ _)
theorem N6{K:b9->St->Prop}(cC:k=.uK∨k=.Dl)(O:bh se c)(C:bw G lv c)(hk:se.names.lookup ("range":Str)=some .globalImplicit)(hs:es.all noStar=true)(he:es≠[])
  (q:gj G c es l S λds aa=>md aa lv k (.tup ds) λaC=>K aC aa):EI G c (.Call (.Name "range" p) es [] pos) l S false K:=λρ s QQ E R kk=>by
 refine rZ O C R (by decide +kernel) hk (by decide +kernel) A9 (.inl ⟨_,rfl⟩) hs he q λvs ds h₁ tk fa aa X T V q=>?_;rcases cC with rfl | rfl
 ·refine ak (rT q) λd fB q=>?_;obtain rfl:=fB;obtain⟨n,rfl,hn,hy,hz,q⟩:=dg q;obtain⟨v,rfl,t,rfl⟩:=L2.vc V;refine call_range_1 ?_;have gr:=dw c.L h₁ ({cls:=.type "range",data:=.fields #[.int 0 tk,.int n t,.int 1 (tk+1)]}:Obj);refine Hr (ρ:=fa) (c:=c) (G:=G) (s:=⟨_,_,_,_,_⟩) (C.hn hn) (IsRange.new _ _ _ _ _ _ _) (zZ (by decide) (by decide) hy hz) λI h' B zw=>?_;rw[Int.sub_zero]at B;exact kk I _ h₁ h' _ fa aa X T (B.mono λb o e=>cg _ e) (gr.trans zw) q
 ·refine cq (AW q) λd e gy q=>?_;obtain rfl:=gy;refine ak (dg q) λm kz q=>?_;obtain rfl:=kz;obtain⟨n,rfl,hn,h1,h2,h3,h4,q⟩:=dg q;obtain⟨v,u,rfl,⟨t,rfl⟩,t',rfl⟩:=L2.tx V;refine call_range_2 ?_;have gr:=dw c.L h₁ ({cls:=.type "range",data:=.fields #[.int m t,.int n t',.int 1 tk]}:Obj);refine Hr (ρ:=fa) (c:=c) (G:=G) (s:=⟨_,_,_,_,_⟩) (C.hn hn) (IsRange.new _ _ _ _ _ _ _) (zZ h1 h2 h3 h4) λI h' B zw=>?_;exact kk I _ h₁ h' _ fa aa X T (B.mono λb o e=>cg _ e) (gr.trans zw) q
end
set_option maxHeartbeats 2000000 in
set_option tactic.hygienic true in
theorem Z4(h:∀x,Q x s):wpAny M A (pure a) Q E s:=ao (h a)
theorem z0(b:Array UInt8)(t:Tok) :
  Meets (Builtin.«enumerate.__new__» ⟨[.type "enumerate",.bytes b t],[]⟩) (λz R s=>
   R (.ok (.ret (.ref (s.heap.push {cls:=.type "bytes_iterator",data:=.fields #[.bytes b t,.int 0 0]}).objs.size)))
    {s with heap:=(s.heap.push {cls:=.type "bytes_iterator",data:=.fields #[.bytes b t,.int 0 0]}).push {cls:=.type "enumerate",data:=.fields #[.none,.bool false,.ref s.heap.objs.size,rawInt 0,.none,.none]}}) :=
 .of_wp λprog w A R s h=>by
  obtain⟨hp,g,d,tk,os⟩:=s;have j0:=sub_enumerate
  wp_walk
  refine wpAny_stack_any λst=>Z4 λx=>?_;cases x<;>(dsimp only;first | rw[ai bf] | rw[au rfl])
  ·wp_walk using C7
   exact⟨_,rfl,h⟩
  ·wp_walk using C7
   exact⟨_,rfl,h⟩
section
variable {G:GX} {lv:Lv} {c:Cx} {ρ ar:List Addr} {l:a9} {S:St} {s:Shared} {h h':Heap} {pr:List Addr} {se:SE}
theorem N7(k:∀I h',xe G c ρ s.heap h' I (.c6 (uL b)) true->dK c.L s.heap h'->QQ (.ref I) {s with heap:=h'}) :
  wpAny G.M c.A (call (.type "enumerate") [.bytes b.toArray t]) (λx aE=>wpAny G.M c.A (pyIter x) QQ E aE) E s:=by
 refine callType_new F.called_enumerate (by decide) (F.typeCall_enumerate_1 _) (F.newCall_enumerate_1 _) (λobj=>ym obj _) F.entry_enumerate_new (z0 _ t) ?_;have hz:(s.heap.push {cls:=.type "bytes_iterator",data:=.fields #[.bytes b.toArray t,.int 0 0]}).objs.size=s.heap.objs.size+1:=jf ..;show _/\_;rw[hz];have he:IsEnum ((s.heap.push {cls:=.type "bytes_iterator",data:=.fields #[.bytes b.toArray t,.int 0 0]}).push {cls:=.type "enumerate",data:=.fields #[.none,.bool false,.ref s.heap.objs.size,rawInt 0,.none,.none]}) (s.heap.objs.size+1) s.heap.objs.size 0 .none:=by
  have:=dD (s.heap.push {cls:=.type "bytes_iterator",data:=.fields #[.bytes b.toArray t,.int 0 0]}) (o:={cls:=.type "enumerate",data:=.fields #[.none,.bool false,.ref s.heap.objs.size,rawInt 0,.none,.none]}) rfl;rw[hz]at this;exact this
 refine⟨⟨_,he,rfl⟩,wpAny_pyIter_enum (s:=⟨_,_,_,_,_⟩) he ?_⟩;have gr:=(dw c.L s.heap ({cls:=.type "bytes_iterator",data:=.fields #[.bytes b.toArray t,.int 0 0]}:Obj)).trans (dw c.L _ ({cls:=.type "enumerate",data:=.fields #[.none,.bool false,.ref s.heap.objs.size,rawInt 0,.none,.none]}:Obj));refine k _ _ ⟨_,_,UN (G:=G) (A:=c.A) (s.heap.objs.size+1) s.heap.objs.size (CZ _) b t,⟨⟨_,he⟩,_,cg _ (dD _ rfl),rfl,rfl⟩,λp hp ob=>?_⟩ gr;rcases bK.mp hp with rfl | hp
 ·exact jq (kZ _) ob
 ·exact jq (aV.mp hp▸aB _) ob
theorem Xz{K:b9->St->Prop}(O:bh se c)(C:bw G lv c)(hk:se.names.lookup ("enumerate":Str)=some .globalImplicit)(hs:es.all noStar=true)(he:es≠[])
  (q:gj G c es l S λds aa=>md aa lv .EG (.tup ds) λaC=>K aC aa):EI G c (.Call (.Name "enumerate" p) es [] pos) l S true K:=λρ s QQ E R k=>by
 refine rZ O C R (by decide +kernel) hk (by decide +kernel) Dz (.inl ⟨_,rfl⟩) hs he q λvs ds h₁ tk fa aa X T V q=>?_;refine ak (rT q) λd wQ q=>?_;obtain rfl:=wQ;apply dq (L2.vc V);intro v V';cases d with
 | bytes b =>
  refine xA q λhb q=>?_;obtain⟨t,rfl⟩:=V';exact N7 (s:=⟨h₁,_,_,tk,_⟩) λI h' B gr=>k I _ h₁ h' _ fa aa X T B gr q
 | _=>exact False.elim q
noncomputable def vr(se:SE)(tg:Expr)(is:List Nat)(tup:Bool):Bool:=match tup with
 | true=>lh tg λes z z=>sW se es is
 | false=>is.length==1&&S8 se tg (is.headD 0)
theorem QV(O:bh se c)(FC:fD c){tg:Expr}{is:List Nat}{tup:Bool}{v:Value}{d:PV}{k:a9->Prop}{QQ:Unit->Shared->Prop}{E:Value->Shared->Prop}(ht:vr se tg is tup=true)(R:aG G c s.heap ρ l S)(V:VI ρ s.heap v d)(hb:fJ is tup d l k)
  (K:∀l' h' tk',k l'->aG G c h' ρ l' S->eO c s.heap ρ h' ρ->QQ () {s with heap:=h',toks:=tk'}):wpAny G.M c.A (assign tg c.aj v) QQ E s:=by
 cases tup with
 | true =>
  apply bJ (f6 ht);intro es n p ht;refine ak (mH hb) λds rW hb=>?_;obtain rfl:=rW;exact vq O FC ht R V hb.1 λh' tk' R' T'=>K _ h' tk' hb.2 R' T'
 | false =>
  obtain⟨i,rfl,hb⟩:=hb;obtain⟨x,p,rfl,hi⟩:=NZ (cG.mp (show(true&&S8 se tg i)=true from ht)).2;exact uc (oW O FC R hi V λh' tk' R' T'=>K _ h' tk' hb R' T')
theorem XA(ht:vr se tg is tup=true)(h:tb=true->tup=true)(hb:tb=true):Hh tg=true:=by
 obtain rfl:=h hb;apply bJ (f6 ht);intro es n p _;rfl
noncomputable abbrev qM:Expr->Bool:=oR 7
theorem vt{e:Expr}(h:qM e=true)(aj:Env)(x:Value):foldedSetIterable e aj x=pure x:=by
 cases e<;>first | rfl | cases h
theorem Hs{hp:Heap}(R:aG G c hp ρ l S){aC:b9}(h:aC.nh S):A6 G ρ hp aC:=by
 cases aC with
 | c6=>trivial
 | list a ds=>exact R.aX.get h
 | bD a es ep=>exact R.aX.get h
theorem Ht{E0:Value->Shared->Prop}{B:a9->St->(Fl->a9->St->Prop)->Prop}{X:(Flow->Shared->Prop)->(Value->Shared->Prop)->Shared->Prop}{Cd:(Result->Shared->Prop)->Shared->Prop}
  (O:bh se c) (FC:fD c) (ht:vr se tg is tup=true) (sV:tb=true->tup=true)
  (hB:∀{l:a9} {S:St} {Q:Fl->a9->St->Prop} {ρ:List Addr} {s:Shared} {QQ:Flow->Shared->Prop} {E:Value->Shared->Prop},B l S Q->aG G c s.heap ρ l S->SC G c s ρ Q QQ->X QQ E s)
  (rule:∀(J:Nat->Shared->Prop) (R:Result->Shared->Prop),(∀n s,J n s->∀E,wpAny G.M c.A (pyNext (.ref Ia)) (λr aE=>match r with
   | none=>R (.ok .next) aE
   | some v=>wpAny G.M c.A (letOwnedTupleGo tg (.ref Ia) v) (λy vu=>wpAny G.M c.A (assign tg c.aj v) (λy bq=>X (λf lJ=>match f with
    | .next | .cont=>∃m,m<n/\J m lJ
    | .brk=>R (.ok .next) lJ
    | .ret v=>R (.ok (.ret v)) lJ) E bq) E vu) E aE) E s)->∀n s,J n s->Cd R s)
  (Hu:aG G c h₁ fa l aa) (Bi:xe G c fa h₁ cJ Ia aC tb) (gr:dK c.L h₁ cJ) (XB:SC G c {s with heap:=h₁,toks:=iO} fa Q QQ)
  (q:∃I:Nat->a9->St->Prop,I 0 l aa/\(∀k l' S',I k l' S'->aC.nh S') /\
   (∀k l' S' d,I k l' S'->aC.items[k]? =some d->fJ is tup d l' λl₁=>B l₁ S' (gp (λl₂ af y=>∃bN aL,gA aa l₂ af bN aL/\I (k+1) bN aL) Q)) /\
   ∀l' S',I aC.items.length l' S'->Q .next l' S'):Cd (λr s'=>match r with | .ok f=>QQ f s' | .error e=>E0 e s') {s with heap:=cJ,toks:=iO}:=by
 refine u9 q λI h0 cD k9 oX=>?_;refine dH Bi λSt pr W Tc new=>?_;have live:=W.live;have lv:∀i h,St i h->∀p∈pr,∃o,h.get? p=some o:=λi h st p hp=>ak (live i h st p hp) λo ho y=>⟨o,ho⟩;refine rule (λn s'=>∃h' tk' i ar l' S',s'={s with heap:=h',toks:=tk'}/\i+n=aC.items.length+1/\i<=aC.items.length/\St i h'/\Pv c ar pr/\aG G c h' ar l' S'/\eO c h₁ fa h' ar/\I i l' S') _ ?_ (aC.items.length+1) _
  ⟨cJ,iO,0,fa,l,aa,rfl,fS _,bM _,Tc,Pv.new Hu new,Hu.eD gr,(bS.eD gr).s,h0⟩
 rintro n s' ⟨h',tk',i,ar,l',S',rfl,pR,hi,st,P,R',T',hI⟩ E;have qe:=Hs R' (cD _ _ _ hI);have ei:∀a,c.A.handled=some (.ref a)->a∉pr:=λa ha hp=>P.exc a hp ha;by_cases bz:i<aC.items.length
 ·have hd:aC.items[i]? =some aC.items[i]:=c8 bz;refine du (W.item i _ tg ar ⟨h',_,_,tk',_⟩ _ _ T'.pre hd (λhb=>XA ht sV hb) st qe R'.cD ei (λv h3 lV V Hv k3=>?_)) (λr aE hr=>(by obtain⟨v,rfl,hr⟩:=hr;exact hr)) λy y e=>e;have R3:=R'.qd P k3 (LZ (live i h' st) k3);have T3:=T'.qd new k3;refine QV (s:=⟨h3,_,_,lV,_⟩) O FC ht R3 V (k9 i l' S' _ hI hd) λl4 h4 Td hb R4 T4=>?_;refine xA (P.zv (lv _ h3 Hv) T4) λP4 k4=>?_;have st4:=W.jY (i+1) h3 h4 Hv (R3.QN FC T4) k4;refine hB hb R4 λf fl h5 XC ρ5 l5 S5 R5 T5 V5 q5=>?_;have T6:=(T3.trans T4).trans T5;cases fl with
  | next =>
   obtain rfl:=V5;refine xA (P4.zv (lv _ h4 st4) T5) λP5 k5=>?_;refine cq q5 λl6 S6 hD hI6=>?_;refine dY (hD G c h5 fa ρ5 Hu.aX.len T6.pre R5) λTe p6 sub R6=>?_;exact⟨aC.items.length-i,bO 0x6f780b9638df9c9f4f2d70de179 pR (ba (ag 11262717601 bz)),h5,XC,i+1,Te,l6,S6,rfl,bu (az 0x396a3543cd74dff65a08429 (ba (ag 11262717601 bz))) (az 0x396626b99cd92499c538d29 cP),bz,W.jY (i+1) h4 h5 st4 (R4.QN FC T5) k5,
    {base:=P5.base,nl:=P5.nl,loc:=P5.loc,exc:=P5.exc,ns:=λp hp=>sub p (P5.ns p hp)},R6,⟨p6,λb o n m e q=>let z:=T6.old b o n m e q;⟨z.1,sub b z.2⟩⟩,hI6⟩
  | ret d=>obtain⟨v,rfl,V5⟩:=V5;exact XB _ (.ret d) _ _ _ _ _ R5 T6 ⟨v,rfl,V5⟩ q5
 ·obtain rfl:i=aC.items.length:=bu hi (oK.mp bz);refine W.done ar ⟨h',_,_,tk',_⟩ _ _ T'.pre st qe R'.cD ei λh3 k3=>?_;exact XB.next (R'.qd P k3 (LZ (live _ h' st) k3)) (T'.qd new k3) (oX _ _ hI)
theorem UR{tg e:Expr}{b:List Stmt}{p:Pos}{Q:Fl->a9->St->Prop}(O:bh se c)(FC:fD c)(ht:vr se tg is tup=true)(sV:tb=true->tup=true)(hs:qM e=true)
  (q:EI G c e l S tb λaC aa=>∃I:Nat->a9->St->Prop,I 0 l aa/\(∀k l' S',I k l' S'->aC.nh S') /\
   (∀k l' S' d,I k l' S'->aC.items[k]? =some d->fJ is tup d l' λl₁=>ES G c b l₁ S' (gp (λl₂ af z=>∃bN aL,gA aa l₂ af bN aL/\I (k+1) bN aL) Q)) /\
   ∀l' S',I aC.items.length l' S'->Q .next l' S'):kb G c (.For tg e b [] p) l S Q:=λρ s QQ E R K=>by
 refine wpAny_For ?_ λx=>vt hs _ _;exact q _ _ _ E R λIa aC h₁ cJ iO fa aa X T B gr q=>Ht (s:=s) (Cd:=λR' s'=>codeAny G.M c.A (.forLoop tg (.ref Ia) b [] c.aj) R' s') (X:=λQQ E s=>wpAny G.M c.A (execs b c.aj) QQ E s) O FC ht sV (λh R K=>h _ _ _ _ R K)
  (λJ R' mJ n s hJ=>codeAny_forLoop_any J (λn s hI=>du (mJ n s hI _) (λr aE h=>by cases r with
   | none=>exact yC h
   | some v=>exact h) λz z e=>e) n hJ) (R.step T X) B gr (K.step T.s) q
end
noncomputable def pS(names sn:List (Str×NameKind)):List (Str×NameKind):=sn.map λp=>if(p.2==.free&&names.lookup p.1==some .cell)then(p.1,.cell)else p
noncomputable def Ki(se:SE)(sn:List (Str×NameKind)):List (Str×Nat):=(sn.filter λp=>p.2==.free&&(se.idx.lookup p.1).isSome).map λp=>(p.1,(se.idx.lookup p.1).getD 0)
noncomputable def pT(se:SE)(sc:Scope)(xs:List Str):SE:=⟨pS se.names sc.names,xs.zipIdx se.n++Ki se sc.names,se.n+xs.length⟩
noncomputable def xf(se:SE)(sc:Scope)(xs:List Str):Bool :=
 decide (sc.kind=.function)&&decide (sc.names.map (·.1)).Nodup&&(sc.names.all λp=>decide (p.2≠.cell))&&(xs.all λx=>decide (sc.names.lookup x=some .local))&&decide xs.Nodup &&
  (sc.names.all λp=>!(p.2==.free)||((se.idx.lookup p.1).isSome&&(decide (se.names.lookup p.1=some .cell)||decide (se.names.lookup p.1=some .free))))
noncomputable def vv(names:List (Str×NameKind))(f:Str->Addr)(bA:List (Str×Addr)):List (Str×Addr):=names.foldl (λcs p=>if p.2==.free then(p.1,f p.1)::cs else cs) bA
theorem L1(aj:Env)(f:Str->Addr)(names:List (Str×NameKind)):∀bA:List (Str×Addr),(∀p∈names,p.2=.free->aj.cells.lookup p.1=some (f p.1)) ->
  (forIn names bA (λp cs=>if p.2==NameKind.free then do let a<-cellOf aj p.1;pure (ForInStep.yield ((p.1,a)::cs))else pure (ForInStep.yield cs)):Sem _)=pure (vv names f bA):=by
 induction names with
 | nil=>exact λz z=>rfl
 | cons p r ih =>
  intro bA h;rw[List.forIn_cons];by_cases hk:(p.2==NameKind.free)=true
  ·obtain e:cellOf aj p.1=pure (f p.1):=by unfold cellOf;rw[h p (.head _) (eq_of_beq hk)]
   rw[au hk,e];refine(ih _ λp hp=>h p (.tail _ hp)).trans ?_;show _=pure (vv r f (if p.2==.free then _ else _))
   rw[au hk]
  ·rw[ai hk];refine(ih bA λp hp=>h p (.tail _ hp)).trans ?_;show _=pure (vv r f (if p.2==.free then _ else _))
   rw[ai hk]
theorem L3(h:∀p∈sc.names,p.2=.free->aj.cells.lookup p.1=some (f p.1)):closureFor sc aj=pure (vv sc.names f []):=by
 unfold closureFor;obtain e:=L1 aj f sc.names [] h;dsimp only;have e':(forIn sc.names ([]:List (Str×Addr)) λx r=>match x with | (name,kind)=>if(kind==NameKind.free)=true then do let a<-cellOf aj name;pure (ForInStep.yield ((name,a)::r))else pure (ForInStep.yield r):Sem _)=pure (vv sc.names f []):=e
 exact(bE (λt:Sem (List (Str×Addr))=>t>>=λcs=>pure cs) e')
theorem N8(f:Str->Addr){x:Str}(names:List (Str×NameKind)):∀bA:List (Str×Addr),(x,NameKind.free)∈names∨bA.lookup x=some (f x)->(vv names f bA).lookup x=some (f x):=by
 induction names with
 | nil=>exact λbA h=>h.elim (λh=>nomatch h) id
 | cons p r ih =>
  intro bA h;refine ih _ ?_;rcases h with h | h
  ·rcases bK.mp h with e | h
   ·refine .inr ?_;show(if p.2==.free then(p.1,f p.1)::bA else bA).lookup x=_
    rw[<- e,au (show((x,NameKind.free).2==NameKind.free)=true from rfl),jK,CY]
   ·exact .inl h
  ·refine .inr ?_;show(if p.2==.free then(p.1,f p.1)::bA else bA).lookup x=_
   by_cases hk:(p.2==NameKind.free)=true
   ·rw[au hk,jK];cases q:x==p.1 with
    | true=>rw[eq_of_beq q]
    | false=>exact h
   ·rw[ai hk];exact h
theorem DA(names:List (Str×NameKind)){x:Str}{k:NameKind}(sn:List (Str×NameKind)):sn.lookup x=some k->(pS names sn).lookup x=some (if(k==.free&&names.lookup x==some .cell)then .cell else k):=by
 induction sn with
 | nil=>exact λh=>nomatch h
 | cons p r ih =>
  intro h;show((if(p.2==.free&&names.lookup p.1==some .cell)then(p.1,NameKind.cell)else p)::pS names r).lookup x=_
  obtain e1:(if(p.2==.free&&names.lookup p.1==some .cell)=true then(p.1,NameKind.cell)else p)=(p.1,if(p.2==.free&&names.lookup p.1==some .cell)then .cell else p.2):=by
   by_cases q:(p.2==.free&&names.lookup p.1==some .cell)=true
   ·rw[au q,au q]
   ·rw[ai q,ai q]
  rw[jK]at h;rw[e1,jK];cases q:x==p.1 with
  | true=>rw[q]at h;cases h;rw[eq_of_beq q]
  | false=>rw[q]at h;exact ih h
theorem vw{v:V}{l:List (Str×V)}:(l.map (·.1)).Nodup->(x,v)∈l->l.lookup x=some v:=by
 induction l with
 | nil=>exact λz h=>nomatch h
 | cons p r ih =>
  intro hn h;refine xA (fQ.mp hn) λh1 h2=>?_;rw[jK];rcases bK.mp h with e | h
  ·rw[<- e,CY]
  ·rw[show(x==p.1)=false from CI.mpr λe=>h1 (by show p.1∈_;rw[<- e];exact jI (f:=(·.1)) h)];exact ih h2 h
structure L4(se:SE)(sc:Scope)(xs:List Str):Prop where
 kind:sc.kind=.function
 nd:(sc.names.map (·.1)).Nodup
 nc:∀p∈sc.names,p.2≠.cell
 xl:∀x∈xs,sc.names.lookup x=some .local
 xn:xs.Nodup
 fr:∀p∈sc.names,p.2=.free->(∃i,se.idx.lookup p.1=some i)/\(se.names.lookup p.1=some .cell∨se.names.lookup p.1=some .free)
theorem Tf(h:xf se sc xs=true):L4 se sc xs:=by
 refine xA (cG.mp h) λh h6=>?_;refine xA (cG.mp h) λh h5=>?_;refine xA (cG.mp h) λh h4=>?_;refine xA (cG.mp h) λh h3=>?_;refine xA (cG.mp h) λh1 h2=>?_;refine⟨aN h1,aN h2,λp hp=>aN (aS.mp h3 p hp),λx hx=>aN (aS.mp h4 x hx),aN h5,λp hp hf=>?_⟩;rcases CO.mp (aS.mp h6 p hp)with q | q
 ·rw[hf]at q;cases q
 ·refine xA (cG.mp q) λq1 q2=>?_;exact⟨tX.mp q1,(CO.mp q2).imp aN aN⟩
noncomputable def nK(c:Cx)(sc:Scope)(cl:List (Str×Addr))(C:Addr)(xs:List Str):Cx:={c with aj:=compEnvC sc cl C c.aj,dS:=c.dS++xs.map (iw.ns C)}
theorem xg{v:V}{l l':List (Str×V)}:(l++l').lookup x=some v->l.lookup x=some v∨l'.lookup x=some v:=by
 induction l with
 | nil=>exact .inr
 | cons p r ih =>
  intro h;rw[List.cons_append,jK]at h;rw[jK];cases q:x==p.1 with
  | true=>rw[q]at h;exact .inl h
  | false=>rw[q]at h;exact ih h
theorem Hw(h:(Ki se sn).lookup x=some i):(x,NameKind.free)∈sn/\se.idx.lookup x=some i:=by
 refine ak (bH.mp (iN h)) λp hp e=>?_;refine xA (eT.mp hp) λhm hq=>?_;refine xA (cG.mp hq) λh1 h2=>?_;refine xE (tX.mp h2) λj hj=>?_;rw[hj]at e;obtain⟨p1,p2⟩:=p;cases e;cases eq_of_beq h1;exact⟨hm,hj⟩
section
variable {G:GX} {c:Cx}
theorem Hx{sc:Scope}{xs:List Str}(O:bh se c)(F:L4 se sc xs):∃cl,closureFor sc c.aj=pure cl/\∀C,bh (pT se sc xs) (nK c sc cl C xs):=by
 have hk:∀x,c.aj.kindOf x=se.names.lookup x:=λx=>by unfold Env.kindOf;rw[O.names]
 have ex:∀p∈sc.names,p.2=.free->∀i,se.idx.lookup p.1=some i->∃a,c.aj.cells.lookup p.1=some a/\c.dS[i]? =some (.cell a):=λp hp hf i hi=>by
  rcases O.var _ _ hi with⟨h1,_⟩ | ⟨_,a,h2,h3⟩
  ·rw[hk]at h1;rcases(F.fr p hp hf).2 with hk | hk<;>cases hk.symm.trans h1
  ·exact⟨a,h2,h3⟩
 refine⟨vv sc.names (λn=>(c.aj.cells.lookup n).getD 0) [],L3 λp hp hf=>?_,λC=>?_⟩
 ·refine xE ((F.fr p hp hf).1) λi hi=>?_;refine ak (ex p hp hf i hi) λa ha z=>?_;rw[ha];rfl
 have rn:(relabel sc c.aj).names=pS se.names sc.names:=by
  unfold relabel pS;refine kP λp z=>?_;obtain⟨n,k⟩:=p;show(if(k==.free&&c.aj.scope.kind==.function&&c.aj.kindOf n==some .cell)then(n,NameKind.cell)else(n,k))=_
  rw[O.kind,hk,CY,Bool.and_true]
 refine {kind:=F.kind,names:=rn,mI:=O.mI,bi:=O.bi,len:=?_,var:=λx i hi=>?_}
 ·show(c.dS++xs.map _).length=se.n+xs.length;rw[aW,aK,O.len]
 ·have kx:∀k,sc.names.lookup x=some k->(nK c sc (vv sc.names (λn=>(c.aj.cells.lookup n).getD 0) []) C xs).aj.kindOf x=some (if(k==.free&&se.names.lookup x==some .cell)then .cell else k):=λk cC=>by
   show(relabel sc c.aj).names.lookup x=_;rw[rn];exact DA _ _ cC
  rcases xg hi with hi | hi
  ·apply dq (we xs hi);intro j h2;obtain hx:=F.xl x (aH h2);refine .inl ⟨kx _ hx,?_⟩;show(c.dS++xs.map (iw.ns C))[se.n+j]? =_;rw[<- O.len,d9 (cT _ _),ou,cv,h2];rfl
  ·refine xA (Hw hi) λhm hi=>?_;refine ak (ex _ hm rfl i hi) λa h2 h3=>?_;refine .inr ⟨?_,a,?_,?_⟩
   ·rw[kx _ (vw F.nd hm)];by_cases q:(NameKind.free==.free&&se.names.lookup x==some .cell)=true
    ·rw[au q];exact .inl rfl
    ·rw[ai q];exact .inr rfl
   ·show(vv sc.names (λn=>(c.aj.cells.lookup n).getD 0) []).lookup x=some a;rw[N8 _ _ _ (.inl hm),h2];rfl
   ·show(c.dS++xs.map (iw.ns C))[i]? =_;rw[eH (bP.mp h3).1];exact h3
theorem US(Y:bw G lv c):bw G lv (nK c sc cl C xs) :=
 {below:=Y.below,frames:=Y.frames,pN:=Y.pN,fk:=Y.fk,K:=Y.K,T:=Y.T,depth:=Y.depth,units:=Y.units,hn:=Y.hn,nb:=Y.nb,gx:=Y.gx}
theorem Hy(hv:v∈(nK c sc cl C xs).dS):v∈c.dS∨v.iU=C:=by
 rcases dt.mp hv with hv | hv
 ·exact .inl hv
 ·apply eN (bH.mp hv);intro x _;exact .inr rfl
theorem QW(R:aG G c h ρ l S)(base:c.h₀.get? C=none)(ns:C∉ρ)(hC:h.Ns C m)(V:c5 ρ h vs ys)(hl:ys.length=xs.length)
  (hm:∀(j:Nat) x w,xs[j]? =some x->vs[j]? =some w->m x=some w):aG G (nK c sc cl C xs) h ρ (l++ys.map some) S where
 keep:=R.keep
 above:=R.above
 rR:=R.rR
 len:=by show _=(c.dS++xs.map _).length;rw[aW,aW,aK,aK,R.len,hl]
 gz:=R.gz
 cQ:=λv hv=>(Hy hv).elim (R.cQ v) λe=>e▸base
 var:=λi v hv=>by
  have zx:(c.dS++xs.map (iw.ns C))[i]? =some v:=hv;by_cases bz:i<c.dS.length
  ·rw[eH bz]at zx;rw[eH (by rw[R.len];exact bz)];exact R.var i v zx
  ·obtain Tg:=ja bz;rw[d9 Tg,cv]at zx;apply eN (f9.mp zx);intro x hx;rw[d9 (by rw[R.len];exact Tg),R.len];refine⟨m,hC,λd hd=>?_⟩;rw[cv]at hd;cases q:ys[i-c.dS.length]? with
   | none=>rw[q]at hd;cases hd
   | some d' =>
    rw[q]at hd;cases hd;refine ak (L2.get V q) λw hw W=>?_;exact⟨w,hm _ _ _ hx hw,W⟩
 aX:=⟨R.aX.len,R.aX.nd,R.aX.at_,λa ha=>let z:=R.aX.cQ a ha;⟨z.1,z.2.1,λv hv=>(Hy hv).elim (z.2.2 v) λe q=>ns (e.symm.trans q▸ha)⟩⟩
 exc:=R.exc
theorem Hz(X:bR G (nK c sc cl C xs) h ρ S):bR G c h ρ S :=
 ⟨X.len,X.nd,X.at_,λa ha=>let z:=X.cQ a ha;⟨z.1,z.2.1,λv hv=>z.2.2 v (CG _ hv)⟩⟩
noncomputable def Th(e:Expr)(y:Str):Bool:=hZ e λx z=>x==y
theorem N9{e:Expr}(h:Th e y=true):∃p,e=.Name y p:=by
 apply c0 (eE h);intro x p h;apply zL (eq_of_beq h);exact⟨p,rfl⟩
noncomputable def oY:List Expr->List Str->Bool
 | [],ys=>ys.isEmpty
 | e::r,ys=>match ys with
  | []=>false
  | y::ys=>Th e y&&oY r ys
noncomputable def uS(tg:Expr)(xs:List Str)(tup:Bool):Bool:=match tup with
 | false=>xs.length==1&&Th tg (xs.headD Str.empty)
 | true=>lh tg λes z z=>oY es xs
theorem Ba{r:List Expr}(h:oY (x::r) xs=true):∃y p ys,x=.Name y p/\xs=y::ys/\oY r ys=true:=by
 cases xs with
 | nil=>cases h
 | cons y ys =>
  refine xA (cG.mp h) λh1 h2=>?_;obtain⟨p,rfl⟩:=N9 h1;exact⟨y,p,ys,rfl,rfl,h2⟩
theorem L5(aj:Env):∀{xs:List Str},oY es xs=true->(assignEach es aj).findIdx? (·.1)=none/\(assignEach es aj).length=xs.length:=by
 induction es with
 | nil=>exact λh=>⟨rfl,by rw[dj.mp h];rfl⟩
 | cons x r ih =>
  intro xs h;apply Gy (Ba h);intro y p ys kz h2;obtain rfl:=kz;refine xA (ih h2) λh3 h4=>?_;refine⟨?_,bE Nat.succ h4⟩;show((false,assign _ aj)::assignEach r aj).findIdx? (·.1)=none;rw[List.findIdx?_cons,h3];rfl
theorem L6(hp:(aj.scope.kind==.class||(aj.scope.kind==.module&&aj.locals != aj.globals))=false)(hC:aj.locals=C)(es:List Expr):∀(xs:List Str) (vs:List Value) (m:Str->Option Value) (s:Shared) (QQ:Unit->Shared->Prop) (E:Value->Shared->Prop),oY es xs=true->xs.Nodup->(∀x∈xs,aj.kindOf x=some .local)->s.heap.Ns C m->vs.length=xs.length ->
  (∀h' tk' m',h'.Ns C m'->(∀(j:Nat) x w,xs[j]? =some x->vs[j]? =some w->m' x=some w)->(∀x,x∉xs->m' x=m x)->Heap.SameBut C s.heap h'->QQ () {s with heap:=h',toks:=tk'})->wpAny G.M c.A (assignInOrder ((assignEach es aj).map (·.2)) vs) QQ E s:=by
 induction es with
 | nil =>
  intro xs vs m s QQ E ha _ _ hm hl K;obtain rfl:=dj.mp ha;apply zL (rh.mp hl);exact ao (K s.heap s.toks m hm (λj x w h=>nomatch h) (λz z=>rfl) (Heap.SameBut.refl ..))
 | cons e r ih =>
  intro xs vs m s QQ E ha hn hk hm hl K;apply Gy (Ba ha);intro x p ys kA Oa;obtain rfl:=kA;cases vs with
  | nil=>cases hl
  | cons v vs =>
   refine xA (fQ.mp hn) λh1 h2=>?_;subst hC;show wpAny _ _ (do holding _ (assign (.Name x p) aj v);assignInOrder ((assignEach r aj).map (·.2)) vs) _ _ s
   refine ae (dW (uc (Cv (hk x (.head _)) hm (λh' nj hs=>?_) hp)));refine ih ys vs _ ⟨h',_,_,_,_⟩ QQ E Oa h2 (λy hy=>hk y (.tail _ hy)) nj (Nat.succ.inj hl) λda lI XD QX e1 e2 pQ=>K da lI XD QX (λj y w hy hw=>?_) (λy hy=>?_) (hs.trans pQ)
   ·cases j with
    | zero=>cases hy;cases hw;rw[e2 _ h1];exact au rfl
    | succ j=>exact e1 j y w hy hw
   ·rw[e2 y λq=>hy (.tail _ q)];exact ai λ(q:y=x)=>hy (q▸.head _)
theorem Ob{QQ:Unit->Shared->Prop}(hp:(aj.scope.kind==.class||(aj.scope.kind==.module&&aj.locals != aj.globals))=false)(hC:aj.locals=C)
  (ht:uS tg xs tup=true) (hn:xs.Nodup) (hk:∀x∈xs,aj.kindOf x=some .local) (H:jt c.A s.heap) (hm:s.heap.Ns C m) (V:VI ρ s.heap v d) (hb:fY xs.length tup d k)
  (K:∀h' tk' m' ys vs,k (ys.map some)->c5 ρ s.heap vs ys->ys.length=xs.length->h'.Ns C m'->(∀(j:Nat) x w,xs[j]? =some x->vs[j]? =some w->m' x=some w)->(∀b o,b≠C->s.heap.get? b=some o->h'.get? b=some o)->QQ () {s with heap:=h',toks:=tk'}) :
  wpAny G.M c.A (assign tg aj v) QQ E s:=by
 cases tup with
 | false =>
  obtain⟨y,rfl⟩:=Cu.mp hb.1;obtain⟨p,rfl⟩:=N9 (cG.mp (show(true&&Th tg y)=true from ht)).2;subst hC;refine uc (Cv (hk _ (.head _)) hm (λh' nj hs=>?_) hp);refine K h' _ _ [d] [v] hb.2 (.cons V .nil) rfl nj (λj x w hx hw=>?_) λb o nb e=>hs.extBut b o nb e;cases j with
  | zero=>cases hx;cases hw;exact au rfl
  | succ j=>cases hx
 | true =>
  apply bJ (f6 ht);intro es k' p ht;obtain⟨ds,rfl,hl,hb⟩:=mH hb;obtain⟨a,vs,n,rfl,ho,hv⟩:=V;rw[arm_assign_Tuple];refine ae (fR ?_);obtain⟨t1,t2⟩:=L5 aj ht;unfold unpack;rw[t1];refine ae (dW (vm H (items:=vs.toArray) ⟨_,ho,rfl,_,rfl⟩ (by rw[t2,<-hl,cu];exact hv.len.symm) λh' kk=>?_));exact L6 hp hC _ xs vs m ⟨h',_,_,_,_⟩ _ E ht hn hk (hm.keeps kk) (hv.len.trans hl) λda lI XD QX e1 z hs=>K da lI XD ds vs hb (Xu hv) hl QX e1 λb o nb e=>hs.extBut b o nb (kk b o e)
end
theorem HA(I:Nat->Shared->Prop)
  (mJ:∀n s (N:Shared->Prop) (E:Value->Shared->Prop),I n s->(∀m s',m<n->I m s'->N s')->wpAny (model prog w) A (pyNext it) (λr aE=>match r with
   | none=>R (.ok .next) aE
   | some v=>wpAny (model prog w) A (letOwnedTupleGo tg it v) (λz vu=>wpAny (model prog w) A (assign tg aj v) (λz bq=>
     wpAny (model prog w) A (forIn ifs true λc r=>if r=true then do let ok<-isTrue c aj (eval c aj);pure (ForInStep.yield ok)else pure (ForInStep.yield r)) (λok lJ=>
      if ok=true then wpAny (model prog w) A (eval fj aj) (λx L7=>
       wpAny (model prog w) A (call (.builtin "list.append") [bA,x]) (λz XE=>N XE) E L7) E lJ
      else N lJ) E bq) E vu) E aE) E s)
  (n:Nat) (h:I n s):codeAny (model prog w) A (.compLoop (.ListComp fj [⟨tg,iter,ifs,0⟩] scope pos) 0 it bA aj) R s:=by
 refine codeAny_loop rfl I (λn s hI=>?_) n h;show wpAny _ A ((compTurn (.ListComp fj [⟨tg,iter,ifs,0⟩] scope pos) 0 it bA aj).onRaise (λx=>do noteFrame x aj;theTreesLotGoes x)) _ _ s
 refine wpAny_noted ?_;rw[compTurn_list];refine ae (fR (ae (du (mJ n s (λs'=>∃m,m<n/\I m s') _ hI λm s' h1 h2=>⟨m,h1,h2⟩) (λr aE h₁=>?_) λz z h'=>h')));cases r with
 | none=>exact ao h₁
 | some v =>
  refine ae (du h₁ (λz vu L8=>?_) λz z h'=>h');refine ae (du L8 (λz bq cJ=>ae (du cJ (λok lJ ko=>?_) λz z h'=>h')) λz z h'=>h');cases ok with
  | false=>exact ao ⟨rfl,ko⟩
  | true=>exact ae (ae (du ko (λx L7 acD=>ae (du acD (λz XE acE=>ao (ao ⟨rfl,acE⟩)) λz z h'=>h')) λz z h'=>h'))
section
variable {h h':Heap}
def Kj(ifs:List Expr)(c:Cx)(G:GX)(l:a9)(S:St)(Q:Bool->St->Prop):Prop:=(ifs=[]/\Q true S)∨∃t,ifs=[t]/\ET G c t l S Q
theorem QY(R:aG G c s.heap ρ l S)(h:Kj ifs c G l S Q)
  (K:∀b h' tk' ar S',bR G c h' ar S'->bS c.L s.heap ρ h' ar->Q b S'->QQ b {s with heap:=h',toks:=tk'}) :
  wpAny G.M c.A (forIn ifs true λt r=>if r=true then do let ok<-isTrue t c.aj (eval t c.aj);pure (ForInStep.yield ok)else pure (ForInStep.yield r)) QQ E s:=by
 rcases h with⟨rfl,h⟩ | ⟨t,rfl,h⟩
 ·exact wpAny_tests_nil (K _ s.heap s.toks ρ S R.aX (.refl _ _ _) h)
 ·exact wpAny_tests_one (h _ s _ E R K)
def Bb(G:GX)(lv:Lv)(se':SE)(fj:Expr)(ifs:List Expr)(L:Addr)(A:Around)(l':a9)(S:St)(k:Option PV->St->Prop):Prop :=
 ∀c':Cx,c'.L=L->c'.A=A->bw G lv c'->bh se' c'->Kj ifs c' G l' S λt aa=>(t=true->EV G c' fj l' aa λr af=>k (some r) af)/\(t=false->k none aa)
structure CK where
 G:GX
 c:Cx
 l:a9
 h₀:Heap
 de:List Addr
 pr:List Addr
 CC:Addr
 DD:Addr
structure mf(k:CK)(Sx:Heap->Prop)(h:Heap)(ρ:List Addr)(S:St)(bA:List PV):Prop where
 st:Sx h
 pv:Pv k.c ρ (k.CC::k.DD::k.pr)
 n9:aG k.G k.c h ρ k.l S
 step:bS k.c.L k.h₀ k.de h ρ
 ns:∃m,h.Ns k.CC m
 list:∃vs nn,h.get? k.DD=some (listOf vs.toArray nn)/\c5 ρ h vs bA
section
theorem mf.live(X:mf k Sx h ρ S bA)(lv:∀p∈k.pr,∃o,h.get? p=some o/\∀vs n,o≠ee vs n):∀p∈k.CC::k.DD::k.pr,∃o,h.get? p=some o/\∀vs n,o≠ee vs n:=λp hp=>by
 rcases bK.mp hp with rfl | hp
 ·refine Uk X.ns λm o es ep ho hd z=>?_;exact⟨o,ho,λvs n q=>nomatch hd.symm.trans (bE Obj.data q)⟩
 ·rcases bK.mp hp with rfl | hp
  ·refine cq X.list λvs nn e z=>?_;exact⟨_,e,m9 (n:="list") rfl (by decide)⟩
  ·exact lv p hp
theorem mf.run(X:mf k Sx h ρ S bA)(lv:∀p∈k.pr,∃o,h.get? p=some o/\∀vs n,o≠ee vs n)(jY:bB h h'->(∀p∈k.pr,∀o,h.get? p=some o->h'.get? p=some o)->Sx h')(T:bS k.c.L h ρ h' ar)(Y:bR k.G k.c h' ar S'):mf k Sx h' ar S' bA:=by
 refine xA (X.pv.zv (λp hp=>ak (X.live lv p hp) λo ho z=>⟨o,ho⟩) T.s) λP kk=>?_;have tk:=X.n9.tup T;exact⟨jY tk λp hp=>kk p (.tail _ (.tail _ hp)),P,X.n9.step T Y,X.step.trans T,xE (X.ns) λm hm=>⟨m,hm.at' λo e=>kk _ (.head _) o e⟩,cq (X.list) λvs nn e va=>⟨vs,nn,kk _ (.tail _ (.head _)) _ e,va.mono T.pre tk⟩⟩
theorem mf.mJ(X:mf k Sx h ρ S bA)(lv:∀p∈k.pr,∃o,h.get? p=some o/\∀vs n,o≠ee vs n)(new:∀p∈k.CC::k.DD::k.pr,∀ob,k.h₀.get? p≠some ob){qs:List Addr}(hq:∀p∈qs,p∈k.CC::k.DD::k.pr)(kk:∀b o,b∉qs->h.get? b=some o->h'.get? b=some o)
  (st:bB h h'->Sy h') (ns:(∃m,h.Ns k.CC m)->∃m,h'.Ns k.CC m) (list:bB h h'->(∃vs nn,h.get? k.DD=some (listOf vs.toArray nn)/\c5 ρ h' vs bA)->∃vs nn,h'.get? k.DD=some (listOf vs.toArray nn)/\c5 ρ h' vs HB):mf k Sy h' ρ S HB:=by
 have tk:bB h h':=LZ (pr:=qs) (λp hp=>X.live lv p (hq p hp)) kk;exact⟨st tk,X.pv,X.n9.qd (X.pv.sub hq) kk tk,X.step.qd (pr:=qs) (λp hp=>new p (hq p hp)) (λhp=>X.pv.nl _ (hq _ hp) rfl) kk,ns X.ns,list tk (cq (X.list) λvs nn e va=>⟨vs,nn,e,va.mono (bV _) tk⟩)⟩
theorem HC(k:∀o,h.get? C=some o->h'.get? C=some o):(∃m,h.Ns C m)->∃m,h'.Ns C m:=λ⟨m,hm⟩=>⟨m,hm.at' k⟩
theorem HD{P:List Value->Prop}(k:∀o,h.get? D=some o->h'.get? D=some o):(∃vs nn,h.get? D=some (listOf vs.toArray nn)/\P vs)->∃vs nn,h'.get? D=some (listOf vs.toArray nn)/\P vs:=λ⟨vs,nn,e,x⟩=>⟨vs,nn,k _ e,x⟩
end
theorem Bc{K:List PV->St->Prop}{RR:Value->Addr->Result->Shared->Prop}{step:PV->St->(Option PV->St->Prop)->Prop}
  (Y:bw G lv c) (F:L4 se sc xs) (Oe:∀C,bh (pT se sc xs) (nK c sc cl C xs)) (ht:uS tg xs tup=true) (sV:tb=true->tup=true) (R:aG G c h₀ ρ l S) (gr:dK c.L h₀ s.heap) (B:xe G c ρ h₀ s.heap I aC tb) (hz:aC.items.length<=1000000)
  (iP:∀d S k,step d S k->fY xs.length tup d λys=>Bb G lv (pT se sc xs) fj ifs c.L c.A (l++ys) S k) (hgo:lj step aC aC.items [] S K)
  (hRR:∀pr D C h' tk' ar S' rs,(∀p∈C::D::pr,∀ob,h₀.get? p≠some ob)->C≠D->mf ⟨G,c,l,h₀,ρ,pr,C,D⟩ (λw=>True) h' ar S' rs->K rs S'->RR (.ref D) C (.ok .next) {s with heap:=h',toks:=tk'}) :
  wpAny G.M c.A (newList []) (λbA lJ=>wpAny G.M c.A (newFunctionEnv sc c.aj.globals cl [] c.aj.qual none .none (some c.aj)) (λXF L7=>
   codeAny G.M c.A (.compStart (.ListComp fj [⟨tg,iter,ifs,0⟩] sc pos) 0 (.ref I) bA {XF with scope:=relabel sc c.aj}) (RR bA XF.locals) L7) E lJ) E s:=by
 refine dH B λSx pr W Tc new=>?_;refine kR (wpAny_newFunctionEnv F.nc (λy hy=>nomatch hy) (λh₁ Bd xh=>?_) F.kind);dsimp only at Bd xh ⊢;generalize XG:s.heap.push {cls:=.type "list",dict:=none,data:=.seq ([]:List Value).toArray}=H2 at Bd xh ⊢;obtain hC:H2.objs.size=s.heap.objs.size+1:=by rw[<- XG,jf]
 generalize hCC:H2.objs.size=CC at Bd xh ⊢;generalize Oc:s.heap.objs.size=DD;have EY:CC=DD+1:=by rw[<- hCC,<-Oc];exact hC
 have Ti:CC≠DD:=by rw[EY];exact CZ _
 have old:∀b o,s.heap.get? b=some o->h₁.get? b=some o:=λb o e=>xh.extBut b o (by rw[EY,<-Oc];exact cU (iE (bX e))) (cg _ (XG▸cg _ e));have acF:h₁.get? DD=some (listOf ([]:List Value).toArray 0):=xh.extBut _ _ (cM Ti) (cg _ (XG▸Oc▸dD _ rfl));have Kk:∀a,DD<=a->∀ob,s.heap.get? a≠some ob:=λa ha ob=>jq (Oc▸ha) ob;obtain base:∀b o,h₀.get? b=some o->b≠c.L->s.heap.get? b=some o:=λb o e n=>gr.old b o n e;have Kl:∀p∈pr,p≠CC/\p≠DD:=λp hp=>by
  refine ak (W.live 0 _ Tc p hp) λo ho w=>?_;obtain this:=bX ho;rw[Oc]at this;exact⟨cU (EY▸iE this),cU this⟩
 have QZ:=R.eD gr;have uT:∀p∈CC::DD::pr,∀ob,h₀.get? p≠some ob:=λp hp ob e=>by
  have z:DD<=p->False:=λhd=>by
   by_cases hL:p=c.L
   ·refine rO QZ.gz λm o es ep q w=>?_;exact Kk p hd o (hL▸q)
   ·exact Kk p hd ob (base p ob e hL)
  rcases bK.mp hp with rfl | hp
  ·exact z (EY▸kZ _)
  ·rcases bK.mp hp with rfl | hp
   ·exact z (aB _)
   ·exact new p hp ob e
 have L9:dK c.L s.heap h₁:=.of old;have Z5:=QZ.jU L9;have Q0:mf ⟨G,c,l,h₀,ρ,pr,CC,DD⟩ (Sx 0) h₁ ρ S []:=⟨W.jY 0 _ h₁ Tc Z5 λp w o e=>old p o e,Pv.new R uT,QZ.eD L9,(bS.eD gr).trans (bS.eD L9),⟨_,Bd⟩,[],0,acF,.nil⟩;generalize hk:(⟨G,c,l,h₀,ρ,pr,CC,DD⟩:CK)=k at Q0;obtain XH:∀aE:Shared,aE=⟨h₁,s.gens,s.drawn,aE.toks,s.os⟩->codeAny G.M c.A (.compLoop (.ListComp fj [⟨tg,iter,ifs,0⟩] sc pos) 0 (.ref I) (.ref DD) (compEnvC sc cl CC c.aj)) (RR (.ref DD) CC) aE:=λaE acG=>by
  refine HA (λn s'=>∃h' tk i ar S' bA,(s'={s with heap:=h',toks:=tk}/\i+n=aC.items.length+1/\bA.length<=i/\i<=aC.items.length)/\mf k (Sx i) h' ar S' bA/\lj step aC (aC.items.drop i) bA S' K) ?_ (aC.items.length+1)
   ⟨h₁,aE.toks,0,ρ,S,[],⟨acG,fS _,aB _,bM _⟩,Q0,hgo⟩
  rintro n s' N E' ⟨h',tk,i,ar,S',bA,⟨rfl,pR,XI,hi⟩,X,go⟩ hN;subst hk;have ei:∀a,c.A.handled=some (.ref a)->a∉pr:=λa ha hp=>X.pv.exc a (.tail _ (.tail _ hp)) ha;obtain Cpr:CC∉pr:=λhp=>(Kl _ hp).1 rfl;obtain Dpr:DD∉pr:=λhp=>(Kl _ hp).2 rfl;by_cases bz:i<aC.items.length
  ·have hd:aC.items[i]? =some aC.items[i]:=c8 bz;rw[List.drop_eq_getElem_cons bz]at go;refine xA go λcD go=>?_;have next:∀{da:Heap} {lI:Nat} {jX:List Addr} {n8:St} {HB:List PV},HB.length<=i+1->mf ⟨G,c,l,h₀,ρ,pr,CC,DD⟩ (Sx (i+1)) da jX n8 HB->lj step aC (aC.items.drop (i+1)) HB n8 K->N {s with heap:=da,toks:=lI}:=λha X go=>
    hN (aC.items.length-i) _ (bO 0x6f780b9638df9c9f4f2d70de179 pR (ba (ag 11262717601 bz))) ⟨_,_,i+1,_,_,_,⟨rfl,bu (az 0x396a3543cd74dff65a08429 (ba (ag 11262717601 bz))) (az 0x396626b99cd92499c538d29 cP),ha,bz⟩,X,go⟩
   refine du (W.item i _ tg ar ⟨h',_,_,tk,_⟩ _ _ X.step.pre hd (λhb=>by
    obtain rfl:=sV hb;apply bJ (f6 ht);intro es k' p _;rfl) X.st (Hs X.n9 cD) X.n9.cD ei (λv h3 lV V Hv k3=>?_)) (λr aE hr=>(by obtain⟨v,rfl,hr⟩:=hr;exact hr)) λw w e=>e
   have X3:=X.mJ (W.live i h' X.st) uT (qs:=pr) (λp hp=>.tail _ (.tail _ hp)) k3 (Sy:=Sx (i+1)) (λw=>Hv) (HC λo e=>k3 _ o Cpr e) λw=>HD λo e=>k3 _ _ Dpr e;obtain⟨m3,nC3⟩:=X3.ns;refine Ob (c:=c) (s:=⟨h3,_,_,lV,_⟩) (C:=CC) (by simp[compEnvC,relabel,F.kind]) rfl ht F.xn (λx hx=>lookup_relabel_local (F.xl x hx)) X3.n9.cD nC3 V (iP _ _ _ go) λh4 Td m4 ys ws hk Vy hly nC4 N3 k4=>?_;have k4':∀b o,b∉[CC]->h3.get? b=some o->h4.get? b=some o:=λb o hb e=>k4 b o (λq=>hb (aV.mpr q)) e;have X4:=X3.mJ (W.live (i+1) h3 Hv) uT (qs:=[CC]) (λp hp=>aV.mp hp▸.head _) k4' (Sy:=Sx (i+1)) (λtk=>W.jY (i+1) h3 h4 Hv tk λp hp o e=>k4 p o (Kl p hp).1 e) (λw=>⟨_,nC4⟩) λw=>HD λo e=>k4 _ _ (cM Ti) e;obtain acH:bB h3 h4:=LZ (pr:=[CC]) (λp hp=>X3.live (W.live (i+1) h3 Hv) p (aV.mp hp▸.head _)) k4';have Rc:=QW (sc:=sc) (cl:=cl) (xs:=xs) X4.n9 (X4.pv.base _ (.head _)) (X4.pv.ns _ (.head _)) nC4 (Vy.mono (bV _) acH) hly N3;refine QY (c:=nK c sc cl CC xs) (s:=⟨h4,_,_,Td,_⟩) Rc (hk (nK c sc cl CC xs) rfl rfl (US Y) (Oe CC)) λb h5 XC ρ5 S5 Y5 T5 q5=>?_;have X5:=X4.run (W.live (i+1) h4 X4.st) (λtk k=>W.jY (i+1) h4 h5 X4.st tk k) T5 (Hz Y5);cases b with
   | false =>
    rw[ai bf];obtain go5:lj step aC (aC.items.drop (i+1)) (bA++[]) S5 K:=q5.2 rfl;rw[kU]at go5;exact next (oB XI) X5 go5
   | true =>
    rw[au rfl];refine q5.1 rfl _ ⟨h5,_,_,XC,_⟩ _ _ (Rc.step T5 Y5) λx d h6 Tj Te S6 Y6 T6 Vx go6=>?_;have X6:=X5.run (W.live (i+1) h5 X5.st) (λtk k=>W.jY (i+1) h5 h6 X5.st tk k) T6 (Hz Y6);refine cq X6.list λvs nn hl6 va6=>?_;refine append_at (s:=⟨h6,_,_,Tj,_⟩) hl6 (λh7 HE hD7=>?_) (by rw[dQ,cu,L2.len va6];exact ab XI (ab hi (ab hz (by decide))));obtain k7:∀b o,b∉[DD]->h6.get? b=some o->h7.get? b=some o:=λb o hb e=>HE.extBut b o (λq=>hb (aV.mpr q)) e;exact next (by rw[aW];exact uh XI) (X6.mJ (W.live (i+1) h6 X6.st) uT (qs:=[DD]) (λp hp=>aV.mp hp▸.tail _ (.head _)) k7 (Sy:=Sx (i+1)) (λtk=>W.jY (i+1) h6 h7 X6.st tk λp hp o e=>HE.extBut p o (Kl p hp).2 e) (HC λo e=>HE.extBut _ o Ti e)
     λtk w=>⟨vs++[x],_,by rw[hD7,List.push_toArray],L2.append (va6.mono (bV _) tk) (.cons (Vx.mono (bV _) tk) .nil)⟩) go6
  ·obtain rfl:i=aC.items.length:=bu hi (oK.mp bz);rw[List.drop_length]at go;refine xA go λcD go=>?_;refine du (W.done ar ⟨h',_,_,tk,_⟩ (λr aE=>r=none/\RR (.ref DD) CC (.ok .next) aE) _ X.step.pre X.st (Hs X.n9 cD) X.n9.cD ei λh3 k3=>⟨rfl,?_⟩) (λr aE hr=>(by obtain⟨rfl,hr⟩:=hr;exact hr)) λw w e=>e
   exact hRR pr DD CC h3 tk ar S' bA uT Ti (X.mJ (W.live _ h' X.st) uT (qs:=pr) (λp hp=>.tail _ (.tail _ hp)) k3 (Sy:=λw=>True) (λw=>trivial) (HC λo e=>k3 _ o Cpr e) λw=>HD λo e=>k3 _ _ Dpr e) go
 subst hk;exact codeAny_compStart_list (XH _ rfl) (W.self 0 _ _ _ Q0.st (XH _ rfl))
end
section
theorem aG.own(R:aG G c h ρ l S)(P:Pv c ρ [D])(ho:OI G (ρ++[D]) h D o):aG G c h (ρ++[D]) l (S++[o]) :=
 have hn:=P.ns D (.head _)
 R.re ⟨_,rfl⟩ (bB.refl _) (λb ob nL e q x=>⟨e,λhm=>(dt.mp hm).elim q λhm=>by
   obtain rfl:=aV.mp hm;rcases x with x | ⟨o',x⟩ | x
   ·refine ak (bH.mp x) λv hv e=>?_;exact P.loc b (.head _) v hv e
   ·rw[P.base b (.head _)]at x;cases x
   ·exact P.exc b (.head _) x⟩) (λm hm=>hm)
  (R.aX.Di hn ⟨P.base D (.head _),P.nl D (.head _),P.loc D (.head _)⟩ ho)
theorem bS.own(T:bS L h₀ de h ρ)(n:∀ob,h₀.get? D≠some ob):bS L h₀ de h (ρ++[D]) :=
 ⟨T.pre.trans ⟨_,rfl⟩,λb ob nb e q=>xA (T.old b ob nb e q) λe' q'=>⟨e',λhm=>(dt.mp hm).elim q' λhm=>n ob (aV.mp hm▸e)⟩,T.ns⟩
theorem Gn(x:Heap.SameBut I h h'):∀b o,b∉[I]->h.get? b=some o->h'.get? b=some o:=λb o hb e=>x.extBut b o (λq=>hb (aV.mpr q)) e
theorem Km:(xs++[x])[xs.length]? =some x:=by rw[d9 (aB _),gw];rfl
theorem XJ(nC:h.Ns C m)(hs:Heap.SameBut C h h'):bB h h':=λa vs n e=>hs.extBut a _ (λq=>kq nC (q▸e)) e
theorem XK(R:aG G c h ρ l S)(P:Pv c ρ [C])(T:bS c.L h₀ de h ρ)(new:∀ob,h₀.get? C≠some ob)(nC:h.Ns C m)(hs:Heap.SameBut C h h'):aG G c h' ρ l S/\bB h h'/\bS c.L h₀ de h' ρ :=
 have tk:=XJ nC hs
 ⟨R.qd P (Gn hs) tk,tk,T.qd (pr:=[C]) (λp hp=>aV.mp hp▸new) (λhp=>P.nl _ hp rfl) (Gn hs)⟩
def HF(step:PV->St->(Option PV->St->Prop)->Prop)(aC:b9)(aa:St)(K:List PV->St->Prop):Prop:=aC.items.length<=1000000/\lj step aC aC.items [] aa K
theorem Kn{step:PV->St->(Option PV->St->Prop)->Prop}(O:bh se c)(Y:bw G lv c)(ok:xf se sc xs=true)(ht:uS tg xs tup=true)(sV:tb=true->tup=true)(hs:qM iter=true)
  (iP:∀d S k,step d S k->fY xs.length tup d λys=>Bb G lv (pT se sc xs) fj ifs c.L c.A (l++ys) S k)
  (hh:EI G c iter l S tb λaC aa=>HF step aC aa λrs af=>dM af Q (.list rs)):EV G c (.ListComp fj [⟨tg,iter,ifs,0⟩] sc pos) l S Q:=λρ s QQ E R K=>by
 have F:=Tf ok;refine ak (Hx O F) λcl xi Oe=>?_;rw[eval_ListComp];refine wpAny_comprehension_free (use:=none) rfl (λx=>vt hs _ _) xi F.kind (λx hx hl=>vw F.nd (by rw[<- hl];exact hx)) (hh _ s _ E R λI aC h₁ cJ iO fa aa X T B gr q=>?_);refine Bc (s:=⟨cJ,_,_,iO,_⟩) (h₀:=h₁) Y F Oe ht sV (R.step T X) gr B q.1 iP q.2 λpr D C h3 lV uR S3 rs new EY X3 go=>?_;refine xE X3.ns λm nC=>?_;refine⟨m,nC,λh4 EX=>?_⟩;refine jL (XK X3.n9 (X3.pv.sub λp hp=>aV.mp hp▸.head _) X3.step (new C (.head _)) nC EX) λR4 Td T4=>?_;refine cq X3.list λvs nn hD va=>?_;obtain R5:=R4.own (o:=.list rs) (X3.pv.sub λp hp=>aV.mp hp▸.tail _ (.head _)) ⟨vs,nn,EX.extBut _ _ (cM EY) hD,va.mono ⟨_,rfl⟩ Td⟩;exact(K.step T (tk':=iO)) _ (.ref S3.length) h4 lV _ _ R5.aX (T4.own (new D (.tail _ (.head _)))) (.ref (X3.n9.aX.len▸Km)) go
noncomputable def Ma(se:SE)(value:Expr)(x:Str)(p':Pos)(line:Nat):Option Bool:=Ho (swapsWith value (some (.Name x p')) line (Dy se.names))
theorem Q1(O:bh se c){value:Expr}{x:Str}{p':Pos}{line:Nat}{b:Bool}(hw:Ma se value x p' line=some b):swapsWith value (some (.Name x p')) line c.aj=pure b:=by
 rw[<- EU hw];obtain hb:c.aj.blockKind=(Dy se.names).blockKind:=by unfold Env.blockKind;rw[O.kind];rfl
 obtain hk:c.aj.kindOf=(Dy se.names).kindOf:=by funext x;unfold Env.kindOf;rw[O.names];rfl
 unfold swapsWith;rw[hb,hk]
theorem Q2{step:PV->St->(Option PV->St->Prop)->Prop}(O:bh se c)(FC:fD c)(Y:bw G lv c)(hi:se.idx.lookup x=some i)
  (hw:Ma se (.ListComp fj [⟨tg,iter,ifs,0⟩] sc pos) x p' p.line=some b) (ok:xf se sc xs=true) (ht:uS tg xs tup=true) (sV:tb=true->tup=true) (hs:qM iter=true)
  (iP:∀d S k,step d S k->fY xs.length tup d λys=>Bb G lv (pT se sc xs) fj ifs c.L c.A (l++ys) S k)
  (hh:EI G c iter l S tb λaC aa=>HF step aC aa λrs af=>dM af (λd aL=>Q .next (l.set i (some d)) aL) (.list rs)):kb G c (.Assign [.Name x p'] (.ListComp fj [⟨tg,iter,ifs,0⟩] sc pos) p) l S Q:=λρ s QQ E R K=>by
 obtain hsw:=Q1 O hw;cases b with
 | false =>
  exact wpAny_Assign_Name (Kn O Y ok ht sV hs iP hh _ s _ E R λv d h' tk ar S' X T V q=>oW (s:=⟨h',_,_,tk,_⟩) O FC (R.step T X) hi V λda tk' R' T'=>K.next R' (T.s.trans T') q) hsw
 | true =>
  have F:=Tf ok;refine ak (Hx O F) λcl xi Oe=>?_;rw[exec_Assign_Name_used _ _ _ _ hsw];refine ae (fR (ae ?_));show wpAny _ _ (do let _<-comprehension (.ListComp fj [⟨tg,iter,ifs,0⟩] sc pos) sc c.aj _ (newList []) false (eval iter c.aj) (some (assign (.Name x p') c.aj))) _ _ s
  refine ae (du (wpAny_comprehension_free (use:=some (assign (.Name x p') c.aj)) (Q:=λz s'=>QQ .next s') rfl (λx=>vt hs _ _) xi F.kind (λx hx hl=>vw F.nd (by rw[<- hl];exact hx))
   (hh _ s _ E R λI aC h₁ cJ iO fa aa X T B gr q=>?_)) (λz s' hq=>ao (ao hq)) λz z e=>e)
  refine Bc (s:=⟨cJ,_,_,iO,_⟩) (h₀:=h₁) Y F Oe ht sV (R.step T X) gr B q.1 iP q.2 λpr D C h3 lV uR S3 rs new EY X3 go=>?_;refine xE X3.ns λm nC=>?_;refine cq X3.list λvs nn hD va=>?_;have PC:=X3.pv.sub (qs:=[C]) λp hp=>aV.mp hp▸.head _;obtain R5:=X3.n9.own (o:=.list rs) (X3.pv.sub λp hp=>aV.mp hp▸.tail _ (.head _)) ⟨vs,nn,hD,va.mono ⟨_,rfl⟩ (bB.refl _)⟩;obtain T5:=X3.step.own (new D (.tail _ (.head _)));have hCn:C∉uR++[D]:=λhm=>(dt.mp hm).elim (PC.ns C (.head _)) λhm=>EY (aV.mp hm);show wpAny _ _ (assign (.Name x p') c.aj (.ref D)) _ _ _;refine uc (oW (s:=⟨h3,_,_,lV,_⟩) O FC R5 hi (.ref (i:=S3.length) (X3.n9.aX.len▸Km)) λh6 Tj R6 T6=>?_);have nC6:h6.Ns C m:=nC.at' λo e=>(T6.old C o (PC.nl C (.head _)) (PC.loc C (.head _)) e hCn).1;refine⟨m,nC6,λh7 HE=>?_⟩;obtain PC':Pv c (uR++[D]) [C]:={base:=PC.base,nl:=PC.nl,loc:=PC.loc,exc:=PC.exc,ns:=λp hp=>aV.mp hp▸hCn};obtain tk7:=XJ nC6 HE;exact K.next (h':=h7) (tk':=Tj) (R6.qd PC' (Gn HE) tk7) (T.s.trans ((T5.s.trans T6).qd (pr:=[C]) (λp hp=>aV.mp hp▸new C (.head _)) (Gn HE))) go
end
section
variable {c:Cx} {s:Shared}
def LW(I ax:Addr)(vs:List Value)(A:Around)(i:Nat)(h:Heap):Prop:=h.IsListIter I ax i/\h.IsList ax vs.toArray/\jt A h
abbrev Tn(G:GX)(A:Around)(I ax:Addr)(vs:List Value):Prop:=Walks G.prog G.w A.in1 I (I::ax::sU A) [I] vs.toArray.size (λi v=>vs.toArray[i]? =some v) (LW I ax vs A)
theorem Mb(A:Around)(I ax:Addr)(ei:ax≠I)(hn:∀a,A.handled=some (.ref a)->a≠I)(vs:List Value):Tn G A I ax vs where
 sub:=λb hb=>aV.mp hb▸.head _
 frame:=λz z z st hk=>⟨st.1.at λo e=>hk I (.head _) o e,st.2.1.at λo e=>hk ax (.tail _ (.head _)) o e,st.2.2.jY λb hb=>hk b (.tail _ (.tail _ hb))⟩
 item:=λi s Q E hi st hQ=>by
  obtain hx:vs.toArray[i]? =some vs.toArray[i]:=rg hi;refine wpAny_pyNext_list_item st.1 st.2.1 hx λh' acI pQ=>?_;exact hQ _ h' s.toks hx ⟨acI,st.2.1.extBut pQ.extBut ei,st.2.2.S0 λa ob vs ha e1 e2 e3=>⟨ob,vs,pQ.extBut a ob (hn a ha) e1,e2,e3⟩⟩ λb o hb e=>pQ.extBut b o (λh=>hb (aV.mpr h)) e
 done:=λs Q E st hQ=>wg (A:=A.in1) st.2.2 hn st.1 st.2.1 (rj (aB _)) λh' r6=>hQ h' s.toks λb o hb e=>r6 b o (λh=>hb (aV.mpr h)) e
 self:=λz z z z st hQ=>wpAny_pyIter_listiter st.1 hQ
theorem hNe(R:aG G c s.heap ρ l S)(a:Addr)(ha:c.A.handled=some (.ref a)):∃o,s.heap.get? a=some o:=by
 refine k8 ((R.exc _ ha).at_) λb ob vs e hL ho z=>?_;cases e;exact⟨_,ho⟩
theorem hLt(R:aG G c s.heap ρ l S)(b:Addr)(hb:b∈sU c.A):b<s.heap.objs.size:=xE (hNe R b (xd.mp hb)) λz ho=>bX ho
noncomputable abbrev Gp(a:Addr):Obj:={cls:=.type "list_iterator",data:=.fields #[.ref a,.int 0 0]}
theorem EZ{i:Nat}(R:aG G c s.heap ρ l S)(ha:ρ[i]? =some a)(e:S[i]? =some (.list ds))
  (h:∀I vs,dK c.L s.heap (s.heap.push (Gp a))->c5 ρ s.heap vs ds->I=s.heap.objs.size->Tn G c.A I a vs->LW I a vs c.A 0 (s.heap.push (Gp a)) ->
   (∀b∈I::a::sU c.A,b<(s.heap.push (Gp a)).objs.size)->QQ (.ref I) {s with heap:=s.heap.push (Gp a)}):wpAny G.M c.A.in1 (pyIter (.ref a)) QQ E s:=by
 refine ak (R.list ha e) λvs hl hv=>?_;have ha:a<s.heap.objs.size:=by refine ak hl λo ho z=>?_;exact bX ho
 refine CT hl (h _ vs (dw _ _ _) hv rfl (Mb c.A _ a (cU ha) (λb hb=>cU (xE (hNe R b hb) λz ho=>bX ho)) _) ⟨⟨_,dD _ rfl,rfl,rfl⟩,hl.at λo e=>cg _ e,R.cD.jY λb z o e=>cg _ e⟩ λb hb=>?_);rw[jf];rcases bK.mp hb with rfl | hb
 ·exact oD _
 ·rcases bK.mp hb with rfl | hb
  ·exact iE ha
  ·exact iE (hLt R b hb)
theorem Od(gr:dK c.L h (h.push o))(hI:I=h.objs.size)(hL:c.L<h.objs.size)(k:∀b o',b∉[I]->(h.push o).get? b=some o'->h'.get? b=some o'):dK c.L h h' where
 old:=λb o' n e=>k b o' (λq=>by
  obtain rfl:=aV.mp q;rw[hI]at e;exact absurd (bX e) (jg _)) (cg _ e)
 ns:=λm hm=>(gr.ns m hm).at' λo' e=>k _ o' (λq=>by
  obtain rfl:=aV.mp q;rw[hI]at hL;exact absurd hL (jg _)) e
theorem aG.ltL(R:aG G c s.heap ρ l S):c.L<s.heap.objs.size:=xE (R.gz) λz hm=>hm.lt
theorem Ko{α:Type}{f:α->PV}{xs:List α}{vs:List Value}{h:Heap}(hv:c5 ρ h vs (xs.map f)){i:Nat}{v:Value}(hx:vs.toArray[i]? =some v)(d:α):VI ρ h v (f (xs.getD i d)):=by
 have hx:vs[i]? =some v:=by rw[nD]at hx;exact hx
 refine xE (bP.mp hx) λhi z=>?_;have hi:i<xs.length:=by obtain this:=L2.len hv;rw[aK]at this;exact this▸hi
 refine ak (L2.get hv (i:=i) (b:=f (xs.getD i d)) (by rw[cv,c8 hi,pD,c8 hi];rfl)) λw h1 V=>?_;exact Option.some.inj (hx.symm.trans h1)▸V
theorem Of(ns:List Int)(k:Nat):k<=ns.length->preSum (λi=>ns.getD i 0) k=(ns.take k).sum:=by
 induction k with
 | zero=>exact λz=>rfl
 | succ k ih =>
  intro h;obtain this:ns[k]? =some (ns.getD k 0):=by rw[pD,c8 h];rfl
  rw[preSum,ih (cZ h),iG,this];exact(List.sum_append).trans (bE _ (ji _)) |>.symm
theorem XM{i:Nat}{ns:List Int}(ha:ρ[i]? =some a)(e:S[i]? =some (.list (ns.map .int)))(q:Q (.int ns.sum) S):TR G c (call (.builtin "sum") [.ref a]) ρ l S s Q:=by
 intro QQ E R K;refine call_sum_walkG (EZ R ha e λI vs gr hv hI W st bz=>⟨I,_,_,_,_,_,λi=>ns.getD i 0,rfl,W,st,bz,λi v hx=>Ko hv hx 0,λh' tk t' k=>?_⟩);obtain hz:vs.toArray.size=ns.length:=cu.trans ((L2.len hv).trans (aK _));rw[hz,Of ns _ (aB _),gv];exact K.eD R (.int _) (Od gr hI R.ltL k) ⟨_,rfl⟩ q
theorem Og(bs:List Bool):(List.range bs.length).all (λi=>bs.getD i true)=bs.all id:=by
 obtain this:bs=(List.range bs.length).map λi=>bs.getD i true:=by
  refine C5 (by rw[aK,gc]) λi h z=>?_;rw[yA,t9,pD,c8 h];rfl
 conv=>rhs;rw[this]
 rw[uB];rfl
theorem XN{i:Nat}{bs:List Bool}(ha:ρ[i]? =some a)(e:S[i]? =some (.list (bs.map .bool)))(q:Q (.bool (bs.all id)) S):TR G c (call (.builtin "all") [.ref a]) ρ l S s Q:=by
 intro QQ E R K;refine call_all_walk (EZ R ha e λI vs gr hv hI W st bz=>⟨I,_,_,_,_,_,λi=>bs.getD i true,rfl,W,st,λi v s' Q' E' hx hq=>?_,λh' tk k=>?_⟩)
 ·obtain rfl:v=.bool (bs.getD i true):=Ko (f:=PV.bool) hv hx true;exact ub hq
 ·obtain hz:vs.toArray.size=bs.length:=cu.trans ((L2.len hv).trans (aK _));rw[hz,Og];exact K.eD R (.bool _) (Od gr hI R.ltL k) rfl q
theorem XO(V:VI ρ s.heap v d)(h:WI S Q d):TR G c (call (.builtin "len") [v]) ρ l S s Q:=by
 intro QQ E R K;obtain hs:(sz:Int)=16777216:=rfl;cases d with
 | bytes x =>
  obtain⟨t,rfl⟩:=V;refine KBw.len_K rfl (by rw[KBw.ints_length];exact ab h.1 (by decide)) ?_;rw[KBw.ints_length];exact K.same R (.int _) ⟨_,rfl⟩ h.2
 | str x =>
  obtain⟨t,rfl⟩:=V;refine len_str ?_ (K.same R (.int _) ⟨_,rfl⟩ h.2);obtain this:=h.1;show ¬ ((x.cps.size:Int)>=2^63);exact ah 0x24c2b3fc33a90704d83 this
 | ref i =>
  refine ak V λa ha dc=>?_;obtain rfl:=dc;rcases h with⟨ds,e,hz,q⟩ | ⟨es,ep,e,hz,q⟩
  ·refine ak (R.list ha e) λvs hl hv=>?_;obtain hn:vs.toArray.size=ds.length:=cu.trans (L2.len hv);refine Calls.call_len_list hl (by rw[hn];exact ah 0x238ba533c401b335683 hz) ?_;rw[hn];exact K.same R (.int _) ⟨_,rfl⟩ q
  ·refine dY (R.aX.at_ _ _ _ ha e) λkvs hm hk lo=>?_;obtain this:=hk.len;refine uG hm λo wc r=>?_;refine call_len_dict (knd:=strKind G.prog G.w) (kvs:=kvs) lo ⟨o,wc,ep,r⟩ (ag 0xd3de1cd9927f9f0b6f2f51bf hz this) ?_;rw[this];exact K.same R (.int _) ⟨_,rfl⟩ q
 | _=>exact False.elim h
theorem XQ(V:VI ρ s.heap v (.str x))(hx:x.cps=#[n])(q:Q (.int n) S):TR G c (call (.builtin "ord") [v]) ρ l S s Q:=by
 intro QQ E R K;obtain⟨t,rfl⟩:=V;obtain⟨y⟩:=x;obtain rfl:y=#[n]:=hx;exact P.ord_of_char (K.same R (.int _) ⟨_,rfl⟩ q)
theorem XR(V:VI ρ s.heap v (.int n))(h0:0<=n)(h1:n<128)(q:Q (.str ⟨#[n.toNat]⟩) S):TR G c (call (.builtin "chr") [v]) ρ l S s Q:=by
 intro QQ E R K;obtain⟨t,rfl⟩:=V;exact P.chr_of_int (by simp;exact⟨j6 12896978175 h0,j6 0x418e52dd229b659f21b829b h1⟩) (K.same R (.str _) ⟨_,rfl⟩ q)
theorem XS(V:VI ρ s.heap v (.int n))(h0:0<=n)(h1:n<100)(q:Q (.str (Str.ofString (toString n))) S):TR G c (call (.type "str") [v]) ρ l S s Q:=by
 intro QQ E R K;obtain⟨t,rfl⟩:=V;refine P.str_of_int ?_ (K.same R (.str _) ⟨_,rfl⟩ q);exact a6 (Nat.log2_le_self _) (show n.natAbs<_ by exact wb 0xb90b64a99c8c46e0aeb4f30b h1 (t6 (j6 12896978175 h0)))
theorem XT(hh:c.A.handled=none)(U:VI ρ s.heap u (.int a))(V:VI ρ s.heap v (.int b))(q:Q (.int (max a b)) S):TR G c (call (.builtin "max") [u,v]) ρ l S s Q:=by
 intro QQ E R K;obtain⟨t,rfl⟩:=U;obtain⟨t',rfl⟩:=V;refine max_two_ints hh λh' tk k=>?_;by_cases E1:a<b
 ·rw[au E1];rw[Int.max_eq_right (yK E1)]at q;exact K.eD R (.int _) (.of k) ⟨_,rfl⟩ q
 ·rw[ai E1];rw[Int.max_eq_left (Int.not_lt.mp E1)]at q;exact K.eD R (.int _) (.of k) ⟨_,rfl⟩ q
end
theorem DB:typeLookup (.type "int") "__bytes__"=pure none:=by rw[fw,fu];kernel_rfl
theorem z4:typeLookup (.type "bytes") "__bytes__"=pure (some (.builtin "bytes.__bytes__")):=by rw[fw,fu];kernel_rfl
theorem Be(n:Int)(t:Tok)(h0:0<=n)(h1:n<=100000) :
  Meets (Builtin.«bytes.__new__» ⟨[.type "bytes",.int n t],[]⟩) (λz R s=>R (.ok (.ret (.bytes (Array.replicate n.toNat 0) s.toks))) {s with toks:=s.toks+1}) :=
 .of_wp λprog w A R s h=>by
  have e1:=DB;have e2:=F.slot_int_index.lookup;have e3:Builtin.Bytes.fitsIndex n=true:=by unfold Builtin.Bytes.fitsIndex;simp;exact⟨j6 80603103015728175 h0,j6 0x15b1fb949f747e08be254b h1⟩
  have e4:¬ n<0:=by exact j6 14220478175 h0
  have e5:¬ 0x7fffffffffffffde<n:=by exact j6 0x70b1278ab117b3cfa6790370cdc39038c6071ac8d54b h1
  have e6:Builtin.Bytes.tooLong n.toNat=false:=by unfold Builtin.Bytes.tooLong;rw[dQ];simp;exact j6 0x1530c8883b4871f0bad54b h1
  unfold Builtin.«bytes.__new__»;refine ae (cc (a:=true) rfl ?_);refine eU rfl ?_;refine ae (cc F.bm_sub ?_);refine eU rfl ?_;refine ae (cc (F.bm_bind _) ?_);refine ae (cc (a:=()) rfl ?_);refine ae (cc (a:=()) rfl ?_);refine eU rfl ?_
  wp_walk
  rw[ai (by rw[Array.size_replicate,dQ];exact wb 0x787d441ede89b1ca2715166a94b h1 (gX (j6 12896978175 h0)))]
  wp_walk
  exact⟨_,rfl,h⟩
theorem zj(b:Array UInt8)(t:Tok) :
  Meets (Builtin.«bytes.__new__» ⟨[.type "bytes",.bytes b t],[]⟩) (λz R s=>R (.ok (.ret (.bytes b t))) s) :=
 .of_wp λprog w A R s h=>by
  have e1:=z4;unfold Builtin.«bytes.__new__»;refine ae (cc (a:=true) rfl ?_);refine eU rfl ?_;refine ae (cc F.bm_sub ?_);refine eU rfl ?_;refine ae (cc (F.bm_bind _) ?_);refine ae (cc (a:=()) rfl ?_);refine ae (cc (a:=()) rfl ?_);refine eU rfl ?_
  wp_walk
  exact⟨_,rfl,h⟩
theorem Fy:typeLookup (.type "bytearray") "__bytes__"=pure none:=by rw[fw,fu];kernel_rfl
theorem Fz:typeLookup (.type "bytearray") "__index__"=pure none:=by rw[fw,fu];kernel_rfl
theorem uU:typeLookup (.type "bytearray") "__buffer__"=pure (some (.builtin "bytearray.__buffer__")):=by rw[fw,fu];kernel_rfl
theorem sX:typeLookup (.type "bytearray") "__release_buffer__"=pure (some (.builtin "bytearray.__release_buffer__")):=by rw[fw,fu];kernel_rfl
theorem HG:isSubtype (.type "bytearray") (.type "bytearray")=pure true:=by rw[oE];kernel_rfl
theorem z5{name id:String}(hT:s.TypeIs v "bytearray")(e:typeLookup (.type "bytearray") name=pure (some (.builtin id)))(h1:id.endsWith ("."++name)=true)
  (h2:id.dropRight (name.length+1)="bytearray") (h:Q true s):wpAny M A (Builtin.Bytes.slotIsOwn v name) Q E s:=by
 unfold Builtin.Bytes.slotIsOwn;refine ae (jd hT e ?_);dsimp only;rw[h1,h2];exact eU rfl (rq hT HG h)
theorem z6(prog:Program)(w:World)(A:Around)(E:Value->Shared->Prop)(R:Result->Shared->Prop)(s:Shared)(a:Addr)(b:Array UInt8)(hb:s.heap.get? a=some (fV b))(hz:b.size<=sz)
  (h:R (.ok (.ret (.bytes b s.toks))) {s with toks:=s.toks+1}) :
  wpAny (model prog w) A (Builtin.«bytes.__new__» ⟨[.type "bytes",.ref a],[]⟩) (λdz s'=>∃v,dz=.done (.ret v)/\R (.ok (.ret v)) s') (λe s'=>R (.error e) s') s:=by
  have hT:s.TypeIs (.ref a) "bytearray":=⟨_,hb,rfl⟩;have e1:=Fy;have e2:=Fz;have e3:=uU;have e5:∀(Q:Bool->Shared->Prop) E,Q true s->wpAny (model prog w) A (Builtin.Bytes.slotIsOwn (.ref a) "__buffer__") Q E s:=λQ E h=>z5 hT uU (by decide +kernel) (by decide +kernel) h;have e6:∀(Q:Bool->Shared->Prop) E,Q true s->wpAny (model prog w) A (Builtin.Bytes.slotIsOwn (.ref a) "__release_buffer__") Q E s:=λQ E h=>z5 hT sX (by decide +kernel) (by decide +kernel) h;unfold Builtin.«bytes.__new__»;refine ae (cc (a:=true) rfl ?_);refine eU rfl ?_;refine ae (cc F.bm_sub ?_);refine eU rfl ?_;refine ae (cc (F.bm_bind _) ?_);refine ae (cc (a:=()) rfl ?_);refine ae (cc (a:=()) rfl ?_);refine eU rfl ?_
  wp_walk using e5,e6
  rw[ai (by have:sz=sizeLine:=rfl;exact ah 0xa992da4fc40f28c83 hz)]
  wp_walk
  exact⟨_,rfl,h⟩
section
variable {G:GX} {lv:Lv} {c:Cx} {ρ:List Addr} {l:a9} {S:St} {s:Shared} {se:SE} {Q:PV->St->Prop}
theorem Kq:∀{vs:List Value},c5 ρ h vs (ns.map PV.int)->IntsAre vs ns:=by
 induction ns with
 | nil=>exact λV=>by rw[L2.GC V];exact .nil
 | cons n ns ih =>
  intro vs V;apply yP (L2.Gj V);intro v NY dn r;obtain⟨t,rfl⟩:=dn;exact .cons n t (ih r)
theorem Q3{v:Value}(C:bw G lv c)(V:VI ρ s.heap v d)(h:Nu S Q lv d):TR G c (call (.type "bytes") [v]) ρ l S s Q:=by
 intro QQ E R K;cases d with
 | bytes b =>
  obtain⟨t,rfl⟩:=V;refine callType_new uE (by decide) (F.bm_typeCall _) (F.bm_newCall _) (λobj=>ym obj _) F.bm_entry (zj _ t) ?_;exact⟨lQ _ _ _,K.same (tk:=s.toks) R (.bytes _) ⟨_,rfl⟩ h⟩
 | int n =>
  obtain⟨t,rfl⟩:=V;refine jL h λh0 h1 q=>?_;refine callType_new uE (by decide) (F.bm_typeCall _) (F.bm_newCall _) (λobj=>ym obj _) F.bm_entry (Be n t h0 h1) ?_;exact⟨lQ _ _ _,K.same R (.bytes _) ⟨_,by rw[List.toArray_replicate]⟩ q⟩
 | ref i =>
  refine ak V λa ha dX=>?_;obtain rfl:=dX;rcases h with⟨b,e,hz,q⟩ | ⟨ns,e,hr,hz,hn,q⟩
  ·have ho:s.heap.get? a=some (fV b.toArray):=R.aX.at_ _ _ _ ha e;refine callType_codes (Q₁:=λobj aE=>aE.TypeIs obj "bytes"/\QQ obj aE) uE (F.bm_typeCall _) F.entry_object_init (um ?_) λobj aE h₁=>?_
   ·show wpAny _ c.A.in1.in1 (do checkBuiltinCall "bytes.__new__" ⟨[.type "bytes",.ref a],[]⟩;again (.builtin "bytes.__new__" ⟨[.type "bytes",.ref a],[]⟩)) _ _ s
    refine ae (cc (F.bm_newCall _) (ao ⟨ry F.bm_plain _,ru F.bm_entry ?_⟩));rw[oz F.bm_plain _];refine du (z6 G.prog G.w _ E (wants (λobj aE=>aE.TypeIs obj "bytes"/\QQ obj aE) E) s a _ ho (by rw[cu];exact hz) ⟨lQ _ _ _,K.same R (.bytes _) ⟨_,rfl⟩ q⟩) (λdz s' h=>?_) λz z h=>h;obtain⟨v,rfl,h⟩:=h;exact h
   ·exact⟨h₁.1,ym obj _,object_init_meets uE.init.lookup uE.made (by decide) G.prog G.w c.A.in1 _ aE ⟨h₁.1,rfl,h₁.2⟩⟩
  ·refine ak (R.list ha e) λvs hl hv=>?_;have av:=L2.len hv;rw[aK]at av;refine call_bytes_ints hl (Kq hv) hr (by rw[dQ,av];exact ab hz (by decide)) (C.hn hn) λh' t k hk=>?_;exact K.eD R (.bytes _) (.of hk) ⟨t,by simp[byteArr,Nat.toUInt8]⟩ q
 | _=>exact False.elim h
end
section
theorem Kr(x:IntsAre vs ns):c5 ρ h vs (ns.map PV.int):=by
 induction x with
 | nil=>exact .nil
 | cons n t _ ih=>exact .cons ⟨t,rfl⟩ ih
theorem Mc(hh:c.A.handled=none)(h0:a<=b)(h1:b-a<=1000)(h2: -100000<=a)(h3:b<=100000)(hr:IsRange s.heap r a b 1 t u w)(q:dM S Q (.list (bg a (b-a).toNat))) :
  TR G c (call (.type "list") [.ref r]) ρ l S s Q:=by
 intro QQ E R K;refine xE R.fr λm F=>?_;refine list_rangeD hh F R.news hr (zZ h2 (mX h0 h3) (mX h2 h0) h3) (n:=(b-a).toNat) (Hq a b) (l12 0x43e8421070558f6b109d5fe190a891 h1 (gX (l02 32347903228213 h0))) λh' tk ys F' N' hk h0 hl hp hc=>?_;refine xE hp.1 λn hl=>?_;refine K.new R (.of hk) (jq (aB _)) (.list _) ⟨ys,n,hl,?_⟩ q
 rewrite[show bg a (b-a).toNat=(rangeInts a 1 (b-a).toNat).map PV.int from ?_]
 ·exact Kr (IntsAre.ofCarried hc)
 ·unfold bg rangeInts;simp
theorem Md{T id:String}(pa:PlainAttrs T)(slot:Slot T name id)(hty:typeOf (.builtin id)=pure (.type "method_descriptor"))
  (R:aG G c s.heap ρ l S) (hs:es.all noStar=true) (he:es≠[]) (hT:s.TypeIs v T) (hd:∀a,v=.ref a->∃o,s.heap.get? a=some o/\o.dict=none) (V:VI ρ s.heap v d) (h:gj G c es l S Q')
  (K:∀vs ds h' tk' ar S',bR G c h' ar S'->bS c.L s.heap ρ h' ar->VI ar h' v d->c5 ar h' vs ds->Q' ds S'->wpAny G.M c.A (call (.builtin id) (v::vs)) QQ E {s with heap:=h',toks:=tk'}) (pl:Sem Bool) :
  wpAny G.M c.A (getMethod v name pl) (λfx bq=>wpAny G.M c.A (callWith pos fx.1 fx.2 (backTo pos (starEach es c.aj)) []) QQ E bq) E s:=by
 refine getMethod_builtin hT pa slot hty hd ?_;cases es with
 | nil=>exact(he rfl).elim
 | cons e r =>
  refine xA (cG.mp hs) λh1 h2=>?_;refine Calls.callWith_builtin (qK (es:=e::r) hs c.aj pos) ?_;rw[fZ h1];refine evalArgs_plain ?_;obtain z:=h pos ρ s (λvs aE=>wpAny G.M c.A (call (.builtin id) (v::vs)) QQ E aE) E R λvs ds h' tk' ar S' X T V' q=>K vs ds h' tk' ar S' X T (V.mono T.pre (R.tup T)) V' q;rw[fZ h1]at z;exact z
theorem z7(R:aG G c s.heap ρ l S){i:Nat}{a:Addr}{ys:List PV}(ha:ρ[i]? =some a){h':Heap}{ws:List Value}{n:Nat}{tk:Nat}{QQ:Value->Shared->Prop}{r:Value}{d:PV}(hs:Heap.SameBut a s.heap h')(ho:h'.get? a=some (listOf ws.toArray n))
  (hv:∀{h'},bB s.heap h'->c5 ρ h' ws ys/\VI ρ h' r d) (q:Q d (S.set i (.list ys))) (K:fi G c s ρ Q QQ):QQ r {s with heap:=h',toks:=tk}:=by
 have hb:zu c.L a s.heap h':=.same (cM (R.aX.cQ a (aH ha)).2.1) hs;obtain tk':=R.tup (R.oP ha hb);exact K.put R d (.list ys) ha hb ⟨ws,n,ho,(hv tk').1⟩ (hv tk').2 q
theorem Oh(ha:ρ[i]? =some a)(V:VI ρ s.heap v x)(e:S[i]? =some (.list xs))(hz:xs.length<=100000)(q:Q .none (S.set i (.list (xs++[x])))):TR G c (call (.builtin "list.append") [.ref a,v]) ρ l S s Q:=by
 intro QQ E R K;refine cq (R.aX.at_ _ _ _ ha e) λvs n ho hv=>?_;obtain av:=L2.len hv;refine append_at (its:=vs.toArray) (n:=n) ho (λh' hs jM=>?_) (by rw[dQ,cu];exact ag 0x239a5b9ed2fc21723dcc79fa3f hz av);exact z7 R ha (ws:=vs++[v]) (n:=n+1) (r:=.none) (d:=.none) (tk:=s.toks) hs (by rw[jM,List.push_toArray]) (λtk=>⟨L2.append (c5.mono hv (bV _) tk) (.cons (V.mono (bV _) tk) .nil),rfl⟩) q K
theorem Oi(ha:ρ[i]? =some a)(hb:ρ[j]? =some b)(e:S[i]? =some (.list xs))(e':S[j]? =some (.list ys))(ei:i≠j)(hz:xs.length+ys.length<=100000)(q:Q .none (S.set i (.list (xs++ys)))):TR G c (call (.builtin "list.extend") [.ref a,.ref b]) ρ l S s Q:=by
 intro QQ E R K;refine cq (R.aX.at_ _ _ _ ha e) λvs n ho hv=>?_;refine cq (R.aX.at_ _ _ _ hb e') λws k jM hw=>?_;obtain ei:a≠b:=λq=>ei (R.aX.inj ha (q▸hb));obtain av:=L2.len hv;obtain Z6:=L2.len hw;obtain ek:vs.toArray.size+ws.toArray.size<=sizeLine:=by rw[dQ,cu,cu];exact bO 0x194c240b81b9c16958f91e3e941f0653c769 hz av Z6
 refine call_meets PySem.F.slot_list_extend ⟨_,ho,rfl⟩ PySem.F.entry_list_extend (PySem.F.args_list_extend_2 _ _) (AutoSeq1.list_extend_list_list_0 a vs.toArray n b ws.toArray k (extend_door ek) (ab (cT vs.toArray.size ws.toArray.size) ek) (oB ek)) ⟨ho,jM,?_⟩;obtain hu:=PySem.IsL.update ho λx=>x++ws.toArray;rw[List.append_toArray]at hu;exact z7 R ha (ws:=vs++ws) (r:=.none) (d:=.none) (tk:=s.toks) (jJ ..) hu (λtk=>⟨L2.append (c5.mono hv (bV _) tk) (c5.mono hw (bV _) tk),rfl⟩) q K
theorem XU(ha:ρ[j]? =some a)(V:VI ρ s.heap v (.int i))(e:S[j]? =some (.list xs))(hz:xs.length<=1000)(h0:0<=i)(hx:xs[i.toNat]? =some x)(q:Q x (S.set j (.list (xs.eraseIdx i.toNat)))):TR G c (call (.builtin "list.pop") [.ref a,v]) ρ l S s Q:=by
 intro QQ E R K;obtain⟨t,rfl⟩:=V;refine cq (R.aX.at_ _ _ _ ha e) λvs n ho hv=>?_;obtain av:=L2.len hv;refine ak (L2.get hv hx) λy hy Y=>?_;refine xE (bP.mp hy) λhi z=>?_;have hk:seqIndex? i vs.toArray.size=some i.toNat:=by
  unfold seqIndex?;rw[cu];have:¬ i<0:=by exact j6 14220478175 h0
  simp[this];exact⟨j6 12896978175 h0,l21 0x3984a617ebc8def1 hi (i9 _)⟩
 refine call_meets PySem.F.slot_list_pop ⟨_,ho,rfl⟩ PySem.F.entry_list_pop (PySem.F.args_list_pop_2 _ _) (PySem.MeetsSeq.list_pop_at a vs.toArray n i t i.toNat y (by unfold Builtin.List.listFitsIndex;simp;exact⟨j6 80603103015728175 h0,l31 0x302c51ab9f1b65656cd4a762e734555bf hz av hi (i9 _)⟩) hk (by rw[nD];exact hy) (by rw[dQ,cu];exact ag 0x3a54f6c6c70a743d042d9bf hz av)) ⟨ho,?_⟩;obtain hu:=PySem.IsL.update ho λxs=>xs.eraseIdxIfInBounds i.toNat;obtain hea:vs.toArray.eraseIdxIfInBounds i.toNat=(vs.eraseIdx i.toNat).toArray:=by simp
 rw[hea]at hu;exact z7 R ha (ws:=vs.eraseIdx i.toNat) (tk:=s.toks) (jJ ..) hu (λtk=>⟨c5.mono (L2.ZD hv i.toNat) (bV _) tk,Y.mono (bV _) tk⟩) q K
theorem Q4{i:Nat}{ns:List Int}(ha:ρ[i]? =some a)(V:VI ρ s.heap v (.int x))(e:S[i]? =some (.list (ns.map .int)))(q:Q (.int (ns.count x)) S):TR G c (call (.builtin "list.count") [.ref a,v]) ρ l S s Q:=by
 intro QQ E R K;obtain⟨t,rfl⟩:=V;refine ak (R.list ha e) λvs hl hv=>?_;exact count_list_ints hl (Kq hv) (K.same R (.int _) ⟨_,rfl⟩ q)
end
theorem Q5:PlainAttrs "bytes":=⟨⟨"bytes.__getattribute__",by rw[fw,fu];kernel_rfl,by decide +kernel⟩,by rw[fw,fu];kernel_rfl⟩
theorem Bf:Slot "bytes" "join" "bytes.join" :=
 .of (owner:="bytes") (n:="join") (by rw[fw,fu];kernel_rfl) (by decide +kernel) (by decide +kernel) (by decide +kernel)
  (by first | exact .inl (by decide +kernel) | exact .inr (by decide +kernel)) (by rw[oE];kernel_rfl)
theorem Me:typeOf (.builtin "bytes.join")=pure (.type "method_descriptor"):=by show builtinType _=_;rw[builtinType_eq_fast];kernel_rfl
theorem Jr:entryFor table "bytes.join"=some Builtin.«bytes.join»:=ug (by kernel_rfl)
theorem Mf(a b:Value):argsOk "bytes.join" ⟨[a,b],[]⟩:=by unfold argsOk;kernel_rfl
theorem fK:typeLookup (.type "bytes") "__buffer__"=pure (some (.builtin "bytes.__buffer__")):=by rw[fw,fu];kernel_rfl
theorem xj:typeLookup (.type "bytes") "__release_buffer__"=pure none:=by rw[fw,fu];kernel_rfl
theorem E2(h:Q true s):wpAny M A (Builtin.Bytes.slotIsOwn (.bytes b t) "__buffer__") Q E s:=by
 unfold Builtin.Bytes.slotIsOwn;refine ae (jd (lQ s b t) fK ?_);dsimp only;rw[show("bytes.__buffer__".endsWith ("."++"__buffer__"))=true from by decide +kernel,show "bytes.__buffer__".dropRight ("__buffer__".length+1)="bytes" from by decide +kernel];exact eU rfl (rq (lQ s b t) F.bm_sub h)
theorem E3{id:String}(h:Q (some (b,none)) s):wpAny M A (Builtin.Bytes.takeBufferQuiet? id (.bytes b t) 0) Q E s:=by
 obtain hT:=lQ s b t;unfold Builtin.Bytes.takeBufferQuiet? Builtin.Bytes.takeBuffer?;refine ae (rx (ae (jd hT fK ?_)));refine ae (E2 ?_);refine eU rfl ?_;refine ae (jd hT fK ?_);unfold Builtin.Bytes.buffer?;refine ae (ae (jd hT fK ?_));refine ae (E2 ?_);refine eU rfl ?_;refine ae (jd hT fK ?_);unfold Builtin.Bytes.ownRelease Builtin.Bytes.slotIsOwn;refine ae (ae (ae (jd hT xj ?_)));refine ao (ao ?_);refine eU rfl ?_;refine ae (cc (a:=b) rfl ?_);exact ao (ao (ao h))
theorem Kt(I:Nat->β->Prop)(m:Nat)
  (step:∀i b,i<m->I i b->wpAny M A (f i b) (λr s'=>∃b',r=.yield b'/\I (i+1) b'/\s'=s) E s) (hQ:∀b,I m b->Q b s):∀(k i:Nat) (b:β),i+k=m->I i b->wpAny M A (forIn (List.range' i k) b f) Q E s
 | 0,i,b,e,h=>by
  obtain rfl:i=m:=by exact e
  exact ao (hQ b h)
 | k+1,i,b,e,h=>by
  rw[List.range'_succ,List.forIn_cons];refine ae (du (step i b (az 0x323a03cc9fcab171 e) h) (λr s' z=>?_) λy y x=>x);refine dY z λb' dc h' dn=>?_;obtain rfl:=dc;obtain rfl:=dn;exact Kt I m step hQ k (i+1) b' (az 0x8f176c12285224b0ac0edc9ed71 e) h'
theorem Ku(h:Q () s):∀To:List (Value×Option Value),(∀p∈To,p.2=none)->wpAny M A (Builtin.Bytes.joinLetGo To keep) Q E s
 | [],_=>ao h
 | (x,w)::r,hn=>by
  obtain rfl:w=none:=hn _ (.head _);show wpAny M A (letGo _ _>>=λz=>Builtin.Bytes.joinLetGo r keep) Q E s;exact ae (wpAny_letGo (Ku h r λp hp=>hn p (.tail _ hp)))
theorem Mg(bs:List (Array UInt8)):Builtin.Bytes.joined #[] bs=(bs.flatMap λb=>b.toList).toArray:=by
 unfold Builtin.Bytes.joined;obtain this:∀(l:List (Array UInt8)) (k:Nat) (bA:Array UInt8),(l.zipIdx k).foldl (λout (p:Array UInt8×Nat)=>(if p.2>0 then out++#[]else out)++p.1) bA=bA++(l.flatMap λb=>b.toList).toArray:=by
  intro l;induction l with
  | nil=>intro k bA;simp
  | cons b r ih =>
   intro k bA;rw[C3,kT,ih];apply uk.mp;split<;>simp
 obtain this:=this bs 0 #[];simpa using this
abbrev BJ(bs:List (Array UInt8))(i:Nat)(st:Array (Array UInt8)×List (Value×Option Value)):Prop:=st.1.toList=bs.take i/\(∀p∈st.2,p.2=none)/\(st.2.any λp=>p.1.onHeap)=false
theorem Q6(I:Nat->β->Prop)(e:n=m)(h0:I 0 b)
  (step:∀i b,i<m->I i b->wpAny M A (f i b) (λr s'=>∃b',r=.yield b'/\I (i+1) b'/\s'=s) E s) (hQ:∀b,I m b->wpAny M A (k b) Q E s):wpAny M A (forIn [:n] b f>>=k) Q E s:=by
 subst e;refine ae ?_;rw[Std.Legacy.Range.forIn_eq_forIn_range'];refine Kt I n step hQ _ _ _ ?_ h0;simp[Std.Legacy.Range.size]
theorem UT{vs:List Value}(hv:∀(i:Nat) (b:Array UInt8),bs[i]? =some b->∃t:Tok,vs[i]? =some (Value.bytes b t))(i:Nat)(st:Array (Array UInt8)×List (Value×Option Value))(hi:i<bs.length)(hb:BJ bs i st) :
  ∃b t,vs.toArray.getD i .none=.bytes b t/\BJ bs (i+1) (st.1.push b,st.2++[(.bytes b t,none)]):=by
 refine jL hb λh1 h2 h3=>?_;refine xE (hv i bs[i] (c8 hi)) λt ht=>?_;obtain hx:vs.toArray.getD i .none=.bytes bs[i] t:=by
  rw[yf,nD,ht];rfl
 refine⟨bs[i],t,hx,?_,λp hp=>?_,?_⟩
 ·rw[CV,h1,iG,c8 hi];rfl
 ·rcases dt.mp hp with hp | hp
  ·exact h2 p hp
  ·rw[aV.mp hp]
 ·rw[List.any_append,h3];rfl
set_option maxHeartbeats 1000000 in
theorem Mh(prog:Program)(w:World)(A:Around)(E:Value->Shared->Prop)(R:Result->Shared->Prop)(s:Shared)(a:Addr)(t:Tok)(bs:List (Array UInt8))(vs:List Value)(n:Nat)(hb:s.heap.get? a=some (listOf vs.toArray n))
  (hv:∀(i:Nat) (b:Array UInt8),bs[i]? =some b->∃t:Tok,vs[i]? =some (Value.bytes b t)) (hl:vs.length=bs.length) (hz:(bs.map (·.size)).sum<=16777216)
  (h:∀t' k,R (.ok (.ret (.bytes (bs.flatMap λb=>b.toList).toArray t'))) {s with toks:=k}) :
  wpAny (model prog w) A (Builtin.«bytes.join» ⟨[.bytes #[] t,.ref a],[]⟩) (λdz s'=>∃v,dz=.done (.ret v)/\R (.ok (.ret v)) s') (λe s'=>R (.error e) s') s:=by
 obtain hT:s.TypeIs (.ref a) "list":=⟨_,hb,rfl⟩;obtain ek:vs.toArray.size=bs.length:=by rw[cu];exact hl
 unfold Builtin.«bytes.join» Builtin.Bytes.joinM;refine ae (cc (a:=(Value.bytes #[] t,Value.ref a)) rfl ?_);refine ae (ae (m:=typeOf (Value.ref a)) (wpAny_typeOf hT ?_));refine bm_if_true rfl (ao ?_);refine ae (uu hb rfl ?_);refine bm_if_true rfl ?_;obtain step:=λi st hi hI=>UT hv i st hi hI;rcases vs with _ | ⟨v1,_ | ⟨v2,r⟩⟩
 case cons.nil =>
  obtain⟨b,rfl⟩:∃b,bs=[b]:=by
   match bs,hl with
   | [b],_=>exact⟨b,rfl⟩
  refine xE (hv 0 b rfl) λt' ht=>?_;obtain rfl:v1=.bytes b t':=by simpa using ht
  refine ae (wpAny_typeOf (lQ s b t') ?_);refine bm_if_true rfl ?_;refine ae (mY ?_);obtain q:=h t' s.toks;rw[show(([b]:List (Array UInt8)).flatMap λb=>b.toList).toArray=b by simp]at q;exact ao ⟨_,rfl,q⟩
 all_goals
  refine Q6 (BJ bs) ek ⟨rfl,(λp hp=>nomatch hp),rfl⟩ (λi st hi hI=>?_) λst iP=>?_
  ·refine cq (step i st hi hI) λb t' hx hJ=>?_;refine ae (uu hb rfl ?_);refine eU (by rw[hI.2.2];rfl) ?_;refine ae (dW ?_);rw[hx];refine E3 ?_;refine ae (uu hb rfl ?_);refine eU (by simp) ?_;exact ao ⟨_,rfl,hJ,rfl⟩
  ·obtain hp:st.1.toList=bs:=by simpa using iP.1
   refine ae (cc (a:=(#[]:Array UInt8)) rfl ?_);have acJ:∀(l:List (Array UInt8)) (k:Nat),l.foldl (λx y=>x+y.size) k=k+(l.map (·.size)).sum:=by
    intro l;induction l with
    | nil=>intro k;simp
    | cons x r ih=>intro k;rw[kT,ih,eC,oH];exact az 0x7aea275a7336791d0c19
   have av:(bs.flatMap λb=>b.toList).length=(bs.map (·.size)).sum:=by rw[List.length_flatMap];simp
   refine eU ?_ ?_
   ·unfold Builtin.Bytes.tooLong;rw[<- Array.foldl_toList,hp,acJ,dQ];exact c9 (by simp;exact hz)
   rw[hp,Mg];refine ae (m:=mkBytes _) ?_;unfold mkBytes;rw[ai (by rw[dQ,cu,av];exact Nat.not_lt_of_le hz)];refine ae (wpAny_fresh (ao ?_));refine ae (dW (wpAny_point ?_));refine ae (Ku ?_ _ iP.2.1);exact ao ⟨_,rfl,h _ _⟩
section
theorem c5.UU{xs:List (List UInt8)}(x:c5 ρ h vs (xs.map .bytes))(i:Nat)(b:Array UInt8)(e:(xs.map List.toArray)[i]? =some b):∃t:Tok,vs[i]? =some (Value.bytes b t):=by
 rw[cv,f9]at e;refine ak e λy hy dX=>?_;obtain rfl:=dX;refine ak (L2.get x (i:=i) (b:=.bytes y) (by rw[cv,hy];rfl)) λv hv fB=>?_;obtain⟨t,rfl⟩:=fB;exact⟨t,hv⟩
theorem XW{xs:List (List UInt8)}(h:∀x∈xs,x.length<=1000):((xs.map List.toArray).map (·.size)).sum<=1000*xs.length:=by
 induction xs with
 | nil=>simp
 | cons x r ih =>
  obtain h1:=h x (.head _);obtain h2:=ih λy hy=>h y (.tail _ hy);simp only[eC,oH,cu,dE]at h2 ⊢;exact az 0x1d0c5d07e6a50a3eafadc99341f296169204ea733bf h1 h2
theorem Q7{i:Nat}{xs:List (List UInt8)}{v:Value}(ha:ρ[i]? =some a)(V:VI ρ s.heap v (.bytes []))(e:S[i]? =some (.list (xs.map .bytes)))(hz:xs.length<=1000)(hx:∀x∈xs,x.length<=1000)(q:Q (.bytes xs.flatten) S):TR G c (call (.builtin "bytes.join") [v,.ref a]) ρ l S s Q:=by
 intro QQ E R K;obtain⟨t,rfl⟩:=V;refine cq (R.aX.at_ _ _ _ ha e) λvs n ho hv=>?_;obtain av:=L2.len hv;refine iH Bf (lQ s _ t) Jr ?_ (Mf _ _);refine du (Mh G.prog G.w _ E (j7 QQ E) s a t (xs.map List.toArray) vs n ho (c5.UU hv) (by rw[aK,av,aK]) (by obtain this:=XW hx;exact ag 0x3040421eed3889f59196b573a51dbc1a85101b3f hz this) λt' k=>?_) (λdz s' z=>?_) λy y x=>x
 ·refine K.same R (.bytes xs.flatten) ⟨t',?_⟩ q;rw[List.flatMap_map,List.flatten_eq_flatMap];rfl
 ·obtain⟨v,rfl,z⟩:=z;exact⟨v,rfl,z⟩
theorem c5.UW:∀{vs:List Value},c5 ρ h vs (xs.map .str)->∃ps:List (Str×Tok),vs=strValues ps/\ps.map (·.1)=xs:=by
 induction xs with
 | nil=>exact λV=>⟨[],L2.GC V,rfl⟩
 | cons x xs ih =>
  intro vs V;apply yP (L2.Gj V);intro v NY kz r;obtain⟨t,rfl⟩:=kz;apply dq (ih r);intro ps e;exact⟨(x,t)::ps,rfl,bE (x::·) e⟩
theorem Oj(xs:List Str):Builtin.Str.glued Str.empty xs=⟨(xs.flatMap λx=>x.cps.toList).toArray⟩:=by
 unfold Builtin.Str.glued;obtain this:∀(l:List Str) (bA:Array Nat),l.foldl (λbA (p:Str)=>bA++Str.empty.cps++p.cps) bA=bA++(l.flatMap λx=>x.cps.toList).toArray:=by
  intro l;induction l with
  | nil=>intro bA;simp
  | cons x r ih =>
   intro bA;rw[kT,ih];apply uk.mp;simp[Str.empty]
 cases xs with
 | nil=>rfl
 | cons x r =>
  rw[List.drop_one,List.tail_cons,List.headD_cons,this]
  congr 1
  apply uk.mp;simp
theorem Q8(xs:List Str)(h:∀x∈xs,x.cps.size<=1):∀k,xs.foldl (λn (p:Str)=>n+p.length+Str.empty.length) k<=k+xs.length:=by
 induction xs with
 | nil=>intro k;simp
 | cons x r ih =>
  intro k;obtain h1:x.length<=1:=h x (.head _);obtain h2:=ih (λy hy=>h y (.tail _ hy)) (k+x.length+Str.empty.length);obtain h3:Str.empty.length=0:=rfl;simp only[kT,dE];exact bO 0x42d57882c8b56f40685d79c5cf00ef h1 h2
theorem Q9{i:Nat}{xs:List Str}(ha:ρ[i]? =some a)(V:VI ρ s.heap v (.str Str.empty))(e:S[i]? =some (.list (xs.map .str)))(hz:xs.length<=1000)(hx:∀x∈xs,x.cps.size<=1)(q:Q (.str ⟨(xs.flatMap λx=>x.cps.toList).toArray⟩) S):TR G c (call (.builtin "str.join") [v,.ref a]) ρ l S s Q:=by
 intro QQ E R K;obtain⟨t,rfl⟩:=V;refine ak (R.list ha e) λvs hl hv=>?_;refine ak (c5.UW hv) λps kA hp=>?_;obtain rfl:=kA;rw[<- Oj,<-hp]at q;obtain cD:Builtin.Str.tooLong ((ps.map (·.1)).toArray.foldl (·+·.length+Str.empty.length) 0)=false:=by
  rw[hp];obtain this:=Q8 xs hx 0;unfold Builtin.Str.tooLong;rw[dQ,List.foldl_toArray];exact c9 (ag 0x26936a6042010e62cb987d63bf hz this)
 exact call_meets F.slot_str_join (typeIs_str _ _ _) F.entry_str_join (F.args_str_join_2 _ _) (meets_str_join_list Str.empty t a ps cD) ⟨hl,post_join ps ⟨joinFit_length cD,λt' k=>K.same R (.str _) ⟨_,rfl⟩ q⟩⟩
end
section
noncomputable def Gd(lt:Nat->Nat->Bool)(n:Nat){α:Type}:KasT α->(α->Prop)->Prop
 | .ret a,R=>R a
 | .ask i j k,R=>i<n/\j<n/\Gd lt n (k (lt i j)) R
theorem oZ{R R':α->Prop}(hr:∀a,R a->R' a):∀t:KasT α,Gd lt n t R->Gd lt n t R'
 | .ret a,h=>hr a h
 | .ask _ _ k,h=>⟨h.1,h.2.1,oZ hr (k _) h.2.2⟩
theorem rH:∀t:KasT α,Gd lt n t (λa=>Gd lt n (f a) R)->Gd lt n (t.bind f) R
 | .ret _,h=>h
 | .ask _ _ k,h=>⟨h.1,h.2.1,rH (k _) h.2.2⟩
theorem Ol{R:α->Prop}{Q:α->Shared->Prop}
  (hc:∀i j (C:Bool->Shared->Prop),i<n->j<n->C (lt i j) s->cmp i j C s) (hq:∀a,R a->Q a s):∀t:KasT α,Gd lt n t R->t.kasWp cmp Q s
 | .ret a,h=>hq a h
 | .ask _ _ k,h=>hc _ _ _ h.1 h.2.1 (Ol hc hq (k _) h.2.2)
structure wh(lt:Nat->Nat->Bool)(n:Nat):Prop where
 tr:∀a b c,lt a b=true->lt b c=true->lt a c=true
 Tp:∀a b,a<n->b<n->a≠b->lt a b=false->lt b a=true
 asy:∀a b,lt a b=true->lt b a=false
def PM(n:Nat)(p:Array Nat):Prop:=p.Perm (List.range n).toArray
theorem PM.size(h:PM n p):p.size=n:=by obtain this:=h.size_eq;simpa using this
theorem PM.bd{p:Array Nat}(h:PM n p){k:Nat}(hk:k<n):p.getD k 0<n:=by
 obtain hs:=h.size;obtain e:p.getD k 0=p[k]'(by lia):=by simp[Array.getD,hs,hk]
 rw[e];obtain this:p[k]'(by lia)∈(List.range n).toArray:=h.mem_iff.mp (by simp);simpa using this
theorem PM.ne{p:Array Nat}(h:PM n p){i j:Nat}(hi:i<n)(hj:j<n)(eI:i≠j):p.getD i 0≠p.getD j 0:=by
 obtain hs:=h.size;obtain nd:p.toList.Nodup:=(Cj.mp h).nodup_iff.mpr (by simpa using C4);obtain e:∀k (hk:k<n),p.getD k 0=p.toList[k]'(by simp;exact az 0x9ccac9689ce5e51d5 hs hk):=λk hk=>by simp[Array.getD,hs,hk]
 rw[e i hi,e j hj];rcases rB i j with h | h
 ·exact lP.mp nd i j (by simp;exact bO 0x12b623477c9017410d8431 hj hs h) (by simp;exact az 0x9cf560eda7af91631 hj hs) h
 ·exact(lP.mp nd j i (by simp;exact az 0x9cf560eda7af91631 hj hs) (by simp;exact az 0x9cf560eda7af91631 hi hs) (by exact ag 11575217601 (fv (ag 11262715101 h) (cM eI)))).symm
theorem PM.mirror(h:PM n p)(i j d:Nat):PM n (mirror p i j d):=(mirror_perm _ _ _ _).trans h
theorem PM.bubble(h:PM n p)(i d:Nat):PM n (bubble p i d):=(bubble_perm _ _ _).trans h
theorem HH(hs:aC<p.size)(hd:d<=aC)(k:Nat):(bubble p aC d).getD k 0=if k=aC-d then p.getD aC 0 else if aC-d<k/\k<=aC then p.getD (k-1) 0 else p.getD k 0:=by
 simp only[yf];rw[getElem?_bubble hs d hd k]
 repeat' split
 all_goals rfl
theorem HI(hj:j<=p.size)(k:Nat):(kas_rev p 0 j).getD k 0=if k<j then p.getD (j-1-k) 0 else p.getD k 0:=by
 unfold kas_rev;simp only[yf];rw[getElem?_mirror_all hj k];simp only[bM,true_and,fS];split<;>rfl
def qz(lt:Nat->Nat->Bool)(p:Array Nat)(m:Nat):Prop:=∀i j,i<j->j<m->lt (p.getD i 0) (p.getD j 0)=true
theorem qz.km:qz lt p 1:=λi j a b=>by lia
theorem qz.succ(O:wh lt n){p:Array Nat}{m:Nat}(P:PM n p)(hm:m<n)(h1:1<=m)(h:qz lt p m)(hc:lt (p.getD m 0) (p.getD (m-1) 0)=false):qz lt p (m+1):=by
 obtain XX:lt (p.getD (m-1) 0) (p.getD m 0)=true:=O.Tp _ _ (P.bd hm) (P.bd (by exact a6 (cV m 1) hm)) (P.ne hm (by exact a6 (cV m 1) hm) (by exact jh (rE h1 (by decide)))) hc;intro i j eI hj;by_cases e:j=m
 ·subst e;by_cases e':i=j-1
  ·subst e';exact XX
  ·exact O.tr _ _ _ (h i (j-1) (by exact ag 11575217601 (fv (az 0x98b91464bfcaba8d9 eI cP) e')) (by exact rE h1 (by decide))) XX
 ·exact h i j eI (by exact ag 11575217601 (fv (ag 0x5006c3fc1d031 hj) e))
theorem HJ{ord:Prop}(O:ord->wh lt n){p:Array Nat}(P:PM n p):∀(f m:Nat),m+f=n->1<=m->(ord->qz lt p m) ->
  Gd lt n (kas_asc p f m) λr=>m<=r/\r<=n/\(ord->qz lt p r)/\(r<n->lt (p.getD r 0) (p.getD (r-1) 0)=true)
 | 0,m,e,_,h=>⟨aB _,by exact bL e,h,λx=>by lia⟩
 | f+1,m,e,h1,h=>by
  refine⟨P.bd (by exact az 0x323a03cc9fcab171 e),P.bd (by exact bO 0x5fcd80130a4d55d8bc71 e (cV _ _)),?_⟩;cases hc:lt (p.getD m 0) (p.getD (m-1) 0)with
  | true=>exact⟨aB _,by exact az 0x30df11f51471ed71 e,h,λz=>hc⟩
  | false=>exact oZ (λr a=>⟨by obtain this:=a.1;exact cZ this,a.2.1,a.2.2.1,a.2.2.2⟩) _ (HJ O P f (m+1) (by exact az 0x8f176c12285224b0ac0edc9ed71 e) (by exact iJ 1 m) λo=>(h o).succ (O o) P (by exact az 0x323a03cc9fcab171 e) h1 hc)
def Bg(lt:Nat->Nat->Bool)(p:Array Nat)(m:Nat):Prop:=∀i j,i<j->j<m->lt (p.getD j 0) (p.getD i 0)=true
theorem Bg.succ(O:wh lt n){p:Array Nat}{m:Nat}(h1:1<=m)(h:Bg lt p m)(hc:lt (p.getD m 0) (p.getD (m-1) 0)=true):Bg lt p (m+1):=by
 intro i j eI hj;by_cases e:j=m
 ·subst e;by_cases e':i=j-1
  ·subst e';exact hc
  ·exact O.tr _ _ _ hc (h i (j-1) (by exact ag 11575217601 (fv (az 0x98b91464bfcaba8d9 eI cP) e')) (by exact rE h1 (by decide)))
 ·exact h i j eI (by exact ag 11575217601 (fv (ag 0x5006c3fc1d031 hj) e))
theorem yW(O:ord->wh lt n):∀(f:Nat) (p:Array Nat) (m q:Nat),PM n p->m+f=n->1<=m->(ord->Bg lt p m/\q=0) ->
  Gd lt n (kas_desc f p m q) λr=>PM n r.1/\1<=r.2.1/\r.2.1<=n/\(ord->Bg lt r.1 r.2.1/\r.2.2=0)
 | 0,p,m,q,P,e,h1,h=>⟨P,h1,by show m<=n;exact bL e,h⟩
 | f+1,p,m,q,P,e,h1,h=>by
  refine⟨P.bd (by exact az 0x323a03cc9fcab171 e),P.bd (by exact bO 0x5fcd80130a4d55d8bc71 e (cV _ _)),?_⟩;cases hc:lt (p.getD m 0) (p.getD (m-1) 0)with
  | true =>
   simp only[if_true];split
   ·rename_i hq
    exact yW O f _ (m+1) 0 (P.mirror _ _ _) (by exact az 0x8f176c12285224b0ac0edc9ed71 e) (by exact iJ 1 m) λo=>by obtain this:=(h o).2;lia
   ·exact yW O f _ (m+1) 0 P (by exact az 0x8f176c12285224b0ac0edc9ed71 e) (by exact iJ 1 m) λo=>⟨(h o).1.succ (O o) h1 hc,rfl⟩
  | false =>
   simp only[oA,oM];refine⟨P.bd (by exact bO 0x5fcd80130a4d55d8bc71 e (cV _ _)),P.bd (by exact az 0x323a03cc9fcab171 e),?_⟩;cases hd:lt (p.getD (m-1) 0) (p.getD m 0)with
   | true=>exact⟨P,h1,by show m<=n;exact az 0x30df11f51471ed71 e,h⟩
   | false =>
    simp only[oA,oM];exact yW O f _ (m+1) (q+1) P (by exact az 0x8f176c12285224b0ac0edc9ed71 e) (by exact iJ 1 m) λo=>by
     obtain this:=(O o).Tp _ _ (P.bd (by exact az 0x323a03cc9fcab171 e)) (P.bd (by exact bO 0x5fcd80130a4d55d8bc71 e (cV _ _))) (P.ne (by exact az 0x323a03cc9fcab171 e) (by exact bO 0x5fcd80130a4d55d8bc71 e (cV _ _)) (by exact jh (rE h1 (by decide)))) hc;rw[this]at hd;exact absurd hd (by simp)
theorem Bg.WC(hm:m<=p.size)(h:Bg lt p m):qz lt (kas_rev p 0 m) m:=by
 intro i j eI hj;rw[HI hm,HI hm,au (by exact aJ eI (cZ hj)),au hj];exact h _ _ (by exact gd 0x3a816c6c5251e039e7169b1 eI cP (ba (az 0x98b91464bfcaba8d9 hj cP))) (by exact az 0x9cf54bdf7c9b052b5 (cV _ _) (ba (az 0xfa4afa63efa2d9 eI hj)))
theorem HK{ord:Prop}(O:ord->wh lt n){p:Array Nat}{m:Nat}(P:PM n p)(h1:1<=m)(hm:m<=n)(h:ord->Bg lt p m) :
  Gd lt n (kas_tail3 m n p) λr=>PM n r.2/\1<=r.1/\r.1<=n/\(ord->qz lt r.2 r.1):=by
 refine rH _ (oZ (λr a=>?_) _ (HJ O (P.mirror 0 m _) (n-m) m (by exact bu (az 0xfa44f164482c29 (ba (ag 11262715101 hm))) (az 0xfc71537677f529 cP)) h1 λo=>(h o).WC (by rw[P.size];exact hm)));exact⟨P.mirror _ _ _,by show 1<=r;obtain this:=a.1;exact ab h1 this,a.2.1,a.2.2.1⟩
theorem zy{ord:Prop}(O:ord->wh lt n){p:Array Nat}{m:Nat}(P:PM n p)(h1:1<=m)(hm:m<n)(h:ord->Bg lt p (m+1)) :
  Gd lt n (kas_descPart m n p) λr=>PM n r.2/\1<=r.1/\r.1<=n/\(ord->qz lt r.2 r.1):=by
 refine rH _ (oZ (λr a=>?_) _ (yW O (n-(m+1)) p (m+1) 0 P (by exact bu (az 0x38e7979551660f466db9e71 (ba (ag 0x500ad035797b1 hm))) (az 0x396626b99cb191d1fa8ed89 cP)) (by exact iJ 1 m) λo=>⟨h o,rfl⟩));refine p9 a λP' b1 b2 b3=>?_;split
 ·rename_i hq
  exact HK O (P'.mirror _ _ _) b1 b2 λo=>by obtain this:=(b3 o).2;lia
 ·exact HK O P' b1 b2 λo=>(b3 o).1
theorem Ra{ord:Prop}(O:ord->wh lt n){p:Array Nat}(P:PM n p)(hn:1<=n) :
  Gd lt n (kas_count n p) λr=>PM n r.2/\1<=r.1/\r.1<=n/\(ord->qz lt r.2 r.1):=by
 refine rH _ (oZ (λm a=>?_) _ (HJ O P (n-1) 1 (by exact bu (ag 0x98aae651679360787 (ba (ah 28149223253875 hn))) (ag 0x9a14618472789af91 cP)) (aB _) λz=>.km));refine p9 a λa1 a2 a3 a4=>?_;split
 ·rename_i e
  rw[oJ]at e;subst e;exact⟨P,hn,aB _,a3⟩
 ·rename_i e
  have e:m<n:=by rcases rB m n with h | h;exact h;exact absurd (by rw[oJ];exact bu (ag 11262715101 a.2.1) (ag 11262715101 h)) e
  split
  ·rename_i h2
   refine⟨P.bd (by exact hn),P.bd (by exact aJ (rE a1 (by decide)) a2),?_⟩;cases hc:lt (p.getD 0 0) (p.getD (m-1) 0)with
   | true=>exact⟨P,a1,a2,a3⟩
   | false =>
    simp only[oA,oM];exact zy O (P.mirror _ _ _) a1 e λo=>by obtain this:=a3 o 0 (m-1) (by exact yx (Nat.le_sub_one_of_lt h2)) (by exact rE a1 (by decide));rw[hc]at this;exact absurd this (by simp)
  ·rename_i h2
   obtain rfl:m=1:=by exact bu (ah 28554698753875 h2) (ah 28149223253875 a.1)
   refine zy O P a1 e λo i j eI hj=>?_;obtain rfl:i=0:=by exact bu (ag 0xfd4644e29f1419 eI hj) (ah 90075)
   obtain rfl:j=1:=by exact bu (ah 28554698446251 hj) (ah 562984467575 eI)
   exact a4 e
theorem z8{ord:Prop}(O:ord->wh lt n){p:Array Nat}{k:Nat}(P:PM n p)(hk:k<n)(hA:ord->qz lt p k):∀(f l r:Nat),r-l<=f->l<=r->r<=k ->
  (ord->(∀i,i<l->lt (p.getD i 0) (p.getD k 0)=true)/\∀i,r<=i->i<k->lt (p.getD k 0) (p.getD i 0)=true) ->
  Gd lt n (kas_place p k f l r) λx=>x<=k/\(ord->(∀i,i<x->lt (p.getD i 0) (p.getD k 0)=true)/\∀i,x<=i->i<k->lt (p.getD k 0) (p.getD i 0)=true)
 | 0,l,r,hf,h1,h2,h=>by
  obtain rfl:l=r:=by exact bu (ag 11262715101 h1) (az 0x30df34493edf3b33 hf cP)
  exact⟨h2,h⟩
 | f+1,l,r,hf,h1,h2,h=>by
  unfold kas_place;split
  ·obtain rfl:l=r:=by lia
   exact⟨h2,h⟩
  ·rename_i bz
   refine⟨P.bd hk,P.bd (by exact gd 0xbdeda8758ba3f5867e4f1832189c5ea488cd60181 hk h2 bz (cI _ _)),?_⟩;cases hc:lt (p.getD k 0) (p.getD ((l+r)/2) 0)with
   | true =>
    simp only[if_true];refine z8 O P hk hA f l ((l+r)/2) (by exact uH 0x46c0f9da8335c368ff02e913e8aa97d7a46b1b8f31b3111 hf (cI _ _) cP (ba (az 0x1b5f1e432bc40ac84e87ebc11ac81 bz (dU _ (by decide))))) (by exact az 0x1b5f1e432bc40ac84e87ebc11ac81 bz (dU _ (by decide))) (by exact bO 0x3435046daa6d9df60e18b854dd3b1cb3d h2 bz (cI _ _)) λo=>⟨(h o).1,λi a b=>?_⟩;by_cases e:i=(l+r)/2
    ·subst e;exact hc
    ·exact(O o).tr _ _ _ hc (hA o _ _ (by exact ag 11575217601 (fv (ag 11262715101 a) (cM e))) b)
   | false =>
    simp only[oA,oM];refine z8 O P hk hA f ((l+r)/2+1) r (by exact uH 0x101669f6ef3db575f6bef5f08e529226d03d5eb6f02a5f292e8b1b91 hf (dU _ (by decide)) cP (ba (az 0x1b5f1e408bafde07f8f21ed195d29 bz (cI _ _)))) (by exact az 0x1b5f1e408bafde07f8f21ed195d29 bz (cI _ _)) h2 λo=>⟨λi a=>?_,(h o).2⟩;have hm:=(O o).Tp _ _ (P.bd hk) (P.bd (by exact gd 0xbdeda8758ba3f5867e4f1832189c5ea488cd60181 hk h2 bz (cI _ _))) (P.ne hk (by exact gd 0xbdeda8758ba3f5867e4f1832189c5ea488cd60181 hk h2 bz (cI _ _)) (by lia)) hc;by_cases e:i=(l+r)/2
    ·subst e;exact hm
    ·exact(O o).tr _ _ _ (hA o _ _ (by exact ag 11575217601 (fv (ag 0x5006c3fc1d031 a) e)) (by exact bO 0x343505042106eeab1ba1ac67f17f9cb3d h2 bz (cI _ _))) hm
theorem Om{ord:Prop}(O:ord->wh lt n):∀(f:Nat) (p:Array Nat) (k:Nat),PM n p->k+f=n->1<=k->(ord->qz lt p k)->Gd lt n (kas_bin f p k) λr=>PM n r/\(ord->qz lt r n)
 | 0,p,k,P,e,h1,h=>⟨P,λo=>by rw[show n=k by exact ag 0x7aea26db507455a439bf e];exact h o⟩
 | f+1,p,k,P,e,h1,h=>by
  refine rH _ (oZ (λx a=>?_) _ (z8 O P (by exact az 0x323a03cc9fcab171 e) h k 0 k (by exact cV k 0) (by exact bM k) (aB _) λo=>⟨λi a=>by lia,λi a b=>by lia⟩));refine xA a λhx hh=>?_;refine Om O f _ (k+1) (P.bubble _ _) (by exact az 0x8f176c12285224b0ac0edc9ed71 e) (by exact iJ 1 k) λo=>?_;refine xA (hh o) λu v=>?_;intro i j eI hj;rw[HH (by rw[P.size];exact az 0x323a03cc9fcab171 e) (by exact cV k x),HH (by rw[P.size];exact az 0x323a03cc9fcab171 e) (by exact cV k x)];rw[show k-(k-x)=x by exact bu (bO 0x1dd467beb94e512b4c9 cP (ba (ag 11262715101 (cV _ _)))) (bO 0x1dd02b8af82e1c13629 cP (ba (ag 11262715101 a.1)))];obtain A:=h o;by_cases i1:i=x
  ·rw[au i1,ai (by lia),au (by exact⟨az 0x9ce08fdb9a3a343b1 eI i1,ag 0x5006c3fc1d031 hj⟩)];exact v _ (by exact bO 0x22bec638617329bdd6e1cf49b1 eI i1 cP) (by exact az 0x12b38090ec7616b4268131 hj (ba (ag 563296967601 eI)))
  ·rw[ai i1];by_cases i2:x<i
   ·rw[au (by exact⟨ag 11575217601 i2,az 0x98b9169d2ef1b69d9 eI hj⟩),ai (by exact jh (aJ i2 (cZ eI))),au (by exact⟨az 0x523fa71f4cb01 eI i2,ag 0x5006c3fc1d031 hj⟩)];exact A _ _ (by exact bO 0x23b076fc31fe9f5d374435ded9 eI cP (ba (ag 563296967601 i2))) (by exact az 0x12b38090ec7616b4268131 hj (ba (az 0xfa277370c30e01 eI i2)))
   ·rw[ai (by lia)];by_cases j1:j=x
    ·rw[au j1];exact u _ (by exact aJ eI (bL j1))
    ·rw[ai j1];by_cases j2:x<j
     ·rw[au (by exact⟨ag 11575217601 j2,ag 0x5006c3fc1d031 hj⟩)];exact A _ _ (by exact bO 0x12b8ab9f2ff86a3dbb75c1 j2 (fv (ag 11256600101 i2) i1) cP) (by exact az 0x12b38090ec7616b4268131 hj (ba (ag 563296967601 j2)))
     ·rw[ai (by lia)];exact A _ _ eI (by exact az 0x523fa71f4c13d a.1 (fv (ag 11256600101 j2) j1))
theorem UX{ord:Prop}(O:ord->wh lt n)(hn:1<=n):Gd lt n (kas_sort n) λr=>PM n r/\(ord->qz lt r n):=by
 refine rH _ (oZ (λr a=>?_) _ (Ra O (p:=(List.range n).toArray) (Array.Perm.refl _) hn));refine p9 a λP a1 a2 a3=>?_;split
 ·rw[Nat.max_eq_left a1];exact Om O _ _ _ P (by exact bu (az 0xfa44f164482c29 (ba (ag 11262715101 a.2.2.1))) (az 0xfc71537677f529 cP)) a1 a3
 ·exact⟨P,λo=>by rw[show n=r.1 by lia];exact a3 o⟩
end
theorem c5.Mi(x:c5 ρ h vs ds)(is:List Nat):(∀i∈is,i<vs.length)->c5 ρ h (is.map λi=>vs.getD i Value.none) (is.map λi=>ds.getD i PV.none):=by
 induction is with
 | nil=>exact λz=>.nil
 | cons i r ih =>
  intro hi;obtain h1:=hi i (.head _);have h2:i<ds.length:=L2.len x▸h1;refine ak (L2.get x (c8 h2)) λv hv V=>?_;refine .cons ?_ (ih λj hj=>hi j (.tail _ hj));show VI ρ h (vs.getD i Value.none) (ds.getD i PV.none);rw[pD,pD,hv,c8 h2];exact V
theorem PM.mem(P:PM n p)(i:Nat)(h:i∈p.toList):i<n:=by
 obtain this:=(Cj.mp P).mem_iff.mp h;simpa using this
theorem PM.Mi(P:PM n p)(xs:List α)(hn:xs.length=n)(d:α)(f:α->β)(e:β):∃Oo:List α,Oo.Perm xs/\Oo=p.toList.map (λi=>xs.getD i d)/\(p.toList.map λi=>(xs.map f).getD i e)=Oo.map f:=by
 refine⟨p.toList.map λi=>xs.getD i d,?_,rfl,?_⟩
 ·obtain h1:=(Cj.mp P).map λi=>xs.getD i d;obtain h2:(List.range n).map (λi=>xs.getD i d)=xs:=by
   subst hn;apply C5 (by simp);intro i a b;simp at a;simp[List.getD,a]
  rw[show(List.range n).toArray.toList.map (λi=>xs.getD i d)=xs from h2]at h1;exact h1
 ·rw[bQ];refine kP λi hi=>?_;have:=P.mem i hi;subst hn;simp[List.getD,this]
section
theorem Bh{ord:Prop}(O:ord->wh lt vs.length)(hl:s.heap.IsList a vs.toArray)(hv:c5 ρ s.heap vs ds)(h2:2<=vs.length)(Bj:vs.length<64)
  (hk:∀(A:Around) (Q:SortKind->Shared->Prop) (E:Value->Shared->Prop) (s':Shared),bB s.heap s'.heap->Q κ s'->wpAny G.M A (keyKind' vs.toArray) Q E s')
  (hc:∀(A:Around) (s':Shared) i j (C:Bool->Shared->Prop),bB s.heap s'.heap->i<vs.length->j<vs.length->C (lt i j) s'->kas_ask G.prog G.w A κ vs i j C s')
  (q:∀p,PM vs.length p->(ord->qz lt p vs.length)->dM S Q (.list (p.toList.map λi=>ds.getD i .none))):TR G c (call (.builtin "sorted") [.ref a]) ρ l S s Q:=by
 intro QQ E R K;refine xE R.fr λm F=>?_;refine kat_sorted F R.news hl h2 Bj λD e1 h' F' N' hD=>?_;obtain fresh:=R.fresh N' hD;obtain gr:=R.rS F.ns F' N' λp hp=>.tail _ hp;have tk:=R.jU gr;refine hk _ _ _ _ tk ?_;refine Ol (lt:=lt) (n:=vs.length) (λi j C hi hj hC=>hc _ _ i j C tk hi hj hC) ?_ _ (UX O (cZ h2));rintro p ⟨P,A⟩;refine KasFin.intro F' N' (UpdF.head λq hq=>cU (hD q hq)) λda n F'' N''=>?_;obtain zw:=R.rS F.ns F'' N'' λp hp=>.tail _ hp;exact K.new R (tk:=s.toks) zw fresh (.list _) ⟨_,n,(N'' _ (.head _)).1,c5.Mi (hv.mono ⟨_,rfl⟩ (R.jU zw)) _ λi hi=>P.mem i hi⟩ (q p P A)
theorem xk(hl:s.heap.IsList a vs.toArray)(hv:c5 ρ s.heap vs ds)(h2:vs.length<2)(q:dM S Q (.list ds)):TR G c (call (.builtin "sorted") [.ref a]) ρ l S s Q:=by
 intro QQ E R K;refine Gg (id hl) λo ho xi k hd=>?_;refine call_function_entry kind_sorted plain_sorted entry_sorted (args_sorted1 _) ?_;unfold Builtin.«sorted»;refine ae (m:=checkCount "sorted" 1 1 _) (ao ?_);refine ae (collect_list hl ?_ (by rw[dQ];exact iF (aJ h2 (by decide))));refine ae (wpAny_newList ?_ (by rw[dQ];exact iF (aJ h2 (by decide))));generalize eh:(s.heap.push (seqObj "list" #[] 0)).update s.heap.objs.size (Obj.mapSeq (·++vs.toArray))=h₁;have ek:h₁.objs.size=s.heap.objs.size+1:=by rw[<- eh,Heap.size_update,size_push']
 have g1:∀b o,s.heap.get? b=some o->h₁.get? b=some o:=λb o q=>by
  rw[<- eh,kQ _ _ _ _ (cU (bX q)),Heap.get?_push_ne _ _ _ (cU (bX q))];exact q
 show wpAny _ _ _ _ _ {s with heap:=h₁.push (seqObj "list" vs.toArray 0)};obtain hD:(h₁.push (seqObj "list" vs.toArray 0)).get? h₁.objs.size=some (seqObj "list" vs.toArray 0):=dD _ rfl;obtain dz:∀cJ,Heap.SameBut h₁.objs.size (((((h₁.push (seqObj "list" vs.toArray 0)).update h₁.objs.size (Obj.mapSeq λz=>(#[]:Array Value))).push (seqObj "tuple" vs.toArray 0)).push (seqObj "list" #[] 0))) cJ->(∃n,cJ.get? h₁.objs.size=some (seqObj "list" vs.toArray n))->QQ (.ref h₁.objs.size) {s with heap:=cJ}:=by
  rintro cJ hs ⟨n,hn⟩;obtain gr:dK c.L s.heap cJ:=.of λb o q=>by
   obtain bz:=bX (g1 b o q);obtain ei:b≠h₁.objs.size:=cU bz;refine hs.extBut b o ei (cg _ (cg _ ?_));rw[kQ _ _ _ _ ei];exact cg _ (g1 b o q)
  refine K.new R (tk:=s.toks) gr (jq (by rw[ek];exact kZ _)) (.list _) ⟨_,n,hn,hv.mono ⟨_,rfl⟩ (R.jU gr)⟩ q
 refine ae (dW (iH slot_list_sort ⟨_,hD,rfl⟩ entry_list_sort ?_ (args_list_sort _)));rw[list_sort_plain];refine ae (listItems_at hD rfl ?_);refine ae (listUpdate_at hD rfl ?_ (by rw[cu,dQ];exact iF (aJ h2 (by decide))) (bM _));obtain⟨e1,Bk⟩:∃e1,((h₁.push (seqObj "list" vs.toArray 0)).update h₁.objs.size (Obj.mapSeq λz=>(#[]:Array Value))).get? h₁.objs.size=some (seqObj "list" #[] e1):=⟨_,get?_update_seq hD λz=>#[]⟩;refine ae (seqEpoch_at Bk rfl ?_);refine ae (wpAny_newTuple ?_ (by show vs.length<=_;rw[dQ];exact iF (aJ h2 (by decide))));refine ae (wpAny_newList ?_ (bM _));refine dW ?_;dsimp only;obtain Tq:vs.toArray.size<2:=by rw[cu];exact h2
 rw[au Tq,au Tq];refine ae (ao ?_);rw[StateT.run_pure];refine ae (ao ?_);dsimp only;obtain XY:=cg (seqObj "list" #[] 0) (cg (seqObj "tuple" vs.toArray 0) Bk);refine ae (seqEpoch_at XY rfl ?_);obtain mK:(arrOf (SortSt.mk' general' (vs.toArray.zip vs.toArray) #[] 7 none)).map (·.2)=vs.toArray:=by
  show(vs.toArray.zip vs.toArray).map Prod.snd=_;simp[List.map_snd_zip]
 rw[mK];refine ae (listUpdate_at XY rfl ?_ (bM _) (by rw[cu,dQ];exact iF (aJ h2 (by decide))));simp only[bne_self_eq_false,oA,oM];refine ao ⟨_,rfl,ao ⟨_,rfl,dz _ (jJ ..) ⟨_,get?_update_seq XY λz=>vs.toArray⟩⟩⟩
end
section
theorem Bl{h:Heap}{vs:List Value}{ds:List PV}(hv:c5 ρ h vs ds){i:Nat}{x y:PV}(e:ds[i]? =some (.tup [x,y])):∃a n u v,vs.getD i Value.none=.ref a/\h.get? a=some (ee [u,v] n)/\VA ρ u x/\VA ρ v y:=by
 refine ak (L2.get hv e) λw hw V=>?_;refine fz V λa ws n dc ho Kv=>?_;obtain rfl:=dc;refine dH (L2.tx Kv) λu v dn U V=>?_;obtain rfl:=dn;exact⟨a,n,_,_,by rw[pD,hw];rfl,ho,U,V⟩
theorem UY{h:Heap}{T:Value}{M:Model}(f:PV->PV×PV){vs:List Value}{ds:List PV}(x:c5 ρ h vs ds):(∀d∈ds,d=.tup [(f d).1,(f d).2])->(∀d∈ds,∀u,VA ρ u (f d).1->∀h',Looks M h' (typeOf u) T) ->
  ∃fs,KatTups h vs fs/\fs.length=vs.length/\∀v∈fs,∀h',Looks M h' (typeOf v) T:=by
 induction x with
 | nil=>exact λz z=>⟨[],trivial,rfl,λz h=>nomatch h⟩
 | cons V r ih =>
  intro h1 h2;refine dY (ih (λd hd=>h1 d (.tail _ hd)) λd hd=>h2 d (.tail _ hd)) λfs a b c=>?_;rw[h1 _ (.head _)]at V;refine fz V λad ws n dX ho Kv=>?_;obtain rfl:=dX;refine dH (L2.tx Kv) λu v fB U z=>?_;obtain rfl:=fB;refine⟨_::fs,KatTups.cons ho rfl rfl rfl a,bE Nat.succ b,λv hv h'=>?_⟩;rcases bK.mp hv with rfl | hv
  ·exact h2 _ (.head _) _ U h'
  ·exact c v hv h'
theorem E4{Q:SortKind->Shared->Prop}{T:Value}(f:PV->PV×PV)(hv:c5 ρ s'.heap vs ds)(h0:0<vs.length)(h1:∀d∈ds,d=.tup [(f d).1,(f d).2])
  (h2:∀d∈ds,∀u,VA ρ u (f d).1->∀h',Looks M h' (typeOf u) T) (hT:(T==T)=true) (q:Q (tuples' (T != Value.type "tuple")) s'):wpAny M A (keyKind' vs.toArray) Q E s':=by
 refine dY (UY (T:=T) (M:=M) f hv h1 h2) λfs a b d=>?_;exact kat_kind a (ag 0x9cea1a5935b17bbbf h0 b) (λv hv=>d v hv _) hT q
theorem Oq:Looks M h (typeOf (.str x t)) (.type "str"):=.of_pure rfl
theorem Ot:Looks M h (typeOf (.int x t)) (.type "int"):=.of_pure rfl
noncomputable def vx(rows:List (Str×Int))(i j:Nat):Bool:=decide ((rows.getD i (⟨#[]⟩,0)).1.cps.toList<(rows.getD j (⟨#[]⟩,0)).1.cps.toList)
theorem E5(nd:(rows.map (·.1)).Nodup):wh (vx rows) rows.length where
 tr:=λa b c h1 h2=>by
  simp only[vx,jT]at *;exact List.lt_trans h1 h2
 Tp:=λa b ha hb ei h=>by
  simp only[vx,jT,yj]at *;obtain h1:=List.not_lt.mp h;rcases List.le_iff_lt_or_eq.mp h1 with h2 | h2
  ·exact h2
  ·exfalso;obtain e:∀k (hk:k<rows.length),rows.getD k (⟨#[]⟩,0)=rows[k]:=λk hk=>by simp[List.getD,hk]
   rw[e a ha,e b hb]at h2;have h3:rows[b].1=rows[a].1:=by
    obtain this:rows[b].1.cps=rows[a].1.cps:=uk.mp h2;cases h:rows[b].1;cases h':rows[a].1;rw[h,h']at this;exact bE _ this
   rcases rB a b with bz | Tg
   ·exact lP.mp nd a b (by simpa using ha) (by simpa using hb) bz (by simpa using h3.symm)
   ·exact lP.mp nd b a (by simpa using hb) (by simpa using ha) (ag 11575217601 (fv (ag 11262715101 Tg) (cM ei))) (by simpa using h3)
 asy:=λa b h=>by
  simp only[vx,jT,yj]at *;exact List.lt_asymm h
theorem HL{rows:List (Str×Int)}(hi:i<rows.length):(rows.map λr=>PV.tup [.str r.1,.int r.2])[i]? =some (.tup [.str (rows.getD i (⟨#[]⟩,0)).1,.int (rows.getD i (⟨#[]⟩,0)).2]):=by
 simp[List.getD,hi]
theorem DC{kC:Nat}{a:Addr}{rows:List (Str×Int)}(ha:ρ[kC]? =some a)(e:S[kC]? =some (.list (rows.map λr=>.tup [.str r.1,.int r.2])))(Bj:rows.length<64)(nd:(rows.map (·.1)).Nodup)
  (q:∀cR:List (Str×Int),cR.Perm rows->cR.Pairwise (λp q=>sP q p=false)->dM S Q (.list (cR.map λr=>.tup [.str r.1,.int r.2]))) :
  TR G c (call (.builtin "sorted") [.ref a]) ρ l S s Q:=by
 intro QQ E R K;refine ak (R.list ha e) λvs hl hv=>?_;have hn:vs.length=rows.length:=(L2.len hv).trans (aK _);by_cases h2:vs.length<2
 ·refine xk hl hv h2 (q rows (.refl _) ?_) QQ E R K
  match rows,hn with
  | [],_=>exact .nil
  | [_],_=>exact List.pairwise_singleton _ _
  | _::_::_,hn=>simp at hn;lia
 ·refine Bh (lt:=vx rows) (ord:=True) (κ:=tuples' (Value.type "str" != Value.type "tuple")) (λz=>hn▸E5 nd) hl hv (ja h2) (a6 (bL hn) Bj) (λA Q' E' s' tk q'=>?_) (λA s' i j C tk hi hj hC=>?_) (λp P A=>?_) QQ E R K
  ·refine E4 (T:=.type "str") (λd=>match d with | .tup [x,y]=>(x,y) | _=>(.none,.none)) (hv.mono (bV _) tk) (yx (mS (ja h2))) (λd hd=>?_) (λd hd u V h'=>?_) rfl q'
   ·refine ak (bH.mp hd) λr z gy=>?_;obtain rfl:=gy;rfl
   ·refine ak (bH.mp hd) λr z kz=>?_;obtain rfl:=kz;obtain⟨t,rfl⟩:=V;exact Oq
  ·refine mE (Bl (hv.mono (bV _) tk) (HL (rows:=rows) (i:=i) (aJ hi (bL hn)))) λb n u v e1 ho U V=>?_;refine mE (Bl (hv.mono (bV _) tk) (HL (rows:=rows) (i:=j) (aJ hj (bL hn)))) λb' n' u' v' XZ jM U' V'=>?_;obtain⟨t1,rfl⟩:=U;obtain⟨t2,rfl⟩:=V;obtain⟨t3,rfl⟩:=U';obtain⟨t4,rfl⟩:=V';unfold kas_ask;rw[e1,XZ];refine kat_lt ho rfl jM rfl ?_;refine kat_cons (wpAny_eqBool_str ?_);by_cases hs:(rows.getD i (⟨#[]⟩,0)).1=(rows.getD j (⟨#[]⟩,0)).1
   ·rw[cH hs];obtain eI:i=j:=by
     have e2:∀k (hk:k<rows.length),rows.getD k (⟨#[]⟩,0)=rows[k]:=λk hk=>by simp[List.getD,hk]
     rw[e2 i (aJ hi (bL hn)),e2 j (aJ hj (bL hn))]at hs;rcases Nat.lt_trichotomy i j with h | h | h
     ·exact(lP.mp nd i j (by simp;exact aJ hi (bL hn)) (by simp;exact aJ hj (bL hn)) h (by simpa using hs)).elim
     ·exact h
     ·exact(lP.mp nd j i (by simp;exact aJ hj (bL hn)) (by simp;exact aJ hi (bL hn)) h (by simpa using hs.symm)).elim
    subst eI;refine kat_yes (kat_cons (CX ?_));rw[show((rows.getD i (⟨#[]⟩,0)).2==(rows.getD i (⟨#[]⟩,0)).2)=true from by simp];refine kat_yes (kat_nil ?_);obtain this:vx rows i i=false:=by simp[vx,List.lt_irrefl]
    rw[this]at hC;exact hC
   ·rw[c9 hs];refine kat_no ?_;exact oneLt_str hC
  ·refine dY (P.Mi rows hn.symm (⟨#[]⟩,0) (λr:Str×Int=>PV.tup [.str r.1,.int r.2]) PV.none) λcR p1 p2 p3=>?_;rw[p3];refine q cR p1 ?_;rw[p2,List.pairwise_map,lP];intro i j hi hj eI;obtain ek:=P.size;obtain hA:=A trivial i j eI (by simp at hj;exact aJ hj (bL ek));obtain e2:∀k (hk:k<p.toList.length),p.getD k 0=p.toList[k]:=λk hk=>by simp at hk;simp[Array.getD,hk]
   rw[e2 i hi,e2 j hj]at hA;obtain this:=(E5 nd).asy _ _ hA;show PySem.Spec.ltCps _ _=false;rw[ltCps_eq];exact this
theorem E6{rows:List (Int×Int)}(hi:i<rows.length):(rows.map λr=>PV.tup [.int r.1,.int r.2])[i]? =some (.tup [.int (rows.getD i (0,0)).1,.int (rows.getD i (0,0)).2]):=by
 simp[List.getD,hi]
noncomputable def r7(ps:List (Int×Int))(i j:Nat):Bool:=let x:=ps.getD i (0,0);let y:=ps.getD j (0,0)
 if x.1=y.1 then(if x.2=y.2 then false else decide (x.2<y.2))else decide (x.1<y.1)
theorem Bm{kC:Nat}{a:Addr}{ps:List (Int×Int)}(ha:ρ[kC]? =some a)(e:S[kC]? =some (.list (ps.map λp=>.tup [.int p.1,.int p.2])))(Bj:ps.length<64)
  (q:∀pM:List (Int×Int),pM.Perm ps->dM S Q (.list (pM.map λp=>.tup [.int p.1,.int p.2]))) :
  TR G c (call (.builtin "sorted") [.ref a]) ρ l S s Q:=by
 intro QQ E R K;refine ak (R.list ha e) λvs hl hv=>?_;have hn:vs.length=ps.length:=(L2.len hv).trans (aK _);by_cases h2:vs.length<2
 ·exact xk hl hv h2 (q ps (.refl _)) QQ E R K
 ·refine Bh (lt:=r7 ps) (ord:=False) (κ:=tuples' (Value.type "int" != Value.type "tuple")) (λh=>h.elim) hl hv (ja h2) (a6 (bL hn) Bj) (λA Q' E' s' tk q'=>?_) (λA s' i j C tk hi hj hC=>?_) (λp P A=>?_) QQ E R K
  ·refine E4 (T:=.type "int") (λd=>match d with | .tup [x,y]=>(x,y) | _=>(.none,.none)) (hv.mono (bV _) tk) (yx (mS (ja h2))) (λd hd=>?_) (λd hd u V h'=>?_) rfl q'
   ·refine ak (bH.mp hd) λr z wQ=>?_;obtain rfl:=wQ;rfl
   ·refine ak (bH.mp hd) λr z kA=>?_;obtain rfl:=kA;obtain⟨t,rfl⟩:=V;exact Ot
  ·refine mE (Bl (hv.mono (bV _) tk) (E6 (rows:=ps) (i:=i) (aJ hi (bL hn)))) λb n u v e1 ho U V=>?_;refine mE (Bl (hv.mono (bV _) tk) (E6 (rows:=ps) (i:=j) (aJ hj (bL hn)))) λb' n' u' v' XZ jM U' V'=>?_;obtain⟨t1,rfl⟩:=U;obtain⟨t2,rfl⟩:=V;obtain⟨t3,rfl⟩:=U';obtain⟨t4,rfl⟩:=V';unfold kas_ask;rw[e1,XZ];refine kat_lt ho rfl jM rfl ?_;refine kat_cons (CX ?_);by_cases hs:(ps.getD i (0,0)).1=(ps.getD j (0,0)).1
   ·rw[oJ.mpr hs];refine kat_yes (kat_cons (CX ?_));by_cases Kw:(ps.getD i (0,0)).2=(ps.getD j (0,0)).2
    ·rw[oJ.mpr Kw];refine kat_yes (kat_nil ?_);rw[show r7 ps i j=false from by simp only[r7,au hs,au Kw]]at hC;exact hC
    ·rw[CI.mpr Kw];refine kat_no (kat_one _ _ (wpAny_lt_int ?_));rw[show r7 ps i j=decide ((ps.getD i (0,0)).2<(ps.getD j (0,0)).2)from by simp only[r7,au hs,ai Kw]]at hC;exact hC
   ·rw[CI.mpr hs];refine kat_no (oneLt_int ?_);rw[show r7 ps i j=decide ((ps.getD i (0,0)).1<(ps.getD j (0,0)).1)from by simp only[r7,ai hs]]at hC;exact hC
  ·refine dY (P.Mi ps hn.symm (0,0) (λr:Int×Int=>PV.tup [.int r.1,.int r.2]) PV.none) λpM p1 p2 p3=>?_;rw[p3];exact q pM p1
end
theorem Ou:∀(vs:List Value) (ss:List Str),vs.length=ss.length->(∀(j:Nat) (v:Value),vs[j]? =some v->∃x t,ss[j]? =some x/\v=.str x t)->StrsAre vs ss
 | [],[],_,_=>.nil
 | v::vs,x::ss,hl,h=>by
  apply Wr (h 0 v rfl);intro y t h1;cases h1;exact .cons _ t (Ou vs ss (by simpa using hl) λj v hv=>h (j+1) v hv)
 | [],_::_,hl,_=>by simp at hl
 | _::_,[],hl,_=>by simp at hl
section
theorem UZ(x:StrsAre vs ss):c5 ρ h vs (ss.map PV.str):=by
 induction x with
 | nil=>exact .nil
 | cons x t _ ih=>exact .cons ⟨t,rfl⟩ ih
theorem DE{kC:Nat}(hh:c.A.handled=none)(ha:ρ[kC]? =some a)(e:S[kC]? =some (.bD es ep))(Bj:es.length<64)(q:∀ks:List Str,ks.Perm (es.map (·.1))->dM S Q (.list (ks.map .str))):TR G c (call (.builtin "sorted") [.ref a]) ρ l S s Q:=by
 intro QQ E R K;refine xE R.fr λm F=>?_;refine dY (R.aX.at_ _ _ _ ha e) λkvs gk hk lo=>?_;obtain r8:=hk.len;refine kdu_sorted (kdl_dict (knd:=PySem.strKind G.prog G.w) (kvs:=kvs) (ep:=ep) lo) hh F R.news gk (by rw[dQ];exact ag 0x5f922b0d26fa99fbefa3 Bj r8) λD h' tk vs F' N' hD hl hv=>?_;have Tr:kvs.map (·.1)=es.map (·.1):=by
  clear gk hv hl r8 e Bj q;induction hk with
  | nil=>rfl
  | cons h _ ih=>rw[eC,eC,ih,h.1]
 have hS:StrsAre vs (es.map (·.1)):=Ou vs _ (by rw[hl,<-Tr];simp) λj v hj=>by
  refine cq (hv j v hj) λk x h1 h2=>?_;rw[<- Tr,cv,h1];obtain⟨t,rfl⟩:=Value.isStrOf_shape (show Value.isStrOf k v=true from h2);exact⟨k,t,rfl,rfl⟩
 have ho:=(N' _ (.head _)).1;have fresh:=R.fresh N' hD;have gr:=R.rS F.ns F' N' λp hp=>.tail _ hp;refine iH slot_list_sort ⟨_,ho,rfl⟩ entry_list_sort (list_sort_treeK strKind_oneLt ho hS.keysOf (λagU agV rest e=>keyKind_strs (by rw[<- e];exact hS)) (az 0x3b57c51c161baecc906d2a3 Bj r8 hl) λlG hp hs=>⟨_,rfl,?_⟩) (args_list_sort _);refine dY (sorted_out_str hS hp hs) λss' h1 h2 h3=>?_;refine xE (sortedHeap_at (out:=(arrOf lG).map (·.2)) ho) λn hn=>?_;have old:∀b o,b≠D->h'.get? b=some o->(sortedHeap h' D vs ((arrOf lG).map (·.2))).get? b=some o:=λb o hb e=>by
  rw[sortedHeap_old hb (bX e)];exact e
 have zw:dK c.L s.heap (sortedHeap h' D vs ((arrOf lG).map (·.2))):=⟨λb o nb e=>old b o (by rintro rfl;exact fresh _ e) (gr.old b o nb e),λm' hm=>(gr.ns m' hm).at' λo e=>old _ o (cM (N' _ (.head _)).2.1) e⟩;exact K.new R (tk:=tk) zw fresh (.list _) ⟨_,n,by rw[Array.toArray_toList];exact hn,UZ h1⟩ (q ss' h2)
end
section
open Sem (wp)
structure Ts(o:Value)(f:Code×Pos->Bool):Prop where
 wp:∀{M:Model} {Γ:Ctx} {Q:Bool->Pos->Shared->Prop} {E:Value->Pos->Shared->Prop} {p:Pos} {s:Shared},Q (((Γ.code,p)::Γ.below).any f) p s->wp M Γ (Builtin.Bytes.exported o) Q E p s
 func:∀b e p,f (.func b e,p)=false
 call:∀v a p,f (.call v a,p)=false
 forr:∀t i b o e p,f (.forLoop t i b o e,p)=false
 tc:∀v r k p,f (.builtin "type.__call__" ⟨v::r,k⟩,p)=false
 ini:∀v r k p,f (.builtin "bytearray.__init__" ⟨v::r,k⟩,p)=false
 ext:∀v r k p,f (.builtin "bytearray.extend" ⟨v::r,k⟩,p)=false
 gx:∀p,f (.builtin "claim.caller" {},p)=false
theorem HM(h:y=false):(x&&y)=false:=by rw[h,Bool.and_false]
theorem zz(self:Value):∃f,Ts self f :=
 ⟨_,{wp:=λ{M Γ Q E p s} h=>h,func:=λz z z=>rfl,call:=λz z z=>rfl,forr:=λz z z z z z=>rfl,tc:=λv r k p=>HM (by decide +kernel),ini:=λv r k p=>HM (by decide +kernel),ext:=λv r k p=>HM (by decide +kernel),gx:=λz=>rfl}⟩
noncomputable def Tt(self:Value):Code×Pos->Bool:=Classical.choose (zz self)
theorem jD(self:Value):Ts self (Tt self):=Classical.choose_spec (zz self)
def lW(c:Code):Prop:=∀self p,Tt self (c,p)=false
def Gq(l:List (Code×Pos)):Prop:=∀x∈l,lW x.1
def cp(M:Model)(A:Around)(t:Sem α)(Q:α->Shared->Prop)(E:Value->Shared->Prop)(s:Shared):Prop :=
 ∀(Γ:Ctx) p,Γ.In A->lW Γ.code->Gq Γ.below->wp M Γ t (λa z s'=>Q a s') (λe z s'=>E e s') p s
def f7(M:Model)(A:Around)(c:Code)(R:Result->Shared->Prop)(s:Shared):Prop :=
 ∀(Γ:Ctx) p,Γ.code=c->Γ.Below A->Gq Γ.below->wpCode M Γ R p s
section
theorem o2(h:wpAny M A t Q E s):cp M A t Q E s:=fun Γ p hΓ _ _=>h Γ p hΓ
theorem E7(h:codeAny M A c R s):f7 M A c R s:=fun Γ p hc hΓ _=>h Γ p hc hΓ
theorem b5(h:Q a s):cp M A (pure a) Q E s:=λz z z z z=>h
theorem gq(h:cp M A t Q E s)(hQ:∀a s,Q a s->Q' a s)(hE:∀e s,E e s->E' e s):cp M A t Q' E' s :=
 fun Γ p hΓ h1 h2=>uD M Γ t (λa z s=>hQ a s) (λe z s=>hE e s) p s (h Γ p hΓ h1 h2)
theorem df(h:cp M A m (λa s'=>cp M A (f a) Q E s') E s):cp M A (m>>=f) Q E s:=fun Γ p hΓ h1 h2=>by
 rw[Sem.wp_bind'];exact uD M Γ m (λa p' s' h'=>h' Γ p' hΓ h1 h2) (λz z z h'=>h') p s (h Γ p hΓ h1 h2)
theorem aq(h:wpAny M A m (λa s'=>cp M A (f a) Q E s') E s):cp M A (m>>=f) Q E s:=df (o2 h)
theorem gQ(h:cp M A m Q E s):cp M A (holding vs m) Q E s:=fun Γ p hΓ h1 h2=>by rw[Sem.wp_holding];exact h Γ p hΓ h1 h2
theorem Rb(h:cp M A m Q E s):cp M A (m.keep vs) Q E s:=fun Γ p hΓ h1 h2=>by rw[Sem.wp_keep];exact h Γ p hΓ h1 h2
theorem tC(h:cp M A m Q (λe s'=>cp M A (k e) (λz A3=>E e A3) E s') s):cp M A (m.onRaise k) Q E s:=fun Γ p hΓ h1 h2=>by
 rw[Sem.wp_onRaise];exact uD M Γ m (λz z z h'=>h') (λe p' s' h'=>h' Γ p' hΓ h1 h2) p s (h Γ p hΓ h1 h2)
theorem Bn{Γ:Ctx}(h1:lW Γ.code)(h2:Gq Γ.below):Gq (Γ.enter c hd p).below:=λx hx=>by
 obtain hx:x∈(Γ.code,p)::Γ.below:=hx;rcases bK.mp hx with rfl | hx
 ·exact h1
 ·exact h2 x hx
theorem HO(hc:f7 M A c (j7 Q E) s):cp M A (runValue c) Q E s:=fun Γ p hΓ h1 h2=>by
 rw[Sem.wp_runValue];exact wpCode_mono (λr s' z=>by rcases r with e | (v | _ | _ | _)<;>exact z) (hc _ p rfl (hΓ.enter c none p (by intro x;cases x)) (Bn h1 h2))
theorem kD(hc:f7 M A (.call f ⟨pos,kw⟩) (j7 Q E) s):cp M A (call f pos kw) Q E s:=HO hc
theorem Bo(h:f7 M A c R s)(hR:∀r s,R r s->R' r s):f7 M A c R' s:=fun Γ p hc hΓ h2=>wpCode_mono hR (h Γ p hc hΓ h2)
def X0(M:Model)(A:Around)(R:Result->Shared->Prop)(dz:Fin)(s':Shared):Prop:=match dz with
 | .done f=>R (.ok f) s'
 | .again c'=>c'.quiet=true/\f7 M A c' R s'
theorem gu(hk:lW c)(h:cp M (A.under c) (M.den c) (X0 M A R) (λe s'=>R (.error e) s') s):f7 M A c R s:=fun Γ p hc hΓ h2=>by
 rw[wpCode_iff_wp,hc];refine uD M Γ _ (λdz p' s' h'=>?_) (λz z z h'=>h') p s (h Γ p (hc▸hΓ.in) (hc▸hk) h2);cases dz with
 | done f=>exact h'
 | again c'=>exact⟨h'.1,h'.2 (Γ.goto c') p' rfl (hΓ.goto c') h2⟩
theorem mh{id:String}(hb:entryFor table id=some b)(hk:lW (.builtin id args))
  (h:cp (model prog w) (A.under (.builtin id args)) (b args) (X0 (model prog w) A R) (λe s'=>R (.error e) s') s):f7 (model prog w) A (.builtin id args) R s:=by
 refine gu hk ?_;show cp _ _ (match entryFor table id with | some b=>b args | none=>unsupported ((withoutEnding? id "#data").getD id)) _ _ s
 rw[hb];exact h
theorem xm(h:Q false s):cp M A (Builtin.Bytes.exported self) Q E s:=fun Γ p hΓ h1 h2=>by
 refine(jD self).wp ?_
 rewrite[List.any_eq_false.mpr λx hx=>?_]
 ·exact h
 ·obtain⟨c,q⟩:=x;rw[C9];rcases bK.mp hx with e | hx
  ·cases e;exact h1 self _
  ·exact h2 _ hx self _
end
theorem U0(b:List Stmt)(e:Env):lW (.func b e):=λself p=>(jD self).func b e p
theorem yX(v:Value)(a:Args):lW (.call v a):=λself p=>(jD self).call v a p
section
theorem kE{id:String}(hq:(Code.builtin id args).quiet=true)
  (h:wpAny (model prog w) A.in1 (checkBuiltinCall id args) (λz aE=>f7 (model prog w) A (.builtin id args) R aE) (λe s'=>R (.error e) s') s):f7 (model prog w) A (.call (.builtin id) args) R s:=by
 refine gu (yX _ _) ?_;show cp _ A.in1 (do checkBuiltinCall id args;again (.builtin id args)) _ _ s
 exact aq (du h (λz aE h₁=>b5 (And.intro hq h₁)) λz z h'=>h')
theorem DF{T:String}{id:String}(h:Slot T name id)(hT:s.TypeIs self T)(hb:entryFor table id=some b)(hk:lW (.builtin id ⟨self::rest,[]⟩))
  (hc:cp (model prog w) A.in1 (b ⟨self::rest,[]⟩) (λdz s'=>∃v,dz=.done (.ret v)/\Q v s') E s) (ha:argsOk id ⟨self::rest,[]⟩:=by rfl):cp (model prog w) A (call (.builtin id) (self::rest)) Q E s:=by
 refine kD (kE (ry h.plain _) (h.check _ _ _ _ _ _ _ _ hT ha (mh hb hk ?_)));rw[oz h.plain _];refine gq hc (λdz s' h'=>?_) λz z h'=>h';refine ak h' λv dc hv=>?_;obtain rfl:=dc;exact hv
end
end
section
open Sem (wp)
theorem r9:Slot "bytearray" "extend" "bytearray.extend" :=
 .of (owner:="bytearray") (n:="extend") (by rw[fw,fu];kernel_rfl) (by decide +kernel) (by decide +kernel) (by decide +kernel)
  (by first | exact .inl (by decide +kernel) | exact .inr (by decide +kernel)) (by rw[oE];kernel_rfl)
theorem zk:entryFor table "bytearray.extend"=some Builtin.«bytearray.extend»:=ug (by kernel_rfl)
theorem z9(a b:Value):argsOk "bytearray.extend" ⟨[a,b],[]⟩:=by unfold argsOk;kernel_rfl
theorem U2:PlainAttrs "bytearray":=⟨⟨"bytearray.__getattribute__",by rw[fw,fu];kernel_rfl,by decide +kernel⟩,by rw[fw,fu];kernel_rfl⟩
theorem Aa:typeOf (.builtin "bytearray.extend")=pure (.type "method_descriptor"):=by show builtinType _=_;rw[builtinType_eq_fast];kernel_rfl
section
theorem Mj(h:c=true)(x:cp M A a Q E s):cp M A (if c=true then a else b) Q E s:=by rw[au h];exact x
theorem kc(h:c=false)(x:cp M A b Q E s):cp M A (if c=true then a else b) Q E s:=by rw[ai (by rw[h];exact bf)];exact x
theorem Mk(ha:s.heap.get? a=some (fV y))(hz:y.size+x.size<=100000)
  (q:∀h',Heap.SameBut a s.heap h'->h'.get? a=some (fV (y++x))->Q .none {s with heap:=h'}):cp (model prog w) A (call (.builtin "bytearray.extend") [.ref a,.bytes x t]) Q E s:=by
 refine DF r9 ⟨_,ha,rfl⟩ zk (λself p=>(jD self).ext _ _ _ p) ?_ (z9 _ _);unfold Builtin.«bytearray.extend»;refine aq (ao (a:=(Value.ref a,Value.bytes x t)) ?_);dsimp only;refine aq (jd (lQ s x t) fK ?_);have hp:∀{A':Around} {E':Value->Shared->Prop} {Q':Array UInt8->Shared->Prop},Q' y s->wpAny (model prog w) A' (Builtin.Bytes.payload (.ref a)) Q' E' s:=λh=>by
  unfold Builtin.Bytes.payload Builtin.Bytes.payload?;exact ae (ae (mZ ha (ao (ao h))))
 refine Mj rfl ?_;refine aq (mY ?_);refine aq (hp ?_);refine aq (E3 ?_);dsimp only;refine Mj rfl ?_;obtain dz:cp (model prog w) A.in1 (do Builtin.Bytes.write (.ref a) (·++x);ret Value.none) (λdz s'=>∃v,dz=.done (.ret v)/\Q v s') E s:=by
  refine aq ?_;unfold Builtin.Bytes.write updateBytearray;dsimp only;refine ae (mZ ha ?_);dsimp only;refine ae (wpAny_update ha ?_);obtain ho:(s.heap.update a (Obj.mapBytearray λz=>z++x)).get? a=some (fV (y++x)):=iD (Obj.mapBytearray λz=>z++x) ha rfl;refine CW ho ?_ (b5 ⟨_,rfl,q _ (jJ ..) ho⟩);show(if(y++x).size>sizeLine then some "bytearray:memory" else none)=none
  rw[ai (by rw[Array.size_append,dQ];exact ag 0x79843fb8d5f0c73e2c8cb8f2769 hz)]
 show cp _ _ (do
  if !x.isEmpty then Builtin.Bytes.checkResize (.ref a)
  Builtin.Bytes.write (.ref a) (·++x)
  ret Value.none) _ _ _
 cases hx:!x.isEmpty with
 | false=>exact kc rfl dz
 | true =>
  refine Mj rfl (df ?_);unfold Builtin.Bytes.checkResize;refine df (df (xm ?_));show cp _ _ (do let n<-Builtin.Bytes.exportsOf (.ref a);pure (decide (n>0))) _ _ _
  unfold Builtin.Bytes.exportsOf;refine aq (ae (mZ ha (ao ?_)));exact b5 (kc rfl (b5 dz))
theorem sd(h:cp M A x (λv aE=>cp M A (spliced rest) (λvs bq=>Q (v::vs) bq) E aE) E s):cp M A (spliced ((false,x)::rest)) Q E s:=by
 rw[spliced];refine df (gq h (λv aE h₁=>kc rfl ?_) λz z x=>x);exact aq (ao (df (gQ (gq h₁ (λvs bq cJ=>b5 cJ) λz z x=>x))))
theorem HP(hp:args.any (·.1)=false)(h:cp M A (spliced args) (λvs s'=>Q ⟨vs,[]⟩ s') E s):cp M A (evalArgs f true args []) Q E s:=by
 unfold evalArgs;cases args with
 | nil =>
  refine aq (ao ?_);refine aq (ao ?_);refine gQ ?_;refine aq (ao ?_);refine aq (ao ?_);exact fun Γ p a b c=>h Γ p a b c
 | cons a r =>
  obtain⟨b,x⟩:=a;cases b with
  | true=>cases hp
  | false =>
   show cp M A (spliced ((false,x)::r)>>=_) Q E s;refine df (gq h (λvs s' h'=>?_) λz z x=>x);refine gQ ?_;exact aq (ao (aq (ao (b5 h'))))
theorem xo{P:Heap->Prop}(hp:args.any (·.1)=false)
  (hk:∀h,P h->∃k,(k=Keeper.frame∨k=Keeper.machine∨k=Keeper.boundFrame)/\Looks M h (keeperOf f) k)
  (h:cp M A (spliced args) (λvs aE=>P aE.heap/\cp M A (call f (first++vs)) Q E aE) E s):cp M A (callWith pos f first args []) Q E s:=by
 unfold callWith;refine df (gQ (HP hp (gq h (λvs aE h₁=>aq (fR ?_)) λz z x=>x)));refine ak (hk _ h₁.1) λk og L=>?_;rw[show(args.any (·.1)||([]:List (Option Str×Sem Value)).any (·.1.isNone))=false from by rw[hp];rfl];refine aq (L.here ?_);have dz:∀{t:Sem Value},cp M A t Q E aE->cp M A (t>>=λr=>holding [r] point>>=λz=>pure r) Q E aE :=
  λht=>df (gq ht (λr bq hr=>aq (dW (wpAny_point (b5 hr)))) λz z x=>x)
 have Ov (mk:Value):cp M A (callMarked mk f (first++vs) []) Q E aE:=by unfold callMarked;exact Rb h₁.2
 rcases og with rfl | rfl | rfl
 ·dsimp only;by_cases hz:args.length+2*([]:List (Option Str×Sem Value)).length>30
  ·rw[au hz];exact dz h₁.2
  ·rw[ai hz];exact dz (Ov _)
 ·exact dz h₁.2
 ·dsimp only;by_cases hz:args.length+2*([]:List (Option Str×Sem Value)).length>30
  ·rw[au hz];exact dz h₁.2
  ·rw[ai hz];exact dz (Ov _)
end
end
section
open Sem (wp)
theorem HQ:mroOf (.type "bytearray")=pure [.type "bytearray",.type "object"]:=by rw[mroOf_type];kernel_rfl
theorem Bp:typeLookup (.type "bytearray") "__new__"=pure (some (.builtin "bytearray.__new__")):=by rw[fw,fu];kernel_rfl
theorem DG:Slot "bytearray" "__init__" "bytearray.__init__" :=
 .of (owner:="bytearray") (n:="__init__") (by rw[fw,fu];kernel_rfl) (by decide +kernel) (by decide +kernel) (by decide +kernel)
  (by first | exact .inl (by decide +kernel) | exact .inr (by decide +kernel)) (by rw[oE];kernel_rfl)
theorem tD:TypeCalled "bytearray" "bytearray.__new__" "bytearray.__init__" :=
 ⟨by decide +kernel,by decide +kernel,⟨_,_,HQ⟩,madeBy_type HQ Bp (by decide +kernel),by decide +kernel,HG,DG⟩
theorem FA:checkTypeCall "bytearray" ⟨[],[]⟩=pure ():=by kernel_rfl
theorem HR:checkBuiltinCall "bytearray.__new__" ⟨[.type "bytearray"],[]⟩=pure ():=by kernel_rfl
theorem DH:entryFor table "bytearray.__new__"=some Builtin.«list.__new__»:=entryFor_alias (id':="list.__new__") (by kernel_rfl) rfl (by decide +kernel) (by kernel_rfl)
theorem Bq:entryFor table "bytearray.__init__"=some Builtin.«bytearray.__init__»:=ug (by kernel_rfl)
theorem DI(a:Value):argsOk "bytearray.__init__" ⟨[a],[]⟩:=by unfold argsOk;kernel_rfl
set_option maxHeartbeats 4000000 in
theorem DJ:("bytearray.__new__".splitOn ".__new__").headD ""="bytearray":=by simp +decide [String.splitOn,String.splitOnAux]
section
variable {prog:Program} {w:World} {A:Around} {E:Value->Shared->Prop} {s:Shared}
theorem FD(h:Q₁ (.ref s.heap.objs.size) {s with heap:=s.heap.push (fV #[])}) :
  codeAny (model prog w) A (.call (.builtin "bytearray.__new__") ⟨[.type "bytearray"],[]⟩) (wants Q₁ E) s:=by
 refine um ?_;show wpAny _ A.in1 (do checkBuiltinCall "bytearray.__new__" ⟨[.type "bytearray"],[]⟩;again (.builtin "bytearray.__new__" ⟨[.type "bytearray"],[]⟩)) _ _ s
 refine ae (cc HR (ao ⟨ry tD.plain _,codeAny_builtin_stack DH rfl λp st=>?_⟩));rw[oz tD.plain _];have j0:=HG;obtain⟨hp,g,d,tk,os⟩:=s;dsimp only
 rewrite[DJ]
 wp_walk
 exact h
theorem Ow{Q:Value->Shared->Prop}(ha:s.heap.get? a=some (fV #[]))(q:∀h',Heap.SameBut a s.heap h'->h'.get? a=some (fV #[])->Q .none {s with heap:=h'}) :
  cp (model prog w) A (Builtin.«bytearray.__init__» ⟨[.ref a],[]⟩) (λdz s'=>∃v,dz=.done (.ret v)/\Q v s') E s:=by
 have hT:s.TypeIs (.ref a) "bytearray":=⟨_,ha,rfl⟩;unfold Builtin.«bytearray.__init__»;unfold Builtin.Bytes.ownRelease;refine aq (ae (z5 hT sX (by decide +kernel) (by decide +kernel) (ao ?_)));refine kc rfl ?_;refine aq (cc (a:=[none,none,none]) (by kernel_rfl) ?_);dsimp only;refine aq (cc (a:=()) rfl ?_);refine aq (cc (a:=()) rfl ?_);refine df (df (xm ?_));show cp _ _ (do let n<-Builtin.Bytes.exportsOf (.ref a);pure (decide (n>0))) _ _ _
 unfold Builtin.Bytes.exportsOf;refine aq (ae (mZ ha (ao ?_)));refine b5 (kc rfl ?_);unfold Builtin.Bytes.write updateBytearray;dsimp only;refine aq (ae (mZ ha ?_));dsimp only;refine ae (wpAny_update ha ?_);have ho:(s.heap.update a (Obj.mapBytearray λz=>#[])).get? a=some (fV #[]):=iD (Obj.mapBytearray λz=>#[]) ha rfl;refine CW ho ?_ ?_
 ·show(if(#[]:Array UInt8).size>sizeLine then some "bytearray:memory" else none)=none
  rw[ai (by rw[dQ];decide)]
 ·exact b5 ⟨_,rfl,q _ (jJ ..) ho⟩
theorem Ox{T Tu Br:String}(ft:TypeCalled T Tu Br)(hct:checkTypeCall T ⟨args,[]⟩=pure ())(X7:entryFor table Br=some Bi)
  (okT:lW (.builtin "type.__call__" ⟨.type T::args,[]⟩)) (okI:∀obj,lW (.builtin Br ⟨obj::args,[]⟩))
  (acK:codeAny (model prog w) A.in1 (.call (.builtin Tu) ⟨.type T::args,[]⟩) (wants Q₁ E) s)
  (Z7:∀obj aE,Q₁ obj aE->aE.TypeIs obj T/\argsOk Br ⟨obj::args,[]⟩/\cp (model prog w) A.in1.in1 (Bi ⟨obj::args,[]⟩) (λdz s'=>∃v,dz=.done (.ret v)/\v=.none/\Q obj s') E aE) :
  cp (model prog w) A (call (.type T) args) Q E s:=by
 refine uG ft.mro λc tl Ml=>?_;refine kD (gu (yX _ _) ?_);show cp _ _ (callAny (.type T) _) _ _ _;refine b5 ⟨ua _ (by decide +kernel),mh F.entry_type_call okT ?_⟩;rw[Around.under_plain (weight_type_call_type T args []) rfl];unfold Builtin.«type.__call__»;refine kc ft.notType ?_;refine kc ft.canCreate ?_;refine aq (cc hct ?_);refine aq (cc Ml ?_);refine kc rfl ?_;refine aq (cc ft.made ?_);refine aq (ao ?_);refine aq (dW (oI (kX acK λr aE hr=>?_)));cases r with
 | error e=>exact hr
 | ok fl =>
 cases fl with
 | next=>exact False.elim hr
 | brk=>exact False.elim hr
 | cont=>exact False.elim hr
 | ret obj =>
 refine jL (Z7 _ _ hr) λhT cD hsi=>?_;refine aq (rq hT ft.sub ?_);refine kc rfl ?_;refine df (gQ ?_);unfold callSpecial?;refine aq (jd hT ft.init.lookup ?_);refine gQ ?_;refine aq (cc (ft.init.bind obj) ?_);refine df (kD (kE (ry ft.init.plain _) (ft.init.check _ _ _ _ _ _ _ _ hT cD (mh X7 (okI obj) ?_))));rw[oz ft.init.plain _];refine gq hsi (λdz s' h=>?_) λz z h=>h;refine dY h λv dc dn q=>?_;obtain rfl:=dc;obtain rfl:=dn;refine b5 ?_;exact kc rfl (b5 q)
end
end
theorem Rd{xs:Array Nat}(up:xs.toList.Pairwise (·<·)):∀(f lo hi:Nat),lo<=hi->hi<=xs.size->hi-lo<=f->(∀x∈xs.toList.take lo,x<j)->(∀x∈xs.toList.drop hi,j<=x) ->
  (∀x∈xs.toList.take (SetTable.below.go xs j f lo hi),x<j)/\∀x∈xs.toList.drop (SetTable.below.go xs j f lo hi),j<=x:=by
 intro f;induction f with
 | zero =>
  intro lo hi h1 h2 h3 a b;obtain rfl:lo=hi:=by exact bu (ag 11262715101 h1) (az 0x30df34493edf3b33 h3 cP)
  exact⟨a,b⟩
 | succ f ih =>
  intro lo hi h1 h2 h3 a b;rw[show SetTable.below.go xs j (f+1) lo hi=if lo<hi then if xs.getD ((lo+hi)/2) j<j then SetTable.below.go xs j f ((lo+hi)/2+1) hi else SetTable.below.go xs j f lo ((lo+hi)/2)else lo from rfl]
  by_cases h:lo<hi
  ·rw[au h];have hm:(lo+hi)/2<xs.toList.length:=by rw[dP];exact bO 0x343505042106eeab1ba1a7e0cad7d88bd h2 h (cI _ _)
   have hg:xs.getD ((lo+hi)/2) j=xs.toList[(lo+hi)/2]:=by
    rw[dP]at hm;simp[Array.getD,hm]
   obtain ux:=lP.mp up;by_cases q:xs.getD ((lo+hi)/2) j<j
   ·rw[au q];refine ih _ _ (az 0x1b5f1e421f9571a203edcd53c9621 h (cI _ _)) h2 (uH 0x101669f6ef3db575f6bef5f08e529226d03d5eb6f02a5f292e8b1b91 h3 (dU _ (by decide)) cP (ba (az 0x1b5f1e421f9571a203edcd53c9621 h (cI _ _)))) (λx hx=>?_) b;obtain⟨i,iu,rfl⟩:=yg.mp hx;rw[hg]at q;by_cases e:i=(lo+hi)/2
    ·subst e;exact q
    ·exact uA (ux i _ (aJ iu (rt _ _)) hm (fv (iF (aJ iu (iI _ _))) e)) q
   ·rw[ai q];refine ih _ _ (az 0x1b5f1e4323b01730befeab2eacec1 h (dU _ (by decide))) (bO 0x3435046daa6d9df60e18b3cdb693588bd h2 h (cI _ _)) (uH 0x46c0f9da8335c368ff02e913e8aa97d7a46b1b8f31b3111 h3 (cI _ _) cP (ba (az 0x1b5f1e4323b01730befeab2eacec1 h (dU _ (by decide))))) a (λx hx=>?_);obtain⟨i,iu,rfl⟩:=yh.mp hx;rw[hg]at q;by_cases e:i=0
    ·subst e;exact ja q
    ·exact cZ (a6 (ja q) (ux _ _ hm _ (Cr (Nat.pos_of_ne_zero e))))
  ·rw[ai h];obtain rfl:lo=hi:=by exact bu (ag 11262715101 h1) (ag 11256600101 h)
   exact⟨a,b⟩
theorem Ab{xs:Array Nat}(up:xs.toList.Pairwise (·<·)):(∀x∈xs.toList.take (SetTable.below xs j),x<j)/\∀x∈xs.toList.drop (SetTable.below xs j),j<=x :=
 Rd up xs.size 0 xs.size (bM _) (aB _) (ag 11262715101 (cV _ _)) (λx hx=>nomatch (show x∈([]:List Nat)from hx)) (λx hx=>by rw[List.drop_eq_nil_of_le (by rw[dP];exact aB _)]at hx;cases hx)
theorem Oy{xs:Array Nat}(up:xs.toList.Pairwise (·<·))(h:j∈xs.toList):xs[SetTable.below xs j]? =some j:=by
 refine xA (Ab (j:=j) up) λh1 h2=>?_;rw[<- kj (SetTable.below xs j) xs.toList]at h up;have hd:j∈xs.toList.drop (SetTable.below xs j):=(dt.mp h).elim (λq=>absurd (h1 j q) (jg _)) id;rw[<- yk];cases q:xs.toList.drop (SetTable.below xs j)with
 | nil=>rw[q]at hd;cases hd
 | cons y r =>
  have hy:xs.toList[SetTable.below xs j]? =some y:=by
   obtain this:(xs.toList.drop (SetTable.below xs j))[0]? =some y:=by rw[q];rfl
   rwa [CQ,Nat.add_zero]at this
  rw[hy];rw[q]at hd h2;obtain up2:=(CE.mp up).2.1;rw[q]at up2;rcases bK.mp hd with rfl | hd
  ·rfl
  ·exact absurd ((yr.mp up2).1 j hd) (oK.mpr (h2 y (.head _)))
theorem Oz{xs:Array Nat}(up:xs.toList.Pairwise (·<·))(h:j∉xs.toList):(SetTable.insertAt xs (SetTable.below xs j) j).toList.Pairwise (·<·):=by
 refine xA (Ab (j:=j) up) λh1 h2=>?_;rw[Co];have up':=up;rw[<- kj (SetTable.below xs j) xs.toList]at up';refine jL (CE.mp up') λu1 u2 u3=>?_;refine CE.mpr ⟨u1,yr.mpr ⟨λx hx=>fv (h2 x hx) λq=>h (q▸List.mem_of_mem_drop hx),u2⟩,λx hx y hy=>?_⟩;rcases bK.mp hy with rfl | hy
 ·exact h1 x hx
 ·exact u3 x hx y hy
noncomputable def sf(mask:Nat):Nat->Nat×Nat->Nat×Nat
 | 0,x=>x
 | k+1,x=>sf mask k (SetTable.leap mask x.1 x.2)
theorem Kx(mask:Nat):∀(a b:Nat) (x:Nat×Nat),sf mask (a+b) x=sf mask b (sf mask a x)
 | 0,b,x=>by rw[fS];rfl
 | a+1,b,x=>by
  rw[show a+1+b=(a+b)+1 from by exact ag 0x4b056a85abfb2f87a320ba7];exact Kx mask a b _
theorem acL:∀i<8,∀t<8,∃k<32,(sf 7 k (i,0)).1=t:=by decide +kernel
theorem Z8:∀i<32,∀t<32,∃k<32,(sf 31 k (i,0)).1=t:=by decide +kernel
theorem Ky{mask:Nat}(hm:mask=7∨mask=31){i p t:Nat}(hp:p<1048576)(ht:t<=mask):∃k<36,(sf mask k (i,p)).1=t:=by
 have h4:(sf mask 4 (i,p)).2=0:=by
  show p/32/32/32/32=0;exact bu (gd 0xf9ffb206ea655db1c9bd842acf4f2935ff642bd68dd84a2062bd083f72a009c8b8cd5f47bbd4103 hp (cI _ _) (cI _ _) (cI _ _) (cI _ _)) (ah 90075)
 obtain h5:(sf mask 4 (i,p)).1<mask+1:=ea _ (Nat.succ_pos _);obtain⟨k,hk,e⟩:∃k<32,(sf mask k ((sf mask 4 (i,p)).1,0)).1=t:=by
  rcases hm with rfl | rfl
  ·exact acL _ h5 t (ah 29445323333751 ht)
  ·exact Z8 _ h5 t (ah 73382422415948751 ht)
 refine⟨4+k,ah 0x1f2514553e046c9f767 hk,?_⟩;rw[Kx,<-e,<-h4]
noncomputable def zv(mask:Nat)(x:Nat×Nat):SetTable.Probe:={j:=x.1,more:=SetTable.runEnd mask x.1-x.1,i:=x.1,perturb:=x.2,dummy:=none}
noncomputable def wi(t:SetTable):Nat->SetTable.Probe->SetTable.Probe
 | 0,p=>p
 | n+1,p=>wi t n (t.advance p)
theorem Kz(t:SetTable):∀(a b:Nat) (p:SetTable.Probe),wi t (a+b) p=wi t b (wi t a p)
 | 0,b,p=>by rw[fS];rfl
 | a+1,b,p=>by
  rw[show a+1+b=(a+b)+1 from by exact ag 0x4b056a85abfb2f87a320ba7];exact Kz t a b _
theorem KA(t:SetTable):∀(m j i q:Nat),wi t (m+1) {j:=j,more:=m,i:=i,perturb:=q,dummy:=none}=zv t.mask (SetTable.leap t.mask i q)
 | 0,j,i,q=>by
  show wi t 0 (t.advance _)=_;unfold SetTable.advance;rfl
 | m+1,j,i,q=>by
  show wi t (m+1) (t.advance _)=_;unfold SetTable.advance;rw[au (Nat.succ_pos m)];exact KA t m (j+1) i q
theorem KC(t:SetTable){B:Nat}(hB:∀i,SetTable.runEnd t.mask i-i+1<=B):∀(k:Nat) (x:Nat×Nat),∃n≤B*k,wi t n (zv t.mask x)=zv t.mask (sf t.mask k x)
 | 0,x=>⟨0,aB _,rfl⟩
 | k+1,x=>by
  refine ak (KC t hB k (SetTable.leap t.mask x.1 x.2)) λn' nj e'=>?_;refine⟨SetTable.runEnd t.mask x.1-x.1+1+n',?_,?_⟩
  ·obtain this:=hB x.1;rw[Nat.mul_succ];exact bO 0x6d7b613bb3302b9b4a19a67297d nj this
  ·rw[Kz];unfold zv;rw[KA,e'];rfl
theorem OB{t:SetTable}(hd:t.dummies=#[]):t.slot j≠.dummy:=λq=>by
 obtain q:(if(t.place[SetTable.below t.place j]? ==some j)=true then SetTable.Slot.live _ else if SetTable.has t.dummies j=true then .dummy else .empty)=.dummy:=q
 rw[hd,show SetTable.has #[] j=false from rfl]at q;by_cases c:(t.place[SetTable.below t.place j]? ==some j)=true
 ·rw[au c]at q;cases q
 ·rw[ai c]at q;cases q
theorem HS{t:SetTable}(hp:p.dummy=none):(t.advance p).dummy=none:=by
 unfold SetTable.advance;by_cases c:p.more>0
 ·rw[au c];exact hp
 ·rw[ai c];exact hp
theorem acM:SetTable.probe.go t hs h (f+1) p=match t.slot p.j with
 | .empty=>some (.empty p.j p.dummy)
 | .dummy=>SetTable.probe.go t hs h f (t.advance {p with dummy:=some p.j})
 | .live i=>if hs i==h then some (.candidate p.j i (t.advance p))else SetTable.probe.go t hs h f (t.advance p):=rfl
theorem Rf{t:SetTable}(hd:t.dummies=#[])(f:Nat):∀p:SetTable.Probe,p.dummy=none->∀n<f,t.slot (wi t n p).j=.empty->∃j,SetTable.probe.go t (λz=>h+1) h f p=some (.empty j none)/\t.slot j=.empty:=by
 induction f with
 | zero=>exact λp z n hn=>absurd hn (Nat.not_lt_zero _)
 | succ f ih =>
  intro p hp n hn e;rw[acM];cases q:t.slot p.j with
  | empty=>exact⟨p.j,by rw[hp],q⟩
  | dummy=>exact absurd q (OB hd)
  | live i =>
   dsimp only;rw[ai (λc=>absurd (eq_of_beq c) (Int.ne_of_gt (Int.lt_succ h)))];cases n with
   | zero=>exact nomatch q.symm.trans e
   | succ n=>exact ih (t.advance p) (HS hp) n (Nat.lt_of_succ_lt_succ hn) e
structure TI(ld:Bool)(t:SetTable)(n:Nat):Prop where
 dm:t.dummies=#[]
 led:t.led=ld
 plain:t.plain=true
 HU:t.mask=7∨t.mask=31
 room:n<=t.mask
 size:t.place.size=n
 up:t.place.toList.Pairwise (·<·)
def wj(h:Int):Prop:=0<=h/\h<1048576
theorem Bs(hh:wj h):SetTable.bits h<1048576:=by
 refine xA hh λh0 h1=>?_;unfold SetTable.bits;rw[Int.emod_eq_of_lt h0 (Int.lt_trans h1 (by decide))];exact wb 0x3be836eaa7f13287d42822f h1 (gX (j6 12896978175 h0))
theorem U3{l:List Nat}(h:l.length<=m):∃t≤m,t∉l:=by
 apply nz;intro q;obtain this:=ye (l₁:=List.range (m+1)) (l₂:=l) C4 λx hx=>by
  apply nz;intro hn;exact q ⟨x,by obtain this:=iz.mp hx;exact iF this,hn⟩
 rw[gc]at this;lia
section
variable {ld:Bool}
theorem TI.slot(T:TI ld t n){j:Nat}:t.slot j=.empty↔j∉t.place.toList:=by
 obtain hd:SetTable.has t.dummies j=false:=by rw[T.dm];rfl
 show(if t.place[SetTable.below t.place j]? ==some j then SetTable.Slot.live _ else if SetTable.has t.dummies j then .dummy else .empty)=.empty↔_
 rw[hd];constructor
 ·intro h hm;rw[Oy T.up hm]at h;simp at h
 ·intro h;rw[ai,ai bf];intro q;exact h (aH (i:=SetTable.below t.place j) (by rw[yk];exact eq_of_beq q))
theorem TI.free(T:TI ld t n){h:Int}(hh:wj h):∃j,t.freeSlot h=some (j,false)/\j∉t.place.toList:=by
 refine ak (U3 (l:=t.place.toList) (m:=t.mask) (by rw[dP,T.size];exact T.room)) λg hg hn=>?_;refine ak (Ky (i:=SetTable.bits h%(t.mask+1)) T.HU (Bs hh) hg) λk hk e=>?_;obtain hs:∃n<10*SetTable.turns t.mask,t.slot (wi t n (t.probeStart h)).j=.empty:=by
  obtain hB:∃n≤(if t.mask=7 then 1 else 10)*k,wi t n (t.probeStart h)=zv t.mask (sf t.mask k (SetTable.bits h%(t.mask+1),SetTable.bits h)):=by
   show ∃n≤_,wi t n (zv t.mask (SetTable.bits h%(t.mask+1),SetTable.bits h))=_;refine KC t (B:=if t.mask=7 then 1 else 10) (λi=>?_) k _
   unfold SetTable.runEnd;by_cases q:i+9<=t.mask
   ·rw[au q,ai (by lia)];exact ag 0x39a2c1316d57b2c49b39e31 (ba (ah 11373187551))
   ·rw[ai q];split<;>lia
  refine ak hB λn nj e'=>?_;refine⟨n,?_,?_⟩
  ·unfold SetTable.turns;rcases T.HU with q | q
   ·rw[q,au rfl]at nj;exact az 0xd70e0fa0794c3cc2ee4a44b3a999267 hk nj
   ·rw[q,ai (by decide)]at nj;exact az 0x6c93329d76814ddf9259f9b9379df56d1ff08a662bd7a30d147 hk nj q
  ·rw[e',T.slot];show(sf t.mask k _).1∉_;rw[e];exact hn
 refine ak hs λm hm e3=>?_;refine ak (Rf (h:=h) T.dm (10*SetTable.turns t.mask) (t.probeStart h) rfl m hm e3) λj e1 e2=>?_;refine⟨j,?_,T.slot.mp e2⟩;unfold SetTable.freeSlot SetTable.probe;rw[e1];rfl
theorem TI.Nz(T:TI ld t n){es:Array (Int×Value)}{h:Int}{x:Value}(hh:wj h)(hn:es.size=n)(hr:n<t.mask):∃wc t',layNew t es h x=(wc,t',false,false)/\TI ld t' (n+1)/\t'.mask=t.mask:=by
 refine ak (T.free hh) λj e hj=>?_;obtain hd:SetTable.has t.dummies j=false:=by rw[T.dm];rfl
 have hz:(SetTable.insertAt t.place (SetTable.below t.place j) j).size=n+1:=by
  rw[<- dP,Co,aW,dE,<-rz,<-aW,kj,dP,T.size]
 obtain Tv:(SetTable.insertAt es (SetTable.below t.place j) (h,x)).size=n+1:=by
  rw[<- dP,Co,aW,dE,<-rz,<-aW,kj,dP,hn]
 obtain hf:SetTable.fits (t.put j).1 (SetTable.insertAt es (SetTable.below t.place j) (h,x)).size=true:=by
  show((SetTable.insertAt t.place (SetTable.below t.place j) j).size==_&&decide ((SetTable.insertAt t.place (SetTable.below t.place j) j).size+(if SetTable.has t.dummies j then _ else t.dummies).size<=t.mask))=true
  rw[hz,Tv,hd,ai bf,T.dm];simp;exact hr
 refine⟨SetTable.insertAt es (SetTable.below t.place j) (h,x),(t.put j).1,?_,⟨?_,T.led,T.plain,T.HU,hr,hz,Oz T.up hj⟩,rfl⟩
 ·unfold layNew;rw[e];show(_,(t.put j).1.orStandIn (SetTable.insertAt es (SetTable.below t.place j) (h,x)).size,false,!(t.put j).1.fits _)=_;unfold SetTable.orStandIn;rw[hf];rfl
 ·show(if SetTable.has t.dummies j then _ else t.dummies)=_
  rw[hd,ai bf,T.dm]
end
noncomputable def wk(n:Nat)(o:Array (Option Nat)):List (Nat×Nat):=(List.range n).filterMap λj=>(o.getD j none).map (j,·)
theorem OC:∀{l:List α},(∀x∈l,f x≠none)->(l.filterMap f).length=l.length
 | [],_=>rfl
 | a::r,h=>by
  cases q:f a with
  | none=>exact absurd q (h a (.head _))
  | some y=>rw[nA q,dE,dE,OC λx hx=>h x (.tail _ hx)]
theorem HV:∀{l:List α},(∀x∈l,f x=g x)->l.filterMap f=l.filterMap g
 | [],_=>rfl
 | a::r,h=>by
  rw[CM,CM,h a (.head _),HV λx hx=>h x (.tail _ hx)]
theorem OD(hf:f j=none)(hg:g j=some y)(he:∀i,i≠j->g i=f i):∀{l:List Nat},l.Nodup->j∈l->(l.filterMap g).Perm (y::l.filterMap f)
 | [],_,h=>nomatch h
 | a::r,hn,h=>by
  refine xA (fQ.mp hn) λh1 h2=>?_;by_cases e:a=j
  ·subst e;rw[nA hg,yi hf,HV (f:=g) (g:=f) λi hi=>he i λq=>h1 (q▸hi)]
  ·obtain hm:j∈r:=(bK.mp h).elim (λq=>absurd q.symm e) id;have ih:=OD hf hg he h2 hm;cases q:f a with
   | none=>rw[yi ((he a e).trans q),yi q];exact ih
   | some z=>rw[nA ((he a e).trans q),nA q];exact(ih.cons z).trans (.swap _ _ _)
theorem DK{f:Nat->Option Nat}:∀l:List Nat,((l.filterMap λj=>(f j).map (j,·)).map (·.1)).Sublist l
 | []=>.slnil
 | a::r=>by
  cases q:f a with
  | none=>rw[yi (by rw[q];rfl)];exact(DK r).cons _
  | some z=>rw[nA (b:=(a,z)) (by rw[q];rfl)];exact(DK r).cons_cons _
theorem X8:SetTable.layClean.free mask o (f+1) i q=match (List.range (SetTable.runEnd mask i+1-i)).find? λk=>(o.getD (i+k) (some 0)).isNone with
 | some k=>some (i+k)
 | none=>SetTable.layClean.free mask o f (SetTable.leap mask i q).1 (SetTable.leap mask i q).2:=rfl
theorem KD:∀(k f i q:Nat),k<f->o.getD (sf mask k (i,q)).1 (some 0)=none->∃j,SetTable.layClean.free mask o f i q=some j/\o.getD j (some 0)=none
 | _,0,_,_,h,_=>absurd h (Nat.not_lt_zero _)
 | k,f+1,i,q,h,e=>by
  rw[X8];cases r:(List.range (SetTable.runEnd mask i+1-i)).find? λk=>(o.getD (i+k) (some 0)).isNone with
  | some k'=>exact⟨i+k',rfl,lO.mp (List.find?_some (p:=λk=>(o.getD (i+k) (some 0)).isNone) r)⟩
  | none =>
   cases k with
   | zero =>
    obtain this:=CR.mp r 0 (iz.mpr (by unfold SetTable.runEnd;split<;>lia));have e:o.getD i (some 0)=none:=e;rw[Nat.add_zero,e]at this;exact absurd rfl this
   | succ k=>exact KD k f _ _ (Nat.lt_of_succ_lt_succ h) e
structure KG(o:Array (Option Nat))(k:Nat):Prop where
 size:o.size=32
 perm:((wk 32 o).map (·.2)).Perm (List.range k)
theorem Rg{o:Array (Option Nat)}(h:o.getD j (some 0)=none):j<o.size/\o.getD j none=none:=by
 have hj:j<o.size:=by
  apply nz;intro q;simp[Array.getD,q]at h
 refine⟨hj,?_⟩;simp[Array.getD,hj]at h ⊢;exact h
theorem KG.next{o:Array (Option Nat)}{k:Nat}(O:KG o k)(hk:k<32){h:Int}(hh:wj h):∃j,SetTable.layClean.free 31 o (SetTable.turns 31) (SetTable.bits h%(31+1)) (SetTable.bits h)=some j/\KG (o.setIfInBounds j (some k)) (k+1):=by
 obtain⟨g,hg,hn⟩:∃g≤31,o.getD g (some 0)=none:=by
  apply nz;intro q;obtain hl:(wk 32 o).length=k:=by obtain this:=O.perm.length_eq;rwa [aK,gc]at this
  obtain this:(wk 32 o).length=32:=(OC λx hx e=>q ⟨x,by obtain this:=iz.mp hx;exact iF this,by
   have jn:x<o.size:=by rw[O.size];exact iz.mp hx
   obtain e:=Option.map_eq_none_iff.mp e;simp[Array.getD,jn]at e ⊢;exact e⟩).trans gc
  lia
 refine ak (Ky (i:=SetTable.bits h%(31+1)) (.inr rfl) (Bs hh) hg) λm hm e=>?_;refine ak (KD m (SetTable.turns 31) _ _ (show m<46 by exact aJ hm (by decide)) (e.symm▸hn)) λj e1 e2=>?_;refine xA (Rg e2) λj1 j2=>?_;refine⟨j,e1,by rw[Array.size_setIfInBounds];exact O.size,?_⟩;obtain hp:(wk 32 (o.setIfInBounds j (some k))).Perm ((j,k)::wk 32 o):=by
  refine OD (j:=j) (y:=(j,k)) (by rw[j2];rfl) (by simp[Array.getD,j1]) (λi hi=>?_) C4 (iz.mpr (O.size▸j1))
  congr 1
  simp only[yf,Array.getElem?_setIfInBounds_ne (cM hi)]
 refine(hp.map _).trans ?_;rw[eC,List.range_succ];exact(O.perm.cons k).trans (List.perm_append_singleton k _).symm
theorem Rh{hs:List Int}(hh:∀h∈hs,wj h):∀{o:Array (Option Nat)} {k:Nat},KG o k->k+hs.length<=32 ->
  ∃o',hs.foldl (λbA h=>do
   let(owner,k)<-bA
   let j<-SetTable.layClean.free 31 owner (SetTable.turns 31) (SetTable.bits h%(31+1)) (SetTable.bits h)
   pure (owner.setIfInBounds j (some k),k+1)) (some (o,k))=some (o',k+hs.length)/\KG o' (k+hs.length):=by
 induction hs with
 | nil=>exact λ{o k} O _=>⟨o,rfl,O⟩
 | cons h r ih =>
  intro o k O hk;rw[dE]at hk;refine ak (O.next (aJ (Cr (Nat.succ_pos r.length)) hk) (hh h (.head _))) λj e O'=>?_
  refine ak (ih (λx hx=>hh x (.tail _ hx)) O' (ag 0x157eb69cb8c040f18448c4097ab71 hk)) λo' e' O''=>?_;refine⟨o',?_,by rw[dE,show k+(r.length+1)=k+1+r.length by exact ag 0x4b056a838b59f570a692471];exact O''⟩;rw[kT,dE,show k+(r.length+1)=k+1+r.length by exact ag 0x4b056a838b59f570a692471,<-e']
  congr 1
  show(do let j<-SetTable.layClean.free 31 o (SetTable.turns 31) (SetTable.bits h%(31+1)) (SetTable.bits h);pure (o.setIfInBounds j (some k),k+1))=_
  rw[e];rfl
section
variable {ld:Bool}
theorem TI.Z9(T:TI ld t 5){es:Array (Int×Value)}(he:es.size=5)(hh:∀e∈es.toList,wj e.1):∃wc t',relayAll t es (SetTable.grown es.size)=(wc,t',false)/\TI ld t' 5/\t'.mask=31:=by
 obtain O0:KG (Array.replicate (31+1) none) 0:=⟨by simp,by decide +kernel⟩;have av:(es.map (·.1)).toList.length=5:=by rw[dP,Array.size_map,he]
 refine ak (Rh (hs:=(es.map (·.1)).toList) (λh hm=>by
  rw[Array.toList_map]at hm;obtain⟨e,h1,rfl⟩:=bH.mp hm;exact hh e h1) O0 (by rw[av];decide)) λo e1 O=>?_
 rw[av,fS]at e1 O;obtain hc:SetTable.layClean 31 (es.map (·.1))=some o:=by
  unfold SetTable.layClean;rw[<- Array.foldl_toList,e1];rfl
 obtain hl:SetTable.relaid t (es.map (·.1)) (SetTable.grown es.size)=some ({mask:=31,place:=((wk 32 o).map (·.1)).toArray,dummies:=#[],finger:=t.finger,led:=t.led,moves:=t.movedTo 31,plain:=t.plain},((wk 32 o).map (·.2)).toArray):=by
  unfold SetTable.relaid;rw[he,show SetTable.sizeAbove (SetTable.grown 5)-1=31 by decide];unfold SetTable.laid;rw[hc];rfl
 obtain qA:(wk 32 o).length=5:=by obtain this:=O.perm.length_eq;rwa [aK,gc]at this
 obtain acN:coversAll ((wk 32 o).map (·.2)).toArray es.size=true:=by
  unfold coversAll;rw[he];exact List.isPerm_iff.mpr O.perm
 obtain hz:(((wk 32 o).map (·.2)).toArray.filterMap (es[·]?)).size=5:=by
  rw[<- dP,Array.toList_filterMap,(O.perm.filterMap _).length_eq];obtain this:=filterMap_getElem?_range es;rw[he]at this;rw[this,dP,he]
 refine⟨((wk 32 o).map (·.2)).toArray.filterMap (es[·]?),{mask:=31,place:=((wk 32 o).map (·.1)).toArray,dummies:=#[],finger:=t.finger,led:=t.led,moves:=t.movedTo 31,plain:=t.plain},?_,⟨rfl,T.led,T.plain,.inr rfl,(by decide:5<=31),by simp[qA],?_⟩,rfl⟩
 ·unfold relayAll;rw[hl];dsimp only;rw[acN,au];rw[hz];simp[SetTable.fits,SetTable.fill,qA]
 ·exact(List.pairwise_lt_range (n:=32)).sublist (DK _)
end
section
open PySem.Spec
noncomputable def mL(e:Int×Value):Int:=match e.2 with | .int k _=>k | _=>0
theorem Bt(h:wj k):hashInt k=k:=by
 refine xA h λh0 h1=>?_;have e:rawHash k=k:=by
  have e1:((k.natAbs:Int)%((2^61-1:Nat):Int))=k:=by
   rw[t6 h0];exact Int.emod_eq_of_lt h0 (Int.lt_trans h1 (by decide))
  show(if((if k<0 then -((k.natAbs:Int)%((2^61-1:Nat):Int))else(k.natAbs:Int)%((2^61-1:Nat):Int))== -1)=true then -2 else if k<0 then -((k.natAbs:Int)%((2^61-1:Nat):Int))else(k.natAbs:Int)%((2^61-1:Nat):Int))=k
  rw[e1,ai (Int.not_lt.mpr h0),ai];intro q;have:=eq_of_beq q;lia
 unfold hashInt;rw[e,ai];intro q;have:=eq_of_beq q;lia
structure Mm(prog:Program)(w:World)(ld:Bool)(h:Heap)(a:Addr)(ks:List Int):Prop where
 at_:∃o es ep t,h.get? a=some o/\o.ExactSet/\o.data=.set es ep t/\ElemsOf (intKind prog w) es.toList/\(es.toList.map mL).Perm ks/\TI ld t es.size/\(t.mask=7->es.size<=4)
section
variable {ld:Bool}
theorem TI.fits(T:TI ld t n):t.fits n=true:=by
 obtain h1:=T.size;obtain h2:=T.room;obtain h3:=T.dm;simp[SetTable.fits,SetTable.fill,h1,h3,h2]
theorem HW(h:ElemsOf (intKind prog w) es):(es.findIdx? λe=>(intKind prog w).is k e.2)=none↔k∉es.map mL:=by
 rw[List.findIdx?_eq_none_iff];constructor
 ·intro q hm;refine ak (bH.mp hm) λe he dc=>?_;obtain rfl:=dc;refine xA (h e he) λdn z=>?_;obtain⟨k',og,_⟩:=dn;refine xE (yw og) λt ht=>?_;obtain this:=q e he;rw[show mL e=k' by unfold mL;rw[ht]]at this;exact bf (this.symm.trans og)
 ·intro q e he;cases hk:(intKind prog w).is k e.2 with
  | false=>rfl
  | true =>
   refine xE (yw hk) λt ht=>?_;exact absurd (bH.mpr ⟨e,he,by unfold mL;rw[ht]⟩) q
theorem U4(S:Mm prog w ld s.heap a ks)(uV:∀x∈ks,wj x)(hk:wj k)(Mn:k∈ks∨ks.length<18)
  (h:∀h' b,Heap.SameBut a s.heap h'->Mm prog w ld h' a (if k∈ks then ks else ks++[k])->Q b {s with heap:=h'}) :
  wpAny (model prog w) A (setAddHashed a (.int k Hi) (hashInt k)) Q E s:=by
 refine Jk S.at_ λo es ep t ho Tw hd qB hp T hm=>?_;obtain L0:(intKind prog w).is k (.int k Hi)=true:=uF _ _ _ _;obtain nq:(Value.int k Hi).scannable=true:=rfl;have av:es.size=ks.length:=by obtain this:=hp.length_eq;rwa [aK,dP]at this
 have hb:es.size<scanBound:=by obtain this:=T.room;obtain h1:scanBound=4096:=rfl;rcases T.HU with q | q<;>lia
 unfold setAddHashed setAddHashedIn;refine dW (ae (yu ho hd T.fits ?_));dsimp only;refine(byScan_of nq hb qB).symm▸?_;simp only[↓reduceIte];unfold setAddByScan;refine ae ?_;refine ae (mY ?_);refine ae (wpAny_setScan_of L0 ho hd T.fits qB ?_);cases hr:List.findIdx? (λe=>(intKind prog w).is k e.2) es.toList with
 | some j =>
  dsimp only;obtain jZ:k∈ks:=by
   apply nz;intro q;rw[(HW qB).mpr λhm=>q (hp.mem_iff.mp hm)]at hr;cases hr
  refine ao (ao ?_);obtain z:=h s.heap false (Heap.SameBut.refl a s.heap) (by refine(au jZ).symm▸?_;exact S);exact z
 | none =>
  dsimp only;have xp:k∉ks:=λq=>(HW qB).mp hr (hp.mem_iff.mpr q);have bz:ks.length<18:=Mn.resolve_left xp;rw[ai xp]at h;obtain acO:es.size<t.mask:=by
   rcases T.HU with q | q
   ·obtain this:=hm q;exact ag 0x5fb2811523b8a6819f87 q this
   ·exact az 0x6f869631b1f8a11ebd60a9fb3fd av bz q
  obtain yY:=layNew_perm t es (hashInt k) (.int k Hi);refine dH (T.Nz (es:=es) (h:=hashInt k) (x:=.int k Hi) ((Bt hk).symm▸hk) rfl acO) λsg t1 eL T1 X9=>?_;obtain acP:=qB.push L0 nq;rw[eL]at yY;refine eL.symm▸?_;dsimp only at yY ⊢;rw[CV]at yY;have Ri:ElemsOf (intKind prog w) sg.toList:=acP.perm yY;have Tx:(sg.toList.map mL).Perm (ks++[k]):=by
   refine(yY.map mL).trans ?_;rw[fy];exact hp.append_right _
  have wm:sg.size=es.size+1:=by rw[<- dP,yY.length_eq,aW,dP];rfl
  refine ae (ao ?_);refine T1.plain.symm▸(au rfl).symm▸(hashByValue_scannable 8 nq).symm▸?_;refine ae (ao ?_);simp only[show plainKind (Value.int k Hi)=true from rfl,if_true];refine ae (wpAny_storeSet_of ho hd ?_ (by rw[dQ];exact ag 0x239a5b9ed31532536affbb0f0f hb wm));obtain Yb:(s.heap.update a (Obj.putSet sg t1)).get? a=some {o with data:=.set sg (ep+1) t1}:=by
   obtain this:=iD (Obj.putSet sg t1) ho (by refine(putSet_of sg t1 hd).symm▸?_;rfl);rw[putSet_of sg t1 hd]at this;exact this
  obtain Yc:=jJ s.heap a (Obj.putSet sg t1);by_cases hf:t1.tooFull=true
  ·rw[au (by rw[hf];rfl)];have lX:t1.mask*3<=sg.size*5:=by
    have:=hf;unfold SetTable.tooFull SetTable.fill at this;rw[T1.dm,T1.size,<-wm]at this;simpa using this
   have h5:sg.size=5/\t1.mask=7:=by
    rcases T.HU with q | q
    ·obtain this:=hm q;rw[X9,q]at lX ⊢;exact⟨bu (ag 0x5eafb5b81a80023f7911 wm this) (ah 0x178ad2d0f812152d822cf5 lX),rfl⟩
    ·rw[X9,q]at lX;exact⟨bu (az 0x1a538c55598aed6b5f0634c04db1e427f1bc82823eea1310ff235 av bz wm lX) (ah 0x178ad2d0f812152d8241db lX),bu (bO 0x1a538ced4f2abca49567920421d4d957f89f6dcf13499b10ff235 av bz wm lX) (ag 0x22b2ebb937fef5473719bba115 X9 q)⟩
   obtain T1':TI ld t1 5:=by refine h5.1▸wm.symm▸?_;exact T1
   refine dH (T1'.Z9 h5.1 (λe he=>by
    obtain⟨⟨k',og,hh⟩,_⟩:=Ri e he;obtain⟨t',Yd⟩:=yw og;obtain pR:k'∈ks++[k]:=Tx.mem_iff.mp (bH.mpr ⟨e,he,by unfold mL;rw[Yd]⟩);obtain hs:wj k':=(dt.mp pR).elim (uV k') λq=>aV.mp q▸hk;rw[hh,show(intKind prog w).hash k'=k' from Bt hs];exact hs)) λOE t2 eR T2 KH=>?_
   obtain xq:=relayAll_perm t1 sg (SetTable.grown sg.size);rw[eR]at xq;refine eR.symm▸?_;dsimp only at xq ⊢;have Tv:OE.size=5:=by exact dP▸xq.length_eq.symm▸dP.symm▸h5.1.symm▸rfl
   refine ae (ao ?_);refine ae (wpAny_storeSet_of Yb rfl ?_ (by refine dQ.symm▸?_;exact ah 72211382823578751 Tv));obtain hg2:((s.heap.update a (Obj.putSet sg t1)).update a (Obj.putSet OE t2)).get? a=some {o with data:=.set OE (ep+1+1) t2}:=iD (Obj.putSet OE t2) Yb rfl;refine ao (ao (h _ _ (Yc.trans (jJ _ a _)) ⟨_,OE,_,t2,hg2,Tw,rfl,Ri.perm xq,(xq.map mL).trans Tx,Tv▸T2,λq=>?_⟩));rw[KH]at q;cases q
  ·rw[ai (by rw[C9]at hf;rw[hf];exact λq=>nomatch q)];refine ao (ao (h _ _ Yc ⟨_,sg,_,t1,Yb,Tw,rfl,Ri,Tx,wm▸T1,λq=>?_⟩));apply nz;intro q2;refine hf ?_;unfold SetTable.tooFull SetTable.fill;refine T1.dm.symm▸T1.size.symm▸q.symm▸?_;simp;exact ag 0xf3d72179cc835bdde01ba0d9930413947ee7d1 wm q2
end
end
section
open PySem.Spec
noncomputable def sh(w:World):Bool:=!w.params.followText "set-order"
structure xr(prog:Program)(w:World)(ld:Bool)(ns:List Int)(a:Addr)(i:Nat)(h:Heap):Prop where
 at_:∃ks,Mm prog w ld h a ks/\ks.Nodup/\∀x,x∈ks↔x∈ns.take i
section
variable {prog:Program} {w:World} {A:Around} {E:Value->Shared->Prop} {s:Shared} {ld:Bool} {a:Addr} {ns:List Int}
theorem xr.acQ{i:Nat}{h h':Heap}(S:xr prog w ld ns a i h)(k:∀o,h.get? a=some o->h'.get? a=some o):xr prog w ld ns a i h':=by
 refine ak S.at_ λks dc r2=>?_;obtain⟨o,es,ep,t,ho,r⟩:=dc;exact⟨ks,⟨o,es,ep,t,k o ho,r⟩,r2⟩
theorem Rj{R:Result->Shared->Prop}{I:Addr}{fp wr:List Addr}{G:Array GenState->Array GenState->Prop}{P:Nat->Value->Prop}{St:Nat->Shared->Prop}(W:WalksS prog w A.in1 I fp wr G ns.length P St)(hf:a∉fp)
  (hP:∀(i:Nat) (v:Value),P i v->∃t,v=Value.int (ns.getD i 0) t) (hs:∀x∈ns,wj x) (hd:ns.eraseDups.length<=18):∀(k i:Nat) (s:Shared),i+k=ns.length->St i s->xr prog w ld ns a i s.heap ->
  (∀s',Moved (a::wr) G s s'->xr prog w ld ns a ns.length s'.heap->R (.ok (.ret .none)) s')->codeAny (model prog w) A (.builtin "set.update.loop" ⟨[.ref a,.ref I],[]⟩) R s:=by
 have hw:a∉wr:=λh=>hf (W.sub _ h);intro k;induction k with
 | zero =>
  intro i s hi st S q;obtain rfl:i=ns.length:=hi;refine ru JQ ?_;rw[oz Cg _];refine ae (m:=pyNext (.ref I)) (W.done s _ _ st λs' hm=>?_);exact ao (q s' (hm.mono λb hb=>.tail _ hb) (S.acQ λo e=>hm.heap a o hw e))
 | succ k ih =>
  intro i s hi st S q;have bz:i<ns.length:=by exact az 0x323a03cc9fcab171 hi
  refine ru JQ ?_;rw[oz Cg _];refine ae (m:=pyNext (.ref I)) (W.item i s _ _ bz st λv aE hv aaa hm=>?_);obtain⟨t,rfl⟩:=hP i v hv;have hg:ns.getD i 0=ns[i]:=by simp[List.getD,bz]
  rw[hg];refine dY S.at_ λks SI nd hk=>?_;have SI':Mm prog w ld aE.heap a ks:=rO (SI.at_) λo es ep t ho r=>⟨o,es,ep,t,hm.heap a o hw ho,r⟩;refine ae (m:=holding [Value.int ns[i] t] (setAdd a (.int ns[i] t))) (dW ?_);unfold setAdd;refine dW (ae ((intKind prog w).pyHash (k:=ns[i]) (uF _ _ _ _) ?_));have jZ:∀x∈ks,x∈ns:=λx hx=>lR ((hk x).mp hx);refine U4 (s:={aE with toks:=aE.toks+1}) SI' (λx hx=>hs x (jZ x hx)) (hs _ (jb bz)) ?_ λh' b hb SI2=>?_
  ·by_cases q:ns[i]∈ks
   ·exact .inl q
   ·refine .inr (aJ ?_ hd);refine ye (l₁:=ns[i]::ks) (fQ.mpr ⟨q,nd⟩) λx hx=>jS.mpr ?_;rcases bK.mp hx with rfl | hx
    ·exact jb bz
    ·exact jZ x hx
  ·have S2:xr prog w ld ns a (i+1) h':=by
    refine⟨_,SI2,?_,λx=>?_⟩
    ·by_cases q:ns[i]∈ks
     ·rw[au q];exact nd
     ·rw[ai q];exact mT.mpr ⟨nd,fQ.mpr ⟨(λq=>nomatch q),iy⟩,λx hx y hy e=>q (aV.mp hy▸e▸hx)⟩
    ·rw[iG,c8 bz,dt,<-hk x];show _↔_∨x∈[ns[i]];by_cases q:ns[i]∈ks
     ·rw[au q];exact⟨.inl,λh=>h.elim id λh=>aV.mp h▸q⟩
     ·rw[ai q,dt]
   refine ao ⟨ry Cg _,ih (i+1) _ (az 0x8f176c12285224b0ac0edc9ed71 hi) (W.frame _ aE _ _ aaa (kZ _) λb i4 o e=>?_) S2 λbq KH S3=>?_⟩
   ·exact(hb.2 b λq=>hf (q▸i4)).trans e
   ·refine q bq (Moved.trans W.gtrans ((hm.mono λb hb=>.tail _ hb).then_heap (kZ _) λb o i4 e=>?_) KH) S3;exact(hb.2 b λq=>i4 (q▸.head _)).trans e
theorem Mo(v:Value){Q₁:Value->Shared->Prop}(h:Q₁ (.ref s.heap.objs.size) {s with heap:=s.heap.push {cls:=.type "set",dict:=none,data:=.set #[] 0 (.fresh 0 0 (sh w))}}) :
  codeAny (model prog w) A (.call (.builtin "set.__new__") ⟨[.type "set",v],[]⟩) (wants Q₁ E) s:=by
 refine um (ae (m:=checkBuiltinCall "set.__new__" ⟨[.type "set",v],[]⟩) (cc (PySem.F.newCall_set_1 v) (ao ⟨ry PySem.F.plain_set_new _,ru PySem.F.entry_set_new ?_⟩)));rw[oz PySem.F.plain_set_new _];unfold Builtin.«set.__new__» Builtin.Frozenset.newClass;have j0:=sub_set_self;obtain⟨hp,g,d,tk,os⟩:=s;dsimp only
 wp_walk
 refine yz (ao ?_);simp only[newObj];exact ae (wpAny_alloc (ao (ao h)))
set_option maxHeartbeats 3200000 in
theorem Rk{l:Addr}{items:Array Value}{Q:Value->Shared->Prop}(hh:A.handled=none)(hl:s.heap.IsList l items)(hi:∀(i:Nat) (v:Value),items[i]? =some v->∃t,v=Value.int (ns.getD i 0) t)(hn:items.size=ns.length)(hs:∀x∈ns,wj x)(hd:ns.eraseDups.length<=18)
  (h:∀h' tk,xr prog w (sh w) ns s.heap.objs.size ns.length h'->(∀b o,s.heap.get? b=some o->h'.get? b=some o)->Q (.ref s.heap.objs.size) {s with heap:=h',toks:=tk}):wpAny (model prog w) A (call (.type "set") [.ref l]) Q E s:=by
 refine uG mQ.mro λc tl Ml=>?_;have agi:=mQ.made;have j0:=mQ.sub;have h1:=mQ.notType;have h2:=mQ.canCreate;have hct:=PySem.F.typeCall_set_1 (.ref l);generalize ez:s.heap.objs.size=z at h ⊢;generalize eo:({cls:=.type "set",dict:=none,data:=.set #[] 0 (.fresh 0 0 (sh w))}:Obj)=oS;have hS:(s.heap.push oS).get? z=some oS:=ez▸dD _ (by rw[<- eo];rfl);have hc:oS.cls=.type "set":=by rw[<- eo]
 refine oI (um (ao ⟨ua _ (by decide +kernel),ru PySem.F.entry_type_call ?_⟩));rw[Around.under_plain (weight_type_call_type "set" [.ref l] []) rfl]
 repeat (any_goals (first | assumption | wp_step))
 refine kX (Mo (.ref l) (E:=E) (Q₁:=λv aE=>v=.ref z/\aE={s with heap:=s.heap.push oS}) ⟨by rw[ez],by rw[eo]⟩) λr aE hr=>?_;rcases r with e | (v | _ | _ | _)<;>first | exact hr | exact hr.elim | skip
 obtain⟨rfl,rfl⟩:=hr;have hT:Shared.TypeIs {s with heap:=s.heap.push oS} (.ref z) "set":=⟨_,hS,hc⟩;have hli:=mQ.init.lookup;have hbi:=mQ.init.bind (.ref z)
 repeat (any_goals (first | assumption | wp_step))
 refine kX (CB (R:=wants (λr bq=>r=.none/\∃h' tk,bq={s with heap:=h',toks:=tk}/\xr prog w (sh w) ns z ns.length h'/\∀b o,s.heap.get? b=some o->h'.get? b=some o) E) mQ.init.plain PySem.F.entry_set_init (check_set_init_1 hT ?_)) λr bq hr=>?_
 ·have wO:=hl;refine Gg hl λdn pP xi nl Kg=>?_;obtain⟨agW,aab,agj,Ye⟩:=dn;simp only at xi Kg;subst xi;subst Kg;have acR:(s.heap.push oS).get? l=some {cls:=.type "list",dict:=aab,data:=.seq items nl,slots:=Ye}:=cg _ pP;have agX:=PySem.F.sub_list_set;have agY:=PySem.F.sub_list_frozenset;have ei:(Value.type "list"==Value.type "dict")=false:=by decide
  have hl1:(s.heap.push oS).IsList l items:=⟨_,acR,rfl,nl,rfl⟩;have hlz:l<z:=ez▸bX pP;have wm:(s.heap.push oS).objs.size=z+1:=by rw[jf,ez]
  subst eo;unfold Builtin.«set.__init__» noKeywords Builtin.Frozenset.updateFrom;generalize hPI:pyIter=PI
  wp_walk
  subst hPI;refine CT hl1 (ae (wpAny_runValue ?_));have hh3:A.in1.in1.in1.handled=none:=hh;refine Rj (ns:=ns) (a:=z) (hn▸(Walks.list hh3 _ l (by rw[wm];exact cU (iE hlz)) items).toS) (by rw[wm];simp;exact jh hlz) hi hs hd ns.length 0 _ (fS _) ⟨⟨_,dD _ rfl,rfl,rfl⟩,hl1.push _⟩ ⟨[],⟨_,#[],0,.fresh 0 0 (sh w),cg _ hS,⟨rfl,rfl,rfl⟩,rfl,(λe he=>nomatch he),.nil,⟨rfl,rfl,rfl,.inl rfl,bM _,rfl,.nil⟩,λy=>bM _⟩,.nil,λx=>Iff.rfl⟩ λs' hm S=>?_;obtain⟨h',g',d',tk',os'⟩:=s';obtain rfl:g'=s.gens:=hm.gens;obtain rfl:d'=s.drawn:=hm.drawn;obtain rfl:os'=s.os:=hm.os;refine ao (ao ⟨rfl,h',tk',rfl,S,λb o e=>?_⟩);have hb:=bX e;rw[ez]at hb;exact hm.heap b o (by rw[wm];simp;lia) (cg _ (cg _ e))
 ·rcases r with e | (v | _ | _ | _)<;>first | exact hr | exact hr.elim | skip
  refine Wm hr λdX h' tk fB S k=>?_;obtain rfl:=dX;obtain rfl:=fB
  repeat (any_goals (first | assumption | wp_step))
  exact h _ _ S k
end
end
section
open PySem.Spec
noncomputable abbrev HX(es:Array (Int×Value))(ep:Nat)(t:SetTable):Obj:={cls:=.type "set",dict:=none,data:=.set es ep t}
noncomputable abbrev Bu(a n ep sl i:Nat):Obj:={cls:=.type "set_iterator",data:=.fields #[.int sl 0,.int i 0,.ref a,.int n 0,.int ep 0]}
noncomputable def gH(w:World)(a ep:Nat)(es:Array (Int×Value)):Array (Int×Value):=if w.params.followText "set-order"=true then pickOrder (w.params.setOrder a ep) es else es
noncomputable def Tz(p:Array Nat)(i:Nat):Nat:=match i with
 | 0=>0
 | i+1=>p.getD i 0+1
noncomputable def gD(w:World)(t:SetTable)(i:Nat):Nat:=if w.params.followText "set-order"=true then 0 else Tz t.place i
theorem mi:Slot "set_iterator" "__next__" "set_iterator.__next__" :=
 .of (owner:="set_iterator") (n:="__next__") (by rw[fw,fu];kernel_rfl) (by decide +kernel) (by decide +kernel) (by decide +kernel) (by first | exact .inl (by decide +kernel) | exact .inr (by decide +kernel)) (by rw[oE];kernel_rfl)
theorem xt:Slot "set_iterator" "__iter__" "set_iterator.__iter__" :=
 .of (owner:="set_iterator") (n:="__iter__") (by rw[fw,fu];kernel_rfl) (by decide +kernel) (by decide +kernel) (by decide +kernel) (by first | exact .inl (by decide +kernel) | exact .inr (by decide +kernel)) (by rw[oE];kernel_rfl)
theorem DL:entryFor table "set_iterator.__next__"=some Builtin.«set_iterator.__next__»:=ug (by kernel_rfl)
theorem FE:entryFor table "set_iterator.__iter__"=some Builtin.«dict_keyiterator.__iter__»:=entryFor_alias (id':="dict_keyiterator.__iter__") (by kernel_rfl) rfl (by decide +kernel) (by kernel_rfl)
theorem HY:entryFor table "set.__iter__"=some Builtin.«frozenset.__iter__»:=entryFor_alias (id':="frozenset.__iter__") (by kernel_rfl) rfl (by decide +kernel) (by kernel_rfl)
theorem pU:Manifest.owners.lookup (String.ofList ['r','o','t','a','r','e','t','i','_','t','e','s'].reverse)=some Manifest.sig_set_iterator:=by kernel_rfl
theorem FF(a:Value):argsOk "set_iterator.__next__" ⟨[a],[]⟩:=by
 unfold argsOk;rw[signature?_of (id:="set_iterator.__next__") (n:=['_','_','t','x','e','n','_','_']) (o:=['r','o','t','a','r','e','t','i','_','t','e','s']) (by kernel_rfl) pU];kernel_rfl
theorem HZ(a:Value):argsOk "set_iterator.__iter__" ⟨[a],[]⟩:=by
 unfold argsOk;rw[signature?_of (id:="set_iterator.__iter__") (n:=['_','_','r','e','t','i','_','_']) (o:=['r','o','t','a','r','e','t','i','_','t','e','s']) (by kernel_rfl) pU];kernel_rfl
theorem Rl{xs:Array Nat}(up:xs.toList.Pairwise (·<·)){j i:Nat}(h1:∀x∈xs.toList.take i,x<j)(h2:∀x∈xs.toList.drop i,j<=x):(i<xs.size->SetTable.below xs j=i)/\(xs.size<=i->xs.size<=SetTable.below xs j):=by
 refine xA (Ab (j:=j) up) λg1 g2=>?_;have lo:∀k,k<xs.size->k<i->¬ SetTable.below xs j<=k:=λk hk hi q=>by
  have og:k<xs.toList.length:=by rw[dP];exact hk
  have m1:xs.toList[k]∈xs.toList.take i:=yg.mpr ⟨k,by rw[Nat.lt_min];exact⟨hi,og⟩,rfl⟩;have m2:xs.toList[k]∈xs.toList.drop (SetTable.below xs j):=yh.mpr ⟨k-SetTable.below xs j,a6 (bL (ba q)) og,by congr 1;exact bu (az 0xfa44f164482c29 (ba (ag 11262715101 q))) (az 0xfc71537677f529 cP)⟩;exact absurd (h1 _ m1) (oK.mpr (g2 _ m2))
 have hi:∀k,k<xs.size->i<=k->¬ k<SetTable.below xs j:=λk hk hi q=>by
  have og:k<xs.toList.length:=by rw[dP];exact hk
  have m1:xs.toList[k]∈xs.toList.take (SetTable.below xs j):=yg.mpr ⟨k,by rw[Nat.lt_min];exact⟨q,og⟩,rfl⟩;have m2:xs.toList[k]∈xs.toList.drop i:=yh.mpr ⟨k-i,a6 (bL (ba hi)) og,by congr 1;exact bu (az 0xfa44f164482c29 (ba (ag 11262715101 hi))) (az 0xfc71537677f529 cP)⟩;exact absurd (g1 _ m1) (oK.mpr (h2 _ m2))
 refine⟨λh=>?_,λh=>?_⟩
 ·refine bu (ja (hi i h (aB _))) ?_;apply nz;intro q;exact lo (SetTable.below xs j) (uA (ui q) h) (ui q) (aB _)
 ·apply nz;intro q;exact lo (SetTable.below xs j) (ui q) (aJ (ui q) h) (aB _)
theorem Rm{xs:Array Nat}(up:xs.toList.Pairwise (·<·)){i:Nat}(hi:i<=xs.size):(∀x∈xs.toList.take i,x<Tz xs i)/\∀x∈xs.toList.drop i,Tz xs i<=x:=by
 cases i with
 | zero=>exact⟨λx hx=>(nomatch (show x∈([]:List Nat)from hx)),λx z=>bM x⟩
 | succ i =>
  have iu:i<xs.toList.length:=by rw[dP];exact hi
  have hg:xs.getD i 0=xs.toList[i]:=by
   have:i<xs.size:=hi;simp[Array.getD,this]
  have ux:=lP.mp up;show(∀x∈_,x<xs.getD i 0+1)/\∀x∈_,xs.getD i 0+1<=x;rw[hg];refine⟨λx hx=>?_,λx hx=>?_⟩
  ·obtain⟨k,hk,rfl⟩:=yg.mp hx;refine xA (Nat.lt_min.mp hk) λTA KI=>?_;by_cases e:k=i
   ·subst e;exact oD _
   ·exact iE (ux k i KI iu (ag 11575217601 (fv (ag 0x5006c3fc1d031 TA) e)))
  ·obtain⟨k,hk,rfl⟩:=yh.mp hx;exact ux i _ iu _ (yx (cT i.succ k))
theorem KJ(next:Nat->Nat):∀(f k:Nat) (l:List α) (out:Array α),l.length=f->(pickOrder.go next f k l out).toList.Perm (out.toList++l)
 | 0,k,l,out,h=>by
  obtain rfl:=rh.mp h;rw[kU];exact .rfl
 | f+1,k,l,out,h=>by
  have hp:next k%l.length<l.length:=ea _ (ag 0x9cd46b3bbd6a2ced1 h)
  show(match l[next k%l.length]? with | some x=>pickOrder.go next f (k+1) (l.eraseIdx (next k%l.length)) (out.push x) | none=>out).toList.Perm _
  rw[c8 hp];refine(KJ next f (k+1) _ _ (by rw[List.length_eraseIdx,au hp];exact bu (az 0x12324157737d82bd42a051 h (ba (ag 0x1dcddcd61614c2ed6d1 h))) (az 0x22b9becc9af6cbc90d377456d1 h cP))).trans ?_
  rw[CV,aw];refine List.Perm.append_left _ ?_;show(l[next k%l.length]::l.eraseIdx (next k%l.length)).Perm l
  rw[List.eraseIdx_eq_take_drop_succ];refine List.perm_middle.symm.trans ?_;rw[<- List.drop_eq_getElem_cons hp,kj]
theorem Ac(w:World)(a ep:Nat)(es:Array (Int×Value)):(gH w a ep es).toList.Perm es.toList:=by
 unfold gH;split
 ·exact KJ _ es.size 0 es.toList #[] rfl
 ·exact .rfl
section
theorem DM(h:Q (w.params.followText "set-order") s):wpAny (model prog w) A setsByText Q E s:=by
 unfold setsByText;exact ae (yz (ao h))
theorem Rn(ho:s.heap.get? a=some (HX es ep t))(T:TI (sh w) t es.size)(hi:i<=es.size)(h:Q ((gH w a ep es)[i]?.map λe=>(e.2,gD w t (i+1))) s):wpAny (model prog w) A (setNext a (gD w t i) i ep) Q E s:=by
 unfold setNext;refine ae (yu ho rfl T.fits (ae (DM ?_)));have hl:(gH w a ep es).size=es.size:=by rw[<- dP,(Ac w a ep es).length_eq,dP]
 cases hb:w.params.followText "set-order" with
 | true =>
  rw[au rfl,ai (by simp)];unfold setWalk;refine ae (ae (yu ho rfl T.fits (ae (DM ?_))));rw[hb,au rfl];refine ae (yz (ao (ao ?_)));have e1:gD w t i=gD w t (i+1):=by unfold gD;rw[hb,au rfl,au rfl]
  have e2:gH w a ep es=pickOrder (w.params.setOrder a ep) es:=by unfold gH;rw[hb,au rfl]
  rw[e1];rw[e2]at h;exact h
 | false =>
  rw[ai bf];have hld:t.led=true:=by rw[T.led];unfold sh;rw[hb];rfl
  show wpAny _ _ (if(!t.plain&&decide (es.size>1))=true then _ else _) _ _ _
  rw[T.plain,ai (by simp)];refine ae ?_;show wpAny _ _ (if(!t.led&&!es.isEmpty)=true then _ else _) _ _ _
  rw[hld,ai (by simp)];refine ao ?_;have e2:gH w a ep es=es:=by unfold gH;rw[hb,ai bf]
  rw[e2]at h;have e1:gD w t i=Tz t.place i:=by unfold gD;rw[hb,ai bf]
  have e3:gD w t (i+1)=t.place.getD i 0+1:=by unfold gD;rw[hb,ai bf];rfl
  refine xA (Rm T.up (i:=i) (by rw[T.size];exact hi)) λp1 p2=>?_;refine xA (Rl T.up p1 p2) λb1 b2=>?_;rw[T.size]at b1 b2;rw[e1];by_cases q:i<es.size
  ·dsimp only;rw[b1 q,rg q,rg (by rw[T.size];exact q)];rw[rg q,e3]at h;have hg:t.place.getD i 0=t.place[i]'(by rw[T.size];exact q):=by simp[Array.getD,T.size,q]
   rw[hg]at h;exact ao h
  ·dsimp only;have hq:es.size<=i:=ja q;rw[rj (b2 hq)];rw[rj hq]at h;exact ao h
end
end
section
open PySem.Spec
section
theorem H5(hh:A.handled=none)(hI:s.heap.get? I=some (Bu a es.size ep (gD w t i) i))(ho:s.heap.get? a=some (HX es ep t))(T:TI (sh w) t es.size)(hi:i<=es.size)
  (h1:∀e h',(gH w a ep es)[i]? =some e->h'.get? I=some (Bu a es.size ep (gD w t (i+1)) (i+1))->Heap.SameBut I s.heap h'->Q (some e.2) {s with heap:=h'})
  (h2:(gH w a ep es)[i]? =none->∀h',Heap.ExtBut I s.heap h'->Q none {s with heap:=h'}):wpAny (model prog w) A (pyNext (.ref I)) Q E s:=by
 obtain hT:s.TypeIs (.ref I) "set_iterator":=⟨_,hI,rfl⟩;unfold pyNext;refine ae (rx (pE (name:=Str.ofString "__next__") hT mi (iH mi hT DL ?_ (FF _))));refine ae (m:=slotArgs "__next__" 0 _) (ao ?_);refine ae (wpAny_fieldsOf hI rfl ?_);show wpAny _ _ (setEntries a>>=_) _ _ s;refine ae (wpAny_setEntries_of ho rfl T.fits ?_);rw[ai (by simp)];refine ae (m:=setNext a (gD w t i) i ep) (Rn ho T hi ?_);cases hx:(gH w a ep es)[i]? with
 | some e =>
  refine ae (gV hI rfl (by decide:0<5) ?_);obtain hI1:=iD (Obj.mapFields (·.setIfInBounds 0 (rawInt (gD w t (i+1))))) hI rfl;refine ae (gV hI1 rfl (by decide:1<5) ?_);obtain hI2:=iD (Obj.mapFields (·.setIfInBounds 1 (rawInt ((i:Int)+1)))) hI1 rfl;exact ao ⟨_,rfl,ao (h1 e _ hx hI2 ((jJ ..).trans (jJ ..)))⟩
 | none =>
  refine ae (gV hI rfl (by decide:2<5) ?_);refine ae (m:=newExc (.type "StopIteration") []) ?_;unfold newExc newTuple;dsimp only;refine ae (kR ?_ (by size_fits));refine ae (m:=firstArgMember _ _) (cc (a:=Value.none) (by first | rfl | (simp only[firstArgMember];rfl)) ?_)
  refine kR ?_ (by size_fits);unfold raiseNew;dsimp only;refine ae (wpAny_handled ?_);rw[show A.in1.handled=none from hh];refine ae (ao (wpAny_throw ?_));refine ae (rq (T:="StopIteration") (b:=true) ⟨_,dD _ rfl,rfl⟩ isSubtype_stop ?_);exact ao (h2 hx _ (((jJ ..).extBut.push _).push _))
theorem DN:(gH w a ep es).size=es.size:=by rw[<- dP,(Ac w a ep es).length_eq,dP]
theorem OF(hh:A.handled=none)(ei:a≠I)(T:TI (sh w) t es.size):Walks prog w A I [I,a] [I] es.size (λi v=>∃e,(gH w a ep es)[i]? =some e/\v=e.2) (λi h=>h.get? I=some (Bu a es.size ep (gD w t i) i)/\h.get? a=some (HX es ep t)) where
 sub:=λb hb=>by simp at hb;simp[hb]
 frame:=λz z z st hk=>⟨hk I (.head _) _ st.1,hk a (.tail _ (.head _)) _ st.2⟩
 item:=λi s Q E hi st hQ=>H5 hh st.1 st.2 T (cZ hi) (λe h' he hI hs=>hQ _ h' s.toks ⟨e,he,rfl⟩ ⟨hI,hs.extBut a _ ei st.2⟩ λb o hb e=>hs.extBut b o (λh=>hb (by simp[h])) e) λhx=>by
  rw[rg (by rw[DN];exact hi)]at hx;cases hx
 done:=λs Q E st hQ=>H5 hh st.1 st.2 T (aB _) (λe h' he z z=>by
  rw[rj (by rw[DN];exact aB _)]at he;cases he) λz h' r6=>hQ h' s.toks λb o hb e=>r6 b o (λh=>hb (by simp[h])) e
 self:=λi s Q E st hQ=>by
  obtain hT:s.TypeIs (.ref I) "set_iterator":=⟨_,st.1,rfl⟩;refine wpAny_pyIter_slot hT xt (iH xt hT FE ?_ (HZ _));show wpAny _ _ (ret (.ref I)) _ _ s;exact ao ⟨_,rfl,"set_iterator",_,hT,mi.lookup,hQ⟩
theorem Ro(ho:s.heap.get? a=some (HX es ep t))(T:TI (sh w) t es.size)(h:Q (.ref s.heap.objs.size) {s with heap:=s.heap.push (Bu a es.size ep 0 0)}):wpAny (model prog w) A (pyIter (.ref a)) Q E s:=by
 obtain hT:s.TypeIs (.ref a) "set":=⟨_,ho,rfl⟩;refine wpAny_pyIter_slot hT PySem.F.slot_set_iter (iH PySem.F.slot_set_iter hT HY ?_ (PySem.F.args_set_iter_1 _));unfold Builtin.«frozenset.__iter__»;refine ae (m:=Builtin.Frozenset.slot0 "__iter__" _) (ao ?_);refine ae (m:=Builtin.Frozenset.sizeOf a) (ae (wpAny_setEntries_of ho rfl T.fits (ao ?_)));refine ae (m:=setDrawn a) ?_;unfold setDrawn;refine ae (yu ho rfl T.fits (ae (DM (ao ?_))));obtain hd:(!w.params.followText "set-order"&&(!t.plain&&decide (es.size>1)))=false:=by rw[T.plain];simp
 show wpAny _ _ (if(!w.params.followText "set-order"&&(!t.plain&&decide (es.size>1)))=true then _ else _) _ _ _
 rw[hd,ai bf];refine ae (ao ?_);refine ae (wpAny_setEpoch_of ho rfl T.fits ?_);exact ae (kR (ao ⟨_,rfl,"set_iterator",_,⟨_,dD _ rfl,rfl⟩,mi.lookup,h⟩))
theorem Rp(hT:s.TypeIs (.ref a) "set")(h:Q false s):wpAny (model prog w) A (Builtin.List.listLengthHint (.ref a)) Q E s:=by
 unfold Builtin.List.listLengthHint;refine ae (jd hT PySem.F.slot_set_len.lookup ?_);generalize hid:("set.__len__":String)=id0
 wp_delta
 rw[show splitId id0=some ("set","__len__")from by subst hid;decide +kernel];subst hid;refine ae (rq (T:="set") (b:=true) hT (by rw[oE];kernel_rfl) ?_);refine wpAny_ite_split (λE1=>absurd E1 (by decide)) (λz=>?_);refine wpAny_ite_split (λz=>?_) (λE1=>absurd (by decide +kernel) E1);refine ae (wpAny_typeOf hT ?_);exact ao h
theorem U5(T:TI (sh w) t es.size):KdlSrc prog w "set" a a es.size (λi v=>∃e,(gH w a ep es)[i]? =some e/\v=e.2) (λh=>h.get? a=some (HX es ep t)) where
 type:=λz ho=>⟨_,ho,rfl⟩
 there:=λz ho=>⟨bX ho,bX ho⟩
 keep:=λz z ho hk=>hk a (.inl rfl) _ ho
 notList:=by decide
 notTuple:=by decide
 hint:=λz z z z ho hq=>Rp ⟨_,ho,rfl⟩ hq
 iter:=λz z hh ho=>⟨_,_,(λz z hq=>Ro ho T hq),OF hh (cU (bX ho)) T,⟨by
  obtain e:gD w t 0=0:=by unfold gD;split<;>rfl
  rw[e];exact dD _ rfl,cg _ ho⟩⟩
end
end
section
open PySem.Spec
theorem kd[BEq α][LawfulBEq α]:∀(n:Nat) (xs:List α),xs.length<=n->xs.eraseDups.Nodup
 | 0,xs,h=>by rw[rh.mp (Nat.le_zero.mp h)];exact iy
 | n+1,[],_=>iy
 | n+1,a::r,h=>by
  rw[List.eraseDups_cons];refine fQ.mpr ⟨λhm=>?_,kd n _ (ab (jH _ _) (Nat.le_of_succ_le_succ h))⟩;obtain this:=(eT.mp (jS.mp hm)).2;simp at this
theorem OG:∀es:List (Int×Value),(∀e∈es,∃k t,e.2=Value.int k t)->IntsAre (es.map (·.2)) (es.map mL)
 | [],_=>.nil
 | e::r,h=>by
  refine uG (h e (.head _)) λk t hk=>?_;obtain this:mL e=k:=by unfold mL;rw[hk]
  rw[eC,eC,this,hk];exact .cons k t (OG r λx hx=>h x (.tail _ hx))
section
theorem FH{kC:Nat}{ns:List Int}(hh:c.A.handled=none)(R:aG G c s.heap ρ l S)(K:fi G c s ρ Q QQ)(ha:ρ[kC]? =some a)(e:S[kC]? =some (.list (ns.map .int)))(hs:∀n∈ns,0<=n/\n<1000000)(hd:ns.eraseDups.length<=18)
  (q:∀ks:List Int,ks.Perm ns.eraseDups->dM S Q (.list (ks.map .int))):wpAny G.M c.A (call (.type "set") [.ref a]) (λv aE=>wpAny G.M c.A (call (.builtin "sorted") [v]) QQ E aE) E s:=by
 refine ak (R.list ha e) λws hl hv=>?_;have hn:ws.length=ns.length:=(L2.len hv).trans (aK _);refine Rk (ns:=ns) hh hl (λi v hi=>?_) (by rw[cu];exact hn) (λx hx=>⟨(hs x hx).1,Int.lt_trans (hs x hx).2 (by decide)⟩) hd λh' tk SS k=>?_
 ·rw[nD]at hi;obtain fq:=(bP.mp hi).1;refine ak (L2.get hv (i:=i) (b:=.int (ns.getD i 0)) (by rw[cv,c8 (hn▸fq)];simp[List.getD,hn▸fq])) λu hu V=>?_;apply zL (Option.some.inj (hi.symm.trans hu));exact V
 refine dY SS.at_ λks dc nd jZ=>?_;obtain⟨o,es,ep,t,ho,Tw,hdt,qB,hp,TT,_⟩:=dc;obtain⟨oc,od,odt,osl⟩:=o;refine jL Tw λh1 h2 h3=>?_;simp only at h1 h2 h3 hdt;subst h1 h2 h3 hdt;obtain gr0:dK c.L s.heap h':=.of k;have R2:=R.eD gr0;obtain K2:fi G c {s with heap:=h',toks:=tk} ρ Q QQ:=K.step (.eD gr0);refine xE R2.fr λm F=>?_;have hes:es.size<=18:=by rcases TT.HU with x | x<;>have:=TT.room<;>have:=hp.length_eq<;>rw[aK,dP]at this<;>have:=ye (l₂:=ns.eraseDups) nd (λx hx=>jS.mpr (lR ((jZ x).mp hx)))<;>lia
 refine kdu_sorted (s:=⟨h',_,_,tk,_⟩) (U5 TT) hh F R2.news ho (by rw[dQ];exact ab hes (by decide)) λD da tk' vs F' N' hD wO zx=>?_;obtain Yg:vs=(gH G.w s.heap.objs.size ep es).toList.map (·.2):=by
  refine List.ext_getElem? λj=>?_;rw[cv,show(gH G.w s.heap.objs.size ep es).toList[j]? =(gH G.w s.heap.objs.size ep es)[j]? from yk ..];cases hj:vs[j]? with
  | some v =>
   apply LB (zx j v hj);intro e' r6;rw[r6];rfl
  | none =>
   obtain this:=List.getElem?_eq_none_iff.mp hj;rw[rj (by rw[DN];exact az 0x98b982aec00f1ead5 wO this)];rfl
 obtain hop:=Ac G.w s.heap.objs.size ep es;have hI:IntsAre vs ((gH G.w s.heap.objs.size ep es).toList.map mL):=by
  rw[Yg];refine OG _ λe' r6=>?_;refine xA (qB e' (hop.mem_iff.mp r6)) λdX z=>?_;obtain⟨k',og,_⟩:=dX;refine xE (yw og) λt' Yd=>?_;exact⟨k',t',Yd⟩
 obtain zA:((gH G.w s.heap.objs.size ep es).toList.map mL).Perm ns.eraseDups:=(hop.map mL).trans (hp.trans ((Ci nd (kd _ ns (aB _))).mpr λx=>by rw[jZ,gv,jS]));have jM:=(N' _ (.head _)).1;obtain fresh:=R2.fresh N' hD;have gr:=R2.rS F.ns F' N' λp hp=>.tail _ hp;refine iH slot_list_sort ⟨_,jM,rfl⟩ entry_list_sort (list_sort_tree jM hI (ag 0x1f1cdcd6f1d7667e1df hes wO) λout ns' g1 g2 g3=>⟨_,rfl,?_⟩) (args_list_sort _);refine xE (sortedHeap_at (out:=out) jM) λn nj=>?_;have old:∀b o,b≠D->da.get? b=some o->(sortedHeap da D vs out).get? b=some o:=λb o hb e=>by
  rw[sortedHeap_old hb (bX e)];exact e
 obtain zw:dK c.L h' (sortedHeap da D vs out):=⟨λb o nb e=>old b o (by rintro rfl;exact fresh _ e) (gr.old b o nb e),λm' hm=>(gr.ns m' hm).at' λo e=>old _ o (cM (N' _ (.head _)).2.1) e⟩;exact K2.new R2 (tk:=tk') zw fresh (.list _) ⟨_,n,by rw[Array.toArray_toList];exact nj,Kr g1⟩ (q ns' (g2.trans zA))
end
end
noncomputable def si:BI->Str
 | .sum=>"sum" | .len=>"len" | .ord=>"ord" | .Nt=>"chr" | .all=>"all" | .bytes=>"bytes" | .Dk=>"max" | .iB=>"list" | .sorted=>"sorted" | .eW=>"sorted" | .str=>"str"
noncomputable def Bv:BM->Str
 | .append=>"append" | .pK=>"extend" | .EF=>"pop" | .count=>"count" | .join=>"join"
section
noncomputable def Gr:BI->Value
 | .sum=>.builtin "sum" | .len=>.builtin "len" | .ord=>.builtin "ord" | .Nt=>.builtin "chr" | .all=>.builtin "all" | .bytes=>.type "bytes" | .Dk=>.builtin "max" | .iB=>.type "list" | .sorted=>.builtin "sorted" | .eW=>.builtin "sorted" | .str=>.type "str"
theorem Rq(b:BI):(si b==("__debug__":Str))=false/\si b∈wW/\bootBuiltins (si b)=some (Gr b)/\((∃T,Gr b=.type T)∨∃id,Gr b=.builtin id):=by
 cases b<;>exact⟨by decide +kernel,by decide +kernel,by decide +kernel,by first | exact .inl ⟨_,rfl⟩ | exact .inr ⟨_,rfl⟩⟩
theorem aac(Y:bw G lv c)(hb:b≠.iB/\b≠.eW)(V:c5 ρ s.heap vs ds)(q:i3 S Q lv b ds):TR G c (call (Gr b) vs) ρ l S s Q:=by
 cases b with
 | Dk =>
  refine cq (AW q) λd e dc q=>?_;obtain rfl:=dc;refine ak (dg q) λa dn q=>?_;obtain rfl:=dn;refine ak (dg q) λb dX q=>?_;obtain rfl:=dX;apply yP (L2.tx V);intro v w V1 W;exact XT (Y.hn q.1) V1 W q.2
 | iB=>exact absurd rfl hb.1
 | eW=>exact absurd rfl hb.2
 | _ =>
  refine ak (rT q) λd gy q=>?_;obtain rfl:=gy;apply dq (L2.vc V);intro v V1
  first
  | exact XO V1 q
  | exact Q3 Y V1 q
  | (refine ak (dg q) λn wQ q=>?_;obtain rfl:=wQ;first | exact XR V1 q.1 q.2.1 q.2.2 | exact XS V1 q.1 q.2.1 q.2.2)
  | (obtain⟨a,rfl,ns,e,_,q⟩:=dy q;refine ak V1 λp hp kA=>?_;obtain rfl:=kA;first | exact XM hp e q | exact XN hp e q)
  | (obtain⟨a,rfl,hn,q⟩:=dy q;obtain⟨p,hp,rfl⟩:=V1;rcases q with⟨rows,e,h1,h2,q⟩ | ⟨ps,e,h1,q⟩ | ⟨es,ep,e,h1,q⟩;exact DC hp e h1 h2 q;exact Bm hp e h1 q;exact DE (Y.hn hn) hp e h1 q)
  | (cases d<;>first | exact False.elim q | (obtain⟨n,e,q⟩:=q;exact XQ V1 e q))
theorem aad(O:bh se c)(Y:bw G lv c)(hb:b≠.iB/\b≠.eW)(hk:se.names.lookup (si b)=some .globalImplicit)(hs:es.all noStar=true)(he:es≠[])
  (h:gj G c es l S λds aa=>i3 aa Q lv b ds):EV G c (.Call (.Name (si b) p) es [] pos) l S Q:=λρ s QQ E R K=>
 have F:=Rq b
 rZ O Y R F.1 hk F.2.1 F.2.2.1 F.2.2.2 hs he h λvs ds h' tk ar S' X T V q=>aac (s:=⟨h',_,_,tk,_⟩) Y hb V q QQ E (R.step T X) (K.step T)
theorem U6{T n:String}{e:Expr}(O:bh se c)(Y:bw G lv c)(R:aG G c s.heap ρ l S)(hx:(Str.ofString n==("__debug__":Str))=false)(hk:se.names.lookup (Str.ofString n)=some .globalImplicit)(hb:Str.ofString n∈wW)(hv:bootBuiltins (Str.ofString n)=some (.type T))(hs:noStar e=true)
  (h:wpAny G.M c.A (eval e c.aj) (λv aE=>wpAny G.M c.A (call (.type T) [v]) QQ E aE) E s):wpAny G.M c.A (eval (.Call (.Name (Str.ofString n) p) [e] [] pos) c.aj) QQ E s:=by
 refine Call_ (Gl O Y R hx hk hb (λq=>?_) hv ?_) rfl
 ·rw[q]at hb;revert hb;decide +kernel
 ·exact callWith_type1 (args_cons (he:=fZ hs _ _) (du h (λv aE h=>spliced_nil h) λz z x=>x)) (fZ hs _ _) rfl
theorem Mp(O:bh se c)(Y:bw G lv c)(hk:se.names.lookup ("list":Str)=some .globalImplicit)(og:se.names.lookup ("range":Str)=some .globalImplicit)(hs:es.all noStar=true)(he:es≠[])
  (h:gj G c es l S λds aa=>i3 aa Q lv .iB ds):EV G c (.Call (.Name "list" p) [.Call (.Name "range" p') es [] vy] [] pos) l S Q:=λρ s QQ E R K=>by
 refine U6 O Y R (by decide +kernel) hk (by decide +kernel) (by decide +kernel:bootBuiltins "list"=some (.type "list")) rfl ?_;refine rZ O Y R (by decide +kernel) og (by decide +kernel) A9 (.inl ⟨_,rfl⟩) hs he h λvs ds h₁ tk fa aa X T V q=>?_;refine cq (AW q) λd e wR q=>?_;obtain rfl:=wR;refine ak (dg q) λm rW q=>?_;obtain rfl:=rW;obtain⟨n,rfl,h0,h1,h2,h3,hn,q⟩:=dg q;obtain⟨v,u,rfl,⟨t,rfl⟩,t',rfl⟩:=L2.tx V;refine call_range_2 ?_;obtain gr:=dw c.L h₁ ({cls:=.type "range",data:=.fields #[.int m t,.int n t',.int 1 tk]}:Obj);have Hu:=(R.step T X).eD gr;exact Mc (s:=⟨_,_,_,_,_⟩) (Y.hn hn) h0 h1 h2 h3 (IsRange.new _ _ _ _ _ _ _) q QQ E Hu ((K.step T).step (.eD gr))
theorem H6(O:bh se c)(Y:bw G lv c)(hk:se.names.lookup ("sorted":Str)=some .globalImplicit)(og:se.names.lookup ("set":Str)=some .globalImplicit)(hs:es.all noStar=true)(he:es≠[])
  (h:gj G c es l S λds aa=>i3 aa Q lv .eW ds):EV G c (.Call (.Name "sorted" p) [.Call (.Name "set" p') es [] vy] [] pos) l S Q:=λρ s QQ E R K=>by
 refine Call_ (Gl O Y R (by decide +kernel) hk (by decide +kernel) (by decide +kernel) (by decide +kernel:bootBuiltins "sorted"=some (.builtin "sorted")) ?_) rfl;refine JT (args_cons (he:=fZ rfl _ _) (du (rZ O Y R (by decide +kernel) og (by decide +kernel) (by decide +kernel:bootBuiltins "set"=some (.type "set")) (.inl ⟨_,rfl⟩) hs he h (QQ:=λv aE=>wpAny G.M c.A (call (.builtin "sorted") [v]) QQ E aE) λvs ds h₁ tk fa aa X T V q=>?_) (λv aE h=>spliced_nil h) λz z x=>x)) (fZ rfl _ _) rfl;refine ak (rT q) λd Qk q=>?_;obtain rfl:=Qk;apply dq (L2.vc V);intro v V1;obtain⟨a,rfl,hn,ns,e,h1,h2,h3,q⟩:=dy q;refine ak V1 λp hp GP=>?_;obtain rfl:=GP;exact FH (s:=⟨h₁,_,_,tk,_⟩) (Y.hn hn) (R.step T X) (K.step T) hp e h2 h3 q
noncomputable def Rr:BM->String
 | .append=>"list.append" | .pK=>"list.extend" | .EF=>"list.pop" | .count=>"list.count" | .join=>"str.join"
theorem H7(hm:m≠.join):Slot "list" (Bv m) (Rr m)/\typeOf (.builtin (Rr m))=pure (.type "method_descriptor"):=by
 cases m with
 | append=>exact⟨F.slot_list_append,F.type_list_append⟩
 | pK=>exact⟨F.slot_list_extend,F.type_list_extend⟩
 | EF=>exact⟨F.slot_list_pop,F.type_list_pop⟩
 | count=>exact⟨F.slot_list_count,F.type_list_count⟩
 | join=>exact absurd rfl hm
theorem Yh(hm:m≠.join)(hp:ρ[a]? =some p)(U:VI ρ s.heap v y)(q:uM S Q lv (.ref a) m [y]):TR G c (call (.builtin (Rr m)) [.ref p,v]) ρ l S s Q:=by
 cases m with
 | append =>
  refine dY q λys h1 h2 q=>?_;exact Oh hp U h1 h2 q
 | pK =>
  obtain⟨j,rfl,Oo,ys,h1,h2,h3,h4,_,q⟩:=dy (d:=y) q;refine ak U λp' SU zS=>?_;obtain rfl:=zS;exact Oi hp SU h1 h2 h3 h4 q
 | EF =>
  obtain⟨i,rfl,Oo,z,h1,h2,h3,h4,q⟩:=dg (d:=y) q;exact XU hp U h1 h2 h3 h4 q
 | count =>
  obtain⟨i,rfl,ns,h1,h2,q⟩:=dg (d:=y) q;exact Q4 hp U h1 q
 | join=>exact absurd rfl hm
theorem U7(hm:m≠.join)(R:aG G c s.heap ρ l S)(K:fi G c s ρ Q QQ)(hp:ρ[a]? =some p)(e:S[a]? =some (.list xs))(hs:es.all noStar=true)(he:es≠[])
  (q:gj G c es l S λds af=>uM af Q lv (.ref a) m ds) (pl:Sem Bool):wpAny G.M c.A (getMethod (.ref p) (Bv m) pl) (λfx bq=>wpAny G.M c.A (callWith pos fx.1 fx.2 (backTo pos (starEach es c.aj)) []) QQ E bq) E s:=by
 refine cq (R.aX.at_ _ _ _ hp e) λvs n ho hv=>?_;refine Md F.plainAttrs_list (H7 hm).1 (H7 hm).2 R hs he (show Shared.TypeIs s (.ref p) "list" from⟨_,ho,rfl⟩) (λb e=>by cases e;exact⟨_,ho,rfl⟩) (d:=.ref a) ⟨p,hp,rfl⟩ q (λvs ds cJ iO sN af nM kF Dx U q=>?_) pl;refine ak (rT q) λy GQ z=>?_;obtain rfl:=GQ;apply dq (L2.vc U);intro w U1;exact Yh (s:=⟨cJ,_,_,iO,_⟩) hm (d7 kF.pre hp) U1 q QQ E (R.step kF nM) (K.step kF)
theorem Rt(_O:bh se c)(Y:bw G lv c)(hn:jN o=true)(hs:es.all noStar=true)(he:es≠[])(hl:es.length<29)(lr:(dh.endLine==pos.line)=true)
  (h:EV G c o l S λd aa=>nI aa d m (gj G c es l aa λds af=>uM af Q lv d m ds)):EV G c (.Call (.Attribute o (Bv m) dh) es [] pos) l S Q:=λρ s QQ E R K=>by
 refine oV hn hs hl lr (h _ _ _ E R λv d h' tk ar S' X T V q=>?_);have R':=R.step T X;have K':=K.step (tk':=tk) T;by_cases hm:m=.join
 ·subst hm;cases d with
  | str x =>
   obtain⟨t,rfl⟩:=V;refine Md (s:=⟨h',_,_,tk,_⟩) F.plainAttrs_str F.slot_str_join F.type_str_join R' hs he (typeIs_str _ _ _) (λz e=>nomatch e) (d:=.str x) ⟨t,rfl⟩ q (λvs ds cJ iO sN af nM kF Dx U q=>?_) _;refine ak (rT q) λy Ql q=>?_;obtain rfl:=Ql;obtain⟨b,rfl,e,xs,h1,h2,h3,q⟩:=dy (d:=y) q;apply JX (L2.vc U);intro w p hp GS;obtain rfl:=GS;exact Q9 (s:=⟨cJ,_,_,iO,_⟩) hp (e▸Dx) h1 h2 h3 q QQ E (R'.step kF nM) (K'.step kF)
  | bytes x =>
   obtain⟨t,rfl⟩:=V;refine Md (s:=⟨h',_,_,tk,_⟩) Q5 Bf Me R' hs he (lQ _ _ _) (λz e=>nomatch e) (d:=.bytes x) ⟨t,rfl⟩ q (λvs ds cJ iO sN af nM kF Dx U q=>?_) _;refine ak (rT q) λy QS q=>?_;obtain rfl:=QS;obtain⟨b,rfl,e,xs,h1,h2,h3,_,q⟩:=dy (d:=y) q;apply JX (L2.vc U);intro w p hp acS;obtain rfl:=acS;exact Q7 (s:=⟨cJ,_,_,iO,_⟩) hp (e▸Dx) h1 h2 h3 q QQ E (R'.step kF nM) (K'.step kF)
  | _=>exact False.elim q
 ·have q:fg d λa=>∃xs,S'[a]? =some (.list xs)/\gj G c es l S' λds af=>uM af Q lv d m ds:=by cases m<;>first | exact q | exact absurd rfl hm
  refine Zy (dy q) λa acT xs e q=>?_;obtain rfl:=acT;refine ak V λp hp acU=>?_;obtain rfl:=acU;exact U7 (s:=⟨h',_,_,tk,_⟩) hm R' K' hp e hs he q _
end
theorem bU(h:(a&&b)=true):a=true/\b=true:=by
 cases a with
 | false=>cases h
 | true=>exact⟨rfl,h⟩
theorem dC{p:Prop}(h:(a&&b)=true)(k:a=true->b=true->p):p:=k (bU h).1 (bU h).2
theorem ju{p:Prop}(h:(a&&b&&c)=true)(q:a=true->b=true->c=true->p):p:=dC h λh z=>dC h λha hb=>q ha hb z
theorem xu{p:Prop}(h:(a&&b&&c&&d)=true)(q:a=true->b=true->c=true->d=true->p):p:=dC h λh z=>ju h λha hb hc=>q ha hb hc z
theorem H8{a b c d e:Bool}{p:Prop}(h:(a&&b&&c&&d&&e)=true)(q:a=true->b=true->c=true->d=true->e=true->p):p:=dC h λh z=>xu h λha hb hc hd=>q ha hb hc hd z
theorem Mq{a b c d e f:Bool}{p:Prop}(h:(a&&b&&c&&d&&e&&f)=true)(q:a=true->b=true->c=true->d=true->e=true->f=true->p):p:=dC h λh z=>H8 h λha hb hc hd he=>q ha hb hc hd he z
theorem acV{a b c d e f g:Bool}{p:Prop}(h:(a&&b&&c&&d&&e&&f&&g)=true)(q:a=true->b=true->c=true->d=true->e=true->f=true->g=true->p):p:=dC h λh z=>Mq h λha hb hc hd he hf=>q ha hb hc hd he hf z
theorem acW{a b c d e f g i:Bool}{p:Prop}(h:(a&&b&&c&&d&&e&&f&&g&&i)=true)(q:a=true->b=true->c=true->d=true->e=true->f=true->g=true->i=true->p):p:=dC h λh z=>acV h λha hb hc hd he hf hg=>q ha hb hc hd he hf hg z
theorem acX{a b c d e f g i j:Bool}{p:Prop}(h:(a&&b&&c&&d&&e&&f&&g&&i&&j)=true)(q:a=true->b=true->c=true->d=true->e=true->f=true->g=true->i=true->j=true->p):p:=dC h λh z=>acW h λha hb hc hd he hf hg hi=>q ha hb hc hd he hf hg hi z
noncomputable def ic(xs:List α)(K:α->List α->Bool):Bool:=match xs with
 | x::r=>K x r
 | []=>false
theorem eG{xs:List α}{K:α->List α->Bool}(h:ic xs K=true):∃x r,xs=x::r/\K x r=true:=by
 cases xs with
 | nil=>cases h
 | cons x r=>exact⟨x,r,rfl,h⟩
noncomputable def i6(xs:List α)(K:α->Bool):Bool:=ic xs λx r=>r.isEmpty&&K x
theorem eP{xs:List α}{K:α->Bool}(h:i6 xs K=true):∃x,xs=[x]/\K x=true:=by
 apply c0 (eG h);intro x r h;refine dC h λe h=>?_;exact⟨x,by rw[dj.mp e],h⟩
noncomputable def sY(o:Option Expr)(p:Expr->Bool):Bool:=match o with
 | some x=>p x
 | none=>false
theorem mM(h:sY o p=true):∃x,o=some x/\p x=true:=by
 cases o with
 | none=>cases h
 | some x=>exact⟨x,rfl,h⟩
noncomputable def rI(e:Expr):List Str:=if q:e.ctorIdx=23 then Expr.Name.elim (motive_1:=λz=>List Str) e q λx z=>[x]else
 if q:e.ctorIdx=25 then Expr.Tuple.elim (motive_1:=λz=>List Str) e q λes z z=>es.filterMap λe=>if q:e.ctorIdx=23 then Expr.Name.elim (motive_1:=λz=>Option Str) e q λx z=>some x else none else []
noncomputable def IK.tb:IK->Bool
 | .EG=>true
 | _=>false
noncomputable def mI(se:SE)(x:Str):Bool:=decide (se.names.lookup x=some .globalImplicit)&&!(x==("__debug__":Str))
theorem nu(h:mI se x=true):se.names.lookup x=some .globalImplicit/\(x==("__debug__":Str))=false:=xA (bU h) λa b=>⟨aN a,(rp _).mp b⟩
noncomputable def U8:PV->Option Const
 | .int i=>some (.int i)
 | .str x=>some (.str x)
 | .bytes x=>some (.bytes x)
 | .bool b=>some (.bool b)
 | .none=>some .none
 | _=>none
noncomputable def acY(se:SE)(v:PV)(x:Expr):Bool:=match v with
 | .int i=>hZ x λn z=>mI se n&&decide (jC.lookup n=some (.int i))
 | _=>false
noncomputable def acZ:PV->Bool
 | .bool b=>b
 | _=>false
abbrev KN:=Expr->Bool
abbrev Mr:=List Expr->Bool
structure Ck where
 e:SE->Bool->KN
 s:SE->Mr
 t:Bool
noncomputable def Ck.ex(f:SE->Bool->KN):Ck:=⟨f,λz z=>false,false⟩
noncomputable def aae(se:SE)(i:Nat)(x:Expr):Bool:=hZ x λn z=>decide (se.idx.lookup n=some i)&&!(n==("__debug__":Str))&&!(n==("__classdict__":Str))
noncomputable def Ms(op:BoolOp)(p q:KN)(x:Expr):Bool:=GI x λOH es pos=>decide (OH=op)&&ic es λy r=>p y&&ic r λz w=>match w with
 | []=>q z
 | _::_=>q (.BoolOp op (z::w) pos)
noncomputable def pV(se:SE)(g:GV)(p:Mr)(x:Expr):Bool:=nH x λf es kw z=>hZ f (λn z=>mI se n&&decide (jC.lookup n=some g))&&kw.isEmpty&&es.all noStar&&p es
noncomputable def tE(se:SE)(n:Str)(p:Mr)(x:Expr):Bool:=nH x λf es kw z=>hZ f (λm z=>decide (m=n)&&mI se m)&&kw.isEmpty&&es.all noStar&&!es.isEmpty&&p es
noncomputable def xv(n:Str)(p:KN)(q:Mr)(x:Expr):Bool:=nH x λf es kw pos=>gO f (λo m dh=>decide (m=n)&&jN o&&(dh.endLine==pos.line)&&p o)&&kw.isEmpty&&es.all noStar&&decide (es.length<29)&&q es
noncomputable def TB(k:IK)(its:Ck)(se:SE)(x:Expr):Bool:=match k with
 | .ex=>its.e se false x
 | .uK=>tE se "range" (its.s se) x
 | .Dl=>tE se "range" (its.s se) x
 | .EG=>tE se "enumerate" (its.s se) x
noncomputable def aaf(tl:Bool)(p:KN)(ifs:List Expr):Bool:=match ifs with
 | []=>tl
 | x::r=>r.isEmpty&&p x
noncomputable def OJ(fj:Ck)(n:Nat)(tup:Bool)(k:IK)(its gG:Ck)(se:SE)(x:Expr):Bool:=AU x λe gs sc z=>i6 gs λg=>
 decide (g.is_async=0)&&xf se sc (rI g.target)&&uS g.target (rI g.target) tup&&decide ((rI g.target).length=n)&&(!k.tb||tup)&&qM g.iter&&TB k its se g.iter &&
  fj.e (pT se sc (rI g.target)) false e&&aaf gG.t (gG.e (pT se sc (rI g.target)) true) g.ifs
noncomputable def ck(t:T):Ck:=T.rec (motive:=λq=>Ck)
 (lit:=λv=>⟨λse q x=>(vd x λk q q=>decide (U8 v=some k))||acY se v x,λq q=>false,acZ v⟩)
 (loc:=λi=>.ex λse q x=>aae se i x)
 (bin:=λop q q a b=>.ex λse q x=>J6 x λy OH z q=>decide (OH=op)&&a.e se false y&&b.e se false z)
 (not:=λq a=>.ex λse t x=>t&&wJ x λop y q=>decide (op=.Not)&&a.e se true y)
 (neg:=λn=>.ex λq t x=>!t&&wJ x λop y q=>decide (op=.USub)&&vd y λk q q=>decide (k=.int n))
 (and:=λq q a b=>.ex λse t x=>Ms .And (a.e se t) (b.e se t) x)
 (or:=λq q a b=>.ex λse t x=>Ms .Or (a.e se t) (b.e se t) x)
 (cmp:=λop q q a b=>.ex λse q x=>wM x λy pJ es q=>i6 es λz=>decide (pJ=[op])&&!(behindInMarks op z)&&a.e se false y&&b.e se false z)
 (cmp2:=λtA Dn q q q a b d=>.ex λse q x=>wM x λy pJ es q=>ic es λz r=>i6 r λw=>decide (pJ=[tA,Dn])&&!(lastMarks [tA,Dn] [z,w])&&a.e se false y&&b.e se false z&&d.e se false w)
 (ife:=λq q q t a b=>.ex λse tt x=>!tt&&J7 x λu v w q=>t.e se true u&&a.e se false v&&b.e se false w)
 (tup:=λq es=>.ex λse q x=>lh x λxs q q=>es.s se xs)
 (lst:=λq es=>.ex λse q x=>Nm x λxs q=>es.s se xs)
 (dnilI:=.ex λq q x=>wL x λks vs q=>ks.isEmpty&&vs.isEmpty)
 (dnilS:=.ex λq q x=>wL x λks vs q=>ks.isEmpty&&vs.isEmpty)
 (attr:=λq f a=>.ex λse q x=>gO x λv n q=>decide (n=er f)&&jN v&&a.e se false v)
 (idx:=λq q a i=>.ex λse q x=>jV x λv sl q=>rX sl&&a.e se false v&&i.e se false sl)
 (slc:=λq q q a lo hi=>.ex λse q x=>jV x λv sl q=>a.e se false v&&yS sl λy z w q=>sY y (lo.e se false)&&sY z (hi.e se false)&&w.isNone)
 (slcL:=λq q a lo=>.ex λse q x=>jV x λv sl q=>a.e se false v&&yS sl λy z w q=>sY y (lo.e se false)&&z.isNone&&w.isNone)
 (slcH:=λq q a hi=>.ex λse q x=>jV x λv sl q=>a.e se false v&&yS sl λy z w q=>y.isNone&&sY z (hi.e se false)&&w.isNone)
 (call:=λf q es=>.ex λse q x=>pV se (.fn f) (es.s se) x)
 (new:=λc q es=>.ex λse q x=>pV se (.cls c) (es.s se) x)
 (meth:=λq m q a es=>.ex λse q x=>xv (qF m) (a.e se false) (es.s se) x)
 (mcall:=λq m q a es=>.ex λse q x=>xv (Bv m) (a.e se false) (λxs=>!xs.isEmpty&&es.s se xs) x)
 (bi:=λb q es=>.ex λse q x=>match b with
  | .iB=>tE se "list" (λys=>i6 ys λy=>tE se "range" (es.s se) y) x
  | .eW=>tE se "sorted" (λys=>i6 ys λy=>tE se "set" (es.s se) y) x
  | b=>tE se (si b) (es.s se) x)
 (comp:=λq n tup k q q fj its gG=>.ex λse q x=>OJ fj n tup k its gG se x)
 (nil:=⟨λq q q=>false,λq xs=>xs.isEmpty,false⟩)
 (cons:=λq q a r=>⟨λq q q=>false,λse xs=>ic xs λy w=>noStar y&&a.e se false y&&r.s se w,false⟩) t
section
theorem EV.mono{e:Expr}(h:EV G c e l S Q)(k:∀d S',Q d S'->Q' d S'):EV G c e l S Q':=λρ s QQ E R K=>h ρ s QQ E R λv d h' tk' ar S' X T V q=>K v d h' tk' ar S' X T V (k _ _ q)
theorem gj.mono{e:List Expr}(h:gj G c e l S Q)(k:∀d S',Q d S'->Q' d S'):gj G c e l S Q':=λp ρ s QQ E R K=>h p ρ s QQ E R λvs ds h' tk' ar S' X T V q=>K vs ds h' tk' ar S' X T V (k _ _ q)
theorem ET.mono{e:Expr}(h:ET G c e l S Q)(k:∀d S',Q d S'->Q' d S'):ET G c e l S Q':=λρ s QQ E R K=>h ρ s QQ E R λb h' tk' ar S' X T q=>K b h' tk' ar S' X T (k _ _ q)
def OK(G:GX)(lv:Lv)(c:Cx)(tt:Bool)(t:T)(x:Expr)(l:a9)(S:St):Prop :=
 (tt=false->∀Q,aO G lv t l S Q->EV G c x l S Q)/\(tt=true->∀Q:Bool->St->Prop,aO G lv t l S (λd S'=>fU d λb=>Q b S')->ET G c x l S Q)
structure bx(G:GX)(lv:Lv)(t:T):Prop where
 e:∀{se tt x c l S},(ck t).e se tt x=true->bw G lv c->bh se c->OK G lv c tt t x l S
 s:∀{se xs c l S Q},(ck t).s se xs=true->bw G lv c->bh se c->aO G lv t l S (λd S'=>cY d λds=>Q ds S')->gj G c xs l S Q
 t:(ck t).t=true->∀l S Q,aO G lv t l S Q->Q (.bool true) S
theorem bx.of{t:T}(f:∀{se tt x c l S},(ck t).e se tt x=true->bw G lv c->bh se c->OK G lv c tt t x l S)(g:(ck t).s=λz z=>false)(g':(ck t).t=false):bx G lv t :=
 ⟨f,λ{se xs} _ _ _ _ h=>absurd ((iA (iA g se) xs).symm.trans h) bf,λh=>absurd (g'.symm.trans h) bf⟩
theorem OK.plain(hp:sS x=true)(h:∀Q,aO G lv t l S Q->EV G c x l S Q):OK G lv c tt t x l S:=⟨λz Q q=>h Q q,λz z q=>Qx hp (h _ q)⟩
theorem bx.pl{t:T}(f:∀{se tt x c l S Q},(ck t).e se tt x=true->bw G lv c->bh se c->sS x=true/\(aO G lv t l S Q->EV G c x l S Q))(g:(ck t).s=λz z=>false)(g':(ck t).t=false):bx G lv t :=
 .of (λh Y O=>.plain (f (Q:=λz z=>True) (l:=[]) (S:=[]) h Y O).1 λz q=>(f h Y O).2 q) g g'
theorem bx.v{t:T}(A:bx G lv t){se:SE}{x:Expr}{c:Cx}{l:a9}{S:St}{Q:PV->St->Prop}(h:(ck t).e se false x=true)(Y:bw G lv c)(O:bh se c)(q:aO G lv t l S Q):EV G c x l S Q:=(A.e h Y O).1 rfl Q q
theorem bx.b{t:T}(A:bx G lv t){se:SE}{x:Expr}{c:Cx}{l:a9}{S:St}{Q:Bool->St->Prop}(h:(ck t).e se true x=true)(Y:bw G lv c)(O:bh se c)(q:aO G lv t l S (λd S'=>fU d λb=>Q b S')):ET G c x l S Q:=(A.e h Y O).2 rfl Q q
theorem vz(Y:bw G lv c):c.A.units<=9000:=ab (cT _ _) Y.units
theorem zB{K K':Bool->Prop}(h:fU d K)(f:∀b,K b->K' b):fU d K':=by
 apply dq (pL h);intro b h;exact f b h
theorem Js{K K':Bool->Prop}(h:iM op a b K)(f:∀b,K b->K' b):iM op a b K':=by cases op<;>first | exact f _ h | exact h
theorem KO{K:Bool->Prop}(h:iM op a b K)(f:∀t,K t->Q (.bool t) S):fX S Q op (.int a) (.int b):=Js h f
theorem wo(h:fY n tup d k)(f:∀ys,k ys->k' ys):fY n tup d k':=by
 cases tup with
 | true =>
  apply dq (mH h);intro ds h;exact⟨h.1,f _ h.2⟩
 | false=>exact⟨h.1,f _ h.2⟩
theorem U9(v:PV):bx G lv (.lit v) where
 e:=λ{se tt x c l S} h Y O=>by
  rcases(yF _ _).mp h with h | h
  ·apply bJ (wd h);intro k n p h;have h:=aN h;refine .plain rfl λQ q=>?_;cases v<;>cases h<;>first | exact W7 q | exact Uy q | exact W8 q | exact Qw q | exact Ux q
  ·cases v<;>try cases h
   apply c0 (eE h);intro n p h;refine dC h λh1 h2=>?_;exact .plain rfl λQ q=>Uw O Y (nu h1).2 (nu h1).1 (aN h2) q
 s:=λh=>absurd h bf
 t:=λh l S Q q=>by
  cases v with
  | bool b=>cases b with
   | false=>exact absurd h bf
   | true=>exact q
  | _=>exact absurd h bf
theorem Va(i:Nat):bx G lv (.loc i):=.pl (λ{se tt x c l S Q} h Y O=>by
 apply c0 (eE h);intro n p h;refine ju h λh1 h2 h3=>?_;refine⟨rfl,λq=>?_⟩;change (match l[i]? with | some (some d)=>Q d S | _=>False)at q
 cases e:l[i]? with
 | none=>rw[e]at q;exact False.elim q
 | some o=>cases o with
  | none=>rw[e]at q;exact False.elim q
  | some d=>rw[e]at q;exact W5 O (aN h1) ((rp _).mp h2) ((rp _).mp h3) e q) rfl rfl
theorem Vb(op:Operator)(A:bx G lv a)(B:bx G lv b):bx G lv (.bin op a b):=.pl (λh Y O=>by
 apply ed (LG h);intro y OH z p h;refine ju h λh1 h2 h3=>?_;apply zL (aN h1);exact⟨rfl,λq=>W9 ((A.v h2 Y O (ZI.mp q)).mono λx aa q=>B.v h3 Y O q)⟩) rfl rfl
theorem Vc(A:bx G lv a):bx G lv (.not a):=.of (λh Y O=>by
 obtain⟨rfl,h⟩:=bU h;apply bJ (wK h);intro op y p h;refine dC h λh1 h2=>?_;apply zL (aN h1);exact⟨(λe=>nomatch e),λz Q q=>Xd (A.b (Q:=λt aa=>Q (!t) aa) h2 Y O (ZJ.mp q))⟩) rfl rfl
theorem Vd(n:Int):bx G lv (.neg n):=.of (λ{se tt x c l S} h Y O=>by
 refine dC h λht h=>?_;apply bJ (wK h);intro op y p h;refine dC h λh1 h2=>?_;apply zL (aN h1);apply bJ (wd h2);intro k m p' h3;apply zL (aN h3);exact⟨λz Q q=>Xj q,λe=>(by rw[e]at ht;cases ht)⟩) rfl rfl
theorem H9{p q:KN}{x:Expr}(h:Ms op p q x=true):∃y z w pos,x=.BoolOp op (y::z::w) pos/\p y=true/\((w=[]/\q z=true)∨q (.BoolOp op (z::w) pos)=true):=by
 apply bJ (Jm h);intro OH es pos h;refine dC h λh1 h=>?_;apply zL (aN h1);apply c0 (eG h);intro y r h;refine dC h λh1 h=>?_;apply c0 (eG h);intro z w h;refine⟨y,z,w,pos,rfl,h1,?_⟩;cases w with
 | nil=>exact .inl ⟨rfl,h⟩
 | cons u w=>exact .inr h
theorem vA(B:bx G lv b)(h:(w=[]/\(ck b).e se tt z=true)∨(ck b).e se tt (.BoolOp op (z::w) pos)=true)(Y:bw G lv c)(O:bh se c):OK G lv c tt b (.BoolOp op (z::w) pos) l S:=by
 rcases h with⟨rfl,h⟩ | h
 ·refine⟨λe Q q=>?_,λe Q q=>?_⟩
  ·exact λρ s QQ E R K=>BoolOp_one ((B.e h Y O).1 e Q q ρ s QQ E R K)
  ·cases op with
   | And=>exact UE ((B.e h Y O).2 e Q q)
   | Or=>exact Xg ((B.e h Y O).2 e Q q)
 ·exact B.e h Y O
theorem Ve(A:bx G lv a)(B:bx G lv b):bx G lv (.and a b):=.of (λh Y O=>by
 apply EB (H9 h);intro y z w pos h1 h2;refine⟨λe Q q=>?_,λe Q q=>?_⟩
 ·exact Xh (((A.e h1 Y O).1 e _ (SJ.mp q)).mono λx aa q=>zB q λt q=>⟨λe'=>(vA B h2 Y O).1 e Q (q.1 e'),q.2⟩)
 ·exact Xf (((A.e h1 Y O).2 e (λt aa=>AZ t (aO G lv b _ aa λd S'=>fU d λb=>Q b S') (Q false aa)) (SJ.mp q)).mono λt aa q=>⟨λe'=>(vA B h2 Y O).2 e Q (q.1 e'),q.2⟩)) rfl rfl
theorem Yi(A:bx G lv a)(B:bx G lv b):bx G lv (.or a b):=.of (λh Y O=>by
 apply EB (H9 h);intro y z w pos h1 h2;refine⟨λe Q q=>?_,λe Q q=>?_⟩
 ·exact ZW (((A.e h1 Y O).1 e _ (WL.mp q)).mono λx aa q=>zB q λt q=>⟨q.1,λe'=>(vA B h2 Y O).1 e Q (q.2 e')⟩)
 ·exact ZV (((A.e h1 Y O).2 e (λt aa=>AZ t (Q true aa) (aO G lv b _ aa λd S'=>fU d λb=>Q b S')) (WL.mp q)).mono λt aa q=>⟨q.1,λe'=>(vA B h2 Y O).2 e Q (q.2 e')⟩)) rfl rfl
theorem Vf(op:CmpOp)(A:bx G lv a)(B:bx G lv b):bx G lv (.cmp op a b):=.of (λh Y O=>by
 apply ed (wN h);intro y pJ es p h;apply dq (eP h);intro z h;refine xu h λh1 h2 h3 h4=>?_;apply zL (aN h1);obtain hm:=(rp _).mp h2;refine⟨λw Q q=>?_,λw Q q=>?_⟩
 ·exact Xa (vz Y) hm ((A.v h3 Y O (SM.mp q)).mono λx aa q=>B.v h4 Y O q)
 ·exact Xe (vz Y) hm ((A.v h3 Y O (SM.mp q)).mono λx aa q=>B.v h4 Y O q)) rfl rfl
theorem Ru(tA Dn:CmpOp)(A:bx G lv a)(B:bx G lv b)(D:bx G lv d):bx G lv (.cmp2 tA Dn a b d):=.of (λh Y O=>by
 apply ed (wN h);intro y pJ es p h;apply c0 (eG h);intro z r h;apply dq (eP h);intro w h;refine H8 h λh1 h2 h3 h4 h5=>?_;apply zL (aN h1);obtain hm:=(rp _).mp h2;refine⟨λs Q q=>?_,λs Q q=>?_⟩
 ·refine UD (vz Y) hm ((A.v h3 Y O (Nv.mp q)).mono λx aa q=>(B.v h4 Y O q).mono λu af q=>?_);apply dq (dg q);intro i q2;apply dq (dg q2);intro j q3;exact KO q3 λt q=>⟨λe=>D.v h5 Y O (q.1 e),q.2⟩
 ·refine UC (vz Y) hm ((A.v h3 Y O (Nv.mp q)).mono λx aa q=>(B.v h4 Y O q).mono λu af q=>?_);apply dq (dg q);intro i q2;apply dq (dg q2);intro j q3;exact KO q3 λt q=>⟨λe=>D.v h5 Y O (q.1 e),q.2⟩) rfl rfl
theorem Vg(A:bx G lv a)(B:bx G lv b)(D:bx G lv d):bx G lv (.ife a b d):=.of (λ{se tt x c l S} h Y O=>by
 refine dC h λht h=>?_;apply ed (LH h);intro y z w p h;refine ju h λh1 h2 h3=>?_;exact⟨λu Q q=>Xi ((A.b (Q:=λt aa=>AZ t (aO G lv b l aa Q) (aO G lv d l aa Q)) h1 Y O (ZK.mp q)).mono λt aa q=>⟨λe=>B.v h2 Y O (q.1 e),λe=>D.v h3 Y O (q.2 e)⟩),
  λe=>(by rw[e]at ht;cases ht)⟩) rfl rfl
theorem Vh(A:bx G lv a):bx G lv (.tup a):=.pl (λ{se tt x c l S Q} h Y O=>by
 apply bJ (f6 h);intro xs k p h;exact⟨rfl,λq=>G3 (A.s (Q:=λds aa=>vg ds=true/\Q (.tup ds) aa) h Y O (ZL.mp q))⟩) rfl rfl
theorem Vi(A:bx G lv a):bx G lv (.lst a):=.pl (λ{se tt x c l S Q} h Y O=>by
 apply c0 (Nn h);intro xs p h;exact⟨rfl,λq=>Xk (A.s (Q:=λds aa=>ds.length<=1000/\dM aa Q (.list ds)) h Y O (ZM.mp q))⟩) rfl rfl
theorem E8{x:Expr}(h:(wL x λks vs z=>ks.isEmpty&&vs.isEmpty)=true):∃p,x=.Dict [] [] p:=by
 apply bJ (EE h);intro ks vs p h;refine dC h λh1 h2=>?_;exact⟨p,by rw[dj.mp h1,dj.mp h2]⟩
theorem OL:bx G lv .dnilI:=.pl (λh Y O=>by
 obtain⟨p,rfl⟩:=E8 h;exact⟨rfl,λq=>Dq _ (.inl rfl) q⟩) rfl rfl
theorem OM:bx G lv .dnilS:=.pl (λh Y O=>by
 obtain⟨p,rfl⟩:=E8 h;exact⟨rfl,λq=>Dq _ (.inr rfl) q⟩) rfl rfl
theorem Rv(f:Fd)(A:bx G lv a):bx G lv (.attr a f):=.pl (λh Y O=>by
 apply bJ (fW h);intro v n p h;refine ju h λh1 h2 h3=>?_;apply zL (aN h1);exact⟨rfl,λq=>UB Y.K h2 (A.v h3 Y O (WM.mp q))⟩) rfl rfl
theorem Vj(A:bx G lv a)(B:bx G lv b):bx G lv (.idx a b):=.pl (λh Y O=>by
 apply bJ (jr h);intro v sl p h;refine ju h λh1 h2 h3=>?_;exact⟨rfl,λq=>Xb h1 ((A.v h2 Y O (ZN.mp q)).mono λx aa q=>B.v h3 Y O q)⟩) rfl rfl
theorem Vk(A:bx G lv a)(B:bx G lv b)(D:bx G lv d):bx G lv (.slc a b d):=.pl (λh Y O=>by
 apply bJ (jr h);intro v sl p h;refine dC h λh1 h=>?_;apply ed (vf h);intro y z w p' h;refine ju h λh2 h3 h4=>?_;apply dq (mM h2);intro y h2;apply dq (mM h3);intro z h3;apply zL (lO.mp h4);exact⟨rfl,λq=>Xc ((A.v h1 Y O (ZO.mp q)).mono λx aa q=>(B.v h2 Y O q).mono λy af q=>D.v h3 Y O q)⟩) rfl rfl
theorem Rw(A:bx G lv a)(B:bx G lv b):bx G lv (.slcL a b):=.pl (λh Y O=>by
 apply bJ (jr h);intro v sl p h;refine dC h λh1 h=>?_;apply ed (vf h);intro y z w p' h;refine ju h λh2 h3 h4=>?_;apply dq (mM h2);intro y h2;apply zL (lO.mp h3);apply zL (lO.mp h4);exact⟨rfl,λq=>Uz ((A.v h1 Y O (WN.mp q)).mono λx aa q=>B.v h2 Y O q)⟩) rfl rfl
theorem Rx(A:bx G lv a)(B:bx G lv b):bx G lv (.slcH a b):=.pl (λh Y O=>by
 apply bJ (jr h);intro v sl p h;refine dC h λh1 h=>?_;apply ed (vf h);intro y z w p' h;refine ju h λh2 h3 h4=>?_;apply dq (mM h3);intro z h3;apply zL (lO.mp h2);apply zL (lO.mp h4);exact⟨rfl,λq=>UA ((A.v h1 Y O (WO.mp q)).mono λx aa q=>B.v h3 Y O q)⟩) rfl rfl
theorem kG{x:Expr}(h:pV se g p x=true):∃n q es pos,x=.Call (.Name n q) es [] pos/\(n==("__debug__":Str))=false/\se.names.lookup n=some .globalImplicit/\jC.lookup n=some g/\es.all noStar=true/\p es=true:=by
 apply ed (jz h);intro f es kw pos h;refine xu h λh1 h2 h3 h4=>?_;apply c0 (eE h1);intro n q h1;refine dC h1 λg1 g2=>?_;apply zL (dj.mp h2);exact⟨n,q,es,pos,rfl,(nu g1).2,(nu g1).1,aN g2,h3,h4⟩
theorem nv{x:Expr}(h:tE se n p x=true):∃q es pos,x=.Call (.Name n q) es [] pos/\se.names.lookup n=some .globalImplicit/\es.all noStar=true/\es≠[]/\p es=true:=by
 apply ed (jz h);intro f es kw pos h;refine H8 h λh1 h2 h3 h4 h5=>?_;apply c0 (eE h1);intro n q h1;refine dC h1 λg1 g2=>?_;apply zR (aN g1);apply zL (dj.mp h2);exact⟨q,es,pos,rfl,(nu g2).1,h3,(λe=>by rw[e]at h4;cases h4),h5⟩
theorem Ry(f:Addr)(A:bx G lv a):bx G lv (.call f a):=.pl (λ{se tt x c l S Q} h Y O=>by
 apply jj (kG h);intro n q es pos h1 h2 h3 h4 h5;exact⟨rfl,λq=>UI O Y h1 h2 h3 h4 (A.s (Q:=λds aa=>aT G lv f ds aa Q) h5 Y O (WQ.mp q))⟩) rfl rfl
theorem Vl(cl:jo)(A:bx G lv a):bx G lv (.new cl a):=.pl (λ{se tt x c l S Q} h Y O=>by
 apply jj (kG h);intro n q es pos h1 h2 h3 h4 h5;exact⟨rfl,λq=>NV O Y h1 h2 h3 h4 (A.s (Q:=λds aa=>1<=lv.n/\aT G ⟨lv.n-1,lv.hn⟩ (ma cl) (.ref (aa.length+1)::ds) (aa++[.aA cl [],.bc cl aa.length]) λr af=>r=.none/\Q (.ref (aa.length+1)) af) h5 Y O (ZP.mp q))⟩) rfl rfl
theorem sZ{x:Expr}(h:xv n p q x=true):∃o dh es pos,x=.Call (.Attribute o n dh) es [] pos/\jN o=true/\es.all noStar=true/\es.length<29/\(dh.endLine==pos.line)=true/\p o=true/\q es=true:=by
 apply ed (jz h);intro f es kw pos h;refine H8 h λh1 h2 h3 h4 h5=>?_;apply bJ (fW h1);intro o m dh h1;refine xu h1 λg1 g2 g3 g4=>?_;apply zL (aN g1);apply zL (dj.mp h2);exact⟨o,dh,es,pos,rfl,g2,h3,aN h4,g3,g4,h5⟩
theorem vB{K K':Addr->Nat->Prop}(h:nJ S x m K)(f:∀a i,K a i->K' a i):nJ S x m K':=by
 obtain⟨i,rfl,c,dx,fs,g,e1,e2,e3,h⟩:=dy h;exact⟨c,dx,fs,g,e1,e2,e3,f _ _ h⟩
theorem Rz(m:Mt)(A:bx G lv a)(B:bx G lv b):bx G lv (.meth a m b):=.pl (λ{se tt x c l S Q} h Y O=>by
 apply l9 (sZ h);intro o dh es pos h1 h2 h3 h4 h5 h6;exact⟨rfl,λq=>UJ Y h1 h2 h3 h4 ((A.v h5 Y O (WR.mp q)).mono λd aa q=>vB q λf x q=>B.s (Q:=λds af=>aT G lv f (.ref x::ds) af Q) h6 Y O q)⟩) rfl rfl
theorem Mu{d:PV}{K K':Prop}(h:nI S d m K)(f:K->K'):nI S d m K':=by
 cases m with
 | join=>cases d<;>first | exact f h | exact h
 | _ =>
  obtain⟨a,rfl,xs,e,h⟩:=dy h;exact⟨xs,e,f h⟩
theorem ON(m:BM)(A:bx G lv a)(B:bx G lv b):bx G lv (.mcall a m b):=.pl (λ{se tt x c l S Q} h Y O=>by
 apply l9 (sZ h);intro o dh es pos h1 h2 h3 h4 h5 h6;refine dC h6 λh7 h6=>?_;exact⟨rfl,λq=>Rt O Y h1 h2 (λe=>by rw[e]at h7;cases h7) h3 h4 ((A.v h5 Y O (Uq.mp q)).mono λd aa q=>Mu q λq=>B.s (Q:=λds af=>uM af Q lv d m ds) h6 Y O q)⟩) rfl rfl
theorem Yj(m:BI)(A:bx G lv a):bx G lv (.bi m a):=.pl (λ{se tt x c l S Q} h Y O=>by
 by_cases e1:m=.iB
 ·subst e1;apply iK (nv h);intro q es pos h1 h2 h3 h4;apply dq (eP h4);intro y h4;apply iK (nv h4);intro q' wc vy g1 g2 g3 g4;exact⟨rfl,λq=>Mp O Y h1 g1 g2 g3 (A.s (Q:=λds aa=>i3 aa Q lv .iB ds) g4 Y O (Qh.mp q))⟩
 by_cases e2:m=.eW
 ·subst e2;apply iK (nv h);intro q es pos h1 h2 h3 h4;apply dq (eP h4);intro y h4;apply iK (nv h4);intro q' wc vy g1 g2 g3 g4;exact⟨rfl,λq=>H6 O Y h1 g1 g2 g3 (A.s (Q:=λds aa=>i3 aa Q lv .eW ds) g4 Y O (Qh.mp q))⟩
 obtain h:tE se (si m) ((ck a).s se) x=true:=by
  cases m<;>first | exact h | exact absurd rfl e1 | exact absurd rfl e2
 apply iK (nv h);intro q es pos h1 h2 h3 h4;exact⟨rfl,λq=>aad O Y ⟨e1,e2⟩ h1 h2 h3 (A.s (Q:=λds aa=>i3 aa Q lv m ds) h4 Y O (Qh.mp q))⟩) rfl rfl
theorem DO{K:b9->St->Prop}(A:bx G lv a)(h:TB k (ck a) se x=true)(Y:bw G lv c)(O:bh se c)(q:qy G lv k a l S K):EI G c x l S k.tb K:=by
 cases k with
 | ex=>exact Z3 Y.hn (A.v h Y O (acj.mp q))
 | uK =>
  apply iK (nv h);intro r es pos h1 h2 h3 h4;exact N6 (.inl rfl) O Y h1 h2 h3 (A.s (Q:=λds aa=>md aa lv .uK (.tup ds) λaC=>K aC aa) h4 Y O q)
 | Dl =>
  apply iK (nv h);intro r es pos h1 h2 h3 h4;exact N6 (.inr rfl) O Y h1 h2 h3 (A.s (Q:=λds aa=>md aa lv .Dl (.tup ds) λaC=>K aC aa) h4 Y O q)
 | EG =>
  apply iK (nv h);intro r es pos h1 h2 h3 h4;exact Xz O Y h1 h2 h3 (A.s (Q:=λds aa=>md aa lv .EG (.tup ds) λaC=>K aC aa) h4 Y O q)
structure aag(G:GX)(lv:Lv)(se:SE)(fj:T)(n:Nat)(tup:Bool)(k:IK)(its gG:T)(e' tg iter:Expr)(ifs:List Expr)(sc:Scope)(xs:List Str):Prop where
 ok:xf se sc xs=true
 ht:uS tg xs tup=true
 tb:k.tb=true->tup=true
 ns:qM iter=true
 it:∀{c l S K},bw G lv c->bh se c->qy G lv k its l S K->EI G c iter l S k.tb K
 st:∀(c:Cx) (l:a9) d S k,LK (aO G lv gG) (aO G lv fj) n tup l d S k->fY xs.length tup d λys=>Bb G lv (pT se sc xs) e' ifs c.L c.A (l++ys) S k
theorem E9{n:Nat}{k:IK}(A:bx G lv a)(B:bx G lv b)(D:bx G lv d)(h:OJ (ck a) n tup k (ck b) (ck d) se x=true) :
  ∃e' tg iter ifs sc pos xs,x=.ListComp e' [⟨tg,iter,ifs,0⟩] sc pos/\aag G lv se a n tup k b d e' tg iter ifs sc xs:=by
 apply ed (Fv h);intro e' gs sc pos h;apply dq (eP h);intro g h;obtain⟨tg,iter,ifs,as⟩:=g;refine acX h λh1 h2 h3 h4 h5 h6 h7 h8 h9=>?_;obtain rfl:as=0:=aN h1;apply zR (aN h4);refine⟨e',tg,iter,ifs,sc,pos,rI tg,rfl,h2,h3,λe=>?_,h6,λY O q=>DO B h7 Y O q,λc l y S k q=>wo q λys q2 c' w w Y O=>?_⟩
 ·rw[e]at h5;exact h5
 ·cases ifs with
  | nil=>exact .inl ⟨rfl,let z:=D.t h9 _ _ _ q2;⟨λe=>(A.v h8 Y O (z.1 e)),λe=>z.2 e⟩⟩
  | cons t r =>
   refine dC h9 λg1 g2=>?_;refine .inr ⟨t,by rw[dj.mp g1],?_⟩;exact(D.b (Q:=λt af=>AZ t (aO G lv a _ af λr aL=>k (some r) aL) (k none af)) g2 Y O q2).mono λt af q=>⟨λe=>A.v h8 Y O (q.1 e),q.2⟩
theorem RA(n:Nat)(tup:Bool)(k:IK)(A:bx G lv a)(B:bx G lv b)(D:bx G lv d):bx G lv (.comp a n tup k b d):=.pl (λ{se tt x c l S Q} h Y O=>by
 apply Jl (E9 A B D h);intro e' tg iter ifs sc pos xs C;exact⟨rfl,λq=>Kn O Y C.ok C.ht C.tb C.ns (C.st c l) (C.it Y O (GN.mp q))⟩) rfl rfl
theorem Vm:bx G lv .nil:=⟨λh=>absurd h bf,λh z z q=>by rw[dj.mp h];exact uO q,λh=>absurd h bf⟩
theorem RB(A:bx G lv a)(B:bx G lv b):bx G lv (.cons a b):=⟨λh=>absurd h bf,λ{se xs c l S Q} h Y O q=>by
 apply c0 (eG h);intro y w h;refine ju h λh1 h2 h3=>?_;exact vl h1 ((A.v h2 Y O (WS.mp q)).mono λd aa q=>B.s (Q:=λds af=>Q (d::ds) af) h3 Y O q),λh=>absurd h bf⟩
theorem cj(t:T):bx G lv t:=by
 induction t with
 | lit v=>exact U9 v
 | loc i=>exact Va i
 | bin op a b A B=>exact Vb op A B
 | not a A=>exact Vc A
 | neg n=>exact Vd n
 | and a b A B=>exact Ve A B
 | or a b A B=>exact Yi A B
 | cmp op a b A B=>exact Vf op A B
 | cmp2 o p a b d A B D=>exact Ru o p A B D
 | ife a b d A B D=>exact Vg A B D
 | tup a A=>exact Vh A
 | lst a A=>exact Vi A
 | dnilI=>exact OL
 | dnilS=>exact OM
 | attr a f A=>exact Rv f A
 | idx a b A B=>exact Vj A B
 | slc a b d A B D=>exact Vk A B D
 | slcL a b A B=>exact Rw A B
 | slcH a b A B=>exact Rx A B
 | call f a A=>exact Ry f A
 | new c a A=>exact Vl c A
 | meth a m b A B=>exact Rz m A B
 | mcall a m b A B=>exact ON m A B
 | bi m a A=>exact Yj m A
 | comp a n tup k b d A B D=>exact RA n tup k A B D
 | nil=>exact Vm
 | cons a b A B=>exact RB A B
end
abbrev Ad:=List Stmt->Bool
structure KP where
 e:SE->Stmt->Bool
 s:SE->Ad
noncomputable def KP.ex(f:SE->Stmt->Bool):KP:=⟨f,λz z=>false⟩
noncomputable def RC(se:SE)(is:List Nat)(o:Option (Option (List Str))):Bool:=match o with
 | some r=>(match r with
  | some xs=>decide (xs.map (λx=>se.idx.lookup x)=is.map some)&&decide is.Nodup&&(decide (is.length=2)||decide (is.length=3))
  | none=>true)
 | none=>false
theorem KQ(h:RC se is o=true):∃r,o=some r/\∀xs,r=some xs->xs.map (λx=>se.idx.lookup x)=is.map some/\is.Nodup/\(is.length=2∨is.length=3):=by
 cases o with
 | none=>cases h
 | some r=>cases r with
  | none=>exact⟨_,rfl,λz e=>nomatch e⟩
  | some xs =>
   refine ju h λh1 h2 h3=>?_;exact⟨_,rfl,λz e=>Option.some.inj e▸⟨aN h1,aN h2,((yF _ _).mp h3).imp aN aN⟩⟩
noncomputable def nN(st:Stmt)(K:Expr->Expr->Pos->Bool):Bool:=J8 st λts v p=>i6 ts λt=>K t v p
theorem iW{st:Stmt}{K:Expr->Expr->Pos->Bool}(h:nN st K=true):∃t v p,st=.Assign [t] v p/\K t v p=true:=by
 apply bJ (LI h);intro ts v p h;apply dq (eP h);intro t h;exact⟨t,v,p,rfl,h⟩
noncomputable def Fb(t:P):KP:=P.rec (motive:=λu=>KP)
 (asg:=λi e=>.ex λse st=>nN st λt v p=>hZ t λx p'=>decide (se.idx.lookup x=some i)&&(ck e).e se false v&&(eX v||(decide (e.ctorIdx=24)&&(Ma se v x p' p.line).isSome)))
 (asgT:=λis es=>.ex λse st=>nN st λt v u=>lh t λxs k p'=>lh v λvs k' EW=>sW se xs is&&(ck es).s se vs&&RC se is (S9 se.names xs k p' (.Tuple vs k' EW)))
 (asgU:=λis e=>.ex λse st=>nN st λt v u=>lh t λxs u u=>sW se xs is&&eX v&&Hn v&&(ck e).e se false v)
 (sattr:=λo f v=>.ex λse st=>nN st λt x u=>gO t λy n u=>decide (n=er f)&&eX x&&(ck v).e se false x&&(ck o).e se false y)
 (sidx:=λo i v=>.ex λse st=>nN st λt x u=>jV t λy z u=>eX x&&(ck v).e se false x&&(ck o).e se false y&&(ck i).e se false z)
 (ret:=λe=>.ex λse st=>Dj st λo u=>sY o ((ck e).e se false))
 (ret0:=.ex λu st=>Dj st λo u=>o.isNone)
 (iff:=λt u u a b=>.ex λse st=>WH st λx y z u=>(ck t).e se true x&&a.s se y&&b.s se z)
 (whil:=λt u b=>.ex λse st=>Np st λx y z u=>(ck t).e se true x&&b.s se y&&z.isEmpty)
 (forr:=λis tup k its u b=>.ex λse st=>Qe st λtg x y z u=>vr se tg is tup&&(!k.tb||tup)&&qM x&&TB k (ck its) se x&&b.s se y&&z.isEmpty)
 (expr:=λe=>.ex λse st=>sO st λx u=>eX x&&(ck e).e se false x)
 (pass:=.ex λu st=>SD st λu=>true)
 (dead:=.ex λu u=>true)
 (nil:=⟨λu u=>false,λu xs=>xs.isEmpty⟩)
 (cons:=λu u a r=>⟨λu u=>false,λse xs=>ic xs λy w=>a.e se y&&r.s se w⟩) t
section
theorem ES.mono(h:ES G c b l S Q)(k:∀f l S',Q f l S'->Q' f l S'):ES G c b l S Q':=λρ s QQ E R K=>h ρ s QQ E R λf fl h' tk' ar l' S' R' T V q=>K f fl h' tk' ar l' S' R' T V (k _ _ _ q)
theorem kb.mono(h:kb G c b l S Q)(k:∀f l S',Q f l S'->Q' f l S'):kb G c b l S Q':=λρ s QQ E R K=>h ρ s QQ E R λf fl h' tk' ar l' S' R' T V q=>K f fl h' tk' ar l' S' R' T V (k _ _ _ q)
structure ig(G:GX)(lv:Lv)(t:P):Prop where
 e:∀{se st c l S Q},(Fb t).e se st=true->bw G lv c->bh se c->fD c->bI G lv t l S Q->kb G c st l S Q
 s:∀{se b c l S Q},(Fb t).s se b=true->bw G lv c->bh se c->fD c->bI G lv t l S Q->ES G c b l S Q
theorem ig.of(f:∀{se st c l S Q},(Fb t).e se st=true->bw G lv c->bh se c->fD c->bI G lv t l S Q->kb G c st l S Q)(g:(Fb t).s=λz z=>false):ig G lv t :=
 ⟨f,λ{se b} _ _ _ _ h=>absurd ((iA (iA g se) b).symm.trans h) bf⟩
theorem jA{p:Prop}(h:Nat.beq n 24=false)(e:n=24):p:=absurd e (Nat.ne_of_beq_eq_false h)
theorem Yk{t:T}:t.ctorIdx=24->∃fj n tup k its gG,t=.comp fj n tup k its gG :=
 T.casesOn (motive:=λt=>t.ctorIdx=24->∃fj n tup k its gG,t=.comp fj n tup k its gG) t (λz h=>jA rfl h) (λz h=>jA rfl h) (λz z z h=>jA rfl h) (λz h=>jA rfl h) (λz h=>jA rfl h) (λz z h=>jA rfl h) (λz z h=>jA rfl h) (λz z z h=>jA rfl h) (λz z z z z h=>jA rfl h) (λz z z h=>jA rfl h) (λz h=>jA rfl h) (λz h=>jA rfl h) (λh=>jA rfl h) (λh=>jA rfl h) (λz z h=>jA rfl h) (λz z h=>jA rfl h) (λz z z h=>jA rfl h) (λz z h=>jA rfl h) (λz z h=>jA rfl h) (λz z h=>jA rfl h) (λz z h=>jA rfl h) (λz z z h=>jA rfl h) (λz z z h=>jA rfl h) (λz z h=>jA rfl h) (λa b c d e f z=>⟨a,b,c,d,e,f,rfl⟩) (λh=>jA rfl h) (λz z h=>jA rfl h)
theorem Vn(i:Nat)(e:T):ig G lv (.asg i e):=.of (λ{se st c l S Q} h Y O FC q=>by
 have q:=ZQ.mp q;apply bJ (iW h);intro t v p h;apply c0 (eE h);intro x p' h;refine ju h λh1 h2 h3=>?_;have h1:=aN h1;rcases(yF _ _).mp h3 with h3 | h3
 ·exact UP O FC h1 h3 ((cj e).v h2 Y O q)
 ·refine xA (bU h3) λh3 h4=>?_;refine JW (Yk (aN h3)) λfj n tup k its gG gy=>?_;obtain rfl:=gy;refine xE (tX.mp h4) λb h4=>?_;obtain⟨e',tg,iter,ifs,sc,pos,xs,rfl,C⟩:=E9 (cj fj) (cj its) (cj gG) h2;exact Q2 O FC Y h1 h4 C.ok C.ht C.tb C.ns (C.st c l) (C.it Y O (GN.mp q))) rfl
theorem RD(is:List Nat)(e:T):ig G lv (.asgT is e):=.of (λ{se st c l S Q} h Y O FC q=>by
 apply bJ (iW h);intro t v p h;apply bJ (f6 h);intro xs k p' h;apply bJ (f6 h);intro vs k' EW h;refine ju h λh1 h2 h3=>?_;refine ak (KQ h3) λr h3 h4=>?_;exact Hp O FC h3 h1 h4 (G3 ((cj e).s (Q:=λds aa=>vg ds=true/\ds.length=is.length/\Q .next (d8 is ds l) aa) h2 Y O (WT.mp q)))) rfl
theorem RE(is:List Nat)(e:T):ig G lv (.asgU is e):=.of (λh Y O FC q=>by
 apply bJ (iW h);intro t v p h;apply bJ (f6 h);intro xs k p' h;refine xu h λh1 h2 h3 h4=>?_;exact QP O FC h1 h2 h3 ((cj e).v h4 Y O (WU.mp q))) rfl
theorem OO(o:T)(f:Fd)(v:T):ig G lv (.sattr o f v):=.of (λh Y O FC q=>by
 apply bJ (iW h);intro t x p h;apply bJ (fW h);intro y n p' h;refine xu h λh1 h2 h3 h4=>?_;apply zL (aN h1);exact N2 Y.K h2 (((cj v).v h3 Y O (Ur.mp q)).mono λd aa q=>(cj o).v h4 Y O q)) rfl
theorem RF(o i v:T):ig G lv (.sidx o i v):=.of (λh Y O FC q=>by
 apply bJ (iW h);intro t x p h;apply bJ (jr h);intro y z p' h;refine xu h λh1 h2 h3 h4=>?_;exact QT h1 (((cj v).v h2 Y O (WV.mp q)).mono λd aa q=>((cj o).v h3 Y O q).mono λx af q=>(cj i).v h4 Y O q)) rfl
theorem Vo(e:T):ig G lv (.ret e):=.of (λh Y O FC q=>by
 apply c0 (AV h);intro o p h;apply dq (mM h);intro x h;exact UO ((cj e).v h Y O (ZR.mp q))) rfl
theorem RG:ig G lv .ret0:=.of (λh Y O FC q=>by
 apply c0 (AV h);intro o p h;apply zL (lO.mp h);exact QL q) rfl
theorem Yl(t:T){a b:P}(A:ig G lv a)(B:ig G lv b):ig G lv (.iff t a b):=.of (λ{se st c l S Q} h Y O FC q=>by
 apply ed (Nr h);intro x y z p h;refine ju h λh1 h2 h3=>?_;exact Xs (((cj t).b (Q:=λt aa=>AZ t (bI G lv a l aa Q) (bI G lv b l aa Q)) h1 Y O (ack.mp q)).mono λt aa q=>⟨λe=>A.s h2 Y O FC (q.1 e),λe=>B.s h3 Y O FC (q.2 e)⟩)) rfl
theorem OP(t:T){b:P}(B:ig G lv b):ig G lv (.whil t b):=.of (λ{se st c l S Q} h Y O FC q=>by
 apply ed (Nq h);intro x y z p h;refine ju h λh1 h2 h3=>?_;apply zL (dj.mp h3);refine cq (Kb.mp q) λI n h0 q2=>?_;exact N4 I n h0 λn l' S' hI=>(((cj t).b (Q:=λt aa=>AZ t (bI G lv b l' aa (gp (λl₂ af w=>∃bN aL,gA S l₂ af bN aL/\∃m,m<n/\I m bN aL) Q)) (Q .next l' aa)) h1 Y O (q2 n l' S' hI)).mono λt aa q=>⟨λe=>B.s h2 Y O FC (q.1 e),q.2⟩)) rfl
theorem xw(h:fJ is tup d l k)(f:∀l,k l->k' l):fJ is tup d l k':=by
 cases tup with
 | true =>
  apply dq (mH h);intro ds h;exact⟨h.1,f _ h.2⟩
 | false =>
  refine ak h λi e h=>?_;exact⟨i,e,f _ h⟩
theorem EI.mono{e:Expr}{K K':b9->St->Prop}(h:EI G c e l S tb K)(k:∀d S',K d S'->K' d S'):EI G c e l S tb K':=λρ s QQ E R KK=>h ρ s QQ E R λI aC h₁ h' tk' ar S' X T B gr q=>KK I aC h₁ h' tk' ar S' X T B gr (k _ _ q)
theorem Vp(is:List Nat)(tup:Bool)(k:IK)(its:T){b:P}(B:ig G lv b):ig G lv (.forr is tup k its b):=.of (λ{se st c l S Q} h Y O FC q=>by
 apply EC (J9 h);intro tg x y z p h;refine Mq h λh1 h2 h3 h4 h5 h6=>?_;apply zL (dj.mp h6);refine UR O FC h1 (λe=>by rw[e]at h2;exact h2) h3 (EI.mono (DO (cj its) h4 Y O (LL.mp q)) λaC aa q=>?_);refine u9 q λI h0 cD iP oX=>?_;exact⟨I,h0,cD,λk l' S' d hI hd=>xw (iP k l' S' d hI hd) λl₁ q=>B.s h5 Y O FC q,oX⟩) rfl
theorem RH(e:T):ig G lv (.expr e):=.of (λh Y O FC q=>by
 apply c0 (mG h);intro x p h;refine dC h λh1 h2=>?_;exact Hl O h1 ((cj e).v h2 Y O (WX.mp q))) rfl
theorem RI:ig G lv .pass:=.of (λh Y O FC q=>by
 apply dq (Qg h);intro p h;exact QK q) rfl
theorem Vq:ig G lv .nil:=⟨λh=>absurd h bf,λh z z z q=>by rw[dj.mp h];exact Hk q⟩
theorem Fc(h:gp r Q f l S)(k:∀l S,r l S Q->r' l S Q):gp r' Q f l S:=by
 cases f with
 | next=>exact k _ _ h
 | ret d=>exact h
theorem RJ(A:ig G lv a)(B:ig G lv b):ig G lv (.cons a b):=⟨λh=>absurd h bf,λh Y O FC q=>by
 apply c0 (eG h);intro y w h;refine dC h λh1 h2=>?_;exact Dw ((A.e h1 Y O FC (WY.mp q)).mono λf l₁ aa q=>Fc q λl S q=>B.s h2 Y O FC q)⟩
theorem DP(t:P):ig G lv t:=by
 induction t with
 | asg i e=>exact Vn i e
 | asgT is e=>exact RD is e
 | asgU is e=>exact RE is e
 | sattr o f v=>exact OO o f v
 | sidx o i v=>exact RF o i v
 | ret e=>exact Vo e
 | ret0=>exact RG
 | iff t a b A B=>exact Yl t A B
 | whil t b B=>exact OP t B
 | forr is tup k its b B=>exact Vp is tup k its B
 | expr e=>exact RH e
 | pass=>exact RI
 | dead=>exact .of (λz z z z q=>False.elim q) rfl
 | nil=>exact Vq
 | cons a b A B=>exact RJ A B
end
structure cE where
 f:Addr
 aD:List Str
 np:Nat
 body:P
noncomputable def jO(o:Option Obj):Option FuncData:=o.bind λo=>if q:o.data.ctorIdx=7 then Data.func.elim (motive:=λz=>Option FuncData) o.data q some else none
theorem OQ(h:jO o=some fd):∃ob,o=some ob/\ob.data=.func fd:=by
 apply dq (Option.bind_eq_some_iff.mp h);intro ob h;refine⟨ob,rfl,?_⟩;by_cases q:ob.data.ctorIdx=7
 ·exact Data.func.elim (motive:=λod=>∀q:od.ctorIdx=7,Data.func.elim (motive:=λz=>Option FuncData) od q some=some fd->od=.func fd) ob.data q (λfd' z h=>bE Data.func (Option.some.inj h)) q ((c3 q).symm.trans h)
 ·exact nomatch (c4 q).symm.trans h
noncomputable def KS(b:FuncBody)(K:Ad):Bool:=match b with
 | .stmts b=>K b
 | .expr _=>false
theorem Mv{K:Ad}(h:KS b K=true):∃x,b=.stmts x/\K x=true:=by
 cases b with
 | stmts x=>exact⟨x,rfl,h⟩
 | expr=>cases h
noncomputable def Ym(K:Frag)(aD:List Str)(np:Nat)(pG:SE->Ad)(fd:FuncData):Bool:=KS fd.body λb=>decide (fd.globals=mainGlobals)&&decide (fd.builtins=builtinsNs)&&fd.closure.isEmpty&&codeIn K fd.code fd.qualname&&Dr fd.scope aD np&&pG (zU fd.scope aD) b
noncomputable def yZ(K:Frag)(f:Addr)(aD:List Str)(np:Nat)(pG:SE->Ad):Bool:=match jO (K.lookup f)with
 | some fd=>Ym K aD np pG fd
 | none=>false
noncomputable def bW(K:Frag)(d:cE):Bool:=yZ K d.f d.aD d.np λse=>(Fb d.body).s se
noncomputable def fL(K:Frag)(S:Setting)(f:Addr)(args:Args):Option (List (Str×Value)):=(jO (K.lookup f)).bind λfd=>peek K S (bindArgs fd args)
inductive ac0(K:Frag)(f:Addr)(aD:List Str)(np:Nat)(pG:SE->Ad):Prop
 | mk (name qual:Str) (params:Arguments) (b:List Stmt) (scope:Scope) (dV kV doc pm cdv ct:Value) (an:Option Addr) (ob:Obj) (ky:K.lookup f=some ob) (hd:ob.data=.func (fnX name qual params b scope [] dV kV doc pm an cdv ct))
  (hf:jO (K.lookup f)=some (fnX name qual params b scope [] dV kV doc pm an cdv ct)) (hc:codeIn K cdv qual=true) (nq:Dr scope aD np=true) (hb:pG (zU scope aD) b=true)
theorem aah(e:fd.body=.stmts b)(g:fd.globals=mainGlobals)(h:fd.builtins=builtinsNs)(c:fd.closure=[]):fd=fnX fd.name fd.qualname fd.params b fd.scope [] fd.defaults fd.kwdefaults fd.doc fd.pyModule fd.annotations fd.code fd.closureTuple:=by
 cases fd;cases e;cases g;cases h;cases c;rfl
theorem y7{K:Frag}{pG:SE->Ad}(ok:yZ K f aD np pG=true):ac0 K f aD np pG:=by
 obtain ok:(match jO (K.lookup f)with | some fd=>Ym K aD np pG fd | none=>false)=true:=ok
 cases hf:jO (K.lookup f)with
 | none=>rw[hf]at ok;cases ok
 | some fd =>
  rw[hf]at ok;refine ak (OQ hf) λob aai hd=>?_;refine ak (Mv ok) λb e ok=>?_;refine Mq ok λhg hbi xi hc nq fE=>?_;obtain q:=aah e (aN hg) (aN hbi) (dj.mp xi);exact⟨_,_,_,_,_,_,_,_,_,_,_,_,_,aai,hd.trans (bE _ q),hf.trans (bE _ q),hc,nq,fE⟩
theorem Ae{G:GX}{n:Nat}{hn:Bool}{d:cE}(ok:bW G.K d=true){c:Cx}{s:Shared}{ρ:List Addr}{l:a9}{S:St}{args:Args}{vs:List Value}{ds:List PV}{Q:PV->St->Prop}{QQ:Value->Shared->Prop}{E:Value->Shared->Prop}(C:bw G ⟨n+1,hn⟩ c)(R:aG G c s.heap ρ l S)(V:c5 ρ s.heap vs ds)
  (hl:ds.length=d.np) (hb:∀X,fL G.K X d.f args=some (d.aD.zip vs))
  (hw:bI G ⟨n,hn⟩ d.body (ds.map some++List.replicate (d.aD.length-d.np) none) S λf z S'=>dT S Q (lq f) S')
  (K:fi G c s ρ Q QQ):codeAny G.M c.A (.call (.ref d.f) args) (j7 QQ E) s:=by
 obtain⟨name,qual,params,b,scope,dV,kV,doc,pm,cdv,ct,an,ob,ky,hd,hf,hc,nq,fE⟩:=y7 ok;obtain hb:∀X,((jO (G.K.lookup d.f)).bind λfd=>peek G.K X (bindArgs fd args))=some (d.aD.zip vs):=hb;rw[hf]at hb;obtain SF:=uP nq;rw[<- hl]at SF hw;obtain kH:=C.K.keeps R.keep;exact enter C R V (kH _ _ ky) hd (rD kH hc) SF (rF kH hb) (λc' C' O' FC=>(DP d.body).s fE C' O' FC hw) K
theorem L2.Bw(x:L2 R as bs):(∀a b,b∈bs->R a b->R' a b)->L2 R' as bs:=by
 induction x with
 | nil=>exact λz=>.nil
 | cons h _ ih=>exact λk=>.cons (k _ _ (.head _) h) (ih λa b hb=>k a b (.tail _ hb))
theorem L2.Af{α β:Type}{R:α->β->Prop}{as:List α}{bs:List β}(x:L2 R as bs){b:β}(hb:b∈bs):∃a,R a b:=by
 refine xE (tZ hb) λi hi=>?_;refine ak (x.get hi) λa z h=>?_;exact⟨a,h⟩
noncomputable def KU(n:Nat):PV->Prop
 | .ref i=>i<n
 | _=>True
noncomputable def Sc(n:Nat):PV->Prop
 | .ref i=>i<n
 | .tup ds=>∀d∈ds,KU n d
 | _=>True
noncomputable def iQ(n:Nat):AO->Prop
 | .list ds=>∀d∈ds,Sc n d
 | .dr es=>∀p∈es,Sc n p.2
 | .bD es _=>∀p∈es,Sc n p.2
 | .bc _ dx=>dx<n
 | .aA _ fs=>∀p∈fs,Sc n p.2
 | .barr _=>True
 | .raw _=>True
def jB(S:St):Prop:=∀o∈S,iQ S.length o
theorem KU.up{n m:Nat}(hm:n<=m){d:PV}(h:KU n d):KU m d:=by
 cases d with
 | ref i=>exact aJ h hm
 | _=>exact h
theorem Sc.up{n m:Nat}(hm:n<=m){d:PV}(h:Sc n d):Sc m d:=by
 cases d with
 | ref i=>exact aJ h hm
 | tup ds=>exact λd hd=>(h d hd).up hm
 | _=>exact h
theorem iQ.up{n m:Nat}(hm:n<=m){o:AO}(h:iQ n o):iQ m o:=by
 cases o with
 | bc c dx=>exact aJ h hm
 | barr b=>exact h
 | raw b=>exact h
 | _=>exact λd hd=>(h d hd).up hm
theorem jB.oh(h:jB S)(hJ:∀o∈J,iQ (S.length+J.length) o):jB (S++J):=λo ho=>by
 rw[aW];rcases dt.mp ho with ho | ho
 ·exact(h o ho).up (cT _ _)
 ·exact hJ o ho
theorem jB.set{S:St}(h:jB S){i:Nat}{o:AO}(ho:iQ S.length o):jB (S.set i o):=λp hp=>by
 rw[List.length_set];rcases List.mem_or_eq_of_mem_set hp with hp | rfl
 ·exact h p hp
 ·exact ho
theorem jv{f:α->PV}{xs:List α}(h:∀a,Sc n (f a)):∀d∈xs.map f,Sc n d:=λd hd=>by
 apply eN (bH.mp hd);intro x _;exact h x
section
variable {ρ ar:List Addr}
theorem DQ(e:ρ[i]? =some a)(h:i<n):(ρ.take n)[i]? =some a:=(Cq h).trans e
theorem VA.lY(x:VA ρ v d)(h:KU n d):VA (ρ.take n) v d:=by
 cases d with
 | ref i=>refine ak x λa e r=>?_;exact⟨a,DQ e h,r⟩
 | _=>exact x
theorem VI.lY(x:VI ρ hp v d)(h:Sc n d):VI (ρ.take n) hp v d:=by
 cases d with
 | ref i=>refine ak x λa e r=>?_;exact⟨a,DQ e h,r⟩
 | tup ds=>refine fz x λa vs n e ho r=>?_;exact⟨a,vs,n,e,ho,r.Bw λz z hb y=>y.lY (h _ hb)⟩
 | _=>exact x
theorem OI.lY(x:OI G ρ hp a o)(h:iQ n o):OI G (ρ.take n) hp a o:=by
 cases o with
 | list=>refine cq x λvs k e r=>?_;exact⟨vs,k,e,r.Bw λw w hb y=>y.lY (h _ hb)⟩
 | dr=>refine dY x λkvs e r z=>?_;exact⟨kvs,e,r.Bw λw w hb y=>⟨y.1,y.2.lY (h _ hb)⟩,z⟩
 | bD=>refine dY x λkvs e r z=>?_;exact⟨kvs,e,r.Bw λw w hb y=>⟨y.1,y.2.lY (h _ hb)⟩,z⟩
 | bc=>refine ak x λd e r=>?_;exact⟨d,DQ e h,r⟩
 | aA=>refine dH x λes k e r z=>?_;exact⟨es,k,e,r.Bw λw w hb y=>⟨y.1,y.2.lY (h _ hb)⟩,z⟩
 | barr=>exact x
 | raw=>exact x
theorem OI.kI(x:OI G ρ hp a o)(h:iQ 0 o):OI G ar hp a o:=OI.keep (x.lY h) List.nil_prefix (bB.refl _) λz e=>e
theorem VI.kI(x:VI ρ hp v d)(h:Sc 0 d):VI ar hp v d:=VI.mono (x.lY h) List.nil_prefix (bB.refl _)
theorem bR.lY(X:bR G c h ρ (S++J))(hS:jB S):bR G c h (ρ.take S.length) S where
 len:=by rw[gY,X.len,aW];exact yD (cT _ _)
 nd:=X.nd.sublist (ro _ _)
 at_:=λi a o ha ho=>(X.at_ i a o (d7 (List.take_prefix _ _) ha) ((eH (bP.mp ho).1).trans ho)).lY (hS o (aH ho))
 cQ:=λa ha=>X.cQ a (lR ha)
theorem VA.sc(x:VA ρ v d):KU ρ.length d:=by
 cases d with
 | ref i=>refine ak x λa e r=>?_;exact(bP.mp e).1
 | _=>exact trivial
theorem VI.sc(x:VI ρ hp v d):Sc ρ.length d:=by
 cases d with
 | ref i=>refine ak x λa e r=>?_;exact(bP.mp e).1
 | tup ds=>refine fz x λa vs n e ho r=>?_;exact λd hd=>xE (r.Af hd) λz y=>y.sc
 | _=>exact trivial
theorem bR.sc(X:bR G c h ρ S):jB S:=λo ho=>by
 refine xE (tZ ho) λi hi=>?_;refine ak (X.get hi) λa w x=>?_;rw[<- X.len];cases o with
 | list=>refine cq x λvs k e r=>?_;exact λd hd=>xE (r.Af hd) λw y=>y.sc
 | dr=>refine dY x λkvs e r z=>?_;exact λd hd=>xE (r.Af hd) λw y=>y.2.sc
 | bD=>refine dY x λkvs e r z=>?_;exact λd hd=>xE (r.Af hd) λw y=>y.2.sc
 | bc=>refine ak x λd e r=>?_;exact(bP.mp e).1
 | aA=>refine dH x λes k e r z=>?_;exact λd hd=>xE (r.Af hd) λw y=>y.2.sc
 | barr=>exact trivial
 | raw=>exact trivial
def lu(n:Nat)(bN l:a9):Prop:=bN.length=l.length/\∀(i:Nat) (d:PV),bN[i]? =some (some d)->l[i]? =some (some d)/\Sc n d
theorem vC(hn:de.length<=n)(h:de <+: ρ):de <+: ρ.take n:=List.prefix_take_iff.mpr ⟨h,hn⟩
theorem Ib{l:a9}{i:Nat}:l[i]?.join=some d↔l[i]? =some (some d):=Option.join_eq_some_iff
theorem mc.lY(x:mc ρ hp w od)(h:∀d,od'=some d->od=some d/\Sc n d):mc (ρ.take n) hp w od':=by
 cases w with
 | ns a y=>refine ak x λm hm q=>?_;exact⟨m,hm,λd e=>xA (h d e) λe' hs=>ak (q d e') λv h1 h2=>⟨v,h1,h2.lY hs⟩⟩
 | cell a=>refine dH x λob ov ho hd q=>?_;exact⟨ob,ov,ho,hd,λd e=>xA (h d e) λe' hs=>ak (q d e') λv h1 h2=>⟨v,h1,h2.lY hs⟩⟩
theorem gA.refl(Dm:St)(l:a9)(S:St):gA Dm l S l S:=λz z z z ρ z p R=>⟨ρ,p,λz q=>q,R⟩
theorem gA.mN{Dm S J:St}(h0:Dm.length<=S.length)(hS:jB S)(hl:lu S.length bN l):gA Dm l (S++J) bN S:=λz z z z ρ hn p R=>
 ⟨ρ.take S.length,vC (hn▸h0) p,λz q hm=>q (lR hm),
  {
   keep:=R.keep,above:=R.above,rR:=R.rR,len:=hl.1.trans R.len,gz:=R.gz,cQ:=R.cQ,aX:=R.aX.lY hS
   var:=λi v hv=>(R.var i v hv).lY λd e=>xA (hl.2 i d (Ib.mp e)) λe' hs=>⟨Ib.mpr e',hs⟩
   exc:=λv hv=>let⟨a,ob,vs,e,hL,ho,hd,h2,hs⟩:=(R.exc v hv).at_;⟨a,ob,vs,e,hL,ho,hd,h2,λhm=>hs (lR hm)⟩}⟩
theorem dT.same(q:Q d S'):dT S Q d S':=λz z z z ρ v z p X V=>⟨ρ,d,S',p,λz x=>x,X,V,q⟩
theorem dT.mN(h0:S.length<=S'.length)(hS:jB S')(hd:Sc S'.length d)(q:Q d S'):dT S Q d (S'++J):=λz z z z ρ v hn p X V=>
 ⟨ρ.take S'.length,d,S',vC (hn▸h0) p,λz q hm=>q (lR hm),X.lY hS,V.lY hd,q⟩
theorem dT.kI(hS:jB S)(hd:Sc 0 d)(q:Q d S):dT S Q d (S++J):=dT.mN (aB _) hS (hd.up (bM _)) q
theorem DR(X:bR G c h ρ S){i:Nat}(ha:ρ[i]? =some a)(hi:n<=i):a∉ρ.take n:=λhm=>by
 refine xE (tZ hm) λj hj=>?_;obtain h1:=(bP.mp hj).1;rw[gY]at h1;obtain this:=X.inj ha (d7 (List.take_prefix _ _) hj);lia
theorem y8(h:xs.length=n):(xs++[a])[n]? =some a:=h▸(by rw[d9 (aB _),gw];rfl)
theorem eu:(S++(o::J))[S.length]? =some o:=by rw[d9 (aB _),gw];rfl
theorem Ag:(S++(J++(o::J2)))[S.length+J.length]? =some o:=by
 rw[<- aw,<-aW];exact eu
theorem dT.km(hS:jB S)(ho:iQ 0 o)(q:Q (.ref S.length) (S++[o])):dT S Q (.ref (S.length+J.length)) (S++(J++(o::J2))):=λz z z z ρ v hn p X V=>by
 refine ak V λa e dn=>?_;obtain rfl:=dn;obtain Y:=X.lY hS;have hm:=aH e;refine⟨ρ.take S.length++[a],.ref S.length,_,(vC (bL hn) p).trans ⟨_,rfl⟩,λb hb hU=>?_,Y.Di (DR X e (cT _ _)) (X.cQ a hm) ((X.at_ _ _ _ e Ag).kI ho),⟨a,y8 Y.len,rfl⟩,q⟩;rcases dt.mp hU with hU | hU
 ·exact hb (lR hU)
 ·exact hb (aV.mp hU▸hm)
theorem dT.obj(hS:jB S)(ho:∀p∈fs,Sc 0 p.2)(q:Q (.ref (S.length+1)) (S++[.aA cl fs,.bc cl S.length])):dT S Q (.ref (S.length+J.length+1)) (S++(J++(.aA cl fs::.bc cl (S.length+J.length)::J2))):=λz z z z ρ v hn p X V=>by
 refine ak V λa e dX=>?_;obtain rfl:=dX;obtain Y:=X.lY hS;have e1:(S++(J++(AO.aA cl fs::.bc cl (S.length+J.length)::J2)))[S.length+J.length+1]? =some (.bc cl (S.length+J.length)):=by
  obtain this:=Ag (S:=S) (J:=J++[.aA cl fs]) (J2:=J2) (o:=.bc cl (S.length+J.length))
  rwa [aW,aw]at this
 refine ak (X.at_ _ _ _ e e1) λb hb ia=>?_;obtain hm:=aH e;have hmb:=aH hb;have Y1:=Y.Di (DR X hb (cT _ _)) (X.cQ b hmb) ((X.at_ _ _ _ hb Ag).kI (o:=.aA cl fs) ho);obtain Y2:=Y1.Di (a:=a) (o:=.bc cl S.length) (λhU=>by
  rcases dt.mp hU with hU | hU
  ·exact DR X e (Nat.le_add_right_of_le (cT _ _)) hU
  ·obtain rfl:=aV.mp hU;exact absurd (X.inj e hb) (CZ _)) (X.cQ a hm) ⟨b,d7 ⟨_,rfl⟩ (y8 Y.len),ia⟩
 obtain e2:S++[AO.aA cl fs]++[AO.bc cl S.length]=S++[.aA cl fs,.bc cl S.length]:=aw _ _ _;rw[e2]at Y2;refine⟨_,.ref (S.length+1),_,((vC (bL hn) p).trans ⟨_,rfl⟩).trans ⟨_,rfl⟩,λx hx hU=>?_,Y2,⟨a,y8 (Y1.len.trans aW),rfl⟩,q⟩;rcases dt.mp hU with hU | hU
 ·rcases dt.mp hU with hU | hU
  ·exact hx (lR hU)
  ·exact hx (aV.mp hU▸hmb)
 ·exact hx (aV.mp hU▸hm)
theorem dF{n:Nat}{hn:Bool}{d:cE}(ok:bW G.K d=true){ds:List PV}(hl:ds.length=d.np)(hb:∀vs:List Value,vs.length=d.np->∀X,fL G.K X d.f ⟨vs,[]⟩=some (d.aD.zip vs))
  (hw:jB S->(∀x∈ds,Sc S.length x)->bI G ⟨n,hn⟩ d.body (ds.map some++List.replicate (d.aD.length-d.np) none) S λf z S'=>dT S Q (lq f) S'):aT G ⟨n+1,hn⟩ d.f ds S Q:=λc C s ρ vs l QQ E R V K=>
 Ae ok C R V hl (hb vs ((L2.len V).trans hl)) (hw R.aX.sc λx hx=>R.aX.len▸(xE (L2.Af V hx) λz y=>y.sc)) K
end
noncomputable def tF:P:=(.cons (.ret (.bi .sum (.cons (.comp (.bin .LShift (.loc 2) (.bin .Mult (.lit (.int 8)) (.loc 1))) 2 true .EG (.cons (.loc 0) .nil) (.lit (.bool true))) .nil))) .nil)
noncomputable def pd:cE:=⟨94,["octets"],1,tF⟩
noncomputable def tG:P:=(.cons (.iff (.not (.cmp2 .LtE .Lt (.lit (.int 0)) (.loc 0) (.bin .Pow (.lit (.int 256)) (.loc 1)))) (.cons (.dead) .nil) .nil) (.cons (.ret (.bi .bytes (.cons (.comp (.bin .BitAnd (.bin .RShift (.loc 0) (.bin .Mult (.lit (.int 8)) (.loc 2))) (.lit (.int 255))) 1 false .uK (.cons (.loc 1) .nil) (.lit (.bool true))) .nil))) .nil))
noncomputable def pe:cE:=⟨99,["number","size"],2,tG⟩
noncomputable def qf:P:=(.cons (.asg 1 (.comp (.bi .ord (.cons (.loc 2) .nil)) 1 false .ex (.loc 0) (.lit (.bool true)))) (.cons (.iff (.not (.bi .all (.cons (.comp (.cmp2 .LtE .Lt (.lit (.int 32)) (.loc 2) (.lit (.int 127))) 1 false .ex (.loc 1) (.lit (.bool true))) .nil))) (.cons (.dead) .nil) .nil) (.cons (.ret (.bi .bytes (.cons (.loc 1) .nil))) .nil)))
noncomputable def mj:cE:=⟨104,["text","points"],1,qf⟩
noncomputable def qg:P:=(.cons (.iff (.not (.bi .all (.cons (.comp (.cmp2 .LtE .Lt (.lit (.int 32)) (.loc 1) (.lit (.int 127))) 1 false .ex (.loc 0) (.lit (.bool true))) .nil))) (.cons (.dead) .nil) .nil) (.cons (.ret (.mcall (.lit (.str (Str.ofString ""))) .join (.cons (.comp (.bi .Nt (.cons (.loc 1) .nil)) 1 false .ex (.loc 0) (.lit (.bool true))) .nil))) .nil))
noncomputable def mn:cE:=⟨109,["octets"],1,qg⟩
noncomputable def sj:P:=(.cons (.ret (.bi .bytes (.cons (.attr (.loc 0) .bZ) .nil))) .nil)
noncomputable def nO:cE:=⟨151,["self"],1,sj⟩
noncomputable def qh:P:=(.cons (.sattr (.loc 0) .bZ (.loc 1)) (.cons (.sattr (.loc 0) .at_ (.loc 2)) .nil))
noncomputable def mq:cE:=⟨173,["self","octets","at"],3,qh⟩
noncomputable def qi:P:=(.cons (.ret (.bin .Sub (.bi .len (.cons (.attr (.loc 0) .bZ) .nil)) (.attr (.loc 0) .at_))) .nil)
noncomputable def mr:cE:=⟨180,["self"],1,qi⟩
noncomputable def qj:P:=(.cons (.iff (.cmp .Gt (.loc 1) (.meth (.loc 0) .left .nil)) (.cons (.dead) .nil) .nil) (.cons (.asg 2 (.bi .bytes (.cons (.slc (.attr (.loc 0) .bZ) (.attr (.loc 0) .at_) (.bin .Add (.attr (.loc 0) .at_) (.loc 1))) .nil))) (.cons (.sattr (.loc 0) .at_ (.bin .Add (.attr (.loc 0) .at_) (.loc 1))) (.cons (.ret (.loc 2)) .nil))))
noncomputable def mu:cE:=⟨187,["self","many","found"],2,qj⟩
noncomputable def nP:P:=(.cons (.ret (.call 94 (.cons (.meth (.loc 0) .take (.cons (.loc 1) .nil)) .nil))) .nil)
noncomputable def ke:cE:=⟨194,["self","size"],2,nP⟩
noncomputable def qk:P:=(.cons (.ret (.call 109 (.cons (.meth (.loc 0) .take (.cons (.meth (.loc 0) .number (.cons (.lit (.int 1)) .nil)) .nil)) .nil))) .nil)
noncomputable def mv:cE:=⟨201,["self"],1,qk⟩
noncomputable def Ah:P:=(.cons (.iff (.cmp .Gt (.bi .len (.cons (.loc 0) .nil)) (.loc 1)) (.cons (.dead) .nil) .nil) (.cons (.ret (.bin .Add (.bi .bytes (.cons (.loc 0) .nil)) (.bi .bytes (.cons (.bin .Sub (.loc 1) (.bi .len (.cons (.loc 0) .nil))) .nil)))) .nil))
noncomputable def vD:cE:=⟨215,["octets","size"],2,Ah⟩
noncomputable def sk:P:=(.cons (.sattr (.loc 0) .wG (.loc 1)) (.cons (.sattr (.loc 0) .GD (.loc 2)) (.cons (.sattr (.loc 0) .wH (.loc 3)) (.cons (.sattr (.loc 0) .Nl (.loc 4)) (.cons (.sattr (.loc 0) .gg (.loc 5)) (.cons (.sattr (.loc 0) .ring (.loc 6)) (.cons (.sattr (.loc 0) .AP (.loc 7)) (.cons (.sattr (.loc 0) .lS (.loc 8)) (.cons (.sattr (.loc 0) .GF (.loc 9)) (.cons (.sattr (.loc 0) .wI (.loc 10)) (.cons (.sattr (.loc 0) .J5 (.loc 11)) .nil)))))))))))
noncomputable def nQ:cE:=⟨230,["self","sector","slab","record","fan","dnodes","ring","defer","most_record","uber","config","zap"],12,sk⟩
noncomputable def vE:P:=(.cons (.ret (.bin .Mult (.bin .FloorDiv (.bin .Sub (.bin .Add (.loc 0) (.loc 1)) (.lit (.int 1))) (.loc 1)) (.loc 1))) .nil)
noncomputable def qN:cE:=⟨244,["number","to"],2,vE⟩
noncomputable def xx:P:=(.cons (.ret (.bin .FloorDiv (.bin .Sub (.bin .Add (.loc 0) (.loc 1)) (.lit (.int 1))) (.loc 1))) .nil)
noncomputable def s6:cE:=⟨251,["size","part"],2,xx⟩
noncomputable def vF:P:=(.cons (.asg 2 (.bin .BitXor (.loc 1) (.lit (.int 2654435769)))) (.cons (.forr [3] false .ex (.loc 0) (.cons (.asg 2 (.bin .Mod (.bin .Mult (.bin .BitXor (.loc 2) (.bi .ord (.cons (.loc 3) .nil))) (.lit (.int 16777619))) (.bin .Pow (.lit (.int 2)) (.lit (.int 32))))) .nil)) (.cons (.asg 2 (.bin .Mod (.bin .Mult (.bin .BitXor (.loc 2) (.bin .RShift (.loc 2) (.lit (.int 15)))) (.lit (.int 2246822519))) (.bin .Pow (.lit (.int 2)) (.lit (.int 32))))) (.cons (.asg 2 (.bin .Mod (.bin .Mult (.bin .BitXor (.loc 2) (.bin .RShift (.loc 2) (.lit (.int 13)))) (.lit (.int 3266489917))) (.bin .Pow (.lit (.int 2)) (.lit (.int 32))))) (.cons (.ret (.bin .BitXor (.loc 2) (.bin .RShift (.loc 2) (.lit (.int 16))))) .nil)))))
noncomputable def qO:cE:=⟨258,["name","salt","found","sign"],2,vF⟩
noncomputable def so:P:=(.cons (.ret (.bin .RShift (.loc 0) (.bin .Sub (.lit (.int 32)) (.loc 1)))) .nil)
noncomputable def nR:cE:=⟨265,["told","bits"],2,so⟩
noncomputable def xy:P:=(.cons (.ret (.bin .Mod (.bin .Add (.bin .Mult (.loc 0) (.lit (.int 2654435761))) (.lit (.int 40503))) (.bin .Pow (.lit (.int 2)) (.lit (.int 32))))) .nil)
noncomputable def s7:cE:=⟨272,["number"],1,xy⟩
noncomputable def vG:P:=(.cons (.iff (.not (.cmp2 .Lt .LtE (.lit (.int 0)) (.bi .len (.cons (.call 104 (.cons (.loc 0) .nil)) .nil)) (.lit (.int 28)))) (.cons (.dead) .nil) .nil) (.cons (.iff (.not (.cmp2 .LtE .Lt (.lit (.int 0)) (.loc 1) (.bin .Pow (.lit (.int 256)) (.lit (.int 8))))) (.cons (.dead) .nil) .nil) .nil))
noncomputable def qP:cE:=⟨279,["name","number"],2,vG⟩
noncomputable def sq:P:=(.cons (.asgT [1,2] (.cons (.new .cW (.cons (.loc 0) (.cons (.lit (.int 7)) .nil))) (.cons (.lst .nil) .nil))) (.cons (.forr [3] false .uK (.cons (.call 94 (.cons (.slc (.loc 0) (.lit (.int 5)) (.lit (.int 7))) .nil)) .nil) (.cons (.asg 4 (.meth (.loc 1) .De .nil)) (.cons (.expr (.mcall (.loc 2) .append (.cons (.tup (.cons (.loc 4) (.cons (.meth (.loc 1) .number (.cons (.lit (.int 8)) .nil)) .nil))) .nil))) .nil))) (.cons (.ret (.loc 2)) .nil)))
noncomputable def nS:cE:=⟨293,["octets","cursor","found","turn","name"],1,sq⟩
noncomputable def o3:P:=(.cons (.sattr (.loc 0) .bits (.loc 1)) (.cons (.sattr (.loc 0) .salt (.loc 2)) (.cons (.sattr (.loc 0) .many (.loc 3)) (.cons (.sattr (.loc 0) .behind (.loc 4)) (.cons (.sattr (.loc 0) .table (.loc 5)) .nil)))))
noncomputable def lx:cE:=⟨307,["self","bits","salt","many","behind","table"],6,o3⟩
noncomputable def mO:P:=(.cons (.asg 1 (.bin .Add (.bin .Add (.bin .Add (.call 99 (.cons (.lit (.int 2)) (.cons (.lit (.int 1)) .nil))) (.call 99 (.cons (.attr (.loc 0) .bits) (.cons (.lit (.int 1)) .nil)))) (.call 99 (.cons (.attr (.loc 0) .salt) (.cons (.lit (.int 4)) .nil)))) (.call 99 (.cons (.attr (.loc 0) .many) (.cons (.lit (.int 4)) .nil))))) (.cons (.ret (.bin .Add (.bin .Add (.loc 1) (.call 99 (.cons (.attr (.loc 0) .behind) (.cons (.lit (.int 4)) .nil)))) (.call 99 (.cons (.attr (.loc 0) .table) (.cons (.lit (.int 4)) .nil))))) .nil))
noncomputable def jE:cE:=⟨314,["self","told"],1,mO⟩
noncomputable def vH:P:=(.cons (.asg 1 (.new .cW (.cons (.loc 0) (.cons (.lit (.int 1)) .nil)))) (.cons (.asg 2 (.meth (.loc 1) .number (.cons (.lit (.int 1)) .nil))) (.cons (.asg 3 (.meth (.loc 1) .number (.cons (.lit (.int 4)) .nil))) (.cons (.asg 4 (.meth (.loc 1) .number (.cons (.lit (.int 4)) .nil))) (.cons (.asg 5 (.meth (.loc 1) .number (.cons (.lit (.int 4)) .nil))) (.cons (.ret (.new .cB (.cons (.loc 2) (.cons (.loc 3) (.cons (.loc 4) (.cons (.loc 5) (.cons (.meth (.loc 1) .number (.cons (.lit (.int 4)) .nil)) .nil))))))) .nil))))))
noncomputable def qQ:cE:=⟨328,["octets","cursor","bits","salt","many","behind"],1,vH⟩
noncomputable def xB:P:=(.cons (.iff (.cmp .NotIn (.idx (.loc 0) (.lit (.int 0))) (.tup (.cons (.lit (.int 1)) (.cons (.lit (.int 2)) .nil)))) (.cons (.dead) .nil) .nil) (.cons (.ret (.idx (.loc 0) (.lit (.int 0)))) .nil))
noncomputable def s8:cE:=⟨335,["octets"],1,xB⟩
noncomputable def ql:P:=(.cons (.asgT [5,6,7] (.cons (.bin .Mult (.lst (.cons (.lit (.int 0)) .nil)) (.lit (.int 4))) (.cons (.lst .nil) (.cons (.bin .Add (.lit (.int 8)) (.bin .Mult (.lit (.int 4)) (.lit (.int 2)))) .nil)))) (.cons (.forr [8,9] true .ex (.loc 3) (.cons (.asg 10 (.call 258 (.cons (.loc 8) (.cons (.loc 2) .nil)))) (.cons (.asg 11 (.bin .Mod (.loc 10) (.lit (.int 4)))) (.cons (.asg 12 (.bin .Add (.bin .Add (.bin .Add (.call 99 (.cons (.idx (.loc 5) (.loc 11)) (.cons (.lit (.int 2)) .nil))) (.call 99 (.cons (.loc 10) (.cons (.lit (.int 4)) .nil)))) (.call 99 (.cons (.bi .len (.cons (.loc 8) .nil)) (.cons (.lit (.int 1)) .nil)))) (.call 104 (.cons (.loc 8) .nil)))) (.cons (.expr (.mcall (.loc 6) .append (.cons (.bin .Add (.loc 12) (.call 99 (.cons (.loc 9) (.cons (.lit (.int 8)) .nil)))) .nil))) (.cons (.sidx (.loc 5) (.loc 11) (.loc 7)) (.cons (.asg 7 (.bin .Add (.bin .Add (.loc 7) (.lit (.int 15))) (.bi .len (.cons (.loc 8) .nil)))) .nil))))))) (.cons (.iff (.cmp .Gt (.loc 7) (.loc 4)) (.cons (.ret (.lit .none)) .nil) .nil) (.cons (.asg 13 (.bin .Add (.bin .Add (.bin .Add (.call 99 (.cons (.lit (.int 3)) (.cons (.lit (.int 1)) .nil))) (.call 99 (.cons (.loc 0) (.cons (.lit (.int 1)) .nil)))) (.call 99 (.cons (.bi .len (.cons (.loc 3) .nil)) (.cons (.lit (.int 2)) .nil)))) (.call 99 (.cons (.loc 1) (.cons (.lit (.int 4)) .nil))))) (.cons (.asg 14 (.mcall (.lit (.bytes [])) .join (.cons (.comp (.call 99 (.cons (.loc 15) (.cons (.lit (.int 2)) .nil))) 1 false .ex (.loc 5) (.lit (.bool true))) .nil))) (.cons (.ret (.call 215 (.cons (.bin .Add (.bin .Add (.loc 13) (.loc 14)) (.mcall (.lit (.bytes [])) .join (.cons (.loc 6) .nil))) (.cons (.loc 4) .nil)))) .nil))))))
noncomputable def mw:cE:=⟨340,["bits","prefix","salt","rows","size","heads","entries","at","name","number","told","chain","entry","head","links"],5,ql⟩
noncomputable def tH:P:=(.cons (.iff (.cmp .NotEq (.idx (.loc 0) (.lit (.int 0))) (.lit (.int 3))) (.cons (.dead) .nil) .nil) .nil)
noncomputable def pf:cE:=⟨347,["octets"],1,tH⟩
noncomputable def vI:P:=(.cons (.asg 2 (.new .cW (.cons (.loc 0) (.cons (.loc 1) .nil)))) (.cons (.asg 3 (.meth (.loc 2) .number (.cons (.lit (.int 2)) .nil))) (.cons (.asg 4 (.meth (.loc 2) .number (.cons (.lit (.int 4)) .nil))) (.cons (.asg 5 (.meth (.loc 2) .De .nil)) (.cons (.ret (.tup (.cons (.loc 3) (.cons (.loc 4) (.cons (.loc 5) (.cons (.meth (.loc 2) .number (.cons (.lit (.int 8)) .nil)) .nil)))))) .nil)))))
noncomputable def qR:cE:=⟨354,["octets","at","cursor","link","told","name"],2,vI⟩
noncomputable def tI:P:=(.cons (.expr (.call 347 (.cons (.loc 0) .nil))) (.cons (.asg 3 (.bin .Add (.lit (.int 8)) (.bin .Mult (.bin .Mod (.loc 2) (.lit (.int 4))) (.lit (.int 2))))) (.cons (.asg 4 (.call 94 (.cons (.slc (.loc 0) (.loc 3) (.bin .Add (.loc 3) (.lit (.int 2)))) .nil))) (.cons (.whil (.cmp .NotEq (.loc 4) (.lit (.int 0))) (.cons (.asgU [5,6,7,8] (.call 354 (.cons (.loc 0) (.cons (.loc 4) .nil)))) (.cons (.iff (.and (.cmp .Eq (.loc 6) (.loc 2)) (.cmp .Eq (.loc 7) (.loc 1))) (.cons (.ret (.loc 8)) .nil) .nil) (.cons (.iff (.cmp .GtE (.loc 5) (.loc 4)) (.cons (.dead) .nil) .nil) (.cons (.asg 4 (.loc 5)) .nil))))) (.cons (.ret (.lit .none)) .nil)))))
noncomputable def ph:cE:=⟨361,["octets","name","told","begin","at","link","own","text","number"],3,tI⟩
noncomputable def tJ:P:=(.cons (.expr (.call 347 (.cons (.loc 0) .nil))) (.cons (.asgT [1,2] (.cons (.lst .nil) (.cons (.bin .Add (.lit (.int 8)) (.bin .Mult (.lit (.int 4)) (.lit (.int 2)))) .nil))) (.cons (.forr [3] false .uK (.cons (.call 94 (.cons (.slc (.loc 0) (.lit (.int 2)) (.lit (.int 4))) .nil)) .nil) (.cons (.asgU [4,5,6,7] (.call 354 (.cons (.loc 0) (.cons (.loc 2) .nil)))) (.cons (.expr (.mcall (.loc 1) .append (.cons (.tup (.cons (.loc 6) (.cons (.loc 7) .nil))) .nil))) (.cons (.asg 2 (.bin .Add (.bin .Add (.loc 2) (.lit (.int 15))) (.bi .len (.cons (.loc 6) .nil)))) .nil)))) (.cons (.ret (.loc 1)) .nil))))
noncomputable def pj:cE:=⟨368,["octets","found","at","turn","link","told","name","number"],1,tJ⟩
noncomputable def tK:P:=(.cons (.expr (.call 347 (.cons (.loc 0) .nil))) (.cons (.ret (.tup (.cons (.idx (.loc 0) (.lit (.int 1))) (.cons (.call 94 (.cons (.slc (.loc 0) (.lit (.int 4)) (.lit (.int 8))) .nil)) .nil)))) .nil))
noncomputable def pk:cE:=⟨375,["octets"],1,tK⟩
noncomputable def qm:P:=(.cons (.ret (.meth (.loc 0) .Dg (.cons (.loc 1) (.cons (.lit (.int 0)) (.cons (.attr (.meth (.loc 0) .fA (.cons (.loc 1) .nil)) .block) .nil))))) .nil)
noncomputable def mx:cE:=⟨382,["view","object_now"],2,qm⟩
noncomputable def vJ:P:=(.cons (.ret (.meth (.loc 0) .Dg (.cons (.loc 1) (.cons (.bin .Mult (.loc 2) (.loc 3)) (.cons (.loc 3) .nil))))) .nil)
noncomputable def qS:cE:=⟨389,["view","object_now","number","size"],4,vJ⟩
noncomputable def qn:P:=(.cons (.ret (.call 94 (.cons (.meth (.loc 0) .Dg (.cons (.loc 1) (.cons (.bin .Add (.bin .Mult (.attr (.loc 2) .table) (.loc 4)) (.bin .Mult (.lit (.int 4)) (.loc 3))) (.cons (.lit (.int 4)) .nil)))) .nil))) .nil)
noncomputable def my:cE:=⟨396,["view","object_now","head","index","size"],5,qn⟩
noncomputable def vK:P:=(.cons (.asg 4 (.meth (.loc 0) .Dg (.cons (.loc 1) (.cons (.bin .Mult (.attr (.loc 2) .table) (.loc 3)) (.cons (.bin .Mult (.lit (.int 4)) (.bin .Pow (.lit (.int 2)) (.attr (.loc 2) .bits))) .nil))))) (.cons (.ret (.comp (.call 94 (.cons (.slc (.loc 4) (.bin .Mult (.lit (.int 4)) (.loc 5)) (.bin .Mult (.lit (.int 4)) (.bin .Add (.loc 5) (.lit (.int 1))))) .nil)) 1 false .uK (.cons (.bin .Pow (.lit (.int 2)) (.attr (.loc 2) .bits)) .nil) (.lit (.bool true)))) .nil))
noncomputable def qT:cE:=⟨401,["view","object_now","head","size","octets"],4,vK⟩
noncomputable def vL:P:=(.cons (.asg 3 (.call 382 (.cons (.loc 0) (.cons (.loc 1) .nil)))) (.cons (.iff (.cmp .Eq (.call 335 (.cons (.loc 3) .nil)) (.lit (.int 1))) (.cons (.asg 4 (.comp (.loc 9) 2 true .ex (.call 293 (.cons (.loc 3) .nil)) (.cmp .Eq (.loc 8) (.loc 2)))) (.cons (.ret (.ife (.cmp .NotEq (.loc 4) (.lst .nil)) (.idx (.loc 4) (.lit (.int 0))) (.lit .none))) .nil)) .nil) (.cons (.asg 5 (.call 328 (.cons (.slcH (.loc 3) (.lit (.int 18))) .nil))) (.cons (.asg 6 (.call 258 (.cons (.loc 2) (.cons (.attr (.loc 5) .salt) .nil)))) (.cons (.asg 7 (.call 396 (.cons (.loc 0) (.cons (.loc 1) (.cons (.loc 5) (.cons (.call 265 (.cons (.loc 6) (.cons (.attr (.loc 5) .bits) .nil))) (.cons (.bi .len (.cons (.loc 3) .nil)) .nil))))))) (.cons (.ret (.call 361 (.cons (.call 389 (.cons (.loc 0) (.cons (.loc 1) (.cons (.loc 7) (.cons (.bi .len (.cons (.loc 3) .nil)) .nil))))) (.cons (.loc 2) (.cons (.loc 6) .nil))))) .nil))))))
noncomputable def qU:cE:=⟨406,["view","object_now","name","octets","found","head","told","leaf"],3,vL⟩
noncomputable def xC:P:=(.cons (.asg 2 (.call 382 (.cons (.loc 0) (.cons (.loc 1) .nil)))) (.cons (.iff (.cmp .Eq (.call 335 (.cons (.loc 2) .nil)) (.lit (.int 1))) (.cons (.ret (.bi .sorted (.cons (.call 293 (.cons (.loc 2) .nil)) .nil))) .nil) .nil) (.cons (.asgT [3,4] (.cons (.lst .nil) (.cons (.bi .len (.cons (.loc 2) .nil)) .nil))) (.cons (.forr [5] false .ex (.bi .eW (.cons (.call 401 (.cons (.loc 0) (.cons (.loc 1) (.cons (.call 328 (.cons (.slcH (.loc 2) (.lit (.int 18))) .nil)) (.cons (.loc 4) .nil))))) .nil)) (.cons (.expr (.mcall (.loc 3) .pK (.cons (.call 368 (.cons (.call 389 (.cons (.loc 0) (.cons (.loc 1) (.cons (.loc 5) (.cons (.loc 4) .nil))))) .nil)) .nil))) .nil)) (.cons (.ret (.bi .sorted (.cons (.loc 3) .nil))) .nil)))))
noncomputable def s9:cE:=⟨413,["view","object_now","octets","found","size","leaf"],2,xC⟩
noncomputable def vM:P:=(.cons (.iff (.cmp .Is (.call 406 (.cons (.loc 0) (.cons (.loc 1) (.cons (.loc 2) .nil)))) (.lit .none)) (.cons (.dead) .nil) .nil) (.cons (.asg 3 (.call 382 (.cons (.loc 0) (.cons (.loc 1) .nil)))) (.cons (.iff (.cmp .Eq (.call 335 (.cons (.loc 3) .nil)) (.lit (.int 1))) (.cons (.asg 4 (.comp (.loc 8) 1 false .ex (.call 293 (.cons (.loc 3) .nil)) (.cmp .NotEq (.idx (.loc 8) (.lit (.int 0))) (.loc 2)))) (.cons (.expr (.meth (.loc 0) .write (.cons (.loc 1) (.cons (.lit (.int 0)) (.cons (.call 286 (.cons (.call 272 (.cons (.loc 1) .nil)) (.cons (.loc 4) (.cons (.bi .len (.cons (.loc 3) .nil)) .nil)))) .nil))))) (.cons (.ret0) .nil))) .nil) (.cons (.asg 5 (.call 328 (.cons (.slcH (.loc 3) (.lit (.int 18))) .nil))) (.cons (.asg 6 (.call 451 (.cons (.loc 0) (.cons (.loc 1) (.cons (.loc 5) (.cons (.loc 2) (.cons (.bi .len (.cons (.loc 3) .nil)) .nil))))))) (.cons (.asg 7 (.call 389 (.cons (.loc 0) (.cons (.loc 1) (.cons (.loc 6) (.cons (.bi .len (.cons (.loc 3) .nil)) .nil)))))) (.cons (.expr (.call 458 (.cons (.loc 0) (.cons (.loc 1) (.cons (.loc 6) (.cons (.loc 7) (.cons (.loc 5) (.cons (.comp (.loc 8) 1 false .ex (.call 368 (.cons (.loc 7) .nil)) (.cmp .NotEq (.idx (.loc 8) (.lit (.int 0))) (.loc 2))) .nil)))))))) (.cons (.sattr (.loc 5) .many (.bin .Sub (.attr (.loc 5) .many) (.lit (.int 1)))) (.cons (.expr (.call 444 (.cons (.loc 0) (.cons (.loc 1) (.cons (.loc 5) .nil))))) .nil)))))))))
noncomputable def ly:cE:=⟨430,["objset","object_now","name","octets","rows","head","leaf","held"],3,vM⟩
noncomputable def vN:P:=(.cons (.asgT [2,3] (.cons (.attr (.meth (.loc 0) .fA (.cons (.loc 1) .nil)) .block) (.cons (.call 272 (.cons (.loc 1) .nil)) .nil))) (.cons (.asg 4 (.new .cB (.cons (.lit (.int 0)) (.cons (.loc 3) (.cons (.lit (.int 0)) (.cons (.lit (.int 3)) (.cons (.lit (.int 1)) .nil))))))) (.cons (.asg 5 (.meth (.loc 4) .bZ .nil)) (.cons (.expr (.meth (.loc 0) .write (.cons (.loc 1) (.cons (.lit (.int 0)) (.cons (.bin .Add (.loc 5) (.bi .bytes (.cons (.bin .Sub (.loc 2) (.bi .len (.cons (.loc 5) .nil))) .nil))) .nil))))) (.cons (.expr (.meth (.loc 0) .write (.cons (.loc 1) (.cons (.loc 2) (.cons (.call 99 (.cons (.lit (.int 2)) (.cons (.lit (.int 4)) .nil))) .nil))))) (.cons (.expr (.meth (.loc 0) .write (.cons (.loc 1) (.cons (.bin .Mult (.lit (.int 2)) (.loc 2)) (.cons (.call 340 (.cons (.lit (.int 0)) (.cons (.lit (.int 0)) (.cons (.loc 3) (.cons (.lst .nil) (.cons (.loc 2) .nil)))))) .nil))))) .nil))))))
noncomputable def qV:cE:=⟨437,["objset","object_now","size","salt","head","first"],2,vN⟩
noncomputable def vO:P:=(.cons (.expr (.meth (.loc 0) .write (.cons (.loc 1) (.cons (.lit (.int 0)) (.cons (.meth (.loc 2) .bZ .nil) .nil))))) .nil)
noncomputable def qW:cE:=⟨444,["objset","object_now","head"],3,vO⟩
noncomputable def vP:P:=(.cons (.ret (.call 396 (.cons (.loc 0) (.cons (.loc 1) (.cons (.loc 2) (.cons (.call 265 (.cons (.call 258 (.cons (.loc 3) (.cons (.attr (.loc 2) .salt) .nil))) (.cons (.attr (.loc 2) .bits) .nil))) (.cons (.loc 4) .nil))))))) .nil)
noncomputable def qX:cE:=⟨451,["objset","object_now","head","name","size"],5,vP⟩
noncomputable def vQ:P:=(.cons (.asgU [6,7] (.call 375 (.cons (.loc 3) .nil))) (.cons (.asg 8 (.call 340 (.cons (.loc 6) (.cons (.loc 7) (.cons (.attr (.loc 4) .salt) (.cons (.loc 5) (.cons (.bi .len (.cons (.loc 3) .nil)) .nil))))))) (.cons (.iff (.cmp .Is (.loc 8) (.lit .none)) (.cons (.ret (.lit (.bool false))) .nil) .nil) (.cons (.expr (.meth (.loc 0) .write (.cons (.loc 1) (.cons (.bin .Mult (.loc 2) (.bi .len (.cons (.loc 3) .nil))) (.cons (.loc 8) .nil))))) (.cons (.ret (.lit (.bool true))) .nil)))))
noncomputable def qY:cE:=⟨458,["objset","object_now","leaf","held","head","rows","bits","prefix","made"],6,vQ⟩
noncomputable def xD:P:=(.cons (.whil (.lit (.bool true)) (.cons (.asg 4 (.call 382 (.cons (.loc 0) (.cons (.loc 1) .nil)))) (.cons (.asgT [5,6] (.cons (.call 328 (.cons (.slcH (.loc 4) (.lit (.int 18))) .nil)) (.cons (.bi .len (.cons (.loc 4) .nil)) .nil))) (.cons (.asg 7 (.call 451 (.cons (.loc 0) (.cons (.loc 1) (.cons (.loc 5) (.cons (.loc 2) (.cons (.loc 6) .nil))))))) (.cons (.asg 8 (.call 389 (.cons (.loc 0) (.cons (.loc 1) (.cons (.loc 7) (.cons (.loc 6) .nil)))))) (.cons (.asg 9 (.call 368 (.cons (.loc 8) .nil))) (.cons (.asg 10 (.comp (.loc 11) 1 false .ex (.loc 9) (.cmp .NotEq (.idx (.loc 11) (.lit (.int 0))) (.loc 2)))) (.cons (.iff (.call 458 (.cons (.loc 0) (.cons (.loc 1) (.cons (.loc 7) (.cons (.loc 8) (.cons (.loc 5) (.cons (.bin .Add (.loc 10) (.lst (.cons (.tup (.cons (.loc 2) (.cons (.loc 3) .nil))) .nil))) .nil))))))) (.cons (.sattr (.loc 5) .many (.bin .Sub (.bin .Add (.bin .Add (.attr (.loc 5) .many) (.lit (.int 1))) (.bi .len (.cons (.loc 10) .nil))) (.bi .len (.cons (.loc 9) .nil)))) (.cons (.expr (.call 444 (.cons (.loc 0) (.cons (.loc 1) (.cons (.loc 5) .nil))))) (.cons (.ret0) .nil))) .nil) (.cons (.iff (.cmp .Eq (.idx (.call 375 (.cons (.loc 8) .nil)) (.lit (.int 0))) (.attr (.loc 5) .bits)) (.cons (.expr (.call 468 (.cons (.loc 0) (.cons (.loc 1) (.cons (.loc 5) (.cons (.loc 6) .nil)))))) .nil) .nil) (.cons (.expr (.call 473 (.cons (.loc 0) (.cons (.loc 1) (.cons (.loc 5) (.cons (.loc 7) (.cons (.loc 8) .nil))))))) .nil)))))))))) .nil)
noncomputable def ta:cE:=⟨463,["objset","object_now","name","number","first","head","size","leaf","held","rows","others"],4,xD⟩
noncomputable def sr:P:=(.cons (.iff (.cmp .Eq (.attr (.loc 2) .bits) (.lit (.int 16))) (.cons (.dead) .nil) .nil) (.cons (.asg 4 (.call 401 (.cons (.loc 0) (.cons (.loc 1) (.cons (.loc 2) (.cons (.loc 3) .nil)))))) (.cons (.asg 5 (.mcall (.lit (.bytes [])) .join (.cons (.comp (.call 99 (.cons (.idx (.loc 4) (.bin .FloorDiv (.loc 6) (.lit (.int 2)))) (.cons (.lit (.int 4)) .nil))) 1 false .uK (.cons (.bin .Mult (.lit (.int 2)) (.bi .len (.cons (.loc 4) .nil))) .nil) (.lit (.bool true))) .nil))) (.cons (.sattr (.loc 2) .bits (.bin .Add (.attr (.loc 2) .bits) (.lit (.int 1)))) (.cons (.sattr (.loc 2) .table (.attr (.loc 2) .behind)) (.cons (.sattr (.loc 2) .behind (.bin .Add (.attr (.loc 2) .behind) (.call 251 (.cons (.bi .len (.cons (.loc 5) .nil)) (.cons (.loc 3) .nil))))) (.cons (.expr (.meth (.loc 0) .write (.cons (.loc 1) (.cons (.bin .Mult (.attr (.loc 2) .table) (.loc 3)) (.cons (.loc 5) .nil))))) (.cons (.expr (.call 444 (.cons (.loc 0) (.cons (.loc 1) (.cons (.loc 2) .nil))))) .nil))))))))
noncomputable def nT:cE:=⟨468,["objset","object_now","head","size","entries","octets"],4,sr⟩
noncomputable def tL:P:=(.cons (.asg 5 (.bi .len (.cons (.loc 4) .nil))) (.cons (.asgU [6,7] (.call 375 (.cons (.loc 4) .nil))) (.cons (.asg 8 (.call 368 (.cons (.loc 4) .nil))) (.cons (.asg 9 (.comp (.loc 14) 1 false .ex (.loc 8) (.cmp .Eq (.bin .Mod (.call 265 (.cons (.call 258 (.cons (.idx (.loc 14) (.lit (.int 0))) (.cons (.attr (.loc 2) .salt) .nil))) (.cons (.bin .Add (.loc 6) (.lit (.int 1))) .nil))) (.lit (.int 2))) (.lit (.int 1))))) (.cons (.asg 10 (.comp (.loc 14) 1 false .ex (.loc 8) (.cmp .NotIn (.loc 14) (.loc 9)))) (.cons (.asg 11 (.attr (.loc 2) .behind)) (.cons (.sattr (.loc 2) .behind (.bin .Add (.loc 11) (.lit (.int 1)))) (.cons (.expr (.call 444 (.cons (.loc 0) (.cons (.loc 1) (.cons (.loc 2) .nil))))) (.cons (.expr (.meth (.loc 0) .write (.cons (.loc 1) (.cons (.bin .Mult (.loc 3) (.loc 5)) (.cons (.call 340 (.cons (.bin .Add (.loc 6) (.lit (.int 1))) (.cons (.bin .Mult (.lit (.int 2)) (.loc 7)) (.cons (.attr (.loc 2) .salt) (.cons (.loc 10) (.cons (.loc 5) .nil)))))) .nil))))) (.cons (.expr (.meth (.loc 0) .write (.cons (.loc 1) (.cons (.bin .Mult (.loc 11) (.loc 5)) (.cons (.call 340 (.cons (.bin .Add (.loc 6) (.lit (.int 1))) (.cons (.bin .Add (.bin .Mult (.lit (.int 2)) (.loc 7)) (.lit (.int 1))) (.cons (.attr (.loc 2) .salt) (.cons (.loc 9) (.cons (.loc 5) .nil)))))) .nil))))) (.cons (.asg 12 (.bin .Pow (.lit (.int 2)) (.bin .Sub (.bin .Sub (.attr (.loc 2) .bits) (.loc 6)) (.lit (.int 1))))) (.cons (.asg 13 (.bin .Mult (.bin .Add (.bin .Mult (.lit (.int 2)) (.loc 7)) (.lit (.int 1))) (.loc 12))) (.cons (.expr (.meth (.loc 0) .write (.cons (.loc 1) (.cons (.bin .Add (.bin .Mult (.attr (.loc 2) .table) (.loc 5)) (.bin .Mult (.lit (.int 4)) (.loc 13))) (.cons (.bin .Mult (.call 99 (.cons (.loc 11) (.cons (.lit (.int 4)) .nil))) (.loc 12)) .nil))))) .nil)))))))))))))
noncomputable def pn:cE:=⟨473,["objset","object_now","head","leaf","held","size","bits","prefix","rows","ones","zeros","fresh","many","begin"],5,tL⟩
noncomputable def nU:P:=(.cons (.sattr (.loc 0) .kind (.loc 1)) (.cons (.sattr (.loc 0) .block (.loc 2)) (.cons (.sattr (.loc 0) .most (.neg 1)) (.cons (.sattr (.loc 0) .sM (.loc 3)) .nil))))
noncomputable def kf:cE:=⟨487,["self","kind","block","bonus"],4,nU⟩
noncomputable def qo:P:=(.cons (.sattr (.loc 0) .cw (.loc 1)) (.cons (.sattr (.loc 0) .gg .dnilI) (.cons (.sattr (.loc 0) .bZ .dnilI) (.cons (.sattr (.loc 0) .gx (.lit (.int 0))) .nil))))
noncomputable def mz:cE:=⟨508,["self","shape"],2,qo⟩
noncomputable def o4:P:=(.cons (.iff (.cmp .NotIn (.loc 1) (.attr (.loc 0) .gg)) (.cons (.dead) .nil) .nil) (.cons (.ret (.idx (.attr (.loc 0) .gg) (.loc 1))) .nil))
noncomputable def lA:cE:=⟨529,["self","number"],2,o4⟩
noncomputable def qp:P:=(.cons (.expr (.meth (.loc 0) .fA (.cons (.loc 1) .nil))) (.cons (.ret (.bi .len (.cons (.idx (.attr (.loc 0) .bZ) (.loc 1)) .nil))) .nil))
noncomputable def mA:cE:=⟨536,["self","number"],2,qp⟩
noncomputable def qq:P:=(.cons (.expr (.meth (.loc 0) .fA (.cons (.loc 1) .nil))) (.cons (.iff (.or (.cmp .Lt (.loc 2) (.lit (.int 0))) (.cmp .Lt (.loc 3) (.lit (.int 0)))) (.cons (.dead) .nil) .nil) (.cons (.asg 4 (.bi .bytes (.cons (.slc (.idx (.attr (.loc 0) .bZ) (.loc 1)) (.loc 2) (.bin .Add (.loc 2) (.loc 3))) .nil))) (.cons (.ret (.bin .Add (.loc 4) (.bi .bytes (.cons (.bin .Sub (.loc 3) (.bi .len (.cons (.loc 4) .nil))) .nil)))) .nil))))
noncomputable def mB:cE:=⟨543,["self","number","at","many","found"],4,qq⟩
noncomputable def sv:P:=(.cons (.iff (.or (.cmp .Lt (.loc 1) (.lit (.int 1))) (.cmp .Lt (.loc 2) (.lit (.int 1)))) (.cons (.dead) .nil) .nil) (.cons (.sattr (.loc 0) .gx (.bin .Add (.attr (.loc 0) .gx) (.lit (.int 1)))) (.cons (.sidx (.attr (.loc 0) .gg) (.attr (.loc 0) .gx) (.new .fA (.cons (.loc 1) (.cons (.loc 2) (.cons (.bi .bytes (.cons (.loc 3) .nil)) .nil))))) (.cons (.sidx (.attr (.loc 0) .bZ) (.attr (.loc 0) .gx) (.lit (.bytes []))) (.cons (.ret (.attr (.loc 0) .gx)) .nil)))))
noncomputable def kJ:cE:=⟨551,["self","kind","block","bonus"],4,sv⟩
noncomputable def sx:P:=(.cons (.asg 3 (.meth (.loc 0) .fA (.cons (.loc 1) .nil))) (.cons (.asg 4 (.call 244 (.cons (.bi .len (.cons (.loc 2) .nil)) (.cons (.attr (.loc 3) .block) .nil)))) (.cons (.sidx (.attr (.loc 0) .bZ) (.loc 1) (.bin .Add (.loc 2) (.bi .bytes (.cons (.bin .Sub (.loc 4) (.bi .len (.cons (.loc 2) .nil))) .nil)))) (.cons (.sattr (.loc 3) .most (.bin .Sub (.bin .FloorDiv (.loc 4) (.attr (.loc 3) .block)) (.lit (.int 1)))) .nil))))
noncomputable def nV:cE:=⟨572,["self","number","octets","dnode","whole"],3,sx⟩
noncomputable def o5:P:=(.cons (.expr (.meth (.loc 0) .fA (.cons (.loc 1) .nil))) (.cons (.iff (.cmp .Lt (.loc 2) (.lit (.int 0))) (.cons (.dead) .nil) .nil) (.cons (.iff (.cmp .Gt (.bi .len (.cons (.loc 3) .nil)) (.lit (.int 0))) (.cons (.asg 4 (.bin .Add (.idx (.attr (.loc 0) .bZ) (.loc 1)) (.bi .bytes (.cons (.bi .Dk (.cons (.lit (.int 0)) (.cons (.bin .Sub (.loc 2) (.bi .len (.cons (.idx (.attr (.loc 0) .bZ) (.loc 1)) .nil))) .nil))) .nil)))) (.cons (.expr (.meth (.loc 0) .put (.cons (.loc 1) (.cons (.bin .Add (.bin .Add (.slcH (.loc 4) (.loc 2)) (.bi .bytes (.cons (.loc 3) .nil))) (.slcL (.loc 4) (.bin .Add (.loc 2) (.bi .len (.cons (.loc 3) .nil))))) .nil)))) .nil)) .nil) .nil)))
noncomputable def lB:cE:=⟨579,["self","number","at","octets","here"],4,o5⟩
noncomputable def sy:P:=(.cons (.ret (.ife (.cmp .Lt (.loc 1) (.bi .len (.cons (.loc 0) .nil))) (.bin .Mod (.idx (.loc 0) (.loc 1)) (.bin .Pow (.lit (.int 2)) (.lit (.int 64)))) (.bin .Add (.bin .Mult (.lit (.int 7919)) (.loc 1)) (.lit (.int 11))))) .nil)
noncomputable def nW:cE:=⟨600,["script","k"],2,sy⟩
noncomputable def vR:P:=(.cons (.asgT [2,3] (.cons (.lst .nil) (.cons (.lst .nil) .nil))) (.cons (.forr [4] false .uK (.cons (.lit (.int 40)) .nil) (.cons (.asg 5 (.call 600 (.cons (.loc 0) (.cons (.bin .Add (.loc 4) (.lit (.int 1))) .nil)))) (.cons (.asg 6 (.bin .Add (.bi .str (.cons (.loc 4) .nil)) (.bin .Mult (.idx (.lit (.str (Str.ofString "abcdefgh"))) (.bin .Mod (.loc 5) (.lit (.int 8)))) (.bin .Add (.lit (.int 1)) (.bin .Mod (.bin .FloorDiv (.loc 5) (.lit (.int 8))) (.lit (.int 3))))))) (.cons (.asg 7 (.bin .FloorDiv (.call 258 (.cons (.loc 6) (.cons (.loc 1) .nil))) (.bin .Pow (.lit (.int 2)) (.lit (.int 25))))) (.cons (.iff (.cmp .Lt (.mcall (.loc 3) .count (.cons (.loc 7) .nil)) (.lit (.int 2))) (.cons (.expr (.mcall (.loc 3) .append (.cons (.loc 7) .nil))) (.cons (.expr (.mcall (.loc 2) .append (.cons (.tup (.cons (.loc 7) (.cons (.loc 6) (.cons (.loc 5) .nil)))) .nil))) .nil)) .nil) .nil))))) (.cons (.ret (.loc 2)) .nil)))
noncomputable def qZ:cE:=⟨607,["script","salt","rows","firsts","k","y","name","first"],2,vR⟩
noncomputable def j3:P:=(.cons (.asg 1 (.comp (.bin .FloorDiv (.idx (.loc 3) (.lit (.int 0))) (.lit (.int 16))) 1 false .ex (.loc 0) (.lit (.bool true)))) (.cons (.asg 2 (.idx (.idx (.bi .sorted (.cons (.comp (.tup (.cons (.mcall (.loc 1) .count (.cons (.loc 3) .nil)) (.cons (.loc 3) .nil))) 1 false .ex (.loc 1) (.lit (.bool true))) .nil)) (.neg 1)) (.lit (.int 1)))) (.cons (.ret (.bin .Add (.comp (.loc 3) 1 false .ex (.loc 0) (.cmp .Eq (.bin .FloorDiv (.idx (.loc 3) (.lit (.int 0))) (.lit (.int 16))) (.loc 2))) (.comp (.loc 3) 1 false .ex (.loc 0) (.cmp .NotEq (.bin .FloorDiv (.idx (.loc 3) (.lit (.int 0))) (.lit (.int 16))) (.loc 2))))) .nil)))
noncomputable def ip:cE:=⟨612,["rows","eighths","full"],1,j3⟩
noncomputable def j4:P:=(.cons (.asgT [3,4] (.cons (.lit (.int 56)) (.cons (.call 401 (.cons (.loc 0) (.cons (.loc 1) (.cons (.loc 2) (.cons (.lit (.int 56)) .nil))))) .nil))) (.cons (.asg 5 (.bin .Add (.attr (.loc 2) .table) (.bin .FloorDiv (.bin .Sub (.bin .Add (.bin .Mult (.lit (.int 4)) (.bi .len (.cons (.loc 4) .nil))) (.loc 3)) (.lit (.int 1))) (.loc 3)))) (.cons (.asgT [6,7] (.cons (.bi .iB (.cons (.attr (.loc 2) .table) (.cons (.loc 5) .nil))) (.cons (.bi .eW (.cons (.loc 4) .nil)) .nil))) (.cons (.iff (.or (.cmp .Gt (.attr (.loc 2) .bits) (.lit (.int 7))) (.or (.cmp .Lt (.idx (.loc 6) (.lit (.int 0))) (.lit (.int 1))) (.cmp .Lt (.idx (.loc 7) (.lit (.int 0))) (.lit (.int 1))))) (.cons (.ret (.lit (.bool false))) .nil) .nil) (.cons (.iff (.or (.cmp .NotEq (.comp (.loc 8) 1 false .ex (.loc 7) (.or (.cmp .In (.loc 8) (.loc 6)) (.cmp .GtE (.loc 8) (.attr (.loc 2) .behind)))) (.lst .nil)) (.cmp .Gt (.loc 5) (.attr (.loc 2) .behind))) (.cons (.ret (.lit (.bool false))) .nil) .nil) (.cons (.ret (.cmp .Eq (.meth (.loc 0) .size (.cons (.loc 1) .nil)) (.bin .Mult (.attr (.loc 2) .behind) (.loc 3)))) .nil))))))
noncomputable def iq:cE:=⟨624,["objset","zap","head","size","table","last","blocks","leaves"],3,j4⟩
noncomputable def ac1:List cE:=[pd,pe,mj,mn,nO,mq,mr,mu,ke,mv,vD,nQ,qN,s6,qO,nR,s7,qP,nS,lx,jE,qQ,s8,mw,pf,qR,ph]
theorem cX(p:Params):ac1.all (bW (KF p))=true:=by kernel_rfl
theorem DS(G:GX):bW G.K pd=true:=aS.mp (cX G.w.params) pd (aH (i:=0) rfl)
theorem DT(G:GX):bW G.K pe=true:=aS.mp (cX G.w.params) pe (aH (i:=1) rfl)
theorem Ai(G:GX):bW G.K mj=true:=aS.mp (cX G.w.params) mj (aH (i:=2) rfl)
theorem Aj(G:GX):bW G.K mn=true:=aS.mp (cX G.w.params) mn (aH (i:=3) rfl)
theorem Bx(G:GX):bW G.K nO=true:=aS.mp (cX G.w.params) nO (aH (i:=4) rfl)
theorem Ak(G:GX):bW G.K mq=true:=aS.mp (cX G.w.params) mq (aH (i:=5) rfl)
theorem Al(G:GX):bW G.K mr=true:=aS.mp (cX G.w.params) mr (aH (i:=6) rfl)
theorem Am(G:GX):bW G.K mu=true:=aS.mp (cX G.w.params) mu (aH (i:=7) rfl)
theorem xF(G:GX):bW G.K ke=true:=aS.mp (cX G.w.params) ke (aH (i:=8) rfl)
theorem An(G:GX):bW G.K mv=true:=aS.mp (cX G.w.params) mv (aH (i:=9) rfl)
theorem Jt(G:GX):bW G.K vD=true:=aS.mp (cX G.w.params) vD (aH (i:=10) rfl)
theorem By(G:GX):bW G.K nQ=true:=aS.mp (cX G.w.params) nQ (aH (i:=11) rfl)
theorem FI(G:GX):bW G.K qN=true:=aS.mp (cX G.w.params) qN (aH (i:=12) rfl)
theorem Ic(G:GX):bW G.K s6=true:=aS.mp (cX G.w.params) s6 (aH (i:=13) rfl)
theorem FJ(G:GX):bW G.K qO=true:=aS.mp (cX G.w.params) qO (aH (i:=14) rfl)
theorem Bz(G:GX):bW G.K nR=true:=aS.mp (cX G.w.params) nR (aH (i:=15) rfl)
theorem Ie(G:GX):bW G.K s7=true:=aS.mp (cX G.w.params) s7 (aH (i:=16) rfl)
theorem FK(G:GX):bW G.K qP=true:=aS.mp (cX G.w.params) qP (aH (i:=17) rfl)
theorem BA(G:GX):bW G.K nS=true:=aS.mp (cX G.w.params) nS (aH (i:=18) rfl)
theorem zl(G:GX):bW G.K lx=true:=aS.mp (cX G.w.params) lx (aH (i:=19) rfl)
theorem wC(G:GX):bW G.K jE=true:=aS.mp (cX G.w.params) jE (aH (i:=20) rfl)
theorem FL(G:GX):bW G.K qQ=true:=aS.mp (cX G.w.params) qQ (aH (i:=21) rfl)
theorem Ig(G:GX):bW G.K s8=true:=aS.mp (cX G.w.params) s8 (aH (i:=22) rfl)
theorem Ao(G:GX):bW G.K mw=true:=aS.mp (cX G.w.params) mw (aH (i:=23) rfl)
theorem DU(G:GX):bW G.K pf=true:=aS.mp (cX G.w.params) pf (aH (i:=24) rfl)
theorem FN(G:GX):bW G.K qR=true:=aS.mp (cX G.w.params) qR (aH (i:=25) rfl)
theorem DV(G:GX):bW G.K ph=true:=aS.mp (cX G.w.params) ph (aH (i:=26) rfl)
noncomputable def ac2:List cE:=[pj,pk,mx,qS,my,qT,qU,s9,ly,qV,qW,qX,qY,ta,nT,pn,kf,mz,lA,mA,mB,kJ,nV,lB,nW,qZ,ip,iq]
theorem cN(p:Params):ac2.all (bW (KF p))=true:=by kernel_rfl
theorem DW(G:GX):bW G.K pj=true:=aS.mp (cN G.w.params) pj (aH (i:=0) rfl)
theorem DX(G:GX):bW G.K pk=true:=aS.mp (cN G.w.params) pk (aH (i:=1) rfl)
theorem Ap(G:GX):bW G.K mx=true:=aS.mp (cN G.w.params) mx (aH (i:=2) rfl)
theorem FO(G:GX):bW G.K qS=true:=aS.mp (cN G.w.params) qS (aH (i:=3) rfl)
theorem Aq(G:GX):bW G.K my=true:=aS.mp (cN G.w.params) my (aH (i:=4) rfl)
theorem FP(G:GX):bW G.K qT=true:=aS.mp (cN G.w.params) qT (aH (i:=5) rfl)
theorem FQ(G:GX):bW G.K qU=true:=aS.mp (cN G.w.params) qU (aH (i:=6) rfl)
theorem Ih(G:GX):bW G.K s9=true:=aS.mp (cN G.w.params) s9 (aH (i:=7) rfl)
theorem FT(G:GX):bW G.K ly=true:=aS.mp (cN G.w.params) ly (aH (i:=8) rfl)
theorem FU(G:GX):bW G.K qV=true:=aS.mp (cN G.w.params) qV (aH (i:=9) rfl)
theorem FV(G:GX):bW G.K qW=true:=aS.mp (cN G.w.params) qW (aH (i:=10) rfl)
theorem FW(G:GX):bW G.K qX=true:=aS.mp (cN G.w.params) qX (aH (i:=11) rfl)
theorem FX(G:GX):bW G.K qY=true:=aS.mp (cN G.w.params) qY (aH (i:=12) rfl)
theorem Ii(G:GX):bW G.K ta=true:=aS.mp (cN G.w.params) ta (aH (i:=13) rfl)
theorem BB(G:GX):bW G.K nT=true:=aS.mp (cN G.w.params) nT (aH (i:=14) rfl)
theorem DY(G:GX):bW G.K pn=true:=aS.mp (cN G.w.params) pn (aH (i:=15) rfl)
theorem xG(G:GX):bW G.K kf=true:=aS.mp (cN G.w.params) kf (aH (i:=16) rfl)
theorem Ar(G:GX):bW G.K mz=true:=aS.mp (cN G.w.params) mz (aH (i:=17) rfl)
theorem zm(G:GX):bW G.K lA=true:=aS.mp (cN G.w.params) lA (aH (i:=18) rfl)
theorem As(G:GX):bW G.K mA=true:=aS.mp (cN G.w.params) mA (aH (i:=19) rfl)
theorem Au(G:GX):bW G.K mB=true:=aS.mp (cN G.w.params) mB (aH (i:=20) rfl)
theorem BC(G:GX):bW G.K kJ=true:=aS.mp (cN G.w.params) kJ (aH (i:=21) rfl)
theorem BE(G:GX):bW G.K nV=true:=aS.mp (cN G.w.params) nV (aH (i:=22) rfl)
theorem zo(G:GX):bW G.K lB=true:=aS.mp (cN G.w.params) lB (aH (i:=23) rfl)
theorem BF(G:GX):bW G.K nW=true:=aS.mp (cN G.w.params) nW (aH (i:=24) rfl)
theorem FY(G:GX):bW G.K qZ=true:=aS.mp (cN G.w.params) qZ (aH (i:=25) rfl)
theorem tM(G:GX):bW G.K ip=true:=aS.mp (cN G.w.params) ip (aH (i:=26) rfl)
theorem tN(G:GX):bW G.K iq=true:=aS.mp (cN G.w.params) iq (aH (i:=27) rfl)
theorem OR{α1:Sort _}{α2:Sort _}{α3:Sort _}{α4:Sort _}{α5:Sort _}{P1:α1->α2->α3->α4->α5->Prop}{p:Prop}(h:∃a1,∃a2,∃a3,∃a4,∃a5,P1 a1 a2 a3 a4 a5)(k:∀a1,∀a2,∀a3,∀a4,∀a5,P1 a1 a2 a3 a4 a5->p):p:=by
 obtain⟨a1,a2,a3,a4,a5,h⟩:=h;exact k a1 a2 a3 a4 a5 h
theorem TC{vs:List Value}(h:vs.length=1):∃a,vs=[a]:=cq (nk h) λa r e h=>⟨a,by rw[e,List.eq_nil_of_length_eq_zero h]⟩
theorem TF{vs:List Value}(h:vs.length=2):∃a b,vs=[a,b]:=cq (nk h) λa r e h=>xE (TC h) λb e'=>⟨a,b,by rw[e,e']⟩
theorem OS{vs:List Value}(h:vs.length=3):∃a b c,vs=[a,b,c]:=cq (nk h) λa r e h=>uG (TF h) λb c e'=>⟨a,b,c,by rw[e,e']⟩
theorem Yn{vs:List Value}(h:vs.length=4):∃a b c d,vs=[a,b,c,d]:=cq (nk h) λa r e h=>PS (OS h) λb c d e'=>⟨a,b,c,d,by rw[e,e']⟩
theorem vs5{vs:List Value}(h:vs.length=5):∃a b c d e,vs=[a,b,c,d,e]:=cq (nk h) λa r e h=>LA (Yn h) λb c d f e'=>⟨a,b,c,d,f,by rw[e,e']⟩
theorem vs6{vs:List Value}(h:vs.length=6):∃a b c d e f,vs=[a,b,c,d,e,f]:=cq (nk h) λa r e h=>OR (vs5 h) λb c d f g e'=>⟨a,b,c,d,f,g,by rw[e,e']⟩
def BD(G:GX)(d:cE):Prop:=∀vs:List Value,vs.length=d.np->∀X,fL G.K X d.f ⟨vs,[]⟩=some (d.aD.zip vs)
theorem sA{G:GX}{D:cE}(e:D.np=1)(q:∀a X,fL G.K X D.f ⟨[a],[]⟩=some (D.aD.zip [a])):BD G D:=λvs hv X=>xE (TC (hv.trans e)) λa hh=>hh▸q a X
theorem oi{G:GX}{D:cE}(e:D.np=2)(q:∀a b X,fL G.K X D.f ⟨[a,b],[]⟩=some (D.aD.zip [a,b])):BD G D:=λvs hv X=>uG (TF (hv.trans e)) λa b hh=>hh▸q a b X
theorem Ij{G:GX}{D:cE}(e:D.np=3)(q:∀a b c X,fL G.K X D.f ⟨[a,b,c],[]⟩=some (D.aD.zip [a,b,c])):BD G D:=λvs hv X=>PS (OS (hv.trans e)) λa b c hh=>hh▸q a b c X
theorem Ik{G:GX}{D:cE}(e:D.np=4)(q:∀a b c d X,fL G.K X D.f ⟨[a,b,c,d],[]⟩=some (D.aD.zip [a,b,c,d])):BD G D:=λvs hv X=>LA (Yn (hv.trans e)) λa b c d hh=>hh▸q a b c d X
theorem TG{G:GX}{D:cE}(e:D.np=5)(q:∀a b c d e X,fL G.K X D.f ⟨[a,b,c,d,e],[]⟩=some (D.aD.zip [a,b,c,d,e])):BD G D:=λvs hv X=>OR (vs5 (hv.trans e)) λa b c d e hh=>hh▸q a b c d e X
theorem bv6{G:GX}{D:cE}(e:D.np=6)(q:∀a b c d e f X,fL G.K X D.f ⟨[a,b,c,d,e,f],[]⟩=some (D.aD.zip [a,b,c,d,e,f])):BD G D:=λvs hv X=>JW (vs6 (hv.trans e)) λa b c d e f hh=>hh▸q a b c d e f X
section
theorem Il:BD G pd:=sA rfl λz z=>by kernel_rfl
theorem Im:BD G pe:=oi rfl λz z z=>by kernel_rfl
theorem DZ:BD G mj:=sA rfl λz z=>by kernel_rfl
theorem D0:BD G mn:=sA rfl λz z=>by kernel_rfl
theorem FZ:BD G nO:=sA rfl λz z=>by kernel_rfl
theorem D4:BD G mq:=Ij rfl λz z z z=>by kernel_rfl
theorem D5:BD G mr:=sA rfl λz z=>by kernel_rfl
theorem D6:BD G mu:=oi rfl λz z z=>by kernel_rfl
theorem Av:BD G ke:=oi rfl λz z z=>by kernel_rfl
theorem D7:BD G mv:=sA rfl λz z=>by kernel_rfl
theorem OT:BD G vD:=oi rfl λz z z=>by kernel_rfl
theorem Ju:BD G qN:=oi rfl λz z z=>by kernel_rfl
theorem Mw:BD G s6:=oi rfl λz z z=>by kernel_rfl
theorem Jv:BD G qO:=oi rfl λz z z=>by kernel_rfl
theorem F1:BD G nR:=oi rfl λz z z=>by kernel_rfl
theorem Mx:BD G s7:=sA rfl λz z=>by kernel_rfl
theorem Jw:BD G qP:=oi rfl λz z z=>by kernel_rfl
theorem F2:BD G nS:=sA rfl λz z=>by kernel_rfl
theorem BH:BD G lx:=bv6 rfl λz z z z z z z=>by kernel_rfl
theorem zp:BD G jE:=sA rfl λz z=>by kernel_rfl
theorem Jx:BD G qQ:=sA rfl λz z=>by kernel_rfl
theorem My:BD G s8:=sA rfl λz z=>by kernel_rfl
theorem D8:BD G mw:=TG rfl λz z z z z z=>by kernel_rfl
theorem Io:BD G pf:=sA rfl λz z=>by kernel_rfl
theorem Jy:BD G qR:=oi rfl λz z z=>by kernel_rfl
theorem Ip:BD G ph:=Ij rfl λz z z z=>by kernel_rfl
theorem Iq:BD G pj:=sA rfl λz z=>by kernel_rfl
theorem Ir:BD G pk:=sA rfl λz z=>by kernel_rfl
theorem D9:BD G mx:=oi rfl λz z z=>by kernel_rfl
theorem Jz:BD G qS:=Ik rfl λz z z z z=>by kernel_rfl
theorem Ea:BD G my:=TG rfl λz z z z z z=>by kernel_rfl
theorem JA:BD G qT:=Ik rfl λz z z z z=>by kernel_rfl
theorem JB:BD G qU:=Ij rfl λz z z z=>by kernel_rfl
theorem Mz:BD G s9:=oi rfl λz z z=>by kernel_rfl
theorem zC:BD G ly:=Ij rfl λz z z z=>by kernel_rfl
theorem JC:BD G qV:=oi rfl λz z z=>by kernel_rfl
theorem JD:BD G qW:=Ij rfl λz z z z=>by kernel_rfl
theorem JE:BD G qX:=TG rfl λz z z z z z=>by kernel_rfl
theorem JF:BD G qY:=bv6 rfl λz z z z z z z=>by kernel_rfl
theorem MA:BD G ta:=Ik rfl λz z z z z=>by kernel_rfl
theorem F3:BD G nT:=Ik rfl λz z z z z=>by kernel_rfl
theorem It:BD G pn:=TG rfl λz z z z z z=>by kernel_rfl
theorem Aw:BD G kf:=Ik rfl λz z z z z=>by kernel_rfl
theorem Eb:BD G mz:=oi rfl λz z z=>by kernel_rfl
theorem BK:BD G lA:=oi rfl λz z z=>by kernel_rfl
theorem Ec:BD G mA:=oi rfl λz z z=>by kernel_rfl
theorem Ed:BD G mB:=Ik rfl λz z z z z=>by kernel_rfl
theorem F6:BD G nV:=Ij rfl λz z z z=>by kernel_rfl
theorem BL:BD G lB:=Ik rfl λz z z z z=>by kernel_rfl
theorem F7:BD G nW:=oi rfl λz z z=>by kernel_rfl
theorem JG:BD G qZ:=oi rfl λz z z=>by kernel_rfl
theorem vS:BD G ip:=sA rfl λz z=>by kernel_rfl
theorem vT:BD G iq:=Ij rfl λz z z z=>by kernel_rfl
end
section
theorem agZ:rU S Q op (.int a) (.int b)=iL op a b λc=>Q (.int c) S:=rfl
theorem ag0:rU S Q op (.bytes a) (.bytes b)=(op=.Add/\a.length+b.length<=sz/\Q (.bytes (a++b)) S):=rfl
theorem ag1:rU S Q op (.bytes a) (.int n)=(op=.Mult/\a≠[]/\0<=n/\n<=1048576/\a.length<=16/\Q (.bytes (List.replicate n.toNat a).flatten) S):=rfl
theorem ag2:rU S Q op (.str a) (.str b)=(op=.Add/\a.length+b.length<=sz/\Q (.str (a++b)) S):=rfl
theorem ag3:rU S Q op (.str a) (.int n)=(op=.Mult/\a.cps.size=1/\1<=n/\n<=3/\Q (.str ⟨(List.replicate n.toNat (a.cps.getD 0 0)).toArray⟩) S):=rfl
theorem ag4:rU S Q op (.ref l) (.int n)=(op=.Mult/\n=4/\∃x,S[l]? =some (.list [.int x])/\dM S Q (.list [.int x,.int x,.int x,.int x])):=rfl
theorem ag5:rU S Q op (.ref l) (.ref m)=(op=.Add/\∃ds es,S[l]? =some (.list ds)/\S[m]? =some (.list es)/\ds.length+es.length<=1000/\dM S Q (.list (ds++es))):=rfl
section
variable {K:Int->Prop}
theorem agk:iL .Add a b K=K (a+b):=rfl
theorem agl:iL .Sub a b K=K (a-b):=rfl
theorem agm:iL .Mult a b K=(a.natAbs<2^64/\b.natAbs<2^64/\K (a*b)):=rfl
theorem agn:iL .FloorDiv a b K=(0<b/\b<1073741824/\K (a/b)):=rfl
theorem ago:iL .Mod a b K=(0<b/\K (a%b)):=rfl
theorem agp:iL .Pow a b K=(0<=b/\b<=1000/\a.natAbs<2^64/\K (a^b.toNat)):=rfl
theorem agq:iL .LShift a b K=(0<=b/\b<=1000/\a.natAbs<2^64/\K (a*2^b.toNat)):=rfl
theorem agr:iL .RShift a b K=(0<=b/\K (a/2^b.toNat)):=rfl
theorem ags:iL .BitXor a b K=K (Builtin.bitXor a b):=rfl
theorem agt:iL .BitAnd a b K=K (Builtin.bitAnd a b):=rfl
end
section
variable {K:Bool->Prop}
theorem k_lt:iM .Lt a b K=K (decide (a<b)):=rfl
theorem ag6:iM .LtE a b K=K (decide (a<=b)):=rfl
theorem ag7:iM .Gt a b K=K (decide (a>b)):=rfl
theorem ag8:iM .GtE a b K=K (decide (a>=b)):=rfl
theorem ag9:iM .Eq a b K=K (decide (a=b)):=rfl
theorem k_ne:iM .NotEq a b K=K (decide (a≠b)):=rfl
end
theorem aha:fX S Q op (.int a) (.int b)=iM op a b λc=>Q (.bool c) S:=rfl
theorem ahb:fX S Q .Eq (.str a) (.str b)=Q (.bool (decide (a=b))) S:=rfl
theorem ahc:fX S Q .NotEq (.str a) (.str b)=Q (.bool (!decide (a=b))) S:=rfl
theorem ahd:fX S Q .Is .none .none=Q (.bool true) S:=rfl
theorem ahe:fX S Q .IsNot .none .none=Q (.bool (!true)) S:=rfl
theorem ahf:fX S Q op (.int a) .none=(vh S Q op false∨(op=.NotEq/\Q (.bool true) S)):=rfl
theorem ahg:fX S Q op (.bytes a) .none=(PV.none=.none/\vh S Q op false):=rfl
theorem ahh:vh S Q .Is b=Q (.bool b) S:=rfl
theorem agu:vh S Q .IsNot b=Q (.bool !b) S:=rfl
theorem agv:fX S Q op .none (.int a)=(op=.NotEq/\Q (.bool true) S):=rfl
theorem agw:fX S Q op (.int a) (.tup [.int b,.int c])=(op=.NotIn/\Q (.bool (!(decide (a=b)||decide (a=c)))) S):=rfl
theorem agx:fX S Q .Eq (.ref l) (.ref m)=ku S l λas=>ku S m λbs=>Q (.bool (decide (as=bs))) S:=rfl
theorem agy:fX S Q .NotEq (.ref l) (.ref m)=ku S l λas=>ku S m λbs=>Q (.bool (!decide (as=bs))) S:=rfl
theorem agz:fX S Q op (.int a) (.ref l)=EH S Q op (.int a) l:=rfl
theorem agA:fX S Q op (.tup ds) (.ref l)=EH S Q op (.tup ds) l:=rfl
theorem ahi:EH S Q .In x l=∃a:cK,x=a.pv/\a.ok=true/\ku S l λas=>Q (.bool (decide (a∈as))) S:=rfl
theorem agB:EH S Q .NotIn x l=((∃a es,x=.int a/\S[l]? =some (.dr es)/\Q (.bool (!(es.any λp=>decide (p.1=a)))) S)∨(∃a:cK,x=a.pv/\a.ok=true/\ku S l λas=>Q (.bool (!decide (a∈as))) S)):=rfl
theorem ahj:aO G lv (.loc 0) (some d::l) S Q=Q d S:=rfl
theorem ahk:aO G lv (.loc (i+1)) (o::l) S Q=aO G lv (.loc i) l S Q:=rfl
theorem ahl{P R:St->Prop}:j8 (.bool t) S P R=AZ t (P S) (R S):=rfl
theorem ahm{K:b9->Prop}:md S lv .ex d K=qI S lv d K:=rfl
theorem ahn{K:b9->Prop}:qI S lv (.str x) K=((∀c∈x.cps,c<128)/\x.cps.size<=1000/\K (.c6 (oQ x))):=rfl
theorem aho{K:b9->Prop}:qI S lv (.bytes b) K=(b.length<=100000/\K (.c6 (ib b))):=rfl
theorem ahp{K:b9->Prop}:qI S lv (.tup ds) K=(lv.hn=true/\ds.length<=8/\K (.c6 ds)):=rfl
theorem ahq{K:b9->Prop}:md S lv .uK (.tup [.int n]) K=(lv.hn=true/\ -100000<=n/\n<=100000/\K (.c6 (bg 0 n.toNat))):=rfl
theorem ahr{K:b9->Prop}:md S lv .Dl (.tup [.int a,.int b]) K=(lv.hn=true/\ -100000<=a/\a<=100000/\ -100000<=b/\b<=100000/\K (.c6 (bg a (b-a).toNat))):=rfl
theorem ahs{K:b9->Prop}:md S lv .EG (.tup [.bytes b]) K=(b.length<=100000/\K (.c6 (uL b))):=rfl
theorem aht:i3 S Q lv .sum [.ref a]=∃ns:List Int,S[a]? =some (.list (ns.map .int))/\ns.length<=1000/\Q (.int ns.sum) S:=rfl
theorem ahu:i3 S Q lv .len [.bytes x]=(x.length<=sz/\Q (.int x.length) S):=rfl
theorem ahv:i3 S Q lv .len [.str x]=(x.cps.size<=sz/\Q (.int x.cps.size) S):=rfl
theorem ahw:i3 S Q lv .ord [.str x]=∃c,x.cps=#[c]/\Q (.int c) S:=rfl
theorem ahx:i3 S Q lv .Nt [.int c]=(0<=c/\c<128/\Q (.str ⟨#[c.toNat]⟩) S):=rfl
theorem ahy:i3 S Q lv .all [.ref a]=∃bs:List Bool,S[a]? =some (.list (bs.map .bool))/\bs.length<=1000/\Q (.bool (bs.all id)) S:=rfl
theorem ahz:i3 S Q lv .bytes [.bytes x]=Q (.bytes x) S:=rfl
theorem ahA:i3 S Q lv .bytes [.int n]=(0<=n/\n<=100000/\Q (.bytes (List.replicate n.toNat 0)) S):=rfl
theorem agC:i3 S Q lv .bytes [.ref a]=((∃x,S[a]? =some (.barr x)/\x.length<=sz/\Q (.bytes x) S)∨(∃ns:List Int,S[a]? =some (.list (ns.map .int))/\(∀n∈ns,0<=n/\n<256)/\ns.length<=100000/\lv.hn=true/\Q (.bytes (ns.map λn=>UInt8.ofNat n.toNat)) S)):=rfl
theorem agD:i3 S Q lv .Dk [.int a,.int b]=(lv.hn=true/\Q (.int (max a b)) S):=rfl
theorem agE:i3 S Q lv .iB [.int a,.int b]=(a<=b/\b-a<=1000/\ -100000<=a/\b<=100000/\lv.hn=true/\dM S Q (.list (bg a (b-a).toNat))):=rfl
theorem agF:i3 S Q lv .str [.int n]=(0<=n/\n<100/\Q (.str (Str.ofString (toString n))) S):=rfl
theorem agG:i3 S Q lv .sorted [.ref a]=(lv.hn=true/\SH S Q a):=rfl
theorem ahB:qb S Q (.tup ds) (.int k)=∃x,0<=k/\ds.length<=8/\ds[k.toNat]? =some x/\Q x S:=rfl
theorem ahC:qb S Q (.bytes b) (.int k)=∃x:UInt8,0<=k/\b.length<=sz/\b[k.toNat]? =some x/\Q (.int x.toNat) S:=rfl
theorem ahD:qb S Q (.str s) (.int k)=∃x,0<=k/\s.cps.size<=1000/\s.cps[k.toNat]? =some x/\x<128/\Q (.str ⟨#[x]⟩) S:=rfl
theorem ahE:qb S Q (.ref a) (.str k)=∃es ep x,S[a]? =some (.bD es ep)/\lk es k=some x/\Q x S:=rfl
theorem ahF:GK S Q (.bytes b) (.int i) (.int j)=(b.length<=100000/\0<=i/\i<=10000000/\0<=j/\j<=10000000/\Q (.bytes ((b.take j.toNat).drop i.toNat)) S):=rfl
theorem ahG:yT S Q (.bytes b) (.int i)=(b.length<=100000/\0<=i/\i<=10000000/\Q (.bytes (b.drop i.toNat)) S):=rfl
theorem ahH:vj S Q (.bytes b) (.int j)=(b.length<=100000/\0<=j/\j<=10000000/\Q (.bytes (b.take j.toNat)) S):=rfl
theorem ahI:yT S Q (.ref a) (.int i)=∃ds,S[a]? =some (.list ds)/\ds.length<=1000/\0<=i/\i<=1000000/\dM S Q (.list (ds.drop i.toNat)):=rfl
theorem ahJ:vj S Q (.ref a) (.int j)=∃ds,GL S a ds/\ds.length<=1000/\0<=j/\j<=1000000/\dM S Q (.list (ds.take j.toNat)):=rfl
theorem ahK{K:Prop}:nI S (.str x) .join K=K:=rfl
theorem ahL{K:Prop}:nI S (.bytes x) .join K=K:=rfl
theorem ahM{K:Prop}:nI S (.ref a) .append K=∃xs,S[a]? =some (.list xs)/\K:=rfl
theorem ahN{K:Prop}:nI S (.ref a) .pK K=∃xs,S[a]? =some (.list xs)/\K:=rfl
theorem ahO{K:Prop}:nI S (.ref a) .EF K=∃xs,S[a]? =some (.list xs)/\K:=rfl
theorem ahP{K:Prop}:nI S (.ref a) .count K=∃xs,S[a]? =some (.list xs)/\K:=rfl
theorem ahQ:uM S Q lv (.ref a) .append [x]=∃xs,S[a]? =some (.list xs)/\xs.length<=100000/\Q .none (S.set a (.list (xs++[x]))):=rfl
theorem ahR:uM S Q lv (.ref a) .pK [.ref b]=∃xs ys,S[a]? =some (.list xs)/\S[b]? =some (.list ys)/\a≠b/\xs.length+ys.length<=100000/\lv.hn=true/\Q .none (S.set a (.list (xs++ys))):=rfl
theorem ahS:uM S Q lv (.ref a) .EF [.int i]=∃xs x,S[a]? =some (.list xs)/\xs.length<=1000/\0<=i/\xs[i.toNat]? =some x/\Q x (S.set a (.list (xs.eraseIdx i.toNat))):=rfl
theorem ahT:uM S Q lv (.ref a) .count [.int x]=∃ns:List Int,S[a]? =some (.list (ns.map .int))/\ns.length<=1000/\Q (.int (ns.count x)) S:=rfl
theorem ahU:uM S Q lv (.str GJ) .join [.ref b]=(GJ=Str.empty/\∃xs:List Str,S[b]? =some (.list (xs.map .str))/\xs.length<=1000/\(∀x∈xs,x.cps.size<=1)/\Q (.str ⟨(xs.flatMap λx=>x.cps.toList).toArray⟩) S):=rfl
theorem ahV:uM S Q lv (.bytes GJ) .join [.ref b]=(GJ=[]/\∃xs:List (List UInt8),S[b]? =some (.list (xs.map .bytes))/\xs.length<=1000/\(∀x∈xs,x.length<=1000)/\lv.hn=true/\Q (.bytes xs.flatten) S):=rfl
theorem agH:dM S Q o=Q (.ref S.length) (S++[o]):=rfl
end
theorem KV(h:ds.all PV.atom=true):Sc n (.tup ds):=λd hd=>by
 have:=aS.mp h d hd;cases d<;>first | exact trivial | exact nomatch this
theorem ahW:lq .next=.none:=rfl
theorem ahX:lq (.ret d)=d:=rfl
theorem Vr(h:d.atom=true):Sc n d:=by cases d<;>first | exact trivial | exact nomatch h
theorem uW{K:Type}{fs:List (K×PV)}(h:(fs.all λp=>p.2.atom)=true):∀p∈fs,Sc n p.2:=λp hp=>Vr (aS.mp h p hp)
theorem lu.nil:lu n [] []:=⟨rfl,λz z e=>nomatch e⟩
theorem lu.s(h:Sc n d)(x:lu n bN l):lu n (some d::bN) (some d::l):=⟨bE Nat.succ x.1,λi e=>match i with
 | 0=>λh'=>by cases h';exact⟨rfl,h⟩
 | i+1=>x.2 i e⟩
theorem lu.n{n:Nat}(x:lu n bN l):lu n (none::bN) (w::l):=⟨bE Nat.succ x.1,λi e=>match i with
 | 0=>λh'=>nomatch h'
 | i+1=>x.2 i e⟩
theorem fN(h:k [some d]):fY 1 false d k:=⟨rfl,h⟩
theorem aaj{d e:PV}(h:k [some d,some e]):fY 2 true (.tup [d,e]) k:=⟨rfl,h⟩
theorem Iu(h:k (l.set i (some d))):fJ [i] false d l k:=⟨i,rfl,h⟩
theorem MB(hl:ds.length=is.length)(h:k (d8 is ds l)):fJ is true (.tup ds) l k:=⟨hl,h⟩
theorem Zx:d8 is [] l=l:=by cases is<;>rfl
theorem Yo:d8 (i::is) (d::ds) l=d8 is ds (l.set i (some d)):=rfl
theorem aak:d8 [] [] l=l:=rfl
section
variable {K Q:Fl->a9->St->Prop}
theorem fF{P R:St->Prop}(h:t=true)(q:P S):j8 (.bool t) S P R:=⟨λz=>q,λe=>absurd (h.symm.trans e) (λq=>nomatch q)⟩
theorem b6{P R:St->Prop}(h:t=false)(q:R S):j8 (.bool t) S P R:=⟨λe=>absurd (h.symm.trans e) (λq=>nomatch q),λz=>q⟩
theorem MC[Decidable p]{P R:St->Prop}(h1:p->P S)(h2:¬ p->R S):j8 (.bool (decide p)) S P R:=⟨λe=>h1 (aN e),λe=>h2 (of_decide_eq_false e)⟩
theorem Yp{P R:St->Prop}(h:a=true->b=false)(r:R S):j8 (.bool a) S (λaa=>j8 (.bool b) aa P R) (λaa=>j8 (.bool false) aa P R):=by
 cases a with
 | true=>exact fF (P:=λaa=>j8 (.bool b) aa P R) rfl (b6 (h rfl) r)
 | false=>exact b6 (R:=λaa=>j8 (.bool false) aa P R) rfl (b6 rfl r)
theorem sC(aC:b9)(hi:∀KK:b9->St->Prop,KK aC S->qy G lv it its l S KK)(I:Nat->a9->St->Prop)(h0:I 0 l S)(cD:∀k l' S',I k l' S'->aC.nh S')
  (iP:∀k l' S' d (KB:Fl->a9->St->Prop),I k l' S'->aC.items[k]? =some d->(∀l₂ af bN aL,gA S l₂ af bN aL->I (k+1) bN aL->KB .next l₂ af)->(∀d l₂ af,K (.ret d) l₂ af->KB (.ret d) l₂ af)->fJ is tup d l' λl₁=>bI G lv b l₁ S' KB)
  (oX:∀l' S',I aC.items.length l' S'->K .next l' S'):bI G lv (.forr is tup it its b) l S K :=
 LL.mpr (hi _ ⟨I,h0,cD,λk l' S' d hI hd=>iP k l' S' d _ hI hd (λl₂ af bN aL a b=>⟨bN,aL,a,b⟩) λz z z q=>q,oX⟩)
theorem Iv(I:Nat->a9->St->Prop)(n:Nat)(h0:I n l S)
  (h:∀n l' S',I n l' S'->∀P R:St->Prop,(∀aa,(∀KB:Fl->a9->St->Prop,(∀l₂ af bN aL m,gA S l₂ af bN aL->m<n->I m bN aL->KB .next l₂ af)->(∀d l₂ af,K (.ret d) l₂ af->KB (.ret d) l₂ af)->bI G lv b l' aa KB)->P aa)->(∀aa,K .next l' aa->R aa)->aO G lv t l' S' λx aa=>j8 x aa P R):bI G lv (.whil t b) l S K :=
 Kb.mpr ⟨I,n,h0,λn l' S' hI=>h n l' S' hI _ _ (λaa q=>q _ (λl₂ af bN aL m a b c=>⟨bN,aL,a,m,b,c⟩) λz z z q=>q) λz q=>q⟩
theorem MD{step:PV->St->(Option PV->St->Prop)->Prop}{K:List PV->St->Prop}(f:α->PV)(g:α->Option PV)(cD:aC.nh S)(xs:List α):∀(bA:List PV),(∀a∈xs,∀k:Option PV->St->Prop,k (g a) S->step (f a) S k)->K (bA++xs.filterMap g) S->lj step aC (xs.map f) bA S K:=by
 induction xs with
 | nil=>exact λbA z hK=>⟨cD,kU bA▸hK⟩
 | cons d r ih =>
  refine λbA hs hK=>⟨cD,hs d (.head _) _ (ih _ (λd hd=>hs d (.tail _ hd)) ?_)⟩;obtain this:bA++(d::r).filterMap g=bA++(g d).toList++r.filterMap g:=by
   rw[CM,aw];cases g d<;>rfl
  exact this▸hK
theorem y9{Q:PV->St->Prop}(xs:List α)(f:α->PV)(g:α->Option PV)(aC:b9)(aa:St)(hi:∀KK:b9->St->Prop,KK aC aa->qy G lv it its l S KK)(qe:aC.items=xs.map f)(av:xs.length<=1000000)(cD:aC.nh aa)
  (hs:∀a∈xs,∀k:Option PV->St->Prop,k (g a) aa->fY n tup (f a) λys=>aO G lv gG (l++ys) aa λt af=>j8 t af (λaf=>aO G lv fj (l++ys) af λr aL=>k (some r) aL) (k none))
  (q:Q (.ref aa.length) (aa++[.list (xs.filterMap g)])):aO G lv (.comp fj n tup it its gG) l S Q :=
 GN.mpr (hi _ ⟨by rw[qe,aK];exact av,by rw[qe];exact MD f g cD xs [] hs q⟩)
theorem ij{Q:PV->St->Prop}(xs:List α)(f g:α->PV)(aC:b9)(hi:∀KK:b9->St->Prop,KK aC S->qy G lv it its l S KK)(qe:aC.items=xs.map f)(av:xs.length<=1000000)(cD:aC.nh S)
  (hs:∀a∈xs,∀k:PV->St->Prop,k (g a) S->fY n tup (f a) λys=>aO G lv fj (l++ys) S k)
  (q:Q (.ref S.length) (S++[.list (xs.map g)])):aO G lv (.comp fj n tup it its (.lit (.bool true))) l S Q :=
 y9 xs f (λa=>some (g a)) aC S hi qe av cD (λa ha k hk=>wo (hs a ha (λr aL=>k (some r) aL) hk) λys h=>ZH.mpr (fF (P:=λaf=>aO G lv fj (l++ys) af λr aL=>k (some r) aL) rfl h)) (by rw[show(λa=>some (g a))=some∘g from rfl,List.filterMap_eq_map];exact q)
section
variable {Q:PV->St->Prop}
theorem aI(h1:S[x]? =some (.bc c dx))(h2:S[dx]? =some (.aA c fs))(h3:lk fs f=some v)(q:Q v S):AX S Q (.ref x) f:=⟨c,dx,fs,v,h1,h2,h3,q⟩
theorem bo{K:Addr->Nat->Prop}{f:Addr}(h1:S[x]? =some (.bc c dx))(h2:S[dx]? =some (.aA c fs))(h3:LF c m=some f)(q:K f x):nJ S (.ref x) m K:=⟨c,dx,fs,f,h1,h2,h3,q⟩
theorem bC(h1:S[x]? =some (.bc c dx))(h2:S[dx]? =some (.aA c fs))(h3:f∈lT c)(h4:fs.length<20)(q:Ks (S.set dx (.aA c (put fs f d)))):rV S (.ref x) f d Ks:=⟨c,dx,fs,h1,h2,h3,h4,q⟩
theorem pW(h:S[a]? =some (.list ds))(hl:ds.length<=100000)(h0:0<=k)(hx:ds[k.toNat]? =some d)(q:Q d S):qb S Q (.ref a) (.int k):=.inl ⟨ds,d,h,hl,.inl ⟨h0,hx⟩,q⟩
theorem Vs(h:S[a]? =some (.list ds))(hl:ds.length<=100000)(hx:ds.getLast? =some d)(q:Q d S):qb S Q (.ref a) (.int (-1)):=.inl ⟨ds,d,h,hl,.inr ⟨rfl,hx⟩,q⟩
theorem xH(h:S[a]? =some (.dr es))(hx:lk es k=some d)(q:Q d S):qb S Q (.ref a) (.int k):=.inr ⟨es,d,h,hx,q⟩
theorem Vt(h:S[a]? =some (.list ds))(hl:ds.length<=1000)(h0:0<=k)(hk:k<ds.length)(q:Ks (S.set a (.list (ds.set k.toNat d)))):AY S (.ref a) (.int k) d Ks:=.inl ⟨ds,h,hl,h0,hk,q⟩
theorem Ee(h:S[a]? =some (.dr es))(hl:es.length<=1000)(q:Ks (S.set a (.dr (put es k d)))):AY S (.ref a) (.int k) d Ks:=.inr ⟨es,h,hl,q⟩
theorem eY{K:b9->Prop}(h:S[a]? =some (.list ds))(hl:ds.length<=100000)(q:K (.list a ds)):qI S lv (.ref a) K:=.inl ⟨ds,h,hl,q⟩
theorem lZ(h:S[a]? =some (.list ds))(hl:ds.length<=sz)(q:Q (.int ds.length) S):i3 S Q lv .len [.ref a]:=.inl ⟨ds,h,hl,q⟩
theorem KW(h:S[a]? =some (.bD es ep))(hl:es.length<=1000)(q:Q (.int es.length) S):i3 S Q lv .len [.ref a]:=.inr ⟨es,ep,h,hl,q⟩
end
end
local macro_rules | `(tactic| walk_at $k)=>do let a:=(("agf WY ZG af8 af9 ZH aga ahj ahk ZI ZJ agd SJ WL SM Nv ZK ZL ZM adz adA WM ZN ZO WN WO WQ ZP WR Uq Qh age WS w_i ZQ WT WU Ur WV ZR adM ack WX adO adN agO agP agQ agR agS agT agZ ag0 ag1 ag2 ag3 ag4 ag5 agk agl agm agn ago agp agq agr ags agt k_lt ag6 ag7 ag8 ag9 k_ne aha ahb ahc ahd ahe ahf ahg ahh agu agv agw agx agy agz agA ahi agB ahm ahn aho ahp ahq ahr ahs aht ahu ahv ahw ahx ahy ahz ahA agC agD agE agF ahB ahC ahD ahE ahF ahG ahH ahI ahJ ahK ahL ahM ahN ahO ahP ahQ ahR ahS ahT ahU ahV agH List.getElem?_cons_zero List.getElem?_cons_succ List.set_cons_zero List.set_cons_succ Yo aak List.cons_append List.nil_append ahW ahX"++if k.getString="n" then " agK YS agI YP aat aau YQ agJ YR aav" else "").splitOn " ").toArray.map λs=>Lean.mkIdent s.toName;`(tactic| first | ((first | (with_reducible first | refine WZ ?_ | refine ZS ?_ | refine acm ?_) | (refine (?h:Hm ?S ?T) ?e ?g;(case e=>dsimp only [$[↓$a:ident],*];exact sm _);case h=>exact λ_ g=>g));walk_at $k) | skip)
section
variable {Q:PV->St->Prop}
theorem ME(hb:0<b)(i4:b<1000000)(ha:a<1000000)(q:Q (.int ((a+b-1)/b*b:Nat)) S):aT G ⟨n+1,hn⟩ 244 [.int a,.int b] S Q:=by
 refine dF (FI G) rfl Ju λy y=>?_;show bI _ _ vE [some (.int a),some (.int b)] _ _;unfold vE;walk_at "s";obtain e:((a:Int)+b-1)/b*b=((a+b-1)/b*b:Nat):=by
  simp only[Int.natCast_mul,C8]
  congr 2
  exact kW (az 0x7cb5440f0cd9b9410b89671e279 cP) (az 0x7c9de05998d8ae2dd2e5e8a6427 (ba (ag 0x50c7dfefca057 hb)))
 obtain e2:((a:Int)+b-1)/b=((a+b-1)/b:Nat):=by
  rw[C8];congr 1;exact kW (az 0x7cb5440f0cd9b9410b89671e279 cP) (az 0x7c9de05998d8ae2dd2e5e8a6427 (ba (ag 0x50c7dfefca057 hb)))
 obtain h3:(a+b-1)/b<=a+b-1:=Nat.div_le_self _ _;refine⟨ah 663134467575 hb,ah 0xd3dc915aa8f1a9721877b63f i4,by rw[e2];generalize(a+b-1)/b=z at h3;exact bO 0xb448b9b59efe328a75baf13a48f47298bda57ef21483123f i4 ha h3 (cV _ _),Mine.rN (aJ i4 (by decide)),.same ?_⟩;rw[e];exact q
theorem OU(hb:0<b)(i4:b<1000000)(q:Q (.int ((a+b-1)/b:Nat)) S):aT G ⟨n+1,hn⟩ 251 [.int a,.int b] S Q:=by
 refine dF (Ic G) rfl Mw λz z=>?_;show bI _ _ xx [some (.int a),some (.int b)] _ _;unfold xx;walk_at "s";obtain e2:((a:Int)+b-1)/b=((a+b-1)/b:Nat):=by
  rw[C8];congr 1;exact kW (az 0x7cb5440f0cd9b9410b89671e279 cP) (az 0x7c9de05998d8ae2dd2e5e8a6427 (ba (ag 0x50c7dfefca057 hb)))
 refine⟨ah 663134467575 hb,ah 0xd3dc915aa8f1a9721877b63f i4,.same ?_⟩;rw[e2];exact q
theorem iX(hb:b.length<=8)(q:Q (.int (num b)) S):aT G ⟨n+1,hn⟩ 94 [.bytes b] S Q:=by
 refine dF (DS G) rfl Il λhS z=>?_;show bI _ _ tF [some (.bytes b)] _ _;unfold tF;walk_at "s";refine ij b.zipIdx (λp=>.tup [.int (p.2:Int),.int p.1.toNat]) (λp=>.int ((p.1.toNat:Int)*2^(8*(p.2:Int)).toNat)) (.c6 (uL b)) (λKK h=>?_) rfl (by simp;exact ab hb (by decide)) trivial (λp hp k hk=>?_) ?_
 ·walk_at "s";exact⟨ab hb (by decide),h⟩
 ·obtain h1:p.2<b.length:=by
   obtain this:=List.snd_lt_of_mem_zipIdx hp;exact this
  obtain h2:=p.1.toNat_lt;refine aaj ?_;walk_at "s";exact⟨by decide,ag 0x1f68f056fc1fc4f4d8b hb h1,ah 647950211275,ag 0x917df0fd352a5deac1cbd17c7c847f085b hb h1,Mine.rN (aJ h2 (by decide)),hk⟩
 ·walk_at "s";refine⟨b.zipIdx.map λp=>(p.1.toNat:Int)*2^(8*(p.2:Int)).toNat,?_,by simp;exact ab hb (by decide),.kI hS trivial ?_⟩
  ·rw[eu,bQ];rfl
  ·obtain this:=J1 b 0;show Q (.int _) S;rw[this];simpa using q
theorem cf(hx:x<256^k)(hk:k<=8)(q:Q (.bytes (le k x)) S):aT G ⟨n+1,true⟩ 99 [.int x,.int k] S Q:=by
 refine dF (DT G) rfl Im λhS y=>?_;show bI _ _ tG [some (.int x),some (.int k)] _ _;unfold tG;walk_at "s";refine fF (by simp) ?_;walk_at "s";refine⟨gb k,ah 0xafe39487595a6e79b hk,by decide,b6 ?_ ?_⟩
 ·obtain this:(x:Int)<256^(k:Int).toNat:=by
   obtain this:((x:Nat):Int)<((256^k:Nat):Int):=by exact Mine.nlt hx
   simpa using this
  simpa using this
 walk_at "s";refine ij (List.range k) (λ(i:Nat)=>.int (0+(i:Int))) (λ(i:Nat)=>.int (((x:Int)/2^(8*(i:Int)).toNat)%256)) (.c6 (bg 0 k)) (λKK h=>?_) rfl (by simp;exact ab hk (by decide)) trivial (λi hi kk cC=>?_) ?_
 ·walk_at "s";exact⟨rfl,ah 0x38299632611b5f77,ah 0x6b5aa760d358c7f26f9b hk,h⟩
 ·obtain this:i<k:=by simpa using hi
  refine fN ?_;walk_at "s";rw[kY,PyProof.Rows.bitAnd_m8];exact⟨by decide,ag 0x1f68f056fc1fc4f4d8b hk this,ah 647950211275,cC⟩
 ·walk_at "s";refine .inr ⟨(List.range k).map λ(i:Nat)=>((x:Int)/2^(8*(i:Int)).toNat)%256,?_,λz hz=>?_,by simp;exact ab hk (by decide),rfl,.kI hS trivial ?_⟩
  ·rw[eu,bQ];rfl
  ·apply eN (bH.mp hz);intro i _;lia
  ·rw[bQ];obtain this:=Qa k x;rw[<- this]at q;exact q
end
section
variable {Q:PV->St->Prop}
theorem OV(h:hG x):∀c∈x.cps,c<128:=λc hc=>by
 obtain this:=h c (by simpa using hc);exact ah 0x9fa11e948c06d0bdf this.2
theorem qr(h:hG x)(hz:x.cps.size<=255)(q:Q (.bytes (pI x)) S):aT G ⟨n+1,true⟩ 104 [.str x] S Q:=by
 refine dF (Ai G) rfl DZ λhS y=>?_;show bI _ _ qf [some (.str x),none] _ _;unfold qf;walk_at "s";refine ij x.cps.toList (λc=>.str ⟨#[c]⟩) (λ(c:Nat)=>.int (c:Int)) (.c6 (oQ x)) (λKK h'=>?_) rfl (by simp;exact ab hz (by decide)) trivial (λc hc k hk=>?_) ?_
 ·walk_at "s";exact⟨OV h,ab hz (by decide),h'⟩
 ·refine fN ?_;walk_at "s";exact⟨c,rfl,hk⟩
 walk_at "s";refine ij x.cps.toList (λ(c:Nat)=>.int (c:Int)) (λy=>.bool true) (.list S.length (x.cps.toList.map λ(c:Nat)=>.int (c:Int))) (λKK h'=>?_) rfl (by simp;exact ab hz (by decide)) (by simp[b9.nh]) (λc hc k hk=>?_) ?_
 ·walk_at "s";exact eY eu (by simp;exact ab hz (by decide)) h'
 ·obtain this:=h c hc;refine fN ?_;walk_at "s";refine fF (by simp;exact ah 0x38299b3686e37e1b this.1) ?_;walk_at "s";rw[cH (by exact ah 0x234c06513259dafe25f this.2)];exact hk
 ·walk_at "s";refine⟨x.cps.toList.map λy=>true,?_,by simp;exact ab hz (by decide),b6 ?_ ?_⟩
  ·simp
  ·simp
  walk_at "s";refine .inr ⟨x.cps.toList.map λ(c:Nat)=>(c:Int),?_,λz hz=>?_,by simp;exact ab hz (by decide),rfl,?_⟩
  ·simp
  ·apply eN (bH.mp hz);intro c hc;obtain this:=h c hc;exact⟨ah 5180075,ah 0x23480b99cee6237985f this.2⟩
  ·rw[aw];refine .kI hS trivial ?_;show Q (.bytes _) S;rw[bQ];exact q
theorem F8(h:hG x)(hz:x.cps.size<=255)(q:Q (.str x) S):aT G ⟨n+1,hn⟩ 109 [.bytes (pI x)] S Q:=by
 refine dF (Aj G) rfl D0 λhS z=>?_;show bI _ _ qg [some (.bytes (pI x))] _ _;unfold qg;have Yq:ib (pI x)=x.cps.toList.map λ(c:Nat)=>PV.int (c:Int):=by
  unfold ib;obtain this:=Qc h
  rewrite[<- this,bQ]
  rfl
 walk_at "s";refine ij x.cps.toList (λ(c:Nat)=>.int (c:Int)) (λz=>.bool true) (.c6 (ib (pI x))) (λKK h'=>?_) Yq (by simp;exact ab hz (by decide)) trivial (λc hc k hk=>?_) ?_
 ·walk_at "s";exact⟨by rw[dI];exact ab hz (by decide),h'⟩
 ·have:=h c hc;refine fN ?_;walk_at "s";refine fF (by simp;exact ah 0x38299b3686e37e1b this.1) ?_;walk_at "s";rw[cH (by exact ah 0x234c06513259dafe25f this.2)];exact hk
 ·walk_at "s";refine⟨x.cps.toList.map λz=>true,?_,by simp;exact ab hz (by decide),b6 ?_ ?_⟩
  ·simp
  ·simp
  walk_at "s";refine ij x.cps.toList (λ(c:Nat)=>.int (c:Int)) (λc=>.str ⟨#[c]⟩) (.c6 (ib (pI x))) (λKK h'=>?_) Yq (by simp;exact ab hz (by decide)) trivial (λc hc k hk=>?_) ?_
  ·walk_at "s";exact⟨by rw[dI];exact ab hz (by decide),h'⟩
  ·have:=h c hc;refine fN ?_;walk_at "s";exact⟨gb c,ah 0x23504284f3ed5062a5f this.2,hk⟩
  ·walk_at "s";refine⟨rfl,x.cps.toList.map λc=>⟨#[c]⟩,by simp,by simp;exact ab hz (by decide),λy hy=>?_,?_⟩
   ·apply eN (bH.mp hy);intro c _;simp
   ·rw[aw];refine .kI hS trivial ?_;show Q (.str _) S;obtain this:(⟨((x.cps.toList.map λc=>(⟨#[c]⟩:Str)).flatMap λx=>x.cps.toList).toArray⟩:Str)=x:=by
     cases x with
     | mk cps =>
      congr 1
      rw[List.flatMap_map];simp
    rw[this];exact q
theorem Iw(h:b.length<=k)(hk:k<=1000)(q:Q (.bytes (b++List.replicate (k-b.length) 0)) S):aT G ⟨n+1,hn⟩ 215 [.bytes b,.int k] S Q:=by
 refine dF (Jt G) rfl OT λhS z=>?_;show bI _ _ Ah [some (.bytes b),some (.int k)] _ _;unfold Ah;walk_at "s";obtain ek:sz=16777216:=rfl;refine⟨ab h (ab hk (by decide)),b6 (by simp;exact h) ?_⟩;walk_at "s";obtain e:((k:Int)-(b.length:Int)).toNat=k-b.length:=by exact bu (bO 0x38dd3a00ab57102cca497c9 cP (gX (ag 80876585015715101 h))) (bO 0x38e54980bee1a24855b46a5 (i9 _) (ba (ag 11262715101 h)))
 refine⟨ab h (ab hk (by decide)),ag 80876585015715101 h,ag 0x1868d4fe9fd0cf7fc98ccf9678a3f hk,rfl,?_,.same ?_⟩
 ·rw[e,jG];exact az 0x8185d745268d87fbf26a125d383d3eb1f5 h hk (cV _ _)
 ·rw[e];exact q
theorem sD{t k:Nat}(hk:k<=32)(q:Q (.int (t/2^(32-k):Nat)) S):aT G ⟨n+1,hn⟩ 265 [.int t,.int k] S Q:=by
 refine dF (Bz G) rfl F1 λhS z=>?_;show bI _ _ so [some (.int t),some (.int k)] _ _;unfold so;walk_at "s";refine⟨ah 0x2240a83a4812f6d0f17 hk,.same ?_⟩;obtain e:((32:Int)-k).toNat=32-k:=by exact bu (az 0x6c65fd98c9d5db4d608c569ed7b cP (gX (ah 0x2240a83a4812f6d0f17 hk))) (az 0x6c755e45175e1fcb2a0853af9db (i9 _) (ba (ah 0xfdc4914b0a7217 hk)))
 show Q (.int _) S;rw[e];obtain this:(t:Int)/2^(32-k)=((t/2^(32-k):Nat):Int):=by simp
 rw[this];exact q
theorem td(hk:k<1000)(q:Q (.int ((k*2654435761+40503)%2^32:Nat)) S):aT G ⟨n+1,hn⟩ 272 [.int k] S Q:=by
 refine dF (Ie G) rfl Mx λhS z=>?_;show bI _ _ xy [some (.int k)] _ _;unfold xy;walk_at "s";refine⟨Mine.rN (aJ hk (by decide)),by decide,by decide,by decide,by decide,by decide,.same ?_⟩;exact q
theorem pX(h:b[0]? =some x)(hz:b.length<=1000)(hx:x.toNat=1∨x.toNat=2)(q:Q (.int x.toNat) S):aT G ⟨n+1,hn⟩ 335 [.bytes b] S Q:=by
 refine dF (Ig G) rfl My λhS z=>?_;show bI _ _ xB [some (.bytes b)] _ _;unfold xB;obtain ek:sz=16777216:=rfl;walk_at "s";refine⟨x,by decide,ab hz (by decide),h,?_⟩;refine⟨by decide,rfl,b6 ?_ ?_⟩
 ·rcases hx with hx | hx<;>simp[hx]
 walk_at "s";exact⟨x,by decide,ab hz (by decide),h,.same q⟩
theorem tO(h:b[0]? =some x)(hz:b.length<=1000)(hx:x.toNat=3)(q:Q .none S):aT G ⟨n+1,hn⟩ 347 [.bytes b] S Q:=by
 refine dF (DU G) rfl Io λhS z=>?_;show bI _ _ tH [some (.bytes b)] _ _;unfold tH;obtain ek:sz=16777216:=rfl;walk_at "s";refine⟨x,by decide,ab hz (by decide),h,b6 (by simp;exact ah 0xc96230feaf8e30357 hx) ?_⟩;walk_at "s";exact .same q
end
section
variable {Q:PV->St->Prop}
theorem nX(hs:salt<4294967296)(h:∀c∈x.cps.toList,c<128)(hz:x.cps.size<=255)(q:Q (.int (aU x salt)) S):aT G ⟨n+1,hn⟩ 258 [.str x,.int salt] S Q:=by
 refine dF (FJ G) rfl Jv λhS z=>?_;show bI _ _ vF [some (.str x),some (.int salt),none,none] _ _;unfold vF;obtain h0:=wD (x:=(salt:Int)) (y:=2654435769) (gb salt) (ah 0x238b8e3795694fc14d7 hs) (by decide) (by decide);walk_at "s";refine sC (.c6 (oQ x)) (λKK h'=>?_) (λk l' S'=>S'=S/\∃w,l'=[some (.str x),some (.int salt),some (.int ((x.cps.toList.take k).foldl k9 (Builtin.bitXor salt 2654435769))),w]) ⟨rfl,none,by simp⟩ (λz z z z=>trivial) (λk l' S' d KB hI hd kg BN=>?_) λl' S' hI=>?_
 ·walk_at "s";exact⟨λc hc=>h c (by simpa using hc),ab hz (by decide),h'⟩
 ·refine xAE hI λdc w dn=>?_;obtain rfl:=dc;obtain rfl:=dn;obtain hd:(oQ x)[k]? =some d:=hd;unfold oQ at hd;rw[cv]at hd;cases hc:x.cps.toList[k]? with
  | none=>rw[hc]at hd;cases hd
  | some c =>
   rw[hc]at hd;obtain rfl:PV.str ⟨#[c]⟩=d:=by simpa using hd
   obtain hcm:=h c (aH hc);obtain hf:=J3 (x.cps.toList.take k) h0;obtain hx:=wD (y:=(c:Int)) hf.1 hf.2 (gb c) (ah 0x238b8e379568fc4dc6f hcm);refine Iu ?_;walk_at "s";refine⟨c,rfl,wb 0x3be8dfa95619fdd530b1c83 hx.2 (t6 (j6 12896978175 hx.1)),by decide,by decide,by decide,by decide,by decide,?_⟩;walk_at "s";refine kg _ _ _ _ (gA.refl _ _ _) ⟨rfl,some (.str ⟨#[c]⟩),?_⟩;rw[iG,hc,yy];rfl
 ·refine xAE hI λdX w fB=>?_;obtain rfl:=dX;obtain rfl:=fB;obtain e:(b9.c6 (oQ x)).items.length=x.cps.toList.length:=by simp[b9.items,oQ]
  rw[e,gv];obtain hf:=J3 x.cps.toList h0;obtain hq:=AN x salt;generalize x.cps.toList.foldl k9 (Builtin.bitXor salt 2654435769)=f at hf hq;obtain h1:=wD (y:=f/2^15) hf.1 hf.2 (by lia) (by lia);walk_at "s";obtain e1:f/2^(15:Int).toNat=f/2^15:=rfl;rw[e1];refine⟨by decide,wb 0x3be8dfa95619fdd530b1c83 h1.2 (t6 (j6 12896978175 h1.1)),by decide,by decide,by decide,by decide,by decide,?_⟩;walk_at "s";unfold wF at hq;dsimp only at hq;obtain e2:Builtin.bitXor f (f/2^15)*2246822519%2^(32:Int).toNat=Builtin.bitXor f (f/2^15)*2246822519%2^32:=rfl;rw[e2];obtain h2:0<=Builtin.bitXor f (f/2^15)*2246822519%2^32/\Builtin.bitXor f (f/2^15)*2246822519%2^32<4294967296:=by lia
  generalize Builtin.bitXor f (f/2^15)*2246822519%2^32=g at hq h2;obtain h3:=wD (y:=g/2^13) h2.1 h2.2 (by lia) (by lia);obtain e3:g/2^(13:Int).toNat=g/2^13:=rfl;rw[e3];refine⟨by decide,wb 0x3be8dfa95619fdd530b1c83 h3.2 (t6 (j6 12896978175 h3.1)),by decide,by decide,by decide,by decide,by decide,?_⟩;walk_at "s";refine⟨by decide,(.same ?_)⟩;show Q (.int _) _;rw[hq]at q;exact q
theorem MG{k:Nat}(h:hG x)(h0:0<x.cps.size)(h1:x.cps.size<=28)(hk:k<0x10000000000000000)(q:Q .none S):aT G ⟨n+2,true⟩ 279 [.str x,.int k] S Q:=by
 refine dF (FK G) rfl Jw λhS z=>?_;show bI _ _ vG [some (.str x),some (.int k)] _ _;unfold vG;obtain ek:sz=16777216:=rfl;walk_at "s";refine qr h (ab h1 (by decide)) ?_;walk_at "s";rw[dI];refine⟨ab h1 (by decide),fF (by simp;exact h0) ?_⟩;walk_at "s";refine b6 (by simp;exact ah 0x38809c7d662a4b43 h1) ?_;walk_at "s";refine fF (by simp) ?_;walk_at "s";refine⟨by decide,by decide,by decide,b6 ?_ ?_⟩
 ·obtain this:(256:Int)^(8:Int).toNat=0x10000000000000000:=by decide
  rw[this];simp;exact ah 0x238bbae2e17b92ca0b3 hk
 walk_at "s";exact .same q
theorem tP(h:b[0]? =some x)(h':b[1]? =some y)(hz:b.length<=1000)(hx:x.toNat=3)(q:Q (.tup [.int y.toNat,.int (num ((b.take 8).drop 4))]) S):aT G ⟨n+2,hn⟩ 375 [.bytes b] S Q:=by
 refine dF (DX G) rfl Ir λhS z=>?_;show bI _ _ tK [some (.bytes b)] _ _;unfold tK;obtain ek:sz=16777216:=rfl;walk_at "s";refine tO h hz hx ?_;walk_at "s";refine⟨y,by decide,ab hz (by decide),h',ab hz (by decide),by decide,by decide,by decide,by decide,?_⟩;refine iX (by simp;exact ah 0x513434f5627fb (iI _ _)) ?_;walk_at "s";exact⟨rfl,(.same q)⟩
noncomputable def iR(b:List UInt8)(a:Nat):List (Fd×PV):=[(.bZ,.bytes b),(.at_,.int a)]
variable {b:List UInt8} {a c cd:Nat}
structure wq(S:St)(c cd:Nat)(b:List UInt8)(a:Nat):Prop where
 i:S[c]? =some (.bc .cW cd)
 d:S[cd]? =some (.aA .cW (iR b a))
theorem wq.set(h:wq S c cd b a)(a':Nat):wq (S.set cd (.aA .cW (iR b a'))) c cd b a' where
 i:=by
  obtain this:cd≠c:=by rintro rfl;have:=h.i;rw[h.d]at this;cases this
  rw[oy this];exact h.i
 d:=ow (bP.mp h.d).1
theorem qt(hc:S[c]? =some (.bc .cW cd))(hd:S[cd]? =some (.aA .cW []))(q:Q .none (S.set cd (.aA .cW (iR b a)))):aT G ⟨n+1,hn⟩ 173 [.ref c,.bytes b,.int a] S Q:=by
 refine dF (Ak G) rfl D4 λhS z=>?_;show bI _ _ qh [some (.ref c),some (.bytes b),some (.int a)] _ _;unfold qh;obtain ei:cd≠c:=by rintro rfl;rw[hc]at hd;cases hd
 obtain bz:=(bP.mp hd).1;walk_at "s";refine bC hc hd (by decide) (by decide) ?_;walk_at "s";refine bC (c:=.cW) (dx:=cd) (fs:=[(.bZ,.bytes b)]) ?_ (ow bz) (by decide) (by simp) ?_
 ·rw[oy ei];exact hc
 walk_at "s";rw[mW];exact .same q
theorem F9(h:wq S c cd b a)(hz:b.length<=1000)(q:Q (.int ((b.length:Int)-a)) S):aT G ⟨n+1,hn⟩ 180 [.ref c] S Q:=by
 refine dF (Al G) rfl D5 λhS z=>?_;show bI _ _ qi [some (.ref c)] _ _;unfold qi;obtain ek:sz=16777216:=rfl;walk_at "s";refine aI h.i h.d rfl ?_;walk_at "s";refine⟨ab hz (by decide),aI h.i h.d rfl ?_⟩;walk_at "s";exact(.same q)
theorem wu(h:wq S c cd b a)(hz:b.length<=1000)(hk:a+k<=b.length)(q:Q (.bytes ((b.drop a).take k)) (S.set cd (.aA .cW (iR b (a+k))))):aT G ⟨n+2,hn⟩ 187 [.ref c,.int k] S Q:=by
 refine dF (Am G) rfl D6 λhS z=>?_;show bI _ _ qj [some (.ref c),some (.int k),none] _ _;unfold qj;walk_at "s";refine bo h.i h.d rfl ?_;walk_at "s";refine F9 h hz ?_;walk_at "s";refine b6 (by simp;exact az 0x2240a82bcd18ae55649 hk) ?_;walk_at "s";refine aI h.i h.d rfl ?_;walk_at "s";refine aI h.i h.d rfl ?_;walk_at "s";refine aI h.i h.d rfl ?_;walk_at "s";refine⟨ab hz (by decide),gb a,az 0x917df0f400e0765392f67518cd98d599bf hz hk,ag 646700305075,az 0x11580febce64c20a3b58a1f3a9138308edc99bf hz hk,?_⟩;walk_at "s";refine aI h.i h.d rfl ?_;walk_at "s";refine bC h.i h.d (by decide) (by simp[iR]) ?_;walk_at "s";refine(.same ?_);have e1:put (iR b a) .at_ (.int ((a:Int)+k))=iR b (a+k):=by
  show [(Fd.bZ,PV.bytes b),(Fd.at_,PV.int ((a:Int)+k))]=_;simp[iR]
 have e2:((a:Int)+k).toNat=a+k:=by exact ag 92871693450172601
 have e3:(List.take (a+k) b).drop a=(b.drop a).take k:=by rw[yG];congr 1;exact ou a k
 rw[e1,e2];show Q (.bytes ((List.take (a+k) b).drop a)) _;rw[e3];exact q
theorem dA(h:wq S c cd b a)(hz:b.length<=1000)(hk:a+k<=b.length)(hk8:k<=8)(q:Q (.int (num ((b.drop a).take k))) (S.set cd (.aA .cW (iR b (a+k))))):aT G ⟨n+3,hn⟩ 194 [.ref c,.int k] S Q:=by
 refine dF (xF G) rfl Av λhS z=>?_;show bI _ _ nP [some (.ref c),some (.int k)] _ _;unfold nP;walk_at "s";refine bo h.i h.d rfl ?_;walk_at "s";refine wu h hz hk ?_;walk_at "s";refine iX (by simp;exact ab (iI k (b.length-a)) hk8) ?_;walk_at "s";exact(.same q)
theorem wx(h:wq S c cd b a)(hz:b.length<=1000)(hx:hG x)(jn:x.cps.size<=255)(hb:b.drop a=UInt8.ofNat x.cps.size::(pI x++r))(q:Q (.str x) (S.set cd (.aA .cW (iR b (a+1+x.cps.size))))):aT G ⟨n+4,hn⟩ 201 [.ref c] S Q:=by
 refine dF (An G) rfl D7 λhS z=>?_;show bI _ _ qk [some (.ref c)] _ _;unfold qk;have av:b.length-a=1+x.cps.size+r.length:=by
  obtain this:=bE List.length hb;simp[dI]at this;exact az 0x8f176c90df94eb2be42f8b48db9 this
 obtain h':=h.set (a+1);walk_at "s";refine bo h.i h.d rfl ?_;walk_at "s";refine bo h.i h.d rfl ?_;walk_at "s";refine dA (k:=1) h hz (gd 0xcf3fac4db1d5be226c2604ca759046f av (ba (cZ (rm (az 0x5fb8a673365a4ca7946f av))))) (by decide) ?_;have e1:num ((b.drop a).take 1)=x.cps.size:=by
  rw[hb];simp[LC,Gi];exact rl jn
 rw[e1];walk_at "s";refine wu h' hz (by exact gd 0x7e7e6ecb54a88bd8f0c16295ca8b49046f av (ba (cZ (rm (az 0x5fb8a673365a4ca7946f av))))) ?_;have e2:(b.drop (a+1)).take x.cps.size=pI x:=by
  obtain this:b.drop (a+1)=(b.drop a).drop 1:=by rw[oG]
  rw[this,hb,CN,oF];exact uo (dI x)
 rw[e2,mW];walk_at "s";refine F8 hx jn ?_;walk_at "s";exact(.same q)
noncomputable def CS(S:St)(b:List UInt8)(a:Nat):St:=S++[AO.aA .cW (iR b a),AO.bc .cW S.length]
theorem dp:wq (CS S b a) (S.length+1) S.length b a:=⟨by simp[CS],by simp[CS]⟩
theorem l8:(CS S b a).set S.length (.aA .cW (iR b a'))=CS S b a':=by simp[CS]
theorem Iy:(S++[AO.aA .cW [],AO.bc .cW S.length]).set S.length (.aA .cW (iR b a))=CS S b a:=by simp[CS]
noncomputable def Ax(Ay Az:Nat)(x:Str)(k:Nat):List UInt8:=le 2 Ay++(le 4 Az++(UInt8.ofNat x.cps.size::(pI x++le 8 k)))
theorem tQ(Ay Az:Nat)(x:Str)(k:Nat):(Ax Ay Az x k).length=15+x.cps.size:=by
 simp[Ax,aQ,dI];exact ah 0x110ece58a28e572d6ece477a146ec355
theorem nx(h:b.drop a=le k x++r):(b.drop a).take k=le k x/\b.drop (a+k)=r:=by
 constructor
 ·rw[h];exact uo (aQ k x)
 ·rw[<- oG,h];exact mU (aQ k x)
theorem BO(hz:b.length<=1000)(hx:hG x)(jn:x.cps.size<=255)(h1:Ay<65536)(h2:Az<4294967296)(h3:k<0x10000000000000000)(hb:b.drop a=Ax Ay Az x k++r)
  (q:Q (.tup [.int Ay,.int Az,.str x,.int k]) S):aT G ⟨n+5,hn⟩ 354 [.bytes b,.int a] S Q:=by
 refine dF (FN G) rfl Jy λhS z=>?_;show bI _ _ vI [some (.bytes b),some (.int a),none,none,none,none] _ _;unfold vI;obtain av:b.length-a=15+x.cps.size+r.length:=by
  obtain this:=bE List.length hb;simp[tQ]at this;exact this
 obtain b1:b.drop a=le 2 Ay++(le 4 Az++(UInt8.ofNat x.cps.size::(pI x++(le 8 k++r)))):=by rw[hb];simp[Ax]
 refine xA (nx b1) λt1 b2=>?_;refine xA (nx b2) λt2 b3=>?_;obtain b4:b.drop (a+2+4+1+x.cps.size)=le 8 k++r:=by
  obtain e:a+2+4+1+x.cps.size=(a+2+4)+(1+x.cps.size):=by exact rz (a+2+4) 1 x.cps.size
  rw[e,<-oG,b3,show 1+x.cps.size=x.cps.size+1 by exact yI 1 x.cps.size,CN];exact mU (dI x)
 refine xA (nx b4) λt4 z=>?_;walk_at "s";refine⟨iJ 1 (n+3),qt (c:=S.length+1) (cd:=S.length) (by simp) (by simp) ⟨rfl,?_⟩⟩;rw[Iy];walk_at "s";refine bo dp.i dp.d rfl ?_;walk_at "s";refine dA (k:=2) dp hz (gd 0x287a703da3550fd7c6a861029f3b29707 av (ba (cZ (rm (az 0x12b21082809da2f8c2b707 av))))) (by decide) ?_;rw[l8,t1,gf _ _ (h1)];walk_at "s";refine bo dp.i dp.d rfl ?_;walk_at "s";refine dA (k:=4) dp hz (gd 0x4d34caa4bca576103ba011b0eb73c1b329707 av (ba (cZ (rm (az 0x12b21082809da2f8c2b707 av))))) (by decide) ?_;rw[l8,t2,gf _ _ (h2)];walk_at "s";refine bo dp.i dp.d rfl ?_;walk_at "s";refine wx dp hz hx jn b3 ?_;rw[l8];walk_at "s";refine bo dp.i dp.d rfl ?_;walk_at "s";refine dA (k:=8) dp hz (gd 0xab6eb1380b3afc8208ee600a5c5c506e41f98b1e59329707 av (ba (cZ (rm (az 0x12b21082809da2f8c2b707 av))))) (by decide) ?_;rw[l8,t4,gf _ _ (h3)];walk_at "s";exact⟨rfl,(.kI hS (KV rfl) q)⟩
end
structure LS where
 hd:List Nat
 en:List (List UInt8)
 at_:Nat
noncomputable abbrev aM:=Str×Nat
noncomputable def fh(salt:Nat)(s:LS)(r:aM):LS:=⟨s.hd.set (aU r.1 salt%4) s.at_,s.en++[Ax (s.hd.getD (aU r.1 salt%4) 0) (aU r.1 salt) r.1 r.2],s.at_+15+r.1.cps.size⟩
noncomputable def aP(salt:Nat)(rows:List aM):LS:=rows.foldl (fh salt) ⟨[0,0,0,0],[],16⟩
def gK(r:aM):Prop:=hG r.1/\r.1.cps.size<=255/\r.2<0x10000000000000000
noncomputable def pq(bits pre n:Nat)(s:LS):List UInt8:=le 1 3++(le 1 bits++(le 2 n++(le 4 pre++(s.hd.map (le 2)).flatten)))
noncomputable def bG(bits pre salt:Nat)(rows:List aM)(size:Nat):List UInt8:=pq bits pre rows.length (aP salt rows)++((aP salt rows).en.flatten++List.replicate (size-(aP salt rows).at_) 0)
theorem tf(salt:Nat)(rows:List aM)(r:aM):aP salt (rows++[r])=fh salt (aP salt rows) r:=by
 unfold aP;rw[yy];rfl
theorem rJ(salt:Nat)(rows:List aM):(aP salt rows).hd.length=4:=by
 unfold aP
 suffices ∀s:LS,s.hd.length=4->(rows.foldl (fh salt) s).hd.length=4 from this _ rfl
 induction rows with
 | nil=>intro s h;exact h
 | cons r rows ih=>intro s h;exact ih _ (by simp[fh,h])
theorem za(salt:Nat)(rows:List aM):(aP salt rows).at_=16+(aP salt rows).en.flatten.length:=by
 unfold aP
 suffices ∀s:LS,s.at_=16+s.en.flatten.length->(rows.foldl (fh salt) s).at_=16+(rows.foldl (fh salt) s).en.flatten.length from this _ (by simp)
 induction rows with
 | nil=>intro s h;exact h
 | cons r rows ih =>
  intro s h;exact ih _ (by simp[fh,h,tQ];exact ag 0x65ac313b65e153e160efa9a4a27c1f6ab64b7)
theorem KX(salt:Nat)(rows:List aM):(aP salt rows).en.length=rows.length:=by
 unfold aP
 suffices ∀s:LS,(rows.foldl (fh salt) s).en.length=s.en.length+rows.length by simpa using this ⟨[0,0,0,0],[],16⟩
 induction rows with
 | nil=>intro s;rfl
 | cons r rows ih=>intro s;rw[kT,ih];simp[fh];exact ag 0x4b056a84ff6da1c81b1d5a7
theorem MH(salt:Nat)(rows:List aM)(h:∀x∈rows,gK x):∀e∈(aP salt rows).en,e.length<=300:=by
 unfold aP
 suffices ∀s:LS,(∀e∈s.en,e.length<=300)->∀e∈(rows.foldl (fh salt) s).en,e.length<=300 from this _ (by simp)
 induction rows with
 | nil=>intro s h;exact h
 | cons r rows ih =>
  intro s hs;refine ih (λx hx=>h x (.tail _ hx)) _ λe he=>?_;rw[fh]at he;rcases dt.mp he with he | he
  ·exact hs e he
  ·rw[aV.mp he,tQ];obtain this:=(h r (.head _)).2.1;exact ah 0x39a29b3d3defbff129d743b this
theorem Ef(hd:List Nat):((hd.map (le 2)).flatten).length=2*hd.length:=by
 induction hd with
 | nil=>rfl
 | cons a r ih=>simp[aQ,ih];exact ah 0x2dca0e4e03e1026ac5dd16c6c5
theorem xI(bits pre n:Nat)(s:LS)(h:s.hd.length=4):(pq bits pre n s).length=16:=by
 obtain this:=Ef s.hd;simp only[pq,aW,aQ,this,h]
theorem cL(bits pre salt:Nat)(rows:List aM)(size:Nat)(h:(aP salt rows).at_<=size):(bG bits pre salt rows size).length=size:=by
 obtain h1:=za salt rows;simp only[bG,aW,xI _ _ _ _ (rJ salt rows),jG];exact bu (bO 0x7e6c9da33449a36deab113c824941e100f h1 (ba (ag 11262715101 h))) (bO 0x42d561ee41b9466bf436c4de95320f h1 cP)
theorem Iz(bits pre salt:Nat)(rows:List aM)(size i:Nat)(hi:i<rows.length):∃r,(bG bits pre salt rows size).drop (aP salt (rows.take i)).at_=Ax ((aP salt (rows.take i)).hd.getD (aU rows[i].1 salt%4) 0) (aU rows[i].1 salt) rows[i].1 rows[i].2++r:=by
 obtain⟨q,hq⟩:∃q,(aP salt rows).en=(aP salt (rows.take (i+1))).en++q:=by
  obtain this:rows=rows.take (i+1)++rows.drop (i+1):=(kj _ _).symm
  conv=>enter [1,q,1];rw[this]
  unfold aP;rw[yy];generalize List.foldl (fh salt) _ (rows.take (i+1))=s;generalize rows.drop (i+1)=t;clear this hi;induction t generalizing s with
  | nil=>exact⟨[],by simp⟩
  | cons r t ih =>
   refine xE (ih (fh salt s r)) λq hq=>?_;exact⟨[_]++q,by rw[kT,hq,fh,aw]⟩
 obtain e1:rows.take (i+1)=rows.take i++[rows[i]]:=by rw[iG];simp[hi]
 rw[e1,tf,fh]at hq;obtain h1:=za salt (rows.take i);refine⟨q.flatten++List.replicate (size-(aP salt rows).at_) 0,?_⟩;unfold bG;rw[hq];simp only[CL,ud,List.flatten_nil,kU,aw];rw[<- aw (pq _ _ _ _)];apply mU;rw[aW,xI _ _ _ _ (rJ salt rows)];exact ag 0x1bf29318641fa4e5b5165d0cb080f h1
theorem IA(salt:Nat)(rows:List aM)(r:aM)(ch:Nat)(hc:ch<4):(aP salt (rows++[r])).hd.getD ch 0=if aU r.1 salt%4=ch then(aP salt rows).at_ else(aP salt rows).hd.getD ch 0:=by
 obtain h4:=rJ salt rows;rw[tf];simp only[fh,pD];rw[List.getElem?_set];split
 ·rename_i h;rw[au (by exact az 0xb6a0f38324294827fbf17003 hc h4 h)];rfl
 ·rfl
theorem RK(salt:Nat)(rows:List aM):16<=(aP salt rows).at_:=by obtain this:=za salt rows;exact ag 0x123128a0945fb1343ba80f this
theorem th(salt:Nat)(rows:List aM)(i:Nat)(hi:i<rows.length):(aP salt (rows.take (i+1))).at_=(aP salt (rows.take i)).at_+15+rows[i].1.cps.size:=by
 obtain e1:rows.take (i+1)=rows.take i++[rows[i]]:=by rw[iG];simp[hi]
 rw[e1,tf];rfl
theorem zb(salt:Nat)(rows:List aM):∀i,i<=rows.length->∀j,j<=i->(aP salt (rows.take j)).at_<=(aP salt (rows.take i)).at_:=by
 intro i;induction i with
 | zero =>
  intro _ j hj;obtain e:j=0:=by exact bu (ah 11406466251 hj) (ah 90075)
  rw[e];exact aB _
 | succ i ih =>
  intro hi j hj;by_cases h:j=i+1
  ·subst h;exact aB _
  ·obtain this:=ih (cZ hi) j (ag 0x5006c3fc1d031 (fv (ag 0x9a1f339cd5b609811 hj) h));obtain this:=th salt rows i (hi);lia
theorem Vu(salt:Nat)(rows:List aM){i j:Nat}(hi:i<=rows.length)(hj:j<i):(aP salt (rows.take j)).at_<(aP salt (rows.take i)).at_:=by
 obtain h1:=th salt rows j (aJ hj hi);obtain h2:=zb salt rows i hi (j+1) (hj);exact bO 0x23b531b146a9b5d5df093f45b1 h1 h2
theorem lC(salt:Nat)(rows:List aM)(ch:Nat)(hc:ch<4):∀i,i<=rows.length ->
  ((aP salt (rows.take i)).hd.getD ch 0=0/\∀j (_:j<i) (hl:j<rows.length),aU rows[j].1 salt%4≠ch) ∨
  (∃j,∃hl:j<rows.length,j<i/\aU rows[j].1 salt%4=ch/\(aP salt (rows.take i)).hd.getD ch 0=(aP salt (rows.take j)).at_/\∀k (_:k<i) (hl:k<rows.length),j<k->aU rows[k].1 salt%4≠ch):=by
 intro i;induction i with
 | zero =>
  intro _;refine .inl ⟨?_,λj hj=>by lia⟩;obtain this:ch=0∨ch=1∨ch=2∨ch=3:=by lia
  rcases this with rfl | rfl | rfl | rfl<;>rfl
 | succ i ih =>
  intro hi;have e1:rows.take (i+1)=rows.take i++[rows[i]]:=by rw[iG];simp[show i<rows.length by exact hi]
  rw[e1,IA _ _ _ _ hc];by_cases h:aU rows[i].1 salt%4=ch
  ·rw[au h];exact .inr ⟨i,hi,oD i,h,rfl,λk hk hl hik=>by lia⟩
  ·rw[ai h];rcases ih (cZ hi)with⟨h1,h2⟩ | ⟨j,hl,hj,h1,h2,h3⟩
   ·exact .inl ⟨h1,λj hj hl=>by
     by_cases e:j=i
     ·subst e;exact h
     ·exact h2 j (ag 11575217601 (fv (ag 0x5006c3fc1d031 hj) e)) hl⟩
   ·exact .inr ⟨j,hl,iE hj,h1,h2,λk hk wO hjk=>by
     by_cases e:k=i
     ·subst e;exact h
     ·exact h3 k (ag 11575217601 (fv (ag 0x5006c3fc1d031 hk) e)) wO hjk⟩
theorem MI(b:List UInt8)(i k:Nat):(b.take (i+k)).drop i=(b.drop i).take k:=by rw[yG];congr 1;exact ou i k
section
variable (bits pre salt:Nat) (rows:List aM) (size:Nat)
theorem uX:(bG bits pre salt rows size)[0]? =some 3:=by simp[bG,pq,oO,lH]
theorem Eg:(bG bits pre salt rows size)[1]? =some (UInt8.ofNat bits):=by simp[bG,pq,oO,lH]
theorem Vv:((bG bits pre salt rows size).take 4).drop 2=le 2 rows.length:=by simp[bG,pq,oO,lH]
theorem Fe:((bG bits pre salt rows size).take 8).drop 4=le 4 pre:=by simp[bG,pq,oO,lH]
theorem JH(ch:Nat)(hc:ch<4):∃r,(bG bits pre salt rows size).drop (8+2*ch)=le 2 ((aP salt rows).hd.getD ch 0)++r:=by
 obtain h4:=rJ salt rows;obtain e:(aP salt rows).hd=(aP salt rows).hd.take ch++(aP salt rows).hd[ch]::(aP salt rows).hd.drop (ch+1):=by simp
 obtain e1:(aP salt rows).hd.getD ch 0=(aP salt rows).hd[ch]:=by simp[List.getD,show ch<(aP salt rows).hd.length by lia]
 refine⟨(((aP salt rows).hd.drop (ch+1)).map (le 2)).flatten++((aP salt rows).en.flatten++List.replicate (size-(aP salt rows).at_) 0),?_⟩;rw[e1];obtain e2:((aP salt rows).hd.map (le 2)).flatten=(((aP salt rows).hd.take ch).map (le 2)).flatten++(le 2 (aP salt rows).hd[ch]++(((aP salt rows).hd.drop (ch+1)).map (le 2)).flatten):=by
  conv=>lhs;rw[e]
  simp only[fy,eC,CL,ud]
 unfold bG pq;rw[e2];simp only[<- aw];rw[aw,aw,aw];apply(mU ?_).trans
 ·simp only[aw]
 ·simp only[aW,aQ,Ef,gY];lia
noncomputable def kh(name:Str):PV:=match rows.find? λr=>decide (r.1=name)with
 | some r=>.int r.2
 | none=>.none
theorem BP{rows:List aM}{name:Str}(nd:(rows.map (·.1)).Nodup){j:Nat}(hj:j<rows.length)(h:rows[j].1=name):kh rows name=.int rows[j].2:=by
 unfold kh;obtain this:rows.find? (λr=>decide (r.1=name))=some rows[j]:=by
  rw[List.find?_eq_some_iff_getElem];refine⟨by simp[h],j,hj,rfl,λi hi=>?_⟩;simp only[Bool.not_eq_eq_eq_not,Bool.not_true,yj];intro e;exact lP.mp nd i j (by simp;exact aJ hi (cZ hj)) (by simpa using hj) hi (by simp[e,h])
 rw[this]
theorem BQ{rows:List aM}{name:Str}(h:∀j (hj:j<rows.length),rows[j].1≠name):kh rows name=.none:=by
 unfold kh;obtain this:rows.find? (λr=>decide (r.1=name))=none:=by
  rw[CR];intro r hr;obtain⟨j,hj,rfl⟩:=rk hr;simpa using h j hj
 rw[this]
end
noncomputable def rd(b:List UInt8)(i k:Nat):List UInt8:=(b.drop i).take k
noncomputable def Yr(b:List UInt8)(at_ many:Nat):List UInt8:=(b.drop at_).take many++List.replicate (many-((b.drop at_).take many).length) 0
noncomputable def vU(o:List UInt8):List UInt8:=o++List.replicate ((o.length+55)/56*56-o.length) 0
noncomputable def bk(b:List UInt8)(at_:Nat)(o:List UInt8):List UInt8 :=
 vU ((b++List.replicate (at_-b.length) 0).take at_++o++(b++List.replicate (at_-b.length) 0).drop (at_+o.length))
theorem AA(o:List UInt8):(vU o).length=(o.length+55)/56*56:=by
 unfold vU;rw[aW,jG];obtain this:o.length<=(o.length+55)/56*56:=by exact ag 0x4306f359f158481bc5a61a032b5567 (dU _ (by decide))
 exact yo this
theorem aal(n:Nat):(n+55)/56*56<=n+55:=Nat.div_mul_le_self _ _
theorem pY(b:List UInt8)(i:Nat)(o:List UInt8):(bk b i o).length<=b.length+i+o.length+56:=by
 unfold bk;rw[AA,aW,aW,gY,uj,aW,jG];refine ab (aal _) ?_;obtain h1:=iI i (b.length+(i-b.length));obtain h2:b.length+(i-b.length)-(i+o.length)<=b.length:=by lia
 generalize min i (b.length+(i-b.length))=x at *;generalize b.length+(i-b.length)-(i+o.length)=y at *;exact gd 0x18e6b0e517a43c3ab247c46ec463f77ed94d h1 h2
theorem gR(h:i+k<=b.length):(rd b i k).length=k:=by simp[rd];lia
theorem BR(h:i+k<=b.length):Yr b i k=rd b i k:=by
 obtain this:=gR h;unfold Yr;rw[show(b.drop i).take k=rd b i k from rfl,this,gw];simp
theorem q0(h:j+m<=k):rd (rd b i k) j m=rd b (i+j) m:=by
 unfold rd;rw[yG,oG,List.take_take]
 congr 1
 lia
theorem uY(h:j<k):(rd b i k)[j]? =b[i+j]?:=by
 unfold rd;rw[Cq h,CQ]
theorem Ys(h:∀j,i<=j->j<i+k->b[j]? =c[j]?):rd b i k=rd c i k:=by
 apply List.ext_getElem?;intro j;by_cases hj:j<k
 ·rw[uY hj,uY hj];exact h _ (cT i j) (Nat.add_lt_add_left hj i)
 ·unfold rd;rw[List.getElem?_take,List.getElem?_take,ai hj,ai hj]
section
variable {b o:List UInt8} (hi:i<=b.length)
include hi
theorem BS:bk b i o=vU (b.take i++o++b.drop (i+o.length)):=by
 unfold bk;rw[show i-b.length=0 by lia];simp
theorem Vw(j:Nat)(hj:j<i∨i+o.length<=j)(hl:j<b.length):(bk b i o)[j]? =b[j]?:=by
 rw[BS hi];unfold vU;obtain h1:(b.take i).length=i:=List.length_take_of_le hi;rcases hj with hj | hj
 ·rw[aw,aw,eH (by exact az 0x9ccac9689ce5e51d5 h1 hj),Cq hj]
 ·obtain h2:(b.take i++o).length=i+o.length:=by rw[aW,h1]
  rw[aw,d9 (ab (bL h2) hj),h2,eH (by rw[uj];exact uH 0x15c8937008131447d111b5856deb9 hl cP (ba (az 0xfa44f4f43ba529 hj))),CQ,yo hj]
theorem ik:rd (bk b i o) i o.length=o:=by
 rw[BS hi];unfold vU rd;obtain h1:(b.take i).length=i:=by simp;lia
 rw[aw,aw,mU h1];simp
theorem gS(hj:j+k<=i∨i+o.length<=j)(hl:j+k<=b.length):rd (bk b i o) j k=rd b j k :=
 Ys λm h1 h2=>Vw hi m (by lia) (aJ h2 hl)
theorem o6(h:i+o.length<=b.length)(h56:b.length%56=0):(bk b i o).length=b.length:=by
 rw[BS hi,AA,aW,aW,gY,uj,yD hi,yo h];lia
omit hi in
theorem zc(h56:b.length%56=0):(bk b b.length o).length=b.length+(o.length+55)/56*56:=by
 rw[BS (aB _),AA,aW,aW,gY,uj,Nat.min_self,Nat.sub_eq_zero_of_le (cT _ _)];lia
end
noncomputable def ay(r:aM):PV:=.tup [.str r.1,.int r.2]
section
variable {Q:PV->St->Prop}
theorem Yt(x:Nat):le 1 x=[UInt8.ofNat x]:=rfl
inductive I4(S:St)(bits pre salt size r:Nat)(rows:List aM)(i:Nat)(l':a9)(S':St):Prop
 | mk {w8 w9 ny tj sE:Option PV} (hi:i<=rows.length) (eS:S'=S++[.list [.int 0],.list ((aP salt (rows.take i)).hd.map λ(x:Nat)=>.int x),.list ((aP salt (rows.take i)).en.map .bytes)])
  (el:l'=[some (.int bits),some (.int pre),some (.int salt),some (.ref r),some (.int size),some (.ref (S.length+1)),some (.ref (S.length+2)),some (.int (aP salt (rows.take i)).at_),w8,w9,ny,tj,sE,none,none])
theorem mC(hr:S[r]? =some (.list (rows.map ay)))(cD:∀x∈rows,gK x)(hs:salt<4294967296)(hb:bits<256)(hp:pre<4294967296)(ek:size<=1000)(hn:rows.length<=100)(gk:(aP salt rows).at_<60000)
  (q1:(aP salt rows).at_<=size->Q (.bytes (bG bits pre salt rows size)) S) (q2:size<(aP salt rows).at_->Q .none S):aT G ⟨n+2,true⟩ 340 [.int bits,.int pre,.int salt,.ref r,.int size] S Q:=by
 refine dF (Ao G) rfl D8 λhS z=>?_;show bI _ _ ql [some (.int bits),some (.int pre),some (.int salt),some (.ref r),some (.int size),none,none,none,none,none,none,none,none,none,none] _ _;unfold ql;have hz:sz=16777216:=rfl;have pZ:r<S.length:=(bP.mp hr).1;have iY:∀i,i<=rows.length->(aP salt (rows.take i)).at_<60000:=λi hi=>by
  obtain this:=zb salt rows rows.length (aB _) i hi;rw[gv]at this;exact a6 this gk
 walk_at "s";refine⟨by simp,rfl,rfl,0,by simp,by simp,by decide,by decide,rfl,rfl,?_⟩;obtain eS:∀a b c:AO,S++[a]++[b]++[c]=S++[a,b,c]:=by simp
 rw[eS];walk_at "s";refine sC (.list r (rows.map ay)) (λKK h'=>?_) (I4 S bits pre salt size r rows)
  ?_ (λi l' S' hI=>?_) (λi l' S' d KB hI hd kg BN=>?_) λl' S' hI=>?_
 ·walk_at "s";refine eY (ds:=rows.map ay) ?_ ?_ ?_
  ·rw[eH pZ];exact hr
  ·simp;exact ab hn (by decide)
  ·exact h'
 ·refine @I4.mk _ _ _ _ _ _ _ _ _ _ none none none none none (bM _) rfl ?_;simp[aP]
 ·obtain⟨_,rfl,_⟩:=hI;show(S++_)[r]? =_;rw[eH pZ];exact hr
 ·obtain @⟨w8,w9,ny,tj,sE,hi,rfl,rfl⟩:=hI;obtain hd:(rows.map ay)[i]? =some d:=hd;rw[cv]at hd;have fq:i<rows.length:=by
   rcases rB i rows.length with h | h
   ·exact h
   ·rw[Cz h]at hd;cases hd
  rw[c8 fq]at hd;obtain rfl:ay rows[i]=d:=by simpa using hd
  have e1:rows.take (i+1)=rows.take i++[rows[i]]:=by rw[iG];simp[fq]
  refine jL (cD rows[i] (jb fq)) λh1 h2 h3=>?_;obtain OW:=iY i hi;obtain ahY:=iY (i+1) (fq);obtain IB:=th salt rows i fq;have h4:=rJ salt (rows.take i);have Yu:=vb rows[i].1 salt;have nY:(aP salt (rows.take i)).en.length<=100:=by rw[KX,gY];exact ab (rt i rows.length) hn
  have oj:(aP salt (rows.take i)).hd.getD (aU rows[i].1 salt%4) 0<65536:=by
   rcases lC salt rows (aU rows[i].1 salt%4) (ah 29382823451251 (ea _ (by decide))) i hi with⟨e,_⟩ | ⟨j,hl,hj,_,e,_⟩
   ·rw[e];decide
   ·rw[e];have:=iY j (cZ hl);exact aJ this (by decide)
  obtain Gs:=tf salt (rows.take i) rows[i];rw[<- e1]at Gs;generalize(rows[i]:aM)=rw_ at *;obtain⟨x,k⟩:=rw_;obtain h1:hG x:=h1;obtain h2:x.cps.size<=255:=h2;obtain h3:k<0x10000000000000000:=h3;obtain Yu:aU x salt<4294967296:=Yu;refine MB rfl ?_;generalize aP salt (rows.take i)=s at *;obtain oj:s.hd.getD (aU x salt%4) 0<65536:=oj;obtain IB:(aP salt (rows.take (i+1))).at_=s.at_+15+x.cps.size:=IB;obtain Gs:aP salt (rows.take (i+1))=fh salt s (x,k):=Gs;walk_at "s";refine nX hs (λc hc=>by obtain this:=h1 c hc;exact ah 0x9fa11e948c06d0bdf this.2) h2 ?_;walk_at "s";refine⟨by decide,?_⟩;walk_at "s";refine pW (ds:=s.hd.map λ(x:Nat)=>.int x) (d:=.int (s.hd.getD (aU x salt%4) 0:Nat)) ?_ ?_ ?_ ?_ ?_
  ·simp
  ·simp;lia
  ·lia
  ·obtain this:((aU x salt:Int)%4).toNat=aU x salt%4:=by lia
   rw[this,cv,c8 (by lia)];simp[List.getD,show aU x salt%4<s.hd.length by lia]
  walk_at "s";refine cf (k:=2) (oj) (by decide) ?_;walk_at "s";refine cf (k:=4) (Yu) (by decide) ?_;walk_at "s";refine⟨rfl,by simp[aQ];decide,by lia,?_⟩;refine cf (k:=1) (rl h2) (by decide) ?_;walk_at "s";refine⟨rfl,by simp[aQ];decide,?_⟩;refine qr h1 h2 ?_;walk_at "s";refine⟨rfl,by simp[aQ,dI];exact ah 0x12aa8c690287925e63d53b h2,?_⟩;walk_at "s";refine⟨s.en.map .bytes,by simp,?_⟩;walk_at "s";refine cf (k:=8) (h3) (by decide) ?_;walk_at "s";refine⟨rfl,?_,s.en.map .bytes,?_,?_,?_⟩
  ·simp[aQ,dI];exact ah 0x8185d74544dc4ee20053bc96d8747754bb h2
  ·simp
  ·simp[nY];exact ab nY (by decide)
  walk_at "s";refine Vt (ds:=s.hd.map λ(x:Nat)=>.int x) (by simp) (by simp;lia) (by lia) (by simp;exact ag 0x42f59cc08b8af059eb7963b h4 (ea _ (by decide))) ?_;walk_at "s";obtain e2:(s.at_:Int)+15+x.cps.size=((aP salt (rows.take (i+1))).at_:Int):=by rw[IB];exact ag 0x1bf294c3f41c352c0730c9a54a177
  obtain e3:((aU x salt:Int)%4).toNat=aU x salt%4:=by lia
  rw[e2];refine⟨by lia,?_⟩;walk_at "s";refine kg _ _ _ _ (gA.refl _ _ _) (.mk fq ?_ rfl);rw[Gs,e3];simp[fh,Ax,Yt,List.map_set]
 ·obtain @⟨w8,w9,ny,tj,sE,_,rfl,rfl⟩:=hI;have e0:(b9.list r (rows.map ay)).items.length=rows.length:=by simp[b9.items]
  rw[e0,gv];have h4:=rJ salt rows;have nY:=KX salt rows;have qB:=MH salt rows cD;have BU:=za salt rows;have av:=cL bits pre salt rows size;have oj:∀x∈(aP salt rows).hd,x<65536:=λx hx=>by
   obtain⟨ch,zD,rfl⟩:=rk hx;have e:(aP salt rows).hd.getD ch 0=(aP salt rows).hd[ch]:=by simp[List.getD,zD]
   rw[<- e];have:=lC salt rows ch (aJ zD (bL h4)) rows.length (aB _);rw[gv]at this;rcases this with⟨e,_⟩ | ⟨j,hl,hj,_,e,_⟩
   ·rw[e];decide
   ·rw[e];have:=iY j (cZ hj);exact aJ this (by decide)
  unfold bG pq at q1 av;generalize aP salt rows=s at *;walk_at "s";refine MC (λh=>?_) (λh=>?_)
  ·walk_at "s";exact((.kI hS trivial (q2 (ag 28938077756101 h))))
  walk_at "s";refine cf (x:=3) (k:=1) (by decide) (by decide) ?_;walk_at "s";refine cf (k:=1) (hb) (by decide) ?_;walk_at "s";refine⟨rfl,by simp[aQ];decide,?_⟩;refine lZ (ds:=rows.map ay) (by rw[eH pZ];exact hr) (by simp;exact ab hn (by decide)) ?_;rw[aK];walk_at "s";refine cf (k:=2) (a6 hn (by decide)) (by decide) ?_;walk_at "s";refine⟨rfl,by simp[aQ];decide,?_⟩;refine cf (k:=4) (hp) (by decide) ?_;walk_at "s";refine⟨rfl,by simp[aQ];decide,?_⟩;walk_at "s";refine ij s.hd (λ(x:Nat)=>.int x) (λx=>.bytes (le 2 x)) (.list (S.length+1) (s.hd.map λ(x:Nat)=>.int x)) (λKK h'=>?_) rfl (ah 0x5e6dee6e53685f67ca7b h4) (by simp[b9.nh]) (λx hx k hk=>?_) ?_
  ·walk_at "s";exact eY (by simp) (by simp;lia) h'
  ·refine fN ?_;walk_at "s";exact cf (k:=2) (oj x hx) (by decide) hk
  walk_at "s";refine⟨rfl,s.hd.map (le 2),by simp,by simp;lia,λx hx=>?_,rfl,?_⟩
  ·apply eN (bH.mp hx);intro y _;rw[aQ];decide
  walk_at "s";obtain OX:=Ef s.hd;refine⟨rfl,by simp only[aW,aQ,OX];exact ah 0x6f425e530608384e03a80c78b9b h4,rfl,s.en,by simp,ag 0x39a298caf29beb74607d4ff hn nY,λx hx=>by obtain this:=qB x hx;exact ab this (by decide),rfl,rfl,by simp only[aW,aQ,OX];exact az 0xcc59d94936ab35d95fcb444b9896e3698d3f28d53e149854c660c93 gk h4 BU,?_⟩;obtain e5:le 1 3++le 1 bits++le 2 rows.length++le 4 pre++(s.hd.map (le 2)).flatten++s.en.flatten=le 1 3++(le 1 bits++(le 2 rows.length++(le 4 pre++(s.hd.map (le 2)).flatten)))++s.en.flatten:=by simp
  rw[e5];obtain e6:(le 1 3++(le 1 bits++(le 2 rows.length++(le 4 pre++(s.hd.map (le 2)).flatten)))++s.en.flatten).length=s.at_:=by
   simp only[aW,aQ,OX];exact az 0x3354e0d1266884429afe50ff240a6546c5451bc7f0fcdabff181c6f1b h4 BU
  refine Iw (az 0x30d1784781f6acb5 h e6) ek ?_;rw[e6,aw (_++_)];walk_at "s";obtain e7:∀a b c d:AO,S++[a,b,c]++[d]=S++[a,b,c,d]:=by simp
  rw[e7];exact(.kI hS trivial (q1 (ag 28141534006101 h)))
end
section
theorem Vz{k x:Nat}(h:x<256^k){r:List UInt8}:num ((le k x++r).take k)=x:=by
 rw[uo (aQ k x),gf k x h]
inductive I5a(S:St)(b:List UInt8)(salt:Nat)(name:Str)(rows:List aM)(m:Nat)(l':a9)(S':St):Prop
 | mk {w3 w5 w6 w7 w8:Option PV} (hm:m<=rows.length) (Yv:∀j (hj:j<rows.length),m<=j->aU rows[j].1 salt%4=aU name salt%4->rows[j].1≠name) (eS:S'=S)
  (el:l'=[some (.bytes b),some (.str name),some (.int (aU name salt)),w3,some (.int ((aP salt (rows.take m)).hd.getD (aU name salt%4) 0:Nat)),w5,w6,w7,w8])
theorem JI(cD:∀x∈rows,gK x)(nd:(rows.map (·.1)).Nodup)(ek:size<=1000)(gk:(aP salt rows).at_<=size)(q:Q (kh rows name) S) :
  aT G ⟨n+6,hn⟩ 361 [.bytes (bG bits pre salt rows size),.str name,.int (aU name salt)] S Q:=by
 refine dF (DV G) rfl Ip λhS z=>?_;show bI _ _ tI [some (.bytes (bG bits pre salt rows size)),some (.str name),some (.int (aU name salt)),none,none,none,none,none,none] _ _;unfold tI;have av:=cL bits pre salt rows size gk;have iY:∀i,i<=rows.length->(aP salt (rows.take i)).at_<=1000:=λi hi=>by
  obtain this:=zb salt rows rows.length (aB _) i hi;rw[gv]at this;exact ab (ab this gk) ek
 obtain BV:=uX bits pre salt rows size;refine xE (JH bits pre salt rows size (aU name salt%4) (ah 29382823451251 (ea _ (by decide)))) λcr zD=>?_;obtain OY:=Iz bits pre salt rows size;generalize bG bits pre salt rows size=b at *;have oj:∀i,i<=rows.length->(aP salt (rows.take i)).hd.getD (aU name salt%4) 0<=1000:=λi hi=>by
  rcases lC salt rows (aU name salt%4) (ah 29382823451251 (ea _ (by decide))) i hi with⟨e,_⟩ | ⟨j,hl,hj,_,e,_⟩
  ·rw[e];decide
  ·rw[e];exact iY j (cZ hl)
 walk_at "s";refine tO BV (ab (bL av) ek) (by decide) ?_;walk_at "s";refine⟨by decide,ah 74164570323451251 (ea _ (by decide)),by decide,?_⟩;walk_at "s";obtain e1:((8:Int)+(aU name salt:Int)%4*2).toNat=8+2*(aU name salt%4):=by exact ah 0x2dca0e43dafa11de28b8896189
 obtain e2:((8:Int)+(aU name salt:Int)%4*2+2).toNat=8+2*(aU name salt%4)+2:=by exact ah 0xa694971ea187f2f838dcd36bb9c77bab89
 refine⟨ag 0x6dee28f6016cd1a26e3251fc9bf ek av,ah 80952727656461275,ah 0x1c6a990fa82bd71c7e0e26fed1aab0050f53 (ea _ (by decide)),ah 0x2248eb42f1c310c78db,ah 0x363331c0e4fade62d0b1d5a4492361ded8c34f53 (ea _ (by decide)),?_⟩;rw[e1,e2,MI,zD];refine iX (by simp;exact ah 28664073321251 (iI _ _)) ?_;obtain hh:=oj rows.length (aB _);rw[gv]at hh;rw[Vz (a6 hh (by decide))];walk_at "s";refine Iv (I5a S b salt name rows) rows.length (.mk (aB _) (λj hj h=>by lia) rfl (by rw[gv])) ?_;rintro m l' S' @⟨w3,w5,w6,w7,w8,hm,Yv,rfl,rfl⟩ P R hP hR;walk_at "s";rcases lC salt rows (aU name salt%4) (ah 29382823451251 (ea _ (by decide))) m hm with⟨e,hc⟩ | ⟨j,hl,hj,hcj,e,hc⟩
 ·rw[e];refine b6 (by decide) (hR _ ?_);walk_at "s";refine(.same ?_);obtain this:kh rows name=.none:=BQ λj hj KY=>by
   rcases rB j m with h | h
   ·exact hc j h hj (by rw[KY])
   ·exact Yv j hj h (by rw[KY]) KY
  rw[this]at q;exact q
 ·rw[e]at hP hR ⊢;obtain hp:=RK salt (rows.take j);obtain zE:=iY j (cZ hl);refine fF (by simp;exact jh (aJ (by decide) hp)) (hP _ λKB kg BN=>?_);walk_at "s";refine xE (OY j hl) λrr hr=>?_;rw[hcj]at hr;refine jL (cD rows[j] (jb hl)) λh1 h2 h3=>?_;obtain Yw:=oj j (cZ hl);refine BO (ab (bL av) ek) h1 h2 (a6 Yw (by decide)) (vb _ _) h3 hr ⟨rfl,?_⟩;walk_at "s";by_cases hx:rows[j].1=name
  ·refine fF (by rw[hx];simp) ?_;walk_at "s";refine fF (by simp[hx]) (?_);walk_at "s";refine BN _ _ _ ?_;walk_at "s";refine .same ?_;rw[BP nd hl hx]at q;exact q
  ·refine Yp (λz=>by simp[hx]) ?_;walk_at "s";have bz:(aP salt (rows.take j)).hd.getD (aU name salt%4) 0<(aP salt (rows.take j)).at_:=by
    rcases lC salt rows (aU name salt%4) (ah 29382823451251 (ea _ (by decide))) j (cZ hl)with⟨e,_⟩ | ⟨i,fq,eI,_,e,_⟩
    ·rw[e];exact aJ (by decide) hp
    ·rw[e];exact Vu salt rows (cZ hl) eI
   refine b6 (c9 (ag 34719200342601 bz)) ?_;walk_at "s";refine kg _ _ _ _ j (gA.refl _ _ _) hj (.mk (cZ hl) (λi hi hji zD KY=>?_) rfl rfl);rcases rB i m with h | h
   ·by_cases eI:i=j
    ·subst eI;exact hx KY
    ·exact hc i h hi (ag 11575217601 (fv (ag 11262715101 hji) (cM eI))) zD
   ·exact Yv i hi h zD KY
inductive I5b(S:St)(b:List UInt8)(salt:Nat)(rows:List aM)(i:Nat)(l':a9)(S':St):Prop
 | mk {w3 w4 w5 w6 w7:Option PV} (hi:i<=rows.length) (eS:S'=S++[.list ((rows.take i).map ay)]) (el:l'=[some (.bytes b),some (.ref S.length),some (.int (aP salt (rows.take i)).at_),w3,w4,w5,w6,w7])
theorem pz(cD:∀x∈rows,gK x)(ek:size<=1000)(gk:(aP salt rows).at_<=size)(av:rows.length<=100)(q:Q (.ref S.length) (S++[.list (rows.map ay)])) :
  aT G ⟨n+6,true⟩ 368 [.bytes (bG bits pre salt rows size)] S Q:=by
 refine dF (DW G) rfl Iq λhS z=>?_;show bI _ _ tJ [some (.bytes (bG bits pre salt rows size)),none,none,none,none,none,none,none] _ _;unfold tJ;have nZ:=cL bits pre salt rows size gk;have iY:∀i,i<=rows.length->(aP salt (rows.take i)).at_<=1000:=λi hi=>by
  obtain this:=zb salt rows rows.length (aB _) i hi;rw[gv]at this;exact ab (ab this gk) ek
 obtain BV:=uX bits pre salt rows size;obtain hLn:=Vv bits pre salt rows size;obtain OY:=Iz bits pre salt rows size;generalize bG bits pre salt rows size=b at *;obtain oj:∀i ch,ch<4->i<=rows.length->(aP salt (rows.take i)).hd.getD ch 0<=1000:=λi ch hc hi=>by
  rcases lC salt rows ch hc i hi with⟨e,_⟩ | ⟨j,hl,hj,_,e,_⟩
  ·rw[e];decide
  ·rw[e];exact iY j (cZ hl)
 walk_at "s";refine tO BV (ab (bL nZ) ek) (by decide) ?_;walk_at "s";refine⟨by decide,by decide,by decide,rfl,rfl,?_⟩;walk_at "s";refine sC (.c6 (bg 0 rows.length)) (λKK h'=>?_) (I5b S b salt rows)
  ?_ (λz z z z=>trivial) (λi l' S' d KB hI hd kg BN=>?_) λl' S' hI=>?_
 ·walk_at "s";refine⟨ag 0x6dee28f6016cd1a26e3251fc9bf ek nZ,by decide,by decide,by decide,by decide,?_⟩;have e:((b.take (4:Int).toNat).drop (2:Int).toNat)=le 2 rows.length:=hLn;rw[e];refine iX (by rw[aQ];decide) ?_;rw[gf 2 _ (a6 av (by decide))];walk_at "s";exact⟨rfl,ah 0x38299632611b5f77,ah 0x418614a8d8fef009891e03f av,h'⟩
 ·exact .mk (bM _) rfl rfl
 ·obtain @⟨w3,w4,w5,w6,w7,hi,rfl,rfl⟩:=hI;have fq:i<rows.length:=by
   obtain this:i<(b9.c6 (bg 0 rows.length)).items.length:=(bP.mp hd).1;simpa [b9.items,bg]using this
  obtain e1:rows.take (i+1)=rows.take i++[rows[i]]:=by rw[iG];simp[fq]
  refine xE (OY i fq) λrr hr=>?_;refine jL (cD rows[i] (jb fq)) λh1 h2 h3=>?_;obtain zE:=iY i (hi);obtain Yw:=oj i (aU rows[i].1 salt%4) (ah 29382823451251 (ea _ (by decide))) (hi);obtain IB:=th salt rows i fq;refine Iu ?_;walk_at "s";refine BO (ab (bL nZ) ek) h1 h2 (a6 Yw (by decide)) (vb _ _) h3 hr ⟨rfl,?_⟩;walk_at "s";refine⟨_,eu,rfl,(rows.take i).map ay,eu,by simp;exact ag 0x232d7dbf5c9db3720b20fd52ff av (rt _ _),?_⟩;walk_at "s";obtain hz:sz=16777216:=rfl;obtain e2:((aP salt (rows.take i)).at_:Int)+15+rows[i].1.cps.size=((aP salt (rows.take (i+1))).at_:Int):=by rw[IB];exact ag 0x575610e45ad82629961002ff9b27d9
  rw[e2];refine⟨ab h2 (by decide),?_⟩;walk_at "s";refine kg _ _ _ _ (gA.refl _ _ _) (.mk fq ?_ rfl);rw[e1,fy];simp[ay,-List.map_take]
 ·obtain @⟨w3,w4,w5,w6,w7,_,rfl,rfl⟩:=hI;obtain e0:(b9.c6 (bg 0 rows.length)).items.length=rows.length:=by simp[b9.items,bg]
  rw[e0,gv];walk_at "s";exact(.same q)
end
structure OA(S:St)(x dx:Nat)(c:jo)(fs:List (Fd×PV)):Prop where
 i:S[x]? =some (.bc c dx)
 d:S[dx]? =some (.aA c fs)
theorem OA.set(h:OA S x dx c fs)(gs:List (Fd×PV)):OA (S.set dx (.aA c gs)) x dx c gs where
 i:=by
  obtain this:dx≠x:=by rintro rfl;have:=h.i;rw[h.d]at this;cases this
  rw[oy this];exact h.i
 d:=ow (bP.mp h.d).1
theorem OA.new:OA (S++[.aA c fs,.bc c S.length]) (S.length+1) S.length c fs:=⟨by simp,by simp⟩
noncomputable def bj(b s m e t:Nat):List (Fd×PV):=[(.bits,.int b),(.salt,.int s),(.many,.int m),(.behind,.int e),(.table,.int t)]
noncomputable def di(b s m e t:Nat):List UInt8:=le 1 2++(le 1 b++(le 4 s++(le 4 m++(le 4 e++le 4 t))))
theorem gU(b s m e t:Nat):(di b s m e t).length=18:=by simp[di,aQ]
section
variable {b s m e t x dx:Nat}
theorem uZ(h:OA S x dx .cB [])(q:Q .none (S.set dx (.aA .cB (bj b s m e t)))):aT G ⟨n+1,hn⟩ 307 [.ref x,.int b,.int s,.int m,.int e,.int t] S Q:=by
 refine dF (zl G) rfl BH λhS z=>?_;show bI _ _ o3 [some (.ref x),some (.int b),some (.int s),some (.int m),some (.int e),some (.int t)] _ _;unfold o3;walk_at "s";refine bC h.i h.d (by decide) (by decide) ?_;obtain h:=h.set [(.bits,.int b)];walk_at "s";refine bC h.i h.d (by decide) (by simp) ?_;obtain h:=h.set [(.bits,.int b),(.salt,.int s)];walk_at "s";refine bC h.i h.d (by decide) (by simp) ?_;obtain h:=h.set [(.bits,.int b),(.salt,.int s),(.many,.int m)];walk_at "s";refine bC h.i h.d (by decide) (by simp) ?_;obtain h:=h.set [(.bits,.int b),(.salt,.int s),(.many,.int m),(.behind,.int e)];walk_at "s";refine bC h.i h.d (by decide) (by simp) ?_;walk_at "s";simp only[mW];exact .same q
theorem sF(h:OA S x dx .cB (bj b s m e t))(hb:b<256)(hs:s<4294967296)(hm:m<4294967296)(he:e<4294967296)(ht:t<4294967296)(q:Q (.bytes (di b s m e t)) S):aT G ⟨n+2,true⟩ 314 [.ref x] S Q:=by
 refine dF (wC G) rfl zp λhS z=>?_;show bI _ _ mO [some (.ref x),none] _ _;unfold mO;obtain hz:sz=16777216:=rfl;walk_at "s";refine cf (x:=2) (k:=1) (by decide) (by decide) ?_;walk_at "s";refine aI h.i h.d rfl ?_;refine cf (k:=1) (hb) (by decide) ?_;walk_at "s";refine⟨rfl,by simp only[aW,aQ];decide,aI h.i h.d rfl ?_⟩;refine cf (k:=4) (hs) (by decide) ?_;walk_at "s";refine⟨rfl,by simp only[aW,aQ];decide,aI h.i h.d rfl ?_⟩;refine cf (k:=4) (hm) (by decide) ?_;walk_at "s";refine⟨rfl,by simp only[aW,aQ];decide,?_⟩;walk_at "s";refine aI h.i h.d rfl ?_;refine cf (k:=4) (he) (by decide) ?_;walk_at "s";refine⟨rfl,by simp only[aW,aQ];decide,aI h.i h.d rfl ?_⟩;refine cf (k:=4) (ht) (by decide) ?_;walk_at "s";refine⟨rfl,by simp only[aW,aQ];decide,(.same ?_)⟩;obtain e1:le 1 2++le 1 b++le 4 s++le 4 m++le 4 e++le 4 t=di b s m e t:=by simp[di]
 show Q (.bytes (le 1 2++le 1 b++le 4 s++le 4 m++le 4 e++le 4 t)) S;rw[e1];exact q
theorem n3(hb:b<256)(hs:s<4294967296)(hm:m<4294967296)(he:e<4294967296)(ht:t<4294967296)(q:Q (.ref (S.length+1)) (S++[.aA .cB (bj b s m e t),.bc .cB S.length])):aT G ⟨n+4,hn⟩ 328 [.bytes (di b s m e t)] S Q:=by
 refine dF (FL G) rfl Jx λhS z=>?_;show bI _ _ vH [some (.bytes (di b s m e t)),none,none,none,none,none] _ _;unfold vH;obtain hz:=gU b s m e t;obtain d1:(di b s m e t).drop 1=le 1 b++(le 4 s++(le 4 m++(le 4 e++le 4 t))):=by simp[di,oO,lH]
 generalize di b s m e t=bb at *;refine xA (nx d1) λt1 d2=>?_;refine xA (nx d2) λt2 d3=>?_;refine xA (nx d3) λt3 d4=>?_;refine xA (nx d4) λt4 d5=>?_;obtain t5:(bb.drop (1+1+4+4+4)).take 4=le 4 t:=by rw[d5];exact ri (by rw[aQ];decide)
 walk_at "s";refine⟨iJ 1 (n+2),qt (c:=S.length+1) (cd:=S.length) (a:=1) (by simp) (by simp) ⟨rfl,?_⟩⟩;rw[Iy];walk_at "s";refine bo dp.i dp.d rfl ?_;walk_at "s";refine dA (k:=1) dp (ah 0x9ab691bf60794355f hz) (ah 0x9899549582d61e1df hz) (by decide) ?_;rw[l8,t1,gf _ _ (hb)];walk_at "s";refine bo dp.i dp.d rfl ?_;walk_at "s";refine dA (k:=4) dp (ah 0x9ab691bf60794355f hz) (ah 0x989b10ac594b0a9df hz) (by decide) ?_;rw[l8,t2,gf _ _ (hs)];walk_at "s";refine bo dp.i dp.d rfl ?_;walk_at "s";refine dA (k:=4) dp (ah 0x9ab691bf60794355f hz) (ah 0x1dcdc7d50e3f517bbdf hz) (by decide) ?_;rw[l8,t3,gf _ _ (hm)];walk_at "s";refine bo dp.i dp.d rfl ?_;walk_at "s";refine dA (k:=4) dp (ah 0x9ab691bf60794355f hz) (ah 0x1dce1e91842227acbdf hz) (by decide) ?_;rw[l8,t4,gf _ _ (he)];walk_at "s";refine bo dp.i dp.d rfl ?_;walk_at "s";refine dA (k:=4) dp (ah 0x9ab691bf60794355f hz) (ah 0x1dce754dfa04fdddbdf hz) (by decide) ?_;rw[l8,t5,gf _ _ (ht)];walk_at "s";refine⟨iJ 1 (n+2),uZ (dx:=(CS S bb (1+1+4+4+4+4)).length) ⟨by simp,by simp⟩ ⟨rfl,?_⟩⟩;obtain e1:((CS S bb (1+1+4+4+4+4))++[AO.aA .cB [],AO.bc .cB (CS S bb (1+1+4+4+4+4)).length]).set (CS S bb (1+1+4+4+4+4)).length (.aA .cB (bj b s m e t))=S++([AO.aA .cW (iR bb (1+1+4+4+4+4)),AO.bc .cW S.length]++(AO.aA .cB (bj b s m e t)::[AO.bc .cB (S.length+2)])):=by simp[CS]
 obtain e2:(CS S bb (1+1+4+4+4+4)).length+1=S.length+2+1:=by simp[CS]
 rw[e1,e2];exact dT.obj (J:=[AO.aA .cW (iR bb (1+1+4+4+4+4)),AO.bc .cW S.length]) hS (uW rfl) q
end
noncomputable def W(A B:AO)(b:List UInt8)(own:AO)(most:Int):St:=[A,B,.aA .cw (ni 56),.bc .cw 2,.aA .iT [(.cw,.ref 3),(.gg,.ref 6),(.bZ,.ref 7),(.gx,.int 1)],.bc .iT 4,.dr [(1,.ref 10)],.dr [(1,.bytes b)],own,
 .aA .fA [(.kind,.int 7),(.block,.int 56),(.most,.int most),(.sM,.bytes [])],.bc .fA 9]
theorem aF{T:St}:(W A B b own most++T).length=11+T.length:=by simp[W];exact ah 0x61e83cc9f27af17a193dddaec7ce6572b3721cf90773cdf002d8f7be94017
theorem BW{T:St}(h:jB (W A B b own m++T)):jB (W A B b' own m'++T) :=
 (h.set (i:=7) (o:=.dr [(1,.bytes b')]) (uW rfl)).set (i:=9) (o:=.aA .fA [(.kind,.int 7),(.block,.int 56),(.most,.int m'),(.sM,.bytes [])]) (uW rfl)
section
variable {T:St} {Q:PV->St->Prop}
theorem rK(q:Q (.ref 10) (W A B b own most++T)):aT G ⟨n+1,hn⟩ 529 [.ref 5,.int 1] (W A B b own most++T) Q:=by
 refine dF (zm G) rfl BK λhS z=>?_;show bI _ _ o4 [some (.ref 5),some (.int 1)] _ _;unfold o4;walk_at "s";refine aI (x:=5) (dx:=4) rfl rfl rfl ?_;walk_at "s";refine .inl ⟨1,[(1,.ref 10)],rfl,rfl,b6 rfl ?_⟩;walk_at "s";refine aI (x:=5) (dx:=4) rfl rfl rfl ?_;walk_at "s";exact xH (a:=6) (es:=[(1,.ref 10)]) rfl rfl ((.same q))
theorem Yx(hb:b.length<=100000)(q:Q (.int b.length) (W A B b own most++T)):aT G ⟨n+2,hn⟩ 536 [.ref 5,.int 1] (W A B b own most++T) Q:=by
 refine dF (As G) rfl Ec λhS z=>?_;show bI _ _ qp [some (.ref 5),some (.int 1)] _ _;unfold qp;obtain hz:sz=16777216:=rfl;walk_at "s";refine bo (x:=5) (dx:=4) rfl rfl rfl ?_;walk_at "s";refine rK ?_;walk_at "s";refine aI (x:=5) (dx:=4) rfl rfl rfl ?_;walk_at "s";refine xH (a:=7) (es:=[(1,.bytes b)]) rfl rfl ?_;walk_at "s";exact⟨ab hb (by decide),(.same q)⟩
theorem BX(hb:b.length<=100000)(ha:at_<=100000)(hm:many<=100000)(q:Q (.bytes (Yr b at_ many)) (W A B b own most++T)):aT G ⟨n+2,hn⟩ 543 [.ref 5,.int 1,.int at_,.int many] (W A B b own most++T) Q:=by
 refine dF (Au G) rfl Ed λhS z=>?_;show bI _ _ qq [some (.ref 5),some (.int 1),some (.int at_),some (.int many),none] _ _;unfold qq;obtain hz:sz=16777216:=rfl;walk_at "s";refine bo (x:=5) (dx:=4) rfl rfl rfl ?_;walk_at "s";refine rK ?_;walk_at "s";refine b6 (c9 (ah 5688601)) (b6 (c9 (ah 5688601)) ?_);walk_at "s";refine aI (x:=5) (dx:=4) rfl rfl rfl ?_;walk_at "s";refine xH (a:=7) (es:=[(1,.bytes b)]) rfl rfl ?_;walk_at "s";refine⟨hb,gb at_,ah 0x4c47999bb2ee3c7f37a62b0dd2e43f ha,ag 646700305075,ag 0x3f18da26e858d837365b5e1682aa11a87ed70f536c3623f ha hm,?_⟩;walk_at "s";obtain e1:((at_:Int)+many).toNat=at_+many:=by exact ag 92871693450172601
 obtain e2:(at_:Int).toNat=at_:=by exact ah 14859470051
 rw[e1];obtain e3:(b.take (at_+many)).drop (at_:Int).toNat=(b.drop at_).take many:=by rw[e2,MI]
 rw[e3];have hl:((b.drop at_).take many).length<=many:=by simp;exact iI many (b.length-at_)
 obtain e4:((many:Int)-((b.drop at_).take many).length).toNat=many-((b.drop at_).take many).length:=by exact bu (bO 0x38dd3a00ab57102cca497c9 cP (gX (ag 80876585015715101 hl))) (bO 0x38e54980bee1a24855b46a5 (i9 _) (ba (ag 11262715101 hl)))
 refine⟨ab hl (ab hm (by decide)),ag 80876585015715101 hl,ag 0xee5fc00690b32a5bec431b396c59c3f hm,rfl,by rw[e4,jG];exact az 0x4f0df0a3f4cae44f88967c464f767211c643f hm hl (cV _ _),(.same ?_)⟩;rw[e4];exact q
theorem aam(ho:o.length<=100000)(OZ:o≠[])(q:∀m,Q .none (W A B (vU o) own m++T)):aT G ⟨n+2,hn⟩ 572 [.ref 5,.int 1,.bytes o] (W A B b own most++T) Q:=by
 refine dF (BE G) rfl F6 λhS z=>?_;show bI _ _ sx [some (.ref 5),some (.int 1),some (.bytes o),none,none] _ _;unfold sx;obtain hz:sz=16777216:=rfl;walk_at "s";refine bo (x:=5) (dx:=4) rfl rfl rfl ?_;walk_at "s";refine rK ?_;walk_at "s";refine⟨ab ho (by decide),aI (x:=10) (dx:=9) rfl rfl rfl ?_⟩;refine ME (b:=56) (by decide) (by decide) (a6 ho (by decide)) ?_;walk_at "s";obtain hw:o.length<=(o.length+56-1)/56*56/\(o.length+56-1)/56*56<=o.length+55:=by exact⟨az 0xf3d7e60ad592776c42b3a0ac5b31e3c794a01f (dU _ (by decide)) cP,az 0x2f7e9fdf3fe22ba00f3f40f72b7baaf7b4e50d9f (cI _ _) (ba (ah 28432071878875))⟩
 have e0:(o.length+56-1)/56*56=(o.length+55)/56*56:=by exact Eq.refl ((o.length+56-1)/56*56)
 obtain e1:(((o.length+56-1)/56*56:Nat)-(o.length:Int)).toNat=(o.length+55)/56*56-o.length:=by exact bu (gd 0x2170cfc10d718a8d486ccb8a76d216025afb33f3a3bafbca1f e0 cP (gX (ag 0x27e00f687d4e8a174471659bc1 hw.1))) (gd 0x3fd17d7477a7df8e8369bb8ca3a041c8579b4e715fb8ba214b221f e0 (i9 _) (ba (ag 0x4306f359f158481bc5a61a032b5567 (dU _ (by decide)))))
 refine⟨ab ho (by decide),ag 0x27e00f687d4e8a174471659bc1 hw.1,ag 0x363331c0e5549b9bbc31b9315a454fc926fcbf1f hw.2,rfl,by rw[e1,jG];exact bO 0x2103c212dc279f75a1ad690aa099a4de49a2e5ab46cf552cc6a86beffe659891eb1b01a43f ho hw.2 e0 (cV _ _),aI (x:=5) (dx:=4) rfl rfl rfl ?_⟩;walk_at "s";refine Ee (a:=7) (es:=[(1,.bytes b)]) rfl (by simp) ?_;obtain e2:(W A B b own most++T).set 7 (.dr (put [(1,.bytes b)] 1 (.bytes (o++List.replicate (((o.length+56-1)/56*56:Nat)-(o.length:Int)).toNat 0))))=W A B (vU o) own most++T:=by
  rw[e1];rfl
 rw[e2];walk_at "s";refine aI (x:=10) (dx:=9) rfl rfl rfl ?_;walk_at "s";refine⟨by decide,by decide,bC (x:=10) (dx:=9) rfl rfl (by decide) (by simp) ?_⟩;walk_at "s";exact .same (q _)
theorem jw(hb:b.length<=50000)(ha:at_<=50000)(ho:o.length<=1000)(OZ:o≠[])(q:∀m,Q .none (W A B (bk b at_ o) own m++T)):aT G ⟨n+3,true⟩ 579 [.ref 5,.int 1,.int at_,.bytes o] (W A B b own most++T) Q:=by
 refine dF (zo G) rfl BL λhS z=>?_;show bI _ _ o5 [some (.ref 5),some (.int 1),some (.int at_),some (.bytes o),none] _ _;unfold o5;obtain hz:sz=16777216:=rfl;obtain pP:0<o.length:=List.length_pos_iff.mpr OZ;walk_at "s";refine bo (x:=5) (dx:=4) rfl rfl rfl ?_;walk_at "s";refine rK ?_;walk_at "s";refine b6 (c9 (ah 5688601)) ?_;walk_at "s";refine⟨ab ho (by decide),fF (cH (ah 663134467575 pP)) (?_)⟩;walk_at "s";refine aI (x:=5) (dx:=4) rfl rfl rfl ?_;walk_at "s";refine xH (a:=7) (es:=[(1,.bytes b)]) rfl rfl ?_;walk_at "s";refine aI (x:=5) (dx:=4) rfl rfl rfl ?_;walk_at "s";refine xH (a:=7) (es:=[(1,.bytes b)]) rfl rfl ?_;walk_at "s";obtain e1:(max 0 ((at_:Int)-b.length)).toNat=at_-b.length:=by lia
 refine⟨ab hb (by decide),rfl,by lia,l31 0x11580febce816593b0ed2a77b1dbe53d6baca4f ha e1 (cV _ _) (i9 _),rfl,by rw[e1,jG];exact az 0xf70b90005cf0a3058786778fa7d81a999ec24f hb ha (cV _ _),?_⟩;rw[e1];obtain hl:(b++List.replicate (at_-b.length) (0:UInt8)).length<=100000:=by simp;exact az 0x1d192af03b61ce6585922429a91382211c15d1ec24f hb ha (cV _ _)
 unfold bk at q;generalize b++List.replicate (at_-b.length) (0:UInt8)=here at *;walk_at "s";refine bo (x:=5) (dx:=4) rfl rfl rfl ?_;walk_at "s";obtain e2:((at_:Int)+o.length).toNat=at_+o.length:=by exact ag 92871693450172601
 have e3:(at_:Int).toNat=at_:=by exact ah 14859470051
 rw[e2,e3];refine⟨hl,gb at_,ah 0x1868d4fe9fa865476df7bbdb79b4f ha,rfl,by simp;exact az 0x4f0df0a3f437701575ee120e100e51a27b24f ha ho (iI _ _),ab ho (by decide),hl,ag 646700305075,ag 0x2114bf1dfbc21e3a13f23bc83bfc838bee7a5e3b24f ha ho,rfl,by simp;exact gd 0x27e98c704d44bb57e7b5a3c8c1e2cb662b900c27c1bf34b1468e9b24f ha ho hl (iI _ _) (cV _ _),?_⟩;refine aam (by simp;lia) (by simp[OZ]) λm=>?_;walk_at "s";exact .same (q m)
end
section
variable {T:St} {Q:PV->St->Prop}
theorem iC(hb:b.length<=100000)(i4:56<=b.length)(q:Q (.bytes (rd b 0 56)) (W A B b own most++T)):aT G ⟨n+3,hn⟩ 382 [.ref 5,.int 1] (W A B b own most++T) Q:=by
 refine dF (Ap G) rfl D9 λhS z=>?_;show bI _ _ qm [some (.ref 5),some (.int 1)] _ _;unfold qm;walk_at "s";refine bo (x:=5) (dx:=4) rfl rfl rfl ?_;walk_at "s";refine bo (x:=5) (dx:=4) rfl rfl rfl ?_;walk_at "s";refine rK ?_;walk_at "s";refine aI (x:=10) (dx:=9) rfl rfl rfl ?_;walk_at "s";refine BX (at_:=0) (many:=56) hb (by decide) (by decide) ?_;rw[BR (i4)];walk_at "s";exact(.same q)
theorem q6(hb:b.length<=100000)(hl:l*56+56<=b.length)(q:Q (.bytes (rd b (l*56) 56)) (W A B b own most++T)):aT G ⟨n+3,hn⟩ 389 [.ref 5,.int 1,.int l,.int 56] (W A B b own most++T) Q:=by
 refine dF (FO G) rfl Jz λhS z=>?_;show bI _ _ vJ [some (.ref 5),some (.int 1),some (.int l),some (.int 56)] _ _;unfold vJ;walk_at "s";refine bo (x:=5) (dx:=4) rfl rfl rfl ?_;walk_at "s";refine⟨ag 0x252933abc351f073bdb4cfb951b404fb6885a70e23f hb hl,by decide,?_⟩;obtain e:(l:Int)*56=((l*56:Nat):Int):=by exact ah 0x4b056eb4ed38f886fcf79e9
 rw[e];refine BX (at_:=l*56) (many:=56) hb (ab (ab (cT (l*56) 56) hl) hb) (by decide) ?_;rw[BR (hl)];walk_at "s";exact(.same q)
theorem wy(H:OA (W A B b own most++T) h hd .cB (bj fb fs fm fe ft))(hb:b.length<=100000)(hi:ft*56+4*i+4<=b.length)(q:Q (.int (num (rd b (ft*56+4*i) 4))) (W A B b own most++T)) :
  aT G ⟨n+3,hn⟩ 396 [.ref 5,.int 1,.ref h,.int i,.int 56] (W A B b own most++T) Q:=by
 refine dF (Aq G) rfl Ea λhS z=>?_;show bI _ _ qn [some (.ref 5),some (.int 1),some (.ref h),some (.int i),some (.int 56)] _ _;unfold qn;walk_at "s";refine bo (x:=5) (dx:=4) rfl rfl rfl ?_;walk_at "s";refine aI H.i H.d rfl ?_;walk_at "s";refine⟨az 0xdd7f1a049c7dc865cecbef616490bd592d0b9c2d3ab7623f hb hi,by decide,by decide,az 0x46d08a1ec9dfe2c090460d1230b077668c2c329fbb7623f hb hi,?_⟩;obtain e:(ft:Int)*56+4*i=((ft*56+4*i:Nat):Int):=by exact ag 0x13dba2b939cbf8096b5e9869f3c055b87119969
 rw[e];refine BX (at_:=ft*56+4*i) (many:=4) hb (ab (ab (cT (ft*56+4*i) 4) hi) hb) (by decide) ?_;rw[BR (hi)];walk_at "s";refine iX (by rw[gR (hi)];decide) ?_;walk_at "s";exact(.same q)
theorem vV(H:OA (W A B b own most++T) h hd .cB (bj fb fs fm fe ft))(hb:b.length<=100000)(iS:fb<=10)(hi:ft*56+4*2^fb<=b.length)(tab:List Nat)(ht:tab.length=2^fb)(AB:∀i (_:i<tab.length),num (rd b (ft*56+4*i) 4)=tab[i])
  (q:Q (.ref (W A B b own most++T).length) (W A B b own most++T++[.list (tab.map λ(x:Nat)=>.int x)])):aT G ⟨n+3,true⟩ 401 [.ref 5,.int 1,.ref h,.int 56] (W A B b own most++T) Q:=by
 refine dF (FP G) rfl JA λhS z=>?_;show bI _ _ vK [some (.ref 5),some (.int 1),some (.ref h),some (.int 56),none] _ _;unfold vK;obtain hp:2^fb<=2^10:=ox (by decide) iS;obtain OW:(2:Int)^(fb:Int).toNat=((2^fb:Nat):Int):=by simp
 walk_at "s";refine bo (x:=5) (dx:=4) rfl rfl rfl ?_;walk_at "s";refine aI H.i H.d rfl ?_;walk_at "s";refine⟨az 0x7420c178c2600f69b0cbd4e8f1b0dc88ebe1c137623f hb hi,by decide,aI H.i H.d rfl ?_⟩;walk_at "s";rw[OW];refine⟨gb fb,ah 0x225a73026f73a8a123f iS,by decide,by decide,Mine.rN (a6 hp (by decide)),?_⟩;obtain e:(ft:Int)*56=((ft*56:Nat):Int):=by exact ah 0x4b056eb4ed38f886fcf79e9
 obtain e':(4:Int)*((2^fb:Nat):Int)=((4*2^fb:Nat):Int):=by exact ah 0x7aea2e368a95da833e79
 rw[e,e'];refine BX (at_:=ft*56) (many:=4*2^fb) hb (ab (ab (cT (ft*56) (4*2^fb)) hi) hb) (ab (ab (iJ (4*2^fb) (ft*56)) hi) hb) ?_;rw[BR hi];walk_at "s";refine ij (List.range (2^fb)) (λ(i:Nat)=>.int (0+(i:Int))) (λi=>.int (tab.getD i 0:Nat)) (.c6 (bg 0 (2^fb))) (λKK h'=>?_) rfl (by simp;exact ab hp (by decide)) trivial (λi iu k hk=>?_) ?_
 ·walk_at "s";refine aI H.i H.d rfl ?_;walk_at "s";rw[OW];exact⟨gb fb,ah 0x225a73026f73a8a123f iS,by decide,rfl,ah 0x38299632611b5f77,az 0xdd4bb87bba26aef26c698e9c531ec3d7af048acb4117623f hb hi,h'⟩
 ·have sG:i<2^fb:=by simpa using iu
  refine fN ?_;walk_at "s";obtain e1:((4:Int)*(0+i)).toNat=4*i:=by exact ah 0x7aea2773c8ab6039f9b1
  obtain e2:((4:Int)*(0+i+1)).toNat=4*i+4:=by exact ah 0x1bf2933526cedfa9057ef44e678f1
  refine⟨by decide,bO 0x527065cbac2a6e0b975f116e4ce1a445cfac914b1526f37377623f hb hi sG,by decide,bO 0x9d3d71a8e17958e2435b4fbabd11d521b92090c4a10d22d457f377623f hb hi sG,by rw[gR hi];exact ab (ab (iJ (4*2^fb) (ft*56)) hi) hb,ah 0x5c13b3a55450b,bO 0x10b39fd664a4437c76e02e9528c3bb639ade0f376a49fb638d309a09377623f hb hi sG,ah 0xaf9f80274d0fbfa0b,bO 0x1fdb1b35a4256ed83ded28de4e6990b3c84976697287b544452414dc23c9377623f hb hi sG,?_⟩;rw[e1,e2,MI];obtain e3:((rd b (ft*56) (4*2^fb)).drop (4*i)).take 4=rd b (ft*56+4*i) 4:=q0 (ag 0x231c5760c2c0cb21f427117aa1 sG);rw[e3];refine iX (by rw[gR (by exact bO 0x36cc2bea0aa7f24b1f7edb74d087163e7ea0dd9b77ed9bf hi sG)];decide) ?_;rw[AB i (az 0x9ccac9689ce5e51d5 ht sG)];obtain e4:tab.getD i 0=tab[i]'(by lia):=by simp[List.getD,show i<tab.length by exact az 0x9ccac9689ce5e51d5 ht sG]
  rw[e4]at hk;exact hk
 ·have e5:(List.range (2^fb)).map (λi=>PV.int (tab.getD i 0:Nat))=tab.map λ(x:Nat)=>PV.int x:=by
   rw[<- ht];apply C5 (by simp);intro i h1 h2;simp at h1 h2;simp[List.getD,h1]
  rw[e5];exact(.same q)
theorem BY(H:OA (W A B b own most++T) h hd .cB (bj fb fs fm fe ft))(hb:b.length<=100000)(iS:fb<=32)(hs:fs<4294967296)(hx:∀c∈x.cps.toList,c<128)(jn:x.cps.size<=255)
  (hi:ft*56+4*(aU x fs/2^(32-fb))+4<=b.length) (q:Q (.int (num (rd b (ft*56+4*(aU x fs/2^(32-fb))) 4))) (W A B b own most++T)) :
  aT G ⟨n+4,hn⟩ 451 [.ref 5,.int 1,.ref h,.str x,.int 56] (W A B b own most++T) Q:=by
 refine dF (FW G) rfl JE λhS z=>?_;show bI _ _ vP [some (.ref 5),some (.int 1),some (.ref h),some (.str x),some (.int 56)] _ _;unfold vP;walk_at "s";refine aI H.i H.d rfl ?_;walk_at "s";refine nX hs hx jn (aI H.i H.d rfl ?_);walk_at "s";refine sD iS ?_;walk_at "s";refine wy H hb hi ?_;walk_at "s";exact(.same q)
theorem q8(H:OA (W A B b own most++T) h hd .cB (bj fb fs fm fe ft))(hb:b.length<=50000)(h1:fb<256)(h2:fs<4294967296)(h3:fm<4294967296)(h4:fe<4294967296)(h5:ft<4294967296)
  (q:∀m,Q .none (W A B (bk b 0 (di fb fs fm fe ft)) own m++T)):aT G ⟨n+4,true⟩ 444 [.ref 5,.int 1,.ref h] (W A B b own most++T) Q:=by
 refine dF (FV G) rfl JD λhS z=>?_;show bI _ _ vO [some (.ref 5),some (.int 1),some (.ref h)] _ _;unfold vO;have hl:=gU fb fs fm fe ft;walk_at "s";refine bo (x:=5) (dx:=4) rfl rfl rfl ?_;walk_at "s";refine bo H.i H.d rfl ?_;walk_at "s";refine sF H h1 h2 h3 h4 h5 ?_;walk_at "s";refine jw (at_:=0) hb (by decide) (ah 0x9ab691bf60794355f hl) (λe=>by rw[e]at hl;cases hl) λm=>?_;walk_at "s";exact .same (q m)
theorem vW(H:OA (W A B b own most++T) h hd .cB (bj fb fs fm fe ft))(hb:b.length<=50000)(hl:l*56<=40000)(hs:fs<4294967296)(oo:lb<256)(fM:pre<4294967296)(RL:(aP fs old).at_<=56)
  (hr:(W A B b own most++T)[r]? =some (.list (rows.map ay))) (cD:∀x∈rows,gK x) (hn:rows.length<=100) (gk:(aP fs rows).at_<60000)
  (q1:(aP fs rows).at_<=56->∀m,Q (.bool true) (W A B (bk b (l*56) (bG lb pre fs rows 56)) own m++T)) (q2:56<(aP fs rows).at_->Q (.bool false) (W A B b own most++T)) :
  aT G ⟨n+4,true⟩ 458 [.ref 5,.int 1,.int l,.bytes (bG lb pre fs old 56),.ref h,.ref r] (W A B b own most++T) Q:=by
 refine dF (FX G) rfl JF λhS z=>?_;show bI _ _ vQ [some (.ref 5),some (.int 1),some (.int l),some (.bytes (bG lb pre fs old 56)),some (.ref h),some (.ref r),none,none,none] _ _;unfold vQ;obtain hz:sz=16777216:=rfl;obtain hL:=cL lb pre fs old 56 RL;obtain BV:=uX lb pre fs old 56;obtain O2:=Eg lb pre fs old 56;obtain Yy:=Fe lb pre fs old 56;generalize bG lb pre fs old 56=lf at *;walk_at "s";refine tP BV O2 (ah 0x9ab691bf607908bdf hL) (by decide) ⟨rfl,?_⟩;rw[Yy,gf _ _ (fM)];obtain eb:((UInt8.ofNat lb).toNat:Int)=(lb:Int):=by
  obtain this:(UInt8.ofNat lb).toNat=lb:=by simp;exact oo
  rw[this]
 rw[eb];walk_at "s";refine aI H.i H.d rfl ?_;walk_at "s";rw[hL];refine⟨by decide,mC (size:=56) hr cD hs oo fM (by decide) hn gk (λzY=>?_) λYz=>?_⟩
 ·refine ?_;obtain nZ:=cL lb pre fs rows 56 zY;walk_at "s";refine⟨rfl,b6 rfl ?_⟩;walk_at "s";refine bo (x:=5) (dx:=4) rfl rfl rfl ?_;walk_at "s";rw[hL];have e:(l:Int)*(56:Nat)=((l*56:Nat):Int):=by exact ah 0x4b056eb4ed38f884795ee9f
  refine⟨by decide,ah 0x10bc5d7f73b36657ca69a39f65ef72bf hl,by decide,?_⟩;rw[e];refine jw (at_:=l*56) hb (ab hl (by decide)) (ah 0x9ab691bf607908bdf nZ) (λe=>by rw[e]at nZ;cases nZ) λm=>?_;walk_at "s";exact(.same (q1 zY m))
 ·refine ?_;walk_at "s";refine fF rfl (?_);walk_at "s";exact((.same (q2 Yz)))
theorem MJ(hb:b.length<=100000)(i4:56<=b.length)(n5:rd b 0 18=di fb fs fm fe ft)(h1:fb<=32)(h2:fs<4294967296)(h3:fm<4294967296)(h4:fe<4294967296)(h5:ft<4294967296)
  (hx:∀c∈x.cps.toList,c<128) (jn:x.cps.size<=255) (hi:ft*56+4*(aU x fs/2^(32-fb))+4<=b.length) (hl:num (rd b (ft*56+4*(aU x fs/2^(32-fb))) 4)=l) (wO:l*56+56<=b.length)
  (xJ:rd b (l*56) 56=bG lb pre fs rows 56) (cD:∀r∈rows,gK r) (nd:(rows.map (·.1)).Nodup) (gk:(aP fs rows).at_<=56) (q:Q (kh rows x) (W A B b own most++T)) :
  aT G ⟨n+7,hn⟩ 406 [.ref 5,.int 1,.str x] (W A B b own most++T) Q:=by
 refine dF (FQ G) rfl JB λhS z=>?_;show bI _ _ vL [some (.ref 5),some (.int 1),some (.str x),none,none,none,none,none] _ _;unfold vL;obtain hz:sz=16777216:=rfl;obtain h0:(rd b 0 56)[0]? =some 2:=by
  obtain e:(rd b 0 18)[0]? =some 2:=by rw[n5];simp[di,oO,lH]
  rw[uY (by decide)]at e ⊢;exact e
 obtain av:=gR (b:=b) (i:=0) (k:=56) (i4);walk_at "s";refine iC hb i4 ?_;walk_at "s";refine pX h0 (ah 0x9ab691bf607908bdf av) (.inr rfl) ?_;walk_at "s";refine b6 (by decide) ?_;walk_at "s";obtain BZ:(rd b 0 56).take (18:Int).toNat=di fb fs fm fe ft:=by
  rw[<- n5];obtain this:=q0 (b:=b) (i:=0) (k:=56) (j:=0) (m:=18) (by decide);simpa [rd]using this
 rw[BZ];refine⟨ab (ab (bL av) i4) hb,by decide,by decide,n3 (a6 h1 (by decide)) h2 h3 h4 h5 ?_⟩;obtain H:OA (W A B b own most++T++[AO.aA .cB (bj fb fs fm fe ft),AO.bc .cB (W A B b own most++T).length]) ((W A B b own most++T).length+1) (W A B b own most++T).length .cB (bj fb fs fm fe ft):=OA.new;rw[aw]at H ⊢;walk_at "s";refine aI H.i H.d rfl ?_;walk_at "s";refine nX h2 hx jn ?_;walk_at "s";refine aI H.i H.d rfl ?_;walk_at "s";refine sD h1 ?_;walk_at "s";rw[av];refine⟨by decide,wy H hb hi ?_⟩;rw[hl];walk_at "s";rw[av];refine⟨by decide,q6 hb wO ?_⟩;rw[xJ];walk_at "s";refine JI cD nd (by decide) gk ?_;rw[<- aw];refine .kI hS ?_ q;unfold kh;split<;>trivial
end
structure HT(T:St)(k j:Nat)(fs:List (Fd×PV)):Prop where
 i:T[k]? =some (.bc .cB (11+j))
 d:T[j]? =some (.aA .cB fs)
section
variable {T J:St}
theorem bT(i:Nat):(W A B b own most++T)[11+i]? =T[i]?:=by
 rw[d9 (by simp[W])]
 congr 1
 simp[W]
theorem q9(i:Nat)(o:AO):(W A B b own most++T).set (11+i) o=W A B b own most++T.set i o:=by
 obtain e:(W A B b own most).length=11:=rfl;rw[List.set_append,ai (by exact ag 0xa986087311f9ef4e7 e),e]
 congr 2
 exact ou 11 i
theorem HT.oa(h:HT T k j fs):OA (W A B b own most++T) (11+k) (11+j) .cB fs:=⟨by rw[bT];exact h.i,by rw[bT];exact h.d⟩
theorem HT.lt(h:HT T k j fs):j<T.length:=(bP.mp h.d).1
theorem HT.oh(h:HT T k j fs):HT (T++J) k j fs:=⟨by rw[eH (bP.mp h.i).1];exact h.i,by rw[eH h.lt];exact h.d⟩
theorem HT.set(h:HT T k j fs)(gs:List (Fd×PV)):HT (T.set j (.aA .cB gs)) k j gs:=⟨by
 obtain this:j≠k:=by rintro rfl;have:=h.i;rw[h.d]at this;cases this
 rw[oy this];exact h.i,ow h.lt⟩
theorem HT.O3(h:HT T k j fs)(o:AO):(T++J).set j o=T.set j o++J:=List.set_append_left _ _ h.lt
theorem KZ{b':List UInt8}{m':Int}(h:jB (W A B b own most++T)){i:Nat}{o:AO}(ho:iQ 0 o):jB (W A B b' own m'++T.set i o):=by
 rw[<- q9];exact(BW h).set (ho.up (bM _))
end
section
variable {T:St}
theorem TH(l:List Nat):((l.map (le 4)).flatten).length=4*l.length:=by
 induction l with
 | nil=>rfl
 | cons a r ih=>simp[aQ,ih];exact ah 0x2dca0e4e03e102b1d3c1fa19b9
noncomputable def lK(tab:List Nat):List Nat:=(List.range (2*tab.length)).map λi=>tab.getD (i/2) 0
theorem IC(H:HT T k j (bj fb fs fm fe ft))(hb:b.length<=40000)(iS:fb<=6)(hi:ft*56+4*2^fb<=b.length)(tab:List Nat)(ht:tab.length=2^fb)(AB:∀i (_:i<tab.length),num (rd b (ft*56+4*i) 4)=tab[i])
  (hs:fs<4294967296) (hm:fm<4294967296) (he:fe<100) (hsm:∀x∈tab,x<4294967296)
  (q:∀m,Q .none (W A B (bk (bk b (fe*56) ((lK tab).map (le 4)).flatten) 0 (di (fb+1) fs fm (fe+(4*(2*tab.length)+55)/56) fe)) own m++T.set j (.aA .cB (bj (fb+1) fs fm (fe+(4*(2*tab.length)+55)/56) fe)))) :
  aT G ⟨n+6,true⟩ 468 [.ref 5,.int 1,.ref (11+k),.int 56] (W A B b own most++T) Q:=by
 refine dF (BB G) rfl F3 λhS z=>?_;show bI _ _ sr [some (.ref 5),some (.int 1),some (.ref (11+k)),some (.int 56),none,none] _ _;unfold sr;obtain hz:sz=16777216:=rfl;have hp:2^fb<=2^6:=ox (by decide) iS;have qC:(lK tab).length=2*tab.length:=by simp[lK]
 obtain K0:=TH (lK tab);walk_at "s";refine aI (v:=.int fb) H.oa.i H.oa.d rfl ?_;walk_at "s";refine b6 (c9 (by lia)) ?_;walk_at "s";refine vV H.oa (ab hb (by decide)) (ab iS (by decide)) hi tab ht AB ?_;rw[aw,aF];walk_at "s";refine ij (List.range (2*tab.length)) (λ(i:Nat)=>.int (0+(i:Int))) (λi=>.bytes (le 4 (tab.getD (i/2) 0))) (.c6 (bg 0 (2*tab.length))) (λKK h'=>?_) rfl (by simp;exact bO 0x1eaf4077a9cd778f43fab129b6d7af68950fdb0e78fada4ca9c56547a88b hb hi ht) trivial (λi iu kk cC=>?_) ?_
 ·walk_at "s";refine lZ (ds:=tab.map λ(x:Nat)=>.int x) (by rw[bT];simp) (by simp;exact bO 0x2b38c7d0d3db555e0ece2908d82ec91e6e11fea2351947a88b hb hi ht) ?_;rw[aK];walk_at "s";obtain e:((2:Int)*tab.length).toNat=2*tab.length:=by exact ah 0xc962259ae00c5fc9d
  rw[e];exact⟨by decide,bO 0x2b38c84d4ab6ee3ea43cc97b87f37eb35ef66a0f11d947a88b hb hi ht,rfl,ah 0x6b31c21ac71135e2c377,bO 0x1eaf4231d5ca85068abdd9f1e07da16e65b1c2b395dffd534b0dc547a88b hb hi ht,h'⟩
 ·have sG:i<2*tab.length:=by simpa using iu
  refine fN ?_;walk_at "s";obtain e1:((0:Int)+i)/2=((i/2:Nat):Int):=by exact kW (az 0x1fdd5de3cc8f18a0316bd76f205f272f9a5d (cI _ _) (dU _ (by decide))) (az 0x1fdd5de3c32994fd22d0ec8a17b15d32c19f (dU _ (by decide)) (cI _ _))
  obtain e2:tab.getD (i/2) 0=tab[i/2]'(by lia):=by simp[List.getD,show i/2<tab.length by exact az 0x2cd876e3c10273cc9523f0a733 sG (cI _ _)]
  rw[e1];refine⟨by decide,by decide,pW (ds:=tab.map λ(x:Nat)=>.int x) (d:=.int (tab.getD (i/2) 0:Nat)) (by rw[bT];simp) (by simp;exact bO 0x5270647570df779a52bb6e77af498908d4ca1c0167d4150947a88b hb hi ht) (gb (i/2)) ?_ ?_⟩
  ·rw[i8,cv,c8 (by exact az 0x2cd876e3c10273cc9523f0a733 sG (cI _ _)),e2];rfl
  ·refine cf (k:=4) ?_ (by decide) cC;rw[e2];exact hsm _ (jb _)
 ·walk_at "s";refine⟨rfl,(List.range (2*tab.length)).map λi=>le 4 (tab.getD (i/2) 0),?_,by simp;exact ag 0x7ff9c9498025046751b45f4011a241e105 ht hp,λx hx=>?_,rfl,?_⟩
  ·rw[eu,bQ];rfl
  ·apply eN (bH.mp hx);intro i _;rw[aQ];decide
  obtain e0:((List.range (2*tab.length)).map λi=>le 4 (tab.getD (i/2) 0))=(lK tab).map (le 4):=by
   unfold lK;rw[bQ];rfl
  rw[e0,aw,aw];generalize hJ:([AO.list (tab.map λ(x:Nat)=>PV.int x)]++[AO.list ((List.range (2*tab.length)).map λi=>PV.bytes (le 4 (tab.getD (i/2) 0)))]:St)=J;obtain H1:=H.oh (J:=J);walk_at "s";refine aI (v:=.int fb) H1.oa.i H1.oa.d rfl ?_;walk_at "s";refine bC H1.oa.i H1.oa.d (by decide) (by simp[bj]) ?_;rw[q9];obtain H2:=H1.set (put (bj fb fs fm fe ft) .bits (.int ((fb:Int)+1)));walk_at "s";refine aI (v:=.int fe) H2.oa.i H2.oa.d rfl ?_;walk_at "s";refine bC H2.oa.i H2.oa.d (by decide) (by simp[bj,put]) ?_;rw[q9];obtain H3:=H2.set (put (put (bj fb fs fm fe ft) .bits (.int ((fb:Int)+1))) .table (.int fe));walk_at "s";refine aI (v:=.int fe) H3.oa.i H3.oa.d rfl ?_;walk_at "s";refine⟨uH 0x672bbe7917cfbb9d29b7f2136a90a7e5d4acb79ab5ac6d8e6f882b73eeaeb9da5bf06f7f18b hb hi ht qC K0,?_⟩;rw[K0,qC];refine OU (b:=56) (by decide) (by decide) ?_;walk_at "s";obtain eg:put (put (put (bj fb fs fm fe ft) .bits (.int ((fb:Int)+1))) .table (.int fe)) .behind (.int ((fe:Int)+((4*(2*tab.length)+56-1)/56:Nat)))=bj (fb+1) fs fm (fe+(4*(2*tab.length)+55)/56) fe:=by
   show [(Fd.bits,PV.int ((fb:Int)+1)),(Fd.salt,PV.int fs),(Fd.many,PV.int fm),(Fd.behind,PV.int ((fe:Int)+((4*(2*tab.length)+56-1)/56:Nat))),(Fd.table,PV.int fe)]=_;unfold bj;simp
  refine bC H3.oa.i H3.oa.d (by decide) (by simp[bj,put]) ?_;rw[q9];obtain H4:=H3.set (bj (fb+1) fs fm (fe+(4*(2*tab.length)+55)/56) fe);rw[eg];simp only[mW]at H4 ⊢;walk_at "s";refine bo (x:=5) (dx:=4) rfl rfl rfl ?_;walk_at "s";refine aI (v:=.int fe) H4.oa.i H4.oa.d rfl ?_;walk_at "s";obtain e9:(fe:Int)*56=((fe*56:Nat):Int):=by exact ah 0x4b056eb4ed38f886fcf79e9
  refine⟨Mine.rN (aJ he (by decide)),by decide,?_⟩;rw[e9];refine jw (at_:=fe*56) (ab hb (by decide)) (ah 0xd1ace911ff2afca2d87367dbf635edf he) (bO 0x69dbea18c9723d4574feb4e019870cf740ad901fd52610e7565 ht hp qC K0) (λe=>?_) λm=>?_
  ·rw[e]at K0;obtain this:=yL (n:=fb) (show 0<2 by decide);simp at K0;lia
  walk_at "s";obtain hbw:(bk b (fe*56) ((lK tab).map (le 4)).flatten).length<=50000:=by
   obtain this:=pY b (fe*56) ((lK tab).map (le 4)).flatten;exact l70 0x6229cacff55955469dcb177a328c024785ce242e46bfa8e5dd4fffac6c7865e1265e4cb730503dcf000ac4cb1b4be84808b hb ht he hp qC K0 this
  refine q8 H4.oa hbw (Nat.succ_lt_succ (a6 iS (by decide))) hs hm (uH 0x187c20e8ed897f9b53224dea07e8e895b094a9957db5105c6fbde9764e2ec36626534ff9023e9440df82c71289fbb06f7f18b hb hi ht he (cI _ _)) (aJ he (by decide)) λm'=>?_;walk_at "s";rw[H.O3,<-aw];exact dT.mN (by rw[aF,aF];simp) (KZ hS (uW rfl)) trivial (q m')
end
noncomputable def lL(r:aM):cK:=.r r.1 r.2
theorem RM(h:lL r=lL q):r=q:=by
 cases r;cases q;unfold lL at h;injection h with h1 h2;simp only at h1 h2;subst h1;obtain this:=Int.ofNat.inj h2;subst this;rfl
theorem RN{rs:List aM}:lL r∈rs.map lL↔r∈rs:=by
 constructor
 ·intro h;refine ak (bH.mp h) λq hq e=>?_;rw[<- RM e];exact hq
 ·exact λh=>bH.mpr ⟨r,h,rfl⟩
theorem xK(p:α->Bool)(f:α->PV)(xs:List α):(xs.filterMap λa=>if p a then some (f a)else none)=(xs.filter p).map f:=by
 induction xs with
 | nil=>rfl
 | cons a r ih=>cases h:p a<;>simp[h,ih]
theorem rM{α:Type}(xs:List α)(f:α->PV)(p:α->Bool)(h:α->PV)(aC:b9)(hi:∀KK:b9->St->Prop,KK aC S->qy G lv it its l S KK)(qe:aC.items=xs.map f)(av:xs.length<=1000000)(cD:aC.nh S)
  (hs:∀a∈xs,∀k:Option PV->St->Prop,k (if p a then some (h a)else none) S->fY n tup (f a) λys=>aO G lv gG (l++ys) S λt af=>j8 t af (λaf=>aO G lv fj (l++ys) af λr aL=>k (some r) aL) (k none))
  (q:Q (.ref S.length) (S++[.list ((xs.filter p).map h)])):aO G lv (.comp fj n tup it its gG) l S Q :=
 y9 xs f (λa=>if p a then some (h a)else none) aC S hi qe av cD hs (by rw[xK];exact q)
theorem n6(h:hG x):PyData.strOk x=true:=by
 unfold PyData.strOk;rw[JR];intro c hc;obtain this:=h c (by simpa using hc);simp;exact ah 0x3b46d0825207b1a86ed95df this.2
noncomputable def j5(salt lb:Nat)(r:aM):Bool:=decide (aU r.1 salt/2^(32-(lb+1))%2=1)
section
variable {T:St} {Q:PV->St->Prop}
theorem zF{rows:List aM}(H:HT T k j (bj fb fs fm fe ft))(hb:b.length<=30000)(oo:lb<fb)(ki:fb<=7)(fM:pre<1000)(hpb:(2*pre+1)*2^(fb-lb-1)<=128)(hl:l<=100)(hs:fs<4294967296)(hm:fm<4294967296)(he:fe<100)(ht:ft<100)
  (cD:∀x∈rows,gK x) (av:rows.length<=100) (gk:(aP fs rows).at_<=56) (YA:(aP fs (rows.filter (j5 fs lb))).at_<=56) (YB:(aP fs (rows.filter λr=>!j5 fs lb r)).at_<=56)
  (q:∀m,Q .none (W A B (bk (bk (bk (bk b 0 (di fb fs fm (fe+1) ft)) (l*56) (bG (lb+1) (2*pre) fs (rows.filter λr=>!j5 fs lb r) 56)) (fe*56) (bG (lb+1) (2*pre+1) fs (rows.filter (j5 fs lb)) 56)) (ft*56+4*((2*pre+1)*2^(fb-lb-1))) (List.replicate (2^(fb-lb-1)) (le 4 fe)).flatten) own m
   ++ T.set j (.aA .cB (bj fb fs fm (fe+1) ft)))) :
  aT G ⟨n+7,true⟩ 473 [.ref 5,.int 1,.ref (11+k),.int l,.bytes (bG lb pre fs rows 56)] (W A B b own most++T) Q:=by
 refine dF (DY G) rfl It λhS w=>?_;show bI _ _ tL [some (.ref 5),some (.int 1),some (.ref (11+k)),some (.int l),some (.bytes (bG lb pre fs rows 56)),none,none,none,none,none,none,none,none,none] _ _;unfold tL;obtain hz:sz=16777216:=rfl;obtain hL:=cL lb pre fs rows 56 gk;obtain BV:=uX lb pre fs rows 56;obtain O2:=Eg lb pre fs rows 56;obtain Yy:=Fe lb pre fs rows 56;have hLR:=λ{S:St} {Q:PV->St->Prop} (q:Q (.ref S.length) (S++[.list (rows.map ay)]))=>pz (G:=G) (n:=n) (bits:=lb) (pre:=pre) cD (show 56<=1000 by decide) gk av q;generalize bG lb pre fs rows 56=lf at *;walk_at "s";rw[hL];refine⟨by decide,?_⟩;walk_at "s";refine tP BV O2 (ah 0x9ab691bf607908bdf hL) (by decide) ⟨rfl,?_⟩;rw[Yy,gf _ _ (aJ fM (by decide))];obtain eb:((UInt8.ofNat lb).toNat:Int)=(lb:Int):=by
  obtain this:(UInt8.ofNat lb).toNat=lb:=by simp;exact aJ oo (ab ki (by decide))
  rw[this]
 rw[eb];walk_at "s";refine hLR ?_;rw[aw,aF];obtain H1:=H.oh (J:=[AO.list (rows.map ay)]);walk_at "s";refine rM rows ay (j5 fs lb) ay (.list (11+T.length) (rows.map ay)) (λKK h'=>?_) rfl (ab av (by decide)) (by show(_:St)[_]? =_;rw[bT];simp) (λr hr kk cC=>?_) ?_
 ·walk_at "s";exact eY (by rw[bT];simp) (by simp;exact ab av (by decide)) h'
 ·refine jL (cD r hr) λh1 h2 h3=>?_;refine fN ?_;unfold ay;walk_at "s";refine⟨_,by decide,by simp,rfl,aI (v:=.int fs) H1.oa.i H1.oa.d rfl ?_⟩;walk_at "s";refine nX hs (λc hc=>by obtain this:=h1 c hc;exact ah 0x9fa11e948c06d0bdf this.2) h2 ?_;walk_at "s";have e1:(lb:Int)+1=((lb+1:Nat):Int):=by exact ah 0x7aea2e360edf7f043919
  rw[e1];refine sD (ag 0x1276cb75e62f3130d4fd79 oo ki) ?_;walk_at "s";obtain e2:decide (((aU r.1 fs/2^(32-(lb+1)):Nat):Int)%2=1)=j5 fs lb r:=by
   unfold j5
   congr 1
   rw[eq_iff_iff];lia
  refine⟨by decide,?_⟩;rw[e2];cases ho:j5 fs lb r with
  | true =>
   rw[ho]at cC;refine fF rfl ?_;walk_at "s";exact cC
  | false =>
   rw[ho]at cC;exact b6 rfl cC
 obtain eA:∀x y:AO,T++[x]++[y]=T++[x,y]:=by simp
 rw[aw,aF,eA];obtain eL:(T++[AO.list (rows.map ay)]).length=T.length+1:=by simp
 rw[eL];generalize MK:rows.filter (j5 fs lb)=qu at *;obtain hzz:(rows.filter λr=>!decide (lL r∈qu.map lL))=rows.filter λr=>!j5 fs lb r:=by
  apply kS;intro r hr
  congr 1
  rw[ur,jT,RN,<-MK,eT];exact⟨λh=>h.2,λh=>⟨hr,h⟩⟩
 obtain Bk:∀x∈qu,gK x:=λx hx=>cD x (by rw[<- MK]at hx;exact(eT.mp hx).1);obtain pP:qu.length<=rows.length:=by rw[<- MK];exact jH _ _
 walk_at "s";refine rM rows ay (λr=>!decide (lL r∈qu.map lL)) ay (.list (11+T.length) (rows.map ay)) (λKK h'=>?_) rfl (ab av (by decide)) (by show(_:St)[_]? =_;rw[bT];simp) (λr hr kk cC=>?_) ?_
 ·walk_at "s";exact eY (by rw[bT];simp) (by simp;exact ab av (by decide)) h'
 ·refine fN ?_;unfold ay;walk_at "s";refine .inr ⟨lL r,rfl,n6 (cD r hr).1,qu.map lL,?_,?_,?_⟩
  ·rw[bT,bQ];simp;exact λw w w=>rfl
  ·simp only[uB,aS];exact λx hx=>n6 (Bk x hx).1
  ·cases hc:(!decide (lL r∈qu.map lL))with
   | true =>
    rw[hc]at cC;refine fF hc ?_;walk_at "s";exact cC
   | false =>
    rw[hc]at cC;exact b6 hc cC
 rw[hzz,aw,aF];generalize TJ:(rows.filter λr=>!j5 fs lb r)=i5 at *;have OZ:∀x∈i5,gK x:=λx hx=>cD x (by rw[<- TJ]at hx;exact(eT.mp hx).1);have ac3:i5.length<=rows.length:=by rw[<- TJ];exact jH _ _
 have eL2:(T++[AO.list (rows.map ay),AO.list (qu.map ay)]).length=T.length+2:=by simp
 obtain eA2:∀x y z:AO,T++[x,y]++[z]=T++[x,y,z]:=by simp
 rw[eL2,eA2];generalize hJ:([AO.list (rows.map ay),AO.list (qu.map ay),AO.list (i5.map ay)]:St)=J;obtain g1:∀{b:List UInt8} {most:Int} {o:AO},(W A B b own most++(T.set j o++J))[11+(T.length+1)]? =some (.list (qu.map ay)):=by
  intro b most o;rw[bT,<-hJ];obtain this:T.length=(T.set j o).length:=by simp
  rw[this,d9 (cT (List.set T j o).length 1)];simp
 obtain g0:∀{b:List UInt8} {most:Int} {o:AO},(W A B b own most++(T.set j o++J))[11+(T.length+2)]? =some (.list (i5.map ay)):=by
  intro b most o;rw[bT,<-hJ];obtain this:T.length=(T.set j o).length:=by simp
  rw[this,d9 (cT (List.set T j o).length 2)];simp
 obtain H2:=H.oh (J:=J);walk_at "s";refine aI (v:=.int fe) H2.oa.i H2.oa.d rfl ?_;walk_at "s";refine bC H2.oa.i H2.oa.d (by decide) (by simp[bj]) ?_;obtain eg:put (bj fb fs fm fe ft) .behind (.int ((fe:Int)+1))=bj fb fs fm (fe+1) ft:=by
  show [(Fd.bits,PV.int fb),(Fd.salt,PV.int fs),(Fd.many,PV.int fm),(Fd.behind,PV.int ((fe:Int)+1)),(Fd.table,PV.int ft)]=_;simp[bj]
 rw[eg,q9,H.O3];have H3:HT (T.set j (.aA .cB (bj fb fs fm (fe+1) ft))++J) k j (bj fb fs fm (fe+1) ft):=(H.set _).oh;obtain xJ:=gU fb fs fm (fe+1) ft;obtain YC:=pY b 0 (di fb fs fm (fe+1) ft);obtain ID:=cL (lb+1) (2*pre) fs i5 56 YB;obtain wz:=cL (lb+1) (2*pre+1) fs qu 56 YA;walk_at "s";refine q8 H3.oa (ab hb (by decide)) (a6 ki (by decide)) hs hm (Nat.succ_lt_succ (aJ he (by decide))) (aJ ht (by decide)) λm=>?_;generalize bk b 0 (di fb fs fm (fe+1) ft)=b1 at *;obtain O4:=pY b1 (l*56) (bG (lb+1) (2*pre) fs i5 56);walk_at "s";refine bo (x:=5) (dx:=4) rfl rfl rfl ?_;walk_at "s";obtain e3:(l:Int)*(56:Nat)=((l*56:Nat):Int):=by exact ah 0x4b056eb4ed38f884795ee9f
 obtain e4:(lb:Int)+1=((lb+1:Nat):Int):=by exact ah 0x7aea2e360edf7f043919
 have e5:(2:Int)*pre=((2*pre:Nat):Int):=by exact ah 0x7aea2e368a8e93de1595
 have e6:((2*pre:Nat):Int)+1=((2*pre+1:Nat):Int):=by exact ah 0x1bf294c3f82b017090feb741a528d
 refine⟨Mine.rN (a6 hl (by decide)),by decide,by decide,Mine.rN (aJ fM (by decide)),aI (v:=.int fs) H3.oa.i H3.oa.d rfl ?_⟩;walk_at "s";rw[e3,e4,e5];refine mC (size:=56) g0 OZ hs (ag 0x3b67c67e3d9a0823565cd79 oo ki) (ah 0x7244215bc0c6dc08e9b39ebf47f fM) (by decide) (ab ac3 av) (a6 YB (by decide)) (λw=>?_) (λh=>by lia);walk_at "s";refine jw (at_:=l*56) (az 0x11c29c7541540dfe30c8a08fc043abe5a280311832fec7 hb xJ YC) (ah 0xd1ace911ff2afca2d87367dacc2ffbf hl) (ah 0x9ab691bf607908bdf ID) (λe=>by rw[e]at ID;cases ID) λm=>?_;generalize bk b1 (l*56) (bG (lb+1) (2*pre) fs i5 56)=b2 at *;obtain hw3:=pY b2 (fe*56) (bG (lb+1) (2*pre+1) fs qu 56);walk_at "s";refine bo (x:=5) (dx:=4) rfl rfl rfl ?_;walk_at "s";obtain e7:(fe:Int)*(56:Nat)=((fe*56:Nat):Int):=by exact ah 0x4b056eb4ed38f884795ee9f
 refine⟨Mine.rN (aJ he (by decide)),by decide,by decide,Mine.rN (aJ fM (by decide)),aI (v:=.int fs) H3.oa.i H3.oa.d rfl ?_⟩;walk_at "s";rw[e7,e4,e5,e6];refine mC (size:=56) g1 Bk hs (ag 0x3b67c67e3d9a0823565cd79 oo ki) (ah 0xd9f202bf36aa8d4079808f77d9bf47f fM) (by decide) (ab pP av) (a6 YA (by decide)) (λw=>?_) (λh=>by lia);walk_at "s";refine jw (at_:=fe*56) (uH 0x2c3573c9987fa20386cfae84f5251805dee1cfba395e3bb48b62fa776e62743e6553c13369eeeee1e6c91ec7 hb hl xJ ID YC O4) (ah 0xd1ace911ff2afca2d87367dbf635edf he) (ah 0x9ab691bf607908bdf wz) (λe=>by rw[e]at wz;cases wz) λm=>?_;generalize bk b2 (fe*56) (bG (lb+1) (2*pre+1) fs qu 56)=b3 at *;walk_at "s";refine aI (v:=.int fb) H3.oa.i H3.oa.d rfl ?_;walk_at "s";obtain e8:((fb:Int)-lb-1).toNat=fb-lb-1:=by exact bu (gd 0x18b0446937b4e43a8e325d70ebf86ec48e09 cP cP (gX (ag 0x22411efc4bee14deae1 oo))) (gd 0x18acc1ab9eba89e13d93f3303636f3c64125 (i9 _) (ba (ag 11262717601 oo)) (ba (az 0x98c4434bc1ff12159 oo cP)))
 obtain hp:2^(fb-lb-1)<=2^7:=ox (by decide) (az 0x5eca30ad861d651d3107 ki (cV _ _) (cV _ _));obtain Ff:0<2^(fb-lb-1):=yL (by decide);obtain e9:(2:Int)^((fb:Int)-lb-1).toNat=((2^(fb-lb-1):Nat):Int):=by rw[e8];simp
 rw[e9];refine⟨ag 0x22411efc4bee14deae1 oo,ag 0x27fe161e951c85d3efedc4d997 ki,by decide,?_⟩;walk_at "s";rw[e5,e6];generalize 2^(fb-lb-1)=many at *;refine⟨by decide,Mine.rN (aJ fM (by decide)),ah 0xd9f338b386f9c4c7e06d1d2bd77f47f fM,Mine.rN (a6 hp (by decide)),?_⟩;walk_at "s";refine bo (x:=5) (dx:=4) rfl rfl rfl ?_;walk_at "s";refine aI (v:=.int ft) H3.oa.i H3.oa.d rfl ?_;walk_at "s";obtain YD:(ft:Int)*(56:Nat)+4*(((2*pre+1:Nat):Int)*many)=((ft*56+4*((2*pre+1)*many):Nat):Int):=by
  simp
 obtain e11:((2*pre+1:Nat):Int)*many=(((2*pre+1)*many:Nat):Int):=by simp
 refine⟨Mine.rN (aJ ht (by decide)),by decide,by decide,by rw[e11];exact Mine.rN (a6 hpb (by decide)),?_⟩;rw[YD];refine cf (k:=4) (aJ he (by decide)) (by decide) ?_;walk_at "s";obtain BU:∀q:Nat,(List.replicate q (le 4 fe)).flatten.length=q*4:=λq=>by simp[aQ]
 obtain e12:(many:Int).toNat=many:=by exact ah 14859470051
 refine⟨rfl,λe=>(by obtain this:=aQ 4 fe;rw[e]at this;cases this),gb many,ah 0x22b7a04e85f3dc5334f hp,by rw[aQ];decide,?_⟩;rw[e12];refine jw (at_:=ft*56+4*((2*pre+1)*many)) (l90 0x6e0b78aea65b5292ba0a77718693bbbb90382767e648edeaee4c0bd12e378268c83e0975590b91c4ded4ddac497e03a2f4f42c864859a2700d85e2e4196f491ec7 hb hl he xJ ID wz YC O4 hw3) ?_ (by rw[BU];exact ah 0x6dee28fde9a04987e8e7b84c84f hp) (λe=>?_) λm=>?_
 ·exact ag 0x69dbea1201784c7128de5bd5500ad9fda83e96bbd9b8d9d62df ht hpb
 ·obtain this:=BU many;rw[e]at this;simp at this;lia
 walk_at "s";rw[<- aw];exact dT.mN (by rw[aF,aF];simp) (KZ hS (uW rfl)) trivial (q m)
end
structure Eh(b:List UInt8)(salt:Nat)(name:Str)(fb fm fe ft l lb pre:Nat)(rows:List aM):Prop where
 n5:rd b 0 18=di fb salt fm fe ft
 ki:fb<=7
 u0:fm<1000
 ef:fe<100
 lX:ft<100
 len:b.length<=25000
 TK:num (rd b (ft*56+4*(aU name salt/2^(32-fb))) 4)=l
 Gu:ft*56+4*(aU name salt/2^(32-fb))+4<=b.length
 hl:l<=100
 TL:l*56+56<=b.length
 leaf:rd b (l*56) 56=bG lb pre salt rows 56
 ok:∀x∈rows,gK x
 nd:(rows.map (·.1)).Nodup
 at_:(aP salt rows).at_<=56
 oq:rows.length<=10
 oo:lb<=fb
 fM:pre<128
 TM:56<=b.length
noncomputable def aZ(name:Str)(rows:List aM):List aM:=rows.filter λr=>decide (r.1≠name)
noncomputable def cy(name:Str)(number:Nat)(rows:List aM):List aM:=aZ name rows++[(name,number)]
noncomputable def vX(b:List UInt8)(salt fb fm fe:Nat)(tab:List Nat):List UInt8:=bk (bk b (fe*56) ((lK tab).map (le 4)).flatten) 0 (di (fb+1) salt fm (fe+(4*(2*tab.length)+55)/56) fe)
noncomputable def zd(b:List UInt8)(salt fb fm fe ft l lb pre:Nat)(rows:List aM):List UInt8 :=
 bk (bk (bk (bk b 0 (di fb salt fm (fe+1) ft)) (l*56) (bG (lb+1) (2*pre) salt (rows.filter λr=>!j5 salt lb r) 56)) (fe*56) (bG (lb+1) (2*pre+1) salt (rows.filter (j5 salt lb)) 56)) (ft*56+4*((2*pre+1)*2^(fb-lb-1))) (List.replicate (2^(fb-lb-1)) (le 4 fe)).flatten
structure xM(salt fb lb pre:Nat)(rows:List aM):Prop where
 lt:lb<fb
 kK:fb<=7
 pb:(2*pre+1)*2^(fb-lb-1)<=128
 at1:(aP salt (rows.filter (j5 salt lb))).at_<=56
 at0:(aP salt (rows.filter λr=>!j5 salt lb r)).at_<=56
inductive aan(salt:Nat)(name:Str)(number:Nat)(R:List UInt8->List UInt8->Prop)(b b':List UInt8)(fb fm fe ft l lb pre:Nat)(rows:List aM):Prop
 | part (P:xM salt fb lb pre rows) (next:R (zd b salt fb fm fe ft l lb pre rows) b')
 | eD {tab:List Nat} (oo:lb=fb)
   (tl:tab.length=2^fb) (tb:∀i (_:i<tab.length),num (rd b (ft*56+4*i) 4)=tab[i]) (ts:∀x∈tab,x<4294967296) (ti:ft*56+4*2^fb<=b.length) (nb:fe+(4*(2*tab.length)+55)/56<100) (len:(vX b salt fb fm fe tab).length<=30000)
   (P:xM salt (fb+1) lb pre rows) (next:R (zd (vX b salt fb fm fe tab) salt (fb+1) fm (fe+(4*(2*tab.length)+55)/56) fe l lb pre rows) b')
inductive aao(salt:Nat)(name:Str)(number:Nat)(R:List UInt8->List UInt8->Prop)(b b':List UInt8)(fb fm fe ft l lb pre:Nat)(rows:List aM):Prop
 | Fh (gk:(aP salt (cy name number rows)).at_<=56) (hm:rows.length<=fm+1+(aZ name rows).length)
   (e:b'=bk (bk b (l*56) (bG lb pre salt (cy name number rows) 56)) 0 (di fb salt (fm+1+(aZ name rows).length-rows.length) fe ft))
 | more (gk:56<(aP salt (cy name number rows)).at_) (AD:(aP salt (cy name number rows)).at_<1000) (k:aan salt name number R b b' fb fm fe ft l lb pre rows)
inductive IE(salt:Nat)(name:Str)(number:Nat)(R:List UInt8->List UInt8->Prop)(b b':List UInt8):Prop
 | mk {fb fm fe ft l lb pre:Nat} {rows:List aM} (h:Eh b salt name fb fm fe ft l lb pre rows) (k:aao salt name number R b b' fb fm fe ft l lb pre rows)
noncomputable def kL(salt:Nat)(name:Str)(number N:Nat):List UInt8->List UInt8->Prop:=Nat.rec (λz z=>False) (λz R=>IE salt name number R) N
theorem kL.inv(D:kL salt name number N b b'):∃M,M<N/\IE salt name number (kL salt name number M) b b':=by
 cases N with
 | zero=>exact D.elim
 | succ N=>exact⟨N,oD N,D⟩
section
variable (h:Eh b salt name fb fm fe ft l lb pre rows)
include h
theorem kL.Fh(gk:(aP salt (cy name number rows)).at_<=56)(hm:rows.length<=fm+1+(aZ name rows).length):kL salt name number (n+1) b (bk (bk b (l*56) (bG lb pre salt (cy name number rows) 56)) 0 (di fb salt (fm+1+(aZ name rows).length-rows.length) fe ft)) :=
 IE.mk h (.Fh gk hm rfl)
variable (gk:56<(aP salt (cy name number rows)).at_) (AD:(aP salt (cy name number rows)).at_<1000)
include gk AD
theorem kL.part(P:xM salt fb lb pre rows)(next:kL salt name number n (zd b salt fb fm fe ft l lb pre rows) b'):kL salt name number (n+1) b b':=IE.mk h (.more gk AD (.part P next))
theorem kL.eD{tab:List Nat}(oo:lb=fb)(tl:tab.length=2^fb)(tb:∀i (_:i<tab.length),num (rd b (ft*56+4*i) 4)=tab[i])(ts:∀x∈tab,x<4294967296)(ti:ft*56+4*2^fb<=b.length)(nb:fe+(4*(2*tab.length)+55)/56<100)
  (len:(vX b salt fb fm fe tab).length<=30000) (P:xM salt (fb+1) lb pre rows) (next:kL salt name number n (zd (vX b salt fb fm fe tab) salt (fb+1) fm (fe+(4*(2*tab.length)+55)/56) fe l lb pre rows) b'):kL salt name number (n+1) b b' :=
 IE.mk h (.more gk AD (.eD oo tl tb ts ti nb len P next))
end
theorem YE(h1:Sc n a)(h2:Sc n b)(h3:Sc n c)(h4:Sc n d):lu n [some a,some b,some c,some d,none,none,none,none,none,none,none] [some a,some b,some c,some d,w1,w2,w3,w4,w5,w6,w7] :=
 .s h1 (.s h2 (.s h3 (.s h4 (.n (.n (.n (.n (.n (.n (.n .nil))))))))))
theorem Gv(h:i<n):Sc n (.ref i):=h
section
variable {T:St}
theorem Fi(hs:salt<4294967296)(hx:hG name)(jn:name.cps.size<=255)(ahZ:number<0x10000000000000000)(D:kL salt name number N b b')(q:∀m,Q .none (W A B b' own m++T)) :
  aT G ⟨n+8,true⟩ 463 [.ref 5,.int 1,.str name,.int number] (W A B b own most++T) Q:=by
 refine dF (Ii G) rfl MA λhS z=>?_;show bI _ _ xD [some (.ref 5),some (.int 1),some (.str name),some (.int number),none,none,none,none,none,none,none] _ _;unfold xD;obtain TN:∀c∈name.cps.toList,c<128:=λc hc=>by obtain this:=hx c hc;exact ah 0x9fa11e948c06d0bdf this.2
 walk_at "s";refine Iv (λN l' S'=>∃b most,kL salt name number N b b'/\S'=W A B b own most++T/\l'=[some (.ref 5),some (.int 1),some (.str name),some (.int number),none,none,none,none,none,none,none]) N ⟨b,most,D,rfl,rfl⟩ ?_;obtain B0:∀(b:List UInt8) (m:Int),jB (W A B b own m++T):=λb m=>BW hS;rintro N l' S' ⟨b1,aap,D1,rfl,rfl⟩ P R hP hR;walk_at "s";refine fF rfl (hP _ λKB kg BN=>?_);refine ak D1.inv λN' hN D2=>?_;cases D2 with | @mk fb fm fe ft l lb pre rows h ML =>
 obtain hz:sz=16777216:=rfl;have av:=h.len;obtain xN:=h.TM;obtain jF:=gR (b:=b1) (i:=0) (k:=56) (xN);have ki:=h.ki;have u0:=h.u0;have ef:=h.ef;have lX:=h.lX;have qA:=h.hl;have AE:=h.oo;have fM:=h.fM;have jx:=h.oq;have pP:(aZ name rows).length<=rows.length:=jH _ _;obtain MM:∀x∈cy name number rows,gK x:=λx hx=>by
  rcases dt.mp hx with hx | hx
  ·exact h.ok x (eT.mp hx).1
  ·apply zL (aV.mp hx);exact⟨by assumption,by assumption,by assumption⟩
 walk_at "s";refine iC (ab av (by decide)) xN ?_;walk_at "s";obtain BZ:(rd b1 0 56).take (18:Int).toNat=di fb salt fm fe ft:=by
  rw[<- h.n5];obtain this:=q0 (b:=b1) (i:=0) (k:=56) (j:=0) (m:=18) (by decide);simpa [rd]using this
 rw[BZ];refine⟨ah 0x5e6dee6e54154d97dbdf jF,by decide,by decide,n3 (a6 ki (by decide)) hs (aJ u0 (by decide)) (aJ ef (by decide)) (aJ lX (by decide)) ?_⟩;rw[aw,aF];walk_at "s";rw[jF];refine⟨by decide,rfl,rfl,?_⟩;have HN:∀J,HT (T++(AO.aA .cB (bj fb salt fm fe ft)::AO.bc .cB (11+T.length)::J)) (T.length+1) T.length (bj fb salt fm fe ft):=λJ=>⟨by simp,by simp⟩;obtain H0:=HN [];walk_at "s";refine BY H0.oa (ab av (by decide)) (ab ki (by decide)) hs TN jn h.Gu ?_;rw[h.TK];walk_at "s";refine q6 (ab av (by decide)) h.TL ?_;rw[h.leaf];walk_at "s";refine pz h.ok (by decide) h.at_ (ab jx (by decide)) ?_;rw[aw,aF,aw];walk_at "s";obtain eL:(T++[AO.aA .cB (bj fb salt fm fe ft),AO.bc .cB (11+T.length)]).length=T.length+2:=by simp
 rw[eL];refine rM rows ay (λr=>decide (r.1≠name)) ay (.list (11+(T.length+2)) (rows.map ay)) (λKK h'=>?_) rfl (ab jx (by decide)) (by show(_:St)[_]? =_;rw[bT];simp) (λr hr kk cC=>?_) (?_)
 ·walk_at "s";exact eY (by rw[bT];simp) (by simp;exact ab jx (by decide)) h'
 ·refine fN ?_;unfold ay;walk_at "s";refine⟨_,by decide,by simp,rfl,?_⟩;by_cases xO:r.1=name
  ·refine b6 (by simp[xO]) ?_;rw[show decide (r.1≠name)=false from by simp[xO]]at cC;exact cC
  ·refine fF (by simp[xO]) ?_;walk_at "s";rw[show decide (r.1≠name)=true from by simp[xO]]at cC;exact cC
 obtain eo:(rows.filter λr=>decide (r.1≠name))=aZ name rows:=rfl;rw[eo,aw,aF];walk_at "s";rw[aw,aF];refine⟨rfl,by simp,rfl,(aZ name rows).map ay,[.tup [.str name,.int number]],by rw[bT];simp,by rw[bT];simp,by simp;exact ab pP (ab jx (by decide)),?_⟩;rw[aw,aF];obtain ew:(aZ name rows).map ay++[PV.tup [.str name,.int number]]=(cy name number rows).map ay:=by simp[cy,ay]
 rw[ew];obtain eJ:∀a b c d e f:AO,T++([a,b]++[c])++[d]++[e]++[f]=T++(a::b::[c,d,e,f]):=by simp
 simp only[aw,List.cons_append,List.nil_append,aW,dE,je];obtain H1:=HN [AO.list (rows.map ay),AO.list ((aZ name rows).map ay),AO.list [PV.tup [PV.str name,PV.int number]],AO.list ((cy name number rows).map ay)];obtain hz:sz=16777216:=rfl;obtain hW:(W A B b1 own aap).length=11:=rfl;obtain hx0:(0:Nat)+1+1+1+1+1=5:=rfl;rw[hx0];obtain xP:(cy name number rows).length<=100:=by simp[cy];exact ab pP (ab jx (by decide))
 cases ML with
 | Fh zY hmm eb' =>
  refine vW H1.oa (ab av (by decide)) (ah 0xd1ace911b04825cec2bb0d0bd41ffbf qA) hs (a6 AE (a6 ki (by decide))) (aJ fM (by decide)) h.at_ (by rw[bT];simp) MM xP (a6 zY (by decide)) (λz m=>?_) λh=>by lia
  obtain hw:=pY b1 (l*56) (bG lb pre salt (cy name number rows) 56);obtain xP:=cL lb pre salt (cy name number rows) 56 zY;generalize bk b1 (l*56) (bG lb pre salt (cy name number rows) 56)=b2 at eb' hw xP ⊢;refine fF rfl ?_;walk_at "s";refine aI (v:=.int fm) H1.oa.i H1.oa.d rfl ?_;walk_at "s";refine lZ (ds:=(aZ name rows).map ay) (by rw[bT];simp) (by simp;exact ab pP (ab jx (by decide))) ?_;walk_at "s";refine lZ (ds:=rows.map ay) (by rw[bT];simp) (by simp;exact ab jx (by decide)) ?_;walk_at "s";refine bC H1.oa.i H1.oa.d (by decide) (by simp[bj]) ?_;obtain eg:put (bj fb salt fm fe ft) .many (.int ((fm:Int)+1+((aZ name rows).map ay).length-(rows.map ay).length))=bj fb salt (fm+1+(aZ name rows).length-rows.length) fe ft:=by
   show [(Fd.bits,PV.int fb),(Fd.salt,PV.int salt),(Fd.many,PV.int ((fm:Int)+1+((aZ name rows).map ay).length-(rows.map ay).length)),(Fd.behind,PV.int fe),(Fd.table,PV.int ft)]=_;unfold bj;rw[aK,aK];obtain this:(fm:Int)+1+(aZ name rows).length-rows.length=((fm+1+(aZ name rows).length-rows.length:Nat):Int):=by exact kW (bO 0x912de6743b6a058899f47b6d7f2b7ba327 cP) (bO 0x9110b69ef0fe0742d585e66ac40929e079 (ba (az 0x3966501585b0f00ff702071 hmm)))
   rw[this]
  rw[eg,q9];obtain H2:=H1.set (bj fb salt (fm+1+(aZ name rows).length-rows.length) fe ft);walk_at "s";refine q8 H2.oa (bO 0x8f773b85015066b20a02e318f657d44117dc18fba420179b8f9e591a41ad29e6b av qA xP hw) (a6 ki (by decide)) hs (bO 0x9adc076ad297f60c04371feacb2fd422ea05f47ff u0 jx pP (cV _ _)) (aJ ef (by decide)) (aJ lX (by decide)) λm'=>?_;walk_at "s";refine BN _ _ _ ?_;walk_at "s";rw[kl _ _ (aB _),<-aw];exact dT.mN (by rw[aF,aF];exact aB _) (B0 _ _) trivial (eb'▸q m')
 | more Yz aaq hc =>
  refine vW H1.oa (ab av (by decide)) (ah 0xd1ace911b04825cec2bb0d0bd41ffbf qA) hs (a6 AE (a6 ki (by decide))) (aJ fM (by decide)) h.at_ (by rw[bT];simp) MM xP (aJ aaq (by decide)) (λh=>by lia) λz=>?_;refine b6 rfl ?_;walk_at "s";refine tP (uX lb pre salt rows 56) (Eg lb pre salt rows 56) (by rw[cL _ _ _ _ _ h.at_];decide) (by decide) ?_;have eb:((UInt8.ofNat lb).toNat:Int)=(lb:Int):=by
   obtain this:(UInt8.ofNat lb).toNat=lb:=by simp;exact a6 AE (a6 ki (by decide))
   rw[this]
  rw[eb];walk_at "s";refine⟨_,by decide,by simp,rfl,aI (v:=.int fb) H1.oa.i H1.oa.d rfl ?_⟩;walk_at "s";have dz:∀(bb:List UInt8) (mm:Int) (J:St) (N':Nat) (l₂:a9),N'<N->kL salt name number N' bb b'->lu (W A B bb own mm++T).length [some (.ref 5),some (.int 1),some (.str name),some (.int number),none,none,none,none,none,none,none] l₂->KB .next l₂ (W A B bb own mm++(T++J)):=λbb mm J N' l₂ hN hD p5=>by
   rw[<- aw];exact kg _ _ _ _ N' (gA.mN (by rw[aF,aF];exact aB _) (B0 _ _) p5) hN ⟨bb,mm,hD,rfl,rfl⟩
  have p5:∀(bb:List UInt8) (mm:Int) (w1 w2 w3 w4 w5 w6 w7:Option PV),lu (W A B bb own mm++T).length [some (.ref 5),some (.int 1),some (.str name),some (.int number),none,none,none,none,none,none,none] [some (.ref 5),some (.int 1),some (.str name),some (.int number),w1,w2,w3,w4,w5,w6,w7]:=λbb mm w1 w2 w3 w4 w5 w6 w7=>
   YE (Gv (by rw[aF];exact ah 29203609689075)) trivial trivial trivial
  cases hc with
  | part PO hD =>
   obtain bz:=PO.lt;refine b6 (c9 (by lia)) ?_;walk_at "s";refine zF H1 (ab av (by decide)) bz PO.kK (aJ fM (by decide)) PO.pb (qA) hs (aJ u0 (by decide)) (ef) (lX) h.ok (ab jx (by decide)) h.at_ PO.at1 PO.at0 λm=>?_;walk_at "s";rw[kl _ _ (aB _)];exact dz _ m _ N' _ hN hD (p5 _ _ _ _ _ _ _ _ _)
  | @eD tab ac4 tl tb ts ti nb ac5 PO hD =>
   refine fF (cH (kW (ag 32375762715101 AE) (ag 0x382996927f042195 ac4))) ?_;walk_at "s";obtain ac6:fb<=6:=by obtain this:=PO.kK;exact iF this
   refine IC H1 (ab av (by decide)) ac6 ti tab tl tb hs (aJ u0 (by decide)) (ef) ts λm=>?_;walk_at "s";obtain H2:=H1.set (bj (fb+1) salt fm (fe+(4*(2*tab.length)+55)/56) fe);refine zF H2 (b:=vX b1 salt fb fm fe tab) ac5 (rl AE) PO.kK (aJ fM (by decide)) PO.pb (qA) hs (aJ u0 (by decide)) nb (ef) h.ok (ab jx (by decide)) h.at_ PO.at1 PO.at0 λm=>?_;walk_at "s";rw[mW,kl _ _ (aB _)];exact dz _ m _ N' _ hN hD (p5 _ _ _ _ _ _ _ _ _)
end
noncomputable def aY:Nat:=(1*2654435761+40503)%2^32
theorem iZ:aY<4294967296:=by unfold aY;decide
noncomputable def IF(b:List UInt8):List UInt8:=bk (bk (bk b 0 (di 0 aY 0 3 1++List.replicate 38 0)) 56 (le 4 2)) 112 (bG 0 0 aY [] 56)
section
variable {T:St}
theorem tR(h:Eh b salt name fb fm fe ft l lb pre rows)(hs:salt<4294967296)(hx:∀c∈name.cps.toList,c<128)(jn:name.cps.size<=255)(q:Q (kh rows name) (W A B b own most++T)) :
  aT G ⟨n+7,hn⟩ 406 [.ref 5,.int 1,.str name] (W A B b own most++T) Q :=
 MJ (by obtain this:=h.len;exact ab this (by decide)) h.TM h.n5 (by obtain this:=h.ki;exact ab this (by decide)) hs (by obtain this:=h.u0;exact aJ this (by decide)) (by obtain this:=h.ef;exact aJ this (by decide)) (by obtain this:=h.lX;exact aJ this (by decide)) hx jn h.Gu h.TK h.TL h.leaf h.ok h.nd h.at_ q
theorem MN(hb:b.length<=1000)(q:∀m,Q .none (W A B (IF b) own m++T)):aT G ⟨n+5,true⟩ 437 [.ref 5,.int 1] (W A B b own most++T) Q:=by
 refine dF (FU G) rfl JC λhS z=>?_;show bI _ _ vN [some (.ref 5),some (.int 1),none,none,none,none] _ _;unfold vN;obtain hz:sz=16777216:=rfl;obtain B0:∀(b:List UInt8) (m:Int),jB (W A B b own m++T):=λb m=>BW hS;obtain K3:=iZ;walk_at "s";refine bo (x:=5) (dx:=4) rfl rfl rfl ?_;walk_at "s";refine rK ?_;walk_at "s";refine aI (x:=10) (dx:=9) rfl rfl rfl ?_;refine td (k:=1) (by decide) ?_;obtain es:(1*2654435761+40503)%2^32=aY:=rfl;rw[es];refine⟨rfl,rfl,?_⟩;walk_at "s";refine⟨iJ 1 (n+3),uZ (b:=0) (s:=aY) (m:=0) (e:=3) (t:=1) (dx:=(W A B b own most++T).length) OA.new ⟨rfl,?_⟩⟩;obtain e1:((W A B b own most++T)++[AO.aA .cB [],AO.bc .cB (W A B b own most++T).length]).set (W A B b own most++T).length (.aA .cB (bj 0 aY 0 3 1))=W A B b own most++(T++[AO.aA .cB (bj 0 aY 0 3 1),AO.bc .cB (11+T.length)]):=by
  rewrite[kl _ _ (aB _),gw,aF,aw]
  rfl
 rw[e1,aF];obtain H:HT (T++[AO.aA .cB (bj 0 aY 0 3 1),AO.bc .cB (11+T.length)]) (T.length+1) T.length (bj 0 aY 0 3 1):=⟨by simp,by simp⟩;walk_at "s";refine bo H.oa.i H.oa.d rfl ?_;walk_at "s";refine sF H.oa (by decide) K3 (by decide) (by decide) (by decide) ?_;obtain hl:=gU 0 aY 0 3 1;walk_at "s";refine bo (x:=5) (dx:=4) rfl rfl rfl ?_;walk_at "s";rw[hl];refine⟨by decide,by decide,by decide,rfl,by rw[jG];decide,?_⟩;obtain e2:((56:Int)-(18:Nat)).toNat=38:=rfl;rw[e2];refine jw (at_:=0) (ab hb (by decide)) (by decide) (by simp[hl]) (by simp) λm=>?_;obtain hw:=pY b 0 (di 0 aY 0 3 1++List.replicate 38 0);rw[aW,hl,jG]at hw;walk_at "s";refine bo (x:=5) (dx:=4) rfl rfl rfl ?_;walk_at "s";refine cf (x:=2) (k:=4) (by decide) (by decide) ?_;refine jw (at_:=56) (ag 0x2facb766b7a316d25e910365654954f2ee9283bf hb hw) (by decide) (by rw[aQ];decide) (by simp[oO,lH]) λm=>?_;obtain O4:=pY (bk b 0 (di 0 aY 0 3 1++List.replicate 38 0)) 56 (le 4 2);rw[aQ]at O4;walk_at "s";refine bo (x:=5) (dx:=4) rfl rfl rfl ?_;walk_at "s";refine⟨by decide,by decide,by simp,?_⟩
 rewrite[aw,aF]
 refine mC (bits:=0) (pre:=0) (size:=56) (rows:=[]) (by rw[bT];simp) (λx hx=>by cases hx) K3 (by decide) (by decide) (by decide) (by simp) (by simp[aP]) (λh=>?_) (λh=>by simp[aP]at h);obtain nZ:=cL 0 0 aY [] 56 h;refine jw (at_:=112) (az 0x1811ce9fe0e8075ae2da37ba9144ebe018a4ebc1d77adbff8b44b9c283bf hb hw O4) (by decide) (by decide) (λe=>by rw[e]at nZ;cases nZ) λm=>?_;walk_at "s"
 rewrite[aw,<-aw]
 exact dT.mN (by rw[aF,aF];exact aB _) (B0 _ _) trivial (q m)
theorem MO(h:Eh b salt name fb fm fe ft l lb pre rows)(hs:salt<4294967296)(hx:hG name)(jn:name.cps.size<=255)(hv:kh rows name=.int v)(hm:0<fm)(gk:(aP salt (aZ name rows)).at_<=56)
  (q:∀m,Q .none (W A B (bk (bk b (l*56) (bG lb pre salt (aZ name rows) 56)) 0 (di fb salt (fm-1) fe ft)) own m++T)) :
  aT G ⟨n+8,true⟩ 430 [.ref 5,.int 1,.str name] (W A B b own most++T) Q:=by
 refine dF (FT G) rfl zC λhS z=>?_;show bI _ _ vM [some (.ref 5),some (.int 1),some (.str name),none,none,none,none,none] _ _;unfold vM;obtain hz:sz=16777216:=rfl;obtain B0:∀(b:List UInt8) (m:Int),jB (W A B b own m++T):=λb m=>BW hS;have TN:∀c∈name.cps.toList,c<128:=λc hc=>by obtain this:=hx c hc;exact ah 0x9fa11e948c06d0bdf this.2
 have av:=h.len;have xN:=h.TM;have jF:=gR (b:=b) (i:=0) (k:=56) (xN);have ki:=h.ki;have u0:=h.u0;have ef:=h.ef;have lX:=h.lX;have qA:=h.hl;obtain AE:=h.oo;obtain fM:=h.fM;have jx:=h.oq;obtain pP:(aZ name rows).length<=rows.length:=jH _ _;obtain h0:(rd b 0 56)[0]? =some 2:=by
  obtain e:(rd b 0 18)[0]? =some 2:=by rw[h.n5];simp[di,oO,lH]
  rw[uY (by decide)]at e ⊢;exact e
 walk_at "s";refine tR h hs TN jn ?_;rw[hv];walk_at "s";refine .inl (b6 rfl ?_);walk_at "s";refine iC (ab av (by decide)) xN ?_;walk_at "s";refine pX h0 (ah 0x9ab691bf607908bdf jF) (.inr rfl) ?_;walk_at "s";refine b6 (by decide) ?_;walk_at "s";obtain BZ:(rd b 0 56).take (18:Int).toNat=di fb salt fm fe ft:=by
  rw[<- h.n5];obtain this:=q0 (b:=b) (i:=0) (k:=56) (j:=0) (m:=18) (by decide);simpa [rd]using this
 rw[BZ];refine⟨ah 0x5e6dee6e54154d97dbdf jF,by decide,by decide,n3 (a6 ki (by decide)) hs (aJ u0 (by decide)) (aJ ef (by decide)) (aJ lX (by decide)) ?_⟩
 rewrite[aw,aF]
 have HN:∀J,HT (T++(AO.aA .cB (bj fb salt fm fe ft)::AO.bc .cB (11+T.length)::J)) (T.length+1) T.length (bj fb salt fm fe ft):=λJ=>⟨by simp,by simp⟩;obtain H0:=HN [];walk_at "s";rw[jF];refine⟨by decide,BY H0.oa (ab av (by decide)) (ab ki (by decide)) hs TN jn h.Gu ?_⟩;rw[h.TK];walk_at "s";rw[jF];refine⟨by decide,q6 (ab av (by decide)) h.TL ?_⟩;rw[h.leaf];walk_at "s";obtain eL:(T++[AO.aA .cB (bj fb salt fm fe ft),AO.bc .cB (11+T.length)]).length=T.length+2:=by simp
 refine y9 rows ay (λr=>if decide (r.1≠name)then some (ay r)else none) (.list (11+(T.length+2)) (rows.map ay)) (W A B b own most++(T++(AO.aA .cB (bj fb salt fm fe ft)::AO.bc .cB (11+T.length)::[AO.list (rows.map ay)]))) (λKK h'=>?_) rfl (ab jx (by decide)) (by show(_:St)[_]? =_;rw[bT];simp) (λr hr kk cC=>?_) ?_
 ·walk_at "s";refine pz h.ok (by decide) h.at_ (ab jx (by decide)) ?_
  rewrite[aw,aF,aw,eL]
  walk_at "s";exact eY (by rw[bT];simp) (by simp;exact ab jx (by decide)) h'
 ·refine fN ?_;unfold ay at cC ⊢;walk_at "s";refine⟨_,by decide,by simp,rfl,?_⟩;by_cases xO:r.1=name
  ·refine b6 (by simp[xO]) ?_;rw[show decide (r.1≠name)=false from by simp[xO]]at cC;exact cC
  ·refine fF (by simp[xO]) ?_;walk_at "s";rw[show decide (r.1≠name)=true from by simp[xO]]at cC;exact cC
 obtain eo:(rows.filterMap λr=>if decide (r.1≠name)=true then some (ay r)else none)=(aZ name rows).map ay:=xK _ _ _
 rewrite[eo,aw,aF]
 obtain H1:=HN [AO.list (rows.map ay),AO.list ((aZ name rows).map ay)];obtain eA:(T++AO.aA .cB (bj fb salt fm fe ft)::AO.bc .cB (11+T.length)::[AO.list (rows.map ay)])++[AO.list ((aZ name rows).map ay)]=T++(AO.aA .cB (bj fb salt fm fe ft)::AO.bc .cB (11+T.length)::[AO.list (rows.map ay),AO.list ((aZ name rows).map ay)]):=by simp
 obtain eL3:(T++AO.aA .cB (bj fb salt fm fe ft)::AO.bc .cB (11+T.length)::[AO.list (rows.map ay)]).length=T.length+3:=by simp
 rw[eA,eL3];obtain MM:∀x∈aZ name rows,gK x:=λx hx=>h.ok x (eT.mp hx).1;walk_at "s";refine vW H1.oa (ab av (by decide)) (ah 0xd1ace911b04825cec2bb0d0bd41ffbf qA) hs (a6 AE (a6 ki (by decide))) (aJ fM (by decide)) h.at_ (by rw[bT];simp) MM (ab pP (ab jx (by decide))) (a6 gk (by decide)) (λz m=>?_) λh=>by lia
 obtain hw:=pY b (l*56) (bG lb pre salt (aZ name rows) 56);obtain xP:=cL lb pre salt (aZ name rows) 56 gk;generalize bk b (l*56) (bG lb pre salt (aZ name rows) 56)=b2 at *;walk_at "s";refine aI (v:=.int fm) H1.oa.i H1.oa.d rfl ?_;walk_at "s";refine bC H1.oa.i H1.oa.d (by decide) (by simp[bj]) ?_;obtain eg:put (bj fb salt fm fe ft) .many (.int ((fm:Int)-1))=bj fb salt (fm-1) fe ft:=by
  show [(Fd.bits,PV.int fb),(Fd.salt,PV.int salt),(Fd.many,PV.int ((fm:Int)-1)),(Fd.behind,PV.int fe),(Fd.table,PV.int ft)]=_;unfold bj;obtain this:(fm:Int)-1=((fm-1:Nat):Int):=by exact kW (ag 0x6b1f54715b2bbcc86611 cP) (ag 0x6b0b80df9615d4eca607 (ba (ah 562984467575 hm)))
  rw[this]
 rw[eg,q9];obtain H2:=H1.set (bj fb salt (fm-1) fe ft);walk_at "s";refine q8 H2.oa (bO 0x8f773b85015066b20a02e318f657d44117dc18fba420179b8f9e591a41ad29e6b av qA xP hw) (a6 ki (by decide)) hs (Nat.sub_lt_left_of_lt_add hm (aJ u0 (by decide))) (aJ ef (by decide)) (aJ lX (by decide)) λm'=>?_;walk_at "s"
 rewrite[kl _ _ (aB _),<-aw]
 exact dT.mN (by rw[aF,aF];exact aB _) (B0 _ _) trivial (q m')
end
noncomputable def eK(L:List Int)(k:Nat):Nat:=if k<L.length then(L.getD k 0%2^64).toNat else 7919*k+11
theorem Fj(L:List Int){k:Nat}(hk:k<=1000):eK L k<0x10000000000000000:=by
 unfold eK;split<;>lia
noncomputable def jP(y:Nat):Nat:=97+y%8
noncomputable def dG(k y:Nat):Str:=Str.ofString (toString (k:Int))++⟨(List.replicate (1+y/8%3) (jP y)).toArray⟩
section
variable {Q:PV->St->Prop}
theorem sH(hL:S[i]? =some (.list (L.map .int)))(hl:L.length<=1000)(hk:k<=1000)(q:Q (.int (eK L k)) S):aT G ⟨n+1,hn⟩ 600 [.ref i,.int k] S Q:=by
 refine dF (BF G) rfl F7 λhS z=>?_;show bI _ _ sy [some (.ref i),some (.int k)] _ _;unfold sy;obtain hz:sz=16777216:=rfl;walk_at "s";refine lZ hL (by simp;exact ab hl (by decide)) ?_;rw[aK];walk_at "s";by_cases h:k<L.length
 ·refine fF (cH (Mine.nlt h)) ?_;walk_at "s";refine pW (d:=.int L[k]) hL (by simp;exact ab hl (by decide)) (gb k) (by simp[h]) ?_;walk_at "s";refine⟨by decide,by decide,by decide,by decide,(.same ?_)⟩;unfold eK at q;rw[au h]at q;obtain e:L.getD k 0=L[k]:=by simp[List.getD,h]
  rw[e]at q;have e2:((L[k]%2^64).toNat:Int)=L[k]%2^(64:Int).toNat:=by
   obtain this:(2:Int)^(64:Int).toNat=2^64:=rfl;rw[this];lia
  rw[e2]at q;exact q
 ·refine b6 (c9 (ag 35500762725101 h)) ?_;walk_at "s";refine⟨by decide,Mine.rN (a6 hk (by decide)),(.same ?_)⟩;unfold eK at q;rw[ai h]at q;have e:((7919*k+11:Nat):Int)=7919*(k:Int)+11:=ah 0x3e0e5c78e336b4ea8527404af78bb0f8ff3a167f;rw[e]at q;exact q
noncomputable abbrev fG:=Nat×Str×Nat
noncomputable def aR(r:fG):PV:=.tup [.int r.1,.str r.2.1,.int r.2.2]
noncomputable def o7(L:List Int)(salt:Nat)(bA:List fG)(k:Nat):List fG :=
 let y:=eK L (k+1)
 let x:=dG k y
 let f:=aU x salt/2^25
 if(bA.map (·.1)).count f<2 then bA++[(f,x,y)]else bA
noncomputable def gm(L:List Int)(salt k:Nat):List fG:=(List.range k).foldl (o7 L salt) []
theorem kM(L:List Int)(salt k:Nat):gm L salt (k+1)=o7 L salt (gm L salt k) k:=by
 unfold gm;rw[List.range_succ,yy];rfl
theorem tS(L:List Int)(salt:Nat):∀k,(gm L salt k).length<=k
 | 0=>by simp[gm]
 | k+1=>by
  have:=tS L salt k;rw[kM];unfold o7;dsimp only;split<;>simp<;>lia
theorem xQ(k:Nat)(hk:k<40):(∀c∈(Str.ofString (toString (k:Int))).cps.toList,48<=c/\c<=57)/\(Str.ofString (toString (k:Int))).cps.size<=2/\0<(Str.ofString (toString (k:Int))).cps.size:=by
 obtain this:∀k:Fin 40,((Str.ofString (toString ((k.val:Nat):Int))).cps.toList.all λc=>decide (48<=c)&&decide (c<=57))=true/\(Str.ofString (toString ((k.val:Nat):Int))).cps.size<=2/\0<(Str.ofString (toString ((k.val:Nat):Int))).cps.size:=by decide +kernel
 obtain h:=this ⟨k,hk⟩;refine⟨λc hc=>?_,h.2⟩;obtain this:=aS.mp h.1 c hc;simpa using this
theorem MP(y:Nat):(Str.ofString "abcdefgh").cps[y%8]? =some (jP y):=by
 obtain this:∀i:Fin 8,(Str.ofString "abcdefgh").cps[i.val]? =some (97+i.val):=by decide +kernel
 exact this ⟨y%8,ah 29445323461251 (ea _ (by decide))⟩
theorem JJ(a b:Str):(a++b).cps.toList=a.cps.toList++b.cps.toList:=by
 show(Str.append a b).cps.toList=_;simp[Str.append]
theorem ra(k y:Nat):(dG k y).cps.toList=(Str.ofString (toString (k:Int))).cps.toList++List.replicate (1+y/8%3) (jP y):=by
 unfold dG;rw[JJ]
theorem Fm(hk:k<40)(y:Nat):hG (dG k y)/\(dG k y).cps.size<=5/\2<=(dG k y).cps.size:=by
 refine jL (xQ k hk) λh1 h2 h3=>?_;obtain e:(dG k y).cps.size=(Str.ofString (toString (k:Int))).cps.size+(1+y/8%3):=by
  rw[<- dP,ra];simp
 refine⟨λc hc=>?_,az 0x158779200e8e85ff08781a55be473 h2 e (ea _ (by decide)),az 0x22b75baee71ff516e9ffb2db9f h3 e⟩;rw[ra]at hc;rcases dt.mp hc with hc | hc
 ·obtain this:=h1 c hc;exact⟨ah 0xfa04b01f4010e5 this.1,ah 0x330de63a952b6407 this.2⟩
 ·obtain this:=List.eq_of_mem_replicate hc;unfold jP at this;exact⟨ag 0x1230f43793e43067822e77 this,ag 0xb9bc044b9934fec767588af7 this (ea _ (by decide))⟩
inductive I13(S:St)(L:List Int)(salt i k:Nat)(l':a9)(S':St):Prop
 | mk {w4 w5 w6 w7:Option PV} (hk:k<=40) (eS:S'=S++[.list ((gm L salt k).map aR),.list (((gm L salt k).map (·.1)).map λ(x:Nat)=>.int x)]) (el:l'=[some (.ref i),some (.int salt),some (.ref S.length),some (.ref (S.length+1)),w4,w5,w6,w7])
theorem MQ{i salt:Nat}(hL:S[i]? =some (.list (L.map .int)))(hl:L.length<=1000)(hs:salt<4294967296)(q:Q (.ref S.length) (S++[.list ((gm L salt 40).map aR)])):aT G ⟨n+2,true⟩ 607 [.ref i,.int salt] S Q:=by
 refine dF (FY G) rfl JG λhS z=>?_;show bI _ _ vR [some (.ref i),some (.int salt),none,none,none,none,none,none] _ _;unfold vR;obtain hz:sz=16777216:=rfl;obtain hi:i<S.length:=(bP.mp hL).1;walk_at "s";refine⟨by decide,by decide,rfl,rfl,?_⟩;obtain e1:(S++[AO.list []]).length=S.length+1:=by simp
 rw[e1,aw];walk_at "s";refine sC (.c6 (bg 0 40)) (λKK h'=>?_) (I13 S L salt i) ?_ (λz z z z=>trivial) (λk l' S' d KB hI hd kg BN=>?_) λl' S' hI=>?_
 ·walk_at "s";exact⟨rfl,by decide,by decide,h'⟩
 ·exact @I13.mk _ _ _ _ _ _ _ none none none none (by decide) rfl rfl
 ·obtain @⟨w4,w5,w6,w7,hk,rfl,rfl⟩:=hI;have xR:k<40:=by
   obtain this:k<(b9.c6 (bg 0 40)).items.length:=(bP.mp hd).1;simpa [b9.items,bg]using this
  obtain rfl:PV.int (k:Int)=d:=by
   have:(bg 0 40)[k]? =some d:=hd;unfold bg at this;rw[cv,yp xR]at this;simpa using this
  obtain YF:=tS L salt k;obtain iP:=kM L salt k;generalize gm L salt k=bA at *;have hL':∀J:St,(S++J)[i]? =some (.list (L.map .int)):=λJ=>by rw[eH hi];exact hL
  refine Iu ?_;walk_at "s";obtain e2:(k:Int)+1=((k+1:Nat):Int):=ah 0x7aea2e360edf7f043919;rw[e2];obtain hyl:=Fj L (k:=k+1) (CU (aJ xR (by decide)));obtain YG:o7 L salt bA k=(if(bA.map (·.1)).count (aU (dG k (eK L (k+1))) salt/2^25)<2 then bA++[(aU (dG k (eK L (k+1))) salt/2^25,dG k (eK L (k+1)),eK L (k+1))]else bA):=rfl
  rw[YG]at iP;refine sH (hL' _) hl (CU (aJ xR (by decide))) ?_;generalize eK L (k+1)=y at *;walk_at "s";refine jL (Fm xR y) λhn1 Tq hn3=>?_;obtain e3:((y:Int)%8).toNat=y%8:=by exact ah 14859470051
  rw[e3];refine⟨gb k,ah 0xb41fca69d8f617d9b xR,by decide,jP y,ah 5180075,by decide,MP y,by unfold jP;exact ah 0x616e16ec906059dd2603 (ea _ (by decide)),by decide,by decide,by decide,rfl,rfl,ah 32380947188875,ah 0xb0242997ef96d582f (ea _ (by decide)),rfl,?_,?_⟩
  ·have e4:((1:Int)+(y:Int)/8%3).toNat=1+y/8%3:=by exact ah 0xc962256d6559a2a2b
   rw[e4];refine jL (xQ k xR) λz d2 z=>?_;show(Str.ofString (toString (k:Int))).cps.size+(List.replicate (1+y/8%3) _).toArray.size<=sz;obtain e9:(List.replicate (1+y/8%3) ((#[jP y]:Array Nat).getD 0 0)).toArray.size=1+y/8%3:=by simp
   rw[e9];exact ag 0x6f425e5302bd561aaac618e1773 d2 (ea _ (by decide))
  ·obtain e4:((1:Int)+(y:Int)/8%3).toNat=1+y/8%3:=by exact ah 0xc962256d6559a2a2b
   obtain e5:Str.ofString (toString (k:Int))++(⟨(List.replicate ((1:Int)+(y:Int)/8%3).toNat ((#[jP y]:Array Nat).getD 0 0)).toArray⟩:Str)=dG k y:=by
    rw[e4];rfl
   rw[e5];walk_at "s";refine nX hs (λc hc=>by obtain this:=hn1 c hc;exact ah 0x9fa11e948c06d0bdf this.2) (ab Tq (by decide)) ?_;walk_at "s";obtain e6:(aU (dG k y) salt:Int)/2^(25:Int).toNat=((aU (dG k y) salt/2^25:Nat):Int):=by
    obtain this:(25:Int).toNat=25:=rfl;rw[this];simp
   rw[e6];refine⟨by decide,by decide,by decide,by decide,by decide,?_⟩;walk_at "s";obtain Fn:(S++[AO.list (bA.map aR),AO.list ((bA.map (·.1)).map λ(x:Nat)=>PV.int x)])[S.length+1]? =some (.list (((bA.map (·.1)).map λ(x:Nat)=>(x:Int)).map .int)):=by
    rw[d9 (cT (List.length S) 1),bQ];simp
   refine⟨_,Fn,(bA.map (·.1)).map λ(x:Nat)=>(x:Int),Fn,by simp;exact ab YF (ab hk (by decide)),?_⟩;obtain ec:((bA.map (·.1)).map λ(x:Nat)=>(x:Int)).count ((aU (dG k y) salt/2^25:Nat):Int)=(bA.map (·.1)).count (aU (dG k y) salt/2^25):=by
    generalize aU (dG k y) salt/2^25=f;generalize bA.map (·.1)=xs;induction xs with
    | nil=>rfl
    | cons a r ih =>
     rw[eC,List.count_cons,List.count_cons,ih]
     congr 1
     by_cases h:a=f
     ·subst h;simp
     ·obtain this:¬ ((a:Int)=(f:Int)):=by lia
      simp[h,this]
   rw[ec];by_cases hc:(bA.map (·.1)).count (aU (dG k y) salt/2^25)<2
   ·rw[au hc]at iP;refine fF (cH (ah 0x5e8657f7015cb hc)) (?_);walk_at "s";refine⟨((bA.map (·.1)).map λ(x:Nat)=>.int x),by simp,((bA.map (·.1)).map λ(x:Nat)=>.int x),by simp,by simp;exact ab YF (ab hk (by decide)),?_⟩;walk_at "s";refine⟨bA.map aR,by simp,rfl,bA.map aR,by simp,by simp;exact ab YF (ab hk (by decide)),?_⟩;walk_at "s";refine kg _ _ _ _ (gA.refl _ _ _) (.mk xR ?_ rfl);rw[iP];simp[aR]
   ·rw[ai hc]at iP;refine b6 (c9 (ah 0x652fa56c511a3 hc)) ?_;walk_at "s";refine kg _ _ _ _ (gA.refl _ _ _) (.mk xR ?_ rfl);rw[iP]
 ·obtain @⟨w4,w5,w6,w7,_,rfl,rfl⟩:=hI;obtain e0:(b9.c6 (bg 0 40)).items.length=40:=by simp[b9.items,bg]
  rw[e0];walk_at "s";exact(dT.km (J:=[]) hS (jv λz=>KV rfl) q)
end
section
theorem MR(hn:lv.hn=true)(h:S[a]? =some (.list (ps.map λp=>.tup [.int p.1,.int p.2])))(hl:ps.length<64)(q:∀pM:List (Int×Int),pM.Perm ps->Q (.ref S.length) (S++[.list (pM.map λp=>.tup [.int p.1,.int p.2])])):i3 S Q lv .sorted [.ref a] :=
 ⟨hn,.inr (.inl ⟨ps,h,hl,q⟩)⟩
theorem vY(hn:lv.hn=true)(h:S[a]? =some (.list (rows.map λr=>.tup [.str r.1,.int r.2])))(hl:rows.length<64)(nd:(rows.map (·.1)).Nodup)
  (q:∀cR:List (Str×Int),cR.Perm rows->cR.Pairwise (λp q=>sP q p=false)->Q (.ref S.length) (S++[.list (cR.map λr=>.tup [.str r.1,.int r.2])])):i3 S Q lv .sorted [.ref a] :=
 ⟨hn,.inl ⟨rows,h,hl,nd,q⟩⟩
theorem MS(hn:lv.hn=true)(h:S[a]? =some (.bD es ep))(hl:es.length<64)(q:∀ks:List Str,ks.Perm (es.map (·.1))->Q (.ref S.length) (S++[.list (ks.map .str)])):i3 S Q lv .sorted [.ref a] :=
 ⟨hn,.inr (.inr ⟨es,ep,h,hl,q⟩)⟩
theorem xS{ns:List Int}(hn:lv.hn=true)(h:S[a]? =some (.list (ns.map .int)))(h1:ns.length<=1000)(h2:∀n∈ns,0<=n/\n<1000000)(h3:ns.eraseDups.length<=18)(q:∀ks:List Int,ks.Perm ns.eraseDups->Q (.ref S.length) (S++[.list (ks.map .int)])):i3 S Q lv .eW [.ref a] :=
 ⟨hn,ns,h,h1,h2,h3,q⟩
end
noncomputable def kN(rows:List fG)(full:Nat):List fG:=(rows.filter λr=>decide (r.1/16=full))++rows.filter λr=>decide (r.1/16≠full)
section
variable {S:St}
theorem cb(h:J[i]? =some o)(hk:k=S.length+i):(S++J)[k]? =some o:=by
 subst hk;rw[d9 (cT (List.length S) i),ou];exact h
theorem O5(hr:S[r]? =some (.list (rows.map aR)))(h0:rows≠[])(hl:rows.length<=40)(q:∀full,full∈rows.map (λr=>r.1/16)->Q (.ref S.length) (S++[.list ((kN rows full).map aR)])):aT G ⟨n+1,true⟩ 612 [.ref r] S Q:=by
 refine dF (tM G) rfl vS λhS z=>?_;show bI _ _ j3 [some (.ref r),none,none] _ _;unfold j3;obtain hi:r<S.length:=(bP.mp hr).1;have wA:∀J:St,(S++J)[r]? =some (.list (rows.map aR)):=λJ=>by rw[eH hi];exact hr
 walk_at "s";refine ij rows aR (λr=>.int (r.1/16:Nat)) (.list r (rows.map aR)) (λKK h'=>?_) rfl (ab hl (by decide)) hr (λx hx k hk=>?_) ?_
 ·walk_at "s";exact eY hr (by simp;exact ab hl (by decide)) h'
 ·refine fN ?_;unfold aR at hk ⊢;walk_at "s";refine⟨_,by decide,by simp,rfl,by decide,by decide,?_⟩;obtain e:(x.1:Int)/16=((x.1/16:Nat):Int):=by exact ah 37148709003601
  rw[e];exact hk
 walk_at "s";generalize he:rows.map (λr=>r.1/16)=es at *;have qB:es.length=rows.length:=by rw[<- he];simp
 obtain e1:(rows.map λr=>PV.int (r.1/16:Nat))=es.map λ(x:Nat)=>PV.int x:=by rw[<- he,bQ];rfl
 rw[e1];have g1:∀J:St,(S++(AO.list (es.map λ(x:Nat)=>PV.int x)::J))[S.length]? =some (.list (es.map λ(x:Nat)=>PV.int x)):=λJ=>eu;refine ij es (λ(x:Nat)=>.int x) (λx=>.tup [.int ((es.map λ(x:Nat)=>(x:Int)).count (x:Int)),.int x]) (.list S.length (es.map λ(x:Nat)=>.int x)) (λKK h'=>?_) rfl (ag 0x232d7dbf5c5d41142e0963d8eb hl qB) (g1 []) (λx hx k hk=>?_) ?_
 ·walk_at "s";exact eY (g1 []) (by simp;exact ag 0xb41c1d6d5f5064fb6165d8eb hl qB) h'
 ·refine fN ?_;walk_at "s";obtain Fn:(S++[AO.list (es.map λ(x:Nat)=>PV.int x)])[S.length]? =some (.list ((es.map λ(x:Nat)=>(x:Int)).map .int)):=by rw[g1 [],bQ];rfl
  exact⟨_,Fn,es.map λ(x:Nat)=>(x:Int),Fn,by simp;exact ag 0x12717892dcfeb1bed758eb hl qB,rfl,hk⟩
 walk_at "s";rw[aw];refine MR (ps:=es.map λ(x:Nat)=>(((es.map λ(x:Nat)=>(x:Int)).count (x:Int):Int),(x:Int))) rfl ?_ (by simp;exact ag 0x1f1cdcd6f1d7658bceb hl qB) λpM hp=>?_
 ·refine cb (i:=1) ?_ (by simp);rw[bQ];rfl
 have IG:pM.length=es.length:=by rw[hp.length_eq,aK]
 obtain⟨p,hpp⟩:∃p,pM.getLast? =some p:=by
  cases h:pM.getLast? with
  | some p=>exact⟨p,rfl⟩
  | none =>
   rw[List.getLast?_eq_none_iff]at h;rw[h]at IG;simp at IG;obtain this:rows.length=0:=by exact ag 0x2dca0e5253ae911c1444fb1fd5 qB IG
   exact(h0 (rh.mp this)).elim
 obtain⟨x,hx,hxp⟩:∃x∈es,p=(((es.map λ(x:Nat)=>(x:Int)).count (x:Int):Int),(x:Int)):=by
  obtain this:p∈pM:=List.mem_of_getLast? hpp;obtain this:=hp.mem_iff.mp this;refine ak (bH.mp this) λx hx e=>?_;exact⟨x,hx,e.symm⟩
 refine Vs (ds:=pM.map λp=>.tup [.int p.1,.int p.2]) (d:=.tup [.int p.1,.int p.2]) ?_ (by simp;exact az 0x157884000c47452e5e967e1af9feb hl qB IG) ?_ ?_
 ·rw[aw];exact cb (i:=2) rfl (by simp)
 ·rw[List.getLast?_map,hpp];rfl
 walk_at "s";subst hxp;refine⟨_,by decide,by simp,rfl,?_⟩;obtain hq:=q x hx;simp only[aw,List.cons_append,List.nil_append];generalize hJ:([AO.list (es.map λ(x:Nat)=>PV.int x),AO.list (es.map λ(x:Nat)=>PV.tup [PV.int ((es.map λ(x:Nat)=>(x:Int)).count (x:Int)),PV.int x]),AO.list (pM.map λp=>PV.tup [PV.int p.1,PV.int p.2])]:St)=J;obtain B4:J.length=3:=by rw[<- hJ];rfl
 walk_at "s";obtain cond:∀(y:fG),decide (((y.1:Nat):Int)/16=(x:Int))=decide (y.1/16=x):=λy=>by
  congr 1;rw[eq_iff_iff];lia
 refine rM rows aR (λy=>decide (y.1/16=x)) aR (.list r (rows.map aR)) (λKK h'=>?_) rfl (ab hl (by decide)) (wA _) (λy hy kk cC=>?_) ?_
 ·walk_at "s";exact eY (wA _) (by simp;exact ab hl (by decide)) h'
 ·refine fN ?_;unfold aR at cC ⊢;walk_at "s";refine⟨_,by decide,by simp,rfl,by decide,by decide,?_⟩;walk_at "s";rw[cond];cases hc:decide (y.1/16=x)with
  | true=>rw[hc]at cC;refine fF rfl ?_;walk_at "s";exact cC
  | false=>rw[hc]at cC;exact b6 rfl cC
 rw[aw];refine rM rows aR (λy=>decide (y.1/16≠x)) aR (.list r (rows.map aR)) (λKK h'=>?_) rfl (ab hl (by decide)) (wA _) (λy hy kk cC=>?_) ?_
 ·walk_at "s";exact eY (wA _) (by simp;exact ab hl (by decide)) h'
 ·refine fN ?_;unfold aR at cC ⊢;walk_at "s";refine⟨_,by decide,by simp,rfl,by decide,by decide,?_⟩;walk_at "s";obtain aar:decide (((y.1:Nat):Int)/16≠(x:Int))=decide (y.1/16≠x):=by
   congr 1;rw[eq_iff_iff];lia
  rw[aar];cases hc:decide (y.1/16≠x)with
  | true=>rw[hc]at cC;refine fF rfl ?_;walk_at "s";exact cC
  | false=>rw[hc]at cC;exact b6 rfl cC
 rw[aw,aw];obtain hf1:=jH (λy:fG=>decide (y.1/16=x)) rows;obtain OX:=jH (λy:fG=>decide (y.1/16≠x)) rows;walk_at "s";refine⟨rfl,(rows.filter λy=>decide (y.1/16=x)).map aR,(rows.filter λy=>decide (y.1/16≠x)).map aR,cb (i:=3) ?_ (by simp[B4]),cb (i:=4) ?_ (by simp[B4]),by rw[aK,aK];exact az 0x28f3c58827c8670cc1f56546b315c978b hl hf1 OX,?_⟩
 ·rw[d9 (bL B4),B4];rfl
 ·rw[d9 (oB (bL B4)),B4];rfl
 obtain e9:(rows.filter λy=>decide (y.1/16=x)).map aR++(rows.filter λy=>decide (y.1/16≠x)).map aR=(kN rows x).map aR:=by unfold kN;rw[fy]
 rw[e9,aw];obtain this:=dT.km (J:=J++[AO.list ((rows.filter λy=>decide (y.1/16=x)).map aR),AO.list ((rows.filter λy=>decide (y.1/16≠x)).map aR)]) (J2:=[]) hS (o:=.list ((kN rows x).map aR)) (jv λz=>KV rfl) hq;walk_at "s";simpa only[aw,List.cons_append,List.nil_append,aW,dE,je]using this
end
theorem Ga{G:GX}(vs:List Value)(hv:vs.length=3)(X:Setting):fL G.K X kJ.f ⟨vs,[]⟩=some (kJ.aD.zip (vs++[.bytes #[] 983])):=by
 apply Gx (OS hv);intro a b c;kernel_rfl
theorem ac7{G:GX}{n:Nat}{hn:Bool}{d:cE}(ok:bW G.K d=true){ds:List PV}{S:St}{Q:PV->St->Prop}{dv:Value}{dd:PV}(hV:∀ρ h,VI ρ h dv dd)(hl:ds.length+1=d.np)(hb:∀vs:List Value,vs.length+1=d.np->∀X,fL G.K X d.f ⟨vs,[]⟩=some (d.aD.zip (vs++[dv])))
  (hw:jB S->bI G ⟨n,hn⟩ d.body ((ds++[dd]).map some++List.replicate (d.aD.length-d.np) none) S λf z S'=>dT S Q (lq f) S'):aT G ⟨n+1,hn⟩ d.f ds S Q:=λc C s ρ vs l QQ E R V K=>
 Ae ok C R (L2.append V (.cons (hV _ _) .nil)) (aW.trans hl) (hb vs ((bE (·+1) (L2.len V)).trans hl)) (hw R.aX.sc) K
section
theorem B5(h:OA S x dx .fA [])(q:Q .none (S.set dx (.aA .fA [(.kind,.int k),(.block,.int bl),(.most,.int (-1)),(.sM,.bytes o)]))):aT G ⟨n+1,hn⟩ 487 [.ref x,.int k,.int bl,.bytes o] S Q:=by
 refine dF (xG G) rfl Aw λhS z=>?_;show bI _ _ nU [some (.ref x),some (.int k),some (.int bl),some (.bytes o)] _ _;unfold nU;walk_at "s";refine bC h.i h.d (by decide) (by decide) ?_;obtain h:=h.set [(.kind,.int k)];walk_at "s";refine bC h.i h.d (by decide) (by simp) ?_;obtain h:=h.set [(.kind,.int k),(.block,.int bl)];walk_at "s";refine bC h.i h.d (by decide) (by simp) ?_;obtain h:=h.set [(.kind,.int k),(.block,.int bl),(.most,.int (-1))];walk_at "s";refine bC h.i h.d (by decide) (by simp) ?_;walk_at "s";simp only[mW];exact .same q
theorem Gb(q:Q .none [A,B,.aA .cw (ni 56),.bc .cw 2,.aA .iT [(.cw,.ref 3),(.gg,.ref 6),(.bZ,.ref 7),(.gx,.int 0)],.bc .iT 4,.dr [],.dr []]):aT G ⟨n+1,hn⟩ 508 [.ref 5,.ref 3] [A,B,.aA .cw (ni 56),.bc .cw 2,.aA .iT [],.bc .iT 4] Q:=by
 refine dF (Ar G) rfl Eb λhS z=>?_;show bI _ _ qo [some (.ref 5),some (.ref 3)] _ _;unfold qo;walk_at "s";refine bC (x:=5) (dx:=4) rfl rfl (by decide) (by decide) ?_;walk_at "s";refine bC (x:=5) (dx:=4) rfl rfl (by decide) (show 1<20 by decide) ?_;walk_at "s";refine bC (x:=5) (dx:=4) rfl rfl (by decide) (show 2<20 by decide) ?_;walk_at "s";refine bC (x:=5) (dx:=4) rfl rfl (by decide) (show 3<20 by decide) ?_;walk_at "s";exact .same q
theorem IH(q:Q (.int 1) (W A B [] own (-1))):aT G ⟨n+3,hn⟩ 551 [.ref 5,.int 7,.int 56] [A,B,.aA .cw (ni 56),.bc .cw 2,.aA .iT [(.cw,.ref 3),(.gg,.ref 6),(.bZ,.ref 7),(.gx,.int 0)],.bc .iT 4,.dr [],.dr [],own] Q:=by
 refine ac7 (BC G) (dv:=.bytes #[] 983) (dd:=.bytes []) (λz z=>⟨_,rfl⟩) rfl (λvs hv X=>Ga vs (Nat.succ.inj hv) X) λhS=>?_;show bI _ _ sv [some (.ref 5),some (.int 7),some (.int 56),some (.bytes [])] _ _;unfold sv;walk_at "s";refine b6 (by decide) (b6 (by decide) ?_);walk_at "s";refine aI (x:=5) (dx:=4) (v:=.int 0) rfl rfl rfl ?_;walk_at "s";refine bC (x:=5) (dx:=4) rfl rfl (by decide) (by decide) ?_;walk_at "s";refine⟨ah 568615628875,?_⟩;refine B5 (x:=10) (dx:=9) (k:=7) (bl:=56) (o:=[]) ?_ ?_
 ·exact⟨rfl,rfl⟩
 refine⟨rfl,?_⟩;walk_at "s";refine aI (x:=5) (dx:=4) rfl rfl rfl ?_;walk_at "s";refine aI (x:=5) (dx:=4) (v:=.int 1) rfl rfl rfl ?_;refine Ee (a:=6) (es:=[]) rfl (by decide) ?_;walk_at "s";refine aI (x:=5) (dx:=4) rfl rfl rfl ?_;walk_at "s";refine aI (x:=5) (dx:=4) (v:=.int 1) rfl rfl rfl ?_;refine Ee (a:=7) (es:=[]) rfl (by decide) ?_;walk_at "s";refine aI (x:=5) (dx:=4) (v:=.int 1) rfl rfl rfl ?_;exact(.same q)
end
section
variable {T:St}
theorem II(H:HT T k j (bj fb fs fm fe ft))(hb:b.length<=40000)(iS:fb<=7)(hi:ft*56+4*2^fb<=b.length)(tab:List Nat)(ht:tab.length=2^fb)(AB:∀i (_:i<tab.length),num (rd b (ft*56+4*i) 4)=tab[i])
  (h1:1<=ft) (lX:ft<100) (ef:fe<100) (pR:ft+(4*tab.length+55)/56<=fe) (hl:∀x∈tab,1<=x/\x<fe/\(x<ft∨ft+(4*tab.length+55)/56<=x)) (IJ:(tab.map λ(x:Nat)=>(x:Int)).eraseDups.length<=18) (av:b.length=fe*56)
  (q:Q (.bool true) (W A B b own most++T)):aT G ⟨n+4,true⟩ 624 [.ref 5,.int 1,.ref (11+k)] (W A B b own most++T) Q:=by
 refine dF (tN G) rfl vT λhS z=>?_;show bI _ _ j4 [some (.ref 5),some (.int 1),some (.ref (11+k)),none,none,none,none,none] _ _;unfold j4;obtain hz:sz=16777216:=rfl;obtain hp:2^fb<=2^7:=ox (by decide) iS;have Ff:0<2^fb:=yL (by decide);have jZ:∀x:Int,x∈(tab.map λ(x:Nat)=>(x:Int)).eraseDups->∃y∈tab,x=(y:Int):=λx hx=>by
  rw[jS]at hx;refine ak (bH.mp hx) λy hy e=>?_;exact⟨y,hy,e.symm⟩
 obtain ei:(tab.map λ(x:Nat)=>(x:Int)).eraseDups≠[]:=λe=>by
  obtain this:∃x,x∈tab:=JV (ag 0x9cd453eb38fa85b55 ht Ff);refine xE this λx hx=>?_;have:(x:Int)∈(tab.map λ(x:Nat)=>(x:Int)).eraseDups:=by
   rw[jS];exact bH.mpr ⟨x,hx,rfl⟩
  rw[e]at this;cases this
 walk_at "s";refine vV H.oa (ab hb (by decide)) (ab iS (by decide)) hi tab ht AB ⟨rfl,rfl,?_⟩;rw[aw,aF];obtain H1:=H.oh (J:=[AO.list (tab.map λ(x:Nat)=>PV.int x)]);walk_at "s";refine aI (v:=.int ft) H1.oa.i H1.oa.d rfl ?_;walk_at "s";refine lZ (ds:=tab.map λ(x:Nat)=>.int x) (by rw[bT];simp) (by simp;exact bO 0x2b38c7d0d3db555e0ece2908d82ec91e6e11fea2351947a88b hb hi ht) ?_;rw[aK];walk_at "s";obtain e1:(ft:Int)+(4*(tab.length:Int)+56-1)/56=((ft+(4*tab.length+55)/56:Nat):Int):=by lia
 rw[e1];generalize O6:(4*tab.length+55)/56=nb at *;refine⟨by decide,bO 0x2b38c84d4ab6ee3ea43cc97b87f37eb35ef66a0f11d947a88b hb hi ht,by decide,by decide,?_⟩;walk_at "s";refine aI (v:=.int ft) H1.oa.i H1.oa.d rfl ?_;walk_at "s";obtain e2:(((ft+nb:Nat):Int)-ft).toNat=nb:=by exact bu (az 0x1dd42906cfdfdabfa1d (gX (ag 0x5bf22f288862b))) (az 0x1dd43ddb7ee1b096571 (i9 _))
 rw[e2];refine⟨Mine.nle (cT ft nb),az 0x917df0fd3246c92c02d2daf4c51ec52c1f ef pR,ah 0x38299632611b5f77,bO 0x600f0cfa1455a0badc669ca59e5cc6d8f7fd3b3767cc0745a17cc985a698b hb av pR,rfl,?_⟩;rw[aw,aF,aw];refine xS (ns:=tab.map λ(x:Nat)=>(x:Int)) rfl ?_ (by simp;exact ag 0x39a298caf229f1e9fc71dfd ht hp) (λx hx=>?_) IJ λks uV=>?_
 ·rw[bT,bQ];simp
 ·apply eN (bH.mp hx);intro y hy;obtain this:=hl y hy;exact⟨ah 5180075,az 0x325ccaf6d4e9652aacfdc3d3ceb48a2df6c691dd8ab2015c7a80a698b hb av this.2.1⟩
 rw[aw,aF,aw];simp only[List.cons_append,List.nil_append,aW,dE,je,fS];generalize hJ:([AO.list (tab.map λ(x:Nat)=>PV.int x),AO.list (bg ft nb),AO.list (ks.map .int)]:St)=J;obtain gB:∀J2:St,(W A B b own most++(T++(J++J2)))[11+(T.length+1)]? =some (.list (bg ft nb)):=λJ2=>by rw[bT,<-hJ];exact cb (i:=1) rfl rfl
 have gL:∀J2:St,(W A B b own most++(T++(J++J2)))[11+(T.length+2)]? =some (.list (ks.map .int)):=λJ2=>by rw[bT,<-hJ];exact cb (i:=2) rfl rfl
 obtain H2:∀J2:St,HT (T++(J++J2)) k j (bj fb fs fm fe ft):=λJ2=>H.oh;obtain H3:HT (T++J) k j (bj fb fs fm fe ft):=H.oh;have YH:=gB [];have TO:=gL [];rw[kU]at YH TO;have ac8:ks≠[]:=λe=>by
  rw[e]at uV;exact ei (C6 uV.symm)
 have r8:ks.length<=18:=by rw[uV.length_eq];exact IJ
 have TP:∀x∈ks,∃y∈tab,x=(y:Int):=λx hx=>jZ x (uV.mem_iff.mp hx);have ac9:0<nb:=by exact bO 0x600f0ce18983d39ba419526cba2c8751901f6f21fac6101aa358d9388e185 ht Ff O6 (dU _ (by decide))
 have ada:nb<=10:=by exact bO 0x3aa12f9ac529951c1e2bb9b090e8100e1f3b5d5a1fd942e8e79a2463a4179425 ht hp O6 (cI _ _)
 have pZ:(bg ft nb).length=nb:=by simp[bg]
 refine⟨by first | trivial | rfl,by first | trivial | rfl,?_⟩
 walk_at "s";refine aI (v:=.int fb) H3.oa.i H3.oa.d rfl ?_;walk_at "s";refine b6 (c9 (ah 0x64e60780ee837 iS)) ?_;walk_at "s";refine pW (d:=.int ft) YH (ag 0xb41c1d6d5f5064fb6165bb9f ada pZ) (by decide) ?_ ?_
 ·show(bg ft nb)[0]? =_;unfold bg;rw[cv,yp ac9];simp
 walk_at "s";refine b6 (c9 (ah 0x65244709b74d3 h1)) ?_;walk_at "s";obtain⟨x0,kr,hkc⟩:∃x0 kr,ks=x0::kr:=by
  cases ks with
  | nil=>exact(ac8 rfl).elim
  | cons a r=>exact⟨a,r,rfl⟩
 refine ak (TP x0 (by rw[hkc];exact .head _)) λy0 YG G8=>?_;obtain hy1:=hl y0 YG;refine pW (d:=.int x0) TO (by simp;exact ab r8 (by decide)) (by decide) (by rw[hkc];rfl) ?_;walk_at "s";refine b6 (c9 (wb 0x16ff36b5383f8f7ae3a05f G8 hy1.1)) ?_;walk_at "s";refine rM ks PV.int (λz=>false) PV.int (.list (11+(T.length+(1+1))) (ks.map .int)) (λKK h'=>?_) rfl (ab r8 (by decide)) TO (λx hx kk cC=>?_) ?_
 ·walk_at "s";exact eY TO (by simp;exact ab r8 (by decide)) h'
 ·apply LB (TP x hx);intro y hy;have hyl:=hl y hy;refine fN ?_;walk_at "s";refine⟨.i (y:Int),rfl,rfl,(List.range nb).map λ(i:Nat)=>cK.i ((ft:Int)+(i:Int)),?_,by simp[cK.ok],?_⟩
  ·rw[YH,bQ];rfl
  refine b6 (c9 λhm=>?_) ?_
  ·refine ak (bH.mp hm) λi hi e=>?_;obtain hi:=iz.mp hi;injection e with e;lia
  walk_at "s";refine aI (v:=.int fe) H3.oa.i H3.oa.d rfl ?_;walk_at "s";exact b6 (c9 (ag 34719200342601 hyl.2.1)) cC
 rw[aw,aF,aw];walk_at "s";refine⟨by simp,[],?_,rfl,[],?_,rfl,b6 (by simp) ?_⟩
 ·rw[bT,eu];simp
 ·obtain e:(W A B b own most++(T++J)++[AO.list ((ks.filter λz=>false).map PV.int)]).length=11+((T++J).length+1):=by rw[aW,aF];rfl
  rw[e,bT];exact cb (i:=1) rfl rfl
 have H4:HT (T++J++[AO.list ((ks.filter λz=>false).map PV.int),AO.list []]) k j (bj fb fs fm fe ft):=H3.oh;refine aI (v:=.int fe) H4.oa.i H4.oa.d rfl ?_;walk_at "s";refine b6 (c9 (az 0xc07a677d077ebb469 pR)) ?_;walk_at "s";refine bo (x:=5) (dx:=4) rfl rfl rfl ?_;walk_at "s";refine Yx (ab hb (by decide)) ?_;refine aI (v:=.int fe) H4.oa.i H4.oa.d rfl ?_;walk_at "s";rw[cH (by exact ag 0x8f1774a178f06062f037d220241 av)];refine⟨Mine.rN (aJ ef (by decide)),by decide,?_⟩;rw[aw,<-aw];exact dT.mN (by rw[aF];exact aB _) hS trivial q
end
theorem VB{K:Fl->a9->St->Prop}(P:ι->Prop)(aC:ι->b9)(aa:ι->St)(hi:∀KK:b9->St->Prop,(∀x,P x->KK (aC x) (aa x))->qy G lv it its l S KK)
  (h:∀x,P x->∃I:Nat->a9->St->Prop,I 0 l (aa x)/\(∀k l' S',I k l' S'->(aC x).nh S') /\
   (∀k l' S' d (KB:Fl->a9->St->Prop),I k l' S'->(aC x).items[k]? =some d->(∀l₂ af bN aL,gA (aa x) l₂ af bN aL->I (k+1) bN aL->KB .next l₂ af)->(∀d l₂ af,K (.ret d) l₂ af->KB (.ret d) l₂ af)->fJ is tup d l' λl₁=>bI G lv b l₁ S' KB) /\
   ∀l' S',I (aC x).items.length l' S'->K .next l' S'):bI G lv (.forr is tup it its b) l S K:=by
 refine LL.mpr (hi _ λx hx=>?_);refine u9 (h x hx) λI h0 cD iP oX=>?_;exact⟨I,h0,cD,λk l' S' d hI hd=>iP k l' S' d _ hI hd (λl₂ af bN aL a b=>⟨bN,aL,a,b⟩) λz z z q=>q,oX⟩
theorem YI{a b c d e:PV}(h1:Sc n a)(h2:Sc n b)(h3:Sc n c)(h4:Sc n d)(h5:Sc n e):lu n [some a,some b,some c,some d,some e,none] [some a,some b,some c,some d,some e,w]:=.s h1 (.s h2 (.s h3 (.s h4 (.s h5 (.n .nil)))))
noncomputable def gh(r:aM):Str×Int:=(r.1,(r.2:Int))
section
variable {T:St}
theorem O7(hb:b.length<=40000)(xN:56<=b.length)(n5:rd b 0 18=di fb fs fm fe ft)(iS:fb<=7)(hs:fs<4294967296)(hm:fm<4294967296)(ef:fe<100)(lX:ft<100)(hi:ft*56+4*2^fb<=b.length)(tab:List Nat)(ht:tab.length=2^fb)(AB:∀i (_:i<tab.length),num (rd b (ft*56+4*i) 4)=tab[i])
  (IJ:(tab.map λ(x:Nat)=>(x:Int)).eraseDups.length<=18) (lb pre:Nat->Nat) (rowsOf:Nat->List aM) (hl:∀x∈tab,x<1000/\x*56+56<=b.length/\rd b (x*56) 56=bG (lb x) (pre x) fs (rowsOf x) 56/\(∀r∈rowsOf x,gK r)/\(aP fs (rowsOf x)).at_<=56/\(rowsOf x).length<=10)
  (QE:∀ks:List Int,ks.Perm (tab.map λ(x:Nat)=>(x:Int)).eraseDups->((ks.flatMap λx=>rowsOf x.toNat).map (·.1)).Nodup/\(ks.flatMap λx=>rowsOf x.toNat).length<64)
  (q:∀ks:List Int,ks.Perm (tab.map λ(x:Nat)=>(x:Int)).eraseDups->∀cR:List (Str×Int),cR.Perm ((ks.flatMap λx=>rowsOf x.toNat).map gh)->cR.Pairwise (λp q=>sP q p=false)->Q (.ref (11+T.length)) (W A B b own most++(T++[.list (cR.map λr=>.tup [.str r.1,.int r.2])]))) :
  aT G ⟨n+7,true⟩ 413 [.ref 5,.int 1] (W A B b own most++T) Q:=by
 refine dF (Ih G) rfl Mz λhS z=>?_;show bI _ _ xC [some (.ref 5),some (.int 1),none,none,none,none] _ _;unfold xC;obtain hz:sz=16777216:=rfl;obtain hp:2^fb<=2^7:=ox (by decide) iS;obtain jF:=gR (b:=b) (i:=0) (k:=56) (xN);obtain h0:(rd b 0 56)[0]? =some 2:=by
  obtain e:(rd b 0 18)[0]? =some 2:=by rw[n5];simp[di,oO,lH]
  rw[uY (by decide)]at e ⊢;exact e
 obtain BZ:(rd b 0 56).take (18:Int).toNat=di fb fs fm fe ft:=by
  rw[<- n5];obtain this:=q0 (b:=b) (i:=0) (k:=56) (j:=0) (m:=18) (by decide);simpa [rd]using this
 walk_at "s";refine iC (ab hb (by decide)) xN ?_;walk_at "s";refine pX h0 (ah 0x9ab691bf607908bdf jF) (.inr rfl) ?_;walk_at "s";refine b6 (by decide) ?_;walk_at "s";rw[jF,aw,aF];refine⟨by decide,by decide,rfl,rfl,?_⟩;obtain HN:∀(x:AO) (J:St),HT (T++(x::AO.aA .cB (bj fb fs fm fe ft)::AO.bc .cB (11+(T.length+1))::J)) (T.length+2) (T.length+1) (bj fb fs fm fe ft):=λx J=>⟨by rw[cb (i:=2) rfl rfl],by rw[cb (i:=1) rfl rfl]⟩;walk_at "s";refine VB (λks:List Int=>ks.Perm (tab.map λ(x:Nat)=>(x:Int)).eraseDups) (λks=>.list (11+(T.length+4)) (ks.map .int))
  (λks=>W A B b own most++(T++[.list [],.aA .cB (bj fb fs fm fe ft),.bc .cB (11+(T.length+1)),.list (tab.map λ(x:Nat)=>.int x),.list (ks.map .int)])) (λKK hKK=>?_) λks uV=>?_
 ·walk_at "s";rw[BZ];refine⟨ah 0x5e6dee6e54154d97dbdf jF,by decide,by decide,n3 (a6 iS (by decide)) hs (hm) (aJ ef (by decide)) (aJ lX (by decide)) ?_⟩;have eL:(T++[AO.list []]).length=T.length+1:=by simp
  rw[aw,aF,aw,eL];walk_at "s";have H0:=HN (.list []) [];refine vV (H0.oa (A:=A) (B:=B) (b:=b) (own:=own) (most:=most)) (ab hb (by decide)) (ab iS (by decide)) hi tab ht AB ?_;walk_at "s";rw[aw,aF,aw];simp only[List.cons_append,List.nil_append,aW,dE,je,fS];refine xS (ns:=tab.map λ(x:Nat)=>(x:Int)) rfl ?_ (by simp;exact ag 0x39a298caf229f1e9fc71dfd ht hp) (λx hx=>?_) IJ λks uV=>?_
  ·rw[bT,cb (i:=3) rfl rfl,bQ];rfl
  ·apply eN (bH.mp hx);intro y hy;obtain this:=hl y hy;exact⟨ah 5180075,ag 0xdd7f1a3eb4cf37d7d5477fc04100454cb805cd77cc32688b hb this.2.1⟩
  rw[aw,aF,aw];simp only[List.cons_append,List.nil_append,aW,dE,je,fS];obtain r8:ks.length<=18:=by rw[uV.length_eq];exact IJ
  refine eY (ds:=ks.map .int) ?_ (by simp;exact ab r8 (by decide)) (hKK ks uV);rw[bT];exact cb (i:=4) rfl rfl
 ·refine xA (QE ks uV) λG9 av=>?_;obtain TP:∀x∈ks,∃y∈tab,x=(y:Int):=λx hx=>by
   obtain this:=uV.mem_iff.mp hx;rw[jS]at this;refine ak (bH.mp this) λy hy e=>?_;exact⟨y,hy,e.symm⟩
  obtain pZ:∀i,i<=ks.length->((ks.take i).flatMap λx=>rowsOf x.toNat).length<64:=λi hi=>by
   obtain e:ks=ks.take i++ks.drop i:=(kj _ _).symm;obtain this:(ks.flatMap λx=>rowsOf x.toNat)=((ks.take i).flatMap λx=>rowsOf x.toNat)++((ks.drop i).flatMap λx=>rowsOf x.toNat):=by
    conv=>lhs;rw[e]
    rw[List.flatMap_append]
   rw[this,aW]at av;exact ag 0x9f4c18bbef7372b79 av
  generalize hJ:([AO.aA .cB (bj fb fs fm fe ft),AO.bc .cB (11+(T.length+1)),AO.list (tab.map λ(x:Nat)=>PV.int x),AO.list (ks.map .int)]:St)=J;obtain B4:J.length=4:=by rw[<- hJ];rfl
  have nq:∀rs:List aM,jB (W A B b own most++(T++(AO.list (rs.map ay)::J))):=λrs=>by
   rw[<- aw];refine hS.oh λo ho=>?_;rw[aF,<-hJ]at *;simp only[bK,List.not_mem_nil,or_false]at ho;rcases ho with rfl | rfl | rfl | rfl | rfl
   ·exact(jv λz=>KV rfl)
   ·exact uW rfl
   ·show _<_;simp;exact ah 0xb85c19ad2b220090b8207683
   ·exact(jv λz=>trivial)
   ·exact(jv λz=>trivial)
  obtain hf:∀rs:List aM,(W A B b own most++(T++(AO.list (rs.map ay)::J)))[11+T.length]? =some (.list (rs.map ay)):=λrs=>by rw[bT,eu]
  obtain hk4:∀rs:List aM,(W A B b own most++(T++(AO.list (rs.map ay)::J)))[11+(T.length+4)]? =some (.list (ks.map .int)):=λrs=>by rw[bT,<-hJ];exact cb (i:=4) rfl rfl
  refine⟨λi l' S'=>i<=ks.length/\S'=W A B b own most++(T++(AO.list (((ks.take i).flatMap λx=>rowsOf x.toNat).map ay)::J))/\∃w5,l'=[some (.ref 5),some (.int 1),some (.bytes (rd b 0 56)),some (.ref (11+T.length)),some (.int 56),w5],⟨bM _,rfl,none,rfl⟩,λi l' S' hI=>?_,λi l' S' d KB hI hd kg BN=>?_,λl' S' hI=>?_⟩
  ·refine jL hI λz dn z=>?_;obtain rfl:=dn;exact hk4 _
  ·refine Wl hI λhik dX w5 fB=>?_;obtain rfl:=dX;obtain rfl:=fB;obtain hd:(ks.map PV.int)[i]? =some d:=hd;have fq:i<ks.length:=by
    obtain this:=(bP.mp hd).1;simpa using this
   rw[cv,c8 fq]at hd;obtain rfl:PV.int ks[i]=d:=by simpa using hd
   refine ak (TP ks[i] (jb fq)) λy hy G8=>?_;refine Wk (hl y hy) λy1 y2 y3 y4 y5 y6=>?_;obtain e1:ks.take (i+1)=ks.take i++[ks[i]]:=by rw[iG];simp[fq]
   obtain Ta:=pZ i hik;obtain e2:((ks.take (i+1)).flatMap λx=>rowsOf x.toNat)=((ks.take i).flatMap λx=>rowsOf x.toNat)++rowsOf y:=by
    rw[e1,List.flatMap_append];simp[G8]
   rw[G8];generalize((ks.take i).flatMap λx=>rowsOf x.toNat)=bA at *;refine Iu ?_;walk_at "s";refine⟨_,hf bA,q6 (ab hb (by decide)) y2 ?_⟩;rw[y3];refine pz y4 (by decide) y5 (ab y6 (by decide)) ?_;rw[aw,aF];walk_at "s";refine⟨bA.map ay,(rowsOf y).map ay,?_,?_,by simp[B4],by simp;exact ag 0x43189c80265f8228b69bb471e3de9f y6 Ta,rfl,?_⟩
   ·rw[bT,aw];exact eu
   ·rw[bT];simp
   walk_at "s";rw[q9,aw];obtain e3:(T++((AO.list (bA.map ay)::J)++[AO.list ((rowsOf y).map ay)])).set T.length (AO.list (bA.map ay++(rowsOf y).map ay))=(T++(AO.list ((bA++rowsOf y).map ay)::J))++[AO.list ((rowsOf y).map ay)]:=by
    rw[kl _ _ (aB _)];simp
   rw[e3,<-aw];refine kg _ _ _ _ (gA.mN (by rw[aF,aF];simp[B4]) (nq _) ?_) ⟨fq,by rw[e2],none,rfl⟩;exact YI (Gv (by rw[aF];exact ah 29203609689075)) trivial trivial (Gv (by rw[aF];simp)) trivial
  ·refine Wl hI λz gy w5 kz=>?_;obtain rfl:=gy;obtain rfl:=kz;obtain e0:(b9.list (11+(T.length+4)) (ks.map .int)).items.length=ks.length:=by simp[b9.items]
   rw[e0,gv];walk_at "s";obtain em:((ks.flatMap λx=>rowsOf x.toNat).map ay)=((ks.flatMap λx=>rowsOf x.toNat).map gh).map λr=>PV.tup [.str r.1,.int r.2]:=by rw[bQ];rfl
   refine vY (rows:=(ks.flatMap λx=>rowsOf x.toNat).map gh) rfl (by rw[<- em];exact hf _) (by rw[aK];exact av) (by rw[bQ];exact G9) λcR hp adb=>?_;have hq:=q ks uV cR hp adb;rw[aF,aw,<-aw];obtain this:=dT.km (S:=W A B b own most++T) (J:=(AO.list ((ks.flatMap λx=>rowsOf x.toNat).map ay)::J)) (J2:=[]) (Q:=Q) hS (o:=.list (cR.map λ(r:Str×Int)=>.tup [.str r.1,.int r.2])) (jv λz=>KV rfl) (by rw[aF,aw];exact hq);rw[aF]at this;walk_at "s";simpa only[aw,aW,rz]using this
end
noncomputable def jQ(r:aM):List UInt8:=UInt8.ofNat r.1.cps.size::(pI r.1++le 8 r.2)
noncomputable def cA(rows:List aM):List UInt8:=(rows.map jQ).flatten
noncomputable def i0(salt:Nat)(rows:List aM)(z:Nat):List UInt8:=le 1 1++(le 4 salt++(le 2 rows.length++(cA rows++List.replicate z 0)))
theorem qv(r:aM):(jQ r).length=9+r.1.cps.size:=by simp[jQ,dI,aQ];exact ah 0x1801bbaf321baf6abca873
theorem Fo(rows:List aM)(r:aM):cA (rows++[r])=cA rows++jQ r:=by simp[cA]
theorem YJ(salt:Nat)(rows:List aM)(z:Nat):((i0 salt rows z).take 7).drop 5=le 2 rows.length:=by simp[i0,oO,lH]
theorem pA(salt:Nat)(rows:List aM)(z:Nat):(i0 salt rows z).length=7+(cA rows).length+z:=by simp[i0,aQ];exact ag 0x110ece58a6408cfd83a32e273a212343
theorem VC(salt:Nat)(rows:List aM)(z i:Nat)(hi:i<rows.length):∃r,(i0 salt rows z).drop (7+(cA (rows.take i)).length)=jQ rows[i]++r:=by
 obtain e:rows=rows.take i++rows[i]::rows.drop (i+1):=by simp
 obtain e2:cA rows=cA (rows.take i)++(jQ rows[i]++cA (rows.drop (i+1))):=by
  conv=>lhs;rw[e]
  unfold cA;rw[fy,eC,CL,ud]
 refine⟨cA (rows.drop (i+1))++List.replicate z 0,?_⟩;unfold i0;rw[e2,<-oG];obtain e7:(le 1 1++(le 4 salt++(le 2 rows.length++(cA (rows.take i)++(jQ rows[i]++cA (rows.drop (i+1)))++List.replicate z 0)))).drop 7=cA (rows.take i)++((jQ rows[i]++cA (rows.drop (i+1)))++List.replicate z 0):=by simp[oO,lH]
 rw[e7,mU rfl,aw]
theorem wq.oh(h:wq S c cd b a):wq (S++J) c cd b a :=
 ⟨by rw[eH (bP.mp h.i).1];exact h.i,by rw[eH (bP.mp h.d).1];exact h.d⟩
section
theorem K6:(CS S b a++J).set S.length (.aA .cW (iR b a'))=CS S b a'++J:=by
 rw[List.set_append_left _ _ (by simp[CS]),l8]
theorem IL(cD:∀x∈rows,gK x)(hz:(i0 salt rows z).length<=1000)(av:rows.length<=100)(q:Q (.ref S.length) (S++[.list (rows.map ay)])):aT G ⟨n+5,true⟩ 293 [.bytes (i0 salt rows z)] S Q:=by
 refine dF (BA G) rfl F2 λhS y=>?_;show bI _ _ sq [some (.bytes (i0 salt rows z)),none,none,none,none] _ _;unfold sq;obtain hN:=YJ salt rows z;obtain OY:=VC salt rows z;generalize i0 salt rows z=b at *;walk_at "s";refine⟨iJ 1 (n+3),qt (c:=S.length+1) (cd:=S.length) (a:=7) (by simp) (by simp) ⟨rfl,?_⟩⟩;rw[Iy];have O8:∀a,(CS S b a).length=S.length+2:=λa=>by simp[CS]
 walk_at "s";rw[O8];refine⟨by decide,rfl,rfl,?_⟩;walk_at "s";refine sC (.c6 (bg 0 rows.length)) (λKK h'=>?_) (λi l' S'=>i<=rows.length/\S'=CS S b (7+(cA (rows.take i)).length)++[.list ((rows.take i).map ay)]/\∃w3 w4,l'=[some (.bytes b),some (.ref (S.length+1)),some (.ref (S.length+2)),w3,w4])
  ?_ (λy y y y=>trivial) (λi l' S' d KB hI hd kg BN=>?_) λl' S' hI=>?_
 ·walk_at "s";refine⟨ab hz (by decide),by decide,by decide,by decide,by decide,?_⟩;have e:((b.take (7:Int).toNat).drop (5:Int).toNat)=le 2 rows.length:=hN;rw[e];refine iX (by rw[aQ];decide) ?_;rw[gf 2 _ (a6 av (by decide))];walk_at "s";exact⟨rfl,ah 0x38299632611b5f77,ah 0x418614a8d8fef009891e03f av,h'⟩
 ·exact⟨bM _,rfl,none,none,rfl⟩
 ·refine Gf hI λhi dc w3 w4 dn=>?_;obtain rfl:=dc;obtain rfl:=dn;have fq:i<rows.length:=by
   obtain this:i<(b9.c6 (bg 0 rows.length)).items.length:=(bP.mp hd).1;simpa [b9.items,bg]using this
  obtain e1:rows.take (i+1)=rows.take i++[rows[i]]:=by rw[iG];simp[fq]
  refine xE (OY i fq) λrr hr=>?_;refine jL (cD rows[i] (jb fq)) λh1 h2 h3=>?_;have wA:b.drop (7+(cA (rows.take i)).length)=UInt8.ofNat rows[i].1.cps.size::(pI rows[i].1++(le 8 rows[i].2++rr)):=by rw[hr];simp[jQ]
  have hr8:b.drop (7+(cA (rows.take i)).length+1+rows[i].1.cps.size)=le 8 rows[i].2++rr:=by
   rw[rz (7+_),<-oG,wA,yI 1,CN];exact mU (dI _)
  obtain t8:=(nx hr8).1;obtain hl8:7+(cA (rows.take i)).length+1+rows[i].1.cps.size+8<=b.length:=by
   obtain this:=bE List.length hr8;simp[aQ]at this;exact gd 0x68a24faa7672957c51fac107eb5236002ef83ec698d9dbc5c2b this (ba (cZ (rm (ag 0x9cd46b3bbd6737c2b this))))
  obtain Ei:∀a,wq (CS S b a++[AO.list ((rows.take i).map ay)]) (S.length+1) S.length b a:=λa=>dp.oh;refine Iu ?_;walk_at "s";refine bo (Ei _).i (Ei _).d rfl ?_;walk_at "s";refine wx (Ei _) hz h1 h2 wA ?_;rw[K6];walk_at "s";refine⟨(rows.take i).map ay,by rw[<- O8];exact eu,?_⟩;walk_at "s";refine bo (Ei _).i (Ei _).d rfl ?_;walk_at "s";refine dA (k:=8) (Ei _) hz hl8 (by decide) ?_;rw[K6,t8,gf 8 _ (h3)];walk_at "s";refine⟨rfl,(rows.take i).map ay,?_,by simp;exact ag 0x232d7dbf5c9db3720b20fd52ff av (rt _ _),?_⟩
  ·rw[<- O8];exact eu
  walk_at "s";refine kg _ _ _ _ (gA.refl _ _ _) ⟨fq,?_,_,_,rfl⟩;rw[kl _ _ (by rw[O8];exact aB _),O8,gw,e1,Fo,aW,qv];obtain this:7+(cA (rows.take i)).length+1+rows[i].1.cps.size+8=7+((cA (rows.take i)).length+(9+rows[i].1.cps.size)):=by exact ag 0x20890583a5b8d228f2d9b4873b2b4190f457
  rw[this,fy];rfl
 ·refine Gf hI λy dX w3 w4 fB=>?_;obtain rfl:=dX;obtain rfl:=fB;obtain e0:(b9.c6 (bg 0 rows.length)).items.length=rows.length:=by simp[b9.items,bg]
  rw[e0,gv];walk_at "s";unfold CS;rw[aw];exact dT.km (J:=[AO.aA .cW (iR b (7+(cA rows).length)),AO.bc .cW S.length]) (J2:=[]) hS (jv λy=>KV rfl) q
end
section
open Sem (wp)
section
variable {prog:Program} {w:World} {A:Around} {K:Frag} {C x:Addr} {s:Shared} {h₀:Heap} {L:Addr} {m:Str->Option Value} {news:List (Addr×Obj)} {R:Result->Shared->Prop}
theorem aas(F:Fr h₀ L s.heap m)(N:News h₀ L s.heap news)(X:K.In s.heap)(hm:makesIn K C=true)
  (hi:findIn K (.ref C) "__init__"=some (some (.ref fI))) (hf:typeIn K (.ref fI)=some (.type "function"))
  (h:∀x dx h',Fr h₀ L h' m->News h₀ L h' ((x,instObj C dx)::(dx,emptyDict)::news)->(∀p∈news,p.1<dx)->dx<x ->
   f7 (model prog w) (A.under (.builtin "type.__call__" ⟨.ref C::rest,kw⟩)) (.call (.ref fI) ⟨.ref x::rest,kw⟩) (InitBack x R) {s with heap:=h'}) :
  f7 (model prog w) A (.call (.ref C) ⟨rest,kw⟩) R s:=by
 obtain⟨hh,g,d,t,os⟩:=s;obtain Y:=makes_of (M:=model prog w) X hm;obtain⟨⟨oc,od,cd,sl,hC,e1,e2,e4⟩,made,base,self,gx,call,typ⟩:=id Y;obtain hI:Looks (model prog w) hh (typeLookup (.ref C) "__init__") (some (.ref fI)):=looks_findIn X hi;obtain k:∀b o,hh.get? b=some o->((hh.push emptyDict).push (instObj C hh.objs.size)).get? b=some o:=λb o e=>cg _ (cg _ e);obtain z:=h _ hh.objs.size _ ((F.push _).push _) (by
  obtain this:=(N.push F emptyDict).push (F.push _) (instObj C hh.objs.size)
  rwa [jf]at this) (λp hp=>bX (N p hp).1) (oD _)
 refine gu (yX _ _) ?_;show cp _ _ (callAny (.ref C) _) _ _ _;refine aq (mZ hC ?_);show cp _ _ (callAny.viaDunder (.ref C) _) _ _ _;unfold callAny.viaDunder;refine aq (call.at ?_);dsimp only;rw[tc_bind];refine aq (ao (aq (ao ?_)));refine b5 (a:=Fin.again (.call (.builtin "type.__call__") ⟨.ref C::rest,kw⟩)) (And.intro rfl ?_);refine kE (ua _ (by decide +kernel)) (check_slot tc_kind tc_split typ (tc_args _ _ _) (mh entry_typeCall (λself p=>(jD self).tc _ _ _ p) ?_));unfold Builtin.«type.__call__»;obtain Ml:Looks (model prog w) hh (mroOf (.ref C)) cd.mro:=((Looks.ld (part:=none) hC).andThen .now).andThen .now;refine kc rfl ?_;refine aq (Ml.at ?_);refine kc e4 ?_;refine aq (made.at ?_);refine aq (ao ?_);refine aq (dW (oI (new_K Y hI (.inl rfl) ?_)));obtain hx:((hh.push emptyDict).push (instObj C hh.objs.size)).get? (hh.objs.size+1)=some (instObj C hh.objs.size):=by
  obtain this:=dD (hh.push emptyDict) (o:=instObj C hh.objs.size) rfl
  rwa [jf]at this
 obtain t1:Looks (model prog w) ((hh.push emptyDict).push (instObj C hh.objs.size)) (typeOf (.ref (hh.objs.size+1))) (.ref C):=(Looks.ld hx).andThen .now;refine aq ((show Looks (model prog w) ((hh.push emptyDict).push (instObj C hh.objs.size)) (isInstance (.ref (hh.objs.size+1)) (.ref C)) true from t1.andThen (self.keeps k)).at ?_);refine kc rfl ?_;refine df (gQ ?_);unfold callSpecial?;refine aq ((show Looks (model prog w) ((hh.push emptyDict).push (instObj C hh.objs.size)) (specialOf (.ref (hh.objs.size+1)) "__init__") (some (.ref fI))from t1.andThen (hI.keeps k)).at ?_);refine gQ ?_;refine aq (((bind_fn X (.ref (hh.objs.size+1)) hf).keeps k).at ?_);refine df (kD (Bo z λr s' z=>?_));rcases r with e | (v | _ | _ | _)<;>first | exact z | exact z.elim | skip
 obtain⟨rfl,z⟩:=z;exact b5 (kc rfl (b5 z))
end
def EN(G:GX)(c:Cx)(e:Expr)(l:a9)(S:St)(Q:PV->St->Prop):Prop:=∀(ρ:List Addr) (s:Shared) (QQ:Value->Shared->Prop) (E:Value->Shared->Prop),aG G c s.heap ρ l S->fi G c s ρ Q QQ->cp G.M c.A (eval e c.aj) QQ E s
def K7(G:GX)(c:Cx)(es:List Expr)(l:a9)(S:St)(Q:List PV->St->Prop):Prop:=∀(pos:Pos) (ρ:List Addr) (s:Shared) (QQ:List Value->Shared->Prop) (E:Value->Shared->Prop),aG G c s.heap ρ l S ->
 (∀vs ds h' tk' ar S',bR G c h' ar S'->bS c.L s.heap ρ h' ar->c5 ar h' vs ds->Q ds S'->QQ vs {s with heap:=h',toks:=tk'})->cp G.M c.A (spliced (backTo pos (starEach es c.aj))) QQ E s
def sI(G:GX)(c:Cx)(st:Stmt)(l:a9)(S:St)(Q:Fl->a9->St->Prop):Prop :=
 ∀(ρ:List Addr) (s:Shared) (QQ:Flow->Shared->Prop) (E:Value->Shared->Prop),aG G c s.heap ρ l S->SC G c s ρ Q QQ->cp G.M c.A (exec st c.aj) QQ E s
def K8(G:GX)(c:Cx)(b:List Stmt)(l:a9)(S:St)(Q:Fl->a9->St->Prop):Prop :=
 ∀(ρ:List Addr) (s:Shared) (QQ:Flow->Shared->Prop) (E:Value->Shared->Prop),aG G c s.heap ρ l S->SC G c s ρ Q QQ->cp G.M c.A (execs b c.aj) QQ E s
def dB(G:GX)(lv:Lv)(f:Addr)(ds:List PV)(S:St)(Q:PV->St->Prop):Prop :=
 ∀c,bw G lv c->∀(s:Shared) (ρ:List Addr) (vs:List Value) (l:a9) QQ E,aG G c s.heap ρ l S->c5 ρ s.heap vs ds->fi G c s ρ Q QQ->f7 G.M c.A (.call (.ref f) ⟨vs,[]⟩) (j7 QQ E) s
theorem aT.n(h:aT G lv f ds S Q):dB G lv f ds S Q:=λc C s ρ vs l QQ E R V K=>E7 (h c C s ρ vs l QQ E R V K)
section
variable {G:GX} {lv:Lv} {c:Cx} {l:a9} {S:St} {Q:PV->St->Prop} {se:SE} {ρ:List Addr} {s:Shared} {QQ:Value->Shared->Prop} {E:Value->Shared->Prop} {QF:Fl->a9->St->Prop}
theorem EV.n{e:Expr}(h:EV G c e l S Q):EN G c e l S Q:=λρ s QQ E R K=>o2 (h ρ s QQ E R K)
theorem gj.n{Q:List PV->St->Prop}(h:gj G c es l S Q):K7 G c es l S Q:=λpos ρ s QQ E R K=>o2 (h pos ρ s QQ E R K)
theorem kb.n{st:Stmt}(h:kb G c st l S QF):sI G c st l S QF:=λρ s QQ E R K=>o2 (h ρ s QQ E R K)
theorem AF{e:Expr}{Q:List PV->St->Prop}(hn:noStar e=true)(h:EN G c e l S λd aa=>K7 G c r l aa λds af=>Q (d::ds) af):K7 G c (e::r) l S Q:=λpos ρ s QQ E R K=>by
 rw[fZ hn];exact sd (h _ _ _ E R λv d h' tk ar S' X T V q=>q pos _ ⟨h',_,_,tk,_⟩ _ E (R.step T X) λvs ds da tk' jX n8 X' T' V' q'=>K _ _ _ _ _ _ X' (T.trans T') (.cons (V.mono T'.pre ((R.step T X).tup T')) V') q')
theorem IM(C:bw G lv c)(hk:keepIn G.K f=true)(hs:es.all noStar=true)(R:aG G c s.heap ρ l S)
  (h:K7 G c es l S Q') (K:∀vs ds h' tk' ar S',bR G c h' ar S'->bS c.L s.heap ρ h' ar->c5 ar h' vs ds->Q' ds S'->cp G.M c.A (call f (first++vs)) QQ E {s with heap:=h',toks:=tk'}) :
  cp G.M c.A (callWith pos f first (backTo pos (starEach es c.aj)) []) QQ E s :=
 xo (P:=λh=>G.K.In h) (qK hs _ _) (keeps_K hk) (h pos ρ s _ E R λvs ds h' tk' ar S' X T V q=>⟨C.K.keeps (R.step T X).keep,K vs ds h' tk' ar S' X T V q⟩)
theorem Ej(O:bh se c)(C:bw G lv c)(hx:(x==("__debug__":Str))=false)(hk:se.names.lookup x=some .globalImplicit)(hg:jC.lookup x=some (.fn f))(hs:es.all noStar=true)
  (h:K7 G c es l S λds aa=>dB G lv f ds aa Q):EN G c (.Call (.Name x p) es [] pos) l S Q:=λρ s QQ E R K=>by
 rw[CJ];refine aq (lp O C R hx hk (Qv hg) ?_);refine IM C (Ds G hg) hs R h (first:=[]) λvs ds h' tk' ar S' X T V q=>kD ?_
 exact q c C ⟨h',_,_,tk',_⟩ _ vs l QQ E (R.step T X) V (K.step T)
theorem YK(O:bh se c)(C:bw G lv c)(hx:(x==("__debug__":Str))=false)(hk:se.names.lookup x=some .globalImplicit)(hg:jC.lookup x=some (.cls cl))
  (h:1<=lv.n/\dB G ⟨lv.n-1,lv.hn⟩ (ma cl) [.ref (S.length+1)] (S++[.aA cl [],.bc cl S.length]) λr af=>r=.none/\Q (.ref (S.length+1)) af):EN G c (.Call (.Name x p) [] [] pos) l S Q:=λρ s QQ E R K=>by
 rw[CJ];refine aq (lp O C R hx hk (LQ hg) ?_);obtain NF:=Hf G hg;refine IM (Q':=λds S'=>ds=[]/\S'=S/\True) C NF.keep rfl R (gj.n (uO ⟨rfl,rfl,trivial⟩)) (first:=[]) λvs ds h' tk' ar S' X T V q=>kD ?_
 refine jL q λdc dn y=>?_;obtain rfl:=dc;obtain rfl:=dn;apply zL (L2.GC V);have R':=R.step T X;refine xE R'.fr λm F=>?_;refine aas (s:=⟨h',_,_,tk',_⟩) F R'.news (C.K.keeps R'.keep) NF.mks NF.init NF.fn λx dx da F' N' l1 l2=>?_;obtain⟨R2,T2,C2,EP⟩:=Hg (s:=⟨h',s.gens,s.drawn,tk',s.os⟩) (vs:=[]) (kw:=[]) C h.1 R' F F' N' l1 l2;refine Bo (h.2 _ C2 ⟨da,s.gens,s.drawn,tk',s.os⟩ _ [.ref x] l (λv s'=>v=.none/\QQ (.ref x) s') E R2 (.cons ⟨x,EP,rfl⟩ .nil) λv d h3 lV uR S3 X3 T3 V3 q3=>?_) λr s' z=>?_
 ·obtain⟨rfl,q3⟩:=q3;exact⟨V3,K _ (.ref (S'.length+1)) _ _ _ _ ⟨X3.len,X3.nd,X3.at_,X3.cQ⟩ ((T.trans T2).trans T3) ⟨x,d7 T3.pre EP,rfl⟩ q3⟩
 ·rcases r with e | (v | _ | _ | _)<;>exact z
theorem xT(hn:jN o=true)(hs:args.all noStar=true)(hl:args.length<29)(lr:(dh.endLine==pos.line)=true)
  (h:wpAny G.M c.A (eval o c.aj) (λov aE=>wpAny G.M c.A (getMethod ov name (do return(<- importBound o c.aj).getD true)) (λfx bq=>cp G.M c.A (callWith pos fx.1 fx.2 (backTo pos (starEach args c.aj)) []) QQ E bq) E aE) E s) :
  cp G.M c.A (eval (.Call (.Attribute o name dh) args [] pos) c.aj) QQ E s:=by
 rw[arm_eval_Call,tB hn];refine aq (du h (λov aE h₁=>aq (fR ?_)) λz z e=>e);obtain LY:methodCallForm (args.length+([]:List Keyword).length) (backTo pos (starEach args c.aj)) (backToKw pos (keywordEach [] c.aj))=true:=by
  obtain e1:(backTo pos (starEach args c.aj)).all (λx=>!x.1)=true:=by
   rw[List.all_eq_not_any_not];obtain this:=qK hs c.aj pos;simpa using this
  unfold methodCallForm;rw[e1];exact cH (show args.length+0+0<30 from iE hl)
 unfold methodCall;rw[LY];refine aq (dW (du (show wpAny G.M c.A (calleeOf true o c.aj ov name) _ E aE from h₁) (λfx bq cJ=>?_) λz z e=>e));refine aq (cc (show methodCallPos true o c.aj dh pos=pure pos from by unfold methodCallPos;rw[lr];rfl) cJ)
theorem K9(C:bw G lv c)(hn:jN o=true)(hs:es.all noStar=true)(hl:es.length<29)(lr:(dh.endLine==pos.line)=true)
  (h:EV G c o l S λd aa=>nJ aa d m λf x=>K7 G c es l aa λds af=>dB G lv f (.ref x::ds) af Q):EN G c (.Call (.Attribute o (qF m) dh) es [] pos) l S Q:=λρ s QQ E R K=>by
 refine xT hn hs hl lr (h _ _ _ E R λv d h' tk ar S' X T V q=>?_);obtain⟨i,rfl,cl,dx,fs,f,e1,e2,hf,q⟩:=dy q;refine ak V λa ha dX=>?_;obtain rfl:=dX;have R':=R.step T X;refine qD ((R'.bc ha e1 e2).at_) λd wc n z z I z ef z oU=>?_;refine xE R'.fr λm' F=>?_;obtain CF:=vk G cl;obtain MF:=SY G hf;refine method_inst F C.K I (CF.pg _) MF.find MF.fn (FR.none ef λg hg=>MF.no _ (oU _ hg)) ?_;refine IM C MF.keep hs R' q (first:=[.ref a]) λvs ds h2 ER Xn S2 X2 T2 V2 q2=>kD ?_
 exact q2 c C ⟨h2,_,_,ER,_⟩ _ (.ref a::vs) l QQ E (R'.step T2 X2) (.cons ⟨a,d7 T2.pre ha,rfl⟩ V2) ((K.step T).step T2)
theorem YL{e:Expr}(hn:jN o=true)(hs:noStar e=true)(lr:(dh.endLine==pos.line)=true)
  (h:EV G c o l S λd aa=>fg d λa=>(∃y,aa[a]? =some (.barr y))/\EV G c e l aa λx af=>∃z y,x=.bytes z/\af[a]? =some (.barr y)/\y.length+z.length<=100000/\Q .none (af.set a (.barr (y++z)))):EN G c (.Call (.Attribute o "extend" dh) [e] [] pos) l S Q:=λρ s QQ E R K=>by
 refine xT hn (by show(noStar e&&true)=true;rw[hs];rfl) (by decide:1<29) lr (h _ _ _ E R λv d h' tk ar S' X T V q=>?_);obtain⟨i,rfl,⟨y,e1⟩,q⟩:=dy q;obtain⟨a,ha,rfl⟩:=V;obtain R':=R.step T X;have ho:h'.get? a=some (fV y.toArray):=R'.aX.at_ _ _ _ ha e1;refine getMethod_builtin (s:=⟨h',_,_,tk,_⟩) (show Shared.TypeIs _ (.ref a) "bytearray" from⟨_,ho,rfl⟩) U2 r9 Aa (λb e=>by cases e;exact⟨_,ho,rfl⟩) ?_;obtain MT:∀h:Heap,True->∃k,(k=Keeper.frame∨k=Keeper.machine∨k=Keeper.boundFrame)/\Looks G.M h (keeperOf (.builtin "bytearray.extend")) k:=λh w=>⟨_,.inr (.inl rfl),uw rfl⟩;refine xo (P:=λw=>True) (qK (es:=[e]) (by show(noStar e&&true)=true;rw[hs];rfl) _ _) MT ?_;rw[fZ hs];refine sd (o2 (q _ _ _ E R' λv d h2 ER Xn S2 X2 T2 V2 q2=>b5 ⟨trivial,?_⟩));obtain⟨z,y2,rfl,e2,hz,q2⟩:=q2;obtain⟨t,rfl⟩:=V2;have R2:=R'.step T2 X2;have Oa:=d7 T2.pre ha;obtain ho2:h2.get? a=some (fV y2.toArray):=R2.aX.at_ _ _ _ Oa e2;refine Mk (s:=⟨h2,_,_,ER,_⟩) ho2 (by rw[cu,cu];exact hz) λh3 hs3 ho3=>?_;obtain hb:zu c.L a h2 h3:=.same (cM (R2.aX.cQ a (aH Oa)).2.1) hs3;rw[List.append_toArray]at ho3;exact fi.put (s:=⟨h2,_,_,ER,_⟩) R2 ((K.step T).step T2) .none (.barr (y2++z)) Oa hb ho3 rfl q2
theorem VD(O:bh se c)(C:bw G lv c)(hk:se.names.lookup ("bytearray":Str)=some .globalImplicit)(q:dM S Q (.barr [])):EN G c (.Call (.Name "bytearray" p) [] [] pos) l S Q:=λρ s QQ E R K=>by
 rw[CJ];refine aq (Gl O C R (by decide +kernel) hk (by decide +kernel) (by decide +kernel) (by decide +kernel:bootBuiltins "bytearray"=some (.type "bytearray")) ?_);obtain MT:∀h:Heap,True->∃k,(k=Keeper.frame∨k=Keeper.machine∨k=Keeper.boundFrame)/\Looks G.M h (keeperOf (.type "bytearray")) k:=λh z=>⟨_,.inr (.inl rfl),uw rfl⟩;refine xo (P:=λz=>True) rfl MT (b5 ⟨trivial,?_⟩);refine Ox (Q₁:=λobj aE=>obj=.ref s.heap.objs.size/\aE={s with heap:=s.heap.push (fV #[])}) tD FA Bq (λself p=>(jD self).tc _ _ _ p) (λobj self p=>(jD self).ini _ _ _ p)
  (FD ⟨rfl,rfl⟩) ?_
 rintro obj aE ⟨rfl,rfl⟩;have ho:(s.heap.push (fV #[])).get? s.heap.objs.size=some (fV #[]):=dD _ rfl;refine⟨⟨_,ho,rfl⟩,DI _,gq (Ow (Q:=λv s'=>v=.none/\QQ (.ref s.heap.objs.size) s') ho λh' hs jM=>⟨rfl,?_⟩) (λdz s' h=>dY (h) λv e e' q=>⟨v,e,e',q⟩) λz z h=>h⟩;refine K.new R (tk:=s.toks) (.of λb o e=>hs.extBut b o (cU (bX e)) (cg _ e)) (jq (aB _)) (.barr []) jM q
end
end
section
open Sem (wp)
section
theorem O9(J:Nat->Shared->Prop)(mJ:∀n s,J n s->∀E,wpAny (model prog w) A (pyNext it) (λr aE=>match r with
   | none=>R (.ok .next) aE
   | some v=>wpAny (model prog w) A (letOwnedTupleGo tg it v) (λz vu=>wpAny (model prog w) A (assign tg aj v) (λz bq=>cp (model prog w) A (execs body aj) (λf lJ=>match f with
    | .next | .cont=>∃m,m<n/\J m lJ
    | .brk=>R (.ok .next) lJ
    | .ret v=>R (.ok (.ret v)) lJ) E bq) E vu) E aE) E s) (n:Nat):∀s,J n s->f7 (model prog w) A (.forLoop tg it body [] aj) R s:=by
 induction n using Nat.strongRecOn with
 | ind n ih =>
  intro s hJ;refine gu (λself p=>(jD self).forr _ _ _ _ _ p) ?_;rw[Around.under_of_weight rfl];show cp _ _ ((forTurn tg it body [] aj).onRaise (λx=>do noteFrame x aj;theTreesLotGoes x)) _ _ s
  refine tC ?_;unfold forTurn;dsimp only;refine aq (fR (aq (wpAny_onRaise (du (mJ n s hJ _) (λr aE h₁=>?_) λz z h'=>fR h'))));cases r with
  | none=>exact b5 ⟨rfl,E7 (codeAny_block (yC h₁))⟩
  | some v =>
   refine aq (du h₁ (λz vu L8=>aq (du L8 (λz bq cJ=>df (gq cJ (λf lJ ko=>?_) λz z h=>h)) λz z h=>h)) λz z h=>h);cases f with
   | next=>refine ak ko λm hm hJ=>?_;exact b5 ⟨rfl,ih m hm _ hJ⟩
   | cont=>refine ak ko λm hm hJ=>?_;exact b5 ⟨rfl,ih m hm _ hJ⟩
   | brk=>exact b5 ko
   | ret v=>exact b5 ko
theorem ot(Mn:A.depth<recursionLimit)(ho:s.heap.get? a=some o)(lU:o.data=.func fd)(hco:fd.scope.isCoroutine=false)(ade:fd.scope.isGenerator=false)(fE:fd.body=.stmts body)(NT:s.heap.CodeRec fd.code fd.qualname)
  (h:wpAny (model prog w) A.in1 (bindArgs fd args) (λme aE=>wpAny (model prog w) A.in1 (newFunctionEnv fd.scope fd.globals fd.closure me (fd.qualname++".<locals>.") (some a) fd.code none fd.builtins)
    (λaj bq=>bq.heap.NoLimit/\f7 (model prog w) A (.func body aj) R bq) (λe s'=>R (.error e) s') aE) (λe s'=>R (.error e) s') s):f7 (model prog w) A (.call (.ref a) args) R s:=by
 refine gu (yX _ _) ?_;show cp _ A.in1 (callAny (.ref a) args) _ _ s;unfold callAny;dsimp only;refine aq (mZ ho ?_);refine mE NT λc oc vs tq hc YM hdc hq=>?_;rw[lU];dsimp only;unfold callFunction;rw[hco,ade,fE,hc];dsimp only;rw[hc]at h;refine aq (m:=field (.ref c) 1) (fT YM hdc hq (aq (ao ?_)));exact aq (du h (λme aE h₁=>aq (du h₁ (λaj bq cJ=>aq (wpAny_enterFrame cJ.1 Mn (b5 (And.intro rfl cJ.2)))) λz z h'=>h')) λz z h'=>h')
theorem B6(h:∀E,cp (model prog w) (A.deeper aj) (execs body aj) (λf s'=>R (.ok (.ret (match f with | .ret v=>v | _=>.none))) s') E s):f7 (model prog w) A (.func body aj) R s:=by
 refine gu (U0 _ _) ?_;show cp _ (A.deeper aj) (do point;match<-(execs body aj).onRaise (leaving aj)with | .ret v=>ret v | _=>ret .none) _ _ s
 refine aq (wpAny_point (df (tC (gq (h _) (λf s' h'=>?_) λz z h'=>h'))));cases f<;>exact b5 h'
end
section
theorem VE(q:Q .next l S):K8 G c [] l S Q:=λρ s QQ E R K=>o2 (Hk q ρ s QQ E R K)
theorem RO{st:Stmt}(h:sI G c st l S (gp (K8 G c r) Q)):K8 G c (st::r) l S Q:=λρ s QQ E R K=>by
 rw[execs_cons];refine df (h ρ s _ E R λf fl h' tk' ar l' S' R' T V q=>?_);cases fl with
 | next=>obtain rfl:=V;exact q _ ⟨h',_,_,tk',_⟩ _ E R' (K.step T)
 | ret d=>obtain⟨v,rfl,V⟩:=V;exact b5 (K _ (.ret d) _ _ _ _ _ R' T ⟨v,rfl,V⟩ q)
theorem IP{e:Expr}(O:bh se c)(FC:fD c)(hi:se.idx.lookup x=some i)(hn:eX e=true)(h:EN G c e l S λd aa=>Q .next (l.set i (some d)) aa):sI G c (.Assign [.Name x p'] e p) l S Q:=λρ s QQ E R K=>by
 rw[exec_Assign_Name _ _ _ _ _ (gP hn _ _ _)];refine aq (fR (df (h ρ s _ E R λv d h' tk ar S' X T V q=>?_)));exact aq (fR (aq (wpAny_bindName (oW (s:=⟨h',_,_,tk,_⟩) O FC (R.step T X) hi V λda tk' R' T'=>b5 (K.next R' (T.s.trans T') q)))))
theorem tn{e:Expr}(O:bh se c)(hn:eX e=true)(h:EN G c e l S λz aa=>Q .next l aa):sI G c (.Expr e p) l S Q:=λρ s QQ E R K=>by
 rw[exec_Expr _ _ _ (by unfold interactive;rw[O.kind];rfl) (gP hn _ _ _)];refine aq (fR (df (h ρ s _ E R λv d h' tk ar S' X T V q=>?_)));exact o2 (wpAny_dropValue (K.next (R.step T X) T.s q))
theorem MU{o e:Expr}(hK:G.K.In c.h₀)(hn:eX e=true)(h:EN G c e l S λd aa=>EV G c o l aa λx af=>rV af x f d (Q .next l)):sI G c (.Assign [.Attribute o (er f) p'] e p) l S Q:=λρ s QQ E R K=>by
 rw[plainObj_exec_Assign_Attribute _ _ _ _ _ (gP hn _ _ _)];refine aq (fR (df (h ρ s _ E R λv d h' tk ar S' X T V q=>?_)));rw[assign_Attribute];refine aq (ae (dW (q _ ⟨h',_,_,tk,_⟩ _ E (R.step T X) λu x da tk' jX n8 X' T' U q'=>ae (fR (ae (dW ?_))))));obtain⟨i,rfl,cl,dx,fs,e1,e2,hf,hz,q'⟩:=dy q';refine ak U λa ha dc=>?_;obtain rfl:=dc;have R':=(R.step T X).step T' X';exact A7 (s:=⟨da,_,_,tk',_⟩) hK R' (V.mono T'.pre ((R.step T X).tup T')) ha e1 e2 hf hz λh3 lV R3 T3=>wpAny_release (b5 (K.next R3 ((T.trans T').trans T3).s q'))
theorem RP{tg e:Expr}(O:bh se c)(FC:fD c)(ht:vr se tg is tup=true)(sV:tb=true->tup=true)(hs:qM e=true)
  (q:EI G c e l S tb λaC aa=>∃I:Nat->a9->St->Prop,I 0 l aa/\(∀k l' S',I k l' S'->aC.nh S') /\
   (∀k l' S' d,I k l' S'->aC.items[k]? =some d->fJ is tup d l' λl₁=>K8 G c b l₁ S' (gp (λl₂ af y=>∃bN aL,gA aa l₂ af bN aL/\I (k+1) bN aL) Q)) /\
   ∀l' S',I aC.items.length l' S'->Q .next l' S'):sI G c (.For tg e b [] p) l S Q:=λρ s QQ E R K=>by
 rw[exec_For];refine aq (fR (aq (du (q _ s (λit bq=>cp G.M c.A (runOwn (.forLoop tg it b [] c.aj) c.aj) QQ E bq) E R λIa aC h₁ cJ iO fa aa X T B gr q=>?_) (λx aE h₁=>?_) λy y h=>h)))
 ·unfold runOwn;refine tC ?_;refine fun Γ p hΓ h1 h2=>?_;rw[Sem.wp_run];refine Ht (s:=s) (E0:=λy y=>False) (Cd:=λR' s'=>f7 G.M c.A (.forLoop tg (.ref Ia) b [] c.aj) R' s') (X:=λQQ E s=>cp G.M c.A (execs b c.aj) QQ E s) O FC ht sV (λh R K=>h _ _ _ _ R K)
   (λJ R' mJ n s hJ=>O9 J mJ n s hJ) (R.step T X) B gr (K.step T.s) q _ p rfl (hΓ.enter _ none p (by intro x;cases x)) (Bn h1 h2) |> wpCode_mono λr s' z=>?_
  cases r with
  | ok f=>exact z
  | error e=>exact z.elim
 ·exact aq (cc (vt hs _ _) (aq (fR (aq (dW h₁)))))
theorem YN{Q:PV->St->Prop}
  (C:bw G ⟨n+1,hn⟩ c) (R:aG G c s.heap ρ l S) (V:c5 ρ s.heap vs ds)
  (ho:s.heap.get? f=some fo) (hd:fo.data=.func (fnX name qual params body scope [] dV kV doc pm an cdv ct)) (NT:s.heap.CodeRec cdv qual) (SF:pO scope aD ds.length)
  (qJ:BindsTo s (fnX name qual params body scope [] dV kV doc pm an cdv ct) args (aD.zip vs))
  (fE:∀c',bw G ⟨n,hn⟩ c'->bh (zU scope aD) c'->fD c'->K8 G c' body (ds.map some++List.replicate (aD.length-ds.length) none) S λfl z S'=>dT S Q (lq fl) S')
  (K:fi G c s ρ Q QQ):f7 G.M c.A (.call (.ref f) args) (j7 QQ E) s:=by
 refine ot (a6 (ab (cT _ _) C.depth) (by decide)) ho hd SF.co SF.gen rfl NT (A2 (E:=E) C R V SF qJ (P:=λaj bq=>f7 G.M c.A (.func body aj) (j7 QQ E) bq) (λc' bq hA C' O' F' R' L=>B6 λE'=>?_) K);obtain this:=fE c' C' O' F' ρ bq (λfl s'=>j7 QQ E (.ok (.ret (match fl with | .ret v=>v | _=>.none))) s') E' R' λf fl h' tk' ar l' S' xb T W q=>L f fl h' tk' ar l' S' xb T W q
 rw[hA]at this;exact this
end
end
theorem Ge{G:GX}(X:Setting):fL G.K X 230 ⟨[.ref x],[("zap",.int z t)]⟩=some (nQ.aD.zip [.ref x,.int 16 461,.int 32 462,.int 32 463,.int 4 464,.int 4 465,.int 4 466,.int 2 467,.int 128 468,.int 192 469,.int 160 470,.int z t]):=by kernel_rfl
section
theorem IQ(q:Q .none [A,B,.aA .cw (ni 56),.bc .cw 2]):bI G lv sk [some (.ref 3),some (.int 16),some (.int 32),some (.int 32),some (.int 4),some (.int 4),some (.int 4),some (.int 2),some (.int 128),some (.int 192),some (.int 160),some (.int 56)] [A,B,.aA .cw [],.bc .cw 2] λf z S'=>dT [A,B,.aA .cw [],.bc .cw 2] Q (lq f) S':=by
 unfold sk;walk_at "s";refine bC (x:=3) (dx:=2) rfl rfl (by decide) (show 0<20 by decide) ?_;walk_at "s";refine bC (x:=3) (dx:=2) rfl rfl (by decide) (show 1<20 by decide) ?_;walk_at "s";refine bC (x:=3) (dx:=2) rfl rfl (by decide) (show 2<20 by decide) ?_;walk_at "s";refine bC (x:=3) (dx:=2) rfl rfl (by decide) (show 3<20 by decide) ?_;walk_at "s";refine bC (x:=3) (dx:=2) rfl rfl (by decide) (show 4<20 by decide) ?_;walk_at "s";refine bC (x:=3) (dx:=2) rfl rfl (by decide) (show 5<20 by decide) ?_;walk_at "s";refine bC (x:=3) (dx:=2) rfl rfl (by decide) (show 6<20 by decide) ?_;walk_at "s";refine bC (x:=3) (dx:=2) rfl rfl (by decide) (show 7<20 by decide) ?_;walk_at "s";refine bC (x:=3) (dx:=2) rfl rfl (by decide) (show 8<20 by decide) ?_;walk_at "s";refine bC (x:=3) (dx:=2) rfl rfl (by decide) (show 9<20 by decide) ?_;walk_at "s";refine bC (x:=3) (dx:=2) rfl rfl (by decide) (show 10<20 by decide) ?_;walk_at "s";exact .same q
theorem RQ{e:Expr}(O:bh se c)(C:bw G lv c)(hx:(x==("__debug__":Str))=false)(hk:se.names.lookup x=some .globalImplicit)(hg:jC.lookup x=some (.cls .cw))(h2:2<=lv.n)
  (h:EV G c e l [A,B] λd aa=>d=.int 56/\aa=[A,B]/\Q (.ref 3) [A,B,.aA .cw (ni 56),.bc .cw 2]):EV G c (.Call (.Name x p) [] [⟨some (Str.ofString "zap"),e,kp⟩] pos) l [A,B] Q:=λρ s QQ E R K=>by
 show wpAny _ _ (do callWith pos (<- eval (.Name x p) c.aj) [] (backTo pos (starEach [] c.aj)) (backToKw pos (keywordEach [⟨some (Str.ofString "zap"),e,kp⟩] c.aj))) _ _ _
 refine ae (lp O C R hx hk (LQ hg) ?_);refine callWith_of (P:=λh=>G.K.In h) rfl (keeps_K (Hf G hg).keep) (evalArgs_kw2_nil rfl (kwAll_cons (h ρ s _ E R λv d h' tk' ar S' X T V q=>kwAll_nil ⟨C.K.keeps (R.step T X).keep,?_⟩)));obtain⟨rfl,rfl,q⟩:=q;obtain⟨t,rfl⟩:=V;refine oI (kX (R:=j7 QQ E) ?_ λr s' z=>by rcases r with e | (v | _ | _ | _)<;>exact z)
 refine Kf (s:={s with heap:=h',toks:=tk'}) C (mS h2) (Hf G hg) (R.step T X) λx dx da ⟨R2,T2,C2,EP⟩=>?_;obtain⟨m,hm⟩:=Nat.exists_eq_add_of_le h2;obtain C2:bw G ⟨m+1,lv.hn⟩ _:=(show lv.n-1=m+1 by rw[hm];lia)▸C2;refine kX (Ae (By G) (QQ:=λv s'=>v=.none/\QQ (.ref x) s') (E:=E) (Q:=λr af=>r=.none/\Q (.ref 3) af) C2 R2 (vs:=[.ref x,.int 16 461,.int 32 462,.int 32 463,.int 4 464,.int 4 465,.int 4 466,.int 2 467,.int 128 468,.int 192 469,.int 160 470,.int 56 t]) (ds:=[.ref 3,.int 16,.int 32,.int 32,.int 4,.int 4,.int 4,.int 2,.int 128,.int 192,.int 160,.int 56])
  (.cons (.ref EP) (.cons ⟨_,rfl⟩ (.cons ⟨_,rfl⟩ (.cons ⟨_,rfl⟩ (.cons ⟨_,rfl⟩ (.cons ⟨_,rfl⟩ (.cons ⟨_,rfl⟩ (.cons ⟨_,rfl⟩ (.cons ⟨_,rfl⟩ (.cons ⟨_,rfl⟩ (.cons ⟨_,rfl⟩ (.cons ⟨_,rfl⟩ .nil)))))))))))) rfl Ge (IQ ⟨rfl,q⟩) λv d h3 lV uR S3 X3 T3 V3 q3=>?_) λr s' z=>?_
 ·obtain⟨rfl,q3⟩:=q3;exact⟨V3,K _ (.ref 3) _ _ _ _ ⟨X3.len,X3.nd,X3.at_,X3.cQ⟩ ((T.trans T2).trans T3) (.ref (d7 T3.pre EP)) q3⟩
 ·rcases r with e | (v | _ | _ | _)<;>exact z
noncomputable def VF(se:SE)(x:Expr):Bool:=nH x λf es kw z=>hZ f (λn z=>mI se n&&decide (jC.lookup n=some (.cls .cw)))&&es.isEmpty&&i6 kw λk=>decide (k.arg=some (Str.ofString "zap"))&&(ck (.lit (.int 56))).e se false k.value
noncomputable def TQ(se:SE)(vs:List Expr):Bool:=ic vs λa r=>i6 r λd=>pV se (.cls .iT) (λes=>i6 es (VF se)) a&&wL d λks vs z=>ks.isEmpty&&vs.isEmpty
noncomputable def MV(A B:AO):St:=[A,B,.aA .cw (ni 56),.bc .cw 2,.aA .iT [(.cw,.ref 3),(.gg,.ref 6),(.bZ,.ref 7),(.gx,.int 0)],.bc .iT 4,.dr [],.dr [],.bD [] 0]
theorem Pa{Q:List PV->St->Prop}(h:TQ se vs=true)(C:bw G lv c)(O:bh se c)(h2:2<=lv.n)(q:Q [.ref 5,.ref 8] (MV A B)):gj G c vs l [A,B] Q:=by
 apply c0 (eG h);intro a r h;apply dq (eP h);intro d k;refine dC k λk1 k2=>?_;apply bJ (EE k2);intro ks ws p k3;refine dC k3 λk3 k4=>?_;apply zL (dj.mp k3);apply zL (dj.mp k4);apply jj (kG k1);intro n q' ys vy g1 g2 g3 g4 g5;refine ak (eP g5) λb gy g6=>?_;obtain rfl:=gy;refine rO (jz g6) λf es kw pos kz m1=>?_;obtain rfl:=kz;refine ju m1 λm3 g8 g7=>?_;apply c0 (eE m3);intro x px m4;refine dC m4 λm5 g9=>?_;apply zL (dj.mp g8);refine ak (eP g7) λkA wR m6=>?_;obtain⟨ka,kv,kp⟩:=kA;obtain rfl:=wR;refine dC m6 λm7 g10=>?_;obtain rfl:ka=some (Str.ofString "zap"):=aN m7;refine vl rfl (NV O C g1 g2 g3 g4 (vl rfl (RQ O C (nu m5).2 (nu m5).1 (aN g9) h2 ((cj (.lit (.int 56))).v g10 C O (ZG.mpr ⟨rfl,rfl,uO ?_⟩)))));refine⟨mS h2,?_⟩;refine xE (Nat.exists_eq_add_of_le h2) λm hm=>?_;rw[show lv.n-1=m+1 by rw[hm];lia];exact Gb ⟨rfl,vl rfl (Dq _ (.inr rfl) (uO q))⟩
end
inductive NP where
 | blk (p:P)
 | barr (o:T) (f:Fd)
 | ext (o e:T)
 | mth (o:T) (m:Mt) (es:T)
 | mthN (o:T) (m:Mt) (a b:T) (f:Addr) (es:T)
 | new (i:Nat) (c:jo)
 | asgc (i:Nat) (f:Addr) (es:T)
 | exc (f:Addr) (es:T)
 | first (is:List Nat)
 | forr (is:List Nat) (tup:Bool) (k:IK) (its:T) (b:NP)
 | nil
 | cons (a b:NP)
noncomputable def NP.ctorIdx(x:NP):Nat:=NP.casesOn x (λz=>0) (λz z=>1) (λz z=>2) (λz z z=>3) (λz z z z z z=>4) (λz z=>5) (λz z z=>6) (λz z=>7) (λz=>8) (λz z z z z=>9) 10 (λz z=>11)
def YO(S:St)(K:St->Prop)(a:Nat)(x:PV):Prop:=∃z y,x=.bytes z/\S[a]? =some (.barr y)/\y.length+z.length<=100000/\K (S.set a (.barr (y++z)))
noncomputable def eZ(G:GX)(lv:Lv)(st:NP):a9->St->(Fl->a9->St->Prop)->Prop :=
 NP.rec (motive:=λz=>a9->St->(Fl->a9->St->Prop)->Prop)
  (blk:=λp=>bI G lv p)
  (barr:=λo f l S Q=>dM S (λd aa=>aO G lv o l aa λx af=>rV af x f d (Q .next l)) (.barr []))
  (ext:=λo e l S Q=>aO G lv o l S λd aa=>fg d λa=>(∃y,aa[a]? =some (.barr y))/\aO G lv e l aa λx af=>YO af (Q .next l) a x)
  (mth:=λo m es l S Q=>aO G lv o l S λd aa=>nJ aa d m λf x=>aO G lv es l aa λds af=>cY ds λds=>dB G lv f (.ref x::ds) af λz aL=>Q .next l aL)
  (mthN:=λo m a b f es l S Q=>aO G lv o l S λd aa=>nJ aa d m λg x=>aO G lv a l aa λu af=>aO G lv b l af λv aL=>aO G lv es l aL λds qc=>cY ds λds=>dB G lv f ds qc λw wX=>dB G lv g [.ref x,u,v,w] wX λz IS=>Q .next l IS)
  (new:=λi c l S Q=>1<=lv.n/\dB G ⟨lv.n-1,lv.hn⟩ (ma c) [.ref (S.length+1)] (S++[.aA c [],.bc c S.length]) λr af=>r=.none/\Q .next (l.set i (some (.ref (S.length+1)))) af)
  (asgc:=λi f es l S Q=>aO G lv es l S λds aa=>cY ds λds=>dB G lv f ds aa λd af=>Q .next (l.set i (some d)) af)
  (exc:=λf es l S Q=>aO G lv es l S λds aa=>cY ds λds=>dB G lv f ds aa λz af=>Q .next l af)
  (first:=λis l S Q=>2<=lv.n/\is.length=2/\∃A B,S=[A,B]/\Q .next (d8 is [.ref 5,.ref 8] l) (MV A B))
  (forr:=λis tup k its z b l S Q=>qy G lv k its l S λaC aa=>∃I:Nat->a9->St->Prop,I 0 l aa/\(∀k l' S',I k l' S'->aC.nh S') /\
   (∀k l' S' d,I k l' S'->aC.items[k]? =some d->fJ is tup d l' λl₁=>b l₁ S' (gp (λl₂ af z=>∃bN aL,gA aa l₂ af bN aL/\I (k+1) bN aL) Q)) /\
   ∀l' S',I aC.items.length l' S'->Q .next l' S')
  (nil:=λl S Q=>Q .next l S)
  (cons:=λz z st r l S Q=>st l S (gp r Q)) st
section
variable {K:Fl->a9->St->Prop} {o e es a b its:T}
theorem agI{p:P}:eZ G lv (.blk p) l S K=bI G lv p l S K:=rfl
theorem YP:eZ G lv (.barr o f) l S K=dM S (λd aa=>aO G lv o l aa λx af=>rV af x f d (K .next l)) (.barr []):=rfl
theorem aat:eZ G lv (.ext o e) l S K=aO G lv o l S λd aa=>fg d λa=>(∃y,aa[a]? =some (.barr y))/\aO G lv e l aa λx af=>YO af (K .next l) a x:=rfl
theorem aau:eZ G lv (.mth o m es) l S K=aO G lv o l S λd aa=>nJ aa d m λf x=>aO G lv es l aa λds af=>cY ds λds=>dB G lv f (.ref x::ds) af λz aL=>K .next l aL:=rfl
theorem YQ:eZ G lv (.mthN o m a b f es) l S K=aO G lv o l S λd aa=>nJ aa d m λg x=>aO G lv a l aa λu af=>aO G lv b l af λv aL=>aO G lv es l aL λds qc=>cY ds λds=>dB G lv f ds qc λw wX=>dB G lv g [.ref x,u,v,w] wX λz IS=>K .next l IS:=rfl
theorem agJ:eZ G lv (.new i c) l S K=(1<=lv.n/\dB G ⟨lv.n-1,lv.hn⟩ (ma c) [.ref (S.length+1)] (S++[.aA c [],.bc c S.length]) λr af=>r=.none/\K .next (l.set i (some (.ref (S.length+1)))) af):=rfl
theorem YR:eZ G lv (.asgc i f es) l S K=aO G lv es l S λds aa=>cY ds λds=>dB G lv f ds aa λd af=>K .next (l.set i (some d)) af:=rfl
theorem aav:eZ G lv (.exc f es) l S K=aO G lv es l S λds aa=>cY ds λds=>dB G lv f ds aa λz af=>K .next l af:=rfl
theorem La:eZ G lv (.first is) l S K=(2<=lv.n/\is.length=2/\∃A B,S=[A,B]/\K .next (d8 is [.ref 5,.ref 8] l) (MV A B)):=rfl
theorem MW:eZ G lv (.forr is tup k its p) l S K=qy G lv k its l S λaC aa=>∃I:Nat->a9->St->Prop,I 0 l aa/\(∀k l' S',I k l' S'->aC.nh S') /\
   (∀k l' S' d,I k l' S'->aC.items[k]? =some d->fJ is tup d l' λl₁=>eZ G lv p l₁ S' (gp (λl₂ af z=>∃bN aL,gA aa l₂ af bN aL/\I (k+1) bN aL) K)) /\
   ∀l' S',I aC.items.length l' S'->K .next l' S':=rfl
theorem agK:eZ G lv .nil l S K=K .next l S:=rfl
theorem YS:eZ G lv (.cons p q) l S K=eZ G lv p l S (gp (eZ G lv q) K):=rfl
end
noncomputable def Pb(t:NP):KP:=NP.rec (motive:=λq=>KP)
 (blk:=λp=>.ex λse st=>(Fb p).e se st)
 (barr:=λo f=>.ex λse st=>nN st λt v q=>gO t λy n q=>decide (n=er f)&&(ck o).e se false y&&nH v λg xs kw q=>hZ g (λm q=>decide (m="bytearray")&&mI se m)&&xs.isEmpty&&kw.isEmpty)
 (ext:=λo e=>.ex λse st=>sO st λx q=>nH x λg xs kw pos=>gO g (λob m dh=>decide (m="extend")&&jN ob&&(dh.endLine==pos.line)&&(ck o).e se false ob)&&kw.isEmpty&&i6 xs λy=>noStar y&&(ck e).e se false y)
 (mth:=λo m es=>.ex λse st=>sO st λx q=>xv (qF m) ((ck o).e se false) ((ck es).s se) x)
 (mthN:=λo m a b f es=>.ex λse st=>sO st λx q=>xv (qF m) ((ck o).e se false) (λxs=>ic xs λu r=>ic r λv r'=>i6 r' λw=>(ck a).e se false u&&(ck b).e se false v&&pV se (.fn f) ((ck es).s se) w) x)
 (new:=λi c=>.ex λse st=>nN st λt v q=>hZ t λx q=>decide (se.idx.lookup x=some i)&&pV se (.cls c) (λxs=>xs.isEmpty) v)
 (asgc:=λi f es=>.ex λse st=>nN st λt v q=>hZ t λx q=>decide (se.idx.lookup x=some i)&&pV se (.fn f) ((ck es).s se) v)
 (exc:=λf es=>.ex λse st=>sO st λx q=>pV se (.fn f) ((ck es).s se) x)
 (first:=λis=>.ex λse st=>nN st λt v q=>lh t λxs k p'=>lh v λvs k' EW=>sW se xs is&&TQ se vs&&RC se is (S9 se.names xs k p' (.Tuple vs k' EW)))
 (forr:=λis tup k its q b=>.ex λse st=>Qe st λtg x y z q=>vr se tg is tup&&(!k.tb||tup)&&qM x&&TB k (ck its) se x&&b.s se y&&z.isEmpty)
 (nil:=⟨λq q=>false,λq xs=>xs.isEmpty⟩)
 (cons:=λq q a r=>⟨λq q=>false,λse xs=>ic xs λy w=>a.e se y&&r.s se w⟩) t
section
structure lM(G:GX)(lv:Lv)(t:NP):Prop where
 e:∀{se st c l S Q},(Pb t).e se st=true->bw G lv c->bh se c->fD c->eZ G lv t l S Q->sI G c st l S Q
 s:∀{se b c l S Q},(Pb t).s se b=true->bw G lv c->bh se c->fD c->eZ G lv t l S Q->K8 G c b l S Q
theorem lM.of(f:∀{se st c l S Q},(Pb t).e se st=true->bw G lv c->bh se c->fD c->eZ G lv t l S Q->sI G c st l S Q)(g:(Pb t).s=λz z=>false):lM G lv t :=
 ⟨f,λ{se b} _ _ _ _ h=>absurd ((iA (iA g se) b).symm.trans h) bf⟩
theorem sI.mono{st:Stmt}(h:sI G c st l S Q)(k:∀f l S',Q f l S'->Q' f l S'):sI G c st l S Q':=λρ s QQ E R K=>h ρ s QQ E R λf fl h' tk' ar l' S' R' T V q=>K f fl h' tk' ar l' S' R' T V (k _ _ _ q)
theorem dB.mono(h:dB G lv f ds S Q)(k:∀d S',Q d S'->Q' d S'):dB G lv f ds S Q':=λc C s ρ vs l QQ E R V K=>h c C s ρ vs l QQ E R V λv d h' tk' ar S' X T V' q=>K v d h' tk' ar S' X T V' (k _ _ q)
theorem RS(o:T)(f:Fd):lM G lv (.barr o f):=.of (λh Y O FC q=>by
 apply bJ (iW h);intro t v p h;apply bJ (fW h);intro y n p' h;refine ju h λh1 h2 h3=>?_;apply zL (aN h1);apply ed (jz h3);intro g xs kw pos k;refine ju k λk3 h4 h5=>?_;apply c0 (eE k3);intro m q' k3;refine dC k3 λg1 g2=>?_;obtain rfl:=aN g1;apply zL (dj.mp h4);apply zL (dj.mp h5);exact MU Y.K rfl (VD O Y (nu g2).1 ((cj o).v h2 Y O (YP.mp q)))) rfl
theorem VG(o e:T):lM G lv (.ext o e):=.of (λh Y O FC q=>by
 apply c0 (mG h);intro x p h;apply ed (jz h);intro g xs kw pos h;refine ju h λh1 h2 h3=>?_;apply bJ (fW h1);intro ob m dh k;refine xu k λg1 g2 g3 g4=>?_;apply zL (aN g1);apply zL (dj.mp h2);apply dq (eP h3);intro y k;refine dC k λh5 h6=>?_;refine tn O rfl (YL g2 h5 g3 (((cj o).v g4 Y O (aat.mp q)).mono λd aa q=>?_));obtain⟨a,rfl,h7,q⟩:=dy q;exact⟨h7,(cj e).v h6 Y O q⟩) rfl
theorem VH(o:T)(m:Mt)(es:T):lM G lv (.mth o m es):=.of (λ{se st c l S Q} h Y O FC q=>by
 apply c0 (mG h);intro x p h;apply l9 (sZ h);intro ob dh xs pos h1 h2 h3 h4 h5 h6;exact tn O rfl (K9 Y h1 h2 h3 h4 (((cj o).v h5 Y O (aau.mp q)).mono λd aa q=>vB q λf x q=>gj.n ((cj es).s (Q:=λds af=>dB G lv f (.ref x::ds) af λz aL=>Q .next l aL) h6 Y O q)))) rfl
theorem RT(o:T)(m:Mt)(a b:T)(f:Addr)(es:T):lM G lv (.mthN o m a b f es):=.of (λ{se st c l S Q} h Y O FC q=>by
 apply c0 (mG h);intro x p h;apply l9 (sZ h);intro ob dh xs pos h1 h2 h3 h4 h5 h6;refine cq (eG h6) λu r GP k=>?_;obtain rfl:=GP;refine cq (eG k) λv r' zS k'=>?_;obtain rfl:=zS;refine ak (eP k') λw GQ k''=>?_;obtain rfl:=GQ;refine xA (bU k'') λk3 h9=>?_;refine dC k3 λh7 h8=>?_;refine AK (kG h9) λn q' ys vy GR g1 g2 g3 g4 g5=>?_;obtain rfl:=GR;refine dC (show(noStar u&&(noStar v&&(noStar (Expr.Call (.Name n q') ys [] vy)&&true)))=true from h2) λk1 k2=>?_;refine dC k2 λk2 k3=>?_;exact tn O rfl (K9 Y h1 h2 h3 h4 (((cj o).v h5 Y O (YQ.mp q)).mono λd aa q=>vB q λg x q=>
  AF k1 (EV.n (((cj a).v h7 Y O q).mono λu af q=>AF k2 (EV.n (((cj b).v h8 Y O q).mono λv aL q=>AF rfl (Ej O Y g1 g2 g3 g4 (gj.n (((cj es).s (Q:=λds qc=>dB G lv f ds qc λw wX=>dB G lv g [.ref x,u,v,w] wX λz IS=>Q .next l IS) g5 Y O q).mono λds qc q=>dB.mono q λw wX q=>gj.n (uO q))))))))))) rfl
theorem VJ(i:Nat)(cl:jo):lM G lv (.new i cl):=.of (λ{se st c l S Q} h Y O FC q=>by
 apply bJ (iW h);intro t v p h;apply c0 (eE h);intro x p' h;refine dC h λh1 h2=>?_;apply jj (kG h2);intro n q' ys vy g1 g2 g3 g4 g5;apply zL (dj.mp g5);exact IP O FC (aN h1) rfl (YK O Y g1 g2 g3 q)) rfl
theorem RU(i:Nat)(f:Addr)(es:T):lM G lv (.asgc i f es):=.of (λ{se st c l S Q} h Y O FC q=>by
 apply bJ (iW h);intro t v p h;apply c0 (eE h);intro x p' h;refine dC h λh1 h2=>?_;apply jj (kG h2);intro n q' ys vy g1 g2 g3 g4 g5;exact IP O FC (aN h1) rfl (Ej O Y g1 g2 g3 g4 (gj.n ((cj es).s (Q:=λds aa=>dB G lv f ds aa λd af=>Q .next (l.set i (some d)) af) g5 Y O (YR.mp q))))) rfl
theorem VK(f:Addr)(es:T):lM G lv (.exc f es):=.of (λ{se st c l S Q} h Y O FC q=>by
 apply c0 (mG h);intro x p h;apply jj (kG h);intro n q' ys vy g1 g2 g3 g4 g5;exact tn O rfl (Ej O Y g1 g2 g3 g4 (gj.n ((cj es).s (Q:=λds aa=>dB G lv f ds aa λd af=>Q .next l af) g5 Y O (aav.mp q))))) rfl
theorem Pc(is:List Nat):lM G lv (.first is):=.of (λ{se st c l S Q} h Y O FC q=>by
 apply bJ (iW h);intro t v p h;apply bJ (f6 h);intro xs k p' h;apply bJ (f6 h);intro vs k' EW h;refine ju h λh1 h2 h3=>?_;refine ak (KQ h3) λr h3 h4=>?_;apply PU (La.mp q);intro h5 h6 A B r;exact kb.n (Hp O FC h3 h1 h4 (G3 (Pa h2 Y O h5 ⟨rfl,h6.symm,r⟩)))) rfl
theorem VL(is:List Nat)(tup:Bool)(k:IK)(its:T){b:NP}(B:lM G lv b):lM G lv (.forr is tup k its b):=.of (λ{se st c l S Q} h Y O FC q=>by
 apply EC (J9 h);intro tg x y z p h;refine Mq h λh1 h2 h3 h4 h5 h6=>?_;apply zL (dj.mp h6);refine RP O FC h1 (λe=>by rw[e]at h2;exact h2) h3 (EI.mono (DO (cj its) h4 Y O (MW.mp q)) λaC aa q=>?_);refine u9 q λI h0 cD iP oX=>?_;exact⟨I,h0,cD,λk l' S' d hI hd=>xw (iP k l' S' d hI hd) λl₁ q=>B.s h5 Y O FC q,oX⟩) rfl
theorem RV(A:lM G lv a)(B:lM G lv b):lM G lv (.cons a b):=⟨λh=>absurd h bf,λh Y O FC q=>by
 apply c0 (eG h);intro y w h;refine dC h λh1 h2=>?_;exact RO ((A.e h1 Y O FC (YS.mp q)).mono λf l₁ aa q=>Fc q λl S q=>B.s h2 Y O FC q)⟩
theorem Lb(t:NP):lM G lv t:=by
 induction t with
 | blk p=>exact .of (λh Y O FC q=>kb.n ((DP p).e h Y O FC q)) rfl
 | barr o f=>exact RS o f
 | ext o e=>exact VG o e
 | mth o m es=>exact VH o m es
 | mthN o m a b f es=>exact RT o m a b f es
 | new i c=>exact VJ i c
 | asgc i f es=>exact RU i f es
 | exc f es=>exact VK f es
 | first is=>exact Pc is
 | forr is tup k its b B=>exact VL is tup k its B
 | nil=>exact⟨λh=>absurd h bf,λh z z z q=>by rw[dj.mp h];exact VE q⟩
 | cons a b A B=>exact RV A B
end
structure xU where
 f:Addr
 aD:List Str
 np:Nat
 body:NP
noncomputable def rb(K:Frag)(d:xU):Bool:=yZ K d.f d.aD d.np λse=>(Pb d.body).s se
theorem Ld{G:GX}{n:Nat}{hn:Bool}{d:xU}(ok:rb G.K d=true){ds:List PV}{S:St}{Q:PV->St->Prop}(hl:ds.length=d.np)(hb:∀vs:List Value,vs.length=d.np->∀X,fL G.K X d.f ⟨vs,[]⟩=some (d.aD.zip vs))
  (hw:jB S->(∀x∈ds,Sc S.length x)->eZ G ⟨n,hn⟩ d.body (ds.map some++List.replicate (d.aD.length-d.np) none) S λf z S'=>dT S Q (lq f) S'):dB G ⟨n+1,hn⟩ d.f ds S Q:=λc C s ρ vs l QQ E R V K=>by
 obtain⟨name,qual,params,b,scope,dV,kV,doc,pm,cdv,ct,an,ob,ky,hd,hf,hc,nq,fE⟩:=y7 ok;obtain hb:∀X,((jO (G.K.lookup d.f)).bind λfd=>peek G.K X (bindArgs fd ⟨vs,[]⟩))=some (d.aD.zip vs):=hb vs ((L2.len V).trans hl);rw[hf]at hb;obtain hw:=hw R.aX.sc λx hx=>R.aX.len▸(xE (L2.Af V hx) λz y=>y.sc);obtain SF:=uP nq;rw[<- hl]at SF hw;obtain kH:=C.K.keeps R.keep;exact YN C R V (kH _ _ ky) hd (rD kH hc) SF (rF kH hb) (λc' C' O' FC=>(Lb d.body).s fE C' O' FC hw) K
noncomputable def tT:NP:=(.cons (.barr (.loc 0) .bZ) .nil)
noncomputable def pB:xU:=⟨123,["self"],1,tT⟩
noncomputable def qx:NP:=(.cons (.ext (.attr (.loc 0) .bZ) (.call 99 (.cons (.loc 1) (.cons (.loc 2) .nil)))) .nil)
noncomputable def mD:xU:=⟨130,["self","number","size"],3,qx⟩
noncomputable def tU:NP:=(.cons (.blk (.asg 2 (.call 104 (.cons (.loc 1) .nil)))) (.cons (.mth (.loc 0) .number (.cons (.bi .len (.cons (.loc 2) .nil)) (.cons (.lit (.int 1)) .nil))) (.cons (.ext (.attr (.loc 0) .bZ) (.loc 2)) .nil)))
noncomputable def pC:xU:=⟨144,["self","text","octets"],2,tU⟩
noncomputable def o8:NP:=(.cons (.new 3 .kn) (.cons (.mth (.loc 3) .number (.cons (.lit (.int 1)) (.cons (.lit (.int 1)) .nil))) (.cons (.mth (.loc 3) .number (.cons (.loc 0) (.cons (.lit (.int 4)) .nil))) (.cons (.mth (.loc 3) .number (.cons (.bi .len (.cons (.loc 1) .nil)) (.cons (.lit (.int 2)) .nil))) (.cons (.forr [4,5] true .ex (.loc 1) (.cons (.mth (.loc 3) .De (.cons (.loc 4) .nil)) (.cons (.mth (.loc 3) .number (.cons (.loc 5) (.cons (.lit (.int 8)) .nil))) .nil))) (.cons (.blk (.asg 6 (.meth (.loc 3) .LD .nil))) (.cons (.blk (.ret (.ife (.cmp .LtE (.bi .len (.cons (.loc 6) .nil)) (.loc 2)) (.call 215 (.cons (.loc 6) (.cons (.loc 2) .nil))) (.lit .none)))) .nil)))))))
noncomputable def lD:xU:=⟨286,["salt","rows","size","sink","name","number","octets"],3,o8⟩
noncomputable def xV:NP:=(.cons (.blk (.asg 2 (.attr (.attr (.loc 0) .cw) .J5))) (.cons (.blk (.asg 3 (.meth (.loc 0) .add (.cons (.loc 1) (.cons (.loc 2) .nil))))) (.cons (.mthN (.loc 0) .write (.loc 3) (.lit (.int 0)) 286 (.cons (.call 272 (.cons (.loc 3) .nil)) (.cons (.lst .nil) (.cons (.loc 2) .nil)))) (.cons (.blk (.ret (.loc 3))) .nil))))
noncomputable def tp:xU:=⟨420,["objset","kind","size","object_now"],2,xV⟩
noncomputable def xW:NP:=(.cons (.blk (.expr (.call 279 (.cons (.loc 2) (.cons (.loc 3) .nil))))) (.cons (.blk (.asg 4 (.call 382 (.cons (.loc 0) (.cons (.loc 1) .nil))))) (.cons (.blk (.iff (.cmp .NotEq (.call 335 (.cons (.loc 4) .nil)) (.lit (.int 1))) (.cons (.expr (.call 463 (.cons (.loc 0) (.cons (.loc 1) (.cons (.loc 2) (.cons (.loc 3) .nil)))))) (.cons (.ret0) .nil)) .nil)) (.cons (.blk (.asg 5 (.bi .sorted (.cons (.bin .Add (.comp (.loc 9) 1 false .ex (.call 293 (.cons (.loc 4) .nil)) (.cmp .NotEq (.idx (.loc 9) (.lit (.int 0))) (.loc 2))) (.lst (.cons (.tup (.cons (.loc 2) (.cons (.loc 3) .nil))) .nil))) .nil)))) (.cons (.asgc 6 286 (.cons (.call 272 (.cons (.loc 1) .nil)) (.cons (.loc 5) (.cons (.bi .len (.cons (.loc 4) .nil)) .nil)))) (.cons (.blk (.iff (.cmp .IsNot (.loc 6) (.lit .none)) (.cons (.expr (.meth (.loc 0) .write (.cons (.loc 1) (.cons (.lit (.int 0)) (.cons (.loc 6) .nil))))) .nil) (.cons (.expr (.call 437 (.cons (.loc 0) (.cons (.loc 1) .nil)))) (.cons (.forr [7,8] true .ex (.loc 5) (.cons (.expr (.call 463 (.cons (.loc 0) (.cons (.loc 1) (.cons (.loc 7) (.cons (.loc 8) .nil)))))) .nil)) .nil)))) .nil))))))
noncomputable def tu:xU:=⟨425,["objset","object_now","name","number","octets","rows","made","text","told"],4,xW⟩
noncomputable def Le:NP:=.cons (.blk (.ret (.and (.cmp .Eq (.call 413 (.cons (.loc 2) (.cons (.loc 4) .nil))) (.lst .nil)) (.and (.cmp .Eq (.attr (.loc 11) .many) (.lit (.int 0))) (.call 619 (.cons (.loc 2) (.cons (.loc 4) (.cons (.lit (.str (Str.ofString "0a"))) .nil)))))))) .nil
noncomputable def Ek:NP:=.cons (.blk (.asg 11 (.call 328 (.cons (.slcH (.call 382 (.cons (.loc 2) (.cons (.loc 4) .nil))) (.lit (.int 18))) .nil)))) Le
noncomputable def El:NP:=.cons (.blk (.forr [13] false .uK (.cons (.bi .len (.cons (.loc 12) .nil)) .nil) (.cons (.asg 9 (.mcall (.loc 12) .EF (.cons (.bin .Mod (.call 600 (.cons (.loc 0) (.cons (.bin .Sub (.lit (.int 63)) (.loc 13)) .nil))) (.bi .len (.cons (.loc 12) .nil))) .nil))) (.cons (.expr (.call 430 (.cons (.loc 2) (.cons (.loc 4) (.cons (.loc 9) .nil))))) (.cons (.iff (.or (.cmp .IsNot (.call 406 (.cons (.loc 2) (.cons (.loc 4) (.cons (.loc 9) .nil)))) (.lit .none)) (.and (.cmp .NotEq (.loc 12) (.lst .nil)) (.cmp .NotEq (.call 406 (.cons (.loc 2) (.cons (.loc 4) (.cons (.idx (.loc 12) (.lit (.int 0))) .nil)))) (.idx (.loc 3) (.idx (.loc 12) (.lit (.int 0))))))) (.cons (.ret (.lit (.bool false))) .nil) .nil) .nil))))) Ek
noncomputable def Em:NP:=.cons (.blk (.asg 12 (.bi .sorted (.cons (.loc 3) .nil)))) El
noncomputable def En:NP:=.cons (.blk (.iff (.not (.bi .all (.cons (.comp (.call 619 (.cons (.loc 2) (.cons (.loc 4) (.cons (.loc 14) .nil)))) 1 false .ex (.tup (.cons (.lit (.str (Str.ofString ""))) (.cons (.lit (.str (Str.ofString "0z"))) (.cons (.lit (.str (Str.ofString "17"))) .nil)))) (.lit (.bool true))) .nil))) (.cons (.ret (.lit (.bool false))) .nil) .nil)) Em
noncomputable def Eo:NP:=.cons (.blk (.iff (.cmp .NotEq (.call 413 (.cons (.loc 2) (.cons (.loc 4) .nil))) (.bi .sorted (.cons (.comp (.tup (.cons (.loc 14) (.cons (.idx (.loc 3) (.loc 14)) .nil))) 1 false .ex (.loc 3) (.lit (.bool true))) .nil))) (.cons (.ret (.lit (.bool false))) .nil) .nil)) En
noncomputable def Ep:NP:=.cons (.blk (.iff (.cmp .NotEq (.comp (.call 406 (.cons (.loc 2) (.cons (.loc 4) (.cons (.loc 14) .nil)))) 1 false .ex (.loc 3) (.lit (.bool true))) (.comp (.idx (.loc 3) (.loc 14)) 1 false .ex (.loc 3) (.lit (.bool true)))) (.cons (.ret (.lit (.bool false))) .nil) .nil)) Eo
noncomputable def Er:NP:=.cons (.blk (.iff (.and (.cmp .Lt (.attr (.loc 11) .bits) (.lit (.int 4))) (.cmp .Eq (.bin .FloorDiv (.idx (.idx (.loc 5) (.lit (.int 0))) (.lit (.int 0))) (.lit (.int 16))) (.bin .FloorDiv (.idx (.idx (.loc 5) (.lit (.int 2))) (.lit (.int 0))) (.lit (.int 16))))) (.cons (.ret (.lit (.bool false))) .nil) .nil)) Ep
noncomputable def Es:NP:=.cons (.blk (.iff (.or (.not (.call 624 (.cons (.loc 2) (.cons (.loc 4) (.cons (.loc 11) .nil))))) (.cmp .NotEq (.attr (.loc 11) .many) (.bi .len (.cons (.loc 3) .nil)))) (.cons (.ret (.lit (.bool false))) .nil) .nil)) Er
noncomputable def IT:NP:=.cons (.blk (.asg 11 (.call 328 (.cons (.slcH (.call 382 (.cons (.loc 2) (.cons (.loc 4) .nil))) (.lit (.int 18))) .nil)))) Es
noncomputable def IU:NP:=.cons (.blk (.iff (.cmp .Lt (.bi .len (.cons (.loc 3) .nil)) (.lit (.int 5))) (.cons (.ret (.lit (.bool true))) .nil) .nil)) IT
noncomputable def IV:NP:=.cons (.forr [8,9,10] true .ex (.bin .Add (.slcL (.loc 6) (.loc 7)) (.slcH (.loc 6) (.loc 7))) (.cons (.blk (.sidx (.loc 3) (.loc 9) (.loc 10))) (.cons (.exc 425 (.cons (.loc 2) (.cons (.loc 4) (.cons (.loc 9) (.cons (.loc 10) .nil))))) .nil))) IU
noncomputable def Pd:NP:=.cons (.blk (.asg 7 (.bin .Mod (.bin .FloorDiv (.loc 1) (.lit (.int 2))) (.bi .len (.cons (.loc 6) .nil))))) IV
noncomputable def Pe:NP:=.cons (.blk (.asg 6 (.slcH (.loc 5) (.bin .Add (.lit (.int 6)) (.bin .Mod (.loc 1) (.lit (.int 2))))))) Pd
noncomputable def Pf:NP:=.cons (.blk (.asg 5 (.call 612 (.cons (.call 607 (.cons (.loc 0) (.cons (.call 272 (.cons (.loc 4) .nil)) .nil))) .nil)))) Pe
noncomputable def Pg:NP:=.cons (.asgc 4 420 (.cons (.loc 2) (.cons (.lit (.int 7)) .nil))) Pf
noncomputable def Ph:NP:=.cons (.first [2,3]) Pg
noncomputable def Pj:NP:=.cons (.blk (.asg 1 (.call 600 (.cons (.loc 0) (.cons (.lit (.int 0)) .nil))))) Ph
noncomputable def MX:NP:=.cons (.blk (.asg 0 (.slcH (.loc 0) (.lit (.int 63))))) Pj
noncomputable def i7:xU:=⟨629,["script","x","objset","own","zap","rows","some","begin","first","name","number","head","names","k"],1,MX⟩
noncomputable def adf:List xU:=[pB,mD,pC,lD,tp,tu,i7]
theorem o9(p:Params):adf.all (rb (KF p))=true:=by kernel_rfl
theorem Et(G:GX):rb G.K pB=true:=aS.mp (o9 G.w.params) pB (aH (i:=0) rfl)
theorem AG(G:GX):rb G.K mD=true:=aS.mp (o9 G.w.params) mD (aH (i:=1) rfl)
theorem Eu(G:GX):rb G.K pC=true:=aS.mp (o9 G.w.params) pC (aH (i:=2) rfl)
theorem zq(G:GX):rb G.K lD=true:=aS.mp (o9 G.w.params) lD (aH (i:=3) rfl)
theorem IW(G:GX):rb G.K tp=true:=aS.mp (o9 G.w.params) tp (aH (i:=4) rfl)
theorem IX(G:GX):rb G.K tu=true:=aS.mp (o9 G.w.params) tu (aH (i:=5) rfl)
theorem RW(G:GX):rb G.K i7=true:=aS.mp (o9 G.w.params) i7 (aH (i:=6) rfl)
def IY(G:GX)(d:xU):Prop:=∀vs:List Value,vs.length=d.np->∀X,fL G.K X d.f ⟨vs,[]⟩=some (d.aD.zip vs)
section
theorem IZ:IY G pB:=λvs hv X=>let⟨a,hh⟩:=TC hv;hh▸by kernel_rfl
theorem Ew:IY G mD:=λvs hv X=>let⟨a,b,c,hh⟩:=OS hv;hh▸by kernel_rfl
theorem I0:IY G pC:=λvs hv X=>let⟨a,b,hh⟩:=TF hv;hh▸by kernel_rfl
theorem B7:IY G lD:=λvs hv X=>let⟨a,b,c,hh⟩:=OS hv;hh▸by kernel_rfl
theorem MY:IY G tp:=λvs hv X=>let⟨a,b,hh⟩:=TF hv;hh▸by kernel_rfl
theorem MZ:IY G tu:=λvs hv X=>LA (Yn hv) λa b c d hh=>hh▸by kernel_rfl
theorem YT:IY G i7:=λvs hv X=>let⟨a,hh⟩:=TC hv;hh▸by kernel_rfl
end
structure SK(S:St)(x dx a:Nat)(y:List UInt8):Prop where
 o:OA S x dx .kn [(.bZ,.ref a)]
 b:S[a]? =some (.barr y)
theorem SK.put(h:SK S x dx a y)(y':List UInt8):SK (S.set a (.barr y')) x dx a y' where
 o:=⟨by rw[oy (by rintro rfl;have:=h.b;rw[h.o.i]at this;cases this)];exact h.o.i,by rw[oy (by rintro rfl;have:=h.b;rw[h.o.d]at this;cases this)];exact h.o.d⟩
 b:=ow (bP.mp h.b).1
section
variable {Q:PV->St->Prop}
theorem JK(h:OA S x dx .kn [])(q:Q .none ((S++[AO.barr []]).set dx (.aA .kn [(.bZ,.ref S.length)]))):dB G ⟨n+1,hn⟩ 123 [.ref x] S Q:=by
 refine Ld (Et G) rfl IZ λhS z=>?_;show eZ _ _ tT [some (.ref x)] _ _;unfold tT;walk_at "n";obtain i1:=(bP.mp h.i).1;obtain i2:=(bP.mp h.d).1;refine bC (x:=x) (dx:=dx) ((eH i1).trans h.i) ((eH i2).trans h.d) (by decide) (by decide) ?_;walk_at "n";exact .same q
theorem jR(h:SK S x dx a y)(hv:v<256^k)(hk:k<=8)(hl:y.length<=90000)(q:Q .none (S.set a (.barr (y++le k v)))):dB G ⟨n+2,true⟩ 130 [.ref x,.int v,.int k] S Q:=by
 refine Ld (AG G) rfl Ew λhS z=>?_;show eZ _ _ qx [some (.ref x),some (.int v),some (.int k)] _ _;unfold qx;walk_at "n";refine aI h.o.i h.o.d rfl ?_;walk_at "n";refine⟨⟨_,h.b⟩,cf hv hk ⟨_,y,rfl,h.b,by rw[aQ];exact ag 0x28f3c585376bcb3154df01d1d7bf4510b hk hl,?_⟩⟩;walk_at "n";exact .same q
theorem JL(h:SK S x dx a y)(ht:hG t)(hz:t.cps.size<=255)(hl:y.length<=80000)(q:Q .none (S.set a (.barr (y++(UInt8.ofNat t.cps.size::pI t))))):dB G ⟨n+3,true⟩ 144 [.ref x,.str t] S Q:=by
 refine Ld (Eu G) rfl I0 λhS z=>?_;show eZ _ _ tU [some (.ref x),some (.str t),none] _ _;unfold tU;obtain ek:sz=16777216:=rfl;walk_at "n";refine qr ht hz ?_;walk_at "n";refine bo h.o.i h.o.d rfl ?_;walk_at "n";refine⟨by rw[dI];exact ab hz (by decide),?_⟩;rw[dI];walk_at "n";refine jR (k:=1) h (rl hz) (by decide) (ab hl (by decide)) ?_;obtain h':=h.put (y++le 1 t.cps.size);walk_at "n";refine aI h'.o.i h'.o.d rfl ?_;walk_at "n";refine⟨⟨_,h'.b⟩,_,_,rfl,h'.b,by simp[aQ,dI];exact ag 0x2facb7665ed57e167d24dc3048b193ad9a5e127b hz hl,?_⟩;walk_at "n";rw[mW,aw];exact .same q
theorem I1(h:SK S x dx a y)(hl:y.length<=100000)(q:Q (.bytes y) S):aT G ⟨n+1,hn⟩ 151 [.ref x] S Q:=by
 refine dF (Bx G) rfl FZ λhS z=>?_;show bI _ _ sj [some (.ref x)] _ _;unfold sj;obtain ek:sz=16777216:=rfl;walk_at "n";refine aI h.o.i h.o.d rfl ?_;walk_at "n";exact .inl ⟨_,h.b,ab hl (by decide),.same q⟩
theorem YU{K:Fl->a9->St->Prop}(aC:b9)(hi:∀KK:b9->St->Prop,KK aC S->qy G lv it its l S KK)(I:Nat->a9->St->Prop)(h0:I 0 l S)(cD:∀k l' S',I k l' S'->aC.nh S')
  (iP:∀k l' S' d (KB:Fl->a9->St->Prop),I k l' S'->aC.items[k]? =some d->(∀l₂ af bN aL,gA S l₂ af bN aL->I (k+1) bN aL->KB .next l₂ af)->(∀d l₂ af,K (.ret d) l₂ af->KB (.ret d) l₂ af)->fJ is tup d l' λl₁=>eZ G lv b l₁ S' KB)
  (oX:∀l' S',I aC.items.length l' S'->K .next l' S'):eZ G lv (.forr is tup it its b) l S K :=
 MW.mpr (hi _ ⟨I,h0,cD,λk l' S' d hI hd=>iP k l' S' d _ hI hd (λl₂ af bN aL a b=>⟨bN,aL,a,b⟩) λz z z q=>q,oX⟩)
noncomputable def SS(S:St)(y:List UInt8):St:=S++[.aA .kn [(.bZ,.ref (S.length+2))],.bc .kn S.length,.barr y]
theorem ir:SK (SS S y) (S.length+1) S.length (S.length+2) y:=⟨⟨by simp[SS],by simp[SS]⟩,by simp[SS]⟩
theorem xX:(SS S y).set (S.length+2) (.barr y')=SS S y':=by
 unfold SS;rw[kl _ _ (cT _ _),ou];rfl
theorem I2(rows:List aM)(h:∀r∈rows,gK r):(cA rows).length<=264*rows.length:=by
 induction rows with
 | nil=>exact aB _
 | cons r t ih =>
  obtain h1:=ih λx hx=>h x (.tail _ hx);obtain h2:=(h r (.head _)).2.1;show(jQ r++cA t).length<=264*(t.length+1);rw[aW,qv];exact az 0x1d0c5d07dc996bc45d3bc9a99a128fe46c763e29433 h1 h2
theorem u4(hi:S[i]? =some (.list (rows.map ay)))(cD:∀r∈rows,gK r)(hl:rows.length<=40)(hs:salt<4294967296)(hz:z<=1000)
  (q1:7+(cA rows).length<=z->Q (.bytes (i0 salt rows (z-(7+(cA rows).length)))) S) (q2:z<7+(cA rows).length->Q .none S):dB G ⟨n+4,true⟩ 286 [.int salt,.ref i,.int z] S Q:=by
 refine Ld (zq G) rfl B7 λhS x=>?_;show eZ _ _ o8 [some (.int salt),some (.ref i),some (.int z),none,none,none,none] _ _;unfold o8;obtain ek:sz=16777216:=rfl;obtain hml:=I2 rows cD;obtain il:=(bP.mp hi).1;have iu:∀y,(SS S y)[i]? =some (.list (rows.map ay)):=λy=>(eH il).trans hi;walk_at "n";refine⟨iJ 1 (n+2),JK (dx:=S.length) OA.new ⟨rfl,?_⟩⟩;obtain e0:((S++[AO.aA .kn [],AO.bc .kn S.length])++[AO.barr []]).set S.length (.aA .kn [(.bZ,.ref (S++[AO.aA .kn [],AO.bc .kn S.length]).length)])=SS S []:=by
  rw[aw,kl _ _ (aB _),gw,aW];rfl
 rw[e0];walk_at "n";refine bo ir.o.i ir.o.d rfl ?_;walk_at "n";refine jR (v:=1) (k:=1) ir (by decide) (by decide) (by simp) ?_;rw[xX];walk_at "n";refine bo ir.o.i ir.o.d rfl ?_;walk_at "n";refine jR (k:=4) ir (hs) (by decide) (by simp[aQ]) ?_;rw[xX];walk_at "n";refine bo ir.o.i ir.o.d rfl ?_;walk_at "n";refine lZ (iu _) ?_ ?_
 ·simp;exact ab hl (by decide)
 rw[aK];walk_at "n";refine jR (v:=rows.length) (k:=2) ir (a6 hl (by decide)) (by decide) (by simp[aQ]) ?_;rw[xX];walk_at "n";refine YU (.list i (rows.map ay)) (λKK h'=>?_) (λk l' S'=>k<=rows.length/\S'=SS S (le 1 1++(le 4 salt++(le 2 rows.length++cA (rows.take k))))/\∃w4 w5,l'=[some (.int salt),some (.ref i),some (.int z),some (.ref (S.length+1)),w4,w5,none]) ⟨bM _,by simp[cA],_,_,rfl⟩ (λk l' S' hI=>?_) (λk l' S' d KB hI hd kg x=>?_) (λl' S' hI=>?_)
 ·walk_at "n";exact eY (iu _) (by simp;exact ab hl (by decide)) h'
 ·refine jL hI λx dc x=>?_;obtain rfl:=dc;exact iu _
 ·refine Gf hI λhk dn w4 w5 dX=>?_;obtain rfl:=dn;obtain rfl:=dX;have fq:k<rows.length:=by
   obtain this:k<(rows.map ay).length:=(bP.mp hd).1;simpa using this
  obtain rfl:ay rows[k]=d:=by
   have:(rows.map ay)[k]? =some d:=hd;simpa [fq]using this
  refine jL (cD rows[k] (jb fq)) λh1 h2 h3=>?_;obtain e1:rows.take (k+1)=rows.take k++[rows[k]]:=by rw[iG];simp[fq]
  obtain hm:=I2 (rows.take k) λr hr=>cD r (lR hr);obtain KH:(rows.take k).length<=rows.length:=List.length_take_le' _ _;refine MB rfl ?_;walk_at "n";refine bo ir.o.i ir.o.d rfl ?_;walk_at "n";refine JL ir h1 h2 (by simp[aQ];exact az 0x4b37a5b3f3e819440808ebfd7941deeb20eda41935ce43964089db3faf68b hl hm KH) ?_;rw[xX];walk_at "n";refine bo ir.o.i ir.o.d rfl ?_;walk_at "n";refine jR (k:=8) ir (h3) (by decide) (by simp[aQ,dI];exact bO 0x13e8ed69cbedcff7b8dc7b86d0026813d04a44430ddb4b1772e46ddf6ad0c47e98b9481ae968b hl h2 hm KH) ?_;rw[xX];walk_at "n";refine kg _ _ _ _ (gA.refl _ _ _) ⟨fq,?_,_,_,rfl⟩;rw[e1,Fo];simp only[jQ,aw,List.cons_append]
 ·refine Gf hI λx fB w4 w5 gy=>?_;obtain rfl:=fB;obtain rfl:=gy;obtain e0:(b9.list i (rows.map ay)).items.length=rows.length:=aK _;rw[e0,gv];have ey:(le 1 1++(le 4 salt++(le 2 rows.length++cA rows))).length=7+(cA rows).length:=by simp[aQ];exact ah 0x2dca0e42c0435693de53e1e7c3
  walk_at "n";refine bo ir.o.i ir.o.d rfl ?_;walk_at "n";refine I1 ir (az 0x378028ee04c27d8745b9e6dc4c29d0640aabe5d84c1f68b hl hml ey) ?_;walk_at "n";rw[ey];refine⟨ag 0xf70b90005c456d1464aad52b462b1ca089f68b hl hml,MC (λh=>?_) λh=>?_⟩
  ·obtain h:7+(cA rows).length<=z:=by exact ag 0x5d2e4f3cd40504df8e47 h
   walk_at "n";refine Iw (ab (bL ey) h) hz ?_;walk_at "n";rw[ey];obtain eb:le 1 1++(le 4 salt++(le 2 rows.length++cA rows))++List.replicate (z-(7+(cA rows).length)) 0=i0 salt rows (z-(7+(cA rows).length)):=by simp[i0]
   rw[eb];exact dT.kI hS trivial (q1 h)
  ·walk_at "n";exact dT.kI hS trivial (q2 (ag 0x60a0737a9551cab424c7 h))
end
noncomputable def bF(salt:Nat)(N:List aM)(l p:Nat):List aM:=N.filter λr=>decide (aU r.1 salt/2^(32-l)=p)
theorem dv(hl:l<=f)(hf:f<=32):h/2^(32-f)/2^(f-l)=h/2^(32-l):=by
 rw[Ct,<-yM,show 32-f+(f-l)=32-l by exact bu (gd 0x7e36b4a00c5d943091b9ac312e1e50c77b cP (ba (ah 0xfdc4914b0a7217 hf)) (ba (ag 11262715101 hl))) (gd 0x7f73cbee476302b0a6e4d43a2dc3d353fb cP cP (ba (ag 0x1e406143fe9046f36b5 hl hf)))]
theorem Pk(j m:Nat):j/2^(m+1)=j/2^m/2:=by rw[mV,Ct]
theorem kO(x:Str)(salt:Nat){f:Nat}(hf:f<=32):aU x salt/2^(32-f)<2^f:=by
 refine Nat.div_lt_of_lt_mul ?_;rw[<- yM,show 32-f+f=32 by exact ba hf];exact vb x salt
theorem lE:r∈bF salt N l p↔r∈N/\aU r.1 salt/2^(32-l)=p:=by
 unfold bF;rw[eT,jT]
theorem TS(salt:Nat)(rows:List aM)(h:∀r∈rows,r.1.cps.size<=5):(aP salt rows).at_<=16+20*rows.length:=by
 unfold aP
 suffices ∀s:LS,(rows.foldl (fh salt) s).at_<=s.at_+20*rows.length from this _
 induction rows with
 | nil=>intro s;exact aB _
 | cons r rows ih =>
  intro s;obtain h1:=ih (λx hx=>h x (.tail _ hx)) (fh salt s r);obtain h2:=h r (.head _);obtain h3:(fh salt s r).at_=s.at_+15+r.1.cps.size:=rfl;rw[kT,dE];exact gd 0xacc4d00aa034636c6301b630cb39a2f699b50f84dffb86a9 h1 h2 h3
theorem aaw(salt:Nat)(rows:List aM):16+15*rows.length<=(aP salt rows).at_:=by
 unfold aP
 suffices ∀s:LS,s.at_+15*rows.length<=(rows.foldl (fh salt) s).at_ from this ⟨[0,0,0,0],[],16⟩
 induction rows with
 | nil=>intro s;exact aB _
 | cons r rows ih =>
  intro s;obtain h1:=ih (fh salt s r);obtain h3:(fh salt s r).at_=s.at_+15+r.1.cps.size:=rfl;rw[kT,dE];exact gd 0x36cc263ed12e177e7d03e89f0a7737ce400bf03ac711187 h1 h3
structure dN(N:List aM):Prop where
 ok:∀r∈N,hG r.1/\1<=r.1.cps.size/\r.1.cps.size<=5/\r.2<0x10000000000000000
 nd:(N.map (·.1)).Nodup
 l7:N.length<=7
theorem dN.row{N:List aM}(h:dN N){r:aM}(hr:r∈N):gK r:=p9 (h.ok r hr) λa z b c=>⟨a,ab b (by decide),c⟩
theorem dN.sub(h:dN N)(s:M.Sublist N):dN M:=⟨λr hr=>h.ok r (s.subset hr),h.nd.sublist (s.map _),ab s.length_le h.l7⟩
theorem dN.perm(h:dN N)(s:M.Perm N):dN M:=⟨λr hr=>h.ok r (s.mem_iff.mp hr),(s.map _).nodup_iff.mpr h.nd,ab (bL s.length_eq) h.l7⟩
theorem dN.xY{N:List aM}(h:dN N)(salt:Nat){M:List aM}(s:M.Sublist N)(h2:M.length<=2):(aP salt M).at_<=56:=by
 obtain this:=TS salt M λr hr=>(h.ok r (s.subset hr)).2.2.1;exact ag 0x8067305dcca609611e9b02a78a5e13f503 h2 this
noncomputable def u5(salt:Nat)(F:List aM)(lb pre:Nat->Nat)(x:Nat):Nat:=1+(bF salt F (lb x) (pre x)).length/3*(7-lb x)
noncomputable abbrev tv(fb:Nat):Nat:=(4*2^fb+55)/56
structure dR(salt:Nat)(F N:List aM)(b:List UInt8)(fb fe ft:Nat)(tb lb pre:Nat->Nat)(Ls:List Nat):Prop where
 n5:rd b 0 18=di fb salt N.length fe ft
 len:b.length=fe*56
 kK:fb<=7
 te:∀i,i<2^fb->num (rd b (ft*56+4*i) 4)=tb i
 t1:1<=ft
 xZ:ft+tv fb<=fe
 Pl:fe<=2+Ls.length+10*fb
 out:∀x∈Ls,1<=x/\x<fe/\(x<ft∨ft+tv fb<=x)
 nd:Ls.Nodup
 tm:∀i,i<2^fb->tb i∈Ls
 A:∀i,i<2^fb->lb (tb i)<=fb/\pre (tb i)=i/2^(fb-lb (tb i))
 B:∀i j,i<2^fb->j<2^fb->j/2^(fb-lb (tb i))=pre (tb i)->tb j=tb i
 leaf:∀i,i<2^fb->rd b (tb i*56) 56=bG (lb (tb i)) (pre (tb i)) salt (bF salt N (lb (tb i)) (pre (tb i))) 56
 oq:∀i,i<2^fb->(bF salt N (lb (tb i)) (pre (tb i))).length<=2
 wt:(Ls.map (u5 salt F lb pre)).sum<=15
theorem YV(salt:Nat)(F:List aM)(lb pre:Nat->Nat)(Ls:List Nat):Ls.length<=(Ls.map (u5 salt F lb pre)).sum:=by
 induction Ls with
 | nil=>exact aB _
 | cons x r ih =>
  obtain this:1<=u5 salt F lb pre x:=cT _ _;rw[eC,oH,dE];exact az 0x125e1c9841ffc6d53a688d ih this
noncomputable abbrev ix(salt fb:Nat)(name:Str):Nat:=aU name salt/2^(32-fb)
section
variable {Ls:List Nat}
theorem dR.ll(D:dR salt F N b fb fe ft tb lb pre Ls):Ls.length<=15:=ab (YV salt F lb pre Ls) D.wt
theorem RX(h:fb<=7):2^fb<=128:=ox (by decide) h
theorem p1(k:Nat):1<=2^k:=yL (by decide)
theorem dR.rf(D:dR salt F N b fb fe ft tb lb pre Ls):fe<=17+10*fb:=by obtain this:=D.Pl;obtain this:=D.ll;lia
theorem dR.u6(D:dR salt F N b fb fe ft tb lb pre Ls)(name:Str):pre (tb (ix salt fb name))=aU name salt/2^(32-lb (tb (ix salt fb name))):=by
 obtain h7:=D.kK;refine xA (D.A _ (kO name salt (show fb<=32 by exact ab h7 (by decide)))) λh1 h2=>?_;rw[h2,dv h1 (ab h7 (by decide))]
theorem dR.RY(D:dR salt F N b fb fe ft tb lb pre Ls){j:Nat}(hj:j<2^fb)(h:aU name salt/2^(32-lb (tb j))=pre (tb j)):tb (ix salt fb name)=tb j:=by
 obtain h7:=D.kK;refine D.B j _ hj (kO name salt (ab h7 (by decide))) ?_;rw[dv (D.A j hj).1 (ab h7 (by decide)),h]
theorem dR.here(D:dR salt F N b fb fe ft tb lb pre Ls)(hN:dN N)(name:Str):Eh b salt name fb N.length fe ft (tb (ix salt fb name)) (lb (tb (ix salt fb name))) (pre (tb (ix salt fb name))) (bF salt N (lb (tb (ix salt fb name))) (pre (tb (ix salt fb name)))):=by
 obtain h7:=D.kK;have hi:ix salt fb name<2^fb:=kO name salt (ab h7 (by decide));obtain hf:=D.oq _ hi;obtain hp:=RX D.kK;obtain ef:=D.rf;obtain ho:=D.out _ (D.tm _ hi);obtain hA:=D.A _ hi;obtain YW:=D.te _ hi;obtain fH:=D.xZ;obtain hn:=hN.l7;obtain av:=D.len;obtain xJ:=D.leaf _ hi;obtain j0:(bF salt N (lb (tb (ix salt fb name))) (pre (tb (ix salt fb name)))).Sublist N:=gW;obtain p7:=D.t1;generalize hix:ix salt fb name=i at *;have YX:aU name salt/2^(32-fb)=i:=hix;obtain OW:i/2^(fb-lb (tb i))<=i:=Nat.div_le_self _ _;unfold tv at fH ho;generalize 2^fb=P at *;exact {
     n5:=D.n5,ki:=D.kK,u0:=a6 hn (by decide),ef:=ag 0x19adf334b3cbff000596d8c9297e7e32eeb7 h7 ef,lX:=bO 0x1de515c7941a3f2bb0ce559b91d6456d3235d2aeeb7 h7 ef fH,len:=az 0xc9e8fc5572a1979603b0bad8501e9f78ab4f2b33ed1e370e6aec0b7 h7 ef av,TK:=by rw[YX];exact YW,Gu:=by rw[YX];exact uH 0x2573d1cf6b1d14eabaf84afa34b020cf78a5a03b610de521f8d73654b680d0805b7077a29e62b0941 av fH hi (dU _ (by decide)),hl:=az 0x2facb8106e6e7ff98e83dfd69e8c542d8a0aeeb7 h7 ef ho.2.1,TL:=az 0x2f04bfdbb9e220e0c24177784aa83fcf1142b941 av ho.2.1,leaf:=xJ
     ok:=λx hx=>hN.row (j0.subset hx),nd:=hN.nd.sublist (j0.map _),at_:=hN.xY salt j0 hf,oq:=ab hf (by decide),oo:=hA.1,fM:=bO 0x453a6ba6f69e4fe79aa0cfd91b5b3d hA.2 OW hp hi,TM:=by exact az 0x1cb3b516e85b9fc43a8c12a92322de47cb30fb2d941 av ho.1 ho.2.1}
end
section
variable {Ls:List Nat}
theorem dR.set(D:dR salt F N b fb fe ft tb lb pre Ls){i:Nat}(hi:i<2^fb)(ho:∀j,j<2^fb->tb j≠tb i->bF salt N' (lb (tb j)) (pre (tb j))=bF salt N (lb (tb j)) (pre (tb j)))
  (h2:(bF salt N' (lb (tb i)) (pre (tb i))).length<=2) (gk:(aP salt (bF salt N' (lb (tb i)) (pre (tb i)))).at_<=56) :
  dR salt F N' (bk (bk b (tb i*56) (bG (lb (tb i)) (pre (tb i)) salt (bF salt N' (lb (tb i)) (pre (tb i))) 56)) 0 (di fb salt N'.length fe ft)) fb fe ft tb lb pre Ls:=by
 have hL:=cL (lb (tb i)) (pre (tb i)) salt (bF salt N' (lb (tb i)) (pre (tb i))) 56 gk;have hH:=gU fb salt N'.length fe ft;have mK:=D.out _ (D.tm _ hi);have av:=D.len;obtain fH:=D.xZ;obtain p7:=D.t1;generalize xJ:bG (lb (tb i)) (pre (tb i)) salt (bF salt N' (lb (tb i)) (pre (tb i))) 56=lf at *;generalize oj:di fb salt N'.length fe ft=hd at *;obtain wz:(bk b (tb i*56) lf).length=b.length:=o6 (az 0x7e5c91f6616e02af7e1d4f902b2ec881b1 mK.2.1 av) (bO 0x59c79fa642c084d2874f743eeb465ed5f6045d1e81b1 mK.2.1 av hL) (by lia);obtain Fp:(bk (bk b (tb i*56) lf) 0 hd).length=b.length:=by rw[o6 (bM (Mine.bk b (tb i*56) lf).length) (gd 0x79cf29c70e6afbb942b4b94a37785229dbb9bb6892f739ae499cc455b3 mK.1 mK.2.1 av hH wz) (by lia),wz]
 have g2:∀j k,18<=j->j+k<=b.length->rd (bk (bk b (tb i*56) lf) 0 hd) j k=rd (bk b (tb i*56) lf) j k:=λj k h1 h2=>gS (bM (Mine.bk b (tb i*56) lf).length) (.inr (ag 0x12330b6f50cd7e81c5a85f hH h1)) (bO 0x38d771e65eb112db4a412d5 wz h2);have g1:∀j k,(j+k<=tb i*56∨tb i*56+56<=j)->j+k<=b.length->rd (bk b (tb i*56) lf) j k=rd b j k:=λj k h1 h2=>gS (by exact az 0x7e5c91f6616e02af7e1d4f902b2ec881b1 mK.2.1 av) (by lia) (by exact h2);refine {D with n5:=?_,len:=Fp.trans D.len,te:=λj hj=>?_,leaf:=λj hj=>?_,oq:=λj hj=>?_}
 ·obtain this:=ik (b:=bk b (tb i*56) lf) (o:=hd) (i:=0) (bM _);rw[hH]at this;rw[this,oj]
 ·rw[<- D.te j hj,g2 _ _ (by exact ag 0xd0dd278b700641a298414748bce43b3 p7) (by lia),g1 _ _ (by lia) (by lia)]
 ·obtain zG:=D.out _ (D.tm _ hj);rw[g2 _ _ (by exact ah 0xb3ecb50f2d32b75c08cd43b3 zG.1) (by exact az 0x2f04bfdbb9e220e0c24177784aa83fcf1142b941 av zG.2.1)];by_cases he:tb j=tb i
  ·rw[he,xJ];obtain this:=ik (b:=b) (o:=lf) (i:=tb i*56) (az 0x7e5c91f6616e02af7e1d4f902b2ec881b1 mK.2.1 av);rw[hL]at this;exact this
  ·rw[g1 _ _ (by lia) (by exact az 0x2f04bfdbb9e220e0c24177784aa83fcf1142b941 av zG.2.1),D.leaf j hj,ho j hj he]
 ·by_cases he:tb j=tb i
  ·rw[he];exact h2
  ·rw[ho j hj he];exact D.oq j hj
theorem ze(salt l p:Nat)(N M:List aM):bF salt (N++M) l p=bF salt N l p++bF salt M l p:=List.filter_append _ _
theorem Lf(h:aU r.1 salt/2^(32-l)=p):bF salt [r] l p=[r]:=yq.mpr λq hq=>by rw[aV.mp hq];exact cH h
theorem YY(h:aU r.1 salt/2^(32-l)≠p):bF salt [r] l p=[]:=List.filter_eq_nil_iff.mpr λq hq=>by rw[aV.mp hq,jT];exact h
theorem x3(h:∀r∈N,r.1≠name):aZ name N=N:=yq.mpr λr hr=>cH (h r hr)
theorem vZ(salt l p:Nat)(N:List aM):bF salt (aZ name N) l p=aZ name (bF salt N l p):=by unfold bF aZ;rw[yt,yt];exact kS λr z=>Bool.and_comm _ _
theorem jy(N:List aM):(aZ name N).Sublist N:=gW
theorem dR.Fh(D:dR salt F N b fb fe ft tb lb pre Ls){number:Nat}(hN:dN (N++[(name,number)]))(h1:(bF salt N (lb (tb (ix salt fb name))) (pre (tb (ix salt fb name)))).length<=1) :
  dR salt F (N++[(name,number)]) (bk (bk b (tb (ix salt fb name)*56) (bG (lb (tb (ix salt fb name))) (pre (tb (ix salt fb name))) salt (bF salt N (lb (tb (ix salt fb name))) (pre (tb (ix salt fb name)))++[(name,number)]) 56)) 0 (di fb salt (N.length+1) fe ft)) fb fe ft tb lb pre Ls:=by
 have e:bF salt (N++[(name,number)]) (lb (tb (ix salt fb name))) (pre (tb (ix salt fb name)))=bF salt N (lb (tb (ix salt fb name))) (pre (tb (ix salt fb name)))++[(name,number)]:=by
  rw[ze,Lf (r:=(name,number)) (D.u6 name).symm]
 obtain hl:(bF salt (N++[(name,number)]) (lb (tb (ix salt fb name))) (pre (tb (ix salt fb name)))).length<=2:=by rw[e,aW];exact uh h1
 obtain hi:ix salt fb name<2^fb:=kO name salt (by obtain this:=D.kK;exact ab this (by decide));have:=D.set (N':=N++[(name,number)]) hi (λj hj ei=>?_) hl (hN.xY salt gW hl)
 ·rw[e,aW]at this;exact this
 ·rw[ze,YY (r:=(name,number)) (λh=>ei (D.RY hj h).symm),kU]
theorem dR.take(D:dR salt F N b fb fe ft tb lb pre Ls)(hN:dN N) :
  dR salt F (aZ name N) (bk (bk b (tb (ix salt fb name)*56) (bG (lb (tb (ix salt fb name))) (pre (tb (ix salt fb name))) salt (aZ name (bF salt N (lb (tb (ix salt fb name))) (pre (tb (ix salt fb name))))) 56)) 0 (di fb salt (aZ name N).length fe ft)) fb fe ft tb lb pre Ls:=by
 have hi:ix salt fb name<2^fb:=kO name salt (by obtain this:=D.kK;exact ab this (by decide));obtain hl:(bF salt (aZ name N) (lb (tb (ix salt fb name))) (pre (tb (ix salt fb name)))).length<=2:=ab (by rw[vZ];exact(jy _).length_le) (D.oq _ hi);have:=D.set (N':=aZ name N) hi (λj hj ei=>?_) hl (hN.xY salt (gW.trans (jy _)) hl)
 ·rw[vZ]at this;exact this
 ·rw[vZ];refine x3 λr hr e=>ei ?_;obtain this:=(lE.mp hr).2;rw[e]at this;exact(D.RY hj this).symm
end
theorem Ex:∀{l:List Nat} {j:Nat},l[j]? =some i->rd ((l.map (le 4)).flatten) (4*j) 4=le 4 i
 | [],_,h=>nomatch h
 | a::r,0,h=>by
  obtain rfl:a=i:=Option.some.inj h;have hl:=aQ 4 a;unfold rd;rw[eC,ud,Nat.mul_zero,oF,uo hl]
 | a::r,j+1,h=>by
  obtain hl:=aQ 4 a;have:=Ex (l:=r) (j:=j) h;unfold rd at this ⊢;rw[eC,ud,show 4*(j+1)=4+4*j by exact ah 0x2dca0e43dafcc733ca3544fc11,<-oG,mU hl];exact this
section
variable {Ls:List Nat}
theorem RZ(hi:i<2^(fb+1)):(lK ((List.range (2^fb)).map tb))[i]? =some (tb (i/2)):=by
 obtain h2:i/2<2^fb:=by rw[mV]at hi;exact az 0x2cd876e3c10273cc9524817ac9 hi (cI _ _)
 unfold lK;rw[aK,gc,cv,yp (by rw[mV]at hi;exact ag 0x9ea753f459331e649 hi)];simp[List.getD,h2]
theorem dR.eD(D:dR salt F N b fb fe ft tb lb pre Ls)(h6:fb<7):dR salt F N (vX b salt fb N.length fe ((List.range (2^fb)).map tb)) (fb+1) (fe+(4*(2*((List.range (2^fb)).map tb).length)+55)/56) fe (λi=>tb (i/2)) lb pre Ls:=by
 have qC:(lK ((List.range (2^fb)).map tb)).length=2*2^fb:=by simp[lK]
 obtain BU:=TH (lK ((List.range (2^fb)).map tb));have av:=D.len;obtain hp:=RX (fb:=fb) (by exact cZ h6);have hp6:2^fb<=2^6:=ox (by decide) (by exact iF h6);have Tx:=p1 fb;have e2:2^(fb+1)=2*2^fb:=by rw[mV,uz]
 obtain hT:∀i,i<2^(fb+1)->rd (((lK ((List.range (2^fb)).map tb)).map (le 4)).flatten) (4*i) 4=le 4 (tb (i/2)):=λi hi=>Ex (RZ hi);obtain bz:∀i,i<2^fb->tb i<256^4:=λi hi=>by obtain this:=(D.out _ (D.tm i hi)).2.1;obtain this:=D.rf;lia
 have fH:=D.xZ;have p7:=D.t1;obtain adg:=D.Pl;have v3:∀i,i<2^(fb+1)->i/2<2^fb:=λi hi=>by exact bO 0x55893f83b13e7a691f5c5b50c6d153 e2 hi (cI _ _)
 have etb:tv (fb+1)=(4*(2*2^fb)+55)/56:=by unfold tv;rw[e2]
 rw[aK,gc];unfold vX;rw[aK,gc];obtain hH:=gU (fb+1) salt N.length (fe+(4*(2*2^fb)+55)/56) fe;generalize oj:di (fb+1) salt N.length (fe+(4*(2*2^fb)+55)/56) fe=hd at *;generalize hTT:((lK ((List.range (2^fb)).map tb)).map (le 4)).flatten=TT at *;rw[qC]at BU;have wz:(bk b (fe*56) TT).length=(fe+(4*(2*2^fb)+55)/56)*56:=by
  rw[<- av,zc (by lia),BU,av];exact ag 0x110ece5e0bfd21337fbd1625d94cc61f
 obtain Fp:(bk (bk b (fe*56) TT) 0 hd).length=(fe+(4*(2*2^fb)+55)/56)*56:=by rw[o6 (by exact bM (Mine.bk b (fe*56) TT).length) (by exact uH 0xc7927e9c8f39cb1211737f6d6cdeb4a7bf02f616e132ca989fd9ee9 fH p7 hH wz) (by lia),wz]
 have g2:∀j k,18<=j->j+k<=(fe+(4*(2*2^fb)+55)/56)*56->rd (bk (bk b (fe*56) TT) 0 hd) j k=rd (bk b (fe*56) TT) j k:=λj k h1 h2=>gS (by exact bM (Mine.bk b (fe*56) TT).length) (by exact .inr (ag 0x12330b6f50cd7e81c5a85f hH h1)) (by exact gd 0x2f04ad0486e020adee6a673d97bdb35bc3ab0f79 wz h2);obtain g1:∀j k,j+k<=b.length->rd (bk b (fe*56) TT) j k=rd b j k:=λj k h2=>gS (by exact ag 0xb1a413fc8ada044c5e1aad41 av) (by exact .inl (bO 0x4306f359fa18683ec1ade5f3512f41 av h2)) (by exact h2);obtain gT:=ik (b:=b) (o:=TT) (i:=fe*56) (by exact ag 0xb1a413fc8ada044c5e1aad41 av);have TU:∀i l,l<=fb->(i/2)/2^(fb-l)=i/2^(fb+1-l):=λi l h=>by rw[Ct,show fb+1-l=fb-l+1 by exact bu (bO 0x6d829b5dd8fd5cc706658bdfb09 cP (ba (ag 0x50cde384a3abd h))) (bO 0x6c7a3afb6be9703e07373451427 cP (ba (ag 11262715101 h))),mV,uz]
 generalize O6:(4*(2*2^fb)+55)/56=nb at *;obtain aax:nb<=10:=by exact az 0x9d61fa0d04b9ee730834cd6678b3b2b1733e8de9aa99b8d6ee1ae881b3 hp6 O6 (cI _ _)
 exact {
     nd:=D.nd,wt:=D.wt,t1:=by exact ab (ab p7 (cT ft (Mine.tv fb))) fH,len:=Fp,kK:=h6,xZ:=by exact Nat.add_le_add (aB fe) (bL etb),Pl:=by exact bO 0xacc4d00aa03441675f7e11c5f9052acfce967763a15db0f3 adg aax
     n5:=by
      obtain this:=ik (b:=bk b (fe*56) TT) (o:=hd) (i:=0) (bM _);rw[hH]at this;rw[this,oj]
     te:=λi hi=>by
      rw[g2 _ _ (by exact bO 0x5a948f401110d3abe2c57413d10350586a73a9079ee9 fH p7) (by exact uH 0x8a02acb1ed85b9d65f3bff2c58f3add0cbcd5d8dc047c89c631cbf74b160d569c543a755620c49e7d18558e53 e2 O6 hi (dU _ (by decide))),<-q0 (k:=TT.length) (by exact bO 0x68849d230eb98fa83ce5e625d05e448ff4a661a97e9408b0253 e2 BU hi),gT,hT i hi,gf _ _ (bz _ (v3 i hi))]
     out:=λx hx=>by obtain this:=D.out x hx;exact⟨ah 28149223253875 this.1,⟨az 29204075217601 this.2.1,.inl (ag 11575217601 this.2.1)⟩⟩
     tm:=λi hi=>D.tm _ (v3 i hi)
     A:=λi hi=>by
      refine xA (D.A _ (v3 i hi)) λh1 h2=>?_;exact⟨by exact oB h1,by rw[h2,TU _ _ h1]⟩
     B:=λi j hi hj h=>by
      obtain h1:=(D.A _ (v3 i hi)).1;exact D.B _ _ (v3 i hi) (v3 j hj) (by rw[TU _ _ h1];exact h)
     leaf:=λi hi=>by
      obtain zG:=D.out _ (D.tm _ (v3 i hi));rw[g2 _ _ (by exact ah 0xb3ecb50f2d32b75c08cd43b3 zG.1) (by exact az 0x7fd819db192173013a5c569abb937e8fb1 zG.2.1),g1 _ _ (by exact az 0x2f04bfdbb9e220e0c24177784aa83fcf1142b941 av zG.2.1)];exact D.leaf _ (v3 i hi)
     oq:=λi hi=>D.oq _ (v3 i hi)}
end
theorem Lg{f g:Nat->Nat}:∀{Ls:List Nat},Ls.Nodup->x∈Ls->(∀y∈Ls,y≠x->g y=f y)->(Ls.map g).sum+f x=(Ls.map f).sum+g x
 | a::r,nd,hx,h=>by
  obtain nd':=fQ.mp nd;rw[eC,oH,eC,oH];by_cases e:a=x
  ·subst e;obtain this:r.map g=r.map f:=kP λy hy=>h y (.tail _ hy) (by rintro rfl;exact nd'.1 hy);rw[this];exact az 0x7aea2757ff17f4918059
  ·obtain this:=Lg nd'.2 ((bK.mp hx).resolve_left (cM e)) λy hy=>h y (.tail _ hy);rw[h a (.head _) e];exact gd 0x57560c0385b66ec11c605e4c660969 this
theorem B8(p:α->Bool)(xs:List α):xs.length=(xs.filter p).length+(xs.filter λa=>!p a).length:=by
 induction xs with
 | nil=>rfl
 | cons a r ih=>cases h:p a<;>simp[h,ih]<;>lia
theorem VM(hq:q=2*p∨q=2*p+1):Z=q↔Z%2=q%2/\Z/2=p:=by
 obtain hd:q/2=p:=by rcases hq with e | e<;>rw[e]<;>lia
 refine⟨λe=>⟨e▸rfl,e▸hd⟩,λh=>?_⟩;rw[<- Nat.div_add_mod Z 2,h.1,h.2,<-hd];exact Nat.div_add_mod q 2
theorem I3(N:List aM)(hl:l<32)(hq:q=2*p∨q=2*p+1):bF salt N (l+1) q=(bF salt N l p).filter λr=>decide (aU r.1 salt/2^(32-(l+1))%2=q%2):=by
 unfold bF;rw[yt];refine kS λr z=>?_;obtain e:aU r.1 salt/2^(32-l)=aU r.1 salt/2^(32-(l+1))/2:=by rw[<- Pk,show 32-(l+1)+1=32-l by exact bu (az 0x28637a2e58976ea7551bb0cce46eaf97b cP (ba (ah 0x1e40616b8f40a49cc27 hl))) (az 0x28cbb471f7f84b69e533ce10a911c94fb cP (ba (ah 0xfdc4914b69d027 hl)))]
 rw[e,<-Bool.decide_and];exact oC.mpr (VM hq)
theorem AH(N:List aM)(hl:l<32):(bF salt N l p).filter (j5 salt l)=bF salt N (l+1) (2*p+1):=by
 rw[I3 N hl (.inr rfl)];exact kS λr z=>oC.mpr (by lia)
theorem x4(N:List aM)(hl:l<32):((bF salt N l p).filter λr=>!j5 salt l r)=bF salt N (l+1) (2*p):=by
 rw[I3 N hl (.inl rfl)];exact kS λr z=>by unfold j5;rw[<- decide_not];exact oC.mpr (by lia)
theorem VN(N:List aM)(hl:l<32):(bF salt N l p).length=(bF salt N (l+1) (2*p+1)).length+(bF salt N (l+1) (2*p)).length:=by
 rw[<- AH N hl,<-x4 N hl];exact B8 _ _
theorem YZ(h:n=n1+n0)(h3:3<=n):(1+n1/3*k)+(1+n0/3*k)<=1+n/3*(k+1):=by
 obtain h1:=Nat.mul_le_mul_right k (show n1/3+n0/3<=n/3 by exact uH 0x1a5e81ddb1d36178b45a5a94604731a519acb77d1828bc7910cc9 h (cI _ _) (cI _ _) (dU _ (by decide)));rw[Nat.add_mul]at h1;rw[Nat.mul_add];exact gd 0x5fee341bf6c74e6e8019fd15b56eeaca431e6be26ecb53f29b8c7d64cffe7 h3 h1 (dU _ (by decide))
noncomputable def x6(k p y:Nat)(tb:Nat->Nat)(j:Nat):Nat:=if j/2^k=2*p+1 then y else tb j
noncomputable def zH(l x y:Nat)(lb:Nat->Nat)(z:Nat):Nat:=if z=x∨z=y then l+1 else lb z
noncomputable def wa(p x y:Nat)(pre:Nat->Nat)(z:Nat):Nat:=if z=y then 2*p+1 else if z=x then 2*p else pre z
section
theorem M0:zH l x y lb x=l+1:=au (.inl rfl)
theorem M1:zH l x y lb y=l+1:=au (.inr rfl)
theorem TV(h:z≠x)(h':z≠y):zH l x y lb z=lb z:=ai λe=>e.elim h h'
theorem Pm:wa p x y pre y=2*p+1:=au rfl
theorem Pn(h:x≠y):wa p x y pre x=2*p:=(ai h).trans (au rfl)
theorem Po(h:z≠x)(h':z≠y):wa p x y pre z=pre z:=(ai h').trans (ai h)
end
section
variable {Ls:List Nat}
theorem dR.iff(D:dR salt F N b fb fe ft tb lb pre Ls){i j:Nat}(hi:i<2^fb)(hj:j<2^fb):tb j=tb i↔j/2^(fb-lb (tb i))=pre (tb i) :=
 ⟨λe=>by rw[<- e];exact(D.A j hj).2.symm,D.B i j hi hj⟩
theorem Y0(hi:i<2^fb)(hl:l<fb):(2*(i/2^(fb-l))+1)*2^(fb-l-1)+2^(fb-l-1)<=2^fb:=by
 obtain h1:i/2^(fb-l)<2^l:=by
  refine Nat.div_lt_of_lt_mul ?_;rw[<- yM,show fb-l+l=fb by exact ba (cZ hl)];exact hi
 obtain h4:2^l*2^(fb-l)=2^fb:=by rw[<- yM,show l+(fb-l)=fb by exact bu (az 0xfa44f164482c29 (ba (ag 11262717601 hl))) (az 0xfc71537677f529 cP)]
 obtain⟨k,hk⟩:∃k,fb-l=k+1:=⟨fb-l-1,by exact bu (ag 0x9a1f339cd5b609811 cP) (ag 0x98ab1ff07fc8fd287 (ba (az 0x98c4434bc1ff12159 hl cP)))⟩;rw[hk]at h1 h4 ⊢;rw[CP,<-h4];generalize i/2^(k+1)=q at *;obtain h2:=Nat.mul_le_mul_right (2^(k+1)) (show q+1<=2^l from h1);refine ab (bL ?_) h2;rw[<- Nat.succ_mul,mV,uz (2^k) 2,<-Nat.mul_assoc]
 congr 1
 exact ah 0x57560c1e8da3ea7159c6e9d793b3fd
theorem aay(hm:0<m):j/m=c↔c*m<=j/\j<c*m+m:=by
 obtain h1:=Nat.le_div_iff_mul_le (x:=c) (y:=j) hm;obtain h2:=Nat.div_lt_iff_lt_mul (x:=j) (y:=c+1) hm;rw[Nat.succ_mul]at h2;lia
theorem VO(hb:b.length=fe*56)(hh:hd.length=18)(h0:l0.length=56)(h1:l1.length=56)(hR:R.length=m)(hx:1<=x)(Lh:x<fe)(hp:x*56+56<=p∨p+m<=x*56)(Ff:56<=p)(zA:p+m<=fe*56) :
  (bk (bk (bk (bk b 0 hd) (x*56) l0) (fe*56) l1) p R).length=(fe+1)*56/\rd (bk (bk (bk (bk b 0 hd) (x*56) l0) (fe*56) l1) p R) 0 18=hd/\rd (bk (bk (bk (bk b 0 hd) (x*56) l0) (fe*56) l1) p R) (x*56) 56=l0 /\
   rd (bk (bk (bk (bk b 0 hd) (x*56) l0) (fe*56) l1) p R) (fe*56) 56=l1/\rd (bk (bk (bk (bk b 0 hd) (x*56) l0) (fe*56) l1) p R) p m=R /\
   ∀j q,18<=j->j+q<=fe*56->(j+q<=x*56∨x*56+56<=j)->(j+q<=p∨p+m<=j)->rd (bk (bk (bk (bk b 0 hd) (x*56) l0) (fe*56) l1) p R) j q=rd b j q:=by
 subst hR;have b1:(bk b 0 hd).length=fe*56:=by rw[o6 (bM _) (by exact gd 0xab0d2802819f61bb810887fc81fb839308b2aac142ebf141 hb hh Ff zA) (by lia),hb]
 have w1:=ik (b:=b) (o:=hd) (i:=0) (bM _);have g1:∀j q,18<=j->j+q<=fe*56->rd (bk b 0 hd) j q=rd b j q:=λj q a c=>gS (bM _) (by exact .inr (ag 0x12330b6f50cd7e81c5a85f hh a)) (by exact bO 0x7e36b2c98cf7f049b5e86dd1b054d04941 hb c);generalize bk b 0 hd=B1 at *;have b2:(bk B1 (x*56) l0).length=fe*56:=by rw[o6 (by exact az 0x7e5c91f6616e02af7e1d4f902b2ec881b1 Lh b1) (by exact bO 0x59d45a62f225c6394ad01a2e142fb7a9a6450fdb3b7f h0 Lh b1) (by lia),b1]
 have w2:=ik (b:=B1) (o:=l0) (i:=x*56) (by exact az 0x7e5c91f6616e02af7e1d4f902b2ec881b1 Lh b1);have g2:∀j q,(j+q<=x*56∨x*56+56<=j)->j+q<=fe*56->rd (bk B1 (x*56) l0) j q=rd B1 j q:=λj q a c=>gS (by exact az 0x7e5c91f6616e02af7e1d4f902b2ec881b1 Lh b1) (by lia) (by exact bO 0x7e36b2c98cf7f049b5e86dd1b054d04941 b1 c);generalize bk B1 (x*56) l0=B2 at *;have b3:(bk B2 (fe*56) l1).length=(fe+1)*56:=by rw[<- b2,zc (by lia),h1,b2];exact(Nat.succ_mul fe 56).symm
 obtain w3:=ik (b:=B2) (o:=l1) (i:=fe*56) (by exact ag 0xb1a413fc8ada044c5e1aad41 b2);have g3:∀j q,j+q<=fe*56->rd (bk B2 (fe*56) l1) j q=rd B2 j q:=λj q c=>gS (by exact ag 0xb1a413fc8ada044c5e1aad41 b2) (by exact .inl (az 0x23243b5d0d313134cb75d36139 c)) (by exact bO 0x7e36b2c98cf7f049b5e86dd1b054d04941 b2 c);generalize bk B2 (fe*56) l1=B3 at *;obtain w4:=ik (b:=B3) (o:=R) (i:=p) (by exact bO 0x18affe2640e3766fa227c94931a9ff45ab39 zA b3);have g4:∀j q,(j+q<=p∨p+R.length<=j)->j+q<=(fe+1)*56->rd (bk B3 p R) j q=rd B3 j q:=λj q a c=>gS (by exact bO 0x18affe2640e3766fa227c94931a9ff45ab39 zA b3) (by lia) (by exact bO 0x1cb29a2cf6d420ecb1072e7a2654e1836c382b84d31 b3 c);rw[hh]at w1;rw[h0]at w2;rw[h1]at w3;refine⟨by rw[o6 (by exact bO 0x18affe2640e3766fa227c94931a9ff45ab39 zA b3) (by exact bO 0xf1225f698cc9b12f1b7d5dfde239979d45ab39 zA b3) (by lia),b3],?_,?_,?_,w4,λj q a c d e=>by rw[g4 j q e (by exact az 0x4306f35bab7c93017f3ec9aafee139 c),g3 j q c,g2 j q d c,g1 j q a c]⟩
 ·rw[g4 _ _ (by exact .inl (ah 0xfa08ec3d60900f Ff)) (by exact ah 0x9a8dd8a8e070971df),g3 _ _ (by exact az 0x28e8fe07bf11f99698e9280f463422f4f Ff zA),g2 _ _ (by exact .inl (ah 0xb3ecb50f2d32b75c08cd43b3 hx)) (by exact az 0x28e8fe07bf11f99698e9280f463422f4f Ff zA),w1]
 ·rw[g4 _ _ (by lia) (by exact ag 0x18f8350ccf81e82496eb58e5e5fdd2ba8fb1 Lh),g3 _ _ (by exact ag 0xd175b8792e72f1bf704337007028fb1 Lh),w2]
 ·rw[g4 _ _ (by exact .inr (az 0x23243b5d0d313134cb75d36139 zA)) (by exact ah 0x23243b5de330904874a77facff),w3]
theorem dR.part(D:dR salt F N b fb fe ft tb lb pre Ls)(hN:dN N){i:Nat}(hi:i<2^fb)(bz:lb (tb i)<fb)(h3:3<=(bF salt F (lb (tb i)) (pre (tb i))).length) :
  dR salt F N (zd b salt fb N.length fe ft (tb i) (lb (tb i)) (pre (tb i)) (bF salt N (lb (tb i)) (pre (tb i)))) fb (fe+1) ft (x6 (fb-lb (tb i)-1) (pre (tb i)) fe tb) (zH (lb (tb i)) (tb i) fe lb) (wa (pre (tb i)) (tb i) fe pre) (fe::Ls):=by
 have h7:=D.kK;have I5:lb (tb i)<32:=by exact aJ bz (ab h7 (by decide))
 have pR:=D.tm i hi;have iY:=D.out _ pR;have jx:=D.oq i hi;obtain K1:=λj hj=>D.iff (j:=j) hi hj;have Y3:∀j,j<2^fb->tb j≠fe:=λj hj=>cU (D.out _ (D.tm j hj)).2.1;have Y4:=Y3 i hi;have Lj:=Y0 hi bz;rw[<- (D.A i hi).2]at Lj;unfold zd;rw[AH N I5,x4 N I5];have s1:(bF salt N (lb (tb i)+1) (2*pre (tb i)+1)).length<=2:=by rw[<- AH N I5];exact ab (jH _ _) jx
 have s0:(bF salt N (lb (tb i)+1) (2*pre (tb i))).length<=2:=by rw[<- x4 N I5];exact ab (jH _ _) jx
 obtain O2:=cL (lb (tb i)+1) (2*pre (tb i)+1) salt _ 56 (hN.xY salt (M:=bF salt N (lb (tb i)+1) (2*pre (tb i)+1)) gW s1);obtain BV:=cL (lb (tb i)+1) (2*pre (tb i)) salt _ 56 (hN.xY salt (M:=bF salt N (lb (tb i)+1) (2*pre (tb i))) gW s0);have hwt:((fe::Ls).map (u5 salt F (zH (lb (tb i)) (tb i) fe lb) (wa (pre (tb i)) (tb i) fe pre))).sum<=15:=by
  obtain hs:=Lg (f:=u5 salt F lb pre) (g:=u5 salt F (zH (lb (tb i)) (tb i) fe lb) (wa (pre (tb i)) (tb i) fe pre)) D.nd pR λy hy ei=>by
   obtain this:y≠fe:=cU (D.out y hy).2.1;unfold u5;rw[TV ei this,Po ei this]
  obtain hw:=YZ (VN F I5) h3 (k:=7-(lb (tb i)+1));obtain e1:u5 salt F (zH (lb (tb i)) (tb i) fe lb) (wa (pre (tb i)) (tb i) fe pre) fe=1+(bF salt F (lb (tb i)+1) (2*pre (tb i)+1)).length/3*(7-(lb (tb i)+1)):=by unfold u5;rw[M1,Pm]
  obtain e2:u5 salt F (zH (lb (tb i)) (tb i) fe lb) (wa (pre (tb i)) (tb i) fe pre) (tb i)=1+(bF salt F (lb (tb i)+1) (2*pre (tb i))).length/3*(7-(lb (tb i)+1)):=by unfold u5;rw[M0,Pn Y4]
  obtain e3:u5 salt F lb pre (tb i)=1+(bF salt F (lb (tb i)) (pre (tb i))).length/3*(7-(lb (tb i)+1)+1):=by unfold u5;rw[show 7-(lb (tb i)+1)+1=7-lb (tb i) by exact bu (az 0x422c331646a69c3b9d9d6756f3154f cP (ba (ag 0x5eca462160164a5d3d79 bz h7))) (az 0x42d6f74f0068f1c3d7d4eaf5a9090f cP (ba (ag 0x31b2777f276ed579 bz h7)))]
  obtain this:=D.wt;rw[eC,oH];exact l80 0x13f6ef34df4fdcf693d77bffd415de94c1b3b3ab04c525354da2f3625412e606bd289d287f569 hs hw e1 e2 e3 this
 obtain hA:=D.A;obtain hB:=D.B;obtain aaz:=D.leaf;obtain aaA:=D.oq;have mK:=D.out;have htm:=D.tm;obtain YW:=D.te;have av:=D.len;have fH:=D.xZ;have p7:=D.t1;have hf9:=D.Pl;have aaB:=D.rf;obtain hH:=gU fb salt N.length (fe+1) ft;generalize adh:bG (lb (tb i)+1) (2*pre (tb i)+1) salt (bF salt N (lb (tb i)+1) (2*pre (tb i)+1)) 56=lf1 at *;generalize adi:bG (lb (tb i)+1) (2*pre (tb i)) salt (bF salt N (lb (tb i)+1) (2*pre (tb i))) 56=lf0 at *;generalize oj:di fb salt N.length (fe+1) ft=hd at *;obtain⟨k,hk⟩:∃k,fb-lb (tb i)=k+1:=⟨fb-lb (tb i)-1,by exact bu (ag 0x9a1f339cd5b609811 cP) (ag 0x98ab1ff07fc8fd287 (ba (az 0x98c4434bc1ff12159 bz cP)))⟩;have TA:fb-lb (tb i)-1=k:=by exact bu (az 0x12324157737d82bd42a051 hk (ba (ag 0x1dcddcd61614c2ed6d1 hk))) (az 0x22b9becc9af6cbc90d377456d1 hk cP)
 obtain KI:fb-(lb (tb i)+1)=k:=by exact TA
 rw[TA]at Lj ⊢;rw[hk]at K1;obtain hm:=p1 k;obtain hR:(List.replicate (2^k) (le 4 fe)).flatten.length=4*2^k:=by simp[aQ,uz]
 have hRt:∀t,t<2^k->rd (List.replicate (2^k) (le 4 fe)).flatten (4*t) 4=le 4 fe:=λt ht=>by
  rw[<- List.map_replicate];exact Ex (by rw[List.getElem?_replicate,au ht])
 generalize(List.replicate (2^k) (le 4 fe)).flatten=R at *;obtain hD:=λj=>aay (j:=j) (c:=2*pre (tb i)+1) hm;unfold tv at fH mK;generalize hc:(2*pre (tb i)+1)*2^k=c at *;obtain⟨hb4,r1,r2,r3,r4,g⟩:=VO (p:=ft*56+4*c) av hH BV O2 hR iY.1 iY.2.1 (by obtain this:=iY.2.2;unfold tv at this;lia) (by exact ag 0xd0dd278b700641a26e9f232dc6b83b3 p7) (by exact uH 0x3e278571f1f3570880bfc5e5d358ad973d8def07d03c1eb30e5247495a31e9b449c14cc2743ce9 fH Lj (dU _ (by decide)));generalize bk (bk (bk (bk b 0 hd) (tb i*56) lf0) (fe*56) lf1) (ft*56+4*c) R=b4 at hb4 r1 r2 r3 r4 g ⊢;have B9:∀{P:Nat->Nat->Nat->Prop} (j:Nat),j<2^fb->(j/2^k=2*pre (tb i)+1->P fe (lb (tb i)+1) (2*pre (tb i)+1))->(j/2^k=2*pre (tb i)->tb j=tb i->P (tb i) (lb (tb i)+1) (2*pre (tb i)))->(j/2^k≠2*pre (tb i)+1->tb j≠tb i->P (tb j) (lb (tb j)) (pre (tb j))) ->
   P (x6 k (pre (tb i)) fe tb j) (zH (lb (tb i)) (tb i) fe lb (x6 k (pre (tb i)) fe tb j)) (wa (pre (tb i)) (tb i) fe pre (x6 k (pre (tb i)) fe tb j)):=λ{P} j hj a1 a2 a3=>by
  by_cases h:j/2^k=2*pre (tb i)+1
  ·rw[show x6 k (pre (tb i)) fe tb j=fe from au h,M1,Pm];exact a1 h
  ·rw[show x6 k (pre (tb i)) fe tb j=tb j from ai h];by_cases e:tb j=tb i
   ·rw[e,M0,Pn Y4];obtain this:=(K1 j hj).mp e;rw[Pk]at this;exact a2 (by exact bu (ag 0x12687a381d7003615e07b3 (fv (az 0x7f7c94b2d0224188664c7a8c4dfd907b45 this (dU _ (by decide))) h)) (az 0x22bbbfd6b333e6ce6313db5665 this (cI _ _))) e
   ·rw[TV e (Y3 j hj),Po e (Y3 j hj)];exact a3 h e
 exact {
     nd:=fQ.mpr ⟨λh=>absurd (mK _ h).2.1 (jg _),D.nd⟩,wt:=hwt,t1:=p7,len:=hb4,kK:=h7,xZ:=by exact oB fH
     Pl:=by rw[dE];exact az 0x1cfc565971ad85855cf61f10105008a8d065f2300f3 hf9
     n5:=by rw[r1,oj]
     te:=λj hj=>by
      unfold x6;by_cases h:j/2^k=2*pre (tb i)+1
      ·rw[au h];obtain TX:=(hD j).mp h;obtain e:ft*56+4*j=ft*56+4*c+4*(j-c):=by exact bu (bO 0xacc4a5dfea8d57d0e00c00573e6541819c7907917f20efe9 cP) (bO 0xacc4a85d2df047df3a4332eff58dcb4643d37f5e015243c9 (ba (ag 11262715101 TX.1)))
       rw[e,<-q0 (k:=4*2^k) (by exact gd 0x1111effadaa29c4e647a9dec7a66fba0ec2d230fe7a5627efcdfa82505e5138d804df9 TX.2 e),r4,hRt _ (by exact gd 0x5ff8bfa3dfe9e8f2cc55512fc583945344985ead0ceaad649f7d38d804df9 TX.2 e),gf _ _ (by exact ag 0x19fb2a14362d536045d1bbae06e887f2eeb7 h7 aaB)]
      ·rw[ai h,<-YW j hj];have TX:=λx=>h ((hD j).mpr x);have:=iY.2.2;unfold tv at this;rw[g _ _ (by exact ag 0xd0dd278b700641a298414748bce43b3 p7) (by exact gd 0xa6d82a284d08ca9e7330f210ddbe29cd2e15e875f7c037c224c4018fcbaeba52b4207ce9 fH hj (dU _ (by decide))) (by lia) (by lia)]
     out:=λz hz=>by
      rcases bK.mp hz with rfl | hz
      ·exact⟨ag 0x30dbb48c17f87253 iY.1 iY.2.1,⟨ah 11684687551,.inr (az 0xfa44f4f43ba529 fH)⟩⟩
      ·obtain this:=mK z hz;lia
     tm:=λj hj=>by
      unfold x6;split
      ·exact .head _
      ·exact .tail _ (htm j hj)
     A:=λj hj=>B9 (P:=λz a q=>a<=fb/\q=j/2^(fb-a)) j hj (λh=>⟨bz,by rw[KI];exact h.symm⟩) (λh w=>⟨bz,by rw[KI];exact h.symm⟩) λw w=>hA j hj
     B:=λj j' hj Y7=>B9 (P:=λz a q=>j'/2^(fb-a)=q->x6 k (pre (tb i)) fe tb j'=z) j hj (λw h=>by rw[KI]at h;exact au h)
      (λw w h=>by
       rw[KI]at h;refine(ai (by exact cU (rl (bL h)))).trans ((K1 j' Y7).mpr ?_);rw[Pk];exact bu (az 0x2cd8766281c8fad4012d0cc653 h (cI _ _)) (az 0xa325addfbcc04b88b5dc3e68efb2fb71d3 h (dU _ (by decide))))
      λh e h'=>by
       obtain e':=hB j j' hj Y7 h';refine(ai λh2=>e ?_).trans e';rw[<- e'];refine(K1 j' Y7).mpr ?_;rw[Pk];exact bu (az 0x55893e8d131b9eaaaddbb82795ccb3 h2 (cI _ _)) (az 0x1372db60b66bba611d91efce9966e1cc9a208b3 h2 (dU _ (by decide)))
     leaf:=λj hj=>B9 (P:=λz a q=>rd b4 (z*56) 56=bG a q salt (bF salt N a q) 56) j hj (λw=>by rw[r3,adh])
      (λw w=>by rw[r2,adi])
      λw e=>by
       have zG:=mK _ (htm _ hj);rw[g _ _ (by exact ah 0xb3ecb50f2d32b75c08cd43b3 zG.1) (by exact ag 0xd175b8792e72f1bf704337007028fb1 zG.2.1) (by lia) (by lia)];exact aaz j hj
     oq:=λj hj=>B9 (P:=λz a q=>(bF salt N a q).length<=2) j hj (λw=>s1) (λw w=>s0) λw w=>aaA j hj}
end
def tV(salt:Nat)(F N:List aM)(b:List UInt8):Prop:=∃fb fe ft tb lb pre Ls,dR salt F N b fb fe ft tb lb pre Ls
section
variable {Ls:List Nat}
theorem TY(h:F.Perm (N++[(name,number)]++R))(hp:aU name salt/2^(32-l)=p):(bF salt N l p).length+1<=(bF salt F l p).length:=by
 obtain h1:(bF salt F l p).length=(bF salt (N++[(name,number)]++R) l p).length:=(h.filter _).length_eq;rw[h1,ze,ze,Lf (r:=(name,number)) hp,aW,aW];exact cT _ _
theorem dR.Pp(D:dR salt F N b fb fe ft tb lb pre Ls)(hN:dN N){i:Nat}(hi:i<2^fb)(bz:lb (tb i)<fb):xM salt fb (lb (tb i)) (pre (tb i)) (bF salt N (lb (tb i)) (pre (tb i))):=by
 have h7:=D.kK;obtain Lj:=Y0 hi bz;rw[<- (D.A i hi).2]at Lj;obtain hp:=RX h7;obtain hf:=D.oq i hi;obtain s:(bF salt N (lb (tb i)) (pre (tb i))).Sublist N:=gW;obtain f1:∀q:aM->Bool,((bF salt N (lb (tb i)) (pre (tb i))).filter q).length<=2:=λq=>ab (jH _ _) hf;refine⟨bz,h7,ab (ab (cT _ _) Lj) hp,hN.xY salt (gW.trans s) (f1 _),hN.xY salt (gW.trans s) (f1 _)⟩
theorem Lk:zH l (tb i) y lb (x6 k p y tb i)=l+1:=by
 unfold x6;split
 ·exact M1
 ·exact M0
theorem VP(hf:fb<32):ix salt (fb+1) name/2=ix salt fb name:=by
 show aU name salt/2^(32-(fb+1))/2=_;rw[<- Pk,show 32-(fb+1)+1=32-fb by exact bu (az 0x28637a2e58976ea7551bb0cce46eaf97b cP (ba (ah 0x1e40616b8f40a49cc27 hf))) (az 0x28cbb471f7f84b69e533ce10a911c94fb cP (ba (ah 0xfdc4914b69d027 hf)))]
theorem dR.put(hN:dN (N++[(name,number)]))(hF:F.Perm (N++[(name,number)]++R))(c7:∀p,(bF salt F 7 p).length<=2)(m:Nat) :
  ∀{b fb fe ft tb lb pre Ls},dR salt F N b fb fe ft tb lb pre Ls->7-lb (tb (ix salt fb name))<=m->∃b',tV salt F (N++[(name,number)]) b'/\kL salt name number (m+1) b b':=by
 have Ll:dN N:=hN.sub (Cp _ _);have xp:∀r∈N,r.1≠name:=λr hr e=>by
  obtain this:=hN.nd;rw[fy,mT]at this;exact this.2.2 _ (jI hr) name (.head _) e
 induction m with
 | zero =>
  intro b fb fe ft tb lb pre Ls D hm;have h7:=D.kK;have hi:ix salt fb name<2^fb:=kO name salt (ab h7 (by decide));have H:=D.here Ll name;have hA:=(D.A _ hi).1;have p5:(bF salt N (lb (tb (ix salt fb name))) (pre (tb (ix salt fb name)))).length<=1:=by
   obtain h1:=TY (salt:=salt) hF (l:=7) rfl;obtain h2:=c7 (aU name salt/2^(32-7));obtain e7:lb (tb (ix salt fb name))=7:=by exact bu (ag 0x31b27832b1332987 h7 hA) (ag 0x1dd29b0bbb5d35f7aab hm cP)
   rw[D.u6 name,e7];exact iF (aJ h1 h2)
  have ho:aZ name (bF salt N (lb (tb (ix salt fb name))) (pre (tb (ix salt fb name))))=bF salt N (lb (tb (ix salt fb name))) (pre (tb (ix salt fb name))):=x3 λr hr=>xp r (lE.mp hr).1;obtain Df:=D.Fh hN p5;obtain P:=kL.Fh (number:=number) (n:=0) H (hN.xY salt (by unfold cy;rw[ho];exact(List.Sublist.append gW (List.Sublist.refl _))) (by unfold cy;rw[ho,aW];exact uh p5)) (by rw[ho];exact ag 28422309687601);unfold cy at P;rw[ho,CP]at P;exact⟨_,⟨_,_,_,_,_,_,_,Df⟩,P⟩
 | succ m ih =>
  intro b fb fe ft tb lb pre Ls D hm;have h7:=D.kK;obtain hi:ix salt fb name<2^fb:=kO name salt (ab h7 (by decide));have H:=D.here Ll name;have hA:=(D.A _ hi).1;have ho:aZ name (bF salt N (lb (tb (ix salt fb name))) (pre (tb (ix salt fb name))))=bF salt N (lb (tb (ix salt fb name))) (pre (tb (ix salt fb name))):=x3 λr hr=>xp r (lE.mp hr).1;have Kv:(cy name number (bF salt N (lb (tb (ix salt fb name))) (pre (tb (ix salt fb name))))).Sublist (N++[(name,number)]):=by unfold cy;rw[ho];exact(List.Sublist.append gW (List.Sublist.refl _))
  have xP:(cy name number (bF salt N (lb (tb (ix salt fb name))) (pre (tb (ix salt fb name))))).length=(bF salt N (lb (tb (ix salt fb name))) (pre (tb (ix salt fb name)))).length+1:=by unfold cy;rw[ho,aW];rfl
  obtain jx:=D.oq _ hi;by_cases p5:(bF salt N (lb (tb (ix salt fb name))) (pre (tb (ix salt fb name)))).length<=1
  ·obtain Df:=D.Fh hN p5;obtain P:=kL.Fh (number:=number) (n:=m+1) H (hN.xY salt Kv (ag 0x5e8801527924be620611 xP p5)) (by rw[ho];exact ag 28422309687601);unfold cy at P;rw[ho,CP]at P;exact⟨_,⟨_,_,_,_,_,_,_,Df⟩,P⟩
  ·have h3:=TY (salt:=salt) hF (D.u6 name).symm;have TZ:lb (tb (ix salt fb name))<7:=by
    obtain h1:=c7 (pre (tb (ix salt fb name)));by_cases e7:lb (tb (ix salt fb name))=7
    ·rw[e7]at h3;rw[e7]at p5;exact az 0x1b56cf3f3a9cb61f831f0579579f7 p5 h3 h1
    ·exact ah 29429698458751 (fv (ag 0x31b27832b1332987 h7 hA) e7)
   have gk:56<(aP salt (cy name number (bF salt N (lb (tb (ix salt fb name))) (pre (tb (ix salt fb name)))))).at_:=by obtain this:=aaw salt (cy name number (bF salt N (lb (tb (ix salt fb name))) (pre (tb (ix salt fb name)))));exact az 0xb003cc7c4d99b0808556d99ba7bc33bc175f0a826935bed1 xP p5 this
   have AD:(aP salt (cy name number (bF salt N (lb (tb (ix salt fb name))) (pre (tb (ix salt fb name)))))).at_<1000:=by obtain this:=TS salt (cy name number (bF salt N (lb (tb (ix salt fb name))) (pre (tb (ix salt fb name))))) λr hr=>(hN.ok r (Kv.subset hr)).2.2.1;exact az 0x6cc1c173a456c6e3f7d807d190592f55dcef5e68f8861e06c51 xP jx this
   by_cases bz:lb (tb (ix salt fb name))<fb
   ·refine ak (ih (D.part Ll hi bz (ag 0x5d311575699a928655f7 p5 h3)) (by rw[Lk];exact bO 0x7e438092597170ffbcaafd4d8d3b5fb191 hm cP (ba (ah 0x31b28427fa27a4ff TZ)))) λb' i4 P=>?_;exact⟨b',i4,.part H gk AD (D.Pp Ll hi bz) P⟩
   ·have D2:=D.eD (a6 (ja bz) TZ);have e2:tb (ix salt (fb+1) name/2)=tb (ix salt fb name):=by rw[VP (a6 h7 (by decide))]
    obtain hi2:ix salt (fb+1) name<2^(fb+1):=kO name salt (CU (a6 h7 (by decide)));have qC:(λi=>lb (tb (i/2))) (ix salt (fb+1) name)<fb+1:=by show lb (tb (ix salt (fb+1) name/2))<_;rw[e2];exact rl hA
    obtain D3:=D2.part Ll hi2 qC (by rw[e2];exact ag 0x5d311575699a928655f7 p5 h3);obtain cD:=D2.Pp Ll hi2 qC;obtain av:=D2.len;obtain ef:=D2.rf;refine ak (ih D3 (ab (bL (bE (7-·) (Lk (tb:=λi=>tb (i/2))))) (by show 7-(lb (tb (ix salt (fb+1) name/2))+1)<=m;rw[e2];exact bO 0x7e438092597170ffbcaafd4d8d3b5fb191 hm cP (ba (ah 0x31b28427fa27a4ff TZ))))) λb' i4 P=>?_;simp only[e2]at P cD;obtain hti:=D.xZ;obtain jF:=D.len;unfold tv at hti;refine⟨b',i4,.eD H gk AD (bu (ag 11262715101 hA) (ag 11256600101 bz)) (by rw[aK,gc]) (λi iu=>?_) (λx hx=>?_) (gd 0x5680c9e379c93aec9055c408272499fd737d68a9bb6ca5d92ab018dfc23992f234e9 hti jF (dU _ (by decide))) (bO 0xcf6ff2093d6f8f21423208e18c0b07987d6323dcd5200dec833cbff TZ bz ef) (bO 0x8f773b849552bdd9ba81adc259cc4aaddfbecfdbd7779206be159565449d190b7 h7 av ef) cD P⟩
    ·rw[aK,gc]at iu;rw[D.te i iu,yA,t9]
    ·apply eN (bH.mp hx);intro i iu;obtain this:=(D.out _ (D.tm i (iz.mp iu))).2.1;obtain this:=D.rf;lia
end
section
theorem VQ(hb:b.length=56)(hF:F.length<=7):tV aY F [] (IF b):=by
 obtain h1:=gU 0 aY 0 3 1;obtain h2:=cL 0 0 aY [] 56 (by simp[aP]);obtain h4:=aQ 4 2;unfold IF;generalize oj:di 0 aY 0 3 1=hd at *;generalize xJ:bG 0 0 aY [] 56=lf at *;obtain hh:(hd++List.replicate 38 0).length=56:=by rw[aW,h1,jG]
 have l1:(bk b 0 (hd++List.replicate 38 0)).length=56:=by rw[o6 (by exact bM b.length) (by exact ag 0x22b17e7b5db3930998de5e235f hb hh) (by lia),hb]
 obtain w1:=ik (b:=b) (o:=hd++List.replicate 38 0) (i:=0) (bM _);rw[hh]at w1;generalize bk b 0 (hd++List.replicate 38 0)=b1 at *;have l2:(bk b1 56 (le 4 2)).length=112:=by rw[<- l1,zc (by lia),h4,l1]
 obtain w2:=ik (b:=b1) (o:=le 4 2) (i:=56) (by exact ah 0x1dce4babd5ea077725f l1);obtain g2:rd (bk b1 56 (le 4 2)) 0 18=rd b1 0 18:=gS (by exact ah 0x1dce4babd5ea077725f l1) (by decide) (by exact ah 0x1dce754dfa04fda325f l1);rw[h4]at w2;generalize bk b1 56 (le 4 2)=b2 at *;obtain l3:(bk b2 112 lf).length=168:=by rw[<- l2,zc (by lia),h2,l2]
 obtain w3:=ik (b:=b2) (o:=lf) (i:=112) (by exact ah 0x1230f3b22d6f9c34ac2d67 l2);have g3:∀j k,j+k<=112->rd (bk b2 112 lf) j k=rd b2 j k:=λj k h=>gS (by exact ah 0x1230f3b22d6f9c34ac2d67 l2) (by exact .inl (ag 0x39b2ead8d2726883737bf09 h)) (by exact az 0xcec9d6146b9fc9a79ad378087c15f67 l2 h);rw[h2]at w3;obtain hu:(bF aY F 0 0).length<=F.length:=jH _ _;obtain hn:(4:Nat)<256^4:=by decide
 refine⟨0,3,1,λz=>2,λz=>0,λz=>0,[2],⟨?_,l3,by decide,λi hi=>?_,by decide,by decide,by decide,λx hx=>?_,by simp,λz z=>.head _,λi hi=>?_,λz z z z z=>rfl,λi hi=>?_,λi hi=>bM _,?_⟩⟩
 ·obtain e0:=q0 (b:=b1) (i:=0) (k:=56) (j:=0) (m:=18) (by decide);rw[w1]at e0;rw[g3 _ _ (by decide),g2];refine e0.symm.trans ?_;unfold rd;rw[oF,uo h1,<-oj];rfl
 ·obtain rfl:i=0:=Nat.lt_one_iff.mp hi;rw[g3 _ _ (by decide),w2];exact gf 4 2 (by decide)
 ·apply zL (aV.mp hx);decide
 ·obtain rfl:i=0:=Nat.lt_one_iff.mp hi;exact⟨aB _,rfl⟩
 ·rw[w3,<-xJ];rfl
 ·show 1+(bF aY F 0 0).length/3*7+0<=15;lia
def zI(F N:List aM)(b:List UInt8):Prop:=(∃rows:List aM,rows.Perm N/\7+(cA rows).length<=56/\b=i0 aY rows (56-(7+(cA rows).length)))∨∃M:List aM,M.Perm N/\tV aY F M b
theorem tV.len(h:tV aY F N b):56<=b.length/\b.length<=5000:=by
 refine zM h λfb fe ft tb lb pre Ls D=>?_;obtain this:=D.len;obtain this:=D.rf;obtain this:=D.kK;obtain this:=D.t1;obtain this:=D.xZ;unfold tv at this;lia
theorem zI.len(h:zI F N b):56<=b.length/\b.length<=5000:=by
 rcases h with⟨rows,_,h,rfl⟩ | ⟨M,_,h⟩
 ·rw[pA];exact⟨ag 0x1561efe8009f447c6e77ee76f7e9f cP,ag 0x18fec957b311e73f6010d4af1319a871ac17 h (cV _ _)⟩
 ·exact h.len
theorem VR(rows:List aM)(h:∀r∈rows,1<=r.1.cps.size):10*rows.length<=(cA rows).length:=by
 induction rows with
 | nil=>exact aB _
 | cons r t ih =>
  obtain h1:=ih λx hx=>h x (.tail _ hx);obtain h2:=h r (.head _);obtain e:(cA (r::t)).length=(jQ r).length+(cA t).length:=by simp[cA]
  rw[e,qv,dE];exact az 0x4dca494ccda2e34315a5ae31f45739ab98fbf h1 h2
theorem zI.cB(h:zI F N b)(hN:dN N)(h5:5<=N.length):∃M:List aM,M.Perm N/\tV aY F M b:=by
 rcases h with⟨rows,hp,h,rfl⟩ | h
 ·obtain this:=VR rows λr hr=>(hN.ok r (hp.mem_iff.mp hr)).2.1;rw[hp.length_eq]at this;lia
 ·exact h
end
noncomputable def M3(x:Str):Nat:=(x.cps.toList.takeWhile λc=>decide (c<=57)).foldl (λa c=>10*a+(c-48)) 0
theorem Ca(hk:k<40)(y:Nat):M3 (dG k y)=k:=by
 obtain h1:=(xQ k hk).1;unfold M3;rw[ra,List.takeWhile_append_of_pos λc hc=>cH (h1 c hc).2];obtain e:(List.replicate (1+y/8%3) (jP y)).takeWhile (λc=>decide (c<=57))=[]:=by
  rw[yI,List.replicate_succ,List.takeWhile_cons_of_neg];unfold jP;simp only[jT];exact ah 0x581743906560b
 rw[e,kU];obtain this:∀k:Fin 40,(Str.ofString (toString ((k.val:Nat):Int))).cps.toList.foldl (λa c=>10*a+(c-48)) 0=k.val:=by decide +kernel
 exact this ⟨k,hk⟩
theorem Pq(k y:Nat):∃c,(dG k y).cps.toList.getLast? =some c/\97<=c/\c<=104:=by
 rw[ra,yI,List.replicate_succ'];refine⟨jP y,by rw[<- aw,List.getLast?_append];rfl,?_⟩;unfold jP;exact⟨ah 0x50c804362f54b,ah 0x5ea2e0483e3a49313603 (ea _ (by decide))⟩
structure gE(salt k:Nat)(rows:List fG):Prop where
 f:∀r∈rows,r.1=aU r.2.1 salt/2^25
 nm:∀r∈rows,∃j y,j<k/\r.2.1=dG j y/\r.2.2<0x10000000000000000
 nd:(rows.map (·.2.1)).Nodup
 c2:∀p,(rows.map (·.1)).count p<=2
theorem Cb(L:List Int)(salt:Nat):∀k,k<=40->gE salt k (gm L salt k)
 | 0,_=>⟨(λz h=>nomatch h),(λz h=>nomatch h),iy,λz=>bM _⟩
 | k+1,hk=>by
  have ih:=Cb L salt k (mS hk);rw[kM];unfold o7;dsimp only;have nm':∀r∈gm L salt k,∃j y,j<k+1/\r.2.1=dG j y/\r.2.2<0x10000000000000000:=λr hr=>cq (ih.nm r hr) λj y h h'=>⟨j,y,iE h,h'⟩;by_cases hc:((gm L salt k).map (·.1)).count (aU (dG k (eK L (k+1))) salt/2^25)<2
  ·rw[au hc];refine⟨λr hr=>?_,λr hr=>?_,?_,λp=>?_⟩
   ·rcases dt.mp hr with hr | hr
    ·exact ih.f r hr
    ·rw[aV.mp hr]
   ·rcases dt.mp hr with hr | hr
    ·exact nm' r hr
    ·rw[aV.mp hr];exact⟨k,_,oD _,rfl,Fj L (ab hk (by decide))⟩
   ·rw[fy,mT];refine⟨ih.nd,fQ.mpr ⟨(λh=>nomatch h),iy⟩,λa ha b hb e=>?_⟩;refine ak (bH.mp ha) λr hr dc=>?_;obtain rfl:=dc;refine dH (ih.nm r hr) λj y hj hn z=>?_;rw[aV.mp hb,hn]at e;obtain this:=bE M3 e;rw[Ca (aJ (iE hj) hk),Ca (hk)]at this;lia
   ·rw[fy,List.count_append];by_cases e:aU (dG k (eK L (k+1))) salt/2^25=p
    ·rw[e]at hc ⊢;obtain this:List.count p (List.map (λx:fG=>x.1) [(p,dG k (eK L (k+1)),eK L (k+1))])<=1:=List.count_le_length;exact ag 0x5e8818c7faa0db3cacbb hc this
    ·rw[show List.count p (List.map (λx:fG=>x.1) [(aU (dG k (eK L (k+1))) salt/2^25,dG k (eK L (k+1)),eK L (k+1))])=0 from List.count_eq_zero.mpr λh=>e (aV.mp h).symm];exact ih.c2 p
  ·rw[ai hc];exact⟨ih.f,nm',ih.nd,ih.c2⟩
theorem gE.sub(h:gE salt k rows)(s:M.Sublist rows):gE salt k M:=⟨λr hr=>h.f r (s.subset hr),λr hr=>h.nm r (s.subset hr),h.nd.sublist (s.map _),λp=>ab ((s.map _).count_le _) (h.c2 p)⟩
theorem gE.perm(h:gE salt k rows)(s:M.Perm rows):gE salt k M:=⟨λr hr=>h.f r (s.mem_iff.mp hr),λr hr=>h.nm r (s.mem_iff.mp hr),(s.map _).nodup_iff.mpr h.nd,λp=>by rw[(s.map _).count_eq];exact h.c2 p⟩
theorem Lm(rows:List fG)(full:Nat):(kN rows full).Perm rows:=by
 unfold kN;obtain this:=List.filter_append_perm (λr:fG=>decide (r.1/16=full)) rows;refine List.Perm.trans (yE ?_) this
 congr 1
 exact kS λr z=>by rw[<- decide_not]
theorem gE.adj(h:gE salt k M)(hk:k<=40)(h7:M.length<=7):dN (M.map (·.2)) where
 ok:=λr hr=>by
  apply eN (bH.mp hr);intro x hx;refine dH (h.nm x hx) λj y hj hn hv=>?_;refine jL (Fm (k:=j) (aJ hj hk) y) λa b c=>?_;rw[hn];exact⟨a,cZ c,b,hv⟩
 nd:=by rw[bQ];exact h.nd
 l7:=by rw[aK];exact h7
theorem gE.bF(h:gE salt k M)(l p:Nat)(hl:l<=7):(bF salt (M.map (·.2)) l p).length=(M.filter λr=>decide (r.1/2^(7-l)=p)).length:=by
 unfold Mine.bF;rw[List.filter_map,aK]
 congr 1
 refine kS λr hr=>oC.mpr ?_;obtain this:aU r.2.1 salt/2^(32-l)=r.1/2^(7-l):=by rw[h.f r hr];exact(dv (f:=7) hl (by decide)).symm
 rw[this]
theorem gE.c7(h:gE salt k M)(p:Nat):(Mine.bF salt (M.map (·.2)) 7 p).length<=2:=by
 rw[h.bF 7 p (aB _),<-List.countP_eq_length_filter];obtain this:=h.c2 p;unfold List.count at this;rw[List.countP_map]at this;refine ab (bL ?_) this;refine List.countP_congr λr z=>?_;simp
def n7(x:Str):Prop:=∀c,x.cps.toList.getLast? =some c->c<97∨104<c
theorem gE.n7{salt k:Nat}{M:List fG}(h:gE salt k M){x:Str}(hx:n7 x):∀r∈M.map (·.2),r.1≠x:=λr hr e=>by
 refine ak (bH.mp hr) λq hq dX=>?_;obtain rfl:=dX;refine dH (h.nm q hq) λj y z hn z=>?_;refine dY (Pq j y) λc hc h1 h2=>?_;rw[<- hn,e]at hc;obtain this:=hx c hc;lia
theorem R0{rows:List fG}{full:Nat}(hf:full∈rows.map λr=>r.1/16){r0 r2:fG}(h0:(kN rows full)[0]? =some r0)(h2:(kN rows full)[2]? =some r2)(he:r0.1/16=r2.1/16):∀r∈(kN rows full).take 3,r.1/16=full:=by
 refine ak (bH.mp hf) λr hr fB=>?_;obtain rfl:=fB;unfold kN at *;have hP:∀x∈rows.filter (λx=>decide (x.1/16=r.1/16)),x.1/16=r.1/16:=λx hx=>aN (eT.mp hx).2;obtain hQ:∀x∈rows.filter (λx=>decide (x.1/16≠r.1/16)),x.1/16≠r.1/16:=λx hx=>aN (eT.mp hx).2;obtain iY:0<(rows.filter (λx=>decide (x.1/16=r.1/16))).length:=List.length_pos_of_mem (eT.mpr ⟨hr,cH rfl⟩);generalize rows.filter (λx=>decide (x.1/16=r.1/16))=P at *;generalize rows.filter (λx=>decide (x.1/16≠r.1/16))=Q at *;rw[eH iY]at h0;obtain e0:=hP _ (aH h0);have h3:2<P.length:=by
  refine ui λp5=>?_;rw[d9 p5]at h2;exact hQ _ (aH h2) (by rw[<- he];exact e0)
 rw[List.take_append_of_le_length h3];exact λx hx=>hP x (lR hx)
theorem x7{α β:Type}{f:α->β}{X:List α}(nd:(X.map f).Nodup){a b:α}(ha:a∈X)(hb:b∈X)(e:f a=f b):a=b:=by
 obtain⟨i,hi,rfl⟩:=rk ha;obtain⟨j,hj,rfl⟩:=rk hb;obtain this:=(yB (xs:=X.map f) (i:=i) (j:=j) (h₀:=by simpa using hi) (h₁:=by simpa using hj) nd).mp (by simpa using e);subst this;rfl
theorem Pr{X Y:List (Str×Int)}(hp:X.Perm Y)(nd:(X.map (·.1)).Nodup)(hX:X.Pairwise λp q=>sP q p=false)(hY:Y.Pairwise λp q=>sP q p=false):X=Y :=
 List.Perm.eq_of_pairwise (λa b ha hb h1 h2=>by
  unfold sP at h1 h2;rw[PyProof.Rows.ltCps_eq,yj]at h1 h2;obtain e:a.1.cps.toList=b.1.cps.toList:=List.le_antisymm h1 h2;refine x7 nd ha (hp.mem_iff.mpr hb) ?_;obtain e':=uk.mp e;cases hx:a.1;cases hy:b.1;rw[hx,hy]at e';exact bE Str.mk e') hX hY hp
section
variable {Ls:List Nat}
theorem dR.adk(D:dR salt F N b fb fe ft tb lb pre Ls){q:Nat}(h:3<=(bF salt N 3 q).length):4<=fb:=by
 refine ja λbz=>?_;refine xE (JV (aJ (by decide) h)) λr hr=>?_;obtain hr:=(lE.mp hr).2;have hi:ix salt fb r.1<2^fb:=kO r.1 salt (iF (aJ bz (by decide)));obtain hA:=(D.A _ hi).1;obtain hp:=D.u6 r.1;obtain hf:=D.oq _ hi;generalize ix salt fb r.1=i at *;obtain e:(bF salt N 3 q)=(bF salt N (lb (tb i)) (pre (tb i))).filter λx=>decide (aU x.1 salt/2^(32-3)=q):=by
  unfold bF;rw[yt];refine kS λx z=>?_;rw[<- Bool.decide_and];refine oC.mpr ⟨λh=>⟨h,?_⟩,λh=>h.1⟩
  rewrite[hp,<-dv (l:=lb (tb i)) (f:=3) (ab hA (iF bz)) (by decide),<-dv (l:=lb (tb i)) (f:=3) (h:=aU r.1 salt) (ab hA (iF bz)) (by decide),h,hr];rfl
 rw[e]at h;exact absurd (ab h (ab (jH _ _) hf)) (by decide)
noncomputable abbrev I6(fb:Nat)(tb:Nat->Nat):List Int:=((List.range (2^fb)).map tb).map λ(x:Nat)=>(x:Int)
theorem AI:x∈I6 fb tb↔∃i,i<2^fb/\x=(tb i:Int):=by
 unfold I6;rw[bQ,bH];exact⟨λ⟨i,h,e⟩=>⟨i,iz.mp h,e.symm⟩,λ⟨i,h,e⟩=>⟨i,iz.mpr h,e.symm⟩⟩
theorem dR.dup(D:dR salt F N b fb fe ft tb lb pre Ls):(I6 fb tb).eraseDups.length<=18:=by
 obtain h1:=ye (l₂:=Ls.map λ(x:Nat)=>(x:Int)) (kd _ (I6 fb tb) (aB _)) λx hx=>by
  apply LB (AI.mp (jS.mp hx));intro i hi;exact jI (f:=λ(x:Nat)=>(x:Int)) (D.tm i hi)
 obtain this:=D.ll;rw[aK]at h1;exact ab h1 (ab this (by decide))
theorem dR.all(D:dR salt F N b fb fe ft tb lb pre Ls)(hN:dN N){ks:List Int}(hk:ks.Perm (I6 fb tb).eraseDups):(ks.flatMap λx=>bF salt N (lb x.toNat) (pre x.toNat)).Perm N:=by
 obtain h7:=D.kK;have jZ:∀x∈ks,∃i,i<2^fb/\x=(tb i:Int):=λx hx=>AI.mp (jS.mp (hk.mem_iff.mp hx));have Pt:N.Nodup:=List.Pairwise.of_map (S:=λa b=>a≠b) (λr:aM=>r.1) (λa b h e=>h (bE (λr:aM=>r.1) e)) hN.nd;have ndk:ks.Nodup:=hk.nodup_iff.mpr (kd _ _ (aB _));obtain T7:∀{r:aM} {i:Nat},i<2^fb->r∈bF salt N (lb (tb i)) (pre (tb i))->tb i=tb (ix salt fb r.1):=λhi hr=>(D.RY hi (lE.mp hr).2).symm;refine(Ci ?_ Pt).mpr λr=>?_
 ·refine List.pairwise_flatMap.mpr ⟨λx z=>Pt.sublist gW,List.Pairwise.imp_of_mem (λ{x y} hx hy ei r hr r' wA e=>?_) ndk⟩;refine ak (jZ x hx) λi hi dn=>?_;obtain rfl:=dn;refine ak (jZ y hy) λj hj dX=>?_;obtain rfl:=dX;rw[i8]at hr wA;subst e;exact ei (bE _ ((T7 hi hr).trans (T7 hj wA).symm))
 ·rw[List.mem_flatMap];refine⟨λ⟨x,_,h⟩=>(lE.mp h).1,λh=>?_⟩;obtain hi:ix salt fb r.1<2^fb:=kO r.1 salt (ab h7 (by decide));exact⟨_,hk.mem_iff.mpr (jS.mpr (AI.mpr ⟨_,hi,rfl⟩)),by rw[i8];exact lE.mpr ⟨h,(D.u6 r.1).symm⟩⟩
theorem Ey(D:dR salt F N b fb fe ft tb lb pre Ls)(hN:dN N){r:aM}(hr:r∈N):kh (bF salt N (lb (tb (ix salt fb r.1))) (pre (tb (ix salt fb r.1)))) r.1=.int r.2:=by
 obtain hm:r∈bF salt N (lb (tb (ix salt fb r.1))) (pre (tb (ix salt fb r.1))):=lE.mpr ⟨hr,(D.u6 r.1).symm⟩;obtain⟨j,hj,e⟩:=rk hm;obtain this:=BP (name:=r.1) (hN.nd.sublist ((show(bF salt N (lb (tb (ix salt fb r.1))) (pre (tb (ix salt fb r.1)))).Sublist N from gW).map _)) hj (by rw[e]);rw[e]at this;exact this
theorem AJ(h:∀r∈N,r.1≠name):kh (bF salt N l p) name=.none :=
 BQ λz hj e=>h _ (lE.mp (jb hj)).1 e
end
theorem I8(hb:b.length<=o.length)(h:o.length%56=0):bk b 0 o=o:=by
 unfold bk vU;obtain e:(b++List.replicate (0-b.length) 0).drop (0+o.length)=[]:=by
  rw[List.drop_eq_nil_iff,aW,jG];exact az 0x1e17fa208f30a54ef9d hb (cV _ _)
 rw[e,List.take_zero,List.nil_append,kU];obtain e2:(o.length+55)/56*56-o.length=0:=by lia
 rw[e2];exact kU o
theorem Ja(h:cR.Perm (M.map gh)):∃M':List aM,cR=M'.map gh/\M'.Perm M:=by
 obtain e:∀r:aM,(λr:Str×Int=>(r.1,r.2.toNat)) (gh r)=r:=λr=>rfl;refine⟨cR.map λr=>(r.1,r.2.toNat),?_,?_⟩
 ·rw[bQ];refine((kP λr hr=>?_).trans (yN _)).symm;apply eN (bH.mp (h.mem_iff.mp hr));intro x _;rfl
 ·obtain this:=h.map λr=>(r.1,r.2.toNat);rw[bQ]at this;exact this.trans (yE ((kP λr z=>e r).trans (yN _)))
section
variable {T:St} {number:Nat}
theorem Pu(q:∀b m,(∀F,zI F [] b)->Q (.int 1) (W A B b own m)):dB G ⟨n+5,true⟩ 420 [.ref 5,.int 7] [A,B,.aA .cw (ni 56),.bc .cw 2,.aA .iT [(.cw,.ref 3),(.gg,.ref 6),(.bZ,.ref 7),(.gx,.int 0)],.bc .iT 4,.dr [],.dr [],own] Q:=by
 refine Ld (IW G) rfl MY λhS y=>?_;show eZ _ _ xV [some (.ref 5),some (.int 7),none,none] _ _;unfold xV;walk_at "n";refine aI (x:=5) (dx:=4) rfl rfl rfl ?_;walk_at "n";refine aI (x:=3) (dx:=2) rfl rfl rfl ?_;walk_at "n";refine bo (x:=5) (dx:=4) rfl rfl rfl ?_;walk_at "n";refine IH ?_;walk_at "n";refine bo (x:=5) (dx:=4) rfl rfl rfl ?_;walk_at "n";refine td (k:=1) (by decide) ?_;walk_at "n";refine⟨by decide,?_⟩;walk_at "n";have es:(1*2654435761+40503)%2^32=aY:=rfl;rw[es];refine u4 (i:=11) (rows:=[]) (z:=56) rfl (λx hx=>nomatch hx) (by simp) iZ (by decide) (λhz=>?_) λh=>absurd h (by decide);have hb:=pA aY [] (56-(7+(cA []).length));refine(jw (b:=[]) (at_:=0) (T:=[.list []]) (by simp) (by decide) (by rw[hb];decide) (λe=>by rw[e]at hb;cases hb) λm=>?_).n;walk_at "n";rw[I8 (bM _) (by rw[hb];decide)];refine dT.mN (show 9<=11 by decide) ?_ trivial (q _ _ λF=>.inl ⟨[],.refl _,hz,rfl⟩);refine(((hS.oh (J:=[.aA .fA [(.kind,.int 7),(.block,.int 56),(.most,.int m),(.sM,.bytes [])],.bc .fA 9]) λo ho=>by
  rcases bK.mp ho with rfl | ho
  ·exact uW rfl
  ·apply zL (aV.mp ho);exact(show 9<11 by decide)).set (i:=4) (o:=.aA .iT [(.cw,.ref 3),(.gg,.ref 6),(.bZ,.ref 7),(.gx,.int 1)]) (λp hp=>?_)).set (i:=6) (o:=.dr [(1,.ref 10)]) λp hp=>?_).set (i:=7) (o:=.dr [(1,.bytes (i0 aY [] (56-(7+(cA []).length))))]) (uW rfl)
 ·rcases bK.mp hp with rfl | hp
  ·exact(show 3<11 by decide)
  rcases bK.mp hp with rfl | hp
  ·exact(show 6<11 by decide)
  rcases bK.mp hp with rfl | hp
  ·exact(show 7<11 by decide)
  apply zL (aV.mp hp);trivial
 ·apply zL (aV.mp hp);exact(show 10<11 by decide)
inductive I9(A B own:AO)(T J:St)(F M2:List aM)(name:Str)(number:Nat)(b:List UInt8)(k:Nat)(l':a9)(S':St):Prop
 | mk {b':List UInt8} {m:Int} {w7 w8:Option PV} (hb:tV aY F (M2.take k) b') (eS:S'=W A B b' own m++(T++J)) (el:l'=[some (.ref 5),some (.int 1),some (.str name),some (.int number),some (.bytes b),some (.ref (11+(T.length+(1+1+1+1)))),some .none,w7,w8])
theorem Pw(hF:dN F)(c7:∀p,(bF aY F 7 p).length<=2)(hP:F.Perm (N++[(name,number)]++R))(h:zI F N b)(q:∀b' m,zI F (N++[(name,number)]) b'->Q .none (W A B b' own m++T)) :
  dB G ⟨n+9,true⟩ 425 [.ref 5,.int 1,.str name,.int number] (W A B b own most++T) Q:=by
 refine Ld (IX G) rfl MZ λhS y=>?_;show eZ _ _ xW [some (.ref 5),some (.int 1),some (.str name),some (.int number),none,none,none,none,none] _ _;unfold xW;obtain hz:sz=16777216:=rfl;obtain K3:=iZ;obtain B0:∀(b:List UInt8) (m:Int),jB (W A B b own m++T):=λb m=>BW hS;have Px:dN (N++[(name,number)]):=(hF.perm hP.symm).sub (Cp _ _);refine p9 (Px.ok (name,number) (tY _ (.head _))) λh1 h2 h3 h4=>?_;dsimp only at h1 h2 h3 h4;have hl:=h.len;walk_at "n";refine MG h1 h2 (ab h3 (by decide)) h4 ?_;walk_at "n";refine iC (ah 0x39a298c6d6d200206be064f hl.2) hl.1 ?_;walk_at "n";rcases h with⟨rows,hp,hmf,rfl⟩ | ⟨M,hp,fb,fe,ft,tb,lb,pre,Ls,D⟩
 ·have hb:=pA aY rows (56-(7+(cA rows).length));have nZ:(i0 aY rows (56-(7+(cA rows).length))).length=56:=by exact bu (az 0x2916c7c93907540462515136aca6d4507 hb (ba (ah 0x39d3de547052e06b3cb4317 hmf))) (ah 0xfa078efe68f80f hl.1)
  obtain e0:rd (i0 aY rows (56-(7+(cA rows).length))) 0 56=i0 aY rows (56-(7+(cA rows).length)):=by
   unfold rd;rw[oF,ri (bL nZ)]
  rw[e0];have hNr:dN rows:=(Px.sub (Cp _ _)).perm hp;have xp:∀r∈rows,r.1≠name:=λr hr e=>by
   obtain this:=Px.nd;rw[fy,mT]at this;exact this.2.2 _ (jI (hp.mem_iff.mp hr)) name (.head _) e
  have hM:(rows++[(name,number)]).Perm (N++[(name,number)]):=hp.append_right _;have Y8:=Px.perm hM;have pZ:=Y8.l7;have cD:∀x∈rows,gK x:=λx hx=>hNr.row hx;obtain h01:(i0 aY rows (56-(7+(cA rows).length)))[0]? =some 1:=by simp[i0,oO,lH]
  have hMR:=λ{S:St} {Q:PV->St->Prop} (q:Q (.ref S.length) (S++[.list (rows.map ay)]))=>IL (G:=G) (n:=n+3) (salt:=aY) (z:=56-(7+(cA rows).length)) cD (ah 0x9ab691bf607908bdf nZ) (by rw[aW]at pZ;exact ag 0x9ab693dbc6802d549 pZ) q;generalize i0 aY rows (56-(7+(cA rows).length))=b at *;refine pX h01 (ah 0x9ab691bf607908bdf nZ) (.inl rfl) ?_;walk_at "n";refine b6 (by decide) ?_;walk_at "n";refine y9 rows ay (λr=>if decide (r.1≠name)then some (ay r)else none) (.list (11+T.length) (rows.map ay)) (W A B b own most++(T++[.list (rows.map ay)])) (λKK h'=>?_) rfl (by rw[aW]at pZ;exact ag 0x39a298c6d6687438d736549 pZ) (by show(_:St)[_]? =_;rw[bT];exact eu) (λr hr kk cC=>?_) ?_
  ·walk_at "n";refine hMR ?_;rw[aw,aF];walk_at "n";exact eY (by rw[bT];exact eu) (by rw[aK];rw[aW]at pZ;exact ag 0x127178918c6c2902bbe549 pZ) h'
  ·refine fN ?_;unfold ay at cC ⊢;walk_at "n";refine⟨_,by decide,by simp,rfl,?_⟩;obtain hd:decide (r.1≠name)=true:=cH (xp r hr);rw[hd]at cC;refine fF (by rw[c9 (xp r hr)];rfl) ?_;walk_at "n";exact cC
  rw[xK,yq.mpr λr hr=>cH (xp r hr),aw,aF,aw];walk_at "n";rw[aw,aF,aw,aw];obtain Py:(W A B b own most).length=11:=rfl;simp only[List.cons_append,List.nil_append,aW,dE,je,fS,Py];refine⟨by trivial,by trivial,by trivial,rows.map ay,[ay (name,number)],by rw[bT];exact cb (i:=1) rfl rfl,by rw[bT];exact cb (i:=2) rfl rfl,?_,?_⟩
  ·rw[aK];rw[aW]at pZ;exact ab pZ (by decide)
  obtain eM:rows.map ay++[ay (name,number)]=((rows++[(name,number)]).map gh).map λr=>PV.tup [.str r.1,.int r.2]:=by
   rw[bQ,fy];rfl
  rw[eM];generalize hM':rows++[(name,number)]=M at *;walk_at "n";rw[aw,aw];simp only[List.cons_append,List.nil_append,aW,dE,je,fS,Py];refine vY (rows:=M.map gh) rfl (by rw[bT];exact cb (i:=3) rfl rfl) (by rw[aK];exact a6 pZ (by decide)) (by rw[bQ];exact Y8.nd) λcR wA y=>?_;apply dq (Ja wA);intro M2 zE;obtain eM2:((M2.map gh).map λr=>PV.tup [.str r.1,.int r.2])=M2.map ay:=by rw[bQ];rfl
  rw[eM2];obtain x8:=Y8.perm zE;obtain Y9:∀x∈M2,gK x:=λx hx=>x8.row hx;obtain qC:=x8.l7;rw[aw,aw];simp only[List.cons_append,List.nil_append,aW,dE,je,fS,Py];generalize hJ:([AO.list (rows.map ay),AO.list (rows.map ay),AO.list [PV.tup [PV.str name,PV.int number]],AO.list ((M.map gh).map λr=>PV.tup [.str r.1,.int r.2]),AO.list (M2.map ay)]:St)=J;have gJ:∀(b:List UInt8) (m:Int),(W A B b own m++(T++J))[11+(T.length+(1+1+1+1))]? =some (.list (M2.map ay)):=λb m=>by rw[bT,<-hJ];exact cb (i:=4) rfl rfl
  walk_at "n";refine td (k:=1) (by decide) ?_;obtain es:(1*2654435761+40503)%2^32=aY:=rfl;rw[es,nZ];refine⟨by decide,?_⟩;walk_at "n";refine u4 (rows:=M2) (z:=56) (gJ b most) Y9 (ab qC (by decide)) K3 (by decide) (λhz=>?_) λhz=>?_
  ·walk_at "n";refine⟨rfl,fF rfl ?_⟩;walk_at "n";refine bo (x:=5) (dx:=4) rfl rfl rfl ?_;walk_at "n";obtain Fp:=pA aY M2 (56-(7+(cA M2).length));refine jw (at_:=0) (ah 0x1e37a87571e8d5fcddf nZ) (by decide) (az 0x2facb769c4d7463143cf939b041129687cd9ac17 hz Fp (cV _ _)) (λe=>by rw[e]at Fp;simp at Fp;lia) λm=>?_;rw[I8 (by exact bO 0x92fc3cbaef90e65e038aa9ceffb1cff718a1490ff nZ Fp cP) (by lia)];walk_at "n";rw[<- aw];exact dT.mN (by rw[aF,aF];exact aB _) (B0 _ _) trivial (q _ m (.inl ⟨M2,zE.trans hM,hz,rfl⟩))
  ·walk_at "n";refine b6 rfl ?_;walk_at "n";refine MN (ah 0x9ab691bf607908bdf nZ) λm=>?_;walk_at "n";refine sC (.list (11+(T.length+(1+1+1+1))) (M2.map ay)) (λKK h'=>?_) (I9 A B own T J F M2 name number b) (.mk (w7:=none) (w8:=none) (VQ nZ hF.l7) rfl rfl) (λk l' S' hI=>?_) (λk l' S' d KB hI hd kg y=>?_) (λl' S' hI=>?_)
   ·walk_at "n";exact eY (gJ _ _) (by rw[aK];exact ab qC (by decide)) h'
   ·obtain⟨_,rfl,_⟩:=hI;exact gJ _ _
   ·obtain @⟨b,m,w7,w8,fB,rfl,rfl⟩:=hI;refine zM fB λfb fe ft tb lb pre Ls D=>?_;have fq:k<M2.length:=by
     obtain this:k<(M2.map ay).length:=(bP.mp hd).1
     rwa [aK]at this
    obtain rfl:ay M2[k]=d:=by
     have:(M2.map ay)[k]? =some d:=hd;rw[cv,c8 fq]at this;exact Option.some.inj this
    obtain e1:M2.take (k+1)=M2.take k++[M2[k]]:=by rw[iG,c8 fq];rfl
    have Za:F.Perm (M2.take k++[M2[k]]++(M2.drop (k+1)++R)):=by
     rw[<- e1,<-aw,kj];exact hP.trans ((zE.trans hM).symm.append_right _)
    refine ak (D.put (name:=M2[k].1) (number:=M2[k].2) (by rw[<- e1];exact x8.sub (ro _ _)) Za c7 7 (cV _ _)) λb' i4 P=>?_;refine jL (Y9 _ (jb fq)) λq1 q2 q3=>?_;refine MB rfl ?_;walk_at "n";refine Fi K3 q1 q2 q3 P λm'=>?_;walk_at "n";exact kg _ _ _ _ (gA.refl _ _ _) (.mk (m:=m') (e1▸i4) rfl rfl)
   ·obtain @⟨b,m,w7,w8,i4,rfl,rfl⟩:=hI;obtain e0:(b9.list (11+(T.length+(1+1+1+1))) (M2.map ay)).items.length=M2.length:=aK _;rw[e0,gv]at i4;walk_at "n";rw[<- aw];exact dT.mN (by rw[aF,aF];exact aB _) (B0 _ _) trivial (q _ m (.inr ⟨M2,zE.trans hM,i4⟩))
 ·obtain h0:(rd b 0 56)[0]? =some 2:=by
   obtain e:(rd b 0 18)[0]? =some 2:=by rw[D.n5];simp[di,oO,lH]
   rw[uY (by decide)]at e ⊢;exact e
  obtain Za:F.Perm (M++[(name,number)]++R):=hP.trans ((hp.symm.append_right _).append_right _);refine ak (D.put (Px.perm (hp.append_right _)) Za c7 7 (cV _ _)) λb' i4 P=>?_;refine pX h0 (by rw[gR (by exact ah 0xfa078efe68f80f hl.1)];decide) (.inr rfl) ?_;walk_at "n";refine fF (by decide) ?_;walk_at "n";refine Fi K3 h1 (ab h3 (by decide)) h4 P λm=>?_;walk_at "n";exact .same (q b' m (.inr ⟨_,hp.append_right _,i4⟩))
end
theorem Cc(L:List Int)(salt:Nat):∀k,gm L salt (k+1)≠[]
 | 0=>by
  rw[kM];unfold o7;exact λe=>nomatch e
 | k+1=>by
  rw[kM];obtain this:=Cc L salt k;unfold o7;dsimp only;split
  ·exact λe=>this (List.append_eq_nil_iff.mp e).1
  ·exact this
theorem VS{es:List (Str×PV)}(h:∀p∈es,p.1≠k):put es k d=es++[(k,d)]:=by
 unfold put;rw[ai];rw[C9,List.any_eq_false];exact λp hp=>by simpa using h p hp
noncomputable def cS(N:List aM):List (Str×PV):=N.map λr=>(r.1,.int r.2)
theorem Jb{N:List aM}(nd:(N.map (·.1)).Nodup){r:aM}(hr:r∈N):lk (cS N) r.1=some (.int r.2):=by
 unfold lk cS;rw[List.find?_map];obtain this:N.find? ((λp:Str×PV=>decide (p.1=r.1))∘λr:aM=>(r.1,PV.int r.2))=some r:=by
  cases h:N.find? ((λp:Str×PV=>decide (p.1=r.1))∘λr:aM=>(r.1,PV.int r.2))with
  | none=>exact absurd (CR.mp h r hr) (by simp)
  | some q =>
   obtain h1:=List.find?_some h;have h2:=List.mem_of_find?_eq_some h;exact bE some (x7 nd h2 hr (by simpa using h1))
 rw[this];rfl
theorem M4{N:List aM}(nd:(N.map (·.1)).Nodup){r:aM}(hr:r∈N):(aZ r.1 N).length=N.length-1:=by
 obtain h:=B8 (λx:aM=>decide (x.1=r.1)) N;obtain e:(N.filter λx=>!decide (x.1=r.1))=aZ r.1 N:=kS λx z=>by rw[<- decide_not]
 obtain e1:(N.filter λx=>decide (x.1=r.1)).length=1:=by
  rw[<- List.countP_eq_length_filter];obtain this:=nd.count (a:=r.1);rw[au (jI hr)]at this;unfold List.count at this;rw[List.countP_map]at this;rw[<- this];exact List.countP_congr λx z=>by simp
 rw[e,e1]at h;exact bu (az 0x22b9becc9af6cbc90d3744bfcf h cP) (az 0x12324157737d82bd13094f h (ba (ag 0x1dcddcd61614bff3fcf h)))
section
variable {T:St} {Ls:List Nat}
theorem Jc(D:dR aY F N b fb fe ft tb lb pre Ls)(hN:dN N)(hx:∀c∈name.cps.toList,c<128)(jn:name.cps.size<=255)(q:Q (kh (bF aY N (lb (tb (ix aY fb name))) (pre (tb (ix aY fb name)))) name) (W A B b own most++T)) :
  aT G ⟨n+7,hn⟩ 406 [.ref 5,.int 1,.str name] (W A B b own most++T) Q:=tR (D.here hN name) iZ hx jn q
theorem T8(D:dR aY F N b fb fe ft tb lb pre Ls)(hN:dN N)(q:∀cR:List aM,cR.Perm N->(cR.map gh).Pairwise (λp q=>sP q p=false)->Q (.ref (11+T.length)) (W A B b own most++(T++[.list (cR.map ay)]))) :
  aT G ⟨n+7,true⟩ 413 [.ref 5,.int 1] (W A B b own most++T) Q:=by
 have av:=D.len;have ef:=D.rf;have h7:=D.kK;obtain fH:=D.xZ;obtain p7:=D.t1;obtain hn:=hN.l7;unfold tv at fH;refine O7 (rowsOf:=λx=>bF aY N (lb x) (pre x)) (lb:=lb) (pre:=pre) (tab:=(List.range (2^fb)).map tb) (az 0xc9e8fc0bdb5e71f0a6b96a975147daee7831b5b9147991d9f44c7c1 av ef h7) (bO 0x1184af473b51ec321c1d6e0f9360ceadbd099b481b0941 av fH p7) D.n5 h7 iZ (a6 hn (by decide)) (ag 0x19adf334ac4ce4acf520e736b51547c70a47 ef h7) (bO 0x1de515c79419202f69b651e686a4ec35fe6f6c70a47 ef h7 fH) (gd 0x565bf86ddb0cc5b7158716e8e5e94b97500928377ab5b977d3d61c2ad70be34b0941 av fH (dU _ (by decide))) (by rw[aK,gc]) (λi hi=>?_) D.dup (λx hx=>?_) (λks hk=>?_) λks hk cR hr hs=>?_
 ·rw[aK,gc]at hi;rw[D.te i hi,yA,t9]
 ·apply eN (bH.mp hx);intro i hi;have hi:=iz.mp hi;obtain ho:=D.out _ (D.tm i hi);obtain hf:=D.oq i hi;have j0:(bF aY N (lb (tb i)) (pre (tb i))).Sublist N:=gW;exact⟨az 0x990fc9a31c51400c43e27c524d50336bbc1d70a47 ef h7 ho.2.1,az 0x2f04bfdbb9e220e0c24177784aa83fcf1142b941 av ho.2.1,D.leaf i hi,λr hr=>hN.row (j0.subset hr),hN.xY _ j0 hf,ab hf (by decide)⟩
 ·obtain hp:=D.all hN hk;exact⟨(hp.map _).nodup_iff.mpr hN.nd,by rw[hp.length_eq];exact a6 hn (by decide)⟩
 ·refine ak (Ja hr) λM dn hM=>?_;obtain rfl:=dn;obtain e:((M.map gh).map λr=>PV.tup [.str r.1,.int r.2])=M.map ay:=by rw[bQ];rfl
  rw[e];exact q M (hM.trans (D.all hN hk)) hs
theorem Zb(D:dR aY F N b fb fe ft tb lb pre Ls)(hN:dN N){r:aM}(hr:r∈N)(q:∀b' m,tV aY F (aZ r.1 N) b'->Q .none (W A B b' own m++T)) :
  aT G ⟨n+8,true⟩ 430 [.ref 5,.int 1,.str r.1] (W A B b own most++T) Q:=by
 refine p9 (hN.ok r hr) λh1 h2 h3 h4=>?_;obtain iY:=List.length_pos_of_mem hr;refine MO (D.here hN r.1) iZ h1 (ab h3 (by decide)) (Ey D hN hr) iY ?_ λm=>q _ m ⟨_,_,_,_,_,_,_,by
  obtain this:=D.take (name:=r.1) hN
  rwa [M4 hN.nd hr]at this⟩
 exact hN.xY aY ((jy _).trans gW) (ab (jy _).length_le (D.oq _ (kO r.1 aY (by obtain this:=D.kK;exact ab this (by decide)))))
end
noncomputable abbrev u7:Obj:=excClassObj "Missing" "Missing" 75 74 [.ref 38] [.ref 38,.type "Exception",.type "BaseException",.type "object"] true [] [] false none none (some (.ref 66)) none (some (.str "Missing" 257)) (some (.str "Missing" 265)) (some (.bool true)) "Exception.__new__"
theorem zf(P:Params){h:Heap}(X:(KF P).In h):h.get? 75=some u7:=X 75 u7 (by kernel_rfl)
noncomputable abbrev bp(t:Addr)(d:Option Addr):Obj:={cls:=.ref 75,dict:=d,data:=.fields #[.ref t,.none,.none,.none,.bool false,.none]}
section
variable {prog:Program} {w:World} {A:Around} {E:Value->Shared->Prop} {R:Result->Shared->Prop} {h:Heap} {g:Array GenState} {d:Drawn} {t:Nat} {os:OsState} {P:Params}
theorem Ez(hC:h.get? 75=some u7)(hq:Q () ⟨h,g,d,t,os⟩):wpAny M A (checkBuiltinCall "Exception.__new__" ⟨.ref 75::rest,[]⟩) Q E ⟨h,g,d,t,os⟩:=by
 obtain F:=Cn;obtain aaC:([Value.ref 75,.ref 38,.type "Exception",.type "BaseException",.type "object"]).contains (.type "Exception")=true:=by decide +kernel
 obtain agL:=F.noStar;unfold checkBuiltinCall;rw[F.newKind,F.newSplit];dsimp only;rw[F.newRow];dsimp only
 repeat (first | refine mR hC ?_ | (refine yn hC ?_;refine aaC.symm▸?_) | refine wpAny_staticBase_exc hC ?_ | refine wpAny_madeBy_exc hC ?_ | wp_step)
 exact hq
theorem R7(hC:h.get? 75=some u7)(hr:rest.length<=sizeLine)(hq:R (.ok (.ret (.ref (h.objs.size+1)))) ⟨(h.push {cls:=.type "tuple",data:=.seq rest.toArray}).push (bp h.objs.size none),g,d,t,os⟩) :
  codeAny (model prog w) A (.builtin "Exception.__new__" ⟨.ref 75::rest,[]⟩) R ⟨h,g,d,t,os⟩:=by
 obtain F:=Cn;obtain agM:=F.ends;obtain Pz:([Value.ref 75,.ref 38,.type "Exception",.type "BaseException",.type "object"]).contains (.type "Exception")=true:=by decide +kernel
 obtain hcA:([Value.ref 75,.ref 38,.type "Exception",.type "BaseException",.type "object"]).contains (.type "AttributeError")=false:=by decide +kernel
 obtain hcN:([Value.ref 75,.ref 38,.type "Exception",.type "BaseException",.type "object"]).contains (.type "NameError")=false:=by decide +kernel
 refine codeAny_builtinAt F.entry ?_;unfold Builtin.«BaseException.__new__»;refine PySem.wpAt_bind ?_;show PySem.wpAt _ _ _ (stack>>=_) _ _ _;refine PySem.wpAt_bind (PySem.wpAt_stack λp below=>PySem.wpAt_of_wpAny ?_)
 wp_walk
 refine PySem.wpAt_of_wpAny ?_;refine F.owner.symm▸?_
 repeat (first | with_reducible refine wpAny_madeHere_exc F.canon hC ?_ | with_reducible refine mR hC ?_ | (with_reducible refine yn hC ?_;first | refine Pz.symm▸?_ | rw[hcA] | rw[hcN]) | wp_step)
 show R _ _;rw[jf];exact hq
theorem PA(X:(KF P).In h)(hr:rest.length<=sizeLine)
  (hq:codeAny (model prog w) (A.under (.builtin "type.__call__" ⟨.ref 75::rest,[]⟩)) (.call (.ref 35) ⟨.ref (h.objs.size+1)::rest,[]⟩) (InitBack (h.objs.size+1) R) ⟨(h.push {cls:=.type "tuple",data:=.seq rest.toArray}).push (bp h.objs.size none),g,d,t,os⟩) :
  codeAny (model prog w) A (.call (.ref 75) ⟨rest,[]⟩) R ⟨h,g,d,t,os⟩:=by
 have hC:=zf P X;obtain F:=Cn;obtain f1:=tc_lookup;obtain f2:=tc_bind (.ref 75);obtain hT:(⟨h,g,d,t,os⟩:Shared).TypeIs (.ref 75) "type":=⟨_,hC,rfl⟩;refine um ?_;show wpAny _ _ (callAny (.ref 75) _) _ _ _
 repeat (any_goals (first | assumption | with_reducible refine mR hC ?_ | wp_step))
 refine⟨rfl,?_⟩;refine codeAny_call_builtin_at (ua _ (by decide +kernel)) entry_typeCall (wpAny_check_type_call_sub hC ?_);obtain hhC:([Value.ref 75]++rest)=.ref 75::rest:=rfl;show wpAny _ _ (Builtin.«type.__call__» ⟨.ref 75::rest,[]⟩) _ _ _
 repeat (first | with_reducible refine mR hC ?_ | with_reducible refine wpAny_madeBy_exc hC ?_ | wp_step)
 refine codeAny_call_builtin_code (ua _ F.quiet) (Ez hC ?_);refine R7 hC hr ?_;show wpAny _ _ _ _ _ _;have k:∀b o,h.get? b=some o->((h.push {cls:=.type "tuple",data:=.seq rest.toArray}).push (bp h.objs.size none)).get? b=some o:=λb o e=>cg _ (cg _ e);obtain hx:((h.push {cls:=.type "tuple",data:=.seq rest.toArray}).push (bp h.objs.size none)).get? (h.objs.size+1)=some (bp h.objs.size none):=by heap_get
 obtain t1:Looks (model prog w) ((h.push {cls:=.type "tuple",data:=.seq rest.toArray}).push (bp h.objs.size none)) (typeOf (.ref (h.objs.size+1))) (.ref 75):=(Looks.ld hx).andThen .now;obtain s1:=(looks_subIn (M:=model prog w) X (t:=.ref 75) (base:=.ref 75) (r:=true) (by kernel_rfl)).keeps k;obtain i1:=(looks_findIn (M:=model prog w) X (t:=.ref 75) (name:="__init__") (r:=some (.ref 35)) (by kernel_rfl)).keeps k;obtain b1:=(bind_fn (M:=model prog w) X (f:=35) (.ref (h.objs.size+1)) (by kernel_rfl)).keeps k;unfold isInstance callSpecial? specialOf
 repeat (first | with_reducible refine oI ?_ | lk)
 refine kX hq λr s' z=>?_;rcases r with e | (v | _ | _ | _)<;>first | exact z | exact z.elim | skip
 obtain⟨rfl,z⟩:=z;exact ao (ao z)
end
section
open Builtin Builtin.ObjectAttr Builtin.Getset_descriptor
section
variable {prog:Program} {w:World} {A:Around} {E:Value->Shared->Prop} {s:Shared} {e t:Addr} {v:Value}
theorem R8(hC:s.heap.get? 75=some u7)(he:s.heap.get? e=some (bp t none))
  (q:∀h' t',(∀b o,b≠e->s.heap.get? b=some o->h'.get? b=some o)->h'.get? e=some (bp t' none)->Q .none {s with heap:=h'}):wpAny (model prog w) A (call (.builtin "Exception.__init__") [.ref e,v]) Q E s:=by
 obtain F:=PySem.F.excCall_Exception;obtain Pz:([Value.ref 75,.ref 38,.type "Exception",.type "BaseException",.type "object"]).contains (.type "Exception")=true:=by decide +kernel
 obtain⟨h,g,d,tk,os⟩:=s;refine oI (CB F.init.plain F.initEntry ?_);obtain afB:=F.noStar;unfold checkBuiltinCall;rw[F.initKind,F.initSplit];dsimp only;rw[F.initRow];dsimp only
 repeat (first | with_reducible refine mR he ?_ | with_reducible refine mR hC ?_ | (with_reducible refine yn hC ?_;rw[Pz]) | wp_step)
 refine q _ h.objs.size (λb o hb e'=>?_) ?_
 ·rw[nB _ _ (cM hb)];exact cg _ e'
 ·rw[iD _ (cg _ he) rfl];rfl
theorem JM(self:Value):refuseLoop self "__setattr__" [.type "Exception",.type "BaseException",.type "object"]=pure ():=by kernel_rfl
theorem JN{P:Params}(X:(KF P).In s.heap)(he:s.heap.get? e=some (bp t none))
  (q:∀h' D tk',(∀b o,b≠e->s.heap.get? b=some o->h'.get? b=some o)->h'.get? e=some (bp t (some D))->QU () {s with heap:=h',toks:=tk'}):wpAny (model prog w) A (setAttr (.ref e) "why" v) QU E s:=by
 obtain hC:=zf P X;have I:InstAt s.heap e (bp t none) 75 none:=⟨he,rfl,rfl,trivial⟩;obtain SF:=PySem.F.store_object;refine set_plain X I (by kernel_rfl) ?_;obtain hc:clsIn (KF P) 75=some _:=rfl;obtain sub:Looks (model prog w) s.heap (isInstance (.ref e) (.type "object")) true:=I.type.andThen (looks_subIn X (t:=.ref 75) (base:=.type "object") (r:=true) (by kernel_rfl));refine CB SF.slot.plain SF.entry (@check_slot (model prog w) _ _ {s with toks:=s.toks+1} "object.__setattr__" "object" "__setattr__" (.ref e) [.str "why" s.toks,v] [] _ SF.kind SF.split sub (SF.args (.ref e) (.str "why" s.toks) v) ?_);obtain hm:Looks (model prog w) s.heap (mroOf (.ref 75)) _:=(looks_clsIn X hc).andThen .now;rw[osa_eq,refuse_eq];refine ae (ae (I.type.at (ae (hm.at ?_))));rw[refuseLoop_ref,refuseLoop_ref,JM];refine ao (ae (I.type.at (ae ((looks_findIn X (t:=.ref 75) (name:="why") (r:=none) (by kernel_rfl)).at (ae (ao ?_))))));show wpAny _ _ (storeInOwnDict (.ref e) (.ref 75) (.str "why" s.toks) "why" v false) _ _ _;unfold storeInOwnDict;refine ae (ao (ae (m:=instanceDict e true) ?_));unfold instanceDict;refine ae (wpAny_loadPart he (ae ((looks_clsIn X hc).at ?_)));refine ae (wpAny_alloc ?_);obtain ei:s.heap.objs.size≠e:=jh (bX he);obtain he1:(s.heap.push {cls:=.type "dict",data:=.dict #[]}).get? e=some (bp t none):=cg _ he;obtain hD1:(s.heap.push {cls:=.type "dict",data:=.dict #[]}).get? s.heap.objs.size=some {cls:=.type "dict",data:=.dict #[]}:=dD _ rfl;refine ae (wpAny_update he1 (ao ?_));obtain Zc:((s.heap.push {cls:=.type "dict",data:=.dict #[]}).update e λo=>{o with dict:=some s.heap.objs.size}).get? s.heap.objs.size=some {cls:=.type "dict",data:=.dict #[]}:=(nB _ _ (cM ei)).trans hD1;obtain Ln:((s.heap.push {cls:=.type "dict",data:=.dict #[]}).update e λo=>{o with dict:=some s.heap.objs.size}).get? e=some (bp t (some s.heap.objs.size)):=by
  rw[iD _ he1 rfl]
 show wpAny _ _ (storeInDict s.heap.objs.size (.str "why" s.toks) "why" v) _ _ _;unfold storeInDict;refine ae (ao (ae ?_));unfold nsSet;refine ae (ae (yz (ao (ae (wpAny_mkText (ae (wpAny_loadPart Zc ?_)))))));dsimp only;rw[aRefKeyMayBeTheName_at,show(!(#[]:Array DictEntry).any (·.key.isStr "why")&&(#[]:Array DictEntry).any (·.refKey))=false by simp];refine wpAny_updatePart Zc ?_;obtain hD3:=iD (Obj.putName "why" (PyData.keyHash w.params "why") (.str "why" (s.toks+1)) v) Zc rfl;refine ae (CW hD3 (by rfl) (ao ?_));refine q _ s.heap.objs.size _ (λb o hb e'=>?_) ?_
 ·obtain bz:s.heap.objs.size≠b:=jh (bX e');rw[nB _ _ bz,nB _ _ (cM hb)];exact cg _ e'
 ·rw[nB _ _ ei];exact Ln
end
end
theorem adl:specialOf (.type "Exception") "__getattribute__"=pure (some (.builtin "type.__getattribute__")):=by
 unfold specialOf;rw[show typeOf (.type "Exception")=pure (.type "type") by kernel_rfl];show typeLookup (.type "type") "__getattribute__"=_;rw[fw,fu];kernel_rfl
theorem adm(pl:Sem Bool):getMethod (.type "Exception") "__init__" pl=(do return(<- getAttr (.type "Exception") "__init__",[])):=by
 unfold getMethod;rw[adl];rfl
section
variable {G:GX} {lv:Lv} {c:Cx} {l:a9} {S:St} {se:SE} {n:Nat} {hn:Bool}
theorem aaD(O:bh se c)(C:bw G lv c)(R:aG G c s.heap ρ l S)(hx:(x==("__debug__":Str))=false)(hk:se.names.lookup x=some .globalImplicit)
  (hg:nsIn G.K mainGlobals x=some none) (hn:x≠"__name__") (hv:bootBuiltins x=some v) (h:QQ v s):wpAny G.M c.A (eval (.Name x p) c.aj) QQ E s :=
 CD O.kind (by unfold Env.kindOf;rw[O.names];exact hk) (loadGlobal_builtin (mg:=G.mg) (mb:=G.mb) (by rw[O.mI];exact C.T.g.keeps R.keep) (mg_none_of C.K C.T.g hg) (by rw[O.bi];exact C.T.b.keeps R.keep)
  ((C.T.builtins x hn).trans hv) h) hx
theorem x9(vs:List Value)(n:Nat):bp t d≠ee vs n:=λe=>nomatch bE Obj.cls e
theorem Lo{k:Nat}{e:Addr}(R:aG G c h ρ l S)(hk:ρ[k]? =some e)(hs:∀b o,b≠e->h.get? b=some o->h'.get? b=some o):zu c.L e h h' :=
 ⟨λb o h1 z h2=>hs b o h1 h2,λm hm=>hm.at' λo e'=>hs _ o (cM (R.aX.cQ e (aH hk)).2.1) e'⟩
theorem M5{es:List Expr}(O:bh se c)(C:bw G lv c)(hk:se.names.lookup ("Exception":Str)=some .globalImplicit)(hs:es.all noStar=true)(he:es≠[])(hl:es.length<29)(lr:(dh.endLine==pos.line)=true)
  (h:gj G c es l S λds aa=>∃k x t,ds=[.ref k,x]/\aa[k]? =some (.raw (bp t none))/\∀t',Q .none (aa.set k (.raw (bp t' none)))):EV G c (.Call (.Attribute (.Name "Exception" p) "__init__" dh) es [] pos) l S Q:=λρ s QQ E R K=>by
 refine oV rfl hs hl lr (aaD O C R (by decide +kernel) hk (by kernel_rfl) (by decide +kernel) (by kernel_rfl:bootBuiltins "Exception"=some (.type "Exception")) ?_);rw[adm];refine ae (cls_open (C.K.keeps R.keep) (uw (show opaqueClassAbove (.type "Exception")=pure none by kernel_rfl)) (uw (show typeOf (.type "Exception")=pure (.type "type") by kernel_rfl)) (by kernel_rfl) (uw (show hookBefore (.type "type")=pure none by kernel_rfl)) (by kernel_rfl)
  (show findCls G.K (.type "Exception") (.type "type") "__init__"=some (.val (.builtin "Exception.__init__")) by kernel_rfl) (ao (handed_on (by decide +kernel) (ao ?_))))
 cases es with
 | nil=>exact(he rfl).elim
 | cons e r =>
  refine xA (cG.mp hs) λh1 h2=>?_;refine Calls.callWith_builtin (qK (es:=e::r) hs c.aj pos) ?_;rw[fZ h1];refine evalArgs_plain ?_;have z:=h pos ρ {s with toks:=s.toks+1} (λvs aE=>wpAny G.M c.A (call (.builtin "Exception.__init__") vs) QQ E aE) E R λvs ds h' tk' ar S' X T V' q=>?_
  ·rw[fZ h1]at z;exact z
  obtain⟨k,x,t,rfl,hS,q⟩:=q;obtain⟨v1,v2,rfl,⟨a,ha,rfl⟩,_⟩:=L2.tx V';obtain R':=R.step T X;have K':=K.step (tk':=tk') T;refine R8 (s:=⟨h',_,_,tk',_⟩) (zf G.w.params (C.K.keeps R'.keep)) (X.at_ _ _ _ ha hS).1 λda t' pQ r6=>?_;exact fi.put (s:=⟨h',_,_,tk',_⟩) R' K' .none (.raw (bp t' none)) ha (Lo R' ha pQ) ⟨r6,x9⟩ rfl (q t')
theorem M6{o e:Expr}{p p':Pos}(C:bw G lv c)(hn:eX e=true)(h:EV G c e l S λz aa=>EV G c o l aa λx af=>∃k t,x=.ref k/\af[k]? =some (.raw (bp t none))/\∀D,Q .next l (af.set k (.raw (bp t (some D))))):kb G c (.Assign [.Attribute o "why" p'] e p) l S Q:=λz z z E R K=>by
 refine JS (h _ _ _ E R λv d h' tk ar S' X T V q=>q _ _ _ E (R.step T X) λu x da tk' jX n8 X' T' U q'=>?_) (gP hn _ _ _);obtain⟨k,t,rfl,hS,q'⟩:=q';obtain⟨a,ha,rfl⟩:=U;have R':=(R.step T X).step T' X';refine JN (s:=⟨da,_,_,tk',_⟩) (C.K.keeps R'.keep) (X'.at_ _ _ _ ha hS).1 λh3 D lV pQ r6=>?_;have bt:=Lo R' ha pQ;obtain T3:=R'.oP ha bt;exact K.next (R'.step T3 (R'.AS ha bt (o':=.raw (bp t (some D))) ⟨r6,x9⟩)) ((T.trans T').trans T3).s (q' D)
noncomputable def Zd(se:SE)(b:List Stmt):Bool:=ic b λs1 r=>i6 r λs2=>
 (sO s1 λx z=>nH x λf es kw pos=>gO f (λob m dh=>hZ ob (λy z=>decide (y="Exception")&&decide (se.names.lookup y=some .globalImplicit))&&decide (m="__init__")&&(dh.endLine==pos.line))&&kw.isEmpty&&es.all noStar&&decide (es.length<29)&&(ck (.cons (.loc 0) (.cons (.loc 1) .nil))).s se es) &&
 nN s2 λt v z=>gO t λy m z=>decide (m="why")&&eX v&&(ck (.loc 1)).e se false v&&(ck (.loc 0)).e se false y
theorem aaE(p:Params):yZ (KF p) 35 [Str.ofString "self",Str.ofString "why"] 2 Zd=true:=by kernel_rfl
theorem aaF(X:Setting)(a b:Value):fL G.K X 35 ⟨[a,b],[]⟩=some ([Str.ofString "self",Str.ofString "why"].zip [a,b]):=by kernel_rfl
noncomputable abbrev Lp(p dh pos p0 p3 p4:Pos)(es:List Expr)(y v:Expr):List Stmt:=[.Expr (.Call (.Attribute (.Name "Exception" p) "__init__" dh) es [] pos) p0,.Assign [.Attribute y "why" p4] v p3]
structure Ze(se:SE)(dh pos:Pos)(es:List Expr)(y v:Expr):Prop where
 l:se.names.lookup ("Exception":Str)=some .globalImplicit
 line:(dh.endLine==pos.line)=true
 st:es.all noStar=true
 len:es.length<29
 args:(ck (.cons (.loc 0) (.cons (.loc 1) .nil))).s se es=true
 nc:eX v=true
 v:(ck (.loc 1)).e se false v=true
 y:(ck (.loc 0)).e se false y=true
theorem R9(h:Zd se b=true):∃p dh pos p0 p3 p4 es y v,b=Lp p dh pos p0 p3 p4 es y v/\Ze se dh pos es y v:=by
 refine cq (eG h) λs1 r e1 a1=>?_;refine ak (eP a1) λs2 e2 a2=>?_;refine cq (mG (bU a2).1) λy p1 e3 g1=>?_;refine rO (jz g1) λf es kw pos e4 g2=>?_;obtain g3:=(bU g2).1;obtain g4:=(bU g3).1;have g5:=(bU g4).1;refine nE (fW (bU g5).1) λob m dh e5 g7=>?_;have g8:=(bU g7).1;refine cq (eE (bU g8).1) λz p2 e6 g0=>?_;refine nE (iW (bU a2).2) λt' v' p3 e7 f2=>?_;refine nE (fW f2) λy' m' p4 e8 f3=>?_;have f4:=(bU f3).1;have f5:=(bU f4).1;cases dj.mp (bU g5).2;cases aN (bU g8).2;cases aN (bU g0).1;cases aN (bU f5).1;subst e8 e7 e6 e5 e4 e3 e2;exact⟨p2,dh,pos,p1,p3,p4,es,y',v',e1,aN (bU g0).2,(bU g7).2,(bU g4).2,aN (bU g3).2,(bU g2).2,(bU f5).2,(bU f4).2,(bU f3).2⟩
theorem VT(O:bh se c)(C:bw G lv c)(ok:Ze se dh pos es y v)(h:S[k]? =some (.raw (bp t none)))(q:∀t' D,Qf .next [some (.ref k),some (.str x)] (S.set k (.raw (bp t' (some D))))) :
  ES G c (Lp p dh pos p0 p3 p4 es y v) [some (.ref k),some (.str x)] S Qf:=by
 obtain hk:=(bP.mp h).1;obtain h2:∀lN:Addr,ES G c [.Assign [.Attribute y "why" p4] v p3] [some (.ref k),some (.str x)] (S.set k (.raw (bp lN none))) Qf:=λlN=>by
  refine Dw (M6 C ok.nc ((cj (.loc 1)).v (Q:=λz aa=>EV G c y [some (.ref k),some (.str x)] aa λu af=>∃mP Dd,u=.ref mP/\af[mP]? =some (.raw (bp Dd none))/\∀D,gp (ES G c []) Qf .next [some (.ref k),some (.str x)] (af.set mP (.raw (bp Dd (some D))))) ok.v C O ?_))
  refine(cj (.loc 0)).v (l:=[some (.ref k),some (.str x)]) (S:=S.set k (.raw (bp lN none))) (Q:=λu af=>∃mP Dd,u=.ref mP/\af[mP]? =some (.raw (bp Dd none))/\∀D,gp (ES G c []) Qf .next [some (.ref k),some (.str x)] (af.set mP (.raw (bp Dd (some D))))) ok.y C O ⟨k,lN,rfl,ow hk,λD=>Hk ?_⟩
  rw[mW];exact q lN D
 refine Dw (Hl O rfl (M5 O C ok.l ok.st (λe=>by obtain this:=ok.args;rw[e]at this;exact absurd this bf) ok.len ok.line ((cj (.cons (.loc 0) (.cons (.loc 1) .nil))).s (Q:=λds aa=>∃mP Sa lN,ds=[.ref mP,Sa]/\aa[mP]? =some (.raw (bp lN none))/\∀t',ES G c [.Assign [.Attribute y "why" p4] v p3] [some (.ref k),some (.str x)] (aa.set mP (.raw (bp t' none))) Qf) ok.args C O ?_)));exact(⟨k,_,t,rfl,h,h2⟩:∃mP Sa lN,[PV.ref k,PV.str x]=[.ref mP,Sa]/\S[mP]? =some (.raw (bp lN none))/\∀t',ES G c [.Assign [.Attribute y "why" p4] v p3] [some (.ref k),some (.str x)] (S.set mP (.raw (bp t' none))) Qf)
theorem Jd(h:S[k]? =some (.raw (bp t none)))(q:∀t' D,Q .none (S.set k (.raw (bp t' (some D))))):aT G ⟨n+1,hn⟩ 35 [.ref k,.str x] S Q:=λc C s ρ vs l QQ E R V K=>by
 obtain⟨name,qual,params,b,scope,dV,kV,doc,pm,cdv,ct,an,ob,ky,hd,hf,hc,nq,fE⟩:=y7 (aaE G.w.params);obtain hb:∀X,((jO (G.K.lookup 35)).bind λfd=>peek G.K X (bindArgs fd ⟨vs,[]⟩))=some (List.zip [Str.ofString "self",Str.ofString "why"] vs):=by
  refine dH (L2.tx V) λv1 v2 e1 V1 V2=>?_;subst e1;exact λX=>aaF X v1 v2
 rw[hf]at hb;obtain SF:=uP nq;obtain kH:=C.K.keeps R.keep;obtain⟨p,dh,pos,p0,p3,p4,es,y,v,eb,ok⟩:=R9 fE;exact enter C R V (kH _ _ ky) hd (rD kH hc) SF (rF kH hb) (λc' C' O' FC=>eb▸VT O' C' ok h λt' D=>.same (q t' D)) K
end
section
open Sem (wp)
noncomputable abbrev ya(t:Addr)(x:Value)(d:Option Addr):Obj:={cls:=.ref 75,dict:=d,data:=.fields #[.ref t,x,.none,.none,.bool false,.none]}
structure Kp(fr:List Addr)(e:Addr)(h0 h:Heap):Prop where
 keep:∀b o,b∉fr->b≠e->h0.get? b=some o->h.get? b=some o
 slot:∀b o,b∈fr->h0.get? b=some o->∃sl,h.get? b=some {o with slots:=sl}
 size:h0.objs.size<=h.objs.size
def zJ(h0:Heap)(e t:Addr)(d:Option Addr)(fl:Value)(h:Heap):Prop :=
 ∃T oT ts,h.get? e=some (ya t (.ref T) d)/\T≠e/\h0.get? T=none/\h.get? T=some oT/\oT.data=.fields ts/\ts[3]? =some fl
theorem Kp.refl(fr:List Addr)(e:Addr)(h:Heap):Kp fr e h h:=⟨λz z z z x=>x,λz o z x=>⟨o.slots,x⟩,aB _⟩
section
variable {M:Model} {A:Around} {E:Value->Shared->Prop} {s:Shared} {aj:Env} {bY:List Env} {base h0:Heap} {L e t:Addr} {d:Option Addr} {Q:Unit->Shared->Prop} {fr:List Addr}
theorem Kp.adn(K:Kp fr e h0 h)(he:∃o vs,h0.get? e=some o/\o.data=.fields vs)(hl:h0.FunFrames base l):h.FunFrames base l :=
 hl.of_keeps λb o hb hn=>by
  by_cases hm:b∈fr
  ·refine xE (K.slot b o hm hb) λsl hs=>?_;exact⟨_,hs,rfl⟩
  ·refine⟨o,K.keep b o hm ?_ hb,rfl⟩;rintro rfl;refine cq he λo' vs h1 h2=>?_;rw[hb]at h1;cases h1;exact hn vs h2
theorem Kp.entry(K:Kp fr e h0 s.heap)(zK:h0.get? X=none)(he:s.heap.get? e=some (ya t (.ref X) d))(yb:X≠e)(hT:s.heap.get? X=some oT)(hd:oT.data=.fields ts)(h3:3<ts.size) :
  Kp fr e h0 (s.heap.update X (Obj.mapFields (·.setIfInBounds 3 v)))/\zJ h0 e t d v (s.heap.update X (Obj.mapFields (·.setIfInBounds 3 v))):=by
 have other:∀b,b≠X->(s.heap.update X (Obj.mapFields (·.setIfInBounds 3 v))).get? b=s.heap.get? b:=λb hb=>nB _ _ (cM hb);refine⟨⟨λb o h1 h2 h3=>?_,λb o h1 h2=>?_,by rw[Heap.size_after_update];exact K.size⟩,⟨X,_,_,(other e (cM yb)).trans he,yb,zK,iD _ hT (Cy (t7 hd _)),t7 hd _,by simp[h3]⟩⟩
 ·exact(other b (by rintro rfl;rw[zK]at h3;cases h3)).trans (K.keep b o h1 h2 h3)
 ·refine xE (K.slot b o h1 h2) λsl hs=>?_;exact⟨sl,(other b (by rintro rfl;rw[zK]at h2;cases h2)).trans hs⟩
theorem Lq(K:Kp fr e h0 s.heap)(F:zJ h0 e t d fl s.heap)(q:∀h',Kp fr e h0 h'->zJ h0 e t d .none h'->Q () {s with heap:=h'}):wpAny M A (setFlight (.ref e) none) Q E s:=by
 refine pF F λT oT ts he yb zK hT hd h3=>?_;obtain ek:=(Cm.mp h3).1;unfold setFlight;refine ae (fT he rfl (x:=.ref T) rfl ?_);rw[au (show(Value.ref T != Value.none)=true from by simp)];exact gV hT hd ek (q _ (K.entry zK he yb hT hd ek).1 (K.entry zK he yb hT hd ek).2)
theorem Fq(yc:A.frames=some (aj::bY))(hl:s.heap.FunFrames base (aj::bY))(hf:aj.frame=some L)(K:Kp fr e h0 s.heap)(sub:∀b∈(aj::bY).filterMap (·.frame),b∈fr)(he:s.heap.get? e=some (ya t x d))(nY:e∉fr)
  (q:∀h',Kp fr e h0 h'->zJ h0 e t d .none h'->Q () {s with heap:=h'}) :
  wpAny M A (do let a<-frameOf aj;let pl<-entryPlaceOf L adB;let b<-EntryCells.newEntry x a .none (rawInt L) .none pl;setField (.ref e) 1 b) (λz s'=>wpAny M A (setFlight (.ref e) none) Q E s') E s:=by
 refine ae (wpAny_frameOf_fun yc hl hf λh₁ qL=>?_);refine ae (wpAny_entryPlaceOf λpl IG=>?_);unfold EntryCells.newEntry newFields;refine ae (kR ?_ (IG.sizeOk5 _ _ _ _ _));have T9:h₁.get? e=some (ya t x d):=(qL.2.1 e λm=>nY (sub e m)).trans he;obtain zK:h0.get? h₁.objs.size=none:=yl (by rw[qL.1];exact K.size);have Ua:=cg (h:=h₁) {cls:=.type "traceback",dict:=none,data:=.fields ([x,.ref L,.none,rawInt L,.none]++(if pl.isEmpty then List.replicate 6 Value.none else pl)).toArray} T9
 refine gV Ua rfl (by decide:1<6) ?_;obtain yb:h₁.objs.size≠e:=jh (bX T9);have aaG:=iD (Obj.mapFields (·.setIfInBounds 1 (Value.ref h₁.objs.size))) Ua rfl;have aaH:=(nB (h₁.push {cls:=.type "traceback",dict:=none,data:=.fields ([x,.ref L,.none,rawInt L,.none]++(if pl.isEmpty then List.replicate 6 Value.none else pl)).toArray})
  (Obj.mapFields (·.setIfInBounds 1 (Value.ref h₁.objs.size))) (cM yb)).trans (dD h₁ rfl)
 have keep:∀b o,b≠e->h₁.get? b=some o ->
   ((h₁.push {cls:=.type "traceback",dict:=none,data:=.fields ([x,.ref L,.none,rawInt L,.none]++(if pl.isEmpty then List.replicate 6 Value.none else pl)).toArray}).update e (Obj.mapFields (·.setIfInBounds 1 (Value.ref h₁.objs.size)))).get? b=some o :=
  λb o hbe hb=>by
   rw[nB _ _ (cM hbe)];exact cg _ hb
 have yd:Kp fr e h0 ((h₁.push {cls:=.type "traceback",dict:=none,data:=.fields ([x,.ref L,.none,rawInt L,.none]++(if pl.isEmpty then List.replicate 6 Value.none else pl)).toArray}).update e (Obj.mapFields (·.setIfInBounds 1 (Value.ref h₁.objs.size)))):=by
  refine⟨λb o h1 h2 h3=>keep b o h2 ((qL.2.1 b λm=>h1 (sub b m)).trans (K.keep b o h1 h2 h3)),λb o h1 h2=>?_,?_⟩
  ·refine xE (K.slot b o h1 h2) λsl hs=>?_;refine xE (qL.2.2 b _ hs) λsl' pQ=>?_;exact⟨sl',keep b _ (λq=>nY (q▸h1)) pQ⟩
  ·rw[Heap.size_after_update,jf];exact oB (qL.1.symm▸K.size)
 exact Lq (fl:=rawInt L) yd ⟨h₁.objs.size,_,_,aaG,yb,zK,aaH,rfl,by first | (simp;done) | (rcases IG with rfl | ⟨_,_,_,_,_,_,_,rfl⟩<;>simp)⟩ q
theorem PB(yc:A.frames=some (aj::bY))(hl:s.heap.FunFrames base (aj::bY))(hf:aj.frame=some L)(sub:∀b∈(aj::bY).filterMap (·.frame),b∈fr)(he:s.heap.get? e=some (ya t .none d))(nY:e∉fr)
  (q:∀h',Kp fr e s.heap h'->zJ s.heap e t d .none h'->Q () {s with heap:=h'}):wpAny M A (leaving aj (.ref e)) Q E s:=by
 unfold leaving noteFrame;simp only[hf];refine ae (ae (fT he rfl (x:=.none) rfl ?_));rw[ai (by decide)];exact Fq yc hl hf (.refl _ _ _) sub he nY q
theorem Sb(yc:A.frames=some (aj::bY))(h0l:h0.FunFrames base (aj::bY))(h0e:∃o vs,h0.get? e=some o/\o.data=.fields vs)(hf:aj.frame=some L)(sub:∀b∈(aj::bY).filterMap (·.frame),b∈fr)(K:Kp fr e h0 s.heap)(F:zJ h0 e t d .none s.heap)(nY:e∉fr)
  (q:∀h',Kp fr e h0 h'->zJ h0 e t d .none h'->Q () {s with heap:=h'}):wpAny M A (noteFrame (.ref e) aj) (λz s'=>wpAny M A (setFlight (.ref e) none) Q E s') E s:=by
 refine pF F λT oT ts he yb zK hT hd h3=>?_;have ek:=(Cm.mp h3).1;unfold noteFrame;simp only[hf];refine ae (fT he rfl (x:=.ref T) rfl ?_);rw[au (show(Value.ref T != Value.none)=true from by simp)];refine ae (fT hT hd h3 ?_);rw[ai (show ¬ ((Value.none==rawInt L)=true)from by simp[rawInt])];refine Wn (K.entry (v:=.none) zK he yb hT hd ek) λK' T' z z r6 z=>?_;refine ae (gV hT hd ek ?_);refine Fq yc (K'.adn h0e h0l) hf K' sub ?_ nY q;exact(nB _ _ yb).trans he
end
end
section
variable {G:GX} {lv:Lv} {c:Cx} {l:a9} {S:St} {se:SE} {n:Nat} {hn:Bool}
theorem bw.under(C:bw G ⟨n+1,hn⟩ c)(hp:(c.A.under cd).frames=c.A.frames)(hd:(c.A.under cd).depth=c.A.depth+1)(hu:(c.A.under cd).units<=c.A.units+8)(hh:(c.A.under cd).handled=c.A.handled):bw G ⟨n,hn⟩ {c with A:=c.A.under cd} where
 below:=C.below
 frames:=hp.trans C.frames
 pN:=C.pN
 fk:=C.fk
 K:=C.K
 T:=C.T
 depth:=by obtain this:=C.depth;show(c.A.under cd).depth+n<=900;rw[hd];simp only at this;exact ag 0xd1ad041418d18560f5d0df48ad39c71 this
 units:=by obtain this:=C.units;show(c.A.under cd).units+8*n<=9000;simp only at this;exact az 0x37802912a0f5a2b3f6f2cc87c7408bc7b1b3a72cabaf6c9 hu this
 hn:=λe=>hh.trans (C.hn e)
 nb:=λe=>C.nb (hh.symm.trans e)
 gx:=C.gx.imp mS λh=>⟨mS h.1,h.2⟩
theorem VU(O:bh se c)(C:bw G ⟨n+2,hn⟩ c)(hk:se.names.lookup ("Missing":Str)=some .globalImplicit)(hs:es.all noStar=true)
  (h:gj G c es l S λds aa=>∃x,ds=[.str x]/\∀t D,Q (.ref aa.length) (aa++[.raw (bp t (some D))])):EV G c (.Call (.Name "Missing" p) es [] pos) l S Q:=λρ s QQ E R K=>by
 refine Call_ (lp O C R (by decide +kernel) hk (by kernel_rfl:nsIn G.K mainGlobals "Missing"=some (some (.ref 75))) ?_) rfl;refine A4 C (by kernel_rfl:keepIn G.K (.ref 75)=true) hs R h (first:=[]) λvs ds h' tk' ar S' X T V q=>uQ ?_
 obtain⟨x,rfl,q⟩:=q;have R':=R.step T X;obtain⟨v1,rfl,V1⟩:∃v1,vs=[v1]/\VI ar h' v1 (.str x):=by
  cases V with
  | cons a b=>cases b;exact⟨_,rfl,a⟩
 refine PA (P:=G.w.params) (C.K.keeps R'.keep) (show 1<=sizeLine by decide) ?_;obtain gr:dK c.L h' ((h'.push {cls:=.type "tuple",data:=.seq (List.toArray [v1])}).push (bp h'.objs.size none)):=(dw _ _ _).trans (dw _ _ _);obtain nn:∀ob,h'.get? (h'.objs.size+1)≠some ob:=jq (kZ _);obtain ho:OI G (ar++[h'.objs.size+1]) ((h'.push {cls:=.type "tuple",data:=.seq (List.toArray [v1])}).push (bp h'.objs.size none)) (h'.objs.size+1) (.raw (bp h'.objs.size none)):=⟨by heap_get,x9⟩;obtain X2:=R'.GH gr nn ho;have T2:=R'.zQ gr nn;have ha:(ar++[h'.objs.size+1])[S'.length]? =some (h'.objs.size+1):=by rw[<- R'.aX.len,d9 (aB _),gw];rfl
 obtain C2:bw G ⟨n+1,hn⟩ {c with A:=c.A.under (.builtin "type.__call__" ⟨.ref 75::[v1],[]⟩)}:=C.under (by show pushEnvs [] c.A.frames=_;rw[C.frames];rfl) rfl (by show c.A.units+1<=_;exact Nat.add_le_add_left (by decide) c.A.units) rfl;obtain R2:=aG.under (s:=⟨_,s.gens,s.drawn,tk',s.os⟩) (R'.step T2 X2) (A:=c.A.under (.builtin "type.__call__" ⟨.ref 75::[v1],[]⟩)) rfl;obtain hS:(S'++[AO.raw (bp h'.objs.size none)])[S'.length]? =some (.raw (bp h'.objs.size none)):=by rw[d9 (aB _),gw];rfl
 refine kX (Jd (x:=x) hS (Q:=λr af=>r=.none/\Q (.ref S'.length) af) (λt' D=>⟨rfl,?_⟩) _ C2 _ _ (.ref (h'.objs.size+1)::[v1]) l (λv s'=>v=.none/\QQ (.ref (h'.objs.size+1)) s') E R2 (.cons (.ref ha) (.cons (V1.mono T2.pre (R'.tup T2)) .nil)) λv d h3 lV uR S3 X3 T3 V3 q3=>?_) λr s' z=>?_
 ·rw[kl _ _ (aB _),gw];exact q t' D
 ·obtain⟨rfl,q3⟩:=q3;exact⟨V3,K _ (.ref S'.length) _ _ _ _ ⟨X3.len,X3.nd,X3.at_,X3.cQ⟩ ((T.trans T2).trans T3) (.ref (d7 T3.pre ha)) q3⟩
 ·rcases r with e | (v | _ | _ | _)<;>exact z
theorem Sd{P:Nat->St->Prop}{e:Expr}(C:bw G ⟨n,true⟩ c)(R:aG G c s.heap ρ l S)
  (h:EV G c e l S λd aa=>∃k t D,d=.ref k/\aa[k]? =some (.raw (bp t (some D)))/\P k aa)
  (q:∀h' tk' ar S' k a t D,bR G c h' ar S'->bS c.L s.heap ρ h' ar->ar[k]? =some a->h'.get? a=some (bp t (some D))->P k S'->E (.ref a) {s with heap:=h',toks:=tk'}):wpAny G.M c.A (exec (.Raise (some e) none p) c.aj) QQ E s:=by
 rw[arm_exec_Raise];refine ae (fR ?_);show wpAny _ _ (raiseStmt c.aj (some _) none) _ _ _;unfold raiseStmt;obtain C0:=C.hn rfl;have Pz:([Value.ref 75,.ref 38,.type "Exception",.type "BaseException",.type "object"]).contains (.type "BaseException")=true:=by decide +kernel
 refine ae (ae (h _ _ _ E R λv d h' tk' ar S' X T V z=>ae (fR (ao ?_))));refine fz z λk t D dc hS hP=>?_;obtain rfl:=dc;refine ak V λa ha dn=>?_;obtain rfl:=dn;have he:h'.get? a=some (bp t (some D)):=(X.at_ _ _ _ ha hS).1;obtain hC:=zf G.w.params (C.K.keeps (R.step T X).keep);obtain dz:=q h' tk' ar S' k a t D X T ha he hP;obtain⟨hp,g,dd,tk,os⟩:=s
 repeat (first | with_reducible refine mR he ?_ | with_reducible refine mR hC ?_ | (with_reducible refine yn hC ?_;rw[Pz]) | wp_step)
 exact wpAny_raiseNew_none C0 dz
end
noncomputable def PD(z:Stmt)(K:Option Expr->Option Expr->Pos->Bool):Bool:=if q:z.ctorIdx=16 then Stmt.Raise.elim (motive_2:=λy=>Bool) z q λe k p=>K e k p else false
theorem PE{K:Option Expr->Option Expr->Pos->Bool}(h:PD z K=true):∃e k p,z=.Raise e k p/\K e k p=true:=by
 by_cases q:z.ctorIdx=16
 ·exact Stmt.Raise.elim (motive_2:=λz=>∀q:z.ctorIdx=16,(Stmt.Raise.elim (motive_2:=λy=>Bool) z q λe k p=>K e k p)=true->∃e k p,z=.Raise e k p/\K e k p=true) z q (λe k p y h=>⟨e,k,p,rfl,h⟩) q ((c3 q).symm.trans h)
 ·exact absurd ((c4 q).symm.trans h) bf
noncomputable def Se(x:Str)(se:SE)(as:T)(e:Expr):Bool:=nH e λf es kw z=>hZ f (λy z=>decide (y=x))&&decide (se.names.lookup x=some .globalImplicit)&&kw.isEmpty&&es.all noStar&&(ck as).s se es
theorem Lr{e:Expr}(h:Se x se as e=true):∃p es pos,e=.Call (.Name x p) es [] pos/\se.names.lookup x=some .globalImplicit/\es.all noStar=true/\(ck as).s se es=true:=by
 apply ed (jz h);intro f es kw pos h;refine H8 h λh1 h2 h3 h4 h5=>?_;apply c0 (eE h1);intro y p h1;cases aN h1;cases dj.mp h3;exact⟨p,es,pos,rfl,aN h2,h4,h5⟩
noncomputable def Ce:T:=.cmp .Is (.call 406 (.cons (.loc 0) (.cons (.loc 1) (.cons (.loc 2) .nil)))) (.lit .none)
noncomputable def Zf(se:SE)(b:List Stmt):Bool:=ic b λs1 z=>WH s1 λx y z z=>(ck Ce).e se true x&&i6 y λst=>PD st λe k z=>k.isNone&&sY e (Se "Missing" se (.cons (.lit (.str "no such name")) .nil))
theorem Sf(h:Zf se b=true):∃x z p p2 p3 es pos r,b=.If x [.Raise (some (.Call (.Name "Missing" p3) es [] pos)) none p2] z p::r/\(ck Ce).e se true x=true/\se.names.lookup ("Missing":Str)=some .globalImplicit/\es.all noStar=true/\(ck (.cons (.lit (.str "no such name")) .nil)).s se es=true:=by
 apply c0 (eG h);intro s1 r h;apply ed (Nr h);intro x y z p h;refine dC h λht hy=>?_;apply dq (eP hy);intro st hy;apply bJ (PE hy);intro e k p2 hy;refine dC hy λhk hy=>?_;cases lO.mp hk;apply dq (mM hy);intro e hy;refine k8 (Lr hy) λp3 es pos kA hl hs has=>?_;cases kA;exact⟨x,z,p,p2,p3,es,pos,r,rfl,ht,hl,hs,has⟩
theorem aaI(p:Params):yZ (KF p) 430 ly.aD 3 Zf=true:=by kernel_rfl
section
variable {G:GX} {lv:Lv} {c:Cx} {l:a9} {S:St} {n:Nat} {hn:Bool} {ρ:List Addr} {s:Shared} {QQ:Value->Shared->Prop} {E:Value->Shared->Prop}
theorem Fs(C:bw G lv c)(R:aG G c h ρ l S):h.FunFrames c.base (c.hO::c.bY):=by
 refine xE R.fr λm F=>?_;refine fz F.ns λo es ep ho hd z=>?_;refine⟨by rw[C.fk];exact(λe=>nomatch e),⟨c.L,o,C.pN,?_,ho,λvs e=>(nomatch hd.symm.trans e)⟩,C.below.frames.of_keeps λb o e z=>⟨o,R.keep b o e,rfl⟩⟩;cases q:c.base.get? c.L with
 | none=>rfl
 | some o'=>exact absurd (aJ (bX (C.below.stays _ o' q)) R.above) (jg _)
theorem VV(p:xs <+: ys)(h1:xs.length=n)(h2:ys.length=n+1)(h3:ys[n]? =some a):ys=xs++[a]:=by
 obtain⟨zs,rfl⟩:=p;rw[aW,h1]at h2;rw[d9 (bL h1),h1,gw]at h3
 match zs,h2,h3 with
 | [b],_,h3=>cases h3;rfl
 | [],h2,_=>exact absurd h2 (by simp)
 | _::_::_,h2,_=>exact absurd h2 (by simp)
theorem PF(h:∀Q:PV->St->Prop,Q r S->aT G lv 406 [d0,d1,d2] S Q)(hr:∀Q:PV->St->Prop,Q (.bool b) S->fX S Q .Is r .none)(q:Q (.bool b) S):aO G lv Ce (some d0::some d1::some d2::l) S Q :=
 h (λx aa=>fX aa Q .Is x .none) (hr Q q)
theorem JO(C:bw G ⟨n+8,true⟩ c)(R:aG G c s.heap ρ l S)(V:c5 ρ s.heap vs [d0,d1,d2])
  (hf:∀Q:PV->St->Prop,Q .none S->aT G ⟨n+7,true⟩ 406 [d0,d1,d2] S Q)
  (K:∀L2 h2 h3 tk e t D,s.heap.get? L2=none->(∀us m,h2.get? L2≠some (ee us m))->bR G c h2 (ρ++[e]) (S++[.raw (bp t (some D))])->bS c.L s.heap ρ h2 (ρ++[e])->Kp (L2::(c.hO::c.bY).filterMap (·.frame)) e h2 h3 ->
   e∉L2::(c.hO::c.bY).filterMap (·.frame)->zJ h2 e t (some D) .none h3->E (.ref e) {s with heap:=h3,toks:=tk}):codeAny G.M c.A (.call (.ref 430) ⟨vs,[]⟩) (j7 QQ E) s:=by
 obtain⟨name,qual,params,b,scope,dV,kV,doc,pm,cdv,ct,an,ob,ky,hd,Zg,hc,nq,fE⟩:=y7 (aaI G.w.params);obtain hb:∀X,((jO (G.K.lookup 430)).bind λfd=>peek G.K X (bindArgs fd ⟨vs,[]⟩))=some (ly.aD.zip vs):=zC (G:=G) vs (L2.len V);rw[Zg]at hb;obtain SF:=uP nq;obtain kH:=C.K.keeps R.keep;obtain⟨x,z,p,p2,p3,es,pos,r,i4,ht,hl,hs,has⟩:=Sf fE;refine Cw (a6 (ab (cT _ _) C.depth) (by decide)) (kH _ _ ky) hd SF.co SF.gen rfl (rD kH hc) (wZ (E':=E) C R V SF (rF kH hb) (P:=λaj bq=>codeAny G.M c.A (.func _ aj) (j7 QQ E) bq) λc' bq N C' O' FC' R'=>codeAny_func ?_);rw[<- N.A,i4];refine uf (wpAny_If ?_);refine((cj Ce).b (Q:=λt aa=>t=true/\aa=S) ht C' O' (PF (b:=true) (r:=.none) hf (λy q=>q) ⟨rfl,rfl⟩)) ρ bq _ _ R' λb h' tk' ar S' X T z=>?_;obtain⟨rfl,z⟩:=z;obtain rfl:=z.symm;refine uf (Sd (P:=λk aa=>k=S.length/\∃t D,aa=S++[.raw (bp t (some D))]) C' (R'.step T X) (VU O' C' hl hs ((cj (.cons (.lit (.str "no such name")) .nil)).s has C' O' ?_)) λcJ iO sN af k a t D nM kF ha he hP=>?_)
 ·exact(⟨_,rfl,λt D=>⟨S.length,t,D,rfl,by rw[d9 (aB _),gw];rfl,rfl,t,D,rfl⟩⟩:∃x,[PV.str "no such name"]=[.str x]/\∀t D,∃k t' D',PV.ref S.length=.ref k/\(S++[AO.raw (bp t (some D))])[k]? =some (.raw (bp t' (some D')))/\k=S.length/\∃lN EA,S++[AO.raw (bp t (some D))]=S++[.raw (bp lN (some EA))])
 refine ab8 hP λwR lN EA rW=>?_;obtain rfl:=wR;obtain rfl:=rW;obtain rfl:sN=ρ++[a]:=VV (T.pre.trans kF.pre) R.aX.len (by rw[nM.len,aW];rfl) ha;have aaJ:(S++[AO.raw (bp lN (some EA))])[S.length]? =some (.raw (bp lN (some EA))):=by rw[d9 (aB _),gw];rfl
 have r6:cJ.get? a=some (bp lN (some EA)):=(nM.at_ _ _ _ ha aaJ).1;have yc:c'.A.frames=some (c'.aj::c.hO::c.bY):=by rw[N.A];exact Around.frames_deeper C.frames
 obtain Lu:c'.hO=c'.aj:=(ue.mp (Option.some.inj (C'.frames.symm.trans yc))).1;have qA:cJ.FunFrames c.base (c'.aj::c.hO::c.bY):=by
  have:=Fs C' ((R'.step T X).step kF nM);rw[Lu,N.bY,N.base]at this;exact this
 have Sz:c'.aj.frame=some c'.L:=Lu▸C'.pN;obtain Fn:(c'.aj::c.hO::c.bY).filterMap (·.frame)=c'.L::(c.hO::c.bY).filterMap (·.frame):=nA Sz;have nY:a∉c'.L::(c.hO::c.bY).filterMap (·.frame):=λm=>by
  refine Lz (qA.mem (Fn▸m)) λy o ho hn=>?_;rw[r6]at ho;cases ho;exact hn _ rfl
 refine PB yc qA Sz (fr:=c'.L::(c.hO::c.bY).filterMap (·.frame)) (λb hb=>Fn▸hb) r6 nY λko yd Je=>?_;refine xE N.rest λaaK Hd=>?_;refine xA (N.Xl R (T.s.trans kF.s) ⟨[a],rfl⟩ (λy h=>h) nM) λG2 rY=>?_;show E (.ref a) _;rw[Hd];refine K c'.L cJ ko _ a lN EA ?_ (λus m e=>xE (((R'.step T X).step kF nM).gz) λy hn=>kq hn e) G2 rY yd nY Je;cases q:s.heap.get? c'.L with
 | none=>rfl
 | some o=>exact absurd (N.size _ o q) (jg _)
end
noncomputable def sJ(c c1:Cx)(e:Addr)(h:Heap):Cx:={c1 with A:=c1.A.mark (some (.ref e)),h₀:=ktsHeap h [c.L] c1.h₀}
section
variable {G:GX} {lv:Lv} {c c1:Cx} {l l1:a9} {S:St} {n:Nat} {ρ:List Addr} {s s1:Shared} {h2 h4:Heap} {e L2 t:Addr} {d:Option Addr} {fl:Value} {o':AO} {r:List Addr}
structure iv(G:GX)(c c1:Cx)(s s1:Shared)(ρ:List Addr)(l l1:a9)(S:St)(h2:Heap)(e L2:Addr)(o':AO):Prop where
 lv:c.bY=[]
 C:∃lv,bw G lv c
 R:aG G c s.heap ρ l S
 N:NQ c c1 s s1
 C1:bw G ⟨100,true⟩ c1
 FC:fD c1
 R1:aG G c1 s1.heap ρ l1 S
 R2:aG G c1 h2 (ρ++[e]) l1 (S++[o'])
 T2:bS c1.L s1.heap ρ h2 (ρ++[e])
 PG:s1.heap.get? L2=none
 tup:∀us m,h2.get? L2≠some (ee us m)
 exc:∃o vs,h2.get? e=some o/\o.data=.fields vs
theorem iv.fs(H:iv G c c1 s s1 ρ l l1 S h2 e L2 o'):(c1.bY).filterMap (·.frame)=[c.L]:=by
 refine xE H.C λz C=>?_;rw[H.N.bY,H.lv];exact nA C.pN
theorem iv.EJ(H:iv G c c1 s s1 ρ l l1 S h2 e L2 o'):∀m,s.heap.Ns c.L m->h2.Ns c.L m:=λm hm=>(H.N.gr.ns m hm).at' λo e'=>by
 refine nE hm λob z z Hb z=>?_;exact(H.T2.old _ o (cU (H.N.size _ ob Hb)) e' λq=>(H.R.aX.cQ _ q).2.1 rfl).1
theorem iv.Ub(H:iv G c c1 s s1 ρ l l1 S h2 e L2 o'){b:Addr}{o:Obj}(x:s1.heap.get? b=some o):b≠L2:=λq=>nomatch (q▸x).symm.trans H.PG
theorem iv.Zh(H:iv G c c1 s s1 ρ l l1 S h2 e L2 o'){b:Addr}(x:c1.h₀.get? b=none):b≠c.L:=by
 rintro rfl;refine Lz (H.N.ground.mem (b:=c.L) (by rw[<- H.N.bY,H.fs];exact .head _)) λz o ho z=>?_;rw[x]at ho;cases ho
theorem iv.in0(H:iv G c c1 s s1 ρ l l1 S h2 e L2 o'):∀b∈[c.L],∃o,c1.h₀.get? b=some o:=λb hb=>by
 refine Lz (H.N.ground.mem (b:=b) (by rw[<- H.N.bY,H.fs];exact hb)) λz o ho z=>?_;exact⟨o,ho⟩
theorem iv.cQ(H:iv G c c1 s s1 ρ l l1 S h2 e L2 o'):c1.h₀.get? e=none/\e≠c1.L/\∀v∈c1.dS,v.iU≠e:=H.R2.aX.cQ e (tY _ (.head _))
theorem iv.nin(H:iv G c c1 s s1 ρ l l1 S h2 e L2 o'):e∉ρ:=λq=>(mT.mp H.R2.aX.nd).2.2 e q e (.head _) rfl
theorem iv.mem(H:iv G c c1 s s1 ρ l l1 S h2 e L2 o'){b:Addr}(h1:b≠L2)(h2':b≠c1.L)(h3:b≠c.L):b∉L2::c1.L::[c.L]:=λq=>by
 rcases bK.mp q with q | q
 ·exact h1 q
 ·rcases bK.mp q with q | q
  ·exact h2' q
  ·exact h3 (aV.mp q)
theorem iv.mJ(H:iv G c c1 s s1 ρ l l1 S h2 e L2 o')(K:Kp (L2::c1.L::[c.L]) e h2 h4):KtsTurn [c.L] c1.h₀ (ktsHeap h4 [c.L] c1.h₀)/\∀b o,(ktsHeap h4 [c.L] c1.h₀).get? b=some o->h4.get? b=some o:=by
 refine kts_turn_at H.in0 (λb o e' nm=>K.keep b o (H.mem (H.Ub (H.R1.keep b o e')) (H.R1.Gk e') λq=>nm (q▸.head _)) (λq=>nomatch (q▸e').symm.trans H.cQ.1) (H.R2.keep b o e')) λb o e' m=>K.slot b o (.tail _ (.tail _ m)) (H.R2.keep b o e')
theorem iv.cx(H:iv G c c1 s s1 ρ l l1 S h2 e L2 o')(K:Kp (L2::c1.L::[c.L]) e h2 h4):bw G ⟨50,false⟩ (sJ c c1 e h4):=by
 refine xA (H.mJ K) λT y=>?_;refine xE H.C λlv C=>?_;obtain k:∀b o,c.h₀.get? b=some o->(ktsHeap h4 [c.L] c1.h₀).get? b=some o:=λb o x=>T.other b o (H.N.jY b o x) λq=>H.R.Gk x (aV.mp q);exact {
     below:=⟨H.C1.below.stack,λb o x=>T.other b o (H.C1.below.stays b o x) λq=>by
      refine xA (H.N.ground.mem (b:=b) (by rw[<- H.N.bY,H.fs];exact q)) λz y=>?_;rw[<- H.N.base]at z;exact absurd ((show c1.base.get? b=_ from x).symm.trans z) (λe=>(nomatch e)),H.C1.below.frames.of_keeps λb o x y=>xE (T.up x) λsl hs=>⟨_,hs,rfl⟩⟩
     frames:=H.C1.frames
     pN:=H.C1.pN
     fk:=H.C1.fk
     K:=C.K.keeps k
     T:=C.T.keeps k
     depth:=by obtain this:=H.C1.depth;show c1.A.depth+50<=900;simp only at this;exact ah 0x4318a52532e6440b7a4ed57eba1e9f this
     units:=by obtain this:=H.C1.units;show c1.A.units+8*50<=9000;simp only at this;exact ah 0x7ff9c994b812ab8607592e6cb1d337d2fb this
     hn:=λx=>nomatch x
     nb:=λx=>nomatch x
     gx:=.inl (by decide)}
theorem iv.tk(H:iv G c c1 s s1 ρ l l1 S h2 e L2 o')(K:Kp (L2::c1.L::[c.L]) e h2 h4):bB h2 h4:=λa vs n x=>by
 refine K.keep a _ (H.mem (λq=>H.tup vs n (q▸x)) (λq=>?_) λq=>?_) (λq=>?_) x
 ·refine xE H.R2.gz λm hm=>?_;exact kq hm (q▸x)
 ·refine xE H.R.gz λm hm=>?_;exact kq (H.EJ m hm) (q▸x)
 ·refine cq H.exc λo us h1 hd=>?_;rw[q,h1]at x;cases x;cases hd
theorem iv.ado(H:iv G c c1 s s1 ρ l l1 S h2 e L2 o'):bR G c1 h2 ρ S:=by
 obtain z:=H.R2.aX.lY H.R1.aX.sc;rw[<- H.R1.aX.len,List.take_left]at z;exact z
theorem iv.n9(H:iv G c c1 s s1 ρ l l1 S h2 e L2 o')(K:Kp (L2::c1.L::[c.L]) e h2 h4)(F:zJ h2 e t d fl h4):aG G (sJ c c1 e h4) h4 ρ l1 S:=by
 refine xA (H.mJ K) λT k2=>?_;have nsU:∀b m,b∈L2::c1.L::[c.L]->h2.Ns b m->h4.Ns b m:=λb m hb hm=>by
  refine fz hm λo es ep ho hd r=>?_;refine xE (K.slot b o hb ho) λsl hs=>?_;exact⟨_,es,ep,hs,hd,r⟩
 obtain np:∀b,b∈ρ->∀ob,h2.get? b=some ob->h4.get? b=some ob:=λb hb ob x=>by
  refine ak (H.R1.aX.live hb) λo1 Bk y=>?_;obtain z:=H.R1.aX.cQ b hb;exact K.keep b ob (H.mem (H.Ub Bk) z.2.1 (H.Zh z.1)) (λq=>H.nin (q▸hb)) x
 exact {
     keep:=k2
     above:=by show(ktsHeap h4 [c.L] c1.h₀).objs.size<=_;rw[T.size];exact H.R1.above
     rR:=by show _<(ktsHeap h4 [c.L] c1.h₀).objs.size;rw[T.size];exact H.R1.rR
     len:=H.R1.len
     gz:=xE (H.R2.gz) λm hm=>⟨m,nsU _ m (.tail _ (.head _)) hm⟩
     cQ:=λv hv=>T.none_ _ (H.R1.cQ v hv)
     var:=λi v hv=>by
      have zx:c1.dS[i]? =some v:=hv;have hm:=aH zx;obtain z:=(H.R1.step H.T2 H.R2.aX).var i v zx;refine ak (H.R1.AR hm) λo1 Bk y=>?_;refine((H.R1.var i v zx).keep H.R1.gz (bV _) (H.R1.tup H.T2) (λnL ob x=>(H.T2.old _ ob nL x (H.R1.SA hm)).1) H.T2.ns).keep H.R2.gz (bV _) (H.tk K) (λnL ob x=>K.keep _ ob (H.mem (H.Ub Bk) nL (H.Zh (H.R1.cQ v hm))) (H.cQ.2.2 v hm) x) λm hm=>nsU _ m (.tail _ (.head _)) hm
     aX:=⟨H.R1.aX.len,H.R1.aX.nd,λi a o ha ho=>((H.ado.at_ i a o ha ho).keep (bV _) (H.tk K) (np a (aH ha))),λa ha=>⟨T.none_ _ (H.R1.aX.cQ a ha).1,(H.R1.aX.cQ a ha).2⟩⟩
     exc:=λv hv=>by
      cases hv;refine nE F λT' oT ts he y=>?_;exact⟨e,_,_,rfl,H.cQ.2.1,he,rfl,rfl,H.nin⟩}
end
noncomputable def Zi(z:Stmt)(K:List Stmt->List ExceptHandler->List Stmt->List Stmt->Pos->Bool):Bool:=if q:z.ctorIdx=17 then Stmt.Try.elim (motive_2:=λy=>Bool) z q λa b e f p=>K a b e f p else false
theorem VW{K:List Stmt->List ExceptHandler->List Stmt->List Stmt->Pos->Bool}(h:Zi z K=true):∃a b e f p,z=.Try a b e f p/\K a b e f p=true:=by
 by_cases q:z.ctorIdx=17
 ·exact Stmt.Try.elim (motive_2:=λz=>∀q:z.ctorIdx=17,(Stmt.Try.elim (motive_2:=λy=>Bool) z q λa b e f p=>K a b e f p)=true->∃a b e f p,z=.Try a b e f p/\K a b e f p=true) z q (λa b e f p y h=>⟨a,b,e,f,p,rfl,h⟩) q ((c3 q).symm.trans h)
 ·exact absurd ((c4 q).symm.trans h) bf
noncomputable def Ft(z:ExceptHandler)(K:Option Expr->Option Str->List Stmt->Pos->Bool):Bool:=match z with
 | .ExceptHandler a b c d=>K a b c d
theorem Jf{K:Option Expr->Option Str->List Stmt->Pos->Bool}(h:Ft z K=true):∃a b c d,z=.ExceptHandler a b c d/\K a b c d=true:=by
 cases z with
 | ExceptHandler a b c d=>exact⟨a,b,c,d,rfl,h⟩
noncomputable def M7:T:=.cons (.loc 0) (.cons (.loc 1) (.cons (.loc 2) .nil))
noncomputable def Cf:P:=.cons (.ret Ce) .nil
noncomputable def PH(se:SE)(b:List Stmt):Bool:=ic b λs1 z=>Zi s1 λbd hs z dz z=>dz.isEmpty&&(i6 bd λst=>sO st λx z=>eX x&&Se "zap_take" se M7 x) &&
 i6 hs λh=>Ft h λty nm su z=>nm.isNone&&sY ty (λx=>hZ x λy z=>decide (y="Missing")&&decide (se.names.lookup y=some .globalImplicit))&&ic su λz z=>(Fb Cf).s se su
theorem VX(p:Params):yZ (KF p) 619 [Str.ofString "objset",Str.ofString "zap",Str.ofString "name"] 3 PH=true:=by kernel_rfl
theorem VY(p:Params)(X:Setting)(a b d:Value):fL (KF p) X 619 ⟨[a,b,d],[]⟩=some ([Str.ofString "objset",Str.ofString "zap",Str.ofString "name"].zip [a,b,d]):=by kernel_rfl
noncomputable abbrev Jg(pa p2 pos p3 p4 p:Pos)(es:List Expr)(su oe:List Stmt):Stmt:=.Try [.Expr (.Call (.Name "zap_take" p2) es [] pos) pa] [.ExceptHandler (some (.Name "Missing" p4)) none su p3] oe [] p
structure Jh(se:SE)(pos p2:Pos)(es:List Expr)(su:List Stmt):Prop where
 nc:eX (.Call (.Name ("zap_take":Str) p2) es [] pos)=true
 l:se.names.lookup ("zap_take":Str)=some .globalImplicit
 st:es.all noStar=true
 args:(ck M7).s se es=true
 ml:se.names.lookup ("Missing":Str)=some .globalImplicit
 su:(Fb Cf).s se su=true
theorem M8(h:PH se b=true):∃pa p2 pos p3 p4 p es b0 br oe r,b=Jg pa p2 pos p3 p4 p es (b0::br) oe::r/\Jh se pos p2 es (b0::br):=by
 refine cq (eG h) λs1 r e1 a1=>?_;refine Ul (VW a1) λbd hs oe dz p e2 a2=>?_;have a3:=(bU a2).1;refine ak (eP (bU a3).2) λst e3 a7=>?_;refine cq (mG a7) λx pa e4 a8=>?_;refine k8 (Lr (bU a8).2) λp2 es pos e5 hl iP has=>?_;refine ak (eP (bU a2).2) λhd1 e6 b1=>?_;refine rO (Jf b1) λty nm su p3 e7 b2=>?_;obtain b3:=(bU b2).1;refine ak (mM (bU b3).2) λx' e8 b7=>?_;refine cq (eE b7) λy p4 e9 b8=>?_;refine cq (eG (bU b2).2) λb0 br YD hsu=>?_;subst YD e9 e8 e7 e6 e5 e4 e3;cases aN (bU b8).1;cases dj.mp (bU a3).1;cases lO.mp (bU b3).1;exact⟨pa,p2,pos,p3,p4,p,es,b0,br,oe,r,by rw[e1,e2],(bU a8).1,hl,iP,has,aN (bU b8).2,hsu⟩
section
variable {G:GX} {S:St} {c c1:Cx} {l l1 l6:a9} {ρ:List Addr} {s s1:Shared} {h2 h3 h5 h6:Heap} {e L2 t:Addr} {D:Addr} {o':AO} {d0 d1 d2:PV} {se:SE} {Qf:Flow->Shared->Prop} {E':Value->Shared->Prop}
theorem iv.dz(H:iv G c c1 s s1 ρ l l1 S h2 e L2 o')(K5:Kp (L2::c1.L::[c.L]) e h2 h5)(R6:aG G (sJ c c1 e h5) h6 ρ l6 S)(T6:eO (sJ c c1 e h5) h5 ρ h6 ρ):bR G c h6 ρ S/\bS c.L s.heap ρ h6 ρ:=by
 refine⟨⟨H.R.aX.len,H.R.aX.nd,R6.aX.at_,H.R.aX.cQ⟩,⟨bV _,λb o nb x nr=>⟨?_,nr⟩,λm hm=>?_⟩⟩
 ·obtain x1:=H.N.gr.old b o nb x;obtain x2:=(H.T2.old b o (cU (H.N.size b o x)) x1 nr);obtain x5:=K5.keep b o (H.mem (H.Ub x1) (cU (H.N.size b o x)) nb) (λq=>x2.2 (q▸tY _ (.head _))) x2.1;exact(T6.old b o (cU (H.N.size b o x)) (H.N.loc b o x) x5 nr).1
 ·refine fz (H.EJ m hm) λo wc ep ho lU r'=>?_;refine xE (K5.slot c.L o (.tail _ (.tail _ (.head _))) ho) λsl pQ=>?_;refine nE hm λoL z z EO z=>?_;exact⟨_,wc,ep,(T6.old _ _ (cU (H.N.size _ _ EO)) (H.N.loc _ _ EO) pQ λq=>(H.R.aX.cQ _ q).2.1 rfl).1,lU,r'⟩
theorem M9(H:iv G c c1 s s1 ρ l [some d0,some d1,some d2] S h2 e L2 (.raw (bp t (some D))))(O1:bh se c1)(ok:Jh se pos p2 es (b0::br))(Ln:h2.get? e=some (bp t (some D)))
  (hf:∀n hn (Q:PV->St->Prop),Q .none S->aT G ⟨n+7,hn⟩ 406 [d0,d1,d2] S Q) (yc:c1.A.frames=some (c1.aj::c.hO::c.bY)) (yd:Kp (L2::c1.L::[c.L]) e h2 h3) (nY:e∉L2::c1.L::[c.L]) (Je:zJ h2 e t (some D) .none h3)
  (k:∀h6 tk',bR G c h6 ρ S->bS c.L s.heap ρ h6 ρ->Qf (.ret (.bool true)) {s1 with heap:=h6,toks:=tk'}) :
  wpAny G.M c1.A (noteFrame (.ref e) c1.aj) (λy bq=>wpAny G.M c1.A (setFlight (.ref e) none) (λy lJ=>wpAny G.M c1.A (handleBy (.ref e) c1.aj [.ExceptHandler (some (.Name "Missing" p4)) none (b0::br) p3]) Qf E' lJ) E' bq) E' {s1 with heap:=h3,toks:=tk}:=by
 obtain Lu:c1.hO=c1.aj:=(ue.mp (Option.some.inj (H.C1.frames.symm.trans yc))).1;have qA:h2.FunFrames c.base (c1.aj::c.hO::c.bY):=by
  have:=Fs H.C1 H.R2;rw[Lu,H.N.bY,H.N.base]at this;exact this
 have adp:(c1.aj::c.hO::c.bY).filterMap (·.frame)=c1.L::[c.L]:=by rw[<- Lu,<-H.N.bY];exact(nA H.C1.pN).trans (bE _ H.fs)
 refine Sb (fr:=L2::c1.L::[c.L]) yc qA ⟨_,_,Ln,rfl⟩ (Lu▸H.C1.pN) (λb hb=>.tail _ (adp▸hb)) yd Je nY λh4 K4 F4=>?_;refine wpAny_handleBy_cons (codeAny_handlers_test ?_) (λq=>nomatch q);have om:∀h,bh se (sJ c c1 e h):=λh=>⟨O1.kind,O1.names,O1.mI,O1.bi,O1.len,O1.var⟩;have fm:∀h,fD (sJ c c1 e h):=λh=>⟨H.FC.loc,H.FC.ap,H.FC.EJ,H.FC.nf⟩;have Zj:∃o,h4.get? e=some o/\o.cls=.ref 75:=by
  refine nE F4 λy y y x y=>?_;exact⟨_,x,rfl⟩
 refine ak Zj λoe Zj hce=>?_;refine lp (c:=sJ c c1 e h4) (om h4) (H.cx K4) (H.n9 K4 F4) (by decide +kernel) ok.ml (by kernel_rfl:nsIn G.K mainGlobals "Missing"=some (some (.ref 75))) ?_;refine(exm_one (M:=G.M) (K:=G.K) ((H.cx K4).K.keeps (H.n9 K4 F4).keep) (hce▸(Looks.ld Zj).andThen .now) (by kernel_rfl:exmOne G.K (.ref 75) (.ref 75)=some true)).at ?_;refine codeAny_handlers_suite (Lq K4 F4 λh5 K5 F5=>?_);refine(DP Cf).s (Q:=λfl y aa=>fl=.ret (.bool true)/\aa=S) ok.su (H.cx K5) (om h5) (fm h5) (show bI G ⟨50,false⟩ Cf [some d0,some d1,some d2] S _ from PF (l:=[]) (b:=true) (r:=.none) (Q:=λd aa=>Fl.ret d=.ret (.bool true)/\aa=S) (hf 43 false) (λy q=>q) ⟨rfl,rfl⟩) ρ _ _ _ (H.n9 K5 F5) λf fl h6 Tj Te l6 S6 R6 T6 V6 z=>?_;obtain rfl:=z.1;obtain rfl:=z.2.symm;refine ak V6 λv hv W6=>?_;apply zL hv;obtain rfl:v=.bool true:=W6;obtain rfl:ρ=Te:=T6.pre.eq_of_length (H.R1.aX.len.trans R6.aX.len.symm);exact k _ _ (H.dz K5 R6 T6).1 (H.dz K5 R6 T6).2
theorem Sg(mK:c.bY=[])(C:∃lv,bw G lv c)(hA:c.A.frames=some (c.hO::c.bY))(R:aG G c s.heap ρ l S)(N:NQ c c1 s s1)(C1:bw G ⟨100,true⟩ c1)(O1:bh se c1)(Zk:fD c1)(R1:aG G c1 s1.heap ρ [some d0,some d1,some d2] S)(ok:Jh se pos p2 es (b0::br))
  (hf:∀n hn (Q:PV->St->Prop),Q .none S->aT G ⟨n+7,hn⟩ 406 [d0,d1,d2] S Q)
  (k:∀h6 tk',bR G c h6 ρ S->bS c.L s.heap ρ h6 ρ->Qf (.ret (.bool true)) {s1 with heap:=h6,toks:=tk'}):wpAny G.M c1.A (exec (Jg pa p2 pos p3 p4 p es (b0::br) oe) c1.aj) Qf E' s1:=by
 refine wpAny_Try_except (uf (wpAny_Expr_any (Call_ (lp O1 C1 R1 (by decide +kernel) ok.l (Qv (by decide +kernel:jC.lookup ("zap_take":Str)=some (GV.fn 430))) ?_) rfl) (by unfold interactive;rw[O1.kind];rfl) (gP ok.nc _ _ _)));refine A4 C1 (Ds G (by decide +kernel:jC.lookup ("zap_take":Str)=some (GV.fn 430))) ok.st R1 ((cj M7).s (Q:=λds aa=>ds=[d0,d1,d2]/\aa=S) ok.args C1 O1 ⟨rfl,rfl⟩) (first:=[]) λNY ds h' tk' ar S' X T V3 z=>uQ ?_
 obtain rfl:=z.1;obtain rfl:=z.2.symm;obtain rfl:ρ=ar:=T.pre.eq_of_length (R1.aX.len.trans X.len.symm);have R2:=R1.step T X;refine JO (n:=92) C1 R2 V3 (λQ q=>hf _ _ Q q) λL2 h2 h3 tk e t D PG hT nM kF yd nY Je=>?_;have Ln:h2.get? e=some (bp t (some D)):=(nM.at_ _ _ _ (y8 R1.aX.len) (eu (J:=[]))).1;have nL:L2≠c1.L:=by
  rintro rfl;refine rO R2.gz λm o y y ho y=>?_;exact nomatch PG.symm.trans ho
 have adq:s1.heap.get? L2=none:=by
  cases q:s1.heap.get? L2 with
  | none=>rfl
  | some o=>exact nomatch PG.symm.trans (T.old _ o nL q λq=>ak (R2.aX.live q) λo ho y=>nomatch PG.symm.trans ho).1
 obtain H:iv G c c1 s s1 ρ l _ S h2 e L2 (.raw (bp t (some D))):=⟨mK,C,R,N,C1,Zk,R1,R1.step (T.trans kF) nM,T.trans kF,adq,hT,_,_,Ln,rfl⟩;rw[show(c1.hO::c1.bY).filterMap (·.frame)=c1.L::[c.L]from(nA C1.pN).trans (bE _ H.fs)]at yd nY;exact M9 (s1:=s1) H O1 ok Ln hf (by rw[N.A];exact Around.frames_deeper hA) yd nY Je k
theorem VZ(hf:∀n hn (Q:PV->St->Prop),Q .none S->aT G ⟨n+7,hn⟩ 406 [d0,d1,d2] S Q)(q:Q (.bool true) S):aT G ⟨101,true⟩ 619 [d0,d1,d2] S Q:=λc C s ρ vs l QQ E R V K=>by
 obtain⟨name,qual,params,b,scope,dV,kV,doc,pm,cdv,ct,an,ob,ky,hd,Zg,hc,nq,fE⟩:=y7 (VX G.w.params);obtain hb:∀X,((jO (G.K.lookup 619)).bind λfd=>peek G.K X (bindArgs fd ⟨vs,[]⟩))=some (List.zip [Str.ofString "objset",Str.ofString "zap",Str.ofString "name"] vs):=by
  refine dH (L2.Gj V) λv0 z e1 V0 V'=>?_;refine dH (L2.tx V') λv1 v2 e2 V1 V2=>?_;subst e2 e1;exact λX=>VY G.w.params X v0 v1 v2
 rw[Zg]at hb;obtain SF:=uP nq;obtain kH:=C.K.keeps R.keep;obtain⟨pa,p2,pos,p3,p4,p,es,b0,br,oe,r,eb,ok⟩:=M8 fE;refine Cw (a6 (ab (cT _ _) C.depth) (by decide)) (kH _ _ ky) hd SF.co SF.gen rfl (rD kH hc) (wZ (E':=E) C R V SF (rF kH hb) (P:=λaj bq=>codeAny G.M c.A (.func b aj) (j7 QQ E) bq) λc1 s1 N C1 O1 Zk R1=>codeAny_func ?_);rw[<- N.A,eb];refine uf (Sg (C.gx.elim (λh=>absurd h (by decide)) λh=>h.2) ⟨_,C⟩ C.frames R N C1 O1 Zk R1 ok hf λh6 tk X T=>?_);refine xE N.rest λaaK Hd=>?_;show QQ (.bool true) _;rw[Hd];exact K (.bool true) (.bool true) h6 _ ρ S X T rfl q
end
section
variable {G:GX} {A B own:AO} {b:List UInt8} {most:Int} {T:St} {Q:PV->St->Prop} {salt:Nat} {name:Str} {fb fm fe ft l lb pre:Nat} {rows:List aM}
theorem PJ(h:Eh b salt name fb fm fe ft l lb pre rows)(hs:salt<4294967296)(hx:∀c∈name.cps.toList,c<128)(jn:name.cps.size<=255)(hv:kh rows name=.none)(q:Q (.bool true) (W A B b own most++T)) :
  aT G ⟨101,true⟩ 619 [.ref 5,.int 1,.str name] (W A B b own most++T) Q :=
 VZ (λz z z q=>tR h hs hx jn (hv▸q)) q
end
def p8(T:St):Prop:=∀o∈T,iQ (11+T.length) o
theorem p8.oh{T J:St}(h:p8 T)(hJ:∀o∈J,iQ (11+(T.length+J.length)) o):p8 (T++J):=λo ho=>by
 rw[aW];rcases dt.mp ho with ho | ho
 ·exact(h o ho).up (Nat.add_le_add_left (cT _ _) _)
 ·exact hJ o ho
theorem p8.kI{T:St}(h:p8 T)(ho:iQ 0 o):p8 (T++[o]):=h.oh λp hp=>by rw[aV.mp hp];exact ho.up (bM _)
theorem ads{T:St}(hA:iQ 0 A)(hB:iQ 0 B)(ho:iQ 0 own)(hT:p8 T):jB (W A B b own m++T):=λp hp=>by
 rw[aF];rcases dt.mp hp with hp | hp
 ·refine iQ.up (cT 11 _) ?_;obtain h3:iQ 11 (.aA .iT [(.cw,.ref 3),(.gg,.ref 6),(.bZ,.ref 7),(.gx,.int 1)]):=eQ.mpr ⟨(by decide:3<11),eQ.mpr ⟨(by decide:6<11),eQ.mpr ⟨(by decide:7<11),uW rfl⟩⟩⟩;obtain h6:iQ 11 (.dr [(1,.ref 10)]):=eQ.mpr ⟨(by decide:10<11),λz h=>nomatch h⟩;obtain hW:∀p∈W A B b own m,iQ 11 p:=eQ.mpr ⟨hA.up (bM _),eQ.mpr ⟨hB.up (bM _),eQ.mpr ⟨uW rfl,eQ.mpr ⟨(by decide:2<11),eQ.mpr ⟨h3,eQ.mpr ⟨(by decide:4<11),eQ.mpr ⟨h6,eQ.mpr ⟨uW rfl,eQ.mpr ⟨ho.up (bM _),eQ.mpr ⟨uW rfl,eQ.mpr ⟨(by decide:9<11),λz h=>nomatch h⟩⟩⟩⟩⟩⟩⟩⟩⟩⟩⟩;exact hW p hp
 ·exact hT p hp
theorem V4(L:List Int):iQ 0 (.list (L.map .int)):=jv λz=>trivial
theorem V7(L:List Str):iQ 0 (.list (L.map .str)):=jv λz=>trivial
theorem Zl(N:List aM)(ep:Nat):iQ 0 (.bD (cS N) ep):=λp hp=>by
 apply eN (bH.mp hp);intro r _;trivial
abbrev KL(A:AO)(f:Fl)(_:a9)(S':St):Prop:=dT [A] (λd S'=>d=.bool true/\S'=[A]) (lq f) S'
section
variable {G:GX} {n:Nat} {hn:Bool} {o:Obj} {A B own:AO} {b:List UInt8} {most:Int} {T:St} {Q:PV->St->Prop} {fb fe ft:Nat} {F N:List aM} {tb lb pre:Nat->Nat} {Ls:List Nat} {name:Str} {l:a9} {w0 w1 w5 w6 w7 w8 w9 ny tj sE wB:Option PV}
theorem PK:KL (.raw o) (.ret (.bool true)) l (W (.raw o) B b own most++T) :=
 dT.mN (S':=[.raw o]) (J:=(W (.raw o) B b own most).drop 1++T) (aB _) (λp hp=>by rw[aV.mp hp];trivial) trivial ⟨rfl,rfl⟩
theorem PL(D:dR aY F N b fb fe ft tb lb pre Ls)(hN:dN N)(q:Q (.ref (11+(T.length+1))) (W A B b own most++(T++[.aA .cB (bj fb aY N.length fe ft),.bc .cB (11+T.length)]))) :
  aT G ⟨n+4,true⟩ 382 [.ref 5,.int 1] (W A B b own most++T) λx aa=>vj aa (λd af=>aT G ⟨n+4,true⟩ 328 [d] af Q) x (.int 18):=by
 have av:=D.len;obtain ef:=D.rf;obtain h7:=D.kK;have fH:=D.xZ;have p7:=D.t1;obtain hn:=hN.l7;obtain hp:=p1 fb;unfold tv at fH;obtain jF:=gR (b:=b) (i:=0) (k:=56) (bO 0x1184af473b51ec321c1d6e0f9360ceadbd099b481b0941 av fH p7);obtain BZ:(rd b 0 56).take (18:Int).toNat=di fb aY N.length fe ft:=by
  rw[<- D.n5];obtain this:=q0 (b:=b) (i:=0) (k:=56) (j:=0) (m:=18) (by decide);simpa [rd]using this
 refine iC (az 0x276f813a163a931f385b7be5962aed88d974a7b8c49da86079f44c7c1 av ef h7) (bO 0x1184af473b51ec321c1d6e0f9360ceadbd099b481b0941 av fH p7) ?_;walk_at "n";rw[BZ];refine⟨ah 0x5e6dee6e54154d97dbdf jF,by decide,by decide,n3 (a6 h7 (by decide)) iZ (a6 hn (by decide)) (ag 0x19fb2a142eae390d355bca1b927f51870a47 ef h7) (bO 0x1e3ef972d21b418e1c1f1be3095707efec66ec70a47 ef h7 fH) ?_⟩;rw[aw,aF];exact q
theorem V8(D:dR aY F [] b fb fe ft tb lb pre Ls):eZ G ⟨101,true⟩ Ek [w0,w1,some (.ref 5),some (.ref 8),some (.int 1),w5,w6,w7,w8,w9,ny,tj,sE,wB] (W (.raw o) B b own most++T) (KL (.raw o)):=by
 obtain hN:dN []:=⟨λz h=>(nomatch h),iy,by decide⟩;unfold Ek;walk_at "n";refine PL D hN ?_;walk_at "n";unfold Le;walk_at "n";refine T8 D hN λcR hp z=>?_;apply zL (C6 hp);walk_at "n";obtain Py:(W (.raw o) B b own most).length=11:=rfl;obtain H:HT (T++[AO.aA .cB (bj fb aY 0 fe ft),AO.bc .cB (11+T.length),AO.list [],AO.list []]) (T.length+1) T.length (bj fb aY 0 fe ft):=⟨cb (i:=1) rfl rfl,cb (i:=0) rfl rfl⟩;simp only[aw,List.cons_append,List.nil_append,aW,dE,je,fS,Py,List.map_nil];refine⟨by decide,[],by rw[bT];exact cb (i:=2) rfl rfl,rfl,[],by rw[bT];exact cb (i:=3) rfl rfl,rfl,fF rfl ?_⟩;refine aI (v:=.int (0:Nat)) H.oa.i H.oa.d rfl ?_;walk_at "n";refine fF rfl ?_;refine PJ (D.here hN (Str.ofString "0a")) iZ (by decide) (by decide) (AJ λz h=>nomatch h) ?_;walk_at "n";exact PK
theorem Fu(f:α->β):∀(xs:List α) (i:Nat),(xs.map f).eraseIdx i=(xs.eraseIdx i).map f
 | [],_=>rfl
 | _::_,0=>rfl
 | a::r,i+1=>bE (f a::·) (Fu f r i)
theorem V9(a b:Nat):(a:Int)%(b:Int)=((a%b:Nat):Int):=rfl
theorem JP{M:List aM}{NS:List Str}(hp:(M.map (·.1)).Perm NS)(nd:(M.map (·.1)).Nodup){i:Nat}{r:aM}(hi:NS[i]? =some r.1):((aZ r.1 M).map (·.1)).Perm (NS.eraseIdx i):=by
 have Pt:NS.Nodup:=hp.nodup_iff.mp nd;refine(Ci (nd.sublist ((jy M).map _)) (Pt.sublist (List.eraseIdx_sublist _ _))).mpr λa=>?_;refine xE (bP.mp hi) λbz he=>?_;rw[List.mem_eraseIdx_iff_getElem];refine⟨λh=>?_,λ⟨j,hj,ei,e⟩=>?_⟩
 ·apply eN (bH.mp h);intro q hq;refine xA (eT.mp hq) λhq1 hq2=>?_;obtain⟨j,hj,e⟩:=rk (hp.mem_iff.mp (jI hq1));refine⟨j,hj,?_,e⟩;rintro rfl;exact(aN hq2) (e.symm.trans he)
 ·have hm:a∈M.map (·.1):=hp.mem_iff.mpr (e▸jb hj);refine ak (bH.mp hm) λq hq dX=>?_;obtain rfl:=dX;refine jI (eT.mpr ⟨hq,cH λe2=>ei ?_⟩);exact(yB Pt).mp (e.trans (e2.trans he.symm))
inductive I16(o:Obj)(L:List Int)(F:List aM)(ep:Nat)(T:St)(k:Nat)(l':a9)(S':St):Prop
 | mk {b:List UInt8} {m:Int} {NS:List Str} {M:List aM} {v1 v5 v6 v7 v8 v9 Uc Ud Zm:Option PV} {fb fe ft:Nat} {tb lb pre:Nat->Nat} {Ls:List Nat} (D:dR aY F M b fb fe ft tb lb pre Ls) (hN:dN M) (j0:∀r∈M,r∈F) (hp:(M.map (·.1)).Perm NS) (cC:k+NS.length=F.length)
  (eS:S'=W (.raw o) (.list (L.map .int)) b (.bD (cS F) ep) m++(T++[.list (NS.map .str)])) (el:l'=[some (.ref 1),v1,some (.ref 5),some (.ref 8),some (.int 1),v5,v6,v7,v8,v9,Uc,Ud,some (.ref (11+T.length)),Zm])
theorem Wa{L:List Int}{ks:List Str}(hL:L.length<=63)(hF:dN F)(hk:ks.Perm (F.map (·.1)))(hM:M.Perm F)(hD:tV aY F M b)(hT:p8 T) :
  eZ G ⟨101,true⟩ El [some (.ref 1),w1,some (.ref 5),some (.ref 8),some (.int 1),w5,w6,w7,w8,w9,ny,tj,some (.ref (11+T.length)),wB] (W (.raw o) (.list (L.map .int)) b (.bD (cS F) ep) most++(T++[.list (ks.map .str)])) (KL (.raw o)):=by
 obtain hz:sz=16777216:=rfl;have gN:∀(b:List UInt8) (m:Int) (NS:List Str) (J:St),(W (.raw o) (.list (L.map .int)) b (.bD (cS F) ep) m++(T++([.list (NS.map .str)]++J)))[11+T.length]? =some (.list (NS.map .str)):=λb m NS J=>by rw[bT];exact eu
 have Ue:∀(b:List UInt8) (m:Int) (NS:List Str),(W (.raw o) (.list (L.map .int)) b (.bD (cS F) ep) m++(T++[.list (NS.map .str)]))[11+T.length]? =some (.list (NS.map .str)):=λb m NS=>gN b m NS [];have r8:ks.length=F.length:=by rw[hk.length_eq,aK]
 have Lw:=hF.l7;unfold El;walk_at "n";refine sC (.c6 (bg 0 ks.length)) (λKK h'=>?_) (I16 o L F ep T) (zM hD λz z z z z z z D=>.mk D (hF.perm hM) (λr hr=>hM.mem_iff.mp hr) ((hM.map _).trans hk.symm) (ag 0x4071536b8d8a9e75 r8) rfl rfl) (λk l' S' hI=>?_) (λk l' S' d KB hI hd kg z=>?_) (λl' S' hI=>?_)
 ·walk_at "n";refine lZ (Ue _ _ _) (by rw[aK];exact ag 0x1e952c7f0b0990f8d3d r8 Lw) ?_;rw[aK];walk_at "n";exact⟨rfl,ah 0x38299632611b5f77,ag 0xccc3008fa61cae1e4e51d83d r8 Lw,by rw[i8];exact h'⟩
 ·exact trivial
 ·obtain @⟨b,m,NS,M,v1,v5,v6,v7,v8,v9,Uc,Ud,Zm,fb,fe,ft,tb,lb,pre,Ls,D,hN,j0,hp,cC,rfl,rfl⟩:=hI;have Zn:k<ks.length:=by
   obtain this:=(bP.mp hd).1;obtain e:(b9.c6 (bg 0 ks.length)).items.length=ks.length:=by
    show(bg 0 ks.length).length=_;unfold bg;rw[aK,gc]
   rwa [e]at this
  obtain rfl:PV.int (0+(k:Int))=d:=by
   have:(bg 0 ks.length)[k]? =some d:=hd;unfold bg at this;rw[cv,yp Zn]at this;exact Option.some.inj this
  refine⟨13,rfl,?_⟩;walk_at "n";refine⟨_,Ue _ _ _,?_⟩;obtain Ug:(63:Int)-(0+(k:Int))=((63-k:Nat):Int):=by exact kW (ag 0x27e7e335d3ae250f0cd2feccd5 cP) (ag 0x27dfce13fae70087a157825799 (ba (az 0x5e97376710cf50ce3e07 Lw cC)))
  rw[Ug];refine sH (i:=1) (k:=63-k) rfl (ab hL (by decide)) (ag 0x43189c84eee8b867195c1c6321c825 Ug) ?_;refine lZ (Ue _ _ _) (by rw[aK];exact az 0x12aa8c68988d88c1d16007 Lw cC) ?_;rw[aK];walk_at "n";have Zo:0<NS.length:=by exact bO 0xb6de890ec938d80dd2148a75 r8 cC Zn
  have hi:eK L (63-k)%NS.length<NS.length:=ea _ Zo;rw[V9];generalize eK L (63-k)%NS.length=i at *;refine⟨ah 663134467575 Zo,?_⟩;refine ak (bH.mp (hp.mem_iff.mpr (jb hi))) λr hr xO=>?_;obtain hri:NS[i]? =some r.1:=by rw[c8 hi,xO]
  walk_at "n";refine⟨_,.str r.1,Ue _ _ _,by rw[aK];exact az 0x39a298caf30af4e08cd9807 Lw cC,gb i,by rw[i8,cv,hri];rfl,?_⟩;rw[q9,kl _ _ (aB _),gw,List.set_cons_zero,i8,Fu];refine p9 (hN.ok r hr) λq1 q2 q3 q4=>?_;obtain q7:∀c∈r.1.cps.toList,c<128:=λc hc=>by have:=q1 c hc;exact ah 0x9fa11e948c06d0bdf this.2
  walk_at "n";refine Zb D hN hr λb2 m2 ⟨fb2,fe2,ft2,tb2,lb2,ah0,Ls2,D2⟩=>?_;have x8:=hN.sub (jy (name:=r.1) M);have zE:=JP hp hN.nd hri;obtain qC:=List.length_eraseIdx_of_lt hi;generalize NS.eraseIdx i=PN at *;walk_at "n";refine Jc D2 x8 q7 (ab q3 (by decide)) ?_;rw[AJ (N:=aZ r.1 M) λx hx=>aN (eT.mp hx).2];walk_at "n";refine b6 rfl ?_;have dz:∀w,KB .next [some (.ref 1),v1,some (.ref 5),some (.ref 8),some (.int 1),v5,v6,v7,v8,some (.str r.1),Uc,Ud,some (.ref (11+T.length)),w] (W (.raw o) (.list (L.map .int)) b2 (.bD (cS F) ep) m2++(T++[.list (PN.map .str)])++[.list []]):=λw=>by
   refine kg _ _ _ _ (gA.mN (by rw[aF,aF,aW,aW];exact aB _) (ads trivial (V4 L) (Zl F ep) (hT.kI (V7 PN))) (.s ?_ (.n (.s ?_ (.s ?_ (.s trivial (.n (.n (.n (.n (.n (.n (.n (.s ?_ (.n .nil))))))))))))))) ⟨D2,x8,λx hx=>j0 x (eT.mp hx).1,zE,bu (gd 0xcf04a06dd0082d4707bbe3439a0e0e9 cC qC (ba (ah 562984467575 Zo))) (gd 0x2f7afbfcb36c7f638b0355eebbd41f80af9e6789 cC qC cP),rfl,rfl⟩
   all_goals (refine Gv ?_;rw[aF,aW];show _<11+(T.length+1);lia)
  obtain ok2:∀x∈PN,PyData.strOk x=true:=λx hx=>by
   apply eN (bH.mp (zE.mem_iff.mpr hx));intro y hy;exact n6 (x8.ok y hy).1
  refine⟨by decide,PN.map .s,by rw[aw,aw,bQ];exact gN _ _ _ _,by rw[uB,aS];exact ok2,[],eu,rfl,?_⟩;cases PN with
  | nil =>
   refine b6 rfl (b6 rfl ?_);walk_at "n";exact dz _
  | cons a rest =>
   refine ak (bH.mp (zE.mem_iff.mpr (.head _))) λy hy gy=>?_;obtain rfl:=gy;obtain gN2:(W (.raw o) (.list (L.map .int)) b2 (.bD (cS F) ep) m2++(T++[.list ((y.1::rest).map .str)])++[.list []])[11+T.length]? =some (.list ((y.1::rest).map .str)):=by rw[aw,aw];exact gN _ _ _ _
   have Ji:=x8.l7;refine p9 (x8.ok y hy) λp1 p2 p3 p4=>?_;obtain hi0:∀{Q:PV->St->Prop},Q (.str y.1) (W (.raw o) (.list (L.map .int)) b2 (.bD (cS F) ep) m2++(T++[.list ((y.1::rest).map .str)])++[.list []])->qb (W (.raw o) (.list (L.map .int)) b2 (.bD (cS F) ep) m2++(T++[.list ((y.1::rest).map .str)])++[.list []]) Q (.ref (11+T.length)) (.int 0):=λq=>pW (d:=.str y.1) gN2 (by rw[aK];exact gd 0x7ff9c9404d2f71ff923aa2549a6c016207 Lw cC qC (cV _ _)) (by decide) rfl q;refine fF rfl (hi0 ?_);rw[aw (W _ _ _ _ _)];refine Jc D2 x8 (λc hc=>by have:=p1 c hc;exact ah 0x9fa11e948c06d0bdf this.2) (ab p3 (by decide)) ?_;rw[Ey D2 x8 hy,<-aw (W _ _ _ _ _)];refine hi0 ?_;refine⟨cS F,ep,.int y.2,rfl,Jb hF.nd (j0 y (eT.mp hy).1),?_⟩;walk_at "n";refine b6 (c9 λh=>h rfl) ?_;walk_at "n";exact dz _
 ·obtain @⟨b,m,NS,M,v1,v5,v6,v7,v8,v9,Uc,Ud,Zm,fb,fe,ft,tb,lb,pre,Ls,D,hN,j0,hp,cC,rfl,rfl⟩:=hI;have e0:(b9.c6 (bg 0 ks.length)).items.length=F.length:=by
   show(bg 0 ks.length).length=_;unfold bg;rw[aK,gc,r8]
  rw[e0]at cC;obtain rfl:NS=[]:=rh.mp (ag 0x407153be0ae9b719 cC);obtain rfl:M=[]:=List.map_eq_nil_iff.mp (C6 hp);walk_at "n";exact V8 D
end
section
variable {G:GX} {o:Obj} {A B own:AO} {b:List UInt8} {most:Int} {T:St} {fb fe ft:Nat} {F M:List aM} {tb lb pre:Nat->Nat} {Ls:List Nat} {l:a9} {w0 w1 w5 w6 w7 w8 w9 ny tj sE wB:Option PV} {L:List Int} {ep:Nat}
theorem Sh(N:List aM):(cS N).map (·.1)=N.map (·.1):=by unfold cS;rw[bQ];rfl
theorem lF(N:List aM):(cS N).length=N.length:=aK _
theorem Wb(hL:L.length<=63)(hF:dN F)(hM:M.Perm F)(hD:tV aY F M b)(hT:p8 T) :
  eZ G ⟨101,true⟩ Em [some (.ref 1),w1,some (.ref 5),some (.ref 8),some (.int 1),w5,w6,w7,w8,w9,ny,tj,sE,wB] (W (.raw o) (.list (L.map .int)) b (.bD (cS F) ep) most++T) (KL (.raw o)):=by
 obtain hl:=hF.l7;unfold Em;walk_at "n";refine MS (es:=cS F) (ep:=ep) rfl rfl (by rw[lF];exact a6 hl (by decide)) λks hk=>?_;rw[aw,aF];rw[Sh]at hk;walk_at "n";exact Wa hL hF hk hM hD hT
theorem Wc(hL:L.length<=63)(hF:dN F)(ha:∀x:Str,n7 x->∀r∈F,r.1≠x)(hM:M.Perm F)(D:dR aY F M b fb fe ft tb lb pre Ls)(hT:p8 T) :
  eZ G ⟨101,true⟩ En [some (.ref 1),w1,some (.ref 5),some (.ref 8),some (.int 1),w5,w6,w7,w8,w9,ny,tj,sE,wB] (W (.raw o) (.list (L.map .int)) b (.bD (cS F) ep) most++T) (KL (.raw o)):=by
 unfold En;walk_at "n";refine ij [Str.ofString "",Str.ofString "0z",Str.ofString "17"] PV.str (λy=>.bool true) (.c6 [.str (Str.ofString ""),.str (Str.ofString "0z"),.str (Str.ofString "17")]) (λKK h'=>?_) rfl (by decide) trivial (λx hx kk cC=>?_) ?_
 ·walk_at "n";exact⟨rfl,rfl,by decide,h'⟩
 ·refine fN ?_;walk_at "n";have jn:(∀c∈x.cps.toList,c<128)/\x.cps.size<=255/\n7 x:=by
   rcases bK.mp hx with rfl | hx
   ·exact⟨by decide,by decide,λc h=>nomatch h⟩
   rcases bK.mp hx with rfl | hx
   ·exact⟨by decide,by decide,λc h=>by obtain rfl:122=c:=Option.some.inj h;decide⟩
   ·obtain rfl:=aV.mp hx;exact⟨by decide,by decide,λc h=>by obtain rfl:55=c:=Option.some.inj h;decide⟩
  exact PJ (D.here (hF.perm hM) x) iZ jn.1 jn.2.1 (AJ λr hr=>ha x jn.2.2 r (hM.mem_iff.mp hr)) cC
 walk_at "n";rw[aw,aF];refine⟨[true,true,true],by rw[bT];exact cb (i:=0) rfl rfl,by decide,?_⟩;walk_at "n";refine b6 rfl ?_;walk_at "n";exact Wb hL hF hM ⟨_,_,_,_,_,_,_,D⟩ (hT.kI (jv (xs:=[true,true,true]) λy=>trivial))
theorem Wd(hL:L.length<=63)(hF:dN F)(ha:∀x:Str,n7 x->∀r∈F,r.1≠x)(hM:M.Perm F)(D:dR aY F M b fb fe ft tb lb pre Ls)(hT:p8 T) :
  eZ G ⟨101,true⟩ Eo [some (.ref 1),w1,some (.ref 5),some (.ref 8),some (.int 1),w5,w6,w7,w8,w9,ny,tj,sE,wB] (W (.raw o) (.list (L.map .int)) b (.bD (cS F) ep) most++T) (KL (.raw o)):=by
 obtain hl:=hF.l7;unfold Eo;walk_at "n";refine T8 D (hF.perm hM) λcR hp hs=>?_;walk_at "n";refine ij F (λr=>.str r.1) ay (.bD 8 (cS F) ep) (λKK h'=>?_) (by show(cS F).map _=_;unfold cS;rw[bQ];rfl) (ab hl (by decide)) rfl (λr hr kk cC=>?_) ?_
 ·walk_at "n";exact .inr ⟨cS F,ep,rfl,rfl,by rw[lF];exact ab hl (by decide),h'⟩
 ·refine fN ?_;walk_at "n";refine⟨cS F,ep,.int r.2,rfl,Jb hF.nd hr,?_⟩;walk_at "n";exact⟨rfl,cC⟩
 walk_at "n";have eF:F.map ay=(F.map gh).map λr=>PV.tup [.str r.1,.int r.2]:=by rw[bQ];rfl
 refine vY (rows:=F.map gh) rfl (by rw[eF];exact eu) (by rw[aK];exact a6 hl (by decide)) (by rw[bQ];exact hF.nd) λaaL Tb Kw=>?_;obtain rfl:aaL=cR.map gh:=Pr (Tb.trans ((hp.trans hM).map gh).symm) ((Tb.map _).nodup_iff.mpr (by rw[bQ];exact hF.nd)) Kw hs;obtain e2:((cR.map gh).map λr=>PV.tup [.str r.1,.int r.2])=cR.map ay:=by rw[bQ];rfl
 rw[e2,aw,aw,aw,aw];simp only[List.cons_append,List.nil_append,aW,dE,je,fS,show(W (.raw o) (.list (L.map .int)) b (.bD (cS F) ep) most).length=11 from rfl];walk_at "n";obtain ok:(cR.map lL).all cK.ok=true:=by
  rw[uB,aS];exact λx hx=>n6 (hF.ok x ((hp.trans hM).mem_iff.mp hx)).1
 refine⟨cR.map lL,by rw[bT,bQ];exact cb (i:=0) rfl rfl,ok,cR.map lL,by rw[bT,bQ];exact cb (i:=2) rfl rfl,ok,?_⟩;refine b6 (by rw[cH rfl];rfl) ?_;walk_at "n";obtain zg:∀X:List aM,iQ 0 (.list (X.map ay)):=λX=>jv λr d hd=>by
  rcases bK.mp hd with rfl | hd
  ·trivial
  ·rw[aV.mp hd];trivial
 refine Wc hL hF ha hM D (hT.oh λp hp=>?_);obtain this:∀p∈[AO.list (cR.map ay),AO.list (F.map ay),AO.list (cR.map ay)],iQ 0 p:=eQ.mpr ⟨zg _,eQ.mpr ⟨zg _,eQ.mpr ⟨zg _,λz h=>nomatch h⟩⟩⟩;exact(this p hp).up (bM _)
theorem Ly(hL:L.length<=63)(hF:dN F)(ha:∀x:Str,n7 x->∀r∈F,r.1≠x)(hM:M.Perm F)(D:dR aY F M b fb fe ft tb lb pre Ls)(hT:p8 T) :
  eZ G ⟨101,true⟩ Ep [some (.ref 1),w1,some (.ref 5),some (.ref 8),some (.int 1),w5,w6,w7,w8,w9,ny,tj,sE,wB] (W (.raw o) (.list (L.map .int)) b (.bD (cS F) ep) most++T) (KL (.raw o)):=by
 obtain hl:=hF.l7;obtain qe:(b9.bD 8 (cS F) ep).items=F.map λr=>PV.str r.1:=by show(cS F).map _=_;unfold cS;rw[bQ];rfl
 unfold Ep;walk_at "n";refine ij F (λr=>.str r.1) (λr=>.int r.2) (.bD 8 (cS F) ep) (λKK h'=>?_) qe (ab hl (by decide)) rfl (λr hr kk cC=>?_) ?_
 ·walk_at "n";exact .inr ⟨cS F,ep,rfl,rfl,by rw[lF];exact ab hl (by decide),h'⟩
 ·refine fN ?_;walk_at "n";refine p9 (hF.ok r hr) λq1 q2 q3 q4=>?_;refine Jc D (hF.perm hM) (λc hc=>by obtain this:=q1 c hc;exact ah 0x9fa11e948c06d0bdf this.2) (ab q3 (by decide)) ?_;rw[Ey D (hF.perm hM) (hM.mem_iff.mpr hr)];exact cC
 refine ij F (λr=>.str r.1) (λr=>.int r.2) (.bD 8 (cS F) ep) (λKK h'=>?_) qe (ab hl (by decide)) rfl (λr hr kk cC=>?_) ?_
 ·walk_at "n";exact .inr ⟨cS F,ep,rfl,rfl,by rw[lF];exact ab hl (by decide),h'⟩
 ·refine fN ?_;walk_at "n";exact⟨cS F,ep,.int r.2,rfl,Jb hF.nd hr,cC⟩
 walk_at "n";rw[aw,aw];simp only[List.cons_append,List.nil_append,aW,dE,je,fS,show(W (.raw o) (.list (L.map .int)) b (.bD (cS F) ep) most).length=11 from rfl];obtain ok:(F.map λr=>cK.i r.2).all cK.ok=true:=by rw[uB,aS];exact λx hx=>rfl
 refine⟨F.map λr=>.i r.2,by rw[bT,bQ];exact cb (i:=0) rfl rfl,ok,F.map λr=>.i r.2,by rw[rz,bT,bQ];exact cb (i:=1) rfl rfl,ok,?_⟩;refine b6 (by rw[cH rfl];rfl) ?_;walk_at "n";obtain zg:iQ 0 (.list (F.map λr=>.int r.2)):=jv λz=>trivial;refine Wd hL hF ha hM D (hT.oh λp hp=>?_);have:∀p∈[AO.list (F.map λr=>.int r.2),AO.list (F.map λr=>.int r.2)],iQ 0 p:=eQ.mpr ⟨zg,eQ.mpr ⟨zg,λz h=>nomatch h⟩⟩;exact(this p hp).up (bM _)
theorem We{ff:List fG}(hL:L.length<=63)(hF:dN F)(ha:∀x:Str,n7 x->∀r∈F,r.1≠x)(hM:M.Perm F)(D:dR aY F M b fb fe ft tb lb pre Ls)(hT:p8 T)(hr:T[r5]? =some (.list (ff.map aR)))(Ji:3<=ff.length)(tW:ff.length<=40)
  (h3:∀r0 r2,ff[0]? =some r0->ff[2]? =some r2->r0.1/16=r2.1/16->4<=fb) (H:HT T k j (bj fb aY M.length fe ft)) :
  eZ G ⟨101,true⟩ Er [some (.ref 1),w1,some (.ref 5),some (.ref 8),some (.int 1),some (.ref (11+r5)),w6,w7,w8,w9,ny,some (.ref (11+k)),sE,wB] (W (.raw o) (.list (L.map .int)) b (.bD (cS F) ep) most++T) (KL (.raw o)):=by
 obtain gr:(W (.raw o) (.list (L.map .int)) b (.bD (cS F) ep) most++T)[11+r5]? =some (.list (ff.map aR)):=by rw[bT];exact hr
 obtain g0:ff[0]? =some ff[0]:=c8 _;obtain g2:ff[2]? =some ff[2]:=c8 _;unfold Er;walk_at "n";refine aI (v:=.int fb) H.oa.i H.oa.d rfl ?_;walk_at "n";refine MC (λbz=>?_) λz=>?_
 ·refine pW (d:=aR ff[0]) gr (by rw[aK];exact ab tW (by decide)) (by decide) (by rw[cv];show(ff[0]?).map _=_;rw[g0];rfl) ?_;unfold aR;walk_at "n";refine⟨_,by decide,by simp,rfl,by decide,by decide,?_⟩;refine pW (d:=aR ff[2]) gr (by rw[aK];exact ab tW (by decide)) (by decide) (by rw[cv];show(ff[2]?).map _=_;rw[g2];rfl) ?_;unfold aR;walk_at "n";refine⟨_,by decide,by simp,rfl,by decide,by decide,?_⟩;refine b6 (c9 λe=>?_) ?_
  ·obtain this:=h3 _ _ g0 g2 (by obtain e:((ff[0].1/16:Nat):Int)=((ff[2].1/16:Nat):Int):=e;exact Int.ofNat.inj e);lia
  walk_at "n";exact Ly hL hF ha hM D hT
 ·refine b6 rfl ?_;walk_at "n";exact Ly hL hF ha hM D hT
theorem Wf{ff:List fG}(hL:L.length<=63)(hF:dN F)(ha:∀x:Str,n7 x->∀r∈F,r.1≠x)(hM:M.Perm F)(D:dR aY F M b fb fe ft tb lb pre Ls)(hT:p8 T)(hr:T[r5]? =some (.list (ff.map aR)))(Ji:3<=ff.length)(tW:ff.length<=40)
  (h3:∀r0 r2,ff[0]? =some r0->ff[2]? =some r2->r0.1/16=r2.1/16->4<=fb) (H:HT T k j (bj fb aY M.length fe ft)) :
  eZ G ⟨101,true⟩ Es [some (.ref 1),w1,some (.ref 5),some (.ref 8),some (.int 1),some (.ref (11+r5)),w6,w7,w8,w9,ny,some (.ref (11+k)),sE,wB] (W (.raw o) (.list (L.map .int)) b (.bD (cS F) ep) most++T) (KL (.raw o)):=by
 obtain av:=D.len;obtain ef:=D.rf;obtain h7:=D.kK;obtain fH:=D.xZ;obtain p7:=D.t1;obtain hl:=hF.l7;obtain tl:((List.range (2^fb)).map tb).length=2^fb:=by rw[aK,gc]
 unfold tv at fH;unfold Es;walk_at "n";refine II H (tab:=(List.range (2^fb)).map tb) (az 0xc9e8fc0bdb5e71f0a6b96a975147daee7831b5b9147991d9f44c7c1 av ef h7) h7 (gd 0x565bf86ddb0cc5b7158716e8e5e94b97500928377ab5b977d3d61c2ad70be34b0941 av fH (dU _ (by decide))) tl (λi hi=>?_) p7 (bO 0x1de515c79419202f69b651e686a4ec35fe6f6c70a47 ef h7 fH) (ag 0x19adf334ac4ce4acf520e736b51547c70a47 ef h7) (by rw[tl];exact fH) (λx hx=>?_) D.dup av ?_
 ·rw[tl]at hi;rw[D.te i hi,yA,t9]
 ·apply eN (bH.mp hx);intro i hi;rw[tl];exact D.out _ (D.tm i (iz.mp hi))
 walk_at "n";refine b6 rfl (aI (v:=.int M.length) H.oa.i H.oa.d rfl ?_);refine KW (es:=cS F) (ep:=ep) rfl (by rw[lF];exact ab hl (by decide)) ?_;rw[lF];walk_at "n";refine b6 (c9 λh=>h (by rw[hM.length_eq])) ?_;walk_at "n";exact We hL hF ha hM D hT hr Ji tW h3 H
theorem Zp{ff:List fG}(hL:L.length<=63)(hF:dN F)(ha:∀x:Str,n7 x->∀r∈F,r.1≠x)(hM:M.Perm F)(D:dR aY F M b fb fe ft tb lb pre Ls)(hT:p8 T)(hr:T[r5]? =some (.list (ff.map aR)))(Ji:3<=ff.length)(tW:ff.length<=40)
  (h3:∀r0 r2,ff[0]? =some r0->ff[2]? =some r2->r0.1/16=r2.1/16->4<=fb) :
  eZ G ⟨101,true⟩ IT [some (.ref 1),w1,some (.ref 5),some (.ref 8),some (.int 1),some (.ref (11+r5)),w6,w7,w8,w9,ny,tj,sE,wB] (W (.raw o) (.list (L.map .int)) b (.bD (cS F) ep) most++T) (KL (.raw o)):=by
 unfold IT;walk_at "n";refine PL D (hF.perm hM) ?_;walk_at "n";refine Wf (k:=T.length+1) (j:=T.length) hL hF ha hM D (hT.oh λp hp=>?_) (by rw[eH (bP.mp hr).1];exact hr) Ji tW h3 ⟨cb (i:=1) rfl rfl,cb (i:=0) rfl rfl⟩;rcases bK.mp hp with rfl | hp
 ·exact uW rfl
 ·apply zL (aV.mp hp);show 11+T.length<11+(T.length+2);exact Nat.add_lt_add_left (Cr (by decide)) 11
end
theorem Wg{K:Fl->a9->St->Prop}(aC:b9)(aa:St)(hi:∀KK:b9->St->Prop,KK aC aa->qy G lv it its l S KK)(I:Nat->a9->St->Prop)(h0:I 0 l aa)(cD:∀k l' S',I k l' S'->aC.nh S')
  (iP:∀k l' S' d (KB:Fl->a9->St->Prop),I k l' S'->aC.items[k]? =some d->(∀l₂ af bN aL,gA aa l₂ af bN aL->I (k+1) bN aL->KB .next l₂ af)->(∀d l₂ af,K (.ret d) l₂ af->KB (.ret d) l₂ af)->fJ is tup d l' λl₁=>eZ G lv b l₁ S' KB)
  (oX:∀l' S',I aC.items.length l' S'->K .next l' S'):eZ G lv (.forr is tup it its b) l S K :=
 MW.mpr (hi _ ⟨I,h0,cD,λk l' S' d hI hd=>iP k l' S' d _ hI hd (λl₂ af bN aL a b=>⟨bN,aL,a,b⟩) λz z z q=>q,oX⟩)
theorem Si(X:List fG):iQ 0 (.list (X.map aR)):=jv λr d hd=>by
 rcases bK.mp hd with rfl | hd
 ·trivial
 rcases bK.mp hd with rfl | hd
 ·trivial
 ·rw[aV.mp hd];trivial
section
variable {G:GX} {o:Obj} {A B own:AO} {b:List UInt8} {most:Int} {T:St} {F M:List aM} {l:a9} {w0 w1 w5 w6 w7 w8 w9 ny tj sE wB:Option PV} {L:List Int} {ep:Nat}
theorem Zq{ff:List fG}(hL:L.length<=63)(hF:dN F)(ha:∀x:Str,n7 x->∀r∈F,r.1≠x)(hD:zI F F b)(hT:p8 T)(hr:T[r5]? =some (.list (ff.map aR)))(Ji:F.length<=ff.length)(tW:ff.length<=40)
  (h3:∀r0 r2,ff[0]? =some r0->ff[2]? =some r2->r0.1/16=r2.1/16->5<=F.length->∃q,3<=(bF aY F 3 q).length) :
  eZ G ⟨101,true⟩ IU [some (.ref 1),w1,some (.ref 5),some (.ref 8),some (.int 1),some (.ref (11+r5)),w6,w7,w8,w9,ny,tj,sE,wB] (W (.raw o) (.list (L.map .int)) b (.bD (cS F) ep) most++T) (KL (.raw o)):=by
 obtain hl:=hF.l7;unfold IU;walk_at "n";refine KW (es:=cS F) (ep:=ep) rfl (by rw[lF];exact ab hl (by decide)) ?_;rw[lF];walk_at "n";refine MC (λz=>?_) λh5=>?_
 ·walk_at "n";exact PK
 ·walk_at "n";obtain⟨M,hM,fb,fe,ft,tb,lb,pre,Ls,D⟩:=hD.cB hF (ah 0x50022a780f859 h5);refine Zp hL hF ha hM D hT hr (ag 0x98af72a2dcd6240fd Ji h5) tW λr0 r2 e0 e2 e=>?_;refine xE (h3 r0 r2 e0 e2 e (ah 0x50022a780f859 h5)) λq hq=>?_;exact D.adk (q:=q) (ab hq (bL ((hM.filter _).length_eq.symm)))
noncomputable def eB(ff:List fG)(m g:Nat):List fG:=(ff.take m).drop g++(ff.take m).take g
theorem PQ(ff:List fG)(m g:Nat):(eB ff m g).Perm (ff.take m):=(List.perm_append_comm).trans (yE (kj g (ff.take m)))
inductive I7(o:Obj)(L:List Int)(rows ff:List fG)(m g:Nat)(P:List fG)(w1:Option PV)(k:Nat)(l':a9)(S':St):Prop
 | mk {b:List UInt8} {ep:Nat} {m':Int} {w8 w9 ny:Option PV} (hD:zI (P.map (·.2)) ((P.take k).map (·.2)) b) (eS:S'=W (.raw o) (.list (L.map .int)) b (.bD (cS (((P).take k).map (·.2))) ep) m'++[.list (rows.map aR),.list (ff.map aR),.list ((ff.take m).map aR),.list (((ff.take m).drop g).map aR),.list (((ff.take m).take g).map aR),.list ((P).map aR)])
  (el:l'=[some (.ref 1),w1,some (.ref 5),some (.ref 8),some (.int 1),some (.ref 12),some (.ref 13),some (.int g),w8,w9,ny,none,none,none])
theorem Zr{ff rows:List fG}{m g:Nat}(hL:L.length<=63)(hRO:gE aY 40 ff)(tW:ff.length<=40)(hm:m<=7)(hm3:3<=m)(hg:g<=100)
  (h3:∀r0 r2,ff[0]? =some r0->ff[2]? =some r2->r0.1/16=r2.1/16->∃q,∀r∈ff.take 3,r.1/16=q) (hb:∀F,zI F [] b) :
  eZ G ⟨101,true⟩ IV [some (.ref 1),w1,some (.ref 5),some (.ref 8),some (.int 1),some (.ref 12),some (.ref 13),some (.int g),none,none,none,none,none,none] (W (.raw o) (.list (L.map .int)) b (.bD [] 0) most++[.list (rows.map aR),.list (ff.map aR),.list ((ff.take m).map aR)]) (KL (.raw o)):=by
 have hp:=PQ ff m g;obtain j0:(ff.take m).Sublist ff:=ro _ _;have PR:=(hRO.sub j0).perm hp;have Uh:(eB ff m g).length<=7:=by rw[hp.length_eq,gY];exact ab (iI _ _) hm
 have adt:(eB ff m g).length<=ff.length:=by rw[hp.length_eq];exact j0.length_le
 obtain hF:=PR.adj (aB _) Uh;obtain hc7:=PR.c7;obtain Jj:=λx hx=>PR.n7 (x:=x) hx;obtain adu:∀r0 r2,ff[0]? =some r0->ff[2]? =some r2->r0.1/16=r2.1/16->5<=((eB ff m g).map (·.2)).length->∃q,3<=(bF aY ((eB ff m g).map (·.2)) 3 q).length:=λr0 r2 e0 e2 e h5=>by
  refine xE (h3 r0 r2 e0 e2 e) λq hq=>?_;refine⟨q,?_⟩;obtain et:ff.take m=ff.take 3++(ff.take m).drop 3:=by
   obtain this:=kj 3 (ff.take m);rw[List.take_take,yD hm3]at this;exact this.symm
  obtain e3:((ff.take 3).filter λr=>decide (r.1/2^(7-3)=q)).length=3:=by
   rw[yq.mpr λr hr=>cH (hq r hr),gY];rw[aK]at h5;lia
  rw[PR.bF 3 q (by decide),(hp.filter _).length_eq,et,List.filter_append,aW,e3];exact cT _ _
 unfold IV;walk_at "n";refine Wg (.list 16 ((eB ff m g).map aR)) (W (.raw o) (.list (L.map .int)) b (.bD [] 0) most++[.list (rows.map aR),.list (ff.map aR),.list ((ff.take m).map aR),.list (((ff.take m).drop g).map aR),.list (((ff.take m).take g).map aR),.list ((eB ff m g).map aR)]) (λKK h'=>?_)
  (I7 o L rows ff m g (eB ff m g) w1) (@I7.mk _ _ _ _ _ _ _ _ _ _ _ b 0 most none none none (hb _) rfl rfl) (λk l' S' hI=>?_) (λk l' S' d KB hI hd kg z=>?_) (λl' S' hI=>?_)
 ·walk_at "n";refine⟨(ff.take m).map aR,rfl,by rw[aK,gY];exact ag 0x5e6dee750f4e32eec587 hm (iI _ _),gb g,ah 0xccc3008fa4d015ff12c7603f hg,?_⟩;walk_at "n";refine⟨(ff.take m).map aR,.inl rfl,by rw[aK,gY];exact ag 0x5e6dee750f4e32eec587 hm (iI _ _),gb g,ah 0xccc3008fa4d015ff12c7603f hg,?_⟩;walk_at "n";rw[i8,<-List.map_drop,<-List.map_take];refine⟨rfl,((ff.take m).drop g).map aR,((ff.take m).take g).map aR,rfl,rfl,?_,?_⟩
  ·have:=Uh;unfold eB at this;rw[aW]at this;rw[aK,aK];exact ab this (by decide)
  rw[<- fy];exact eY (ds:=(eB ff m g).map aR) rfl (by rw[aK];exact ab Uh (by decide)) h'
 ·obtain⟨_,rfl,_⟩:=hI;rfl
 ·obtain @⟨b,ep,m',w8,w9,ny,hD,rfl,rfl⟩:=hI;have fq:k<(eB ff m g).length:=by
   obtain this:k<((eB ff m g).map aR).length:=(bP.mp hd).1
   rwa [aK]at this
  obtain rfl:aR (eB ff m g)[k]=d:=by
   have:((eB ff m g).map aR)[k]? =some d:=hd;rw[cv,c8 fq]at this;exact Option.some.inj this
  have e1:(eB ff m g).take (k+1)=(eB ff m g).take k++[(eB ff m g)[k]]:=by rw[iG,c8 fq];rfl
  refine MB rfl ?_;walk_at "n";obtain xp:∀p∈cS (((eB ff m g).take k).map (·.2)),p.1≠(eB ff m g)[k].2.1:=λp hp e=>by
   unfold cS at hp;rw[bQ]at hp;refine ak (bH.mp hp) λx hx fB=>?_;obtain rfl:=fB;obtain nd:=PR.nd.sublist ((ro (k+1) (eB ff m g)).map _);rw[e1,fy,mT]at nd;exact nd.2.2 _ (jI (f:=λx:fG=>x.2.1) hx) _ (.head _) e
  refine⟨_,ep,rfl,by rw[lF,aK,gY];exact ag 0x5e6dee750f4e32eec587 Uh (rt _ _),λED=>?_⟩;rw[VS xp];obtain eo:cS (((eB ff m g).take k).map (·.2))++[((eB ff m g)[k].2.1,PV.int ((eB ff m g)[k].2.2:Int))]=cS (((eB ff m g).take (k+1)).map (·.2)):=by
   rw[e1];unfold cS;rw[fy,fy];rfl
  rw[eo];walk_at "n";refine Pw (F:=(eB ff m g).map (·.2)) (N:=((eB ff m g).take k).map (·.2)) (R:=((eB ff m g).drop (k+1)).map (·.2)) (own:=.bD (cS (((eB ff m g).take (k+1)).map (·.2))) ED) hF hc7 (yE ?_) hD λb' m2 hD'=>?_
  ·obtain this:eB ff m g=(eB ff m g).take (k+1)++(eB ff m g).drop (k+1):=(kj _ _).symm
   conv=>lhs;rw[this,e1]
   rw[fy,fy];rfl
  walk_at "n";refine kg _ _ _ _ (gA.refl _ _ _) (.mk (ep:=ED) (b:=b') (m':=m2) ?_ rfl rfl)
  rewrite[e1,fy]
  exact hD'
 ·obtain @⟨b,ep,m',w8,w9,ny,hD,rfl,rfl⟩:=hI;obtain e0:(b9.list 16 ((eB ff m g).map aR)).items.length=(eB ff m g).length:=aK _;rw[e0,gv]at hD ⊢;walk_at "n";obtain hT:p8 [AO.list (rows.map aR),.list (ff.map aR),.list ((ff.take m).map aR),.list (((ff.take m).drop g).map aR),.list (((ff.take m).take g).map aR),.list ((eB ff m g).map aR)]:=λp hp=>iQ.up (n:=0) (bM _) (by
   simp only[bK,List.not_mem_nil,or_false]at hp;rcases hp with rfl | rfl | rfl | rfl | rfl | rfl<;>exact Si _)
  exact Zq (r5:=1) hL hF Jj hD hT rfl (by rw[aK];exact adt) tW adu
theorem aaM(av:L.length<=63)(ho:∃vs n,o.cls=.type "list"/\o.data=.seq (List.toArray vs) n/\∀ρ h,c5 ρ h vs (L.map .int)):eZ G ⟨101,true⟩ MX [some (.ref 0),none,none,none,none,none,none,none,none,none,none,none,none,none] [.raw o] (KL (.raw o)):=by
 refine dH ho λvs no YM hod Yg=>?_;unfold MX;obtain hz:sz=16777216:=rfl;walk_at "n";refine⟨L.map .int,.inr ⟨o,vs,no,rfl,YM,hod,Yg⟩,by rw[aK];exact ab av (by decide),by decide,by decide,?_⟩;obtain Ug:(L.map PV.int).take (63:Int).toNat=L.map .int:=ri (by rw[aK];exact av);rw[Ug];walk_at "n";unfold Pj;walk_at "n";refine sH (i:=1) (k:=0) rfl (ab av (by decide)) (by decide) ?_;generalize hx:eK L 0=x;walk_at "n";unfold Ph;walk_at "n";refine La.mpr ⟨by decide,rfl,_,_,rfl,?_⟩;unfold MV;walk_at "n";unfold Pg;walk_at "n";refine Pu λb0 m0 ID=>?_;walk_at "n";unfold Pf;walk_at "n";refine td (k:=1) (by decide) ?_;have es:(1*2654435761+40503)%2^32=aY:=rfl;rw[es];refine MQ (i:=1) (L:=L) rfl (ab av (by decide)) iZ ?_;obtain hR:=Cb L aY 40 (aB _);have hRn:=Cc L aY 39;have Zs:=tS L aY 40;generalize gm L aY 40=rows at *;refine O5 (r:=11) rfl hRn Zs λfull aaN=>?_;obtain hFF:=hR.perm (Lm rows full);have Zt:=(Lm rows full).length_eq;obtain h3:=λr0 r2 e0 e2 e=>R0 (r0:=r0) (r2:=r2) aaN e0 e2 e;generalize kN rows full=ff at *;obtain hfp:0<ff.length:=by rw[Zt];exact List.length_pos_iff.mpr hRn
 walk_at "n";unfold Pe;walk_at "n";refine⟨by decide,ff.map aR,.inl rfl,by rw[aK];exact ag 0x12717892dcfeb1bed758eb Zs Zt,ah 647618956275,ah 0x27fe161c0e30a4581cf46dca0b (ea _ (by decide)),?_⟩;obtain em:(6+(x:Int)%2).toNat=6+x%2:=by exact ah 0xc962256d6b2bc06c5
 rw[em,<-List.map_take];obtain hm:6+x%2<=7:=by exact ah 0x31b283c9ef17d10b (ea _ (by decide))
 obtain hm6:6<=6+x%2:=by exact cT 6 (x%2)
 generalize 6+x%2=m at *;obtain htl:0<(ff.take m).length:=by rw[gY];lia
 obtain htu:(ff.take m).length<=7:=by rw[gY];exact ab (iI _ _) hm
 walk_at "n";unfold Pd;walk_at "n";refine⟨by decide,by decide,lZ (ds:=(ff.take m).map aR) rfl (by rw[aK];exact ab htu (by decide)) ?_⟩;rw[aK];walk_at "n";refine⟨ah 663134467575 htl,?_⟩;obtain eg:(x:Int)/2%((ff.take m).length:Int)=((x/2%(ff.take m).length:Nat):Int):=rfl;obtain hg:x/2%(ff.take m).length<(ff.take m).length:=ea _ htl;rw[eg];generalize x/2%(ff.take m).length=g at *;exact Zr (rows:=rows) av hFF (ab (bL Zt) Zs) hm (ab (by decide) hm6) (ag 0x1e37a8e0f837d8579c7 htu hg) (λr0 r2 e0 e2 e=>⟨full,h3 r0 r2 e0 e2 e⟩) ID
end
theorem Wh{G:GX}{L:List Int}(K:G.K.In g)(T:Top G.p G.yQ G.WE G.mg G.mb g)(keep:∀b o,g.get? b=some o->s.heap.get? b=some o)
  (ha:s.heap.get? a0=some o) (hg:g.get? a0=none) (ek:g.objs.size<=s.heap.objs.size) (av:L.length<=63) (ho:∃vs n,o.cls=.type "list"/\o.data=.seq (List.toArray vs) n/\∀ρ h,c5 ρ h vs (L.map .int))
  (q:∀h' tk',(∀b o',s.heap.get? b=some o'->h'.get? b=some o')->QQ (.bool true) {s with heap:=h',toks:=tk'}):f7 G.M callerA (.call (.ref 629) ⟨[.ref a0],[]⟩) (j7 QQ E) s:=by
 obtain⟨name,qual,params,b,scope,dV,kV,doc,pm,cdv,ct,an,ob,ky,hd,hf,hc,nq,fE⟩:=y7 (RW G);obtain kH:=K.keeps keep;obtain hb:∀X,((jO (G.K.lookup i7.f)).bind λfd=>peek G.K X (bindArgs fd ⟨[.ref a0],[]⟩))=some (i7.aD.zip [.ref a0]):=YT [.ref a0] rfl;rw[hf]at hb;have SF:=uP nq;have NR:((i7.aD.zip [Value.ref a0]).map (·.1)).Nodup:=by rw[G4];exact SF.nd.sublist (ro _ _)
 obtain xi:o.cls≠.type "tuple":=by refine cq ho λvs n h z=>?_;rw[h];decide
 refine ot (by decide) (kH _ _ ky) hd SF.co SF.gen rfl (rD kH hc) (rF kH hb _ _ _ _ (wpAny_newFunctionEnv_cells SF.kind (λx hx=>?_) λG6 he s' x=>?_))
 ·rcases SF.k _ (List.of_mem_zip hx).1 with h | ⟨h,h'⟩
  ·exact .inl h
  ·refine xE (h' (s.heap.objs.size+1)) λa ha'=>?_;exact .inr ⟨h,by show((cellsFrom (s.heap.objs.size+1) scope.names []).lookup x.1).isSome=true;rw[ha'];rfl⟩
 subst he;refine cq x.done λh₁ tk dc z=>?_;obtain rfl:=dc;have kp:=x.toInCall.keep;refine ak (Cl.news (h₀:=s.heap) (aB _) λn c hm=>⟨x.cell n c (lookup_of_mem_nodup (cellsFrom_names scope.names 0 (s.heap.objs.size+1) [] [] rfl▸SF.ndc) hm),x.above n c hm⟩) λcells NC Y=>?_;have yV:∀v∈i7.aD.map (fC s.heap.objs.size scope.names),s.heap.objs.size<=v.iU:=λv hv=>by
  apply eN (bH.mp hv);intro x hx;rcases yU SF Y hx with⟨_,e⟩ | ⟨a,o,_,e,_,bz,hm,_⟩
  ·rw[e];exact aB _
  ·rw[e];exact cZ bz
 obtain bz:=bX ha;obtain C':bw G ⟨101,true⟩ ⟨callerA.deeper (envOfC qual scope s.heap.objs.size 629 cdv),envOfC qual scope s.heap.objs.size 629 cdv,envOfC qual scope s.heap.objs.size 629 cdv,[],callerA,g,g,s.heap.objs.size,i7.aD.map (fC s.heap.objs.size scope.names)⟩ :=
  {below:=below_caller g,frames:=rfl,pN:=rfl,fk:=SF.kind,K:=K,T:=T,depth:=(show callerA.depth+1+101<=900 by decide +kernel),units:=(show callerA.units+3+8*101<=9000 by decide +kernel),hn:=λz=>rfl,nb:=(λe=>nomatch e),gx:=.inr ⟨aB _,rfl⟩}
 obtain E0:=EM (qual:=qual) (f:=629) (cdv:=cdv) (L:=s.heap.objs.size) (g:=g) (c:=⟨callerA,envOfC qual scope s.heap.objs.size 629 cdv,envOfC qual scope s.heap.objs.size 629 cdv,[],callerA,g,g,s.heap.objs.size,[]⟩) SF;obtain F0:=G7 (qual:=qual) (f:=629) (cdv:=cdv) (L:=s.heap.objs.size) (g:=g) (c:=⟨callerA,envOfC qual scope s.heap.objs.size 629 cdv,envOfC qual scope s.heap.objs.size 629 cdv,[],callerA,g,g,s.heap.objs.size,[]⟩) SF;have R':aG G ⟨callerA.deeper (envOfC qual scope s.heap.objs.size 629 cdv),envOfC qual scope s.heap.objs.size 629 cdv,envOfC qual scope s.heap.objs.size 629 cdv,[],callerA,g,g,s.heap.objs.size,i7.aD.map (fC s.heap.objs.size scope.names)⟩ h₁ [a0] ([PV.ref 0].map some++List.replicate (i7.aD.length-1) none) [.raw o] :=
  {
   keep:=λb o e=>kp b o (keep b o e)
   above:=ek
   rR:=uA (by decide) T.g.lt
   len:=by show _=(i7.aD.map _).length;rw[aK];rfl
   gz:=⟨_,x.toInCall.ns⟩
   cQ:=λv hv=>yl (ab ek (yV v hv))
   var:=λi v hi=>by
    have iu:(i7.aD.map (fC s.heap.objs.size scope.names))[i]? =some v:=hi;rw[cv]at iu;apply eN (f9.mp iu);intro y hy;obtain V:c5 [a0] h₁ [.ref a0] [.ref 0]:=.cons ⟨a0,rfl,rfl⟩ .nil;have hz:∀d,(([PV.ref 0].map some++List.replicate (i7.aD.length-1) none)[i]?).join=some d->∃w,(y,w)∈i7.aD.zip [.ref a0]/\VI [a0] h₁ w d:=λd e=>by
     refine ak (L2.get V (G5 e)) λw hw W=>?_;exact⟨w,aH (i:=i) (List.getElem?_zip_eq_some.mpr ⟨hy,hw⟩),W⟩
    rcases yU SF Y (aH hy)with⟨h,e⟩ | ⟨a,o,h,e,_,_,hm,hd⟩
    ·rw[e];refine⟨_,x.toInCall.ns,λd e=>?_⟩;refine ak (hz d e) λw hw W=>?_;exact⟨w,EK _ h _ NR hw,W⟩
    ·rw[e];refine⟨o,_,(NC _ hm).1,hd,λd e=>?_⟩;refine ak (hz d e) λw hw W=>?_;exact⟨w,EL _ h _ NR hw,W⟩
   aX:=⟨rfl,fQ.mpr ⟨(λh=>nomatch h),iy⟩,(λi a p h1 h2=>by
     cases i with
     | zero=>cases h1;cases h2;exact⟨kp _ _ ha,λvs n e=>xi (by rw[e])⟩
     | succ i=>cases h1),λa hm=>by
     apply zL (aV.mp hm);exact⟨hg,cU bz,λv hv e=>absurd (yV v hv) (Nat.not_le.mpr (e▸bz))⟩⟩
   exc:=λv hv=>nomatch hv}
 refine⟨(T.nolimit.keeps keep).keeps kp,B6 λE'=>?_⟩;refine(Lb i7.body).s (Q:=KL (.raw o)) fE C' ⟨E0.kind,E0.names,E0.mI,E0.bi,E0.len,E0.var⟩ ⟨F0.loc,F0.ap,F0.EJ,F0.nf⟩ (aaM av ho) [a0] ⟨h₁,_,_,tk,_⟩ (λf s'=>j7 QQ E (.ok (.ret (match f with | .ret v=>v | _=>.none))) s') E' R' λf fl h' tk' ar l' S' xb T' W q'=>?_
 obtain⟨v,hv,V⟩:∃v,SV f=v/\VI ar h' v (lq fl):=by
  cases fl with
  | next=>obtain rfl:=W;exact⟨_,rfl,VI.none⟩
  | ret d=>obtain⟨v,rfl,W⟩:=W;exact⟨v,rfl,W⟩
 refine pF (q' G _ h' [a0] ar _ rfl T'.pre xb.aX V) λla e aL Hc sub xa QD fB gy=>?_;obtain rfl:=fB;obtain rfl:=gy;show QQ (SV f) _;rw[hv,show v=.bool true from QD];refine q h' tk' λb o' e=>?_;by_cases hb:b=a0
 ·subst hb;apply zR (Option.some.inj (ha.symm.trans e));have hρ:la[0]? =some b:=by
   obtain⟨t,rfl⟩:=Hc;rfl
  exact(xa.at_ 0 b _ hρ rfl).1
 ·exact(T'.old b o' (cU (bX e)) (λv hv e'=>absurd (yV v hv) (Nat.not_le.mpr (e'▸bX e))) (kp _ _ e) λhm=>hb (aV.mp hm)).1
section
open Sem (wp)
theorem Zu{R:Result->Shared->Prop}(adw:s.asleep)
  (h:cp (model prog w) callerA t (λdz s'=>∃f,dz=.done f/\(R (.ok f) s'/\leftWithCleanup s'.gens=false)) (λe s'=>R (.error e) s'/\leftWithCleanup s'.gens=false) s) :
  ∃n r s' A3,runN (denote table) prog w n s ⟨t,.builtin "claim.caller" {},default,[]⟩=.halted (outcomeOf r) s' /\
   schedN (denote table) prog w n (.single s ⟨t,.builtin "claim.caller" {},default,[]⟩)=.halted (outcomeOf r) s'/\s'.forget=A3.forget/\R r A3:=by
 have z:wp (model prog w) ⟨.builtin "claim.caller" {},none,none,[],none⟩ t (Sem.finPost (model prog w) ⟨.builtin "claim.caller" {},none,none,[],none⟩ λr s'=>R r s'/\leftWithCleanup s'.gens=false) (λe y s'=>R (.error e) s'/\leftWithCleanup s'.gens=false) default s :=
  uD _ _ _ (λdz p' s' h'=>by refine ak h' λf dc hf=>?_;obtain rfl:=dc;exact hf) (λy y y h'=>h') _ _ (h ⟨.builtin "claim.caller" {},none,none,[],none⟩ default caller_in (λself p=>(jD self).gx p) λx hx=>nomatch hx)
 refine mE (wp_halts_full (M:=model prog w) (R:=R) adw z) λn r aE bq hs hn Zv hR=>?_;exact⟨n,r,bq,aE,hn,hs,Zv,hR⟩
theorem Na{c:ClaimW}{Sj:List Value->Sem Fin}{Sk:Heap->Prop}(hz:s.asleep)(zh:s.gens=#[])
  (aaO:∀args,c.pre args=true->WData.layableAll args=true->∀ord:List DictEntry->List DictEntry,(∀l,(ord l).Perm l) ->
   ∃vs aE,layAllW c.records (classAt s.heap) w.params ord args s=some (vs,aE) /\
    cp (model c.prog w) callerA (Sj vs) (λdz s'=>∃f,dz=.done f/\(c.Ends s args vs aE (.ok f) s'/\s'.os=s.os/\AllBare s'.gens/\Sk s'.heap)) (λz z=>False) aE) :
  c.CallFrom (λvs=>⟨Sj vs,.builtin "claim.caller" {},default,[]⟩) w free gens Sk s:=by
 intro args fM oU ord Nb;refine cq (aaO args fM oU ord Nb) λvs aE tw aaP=>?_;have Jj:=layAllW_rest _ _ _ tw;refine AK (Zu (prog:=c.prog) (w:=w) (t:=Sj vs) (s:=aE) (R:=λr s'=>c.Ends s args vs aE r s'/\s'.os=s.os/\Sk s'.heap) (Shared.asleep_of_life Jj.2.2.2 hz)
  (gq aaP (λdz s' ⟨f,e,h1,h2,h3,h4⟩=>⟨f,e,⟨h1,h2,h4⟩,leftWithCleanup_false_of_bare h3⟩) λz z h=>h.elim)) λk r s' A3 adx Zw Zv ML hos hkp=>?_
 refine Sn (Shared.forget_eq Zv) λeh z z eo z=>?_;refine⟨vs,aE,tw,k,_,s',Zw,?_,(λz i x hx=>by rw[zh]at hx;simp at hx),eh▸hkp,by rw[(runN_life _ _ _ adx).trans Jj.2.2.2],Shared.rest_eq (eo▸hos)⟩;rcases ML.congr eh with⟨v,rfl,d1,d2,d3,d4,d5⟩ | ⟨e,ob,cls,rfl,d1,d2,d3,d4,d5⟩
 ·exact .inl ⟨v,rfl,d1,d2,d3,λb o y z=>d4 b o y,d5⟩
 ·exact .inr ⟨e,ob,cls,rfl,d1,d2,d3,d4,λb o y z=>d5 b o y⟩
abbrev Ui:Prop :=
 ∀(w:World) (s aE:Shared) (mg mb:Str->Option Value),Ground qw nG lw.row.records (λz z=>True) w s mg mb s.heap->(KF w.params).In s.heap->s.heap.isNs mainGlobals=true->sysModules<s.heap.objs.size ->
  ∀(args:List WData) (Sl:List Value) (as:List Addr),lw.row.claim.pre args=true->WData.layableAll args=true->Laid lw.row.records w s aE args Sl as->∀f,mg lw.row.name=some f ->
   cp (model lw.row.prog w) callerA (PySem.call f Sl) (λv s'=>GoodWG lw.row.claim (classAt s.heap) (ExcName.means s.heap) args aE (.ok (.ret v)) s') (λz z=>False) aE
theorem Wi(call:Ui):lw.Holds:=holds_law aca λaaQ=>by
 have ok:(chainsOk qw&&opensWell lw.row.prog&&(frees lw.row.toRowW&&lw.row.within.isEmpty))=true:=by decide +kernel
 refine xA (cG.mp ok) λok k5=>?_;refine xA (cG.mp ok) λzD o1=>?_;refine xA (cG.mp k5) λk5 k6=>?_;refine Sn (frees_parts k5) λaaR hu ha hap hm=>?_;have hi:=ident_freeW hu ha hap;have hwi:lw.row.claim.within=[]:=dj.mp k6;refine⟨aaQ,⟨[.list []],by decide +kernel,by decide +kernel⟩,⟨⟨rfl,rfl,rfl,rfl,rfl,by decide +kernel⟩,o1,rfl⟩,⟨[.list []],by decide +kernel,by decide +kernel⟩,λw=>⟨(left.behind (XP:=λx x=>True) (λx x=>trivial) zD w).1,λs' pQ=>?_⟩⟩;obtain⟨ady,hf,hg0,s,hT,hz,zh,hg,G,y⟩:=(left.behind (XP:=λx x=>True) (λx x=>trivial) zD w).2 s' pQ;refine⟨ady,hf,hg0,s,hT,λn hn=>?_,(recFacts_nil rfl).1,(recFacts_nil rfl).2.1,?_⟩
 ·obtain rfl:n=lw.row.name:=by split at hn<;>simp_all
  exact pinned_of_view hg G (Option.some_get AM).symm (by kernel_rfl) (by kernel_rfl)
 have zh:s.gens=#[]:=Array.eq_empty_of_size_eq_zero (oJ.mp zh);refine Na (c:=lw.row.claim) hz zh λargs fM oU ord Nb=>?_;refine xE (tX.mp (layAllW_isSome (P:=w.params) (ord:=ord) G.has args lw.row.args s (pre_splitW fM).1)) λdn tw=>?_;obtain⟨vs,aE⟩:=dn;have keeps:=layAllW_keeps _ _ _ tw;have Jj:=layAllW_rest _ _ _ tw;refine dY (reads_layAllW Nb _ _ _ tw oU aE.heap (λx x e=>e)) λas hrd pR RL=>?_;have L:Laid lw.row.records w s aE args vs as:=⟨⟨ord,Nb,tw⟩,hrd,pR,RL,keeps,Jj.1.trans zh,Jj.2.2.1⟩;refine Nf (G.fn (Option.some_get AM).symm) λa o pm cd doc dV kV h1 x=>?_;have agN:=defOf_name (Option.some_get AM).symm;refine⟨vs,aE,tw,aq (wpAny_nsGet (G.T.g.keeps keeps) ?_)⟩;rw[show s.heap.nsMap mainGlobals lw.row.name=some (.ref a)from h1];refine df (gq (call w s aE _ _ G (InK.of Wy w s y) hg G.low args vs as fM oU L _ h1) (λv s' g=>b5 ?_) λx x h=>h);have z:=g.laid (c:=lw.row.claim) aaR hwi hi L;exact⟨_,rfl,z.1,z.2.1,z.2.2,λq=>⟨namesKept_of hT hg _ keeps g.2.1.old,noTable (R:=lw.row.records) rfl q⟩⟩
end
theorem ints_of:∀{vs:List Value} {as:List Addr},WShape.hasItems R xs .int=true->ReadsAllW R cl h vs xs as->as=[]/\∃L:List Int,xs=L.map WData.int/\∀ρ h',c5 ρ h' vs (L.map PV.int):=by
 induction xs with
 | nil =>
  intro _ _ _ r;refine xA (readsAllW_nil_inv r) λe1 e2=>?_;subst e1 e2;exact⟨rfl,[],rfl,λz z=>.nil⟩
 | cons x xs ih =>
  intro _ _ e r;obtain e':WShape.has R x .int=true/\WShape.hasItems R xs .int=true:=bU e;obtain⟨i,rfl⟩:=hasW_int e'.1;refine mE (readsAllW_cons_inv r) λv vs as1 as2 e1 e2 r1 r2=>?_;refine Lz (ih e'.2 r2) λe3 L e4 hv=>?_;subst e4 e3 e2 e1;cases r1;exact⟨rfl,i::L,rfl,λρ h'=>.cons ⟨_,rfl⟩ (hv ρ h')⟩
theorem Wj(h:lw.row.pre.holds lw.row.records {args:=[.list xs]}=true):xs.length<=63:=by
 obtain h:(WTm.and (.not (.lt (.lit (.int 63)) (.len (.arg 0)))) (.lit (.bool true))).holds [] {args:=[.list xs]}=true:=h;refine ja λbz=>?_;obtain e:(WTm.lt (.lit (.int 63)) (.len (.arg 0))).value [] {args:=[.list xs]}=some (.bool true):=by
  show some (WData.bool (decide ((63:Int)<(xs.length:Int))))=_;rw[cH (by exact ah 0x39848dcee2b45bc5 bz)]
 unfold WTm.holds at h;have e2:(WTm.not (.lt (.lit (.int 63)) (.len (.arg 0)))).value [] {args:=[.list xs]}=some (.bool false):=by rw[WTm.value,e];rfl
 rw[show(WTm.and (.not (.lt (.lit (.int 63)) (.len (.arg 0)))) (.lit (.bool true))).value [] {args:=[.list xs]}=some (.bool false) by
  rw[WTm.value,e2]]at h
 cases h
theorem walk:Ui:=λw s aE mg mb G K hns low args Sl as fM oU L f hf=>by
 refine xA (pre_splitW fM) λSR Kl=>?_;refine dH (hasAllW_cons (e:=.list .int) (es:=[]) SR) λd r gy h1 h2=>?_;obtain rfl:=gy;obtain rfl:=hasAllW_nil h2;refine ak (hasW_list h1) λxs kz h3=>?_;obtain rfl:=kz;apply qE (readsAllW_cons_inv L.reads);intro v NY as1 as2 kA r1 r2;obtain rfl:=kA;obtain⟨rfl,rfl⟩:=readsAllW_nil_inv r2;cases r1 with
 | @list a o vs n _ as ha hc hd hr =>
 apply Wq (ints_of h3 hr);intro Li rW hv;obtain rfl:=rW;obtain av:=Wj Kl;rw[aK]at av;obtain rfl:f=.ref 629:=Option.some.inj (hf.symm.trans (mg_of K G.T.g (show nsIn (KF w.params) mainGlobals "law"=some (some (.ref 629)) by kernel_rfl)));have pR:=(L.within.2.2 a (.head _)).1;obtain ek:=cZ (a6 pR (bX ha));refine kD (Wh (G:=⟨lw.row.prog,w,qw,looseW qw nG,ExcName.means s.heap,mg,mb⟩) (g:=s.heap) (L:=Li) K G.T L.keeps ha (yl pR) ek av ⟨vs.toList,n,hc,hd,hv⟩ λh' tk' kp=>?_);exact⟨.inl ⟨_,.bool true,[],rfl,λz=>rfl,.bool true,by kernel_rfl,λz=>⟨iy,λz h=>nomatch h⟩⟩,.of_keep kp,rfl,.of_eq L.gens⟩
theorem ab7:lw.Holds:=Wi walk
end Mine
theorem PySem.Challenge.cw_np0207_01_holds : PySem.Challenge.rw_np0207_01.Holds :=
 Mine.ab7
