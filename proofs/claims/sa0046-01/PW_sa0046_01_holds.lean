import PyProof.Rows.All
import Wide.All
import OpenK.AllK
import Wide.FinOn
import PyProof.ExcBaseAll.Exception
import PyProof.ExcClass2
import PyProof.RulesAs
import PyProof.ExcAttrAll.Exception
import Lean
import PySem.Challenge.RW_sa0046_01
set_option Elab.async false
set_option compiler.extract_closed false
set_option bootstrap.genMatcherCode false
set_option genSizeOf false
set_option genInjectivity false
set_option genCtorIdx false
set_option linter.all false
namespace Mine
def U0:=@PySem.wpAny_bind
def U1:=@Nat.le_of_ble_eq_true
def U2:=@List.length_map
def U3:=@Nat.le_trans
def U4:=@Nat.le_add_left
def U5:=@List.mem_singleton
def U6:=@PySem.wpAny_pure
def U7:=@List.length_append
def U8:=@if_neg
noncomputable def U9:=@absurd
def U':=@List.getElem?_eq_getElem
def Va:=@Nat.le_refl
def Vb:=@if_pos
def Vc:=@List.mem_cons
def Vd:=@List.map_append
def Ve:=@congrArg
def Vf:=@List.getD_eq_getElem?_getD
def Vg:=@Nat.lt_of_lt_of_le
def Vh:=@PySem.Heap.get?_push_of_some
def Vi:=@Nat.lt_succ_of_lt
def Vj:=@Nat.zero_le
def Vk:=@List.mem_append
def Vl:=@Array.length_toList
def Vm:=@List.mem_append_right
def Vn:=@List.mem_map
def Vo:=@List.append_assoc
def Vp:=@PySem.Heap.SameBut.update
def Vq:=@PySem.Heap.lt_size
def Vr:=@List.mem_singleton_self
def Vs:=@Nat.lt_succ_self
def Vt:=@Nat.ne_of_lt
def Vu:=@Bool.false_ne_true
def Vv:=@List.mem_append_left
def Vw:=@PySem.Heap.get?_push_size
def Vx:=@Nat.le_add_right
def Vy:=@List.map_congr_left
def Vz:=@Nat.le_of_eq
def VA:=@Nat.lt_of_le_of_lt
def VB:=@Nat.lt_irrefl
def VC:=@Bool.eq_false_iff
def VD:=@List.map_map
def VE:=@Nat.le_succ
def VF:=@List.forall_mem_cons
def VG:=@Nat.le_succ_of_le
def VH:=@List.getElem?_eq_some_iff
def VI:=@List.map_cons
def VJ:=@Nat.succ_le_succ
def VK:=@Nat.lt_trans
def VL:=@List.mem_cons_self
def VM:=@PySem.Heap.get?_update_self
def VN:=@PySem.sizeLine_eq
def VO:=@Bool.and_eq_true_iff
def VP:=@Nat.le_of_lt
def VQ:=@List.getElem?_append_left
def VR:=@List.append_nil
def VS:=@List.mem_filter
def VT:=@Nat.not_lt_zero
def VU:=@List.eq_nil_of_length_eq_zero
def VV:=@Nat.not_lt
def VW:=@Option.some.inj
def VX:=@List.nodup_cons
def VY:=@List.pairwise_singleton
def VZ:=@List.reverse_cons
def V1:=@PySem.wpAny_field
def V2:=@List.length_reverse
def V5:=@Nat.succ_pos
def V6:=@List.map_reverse
def V7:=@PySem.wpAny_call_entry
def V8:=@List.all_eq_true
def V9:=@Nat.le_of_succ_le
def V':=@Nat.eq_of_beq_eq_true
def Wa:=@Array.getElem?_toList
def Wb:=@beq_iff_eq
def Wc:=@Classical.byContradiction
def Wd:=@PySem.wpAny_holding
def We:=@Option.isSome_iff_exists
def Wf:=@PySem.wpAny_newObj_type
def Wg:=@List.nil_append
def Wh:=@Nat.le_of_lt_succ
def Wi:=@of_decide_eq_true
def Wj:=@Int.natCast_nonneg
def Wk:=@Nat.zero_add
def Wl:=@Nat.min_eq_left
def Wm:=@List.length_nil
def Wn:=@Nat.le_of_not_lt
def Wo:=@decide_eq_true
def Wq:=@Nat.mod_eq_of_lt
def Wr:=@PySem.wpAny_mono
def Ws:=@Bool.false_eq_true
def Wt:=@beq_false_of_ne
def Wu:=@List.nodup_append
def Wv:=@List.length_eq_zero_iff
def Ww:=@List.filter_cons_of_pos
def Wx:=@Nat.add_le_add_right
def Wy:=@PySem.Heap.size_push
def Wz:=@List.mem_cons_of_mem
def WA:=@Option.map_eq_some_iff
def WB:=@List.length_cons
def WC:=@Nat.add_le_add_left
def WD:=@List.getElem?_map
def WE:=@PySem.codeAny_mono
def WG:=@List.not_mem_nil
def WH:=@List.getElem_mem
def WI:=@PySem.wpAny_callSpecial?_slot
def WJ:=@Nat.pow_le_pow_right
def WK:=@List.getElem?_concat_length
def WL:=@Int.ofNat.inj
def WM:=@Nat.add_le_add
def WN:=@decide_eq_true_eq
def WO:=@Nat.ne_of_gt
def WQ:=@PySem.wpAny_loadPart_at
def WR:=@List.getElem?_append_right
def WT:=@decide_eq_false
def WU:=@Nat.max_eq_right
def WV:=@Nat.lt_of_le_of_ne
def WW:=@Array.isEmpty_iff_size_eq_zero
def WX:=@PySem.wpAny_setField_rec
def WY:=@Nat.lt_succ_iff_lt_or_eq
def WZ:=@Nat.add_assoc
def W0:=@PySem.wpAny_standAt
def W2:=@PySem.Obj.data_mapDictKeys
def W3:=@Function.comp_def
def W4:=@List.filter_cons_of_neg
def W5:=@Nat.max_eq_left
def W6:=@List.mem_map_of_mem
def W7:=@Nat.min_eq_right
def W8:=@Bool.and_eq_true
def W9:=@List.isEmpty_iff
def W':=@Nat.add_right_comm
def Xa:=@PySem.wpAny_seqItems
def Xb:=@PySem.F.slot_tuple_iterator_next
def Xc:=@PySem.F.slot_dict_delitem
def Xd:=@Array.getElem?_eq_getElem
def Xe:=@List.size_toArray
def Xf:=@Array.mem_toList_iff
def Xg:=@List.mem_of_getElem?
def Xh:=@PySem.wpAny_setState_of
def Xi:=@Array.getElem?_setIfInBounds_ne
def Xj:=@PySem.Obj.isFreed_of_dict
def Xk:=@Array.any_toList
def Xl:=@beq_self_eq_true
def Xm:=@PySem.wpAny_of_eq
def Xn:=@List.mem_filterMap
def Xo:=@Nat.le_of_succ_le_succ
def Xp:=@of_decide_eq_false
def Xq:=@Nat.le_antisymm
def Xr:=@PySem.F.slot_dict_setdefault
def Xu:=@List.getElem?_eq_none
def Xv:=@PySem.F.slot_dict_pop
def Xw:=@List.length_range
def Xx:=@PySem.atKey_none_of_get
def Xy:=@Nat.lt_succ_of_le
def Xz:=@Nat.succ_le_of_lt
def XA:=@if_false
def XB:=@PySem.wpAny_loadPart
def XD:=@PySem.wpAny_setField
def XF:=@Array.getElem?_eq_some_iff
def XG:=@PySem.Calls.evalArgs_plain
def XH:=@Prod.mk.inj
def XI:=@PySem.wpAny_rule
def XJ:=@List.reverse_reverse
def XK:=@PySem.codeAny_call_builtin
def XM:=@Nat.le_total
def XN:=@List.drop_length
def XO:=@PySem.wpAny_askSetting
def XR:=@List.mem_reverse
def XS:=@PySem.ks_wpAt_mono
def XT:=@Nat.succ.inj
def XU:=@List.zipIdx_cons
def XW:=@List.cons_append
def XX:=@List.drop_eq_getElem_cons
def XY:=@List.filterMap_cons
def XZ:=@List.Perm.eq_of_pairwise
def X1:=@PySem.F.ks_slot_super_ga
def X3:=@Nat.min_le_left
def X4:=@PySem.codeAny_builtin
def X5:=@Nat.not_le
def X6:=@Nat.lt_or_gt_of_ne
def X7:=@PySem.wpAny_call
def X8:=@PySem.ks_wpAt_execs_cons
def X9:=@PySem.Code.quiet_builtin
def Yb:=@PySem.wpAny_letGo
def Yc:=@if_true
def Yd:=@Option.some.injEq
def Ye:=@List.pairwise_map
def Yg:=@PySem.getMethod_builtin
def Yh:=@PySem.wpAny_dictEntries
def Yi:=@Nat.add_comm
def Yj:=@Nat.sub_self
def Yk:=@Nat.ble_eq
def Yl:=@List.sum_cons
set_option Elab.async false
set_option linter.unusedVariables false
@[elab_as_elim] def So {o:Sort _} {a b:o} {motive:o->Prop} (h:a=b) (k:motive b):motive a:=h▸k
@[elab_as_elim] def Sp {o:Sort _} {a b:o} {motive:o->Prop} (h:b=a) (k:motive b):motive a:=h▸k
@[elab_as_elim] def Sq {a b:Prop} {motive:Prop->Prop} (h:a↔b) (k:motive b):motive a:=propext h▸k
@[elab_as_elim] def Sr {a b:Prop} {motive:Prop->Prop} (h:b↔a) (k:motive b):motive a:=propext h▸k
def y7(h:bif b then P else True)(e:b=true):P:=by rw[e] at h;exact h
def aB{G:Prop}(h:∀R:Prop,(G->R)->R):G:=h G id
section
variable{ij jg md rD y8 Fw N9 Rg Ss:Sort _}{R:Prop}
def aw{p:ij->Prop}(h:∃o,p o)(k:∀o,p o->R):R:=h.elim k
def dh{p:ij->jg->Prop}(h:∃o,∃C,p o C)(k:∀o C,p o C->R):R:=h.elim λa h=>aw h (k a)
def kG{p:ij->jg->md->Prop}(h:∃o,∃C,∃I,p o C I)(k:∀o C I,p o C I->R):R:=h.elim λa h=>dh h (k a)
def rE{p:ij->jg->md->rD->Prop}(h:∃o,∃C,∃I,∃J,p o C I J)(k:∀o C I J,p o C I J->R):R:=h.elim λa h=>kG h (k a)
def rF{p:ij->jg->md->rD->y8->Prop}(h:∃o,∃C,∃I,∃J,∃U,p o C I J U)(k:∀o C I J U,p o C I J U->R):R:=h.elim λa h=>rE h (k a)
def KU{p:ij->jg->md->rD->y8->Fw->Prop}(h:∃o,∃C,∃I,∃J,∃U,∃b,p o C I J U b)(k:∀o C I J U b,p o C I J U b->R):R:=h.elim λa h=>rF h (k a)
def n0{p:ij->jg->md->rD->y8->Fw->N9->Prop}(h:∃o,∃C,∃I,∃J,∃U,∃b,∃c,p o C I J U b c)(k:∀o C I J U b c,p o C I J U b c->R):R:=h.elim λa h=>KU h (k a)
def Su{p:ij->jg->md->rD->y8->Fw->N9->Rg->Prop}(h:∃o,∃C,∃I,∃J,∃U,∃b,∃c,∃d,p o C I J U b c d)(k:∀o C I J U b c d,p o C I J U b c d->R):R:=h.elim λa h=>n0 h (k a)
def Lj{p:ij->jg->md->rD->y8->Fw->N9->Rg->Ss->Prop}(h:∃o,∃C,∃I,∃J,∃U,∃b,∃c,∃d,∃e,p o C I J U b c d e)(k:∀o C I J U b c d e,p o C I J U b c d e->R):R:=h.elim λa h=>Su h (k a)
def aV(h:o/\C)(k:o->C->R):R:=k h.1 h.2
def dG(h:o/\C/\I)(k:o->C->I->R):R:=aV h.2 (k h.1)
def jU(h:o/\C/\I/\J)(k:o->C->I->J->R):R:=dG h.2 (k h.1)
def y9(h:o/\C/\I/\J/\U)(k:o->C->I->J->U->R):R:=jU h.2 (k h.1)
def Lk(h:o/\C/\I/\J/\U/\a)(k:o->C->I->J->U->a->R):R:=y9 h.2 (k h.1)
def KW(h:o/\C/\I/\J/\U/\a/\b)(k:o->C->I->J->U->a->b->R):R:=Lk h.2 (k h.1)
def Sv(h:o/\C/\I/\J/\U/\a/\b/\c)(k:o->C->I->J->U->a->b->c->R):R:=KW h.2 (k h.1)
def Rh(h:o/\C/\I/\J/\U/\a/\b/\c/\d)(k:o->C->I->J->U->a->b->c->d->R):R:=Sv h.2 (k h.1)
def ah{C I:ij->Prop}(h:∃o,C o/\I o)(k:∀o,C o->I o->R):R:=aw h λo h=>aV h (k o)
def bL{C I J:ij->Prop}(h:∃o,C o/\I o/\J o)(k:∀o,C o->I o->J o->R):R:=aw h λo h=>dG h (k o)
def n4{C I J U:ij->Prop}(h:∃o,C o/\I o/\J o/\U o)(k:∀o,C o->I o->J o->U o->R):R:=aw h λo h=>jU h (k o)
def xb{C I J U a:ij->Prop}(h:∃o,C o/\I o/\J o/\U o/\a o)(k:∀o,C o->I o->J o->U o->a o->R):R:=aw h λo h=>y9 h (k o)
def dr{I J:ij->jg->Prop}(h:∃o C,I o C/\J o C)(k:∀o C,I o C->J o C->R):R:=dh h λo C h=>aV h (k o C)
def cp{I J U:ij->jg->Prop}(h:∃o C,I o C/\J o C/\U o C)(k:∀o C,I o C->J o C->U o C->R):R:=dh h λo C h=>dG h (k o C)
def iz{I J U a:ij->jg->Prop}(h:∃o C,I o C/\J o C/\U o C/\a o C)(k:∀o C,I o C->J o C->U o C->a o C->R):R:=dh h λo C h=>jU h (k o C)
def tW{I J U a b:ij->jg->Prop}(h:∃o C,I o C/\J o C/\U o C/\a o C/\b o C)(k:∀o C,I o C->J o C->U o C->a o C->b o C->R):R:=dh h λo C h=>y9 h (k o C)
def OL{I J U a b c d e f:ij->jg->Prop}(h:∃o C,I o C/\J o C/\U o C/\a o C/\b o C/\c o C/\d o C/\e o C/\f o C)(k:∀o C,I o C->J o C->U o C->a o C->b o C->c o C->d o C->e o C->f o C->R):R:=dh h λo C h=>Rh h (k o C)
def y'{J U:ij->jg->md->Prop}(h:∃o C I,J o C I/\U o C I)(k:∀o C I,J o C I->U o C I->R):R:=kG h λo C I h=>aV h (k o C I)
def n5{J U a:ij->jg->md->Prop}(h:∃o C I,J o C I/\U o C I/\a o C I)(k:∀o C I,J o C I->U o C I->a o C I->R):R:=kG h λo C I h=>dG h (k o C I)
def tX{J U a b:ij->jg->md->Prop}(h:∃o C I,J o C I/\U o C I/\a o C I/\b o C I)(k:∀o C I,J o C I->U o C I->a o C I->b o C I->R):R:=kG h λo C I h=>jU h (k o C I)
def za{J U a b c d:ij->jg->md->Prop}(h:∃o C I,J o C I/\U o C I/\a o C I/\b o C I/\c o C I/\d o C I)(k:∀o C I,J o C I->U o C I->a o C I->b o C I->c o C I->d o C I->R):R:=kG h λo C I h=>Lk h (k o C I)
def Ll{J U a b c d e f g:ij->jg->md->Prop}(h:∃o C I,J o C I/\U o C I/\a o C I/\b o C I/\c o C I/\d o C I/\e o C I/\f o C I/\g o C I)(k:∀o C I,J o C I->U o C I->a o C I->b o C I->c o C I->d o C I->e o C I->f o C I->g o C I->R):R:=kG h λo C I h=>Rh h (k o C I)
def jW{U a:ij->jg->md->rD->Prop}(h:∃o C I J,U o C I J/\a o C I J)(k:∀o C I J,U o C I J->a o C I J->R):R:=rE h λo C I J h=>aV h (k o C I J)
def OM{U a b:ij->jg->md->rD->Prop}(h:∃o C I J,U o C I J/\a o C I J/\b o C I J)(k:∀o C I J,U o C I J->a o C I J->b o C I J->R):R:=rE h λo C I J h=>dG h (k o C I J)
def CC{U a b c:ij->jg->md->rD->Prop}(h:∃o C I J,U o C I J/\a o C I J/\b o C I J/\c o C I J)(k:∀o C I J,U o C I J->a o C I J->b o C I J->c o C I J->R):R:=rE h λo C I J h=>jU h (k o C I J)
def iU{U a b c d:ij->jg->md->rD->Prop}(h:∃o C I J,U o C I J/\a o C I J/\b o C I J/\c o C I J/\d o C I J)(k:∀o C I J,U o C I J->a o C I J->b o C I J->c o C I J->d o C I J->R):R:=rE h λo C I J h=>y9 h (k o C I J)
def ON{U a b c d e f:ij->jg->md->rD->Prop}(h:∃o C I J,U o C I J/\a o C I J/\b o C I J/\c o C I J/\d o C I J/\e o C I J/\f o C I J)(k:∀o C I J,U o C I J->a o C I J->b o C I J->c o C I J->d o C I J->e o C I J->f o C I J->R):R:=rE h λo C I J h=>KW h (k o C I J)
def GA{a b c d e:ij->jg->md->rD->y8->Prop}(h:∃o C I J U,a o C I J U/\b o C I J U/\c o C I J U/\d o C I J U/\e o C I J U)(k:∀o C I J U,a o C I J U->b o C I J U->c o C I J U->d o C I J U->e o C I J U->R):R:=rF h λo C I J U h=>y9 h (k o C I J U)
def GB{a b c d e f:ij->jg->md->rD->y8->Prop}(h:∃o C I J U,a o C I J U/\b o C I J U/\c o C I J U/\d o C I J U/\e o C I J U/\f o C I J U)(k:∀o C I J U,a o C I J U->b o C I J U->c o C I J U->d o C I J U->e o C I J U->f o C I J U->R):R:=rF h λo C I J U h=>Lk h (k o C I J U)
def GD{b c:ij->jg->md->rD->y8->Fw->Prop}(h:∃o C I J U a,b o C I J U a/\c o C I J U a)(k:∀o C I J U a,b o C I J U a->c o C I J U a->R):R:=KU h λo C I J U a h=>aV h (k o C I J U a)
def OO{b c d e f:ij->jg->md->rD->y8->Fw->Prop}(h:∃o C I J U a,b o C I J U a/\c o C I J U a/\d o C I J U a/\e o C I J U a/\f o C I J U a)(k:∀o C I J U a,b o C I J U a->c o C I J U a->d o C I J U a->e o C I J U a->f o C I J U a->R):R:=KU h λo C I J U a h=>y9 h (k o C I J U a)
def OP{b c d e f g:ij->jg->md->rD->y8->Fw->Prop}(h:∃o C I J U a,b o C I J U a/\c o C I J U a/\d o C I J U a/\e o C I J U a/\f o C I J U a/\g o C I J U a)(k:∀o C I J U a,b o C I J U a->c o C I J U a->d o C I J U a->e o C I J U a->f o C I J U a->g o C I J U a->R):R:=KU h λo C I J U a h=>Lk h (k o C I J U a)
def GF{c d:ij->jg->md->rD->y8->Fw->N9->Prop}(h:∃o C I J U a b,c o C I J U a b/\d o C I J U a b)(k:∀o C I J U a b,c o C I J U a b->d o C I J U a b->R):R:=n0 h λo C I J U a b h=>aV h (k o C I J U a b)
end
inductive LT where
 |v (i:Nat)
 |k (n:Nat)
 |p (a b:LT)
 |m (c:Nat) (a:LT)
 |r (a:LT) (c:Nat)
inductive LP where
 |le (a b:LT)
 |lt (a b:LT)
 |eq (a b:LT)
 |ne (a b:LT)
 |N' (a b:LT)
 |CG (a b:LT)
 |sub (j a b:LT)
 |mn (j a b:LT)
 |mx (j a b:LT)
 |ff
abbrev af:LT:=.v 0
abbrev aj:LT:=.v 1
abbrev aC:LT:=.v 2
abbrev bH:LT:=.v 3
abbrev iV:LT:=.v 4
abbrev aF:LT:=.k 1
abbrev eo:LT:=.k 8
abbrev gp:LT:=.k 0
abbrev gI:LT:=.k 2
abbrev aE:LT:=.k 100000
abbrev bU:LT:=.k 100
abbrev gD:LT:=.k 12
abbrev bQ:LT:=.k 50000
inductive LC where
 |l (cs:List Nat)
 |s (i:Nat) (x y:LC)
noncomputable def ev:List Nat->List Nat->Nat
 |c::o,x::xs=>c*x+ev o xs
 |_,_=>0
noncomputable def rG:List Nat->List Nat->List Nat
 |[],q=>q
 |p,[]=>p
 |a::p,b::q=>(a+b)::rG p q
noncomputable def pv:Nat->List Nat
 |0=>[1]
 |n+1=>0::pv n
noncomputable abbrev Ri(xs:List Nat)(i:Nat):Nat:=List.rec (motive:=λ_=>Nat->Nat) (λ_=>0) (λx _ r i=>Nat.rec (motive:=λ_=>Nat) x (λn _=>r n) i) xs i
noncomputable abbrev LT.d(xs:List Nat)(t:LT):Nat:=LT.rec (motive:=λ_=>Nat) (Ri xs) (λn=>n) (λ_ _ a b=>a+b) (λc _ a=>c*a) (λ_ c a=>a*c) t
noncomputable def LT.n:LT->List Nat
 |.v i=>0::pv i
 |.k n=>[n]
 |.p a b=>rG a.n b.n
 |.m c a=>a.n.map (c*·)
 |.r a c=>a.n.map (c*·)
abbrev LP.d(xs:List Nat)(p:LP):Prop:=LP.rec (motive:=λ_=>Prop) (λa b=>a.d xs<=b.d xs) (λa b=>a.d xs<b.d xs) (λa b=>a.d xs=b.d xs) (λa b=>¬a.d xs=b.d xs)
 (λa b=>¬a.d xs<=b.d xs) (λa b=>¬a.d xs<b.d xs) (λj a b=>j.d xs=a.d xs-b.d xs) (λj a b=>j.d xs=min (a.d xs) (b.d xs)) (λj a b=>j.d xs=max (a.d xs) (b.d xs)) False p
noncomputable abbrev LI:=List (LT×LT)
noncomputable def LP.b:LP->LI
 |.le a b=>[(a,b)]
 |.lt a b=>[(.p a aF,b)]
 |.eq a b=>[(a,b),(b,a)]
 |.N' a b=>[(.p b aF,a)]
 |.CG a b=>[(b,a)]
 |.sub j a b=>[(a,.p j b),(j,a)]
 |.mn j a b=>[(j,a),(j,b)]
 |.mx j a b=>[(a,j),(b,j)]
 |.ff=>[(.k 1,.k 0)]
 |.ne _ _=>[]
noncomputable def LP.s:LP->LI×LI
 |.ne a b=>([(.p a aF,b)],[(.p b aF,a)])
 |.sub j a b=>([(a,b),(j,.k 0)],[(b,a),(.p j b,a)])
 |.mn j a b=>([(a,j)],[(b,j)])
 |.mx j a b=>([(j,a)],[(j,b)])
 |_=>([],[])
noncomputable def LP.neg:LP->LP
 |.le a b=>.N' a b
 |.lt a b=>.CG a b
 |.eq a b=>.ne a b
 |.ne a b=>.eq a b
 |.N' a b=>.le a b
 |.CG a b=>.lt a b
 |_=>.le gp gp
noncomputable def Oa:List Nat->List Nat->Bool
 |_,[]=>true
 |[],b::q=>Nat.beq b 0&&Oa [] q
 |a::p,b::q=>Nat.ble b a&&Oa p q
noncomputable def Rj:List Nat->List Nat->Bool
 |a::p,b::q=>Nat.ble (b+1) a&&Oa p q
 |_,_=>false
noncomputable def comb:List Nat->LI->List Nat×List Nat
 |c::o,i::is=>(rG (i.1.n.map (c*·)) (comb o is).1,rG (i.2.n.map (c*·)) (comb o is).2)
 |_,_=>([0],[0])
noncomputable def GH(hs:List LP):LI->LC->Bool
 |I,.l o=>Rj (comb o I).1 (comb o I).2
 |I,.s i x y=>GH hs ((hs.getD i (.le gp gp)).s.1++I) x&&GH hs ((hs.getD i (.le gp gp)).s.2++I) y
abbrev imp(xs:List Nat)(hs:List LP)(g:Prop):Prop:=List.rec (motive:=λ_=>Prop) g (λp _ r=>p.d xs->r) hs
def gJ:ev [] xs=0:=xs.casesOn rfl λ_ _=>rfl
def tY(p:List Nat):∀q xs:List Nat,ev (rG p q) xs=ev p xs+ev q xs:=by
 induction p with
 |nil=>exactλq xs=>((Wk _).symm.trans (Ve (· +ev q xs) gJ.symm):ev q xs=_)
 |cons a p o=>
  exactλq=>q.casesOn (λxs=>((Ve (ev (a::p) xs+·) gJ).symm:ev (a::p) xs=_)) λb q xs=>xs.casesOn rfl λx xs=>by refine(?_:(a+b)*x+ev (rG p q) xs=a*x+ev p xs+(b*x+ev q xs));rw[o,Nat.add_mul,Nat.add_add_add_comm]
def pN(c:Nat)(p:List Nat):∀xs:List Nat,ev (p.map (c*·)) xs=c*ev p xs:=by
 induction p with
 |nil=>exactλxs=>gJ.trans (Ve (c*·) gJ.symm)
 |cons a p o=>
  exactλxs=>xs.casesOn rfl λx xs=>by refine(?_:c*a*x+ev (p.map (c*·)) xs=c*(a*x+ev p xs));rw[o,Nat.mul_add,Nat.mul_assoc]
def Lm(i:Nat):∀xs:List Nat,ev (pv i) xs=Ri xs i:=by
 induction i with
 |zero=>exactλxs=>xs.casesOn rfl λx xs=>(Ve (1*x+·) gJ).trans (Nat.one_mul x)
 |succ i o=>exactλxs=>xs.casesOn rfl λx xs=>(Ve (· +ev (pv i) xs) (Nat.zero_mul x)).trans ((Wk _).trans (o xs))
def Ln(xs:List Nat)(t:LT):ev t.n (1::xs)=t.d xs:=
 LT.rec (motive:=λt=>ev t.n (1::xs)=t.d xs) (λi=>(Ve (· +ev (pv i) xs) (Nat.zero_mul 1)).trans ((Wk _).trans (Lm i xs))) (λn=>(Ve (n*1+·) gJ).trans (Nat.mul_one n))
  (λ_ _ a b=>(tY ..).trans (congr (Ve _ a) b)) (λ_ _ a=>(pN ..).trans (Ve _ a)) (λ_ _ a=>(pN ..).trans ((Ve _ a).trans (Nat.mul_comm ..))) t
def GI:∀{p:List Nat},Oa p q=true->∀xs,ev q xs<=ev p xs:=by
 induction q with
 |nil=>exactλ_ xs=>gJ.symm▸Vj _
 |cons b q o=>
  refineλ{p}=>p.casesOn (λh xs=>xs.casesOn (Va _) λx xs=>?_) λa p h xs=>xs.casesOn (Va _) λx xs=>?_
  ·have h:=VO.mp h
   refine(?_:b*x+ev q xs<=0);rw[V' h.1,Nat.zero_mul,Wk];exact gJ (xs:=xs)▸o h.2 xs
  ·have h:=VO.mp h
   exact WM (Nat.mul_le_mul_right x (U1 h.1)) (o h.2 xs)
def GK(h:Rj p q=true)(xs:List Nat):ev q (1::xs)<ev p (1::xs):=by revert h;refine p.casesOn (λh=>nomatch h) λa p=>q.casesOn (λh=>nomatch h) λb q h=>?_;have h:=VO.mp h;exact Nat.add_lt_add_of_lt_of_le ((Nat.mul_one b).symm▸(Nat.mul_one a).symm▸U1 h.1) (GI h.2 xs)
noncomputable def iW(xs:List Nat):LI->Prop
 |[]=>True
 |i::is=>i.1.d xs<=i.2.d xs/\iW xs is
noncomputable def xd(xs:List Nat):List LP->Prop
 |[]=>True
 |p::o=>p.d xs/\xd xs o
def iW.app:iW xs I->iW xs J->iW xs (I++J):=by
 induction I with
 |nil=>exactλ_=>id
 |cons _ _ o=>exactλh C=>⟨h.1,o h.2 C⟩
def xd.get:∀(i:Nat),xd xs hs->(hs.getD i (.le gp gp)).d xs:=by
 induction hs with
 |nil=>exactλ_ _=>Va _
 |cons _ _ o=>exactλi h=>i.casesOn h.1 λi=>o i h.2
def CH(o:List Nat):∀I:LI,iW xs I->ev (comb o I).1 (1::xs)<=ev (comb o I).2 (1::xs):=by
 induction o with
 |nil=>exactλ_ _=>Va _
 |cons c o C=>
  refineλI=>I.casesOn (λ_=>Va _) λi is h=>(?_:ev (rG ..) _<=ev (rG ..) _);rw[tY,tY,pN,pN,Ln,Ln];exact WM (Nat.mul_le_mul_left c h.1) (C is h.2)
def LP.OQ{xs:List Nat}{p:LP}:p.d xs->iW xs p.b:=
 p.casesOn (motive:=λp=>p.d xs->iW xs p.b) (λ_ _ h=>⟨h,trivial⟩) (λ_ _ h=>⟨h,trivial⟩) (λ_ _ h=>⟨Vz h,Vz h.symm,trivial⟩) (λ_ _ _=>trivial)
  (λ_ _ h=>⟨X5.mp h,trivial⟩) (λ_ _ h=>⟨VV.mp h,trivial⟩) (λ_ _ _ h=>⟨Nat.sub_le_iff_le_add.mp (Vz (Eq.symm h)),U3 (Vz h) (Nat.sub_le ..),trivial⟩)
  (λ_ _ _ h=>⟨U3 (Vz h) (X3 ..),U3 (Vz h) (Nat.min_le_right ..),trivial⟩)
  (λ_ _ _ h=>⟨U3 (Nat.le_max_left ..) (Vz (Eq.symm h)),U3 (Nat.le_max_right ..) (Vz (Eq.symm h)),trivial⟩) λh=>h.elim
def LP.OR{xs:List Nat}{p:LP}:p.d xs->iW xs p.s.1\/iW xs p.s.2:=
 p.casesOn (motive:=λp=>p.d xs->iW xs p.s.1\/iW xs p.s.2) (λ_ _ _=>.inl trivial) (λ_ _ _=>.inl trivial) (λ_ _ _=>.inl trivial) (λ_ _ h=>(X6 h).imp (λh=>⟨h,trivial⟩) λh=>⟨h,trivial⟩)
  (λ_ _ _=>.inl trivial) (λ_ _ _=>.inl trivial) (λj a b h=>(XM (a.d xs) (b.d xs)).imp (λq=>⟨q,Vz (Eq.trans h (Nat.sub_eq_zero_of_le q)),trivial⟩) λq=>⟨q,Vz ((Ve (· +b.d xs) h).trans (Nat.sub_add_cancel q)),trivial⟩)
  (λj a b h=>(XM (a.d xs) (b.d xs)).imp (λq=>⟨Vz (Eq.trans h (Wl q)).symm,trivial⟩) λq=>⟨Vz (Eq.trans h (W7 q)).symm,trivial⟩)
  (λj a b h=>(XM (b.d xs) (a.d xs)).imp (λq=>⟨Vz (Eq.trans h (W5 q)),trivial⟩) λq=>⟨Vz (Eq.trans h (WU q)),trivial⟩) λ_=>.inl trivial
def LP.zb{xs:List Nat}{p:LP}:¬p.d xs->p.neg.d xs:=
 p.casesOn (motive:=λp=>¬p.d xs->p.neg.d xs) (λ_ _ h=>h) (λ_ _ h=>h) (λ_ _ h=>h) (λ_ _ h=>Wc h) (λ_ _ h=>Wc h) (λ_ _ h=>Wc h)
  (λ_ _ _ _=>Va _) (λ_ _ _ _=>Va _) (λ_ _ _ _=>Va _) λ_=>Va _
def GL(J:xd xs hs)(c:LC):∀I:LI,iW xs I->GH hs I c=true->False:=
 LC.rec (motive:=λc=>∀I:LI,iW xs I->GH hs I c=true->False) (λU I C h=>VV.mpr (CH U I C) (GK h xs))
  (λi _ _ u v I C h=>(LP.OR (J.get i)).elim (λr=>u _ (r.app C) (VO.mp h).1) λr=>v _ (r.app C) (VO.mp h).2) c
noncomputable def GN:List LP->LI
 |[]=>[]
 |p::o=>p.b++GN o
def CI:xd xs hs->iW xs (GN hs):=by
 induction hs with
 |nil=>exactλ_=>trivial
 |cons _ _ o=>exactλh=>(LP.OQ h.1).app (o h.2)
def GP:(xd xs hs->g)->imp xs hs g:=by
 induction hs with
 |nil=>exactλh=>h trivial
 |cons _ _ o=>exactλh C=>o λI=>h ⟨C,I⟩
def cz(n:Nat):¬(n:Int)<0:=Int.not_lt.mpr (Wj n)
def Lo{a b:Nat}(h:a<b):(a:Int)<(b:Int):=Int.ofNat_lt.mpr h
def Ob{a b:Nat}(h:a<=b):(a:Int)<=(b:Int):=Int.ofNat_le.mpr h
def Fx(b k:Int)(i:Nat):b+k+(i:Int)*k=b+((i+1:Nat):Int)*k:=by rw[Int.natCast_add,Int.add_mul,Int.add_comm ((i:Int)*k),<-Int.add_assoc];exact Ve (b+· +(i:Int)*k) (Int.one_mul k).symm
def Sw(h:n<3):n=0\/n=1\/n=2:=(WY.mp h).elim (λh=>(WY.mp h).elim (λh=>.inl (Nat.lt_one_iff.mp h)) λh=>.inr (.inl h)) λh=>.inr (.inr h)
def ix{n:Nat}(h:n<1000000):(n:Int)<2^63:=Int.lt_of_lt_of_le (Lo h) (by decide)
def kl(h:a<=m)(d:Nat.ble m n=true:=by rfl):a<=n:=U3 h (U1 d)
def kt(h:a<m)(d:Nat.ble m (n+1)=true:=by rfl):a<=n:=Wh (Vg h (U1 d))
def kq(h:a<=m)(d:Nat.ble (m+1) n=true:=by rfl):a<n:=kl (VJ h) d
def kp(h:a<=m)(d:Nat.ble (m+c) n=true:=by rfl):a+c<=n:=kl (Wx h c) d
def OS(h:a<m)(d:Nat.ble (m+c) (n+1)=true:=by rfl):a+c<=n:=Wh (Vg (Nat.add_lt_add_right h c) (U1 d))
def kn(h:a+c<=m)(d:Nat.ble (m+b) (n+c)=true:=by rfl):a+b<=n:=
 Nat.le_of_add_le_add_right (b:=c) (U3 (W' a b c▸Wx h b) (U1 d))
def km(h:a+c<=m)(d:Nat.ble m (n+c)=true:=by rfl):a<=n:=kn (b:=0) h d
def k2(h:b<=m)(e:a<b)(d:Nat.ble m n=true:=by rfl):a<n:=kl (Vg e h) d
def ke(h:b<=m)(e:a=b)(d:Nat.ble m n=true:=by rfl):a<=n:=kl (U3 (Vz e) h) d
def tt:true=true:=rfl
def Rk(k:Nat)(h:a<=b):∃o,k+b=o+a:=⟨k+(b-a),(Ve (k+·) (Nat.sub_add_cancel h).symm).trans (WZ ..).symm⟩
def ax(hs:List LP)(g:LP)(c:LC)(h:GH (g.neg::hs) (GN (g.neg::hs)) c=true)(xs:List Nat):imp xs hs (g.d xs):=
 GP λo=>Wc λC=>GL (hs:=g.neg::hs) ⟨LP.zb C,o⟩ c _ (CI (hs:=g.neg::hs) ⟨LP.zb C,o⟩) h
open PySem PySem.W PyProof.Rows
set_option maxRecDepth 100000
noncomputable abbrev P0:Program:=PySem.Challenge.pw_sa0046_01
noncomputable def dH(i:Nat):Stmt:=P0.main.body[i]?.getD (.Pass default)
noncomputable def met(i j:Nat):Stmt:=match dH i with
 |.ClassDef _ _ _ b _ _ _ _ _ _ _=>b[j]?.getD (.Pass default)
 |s=>s
noncomputable def kS(s:String)(t:Nat):Value:=.str (Str.ofString s) t
noncomputable def zc:Stmt->Str|.FunctionDef n _ _ _ _ _ _ _ _ _=>n|_=>Str.ofString ""
noncomputable def zd:Stmt->Arguments|.FunctionDef _ p _ _ _ _ _ _ _ _=>p|_=>⟨[],[],none,[],[],none,[]⟩
noncomputable def aT:Stmt->List Stmt|.FunctionDef _ _ b _ _ _ _ _ _ _=>b|_=>[]
noncomputable def aG:Stmt->Scope|.FunctionDef _ _ _ _ _ _ s _ _ _=>s|_=>⟨.function,[],false,false,[]⟩
noncomputable def yW(st:Stmt)(B:String)(cl:List (String×Addr))(H cd L:Value):FuncData:=
 {name:=zc st,qualname:=Str.ofString B,params:=zd st,body:=.stmts (aT st),scope:=aG st,globals:=mainGlobals,closure:=cl.map λx=>(Str.ofString x.1,x.2),defaults:=.none,kwdefaults:=.none,doc:=.none,pyModule:=H,annotations:=none,code:=cd,closureTuple:=L,builtins:=builtinsNs}
noncomputable def kF(st:Stmt)(o:String)(C:List (String×Addr))(I cd J:Value):Obj:=⟨.type "function",none,.func (yW st o C I cd J),#[]⟩
noncomputable def kD(st:Bool)(n:Nat)(es:List DictEntry):Obj:=⟨if st then .none else .type "dict",none,.dict es.toArray n,#[]⟩
noncomputable def kC(name:String)(bases mro:List Value)(ns:Addr)(U:List Value)(c:List (Option Value)):Obj:=
 ⟨.type "type",none,.cls {name:=Str.ofString name,bases,mro,ns,qualname:=Str.ofString name,subclasses:=U},c.toArray⟩
noncomputable def kO(vs:List Value):Obj:=⟨.type "code",none,.fields vs.toArray,#[]⟩
noncomputable def kL(v:Option Value):Obj:=⟨.type "cell",none,.cell v,#[]⟩
noncomputable def kP(p:Addr×Obj)(r:Frag):Frag:=p::r
noncomputable def kQ(v:Bool)(a:Nat)(st:Stmt)(q:String)(C:List (String×Addr))(m I:Value)(t u o J:Nat)(r:Frag):Frag:=
 (a,kO ([.str (zc st) t,kS q (t+1),kS "/claim/cut.py" (t+2),.int o 0,.int J 0,.int 0 0,.int 0 0,.int 3 0,.ref (a-bif v then 5 else 3),.bool true,.int 181 0,.ref (a-bif v then 4 else 2),.none]++(bif v then[.ref (a-3),.ref (a-2)] else[.none,.none])++[.ref (a-1),.int u 0,.int o 0,kS "/claim/cut.py" (u+1)]))::
 (a+1,kF st q C m (.ref a) I)::r
section
variable(P:Params)
noncomputable def kE(s:String)(t:Nat)(v:Value):DictEntry:=⟨PyData.keyHash P (Str.ofString s),.str (Str.ofString s) t,v⟩
noncomputable def KR:Frag:=
 let e:=kE P
 kP (1,kD false 2 [e "builtins" 162 (.ref 4),e "__main__" 163 (.ref 5)])<|
 kP (2,kD true 2 [e "type.__subclasses__.Exception.0" 230 (.int 47 0),e "type.__subclasses__.Exception.n" 231 (.int 1 0)])<|
 kP (3,kD false 37 [e "__name__" 165 (kS "law_sa0046_01" 944),e "__doc__" 166 .none,e "__package__" 167 .none,e "__loader__" 168 (.builtin "__main__.__loader__#opaque"),e "__spec__" 169 .none,e "__annotations__" 170 (.ref 6),e "__builtins__" 171 (.ref 4),e "__file__" 173 (kS "/claim/cut.py" 172),e "__cached__" 174 .none,e "_wall" 193 (.ref 21),e "HeapError" 233 (.ref 47),e "TermFault" 249 (.ref 60),e "PaperFault" 284 (.ref 88),e "LimitFault" 300 (.ref 100),e "MOST_NODES" 304 (.int 100000 303),e "MOST_PARTS" 306 (.int 20000 305),e "MOST_LEVELS" 308 (.int 100 307),e "mark_of" 315 (.ref 109),e "told_term" 323 (.ref 116),e "paper_of_edge" 329 (.ref 121),e "joined_row" 335 (.ref 126),e "Whys" 426 (.ref 176),e "is_op" 434 (.ref 185),e "parts" 440 (.ref 190),e "Bank" 571 (.ref 292),e "Unions" 676 (.ref 374),e "Heap" 845 (.ref 506),e "Levels" 943 (.ref 578),e "_law_drop" 954 (.ref 587),e "_law_term" 960 (.ref 592),e "_law_homes" 966 (.ref 597),e "_law_ends" 972 (.ref 602),e "_law_more" 978 (.ref 607),e "_law_deed" 996 (.ref 614),e "_law_is_right" 1009 (.ref 621),e "_law_are_right" 1025 (.ref 628),e "law" 1031 (.ref 633)])<|
 kQ true 20 (dH 0) "_wall" [] (kS "__main__" 164) .none 187 191 1 1<|
 kP (25,kL (some (.ref 47)))<|
 kQ true 36 (met 2 0) "HeapError.__init__" [("__class__",25)] (kS "alikeheap.errors" 194) (.ref 30) 208 214 7 2<|
 kQ true 43 (met 2 1) "HeapError.told" [] (kS "alikeheap.errors" 194) .none 217 221 11 1<|
 kP (46,kD false 4 [e "__module__" 203 (kS "alikeheap.errors" 194),e "__firstlineno__" 207 (.int 5 206),e "__init__" 216 (.ref 37),e "told" 223 (.ref 44),e "__static_attributes__" 225 (.ref 45),e "__weakref__" 228 (.ref 48),e "__doc__" 229 .none])<|
 kP (47,kC "HeapError" [(.type "Exception")] [(.ref 47),(.type "Exception"),(.type "BaseException"),(.type "object")] 46 [(.ref 60),(.ref 88),(.ref 100)] [some (.ref 22),none,some (kS "HeapError" 196),some (kS "HeapError" 204),some (.builtin "Exception.__new__"),some (.bool true)])<|
 kP (59,kD false 2 [e "__module__" 241 (kS "alikeheap.errors" 194),e "__firstlineno__" 245 (.int 13 244),e "__static_attributes__" 246 (.ref 58),e "__doc__" 247 .none])<|
 kP (60,kC "TermFault" [(.ref 47)] [(.ref 60),(.ref 47),(.type "Exception"),(.type "BaseException"),(.type "object")] 59 [] [some (.ref 51),none,some (kS "TermFault" 234),some (kS "TermFault" 242),some (.builtin "Exception.__new__"),some (.bool true)])<|
 kP (66,kL (some (.ref 88)))<|
 kQ true 77 (met 4 0) "PaperFault.__init__" [("__class__",66)] (kS "alikeheap.errors" 194) (.ref 71) 262 269 17 3<|
 kQ true 84 (met 4 1) "PaperFault.told" [] (kS "alikeheap.errors" 194) .none 272 276 21 1<|
 kP (87,kD false 3 [e "__module__" 257 (kS "alikeheap.errors" 194),e "__firstlineno__" 261 (.int 15 260),e "__init__" 271 (.ref 78),e "told" 278 (.ref 85),e "__static_attributes__" 280 (.ref 86),e "__doc__" 282 .none])<|
 kP (88,kC "PaperFault" [(.ref 47)] [(.ref 88),(.ref 47),(.type "Exception"),(.type "BaseException"),(.type "object")] 87 [] [some (.ref 63),none,some (kS "PaperFault" 250),some (kS "PaperFault" 258),some (.builtin "Exception.__new__"),some (.bool true)])<|
 kP (99,kD false 2 [e "__module__" 292 (kS "alikeheap.errors" 194),e "__firstlineno__" 296 (.int 23 295),e "__static_attributes__" 297 (.ref 98),e "__doc__" 298 .none])<|
 kP (100,kC "LimitFault" [(.ref 47)] [(.ref 100),(.ref 47),(.type "Exception"),(.type "BaseException"),(.type "object")] 99 [] [some (.ref 91),none,some (kS "LimitFault" 285),some (kS "LimitFault" 293),some (.builtin "Exception.__new__"),some (.bool true)])<|
 kQ true 108 (dH 10) "mark_of" [] (kS "alikeheap.whys" 301) .none 309 313 29 1<|
 kQ true 115 (dH 11) "told_term" [] (kS "alikeheap.whys" 301) .none 316 321 31 2<|
 kQ false 120 (dH 12) "paper_of_edge" [] (kS "alikeheap.whys" 301) .none 324 327 35 2<|
 kQ false 125 (dH 13) "joined_row" [] (kS "alikeheap.whys" 301) .none 330 333 40 3<|
 kQ true 139 (met 14 0) "Whys.__init__" [] (kS "alikeheap.whys" 301) .none 348 353 48 2<|
 kQ true 146 (met 14 1) "Whys.renewed" [] (kS "alikeheap.whys" 301) .none 356 365 55 1<|
 kQ true 153 (met 14 2) "Whys.path" [] (kS "alikeheap.whys" 301) .none 368 382 64 4<|
 kQ true 160 (met 14 3) "Whys.paper" [] (kS "alikeheap.whys" 301) .none 385 391 82 3<|
 kQ true 167 (met 14 4) "Whys.between" [] (kS "alikeheap.whys" 301) .none 394 405 86 4<|
 kQ false 172 (met 14 5) "Whys.of_edge" [] (kS "alikeheap.whys" 301) .none 408 411 93 2<|
 kP (175,kD false 4 [e "__module__" 343 (kS "alikeheap.whys" 301),e "__firstlineno__" 347 (.int 46 346),e "__init__" 355 (.ref 140),e "renewed" 367 (.ref 147),e "path" 384 (.ref 154),e "paper" 393 (.ref 161),e "between" 407 (.ref 168),e "of_edge" 413 (.ref 173),e "__static_attributes__" 419 (.ref 174),e "__dict__" 421 (.ref 177),e "__weakref__" 423 (.ref 178),e "__doc__" 424 .none])<|
 kP (176,kC "Whys" [(.type "object")] [(.ref 176),(.type "object")] 175 [] [none,none,some (kS "Whys" 336),some (kS "Whys" 344),some (.builtin "object.__new__"),some (.bool true)])<|
 kQ false 184 (dH 16) "is_op" [] (kS "alikeheap.terms" 427) .none 429 432 108 1<|
 kQ false 189 (dH 17) "parts" [] (kS "alikeheap.terms" 427) .none 435 438 110 1<|
 kQ true 203 (met 18 0) "Bank.__init__" [] (kS "alikeheap.terms" 427) .none 453 457 117 1<|
 kQ true 210 (met 18 1) "Bank.size" [] (kS "alikeheap.terms" 427) .none 460 464 123 1<|
 kQ false 215 (met 18 2) "Bank.take" [] (kS "alikeheap.terms" 427) .none 467 470 126 3<|
 kQ true 222 (met 18 3) "Bank.require" [] (kS "alikeheap.terms" 427) .none 473 478 140 2<|
 kQ true 229 (met 18 4) "Bank.put" [] (kS "alikeheap.terms" 427) .none 481 488 144 2<|
 kQ false 234 (met 18 5) "Bank.put_all" [] (kS "alikeheap.terms" 427) .none 491 494 149 2<|
 kQ true 241 (met 18 6) "Bank.cut" [] (kS "alikeheap.terms" 427) .none 497 502 152 2<|
 kQ true 248 (met 18 7) "Bank.op" [] (kS "alikeheap.terms" 427) .none 505 510 158 2<|
 kQ true 255 (met 18 8) "Bank.kids" [] (kS "alikeheap.terms" 427) .none 513 518 161 2<|
 kQ true 262 (met 18 9) "Bank.node" [] (kS "alikeheap.terms" 427) .none 521 526 164 2<|
 kQ false 267 (met 18 10) "Bank.term" [] (kS "alikeheap.terms" 427) .none 529 532 167 2<|
 kQ true 274 (met 18 11) "Bank.weight" [] (kS "alikeheap.terms" 427) .none 535 540 179 2<|
 kQ true 281 (met 18 12) "Bank.depth" [] (kS "alikeheap.terms" 427) .none 543 548 182 2<|
 kQ true 288 (met 18 13) "Bank.seek" [] (kS "alikeheap.terms" 427) .none 551 557 185 3<|
 kP (291,kD false 4 [e "__module__" 448 (kS "alikeheap.terms" 427),e "__firstlineno__" 452 (.int 115 451),e "__init__" 459 (.ref 204),e "size" 466 (.ref 211),e "take" 472 (.ref 216),e "require" 480 (.ref 223),e "put" 490 (.ref 230),e "put_all" 496 (.ref 235),e "cut" 504 (.ref 242),e "op" 512 (.ref 249),e "kids" 520 (.ref 256),e "node" 528 (.ref 263),e "term" 534 (.ref 268),e "weight" 542 (.ref 275),e "depth" 550 (.ref 282),e "seek" 559 (.ref 289),e "__static_attributes__" 564 (.ref 290),e "__dict__" 566 (.ref 293),e "__weakref__" 568 (.ref 294),e "__doc__" 569 .none])<|
 kP (292,kC "Bank" [(.type "object")] [(.ref 292),(.type "object")] 291 [] [none,none,some (kS "Bank" 441),some (kS "Bank" 449),some (.builtin "object.__new__"),some (.bool true)])<|
 kQ true 309 (met 20 0) "Unions.__init__" [] (kS "alikeheap.unions" 572) .none 586 590 190 1<|
 kQ true 316 (met 20 1) "Unions.make" [] (kS "alikeheap.unions" 572) .none 593 597 195 1<|
 kQ true 323 (met 20 2) "Unions.size" [] (kS "alikeheap.unions" 572) .none 600 604 200 1<|
 kQ true 330 (met 20 3) "Unions.find" [] (kS "alikeheap.unions" 572) .none 607 612 203 2<|
 kQ true 337 (met 20 4) "Unions.merge" [] (kS "alikeheap.unions" 572) .none 615 623 208 3<|
 kQ true 344 (met 20 5) "Unions.members" [] (kS "alikeheap.unions" 572) .none 626 631 217 2<|
 kQ false 349 (met 20 6) "Unions.classes" [] (kS "alikeheap.unions" 572) .none 634 637 220 1<|
 kQ true 356 (met 20 7) "Unions.log" [] (kS "alikeheap.unions" 572) .none 640 644 223 1<|
 kQ true 363 (met 20 8) "Unions.back" [] (kS "alikeheap.unions" 572) .none 647 654 226 2<|
 kQ true 370 (met 20 9) "Unions.cut" [] (kS "alikeheap.unions" 572) .none 657 663 232 2<|
 kP (373,kD false 4 [e "__module__" 581 (kS "alikeheap.unions" 572),e "__firstlineno__" 585 (.int 188 584),e "__init__" 592 (.ref 310),e "make" 599 (.ref 317),e "size" 606 (.ref 324),e "find" 614 (.ref 331),e "merge" 625 (.ref 338),e "members" 633 (.ref 345),e "classes" 639 (.ref 350),e "log" 646 (.ref 357),e "back" 656 (.ref 364),e "cut" 665 (.ref 371),e "__static_attributes__" 669 (.ref 372),e "__dict__" 671 (.ref 375),e "__weakref__" 673 (.ref 376),e "__doc__" 674 .none])<|
 kP (374,kC "Unions" [(.type "object")] [(.ref 374),(.type "object")] 373 [] [none,none,some (kS "Unions" 574),some (kS "Unions" 582),some (.builtin "object.__new__"),some (.bool true)])<|
 kQ true 391 (met 22 0) "Heap.__init__" [] (kS "alikeheap.heap" 677) .none 691 695 242 1<|
 kQ true 398 (met 22 1) "Heap.size" [] (kS "alikeheap.heap" 677) .none 698 702 252 1<|
 kQ false 403 (met 22 2) "Heap.node" [] (kS "alikeheap.heap" 677) .none 705 708 255 2<|
 kQ false 408 (met 22 3) "Heap.add" [] (kS "alikeheap.heap" 677) .none 711 714 258 3<|
 kQ false 413 (met 22 4) "Heap.put" [] (kS "alikeheap.heap" 677) .none 717 720 269 2<|
 kQ true 420 (met 22 5) "Heap.look_at" [] (kS "alikeheap.heap" 677) .none 723 729 272 2<|
 kQ true 427 (met 22 6) "Heap.find" [] (kS "alikeheap.heap" 677) .none 732 737 277 2<|
 kQ true 434 (met 22 7) "Heap.are_like" [] (kS "alikeheap.heap" 677) .none 740 746 280 3<|
 kQ true 441 (met 22 8) "Heap.merge" [] (kS "alikeheap.heap" 677) .none 749 756 283 4<|
 kQ true 448 (met 22 9) "Heap.join" [] (kS "alikeheap.heap" 677) .none 759 769 286 4<|
 kQ true 455 (met 22 10) "Heap.settle" [] (kS "alikeheap.heap" 677) .none 772 776 297 1<|
 kQ true 462 (met 22 11) "Heap.is_settled" [] (kS "alikeheap.heap" 677) .none 779 783 301 1<|
 kQ true 469 (met 22 12) "Heap.classes" [] (kS "alikeheap.heap" 677) .none 786 790 304 1<|
 kQ true 476 (met 22 13) "Heap.members" [] (kS "alikeheap.heap" 677) .none 793 798 307 2<|
 kQ true 483 (met 22 14) "Heap.nodes_of" [] (kS "alikeheap.heap" 677) .none 801 806 310 2<|
 kQ true 490 (met 22 15) "Heap.many_nodes" [] (kS "alikeheap.heap" 677) .none 809 813 313 1<|
 kQ false 495 (met 22 16) "Heap.seek" [] (kS "alikeheap.heap" 677) .none 816 819 316 3<|
 kQ true 502 (met 22 17) "Heap.users" [] (kS "alikeheap.heap" 677) .none 822 827 320 2<|
 kP (505,kD false 4 [e "__module__" 686 (kS "alikeheap.heap" 677),e "__firstlineno__" 690 (.int 240 689),e "__init__" 697 (.ref 392),e "size" 704 (.ref 399),e "node" 710 (.ref 404),e "add" 716 (.ref 409),e "put" 722 (.ref 414),e "look_at" 731 (.ref 421),e "find" 739 (.ref 428),e "are_like" 748 (.ref 435),e "merge" 758 (.ref 442),e "join" 771 (.ref 449),e "settle" 778 (.ref 456),e "is_settled" 785 (.ref 463),e "classes" 792 (.ref 470),e "members" 800 (.ref 477),e "nodes_of" 808 (.ref 484),e "many_nodes" 815 (.ref 491),e "seek" 821 (.ref 496),e "users" 829 (.ref 503),e "__static_attributes__" 838 (.ref 504),e "__dict__" 840 (.ref 507),e "__weakref__" 842 (.ref 508),e "__doc__" 843 .none])<|
 kP (506,kC "Heap" [(.type "object")] [(.ref 506),(.type "object")] 505 [(.ref 578)] [none,none,some (kS "Heap" 679),some (kS "Heap" 687),some (.builtin "object.__new__"),some (.bool true)])<|
 kP (514,kL (some (.ref 578)))<|
 kQ true 525 (met 24 0) "Levels.__init__" [("__class__",514)] (kS "alikeheap.levels" 846) (.ref 519) 860 865 325 1<|
 kQ true 532 (met 24 1) "Levels.depth" [] (kS "alikeheap.levels" 846) .none 868 872 331 1<|
 kQ true 539 (met 24 2) "Levels.push" [] (kS "alikeheap.levels" 846) .none 875 879 334 1<|
 kQ true 546 (met 24 3) "Levels.pop" [] (kS "alikeheap.levels" 846) .none 882 889 337 1<|
 kQ true 554 (met 24 4) "Levels.look_at" [("__class__",514)] (kS "alikeheap.levels" 846) (.ref 548) 892 899 352 2<|
 kQ true 562 (met 24 5) "Levels.join" [("__class__",514)] (kS "alikeheap.levels" 846) (.ref 556) 902 912 361 4<|
 kQ false 567 (met 24 6) "Levels.unmake" [] (kS "alikeheap.levels" 846) .none 915 918 366 2<|
 kQ true 574 (met 24 7) "Levels.unjoin" [] (kS "alikeheap.levels" 846) .none 921 931 374 2<|
 kP (577,kD false 3 [e "__module__" 855 (kS "alikeheap.levels" 846),e "__firstlineno__" 859 (.int 323 858),e "__init__" 867 (.ref 526),e "depth" 874 (.ref 533),e "push" 881 (.ref 540),e "pop" 891 (.ref 547),e "look_at" 901 (.ref 555),e "join" 914 (.ref 563),e "unmake" 920 (.ref 568),e "unjoin" 933 (.ref 575),e "__static_attributes__" 939 (.ref 576),e "__doc__" 941 .none])<|
 kP (578,kC "Levels" [(.ref 506)] [(.ref 578),(.ref 506),(.type "object")] 577 [] [some (.ref 511),none,some (kS "Levels" 848),some (kS "Levels" 856),some (.builtin "object.__new__"),some (.bool true)])<|
 kQ true 586 (dH 26) "_law_drop" [] (kS "law_sa0046_01" 944) .none 946 952 383 2<|
 kQ false 591 (dH 27) "_law_term" [] (kS "law_sa0046_01" 944) .none 955 958 387 2<|
 kQ false 596 (dH 28) "_law_homes" [] (kS "law_sa0046_01" 944) .none 961 964 389 2<|
 kQ false 601 (dH 29) "_law_ends" [] (kS "law_sa0046_01" 944) .none 967 970 401 3<|
 kQ false 606 (dH 30) "_law_more" [] (kS "law_sa0046_01" 944) .none 973 976 419 4<|
 kQ true 613 (dH 31) "_law_deed" [] (kS "law_sa0046_01" 944) .none 979 994 424 4<|
 kQ true 620 (dH 32) "_law_is_right" [] (kS "law_sa0046_01" 944) .none 997 1007 445 5<|
 kQ true 627 (dH 33) "_law_are_right" [] (kS "law_sa0046_01" 944) .none 1010 1023 453 3<|
 kQ false 632 (dH 34) "law" [] (kS "law_sa0046_01" 944) .none 1026 1029 463 1<|[]
end
noncomputable def Lp:List Addr:=[1,2,3,20,21,25,36,37,43,44,46,47,59,60,66,77,78,84,85,87,88,99,100,108,109,115,116,120,121,125,126,139,140,146,147,153,154,160,161,167,168,172,173,175,176,184,185,189,190,203,204,210,211,215,216,222,223,229,230,234,235,241,242,248,249,255,256,262,263,267,268,274,275,281,282,288,289,291,292,309,310,316,317,323,324,330,331,337,338,344,345,349,350,356,357,363,364,370,371,373,374,391,392,398,399,403,404,408,409,413,414,420,421,427,428,434,435,441,442,448,449,455,456,462,463,469,470,476,477,483,484,490,491,495,496,502,503,505,506,514,525,526,532,533,539,540,546,547,554,555,562,563,567,568,574,575,577,578,586,587,591,592,596,597,601,602,606,607,613,614,620,621,627,628,632,633]
def GQ(P:Params):Lp=(KR P).map (·.1):=by kernel_rfl
noncomputable def treeOf:Nat->BT->List Obj->BT
 |_,t,[]=>t
 |n,t,o::r=>treeOf (n+1) (t.ins n o) r
noncomputable def Oc(s:Shared):SharedT:=⟨treeOf 0 .nil s.heap.objs.toList,s.heap.objs.size,s.heap.life,s.gens,s.drawn,s.toks,s.os⟩
noncomputable def z0:Pos:={line:=0,col:=0,endLine:=0,endCol:=0}
noncomputable def ze:Env:={scope:=P0.main.scope,locals:=mainNs,globals:=mainNs,cells:=[],code:=.ref 13,frame:=some 14}
noncomputable def rH:List Stmt:=behindTheImports P0
noncomputable def gK:Code:=.body rH ze
noncomputable def mf:Option Value:=some (.ref 6)
noncomputable def s0(w:World)(os:OsState):Shared:=⟨boot_heap w.params,Array.mk [],boot_drawn,boot_toks,os⟩
noncomputable def xe(w:World)(os:OsState):Option (Shared×Thread):=topGo treeTable P0 w 11 mf 12 (s0 w os) (topStub P0)
noncomputable def Lq(w:World)(os:OsState):Option (Flow×SharedT×Code×Pos):=(xe w os).bind λx=>
 PySem.W.Fast.tw10110043849684766642 PySem.W.Fast.tw14364793385576792824 P0 w 11 mf 1 4600 (Oc x.1) (piecesOf rH ze gK z0 [topFrame z0])
noncomputable def Lr:List Nat:=[0,2,3,4,5,7,8,9,10,11,12,13,14,16,17,18,20,22,24,26,27,28,29,30,31,32,33,34]
noncomputable def q0:Program:=view P0 Lr
noncomputable abbrev r0:OpenLaw:=PySem.Challenge.rw_sa0046_01
noncomputable def Ls:Shared->Bool:=λs=>xlAt q0 [] s&&recOk (RowW.records (OpenRow.toRowW r0.row)) s
noncomputable def Hk:Hook:=kHook KR Lp GQ
def tZ(w:World)(os:OsState):(xe w os).map (λx=>x.2)=some ⟨denote treeTable gK,gK,z0,[topFrame z0]⟩:=by kernel_rfl
def CJ(w:World)(os:OsState):(xe w os).map (λx=>(Oc x.1).abs)=(xe w os).map λx=>x.1:=by kernel_rfl
def xf(w:World)(os:OsState):((xe w os).bind λx=>segRun treeTable P0 w 11 mf 1 1 x.1 (blockOf rH ze gK z0 [topFrame z0]))=(xe w os).map λx=>(.next,x.1,gK,z0):=by kernel_rfl
def got(t:BT)(n:Nat)(a:Addr):=bif Nat.blt a n then(t.get a).bind alive else none
def got1(e:got t n a=some o):(absHeap t n l).get? a=some o:=by
 unfold got at e
 cases b:Nat.blt a n with
 |false=>rw[b] at e;cases e
 |true=>
  rw[b] at e
  cases g:t.get a with
  |none=>rw[g] at e;cases e
  |some x=>rw[g] at e;exact(abs_get (Nat.blt_eq.mp b) g).trans e
def got2{L:Frag}{K:List Addr}(h:K.map (got t n)=L.map λp=>some p.2):K.map (absHeap t n l).get?=L.map λp=>some p.2:=(Vy λa m=>have⟨_,_,e⟩:=Vn.mp (h▸List.mem_map_of_mem (f:=got t n) m);(got1 e.symm).trans e).trans h
def CL(w:World)(os:OsState):(Lq w os).map (λr=>((r.1,r.2.2.1),(staticsOk (importedModules P0.main.body) (boot_heap w.params) r.2.1.abs.heap&&namesBound P0 r.2.1.abs.heap&&gensDone r.2.1.abs&&laidKept (boot_heap w.params) r.2.1.abs.heap),
 openSeen q0 [] (importedModules P0.main.body) Ls true r.2.1.abs,Lp.map (got r.2.1.tree r.2.1.n)))=some ((.next,gK),true,openGood q0 [],(KR w.params).map λp=>some p.2):=by kernel_rfl
open Lean in
local macro_rules (kind:=Lean.Parser.Tactic.rewriteSeq)
 |s=>do
  if s[1][0].getNumArgs+s[3].getNumArgs>0 then Macro.throwUnsupported
  let t<-s[2][1].getSepArgs.mapM λ(r:Syntax)=>do
   let l:=r[0].isNone
   `(tactic|first|refine$(mkIdent (if l then `So else `Sp)) ($(⟨r[1]⟩) ..) ?_|refine$(mkIdent (if l then `Sq else `Sr)) ($(⟨r[1]⟩) ..) ?_|rewrite(config:={}) [$(⟨r⟩):rwRule])
  `(tactic|($[$t]*))
set_option hygiene false in
open Lean in
local macro_rules (kind:=Lean.Parser.Tactic.rwSeq)
 |s=>do
  if s[2][1].getArgs.size%2==1 then Macro.throwUnsupported
  let t<-s[2][1].getSepArgs.mapM λ(r:Syntax)=>do
   let q:Syntax:=r[1];let g:Array Term:=q[1].getArgs.map (⟨·⟩);let e:Term:=⟨q⟩;let x:Term:=g.getD 0 e;let z:=g.map λ(a:Term)=>(⟨a⟩:Ident)
   if !r[0].isNone then`(tactic|have$(⟨q[0]⟩):ident:=$(Syntax.mkApp x (g.extract 1 g.size)))
   else if q.isOfKind `«term[_]» then
    let l:=q[1].getSepArgs.map λ(a:Syntax)=>(⟨a⟩:Term)
    `(tactic|rw[$[$l:term],*])
   else if q.isOfKind strLitKind then`(tactic|walk_at $(⟨q⟩))
   else match q[0].isNatLit? with
    |some 0=>`(tactic|clear$z*)
    |some 1=>`(tactic|(injection$x with y;obtain rfl:=y))
    |some 2=>`(tactic|unfold$z*)
    |some 3=>`(tactic|obtain rfl:=$x)
    |some 4=>`(tactic|rename_i$(g.map λ(a:Term)=>(⟨mkNode `Lean.binderIdent #[a]⟩:TSyntax ``binderIdent))*)
    |some 5=>`(tactic|show$x)
    |some 6=>`(tactic|revert$z*)
    |some 7=>`(tactic|injection$x)
    |some 8=>`(tactic|subst$x)
    |some _=>`(tactic|cases$x:term)
    |_=>`(tactic|refine$e)
  `(tactic|($[$t]*))
def OT(w:World)(s:Shared)(pos:Pos):topRun treeTable P0 w 11 mf 2 s ⟨doneF .next,gK,pos,[topFrame z0]⟩=some s:=rfl
def zf:PySem.W.Fast.tw10110043849684766642 PySem.W.Fast.tw14364793385576792824 P0 w 11 mf 1 n s t=segRunT treeTable P0 w 11 mf 1 n s t:=by rw[<-PySem.W.Fast.te10110043849684766642,<-PySem.W.Fast.te14364793385576792824]
def CM(w:World)(os:OsState):∃S:Shared,topRun treeTable P0 w 11 mf 4615 (s0 w os) (topStub P0)=some S/\
 (staticsOk (importedModules P0.main.body) (boot_heap w.params) S.heap&&namesBound P0 S.heap&&gensDone S&&laidKept (boot_heap w.params) S.heap)=true/\
 openSeen q0 [] (importedModules P0.main.body) Ls true S=openGood q0 []/\Lp.map S.heap.get?=(KR w.params).map λp=>some p.2:=by
 refine aB λb o=>ah (WA.mp (tZ w os)) λd a g=>?_;rcases d with⟨C,x⟩;refine o ?_;clear o b;have h:(Oc C).abs=C:=by have:=CJ w os;rw[a] at this;exact VW this
 have i:segRun treeTable P0 w 11 mf 1 1 C (blockOf rH ze gK z0 [topFrame z0])=some (.next,C,gK,z0):=by have:=xf w os;rw[a] at this;exact this
 refine ah (WA.mp (CL w os)) λr j k=>aB λb o=>?_;obtain⟨f,S,c,I⟩:=r;refine o ?_;clear o b;simp only[Prod.mk.injEq] at k;refine jU k λJ s t u=>aV J λl m=>?_;clear k J;obtain rfl:=l;obtain rfl:=m;have U:segRunT treeTable P0 w 11 mf 1 4600 (Oc C) (piecesOf rH ze gK z0 [topFrame z0])=some (.next,S,gK,I):=by rw[<-zf];unfold Lq at j;rw[a] at j;exact j
 have n:=segRun_of U;rw[h] at n;have q:=piece_app (rest:=[]) n (piece_nil (OT w S.abs I));rw[VR] at q;rw[<-v piece_block i q,⟨S.abs,?_,s,t,got2 u⟩,<-e g,8 e,go_top (N:=1+(4600+2)) a v,]
def GR:opening P0=plainProg P0.main.scope.names:=rfl
def CN(s:Shared):fenceModules? P0 s=some s:=rfl
def GS(w:World):(boot_heap w.params).objs.size=11:=rfl
def OU(w:World):((boot_heap w.params).isNs mainGlobals&&(Array.mk ([]:List GenState)).size==0)=true:=by kernel_rfl
def Lu(w:World):(boot_heap w.params).nsMap mainGlobals "__annotations__"=mf:=by kernel_rfl
def zg(w:World)(os:OsState):∃S:Shared,topRun treeTable P0 w 11 mf 8826 (s0 w os) (topStub P0)=some S/\
 (staticsOk (importedModules P0.main.body) (boot_heap w.params) S.heap&&namesBound P0 S.heap&&gensDone S&&laidKept (boot_heap w.params) S.heap)=true/\
 openSeen q0 [] (importedModules P0.main.body) Ls true S=openGood q0 []/\Lp.map S.heap.get?=(KR w.params).map λp=>some p.2:=by
 rw[n4 (CM w os) λS o C I J=>⟨S,topRun_mono 4211 _ _ _ _ o,C,I,J⟩,]
def Lw(h1:(s.heap.isNs mainGlobals&&s.gens.size==0)=true)(C:s.heap.objs.size=m)(I:s.heap.nsMap mainGlobals "__annotations__"=o)
 (h:topRun treeTable p w m o N s (topStub p)=some S) (l:(staticsOk (importedModules p.main.body) s.heap S.heap&&namesBound p S.heap&&gensDone S&&laidKept s.heap S.heap)=true):topFrom treeTable p w N s=some S:=by
 rw[2 topFrom,[h1,C,I,h],5 ((match staticsOk (importedModules p.main.body) s.heap S.heap&&namesBound p S.heap&&gensDone S&&laidKept s.heap S.heap with|true=>_|false=>_)=_),[l],]
def Lx(h:fencedOpening treeTable p w N=some s)(t:topFrom treeTable p w N s=some S):openEnds treeTable p w N=some S:=by rw[2 openEnds,[h],t,]
def Ly(w:World):∃os,fencedOpening treeTable P0 w 8826=some (s0 w os):=by rw[ah (WA.mp (boot_open (p:=P0) (N:=8826) GR rfl CN w)) λU e a=>?_,];rcases U with⟨h,b,d,k,os⟩;simp only[Prod.mk.injEq] at a;rw[jU a λo C I J=>?_,0 a,3 o,3 C,3 I,3 J,⟨os,e⟩,]
def Lz:LeftO P0 q0 [] Ls (Hook.obs Hk) (Hook.val Hk) 8826:=λw=>by rw[aw (Ly w) λos e=>n4 (zg w os) λS o C I J=>?_,<-t Lx e (Lw (s:=s0 w os) (OU w) (GS w) (Lu w) o C),[t],Ve some (Prod.ext I J),]
noncomputable def d0:DefRec:=match dH 34 with
 |.FunctionDef I o J _ _ _ C _ _ U=>⟨I,o,J,C,U⟩
 |_=>⟨Str.ofString "",⟨[],[],none,[],[],none,[]⟩,[],⟨.function,[],false,false,[]⟩,z0⟩
def LA:defOf q0 r0.row.name=some (d0,[]):=by kernel_rfl
def LB:P0.theDef r0.row.name=some (d0.params,d0.body,d0.scope):=by kernel_rfl
def OV:kwWritten? d0.params.kwonlyargs d0.params.kw_defaults=some []:=by kernel_rfl
def OW:(chainsOk q0&&opensWell P0&&(frees r0.row.toRowW&&r0.row.toRowW.within.isEmpty))=true:=by decide+kernel
def GU:r0.wellSaid=true:=(congrFun PySem.W.Fast.te9446332074065402090 r0).trans (by kernel_rfl)
def GW:r0.row.toRowW.promised:=⟨[.list []],by decide+kernel,by decide+kernel⟩
def GX:P0.bare:=⟨rfl,rfl,rfl,rfl,rfl,by decide+kernel⟩
def OX(call:WalkO q0 [] (XL q0 []) (Hook.says Hk) r0.row.toRowW d0 [] λf vs=>PySem.call f vs):r0.Holds:=
 holds_law GU λo=>holds_open (q:=q0) (loose:=[]) (Xt:=Ls) (XP:=XL q0 []) (Yf:=Hook.obs Hk) (Ya:=Hook.val Hk) (YP:=Hook.says Hk) (N:=8826) Lz (Hook.of Hk) (Hook.keeps Hk)
  (λs e=>xl_of s (VO.mp e).1) XL.keeps LA LB OV (λs e=>recFacts_of (VO.mp e).2) rfl o OW GX GW call
noncomputable abbrev ai:=Addr->Option Obj
def c8(F G:ai):Prop:=∀a o,F a=some o->G a=some o
def c8.refl(F:ai):c8 F F:=λ_ _ e=>e
def c8.trans(x:c8 F G)(y:c8 G H):c8 F H:=λa o e=>y a o (x a o e)
noncomputable def bot:ai:=λ_=>none
def c8.bot(F:ai):c8 bot F:=λ_ _ e=>nomatch e
set_option genInjectivity true in
inductive V where
 |none|bool (b:Bool)|int (i:Int)|str (s:Str)|tup (l:List V)|lst (l:List V)|loc (a:Addr)|raw (v:Value)|any|mi (a b c:Int)|fL (lo hi st:V)
noncomputable abbrev V.ctorIdx(v:V):Nat:=v.casesOn 0 (λ_=>1) (λ_=>2) (λ_=>3) (λ_=>4) (λ_=>5) (λ_=>6) (λ_=>7) 8 (λ_ _ _=>9) λ_ _ _=>10
noncomputable abbrev cT(vs:Array Value)(n:Nat):Obj:={cls:=.type "tuple",data:=.seq vs n}
noncomputable abbrev bM(vs:Array Value)(n:Nat):Obj:={cls:=.type "list",data:=.seq vs n}
mutual
noncomputable def Is(F:ai):V->Value->Prop
 |.none,v=>v=.none
 |.bool b,v=>v=.bool b
 |.int i,v=>∃t,v=.int i t
 |.str s,v=>∃t,v=.str s t
 |.tup l,v=>∃a o vs n,v=.ref a/\F a=some o/\o=cT vs n/\o.data=.seq vs n/\IsL F l vs.toList
 |.lst l,v=>∃a o vs n,v=.ref a/\F a=some o/\o=bM vs n/\o.data=.seq vs n/\IsL F l vs.toList
 |.loc a,v=>v=.ref a
 |.raw w,v=>v=w
 |.any,_=>True
 |.mi a b c,v=>∃r t u x,v=.ref r/\F r=some {cls:=.type "range",dict:=none,data:=.fields #[.int a t,.int b u,.int c x],slots:=#[]}
 |.fL lo hi st,v=>∃r l u t,v=.ref r/\F r=some {cls:=.type "slice",dict:=none,data:=.fields #[l,u,t],slots:=#[]}/\Is F lo l/\Is F hi u/\Is F st t
noncomputable def IsL(F:ai):List V->List Value->Prop
 |[],vs=>vs=[]
 |x::l,vs=>∃v r,vs=v::r/\Is F x v/\IsL F l r
end
def Is.mono(h:c8 F G):∀{v:Value},Is F x v->Is G x v:=
 V.rec (motive_1:=λx=>∀{v:Value},Is F x v->Is G x v) (motive_2:=λx=>∀{v:List Value},IsL F x v->IsL G x v)
  (λe=>e) (λ_ _ e=>e) (λ_ _ e=>e) (λ_ _ e=>e)
  (λ_ i _ e=>e.imp λ_ e=>e.imp λ_ e=>e.imp λ_ e=>e.imp λ_ e=>⟨e.1,h _ _ e.2.1,e.2.2.1,e.2.2.2.1,i e.2.2.2.2⟩)
  (λ_ i _ e=>e.imp λ_ e=>e.imp λ_ e=>e.imp λ_ e=>e.imp λ_ e=>⟨e.1,h _ _ e.2.1,e.2.2.1,e.2.2.2.1,i e.2.2.2.2⟩)
  (λ_ _ e=>e) (λ_ _ e=>e) (λ_=>trivial)
  (λ_ _ _ _ e=>e.imp λ_ e=>e.imp λ_ e=>e.imp λ_ e=>e.imp λ_ e=>⟨e.1,h _ _ e.2⟩)
  (λ_ _ _ i j k _ e=>e.imp λ_ e=>e.imp λ_ e=>e.imp λ_ e=>e.imp λ_ e=>⟨e.1,h _ _ e.2.1,i e.2.2.1,j e.2.2.2.1,k e.2.2.2.2⟩)
  (λe=>e) (λ_ _ i j _ e=>e.imp λ_ e=>e.imp λ_ e=>⟨e.1,i e.2.1,j e.2.2⟩) x
@[elab_as_elim] def mj {F:ai} {K:Array Value->Nat->Obj} {l:List V} {C:Value->Prop} (v:Value) (i:∃a o vs n,v=.ref a/\F a=some o/\o=K vs n/\o.data=.seq vs n/\IsL F l vs.toList)
 (k:∀a vs n,F a=some (K vs n)->(K vs n).data=.seq vs n->IsL F l vs.toList->C (.ref a)):C v:=rE i λa o vs n q=>q.1▸k a vs n (q.2.2.1▸q.2.1) (q.2.2.1▸q.2.2.2.1) q.2.2.2.2
@[elab_as_elim] def jX {p q r:Addr->Array Value->Nat->Prop} {C:Value->Prop} (v:Value) (i:∃a vs n,v=.ref a/\p a vs n/\q a vs n/\r a vs n) (k:∀a vs n,p a vs n->q a vs n->r a vs n->C (.ref a)):C v:=
 kG i λa vs n h=>h.1▸k a vs n h.2.1 h.2.2.1 h.2.2.2
def IsL.nil:IsL F [] []:=rfl
def IsL.cons(a:Is F x v)(b:IsL F l r):IsL F (x::l) (v::r):=⟨v,r,rfl,a,b⟩
def IsL.inv{F:ai}{x:V}{l:List V}{C:List Value->Prop}{vs:List Value}(a:IsL F (x::l) vs)(k:∀v r,Is F x v->IsL F l r->C (v::r)):C vs:=dh a λv r q=>q.1▸k v r q.2.1 q.2.2
def IsL.ni{F:ai}{C:List Value->Prop}{vs:List Value}(a:IsL F [] vs)(k:C []):C vs:=(show vs=[] from a)▸k
def IsL.ind{F:ai}{C:List V->List Value->Prop}(n:C [] [])(k:∀{x l v r},Is F x v->IsL F l r->C l r->C (x::l) (v::r)){l:List V}:∀{r:List Value},IsL F l r->C l r:=by
 induction l with
 |nil=>exactλa=>a.ni n
 |cons x l o=>exactλa=>a.inv λv r a b=>k a b (o b)
def IsL.mono{F G:ai}(h:c8 F G){x:List V}{v:List Value}(e:IsL F x v):IsL G x v:=
 e.ind .nil λa _ c=>.cons (a.mono h) c
def IsL.append{F:ai}{l o:List V}{r I:List Value}(a:IsL F l r)(b:IsL F o I):IsL F (l++o) (r++I):=
 a.ind (C:=λl r=>IsL F (l++o) (r++I)) b λa _ c=>.cons a c
def IsL.length{F:ai}{l:List V}{r:List Value}(a:IsL F l r):r.length=l.length:=
 a.ind (C:=λl r=>r.length=l.length) rfl λ_ _ c=>Ve Nat.succ c
def IsL.get{F:ai}{l:List V}{r:List Value}{i:Nat}{x:V}(a:IsL F l r):l[i]?=some x->∃v,r[i]?=some v/\Is F x v:=by
 rw[a.ind (C:=λl r=>∀i:Nat,l[i]?=some x->∃v,r[i]?=some v/\Is F x v) (λ_ e=>(Option.some_ne_none _ (e.symm.trans List.getElem?_nil)).elim) (λ{y l v r} a _ c i=>?_) i,]
 induction i using Nat.casesOn with
 |zero=>exactλe=>⟨v,rfl,VW e▸a⟩
 |succ i=>exact c i
def IsL.take{F:ai}{l:List V}{r:List Value}(n:Nat)(a:IsL F l r):IsL F (l.take n) (r.take n):=by
 rw[a.ind (C:=λl r=>∀n,IsL F (l.take n) (r.take n)) (λn=>by rw[[List.take_nil,List.take_nil],.nil,]) (λ{y l v r} a _ c n=>?_) n,]
 induction n using Nat.casesOn with
 |zero=>exact .nil
 |succ n=>exact .cons a (c n)
def IsL.drop{F:ai}{l:List V}{r:List Value}(n:Nat)(a:IsL F l r):IsL F (l.drop n) (r.drop n):=by
 rw[a.ind (C:=λl r=>∀n,IsL F (l.drop n) (r.drop n)) (λn=>by rw[[List.drop_nil,List.drop_nil],.nil,]) (λ{y l v r} a b c n=>?_) n,]
 induction n using Nat.casesOn with
 |zero=>exact .cons a b
 |succ n=>exact c n
def IsL.set{F:ai}{l:List V}{r:List Value}(n:Nat){x:V}{v:Value}(a:IsL F l r)(b:Is F x v):IsL F (l.set n x) (r.set n v):=by
 rw[a.ind (C:=λl r=>∀n,IsL F (l.set n x) (r.set n v)) (λ_=>.nil) (λ{y l v r} a q c n=>?_) n,]
 induction n using Nat.casesOn with
 |zero=>exact .cons b q
 |succ n=>exact .cons a (c n)
def IsL.reverse{F:ai}{l:List V}{r:List Value}(a:IsL F l r):IsL F l.reverse r.reverse:=
 a.ind (C:=λl r=>IsL F l.reverse r.reverse) .nil λa _ c=>by rw[[VZ,VZ],.append c (.cons a .nil),]
def IsL.ints{F:ai}{l:List Int}:∀{r:List Value},IsL F (l.map V.int) r->IntsAre r l:=by
 induction l with
 |nil=>exactλa=>a.ni (C:=λr=>IntsAre r []) .nil
 |cons x l o=>exactλa=>a.inv (C:=λr=>IntsAre r (x::l)) λv r a b=>aw a λt e=>e▸.cons _ _ (o b)
def IsL.lT(a:IntsAre r l):IsL F (l.map V.int) r:=
 a.rec (motive:=λr l _=>IsL F (l.map V.int) r) .nil λn t _ _ _ b=>.cons (x:=.int n) ⟨t,rfl⟩ b
set_option genCtorIdx true in
set_option genInjectivity true in
inductive Atom where
 |i (n:Int)|s (x:Str)
 deriving DecidableEq
noncomputable def Atom.v:Atom->V
 |.i n=>.int n
 |.s x=>.str x
noncomputable def Atom.is:Atom->Value->Bool
 |.i n,v=>Value.isInt n v
 |.s x,v=>Value.isStrOf x v
def Atom.zh{n:Int}{v:Value}(h:Atom.is (.i n) v=true):∃t,v=.int n t:=Value.isInt_shape h
def Atom.GY{n:Str}{v:Value}(h:Atom.is (.s n) v=true):∃t,v=.str n t:=Value.isStrOf_shape h
def jh(o:(a==b)=false)
 (C:∀x t,a≠.float x t)
 (h:∀I:Value->Shared->Prop,I (.bool r) s->wpAny (model P0 w) A (compareOp .Eq a b) I E s) (q:Q r s):wpAny (model P0 w) A (eqBool a b) Q E s:=by
 unfold eqBool
 try with_reducible refine Wd ?_
 rw[U8 (by rw[[o],Vu,])];have z:=
  U0 (m:=richCompare .Eq a b) (h (λa J=>wpAny (model P0 w) A (truthOfDropped a) Q E J) (wpAny_truthy_bool q))
 induction a<;>first|exact z|exact U9 rfl (C _ _)
@[elab_as_elim] def Atom.ci {n:Int} {v:Value} {C:Value->Prop} (h:Atom.is (.i n) v=true) (k:∀t,C (.int n t)):C v:=aw (Atom.zh h) λt e=>e▸k t
@[elab_as_elim] def Atom.cs {n:Str} {v:Value} {C:Value->Prop} (h:Atom.is (.s n) v=true) (k:∀t,C (.str n t)):C v:=aw (Atom.GY h) λt e=>e▸k t
def Atom.Rl{n:Int}{x:Str}{v:Value}{C:Prop}(h:Atom.is (.i n) v=true)(h':Atom.is (.s x) v=true):C:=aw (Atom.zh h) λ_ e=>aw (Atom.GY h') λ_ f=>nomatch e.symm.trans f
def Atom.ei{a b:Int}{Q:Bool->Shared->Prop}{s:Shared}(h:Q (decide (Atom.i a=Atom.i b)) s):Q (a==b) s:=(show(a==b)=decide (Atom.i a=Atom.i b) from decide_eq_decide.mpr ⟨Ve Atom.i,Atom.i.inj⟩)▸h
def Atom.es{a b:Str}{Q:Bool->Shared->Prop}{s:Shared}(h:Q (decide (Atom.s a=Atom.s b)) s):Q (decide (a=b)) s:=(show decide (a=b)=decide (Atom.s a=Atom.s b) from decide_eq_decide.mpr ⟨Ve Atom.s,Atom.s.inj⟩)▸h
noncomputable def bo(w:World):KeyKind P0 w Atom where
 is:=Atom.is
 hash:=λk=>match k with|.i n=>hashInt n|.s x=>hashStr w x
 inj:=λv a b U hb=>by
  induction a<;>cases b
  ·rw[Ve _ (Value.isInt_inj _ _ _ U hb),]
  ·rw[Atom.Rl U hb,]
  ·rw[Atom.Rl hb U,]
  ·rw[Ve _ (Value.isStrOf_inj _ _ _ U hb),]
 byValue:=λk v h=>by
  induction k
  ·rw[Atom.ci h λ_=>rfl,]
  ·rw[Atom.cs h λ_=>rfl,]
 pyHash:=λ{A E s k v Q} C h=>by
  induction k
  ·rw[Atom.ci C λ_=>wpAny_pyHash_int h,]
  ·rw[Atom.cs C λ_=>wpAny_pyHash_str h,]
 eqBool:=λ{A E s a b u v Q} J C h=>by
  induction a<;>cases b
  ·rw[Atom.ci J λ_=>Atom.ci C λ_=>wpAny_eqBool_int (Atom.ei h),]
  ·rw[Atom.ci J λ_=>Atom.cs C λ_=>jh rfl (λ_ _ h=>nomatch h) (λc q=>EqMixed.eq_int_str q) h,]
  ·rw[Atom.cs J λ_=>Atom.ci C λ_=>jh rfl (λ_ _ h=>nomatch h) (λc q=>EqMixed.eq_str_int q) h,]
  ·rw[Atom.cs J λ_=>Atom.cs C λ_=>wpAny_eqBool_str (Atom.es h),]
 «strs»:=λk x t v h=>by
  induction k
  ·exact aw (Atom.zh h) λu J=>nomatch J
  ·exact(strKind P0 w).«strs» _ _ t _ h
inductive Tag where
 |dI|exc|my|tb
 |g (k i:Nat) (d:Bool)
noncomputable abbrev Tag.ctorIdx(v:Tag):Nat:=v.casesOn 0 1 2 3 λ_ _ _=>4
noncomputable abbrev gE(j:List Nat)(fg mv:Nat)(led:Bool):SetTable:={mask:=7,place:=j.toArray,dummies:=#[],finger:=fg,led,moves:=mv,plain:=true}
noncomputable def bY(w:World):Bool:=!w.params.followText "set-order"
def Fy(w:World)(o:Obj)(C:List Nat):Prop:=∃(U:Array (Int×Value)) (x y B:Nat),o={cls:=.type "set",dict:=none,data:=.set U x (gE C y B (bY w)),slots:=#[]}/\
 ∃j:List Tok,j.length=C.length/\U.toList=(C.zip j).map λp=>((p.1:Int),Value.int (p.1:Int) p.2)
inductive OK where
 |list (l:List V)
 |inst (C d:Addr)
 |ns (fs:List (Str×V))
 |dA (l:List (Atom×V))
 |dT (l:List (List Atom×V))
 |set (ps:List Nat)
 |exc (C:Addr) (dx tb:Option Addr)
 |lA (fl:Value)
 |gen (P:ai->Obj->Prop)
noncomputable abbrev OK.ctorIdx(v:OK):Nat:=v.casesOn (λ_=>0) (λ_ _=>1) (λ_=>2) (λ_=>3) (λ_=>4) (λ_=>5) (λ_ _ _=>6) (λ_=>7) λ_=>8
structure O where
 t:Tag
 k:OK
noncomputable def KV{K:Type}(F:ai):List (K×V)->List (K×Value)->Prop
 |[],kvs=>kvs=[]
 |(k,x)::l,kvs=>∃v r,kvs=(k,v)::r/\Is F x v/\KV F l r
def KV.ind{K:Type}{F:ai}{C:List (K×V)->List (K×Value)->Prop}(n:C [] [])(k:∀{i x l v r},Is F x v->KV F l r->C l r->C ((i,x)::l) ((i,v)::r)){l:List (K×V)}:∀{r:List (K×Value)},KV F l r->C l r:=by
 induction l with
 |nil=>exactλa=>(show _=[] from a)▸n
 |cons p l o=>exactλa=>dh a λv r q=>q.1▸k q.2.1 q.2.2 (o q.2.2)
def KV.cons(a:Is F x v)(b:KV F l r):KV F ((k,x)::l) ((k,v)::r):=⟨v,r,rfl,a,b⟩
def KV.mono{K:Type}{F G:ai}(h:c8 F G){l:List (K×V)}{r:List (K×Value)}(a:KV F l r):KV G l r:=
 a.ind (C:=KV G) rfl λa _ c=>.cons (a.mono h) c
noncomputable abbrev ak:=Addr->Option O
noncomputable def n6(w:World)(F:ai):List DictEntry->List (Str×V)->Prop
 |[],fs=>fs=[]
 |e::es,fs=>∃k x r,fs=(k,x)::r/\e.hash=PyData.keyHash w.params k/\(∃t,e.key=.str k t)/\Is F x e.val/\n6 w F es r
def n6.ind{w:World}{F:ai}{C:List DictEntry->List (Str×V)->Prop}(n:C [] [])(k:∀{e es k x r},e.hash=PyData.keyHash w.params k->(∃t,e.key=.str k t)->Is F x e.val->n6 w F es r->C es r->C (e::es) ((k,x)::r)){l:List DictEntry}:∀{r:List (Str×V)},n6 w F l r->C l r:=by
 induction l with
 |nil=>exactλa=>(show _=[] from a)▸n
 |cons p l o=>exactλa=>kG a λ_ _ _ q=>q.1▸k q.2.1 q.2.2.1 q.2.2.2.1 q.2.2.2.2 (o q.2.2.2.2)
def n6.mono{w:World}{F G:ai}(h:c8 F G){l:List DictEntry}{r:List (Str×V)}(a:n6 w F l r):n6 w G l r:=
 a.ind (C:=n6 w G) rfl λo I J _ c=>⟨_,_,_,rfl,o,I,J.mono h,c⟩
noncomputable def o4(w:World)(F:ai):OK->Obj->Prop
 |.list l,o=>∃vs n,o=bM vs n/\IsL F l vs.toList
 |.inst C d,o=>o=instObj C d
 |.ns fs,o=>∃es n,o=dictOf es n/\n6 w F es fs
 |.dA l,o=>∃kvs,KV F l kvs/\∃es ep,o.ExactDict/\o.data=.dict es ep/\KeysOf (bo w) es/\Pairs (bo w) es.toList kvs/\(kvs.map (·.1)).Nodup
 |.dT l,o=>∃xs:List (List Atom×Addr×Value),KV F l (xs.map λx=>(x.1,x.2.2))/\∃es ep,o.ExactDict/\o.data=.dict es ep/\es.toList=xs.map (entryOfKey (tupleKind (bo w)))/\
  (∀x∈xs,∃o items n,F x.2.1=some o/\o.cls=.type "tuple"/\o.data=.seq items n/\ItemsAre (bo w) x.1 items.toList)/\(xs.map (·.1)).Nodup
 |.set y,o=>Fy w o y
 |.exc C dx tb,o=>∃vs:Array Value,o={cls:=.ref C,dict:=dx,data:=.fields vs,slots:=#[]}/\vs.size=6/\vs[1]?=some (tb.elim .none .ref)/\vs[2]?=some .none
 |.lA fl,o=>∃j:Array Value,o={cls:=.type "traceback",dict:=none,data:=.fields j,slots:=#[]}/\j[3]?=some fl
 |.gen P,o=>(∀G,c8 F G->P G o)/\o.isFreed=false/\∀v,o.data≠.cell v
def o4.mono(h:c8 F G)(e:o4 w F x o):o4 w G x o:=by
 induction x with
 |list _=>exact dh e λC n q=>⟨C,n,q.1,q.2.mono h⟩
 |ns _=>exact dh e λC n q=>⟨C,n,q.1,q.2.mono h⟩
 |dA _=>exact aw e λI q=>⟨I,q.1.mono h,q.2⟩
 |dT _=>exact aw e λJ q=>⟨J,q.1.mono h,q.2.imp λb q=>q.imp λc q=>⟨q.1,q.2.1,q.2.2.1,λx U=>(q.2.2.2.1 x U).imp λo q=>q.imp λi q=>q.imp λn q=>⟨h _ _ q.1,q.2⟩,q.2.2.2.2⟩⟩
 |gen _=>exact⟨λG a=>e.1 G (h.trans a),e.2⟩
 |_=>exact e
def o4.zi(e:o4 w F x o):o.isFreed=false:=by
 induction x with
 |list _=>exact dh e λI n q=>q.1▸rfl
 |ns _=>exact dh e λI n q=>q.1▸rfl
 |inst _ _=>exact(show o=_ from e)▸rfl
 |dA _=>exact aw e λC q=>dh q.2 λJ U q=>Xj q.2.1
 |dT _=>exact aw e λC q=>dh q.2 λJ U q=>Xj q.2.1
 |set _=>exact rE e λ_ _ _ _ q=>q.1▸rfl
 |exc _ _ _=>exact aw e λ_ q=>q.1▸rfl
 |lA _=>exact aw e λ_ q=>q.1▸rfl
 |gen _=>exact e.2.1
structure CS where
 m:List (Str×V)
 σ:ak
structure G0 where
 w:World
 h₀:Heap
 os:OsState
noncomputable def aU(env:Env):List Addr:=env.locals::(env.cells.filter λp=>env.kindOf p.1==some .cell).map (·.2)
noncomputable def eG(ff:Option (List Env)):List Addr:=(ff.getD []).filterMap (·.frame)
noncomputable def ai.set(F:ai)(a:Addr)(o:Obj):ai:=λx=>if x=a then some o else F x
noncomputable def ak.set(σ:ak)(a:Addr)(o:O):ak:=λx=>if x=a then some o else σ x
noncomputable def ak.del(σ:ak)(a:Addr):ak:=λx=>if x=a then none else σ x
@[simp] def ak.ae (σ:ak) (a:Addr) (o:O):σ.set a o a=some o:=by rw[Vb rfl,]
def ak.ag(σ:ak)(o:O)(h:b≠a):σ.set a o b=σ b:=by rw[U8 ‹_›,]
@[simp] def ak.gL (σ:ak) (a:Addr):σ.del a a=none:=by rw[Vb rfl,]
def ak.aR(σ:ak)(h:b≠a):σ.del a b=σ b:=by rw[U8 ‹_›,]
def kH(ff:Option (List Env))(a:Addr)(o:Obj)(h:Heap):Prop:=if a∈eG ff then∃J,h.get? a=some {o with slots:=J} else h.get? a=some o
structure St(g:G0)(ff:Option (List Env))(env:Env)(F Z:ai)(c:CS)(s:Shared):Prop where
 gens:s.gens=#[]
 gF:s.os=g.os
 base:c8 g.h₀.get? F
 fr:c8 F s.heap.get?
 zr:∀a o,Z a=some o->kH ff a o s.heap
 obj:∀a x,c.σ a=some x->∃o,s.heap.get? a=some o/\o4 g.w F x.k o
 fD:∀a x,c.σ a=some x->F a=none
 d6:∀a x,c.σ a=some x->Z a=none
 ZF:∀a o,Z a=some o->F a=none
 own:∀a∈aU env,F a=none/\Z a=none/\c.σ a=none
 cq:(aU env).Nodup
 live:∀a∈aU env,∃o,s.heap.get? a=some o
 ns:∃mv,s.heap.Ns env.locals mv/\∀x X,env.kindOf x=some .local->c.m.lookup x=some X->∃v,mv x=some v/\Is F X v
 cell:∀x a,env.cells.lookup x=some a->env.kindOf x=some .cell->∃v,s.heap.IsCell a v/\∀X,c.m.lookup x=some X->∃v',v=some v'/\Is F X v'
 bx:∀x a,env.cells.lookup x=some a->env.kindOf x=some .free->∀X,c.m.lookup x=some X->∃o v,(Z a=some o\/F a=some o)/\a∉eG ff/\o.data=.cell (some v)/\Is F X v
 fz:∀l,ff=some l->∀e∈l,e.scope.kind≠.module/\∃L,e.frame=some L/\(L=env.locals\/∃o,Z L=some o/\∀vs,o.data≠.fields vs)
namespace St
variable{g:G0}{ff:Option (List Env)}{env:Env}{F Z:ai}{c:CS}{s:Shared}
def toks(x:St g ff env F Z c s)(k:Nat):St g ff env F Z c {s with toks:=k}:=
 ⟨x.gens,x.gF,x.base,x.fr,x.zr,x.obj,x.fD,x.d6,x.ZF,x.own,x.cq,x.live,x.ns,x.cell,x.bx,x.fz⟩
def mz(x:St g ff env F Z c s):c8 g.h₀.get? s.heap.get?:=x.base.trans x.fr
def gM(x:St g ff env F Z c s)(h:Z a=some o):∃C,s.heap.get? a=some C:=by
 have:=x.zr a o h;unfold kH at this;split at this
 ·rw[aw this λI e=>?_,0 this,⟨_,e⟩,]
 ·exact⟨o,this⟩
def gN(x:St g ff env F Z c s)(h:a∈eG ff):a=env.locals\/∃o,Z a=some o/\∀vs,o.data≠.fields vs:=by
 unfold eG at h
 induction ff with
 |none=>simp at h
 |some l=>
  rw[ah (Xn.mp h) λe U J=>aV (x.fz l rfl e U) λ_ C=>ah C λL b d=>?_,0 C,];rw[b] at J;rw[1 J,d,]
def mA(x:St g ff env F Z c s)(h:c.σ a=some y):a∉eG ff:=λC=>by
 rcases x.gN C with rfl|⟨o,I,_⟩
 ·have:=(x.own env.locals (.head _)).2.2;rw[h] at this;rw[7 this,]
 ·have:=x.d6 a y h;rw[I] at this;rw[7 this,]
def CO(x:St g ff env F Z c s)(h:F a=some o):a∉eG ff:=λC=>by
 rcases x.gN C with rfl|⟨o,I,_⟩
 ·have:=(x.own env.locals (.head _)).1;rw[h] at this;rw[7 this,]
 ·have:=x.ZF a _ I;rw[h] at this;rw[7 this,]
def fresh(x:St g ff env F Z c s):F s.heap.objs.size=none/\Z s.heap.objs.size=none/\c.σ s.heap.objs.size=none:=by
 rw[⟨?_,?_,?_⟩,]
 ·cases e:F s.heap.objs.size with
  |none=>rfl
  |some o=>exact U9 (Vq (x.fr _ _ e)) (VB _)
 ·cases e:Z s.heap.objs.size with
  |none=>rfl
  |some o=>refine aw (x.gM e) λI C=>?_;rw[U9 (Vq C) (VB _),]
 ·cases e:c.σ s.heap.objs.size with
  |none=>rfl
  |some o=>refine ah (x.obj _ _ e) λI C _=>?_;rw[U9 (Vq C) (VB _),]
def fc(x:St g ff env F Z c s):s.heap.objs.size∉eG ff:=λI=>by
 rcases x.gN I with e|⟨o,C,_⟩
 ·rw[aw (x.live env.locals (.head _)) λo C=>?_,];rw[<-e] at C;rw[U9 (Vq C) (VB _),]
 ·rw[aw (x.gM C) λU J=>?_,U9 (Vq J) (VB _),]
def jY(x:kH ff a o h)(k:∀o,h.get? a=some o->h'.get? a=some o):kH ff a o h':=by
 unfold kH at x⊢;split at x
 ·rw[4 q,[Vb q],aw x λC e=>?_,0 x,⟨C,k _ e⟩,]
 ·rw[4 q,[U8 q],k _ x,]
end St
def ai.d8(h:F a=none):c8 F (F.set a o):=λb x e=>by
 by_cases C:b=a
 ·subst C;rw[h] at e;rw[7 e,]
 ·simp[ai.set,C,e]
@[simp] def ai.ae (F:ai) (a:Addr) (o:Obj):F.set a o a=some o:=by rw[Vb rfl,]
noncomputable def dX:List (Str×V)->List (Str×V)->Prop
 |[],_=>True
 |(x,X)::r,m=>m.lookup x=some X/\dX r m
def dX.look:dX r m->r.lookup x=some X->m.lookup x=some X:=by
 induction r with
 |nil=>exactλ_ e=>nomatch e
 |cons p r o=>
  rw[λh e=>?_,];by_cases q:x=p.1
  ·rw[List.lookup,Wb.mpr q] at e;rw[q▸VW e▸h.1,]
  ·rw[List.lookup,Wt q] at e;rw[o h.2 e,]
namespace St
variable{g:G0}{ff:Option (List Env)}{env:Env}{F Z:ai}{c:CS}{s:Shared}
def di(x:St g ff env F Z c s):∀a∈aU env,a≠s.heap.objs.size:=λa C e=>by rw[aw (x.live a C) λo I=>U9 (Vq I) (by rw[[e],VB _,]),]
def fM(x:St g ff env F Z c s)(o:Obj):St g ff env F Z c {s with heap:=s.heap.push o} where
 gens:=x.gens
 gF:=x.gF
 base:=x.base
 fr a ob e:=Vh _ (x.fr a ob e)
 zr a ob e:=jY (x.zr a ob e) λ_ e=>Vh _ e
 obj a y e:=let⟨ob,h1,h2⟩:=x.obj a y e;⟨ob,Vh _ h1,h2⟩
 fD:=x.fD
 d6:=x.d6
 ZF:=x.ZF
 own:=x.own
 cq:=x.cq
 live a C:=let⟨ob,h⟩:=x.live a C;⟨ob,Vh _ h⟩
 ns:=let⟨J,h1,h2⟩:=x.ns;⟨J,h1.push _,h2⟩
 cell n a h1 h2:=let⟨v,U,d⟩:=x.cell n a h1 h2;⟨v,U.keeps λ_ _ e=>Vh _ e,d⟩
 bx:=x.bx
 fz:=x.fz
def vH(x:St g ff env F Z c s)(B:s.heap.get? a=some o)(C:F a=none)(D:Z a=none)(j:c.σ a=none)(J:∀b∈aU env,b≠a):St g ff env (F.set a o) Z c s where
 gens:=x.gens
 gF:=x.gF
 base:=x.base.trans (ai.d8 C)
 fr b ob e:=by
  by_cases hb:b=a
  ·subst hb;simp at e;rw[8 e,B,]
  ·rw[x.fr b ob (by simpa[ai.set,hb] using e),]
 zr:=x.zr
 obj b y e:=let⟨ob,h1,h2⟩:=x.obj b y e;⟨ob,h1,h2.mono (ai.d8 C)⟩
 fD b y e:=by
  by_cases hb:b=a
  ·subst hb;rw[j] at e;rw[7 e,]
  ·simpa[ai.set,hb] using x.fD b y e
 d6:=x.d6
 ZF b ob e:=by
  by_cases hb:b=a
  ·subst hb;rw[D] at e;rw[7 e,]
  ·simpa[ai.set,hb] using x.ZF b ob e
 own b hb:=⟨by simpa[ai.set,J b hb] using(x.own b hb).1,(x.own b hb).2⟩
 cq:=x.cq
 live:=x.live
 ns:=let⟨G,h1,h2⟩:=x.ns;⟨G,h1,λn X a b=>let⟨v,U,d⟩:=h2 n X a b;⟨v,U,d.mono (ai.d8 C)⟩⟩
 cell n a h1 h2:=let⟨v,H,L⟩:=x.cell n a h1 h2;⟨v,H,λX e=>let⟨M,U,d⟩:=L X e;⟨M,U,d.mono (ai.d8 C)⟩⟩
 bx n b h1 h2 X e:=let⟨ob,v,q0,U,d,P⟩:=x.bx n b h1 h2 X e;⟨ob,v,q0.imp id (ai.d8 C b ob),U,d,P.mono (ai.d8 C)⟩
 fz:=x.fz
def gO(x:St g ff env F Z c s)(J:s.heap.get? a=some o)(U:o4 g.w F y.k o)(d:F a=none)(j:Z a=none)(C:∀b∈aU env,b≠a):
 St g ff env F Z ⟨c.m,c.σ.set a y⟩ s where
 gens:=x.gens
 gF:=x.gF
 base:=x.base
 fr:=x.fr
 zr:=x.zr
 obj b z e:=by
  by_cases hb:b=a
  ·subst hb;simp at e;rw[8 e,⟨o,J,U⟩,]
  ·rw[x.obj b z (by simpa[ak.set,hb] using e),]
 fD b z e:=by
  by_cases hb:b=a
  ·rw[8 hb,d,]
  ·rw[x.fD b z (by simpa[ak.set,hb] using e),]
 d6 b z e:=by
  by_cases hb:b=a
  ·rw[8 hb,j,]
  ·rw[x.d6 b z (by simpa[ak.set,hb] using e),]
 ZF:=x.ZF
 own b hb:=⟨(x.own b hb).1,(x.own b hb).2.1,by simpa[ak.set,C b hb] using(x.own b hb).2.2⟩
 cq:=x.cq
 live:=x.live
 ns:=x.ns
 cell:=x.cell
 bx:=x.bx
 fz:=x.fz
def iD(x:St g ff env F Z c s)(o:Obj)(hf:o.isFreed=false):c8 F (F.set s.heap.objs.size o)/\St g ff env (F.set s.heap.objs.size o) Z c {s with heap:=s.heap.push o}:=
 ⟨ai.d8 x.fresh.1,(x.fM o).vH (Vw _ hf) x.fresh.1 x.fresh.2.1 x.fresh.2.2 x.di⟩
def c9(x:St g ff env F Z c s)(o:Obj)(C:o4 g.w F y.k o):St g ff env F Z ⟨c.m,c.σ.set s.heap.objs.size y⟩ {s with heap:=s.heap.push o}:=
 (x.fM o).gO (Vw _ C.zi) C x.fresh.1 x.fresh.2.1 x.di
def o5(x:St g ff env F Z c s)(h:c.σ a=some y):∀b∈aU env,b≠a:=λb o e=>by have:=(x.own b o).2.2;rw[e,h] at this;rw[7 this,]
def upd(x:St g ff env F Z c s)(C:c.σ a=some y)(hs:Heap.SameBut a s.heap h')(ho:h'.get? a=some J)(hz:o4 g.w F z.k J)(tk:Nat):
 St g ff env F Z ⟨c.m,c.σ.set a z⟩ {s with heap:=h',toks:=tk} where
 gens:=x.gens
 gF:=x.gF
 base:=x.base
 fr b ob e:=by
  have hb:b≠a:=λq=>by rw[q,x.fD a y C] at e;rw[7 e,]
  exact(hs.2 b hb).trans (x.fr b ob e)
 zr b ob e:=by
  have hb:b≠a:=λq=>by rw[q,x.d6 a y C] at e;rw[7 e,]
  rw[jY (x.zr b ob e) λ_ e=>(hs.2 b hb).trans e,]
 obj b w e:=by
  by_cases hb:b=a
  ·subst hb;simp at e;rw[8 e,⟨J,ho,hz⟩,]
  ·rw[ah (x.obj b w (by simpa[ak.set,hb] using e)) λob h1 h2=>⟨ob,(hs.2 b hb).trans h1,h2⟩,]
 fD b w e:=by
  by_cases hb:b=a
  ·rw[8 hb,x.fD b y C,]
  ·rw[x.fD b w (by simpa[ak.set,hb] using e),]
 d6 b w e:=by
  by_cases hb:b=a
  ·rw[8 hb,x.d6 b y C,]
  ·rw[x.d6 b w (by simpa[ak.set,hb] using e),]
 ZF:=x.ZF
 own b hb:=⟨(x.own b hb).1,(x.own b hb).2.1,by simpa[ak.set,x.o5 C b hb] using(x.own b hb).2.2⟩
 cq:=x.cq
 live b hb:=let⟨ob,h⟩:=x.live b hb;⟨ob,(hs.2 b (x.o5 C b hb)).trans h⟩
 ns:=let⟨U,h1,h2⟩:=x.ns;⟨U,h1.sameBut hs (x.o5 C _ (.head _)),h2⟩
 cell n b h1 h2:=by rw[ah (x.cell n b h1 h2) λv d j=>⟨v,d.sameBut hs (x.o5 C b ?_),j⟩,];simp only[aU,Vc,Vn,VS];rw[.inr ⟨(n,b),⟨mem_of_lookup h1,by rw[Wb.mpr ‹_›,]⟩,rfl⟩,]
 bx:=x.bx
 fz:=x.fz
def fh(h1:env.cells.lookup n=some b)(o:env.kindOf n=some .cell):b∈aU env:=by simp only[aU,Vc,Vn,VS];rw[.inr ⟨(n,b),⟨mem_of_lookup h1,by rw[Wb.mpr ‹_›,]⟩,rfl⟩,]
def jZ(x:St g ff env F Z c s)(h1:env.cells.lookup n=some b)(C:env.kindOf n=some .cell):b≠env.locals:=by intro e;have o:=x.cq;simp only[aU,VX] at o;apply o.1;rw[<-e];simp only[Vn,VS];exact⟨(n,b),⟨mem_of_lookup h1,by rw[Wb.mpr ‹_›,]⟩,rfl⟩
def zj(x:St g ff env F Z c s)(U:a∈aU env)(hs:Heap.SameBut a s.heap h')(hl:∃o,h'.get? a=some o)(tk:Nat)
 (d:∃mv,h'.Ns env.locals mv/\∀n X,env.kindOf n=some .local->m.lookup n=some X->∃v,mv n=some v/\Is F X v)
 (C:∀n b,env.cells.lookup n=some b->env.kindOf n=some .cell->∃v,h'.IsCell b v/\∀X,m.lookup n=some X->∃j,v=some j/\Is F X j)
 (J:∀n,env.kindOf n=some .free->m.lookup n=c.m.lookup n):
 St g ff env F Z ⟨m,c.σ⟩ {s with heap:=h',toks:=tk} where
 gens:=x.gens
 gF:=x.gF
 base:=x.base
 fr b ob e:=by
  have hb:b≠a:=λq=>by rw[q,(x.own a U).1] at e;rw[7 e,]
  exact(hs.2 b hb).trans (x.fr b ob e)
 zr b ob e:=by
  have hb:b≠a:=λq=>by rw[q,(x.own a U).2.1] at e;rw[7 e,]
  rw[jY (x.zr b ob e) λ_ e=>(hs.2 b hb).trans e,]
 obj b w e:=by
  have hb:b≠a:=λq=>by have:=(x.own a U).2.2;rw[<-q,e] at this;rw[7 this,]
  rw[ah (x.obj b w e) λob h1 h2=>⟨ob,(hs.2 b hb).trans h1,h2⟩,]
 fD:=x.fD
 d6:=x.d6
 ZF:=x.ZF
 own:=x.own
 cq:=x.cq
 live b hb:=by
  by_cases q:b=a
  ·rw[8 q,hl,]
  ·rw[aw (x.live b hb) λo h=>?_,⟨o,(hs.2 b q).trans h⟩,]
 ns:=d
 cell:=C
 bx n b h1 h2 X e:=x.bx n b h1 h2 X (by rw[<-J n h2];rw[e,])
 fz:=x.fz
def dj{m:List (Str×V)}{x:Str}{X:V}{n:Str}:List.lookup n ((x,X)::m)=if n=x then some X else m.lookup n:=by
 simp only[List.lookup];by_cases h:n=x
 ·subst h;simp
 ·have:(n==x)=false:=by exact WT ‹_›
  rw[this,U8 h]
def GZ(x:St g ff env F Z c s){n:Str}{X:V}{v:Value}(D:env.kindOf n=some .local)(G:Is F X v){h':Heap}(hs:Heap.SameBut env.locals s.heap h')
 (hn:∀mv,s.heap.Ns env.locals mv->h'.Ns env.locals (λy=>if y=n then some v else mv y)) (tk:Nat):St g ff env F Z ⟨(n,X)::c.m,c.σ⟩ {s with heap:=h',toks:=tk}:=by
 rw[ah x.ns λmv h1 h2=>?_,<-J hn mv h1,x.zj (.head _) hs (let⟨o,_,_,ho,_⟩:=J;⟨o,ho⟩) tk ⟨_,J,λy Y C e=>?_⟩ (λy b hb C=>?_) (λy C=>?_),]
 ·rw[dj] at e
  by_cases q:y=n
  ·subst q;simp at e;rw[8 e,⟨v,by rw[Vb rfl,],G⟩,]
  ·rw[U8 q] at e;rw[ah (h2 y Y C e) λu U d=>?_,⟨u,by simp[q,U],d⟩,]
 ·rw[ah (x.cell y b hb C) λu U d=>⟨u,U.sameBut hs (x.jZ hb C),λY e=>d Y ?_⟩,]
  have q:y≠n:=λq=>by rw[q,D] at C;injection C with j;rw[7 j,]
  rw[dj,U8 q] at e;rw[e,]
 ·have q:y≠n:=λq=>by rw[q,D] at C;injection C with B;injection B
  rw[dj,U8 q]
def t5(x:St g ff env F Z c s)(h:dX m c.m):St g ff env F Z ⟨m,c.σ⟩ s where
 gens:=x.gens
 gF:=x.gF
 base:=x.base
 fr:=x.fr
 zr:=x.zr
 obj:=x.obj
 fD:=x.fD
 d6:=x.d6
 ZF:=x.ZF
 own:=x.own
 cq:=x.cq
 live:=x.live
 ns:=let⟨C,h1,h2⟩:=x.ns;⟨C,h1,λn X a b=>h2 n X a (h.look b)⟩
 cell n a h1 h2:=let⟨v,J,U⟩:=x.cell n a h1 h2;⟨v,J,λX e=>U X (h.look e)⟩
 bx n b h1 h2 X e:=x.bx n b h1 h2 X (h.look e)
 fz:=x.fz
def iE(x:St g ff env F Z c s)(h:∀a y,σ a=some y->∃t,c.σ a=some ⟨t,y.k⟩):St g ff env F Z ⟨c.m,σ⟩ s where
 gens:=x.gens
 gF:=x.gF
 base:=x.base
 fr:=x.fr
 zr:=x.zr
 obj a y e:=by rw[aw (h a y e) λt e=>?_,x.obj a ⟨t,y.k⟩ e,]
 fD a y e:=by rw[aw (h a y e) λt e=>?_,x.fD a ⟨t,y.k⟩ e,]
 d6 a y e:=by rw[aw (h a y e) λt e=>?_,x.d6 a ⟨t,y.k⟩ e,]
 ZF:=x.ZF
 own b hb:=⟨(x.own b hb).1,(x.own b hb).2.1,by
  cases e:σ b with
  |none=>exact e
  |some y=>refine aw (h b y e) λt this=>?_;rw[(x.own b hb).2.2] at this;injection this⟩
 cq:=x.cq
 live:=x.live
 ns:=x.ns
 cell:=x.cell
 bx:=x.bx
 fz:=x.fz
def freeze(x:St g ff env F Z c s)(J:c.σ a=some ⟨t,.list l⟩):∃F',c8 F F'/\Is F' (.lst l) (.ref a)/\St g ff env F' Z ⟨c.m,c.σ.del a⟩ s:=by
 rw[ah (x.obj _ _ J) λo f C=>dr C λd n I h=>?_,0 C,3 I,<-U x.fD _ _ J,⟨F.set a (bM d n),ai.d8 U,⟨a,_,d,n,rfl,ai.ae ..,rfl,rfl,h.mono (ai.d8 U)⟩,?_⟩,];have y:=x.iE (σ:=c.σ.del a) λb z e=>by
  by_cases q:b=a
  ·subst q;simp at e
  ·rw[ak.aR _ q] at e;exact⟨z.t,e⟩
 rw[y.vH f U (x.d6 _ _ J) (Vb rfl) (x.o5 J),]
end St
inductive PT(g:G0)(ff:Option (List Env))(env:Env){α β:Type}(R:ai->β->α->Prop)(F Z:ai)(Q:β->CS->Prop)(a:α)(s:Shared):Prop
 |mk (F':ai) (b:β) (c':CS) (f:c8 F F') (r:R F' b a) (st:St g ff env F' Z c' s) (q:Q b c'):PT g ff env R F Z Q a s
def PT.imp(h:PT g ff env R F₁ Z Q a s)(C:c8 F F₁)(I:∀b o,Q b o->J b o):PT g ff env R F Z J a s:=by induction h with|mk U b o f r st q=>exact⟨U,b,o,C.trans f,r,st,I b o q⟩
def T(g:G0)(A:Around)(env:Env){o β:Type}(R:ai->β->o->Prop)(F₀:ai)(t:Sem o)(c:CS)(Q:β->CS->Prop)(E:V->CS->Prop):Prop:=
 ∀F Z s,c8 F₀ F->St g A.frames env F Z c s->wpAny (model P0 g.w) A t
  (PT g A.frames env R F Z Q) (PT g A.frames env Is F Z E) s
section
variable{g:G0}{A:Around}{env:Env}{α β vI vJ:Type}{R:ai->β->α->Prop}{R':ai->vJ->vI->Prop}{F₀:ai}{c:CS}{E:V->CS->Prop}
def T.low(h:T g A env R F₀ t c Q E)(o:c8 F₀ F₁):T g A env R F₁ t c Q E:=
 λF Z s C I=>h F Z s (o.trans C) I
def T.mono(h:T g A env R F₀ t c Q E)(C:∀b o,Q b o->I b o)(J:∀X o,E X o->U X o):T g A env R F₀ t c I U:=
 λF Z s a d=>Wr (h F Z s a d) (λ_ _ h=>h.imp (.refl _) C) λ_ _ h=>h.imp (.refl _) J
def T.pure(o:R F₀ b a)(hm:∀{F G:ai} {b a},c8 F G->R F b a->R G b a)(h:Q b c):T g A env R F₀ (Pure.pure a) c Q E:=
 λF Z s C I=>U6 ⟨F,b,c,.refl _,hm C o,I,h⟩
def T.bind
 (h:T g A env R F₀ t c (λb C=>∀F₁ a,c8 F₀ F₁->R F₁ b a->T g A env R' F₁ (f a) C Q E) E):T g A env R' F₀ (t>>=f) c Q E:=λF Z s I U=>by
 rw[U0 (Wr (h F Z s I U) ?_ λ_ _ e=>e),]
 rintro a d ⟨J,b,C,o,i,j,k⟩
 rw[Wr (k J a (I.trans o) i J Z d (.refl _) j) (λ_ _ h=>h.imp o λ_ _ x=>x) λ_ _ h=>h.imp o λ_ _ x=>x,]
def T.hold(h:T g A env R F₀ t c Q E):T g A env R F₀ (holding vs t) c Q E:=λF Z s o C=>Wd (h F Z s o C)
def T.of_eq(e:t=t')(h:T g A env R F₀ t' c Q E):T g A env R F₀ t c Q E:=e▸h
def T.at(h:T g A env R F₀ (f ()) c Q E):T g A env R F₀ (standAt pos>>=f) c Q E:=λF Z s o C=>U0 (W0 (h F Z s o C))
def T.t5(hm:dX m c.m)(h:T g A env R F₀ t ⟨m,c.σ⟩ Q E):T g A env R F₀ t c Q E:=λF Z s o C=>h F Z s o (C.t5 hm)
end
abbrev EV(g:G0)(A:Around)(env:Env)(e:Expr)(c:CS)(Q:V->CS->Prop)(E:V->CS->Prop):Prop:=T g A env Is bot (eval e env) c Q E
structure bV(env:Env):Prop where
 kind:env.scope.kind=.function
 glob:env.globals=mainGlobals
 LD:env.builtins=builtinsNs
noncomputable abbrev KK(g:G0):Frag:=KR g.w.params
def Base(g:G0):Prop:=(KK g).In g.h₀/\∃o C,TopRead q0 (looseW q0 []) o C g.h₀
section
variable{g:G0}{A:Around}{env:Env}{α β vI vJ:Type}{R:ai->β->α->Prop}{R':ai->vJ->vI->Prop}{F₀:ai}{c:CS}{E:V->CS->Prop}
def T.run(h:T g A env R F₀ t c Q E)(f:c8 F₀ F)(st:St g A.frames env F Z c s)
 (k:∀F' a b o C,c8 F F'->R F' b a->St g A.frames env F' Z o C->Q b o->P a C) (ke:∀F' e X o C,c8 F F'->Is F' X e->St g A.frames env F' Z o C->E X o->i e C):
 wpAny (model P0 g.w) A t P i s:=
 Wr (h F Z s f st) (λ_ _ ⟨_,_,_,I,J,U,d⟩=>k _ _ _ _ _ I J U d) λ_ _ ⟨_,_,_,I,J,U,d⟩=>ke _ _ _ _ _ I J U d
def T.op{vs:List Value}{t:Sem Value}{R:ai->β->Value->Prop}{Q:β->CS->Prop}(h:T g A env R F₀ t c Q E):T g A env R F₀ (operate vs t) c Q E:=λF Z s o C=>wpAny_operating (h F Z s o C)
def T.release(h:T g A env R F₀ (f ()) c Q E):T g A env R F₀ (release vs keep>>=f) c Q E:=λF Z s C I J p o=>by rw[[Sem.wp_bind',Sem.wp_release],h F Z s C I J p o,]
def iF(g:G0)(A:Around)(env:Env)(R:ai->β->α->Prop)(f:Value->Sem α)(x:V)(c:CS)(Q:β->CS->Prop)(E:V->CS->Prop):Prop:=
 ∀F₀ a,Is F₀ x a->T g A env R F₀ (f a) c Q E
def bN(g:G0)(A:Around)(env:Env)(R:ai->β->α->Prop)(f:Value->Value->Sem α)(x y:V)(c:CS)(Q:β->CS->Prop)(E:V->CS->Prop):Prop:=
 ∀F₀ a b,Is F₀ x a->Is F₀ y b->T g A env R F₀ (f a b) c Q E
def Cf(g:G0)(A:Around)(env:Env)(R:ai->β->α->Prop)(f:Value->Value->Value->Sem α)(x y z:V)(c:CS)(Q:β->CS->Prop)(E:V->CS->Prop):Prop:=
 ∀F₀ a b d,Is F₀ x a->Is F₀ y b->Is F₀ z d->T g A env R F₀ (f a b d) c Q E
def CA(g:G0)(A:Around)(env:Env)(f:V)(args:List V)(c:CS)(Q:V->CS->Prop)(E:V->CS->Prop):Prop:=
 ∀F₀ o C,Is F₀ f o->IsL F₀ args C->T g A env Is F₀ (call o C) c Q E
section
variable{a:Addr}{x y:V}{m n:Int}{k l:Str}{Q:β->CS->Prop}
def o6(h:∀F₀,T g A env R F₀ (f (.ref a)) c Q E):iF g A env R f (.loc a) c Q E:=λF₀ v i=>(show v=.ref a from i)▸h F₀
def LF(h:∀F₀ t,T g A env R F₀ (f (.str k t)) c Q E):iF g A env R f (.str k) c Q E:=λF₀ v i=>aw i λt e=>e▸h F₀ t
def fE(h:∀F₀ t u,T g A env R F₀ (f (.int m t) (.int n u)) c Q E):bN g A env R f (.int m) (.int n) c Q E:=λF₀ _ _ i j=>aw i λt e=>aw j λu o=>e▸o▸h F₀ t u
def pO(h:∀F₀ t u,T g A env R F₀ (f (.str k t) (.str l u)) c Q E):bN g A env R f (.str k) (.str l) c Q E:=λF₀ _ _ i j=>aw i λt e=>aw j λu o=>e▸o▸h F₀ t u
def fW(h:∀F₀ v,Is F₀ y v->T g A env R F₀ (f (.ref a) v) c Q E):bN g A env R f (.loc a) y c Q E:=λF₀ u v i j=>(show u=.ref a from i)▸h F₀ v j
def t6(h:∀F₀ u,Is F₀ x u->T g A env R F₀ (f u (.ref a)) c Q E):bN g A env R f x (.loc a) c Q E:=λF₀ u v i j=>(show v=.ref a from j)▸h F₀ u i
def zk(h:∀F₀ t,T g A env R F₀ (f (.ref a) (.int n t)) c Q E):bN g A env R f (.loc a) (.int n) c Q E:=fW λF₀ v j=>aw j λt e=>e▸h F₀ t
def pP(h:∀F₀ v w,Is F₀ x v->Is F₀ y w->T g A env R F₀ (f (.ref a) v w) c Q E):Cf g A env R f (.loc a) x y c Q E:=λF₀ u v w i j k=>(show u=.ref a from i)▸h F₀ v w j k
def vK(h:∀F₀ t w,Is F₀ y w->T g A env R F₀ (f (.ref a) (.int n t) w) c Q E):Cf g A env R f (.loc a) (.int n) y c Q E:=pP λF₀ v w j k=>aw j λt e=>e▸h F₀ t w k
end
section
variable{a:Addr}{fv:Value}{x y z:V}{Q:V->CS->Prop}
def j0(h:∀F₀ v,Is F₀ x v->T g A env Is F₀ (call fv [v]) c Q E):CA g A env (.raw fv) [x] c Q E:=
 λF₀ _ _ i o=>(show _=fv from i)▸o.inv (C:=λI=>T g A env Is F₀ (call fv I) c Q E) λv _ a b=>b.ni (C:=λr=>T g A env Is F₀ (call fv (v::r)) c Q E) (h F₀ v a)
def vL(h:∀F₀ v w,Is F₀ x v->Is F₀ y w->T g A env Is F₀ (call fv [v,w]) c Q E):CA g A env (.raw fv) [x,y] c Q E:=
 λF₀ _ _ i o=>(show _=fv from i)▸o.inv (C:=λI=>T g A env Is F₀ (call fv I) c Q E) λv _ a b=>b.inv (C:=λr=>T g A env Is F₀ (call fv (v::r)) c Q E) λw _ J b=>b.ni (C:=λr=>T g A env Is F₀ (call fv (v::w::r)) c Q E) (h F₀ v w a J)
def zl(h:∀F₀ v w u,Is F₀ x v->Is F₀ y w->Is F₀ z u->T g A env Is F₀ (call fv [v,w,u]) c Q E):CA g A env (.raw fv) [x,y,z] c Q E:=
 λF₀ _ _ i o=>(show _=fv from i)▸o.inv (C:=λJ=>T g A env Is F₀ (call fv J) c Q E) λv _ a b=>b.inv (C:=λr=>T g A env Is F₀ (call fv (v::r)) c Q E) λw _ U b=>b.inv (C:=λr=>T g A env Is F₀ (call fv (v::w::r)) c Q E) λu _ I b=>b.ni (C:=λr=>T g A env Is F₀ (call fv (v::w::u::r)) c Q E) (h F₀ v w u a U I)
def LG(h:∀F₀,T g A env Is F₀ (call fv [.ref a]) c Q E):CA g A env (.raw fv) [.loc a] c Q E:=j0 λF₀ v i=>(show v=.ref a from i)▸h F₀
def vM(h:∀F₀ w,Is F₀ y w->T g A env Is F₀ (call fv [.ref a,w]) c Q E):CA g A env (.raw fv) [.loc a,y] c Q E:=vL λF₀ v w i j=>(show v=.ref a from i)▸h F₀ w j
def t7(h:∀F₀ w u,Is F₀ y w->Is F₀ z u->T g A env Is F₀ (call fv [.ref a,w,u]) c Q E):CA g A env (.raw fv) [.loc a,y,z] c Q E:=zl λF₀ v w u i j k=>(show v=.ref a from i)▸h F₀ w u j k
def G1(h:∀F₀ t,T g A env Is F₀ (call fv [.int m t]) c Q E):CA g A env (.raw fv) [.int m] c Q E:=j0 λF₀ v i=>aw i λt e=>e▸h F₀ t
def OY(h:∀F₀ t,T g A env Is F₀ (call fv [.str m t]) c Q E):CA g A env (.raw fv) [.str m] c Q E:=j0 λF₀ v i=>aw i λt e=>e▸h F₀ t
def zm(h:∀F₀ t u,T g A env Is F₀ (call fv [.int m t,.int n u]) c Q E):CA g A env (.raw fv) [.int m,.int n] c Q E:=vL λF₀ v w i j=>aw i λt e=>aw j λu o=>e▸o▸h F₀ t u
def G2(h:∀F₀ t u q,T g A env Is F₀ (call fv [.int m t,.int n u,.int k q]) c Q E):CA g A env (.raw fv) [.int m,.int n,.int k] c Q E:=zl λF₀ v w x i j l=>aw i λt e=>aw j λu C=>aw l λq o=>e▸C▸o▸h F₀ t u q
end
def bE(C:bV env)(o:env.kindOf x=some .local)(hm:c.m.lookup x=some X)(h:Q X c)(I:(x==("__debug__":Str))=false:=by decide):
 EV g A env (.Name x pos) c Q E:=λF Z s d st=>by
 rw[ah st.ns λe J U=>ah (U x X o hm) λv a b=>wpAny_Name (wpAny_loadName_local C.kind o J a ⟨F,X,c,.refl _,b,st,h⟩) I,]
def CP(J:bV env)(C:env.kindOf x=some .cell)(I:env.cells.lookup x=some a)(hm:c.m.lookup x=some X)(h:Q X c)(U:(x==("__debug__":Str))=false:=by decide):
 EV g A env (.Name x pos) c Q E:=λF Z s f st=>by
 rw[ah (st.cell x a I C) λv b d=>ah (d X hm) λi o e=>?_,3 o,wpAny_Name (wpAny_loadName_cell J.kind C I b ⟨F,X,c,.refl _,e,st,h⟩) U,]
def vN(C:Base g)(I:bV env)(a:env.kindOf x=some .globalImplicit)(e:nsIn (KK g) mainGlobals x=some (some v))(h:Q (.raw v) c)(b:(x==("__debug__":Str))=false:=by decide):
 EV g A env (.Name x pos) c Q E:=λF Z s d st=>by
 rw[aV C λX o=>dh o λJ f U=>?_,0 C o,Calls.Name_function_global I.kind a (Calls.loadGlobal_global (mg:=J) ?_ (mg_of X U.g e) ⟨F,.raw v,c,.refl _,rfl,st,h⟩) b,[I.glob],U.g.keeps st.mz,]
def LH(J:Base g)(I:bV env)(d:env.kindOf x=some .globalImplicit)(e:nsIn (KK g) mainGlobals x=some none)(f:bootBuiltins x=some v)(i:x≠"__name__")
 (h:Q (.raw v) c) (j:(x==("__debug__":Str))=false:=by decide):
 EV g A env (.Name x pos) c Q E:=λF Z s k st=>by
 rw[aV J λX o=>dh o λU a C=>?_,0 J o,Calls.Name_function_global I.kind d (Calls.loadGlobal_builtin (mg:=U) (mb:=a) ?_ (mg_none_of X C.g e) ?_ ((C.builtins x i).trans f) ⟨F,.raw v,c,.refl _,rfl,st,h⟩) j,]
 ·rw[[I.glob],C.g.keeps st.mz,]
 ·rw[[I.LD],C.b.keeps st.mz,]
def mB(h:Q (.int i) c):EV g A env (.Constant (.int i) k pos) c Q E:=λF Z s o st=>
 wpAny_Constant_int ⟨F,.int i,c,.refl _,⟨_,rfl⟩,st.toks _,h⟩
def G3(h:Q (.str i) c):EV g A env (.Constant (.str i) k pos) c Q E:=λF Z s o st=>
 wpAny_Constant_str ⟨F,.str i,c,.refl _,⟨_,rfl⟩,st.toks _,h⟩
def CQ(h:Q .none c):EV g A env (.Constant .none k pos) c Q E:=λF Z s o st=>
 wpAny_Constant_none ⟨F,.none,c,.refl _,rfl,st,h⟩
def CR(h:Q (.bool b) c):EV g A env (.Constant (.bool b) k pos) c Q E:=λF Z s o st=>
 wpAny_Constant_bool ⟨F,.bool b,c,.refl _,rfl,st,h⟩
def G4(h:EV g A env l c (λx o=>EV g A env r o (λy C=>bN g A env Is (binaryOp I) x y C Q E) E) E):
 EV g A env (.BinOp l I r pos) c Q E:=
 T.of_eq (eval_BinOp ..) (T.bind (T.mono h (λx o J k a m U=>T.bind (T.hold (T.low (T.mono J (λy C d f b i j=>T.at (T.op (d f a b (U.mono i) j))) λ_ _ e=>e) (.bot _)))) λ_ _ e=>e))
def LJ(h:EV g A env x c (λx o=>iF g A env Is (unaryOp C) x o Q E) E):EV g A env (.UnaryOp C x pos) c Q E:=
 T.of_eq (t':=do let v<-eval x env;standAt pos;holding [v] (unaryOp C v)) rfl (T.bind (T.mono h (λx o I J a d U=>T.at (T.hold (I J a U))) λ_ _ e=>e))
def t8(h:EV g A env l c (λx o=>EV g A env r o (λy C=>bN g A env Is (compareOp I) x y C Q E) E) E)
 (hm:behindInMarks I r=false:=by with_unfolding_all rfl):EV g A env (.Compare l [I] [r] pos) c Q E:=
 T.of_eq (eval_Compare1 ..) (T.bind (T.mono h (λx o J k a m U=>by rw[[markedBehindIn_of_false hm],T.bind (T.hold (T.low (T.mono J (λy C d f b i j=>T.at (T.op (d f a b (U.mono i) j))) λ_ _ e=>e) (.bot _))),]) λ_ _ e=>e))
noncomputable def RB:ai->Bool->Bool->Prop:=λ_ b a=>a=b
abbrev TS(g:G0)(A:Around)(env:Env)(e:Expr)(c:CS)(Q:Bool->CS->Prop)(E:V->CS->Prop):Prop:=T g A env RB bot (isTrue e env (eval e env)) c Q E
def G5
 (h:EV g A env l c (λx o=>EV g A env r o (λy C=>bN g A env Is (compareOp I) x y C (λv J=>iF g A env RB truthy v J Q E) E) E) E)
 (hm:behindInMarks I r=false:=by with_unfolding_all rfl):TS g A env (.Compare l [I] [r] pos) c Q E:=
 T.of_eq (isTrue_Compare1 ..) (T.bind (T.mono h (λx o U q a t f=>by rw[[markedBehindIn_of_false hm],T.bind (T.hold (T.low (T.mono U (λy C i j b k m=>T.at (T.bind (T.op (T.mono (i j a b (f.mono k) m) (λv J n p d u id=>T.hold (n p d id)) λ_ _ e=>e)))) λ_ _ e=>e) (.bot _))),]) λ_ _ e=>e))
def dt(h:Q b c):iF g A env RB truthy (.bool b) c Q E:=λF₀ a o F Z s C st=>by rw[9 o,wpAny_truthy_bool ⟨F,b,c,.refl _,rfl,st,h⟩,]
def G6(h:TS g A env x c (λb o=>Q (!b) o) E):TS g A env (.UnaryOp .Not x pos) c Q E:=λF Z s C st=>
 wpAny_isTrue_Not (Wr (h F Z s C st) (λ_ _ ⟨I,b,J,U,a,d,f⟩=>⟨I,!b,J,U,by cases a;rfl,d,f⟩) λ_ _ e=>e)
def G7(h:T g A env RB bot (allTrue o vs env) c Q E):TS g A env (.BoolOp o vs pos) c Q E:=T.of_eq rfl h
def rI(h:Q true c):T g A env RB F₀ (allTrue .And [] env) c Q E:=λF Z s o st=>U6 ⟨F,true,c,.refl _,rfl,st,h⟩
def t9(h:Q false c):T g A env RB F₀ (allTrue .Or [] env) c Q E:=λF Z s o st=>U6 ⟨F,false,c,.refl _,rfl,st,h⟩
def ji(h:TS g A env x c (λb o=>match b with|false=>Q false o|true=>T g A env RB bot (allTrue .And r env) o Q E) E):
 T g A env RB F₀ (allTrue .And (x::r) env) c Q E:=by
 rw[T.of_eq (arm_allTrue_cons ..) (T.bind (T.low (T.mono h (λb o C J a U I=>?_) λ_ _ e=>e) (.bot _))),];have e:=show _=b from I;subst e
 induction a with
 |false=>exactλF Z s d st=>U6 ⟨F,false,o,.refl _,rfl,st,C⟩
 |true=>exact T.low C (.bot _)
def kI(h:TS g A env x c (λb o=>match b with|true=>Q true o|false=>T g A env RB bot (allTrue .Or r env) o Q E) E):
 T g A env RB F₀ (allTrue .Or (x::r) env) c Q E:=by
 rw[T.of_eq (arm_allTrue_cons ..) (T.bind (T.low (T.mono h (λb o C J a U I=>?_) λ_ _ e=>e) (.bot _))),];have e:=show _=b from I;subst e
 induction a with
 |true=>exactλF Z s d st=>U6 ⟨F,true,o,.refl _,rfl,st,C⟩
 |false=>exact T.low C (.bot _)
def G8(h:EV g A env e c (λv o=>iF g A env RB truthy v o Q E) E)
 (C:isTrue e env (eval e env)=(do let v<-eval e env;standAt e.pos;holding [v] (truthy v)):=by rfl):TS g A env e c Q E:=
 T.of_eq C (T.bind (T.mono h (λx o I J a b U=>T.at (T.hold (I J a U))) λ_ _ e=>e))
def LK(h:TS g A env t c (λx C=>match x with|true=>EV g A env b C Q E|false=>EV g A env o C Q E) E):EV g A env (.IfExp t b o pos) c Q E:=by
 rw[T.of_eq (t':=do if<-isTrue t env (eval t env) then eval b env else eval o env) rfl (T.bind (T.mono h (λx C I d a f J=>?_) λ_ _ e=>e)),];have e:=show _=x from J;subst e
 induction a with
 |true=>exact T.low I (.bot _)
 |false=>exact T.low I (.bot _)
def vO(h:EV g A env x c (λv C=>iF g A env RB truthy v C (λb o=>match b with|false=>Q v o|true=>EV g A env y o Q E) E) E):
 EV g A env (.BoolOp .And [x,y] pos) c Q E:=by
 refine T.of_eq (t':=do let v<-eval x env;standAt pos;let t<-holding [v] (truthy v);match BoolOp.And,t with|.And,false|.Or,true=>pure v|_,_=>eval y env) rfl
  (T.bind (T.mono h (λv C U d a m I=>T.at (T.bind (T.hold (T.mono (U d a I) (λb o J n f i j=>?_) λ_ _ e=>e)))) λ_ _ e=>e))
 have e:=show _=b from j;subst e
 induction f with
 |false=>exactλF Z s k st=>U6 ⟨F,v,o,.refl _,I.mono (i.trans k),st,J⟩
 |true=>exact T.low J (.bot _)
def G9(h:EV g A env x c (λv C=>iF g A env RB truthy v C (λb o=>match b with|true=>Q v o|false=>EV g A env y o Q E) E) E):
 EV g A env (.BoolOp .Or [x,y] pos) c Q E:=by
 refine T.of_eq (t':=do let v<-eval x env;standAt pos;let t<-holding [v] (truthy v);match BoolOp.Or,t with|.And,false|.Or,true=>pure v|_,_=>eval y env) rfl
  (T.bind (T.mono h (λv C U d a m I=>T.at (T.bind (T.hold (T.mono (U d a I) (λb o J n f i j=>?_) λ_ _ e=>e)))) λ_ _ e=>e))
 have e:=show _=b from j;subst e
 induction f with
 |true=>exactλF Z s k st=>U6 ⟨F,v,o,.refl _,I.mono (i.trans k),st,J⟩
 |false=>exact T.low J (.bot _)
def vP(h:EV g A env C c (λx I=>iF g A env Is (λo=>getAttr o attr true) x I Q E) E)
 (J:attributeBase C attr env (eval C env)=eval C env:=by with_unfolding_all rfl):EV g A env (.Attribute C attr pos) c Q E:=by
 rw[T.of_eq (arm_eval_Attribute ..) ?_,[J],T.bind (T.mono h (λx I U d a m f=>T.at (T.bind (T.hold (T.mono (U d a f) (λy i j n b p k=>?_) λ_ _ e=>e)))) λ_ _ e=>e),λF Z s l st=>U0 (wpAny_letTemporaryGo (U6 ⟨F,y,i,.refl _,k.mono l,st,j⟩)),]
def iY(h:EV g A env C c (λx I=>EV g A env slice I (λy J=>bN g A env Is (subscriptTail C slice) x y J Q E) E) E):
 EV g A env (.Subscript C slice pos) c Q E:=by
 rw[T.of_eq (t':=do let o<-eval C env;let i<-holding [o] (eval slice env);standAt pos;subscriptTail C slice o i) rfl<|T.bind (T.mono h (λx I U n a p d=>T.bind (T.hold (T.low (T.mono U (λy J f j b k l=>T.at (f j a b (d.mono k) l)) λ_ _ e=>e) (.bot _)))) λ_ _ e=>e),]
abbrev AR(g:G0)(A:Around)(env:Env)(pos:Pos)(es:List Expr)(c:CS)(Q:List V->CS->Prop)(E:V->CS->Prop):Prop:=T g A env IsL bot (spliced (backTo pos (starEach es env))) c Q E
def pQ(h:Q [] c):AR g A env pos [] c Q E:=λF Z s o st=>U6 ⟨F,[],c,.refl _,rfl,st,h⟩
def jj(h:EV g A env e c (λx j=>AR g A env pos es j (λl C=>Q (x::l) C) E) E)
 (n:backTo pos (starEach (e::es) env)=(false,eval e env)::backTo pos (starEach es env):=by rfl):AR g A env pos (e::es) c Q E:=λF Z s f st=>by
 rw[[n],Calls.spliced_cons (T.run h f st (λq a x j r k p i f=>T.run f (.bot _) i (λJ b l C m I U o d=>⟨J,x::l,C,k.trans I,.cons (p.mono I) U,o,d⟩) ?_) ?_),]
 ·exactλJ b l C m I U o d=>⟨J,l,C,k.trans I,U,o,d⟩
 ·exactλJ b l C m I U o d=>⟨J,l,C,I,U,o,d⟩
def zo(h:AR g A env pos es c (λl C=>l.length<=100000/\Q (.tup l) C) E):EV g A env (.Tuple es k pos) c Q E:=λF Z s o st=>by
 rw[Tuple_ (T.run h o st (λq a x C r e U I o=>?_) ?_),]
 ·rw[aV (I.iD (cT a.toArray 0) rfl) λd f=>Wf ⟨_,.tup x,C,e.trans d,⟨_,_,a.toArray,0,rfl,ai.ae ..,rfl,rfl,by simpa using U.mono d⟩,f,o.2⟩ (by rw[5 (a.toArray.size<=sizeLine),[Xe,U.length],U3 o.1 (U4 ..),]),]
 ·exactλi b l j t m n J p=>⟨i,l,j,m,n,J,p⟩
def CU(t:Tag)(h:AR g A env pos es c (λl C=>l.length<=100000/\∀a,C.σ a=none->Q (.loc a) ⟨C.m,C.σ.set a ⟨t,.list l⟩⟩) E):EV g A env (.List es pos) c Q E:=λF Z s I st=>by
 rw[List_ (T.run h I st (λn a x C p U d o I=>?_) ?_),]
 ·have q:=o.c9 (bM a.toArray 0) (y:=⟨t,.list x⟩) ⟨_,_,rfl,by trivial⟩
  rw[Wf ⟨_,.loc _,_,U,rfl,q,I.2 _ o.fresh.2.2⟩ (by rw[5 (a.toArray.size<=sizeLine),[Xe,d.length],U3 I.1 (U4 ..),]),]
 ·exactλe b l f r i j J k=>⟨e,l,f,i,j,J,k⟩
end
namespace St
variable{g:G0}{ff:Option (List Env)}{env:Env}{F Z:ai}{c:CS}{s:Shared}
def ext(x:St g ff env F Z c s)(hs:Heap.ExtBut a s.heap h')(d:F a=none)(j:Z a=none)(J:c.σ a=none)(C:∀b∈aU env,b≠a)(tk:Nat):
 St g ff env F Z c {s with heap:=h',toks:=tk} where
 gens:=x.gens
 gF:=x.gF
 base:=x.base
 fr b ob e:=hs b ob (λq=>by rw[q,d] at e;rw[7 e,]) (x.fr b ob e)
 zr b ob e:=jY (x.zr b ob e) λU B=>hs b U (λq=>by rw[q,j] at e;rw[7 e,]) B
 obj b y e:=by rw[ah (x.obj b y e) λob h1 h2=>⟨ob,hs b ob (λq=>by rw[q,J] at e;rw[7 e,]) h1,h2⟩,]
 fD:=x.fD
 d6:=x.d6
 ZF:=x.ZF
 own:=x.own
 cq:=x.cq
 live b hb:=let⟨ob,h⟩:=x.live b hb;⟨ob,hs b ob (C b hb) h⟩
 ns:=let⟨D,⟨o,G,H,h1,h2⟩,L⟩:=x.ns;⟨D,⟨o,G,H,hs _ o (C _ (.head _)) h1,h2⟩,L⟩
 cell n b h1 h2:=let⟨v,⟨o,M,P⟩,Q⟩:=x.cell n b h1 h2;⟨v,⟨o,hs _ o (C _ (fh h1 h2)) M,P⟩,Q⟩
 bx:=x.bx
 fz:=x.fz
def jk(x:St g ff env F Z c s)(hs:Heap.ExtBut s.heap.objs.size s.heap h')(tk:Nat):St g ff env F Z c {s with heap:=h',toks:=tk}:=
 x.ext hs x.fresh.1 x.fresh.2.1 x.fresh.2.2 x.di tk
def setCell(x:St g ff env F Z c s)(j:env.kindOf n=some .cell)(hc:env.cells.lookup n=some a)(P:Is F X v)(hs:Heap.SameBut a s.heap h')
 (hn:h'.IsCell a (some v)) (tk:Nat):St g ff env F Z ⟨(n,X)::c.m,c.σ⟩ {s with heap:=h',toks:=tk}:=by
 refine x.zj (fh hc j) hs (let⟨o,ho,_⟩:=hn;⟨o,ho⟩) tk ?_ (λy b hb C=>?_) (λy C=>by
  have q:y≠n:=λq=>by rw[q,j] at C;injection C with B;rw[7 B,]
  rw[dj,U8 q])
 ·rw[ah x.ns λQ h1 h2=>⟨Q,h1.sameBut hs (Ne.symm (x.jZ hc j)),λy Y C e=>h2 y Y C ?_⟩,]
  have q:y≠n:=λq=>by rw[q,j] at C;injection C with D;rw[7 D,]
  rw[dj,U8 q] at e;rw[e,]
 ·by_cases q:y=n
  ·subst q
   rw[hc] at hb;rw[1 hb,⟨_,hn,λY e=>?_⟩,];rw[dj] at e;simp at e;rw[8 e,⟨v,rfl,P⟩,]
  ·rw[ah (x.cell y b hb C) λu R S=>?_,]
   have H:b≠a:=by
    intro e;subst e;have:=x.cq;simp only[aU,VX] at this;have L:=this.2;have W:(y,b)∈env.cells.filter λp=>env.kindOf p.1==some .cell:=VS.mpr ⟨mem_of_lookup hb,by rw[Wb.mpr ‹_›,]⟩;have e2:(n,b)∈env.cells.filter λp=>env.kindOf p.1==some .cell:=VS.mpr ⟨mem_of_lookup hc,by rw[Wb.mpr ‹_›,]⟩;have key:∀(l:List (Str×Addr)),(l.map (·.2)).Nodup->(y,b)∈l->(n,b)∈l->y=n:=by
     intro l
     induction l with
     |nil=>intro _ h;cases h
     |cons p r ih=>
      intro J m1 m2;rw[VI,VX] at J;rcases Vc.mp m1 with d|d<;>rcases Vc.mp m2 with U|U
      ·rw[<-d] at U;injection U with M _;rw[3 M,];rfl
      ·rw[U9 (Vn.mpr ⟨_,U,rfl⟩) (by rw[<-d] at J;rw[J.1,]),]
      ·rw[U9 (Vn.mpr ⟨_,d,rfl⟩) (by rw[<-U] at J;rw[J.1,]),]
      ·rw[ih J.2 d U,]
    rw[q (key _ L W e2),]
   rw[⟨u,R.sameBut hs H,λY e=>S Y ?_⟩,];rw[dj,U8 q] at e;rw[e,]
end St
inductive CF where
 |next|brk|cont|ret (v:V)
noncomputable abbrev CF.ctorIdx(v:CF):Nat:=v.casesOn 0 1 2 λ_=>3
noncomputable def RF(F:ai):CF->Flow->Prop
 |.next,f=>f=.next
 |.brk,f=>f=.brk
 |.cont,f=>f=.cont
 |.ret X,f=>∃v,f=.ret v/\Is F X v
noncomputable def RU:ai->Unit->Unit->Prop:=λ_ _ _=>True
abbrev EX(g:G0)(A:Around)(env:Env)(l:List Stmt)(c:CS)(Q:CF->CS->Prop)(E:V->CS->Prop):Prop:=T g A env RF bot (execs l env) c Q E
abbrev iZ(g:G0)(A:Around)(env:Env)(l:Stmt)(c:CS)(Q:CF->CS->Prop)(E:V->CS->Prop):Prop:=T g A env RF bot (exec l env) c Q E
def As(g:G0)(A:Around)(env:Env)(t:Expr)(X:V)(c:CS)(Q:CS->Prop)(E:V->CS->Prop):Prop:=iF g A env RU (assign t env) X c (λ_ o=>Q o) E
section
variable{g:G0}{A:Around}{env:Env}{F₀:ai}{c:CS}{E:V->CS->Prop}{Q:CF->CS->Prop}
def zp(h:Q .next c):EX g A env [] c Q E:=λF Z s o st=>U6 ⟨F,.next,c,.refl _,rfl,st,h⟩
def pR(h:iZ g A env t c (λf o=>match f with|.next=>EX g A env r o Q E|f=>Q f o) E):EX g A env (t::r) c Q E:=by
 rw[T.of_eq (execs_cons ..) (T.bind (T.mono h (λf o I d a i C=>?_) λ_ _ e=>e)),]
 induction f with
 |next=>cases(show a=.next from C);exact T.low I (.bot _)
 |brk=>cases(show a=.brk from C);exactλF Z s J st=>U6 ⟨F,.brk,o,.refl _,rfl,st,I⟩
 |cont=>cases(show a=.cont from C);exactλF Z s J st=>U6 ⟨F,.cont,o,.refl _,rfl,st,I⟩
 |ret X=>refine ah C λv U b=>?_;rw[0 C,3 U,λF Z s J st=>U6 ⟨F,.ret X,o,.refl _,⟨v,rfl,b.mono J⟩,st,I⟩,]
def pS(h:iZ g A env t c Q E):EX g A env [t] c Q E:=pR (T.mono h (λf C o=>by induction f<;>first|exact zp o|exact o) λ_ _ e=>e)
def CV(h:Q .next c):iZ g A env (.Pass pos) c Q E:=λF Z s o st=>wpAny_Pass ⟨F,.next,c,.refl _,rfl,st,h⟩
def zq(h:EV g A env e c (λv C=>Q (.ret v) C) E):iZ g A env (.Return (some e) pos) c Q E:=λF Z s I st=>
 wpAny_Return_some (T.run h I st (λJ a x C d U b o I=>⟨J,.ret x,C,U,⟨a,rfl,b⟩,o,I⟩) (λJ a x C d U b o I=>⟨J,x,C,U,b,o,I⟩))
def CX(h:Q (.ret .none) c):iZ g A env (.Return none pos) c Q E:=λF Z s o st=>
 wpAny_Return_none ⟨F,.ret .none,c,.refl _,⟨_,rfl,rfl⟩,st,h⟩
def LL(h:TS g A env t c (λx C=>match x with|true=>EX g A env b C Q E|false=>EX g A env o C Q E) E):iZ g A env (.If t b o pos) c Q E:=by
 rw[T.of_eq (exec_If ..) (T.at (T.bind (T.mono h (λx C I U a d J=>?_) λ_ _ e=>e))),];have e:=show _=x from J;subst e
 induction a with
 |true=>exact T.low I (.bot _)
 |false=>exact T.low I (.bot _)
def CY(h:EV g A env (.Call f args o p) c (λv C=>Q .next C) E)(hi:interactive env=false):iZ g A env (.Expr (.Call f args o p) pos) c Q E:=by
 have I:exec (.Expr (.Call f args o p) pos) env=(do
  standAt pos
  if interactive env then printExpr (eval (.Call f args o p) env)
  else do dropValue (.Call f args o p) pos (<-eval (.Call f args o p) env)):=rfl
 rw[hi] at I;rw[T.of_eq I (T.at ?_),T.of_eq (t':=do dropValue (.Call f args o p) pos (<-eval (.Call f args o p) env)) rfl (T.bind (T.mono h (λx C J b a d i F Z s j st=>?_) λ_ _ e=>e)),];have fin:wpAny (model P0 g.w) A (Pure.pure Flow.next) (PT g A.frames env RF F Z Q) (PT g A.frames env Is F Z E) s:=
  U6 ⟨F,.next,C,.refl _,rfl,st,J⟩
 induction a<;>first|exact fin|exact U0 (W0 (U0 (wpAny_runValue (X4 entry_let_go (show wpAny _ _ (ret .none) _ _ s from U6 fin)))))
def ik(h:EV g A env o c (λv C=>As g A env t v C (Q .next) E) E)
 (J:assignEach [t] env=[(false,assign t env)]:=by rfl)
 (hs:swapsWithSole [t] o pos.line env=pure false:=by rfl) (U:swappedStores [t] o env=pure none:=by rfl):iZ g A env (.Assign [t] o pos) c Q E:=by
 have I:exec (.Assign [t] o pos) env=(do
  standAt pos
  if<-swapsWithSole [t] o pos.line env then do
   evalThenUse o env λv=>assignAll v ((assignEach [t] env).map (·.2))
   pure .next
  else do
   let v<-eval o env
   assignStores env v (<-swappedStores [t] o env) ((assignEach [t] env).map (·.2))):=rfl
 rw[hs,U,J] at I;rw[T.of_eq I (T.at ?_),T.of_eq (t':=do let v<-eval o env;assign t env v;pure .next) rfl (T.bind (T.mono h (λx C d f a m i=>?_) λ_ _ e=>e)),T.bind (T.mono (d f a i) (λ_ j k n b p q=>?_) λ_ _ e=>e),λF Z s r st=>U6 ⟨F,.next,j,.refl _,rfl,st,k⟩,]
def CZ{h:Heap}{a:Addr}{m C:Str->Option Value}(x:h.Ns a m)(y:h.Ns a C):m=C:=kG x λo U b p=>kG y λd I J q=>by have e:=p.2.1.symm.trans ((Ve Obj.data (VW (p.1.symm.trans q.1))).trans q.2.1);injection e with e;rw[funext λn=>(p.2.2.2 n).symm.trans ((Ve (nsFind · n) e).trans (q.2.2.2 n)),]
def o7{F Z:ai}{s:Shared}{x:Str}{X:V}{v:Value}{M:Model}{I:Around}{J:Value->Shared->Prop}{Q:Unit->Shared->Prop}(U:bV env)(o:env.kindOf x=some .local)(st:St g A.frames env F Z c s)(a:Is F X v)
 (h:∀C,St g A.frames env F Z ⟨(x,X)::c.m,c.σ⟩ C->Q () C):wpAny M I (storeName env x v) Q J s:=
 aw st.ns λi q=>wpAny_storeName_local o q.1 (λj b d=>h _ (st.GZ o a d (λe f=>CZ q.1 f▸b) _)) (by rw[U.kind];rfl)
def rJ{x:Str}{X:V}{v:Value}{Q:Unit->CS->Prop}(C:env.kindOf x=some .local)(I:Is F₀ X v)(J:bV env)(h:Q () ⟨(x,X)::c.m,c.σ⟩):T g A env RU F₀ (bindName env x v) c Q E:=λF Z s U st=>
 wpAny_bindName (o7 J C st (I.mono U) λa o=>⟨F,(),_,.refl _,trivial,o,h⟩)
def pT{x:Str}{pos:Pos}{X:V}{Q:CS->Prop}(o:bV env)(C:env.kindOf x=some .local)(h:Q ⟨(x,X)::c.m,c.σ⟩):As g A env (.Name x pos) X c Q E:=λF₀ v I=>T.at (f:=λ_=>bindName env x v) (rJ C I o h)
def C0{x:Str}{pos:Pos}{X:V}{a:Addr}{Q:CS->Prop}(I:bV env)(o:env.kindOf x=some .cell)(C:env.cells.lookup x=some a)(h:Q ⟨(x,X)::c.m,c.σ⟩):As g A env (.Name x pos) X c Q E:=λF₀ v J F Z s U st=>by rw[5 (wpAny _ _ (standAt pos>>=λ_=>bindName env x v) ..),ah (st.cell x a C o) λu b f=>U0 (W0 (wpAny_bindName (wpAny_storeName_cell I.kind o C b (λi d e=>⟨F,(),_,.refl _,trivial,st.setCell o C (J.mono U) e d _,h⟩)))),]
def T.rel{vs keep:List Value}{Q:Unit->CS->Prop}(h:Q () c):T g A env RU F₀ (PySem.release vs keep) c Q E:=λF Z s C st I p o=>by rw[[Sem.wp_release],⟨F,(),c,.refl _,trivial,st,h⟩,]
def pU{o:Expr}{attr:Str}{pos:Pos}{X:V}{Q:CS->Prop}(h:EV g A env o c (λJ C=>bN g A env RU (λo v=>setAttr o attr v) J X C (λ_ I=>Q I) E) E):As g A env (.Attribute o attr pos) X c Q E:=λF₀ v U=>
 T.of_eq (assign_Attribute ..) (T.bind (T.hold (T.low (T.mono h (λx C d f a i j=>T.at (T.bind (T.hold (T.mono (d f a v j (U.mono i)) (λ_ I k l b m n=>T.rel k) λ_ _ e=>e)))) λ_ _ e=>e) (.bot _))))
def n7(o i:Expr)(pos:Pos)(v:Value):∃ks:Value->Value->List Value,assign (.Subscript o i pos) env v=(do
 let C<-holding [v] (eval o env);let I<-holding [v,C] (eval i env)
 standAt pos
 holding [v,C,I] (setItem C I v)
 PySem.release (ks C I) []):=⟨λC I=>match i with|.Slice _ _ none _=>[I,v,C]|_=>[v,C,I],rfl⟩
def G'{o i:Expr}{pos:Pos}{X:V}{Q:CS->Prop}(h:EV g A env o c (λf J=>EV g A env i J (λI C=>Cf g A env RU setItem f I X C (λ_ C=>Q C) E) E) E):As g A env (.Subscript o i pos) X c Q E:=λF₀ v I=>by
 refine aw (n7 (env:=env) o i pos v) λq e=>T.of_eq e
  (T.bind (T.hold (T.low (T.mono h (λx J j r a k l=>T.bind (T.hold (T.low (T.mono j (λy C m n b U d=>
   T.at (T.bind (T.hold (T.mono (m n a b v (l.mono U) d (I.mono (k.trans U))) (λ_ t p u b w d=>T.rel p) λ_ _ e=>e)))) λ_ _ e=>e) (.bot _)))) λ_ _ e=>e) (.bot _))))
noncomputable def zt(g:G0)(A:Around)(env:Env):List Expr->List V->CS->(CS->Prop)->(V->CS->Prop)->Prop
 |[],[],c,Q,_=>Q c
 |t::o,X::C,c,Q,E=>As g A env t X c (λI=>zt g A env o C I Q E) E
 |_,_,_,_,_=>False
def j1(o:∀e p,t≠.Starred e p):assignEach (t::C) env=(false,assign t env)::assignEach C env:=by induction t using PySem.Expr.casesOn<;>first|rfl|exact U9 rfl (o _ _)
def zt.run:∀{o:List V} {c:CS} {Q:CS->Prop} {F₀:ai} {vs:List Value},(∀t∈C,∀e p,t≠.Starred e p)->zt g A env C o c Q E->IsL F₀ o vs->
 T g A env RU F₀ (assignInOrder ((assignEach C env).map (·.2)) vs) c (λ_=>Q) E:=by
 induction C with
 |nil=>
  rw[λ{o c Q F₀ vs} I h J=>?_,]
  induction o using List.casesOn with
  |nil=>exact(show vs=[] from J)▸λF Z s U st=>U6 ⟨F,(),c,.refl _,trivial,st,h⟩
  |cons _ _=>exact h.elim
 |cons t C b=>
  rw[λ{o c Q F₀ vs} I h J=>?_,]
  induction o using List.casesOn with
  |nil=>exact h.elim
  |cons X o=>
   rw[dh J λv r q=>?_,[q.1,j1 (I _ (.head _))],T.bind (T.hold (T.mono (h F₀ v q.2.1) (λ_ i U j a d k=>b (λt f=>I t (.tail _ f)) U (q.2.2.mono d)) λ_ _ e=>e)),]
def Ha{C:List Expr}{k:Nat}{pos:Pos}{U:List V}{Q:CS->Prop}(l:A.handled=none)(m:C.length=U.length)(h:zt g A env C U c Q E)
 (q:(assignEach C env).length=C.length:=by rfl) (I:(assignEach C env).findIdx? (·.1)=none:=by rfl) (r:∀t∈C,∀e p,t≠.Starred e p:=by simp):
 As g A env (.Tuple C k pos) (.tup U) c Q E:=λF₀ v f F Z s i st=>by
 rw[iU f λa o u n J w x y j=>?_,0 f,3 J,assign_Tuple_tuple (items:=u) l ⟨_,st.fr _ _ (i _ _ w),Ve Obj.cls x,n,y⟩ ?_ I λz d=>?_,]
 ·rw[q,m,<-j.length];simp
 ·rw[zt.run r h j F Z _ i (st.jk d _),]
end
def o4.C1:∀{x:OK} {o:Obj},o4 w F x o->∀v,o.data≠.cell v
 :=λ{x o} e v q=>by
  induction x with
  |list _=>refine dr e λj n d a=>?_;rw[0 e,3 d,];injection q
  |ns _=>refine dr e λj n f a=>?_;rw[0 e,3 f,];injection q
  |inst _ _=>cases e;injection q
  |dA _=>refine ah e λh a I=>cp I λk l m i r=>?_;clear e I;rw[i] at q;injection q
  |dT _=>refine ah e λh a C=>cp C λk l m i r=>?_;clear e C;rw[i] at q;injection q
  |set _=>refine jW e λ_ _ _ _ J _=>?_;rw[0 e,3 J,];injection q
  |exc _ _ _=>refine ah e λ_ U _=>?_;rw[0 e,3 U,];injection q
  |lA _=>refine ah e λ_ b _=>?_;rw[0 e,3 b,];injection q
  |gen _=>exact e.2.2 v q
namespace St
variable{g:G0}{ff:Option (List Env)}{env:Env}{F Z:ai}{c:CS}{s:Shared}
def C2(I:h.get? a=some o)(hf:a∉eG ff)(e:Z.set a o b=some C)(k:Z b=some C->kH ff b C h):kH ff b C h:=by
 by_cases q:b=a
 ·subst q;simp at e;subst e
  rw[2 kH,[U8 hf],I,]
 ·rw[k (by simpa[ai.set,q] using e),]
def zu(x:St g ff env F Z c s)(y:s.heap.get? a=some o)(U:a∉eG ff)(B:F a=none)(j:Z a=none)(d:c.σ a=none)(C:∀b∈aU env,b≠a):St g ff env F (Z.set a o) c s where
 gens:=x.gens
 gF:=x.gF
 base:=x.base
 fr:=x.fr
 zr b ob e:=C2 y U e (x.zr b ob)
 obj:=x.obj
 fD:=x.fD
 d6 b z e:=by
  by_cases q:b=a
  ·subst q;rw[d] at e;rw[7 e,]
  ·simpa[ai.set,q] using x.d6 b z e
 ZF b ob e:=by
  by_cases q:b=a
  ·rw[8 q,B,]
  ·rw[x.ZF b ob (by simpa[ai.set,q] using e),]
 own b hb:=⟨(x.own b hb).1,by simpa[ai.set,C b hb] using(x.own b hb).2.1,(x.own b hb).2.2⟩
 cq:=x.cq
 live:=x.live
 ns:=x.ns
 cell:=x.cell
 bx n b h1 h2 X e:=let⟨ob,v,q0,J⟩:=x.bx n b h1 h2 X e;⟨ob,v,q0.imp (λq=>by
  by_cases hb:b=a
  ·subst hb;rw[j] at q;rw[7 q,]
  ·simpa[ai.set,hb] using q) id,J⟩
 fz l hl e D:=let⟨k,L,h1,h2⟩:=x.fz l hl e D;⟨k,L,h1,h2.imp id λ⟨ob,J,G⟩=>⟨ob,by
  by_cases hb:L=a
  ·subst hb;rw[j] at J;rw[7 J,]
  ·simpa[ai.set,hb] using J,G⟩⟩
def hide(x:St g ff env F Z c s)(C:c.σ a=some y):∃o,s.heap.get? a=some o/\o4 g.w F y.k o/\Z a=none/\a∉eG ff/\St g ff env F (Z.set a o) ⟨c.m,c.σ.del a⟩ s:=by
 rw[ah (x.obj _ _ C) λo I J=>⟨o,I,J,x.d6 _ _ C,x.mA C,?_⟩,];have y:=x.iE (σ:=c.σ.del a) λb z e=>by
  by_cases q:b=a
  ·subst q;simp at e
  ·rw[ak.aR _ q] at e;exact⟨z.t,e⟩
 rw[y.zu I (x.mA C) (x.fD _ _ C) (x.d6 _ _ C) (Vb rfl) (x.o5 C),]
def ua(x:St g ff env F (Z.set a o) c s)(U:Z a=none)(hf:a∉eG ff)(d:o4 g.w F y.k o):St g ff env F Z ⟨c.m,c.σ.set a y⟩ s:=by
 have B:s.heap.get? a=some o:=by
  have:=x.zr a o (Vb rfl);unfold kH at this
  rwa [U8 hf] at this
 have j:F a=none:=x.ZF a o (Vb rfl);have C:∀b∈aU env,b≠a:=λb hb e=>by have:=(x.own b hb).2.1;rw[e] at this;simp at this
 have D:c.σ a=none:=by
  cases e:c.σ a with
  |none=>rfl
  |some z=>have:=x.d6 a z e;simp at this
 have G:St g ff env F Z c s:=
  {gens:=x.gens
   gF:=x.gF
   base:=x.base
   fr:=x.fr
   zr:=λb o e=>x.zr b o (by
    by_cases q:b=a
    ·subst q;rw[U] at e;rw[7 e,]
    ·simpa[ai.set,q] using e)
   obj:=x.obj
   fD:=x.fD
   d6:=λb z e=>by
    by_cases q:b=a
    ·rw[8 q,U,]
    ·simpa[ai.set,q] using x.d6 b z e
   ZF:=λb o e=>x.ZF b o (by
    by_cases q:b=a
    ·subst q;rw[U] at e;rw[7 e,]
    ·simpa[ai.set,q] using e)
   own:=λb hb=>⟨(x.own b hb).1,by simpa[ai.set,C b hb] using(x.own b hb).2.1,(x.own b hb).2.2⟩
   cq:=x.cq
   live:=x.live
   ns:=x.ns
   cell:=x.cell
   bx:=λn b h1 h2 X e=>by
    rw[iz (x.bx n b h1 h2 X e) λob v q0 q1 q2 H=>?_,];have hb:b≠a:=λq=>by
     subst q;rcases q0 with q0|q0
     ·simp at q0;rw[8 q0,d.C1 _ q2,]
     ·rw[j] at q0;rw[7 q0,]
    exact⟨ob,v,q0.imp (λq=>by simpa[ai.set,hb] using q) id,q1,q2,H⟩
   fz:=λl hl e he=>by rw[aV (x.fz l hl e he) λk J=>ah J λL h1 h2=>?_,0 J,];have hb:L≠a:=λq=>hf (by unfold eG;rw[hl,<-q];rw[Xn.mpr ⟨e,he,h1⟩,]);exact⟨k,L,h1,h2.imp id λ⟨ob,q1,q2⟩=>⟨ob,by simpa[ai.set,hb] using q1,q2⟩⟩}
 rw[G.gO B d j U C,]
def zv{Z':ai}(x:St g ff env F Z c s){U:List Addr}{h':Heap}(d:∀b o,b∉U->s.heap.get? b=some o->h'.get? b=some o)(j:∀b∈U,F b=none/\c.σ b=none/\b∉aU env)
 (hz:∀b o,Z' b=some o->kH ff b o h'/\F b=none/\c.σ b=none/\b∉aU env) (G:∀b o,b∉U->Z b=some o->Z' b=some o) (D:∀b∈U,b∉eG ff)
 (C:∀b∈U,∀o,Z b=some o->∀v,o.data≠.cell v) (tk:Nat):St g ff env F Z' c {s with heap:=h',toks:=tk} where
 gens:=x.gens
 gF:=x.gF
 base:=x.base
 fr b ob e:=d b ob (λq=>by rw[(j b q).1] at e;rw[7 e,]) (x.fr b ob e)
 zr b ob e:=(hz b ob e).1
 obj b y e:=by rw[ah (x.obj b y e) λob h1 h2=>⟨ob,d b ob (λq=>by rw[(j b q).2.1] at e;rw[7 e,]) h1,h2⟩,]
 fD:=x.fD
 d6 b y e:=by
  cases q:Z' b with
  |none=>rfl
  |some o=>have:=(hz b o q).2.2.1;rw[e] at this;rw[7 this,]
 ZF b o e:=(hz b o e).2.1
 own b hb:=⟨(x.own b hb).1,by
  cases q:Z' b with
  |none=>rfl
  |some o=>exact U9 hb (hz b o q).2.2.2,(x.own b hb).2.2⟩
 cq:=x.cq
 live b hb:=let⟨ob,h⟩:=x.live b hb;⟨ob,d b ob (λq=>(j b q).2.2 hb) h⟩
 ns:=let⟨M,⟨o,P,Q,h1,h2⟩,R⟩:=x.ns;⟨M,⟨o,P,Q,d _ o (λq=>(j _ q).2.2 (.head _)) h1,h2⟩,R⟩
 cell n b h1 h2:=let⟨v,⟨o,B,J⟩,S⟩:=x.cell n b h1 h2;⟨v,⟨o,d _ o (λq=>(j _ q).2.2 (fh h1 h2)) B,J⟩,S⟩
 bx n b h1 h2 X e:=let⟨ob,v,q0,B,J,W⟩:=x.bx n b h1 h2 X e;⟨ob,v,q0.imp (λq=>G b ob (λhb=>C b hb ob q _ J) q) id,B,J,W⟩
 fz l hl e H:=let⟨k,L,h1,h2⟩:=x.fz l hl e H;⟨k,L,h1,h2.imp id λ⟨ob,B,J⟩=>⟨ob,G L ob (λq=>D L q (by rw[2 eG,[hl],Xn.mpr ⟨e,H,h1⟩,])) B,J⟩⟩
end St
def Got(F:ai)(h h':Heap)(X:V)(v:Value):Prop:=Is F X v\/∃T o n C,v=.ref T/\h.objs.size<=T/\h'.get? T=some (cT o n)/\X=.tup C/\IsL F C o.toList
structure dv(g:G0)(A:Around)(target:Expr)(I:Addr)(fp wr:List Addr)(F:ai)(l:List V)(S:Nat->Heap->Prop):Prop where
 sub:∀b∈wr,b∈fp
 live:∀i h,S i h->∀b∈fp,∃o,h.get? b=some o
 mC:∀i h,S i h->∀b∈wr,∀o,h.get? b=some o->∀v,o.data≠.cell v
 frame:∀i h h',S i h->(∀b∈fp,∀o,h.get? b=some o->h'.get? b=some o)->S i h'
 item:∀i X (s:Shared) (Q:Value->Shared->Prop) (E:Value->Shared->Prop),l[i]?=some X->S i s.heap->
  (∀v h' tk,Got F s.heap h' X v->S (i+1) h'->(∀b o,b∉wr->s.heap.get? b=some o->h'.get? b=some o)->Q v {s with heap:=h',toks:=tk})->
  wpAny (model P0 g.w) A (pyNext (.ref I)) (λr zw=>∃v,r=some v/\wpAny (model P0 g.w) A (letOwnedTupleGo target (.ref I) v) (λ_ LM=>Q v LM) E zw) E s
 done:∀(s:Shared) (Q:Option Value->Shared->Prop) (E:Value->Shared->Prop),S l.length s.heap->
  (∀h' tk,(∀b o,b∉wr->s.heap.get? b=some o->h'.get? b=some o)->Q none {s with heap:=h',toks:=tk})->wpAny (model P0 g.w) A (pyNext (.ref I)) Q E s
 self:∀i (s:Shared) (Q:Value->Shared->Prop) (E:Value->Shared->Prop),S i s.heap->Q (.ref I) s->wpAny (model P0 g.w) A (pyIter (.ref I)) Q E s
noncomputable def iA:V->CS->Prop:=λ_ _=>False
noncomputable def jl:Value->Shared->Prop:=λ_ _=>False
structure Zi(ff:Option (List Env))(wr:List Addr)(Z Z':ai):Prop where
 off:∀b,b∉wr->Z' b=Z b
 on:∀b∈wr,∃o,Z' b=some o
 fr:∀b∈wr,b∉eG ff
 none:∀b∈wr,Z b=none
def eN(st:St g ff env F Z c s)(h:Z b=some o)(hf:b∉eG ff):s.heap.get? b=some o:=by
 have:=st.zr b o h;unfold kH at this
 rwa [U8 hf] at this
def Zi.wr{g:G0}{ff:Option (List Env)}{env:Env}{F Z Z':ai}{c:CS}{s:Shared}{wr:List Addr}(z:Zi ff wr Z Z')(st:St g ff env F Z' c s):∀b∈wr,F b=.none/\c.σ b=.none/\b∉aU env:=λb I=>by
 rw[aw (z.on b I) λo C=>⟨st.ZF b o C,?_,λq=>?_⟩,]
 ·cases e:c.σ b with
  |none=>rfl
  |some y=>have:=st.d6 b y e;rw[C] at this;rw[7 this,]
 ·have:=(st.own b q).2.1;rw[C] at this;rw[7 this,]
def St.Od(st:St g ff env F Z c s)(e:Z b=some o):F b=none/\c.σ b=none/\b∉aU env:=by
 rw[⟨st.ZF b o e,?_,λq=>?_⟩,]
 ·cases C:c.σ b with
  |none=>rfl
  |some y=>have:=st.d6 b y C;rw[e] at this;rw[7 this,]
 ·have:=(st.own b q).2.1;rw[e] at this;rw[7 this,]
def o8{g:G0}{A:Around}{env:Env}{C:Expr}{I:Addr}{R U:List Addr}{F₁:ai}{l:List V}{S:Nat->Heap->Prop}{E:Value->Shared->Prop}{X:V}
 (W:dv g A C I R U F₁ l S) {F Z a:ai} {c:CS} {s:Shared} {i:Nat} (M:c8 F₁ F) (st:St g A.frames env F a c s) (N:S i s.heap) (hz:Zi A.frames U Z a) (hi:l[i]?=some X) {Q:Value->Shared->Prop}
 (h:∀v D F' d,c8 F F'->Is F' X v->S (i+1) D.heap->St g A.frames env F' d c D->Zi A.frames U Z d->Q v D):
 wpAny (model P0 g.w) A (pyNext (.ref I)) (λr p=>∃v,r=some v/\wpAny (model P0 g.w) A (letOwnedTupleGo C (.ref I) v) (λ_ t=>Q v t) E p) E s:=by
 refine W.item i X s Q E hi N λv G Y H k P=>?_;have u:=hz.wr st;have x:=st.zv (Z':=λb=>if b∈U then G.get? b else Z b) P u (λb o e=>by
  by_cases q:b∈U
  ·simp only[q,Yc] at e
   rw[⟨?_,u b q⟩,2 kH,[U8 (hz.fr b q)],e,]
  ·simp only[q,XA] at e
   rw[<-hz.off b q] at e;exact⟨St.jY (st.zr b o e) λo e=>P b o q e,st.Od e⟩) (λb o q e=>by simp only[q,XA];rw[<-hz.off b q];rw[e,]) hz.fr (λb f o e=>W.mC _ _ N b f o (eN st e (hz.fr b f))) Y
 have z:Zi A.frames U Z (λb=>if b∈U then G.get? b else Z b):=⟨λb f=>by rw[U8 ‹_›,],λb f=>by rw[aw (W.live _ _ k b (W.sub b f)) λo L=>⟨o,by simp[f,L]⟩,],hz.fr,hz.none⟩
 rcases H with H|⟨T,j,n,Xs,rfl,hT,e,rfl,hv⟩
 ·rw[h v _ F _ (.refl _) (H.mono M) k x z,]
 ·have J:∀b,(∃o,s.heap.get? b=some o)->b≠T:=λb ⟨o,q⟩ q'=>U9 (Vq q) (by rw[[q'],VV.mpr hT,])
  have m:F T=none:=by
   cases q:F T with
   |none=>rfl
   |some o=>exact U9 rfl (J T ⟨o,st.fr _ _ q⟩)
  have B:T∉U:=λq=>by rw[aw (hz.on T q) λo L=>J T ⟨o,eN st L (hz.fr T q)⟩ rfl,]
  rw[h _ _ (F.set T (cT j n)) _ (ai.d8 m) ⟨T,_,j,n,rfl,ai.ae ..,rfl,rfl,(hv.mono M).mono (ai.d8 m)⟩ k (x.vH e m ?_ ?_ λb f=>J b (st.live b f)) z,]
  ·cases q:(if T∈U then G.get? T else Z T) with
   |none=>rfl
   |some o=>
    rw[U8 B,<-hz.off T B] at q;rw[aw (st.gM q) λo' q=>U9 rfl (J T ⟨o',q⟩),]
  ·cases q:c.σ T with
   |none=>rfl
   |some y=>refine ah (st.obj T y q) λo q _=>?_;rw[U9 rfl (J T ⟨o,q⟩),]
def o9{g:G0}{A:Around}{env:Env}{C:Expr}{I:Addr}{j U:List Addr}{F₁:ai}{l:List V}{S:Nat->Heap->Prop}{E:Value->Shared->Prop}
 (W:dv g A C I j U F₁ l S) {F Z J:ai} {c:CS} {s:Shared} (st:St g A.frames env F J c s) (a:S l.length s.heap) (hz:Zi A.frames U Z J) {Q:Option Value->Shared->Prop}
 (h:∀d,St g A.frames env F Z c d->Q none d):wpAny (model P0 g.w) A (pyNext (.ref I)) Q E s:=by
 rw[W.done s Q E a λm k f=>h _ (st.zv f (hz.wr st) (λb o e=>?_) (λb o q e=>?_) hz.fr (λb i o e=>?_) k),]
 ·by_cases q:b∈U
  ·rw[hz.none b q] at e;rw[7 e,]
  ·rw[<-hz.off b q] at e
   exact⟨St.jY (st.zr b o e) λo e=>f b o q e,st.Od e⟩
 ·rw[<-hz.off b q];rw[e,]
 ·rw[W.mC _ _ a b i o (eN st e (hz.fr b i)),]
def il
 (W:dv g A d I r f F₁ l S) (st:St g A.frames env F J c s) (a:St g A.frames env F' J x t) (u:c8 F F') (v:S i s.heap) (hz:Zi A.frames f Z J)
 (h:∀b∈r,b∉f->(∃o,F b=some o)\/(∃o,Z b=some o/\b∉eG A.frames)):S i t.heap:=by
 rw[W.frame _ _ _ v λb w o e=>?_,];by_cases q:b∈f
 ·rw[aw (hz.on b q) λj C=>?_,]
  have:=eN st C (hz.fr b q);rw[e] at this;rw[1 this,eN a C (hz.fr b q),]
 ·rcases h b w q with⟨j,C⟩|⟨j,C,p⟩
  ·have:=st.fr b j C
   rw[e] at this;rw[1 this,a.fr b o (u b o C),]
  ·have U:=(hz.off b q).trans C
   have:=eN st U p;rw[e] at this;rw[1 this,eN a U p,]
def Zi.down{g:G0}{ff:Option (List Env)}{env:Env}{F Z Z':ai}{c:CS}{s:Shared}{wr:List Addr}(z:Zi ff wr Z Z')(st:St g ff env F Z' c s)(J:∀b∈wr,∀o,Z' b=some o->∀v,o.data≠.cell v):St g ff env F Z c s:=
 {gens:=st.gens,gF:=st.gF,base:=st.base,fr:=st.fr,obj:=st.obj,fD:=st.fD,cq:=st.cq,live:=st.live,ns:=st.ns,cell:=st.cell
  zr:=λb o e=>by
   by_cases q:b∈wr
   ·rw[z.none b q] at e;rw[7 e,]
   ·rw[st.zr b o ((z.off b q).trans e),]
  d6:=λb y e=>by
   by_cases q:b∈wr
   ·rw[z.none b q,]
   ·rw[<-z.off b q];rw[st.d6 b y e,]
  ZF:=λb o e=>by
   by_cases q:b∈wr
   ·rw[z.none b q] at e;rw[7 e,]
   ·rw[st.ZF b o ((z.off b q).trans e),]
  own:=λb hb=>⟨(st.own b hb).1,by
   by_cases q:b∈wr
   ·rw[z.none b q,]
   ·rw[<-z.off b q];exact(st.own b hb).2.1,(st.own b hb).2.2⟩
  bx:=λn b h1 h2 X e=>by rw[iz (st.bx n b h1 h2 X e) λob v q0 q1 q2 U=>⟨ob,v,q0.imp (λq=>by rw[<-z.off b λhb=>J b hb ob q _ q2];rw[q,]) id,q1,q2,U⟩,]
  fz:=λl hl e he=>by rw[aV (st.fz l hl e he) λk C=>ah C λL h1 h2=>?_,0 C,];have:L∉wr:=λq=>z.fr L q (by rw[2 eG,[hl],Xn.mpr ⟨e,he,h1⟩,]);exact⟨k,L,h1,h2.imp id λ⟨ob,q1,q2⟩=>⟨ob,by rw[<-z.off L this];rw[q1,],q2⟩⟩}
structure Turn(g:G0)(A:Around)(env:Env)(F₁ Z:ai)(wr:List Addr)(S:Nat->Heap->Prop)(Inv:Nat->CS->Prop)(i:Nat)(s:Shared):Prop where
 ex:∃F pW c,c8 F₁ F/\St g A.frames env F pW c s/\Inv i c/\S i s.heap/\Zi A.frames wr Z pW
def pX{g:G0}{A:Around}{env:Env}{C:Expr}{body:List Stmt}{I:Addr}{fp y:List Addr}{F₁:ai}{l:List V}{S:Nat->Heap->Prop}{Q:Flow->Shared->Prop}{Eo:Value->Shared->Prop}
 (W:dv g A C I fp y F₁ l S) {Z:ai} {Inv:Nat->CS->Prop} {K:CF->CS->Prop} (Cg:∀b∈fp,b∉y->(∃o,F₁ b=some o)\/(∃o,Z b=some o/\b∉eG A.frames))
 (step:∀i c X,l[i]?=some X->Inv i c->As g A env C X c (λc'=>EX g A env body c' (λf H=>match f with|.next|.cont=>Inv (i+1) H|.brk=>K .next H|.ret X=>K (.ret X) H) iA) iA)
 (fin:∀c,Inv l.length c->K .next c)
 {i₀:Nat} {s:Shared} (L:i₀<=l.length) (ht:Turn g A env F₁ Z y S Inv i₀ s)
 (hQ:∀F f X c J,c8 F₁ F->RF F X f->St g A.frames env F Z c J->K X c->Q f J):
 codeAny (model P0 g.w) A (.forLoop C (.ref I) body [] env) (λr J=>match r with|.ok f=>Q f J|.error e=>Eo e J) s:=by
 rw[codeAny_loop' rfl (λm s=>∃i,i<=l.length/\m=l.length-i/\Turn g A env F₁ Z y S Inv i s) (λm s hI=>?_) (l.length-i₀) ⟨i₀,L,rfl,ht⟩,5 (wpAny _ A ((forTurn C (.ref I) body [] env).onRaise (λx=>do noteFrame x env;theTreesLotGoes x)) _ _ s),wpAny_noted ?_,];simp only[forTurn];rw[6 hI,λB=>aB λR_ Y=>bL B λi hi OZ O0=>?_,0 B,];rcases O0 with⟨F,pW,c,hF,st,D,hS,hz⟩;rw[Y ?_,0 Y R_,3 OZ,U0 (W0 (U0 (wpAny_onRaise ?_))),];by_cases LN:i=l.length
 ·subst LN
  rw[o9 W st hS hz λJ d=>U6 (.inr ⟨rfl,codeAny_block (wpAny_execs_nil (hQ F .next .next c J hF rfl d (fin c D)))⟩),]
 ·have q:=WV hi LN
  generalize UG:(notedBy (model P0 g.w) A env λe J=>Eo e J)=PE;generalize hP:(λ(fin:Fin) (J:Shared)=>_)=P;have key:∀v J N U,c8 F N->Is N l[i] v->S (i+1) J.heap->St g A.frames env N U c J->Zi A.frames y Z U->
   wpAny (model P0 g.w) A (assign C env v>>=λ_=>execs body env>>=λf=>match f with
    |.next|.cont=>again (.forLoop C (.ref I) body [] env)|.brk=>pure (.done .next)|.ret v=>pure (.done (.ret v))) P PE J:=by
   intro v J N U Fz hR C3 d h;have j:∀b∈y,∀o,U b=some o->∀v,o.data≠.cell v:=λb hb o e=>W.mC _ _ C3 b hb o (eN d e (h.fr b hb));rw[U0 (T.run (step i c _ (U' q) D N v hR) (.refl _) d (λSx _ _ c' LM f1 _ zx hx=>?_) λ_ _ _ _ _ _ _ _ e=>e.elim),U0 (T.run hx (.bot _) zx (λk f X a n f3 iX t R=>?_) λ_ _ _ _ _ _ _ _ e=>e.elim),<-Rm f1.trans f3,<-M hF.trans (Fz.trans Rm),];have Oe:∀b∈fp,b∉y->(∃o,N b=some o)\/(∃o,Z b=some o/\b∉eG A.frames):=λb hb hn=>(Cg b hb hn).imp (λ⟨o,e⟩=>⟨o,Fz b o (hF b o e)⟩) id;have on:∀{x:Prop},Inv (i+1) a->∃m,m<l.length-i/\∃i,i<=l.length/\m=l.length-i/\Turn g A env F₁ Z y S Inv i n:=λR=>
    ⟨l.length-(i+1),by rw[ax [.lt af aj,.sub aC aj (.p af aF),.sub bH aj af] (.lt aC bH) (.s 2 (.l [0,1,1,1,0,0,1]) (.l [0,1,1,0,0,0,1])) tt [_,_,_,_] q rfl rfl,],i+1,q,rfl,k,U,a,M,t,R,il W d t Rm C3 h Oe,h⟩
   induction X with
   |next=>
    cases(show f=.next from iX);rw[U6 ?_,8 hP,];exact .inl ⟨rfl,on (x:=True) R⟩
   |cont=>
    cases(show f=.cont from iX);rw[U6 ?_,8 hP,];exact .inl ⟨rfl,on (x:=True) R⟩
   |brk=>
    cases(show f=.brk from iX);rw[U6 ?_,8 hP,];exact hQ k .next .next a n M rfl (h.down t j) R
   |ret X=>
    rw[ah iX λu O1 iu=>?_,0 iX,3 O1,U6 ?_,8 hP,hQ k (.ret u) (.ret X) a n M ⟨u,rfl,iu⟩ (h.down t j) R,]
  rw[Wr (o8 (E:=jl) (Z:=Z) W hF st hS hz (U' q) (Q:=λv J=>wpAny (model P0 g.w) A _ P PE J) key) (λr zw G=>?_) λ_ _ e=>e.elim,ah G λv O2 zy=>?_,0 G,3 O2,U0 (Wr zy (λ_ _ z=>z) λ_ _ e=>e.elim),]
noncomputable def mD:List String:=["enumerate","zip","dict_itemiterator","dict_reverseitemiterator","odict_iterator","itertools.zip_longest","itertools.pairwise"]
def mE(b:s.heap.get? I=some o)(e:o.cls=.type n)
 (U:mD.contains n=false) (h:Q () s):wpAny (model P0 w) A (letOwnedTupleGo C (.ref I) v) Q E s:=by
 have J:wpAny (model P0 w) A (do
  let(.ref r,.ref a):=(Value.ref I,v)|return
  let o<-load r
  match o.cls,o.data with
  |.type n,.fields f=>
   if["enumerate","zip","dict_itemiterator","dict_reverseitemiterator","odict_iterator","itertools.zip_longest","itertools.pairwise"].contains n&&f[0]?==some (rawInt a) then
    rule "for.unpacks-the-owned-tuple"
    updateField r 0 .none
  |_,_=>pure ()) Q E s:=by
  induction v<;>first|exact U6 h|skip
  rw[U0 (wpAny_load b ?_),[e],<-U U,];generalize o.data=d
  induction d<;>first|exact U6 h|skip
  dsimp only;rw[[U],U6 h,]
 induction C using PySem.Expr.casesOn<;>first|exact U6 h|exact J
def dv.jm(W:Walks P0 g.w A I x y l.length P S)(B:∀i v X,l[i]?=some X->P i v->Is F X v)
 (C:∀i h,S i h->∀b∈x,∃o,h.get? b=some o) (j:∀i h,S i h->∀b∈y,∀o,h.get? b=some o->∀v,o.data≠.cell v) (hc:∀i h,S i h->∃o n,h.get? I=some o/\o.cls=.type n/\mD.contains n=false)
 (J:∀i (s:Shared) (Q:Value->Shared->Prop) (E:Value->Shared->Prop),S i s.heap->Q (.ref I) s->wpAny (model P0 g.w) A (pyIter (.ref I)) Q E s):
 dv g A d I x y F l S where
 sub:=W.sub
 live:=C
 mC:=j
 frame:=W.frame
 item i X s Q E hi D h:=by rw[W.item i s _ E (by rw[aw (VH.mp hi) λq _=>?_,q,]) D λv G H L U M=>⟨v,rfl,?_⟩,cp (hc _ _ U) λo n h1 h2 R=>mE h1 h2 R (h v G H (.inl (B i v X hi L)) U M),]
 done:=W.done
 self:=J
def FA{h:Heap}{I J:Addr}(h1:∃o,h.get? I=some o)(U:∃o,h.get? J=some o):∀b∈[I,J],∃o,h.get? b=some o:=λb C=>by
 rcases Vc.mp C with rfl|C
 ·rw[h1,]
 ·rw[[U5.mp C],U,]
def zz{F:ai}{l:List V}{vs:Array Value}(h:IsL F l vs.toList)(i:Nat)(v:Value)(X:V)(e:l[i]?=some X)(I:vs[i]?=some v):Is F X v:=by rw[ah (h.get e) λU C J=>?_,];rw[Wa,I] at C;rw[1 C,J,]
def dv.list{g:G0}{A:Around}{C:Expr}(n:A.handled=none)(I J:Addr)(U:J≠I){F:ai}{l:List V}{items:Array Value}(f:IsL F l items.toList):
 dv g A C I [I,J] [I] F l (λi h=>h.IsListIter I J i/\h.IsList J items):=
 have e:items.size=l.length:=by rw[<-f.length];rfl
 .jm (e▸Walks.list n I J U items) (zz f) (λi h j=>FA ⟨_,j.1.choose_spec.1⟩ ⟨_,j.2.choose_spec.1⟩)
  (λi h ⟨⟨o,a,k,m⟩,_⟩ b p u e v q=>by rw[U5.mp p,a] at e;rw[1 e,];first|(rw[m] at q;injection q)|(rw[m.1] at q;cases q)) (λi h ⟨⟨o,a,k,_⟩,_⟩=>⟨o,_,a,k,rfl⟩)
  λi s Q E r t=>wpAny_pyIter_listiter r.1 t
def dv.tuple{g:G0}{A:Around}{C:Expr}(n:A.handled=none)(I J:Addr)(U:J≠I){F:ai}{l:List V}{items:Array Value}(f:IsL F l items.toList):
 dv g A C I [I,J] [I] F l (λi h=>h.IsTupleIter I J i/\h.IsTuple J items):=
 have e:items.size=l.length:=by rw[<-f.length];rfl
 .jm (e▸Walks.tuple n I J U items) (zz f) (λi h j=>FA ⟨_,j.1.choose_spec.1⟩ ⟨_,j.2.choose_spec.1⟩)
  (λi h ⟨⟨o,a,k,m⟩,_⟩ b p u e v q=>by rw[U5.mp p,a] at e;rw[1 e,];first|(rw[m] at q;injection q)|(rw[m.1] at q;cases q)) (λi h ⟨⟨o,a,k,_⟩,_⟩=>⟨o,_,a,k,rfl⟩)
  λi s Q E r t=>wpAny_pyIter_tupleiter r.1 t
noncomputable def jo(a k:Int)(n:Nat):List V:=(List.range n).map λ(i:Nat)=>V.int (a+i*k)
def zA:(jo a k n).length=n:=by simp[jo]
def dv.range(f:A.handled=none)(I:Addr)(a c:Int)(n:Nat):
 dv g A C I [I] [I] F (jo a c n) (λi h=>IsRangeIter h I (a+(i:Nat)*c) ((n:Int)-(i:Nat)) c):=
 .jm (show Walks P0 g.w A I [I] [I] (jo a c n).length (λi v=>∃t,v=.int (a+(i:Nat)*c) t) (λi h=>IsRangeIter h I (a+(i:Nat)*c) ((n:Int)-(i:Nat)) c) by rw[[zA],Walks.range f I a c n,]) (λi v X j ⟨t,e⟩=>by
  rw[aw (VH.mp j) λq J=>?_,8 J,8 e,];have e:(jo a c n)[i]=.int (a+i*c):=by simp[jo]
  rw[e];exact⟨t,rfl⟩) (λi h o b U=>by rw[[U5.mp U],⟨_,o⟩,]) (λi h o b U l e v q=>by rw[U5.mp U,o] at e;rw[1 e,7 q,]) (λi h o=>⟨_,_,o,rfl,rfl⟩)
  λi s Q E k J=>wpAny_pyIter_rangeiter k J
noncomputable def bk(o:Option (Addr×Tag))(l:List V)(c:CS):CS:=match o with|none=>c|some (a,t)=>⟨c.m,c.σ.set a ⟨t,.list l⟩⟩
def pb(o:Option (Addr×Tag))(c:CS):Prop:=match o with|none=>True|some (a,_)=>c.σ a=none
noncomputable def da(t:Expr):Bool:=Nat.beq t.ctorIdx 25
def kJ(h:da t=true):∃l k p,t=.Tuple l k p:=
 y7 (show bif da t then∃l k p,t=.Tuple l k p else True by induction t using PySem.Expr.casesOn<;>first|exact trivial|exact⟨_,_,_,rfl⟩) h
structure Ready(tw:Bool)(g:G0)(A:Around)(env:Env)(m:List (Str×V))(l:List V)(σ0:ak)(h?:Option (Addr×Tag))(F Z:ai)(I:Addr)(s:Shared):Prop where
 ex:∃(Zb C4:ai) (fp wr:List Addr) (S:Nat->Heap->Prop),St g A.frames env F C4 ⟨m,σ0⟩ s/\Zi A.frames wr Zb C4/\(∀target,(tw=true->da target=true)->dv g A target I fp wr F l S)/\S 0 s.heap/\
  (∀b∈fp,b∉wr->(∃o,F b=some o)\/(∃o,Zb b=some o/\b∉eG A.frames))/\∀F' c' s',c8 F F'->St g A.frames env F' Zb c' s'->pb h? c'/\St g A.frames env F' Z (bk h? l c') s'
def Src(J:Bool)(g:G0)(A:Around)(c:CS)(X:V)(l:List V)(σ0:ak)(U:Option (Addr×Tag)):Prop:=
 ∀(env:Env) (F Z:ai) (s:Shared) (v:Value) (P E:Value->Shared->Prop),St g A.frames env F Z c s->Is F X v->(∀I o C,c8 F C->Ready J g A env c.m l σ0 U C Z I o->P (.ref I) o)->wpAny (model P0 g.w) A (pyIter v) P E s
noncomputable def C5(g:G0)(A:Around)(env:Env)(o:Expr)(body:List Stmt)(K:CF->CS->Prop):List V->CS->Prop
 |[],c=>K .next c
 |x::xs,c=>As g A env o x c (λI=>EX g A env body I (λf C=>match f with|.next|.cont=>C5 g A env o body K xs C|.brk=>K .next C|.ret X=>K (.ret X) C) iA) iA
section
variable{g:G0}{A:Around}{env:Env}{c:CS}{E:V->CS->Prop}{Q:CF->CS->Prop}
def FC(x:St g ff env F Z c s)(o:Obj)(hf:o.isFreed=false):St g ff env F (Z.set s.heap.objs.size o) c {s with heap:=s.heap.push o}:=
 (x.fM o).zu (Vw _ hf) x.fc x.fresh.1 x.fresh.2.1 x.fresh.2.2 x.di
def eO(st:St g A.frames env F Zb ⟨m,σ0⟩ s)(hf:o.isFreed=false)
 (W:∀C,dv g A C s.heap.objs.size d [s.heap.objs.size] F l S) (y:S 0 (s.heap.push o)) (J:∀b∈d,b≠s.heap.objs.size->(∃o,F b=some o)\/(∃o,Zb b=some o/\b∉eG A.frames))
 (hb:∀F' U j,c8 F F'->St g A.frames env F' Zb U j->pb x U/\St g A.frames env F' Z (bk x l U) j):Ready B g A env m l σ0 x F Z s.heap.objs.size {s with heap:=s.heap.push o}:=by
 rw[⟨Zb,_,d,_,S,FC st o hf,⟨λb hb=>?_,λb hb=>?_,λb hb=>?_,λb hb=>?_⟩,λt _=>W t,y,λb hb hn=>J b hb λe=>hn (e▸Vr _),hb⟩,]
 ·have:b≠s.heap.objs.size:=by simpa using hb
  rw[U8 ‹_›,]
 ·rw[[U5.mp hb],⟨o,by rw[Vb rfl,]⟩,]
 ·rw[[U5.mp hb],st.fc,]
 ·rw[[U5.mp hb],st.fresh.2.1,]
def C6(e:A.handled=none):Src q g A c (.lst l) l c.σ none:=λenv F Z s v P E st U h=>by
 refine iU U λa o f n C I i j k=>?_;clear U;obtain rfl:=C;have d:s.heap.IsList a f:=⟨o,st.fr _ _ I,Ve Obj.cls i,n,j⟩;exact wpAny_pyIter_list d (h _ _ F (.refl _) (eO st rfl (λt=>dv.list e _ a (Vt (Vq (st.fr _ _ I))) k) ⟨⟨_,Vw _ rfl,rfl,rfl⟩,d.push _⟩
  (λb m p=>by rw[[U5.mp ((Vc.mp m).resolve_left p)],.inl ⟨o,I⟩,]) λr u w _ J=>⟨trivial,J⟩))
def C7(e:A.handled=none):Src q g A c (.tup l) l c.σ none:=λenv F Z s v P E st U h=>by
 refine iU U λa o f n C I i j k=>?_;clear U;obtain rfl:=C;have d:s.heap.IsTuple a f:=⟨o,st.fr _ _ I,Ve Obj.cls i,n,j⟩;exact wpAny_pyIter_tuple d (h _ _ F (.refl _) (eO st rfl (λt=>dv.tuple e _ a (Vt (Vq (st.fr _ _ I))) k) ⟨⟨_,Vw _ rfl,rfl,rfl⟩,d.push _⟩
  (λb m p=>by rw[[U5.mp ((Vc.mp m).resolve_left p)],.inl ⟨o,I⟩,]) λr u w _ J=>⟨trivial,J⟩))
def C8(m:A.handled=none)(J:c.σ a=some ⟨t,.list l⟩):Src B g A c (.loc a) l (c.σ.del a) (some (a,t)):=λenv F Z s v P E st p h=>by
 cases(show v=.ref a from p);refine xb (st.hide J) λo d f q i U=>dr (id f) λr n C u=>?_;obtain rfl:=C;have j:s.heap.IsList a r:=⟨_,d,rfl,n,rfl⟩;exact wpAny_pyIter_list j (h _ _ F (.refl _) (eO U rfl (λt=>dv.list m _ a (Vt (Vq d)) u) ⟨⟨_,Vw _ rfl,rfl,rfl⟩,j.push _⟩
  (λb w x=>by rw[[U5.mp ((Vc.mp w).resolve_left x)],.inr ⟨_,ai.ae ..,i⟩,]) λD k G z I=>⟨by
   show k.σ a=none;cases e:k.σ a with
   |none=>rfl
   |some y=>have:=I.d6 a y e;simp at this,I.ua q i (f.mono z)⟩))
def C9{D:Bool}{a b k:Int}{n:Nat}(hh:A.handled=none)(J:Builtin.Range.small a b k=true)(hn:Builtin.Range.rangeSize a b k=n):Src D g A c (.mi a b k) (jo a k n) c.σ none:=λenv F Z s v P E st j h=>by
 rw[jW j λr t u x C G=>?_,0 j,3 C,<-H st.fr _ _ G,wpAny_pyIter_range H J (h _ _ F (.refl _) (eO (Zb:=Z) st rfl (λt=>dv.range hh _ a k n) ?_ (λb hb hn=>U9 (U5.mp hb) hn) λM R S _ U=>⟨trivial,U⟩)),<-e Vw (s.heap) (o:={cls:=.type "range_iterator",dict:=none,data:=.fields #[rawInt a,rawInt (Builtin.Range.rangeSize a b k),rawInt k],slots:=#[]}) rfl,];rw[hn] at e
 simpa[IsRangeIter,hn] using e
def Hb{o C:Expr}{body:List Stmt}{pos:Pos}
 (h:EV g A env C c (λX j=>∃l σ0 J,Src (da o) g A j X l σ0 J/\C5 g A env o body (λf U=>pb J U->Q f (bk J l U)) l ⟨j.m,σ0⟩) E)
 (hs:∀x,foldedSetIterable C env x=pure x:=by intro _;rfl):iZ g A env (.For o C body [] pos) c Q E:=λF Z s hF st=>by
 refine wpAny_For (T.run h hF st (λy v X j L B iX d k=>?_) λy a x j L B ia d k=>⟨y,x,j,B,ia,d,k⟩) hs;revert k;refineλn=>kG n λl σ0 J b=>aV b λp k=>?_;clear n b;refine p env y Z L v _ _ d iX λI w M f2 hr=>GB hr.ex λZb t fp wr S D hz W hS G hb=>?_;refine WE (pX (F₁:=M) (Z:=Zb) (Inv:=λi c=>C5 g A env o body (λf U=>pb J U->Q f (bk J l U)) (l.drop i) c) (K:=λf U=>pb J U->Q f (bk J l U)) (i₀:=0)
  (Q:=λf w=>PT g A.frames env RF F Z Q f w) (Eo:=jl) (W o λe=>e) G (λi c X hX u=>?_) (λc u=>?_) (Vj _) ⟨M,t,_,.refl _,D,k,hS,hz⟩
  λR f X c' w Y a2 a3 a4=>?_) λr s z=>?_
 ·rw[aw (VH.mp hX) λq hq=>?_,]
  rw[XX q,hq] at u;rw[u,]
 ·rw[XN] at u;rw[u,]
 ·rw[aV (hb R c' w Y a3) λhh H=>⟨R,X,_,B.trans (f2.trans Y),a2,H,a4 hh⟩,]
 ·induction r with
  |ok f=>exact z
  |error e=>exact z.elim
end
set_option linter.unusedSimpArgs false
noncomputable def gq(n:Str)(X:V):List (Str×V)->List (Str×V)
 |[]=>[(n,X)]
 |(m,Y)::r=>if m=n then(m,X)::r else(m,Y)::gq n X r
def pd(k:Str)(t:Tok)(n:Str):(Value.str k t).isStr n=(k==n):=by rw[isStr_of];rfl
def n6.get(e:n6 w F es fs):
 (∀X,fs.lookup n=some X->∃v,getL n es=some (some v)/\Is F X v)/\(fs.lookup n=none->getL n es=some none):=by
 rw[e.ind (C:=λes fs=>(∀X,fs.lookup n=some X->∃v,getL n es=some (some v)/\Is F X v)/\(fs.lookup n=none->getL n es=some none)) ⟨λX h=>(nomatch h),λ_=>rfl⟩ λ{J es k x r} _ o U _ I=>o.elim λt o=>?_,];have a:=o▸pd k t n;have b:J.refKey=false:=by rw[2 DictEntry.refKey,[o],]
 unfold getL at I⊢;rw[List.find?_cons,List.any_cons,a,b,Bool.false_or,List.lookup];by_cases q:n=k
 ·rw[Wb.mpr q,Wb.mpr q.symm]
  exact⟨λX h=>⟨_,rfl,VW h▸U⟩,λh=>nomatch h⟩
 ·rw[Wt q,Wt (Ne.symm q)]
  rw[I,]
def n6.put(J:Is F X v)(e:n6 w F es fs):
 n6 w F (putL n (PyData.keyHash w.params n) (.str n t) v es) (gq n X fs):=by
 rw[e.ind (C:=λes fs=>n6 w F (putL n (PyData.keyHash w.params n) (.str n t) v es) (gq n X fs)) ⟨n,X,[],rfl,rfl,⟨t,rfl⟩,J,rfl⟩ λ{h es k x r} U o a b d=>o.elim λI o=>?_,];have f:=o▸pd k I n;rw[2 putL gq,[f],];by_cases q:k=n
 ·rw[Wb.mpr q,Vb q]
  exact⟨k,X,r,rfl,U,⟨I,o⟩,J,b⟩
 ·rw[Wt q,U8 q]
  exact⟨k,x,_,rfl,U,⟨I,o⟩,a,d⟩
def n6.length(e:n6 w F es fs):es.length=fs.length:=
 e.ind (C:=λes fs=>es.length=fs.length) rfl λ_ _ _ _ c=>Ve Nat.succ c
def n6.noRef(e:n6 w F es fs):es.any (·.refKey)=false:=
 e.ind (C:=λes _=>es.any (·.refKey)=false) rfl λ{I _ _ _ _} _ o _ _ c=>o.elim λt o=>by rw[List.any_cons,c,show I.refKey=false by rw[2 DictEntry.refKey,[o],]];rfl
def jq(n:Str)(X:V)(fs:List (Str×V)):(gq n X fs).length<=fs.length+1:=by
 induction fs with
 |nil=>exact Va _
 |cons p r o=>
  show(if _ then _ else _:List (Str×V)).length<=_;split
  ·rw[VE _,]
  ·rw[VJ o,]
noncomputable def V.vQ:V->Bool
 |.raw v=>handedIn v
 |.any=>false
 |_=>true
def V.handed(h:X.vQ=true)(i:Is F X v):handedIn v=true:=by
 induction X using Mine.V.casesOn with
 |none=>cases i;rfl
 |bool b=>cases i;rfl
 |int b=>refine aw i λt C=>?_;rw[0 i,3 C,];rfl
 |str b=>refine aw i λt I=>?_;rw[0 i,3 I,];rfl
 |tup l=>refine jW i λa o f n J _=>?_;rw[0 i,3 J,];rfl
 |lst l=>refine jW i λa o f n U _=>?_;rw[0 i,3 U,];rfl
 |loc a=>cases i;rfl
 |raw w=>cases i;exact h
 |any=>injection h
 |mi a b c=>refine jW i λr t u x d _=>?_;rw[0 i,3 d,];rfl
 |fL a b c=>refine jW i λr t u x e _=>?_;rw[0 i,3 e,];rfl
noncomputable def pY(K:Frag)(C:Addr)(n:Str):Bool:=plainGet K C n&&hasDictIn K C&&(findIn K (.ref C) n).any (noGet K)
noncomputable def pZ(K:Frag)(C:Addr)(n:Str)(f:Addr):Bool:=plainGet K C n&&findIn K (.ref C) n==some (some (.ref f))&&isFn K (.ref f)
noncomputable def p5(K:Frag)(C:Addr)(n:Str):Bool:=findIn K (.ref C) "__setattr__"==some (some (.builtin "object.__setattr__"))&&plainOver K C&&takerIn K C n==some none&&hasDictIn K C
section
variable{g:G0}{A:Around}{env:Env}{α β vI vJ:Type}{R:ai->β->α->Prop}{R':ai->vJ->vI->Prop}{F₀:ai}{c:CS}{E:V->CS->Prop}
def St.cW(C:Base g)(x:St g ff env F Z c s):(KK g).In s.heap:=λa o e=>x.mz _ _ (C.1 a o e)
def St.inst(x:St g ff env F Z c s)(U:c.σ a=some ⟨t,.inst C d⟩)(b:c.σ d=some ⟨t',.ns fs⟩):
 ∃es n,InstAt s.heap a (instObj C d) C (some (dictOf es n))/\s.heap.get? d=some (dictOf es n)/\n6 g.w F es fs:=by
 rw[ah (x.obj _ _ U) λo e f=>ah (x.obj _ _ b) λp J I=>dr I λes n h i=>?_,0 I,];cases(show o=instObj C d from f);rw[8 h,⟨es,n,⟨e,rfl,rfl,J⟩,J,i⟩,]
def Hc(e:Base g)(f:c.σ a=some ⟨t,.inst C d⟩)(i:c.σ d=some ⟨t',.ns fs⟩)(j:fs.lookup n=some X)(U:pY (KK g) C n=true)
 (k:X.vQ=true) (h:Q X c):iF g A env Is (λo=>getAttr o n true) (.loc a) c Q E:=o6 λF₀ F Z s x st=>by
 rw[cp (st.inst f i) λy m I l N=>?_,];simp only[pY,W8] at U;rw[aV U λJ p=>aV J λq k2=>?_,0 U J,ah (any_some p) λattr r v=>ah ((N.get (n:=n)).1 X j) λu w b=>?_,get_value (st.cW e) I (plainGet_of q).1 (findObj_own k2 r v (by rw[[lookIn_dict],w,])) (V.handed k b) ⟨F,X,c,.refl _,b,st.toks _,h⟩,]
def RM(F:ai)(b:V×List V)(a:Value×List Value):Prop:=Is F b.1 a.1/\IsL F b.2 a.2
def vR(e:Base g)(i:c.σ a=some ⟨t,.inst C d⟩)(j:c.σ d=some ⟨t',.ns fs⟩)(k:fs.lookup n=none)
 (U:pZ (KK g) C n f=true) (h:Q (.raw (.ref f),[.loc a]) c):iF g A env RM (λo=>getMethod o n pl) (.loc a) c Q E:=o6 λF₀ F Z s r st=>by
 rw[cp (st.inst i j) λl m I p N=>?_,];simp only[pZ,W8,Wb] at U;rw[aV U λJ q=>aV J λb k2=>?_,0 U J,<-u (N.get (n:=n)).2 k,];exact method_fn (st.cW e) I (plainGet_of b).1 (plainGet_of b).2 k2 (Wb.mp q) (by show(lookIn n (dictOf l m)).map _=_;rw[lookIn_dict,u];rfl)
  ⟨F,(.raw (.ref f),[.loc a]),c,.refl _,⟨rfl,.cons rfl .nil⟩,st,h⟩
def Hd(hb:Base g)(W:c.σ a=some ⟨t,.inst C d⟩)(L:c.σ d=some ⟨t',.ns fs⟩)(B:p5 (KK g) C n=true)(hz:fs.length<100000)
 (h:Q () ⟨c.m,c.σ.set d ⟨t',.ns (gq n X fs)⟩⟩):bN g A env RU (λo v=>setAttr o n v) (.loc a) X c Q E:=fW λF₀ u Y F Z s h1 st=>by
 rw[cp (st.inst W L) λU m I y N=>?_,];simp only[p5,W8,Wb] at B;rw[aB λD J=>aV B λj k4=>aV j λx k3=>aV x λk1 k2=>J ?_,0 J D B j x,set_plain (st.cW hb) I k1 ?_,<-M st.cW hb,osa_open (s:={s with toks:=s.toks+1}) M I k2 k3 λb=>ah (any_some k4) λcd hc G=>?_,aB λD J=>?_,];obtain⟨hx,-,-,-⟩:=I;rw[J ?_,0 J D,U0 (U6 (U0 (U0 (XB (s:={s with toks:=s.toks+1}) hx (U0 ((looks_clsIn (h:=s.heap) M hc) _ _ _ _ (λ_ _ e=>e) ?_)))))),[G],U6 (a:=some d) (U0 (U6 (U0 ?_))),2 nsSet,U0 (U0 (XO (U6 (U0 (wpAny_mkText (U0 (XB y ?_))))))),];dsimp only[dictOf];have cc:(!U.toArray.any (·.key.isStr n)&&U.toArray.any (·.refKey))=false:=by rw[<-Xk,<-Xk,N.noRef,Bool.and_false]
 rw[aRefKeyMayBeTheName_at,cc];have e:Obj.putName n (PyData.keyHash g.w.params n) (.str n (s.toks+1)) u (dictOf U m)=dictOf (putL n (PyData.keyHash g.w.params n) (.str n (s.toks+1)) u U) (putN n U m):=putName_dict ..;have P:=N.put (t:=s.toks+1) (n:=n) (Y.mono h1);have H:(putL n (PyData.keyHash g.w.params n) (.str n (s.toks+1)) u U).length<=100000:=by rw[[P.length],U3 (jq n X fs) hz,]
 have S:(s.heap.update d (Obj.putName n (PyData.keyHash g.w.params n) (.str n (s.toks+1)) u)).get? d=some (dictOf (putL n (PyData.keyHash g.w.params n) (.str n (s.toks+1)) u U) (putN n U m)):=by rw[VM _ y (by rw[e];rfl),e]
 rw[wpAny_updatePart y<|U0 (wpAny_lookBehind S (pastItsLine_dict (by rw[[Xe,VN],kl H,])) ?_),U6<|⟨F,(),_,.refl _,trivial,st.upd (z:=⟨t',.ns (gq n X fs)⟩) L (Vp ..) S ⟨_,_,rfl,P⟩ _,h⟩,]
end
def mF{F:ai}{n:Str}{l:List (Str×V)}:∀{r:List (Str×Value)},l.map (·.1)=r.map (·.1)->IsL F (l.map (·.2)) (r.map (·.2))->∀{X:V},l.lookup n=some X->∃v,r.lookup n=some v/\Is F X v:=by
 induction l with
 |nil=>exactλ_ _ _ e=>nomatch e
 |cons p l I=>
  rw[λ{r}=>r.rec (λh=>nomatch h) λq r _ h i X e=>?_,<-h List.cons.inj h,6 i,λo=>dh o λv J i=>?_,0 o,<-C List.cons.inj i.1,(?_:∃v,(match n==q.1 with|true=>some q.2|false=>r.lookup n)=some v/\Is F X v),]
  replace e:(match n==p.1 with|true=>some p.2|false=>l.lookup n)=some X:=e
  rw[show p.1=q.1 from h.1] at e;by_cases c:n=q.1
  ·rw[Wb.mpr c] at e⊢;exact⟨_,rfl,VW e▸(show v=q.2 from C.1.symm)▸i.2.1⟩
  ·rw[Wt c] at e⊢;rw[I h.2 (C.2▸i.2.2) e,]
def eH{names:List Str}{vs:List Value}(h:vs.length=names.length):(names.zip vs).map (·.1)=names:=List.map_fst_zip (Vz h.symm)
def mG{names:List Str}{vs:List Value}(h:vs.length=names.length):(names.zip vs).map (·.2)=vs:=List.map_snd_zip (Vz h)
def eP{names:List Str}{vs:List V}(h:vs.length=names.length):(names.zip vs).map (·.1)=names:=List.map_fst_zip (Vz h.symm)
def j2{names:List Str}{vs:List V}(h:vs.length=names.length):(names.zip vs).map (·.2)=vs:=List.map_snd_zip (Vz h)
def rK{n:Str}{X:V}{l:List (Str×V)}:l.lookup n=some X->n∈l.map (·.1):=by
 induction l with
 |nil=>exactλe=>nomatch e
 |cons p l o=>
  rw[λe=>?_,];by_cases c:n=p.1
  ·rw[c▸.head _,]
  ·rw[List.lookup,Wt c] at e;rw[.tail _ (o e),]
noncomputable def tU(env:Env)(Z:ai)(h:Heap):ai:=λa=>if a∈aU env then h.get? a else Z a
namespace St
variable{g:G0}{ff ff':Option (List Env)}{env env':Env}{F F' Z:ai}{c c':CS}{s s':Shared}
def enter(x:St g ff env F Z c s)(H:∀b o,s.heap.get? b=some o->h'.get? b=some o)(U:∀a∈aU env',s.heap.objs.size<=a/\∃o,h'.get? a=some o)(R:(aU env').Nodup)
 (S:∀a,a∈eG ff'↔(a∈eG ff\/(a=env'.locals/\ff'≠ff)))
 (W:∀l,ff'=some l->∀e∈l,(∃Q,ff=some Q/\e∈Q)\/(e.scope.kind≠.module/\e.frame=some env'.locals)) (Y:∃mv,h'.Ns env'.locals mv/\∀n X,env'.kindOf n=some .local->m.lookup n=some X->∃v,mv n=some v/\Is F X v)
 (B:∀n b,env'.cells.lookup n=some b->env'.kindOf n=some .cell->∃v,h'.IsCell b v/\∀X,m.lookup n=some X->∃v',v=some v'/\Is F X v')
 (D:∀n b,env'.cells.lookup n=some b->env'.kindOf n=some .free->∀X,m.lookup n=some X->∃o v,(tU env Z s.heap b=some o\/F b=some o)/\b∉eG ff/\o.data=.cell (some v)/\Is F X v):
 St g ff' env' F (tU env Z s.heap) ⟨m,c.σ⟩ {s with heap:=h',toks:=tk}:=by
 have lt:∀b o,s.heap.get? b=some o->b<s.heap.objs.size:=λb o e=>Vq e;have J:∀b o,s.heap.get? b=some o->b∉aU env':=λb o e q=>U9 (lt b o e) (VV.mpr (U b q).1);have G:env'.locals∈aU env':=by rw[.head _,]
 have C:∀b,b∉aU env'->(b∈eG ff'↔b∈eG ff):=λb hb=>by rw[[S],⟨λq=>q.elim id λ⟨e,_⟩=>U9 (e▸G) hb,.inl⟩,]
 exact
 {gens:=x.gens
  gF:=x.gF
  base:=x.base
  fr:=λb o e=>H b o (x.fr b o e)
  zr:=λb o e=>by
   unfold tU at e;split at e
   ·have hb:=J b o e
    unfold kH;split
    ·exact⟨o.slots,H b o e⟩
    ·rw[H b o e,]
   ·rw[aw (x.gM e) λM FD=>?_,]
    have hb:=J b M FD;have:=x.zr b o e;unfold kH at this⊢;by_cases q:b∈eG ff
    ·rw[Vb q] at this;rw[[Vb ((C b hb).mpr q)],aw this λsl e=>?_,0 this,⟨sl,H _ _ e⟩,]
    ·rw[U8 q] at this;rw[[U8 (λz=>q ((C b hb).mp z))],H _ _ this,]
  obj:=λb y e=>let⟨o,h1,h2⟩:=x.obj b y e;⟨o,H b o h1,h2⟩
  fD:=x.fD
  d6:=λb y e=>by unfold tU;rw[U8 λq=>by have:=(x.own b q).2.2;rw[e] at this;rw[7 this,]];rw[x.d6 b y e,]
  ZF:=λb o e=>by
   unfold tU at e;split at e
   ·rw[4 q,(x.own b q).1,]
   ·rw[x.ZF b o e,]
  own:=λb hb=>by
   have hn:∀o,s.heap.get? b≠some o:=λo e=>J b o e hb;rw[⟨?_,?_,?_⟩,]
   ·cases e:F b with
    |none=>rfl
    |some o=>exact U9 (x.fr b o e) (hn o)
   ·unfold tU
    split
    ·cases e:s.heap.get? b with
     |none=>rfl
     |some o=>exact U9 e (hn o)
    ·cases e:Z b with
     |none=>rfl
     |some o=>refine aw (x.gM e) λM P=>?_;rw[U9 P (hn M),]
   ·cases e:c.σ b with
    |none=>rfl
    |some y=>refine ah (x.obj b y e) λo P _=>?_;rw[U9 P (hn o),]
  cq:=R
  live:=λb hb=>(U b hb).2
  ns:=Y
  cell:=B
  bx:=λn b h1 h2 X e=>by
   rw[cp (D n b h1 h2 X e) λo v q0 q1 q2=>⟨o,v,q0,?_,q2⟩,];have hb:b∉aU env':=by
    rcases q0 with q|q
    ·unfold tU at q
     split at q
     ·rw[J b o q,]
     ·rw[aw (x.gM q) λM P=>?_,J b M P,]
    ·rw[J b o (x.fr b o q),]
   exactλz=>q1 ((C b hb).mp z)
  fz:=λl hl e he=>by
   rcases W l hl e he with⟨Q,h1,h2⟩|⟨h1,h2⟩
   ·rw[aV (x.fz Q h1 e h2) λk d=>ah d λL q1 q2=>?_,0 d,]
    rw[⟨k,L,q1,.inr ?_⟩,];rcases q2 with rfl|⟨o,q2,q3⟩
    ·rw[ah x.ns λmv j _=>n5 j λo es ep n1 n2 _=>?_,0 j,]
     exact⟨o,by rw[2 tU,[Vb (.head _)],n1,],λvs q=>by rw[n2] at q;rw[7 q,]⟩
    ·rw[⟨o,?_,q3⟩,]
     unfold tU;rw[U8 λq=>by have:=(x.own L q).2.1;rw[q2] at this;rw[7 this,]];rw[q2,]
   ·exact⟨h1,env'.locals,h2,.inl rfl⟩}
def back(x:St g ff env F Z c s)(y:St g ff' env' F' (tU env Z s.heap) c' s')(L:c8 F F')(M:∀a,a∈eG ff'↔(a∈eG ff\/(a=env'.locals/\ff'≠ff))):
 St g ff env F' Z ⟨c.m,c'.σ⟩ s':=by
 have J:∀b o,Z b=some o->tU env Z s.heap b=some o:=λb o e=>by unfold tU;rw[U8 λq=>by have:=(x.own b q).2.1;rw[e] at this;rw[7 this,]];rw[e,]
 have d:∀b∈aU env,∃o,s.heap.get? b=some o/\tU env Z s.heap b=some o:=λb hb=>by rw[aw (x.live b hb) λo ho=>⟨o,ho,by rw[2 tU,[Vb hb],ho,]⟩,]
 have j:∀b o,tU env Z s.heap b=some o->b≠env'.locals:=λb o e q=>by have:=(y.own env'.locals (.head _)).2.1;rw[<-q,e] at this;rw[7 this,]
 have C:∀b o,tU env Z s.heap b=some o->(b∈eG ff'↔b∈eG ff):=λb o e=>by rw[[M],⟨λq=>q.elim id λ⟨q,_⟩=>U9 q (j b o e),.inl⟩,]
 have U:∀b∈aU env,b≠env.locals->b∉eG ff:=λb hb P q=>by
  rcases x.gN q with rfl|⟨o,ho,_⟩
  ·rw[P rfl,]
  ·have:=(x.own b hb).2.1;rw[ho] at this;rw[7 this,]
 exact
 {gens:=y.gens
  gF:=y.gF
  base:=y.base
  fr:=y.fr
  zr:=λb o e=>by
   have z:=y.zr b o (J b o e);unfold kH at z⊢;by_cases q:b∈eG ff
   ·rw[Vb q];rw[Vb ((C b o (J b o e)).mpr q)] at z;rw[z,]
   ·rw[U8 q];rw[U8 (λp=>q ((C b o (J b o e)).mp p))] at z;rw[z,]
  obj:=y.obj
  fD:=y.fD
  d6:=λb w e=>by
   cases q:Z b with
   |none=>rfl
   |some o=>have:=y.d6 b w e;rw[J b o q] at this;rw[7 this,]
  ZF:=λb o e=>y.ZF b o (J b o e)
  own:=λb hb=>by
   rw[ah (d b hb) λo h1 h2=>⟨y.ZF b o h2,(x.own b hb).2.1,?_⟩,];cases q:c'.σ b with
   |none=>rfl
   |some w=>have:=y.d6 b w q;rw[h2] at this;rw[7 this,]
  cq:=x.cq
  live:=λb hb=>by rw[ah (d b hb) λo h1 h2=>?_,y.gM h2,]
  ns:=by
   rw[ah x.ns λmv B Q=>n5 B λo es ep h1 h2 R=>?_,0 B,ah (d env.locals (.head _)) λo' G H=>?_,];rw[h1] at G;rw[1 G,<-z y.zr _ o H,];have:∃sl,s'.heap.get? env.locals=some {o with slots:=sl}:=by
    unfold kH at z;split at z
    ·rw[z,]
    ·exact⟨o.slots,z⟩
   rw[aw this λsl hs=>?_,0 this,⟨mv,⟨_,es,ep,hs,h2,R⟩,λn X a b=>let⟨v,p1,Y⟩:=Q n X a b;⟨v,p1,Y.mono L⟩⟩,]
  cell:=λn b h1 h2=>by rw[ah (x.cell n b h1 h2) λv D h5=>ah D λo R Q=>?_,0 D,<-hb fh h1 h2,ah (d b hb) λo' G H=>?_,];rw[R] at G;rw[1 G,<-z y.zr _ o H,];unfold kH at z;rw[U8 (λp=>U b hb (x.jZ h1 h2) ((C b o H).mp p))] at z;exact⟨v,⟨o,z,Q⟩,λX e=>let⟨v',p1,Y⟩:=h5 X e;⟨v',p1,Y.mono L⟩⟩
  bx:=λn b h1 h2 X e=>let⟨o,v,q0,G,H,q3⟩:=x.bx n b h1 h2 X e;⟨o,v,q0.imp id (L b o),G,H,q3.mono L⟩
  fz:=x.fz}
end St
def St.slots(x:St g ff env F Z c s)(hs:Heap.SlotsOnly (eG ff) s.heap h'):St g ff env F Z c {s with heap:=h'} where
 gens:=x.gens
 gF:=x.gF
 base:=x.base
 fr a o e:=(hs.2.1 a (x.CO e)).trans (x.fr a o e)
 zr a o e:=by
  have:=x.zr a o e;unfold kH at this⊢;split at this
  ·rw[4 q,]
   rw[[Vb q],aw this λd C=>?_,0 this,aw (hs.2.2 _ _ C) λJ U=>⟨J,U⟩,]
  ·rw[4 q,]
   rw[[U8 q],(hs.2.1 a q).trans this,]
 obj a y e:=by rw[ah (x.obj a y e) λo h1 h2=>⟨o,(hs.2.1 a (x.mA e)).trans h1,h2⟩,]
 fD:=x.fD
 d6:=x.d6
 ZF:=x.ZF
 own:=x.own
 cq:=x.cq
 live a B:=by rw[aw (x.live a B) λo h=>aw (hs.2.2 _ _ h) λd e=>?_,⟨_,e⟩,]
 ns:=by rw[ah x.ns λD h1 h2=>⟨D,Heap.UpToSlots.ns (λb o e _=>hs.2.2 b o e) h1,h2⟩,]
 cell n a h1 h2:=by rw[ah (x.cell n a h1 h2) λv j G=>ah j λo C U=>?_,0 j,aw (hs.2.2 _ _ C) λd e=>⟨v,⟨_,e,U⟩,G⟩,]
 bx:=x.bx
 fz:=x.fz
def St.frames(x:St g ff env F Z c s)(f:ff=some l):s.heap.FunFrames (hideAll s.heap (eG ff)) l:=by
 have key:∀r:List Env,(∀e∈r,e∈l)->s.heap.FunFrames (hideAll s.heap (eG ff)) r:=by
  intro r
  induction r with
  |nil=>intro _;trivial
  |cons e r i=>
   intro hm;rw[<-J hm e (.head _),aV (x.fz l f e J) λj I=>ah I λL U a=>?_,0 I,];have b:L∈eG ff:=by rw[[f],Xn.mpr ⟨e,J,U⟩,]
   rw[⟨j,⟨L,?_⟩,i λe J=>hm e (.tail _ J)⟩,];rcases a with rfl|⟨o,a,k⟩
   ·rw[ah x.ns λn C _=>n5 C λo p t d m _=>?_,0 C,]
    exact⟨o,U,hideAll_none _ b,d,λu q=>by rw[m] at q;rw[7 q,]⟩
   ·have:=x.zr _ _ a
    unfold kH at this;rw[Vb b] at this;rw[aw this λv d=>?_,0 this,⟨_,U,hideAll_none _ b,d,k⟩,]
 rw[key l λ_ h=>h,]
section
variable{g:G0}{A:Around}{env:Env}{F Z:ai}{c:CS}{s:Shared}{E:Value->Shared->Prop}
def rL(st:St g A.frames env F Z c s)(x:A.frames=some (env::outer))(hf:env.frame=some env.locals)(S:c.σ ea=some ⟨.exc,.exc C dx tb⟩)
 (h:∀T s',c.σ T=none->St g A.frames env F Z ⟨c.m,(c.σ.set ea ⟨.exc,.exc C dx (some T)⟩).set T ⟨.tb,.lA (rawInt env.locals)⟩⟩ s'->Q () s'):
 wpAny (model P0 g.w) A (do let a<-frameOf env;let pl<-entryPlaceOf env.locals hn;let b<-EntryCells.newEntry head a .none (rawInt env.locals) .none pl;setField (.ref ea) 1 b) Q E s:=by
 have hl:=st.frames x;refine U0 (wpAny_frameOf_fun x hl hf λJ B=>?_);have G:=st.slots (h':=J) (by
  have:(env::outer).filterMap (·.frame)=eG A.frames:=by rw[x];rfl
  rw[<-this];exact B)
 rw[U0 (wpAny_entryPlaceOf λpl W=>?_),2 EntryCells.newEntry newFields,U0 (Wf ?_ (W.sizeOk5 ..)),];have hy:o4 g.w F (.lA (rawInt env.locals)) {cls:=.type "traceback",dict:=none,data:=.fields ([head,.ref env.locals,.none,rawInt env.locals,.none]++(if pl.isEmpty then List.replicate 6 Value.none else pl)).toArray}:=
  ⟨_,rfl,rfl⟩
 have H:=G.fresh.2.2;have L:=G.c9 _ (y:=⟨.tb,.lA (rawInt env.locals)⟩) hy;have M:ea≠J.objs.size:=λq=>by rw[q] at S;rw[H] at S;rw[7 S,]
 have P:(c.σ.set J.objs.size ⟨.tb,.lA (rawInt env.locals)⟩) ea=some ⟨.exc,.exc C dx tb⟩:=by rw[[ak.ag _ _ M],S,]
 rw[ah (L.obj _ _ P) λo ho j=>n4 j λX R Y v1 v2=>?_,0 j,3 R,XD ho rfl (ax [.eq af (.k 6)] (.lt aF af) (.l [1,0,1]) tt [_] Y) (h J.objs.size _ H ?_),];have hd:(Obj.mapFields (·.setIfInBounds 1 (Value.ref J.objs.size)) {cls:=.ref C,dict:=dx,data:=.fields X,slots:=#[]}:Obj)={cls:=.ref C,dict:=dx,data:=.fields (X.setIfInBounds 1 (.ref J.objs.size)),slots:=#[]}:=rfl;have hg:=VM (Obj.mapFields (·.setIfInBounds 1 (Value.ref J.objs.size))) ho (by rw[hd];rfl);rw[hd] at hg;have Sy:1<X.size:=by rw[ax [.eq af (.k 6)] (.lt aF af) (.l [1,0,1]) tt [_] Y,]
 rw[<-zB L.upd P (z:=⟨.exc,.exc C dx (some J.objs.size)⟩) (Vp ..) hg ⟨_,rfl,by simpa using Y,by simp[Sy],by rw[[Xi (by decide)],v2,]⟩ s.toks,zB.iE λa y e=>⟨y.t,?_⟩,5 (((c.σ.set J.objs.size _).set ea _) a=_),];by_cases q:a=J.objs.size
 ·subst q
  rw[ak.ae] at e;rw[1 e,[ak.ag _ _ (Ne.symm M),ak.ae],]
 ·rw[ak.ag _ _ q] at e
  by_cases q2:a=ea
  ·subst q2;rw[ak.ae] at e⊢;rw[e,]
  ·rw[ak.ag _ _ q2] at e⊢;rw[[ak.ag _ _ q],e,]
def pe(st:St g A.frames env F Z c s)(U:c.σ ea=some ⟨.exc,.exc C dx tb⟩)(h:Q (tb.elim .none .ref) s):wpAny M d (field (.ref ea) 1) Q e s:=by rw[ah (st.obj _ _ U) λo a I=>n4 I λf J i b j=>?_,0 I,3 J,V1 a rfl b h,]
def vS(st:St g A.frames env F Z c s){T:Addr}{fl v:Value}(y:c.σ T=some ⟨.tb,.lA fl⟩){M:Model}{H:Around}{L:Value->Shared->Prop}{Q:Unit->Shared->Prop}(h:∀s',St g A.frames env F Z ⟨c.m,c.σ.set T ⟨.tb,.lA v⟩⟩ s'->Q () s'):wpAny M H (setField (.ref T) 3 v) Q L s:=by rw[ah (st.obj _ _ y) λo ho C=>ah C λx U P=>?_,0 C,3 U,];have B:3<x.size:=(XF.mp P).1;rw[XD ho rfl B (h _ ?_),];have D:(Obj.mapFields (·.setIfInBounds 3 v) {cls:=.type "traceback",dict:=none,data:=.fields x,slots:=#[]}:Obj)={cls:=.type "traceback",dict:=none,data:=.fields (x.setIfInBounds 3 v),slots:=#[]}:=rfl;have G:=VM (Obj.mapFields (·.setIfInBounds 3 v)) ho (by rw[D];rfl);rw[D] at G;rw[st.upd y (z:=⟨.tb,.lA v⟩) (Vp ..) G ⟨_,rfl,by simp[B]⟩ s.toks,]
def j3(st:St g A.frames env F Z c s){ea C T:Addr}{dx:Option Addr}{fl:Value}{fr:Option Addr}(o:c.σ ea=some ⟨.exc,.exc C dx (some T)⟩)(I:c.σ T=some ⟨.tb,.lA fl⟩){M:Model}{J:Around}{U:Value->Shared->Prop}{Q:Unit->Shared->Prop}
 (h:∀s',St g A.frames env F Z ⟨c.m,c.σ.set T ⟨.tb,.lA (fr.elim .none λf=>rawInt f)⟩⟩ s'->Q () s'):wpAny M J (setFlight (.ref ea) fr) Q U s:=by
 rw[2 setFlight,U0 (pe st o ?_),5 (wpAny _ _ (if(Value.ref T !=Value.none)=true then _ else _) ..),[Vb rfl],vS st I h,]
def set_set{σ:ak}{a:Addr}{x y:O}:(σ.set a x).set a y=σ.set a y:=by
 funext b
 by_cases q:b=a
 ·subst q;simp
 ·rw[ak.ag _ _ q,ak.ag _ _ q,ak.ag _ _ q]
def set_same{σ:ak}{a:Addr}{x:O}(h:σ a=some x):σ.set a x=σ:=by
 funext b
 by_cases q:b=a
 ·rw[8 q,[ak.ae,h],]
 ·rw[ak.ag _ _ q]
def vT(st:St g A.frames env F Z c s)(J:A.frames=some (env::outer))(hf:env.frame=some env.locals)(a:c.σ ea=some ⟨.exc,.exc C dx tb⟩)(d:∀T,tb=some T->c.σ T=some ⟨.tb,.lA .none⟩)
 (h:∀T s',c.σ T=none->St g A.frames env F Z ⟨c.m,(c.σ.set ea ⟨.exc,.exc C dx (some T)⟩).set T ⟨.tb,.lA (rawInt env.locals)⟩⟩ s'->Q () s'):wpAny (model P0 g.w) A (noteFrame (.ref ea) env) Q E s:=by
 unfold noteFrame;simp only[hf];rw[U0 (pe st a ?_),]
 induction tb with
 |none=>
  show wpAny _ _ (if(Value.none !=Value.none)=true then _ else _) ..;rw[U8 (Vu)];exact rL st J hf a h
 |some T=>
  rw[<-b d T rfl,5 (wpAny _ _ (if(Value.ref T !=Value.none)=true then _ else _) ..),[Vb rfl],ah (st.obj _ _ b) λo f I=>ah I λk e i=>?_,0 I,U0 (V1 f (by rw[e]) i ?_),[U8 (Vu)],U0 (vS st b λl U=>?_),<-j set_same b,];rw[j] at U;rw[rL U J hf a h,]
def ub(st:St g A.frames env F Z c s){outer:List Env}(I:A.frames=some (env::outer))(hf:env.frame=some env.locals){ea C:Addr}{dx tb:Option Addr}(J:c.σ ea=some ⟨.exc,.exc C dx tb⟩)(d:∀T,tb=some T->c.σ T=some ⟨.tb,.lA .none⟩){Q:Unit->Shared->Prop}
 (h:∀T s',c.σ T=none->St g A.frames env F Z ⟨c.m,(c.σ.set ea ⟨.exc,.exc C dx (some T)⟩).set T ⟨.tb,.lA .none⟩⟩ s'->Q () s'):wpAny (model P0 g.w) A (leaving env (.ref ea)) Q E s:=by
 rw[2 leaving,U0 (vT st I hf J d λT f b U=>?_),];have a:ea≠T:=λq=>by rw[q,b] at J;rw[7 J,]
 rw[j3 (fr:=none) U (C:=C) (dx:=dx) (T:=T) (fl:=rawInt env.locals) (by dsimp only;rw[ak.ag _ _ a,ak.ae]) (ak.ae ..) λe o=>?_,];rw[set_set] at o;rw[h T e b o,]
end
noncomputable def gP:CF->V
 |.ret X=>X
 |_=>.none
def RF.gP(h:RF F x f):Is F (gP x) (match(generalizing:=false) f with|.ret v=>v|_=>.none):=by
 induction x with
 |ret X=>refine ah h λv o i=>?_;rw[0 h,3 o,];exact i
 |next=>cases(show f=.next from h);exact rfl
 |brk=>cases(show f=.brk from h);exact rfl
 |cont=>cases(show f=.cont from h);rw[rfl,]
section
variable{g:G0}{A:Around}{env:Env}{α β vI vJ:Type}{R:ai->β->α->Prop}{R':ai->vJ->vI->Prop}{F₀:ai}{c:CS}{E:V->CS->Prop}
def eQ(hf:env'.frame=some env'.locals):∀a,a∈eG (A.deeper env').frames↔(a∈eG A.frames\/(a=env'.locals/\(A.deeper env').frames≠A.frames)):=by
 intro a;unfold Around.deeper eG
 induction A.frames with
 |none=>simp
 |some l=>
  simp only[Option.map_some,Option.getD_some,XY,hf,Vc,ne_eq,Yd];constructor
  ·rintro(rfl|h)
   ·rw[.inr ⟨rfl,λq=>by have:=Ve List.length q;simp at this⟩,]
   ·rw[.inl h,]
  ·rintro(h|⟨rfl,_⟩)
   ·rw[.inr h,]
   ·rw[.inl rfl,]
def j4(hf:env'.frame=some env'.locals)(J:env'.scope.kind=.function):∀l,(A.deeper env').frames=some l->∀e∈l,(∃C,A.frames=some C/\e∈C)\/(e.scope.kind≠.module/\e.frame=some env'.locals):=by
 intro l o e I;unfold Around.deeper at o;cases q:A.frames with
 |none=>rw[q] at o;injection o
 |some C=>
  rw[q] at o;simp only[Option.map_some,Yd] at o;subst o;rcases Vc.mp I with rfl|I
  ·rw[.inr ⟨by rw[J];decide,hf⟩,]
  ·rw[.inl ⟨C,rfl,I⟩,]
def St.noLimit(C:Base g)(x:St g ff env F Z c s):s.heap.NoLimit:=by rw[aV C λ_ o=>dh o λI J T=>?_,0 C o,T.nolimit.keeps x.mz,]
structure fN(K:Frag)(f:Addr)(fd:FuncData)(body:List Stmt)(names:List Str)(S:Scope):Prop where
 scope:fd.scope=S
 glob:fd.globals=mainGlobals
 LD:fd.builtins=builtinsNs
 at_:∃oc od He,K.lookup f=some ⟨oc,od,.func fd,He⟩
 body:fd.body=.stmts body
 code:codeIn K fd.code fd.qualname=true
 bind:∀vals:List Value,vals.length=names.length->bindArgs fd ⟨vals,[]⟩=pure (names.zip vals)
 co:fd.scope.isCoroutine=false
 gen:fd.scope.isGenerator=false
 kind:fd.scope.kind=.function
noncomputable def bh(S:Scope)(L:Addr)(cells:List (Str×Addr))(q:Str)(fn:Option Addr)(cd:Value)(fr:Option Addr):Env:=
 {scope:=S,locals:=L,globals:=mainGlobals,cells,qual:=q,func:=fn,code:=cd,frame:=fr,builtins:=builtinsNs}
def p6(h:S.kind=.function):bV (bh S L o q fn cd fr):=⟨h,rfl,rfl⟩
def kK(g:G0)(A:Around)(env:Env)(f:V)(args:List V)(c:CS)(Q:V->CS->Prop)(E:V->CS->Prop):Prop:=
 ∀F₀ o C,Is F₀ f o->IsL F₀ args C->∀F Z s,c8 F₀ F->St g A.frames env F Z c s->codeAny (model P0 g.w) A (.call o ⟨C,[]⟩) (λr s'=>match r with
  |.ok (.ret v)=>PT g A.frames env Is F Z Q v s'
  |.ok _=>False
  |.error e=>PT g A.frames env Is F Z E e s') s
def kK.ca(h:kK g A env f args c Q E):CA g A env f args c Q E:=λF₀ o C I J F Z s U st=>X7 (WE (h F₀ o C I J F Z s U st) λr s' x=>by
 induction r with
 |ok f=>induction f<;>exact x
 |error e=>exact x)
def rx(g:G0)(A:Around)(env:Env)(B:List Stmt)(l:List Stmt)(c:CS)(Q:CF->CS->Prop)(E:V->CS->Prop):Prop:=∀F Z s,St g A.frames env F Z c s->_root_.PySem.wpAt (model P0 g.w) A (.func B env) (execs l env)
 (PT g A.frames env RF F Z Q)
 (PT g A.frames env Is F Z E) s
def j5(h:EX g A env l c Q E):rx g A env B l c Q E:=λF Z s st=>wpAt_of_wpAny (h F Z s (.bot _) st)
noncomputable def XE(m:List (Str×V))(E:V->CS->Prop):V->CS->Prop:=λX c'=>∃o C I J,X=.loc o/\c'.σ o=some ⟨.exc,.exc C I J⟩/\(∀T,J=some T->c'.σ T=some ⟨.tb,.lA .none⟩)/\
 ∀T,c'.σ T=none->E (.loc o) ⟨m,(c'.σ.set o ⟨.exc,.exc C I (some T)⟩).set T ⟨.tb,.lA .none⟩⟩
def vU(hb:Base g)(d:fN (KK g) f fd body names S)(k:A.depth<recursionLimit)
 (I:∀x∈fd.scope.names,x.2≠.cell) (i:∀n∈names,fd.scope.names.lookup n=some .local) (J:args.length=names.length) (E':V->CS->Prop) (hE:∀X c',E' X c'->(∃l,A.frames=some l)/\XE c.m E X c')
 (h:∀L,rx g (A.deeper (callEnv fd L f)) (callEnv fd L f) body body ⟨(names.zip args).reverse,c.σ⟩ (λcf c'=>Q (gP cf) ⟨c.m,c'.σ⟩) E'):
 kK g A env (.raw (.ref f)) args c Q E:=λF₀ fv N O3 w F Z s hF st=>by
 cases(show fv=.ref f from O3);rw[kG d.at_ λoc od He ho=>?_,<-U w.length.trans J,ks_codeAny_call_defAt (fd:=fd) (body:=body) (binds:=names.zip N) k ((st.cW hb) _ _ ho) rfl (st.noLimit hb) (codeRec_of (st.cW hb) d.code) d.body (BindsTo.of_eq (d.bind N U)) I (λx hx=>?_) (λy t u=>?_) d.co d.gen d.kind,]
 ·rw[i _ (by have:=W6 (f:=(·.1)) hx;rwa [eH U] at this),]
 ·have j:aU (callEnv fd s.heap.objs.size f)=[s.heap.objs.size]:=by
   rw[2 aU,[List.filter_eq_nil_iff.mpr],]
   ·rfl
   ·intro p _ q
    have q:(callEnv fd s.heap.objs.size f).kindOf p.1=some .cell:=by simpa using q
    have:=mem_of_lookup (show fd.scope.names.lookup p.1=some .cell from q);exact I _ this rfl
  have Y:=st.enter (env':=callEnv fd s.heap.objs.size f) (h':=y) (tk:=s.toks+(names.zip N).length) (ff':=(A.deeper (callEnv fd s.heap.objs.size f)).frames) (m:=(names.zip args).reverse) u
   (λa ha=>by rw[j,U5] at ha;rw[8 ha,y' t λo es ep e _=>?_,0 t,⟨Va _,o,e⟩,]) (by rw[j];simp) (eQ rfl) (j4 rfl d.kind)
   ⟨_,t,λn X hn e=>mF (F:=F) (l:=(names.zip args).reverse) (r:=(names.zip N).reverse) (by rw[V6,V6,eP J,eH U])
    (by rw[[V6,V6,j2 J,mG U],IsL.reverse (w.mono hF),]) e⟩
   (λn b _ q=>U9 rfl (I _ (mem_of_lookup (show fd.scope.names.lookup n=some .cell from q))))
   (λn b _ q X e=>by have P:=rK e;rw[V6,XR,eP J] at P;have W:=i n P;rw[show fd.scope.names.lookup n=some .free from q] at W;injection W with zC;rw[7 zC,])
  rw[XS (h s.heap.objs.size F _ _ Y) ?_ ?_,]
  ·rintro fl s' ⟨F',cf,c',z,iX,v,hQ⟩
   exact⟨F',gP cf,⟨c.m,c'.σ⟩,z,iX.gP,st.back v z (eQ rfl),hQ⟩
  ·rintro e s' ⟨F',X,c',z,iX,v,hQ⟩
   rw[aB λR_ B=>aV (hE _ _ hQ) λD G=>aw D λl hl=>CC G λea C dx tb H P W h3=>B ?_,0 B R_ D G,3 H,];cases(show e=.ref ea from iX);rw[ub v (outer:=l) (Around.frames_deeper hl) rfl P W λT O4 hT M=>⟨F',.loc ea,⟨c.m,_⟩,z,rfl,st.back M z (eQ rfl),h3 T hT⟩,]
def mH{kindOf:Str->Option NameKind}(binds:List (Str×Value)):∀(m:Str->Option Value) (n:Str),kindOf n=some .local->bindL kindOf binds m n=(binds.reverse.lookup n).or (m n):=by
 induction binds with
 |nil=>exactλ_ _ _=>rfl
 |cons p r o=>
  rw[λm n h=>(o _ n h).trans ?_,[VZ,List.lookup_append,Option.or_assoc],Ve _ ?_,];by_cases q:n=p.1
  ·rw[[List.lookup,Wb.mpr q],(congrFun (Vb (q▸h)) n).trans (Vb q),]
  ·rw[List.lookup,Wt q];split;rw[U8 q,];rfl
def mI{kindOf:Str->Option NameKind}(binds:List (Str×Value)):∀(m:Str->Option Value) (n:Str),kindOf n=some .cell->bindC kindOf binds m n=(binds.reverse.lookup n).or (m n):=by
 induction binds with
 |nil=>exactλ_ _ _=>rfl
 |cons p r o=>
  rw[λm n h=>(o _ n h).trans ?_,[VZ,List.lookup_append,Option.or_assoc],Ve _ ?_,];by_cases q:n=p.1
  ·rw[[List.lookup,Wb.mpr q],(congrFun (U8 λe=>NameKind.noConfusion (VW (h.symm.trans ((Ve kindOf q).trans e)))) n).trans (Vb q),]
  ·rw[List.lookup,Wt q];split;rfl;rw[U8 q,]
def gQ{l:List (Str×Addr)}(h:l.Pairwise λx y=>x.2≠y.2):(l.map (·.2)).Nodup:=by rw[[List.Nodup,Ye],h,]
def xg{f:Addr}{fd:FuncData}{body:List Stmt}{names:List Str}{S:Scope}{args:List V}{Q:V->CS->Prop}(W:Base g)(J:fN (KK g) f fd body names S)(i:A.depth<recursionLimit)(u:fd.closure=[])
 (j:∀L,∀n∈names,fd.scope.names.lookup n=some .local\/(fd.scope.names.lookup n=some .cell/\((cellsFrom (L+1) fd.scope.names []).lookup n).isSome=true)) (C:args.length=names.length)
 (h:∀L,EX g (A.deeper (callEnvC fd L f)) (callEnvC fd L f) body ⟨(names.zip args).reverse,c.σ⟩ (λcf c'=>Q (gP cf) ⟨c.m,c'.σ⟩) iA)
 (O5:∀x∈fd.scope.names,x.2≠.free) (O6:∀L,((cellsFrom (L+1) fd.scope.names []).map (·.1)).Nodup):
 CA g A env (.raw (.ref f)) args c Q E:=λF₀ fv t O3 w F Z s hF st=>by
 cases(show fv=.ref f from O3);rw[kG J.at_ λoc od He ho=>?_,<-I w.length.trans C,];have y:∀x∈names.zip t,x.1∈names:=λx hx=>by have:=W6 (f:=(·.1)) hx;rwa [eH I] at this
 rw[X7 (codeAny_call_cells (fd:=fd) (body:=body) (vals:=t) (binds:=names.zip t) i ((st.cW W) _ _ ho) rfl (st.noLimit W) (codeRec_of (st.cW W) J.code) J.body (J.bind t I) u (λx hx=>j _ _ (y x hx)) (λzw U=>?_) J.co J.gen J.kind),dr U.done λz tk B _=>?_,3 B,<-k U.toInCall.keep,<-p U.toInCall.ns,];have D:∀a∈aU (callEnvC fd s.heap.objs.size f),a=s.heap.objs.size\/∃n,(n,a)∈cellsFrom (s.heap.objs.size+1) fd.scope.names []:=λa N=>by
  simp only[aU,Vc,Vn,VS] at N;rcases N with rfl|⟨⟨n,b⟩,⟨G,_⟩,rfl⟩
  ·rw[.inl rfl,]
  ·rw[.inr ⟨n,G⟩,]
 have d:∀n X,(names.zip args).reverse.lookup n=some X->∃v,(names.zip t).reverse.lookup n=some v/\Is F X v:=λn X e=>
  mF (F:=F) (l:=(names.zip args).reverse) (r:=(names.zip t).reverse) (by rw[V6,V6,eP C,eH I])
   (by rw[[V6,V6,j2 C,mG I],IsL.reverse (w.mono hF),]) e
 have Y:=st.enter (env':=callEnvC fd s.heap.objs.size f) (h':=z) (tk:=tk) (ff':=(A.deeper (callEnvC fd s.heap.objs.size f)).frames) (m:=(names.zip args).reverse) k
  (λa N=>by
   rcases D a N with rfl|⟨n,P⟩
   ·rw[y' p λo es ep e _=>?_,0 p,]
    exact⟨Va _,o,e⟩
   ·rw[⟨VP (U.above n a P),?_⟩,]
    refine ah (U.cell n a (lookup_of_mem_nodup (O6 _) P)) λo e _=>⟨o,e⟩)
  (by rw[2 aU,[VX],⟨λq=>?_,gQ (List.Pairwise.filter _ U.apart)⟩,ah (Vn.mp q) λH G M=>?_,];rcases H with⟨n,b⟩;have:=U.above n b (VS.mp G).1;have M:b=s.heap.objs.size:=M;have h3:s.heap.objs.size<b:=this;rw[M] at h3;rw[VB _ h3,]) (eQ rfl) (j4 rfl J.kind)
  ⟨_,p,λn X P e=>by rw[ah (d n X e) λv v1 v2=>⟨v,by rw[mH _ _ _ P,v1];rfl,v2⟩,]⟩
  (λn b G M=>⟨_,U.cell n b G,λX e=>by rw[ah (d n X e) λv v1 v2=>⟨v,by rw[mI _ _ _ M,v1];rfl,v2⟩,]⟩)
  (λn b _ q X e=>U9 rfl (O5 _ (mem_of_lookup (show fd.scope.names.lookup n=some .free from q))))
 rw[T.run (h s.heap.objs.size) (.bot _) Y (λF' fl cf c' s' f1 iX xh hQ=>?_) λ_ _ _ _ _ _ _ _ e=>e.elim,⟨F',gP cf,⟨c.m,c'.σ⟩,f1,iX.gP,st.back xh f1 (eQ rfl),hQ⟩,]
def kM{K:Frag}{f:Addr}{fd:FuncData}{body:List Stmt}{names:List Str}{S:Scope}(o:fN K f fd body names S)(L:Addr):callEnv fd L f=bh S L fd.closure (fd.qualname++".<locals>.") (some f) fd.code (some L):=by unfold callEnv newEnv bh;simp only[o.scope,o.glob,o.LD]
def jr{K:Frag}{f:Addr}{fd:FuncData}{body:List Stmt}{names:List Str}{S:Scope}(o:fN K f fd body names S)(L:Addr):callEnvC fd L f=bh S L (cellsFrom (L+1) S.names []) (fd.qualname++".<locals>.") (some f) fd.code (some L):=by unfold callEnvC newEnv bh;simp only[o.scope,o.glob,o.LD]
def C'{f:Addr}{fd:FuncData}{body:List Stmt}{names:List Str}{S:Scope}{args:List V}{Q:V->CS->Prop}(d:Base g)(J:fN (KK g) f fd body names S)(C:A.depth<recursionLimit)
 (I:∀x∈S.names,x.2≠.cell) (U:∀n∈names,S.names.lookup n=some .local) (a:args.length=names.length) (b:V->CS->Prop) (e:∀X c',b X c'->(∃l,A.frames=some l)/\XE c.m E X c')
 (h:∀L o q fr,bV (bh S L o q (some f) fd.code fr)->o=fd.closure->rx g (A.deeper (bh S L o q (some f) fd.code fr)) (bh S L o q (some f) fd.code fr) body body ⟨(names.zip args).reverse,c.σ⟩ (λi c'=>Q (gP i) ⟨c.m,c'.σ⟩) b):
 kK g A env (.raw (.ref f)) args c Q E:=
 vU d J C (J.scope▸I) (J.scope▸U) a b e λL=>by rw[[kM J],h _ _ _ _ (p6 (J.scope▸J.kind)) rfl,]
def gr(h:((cellsFrom 0 names []).map (·.1)).Nodup)(n:Nat):((cellsFrom n names []).map (·.1)).Nodup:=by rwa [cellsFrom_names names 0 n [] [] rfl] at h
def zD{f:Addr}{fd:FuncData}{body:List Stmt}{names:List Str}{S:Scope}{args:List V}{Q:V->CS->Prop}(i:Base g)(C:fN (KK g) f fd body names S)(I:A.depth<recursionLimit)(U:fd.closure=[])
 (b:∀x∈S.names,x.2≠.free) (d:((cellsFrom 0 S.names []).map (·.1)).Nodup) (J:∀n∈names,S.names.lookup n=some .local\/S.names.lookup n=some .cell) (a:args.length=names.length)
 (h:∀L o q fn cd fr,bV (bh S L o q fn cd fr)->(∀x,S.names.lookup x=some .cell->(o.lookup x).isSome=true)->EX g (A.deeper (bh S L o q fn cd fr)) (bh S L o q fn cd fr) body ⟨(names.zip args).reverse,c.σ⟩ (λj c'=>Q (gP j) ⟨c.m,c'.σ⟩) iA):
 CA g A env (.raw (.ref f)) args c Q E:=
 xg i C I U (λL n k=>by
  rw[C.scope];exact(J n k).imp id λe=>⟨e,cellsFrom_some _ _ _ (.inl e)⟩) a (λL=>by
  rw[jr C];exact h _ _ _ _ _ _ (p6 (C.scope▸C.kind)) λx e=>cellsFrom_some _ _ _ (.inl e)) (C.scope▸b) λL=>by rw[C.scope];exact gr d _
inductive Dc(g:G0):V->Prop
 |bt (id:String):Dc g (.raw (.builtin id))
 |ty (T:String):Dc g (.raw (.type T))
 |k {a:Addr}:keepIn (KK g) (.ref a)=true->Dc g (.raw (.ref a))
def CW(g:G0)(A:Around)(env:Env)(pos:Pos)(f:V)(first:List V)(args:List Expr)(c:CS)(Q:V->CS->Prop)(E:V->CS->Prop):Prop:=
 ∀F₀ o C,Is F₀ f o->IsL F₀ first C->T g A env Is F₀ (callWith pos o C (backTo pos (starEach args env)) []) c Q E
def Hf(a:Base g)(hf:Dc g f)(h:CA g A env f first c Q E):CW g A env pos f first [] c Q E:=λF₀ C U o J F Z s b st=>by
 have I:=h F₀ C U o J F Z s b st;rw[<-VR U] at I;cases hf with
 |bt id=>cases(show C=.builtin id from o);exact Calls.callWith_builtin rfl (evalArgs_nil3 I)
 |ty id=>cases(show C=.type id from o);exact PySem.callWith_type rfl (evalArgs_nil3 I)
 |k d=>cases(show C=.ref _ from o);rw[callWith_K0 (st.cW a) d I,]
def p7(z:Base g)(hf:Dc g f)(h:AR g A env pos (e::rest) c (λvs x=>CA g A env f (first++vs) x Q E) E)
 (t:starEach (e::rest) env=(false,eval e env)::starEach rest env:=by rfl) (d:(backTo pos (starEach rest env)).any (·.1)=false:=by rfl):CW g A env pos f first (e::rest) c Q E:=λF₀ y H j r F Z s u st=>by
 have p:(backTo pos (starEach (e::rest) env)).any (·.1)=false:=by rw[t];show(false||(backTo pos (starEach rest env)).any (·.1))=false;rw[d];rfl
 cases hf with
 |bt id=>
  cases(show y=.builtin id from j);refine Calls.callWith_builtin p ?_;rw[t];refine XG ?_;have h:T g A env IsL bot (spliced (backTo pos (starEach (e::rest) env))) c _ E:=h;rw[t] at h;exact T.run h (.bot _) st (λv B vs x D i n m w=>T.run (w v _ _ (j.mono (u.trans i)) (IsL.append (r.mono (u.trans i)) n)) (.refl _) m (λC b l I q J U o a=>⟨C,l,I,i.trans J,U,o,a⟩)
   (λC b l I q J U o a=>⟨C,l,I,i.trans J,U,o,a⟩)) λC b l I q J U o a=>⟨C,l,I,J,U,o,a⟩
 |ty id=>
  cases(show y=.type id from j);refine PySem.callWith_type p ?_;rw[t];refine XG ?_;have h:T g A env IsL bot (spliced (backTo pos (starEach (e::rest) env))) c _ E:=h;rw[t] at h;exact T.run h (.bot _) st (λv B vs x D i n m w=>T.run (w v _ _ (j.mono (u.trans i)) (IsL.append (r.mono (u.trans i)) n)) (.refl _) m (λC b l I q J U o a=>⟨C,l,I,i.trans J,U,o,a⟩)
   (λC b l I q J U o a=>⟨C,l,I,i.trans J,U,o,a⟩)) λC b l I q J U o a=>⟨C,l,I,J,U,o,a⟩
 |k G=>
  cases(show y=.ref _ from j);refine callWith_K (st.cW z) G ?_ t d;exact T.run h (.bot _) st (λv B vs x D i n m w=>⟨m.cW z,T.run (w v _ _ (j.mono (u.trans i)) (IsL.append (r.mono (u.trans i)) n)) (.refl _) m (λC b l I q J U o a=>⟨C,l,I,i.trans J,U,o,a⟩)
   (λC b l I q J U o a=>⟨C,l,I,i.trans J,U,o,a⟩)⟩) λC b l I q J U o a=>⟨C,l,I,J,U,o,a⟩
def vV(h:EV g A env o c (λf I=>CW g A env pos f [] args I Q E) E)
 (C:eval (.Call o args [] pos) env=(do callWith pos (<-eval o env) [] (backTo pos (starEach args env)) (backToKw pos (keywordEach [] env))):=by rfl):EV g A env (.Call o args [] pos) c Q E:=
 T.of_eq C (T.bind (T.mono h (λf I J U a d b=>J U a [] b .nil) λ_ _ e=>e))
def rM
 (h:EV g A env o c (λI d=>iF g A env RM (λo=>getMethod o name pl) I d (λJ i=>CW g A env pos J.1 J.2 args i Q E) E) E)
 (U:eval (.Call (.Attribute o name C) args [] pos) env=(do let I<-eval o env;standAt C.atName;let(f,first) <-holding [I] (getMethod I name pl);callWith pos f first (backTo pos (starEach args env)) (backToKw pos (keywordEach [] env))):=by rfl):
 EV g A env (.Call (.Attribute o name C) args [] pos) c Q E:=
 T.of_eq U (T.bind (T.mono h (λI d k l a q m=>T.at (T.bind (T.hold (T.mono (k l a m) (λJ i n p b r j=>n p b.1 b.2 j.1 j.2) λ_ _ e=>e)))) λ_ _ e=>e))
end
def bR{m:List (Str×V)}{x:Str}{X:V}:((x,X)::m).lookup x=some X:=by simp
def bI{m:List (Str×V)}{x y:Str}{Y:V}{r:Option V}(h:(x==y)=false)(e:m.lookup x=r):((y,Y)::m).lookup x=r:=by simp only[List.lookup,h];rw[e,]
section
variable{g:G0}{A:Around}{env:Env}{α β vI vJ:Type}{R:ai->β->α->Prop}{R':ai->vJ->vI->Prop}{F₀:ai}{c:CS}{E:V->CS->Prop}
def uc(h:Q (.int (x+y)) c):bN g A env Is (binaryOp .Add) (.int x) (.int y) c Q E:=fE λF₀ t u F Z s o st=>by rw[PyProof.Rows.add_int ⟨F,.int (x+y),c,.refl _,⟨_,rfl⟩,st.toks _,h⟩,]
def ud(h:Q (.int (x-y)) c):bN g A env Is (binaryOp .Sub) (.int x) (.int y) c Q E:=fE λF₀ t u F Z s o st=>by rw[PyProof.Rows.sub_int ⟨F,.int (x-y),c,.refl _,⟨_,rfl⟩,st.toks _,h⟩,]
def ue(o:IntMulOk x y)(h:Q (.int (x*y)) c):bN g A env Is (binaryOp .Mult) (.int x) (.int y) c Q E:=fE λF₀ t u F Z s C st=>by rw[PyProof.Rows.mul_int ⟨F,.int (x*y),c,.refl _,⟨_,rfl⟩,st.toks _,h⟩ o,]
def mJ(o:y≠0)(h:Q (.int (x.fmod y)) c):bN g A env Is (binaryOp .Mod) (.int x) (.int y) c Q E:=fE λF₀ t u F Z s C st=>by rw[PyProof.Rows.mod_int o ⟨F,.int (x.fmod y),c,.refl _,⟨_,rfl⟩,st.toks _,h⟩,]
def rN(o:y≠0)(C:Builtin.divisionGoesByPylong x y=false)(h:Q (.int (x.fdiv y)) c):bN g A env Is (binaryOp .FloorDiv) (.int x) (.int y) c Q E:=fE λF₀ t u F Z s I st=>by rw[PyProof.Rows.floordiv_int o ⟨F,.int (x.fdiv y),c,.refl _,⟨_,rfl⟩,st.toks _,h⟩ (.inl C),]
def xi(h:Q (.bool (decide (x=y))) c):bN g A env Is (compareOp .Eq) (.int x) (.int y) c Q E:=fE λF₀ t u F Z s o st=>by rw[PyProof.Rows.eq_int ⟨F,.bool (decide (x=y)),c,.refl _,rfl,st,h⟩,]
def xj(h:Q (.bool (!decide (x=y))) c):bN g A env Is (compareOp .NotEq) (.int x) (.int y) c Q E:=fE λF₀ t u F Z s o st=>by rw[PyProof.Rows.ne_int ⟨F,.bool (!decide (x=y)),c,.refl _,rfl,st,h⟩,]
def xk(h:Q (.bool (decide (x<y))) c):bN g A env Is (compareOp .Lt) (.int x) (.int y) c Q E:=fE λF₀ t u F Z s o st=>by rw[PyProof.Rows.lt_int ⟨F,.bool (decide (x<y)),c,.refl _,rfl,st,h⟩,]
def xl(h:Q (.bool (decide (x<=y))) c):bN g A env Is (compareOp .LtE) (.int x) (.int y) c Q E:=fE λF₀ t u F Z s o st=>by rw[PyProof.Rows.le_int ⟨F,.bool (decide (x<=y)),c,.refl _,rfl,st,h⟩,]
def xm(h:Q (.bool (decide (y<x))) c):bN g A env Is (compareOp .Gt) (.int x) (.int y) c Q E:=fE λF₀ t u F Z s o st=>by rw[PyProof.Rows.gt_int ⟨F,.bool (decide (y<x)),c,.refl _,rfl,st,h⟩,]
def xn(h:Q (.bool (decide (x=y))) c):bN g A env Is (compareOp .Eq) (.str x) (.str y) c Q E:=pO λF₀ t u F Z s o st=>by rw[PyProof.Rows.eq_str ⟨F,.bool (decide (x=y)),c,.refl _,rfl,st,h⟩,]
def xo(h:Q (.bool (!decide (x=y))) c):bN g A env Is (compareOp .NotEq) (.str x) (.str y) c Q E:=pO λF₀ t u F Z s o st=>by rw[PyProof.Rows.ne_str ⟨F,.bool (!decide (x=y)),c,.refl _,rfl,st,h⟩,]
def uf(hz:x.length+y.length<=sizeLine)(h:Q (.str (x++y)) c):bN g A env Is (binaryOp .Add) (.str x) (.str y) c Q E:=pO λF₀ t u F Z s o st=>by rw[PyProof.Rows.add_str (λC I=>⟨F,.str (x++y),c,.refl _,⟨_,rfl⟩,st.toks _,h⟩) hz,]
noncomputable def V.isNone:V->Bool
 |.none=>true
 |_=>false
noncomputable def V.solid:V->Bool
 |.raw _=>false
 |.any=>false
 |_=>true
def V.Dd(hs:X.solid=true)(i:Is F X v):(v==Value.none)=X.isNone:=by
 induction X using Mine.V.casesOn with
 |none=>cases i;rfl
 |bool b=>cases i;rfl
 |int b=>refine aw i λt C=>?_;rw[0 i,3 C,];rfl
 |str b=>refine aw i λt I=>?_;rw[0 i,3 I,];rfl
 |tup l=>refine jW i λa o f n J _=>?_;rw[0 i,3 J,];rfl
 |lst l=>refine jW i λa o f n U _=>?_;rw[0 i,3 U,];rfl
 |loc a=>cases i;rfl
 |raw w=>injection hs
 |any=>injection hs
 |mi a b c=>refine jW i λr t u x d _=>?_;rw[0 i,3 d,];rfl
 |fL a b c=>refine jW i λr t u x e _=>?_;rw[0 i,3 e,];rfl
def ug(hs:X.solid=true)(h:Q (.bool X.isNone) c):bN g A env Is (compareOp .Is) X .none c Q E:=λF₀ a b o C F Z s I st=>by cases(show b=.none from C);rw[is_none ⟨F,.bool X.isNone,c,.refl _,?_,st,h⟩,[V.Dd hs o],rfl,]
def St.list(st:St g ff env F Z c s)(h:c.σ a=some ⟨t,.list l⟩):
 ∃vs n,s.heap.get? a=some (bM vs n)/\s.heap.IsList a vs/\IsL F l vs.toList/\vs.size=l.length:=by
 rw[ah (st.obj _ _ h) λo J C=>dr C λvs n I U=>?_,0 C,3 I,⟨vs,n,J,⟨_,J,rfl,n,rfl⟩,U,by rw[<-Vl,U.length]⟩,]
def rO(o:c.σ a=some ⟨t,.list l⟩)(h0:0<=i)(C:i<2^63)(I:l[i.toNat]?=some X)(h:Q X c):bN g A env Is getItem (.loc a) (.int i) c Q E:=zk λF₀ t F Z s e st=>by rw[iz (st.list o) λf n j J U k=>ah (U.get I) λx b d=>?_,wpAny_getItem_list J h0 C (by simpa using b) ⟨F,X,c,.refl _,d,st,h⟩,]
def p8(C:c.σ a=some ⟨t,.list l⟩)(h0:i<0)(I:-2^63<=i)(J:seqIndex? i l.length=some j)(U:l[j]?=some X)(h:Q X c):bN g A env Is getItem (.loc a) (.int i) c Q E:=zk λF₀ t F Z s k st=>by rw[iz (st.list C) λo n m p b d=>ah (b.get U) λx e f=>?_,kde_getNeg (vs:=o.toList) (by trivial) h0 I (by rw[[Vl,d],J,]) e ⟨F,X,c,.refl _,f,st,h⟩,]
def kN(h0:0<=i)(d:i<2^63)(e:l[i.toNat]?=some X)(h:Q X c):bN g A env Is getItem (.lst l) (.int i) c Q E:=λF₀ u v J U F Z s b st=>by rw[iU J λa o r n C f j k m=>?_,0 J,3 C,aw U λt I=>?_,0 U,3 I,ah (m.get e) λx p q=>wpAny_getItem_list ⟨o,st.fr _ _ (b _ _ f),Ve Obj.cls j,n,k⟩ h0 d (by simpa using p) ⟨F,X,c,.refl _,q.mono b,st,h⟩,]
def qa(h0:i<0)(f:-2^63<=i)(k:seqIndex? i l.length=some j)(m:l[j]?=some X)(h:Q X c):bN g A env Is getItem (.lst l) (.int i) c Q E:=λF₀ u v J U F Z s b st=>by rw[iU J λa o d n C p q y e=>?_,0 J,3 C,aw U λt I=>?_,0 U,3 I,ah (e.get m) λx r w=>kde_getNeg (vs:=d.toList) ⟨o,st.fr _ _ (b _ _ p),Ve Obj.cls q,n,by trivial⟩ h0 f (by rw[[e.length],k,]) r ⟨F,X,c,.refl _,w.mono b,st,h⟩,]
def gR(h0:-2^63<=i)(e:i<2^63)(f:seqIndex? i l.length=some j)(k:l[j]?=some X)(h:Q X c):bN g A env Is getItem (.tup l) (.int i) c Q E:=λF₀ u v J U F Z s b st=>by rw[iU J λa o y n C m p q d=>?_,0 J,3 C,aw U λt I=>?_,0 U,3 I,ah (d.get k) λx r w=>PyProof.Rows.getItem_tuple ⟨o,st.fr _ _ (b _ _ m),Ve Obj.cls p,n,q⟩ h0 e (by rw[<-Vl,d.length];rw[f,]) (by simpa using r) ⟨F,X,c,.refl _,w.mono b,st,h⟩,]
end
def IsL.pick(h:IsL F l vs)(idx:List Nat):IsL F (idx.filterMap λi=>l[i]?) (idx.filterMap λi=>vs[i]?):=by
 induction idx with
 |nil=>rfl
 |cons i r o=>
  rw[XY,XY];by_cases q:i<l.length
  ·rw[aw (h.get (U' q)) λv a=>?_,]
   rw[[U' q,a.1],.cons a.2 o,]
  ·rw[[Xu (Wn q),Xu (h.length▸Wn q)],o,]
noncomputable def gs(l:List V)(lo hi st:Option Int):List V:=(sliceRange (sliceBounds lo hi st l.length).1 (sliceBounds lo hi st l.length).2.1 (sliceBounds lo hi st l.length).2.2).filterMap λi=>l[i]?
def IsL.slice(h:IsL F l vs.toList)(lo hi st:Option Int):IsL F (gs l lo hi st) (slicePick vs lo hi st).toList:=by
 have e:vs.size=l.length:=by rw[<-Vl,h.length]
 rw[2 gs slicePick,[e],<-this IsL.pick h (sliceRange (sliceBounds lo hi st l.length).1 (sliceBounds lo hi st l.length).2.1 (sliceBounds lo hi st l.length).2.2),]
 simpa using this
section
variable{g:G0}{A:Around}{env:Env}{α β vI vJ:Type}{R:ai->β->α->Prop}{R':ai->vJ->vI->Prop}{F₀:ai}{c:CS}{E:V->CS->Prop}
def fX{a:Addr}{t:Tag}{l:List V}{n:Str}{id:String}{pl:Sem Bool}{Q:V×List V->CS->Prop}(C:Slot "list" n id)(I:typeOf (.builtin id)=pure (.type "method_descriptor"))(b:c.σ a=some ⟨t,.list l⟩)
 (h:Q (.raw (.builtin id),[.loc a]) c):iF g A env RM (λo=>getMethod o n pl) (.loc a) c Q E:=o6 λF₀ F Z s d st=>by
 rw[iz (st.list b) λf n U i j k=>Yg ⟨_,U,rfl⟩ PySem.F.plainAttrs_list C I (λa e=>by rw[1 e,⟨_,U,rfl⟩,]) ⟨F,(.raw (.builtin id),[.loc a]),c,.refl _,⟨rfl,.cons rfl .nil⟩,st,h⟩,]
def xp(C:c.σ a=some ⟨t,.list l⟩)(h:Q (.raw (.builtin "list.append"),[.loc a]) c):iF g A env RM (λo=>getMethod o "append" pl) (.loc a) c Q E:=
 fX PySem.F.slot_list_append PySem.F.type_list_append C h
def Hg(C:c.σ a=some ⟨t,.list l⟩)(h:Q (.raw (.builtin "list.pop"),[.loc a]) c):iF g A env RM (λo=>getMethod o "pop" pl) (.loc a) c Q E:=
 fX PySem.F.slot_list_pop PySem.F.type_list_pop C h
def xq(C:c.σ a=some ⟨t,.list l⟩)(h:Q (.raw (.builtin "list.extend"),[.loc a]) c):iF g A env RM (λo=>getMethod o "extend" pl) (.loc a) c Q E:=
 fX PySem.F.slot_list_extend PySem.F.type_list_extend C h
def pf(o:c.σ a=some ⟨t,.list l⟩)(hz:l.length<=100000)(h:Q .none ⟨c.m,c.σ.set a ⟨t,.list (l++[X])⟩⟩):
 CA g A env (.raw (.builtin "list.append")) [.loc a,X] c Q E:=vM λF₀ _ C F Z s I st=>by
 rw[iz (st.list o) λf n J i U b=>append_at J (λj d e=>⟨F,.none,_,.refl _,rfl,st.upd (z:=⟨t,.list (l++[X])⟩) o d e ⟨_,_,rfl,?_⟩ _,h⟩) (by rw[[b,VN],kl hz,]),[Array.toList_push],IsL.append U (.cons (C.mono I) .nil),]
def lB(vs:Array Value):(vs.eraseIdxIfInBounds (vs.size-1)).toList=vs.toList.dropLast:=by
 by_cases h:vs.size=0
 ·have:=Array.eq_empty_of_size_eq_zero h
  subst this;rfl
 ·have o:vs.size-1<vs.size:=by exact ax [.ne af gp,.sub aj af aF] (.lt aj af) (.s 1 (.l [1]) (.s 2 (.l [0,1,1,1]) (.l [0,1,0,1]))) tt [_,_] h rfl
  simp only[Array.eraseIdxIfInBounds,o,dif_pos];rw[Array.toList_eraseIdx,List.eraseIdx_eq_dropLast (by rw[[Vl],ax [.lt af aj,.sub af aj aF] (.eq (.p af aF) aj) (.s 0 (.l [1,0,1]) (.l [1,1])) tt [_,_] o rfl,])]
def IsL.dropLast(a:IsL F l r):IsL F l.dropLast r.dropLast:=by rw[[List.dropLast_eq_take,List.dropLast_eq_take,a.length],a.take _,]
def Hh(J:c.σ a=some ⟨t,.list (l++[X])⟩)(hz:l.length<=100000)(h:Q X ⟨c.m,c.σ.set a ⟨t,.list l⟩⟩):
 CA g A env (.raw (.builtin "list.pop")) [.loc a] c Q E:=LG λF₀ F Z s k st=>by
 rw[iz (st.list J) λo n C p U I=>?_,];rw[U7,List.length_singleton] at I;rw[ah (U.get (i:=l.length) (x:=X) (by simp)) λx b d=>?_,];have e:o[o.size-1]?=some x:=by rw[I,Nat.add_sub_cancel];simpa using b
 have f:((s.heap.update a (Obj.mapSeq λj=>j.eraseIdxIfInBounds (o.size-1))).get? a)=some (bM (o.eraseIdxIfInBounds (o.size-1)) _):=VM _ C rfl;rw[call_meets PySem.F.slot_list_pop ⟨_,C,rfl⟩ PySem.F.entry_list_pop (PySem.F.args_list_pop_1 _) (PySem.MeetsSeq.list_pop_last a o n x e (by rw[[I,VN],kp hz,])) ⟨C,F,X,_,.refl _,d,st.upd (z:=⟨t,.list l⟩) J (Vp ..) f ⟨_,_,rfl,?_⟩ _,h⟩,[lB],<-this U.dropLast,]
 rwa [List.dropLast_concat] at this
def SeqAt(c:CS)(x:V)(l:List V):Prop:=x=.lst l\/(∃a t,x=.loc a/\c.σ a=some ⟨t,.list l⟩)
def St.seq(st:St g ff env F Z c s)(h:SeqAt c x l)(i:Is F₀ x v)(I:c8 F₀ F):
 ∃a vs n,v=.ref a/\s.heap.get? a=some (bM vs n)/\IsL F l vs.toList/\vs.size=l.length:=by
 rcases h with rfl|⟨a,t,rfl,U⟩
 ·rw[mj v i λa vs n C J o=>⟨a,vs,n,rfl,st.fr _ _ (I _ _ C),o.mono I,by rw[<-Vl,o.length]⟩,]
 ·cases(show v=.ref a from i)
  rw[iz (st.list U) λvs n C b J o=>⟨a,vs,n,rfl,C,J,o⟩,]
def xr(d:c.σ a=some ⟨t,.list l⟩)(f:SeqAt c X r)(hz:l.length+r.length<=100000)(h:Q .none ⟨c.m,c.σ.set a ⟨t,.list (l++r)⟩⟩):
 CA g A env (.raw (.builtin "list.extend")) [.loc a,X] c Q E:=vM λF₀ i j F Z s q st=>by
 rw[iz (st.list d) λI n J B u U=>jX i (st.seq f j q) λb C m v w e=>?_,];have y:((s.heap.update a (Obj.mapSeq λx=>x++C)).get? a)=some (bM (I++C) _):=VM _ J rfl;have o:Builtin.List.listTooLong (I.size+C.size)=false:=by rw[2 Builtin.List.listTooLong,[U,e],];simp only[decide_eq_false_iff_not,ge_iff_le,X5,gt_iff_lt,VV,VN];rw[ax [.le (.p af aj) aE] (.le (.p af aj) (.k 16777216)) (.l [1,1]) tt [_,_] hz,]
 refine call_meets PySem.F.slot_list_extend ⟨_,J,rfl⟩ PySem.F.entry_list_extend (PySem.F.args_list_extend_2 ..) (PySem.AutoSeq1.list_extend_list_list_0 a I n b C m (by rw[o,Bool.and_false];decide) (by rw[[U,VN],ax [.le (.p af aj) aE] (.le af (.k 16777216)) (.l [1,1]) tt [_,_] hz,]) (by rw[[U,e,VN],ax [.le (.p af aj) aE] (.le (.p af aj) (.k 16777217)) (.l [1,1]) tt [_,_] hz,]))
  ⟨J,v,F,.none,_,.refl _,rfl,st.upd (z:=⟨t,.list (l++r)⟩) d (Vp ..) y ⟨_,_,rfl,?_⟩ _,h⟩
 rw[[Array.toList_append],IsL.append u w,]
def uh(I:SeqAt c x l)(hz:l.length<=1000000)(h:Q (.int l.length) c):CA g A env (.raw (.builtin "len")) [x] c Q E:=j0 λF₀ J U F Z s b st=>by rw[jX J (st.seq I U b) λa d n e f C=>PyProof.Rows.len_list (items:=d) ⟨_,e,rfl,n,rfl⟩ (by rw[[C],Int.lt_of_le_of_lt (Ob hz) (by decide),]) ⟨F,.int l.length,c,.refl _,⟨_,by rw[C]⟩,st.toks _,h⟩,]
def ui{a:Addr}{t:Tag}{l:List V}{i:Int}{X:V}{Q:Unit->CS->Prop}(C:c.σ a=some ⟨t,.list l⟩)(h0:0<=i)(o:i<l.length)(hz:l.length<=1000000)(h:Q () ⟨c.m,c.σ.set a ⟨t,.list (l.set i.toNat X)⟩⟩):
 Cf g A env RU setItem (.loc a) (.int i) X c Q E:=vK λF₀ k w U F Z s b st=>by
 rw[iz (st.list C) λd n I p e J=>?_,];have q:=J▸(Int.toNat_lt h0).mpr o;have f:((s.heap.update a (Obj.mapSeq λj=>j.setIfInBounds i.toNat w)).get? a)=some (bM (d.setIfInBounds i.toNat w) _):=VM _ I rfl;rw[ki_setAt (n:=n) I h0 (Int.lt_of_lt_of_le o (Int.le_trans (Ob hz) (by decide))) (J.symm▸o) ⟨F,(),_,.refl _,trivial,st.upd (z:=⟨t,.list (l.set i.toNat X)⟩) C (Vp ..) f ⟨_,_,rfl,?_⟩ _,h⟩,[Array.toList_setIfInBounds],e.set _ (U.mono b),]
def qb(i:SeqAt c x l)(hz:l.length<=1000000)(h:Q (.tup l) c):CA g A env (.raw (.type "tuple")) [x] c Q E:=j0 λF₀ j k F Z s m st=>by rw[jX j (st.seq i k m) λa C n p q r=>call_tuple_list (items:=C) ⟨_,p,rfl,n,rfl⟩ (λd t=>?_) (by rw[[r,VN],kl hz,]),<-J st.jk (h':=d) (λb o _ e=>t b o e) s.toks,aV (J.iD (cT C 0) rfl) λf U=>⟨_,.tup l,c,f,⟨_,_,C,0,rfl,ai.ae ..,rfl,rfl,q.mono f⟩,U,h⟩,]
def qe(h:Q (.tup l) c):CA g A env (.raw (.type "tuple")) [.tup l] c Q E:=j0 λF₀ U b F Z s o st=>by rw[mj U b λa I n J d e=>call_tuple_tup (items:=I) ⟨_,st.fr _ _ (o _ _ J),rfl,n,rfl⟩ ⟨F,.tup l,c,.refl _,⟨a,_,I,n,rfl,o _ _ J,rfl,d,e.mono o⟩,st,h⟩,]
def rP(t':Tag)(J:SeqAt c x l)(hz:l.length<=1000000)(h:∀a,c.σ a=none->Q (.loc a) ⟨c.m,c.σ.set a ⟨t',.list l⟩⟩):CA g A env (.raw (.type "list")) [x] c Q E:=j0 λF₀ U d F Z s f st=>by rw[jX U (st.seq J d f) λa r n i j k=>call_list_seq a (.inl rfl) i rfl rfl (λI c' p q=>?_) (by rw[[k,VN],kl hz,]),<-C st.jk (h':=I) (λb o _ e=>p b o e) s.toks,⟨F,.loc _,_,.refl _,rfl,C.gO (y:=⟨t',.list l⟩) q ⟨_,_,rfl,j⟩ st.fresh.1 st.fresh.2.1 st.di,h _ st.fresh.2.2⟩,]
def uj(t:l≠[])(w:r≠[])(hz:l.length+r.length<=1000000)(h:Q (.tup (l++r)) c):bN g A env Is (binaryOp .Add) (.tup l) (.tup r) c Q E:=λF₀ u v x y F Z s o st=>by
 rw[mj u x λa C n z G d=>mj v y λb I m B H e=>?_,];have f:C.size=l.length:=by rw[<-Vl,d.length]
 have i:I.size=r.length:=by rw[<-Vl,e.length]
 have D:¬C.isEmpty=true:=by rw[WW,f];intro q;rw[t (Wv.mp q),]
 have j:¬I.isEmpty=true:=by rw[WW,i];intro q;rw[w (Wv.mp q),]
 rw[aV (st.iD (cT (C++I) 0) rfl) λJ U=>PySem.P.add_tuple (n:=n) (n2:=m) (st.fr _ _ (o _ _ z)) (st.fr _ _ (o _ _ B)) D j ⟨_,.tup (l++r),c,J,⟨_,_,C++I,0,rfl,ai.ae ..,rfl,rfl,by rw[[Array.toList_append],IsL.append (d.mono (o.trans J)) (e.mono (o.trans J)),]⟩,U,h⟩ (by rw[[f,i,VN],ax [.le (.p af aj) (.k 1000000)] (.le (.p af aj) (.k 16777216)) (.l [1,1]) tt [_,_] hz,]),]
def rQ(e:l≠[])(hz:l.length<=1000000)(h:Q (.tup l) c):bN g A env Is (binaryOp .Add) (.tup l) (.tup []) c Q E:=λF₀ u v f i F Z s o st=>by
 rw[mj u f λa C n I j J=>mj v i λb U m d w k=>?_,];have p:C.size=l.length:=by rw[<-Vl,J.length]
 have r:U.size=0:=by rw[<-Vl,k.length];rfl
 have t:¬C.isEmpty=true:=by rw[WW,p];intro q;rw[e (Wv.mp q),]
 refine concat_meets ⟨_,st.fr _ _ (o _ _ I),rfl⟩ ⟨_,st.fr _ _ (o _ _ d),rfl⟩ noFill_tuple_add seq_tuple_add PySem.F.slot_tuple_add PySem.F.entry_tuple_add (PySem.F.args_tuple_add_2 ..)
  (tuple_addW1 a b C U n m none none #[] #[] t (by rw[WW,r])) ⟨st.fr _ _ (o _ _ I),st.fr _ _ (o _ _ d),F,.tup l,c,.refl _,⟨a,_,C,n,rfl,o _ _ I,rfl,j,J.mono o⟩,st,h⟩
def rR(t':Tag)(C:SeqAt c x l)(I:SeqAt c y r)(hz:l.length+r.length<=1000000)(h:∀a,c.σ a=none->Q (.loc a) ⟨c.m,c.σ.set a ⟨t',.list (l++r)⟩⟩):
 bN g A env Is (binaryOp .Add) x y c Q E:=λF₀ u v J U F Z s o st=>by
 rw[jX u (st.seq C J o) λa d n e f i=>jX v (st.seq I U o) λb j m q t w=>?_,PySem.P.add_list (n:=n) (n2:=m) e q ⟨F,.loc _,_,.refl _,rfl,st.c9 (bM (d++j) 0) (y:=⟨t',.list (l++r)⟩) ⟨_,_,rfl,?_⟩,h _ st.fresh.2.2⟩ (by rw[[i,w,VN],ax [.le (.p af aj) (.k 1000000)] (.le (.p af aj) (.k 16777216)) (.l [1,1]) tt [_,_] hz,]),[Array.toList_append],IsL.append f t,]
inductive iG:V->Option Int->Prop
 |none:iG .none none
 |int (i:Int):iG (.int i) (some i)
def iG.is(h:iG x o)(i:Is F x v):IsPart v o:=by
 cases h with
 |none=>cases i;exact .none
 |int j=>refine aw i λt C=>?_;rw[0 i,3 C,.int j t,]
def EP(g:G0)(A:Around)(env:Env)(e:Option Expr)(c:CS)(Q:V->CS->Prop)(E:V->CS->Prop):Prop:=T g A env Is bot (evalPart e env) c Q E
def De(h:Q .none c)(o:evalPart none env=pure .none:=rfl):EP g A env none c Q E:=λF Z s C st=>by rw[[o],U6 ⟨F,.none,c,.refl _,rfl,st,h⟩,]
def Df(h:EV g A env e c Q E)(o:evalPart (some e) env=eval e env:=rfl):EP g A env (some e) c Q E:=T.of_eq o h
def zE{lo hi st:Option Expr}{pos:Pos}{Q:V->CS->Prop}(h:EP g A env lo c (λx c1=>EP g A env hi c1 (λy J=>EP g A env st J (λz G=>Q (.fL x y z) G) E) E) E):EV g A env (.Slice lo hi st pos) c Q E:=λF Z s h1 H=>by
 rw[wpAny_Slice (T.run h h1 H (λF1 a x c1 s1 L ia M h1=>T.run h1 (.bot _) M (λF2 b y J P S U C h2=>T.run h2 (.bot _) C (λF3 d z G s3 W X Y h3=>?_) ?_) ?_) ?_),]
 ·rw[aV (Y.iD {cls:=.type "slice",dict:=none,data:=.fields #[a,b,d],slots:=#[]} rfl) λD q2=>⟨_,.fL x y z,G,(L.trans S).trans (W.trans D),?_,q2,h3⟩,]
  exact⟨_,a,b,d,rfl,ai.ae ..,ia.mono (S.trans (W.trans D)),U.mono (W.trans D),X.mono D⟩
 ·exactλj b l J P B U C h2=>⟨j,l,J,(L.trans S).trans B,U,C,h2⟩
 ·exactλj b l J P B U C h2=>⟨j,l,J,L.trans B,U,C,h2⟩
 ·exactλj b l J P B U C h2=>⟨j,l,J,B,U,C,h2⟩
def n8(t':Tag){x lo hi st:V}{l:List V}{lo' hi' o:Option Int}{Q:V->CS->Prop}(e:SeqAt c x l)(k1:iG lo lo')(k2:iG hi hi')(f:iG st o)(i:o≠some 0)(hz:l.length<=1000000)
 (h:∀a,c.σ a=none->Q (.loc a) ⟨c.m,c.σ.set a ⟨t',.list (gs l lo' hi' o)⟩⟩):bN g A env Is getItem x (.fL lo hi st) c Q E:=λF₀ u v j U F Z s b C=>by
 rw[jX u (C.seq e j b) λa d n k p q=>iU U λr D G H I t w z B=>?_,0 U,3 I,wpAny_getItem_list_slice (items:=d) ⟨_,k,rfl,n,rfl⟩ ⟨_,C.fr _ _ (b _ _ t),rfl,rfl⟩ (k1.is w) (k2.is z) (f.is B) i ⟨F,.loc _,_,.refl _,rfl,C.c9 (bM (slicePick d lo' hi' o) 0) (y:=⟨t',.list (gs l lo' hi' o)⟩) ⟨_,_,rfl,p.slice ..⟩,h _ C.fresh.2.2⟩ (by rw[[q,VN],kl hz,]),]
def qf{l:List V}{a:Nat}{Q:V->CS->Prop}(k1:1<=a)(k2:a<=l.length)(hz:l.length<=1000000)(h:Q (.tup (l.drop a)) c):bN g A env Is getItem (.tup l) (.fL (.int a) .none .none) c Q E:=λF₀ u v w k F Z s e C=>by
 rw[mj u w λb f n x z m=>iU k λr B D G I y o J U=>aw o λt d=>?_,0 k o,3 I,3 d,3 J,3 U,];have p:f.size=l.length:=by rw[<-Vl,m.length]
 rw[aV (C.iD (cT (f.toList.drop a).toArray 0) rfl) λq i=>getItem_tuple_from (items:=f) ⟨_,C.fr _ _ (e _ _ x),rfl,n,rfl⟩ ⟨_,C.fr _ _ (e _ _ y),rfl,rfl⟩ k1 (ax [.le af aj,.eq aC aj] (.le af aC) (.l [1,1,0,1]) tt [_,_,_] k2 p) ⟨_,.tup (l.drop a),c,q,⟨_,_,_,0,rfl,ai.ae ..,rfl,rfl,by simpa using(m.mono (e.trans q)).drop a⟩,i,h⟩ (by rw[[p,VN],kl hz,]),]
end
section
variable{g:G0}{A:Around}{env:Env}{α β vI vJ:Type}{R:ai->β->α->Prop}{R':ai->vJ->vI->Prop}{F₀:ai}{c:CS}{E:V->CS->Prop}
def zF(Inv:Nat->CS->Prop)(h0:∃n,Inv n c)
 (step:∀n c',Inv n c'->TS g A env d c' (λb k=>match b with
  |true=>EX g A env body k (λf J=>match f with|.next|.cont=>∃m,m<n/\Inv m J|.brk=>Q .next J|.ret X=>Q (.ret X) J) iA
  |false=>Q .next k) iA):iZ g A env (.While d body [] pos) c Q E:=λC Z s H st=>by
 refine aw h0 λn x=>?_;clear h0;refine wpAny_While (WE (R:=λr s'=>match r with|.ok f=>PT g A.frames env RF C Z Q f s'|.error e=>False)
  (codeAny_whileLoop (λn s=>∃F c',c8 C F/\St g A.frames env F Z c' s/\Inv n c') (λn s p=>?_) n ⟨C,c,.refl _,st,x⟩) (λr s' z=>?_))
 ·rw[6 p,λo=>cp o λF c' t q p=>?_,0 o,]
  rw[T.run (step n c' p) (.bot _) q (λy a b k L v B h w=>?_) λ_ _ _ _ _ _ _ _ e=>e.elim,];have e:=show a=b from B;subst e
  induction a with
  |true=>
   rw[[Vb rfl],T.run w (.bot _) h (λl f X J M D i I U=>?_) λ_ _ _ _ _ _ _ _ e=>e.elim,<-ff t.trans (v.trans D),]
   induction X with
   |next=>cases(show f=.next from i);revert U;refineλo=>ah o λm hm U=>?_;clear o;exact⟨m,hm,l,J,ff,I,U⟩
   |cont=>cases(show f=.cont from i);rw[6 U,λo=>ah o λm hm U=>?_,0 o,];exact⟨m,hm,l,J,ff,I,U⟩
   |brk=>cases(show f=.brk from i);exact⟨l,.next,J,ff,rfl,I,U⟩
   |ret X=>refine ah i λu j G=>?_;rw[0 i,3 j,];exact⟨l,.ret X,J,ff,⟨u,rfl,G⟩,I,U⟩
  |false=>
   rw[[U8 (Vu)],wpAny_execs_nil ⟨y,.next,k,t.trans v,rfl,h,w⟩,]
 ·induction r with
  |ok f=>exact z
  |error e=>exact z.elim
def zG(o:bV env)(C:env.kindOf x=some .cell)(I:(env.cells.lookup x).isSome=true)(hm:c.m.lookup x=some X)(h:Q X c)(J:(x==("__debug__":Str))=false:=by decide):
 EV g A env (.Name x pos) c Q E:=by
 rw[aw (We.mp I) λa U=>CP o C U hm h J,]
def zI(o:bV env)(C:env.kindOf x=some .cell)(I:(env.cells.lookup x).isSome=true)(h:Q ⟨(x,X)::c.m,c.σ⟩):As g A env (.Name x pos) X c Q E:=by rw[aw (We.mp I) λa J=>C0 o C J h,]
def uk(J:c.σ a=some ⟨t,.list l⟩)(h:bN g A env Is getItem (.loc a) y c Q E)(hs:∀o i,∃C,subscripted slice false o i=operate C (getItem o i):=by intro _ _;exact⟨_,rfl⟩):
 bN g A env Is (subscriptTail I slice) (.loc a) y c Q E:=λF₀ u v U b F Z s d st=>by
 rw[aw (hs u v) λC e=>?_,];cases(show u=.ref a from U);rw[iz (st.list J) λj n f k m p=>tail_any ⟨_,f,rfl⟩ slot_list_getitem.lookup (h F₀ _ v rfl b F Z s d st) e,]
def i0(h:bN g A env Is getItem (.lst l) y c Q E)(hs:∀o i,∃C,subscripted slice false o i=operate C (getItem o i):=by intro _ _;exact⟨_,rfl⟩):
 bN g A env Is (subscriptTail I slice) (.lst l) y c Q E:=λF₀ u v b d F Z s J st=>by
 rw[mj u b λa f n U j k=>aw (hs (.ref a) v) λC e=>tail_any ⟨_,st.fr _ _ (J _ _ U),rfl⟩ slot_list_getitem.lookup (h F₀ _ v ⟨a,_,f,n,rfl,U,rfl,j,k⟩ d F Z s J st) e,]
def eR(h:bN g A env Is getItem (.tup l) y c Q E)(hs:∀o i,∃C,subscripted slice false o i=operate C (getItem o i):=by intro _ _;exact⟨_,rfl⟩):
 bN g A env Is (subscriptTail I slice) (.tup l) y c Q E:=λF₀ u v b d F Z s J st=>by
 rw[mj u b λa f n U j k=>aw (hs (.ref a) v) λC e=>tail_any ⟨_,st.fr _ _ (J _ _ U),rfl⟩ slot_tuple_getitem.lookup (h F₀ _ v ⟨a,_,f,n,rfl,U,rfl,j,k⟩ d F Z s J st) e,]
end
def n9(P:Params):nsIn (KR P) mainGlobals "PaperFault"=some (some (.ref 88)):=by kernel_rfl
def Hi:bootBuiltins "len"=some (.builtin "len"):=by boot_fast
def Dg:bootBuiltins "list"=some (.type "list"):=by boot_fast
def zJ:bootBuiltins "tuple"=some (.type "tuple"):=by boot_fast
def xt:bootBuiltins "sorted"=some (.builtin "sorted"):=by boot_fast
def Hj:bootBuiltins "set"=some (.type "set"):=by boot_fast
def Hl:bootBuiltins "sum"=some (.builtin "sum"):=by boot_fast
def Hm:bootBuiltins "max"=some (.builtin "max"):=by boot_fast
def Hn:bootBuiltins "min"=some (.builtin "min"):=by boot_fast
def zK:bootBuiltins "range"=some (.type "range"):=by boot_fast
def Ho:bootBuiltins "zip"=some (.type "zip"):=by boot_fast
def qg:bootBuiltins "enumerate"=some (.type "enumerate"):=by boot_fast
def zL:bootBuiltins "super"=some (.type "super"):=PyProof.Rows.Boot.super
def Hp:bootBuiltins "int"=some (.type "int"):=by boot_fast
def Hq:bootBuiltins "str"=some (.type "str"):=by boot_fast
def Hr(P:Params):keepIn (KR P) (.ref 161)=true:=by kernel_rfl
def zM(h:l.length=n+1):∃x r,l=x::r/\r.length=n:=by
 induction l using List.casesOn with
 |nil=>cases h
 |cons x r=>exact⟨x,r,rfl,XT h⟩
def LQ(h:l.length=0):l=[]:=Wv.mp h
def zN{l:List Value}{n:Nat}(h:l.length=n):(List.range n).map (λi=>l.getD i .none)=l:=by rw[<-h];rw[List.ext_getElem (by rw[U2,Xw]) λi C o=>?_,[List.getElem_map,List.getElem_range,Vf,U' o],];rfl
noncomputable def Hs(S:Scope):Bool:=!S.isCoroutine&&!S.isGenerator&&decide (S.kind=.function)
def Dh(h:Hs S=true):S.isCoroutine=false/\S.isGenerator=false/\S.kind=.function:=
 have h:=VO.mp h;have o:=VO.mp h.1
 ⟨Bool.not_eq_true' _▸o.1,Bool.not_eq_true' _▸o.2,Wi h.2⟩
def FF{K:Frag}{f:Addr}{st:Stmt}{q:String}{C:List (String×Addr)}{m cd I:Value}{names:List Str}
 (h:∀v:Nat->Value,(K.lookup f,codeIn K cd (Str.ofString q),bindArgs (yW st q C m cd I) ⟨(List.range names.length).map v,[]⟩,Hs (aG st))=(some (kF st q C m cd I),true,pure (names.zip ((List.range names.length).map v)),true)):
 fN K f (yW st q C m cd I) (aT st) names (aG st):=
 have z:=XH (h λ_=>.none);have y:=XH z.2;have x:=Dh (XH y.2).2
 ⟨rfl,rfl,rfl,⟨_,_,_,z.1⟩,rfl,y.1,λo e=>by have:=(XH (XH (XH (h λi=>o.getD i .none)).2).2).1;rw[zN e] at this;rw[this,],x.1,x.2.1,x.2.2⟩
noncomputable abbrev cw:FuncData:=yW (met 2 0) "HeapError.__init__" [("__class__",25)] (kS "alikeheap.errors" 194) (.ref 36) (.ref 30)
def fj(P:Params):fN (KR P) 37 cw (aT (met 2 0)) (["self","what"]:List Str) (aG (met 2 0)):=FF λ_=>by kernel_rfl
noncomputable abbrev bZ:FuncData:=yW (met 4 0) "PaperFault.__init__" [("__class__",66)] (kS "alikeheap.errors" 194) (.ref 77) (.ref 71)
def eS(P:Params):fN (KR P) 78 bZ (aT (met 4 0)) (["self","what","place"]:List Str) (aG (met 4 0)):=FF λ_=>by kernel_rfl
noncomputable abbrev eT:FuncData:=yW (met 24 0) "Levels.__init__" [("__class__",514)] (kS "alikeheap.levels" 846) (.ref 525) (.ref 519)
def gS(P:Params):fN (KR P) 526 eT (aT (met 24 0)) (["self"]:List Str) (aG (met 24 0)):=FF λ_=>by kernel_rfl
noncomputable abbrev dw:FuncData:=yW (met 24 4) "Levels.look_at" [("__class__",514)] (kS "alikeheap.levels" 846) (.ref 554) (.ref 548)
def fk(P:Params):fN (KR P) 555 dw (aT (met 24 4)) (["self","n"]:List Str) (aG (met 24 4)):=FF λ_=>by kernel_rfl
noncomputable abbrev eU:FuncData:=yW (met 24 5) "Levels.join" [("__class__",514)] (kS "alikeheap.levels" 846) (.ref 562) (.ref 556)
def gT(P:Params):fN (KR P) 563 eU (aT (met 24 5)) (["self","a","b","reason"]:List Str) (aG (met 24 5)):=FF λ_=>by kernel_rfl
noncomputable abbrev c7:FuncData:=yW (dH 32) "_law_is_right" [] (kS "law_sa0046_01" 944) (.ref 620) .none
def lC(P:Params):fN (KR P) 621 c7 (aT (dH 32)) (["whys","nodes","events","homes","pair"]:List Str) (aG (dH 32)):=FF λ_=>by kernel_rfl
noncomputable abbrev i7:FuncData:=yW (dH 34) "law" [] (kS "law_sa0046_01" 944) (.ref 632) .none
def zO(P:Params):fN (KR P) 633 i7 (aT (dH 34)) (["script"]:List Str) (aG (dH 34)):=FF λ_=>by kernel_rfl
noncomputable abbrev vi(x:Nat):V:=.int (x:Int)
section
variable{g:G0}{A:Around}{env:Env}{c:CS}{E:V->CS->Prop}{Q:V->CS->Prop}
end
mutual
noncomputable def V.D:V->PyData
 |.int i=>.int i
 |.str s=>.str s
 |.tup l=>.tuple (V.DL l)
 |.lst l=>.list (V.DL l)
 |_=>.none
noncomputable def V.DL:List V->List PyData
 |[]=>[]
 |x::l=>x.D::V.DL l
end
mutual
noncomputable def V.d7:V->Bool
 |.none=>true
 |.int _=>true
 |.str s=>PyData.strOk s
 |.tup l=>V.eA l
 |.lst l=>V.eA l
 |_=>false
noncomputable def V.eA:List V->Bool
 |[]=>true
 |x::l=>x.d7&&V.eA l
end
def cJ{P:Prop}(h:false=true):P:=nomatch h
def band(h:(a&&b)=true):a=true/\b=true:=VO.mp h
def dY:V.eA l=true↔∀x∈l,x.d7=true:=by
 induction l with
 |nil=>exact⟨λ_ _ h=>(nomatch h),λ_=>rfl⟩
 |cons x l o=>exact VO.trans ((and_congr_right' o).trans (VF (p:=λx=>V.d7 x=true)).symm)
def Is.reads{F:ai}{h:Heap}(b:c8 F h.get?){x:V}:∀{v:Value},x.d7=true->Is F x v->∃C,Reads h v x.D C:=
 V.rec (motive_1:=λx=>∀{v:Value},x.d7=true->Is F x v->∃C,Reads h v x.D C) (motive_2:=λx=>∀{v:List Value},V.eA x=true->IsL F x v->∃C,ReadsAll h v (V.DL x) C)
  (λ_ e=>(show _=Value.none from e)▸⟨_,.none⟩) (λ_ _ g=>cJ g) (λi _ _ e=>aw e λt e=>e▸⟨_,.int ..⟩) (λs _ _ e=>aw e λt e=>e▸⟨_,.str ..⟩)
  (λl U v g e=>rE e λa o d n e=>aw (U g e.2.2.2.2) λC r=>e.1▸⟨_,.tuple (b _ _ e.2.1) (Ve Obj.cls e.2.2.1) e.2.2.2.1 r⟩)
  (λl U v g e=>rE e λa o d n e=>aw (U g e.2.2.2.2) λC r=>e.1▸⟨_,.list (b _ _ e.2.1) (Ve Obj.cls e.2.2.1) e.2.2.2.1 r⟩)
  (λ_ _ g=>cJ g) (λ_ _ g=>cJ g) (cJ) (λ_ _ _ _ g=>cJ g) (λ_ _ _ _ _ _ _ g=>cJ g)
  (λ_ e=>(show _=[] from e)▸⟨_,.nil⟩) (λx l i j v g e=>dh e λv r e=>aw (i (band g).1 e.2.1) λm f=>aw (j (band g).2 e.2.2) λp k=>e.1▸⟨_,.cons f k⟩) x
def IsL.reads(I:c8 F h.get?)(g:V.eA x=true)(e:IsL F x v):∃o,ReadsAll h v (V.DL x) o:=
 e.ind (C:=λx v=>V.eA x=true->∃o,ReadsAll h v (V.DL x) o) (λ_=>⟨_,.nil⟩) (λa _ c g=>aw (a.reads I (band g).1) λb J=>aw (c (band g).2) λd U=>⟨_,.cons J U⟩) g
def eB{x:V}:x.d7=true->x.D.canLay0=true:=
 V.rec (motive_1:=λx=>x.d7=true->x.D.canLay0=true) (motive_2:=λx=>V.eA x=true->PyData.canLayAll0 (V.DL x)=true)
  (λ_=>rfl) (λ_ g=>cJ g) (λ_ _=>rfl) (λ_ g=>g) (λ_ i g=>i g) (λ_ i g=>i g) (λ_ g=>cJ g) (λ_ g=>cJ g) (cJ) (λ_ _ _ g=>cJ g) (λ_ _ _ _ _ _ g=>cJ g)
  (λ_=>rfl) (λ_ _ i j g=>VO.mpr ⟨i (band g).1,j (band g).2⟩) x
def Ht{x:V}:∀{y:V},x.d7=true->y.d7=true->x.D.eqv y.D=true->x=y:=
 V.rec (motive_1:=λx=>∀{y:V},x.d7=true->y.d7=true->x.D.eqv y.D=true->x=y) (motive_2:=λx=>∀{y:List V},V.eA x=true->V.eA y=true->PyData.eqvAll (V.DL x) (V.DL y)=true->x=y)
  (λ{y} _=>y.casesOn (motive_1:=λy=>y.d7=true->V.none.D.eqv y.D=true->V.none=y) (λ_ _=>rfl) (λ_ g _=>cJ g) (λ_ _ e=>cJ e) (λ_ _ e=>cJ e) (λ_ _ e=>cJ e) (λ_ _ e=>cJ e) (λ_ g _=>cJ g) (λ_ g _=>cJ g) (λg _=>cJ g) (λ_ _ _ g _=>cJ g) (λ_ _ _ g _=>cJ g))
  (λ_ _ g=>cJ g)
  (λi {y} _=>y.casesOn (motive_1:=λy=>y.d7=true->(V.int i).D.eqv y.D=true->V.int i=y) (λ_ e=>cJ e) (λ_ g _=>cJ g) (λ_ _ e=>Ve V.int (eq_of_beq e)) (λ_ _ e=>cJ e) (λ_ _ e=>cJ e) (λ_ _ e=>cJ e) (λ_ g _=>cJ g) (λ_ g _=>cJ g) (λg _=>cJ g) (λ_ _ _ g _=>cJ g) (λ_ _ _ g _=>cJ g))
  (λi {y} _=>y.casesOn (motive_1:=λy=>y.d7=true->(V.str i).D.eqv y.D=true->V.str i=y) (λ_ e=>cJ e) (λ_ g _=>cJ g) (λ_ _ e=>cJ e) (λ_ _ e=>Ve V.str (eq_of_beq e)) (λ_ _ e=>cJ e) (λ_ _ e=>cJ e) (λ_ g _=>cJ g) (λ_ g _=>cJ g) (λg _=>cJ g) (λ_ _ _ g _=>cJ g) (λ_ _ _ g _=>cJ g))
  (λl J {y} U=>y.casesOn (motive_1:=λy=>y.d7=true->(V.tup l).D.eqv y.D=true->V.tup l=y) (λ_ e=>cJ e) (λ_ g _=>cJ g) (λ_ _ e=>cJ e) (λ_ _ e=>cJ e) (λ_ g e=>Ve V.tup (J U g e)) (λ_ _ e=>cJ e) (λ_ g _=>cJ g) (λ_ g _=>cJ g) (λg _=>cJ g) (λ_ _ _ g _=>cJ g) (λ_ _ _ g _=>cJ g))
  (λl J {y} U=>y.casesOn (motive_1:=λy=>y.d7=true->(V.lst l).D.eqv y.D=true->V.lst l=y) (λ_ e=>cJ e) (λ_ g _=>cJ g) (λ_ _ e=>cJ e) (λ_ _ e=>cJ e) (λ_ _ e=>cJ e) (λ_ g e=>Ve V.lst (J U g e)) (λ_ g _=>cJ g) (λ_ g _=>cJ g) (λg _=>cJ g) (λ_ _ _ g _=>cJ g) (λ_ _ _ g _=>cJ g))
  (λ_ _ g=>cJ g) (λ_ _ g=>cJ g) (cJ) (λ_ _ _ _ g=>cJ g) (λ_ _ _ _ _ _ _ g=>cJ g)
  (λ{y} _=>y.casesOn (motive:=λy=>V.eA y=true->PyData.eqvAll (V.DL []) (V.DL y)=true->[]=y) (λ_ _=>rfl) (λ_ _ _ e=>cJ e))
  (λx l i j {y} g=>y.casesOn (motive:=λy=>V.eA y=true->PyData.eqvAll (V.DL (x::l)) (V.DL y)=true->x::l=y) (λ_ e=>cJ e) (λz r h e=>congr (Ve List.cons (i (band g).1 (band h).1 (band e).1)) (j (band g).2 (band h).2 (band e).2))) x
def lU{x y:V}(g:x.d7=true)(h:y.d7=true):(x.D.eqv y.D=true↔x=y):=⟨Ht g h,λe=>e▸SeqAt.eqv_refl _ (eB g)⟩
inductive GV(c:CS):V->V->Prop
 |of {x:V}:x.d7=true->GV c x x
 |seq {x:V} {l:List V}:SeqAt c x l->V.eA l=true->GV c x (.lst l)
section
variable{g:G0}{A:Around}{env:Env}{c:CS}{E:V->CS->Prop}
def GV.d7(h:GV c x X):X.d7=true:=by
 cases h with
 |of h=>exact h
 |seq _ h=>exact h
def GV.reads(st:St g ff env F Z c s)(h:GV c x X)(i:Is F₀ x v)(o:c8 F₀ F):∃C,Reads s.heap v X.D C:=by
 cases h with
 |of h=>exact Is.reads st.fr h (i.mono o)
 |seq I J=>
  rw[jX v (st.seq I i o) λa d n U b e=>aw (IsL.reads st.fr J b) λC r=>?_,⟨_,.list U rfl rfl r⟩,]
def vW(o:GV c x X)(C:GV c y Y)(U:A.units+min X.D.depth Y.D.depth<cLine)(h:∀b,(b=true↔X=Y)->Q (.bool b) c):bN g A env Is (compareOp .Eq) x y c Q E:=λI a b d e F Z s J st=>by rw[aw (o.reads st d J) λi ra=>aw (C.reads st e J) λj f=>?_,SeqAt.compareEq_reads ra f (eB o.d7) (eB C.d7) U ⟨F,.bool _,c,.refl _,rfl,st,h _ (lU o.d7 C.d7)⟩,]
def Di{x y X Y:V}{Q:V->CS->Prop}(o:GV c x X)(C:GV c y Y)(U:A.units+min X.D.depth Y.D.depth<cLine)(h:∀b,(b=true↔X≠Y)->Q (.bool b) c):bN g A env Is (compareOp .NotEq) x y c Q E:=λI a b d e F Z s J st=>by rw[aw (o.reads st d J) λi ra=>aw (C.reads st e J) λj f=>?_,SeqAt.compareNe_reads ra f (eB o.d7) (eB C.d7) U ⟨F,.bool _,c,.refl _,rfl,st,h _ ?_⟩,];rw[Bool.not_eq_true',<-Bool.not_eq_true,lU o.d7 C.d7]
def Hu(h:EV g A env o c (λB v=>EV g A env i v (λD m=>bN g A env RU delItem B D m (λ_ I=>Q .next I) E) E) E):iZ g A env (.Delete [.Subscript o i L] pos) c Q E:=λF Z s n st=>by
 rw[wpAny_Delete (wpAny_deleteEach_cons (delete_Subscript ?_)),T.run h n st (λM a x v N p G q n=>?_) ?_,]
 ·rw[T.run n (λ_ _ e=>nomatch e) q (λr b y m H d J U t=>?_) ?_,]
  ·rw[T.run (t r a b (G.mono d) J) (.refl _) U (λf u z I w j P C k=>?_) ?_,]
   ·rw[wpAny_deleteEach_nil ⟨f,.next,I,(p.trans d).trans j,rfl,C,k⟩,]
   ·exactλf b l I w j J C k=>⟨f,l,I,(p.trans d).trans j,J,C,k⟩
  ·exactλf b l I w j J C k=>⟨f,l,I,p.trans j,J,C,k⟩
 ·exactλr b l m H d J U t=>⟨r,l,m,d,J,U,t⟩
end
def rS{C:Type}{p:Nat->Bool}{a:Nat}(xs:List C):∀(k:Nat),(∀i,i<k+xs.length->p i=decide (a<=i))->
 (xs.zipIdx k).filterMap (λx=>if p x.2=true then none else some x.1)=xs.take (a-k):=by
 induction xs with
 |nil=>exactλk _=>List.take_nil.symm
 |cons x xs I=>
  rw[λk o=>?_,<-hi I (k+1) λi hi=>o i (W' k 1 xs.length▸hi),[XU,XY,hi,o k (Nat.lt_add_of_pos_right (V5 _))],];by_cases h:a<=k
  ·rw[Wo h,Nat.sub_eq_zero_of_le h,Nat.sub_eq_zero_of_le (VG h)];rfl
  ·rw[WT h,show a-k=(a-(k+1))+1 from(Nat.succ_pred_eq_of_pos (Nat.sub_pos_of_lt (X5.mp h))).symm];rfl
def fO(hl:s.heap.get? l=some (bM items ne))
 (hs:s.heap.IsSliceOf j (.int a t) .none .none) (G:a<=items.size) (U:items.size<=sizeLine)
 (h:∀h',Heap.SameBut l s.heap h'->(∃vs H,h'.get? l=some (bM vs H)/\vs.toList=items.toList.take a)->Q () {s with heap:=h'}):
 wpAny (model P0 w) A (delItem (.ref l) (.ref j)) Q E s:=by
 have D:s.TypeIs (.ref l) "list":=⟨_,hl,rfl⟩;rw[bL (id hs) λos C y J=>?_,];have d:s.TypeIs (.ref j) "slice":=⟨os,C,y⟩;rw[wpAny_delItem_slot D rfl F.slot_list_delitem<|V7 F.slot_list_delitem D F.entry_list_delitem ?_ (F.args_list_delitem_2 ..),5 (wpAny _ _ (Builtin.List.listSubscript? (.ref j)>>=_) _ _ s),U0 ?_,2 Builtin.List.listSubscript?,U0 (wpAny_specialOf d slice_no_index ?_),];simp only[Option.isNone_none,Yc];rw[U6 ?_,5 (wpAny _ _ (typeOf (.ref j)>>=_) _ _ s),U0 (wpAny_typeOf d ?_),[U8 (Vu)],[listSliceParts_eq],U0 (U0 (V1 C J (x:=.none) rfl (U0 (wpAny_listPart (k:=none) .none ?_)))),[U8 (Vu)],U0 (V1 C J (x:=.int a t) rfl (U0 (wpAny_listPart (k:=some (a:Int)) (.int ..) ?_))),U0 (V1 C J (x:=.none) rfl (U0 (wpAny_listPart (k:=none) .none (U6 ?_)))),U0 (m:=Builtin.List.listItems (.ref l)) ?_,2 Builtin.List.listItems,U0 (Xa hl rfl (U6 ?_)),U0 (Xm (sliceIndices_raw (some (a:Int)) none none items.size (by simp)) ?_),U0 (m:=rule _) (XI ?_),U0 (m:=Builtin.List.listUpdate ..) ?_,];have hb:sliceBounds (some (a:Int)) none none items.size=((a:Int),(items.size:Int),1):=by
  simp only[sliceBounds,Option.getD_none];rw[Prod.ext ?_ (Prod.ext ?_ rfl),]
  ·rw[[Vb (by decide),U8 (cz a),Int.min_eq_left (Ob G)],Int.max_eq_right (Wj a),]
  ·rfl
 have B:=rS (a:=a) (p:=λi=>if(1:Int)>0 then decide ((a:Int)<=i)&&decide ((i:Int)<(items.size:Int))&&(((i:Int)-a)%1==0) else decide ((items.size:Int)<i)&&decide ((i:Int)<=a)&&(((a:Int)-i)%(-1)==0)) items.toList 0 (by intro i hi;have h1:=Lo (by rw[Wk,Vl] at hi;rw[hi,]);simp only[gt_iff_lt,Int.zero_lt_one,Yc,h1,decide_true,Bool.and_true,Int.emod_one,Xl];congr 1;simp)
 rw[[hb],listUpdate_at hl rfl ?_ U ?_,]
 ·rw[U0 (m:=letGo ..) (Yb (U6 ⟨_,rfl,?_⟩)),]
  rw[h _ (Vp ..) ⟨_,_,get?_update_seq hl _,?_⟩,B,]
 ·show Array.size (List.toArray _)<=_
  rw[[Xe],U3 (List.length_filterMap_le ..) ?_,];simp;rw[ax [.le af aj] (.le af (.p aj aF)) (.l [1,1]) tt [_,sizeLine] U,]
section
variable{g:G0}{A:Around}{env:Env}{c:CS}{E:V->CS->Prop}
def rT(b:c.σ a=some ⟨t,.list l⟩)(i:k<=l.length)(hz:l.length<=1000000)(h:Q () ⟨c.m,c.σ.set a ⟨t,.list (l.take k)⟩⟩):
 bN g A env RU delItem (.loc a) (.fL (.int k) .none .none) c Q E:=fW λd v e F Z s j st=>by
 rw[iU e λr D G H C p o I J=>aw o λL U=>?_,0 e o,3 C,3 U,3 I,3 J,iz (st.list b) λM n q N u f=>fO q ⟨_,st.fr _ _ (j _ _ p),rfl,rfl⟩ (ax [.le af aj,.eq aC aj] (.le af aC) (.l [1,1,0,1]) tt [_,_,_] i f) (by rw[[f,VN],kl hz,]) λP w ⟨x,R,y,B⟩=>?_,⟨F,(),_,.refl _,trivial,st.upd b w y (z:=⟨t,.list (l.take k)⟩) ⟨_,_,rfl,by rw[[B],u.take _,]⟩ _,h⟩,]
def Hv(b:A.handled=none)(d:SeqAt c x J)(f:C.length=J.length)(h:zt g A env C J c Q E)
 (i:(assignEach C env).length=C.length:=by rfl) (o:(assignEach C env).findIdx? (·.1)=none:=by rfl) (j:∀t∈C,∀e p,t≠.Starred e p:=by simp):
 As g A env (.Tuple C k pos) x c Q E:=λU v l F Z s m st=>by
 rw[jX v (st.seq d l m) λa w n q r u=>?_,[arm_assign_Tuple],U0 (W0 ?_),2 unpack,];rw[i,o,f,<-u];rw[U0 (Wd (kun_itemsOf b ⟨_,q,rfl,n,rfl⟩ λy I=>?_)),zt.run j h (r) F Z _ (.refl _) (st.jk I _),]
def vX(I:A.handled=none)(h:Q (.int (max x y)) c):CA g A env (.raw (.builtin "max")) [.int x,.int y] c Q E:=zm λC t u F Z s a st=>by
 rw[max_two_ints I λd J U=>⟨F,.int (max x y),c,.refl _,?_,st.jk (λb o _ e=>U b o e) J,h⟩,];split
 ·rw[[Int.max_def,Vb (Int.le_of_lt (by assumption))],⟨_,rfl⟩,]
 ·by_cases q:x<=y
  ·rw[[Int.max_def,Vb q],⟨t,Ve (Value.int · t) (Int.le_antisymm q (Int.not_lt.mp (by assumption)))⟩,]
  ·rw[[Int.max_def,U8 q],⟨_,rfl⟩,]
def xu(h:Q (.mi 0 x 1) c):CA g A env (.raw (.type "range")) [.int x] c Q E:=G1 λJ t F Z s j st=>by rw[aV (st.iD {cls:=.type "range",data:=.fields #[.int 0 s.toks,.int x t,.int 1 (s.toks+1)]} rfl) λd C=>call_range_1 ⟨_,.mi 0 x 1,c,d,⟨_,_,_,_,rfl,ai.ae ..⟩,C.toks _,h⟩,]
def xv(h:Q (.mi x y 1) c):CA g A env (.raw (.type "range")) [.int x,.int y] c Q E:=zm λJ t u F Z s j st=>by rw[aV (st.iD {cls:=.type "range",data:=.fields #[.int x t,.int y u,.int 1 s.toks]} rfl) λd C=>call_range_2 ⟨_,.mi x y 1,c,d,⟨_,_,_,_,rfl,ai.ae ..⟩,C.toks _,h⟩,]
def xw(hz:z≠0)(hp:Builtin.divisionGoesByPylong (y-x) z=false)(h:Q (.mi x y z) c):CA g A env (.raw (.type "range")) [.int x,.int y,.int z] c Q E:=G2 λJ t u v F Z s j st=>by rw[aV (st.iD {cls:=.type "range",data:=.fields #[.int x t,.int y u,.int z v]} rfl) λd C=>call_range_3 hz ⟨_,.mi x y z,c,d,⟨_,_,_,_,rfl,ai.ae ..⟩,C,h⟩ (.inl hp),]
def xx:(∀b o,h.get? b=some o->(sortedAll h vs out).get? b=some o)/\∃n,(sortedAll h vs out).get? (h.objs.size+1)=some (bM out n):=by
 have C:((h.push (seqObj "list" #[] 0)).update h.objs.size (Obj.mapSeq (· ++vs.toArray))).objs.size=h.objs.size+1:=by rw[Heap.size_update,size_push']
 have I:(((h.push (seqObj "list" #[] 0)).update h.objs.size (Obj.mapSeq (· ++vs.toArray))).push (seqObj "list" vs.toArray 0)).get? (h.objs.size+1)=some (seqObj "list" vs.toArray 0):=by rw[<-C];rw[Vw _ rfl,]
 constructor
 ·intro b o e
  rw[<-J Vq e,2 sortedAll sortedHeap,<-U Vt (Vi J),<-a Vt J,(Vp ..).extBut b o U (Vh _ (Vh _ ?_)),(Vp ..).extBut b o U (Vh _ ?_),(Vp ..).extBut b o a (Vh _ e),]
 ·unfold sortedAll sortedHeap
  rw[<-d get?_update_seq I (λ_=>#[]),<-f Vh (seqObj "list" #[] 0) (Vh (seqObj "tuple" vs.toArray 0) d),⟨_,get?_update_seq f _⟩,]
def xy(t':Tag)(t:SeqAt c x (l.map V.int))(hz:l.length<64)(h:∀r:List Int,r.Perm l->r.Pairwise (·<=·)->∀a,c.σ a=none->Q (.loc a) ⟨c.m,c.σ.set a ⟨t',.list (r.map V.int)⟩⟩):
 CA g A env (.raw (.builtin "sorted")) [x] c Q E:=j0 λp u v F Z s w st=>by
 rw[jX u (st.seq t v w) λa J n z B D=>sorted_ints (vs:=J.toList) ⟨_,z,rfl,n,by simp⟩ B.ints (by simpa[D] using hz) λI U H L M=>?_,aV (xx (h:=s.heap) (vs:=J.toList) (out:=I)) λN C=>aw C λW k2=>?_,0 C,];have P:∀{G:ai},(∀o,G (s.heap.objs.size+1)=some o->s.heap.get? (s.heap.objs.size+1)=some o)->G (s.heap.objs.size+1)=none:=λ{G} R=>by
  cases e:G (s.heap.objs.size+1) with
  |none=>rfl
  |some o=>exact U9 (Vq (R o e)) (VV.mpr (VE _))
 have no:∀o,s.heap.get? (s.heap.objs.size+1)≠some o:=λo e=>U9 (Vq e) (VV.mpr (VE _));have f:=st.jk (h':=sortedAll s.heap J.toList I) (λb o _ e=>N b o e) s.toks;have i:c.σ (s.heap.objs.size+1)=none:=by
  cases e:c.σ (s.heap.objs.size+1) with
  |none=>rfl
  |some o=>refine ah (st.obj _ _ e) λY q _=>?_;rw[U9 q (no _),]
 have j:=P λo e=>st.fr _ _ e;have k:Z (s.heap.objs.size+1)=none:=by
  cases e:Z (s.heap.objs.size+1) with
  |none=>rfl
  |some o=>
   have:=st.zr _ _ e;unfold kH at this;split at this
   ·rw[aw this λsl q=>?_,0 this,U9 q (no _),]
   ·rw[U9 this (no _),]
 have d:∀b∈aU env,b≠s.heap.objs.size+1:=λb S e=>by rw[aw (st.live b S) λo q=>?_,];rw[e] at q;rw[no _ q,]
 exact⟨F,.loc _,_,.refl _,rfl,f.gO (y:=⟨t',.list (U.map V.int)⟩) k2 ⟨_,_,rfl,IsL.lT H⟩ j k d,h U L M _ i⟩
end
structure b8(A:Around)(k:Nat):Prop where
 hh:A.handled=none
 depth:A.depth+k<recursionLimit
 units:A.units+4*k+200<cLine
 fr:∃l,A.frames=some l
def b8.deeper(h:b8 A (k+1))(env:Env):b8 (A.deeper env) k where
 hh:=h.hh
 depth:=by rw[<-this h.depth,5 (A.depth+1+k<_),ax [.lt (.p af (.p aj aF)) aC] (.lt (.p (.p af aF) aj) aC) (.l [1,1]) tt [_,_,recursionLimit] this,]
 units:=by rw[<-this h.units,5 (A.units+3+4*k+200<_),ax [.lt (.p (.p af (.m 4 (.p aj aF))) (.k 200)) aC] (.lt (.p (.p (.p af (.k 3)) (.m 4 aj)) (.k 200)) aC) (.l [1,1]) tt [_,_,cLine] this,]
 fr:=let⟨l,e⟩:=h.fr;⟨_,Around.frames_deeper e⟩
def b8.du(h:b8 A k)(o:n<=200):A.units+n<cLine:=by have:=h.units;exact ax [.le af (.k 200),.lt (.p (.p aj (.m 4 aC)) (.k 200)) bH] (.lt (.p aj af) bH) (.l [1,1,1]) tt [_,_,_,cLine] o this
section
variable{g:G0}{A:Around}{env:Env}{c:CS}{E:V->CS->Prop}
def xA(e:Base g)(i:fN (KK g) f fd body names S)(b:b8 A (k+1))(I:fd.closure=[])
 (U:∀x∈S.names,x.2≠.free) (a:((cellsFrom 0 S.names []).map (·.1)).Nodup) (C:∀n∈names,S.names.lookup n=some .local\/S.names.lookup n=some .cell) (J:args.length=names.length)
 (h:∀d L o q fn cd fr,b8 d k->bV (bh S L o q fn cd fr)->(∀x,S.names.lookup x=some .cell->(o.lookup x).isSome=true)->EX g d (bh S L o q fn cd fr) body ⟨(names.zip args).reverse,c.σ⟩ (λj c'=>Q (gP j) ⟨c.m,c'.σ⟩) iA):
 CA g A env (.raw (.ref f)) args c Q E:=
 zD e i (by have:=b.depth;exact ax [.lt (.p af (.p aj aF)) aC] (.lt af aC) (.l [1,1]) tt [_,_,recursionLimit] this) I U a C J λL o q fn cd fr r t=>h _ L o q fn cd fr (b.deeper _) r t
def gU(b:Base g)(d:fN (KK g) f fd body names S)(U:b8 A (k+1))
 (C:∀x∈S.names,x.2≠.cell) (I:∀n∈names,S.names.lookup n=some .local) (J:args.length=names.length)
 (h:∀a L o q fr,b8 a k->bV (bh S L o q (some f) fd.code fr)->o=fd.closure->rx g a (bh S L o q (some f) fd.code fr) body body ⟨(names.zip args).reverse,c.σ⟩ (λi c'=>Q (gP i) ⟨c.m,c'.σ⟩) (XE c.m E)):
 kK g A env (.raw (.ref f)) args c Q E:=
 C' b d (by have:=U.depth;exact ax [.lt (.p af (.p aj aF)) aC] (.lt af aC) (.l [1,1]) tt [_,_,recursionLimit] this) C I J _ (λ_ _ e=>⟨U.fr,e⟩) λL o q fr j r=>h _ L o q fr (U.deeper _) j r
def Dj(h:Q c):zt g A env [] [] c Q E:=h
def zP(h:As g A env t X c (λo=>zt g A env C I o Q E) E):zt g A env (t::C) (X::I) c Q E:=h
end
section
variable{g:G0}{A:Around}{env:Env}{c:CS}{E:V->CS->Prop}
def zQ(h:Q (.bool (decide (x=y))) c):bN g A env Is (compareOp .Eq) (vi x) (vi y) c Q E:=xi (by simpa only[Int.natCast_inj] using h)
def rU(h:Q (.bool (!decide (x=y))) c):bN g A env Is (compareOp .NotEq) (vi x) (vi y) c Q E:=xj (by simpa only[Int.natCast_inj] using h)
def zR(h:Q (.bool (decide (x<y))) c):bN g A env Is (compareOp .Lt) (vi x) (vi y) c Q E:=xk (by simpa only[Int.ofNat_lt] using h)
def zS(h:Q (.bool (decide (y<x))) c):bN g A env Is (compareOp .Gt) (vi x) (vi y) c Q E:=xm (by simpa only[Int.ofNat_lt] using h)
def rV(h:Q (.bool (decide (x<=y))) c):bN g A env Is (compareOp .LtE) (vi x) (vi y) c Q E:=xl (by simpa only[Int.ofNat_le] using h)
def xB(h:Q (vi (x+y)) c):bN g A env Is (binaryOp .Add) (vi x) (vi y) c Q E:=uc (by rw[<-Int.natCast_add];rw[h,])
def xC(o:y<=x)(h:Q (vi (x-y)) c):bN g A env Is (binaryOp .Sub) (vi x) (vi y) c Q E:=ud (by rw[<-Int.natCast_sub o];rw[h,])
end
section
variable{g:G0}{A:Around}{env:Env}{c:CS}{E:V->CS->Prop}
def qi(t':Tag)(C:SeqAt c x (l.map vi))(hz:l.length<64)(h:∀r:List Nat,r.Perm l->r.Pairwise (·<=·)->∀a,c.σ a=none->Q (.loc a) ⟨c.m,c.σ.set a ⟨t',.list (r.map vi)⟩⟩):
 CA g A env (.raw (.builtin "sorted")) [x] c Q E:=by
 rw[xy t' (l:=l.map Int.ofNat) (by simpa[W3] using C) (by simpa using hz) λr U b a f=>?_,];have d:∃o:List Nat,r=o.map Int.ofNat:=by
  rw[⟨r.map Int.toNat,?_⟩,[VD],]
  conv=>lhs;rw[<-List.map_id r]
  rw[Vy λx C=>?_,<-this (U.mem_iff).mp C,];simp only[Vn] at this;rw[ah this λy _ I=>?_,0 this,3 I,];simp
 rw[aw d λo J=>?_,0 d,3 J,];have e:(o.map Int.ofNat).map V.int=o.map vi:=by simp[W3]
 rw[[e],h o ?_ ?_ a f,]
 ·have:=U.map Int.toNat
  simpa[W3] using this
 ·rw[Ye] at b
  exact b.imp λh=>by simpa using h
def um(o:A.handled=none)(h:Q (vi n) c):CA g A env (.raw (.builtin "max")) [vi n,.int 0] c Q E:=vX o (by rw[[Int.max_eq_left (Wj n)],h,])
end
def j6{a b:Nat}(o:a<=b)(C:b<1000000):Builtin.Range.small (a:Int) b 1=true/\Builtin.Range.rangeSize (a:Int) b 1=((b-a:Nat):Int)/\jo a 1 (b-a)=(List.range (b-a)).map λi=>vi (a+i):=by
 have J:Builtin.Range.rangeSize (a:Int) b 1=((b-a:Nat):Int):=by
  rw[2 Builtin.Range.rangeSize,[Vb (by decide),Int.ediv_one,Int.sub_add_cancel,Int.ofNat_sub o],];by_cases q:a<b
  ·rw[Vb (Lo q),]
  ·exact(U8 λh=>q (Int.ofNat_lt.mp h)).trans (Int.sub_eq_zero_of_eq (Ve _ (Xq (Wn q) o))).symm
 have I:∀n:Nat,n<1000000->Builtin.Range.rangeFitsLong n=true:=λn h=>VO.mpr ⟨Wo (Int.le_trans (by decide+kernel) (Wj n)),Wo (ix h)⟩;rw[⟨?_,J,Vy λi _=>?_⟩,]
 ·unfold Builtin.Range.small
  rw[J,Vb (show(1:Int)>0 by decide),Int.sub_self,Int.add_zero];have an:∀{x y:Bool},x=true->y=true->(x&&y)=true:=λa b=>VO.mpr ⟨a,b⟩;rw[an (an (an (an (I a (VA o C)) (I b C)) (by decide+kernel)) (I (b-a) (VA (Nat.sub_le b a) C))) ((Bool.or_eq_true ..).mpr (.inr (I b C))),]
 rw[Int.mul_one,<-Int.natCast_add]
section
variable{K:Type}[DecidableEq K]
noncomputable def aO(l:List (K×V))(k:K):Option V:=(l.find? λx=>decide (x.1=k)).map (·.2)
noncomputable def dput(l:List (K×V))(k:K)(X:V):List (K×V):=if l.any (λx=>decide (x.1=k)) then l.map (λx=>if x.1=k then(x.1,X) else x) else l++[(k,X)]
noncomputable def dp(l:List (K×V))(k:K):List (K×V):=l.filter λx=>decide (x.1≠k)
def mK(k a:K)(X:β)(l:List (K×β)):((((a,X)::l).find? λx=>decide (x.1=k)).map (·.2))=if a=k then some X else(l.find? λx=>decide (x.1=k)).map (·.2):=by
 rw[List.find?_cons];by_cases h:a=k
 ·rw[Vb h];dsimp only;rw[Wo h];rfl
 ·rw[U8 h];dsimp only;rw[WT h]
def bq(k a:K)(X:V)(l:List (K×V)):aO ((a,X)::l) k=if a=k then some X else aO l k:=mK ..
def dJ{l r:List (K×V)}{k:K}(h:aO l k=none):aO (l++r) k=aO r k:=by
 induction l with
 |nil=>rfl
 |cons x l C=>
  rw[aB λI o=>?_,];obtain⟨a,X⟩:=x;rw[o ?_,0 o I,[XW,bq],];rw[bq] at h;split at h
  ·rw[7 h,]
  ·rw[4 q,[U8 q],C h,]
def fP{l r:List (K×V)}{k:K}{X:V}(h:aO l k=some X):aO (l++r) k=some X:=by
 induction l with
 |nil=>injection h
 |cons x l C=>
  rw[aB λI o=>?_,];obtain⟨a,Y⟩:=x;rw[o ?_,0 o I,[XW,bq],];rw[bq] at h;split at h
  ·rw[4 q,[Vb q],h,]
  ·rw[4 q,[U8 q],C h,]
def LR(l:List (K×V))(k:K):(l.any λx=>decide (x.1=k))=(aO l k).isSome:=by
 induction l with
 |nil=>rfl
 |cons x l C=>
  rw[aB λI o=>?_,];obtain⟨a,X⟩:=x;rw[o ?_,0 o I,[List.any_cons,bq,C],];by_cases h:a=k<;>simp[h]
def dy{l:List (K×V)}{k:K}{X:V}(h:aO l k=none):dput l k X=l++[(k,X)]:=by rw[2 dput,[LR,h],];rfl
def zT{l:List (K×V)}{k:K}{X Y:V}(h:aO l k=some Y):dput l k X=l.map (λx=>if x.1=k then(x.1,X) else x):=by rw[2 dput,[LR,h],];rfl
def KV.get{F:ai}{k:K}{l:List (K×V)}{kvs:List (K×Value)}(h:KV F l kvs):(aO l k=none->valueAt kvs k=none)/\(∀X,aO l k=some X->∃v,valueAt kvs k=some v/\Is F X v):=by
 rw[h.ind (C:=λl kvs=>(aO l k=none->valueAt kvs k=none)/\(∀X,aO l k=some X->∃v,valueAt kvs k=some v/\Is F X v)) ⟨λ_=>rfl,λX e=>(nomatch e)⟩ λ{a x l v r} o _ I=>?_,[bq,show valueAt ((a,v)::r) k=if a=k then some v else valueAt r k from mK ..],];by_cases q:a=k
 ·rw[Vb q,Vb q]
  exact⟨λe=>(nomatch e),λX e=>⟨v,rfl,VW e▸o⟩⟩
 ·rw[U8 q,U8 q]
  rw[I,]
def KV.any{F:ai}{k:K}{l:List (K×V)}{kvs:List (K×Value)}(h:KV F l kvs):(kvs.any λx=>decide (x.1=k))=(l.any λx=>decide (x.1=k)):=
 h.ind (C:=λl kvs=>(kvs.any λx=>decide (x.1=k))=(l.any λx=>decide (x.1=k))) rfl λ_ _ c=>Ve (decide _||·) c
def KV.append(o:Is F X v)(h:KV F l kvs):KV F (l++[(k,X)]) (kvs++[(k,v)]):=
 h.ind (C:=λl kvs=>KV F (l++[(k,X)]) (kvs++[(k,v)])) (.cons (l:=[]) (r:=[]) o rfl) λa _ c=>.cons a c
def KV.O7{F:ai}{k:K}{X:V}{v:Value}(I:Is F X v){l:List (K×V)}{kvs:List (K×Value)}(h:KV F l kvs):KV F (l.map (λx=>if x.1=k then(x.1,X) else x)) (kvs.map λo=>if o.1=k then(o.1,v) else o):=by
 rw[h.ind (C:=λl kvs=>KV F (l.map (λx=>if x.1=k then(x.1,X) else x)) (kvs.map λo=>if o.1=k then(o.1,v) else o)) rfl λ{a _ l _ r} b _ c=>?_,5 (KV F ((if a=k then _ else _)::_) ((if a=k then _ else _)::_)),];split
 ·rw[.cons I c,]
 ·rw[.cons b c,]
def KV.put{F:ai}{k:K}{X:V}{v:Value}(o:Is F X v){l:List (K×V)}{kvs:List (K×Value)}(h:KV F l kvs):KV F (dput l k X) (stored kvs k v):=by
 rw[2 dput stored,[KV.any h],];split
 ·rw[KV.O7 o h,]
 ·rw[KV.append o h,]
def KV.del{F:ai}{k:K}{l:List (K×V)}{kvs:List (K×Value)}(h:KV F l kvs):KV F (dp l k) (without kvs k):=by
 rw[h.ind (C:=λl kvs=>KV F (dp l k) (without kvs k)) rfl λ{a _ l _ r} b _ c=>?_,];unfold dp without at c⊢;rw[List.filter_cons,List.filter_cons];show KV F (if decide (a≠k)=true then _ else _) (if decide (a≠k)=true then _ else _);split
 ·rw[.cons b c,]
 ·rw[c,]
def KV.length(h:KV F l kvs):kvs.length=l.length:=
 h.ind (C:=λl kvs=>kvs.length=l.length) rfl λ_ _ c=>Ve Nat.succ c
end
def dS(h:Is F k.v v):(bo w).is k v=true:=by
 induction k
 ·rw[aw h λt o=>?_,0 h,3 o,Vb rfl,]
 ·rw[aw h λt C=>?_,0 h,3 C,Vb rfl,]
section
variable{g:G0}{A:Around}{env:Env}{c:CS}{E:V->CS->Prop}{ff:Option (List Env)}{F F₀ Z:ai}{s:Shared}{d:Addr}{t:Tag}{l:List (Atom×V)}{k:Atom}{X:V}
def Dk:((KR P).lookup 1).isSome=true:=by unfold KR;with_unfolding_all rfl
def St.i8(J:Base g)(st:St g ff env F Z c s)(h:c.σ d=some y):(d==sysModules)=false:=by
 rw[beq_eq_false_iff_ne.mpr λe=>?_,<-C st.fD _ _ h,];have:∃o,g.h₀.get? 1=some o:=by rw[aw (We.mp (Dk (P:=g.w.params))) λo I=>⟨o,J.1 _ _ I⟩,]
 rw[aw this λo I=>?_,0 this,<-this st.base _ _ I,];rw[e] at C;rw[show sysModules=1 from rfl,this] at C;rw[7 C,]
def St.dA(st:St g ff env F Z c s)(h:c.σ d=some ⟨t,.dA l⟩):∃kvs,KV F l kvs/\s.heap.DictOf (bo g.w) d kvs:=by rw[ah (st.obj _ _ h) λo I J=>ah ((J:o4 g.w F (.dA l) o)) λkvs U C=>dh C λa b r=>?_,0 C,⟨kvs,U,o,a,b,I,r⟩,]
def St.zU(st:St g ff env F Z c s)(h:c.σ d=some ⟨t,.dA l⟩)(hs:Heap.SameBut d s.heap h')(C:h'.DictOf (bo g.w) d kvs)(U:KV F J kvs)(tk:Nat):
 St g ff env F Z ⟨c.m,c.σ.set d ⟨t,.dA J⟩⟩ {s with heap:=h',toks:=tk}:=by
 rw[y' C λo j x ho r=>?_,0 C,st.upd h hs ho (z:=⟨t,.dA J⟩) ⟨kvs,U,j,x,r⟩ tk,]
def uo{Q:V->CS->Prop}(J:Base g)(C:c.σ d=some ⟨t,.dA l⟩)(h:Q (.bool (!(aO l k).isSome)) c):bN g A env Is (compareOp .NotIn) k.v (.loc d) c Q E:=t6 λF₀ u U F Z s b st=>by
 rw[ah (st.dA C) λo I a=>wpAny_notIn_of (dS U) (st.i8 J C) a.mapOf ⟨F,.bool _,c,.refl _,rfl,st.toks _,?_⟩,];have:(valueAt o k).isSome=(aO l k).isSome:=by
  cases e:aO l k with
  |none=>rw[(I.get).1 e];rfl
  |some x=>refine ah ((I.get).2 x e) λv f _=>?_;rw[Ve _ ‹_›,]
 rw[[this],h,]
def xE{Q:V->CS->Prop}(o:c.σ d=some ⟨t,.dA l⟩)(C:aO l k=some X)(h:Q X c):bN g A env Is getItem (.loc d) k.v c Q E:=fW λF₀ v I F Z s f st=>by rw[ah (st.dA o) λJ U a=>ah ((U.get).2 X C) λx b e=>?_,wpAny_getItem_of (dS I) a.mapOf b ⟨F,X,c,.refl _,e,st.toks _,h⟩,]
def qj{Q:Unit->CS->Prop}(o:c.σ d=some ⟨t,.dA l⟩)(hz:l.length<=100000)(h:Q () ⟨c.m,c.σ.set d ⟨t,.dA (dput l k X)⟩⟩):Cf g A env RU setItem (.loc d) k.v X c Q E:=pP λF₀ v x I ix F Z s J st=>by rw[ah (st.dA o) λU C a=>wpAny_setItem_pairs (dS I) a (λf b e=>⟨F,(),_,.refl _,trivial,st.zU o e b (C.put (ix.mono J)) _,h⟩) (by rw[[C.length,VN],kl hz,]),]
def zV{Q:Unit->CS->Prop}(J:c.σ d=some ⟨t,.dA l⟩)(U:aO l k=some X)(hz:l.length<=100000)(h:Q () ⟨c.m,c.σ.set d ⟨t,.dA (dp l k)⟩⟩):bN g A env RU delItem (.loc d) k.v c Q E:=fW λF₀ v a F Z s i st=>by
 refine ah (st.dA J) λo C I=>ah ((C.get).2 X U) λx b j=>?_;refine wpAny_delItem_slot I.typeIs rfl Xc (call_meetsIn Xc I.typeIs PySem.F.entry_dict_delitem (PySem.F.args_dict_delitem_2 ..) (meets_dict_delitem_pairs (bo g.w) d (dS a))
  ⟨o,I,by rw[[C.length,VN],kl hz,],by rw[b];rfl,λn e f=>⟨F,(),_,.refl _,trivial,st.zU J f e C.del _,h⟩⟩)
def ql(h:(bo w).is k v=true):(keyPart v).isSome=true:=by
 induction k
 ·rw[aw (Atom.zh h) λt o=>?_,3 o,];rfl
 ·rw[aw (Atom.GY h) λt C=>?_,3 C,];rfl
def zW{Q:V->CS->Prop}(I:c.σ d=some ⟨t,.dA l⟩)(a:aO l k=some X)(hz:l.length<=100000)(h:Q X ⟨c.m,c.σ.set d ⟨t,.dA (dp l k)⟩⟩):CA g A env (.raw (.builtin "dict.pop")) [.loc d,k.v] c Q E:=vM λF₀ v J F Z s j st=>by
 rw[ah (st.dA I) λo C U=>ah ((C.get).2 X a) λx b e=>?_,];exact call_meetsIn Xv U.typeIs PySem.F.entry_dict_pop (PySem.F.args_dict_pop_2 ..) (meets_dict_pop_there (bo g.w) d (dS J) [] (.inl rfl) (ql (w:=g.w) (dS J)))
  ⟨o,x,U,by rw[[C.length,VN],kl hz,],b,λn f i=>⟨F,X,_,.refl _,e,st.zU I i f C.del _,h⟩⟩
def xF{D:V}{Q:V->CS->Prop}(J:Base g)(o:c.σ d=some ⟨t,.dA l⟩)(h:Q ((aO l k).getD D) c):CA g A env (.raw (.builtin "dict.get")) [.loc d,k.v,D] c Q E:=t7 λF₀ v x U ix F Z s a st=>by
 rw[ah (st.dA o) λb C I=>call_meetsIn PySem.F.slot_dict_get I.typeIs PySem.F.entry_dict_get (PySem.F.args_dict_get_3 ..) (meets_dict_get_default (bo g.w) d (dS U) (st.i8 J o) x) ⟨_,I.mapOf,?_⟩,];cases e:aO l k with
 |none=>
  rw[e] at h;rw[(C.get).1 e];exact⟨F,D,c,.refl _,ix.mono a,st.toks _,h⟩
 |some y=>
  rw[e] at h;rw[ah ((C.get).2 y e) λz f i=>?_,[f],⟨F,y,c,.refl _,i,st.toks _,h⟩,]
def fY{n:Str}{id:String}{pl:Sem Bool}{Q:V×List V->CS->Prop}(C:Slot "dict" n id)(I:typeOf (.builtin id)=pure (.type "method_descriptor"))(b:c.σ d=some ⟨t,.dA l⟩)
 (h:Q (.raw (.builtin id),[.loc d]) c):iF g A env RM (λo=>getMethod o n pl) (.loc d) c Q E:=o6 λF₀ F Z s p st=>by
 rw[ah (st.dA b) λf q J=>?_,<-i J.typeIs,n5 J λo u v j m r=>?_,0 J,Yg i PySem.F.plainAttrs_dict C I (λa e=>by rw[1 e,⟨_,j,m.2.1⟩,]) ⟨F,(.raw (.builtin _),[.loc d]),c,.refl _,⟨rfl,.cons rfl .nil⟩,st,h⟩,]
end
set_option linter.unusedSectionVars false
section
variable{w:World}{A:Around}{E:Value->Shared->Prop}{s:Shared}{K:Type}[DecidableEq K]
def eV{knd:KeyKind P0 w K}{d:Addr}{kvs:List (K×Value)}{k:K}{key v:Value}{Q:Value->Shared->Prop}(J:knd.is k key=true)(hm:s.heap.DictOf knd d kvs)
 (h1:∀x,valueAt kvs k=some x->Q x {s with toks:=s.toks+1})
 (h2:valueAt kvs k=none->∀h',h'.DictOf knd d (stored kvs k v)->Heap.SameBut d s.heap h'->Q v {s with heap:=h',toks:=s.toks+1})
 (P:kvs.length<=sizeLine):
 wpAny (model P0 w) A (dictSetDefault d key v) Q E s:=by
 rw[za hm λo U ep ho hc B Y hp hn=>?_,0 hm,];have R:U.size<=sizeLine:=by
  have e1:=hp.length;have e2:U.toList.length=U.size:=by simp
  rw[ax [.le af aj,.eq aC af,.eq aC bH] (.le bH aj) (.l [1,1,1,0,0,1]) tt [_,sizeLine,_,_] P e1 e2,]
 rw[2 dictSetDefault,Wd<|U0 (knd.pyHash J ?_),U0 (wpAny_dictFind_of (s:={s with toks:=s.toks+1}) J ho B Y ?_),];have D:(U.findIdx? λe=>knd.is k e.key)=kvs.findIdx? λG=>decide (G.1=k):=by rw[<-hp.findIdx k];rw[aB λH C=>?_,];obtain⟨l⟩:=U;rw[C ?_,0 C H,];simp
 cases hi:U.findIdx? λe=>knd.is k e.key with
 |some i=>
  have hl:(U.toList.findIdx? λe=>knd.is k e.key)=some i:=by rw[<-hi];rw[aB λH C=>?_,];obtain⟨l⟩:=U;rw[C ?_,0 C H,];simp
  rw[bL (hp.at hl) λe L UH S=>U0 (Yh (s:={s with toks:=s.toks+1}) ho B ?_),];have W:U[i]?=some e:=by rw[<-L];obtain⟨l⟩:=U;simp
  rw[W];exact U0 (XI (U6 (h1 _ S)))
 |none=>
  have j:=not_mem_of_findIdx_none (D▸hi);have y:¬(kvs.any λG=>decide (G.1=k))=true:=by rw[List.any_eq_true];rintro⟨G,X,L⟩;rw[j (Vn.mpr ⟨G,X,Wi L⟩),]
  have M:valueAt kvs k=none:=by
   rw[<-hp.find k];have:(U.toList.find? λe=>knd.is k e.key)=none:=by
    rw[List.find?_eq_none];intro e L;have:=Array.findIdx?_eq_none_iff.mp hi e (Xf.mp L)
    simpa using this
   rw[this];rfl
  refine U0 (XI (U0 (wpAny_updateDictKeys (hz:=R) (s:={s with toks:=s.toks+1}) ho B (U6 (h2 M _ ⟨_,_,ep+1,VM _ ho (Xj (W2 B _)),
   hc.mapDictKeys _,W2 B _,Y.push J _,?_,?_⟩ (Vp ..))))))
  ·rw[stored,U8 y]
   rw[<-this hp.append J (knd.hash k) v,aB λH C=>?_,];obtain⟨l⟩:=U;rw[C ?_,0 C H,]
   simpa using this
  ·rw[stored,U8 y,Vd,Wu]
   rw[⟨hn,by simp,?_⟩,];intro a ha b hb;simp only[VI,List.map_nil,U5] at hb;rw[8 hb,λe=>j (e▸ha),]
def dZ{d:Addr}{key dflt:Value}{Q:Value->Shared->Prop}(o:s.TypeIs (.ref d) "dict")(C:(d==sysModules)=false)
 (h:wpAny (model P0 w) A.in1 (dictSetDefault d key dflt) (λv s'=>Q v s') E s):wpAny (model P0 w) A (call (.builtin "dict.setdefault") [.ref d,key,dflt]) Q E s:=by
 rw[V7 Xr o PySem.F.entry_dict_setdefault ?_ (PySem.F.args_dict_setdefault_3 ..),2 Builtin.«dict.setdefault»,U0 ?_,2 Builtin.Dict.keyAndDefault,U0 (wpAny_notOrdered_dict o ?_),5 (wpAny _ _ (pure (d,key,some dflt)) _ _ s),U6 ?_,5 (wpAny _ _ (if(d==sysModules)=true then _ else(dictSetDefault d key dflt>>=_)) _ _ s),[U8 (by rw[[C],Vu,])],U0 (Wr h (λv s' q=>U6 ⟨v,rfl,q⟩) λ_ _ e=>e),]
end
section
variable{g:G0}{A:Around}{env:Env}{c:CS}{E:V->CS->Prop}{d:Addr}{t:Tag}{l:List (Atom×V)}{k:Atom}{X:V}
def lE{D:V}{Q:V->CS->Prop}(j:Base g)(I:c.σ d=some ⟨t,.dA l⟩)(hz:l.length<=100000)(h1:∀X,aO l k=some X->Q X c)(n:aO l k=none->Q D ⟨c.m,c.σ.set d ⟨t,.dA (dput l k D)⟩⟩):
 CA g A env (.raw (.builtin "dict.setdefault")) [.loc d,k.v,D] c Q E:=t7 λa v x p ix F Z s b st=>by
 rw[ah (st.dA I) λq o f=>dZ f.typeIs (st.i8 j I) (eV (dS p) f (λy C=>?_) (λh G r w=>?_) (by rw[[o.length,VN],kl hz,])),]
 ·cases e:aO l k with
  |none=>rw[(o.get).1 e] at C;injection C
  |some z=>
   rw[ah ((o.get).2 z e) λu J i=>?_,];rw[J] at C;rw[1 C,⟨F,z,c,.refl _,i,st.toks _,h1 z e⟩,]
 ·have B:aO l k=none:=by
   cases e:aO l k with
   |none=>rfl
   |some z=>refine ah ((o.get).2 z e) λu J i=>?_;rw[J] at h;rw[7 h,]
  exact⟨F,D,_,.refl _,ix.mono b,st.zU I w r (o.put (ix.mono b)) _,n B⟩
end
noncomputable def kT(k:List Atom):V:=.tup (k.map Atom.v)
def itemsAre:∀{vs:List Value},IsL F (k.map Atom.v) vs->ItemsAre (bo w) k vs:=by
 induction k with
 |nil=>exactλh=>h.ni (C:=ItemsAre (bo w) []) .nil
 |cons a k o=>exactλh=>h.inv (C:=ItemsAre (bo w) (a::k)) λv r I J=>.cons (dS I) (o J)
def dU(h:KV F l (xs.map λx=>(x.1,x.2.2)))(k:List Atom):
 (aO l k=none->atKey xs k=none)/\(∀X,aO l k=some X->∃p,atKey xs k=some p/\Is F X p.2):=by
 have C:=h.get (k:=k);have e:=valueAt_kvsOf xs k;unfold kvsOf at e;rw[e] at C;constructor
 ·intro q;have:=C.1 q;simpa using this
 ·intro X q
  rw[ah (C.2 X q) λv o U=>?_,];cases J:atKey xs k with
  |none=>rw[J] at o;injection o
  |some p=>rw[J] at o;rw[1 o,⟨p,rfl,U⟩,]
def js(w:World)(F:ai)(x:List Atom×Addr×Value):Prop:=∃o C n,F x.2.1=some o/\o.cls=.type "tuple"/\o.data=.seq C n/\ItemsAre (bo w) x.1 C.toList
section
variable{g:G0}{A:Around}{env:Env}{c:CS}{E:V->CS->Prop}{ff:Option (List Env)}{F F₀ Z:ai}{s:Shared}{d:Addr}{t:Tag}{l:List (List Atom×V)}{k:List Atom}{X:V}
def Is.uq(h:Is F (kT k) v):∃a,v=.ref a/\∀u,js w F (k,a,u):=by simp only[kT,Is] at h;rw[iU h λa o I n C J U b e=>?_,0 h,3 C,⟨a,rfl,λu=>⟨o,I,n,J,Ve Obj.cls U,b,itemsAre e⟩⟩,]
def js.is(q:js w F x)(I:c8 F h.get?):(tupleKind (bo w)).is h x.1 x.2.1:=by rw[tX q λo C n J U a b=>?_,0 q,⟨o,C,n,I _ _ J,U,a,b⟩,]
def St.dT(st:St g ff env F Z c s)(h:c.σ d=some ⟨t,.dT l⟩):∃xs,KV F l (xs.map λx=>(x.1,x.2.2))/\(∀x∈xs,js g.w F x)/\s.heap.DictOfH (tupleKind (bo g.w)) d xs:=by rw[ah (st.obj _ _ h) λo J U=>ah ((U:o4 g.w F (.dT l) o)) λxs a C=>tW C λb e f i j I m=>?_,0 C,⟨xs,a,I,o,b,e,J,f,i,j,λx n=>js.is (I x n) st.fr,m⟩,]
def St.Dl(st:St g ff env F Z c s)(h:c.σ d=some ⟨t,.dT l⟩)(hs:Heap.SameBut d s.heap h')(C:h'.DictOfH (tupleKind (bo g.w)) d xs)
 (U:KV F J (xs.map λx=>(x.1,x.2.2))) (hi:∀x∈xs,js g.w F x) (tk:Nat):St g ff env F Z ⟨c.m,c.σ.set d ⟨t,.dT J⟩⟩ {s with heap:=h',toks:=tk}:=by
 rw[za C λo j y ho B D G L H=>?_,0 C,st.upd h hs ho (z:=⟨t,.dT J⟩) ⟨xs,U,j,y,B,D,G,hi,H⟩ tk,]
def pg(h:∀x∈xs,js w F x)(I:∀u,js w F (k,a,u)):∀x∈storedH xs k a v,js w F x:=by
 intro x o;unfold storedH at o;split at o
 ·rw[ah (Vn.mp o) λy J C=>?_,3 C,]
  have:=h y J;unfold putAt;split
  ·rw[this,]
  ·rw[this,]
 ·rcases Vk.mp o with o|o
  ·rw[h x o,]
  ·simp only[U5] at o;rw[8 o,I v,]
def ph(h:KV F l (xs.map λx=>(x.1,x.2.2)))(o:Is F X v):KV F (dput l k X) ((storedH xs k a v).map λx=>(x.1,x.2.2)):=by have:=h.put (k:=k) o;have e:=kvsOf_storedH xs k a v;unfold kvsOf at e;rw[[e],this,]
def Dm(J:Base g)(C:c.σ d=some ⟨t,.dT l⟩)(U:A.units+1<cLine)(h:Q (.bool (aO l k).isSome) c):bN g A env Is (compareOp .In) (kT k) (.loc d) c Q E:=t6 λF₀ u b F Z s f st=>by
 rw[bL (st.dT C) λi I n j=>ah (Is.uq (w:=g.w) (b.mono f)) λa o m=>?_,3 o,wpAny_in_heap U ((m .none).is st.fr) (st.i8 J C) j ⟨F,.bool _,c,.refl _,rfl,st.toks _,?_⟩,];have:(atKey i k).isSome=(aO l k).isSome:=by
  cases e:aO l k with
  |none=>simp[(dU I k).1 e]
  |some x=>refine ah ((dU I k).2 x e) λv p _=>?_;rw[Ve _ ‹_›,]
 rw[[this],h,]
def ur(J:Base g)(C:c.σ d=some ⟨t,.dT l⟩)(U:A.units+1<cLine)(h:Q (.bool (!(aO l k).isSome)) c):bN g A env Is (compareOp .NotIn) (kT k) (.loc d) c Q E:=t6 λF₀ u b F Z s f st=>by
 rw[bL (st.dT C) λi I n j=>ah (Is.uq (w:=g.w) (b.mono f)) λa o m=>?_,3 o,wpAny_notIn_heap U ((m .none).is st.fr) (st.i8 J C) j ⟨F,.bool _,c,.refl _,rfl,st.toks _,?_⟩,];have:(atKey i k).isSome=(aO l k).isSome:=by
  cases e:aO l k with
  |none=>simp[(dU I k).1 e]
  |some x=>refine ah ((dU I k).2 x e) λv p _=>?_;rw[Ve _ ‹_›,]
 rw[[this],h,]
def xG(C:c.σ d=some ⟨t,.dT l⟩)(I:A.units+1<cLine)(J:aO l k=some X)(h:Q X c):bN g A env Is getItem (.loc d) (kT k) c Q E:=fW λF₀ v U F Z s b st=>by rw[bL (st.dT C) λn e q f=>ah (Is.uq (w:=g.w) (U.mono b)) λa o i=>?_,3 o,ah ((dU e k).2 X J) λp j m=>wpAny_getItem_heap I ((i .none).is st.fr) f j ⟨F,X,c,.refl _,m,st.toks _,h⟩,]
def qm{xs:List (List Atom×Addr×Value)}(h:KV F l (xs.map λx=>(x.1,x.2.2))):xs.length=l.length:=by simpa using h.length
def qo(C:c.σ d=some ⟨t,.dT l⟩)(b:A.units+1<cLine)(hz:l.length<=100000)(h:Q () ⟨c.m,c.σ.set d ⟨t,.dT (dput l k X)⟩⟩):Cf g A env RU setItem (.loc d) (kT k) X c Q E:=pP λF₀ v x e ix F Z s I st=>by rw[bL (st.dT C) λp J f i=>ah (Is.uq (w:=g.w) (e.mono I)) λa o U=>?_,3 o,wpAny_setItem_heap b ((U .none).is st.fr) i (λq j n=>⟨F,(),_,.refl _,trivial,st.Dl C n j (ph J (ix.mono I)) (pg f U) _,h⟩) (by rw[[qm J,VN],kl hz,]),]
end
section
variable{w:World}{A:Around}{E:Value->Shared->Prop}{s:Shared}{K:Type}[DecidableEq K]
def e9{knd:HeapKind P0 w K}{d a:Addr}{xs:List (K×Addr×Value)}{k:K}{v:Value}{Q:Value->Shared->Prop}(M:knd.room A)(C:knd.is s.heap k a)(hm:s.heap.DictOfH knd d xs)
 (h1:∀p,atKey xs k=some p->Q p.2 {s with toks:=s.toks+knd.draws k})
 (h2:atKey xs k=none->∀h',h'.DictOfH knd d (storedH xs k a v)->Heap.SameBut d s.heap h'->Q v {s with heap:=h',toks:=s.toks+knd.draws k})
 (L:xs.length<=sizeLine):wpAny (model P0 w) A (dictSetDefault d (.ref a) v) Q E s:=by
 rw[za hm λo S R ho hc B H D hn=>?_,0 hm,2 dictSetDefault,Wd<|U0 (knd.pyHash M C ?_),U0 (wpAny_dictFind_heap (s:={s with toks:=s.toks+knd.draws k}) M C ho B H D hn ?_ ?_),]
 ·intro J
  have G:=not_mem_keys_of_get J;refine U0 (XI (U0 (wpAny_updateDictKeys (hz:=by rw[<-e size_of_entries H,ax [.le af aj,.eq aC af] (.le aC aj) (.l [1,1,1]) tt [_,sizeLine,_] L e,]) (s:={s with toks:=s.toks+knd.draws k}) ho B (U6 (h2 (Xx J) _ ⟨_,_,R+1,VM _ ho (Xj (W2 B _)),
   hc.mapDictKeys _,W2 B _,?_,?_,?_⟩ (Vp ..))))))
  ·rw[storedH_new (Xx J)]
   simp[H,entryOfKey]
  ·rw[storedH_new (Xx J)]
   intro x U;rcases Vk.mp U with U|U
   ·rw[knd.keeps (D x U) ho B (Vp ..),]
   ·simp only[U5] at U
    rw[8 U,knd.keeps C ho B (Vp ..),]
  ·rw[storedH_new (Xx J)]
   rw[[Vd,Wu],⟨hn,by simp,?_⟩,];intro x U y P;simp only[VI,List.map_nil,U5] at P;rw[8 P,λe=>G (e▸U),]
 ·intro j p hj
  rw[U0 (Yh (s:={s with toks:=s.toks+knd.draws k}) ho B ?_),[entry_at H j,hj],U0 (XI (U6 (h1 p (atKey_of_get hn hj)))),]
def oa(f:o->β)(l:List o):∀j:Nat,(l.eraseIdx j).map f=(l.map f).eraseIdx j:=by
 induction l with
 |nil=>exactλ_=>rfl
 |cons x l C=>exactλj=>j.casesOn rfl λj=>Ve (f x::·) (C j)
noncomputable def eW(xs:List (K×Addr×Value))(k:K):List (K×Addr×Value):=xs.filter λx=>decide (x.1≠k)
def mL{xs:List (K×Addr×Value)}{k:K}:∀{j:Nat} {p:Addr×Value},(xs.map (·.1)).Nodup->xs[j]?=some (k,p)->eW xs k=xs.eraseIdx j:=by
 induction xs with
 |nil=>intro j p _ h;rfl
 |cons x xs I=>
  intro j p o h;rw[VI,VX] at o
  induction j using Nat.casesOn with
  |zero=>
   simp only[List.getElem?_cons_zero,Yd] at h;rw[8 h,[List.eraseIdx_cons_zero],2 eW,[List.filter_cons],];simp only[ne_eq,not_true_eq_false,decide_false,Ws,XA];rw[List.filter_eq_self];intro y J;simp only[WN];exactλe=>o.1 (Vn.mpr ⟨y,J,e⟩)
  |succ j=>
   simp only[List.getElem?_cons_succ] at h;have C:¬x.1=k:=λe=>o.1 (e▸Vn.mpr ⟨(k,p),Xg h,rfl⟩);rw[List.eraseIdx_cons_succ,<-I o.2 h];rw[2 eW,[List.filter_cons],];simp[C]
def eX{knd:HeapKind P0 w K}{d a:Addr}{xs:List (K×Addr×Value)}{k:K}{p:Addr×Value}{Q:Option DictEntry->Shared->Prop}(L:knd.room A)(C:knd.is s.heap k a)(hm:s.heap.DictOfH knd d xs)
 (hp:atKey xs k=some p) (h:∀e h',e.val=p.2->h'.DictOfH knd d (eW xs k)->Heap.SameBut d s.heap h'->Q (some e) {s with heap:=h',toks:=s.toks+knd.draws k})
 (B:xs.length<=sizeLine):wpAny (model P0 w) A (Builtin.Dict.takeOut d (.ref a)) Q E s:=by
 rw[za hm λo M P ho hc J U y hn=>?_,0 hm,2 Builtin.Dict.takeOut,Wd<|U0 (knd.pyHash L C ?_),U0 (wpAny_dictFind_heap (s:={s with toks:=s.toks+knd.draws k}) L C ho J U y hn ?_ ?_),]
 ·intro D
  rw[Xx D] at hp;rw[7 hp,]
 ·intro j q hj
  have R:q=p:=by rw[atKey_of_get hn hj] at hp;cases hp;rfl
  subst R;refine U0 (Yh (s:={s with toks:=s.toks+knd.draws k}) ho J ?_);rw[entry_at U j,hj];refine U0 (wpAny_updateDictKeys (hz:=by rw[<-e size_of_entries U,ax [.le af aj,.eq aC af] (.le aC aj) (.l [1,1,1]) tt [_,sizeLine,_] B e,]) (s:={s with toks:=s.toks+knd.draws k}) ho J (U6 (h _ _ rfl ⟨_,_,P+1,VM _ ho (Xj (W2 J _)),
   hc.mapDictKeys _,W2 J _,?_,?_,?_⟩ (Vp ..))))
  ·rw[mL hn hj]
   have G:j<M.size:=by rw[[size_of_entries U],(VH.mp hj).1,]
   rw[oa,<-U];obtain⟨l⟩:=M;have H:j<l.length:=G;simp[Array.eraseIdxIfInBounds,H]
  ·intro x S
   rw[knd.keeps (y x ((VS.mp S).1)) ho J (Vp ..),]
  ·rw[hn.sublist (List.Sublist.map _ (List.filter_sublist ..)),]
end
section
variable{g:G0}{A:Around}{env:Env}{c:CS}{E:V->CS->Prop}{F F₀:ai}{d:Addr}{t:Tag}{l:List (List Atom×V)}{k:List Atom}{X:V}
def zX(h:KV F l (xs.map λx=>(x.1,x.2.2))):KV F (dp l k) ((eW xs k).map λx=>(x.1,x.2.2)):=by
 have:=h.del (k:=k);have e:without (xs.map λx=>(x.1,x.2.2)) k=(eW xs k).map λx=>(x.1,x.2.2):=by rw[2 without eW,[List.filter_map],];rfl
 rw[e] at this;rw[this,]
def lF(q:Base g)(J:c.σ d=some ⟨t,.dT l⟩)(r:A.units+1<cLine)(hz:l.length<=100000)(h1:∀X,aO l k=some X->Q X c)(y:aO l k=none->Q D ⟨c.m,c.σ.set d ⟨t,.dT (dput l k D)⟩⟩):
 CA g A env (.raw (.builtin "dict.setdefault")) [.loc d,kT k,D] c Q E:=t7 λF₀ v x B ix F Z s U st=>by
 rw[bL (st.dT J) λP o G h=>ah (Is.uq (w:=g.w) (B.mono U)) λa C i=>?_,3 C,<-H h.typeIs,dZ H (st.i8 q J) (e9 r ((i .none).is st.fr) h (λp I=>?_) (λj R L M=>?_) (by rw[[qm o,VN],kl hz,])),]
 ·cases e:aO l k with
  |none=>rw[(dU o k).1 e] at I;injection I
  |some z=>
   rw[ah ((dU o k).2 z e) λu b n=>?_,];rw[b] at I;rw[1 I,⟨F,z,c,.refl _,n,st.toks _,h1 z e⟩,]
 ·have N:aO l k=none:=by
   cases e:aO l k with
   |none=>rfl
   |some z=>refine ah ((dU o k).2 z e) λu b n=>?_;rw[b] at j;rw[7 j,]
  exact⟨F,D,_,.refl _,ix.mono U,st.Dl J M L (ph o (ix.mono U)) (pg G i) _,y N⟩
def zY(J:c.σ d=some ⟨t,.dT l⟩)(b:A.units+1<cLine)(f:aO l k=some X)(hz:l.length<=100000)(h:Q () ⟨c.m,c.σ.set d ⟨t,.dT (dp l k)⟩⟩):bN g A env RU delItem (.loc d) (kT k) c Q E:=fW λF₀ v i F Z s j st=>by rw[bL (st.dT J) λB C n U=>ah (Is.uq (w:=g.w) (i.mono j)) λa o q=>?_,3 o,ah ((dU C k).2 X f) λp r D=>?_,<-I U.typeIs,wpAny_delItem_slot I rfl Xc (V7 Xc I PySem.F.entry_dict_delitem ?_ (PySem.F.args_dict_delitem_2 ..)),2 Builtin.«dict.__delitem__»,U0 ?_,2 Builtin.Dict.dictSlotArgs,U0 (wpAny_notOrdered_dict I ?_),5 (wpAny _ _ (pure (Value.ref d,Value.ref a)) _ _ s),U6 ?_,5 (wpAny _ _ (Builtin.Dict.takeOut d (.ref a)>>=_) _ _ s),U0 (eX b ((q .none).is st.fr) U r (λe G _ u y=>?_) (by rw[[qm C,VN],kl hz,])),U0 (Yb (U6 ⟨.none,rfl,F,(),_,.refl _,trivial,st.Dl J y u (zX C) (λx z=>n x (VS.mp z).1) _,h⟩)),]
def zZ(i:c.σ d=some ⟨t,.dT l⟩)(u:A.units+1<cLine)(y:aO l k=some X)(hz:l.length<=100000)(h:Q X ⟨c.m,c.σ.set d ⟨t,.dT (dp l k)⟩⟩):CA g A env (.raw (.builtin "dict.pop")) [.loc d,kT k] c Q E:=vM λF₀ v z F Z s B st=>by
 rw[bL (st.dT i) λj I D J=>ah (Is.uq (w:=g.w) (z.mono B)) λa C G=>?_,3 C,ah ((dU I k).2 X y) λp n H=>?_,<-q J.typeIs,za (id J) λo U Y L hc M N P hn=>V7 Xv q PySem.F.entry_dict_pop ?_ (PySem.F.args_dict_pop_2 ..),2 Builtin.«dict.pop»,U0 ?_,2 Builtin.Dict.keyAndDefault,U0 (wpAny_notOrdered_dict q ?_),5 (wpAny _ _ (pure (d,Value.ref a,none)) _ _ s),U6 ?_,];simp only[show(keyPart (Value.ref a)).isSome=false from rfl,Ws,XA];rw[U0 (Yh L M (U0 (U6 ?_))),];have b:U.isEmpty=false:=by
  have R:=size_of_entries N;have:j≠[]:=by rintro rfl;rw[7 n,]
  cases r:U.isEmpty
  ·rfl
  ·have:U.size=0:=by exact Wi ‹_›
   rw[R] at this;rw[U9 (Wv.mp this) ‹j≠[]›,]
 rw[b];simp only[Ws,XA];rw[U0 (eX u ((G .none).is st.fr) J n (λe h' S f W=>?_) (by rw[[qm I,VN],kl hz,])),];simp only[Option.isNone_some,Ws,XA];rw[U0 (Yb (U6 ⟨_,rfl,F,X,_,.refl _,by rw[[S],H,],st.Dl i W f (zX I) (λx r=>D x (VS.mp r).1) _,h⟩)),]
def iH{n:Str}{id:String}{pl:Sem Bool}{Q:V×List V->CS->Prop}(C:Slot "dict" n id)(I:typeOf (.builtin id)=pure (.type "method_descriptor"))(b:c.σ d=some ⟨t,.dT l⟩)
 (h:Q (.raw (.builtin id),[.loc d]) c):iF g A env RM (λo=>getMethod o n pl) (.loc d) c Q E:=o6 λF₀ F Z s m st=>by
 rw[bL (st.dT b) λp q u J=>?_,<-f J.typeIs,n5 J λo v w i j r=>?_,0 J,Yg f PySem.F.plainAttrs_dict C I (λa e=>by rw[1 e,⟨_,i,j.2.1⟩,]) ⟨F,(.raw (.builtin _),[.loc d]),c,.refl _,⟨rfl,.cons rfl .nil⟩,st,h⟩,]
end
noncomputable def RP(F:ai):List (Atom×V)->List (Value×Value)->Prop
 |[],vs=>vs=[]
 |(k,X)::l,vs=>∃u v r,vs=(u,v)::r/\Is F k.v u/\Is F X v/\RP F l r
def RP.Dn:∀{vs:List (Value×Value)},RP F l vs->∃kvs,Carries (bo w) vs kvs/\KV F l kvs:=by
 induction l with
 |nil=>exactλe=>(show _=[] from e)▸⟨[],trivial,rfl⟩
 |cons p l o=>exactλe=>kG e λu v r e=>e.1▸aw (o e.2.2.2) λkvs q=>⟨(p.1,v)::kvs,⟨dS e.2.1,rfl,q.1⟩,v,kvs,rfl,e.2.2.1,q.2⟩
noncomputable def j7(l more:List (Atom×V)):List (Atom×V):=more.foldl (λo C=>dput o C.1 C.2) l
def KV.merge(h:KV F more o):∀{l:List (Atom×V)} {kvs:List (Atom×Value)},KV F l kvs->KV F (j7 l more) (merged kvs o):=
 h.ind (C:=λmore o=>∀{l:List (Atom×V)} {kvs:List (Atom×Value)},KV F l kvs->KV F (j7 l more) (merged kvs o)) (λh=>h) λa _ c _ _ I=>c (I.put a)
section
variable{g:G0}{A:Around}{env:Env}{c:CS}{E:V->CS->Prop}
abbrev DP(g:G0)(A:Around)(env:Env)(o:List (Sem Value×Sem Value))(c:CS)(Q:List (Atom×V)->CS->Prop)(E:V->CS->Prop):Prop:=T g A env RP bot (evalPairs o) c Q E
def Hw(h:Q [] c):DP g A env [] c Q E:=λF Z s o st=>evalPairs_nil ⟨F,[],c,.refl _,rfl,st,h⟩
def Dp
 (h:EV g A env k c (λx w=>∃a:Atom,x=a.v/\EV g A env v w (λX n=>DP g A env (pairTrees ks vs env pos) n (λl C=>Q ((a,X)::l) C) E) E) E):DP g A env (pairTrees (some k::ks) (v::vs) env pos) c Q E:=λF Z s d st=>by
 rw[evalPairs_cons<|T.run h d st (λL a x w M p D q d=>?_) (λz b l n G f I J r=>⟨z,l,n,f,I,J,r⟩),6 d,λi=>ah i λt u d=>?_,0 i,3 u,U0<|T.run d (λ_ _ e=>nomatch e) q (λz b y n G f I J r=>?_) (λj b l C B U I o m=>⟨j,l,C,p.trans U,I,o,m⟩),U0 (W0 (U6 ?_)),T.run r (λ_ _ e=>nomatch e) J (λj b l C B U H o m=>?_) (λj b l C B U I o m=>⟨j,l,C,(p.trans f).trans U,I,o,m⟩),⟨j,(t,y)::l,C,(p.trans f).trans U,⟨_,_,_,rfl,D.mono (f.trans U),I.mono U,H⟩,o,m⟩,]
def rW:o4 w F (.dA []) {cls:=.type "dict",data:=.dict #[]}:=
 ⟨[],rfl,#[],0,⟨rfl,rfl,rfl⟩,rfl,λ_ h=>by simp at h,Pairs.nil,List.nodup_nil⟩
def z7:o4 w F (.dT []) {cls:=.type "dict",data:=.dict #[]}:=
 ⟨[],rfl,#[],0,⟨rfl,rfl,rfl⟩,rfl,rfl,λ_ h=>by simp at h,List.nodup_nil⟩
def z8(t:Tag)(h:∀a,c.σ a=none->Q (.loc a) ⟨c.m,c.σ.set a ⟨t,.dA []⟩⟩):EV g A env (.Dict [] [] pos) c Q E:=λF Z s o st=>
 wpAny_Dict_empty ⟨F,.loc _,_,.refl _,rfl,st.c9 _ (y:=⟨t,.dA []⟩) rW,h _ st.fresh.2.2⟩
def xH(t:Tag)(h:∀a,c.σ a=none->Q (.loc a) ⟨c.m,c.σ.set a ⟨t,.dT []⟩⟩):EV g A env (.Dict [] [] pos) c Q E:=λF Z s o st=>
 wpAny_Dict_empty ⟨F,.loc _,_,.refl _,rfl,st.c9 _ (y:=⟨t,.dT []⟩) z7,h _ st.fresh.2.2⟩
def Dq(t:Tag)
 (h:∀a,c.σ a=none->DP g A env (pairTrees C J env pos) ⟨c.m,c.σ.set a ⟨t,.dA []⟩⟩ (λl j=>∃t',j.σ a=some ⟨t',.dA []⟩/\Q (.loc a) ⟨j.m,j.σ.set a ⟨t',.dA (j7 [] l)⟩⟩) E)
 (h1:C.all (·.isSome)=true:=by rfl) (h2:C.length=J.length:=by rfl) (L:C≠[]:=by simp) (M:C.length<=15:=by decide):EV g A env (.Dict C J pos) c Q E:=λF Z s P st=>by
 rw[wpAny_Dict_walk (knd:=bo g.w) h1 h2 L M ?_,<-x st.c9 {cls:=.type "dict",data:=.dict #[]} (y:=⟨t,.dA []⟩) rW,T.run (h _ st.fresh.2.2) P x (λS a l j s1 W X U q=>?_) (λY b l c2 s2 f2 ib B h2=>⟨Y,l,c2,f2,ib,B,h2⟩),ah q λt' H q2=>?_,0 q,ah (RP.Dn (w:=g.w) X) λd r1 r2=>ah (U.dA H) λD e1 e2=>?_,];cases(show D=[] from e1);exact⟨d,r1,e2,λh' hd hs=>⟨S,.loc _,_,W,rfl,U.zU H hs hd (r2.merge (l:=[]) (kvs:=[]) rfl) _,q2⟩⟩
end
noncomputable def d1(env env':Env)(Z:ai)(h:Heap):ai:=λa=>if a∈aU env/\a∉aU env' then h.get? a else Z a
structure qp(env env':Env):Prop where
 frame:env'.frame=env.frame
 LS:∀n b,env'.cells.lookup n=some b->env'.kindOf n=some .cell->env.cells.lookup n=some b/\env.kindOf n=some .cell
 free:∀n,env'.kindOf n≠some .free
 own:∀b∈aU env',b=env'.locals\/(b∈aU env/\b≠env.locals)
namespace St
variable{g:G0}{ff:Option (List Env)}{env env':Env}{F F' Z:ai}{c c':CS}{s s':Shared}
def Hx(x:St g ff env F Z c s)(k:qp env env')(J:∀b o,s.heap.get? b=some o->h'.get? b=some o)(j:s.heap.objs.size<=env'.locals)(d:∃o,h'.get? env'.locals=some o)(M:(aU env').Nodup)(hm:∀n X,env'.kindOf n=some .cell->m.lookup n=some X->c.m.lookup n=some X)
 (P:∃mv,h'.Ns env'.locals mv/\∀n X,env'.kindOf n=some .local->m.lookup n=some X->∃v,mv n=some v/\Is F X v):
 St g ff env' F (d1 env env' Z s.heap) ⟨m,c.σ⟩ {s with heap:=h',toks:=tk}:=by
 have lt:∀b o,s.heap.get? b=some o->b<s.heap.objs.size:=λb o e=>Vq e;have U:∀b o,s.heap.get? b=some o->b≠env'.locals:=λb o e q=>U9 (lt b o e) (VV.mpr (q▸j));have Q:∀o,s.heap.get? env'.locals≠some o:=λo e=>U _ o e rfl;exact
 {gens:=x.gens
  gF:=x.gF
  base:=x.base
  fr:=λb o e=>J b o (x.fr b o e)
  zr:=λb o e=>by
   unfold d1 at e;split at e
   ·unfold kH
    split
    ·exact⟨o.slots,J b o e⟩
    ·rw[J b o e,]
   ·have:=x.zr b o e
    unfold kH at this⊢;split at this
    ·rw[4 q,[Vb q],aw this λY e=>?_,0 this,⟨Y,J _ _ e⟩,]
    ·rw[4 q,[U8 q],J _ _ this,]
  obj:=λb y e=>let⟨o,h1,h2⟩:=x.obj b y e;⟨o,J b o h1,h2⟩
  fD:=x.fD
  d6:=λb y e=>by unfold d1;rw[U8 λq=>by have:=(x.own b q.1).2.2;rw[e] at this;rw[7 this,]];rw[x.d6 b y e,]
  ZF:=λb o e=>by
   unfold d1 at e;split at e
   ·rw[4 q,(x.own b q.1).1,]
   ·rw[x.ZF b o e,]
  own:=λb hb=>by
   rcases k.own b hb with rfl|⟨C,_⟩
   ·rw[⟨?_,?_,?_⟩,]
    ·cases e:F env'.locals with
     |none=>rfl
     |some o=>exact U9 (x.fr _ o e) (Q o)
    ·unfold d1
     rw[U8 λq=>q.2 hb];cases e:Z env'.locals with
     |none=>rfl
     |some o=>refine aw (x.gM e) λo' R=>?_;rw[U9 R (Q o'),]
    ·cases e:c.σ env'.locals with
     |none=>rfl
     |some y=>refine ah (x.obj _ y e) λo R _=>?_;rw[U9 R (Q o),]
   ·rw[⟨(x.own b C).1,?_,(x.own b C).2.2⟩,]
    rw[2 d1,[U8 λq=>q.2 hb],(x.own b C).2.1,]
  cq:=M
  live:=λb hb=>by
   rcases k.own b hb with rfl|⟨C,_⟩
   ·rw[d,]
   ·rw[aw (x.live b C) λo e=>?_,⟨o,J _ _ e⟩,]
  ns:=P
  cell:=λn b h1 h2=>by rw[aV (k.LS n b h1 h2) λS k2=>ah (x.cell n b S k2) λv B W=>ah B λo q1 q2=>?_,0 B,⟨v,⟨o,J _ _ q1,q2⟩,λX e=>W X (hm n X h2 e)⟩,]
  bx:=λn b h1 h2=>U9 h2 (k.free n)
  fz:=λl hl e he=>by
   rw[aV (x.fz l hl e he) λS D=>ah D λL q1 q2=>?_,0 D,⟨S,L,q1,.inr ?_⟩,];rcases q2 with rfl|⟨o,q2,W⟩
   ·rw[ah x.ns λmv G _=>n5 G λo es ep n1 n2 _=>?_,0 G,]
    rw[⟨o,?_,λvs q=>by rw[n2] at q;rw[7 q,]⟩,2 d1,];have H:env.locals∉aU env':=λq=>by
     rcases k.own _ q with e|⟨_,e⟩
     ·rw[U _ _ n1 e,]
     ·rw[e rfl,]
    rw[[Vb ⟨by rw[.head _,],H⟩],n1,]
   ·rw[⟨o,?_,W⟩,]
    unfold d1;rw[U8 λq=>by have:=(x.own L q.1).2.1;rw[q2] at this;rw[7 this,]];exact q2}
def LU(x:St g ff env F Z c s)(k:qp env env')(L:s.heap.objs.size<=env'.locals)(y:St g ff env' F' (d1 env env' Z s.heap) c' s')(Q:c8 F F')
 (hm:∀n b X,env'.cells.lookup n=some b->env'.kindOf n=some .cell->c.m.lookup n=some X->c'.m.lookup n=some X) (M:∀n b,env.cells.lookup n=some b->env.kindOf n=some .cell->b∈aU env'->env'.cells.lookup n=some b/\env'.kindOf n=some .cell):St g ff env F' Z ⟨c.m,c'.σ⟩ s':=by
 have G:∀b o,Z b=some o->d1 env env' Z s.heap b=some o:=λb o e=>by unfold d1;rw[U8 λq=>by have:=(x.own b q.1).2.1;rw[e] at this;rw[7 this,]];rw[e,]
 have nL:∀o,s.heap.get? env'.locals≠some o:=λo e=>U9 (Vq e) (VV.mpr L);have U:∀b∈aU env,b∉aU env'->∃o,s.heap.get? b=some o/\d1 env env' Z s.heap b=some o:=λb hb C=>by rw[aw (x.live b hb) λo ho=>⟨o,ho,by rw[2 d1,[Vb ⟨hb,C⟩],ho,]⟩,]
 have d:env.locals∉aU env':=λq=>by
  rcases k.own _ q with e|⟨_,e⟩
  ·rw[aw (x.live env.locals (.head _)) λo ho=>?_,nL o (e▸ho),]
  ·rw[e rfl,]
 have J:∀b∈aU env,b≠env.locals->b∉eG ff:=λb hb R q=>by
  rcases x.gN q with rfl|⟨o,ho,_⟩
  ·rw[R rfl,]
  ·have:=(x.own b hb).2.1;rw[ho] at this;rw[7 this,]
 exact
 {gens:=y.gens
  gF:=y.gF
  base:=y.base
  fr:=y.fr
  zr:=λb o e=>y.zr b o (G b o e)
  obj:=y.obj
  fD:=y.fD
  d6:=λb w e=>by
   cases q:Z b with
   |none=>rfl
   |some o=>have:=y.d6 b w e;rw[G b o q] at this;rw[7 this,]
  ZF:=λb o e=>y.ZF b o (G b o e)
  own:=λb hb=>by
   by_cases C:b∈aU env'
   ·rw[dG (y.own b C) λh1 h2 P=>⟨h1,(x.own b hb).2.1,P⟩,]
   ·rw[ah (U b hb C) λo h1 h2=>⟨y.ZF b o h2,(x.own b hb).2.1,?_⟩,]
    cases q:c'.σ b with
    |none=>rfl
    |some w=>have:=y.d6 b w q;rw[h2] at this;rw[7 this,]
  cq:=x.cq
  live:=λb hb=>by
   by_cases C:b∈aU env'
   ·rw[y.live b C,]
   ·rw[ah (U b hb C) λo h1 h2=>?_,y.gM h2,]
  ns:=by
   rw[ah x.ns λmv B S=>n5 B λo es ep h1 h2 P=>?_,0 B,ah (U env.locals (.head _) d) λo' j H=>?_,];rw[h1] at j;rw[1 j,<-z y.zr _ o H,];have:∃sl,s'.heap.get? env.locals=some {o with slots:=sl}:=by
    unfold kH at z;split at z
    ·rw[z,]
    ·exact⟨o.slots,z⟩
   rw[aw this λsl hs=>?_,0 this,⟨mv,⟨_,es,ep,hs,h2,P⟩,λn X a b=>let⟨v,p1,p2⟩:=S n X a b;⟨v,p1,p2.mono Q⟩⟩,]
  cell:=λn b h1 h2=>by
   have hb:=fh h1 h2;by_cases C:b∈aU env'
   ·rw[aV (M n b h1 h2 C) λk1 k2=>ah (y.cell n b k1 k2) λv j H=>?_,]
    exact⟨v,j,λX e=>H X (hm n b X k1 k2 e)⟩
   ·rw[ah (x.cell n b h1 h2) λv D h5=>ah D λo P S=>?_,0 D,]
    rw[ah (U b hb C) λo' j H=>?_,];rw[P] at j;rw[1 j,<-z y.zr _ o H,];unfold kH at z;rw[U8 (J b hb (x.jZ h1 h2))] at z;exact⟨v,⟨o,z,S⟩,λX e=>let⟨v',p1,p2⟩:=h5 X e;⟨v',p1,p2.mono Q⟩⟩
  bx:=λn b h1 h2 X e=>let⟨o,v,q0,j,H,q3⟩:=x.bx n b h1 h2 X e;⟨o,v,q0.imp id (Q b o),j,H,q3.mono Q⟩
  fz:=x.fz}
end St
def lG(I:Nat->Shared->Prop)
 (turn:∀n s,I n s->wpAny (model P0 w) A (pyNext z) (λr J=>match r with
  |none=>R (.ok .next) J
  |some v=>wpAny (model P0 w) A (letOwnedTupleGo o z v) (λ_ U=>wpAny (model P0 w) A (assign o env v) (λ_ d=>
   wpAny (model P0 w) A (forIn k true λc r=>if r=true then do let ok<-isTrue c env (eval c env);pure (ForInStep.yield ok) else pure (ForInStep.yield r)) (λok a=>
    if ok=true then wpAny (model P0 w) A (eval l env) (λx e=>
     wpAny (model P0 w) A (call (.builtin "list.append") [p,x]) (λ_ f=>∃m,m<n/\I m f) jl e) jl a
    else∃m,m<n/\I m a) jl d) jl U) jl J) jl s)
 (n:Nat) (h:I n s):
 codeAny (model P0 w) A (.compLoop (.ListComp l [⟨o,q,k,0⟩] j pos) 0 z p env) R s:=by
 rw[codeAny_loop rfl I (λn s B=>?_) n h,5 (wpAny _ A ((compTurn (.ListComp l [⟨o,q,k,0⟩] j pos) 0 z p env).onRaise (λx=>do noteFrame x env;theTreesLotGoes x)) _ _ s),wpAny_noted ?_,[compTurn_list],U0 (W0 (U0 (Wr (turn n s B) (λr J C=>?_) λ_ _ b=>b.elim))),]
 induction r with
 |none=>exact U6 C
 |some v=>
  rw[U0 (Wr C (λ_ U C=>?_) λ_ _ b=>b.elim),U0 (Wr C (λ_ d t=>U0 (Wr t (λok a i=>?_) λ_ _ b=>b.elim)) λ_ _ b=>b.elim),]
  induction ok with
  |false=>exact U6 ⟨rfl,i⟩
  |true=>
   rw[U0 (U0 (Wr i (λx e u=>U0 (Wr u (λ_ f y=>U6 (U6 ⟨rfl,y⟩)) λ_ _ b=>b.elim)) λ_ _ b=>b.elim)),]
noncomputable def fZ(o:List Expr)(env:Env):Sem Bool:=forIn o true λc r=>if r=true then do let ok<-isTrue c env (eval c env);pure (ForInStep.yield ok) else pure (ForInStep.yield r)
noncomputable def et(g:G0)(A:Around)(env:Env)(o:Expr)(I:List Expr)(J:Expr)(K:List V->CS->Prop):List V->List V->CS->Prop
 |[],C,c=>K C c
 |x::xs,C,c=>As g A env o x c (λa=>T g A env RB bot (fZ I env) a (λok U=>match ok with
  |true=>EV g A env J U (λX b=>C.length<=100000/\et g A env o I J K xs (C++[X]) b) iA
  |false=>et g A env o I J K xs C U) iA) iA
structure vY(g:G0)(A:Around)(env:Env)(F₁ Z:ai)(wr:List Addr)(S:Nat->Heap->Prop)(D:Addr)(Inv:Nat->List V->CS->Prop)(i:Nat)(s:Shared):Prop where
 ex:∃F pW c acc o,c8 F₁ F/\St g A.frames env F (ai.set pW D o) c s/\pW D=none/\o4 g.w F (.list acc) o/\Inv i acc c/\S i s.heap/\Zi A.frames wr Z pW
def xI(h:Q true c):T g A env RB F₀ (fZ [] env) c Q E:=λF Z s o st=>U6 ⟨F,true,c,.refl _,rfl,st,h⟩
def xJ(h:TS g A env t c Q E):T g A env RB bot (fZ [t] env) c Q E:=by
 have e:fZ [t] env=PySem.isTrue t env (eval t env):=by unfold fZ;simp only[List.forIn_cons,List.forIn_nil,Yc,bind_assoc,pure_bind,bind_pure]
 rw[[e],h,]
def FG(g:G0)(A:Around)(env:Env)(C:List Expr)(I:Expr)(Inv:Nat->List V->CS->Prop)(i:Nat)(o:List V)(c:CS):Prop:=
 T g A env RB bot (fZ C env) c (λok J=>match ok with
  |true=>EV g A env I J (λX U=>o.length<=100000/\Inv (i+1) (o++[X]) U) iA
  |false=>Inv (i+1) o J) iA
noncomputable def ai.del(F:ai)(a:Addr):ai:=λx=>if x=a then none else F x
def ai.lV{F:ai}{a:Addr}{o:Obj}(h:F a=some o):(F.del a).set a o=F:=by
 funext x
 unfold ai.set ai.del;by_cases q:x=a
 ·subst q;simp[h]
 ·simp[q]
def ai.gL(F:ai)(a:Addr):F.del a a=none:=by rw[Vb rfl,]
def ai.bS(F:ai)(o:Obj)(h:b≠a):F.set a o b=F b:=by rw[U8 ‹_›,]
def z9{o:List Addr}{b D:Addr}(C:b∈o)(I:D∉o):b≠D:=λq=>I (q▸C)
def og{g:G0}{A:Around}{env:Env}{U iter elt:Expr}{ifs:List Expr}{scope:Scope}{pos:Pos}{I D:Addr}{fp u:List Addr}{F₁:ai}{l:List V}{S:Nat->Heap->Prop}{RR:Result->Shared->Prop}
 (W:dv g A U I fp u F₁ l S) {Z:ai} {Inv:Nat->List V->CS->Prop} (hD:D∉u) (O8:Z D=none) (Rn:D∉eG A.frames) (Cg:∀b∈fp,b∉u->(∃o,F₁ b=some o)\/(∃o,Z b=some o/\b∉eG A.frames))
 (step:∀i C c X,l[i]?=some X->Inv i C c->As g A env U X c (λc'=>FG g A env ifs elt Inv i C c') iA)
 {i₀:Nat} {F₀:ai} (O9:c8 F₁ F₀) {s:Shared} (LV:i₀<=l.length) (ht:vY g A env F₀ Z u S D Inv i₀ s)
 (hQ:∀F C c s',c8 F₀ F->St g A.frames env F Z ⟨c.m,c.σ.set D ⟨.dI,.list C⟩⟩ s'->c.σ D=none->Inv l.length C c->RR (.ok .next) s'):
 codeAny (model P0 g.w) A (.compLoop (.ListComp elt [⟨U,iter,ifs,0⟩] scope pos) 0 (.ref I) (.ref D) env) RR s:=by
 refine lG (λm s=>∃i,i<=l.length/\m=l.length-i/\vY g A env F₀ Z u S D Inv i s) (λm s hI=>?_) (l.length-i₀) ⟨i₀,LV,rfl,ht⟩;revert hI;refineλLW=>aB λR_ mM=>bL LW λi hi Ci xK=>?_;clear LW;rcases xK with⟨F,pW,c,C,o,M,st,UI,ho,N,hS,hz⟩;refine mM ?_;clear mM R_;obtain rfl:=Ci;have Ro:Zi A.frames u (Z.set D o) (pW.set D o):=⟨λb f=>by
  by_cases q:b=D
  ·subst q;simp
  ·rw[[ai.bS _ _ q,ai.bS _ _ q],hz.off b f,],
  λb f=>by rw[aw (hz.on b f) λob e=>⟨ob,by rw[[ai.bS _ _ (z9 f hD)],e,]⟩,],hz.fr,λb f=>by rw[[ai.bS _ _ (z9 f hD)],hz.none b f,]⟩
 by_cases LN:i=l.length
 ·subst LN
  rw[o9 W st hS Ro λs' h=>?_,];have Aa:c.σ D=none:=by
   cases e:c.σ D with
   |none=>rfl
   |some y=>have:=h.d6 D y e;simp at this
  rw[hQ F C c s' M (h.ua (y:=⟨.dI,.list C⟩) O8 Rn ho) Aa N,]
 ·have j:=WV hi LN
  have key:∀v s' F' d,c8 F F'->Is F' l[i] v->S (i+1) s'.heap->St g A.frames env F' d c s'->Zi A.frames u (Z.set D o) d->
   wpAny (model P0 g.w) A (assign U env v) (λ_ P=>
    wpAny (model P0 g.w) A (forIn ifs true λc r=>if r=true then do let ok<-isTrue c env (eval c env);pure (ForInStep.yield ok) else pure (ForInStep.yield r)) (λok z=>
     if ok=true then wpAny (model P0 g.w) A (eval elt env) (λx B=>
      wpAny (model P0 g.w) A (call (.builtin "list.append") [.ref D,x]) (λ_ R=>∃m,m<l.length-i/\∃i,i<=l.length/\m=l.length-i/\vY g A env F₀ Z u S D Inv i R) jl B) jl z
     else∃m,m<l.length-i/\∃i,i<=l.length/\m=l.length-i/\vY g A env F₀ Z u S D Inv i z) jl P) jl s':=by
   intro v s' F' d Fz hR C3 h n;have M:=M.trans Fz;have ho:=ho.mono Fz;have H:d D=some o:=by rw[[n.off D hD],Vb rfl,]
   have O':Zi A.frames u Z (d.del D):=⟨λb f=>by
    unfold ai.del;by_cases q:b=D
    ·subst q;simp[O8]
    ·rw[U8 q,n.off b f,ai.bS _ _ q],
    λb f=>by rw[aw (n.on b f) λob e=>⟨ob,by rw[2 ai.del,[U8 (z9 f hD)],e,]⟩,],n.fr,λb f=>hz.none b f⟩
   have Oe:∀G:ai,c8 F₀ G->∀b∈fp,b∉u->(∃o,G b=some o)\/(∃o',(Z.set D o) b=some o'/\b∉eG A.frames):=λG hG b f hn=>(Cg b f hn).imp (λ⟨o,e⟩=>⟨o,hG b o (O9 b o e)⟩) λ⟨o',e,hf⟩=>⟨o',by rw[ai.bS _ _ (λq=>by rw[q,O8] at e;rw[7 e,])];rw[e,],hf⟩
   rw[T.run (step i C c _ (U' j) N F' v hR) (.refl _) h (λSx _ _ c' P f1 _ zx hx=>?_) λ_ _ _ _ _ _ _ _ e=>e.elim,T.run hx (.bot _) zx (λPa ok UJ Pb z f3 iX zB hK=>?_) λ_ _ _ _ _ _ _ _ e=>e.elim,9 iX,]
   induction ok with
   |false=>
    rw[[U8 (Vu)],⟨l.length-(i+1),by rw[ax [.lt af aj,.sub aC aj (.p af aF),.sub bH aj af] (.lt aC bH) (.s 2 (.l [0,1,1,1,0,0,1]) (.l [0,1,1,0,0,0,1])) tt [_,_,_,_] j rfl rfl,],i+1,j,rfl,Pa,d.del D,Pb,C,o,(M.trans f1).trans f3,?_,ai.gL ..,ho.mono (f1.trans f3),hK,il W h zB (f1.trans f3) C3 n (Oe F' M),O'⟩,[ai.lV H],];exact zB
   |true=>
    rw[[Vb rfl],T.run hK (λ_ _ e=>nomatch e) zB (λY Sz X J B f4 iX L h4=>?_) λ_ _ _ _ _ _ _ _ e=>e.elim,aV h4 λhlen LX=>?_,0 h4,<-SD il W h L ((f1.trans f3).trans f4) C3 n (Oe F' M),];have Aa:J.σ D=none:=by
     cases e:J.σ D with
     |none=>rfl
     |some y=>have:=L.d6 D y e;rw[H] at this;rw[7 this,]
    have LY:St g A.frames env Y (d.del D) ⟨J.m,J.σ.set D ⟨.dI,.list C⟩⟩ B:=by rw[<-ai.lV H] at L;rw[L.ua (y:=⟨.dI,.list C⟩) (ai.gL ..) Rn (ho.mono ((f1.trans f3).trans f4)),]
    refine T.run (pf (g:=g) (A:=A) (env:=env) (E:=iA) (X:=X) (c:=⟨J.m,J.σ.set D ⟨.dI,.list C⟩⟩) (Q:=λv c=>c=⟨J.m,(J.σ.set D ⟨.dI,.list C⟩).set D ⟨.dI,.list (C++[X])⟩⟩) (ak.ae ..) hlen rfl Y _ _ rfl (IsL.cons rfl (IsL.cons iX .nil)))
     (.refl _) LY (λPc SF _ SG R f5 _ Of h5=>?_) λ_ _ _ _ _ _ _ _ e=>e.elim
    rw[8 h5,xb (Of.hide (a:=D) (y:=⟨.dI,.list (C++[X])⟩) (ak.ae ..)) λo' _ o2 o3 _ Pd=>?_,<-Rp ((M.trans f1).trans f3).trans f4,<-SH il W LY Of f5 SD O' (λb f hn=>(Cg b f hn).imp (λ⟨o,e⟩=>⟨o,(O9.trans Rp) b o e⟩) id),⟨l.length-(i+1),by rw[ax [.lt af aj,.sub aC aj (.p af aF),.sub bH aj af] (.lt aC bH) (.s 2 (.l [0,1,1,1,0,0,1]) (.l [0,1,1,0,0,0,1])) tt [_,_,_,_] j rfl rfl,],i+1,j,rfl,Pc,d.del D,⟨J.m,J.σ⟩,C++[X],o',Rp.trans f5,?_,ai.gL ..,o2,LX,SH,O'⟩,Pd.iE λb y e=>⟨y.t,?_⟩,5 ((((J.σ.set D _).set D _).del D) b=some ⟨y.t,y.k⟩),];have f:b≠D:=λq=>by rw[q,Aa] at e;rw[7 e,]
    rw[[ak.aR _ f,ak.ag _ _ f,ak.ag _ _ f],e,]
  rw[Wr (o8 (E:=jl) (Z:=Z.set D o) W (O9.trans M) st hS Ro (U' j) (Q:=λv s'=>wpAny (model P0 g.w) A (assign U env v) _ jl s') key) (λr zw Ds=>?_) λ_ _ e=>e.elim,ah Ds λv Cj zy=>?_,0 Ds,3 Cj,zy,]
noncomputable def cM(o:List (Str×Addr)):List (Str×NameKind)->List (Str×Addr)->List (Str×Addr)
 |[],C=>C
 |(n,k)::r,C=>cM o r (if k==.free then(n,(o.lookup n).getD 0)::C else C)
def qq(names:List (Str×NameKind)):∀(o:List (Str×Addr)),(∀y∈names,y.2=.free->(env.cells.lookup y.1).isSome=true)->
 (forIn (m:=Sem) names o λ(x:Str×NameKind) (r:List (Str×Addr))=>if(x.2==NameKind.free)=true then do let a<-cellOf env x.1;pure (ForInStep.yield ((x.1,a)::r)) else pure (ForInStep.yield r))=pure (cM env.cells names o):=by
 induction names with
 |nil=>exactλ_ _=>rfl
 |cons x r I=>
  rw[λo h=>(List.forIn_cons ..).trans ?_,];have e:cM env.cells (x::r) o=cM env.cells r (if x.2==.free then(x.1,(env.cells.lookup x.1).getD 0)::o else o):=rfl;by_cases q:(x.2==NameKind.free)=true
  ·rw[aw (We.mp (h x (.head _) (Wb.mp q))) λa J=>?_,]
   rw[[e,Vb q,Vb q,show cellOf env x.1=pure a by rw[2 cellOf,[J],],J],I _ λy C=>h y (.tail _ C),]
  ·rw[e,U8 q,U8 q]
   rw[I _ λy C=>h y (.tail _ C),]
def oh(h:∀y∈o.names,y.2=.free->(env.cells.lookup y.1).isSome=true):closureFor o env=pure (cM env.cells o.names []):=by rw[<-this qq (env:=env) o.names [] h,2 closureFor,Eq.trans ?_ this,bind_pure _,]
def Ab:∀{C:List (Str×Addr)},p∈cM o names C->p∈C\/((p.1,NameKind.free)∈names/\p.2=(o.lookup p.1).getD 0):=by
 induction names with
 |nil=>exact .inl
 |cons x r I=>
  rw[λ{C} h=>(I (show p∈cM o r (if x.2==.free then(x.1,(o.lookup x.1).getD 0)::C else C) from h)).elim (λh=>?_) λh=>.inr ⟨.tail _ h.1,h.2⟩,];split at h
  ·rw[4 q,(Vc.mp h).elim (λe=>e▸.inr ⟨Wb.mp q▸.head _,rfl⟩) .inl,]
  ·rw[.inl h,]
def uu:∀{C:List (Str×Addr)},(names.map (·.1)).Nodup->(C.map (·.1)).Nodup->(∀n∈names.map (·.1),n∉C.map (·.1))->((cM o names C).map (·.1)).Nodup:=by
 induction names with
 |nil=>exactλ_ h _=>h
 |cons x r a=>
  rw[λ{C} I b U=>?_,]
  replace I:=VX.mp I
  rw[(?_:((cM o r (if x.2==.free then(x.1,(o.lookup x.1).getD 0)::C else C)).map (·.1)).Nodup),];split
  ·rw[a I.2 (VX.mpr ⟨U _ (.head _),b⟩) λn J hm=>(Vc.mp hm).elim (λe=>I.1 (e▸J)) (U n (.tail _ J)),]
  ·rw[a I.2 b λn J=>U n (.tail _ J),]
def Ac:∀{C:List (Str×Addr)},((n,NameKind.free)∈names\/(C.lookup n).isSome=true)->((cM o names C).lookup n).isSome=true:=by
 induction names with
 |nil=>exactλh=>h.elim (λh=>nomatch h) id
 |cons x r I=>
  rw[λ{C} h=>(?_:((cM o r (if x.2==.free then(x.1,(o.lookup x.1).getD 0)::C else C)).lookup n).isSome=true),];have J:n=x.1->(((x.1,(o.lookup x.1).getD 0)::C).lookup n).isSome=true:=λe=>by rw[List.lookup,Wb.mpr e];rfl
  split
  ·exact I (h.elim (λh=>(Vc.mp h).elim (λe=>.inr (J (Ve Prod.fst e))) .inl) λh=>.inr (by
    by_cases e:n=x.1
    ·rw[J e,]
    ·rw[List.lookup,Wt e];exact h))
  ·rw[4 q,I (h.imp_left λh=>(Vc.mp h).elim (λe=>U9 (Wb.mpr (Ve Prod.snd e).symm) q) id),]
def mem_lookup{o:Type}{n:Str}{k:o}{l:List (Str×o)}:l.lookup n=some k->(n,k)∈l:=by
 induction l with
 |nil=>exactλe=>nomatch e
 |cons p l C=>
  rw[λh=>?_,];by_cases c:n=p.1
  ·rw[List.lookup,Wb.mpr c] at h;rw[c▸VW h▸.head _,]
  ·rw[List.lookup,Wt c] at h;rw[.tail _ (C h),]
def lookup_mem{C:Type}{n:Str}{k:C}{l:List (Str×C)}:(l.map (·.1)).Nodup->(n,k)∈l->l.lookup n=some k:=by
 induction l with
 |nil=>exactλ_ e=>nomatch e
 |cons p l I=>
  rw[λo h=>?_,<-o VX.mp o,(Vc.mp h).elim (λe=>?_) λh=>?_,]
  ·rw[<-e,List.lookup,Xl]
  ·rw[[List.lookup,Wt λe:n=p.1=>o.1 (Vn.mpr ⟨(n,k),h,e⟩)],I o.2 h,]
structure b9(scope:Scope)(env:Env):Prop where
 kind:scope.kind=.function
 Ad:∀y∈scope.names,y.2≠.cell
 loc:∀y∈scope.names,y.2=.local->scope.names.lookup y.1=some .local
 nd:(scope.names.map (·.1)).Nodup
 FH:env.scope.kind=.function
 free:∀y∈scope.names,y.2=.free->env.kindOf y.1=some .cell/\(env.cells.lookup y.1).isSome=true
section
variable{scope:Scope}{env:Env}
def b9.mem(h:b9 scope env)(hm:(n,k)∈(relabel scope env).names):(k=.cell/\(n,NameKind.free)∈scope.names)\/(k≠.cell/\k≠.free/\(n,k)∈scope.names):=by
 simp only[relabel,Vn] at hm;rw[6 hm,λo=>aB λf C=>ah o λU I J=>?_,0 o,];rcases U with⟨m,j⟩;rw[C ?_,0 C f,];by_cases q:j=.free
 ·subst q
  have i:=(h.free _ I rfl).1;simp only[i,h.FH,Xl,Bool.and_self,Yc] at J;injection J with a b;rw[3 a,3 b,.inl ⟨rfl,I⟩,]
 ·have l:(j==NameKind.free)=false:=by exact WT ‹_›
  simp only[l,Bool.false_and,Ws,XA] at J;injection J with d e;rw[3 d,3 e,.inr ⟨h.Ad _ I,q,I⟩,]
def b9.Dt(h:b9 scope env)(hm:(n,NameKind.free)∈scope.names):(n,NameKind.cell)∈(relabel scope env).names:=by simp only[relabel,Vn];rw[⟨_,hm,?_⟩,<-o (h.free _ hm rfl).1,];simp only[o,h.FH,Xl,Bool.and_self,Yc]
def qr:((relabel scope env).names.map (·.1))=scope.names.map (·.1):=by simp only[relabel,VD];rw[Vy λy _=>?_,];simp only[Function.comp];split<;>rfl
def b9.cl(h:b9 scope env):closureFor scope env=pure (cM env.cells scope.names []):=oh λy o e=>(h.free y o e).2
def b9.mN(h:b9 scope env)(J:p∈cM env.cells scope.names []):env.cells.lookup p.1=some p.2/\env.kindOf p.1=some .cell/\(p.1,NameKind.free)∈scope.names:=by
 rcases Ab J with o|⟨o,C⟩
 ·cases o
 ·rw[aV (h.free _ o rfl) λU b=>aw (We.mp b) λa I=>?_,]
  rw[I] at C;exact⟨by rw[I,C];rfl,U,o⟩
def vZ(J:(aU env).Nodup)(a:env.cells.lookup x=some b)(d:env.kindOf x=some .cell)(f:env.cells.lookup y=some b)(h:env.kindOf y=some .cell):x=y:=by
 unfold aU at J;rw[VX] at J;have C:=J.2;have mx:(x,b)∈env.cells.filter (λp=>env.kindOf p.1==some .cell):=VS.mpr ⟨mem_lookup a,by rw[Wb.mpr ‹_›,]⟩;have o:(y,b)∈env.cells.filter (λp=>env.kindOf p.1==some .cell):=VS.mpr ⟨mem_lookup f,by rw[Wb.mpr ‹_›,]⟩;generalize env.cells.filter (λp=>env.kindOf p.1==some .cell)=l at C mx o
 induction l with
 |nil=>cases mx
 |cons z l i=>
  rw[VI,VX] at C;rcases Vc.mp mx with e|mx
  ·rcases Vc.mp o with I|o
   ·rw[<-e] at I;injection I with U _;rw[3 U,];rfl
   ·rw[U9 (Vn.mpr ⟨_,o,rfl⟩) (e▸C.1),]
  ·rcases Vc.mp o with I|o
   ·rw[U9 (Vn.mpr ⟨_,mx,rfl⟩) (I▸C.1),]
   ·rw[i C.2 mx o,]
def rX(h:b9 scope env)(o:b∈aU (compEnvC scope (cM env.cells scope.names []) C env)):b=C\/∃p∈cM env.cells scope.names [],p.2=b:=by
 unfold aU at o;rcases Vc.mp o with e|o
 ·rw[.inl e,]
 ·rw[ah (Vn.mp o) λp J I=>?_,3 I,]
  rw[.inr ⟨p,(VS.mp J).1,rfl⟩,]
def rY(h:b9 scope env):((cM env.cells scope.names []).map (·.1)).Nodup:=uu h.nd (.nil) (by simp)
def Hy(h:b9 scope env)(J:∀n b,env.cells.lookup n=some b->env.kindOf n=some .cell->b≠env.locals):qp env (compEnvC scope (cM env.cells scope.names []) C env) where
 frame:=rfl
 LS n b h1 h2:=by rw[<-h1 h.mN (mem_lookup h1),⟨h1.1,h1.2.1⟩,]
 free n q:=by
  rcases h.mem (mem_lookup q) with⟨e,_⟩|⟨_,e,_⟩
  ·rw[7 e,]
  ·rw[e rfl,]
 own b hb:=by
  rcases rX h hb with e|⟨p,hp,rfl⟩
  ·rw[.inl e,]
  ·rw[dG (h.mN hp) λU d _=>.inr ⟨St.fh U d,J _ _ U d⟩,]
def uv(h:b9 scope env)(b:(aU env).Nodup)(d:C∉aU env):(aU (compEnvC scope (cM env.cells scope.names []) C env)).Nodup:=by
 have key:((cM env.cells scope.names []).map (·.2)).Nodup:=by have o:=rY h;unfold List.Nodup at o⊢;rw[Ye] at o⊢;rw[List.Pairwise.imp_of_mem ?_ o,];intro p q I f J e;rw[dG (h.mN I) λU a _=>dG (h.mN f) λi j _=>?_,J (vZ b U a (e▸i) j),]
 rw[2 aU,[VX],];constructor
 ·intro hm
  rw[ah (Vn.mp hm) λp I e=>dG (h.mN (VS.mp I).1) λU a _=>?_,<-this St.fh U a,d ((show p.2=C from e)▸this),]
 ·rw[key.sublist (List.Sublist.map _ (List.filter_sublist ..)),]
def Du(h:b9 scope env){C:Addr}(U:(aU env).Nodup)(a:C∉aU env):∀n b,env.cells.lookup n=some b->env.kindOf n=some .cell->b∈aU (compEnvC scope (cM env.cells scope.names []) C env)->
 (compEnvC scope (cM env.cells scope.names []) C env).cells.lookup n=some b/\(compEnvC scope (cM env.cells scope.names []) C env).kindOf n=some .cell:=by
 intro n b o I d;rcases rX h d with e|⟨p,J,rfl⟩
 ·rw[U9 (St.fh o I) (e▸a),]
 ·rw[dG (h.mN J) λf i j=>?_,]
  rw[<-this vZ U f i o I,8 this,⟨lookup_mem (rY h) J,lookup_mem (by rw[5 (((relabel scope env).names.map (·.1)).Nodup),[qr],h.nd,]) (h.Dt j)⟩,]
end
section
variable{g:G0}{A:Around}{env:Env}{c:CS}{E:V->CS->Prop}
def Ae(C:a∉aU env):d1 env env' (Z.set a o) h=(d1 env env' Z h).set a o:=by
 funext b
 unfold d1 ai.set;by_cases q:b=a
 ·subst q
  rw[U8 (λz=>C z.1),Vb rfl,Vb rfl]
 ·rw[U8 q,U8 q]
def pj{U Y elt:Expr}{ifs:List Expr}{scope:Scope}{pos:Pos}{I:Addr}{fp wr:List Addr}{l:List V}{S:Nat->Heap->Prop}{F₁ Z B:ai}{s:Shared}{Inv:Addr->Nat->List V->CS->Prop}{m0:List (Str×V)}
 {PP:Value->Addr->Result->Shared->Prop} {Ex:Value->Shared->Prop}
 (hc:b9 scope env) (st:St g A.frames env F₁ B c s) (hz:Zi A.frames wr Z B) (W:dv g A U I fp wr F₁ l S) (hS:S 0 s.heap)
 (Cg:∀b∈fp,b∉wr->(∃o,F₁ b=some o)\/(∃o,Z b=some o/\b∉eG A.frames))
 (KX:dX m0 c.m) (LZ:∀y∈scope.names,y.2=.free->(m0.lookup y.1).isSome=true) (L0:∀x X,m0.lookup x=some X->scope.names.lookup x≠some .local)
 (step:∀C i J c X,l[i]?=some X->Inv C i J c->As g A (compEnvC scope (cM env.cells scope.names []) C env) U X c (λc'=>FG g A (compEnvC scope (cM env.cells scope.names []) C env) ifs elt (Inv C) i J c') iA)
 (h0:∀C,Inv C 0 [] ⟨m0,c.σ⟩)
 (hQ:∀C F J c' s' D,c8 F₁ F->St g A.frames env F Z ⟨c.m,c'.σ.set D ⟨.dI,.list J⟩⟩ s'->c'.σ D=none->Inv C l.length J c'->(∃mv,s'.heap.Ns C mv)->F C=none/\Z C=none/\(c'.σ.set D ⟨.dI,.list J⟩) C=none/\C∉aU env/\C∉eG A.frames->PP (.ref D) C (.ok .next) s')
 (Pe:∀C J c',Inv C l.length J c'->dX m0 c'.m):
 wpAny (model P0 g.w) A (newList []) (λJ G=>wpAny (model P0 g.w) A (newFunctionEnv scope env.globals (cM env.cells scope.names []) [] env.qual none .none (some env)) (λL1 Pf=>
  codeAny (model P0 g.w) A (.compStart (.ListComp elt [⟨U,Y,ifs,0⟩] scope pos) 0 (.ref I) J {L1 with scope:=relabel scope env}) (PP J L1.locals) Pf) Ex G) Ex s:=by
 rw[Wf (wpAny_newFunctionEnv hc.Ad (by intro y hy;simp at hy) (λj d L=>?_) hc.kind),];dsimp only at d L⊢;have Q:∀b∈wr,∀o,B b=some o->∀v,o.data≠.cell v:=λb hb o e=>W.mC _ _ hS b hb o (eN st e (hz.fr b hb));have Pg:=hz.down st Q;have xD:=FC st (bM #[] 0) rfl;have kD:=Pg.fM (bM #[] 0);have M:=Pg.fresh;have Rq:=st.fc;have L2:=st.di;have P:=kD.di;have Rr:=kD.fc;have L3:s.heap.objs.size∉wr:=λq=>by rw[aw (hz.on _ q) λo e=>U9 (Vq (eN st e (hz.fr _ q))) (VB _),]
 dsimp only at xD kD M P Rq P Rr;generalize UK:s.heap.objs.size=D at*;generalize SJ:s.heap.push (bM #[] 0)=H2 at*;generalize R:H2.objs.size=C at*;have H:C∉aU env:=λq=>P C q rfl;have Rt:qp env (compEnvC scope (cM env.cells scope.names []) C env):=Hy hc λn b h1 h2=>st.jZ h1 h2;have old:∀b o,H2.get? b=some o->j.get? b=some o:=λb o e=>L.extBut b o (Vt (R▸Vq e)) (Vh _ e);have L4:∃o,j.get? C=some o:=by rw[y' d λo _ _ e _=>?_,0 d,⟨o,e⟩,]
 have x5:=xD.Hx (tk:=s.toks+0) Rt old (Vz R) L4 (uv hc st.cq H) (m:=m0) (λn X _ e=>KX.look e)
  ⟨_,d,λn X h1 h2=>by
   rcases hc.mem (mem_lookup h1) with⟨e,_⟩|⟨_,_,e⟩
   ·rw[7 e,]
   ·exact U9 (lookup_mem hc.nd e) (L0 n X h2)⟩
 rw[Ae (λq=>L2 D q rfl)] at x5;have L5:d1 env (compEnvC scope (cM env.cells scope.names []) C env) Z H2 D=none:=by rw[2 d1,[U8 (λq=>L2 D q.1 rfl)],M.2.1,]
 have Ru:Zi A.frames wr (d1 env (compEnvC scope (cM env.cells scope.names []) C env) Z H2) (d1 env (compEnvC scope (cM env.cells scope.names []) C env) B H2):=⟨λb hb=>by
  unfold d1;split
  ·rfl
  ·exact hz.off b hb,λb hb=>by
  refine aw (hz.on b hb) λo e=>⟨o,by rw[2 d1,[U8 λq=>(st.Od e).2.2 q.1],e,]⟩,hz.fr,λb hb=>by
  refine aw (hz.on b hb) λo e=>?_;unfold d1;rw[U8 λq=>(st.Od e).2.2 q.1];exact hz.none b hb⟩
 have L6:∀b o,s.heap.get? b=some o->j.get? b=some o:=λb o e=>old b o (SJ▸Vh _ e);have Rv:S 0 j:=W.frame 0 s.heap j hS λb _ o e=>L6 b o e;have Ph:(d1 env (compEnvC scope (cM env.cells scope.names []) C env) B H2) D=none:=by rw[[Ru.off D L3],L5,]
 have loop:∀G:Shared,G={s with heap:=j,toks:=s.toks+0}->
  codeAny (model P0 g.w) A (.compLoop (.ListComp elt [⟨U,Y,ifs,0⟩] scope pos) 0 (.ref I) (.ref D) (compEnvC scope (cM env.cells scope.names []) C env)) (PP (.ref D) C) G:=by
  rintro G rfl
  refine og (F₀:=F₁) (Z:=d1 env (compEnvC scope (cM env.cells scope.names []) C env) Z H2) (Inv:=Inv C) (i₀:=0) W L3 L5 Rq
   (λb hb hn=>?_) (λi J c X hX hI=>step C i J c X hX hI) (.refl _) (Vj _) ⟨F₁,_,_,[],bM #[] 0,.refl _,x5,Ph,⟨_,_,rfl,rfl⟩,h0 C,Rv,Ru⟩ (λF J c' s' hF xh Aa L7=>?_)
  ·rw[(Cg b hb hn).imp id λ⟨o,e,Hz⟩=>⟨o,?_,Hz⟩,]
   unfold d1;rw[U8 (λq=>by have:=(Pg.own b q.1).2.1;rw[e] at this;rw[7 this,])];rw[e,]
  ·rw[ah xh.ns λmv FI _=>?_,]
   have hb:=kD.LU Rt (Vz R) xh hF (λn b X h1 h2 e=>?_) (Du hc st.cq H)
   ·have L8:C∈aU (compEnvC scope (cM env.cells scope.names []) C env):=by exact .head _
    rw[dG (xh.own C L8) λq1 q2 q3=>?_,];have SK:Z C=none:=by
     cases e:Z C with
     |none=>rfl
     |some o=>refine aw (kD.gM e) λo' e'=>?_;rw[U9 (Vq e') (by rw[[R],VB _,]),]
    rw[hQ C F J c' _ D hF hb Aa L7 ⟨mv,FI⟩ ⟨q1,SK,q3,H,Rr⟩,]
   ·rw[dG (hc.mN (mem_lookup h1)) λq1 q2 q3=>aw (We.mp (LZ _ q3 rfl)) λX' SM=>?_,]
    have hX:m0.lookup n=some X':=SM;have:X'=X:=by have:=KX.look hX;rw[show c.m.lookup n=some X from e] at this;rw[1 this,];rfl
    rw[8 this,(Pe C J c' L7).look hX,]
 rw[codeAny_compStart_list (loop _ rfl) (W.self _ _ _ _ Rv (loop _ rfl)),]
end
section
variable{g:G0}{A:Around}{env:Env}{c:CS}{E:V->CS->Prop}
noncomputable abbrev pn(o:Scope)(env:Env)(C:Addr):Env:=compEnvC o (cM env.cells o.names []) C env
def FJ{ff:Option (List Env)}{F Z:ai}{m:List (Str×V)}{σ:ak}{s:Shared}{D:Addr}{t t':Tag}{k:OK}(st:St g ff env F Z ⟨m,σ.set D ⟨t,k⟩⟩ s):St g ff env F Z ⟨m,σ.set D ⟨t',k⟩⟩ s:=
 st.iE λa y e=>by
  by_cases q:a=D
  ·subst q;rw[ak.ae] at e;rw[1 e,⟨t,ak.ae ..⟩,]
  ·rw[ak.ag _ _ q] at e;exact⟨y.t,by rw[5 ((σ.set D ⟨t,k⟩) a=_),[ak.ag _ _ q],e,]⟩
noncomputable def CK(m0:List (Str×V))(m:List (Str×V))(l:List V)(C:Option (Addr×Tag))(Q:V->CS->Prop):List V->CS->Prop:=λo c'=>dX m0 c'.m/\(pb C c'->Q (.lst o) (bk C l ⟨m,c'.σ⟩))
def Dv(m0:List (Str×V))(P:b9 J env)
 (LZ:∀y∈J.names,y.2=.free->(m0.lookup y.1).isSome=true) (L0:∀x X,m0.lookup x=some X->J.names.lookup x≠some .local)
 (h:EV g A env f c (λX j=>dX m0 j.m/\∃l σ0 R,Src (da o) g A j X l σ0 R/\∀C,et g A (pn J env C) o w z (CK m0 j.m l R Q) l [] ⟨m0,σ0⟩) E)
 (hs:∀x,foldedSetIterable f env x=pure x:=by intro _;rfl):EV g A env (.ListComp z [⟨o,f,w,0⟩] J pos) c Q E:=λF Z s hF st=>by
 rw[[eval_ListComp],wpAny_comprehension_free (use:=none) rfl hs P.cl P.kind P.loc (T.run h hF st (λF1 v X j s1 f1 iX n B=>?_) λF1 a x j s1 f1 ia n B=>⟨F1,x,j,f1,ia,n,B⟩),6 B,λU=>aB λR_ G=>aV U λKX H=>kG H λl σ0 R L=>aV L λM B=>G ?_,0 U G R_ H L,M env F1 Z s1 v _ _ n iX λI s' F2 f2 hr=>GB hr.ex λZb C4 fp wr S zx hz W hS Cg u=>?_,pj (Inv:=λC i=>et g A (pn J env C) o w z (CK m0 j.m l R Q) (l.drop i)) P zx hz (W o λe=>e) hS Cg KX LZ L0 (λC i d c X hX k=>?_) B (λC F d c' s' D N p Aa k r Y=>?_) (λC d c' k=>?_),]
 ·rw[aw (VH.mp hX) λq hq=>?_,]
  rw[XX q,hq] at k;rw[k,]
 ·rw[XN] at k
  revert r;refineλU=>aw U λmv r=>?_;clear U;refine⟨mv,r,λh' FK=>?_⟩;have p:=p.ext FK.extBut Y.1 Y.2.1 Y.2.2.1 (λb u e=>Y.2.2.2.1 (e▸u)) s'.toks;refine bL (p.freeze (a:=D) (t:=.dI) (l:=d) (ak.ae ..)) λF3 f3 i3 zB=>?_;have KY:=zB.iE (σ:=c'.σ) λb y e=>⟨y.t,by
   show((c'.σ.set D ⟨.dI,.list d⟩).del D) b=_;have u:b≠D:=λq=>by rw[q,Aa] at e;rw[7 e,]
   rw[ak.aR _ u,ak.ag _ _ u];exact e⟩
  rw[aV (u F3 ⟨j.m,c'.σ⟩ _ (N.trans f3) KY) λhd Of=>⟨F3,.lst d,_,f1.trans (f2.trans (N.trans f3)),i3,Of,k.2 hd⟩,]
 ·rw[XN] at k;rw[k.1,]
def L9{o:Option (Addr×Tag)}{l:List V}{x:Str}{X:V}{m:List (Str×V)}{c':CS}{Q:CF->CS->Prop}(h:pb o c'->Q .next ⟨(x,X)::(bk o l ⟨m,c'.σ⟩).m,(bk o l ⟨m,c'.σ⟩).σ⟩)(C:pb o ⟨(x,X)::m,c'.σ⟩):Q .next (bk o l ⟨(x,X)::m,c'.σ⟩):=by induction o<;>exact h C
def xM(m0:List (Str×V)){x:Str}{p z:Pos}{J d k:Expr}{n:List Expr}{U:Scope}{pos:Pos}{Q:CF->CS->Prop}(ho:bV env)(hc:b9 U env)
 (LZ:∀y∈U.names,y.2=.free->(m0.lookup y.1).isSome=true) (L0:∀x X,m0.lookup x=some X->U.names.lookup x≠some .local) (hk:env.kindOf x=some .local)
 (SN:swapsWith (.ListComp k [⟨J,d,n,0⟩] U pos) (some (.Name x p)) z.line env=pure true)
 (h:EV g A env d c (λX r=>dX m0 r.m/\∃l σ0 h?,Src (da J) g A r X l σ0 h?/\∀C,et g A (pn U env C) J n k (CK m0 r.m l h? λX H=>Q .next ⟨(x,X)::H.m,H.σ⟩) l [] ⟨m0,σ0⟩) E)
 (hs:∀x,foldedSetIterable d env x=pure x:=by intro _;rfl):iZ g A env (.Assign [.Name x p] (.ListComp k [⟨J,d,n,0⟩] U pos) z) c Q E:=by
 refine T.of_eq (exec_Assign_Name_used _ _ _ _ SN) (T.at ?_);intro F Z s hF st;refine U0 ?_;show wpAny _ A (do let _<-comprehension (.ListComp k [⟨J,d,n,0⟩] U pos) U env _ (newList []) false (eval d env) (some (assign (.Name x p) env))) _ _ s;refine U0 (Wr (wpAny_comprehension_free (use:=some (assign (.Name x p) env)) (Q:=λ_ s'=>PT g A.frames env RF F Z Q .next s') rfl hs hc.cl hc.kind hc.loc
  (T.run h hF st (λF1 v X r s1 f1 iX L M=>?_) λF1 a x r s1 f1 ia L M=>⟨F1,x,r,f1,ia,L,M⟩)) (λ_ s' hq=>U6 (U6 hq)) λ_ _ e=>e)
 rw[6 M,λN=>aB λR_ P=>aV N λKX R=>kG R λl σ0 h? Y=>aV Y λPk M=>P ?_,0 N P R_ R Y,Pk env F1 Z s1 v _ _ L iX λI s' F2 f2 hr=>GB hr.ex λZb C4 fp wr S zx hz W hS Cg f=>?_,pj (Inv:=λC i=>et g A (pn U env C) J n k (CK m0 r.m l h? λX H=>Q .next ⟨(x,X)::H.m,H.σ⟩) (l.drop i)) hc zx hz (W J λe=>e) hS Cg KX LZ L0 (λC i j c X hX B=>?_) M (λC F j c' s' D Fz xh Aa B FI u=>?_) (λC j c' B=>?_),]
 ·rw[aw (VH.mp hX) λq hq=>?_,]
  rw[XX q,hq] at B;rw[B,]
 ·rw[XN] at B
  refine aw FI λmv G=>tX G λo es ep yX L' Og SO=>?_;clear FI G;have stC:=xh.zu yX u.2.2.2.2 u.1 u.2.1 u.2.2.1 (λb f e=>u.2.2.2.1 (e▸f));refine bL (stC.freeze (a:=D) (t:=.dI) (l:=j) (ak.ae ..)) λF3 f3 i3 zB=>?_;have KY:=zB.iE (σ:=c'.σ) λb y e=>⟨y.t,by
   show((c'.σ.set D ⟨.dI,.list j⟩).del D) b=_;have f:b≠D:=λq=>by rw[q,Aa] at e;rw[7 e,]
   rw[ak.aR _ f,ak.ag _ _ f];exact e⟩
  rw[T.run (pT (g:=g) (A:=A) (c:=⟨r.m,c'.σ⟩) (Q:=λH=>H=⟨(x,.lst j)::r.m,c'.σ⟩) (E:=iA) ho hk rfl F3 (.ref D) i3) (.refl _) KY (λF4 _ _ c4 s4 f4 _ w h5=>?_) λ_ _ _ _ _ _ _ _ e=>e.elim,8 h5,];have SP:Zi A.frames [C] Zb (Zb.set C o):=⟨λb f=>ai.bS _ _ λq=>f (q▸Vr _),λb f=>by rw[[U5.mp f],⟨o,ai.ae ..⟩,],λb f=>by rw[[U5.mp f],u.2.2.2.2,],λb f=>by rw[[U5.mp f],u.2.1,]⟩;have SQ:=eN w (ai.ae Zb C o) u.2.2.2.2;have Pd:=SP.down w λb f o' e v q=>by rw[U5.mp f] at e;rw[ai.ae] at e;rw[1 e,];rw[L'] at q;rw[7 q,]
  refine⟨mv,⟨o,es,ep,SQ,L',Og,SO⟩,λh' FK=>?_⟩;have Pl:=Pd.ext FK.extBut (w.ZF C o (ai.ae ..)) u.2.1 (by
   cases e:c'.σ C with
   |none=>rfl
   |some y=>have:=w.d6 C y e;rw[ai.ae] at this;injection this) (λb f e=>u.2.2.2.1 (e▸f)) s4.toks
  rw[aV (f F4 ⟨(x,.lst j)::r.m,c'.σ⟩ _ (Fz.trans (f3.trans f4)) Pl) λhd Pm=>⟨F4,.next,_,f1.trans (f2.trans (Fz.trans (f3.trans f4))),rfl,Pm,?_⟩,L9 B.2 hd,]
 ·rw[XN] at B;rw[B.1,]
end
noncomputable def ct(scope S:Scope):Scope:={scope with names:=scope.names.map λ(n,k)=>if(k==.free&&S.kind==.function&&S.names.lookup n==some .cell) then(n,.cell) else(n,k)}
abbrev mO(o S:Scope)(C:List Str):Prop:=
 o.kind=.function/\S.kind=.function/\(∀y∈o.names,y.2≠.cell)/\(∀y∈o.names,y.2=.local->o.names.lookup y.1=some .local)/\(o.names.map (·.1)).Nodup/\
 (∀y∈o.names,y.2=.free->S.names.lookup y.1=some .cell/\y.1∈C)/\(∀x∈C,o.names.lookup x≠some .local)
def Dw{m:List (Str×V)}{x:Str}:∀{C:List Str},m.map (·.1)=C->x∈C->(m.lookup x).isSome=true:=by
 intro C h o;subst h
 induction m with
 |nil=>cases o
 |cons p m I=>
  obtain⟨y,Y⟩:=p;simp only[List.lookup];split
  ·rfl
  ·rw[4 q,]
   rw[VI,Vc] at o;rcases o with rfl|o
   ·simp at q
   ·rw[I o,]
section
variable{g:G0}{A:Around}{c:CS}{E:V->CS->Prop}{S:Scope}{L:Addr}{cells:List (Str×Addr)}{q:Str}{fn:Option Addr}{cd:Value}{fr:Option Addr}
def Dx(h:mO o S J)(C:∀x,S.names.lookup x=some .cell->(cells.lookup x).isSome=true):b9 o (bh S L cells q fn cd fr):=
 ⟨h.1,h.2.2.1,h.2.2.2.1,h.2.2.2.2.1,h.2.1,λy I e=>⟨(h.2.2.2.2.2.1 y I e).1,C _ (h.2.2.2.2.2.1 y I e).1⟩⟩
def xN(v:bV (bh S L cells q fn cd fr))(n:∀x,S.names.lookup x=some .cell->(cells.lookup x).isSome=true)
 (a:m0.map (·.1)=z) (k:mO o S z)
 (h:EV g A (bh S L cells q fn cd fr) b c (λX J=>dX m0 J.m/\∃l σ0 U,Src (da I) g A J X l σ0 U/\∀C p,bV (bh (ct o S) C p q none cd fr)->(∀x,(ct o S).names.lookup x=some .cell->(p.lookup x).isSome=true)->
  et g A (bh (ct o S) C p q none cd fr) I r t (CK m0 J.m l U Q) l [] ⟨m0,σ0⟩) E):
 b9 o (bh S L cells q fn cd fr)/\(∀y∈o.names,y.2=.free->(m0.lookup y.1).isSome=true)/\(∀x X,m0.lookup x=some X->o.names.lookup x≠some .local)/\
 EV g A (bh S L cells q fn cd fr) b c (λX J=>dX m0 J.m/\∃l σ0 U,Src (da I) g A J X l σ0 U/\∀C,et g A (pn o (bh S L cells q fn cd fr) C) I r t (CK m0 J.m l U Q) l [] ⟨m0,σ0⟩) E:=by
 have w:=Dx (L:=L) (q:=q) (fn:=fn) (cd:=cd) (fr:=fr) k n;refine⟨w,λy B e=>Dw a (k.2.2.2.2.2.1 y B e).2,λx X e=>k.2.2.2.2.2.2 x (a▸Vn.mpr ⟨_,mem_lookup e,rfl⟩),T.mono h (λX J u=>?_) λ_ _ e=>e⟩;revert u;refineλd=>aB λD f=>aV d λu i=>kG i λl σ0 U j=>aV j λG H=>f ?_;clear d f D i j;exact⟨u,l,σ0,U,G,λC=>H C _ ⟨k.1,v.glob,v.LD⟩ λx M=>by
  rcases w.mem (mem_lookup M) with⟨_,e⟩|⟨e,_⟩
  ·rw[Ac (.inl e),]
  ·exact U9 rfl e⟩
def xO{env:Env}{o I:Expr}{J:List Expr}{K:List V->CS->Prop}{C:List V}(h:K C c):et g A env o J I K [] C c:=h
def uw{env:Env}{o C:Expr}{I:List Expr}{K:List V->CS->Prop}{x:V}{xs J:List V}
 (h:As g A env o x c (λa=>T g A env RB bot (fZ I env) a (λok U=>match ok with
  |true=>EV g A env C U (λX b=>J.length<=100000/\et g A env o I C K xs (J++[X]) b) iA
  |false=>et g A env o I C K xs J U) iA) iA):et g A env o I C K (x::xs) J c:=h
end
theorem rZ:∀{l:List Int} {vs:List Value},IntsAre vs l->∃xs:List (Int×Tok),vs=xs.map (λp=>Value.int p.1 p.2)/\xs.map (·.1)=l
 |[],_,.nil=>⟨[],rfl,rfl⟩
 |i::l,_,.cons _ t h=>by rw[ah (rZ h) λxs o C=>?_,3 o,3 C,⟨(i,t)::xs,rfl,rfl⟩,]
section
variable{g:G0}{A:Around}{env:Env}{c:CS}{E:V->CS->Prop}
def St.ints(st:St g ff env F Z c s)(h:SeqAt c x (l.map V.int))(i:Is F₀ x v)(o:c8 F₀ F):
 ∃a,v=.ref a/\∃xs:Array (Int×Tok),s.heap.IsList a (intItems xs)/\xs.toList.map (·.1)=l:=by
 rw[jX v (st.seq h i o) λa C n I J b=>ah (rZ J.ints) λxs U d=>?_,];have:C=intItems xs.toArray:=by unfold intItems;apply Array.toList_inj.mp;simp[U]
 rw[8 this,⟨a,rfl,xs.toArray,⟨_,I,rfl,n,rfl⟩,by trivial⟩,]
def HB{x:V}{l:List Int}{Q:V->CS->Prop}(d:A.handled=none)(f:SeqAt c x (l.map V.int))(h:Q (.int l.sum) c):CA g A env (.raw (.builtin "sum")) [x] c Q E:=j0 λJ _ i F Z s j st=>by rw[ah (st.ints f i j) λa I C=>ah C λp k U=>?_,0 C,3 I,sum_intListG d k λq m r n=>⟨F,.int l.sum,c,.refl _,?_,st.jk (λb o _ e=>n b o e) m,h⟩,[preSum_eq,U,List.take_of_length_le (by rw[<-U];simp)],⟨_,rfl⟩,]
def HC(w:A.handled=none)(y:SeqAt c x (l.map V.int))(m:l≠[])(h:∀M,M∈l->(∀a∈l,a<=M)->Q (.int M) c):CA g A env (.raw (.builtin "max")) [x] c Q E:=j0 λr _ z F Z s B st=>by
 rw[ah (st.ints y z B) λa U I=>ah I λC D n=>?_,0 I,3 U,];have d:0<C.size:=by
  have:C.toList.length=l.length:=by rw[<-n];simp
  have G:=List.length_pos_iff.mpr m
  simpa using(this▸G:0<C.toList.length)
 rw[max_intList w D d λv X H L N=>aV (argBest_gt (numAt C) (C.size-1)) λP R=>?_,aw (intItems_at L) λt f=>?_,3 f,];have q:∀j,j<C.size->numAt C j∈l:=λj i=>by rw[<-n];rw[2 numAt,[Xd i],Vn.mpr ⟨C[j],Xf.mpr (Array.getElem_mem i),rfl⟩,]
 rw[⟨F,.int _,c,.refl _,⟨t,rfl⟩,st.jk (λb o _ e=>N b o e) H,h _ (q _ (ax [.lt gp af,.le aj aC,.sub aC af aF] (.lt aj af) (.s 3 (.l [0,1,1,1,1]) (.l [0,1,1,0,1])) tt [_,_,_] d P rfl)) λa u=>?_⟩,];rw[<-n] at u;rw[ah (Vn.mp u) λp S k=>?_,3 k,aw (Array.mem_iff_getElem.mp (Xf.mp S)) λj J=>aw J λi e=>?_,0 J,<-this R j (ax [.lt af aj,.sub aC aj aF] (.le af aC) (.l [1,1,1]) tt [_,_,_] i rfl),];have W:numAt C j=p.1:=by rw[2 numAt,[Xd i,e],];rfl
 rw[W] at this;rw[this,]
def xP
 (h:EV g A env l c (λx c1=>EV g A env i c1 (λy B=>bN g A env Is (compareOp J) x y B (λv j=>iF g A env RB truthy v j (λb m=>match b with
  |false=>Q false m
  |true=>EV g A env U m (λz c5=>bN g A env Is (compareOp o) y z c5 (λv c6=>iF g A env RB truthy v c6 Q E) E) E) E) E) E) E)
 (hm:lastMarks [J,o] [i,U]=false):TS g A env (.Compare l [J,o] [i,U] pos) c Q E:=λF Z s hF st=>by
 rw[isTrue_chain ?_ hm,T.run h hF st (λF1 a x c1 s1 r ia D h1=>?_) (λG b l B s2 t I n H=>⟨G,l,B,t,I,n,H⟩),];have L:∀{F0 k:ai} {b:Value} {l:V} {j:CS} {w:Shared},c8 F F0->c8 F0 k->Is k l b->St g A.frames env k Z j w->E l j->PT g A.frames env Is F Z E b w:=λr d I C p=>⟨_,_,_,r.trans d,I,C,p⟩;rw[U0 (Wd (T.run h1 (λ_ _ e=>nomatch e) D (λG b y B s2 t I n H=>?_) λk b l j w d I C p=>L r d I C p)),U0 (W0 ?_),U0 (Wd (T.run (H G a b (ia.mono t) I) (.refl _) n (λk v V3 j w d iv C p=>?_) λk b l j w d I C p=>L (r.trans t) d I C p)),T.run (T.release (R:=RB) (F₀:=k) (c:=j) (E:=E) (Q:=Q) (vs:=[a,b]) (keep:=[v]) (f:=λ_=>do if<-holding [v,b] (truthy v) then testChain pos b [o] [eval U env] else pure false) ?_) (.refl _) C (λM v4 V4 m s4 N P q u=>?_) λM b l m s4 N I q u=>L ((r.trans t).trans d) N I q u,]
 ·rw[T.bind (R:=RB) (T.hold (T.mono (p k v iv) (λbb m u M a4 S W=>?_) λ_ _ e=>e)),]
  cases W
  induction bb with
  |false=>exactλF Z s h1 st=>U6 ⟨F,false,m,.refl _,rfl,st,u⟩
  |true=>
   rw[[Vb rfl],T.bind (R:=Is) (T.hold (T.low (T.mono u (λz c5 h5 F5 a5 X Y=>?_) λ_ _ e=>e) (λ_ _ e=>nomatch e))),T.at<|T.bind (R:=Is) (T.op (T.mono (h5 F5 b a5 (I.mono (d.trans (S.trans X))) Y) (λz2 c6 h6 F6 a6 UL SR=>?_) λ_ _ e=>e)),T.hold (h6 F6 a6 SR),]
 ·cases P
  exact⟨M,v4,m,((r.trans t).trans d).trans N,rfl,q,u⟩
def r3(hz:r.length<=100000)(h:Q (.tup (x::r)) c):bN g A env Is (binaryOp .Add) (.tup [x]) (.tup r) c Q E:=by
 induction r using List.casesOn with
 |nil=>exact rQ (by simp) (V5 _) h
 |cons y r=>exact uj (by simp) (by simp) (by simp at hz⊢;rw[ax [.le af (.k 99999)] (.le (.p aF (.p af aF)) (.k 1000000)) (.l [1,1]) tt [_] hz,]) h
end
noncomputable def signs(x:Str):List V:=x.cps.toList.map λc=>V.str ⟨#[c]⟩
def xQ:(signs x).length=x.cps.size:=by rw[U2 ..,]
def dv.str(k:A.handled=none)(I:Addr)(x:Str)(t:Tok):
 dv g A J I [I] [I] F (signs x) (λi h=>h.IsStrIter I "str_ascii_iterator" x t i):=
 .jm (xQ (x:=x)▸Walks.strAscii k I x t) (λi v X U ⟨u,l,e,m⟩=>by
  subst m;unfold signs at U;rw[WD,Wa,e] at U;injection U with a;obtain rfl:=a;exact⟨l,rfl⟩) (λi h ⟨o,C,_⟩ b d=>by rw[[U5.mp d],⟨o,C⟩,])
  (λi h ⟨o,C,j,n⟩ b d w e v q=>by rw[U5.mp d,C] at e;rw[1 e,];rw[n] at q;rw[7 q,]) (λi h ⟨o,C,j,_⟩=>⟨o,_,C,j,rfl⟩)
  λi s Q E p r=>wpAny_pyIter_striter_ascii p r
section
variable{g:G0}{A:Around}{env:Env}{c:CS}{E:V->CS->Prop}
def Dy(U:A.handled=none)(a:x.cps.all (· <128)=true):Src f g A c (.str x) (signs x) c.σ none:=λenv F Z s v P E st J h=>by
 rw[aw J λu o=>?_,0 J,3 o,];have C:strIterType x="str_ascii_iterator":=by rw[2 strIterType,[Vb a],]
 rw[wpAny_pyIter_strU ?_,[C],h _ _ F (.refl _) (eO (Zb:=Z) st rfl (λt=>dv.str U _ x u) ⟨_,Vw _ rfl,rfl,rfl⟩ (λb d e=>U9 (U5.mp d) e) λF' c' s' _ I=>⟨trivial,I⟩),]
def ux(h:Q (.raw (.builtin "str.isspace"),[.str x]) c):iF g A env RM (λo=>getMethod o "isspace" pl) (.str x) c Q E:=LF λC t F Z s I st=>by rw[GM.isspace ⟨F,(.raw _,[.str x]),c,.refl _,⟨rfl,.cons ⟨t,rfl⟩ .nil⟩,st,h⟩,]
def uy(h:Q (.bool (Txt.isspace x)) c):CA g A env (.raw (.builtin "str.isspace")) [.str x] c Q E:=OY λo t F Z s C st=>by rw[SC.isspace ⟨F,.bool _,c,.refl _,rfl,st,h⟩,]
def xR(h:Q (.bool (Txt.contains x y)) c):bN g A env Is (compareOp .In) (.str y) (.str x) c Q E:=pO λo t C F Z s I st=>by rw[SB.contains ⟨F,.bool _,c,.refl _,rfl,st,h⟩,]
end
section
variable{g:G0}{A:Around}{env:Env}{c:CS}{E:V->CS->Prop}
def uz(h:bN g A env Is getItem (.str x) y c Q E)(hs:∀o i,∃C,subscripted slice false o i=operate C (getItem o i):=by intro _ _;exact⟨_,rfl⟩):
 bN g A env Is (subscriptTail J slice) (.str x) y c Q E:=λI u v a b F Z s d st=>by
 rw[aw (hs u v) λC e=>aw (id a) λt U=>?_,3 U,tail_any (typeIs_str s x t) PySem.F.slot_str_getitem.lookup (h I _ v a b F Z s d st) e,]
def xS(U:c.σ a=some ⟨t,.dA l⟩)(h:bN g A env Is getItem (.loc a) y c Q E)(hs:∀o i,∃C,subscripted slice false o i=operate C (getItem o i):=by intro _ _;exact⟨_,rfl⟩):
 bN g A env Is (subscriptTail J slice) (.loc a) y c Q E:=λI u v b d F Z s f st=>by
 rw[aw (hs u v) λC e=>?_,];cases(show u=.ref a from b);rw[ah (st.dA U) λj m k=>tail_any k.typeIs PySem.F.slot_dict_getitem.lookup (h I _ v rfl d F Z s f st) e,]
def xT(U:c.σ a=some ⟨t,.dT l⟩)(h:bN g A env Is getItem (.loc a) y c Q E)(hs:∀o i,∃C,subscripted slice false o i=operate C (getItem o i):=by intro _ _;exact⟨_,rfl⟩):
 bN g A env Is (subscriptTail J slice) (.loc a) y c Q E:=λI u v b d F Z s f st=>by
 rw[aw (hs u v) λC e=>?_,];cases(show u=.ref a from b);rw[bL (st.dT U) λm n p j=>?_,<-k j.typeIs,tail_any k PySem.F.slot_dict_getitem.lookup (h I _ v rfl d F Z s f st) e,]
def r4(h1:fitsSsize i=true)(a:(Txt.charAt x i).isSome=true)(h:Q (.str (Txt.item x i)) c):bN g A env Is getItem (.str x) (.int i) c Q E:=λI u v J U F Z s b st=>by rw[aw J λt o=>?_,0 J,3 o,aw U λd C=>?_,0 U,3 C,SB.getItem h1 a ⟨F,.str _,c,.refl _,⟨_,rfl⟩,st.toks _,h⟩,]
variable{d:Addr}{t:Tag}{l:List (List Atom×V)}{k:List Atom}{x X:V}
def Af(o:Base g)(C:x=kT k)(I:c.σ d=some ⟨t,.dT l⟩)(J:b8 A j)(h:Q (.bool (aO l k).isSome) c):bN g A env Is (compareOp .In) x (.loc d) c Q E:=C▸Dm o I (J.du (V5 _)) h
def r5(o:Base g)(C:x=kT k)(I:c.σ d=some ⟨t,.dT l⟩)(J:b8 A j)(h:Q (.bool (!(aO l k).isSome)) c):bN g A env Is (compareOp .NotIn) x (.loc d) c Q E:=C▸ur o I (J.du (V5 _)) h
def uA(o:x=kT k)(C:c.σ d=some ⟨t,.dT l⟩)(I:b8 A j)(J:aO l k=some X)(h:Q X c):bN g A env Is getItem (.loc d) x c Q E:=o▸xG C (I.du (V5 _)) J h
def oj(o:x=kT k)(C:c.σ d=some ⟨t,.dT l⟩)(I:b8 A j)(hz:l.length<=100000)(h:Q () ⟨c.m,c.σ.set d ⟨t,.dT (dput l k X)⟩⟩):Cf g A env RU setItem (.loc d) x X c Q E:=o▸qo C (I.du (V5 _)) hz h
def xU(o:x=kT k)(C:c.σ d=some ⟨t,.dT l⟩)(I:b8 A j)(J:aO l k=some X)(hz:l.length<=100000)(h:Q () ⟨c.m,c.σ.set d ⟨t,.dT (dp l k)⟩⟩):bN g A env RU delItem (.loc d) x c Q E:=o▸zY C (I.du (V5 _)) J hz h
def xV(o:x=kT k)(C:c.σ d=some ⟨t,.dT l⟩)(I:b8 A j)(J:aO l k=some X)(hz:l.length<=100000)(h:Q X ⟨c.m,c.σ.set d ⟨t,.dT (dp l k)⟩⟩):CA g A env (.raw (.builtin "dict.pop")) [.loc d,x] c Q E:=o▸zZ C (I.du (V5 _)) J hz h
def j8(o:Base g)(C:x=kT k)(I:c.σ d=some ⟨t,.dT l⟩)(J:b8 A j)(hz:l.length<=100000)(h1:∀X,aO l k=some X->Q X c)(U:aO l k=none->Q D ⟨c.m,c.σ.set d ⟨t,.dT (dput l k D)⟩⟩):
 CA g A env (.raw (.builtin "dict.setdefault")) [.loc d,x,D] c Q E:=C▸lF o I (J.du (V5 _)) hz h1 U
end
def qs(l:List Nat):(l.map λ(n:Nat)=>(n:Int)).sum=((l.sum:Nat):Int):=by
 induction l with
 |nil=>rfl
 |cons x l o=>exact Ve ((x:Int)+·) o
def dX.HD:(∀p∈r,m.lookup p.1=some p.2)->dX r m:=by
 induction r with
 |nil=>exactλ_=>trivial
 |cons p r o=>exactλh=>⟨h p (.head _),o λq C=>h q (.tail _ C)⟩
def fQ{m:List (Str×V)}(I:(m.map (·.1)).Nodup):∀p∈m,m.lookup p.1=some p.2:=by
 induction m with
 |nil=>intro p o;cases o
 |cons q m J=>
  rw[aB λU C=>?_,];obtain⟨x,X⟩:=q;rw[C ?_,0 C U,];intro p o;rw[VI,VX] at I;rcases Vc.mp o with rfl|o
  ·simp
  ·have a:p.1≠x:=λe=>I.1 (e▸W6 (f:=(·.1)) o)
   have:(p.1==x)=false:=by rw[WT ‹_›,]
   simp only[List.lookup,this];rw[J I.2 p o,]
def dX.self{m:List (Str×V)}(o:(m.map (·.1)).Nodup):dX m m:=dX.HD (fQ o)
section
variable{g:G0}{A:Around}{env:Env}{c:CS}{E:V->CS->Prop}
def xW{x:V}{l:List Nat}{j:Nat}{Q:V->CS->Prop}(o:b8 A j)(C:SeqAt c x (l.map vi))(h:Q (vi l.sum) c):CA g A env (.raw (.builtin "sum")) [x] c Q E:=
 HB (l:=l.map λ(n:Nat)=>(n:Int)) o.hh (by simpa[W3] using C) (by rw[[qs],h,])
def xX(C:b8 A j)(I:SeqAt c x (l.map vi))(o:l≠[])(h:∀M:Nat,Q (vi M) c):CA g A env (.raw (.builtin "max")) [x] c Q E:=
 HC (l:=l.map λ(n:Nat)=>(n:Int)) C.hh (by simpa[W3] using I) (by simpa using o) (λM J _=>by rw[ah (Vn.mp J) λn _ e=>e▸h n,])
variable{t:Tag}{l:List (Atom×V)}{d:Addr}{k:Atom}{X x:V}
def r6(o:Base g)(C:x=k.v)(I:c.σ d=some ⟨t,.dA l⟩)(h:Q (.bool (!(aO l k).isSome)) c):bN g A env Is (compareOp .NotIn) x (.loc d) c Q E:=C▸uo o I h
def uB(o:x=k.v)(C:c.σ d=some ⟨t,.dA l⟩)(I:aO l k=some X)(h:Q X c):bN g A env Is getItem (.loc d) x c Q E:=o▸xE C I h
def om(o:x=k.v)(C:c.σ d=some ⟨t,.dA l⟩)(hz:l.length<=100000)(h:Q () ⟨c.m,c.σ.set d ⟨t,.dA (dput l k X)⟩⟩):Cf g A env RU setItem (.loc d) x X c Q E:=o▸qj C hz h
def xY(o:x=k.v)(C:c.σ d=some ⟨t,.dA l⟩)(I:aO l k=some X)(hz:l.length<=100000)(h:Q () ⟨c.m,c.σ.set d ⟨t,.dA (dp l k)⟩⟩):bN g A env RU delItem (.loc d) x c Q E:=o▸zV C I hz h
def xZ(o:x=k.v)(C:c.σ d=some ⟨t,.dA l⟩)(I:aO l k=some X)(hz:l.length<=100000)(h:Q X ⟨c.m,c.σ.set d ⟨t,.dA (dp l k)⟩⟩):CA g A env (.raw (.builtin "dict.pop")) [.loc d,x] c Q E:=o▸zW C I hz h
def j9(o:Base g)(C:x=k.v)(I:c.σ d=some ⟨t,.dA l⟩)(hz:l.length<=100000)(h1:∀X,aO l k=some X->Q X c)(J:aO l k=none->Q D ⟨c.m,c.σ.set d ⟨t,.dA (dput l k D)⟩⟩):
 CA g A env (.raw (.builtin "dict.setdefault")) [.loc d,x,D] c Q E:=C▸lE o I hz h1 J
def uC(o:Base g)(C:x=k.v)(I:c.σ d=some ⟨t,.dA l⟩)(h:Q ((aO l k).getD D) c):CA g A env (.raw (.builtin "dict.get")) [.loc d,x,D] c Q E:=C▸xF o I h
end
section
variable{g:G0}{A:Around}{env:Env}{c:CS}{E:V->CS->Prop}{F₀:ai}
def Dz(U:bV env):∀{xs:List Str} {o:List V} {vs:List Value} {F₀:ai} {c:CS},(∀x∈xs,env.kindOf x=some .local)->o.length=xs.length->IsL F₀ o vs->Q () ⟨(xs.zip o).reverse++c.m,c.σ⟩->T g A env RU F₀ (assignInOrder (xs.map λn=>bindName env n) vs) c Q E:=by
 intro xs
 induction xs with
 |nil=>
  intro o vs F₀ c _ C _ h;rw[Wv.mp C] at h;exact T.pure (b:=()) trivial (λ_ _=>trivial) h
 |cons x xs a=>
  intro o vs F₀ c I C hi h
  induction o using List.casesOn with
  |nil=>injection C
  |cons X o=>
   rw[dh hi λv r q=>?_,[q.1],T.bind (T.hold (rJ (I x (.head _)) q.2.1 U λJ _ d _=>a (λy e=>I y (.tail _ e)) (XT C) (q.2.2.mono d) ?_)),];rw[List.zip_cons_cons,VZ,Vo] at h;rw[h,]
def DA(w:A.handled=none)(y:bV env)(z:∀x∈ns,env.kindOf x=some .local)
 (h:EV g A env C c (λv I=>∃f,v=.tup f/\f.length=ns.length/\Q .next ⟨ns.zip f++I.m,I.σ⟩) E)
 (hs:swapsWithSole [.Tuple b k d] C pos.line env=pure false)
 (B:swappedStores [.Tuple b k d] C env=pure (some ns)):iZ g A env (.Assign [.Tuple b k d] C pos) c Q E:=λF Z s D st=>by
 rw[Assign_Tuple_swapped (T.run h D st (λt v X I G p u J U=>?_) λt a x I G p H J U=>⟨t,x,I,p,H,J,U⟩) hs B,6 U,λi=>aw i λf U=>?_,0 i,];rw[U.1] at u;rw[rE u λa o L n q=>?_,[q.1],];have M:L.size=ns.length:=by rw[<-Vl,q.2.2.2.2.length,U.2.1]
 rw[<-M];rw[unpackItems_tuple w ⟨_,J.fr _ _ q.2.1,Ve Obj.cls q.2.2.1,n,q.2.2.2.1⟩ λW r=>T.run (Dz (g:=g) (E:=iA) (c:=I) (Q:=λ_ c'=>c'=⟨ns.zip f++I.m,I.σ⟩) y (λx N=>z x (XR.mp N)) (by rw[V2,V2,U.2.1]) q.2.2.2.2.reverse ?_) (.refl _) (J.jk r _) (λP _ _ Y s2 R _ j S=>?_) λ_ _ _ _ _ _ _ _ e=>e.elim,]
 ·rw[Ve (λl=>(⟨l++I.m,I.σ⟩:CS)) ((Ve List.reverse (List.reverse_zipWith U.2.1.symm).symm).trans (XJ _)),]
 ·rw[S] at j;exact⟨P,.next,_,p.trans R,rfl,j,U.2.2⟩
end
def St.Ag(st:St g ff env F Z c s)(k:∀b o,s.heap.get? b=some o->h'.get? b=some o)(no:∀o,s.heap.get? a≠some o)(ho:h'.get? a=some o)(x:o4 g.w F y.k o)(tk:Nat):
 c.σ a=none/\St g ff env F Z ⟨c.m,c.σ.set a y⟩ {s with heap:=h',toks:=tk}:=by
 have B:∀{G:ai},(∀o,G a=some o->s.heap.get? a=some o)->G a=none:=λ{G} D=>by
  cases e:G a with
  |none=>rfl
  |some o=>exact U9 (D o e) (no o)
 have J:=st.jk (h':=h') (λb o _ e=>k b o e) tk;have U:c.σ a=none:=by
  cases e:c.σ a with
  |none=>rfl
  |some o=>refine ah (st.obj _ _ e) λob q _=>?_;rw[U9 q (no _),]
 have d:=B λo e=>st.fr _ _ e;have j:Z a=none:=by
  cases e:Z a with
  |none=>rfl
  |some o=>
   have:=st.zr _ _ e;unfold kH at this;split at this
   ·rw[aw this λH q=>?_,0 this,U9 q (no _),]
   ·rw[U9 this (no _),]
 have C:∀b∈aU env,b≠a:=λb hb e=>by rw[aw (st.live b hb) λo q=>?_,];rw[e] at q;rw[no _ q,]
 exact⟨U,J.gO ho x d j C⟩
section
variable{prog:Program}{w:World}{A:Around}{E:Value->Shared->Prop}{s:Shared}
def fm(hc:wpAny (model prog w) A.in1 (collect r) (λvs s'=>∃ns,IntsAre vs ns/\vs.length<64/\
 ∀out C h' a,IntsAre out.toList C->C.Perm ns->C.Pairwise (·<=·)->s'.heap.objs.size<=a->(∀b o,s'.heap.get? b=some o->h'.get? b=some o)->(∃n,h'.get? a=some (bM out n))->Q (.ref a) {s' with heap:=h'}) E s):
 wpAny (model prog w) A (call (.builtin "sorted") [r]) Q E s:=by
 rw[Calls.call_function_entry kind_sorted plain_sorted entry_sorted (args_sorted1 _) ?_,2 Builtin.«sorted»,U0 (m:=checkCount "sorted" 1 1 _) (U6 ?_),U0 (Wr hc (λvs s' x=>?_) λ_ _ e=>e),bL x λns d U h=>?_,0 x,U0 (wpAny_newList ?_ (by rw[[VN],kt U,])),];have J:(s'.heap.push (seqObj "list" vs.toArray 0)).get? s'.heap.objs.size=some (seqObj "list" vs.toArray 0):=Vw _ rfl;rw[U0 (Wd (V7 slot_list_sort ⟨_,J,rfl⟩ entry_list_sort (list_sort_tree J d U λout C j y B=>⟨_,rfl,?_⟩) (args_list_sort _))),U6 ⟨_,rfl,h out C _ _ j y B (Va _) (λb o e=>?_) (sortedHeap_at J)⟩,<-hb Vq e,(sortedHeap_old (Vt hb) (by rw[[size_push'],Vi hb,])).trans (Vh _ e),]
end
section
variable{g:G0}{A:Around}{env:Env}{c:CS}{E:V->CS->Prop}
def pq(h1:o.Perm (ks.map Int.ofNat))(I:o.Pairwise (·<=·)):∃r:List Nat,o=r.map Int.ofNat/\r.Perm ks/\r.Pairwise (·<=·):=by
 rw[⟨o.map Int.toNat,?_,?_,?_⟩,]
 ·rw[VD]
  conv=>lhs;rw[<-List.map_id o]
  rw[Vy λx J=>?_,<-this (h1.mem_iff).mp J,];simp only[Vn] at this;rw[ah this λy _ C=>?_,0 this,3 C,];simp
 ·have:=h1.map Int.toNat
  simpa[W3] using this
 ·rw[Ye]
  rw[I.imp Int.toNat_le_toNat,]
def x6{F:ai}{knd:KeyKind P0 g.w Atom}{l:List (Atom×V)}{kvs:List (Atom×Value)}(e:KV F l kvs):kvs.map (·.1)=l.map (·.1):=
 e.ind (C:=λl kvs=>kvs.map Prod.fst=l.map Prod.fst) rfl λ_ _ c=>Ve (List.cons _) c
def oo{ks:List Nat}:∀{vs:List Value},vs.length=ks.length->(∀(j:Nat) (v:Value),vs[j]?=some v->∃k,ks[j]?=some k/\∃t,v=.int (k:Int) t)->IntsAre vs (ks.map Int.ofNat):=by
 induction ks with
 |nil=>exactλh _=>VU h▸.nil
 |cons k ks C=>
  rw[λ{vs} h o=>?_,]
  induction vs using List.casesOn with
  |nil=>exact nomatch h
  |cons v vs=>exact aw (o 0 v rfl) λI q=>aw q.2 λt e=>e▸VW q.1▸.cons _ _ (C (XT h) λj u e=>o (j+1) u e)
def qt(t':Tag){d:Addr}{t:Tag}{l:List (Atom×V)}{ks:List Nat}{j:Nat}{Q:V->CS->Prop}(hb:Base g)(hr:b8 A j)(S:c.σ d=some ⟨t,.dA l⟩)(hk:l.map (·.1)=ks.map λ(k:Nat)=>Atom.i k)(hz:ks.length<64)
 (h:∀r:List Nat,r.Perm ks->r.Pairwise (·<=·)->∀a,c.σ a=none->Q (.loc a) ⟨c.m,c.σ.set a ⟨t',.list (r.map vi)⟩⟩):
 CA g A env (.raw (.builtin "sorted")) [.loc d] c Q E:=LG λW F Z s hF st=>by
 rw[ah (st.dA S) λf q1 q2=>aw q2.dictAt λX B=>?_,<-I (x6 (knd:=bo g.w) q1).trans hk,];have J:f.length=ks.length:=by have:=Ve List.length I;simpa using this
 rw[fm (kdu_collect (kdl_dict (knd:=bo g.w) (kvs:=f) (ep:=X) (st.i8 hb S)) (show A.in1.handled=none from hr.hh) B (by rw[[J,VN],kt hz,]) λh' tk G U C=>?_),];have hI:IntsAre G.toList (ks.map Int.ofNat):=by
  rw[oo (by rw[Vl,C.1,J]) λi v e=>aB λR_ p=>dr (C.2 i v (by rw[<-Wa];rw[e,])) λk x e1 e2=>p ?_,0 p R_,];have q:(f.map (·.1))[i]?=some k:=by rw[WD,e1];rfl
  rw[I,WD] at q;cases Y:ks[i]?with
  |none=>rw[Y] at q;injection q
  |some n=>
   rw[Y] at q;rw[1 q,⟨n,rfl,Atom.zh e2⟩,]
 rw[⟨_,hI,by rw[[Vl,C.1,J],hz,],λout SS L a a1 a2 a3 a4 a5 M=>?_⟩,6 M,λu=>aw u λn M=>?_,0 u,bL (pq a2 a3) λr z r1 r2=>?_,3 z,];have N:∀o,s.heap.get? a≠some o:=λo e=>U9 (Vq (U _ _ e)) (VV.mpr a4);have e:(r.map Int.ofNat).map V.int=r.map vi:=by rw[VD ..,]
 rw[aV (st.Ag (h':=L) (λb o e=>a5 b o (U b o e)) N (y:=⟨t',.list (r.map vi)⟩) M ⟨_,_,rfl,e▸IsL.lT a1⟩ tk) λP R=>⟨F,.loc a,_,.refl _,rfl,R,h r r1 r2 a P⟩,]
end
section
variable{g:G0}{A:Around}{env:Env}{c:CS}{E:V->CS->Prop}
end
section
variable{g:G0}{A:Around}{env:Env}{c:CS}{E:V->CS->Prop}
def DB(h:Q [] c):DP g A env (pairTrees [] [] env pos) c Q E:=Hw h
end
def Ah{σ:ak}{a b:Addr}{y:O}(h:(σ.set a y) b=none):σ b=none:=by
 by_cases q:b=a
 ·subst q;rw[ak.ae] at h;rw[7 h,]
 ·rwa [ak.ag _ _ q] at h
def aJ:∀{l:List Nat},l.Nodup->(∀x∈l,x<n)->l.length<=n:=by
 induction n with
 |zero=>
  rw[λ{l} _ h=>?_,]
  induction l using List.casesOn with
  |nil=>exact Va _
  |cons x l=>exact U9 (h x (.head _)) (VT _)
 |succ n J=>
  rw[λ{l} C h=>?_,<-o J (C.erase n) λx I=>WV (Wh (h x (List.mem_of_mem_erase I))) λe=>C.not_mem_erase (e▸I),];by_cases q:n∈l
  ·rw[Nat.le_add_of_sub_le (List.length_erase_of_mem q▸o),]
  ·rw[List.erase_of_not_mem q] at o;rw[VG o,]
section
variable{g:G0}{A:Around}{env:Env}{c:CS}{E:V->CS->Prop}
def T.Pn(h:T g A env Is F₀ t c (λX C=>∃a U l σ,X=.loc a/\C.σ=σ.set a ⟨U,.list l⟩/\σ a=none/\Q (.lst l) ⟨C.m,σ⟩) E):T g A env Is F₀ t c Q E:=λF Z s p st=>by
 rw[T.run h p st (λk v X C r f u o d=>?_) λk a x C r f w o d=>⟨k,x,C,f,w,o,d⟩,CC d λa U l σ i I z B=>?_,0 d,3 i,aB λD J=>?_,];obtain⟨m,G⟩:=C;rw[J ?_,0 J D,];dsimp only at I;rw[8 I,bL (o.freeze (a:=a) (t:=U) (l:=l) (ak.ae ..)) λH L M j=>?_,];cases(show v=.ref a from u);rw[⟨H,.lst l,⟨m,σ⟩,f.trans L,M,j.iE λb y e=>⟨y.t,?_⟩,B⟩,5 (((σ.set a ⟨U,.list l⟩).del a) b=_),];have n:b≠a:=λq=>by rw[q,z] at e;rw[7 e,]
 rw[[ak.aR _ n,ak.ag _ _ n],e,]
def mP(C:SeqAt c x (l.map vi))(hz:l.length<64)(h:∀r:List Nat,r.Perm l->r.Pairwise (·<=·)->Q (.lst (r.map vi)) c):
 CA g A env (.raw (.builtin "sorted")) [x] c Q E:=λo I J U b=>T.Pn (qi .dI C hz (λr d e a f=>⟨a,_,_,_,rfl,rfl,f,h r d e⟩) o I J U b)
def r7(I:SeqAt c x [vi a,vi b])(h:Q (.lst [vi (min a b),vi (max a b)]) c):
 CA g A env (.raw (.builtin "sorted")) [x] c Q E:=by
 rw[mP (l:=[a,b]) I (U4 ..) λr o C=>?_,];have J:r=[min a b,max a b]:=by
  by_cases q:a<=b
  ·rw[Wl q,WU q]
   rw[XZ (le:=(·<=·)) (λa b _ _ o C=>by rw[ax [.le af aj,.le aj af] (.eq af aj) (.s 0 (.l [1,0,1]) (.l [1,1])) tt [_,_] o C,]) C ?_ o,];simp;rw[ax [.le af aj] (.le af aj) (.l [1,1]) tt [_,_] q,]
  ·rw[W7 (Nat.le_of_not_le q),W5 (Nat.le_of_not_le q)]
   rw[XZ (le:=(·<=·)) (λa b _ _ o C=>by rw[ax [.le af aj,.le aj af] (.eq af aj) (.s 0 (.l [1,0,1]) (.l [1,1])) tt [_,_] o C,]) C ?_ (o.trans (List.Perm.swap ..)),];simp;rw[ax [.N' af aj] (.le aj af) (.l [1,1]) tt [_,_] q,]
 rw[[J],h,]
def oq(I:Base g)(J:b8 A j)(C:c.σ d=some ⟨t,.dA l⟩)(U:l.map (·.1)=ks.map λ(k:Nat)=>Atom.i k)(hz:ks.length<64)
 (h:∀r:List Nat,r.Perm ks->r.Pairwise (·<=·)->Q (.lst (r.map vi)) c):CA g A env (.raw (.builtin "sorted")) [.loc d] c Q E:=λo b e f m=>T.Pn (qt .dI I J C U hz (λr n p a C=>⟨a,_,_,_,rfl,rfl,C,h r n p⟩) o b e f m)
def ot(hz:l.length<=100000)(h:Q (.tup l) c):bN g A env Is getItem (.tup (x::l)) (.fL (.int 1) .none .none) c Q E:=
 qf (a:=1) (Va _) (V5 _) (by simp;rw[kl hz,]) h
def f6(h:Q x c):bN g A env Is getItem (.tup (x::l)) (.int 0) c Q E:=
 gR (j:=0) (by decide) (by decide) (by simp[seqIndex?]) rfl h
def f7(h:Q y c):bN g A env Is getItem (.tup (x::y::l)) (.int 1) c Q E:=
 gR (j:=1) (by decide) (by decide) (by simp[seqIndex?];omega) rfl h
def qu(h:Q z c):bN g A env Is getItem (.tup (x::y::z::l)) (.int 2) c Q E:=
 gR (j:=2) (by decide) (by decide) (by simp[seqIndex?];omega) rfl h
def As.t5(hm:dX m c.m)(h:As g A env t X ⟨m,c.σ⟩ Q E):As g A env t X c Q E:=λF a i=>T.t5 hm (h F a i)
end
section
variable{g:G0}{A:Around}{env:Env}{c:CS}{E:V->CS->Prop}{d:Addr}{t:Tag}{pl:Sem Bool}{Q:V×List V->CS->Prop}
def Ai(C:c.σ d=some ⟨t,.dA l⟩)(h:Q (.raw (.builtin "dict.pop"),[.loc d]) c):iF g A env RM (λo=>getMethod o "pop" pl) (.loc d) c Q E:=fY Xv PySem.F.type_dict_pop C h
def Aj(C:c.σ d=some ⟨t,.dA l⟩)(h:Q (.raw (.builtin "dict.get"),[.loc d]) c):iF g A env RM (λo=>getMethod o "get" pl) (.loc d) c Q E:=fY PySem.F.slot_dict_get PySem.F.type_dict_get C h
def DC(C:c.σ d=some ⟨t,.dA l⟩)(h:Q (.raw (.builtin "dict.setdefault"),[.loc d]) c):iF g A env RM (λo=>getMethod o "setdefault" pl) (.loc d) c Q E:=fY Xr PySem.F.type_dict_setdefault C h
def Ak(C:c.σ d=some ⟨t,.dT l⟩)(h:Q (.raw (.builtin "dict.pop"),[.loc d]) c):iF g A env RM (λo=>getMethod o "pop" pl) (.loc d) c Q E:=iH Xv PySem.F.type_dict_pop C h
def DD(C:c.σ d=some ⟨t,.dT l⟩)(h:Q (.raw (.builtin "dict.setdefault"),[.loc d]) c):iF g A env RM (λo=>getMethod o "setdefault" pl) (.loc d) c Q E:=iH Xr PySem.F.type_dict_setdefault C h
end
def b8.under(h:b8 A (k+1))(C:Addr)(rest:List Value):b8 (A.under (.builtin "type.__call__" ⟨.ref C::rest,[]⟩)) k where
 hh:=h.hh
 depth:=by rw[<-this h.depth,5 (A.depth+1+k<_),ax [.lt (.p af (.p aj aF)) aC] (.lt (.p (.p af aF) aj) aC) (.l [1,1]) tt [_,_,recursionLimit] this,]
 units:=by rw[<-this h.units,5 (A.units+1+4*k+200<_),ax [.lt (.p (.p af (.m 4 (.p aj aF))) (.k 200)) aC] (.lt (.p (.p (.p af aF) (.m 4 aj)) (.k 200)) aC) (.l [1,1]) tt [_,_,cLine] this,]
 fr:=h.fr
section
variable{g:G0}{A:Around}{env:Env}{c:CS}{E:V->CS->Prop}
def DE(z B:Tag)(D:Base g)(G:b8 A (k+1))(hm:makesIn (KK g) C=true)(hi:findIn (KK g) (.ref C) "__init__"=some (some (.ref d)))
 (hf:typeIn (KK g) (.ref d)=some (.type "function"))
 (h:∀i x dx,b8 i k->i.frames=A.frames->c.σ dx=none->c.σ x=none->x≠dx->kK g i env (.raw (.ref d)) (.loc x::args) ⟨c.m,(c.σ.set dx ⟨B,.ns []⟩).set x ⟨z,.inst C dx⟩⟩ (λv c'=>v=.none/\Q (.loc x) c') E):
 kK g A env (.raw (.ref C)) args c Q E:=λJ H j l n F Z s L st=>by
 cases(show H=.ref C from l);have X:=st.cW D;have U:=st.c9 emptyDict (y:=⟨B,.ns []⟩) ⟨[],0,rfl,rfl⟩;have I:=U.c9 (instObj C s.heap.objs.size) (y:=⟨z,.inst C s.heap.objs.size⟩) rfl;have M:=st.fresh.2.2;have p:=U.fresh.2.2;dsimp only at p I;have q:(s.heap.push emptyDict).objs.size=s.heap.objs.size+1:=Wy ..;rw[q] at p I;have t:s.heap.objs.size+1≠s.heap.objs.size:=Nat.succ_ne_self _;rw[<-N h (A.under (.builtin "type.__call__" ⟨.ref C::j,[]⟩)) (s.heap.objs.size+1) s.heap.objs.size (G.under C j) rfl M (Ah p) t J (.ref d) (.ref (s.heap.objs.size+1)::j) rfl (IsL.cons rfl n) F Z _ L I,aB λu o=>?_,];obtain⟨W,Y,dd,tk,os⟩:=s;rw[o ?_,0 o u,make_core (makes_of X hm) (looks_findIn X hi) (λa=>bind_fn X a hf) (.inl rfl) (WE N λr s' x=>?_),]
 induction r with
 |ok f=>
  induction f with
  |ret v=>
   rw[aB λu o=>?_,];obtain⟨F',b,c',P,R,w,rfl,S⟩:=x;rw[o ?_,0 o u,];exact⟨R,F',.loc _,c',P,rfl,w,S⟩
  |_=>exact x
 |error e=>exact x
end
def St.HE(st:St g ff env F Z c s)(k:∀b o,s.heap.get? b=some o->h'.get? b=some o)(no:∀o,s.heap.get? a≠some o)(ho:h'.get? a=some o)(tk:Nat):
 c8 F (F.set a o)/\St g ff env (F.set a o) Z c {s with heap:=h',toks:=tk}:=by
 have x:∀{G:ai},(∀o,G a=some o->s.heap.get? a=some o)->G a=none:=λ{G} y=>by
  cases e:G a with
  |none=>rfl
  |some o=>exact U9 (y o e) (no o)
 have U:=st.jk (h':=h') (λb o _ e=>k b o e) tk;have d:c.σ a=none:=by
  cases e:c.σ a with
  |none=>rfl
  |some o=>refine ah (st.obj _ _ e) λob q _=>?_;rw[U9 q (no _),]
 have C:=x λo e=>st.fr _ _ e;have j:Z a=none:=by
  cases e:Z a with
  |none=>rfl
  |some o=>
   have:=st.zr _ _ e;unfold kH at this;split at this
   ·rw[aw this λB q=>?_,0 this,U9 q (no _),]
   ·rw[U9 this (no _),]
 have J:∀b∈aU env,b≠a:=λb hb e=>by rw[aw (st.live b hb) λo q=>?_,];rw[e] at q;rw[no _ q,]
 exact⟨ai.d8 C,U.vH ho C j d J⟩
def Inst(c:CS)(x C:Addr):Prop:=(∃t o,c.σ x=some ⟨t,.inst C o⟩)\/∃t o I,c.σ x=some ⟨t,.exc C o I⟩
def Inst.at_(st:St g ff env F Z c s)(h:Inst c x C):∃J,s.heap.get? x=some J/\J.cls=.ref C/\∀cd,J.data≠.cls cd:=by
 rcases h with⟨t,a,h⟩|⟨t,a,b,h⟩
 ·rw[ah (st.obj _ _ h) λo U e=>?_,]
  rw[<-e e,8 e,⟨_,U,rfl,by simp[instObj]⟩,]
 ·rw[ah (st.obj _ _ h) λo U I=>ah I λd e _=>?_,0 I,]
  rw[8 e,⟨_,U,rfl,by simp⟩,]
structure pw(K:Frag)(f:Addr)(fd:FuncData)(S:Scope)(D:Addr):Prop where
 at_:∃oc od He,K.lookup f=some ⟨oc,od,.func fd,He⟩
 par:∃ar,(fd.params.posonlyargs++fd.params.args).head?=some ar/\ar.arg="self"
 code:∃Rw Rx Ry vs Rz file tf,fd.code=.ref Rw/\K.lookup Rw=some ⟨Rx,Ry,.fields vs,Rz⟩/\vs[2]?=some (.str file tf)/\((P0.main.file:Str)==file)=true
 cell:∃cc cl RA RC,fd.closure=[(("__class__":Str),cc)]/\K.lookup cc=some ⟨cl,RA,.cell (some (.ref D)),RC⟩
 cls:∃cd,clsIn K D=some cd
 n1:S.names.lookup ("super":Str)=some .globalImplicit
 n2:S.names.lookup ("__class__":Str)=some .free
 n3:S.names.lookup ("self":Str)=some .local
 k:S.kind=.function
def HF(g:G0)(A:Around)(env:Env)(pos:Pos)(args:List Expr)(c:CS)(Q:List V->CS->Prop)(E:V->CS->Prop):Prop:=match args with
 |[]=>Q [] c
 |e::r=>AR g A env pos (e::r) c Q E
section
variable{g:G0}{A:Around}{c:CS}{E:V->CS->Prop}{S:Scope}{L:Addr}{q:Str}{f:Addr}{fd:FuncData}{fr:Option Addr}{D:Addr}
def r8(hb:Base g)(SI:pw (KK g) f fd S D)(hm:c.m.lookup ("self":Str)=some (.loc x))(hI:Inst c x C)(i:mroIn (KK g) C (.ref D)=some true)
 (hn:(name==("__class__":Str))=false) (hg:nsIn (KK g) mainGlobals "super"=some none)
 (st:St g A.frames (bh S L fd.closure q (some f) fd.code fr) F Z c s)
 (h:∀F' so s',c8 F F'->s'.heap.get? so=some (ks_superObj D x C)->St g A.frames (bh S L fd.closure q (some f) fd.code fr) F' Z c s'->Q (.ref so) s'):
 _root_.PySem.wpAt (model P0 g.w) A (.func B (bh S L fd.closure q (some f) fd.code fr)) (attributeBase (.Call (.Name "super" p0) [] [] p1) name (bh S L fd.closure q (some f) fd.code fr) u) Q E' s:=by
 rw[aB λy I=>?_,];obtain⟨⟨oc,od,He,z⟩,⟨ar,hp,G⟩,⟨H,Rx,Ry,vs,Rz,file,tf,J,M,N,U⟩,⟨cc,cl,RA,RC,j,a⟩,⟨P,r⟩,n1,n2,n3,R⟩:=SI;rw[I ?_,0 I y,<-X st.cW hb,aV (id hb) λX0 l=>dh l λmg mb t=>?_,0 l,bL (hI.at_ st) λox hx W Y=>?_,];obtain⟨oD,n,p⟩:∃oD,s.heap.get? D=some oD/\oD.data=.cls P:=by
  unfold clsIn at r;split at r
  ·rw[4 c d SU sl z,]
   rw[1 r,⟨_,X _ _ z,rfl⟩,]
  ·rw[7 r,]
 rw[ah st.ns λmv m1 m2=>ah (m2 "self" (.loc x) n3 hm) λv hv iv=>?_,];cases(show v=.ref x from iv);rw[ks_wpAt_super_base (cc:=H) n1 n2 hn rfl (X _ _ z) rfl hp J (X _ _ M) rfl N U rfl ?_,];have HG:(fd.closure).lookup ("__class__":Str)=some cc:=by rw[j];rfl
 rw[ks_loadName_global R n1 (Calls.loadGlobal_builtin (mg:=mg) (mb:=mb) (t.g.keeps st.mz) (mg_none_of X0 t.g hg) (t.b.keeps st.mz) ((t.builtins _ (by decide+kernel)).trans zL) ⟨rfl,?_⟩),wpAny_loadName_free R n2 HG ⟨_,X _ _ a,rfl⟩ ?_,[G],wpAny_loadName_local R n3 m1 hv<|aB λy I=>?_,];obtain⟨hh,gg,dd,tk,os⟩:=s;rw[I ?_,0 I y,ks_wpAny_isType_cls n p ⟨rfl,?_⟩,ks_wpAny_call_super n p hx W Y (looks_mroIn X i) λh' e k=>aV (st.HE k (λo e=>U9 (Vq e) (VB _)) e tk) λf1 xh=>?_,h _ _ _ f1 e xh,]
def jt{B:List Stmt}{F Z:ai}{s:Shared}{p0 p1 i pos:Pos}{name:Str}{args:List Expr}{pl:Sem Bool}{x C f2:Addr}{K:V->CS->Prop}(hb:Base g)(SI:pw (KK g) f fd S D)(hm:c.m.lookup ("self":Str)=some (.loc x))(hI:Inst c x C)(H:mroIn (KK g) C (.ref D)=some true)
 (hn:(name==("__class__":Str))=false) (hg:nsIn (KK g) mainGlobals "super"=some none) (HH:nsIn (KK g) cStatics "thirdparty.any"=some none) (U:ks_superIn (KK g) C D name=some (some (.ref f2))) (Po:typeIn (KK g) (.ref f2)=some (.type "function")) (M:fnIn (KK g) f2=true)
 (he:eval (.Call (.Attribute (.Call (.Name "super" p0) [] [] p1) name i) args [] pos) (bh S L fd.closure q (some f) fd.code fr)=(do
  let ov<-attributeBase (.Call (.Name "super" p0) [] [] p1) name (bh S L fd.closure q (some f) fd.code fr) (eval (.Call (.Name "super" p0) [] [] p1) (bh S L fd.closure q (some f) fd.code fr))
  standAt i.atName
  let(fv,first) <-holding [ov] (getMethod ov name pl)
  callWith pos fv first (backTo pos (starEach args (bh S L fd.closure q (some f) fd.code fr))) []))
 (FN:∀e r,args=e::r->starEach (e::r) (bh S L fd.closure q (some f) fd.code fr)=(false,eval e (bh S L fd.closure q (some f) fd.code fr))::starEach r (bh S L fd.closure q (some f) fd.code fr)/\(backTo pos (starEach r (bh S L fd.closure q (some f) fd.code fr))).any (·.1)=false)
 (st:St g A.frames (bh S L fd.closure q (some f) fd.code fr) F Z c s)
 (h:HF g A (bh S L fd.closure q (some f) fd.code fr) pos args c (λvs c1=>kK g A (bh S L fd.closure q (some f) fd.code fr) (.raw (.ref f2)) (.loc x::vs) c1 K E) E):
 _root_.PySem.wpAt (model P0 g.w) A (.func B (bh S L fd.closure q (some f) fd.code fr)) (eval (.Call (.Attribute (.Call (.Name "super" p0) [] [] p1) name i) args [] pos) (bh S L fd.closure q (some f) fd.code fr))
  (PT g A.frames (bh S L fd.closure q (some f) fd.code fr) Is F Z K)
  (PT g A.frames (bh S L fd.closure q (some f) fd.code fr) Is F Z E) s:=by
 rw[ks_wpAt_MethodCall (pl:=pl) ?_ he,r8 hb SI hm hI H hn hg st λF1 so s1 f1 Pp u=>?_,<-N u.cW hb,bL (hI.at_ u) λox hx UM SV=>?_,];obtain⟨P,j⟩:∃P,clsIn (KK g) C=some P:=by
  unfold ks_superIn at U;cases z:clsIn (KK g) C with
  |none=>rw[z] at U;injection U
  |some P=>exact⟨P,rfl⟩
 have R:Looks (model P0 g.w) s1.heap (mroOf (.ref C)) P.mro:=λA Q E s k q=>U0 ((looks_clsIn N j) A _ E s k (U6 q));unfold ks_superIn at U;rw[j,Option.bind_some] at U;obtain⟨of,SW,W⟩:∃of,s1.heap.get? f2=some of/\of.cls=.type "function":=by
  have t:((KK g).lookup f2).map (·.cls)=some (.type "function"):=Po;cases z:(KK g).lookup f2 with
  |none=>rw[z] at t;injection t
  |some of=>rw[z] at t;exact⟨of,N _ _ z,VW t⟩
 have Pq:x≠C:=λe=>by
  unfold clsIn at j;split at j
  ·rw[4 c d SU sl ho,]
   have:=N _ _ ho;rw[<-e,hx] at this;rw[1 this,SV _ rfl,]
  ·rw[7 j,]
 rw[aB λX I=>?_,];obtain⟨G,gg,dd,tk,os⟩:=s1;rw[I ?_,0 I X,ks_wpAny_getMethod_super Pp (looks_opaque N HH) R rfl N U SW W Pq hn<|aV (u.HE (h':=G.push (methodObj (.ref f2) (.ref x))) (a:=G.objs.size) (λb o e=>Vh _ e) (λo e=>U9 (Vq e) (VB _)) (Vw _ rfl) (tk+1)) λY n=>?_,];have p:∀{F':ai} {c':CS} {s':Shared},c8 (F1.set G.objs.size (methodObj (.ref f2) (.ref x))) F'->St g A.frames (bh S L fd.closure q (some f) fd.code fr) F' Z c' s'->MethP (KK g) G.objs.size f2 (.ref x) s'.heap:=λk J=>
  ⟨J.fr _ _ (k _ _ (ai.ae ..)),J.cW hb⟩
 have fin:∀{F':ai} {c':CS} {s':Shared} {vs:List V} {as:List Value},c8 (F1.set G.objs.size (methodObj (.ref f2) (.ref x))) F'->IsL F' vs as->St g A.frames (bh S L fd.closure q (some f) fd.code fr) F' Z c' s'->
  kK g A (bh S L fd.closure q (some f) fd.code fr) (.raw (.ref f2)) (.loc x::vs) c' K E->wpAny (model P0 g.w) A (call (.ref G.objs.size) ([]++as)) (PT g A.frames (bh S L fd.closure q (some f) fd.code fr) Is F Z K)
   (PT g A.frames (bh S L fd.closure q (some f) fd.code fr) Is F Z E) s':=by
  intro F' c' s' vs as k ia J SX;rw[X7 (ks_codeAny_call_bound (p k J).1 ?_),WE (SX F' (.ref f2) (.ref x::as) rfl (IsL.cons rfl ia) F' Z s' (.refl _) J) λr O4 y=>?_,<-kk f1.trans (Y.trans k),]
  induction r with
  |ok fl=>
   induction fl with
   |ret v=>refine aB λX I=>?_;obtain⟨F2,b,c2,a1,a2,a3,a4⟩:=y;rw[I ?_,0 I X,];exact⟨F2,b,c2,kk.trans a1,a2,a3,a4⟩
   |_=>exact y
  |error e=>refine aB λX I=>?_;obtain⟨F2,b,c2,a1,a2,a3,a4⟩:=y;rw[I ?_,0 I X,⟨F2,b,c2,kk.trans a1,a2,a3,a4⟩,]
 induction args using List.casesOn with
 |nil=>exact callWith_of rfl (keeps_M M) (evalArgs_nil3 ⟨p (.refl _) n,fin (.refl _) .nil n h⟩)
 |cons e r=>
  rw[aV (FN e r rfl) λh1 h2=>?_,];have h:T g A _ IsL bot (spliced (backTo pos (starEach (e::r) _))) c _ E:=h;rw[h1] at h⊢;rw[callWith_of (by show((false||(backTo pos (starEach r _)).any (·.1))||false)=false;rw[h2];rfl) (keeps_M (self:=.ref x) M) (XG ?_),T.run h (.bot _) n (λF' as vs c' s' k ia J hc=>⟨p k J,fin k ia J hc⟩) λF2 b l c2 s2 f2 ib n h2=>⟨F2,l,c2,f1.trans (Y.trans f2),ib,n,h2⟩,]
def Al(h:iZ g A env t c (λf I=>match f with|.next=>rx g A env B r I Q E|f=>Q f I) E):rx g A env B (t::r) c Q E:=λF Z s st=>by
 rw[X8 (wpAt_of_wpAny (Wr (h F Z s (.bot _) st) ?_ λ_ _ e=>e)),]
 rintro l s' ⟨j,x,I,J,U,o,k⟩
 induction x with
 |next=>
  cases(show l=.next from U);rw[XS (k j Z s' o) ?_ ?_,]
  ·rintro a y ⟨m,b,n,p,u,C,w⟩;exact⟨m,b,n,J.trans p,u,C,w⟩
  ·rintro a y ⟨m,b,n,p,u,C,w⟩;exact⟨m,b,n,J.trans p,u,C,w⟩
 |brk=>cases(show l=.brk from U);exact⟨j,.brk,I,J,rfl,o,k⟩
 |cont=>cases(show l=.cont from U);exact⟨j,.cont,I,J,rfl,o,k⟩
 |ret X=>
  rw[ah (id U) λv d i=>?_,3 d,⟨j,.ret X,I,J,U,o,k⟩,]
structure qv(g:G0)(S:Scope)(f:Addr)(fd:FuncData)(D x C f2:Addr)(name:Str)(c:CS):Prop where
 si:pw (KK g) f fd S D
 m:c.m.lookup ("self":Str)=some (.loc x)
 I:Inst c x C
 sub:mroIn (KK g) C (.ref D)=some true
 n:(name==("__class__":Str))=false
 gl:nsIn (KK g) mainGlobals "super"=some none
 op:nsIn (KK g) cStatics "thirdparty.any"=some none
 me:ks_superIn (KK g) C D name=some (some (.ref f2))
 ty:typeIn (KK g) (.ref f2)=some (.type "function")
 fn:fnIn (KK g) f2=true
def mQ{B r:List Stmt}{i j o pos U:Pos}{name:Str}{args:List Expr}{pl:Sem Bool}{x C f2:Addr}{Q:CF->CS->Prop}(G:Base g)(SC:qv g S f fd D x C f2 name c)
 (h:HF g A (bh S L fd.closure q (some f) fd.code fr) pos args c (λvs w=>kK g A (bh S L fd.closure q (some f) fd.code fr) (.raw (.ref f2)) (.loc x::vs) w (λ_ d=>rx g A (bh S L fd.closure q (some f) fd.code fr) B r d Q E) E) E)
 (H:eval (.Call (.Attribute (.Call (.Name "super" i) [] [] j) name o) args [] pos) (bh S L fd.closure q (some f) fd.code fr)=(do
  let y<-attributeBase (.Call (.Name "super" i) [] [] j) name (bh S L fd.closure q (some f) fd.code fr) (eval (.Call (.Name "super" i) [] [] j) (bh S L fd.closure q (some f) fd.code fr))
  standAt o.atName
  let(M,first) <-holding [y] (getMethod y name pl)
  callWith pos M first (backTo pos (starEach args (bh S L fd.closure q (some f) fd.code fr))) []))
 (k:∀e r,args=e::r->starEach (e::r) (bh S L fd.closure q (some f) fd.code fr)=(false,eval e (bh S L fd.closure q (some f) fd.code fr))::starEach r (bh S L fd.closure q (some f) fd.code fr)/\(backTo pos (starEach r (bh S L fd.closure q (some f) fd.code fr))).any (·.1)=false)
 (hi:interactive (bh S L fd.closure q (some f) fd.code fr)=false):
 rx g A (bh S L fd.closure q (some f) fd.code fr) B (.Expr (.Call (.Attribute (.Call (.Name "super" i) [] [] j) name o) args [] pos) U::r) c Q E:=λF Z s st=>by
 rw[X8 (ks_wpAt_Expr_any (XS (jt (pl:=pl) G SC.si SC.m SC.I SC.sub SC.n SC.gl SC.op SC.me SC.ty SC.fn H k st h) ?_ λ_ _ e=>e) hi rfl),]
 rintro v N ⟨P,b,w,z,X,l,R⟩
 rw[XS (R P Z N l) ?_ ?_,]
 ·rintro a W ⟨p,b,d,f2,t,J,u⟩;exact⟨p,b,d,z.trans f2,t,J,u⟩
 ·rintro a W ⟨p,b,d,f2,t,J,u⟩;exact⟨p,b,d,z.trans f2,t,J,u⟩
def uE(l:Base g)(SC:qv g S f fd D x C f2 name c)
 (h:HF g A (bh S L fd.closure q (some f) fd.code fr) pos args c (λvs J=>kK g A (bh S L fd.closure q (some f) fd.code fr) (.raw (.ref f2)) (.loc x::vs) J (λX p=>Q (.ret X) p) E) E)
 (t:eval (.Call (.Attribute (.Call (.Name "super" U) [] [] a) name o) args [] pos) (bh S L fd.closure q (some f) fd.code fr)=(do
  let j<-attributeBase (.Call (.Name "super" U) [] [] a) name (bh S L fd.closure q (some f) fd.code fr) (eval (.Call (.Name "super" U) [] [] a) (bh S L fd.closure q (some f) fd.code fr))
  standAt o.atName
  let(u,first) <-holding [j] (getMethod j name pl)
  callWith pos u first (backTo pos (starEach args (bh S L fd.closure q (some f) fd.code fr))) []))
 (d:∀e r,args=e::r->starEach (e::r) (bh S L fd.closure q (some f) fd.code fr)=(false,eval e (bh S L fd.closure q (some f) fd.code fr))::starEach r (bh S L fd.closure q (some f) fd.code fr)/\(backTo pos (starEach r (bh S L fd.closure q (some f) fd.code fr))).any (·.1)=false):
 rx g A (bh S L fd.closure q (some f) fd.code fr) B (.Return (some (.Call (.Attribute (.Call (.Name "super" U) [] [] a) name o) args [] pos)) k::r) c Q E:=λF Z s st=>by
 rw[X8 (ks_wpAt_Return_some (XS (jt (pl:=pl) l SC.si SC.m SC.I SC.sub SC.n SC.gl SC.op SC.me SC.ty SC.fn t d st h) ?_ λ_ _ e=>e)),]
 rintro v H ⟨w,b,J,y,z,i,G⟩
 exact⟨w,.ret b,J,y,⟨v,rfl,z⟩,i,G⟩
end
def qw(h:(List.range n).map f=(List.range n).map g)(o:x<n):f x=g x:=List.map_inj_left.mp h x (List.mem_range.mpr o)
def Ma{fg mv:Nat}{led:Bool}{y:Nat}(o:y<8):(gE [] fg mv led).freeSlot (y:Int)=some (y,false):=
 qw (f:=λy=>(gE [] fg mv led).freeSlot (y:Int)) (g:=λy=>some (y,false)) (n:=8) (by kernel_rfl) o
def SY{C:Type}{x y:Nat}{a b:C}(h:(if x=y then none else some a)=(if x=y then none else some b))(o:x≠y):a=b:=by rw[U8 o,U8 o] at h;rw[VW h,]
def lay0{fg mv:Nat}{led:Bool}{y:Nat}(o:y<8)(v:Value):layNew (gE [] fg mv led) #[] (y:Int) v=(#[((y:Int),v)],gE [y] fg mv led,false,false):=by rw[2 layNew,[Ma o],];rfl
def Pr{fg mv:Nat}{led:Bool}{x y:Nat}(o:x<8)(C:y<8)(I:x≠y)(u v:Value):layNew (gE [x] fg mv led) #[((x:Int),u)] (y:Int) v=
 (if y<x then#[((y:Int),v),((x:Int),u)] else#[((x:Int),u),((y:Int),v)],gE (if y<x then[y,x] else[x,y]) fg mv led,false,false):=
 SY (qw (f:=λy=>if x=y then none else some (layNew (gE [x] fg mv led) #[((x:Int),u)] (y:Int) v)) (g:=λy=>if x=y then none else some (if y<x then#[((y:Int),v),((x:Int),u)] else#[((x:Int),u),((y:Int),v)],gE (if y<x then[y,x] else[x,y]) fg mv led,false,false)) (n:=8)
  (qw (f:=λx=>(List.range 8).map λy=>if x=y then none else some (layNew (gE [x] fg mv led) #[((x:Int),u)] (y:Int) v)) (g:=λx=>(List.range 8).map λy=>if x=y then none else some (if y<x then#[((y:Int),v),((x:Int),u)] else#[((x:Int),u),((y:Int),v)],gE (if y<x then[y,x] else[x,y]) fg mv led,false,false)) (n:=8) (by kernel_rfl) o) C) I
def r9(w:World)(h:Heap)(a:Addr)(C:List Nat):Prop:=∃o,h.get? a=some o/\Fy w o C
noncomputable def cu(l:List Nat)(y:Nat):List Nat:=List.casesOn (motive:=λ_=>List Nat) l [y] λx r=>if x=y then x::r else if y<x then y::x::r else x::y::r
def FO{y:Nat}(h:y<8):hashInt (y:Int)=(y:Int):=by rw[qw (f:=λy=>hashInt (y:Int)) (g:=λy=>(y:Int)) (n:=8) rfl h,]
def mR:(cu l y).length<=l.length+1:=by
 induction l using List.casesOn with
 |nil=>exact Va 1
 |cons x r=>show(if _ then _ else _:List Nat).length<=_;split;rw[VE _,];split<;>exact Va _
def sb(o:l.length<=1):z∈cu l y↔z∈l\/z=y:=by
 induction l using List.casesOn with
 |nil=>exact U5.trans (or_iff_right WG).symm
 |cons x r=>
  show z∈(if _ then _ else _:List Nat)↔_;split
  ·rw[4 e,⟨.inl,λq=>q.elim id λq=>q.trans e.symm▸.head _⟩,]
  ·split<;>simp only[Vc]<;>(rw[VU (Nat.le_zero.mp (Xo o))];simp[or_comm])
def sd(o:l.length<=1):(cu l y).Pairwise (· <·):=by
 induction l using List.casesOn with
 |nil=>exact VY ..
 |cons x r=>
  cases VU (Nat.le_zero.mp (Xo o));have two:∀{a b:Nat},a<b->[a,b].Pairwise (· <·):=λh=>.cons (λc C=>U5.mp C▸h) (VY ..);show(if _ then _ else _:List Nat).Pairwise _;split
  ·rw[VY ..,]
  ·rw[4 e,];split
   ·rw[4 h,two h,]
   ·rw[4 h,two (WV (Wn h) e),]
noncomputable abbrev HJ(o:List Nat)(C:List Tok):List (Int×Value):=(o.zip C).map λp=>((p.1:Int),Value.int (p.1:Int) p.2)
def Pt{fg mv:Nat}{led:Bool}{o:List Nat}{a:List Tok}{es:Array (Int×Value)}{y:Nat}{t:Tok}(d:o.length<=1)(f:∀x∈o,x<8)(b:y<8)(h:y∉o)(C:a.length=o.length)(I:es.toList=HJ o a):
 ∃J U,layNew (gE o fg mv led) es (y:Int) (.int (y:Int) t)=(J,gE (cu o y) fg mv led,false,false)/\U.length=(cu o y).length/\J.toList=HJ (cu o y) U:=by
 induction o using List.casesOn with
 |nil=>
  cases VU C;cases Array.toList_inj.mp (show es.toList=(#[]:Array (Int×Value)).toList from I);exact⟨_,[t],lay0 b _,rfl,rfl⟩
 |cons x r=>
  cases VU (Nat.le_zero.mp (Xo d));rw[aw (List.length_eq_one_iff.mp C) λu e=>?_,9 e,];cases Array.toList_inj.mp (show es.toList=(#[((x:Int),.int (x:Int) u)]:Array (Int×Value)).toList from I);have q:x≠y:=λe=>h (e▸.head _);rw[[show cu [x] y=if y<x then[y,x] else[x,y] from U8 q],⟨_,if y<x then[t,u] else[u,t],Pr (f x (.head _)) b q ..,?_⟩,];split<;>exact⟨rfl,rfl⟩
def Mb{w:World}{y:Nat}{o:List Nat}{C:List Tok}(h:y∉o):List.findIdx? (λe=>(intKind P0 w).is (y:Int) e.2) (HJ o C)=none:=by rw[List.findIdx?_eq_none_iff.mpr λe I=>aw (Vn.mp I) λp q=>?_,];rw[<-q.2,KeyKind.is_eq_decide (knd:=intKind P0 w) (k:=(p.1:Int)) (intKind_is P0 w ..) (y:Int)];rw[WT λe=>h (WL e▸(List.of_mem_zip q.1).1),]
def Mc:List.findIdx? (λe=>(intKind P0 w).is (y:Int) e.2) (((y:Int),Value.int (y:Int) u)::l)=some 0:=by rw[List.findIdx?_cons,intKind_is];rfl
section
variable{w:World}{A:Around}{E:Value->Shared->Prop}{s:Shared}
def DF{a:Addr}{J:List Nat}{y:Nat}{t:Tok}{Q:Bool->Shared->Prop}(hS:r9 w s.heap a J)(hl:J.length<=1)(h8:∀x∈J,x<8)(hy:y<8)
 (h:∀b h',Heap.SameBut a s.heap h'->r9 w h' a (cu J y)->Q b {s with heap:=h'}):wpAny (model P0 w) A (setAddHashed a (.int (y:Int) t) ((intKind P0 w).hash (y:Int))) Q E s:=by
 rw[aB λR_ H=>ah hS λo ho L=>jW L λj ep D G W M=>ah M λX U C=>H ?_,0 H R_ hS L M,3 W,];have hh:(intKind P0 w).hash (y:Int)=(y:Int):=FO hy;have B:ElemsOf (intKind P0 w) j.toList:=by rw[C];intro e he;rw[ah (Vn.mp he) λp hp Y=>?_,3 Y,<-DG h8 p.1 (List.of_mem_zip hp).1,⟨⟨(p.1:Int),intKind_is ..,(FO DG).symm⟩,rfl⟩,]
 have d:(gE J D G (bY w)).fits j.size=true:=by
  have:j.size=J.length:=by rw[<-Vl,C];simp[U]
  rw[2 SetTable.fits SetTable.fill,[this],];simp;rw[kl hl,]
 have P:j.size<scanBound:=by
  have:j.size=J.length:=by rw[<-Vl,C];simp[U]
  rw[2 scanBound,ax [.le af aF,.eq aj af] (.lt aj (.k 4096)) (.l [1,1,1]) tt [_,_] hl this,]
 rw[2 setAddHashed setAddHashedIn,Wd (U0 (Xh ho rfl d ?_)),];dsimp only;rw[byScan_of (knd:=intKind P0 w) rfl P B];simp only[Yc];rw[2 setAddByScan,U0 (U0 (XI (U0 (wpAny_setScan_of (knd:=intKind P0 w) (k:=(y:Int)) (intKind_is ..) ho rfl d B ?_)))),[hh],];by_cases q:y∈J
 ·have h1:List.findIdx? (λe=>(intKind P0 w).is (y:Int) e.2) j.toList=some 0/\cu J y=J:=by
   rw[C]
   induction J using List.casesOn with
   |nil=>cases q
   |cons x r=>
    cases VU (Nat.le_zero.mp (Xo hl));cases U5.mp q
    induction X using List.casesOn with
    |nil=>cases U
    |cons u X=>exact⟨Mc,Vb rfl⟩
  dsimp only;rw[[h1.1],U6 (U6 (h _ s.heap (Heap.SameBut.refl ..) (h1.2.symm▸⟨_,ho,_,ep,D,G,rfl,X,U,C⟩))),]
 ·have hf:List.findIdx? (λe=>(intKind P0 w).is (y:Int) e.2) j.toList=none:=C▸Mb q
  rw[dh (Pt (t:=t) (led:=bY w) (fg:=D) (mv:=G) hl h8 hy q U C) λR S0 z=>dG z λS g1 g2=>?_,];have g3:(cu J y).length<=2:=U3 mR (VJ hl);have g4:R.size=(cu J y).length:=by rw[<-Vl,g2];simp[g1]
  have g5:(gE (cu J y) D G (bY w)).tooFull=false:=by unfold SetTable.tooFull SetTable.fill;simp;rw[ax [.le af gI] (.lt (.r af 5) (.k 21)) (.l [1,5]) tt [_] g3,]
  clear B d P;dsimp only;rw[[hf,S],U0 (U6 (a:=()) ?_),];dsimp only;rw[[Vb rfl,hashByValue_scannable 8 rfl],U0 (U6 ?_),[Vb (show plainKind (Value.int (y:Int) t)=true from rfl)],U0 (wpAny_storeSet_of ho rfl ?_ (by rw[[g4,VN],U3 g3 (U4 ..),])),[g5],U6 (U6 (h _ _ (Vp ..) ⟨_,VM _ ho rfl,R,ep+1,D,G,rfl,S0,g1,g2⟩)),]
def r9.keep(x:r9 w h a C)(k:∀o,h.get? a=some o->h'.get? a=some o):r9 w h' a C:=by rw[ah x λo I r=>?_,0 x,⟨o,k _ I,r⟩,]
def Md{R:Result->Shared->Prop}{I:Addr}{fp wr:List Addr}{G:Array GenState->Array GenState->Prop}{n:Nat}{P:Nat->Value->Prop}{St:Nat->Shared->Prop}(W:WalksS P0 w A.in1 I fp wr G n P St)(S:Addr)(j:S∉fp)(ns:List Nat)(hn:ns.length=n)
 (hP:∀i v,P i v->∃t,v=.int ((ns.getD i 0:Nat):Int) t) (h8:∀x∈ns,x<8) (h2:n<=2):
 ∀(k i:Nat) (s:Shared),n-i=k->i<=n->St i s->r9 w s.heap S ((ns.take i).foldl cu [])->((ns.take i).foldl cu []).length<=i->(∀x∈(ns.take i).foldl cu [],x<8)->
  (∀s',Moved (S::wr) G s s'->r9 w s'.heap S (ns.foldl cu [])->R (.ok (.ret .none)) s')->codeAny (model P0 w) A (.builtin "set.update.loop" ⟨[.ref S,.ref I],[]⟩) R s:=by
 have B:S∉wr:=λh=>j (W.sub _ h);intro k
 induction k with
 |zero=>
  intro i s X hi J Y hl U hR;obtain rfl:i=n:=by rw[ax [.eq af gp,.le aj aC,.sub af aC aj] (.eq aj aC) (.s 0 (.l [1,1,0,0,1]) (.l [1,0,0,1])) tt [_,_,_] X hi rfl,]
  rw[X4 F.entry_set_update_loop ?_,[Around.under_plainId F.plain_set_update_loop _],U0 (m:=pyNext (.ref I)) (W.done s _ _ J λs' hm=>?_),U6 (hR s' (hm.mono λb hb=>.tail _ hb) ?_),];rw[<-hn,List.take_length] at Y;exact Y.keep λo e=>hm.heap S o B e
 |succ k ih=>
  intro i s X hi J Y hl U hR;have C:i<n:=by rw[ax [.eq af (.p aj aF),.sub af aC bH] (.lt bH aC) (.s 2 (.l [0,1,0,0,1]) (.l [0,1,1,0,1])) tt [_,_,_,_] X rfl,]
  rw[X4 F.entry_set_update_loop ?_,[Around.under_plainId F.plain_set_update_loop _],U0 (m:=pyNext (.ref I)) (W.item i s _ _ C J λv s' S1 D hm=>?_),aw (hP i v S1) λt H=>?_,3 H,<-C3 Y.keep (h':=s'.heap) λo e=>hm.heap S o B e,];have hy:ns.getD i 0<8:=h8 _ (by rw[[Vf,U' (hn.symm▸C)],WH _,]);have d:(ns.take (i+1)).foldl cu []=cu ((ns.take i).foldl cu []) (ns.getD i 0):=by rw[List.take_succ,U' (hn.symm▸C),List.foldl_append,Vf,U' (hn.symm▸C)];rfl
  rw[5 (wpAny _ A.in1 (holding [Value.int ((ns.getD i 0:Nat):Int) t] (setAdd S (.int ((ns.getD i 0:Nat):Int) t))>>=_) _ _ s'),U0 (Wd ?_),2 setAdd,Wd (U0 ((intKind P0 w).pyHash (k:=((ns.getD i 0:Nat):Int)) (intKind_is ..) ?_)),DF (s:={s' with toks:=s'.toks+1}) C3 (ax [.le af gI,.le aj aC,.lt aC af] (.le aj aF) (.l [1,1,1,1]) tt [_,_,_] h2 hl C) U hy λb h' L S2=>U6 ⟨plainId_quiet F.plain_set_update_loop _,ih (i+1) _ (ax [.eq af (.p aj aF),.sub aC bH (.p iV aF),.sub af bH iV] (.eq aC aj) (.s 0 (.s 2 (.s 3 (.l [0,1,0,0,0,0,1]) (.l [0,1,0,0,1,0,1,1])) (.s 3 (.l [1,0,1]) (.l [0,1,0,0,1,0,1,1]))) (.s 2 (.l [0,1,1]) (.l [0,1,1,1,0,0,0,1]))) tt [_,_,_,_,_] X rfl rfl) C (W.frame _ s' _ _ D (VE _) λb hb o e=>?_) (d▸S2) (by rw[[d],<-this mR (l:=(ns.take i).foldl cu []) (y:=ns.getD i 0),ax [.le af aj,.le aC (.p af aF)] (.le aC (.p aj aF)) (.l [1,1,1]) tt [_,_,_] hl this,]) (λz hz=>?_) λO4 M Q=>?_⟩,]
  ·rw[[L.2 b (λh:b=S=>j (h▸hb))],e,]
  ·rw[d] at hz
   rcases(sb (ax [.le af gI,.le aj aC,.lt aC af] (.le aj aF) (.l [1,1,1,1]) tt [_,_,_] h2 hl C)).mp hz with h|rfl
   ·rw[U z h,]
   ·rw[hy,]
  ·rw[hR O4 (Moved.trans W.gtrans ((hm.mono λb hb=>.tail _ hb).then_heap (VE _) λb o hb e=>?_) M) Q,]
   rw[[L.2 b (λh:b=S=>hb (h▸VL))],e,]
noncomputable abbrev eC(w:World):Obj:={cls:=.type "set",dict:=none,data:=.set #[] 0 (gE [] 0 0 (bY w)),slots:=#[]}
def newX(a:Value)(h:Q₁ (.ref s.heap.objs.size) {s with heap:=s.heap.push (eC w)}):codeAny (model P0 w) A (.call (.builtin "set.__new__") ⟨[.type "set",a],[]⟩) (wants Q₁ E) s:=by
 rw[XK F.plain_set_new F.entry_set_new (Xm (F.newCall_set_1 a) ?_),2 Builtin.«set.__new__» Builtin.Frozenset.newClass,<-J sub_set_self,aB λU C=>?_,];obtain⟨hp,g,d,j,os⟩:=s;rw[C ?_,0 C U,];dsimp only
 wp_walk
 rw[XO (U6 ?_),];dsimp only;simp only[newObj];rw[U0 (wpAny_alloc (U6 ?_)),U6 h,]
def x7{T J C:String}{args:List Value}{Q Q₁:Value->Shared->Prop}(a:TypeCalled T J C)(n:checkTypeCall T ⟨args,[]⟩=pure ())(d:codeAny (model P0 w) A.in1 (.call (.builtin J) ⟨.type T::args,[]⟩) (wants Q₁ E) s)
 (b:∀obj I,Q₁ obj I->I.TypeIs obj T/\codeAny (model P0 w) A.in1 (.call (.builtin C) ⟨obj::args,[]⟩) (wants (λr U=>r=.none/\Q obj U) E) I):wpAny (model P0 w) A (call (.type T) args) Q E s:=by
 rw[dh a.mro λc t l=>?_,<-i a.made,<-m a.sub,<-u a.notType,<-x a.canCreate,X7 (codeAny_of_tree ?_),5 (wpAny _ _ (callAny (.type T) _) ..),U6 ⟨X9 _ (by decide+kernel),X4 F.entry_type_call ?_⟩,[Around.under_plain (weight_type_call_type T args []) rfl],]
 repeat (any_goals(first|assumption|wp_step))
 rw[WE d λr I j=>?_,];rcases r with e|(obj|_|_|_)<;>first|exact j|exact j.elim|skip
 rw[4 obj,aV (b _ _ j) λy k=>?_,<-p a.init.lookup,<-q a.init.bind obj,]
 repeat (any_goals(first|assumption|wp_step))
 rw[WE k λf U o=>?_,];rcases f with e|(v|_|_|_)<;>first|exact o|exact o.elim|skip
 rw[aV o λh z=>?_,0 o,3 h,]
 repeat (any_goals(first|assumption|wp_step))
def Me{l:Addr}{items:Array Value}{ns:List Nat}{Q:Value->Shared->Prop}(hh:A.handled=none)(hl:s.heap.IsList l items)(hi:IntsAre items.toList (ns.map Int.ofNat))(h8:∀x∈ns,x<8)(h2:ns.length<=2)
 (h:∀(h':Heap) (tk:Nat),r9 w h' s.heap.objs.size (ns.foldl cu [])->(∀b o,s.heap.get? b=some o->h'.get? b=some o)->Q (.ref s.heap.objs.size) {s with heap:=h',toks:=tk}):
 wpAny (model P0 w) A (call (.type "set") [.ref l]) Q E s:=by
 rw[x7 (Q₁:=λobj J=>obj=.ref s.heap.objs.size/\J={s with heap:=s.heap.push (eC w)}) F.called_set (F.typeCall_set_1 (.ref l)) (newX _ ⟨rfl,rfl⟩) λobj J U=>aV U λj y=>?_,0 U,3 j,3 y,];have hS:(s.heap.push (eC w)).get? s.heap.objs.size=some (eC w):=Vw _ rfl;have hT:Shared.TypeIs {s with heap:=s.heap.push (eC w)} (.ref s.heap.objs.size) "set":=⟨_,hS,rfl⟩;rw[⟨hT,XK F.called_set.init.plain F.entry_set_init (check_set_init_1 hT ?_)⟩,];have B:items.size=ns.length:=by
  have:=hi.length
  simpa using this
 rw[bL hl λol D G d=>aw d λnl H=>?_,0 hl d,aB λX C=>?_,];obtain⟨S3,Y,RD,S⟩:=ol;rw[C ?_,0 C X,];simp only at G H;rw[8 G,8 H,<-L Vh (eC w) D,<-S4 F.sub_list_set,<-S5 F.sub_list_frozenset,];have Pu:(Value.type "list"==Value.type "dict")=false:=rfl;have qy:(s.heap.push (eC w)).IsList l items:=⟨_,L,rfl,nl,rfl⟩;unfold Builtin.«set.__init__» noKeywords Builtin.Frozenset.updateFrom;generalize S6:pyIter=PI
 wp_walk
 rw[8 S6,wpAny_pyIter_list qy (U0 (wpAny_runValue ?_)),];have M:l<s.heap.objs.size:=Vq D;have P:l≠(s.heap.push (eC w)).objs.size:=by rw[[Wy],Vt (Vi M),]
 have S7:s.heap.objs.size∉[(s.heap.push (eC w)).objs.size,l]:=by rw[Wy];simp only[Vc,WG,or_false,not_or];exact⟨Vt (Vs _),WO M⟩
 have R:∀(i:Nat) (v:Value),items[i]?=some v->∃t,v=.int ((ns.getD i 0:Nat):Int) t:=λi v hv=>by
  rw[aw (PyProof.Rows.IntsAre.int_at hi i v (by rw[[Wa],hv,])) λt e=>?_,⟨t,e.trans ?_⟩,];congr 1;simp only[Vf,WD]
  induction ns[i]?<;>rfl
 refine Md (W:=(Walks.list (show A.in1.in1.in1.handled=none from hh) _ l P items).toS) s.heap.objs.size S7 ns B.symm R h8 (ke h2 B) (items.size-0) 0 _ (ax [] (.eq af af) (.s 0 (.l [1]) (.l [1])) tt [_]) (Vj _) ⟨⟨_,Vw _ rfl,rfl,rfl⟩,qy.push _⟩
  ⟨_,Vh _ hS,#[],0,0,0,rfl,[],rfl,rfl⟩ (Va _) (λx hx=>by cases hx) ?_
 intro s' hm C3;rw[aB λX C=>?_,];obtain⟨h',g',d',S8,S9⟩:=s';rw[C ?_,0 C X,];obtain rfl:g'=s.gens:=hm.gens;obtain rfl:d'=s.drawn:=hm.drawn;obtain rfl:S9=s.os:=hm.os;rw[U6 (U6 ⟨rfl,h h' S8 C3 λb o e=>?_⟩),];have hb:b<s.heap.objs.size:=Vq e;rw[hm.heap b o ?_ (Vh _ (Vh _ e)),[Wy],];simp only[Vc,WG,or_false,not_or];exact⟨Vt hb,Vt (Vi hb)⟩
end
def ju:Slot "set_iterator" "__next__" "set_iterator.__next__":=
 .of (owner:="set_iterator") (n:="__next__") (by rw[typeLookup_type,builtinLookup_eq_fast];kernel_rfl) rfl rfl rfl (.inl rfl) (by rw[isSubtype_type];kernel_rfl)
def x8:entryFor table "set_iterator.__next__"=some Builtin.«set_iterator.__next__»:=entryFor_of_tree (by kernel_rfl)
def Am(a:Value):argsOk "set_iterator.__next__" ⟨[a],[]⟩:=by unfold argsOk;kernel_rfl
def mS:entryFor table "set.__iter__"=some Builtin.«frozenset.__iter__»:=entryFor_alias (id':="frozenset.__iter__") (by kernel_rfl) rfl (by decide+kernel) (by kernel_rfl)
section
variable{w:World}{A:Around}{E:Value->Shared->Prop}{s:Shared}
def j'{Q:Bool->Shared->Prop}(h:Q (!bY w) s):wpAny (model P0 w) A setsByText Q E s:=by rw[2 setsByText,U0 (XO (U6 ?_)),];unfold bY at h;rw[Bool.not_not] at h;rw[h,]
noncomputable abbrev uF(w:World)(es:Array (Int×Value))(ep fg mv:Nat)(d:List Nat):Obj:={cls:=.type "set",dict:=none,data:=.set es ep (gE d fg mv (bY w)),slots:=#[]}
variable{a:Addr}{es:Array (Int×Value)}{ep fg mv:Nat}{ps:List Nat}
def x9(o:es.size=ps.length)(C:ps.length<=2):(gE ps fg mv (bY w)).fits es.size=true:=by rw[2 SetTable.fits SetTable.fill,[o],];simp;rw[kl C,]
def jv(h:Heap)(I a:Addr)(C i n ep:Nat):Prop:=∃j x y B,h.get? I=some {cls:=.type "set_iterator",dict:=none,data:=.fields #[.int (C:Int) j,.int (i:Int) x,.ref a,.int (n:Int) y,.int (ep:Int) B],slots:=#[]}
def An{Q:Bool->Shared->Prop}(o:s.heap.get? a=some (uF w es ep fg mv ps))(C:es.size=ps.length)(I:ps.length<=2)(h:Q false s):wpAny (model P0 w) A (setDrawn a) Q E s:=by
 rw[2 setDrawn,U0 (Xh o rfl (x9 C I) (U0 (j' (U6 ?_)))),5 (Q (!(!bY w)&&(!true&&decide (es.size>1))) s),];have e:∀b:Bool,(!(!b)&&(!true&&decide (es.size>1)))=false:=λb=>by induction b<;>rfl
 rw[[e],h,]
def HK{Q:Value->Shared->Prop}(ho:s.heap.get? a=some (uF w es ep fg mv ps))(hn:es.size=ps.length)(h2:ps.length<=2)
 (j:Q (.ref s.heap.objs.size) {s with heap:=s.heap.push {cls:=.type "set_iterator",dict:=none,data:=.fields #[rawInt 0,rawInt 0,.ref a,rawInt (es.size:Int),rawInt (ep:Int)],slots:=#[]}}):wpAny (model P0 w) A (pyIter (.ref a)) Q E s:=by
 have d:s.TypeIs (.ref a) "set":=⟨_,ho,rfl⟩;rw[wpAny_pyIter_slot d F.slot_set_iter (V7 F.slot_set_iter d mS ?_ (F.args_set_iter_1 _)),2 Builtin.«frozenset.__iter__» Builtin.Frozenset.sizeOf setEntries,U0 (m:=Builtin.Frozenset.slot0 "__iter__" ⟨[.ref a],[]⟩) (U6 ?_),U0 (U0 (U0 (Xh ho rfl (x9 hn h2) (U6 (U6 ?_))))),U0 (An ho hn h2 ?_),];simp only[Ws,XA,pure_bind];rw[U0 (wpAny_setEpoch_of ho rfl (x9 hn h2) ?_),2 newFields,U0 (Wf (U6 ⟨_,rfl,"set_iterator",_,⟨_,Vw _ rfl,rfl⟩,ju.lookup,?_⟩) (by size_fits)),j,]
noncomputable def slotAt(ps:List Nat)(i:Nat):Nat:=if i=0 then 0 else ps.getD (i-1) 0+1
def Ao{xs:Array Nat}{j i:Nat}(h1:∀m,m<i->xs.getD m j<j)(I:∀m,i<=m->¬xs.getD m j<j)(f:Nat):∀lo hi,lo<=i->i<=hi->hi<=lo+f->SetTable.below.go xs j f lo hi=i:=by
 induction f with
 |zero=>exactλlo hi a b c=>Xq a (U3 b c)
 |succ f C=>
  rw[λlo hi a b c=>(?_:(if lo<hi then(if xs.getD ((lo+hi)/2) j<j then SetTable.below.go xs j f ((lo+hi)/2+1) hi else SetTable.below.go xs j f lo ((lo+hi)/2)) else lo)=i),];by_cases q:lo<hi
  ·have J:=(Nat.le_div_iff_mul_le Nat.two_pos).mpr (Nat.mul_two lo▸WC (VP q) lo)
   rw[<-U (Nat.div_lt_iff_lt_mul Nat.two_pos).mpr (Nat.mul_two hi▸Nat.add_lt_add_right q hi),[Vb q],];by_cases o:(lo+hi)/2<i
   ·rw[[Vb (h1 _ o)],C _ _ o b (U3 c (W' lo 1 f▸Wx (VJ J) f)),]
   ·rw[[U8 (I _ (Wn o))],C _ _ a (Wn o) (Wh (Vg U c)),]
  ·rw[[U8 q],Xq a (U3 b (Wn q)),]
def below_at{ps:List Nat}(hs:ps.Pairwise (· <·)){i:Nat}(hi:i<=ps.length):SetTable.below ps.toArray (slotAt ps i)=i:=by
 have o:∀{m d:Nat},m<ps.length->ps.getD m d=ps.getD m 0:=λh=>by rw[Vf,Vf,U' h];rfl
 have lt:∀{m n:Nat},m<n->n<ps.length->ps.getD m 0<ps.getD n 0:=λ{m n} h C=>by rw[[Vf,Vf,U' C,U' (VK h C)],List.pairwise_iff_getElem.mp hs m n _ C h,]
 have e:∀m d,ps.toArray.getD m d=ps.getD m d:=λm d=>by rw[Array.getD_eq_getD_getElem?,List.getElem?_toArray];rfl
 rw[Ao (λm hm=>?_) (λm hm=>?_) ps.toArray.size 0 ps.toArray.size (Vj _) hi (U4 ..),]
 ·rw[e,o (Vg hm hi)]
  induction i using Nat.casesOn with
  |zero=>exact U9 hm (VT _)
  |succ i=>exact Xy ((Nat.lt_or_eq_of_le (Wh hm)).elim (λh=>VP (lt h hi)) λh=>h▸Va _)
 ·rw[e]
  by_cases q:m<ps.length
  ·rw[o q]
   induction i using Nat.casesOn with
   |zero=>exact VT _
   |succ i=>exact VV.mpr (lt hm q)
  ·rw[[Vf,Xu (Wn q)],VB _,]
noncomputable def jx(w:World)(a:Addr)(ep:Nat)(es:Array (Int×Value)):List (Int×Value):=if bY w then es.toList else(pickOrder (w.params.setOrder a ep) es).toList
def Ap{o:Type}(l:List o):∀{i:Nat} (h:i<l.length),(l[i]::l.eraseIdx i).Perm l:=by
 induction l with
 |nil=>exactλh=>U9 h (VT _)
 |cons x l C=>exactλ{i}=>i.casesOn (λ_=>.refl _) λi h=>(List.Perm.swap ..).trans ((C (Nat.lt_of_succ_lt_succ h)).cons x)
def DH{o:Type}{next:Nat->Nat}(f:Nat):∀(k:Nat) (left:List o) (out:Array o),left.length=f->(pickOrder.go next f k left out).toList.Perm (out.toList++left):=by
 induction f with
 |zero=>exactλk left out h=>VU h▸(VR _).symm▸.refl _
 |succ f C=>
  rw[λk left out h=>?_,];have hi:next k%left.length<left.length:=Nat.mod_lt _ (h▸V5 _)
  rw[(?_:(match left[next k%left.length]?with|some x=>pickOrder.go next f (k+1) (left.eraseIdx (next k%left.length)) (out.push x)|none=>out).toList.Perm _),[U' hi],(C _ _ _ (by rw[List.length_eraseIdx_of_lt hi,h];rfl)).trans ?_,[Array.toList_push,Vo],(Ap left hi).append_left _,]
def kb{w:World}:(jx w a ep es).Perm es.toList:=by
 unfold jx;split
 ·rw[.refl _,]
 ·rw[DH es.size 0 es.toList #[] Vl,]
def DI{Q:Option (Value×Nat)->Shared->Prop}{i:Nat}(b:s.heap.get? a=some (uF w es ep fg mv ps))(J:es.size=ps.length)(d:ps.length<=2)(hs:ps.Pairwise (· <·))(hi:i<=ps.length)
 (h0:(jx w a ep es)[i]?=none->Q none s) (h1:∀e o,(jx w a ep es)[i]?=some e->(bY w=true->o=slotAt ps (i+1))->Q (some (e.2,o)) s) {o:Nat} (U:bY w=true->o=slotAt ps i):wpAny (model P0 w) A (setNext a o i ep) Q E s:=by
 rw[2 setNext,U0 (Xh b rfl (x9 J d) (U0 (j' ?_))),];unfold jx at h0 h1;cases I:bY w with
 |false=>
  simp only[I,Ws,XA] at h0 h1;simp only[Bool.not_false,Yc,bne_self_eq_false,Ws,XA,pure_bind];rw[2 setWalk,U0 (U0 (Xh b rfl (x9 J d) (U0 (j' ?_)))),[I],];simp only[Bool.not_false,Yc];rw[U0 (XO (U6 (U6 ?_))),5 (Q (Option.map _ (pickOrder (w.params.setOrder a ep) es)[i]?) s),];rw[<-Wa];cases e:(pickOrder (w.params.setOrder a ep) es).toList[i]?with
  |none=>exact h0 e
  |some x=>exact h1 x o e (λq=>by induction q)
 |true=>
  simp only[I,Yc] at h0 h1;rw[3 (U I),[U8 (show¬((!true)=true) by rw[Vu,])],5 (wpAny (model P0 w) A (if(!true&&decide (es.size>1))=true then _ else _) Q E s),[U8 (Vu)],5 (wpAny (model P0 w) A ((if(!true&&!es.isEmpty)=true then _ else _)>>=_) Q E s),[U8 (Vu)],U0 (U6 (U6 ?_)),<-f below_at hs hi,[f],5 (Q (match es[i]?,ps.toArray[i]?with|some (_,x),some j=>some (x,j+1)|_,_=>none) s),];have h:es[i]?=es.toList[i]?:=by rw[Wa]
  rw[h];cases e:es.toList[i]?with
  |none=>exact h0 e
  |some x=>
   have C:=J▸(Vl▸(VH.mp e).1:i<es.size);have k:ps.toArray[i]?=some (ps.getD i 0):=by rw[List.getElem?_toArray,U' C,Vf,U' C];rfl
   rw[[k],h1 x _ e (λ_=>rfl),]
def Aq{P:PySem.Fin->Shared->Prop}{I:Addr}{d i:Nat}(ho:s.heap.get? a=some (uF w es ep fg mv ps))(hn:es.size=ps.length)(h2:ps.length<=2)(hs:ps.Pairwise (· <·))(hi:i<=ps.length)(U:jv s.heap I a d i es.size ep)(j:bY w=true->d=slotAt ps i)
 (h1:∀e C h',(jx w a ep es)[i]?=some e->(bY w=true->C=slotAt ps (i+1))->Heap.SameBut I s.heap h'->jv h' I a C (i+1) es.size ep->P (.done (.ret e.2)) {s with heap:=h'})
 (h0:(jx w a ep es)[i]?=none->wpAny (model P0 w) A (do setField (.ref I) 2 .none;raiseNew (<-newExc (.type "StopIteration") [])) P E s):wpAny (model P0 w) A (Builtin.«set_iterator.__next__» ⟨[.ref I],[]⟩) P E s:=by
 rw[6 U,λJ=>rE J λH L M Q U=>?_,0 J,2 Builtin.«set_iterator.__next__»,5 (wpAny _ _ (fieldsOf (.ref I)>>=_) ..),U0 (wpAny_fieldsOf U rfl ?_),5 (wpAny _ _ (setEntries a>>=_) ..),2 setEntries,U0 (U0 (Xh ho rfl (x9 hn h2) (U6 ?_))),];simp only[bne_self_eq_false,Ws,XA];show wpAny _ _ (setNext a (d:Int).toNat (i:Int).toNat (ep:Int).toNat>>=_) ..;simp only[Int.toNat_natCast];rw[U0 (DI ho hn h2 hs hi (h0) (λe C y x=>?_) j),5 (wpAny _ _ (setField (.ref I) 0 (rawInt (C:Int))>>=_) ..),U0 (WX U (V5 _) λR B sa=>?_),U0 (WX B (U4 ..) λhb D G=>?_),U6 (h1 e C hb y x (sa.trans G) ⟨_,_,_,_,D⟩),]
def FP{Q:Option Value->Shared->Prop}{I:Addr}{B i:Nat}(hh:A.handled=none)(ho:s.heap.get? a=some (uF w es ep fg mv ps))(hn:es.size=ps.length)(h2:ps.length<=2)(hs:ps.Pairwise (· <·))(hi:i<=ps.length)(J:jv s.heap I a B i es.size ep)(d:bY w=true->B=slotAt ps i)
 (h1:∀e C h',(jx w a ep es)[i]?=some e->(bY w=true->C=slotAt ps (i+1))->Heap.SameBut I s.heap h'->jv h' I a C (i+1) es.size ep->Q (some e.2) {s with heap:=h'})
 (h0:(jx w a ep es)[i]?=none->∀h',Heap.ExtBut I s.heap h'->Q none {s with heap:=h'}):wpAny (model P0 w) A (pyNext (.ref I)) Q E s:=by
 have D:s.TypeIs (.ref I) "set_iterator":=by rw[rE J λ_ _ _ _ e=>?_,0 J,⟨_,e,rfl⟩,]
 rw[2 pyNext,U0 (wpAny_attempt (WI (name:=Str.ofString "__next__") D ju (V7 ju D x8 ?_ (Am _)))),Aq ho hn h2 hs hi J d (λe C h' j x hb y=>⟨_,rfl,U6 (h1 e C h' j x hb y)⟩) λj=>?_,6 J,λU=>rE U λG H L M J=>?_,0 U,U0 (XD J rfl (U4 ..) ?_),U0 ?_,];simp only[newExc,newTuple];rw[U0 (Wf ?_ (by size_fits)),U0 (m:=firstArgMember ..) (Xm (a:=Value.none) (by first|rfl|(simp only[firstArgMember];rfl)) ?_),Wf ?_ (by size_fits),];simp only[raiseNew];rw[U0 (wpAny_handled ?_),[show A.in1.handled=none from hh],U0 (U6 (wpAny_throw ?_)),U0 (wpAny_isInstance (T:="StopIteration") (b:=true) ⟨_,Vw _ rfl,rfl⟩ isSubtype_stop ?_),U6 (h0 j _ (((Vp ..).extBut.push _).push _)),]
end
def se:Slot "set_iterator" "__iter__" "set_iterator.__iter__":=
 .of (owner:="set_iterator") (n:="__iter__") (by rw[typeLookup_type,builtinLookup_eq_fast];kernel_rfl) rfl rfl rfl (.inl rfl) (by rw[isSubtype_type];kernel_rfl)
def mT:entryFor table "set_iterator.__iter__"=some Builtin.«dict_keyiterator.__iter__»:=entryFor_alias (id':="dict_keyiterator.__iter__") (by kernel_rfl) rfl (by decide+kernel) (by kernel_rfl)
def ou(a:Value):argsOk "set_iterator.__iter__" ⟨[a],[]⟩:=by unfold argsOk;kernel_rfl
section
variable{w:World}{A:Around}{E:Value->Shared->Prop}{s:Shared}{a:Addr}{es:Array (Int×Value)}{ep fg mv:Nat}{ps:List Nat}
def Mf(o:s.TypeIs (.ref a) "set")(h:Q false s):wpAny (model P0 w) A (Builtin.List.listLengthHint (.ref a)) Q E s:=by
 rw[2 Builtin.List.listLengthHint,U0 (wpAny_specialOf o PySem.F.slot_set_len.lookup ?_),];generalize pb:("set.__len__":String)=C
 wp_delta
 rw[[show splitId C=some ("set","__len__") from by subst pb;rfl],8 pb,U0 (wpAny_isInstance (T:="set") (b:=true) o (by rw[isSubtype_type];kernel_rfl) ?_),wpAny_ite_split (λI=>U9 I (Vu)) (λ_=>?_),wpAny_ite_split (λ_=>?_) (U9 rfl),U0 (wpAny_typeOf o (U6 h)),]
def HL(hh:A.handled=none)(I:Addr)(L:a≠I)(hn:es.size=ps.length)(h2:ps.length<=2)(hs:ps.Pairwise (· <·)):
 Walks P0 w A I [I,a] [I] es.size (λi v=>∃e,(jx w a ep es)[i]?=some e/\v=e.2) (λi h=>∃J,jv h I a J i es.size ep/\(bY w=true->J=slotAt ps i)/\i<=ps.length/\h.get? a=some (uF w es ep fg mv ps)) where
 sub:=λb hb=>by simp at hb;simp[hb]
 frame:=λi h B ⟨J,⟨P,R,S,W,U⟩,h1,h2,x⟩ X=>⟨J,⟨P,R,S,W,X I (.head _) _ U⟩,h1,h2,X a (.tail _ (.head _)) _ x⟩
 item:=λi s Q E hi ⟨J,U,h1,d,x⟩ D=>by rw[FP hh x hn h2 hs d U h1 (λe G B y C hb H=>D e.2 B s.toks ⟨e,y,rfl⟩ ⟨G,H,C,by rw[ax [.eq af aj,.lt aC af] (.le (.p aC aF) aj) (.l [1,1,0,1]) tt [_,_,_] hn hi,],(hb.2 a L).trans x⟩ λb o j e=>(hb.2 b (λq=>j (by simp[q]))).trans e) λy=>?_,<-this List.getElem?_eq_none_iff.mp y,];rw[(kb (w:=w) (a:=a) (ep:=ep) (es:=es)).length_eq,Vl] at this;rw[U9 hi (VV.mpr this),]
 done:=λs Q E ⟨J,U,h1,d,x⟩ D=>by rw[FP hh x hn h2 hs d U h1 (λe G B y C hb H=>?_) λy B hb=>D B s.toks λb o j e=>hb b o (λq=>j (by simp[q])) e,<-this (VH.mp y).1,];rw[(kb (w:=w) (a:=a) (ep:=ep) (es:=es)).length_eq,Vl] at this;rw[U9 this (VB _),]
 self:=λi s Q E ⟨J,⟨P,R,S,W,U⟩,_⟩ D=>by have M:s.TypeIs (.ref I) "set_iterator":=⟨_,U,rfl⟩;rw[wpAny_pyIter_slot M se (V7 se M mT ?_ (ou _)),5 (wpAny _ _ (ret (.ref I)) _ _ s),U6 ⟨_,rfl,"set_iterator",_,M,ju.lookup,D⟩,]
def Pw(hn:es.size=ps.length)(h2:ps.length<=2)(hs:ps.Pairwise (· <·)):KdlSrc P0 w "set" a a es.size (λi v=>∃e,(jx w a ep es)[i]?=some e/\v=e.2) (λh=>h.get? a=some (uF w es ep fg mv ps)) where
 type:=λ_ h=>⟨_,h,rfl⟩
 there:=λ_ h=>⟨Vq h,Vq h⟩
 keep:=λ_ _ h d=>d a (.inl rfl) _ h
 notList:=rfl
 notTuple:=rfl
 hint:=λ_ _ _ _ h j=>Mf ⟨_,h,rfl⟩ j
 iter:=λA s hh h=>by rw[<-ne Vt (Vq h),⟨{cls:=.type "set_iterator",dict:=none,data:=.fields #[rawInt 0,rawInt 0,.ref a,rawInt (es.size:Int),rawInt (ep:Int)],slots:=#[]},_,λE Q x=>?_,HL (fg:=fg) (mv:=mv) hh _ ne hn h2 hs,⟨0,⟨_,_,_,_,Vw _ rfl⟩,λ_=>rfl,Vj _,Vh _ h⟩⟩,HK h hn h2 x,]
end
section
variable{g:G0}{A:Around}{env:Env}{c:CS}{E:V->CS->Prop}
def HM{x:V}{ns:List Nat}{j:Nat}{Q:V->CS->Prop}(f:b8 A j)(i:SeqAt c x (ns.map vi))(k:∀y∈ns,y<8)(l:ns.length<=2)(h:∀a,c.σ a=none->Q (.loc a) ⟨c.m,c.σ.set a ⟨.dI,.set (ns.foldl cu [])⟩⟩):
 CA g A env (.raw (.type "set")) [x] c Q E:=j0 λb p q F Z s r st=>by
 rw[jX p (st.seq i q r) λa z n t d B=>?_,];have e:ns.map vi=(ns.map Int.ofNat).map V.int:=by simp[W3]
 rw[e] at d;rw[Me f.hh ⟨_,t,rfl,n,rfl⟩ d.ints k l λD u I v=>?_,6 I,λC=>ah C λo w I=>?_,0 C,aV (st.Ag v (λo e=>U9 (Vq e) (VB _)) (y:=⟨.dI,.set (ns.foldl cu [])⟩) w I u) λJ U=>⟨F,.loc _,_,.refl _,rfl,U,h _ J⟩,]
def mU(hr:b8 A j)(ha:c.σ a=some ⟨t,.set u⟩)(B:u.length<=2)(hs:u.Pairwise (· <·))(h:Q (.lst (u.map vi)) c):
 CA g A env (.raw (.builtin "sorted")) [.loc a] c Q E:=λF₀ fv as i1 i2=>T.Pn (λF Z s hF st=>by
 cases(show fv=.builtin "sorted" from i1);rw[cp i2 λ_ _ D G H=>?_,0 i2,3 D,3 G,3 H,aB λR_ L=>ah (st.obj _ _ ha) λo ho U=>jW U λz f fg mv M d=>ah d λts N m=>L ?_,0 L R_ U d,3 M,];have hn:z.size=u.length:=by rw[<-Vl,m];simp[N]
 rw[fm (kdu_collect (Pw (w:=g.w) (fg:=fg) (mv:=mv) (ep:=f) hn B hs) (show A.in1.handled=none from hr.hh) ho (by rw[[hn,VN],kl B,]) λh' tk q J C=>?_),<-I kb (w:=g.w) (a:=a) (ep:=f) (es:=z),];have P:q.toList=(jx g.w a f z).map (·.2):=by
  apply List.ext_getElem?;intro i;rw[Wa,WD];cases e:q[i]?with
  |none=>
   have:=Array.getElem?_eq_none_iff.mp e;rw[C.1] at this;rw[List.getElem?_eq_none_iff.mpr (by rw[[I.length_eq,Vl],this,])];rfl
  |some v=>
   rw[ah (C.2 i v e) λx e1 R=>?_,3 R,[e1],];rfl
 have key:∀{l:List (Int×Value)},(∀e∈l,∃(k:Nat) (t:Tok),e=((k:Int),Value.int (k:Int) t))->IntsAre (l.map (·.2)) (l.map (·.1)):=by
  intro l
  induction l with
  |nil=>intro _;exact .nil
  |cons e l ih=>
   intro hl;rw[dh (hl e (.head _)) λk t S=>?_,3 S,.cons _ _ (ih λe he=>hl e (.tail _ he)),]
 have hI:IntsAre q.toList ((jx g.w a f z).map (·.1)):=by rw[[P],key λe he=>?_,<-this I.mem_iff.mp he,];rw[m] at this;rw[ah (Vn.mp this) λp _ W=>?_,3 W,⟨p.1,p.2,rfl⟩,]
 have S':((jx g.w a f z).map (·.1)).Perm (u.map Int.ofNat):=by rw[(I.map _).trans ?_,[m,VD],];have:((λx:Int×Value=>x.1)∘λp:Nat×Tok=>((p.1:Int),Value.int (p.1:Int) p.2))=Int.ofNat∘(·.1):=rfl;rw[this,<-VD,List.map_fst_zip (ax [.eq af aj] (.le aj af) (.l [1,0,1]) tt [_,_] N)]
 rw[⟨_,hI,by rw[[Vl,C.1],ax [.le af gI,.eq aj af] (.lt aj (.k 64)) (.l [1,1,1]) tt [_,_] B hn,],λout SS Ta b a1 a2 a3 a4 a5 a6=>?_⟩,6 a6,λX=>aw X λn a6=>?_,0 X,bL (pq (a2.trans S') a3) λr Y r1 r2=>?_,3 Y,];obtain rfl:r=u:=XZ (le:=(·<=·)) (λa b _ _ h1 B=>by rw[ax [.le af aj,.le aj af] (.eq af aj) (.s 0 (.l [1,0,1]) (.l [1,1])) tt [_,_] h1 B,]) r2 (hs.imp λh=>by rw[ax [.lt af aj] (.le af aj) (.l [1,1]) tt [_,_] h,]) r1;have hle:∀o,s.heap.get? b≠some o:=λo e=>U9 (Vq (J _ _ e)) (VV.mpr a4);have e:(r.map Int.ofNat).map V.int=r.map vi:=by rw[VD ..,]
 refine aV (st.Ag (h':=Ta) (λb o e=>a5 b o (J b o e)) hle (y:=⟨.dI,.list (r.map vi)⟩) a6 ⟨_,_,rfl,e▸IsL.lT a1⟩ tk) λAa xh=>⟨F,.loc b,_,.refl _,rfl,xh,b,.dI,_,_,rfl,rfl,Aa,h⟩)
end
section
variable{g:G0}{A:Around}{env:Env}{c:CS}{E:V->CS->Prop}
end
def HN(P:Params):makesIn (KR P) 176=true:=by kernel_rfl
def HO(P:Params):makesIn (KR P) 292=true:=by kernel_rfl
def HP(P:Params):makesIn (KR P) 374=true:=by kernel_rfl
def HQ(P:Params):makesIn (KR P) 578=true:=by kernel_rfl
def HR(P:Params):findIn (KR P) (.ref 176) "__init__"=some (some (.ref 140)):=by kernel_rfl
def HS(P:Params):findIn (KR P) (.ref 292) "__init__"=some (some (.ref 204)):=by kernel_rfl
def HT(P:Params):findIn (KR P) (.ref 374) "__init__"=some (some (.ref 310)):=by kernel_rfl
def HU(P:Params):findIn (KR P) (.ref 578) "__init__"=some (some (.ref 526)):=by kernel_rfl
def HV(P:Params):typeIn (KR P) (.ref 140)=some (.type "function"):=by kernel_rfl
def HW(P:Params):typeIn (KR P) (.ref 204)=some (.type "function"):=by kernel_rfl
def HX(P:Params):typeIn (KR P) (.ref 310)=some (.type "function"):=by kernel_rfl
def HY(P:Params):typeIn (KR P) (.ref 526)=some (.type "function"):=by kernel_rfl
def HZ(P:Params):typeIn (KR P) (.ref 392)=some (.type "function"):=by kernel_rfl
def H0(P:Params):typeIn (KR P) (.ref 421)=some (.type "function"):=by kernel_rfl
def H3(P:Params):typeIn (KR P) (.ref 449)=some (.type "function"):=by kernel_rfl
noncomputable def uG(K:Frag)(fd:FuncData)(D:Addr):Bool:=
 (match fd.code with|.ref C=>(match K.lookup C with|some ⟨_,_,.fields I,_⟩=>(match(I[2]?:Option Value) with|some (Value.str o _)=>(P0.main.file:Str)==o|_=>false)|_=>false)|_=>false)&&
 (match fd.closure with|[(n,J)]=>n==("__class__":Str)&&(match K.lookup J with|some ⟨_,_,.cell (some (.ref d)),_⟩=>d==D|_=>false)|_=>false)&&(clsIn K D).isSome&&
 (match(fd.params.posonlyargs++fd.params.args).head? with|some U=>U.arg==("self":Str)|_=>false)
def gV{K:Frag}{f:Addr}{fd:FuncData}{body:List Stmt}{names:List Str}{S:Scope}{D:Addr}(i:fN K f fd body names S)(e:uG K fd D=true)(u:S.names.lookup ("super":Str)=some .globalImplicit)(n2:S.names.lookup ("__class__":Str)=some .free)
 (v:S.names.lookup ("self":Str)=some .local):pw K f fd S D:=by
 unfold uG at e;simp only[W8] at e;rw[aV e λI j=>aV I λJ w=>aV J λC o=>?_,0 e I J,⟨i.at_,?_,?_,?_,We.mp w,u,n2,v,i.scope▸i.kind⟩,]
 ·split at j
  ·rw[4 x h,⟨x,h,Wb.mp j⟩,]
  ·rw[7 j,]
 ·split at C
  ·rw[4 k h,]
   split at C
   ·rw[4 l m y p b,]
    split at C
    ·rw[4 U z A,]
     exact⟨k,l,m,y,p,U,z,h,b,A,C⟩
    ·rw[7 C,]
   ·rw[7 C,]
  ·rw[7 C,]
 ·split at o
  ·rw[4 n B h,]
   simp only[W8,Wb] at o;rw[6 o,λa=>aV a λq o=>?_,0 a,3 q,];split at o
   ·rw[4 E r d t b,]
    rw[Wb.mp o] at b;exact⟨B,E,r,t,h,b⟩
   ·rw[7 o,]
  ·rw[7 o,]
def H4(P:Params):uG (KR P) eT 578=true:=by kernel_rfl
def H5(P:Params):uG (KR P) dw 578=true:=by kernel_rfl
def H6(P:Params):uG (KR P) eU 578=true:=by kernel_rfl
def gW(P:Params):nsIn (KR P) mainGlobals "super"=some none:=by kernel_rfl
def sf(P:Params):nsIn (KR P) cStatics "thirdparty.any"=some none:=by kernel_rfl
def uH(P:Params):mroIn (KR P) 578 (.ref 578)=some true:=by kernel_rfl
def DJ(P:Params):ks_superIn (KR P) 578 578 "__init__"=some (some (.ref 392)):=by kernel_rfl
def DK(P:Params):ks_superIn (KR P) 578 578 "look_at"=some (some (.ref 421)):=by kernel_rfl
def DM(P:Params):ks_superIn (KR P) 578 578 "join"=some (some (.ref 449)):=by kernel_rfl
def H7(P:Params):fnIn (KR P) 392=true:=by kernel_rfl
def H8(P:Params):fnIn (KR P) 421=true:=by kernel_rfl
def H9(P:Params):fnIn (KR P) 449=true:=by kernel_rfl
section
variable{g:G0}{A:Around}{env:Env}{c:CS}{E:V->CS->Prop}
end
section
variable{w:World}{A:Around}{E:Value->Shared->Prop}{s:Shared}
def mV(C:s.heap.IsTupleIter J t i)(B:s.heap.IsTuple t items)(D:items[i]?=some x)
 (G:∀h',h'.IsTupleIter J t (i+1)->Heap.SameBut J s.heap h'->Q x {s with heap:=h'}):wpAny (model P0 w) A (Builtin.SmallTypes.nextOf (.ref J)) Q E s:=by
 rw[bL (id C) λo ho hc U=>bL B λH j _ d=>aw d λL y=>?_,0 B d,2 Builtin.SmallTypes.nextOf,U0 (WI (name:=Str.ofString "__next__") C.typeIs Xb (V7 Xb C.typeIs F.entry_tuple_iterator_next ?_ (F.args_tuple_iterator_next_1 _))),5 (wpAny _ _ (field (.ref J) 0>>=_) _ _ s),U0 (V1 ho U (x:=.ref t) rfl ?_),5 (wpAny _ _ (if(Value.ref t==Value.none)=true then _ else _) _ _ s),[U8 (show¬((Value.ref t==Value.none)=true) from Vu)],5 (wpAny _ _ (field (.ref J) 1>>=_) _ _ s),U0 (V1 ho U (x:=.int i 0) rfl ?_),5 (wpAny _ _ (seqItems? (.ref t)>>=_) _ _ s),U0 (Xa j y ?_),];simp only[Int.toNat_natCast,D];rw[U0 (XD ho U (Va _) (U6 ⟨x,rfl,U6 (G _ ?_ (Vp ..))⟩)),⟨_,VM _ ho (Obj.isFreed_of_fields (Obj.data_mapFields U _)),(Obj.cls_mapFields ..).trans hc,by rw[Obj.data_mapFields U];rfl⟩,]
def sh(hh:A.handled=none)(C:s.heap.IsTupleIter U t i)(B:s.heap.IsTuple t items)(D:items[i]?=none)
 (G:∀h' e,Heap.ExtBut U s.heap h'->(∃o,h'.get? e=some o/\o.cls=.type "StopIteration")->E (.ref e) {s with heap:=h'}):wpAny (model P0 w) A (Builtin.SmallTypes.nextOf (.ref U)) Q E s:=by
 rw[bL (id C) λo ho hc d=>bL B λH j _ J=>aw J λL y=>?_,0 B J,2 Builtin.SmallTypes.nextOf,U0 (WI (name:=Str.ofString "__next__") C.typeIs Xb (V7 Xb C.typeIs F.entry_tuple_iterator_next ?_ (F.args_tuple_iterator_next_1 _))),5 (wpAny _ _ (field (.ref U) 0>>=_) _ _ s),U0 (V1 ho d (x:=.ref t) rfl ?_),5 (wpAny _ _ (if(Value.ref t==Value.none)=true then _ else _) _ _ s),[U8 (show¬((Value.ref t==Value.none)=true) from Vu)],5 (wpAny _ _ (field (.ref U) 1>>=_) _ _ s),U0 (V1 ho d (x:=.int i 0) rfl ?_),5 (wpAny _ _ (seqItems? (.ref t)>>=_) _ _ s),U0 (Xa j y ?_),];simp only[Int.toNat_natCast,D];rw[U0 (XI (U0 (XD ho d (VE _) ?_))),5 (wpAny _ _ (newExc (.type "StopIteration") []>>=_) ..),U0 ?_,];simp only[newExc,newTuple];rw[U0 (Wf ?_ (by size_fits)),U0 (m:=firstArgMember ..) (Xm (a:=Value.none) (by first|rfl|(simp only[firstArgMember];rfl)) ?_),Wf ?_ (by size_fits),];simp only[raiseNew];rw[U0 (wpAny_handled ?_),]
 first|rw[show A.in1.handled=none from hh]|rw[hh]
 rw[U0 (U6 (wpAny_throw ?_)),G _ _ (((Vp ..).extBut.push _).push _) ⟨_,Vw _ rfl,rfl⟩,]
structure ZS(z TI TO i1 i2 l1 l2:Addr)(f0:Value)(k:Nat)(xs ys:Array Value)(h:Heap):Prop where
 z:IsZip h z TI TO f0
 ti:IsPair h TI (.ref i1) (.ref i2)
 to:∃a b,IsPair h TO a b
 h1:h.IsTupleIter i1 l1 k
 h2:h.IsTupleIter i2 l2 k
 qy:h.IsTuple l1 xs
 Ar:h.IsTuple l2 ys
variable{z TI TO i1 i2 l1 l2:Addr}{k:Nat}{xs ys:Array Value}
def ZS.at(x:ZS z TI TO i1 i2 l1 l2 I k xs ys h)(C:∀b∈[z,TI,TO,i1,i2,l1,l2],∀o,h.get? b=some o->h'.get? b=some o):ZS z TI TO i1 i2 l1 l2 I k xs ys h':=
 ⟨C z (.head _) _ x.z,C TI (.tail _ (.head _)) _ x.ti,by rw[dh x.to λa b q=>?_,⟨a,b,C TO (.tail _ (.tail _ (.head _))) _ q⟩,],x.h1.at λo e=>C i1 (.tail _ (.tail _ (.tail _ (.head _)))) o e,x.h2.at λo e=>C i2 (.tail _ (.tail _ (.tail _ (.tail _ (.head _))))) o e,x.qy.at λo e=>C l1 (.tail _ (.tail _ (.tail _ (.tail _ (.tail _ (.head _)))))) o e,x.Ar.at λo e=>C l2 (.tail _ (.tail _ (.tail _ (.tail _ (.tail _ (.tail _ (.head _))))))) o e⟩
def Au{x y:Value}{Q:Value->Shared->Prop}(D:ZipApart z TI TO i1 i2 l1 l2)(hs:ZS z TI TO i1 i2 l1 l2 .none k xs ys s.heap)(hx:xs[k]?=some x)(hy:ys[k]?=some y)
 (hQ:∀h',ZS z TI TO i1 i2 l1 l2 (rawInt s.heap.objs.size) (k+1) xs ys h'->IsPair h' s.heap.objs.size x y->(∀c o,c≠z->c≠TO->c≠i1->c≠i2->s.heap.get? c=some o->h'.get? c=some o)->Q (.ref s.heap.objs.size) {s with heap:=h'}):
 wpAny (model P0 w) A (Builtin.«zip.__next__» ⟨[.ref z],[]⟩) (λfin s'=>∃v,fin=.done (.ret v)/\Q v s') E s:=by
 rw[aB λR_ mM=>?_,];obtain⟨hz,RE,⟨a,b,RG⟩,h1,h2,qy,Ar⟩:=hs;rw[mM ?_,0 mM R_,5 (wpAny _ _ (field (.ref z) 2>>=_) ..),U0 (V1 hz rfl (x:=.bool false) rfl ?_),5 (wpAny _ _ (field (.ref z) 3>>=_) ..),U0 (V1 hz rfl (x:=.ref TI) rfl ?_),U0 (Xa RE rfl ?_),5 (wpAny _ _ (Builtin.SmallTypes.ownedTupleIsFree (.ref z)>>=_) ..),U0 ?_,2 Builtin.SmallTypes.ownedTupleIsFree,U0 (V1 hz rfl (x:=.none) rfl (U6 ?_)),];simp only[Yc];rw[U0 (XI ?_),U0 (V1 hz rfl (x:=.ref TO) rfl ?_),U0 (WX hz (V5 _) λDs P J=>?_),]
 replace P:IsZip Ds z TI TO .ellipsis:=P
 rw[U0 ?_,];simp only[XU,List.zipIdx_nil,List.forIn_cons,List.forIn_nil];rw[U0 (U0 (wpAny_onRaise ?_)),5 (wpAny _ _ (Builtin.SmallTypes.nextOf (.ref i1)>>=_) ..),U0 (mV (h1.extBut J.extBut D.i1z) (qy.extBut J.extBut D.l1z) hx λzy Mg U=>U6 ?_),];have S:IsPair zy TO a b:=U.extBut _ _ D.TOi1 (J.extBut _ _ D.TOz RG);rw[U0 (Xa S rfl ?_),U0 (wpAny_updateSeq_pair S λPx H d=>?_),]
 replace H:IsPair Px TO x b:=H
 rw[U0 (Yb (U6 ?_)),U0 (U0 (wpAny_onRaise ?_)),5 (wpAny _ _ (Builtin.SmallTypes.nextOf (.ref i2)>>=_) ..),U0 (mV (((h2.extBut J.extBut D.i2z).extBut U.extBut D.i12.symm).extBut d.extBut D.TOi2.symm) (((Ar.extBut J.extBut D.l2z).extBut U.extBut D.l2i1).extBut d.extBut D.l2TO) hy λPy Mh B=>U6 ?_),];have W:IsPair Py TO x b:=B.extBut _ _ D.TOi2 H;rw[U0 (Xa W rfl ?_),U0 (wpAny_updateSeq_pair W λC j G=>?_),]
 replace j:IsPair C TO x y:=j
 rw[U0 (Yb (U6 (U6 ?_))),U0 (Xa j rfl ?_),U0 (wpAny_newTuple ?_),];have jy:C.objs.size=s.heap.objs.size:=by rw[G.1,B.1,d.1,U.1,J.1]
 have Y:IsZip C z TI TO .ellipsis:=G.extBut _ _ D.TOz.symm (B.extBut _ _ D.i2z.symm (d.extBut _ _ D.TOz.symm (U.extBut _ _ D.i1z.symm P)));have L:∀c o,c≠z->c≠TO->c≠i1->c≠i2->s.heap.get? c=some o->C.get? c=some o:=λc o c1 c2 c3 c4 e=>G.extBut _ _ c2 (B.extBut _ _ c4 (d.extBut _ _ c2 (U.extBut _ _ c3 (J.extBut _ _ c1 e))));have Mi:C.IsTupleIter i1 l1 (k+1):=((Mg.extBut d.extBut D.TOi1.symm).extBut B.extBut D.i12).extBut G.extBut D.TOi1.symm;have Mj:C.IsTupleIter i2 l2 (k+1):=Mh.extBut G.extBut D.TOi2.symm;have Mk:z<C.objs.size:=Vq Y;rw[5 (wpAny _ _ (Builtin.SmallTypes.ownedTupleHandOut (.ref z) (.ref C.objs.size)>>=_) ..),U0 ?_,2 Builtin.SmallTypes.ownedTupleHandOut,];have Ml:IsZip (C.push {cls:=.type "tuple",data:=.seq #[x,y]}) z TI TO .ellipsis:=Vh _ Y;rw[U0 (WX Ml (V5 _) λPz R FQ=>?_),]
 replace R:IsZip Pz z TI TO (rawInt C.objs.size):=R
 rw[WX R (U4 ..) λX M FR=>?_,]
 replace M:IsZip X z TI TO (rawInt C.objs.size):=M
 have up:∀c o,c≠z->C.get? c=some o->X.get? c=some o:=λc o c1 e=>FR.extBut _ _ c1 (FQ.extBut _ _ c1 (Vh _ e));have FT:IsPair X C.objs.size x y:=FR.extBut _ _ (WO Mk) (FQ.extBut _ _ (WO Mk) (Vw _ rfl));rw[jy] at M FT;rw[U6 ⟨_,rfl,?_⟩,5 (Q (.ref C.objs.size) _),[jy],];exact hQ X ⟨M,up _ _ D.TIz (L _ _ D.TIz D.TITO D.TIi1 D.TIi2 RE),⟨_,_,up _ _ D.TOz j⟩,Mi.at λo e=>up _ o D.i1z e,Mj.at λo e=>up _ o D.i2z e,qy.at λo e=>up _ o D.l1z (L _ o D.l1z D.l1TO D.l1i1 D.l1i2 e),Ar.at λo e=>up _ o D.l2z (L _ o D.l2z D.l2TO D.l2i1 D.l2i2 e)⟩
  FT λc o c1 c2 c3 c4 e=>up c o c1 (L c o c1 c2 c3 c4 e)
def DN(hh:A.handled=none)(D:ZipApart z TI TO i1 i2 l1 l2)(hs:ZS z TI TO i1 i2 l1 l2 .none k xs ys s.heap)(hx:xs[k]?=none)
 (hE:∀h' e,(∀c o,c≠z->c≠TO->c≠i1->c≠i2->s.heap.get? c=some o->h'.get? c=some o)->(∃o,h'.get? e=some o/\o.cls=.type "StopIteration")->E (.ref e) {s with heap:=h'}):
 wpAny (model P0 w) A (Builtin.«zip.__next__» ⟨[.ref z],[]⟩) Q E s:=by
 rw[aB λR_ B=>?_,];obtain⟨G,P,⟨a,b,RG⟩,h1,h2,qy,Ar⟩:=hs;rw[B ?_,0 B R_,5 (wpAny _ _ (field (.ref z) 2>>=_) ..),U0 (V1 G rfl (x:=.bool false) rfl ?_),5 (wpAny _ _ (field (.ref z) 3>>=_) ..),U0 (V1 G rfl (x:=.ref TI) rfl ?_),U0 (Xa P rfl ?_),5 (wpAny _ _ (Builtin.SmallTypes.ownedTupleIsFree (.ref z)>>=_) ..),U0 ?_,2 Builtin.SmallTypes.ownedTupleIsFree,U0 (V1 G rfl (x:=.none) rfl (U6 ?_)),];simp only[Yc];rw[U0 (XI ?_),U0 (V1 G rfl (x:=.ref TO) rfl ?_),U0 (WX G (V5 _) λH C J=>?_),]
 replace C:IsZip H z TI TO .ellipsis:=C
 rw[U0 ?_,];simp only[XU,List.zipIdx_nil,List.forIn_cons,List.forIn_nil];rw[U0 (U0 (wpAny_onRaise ?_)),5 (wpAny _ _ (Builtin.SmallTypes.nextOf (.ref i1)>>=_) ..),U0 (sh hh (h1.extBut J.extBut D.i1z) (qy.extBut J.extBut D.l1z) hx λW e U X=>?_),ah X λoe y L=>?_,0 X,<-d U _ _ D.i1z.symm C,];have R:e≠z:=λx=>by subst x;rw[d] at y;rw[1 y,];simp at L
 rw[WX d (V5 _) λM _ j=>hE M e (λc o Y _ c3 _ x=>j.extBut _ _ Y (U _ _ c3 (J.extBut _ _ Y x))) ⟨oe,j.extBut _ _ R y,L⟩,]
end
section
variable{w:World}{A:Around}{E:Value->Shared->Prop}{s:Shared}{z TI TO i1 i2 l1 l2:Addr}{k:Nat}{xs ys:Array Value}
def ow(D:ZipApart z TI TO i1 i2 l1 l2)(hs:ZS z TI TO i1 i2 l1 l2 .none k xs ys s.heap)(J:xs[k]?=some x)(U:ys[k]?=some y)
 (d:∀h',ZS z TI TO i1 i2 l1 l2 (rawInt s.heap.objs.size) (k+1) xs ys h'->IsPair h' s.heap.objs.size x y->(∀c o,c≠z->c≠TO->c≠i1->c≠i2->s.heap.get? c=some o->h'.get? c=some o)->Q (some (.ref s.heap.objs.size)) {s with heap:=h'}):
 wpAny (model P0 w) A (pyNext (.ref z)) Q E s:=by
 have C:s.TypeIs (.ref z) "zip":=⟨_,hs.z,rfl⟩;rw[2 pyNext,U0 (wpAny_attempt (WI (name:=Str.ofString "__next__") C F.slot_zip_next (V7 F.slot_zip_next C F.entry_zip_next (Au D hs J U λh' j B G=>U6 (d h' j B G)) (F.args_zip_next_1 _)))),]
def qz(hh:A.handled=none)(D:ZipApart z TI TO i1 i2 l1 l2)(hs:ZS z TI TO i1 i2 l1 l2 .none k xs ys s.heap)(U:xs[k]?=none)
 (d:∀h',(∀c o,c≠z->c≠TO->c≠i1->c≠i2->s.heap.get? c=some o->h'.get? c=some o)->Q none {s with heap:=h'}):wpAny (model P0 w) A (pyNext (.ref z)) Q E s:=by
 have C:s.TypeIs (.ref z) "zip":=⟨_,hs.z,rfl⟩;rw[2 pyNext,U0 (wpAny_attempt (WI (name:=Str.ofString "__next__") C F.slot_zip_next (V7 F.slot_zip_next C F.entry_zip_next (DN hh D hs U λh' e j J=>?_) (F.args_zip_next_1 _)))),ah J λo ho hc=>?_,0 J,U0 (wpAny_isInstance (T:="StopIteration") (b:=true) ⟨o,ho,hc⟩ isSubtype_stop ?_),U6 (d _ j),]
end
noncomputable def uI(X Y:List V):List V:=List.zipWith (λx y=>V.tup [x,y]) X Y
def dv.zip(hh:A.handled=none)(D:ZipApart z TI G H L l1 l2)(hX:IsL F X xs.toList)(hY:IsL F Y ys.toList)(hl:X.length=Y.length):
 dv g A (.Tuple elts kk pos) z [z,TI,G,H,L,l1,l2] [z,G,H,L] F (uI X Y) (λi h=>ZS z TI G H L l1 l2 .none i xs ys h) where
 sub b hb:=by simp at hb⊢;rcases hb with rfl|rfl|rfl|rfl<;>simp
 live i h hs b hb:=by
  rw[dh hs.to λa c q=>?_,];simp at hb;rcases hb with rfl|rfl|rfl|rfl|rfl|rfl|rfl
  ·exact⟨_,hs.z⟩
  ·exact⟨_,hs.ti⟩
  ·exact⟨_,q⟩
  ·exact⟨_,hs.h1.choose_spec.1⟩
  ·exact⟨_,hs.h2.choose_spec.1⟩
  ·exact⟨_,hs.qy.choose_spec.1⟩
  ·exact⟨_,hs.Ar.choose_spec.1⟩
 mC i h hs b hb o e v q:=by
  rw[dh hs.to λa c q0=>bL hs.h1 λo1 a1 _ a2=>?_,bL hs.h2 λo2 b1 _ b2=>?_,];simp at hb;rcases hb with rfl|rfl|rfl|rfl
  ·rw[hs.z] at e;rw[1 e,7 q,]
  ·rw[q0] at e;rw[1 e,7 q,]
  ·rw[a1] at e;rw[1 e,];rw[a2] at q;rw[7 q,]
  ·rw[b1] at e;rw[1 e,];rw[b2] at q;rw[7 q,]
 frame i h W hs d:=hs.at d
 item i V0 s Q E hi U j:=by
  unfold uI at hi;rw[List.getElem?_zipWith] at hi;cases B:X[i]?with
  |none=>rw[B] at hi;injection hi
  |some x=>
   cases hy:Y[i]?with
   |none=>rw[B,hy] at hi;injection hi
   |some y=>
    rw[B,hy] at hi;rw[1 hi,ah (hX.get B) λvx ex ix=>ah (hY.get hy) λvy ey iy=>?_,];rw[Wa] at ex ey;rw[ow D U ex ey λW J hp d=>⟨_,rfl,wpAny_letOwnedTupleGo_zip J.z λh2 Tc C=>?_⟩,<-Td Vq U.z,j _ h2 s.toks (.inr ⟨_,#[vx,vy],_,[x,y],rfl,Va _,C.extBut _ _ (WO Td) hp,rfl,⟨_,_,rfl,ix,_,_,rfl,iy,rfl⟩⟩) ?_ λb o hb e=>?_,]
    ·rw[dh J.to λa c q=>⟨Tc,C.extBut _ _ D.TIz J.ti,⟨a,c,C.extBut _ _ D.TOz q⟩,J.h1.extBut C.extBut D.i1z,J.h2.extBut C.extBut D.i2z,J.qy.extBut C.extBut D.l1z,J.Ar.extBut C.extBut D.l2z⟩,]
    ·simp at hb
     rw[C.extBut _ _ hb.1 (d b o hb.1 hb.2.1 hb.2.2.1 hb.2.2.2 e),]
 done s Q E U j:=by
  have jy:xs.size=X.length:=by rw[<-hX.length];rfl
  rw[qz hh D U (Array.getElem?_eq_none ?_) λW d=>j W s.toks λb o hb e=>?_,]
  ·rw[2 uI,[List.length_zipWith,jy],ax [.eq af aj,.mn aC af aj] (.le af aC) (.s 2 (.l [1,1]) (.l [1,1,1])) tt [_,_,_] hl rfl,]
  ·simp at hb
   rw[d b o hb.1 hb.2.1 hb.2.2.1 hb.2.2.2 e,]
 self i s Q E U j:=wpAny_pyIter_zip U.z j
noncomputable abbrev gG(l:Addr):Obj:={cls:=.type "tuple_iterator",data:=.fields #[.ref l,.int 0 0]}
noncomputable abbrev tV(a b:Value):Obj:={cls:=.type "tuple",data:=.seq #[a,b]}
noncomputable abbrev PA(J U:Addr):Obj:={cls:=.type "zip",data:=.fields #[.none,.bool false,.bool false,.ref J,.ref U]}
noncomputable abbrev zH(h:Heap)(o l2:Addr):Heap:=((((h.push (gG o)).push (gG l2)).push (tV (.ref h.objs.size) (.ref (h.push (gG o)).objs.size))).push (tV .none .none)).push (PA ((h.push (gG o)).push (gG l2)).objs.size (((h.push (gG o)).push (gG l2)).push (tV (.ref h.objs.size) (.ref (h.push (gG o)).objs.size))).objs.size)
def uJ(C l2:Addr)(xs y:Array Value):
 Meets (Builtin.«zip.__new__» ⟨[.type "zip",.ref C,.ref l2],[]⟩) (λ_ R s=>s.heap.IsTuple C xs/\s.heap.IsTuple l2 y/\
  R (.ok (.ret (.ref (((((s.heap.push (gG C)).push (gG l2)).push (tV (.ref s.heap.objs.size) (.ref (s.heap.push (gG C)).objs.size))).push (tV .none .none)).objs.size)))) {s with heap:=zH s.heap C l2}):=
 .of_wp λB w A R s h=>by
  rw[aB λH J=>?_,];obtain⟨hp,g,d,D,os⟩:=s;rw[J ?_,0 J H,6 h,λU=>dG U λqy Ar h=>?_,0 U,<-G sub_zip,];have j:Heap.IsTuple (Shared.heap ⟨hp,g,d,D,os⟩) C xs:=qy;have x:Heap.IsTuple (Shared.heap ⟨hp.push (gG C),g,d,D,os⟩) l2 y:=Heap.IsTuple.push Ar _
  wp_walk using wpAny_pyIter_tuple j,wpAny_pyIter_tuple x
  exact⟨_,rfl,h⟩
def ya(qy:s.heap.IsTuple C xs)(Ar:s.heap.IsTuple l2 J)
 (h:Q (.ref (((((s.heap.push (gG C)).push (gG l2)).push (tV (.ref s.heap.objs.size) (.ref (s.heap.push (gG C)).objs.size))).push (tV .none .none)).objs.size)) {s with heap:=zH s.heap C l2}):
 wpAny (model P0 w) A (call (.type "zip") [.ref C,.ref l2]) Q E s:=
 callType_new F.called_zip rfl (F.typeCall_zip_2 ..) (F.newCall_zip_2 ..) (λobj=>F.args_object_init_3 obj ..) F.entry_zip_new (uJ C l2 xs J) ⟨qy,Ar,(⟨⟨_,Vw _ rfl,rfl⟩,h⟩:_/\_)⟩
noncomputable def yY(X:List V):OK:=.gen λF o=>∃l C n,F l=some (cT C n)/\IsL F X C.toList/\o=gG l
noncomputable def KZ:OK:=.gen λF o=>o=tV .none .none
noncomputable def kZ(I J U:Addr):OK:=.gen λF o=>∃C,F C=some (tV (.ref I) (.ref J))/\o=PA C U
def uK(st:St g ff env F Z c s)(h:Is F (.tup X) v):∃a vs n,v=.ref a/\F a=some (cT vs n)/\IsL F X vs.toList/\s.heap.IsTuple a vs:=by rw[iU h λa o vs n C I J b U=>?_,0 h,3 C,8 J,⟨a,vs,n,rfl,I,U,_,st.fr _ _ I,rfl,n,rfl⟩,]
section
variable{g:G0}{A:Around}{env:Env}{c:CS}{E:V->CS->Prop}
def H'(t0 t1 t2 t3:Tag)
 (h:∀a d f z,c.σ a=none->c.σ d=none->c.σ f=none->c.σ z=none->a≠d->a≠f->a≠z->d≠f->d≠z->f≠z->Q (.loc z) ⟨c.m,(((c.σ.set a ⟨t2,yY X⟩).set d ⟨t3,yY Y⟩).set f ⟨t1,KZ⟩).set z ⟨t0,kZ a d f⟩⟩):
 CA g A env (.raw (.type "zip")) [.tup X,.tup Y] c Q E:=vL λn v1 v2 ix r F Z s p st=>by
 rw[tX (uK st (ix.mono p)) λI t u i w x k=>?_,3 i,tX (uK st (r.mono p)) λJ B D j H L l=>?_,3 j,ya k l ?_,<-M st.c9 (gG I) (y:=⟨t2,yY X⟩) ⟨λG U=>⟨I,t,u,U _ _ w,x.mono U,rfl⟩,rfl,λv e=>by rw[7 e,]⟩,<-N M.c9 (gG J) (y:=⟨t3,yY Y⟩) ⟨λG U=>⟨J,B,D,U _ _ H,L.mono U,rfl⟩,rfl,λv e=>by rw[7 e,]⟩,aV (N.iD (tV (.ref s.heap.objs.size) (.ref (s.heap.push (gG I)).objs.size)) rfl) λP R=>?_,<-S R.c9 (tV .none .none) (y:=⟨t1,KZ⟩) ⟨λG U=>rfl,rfl,λv e=>by rw[7 e,]⟩,];have W:=S.c9 (PA ((s.heap.push (gG I)).push (gG J)).objs.size (((s.heap.push (gG I)).push (gG J)).push (tV (.ref s.heap.objs.size) (.ref (s.heap.push (gG I)).objs.size))).objs.size) (y:=⟨t0,kZ s.heap.objs.size (s.heap.push (gG I)).objs.size (((s.heap.push (gG I)).push (gG J)).push (tV (.ref s.heap.objs.size) (.ref (s.heap.push (gG I)).objs.size))).objs.size⟩)
  ⟨λG U=>⟨_,U _ _ (ai.ae ..),rfl⟩,rfl,λv e=>by rw[7 e,]⟩
 have z1:(s.heap.push (gG I)).objs.size=s.heap.objs.size+1:=Wy ..;have z2:((s.heap.push (gG I)).push (gG J)).objs.size=s.heap.objs.size+2:=by rw[Wy,z1]
 have z3:(((s.heap.push (gG I)).push (gG J)).push (tV (.ref s.heap.objs.size) (.ref (s.heap.push (gG I)).objs.size))).objs.size=s.heap.objs.size+3:=by rw[Wy,z2]
 have z4:((((s.heap.push (gG I)).push (gG J)).push (tV (.ref s.heap.objs.size) (.ref (s.heap.push (gG I)).objs.size))).push (tV .none .none)).objs.size=s.heap.objs.size+4:=by rw[Wy,z3]
 have C:∀b,s.heap.objs.size<=b->c.σ b=none:=λb hb=>by
  cases q:c.σ b with
  |none=>rfl
  |some y=>refine ah (st.obj b y q) λo q _=>?_;rw[U9 (Vq q) (VV.mpr hb),]
 rw[⟨_,.loc _,_,P,rfl,W,h _ _ _ _ (C _ ?_) (C _ ?_) (C _ ?_) (C _ ?_) ?_ ?_ ?_ ?_ ?_ ?_⟩,]
 all_goals(first|omega|(refine Vt ?_;simp only[Wy];omega)|(simp only[Wy];omega))
end
def DO{o:Type}{P:o->Prop}:∀x∈([]:List o),P x:=λ_ h=>nomatch h
def f9{o:Type}{P:o->Prop}{a:o}{l:List o}(h:P a)(t:∀x∈l,P x):∀x∈a::l,P x:=VF.mpr ⟨h,t⟩
section
variable{g:G0}{A:Around}{env:Env}{c:CS}{E:V->CS->Prop}
def DQ{t0 t1 t2 t3:Tag}{X Y:List V}{J U I z:Addr}(hh:A.handled=none)(hz:c.σ z=some ⟨t0,kZ J U I⟩)(hT:c.σ I=some ⟨t1,KZ⟩)(h1:c.σ J=some ⟨t2,yY X⟩)(h2:c.σ U=some ⟨t3,yY Y⟩)
 (x:I≠z) (B:J≠z) (G:U≠z) (H:I≠J) (L:I≠U) (M:J≠U) (hl:X.length=Y.length):Src true g A c (.loc z) (uI X Y) ((((c.σ.del z).del I).del J).del U) none:=λenv F Z s v P E st iX h=>by
 cases(show v=.ref z from iX);obtain⟨o0,a0,b0,c0,e0,s1⟩:=st.hide hz;obtain⟨o1,a1,N,c1,e1,s2⟩:=s1.hide (a:=I) (y:=⟨t1,KZ⟩) (by rw[5 ((c.σ.del z) I=_),[ak.aR _ x],hT,]);obtain⟨o2,a2,b2,c2,e2,s3⟩:=s2.hide (a:=J) (y:=⟨t2,yY X⟩) (by rw[5 (((c.σ.del z).del I) J=_),[ak.aR _ H.symm,ak.aR _ B],h1,]);obtain⟨o3,a3,b3,c3,e3,s4⟩:=s3.hide (a:=U) (y:=⟨t3,yY Y⟩) (by rw[5 ((((c.σ.del z).del I).del J) U=_),[ak.aR _ M.symm,ak.aR _ L.symm,ak.aR _ G],h2,]);obtain⟨Q,d,rfl⟩:=b0.1 F (.refl _);rw[<-N N.1 F (.refl _),8 N,];obtain⟨R,xs,n1,k,x1,rfl⟩:=b2.1 F (.refl _);obtain⟨S,ys,n2,l,x2,rfl⟩:=b3.1 F (.refl _);have C:∀{b o y},F b=some o->c.σ y≠none->b≠y:=λm W e=>by
  cases q:c.σ _ with
  |none=>exact W q
  |some w=>have:=st.fD _ w q;rw[<-e,m] at this;rw[7 this,]
 have p:c.σ z≠none:=by rw[hz];simp
 have r:c.σ I≠none:=by rw[hT];simp
 have f:c.σ J≠none:=by rw[h1];simp
 have j:c.σ U≠none:=by rw[h2];simp
 have D:ZipApart z Q I J U R S:=⟨C d p,x,B,G,C d r,C d f,C d j,H,L,M,C k p,C k r,C k f,C k j,C l p,C l r,C l f,C l j⟩;have t:∀{y:Addr},c.σ y≠none->Z y=none:=λW=>by
  cases q:c.σ _ with
  |none=>exact U9 q W
  |some w=>exact st.d6 _ w q
 refine wpAny_pyIter_zip a0 (h z s F (.refl _) ⟨Z,_,[z,Q,I,J,U,R,S],[z,I,J,U],λi h=>ZS z Q I J U R S .none i xs ys h,s4,⟨λb m=>?_,?_,f9 e0 (f9 e1 (f9 e2 (f9 e3 DO))),f9 (t p) (f9 (t r) (f9 (t f) (f9 (t j) DO)))⟩,λu ht=>?_,?_,
  f9 (U9 (.head _)) (f9 (λ_=>.inl ⟨_,d⟩) (f9 (λn=>U9 (.tail _ (.head _)) n) (f9 (λn=>U9 (.tail _ (.tail _ (.head _))) n) (f9 (λn=>U9 (.tail _ (.tail _ (.tail _ (.head _)))) n) (f9 (λ_=>.inl ⟨_,k⟩) (f9 (λ_=>.inl ⟨_,l⟩) DO)))))),
  λF' c' s' _ xh=>⟨trivial,xh⟩⟩)
 ·exact(ai.bS _ _ λe:b=U=>m (e▸.tail _ (.tail _ (.tail _ (.head _))))).trans ((ai.bS _ _ λe:b=J=>m (e▸.tail _ (.tail _ (.head _)))).trans ((ai.bS _ _ λe:b=I=>m (e▸.tail _ (.head _))).trans (ai.bS _ _ λe:b=z=>m (e▸.head _))))
 ·rw[f9 ⟨_,(ai.bS _ _ G.symm).trans ((ai.bS _ _ B.symm).trans ((ai.bS _ _ x.symm).trans (ai.ae ..)))⟩ (f9 ⟨_,(ai.bS _ _ L).trans ((ai.bS _ _ H).trans (ai.ae ..))⟩ (f9 ⟨_,(ai.bS _ _ M).trans (ai.ae ..)⟩ (f9 ⟨_,ai.ae ..⟩ DO))),]
 ·rw[kG (kJ (ht rfl)) λelts kk pos e=>?_,]
  rw[8 e,dv.zip hh D x1 x2 hl,]
 ·exact⟨a0,st.fr _ _ d,⟨_,_,a1⟩,⟨_,a2,rfl,rfl⟩,⟨_,a3,rfl,rfl⟩,⟨_,st.fr _ _ k,rfl,_,rfl⟩,⟨_,st.fr _ _ l,rfl,_,rfl⟩⟩
end
open Classical in
noncomputable def DR(h:Heap)(d:PyData)(v:Value):Bool:=decide (∃o,Reads h v d o)
def qA{h:Heap}{x Y:V}{y:Value}{bs:List Addr}(o:x.d7=true)(C:Y.d7=true)(I:Reads h y Y.D bs):DR h x.D y=true↔Y=x:=by
 rw[2 DR,[@decide_eq_true_iff _ (Classical.propDecidable _)],];constructor
 ·rintro⟨J,ra⟩
  rw[<-e SeqAt.Reads.unique _ _ _ _ _ (eB C) I ra,(lU C o).mp ?_,[e],SeqAt.eqv_refl _ (eB o),]
 ·rintro rfl;exact⟨_,I⟩
def uL{A:Around}{s:Shared}{x Y:V}{u y:Value}{I bs:List Addr}(o:x.d7=true)(C:Y.d7=true)(ra:Reads s.heap u x.D I)(J:Reads s.heap y Y.D bs)(U:A.units+x.D.depth<cLine):SeqAt.EqAt A s y u (DR s.heap x.D y):=by rw[<-h SeqAt.eqAt_reads _ _ A s y u bs I J ra (eB C) (eB o) (ax [.lt (.p af aj) aC,.mn bH iV aj] (.lt (.p af bH) aC) (.l [1,1,0,1]) tt [_,_,cLine,_,_] U rfl),<-e Bool.eq_iff_iff.mpr ((qA o C J).trans (lU C o).symm),[e],h,]
def IsL.mem(e:IsL F l vs):∀y∈vs,∃Y∈l,Is F Y y:=
 e.ind (C:=λl vs=>∀y∈vs,∃Y∈l,Is F Y y) (λ_ o=>nomatch o) λ{X _ _ _} a _ c y o=>(Vc.mp o).elim (λe=>⟨X,.head _,e▸a⟩) λo=>aw (c y o) λY q=>⟨Y,.tail _ q.1,q.2⟩
def px{F:ai}{h:Heap}(o:c8 F h.get?){x:V}(I:x.d7=true){l:List V}{vs:List Value}(gl:V.eA l=true)(e:IsL F l vs):vs.any (DR h x.D)=true↔x∈l:=by rw[e.ind (C:=λl vs=>V.eA l=true->(vs.any (DR h x.D)=true↔x∈l)) (λ_=>⟨λe=>(nomatch e),λe=>(nomatch e)⟩) (λa _ c g=>?_) gl,aw (a.reads o (band g).1) λU J=>?_,[List.any_cons,Bool.or_eq_true,Vc,c (band g).2,qA I (band g).1 J,eq_comm],]
section
variable{g:G0}{A:Around}{env:Env}{c:CS}{E:V->CS->Prop}
def yb(o:GV c x X)(C:SeqAt c y l)(gl:V.eA l=true)(e:A.units+1+X.D.depth<cLine)(h:∀b,(b=true↔X∈l)->Q (.bool b) c):bN g A env Is (compareOp .In) x y c Q E:=λI u v f i F Z s J st=>by
 rw[aw (o.reads st f J) λq ra=>jX v (st.seq C i J) λa r n j U t=>?_,SeqAt.in_listAt (DR s.heap X.D) ⟨_,j,rfl,n,rfl⟩ (λy C=>?_) ⟨F,.bool _,c,.refl _,rfl,st,h _ ?_⟩,]
 ·rw[ah (U.mem y (Xf.mpr C)) λY k m=>?_,]
  rw[<-d dY.mp gl Y k,aw (Is.reads st.fr d m) λw p=>uL o.d7 d ra p e,]
 ·rw[<-Xk];rw[px st.fr o.d7 gl U,]
def uM(C:GV c x X)(gl:V.eA l=true)(e:A.units+1+X.D.depth<cLine)(h:∀b,(b=true↔X∈l)->Q (.bool b) c):bN g A env Is (compareOp .In) x (.tup l) c Q E:=λI u v f i F Z s J st=>by
 rw[aw (C.reads st f J) λr ra=>tX (uK st (i.mono J)) λa t n o w U j=>?_,3 o,SeqAt.in_tupleAt (DR s.heap X.D) j (λy k=>?_) ⟨F,.bool _,c,.refl _,rfl,st,h _ ?_⟩,]
 ·rw[ah (U.mem y (Xf.mpr k)) λY m p=>?_,]
  rw[<-d dY.mp gl Y m,aw (Is.reads st.fr d p) λz q=>uL C.d7 d ra q e,]
 ·rw[<-Xk];rw[px st.fr C.d7 gl U,]
def yc(h:Q (.raw (.builtin "list.index"),[.lst l]) c):iF g A env RM (λo=>getMethod o "index" pl) (.lst l) c Q E:=λU v b F Z s I st=>by rw[iU (id b) λa o j n C d f k m=>?_,3 C,];have i:s.TypeIs (.ref a) "list":=⟨o,st.fr _ _ (I _ _ d),Ve Obj.cls f⟩;rw[Yg i PySem.F.plainAttrs_list PySem.F.slot_list_index PySem.F.type_list_index (λp e=>by rw[1 e,⟨_,st.fr _ _ (I _ _ d),by rw[f]⟩,]) ⟨F,(.raw (.builtin "list.index"),[.lst l]),c,.refl _,⟨rfl,.cons (b.mono I) .nil⟩,st,h⟩,]
def Av(w:GV c x X)(gl:V.eA l=true)(hj:l[j]?=some X)(L:∀i,i<j->l[i]?≠some X)(hz:l.length<=100000)(hu:A.units+10+X.D.depth<cLine)(h:Q (vi j) c):CA g A env (.raw (.builtin "list.index")) [.lst l,x] c Q E:=vL λF₀ v1 v2 iy ix F Z s z st=>by
 rw[aw (w.reads st ix z) λas ra=>iU iy λa o r n t q1 q2 q3 G=>?_,0 iy,3 t,8 q2,<-G G.mono z,];have f:r.size=l.length:=by rw[<-Vl,G.length]
 have M:=(VH.mp hj).1;have key:∀i (hi:i<r.size),∃Y,l[i]?=some Y/\Y.d7=true/\∃H,Reads s.heap r[i] Y.D H:=λi hi=>by rw[<-e U' (l:=l) (i:=i) (ax [.eq af aj,.lt aC af] (.lt aC aj) (.l [1,1,0,1]) tt [_,_,_] f hi),ah (G.get e) λy C e2=>?_,];rw[Wa,Xd hi] at C;rw[1 C,<-I dY.mp gl _ (WH (ax [.eq af aj,.lt aC af] (.lt aC aj) (.l [1,1,0,1]) tt [_,_,_] f hi:i<l.length)),⟨_,e,I,Is.reads st.fr I e2⟩,]
 have P:∀B:Around,B.units<=A.units+10->∀y∈r,SeqAt.EqAt B s y v2 (DR s.heap X.D y):=λB hB y R=>by rw[aw (Array.mem_iff_getElem.mp R) λi J=>aw J λhi u=>?_,0 J,3 u,bL (key i hi) λY C I U=>aw U λH v=>?_,0 U,uL w.d7 I ra v (ax [.lt (.p (.p af (.k 10)) aj) aC,.le bH (.p af (.k 10))] (.lt (.p bH aj) aC) (.l [1,1,1]) tt [_,_,cLine,_] hu hB),]
 refine call_meets PySem.F.slot_list_index ⟨_,st.fr _ _ (z _ _ q1),rfl⟩ PySem.F.entry_list_index (PySem.F.args_list_index_2 ..)
  (SeqAt.list_indexAt a r n none #[] v2 (DR s.heap X.D) j (ax [.eq af aj,.lt aC aj] (.lt aC af) (.l [1,0,1,1]) tt [_,_,_] f M) (by omega) ?_ ?_) ⟨st.fr _ _ (z _ _ q1),λy R=>P _ ?_ y R,F,vi j,c,.refl _,⟨_,rfl⟩,st.toks _,h⟩
 ·rw[bL (key j (by omega)) λY C I b=>aw b λH v=>?_,0 b,]
  rw[hj] at C;rw[1 C,(qA w.d7 I v).mpr rfl,]
 ·intro m hm W
  rw[bL (key m hm) λY C I d=>aw d λH v=>?_,0 d,VC.mpr λq=>L m W ?_,[C,(qA w.d7 I v).mp q],]
 ·rw[5 (A.units+1<=_),ax [] (.le (.p af aF) (.p af (.k 10))) (.l [1]) tt [_],]
def DS(I:A.handled=none)(h:Q (.int (min x y)) c):CA g A env (.raw (.builtin "min")) [.int x,.int y] c Q E:=zm λC t u F Z s a st=>by
 rw[min_two_ints I λd J U=>⟨F,.int (min x y),c,.refl _,?_,st.jk (λb o _ e=>U b o e) J,h⟩,];split
 ·rw[[Int.min_def,U8 (by omega)],⟨_,rfl⟩,]
 ·rw[[Int.min_def,Vb (by omega)],⟨_,rfl⟩,]
def uN(C:x<1000)(h:Q (.str (Str.ofString (toString x))) c):CA g A env (.raw (.type "str")) [vi x] c Q E:=G1 λo t F Z s I st=>by rw[P.str_of_int (a:=(x:Int)) ?_ ⟨F,.str _,c,.refl _,⟨_,rfl⟩,st.toks _,h⟩,[Int.natAbs_natCast],VA (Nat.log2_le_self _) (kl C),]
def uO(h:Q (.int x) c):CA g A env (.raw (.type "int")) [.int x] c Q E:=G1 λo t F Z s C st=>by rw[call_int_int ⟨F,.int x,c,.refl _,⟨_,rfl⟩,st,h⟩,]
end
noncomputable def kR:Nat->List V->List V
 |_,[]=>[]
 |i,x::l=>.tup [vi i,x]::kR (i+1) l
def yd:∀{i k:Nat},(kR i l)[k]?=l[k]?.map λx=>V.tup [vi (i+k),x]:=by
 induction l with
 |nil=>exact rfl
 |cons x l o=>exactλ{i k}=>k.casesOn rfl λk=>o.trans (by rw[WZ,Yi 1];rfl)
def ye:(kR i l).length=l.length:=by
 induction l generalizing i with
 |nil=>rfl
 |cons x l o=>exact Ve Nat.succ o
noncomputable def Mm(j:Addr):OK:=.gen λF o=>∃C,o={cls:=.type "enumerate",dict:=none,data:=.fields #[.none,.bool false,.ref j,rawInt 0,.none,C],slots:=#[]}
noncomputable def K0(X:List V):OK:=.gen λF o=>∃l C n,F l=some (bM C n)/\IsL F X C.toList/\o.cls=.type "list_iterator"/\o.data=.fields #[.ref l,.int 0 0]
def dv.enum(hh:A.handled=none)(G:e≠U)(L:e≠l)(M:l≠U)(hX:IsL F X vs.toList):
 dv g A (.Tuple elts kk pos) e [e,U,l] [e,U] F (kR 0 X) (λi h=>(∃C,IsEnum h e U i C)/\h.IsListIter U l i/\h.IsList l vs) where
 sub b hb:=by simp at hb⊢;rcases hb with rfl|rfl<;>simp
 live i h hs b hb:=by
  rw[dG hs λP h2 d=>aw P λC h1=>?_,0 hs P,];simp at hb;rcases hb with rfl|rfl|rfl
  ·exact⟨_,h1⟩
  ·exact⟨_,h2.choose_spec.1⟩
  ·exact⟨_,d.choose_spec.1⟩
 mC i h hs b hb o ho v q:=by
  rw[dG hs λR h2 d=>aw R λC h1=>?_,0 hs R,bL h2 λo1 a1 _ a2=>?_,0 h2,];simp at hb;rcases hb with rfl|rfl
  ·rw[h1] at ho;rw[1 ho,7 q,]
  ·rw[a1] at ho;rw[1 ho,];rw[a2] at q;rw[7 q,]
 frame i h h' hs H:=by rw[dG hs λS h2 d=>aw S λC h1=>?_,0 hs S,⟨⟨C,H e (.head _) _ h1⟩,h2.at λo q=>H U (.tail _ (.head _)) o q,d.at λo q=>H l (.tail _ (.tail _ (.head _))) o q⟩,]
 item i V0 s Q E hi j W:=by
  rw[dG j λy h2 d=>aw y λC h1=>?_,0 j y,];rw[yd,Wk] at hi;rw[ah (WA.mp hi) λx hx Y=>?_,3 Y,ah (hX.get hx) λv ev iv=>?_,];rw[Wa] at ev;rw[<-hi' (XF.mp ev).1,wpAny_pyNext_enum_itemD (Draws.list (A:=A.in1) hh U l M vs) h1 ⟨h2,d⟩ hi' G (by simp[G,L]) λx' h' tk hP ho FK hT jy H=>⟨_,rfl,wpAny_letOwnedTupleGo_enum ho λTe Mn J=>?_⟩,];rw[ev] at hP;rw[1 hP,<-PB Vq h1,W _ Te (tk+1) (.inr ⟨_,#[.int i tk,v],_,[vi i,x],rfl,Va _,J.extBut _ _ (WO PB) hT,rfl,⟨_,_,rfl,⟨_,rfl⟩,_,_,rfl,iv,rfl⟩⟩) ?_ λb o hb q=>?_,]
  ·exact⟨⟨_,Mn⟩,FK.1.extBut J.extBut G.symm,FK.2.extBut J.extBut L.symm⟩
  ·simp at hb
   rw[J.extBut _ _ hb.1 (H b o hb.1 hb.2 q),]
 done s Q E j W:=by
  rw[dG j λB h2 d=>aw B λC h1=>?_,0 j B,];have jy:X.length=vs.size:=by rw[<-Vl,hX.length]
  rw[ye,jy] at h1 h2;rw[wpAny_pyNext_enum_endD (Draws.list (A:=A.in1) hh U l M vs) h1 ⟨h2,d⟩ λh' H=>W h' s.toks λb o hb q=>?_,];simp at hb;rw[H b o hb.2 q,]
 self i s Q E j W:=by rw[aV j λD _=>aw D λC h1=>?_,0 j D,wpAny_pyIter_enum h1 W,]
section
variable{g:G0}{A:Around}{env:Env}{c:CS}{E:V->CS->Prop}
def DT(t0 t1:Tag)
 (h:∀e I,c.σ e=none->c.σ I=none->I≠e->Q (.loc e) ⟨c.m,(c.σ.set I ⟨t1,K0 X⟩).set e ⟨t0,Mm I⟩⟩):
 CA g A env (.raw (.type "enumerate")) [.lst X] c Q E:=j0 λk u ix F Z s w st=>by
 rw[mj u (ix.mono w) λa l n p q3 z=>?_,];have B:s.heap.IsList a l:=⟨_,st.fr _ _ p,rfl,n,rfl⟩;rw[call_enumerate_list B λr D hi H L=>?_,];have C:∀b,s.heap.objs.size<=b->F b=none/\Z b=none/\c.σ b=none/\∀x∈aU env,x≠b:=λb M=>by
  have no:∀o,s.heap.get? b=some o->False:=λo q=>U9 (Vq q) (VV.mpr M);rw[⟨?_,?_,?_,λx N e=>?_⟩,]
  ·cases q:F b with
   |none=>rfl
   |some o=>exact(no _ (st.fr _ _ q)).elim
  ·cases q:Z b with
   |none=>rfl
   |some o=>refine aw (st.gM q) λt q=>?_;exact(no _ q).elim
  ·cases q:c.σ b with
   |none=>rfl
   |some o=>refine ah (st.obj _ _ q) λt q _=>?_;exact(no _ q).elim
  ·rw[aw (st.live x N) λt q=>?_,]
   rw[e] at q;rw[no _ q,]
 rw[jU (C _ (Va _)) λJ P R S=>jU (C _ (VE _)) λU W Y w2=>?_,bL hi λoi d f pb=>?_,0 hi,<-i (st.jk (h':=r) (λb o _ e=>L b o e) s.toks).gO (y:=⟨t1,K0 X⟩) d ⟨λG j=>⟨a,l,n,j _ _ p,z.mono j,f,pb⟩,Obj.isFreed_of_fields pb,λv e=>by rw[pb] at e;rw[7 e,]⟩ J P S,⟨F,.loc _,_,.refl _,rfl,i.gO (y:=⟨t0,Mm s.heap.objs.size⟩) D ⟨λG j=>⟨_,rfl⟩,rfl,λv e=>by rw[7 e,]⟩ U W w2,h _ _ Y R (Vt (Vs _))⟩,]
def Aw(M:A.handled=none)(z:c.σ e=some ⟨t0,Mm I⟩)(hi:c.σ I=some ⟨t1,K0 X⟩)(d:I≠e):Src true g A c (.loc e) (kR 0 X) ((c.σ.del e).del I) none:=λenv F Z s v P E st N h=>by
 cases(show v=.ref e from N);rw[xb (st.hide z) λo0 B Q c0 e0 R=>aB λS J=>xb (R.hide (a:=I) (y:=⟨t1,K0 X⟩) (by rw[5 ((c.σ.del e) I=_),[ak.aR _ d],hi,])) λW Y b1 c1 e1 s2=>J ?_,0 J S,aw (Q.1 F (.refl _)) λU f=>?_,3 f,tX (b1.1 F (.refl _)) λl vs n m x1 k1 k2=>?_,];have j:∀{b o y},F b=some o->c.σ y≠none->b≠y:=λC r e=>by
  cases q:c.σ _ with
  |none=>exact r q
  |some w=>have:=st.fD _ w q;rw[<-e,C] at this;rw[7 this,]
 have D:c.σ e≠none:=by rw[z];simp
 have G:c.σ I≠none:=by rw[hi];simp
 have H:∀{y:Addr},c.σ y≠none->Z y=none:=λr=>by
  cases q:c.σ _ with
  |none=>exact U9 q r
  |some w=>exact st.d6 _ w q
 rw[wpAny_pyIter_enum B (h e s F (.refl _) ⟨Z,_,[e,I,l],[e,I],λi h=>(∃U,IsEnum h e I i U)/\h.IsListIter I l i/\h.IsList l vs,s2,⟨λb C=>?_,λb C=>?_,λb C=>?_,λb C=>?_⟩,λp ht=>?_,⟨⟨_,B⟩,⟨_,Y,k1,k2⟩,⟨_,st.fr _ _ m,rfl,n,rfl⟩⟩,λb C t=>?_,λF' c' s' _ u=>⟨trivial,u⟩⟩),]
 ·simp at C
  simp[ai.set,C.1,C.2]
 ·by_cases q:b=I
  ·exact⟨W,by rw[[q],ai.ae ..,]⟩
  ·have q0:b=e:=by simp at C;rcases C with x|x<;>first|exact x|exact U9 x q
   exact⟨_,by rw[q0];simp[ai.set,d.symm];rfl⟩
 ·simp at C
  rcases C with rfl|rfl<;>assumption
 ·simp at C
  rcases C with rfl|rfl
  ·rw[H D,]
  ·rw[H G,]
 ·rw[kG (kJ (ht rfl)) λL kk pos k=>?_,3 k,]
  rw[dv.enum M d.symm (j m D).symm (j m G) x1,]
 ·simp at C t
  rcases C with rfl|rfl|rfl
  ·rw[U9 rfl t.1,]
  ·rw[U9 rfl t.2,]
  ·rw[.inl ⟨_,m⟩,]
end
section
variable{g:G0}{A:Around}{env:Env}{c:CS}{E:V->CS->Prop}
def uP(I:c.σ a=some ⟨t,.list (l++[Y])⟩)(h:Q () ⟨c.m,c.σ.set a ⟨t,.list (l++[X])⟩⟩):
 Cf g A env RU setItem (.loc a) (.int (-1)) X c Q E:=vK λJ j w b F Z s d st=>by
 rw[iz (st.list I) λC n U k e o=>?_,];rw[U7] at o;have o:=o;have f:((s.heap.update a (Obj.mapSeq λi=>i.setIfInBounds (-1+(C.size:Int)).toNat w)).get? a)=some (bM (C.setIfInBounds (-1+(C.size:Int)).toNat w) _):=VM _ U rfl;rw[ki_setBack (n:=n) U (by decide) (by rw[[o],Int.neg_le_neg (Ob (U4 1 _)),]) (by decide) ⟨F,(),_,.refl _,trivial,st.upd (z:=⟨t,.list (l++[X])⟩) I (Vp ..) f ⟨_,_,rfl,?_⟩ _,h⟩,[Array.toList_setIfInBounds,show(-1+(C.size:Int)).toNat=l.length by rw[[o,Int.add_comm],Ve Int.toNat (Int.add_sub_cancel (l.length:Int) 1),]],<-this e.set l.length (b.mono d),];rw[List.set_append_right _ _ (Va _),Yj] at this;rw[this,]
def Ax(h:ItemsOf (λi v=>∃t,v=.int (a+i*k) t) o n):IsL F (jo a k n) o.toList:=by
 have key:∀(m:Nat) (b:Int) (l:List Value),l.length=m->(∀(j:Nat) v,l[j]?=some v->∃t,v=.int (b+j*k) t)->IsL F ((List.range m).map λ(i:Nat)=>V.int (b+i*k)) l:=by
  intro m
  induction m with
  |zero=>intro b l C _;cases Wv.mp C;rfl
  |succ m p=>
   intro b l C f;rw[dr (zM C) λx r I q=>?_,3 I,[List.range_succ_eq_map,VI,VD],aw (f 0 x rfl) λt J=>?_,3 J,⟨_,r,rfl,⟨t,rfl⟩,?_⟩,];have:=p (b+k) r q λj v U=>by rw[aw (f (j+1) v U) λt d=>?_,3 d,⟨t,Ve (Value.int · t) (Fx b k j).symm⟩,]
   have e:(List.range m).map (λ(i:Nat)=>V.int (b+k+i*k))=(List.range m).map ((λ(i:Nat)=>V.int (b+i*k))∘Nat.succ):=Vy λi _=>by rw[5 (V.int _=V.int (b+((i+1:Nat):Int)*k)),Ve V.int (Fx b k i),]
   rw[e] at this;rw[this,]
 rw[key n a o.toList (by rw[Vl,h.1]) λj v U=>h.2 j v (by rw[<-Wa];rw[U,]),]
def sj(t':Tag){a b k:Int}{n:Nat}{Q:V->CS->Prop}(l:A.handled=none)(I:Builtin.Range.small a b k=true)(p:Builtin.Range.rangeSize a b k=n)(hz:n<=2^24)(h:∀x,c.σ x=none->Q (.loc x) ⟨c.m,c.σ.set x ⟨t',.list (jo a k n)⟩⟩):
 CA g A env (.raw (.type "list")) [.mi a b k] c Q E:=j0 λd _ f F Z s q st=>by
 rw[jW f λr t u x C v=>?_,0 f,3 C,call_list_range l (show IsRange s.heap r a b k t u x from st.fr _ _ (q _ _ v)) I p hz λi w j c' z J hi=>?_,<-U st.jk (h':=i) (λb o _ e=>z b o e) w,⟨F,.loc _,_,.refl _,rfl,U.gO (y:=⟨t',.list (jo a k n)⟩) J ⟨_,_,rfl,Ax hi⟩ st.fresh.1 st.fresh.2.1 st.di,h _ st.fresh.2.2⟩,]
end
def mW(d:IsTup s.heap t #[x,y,z]) (hs:s.heap.IsSliceOf j .none (.int 2 u) .none)
 (h:Q (.ref s.heap.objs.size) {s with heap:=s.heap.push {cls:=.type "tuple",data:=.seq #[x,y]}}):wpAny (model P0 w) A (getItem (.ref t) (.ref j)) Q E s:=by
 have C:sizeOk (.seq #[x,y]):=by rw[5 (2<=sizeLine),[VN],U4 ..,]
 rw[bL (id hs) λos J B U=>?_,];have D:s.TypeIs (.ref j) "slice":=⟨os,J,B⟩;unfold getItem
 try with_reducible refine Wd ?_
 first|refine U0 (U6 ?_)|skip
 refine U0 (wpAny_sequenceKey d.typeIs rfl ?_);refine U0 (WI (name:=Str.ofString "__getitem__") d.typeIs slot_tuple_getitem
  (V7 slot_tuple_getitem d.typeIs entry_tuple_getitem ?_ (args_tuple_getitem ..)))
 rw[5 (wpAny _ _ (Builtin.Tuple.tupleItemsOf (.ref t)>>=_) _ _ s),U0 (tupleItemsOf_ d ?_),U0 (wpAny_typeOf D ?_),[Vb rfl],U0 (?_:wpAny _ _ (Builtin.Slice.sliceApplied (.ref j) (pure ((3:Nat):Int))) _ _ s),2 Builtin.Slice.sliceApplied Builtin.Slice.sliceFields,U0 (U0 (V1 J U (x:=.none) rfl (U0 (V1 J U (x:=.int 2 u) rfl (U0 (V1 J U (x:=.none) rfl (U6 ?_))))))),U0 (slicePart_none ?_),5 (wpAny _ _ (if((1:Int)==0)=true then _ else _) _ _ s),[U8 (Vu)],U0 (slicePart_none (U0 (slicePart_int (U0 (U6 ?_))))),5 (wpAny _ _ (pure ((0:Int),(1:Int),2)) _ _ s),U6 ?_,5 (wpAny _ _ (if((0:Int)==0&&(1:Int)==1&&(2:Nat)==3)=true then _ else _) _ _ s),[U8 (Vu)],]
 first
  |exact U0 (m:=Builtin.Tuple.tupleExact _) (Wf (U6 ⟨_,rfl,U6 h⟩) C)
  |exact U0 (m:=Builtin.Tuple.tupleExact _) (Wf (U0 (U6 (U6 ⟨_,rfl,U6 h⟩))) C)
  |exact U0 (U0 (m:=Builtin.Tuple.tupleExact _) (Wf (U6 (U6 ⟨_,rfl,U6 h⟩)) C))
  |exact U0 (U0 (m:=Builtin.Tuple.tupleExact _) (Wf (U6 ⟨_,rfl,U6 h⟩) C))
def yf(h:Q (.tup [x,y]) c):bN g A env Is getItem (.tup [x,y,z]) (.fL .none (.int 2) .none) c Q E:=λp u v G q F Z s e J=>by
 rw[mj u G λb H n L q3 w=>iU q λr pl pu ps f M i o U=>aw o λt a=>?_,0 q o,3 f,3 i,3 a,3 U,aB λN d=>cp w λB l1 P R C=>cp C λD l2 S W I=>cp I λX l3 Y i3 j=>d ?_,0 d N w C I,<-j j,];have k:H=#[B,D,X]:=by apply Array.toList_inj.mp;rw[P,S,Y,j]
 rw[8 k,aV (J.iD (cT #[B,D] 0) rfl) λl m=>mW ⟨_,J.fr _ _ (e _ _ L),rfl,n,rfl⟩ ⟨_,J.fr _ _ (e _ _ M),rfl,rfl⟩ ⟨_,.tup [x,y],c,l,⟨_,_,_,0,rfl,ai.ae ..,rfl,rfl,⟨_,_,rfl,R.mono (e.trans l),_,_,rfl,W.mono (e.trans l),rfl⟩⟩,m,h⟩,]
section
variable{g:G0}{A:Around}{env:Env}{F₀:ai}{c:CS}
def DU(d:bV env)(f:env.kindOf x=some .local)(st:St g A.frames env F Z c s)
 (h:∀s',St g A.frames env F Z ⟨[],c.σ⟩ s'->Q () s'):wpAny M k (do bindName env x .none;unbindBehindTheSuite env x pos) Q l s:=by
 rw[<-C st.t5 (m:=[]) trivial,ah C.ns λp i q=>wpAny_nameGoes f i (by rw[d.kind];rfl) λr t I J=>h _ ?_,C.zj (VL ..) J (let⟨o,_,_,e,_⟩:=I;⟨o,e⟩) _ ⟨_,I,λn X _ e=>nomatch e⟩ (λn b U a=>?_) (λn _=>rfl),ah (C.cell n b U a) λu j v=>⟨u,j.sameBut J (C.jZ U a),λX e=>nomatch e⟩,]
noncomputable def Ay(g:G0)(A:Around)(env:Env)(e:Expr)(n:Str)(o:List Stmt)(Q:CF->CS->Prop):V->CS->Prop:=λX J=>∃I C b d m U,X=.loc I/\J.σ I=some ⟨.exc,.exc C b d⟩/\(∀T,d=some T->J.σ T=some ⟨.tb,.lA .none⟩)/\dX m J.m/\exmOne (KK g) (.ref C) U=some true/\
 ∀T,J.σ T=none->EV g (A.mark (some (.ref I))) env e ⟨m,(J.σ.set I ⟨.exc,.exc C b (some T)⟩).set T ⟨.tb,.lA .none⟩⟩ (λv a=>v=.raw U/\a.σ I=some ⟨.exc,.exc C b (some T)⟩/\a.σ T=some ⟨.tb,.lA .none⟩/\
  EX g (A.mark (some (.ref I))) env o ⟨(n,.loc I)::a.m,a.σ⟩ (λf h=>Q f ⟨[],h.σ⟩) iA) iA
def Ia(hb:Base g)(ho:bV env)(D:A.frames=some (env::outer))(hf:env.frame=some env.locals)(hk:env.kindOf n=some .local)
 (h:EX g A env body c Q (Ay g A env te n (l::d) Q)):iZ g A env (.Try body [.ExceptHandler (some te) (some n) (l::d) Ib] [] [] pos) c Q E:=λF Z s h1 st=>by
 rw[wpAny_Try_except (T.run h h1 st (λp f G r s1 k i I q=>?_) λp x X r s1 k i I q=>?_),]
 ·induction G with
  |next=>cases(show f=.next from i);exact U6 ⟨p,.next,r,k,rfl,I,q⟩
  |brk=>cases(show f=.brk from i);exact⟨p,.brk,r,k,rfl,I,q⟩
  |cont=>cases(show f=.cont from i);exact⟨p,.cont,r,k,rfl,I,q⟩
  |ret X=>refine ah i λv t iv=>?_;rw[0 i,3 t,⟨p,.ret X,r,k,⟨v,rfl,iv⟩,I,q⟩,]
 ·rw[6 q,λJ=>OP J λH C B tb m L u M e2 hm hx q=>?_,0 J,3 u,]
  cases(show x=.ref H from i);rw[vT I D hf M e2 λU s2 hT N=>?_,];have P:H≠U:=λq=>by rw[q,hT] at M;rw[7 M,]
  rw[j3 (fr:=none) N (C:=C) (dx:=B) (T:=U) (fl:=rawInt env.locals) (by dsimp only;rw[ak.ag _ _ P,ak.ae]) (ak.ae ..) λs3 w=>?_,];rw[set_set] at w;rw[<-q q U hT,wpAny_handleBy_cons (codeAny_handlers_test ?_) (by intro q;rw[7 q,]),T.run q (.bot _) (w.t5 hm) (λF2 v X2 c2 s4 f2 R j S=>?_) λ_ _ _ _ _ _ _ _ e=>e.elim,6 S,λJ=>jU J λy z1 z2 S=>?_,0 J,3 y,];cases(show v=L from R);rw[ah (j.obj _ _ z1) λo W b=>n4 b λvs z v6 v1 v2=>?_,0 b,3 z,(exm_one (j.cW hb) ((Looks.ld W).andThen .now) hx).here<|codeAny_handlers_suite_as ?_,j3 (fr:=none) (A:=A) j (C:=C) (dx:=B) (T:=U) (fl:=.none) z1 z2 λs5 a=>?_,];have a:St g A.frames env F2 Z ⟨c2.m,c2.σ.set U ⟨.tb,.lA .none⟩⟩ s5:=a;rw[set_same z2] at a;rw[o7 (A:=A) ho hk a (X:=.loc H) rfl λs6 Y=>T.run S (.bot _) Y (λF3 f G c3 s7 f3 Tf Pl q3=>?_) λ_ _ _ _ _ _ _ _ e=>e.elim,DU ho hk Pl λs8 Pm=>⟨F3,G,_,(k.trans f2).trans f3,Tf,Pm,q3⟩,]
end
noncomputable abbrev qB(C:Addr)(dx:Option Addr)(vs:Array Value):Obj:={cls:=.ref C,dict:=dx,data:=.fields vs,slots:=#[]}
structure yg(K:Frag)(C:Addr):Prop where
 ga:findIn K (.ref C) "__getattribute__"=some (some (.builtin "BaseException.__getattribute__"))
 ho:findIn K (.ref C) "__getattr__"=some none
 be:mroIn K C (.type "BaseException")=some true
 sa:findIn K (.ref C) "__setattr__"=some (some (.builtin "object.__setattr__"))
 ob:mroIn K C (.type "object")=some true
 re:∃cd,clsIn K C=some cd/\cd.hasDict=true/\∀self,refuseLoop self "__setattr__" cd.mro=pure ()
section
variable{prog:Program}{w:World}{A:Around}{E:Value->Shared->Prop}{s:Shared}{K:Frag}{x C:Addr}{ox:Obj}{od:Option Obj}{name:Str}{expr:Bool}
def uQ(X:K.In s.heap)(I:InstAt s.heap x ox C od)(G:yg K C)(hf:findObj K C od name=some (.value v))(hh:handedIn v=true)(h:Q v {s with toks:=s.toks+1}):wpAny (model prog w) A (getAttr (.ref x) name expr) Q E s:=by rw[aB λH U=>?_,];obtain⟨j,g,d,t,os⟩:=s;rw[U ?_,0 U H,<-y I.type (M:=model prog w),<-L looks_findIn (M:=model prog w) X G.ga,<-P looks_findIn (M:=model prog w) X G.ho,<-R looks_find (M:=model prog w) X I hf,<-D PySem.F.attr_Exception,];have B:(Value.builtin "BaseException.__getattribute__"==Value.builtin "object.__getattribute__")=false:=rfl;rw[2 getAttr getAttrBy,U0 (wpAny_mkText (Wd (U0 (y.at (U0 (L.at ?_)))))),];dsimp only;rw[[B,Bool.and_false,U8 (Vu)],2 getAttrByItsOwn hookBefore callGetattribute boundAndCalled,U0 ?_,5 (wpAny _ _ (typeLookup (.ref C) "__getattr__") ..),P.at<|U0 (wpAny_attempt (Wd ?_)),[show(expr&&onTheHeap (Value.builtin "BaseException.__getattribute__"))=false from by induction expr<;>rfl,U8 (Vu)],U0 (Xm (D.ga.bind _) ?_),];have S:builtinKind "BaseException.__getattribute__"=some .slot:=rfl;have J:splitId "BaseException.__getattribute__"=some ("BaseException","__getattribute__"):=rfl;have sub:Looks (model prog w) j (isInstance (.ref x) (.type "BaseException")) true:=y.andThen (looks_mroIn X G.be);rw[X7 (XK D.ga.plain PySem.F.entry_bexc_ga (@check_slot (model prog w) _ _ ⟨j,g,d,t+1,os⟩ "BaseException.__getattribute__" "BaseException" "__getattribute__" (.ref x) [.str name t] [] _ S J sub (PySem.F.args_bexc_ga ..) ?_)),U0 (U6 (U0 (U6 (U0 (y.at (U0 (R.at ?_))))))),U6 ?_,5 (wpAny _ _ (handedOut v) ..),[handedOut_of hh],U6 h,]
def pz(X:K.In s.heap)(I:InstAt s.heap x ox C od)(G:yg K C)(i:takerIn K C name=some none)
 (h:∀b,wpAny (model prog w) A.in1 (Builtin.ObjectAttr.storeInOwnDict (.ref x) (.ref C) (.str name tk) name v b)
  (λfin s'=>match fin with|.done f=>R (.ok f) s'|.again c'=>c'.quiet=true/\codeAny (model prog w) A c' R s') (λe s'=>R (.error e) s') s):
 codeAny (model prog w) A (.call (.builtin "object.__setattr__") ⟨[.ref x,.str name tk,v],[]⟩) R s:=by
 rw[<-o PySem.F.store_object,bL G.re λj k J U=>?_,];have sub:Looks (model prog w) s.heap (isInstance (.ref x) (.type "object")) true:=I.type.andThen (looks_mroIn X G.ob);rw[XK o.slot.plain o.entry (@check_slot (model prog w) _ _ s "object.__setattr__" "object" "__setattr__" (.ref x) [.str name tk,v] [] _ o.kind o.split sub (o.args (.ref x) (.str name tk) v) ?_),ah (Option.bind_eq_some_iff.mp i) λattr l m=>?_,];have hm:Looks (model prog w) s.heap (mroOf (.ref C)) j.mro:=(looks_clsIn X k).andThen .now;have n:Looks (model prog w) s.heap (Builtin.ObjectAttr.storeTaker? attr) none:=by
  induction attr with
  |none=>exact .now
  |some a=>
   rw[ah (WA.mp m) λb p d=>(looks_takesIn X p).andThen ?_,]
   induction b
   ·rw[.now,]
   ·rw[7 d,]
 rw[[osa_eq,refuse_eq],U0 (U0 (I.type.here (U0 (hm.here ?_)))),[U],U6 (U0 (I.type.here (U0 ((looks_findIn X l).here (U0 (n.here ?_)))))),h _,]
end
section
variable{g:G0}{A:Around}{env:Env}{α β vI vJ:Type}{F₀:ai}{c:CS}{E:V->CS->Prop}
def St.excAt(x:St g A.frames env F Z c s)(b:c.σ a=some ⟨t,.exc C (some d) tb⟩)(e:c.σ d=some ⟨t',.ns fs⟩):
 ∃vs es n,InstAt s.heap a (qB C (some d) vs) C (some (dictOf es n))/\s.heap.get? d=some (dictOf es n)/\n6 g.w F es fs:=by
 rw[ah (x.obj _ _ b) λo f I=>ah I λvs h _=>?_,0 I,ah (x.obj _ _ e) λp U J=>dr J λes n i j=>?_,0 J,8 h,8 i,⟨vs,es,n,⟨f,rfl,rfl,U⟩,U,j⟩,]
def DV(U:Base g)(b:c.σ a=some ⟨t,.exc C (some d) tb⟩)(e:c.σ d=some ⟨t',.ns fs⟩)(f:fs.lookup n=some X)(G:yg (KK g) C)(i:(findIn (KK g) (.ref C) n).any (noGet (KK g))=true)
 (j:X.vQ=true) (h:Q X c):iF g A env Is (λo=>getAttr o n true) (.loc a) c Q E:=o6 λF₀ F Z s w st=>by
 rw[n5 (st.excAt b e) λx y m I k N=>ah (any_some i) λattr l p=>?_,];have k2:hasDictIn (KK g) C=true:=by rw[bL G.re λz q r _=>?_,2 hasDictIn,[q],r,]
 rw[ah ((N.get (n:=n)).1 X f) λu v J=>uQ (st.cW U) I G (findObj_own k2 l p (by rw[[lookIn_dict],v,])) (V.handed j J) ⟨F,X,c,.refl _,J,st.toks _,h⟩,]
def mX(st:St g A.frames env F Z c s)(a:c.σ d=some ⟨t',.ns fs⟩)(i:Is F X u)(hz:fs.length<100000)
 (h:∀s',St g A.frames env F Z ⟨c.m,c.σ.set d ⟨t',.ns (gq n X fs)⟩⟩ s'->Q (.done (.ret .none)) s'):wpAny (model P0 g.w) l (Builtin.ObjectAttr.storeInDict d (.str n j) n u) Q q s:=by
 rw[ah (st.obj _ _ a) λp I o=>dr o λC m J N=>?_,0 o,3 J,U0 (U6 (U0 ?_)),2 nsSet,U0 (U0 (XO (U6 (U0 (wpAny_mkText (U0 (XB I ?_))))))),];dsimp only[dictOf];have k:(!C.toArray.any (·.key.isStr n)&&C.toArray.any (·.refKey))=false:=by rw[<-Xk,<-Xk,N.noRef,Bool.and_false]
 rw[aRefKeyMayBeTheName_at,k];have e:Obj.putName n (PyData.keyHash g.w.params n) (.str n s.toks) u (dictOf C m)=dictOf (putL n (PyData.keyHash g.w.params n) (.str n s.toks) u C) (putN n C m):=putName_dict ..;have b:=N.put (t:=s.toks) (n:=n) i;have U:(putL n (PyData.keyHash g.w.params n) (.str n s.toks) u C).length<=100000:=by rw[[b.length],U3 (jq n X fs) hz,]
 have f:(s.heap.update d (Obj.putName n (PyData.keyHash g.w.params n) (.str n s.toks) u)).get? d=some (dictOf (putL n (PyData.keyHash g.w.params n) (.str n s.toks) u C) (putN n C m)):=by rw[VM _ I (by rw[e];rfl),e]
 rw[wpAny_updatePart I<|U0 (wpAny_lookBehind f (pastItsLine_dict (by rw[[Xe,VN],kl U,])) ?_),U6 (h _ (st.upd (z:=⟨t',.ns (gq n X fs)⟩) a (Vp ..) f ⟨_,_,rfl,b⟩ _)),]
def Az(j:Tag)(hb:Base g)(Y:c.σ a=some ⟨t,.exc C none tb⟩)(G:yg (KK g) C)(ht:takerIn (KK g) C n=some none)
 (h:∀d,c.σ d=none->d≠a->Q () ⟨c.m,((c.σ.set d ⟨j,.ns []⟩).set a ⟨t,.exc C (some d) tb⟩).set d ⟨j,.ns [(n,X)]⟩⟩):bN g A env RU (λo v=>setAttr o n v) (.loc a) X c Q E:=fW λF₀ u iu F Z s h1 st=>by
 rw[ah (st.obj _ _ Y) λo D J=>n4 J λvs x v6 v1 v2=>?_,0 J,3 x,];have I:InstAt s.heap a (qB C none vs) C none:=⟨D,rfl,rfl,trivial⟩;rw[<-H st.cW hb,set_plain H I G.sa<|pz (s:={s with toks:=s.toks+1}) H I G ht λb=>?_,bL G.re λcd hc L _=>U0 (U6 (U0 (U0 (XB (s:={s with toks:=s.toks+1}) D (U0 ((looks_clsIn (h:=s.heap) H hc) _ _ _ _ (λ_ _ e=>e) ?_)))))),[L],<-M Vq D,<-U WO M,<-n1 st.fresh.2.2,<-P (st.toks (s.toks+1)).c9 emptyDict (y:=⟨j,.ns []⟩) ⟨[],0,rfl,rfl⟩,];have R:(c.σ.set s.heap.objs.size ⟨j,.ns []⟩) a=some ⟨t,.exc C none tb⟩:=by rw[[ak.ag _ _ U.symm],Y,]
 rw[<-B Vh emptyDict D,U0 (wpAny_alloc ?_),<-hg VM (λo:Obj=>{o with dict:=some s.heap.objs.size}) B rfl,<-S P.upd R (z:=⟨t,.exc C (some s.heap.objs.size) tb⟩) (Vp ..) hg ⟨vs,rfl,v6,v1,v2⟩ (s.toks+1),U0 (wpAny_update B ?_),U6<|mX S (fs:=[]) (t':=j) (by dsimp only;rw[[ak.ag _ _ U],ak.ae ..,]) (iu.mono h1) (V5 _) λs' W=>⟨F,(),_,.refl _,trivial,W,h _ n1 U⟩,]
def AA(hb:Base g)(y:c.σ a=some ⟨t,.exc C (some d) tb⟩)(x:c.σ d=some ⟨t',.ns fs⟩)(G:yg (KK g) C)(B:takerIn (KK g) C n=some none)(hz:fs.length<100000)
 (h:Q () ⟨c.m,c.σ.set d ⟨t',.ns (gq n X fs)⟩⟩):bN g A env RU (λo v=>setAttr o n v) (.loc a) X c Q E:=fW λF₀ u D F Z s h1 st=>by
 rw[n5 (st.excAt y x) λL M m I H N=>?_,<-J st.cW hb,set_plain J I G.sa<|pz (s:={s with toks:=s.toks+1}) J I G B λb=>?_,bL G.re λP hc U _=>U0 (U6 (U0 (U0 (XB (s:={s with toks:=s.toks+1}) I.at_ (U0 ((looks_clsIn (h:=s.heap) J hc) _ _ _ _ (λ_ _ e=>e) ?_)))))),[U],U6 (a:=some d)<|mX (st.toks (s.toks+1)) x (D.mono h1) hz λs' j=>⟨F,(),_,.refl _,trivial,j,h⟩,]
end
section
variable{prog:Program}{w:World}{A:Around}{E:Value->Shared->Prop}{R:Result->Shared->Prop}{h:Heap}{g:Array GenState}{d:Drawn}{t:Nat}{os:OsState}
variable{nm q:Str}{C N:Addr}{bs bm:List Value}{sm:Bool}{sn:List Str}{sub:List Value}{ab:Bool}{col:Option Bool}{dd:Option Addr}{k0 k1 k2 k3 k5:Option Value}{B newId PC:String}
abbrev Ic(bm:List Value):Prop:=bm.contains (.type "Exception")=true/\bm.contains (.type "AttributeError")=false/\bm.contains (.type "NameError")=false
def PD(T:Ic bm)(U:h.get? C=some (excClassObj nm q C N bs bm sm sn sub ab col dd k0 k1 k2 k3 k5 "Exception.__new__"))
 (L:R (.ok (.ret (.ref (h.objs.size+1)))) ⟨(h.push {cls:=.type "tuple",data:=.seq rest.toArray}).push
  {cls:=.ref C,data:=.fields #[.ref h.objs.size,.none,.none,.none,.bool false,.none]},g,d,t,os⟩) (j:rest.length<=sizeLine):
 codeAny (model prog w) A (.builtin "Exception.__new__" ⟨.ref C::rest,[]⟩) R ⟨h,g,d,t,os⟩:=by
 have F:=F.excBase_Exception;have x:=F.ends;have y:(Value.ref C::bm).contains (.type "Exception")=true:=by rw[List.contains_cons,T.1,Bool.or_true]
 have D:(Value.ref C::bm).contains (.type "AttributeError")=false:=by rw[List.contains_cons,T.2.1];rfl
 have G:(Value.ref C::bm).contains (.type "NameError")=false:=by rw[List.contains_cons,T.2.2];rfl
 rw[codeAny_builtinAt F.entry ?_,2 Builtin.«BaseException.__new__»,PySem.wpAt_bind ?_,5 (PySem.wpAt _ _ _ (stack>>=_) ..),PySem.wpAt_bind (PySem.wpAt_stack λp H=>PySem.wpAt_of_wpAny ?_),]
 wp_walk
 rw[PySem.wpAt_of_wpAny ?_,[F.owner],]
 repeat (first|with_reducible refine wpAny_madeHere_exc F.canon U ?_|with_reducible refine WQ U ?_|(with_reducible refine wpAny_isSubtype_exc U ?_;first|rw(config:={}) [y]|rw(config:={}) [D]|rw[G])|wp_step)
 rw[5 (R ..),[Wy],L,]
def Mo(T:Ic bm)(M:Looks (model prog w) h (checkBuiltinCall "Exception.__new__" ⟨.ref C::rest,[]⟩) ())(j:h.get? C=some (excClassObj nm q C N bs bm sm sn sub ab col dd k0 k1 k2 k3 k5 "Exception.__new__"))
 (hi:Looks (model prog w) h (typeLookup (.ref C) "__init__") (some U)) (hb:∀self,Looks (model prog w) h (bindSpecial U self) (U,[self])) (x:rest.length<=sizeLine)
 (P:codeAny (model prog w) (A.under (.builtin "type.__call__" ⟨.ref C::rest,[]⟩)) (.call U ⟨.ref (h.objs.size+1)::rest,[]⟩) (InitBack (h.objs.size+1) R)
  ⟨(h.push {cls:=.type "tuple",data:=.seq rest.toArray}).push {cls:=.ref C,data:=.fields #[.ref h.objs.size,.none,.none,.none,.bool false,.none]},g,d,t,os⟩):
 codeAny (model prog w) A (.call (.ref C) ⟨rest,[]⟩) R ⟨h,g,d,t,os⟩:=by
 have Q:=tc_lookup;have f2:=tc_bind (.ref C);have S:(⟨h,g,d,t,os⟩:Shared).TypeIs (.ref C) "type":=⟨_,j,rfl⟩;rw[codeAny_of_tree ?_,5 (wpAny _ _ (callAny (.ref C) _) ..),]
 repeat (any_goals(first|assumption|with_reducible refine WQ j ?_|wp_step))
 rw[⟨rfl,?_⟩,codeAny_call_builtin_at (X9 _ (by decide+kernel)) entry_typeCall (wpAny_check_type_call_sub j ?_),5 (wpAny _ (A.under (.builtin "type.__call__" ⟨.ref C::rest,[]⟩)) (Builtin.«type.__call__» ⟨.ref C::rest,[]⟩) ..),2 Builtin.«type.__call__»,]
 repeat (first|with_reducible refine WQ j ?_|with_reducible refine wpAny_madeBy_exc j ?_|wp_step)
 refine codeAny_call_builtin_code (X9 _ F.excBase_Exception.quiet) (M.here ?_);refine PD T j ?_ x;show wpAny ..;have k:∀b o,h.get? b=some o->((h.push {cls:=.type "tuple",data:=.seq rest.toArray}).push {cls:=.ref C,data:=.fields #[.ref h.objs.size,.none,.none,.none,.bool false,.none]}).get? b=some o:=λb o e=>Vh _ (Vh _ e);have y:=k _ _ j;have D:((h.push {cls:=.type "tuple",data:=.seq rest.toArray}).push
  {cls:=.ref C,data:=.fields #[.ref h.objs.size,.none,.none,.none,.bool false,.none]}).get? (h.objs.size+1)=some
  {cls:=.ref C,data:=.fields #[.ref h.objs.size,.none,.none,.none,.bool false,.none]}:=by heap_get
 have H:(Value.ref C::bm).contains (.ref C)=true:=by simp
 unfold isInstance
 repeat (first|with_reducible refine WQ D ?_|(with_reducible refine wpAny_isSubtype_exc y ?_;rw[H])|wp_step)
 rw[5 (wpAny _ _ (typeLookup (.ref C) _) ..),(hi.keeps k).at<|Wd (U0 (((hb (.ref (h.objs.size+1))).keeps k).at ?_)),U0 (X7 (WE P λr s' z=>?_)),];rcases r with e|(v|_|_|_)<;>first|exact z|exact z.elim|skip
 rw[6 z,λG=>aV G λL z=>?_,0 G,3 L,]
 wp_walk
 rw[z,]
end
def v3:Slot "wrapper_descriptor" "__get__" "wrapper_descriptor.__get__":=.of (owner:="wrapper_descriptor") (n:="__get__") (by rw[typeLookup_type,builtinLookup_eq_fast];kernel_rfl) rfl rfl rfl
 (by first|exact .inl rfl|exact .inr (by decide+kernel)) (by rw[isSubtype_type];kernel_rfl)
def AB:entryFor table "wrapper_descriptor.__get__"=some Builtin.«wrapper_descriptor.__get__»:=entryFor_of_tree (by kernel_rfl)
def DW(a b c:Value):argsOk "wrapper_descriptor.__get__" ⟨[a,b,c],[]⟩:=by unfold argsOk;kernel_rfl
def v5:typeOf (.builtin "Exception.__init__")=pure (.type "wrapper_descriptor"):=by kernel_rfl
section
variable{prog:Program}{w:World}{A:Around}{E:Value->Shared->Prop}{h:Heap}{g:Array GenState}{d:Drawn}{t:Nat}{os:OsState}
noncomputable abbrev mY(x:Addr):Obj:={cls:=.type "method-wrapper",data:=.fields #[.builtin "Exception.__init__",.ref x]}
def Ie(I:h.get? x=some J)(U:J.cls=.ref C)(hs:Looks (model prog w) h (isSubtype (.ref C) (.type "Exception")) true)(a:Q (.done (.ret (.ref h.objs.size))) ⟨h.push (mY x),g,d,t,os⟩):
 wpAny (model prog w) A (Builtin.«wrapper_descriptor.__get__» ⟨[.builtin "Exception.__init__",.ref x,.ref C],[]⟩) Q E ⟨h,g,d,t,os⟩:=by
 unfold Builtin.«wrapper_descriptor.__get__»;have o:".".intercalate ("Exception.__init__".cutAt '.').dropLast="Exception":=rfl
 repeat (first|(with_reducible refine XB I ?_;rw[U])|(rw[o];refine hs.at ?_)|wp_step|dsimp only)
 all_goals exact a
def AD{R D x C:Addr}{J l:List Value}{K:Frag}{name:Str}{tk:Tok}{Q:Fin->Shared->Prop}
 (U:h.get? R=some {cls:=.type "super",dict:=none,data:=.fields #[.ref D,.ref x,.ref C],slots:=#[]}) (H:Looks (model prog w) h (opaqueClassAbove (.ref C)) none)
 (W:Looks (model prog w) h (mroOf (.ref C)) J) (hl:(J.dropWhile (· !=.ref D)).drop 1=l) (X:K.In h)
 (hf:alongIn K name l=some (some (.builtin "Exception.__init__"))) {S:Obj} (Y:h.get? x=some S) (hc:S.cls=.ref C) (hs:Looks (model prog w) h (isSubtype (.ref C) (.type "Exception")) true) (L:x≠C) (hn:(name==("__class__":Str))=false)
 (hq:Q (.done (.ret (.ref h.objs.size))) ⟨h.push (mY x),g,d,t,os⟩):
 wpAny (model prog w) A (Builtin.«super.__getattribute__» ⟨[.ref R,.str name tk],[]⟩) Q E ⟨h,g,d,t,os⟩:=by
 have HG:=v3.lookup;have M:(Value.ref x==Value.ref C)=false:=by simp[L]
 have P:=v5;have hT:Shared.TypeIs ⟨h,g,d,t,os⟩ (.builtin "Exception.__init__") "wrapper_descriptor":=v5;have y:({cls:=.type "super",dict:=none,data:=.fields #[.ref D,.ref x,.ref C],slots:=#[]}:Obj).data=.fields #[.ref D,.ref x,.ref C]:=rfl;have f0:(#[.ref D,.ref x,.ref C]:Array Value)[0]?=some (.ref D):=rfl;have f1:(#[.ref D,.ref x,.ref C]:Array Value)[1]?=some (.ref x):=rfl;have f2:(#[.ref D,.ref x,.ref C]:Array Value)[2]?=some (.ref C):=rfl;unfold Builtin.«super.__getattribute__»
 repeat (first
  |(with_reducible refine V1 U y f0 ?_)|(with_reducible refine V1 U y f1 ?_)|(with_reducible refine V1 U y f2 ?_)
  |(with_reducible refine ks_wpAny_notOpaque H ?_)
  |(with_reducible refine Looks.at W ?_;rw[hl])
  |(refine ks_forIn_along X (λ_ _=>rfl) rfl ?_ hf)
  |(with_reducible refine Xm P ?_)
  |(with_reducible refine V7 v3 hT AB (Ie Y hc hs ?_) (DW ..))
  |(with_reducible refine⟨_,rfl,?_⟩)
  |(simp only[hn,M,Bool.or_false,Ws,XA])
  |wp_step
  |dsimp only)
 all_goals exact hq
def yh{U D x C:Addr}{J l:List Value}{K:Frag}{name:Str}{pl:Sem Bool}{Q:Value×List Value->Shared->Prop}
 (j:h.get? U=some {cls:=.type "super",dict:=none,data:=.fields #[.ref D,.ref x,.ref C],slots:=#[]}) (H:Looks (model prog w) h (opaqueClassAbove (.ref C)) none)
 (hC:Looks (model prog w) h (mroOf (.ref C)) J) (hl:(J.dropWhile (· !=.ref D)).drop 1=l) (X:K.In h)
 (hf:alongIn K name l=some (some (.builtin "Exception.__init__"))) {Y:Obj} (hx:h.get? x=some Y) (hc:Y.cls=.ref C) (hs:Looks (model prog w) h (isSubtype (.ref C) (.type "Exception")) true) (L:x≠C) (hn:(name==("__class__":Str))=false)
 (hq:Q (.ref h.objs.size,[]) ⟨h.push (mY x),g,d,t+1,os⟩):
 wpAny (model prog w) A (getMethod (.ref U) name pl) Q E ⟨h,g,d,t,os⟩:=by
 have y:=X1.lookup;have B:=PySem.F.ks_canon_super_ga;have M:∀t',(⟨h,g,d,t',os⟩:Shared).TypeIs (.ref U) "super":=λ_=>⟨_,j,rfl⟩;rw[2 getMethod,U0 (wpAny_specialOf (M _) y ?_),5 (wpAny _ _ (if(Manifest.canonical "super.__getattribute__" !="object.__getattribute__")=true then _ else _) ..),[Vb B],2 getAttr getAttrBy,U0 (U0 (wpAny_mkText (Wd (U0 (wpAny_typeOf (M _) (U0 (Xm y ?_))))))),5 (wpAny _ _ (getAttrByItsOwn (.ref U) (.str name t) (.type "super") (.builtin "super.__getattribute__") true false) ..),2 getAttrByItsOwn hookBefore callGetattribute boundAndCalled,U0 (Xm (show(if onTheHeap (.type "super") then typeLookup (.type "super") "__getattr__" else pure none)=pure none from rfl) ?_),U0 (wpAny_attempt (Wd ?_)),5 (wpAny _ _ (bindSpecial (.builtin "super.__getattribute__") (.ref U)>>=_) ..),U0 (Xm (X1.bind _) ?_),];refine Wr (Q:=λv s'=>v=.ref h.objs.size/\s'=⟨h.push (mY x),g,d,t+1,os⟩) (E:=λ_ _=>False)
  (V7 X1 (M _) PySem.F.ks_entry_super_ga (AD j H hC hl X hf hx hc hs L hn ⟨_,rfl,rfl,rfl⟩) (PySem.F.ks_gaArgs_super ..)) (λv s' hv=>?_) λ_ _ z=>z.elim
 rw[aV hv λP R=>?_,0 hv,3 P,3 R,U6 (U6 hq),]
end
def AE:entryFor table "Exception.__init__"=some Builtin.«BaseException.__init__»:=PySem.F.excBase_Exception.initEntry
section
variable{prog:Program}{w:World}{A:Around}{E:Value->Shared->Prop}{R:Result->Shared->Prop}{h:Heap}{g:Array GenState}{d:Drawn}{t:Nat}{os:OsState}
variable{nm q:Str}{C N:Addr}{bs bm:List Value}{sm:Bool}{sn:List Str}{sub:List Value}{ab:Bool}{col:Option Bool}{dd:Option Addr}{k0 k1 k2 k3 k5:Option Value}{newId:String}
def AF(U:h.get? C=some (excClassObj nm q C N bs bm sm sn sub ab col dd k0 k1 k2 k3 k5 newId))(j:h.get? x=some y)(hc:y.cls=.ref C)
 (B:Q () ⟨h,g,d,t,os⟩):wpAny M A (checkBoundCall "Exception.__init__" ⟨.ref x::D,[]⟩) Q E ⟨h,g,d,t,os⟩:=by
 rw[<-F PySem.F.excBase_Exception,<-J F.noStar,2 checkBoundCall,[F.initRow],];dsimp only;rw[F.initKind];dsimp only;rw[[Vb (by assumption)],2 Bind.checkArgs,]
 repeat (first|(with_reducible refine WQ j ?_;rw[hc])|with_reducible refine WQ U ?_|wp_step)
 refine wpAny_onRaise ?_;rw[show∀(a b:String) (n:Nat),Bind.check ⟨.positional,"*","Exception",.self,[⟨"args",.varPos,false⟩]⟩ a b n (List.map (λx=>x.fst) ({pos:=Value.ref x::D}:Args).kw)=pure () from
  λa b n=>check_star_args ..]
 rw[U6 B,]
def DX(M:h.get? C=some (excClassObj nm q C N bs bm sm sn sub ab col dd k0 k1 k2 k3 k5 newId))(hm:h.get? H=some (mY x))(D:h.get? x=some {cls:=.ref C,dict:=dx,data:=.fields vs,slots:=#[]}) (h0:vs[0]?=some P) (hl:U.length<=sizeLine)
 (L:R (.ok (.ret .none)) ⟨(h.push (cT U.toArray 0)).update x (Obj.mapFields (·.setIfInBounds 0 (.ref h.objs.size))),g,d,t,os⟩):codeAny (model prog w) A (.call (.ref H) ⟨U,[]⟩) R ⟨h,g,d,t,os⟩:=by
 rw[codeAny_of_tree ?_,5 (wpAny _ A.in1 (callAny (.ref H) ⟨U,[]⟩) ..),2 callAny,U0 (wpAny_load hm ?_),];dsimp only;rw[[Vb (Xl _)],5 (wpAny _ _ (do checkBoundCall "Exception.__init__" ⟨.ref x::U,[]⟩;again (.builtin "Exception.__init__" ⟨.ref x::U,[]⟩)) ..),U0 (AF M D rfl (U6 ?_)),⟨X9 _ (by decide+kernel),?_⟩,X4 AE ?_,<-Q Vq D,];have B:(h.push (cT U.toArray 0)).get? x=some {cls:=.ref C,dict:=dx,data:=.fields vs,slots:=#[]}:=Vh _ D;have G:0<vs.size:=(XF.mp h0).1;unfold Builtin.«BaseException.__init__» Builtin.BaseException.bexcPut
 repeat (first|with_reducible refine V1 B rfl h0 ?_|with_reducible refine XD B rfl G ?_|with_reducible refine Yb ?_|wp_step|dsimp only)
 induction P<;>first|exact Yb (U6 L)|exact U6 (U6 L)
end
structure Ig(K:Frag)(C:Addr):Prop where
 at_:∃nm q N bs bm sm sn sub ab col dd k0 k1 k2 k3 k5,K.lookup C=some (excClassObj nm q C N bs bm sm sn sub ab col dd k0 k1 k2 k3 k5 "Exception.__new__")/\Ic bm
 GH:∀S rest,peek K S (checkBuiltinCall "Exception.__new__" ⟨.ref C::rest,[]⟩)=some ()
 sub:mroIn K C (.type "Exception")=some true
section
variable{g:G0}{A:Around}{env:Env}{c:CS}{E:V->CS->Prop}{S:Scope}{L:Addr}{q:Str}{f:Addr}{fd:FuncData}{fr:Option Addr}{D:Addr}
def uR(hb:Base g)(SI:pw (KK g) f fd S D)(hm:c.m.lookup ("self":Str)=some (.loc x))(y:c.σ x=some ⟨t,.exc C dx tb⟩)(H:mroIn (KK g) C (.ref D)=some true)
 (XC:Ig (KK g) C) (hg:nsIn (KK g) mainGlobals "super"=some none) (HH:nsIn (KK g) cStatics "thirdparty.any"=some none) (J:ks_superIn (KK g) C D "__init__"=some (some (.builtin "Exception.__init__")))
 (h:EV g A (bh S L fd.closure q (some f) fd.code fr) e c (λ_ i=>i.σ x=some ⟨t,.exc C dx tb⟩/\rx g A (bh S L fd.closure q (some f) fd.code fr) B r i Q E) E)
 (he:eval (.Call (.Attribute (.Call (.Name "super" p0) [] [] p1) "__init__" p) [e] [] pos) (bh S L fd.closure q (some f) fd.code fr)=(do
  let ov<-attributeBase (.Call (.Name "super" p0) [] [] p1) "__init__" (bh S L fd.closure q (some f) fd.code fr) (eval (.Call (.Name "super" p0) [] [] p1) (bh S L fd.closure q (some f) fd.code fr))
  standAt p.atName
  let(fv,first) <-holding [ov] (getMethod ov "__init__" pl)
  callWith pos fv first (backTo pos (starEach [e] (bh S L fd.closure q (some f) fd.code fr))) []))
 (M:starEach [e] (bh S L fd.closure q (some f) fd.code fr)=[(false,eval e (bh S L fd.closure q (some f) fd.code fr))])
 (hi:interactive (bh S L fd.closure q (some f) fd.code fr)=false):
 rx g A (bh S L fd.closure q (some f) fd.code fr) B (.Expr (.Call (.Attribute (.Call (.Name "super" p0) [] [] p1) "__init__" p) [e] [] pos) yi::r) c Q E:=λF Z s st=>by
 rw[X8 (ks_wpAt_Expr_any (XS (Q:=PT g A.frames (bh S L fd.closure q (some f) fd.code fr) Is F Z λ_ i=>rx g A (bh S L fd.closure q (some f) fd.code fr) B r i Q E) ?_ ?_ λ_ _ e=>e) hi rfl),]
 ·rw[ks_wpAt_MethodCall (pl:=pl) ?_ he,]
  rw[r8 hb SI hm (.inr ⟨_,_,_,y⟩) H rfl hg st λF1 so s1 R Pp U=>?_,<-W U.cW hb,ah (U.obj _ _ y) λo hx X=>n4 X λvs xK v6 v1 v2=>?_,0 X,3 xK,Lj XC.at_ λnm qn N bs bm sm sn sub ab Y=>GF Y λcol dd k0 k1 k2 k3 k5 RH hT=>?_,0 Y,];obtain⟨cd,RJ⟩:∃cd,clsIn (KK g) C=some cd:=by
   unfold ks_superIn at J;cases z:clsIn (KK g) C with
   |none=>rw[z] at J;injection J
   |some cd=>exact⟨cd,rfl⟩
  have PF:Looks (model P0 g.w) s1.heap (mroOf (.ref C)) cd.mro:=λA Q E s k q=>U0 ((looks_clsIn W RJ) A _ E s k (U6 q));unfold ks_superIn at J;rw[RJ,Option.bind_some] at J;have Pq:x≠C:=λe=>by have:=W _ _ RH;rw[<-e,hx] at this;cases this
  rw[aB λR_ d=>?_,];obtain⟨hh,gg,Th,tk,os⟩:=s1;rw[d ?_,0 d R_,yh Pp (looks_opaque W HH) PF rfl W J hx rfl (looks_mroIn W XC.sub) Pq rfl<|aV (U.HE (h':=hh.push (mY x)) (a:=hh.objs.size) (λb o e=>Vh _ e) (λo e=>U9 (Vq e) (VB _)) (Vw _ rfl) (tk+1)) λG I=>?_,];have j:AR g A (bh S L fd.closure q (some f) fd.code fr) pos [e] c (λvs i=>vs.length=1/\i.σ x=some ⟨t,.exc C dx tb⟩/\rx g A (bh S L fd.closure q (some f) fd.code fr) B r i Q E) E:=by rw[jj (T.mono h (λv i q9=>pQ (Q:=λl u=>(v::l).length=1/\u.σ x=some ⟨t,.exc C dx tb⟩/\rx g A (bh S L fd.closure q (some f) fd.code fr) B r u Q E) ⟨rfl,q9⟩) λ_ _ e=>e) ?_,[M],];rfl
  have j:T g A _ IsL bot (spliced (backTo pos (starEach [e] _))) c _ E:=j;rw[M] at j⊢;rw[callWith_of (P:=λh=>h.get? hh.objs.size=some (mY x)) rfl (λh hP=>⟨.machine,.inr (.inl rfl),(Looks.ld (part:=none) hP).andThen .now⟩) (XG ?_),T.run j (.bot _) I (λF' as UN c' s' k ia n hc=>?_) λF2 b l u s2 f3 ib I h2=>⟨F2,l,u,R.trans (G.trans f3),ib,I,h2⟩,dG hc λhl y hE=>?_,0 hc,<-DY n.fr _ _ (k _ _ (ai.ae ..)),⟨DY,X7 ?_⟩,ah (n.obj _ _ y) λo RK Cj=>n4 Cj λws AG w6 w1 w2=>?_,0 Cj,3 AG,aB λR_ d=>?_,];obtain⟨h3,g3,d3,t3,UO⟩:=s';rw[d ?_,0 d R_,<-Ih Xd (ax [.eq af (.k 6)] (.lt gp af) (.l [1,0,1]) tt [_] w6),DX ((n.cW hb) _ _ RH) DY RK Ih (by rw[<-this ia.length.trans hl,5 (([]++as).length<=sizeLine),[Wg,this,VN],V5 _,]) ?_,]
  have zB:=n.fM (cT ([]++as).toArray 0);have Ti:=Vh (cT ([]++as).toArray 0) RK;have hg:=VM (Obj.mapFields (·.setIfInBounds 0 (.ref h3.objs.size))) Ti rfl;have KY:=zB.upd y (z:=⟨t,.exc C dx tb⟩) (Vp ..) hg ⟨_,rfl,by simpa using w6,by rw[[Xi (by decide)],w1,],by rw[[Xi (by decide)],w2,]⟩ t3;rw[set_same y] at KY;exact⟨F',.none,_,R.trans (G.trans k),rfl,KY,hE⟩
 ·rintro v s1 ⟨F1,b,i,R,iX,U,h1⟩
  rw[XS (h1 F1 Z s1 U) ?_ ?_,]
  ·rintro a s2 ⟨F2,b,u,G,i2,I,q2⟩;exact⟨F2,b,u,R.trans G,i2,I,q2⟩
  ·rintro a s2 ⟨F2,b,u,G,i2,I,q2⟩;exact⟨F2,b,u,R.trans G,i2,I,q2⟩
end
section
variable{g:G0}{A:Around}{env:Env}{c:CS}{E:V->CS->Prop}
def AH(t:Tag)(H:Base g)(L:b8 A (k+1))(D:Ig (KK g) C)(hi:findIn (KK g) (.ref C) "__init__"=some (some (.ref l)))
 (hf:typeIn (KK g) (.ref l)=some (.type "function")) (M:args.length<=100)
 (h:∀n x,b8 n k->n.frames=A.frames->c.σ x=none->kK g n env (.raw (.ref l)) (.loc x::args) ⟨c.m,c.σ.set x ⟨t,.exc C none none⟩⟩ (λv c'=>v=.none/\Q (.loc x) c') E):
 kK g A env (.raw (.ref C)) args c Q E:=λJ P U p a F Z s R st=>by
 cases(show P=.ref C from p);rw[<-X st.cW H,Lj D.at_ λnm qn N bs bm G sn sub ab d=>GF d λS dd k0 k1 k2 k3 k5 q W=>?_,0 d,<-i st.fM (cT U.toArray 0),<-u i.fresh.2.2,<-I i.c9 (qB C none #[.ref s.heap.objs.size,.none,.none,.none,.bool false,.none]) (y:=⟨t,.exc C none none⟩) ⟨_,rfl,rfl,rfl,rfl⟩,];dsimp only at u I;have w:(s.heap.push (cT U.toArray 0)).objs.size=s.heap.objs.size+1:=Wy ..;rw[w] at u I;rw[<-Y h (A.under (.builtin "type.__call__" ⟨.ref C::U,[]⟩)) (s.heap.objs.size+1) (L.under C U) rfl u J (.ref l) (.ref (s.heap.objs.size+1)::U) rfl (IsL.cons rfl a) F Z _ R I,aB λz o=>?_,];obtain⟨hh,gg,Th,tk,os⟩:=s;rw[o ?_,0 o z,Mo W (.of_peek X (D.GH ..)) (X _ _ q) (looks_findIn X hi) (λj=>bind_fn X j hf) (by rw[[a.length,VN],kl M,]) (WE Y λr s' x=>?_),]
 induction r with
 |ok f=>
  induction f with
  |ret v=>
   rw[aB λz o=>?_,];obtain⟨F',b,c',f1,i1,B,rfl,hQ⟩:=x;rw[o ?_,0 o z,];exact⟨i1,F',.loc _,c',f1,rfl,B,hQ⟩
  |_=>exact x
 |error e=>exact x
end
def AI(P:Params):Ig (KR P) 88:=⟨⟨"PaperFault","PaperFault",87,[.ref 47],[.ref 47,.type "Exception",.type "BaseException",.type "object"],true,[],[],false,none,none,some (.ref 63),none,some (kS "PaperFault" 250),some (kS "PaperFault" 258),some (.bool true),by kernel_rfl,by decide+kernel⟩,λS rest=>by kernel_rfl,by kernel_rfl⟩
def Mp(P:Params):findIn (KR P) (.ref 88) "__init__"=some (some (.ref 78)):=by kernel_rfl
def Mq(P:Params):typeIn (KR P) (.ref 78)=some (.type "function"):=by kernel_rfl
def Mr(P:Params):typeIn (KR P) (.ref 37)=some (.type "function"):=by kernel_rfl
def Ms(P:Params):fnIn (KR P) 37=true:=by kernel_rfl
def Mt(P:Params):ks_superIn (KR P) 88 88 "__init__"=some (some (.ref 37)):=by kernel_rfl
def Mu(P:Params):ks_superIn (KR P) 88 47 "__init__"=some (some (.builtin "Exception.__init__")):=by kernel_rfl
def DZ(P:Params):mroIn (KR P) 88 (.ref 47)=some true:=by kernel_rfl
def D0(P:Params):mroIn (KR P) 88 (.ref 88)=some true:=by kernel_rfl
def v7(P:Params):yg (KR P) 88:=⟨by kernel_rfl,by kernel_rfl,by kernel_rfl,by kernel_rfl,by kernel_rfl,_,(show clsIn (KR P) 88=some {name:="PaperFault",bases:=[.ref 47],mro:=[.ref 88,.ref 47,.type "Exception",.type "BaseException",.type "object"],ns:=87,qualname:="PaperFault",subclasses:=[]} from by kernel_rfl),rfl,λself=>by rw[refuseLoop_ref,refuseLoop_ref];kernel_rfl⟩
def D1(P:Params):takerIn (KR P) 88 "what"=some none:=by kernel_rfl
def AJ(P:Params):takerIn (KR P) 88 "place"=some none:=by kernel_rfl
def AK(P:Params):(findIn (KR P) (.ref 88) "place").any (noGet (KR P))=true:=by kernel_rfl
noncomputable section
structure Tg where
 k:Nat
 i:Nat
noncomputable abbrev Tg.t(t:Tg):Tag:=.g t.k t.i false
noncomputable abbrev Tg.d(t:Tg):Tag:=.g t.k t.i true
inductive GO where
 |one (a:Addr) (k:OK)
 |obj (a C d:Addr) (fs:List (Nat×V))
noncomputable abbrev GO.ctorIdx(v:GO):Nat:=v.casesOn (λ_ _=>0) λ_ _ _ _=>1
noncomputable abbrev aq:=Tg->Option GO
noncomputable abbrev GM:=List (Nat×V)
noncomputable def Tg.K1(x y:Tg):Bool:=Nat.beq x.k y.k&&Nat.beq x.i y.i
def Tg.v8{x y:Tg}:x.K1 y=true↔x=y:=by obtain⟨a,b⟩:=x;obtain⟨c,d⟩:=y;rw[2 Tg.K1,[W8],⟨λ⟨e,I⟩=>by cases V' e;cases V' I;rfl,λe=>by injection e with o C;rw[3 o,3 C,⟨Nat.beq_refl a,Nat.beq_refl b⟩,]⟩,]
def Tg.sr(x:Tg):x.K1 x=true:=Tg.v8.mpr rfl
def Tg.AL{t u:Tg}(h:t≠u):t.K1 u=false:=VC.mpr λe=>h (Tg.v8.mp e)
noncomputable def aq.set(σ:aq)(t:Tg)(o:GO):aq:=λx=>cond (t.K1 x) (some o) (σ x)
noncomputable def aq.del(σ:aq)(t:Tg):aq:=λx=>cond (t.K1 x) none (σ x)
def aq.ae{σ:aq}{t:Tg}{o:GO}:(σ.set t o) t=some o:=by rw[2 aq.set,[Tg.sr],];rfl
def aq.ag{σ:aq}{t u:Tg}{o:GO}(h:t≠u):(σ.set t o) u=σ u:=by rw[2 aq.set,[Tg.AL h],];rfl
def aq.aR{σ:aq}{t u:Tg}(h:t≠u):(σ.del t) u=σ u:=by rw[2 aq.del,[Tg.AL h],];rfl
noncomputable def AN:List Str:=List.map Str.ofString (["heap","parts","level","mark","beside","nodes","numbers","weights","depths","above","lots","merged","bank","unions","edges","forest","known","waiting","backs","changes","marks","made","what","place"]++[
 "append","pop","extend","get","setdefault","isspace","index",
 "renewed","path","paper","between","of_edge","size","take","require","put","cut","op","kids","node","term","weight","depth","make","find","merge","members","back","add","look_at","join","settle","push","unmake","unjoin"])
noncomputable def an(i:Nat):Str:=AN.getD i ""
noncomputable def v9(p:Nat×V):Str×V:=(an p.1,p.2)
noncomputable def lk:GM->Nat->Option V
 |[],_=>none
 |p::r,i=>bif Nat.beq p.1 i then some p.2 else lk r i
def PG:(Nat.beq i j=true)=(i=j):=propext ⟨V',λe=>e▸Nat.beq_refl i⟩
def AM(h:¬i=j):Nat.beq i j=false:=VC.mpr λe=>h (V' e)
def d9:lk ((i,X)::r) i=some X:=by rw[2 lk,[Nat.beq_refl],];rfl
def cQ(h:¬i=j):lk ((i,X)::r) j=lk r j:=by rw[lk,AM h];rfl
def FU:AN.Nodup/\("":Str)∉AN:=by decide+kernel
def getD_at{o:Type}{l:List o}{i:Nat}{d:o}(h:i<l.length):l.getD i d=l[i]:=by simp[List.getD,h]
def AO{o:Type}{l:List o}{i:Nat}{d:o}(h:l.length<=i):l.getD i d=d:=by simp[List.getD,h]
def AP{i j:Nat}(hi:i<AN.length)(h:an j=an i):j=i:=by
 unfold an at h;rw[getD_at hi] at h;by_cases o:j<AN.length
 ·rw[getD_at o] at h
  exact(List.getElem_inj FU.1).mp h
 ·rw[AO (Wn o)] at h
  rw[U9 (h▸WH hi) FU.2,]
def qC(hi:i<AN.length):(fs.map v9).lookup (an i)=lk fs i:=by
 induction fs with
 |nil=>rfl
 |cons p r o=>
  rw[VI,show v9 p=(an p.1,p.2) from rfl,List.lookup];by_cases q:p.1=i
  ·rw[[q,Xl],(q▸d9:lk (p::r) i=_).symm,]
  ·rw[[Wt λe=>q (AP hi e.symm)],o.trans (cQ q).symm,]
noncomputable def fF(i:Nat)(X:V):List (Nat×V)->List (Nat×V)
 |[]=>[(i,X)]
 |p::r=>bif Nat.beq i p.1 then(p.1,X)::r else p::fF i X r
def Ii(hi:i<AN.length):gq (an i) X (fs.map v9)=(fF i X fs).map v9:=by
 induction fs with
 |nil=>rfl
 |cons p r o=>
  rw[(?_:(if an p.1=an i then(an p.1,X)::r.map v9 else v9 p::gq (an i) X (r.map v9))=(bif Nat.beq i p.1 then(p.1,X)::r else p::fF i X r).map v9),];by_cases q:i=p.1
  ·rw[q,Nat.beq_refl,Vb rfl];rfl
  ·rw[AM q,U8 λe=>q (AP hi e).symm,o];rfl
noncomputable def Mv(t:Tg)(s:ak):GO->Prop
 |.one a k=>s a=some ⟨t.t,k⟩
 |.obj a C d fs=>s a=some ⟨t.t,.inst C d⟩/\s d=some ⟨t.d,.ns (fs.map v9)⟩
def aD(σ:aq)(s:ak):Prop:=∀t o,σ t=some o->Mv t s o
def Mv.mono(h:∀a x b,s a=some ⟨.g t.k t.i b,x⟩->s' a=some ⟨.g t.k t.i b,x⟩):∀{o:GO},Mv t s o->Mv t s' o
 |.one ..,e=>h _ _ _ e
 |.obj ..,e=>⟨h _ _ _ e.1,h _ _ _ e.2⟩
def aD.put{σ:aq}{s s':ak}{t:Tg}{o:GO}(r:aD σ s)(h:∀a x,s a=some x->x.t≠t.t->x.t≠t.d->s' a=some x)(k:Mv t s' o):aD (σ.set t o) s':=λu p e=>by
 by_cases q:t=u
 ·subst q;rw[aq.ae] at e;rw[1 e,k,]
 ·rw[aq.ag q] at e
  have C:∀b J,Tag.g u.k u.i b≠.g t.k t.i J:=λb J e=>q (by obtain⟨_,_⟩:=t;obtain⟨_,_⟩:=u;injection e with U f;rw[8 U,8 f,];rfl);exact(r u p e).mono λa x b j=>h a _ j (C _ _) (C _ _)
def aD.PH(r:aD σ s)(h:∀a x k i b,s a=some ⟨.g k i b,x⟩->s' a=some ⟨.g k i b,x⟩):aD σ s':=λu p e=>(r u p e).mono λa x b o=>h _ _ _ _ _ o
def dK{s:ak}{a b:Addr}{x y:O}(h:s b=some x)(C:∀z,s a=some z->x.t≠z.t):(s.set a y) b=some x:=by rw(config:={}) [ak.ag _ _ λe=>?_];rw[h,8 e,C x h rfl,]
def aD.upd{σ:aq}{s:ak}{t:Tg}{a:Addr}{k C:OK}(r:aD σ s)(h:σ t=some (.one a k)):aD (σ.set t (.one a C)) (s.set a ⟨t.t,C⟩):=
 r.put (λb x e J _=>dK e λz I=>by rw[show s a=_ from r t _ h] at I;rw[1 I,J,]) (ak.ae ..)
def aD.new{σ:aq}{s:ak}{t:Tg}{a:Addr}{k:OK}(r:aD σ s)(h:s a=none):aD (σ.set t (.one a k)) (s.set a ⟨t.t,k⟩):=
 r.put (λb x e C _=>dK e λz o=>by rw[h] at o;rw[7 o,]) (ak.ae ..)
def aD.PJ{σ:aq}{s:ak}{t:Tg}{a C d:Addr}{fs o:List (Nat×V)}(r:aD σ s)(h:σ t=some (.obj a C d fs)):aD (σ.set t (.obj a C d o)) (s.set d ⟨t.d,.ns (o.map v9)⟩):=by rw[<-J r t _ h,r.put (λb x e j i=>dK e λz I=>by rw[J.2] at I;rw[1 I,i,]) ⟨dK J.1 λz I=>?_,ak.ae ..⟩,];rw[J.2] at I;rw[1 I,];exactλe=>nomatch e
def aD.PL{σ:aq}{s:ak}{t:Tg}{a C d:Addr}{fs:List (Nat×V)}(r:aD σ s)(U:s d=none)(f:s a=none)(J:a≠d):aD (σ.set t (.obj a C d fs)) ((s.set d ⟨t.d,.ns (fs.map v9)⟩).set a ⟨t.t,.inst C d⟩):=by
 have I:(s.set d ⟨t.d,.ns (fs.map v9)⟩) a=none:=by rw[[ak.ag _ _ J],f,]
 rw[r.put (λb x e i j=>?_) ⟨ak.ae ..,?_⟩,]
 ·have h:(s.set d ⟨t.d,.ns (fs.map v9)⟩) b=some x:=dK e λz o=>by rw[U] at o;injection o
  exact dK h λz o=>by rw[I] at o;rw[7 o,]
 ·exact dK (ak.ae ..) λz o=>by rw[I] at o;rw[7 o,]
def aD.rem{σ:aq}{s:ak}{t:Tg}{a:Addr}{k:OK}(r:aD σ s)(h:σ t=some (.one a k)):aD (σ.del t) (s.del a):=λu p e=>by
 by_cases q:t=u
 ·subst q;unfold aq.del at e;rw[Tg.sr] at e;rw[7 e,]
 ·rw[aq.aR q] at e
  rw[(r u p e).mono λb x J o=>?_,[ak.aR],o,]
  rintro rfl
  rw[show s b=_ from r t _ h] at o;injection o with o;injection o with o;injection o with C I;rw[q (by obtain⟨_,_⟩:=t;obtain⟨_,_⟩:=u;rw[9 C,9 I,];rfl),]
noncomputable abbrev XQ:=Addr->List (Nat×V)->aq->Prop
noncomputable abbrev iI:XQ:=λ_ _ _=>False
structure Fr where
 g:G0
 k:Nat
 ret:V->aq->Prop
 exc:XQ
noncomputable abbrev Fr.quiet(F:Fr):Fr:=⟨F.g,F.k,F.ret,iI⟩
noncomputable def Ij(h:Option (Tg×Addr))(l:List V)(σ:aq):aq:=match h with|none=>σ|some (t,a)=>σ.set t (.one a (.list l))
noncomputable abbrev Fr.lst(F:Fr)(h:Option (Tg×Addr))(l:List V):Fr:=⟨F.g,F.k,λv o=>F.ret v (Ij h l o),iI⟩
noncomputable def EE(exc:XQ):V->CS->Prop:=λX c'=>∃o,aD o c'.σ/\∃I C J U a,X=.loc I/\c'.σ I=some ⟨.exc,.exc C (some J) U⟩/\c'.σ J=some ⟨.my,.ns (List.map v9 a)⟩/\
 (∀T,U=some T->c'.σ T=some ⟨.tb,.lA .none⟩)/\exc C a o
def EE.quiet(h:EE iI X c):False:=by rw[6 h,λo=>ah o λ_ _ C=>GA C λ_ _ _ _ _ _ _ _ _ h=>?_,0 o C,h,]
def GJ{β:Type}(g:G0)(k:Nat)(exc:XQ)(σ:aq)(J:Around->Env->CS->(β->CS->Prop)->(V->CS->Prop)->Prop)(Q:β->aq->Prop):Prop:=
 Base g->∀A env c,b8 A k->aD σ c.σ->J A env c (λb c'=>c'.m=c.m/\∃o,aD o c'.σ/\Q b o) (EE exc)
abbrev Fr.j{β:Type}(F:Fr)(σ:aq)(J:Around->Env->CS->(β->CS->Prop)->(V->CS->Prop)->Prop)(Q:β->aq->Prop):Prop:=GJ F.g F.k F.exc σ J Q
noncomputable abbrev J1(g:G0)(f:Value->Sem Value)(x:V):Around->Env->CS->(V->CS->Prop)->(V->CS->Prop)->Prop:=λA env c Q E=>iF g A env Is f x c Q E
noncomputable abbrev JT(g:G0)(x:V):Around->Env->CS->(Bool->CS->Prop)->(V->CS->Prop)->Prop:=λA env c Q E=>iF g A env RB truthy x c Q E
noncomputable abbrev J2(g:G0)(f:Value->Value->Sem Value)(x y:V):Around->Env->CS->(V->CS->Prop)->(V->CS->Prop)->Prop:=λA env c Q E=>bN g A env Is f x y c Q E
noncomputable abbrev JU(g:G0)(f:Value->Value->Sem Unit)(x y:V):Around->Env->CS->(Unit->CS->Prop)->(V->CS->Prop)->Prop:=λA env c Q E=>bN g A env RU f x y c Q E
noncomputable abbrev J3(g:G0)(f:Value->Value->Value->Sem Unit)(x y z:V):Around->Env->CS->(Unit->CS->Prop)->(V->CS->Prop)->Prop:=λA env c Q E=>Cf g A env RU f x y z c Q E
noncomputable abbrev JM(g:G0)(i:Nat)(x:V):Around->Env->CS->(V×List V->CS->Prop)->(V->CS->Prop)->Prop:=λA env c Q E=>∀C,iF g A env RM (λo=>getMethod o (an i) C) x c Q E
noncomputable abbrev JC(g:G0)(f:V)(args:List V):Around->Env->CS->(V->CS->Prop)->(V->CS->Prop)->Prop:=λA env c Q E=>CA g A env f args c Q E
abbrev GC(g:G0)(k:Nat)(exc:XQ)(σ:aq)(f:V)(args:List V)(Q:V->aq->Prop):Prop:=GJ g k exc σ (JC g f args) Q
noncomputable def FV(σ:aq):V->Prop
 |.lst _|.tup _|.str _=>True
 |.loc a=>∃t k,σ t=some (.one a k)/\match k with|.list _|.dA _|.dT _=>True|_=>False
 |_=>False
def D2(σ:aq)(x:V)(l:List V):Prop:=x=.lst l\/x=.tup l\/∃a t,x=.loc a/\σ t=some (.one a (.list l))
inductive i9(tw:Bool)(σ:aq):V->List V->aq->Option (Tg×Addr)->Prop
 |lst (l:List V):i9 tw σ (.lst l) l σ none
 |tup (l:List V):i9 tw σ (.tup l) l σ none
 |loc {a:Addr} {t:Tg} {l:List V}:σ t=some (.one a (.list l))->i9 tw σ (.loc a) l (σ.del t) (some (t,a))
 |mi {a b k:Int} {n:Nat}:Builtin.Range.small a b k=true->Builtin.Range.rangeSize a b k=n->i9 tw σ (.mi a b k) (jo a k n) σ none
 |str {x:Str}:x.cps.all (· <128)=true->i9 tw σ (.str x) (signs x) σ none
 |zip {t0 t1 t2 t3:Tg} {X Y:List V} {i1 i2 TO z:Addr}:tw=true->σ t0=some (.one z (kZ i1 i2 TO))->σ t1=some (.one TO KZ)->σ t2=some (.one i1 (yY X))->σ t3=some (.one i2 (yY Y))->t1≠t0->t2≠t0->t3≠t0->t1≠t2->t1≠t3->t2≠t3->X.length=Y.length->
  i9 tw σ (.loc z) (uI X Y) ((((σ.del t0).del t1).del t2).del t3) none
 |enum {t0 t1:Tg} {X:List V} {it e:Addr}:tw=true->σ t0=some (.one e (Mm it))->σ t1=some (.one it (K0 X))->t1≠t0->i9 tw σ (.loc e) (kR 0 X) ((σ.del t0).del t1) none
noncomputable def bj:GM->GM->Prop
 |[],_=>True
 |p::r,m=>lk m p.1=some p.2/\bj r m
noncomputable def pairsOf:List V->List (Atom×V)
 |.int i::X::r=>(.i i,X)::pairsOf r
 |.str x::X::r=>(.s x,X)::pairsOf r
 |_=>[]
noncomputable abbrev KS:=List V->GM->aq->Prop
abbrev dq(stk:List V)(p:V->List V->Prop):Prop:=@List.rec V (λ_=>Prop) False (λx s _=>p x s) stk
abbrev top2(stk:List V)(p:V->V->List V->Prop):Prop:=dq stk λy s=>dq s λx s=>p x y s
abbrev PM(x:V)(d:Prop)(p:Bool->Prop):Prop:=@V.casesOn (λ_=>Prop) x d p (λ_=>d) (λ_=>d) (λ_=>d) (λ_=>d) (λ_=>d) (λ_=>d) d (λ_ _ _=>d) λ_ _ _=>d
abbrev isTup(x:V)(d:Prop)(p:List V->Prop):Prop:=@V.casesOn (λ_=>Prop) x d (λ_=>d) (λ_=>d) (λ_=>d) p (λ_=>d) (λ_=>d) (λ_=>d) d (λ_ _ _=>d) λ_ _ _=>d
abbrev FW(x:V)(d:Prop)(p:List V->Prop):Prop:=@V.casesOn (λ_=>Prop) x d (λ_=>d) (λ_=>d) (λ_=>d) (λ_=>d) p (λ_=>d) (λ_=>d) d (λ_ _ _=>d) λ_ _ _=>d
abbrev isKey(x:V)(d p:Prop):Prop:=@V.casesOn (λ_=>Prop) x d (λ_=>d) (λ_=>p) (λ_=>p) (λ_=>d) (λ_=>d) (λ_=>d) (λ_=>d) d (λ_ _ _=>d) λ_ _ _=>d
abbrev Ik(stk:List V)(p:Bool->List V->Prop):Prop:=dq stk λx s=>PM x False λb=>p b s
abbrev Il(b:Bool)(p:Prop):Prop:=@Bool.rec (λ_=>Prop) False p b
abbrev Mw(o:Option V)(p:V->Prop):Prop:=@Option.rec V (λ_=>Prop) False p o
abbrev Mx(n:Nat)(stk:List V)(k:List V->List V->Prop):Prop:=@Nat.rec (λ_=>List V->List V->Prop) (λs l=>k l s) (λ_ r s l=>dq s λx s=>r s (x::l)) n stk []
abbrev PN(l:List V)(k:List V->Prop):Prop:=@List.rec V (λ_=>List V->Prop) k (λx _ r l=>r (x::l)) l []
abbrev AQ(l s:List V)(k:List V->Prop):Prop:=PN l λl=>@List.rec V (λ_=>List V->Prop) k (λx _ r s=>r (x::s)) l s
abbrev PO(is:List Nat)(l:List V)(m:GM)(k:GM->Prop):Prop:=@List.rec Nat (λ_=>List V->GM->Prop) (λl a=>Il l.isEmpty (@List.rec (Nat×V) (λ_=>GM->Prop) k (λp _ r m=>r (p::m)) a m)) (λi _ r l a=>dq l λx l=>r l ((i,x)::a)) is l []
def wc(h:dq stk p):∃x s,stk=x::s/\p x s:=by
 induction stk using List.casesOn with
 |nil=>exact h.elim
 |cons x s=>exact⟨x,s,rfl,h⟩
def Im(h:PM x d p):(∃b,x=.bool b/\p b)\/d:=by induction x using V.casesOn<;>first|exact .inl ⟨_,rfl,h⟩|exact .inr h
def su(h:isTup x d p):(∃b,x=.tup b/\p b)\/d:=by induction x using V.casesOn<;>first|exact .inl ⟨_,rfl,h⟩|exact .inr h
def AS(h:FW x d p):(∃b,x=.lst b/\p b)\/d:=by induction x using V.casesOn<;>first|exact .inl ⟨_,rfl,h⟩|exact .inr h
def AU(h:isKey x d p):(∃a:Atom,x=a.v/\p)\/d:=by induction x using V.casesOn<;>first|exact .inl ⟨.i _,rfl,h⟩|exact .inl ⟨.s _,rfl,h⟩|exact .inr h
def gX(h:Il b p):b=true/\p:=by
 induction b with
 |true=>exact⟨rfl,h⟩
 |false=>exact h.elim
def Io(h:Mw o p):∃v,o=some v/\p v:=by
 induction o with
 |some v=>exact⟨v,rfl,h⟩
 |none=>exact h.elim
def AV{k:List V->List V->Prop}:∀{n:Nat} {s l:List V},@Nat.rec (λ_=>List V->List V->Prop) (λs l=>k l s) (λ_ r s l=>dq s λx s=>r s (x::l)) n s l->k ((s.take n).reverse++l) (s.drop n):=by
 intro n
 induction n with
 |zero=>exactλh=>h
 |succ n o=>
  intro s l h;rw[dh (wc h) λx s' q=>?_,<-h o q.2,[q.1,List.take_succ_cons,VZ,Vo],h,]
def wd:∀{l a:List V},@List.rec V (λ_=>List V->Prop) k (λx _ r l=>r (x::l)) l a->k (l.reverse++a):=by
 intro l
 induction l with
 |nil=>exactλh=>h
 |cons x l o=>intro a h;rw[[VZ,Vo],o h,]
def sx(h:AQ l s k):k (l++s):=by have h:=wd (k:=k) (wd (k:=λl=>@List.rec V (λ_=>List V->Prop) k (λx _ r s=>r (x::s)) l s) h);rw[VR,XJ] at h;rw[h,]
def D3:∀{l:List V} {a:GM},@List.rec Nat (λ_=>List V->GM->Prop) (λl a=>Il l.isEmpty (@List.rec (Nat×V) (λ_=>GM->Prop) k (λp _ r m=>r (p::m)) a m)) (λi _ r l a=>dq l λx l=>r l ((i,x)::a)) is l a->
 l.length=is.length/\k (a.reverse++is.zip l++m):=by
 have I:∀{a m:GM},@List.rec (Nat×V) (λ_=>GM->Prop) k (λp _ r m=>r (p::m)) a m->k (a.reverse++m):=λ{a}=>by
  induction a with
  |nil=>exactλh=>h
  |cons x l o=>intro a h;rw[[VZ,Vo],o h,]
 induction is with
 |nil=>exactλ{l a} h=>aV (gX h) λe h=>by rw[W9.mp e];exact⟨rfl,by rw[[List.zip_nil_right,VR],I h,]⟩
 |cons i is o=>
  intro l a h;rw[dh (wc h) λx U q=>?_,[q.1],aV (o q.2) λJ C=>⟨Ve Nat.succ J,?_⟩,];rw[VZ,Vo,Vo] at C;rw[[List.zip_cons_cons,Vo],C,]
noncomputable abbrev SC:=Fr->KS->KS
noncomputable def bad:SC:=λ_ _ _ _ _=>False
noncomputable abbrev ao:SC:=λ_ K=>K
noncomputable abbrev sq(a b:SC):SC:=λF K=>a F (b F K)
noncomputable abbrev ld(i:Nat):SC:=λF K o m C=>Mw (lk m i) λv=>K (v::o) m C
noncomputable abbrev st(i:Nat):SC:=λF K o m C=>dq o λv s=>K s ((i,v)::m) C
noncomputable abbrev cst(v:V):SC:=λF K o m C=>K (v::o) m C
noncomputable abbrev gl(v:Value):SC:=λF K o m C=>K (.raw v::o) m C
noncomputable abbrev bu:SC:=λF K C m o=>dq C λx s=>PM x (F.j o (JT F.g x) λb o=>K (.bool b::s) m o) λb=>K (.bool b::s) m o
noncomputable abbrev neg:SC:=λF K o m C=>Ik o λb s=>K (.bool (!b)::s) m C
inductive RL where
 |bin (op:Operator)
 |cmp (op:CmpOp)
 |un (op:UnaryOp)
 |attr (i:Nat)
 |ee (i:Nat)
 |gH (n:Nat)
 |dc (n:Nat)
 |sub
 |jz (i:Nat)
 |cD
 |kc
noncomputable def ins(I:RL):SC:=λF K J m C=>@RL.casesOn (λ_=>Prop) I
 (λU=>top2 J λx y s=>F.j C (J2 F.g (binaryOp U) x y) λv C=>K (v::s) m C)
 (λU=>top2 J λx y s=>F.j C (J2 F.g (compareOp U) x y) λv C=>K (v::s) m C)
 (λU=>dq J λx s=>F.j C (J1 F.g (unaryOp U) x) λv C=>K (v::s) m C)
 (λi=>dq J λx s=>F.j C (J1 F.g (λo=>getAttr o (an i) true) x) λv C=>K (v::s) m C)
 (λi=>dq J λx s=>F.j C (JM F.g i x) λf C=>Dc F.g f.1/\dq f.2 λy r=>r=[]/\K (y::f.1::s) m C)
 (λn=>dq (J.drop n) λf s=>GC F.g F.k F.exc C f (J.take n).reverse λv C=>K (v::s) m C)
 (λn=>top2 (J.drop n) λf y s=>GC F.g F.k F.exc C f (y::(J.take n).reverse) λv C=>K (v::s) m C)
 (top2 J λx y s=>FV C x/\F.j C (J2 F.g getItem x y) λv C=>K (v::s) m C)
 (λi=>top2 J λv o s=>F.j C (JU F.g (λo v=>setAttr o (an i) v) o v) λ_ C=>K s m C)
 (top2 J λo i s=>dq s λv s=>F.j C (J3 F.g setItem o i v) λ_ C=>K s m C)
 (top2 J λo i s=>F.j C (JU F.g delItem o i) λ_ C=>K s m C)
noncomputable abbrev bin(o:Operator):SC:=ins (.bin o)
noncomputable abbrev cmp(o:CmpOp):SC:=ins (.cmp o)
noncomputable abbrev un(o:UnaryOp):SC:=ins (.un o)
noncomputable abbrev attr(i:Nat):SC:=ins (.attr i)
noncomputable abbrev ee(i:Nat):SC:=ins (.ee i)
noncomputable abbrev gH(n:Nat):SC:=ins (.gH n)
noncomputable abbrev dc(n:Nat):SC:=ins (.dc n)
noncomputable abbrev sub:SC:=ins .sub
noncomputable abbrev jz(i:Nat):SC:=ins (.jz i)
noncomputable abbrev cD:SC:=ins .cD
noncomputable abbrev kc:SC:=ins .kc
noncomputable def fns:List Addr:=[109,116,121,126,176,185,292,374,578,587,592,597,602,607,614,621,628,633]
noncomputable def My(f:V):Bool:=match f with
 |.raw (.builtin _)=>true
 |.raw (.type _)=>true
 |.raw (.ref a)=>fns.any λb=>Nat.beq b a
 |_=>false
def Ip(P:Params):fns.all (λf=>keepIn (KR P) (.ref f))=true:=by kernel_rfl
noncomputable abbrev fn:SC:=λF K o m C=>dq o λf s=>Il (My f) (K o m C)
noncomputable abbrev fL:SC:=λF K o m C=>top2 o λy z s=>dq s λx s=>K (.fL x y z::s) m C
noncomputable abbrev tup(n:Nat):SC:=λF K o m C=>Il (Nat.ble n 100000) (Mx n o λl s=>K (.tup l::s) m C)
noncomputable def lst(n:Nat):SC:=λF K o m C=>n<=100000/\(K (.lst (o.take n).reverse::o.drop n) m C\/∃t:Tg,∀a,K (.loc a::o.drop n) m (C.set t (.one a (.list (o.take n).reverse))))
noncomputable def gY:SC:=λF K o m C=>∃(t:Tg) (b:Bool),∀a,K (.loc a::o) m (C.set t (.one a (bif b then .dT [] else .dA [])))
noncomputable def sA:SC:=λF K o m C=>∃(t:Tg),∀a,K (.loc a::o) m (C.set t (.one a (.dA [])))
noncomputable abbrev key:SC:=λF K o m C=>dq o λx s=>isKey x (∃(a:Atom),x=a.v/\K o m C) (K o m C)
noncomputable def mZ(n:Nat):SC:=λF K o m C=>dq (o.drop (2*n)) λx s=>∃(a:Addr) (t:Tg),x=.loc a/\C t=some (.one a (.dA []))/\K (.loc a::s) m (C.set t (.one a (.dA (j7 [] (pairsOf (o.take (2*n)).reverse)))))
noncomputable abbrev K2(n:Nat):SC:=λF K C m o=>dq C λx s=>isTup x (FW x (∃l,D2 o x l/\l.length=n/\K (l++s) m o) λl=>Il (Nat.beq l.length n) (AQ l s λs=>K s m o)) λl=>Il (Nat.beq l.length n) (AQ l s λs=>K s m o)
noncomputable abbrev pop:SC:=λF K o m C=>dq o λ_ s=>K s m C
noncomputable abbrev cU:SC:=λF K o m C=>dq o λv _=>F.ret v C
noncomputable abbrev Ck(l:List Nat):SC:=λF K C m I=>dq C λx s=>isTup x (∃o,x=.tup o/\o.length=l.length/\K s (l.zip o++m) I) λo=>PO l o m λm=>K s m I
noncomputable abbrev Oh:SC:=λF K o m C=>dq o λf s=>f=.raw (.ref 88)/\K s m C
noncomputable def rz:SC:=λF K o m C=>3<=F.k/\top2 o λx y s=>F.exc 88 [(22,x),(23,y)] C
noncomputable def ef(step:V->GM->aq->(GM->aq->Prop)->Prop)(K:GM->aq->Prop):List V->GM->aq->Prop
 |[],m,σ=>K m σ
 |x::xs,m,σ=>∃m0,bj m0 m/\step x m0 σ (ef step K xs)
noncomputable def fo(step:V->aq->List V->(List V->aq->Prop)->Prop)(K:List V->aq->Prop):List V->List V->aq->Prop
 |[],o,σ=>K o σ
 |x::xs,o,σ=>step x σ o (fo step K xs)
def Cm(s:List V)(p q:Prop):Prop:=match s with|[.bool b]=>(b=true->p)/\(b=false->q)|_=>False
def gb(o C:KS->KS)(x:V)(m:GM)(σ:aq)(I:GM->aq->Prop):Prop:=o (λs m σ=>s=[]/\C (λs m σ=>s=[]/\I m σ) [] m σ) [x] m σ
def iJ(J U a:KS->KS)(m0:GM)(x:V)(σ:aq)(o:List V)(C:List V->aq->Prop):Prop:=J (λs b σ=>s=[]/\U (λs I σ=>Cm s
 (a (λs d σ=>match s with|[y]=>bj m0 d/\o.length<=100000/\C (o++[y]) σ|_=>False) [] I σ) (bj m0 I/\C o σ)) [] b σ) [x] m0 σ
noncomputable def short:BoolOp->Bool->Bool
 |.And,b=>!b
 |.Or,b=>b
noncomputable def ite(t e:SC):SC:=λF K o m C=>Ik o λb s=>(b=true->t F K s m C)/\(b=false->e F K s m C)
noncomputable def eu(C:BoolOp)(y:SC):SC:=λF K o m I=>Ik o λb s=>(short C b=true->K (.bool b::s) m I)/\(short C b=false->y F K s m I)
noncomputable def AW(I:BoolOp)(y:SC):SC:=λF K C m o=>dq C λv s=>F.j o (JT F.g v) λb o=>(short I b=true->K (v::s) m o)/\(short I b=false->y F K s m o)
noncomputable def chain(o:CmpOp)(z:SC):SC:=λF K I m C=>top2 I λx y s=>F.j C (J2 F.g (compareOp o) x y) λv C=>F.j C (JT F.g v) λb C=>
 (b=true->z F K (y::s) m C)/\(b=false->K (.bool false::s) m C)
noncomputable def df(J:Bool)(t b:SC):SC:=λF K C m I=>dq C λx s=>∃l o h,i9 J I x l o h/\ef (gb (t (F.lst h l)) (b (F.lst h l))) (λm I=>K s m (Ij h l I)) l m o
noncomputable def iB(t b:SC):SC:=λF K I m o=>∃Inv:Nat->GM->aq->Prop,(∃n C,bj C m/\Inv n C o)/\∀n m o,Inv n m o->t F.quiet (λs m o=>Cm s
 (b F.quiet (λs m o=>s=[]/\∃J C,J<n/\bj C m/\Inv J C o) [] m o) (K I m o)) [] m o
noncomputable def comp(f:Bool)(I:List Nat)(i t c e:SC):SC:=λF K J m U=>∃C:GM,C.map (·.1)=I/\bj C m/\i F (λj d a=>dq j λx s=>∃l o h,bj C d/\i9 f a x l o h/\
 fo (iJ (t F.quiet) (c F.quiet) (e F.quiet) C) (λb U=>K (.lst b::s) d (Ij h l U)) l [] o) J m U
noncomputable abbrev aa(i:Nat)(k:SC):SC:=sq (ld i) k
noncomputable abbrev aN(i:Nat)(k:SC):SC:=sq (st i) k
noncomputable abbrev a9(i:Nat)(k:SC):SC:=sq (attr i) k
noncomputable abbrev a'(i:Nat)(k:SC):SC:=sq (ee i) k
noncomputable abbrev ba(i:Nat)(k:SC):SC:=sq (dc i) k
noncomputable abbrev aL(i:Nat)(k:SC):SC:=sq (gH i) k
noncomputable abbrev bc(i:Nat)(k:SC):SC:=sq (tup i) k
noncomputable abbrev eY(i:Nat)(k:SC):SC:=sq (lst i) k
noncomputable abbrev gd(i:Nat)(k:SC):SC:=sq (K2 i) k
noncomputable abbrev jf(i:Nat)(k:SC):SC:=sq (jz i) k
noncomputable abbrev bO(i:CmpOp)(k:SC):SC:=sq (cmp i) k
noncomputable abbrev dk(i:Operator)(k:SC):SC:=sq (bin i) k
noncomputable abbrev au(v:V)(k:SC):SC:=sq (cst v) k
noncomputable abbrev Mz(v:Value)(k:SC):SC:=sq (gl v) k
noncomputable abbrev aM(v:Value)(k:SC):SC:=sq (gl v) (sq fn k)
end
noncomputable section
noncomputable def MA:List (Str×Value):=[("HeapError",.ref 47),("TermFault",.ref 60),("PaperFault",.ref 88),("LimitFault",.ref 100),("MOST_NODES",.int 100000 303),("MOST_PARTS",.int 20000 305),("MOST_LEVELS",.int 100 307),
 ("mark_of",.ref 109),("told_term",.ref 116),("paper_of_edge",.ref 121),("joined_row",.ref 126),("Whys",.ref 176),("is_op",.ref 185),("Bank",.ref 292),("Unions",.ref 374),("Levels",.ref 578),
 ("_law_drop",.ref 587),("_law_term",.ref 592),("_law_homes",.ref 597),("_law_ends",.ref 602),("_law_more",.ref 607),("_law_deed",.ref 614),("_law_is_right",.ref 621),("_law_are_right",.ref 628)]
noncomputable def K3:List (Str×Value):=[("len",.builtin "len"),("list",.type "list"),("tuple",.type "tuple"),("sorted",.builtin "sorted"),("set",.type "set"),("sum",.builtin "sum"),("max",.builtin "max"),("min",.builtin "min"),
 ("range",.type "range"),("zip",.type "zip"),("enumerate",.type "enumerate"),("int",.type "int"),("str",.type "str")]
noncomputable def AX(k:Nat)(e:Expr):Bool:=Nat.beq e.ctorIdx k
noncomputable def cE(e:Expr):Bool:=!AX 7 e
noncomputable def xc{o:Type}(d:o)(e:Expr)(bool:BoolOp->List Expr->Pos->o:=λ_ _ _=>d)(bin:Expr->Operator->Expr->Pos->o:=λ_ _ _ _=>d)(un:UnaryOp->Expr->Pos->o:=λ_ _ _=>d)(ife:Expr->Expr->Expr->Pos->o:=λ_ _ _ _=>d)
 (dic:List (Option Expr)->List Expr->Pos->o:=λ_ _ _=>d) (lc:Expr->List Comprehension->Scope->Pos->o:=λ_ _ _ _=>d) (cmp:Expr->List CmpOp->List Expr->Pos->o:=λ_ _ _ _=>d) (call:Expr->List Expr->List Keyword->Pos->o:=λ_ _ _ _=>d)
 (con:Const->Nat->Pos->o:=λ_ _ _=>d) (att:Expr->Str->Pos->o:=λ_ _ _=>d) (sub:Expr->Expr->Pos->o:=λ_ _ _=>d) (nam:Str->Pos->o:=λ_ _=>d) (lis:List Expr->Pos->o:=λ_ _=>d) (tup:List Expr->Nat->Pos->o:=λ_ _ _=>d)
 (sli:Option Expr->Option Expr->Option Expr->Pos->o:=λ_ _ _ _=>d):o:=
 @Expr.casesOn (λ_=>o) e bool (λ_ _ _=>d) bin un (λ_ _ _ _=>d) ife dic (λ_ _ _=>d) lc (λ_ _ _ _=>d) (λ_ _ _ _ _=>d) (λ_ _ _ _=>d) (λ_ _=>d) (λ_ _=>d) (λ_ _=>d) cmp call (λ_ _ _ _=>d) (λ_ _=>d) con att sub (λ_ _=>d) nam lis tup sli
noncomputable def ja(e:Expr):Bool:=xc true e (call:=λf _ _ _=>!AX 23 f)
noncomputable def bF(e:Expr):Bool:=!AX 22 e
noncomputable def idx(l:List Str)(x:Str):Option Nat:=l.findIdx? (λy=>decide (y=x))
noncomputable abbrev gu(b:Bool)(c:SC):SC:=bif b then c else bad
noncomputable abbrev opt{C:Type}(o:Option C)(c:C->SC):SC:=match o with|some a=>c a|none=>bad
noncomputable def cV(o:List Str)(S:Scope)(x:Str)(f:Nat->SC):SC:=opt (idx o x) λi=>gu (decide (S.names.lookup x=some .local)||decide (S.names.lookup x=some .cell)) (f i)
noncomputable def cG(x:Str):SC:=match MA.lookup x with
 |some v=>gl v
 |none=>opt (K3.lookup x) gl
noncomputable def cN(o:List Str)(S:Scope)(x:Str):SC:=gu (!decide (x="__debug__")) (bif decide (S.names.lookup x=some .globalImplicit) then cG x else cV o S x ld)
noncomputable def lH(o:Scope):List Str:=(o.names.filter λp=>decide (p.2=.free)).map (·.1)
noncomputable def cK:Const->SC
 |.int i=>cst (.int i)
 |.str s=>cst (.str s)
 |.none=>cst .none
 |.bool b=>cst (.bool b)
 |_=>bad
noncomputable def one{o:Type}(l:List o)(k:o->SC):SC:=match l with
 |[x]=>k x
 |_=>bad
noncomputable def two{o:Type}(l:List o)(k:o->o->SC):SC:=match l with
 |x::r=>one r (k x)
 |_=>bad
section
variable(nm:List Str)(E T A:Scope->Expr->SC)(S:Scope)
noncomputable def cL:List Expr->SC
 |[]=>ao
 |e::es=>gu (bF e) (sq (E S e) (cL es))
noncomputable def cO:Option Expr->SC
 |none=>cst .none
 |some e=>E S e
noncomputable def cP:List (Option Expr)->List Expr->SC
 |[],vs=>gu vs.isEmpty ao
 |k::ks,vs=>opt k λk=>match vs with
  |v::vs=>sq (E S k) (sq key (sq (E S v) (cP ks vs)))
  |[]=>bad
noncomputable def MB:List Expr->SC
 |[]=>ao
 |t::o=>sq (A S t) (MB o)
noncomputable def cC(l:Expr)(o:List CmpOp)(C:List Expr):SC:=one o λI=>one C λr=>gu (cE r) (sq (E S l) (sq (E S r) (cmp I)))
noncomputable def PQ(l:Expr)(o:List CmpOp)(C:List Expr):SC:=bif Nat.beq o.length 1 then one o λJ=>one C λr=>gu (cE r) (sq (E S l) (sq (E S r) (sq (cmp J) bu))) else
 two o λU a=>two C λb I=>gu (cE I) (sq (E S l) (sq (E S b) (chain U (sq (E S I) (sq (cmp a) bu)))))
noncomputable def Tj(o:BoolOp)(es:List Expr):SC:=two es λx y=>sq (E S x) (AW o (E S y))
noncomputable def Tn(o:BoolOp)(es:List Expr):SC:=two es λx y=>sq (T S x) (eu o (T S y))
noncomputable def PR(ks:List (Option Expr))(vs:List Expr):SC:=bif ks.isEmpty then gu vs.isEmpty gY else gu (ks.all (·.isSome)&&decide (ks.length=vs.length)&&decide (ks.length<=15)) (sq sA (sq (cP E S ks vs) (mZ ks.length)))
noncomputable def PS(f:Expr)(args:List Expr)(pos:Pos):SC:=xc bad f
 (att:=λo C I=>opt (idx AN C) λi=>gu (ja o&&args.all bF&&decide (I.endLine=pos.line)&&decide (args.length<30)) (sq (E S o) (sq (ee i) (sq (cL E S args) (dc args.length)))))
 (nam:=λx p=>gu (args.all bF) (sq (E S (.Name x p)) (sq fn (sq (cL E S args) (gH args.length)))))
noncomputable def K4(S:Scope)(l:List Expr):SC:=bif l.isEmpty then cst (.bool true) else one l (T S)
noncomputable def K5(J:Expr)(I:List Comprehension)(o:Scope):SC:=one I λC=>gu (decide (C.is_async=0)&&cE C.iter&&decide (mO o S (lH o))&&(lH o).all (λx=>(idx nm x).isSome)&&decide (lH o).Nodup)
 (comp (da C.target) ((lH o).map λx=>(idx nm x).getD 0) (E S C.iter) (A (ct o S) C.target) (K4 T (ct o S) C.ifs) (E (ct o S) J))
noncomputable def PU(e:Expr):SC:=xc bad e (con:=λk _ _=>cK k) (nam:=λx _=>cN nm S x) (bin:=λl J r _=>sq (E S l) (sq (E S r) (bin J))) (un:=λJ x _=>sq (E S x) (un J))
 (cmp:=λl h u _=>cC E S l h u) (bool:=λJ C _=>Tj E S J C) (ife:=λt b o _=>sq (T S t) (ite (E S b) (E S o))) (att:=λv a _=>opt (idx AN a) λi=>gu (ja v) (sq (E S v) (attr i)))
 (sub:=λv s _=>sq (E S v) (sq (E S s) sub)) (sli:=λlo hi st _=>sq (cO E S lo) (sq (cO E S hi) (sq (cO E S st) fL))) (tup:=λC _ _=>sq (cL E S C) (tup C.length)) (lis:=λC _=>sq (cL E S C) (lst C.length))
 (dic:=λG H _=>PR E S G H) (call:=λf U j m=>gu j.isEmpty (PS E S f U m)) (lc:=λn d I _=>K5 nm E T A S n d I)
noncomputable def PW(e:Expr):SC:=xc bad e (un:=λo x _=>match o with|.Not=>sq (T S x) neg|_=>bad) (bool:=λo I _=>Tn T S o I) (cmp:=λl C J _=>PQ E S l C J)
 (nam:=λx p=>sq (E S (.Name x p)) bu) (call:=λf a k p=>sq (E S (.Call f a k p)) bu)
noncomputable def PX(e:Expr):SC:=xc bad e (nam:=λx _=>cV nm S x st) (att:=λo a _=>opt (idx AN a) λi=>sq (E S o) (jz i)) (sub:=λo i _=>sq (E S o) (sq (E S i) cD)) (tup:=λC _ _=>gu (C.all bF) (sq (K2 C.length) (MB A S C)))
end
structure Lv where
 E:Scope->Expr->SC
 T:Scope->Expr->SC
 A:Scope->Expr->SC
noncomputable def lv(o:List Str):Nat->Lv
 |0=>⟨λ_ _=>bad,λ_ _=>bad,λ_ _=>bad⟩
 |n+1=>⟨PU o (lv o n).E (lv o n).T (lv o n).A,PW (lv o n).E (lv o n).T,PX o (lv o n).E (lv o n).A⟩
section
variable(nm:List Str)(L:Lv)(B:Scope->List Stmt->SC)(S:Scope)
noncomputable def Iq{o:Type}(t:Sem o):Option o:=@Sem.casesOn o (λ_=>Option o) t some (λ_=>none) (λ_=>none) (λ_=>none) (λ_ _=>none) (λ_ _=>none) (λ_ _ _=>none) (λ_ _ _ _=>none) (λ_ _=>none) (λ_ _=>none) (λ_ _=>none) (λ_ _=>none) (λ_=>none) (λ_=>none) (λ_ _ _=>none) (λ_ _ _=>none) (λ_ _ _ _ _=>none) (λ_ _=>none) (λ_ _=>none) (λ_ _=>none) (λ_ _ _ _=>none) (λ_ _ _ _=>none) (λ_=>none) (λ_ _=>none) (λ_=>none) (λ_ _ _ _ _=>none)
noncomputable def D4(S:Scope):Env:=bh S 0 [] "" none .none none
noncomputable def RN(t v:Expr)(ns:List Str):SC:=gu (AX 25 t&&ns.all λx=>decide (S.names.lookup x=some .local)&&(idx nm x).isSome) (sq (L.E S v) (Ck (ns.map λx=>(idx nm x).getD 0)))
noncomputable def PY(t v:Expr):SC:=xc bad t (nam:=λx _=>xc bad v (lc:=λI C o _=>gu (decide (S.names.lookup x=some .local)) (sq (K5 nm L.E L.T L.A S I C o) (L.A S t))))
noncomputable def PZ(t v:Expr)(n:Nat):SC:=gu (bF t) (opt (Iq (swapsWith v (some t) n (D4 S))) λb=>bif b then PY nm L S t v else opt (Iq (swappedStores [t] v (D4 S))) λo=>match o with
 |some ns=>RN nm L S t v ns
 |none=>sq (L.E S v) (L.A S t))
noncomputable def Oi(e:Expr):SC:=xc bad e (call:=λf o C _=>xc bad f (nam:=λx p=>two o λa b=>gu (decide (x="PaperFault")&&bF a&&bF b&&C.isEmpty) (sq (L.E S (.Name x p)) (sq Oh (sq (cL L.E S [a,b]) rz)))))
noncomputable def MC(s:Stmt):SC:=@Stmt.casesOn (λ_=>SC) s (λ_ _ _ _ _ _ _ _ _ _=>bad) (λ_ _ _ _ _ _ _ _ _ _=>bad) (λ_ _ _ _ _ _ _ _ _ _ _=>bad) (λe _=>match e with|some e=>sq (L.E S e) cU|none=>sq (cst .none) cU)
 (λC _=>one C λt=>xc bad t (sub:=λo i _=>sq (L.E S o) (sq (L.E S i) kc))) (λC v p=>one C λt=>PZ nm L S t v p.line) (λ_ _ _ _ _ _ _=>bad) (λ_ _ _ _=>bad) (λ_ _ _ _ _=>bad)
 (λt i b o _=>gu (o.isEmpty&&cE i) (sq (L.E S i) (df (da t) (L.A S t) (B S b)))) (λ_ _ _ _ _=>bad) (λt b o _=>gu o.isEmpty (iB (L.T S t) (B S b))) (λt b o _=>sq (L.T S t) (ite (B S b) (B S o)))
 (λ_ _ _=>bad) (λ_ _ _=>bad) (λ_ _ _=>bad) (λe c _=>gu c.isNone (opt e (Oi L S))) (λ_ _ _ _ _=>bad) (λ_ _ _ _ _=>bad) (λ_ _ _=>bad) (λ_ _=>bad) (λ_ _ _ _=>bad) (λ_ _=>bad) (λ_ _=>bad) (λe _=>gu (AX 16 e) (sq (L.E S e) pop)) (λ_=>ao) (λ_=>bad) λ_=>bad
end
noncomputable def cB(o:List Str)(L:Lv):Nat->Scope->List Stmt->SC
 |0,_,_=>bad
 |n+1,S,l=>match l with|[]=>ao|s::r=>sq (MC o L (cB o L n) S s) (cB o L n S r)
end
noncomputable section
def RelM(o:List Str)(m:GM)(C:List (Str×V)):Prop:=∀i v,lk m i=some v->∃x,o[i]?=some x/\C.lookup x=some v
structure ER(nm:List Str)(F:Fr)(S:Scope)(A:Around)(env:Env):Prop where
 hb:Base F.g
 rm:b8 A F.k
 nd:nm.Nodup
 ok:bV env
 FX:∃L cells q fn cd fr,env=bh S L cells q fn cd fr/\∀x,S.names.lookup x=some .cell->(cells.lookup x).isSome=true
 gl:∀x v,MA.lookup x=some v->nsIn (KK F.g) mainGlobals x=some (some v)
 bt:∀x v,K3.lookup x=some v->nsIn (KK F.g) mainGlobals x=some none/\bootBuiltins x=some v/\x≠"__name__"
def PK(C:List Str)(Q:GM->aq->Prop)(c:CS):Prop:=∃m o,RelM C m c.m/\aD o c.σ/\Q m o
def qD:lk ((x,v)::m) y=if x=y then some v else lk m y:=by
 by_cases h:x=y
 ·rw[8 h,[d9,Vb rfl],]
 ·rw[cQ h,U8 h]
def jA(h:idx l x=some i):l[i]?=some x/\i<l.length:=by
 unfold idx at h;rw[List.findIdx?_eq_some_iff_getElem] at h;rw[ah h λC o _=>?_,0 h,];have o:l[i]=x:=by simpa using o
 exact⟨by rw[U' C,o],C⟩
def uS(h:idx AN a=some i):an i=a:=by rw[aV (jA h) λo C=>?_,];rw[U' C] at o;rw[2 an,[getD_at C],VW o,]
def RelM.st(nd:o.Nodup)(h:RelM o m U)(I:o[i]?=some x):RelM o ((i,v)::m) ((x,v)::U):=λj w e=>by
 rw[qD] at e;by_cases q:i=j
 ·subst q;rw[Vb rfl] at e;rw[1 e,⟨x,I,bR⟩,]
 ·rw[U8 q] at e
  rw[ah (h j w e) λy J a=>⟨y,J,?_⟩,[St.dj,U8],a,]
  rintro rfl
  rw[aw (VH.mp J) λf b=>?_,aw (VH.mp I) λk d=>?_,q ((List.getElem_inj nd).mp (d.trans b.symm)),]
def cR:bj m0 m->∀i v,lk m0 i=some v->lk m i=some v:=by
 induction m0 with
 |nil=>exactλ_ i v e=>nomatch e
 |cons p r o=>
  rw[λh i v e=>?_,]
  replace e:=(qD ..).symm.trans e
  by_cases q:p.1=i
  ·rw[Vb q] at e;rw[q▸e▸h.1,]
  ·rw[U8 q] at e;rw[o h.2 i v e,]
def RelM.sub(r:RelM o m C)(h:bj m0 m):RelM o m0 C:=λi v e=>r i v (cR h i v e)
def FY{o:List Str}{i:Nat}{x:Str}(e:o[i]?=some x):o.getD i ""=x:=by rw[Vf,e];rfl
def RelM.map{o:List Str}{m:GM}{C:List (Str×V)}(nd:o.Nodup)(h:RelM o m C){m0:GM}:bj m0 m->dX (m0.map λp=>(o.getD p.1 "",p.2)) C:=by
 induction m0 with
 |nil=>exactλ_=>trivial
 |cons p r J=>exactλI=>aw (h p.1 p.2 I.1) λx q=>⟨(FY q.1).symm▸q.2,J I.2⟩
def yj{o:List Str}{m:GM}{C:List (Str×V)}(nd:o.Nodup)(I:RelM o m C){m0:GM}:bj m0 m->RelM o m0 (m0.map λp=>(o.getD p.1 "",p.2)):=by
 induction m0 with
 |nil=>exactλ_ _ _ e=>nomatch e
 |cons p r J=>exactλh=>aw (I p.1 p.2 h.1) λx q=>VI▸(FY q.1).symm▸(J h.2).st nd q.1
section
variable{g:G0}{A:Around}{env:Env}{α β:Type}{R:ai->β->α->Prop}{c:CS}{E:V->CS->Prop}{Q Q':β->CS->Prop}
def T.mq(h:T g A env R F₀ t c Q E)(o:∀b c',Q b c'->Q' b c'):T g A env R F₀ t c Q' E:=T.mono h o λ_ _ e=>e
def T.pk{J:List Str}{P:β->GM->aq->Prop}{t:Sem α}{F₀:ai}(h:T g A env R F₀ t c (λb=>PK J (P b)) E)(U:∀b C I o,RelM J I C.m->aD o C.σ->P b I o->Q' b C):T g A env R F₀ t c Q' E:=
 T.mono h (λb C q=>by rw[cp q λI o a b d=>?_,0 q,U _ _ _ _ a b d,]) λ_ _ e=>e
def gj{J:List Str}{P:β->aq->Prop}{t:Sem α}{F₀:ai}{m:GM}(U:RelM J m c.m)(h:T g A env R F₀ t c (λb c'=>c'.m=c.m/\∃σ',aD σ' c'.σ/\P b σ') E)(f:∀b I o,RelM J m I.m->aD o I.σ->P b o->Q' b I):T g A env R F₀ t c Q' E:=
 T.mono h (λb I q=>by rw[aV q λe C=>ah C λo a d=>?_,0 q C,f _ _ _ (e▸U) a d,]) λ_ _ e=>e
end
def PK.of(o:RelM C m c.m)(I:aD σ c.σ)(h:Q m σ):PK C Q c:=⟨m,σ,o,I,h⟩
def bw{b:Bool}{k:SC}{F:Fr}{K:KS}{stk:List V}{m:GM}{σ:aq}(h:gu b k F K stk m σ):b=true/\k F K stk m σ:=by
 induction b with
 |true=>exact⟨rfl,h⟩
 |false=>exact False.elim h
def gf{C:Type}{o:Option C}{k:C->SC}{F:Fr}{K:KS}{stk:List V}{m:GM}{σ:aq}(h:opt o k F K stk m σ):∃a,o=some a/\k a F K stk m σ:=by
 induction o with
 |some a=>exact⟨a,rfl,h⟩
 |none=>exact False.elim h
def gZ{o:Type}{l:List o}{k:o->SC}{F:Fr}{K:KS}{stk:List V}{m:GM}{σ:aq}(h:one l k F K stk m σ):∃x,l=[x]/\k x F K stk m σ:=by
 induction l using List.casesOn with
 |nil=>exact h.elim
 |cons x r=>
  induction r using List.casesOn with
  |nil=>exact⟨x,rfl,h⟩
  |cons _ _=>exact False.elim h
def m5{o:Type}{l:List o}{k:o->o->SC}{F:Fr}{K:KS}{stk:List V}{m:GM}{σ:aq}(h:two l k F K stk m σ):∃x y,l=[x,y]/\k x y F K stk m σ:=by
 induction l using List.casesOn with
 |nil=>exact h.elim
 |cons x r=>exact aw (gZ h) λy q=>⟨x,y,Ve _ q.1,q.2⟩
def nt{P:Prop}(h:false=true):P:=nomatch h
def D5{g:G0}{f:V}(h:My f=true):Dc g f:=by
 induction f using V.casesOn with
 |raw v=>
  induction v with
  |builtin id=>exact .bt id
  |type T=>exact .ty T
  |ref a=>exact aw (List.any_eq_true.mp h) λb q=>V' q.2▸.k (V8.mp (Ip _) b q.1)
  |_=>exact nt h
 |_=>exact nt h
section
variable{F:Fr}{K:KS}{s:List V}{m:GM}{σ:aq}{x:V}{n:Nat}{l:List Nat}
def uT(h:bu F K (x::s) m σ):F.j σ (JT F.g x) λb σ=>K (.bool b::s) m σ:=(Im h).elim (λq=>aw q λb q=>q.1▸λC A env c I o=>dt ⟨rfl,σ,o,q.2⟩) id
def Ir(h:tup n F K s m σ):n<=100000/\K (.tup (s.take n).reverse::s.drop n) m σ:=aV (gX h) λo C=>⟨U1 o,(Ve (λl=>K (.tup l::s.drop n) m σ) (VR _)).mp (AV C)⟩
def It(h:key F K (x::s) m σ):∃a:Atom,x=a.v/\K (x::s) m σ:=(AU h).elim id id
def FZ(h:fn F K (x::s) m σ):Dc F.g x/\K (x::s) m σ:=⟨D5 (gX h).1,(gX h).2⟩
def Iu(h:K2 n F K (x::s) m σ):∃l,D2 σ x l/\l.length=n/\K (l++s) m σ:=(su h).elim (λq=>aw q λl q=>⟨l,.inr (.inl q.1),V' (gX q.2).1,sx (k:=λs=>K s m σ) (gX q.2).2⟩)
 λh=>(AS h).elim (λq=>aw q λl q=>⟨l,.inl q.1,V' (gX q.2).1,sx (k:=λs=>K s m σ) (gX q.2).2⟩) id
def Iv(h:Ck l F K (x::s) m σ):∃o,x=.tup o/\o.length=l.length/\K s (l.zip o++m) σ:=(su h).elim (λq=>aw q λo q=>⟨o,q.1,D3 (k:=λm=>K s m σ) q.2⟩) id
end
def ra(h:(a&&b)=true):a=true/\b=true:=by simpa using h
def rd[Decidable p] (h:decide p=true):p:=Wi h
section
variable{nm:List Str}{F:Fr}{S:Scope}{A:Around}{env:Env}{K:KS}{stk:List V}{m:GM}{σ:aq}{c:CS}
def ER.kind(I:ER nm F S A env)(h:S.names.lookup x=some k):env.kindOf x=some k:=by rw[GD I.FX λL C q fn J U o _=>?_,3 o,h,]
def ER.cellsOf(I:ER nm F S A env)(h:S.names.lookup x=some .cell):(env.cells.lookup x).isSome=true:=by rw[GD I.FX λL C q fn U a o J=>?_,3 o,J x h,]
def AY(h:cV nm S x f F K stk m σ):∃i,nm[i]?=some x/\(S.names.lookup x=some .local\/S.names.lookup x=some .cell)/\f i F K stk m σ:=by rw[ah (gf h) λi hi h=>?_,<-h bw h,<-o h.1,];rw[Bool.or_eq_true,WN,WN] at o;exact⟨i,(jA hi).1,o,h.2⟩
def Iw(o:ER nm F S A env){x:Str}{pos:Pos}(J:RelM nm m c.m)(a:aD σ c.σ)(h:cN nm S x F K stk m σ):EV F.g A env (.Name x pos) c (λv=>PK nm (K (v::stk))) (EE F.exc):=by
 have h:=bw h;have b:(x==("__debug__":Str))=false:=by simpa using h.1
 have h:=h.2;by_cases d:S.names.lookup x=some .globalImplicit
 ·rw[Wo d,cond_true] at h
  unfold cG at h;cases U:MA.lookup x with
  |some v=>rw[U] at h;exact vN o.hb o.ok (o.kind d) (o.gl _ _ U) (PK.of J a h) b
  |none=>
   rw[U] at h;rw[ah (gf h) λv U h=>dG (o.bt _ _ U) λl n p=>?_,LH o.hb o.ok (o.kind d) l n p (PK.of J a h) b,]
 ·rw[WT d,cond_false] at h
  rw[bL (AY h) λi hi I C=>ah (Io C) λv q f=>?_,0 C,ah (J i v q) λy j k=>?_,];rw[hi] at j;rw[1 j,];rcases I with I|I
  ·rw[bE o.ok (o.kind I) k (PK.of J a f) b,]
  ·rw[zG o.ok (o.kind I) (o.cellsOf I) k (PK.of J a f) b,]
def yk(o:ER nm F S A env)(J:RelM nm m c.m)(U:aD σ c.σ)(h:cV nm S x st F K (X::stk) m σ):As F.g A env (.Name x pos) X c (PK nm (K stk)) (EE F.exc):=by
 rw[bL (AY h) λi hi C a=>?_,];have I:PK nm (K stk) ⟨(x,X)::c.m,c.σ⟩:=PK.of (J.st o.nd hi) U a;rcases C with C|C
 ·rw[pT o.ok (o.kind C) I,]
 ·rw[zI o.ok (o.kind C) (o.cellsOf C) I,]
def qE{o:CmpOp}{r:Expr}(h:cE r=true):behindInMarks o r=false:=by induction r using Expr.casesOn<;>first|exact@rfl Bool false|exact nt h
def uU{e:Expr}{x:Value}(h:cE e=true):foldedSetIterable e env x=pure x:=by induction e using Expr.casesOn<;>first|exact@rfl (Sem Value) (pure x)|exact nt h
def F7{v:Expr}{a:Str}{w:Sem Value}(h:ja v=true):attributeBase v a env w=w:=by
 induction v using Expr.casesOn with
 |Call f _ _ _=>induction f using Expr.casesOn<;>first|exact@rfl (Sem Value) w|exact nt h
 |_=>exact@rfl (Sem Value) w
def eZ{e:Expr}{es:List Expr}(h:bF e=true):starEach (e::es) env=(false,eval e env)::starEach es env:=by induction e using Expr.casesOn<;>first|exact nt h|rfl
def ip:es.all bF=true->(backTo pos (starEach es env)).any (·.1)=false:=by
 induction es with
 |nil=>exactλ_=>rfl
 |cons e es o=>exactλh=>eZ (ra h).1▸o (ra h).2
def Iy(d:aD σ c.σ)(I:FV σ x)(h:bN F.g A env Is getItem x y c Q E):bN F.g A env Is (subscriptTail J slice) x y c Q E:=by
 have C:∀o i,∃U,subscripted slice false o i=operate U (getItem o i):=λo i=>by induction slice using Expr.casesOn<;>first|exact⟨_,rfl⟩|(rename_i st _;induction st<;>exact⟨_,rfl⟩)
 induction x using V.casesOn with
 |str _=>exact uz h C
 |tup _=>exact eR h C
 |lst _=>exact i0 h C
 |loc a=>
  rw[dh I λt k q=>?_,<-b d _ _ q.1,<-e q.2,0 q I,]
  induction k with
  |list _=>exact uk b h C
  |dA _=>exact xS b h C
  |dT _=>exact xT b h C
  |_=>exact False.elim e
 |_=>exact I.elim
def D2.at_(h:D2 σ x l)(o:aD σ c.σ):SeqAt c x l\/x=.tup l:=by
 rcases h with h|h|⟨a,t,C,I⟩
 ·rw[.inl (.inl h),]
 ·rw[.inr h,]
 ·rw[.inl (.inr ⟨a,_,C,o _ _ I⟩),]
end
end
noncomputable section
def SE(I:List Str)(C:Scope->Expr->SC):Prop:=∀{S:Scope} {e:Expr} {F:Fr} {A:Around} {env:Env} {K:KS} {o:List V} {m:GM} {J:aq} {c:CS},ER I F S A env->RelM I m c.m->aD J c.σ->
 C S e F K o m J->EV F.g A env e c (λv=>PK I (K (v::o))) (EE F.exc)
def Cn(I:List Str)(C:Scope->Expr->SC):Prop:=∀{S:Scope} {e:Expr} {F:Fr} {A:Around} {env:Env} {K:KS} {o:List V} {m:GM} {J:aq} {c:CS},ER I F S A env->RelM I m c.m->aD J c.σ->
 C S e F K o m J->TS F.g A env e c (λb=>PK I (K (.bool b::o))) (EE F.exc)
def SA(I:List Str)(C:Scope->Expr->SC):Prop:=∀{S:Scope} {t:Expr} {X:V} {F:Fr} {A:Around} {env:Env} {K:KS} {o:List V} {m:GM} {J:aq} {c:CS},ER I F S A env->RelM I m c.m->aD J c.σ->
 C S t F K (X::o) m J->As F.g A env t X c (PK I (K o)) (EE F.exc)
section
variable{nm:List Str}{CE CT m6:Scope->Expr->SC}{S:Scope}{F:Fr}{A:Around}{env:Env}{K:KS}{stk:List V}{m:GM}{σ:aq}{c:CS}{pos:Pos}
def D6(o:RelM nm m c.m)(C:aD σ c.σ)(h:cK k F K stk m σ):EV F.g A env (.Constant k p pos) c (λv=>PK nm (K (v::stk))) (EE F.exc):=by induction k<;>first|exact h.elim|exact mB (PK.of o C h)|exact G3 (PK.of o C h)|exact CQ (PK.of o C h)|exact CR (PK.of o C h)
def MD(I:SE nm CE)(U:ER nm F S A env)(o:RelM nm m c.m)(C:aD σ c.σ)(h:sq (CE S l) (sq (CE S r) (bin d)) F K stk m σ):
 EV F.g A env (.BinOp l d r pos) c (λv=>PK nm (K (v::stk))) (EE F.exc):=
 G4 (T.pk (I U o C h) λx p q e o C h=>T.pk (I U o C h) λy f t i o C h=>λJ a b j k=>gj o (h U.hb A env f U.rm C J a b j k) λv u n o C h=>PK.of o C h)
def P1(I:SE nm CE)(U:ER nm F S A env)(o:RelM nm m c.m)(C:aD σ c.σ)(h:sq (CE S x) (un b) F K stk m σ):
 EV F.g A env (.UnaryOp b x pos) c (λv=>PK nm (K (v::stk))) (EE F.exc):=
 LJ (T.pk (I U o C h) λx d j e o C h=>λJ a f=>gj o (h U.hb A env d U.rm C J a f) λv k i o C h=>PK.of o C h)
def ME(I:SE nm CE)(U:ER nm F S A env)(o:RelM nm m c.m)(C:aD σ c.σ)(d:cE r=true)(h:sq (CE S l) (sq (CE S r) (cmp e)) F K stk m σ):
 EV F.g A env (.Compare l [e] [r] pos) c (λv=>PK nm (K (v::stk))) (EE F.exc):=
 t8 (T.pk (I U o C h) λx q t f o C h=>T.pk (I U o C h) λy i u j o C h=>λJ a b k n=>gj o (h U.hb A env i U.rm C J a b k n) λv w p o C h=>PK.of o C h) (qE d)
def MF(I:SE nm CE)(U:ER nm F S A env)(C:RelM nm m c.m)(J:aD σ c.σ)(i:cE r=true)(h:sq (CE S l) (sq (CE S r) (sq (cmp j) bu)) F K stk m σ):
 TS F.g A env (.Compare l [j] [r] pos) c (λb=>PK nm (K (.bool b::stk))) (EE F.exc):=
 G5 (T.pk (I U C J h) λx t u k C J h=>T.pk (I U C J h) λy n w p C J h=>λo a b d q=>gj C (h U.hb A env n U.rm J o a b d q) λv f e C J h=>
  λo a d=>gj C (uT h U.hb A env f U.rm J o a d) λv f e C J h=>PK.of C J h) (qE i)
def D7(I:SE nm CE)(U:ER nm F S A env)(C:RelM nm m c.m)(J:aD σ c.σ)(p:cE n=true)(h:sq (CE S l) (sq (CE S q) (chain r (sq (CE S n) (sq (cmp t) bu)))) F K stk m σ):
 TS F.g A env (.Compare l [r,t] [q,n] pos) c (λb=>PK nm (K (.bool b::stk))) (EE F.exc):=
 xP (T.pk (I U C J h) λx B D u C J h=>T.pk (I U C J h) λy i w j C J h=>λo a b d k=>gj C (h U.hb A env i U.rm J o a b d k) λv f e C J h=>
  λo a d=>gj C (h U.hb A env f U.rm J o a d) λb E z C J h=>by
   induction b with
   |false=>exact PK.of C J (h.2 rfl)
   |true=>exact T.pk (I U C J (h.1 rfl)) λy i w j C J h=>λo a b d k=>gj C (h U.hb A env i U.rm J o a b d k) λv f e C J h=>
    λo a d=>gj C (uT h U.hb A env f U.rm J o a d) λv f e C J h=>PK.of C J h) (qE p)
def F8(I:SE nm CE)(U:ER nm F S A env)(o:RelM nm m c.m)(C:aD σ c.σ)(h:sq (CE S e) bu F K stk m σ)
 (d:isTrue e env (eval e env)=(do let v<-eval e env;standAt e.pos;holding [v] (truthy v)):=by rfl):TS F.g A env e c (λb=>PK nm (K (.bool b::stk))) (EE F.exc):=
 G8 (T.pk (I U o C h) λx f l i o C h=>λJ a j=>gj o (uT h U.hb A env f U.rm C J a j) λv n k o C h=>PK.of o C h) d
def MH(I:Cn nm CT)(J:ER nm F S A env)(o:RelM nm m c.m)(C:aD σ c.σ)(h:sq (CT S x) neg F K stk m σ):
 TS F.g A env (.UnaryOp .Not x pos) c (λb=>PK nm (K (.bool b::stk))) (EE F.exc):=
 G6 (T.pk (I J o C h) λb a d U o C h=>PK.of o C h)
def Iz(I:Cn nm CT)(U:ER nm F S A env)(o:RelM nm m c.m)(C:aD σ c.σ)(h:sq (CT S x) (eu d (CT S y)) F K stk m σ):
 TS F.g A env (.BoolOp d [x,y] pos) c (λb=>PK nm (K (.bool b::stk))) (EE F.exc):=by
 rw[G7 ?_,]
 induction d with
 |And=>
  rw[ji (T.pk (I U o C h) λb e f a o C h=>?_),]
  induction b with
  |false=>exact PK.of o C (h.1 rfl)
  |true=>exact ji (T.mq (I U o C (h.2 rfl)) λb i J=>by induction b<;>first|exact J|exact rI J)
 |Or=>
  rw[kI (T.pk (I U o C h) λb e f a o C h=>?_),]
  induction b with
  |true=>exact PK.of o C (h.1 rfl)
  |false=>exact kI (T.mq (I U o C (h.2 rfl)) λb i J=>by induction b<;>first|exact J|exact t9 J)
def IA(I:SE nm CE)(U:ER nm F S A env)(o:RelM nm m c.m)(C:aD σ c.σ)(h:sq (CE S x) (AW j (CE S y)) F K stk m σ):
 EV F.g A env (.BoolOp j [x,y] pos) c (λv=>PK nm (K (v::stk))) (EE F.exc):=by
 induction j with
 |And=>
  rw[vO (T.pk (I U o C h) λv d k e o C h=>λJ a f=>gj o (h U.hb A env d U.rm C J a f) λb l i o C h=>?_),]
  induction b with
  |false=>exact PK.of o C (h.1 rfl)
  |true=>exact I U o C (h.2 rfl)
 |Or=>
  rw[G9 (T.pk (I U o C h) λv d k e o C h=>λJ a f=>gj o (h U.hb A env d U.rm C J a f) λb l i o C h=>?_),]
  induction b with
  |true=>exact PK.of o C (h.1 rfl)
  |false=>exact I U o C (h.2 rfl)
def P2(I:SE nm CE)(J:Cn nm CT)(a:ER nm F S A env)(C:RelM nm m c.m)(U:aD σ c.σ)(h:sq (CT S t) (ite (CE S b) (CE S o)) F K stk m σ):
 EV F.g A env (.IfExp t b o pos) c (λv=>PK nm (K (v::stk))) (EE F.exc):=by
 rw[LK (T.pk (J a C U h) λb e f d C U h=>?_),]
 induction b with
 |true=>exact I a C U (h.1 rfl)
 |false=>exact I a C U (h.2 rfl)
def IB(I:SE nm CE)(U:ER nm F S A env)(o:RelM nm m c.m)(C:aD σ c.σ)(hi:idx AN a=some i)(b:ja v=true)(h:sq (CE S v) (attr i) F K stk m σ):
 EV F.g A env (.Attribute v a pos) c (λv=>PK nm (K (v::stk))) (EE F.exc):=by
 rw[<-uS hi];rw[vP (T.pk (I U o C h) λx d k e o C h=>λJ a f=>gj o (h U.hb A env d U.rm C J a f) λv l j o C h=>PK.of o C h) (F7 b),]
def MI(I:SE nm CE)(U:ER nm F S A env)(C:RelM nm m c.m)(o:aD σ c.σ)(h:sq (CE S v) (sq (CE S s) sub) F K stk m σ):
 EV F.g A env (.Subscript v s pos) c (λv=>PK nm (K (v::stk))) (EE F.exc):=
 iY (T.pk (I U C o h) λx l n d C o h=>T.pk (I U C o h) λy e p f C o h=>Iy o h.1 λJ a b i j=>gj C (h.2 U.hb A env e U.rm o J a b i j) λv q k C o h=>PK.of C o h)
def AZ(I:SE nm CE)(J:ER nm F S A env)(o:RelM nm m c.m)(C:aD σ c.σ)(h:cO CE S e F K stk m σ):EP F.g A env e c (λv=>PK nm (K (v::stk))) (EE F.exc):=by
 induction e with
 |none=>exact De (PK.of o C h)
 |some e=>exact Df (I J o C h)
def D8{lo hi st:Option Expr}(I:SE nm CE)(J:ER nm F S A env)(o:RelM nm m c.m)(C:aD σ c.σ)(h:sq (cO CE S lo) (sq (cO CE S hi) (sq (cO CE S st) fL)) F K stk m σ):
 EV F.g A env (.Slice lo hi st pos) c (λv=>PK nm (K (v::stk))) (EE F.exc):=
 zE (T.pk (AZ I J o C h) λx d e U o C h=>T.pk (AZ I J o C h) λy f i a o C h=>T.pk (AZ I J o C h) λz j k b o C h=>PK.of o C h)
def m7(I:SE nm CE)(U:ER nm F S A env):∀{F':Unit} {K:KS} {stk:List V} {m:GM} {σ:aq} {c:CS},RelM nm m c.m->aD σ c.σ->cL CE S es F K stk m σ->
 AR F.g A env pos es c (λl c'=>l.length=es.length/\PK nm (K (l.reverse++stk)) c') (EE F.exc):=by
 induction es with
 |nil=>exactλo C h=>pQ ⟨rfl,PK.of o C h⟩
 |cons e es a=>exactλ{u K stk _ _ _} o C h=>jj (T.pk (I U o C (bw h).2) λx d f b o C h=>T.mq (a (F':=u) o C h) λl i J=>⟨Ve Nat.succ J.1,by rw[[VZ,Vo],J.2,]⟩) (by rw[eZ (bw h).1];rfl)
def cX(h:l.length=k):((l.reverse++stk).take k).reverse=l/\(l.reverse++stk).drop k=stk:=by subst h;rw[<-V2];simp
def D9(I:SE nm CE)(f:ER nm F S A env)(b:RelM nm m c.m)(d:aD σ c.σ)(h:sq (cL CE S es) (tup es.length) F K stk m σ):
 EV F.g A env (.Tuple es k pos) c (λv=>PK nm (K (v::stk))) (EE F.exc):=by
 rw[zo (T.mq (m7 (F':=()) I f b d h) λl p a=>?_),6 a,λo=>aB λi C=>aV o λe J=>cp J λq j b d U=>aV (Ir U) λn a=>C ?_,0 o C i J U,];rw[(cX e).1,(cX e).2] at a;exact⟨e▸n,PK.of b d a⟩
def T.pick(h:T g A env Is F₀ t c (λX C=>∃a d l σ,X=.loc a/\C.σ=σ.set a ⟨d,.list l⟩/\σ a=none/\(Q (.lst l) ⟨C.m,σ⟩\/∃t',Q (.loc a) ⟨C.m,σ.set a ⟨t',.list l⟩⟩)) E):T g A env Is F₀ t c Q E:=λF Z s r st=>by
 rw[T.run h r st (λj v X C u f w o i=>?_) λj a x C u f z o i=>⟨j,x,C,f,z,o,i⟩,CC i λa d l σ k I B J=>?_,0 i,3 k,aB λD U=>?_,];obtain⟨m,G⟩:=C;rw[U ?_,0 U D,];dsimp only at I;subst I;cases(show v=.ref a from w);rcases J with J|⟨t',J⟩
 ·rw[bL (o.freeze (a:=a) (t:=d) (l:=l) (ak.ae ..)) λH L M n=>⟨H,.lst l,⟨m,σ⟩,f.trans L,M,n.iE λb y e=>⟨y.t,?_⟩,J⟩,]
  show((σ.set a ⟨d,.list l⟩).del a) b=_;have p:b≠a:=λq=>by rw[q,B] at e;rw[7 e,]
  rw[[ak.aR _ p,ak.ag _ _ p],e,]
 ·exact⟨j,.loc a,_,f,rfl,_root_.Mine.FJ o,J⟩
def IC(I:SE nm CE)(j:ER nm F S A env)(d:RelM nm m c.m)(e:aD σ c.σ)(h:sq (cL CE S es) (lst es.length) F K stk m σ):
 EV F.g A env (.List es pos) c (λv=>PK nm (K (v::stk))) (EE F.exc):=by
 rw[T.pick (CU .dI (T.mq (m7 (F':=()) I j d e h) λl q C=>?_)),6 C,λo=>aB λk b=>aV o λf J=>cp J λr n d e U=>aV U λp C=>b ?_,0 o b k J U,];rw[(cX f).1,(cX f).2] at C;rw[⟨f▸p,λa i=>⟨a,_,_,_,rfl,rfl,i,?_⟩⟩,];rcases C with C|C
 ·rw[.inl (PK.of d e C),]
 ·rw[6 C,λo=>aw o λt C=>?_,0 o,.inr ⟨t.t,PK.of d (e.new i) (C a)⟩,]
def Ea(U:ER nm F S A env)(I:RelM nm m c.m)(J:aD σ c.σ)(h:gY F K stk m σ):
 EV F.g A env (.Dict [] [] pos) c (λv=>PK nm (K (v::stk))) (EE F.exc):=by
 rw[6 h,λo=>dh o λt b h=>?_,0 o,]
 induction b with
 |false=>exact z8 t.t λa C=>PK.of I (J.new C) (h a)
 |true=>exact xH t.t λa C=>PK.of I (J.new C) (h a)
def qF:pairsOf (l.flatMap λp=>[p.1.v,p.2])=l:=by
 induction l with
 |nil=>rfl
 |cons p r C=>exact p.casesOn λa X=>a.casesOn (motive:=λa=>pairsOf (((a,X)::r).flatMap λp=>[p.1.v,p.2])=(a,X)::r) (λx=>Ve ((Atom.i x,X)::·) C) λx=>Ve ((Atom.s x,X)::·) C
def A0{l:List (Atom×V)}:(l.flatMap λp=>[p.1.v,p.2]).length=2*l.length:=by
 induction l with
 |nil=>rfl
 |cons p r o=>rw[List.flatMap_cons,U7,o];rw[Yi 2 _,]
def Eb(I:SE nm CE)(J:ER nm F S A env):∀{vs:List Expr} {K:KS} {stk:List V} {m:GM} {σ:aq} {c:CS},RelM nm m c.m->aD σ c.σ->cP CE S ks vs F K stk m σ->
 DP F.g A env (pairTrees ks vs env pos) c (λl c'=>l.length=ks.length/\PK nm (K ((l.flatMap λp=>[p.1.v,p.2]).reverse++stk)) c') (EE F.exc):=by
 induction ks with
 |nil=>
  intro vs K stk m σ c o C h;rw[<-h bw h,[W9.mp h.1],];exact DB ⟨rfl,PK.of o C h.2⟩
 |cons k ks b=>
  intro vs K stk m σ c o C h;rw[aw (gf h) λf q=>?_,[q.1],<-h q.2,0 q,]
  induction vs using List.casesOn with
  |nil=>exact h.elim
  |cons v vs=>
   rw[Dp (T.pk (I J o C h) λx i j d o C h=>aw (It h) λa q=>⟨a,q.1,T.pk (I J o C q.2) λX n r e o C h=>T.mq (b o C h) λl t U=>⟨Ve Nat.succ U.1,?_⟩⟩),];rw[List.flatMap_cons,List.reverse_append,Vo,<-q.1];rw[U.2,]
def ID{ks:List (Option Expr)}{vs:List Expr}(I:SE nm CE)(J:ER nm F S A env)(U:RelM nm m c.m)(b:aD σ c.σ)
 (h:PR CE S ks vs F K stk m σ):EV F.g A env (.Dict ks vs pos) c (λv=>PK nm (K (v::stk))) (EE F.exc):=by
 induction ks using List.casesOn with
 |nil=>
  rw[<-h bw h,[W9.mp h.1],];exact Ea J U b h.2
 |cons k ks=>
  rw[<-h bw h,<-d ra h.1,<-f ra d.1,aw h.2 λt h=>Dq t.t (λa j=>T.mq (Eb (m:=m) (stk:=.loc a::stk) I J U (b.new j) (h a)) λl u i=>dh i.2 λw n q=>?_) f.1 (rd f.2) (List.cons_ne_nil _ _) (rd d.2),];have o:(l.flatMap λp=>[p.1.v,p.2]).length=2*(k::ks).length:=by rw[A0,i.1]
  have C:=q.2.2;unfold mZ at C;rw[(cX o).2,(cX o).1,qF] at C;rw[dh C λx r z=>?_,];injection z.1 with e;exact⟨r.t,e▸q.2.1 _ _ z.2.1,e▸PK.of q.1 (q.2.1.upd z.2.1) z.2.2⟩
def MJ(I:SE nm CE)(a:ER nm F S A env)(C:RelM nm m c.m)(J:aD σ c.σ)(hf:Dc F.g f)(U:args.all bF=true)
 (h:cL CE S args F K stk m σ) (d:∀vs c' i σ',vs.length=args.length->RelM nm i c'.m->aD σ' c'.σ->K (vs.reverse++stk) i σ'->CA F.g A env f (first++vs) c' Q (EE F.exc)):CW F.g A env pos f first args c Q (EE F.exc):=by
 induction args using List.casesOn with
 |nil=>exact Hf a.hb hf (by have:=d [] c _ _ rfl C J h;rwa [VR] at this)
 |cons e r=>
  rw[<-U ra U,p7 a.hb hf (T.mq (m7 (F':=()) I a C J h) λvs k j=>by rw[aV j λl o=>cp o λn b C J h=>?_,0 j o,d vs k n b l C J h,]) (eZ U.1) (ip U.2),]
def IE(I:SE nm CE)(U:ER nm F S A env)(o:RelM nm m c.m)(C:aD σ c.σ)(b:args.all bF=true)
 (h:sq (CE S (.Name x p)) (sq fn (sq (cL CE S args) (gH args.length))) F K stk m σ):EV F.g A env (.Call (.Name x p) args [] pos) c (λv=>PK nm (K (v::stk))) (EE F.exc):=
 vV (T.pk (I U o C h) λd t u e o C h=>MJ I U o C (FZ h).1 b (FZ h).2 λi j w k a o C h=>by have h:dq ((i.reverse++d::stk).drop args.length) _:=h;rw[(cX a).2] at h;have h:=h;rw[(cX a).1] at h;exactλJ f l n q=>gj o (h U.hb A env j U.rm C J f l n q) λv y r o C h=>PK.of o C h)
def fR(a:args.all bF=true)(b:C.endLine=pos.line)(d:args.length<30):eval (.Call (.Attribute o name C) args [] pos) env=(do
 let U<-attributeBase o name env (eval o env)
 standAt C.atName
 let(f,first) <-holding [U] (getMethod U name (do return(<-importBound o env).getD true))
 callWith pos f first (backTo pos (starEach args env)) []):=by
 have e:eval (.Call (.Attribute o name C) args [] pos) env=(do
  let U<-attributeBase o name env (eval o env)
  standAt C.atName
  methodCall o name C pos env U (args.length+0) (backTo pos (starEach args env)) (backToKw pos (keywordEach [] env))):=rfl
 rw[e];have I:methodCallForm (args.length+0) (backTo pos (starEach args env)) (backToKw pos (keywordEach [] env))=true:=by
  unfold methodCallForm;have:(backTo pos (starEach args env)).all (λx=>!x.1)=true:=by have:=ip (pos:=pos) (env:=env) a;rw[List.all_eq_not_any_not];simpa using this
  rw[[this],Wo d,]
 rw[2 methodCall,[I],];have J:methodCallPos true o env C pos=pure pos:=Vb (Wb.mpr b);rw[J];rfl
def Ec(I:SE nm CE)(b:ER nm F S A env)(J:RelM nm m c.m)(U:aD σ c.σ)(hi:idx AN name=some i)(q:ja o=true)(n:args.all bF=true)
 (j:d.endLine=pos.line) (t:args.length<30) (h:sq (CE S o) (sq (ee i) (sq (cL CE S args) (dc args.length))) F K stk m σ):
 EV F.g A env (.Call (.Attribute o name d) args [] pos) c (λv=>PK nm (K (v::stk))) (EE F.exc):=by
 rw[<-k uS hi,rM (pl:=do return(<-importBound o env).getD true) (T.pk (I b J U h) λM u N w J U h=>?_) ?_,]
 ·rw[<-k]
  exactλC a x=>gj J (h b.hb A env u b.rm U _ C a x) λf P z J U h=>by
   obtain⟨f,first⟩:=f;rw[6 h,λe=>aV e λB h=>?_,0 e,]
   induction first using List.casesOn with
   |nil=>exact h.elim
   |cons y r=>
    rw[3 (h.1),<-h h.2,MJ I b J U B n h λD p Q l j J U h=>?_,];have h:top2 ((D.reverse++y::f::stk).drop args.length) _:=h;rw[(cX j).2] at h;have h:=h;rw[(cX j).1] at h;exactλC f E G H=>gj J (h b.hb A env p b.rm U C f E G H) λv p l J U h=>PK.of J U h
 ·rw[fR n j t,F7 q];rfl
end
end
noncomputable section
section
variable{nm:List Str}{CE CT m6:Scope->Expr->SC}{S:Scope}{F:Fr}{A:Around}{env:Env}{K:KS}{stk:List V}{m:GM}{σ:aq}{c:CS}{pos:Pos}
def ER.quiet(o:ER nm F S A env):ER nm F.quiet S A env:=⟨o.hb,o.rm,o.nd,o.ok,o.FX,o.gl,o.bt⟩
def ER.lst(o:ER nm F S A env):ER nm (F.lst h l) S A env:=⟨o.hb,o.rm,o.nd,o.ok,o.FX,o.gl,o.bt⟩
noncomputable def IF(h:Option (Tg×Addr)):Option (Addr×Tag):=match h with|none=>none|some (t,a)=>some (a,t.t)
def Tg.F9{t t':Tg}(h:t.t=t'.t):t=t':=by obtain⟨a,b⟩:=t;obtain⟨I,J⟩:=t';injection h with o C _;have o:a=I:=o;have C:b=J:=C;rw[o,C]
def A1{n:Bool}{X:V}{l:List V}{σ0:aq}{h:Option (Tg×Addr)}{g:G0}(I:A.handled=none)(o:aD σ c.σ)(hs:i9 n σ X l σ0 h):∃s0,Src n g A c X l s0 (IF h)/\aD σ0 s0:=by
 cases hs with
 |lst l=>exact⟨_,C6 I,o⟩
 |tup l=>exact⟨_,C7 I,o⟩
 |loc e=>exact⟨_,C8 I (o _ _ e),o.rem e⟩
 |mi B D=>exact⟨_,C9 I B D,o⟩
 |str h=>exact⟨_,Dy I h,o⟩
 |enum j U b d=>
  rw[8 j,<-q0 o _ _ U,];have C:c.σ _=some ⟨_,_⟩:=o _ _ b;rw[⟨_,Aw I q0 C (λe=>?_),(o.rem U).rem ((aq.aR d.symm).trans b)⟩,];rw[e,q0] at C;injection C with C;injection C with C _;exact d (Tg.F9 C.symm)
 |zip j U b p q d r u v w x E=>
  subst j;have ne:∀{t y:Tg} {a z:Addr} {k G:OK},c.σ a=some ⟨t.t,k⟩->c.σ z=some ⟨y.t,G⟩->t≠y->a≠z:=λJ H L e=>by rw[e,H] at J;injection J with J;injection J with J _;rw[L (Tg.F9 J.symm),]
  rw[<-q0 o _ _ U,<-C o _ _ b,<-f o _ _ p,<-i o _ _ q,⟨_,DQ I q0 C f i (ne C q0 d) (ne f q0 r) (ne i q0 u) (ne C f v) (ne C i w) (ne f i x) E,?_⟩,(((o.rem U).rem ((aq.aR d.symm).trans b)).rem ((aq.aR v).trans ((aq.aR r.symm).trans p))).rem ((aq.aR x).trans ((aq.aR w).trans ((aq.aR u.symm).trans q))),]
def A2(o:aD σ c.σ)(C:pb (IF h) c):aD (Ij h l σ) (bk (IF h) l c).σ:=by
 induction h with
 |none=>exact o
 |some p=>exact o.new C
def MK:(bk h l c).m=c.m:=by induction h<;>rfl
def T.qx(h:T g A env R F₀ t c Q (EE iI))(o:∀b c',Q b c'->C b c'):T g A env R F₀ t c C iA:=T.mono h o λ_ _ e=>e.quiet
def T.Oj{g:G0}{nm:List Str}{J β:Type}{R:ai->β->J->Prop}{U:β->CS->Prop}{P:β->GM->aq->Prop}{t:Sem J}{F₀:ai}(h:T g A env R F₀ t c (λb=>PK nm (P b)) (EE iI))(e:∀b C I o,RelM nm I C.m->aD o C.σ->P b I o->U b C):T g A env R F₀ t c U iA:=
 T.qx h λb C q=>by rw[cp q λI o a b d=>?_,0 q,e _ _ _ _ a b d,]
def A3(P:SA nm m6)(Q:Cn nm CT)(R:SE nm CE)(v:ER nm F S A env)(w:RelM nm m0 d)(i:∀{m N},RelM nm m N->bj m0 m->dX d N)(W:∀o σ c',dX d c'.m->aD σ c'.σ->z o σ->B o c'):
 ∀l o σ c,dX d c.m->aD σ c.σ->fo (iJ (m6 S U F.quiet) (K4 CT S I F.quiet) (CE S C F.quiet) m0) z l o σ->
  et F.g A env U I C B l o c:=by
 intro l
 induction l with
 |nil=>exactλo σ c hm D h=>xO (W o σ c hm D h)
 |cons x u E=>
  intro o σ c hm D h;rw[uw (As.t5 hm λk a Y=>T.Oj (P (F:=F.quiet) v.quiet (c:=⟨d,c.σ⟩) w D h k a Y) λ_ c1 m1 A4 n p h=>?_),<-h h.2,];have fin:∀{b j q J},RelM nm q j.m->aD J j.σ->Cm [.bool b] (CE S C F.quiet (λs m4 σ=>match s with|[y]=>bj m0 m4/\o.length<=100000/\fo (iJ (m6 S U F.quiet) (K4 CT S I F.quiet) (CE S C F.quiet) m0) z u (o++[y]) σ|_=>False) [] q J) (bj m0 q/\fo (iJ (m6 S U F.quiet) (K4 CT S I F.quiet) (CE S C F.quiet) m0) z u o J)->
   (match b with
   |true=>EV F.g A env C j (λX G=>o.length<=100000/\et F.g A env U I C B u (o++[X]) G) iA
   |false=>et F.g A env U I C B u o j):=by
   intro b j q J e f h
   induction b with
   |true=>exact T.Oj (R (F:=F.quiet) v.quiet e f (h.1 rfl)) λX G m3 H L M h=>⟨h.2.1,E _ H G (i L h.1) M h.2.2⟩
   |false=>exact E _ J j (i e (h.2 rfl).1) f (h.2 rfl).2
  clear E
  induction I using List.casesOn with
  |nil=>exact xI (fin n p h)
  |cons t r=>
   induction r using List.casesOn with
   |nil=>exact xJ (T.Oj (Q (F:=F.quiet) v.quiet n p h) λb j q J e f h2=>by induction b<;>exact fin e f h2)
   |cons _ _=>exact False.elim h
def idx_map(h:l.all (λx=>(idx nm x).isSome)=true):∀{m0:GM},m0.map (·.1)=l.map (λx=>(idx nm x).getD 0)->(m0.map λp=>(nm.getD p.1 "",p.2)).map (·.1)=l:=by
 induction l with
 |nil=>intro m0 e;induction m0 using List.casesOn<;>first|rfl|cases e
 |cons x l C=>
  intro m0 e
  induction m0 using List.casesOn with
  |nil=>injection e
  |cons p r=>
   rw[<-h ra h,aw (We.mp h.1) λi hi=>?_,];rw[VI,VI,List.cons.injEq] at e;rw[[VI,VI,C h.2 e.2],<-o e.1,];rw[hi] at o;rw[show p.1=i from o];simp[List.getD,(jA hi).1]
def wg(R:SA nm m6)(W:Cn nm CT)(N:SE nm CE)(I:ER nm F S A env)(P:RelM nm m c.m)(Y:aD σ c.σ)(g4:cE U=true)(g3:mO o S (lH o))(g2:(lH o).all (λx=>(idx nm x).isSome)=true)(g1:(lH o).Nodup)
 (h:comp (da b) ((lH o).map λx=>(idx nm x).getD 0) (CE S U) (m6 (ct o S) b) (K4 CT (ct o S) v) (CE (ct o S) w) F K stk m σ)
 (hQ:∀X J t d,RelM nm t J.m->aD d J.σ->K (X::stk) t d->QQ X J):
 ∃m0,b9 o env/\(∀y∈o.names,y.2=.free->(m0.lookup y.1).isSome=true)/\(∀x X,m0.lookup x=some X->o.names.lookup x≠some .local)/\
  EV F.g A env U c (λX J=>dX m0 J.m/\∃l σ0 u,Src (da b) F.g A J X l σ0 u/\∀C,et F.g A (pn o env C) b v w (CK m0 J.m l u QQ) l [] ⟨m0,σ0⟩) (EE F.exc):=by
 rw[6 h,λf=>bL f λm0 e0 z h=>?_,0 f,<-i idx_map g2 e0,<-e yj I.nd P z,];have a:∀{m Q},RelM nm m Q->bj m0 m->dX (m0.map λp=>(nm.getD p.1 "",p.2)) Q:=λr s=>r.map I.nd s;rw[GD (id I.FX) λL B q fn cd fr D E=>?_,3 D,⟨_,xN I.ok E i g3 (T.pk (N I P Y h) λX J t d j G h=>?_)⟩,kG h λl σ0 u k=>dG k λhs n hc=>?_,0 h k,ah (A1 (g:=F.g) I.rm.hh G n) λs0 hS H=>⟨a j hs,l,s0,_,hS,λC cl hE M=>?_⟩,A3 R W N ⟨I.hb,I.rm,I.nd,hE,⟨C,cl,q,none,cd,fr,rfl,M⟩,I.gl,I.bt⟩ e a (λacc σ c' hm hr hk=>⟨hm,λhd=>?_⟩) l [] σ0 ⟨_,s0⟩ (dX.self (i▸g1)) H hc,hQ _ _ t _ (MK.symm▸j) (A2 (c:=⟨J.m,c'.σ⟩) hr (by induction u<;>exact hd)) hk,]
def A5(h:K5 nm CE CT m6 S a U o F K stk m σ):∃I C J,U=[⟨I,C,J,0⟩]/\cE C=true/\mO o S (lH o)/\(lH o).all (λx=>(idx nm x).isSome)=true/\(lH o).Nodup/\
 comp (da I) ((lH o).map λx=>(idx nm x).getD 0) (CE S C) (m6 (ct o S) I) (K4 CT (ct o S) J) (CE (ct o S) a) F K stk m σ:=aw (gZ h) λi q=>by
 obtain⟨I,C,J,k⟩:=i;rw[<-h bw q.2,<-b ra h.1,<-d ra b.1,<-e ra d.1,<-f ra e.1,⟨I,C,J,q.1.trans (Ve (λk=>[Comprehension.mk I C J k]) (rd f.1)),f.2,rd e.2,d.2,rd b.2,h.2⟩,]
def IG(e:SA nm m6)(f:Cn nm CT)(i:SE nm CE)(j:ER nm F S A env)(k:RelM nm m c.m)(l:aD σ c.σ)(h:K5 nm CE CT m6 S I C o F K stk m σ):
 EV F.g A env (.ListComp I C o pos) c (λv=>PK nm (K (v::stk))) (EE F.exc):=by
 obtain⟨n,J,p,rfl,U,q,r,t,h⟩:=A5 h;obtain⟨u,w,y,z,B⟩:=wg (QQ:=λv=>PK nm (K (v::stk))) e f i j k l U q r t h λX G H D a b d=>PK.of a b d;rw[Dv u w y z B λx=>uU U,]
def II(I:SE nm CE)(d:ER nm F S A env)(C:RelM nm m c.m)(J:aD σ c.σ)(hi:idx AN a=some i)(h:sq (CE S o) (jz i) F K (X::stk) m σ):
 As F.g A env (.Attribute o a pos) X c (PK nm (K stk)) (EE F.exc):=by
 rw[<-uS hi];rw[pU (T.pk (I d C J h) λx e n f C J h=>λU a b j k=>gj C (h d.hb A env e d.rm J U a b j k) λv p l C J h=>PK.of C J h),]
def ML(I:SE nm CE)(e:ER nm F S A env)(C:RelM nm m c.m)(J:aD σ c.σ)(h:sq (CE S o) (sq (CE S i) cD) F K (X::stk) m σ):
 As F.g A env (.Subscript o i pos) X c (PK nm (K stk)) (EE F.exc):=
 G' (T.pk (I e C J h) λx q r f C J h=>T.pk (I e C J h) λy j t k C J h=>λU a b d l n id=>gj C (h e.hb A env j e.rm J U a b d l n id) λv u p C J h=>PK.of C J h)
def uV:o.all bF=true->(assignEach o env).length=o.length/\(assignEach o env).findIdx? (·.1)=none/\∀t∈o,∀e p,t≠.Starred e p:=by
 induction o with
 |nil=>exactλ_=>⟨rfl,rfl,λt J=>nomatch J⟩
 |cons t o U=>
  rw[λh=>dG (U (ra h).2) λa b c=>?_,];have I:∀e p,t≠.Starred e p:=λe p q=>Bool.noConfusion (show bF (.Starred e p)=true from q▸(ra h).1);rw[[j1 I],⟨Ve Nat.succ a,by rw[List.findIdx?_cons,b];rfl,λu C e p q=>(Vc.mp C).elim (λd=>I e p (d▸q)) λC=>c u C e p q⟩,]
def IJ(I:SA nm m6)(e:ER nm F S A env):∀{o:List V} {K:KS} {m:GM} {σ:aq} {c:CS},RelM nm m c.m->aD σ c.σ->o.length=b.length->MB m6 S b F K (o++stk) m σ->zt F.g A env b o c (PK nm (K stk)) (EE F.exc):=by
 induction b with
 |nil=>exactλ{o _ _ _ _} C J d=>(VU d)▸λh=>Dj (PK.of C J h)
 |cons t b f=>
  rw[λ{o _ _ _ _} C J d h=>?_,]
  induction o using List.casesOn with
  |nil=>exact nomatch d
  |cons X o=>exact zP (λU a i=>T.pk (I (o:=o++stk) e C J h U a i) λ_ k l j C J h=>f C J (XT d) h)
def MM(I:SA nm m6)(o:ER nm F S A env)(i:RelM nm m c.m)(e:aD σ c.σ)(j:C.all bF=true)(h:sq (K2 C.length) (MB m6 S C) F K (X::stk) m σ):
 As F.g A env (.Tuple C k pos) X c (PK nm (K stk)) (EE F.exc):=by
 rw[bL (Iu h) λl n J h=>dG (uV (env:=env) j) λa b d=>?_,<-f IJ I o i e J h,];rcases n.at_ e with U|U
 ·rw[Hv o.rm.hh U J.symm f a b d,]
 ·rw[8 U,Ha o.rm.hh J.symm f a b d,]
def IK{P:Expr->Prop}{e:Expr}(h:PU nm CE CT m6 S e F K stk m σ)(con:∀k n p,cK k F K stk m σ->P (.Constant k n p))(nam:∀x p,cN nm S x F K stk m σ->P (.Name x p))
 (j:∀l C r p,sq (CE S l) (sq (CE S r) (bin C)) F K stk m σ->P (.BinOp l C r p)) (u:∀C x p,sq (CE S x) (un C) F K stk m σ->P (.UnaryOp C x p))
 (w:∀l C r p,gu (cE r) (sq (CE S l) (sq (CE S r) (cmp C))) F K stk m σ->P (.Compare l [C] [r] p)) (z:∀C x y p,sq (CE S x) (AW C (CE S y)) F K stk m σ->P (.BoolOp C [x,y] p))
 (ife:∀t b o p,sq (CT S t) (ite (CE S b) (CE S o)) F K stk m σ->P (.IfExp t b o p)) (att:∀v a p i,idx AN a=some i->gu (ja v) (sq (CE S v) (attr i)) F K stk m σ->P (.Attribute v a p))
 (B:∀v s p,sq (CE S v) (sq (CE S s) sub) F K stk m σ->P (.Subscript v s p)) (sli:∀lo hi st p,sq (cO CE S lo) (sq (cO CE S hi) (sq (cO CE S st) fL)) F K stk m σ->P (.Slice lo hi st p))
 (D:∀es k p,sq (cL CE S es) (tup es.length) F K stk m σ->P (.Tuple es k p)) (lis:∀es p,sq (cL CE S es) (lst es.length) F K stk m σ->P (.List es p)) (dic:∀ks vs p,PR CE S ks vs F K stk m σ->P (.Dict ks vs p))
 (call:∀f I p,PS CE S f I p F K stk m σ->P (.Call f I [] p)) (lc:∀l J U p,K5 nm CE CT m6 S l J U F K stk m σ->P (.ListComp l J U p)):P e:=by
 induction e using Expr.casesOn with
 |Constant=>exact con _ _ _ h
 |Name=>exact nam _ _ h
 |BinOp=>exact j _ _ _ _ h
 |UnaryOp=>exact u _ _ _ h
 |Compare=>exact aw (gZ h) λC q=>aw (gZ q.2) λr d=>q.1▸d.1▸w _ _ _ _ d.2
 |BoolOp=>exact dh (m5 h) λx y q=>q.1▸z _ _ _ _ q.2
 |IfExp=>exact ife _ _ _ _ h
 |Attribute=>exact aw (gf h) λi q=>att _ _ _ _ q.1 q.2
 |Subscript=>exact B _ _ _ h
 |Slice=>exact sli _ _ _ _ h
 |Tuple=>exact D _ _ _ h
 |List=>exact lis _ _ h
 |Dict=>exact dic _ _ _ h
 |Call=>exact W9.mp (bw h).1▸call _ _ _ (bw h).2
 |ListComp=>exact lc _ _ _ _ h
 |_=>exact False.elim h
def IL{P:Expr->Prop}{f:Expr}{args:List Expr}(h:PS CE S f args pos F K stk m σ)(att:∀o name C i,idx AN name=some i->gu (ja o&&args.all bF&&decide (C.endLine=pos.line)&&decide (args.length<30)) (sq (CE S o) (sq (ee i) (sq (cL CE S args) (dc args.length)))) F K stk m σ->P (.Attribute o name C))
 (nam:∀x p,gu (args.all bF) (sq (CE S (.Name x p)) (sq fn (sq (cL CE S args) (gH args.length)))) F K stk m σ->P (.Name x p)):P f:=by
 induction f using Expr.casesOn with
 |Attribute=>exact aw (gf h) λi q=>att _ _ _ _ q.1 q.2
 |Name=>exact nam _ _ h
 |_=>exact False.elim h
def To(J:SE nm CE)(U:Cn nm CT)(i:SA nm m6):SE nm (PU nm CE CT m6):=λ{S e F A env K stk m σ c} I o C h=>
 IK (P:=λe=>EV F.g A env e c (λv=>PK nm (K (v::stk))) (EE F.exc)) h (λ_ _ _ h=>D6 o C h) (λ_ _ h=>Iw I o C h) (λ_ _ _ _ h=>MD J I o C h) (λ_ _ _ h=>P1 J I o C h)
  (λ_ _ _ _ h=>ME J I o C (bw h).1 (bw h).2) (λ_ _ _ _ h=>IA J I o C h) (λ_ _ _ _ h=>P2 J U I o C h) (λ_ _ _ _ e h=>IB J I o C e (bw h).1 (bw h).2) (λ_ _ _ h=>MI J I o C h)
  (λ_ _ _ _ h=>D8 J I o C h) (λ_ _ _ h=>D9 J I o C h) (λ_ _ h=>IC J I o C h) (λ_ _ _ h=>ID J I o C h)
  (λf j p h=>IL (P:=λf=>EV F.g A env (.Call f j [] p) c (λv=>PK nm (K (v::stk))) (EE F.exc)) h (λ_ _ _ _ e h=>have h:=bw h;have a:=ra h.1;have b:=ra a.1;have d:=ra b.1;Ec J I o C e d.1 d.2 (rd b.2) (rd a.2) h.2)
   λ_ _ h=>IE J I o C (bw h).1 (bw h).2) λ_ _ _ _ h=>IG i U J I o C h
def IM{P:Expr->Prop}{e:Expr}(h:PW CE CT S e F K stk m σ)(u:∀x p,sq (CT S x) neg F K stk m σ->P (.UnaryOp .Not x p))(i:∀o x y p,sq (CT S x) (eu o (CT S y)) F K stk m σ->P (.BoolOp o [x,y] p))
 (j:∀l o r p,gu (cE r) (sq (CE S l) (sq (CE S r) (sq (cmp o) bu))) F K stk m σ->P (.Compare l [o] [r] p))
 (k:∀l U a b J p,gu (cE J) (sq (CE S l) (sq (CE S b) (chain U (sq (CE S J) (sq (cmp a) bu))))) F K stk m σ->P (.Compare l [U,a] [b,J] p))
 (nam:∀x p,sq (CE S (.Name x p)) bu F K stk m σ->P (.Name x p)) (call:∀f d ks p,sq (CE S (.Call f d ks p)) bu F K stk m σ->P (.Call f d ks p)):P e:=by
 induction e using Expr.casesOn with
 |UnaryOp o x p=>induction o<;>first|exact u _ _ h|exact False.elim h
 |BoolOp=>exact dh (m5 h) λx y q=>q.1▸i _ _ _ _ q.2
 |Compare l C n p=>
  have h:PQ CE S l C n F K stk m σ:=h;unfold PQ at h;revert h
  induction Nat.beq C.length 1 with
  |true=>exactλh=>aw (gZ h) λo q=>aw (gZ q.2) λr I=>q.1▸I.1▸j _ _ _ _ I.2
  |false=>exactλh=>dh (m5 h) λU a q=>dh (m5 q.2) λb J I=>q.1▸I.1▸k _ _ _ _ _ _ I.2
 |Name=>exact nam _ _ h
 |Call=>exact call _ _ _ _ h
 |_=>exact False.elim h
def Tp(J:SE nm CE)(U:Cn nm CT):Cn nm (PW CE CT):=λ{S e F A env K stk m σ c} o C I h=>
 IM (P:=λe=>TS F.g A env e c (λb=>PK nm (K (.bool b::stk))) (EE F.exc)) h (λ_ _ h=>MH U o C I h) (λ_ _ _ _ h=>Iz U o C I h) (λ_ _ _ _ h=>MF J o C I (bw h).1 (bw h).2)
  (λ_ _ _ _ _ _ h=>D7 J o C I (bw h).1 (bw h).2) (λ_ _ h=>F8 J o C I h) λ_ _ _ _ h=>F8 J o C I h
def IP{P:Expr->Prop}{e:Expr}(h:PX nm CE m6 S e F K stk m σ)(nam:∀x p,cV nm S x st F K stk m σ->P (.Name x p))(att:∀o a p i,idx AN a=some i->sq (CE S o) (jz i) F K stk m σ->P (.Attribute o a p))
 (I:∀o i p,sq (CE S o) (sq (CE S i) cD) F K stk m σ->P (.Subscript o i p)) (J:∀C k p,gu (C.all bF) (sq (K2 C.length) (MB m6 S C)) F K stk m σ->P (.Tuple C k p)):P e:=by
 induction e using Expr.casesOn with
 |Name=>exact nam _ _ h
 |Attribute=>exact aw (gf h) λi q=>att _ _ _ _ q.1 q.2
 |Subscript=>exact I _ _ _ h
 |Tuple=>exact J _ _ _ h
 |_=>exact False.elim h
def Tq(J:SE nm CE)(U:SA nm m6):SA nm (PX nm CE m6):=λ{S e X F A env K stk m σ c} o C I h=>
 IP (P:=λe=>As F.g A env e X c (PK nm (K stk)) (EE F.exc)) h (λ_ _ h=>yk o C I h) (λ_ _ _ _ e h=>II J o C I e h) (λ_ _ _ h=>ML J o C I h) λ_ _ _ h=>MM U o C I (bw h).1 (bw h).2
structure SL(nm:List Str)(L:Lv):Prop where
 E:SE nm L.E
 T:Cn nm L.T
 A:SA nm L.A
 N:∀{S x p},L.A S (.Name x p)=bad\/L.A S (.Name x p)=cV nm S x st
def oy(n:Nat):SL nm (lv nm n):=by
 induction n with
 |zero=>exact⟨λ_ _ _ h=>h.elim,λ_ _ _ h=>h.elim,λ_ _ _ h=>h.elim,.inl rfl⟩
 |succ n o=>exact⟨To o.E o.T o.A,Tp o.E o.T,Tq o.E o.A,.inr rfl⟩
end
end
noncomputable section
noncomputable def QS(C:List Str)(F:Fr)(K:KS):CF->CS->Prop:=λf c'=>match f with
 |.next=>PK C (K []) c'
 |.ret v=>∃o,aD o c'.σ/\F.ret v o
 |_=>False
def SB(o:List Str)(C:Scope->List Stmt->SC):Prop:=∀{S:Scope} {l:List Stmt} {F:Fr} {A:Around} {env:Env} {K:KS} {m:GM} {I:aq} {c:CS},ER o F S A env->RelM o m c.m->aD I c.σ->
 C S l F K [] m I->EX F.g A env l c (QS o F K) (EE F.exc)
section
variable{nm:List Str}{L:Lv}{CB:Scope->List Stmt->SC}{S:Scope}{F:Fr}{A:Around}{env:Env}{K:KS}{stk:List V}{m:GM}{σ:aq}{c:CS}{pos:Pos}
def ER.inter(o:ER nm F S A env):interactive env=false:=by have:=o.ok.kind;unfold interactive;simp[this]
def A6(h:Iq t=some a):t=pure a:=by
 have nn:∀{P:Prop},(none=some a)->P:=λh=>nomatch h
 induction t using Sem.casesOn<;>first|exact Ve Sem.pure (VW h)|exact nn h
def IQ(h:AX 25 t=true):∃l k p,t=.Tuple l k p:=
 y7 (show bif AX 25 t then∃l k p,t=.Tuple l k p else True by induction t using Expr.casesOn<;>first|exact trivial|exact⟨_,_,_,rfl⟩) h
def IS(o:ER nm F S A env):swapsWith v (some t) n env=swapsWith v (some t) n (D4 S):=KU o.FX λ_ _ _ _ _ _ q=>q.1▸rfl
def IT(o:ER nm F S A env):swappedStores [t] v env=swappedStores [t] v (D4 S):=KU o.FX λ_ _ _ _ _ _ q=>q.1▸rfl
def A7{I:List (Str×V)}(nd:nm.Nodup)(r:RelM nm m I){ns:List Str}:∀{C:List V},(∀x∈ns,(idx nm x).isSome=true)->RelM nm ((ns.map λx=>(idx nm x).getD 0).zip C++m) (ns.zip C++I):=by
 induction ns with
 |nil=>exactλ_=>r
 |cons x ns J=>exactλ{C} h=>C.casesOn r λX C=>(J λy U=>h y (.tail _ U)).st nd (aw (We.mp (h x (.head _))) λi hi=>(Ve (λo=>nm[Option.getD o 0]?) hi).trans (jA hi).1)
def IU{t v:Expr}{ns:List Str}(I:SL nm L)(o:ER nm F S A env)(J:RelM nm m c.m)(U:aD σ c.σ)(h:RN nm L S t v ns F K [] m σ)
 (hs:swapsWithSole [t] v pos.line env=pure false) (a:swappedStores [t] v env=pure (some ns)):iZ F.g A env (.Assign [t] v pos) c (QS nm F K) (EE F.exc):=by
 rw[<-h bw h,<-b ra h.1,kG (IQ b.1) λj k p e=>?_,];rw[e] at hs a⊢;have d:∀x∈ns,S.names.lookup x=some .local/\(idx nm x).isSome=true:=λx C=>have q:=ra (V8.mp b.2 x C);⟨rd q.1,q.2⟩;rw[DA o.rm.hh o.ok (λx C=>o.kind (d x C).1) (T.pk (I.E o J U h.2) λv l n f J U h=>aw (Iv h) λi q=>⟨i,q.1,q.2.1.trans (U2 ..),PK.of (A7 o.nd J λx C=>(d x C).2) U q.2.2⟩) hs a,]
end
end
noncomputable section
section
variable{nm:List Str}{L:Lv}{CB:Scope->List Stmt->SC}{S:Scope}{F:Fr}{A:Around}{env:Env}{K:KS}{stk:List V}{m:GM}{σ:aq}{c:CS}{pos:Pos}
def Ed(o:SL nm L)(U:ER nm F S A env)(I:RelM nm m c.m)(J:aD σ c.σ)(h:sq (L.E S v) (L.A S t) F K [] m σ)
 (b:assignEach [t] env=[(false,assign t env)]) (hs:swapsWithSole [t] v pos.line env=pure false) (d:swappedStores [t] v env=pure none):iZ F.g A env (.Assign [t] v pos) c (QS nm F K) (EE F.exc):=
 ik (T.pk (o.E U I J h) λX i j e I J h=>λC a f=>T.mq (o.A U I J h C a f) λ_ _ h=>h) b hs d
def IV{P:Expr->Expr->Prop}{t v:Expr}(h:PY nm L S t v F K [] m σ)(k:∀x p I C o J,gu (decide (S.names.lookup x=some .local)) (sq (K5 nm L.E L.T L.A S I C o) (L.A S (.Name x p))) F K [] m σ->P (.Name x p) (.ListComp I C o J)):P t v:=by
 induction t using Expr.casesOn with
 |Name x p=>
  induction v using Expr.casesOn with
  |ListComp=>exact k _ _ _ _ _ _ h
  |_=>exact False.elim h
 |_=>exact False.elim h
def IW{t v:Expr}(o:SL nm L)(I:ER nm F S A env)(J:RelM nm m c.m)(U:aD σ c.σ)(C:swapsWith v (some t) pos.line env=pure true)(h:PY nm L S t v F K [] m σ):
 iZ F.g A env (.Assign [t] v pos) c (QS nm F K) (EE F.exc):=by
 rw[IV (P:=λt v=>swapsWith v (some t) pos.line env=pure true->iZ F.g A env (.Assign [t] v pos) c (QS nm F K) (EE F.exc)) h (λx p k b a M h C=>?_) C,<-h bw h,<-l rd h.1,];obtain⟨n,d,r,rfl,f,u,w,y,h⟩:=A5 h.2;obtain⟨z,B,D,k2,G⟩:=wg (QQ:=λX j=>QS nm F K .next ⟨(x,X)::j.m,j.σ⟩) o.A o.T o.E I J U f u w y h λX R W H J U h=>by
  rcases o.N (S:=S) (x:=x) (p:=p) with e|e
  ·rw[e] at h;rw[h.elim,]
  ·rw[e] at h
   rw[aw (AY h) λi q=>PK.of (J.st I.nd q.1) U q.2.2,]
 rw[xM z I.ok B D k2 (I.kind l) C G λx=>uU f,]
def sC(h:bF t=true):assignEach [t] env=[(false,assign t env)]:=j1 λe p q=>by rw[q] at h;rw[7 h,]
def A8(C:SL nm L)(I:ER nm F S A env)(J:RelM nm m c.m)(U:aD σ c.σ)(h:PZ nm L S t v pos.line F K [] m σ):
 iZ F.g A env (.Assign [t] v pos) c (QS nm F K) (EE F.exc):=by
 have h:=bw h;have e:assignEach [t] env=[(false,assign t env)]:=sC h.1;rw[aw (gf h.2) λb q=>?_,];have a:swapsWith v (some t) pos.line env=pure b:=(IS I).trans (A6 q.1);rw[<-h q.2,0 q,]
 induction b with
 |true=>exact IW C I J U a h
 |false=>
  rw[aw (gf h) λo q=>?_,];have d:swappedStores [t] v env=pure o:=(IT I).trans (A6 q.1);rw[<-h q.2,0 q,]
  induction o with
  |none=>exact Ed C I J U h e a d
  |some ns=>exact IU C I J U h a d
def IX(i:SL nm L)(z:SB nm CB)(u:ER nm F S A env)(w:F.exc=iI)(h1:∀m σ c',RelM nm m c'.m->aD σ c'.σ->B m σ->y .next c')(D:∀v σ c',aD σ c'.σ->F.ret v σ->y (.ret v) c'):
 ∀{m σ c},RelM nm m c.m->aD σ c.σ->ef (gb (L.A S t F) (CB S b F)) B l m σ->C5 F.g A env t b y l c:=by
 induction l with
 |nil=>exactλj k h=>h1 _ _ _ j k h
 |cons x P E=>
  intro m σ c j k h;rw[6 h,λJ=>ah J λQ G h=>?_,0 J,λU a H=>T.mono (i.A u (j.sub G) k h U a H) (λ_ R q=>?_) λ_ _ e=>(w▸e:EE iI ..).quiet,cp q λW M n p o=>aV o λ_ h=>?_,0 q o,T.mono (z u n p h) (λf N q=>?_) λ_ _ e=>(w▸e:EE iI ..).quiet,]
  induction f with
  |next=>refine cp q λX d r I C=>aV C λ_ h=>?_;clear q C;exact E r I h
  |ret v=>refine ah q λd I h=>?_;clear q;exact D v d N I h
  |brk=>exact q.elim
  |cont=>exact q.elim
def MN(I:SL nm L)(j:SB nm CB)(d:ER nm F S A env)(J:RelM nm m c.m)(C:aD σ c.σ)(k:cE i=true)(h:sq (L.E S i) (df (da t) (L.A S t) (CB S b)) F K [] m σ):
 iZ F.g A env (.For t i b [] pos) c (QS nm F K) (EE F.exc):=by
 rw[Hb (T.pk (I.E d J C h) λX n z p J C h=>?_) λx=>uU k,6 h,λU=>kG U λl q r o=>aV o λa h=>?_,0 U o,ah (A1 (g:=F.g) d.rm.hh C a) λs0 u e=>⟨l,s0,_,u,IX (F:=F.lst r l) I j d.lst rfl (λm σ c' J C w f=>PK.of (MK.symm▸J) (A2 C f) w) (λv σ c' C y f=>⟨_,A2 C f,y⟩) (c:=⟨n.m,s0⟩) J e h⟩,]
def Ee(e:SL nm L)(w:SB nm CB)(u:ER nm F S A env)(x:RelM nm m c.m)(y:aD σ c.σ)(h:iB (L.T S t) (CB S b) F K [] m σ):
 iZ F.g A env (.While t b [] pos) c (QS nm F K) (EE F.exc):=by
 rw[6 h,λJ=>ah J λInv o h=>dr o λn R i z=>?_,0 J o,zF (λn c=>PK nm (Inv n) c) ⟨n,PK.of (x.sub i) y z⟩ λn W q=>cp q λB j k l D=>?_,0 q,T.Oj (e.T (F:=F.quiet) u.quiet k l (h n B j D)) λE X Y G U a h=>?_,]
 induction E with
 |false=>exact PK.of U a (h.2 rfl)
 |true=>
  rw[T.qx (w (F:=F.quiet) u.quiet U a (h.1 rfl)) λf c3 q=>?_,]
  induction f with
  |next=>refine aB λH d=>cp q λm3 M p r C=>aV C λ_ I=>cp I λN P Q i h=>d ?_;clear d H q C I;exact⟨N,Q,PK.of (p.sub i) r h⟩
  |ret v=>exact q
  |brk=>exact q.elim
  |cont=>exact q.elim
def P4(J:SL nm L)(a:SB nm CB)(U:ER nm F S A env)(C:RelM nm m c.m)(I:aD σ c.σ)(h:sq (L.T S t) (ite (CB S b) (CB S o)) F K [] m σ):
 iZ F.g A env (.If t b o pos) c (QS nm F K) (EE F.exc):=by
 rw[LL (T.pk (J.T U C I h) λd f i e C I h=>?_),]
 induction d with
 |true=>exact a U C I (h.1 rfl)
 |false=>exact a U C I (h.2 rfl)
def call_of(h:AX 16 e=true):∃f o ks p,e=.Call f o ks p:=
 y7 (show bif AX 16 e then∃f o ks p,e=.Call f o ks p else True by induction e using Expr.casesOn<;>first|exact trivial|exact⟨_,_,_,_,rfl⟩) h
def IY(o:SL nm L)(J:ER nm F S A env)(C:RelM nm m c.m)(I:aD σ c.σ)(h:gu (AX 16 e) (sq (L.E S e) pop) F K [] m σ):iZ F.g A env (.Expr e pos) c (QS nm F K) (EE F.exc):=by rw[<-h bw h,rE (call_of h.1) λf a b p q=>?_,8 q,CY (T.pk (o.E J C I h.2) λX d i U C I h=>PK.of C I h) J.inter,]
def MO(C:SL nm L)(U:ER nm F S A env)(J:RelM nm m c.m)(o:aD σ c.σ)(h:MC nm L CB S (.Return e pos) F K [] m σ):iZ F.g A env (.Return e pos) c (QS nm F K) (EE F.exc):=by
 induction e with
 |none=>exact CX ⟨σ,o,h⟩
 |some e=>exact zq (T.pk (C.E U J o h) λX a b I J o h=>⟨I,o,h⟩)
def MP(J:SL nm L)(d:ER nm F S A env)(C:RelM nm m c.m)(I:aD σ c.σ)(h:sq (L.E S o) (sq (L.E S i) kc) F K [] m σ):iZ F.g A env (.Delete [.Subscript o i p] pos) c (QS nm F K) (EE F.exc):=
 Hu (T.pk (J.E d C I h) λx q r e C I h=>T.pk (J.E d C I h) λy f t j C I h=>λU a b k l=>gj C (h d.hb A env f d.rm I U a b k l) λv u n C I h=>PK.of C I h)
def Ef(nm:List Str)(L:Lv):Prop:=∀{S:Scope} {e:Expr} {pos:Pos} {F:Fr} {A:Around} {env:Env} {K:KS} {m:GM} {σ:aq} {c:CS},ER nm F S A env->RelM nm m c.m->aD σ c.σ->Oi L S e F K [] m σ->iZ F.g A env (.Raise (some e) none pos) c (QS nm F K) (EE F.exc)
def IZ{P:Stmt->Prop}{s:Stmt}(h:MC nm L CB S s F K [] m σ)(pa:∀p,K [] m σ->P (.Pass p))(U:∀e p,MC nm L CB S (.Return e p) F K [] m σ->P (.Return e p))(a:∀e p,gu (AX 16 e) (sq (L.E S e) pop) F K [] m σ->P (.Expr e p))
 (C:∀t v p,PZ nm L S t v p.line F K [] m σ->P (.Assign [t] v p)) (I:∀t b o p,sq (L.T S t) (ite (CB S b) (CB S o)) F K [] m σ->P (.If t b o p))
 (d:∀t i b p,cE i=true->sq (L.E S i) (df (da t) (L.A S t) (CB S b)) F K [] m σ->P (.For t i b [] p)) (f:∀t b p,iB (L.T S t) (CB S b) F K [] m σ->P (.While t b [] p))
 (j:∀o i k p,sq (L.E S o) (sq (L.E S i) kc) F K [] m σ->P (.Delete [.Subscript o i k] p)) (J:∀e p,Oi L S e F K [] m σ->P (.Raise (some e) none p)):P s:=by
 induction s using Stmt.casesOn with
 |Pass=>exact pa _ h
 |Return=>exact U _ _ h
 |Expr=>exact a _ _ h
 |Assign=>exact aw (gZ h) λt q=>q.1▸C _ _ _ q.2
 |If=>exact I _ _ _ _ h
 |For=>exact W9.mp (ra (bw h).1).1▸d _ _ _ _ (ra (bw h).1).2 (bw h).2
 |While=>exact W9.mp (bw h).1▸f _ _ _ (bw h).2
 |Delete l p=>
  rw[aw (gZ h) λt q=>q.1▸?_,<-h q.2,0 q,]
  induction t using Expr.casesOn with
  |Subscript=>exact j _ _ _ _ h
  |_=>exact False.elim h
 |Raise=>exact aw (gf (bw h).2) λn q=>Option.isNone_iff_eq_none.mp (bw h).1▸q.1▸J _ _ q.2
 |_=>exact False.elim h
def A9{s:Stmt}(o:SL nm L)(U:SB nm CB)(a:Ef nm L)(J:ER nm F S A env)(C:RelM nm m c.m)(I:aD σ c.σ)(h:MC nm L CB S s F K [] m σ):iZ F.g A env s c (QS nm F K) (EE F.exc):=
 IZ (P:=λs=>iZ F.g A env s c (QS nm F K) (EE F.exc)) h (λ_ h=>CV (PK.of C I h)) (λ_ _ h=>MO o J C I h) (λ_ _ h=>IY o J C I h) (λ_ _ _ h=>A8 o J C I h) (λ_ _ _ _ h=>P4 o U J C I h)
  (λ_ _ _ _ b h=>MN o U J C I b h) (λ_ _ _ h=>Ee o U J C I h) (λ_ _ _ _ h=>MP o J C I h) λ_ _ h=>a J C I h
def gh(o:SL nm L)(d:Ef nm L)(n:Nat):SB nm (cB nm L n):=by
 induction n with
 |zero=>intro S l F A env K m σ c C I J h;exact False.elim h
 |succ n b=>
  intro S l F A env K m σ c C I J h
  induction l using List.casesOn with
  |nil=>exact zp (PK.of I J h)
  |cons s l=>
   rw[pR (T.mq (A9 o b d C I J h) λf i q=>?_),]
   induction f with
   |next=>refine cp q λj e U a h=>?_;clear q;exact b C U a h
   |ret v=>exact q
   |brk=>exact q
   |cont=>exact q
end
end
def P5:∃I J o U C a b d e f,aT (met 2 0)=[.Expr (.Call (.Attribute (.Call (.Name "super" I) [] [] J) "__init__" o) [.Name "what" U] [] C) a,.Assign [.Attribute (.Name "self" b) "what" d] (.Name "what" e) f]/\o.endLine=C.line:=
 ⟨⟨8,8,8,13⟩,⟨8,8,8,15⟩,⟨8,8,8,24⟩,⟨8,25,8,29⟩,⟨8,8,8,30⟩,⟨8,8,8,30⟩,⟨9,8,9,12⟩,⟨9,8,9,17⟩,⟨9,20,9,24⟩,⟨9,8,9,24⟩,by kernel_rfl,rfl⟩
def P6:∃I J o U C a b d e f,aT (met 4 0)=[.Expr (.Call (.Attribute (.Call (.Name "super" I) [] [] J) "__init__" o) [.Name "what" U] [] C) a,.Assign [.Attribute (.Name "self" b) "place" d] (.Name "place" e) f]/\o.endLine=C.line:=
 ⟨⟨18,8,18,13⟩,⟨18,8,18,15⟩,⟨18,8,18,24⟩,⟨18,25,18,29⟩,⟨18,8,18,30⟩,⟨18,8,18,30⟩,⟨19,8,19,12⟩,⟨19,8,19,18⟩,⟨19,21,19,26⟩,⟨19,8,19,26⟩,by kernel_rfl,rfl⟩
def MQ(P:Params):uG (KR P) cw 47=true:=by kernel_rfl
def MR(P:Params):uG (KR P) bZ 88=true:=by kernel_rfl
section
variable{g:G0}{A:Around}{env:Env}{c:CS}{E:V->CS->Prop}{k:Nat}{m8 place:V}
def MS(I:Base g)(e:b8 A (k+1))(J:c.σ x=some ⟨.exc,.exc 88 none none⟩)
 (h:∀d,c.σ d=none->d≠x->Q .none ⟨c.m,((c.σ.set d ⟨.my,.ns []⟩).set x ⟨.exc,.exc 88 (some d) none⟩).set d ⟨.my,.ns [("what",m8)]⟩⟩):kK g A env (.raw (.ref 37)) [.loc x,m8] c Q E:=by
 rw[gU I (fj _) e (by decide+kernel) (by decide+kernel) rfl λu L U q f i ok a=>?_,8 a,Lj P5 λj l v w y z B G H o=>ah o λM n p=>?_,0 o,[n],uR (C:=88) (D:=47) (t:=.exc) (dx:=none) (tb:=none) (x:=x) I (gV (fj _) (MQ _) (by rfl) (by rfl) (by rfl)) (bI (by rfl) bR) J (DZ _) (AI _) (gW _) (sf _) (Mu _) (pl:=do return(<-importBound (.Call (.Name "super" j) [] [] l) (bh (aG (met 2 0)) L cw.closure q (some 37) cw.code f)).getD true) ?_ (fR rfl p (by rw[5 (1<30),U4 ..,])) rfl rfl,bE ok (show List.lookup _ (aG (met 2 0)).names=_ by rfl) bR ⟨J,j5 (pS (ik (bE ok (show List.lookup _ (aG (met 2 0)).names=_ by rfl) bR (pU (bE ok (show List.lookup _ (aG (met 2 0)).names=_ by rfl) (bI (by rfl) bR) (Az .my I J (v7 _) (D1 _) λd r b=>?_))))))⟩,h d r b,]
def MT(J:Base g)(n:b8 A (k+2))(j:c.σ x=some ⟨.exc,.exc 88 none none⟩)
 (h:∀d,c.σ d=none->d≠x->Q .none ⟨c.m,(((c.σ.set d ⟨.my,.ns []⟩).set x ⟨.exc,.exc 88 (some d) none⟩).set d ⟨.my,.ns [("what",m8)]⟩).set d ⟨.my,.ns [("what",m8),("place",place)]⟩⟩):kK g A env (.raw (.ref 78)) [.loc x,m8,place] c Q E:=by
 rw[gU J (eS _) n (by decide+kernel) (by decide+kernel) rfl λM L U q p a ok b=>?_,8 b,Lj P6 λu v N P R S W X Y o=>ah o λp9 w y=>?_,0 o,[w],];have z:List.lookup ("what":Str) ((["self","what","place"]:List Str).zip [V.loc x,m8,place]).reverse=some m8:=bI (by rfl) bR;have l:List.lookup ("self":Str) ((["self","what","place"]:List Str).zip [V.loc x,m8,place]).reverse=some (.loc x):=bI (by rfl) (bI (by rfl) bR);rw[mQ (C:=88) (D:=88) (f2:=37) (x:=x) J ⟨gV (eS _) (MR _) (by rfl) (by rfl) (by rfl),l,.inr ⟨_,_,_,j⟩,D0 _,by rfl,gW _,sf _,Mt _,Mr _,Ms _⟩ (pl:=do return(<-importBound (.Call (.Name "super" u) [] [] v) (bh (aG (met 4 0)) L bZ.closure q (some 78) bZ.code p)).getD true) ?_ (fR rfl y (by rw[5 (1<30),U4 ..,])) (λe r B=>by injection B with f i;rw[3 f,3 i,⟨rfl,rfl⟩,]) rfl,jj (bE ok (show List.lookup _ (aG (met 4 0)).names=_ by rfl) z (pQ ?_)),MS (k:=k) J a j λd G I=>?_,];have H:(((c.σ.set d ⟨.my,.ns []⟩).set x ⟨.exc,.exc 88 (some d) none⟩).set d ⟨.my,.ns [("what",m8)]⟩) x=some ⟨.exc,.exc 88 (some d) none⟩:=by rw[[ak.ag _ _ I.symm],ak.ae ..,]
 rw[j5 (pS (ik (bE ok (show List.lookup _ (aG (met 4 0)).names=_ by rfl) bR (pU (bE ok (show List.lookup _ (aG (met 4 0)).names=_ by rfl) l (AA (t:=.exc) (t':=.my) J H (ak.ae ..) (v7 _) (AJ _) (by rw[5 (1<100000),U4 ..,]) ?_)))))),h d G I,]
def Ba(b:Base g)(f:b8 A (k+3))
 (h:∀x d σ',(∀a y,c.σ a=some y->σ' a=some y)->σ' x=some ⟨.exc,.exc 88 (some d) none⟩->σ' d=some ⟨.my,.ns [("what",m8),("place",place)]⟩->Q (.loc x) ⟨c.m,σ'⟩):CA g A env (.raw (.ref 88)) [m8,place] c Q E:=by
 rw[(AH .exc b f (AI _) (Mp _) (Mq _) (by rw[5 (2<=100),U4 ..,]) λl x I i j=>?_).ca,MT (k:=k) b I (ak.ae ..) λd C o=>⟨rfl,h x d _ (λa y e=>?_) ?_ (ak.ae ..)⟩,]
 ·have J:a≠x:=λq=>by rw[q,j] at e;injection e
  have U:a≠d:=λq=>by have C:(c.σ.set x ⟨.exc,.exc 88 none none⟩) d=none:=C;rw[<-q,ak.ag _ _ J,e] at C;rw[7 C,]
  rw[[ak.ag _ _ U,ak.ag _ _ U,ak.ag _ _ J,ak.ag _ _ U],5 ((c.σ.set x _) a=_),[ak.ag _ _ J],e,]
 ·rw[[ak.ag _ _ o.symm,ak.ag _ _ o.symm],ak.ae ..,]
end
def wp_raise(i:A.handled=none)
 (h:wpAny M A x (λv o=>∃e dx vs U,v=.ref e/\o.heap.get? e=some (qB C dx vs)/\vs[1]?=some .none/\o.heap.get? C=some U/\U.cls=.type "type"/\Looks M o.heap (isSubtype (.ref C) (.type "BaseException")) true/\E (.ref e) o) E s):
 wpAny M A (raiseStmt env (some x) none) Q E s:=by
 rw[2 raiseStmt,U0 (Wr h (λv o I=>?_) λ_ _ x=>x),ON I λe dx vs U a f j k b l m=>?_,0 I,3 a,aB λn J=>?_,];obtain⟨p,g,d,q,os⟩:=o;rw[J ?_,0 J n,2 setFlight,]
 repeat (first|with_reducible refine WQ f ?_|(with_reducible refine WQ k ?_;rw[b])|with_reducible refine V1 f rfl j ?_|with_reducible refine l.at ?_|wp_step)
 rw[wpAny_raiseNew_none i m,]
section
variable{g:G0}{A:Around}{env:Env}{c:CS}{E:V->CS->Prop}{Q:CF->CS->Prop}
def Bb(m:Base g)(p:A.handled=none)(h:EV g A env e c (λv U=>∃ea t dx,v=.loc ea/\U.σ ea=some ⟨t,.exc 88 dx none⟩/\E v U) E):iZ g A env (.Raise (some e) none pos) c Q E:=λF Z s r st=>by rw[[arm_exec_Raise],U0 (W0 (wp_raise (C:=88) p (U0 (T.run h r st (λf v X U u i j I q=>U0 (W0 (U6 ?_))) λf v X U u i j I q=>⟨f,X,U,i,j,I,q⟩)))),6 q,λa=>n5 a λea t dx k x q=>?_,0 a,3 k,];cases(show v=.ref ea from j);rw[ah (I.obj _ _ x) λo y b=>n4 b λz d _ B _=>?_,0 b,3 d,Lj ((AI g.w.params).at_) λG H N L M n P sub ab J=>GF J λD R S W k2 Y k5 l _=>?_,0 J,⟨ea,dx,z,_,rfl,y,B,(I.cW m) _ _ l,rfl,looks_mroIn (I.cW m) (v7 _).be,f,.loc ea,U,i,rfl,I,q⟩,]
end
noncomputable section
def MU(P:Params):keepIn (KR P) (.ref 88)=true:=by kernel_rfl
def Bc{L:Lv}{S:Scope}{e:Expr}{F:Fr}{K:KS}{m:GM}{σ:aq}{P:Expr->Prop}(h:Oi L S e F K [] m σ)
 (k:∀p a b pos,bF a=true->bF b=true->sq (L.E S (.Name "PaperFault" p)) (sq Oh (sq (cL L.E S [a,b]) rz)) F K [] m σ->P (.Call (.Name "PaperFault" p) [a,b] [] pos)):P e:=by
 induction e using Expr.casesOn with
 |Call f C U pos=>
  induction f using Expr.casesOn with
  |Name x p=>
   rw[dh (m5 h) λa b q=>?_,<-h bw q.2,<-I ra h.1,<-J ra I.1,<-o ra J.1,];exact q.1▸W9.mp I.2▸(rd o.1).symm▸k _ _ _ _ o.2 J.2 (rd o.1▸h.2)
  |_=>exact False.elim h
 |_=>exact False.elim h
def uW(l:List Str)(n:Nat):Ef l (lv l n):=λ{S e r F A env K m σ c} o t u h=>by rw[Bc (P:=λe=>iZ F.g A env (.Raise (some e) none r) c (QS l F K) (EE F.exc)) h λp a b G M N h=>Bb o.hb o.rm.hh (vV (T.pk ((oy n).E o t u h) λfv c1 m1 Q t u h=>?_)),6 h,λC=>aV C λv h=>?_,0 C,3 v,p7 o.hb (.k (MU _)) (T.mq (m7 (F':=()) (oy n).E o t u h) λvs c2 q=>?_) (eZ M) (ip (by rw[List.all_cons,N];rfl)),aB λR I=>aV q λW J=>cp J λm2 w X z U=>aV U λY h=>I ?_,0 I R q J U,dr (zM W) λx l1 f B=>?_,3 f,dr (zM B) λy l2 j D=>?_,3 j,];cases LQ D;rw[aw ((⟨F.k-3,(Nat.sub_add_cancel Y).symm⟩:∃k,F.k=k+3)) λk hk=>Ba o.hb (k:=k) (hk▸o.rm) λH d σ' hs L h2=>⟨H,_,_,rfl,L,w,z.PH λa x k i b e=>hs _ _ e,H,88,d,none,[(22,x),(23,y)],rfl,L,h2,(λT e=>by rw[7 e,]),h⟩,]
end
noncomputable section
def Bd{o β C:Type}{f:o->C}{I:o->C}{l:List o}(e:l.map f=l.map I):∀p∈l,f p=I p:=List.map_inj_left.mp e
def I0(P:Params):MA.map (λp=>nsIn (KR P) mainGlobals p.1)=MA.map λp=>some (some p.2):=by kernel_rfl
def I1(P:Params):K3.map (λp=>nsIn (KR P) mainGlobals p.1)=K3.map λ_=>some none:=by kernel_rfl
def I2:∀p∈K3,bootBuiltins p.1=some p.2:=VF.2 ⟨Hi,VF.2 ⟨Dg,VF.2 ⟨zJ,VF.2 ⟨xt,VF.2 ⟨Hj,VF.2 ⟨Hl,VF.2 ⟨Hm,VF.2 ⟨Hn,VF.2 ⟨zK,VF.2 ⟨Ho,VF.2 ⟨qg,VF.2 ⟨Hp,VF.2 ⟨Hq,λ_ h=>nomatch h⟩⟩⟩⟩⟩⟩⟩⟩⟩⟩⟩⟩⟩
def I3:K3.all (λp=>!decide (p.1="__name__"))=true:=rfl
def pA{C:List Str}{F:Fr}{S:Scope}{A:Around}{L:Addr}{o:List (Str×Addr)}{q:Str}{fn:Option Addr}{cd:Value}{fr:Option Addr}(I:Base F.g)(J:b8 A F.k)(nd:C.Nodup)(ok:bV (bh S L o q fn cd fr))
 (U:∀x,S.names.lookup x=some .cell->(o.lookup x).isSome=true):ER C F S A (bh S L o q fn cd fr):=
 ⟨I,J,nd,ok,⟨_,_,_,_,_,_,rfl,U⟩,λx v h=>Bd (β:=Unit) (I0 _) (x,v) (mem_lookup h),λx v h=>⟨Bd (β:=Unit) (I1 _) (x,v) (mem_lookup h),I2 (x,v) (mem_lookup h),by have:=V8.mp I3 (x,v) (mem_lookup h);simpa using this⟩⟩
noncomputable def jb:Nat->List V->GM
 |_,[]=>[]
 |i,a::r=>(i,a)::jb (i+1) r
def MV:∀{i j:Nat} {v:V},lk (jb i args) j=some v->i<=j/\args[j-i]?=some v:=by
 induction args with
 |nil=>exactλe=>nomatch e
 |cons a r o=>
  rw[λ{i j v} e=>?_,]
  replace e:=(qD ..).symm.trans e
  by_cases q:i=j
  ·rw[Vb q] at e;exact⟨Vz q,by rw[[q,Yj],e,]⟩
  ·rw[U8 q] at e
   rw[<-h o e,⟨V9 h.1,(Ve ((a::r)[·]?) (Nat.succ_pred_eq_of_pos (Nat.sub_pos_of_lt h.1)).symm).trans h.2⟩,]
def eI(nd:o.Nodup)(I:names=o.take args.length)(C:args.length=names.length):RelM o (jb 0 args) (names.zip args).reverse:=λj v e=>by
 rw[aV (MV e) λ_ e=>?_,];rw[Nat.sub_zero] at e;rw[aw (VH.mp e) λJ U=>?_,];have a:=C▸J;have b:o[j]?=some names[j]:=by rw[8 I,[List.getElem_take],U' _,]
 rw[⟨names[j],b,?_⟩,];have d:((names.zip args).reverse.map (·.1)).Nodup:=by rw[[V6,eP C,(List.reverse_perm _).nodup_iff,I],nd.sublist (List.take_sublist ..),]
 rw[fQ d (names[j],v) ?_,[XR],];have:(names.zip args)[j]'(by rw[[List.length_zip],ax [.eq af aj,.lt aC af,.mn bH aj af] (.lt aC bH) (.s 3 (.l [1,1,1,0,1]) (.l [1,1,0,0,1])) tt [_,_,_,_] C J rfl,])=(names[j],v):=by rw[List.getElem_zip,U]
 rw[<-this];rw[WH _,]
structure m9(f:Addr)(nm:List Str)(na:Nat)(fd:FuncData)(body:List Stmt)(S:Scope)(code:SC):Prop where
 hK:∀P,fN (KR P) f fd body (nm.take na) S
 nd:nm.Nodup
 hn:na<=nm.length
 hc:cB nm (lv nm 14) 14 S body=code
def wj(h:EE exc X c):XE m (EE exc) X c:=by
 rw[ah h λt u I=>GA I λo C j v w l J U y z=>?_,0 h I,3 l,⟨o,C,_,v,rfl,J,y,λT n=>⟨t,u.PH λa x k i b d=>?_,o,C,j,some T,w,rfl,?_,?_,λA e=>by rw[1 e,ak.ae ..,],z⟩⟩,]
 ·have f:a≠T:=λq=>by rw[q,n] at d;injection d
  have r:a≠o:=λq=>by rw[q,J] at d;cases d
  rw[5 (((c.σ.set o _).set T _) a=_),[ak.ag _ _ f,ak.ag _ _ r],d,]
 ·have f:o≠T:=λq=>by rw[q,n] at J;injection J
  rw[5 (((c.σ.set o _).set T _) o=_),[ak.ag _ _ f],ak.ae ..,]
 ·have f:j≠T:=λq=>by rw[q,n] at U;injection U
  have r:j≠o:=λq=>by rw[q,J] at U;cases U
  rw[5 (((c.σ.set o _).set T _) j=_),[ak.ag _ _ f,ak.ag _ _ r],U,]
section
variable{f:Addr}{nm:List Str}{na:Nat}{fd:FuncData}{body:List Stmt}{S:Scope}{code:SC}{g:G0}{k:Nat}{exc:XQ}{σ:aq}{args:List V}{Q:V->aq->Prop}
noncomputable def jB(S:Scope)(names:List Str):Bool:=S.names.all (λx=>!decide (x.2=.cell))&&names.all λn=>decide (S.names.lookup n=some .local)
noncomputable def Eg(S:Scope)(names:List Str):Bool:=S.names.all (λx=>!decide (x.2=.free))&&decide ((cellsFrom 0 S.names []).map (·.1)).Nodup&&names.all λn=>decide (S.names.lookup n=some .local)||decide (S.names.lookup n=some .cell)
def kg(U:F.ret=Q)(h:QS nm F (λ_ _ σ=>Q .none σ) J c):(⟨m,c.σ⟩:CS).m=m/\∃σ',aD σ' (⟨m,c.σ⟩:CS).σ/\Q (gP J) σ':=by
 rw[⟨rfl,?_⟩,]
 induction J with
 |next=>revert h;refineλo=>cp o λa C _ I h=>?_;clear o;exact⟨C,I,h⟩
 |ret v=>revert h;rw[λo=>ah o λC I h=>?_,0 o,];exact⟨C,I,U▸h⟩
 |brk=>exact h.elim
 |cont=>exact h.elim
abbrev Be(g:G0)(k:Nat)(exc:XQ)(σ:aq)(f:V)(args:List V)(Q:V->aq->Prop):Prop:=GJ g k exc σ (λA env c Q E=>kK g A env f args c Q E) Q
def Be.gc{f:V}(h:Be g k exc σ f args Q):GC g k exc σ f args Q:=λo A env c C I=>(h o A env c C I).ca
def gi(D:m9 f nm na fd body S code)(o:jB S (nm.take na)=true)(b:args.length=na)(h:code ⟨g,k,Q,exc⟩ (λ_ _ σ=>Q .none σ) [] (jb 0 args) σ):Be g (k+1) exc σ (.raw (.ref f)) args Q:=λd A env c i j=>by
 have J:=ra o;have C:args.length=(nm.take na).length:=by rw[[List.length_take,b],(Wl D.hn).symm,]
 rw[gU d (D.hK _) i (λx U e=>by have:=V8.mp J.1 x U;rw[e] at this;rw[7 this,]) (λn l=>rd (V8.mp J.2 n l)) C λm L I q p a ok r=>j5 ?_,];have t:ER nm ⟨g,k,Q,exc⟩ S m (bh S L I q (some f) fd.code p):=pA d a D.nd ok λx U=>by rw[<-this V8.mp J.1 _ (mem_lookup U),7 this,]
 rw[<-D.hc] at h;rw[T.mono (gh (oy 14) (uW _ 14) 14 t (c:=⟨((nm.take na).zip args).reverse,c.σ⟩) (eI D.nd (by rw[b]) C) j h) (λu c' q=>kg rfl q) λX c' e=>wj e,]
def a8(D:m9 f nm na fd body S code)(o:jB S (nm.take na)=true)(C:args.length=na)(h:code ⟨g,k,Q,exc⟩ (λ_ _ σ=>Q .none σ) [] (jb 0 args) σ):GC g (k+1) exc σ (.raw (.ref f)) args Q:=(gi D o C h).gc
def bp(D:m9 f nm na fd body S code)(o:Eg S (nm.take na)=true)(J:fd.closure=[])(d:args.length=na)(h:code ⟨g,k,Q,iI⟩ (λ_ _ σ=>Q .none σ) [] (jb 0 args) σ):GC g (k+1) exc σ (.raw (.ref f)) args Q:=λi A env c l m=>by
 have j:=ra o;have U:=ra j.1;have C:args.length=(nm.take na).length:=by rw[[List.length_take,d],(Wl D.hn).symm,]
 rw[xA i (D.hK _) l J (λx p e=>by have:=V8.mp U.1 x p;rw[e] at this;rw[7 this,]) (rd U.2) (λn r=>by have:=V8.mp j.2 n r;rw[Bool.or_eq_true,WN,WN] at this;rw[this,]) C λt L I q fn u v a ok b=>?_,]
 have w:ER nm ⟨g,k,Q,iI⟩ S t (bh S L I q fn u v):=pA i a D.nd ok b;rw[<-D.hc] at h;rw[T.mono (gh (oy 14) (uW _ 14) 14 w (c:=⟨((nm.take na).zip args).reverse,c.σ⟩) (eI D.nd (by rw[d]) C) m h) (λy c' q=>kg rfl q) λX c' e=>e.quiet.elim,]
noncomputable def cW(lo hi:Nat)(t:Tg):Bool:=Nat.ble lo t.k&&Nat.blt t.k hi
def aA(lo hi:Nat)(σ σ':aq):Prop:=∀t:Tg,cW lo hi t=false->σ' t=σ t
def Kept(lo hi:Nat)(σ σ':aq):Prop:=∀t:Tg,cW lo hi t=true->σ' t=σ t
def az{lo hi:Nat}{t:Tg}:cW lo hi t=true↔lo<=t.k/\t.k<hi:=by rw[2 cW Nat.blt,[W8,Yk,Yk],Iff.rfl,]
def I4{lo hi lo' hi':Nat}{t:Tg}(a:cW lo hi t=true)(b:cW lo' hi' t=true)(h:hi<=lo'\/hi'<=lo):False:=
 h.elim (λh=>VV.mpr (U3 h (az.mp b).1) (az.mp a).2) λh=>VV.mpr (U3 h (az.mp a).1) (az.mp b).2
def kU{lo hi lo' hi':Nat}{t:Tg}(a:cW lo hi t=true)(h:hi<=lo'\/hi'<=lo):cW lo' hi' t=false:=VC.mpr λb=>I4 a b h
def Eh{lo hi lo' hi':Nat}{t:Tg}(a:cW lo hi t=true)(h:lo'<=lo)(h':hi<=hi'):cW lo' hi' t=true:=az.mpr ⟨U3 h (az.mp a).1,Vg (az.mp a).2 h'⟩
def Bf{lo hi lo' hi':Nat}{t:Tg}(a:cW lo hi t=false)(h:lo<=lo')(h':hi'<=hi):cW lo' hi' t=false:=VC.mpr λb=>Bool.noConfusion (a.symm.trans (Eh b h h'))
def kh{lo hi n:Nat}{t:Tg}(e:t.k=n)(h:n<lo\/hi<=n):cW lo hi t=false:=VC.mpr λq=>h.elim (λa=>VV.mpr (az.mp q).1 (e▸a)) λa=>VV.mpr a (e▸(az.mp q).2)
def aA.refl{lo hi:Nat}{σ:aq}:aA lo hi σ σ:=λ_ _=>rfl
def aA.set{lo hi:Nat}{σ σ':aq}{t:Tg}{o:GO}(h:aA lo hi σ σ')(C:cW lo hi t=true):aA lo hi σ (σ'.set t o):=λu I=>(aq.ag λ(e:t=u)=>by rw[e,I] at C;rw[7 C,]).trans (h u I)
def aA.del{lo hi:Nat}{σ σ':aq}{t:Tg}(h:aA lo hi σ σ')(o:cW lo hi t=true):aA lo hi σ (σ'.del t):=λu C=>(aq.aR λ(e:t=u)=>by rw[e,C] at o;rw[7 o,]).trans (h u C)
def aA.trans{lo hi:Nat}{σ σ' o:aq}(h:aA lo hi σ σ')(h':aA lo hi σ' o):aA lo hi σ o:=λu C=>(h' u C).trans (h u C)
def aA.wide{lo hi lo' hi':Nat}{σ σ':aq}(h:aA lo hi σ σ')(h1:lo'<=lo)(C:hi<=hi'):aA lo' hi' σ σ':=λu o=>h u (VC.mpr λq=>by have:=az.mp q;rw[az.mpr ⟨U3 h1 this.1,Vg this.2 C⟩] at o;rw[7 o,])
def aA.kept{lo hi lo' hi':Nat}{σ σ':aq}(h:aA lo hi σ σ')(o:hi<=lo'\/hi'<=lo):Kept lo' hi' σ σ':=λu C=>h u (kU C o.symm)
end
end
noncomputable section
abbrev CD(f:Addr)(o:List Str)(C:Nat)(st:Stmt)(q:String)(I:List (String×Addr))(m J:Value)(code:SC):Prop:=m9 f o C (yW st q I m (.ref (f-1)) J) (aT st) (aG st) code
def eh{f:Addr}{o:List Str}{C:Nat}{st:Stmt}{q:String}{I:List (String×Addr)}{m J:Value}{code:SC}(h:∀P (v:Nat->Value),((KR P).lookup f,codeIn (KR P) (.ref (f-1)) (Str.ofString q),bindArgs (yW st q I m (.ref (f-1)) J) ⟨(List.range (o.take C).length).map v,[]⟩,Hs (aG st))=(some (kF st q I m (.ref (f-1)) J),true,pure ((o.take C).zip ((List.range (o.take C).length).map v)),true))
 (U:(decide o.Nodup,Nat.ble C o.length,cB o (lv o 14) 14 (aG st) (aT st))=(true,true,code)):CD f o C st q I m J code:=
 have z:=XH U;have y:=XH z.2
 ⟨λP=>FF λv=>h P v,Wi z.1,U1 y.1,y.2⟩
noncomputable def yl:List Str:=["heap"]
noncomputable def pB:SC:=aa 0<|a' 36<|ba 0<|aM (.builtin "len")<|aa 0<|a9 14<|aL 1<|aa 0<|a9 18<|bc 3<|sq cU<|ao
def ym:CD 109 yl 1 (dH 10) "mark_of" [] (kS "alikeheap.whys" 301) .none pB:=eh (λ_ _=>by kernel_rfl) (by kernel_rfl)
noncomputable def sD:List Str:=["heap","n"]
noncomputable def kW:SC:=aa 0<|a9 12<|a' 45<|aa 1<|ba 1<|Mz (.int 100000 303)<|bO .Gt<|sq bu<|sq (ite (sq bad<|ao) ao)<|aa 0<|a9 12<|a' 44<|aa 1<|ba 1<|sq cU<|ao
def sE:CD 116 sD 2 (dH 11) "told_term" [] (kS "alikeheap.whys" 301) .none kW:=eh (λ_ _=>by kernel_rfl) (by kernel_rfl)
noncomputable def lI:List Str:=["heap","index","reason","name","n"]
noncomputable def gv:SC:=aa 0<|a9 14<|aa 1<|sq sub<|au (vi 2)<|sq sub<|aN 2<|aa 2<|au (vi 0)<|sq sub<|au (.str "told")<|bO .Eq<|sq bu<|sq (ite (au (.str "told")<|aa 2<|au (vi 1)<|sq sub<|bc 2<|sq cU<|ao) ao)<|au (.str "rule")<|aa 2<|au (vi 1)<|sq sub<|aM (.type "tuple")<|sq (comp true [0] (aa 2<|au (vi 2)<|sq sub<|ao) (gd 2<|aN 3<|aN 4<|ao) (au (.bool true)<|ao) (aa 3<|aM (.ref 116)<|aa 0<|aa 4<|aL 2<|bc 2<|ao))<|aL 1<|bc 3<|sq cU<|ao
def lJ:CD 121 lI 2 (dH 12) "paper_of_edge" [] (kS "alikeheap.whys" 301) .none gv:=eh (λ_ _=>by kernel_rfl) (by kernel_rfl)
noncomputable def qG:List Str:=["heap","a","papers","row","late","k"]
noncomputable def jC:SC:=aM (.type "list")<|aa 2<|aL 1<|aN 3<|sq (iB (aM (.builtin "len")<|aa 3<|aL 1<|au (vi 1)<|bO .Gt<|sq bu<|ao) (sq (comp false [3] (aM (.type "range")<|au (vi 0)<|aM (.builtin "len")<|aa 3<|aL 1<|au (vi 1)<|dk .Sub<|au (vi 2)<|aL 3<|ao) (aN 5<|ao) (au (.bool true)<|ao) (au (.str "join")<|aa 3<|aa 5<|sq sub<|aa 3<|aa 5<|au (vi 1)<|dk .Add<|sq sub<|bc 3<|ao))<|aN 4<|aa 4<|aa 3<|aM (.builtin "len")<|aa 3<|aL 1<|aM (.builtin "len")<|aa 3<|aL 1<|au (vi 2)<|dk .Mod<|dk .Sub<|au .none<|au .none<|sq fL<|sq sub<|dk .Add<|aN 3<|ao))<|aM (.builtin "len")<|aa 3<|aL 1<|au (vi 1)<|bO .Eq<|sq bu<|sq (ite (aa 3<|au (vi 0)<|sq sub<|ao) (au (.str "same")<|aM (.ref 116)<|aa 0<|aa 1<|aL 2<|bc 2<|ao))<|sq cU<|ao
def qH:CD 126 qG 3 (dH 13) "joined_row" [] (kS "alikeheap.whys" 301) .none jC:=eh (λ_ _=>by kernel_rfl) (by kernel_rfl)
noncomputable def sF:List Str:=["self","heap"]
noncomputable def kX:SC:=aa 1<|aa 0<|jf 0<|au (vi 0)<|aa 0<|jf 1<|au (vi 0)<|aa 0<|jf 2<|au .none<|aa 0<|jf 3<|sq gY<|aa 0<|jf 4<|ao
def sG:CD 140 sF 2 (met 14 0) "Whys.__init__" [] (kS "alikeheap.whys" 301) .none kX:=eh (λ_ _=>by kernel_rfl) (by kernel_rfl)
noncomputable def nf:List Str:=["self","mark","index","a","b","reason"]
noncomputable def g6:SC:=aM (.ref 109)<|aa 0<|a9 0<|aL 1<|aN 1<|aa 1<|aa 0<|a9 3<|bO .NotEq<|sq bu<|sq (ite (aa 1<|sq gY<|bc 2<|gd 2<|aa 0<|jf 3<|aa 0<|jf 4<|aa 0<|a9 0<|a9 15<|sq (df false (aN 2<|ao) (aa 0<|a9 0<|a9 14<|aa 2<|sq sub<|gd 3<|aN 3<|aN 4<|aN 5<|aa 0<|a9 4<|a' 28<|aa 3<|eY 0<|ba 2<|a' 24<|aa 2<|aa 4<|bc 2<|ba 1<|sq pop<|aa 0<|a9 4<|a' 28<|aa 4<|eY 0<|ba 2<|a' 24<|aa 2<|aa 3<|bc 2<|ba 1<|sq pop<|ao))<|ao) ao)<|ao
def ng:CD 147 nf 1 (met 14 1) "Whys.renewed" [] (kS "alikeheap.whys" 301) .none g6:=eh (λ_ _=>by kernel_rfl) (by kernel_rfl)
noncomputable def sH:List Str:=["self","a","b","before","came","row","spot","here","index","other","found"]
noncomputable def kY:SC:=aa 0<|a' 31<|ba 0<|sq pop<|sq sA<|aa 1<|sq key<|bc 0<|sq (mZ 1)<|aa 1<|eY 1<|au (vi 0)<|bc 3<|sq (Ck [4,5,6])<|sq (iB (aa 6<|aM (.builtin "len")<|aa 5<|aL 1<|bO .Lt<|sq bu<|sq (eu .And (aa 2<|aa 4<|bO .NotIn<|sq bu<|ao))<|ao) (aa 5<|aa 6<|sq sub<|aa 6<|au (vi 1)<|dk .Add<|bc 2<|sq (Ck [7,6])<|aa 0<|a9 4<|a' 27<|aa 7<|eY 0<|ba 2<|sq (df true (gd 2<|aN 8<|aN 9<|ao) (aa 8<|aa 3<|bO .Lt<|sq bu<|sq (eu .And (aa 9<|aa 4<|bO .NotIn<|sq bu<|ao))<|sq (ite (aa 7<|aa 8<|bc 2<|aa 4<|aa 9<|sq cD<|aa 5<|a' 24<|aa 9<|ba 1<|sq pop<|ao) ao)<|ao))<|ao))<|aa 2<|aa 4<|bO .NotIn<|sq bu<|sq (ite (Mz (.ref 88)<|sq Oh<|au (.str "two numbers are not alike")<|aa 1<|aa 2<|bc 2<|sq rz<|ao) ao)<|eY 0<|aN 10<|sq (iB (aa 2<|aa 1<|bO .NotEq<|sq bu<|ao) (aa 4<|aa 2<|sq sub<|gd 2<|aN 7<|aN 8<|aa 10<|a' 24<|aa 8<|aa 0<|a9 0<|a9 14<|aa 8<|sq sub<|au (vi 0)<|sq sub<|aa 7<|bO .NotEq<|bc 2<|ba 1<|sq pop<|aa 7<|aN 2<|ao))<|aa 10<|au .none<|au .none<|au (vi 1)<|sq (un .USub)<|sq fL<|sq sub<|sq cU<|ao
def sI:CD 154 sH 4 (met 14 2) "Whys.path" [] (kS "alikeheap.whys" 301) .none kY:=eh (λ_ _=>by kernel_rfl) (by kernel_rfl)
noncomputable def qI:List Str:=["self","a","b"]
noncomputable def gk:SC:=au (vi 0)<|au (vi 0)<|bc 2<|gd 2<|aa 0<|jf 1<|aa 0<|jf 2<|aa 0<|a' 34<|aa 1<|aa 2<|aM (.builtin "len")<|aa 0<|a9 0<|a9 14<|aL 1<|ba 3<|sq cU<|ao
def qJ:CD 161 qI 3 (met 14 3) "Whys.paper" [] (kS "alikeheap.whys" 301) .none gk:=eh (λ_ _=>by kernel_rfl) (by kernel_rfl)
noncomputable def nh:List Str:=["self","a","b","before","found","index","is_back","paper"]
noncomputable def g7:SC:=eY 0<|aN 4<|aa 0<|a' 32<|aa 1<|aa 2<|aa 3<|ba 3<|sq (df true (gd 2<|aN 5<|aN 6<|ao) (aa 0<|a' 35<|aa 5<|ba 1<|aN 7<|aa 4<|a' 24<|aa 6<|sq bu<|sq (ite (au (.str "turn")<|aa 7<|bc 2<|ao) (aa 7<|ao))<|ba 1<|sq pop<|ao))<|aM (.ref 126)<|aa 0<|a9 0<|aa 1<|aa 4<|aL 3<|sq cU<|ao
def nj:CD 168 nh 4 (met 14 4) "Whys.between" [] (kS "alikeheap.whys" 301) .none g7:=eh (λ_ _=>by kernel_rfl) (by kernel_rfl)
noncomputable def nk:List Str:=["self","index","a","b","reason","pairs","found","x","y"]
noncomputable def g8:SC:=aa 0<|a9 1<|au (vi 1)<|dk .Add<|aa 0<|jf 1<|aa 0<|a9 1<|Mz (.int 20000 305)<|bO .Gt<|sq bu<|sq (ite (sq bad<|ao) ao)<|aa 0<|a9 0<|a9 14<|aa 1<|sq sub<|gd 3<|aN 2<|aN 3<|aN 4<|aa 4<|au (vi 0)<|sq sub<|au (.str "like")<|bO .NotEq<|sq bu<|sq (ite (aM (.ref 121)<|aa 0<|a9 0<|aa 1<|aL 2<|sq cU<|ao) ao)<|aa 0<|a9 2<|au (vi 1)<|dk .Add<|aa 0<|jf 2<|aa 0<|a9 2<|Mz (.int 100 307)<|bO .Gt<|sq bu<|sq (ite (sq bad<|ao) ao)<|aM (.type "zip")<|aa 0<|a9 0<|a9 12<|a' 42<|aa 2<|ba 1<|aa 0<|a9 0<|a9 12<|a' 42<|aa 3<|ba 1<|aL 2<|aN 5<|au (.str "under")<|aa 0<|a9 0<|a9 12<|a' 41<|aa 2<|ba 1<|aM (.type "tuple")<|sq (comp true [1,0] (aa 5<|ao) (gd 2<|aN 7<|aN 8<|ao) (au (.bool true)<|ao) (aa 0<|a' 34<|aa 7<|aa 8<|aa 1<|ba 3<|ao))<|aL 1<|bc 3<|aN 6<|aa 0<|a9 2<|au (vi 1)<|dk .Sub<|aa 0<|jf 2<|aa 6<|sq cU<|ao
def nq:CD 173 nk 2 (met 14 5) "Whys.of_edge" [] (kS "alikeheap.whys" 301) .none g8:=eh (λ_ _=>by kernel_rfl) (by kernel_rfl)
noncomputable def Ei:List Str:=["text","sign"]
noncomputable def wk:SC:=aa 0<|au (.str "")<|bO .NotEq<|sq (AW .And (sq (comp false [] (aa 0<|ao) (aN 1<|ao) (aa 1<|a' 29<|ba 0<|sq bu<|sq (eu .Or (aa 1<|au (.str "()[]{},:")<|bO .In<|sq bu<|ao))<|ao) (aa 1<|ao))<|eY 0<|bO .Eq<|ao))<|sq cU<|ao
def Ej:CD 185 Ei 1 (dH 16) "is_op" [] (kS "alikeheap.terms" 427) .none wk:=eh (λ_ _=>by kernel_rfl) (by kernel_rfl)
noncomputable def sJ:List Str:=["self"]
noncomputable def k6:SC:=eY 0<|aa 0<|jf 5<|sq gY<|aa 0<|jf 6<|eY 0<|aa 0<|jf 7<|eY 0<|aa 0<|jf 8<|ao
def sL:CD 204 sJ 1 (met 18 0) "Bank.__init__" [] (kS "alikeheap.terms" 427) .none k6:=eh (λ_ _=>by kernel_rfl) (by kernel_rfl)
noncomputable def sM:List Str:=["self"]
noncomputable def k7:SC:=aM (.builtin "len")<|aa 0<|a9 5<|aL 1<|sq cU<|ao
def sN:CD 211 sM 1 (met 18 1) "Bank.size" [] (kS "alikeheap.terms" 427) .none k7:=eh (λ_ _=>by kernel_rfl) (by kernel_rfl)
noncomputable def sO:List Str:=["self","op","kids","node","kid"]
noncomputable def k8:SC:=aa 1<|bc 1<|aM (.type "tuple")<|aa 2<|aL 1<|dk .Add<|aN 3<|aa 3<|aa 0<|a9 6<|bO .In<|sq bu<|sq (ite (aa 0<|a9 6<|aa 3<|sq sub<|sq cU<|ao) ao)<|aa 0<|a' 38<|aa 1<|ba 1<|sq pop<|aa 3<|au (vi 1)<|au .none<|au .none<|sq fL<|sq sub<|sq (df false (aN 4<|ao) (au (vi 0)<|aa 4<|sq (chain .LtE (aM (.builtin "len")<|aa 0<|a9 5<|aL 1<|bO .Lt<|sq bu<|ao))<|sq neg<|sq (ite (sq bad<|ao) ao)<|ao))<|aM (.builtin "len")<|aa 0<|a9 5<|aL 1<|aa 0<|a9 6<|aa 3<|sq cD<|aa 0<|a9 5<|a' 24<|aa 3<|ba 1<|sq pop<|aa 0<|a9 7<|a' 24<|au (vi 1)<|aM (.builtin "sum")<|sq (comp false [0] (aa 3<|au (vi 1)<|au .none<|au .none<|sq fL<|sq sub<|ao) (aN 4<|ao) (au (.bool true)<|ao) (aa 0<|a9 7<|aa 4<|sq sub<|ao))<|aL 1<|dk .Add<|ba 1<|sq pop<|aa 0<|a9 8<|a' 24<|au (vi 1)<|aM (.builtin "max")<|sq (comp false [0] (aa 3<|au (vi 1)<|au .none<|au .none<|sq fL<|sq sub<|ao) (aN 4<|ao) (au (.bool true)<|ao) (aa 0<|a9 8<|aa 4<|sq sub<|ao))<|au (vi 0)<|eY 1<|dk .Add<|aL 1<|dk .Add<|ba 1<|sq pop<|aM (.builtin "len")<|aa 0<|a9 5<|aL 1<|au (vi 1)<|dk .Sub<|sq cU<|ao
def sP:CD 216 sO 3 (met 18 2) "Bank.take" [] (kS "alikeheap.terms" 427) .none k8:=eh (λ_ _=>by kernel_rfl) (by kernel_rfl)
noncomputable def nr:List Str:=["self","op"]
noncomputable def g9:SC:=aM (.ref 185)<|aa 1<|aL 1<|sq bu<|sq neg<|sq (eu .Or (aa 1<|au (vi 0)<|sq sub<|au (.str "?")<|bO .Eq<|sq bu<|ao))<|sq (ite (sq bad<|ao) ao)<|ao
def nv:CD 223 nr 2 (met 18 3) "Bank.require" [] (kS "alikeheap.terms" 427) .none g9:=eh (λ_ _=>by kernel_rfl) (by kernel_rfl)
noncomputable def uX:List Str:=["self","many"]
noncomputable def nx:SC:=sq (iB (aM (.builtin "len")<|aa 0<|a9 5<|aL 1<|aM (.builtin "max")<|aa 1<|au (vi 0)<|aL 2<|bO .Gt<|sq bu<|ao) (aa 0<|a9 6<|a' 25<|aa 0<|a9 5<|a' 25<|ba 0<|ba 1<|sq pop<|aa 0<|a9 7<|a' 25<|ba 0<|sq pop<|aa 0<|a9 8<|a' 25<|ba 0<|sq pop<|ao))<|ao
def uY:CD 242 uX 2 (met 18 6) "Bank.cut" [] (kS "alikeheap.terms" 427) .none nx:=eh (λ_ _=>by kernel_rfl) (by kernel_rfl)
noncomputable def yn:List Str:=["self","n"]
noncomputable def pC:SC:=aa 0<|a9 5<|aa 1<|sq sub<|au (vi 0)<|sq sub<|sq cU<|ao
def yo:CD 249 yn 2 (met 18 7) "Bank.op" [] (kS "alikeheap.terms" 427) .none pC:=eh (λ_ _=>by kernel_rfl) (by kernel_rfl)
noncomputable def sQ:List Str:=["self","n"]
noncomputable def k9:SC:=aa 0<|a9 5<|aa 1<|sq sub<|au (vi 1)<|au .none<|au .none<|sq fL<|sq sub<|sq cU<|ao
def sR:CD 256 sQ 2 (met 18 8) "Bank.kids" [] (kS "alikeheap.terms" 427) .none k9:=eh (λ_ _=>by kernel_rfl) (by kernel_rfl)
noncomputable def sS:List Str:=["self","n","below","stack","kid","made","k"]
noncomputable def la:SC:=sq sA<|aa 1<|sq key<|au (.bool true)<|sq (mZ 1)<|aa 1<|eY 1<|bc 2<|sq (Ck [2,3])<|sq (iB (aM (.builtin "len")<|aa 3<|aL 1<|au (vi 0)<|bO .Gt<|sq bu<|ao) (aa 0<|a' 42<|aa 3<|a' 25<|ba 0<|ba 1<|sq (df false (aN 4<|ao) (aa 4<|aa 2<|bO .NotIn<|sq bu<|sq (ite (au (.bool true)<|aa 2<|aa 4<|sq cD<|aa 3<|a' 24<|aa 4<|ba 1<|sq pop<|ao) ao)<|ao))<|ao))<|sq gY<|aN 5<|aM (.builtin "sorted")<|aa 2<|aL 1<|sq (df false (aN 6<|ao) (aa 0<|a' 41<|aa 6<|ba 1<|bc 1<|aM (.type "tuple")<|sq (comp false [5] (aa 0<|a' 42<|aa 6<|ba 1<|ao) (aN 4<|ao) (au (.bool true)<|ao) (aa 5<|aa 4<|sq sub<|ao))<|aL 1<|dk .Add<|aa 5<|aa 6<|sq cD<|ao))<|aa 5<|aa 1<|sq sub<|sq cU<|ao
def sT:CD 268 sS 2 (met 18 10) "Bank.term" [] (kS "alikeheap.terms" 427) .none la:=eh (λ_ _=>by kernel_rfl) (by kernel_rfl)
noncomputable def oz:List Str:=["self","n"]
noncomputable def iK:SC:=aa 0<|a9 7<|aa 1<|sq sub<|sq cU<|ao
def oA:CD 275 oz 2 (met 18 11) "Bank.weight" [] (kS "alikeheap.terms" 427) .none iK:=eh (λ_ _=>by kernel_rfl) (by kernel_rfl)
noncomputable def oB:List Str:=["self"]
noncomputable def iL:SC:=eY 0<|aa 0<|jf 9<|eY 0<|aa 0<|jf 10<|eY 0<|aa 0<|jf 11<|ao
def oC:CD 310 oB 1 (met 20 0) "Unions.__init__" [] (kS "alikeheap.unions" 572) .none iL:=eh (λ_ _=>by kernel_rfl) (by kernel_rfl)
noncomputable def oE:List Str:=["self"]
noncomputable def iM:SC:=aa 0<|a9 9<|a' 24<|aM (.builtin "len")<|aa 0<|a9 9<|aL 1<|ba 1<|sq pop<|aa 0<|a9 10<|a' 24<|aM (.builtin "len")<|aa 0<|a9 10<|aL 1<|eY 1<|ba 1<|sq pop<|aM (.builtin "len")<|aa 0<|a9 9<|aL 1<|au (vi 1)<|dk .Sub<|sq cU<|ao
def oF:CD 317 oE 1 (met 20 1) "Unions.make" [] (kS "alikeheap.unions" 572) .none iM:=eh (λ_ _=>by kernel_rfl) (by kernel_rfl)
noncomputable def oG:List Str:=["self"]
noncomputable def iN:SC:=aM (.builtin "len")<|aa 0<|a9 9<|aL 1<|sq cU<|ao
def oH:CD 324 oG 1 (met 20 2) "Unions.size" [] (kS "alikeheap.unions" 572) .none iN:=eh (λ_ _=>by kernel_rfl) (by kernel_rfl)
noncomputable def oI:List Str:=["self","a"]
noncomputable def iO:SC:=sq (iB (aa 0<|a9 9<|aa 1<|sq sub<|aa 1<|bO .NotEq<|sq bu<|ao) (aa 0<|a9 9<|aa 1<|sq sub<|aN 1<|ao))<|aa 1<|sq cU<|ao
def oJ:CD 331 oI 2 (met 20 3) "Unions.find" [] (kS "alikeheap.unions" 572) .none iO:=eh (λ_ _=>by kernel_rfl) (by kernel_rfl)
noncomputable def ny:List Str:=["self","a","b","kept","gone"]
noncomputable def hH:SC:=aM (.builtin "sorted")<|aa 0<|a' 48<|aa 1<|ba 1<|aa 0<|a' 48<|aa 2<|ba 1<|eY 2<|aL 1<|gd 2<|aN 3<|aN 4<|aa 3<|aa 4<|bO .Eq<|sq bu<|sq (ite (au .none<|sq cU<|ao) ao)<|aa 3<|aa 0<|a9 9<|aa 4<|sq cD<|aa 0<|a9 10<|aa 3<|sq sub<|a' 26<|aa 0<|a9 10<|aa 4<|sq sub<|ba 1<|sq pop<|aa 0<|a9 11<|a' 24<|aa 3<|aa 4<|bc 2<|ba 1<|sq pop<|aa 3<|aa 4<|bc 2<|sq cU<|ao
def nz:CD 338 ny 3 (met 20 4) "Unions.merge" [] (kS "alikeheap.unions" 572) .none hH:=eh (λ_ _=>by kernel_rfl) (by kernel_rfl)
noncomputable def ki:List Str:=["self","a"]
noncomputable def fS:SC:=aM (.builtin "sorted")<|aa 0<|a9 10<|aa 0<|a' 48<|aa 1<|ba 1<|sq sub<|aL 1<|sq cU<|ao
def kj:CD 345 ki 2 (met 20 5) "Unions.members" [] (kS "alikeheap.unions" 572) .none fS:=eh (λ_ _=>by kernel_rfl) (by kernel_rfl)
noncomputable def oK:List Str:=["self","many","kept","gone"]
noncomputable def iP:SC:=sq (iB (aM (.builtin "len")<|aa 0<|a9 11<|aL 1<|aM (.builtin "max")<|aa 1<|au (vi 0)<|aL 2<|bO .Gt<|sq bu<|ao) (aa 0<|a9 11<|a' 25<|ba 0<|gd 2<|aN 2<|aN 3<|aa 3<|aa 0<|a9 9<|aa 3<|sq cD<|aa 0<|a9 10<|aa 2<|sq sub<|aM (.builtin "len")<|aa 0<|a9 10<|aa 2<|sq sub<|aL 1<|aM (.builtin "len")<|aa 0<|a9 10<|aa 3<|sq sub<|aL 1<|dk .Sub<|au .none<|au .none<|sq fL<|sq kc<|ao))<|ao
def oL:CD 364 oK 2 (met 20 8) "Unions.back" [] (kS "alikeheap.unions" 572) .none iP:=eh (λ_ _=>by kernel_rfl) (by kernel_rfl)
noncomputable def qK:List Str:=["self","many","a"]
noncomputable def jD:SC:=aM (.builtin "max")<|aa 1<|au (vi 0)<|aL 2<|aN 1<|aM (.type "range")<|aa 1<|aM (.builtin "len")<|aa 0<|a9 9<|aL 1<|aL 2<|sq (df false (aN 2<|ao) (aa 0<|a' 50<|aa 2<|ba 1<|aa 2<|eY 1<|bO .NotEq<|sq bu<|sq (ite (sq bad<|ao) ao)<|ao))<|aa 0<|a9 9<|aa 1<|au .none<|au .none<|sq fL<|sq kc<|aa 0<|a9 10<|aa 1<|au .none<|au .none<|sq fL<|sq kc<|ao
def qL:CD 371 qK 2 (met 20 9) "Unions.cut" [] (kS "alikeheap.unions" 572) .none jD:=eh (λ_ _=>by kernel_rfl) (by kernel_rfl)
noncomputable def sU:List Str:=["self"]
noncomputable def lg:SC:=aM (.ref 292)<|aL 0<|aa 0<|jf 12<|aM (.ref 374)<|aL 0<|aa 0<|jf 13<|eY 0<|aa 0<|jf 14<|eY 0<|aa 0<|jf 15<|sq gY<|aa 0<|jf 16<|sq gY<|aa 0<|jf 9<|eY 0<|aa 0<|jf 17<|au (vi 0)<|aa 0<|jf 18<|ao
def sW:CD 392 sU 1 (met 22 0) "Heap.__init__" [] (kS "alikeheap.heap" 677) .none lg:=eh (λ_ _=>by kernel_rfl) (by kernel_rfl)
noncomputable def sX:List Str:=["self"]
noncomputable def lh:SC:=aa 0<|a9 12<|a' 36<|ba 0<|sq cU<|ao
def sY:CD 399 sX 1 (met 22 1) "Heap.size" [] (kS "alikeheap.heap" 677) .none lh:=eh (λ_ _=>by kernel_rfl) (by kernel_rfl)
noncomputable def sZ:List Str:=["self","n","kid"]
noncomputable def lj:SC:=aa 0<|a9 12<|a' 41<|aa 1<|ba 1<|bc 1<|aM (.type "tuple")<|sq (comp false [0] (aa 0<|a9 12<|a' 42<|aa 1<|ba 1<|ao) (aN 2<|ao) (au (.bool true)<|ao) (aa 0<|a' 48<|aa 2<|ba 1<|ao))<|aL 1<|dk .Add<|sq cU<|ao
def s9:CD 404 sZ 2 (met 22 2) "Heap.node" [] (kS "alikeheap.heap" 677) .none lj:=eh (λ_ _=>by kernel_rfl) (by kernel_rfl)
noncomputable def uZ:List Str:=["self","op","numbers","n","c","kid"]
noncomputable def nA:SC:=aa 0<|a9 12<|a' 37<|aa 1<|aa 2<|ba 2<|aN 3<|aa 3<|aa 0<|a9 13<|a' 36<|ba 0<|bO .Lt<|sq bu<|sq (ite (aa 3<|sq cU<|ao) ao)<|aa 0<|a9 13<|a' 47<|ba 0<|sq pop<|eY 0<|aa 0<|a9 9<|aa 3<|sq cD<|aM (.builtin "sorted")<|aM (.type "set")<|sq (comp false [0] (aa 2<|ao) (aN 5<|ao) (au (.bool true)<|ao) (aa 0<|a' 48<|aa 5<|ba 1<|ao))<|aL 1<|aL 1<|sq (df false (aN 4<|ao) (aa 0<|a9 9<|aa 4<|sq sub<|a' 24<|aa 3<|ba 1<|sq pop<|ao))<|aa 0<|a' 53<|aa 3<|ba 1<|sq pop<|aa 3<|sq cU<|ao
def u0:CD 409 uZ 3 (met 22 3) "Heap.add" [] (kS "alikeheap.heap" 677) .none nA:=eh (λ_ _=>by kernel_rfl) (by kernel_rfl)
noncomputable def u1:List Str:=["self","term","part"]
noncomputable def nB:SC:=aa 0<|a' 52<|aa 1<|au (vi 0)<|sq sub<|aM (.type "tuple")<|sq (comp false [0] (aa 1<|au (vi 1)<|au .none<|au .none<|sq fL<|sq sub<|ao) (aN 2<|ao) (au (.bool true)<|ao) (aa 0<|a' 39<|aa 2<|ba 1<|ao))<|aL 1<|ba 2<|sq cU<|ao
def u3:CD 414 u1 2 (met 22 4) "Heap.put" [] (kS "alikeheap.heap" 677) .none nB:=eh (λ_ _=>by kernel_rfl) (by kernel_rfl)
noncomputable def nC:List Str:=["self","n","other"]
noncomputable def hJ:SC:=aa 0<|a9 16<|a' 28<|aa 0<|a' 43<|aa 1<|ba 1<|aa 1<|ba 2<|aN 2<|aa 0<|a' 48<|aa 2<|ba 1<|aa 0<|a' 48<|aa 1<|ba 1<|bO .NotEq<|sq bu<|sq (ite (aa 0<|a' 54<|aa 2<|aa 1<|au (.str "like")<|bc 1<|ba 3<|sq pop<|ao) ao)<|ao
def nD:CD 421 nC 2 (met 22 5) "Heap.look_at" [] (kS "alikeheap.heap" 677) .none hJ:=eh (λ_ _=>by kernel_rfl) (by kernel_rfl)
noncomputable def ta:List Str:=["self","n"]
noncomputable def ll:SC:=aa 0<|a9 13<|a' 48<|aa 1<|ba 1<|sq cU<|ao
def tg:CD 428 ta 2 (met 22 6) "Heap.find" [] (kS "alikeheap.heap" 677) .none ll:=eh (λ_ _=>by kernel_rfl) (by kernel_rfl)
noncomputable def qM:List Str:=["self","a","b","reason"]
noncomputable def jE:SC:=aa 0<|a' 54<|aa 1<|aa 2<|aa 3<|ba 3<|sq cU<|ao
def qN:CD 442 qM 4 (met 22 8) "Heap.merge" [] (kS "alikeheap.heap" 677) .none jE:=eh (λ_ _=>by kernel_rfl) (by kernel_rfl)
noncomputable def th:List Str:=["self","a","b","reason","merged","kept","gone"]
noncomputable def lp:SC:=aa 0<|a9 14<|a' 24<|aa 1<|aa 2<|aa 3<|bc 3<|ba 1<|sq pop<|aa 0<|a9 13<|a' 49<|aa 1<|aa 2<|ba 2<|aN 4<|aa 4<|au .none<|bO .Is<|sq bu<|sq (ite (au (.bool false)<|sq cU<|ao) ao)<|aa 4<|gd 2<|aN 5<|aN 6<|aa 0<|a9 15<|a' 24<|aM (.builtin "len")<|aa 0<|a9 14<|aL 1<|au (vi 1)<|dk .Sub<|ba 1<|sq pop<|aa 0<|a9 17<|a' 26<|aa 0<|a9 9<|aa 6<|sq sub<|ba 1<|sq pop<|aa 0<|a9 9<|aa 5<|sq sub<|aa 0<|a9 9<|a' 25<|aa 6<|ba 1<|dk .Add<|aa 0<|a9 9<|aa 5<|sq cD<|au (.bool true)<|sq cU<|ao
def tj:CD 449 th 4 (met 22 9) "Heap.join" [] (kS "alikeheap.heap" 677) .none lp:=eh (λ_ _=>by kernel_rfl) (by kernel_rfl)
noncomputable def oM:List Str:=["self"]
noncomputable def iQ:SC:=sq (iB (aM (.builtin "len")<|aa 0<|a9 17<|aL 1<|au (vi 0)<|bO .Gt<|sq bu<|ao) (aa 0<|a' 53<|aa 0<|a9 17<|a' 25<|ba 0<|ba 1<|sq pop<|ao))<|ao
def oN:CD 456 oM 1 (met 22 10) "Heap.settle" [] (kS "alikeheap.heap" 677) .none iQ:=eh (λ_ _=>by kernel_rfl) (by kernel_rfl)
noncomputable def nE:List Str:=["self"]
noncomputable def hL:SC:=aM (.builtin "len")<|aa 0<|a9 20<|aL 1<|sq cU<|ao
def nF:CD 533 nE 1 (met 24 1) "Levels.depth" [] (kS "alikeheap.levels" 846) .none hL:=eh (λ_ _=>by kernel_rfl) (by kernel_rfl)
noncomputable def oO:List Str:=["self"]
noncomputable def iR:SC:=aa 0<|a9 20<|a' 24<|aM (.builtin "len")<|aa 0<|a9 19<|aL 1<|aM (.type "list")<|aa 0<|a9 17<|aL 1<|bc 2<|ba 1<|sq pop<|ao
def oP:CD 540 oO 1 (met 24 2) "Levels.push" [] (kS "alikeheap.levels" 846) .none iR:=eh (λ_ _=>by kernel_rfl) (by kernel_rfl)
noncomputable def qO:List Str:=["self","many","waiting","change"]
noncomputable def jF:SC:=aM (.builtin "len")<|aa 0<|a9 20<|aL 1<|au (vi 0)<|bO .Eq<|sq bu<|sq (ite (sq bad<|ao) ao)<|aa 0<|a9 20<|a' 25<|ba 0<|gd 2<|aN 1<|aN 2<|aa 0<|a9 18<|au (vi 1)<|dk .Add<|aa 0<|jf 18<|sq (iB (aM (.builtin "len")<|aa 0<|a9 19<|aL 1<|aa 1<|bO .Gt<|sq bu<|ao) (aa 0<|a9 19<|a' 25<|ba 0<|aN 3<|aa 3<|au (vi 0)<|sq sub<|au (.str "made")<|bO .Eq<|sq bu<|sq (ite (aa 0<|a' 57<|aa 3<|au (vi 1)<|sq sub<|ba 1<|sq pop<|ao) (aa 3<|au (vi 0)<|sq sub<|au (.str "known")<|bO .Eq<|sq bu<|sq (ite (aa 0<|a9 16<|aa 3<|au (vi 1)<|sq sub<|sq kc<|ao) (aa 0<|a' 58<|aa 3<|ba 1<|sq pop<|ao))<|ao))<|ao))<|aa 2<|aa 0<|jf 17<|ao
def qP:CD 547 qO 1 (met 24 3) "Levels.pop" [] (kS "alikeheap.levels" 846) .none jF:=eh (λ_ _=>by kernel_rfl) (by kernel_rfl)
noncomputable def lK:List Str:=["self","n","c","kid"]
noncomputable def gw:SC:=aM (.builtin "sorted")<|aM (.type "set")<|sq (comp false [0] (aa 0<|a9 12<|a' 42<|aa 1<|ba 1<|ao) (aN 3<|ao) (au (.bool true)<|ao) (aa 0<|a' 48<|aa 3<|ba 1<|ao))<|aL 1<|aL 1<|sq (df false (aN 2<|ao) (aa 0<|a9 9<|aa 2<|sq sub<|a' 25<|ba 0<|sq pop<|ao))<|aa 0<|a9 9<|aa 1<|sq kc<|aa 0<|a9 13<|a' 40<|aa 1<|ba 1<|sq pop<|aa 0<|a9 12<|a' 40<|aa 1<|ba 1<|sq pop<|aa 1<|aa 0<|jf 21<|ao
def lL:CD 568 lK 2 (met 24 6) "Levels.unmake" [] (kS "alikeheap.levels" 846) .none gw:=eh (λ_ _=>by kernel_rfl) (by kernel_rfl)
noncomputable def lM:List Str:=["self","change","kind","kept","many","gone","users"]
noncomputable def gy:SC:=aa 1<|gd 5<|aN 2<|aN 3<|aN 4<|aN 5<|aN 6<|aa 0<|a9 14<|a' 25<|ba 0<|sq pop<|aa 3<|aa 5<|bO .NotEq<|sq bu<|sq (ite (aa 0<|a9 15<|a' 25<|ba 0<|sq pop<|aa 0<|a9 13<|a' 51<|aM (.builtin "len")<|aa 0<|a9 13<|a9 11<|aL 1<|au (vi 1)<|dk .Sub<|ba 1<|sq pop<|aa 0<|a9 9<|aa 3<|sq sub<|au .none<|aa 4<|au .none<|sq fL<|sq sub<|aa 0<|a9 9<|aa 3<|sq cD<|aa 6<|aa 0<|a9 9<|aa 5<|sq cD<|ao) ao)<|ao
def lN:CD 575 lM 2 (met 24 7) "Levels.unjoin" [] (kS "alikeheap.levels" 846) .none gy:=eh (λ_ _=>by kernel_rfl) (by kernel_rfl)
noncomputable def u4:List Str:=["well","many","at"]
noncomputable def nG:SC:=aa 0<|au (.str "at")<|sq sub<|aN 2<|aa 2<|au (vi 1)<|dk .Add<|aa 0<|au (.str "at")<|sq cD<|aa 2<|aM (.builtin "len")<|aa 0<|au (.str "row")<|sq sub<|aL 1<|bO .Lt<|sq bu<|sq (ite (aa 0<|au (.str "row")<|sq sub<|aa 2<|sq sub<|ao) (au (vi 5)<|aa 2<|dk .Mult<|aa 2<|dk .Mult<|au (vi 3)<|aa 2<|dk .Mult<|dk .Add<|aa 2<|au (vi 2)<|dk .FloorDiv<|dk .Add<|au (vi 1)<|dk .Add<|ao))<|aa 1<|dk .Mod<|sq cU<|ao
def u5:CD 587 u4 2 (dH 26) "_law_drop" [] (kS "law_sa0046_01" 944) .none nG:=eh (λ_ _=>by kernel_rfl) (by kernel_rfl)
noncomputable def u6:List Str:=["nodes","n","kid"]
noncomputable def nH:SC:=aa 0<|aa 1<|sq sub<|au (vi 0)<|sq sub<|bc 1<|aM (.type "tuple")<|sq (comp false [0] (aa 0<|aa 1<|sq sub<|au (vi 1)<|au .none<|au .none<|sq fL<|sq sub<|ao) (aN 2<|ao) (au (.bool true)<|ao) (aM (.ref 592)<|aa 0<|aa 2<|aL 2<|ao))<|aL 1<|dk .Add<|sq cU<|ao
def u7:CD 592 u6 2 (dH 27) "_law_term" [] (kS "law_sa0046_01" 944) .none nH:=eh (λ_ _=>by kernel_rfl) (by kernel_rfl)
noncomputable def tl:List Str:=["nodes","events","a","b","homes","wishes","low","high","firsts","n","node","first","label","home","kid"]
noncomputable def lq:SC:=aM (.type "list")<|aM (.type "range")<|aM (.builtin "len")<|aa 0<|aL 1<|aL 1<|aL 1<|sq (comp true [] (aa 1<|ao) (gd 3<|aN 2<|aN 3<|aN 12<|ao) (au (.bool true)<|ao) (aa 2<|aa 3<|bc 2<|ao))<|bc 2<|gd 2<|aN 4<|aN 5<|sq (iB (aa 5<|eY 0<|bO .NotEq<|sq bu<|ao) (aa 5<|sq (df true (gd 2<|aN 2<|aN 3<|ao) (aM (.builtin "sorted")<|aa 4<|aa 2<|sq sub<|aa 4<|aa 3<|sq sub<|eY 2<|aL 1<|gd 2<|aN 6<|aN 7<|sq (comp false [7,6] (aa 4<|ao) (aN 13<|ao) (au (.bool true)<|ao) (aa 13<|aa 7<|bO .Eq<|sq bu<|sq (ite (aa 6<|ao) (aa 13<|ao))<|ao))<|aN 4<|ao))<|sq gY<|eY 0<|bc 2<|sq (Ck [8,5])<|aM (.type "enumerate")<|aa 0<|aL 1<|sq (df true (gd 2<|aN 9<|aN 10<|ao) (aa 8<|a' 28<|aa 10<|au (vi 0)<|sq sub<|bc 1<|aM (.type "tuple")<|sq (comp false [4] (aa 10<|au (vi 1)<|au .none<|au .none<|sq fL<|sq sub<|ao) (aN 14<|ao) (au (.bool true)<|ao) (aa 4<|aa 14<|sq sub<|ao))<|aL 1<|dk .Add<|aa 9<|ba 2<|aN 11<|aa 4<|aa 11<|sq sub<|aa 4<|aa 9<|sq sub<|bO .NotEq<|sq bu<|sq (ite (aa 5<|a' 24<|aa 11<|aa 9<|bc 2<|ba 1<|sq pop<|ao) ao)<|ao))<|ao))<|aa 4<|sq cU<|ao
def tn:CD 597 tl 2 (dH 28) "_law_homes" [] (kS "law_sa0046_01" 944) .none lq:=eh (λ_ _=>by kernel_rfl) (by kernel_rfl)
noncomputable def u9:List Str:=["paper","nodes","events","kind","a","b","label","due","some","one"]
noncomputable def dM:SC:=aa 0<|au (vi 0)<|sq sub<|aN 3<|aa 3<|au (.str "same")<|bO .Eq<|sq bu<|sq (ite (aa 0<|au (vi 1)<|sq sub<|aa 0<|au (vi 1)<|sq sub<|bc 2<|sq cU<|ao) ao)<|aa 3<|au (.str "told")<|au (.str "rule")<|bc 2<|bO .In<|sq bu<|sq (ite (aa 2<|sq (df true (gd 3<|aN 4<|aN 5<|aN 6<|ao) (aa 6<|au (.str "")<|bO .NotEq<|sq bu<|sq (ite (au (.str "told")<|aa 6<|bc 2<|ao) (au (.str "rule")<|au (.str "r")<|au (.str "?x")<|aM (.ref 592)<|aa 1<|aa 5<|aL 2<|bc 2<|bc 1<|bc 3<|ao))<|aN 7<|aa 0<|aa 7<|bO .Eq<|sq bu<|sq (ite (aM (.ref 592)<|aa 1<|aa 4<|aL 2<|aM (.ref 592)<|aa 1<|aa 5<|aL 2<|bc 2<|sq cU<|ao) ao)<|ao))<|au .none<|sq cU<|ao) ao)<|sq (comp false [2,1] (aa 3<|au (.str "under")<|bO .Eq<|sq bu<|sq (ite (aa 0<|au (vi 2)<|sq sub<|ao) (aa 0<|au (vi 1)<|au .none<|au .none<|sq fL<|sq sub<|ao))<|ao) (aN 9<|ao) (au (.bool true)<|ao) (aM (.ref 602)<|aa 9<|aa 1<|aa 2<|aL 3<|ao))<|aN 8<|au .none<|aa 8<|bO .In<|sq bu<|sq (ite (au .none<|sq cU<|ao) ao)<|aa 3<|au (.str "turn")<|bO .Eq<|sq bu<|sq (ite (aa 8<|au (vi 0)<|sq sub<|au (vi 1)<|sq sub<|aa 8<|au (vi 0)<|sq sub<|au (vi 0)<|sq sub<|bc 2<|sq cU<|ao) ao)<|aa 3<|au (.str "join")<|bO .Eq<|sq bu<|sq (ite (aa 8<|au (vi 0)<|sq sub<|au (vi 1)<|sq sub<|aa 8<|au (vi 1)<|sq sub<|au (vi 0)<|sq sub<|bO .Eq<|sq bu<|sq (ite (aa 8<|au (vi 0)<|sq sub<|au (vi 0)<|sq sub<|aa 8<|au (vi 1)<|sq sub<|au (vi 1)<|sq sub<|bc 2<|ao) (au .none<|ao))<|sq cU<|ao) ao)<|aa 0<|au (vi 1)<|sq sub<|bc 1<|aM (.type "tuple")<|sq (comp false [] (aa 8<|ao) (aN 9<|ao) (au (.bool true)<|ao) (aa 9<|au (vi 0)<|sq sub<|ao))<|aL 1<|dk .Add<|aa 0<|au (vi 1)<|sq sub<|bc 1<|aM (.type "tuple")<|sq (comp false [] (aa 8<|ao) (aN 9<|ao) (au (.bool true)<|ao) (aa 9<|au (vi 1)<|sq sub<|ao))<|aL 1<|dk .Add<|bc 2<|sq cU<|ao
def dN:CD 602 u9 3 (dH 29) "_law_ends" [] (kS "law_sa0046_01" 944) .none dM:=eh (λ_ _=>by kernel_rfl) (by kernel_rfl)
noncomputable def u':List Str:=["well","heap","nodes","op","node","late","k"]
noncomputable def nI:SC:=aa 3<|bc 1<|aM (.type "tuple")<|sq (comp false [2,0] (aM (.type "range")<|aa 3<|au (.str "f")<|bO .Eq<|sq bu<|sq (ite (au (vi 1)<|ao) (au (vi 2)<|ao))<|aL 1<|ao) (aN 6<|ao) (au (.bool true)<|ao) (aM (.ref 587)<|aa 0<|aM (.builtin "min")<|aM (.builtin "len")<|aa 2<|aL 1<|au (vi 4)<|aL 2<|aL 2<|ao))<|aL 1<|dk .Add<|aN 4<|aa 1<|a' 52<|aa 3<|aa 4<|au (vi 1)<|au .none<|au .none<|sq fL<|sq sub<|ba 2<|sq pop<|aa 4<|aa 2<|bO .In<|sq bu<|sq (ite (aa 2<|ao) (aa 2<|aa 4<|eY 1<|dk .Add<|ao))<|aN 5<|aa 5<|aa 5<|a' 30<|aa 4<|ba 1<|bc 2<|sq cU<|ao
def va:CD 607 u' 4 (dH 30) "_law_more" [] (kS "law_sa0046_01" 944) .none nI:=eh (λ_ _=>by kernel_rfl) (by kernel_rfl)
noncomputable def vb:List Str:=["well","heap","states","lap","way","nodes","events","a","b","late","n","kid"]
noncomputable def nJ:SC:=aa 3<|au (vi 3)<|bO .Lt<|sq bu<|sq (ite (au (vi 3)<|au (vi 0)<|au (vi 3)<|bc 3<|aa 3<|sq sub<|ao) (aM (.ref 587)<|aa 0<|au (vi 6)<|aL 2<|ao))<|aa 2<|au (vi 1)<|sq (un .USub)<|sq sub<|bc 2<|gd 2<|aN 4<|gd 2<|aN 5<|aN 6<|aa 4<|au (vi 0)<|bO .Eq<|sq bu<|sq (ite (aa 1<|a' 56<|ba 0<|sq pop<|aa 2<|a' 24<|aa 5<|aa 6<|bc 2<|ba 1<|sq pop<|ao) (aa 4<|au (vi 3)<|bO .Lt<|sq bu<|sq (eu .And (aM (.builtin "len")<|aa 2<|aL 1<|au (vi 1)<|bO .Gt<|sq bu<|ao))<|sq (ite (aa 1<|a' 25<|ba 0<|sq pop<|aa 2<|a' 25<|ba 0<|sq pop<|aa 6<|au (vi 1)<|sq (un .USub)<|sq sub<|au .none<|au (vi 2)<|au .none<|sq fL<|sq sub<|aa 0<|au (.str "gone")<|sq cD<|ao) (aa 4<|au (vi 4)<|bO .Lt<|sq bu<|sq (ite (aM (.ref 587)<|aa 0<|aM (.builtin "len")<|aa 5<|aL 1<|aL 2<|aM (.ref 587)<|aa 0<|aM (.builtin "len")<|aa 5<|aL 1<|aL 2<|bc 2<|sq (Ck [7,8])<|aa 1<|a' 49<|aa 7<|aa 8<|au (.str "told")<|au (.str "t")<|aM (.type "str")<|aa 3<|aL 1<|dk .Add<|bc 2<|ba 3<|sq pop<|aa 5<|aa 6<|aa 7<|aa 8<|au (.str "t")<|aM (.type "str")<|aa 3<|aL 1<|dk .Add<|bc 3<|eY 1<|dk .Add<|bc 2<|aa 2<|au (vi 1)<|sq (un .USub)<|sq cD<|ao) (aa 4<|au (vi 4)<|bO .Eq<|sq bu<|sq (ite (aM (.ref 607)<|aa 0<|aa 1<|aa 5<|au (.str "f")<|aL 4<|gd 2<|aN 9<|aN 10<|aa 9<|aa 10<|sq sub<|au (vi 1)<|sq sub<|aN 11<|aa 1<|a' 49<|aa 10<|aa 11<|au (.str "rule")<|au (.str "r")<|au (.str "?x")<|aa 11<|bc 2<|bc 1<|bc 3<|ba 3<|sq pop<|aa 9<|aa 6<|aa 10<|aa 11<|au (.str "")<|bc 3<|eY 1<|dk .Add<|bc 2<|aa 2<|au (vi 1)<|sq (un .USub)<|sq cD<|ao) (aM (.ref 607)<|aa 0<|aa 1<|aa 5<|au (.str "fg")<|aM (.ref 587)<|aa 0<|au (vi 2)<|aL 2<|sq sub<|aL 4<|au (vi 0)<|sq sub<|aa 6<|bc 2<|aa 2<|au (vi 1)<|sq (un .USub)<|sq cD<|ao))<|ao))<|ao))<|ao))<|aa 1<|a' 55<|ba 0<|sq pop<|ao
def vc:CD 614 vb 4 (dH 31) "_law_deed" [] (kS "law_sa0046_01" 944) .none nJ:=eh (λ_ _=>by kernel_rfl) (by kernel_rfl)
noncomputable def lO:List Str:=["well","whys","state","nodes","events","homes","some","a","b","pair"]
noncomputable def gz:SC:=aa 2<|gd 2<|aN 3<|aN 4<|aM (.ref 597)<|aa 3<|aa 4<|aL 2<|aM (.ref 587)<|aa 0<|aM (.builtin "len")<|aa 3<|aL 1<|aL 2<|aM (.ref 587)<|aa 0<|aM (.builtin "len")<|aa 3<|aL 1<|aL 2<|bc 2<|eY 1<|bc 2<|sq (Ck [5,6])<|aa 6<|a' 26<|aa 4<|au (vi 1)<|sq (un .USub)<|sq sub<|au .none<|au (vi 2)<|au .none<|sq fL<|sq sub<|aa 0<|au (.str "gone")<|sq sub<|eY 2<|ba 1<|sq pop<|aa 6<|sq (df true (gd 2<|aN 7<|aN 8<|ao) (aM (.builtin "max")<|aa 7<|aa 8<|aL 2<|aM (.builtin "len")<|aa 3<|aL 1<|bO .Lt<|sq bu<|sq (ite (aa 7<|aa 8<|bc 2<|aa 8<|aa 7<|bc 2<|bc 2<|sq (df false (aN 9<|ao) (aM (.ref 621)<|aa 1<|aa 3<|aa 4<|aa 5<|aa 9<|aL 5<|sq bu<|sq neg<|sq (ite (au (.bool false)<|sq cU<|ao) ao)<|ao))<|ao) ao)<|ao))<|au (.bool true)<|sq cU<|ao
def lP:CD 628 lO 3 (dH 33) "_law_are_right" [] (kS "law_sa0046_01" 944) .none gz:=eh (λ_ _=>by kernel_rfl) (by kernel_rfl)
noncomputable def Ga:List Str:=["script","well","heap","states","node","lap","kept","cell","one"]
noncomputable def Bg:SC:=sq sA<|au (.str "row")<|sq key<|sq (comp false [] (aa 0<|au .none<|au (vi 45)<|au .none<|sq fL<|sq sub<|ao) (aN 7<|ao) (au (.bool true)<|ao) (aM (.type "int")<|aa 7<|aL 1<|au (vi 1000003)<|dk .Mod<|ao))<|au (.str "at")<|sq key<|au (vi 0)<|au (.str "gone")<|sq key<|au (vi 0)<|au (vi 1)<|bc 2<|sq (mZ 3)<|aN 1<|aM (.ref 578)<|aL 0<|au (.str "a")<|bc 1<|au (.str "b")<|bc 1<|au (.str "c")<|bc 1<|eY 3<|eY 0<|bc 2<|eY 1<|bc 2<|gd 2<|aN 2<|aN 3<|aa 3<|au (vi 0)<|sq sub<|au (vi 0)<|sq sub<|sq (df false (aN 4<|ao) (aa 2<|a' 39<|aa 4<|ba 1<|sq pop<|ao))<|aM (.type "range")<|au (vi 1)<|aM (.ref 587)<|aa 1<|au (vi 2)<|aL 2<|dk .Add<|aL 1<|sq (df false (aN 5<|ao) (aM (.ref 607)<|aa 1<|aa 2<|aa 3<|au (vi 0)<|sq sub<|au (vi 0)<|sq sub<|au (.str "fg")<|aM (.ref 587)<|aa 1<|au (vi 2)<|aL 2<|sq sub<|aL 4<|au (vi 0)<|sq sub<|eY 0<|bc 2<|aa 3<|au (vi 0)<|sq cD<|ao))<|aM (.ref 176)<|aa 2<|aL 1<|aM (.ref 176)<|aa 2<|aL 1<|eY 2<|aN 6<|aM (.type "range")<|au (vi 5)<|aM (.ref 587)<|aa 1<|au (vi 2)<|aL 2<|dk .Add<|aL 1<|sq (df false (aN 5<|ao) (aM (.ref 614)<|aa 1<|aa 2<|aa 3<|aa 5<|aL 4<|sq pop<|aa 2<|a' 36<|ba 0<|aM (.builtin "len")<|aa 3<|au (vi 1)<|sq (un .USub)<|sq sub<|au (vi 0)<|sq sub<|aL 1<|bO .NotEq<|sq bu<|sq (eu .Or (aa 2<|a' 46<|ba 0<|aM (.builtin "len")<|aa 3<|aL 1<|au (vi 1)<|dk .Sub<|bO .NotEq<|sq bu<|ao))<|sq (ite (au (.bool false)<|sq cU<|ao) ao)<|aM (.ref 628)<|aa 1<|aa 6<|aM (.ref 587)<|aa 1<|au (vi 2)<|aL 2<|sq sub<|aa 3<|au (vi 1)<|sq (un .USub)<|sq sub<|aL 3<|sq bu<|sq neg<|sq (ite (au (.bool false)<|sq cU<|ao) ao)<|ao))<|sq (comp false [3,1] (aa 6<|ao) (aN 8<|ao) (aM (.ref 628)<|aa 1<|aa 8<|aa 3<|au (vi 1)<|sq (un .USub)<|sq sub<|aL 3<|sq bu<|sq neg<|ao) (aa 8<|ao))<|eY 0<|bO .Eq<|sq cU<|ao
def MW:CD 633 Ga 1 (dH 34) "law" [] (kS "law_sa0046_01" 944) .none Bg:=eh (λ_ _=>by kernel_rfl) (by kernel_rfl)
end
noncomputable section
noncomputable def P7:List (Nat×Nat):=[(17631,147),(17632,154),(17633,161),(17634,168),(17635,173),(29236,211),(29237,216),(29238,223),(29240,242),(29241,249),(29242,256),(29244,268),(29245,275),(37447,317),(37436,324),(37448,331),(37449,338),(37450,345),(37451,364),(37440,371),(57836,399),(57843,404),(57852,409),(57839,414),(57853,555),(57848,428),(57849,442),(57854,563),(57855,456),(57846,533),(57856,540),(57825,547),(57857,568),(57858,575)]
noncomputable def RO:List (Nat×Nat)->Nat->Nat
 |[],_=>0
 |p::r,i=>bif Nat.beq p.1 i then p.2 else RO r i
noncomputable def Bh(C i:Nat):Addr:=RO P7 (C*100+i)
def I5(h:n<=100000):n<=1000000:=U3 h (by decide)
section
variable{F:Fr}{K:KS}{s:List V}{m:GM}{σ σ0:aq}{t:Tg}{a C d:Addr}{l:List V}{x y z X Y:V}{fs:List (Nat×V)}{i n:Nat}{v:Value}
def Ts(h:lk m i=some X)(k:K (X::s) m σ):ld i F K s m σ:=(h▸k:Mw (lk m i) λv=>K (v::s) m σ)
def ej(h:o=some X)(k:p X):Mw o p:=(h▸k:Mw o p)
def iq(k:K (.lst []::s) m σ):lst 0 F K s m σ:=⟨by decide,.inl k⟩
def jG(k:K (.lst [x]::s) m σ):lst 1 F K (x::s) m σ:=⟨by decide,.inl k⟩
def lW(k:K (.lst [x,y]::s) m σ):lst 2 F K (y::x::s) m σ:=⟨by decide,.inl k⟩
def cF(t:Tg)(k:∀a,(σ.set t (.one a (.list []))) t=some (.one a (.list []))->K (.loc a::s) m (σ.set t (.one a (.list [])))):lst 0 F K s m σ:=⟨by decide,.inr ⟨t,λa=>k a aq.ae⟩⟩
def nK(t:Tg)(k:∀a,(σ.set t (.one a (.list [x]))) t=some (.one a (.list [x]))->K (.loc a::s) m (σ.set t (.one a (.list [x])))):lst 1 F K (x::s) m σ:=⟨by decide,.inr ⟨t,λa=>k a aq.ae⟩⟩
def I6(t:Tg)(k:∀a,(σ.set t (.one a (.list [x,y]))) t=some (.one a (.list [x,y]))->K (.loc a::s) m (σ.set t (.one a (.list [x,y])))):lst 2 F K (y::x::s) m σ:=⟨by decide,.inr ⟨t,λa=>k a aq.ae⟩⟩
def lX(t:Tg)(k:∀a,(σ.set t (.one a (.dA []))) t=some (.one a (.dA []))->K (.loc a::s) m (σ.set t (.one a (.dA [])))):gY F K s m σ:=⟨t,false,λa=>k a aq.ae⟩
def qQ(t:Tg)(k:∀a,(σ.set t (.one a (.dT []))) t=some (.one a (.dT []))->K (.loc a::s) m (σ.set t (.one a (.dT [])))):gY F K s m σ:=⟨t,true,λa=>k a aq.ae⟩
def qR(t:Tg)(k:∀a,(σ.set t (.one a (.dA []))) t=some (.one a (.dA []))->K (.loc a::s) m (σ.set t (.one a (.dA [])))):sA F K s m σ:=⟨t,λa=>k a aq.ae⟩
def tp(h:σ t=some (.one a (.dA [])))(k:(σ.set t (.one a (.dA [(k1,x)]))) t=some (.one a (.dA [(k1,x)]))->K (.loc a::s) m (σ.set t (.one a (.dA [(k1,x)])))):mZ 1 F K (x::k1.v::.loc a::s) m σ:=
 ⟨a,t,rfl,h,by induction k1<;>exact k aq.ae⟩
def P8(o:3<=F.k)(k:F.exc 88 [(22,x),(23,y)] σ):rz F K (y::x::s) m σ:=⟨o,k⟩
def w_ite{t e:SC}{b:Bool}(h1:b=true->t F K s m σ)(o:b=false->e F K s m σ):ite t e F K (.bool b::s) m σ:=⟨h1,o⟩
def I7(P:GM->aq->Prop){t e:SC}{b:Bool}(h:∀o,(∀m σ',P m σ'->o s m σ')->(b=true->t F o s m σ)/\(b=false->e F o s m σ))(I:∀m σ',P m σ'->K s m σ'):ite t e F K (.bool b::s) m σ:=h K I
def aQ{t e:SC}{p:Prop}[Decidable p] (h1:p->t F K s m σ)(o:¬p->e F K s m σ):ite t e F K (.bool (decide p)::s) m σ:=⟨λq=>h1 (Wi q),λq=>o (Xp q)⟩
def en{t e:SC}{p:Prop}[Decidable p] (h1:¬p->t F K s m σ)(o:p->e F K s m σ):ite t e F K (.bool (!decide p)::s) m σ:=⟨λq=>h1 (by simpa using q),λq=>o (by simpa using q)⟩
def I8{y:SC}{b:Bool}(h1:b=false->K (.bool false::s) m σ)(o:b=true->y F K s m σ):eu .And y F K (.bool b::s) m σ:=by
 induction b with
 |false=>exact⟨λ_=>h1 rfl,λq=>nomatch q⟩
 |true=>exact⟨λq=>(nomatch q),λ_=>o rfl⟩
def Bi{y:SC}{b:Bool}(h1:b=true->K (.bool true::s) m σ)(o:b=false->y F K s m σ):eu .Or y F K (.bool b::s) m σ:=by
 induction b with
 |true=>exact⟨λ_=>h1 rfl,λq=>nomatch q⟩
 |false=>exact⟨λq=>(nomatch q),λ_=>o rfl⟩
def vd{y:SC}{p:Prop}[Decidable p] (h1:¬p->K (.bool false::s) m σ)(o:p->y F K s m σ):eu .And y F K (.bool (decide p)::s) m σ:=I8 (λq=>h1 (Xp q)) λq=>o (Wi q)
def MX{y:SC}{p:Prop}[Decidable p] (h1:¬p->K (.bool true::s) m σ)(o:p->y F K s m σ):eu .Or y F K (.bool (!decide p)::s) m σ:=Bi (λq=>h1 (by simpa using q)) λq=>o (by simpa using q)
def nM(h1:b=true->p)(o:b=false->q):Cm [.bool b] p q:=⟨h1,o⟩
def oQ[Decidable c] {p q:Prop}(h1:c->p)(o:¬c->q):Cm [.bool (decide c)] p q:=⟨λe=>h1 (Wi e),λe=>o (Xp e)⟩
def MY[Decidable c] {p q:Prop}(h1:¬c->p)(o:c->q):Cm [.bool (!decide c)] p q:=⟨λe=>h1 (by simpa using e),λe=>o (by simpa using e)⟩
def ve{x y:Nat}(k:K (vi (x+y)::s) m σ):bin .Add F K (vi y::vi x::s) m σ:=λI A env c J o=>xB ⟨rfl,σ,o,k⟩
def gm{x y:Nat}(o:y<=x)(k:K (vi (x-y)::s) m σ):bin .Sub F K (vi y::vi x::s) m σ:=λJ A env c U I=>xC o ⟨rfl,σ,I,k⟩
def MZ{x y:Nat}(k:K (.bool (decide (x=y))::s) m σ):cmp .Eq F K (vi y::vi x::s) m σ:=λI A env c J o=>zQ ⟨rfl,σ,o,k⟩
def M0{x y:Nat}(k:K (.bool (!decide (x=y))::s) m σ):cmp .NotEq F K (vi y::vi x::s) m σ:=λI A env c J o=>rU ⟨rfl,σ,o,k⟩
def M3{x y:Nat}(k:K (.bool (decide (x<y))::s) m σ):cmp .Lt F K (vi y::vi x::s) m σ:=λI A env c J o=>zR ⟨rfl,σ,o,k⟩
def Gb{x y:Nat}(k:K (.bool (decide (y<x))::s) m σ):cmp .Gt F K (vi y::vi x::s) m σ:=λI A env c J o=>zS ⟨rfl,σ,o,k⟩
def M4{x y:Nat}(k:K (.bool (decide (x<=y))::s) m σ):cmp .LtE F K (vi y::vi x::s) m σ:=λI A env c J o=>rV ⟨rfl,σ,o,k⟩
def M5{x y:Str}(k:K (.bool (decide (x=y))::s) m σ):cmp .Eq F K (.str y::.str x::s) m σ:=λI A env c J o=>xn ⟨rfl,σ,o,k⟩
def M6{x y:Str}(k:K (.bool (!decide (x=y))::s) m σ):cmp .NotEq F K (.str y::.str x::s) m σ:=λI A env c J o=>xo ⟨rfl,σ,o,k⟩
def Ge(hs:X.solid=true)(k:K (.bool X.isNone::s) m σ):cmp .Is F K (.none::X::s) m σ:=λI A env c J o=>ug hs ⟨rfl,σ,o,k⟩
def yp{z:SC}{x y:Nat}(h1:x<=y->z F K (vi y::s) m σ)(I:¬x<=y->K (.bool false::s) m σ):chain .LtE z F K (vi y::vi x::s) m σ:=λJ A env c U o=>rV ⟨rfl,σ,o,λJ A env c U o=>dt ⟨rfl,σ,o,λq=>h1 (Wi q),λq=>I (Xp q)⟩⟩
def qS(h:σ0 t=some (.obj a C d fs))(e:σ t=σ0 t)(I:lk fs i=some X)(hi:i<AN.length)(J:∀P,pY (KR P) C (an i)=true)(U:X.vQ=true)(k:K (X::s) m σ):attr i F K (.loc a::s) m σ:=λb A env c f o=>by rw[<-q o t _ (e.trans h),Hc b q.1 q.2 ((qC hi).trans I) (J _) U ⟨rfl,σ,o,k⟩,]
def vf(h:σ0 t=some (.obj a C d fs))(e:σ t=σ0 t)(J:lk fs i=none)(hi:i<AN.length)(o:∀P,(pZ (KR P) C (an i) (Bh C i)&&keepIn (KR P) (.ref (Bh C i)))=true)(k:K (.loc a::.raw (.ref (Bh C i))::s) m σ):ee i F K (.loc a::s) m σ:=λU A env c b I f=>by rw[<-q I t _ (e.trans h),<-o ra (o F.g.w.params),vR U q.1 q.2 ((qC hi).trans J) o.1 ⟨rfl,σ,I,.k o.2,rfl,k⟩,]
def bC(h:σ0 t=some (.obj a C d fs))(e:σ t=σ0 t)(hi:i<AN.length)(I:∀P,p5 (KR P) C (an i)=true)(hz:fs.length<100000)(k:(σ.set t (.obj a C d (fF i X fs))) t=some (.obj a C d (fF i X fs))->K s m (σ.set t (.obj a C d (fF i X fs)))):jz i F K (.loc a::X::s) m σ:=λJ A env c U o=>by rw[<-q o t _ (e.trans h),Hd J q.1 q.2 (I _) (by rw[[U2],hz,]) ⟨rfl,_,?_,k aq.ae⟩,[Ii hi],o.PJ (e.trans h),]
def yq(h:σ0 t=some (.one a (.list l)))(e:σ t=σ0 t)(k:K (.loc a::.raw (.builtin "list.append")::s) m σ):ee 24 F K (.loc a::s) m σ:=λI A env c J o U=>xp (o t _ (e.trans h)) ⟨rfl,σ,o,.bt _,rfl,k⟩
def I9(h:σ0 t=some (.one a (.list l)))(e:σ t=σ0 t)(k:K (.loc a::.raw (.builtin "list.pop")::s) m σ):ee 25 F K (.loc a::s) m σ:=λI A env c J o U=>Hg (o t _ (e.trans h)) ⟨rfl,σ,o,.bt _,rfl,k⟩
def yr(h:σ0 t=some (.one a (.list l)))(e:σ t=σ0 t)(k:K (.loc a::.raw (.builtin "list.extend")::s) m σ):ee 26 F K (.loc a::s) m σ:=λI A env c J o U=>xq (o t _ (e.trans h)) ⟨rfl,σ,o,.bt _,rfl,k⟩
def aW(h:σ0 t=some (.one a (.list l)))(e:σ t=σ0 t)(hz:l.length<=100000)(k:(σ.set t (.one a (.list (l++[X])))) t=some (.one a (.list (l++[X])))->K (.none::s) m (σ.set t (.one a (.list (l++[X]))))):dc 1 F K (X::.loc a::.raw (.builtin "list.append")::s) m σ:=λI A env c J o=>
 pf (o t _ (e.trans h)) hz ⟨rfl,_,o.upd (e.trans h),k aq.ae⟩
def dz(h:σ0 t=some (.one a (.list (l++[X]))))(e:σ t=σ0 t)(hz:l.length<=100000)(k:(σ.set t (.one a (.list l))) t=some (.one a (.list l))->K (X::s) m (σ.set t (.one a (.list l)))):dc 0 F K (.loc a::.raw (.builtin "list.pop")::s) m σ:=λI A env c J o=>
 Hh (o t _ (e.trans h)) hz ⟨rfl,_,o.upd (e.trans h),k aq.ae⟩
def Seq(σ:aq)(x:V)(l:List V):Prop:=x=.lst l\/∃a t,x=.loc a/\σ t=some (.one a (.list l))
def bT:Seq σ (.lst l) l:=.inl rfl
def cv(h:σ0 t=some (.one a (.list l)))(e:σ t=σ0 t):Seq σ (.loc a) l:=.inr ⟨a,t,rfl,e.trans h⟩
def Seq.at_(h:Seq σ x l)(o:aD σ c.σ):SeqAt c x l:=by
 rcases h with h|⟨a,t,I,J⟩
 ·rw[.inl h,]
 ·rw[.inr ⟨a,_,I,o _ _ J⟩,]
def nN(h:σ0 t=some (.one a (.list l)))(e:σ t=σ0 t)(I:Seq σ X r)(hz:l.length+r.length<=100000)(k:(σ.set t (.one a (.list (l++r)))) t=some (.one a (.list (l++r)))->K (.none::s) m (σ.set t (.one a (.list (l++r))))):dc 1 F K (X::.loc a::.raw (.builtin "list.extend")::s) m σ:=λJ A env c U o=>
 xr (o t _ (e.trans h)) (I.at_ o) hz ⟨rfl,_,o.upd (e.trans h),k aq.ae⟩
def aX(J:Seq σ X l)(o:l.length=n)(hz:n<=100000)(k:K (vi n::s) m σ):gH 1 F K (X::.raw (.builtin "len")::s) m σ:=λU A env c b I=>uh (J.at_ I) (o▸I5 hz) ⟨rfl,σ,I,by rw[[o],k,]⟩
def pD:seqIndex? (-1) (l++[X]).length=some l.length:=by rw[2 seqIndex?,[U7],];dsimp only;rw[[Vb (show(-1:Int)<0 by decide),show(-1:Int)+((l.length+[X].length:Nat):Int)=(l.length:Int) from(Int.add_comm ..).trans (Int.add_sub_cancel (l.length:Int) 1)],Vb (VO.mpr ⟨Wo (Wj _),Wo (Lo (Vs _))⟩),]
def bW(h:σ0 t=some (.one a (.list l)))(e:σ t=σ0 t)(I:l[n]?=some X)(hz:n<1000000)(k:K (X::s) m σ):sub F K (vi n::.loc a::s) m σ:=⟨⟨t,_,e.trans h,trivial⟩,λJ A env c U o=>rO (o t _ (e.trans h)) (Wj _) (ix hz) I ⟨rfl,σ,o,k⟩⟩
def bz(o:l[n]?=some X)(hz:n<1000000)(k:K (X::s) m σ):sub F K (vi n::.lst l::s) m σ:=⟨trivial,λJ A env c U I=>kN (Wj _) (ix hz) o ⟨rfl,σ,I,k⟩⟩
def Ek(k:K (X::s) m σ):sub F K (.int (-1)::.lst (l++[X])::s) m σ:=⟨trivial,λI A env c J o=>qa (by decide) (by decide) (j:=l.length) pD (WK ..) ⟨rfl,σ,o,k⟩⟩
def qT(h:σ0 t=some (.one a (.list (l++[X]))))(e:σ t=σ0 t)(k:K (X::s) m σ):sub F K (.int (-1)::.loc a::s) m σ:=⟨⟨t,_,e.trans h,trivial⟩,λI A env c J o=>p8 (o t _ (e.trans h)) (by decide) (by decide) (j:=l.length) pD (WK ..) ⟨rfl,σ,o,k⟩⟩
def cb(k:K (x::s) m σ):sub F K (vi 0::.tup (x::l)::s) m σ:=⟨trivial,λI A env c J o=>f6 ⟨rfl,σ,o,k⟩⟩
def fq(k:K (y::s) m σ):sub F K (vi 1::.tup (x::y::l)::s) m σ:=⟨trivial,λI A env c J o=>f7 ⟨rfl,σ,o,k⟩⟩
def qU(k:K (z::s) m σ):sub F K (vi 2::.tup (x::y::z::l)::s) m σ:=⟨trivial,λI A env c J o=>qu ⟨rfl,σ,o,k⟩⟩
def hM(hz:l.length<=100000)(k:K (.tup l::s) m σ):sub F K (.fL (vi 1) .none .none::.tup (x::l)::s) m σ:=⟨trivial,λI A env c J o=>ot hz ⟨rfl,σ,o,k⟩⟩
def vg(h:σ0 t=some (.one a (.list l)))(e:σ t=σ0 t)(I:n<l.length)(hz:l.length<=100000)(k:(σ.set t (.one a (.list (l.set n X)))) t=some (.one a (.list (l.set n X)))->K s m (σ.set t (.one a (.list (l.set n X))))):cD F K (vi n::.loc a::X::s) m σ:=λJ A env c U o=>
 ui (o t _ (e.trans h)) (Wj _) (Lo I) (I5 hz) ⟨rfl,_,o.upd (e.trans h),k aq.ae⟩
def vh(h:σ0 t=some (.one a (.list l)))(e:σ t=σ0 t)(I:n<=l.length)(hz:l.length<=100000)(k:(σ.set t (.one a (.list (l.take n)))) t=some (.one a (.list (l.take n)))->K s m (σ.set t (.one a (.list (l.take n))))):kc F K (.fL (vi n) .none .none::.loc a::s) m σ:=λJ A env c U o=>
 rT (o t _ (e.trans h)) I (I5 hz) ⟨rfl,_,o.upd (e.trans h),k aq.ae⟩
def cY(I:Seq σ X l)(hz:l.length<=100000)(k:K (.tup l::s) m σ):gH 1 F K (X::.raw (.type "tuple")::s) m σ:=λJ A env c U o=>qb (I.at_ o) (I5 hz) ⟨rfl,σ,o,k⟩
def Bj(k:K (.tup l::s) m σ):gH 1 F K (.tup l::.raw (.type "tuple")::s) m σ:=λI A env c J o=>qe ⟨rfl,σ,o,k⟩
def ft(hz:l.length<=100000)(k:K (.tup (x::l)::s) m σ):bin .Add F K (.tup l::.tup [x]::s) m σ:=λI A env c J o=>r3 hz ⟨rfl,σ,o,k⟩
def El(e:∀A env c Q E,J A env c (λX o=>∃a f l σ,X=.loc a/\o.σ=σ.set a ⟨f,.list l⟩/\σ a=none/\(Q (.lst l) ⟨o.m,σ⟩\/∃t',Q (.loc a) ⟨o.m,σ.set a ⟨t',.list l⟩⟩)) E->J A env c Q E)
 (h:∀A env c E (QQ:V->CS->Prop),b8 A kk->aD σ c.σ->(∀b,c.σ b=none->QQ (.loc b) ⟨c.m,c.σ.set b ⟨.dI,.list l⟩⟩)->J A env c QQ E) (k:Q (.lst l) σ\/∃t,∀b,Q (.loc b) (σ.set t (.one b (.list l)))):GJ g kk exc σ J Q:=λI A env c j U=>by
 rw[e _ _ _ _ _ (h A env c _ _ j U λb I=>⟨b,_,_,_,rfl,rfl,I,?_⟩),];rcases k with k|⟨t,k⟩
 ·rw[.inl ⟨rfl,σ,U,k⟩,]
 ·rw[.inr ⟨t.t,rfl,_,U.new I,k b⟩,]
def ko(J:Seq σ X l)(U:Seq σ Y r)(hz:l.length+r.length<=100000)(k:K (.lst (l++r)::s) m σ\/∃t,∀b,K (.loc b::s) m (σ.set t (.one b (.list (l++r))))):bin .Add F K (Y::X::s) m σ:=
 El (λA env c Q E h o a b e f=>T.pick (h o a b e f)) (λA env c E j p I q=>rR .dI (J.at_ I) (U.at_ I) (I5 hz) q) k
def wm(I:Seq σ X l)(hz:l.length<=100000)(k:K (.lst l::s) m σ\/∃t,∀b,K (.loc b::s) m (σ.set t (.one b (.list l)))):gH 1 F K (X::.raw (.type "list")::s) m σ:=
 El (λA env c Q E h o a b J U=>T.pick (h o a b J U)) (λA env c E f j e q=>rP .dI (I.at_ e) (I5 hz) q) k
def jH{lo hi st:V}{lo' hi' o:Option Int}{r:List V}(J:Seq σ X l)(k1:iG lo lo')(k2:iG hi hi')(U:iG st o)(e:o≠some 0)(hz:l.length<=100000)(f:gs l lo' hi' o=r)(k:K (.lst r::s) m σ\/∃t,∀b,K (.loc b::s) m (σ.set t (.one b (.list r)))):sub F K (.fL lo hi st::X::s) m σ:=by
 rw[⟨?_,El (λA env c Q E h I a b j p=>T.pick (h I a b j p)) (λA env c E w B u q=>n8 .dI (J.at_ u) k1 k2 U e (I5 hz) (f.symm▸q)) k⟩,];rcases J with rfl|⟨a,t,rfl,h⟩
 ·trivial
 ·exact⟨t,_,h,trivial⟩
def kr{x y:Nat}(k:K (.lst [vi (min x y),vi (max x y)]::s) m σ):gH 1 F K (.lst [vi x,vi y]::.raw (.builtin "sorted")::s) m σ:=λI A env c J o=>r7 (.inl rfl) ⟨rfl,σ,o,k⟩
def yt{l:List Nat}(I:Seq σ X (l.map vi))(hz:l.length<64)(k:∀r:List Nat,r.Perm l->r.Pairwise (·<=·)->K (.lst (r.map vi)::s) m σ):gH 1 F K (X::.raw (.builtin "sorted")::s) m σ:=λb A env c e o=>mP (I.at_ o) hz λr J U=>⟨rfl,σ,o,k r J U⟩
def yu{l:List (Atom×V)}{ks:List Nat}(h:σ0 t=some (.one a (.dA l)))(e:σ t=σ0 t)(I:l.map (·.1)=ks.map λ(k:Nat)=>Atom.i k)(hz:ks.length<64)(k:∀r:List Nat,r.Perm ks->r.Pairwise (·<=·)->K (.lst (r.map vi)::s) m σ):gH 1 F K (.loc a::.raw (.builtin "sorted")::s) m σ:=λJ A env c U o=>
 oq J U (o t _ (e.trans h)) I hz λr b f=>⟨rfl,σ,o,k r b f⟩
def Gf{ns:List Nat}(t:Tg)(h:Seq σ X (ns.map vi))(j:∀y∈ns,y<8)(p:ns.length<=2)(k:∀a,(σ.set t (.one a (.set (ns.foldl cu [])))) t=some (.one a (.set (ns.foldl cu [])))->K (.loc a::s) m (σ.set t (.one a (.set (ns.foldl cu []))))):gH 1 F K (X::.raw (.type "set")::s) m σ:=λN A env c r f=>
 λo u w B D F' Z s' G st=>T.run (HM (Q:=λv c'=>∃a,v=.loc a/\c.σ a=none/\c'=⟨c.m,c.σ.set a ⟨.dI,.set (ns.foldl cu [])⟩⟩) (E:=iA) r (h.at_ f) j p (λa I=>⟨a,rfl,I,rfl⟩) o u w B D) G st
  (λH v X P R L M J q=>by rw[bL q λa U I b=>?_,0 q,3 U,3 b,⟨H,.loc a,⟨c.m,c.σ.set a ⟨t.t,_⟩⟩,L,M,FJ J,rfl,_,f.new I,k a aq.ae⟩,]) λ_ _ _ _ _ _ _ _ e=>e.elim
def pE(h:σ0 t=some (.one a (.set o)))(e:σ t=σ0 t)(J:o.length<=2)(hs:o.Pairwise (· <·))(k:K (.lst (o.map vi)::s) m σ):gH 1 F K (.loc a::.raw (.builtin "sorted")::s) m σ:=λb A env c U I=>mU U (I t _ (e.trans h)) J hs ⟨rfl,σ,I,k⟩
def I'{l:List Nat}(I:Seq σ X (l.map vi))(k:K (vi l.sum::s) m σ):gH 1 F K (X::.raw (.builtin "sum")::s) m σ:=λU A env c J o=>xW J (I.at_ o) ⟨rfl,σ,o,k⟩
def Ja{l:List Nat}(J:Seq σ X (l.map vi))(o:l≠[])(k:∀M:Nat,K (vi M::s) m σ):gH 1 F K (X::.raw (.builtin "max")::s) m σ:=λb A env c U I=>xX U (J.at_ I) o λM=>⟨rfl,σ,I,k M⟩
def qV{x:Nat}(k:K (vi x::s) m σ):gH 2 F K (vi 0::vi x::.raw (.builtin "max")::s) m σ:=λJ A env c o I=>um o.hh ⟨rfl,σ,I,k⟩
def hO{x:Int}(k:K (.mi 0 x 1::s) m σ):gH 1 F K (.int x::.raw (.type "range")::s) m σ:=λI A env c J o=>xu ⟨rfl,σ,o,k⟩
def Bk{x y:Int}(k:K (.mi x y 1::s) m σ):gH 2 F K (.int y::.int x::.raw (.type "range")::s) m σ:=λI A env c J o=>xv ⟨rfl,σ,o,k⟩
def M7{X Y:List V}(t0 t1 t2 t3:Tg)(k:∀z o I J,K (.loc z::s) m ((((σ.set t2 (.one I (yY X))).set t3 (.one J (yY Y))).set t1 (.one o KZ)).set t0 (.one z (kZ I J o)))):gH 2 F K (.tup Y::.tup X::.raw (.type "zip")::s) m σ:=λB A env c D U=>
 H' t0.t t1.t t2.t t3.t λI J o z b e f h j p q r u w=>⟨rfl,_,
  (((U.new b).new ((ak.ag _ _ j.symm).trans e)).new ((ak.ag _ _ r.symm).trans ((ak.ag _ _ p.symm).trans f))).new ((ak.ag _ _ w.symm).trans ((ak.ag _ _ u.symm).trans ((ak.ag _ _ q.symm).trans h))),k z o I J⟩
def Jb{X:List V}(t0 t1:Tg)(k:∀e o,K (.loc e::s) m ((σ.set t1 (.one o (K0 X))).set t0 (.one e (Mm o)))):gH 1 F K (.lst X::.raw (.type "enumerate")::s) m σ:=λb A env c f I=>
 DT t0.t t1.t λe o J U d=>⟨rfl,_,(I.new U).new ((ak.ag _ _ d.symm).trans J),k e o⟩
def Jc{x y:Nat}(k:K (vi (min x y)::s) m σ):gH 2 F K (vi y::vi x::.raw (.builtin "min")::s) m σ:=λJ A env c o I=>DS o.hh ⟨rfl,σ,I,by rw[[show min (x:Int) (y:Int)=((min x y:Nat):Int) by omega],k,]⟩
def Jd{x y:Nat}(k:K (vi (max x y)::s) m σ):gH 2 F K (vi y::vi x::.raw (.builtin "max")::s) m σ:=λJ A env c o I=>vX o.hh ⟨rfl,σ,I,by rw[[show max (x:Int) (y:Int)=((max x y:Nat):Int) by omega],k,]⟩
def Gg{x:Nat}(o:x<1000)(k:K (.str (Str.ofString (toString x))::s) m σ):gH 1 F K (vi x::.raw (.type "str")::s) m σ:=λJ A env c U I=>uN o ⟨rfl,σ,I,k⟩
def M8{x:Int}(k:K (.int x::s) m σ):gH 1 F K (.int x::.raw (.type "int")::s) m σ:=λI A env c J o=>uO ⟨rfl,σ,o,k⟩
def Em(hz:n<=1000)(k:K (.lst ((List.range n).map vi)::s) m σ):gH 1 F K (.mi 0 n 1::.raw (.type "list")::s) m σ:=
 El (λA env c Q E h o a b I J=>T.pick (h o a b I J)) (λA env c E f U j q=>sj .dI U.hh (j6 (Vj n) (kq hz)).1 (j6 (Vj n) (kq hz)).2.1 (ax [.le af (.k 1000),.sub aj af gp] (.le aj (.k 16777216)) (.l [1,1,0,1]) tt [_,_] hz rfl) (by have e:=(j6 (Vj n) (kq hz:n<1000000)).2.2;rw[show((0:Nat):Int)=0 from rfl] at e;rw[[e],q,])) (.inl (by simpa using k))
def ku(h:σ0 t=some (.one a (.list (l++[Y]))))(e:σ t=σ0 t)(k:(σ.set t (.one a (.list (l++[X])))) t=some (.one a (.list (l++[X])))->K s m (σ.set t (.one a (.list (l++[X]))))):cD F K (.int (-1)::.loc a::X::s) m σ:=λI A env c J o=>
 uP (o t _ (e.trans h)) ⟨rfl,_,o.upd (e.trans h),k aq.ae⟩
def M9{x:Int}{y:Nat}(o:y<=100000):IntMulOk x (y:Int):=.of_right (by
 unfold Builtin.Int.intBits;split
 ·decide
 ·rw[Int.natAbs_natCast]
  rcases Nat.eq_zero_or_pos y with q|q
  ·rw[q];decide
  ·have:y.log2<64:=(Nat.log2_lt (ax [.lt gp af] (.ne af gp) (.l [1,0,1]) tt [_] q)).mpr (kq o)
   exact OS this)
def vj{x y:Nat}(o:y<=100000)(k:K (vi (x*y)::s) m σ):bin .Mult F K (vi y::vi x::s) m σ:=λJ A env c U I=>ue (M9 o) ⟨rfl,σ,I,by rw[[show(x:Int)*(y:Int)=((x*y:Nat):Int) by push_cast;rfl],k,]⟩
def En{x:Nat}(k:K (vi (x/2)::s) m σ):bin .FloorDiv F K (vi 2::vi x::s) m σ:=λI A env c J o=>rN (by decide) (PyProof.noPylong_of_log2 (by decide)) ⟨rfl,σ,o,by rw[[show(x:Int).fdiv ((2:Nat):Int)=((x/2:Nat):Int) by rw[Int.fdiv_eq_ediv_of_nonneg _ (Wj 2)];rfl],k,]⟩
def Bl{x y:Str}(hz:x.length+y.length<=sizeLine)(k:K (.str (x++y)::s) m σ):bin .Add F K (.str y::.str x::s) m σ:=λI A env c J o=>uf hz ⟨rfl,σ,o,k⟩
inductive GG(σ:aq):V->V->Prop
 |of {x:V}:x.d7=true->GG σ x x
 |seq {x:V} {l:List V}:Seq σ x l->V.eA l=true->GG σ x (.lst l)
def GG.at_(h:GG σ x X)(o:aD σ c.σ):GV c x X:=by
 cases h with
 |of h=>exact .of h
 |seq h g=>exact .seq (h.at_ o) g
def tq(J:GG σ x X)(U:GG σ y Y)(e:Nat.ble (min X.D.depth Y.D.depth) 200=true)(k:∀b,(b=true↔X=Y)->K (.bool b::s) m σ):cmp .Eq F K (y::x::s) m σ:=λI A env c f o=>vW (J.at_ o) (U.at_ o) (f.du (U1 e)) λb I=>⟨rfl,σ,o,k b I⟩
def Bm(J:GG σ x X)(U:GG σ y Y)(e:Nat.ble (min X.D.depth Y.D.depth) 200=true)(k:∀b,(b=true↔X≠Y)->K (.bool b::s) m σ):cmp .NotEq F K (y::x::s) m σ:=λI A env c f o=>Di (J.at_ o) (U.at_ o) (f.du (U1 e)) λb I=>⟨rfl,σ,o,k b I⟩
def wq(J:GG σ x X)(U:Seq σ y l)(gl:V.eA l=true)(e:Nat.ble X.D.depth 190=true)(k:∀b,(b=true↔X∈l)->K (.bool b::s) m σ):cmp .In F K (y::x::s) m σ:=λI A env c f o=>yb (J.at_ o) (U.at_ o) gl (by rw[[WZ],f.du (U3 (WC (U1 e) _) (by decide)),]) λb I=>⟨rfl,σ,o,k b I⟩
def wu(J:GG σ x X)(gl:V.eA l=true)(U:Nat.ble X.D.depth 190=true)(k:∀b,(b=true↔X∈l)->K (.bool b::s) m σ):cmp .In F K (.tup l::x::s) m σ:=λo A env c e I=>uM (J.at_ I) gl (by rw[[WZ],e.du (U3 (WC (U1 U) _) (by decide)),]) λb o=>⟨rfl,σ,I,k b o⟩
def Bn(k:K (.lst l::.raw (.builtin "list.index")::s) m σ):ee 30 F K (.lst l::s) m σ:=λI A env c J o U=>yc ⟨rfl,σ,o,.bt _,rfl,k⟩
def Ep(J:GG σ x X)(gl:V.eA l=true)(U:l[j]?=some X)(o:∀i,i<j->l[i]?≠some X)(hz:l.length<=100000)(b:Nat.ble X.D.depth 180=true)(k:K (vi j::s) m σ):dc 1 F K (x::.lst l::.raw (.builtin "list.index")::s) m σ:=λf A env c e I=>
 Av (J.at_ I) gl U o hz (by rw[[WZ],e.du (U3 (WC (U1 b) _) (by decide)),]) ⟨rfl,σ,I,k⟩
def vk{x:Str}(k:K (.str x::.raw (.builtin "str.isspace")::s) m σ):ee 29 F K (.str x::s) m σ:=λI A env c J o U=>ux ⟨rfl,σ,o,.bt _,rfl,k⟩
def yv{x:Str}(k:K (.bool (Txt.isspace x)::s) m σ):dc 0 F K (.str x::.raw (.builtin "str.isspace")::s) m σ:=λI A env c J o=>uy ⟨rfl,σ,o,k⟩
def w_inS{x y:Str}(k:K (.bool (Txt.contains x y)::s) m σ):cmp .In F K (.str x::.str y::s) m σ:=λI A env c J o=>xR ⟨rfl,σ,o,k⟩
def lY{x:Str}{i:Int}(h1:fitsSsize i=true)(o:(Txt.charAt x i).isSome=true)(k:K (.str (Txt.item x i)::s) m σ):sub F K (.int i::.str x::s) m σ:=⟨trivial,λJ A env c U I=>r4 h1 o ⟨rfl,σ,I,k⟩⟩
def Er{y:SC}{b:Bool}(h1:b=false->K (.bool b::s) m σ)(o:b=true->y F K s m σ):AW .And y F K (.bool b::s) m σ:=λJ A env c U I=>dt ⟨rfl,σ,I,λq=>h1 (by induction b<;>first|rfl|cases q),λq=>o (by induction b<;>first|rfl|cases q)⟩
section
variable{dA:List (Atom×V)}{dT:List (List Atom×V)}{k1:Atom}{lu:List Atom}
def jI(I:x=k1.v)(h:σ0 t=some (.one a (.dA dA)))(e:σ t=σ0 t)(k:K (.bool (!(aO dA k1).isSome)::s) m σ):cmp .NotIn F K (.loc a::x::s) m σ:=λJ A env c U o=>r6 J I (o t _ (e.trans h)) ⟨rfl,σ,o,k⟩
def cx(I:x=k1.v)(h:σ0 t=some (.one a (.dA dA)))(e:σ t=σ0 t)(J:aO dA k1=some X)(k:K (X::s) m σ):sub F K (x::.loc a::s) m σ:=⟨⟨t,_,e.trans h,trivial⟩,λU A env c b o=>uB I (o t _ (e.trans h)) J ⟨rfl,σ,o,k⟩⟩
def eD(I:x=k1.v)(h:σ0 t=some (.one a (.dA dA)))(e:σ t=σ0 t)(hz:dA.length<=100000)(k:(σ.set t (.one a (.dA (dput dA k1 X)))) t=some (.one a (.dA (dput dA k1 X)))->K s m (σ.set t (.one a (.dA (dput dA k1 X))))):cD F K (x::.loc a::X::s) m σ:=λJ A env c U o=>om I (o t _ (e.trans h)) hz ⟨rfl,_,o.upd (e.trans h),k aq.ae⟩
def Es(I:x=k1.v)(h:σ0 t=some (.one a (.dA dA)))(e:σ t=σ0 t)(J:aO dA k1=some X)(hz:dA.length<=100000)(k:(σ.set t (.one a (.dA (dp dA k1)))) t=some (.one a (.dA (dp dA k1)))->K s m (σ.set t (.one a (.dA (dp dA k1))))):kc F K (x::.loc a::s) m σ:=λU A env c b o=>xY I (o t _ (e.trans h)) J hz ⟨rfl,_,o.upd (e.trans h),k aq.ae⟩
def Et(h:σ0 t=some (.one a (.dA dA)))(e:σ t=σ0 t)(k:K (.loc a::.raw (.builtin "dict.pop")::s) m σ):ee 25 F K (.loc a::s) m σ:=λI A env c J o U=>Ai (o t _ (e.trans h)) ⟨rfl,σ,o,.bt _,rfl,k⟩
def Eu(h:σ0 t=some (.one a (.dA dA)))(e:σ t=σ0 t)(k:K (.loc a::.raw (.builtin "dict.get")::s) m σ):ee 27 F K (.loc a::s) m σ:=λI A env c J o U=>Aj (o t _ (e.trans h)) ⟨rfl,σ,o,.bt _,rfl,k⟩
def Je(h:σ0 t=some (.one a (.dA dA)))(e:σ t=σ0 t)(k:K (.loc a::.raw (.builtin "dict.setdefault")::s) m σ):ee 28 F K (.loc a::s) m σ:=λI A env c J o U=>DC (o t _ (e.trans h)) ⟨rfl,σ,o,.bt _,rfl,k⟩
def Jf(I:x=k1.v)(h:σ0 t=some (.one a (.dA dA)))(e:σ t=σ0 t)(J:aO dA k1=some X)(hz:dA.length<=100000)(k:(σ.set t (.one a (.dA (dp dA k1)))) t=some (.one a (.dA (dp dA k1)))->K (X::s) m (σ.set t (.one a (.dA (dp dA k1))))):dc 1 F K (x::.loc a::.raw (.builtin "dict.pop")::s) m σ:=λU A env c b o=>
 xZ I (o t _ (e.trans h)) J hz ⟨rfl,_,o.upd (e.trans h),k aq.ae⟩
def Jg(I:x=k1.v)(h:σ0 t=some (.one a (.dA dA)))(e:σ t=σ0 t)(k:K ((aO dA k1).getD Y::s) m σ):dc 2 F K (Y::x::.loc a::.raw (.builtin "dict.get")::s) m σ:=λJ A env c U o=>uC J I (o t _ (e.trans h)) ⟨rfl,σ,o,k⟩
def Gh(J:x=k1.v)(h:σ0 t=some (.one a (.dA dA)))(e:σ t=σ0 t)(hz:dA.length<=100000)(h1:∀X,aO dA k1=some X->K (X::s) m σ)(U:aO dA k1=none->(σ.set t (.one a (.dA (dput dA k1 Y)))) t=some (.one a (.dA (dput dA k1 Y)))->K (Y::s) m (σ.set t (.one a (.dA (dput dA k1 Y))))):dc 2 F K (Y::x::.loc a::.raw (.builtin "dict.setdefault")::s) m σ:=λb A env c f o=>
 j9 b J (o t _ (e.trans h)) hz (λX I=>⟨rfl,σ,o,h1 X I⟩) λI=>⟨rfl,_,o.upd (e.trans h),U I aq.ae⟩
def M'(I:x=kT lu)(h:σ0 t=some (.one a (.dT dT)))(e:σ t=σ0 t)(k:K (.bool (aO dT lu).isSome::s) m σ):cmp .In F K (.loc a::x::s) m σ:=λJ A env c U o=>Af J I (o t _ (e.trans h)) U ⟨rfl,σ,o,k⟩
def Bo(I:x=kT lu)(h:σ0 t=some (.one a (.dT dT)))(e:σ t=σ0 t)(k:K (.bool (!(aO dT lu).isSome)::s) m σ):cmp .NotIn F K (.loc a::x::s) m σ:=λJ A env c U o=>r5 J I (o t _ (e.trans h)) U ⟨rfl,σ,o,k⟩
def Ew(I:x=kT lu)(h:σ0 t=some (.one a (.dT dT)))(e:σ t=σ0 t)(J:aO dT lu=some X)(k:K (X::s) m σ):sub F K (x::.loc a::s) m σ:=⟨⟨t,_,e.trans h,trivial⟩,λb A env c U o=>uA I (o t _ (e.trans h)) U J ⟨rfl,σ,o,k⟩⟩
def Ey(I:x=kT lu)(h:σ0 t=some (.one a (.dT dT)))(e:σ t=σ0 t)(hz:dT.length<=100000)(k:(σ.set t (.one a (.dT (dput dT lu X)))) t=some (.one a (.dT (dput dT lu X)))->K s m (σ.set t (.one a (.dT (dput dT lu X))))):cD F K (x::.loc a::X::s) m σ:=λU A env c J o=>oj I (o t _ (e.trans h)) J hz ⟨rfl,_,o.upd (e.trans h),k aq.ae⟩
def Ez(I:x=kT lu)(h:σ0 t=some (.one a (.dT dT)))(e:σ t=σ0 t)(J:aO dT lu=some X)(hz:dT.length<=100000)(k:(σ.set t (.one a (.dT (dp dT lu)))) t=some (.one a (.dT (dp dT lu)))->K s m (σ.set t (.one a (.dT (dp dT lu))))):kc F K (x::.loc a::s) m σ:=λb A env c U o=>xU I (o t _ (e.trans h)) U J hz ⟨rfl,_,o.upd (e.trans h),k aq.ae⟩
def EA(h:σ0 t=some (.one a (.dT dT)))(e:σ t=σ0 t)(k:K (.loc a::.raw (.builtin "dict.pop")::s) m σ):ee 25 F K (.loc a::s) m σ:=λI A env c J o U=>Ak (o t _ (e.trans h)) ⟨rfl,σ,o,.bt _,rfl,k⟩
def Jh(h:σ0 t=some (.one a (.dT dT)))(e:σ t=σ0 t)(k:K (.loc a::.raw (.builtin "dict.setdefault")::s) m σ):ee 28 F K (.loc a::s) m σ:=λI A env c J o U=>DD (o t _ (e.trans h)) ⟨rfl,σ,o,.bt _,rfl,k⟩
def Ji(I:x=kT lu)(h:σ0 t=some (.one a (.dT dT)))(e:σ t=σ0 t)(J:aO dT lu=some X)(hz:dT.length<=100000)(k:(σ.set t (.one a (.dT (dp dT lu)))) t=some (.one a (.dT (dp dT lu)))->K (X::s) m (σ.set t (.one a (.dT (dp dT lu))))):dc 1 F K (x::.loc a::.raw (.builtin "dict.pop")::s) m σ:=λb A env c U o=>
 xV I (o t _ (e.trans h)) U J hz ⟨rfl,_,o.upd (e.trans h),k aq.ae⟩
def Gi(J:x=kT lu)(h:σ0 t=some (.one a (.dT dT)))(e:σ t=σ0 t)(hz:dT.length<=100000)(h1:∀X,aO dT lu=some X->K (X::s) m σ)(U:aO dT lu=none->(σ.set t (.one a (.dT (dput dT lu Y)))) t=some (.one a (.dT (dput dT lu Y)))->K (Y::s) m (σ.set t (.one a (.dT (dput dT lu Y))))):dc 2 F K (Y::x::.loc a::.raw (.builtin "dict.setdefault")::s) m σ:=λb A env c f o=>
 j8 b J (o t _ (e.trans h)) f hz (λX I=>⟨rfl,σ,o,h1 X I⟩) λI=>⟨rfl,_,o.upd (e.trans h),U I aq.ae⟩
end
def wx(h:GC F.g F.k F.exc σ (.raw (.ref f)) [x] λv σ=>K (v::s) m σ):dc 0 F K (x::.raw (.ref f)::s) m σ:=h
def wz(h:GC F.g F.k F.exc σ (.raw (.ref f)) [y,x] λv σ=>K (v::s) m σ):dc 1 F K (x::y::.raw (.ref f)::s) m σ:=h
def EB(h:GC F.g F.k F.exc σ (.raw (.ref f)) [z,y,x] λv σ=>K (v::s) m σ):dc 2 F K (x::y::z::.raw (.ref f)::s) m σ:=h
def EC(h:GC F.g F.k F.exc σ (.raw (.ref f)) [u,z,y,x] λv σ=>K (v::s) m σ):dc 3 F K (x::y::z::u::.raw (.ref f)::s) m σ:=h
def Jj(h:GC F.g F.k F.exc σ (.raw (.ref f)) [] λv σ=>K (v::s) m σ):gH 0 F K (.raw (.ref f)::s) m σ:=h
def Jk(h:GC F.g F.k F.exc σ (.raw (.ref f)) [x] λv σ=>K (v::s) m σ):gH 1 F K (x::.raw (.ref f)::s) m σ:=h
def Jl(h:GC F.g F.k F.exc σ (.raw (.ref f)) [y,x] λv σ=>K (v::s) m σ):gH 2 F K (x::y::.raw (.ref f)::s) m σ:=h
def Jm(h:GC F.g F.k F.exc σ (.raw (.ref f)) [z,y,x] λv σ=>K (v::s) m σ):gH 3 F K (x::y::z::.raw (.ref f)::s) m σ:=h
def Jn(h:GC F.g F.k F.exc σ (.raw (.ref f)) [u,z,y,x] λv σ=>K (v::s) m σ):gH 4 F K (x::y::z::u::.raw (.ref f)::s) m σ:=h
def Jo(h:GC F.g F.k F.exc σ (.raw (.ref f)) [w,u,z,y,x] λv σ=>K (v::s) m σ):gH 5 F K (x::y::z::u::w::.raw (.ref f)::s) m σ:=h
def qW{t b:SC}(Inv:Nat->GM->aq->Prop){o:Nat}{m0:GM}(hs:bj m0 m)(h0:Inv o m0 σ)(h:∀n m σ,Inv n m σ->t F.quiet (λs' m σ=>Cm s' (b F.quiet (λs m σ=>s=[]/\∃I m0,I<n/\bj m0 m/\Inv I m0 σ) [] m σ) (K s m σ)) [] m σ):iB t b F K s m σ:=
 ⟨Inv,⟨o,m0,hs,h0⟩,h⟩
theorem tu{step:V->GM->aq->(GM->aq->Prop)->Prop}{K:GM->aq->Prop}{m0:GM}(Inv:List V->List V->aq->Prop)
 (o:∀done x rest σ P,Inv done (x::rest) σ->(∀m σ,bj m0 m->Inv (done++[x]) rest σ->P m σ)->step x m0 σ P) (I:∀done m σ,bj m0 m->Inv done [] σ->K m σ):
 ∀l done m σ,bj m0 m->Inv done l σ->ef step K l m σ
 |[],done,m,σ,hm,hi=>I done m σ hm hi
 |x::l,done,m,σ,hm,hi=>⟨m0,hm,o done x l σ _ hi λm σ J U=>tu Inv o I l _ m σ J U⟩
def e4{J:Type}{t b:SC}(N:J->Nat)(M:J->GM)(I:J->aq->Prop)(z:J)(hs:bj (M z) m)(h0:I z σ)
 (h:∀z σ,I z σ->t F.quiet (λs' m σ=>Cm s' (b F.quiet (λs m σ=>s=[]/\∃o,N o<N z/\bj (M o) m/\I o σ) [] m σ) (K s m σ)) [] (M z) σ):iB t b F K s m σ:=by
 rw[⟨λn m σ=>∃z,n=N z/\m=M z/\I z σ,⟨_,_,hs,z,rfl,rfl,h0⟩,λn m σ q=>aw q λz q=>?_⟩,];have e:(λ(s:List V) (m:GM) (σ:aq)=>s=[]/\∃U f,U<N z/\bj f m/\∃z,U=N z/\f=M z/\I z σ)=λs m σ=>s=[]/\∃o,N o<N z/\bj (M o) m/\I o σ:=funext λs=>funext λm=>funext λσ=>propext
  ⟨λq=>⟨q.1,dh q.2 λU f q=>aw q.2.2 λo p=>⟨o,p.1▸q.1,p.2.1▸q.2.1,p.2.2⟩⟩,λq=>⟨q.1,aw q.2 λo p=>⟨_,_,p.1,p.2.1,o,rfl,rfl,p.2.2⟩⟩⟩
 rw[[q.1,q.2.1],e▸h z σ q.2.2,]
def e5{U:Type}{f:U->V}{step:V->GM->aq->(GM->aq->Prop)->Prop}{K:GM->aq->Prop}{m0:GM}(I:List U->List U->aq->Prop)
 (o:∀d x r σ P,I d (x::r) σ->(∀m σ,bj m0 m->I (d++[x]) r σ->P m σ)->step (f x) m0 σ P) (J:∀d m σ,bj m0 m->I d [] σ->K m σ) (l:List U):∀d m σ,bj m0 m->I d l σ->ef step K (l.map f) m σ:=by
 induction l with
 |nil=>exactλd m σ hm hi=>J d m σ hm hi
 |cons x l b=>exactλd m σ hm hi=>⟨m0,hm,o d x l σ _ hi λm σ e h=>b _ m σ e h⟩
def d2{step:V->GM->aq->(GM->aq->Prop)->Prop}{K:GM->aq->Prop}(k:K m σ):ef step K [] m σ:=k
def bP{step:V->GM->aq->(GM->aq->Prop)->Prop}{K:GM->aq->Prop}{xs:List V}(m0:GM)(hs:bj m0 m)(h:step x m0 σ (ef step K xs)):ef step K (x::xs) m σ:=⟨m0,hs,h⟩
def bX{tt o:KS->KS}{I:GM->aq->Prop}(h:tt (λs m σ=>s=[]/\o (λs m σ=>s=[]/\I m σ) [] m σ) [x] m σ):gb tt o x m σ I:=h
def hV{o:Bool}{t b:SC}(h:ef (gb (t (F.lst none l)) (b (F.lst none l))) (K s) l m σ):df o t b F K (.lst l::s) m σ:=⟨l,σ,none,.lst l,h⟩
def vl{o:Bool}{t b:SC}(h:ef (gb (t (F.lst none l)) (b (F.lst none l))) (K s) l m σ):df o t b F K (.tup l::s) m σ:=⟨l,σ,none,.tup l,h⟩
def qX(h:σ0 t=some (.one a (.list l)))(e:σ t=σ0 t)(k:ef (gb (tb (F.lst (some (t,a)) l)) (b (F.lst (some (t,a)) l))) (λm σ=>K s m (σ.set t (.one a (.list l)))) l m (σ.del t)):df o tb b F K (.loc a::s) m σ:=⟨l,_,some (t,a),.loc (e.trans h),k⟩
def vm{J:Bool}{t b:SC}{x y:Nat}(o:x<=y)(I:y<1000000)(h:ef (gb (t (F.lst none ((List.range (y-x)).map λi=>vi (x+i)))) (b (F.lst none ((List.range (y-x)).map λi=>vi (x+i))))) (K s) ((List.range (y-x)).map λi=>vi (x+i)) m σ):df J t b F K (.mi x y 1::s) m σ:=
 ⟨_,σ,none,.mi (j6 o I).1 (j6 o I).2.1,by rw[[(j6 o I).2.2],h,]⟩
def bJ{step:V->aq->List V->(List V->aq->Prop)->Prop}{K:List V->aq->Prop}{J:Type}{f y:J->V}(xs:List J):∀(o:List V),(∀x∈xs,∀o P,o.length<=100000->P (o++[y x]) σ->step (f x) σ o P)->o.length+xs.length<=100000->K (o++xs.map y) σ->fo step K (xs.map f) o σ:=by
 induction xs with
 |nil=>exactλo _ _ I=>(VR o:o++[]=o)▸I
 |cons x xs e=>
  rw[λo U b I=>U x (.head _) o _ (U3 (Vx ..) b) (e _ (λz h=>U z (.tail _ h)) ?_ ?_),]
  ·rw[[U7,WZ,Yi _ xs.length],b,]
  ·rw[[Vo],I,]
def eJ{step:V->aq->List V->(List V->aq->Prop)->Prop}{K:List V->aq->Prop}{o:List V}(k:K o σ):fo step K [] o σ:=k
def dg{step:V->aq->List V->(List V->aq->Prop)->Prop}{K:List V->aq->Prop}{xs o:List V}(k:step x σ o (fo step K xs)):fo step K (x::xs) o σ:=k
def bG(h:U (λs b σ=>s=[]/\e (λs I σ=>Cm s
 (f (λs j σ=>match s with|[y]=>bj m0 j/\o.length<=100000/\J (o++[y]) σ|_=>False) [] I σ) (bj m0 I/\J o σ)) [] b σ) [x] m0 σ):iJ U e f m0 x σ o J:=h
def aY{J:Bool}{m0 U:GM}{o:aq}{P:List V->aq->Option (Tg×Addr)->Prop}{h:Option (Tg×Addr)}(hs:bj m0 U)(I:i9 J o x l σ0 h)(k:P l σ0 h):∃l σ0 h,bj m0 U/\i9 J o x l σ0 h/\P l σ0 h:=⟨l,σ0,h,hs,I,k⟩
def cj{U:Bool}{o:List Nat}{b tt cc e:SC}(m0:GM)(h0:m0.map (·.1)=o)(hs:bj m0 m)(h:b F (λj f I=>dq j λx s=>∃l σ0 h,bj m0 f/\i9 U I x l σ0 h/\
 fo (iJ (tt F.quiet) (cc F.quiet) (e F.quiet) m0) (λJ σ=>K (.lst J::s) f (Ij h l σ)) l [] σ0) s m σ):comp U o b tt cc e F K s m σ:=⟨m0,h0,hs,h⟩
end
end
noncomputable section
section
variable{nm:List Str}{L:Lv}{S:Scope}{F:Fr}{A:Around}{env:Env}{B l2:List Stmt}{Q:CF->CS->Prop}{E:V->CS->Prop}
def Na(o:SL nm L)(b:Ef nm L)(d:ER nm F S A env)(e:∀v σ c',aD σ c'.σ->F.ret v σ->Q (.ret v) c')(i:∀X c',EE F.exc X c'->E X c')(I:List Stmt):∀(n:Nat) {K:KS} {m:GM} {σ:aq} {c:CS},RelM nm m c.m->aD σ c.σ->cB nm L n S I F K [] m σ->
 (∀c' m σ,RelM nm m c'.m->aD σ c'.σ->K [] m σ->rx F.g A env B l2 c' Q E)->rx F.g A env B (I++l2) c Q E:=by
 induction I with
 |nil=>
  rw[λn _ _ _ _ J U h a=>?_,]
  induction n using Nat.casesOn with
  |zero=>exact False.elim h
  |succ n=>exact a _ _ _ J U h
 |cons s I j=>
  rw[λn K _ _ _ J U h a=>?_,]
  induction n using Nat.casesOn with
  |zero=>exact False.elim h
  |succ n=>
   rw[Al (T.mono (A9 o (gh o b n) b d J U h) (λf k q=>?_) i),]
   induction f with
   |next=>exact dh q λl C q=>j n q.1 q.2.1 q.2.2 a
   |ret v=>exact aw q λC q=>e v C k q.1 q.2
   |brk=>exact q.elim
   |cont=>exact q.elim
end
structure oR where
 p0:Pos
 p1:Pos
 name:Str
 apos:Pos
 args:List Expr
 pos:Pos
 yi:Pos
noncomputable def oR.e(p:oR):Expr:=.Call (.Attribute (.Call (.Name "super" p.p0) [] [] p.p1) p.name p.apos) p.args [] p.pos
noncomputable def oR.ok(p:oR):Bool:=p.args.all bF&&decide (p.apos.endLine=p.pos.line)&&decide (p.args.length<30)&&!(p.name==("__class__":Str))
structure yw(f:Addr)(nm:List Str)(na:Nat)(fd:FuncData)(body:List Stmt)(S:Scope)(D C f2:Addr)(l1 l2:List Stmt)(s:Stmt)(p:oR)(tv oS:SC):Prop where
 hK:∀P,fN (KR P) f fd body (nm.take na) S
 nd:nm.Nodup
 hn:na<=nm.length
 self:nm[0]?=some ("self":Str)
 hb:body=l1++s::l2
 pre:cB nm (lv nm 14) 14 S l1=tv
 arg:cL (lv nm 14).E S p.args=oS
 ok:p.ok=true
 si:∀P,pw (KR P) f fd S D
 gl:∀P,nsIn (KR P) mainGlobals "super"=some none
 op:∀P,nsIn (KR P) cStatics "thirdparty.any"=some none
 sub:∀P,mroIn (KR P) C (.ref D)=some true
 me:∀P,ks_superIn (KR P) C D p.name=some (some (.ref f2))
 ty:∀P,typeIn (KR P) (.ref f2)=some (.type "function")
 fn:∀P,fnIn (KR P) f2=true
 nc:jB S (nm.take na)=true
section
variable{f:Addr}{nm:List Str}{na:Nat}{fd:FuncData}{body:List Stmt}{S:Scope}{D C f2:Addr}{l1 l2:List Stmt}{s:Stmt}{p:oR}{tv oS Bp:SC}{g:G0}{k:Nat}{exc:XQ}{σ:aq}{args:List V}{Q:V->aq->Prop}
noncomputable def ED(g:G0)(k:Nat)(exc:XQ)(Q:V->aq->Prop)(oS:SC)(C f2:Addr)(P:V->GM->aq->Prop):KS:=λ_ m σ=>∃x t d I,lk m 0=some (.loc x)/\σ t=some (.obj x C d I)/\
 oS ⟨g,k,Q,exc⟩ (λJ U o=>Be g k exc o (.raw (.ref f2)) (.loc x::J.reverse) λv σ=>P v U σ) [] m σ
def tx(o:yw f nm na fd body S D C f2 l1 l2 s p tv oS)(hl:args.length=na){P:V->GM->aq->Prop}(h:tv ⟨g,k,Q,exc⟩ (ED g k exc Q oS C f2 P) [] (jb 0 args) σ)
 (FN:∀{A:Around} {L:Addr} {q:Str} {fr:Option Addr} {c:CS} {B:List Stmt} {QQ:CF->CS->Prop} {E:V->CS->Prop} {x:Addr},Base g->qv g S f fd D x C f2 p.name c->
  ER nm ⟨g,k,Q,exc⟩ S A (bh S L fd.closure q (some f) fd.code fr)->
  (∀X c',EE exc X c'->E X c')->(∀cf c',QS nm ⟨g,k,Q,exc⟩ (λ_ _ σ=>Q .none σ) cf c'->QQ cf c')->
  (HF g A (bh S L fd.closure q (some f) fd.code fr) p.pos p.args c (λvs J=>kK g A (bh S L fd.closure q (some f) fd.code fr) (.raw (.ref f2)) (.loc x::vs) J (λX c2=>PK nm (λm σ=>P X m σ) c2) (EE exc)) (EE exc))->
  rx g A (bh S L fd.closure q (some f) fd.code fr) B (s::l2) c QQ E):Be g (k+1) exc σ (.raw (.ref f)) args Q:=λhb A env c rm rs=>by
 have hq:=ra o.nc;have U:args.length=(nm.take na).length:=by rw[[List.length_take,hl],(Wl o.hn).symm,]
 rw[gU hb (o.hK _) rm (λx H e=>by have:=V8.mp hq.1 x H;rw[e] at this;rw[7 this,]) (λn hn=>rd (V8.mp hq.2 n hn)) U λA' L cells q fr M ok yZ=>?_,8 yZ,];have er:ER nm ⟨g,k,Q,exc⟩ S A' (bh S L fd.closure q (some f) fd.code fr):=pA hb M o.nd ok λx H=>by rw[<-this V8.mp hq.1 _ (mem_lookup H),7 this,]
 rw[<-o.pre] at h;rw[<-a o.hb,[show body=l1++s::l2 from a],Na (oy 14) (uW _ 14) er (λv σ c' rs hr=>⟨rfl,σ,rs,hr⟩) (λX c' e=>wj e) l1 14 (c:=⟨((nm.take na).zip args).reverse,c.σ⟩) (eI o.nd (by rw[hl]) U) rs h λc' m i j l h=>?_,6 h,λN=>OM N λx t d fs H ht h=>?_,0 N,];have hm:c'.m.lookup ("self":Str)=some (.loc x):=by rw[ah (j 0 _ H) λy e1 e2=>?_,];rw[o.self] at e1;rw[1 e1,e2,]
 have R:=o.ok;unfold oR.ok at R;rw[<-o1 ra R,FN hb ⟨o.si _,hm,.inl ⟨_,_,(l t _ ht).1⟩,o.sub _,by simpa using o1.2,o.gl _,o.op _,o.me _,o.ty _,o.fn _⟩ er (λX c' e=>wj e) (λcf c' q=>kg rfl q) ?_,];rw[<-o.arg] at h;have fin:∀vs J G I,RelM nm G J.m->aD I J.σ->Be g k exc I (.raw (.ref f2)) (.loc x::vs.reverse.reverse) (λv σ=>P v G σ)->kK g A' (bh S L fd.closure q (some f) fd.code fr) (.raw (.ref f2)) (.loc x::vs) J (λX c2=>PK nm (λm σ=>P X m σ) c2) (EE exc):=λvs J G I u w W=>by
  rw[XJ] at W;intro Y fv as i1 i2 F Z s hF st;rw[WE (W hb A' _ J M w Y fv as i1 i2 F Z s hF st) λr s' z=>?_,]
  induction r with
  |error e=>exact z
  |ok f=>
   induction f with
   |ret v=>refine aB λR_ mM=>?_;obtain⟨F',b,c',z1,z2,z3,z4,i,z5,z6⟩:=z;rw[mM ?_,0 mM R_,];exact⟨F',b,c',z1,z2,z3,G,i,z4▸u,z5,z6⟩
   |_=>exact z
 unfold HF;cases hp:p.args with
 |nil=>rw[hp] at h;exact fin [] c' m i j l h
 |cons e r=>
  rw[hp] at h;rw[T.mq (m7 (F':=()) (oy 14).E er j l h) λvs J q=>aV q λ_ Cj=>cp Cj λG I u w W=>?_,0 q Cj,];rw[VR] at W;rw[fin vs J G I u w W,]
def tA{A:Around}{L:Addr}{q:Str}{fr:Option Addr}(o:p.args.all bF=true):∀e r,p.args=e::r->starEach (e::r) (bh S L fd.closure q (some f) fd.code fr)=(false,eval e (bh S L fd.closure q (some f) fd.code fr))::starEach r (bh S L fd.closure q (some f) fd.code fr)/\(backTo p.pos (starEach r (bh S L fd.closure q (some f) fd.code fr))).any (·.1)=false:=λe r I=>by rw[I] at o;rw[<-o ra o,⟨eZ o.1,ip o.2⟩,]
def Jp(y:yw f nm na fd body S D C f2 l1 [] s p tv oS)(hs:s=.Return (some p.e) p.yi)(P:args.length=na)(h:tv ⟨g,k,Q,exc⟩ (ED g k exc Q oS C f2 λv _ σ=>Q v σ) [] (jb 0 args) σ):Be g (k+1) exc σ (.raw (.ref f)) args Q:=by
 rw[tx y P h λ{A L q a c B R E x} W SC er G Y h=>?_,<-o1 ra y.ok,<-H ra o1.1,<-d ra H.1,[hs],uE (pl:=do return(<-importBound (.Call (.Name "super" p.p0) [] [] p.p1) (bh S L fd.closure q (some f) fd.code a)).getD true) W SC ?_ (fR d.1 (rd d.2) (rd H.2)) (tA (A:=A) d.1),];have key:∀I J,kK g A (bh S L fd.closure q (some f) fd.code a) (.raw (.ref f2)) (.loc x::I) J (λX i=>PK nm (λm σ=>Q X σ) i) (EE exc)->kK g A (bh S L fd.closure q (some f) fd.code a) (.raw (.ref f2)) (.loc x::I) J (λX i=>R (.ret X) i) E:=λI J j U fv as i1 i2 F Z s hF st=>WE (j U fv as i1 i2 F Z s hF st) λr s' z=>by
  induction r with
  |error e=>refine aB λl o=>?_;obtain⟨F',X,c',n,t,u,M⟩:=z;rw[o ?_,0 o l,];exact⟨F',X,c',n,t,u,G _ _ M⟩
  |ok f=>
   induction f with
   |ret v=>refine aB λl o=>?_;obtain⟨F',b,c',n,t,u,m',w,M,z5,z6⟩:=z;rw[o ?_,0 o l,];exact⟨F',b,c',n,t,u,Y _ _ ⟨w,z5,z6⟩⟩
   |_=>exact z
 unfold HF at h⊢;cases N:p.args with
 |nil=>rw[N] at h;exact key _ _ h
 |cons e r=>rw[N] at h;rw[T.mono h (λI J j=>key I J j) G,]
def wB(H:yw f nm na fd body S D C f2 l1 l2 s p tv oS)(hs:s=.Expr p.e p.yi)(W:args.length=na)(I:cB nm (lv nm 14) 14 S l2=Bp)
 (h:tv ⟨g,k,Q,exc⟩ (ED g k exc Q oS C f2 λ_ m σ=>Bp ⟨g,k,Q,exc⟩ (λ_ _ σ=>Q .none σ) [] m σ) [] (jb 0 args) σ):Be g (k+1) exc σ (.raw (.ref f)) args Q:=by
 rw[tx H W h λ{A L q d c B Y E x} hb SC M i hQ h=>?_,<-o1 ra H.ok,<-N ra o1.1,<-j ra N.1,[hs],mQ (pl:=do return(<-importBound (.Call (.Name "super" p.p0) [] [] p.p1) (bh S L fd.closure q (some f) fd.code d)).getD true) hb SC ?_ (fR j.1 (rd j.2) (rd N.2)) (tA (A:=A) j.1) M.inter,];have key:∀J U,kK g A (bh S L fd.closure q (some f) fd.code d) (.raw (.ref f2)) (.loc x::J) U (λX l=>PK nm (λm σ=>Bp ⟨g,k,Q,exc⟩ (λ_ _ σ=>Q .none σ) [] m σ) l) (EE exc)->kK g A (bh S L fd.closure q (some f) fd.code d) (.raw (.ref f2)) (.loc x::J) U (λ_ l=>rx g A (bh S L fd.closure q (some f) fd.code d) B l2 l Y E) E:=λJ U n a fv as i1 i2 F Z s hF st=>WE (n a fv as i1 i2 F Z s hF st) λr s' z=>by
  induction r with
  |error e=>refine aB λt o=>?_;obtain⟨F',X,c',u,w,y,G⟩:=z;rw[o ?_,0 o t,];exact⟨F',X,c',u,w,y,i _ _ G⟩
  |ok f=>
   induction f with
   |ret v=>
    rw[aB λt o=>?_,];obtain⟨F',b,c',u,w,y,m',σ',G,z5,P⟩:=z;rw[o ?_,0 o t,];rw[<-I] at P;exact⟨F',b,c',u,w,y,j5 (T.mono (gh (oy 14) (uW _ 14) 14 M G z5 P) (λcf c q=>hQ cf c q) i)⟩
   |_=>exact z
 unfold HF at h⊢;cases R:p.args with
 |nil=>rw[R] at h;exact key _ _ h
 |cons e r=>rw[R] at h;rw[T.mono h (λJ U n=>key J U n) i,]
end
end
noncomputable section
noncomputable def fG:List Str:=["self","__class__"]
noncomputable def hZ:SC:=ao
noncomputable def iS:SC:=ao
noncomputable def h7:SC:=sq (lst 0)<|sq (ld 0)<|sq (jz 19)<|sq (lst 0)<|sq (ld 0)<|sq (jz 20)<|sq (cst (vi 0))<|sq (ld 0)<|sq (jz 21)<|ao
def nO:cB fG (lv fG 14) 14 (aG (met 24 0)) ((aT (met 24 0)).drop 1)=h7:=by kernel_rfl
noncomputable def fH:oR:=⟨⟨326,8,326,13⟩,⟨326,8,326,15⟩,"__init__",⟨326,8,326,24⟩,[],⟨326,8,326,26⟩,⟨326,8,326,26⟩⟩
def oT:(aT (met 24 0))[0]?.getD (.Pass default)=.Expr fH.e fH.yi:=by kernel_rfl
def oU:yw 526 fG 1 eT (aT (met 24 0)) (aG (met 24 0)) 578 578 392 ((aT (met 24 0)).take 0) ((aT (met 24 0)).drop 1) ((aT (met 24 0))[0]?.getD (.Pass default)) fH hZ iS:=
 ⟨gS,by decide+kernel,by rw[VE _,],rfl,by kernel_rfl,by kernel_rfl,by kernel_rfl,by kernel_rfl,λP=>gV (gS P) (H4 P) rfl rfl rfl,gW,sf,uH,DJ,HZ,H7,rfl⟩
noncomputable def dO:List Str:=["self","n","node","__class__"]
noncomputable def fu:SC:=sq (ld 1)<|sq (ld 0)<|sq (attr 21)<|sq (cmp .Eq)<|sq bu<|sq (ite (sq (ld 0)<|sq (attr 19)<|sq (ee 24)<|sq (cst (.str "made"))<|sq (ld 1)<|sq (tup 2)<|sq (dc 1)<|sq pop<|sq (ld 1)<|sq (cst (vi 1))<|sq (bin .Add)<|sq (ld 0)<|sq (jz 21)<|ao) ao)<|sq (ld 0)<|sq (ee 43)<|sq (ld 1)<|sq (dc 1)<|sq (st 2)<|sq (ld 2)<|sq (ld 0)<|sq (attr 16)<|sq (cmp .NotIn)<|sq bu<|sq (ite (sq (ld 0)<|sq (attr 19)<|sq (ee 24)<|sq (cst (.str "known"))<|sq (ld 2)<|sq (tup 2)<|sq (dc 1)<|sq pop<|ao) ao)<|ao
noncomputable def dP:SC:=sq (ld 1)<|ao
noncomputable def fw:SC:=ao
def jJ:cB dO (lv dO 14) 14 (aG (met 24 4)) ((aT (met 24 4)).drop 4)=fw:=by kernel_rfl
noncomputable def dQ:oR:=⟨⟨359,8,359,13⟩,⟨359,8,359,15⟩,"look_at",⟨359,8,359,23⟩,[.Name "n" ⟨359,24,359,25⟩],⟨359,8,359,26⟩,⟨359,8,359,26⟩⟩
def kv:(aT (met 24 4))[3]?.getD (.Pass default)=.Expr dQ.e dQ.yi:=by kernel_rfl
def kx:yw 555 dO 2 dw (aT (met 24 4)) (aG (met 24 4)) 578 578 421 ((aT (met 24 4)).take 3) ((aT (met 24 4)).drop 4) ((aT (met 24 4))[3]?.getD (.Pass default)) dQ fu dP:=
 ⟨fk,by decide+kernel,by rw[U1 rfl,],rfl,by kernel_rfl,by kernel_rfl,by kernel_rfl,by kernel_rfl,λP=>gV (fk P) (H5 P) rfl rfl rfl,gW,sf,uH,DK,H0,H8,rfl⟩
noncomputable def oV:List Str:=["self","a","b","reason","kept","gone","__class__"]
noncomputable def h9:SC:=sq (gl (.builtin "sorted"))<|sq fn<|sq (ld 0)<|sq (ee 48)<|sq (ld 1)<|sq (dc 1)<|sq (ld 0)<|sq (ee 48)<|sq (ld 2)<|sq (dc 1)<|sq (lst 2)<|sq (gH 1)<|sq (K2 2)<|sq (st 4)<|sq (st 5)<|sq (ld 0)<|sq (attr 19)<|sq (ee 24)<|sq (cst (.str "edge"))<|sq (ld 4)<|sq (gl (.builtin "len"))<|sq fn<|sq (ld 0)<|sq (attr 9)<|sq (ld 4)<|sq sub<|sq (gH 1)<|sq (ld 5)<|sq (ld 0)<|sq (attr 9)<|sq (ld 5)<|sq sub<|sq (tup 5)<|sq (dc 1)<|sq pop<|ao
noncomputable def iT:SC:=sq (ld 1)<|sq (ld 2)<|sq (ld 3)<|ao
noncomputable def fI:oR:=⟨⟨364,15,364,20⟩,⟨364,15,364,22⟩,"join",⟨364,15,364,27⟩,[.Name "a" ⟨364,28,364,29⟩,.Name "b" ⟨364,31,364,32⟩,.Name "reason" ⟨364,34,364,40⟩],⟨364,15,364,41⟩,⟨364,8,364,41⟩⟩
def oW:(aT (met 24 5))[2]?.getD (.Pass default)=.Return (some fI.e) fI.yi:=by kernel_rfl
def oX:yw 563 oV 4 eU (aT (met 24 5)) (aG (met 24 5)) 578 578 449 ((aT (met 24 5)).take 2) ((aT (met 24 5)).drop 3) ((aT (met 24 5))[2]?.getD (.Pass default)) fI h9 iT:=
 ⟨gT,by decide+kernel,by rw[U1 rfl,],rfl,by kernel_rfl,by kernel_rfl,by kernel_rfl,by kernel_rfl,λP=>gV (gT P) (H6 P) rfl rfl rfl,gW,sf,uH,DM,H3,H9,rfl⟩
end
open Lean in
local macro_rules |`(tactic|walk_at "s")=>do
 let a<-[`yq,`I9,`yr,`Et,`Eu,`Je,`EA,`Jh].mapM λn=>`(tactic|((with_reducible refine'$(mkIdent n) ?h ?_ ?_);(case h=>assumption);rfl));let b<-[`ve,`MZ,`M0,`M3,`Gb,`M4,`M5,`M6,`cb,`fq,`qU,`wx,`wz,`EB,`EC,`Jk,`Jl,`Jm,`Jn,`Jo,`Jj].mapM λn=>`(tactic|with_reducible refine'$(mkIdent n) ?_)
 `(tactic|first
 |(refine'(?_:ins _ _ _ _ _ _);first
  |((with_reducible refine' qS ?h ?e ?x ?_ ?_ ?_ ?_);(case h=>assumption);(case e=>rfl);(case x=>rfl);decide;(intro;kernel_rfl);rfl)
  |((with_reducible refine' vf ?h ?e ?x ?_ ?_ ?_);(case h=>assumption);(case e=>rfl);(case x=>rfl);decide;(intro;kernel_rfl))
  |first $[|$((a++b).toArray):tactic]*)
 |(refine'(ej ?h ?_);(case h=>assumption)))
local macro_rules |`(tactic|walk_at "w")=>`(tactic|repeat walk_at "s")
noncomputable section
noncomputable abbrev MG:=List (Nat×Nat)
noncomputable def ay:MG->Nat->Nat
 |[],a=>a
 |p::r,a=>if ay r a=p.2 then p.1 else ay r a
noncomputable def up:MG->Nat->Nat
 |[],a=>a
 |p::r,a=>if a=p.2 then p.1 else up r a
noncomputable def lx:MG->Nat->List Nat
 |[],a=>[a]
 |p::r,a=>if a=p.1 then lx r p.1++lx r p.2 else lx r a
noncomputable def ry(n:Nat):MG->Prop
 |[]=>True
 |p::r=>p.1<p.2/\p.2<n/\ay r p.1=p.1/\ay r p.2=p.2/\ry n r
def Gj:ry n r->∀a,up r a<=a/\(up r a=a↔ay r a=a)/\ay r (up r a)=ay r a:=by
 induction r with
 |nil=>exactλ_ a=>⟨Va _,Iff.rfl,rfl⟩
 |cons p r C=>
  rw[λh a=>?_,<-i C h.2.2.2.2 a,(?_:(if a=p.2 then p.1 else up r a)<=a/\((if a=p.2 then p.1 else up r a)=a↔(if ay r a=p.2 then p.1 else ay r a)=a)/\(if ay r (if a=p.2 then p.1 else up r a)=p.2 then p.1 else ay r (if a=p.2 then p.1 else up r a))=if ay r a=p.2 then p.1 else ay r a),];by_cases q:a=p.2
  ·rw[Vb q,q,h.2.2.2.1,Vb rfl,h.2.2.1,U8 (Vt h.1)]
   exact⟨VP h.1,Iff.rfl,rfl⟩
  ·rw[U8 q,i.2.2]
   rw[⟨i.1,i.2.1.trans ?_,rfl⟩,];by_cases o:ay r a=p.2
   ·rw[Vb o]
    exact⟨λe=>U9 (e.symm.trans o) q,λe=>U9 (h.2.2.1.symm.trans (e.symm▸o)) (Vt h.1)⟩
   ·rw[U8 o]
def dR:ry n r->∀a,ay r (ay r a)=ay r a/\ay r a<=a:=by
 induction r with
 |nil=>exactλ_ a=>⟨rfl,Va _⟩
 |cons p r o=>
  rw[λh a=>?_,<-i o h.2.2.2.2 a,(?_:(if ay r (if ay r a=p.2 then p.1 else ay r a)=p.2 then p.1 else ay r (if ay r a=p.2 then p.1 else ay r a))=(if ay r a=p.2 then p.1 else ay r a)/\(if ay r a=p.2 then p.1 else ay r a)<=a),];by_cases q:ay r a=p.2
  ·rw[Vb q,h.2.2.1,U8 (Vt h.1)]
   exact⟨rfl,U3 (VP h.1) (q▸i.2)⟩
  ·rw[U8 q,i.1,U8 q]
   exact⟨rfl,i.2⟩
noncomputable def qY(r:MG)(a b:Nat):MG:=if ay r a=ay r b then r else(min (ay r a) (ay r b),max (ay r a) (ay r b))::r
def EF:ry n r->∀a,(lx r a).length<=2^r.length:=by
 induction r with
 |nil=>exactλ_ _=>V5 _
 |cons p r o=>
  rw[λh a=>?_,<-i o h.2.2.2.2,[WB,Nat.pow_succ,Nat.mul_two],(?_:(if a=p.1 then lx r p.1++lx r p.2 else lx r a).length<=_),];split
  ·rw[[U7],WM (i _) (i _),]
  ·rw[Nat.le_add_right_of_le (i _),]
noncomputable abbrev Tt(p:Nat×Nat):V:=.tup [vi p.1,vi p.2]
structure Tu(u uD ab lo me:Addr)(lo':Nat->Addr)(n:Nat)(r:MG)(σ:aq):Prop where
 o:σ ⟨10,0⟩=some (.obj u 374 uD [(9,.loc ab),(10,.loc lo),(11,.loc me)])
 ab:σ ⟨11,0⟩=some (.one ab (.list ((List.range n).map λi=>vi (up r i))))
 lo:σ ⟨12,0⟩=some (.one lo (.list ((List.range n).map λi=>.loc (lo' i))))
 me:σ ⟨13,0⟩=some (.one me (.list (r.reverse.map Tt)))
 lx:∀i,i<n->σ ⟨14,i⟩=some (.one (lo' i) (.list ((lx r i).map vi)))
 wf:ry n r
 sz:n<=12/\r.length<=12
def lZ(u:Addr)(n:Nat)(r:MG)(σ:aq):Prop:=∃C ab lo I o,Tu u C ab lo I o n r σ
def lZ.same(h:lZ u n r σ)(hs:Kept 10 20 σ σ'):lZ u n r σ':=by rw[rF h λI ab lo J o C=>?_,0 h,];rcases C with⟨a,b,c,d,e,f,g⟩;exact⟨I,ab,lo,J,o,⟨(hs _ rfl).trans a,(hs _ rfl).trans b,(hs _ rfl).trans c,(hs _ rfl).trans d,λi hi=>(hs ⟨14,i⟩ rfl).trans (e i hi),f,g⟩⟩
def fx(h:i<n):((List.range n).map f)[i]?=some (f i):=by simp[h]
def ck:((List.range n).map f).length=n:=by simp
def wC:((List.range n).map f).set i x=(List.range n).map λj=>if j=i then x else f j:=by
 rw[List.ext_getElem (by simp) λj o C=>?_,[List.getElem_set],];simp only[List.getElem_map,List.getElem_range];by_cases q:i=j
 ·subst q;rfl
 ·rw[U8 q,U8 (λe=>q e.symm)]
def tB:(List.range n).map f++[x]=(List.range (n+1)).map λj=>if j=n then x else f j:=by
 rw[List.range_succ,Vd];congr 1
 ·rw[Vy λj o=>?_,]
  rw[U8 (Vt (List.mem_range.mp o))]
 ·simp
def tC(h:m<=n):((List.range n).map f).take m=(List.range m).map f:=by rw[<-List.map_take,List.take_range,Wl h]
section
variable{g:G0}{k:Nat}{exc:XQ}{u:Addr}{n:Nat}{r:MG}{σ:aq}{Q:V->aq->Prop}
def qZ(t:lZ u n r σ)(v:a<n)(h:Q (vi (ay r a)) σ):GC g (k+1) exc σ (.raw (.ref 331)) [.loc u,vi a] Q:=by
 rw[a8 oJ rfl rfl ?_,6 t,λJ=>aB λw U=>rF J λB ab lo D y f=>?_,0 J,];rcases f with⟨E,b,z,A,l,i,d⟩;rw[U ?_,0 U w,2 iO,e4 (λI:Nat=>I) (λI=>[(0,.loc u),(1,vi I)]) (λI e=>e=σ/\I<n/\ay r I=ay r a) a ⟨rfl,rfl,trivial⟩ ⟨rfl,v,rfl⟩ λx e m=>dG m λj o p=>?_,0 m,3 j,<-C Gj i x,"w",bW b rfl (fx o) (k2 d.1 o) ?_,"w",MY (λq=>?_) λq=>?_,]
 ·rw["w",]
  rw[bW b rfl (fx o) (k2 d.1 o) ?_,"w",⟨rfl,up r x,WV C.1 q,⟨rfl,rfl,trivial⟩,rfl,VA C.1 o,C.2.2.trans p⟩,]
 ·rw["w",]
  show Q (vi x) _;rw[<-C.2.1.mp q,p];rw[h,]
def EG(b:lZ u n r σ)(h:Q (vi n) σ):GC g (k+1) exc σ (.raw (.ref 324)) [.loc u] Q:=by rw[a8 oH rfl rfl ?_,6 b,λo=>aB λd C=>rF o λl ab lo m e I=>?_,0 o,];rcases I with⟨p,J,f,i,a,j,U⟩;rw[C ?_,0 C d,2 iN,"w",aX (cv J rfl) ck (kl U.1) ?_,"w",h,]
def l6:ry m r->∀a,m<=a->lx r a=[a]/\up r a=a/\ay r a=a:=by
 induction r with
 |nil=>exactλ_ _ _=>⟨rfl,rfl,rfl⟩
 |cons p r I=>
  rw[λh a o=>?_,<-i I h.2.2.2.2 a o,];have C:¬a=p.2:=λe=>X5.mpr h.2.1 (e▸o);exact⟨(U8 λe:a=p.1=>X5.mpr (VK h.1 h.2.1) (e▸o)).trans i.1,(U8 C).trans i.2.1,(U8 (i.2.2.symm▸C)).trans i.2.2⟩
def ry.le(hm:n<=m):ry n r->ry m r:=by
 induction r with
 |nil=>exact id
 |cons p r o=>exactλh=>⟨h.1,Vg h.2.1 hm,h.2.2.1,h.2.2.2.1,o h.2.2.2.2⟩
def Jq(A:lZ u n r σ)(J:n<12)(h:∀σ',lZ u (n+1) r σ'->aA 10 20 σ σ'->Q (vi n) σ'):GC g (k+1) exc σ (.raw (.ref 317)) [.loc u] Q:=by
 rw[a8 oF rfl rfl ?_,6 A,λC=>aB λB U=>rF C λD ab lo E v a=>?_,0 C,];rcases a with⟨G,d,f,w,m,t,x⟩;rw[U ?_,0 U B,2 iM,dG (l6 t n (Va _)) λy z H=>?_,"w",aX (cv d rfl) ck (kt J)<|aW d rfl (by rw[[ck],kt J,]) λo=>?_,];rw[tB] at o⊢;rw["w",aX (cv f rfl) ck (kt J)<|nK ⟨14,n⟩ λb L=>?_,aW f rfl (by rw[[ck],kt J,]) λI=>?_,];rw[tB] at I⊢;rw["w",aX (cv o rfl) ck (OS J) ?_,"w",gm (U4 1 n) ?_,"w",h _ ⟨D,ab,lo,E,λj=>if j=n then b else v j,G,?_,?_,w,λi hi=>?_,t.le (VE n),J,x.2⟩ (((aA.refl.set rfl).set rfl).set rfl),]
 ·rw[o.trans ?_,]
  congr 4
  funext j
  by_cases q:j=n
  ·rw[Vb q,q,z]
  ·rw[U8 q]
 ·rw[I.trans ?_,]
  congr 4
  funext j
  by_cases q:j=n
  ·rw[Vb q,Vb q]
  ·rw[U8 q,U8 q]
 ·by_cases q:i=n
  ·subst q
   rw[[Vb rfl,y],L,]
  ·rw[U8 q]
   rw[Eq.trans ?_ (m i (ax [.lt af (.p aj aF),.ne af aj] (.lt af aj) (.s 2 (.l [1,1]) (.l [1,0,1])) tt [_,_] hi q)),aq.ag (σ:=σ.set ⟨11,0⟩ _) (λe=>q (by injection e with _ e;rw[e.symm,])),]
end
end
noncomputable section
section
variable{g:G0}{k:Nat}{exc:XQ}{u:Addr}{n:Nat}{r:MG}{σ:aq}{Q:V->aq->Prop}
def ir(h:ry n r)(o:r.length<=12)(a:Nat):(lx r a).length<=4096:=
 U3 (EF h a) (WJ (V5 _) o)
def vn(h:ry n r)(I:a<n)(J:b<n):ry n (qY r a b):=by
 unfold qY;split
 ·rw[h,]
 ·rw[4 q,]
  rw[<-o dR h a,<-C dR h b,⟨?_,?_,?_,?_,h⟩,]
  ·rw[5 (min _ _<max ..),ax [.ne af aj,.mn aC af aj,.mx bH af aj] (.lt aC bH) (.s 1 (.l [1,1,1,0,0,1]) (.l [1,1,0,1,1])) tt [_,_,_,_] q rfl rfl,]
  ·rw[5 (max _ _<n),ax [.lt af aj,.lt aC aj,.le bH af,.le iV aC,.mx (.v 5) bH iV] (.lt (.v 5) aj) (.s 5 (.l [1,1,1,0,1]) (.l [1,1,0,1,0,1])) tt [_,_,_,_,_,_] I J o.2 C.2 rfl,]
  ·show ay r (min (ay r a) (ay r b))=min (ay r a) (ay r b)
   rcases XM (ay r a) (ay r b) with q|q
   ·rw[[Wl q],o.1,]
   ·rw[[W7 q],C.1,]
  ·show ay r (max (ay r a) (ay r b))=max (ay r a) (ay r b)
   rcases XM (ay r a) (ay r b) with q|q
   ·rw[[WU q],C.1,]
   ·rw[[W5 q],o.1,]
def fT(h:i≠j):(σ.set ⟨k,i⟩ o) ⟨k,j⟩=σ ⟨k,j⟩:=aq.ag λe=>h (by rw[7 e,])
def EH(M:lZ u n r σ)(A:a<n)(B:b<n)(N:r.length<12)(h0:ay r a=ay r b->Q .none σ)
 (h:ay r a≠ay r b->∀σ',lZ u n (qY r a b) σ'->aA 10 20 σ σ'->Q (.tup [vi (min (ay r a) (ay r b)),vi (max (ay r a) (ay r b))]) σ'):GC g (k+2) exc σ (.raw (.ref 338)) [.loc u,vi a,vi b] Q:=by
 rw[a8 nz rfl rfl ?_,<-t M,6 M,λv=>aB λP w=>rF v λR ab lo S f D=>?_,0 v,];rcases D with⟨W,E,m,G,I,J,C⟩;rw[w ?_,0 w P,<-X dR J a,<-Y dR J b,2 hH,"w",qZ t A ?_,"w",qZ t B<|lW (kr ?_),"w",];by_cases q:ay r a=ay r b
 ·rw[aQ (λ_=>?_) (λe=>U9 (ax [.eq af aj,.mn aC af aj,.mx bH af aj] (.eq aC bH) (.s 0 (.s 2 (.s 3 (.l [1,1,1]) (.l [1,1,1,0,1])) (.s 3 (.l [1,1,1,1]) (.l [1,1,1]))) (.l [1,0,0,1,0,1])) tt [_,_,_,_] q rfl rfl) e),]
  rw["w",h0 q,]
 ·have x:=vn J A B
  have H:=h q;unfold qY at x H;rw[U8 q] at x H;rw[<-U x.1,<-o x.2.1,0 h h0 q X Y A B,];generalize min (ay r a) (ay r b)=p at*;generalize max (ay r a) (ay r b)=y at*;rw[aQ (λe=>U9 e (Vt U)) (λ_=>?_),"w",vg E rfl (by rw[[ck],o,]) (by rw[[ck],kl C.1,]) λd=>?_,];rw[wC] at d⊢;rw["w",bW m rfl (fx (VK U o)) (ax [.le af gD,.lt aj af,.lt aC aj] (.lt aC (.k 1000000)) (.l [1,1,1,1]) tt [_,_,_] C.1 o U) ?_,<-hk I p (VK U o),<-hg I y o,"w",bW m rfl (fx o) (k2 C.1 o)<|nN hk rfl (cv hg rfl) (by rw[[U2,U2],U3 (WM (ir J C.2 p) (ir J C.2 y)) (by decide),]) λL=>?_,"w",aW G rfl (by rw[[U2,V2],kt N,]) λz=>?_,"w",H _ ⟨R,ab,lo,S,f,W,?_,m,?_,λi hi=>?_,x,C.1,Xz N⟩ (((aA.refl.set rfl).set rfl).set rfl),]
  ·rw[d.trans ?_,]
   congr 4
   funext j
   show _=vi (if j=y then p else up r j);split<;>rfl
  ·rw[z.trans ?_,]
   rw[VZ,Vd];rfl
  ·by_cases q:i=p
   ·subst q
    rw[L.trans ?_,];rw[<-Vd];show _=some (GO.one (f i) (.list ((if i=i then lx r i++lx r y else lx r i).map vi)));rw[Vb rfl]
   ·rw[(fT (σ:=σ.set ⟨11,0⟩ _) λe=>q e.symm).trans ((I i hi).trans ?_),]
    show _=some (GO.one (f i) (.list ((if i=p then lx r p++lx r y else lx r i).map vi)));rw[U8 q]
def Jr{u:Addr}{r0:MG}(h:∀σ',lZ u n r0 σ'->aA 10 20 σ σ'->Q .none σ'){x:MG}(D:lZ u n (x++r0) σ):GC g (k+1) exc σ (.raw (.ref 364)) [.loc u,vi r0.length] Q:=by
 rw[a8 oL rfl rfl ?_,2 iP,e4 (λC:MG=>C.length) (λ_=>[(0,.loc u),(1,vi r0.length)]) (λC σ'=>lZ u n (C++r0) σ'/\aA 10 20 σ σ') x ⟨rfl,rfl,trivial⟩ ⟨D,.refl⟩ λC σ' P=>aV P λD R=>?_,0 P,<-E D,6 D,λy=>aB λG U=>rF y λX ab lo Y z H=>?_,0 y,];rcases H with⟨ho,L,d,v,a,f,o⟩;rw[U ?_,0 U G,"w",aX (cv v rfl) (by rw[U2,V2]) (U3 o.2 (by decide)) ?_,"w",qV ?_,"w",]
 induction C using List.casesOn with
 |nil=>
  rw[oQ (λe=>U9 e (by rw[[Wg],VB _,])) λ_=>?_,"w",];exact h σ' E R
 |cons p C=>
  rw[aB λG U=>?_,];obtain⟨b,I⟩:=p;rw[U ?_,0 U G,];have w:b<I:=f.1;have m:I<n:=f.2.1;have h3:ay (C++r0) I=I:=f.2.2.2.1;have J:ry n (C++r0):=f.2.2.2.2;rw[oQ (λ_=>?_) λe=>U9 (by simp;rw[ax [] (.lt af (.p (.p aj af) aF)) (.l [1]) tt [_,_],]) e,];rw[XW,VZ,Vd] at v;rw["w",dz v rfl (by rw[[U2,V2],U3 (V9 o.2) (by decide),]) λA=>?_,"w",vg L rfl (by rw[[ck],m,]) (by rw[[ck],kl o.1,]) λt=>?_,];rw[wC] at t⊢;have M:=a b (VK w m);have S:=a I m;have ek:lx ((b,I)::C++r0) b=lx (C++r0) b++lx (C++r0) I:=Vb rfl;have eg:lx ((b,I)::C++r0) I=lx (C++r0) I:=U8 (WO w);rw[ek] at M;rw[eg] at S;rw[<-W ir J (V9 o.2) b,<-N ir J (V9 o.2) I,"w",bW d rfl (fx (VK w m)) (ax [.le af gD,.lt aj aC,.lt aC af] (.lt aj (.k 1000000)) (.l [1,1,1,1]) tt [_,_,_] o.1 w m) ?_,"w",bW d rfl (fx (VK w m)) (ax [.le af gD,.lt aj aC,.lt aC af] (.lt aj (.k 1000000)) (.l [1,1,1,1]) tt [_,_,_] o.1 w m)<|aX (cv M rfl) (by rw[U2,U7]) (U3 (WM W N) (by decide)) ?_,"w",bW d rfl (fx m) (k2 o.1 m)<|aX (cv S rfl) (U2 ..) (kl N) ?_,gm (U4 ..) ?_,[Nat.add_sub_cancel],"w",vh M rfl (by rw[[U2,U7],ax [] (.le af (.p af aj)) (.l [1]) tt [_,_],]) (by rw[[U2,U7],ax [.le af (.k 4096),.le aj (.k 4096)] (.le (.p af aj) aE) (.l [1,1,1]) tt [_,_] W N,]) λB=>?_,];rw[Vd,List.take_left' (U2 ..)] at B⊢;rw[⟨rfl,C,Vs _,⟨rfl,rfl,trivial⟩,⟨X,ab,lo,Y,z,ho,?_,d,A,λi hi=>?_,J,o.1,V9 o.2⟩,((R.set rfl).set rfl).set rfl⟩,]
  ·rw[t.trans ?_,]
   congr 4
   funext j
   by_cases q:j=I
   ·rw[Vb q,q,(Gj J I).2.1.mpr h3]
   ·rw[U8 q]
    show vi (if j=I then b else up (C++r0) j)=_;rw[U8 q]
  ·by_cases q:i=b
   ·rw[8 q,B,]
   ·rw[(fT (σ:=(σ'.set ⟨13,0⟩ _).set ⟨11,0⟩ _) λe=>q e.symm).trans ((a i hi).trans ?_),]
    show some (GO.one (z i) (.list ((if i=b then lx (C++r0) b++lx (C++r0) I else lx (C++r0) i).map vi)))=_;rw[U8 q]
def yx(i:lZ u n r σ)(j:a<n)(m:lx r (ay r a)=[a])(h:Q (.lst [vi a]) σ):GC g (k+2) exc σ (.raw (.ref 345)) [.loc u,vi a] Q:=by rw[a8 kj rfl rfl ?_,<-U i,6 i,λo=>aB λp C=>rF o λx ab lo y q I=>?_,0 o,];rcases I with⟨z,t,b,v,J,d,e⟩;rw[C ?_,0 C p,<-f VA (dR d a).2 j,<-l J _ f,];rw[m] at l;rw[2 fS,"w",qZ U j<|bW b rfl (fx f) (k2 e.1 f) ?_,yt (cv l rfl) (U4 ..) λA w _=>?_,[List.perm_singleton.mp w],"w",h,]
def Js(x:lZ u (m+1) r σ)(y:ry m r)(h:∀σ',lZ u m r σ'->aA 10 20 σ σ'->Q .none σ'):GC g (k+3) exc σ (.raw (.ref 371)) [.loc u,vi m] Q:=by rw[a8 qL rfl rfl ?_,<-j x,6 x,λC=>aB λz U=>rF C λA ab lo B q a=>?_,0 C,];rcases a with⟨D,d,t,v,f,E,o⟩;rw[U ?_,0 U z,dG (l6 y m (Va _)) λG _ H=>?_,2 jD,"w",qV ?_,"w",aX (cv d rfl) ck (kn o.1)<|Bk (vm (VE m) (ax [.le (.p af aF) gD] (.lt (.p af aF) (.k 1000000)) (.l [1,1]) tt [_] o.1) ?_),[Nat.add_sub_cancel_left],5 (ef _ _ [vi (m+0)] ..),bP [(0,.loc u),(1,vi m)] ⟨rfl,rfl,trivial⟩ (bX ⟨rfl,?_⟩),"w",yx j (Vs m) (by rw[Nat.add_zero,H,G]) ?_,"w",jG (Bm (.of rfl) (.of rfl) rfl λb w=>?_),<-w VC.mpr λe=>w.mp e rfl,8 w,"w",w_ite (λe=>nomatch e) λ_=>⟨rfl,d2 ?_⟩,"w",vh d rfl (by rw[[ck],Vx ..,]) (by rw[[ck],kn o.1,]) λI=>?_,];rw[tC (VE m)] at I⊢;rw["w",vh t rfl (by rw[[ck],Vx ..,]) (by rw[[ck],kn o.1,]) λJ=>?_,];rw[tC (VE m)] at J⊢;rw[h _ ⟨A,ab,lo,B,q,D,I,J,v,λi hi=>f i (Vi hi),y,V9 o.1,o.2⟩ ((aA.refl.set rfl).set rfl),]
end
end
noncomputable section
noncomputable abbrev Nd:=Str×List Nat
noncomputable abbrev aP(nd:Nd):V:=.tup (.str nd.1::nd.2.map vi)
noncomputable def dm(nd:Nd):List Atom:=.s nd.1::nd.2.map λ(k:Nat)=>Atom.i k
def d4:aP nd=kT (dm nd):=by rw[2 kT dm,[VI,VD],];rfl
def yy{l r:List Nat}(h:(l.map λ(k:Nat)=>Atom.i k)=(r.map λ(k:Nat)=>Atom.i k)):l=r:=
 (List.map_inj_right λ_ _ e=>WL (Atom.i.inj e)).mp h
def fU{a b:Nd}(h:dm a=dm b):a=b:=by obtain⟨x,l⟩:=a;obtain⟨y,r⟩:=b;unfold dm at h;injection h with o C;injection o with o;have:l=r:=yy C;rw[show x=y from o,this]
noncomputable def oY(ns:List Nd):List (List Atom×V):=ns.zipIdx.map λp=>(dm p.1,vi p.2)
def pF:oY (ns++[nd])=oY ns++[(dm nd,vi ns.length)]:=by rw[2 oY,[List.zipIdx_append,Vd],];simp
def tD:(oY ns).length=ns.length:=by simp[oY]
def jK(h:l≠[]):∃r x,l=r++[x]:=⟨_,_,(List.dropLast_concat_getLast h).symm⟩
def pG:∀{ns:List Nd},nd∉ns->aO (oY ns) (dm nd)=none:=by
 intro ns
 suffices h:∀(ns:List Nd) (j:Nat),nd∉ns->aO ((ns.zipIdx j).map λp=>(dm p.1,vi p.2)) (dm nd)=none from h ns 0
 intro ns
 induction ns with
 |nil=>intros;rfl
 |cons a ns o=>
  intro j h;rw[Vc,not_or] at h;rw[[XU,VI,bq,U8 λe=>h.1 (fU e).symm],o _ h.2,]
def pH:∀{ns:List Nd} {i:Nat},ns.Nodup->ns[i]?=some nd->aO (oY ns) (dm nd)=some (vi i):=by
 intro ns i
 suffices h:∀(ns:List Nd) (i j:Nat),ns.Nodup->ns[i]?=some nd->aO ((ns.zipIdx j).map λp=>(dm p.1,vi p.2)) (dm nd)=some (vi (j+i)) fromλa b=>by have:=h ns i 0 a b;rwa [Wk] at this
 intro ns
 induction ns with
 |nil=>intro i j _ h;exact Vb ‹_›
 |cons a ns I=>
  intro i j o h;rw[VX] at o;rw[XU,VI,bq]
  induction i using Nat.casesOn with
  |zero=>injection h with C;obtain rfl:=C;rw[Vb rfl];rfl
  |succ i=>
   rw[<-h h,[U8 λe=>o.1 (by rw[[fU (a:=a) e],Xg h,]),I _ _ o.2 h,W'],];rfl
def Bq(h:(ns++[nd]).Nodup):dp (oY (ns++[nd])) (dm nd)=oY ns:=by
 rw[[pF],2 dp,[List.filter_append,List.filter_eq_self.mpr],]
 ·simp
 ·intro x I
  rw[ah (Vn.mp I) λp o C=>?_,3 C,];have o:p.1∈ns:=by obtain⟨a,i⟩:=p;exact(List.mem_zipIdx o).2.2▸WH _
  rw[Wu] at h;simp only[WN];exactλe=>h.2.2 p.1 o nd (Vr _) (fU e)
def wF(ns:List Nd):Prop:=∀(i:Nat) (o:Nd),ns[i]?=some o->(∀k∈o.2,k<i)/\o.2.length<=2
structure Nb(b bD no nu we de:Addr)(ws ds:List Nat)(ns:List Nd)(σ:aq):Prop where
 o:σ ⟨0,0⟩=some (.obj b 292 bD [(5,.loc no),(6,.loc nu),(7,.loc we),(8,.loc de)])
 no:σ ⟨1,0⟩=some (.one no (.list (ns.map aP)))
 nu:σ ⟨2,0⟩=some (.one nu (.dT (oY ns)))
 we:σ ⟨3,0⟩=some (.one we (.list (ws.map vi)))
 de:σ ⟨4,0⟩=some (.one de (.list (ds.map vi)))
 wl:ws.length=ns.length/\ds.length=ns.length
 wb:∀i x,ws[i]?=some x->x<=3^i
 wf:wF ns
 nd:ns.Nodup
 sz:ns.length<=12
def cZ(b:Addr)(ns:List Nd)(σ:aq):Prop:=∃o no C I J U a,Nb b o no C I J U a ns σ
def cZ.same(h:cZ b ns σ)(hs:Kept 0 10 σ σ'):cZ b ns σ':=by rw[n0 h λI no J U a d e o=>?_,0 h,];rcases o with⟨f,i,j,k,l,m,n,p,q,C⟩;exact⟨I,no,J,U,a,d,e,⟨(hs _ rfl).trans f,(hs _ rfl).trans i,(hs _ rfl).trans j,(hs _ rfl).trans k,(hs _ rfl).trans l,m,n,p,q,C⟩⟩
def cm{o β:Type}{f:o->β}{l:List o}{i:Nat}{x:o}(h:l[i]?=some x):(l.map f)[i]?=some (f x):=by rw[WD,h];rfl
def aS{o:Type}{l:List o}{i:Nat}{x:o}(h:l[i]?=some x):i<l.length:=(VH.mp h).1
section
variable{g:G0}{k:Nat}{exc:XQ}{b:Addr}{ns:List Nd}{σ:aq}{Q:V->aq->Prop}{n:Nat}{nd:Nd}
def Jt(a:cZ b ns σ)(h:Q (vi ns.length) σ):GC g (k+1) exc σ (.raw (.ref 211)) [.loc b] Q:=by rw[a8 sN rfl rfl ?_,6 a,λo=>aB λd C=>n0 o λq no r t u v w I=>?_,0 o,];rcases I with⟨x,J,e,f,i,j,l,m,p,U⟩;rw[C ?_,0 C d,2 k7,"w",aX (cv J rfl) (U2 ..) (kl U) ?_,"w",h,]
def Ju(d:cZ b ns σ)(a:ns[n]?=some nd)(h:Q (.str nd.1) σ):GC g (k+1) exc σ (.raw (.ref 249)) [.loc b,vi n] Q:=by rw[a8 yo rfl rfl ?_,6 d,λo=>aB λe C=>n0 o λr no t u v w x I=>?_,0 o,];rcases I with⟨y,J,f,i,j,l,m,p,q,U⟩;rw[C ?_,0 C e,<-this aS a,2 pC,"w",bW J rfl (cm a) (k2 U this) ?_,"w",h,]
def ky(e:cZ b ns σ)(J:ns[n]?=some nd)(h:Q (.tup (nd.2.map vi)) σ):GC g (k+1) exc σ (.raw (.ref 256)) [.loc b,vi n] Q:=by rw[a8 sR rfl rfl ?_,6 e,λo=>aB λf C=>n0 o λt no u v w x y I=>?_,0 o,];rcases I with⟨z,U,i,j,l,m,p,a,q,d⟩;rw[C ?_,0 C f,<-this aS J,<-r (a n nd J).2,2 k9,"w",bW U rfl (cm J) (k2 d this) ?_,"w",hM (by rw[[U2],kl r,]) ?_,"w",h,]
def Br(j:cZ b ns σ)(e:n<ns.length)(h:∀x,x<=3^n->Q (vi x) σ):GC g (k+1) exc σ (.raw (.ref 275)) [.loc b,vi n] Q:=by rw[a8 oA rfl rfl ?_,6 j,λo=>aB λm C=>n0 o λv no w y z f A I=>?_,0 o,];rcases I with⟨B,p,q,J,r,U,a,t,u,d⟩;rw[C ?_,0 C m,];have i:f[n]?=some (f[n]'(ax [.lt af aj,.eq aC aj] (.lt af aC) (.l [1,1,0,1]) tt [_,_,_] e U.1)):=U' _;rw[2 iK,"w",bW J rfl (cm i) (ax [.lt af aj,.le aj gD] (.lt af (.k 1000000)) (.l [1,1,1]) tt [_,_] e d) ?_,"w",h _ (a n _ i),]
structure lQ(x:Str):Prop where
 sg:signs x=[.str x]
 asc:x.cps.all (· <128)=true
 ne:x≠""
 sp:Txt.isspace x=false
 br:Txt.contains "()[]{},:" x=false
 Tv:(Txt.charAt x 0).isSome=true
 q:Txt.item x 0≠"?"
def EI(o:lQ x)(h:Q (.bool true) σ):GC g (k+1) exc σ (.raw (.ref 185)) [.str x] Q:=by rw[a8 Ej rfl rfl ?_,2 wk,"w",Er (λe=>U9 o.ne (by simpa using e)) λ_=>cj [] rfl trivial (aY trivial (.str o.asc) ?_),[o.sg],dg (bG ⟨rfl,vk (yv ?_)⟩),[o.sp],"w",Bi (λe=>nomatch e) λ_=>?_,"w",w_inS ?_,[o.br],];refine'(?_:Cm ..);rw[nM (λe=>nomatch e) λ_=>⟨trivial,eJ ?_⟩,iq (tq (.of rfl) (.of rfl) rfl λb C=>?_),[C.mpr rfl],"w",h,]
def yz(o:lQ x)(h:Q .none σ):GC g (k+2) exc σ (.raw (.ref 223)) [.loc b,.str x] Q:=by rw[a8 nv rfl rfl ?_,2 g9,"w",EI o ?_,"w",Bi (λe=>nomatch e) λ_=>?_,"w",lY rfl o.Tv ?_,"w",aQ (λe=>U9 e o.q) λ_=>h,]
end
end
noncomputable section
noncomputable def oZ(ns:List Nd)(nd:Nd):Nat:=ns.findIdx (λx=>decide (x=nd))
noncomputable def Bs(ns:List Nd)(nd:Nd):List Nd:=if nd∈ns then ns else ns++[nd]
def jL:∀{ns:List Nd},nd∈ns->ns[oZ ns nd]?=some nd:=λ{ns} h=>by have o:oZ ns nd<ns.length:=List.findIdx_lt_length_of_exists ⟨nd,h,Wo rfl⟩;rw[<-C List.findIdx_getElem (w:=o),[U' o],Ve some (Wi C),]
def l7(h:nd∉ns):oZ ns nd=ns.length:=by rw[2 oZ,[List.findIdx_eq_length],];intro x o;rw[[decide_eq_false_iff_not],λe=>h (e▸o),]
def Jv(ks:List Nat)(h:∀k∈ks,f k<=B):(ks.map f).sum<=ks.length*B:=by
 induction ks with
 |nil=>exact Vj _
 |cons k ks o=>rw[VI,Yl,WB,Nat.succ_mul,Yi];rw[WM (o λk C=>h k (.tail _ C)) (h k (.head _)),]
def yA{ws ks:List Nat}(I:∀i x,ws[i]?=some x->x<=3^i)(C:∀k∈ks,k<ws.length)(J:ks.length<=2):1+(ks.map λk=>ws.getD k 0).sum<=3^ws.length:=by
 have U:∀k∈ks,ws.getD k 0<=3^k:=λk o=>I k _ (by rw[Vf,U' (C k o)];rfl);generalize ws.length=n at*
 induction n using Nat.casesOn with
 |zero=>rw[List.eq_nil_iff_forall_not_mem.mpr λk o=>U9 (C k o) (VT _)];exact Va 1
 |succ m=>
  rw[[Nat.pow_succ],ax [.le af (.m 2 aj),.lt gp aj] (.le (.p aF af) (.r aj 3)) (.l [1,1,1]) tt [_,_] (U3 (Jv ks λk o=>U3 (U k o) (WJ (by decide) (Wh (C k o)))) (Nat.mul_le_mul_right _ J)) (Nat.pow_pos (by decide)),]
def tE(h:(l++[x])[i]?=some y):l[i]?=some y\/(i=l.length/\y=x):=by
 rcases Nat.lt_trichotomy i l.length with q|q|q
 ·rw[VQ q] at h;rw[.inl h,]
 ·subst q;rw[WR (Va _),Yj] at h;rw[1 h,.inr ⟨rfl,rfl⟩,]
 ·rw[Xu (by simp;rw[ax [.lt af aj] (.le (.p af aF) aj) (.l [1,1]) tt [_,_] q,])] at h;rw[7 h,]
section
variable{g:G0}{k:Nat}{exc:XQ}{b:Addr}{ns:List Nd}{σ:aq}{Q:V->aq->Prop}{n:Nat}
def Nc{σ0:aq}{F:Fr}{K:KS}{s:List V}{m:GM}{a:Addr}{t:Tg}{J p j C:Nat}{b r:Addr}{fs:List (Nat×V)}{x0:V}{ks ws:List Nat}(U:¬j=J)(o:lk m J=some (.loc b))(I:lk m p=some (.tup (x0::ks.map vi)))
 (u:σ0 ⟨0,0⟩=some (.obj b 292 r fs)) (v:σ ⟨0,0⟩=σ0 ⟨0,0⟩) (w:lk fs C=some (.loc a)) (hi:C<AN.length) (z:∀P,pY (KR P) 292 (an C)=true) (h:σ0 t=some (.one a (.list (ws.map vi)))) (e:σ t=σ0 t) (A:ws.length<=12) (d:∀k∈ks,k<ws.length) (f:ks.length<=2)
 (k:K (.lst ((ks.map λk=>ws.getD k 0).map vi)::s) m σ):
 comp false [J] (aa p<|au (vi 1)<|au .none<|au .none<|sq fL<|sq sub<|ao) (aN j<|ao) (au (.bool true)<|ao) (aa J<|a9 C<|aa j<|sq sub<|ao) F K s m σ:=by
 rw[cj [(J,.loc b)] rfl ⟨o,trivial⟩<|ej I (hM (by rw[[U2],kl f,]) ?_),aY ⟨o,trivial⟩ (.tup _)<|bJ (y:=λk=>vi (ws.getD k 0)) ks [] (λx q B P D E=>?_) (by simp;rw[kl f,]) (by rw[Wg];rw[VD] at k;rw[k,]),bG ⟨rfl,nM (λ_=>?_) λe=>nomatch e⟩,ej (by rw[[cQ U],d9,]) (qS u v w hi z rfl (ej d9 ?_)),bW h e (cm (l:=ws) (i:=x) (x:=ws.getD x 0) (by simp[d x q])) (by have:=d x q;exact k2 A this)<|⟨⟨by rw[[cQ U],d9,],trivial⟩,D,E⟩,]
def Jw{x:Str}{ks:List Nat}(hu:cZ b ns σ)(R:lQ x)(t:∀i∈ks,i<ns.length)(U:ks.length<=2)(C:ns.length<12)
 (h:∀σ',cZ b (Bs ns (x,ks)) σ'->aA 0 10 σ σ'->Q (vi (oZ ns (x,ks))) σ'):GC g (k+3) exc σ (.raw (.ref 216)) [.loc b,.str x,.tup (ks.map vi)] Q:=by
 rw[bp sP rfl rfl rfl ?_,<-S hu,6 hu,λu=>aB λR_ v=>n0 u λbD no nu we de ws ds W=>?_,0 u,];rcases W with⟨X,d,p,w,z,o,A,Y,B,jy⟩;rw[v ?_,0 v R_,2 k8,"w",Bj (ft (by rw[[U2],kl U,]) ?_),"w",M' (d4 (nd:=(x,ks))) p rfl ?_,];by_cases hm:(x,ks)∈ns
 ·have hp:=jL hm
  rw[<-hg pH B hp,[hg],"w",w_ite (λ_=>?_) (λe=>nomatch e),"w",Ew (d4 (nd:=(x,ks))) p rfl hg ?_,"w",h σ ?_ .refl,2 Bs,[Vb hm],S,]
 ·rw[pG hm]
  rw["w",w_ite (λe=>nomatch e) (λ_=>?_),"w",yz R ?_,"w",hM (by rw[[U2],kl U,]) (vl ?_),e5 (f:=vi) (m0:=[(3,aP (x,ks)),(0,.loc b),(1,.str x),(2,.tup (ks.map vi))]) (λ_ r σ'=>σ'=σ/\∀i∈r,i<ns.length) (λ_ i r σ' P N hP=>?_) (λ_ m σ' D N=>?_) _ [] _ _ ⟨rfl,rfl,rfl,rfl,trivial⟩ ⟨rfl,t⟩,]
  ·rw[aV N λxK E=>?_,0 N,3 xK,]
   rw[bX ⟨rfl,?_⟩,"w",yp (λ_=>?_) (λe=>U9 (Vj _) e),"w",aX (cv d rfl) (U2 ..) (kt C) ?_,"w",en (λe=>U9 (E i (.head _)) e) λ_=>⟨rfl,hP _ _ ⟨rfl,rfl,rfl,rfl,trivial⟩ ⟨rfl,λj hj=>E j (.tail _ hj)⟩⟩,]
  ·rw[3 (N.1),]
   rw[<-l0 cR D 0 _ rfl,<-l3 cR D 3 _ rfl,"w",aX (cv d rfl) (U2 ..) (kt C) ?_,"w",Ey (d4 (nd:=(x,ks))) p rfl (by rw[[tD],kt C,]) λI=>?_,];rw[dy (pG hm),<-pF] at I⊢;rw["w",aW d rfl (by rw[[U2],kt C,]) λJ=>?_,"w",Nc (by decide) l0 l3 X rfl rfl (U1 rfl) (λP=>by kernel_rfl) w rfl (ax [.lt af gD,.eq aj af] (.le aj gD) (.l [1,1,1]) tt [_,_] C o.1) (λi hi=>o.1▸t i hi) U<|I' bT ?_,"w",aW w rfl (by rw[[U2],ax [.lt af gD,.eq aj af] (.le aj aE) (.l [1,1,1]) tt [_,_] C o.1,]) λG=>?_,"w","w",Nc (by decide) l0 l3 X rfl rfl (U1 rfl) (λP=>by kernel_rfl) z rfl (ax [.lt af gD,.eq aj af] (.le aj gD) (.l [1,1,1]) tt [_,_] C o.2) (λi hi=>o.2▸t i hi) U ?_,"w",jG (ko bT bT (by simp;rw[kl U,]) (.inl ?_)),];rw[show[vi 0]=[0].map vi from rfl,<-Vd];rw[Ja bT (by simp) λM=>?_,"w",aW z rfl (by rw[[U2],ax [.lt af gD,.eq aj af] (.le aj aE) (.l [1,1,1]) tt [_,_] C o.2,]) λH=>?_,"w","w",aX (n:=ns.length+1) (cv J rfl) (by rw[U7,U2];rfl) (OS C) ?_,"w",gm (U4 1 _) ?_,"w",<-e l7 hm,5 (Q (vi (ns.length+1-1)) _),];rw[<-e];rw[h _ ⟨bD,no,nu,we,de,ws++[1+(ks.map λk=>ws.getD k 0).sum],ds++[1+M],?_⟩ (((((aA.refl.set rfl).set rfl).set rfl).set rfl)),2 Bs,[U8 hm],⟨X,?_,I,?_,?_,by simp[o.1,o.2],λi y hy=>?_,λi L hi=>?_,?_,by simp;rw[kt C,]⟩,]
   ·rw[[Vd],J,]
   ·rw[[Vd],G,]
   ·rw[[Vd],H,]
   ·rcases tE hy with q|⟨rfl,rfl⟩
    ·rw[A i y q,]
    ·rw[yA A (λi hi=>o.1▸t i hi) U,]
   ·rcases tE hi with q|⟨rfl,rfl⟩
    ·rw[Y i L q,]
    ·exact⟨t,U⟩
   ·rw[Wu]
    rw[⟨B,VY ..,λa ha b' hb e=>hm ?_⟩,];rw[U5.mp hb] at e;rw[e▸ha,]
def Nf(r:cZ b (ns++[nd]) σ)(h:∀σ',cZ b ns σ'->aA 0 10 σ σ'->Q .none σ'):GC g (k+1) exc σ (.raw (.ref 242)) [.loc b,vi ns.length] Q:=by
 rw[a8 uY rfl rfl ?_,2 nx,e4 (λz:Bool=>bif z then 0 else 1) (λ_=>[(0,.loc b),(1,vi ns.length)]) (λz σ'=>aA 0 10 σ σ'/\cZ b (bif z then ns else ns++[nd]) σ') false ⟨rfl,rfl,trivial⟩ ⟨.refl,r⟩ λz σ' v=>?_,6 v,λx=>aV x λhs v=>?_,0 x,0 r,]
 induction z
 ·have r:cZ b (ns++[nd]) σ':=v
  rw[0 v,6 r,λa=>aB λX I=>n0 a λbD no nu we de S W A=>?_,0 a,];rcases A with⟨ho,J,B,t,u,C,D,E,U,o⟩;rw[I ?_,0 I X,dh (jK (l:=S) (by rintro rfl;simp at C)) λS w G=>?_,3 G,dh (jK (l:=W) (by rintro rfl;simp at C)) λW d H=>?_,3 H,];rw[Vd] at J t u;rw[U7,U7,U7] at C;rw[U7] at o;rw[<-f XT C.1,<-j XT C.2,"w",aX (n:=ns.length+1) (cv J rfl) (by rw[U7,U2];rfl) (U3 o (U4 ..)) ?_,"w",qV ?_,"w",oQ (λ_=>?_) λe=>U9 (Vs _) e,"w",dz J rfl (by rw[[U2],ax [.le (.p af aj) gD] (.le af aE) (.l [1,1]) tt [_,_] o,]) λL=>Ji (d4 (nd:=nd)) B rfl (pH (i:=ns.length) U (WK ..)) (by rw[[tD,U7],U3 o (U4 ..),]) λm=>?_,];rw[Bq U] at m⊢;rw["w",dz t rfl (by rw[[U2],ax [.le (.p af aj) gD,.eq aC af] (.le aC aE) (.l [1,1,1]) tt [_,_,_] o f,]) λM=>?_,"w",dz u rfl (by rw[[U2],ax [.le (.p af aj) gD,.eq aC af] (.le aC aE) (.l [1,1,1]) tt [_,_,_] o j,]) λN=>?_,"w",⟨rfl,true,Nat.one_pos,⟨rfl,rfl,trivial⟩,(((hs.set rfl).set rfl).set rfl).set rfl,⟨bD,no,nu,we,de,S,W,⟨ho,L,m,M,N,⟨f,j⟩,λi y P=>D i y ?_,λi y P=>E i y ?_,(Wu.mp U).1,by rw[ax [.le (.p af aj) gD] (.le af gD) (.l [1,1]) tt [_,_] o,]⟩⟩⟩,]
  ·rw[[VQ (aS P)],P,]
  ·rw[[VQ (aS P)],P,]
 ·have r:=v
  rw[0 v,<-Y r,6 r,λq=>aB λX I=>n0 q λbD no nu we de S W R=>?_,0 q,];rcases R with⟨ho,J,B,t,u,C,D,E,U,o⟩;rw[I ?_,0 I X,"w",aX (n:=ns.length) (cv J rfl) (U2 ..) (U3 o (U4 ..)) ?_,"w",qV ?_,"w",oQ (λe=>U9 e (VB _)) λ_=>h _ Y hs,]
end
end
noncomputable section
noncomputable def EJ(ns:List Nd):Nat->Nat->V
 |0,_=>.none
 |f+1,n=>match ns[n]?with
  |some nd=>.tup (.str nd.1::nd.2.map (EJ ns f))
  |none=>.none
noncomputable def tm(ns:List Nd)(n:Nat):V:=EJ ns (n+1) n
def Jx(C:wF ns):∀{f n:Nat},n<f->EJ ns f n=tm ns n
 |f+1,n,h=>by
  have key:∀m f f':Nat,m<f->m<f'->EJ ns f m=EJ ns f' m:=by
   intro m
   induction m using Nat.strongRecOn with
   |_ m I=>
    intro f f' h o
    induction f using Nat.casesOn with
    |zero=>exact U9 h (VT _)
    |succ f=>
     induction f' using Nat.casesOn with
     |zero=>exact U9 o (VT _)
     |succ f'=>
      unfold EJ;cases e:ns[m]?with
      |none=>rfl
      |some J=>
       show V.tup _=V.tup _;congr 2;rw[Vy λk U=>?_,<-this (C m J e).1 k U,I k this f f' (ax [.lt af (.p aj aF),.lt aC af] (.lt aC aj) (.l [1,1,1]) tt [_,_,_] h this) (ax [.lt af (.p aj aF),.lt aC af] (.lt aC aj) (.l [1,1,1]) tt [_,_,_] o this),]
  rw[key n _ _ h (Vs n),]
def nP(o:wF ns)(e:ns[n]?=some nd):tm ns n=.tup (.str nd.1::nd.2.map (tm ns)):=by
 have:tm ns n=.tup (.str nd.1::nd.2.map (EJ ns n)):=by rw[5 (EJ ns (n+1) n=_),2 EJ,[e],]
 rw[this];congr 2;rw[Vy λk C=>Jx o ((o n nd e).1 k C),]
noncomputable abbrev Jy(ks:List Nat):List (Atom×V):=ks.map λ(k:Nat)=>(Atom.i k,V.bool true)
noncomputable abbrev Jz(ns:List Nd)(ks:List Nat):List (Atom×V):=ks.map λ(k:Nat)=>(Atom.i k,tm ns k)
def aZ{f:Nat->V}{k:Nat}{ks:List Nat}:(k∈ks->aO (ks.map λ(k:Nat)=>(Atom.i k,f k)) (.i k)=some (f k))/\(k∉ks->aO (ks.map λ(k:Nat)=>(Atom.i k,f k)) (.i k)=none):=by
 induction ks with
 |nil=>exact⟨λh=>(nomatch h),λ_=>rfl⟩
 |cons a ks o=>
  rw[VI,bq];by_cases q:a=k
  ·rw[q,Vb rfl]
   exact⟨λ_=>rfl,U9 (VL ..)⟩
  ·rw[U8 λe=>q (WL (Atom.i.inj e)),Vc]
   exact⟨λh=>o.1 (h.resolve_left λe=>q e.symm),λh=>o.2 λe=>h (.inr e)⟩
def Bt{f:Nat->V}{ks:List Nat}:(ks.map λ(k:Nat)=>(Atom.i k,f k)).map (·.1)=ks.map λ(k:Nat)=>Atom.i k:=by rw[VD];rfl
section
variable{g:G0}{k:Nat}{exc:XQ}{b:Addr}{ns:List Nd}{σ:aq}{Q:V->aq->Prop}{n:Nat}
structure rb(ns:List Nd)(n:Nat)(ks st:List Nat):Prop where
 dd:ks.Nodup
 lt:∀k∈ks,k<ns.length
 hn:n∈ks
 hs:∀k∈st,k∈ks
 cl:∀k nd,ns[k]?=some nd->k∈ks->k∈st\/∀x∈nd.2,x∈ks
def rb.len{ns:List Nd}{n:Nat}{ks st:List Nat}(h:rb ns n ks st):ks.length<=ns.length:=aJ h.dd h.lt
def rb.add{ns:List Nd}{n x:Nat}{ks st:List Nat}(h:rb ns n ks st)(J:x∉ks)(hl:x<ns.length):rb ns n (ks++[x]) (st++[x]) where
 dd:=by rw[[Wu],⟨h.dd,VY ..,λa U b hb e=>J (by rw[U5.mp hb] at e;rw[e▸U,])⟩,]
 lt k C:=by
  rcases Vk.mp C with C|C
  ·rw[h.lt k C,]
  ·rw[[U5.mp C],hl,]
 hn:=Vv _ h.hn
 hs k C:=by
  rcases Vk.mp C with C|C
  ·rw[Vv _ (h.hs k C),]
  ·rw[Vm _ C,]
 cl k nd e C:=by
  rcases Vk.mp C with C|C
  ·exact(h.cl k nd e C).imp (Vv _) λq x J=>Vv _ (q x J)
  ·rw[.inl (Vm _ C),]
def rb.one(hn:n<ns.length):rb ns n [n] [n]:=⟨VY ..,λk o=>by rw[[U5.mp o],hn,],.head _,λk o=>o,λk C _ o=>.inl o⟩
def rb.pop{ks st:List Nat}{c:Nat}(h:rb ns n ks (st++[c])):rb ns n ks (c::st):=
 have e:∀{k},k∈st++[c]↔k∈c::st:=λ{k}=>Vk.trans ⟨λq=>q.elim (.tail _) λq=>U5.mp q▸.head _,λq=>(Vc.mp q).elim (λq=>.inr (U5.mpr q)) .inl⟩
 ⟨h.dd,h.lt,h.hn,λk o=>h.hs k (e.mpr o),λk C q o=>(h.cl k C q o).imp e.mp id⟩
def rb.done{ks st:List Nat}{c:Nat}(h:rb ns n ks (c::st)){nd:Nd}(J:ns[c]?=some nd)(o:∀x∈nd.2,x∈ks):rb ns n ks st:=
 ⟨h.dd,h.lt,h.hn,λk o=>h.hs k (.tail _ o),λk C e I=>(h.cl k C e I).elim (λq=>(Vc.mp q).elim (λq=>.inr (VW (J.symm.trans (q▸e))▸o)) .inl) .inr⟩
noncomputable def mu(ns:List Nd)(ks st:List Nat):Nat:=2*(ns.length-ks.length)+st.length
def JA{ks st:List Nat}{i:Nat}(h:(ks++[i]).length<=ns.length):mu ns (ks++[i]) (st++[i])<=mu ns ks st:=by unfold mu;rw[U7] at*;rw[[U7],ax [.le (.p af aF) aj,.sub aC aj (.p af aF),.sub bH aj af] (.le (.p (.m 2 aC) (.p iV aF)) (.p (.m 2 bH) iV)) (.s 2 (.l [0,2,1,2,0,0,2]) (.l [0,2,1,0,0,0,2])) tt [_,_,_,_,_] h rfl rfl,]
def Bu{ks st:List Nat}(h:mu ns ks st<=25):st.length<=100000:=U3 (U3 (U4 ..) h) (by decide)
structure EK(a e:Addr)(σ:aq)(ks st:List Nat)(σ':aq):Prop where
 s:aA 60 61 σ σ'
 a:σ' ⟨60,0⟩=some (.one a (.dA (Jy ks)))
 e:σ' ⟨60,1⟩=some (.one e (.list (st.map vi)))
def yB{d l r ks:List Nat}{i:Nat}(U:wF ns)(C:r.Pairwise (·<=·))(I:r.Nodup)(J:d++i::l=r)(hm:∀k,k∈r↔k∈ks){nd:Nd}(a:ns[i]?=some nd)(f:∀x∈nd.2,x∈ks):i∉d/\∀x∈nd.2,x∈d:=by rw[<-J] at C I;rw[⟨λq=>(Wu.mp I).2.2 i q i (.head _) rfl,λx h=>?_⟩,<-j (U i _ a).1 x h,<-o (hm x).mpr (f x h),];rw[<-J] at o;rw[(Vk.mp o).resolve_right λo=>(Vc.mp o).elim (λe=>U9 j (e▸VB _)) λo=>U9 ((List.pairwise_cons.mp (List.pairwise_append.mp C).2.1).1 x o) (X5.mpr j),]
def JB(hu:cZ b ns σ)(hn:n<ns.length)(h:∀σ',aA 60 61 σ σ'->Q (tm ns n) σ'):GC g (k+2) exc σ (.raw (.ref 268)) [.loc b,vi n] Q:=by
 rw[bp sT rfl rfl rfl ?_,];have N:wF ns:=n0 hu λ_ _ _ _ _ _ _ q=>q.wf;have R:ns.length<=12:=n0 hu λ_ _ _ _ _ _ _ q=>q.sz;have Gk:∃D no nu we de,σ ⟨0,0⟩=some (.obj b 292 D [(5,.loc no),(6,.loc nu),(7,.loc we),(8,.loc de)]):=n0 hu λ_ _ _ _ _ _ _ q=>⟨_,_,_,_,_,q.o⟩;rw[2 la,qR ⟨60,0⟩ λa ha=>?_,"w",tp (k1:=.i n) ha λha=>nK ⟨60,1⟩ λe he=>?_,];refine e4 (λz:List Nat×List Nat=>mu ns z.1 z.2) (λ_=>[(0,.loc b),(1,vi n),(2,.loc a),(3,.loc e)]) (λz σ'=>EK a e σ z.1 z.2 σ'/\rb ns n z.1 z.2/\mu ns z.1 z.2<=25) ([n],[n]) ⟨rfl,rfl,rfl,rfl,trivial⟩
  ⟨⟨((aA.refl.set rfl).set rfl).set rfl,ha,he⟩,.one hn,by rw[2 mu,[WB,Wm],ax [.le af gD,.sub aj af aF] (.le (.p (.m 2 aj) aF) (.k 25)) (.l [1,2,0,2]) tt [_,_] R rfl,]⟩ λz σ' v=>?_
 rw[0 ha he,aB λR_ J=>dG v λY hB RQ=>rF Gk λbD no nu we de ho=>J ?_,0 J R_ v Gk,<-S hu.same (Y.s.kept (.inr (U4 ..))),<-HG hB.len,<-FD (Y.s ⟨0,0⟩ rfl).trans ho,"w",aX (n:=z.2.length) (cv Y.e rfl) (U2 ..) (Bu RQ) ?_,"w",oQ (λIb=>?_) λhz=>?_,]
 ·rw[aB λR_ J=>dh (jK (l:=z.2) λq=>by rw[q] at Ib;rw[VB _ Ib,]) λst c A=>J ?_,]
  rw[0 J R_,<-he Y.e,];rw[A,Vd] at he;have P9:rb ns n z.1 (st++[c]):=A▸hB;rw[<-hc P9.lt c (P9.hs c (Vm _ (Vr c))),aw ((⟨_,U' hc⟩:∃nd,ns[c]?=some nd)) λRS Qa=>?_,];have RT:mu ns z.1 z.2=mu ns z.1 st+1:=by rw[2 mu,[A,U7],];rfl
  have Qb:mu ns z.1 st<=25:=U3 (VE _) (U3 (Vz RT.symm) RQ);walk_at "w";refine dz he rfl (by rw[[U2],Bu Qb,]) λQc=>?_;walk_at "w";refine ky (S.same ((aA.refl (lo:=60) (hi:=61).set rfl).kept (.inr (U4 ..)))) Qa<|vl (e5 (m0:=[(0,.loc b),(1,vi n),(2,.loc a),(3,.loc e)]) (λd r U=>d++r=RS.2/\∃W C,EK a e σ W C U/\rb ns n W (c::C)/\(∀x∈d,x∈W)/\mu ns W C<=mu ns z.1 st)
   (λd i r U P v hP=>?_) (λd m U X v=>?_) _ [] _ _ ⟨rfl,rfl,rfl,rfl,trivial⟩ ⟨rfl,z.1,st,⟨Y.s.set rfl,Y.a,Qc⟩,P9.pop,(λx t=>nomatch t),Va _⟩)
  ·rw[aB λR_ J=>aV v λI q=>dh q λj C q=>jU q λu B Qd E=>J ?_,]
   clear J R_ v;have Qe:i<ns.length:=VK ((N c _ Qa).1 i (I▸Vm _ (.head _))) hc;have K6:∀{G zx pI},EK a e σ G zx pI->rb ns n G (c::zx)->(∀x∈j,x∈G)->i∈G->mu ns G zx<=mu ns j C->d++[i]++r=RS.2/\∃W C,EK a e σ W C pI/\rb ns n W (c::C)/\(∀x∈d++[i],x∈W)/\mu ns W C<=mu ns z.1 st:=λh1 h2 h3 h4 h5=>
    ⟨by rw[[Vo],I,],_,_,h1,h2,λx t=>(Vk.mp t).elim (λt=>h3 x (Qd x t)) λt=>U5.mp t▸h4,U3 h5 E⟩
   rw[bX ⟨rfl,?_⟩,"w",jI (k1:=.i i) rfl u.a rfl ?_,];by_cases q:i∈j
   ·rw[aZ.1 q]
    rw[w_ite (λe=>nomatch e) λ_=>⟨rfl,hP _ _ ⟨rfl,rfl,rfl,rfl,trivial⟩ (K6 u B (λx t=>t) q (Va _))⟩,]
   ·rw[aZ.2 q]
    refine w_ite (λ_=>?_) λe=>nomatch e;rw["w",eD (k1:=.i i) rfl u.a rfl (by rw[[U2],U3 (U3 B.len R) (by decide),]) λRV=>?_,];rw[dy (aZ.2 q)] at RV⊢;rw["w",<-Co u.e,"w",aW Co rfl (by rw[[U2],Bu (U3 E Qb),]) λMn=>?_,];have RW:rb ns n (j++[i]) (c::(C++[i])):=B.add q Qe;exact⟨rfl,hP _ _ ⟨rfl,rfl,rfl,rfl,trivial⟩ (K6 ⟨(u.s.set rfl).set rfl,by rw[[show Jy (j++[i])=Jy j++[(.i i,.bool true)] from Vd],RV,],by rw[[Vd],Mn,]⟩ RW (λx t=>Vv _ t) (Vm _ (Vr i)) (JA RW.len))⟩
  ·rw[aB λR_ J=>aV v λI q=>dh q λj C q=>jU q λu B Qd E=>J ?_,]
   rw[0 J R_ v,⟨rfl,(j,C),Vg (Xy E) (Vz RT.symm),X,u,B.done Qa (λx t=>Qd x (by rw[<-I,VR] at t;rw[t,])),U3 E Qb⟩,]
 ·have A:z.2=[]:=VU (Nat.eq_zero_of_not_pos hz)
  have yZ:∀k nd,ns[k]?=some nd->k∈z.1->∀x∈nd.2,x∈z.1:=λk nd e hk=>(hB.cl k nd e hk).resolve_left λq=>by rw[A] at q;exact nomatch q
  rw[lX ⟨60,2⟩ λf hf=>?_,"w",yu Y.a rfl Bt (ax [.le af gD,.le aj af] (.lt aj (.k 64)) (.l [1,1,1]) tt [_,_] R HG) λr hp Tw=>?_,];have H:∀k,k∈r↔k∈z.1:=λk=>hp.mem_iff;have Tx:r.length<=12:=by rw[[hp.length_eq],U3 HG R,]
  refine hV (e5 (m0:=[(5,.loc f),(0,.loc b),(1,vi n)]) (λd rr U=>d++rr=r/\aA 60 61 σ U/\U ⟨60,2⟩=some (.one f (.dA (Jz ns d))))
   (λd i rr U P v hP=>?_) (λd m U X v=>?_) _ [] _ _ ⟨rfl,rfl,rfl,trivial⟩ ⟨rfl,Y.s.set rfl,hf⟩)
  ·rw[dG v λI L M=>?_,]
   clear v;have Ol:i∈z.1:=(H i).mp (I▸Vm _ (.head _));rw[<-hi hB.lt i Ol,aw ((⟨_,U' hi⟩:∃nd,ns[i]?=some nd)) λRX w=>?_,<-S hu.same (L.kept (.inr (U4 ..))),<-FD (L ⟨0,0⟩ rfl).trans ho,<-hq yB N Tw (hp.nodup_iff.mpr hB.dd) I H w (yZ i _ w Ol),];have Tz:d.length<=100000:=U3 (U3 (by rw[<-I,U7];rw[Vx ..,]) Tx) (by decide);have wG:RX.2.length<=100000:=U3 (N i _ w).2 (by decide);rw[bX ⟨rfl,?_⟩,"w",Ju S w<|cj [(5,.loc f)] rfl ⟨rfl,trivial⟩ ?_,"w",ky S w<|aY ⟨rfl,trivial⟩ (.tup _) ?_,bJ (y:=tm ns) RX.2 [] (λx t acc P' Ng Qf=>?_) (by rw[[Wm,Wk],wG,]) ?_,]
   ·rw[bG ⟨rfl,nM (λ_=>?_) λe=>nomatch e⟩,]
    rw["w",cx (k1:=.i x) rfl M rfl (aZ.1 (hq.2 x t)) ⟨⟨rfl,trivial⟩,Ng,Qf⟩,]
   ·rw[Wg]
    rw[cY bT (by rw[[U2],wG,]) (ft (by rw[[U2],wG,]) ?_),];rw[<-nP N w];rw["w",eD (k1:=.i i) rfl M rfl (by rw[[U2],Tz,]) λRY=>?_,];rw[dy (aZ.2 hq.1)] at RY⊢;exact⟨rfl,hP _ _ ⟨rfl,rfl,rfl,trivial⟩ ⟨by rw[[Vo],I,],L.set rfl,by rw[[show Jz ns (d++[i])=Jz ns d++[(.i i,tm ns i)] from Vd],RY,]⟩⟩
  ·rw[dG v λI L M=>?_,]
   clear v;rw[VR] at I;rw[I] at M;have l5:lk m 5=some (.loc f):=cR X 5 _ rfl;have l1:lk m 1=some (vi n):=cR X 1 _ rfl;rw["w",cx (k1:=.i n) rfl M rfl (aZ.1 ((H n).mpr hB.hn))<|h _ L,]
end
end
noncomputable section
inductive yC where
 |told (t:Str)|rule (k:Nat)|d5
noncomputable abbrev yC.ctorIdx(v:yC):Nat:=v.casesOn (λ_=>0) (λ_=>1) 2
noncomputable def yC.v:yC->V
 |.told t=>.tup [.str "told",.str t]
 |.rule k=>.tup [.str "rule",.str "r",.tup [.tup [.str "?x",vi k]]]
 |.d5=>.tup [.str "like"]
inductive Ch where
 |mk (nd:Nd)|kn (key:Nd) (n:Nat)|ed (a b:Nat) (r:yC)
noncomputable abbrev Ch.ctorIdx(v:Ch):Nat:=v.casesOn (λ_=>0) (λ_ _=>1) λ_ _ _=>2
noncomputable abbrev HI:=List Ch
noncomputable def aI:HI->List Nd
 |[]=>[]
 |.mk nd::h=>aI h++[nd]
 |.kn _ _::h=>aI h
 |.ed _ _ _::h=>aI h
noncomputable abbrev nn(h:HI):Nat:=(aI h).length
noncomputable def mr:HI->MG
 |[]=>[]
 |.mk _::h=>mr h
 |.kn _ _::h=>mr h
 |.ed a b _::h=>qY (mr h) a b
noncomputable def iC:HI->List (Nd×Nat)
 |[]=>[]
 |.mk _::h=>iC h
 |.kn k n::h=>iC h++[(k,n)]
 |.ed _ _ _::h=>iC h
noncomputable def bK:HI->List (Nat×Nat×yC)
 |[]=>[]
 |.mk _::h=>bK h
 |.kn _ _::h=>bK h
 |.ed a b r::h=>bK h++[(a,b,r)]
noncomputable def nQ:HI->List Nat
 |[]=>[]
 |.mk _::h=>nQ h
 |.kn _ _::h=>nQ h
 |.ed a b _::h=>if ay (mr h) a=ay (mr h) b then nQ h else nQ h++[(bK h).length]
noncomputable abbrev lo(h:HI)(a b:Nat):Nat:=min (ay (mr h) a) (ay (mr h) b)
noncomputable abbrev hi(h:HI)(a b:Nat):Nat:=max (ay (mr h) a) (ay (mr h) b)
noncomputable def ab:HI->Nat->List Nat
 |[],_=>[]
 |.mk nd::h,c=>if c=nn h then[] else if c∈nd.2.map (ay (mr h)) then ab h c++[nn h] else ab h c
 |.kn _ _::h,c=>ab h c
 |.ed a b _::h,c=>if ay (mr h) a=ay (mr h) b then ab h c else if c=lo h a b then ab h (lo h a b)++ab h (hi h a b) else ab h c
noncomputable def eK(h:HI)(n:Nat):Nd:=(aI h).getD n ("",[])
noncomputable def gA(h:HI)(n:Nat):Nd:=((eK h n).1,(eK h n).2.map (ay (mr h)))
noncomputable def jM:HI->Prop
 |[]=>True
 |.mk nd::h=>nd∉aI h/\nd.2.length<=2/\(∀k∈nd.2,k<nn h)/\nn h<8/\jM h
 |.kn k n::h=>(∀p∈iC h,p.1≠k)/\n<nn h/\jM h
 |.ed a b _::h=>a<nn h/\b<nn h/\jM h
def jM.ind{C:HI->Prop}(n:C [])(m:∀{nd h},nd∉aI h->nd.2.length<=2->(∀k∈nd.2,k<nn h)->nn h<8->jM h->C h->C (.mk nd::h))(k:∀{k n h},(∀p∈iC h,p.1≠k)->n<nn h->jM h->C h->C (.kn k n::h))
 (e:∀{a b r h},a<nn h->b<nn h->jM h->C h->C (.ed a b r::h)) {h:HI}:jM h->C h:=by
 induction h with
 |nil=>exactλ_=>n
 |cons c h I=>exact c.casesOn (motive:=λc=>jM (c::h)->C (c::h)) (λ_ w=>m w.1 w.2.1 w.2.2.1 w.2.2.2.1 w.2.2.2.2 (I w.2.2.2.2)) (λ_ _ w=>k w.1 w.2.1 w.2.2 (I w.2.2)) (λ_ _ _ w=>e w.1 w.2.1 w.2.2 (I w.2.2))
def dB:nn (.mk nd::h)=nn h+1:=U7 ..
def ew{h:HI}(w:jM h):ry (nn h) (mr h):=
 w.ind (C:=λh=>ry (nn h) (mr h)) trivial (λ_ _ _ _ _ c=>c.le (dB▸VE _)) (λ_ _ _ c=>c) λa b _ c=>vn c a b
def gB{h:HI}(w:jM h):nn h<=8:=
 w.ind (C:=λh=>nn h<=8) (Vj _) (λ_ _ _ a _ _=>dB▸a) (λ_ _ _ c=>c) λ_ _ _ c=>c
def Nh:ry n r->(r.map (·.2)).Nodup/\∀x∈r.map (·.2),x<n/\ay r x≠x:=by
 induction r with
 |nil=>exactλ_=>⟨List.nodup_nil,λx h=>nomatch h⟩
 |cons p r I=>
  rw[λh=>?_,<-i I h.2.2.2.2,];have C:∀x,ay (p::r) x=if ay r x=p.2 then p.1 else ay r x:=λ_=>rfl;rw[⟨VX.mpr ⟨λq=>(i.2 _ q).2 h.2.2.2.1,i.1⟩,λx o=>(Vc.mp o).elim (λe=>e▸⟨h.2.1,(C p.2▸Vb h.2.2.2.1)▸Vt h.1⟩) λo=>⟨(i.2 x o).1,?_⟩⟩,[C],];split
  ·rw[4 q,λe=>Vt h.1 (h.2.2.1.symm.trans (e.symm▸q)),]
  ·exact(i.2 x o).2
def mg_lt(h:ry n r)(C:0<n):r.length<n:=by have i:=Nh h;have I:=Nat.le_zero.mp (dR h 0).2;have:=aJ (VX.mpr ⟨λq=>(i.2 0 q).2 I,i.1⟩) λx o=>(Vc.mp o).elim (λe=>e▸C) λo=>(i.2 x o).1;rw[WB,U2] at this;rw[this,]
def JD{h:HI}(w:jM h):∀c,(ab h c).length<=nn h*2^(mr h).length:=by
 rw[w.ind (C:=λh=>∀c,(ab h c).length<=nn h*2^(mr h).length) (λ_=>Vj _) (λ{o h} _ _ _ _ _ i c=>?_) (λ_ _ _ i=>i) λ{a b r h} _ _ _ i c=>?_,]
 ·rw[dB,Nat.succ_mul]
  rw[(?_:(if c=nn h then[] else if c∈o.2.map (ay (mr h)) then ab h c++[nn h] else ab h c).length<=_),];split
  ·rw[Vj _,]
  ·split
   ·rw[[U7],WM (i c) (Nat.pow_pos (V5 _)),]
   ·rw[Nat.le_add_right_of_le (i c),]
 ·rw[(?_:(if ay (mr h) a=ay (mr h) b then ab h c else if c=lo h a b then ab h (lo h a b)++ab h (hi h a b) else ab h c).length<=nn h*2^(qY (mr h) a b).length),]
  unfold qY;by_cases q:ay (mr h) a=ay (mr h) b
  ·rw[[Vb q,Vb q],i c,]
  ·rw[U8 q,U8 q,WB,Nat.pow_succ,<-Nat.mul_assoc,Nat.mul_two]
   split
   ·rw[[U7],WM (i _) (i _),]
   ·rw[Nat.le_add_right_of_le (i c),]
def dC(w:jM h)(c:Nat):(ab h c).length<=1024:=by
 rw[U3 (JD w c) ?_,];rcases Nat.eq_zero_or_pos (nn h) with e|e
 ·rw[[e],ax [] (.le (.m 0 af) (.k 1024)) (.l [1]) tt [_],]
 ·have C:=mg_lt (ew w) e
  have o:=gB w;have:2^(mr h).length<=2^7:=WJ (V5 _) (ax [.lt af aj,.le aj eo] (.le af (.k 7)) (.l [1,1,1]) tt [_,_] C o);rw[U3 (Nat.mul_le_mul o this) (Vs _),]
def jN{h:HI}(w:jM h):(nQ h).length=(mr h).length:=by
 rw[w.ind (C:=λh=>(nQ h).length=(mr h).length) rfl (λ_ _ _ _ _ i=>i) (λ_ _ _ i=>i) λ{a b r h} _ _ _ i=>(?_:(if ay (mr h) a=ay (mr h) b then nQ h else nQ h++[(bK h).length]).length=(qY (mr h) a b).length),2 qY,];split
 ·rw[i,]
 ·rw[U7,i];rfl
theorem cS:∀{h:HI},(bK h).length<=h.length
 |[]=>Va _
 |.mk _::h=>VG (cS (h:=h))
 |.kn _ _::h=>VG (cS (h:=h))
 |.ed a b _::h=>by rw[5 ((bK h++_).length<=_),[U7],VJ cS,]
theorem jO:∀{h:HI},(iC h).length<=h.length
 |[]=>Va _
 |.mk _::h=>VG (jO (h:=h))
 |.ed _ _ _::h=>VG (jO (h:=h))
 |.kn a b::h=>by rw[5 ((iC h++_).length<=_),[U7],VJ jO,]
def JE{h:HI}(w:jM h):∀p∈iC h,p.2<nn h:=
 w.ind (C:=λh=>∀p∈iC h,p.2<nn h) (λ_ o=>nomatch o) (λ_ _ _ _ _ i p o=>dB▸Vi (i p o))
  (λ_ a _ i p o=>(Vk.mp o).elim (i p) λo=>U5.mp o▸a) λ_ _ _ i=>i
structure HA where
 lD:Addr
 b:Addr
 u:Addr
 e:Addr
 f:Addr
 kn:Addr
 ab:Addr
 wt:Addr
 ch:Addr
 JF:Addr
 gC:Nat->Addr
 lR:Nat->Addr
 vo:Nat->Addr
noncomputable abbrev K7(p:Nat×Nat×yC):V:=.tup [vi p.1,vi p.2.1,p.2.2.v]
noncomputable def rB(l:List (Nd×Nat)):List (List Atom×V):=l.map λp=>(dm p.1,vi p.2)
noncomputable def y0(o:Nat->Addr)(h:HI):Ch->V
 |.mk _=>.tup [.str "made",vi (nn h)]
 |.kn k _=>.tup [.str "known",aP k]
 |.ed a b _=>.tup [.str "edge",vi (lo h a b),vi (ab h (lo h a b)).length,vi (hi h a b),if ay (mr h) a=ay (mr h) b then .any else .loc (o h.length)]
noncomputable def y1(o:Nat->Addr):HI->List V
 |[]=>[]
 |c::h=>y1 o h++[y0 o h c]
noncomputable def Bv(o:Nat->Addr)(ms:List Nat):List V:=ms.zipIdx.map λp=>.tup [vi p.1,.loc (o p.2)]
noncomputable def JG(p:HA)(bk o:Nat):List (Nat×V):=[(12,.loc p.b),(13,.loc p.u),(14,.loc p.e),(15,.loc p.f),(16,.loc p.kn),(9,.loc p.ab),(17,.loc p.wt),(18,vi bk),(19,.loc p.ch),(20,.loc p.JF),(21,vi o)]
noncomputable def jV(o:Nat->Addr)(σ:aq):HI->Prop
 |[]=>True
 |.ed a b _::h=>(ay (mr h) a≠ay (mr h) b->σ ⟨26,h.length⟩=some (.one (o h.length) (.list ((ab h (hi h a b)).map vi))))/\jV o σ h
 |_::h=>jV o σ h
structure ez(lv:Addr)(p:HA)(h l:HI)(w ms:List Nat)(bk:Nat)(σ:aq):Prop where
 o:σ ⟨20,0⟩=some (.obj lv 578 p.lD (JG p bk (nn l)))
 e:σ ⟨21,0⟩=some (.one p.e (.list ((bK h).map K7)))
 f:σ ⟨22,0⟩=some (.one p.f (.list ((nQ h).map vi)))
 kn:σ ⟨23,0⟩=some (.one p.kn (.dT (rB (iC h))))
 av:∃ks:List Nat,σ ⟨24,0⟩=some (.one p.ab (.dA (ks.map λ(c:Nat)=>(Atom.i c,.loc (p.gC c)))))/\ks.Nodup/\∀c,c∈ks↔c<nn h/\ay (mr h) c=c
 us:∀c,c<nn h->ay (mr h) c=c->σ ⟨25,c⟩=some (.one (p.gC c) (.list ((ab h c).map vi)))
 sv:jV p.lR σ h
 wt:σ ⟨27,0⟩=some (.one p.wt (.list (w.map vi)))
 ch:σ ⟨28,0⟩=some (.one p.ch (.list (y1 p.lR l)))
 JF:σ ⟨29,0⟩=some (.one p.JF (.list (Bv p.vo ms)))
 ml:∀j,j<ms.length->σ ⟨30,j⟩=some (.one (p.vo j) (.list []))
 bk:cZ p.b (aI h) σ
 un:lZ p.u (nn h) (mr h) σ
 wf:jM h
 sz:h.length<=50000/\l.length<=50000/\w.length<=50000/\ms.length<=100
def jV.same(hs:∀i,σ' ⟨26,i⟩=σ ⟨26,i⟩):jV C σ h->jV C σ' h:=by
 induction h with
 |nil=>exact id
 |cons c h I=>exact c.casesOn (motive:=λc=>jV C σ (c::h)->jV C σ' (c::h)) (λ_=>I) (λ_ _=>I) λ_ _ _ q=>⟨λe=>(hs _).trans (q.1 e),I q.2⟩
def ez.same{lv:Addr}{p:HA}{h l:HI}{w ms:List Nat}{bk:Nat}{σ σ':aq}(q:ez lv p h l w ms bk σ)(hs:Kept 0 40 σ σ'):ez lv p h l w ms bk σ':=by
 refine aB λn C=>?_;obtain⟨r,u,v,x,⟨y,z,I⟩,A,B,D,E,J,U,a,b,d,k⟩:=q;refine C ?_;clear C n;exact⟨(hs _ rfl).trans r,(hs _ rfl).trans u,(hs _ rfl).trans v,(hs _ rfl).trans x,⟨y,(hs _ rfl).trans z,I⟩,λc G H=>(hs ⟨25,c⟩ rfl).trans (A c G H),B.same λi=>hs ⟨26,i⟩ rfl,(hs _ rfl).trans D,(hs _ rfl).trans E,(hs _ rfl).trans J,
  λj L=>(hs ⟨30,j⟩ rfl).trans (U j L),a.same λt m=>hs t (az.mpr ⟨Vj _,VK (az.mp m).2 (U4 ..)⟩),b.same λt m=>hs t (az.mpr ⟨Vj _,VK (az.mp m).2 (U4 ..)⟩),d,k⟩
def aK(lv:Addr)(h l:HI)(w ms:List Nat)(bk:Nat)(σ:aq):Prop:=∃p,ez lv p h l w ms bk σ
def aK.same{lv:Addr}{h l:HI}{w ms:List Nat}{bk:Nat}{σ σ':aq}(q:aK lv h l w ms bk σ)(hs:Kept 0 40 σ σ'):aK lv h l w ms bk σ':=by rw[6 q,λo=>aw o λp q=>?_,0 o,⟨p,q.same hs⟩,]
def cn(o:n<nn h):(aI h)[n]?=some (eK h n):=by unfold eK;simp[o]
section
variable{g:G0}{k:Nat}{exc:XQ}{lv:Addr}{h l:HI}{w ms:List Nat}{bk:Nat}{σ:aq}{Q:V->aq->Prop}{n:Nat}
def wH(a:aK lv h l w ms bk σ)(b:Q (vi (nn h)) σ):GC g (k+2) exc σ (.raw (.ref 399)) [.loc lv] Q:=by rw[a8 sY rfl rfl<|aw a λp q=>?_,0 a,<-i q.o,<-d q.bk,<-J q.bk,6 d,λC=>aB λe I=>n0 C λj no m r t u v U=>?_,0 C,];rcases U with⟨f,_⟩;rw[I ?_,0 I e,2 lh,"w",Jt J ?_,"w",b,]
def tF(a:σ ⟨20,0⟩=some (.obj lv 578 p fs))(J:lk fs 13=some (.loc u))(b:lk fs 48=none)(o:lZ u N r σ)(d:n<N)(e:Q (vi (ay r n)) σ):GC g (k+2) exc σ (.raw (.ref 428)) [.loc lv,vi n] Q:=by rw[a8 tg rfl rfl ?_,<-f o,6 f,λC=>aB λi I=>rF C λq ab lo t j U=>?_,0 C,];rcases U with⟨m,_⟩;rw[I ?_,0 I i,2 ll,qS a rfl J (U1 rfl) (λP=>by kernel_rfl) rfl ?_,"w",qZ o d ?_,"w",e,]
def gn(C:aK lv h l w ms bk σ)(I:n<nn h)(J:Q (vi (ay (mr h) n)) σ):GC g (k+2) exc σ (.raw (.ref 428)) [.loc lv,vi n] Q:=by rw[aw C λp q=>?_,0 C,tF q.o rfl rfl q.un I J,]
def Ni:aP (gA h n)=.tup (.str (eK h n).1::(eK h n).2.map λk=>vi (ay (mr h) k)):=by show V.tup (.str (eK h n).1::((eK h n).2.map _).map vi)=_;rw[VD];rfl
def Bw(d:aK lv h l w ms bk σ)(a:n<nn h)(r:Q (aP (gA h n)) σ):GC g (k+3) exc σ (.raw (.ref 404)) [.loc lv,vi n] Q:=by
 rw[bp s9 rfl rfl rfl ?_,<-f d,aw d λp q=>?_,0 d,<-B q.o,<-t q.bk,<-I q.bk,6 t,λC=>aB λu J=>n0 C λD no E G H L M U=>?_,0 C,];rcases U with⟨v,_,_,_,_,_,_,i,_,_⟩;rw[J ?_,0 J u,<-b i n _ (cn a),2 lj,"w",Ju I (cn a) ?_,"w",cj [(0,.loc lv)] rfl ⟨rfl,trivial⟩ ?_,"w",ky I (cn a)<|aY ⟨rfl,trivial⟩ (.tup _) ?_,bJ (y:=λk=>vi (ay (mr h) k)) (eK h n).2 [] (λx z A N j m=>?_) (by simp only[Wm];rw[ax [.le af gI] (.le (.p gp af) aE) (.l [1,1]) tt [_] b.2,]) ?_,]
 ·rw[bG ⟨rfl,nM (λ_=>?_) λe=>nomatch e⟩,]
  rw["w",gn f (VK (b.1 x z) a) ⟨⟨rfl,trivial⟩,j,m⟩,]
 ·rw[cY bT (by rw[[Wg,U2],kl b.2,]) (ft (by rw[[Wg,U2],kl b.2,]) ?_),]
  rw["w",];rw[Ni] at r;rw[r,]
end
end
noncomputable section
section
variable{F:Fr}{K:KS}{s:List V}{m:GM}{σ:aq}{X X':V}{f:V}
noncomputable def aq.rC(σ:aq)(t t':Tg)(a:Addr)(k:OK):aq:=(σ.del t).set t' (.one a k)
def lV{σ:ak}{a:Addr}{y:O}:(σ.del a).set a y=σ.set a y:=by
 funext b
 by_cases q:b=a
 ·rw[8 q,[ak.ae,ak.ae],]
 ·rw[ak.ag _ _ q,ak.ag _ _ q,ak.aR _ q]
def T.rC{g:G0}{A:Around}{env:Env}{l β:Type}{R:ai->β->l->Prop}{F₀:ai}{tt:Sem l}{c:CS}{E:V->CS->Prop}{Q:β->aq->Prop}{n:List (Str×V)}{t t':Tg}
 (h:T g A env R F₀ tt c (λb c'=>c'.m=n/\∃σ',aD σ' c'.σ/\∃a k,σ' t=some (.one a k)/\Q b (σ'.rC t t' a k)) E):T g A env R F₀ tt c (λb c'=>c'.m=n/\∃σ',aD σ' c'.σ/\Q b σ') E:=λF Z s u st=>
 T.run h u st (λd v b U w i z o q=>by
  rw[aB λB C=>aV q λhm I=>ah I λσ' p J=>dr J λa k r D=>C ?_,0 C B q I J,⟨d,b,⟨U.m,U.σ.set a ⟨t'.t,k⟩⟩,i,z,o.iE λx y e=>?_,hm,_,?_,D⟩,]
  ·by_cases q:x=a
   ·subst q;rw[ak.ae] at e;rw[1 e,⟨_,p t _ r⟩,]
   ·rw[ak.ag _ _ q] at e;exact⟨y.t,e⟩
  ·have:=(p.rem r).new (t:=t') (a:=a) (k:=k) (ak.gL ..)
   rw[lV] at this;exact this) λd a x U w i G o H=>⟨d,x,U,i,G,o,H⟩
def wI(t t':Tg)(h:cD F (λs m σ'=>∃a k,σ' t=some (.one a k)/\K s m (σ'.rC t t' a k)) (i::o::x::s) m σ):cD F K (i::o::x::s) m σ:=λI A env c J U C a b d e j id=>T.rC (h I A env c J U C a b d e j id)
def EL(t t':Tg)(h:jz i F (λs m σ'=>∃a k,σ' t=some (.one a k)/\K s m (σ'.rC t t' a k)) (o::x::s) m σ):jz i F K (o::x::s) m σ:=λI A env c J U C a b d e=>T.rC (h I A env c J U C a b d e)
def V.le(X X':V):Prop:=∀F v,Is F X v->Is F X' v
def EM(b:X.le X')(h:dc 1 F K (X'::s) m σ):dc 1 F K (X::s) m σ:=by
 match s,h with
 |[],h=>exact h
 |[_],h=>exact h
 |y::f::s,h=>
  intro d A env c e i o j t k a;rw[cp a λl r U n C=>cp C λp u I q J=>?_,0 a C,3 U,3 I,3 J,h d A env c e i o j _ k ⟨l,_,rfl,n,p,_,rfl,b _ _ q,rfl⟩,]
end
def wJ{ks:List Nat}{f f':Nat->Addr}{c:Nat}{b:Addr}(C:ks.Nodup)(o:c∈ks)(hf:f'=λj=>if j=c then b else f j):
 dput (ks.map λ(k:Nat)=>(Atom.i k,V.loc (f k))) (.i c) (.loc b)=ks.map λ(k:Nat)=>(Atom.i k,V.loc (f' k)):=by
 rw[8 hf,[zT (aZ.1 o),VD],Vy λk I=>?_,5 ((if Atom.i (k:Int)=.i (c:Int) then(Atom.i (k:Int),V.loc b) else(Atom.i (k:Int),V.loc (f k)))=(Atom.i (k:Int),V.loc (if k=c then b else f k))),];by_cases q:k=c
 ·rw[8 q,[Vb rfl,Vb rfl],]
 ·rw[U8 λe=>q (by injection e with e;rw[WL e,]),U8 q]
def wK{ks:List Nat}{f:Nat->V}{c:Nat}:dp (ks.map λ(k:Nat)=>(Atom.i k,f k)) (.i c)=(ks.filter λk=>decide (k≠c)).map λ(k:Nat)=>(Atom.i k,f k):=by
 rw[2 dp,[List.filter_map],];congr 1;rw[List.filter_congr λk _=>?_,5 (decide (Atom.i (k:Int)≠.i (c:Int))=decide (k≠c)),];by_cases q:k=c
 ·subst q;simp
 ·rw[Wo q,Wo]
  intro e;injection e with e;rw[q (WL e),]
def dD{σ:aq}{t t' u:Tg}{a:Addr}{k:OK}(h1:t≠u)(o:t'≠u):(σ.rC t t' a k) u=σ u:=(aq.ag o).trans (aq.aR h1)
def aA.rC{lo hi:Nat}{σ σ':aq}{t t':Tg}{a:Addr}{k:OK}(h:aA lo hi σ σ')(h1:cW lo hi t=true)(o:cW lo hi t'=true):aA lo hi σ (σ'.rC t t' a k):=(h.del h1).set o
noncomputable def jw(h:HI)(a b:Nat)(w:List Nat):List Nat:=if ay (mr h) a=ay (mr h) b then w else w++ab h (hi h a b)
section
variable{g:G0}{k:Nat}{exc:XQ}{lv:Addr}{h l:HI}{w ms:List Nat}{bk:Nat}{σ:aq}{Q:V->aq->Prop}{n:Nat}
def jV.ag:(∀i,i<h.length->σ' ⟨26,i⟩=σ ⟨26,i⟩)->jV C σ h->jV C σ' h:=by
 induction h with
 |nil=>exactλ_=>id
 |cons c h J=>
  rw[λI=>?_,<-i J λi hi=>I i (Vi hi),c.casesOn (motive:=λc=>jV C σ (c::h)->jV C σ' (c::h)) (λ_=>i) (λ_ _=>i) λ_ _ _ q=>⟨λe=>(I _ (Vs _)).trans (q.1 e),i q.2⟩,]
def JH(o:jM h)(C:a<nn h)(I:b<nn h)(q:ay (mr h) a≠ay (mr h) b):lo h a b<hi h a b/\hi h a b<nn h/\ay (mr h) (lo h a b)=lo h a b/\ay (mr h) (hi h a b)=hi h a b:=by have:=vn (ew o) C I;unfold qY at this;rw[U8 q] at this;exact⟨this.1,this.2.1,this.2.2.1,this.2.2.2.1⟩
def EN(q:ez lv p h (.ed a b r::h) w ms bk σ)(hp:ay (mr h) a≠ay (mr h) b->p.lR h.length=p.gC (hi h a b))(ha:a<nn h)(hb:b<nn h)(hh:h.length<50000)(hw:w.length+1024<=50000)
 (hQ:∀p' v σ',ez lv p' (.ed a b r::h) (.ed a b r::h) (jw h a b w) ms bk σ'->aA 0 40 σ σ'->Q v σ'):Be g (k+3) exc σ (.raw (.ref 449)) [.loc lv,vi a,vi b,r.v] Q:=by
 rw[gi tj rfl rfl<|aB λR_ y=>?_,];obtain⟨ho,he,hf,JI,⟨ks,Om,G,B⟩,H,JJ,JK,Cp,JL,y2,Cq,R,J,S⟩:=q;rw[y ?_,0 y R_,<-Oo ew J,<-vp R,6 vp,λL=>aB λR_ y=>rF L λuD Qg Qh Qi JN Qj=>?_,0 L,];rcases Qj with⟨Nj,_,_,_,_,_,_⟩;rw[y ?_,0 y R_,2 lp,"w",aW he rfl (by rw[[U2],U3 cS (kt hh),]) λCo=>?_,"w",EH (R.same λt U=>aq.ag λe=>by rw[<-e] at U;rw[7 U,]) ha hb (Vg (mg_lt Oo (VA (Vj _) ha)) (U3 (gB J) (by decide))) (λq=>?_) (λq=>?_),]
 ·have W:mr (.ed a b r::h)=mr h:=Vb q
  have e2:nQ (.ed a b r::h)=nQ h:=Vb q;have e3:∀c,ab (.ed a b r::h) c=ab h c:=λc=>Vb q;rw["w",Ge rfl ?_,"w",];refine w_ite (λ_=>?_) λe=>nomatch e;rw["w",hQ p _ _ ⟨ho,?_,?_,JI,⟨ks,Om,G,?_⟩,λc h1 h2=>?_,?_,?_,Cp,JL,y2,?_,?_,⟨ha,hb,J⟩,?_⟩ (aA.refl.set rfl),]
  ·show _=some (GO.one p.e (.list ((bK h++[(a,b,r)]).map K7)))
   rw[[Vd],Co,]
  ·rw[[e2],hf,]
  ·rw[[W],B,]
  ·rw[[e3],H c h1 (W▸h2),]
  ·exact⟨λe=>U9 q e,jV.same (λi=>aq.ag λe=>by injection e with e;cases e) JJ⟩
  ·rw[2 jw,[Vb q],JK,]
  ·exact Cq.same λt U=>aq.ag λe=>by rw[<-e] at U;rw[7 U,]
  ·rw[W];exact R.same λt U=>aq.ag λe=>by rw[<-e] at U;rw[7 U,]
  ·rw[2 jw,[Vb q],⟨Xz hh,S.2⟩,]
 ·intro X y3 C
  rw[jU (JH J ha hb q) λl1 l2 l3 l4=>?_,<-hp hp q,];have W:mr (.ed a b r::h)=(lo h a b,hi h a b)::mr h:=U8 q;have e2:nQ (.ed a b r::h)=nQ h++[(bK h).length]:=U8 q;have e3:∀c,ab (.ed a b r::h) c=if c=lo h a b then ab h (lo h a b)++ab h (hi h a b) else ab h c:=λc=>U8 q;have RZ:jw h a b w=w++ab h (hi h a b):=U8 q;have Qk:qY (mr h) a b=(lo h a b,hi h a b)::mr h:=U8 q;rw[Qk] at y3;have yX:=(C ⟨20,0⟩ rfl).trans ho;have Oq:=(C ⟨21,0⟩ rfl).trans Co;have Nk:=(C ⟨22,0⟩ rfl).trans hf;have D:=(C ⟨24,0⟩ rfl).trans Om;have Ql:=(C ⟨27,0⟩ rfl).trans JK;have hk:=(C ⟨25,lo h a b⟩ rfl).trans (H _ (VK l1 l2) l3);have hg:=(C ⟨25,hi h a b⟩ rfl).trans (H _ l2 l4);have s1:=dC J (lo h a b);have s2:=dC J (hi h a b);have K8:lo h a b∈ks:=(B _).mpr ⟨VK l1 l2,l3⟩;have K9:hi h a b∈ks:=(B _).mpr ⟨l2,l4⟩;have wG:ks.length<=nn h:=aJ G λx hx=>((B x).mp hx).1;rw[<-Y gB J,"w",Ge rfl ?_,"w",w_ite (λe=>nomatch e) λ_=>?_,"w",aX (n:=(bK h).length+1) (cv Oq rfl) (by rw[U7,U2];rfl) (by have:=cS (h:=h);exact ax [.lt af bQ,.le aj af] (.le (.p aj aF) aE) (.l [1,1,1]) tt [_,_] hh this) ?_,"w",gm (U4 1 _)<|aW Nk rfl (by rw[[U2,jN J],U3 (VP (mg_lt Oo (VA (Vj _) ha))) (U3 Y (by decide)),]) λPo=>?_,"w",cx (k1:=.i (hi h a b)) rfl D rfl (aZ.1 K9)<|nN Ql rfl (cv hg rfl) (by simp only[U2];rw[ax [.le (.p af (.k 1024)) bQ,.le aj (.k 1024)] (.le (.p af aj) aE) (.l [1,1,1]) tt [_,_] hw s2,]) λQm=>?_,"w",cx (k1:=.i (lo h a b)) rfl D rfl (aZ.1 K8) ?_,"w",Jf (k1:=.i (hi h a b)) rfl D rfl (aZ.1 K9) (by rw[[U2],ax [.le af aj,.le aj eo] (.le af aE) (.l [1,1,1]) tt [_,_] wG Y,]) λM=>?_,];rw[wK] at M⊢;rw[ko (cv hk rfl) (cv hg rfl) (by simp only[U2];rw[ax [.le af (.k 1024),.le aj (.k 1024)] (.le (.p af aj) aE) (.l [1,1,1]) tt [_,_] s1 s2,]) (.inr ⟨⟨25,lo h a b⟩,λbb=>?_⟩),"w",];have TA:lo h a b∈ks.filter λk=>decide (k≠hi h a b):=VS.mpr ⟨K8,Wo (Vt l1)⟩;rw[wI ⟨25,hi h a b⟩ ⟨26,h.length⟩ (eD (k1:=.i (lo h a b)) rfl M rfl (by rw[[U2],U3 (List.length_filter_le ..) (ax [.le af aj,.le aj eo] (.le af aE) (.l [1,1,1]) tt [_,_] wG Y),]) λP=>⟨p.gC (hi h a b),.list ((ab h (hi h a b)).map vi),?_,?_⟩),]
  ·exact(fT (σ:=((X.set ⟨22,0⟩ _).set ⟨27,0⟩ _).set ⟨24,0⟩ _) (Vt l1)).trans hg
  rw[wJ (f':=λj=>if j=lo h a b then bb else p.gC j) (G.filter _) TA rfl] at P⊢;rw["w",hQ {p with gC:=λj=>if j=lo h a b then bb else p.gC j} _ _ ⟨yX,?_,?_,(C ⟨23,0⟩ rfl).trans JI,⟨ks.filter λk=>decide (k≠hi h a b),P,G.filter _,λc=>?_⟩,λc h1 h2=>?_,⟨λ_=>?_,?_⟩,?_,(C ⟨28,0⟩ rfl).trans Cp,(C ⟨29,0⟩ rfl).trans JL,λj hj=>(C ⟨30,j⟩ rfl).trans (y2 j hj),?_,?_,⟨ha,hb,J⟩,?_⟩ ?_,]
  ·show _=some (GO.one p.e (.list ((bK h++[(a,b,r)]).map K7)))
   rw[[Vd],Oq,]
  ·rw[[e2,Vd],Po,]
  ·rw[VS,B,WN,W]
   show(c<nn h/\ay (mr h) c=c)/\c≠hi h a b↔c<nn h/\(if ay (mr h) c=hi h a b then lo h a b else ay (mr h) c)=c;constructor
   ·rintro⟨⟨h1,h2⟩,h3⟩
    exact⟨h1,by rw[h2,U8 h3]⟩
   ·rintro⟨h1,h2⟩
    split at h2
    ·rw[4 d,]
     rw[<-h2,l3] at d;rw[U9 d (Vt l1),]
    ·rw[4 d,]
     exact⟨⟨h1,h2⟩,λe=>d (h2.trans e)⟩
  ·rw[W] at h2
   have h2:(if ay (mr h) c=hi h a b then lo h a b else ay (mr h) c)=c:=h2;rw[e3];show aq.rC _ _ _ _ _ _=some (GO.one (if c=lo h a b then bb else p.gC c) _);by_cases d:c=lo h a b
   ·rw[Vb d,Vb d,d,Vd]
    rw[(dD (λe=>Vt l1 (by injection e with _ e;rw[e.symm,])) (λe=>by injection e with e;cases e)).trans<|aq.ae (σ:=((X.set ⟨22,0⟩ _).set ⟨27,0⟩ _).set ⟨24,0⟩ _),]
   ·rw[U8 d,U8 d]
    have h3:ay (mr h) c=c:=by
     split at h2
     ·rw[U9 h2.symm d,]
     ·rw[h2,]
    have h4:hi h a b≠c:=λe=>by rw[h3,Vb e.symm] at h2;rw[d h2.symm,]
    rw[(dD (λe=>h4 (by rw[7 e,])) (λe=>by injection e with e;cases e)).trans<|(fT (σ:=((X.set ⟨22,0⟩ _).set ⟨27,0⟩ _).set ⟨24,0⟩ _) λe=>d e.symm).trans ?_,(C ⟨25,c⟩ rfl).trans (H c h1 h3),]
  ·show aq.rC _ _ _ _ _ _=some (GO.one (p.lR h.length) _)
   rw[[hp],aq.ae,]
  ·rw[jV.ag (λi hi'=>?_) JJ,]
   rw[(dD (λe=>by injection e with e;cases e) (λe=>WO hi' (by rw[7 e,]))).trans (C ⟨26,i⟩ rfl),]
  ·rw[[RZ,Vd],Qm,]
  ·rw[Cq.same λt U=>?_,]
   have:=az.mp U;have ne:∀{kk ii:Nat},10<=kk->(⟨kk,ii⟩:Tg)≠t:=λhk e=>by rw[<-e] at this;rw[U9 this.2 (VV.mpr hk),]
   rw[(dD (ne (U4 ..)) (ne (U4 ..))).trans<|(aq.ag (ne (U4 ..))).trans ((aq.ag (ne (U4 ..))).trans ((aq.ag (ne (U4 ..))).trans ((aq.ag (ne (U4 ..))).trans ((aq.ag (ne (U4 ..))).trans ((C t ?_).trans (aq.ag (ne (U4 ..)))))))),kU U (by decide),]
  ·rw[W]
   rw[y3.same λt U=>?_,<-this az.mp U,];have ne:∀{kk ii:Nat},20<=kk->(⟨kk,ii⟩:Tg)≠t:=λhk e=>by rw[<-e] at this;rw[U9 this.2 (VV.mpr hk),]
   rw[(dD (ne (U4 ..)) (ne (U4 ..))).trans<|(aq.ag (ne (U4 ..))).trans ((aq.ag (ne (U4 ..))).trans ((aq.ag (ne (U4 ..))).trans ((aq.ag (ne (U4 ..))).trans (aq.ag (ne (U4 ..)))))),]
  ·rw[[RZ,U7],⟨Xz hh,S.2.1,by rw[ax [.le (.p af (.k 1024)) bQ,.le aj (.k 1024)] (.le (.p af aj) bQ) (.l [1,1,1]) tt [_,_] hw s2,],S.2.2.2⟩,]
  ·rw[aA.rC ((((((((aA.refl.set rfl).trans (C.wide (Vj _) (U4 ..))).set rfl).set rfl).set rfl).set rfl).set rfl)) rfl rfl,]
end
end
noncomputable section
def yD:(∀i,i<h.length->C i=o i)->y1 C h=y1 o h:=by
 induction h with
 |nil=>exactλ_=>rfl
 |cons c h U=>
  rw[λJ=>(?_:y1 C h++[y0 C h c]=y1 o h++[y0 o h c]),[U λi hi=>J i (Vi hi),show y0 C h c=y0 o h c from c.casesOn (motive:=λc=>y0 C h c=y0 o h c) (λ_=>rfl) (λ_ _=>rfl) λ_ _ _=>by rw[2 y0,[J _ (Vs _)],]],]
def jV.congr:(∀i,i<h.length->I i=o i)->jV I σ h->jV o σ h:=by
 induction h with
 |nil=>exactλ_=>id
 |cons c h U=>
  rw[λJ=>?_,<-i U λi hi=>J i (Vi hi),c.casesOn (motive:=λc=>jV I σ (c::h)->jV o σ (c::h)) (λ_=>i) (λ_ _=>i) λ_ _ _ q=>⟨λe=>J _ (Vs _)▸q.1 e,i q.2⟩,]
def fy:(y1 C h).length=h.length:=by
 induction h with
 |nil=>rfl
 |cons c h o=>exact U7.trans (Ve Nat.succ o)
def jV.put(q:jV I σ h)(C:Nat.beq t.k 26=false):jV I (σ.set t o) h:=jV.same (λi=>aq.ag λe=>by rw[e] at C;rw[7 C,]) q
def JO(h:∀F vs,IsL F l vs->IsL F C vs):V.le (.tup l) (.tup C):=λF v i=>by rw[iU i λa o vs n e I J U b=>?_,0 i,⟨a,o,vs,n,e,I,J,U,h _ _ b⟩,]
def le_last(h:X.le X'):V.le (.tup [x,y,z,u,X]) (.tup [x,y,z,u,X']):=JO λF r i=>by rw[aB λk I=>cp i λt _ f l J=>cp J λv _ j m U=>cp U λw _ a n o=>cp o λA _ b p C=>cp C λB _ d q e=>I ?_,0 I k i J U o C,3 f,3 j,3 a,3 b,3 d,3 e,.cons l (.cons m (.cons n (.cons p (.cons (h _ _ q) .nil)))),]
def aH{σ:aq}{t u:Tg}{o:GO}{lo hi:Nat}(C:cW lo hi t=false)(I:cW lo hi u=true):(σ.set t o) u=σ u:=aq.ag λe=>by rw[e,I] at C;rw[7 C,]
section
variable{g:G0}{k:Nat}{exc:XQ}{lv:Addr}{h l:HI}{w ms:List Nat}{bk:Nat}{σ:aq}{Q:V->aq->Prop}{n:Nat}
def ez.tell{p:HA}{c:Ch}{X:V}(q:ez lv p h l w ms bk σ)(y:nn (c::l)=nn l)(z:l.length<50000)(A:X=y0 p.lR l c):
 ez lv p h (c::l) w ms bk (σ.set ⟨28,0⟩ (.one p.ch (.list (y1 p.lR l++[X])))):=by
 rw[aB λB C=>?_,];obtain⟨D,E,G,J,U,a,b,d,H,i,m,r,u,v,I⟩:=q;rw[C ?_,0 C B,8 A,⟨?_,E,G,J,U,λc L M=>a c L M,b.put rfl,d,rfl,i,λj N=>m j N,r.same λt x=>aH (lo:=0) (hi:=10) rfl x,u.same λt x=>aH (lo:=10) (hi:=20) rfl x,v,I.1,Xz z,I.2.2⟩,[y],D,]
def Bx(B:aK lv h h w ms bk σ)(D:a<nn h)(hb:b<nn h)(hh:h.length<50000)(hw:w.length+1024<=50000)
 (hQ:∀v σ',aK lv (.ed a b r::h) (.ed a b r::h) (jw h a b w) ms bk σ'->aA 0 40 σ σ'->Q v σ'):GC g (k+4) exc σ (.raw (.ref 563)) [.loc lv,vi a,vi b,r.v] Q:=by
 rw[(Jp oX oW rfl ?_).gc,<-d B,aw B λp q=>?_,0 B,<-C q.wf,];have hl:lo h a b<nn h/\hi h a b<nn h/\ay (mr h) (lo h a b)=lo h a b/\ay (mr h) (hi h a b)=hi h a b:=by
  by_cases e:ay (mr h) a=ay (mr h) b
  ·have h1:=dR (ew C) b
   rw[2 lo hi,[e,Nat.min_self,Nat.max_self],⟨VA h1.2 hb,VA h1.2 hb,h1.1,h1.1⟩,]
  ·rw[jU (JH C D hb e) λl1 X l3 l4=>⟨VK l1 X,X,l3,l4⟩,]
 have Y:ez lv {p with lR:=λi=>if i=h.length then p.gC (hi h a b) else p.lR i} h h w ms bk σ:=by
  rw[aB λR_ j=>?_,];obtain⟨ho,he,hf,G,J,H,L,M,U,P,R,S,W,C,x⟩:=q;rw[j ?_,0 j R_,];have hc:∀i,i<h.length->p.lR i=if i=h.length then p.gC (hi h a b) else p.lR i:=λi hi=>by rw[U8 (Vt hi)]
  exact⟨ho,he,hf,G,J,H,L.congr hc,M,(yD hc)▸U,P,R,S,W,C,x⟩
 rw[<-ht Y.tell (c:=.ed a b r) rfl hh rfl,<-ho q.o,<-U Y.ch,<-x q.sz,bL q.av λks J JP y=>?_,<-hk q.us _ hl.1 hl.2.2.1,2 h9,"w",gn d D ?_,"w",gn d hb<|lW (kr ?_),"w",cx (k1:=.i (lo h a b)) rfl J rfl (aZ.1 ((y _).mpr ⟨hl.1,hl.2.2.1⟩))<|aX (cv hk rfl) (U2 ..) (by have:=dC C (lo h a b);exact kl this) ?_,"w",cx (k1:=.i (hi h a b)) rfl J rfl (aZ.1 ((y _).mpr ⟨hl.2.1,hl.2.2.2⟩)) ?_,"w",EM (X':=y0 (λi=>if i=h.length then p.gC (hi h a b) else p.lR i) h (.ed a b r)) (le_last ?_) ?_,]
 ·split
  ·exactλ_ _ _=>trivial
  ·show V.le _ (.loc (if h.length=h.length then _ else _))
   rw[[Vb rfl],λ_ _ e=>e,]
 rw[aW U rfl (by rw[[fy],kt hh,]) λTB=>?_,"w",⟨lv,⟨20,0⟩,_,_,rfl,ho,?_⟩,2 iT,"w",EN ht (λ_=>Vb rfl) D hb hh hw λp' v σ' h1 h2=>hQ v σ' ⟨p',h1⟩ ((aA.refl.set rfl).trans h2),]
noncomputable def cH:List (Nd×Nat)->Nd->Option Nat
 |[],_=>none
 |p::r,x=>if p.1=x then some p.2 else cH r x
def ic{x:Nd}{l:List (Nd×Nat)}:aO (rB l) (dm x)=(cH l x).map vi:=by
 induction l with
 |nil=>rfl
 |cons p r o=>
  rw[(bq ..).trans<|(?_:_=(if p.1=x then some p.2 else cH r x).map vi),];by_cases q:p.1=x
  ·rw[Vb q,Vb (by rw[q])];rfl
  ·rw[[U8 q,U8 λe=>q (fU e)],o,]
def pJ{x:Nd}{l:List (Nd×Nat)}:cH l x=none->∀p∈l,p.1≠x:=by
 induction l with
 |nil=>exactλ_ _ o=>nomatch o
 |cons a r C=>
  rw[λe p o=>?_,]
  replace e:(if a.1=x then some a.2 else cH r x)=none:=e
  split at e
  ·exact nomatch e
  ·rw[4 q,(Vc.mp o).elim (λe=>e▸q) (C e p),]
def tG{x:Nd}{o:Nat}{l:List (Nd×Nat)}:cH l x=some o->(x,o)∈l:=by
 induction l with
 |nil=>exactλe=>nomatch e
 |cons a r C=>
  rw[λe=>?_,]
  replace e:(if a.1=x then some a.2 else cH r x)=some o:=e
  split at e
  ·rw[4 q,q▸VW e▸.head _,]
  ·rw[.tail _ (C e),]
noncomputable def wL(h:HI)(n:Nat):HI:=match cH (iC h) (gA h n) with
 |none=>.kn (gA h n) n::h
 |some o=>if ay (mr h) o=ay (mr h) n then h else .ed o n .d5::h
noncomputable def Gl(h:HI)(n:Nat)(w:List Nat):List Nat:=match cH (iC h) (gA h n) with
 |none=>w
 |some o=>jw h o n w
noncomputable def Ot(h:HI)(n:Nat):HI:=match cH (iC h) (gA h n) with
 |none=>.kn (gA h n) n::h
 |some _=>h
def EO(u:aK lv h (Ot h n) w ms bk σ)(d:n<nn h)(x:h.length<50000)(hw:w.length+1024<=50000)
 (I:∀v σ',aK lv (wL h n) (wL h n) (Gl h n w) ms bk σ'->aA 0 40 σ σ'->Q v σ'):Be g (k+5) exc σ (.raw (.ref 421)) [.loc lv,vi n] Q:=by
 rw[gi nD rfl rfl ?_,<-C u,aw u λp q=>?_,0 u,<-Y q.o,<-f q.kn,<-a q.wf,<-y jO (h:=h),2 hJ,];unfold Ot at C q;unfold wL Gl at I;rw["w",Bw C d ?_,"w",Gi (d4 (nd:=gA h n)) f rfl (by rw[2 rB,[U2],ax [.lt af bQ,.le aj af] (.le aj aE) (.l [1,1,1]) tt [_,_] x y,]) (λX J=>?_) (λJ U=>?_),]
 ·rw[ic] at J
  cases e:cH (iC h) (gA h n) with
  |none=>rw[e] at J;injection J
  |some o=>
   rw[e] at J I C;rw[1 J,<-i JE a _ (tG e),"w",gn C i ?_,"w",gn C d ?_,"w",en (λe=>?_) λe=>?_,]
   ·dsimp only at I
    rw[U8 e] at I;rw["w",Bx (r:=.d5) C i d x hw λv σ' A B=>?_,"w",I _ _ A B,]
   ·dsimp only at I
    unfold jw at I;rw[Vb e,Vb e] at I;rw[I _ _ C .refl,]
 ·rw[ic] at J
  cases e:cH (iC h) (gA h n) with
  |some o=>rw[e] at J;injection J
  |none=>
   rw[e] at I q;have hd:dput (rB (iC h)) (dm (gA h n)) (vi n)=rB (iC (.kn (gA h n) n::h)):=by rw[[dy (by rw[ic,e];rfl)],5 (_=rB (iC h++[(gA h n,n)])),2 rB,[Vd],];rfl
   rw[hd] at U⊢;have q2:ez lv p (.kn (gA h n) n::h) (.kn (gA h n) n::h) w ms bk (σ.set ⟨23,0⟩ (.one p.kn (.dT (rB (iC (.kn (gA h n) n::h)))))):=by rw[aB λR_ m=>?_,];obtain⟨Y,he,hf,f,D,E,G,H,L,M,N,P,R,a,S⟩:=q;rw[m ?_,0 m R_,⟨Y,he,hf,U,D,λc A B=>E c A B,G.put rfl,H,L,M,λj hj=>N j hj,P.same λt W=>aH (lo:=0) (hi:=10) rfl W,R.same λt W=>aH (lo:=10) (hi:=20) rfl W,⟨pJ e,d,a⟩,Xz x,S.2⟩,]
   have b:aK lv (.kn (gA h n) n::h) (.kn (gA h n) n::h) w ms bk _:=⟨p,q2⟩;rw["w",gn b d ?_,"w",gn b d ?_,"w",en (U9 rfl) λ_=>I _ _ b (aA.refl.set rfl),]
end
end
noncomputable section
section
variable{g:G0}{k:Nat}{exc:XQ}{lv:Addr}{h l:HI}{w ms:List Nat}{bk:Nat}{σ:aq}{Q:V->aq->Prop}{n:Nat}
def By(hu:aK lv h l w ms bk σ)(U:(l=h/\n<nn h)\/∃nd,h=.mk nd::l/\n=nn l)(y:h.length<50000)(hw:w.length+1024<=50000)
 (hQ:∀σ',aK lv (wL h n) (wL h n) (Gl h n w) ms bk σ'->aA 0 40 σ σ'->Q .none σ'):GC g (k+6) exc σ (.raw (.ref 555)) [.loc lv,vi n] Q:=by
 rw[(wB kx kv rfl jJ ?_).gc,];have hn:n<nn h:=by
  rcases U with U|⟨nd,rfl,rfl⟩
  ·rw[U.2,]
  ·rw[[dB],Vs _,]
 rw[aw hu λp q=>?_,0 hu,<-i q.wf,<-ho q.o,<-d q.ch,<-I q.sz,2 fu,"w",I7 (λm σ'=>m=[(0,.loc lv),(1,vi n)]/\ez lv p h h w ms bk σ'/\aA 0 40 σ σ') (λK' r=>⟨λe=>?_,λe=>?_⟩) λm σ' hI=>?_,]
 ·have e:=Wi e
  rcases U with⟨rfl,U⟩|⟨nd,rfl,rfl⟩
  ·rw[U9 e (Vt U),]
  ·rw["w",]
   rw[aW d rfl (by rw[[fy],kl I.2.1,]) λa=>?_,"w",bC ho rfl (U1 rfl) (λP=>by kernel_rfl) (U1 rfl) λz=>r _ _ ⟨rfl,?_,(aA.refl.set rfl).set rfl⟩,aB λR_ u=>?_,];obtain⟨_,he,hf,f,A,B,D,E,_,G,H,L,M,i,I⟩:=q;rw[u ?_,0 u R_,⟨?_,he,hf,f,A,λc N R=>B c N R,(D.put rfl).put rfl,E,a,G,λj hj=>H j hj,(L.same λt J=>aH (lo:=0) (hi:=10) rfl J).same λt J=>aH (lo:=0) (hi:=10) rfl J,(M.same λt J=>aH (lo:=10) (hi:=20) rfl J).same λt J=>aH (lo:=10) (hi:=20) rfl J,i,I.1,I.1,I.2.2⟩,z.trans ?_,2 JG,[dB],];rfl
 ·have e:=Xp e
  rcases U with⟨rfl,U⟩|⟨nd,rfl,rfl⟩
  ·rw[r _ _ ⟨rfl,q,.refl⟩,]
  ·rw[U9 rfl e,]
 ·rw[dG hI λS b x=>?_,0 hI,3 S,]
  have W:aK lv h h w ms bk σ':=⟨p,b⟩;rw[0 W,<-ho b.o,<-d b.ch,<-f b.kn,<-I b.sz,"w",Bw ⟨p,b⟩ hn ?_,"w",Bo (d4 (nd:=gA h n)) f rfl ?_,[ic],"w",];have fin:∀C,ez lv p h (Ot h n) w ms bk C->aA 0 40 σ C->ED g (k+5) exc Q dP 578 421 (λ_ m σ=>fw ⟨g,k+5,Q,exc⟩ (λ_ _ σ=>Q .none σ) [] m σ) [] [(2,aP (gA h n)),(0,.loc lv),(1,vi n)] C:=λC q2 X=>by rw[⟨lv,⟨20,0⟩,_,_,rfl,q2.o,?_⟩,2 dP,"w",EO ⟨p,q2⟩ hn y hw λv Y N R=>hQ Y N (X.trans R),]
  have J:Ot h n=match cH (iC h) (gA h n) with|none=>.kn (gA h n) n::h|some _=>h:=rfl
  cases e:cH (iC h) (gA h n) with
  |some o=>
   rw[e] at J;refine w_ite (λe=>nomatch e) λ_=>fin σ' (J▸b) x
  |none=>
   rw[e] at J;refine w_ite (λ_=>?_) λe=>nomatch e;rw["w",aW d rfl (by rw[[fy],kt y,]) λa=>?_,"w",fin _ (J▸b.tell (c:=.kn (gA h n) n) rfl y rfl) (x.set rfl),]
inductive yE:Nat->HI->List Nat->HI->Prop
 |done {h:HI}:yE 0 h [] h
 |step {h h':HI} {w:List Nat} {n x:Nat}:n<nn h->h.length<50000->w.length+1024<=50000->yE x (wL h n) (Gl h n w) h'->yE (x+1) h (w++[n]) h'
def Bz(W:aK lv h h w ms bk σ)(X:yE x h w h')(Y:∀σ',aK lv h' h' [] ms bk σ'->aA 0 40 σ σ'->Q .none σ'):GC g (k+7) exc σ (.raw (.ref 456)) [.loc lv] Q:=by
 rw[a8 oN rfl rfl ?_,2 iQ,qW (λx m σ'=>∃I f,m=[(0,.loc lv)]/\aK lv I I f ms bk σ'/\yE x I f h'/\aA 0 40 σ σ') (m0:=[(0,.loc lv)]) ⟨rfl,trivial⟩ ⟨h,w,rfl,W,X,.refl⟩ λx m σ' R=>iz R λI f i J r a=>?_,0 R,3 i,<-u J,aw J λp q=>?_,0 J,<-S q.o,<-U q.wt,<-C q.sz,"w",aX (cv U rfl) (U2 ..) (kl C.2.2.1) ?_,"w",];cases r with
 |done=>exact oQ (λe=>U9 e (VB _)) λ_=>Y _ u a
 |step s1 s2 v s4=>
  rw[oQ (λ_=>?_) λe=>U9 (by simp) e,];rw[Vd] at U;rw[U7] at C;rw["w",dz U rfl (by rw[[U2],km v,]) λb=>?_,"w",By (w:=_) (l:=I) (ms:=ms) (bk:=bk) ⟨p,?_⟩ (.inl ⟨rfl,s1⟩) s2 v λBA u2 y=>?_,]
  ·rw[aB λR_ d=>?_,];obtain⟨S,he,hf,z,A,B,D,_,E,G,H,L,M,N,C⟩:=q;rw[d ?_,0 d R_,]
   exact⟨S,he,hf,z,A,λc I h2=>B c I h2,D.put rfl,b,E,G,λj hj=>H j hj,L.same λt P=>aH (lo:=0) (hi:=10) rfl P,M.same λt P=>aH (lo:=10) (hi:=20) rfl P,N,C.1,C.2.1,by rw[km v,],C.2.2.2⟩
  ·rw["w",]
   exact⟨rfl,_,[(0,.loc lv)],Vs _,⟨rfl,trivial⟩,_,_,rfl,u2,s4,(a.set rfl).trans y⟩
def tH(C:aK lv h h w ms bk σ)(J:a<nn h)(U:b<nn h)(d:h.length<50000)(e:w.length+1024<=50000)
 (f:∀v σ',aK lv (.ed a b r::h) (.ed a b r::h) (jw h a b w) ms bk σ'->aA 0 40 σ σ'->Q v σ'):GC g (k+5) exc σ (.raw (.ref 442)) [.loc lv,vi a,vi b,r.v] Q:=by
 rw[a8 qN rfl rfl ?_,<-I C,aw C λp q=>?_,0 C,<-m q.o,2 jE,"w",Bx I J U d e λv σ' i j=>?_,"w",f v σ' i j,]
def l8:(Bv o ms).length=ms.length:=by unfold Bv;simp
def ES(J:aK lv h l w ms bk σ)(U:Q (vi ms.length) σ):GC g (k+1) exc σ (.raw (.ref 533)) [.loc lv] Q:=by rw[a8 nF rfl rfl<|aw J λp q=>?_,0 J,<-a q.o,<-C q.JF,<-I q.sz,2 hL,"w",aX (cv C rfl) l8 (kl I.2.2.2) ?_,"w",U,]
def BB:Bv (λj=>if j=ms.length then b else o j) (ms++[x])=Bv o ms++[.tup [vi x,.loc b]]:=by
 rw[2 Bv,[List.zipIdx_append,Vd],];congr 1
 ·rw[Vy λp C=>?_,]
  have:p.2<ms.length:=by obtain⟨a,i⟩:=p;have:=(List.mem_zipIdx C).2.1;simp at this;rw[this,]
  show V.tup [vi p.1,.loc (if p.2=ms.length then b else o p.2)]=_;rw[U8 (Vt this)]
 ·simp
def JQ(W:aK lv h h [] ms bk σ)(hm:ms.length<100)(X:∀σ',aK lv h h [] (ms++[h.length]) bk σ'->aA 0 40 σ σ'->Q .none σ'):GC g (k+1) exc σ (.raw (.ref 540)) [.loc lv] Q:=by
 rw[a8 oP rfl rfl<|aw W λp q=>?_,0 W,<-ho q.o,<-x q.JF,<-J q.ch,<-U q.wt,<-C q.sz,2 iR,"w",aX (cv J rfl) fy (kl C.2.1) ?_,"w",wm (cv U rfl) (Vj _) (.inr ⟨⟨30,ms.length⟩,λb=>?_⟩),"w",aW x rfl (by rw[[l8],kt hm,]) λy=>?_,"w",X _ ⟨{p with vo:=λj=>if j=ms.length then b else p.vo j},?_⟩ ((aA.refl.set rfl).set rfl),aB λY B=>?_,];obtain⟨ho,he,hf,D,G,H,L,U,J,x,M,P,R,S,C⟩:=q;rw[B ?_,0 B Y,⟨ho,he,hf,D,G,λc h1 h2=>H c h1 h2,(L.put rfl).put rfl,U,J,?_,λj hj=>?_,(P.same λt d=>aH (lo:=0) (hi:=10) rfl d).same λt d=>aH (lo:=0) (hi:=10) rfl d,(R.same λt d=>aH (lo:=10) (hi:=20) rfl d).same λt d=>aH (lo:=10) (hi:=20) rfl d,S,C.1,C.2.1,C.2.2.1,by rw[[U7],hm,]⟩,]
 ·rw[[BB],y,]
 ·show aq.set (σ.set ⟨30,ms.length⟩ _) _ _ ⟨30,j⟩=some (GO.one (if j=ms.length then b else p.vo j) _)
  rw[aH (t:=⟨29,0⟩) (u:=⟨30,j⟩) (lo:=30) (hi:=31) rfl rfl];by_cases q:j=ms.length
  ·rw[[Vb q,q],aq.ae,]
  ·rw[U8 q]
   rw[U7] at hj;exact(fT λe=>q e.symm).trans (M j (by have:=hj;exact ax [.ne af aj,.lt af (.p aj aF)] (.lt af aj) (.s 1 (.l [1,1]) (.l [1,0,1])) tt [_,_] q this))
end
end
noncomputable section
def wM{l:List Nat}(C:l.length<=2):(l.foldl cu []).length<=2/\(l.foldl cu []).Pairwise (· <·)/\∀z,z∈l.foldl cu []↔z∈l:=by
 match l,C with
 |[],_=>exact⟨by assumption,.nil,λz=>Iff.rfl⟩
 |[a],_=>exact⟨by trivial,VY ..,λz=>Iff.rfl⟩
 |[a,b],_=>
  have o:(cu [] a).length<=1:=by rw[Vs _,]
  rw[⟨show(cu (cu [] a) b).length<=2 from U3 mR (VJ o),sd o,λz=>?_⟩,5 (z∈cu (cu [] a) b↔_),[sb o],];simp[cu]
def fB{C β:Type}{f:C->β}{l:List C}{P:β->Prop}(h:∀x∈l,P (f x)):∀y∈l.map f,P y:=λy I=>by rw[ah (Vn.mp I) λx J o=>?_,3 o,h x J,]
section
variable{g:G0}{k:Nat}{exc:XQ}{lv:Addr}{h l:HI}{w ms:List Nat}{bk:Nat}{σ:aq}{Q:V->aq->Prop}{n:Nat}
def bB(σ σ':aq):Prop:=∀t:Tg,(Nat.blt t.k 40||Nat.beq t.k 60)=false->σ' t=σ t
def bB.refl:bB σ σ:=λ_ _=>rfl
def bB.trans(h:bB σ σ')(h':bB σ' o):bB σ o:=λu C=>(h' u C).trans (h u C)
def bB.set(h:bB σ σ')(C:(Nat.blt t.k 40||Nat.beq t.k 60)=true):bB σ (σ'.set t o):=λu I=>(aq.ag λ(e:t=u)=>by rw[e,I] at C;rw[7 C,]).trans (h u I)
def bB.del(h:bB σ σ')(o:(Nat.blt t.k 40||Nat.beq t.k 60)=true):bB σ (σ'.del t):=λu C=>(aq.aR λ(e:t=u)=>by rw[e,C] at o;rw[7 o,]).trans (h u C)
def bB.rC{σ σ':aq}{t t':Tg}{a:Addr}{k:OK}(h:bB σ σ')(h1:(Nat.blt t.k 40||Nat.beq t.k 60)=true)(o:(Nat.blt t'.k 40||Nat.beq t'.k 60)=true):bB σ (σ'.rC t t' a k):=(h.del h1).set o
def kz:(Nat.blt k 40||Nat.beq k 60)=false↔40<=k/\k≠60:=by
 rw[[Bool.or_eq_false_iff],and_congr ?_ ?_,]
 ·rw[<-Bool.not_eq_true];rw[2 Nat.blt,[Yk],VV,]
 ·rw[<-Bool.not_eq_true,PG]
def aA.a{lo hi:Nat}{σ σ':aq}(h:aA lo hi σ σ')(o:hi<=40\/60<=lo/\hi<=61):bB σ σ':=λt C=>h t (VC.mpr λq=>by rw[<-a az.mp q,<-b kz.mp C,o.elim (λe=>VV.mpr b.1 (Vg a.2 e)) λe=>b.2 (Xq (Wh (Vg a.2 e.2)) (U3 e.1 a.1)),])
def bB.of2(h:aA 0 61 σ σ')(h':Kept 29 60 σ σ'):bB σ σ':=λt o=>by
 have:=kz.mp o;by_cases q:t.k<60
 ·rw[h' t (az.mpr ⟨by rw[ax [.le (.k 40) af] (.le (.k 29) af) (.l [1,1]) tt [_] this.1,],q⟩),]
 ·rw[h t (VC.mpr λC=>this.2 (Xq (Wh (az.mp C).2) (Wn q))),]
noncomputable def fa(h:HI)(nd:Nd):HI:=if nd∈aI h then h else wL (.mk nd::h) (nn h)
noncomputable def wN(h:HI)(nd:Nd)(w:List Nat):List Nat:=if nd∈aI h then w else Gl (.mk nd::h) (nn h) w
def wO{F:Fr}{K:KS}{s:List V}{m:GM}{σ0:aq}{C U:Nat}{E u:Addr}{fs:List (Nat×V)}{N:Nat}{r:MG}{ks:List Nat}{v:SC}{kk:Nat}(G:F.k=kk+2)(I:¬U=C)(o:lk m C=some (.loc lv))
 (a:∀z,z (.tup (ks.map vi)::s) m σ->v F z s m σ)
 (A:σ0 ⟨20,0⟩=some (.obj lv 578 E fs)) (B:σ ⟨20,0⟩=σ0 ⟨20,0⟩) (b:lk fs 13=some (.loc u)) (J:lk fs 48=none) (d:lZ u N r σ) (f:∀i∈ks,i<N) (j:ks.length<=2)
 (D:K (.lst ((ks.map (ay r)).map vi)::s) m σ):
 comp false [C] v (aN U<|ao) (au (.bool true)<|ao) (aa C<|a' 48<|aa U<|ba 1<|ao) F K s m σ:=by
 rw[cj [(C,.loc lv)] rfl ⟨o,trivial⟩ (a _ (aY ⟨o,trivial⟩ (.tup _) ?_)),bJ (y:=λk=>vi (ay r k)) ks [] (λx H L M q t=>?_) (by simp only[Wm];rw[ax [.le af gI] (.le (.p gp af) aE) (.l [1,1]) tt [_] j,]) (by rw[VD] at D;rw[D,]),bG ⟨rfl,nM (λ_=>?_) λe=>nomatch e⟩,ej (by rw[[cQ I],d9,]) (vf A B J (U1 rfl) (λP=>by kernel_rfl) (ej d9 (wz ?_))),5 (GC F.g F.k iI σ ..),[G],tF (B.trans A) b J d (f x H) ⟨⟨by rw[[cQ I],d9,],trivial⟩,q,t⟩,]
def JR{d:List Nat}{A:Nat->List Nat}{o:Nat->Addr}{f:Nat->Nat}{σ':aq}{i m n:Nat}(J:∀c,c<n->f c=c->σ' ⟨25,c⟩=some (.one (o c) (.list ((if c∈d then A c++[m] else A c).map vi))))(pb:i∉d):
 ∀c,c<n->f c=c->(σ'.set ⟨25,i⟩ (.one (o i) (.list ((A i).map vi++[vi m])))) ⟨25,c⟩=some (.one (o c) (.list ((if c∈d++[i] then A c++[m] else A c).map vi))):=λc U a=>by
 by_cases I:i=c
 ·rw[<-I,Vb (Vm _ (Vr i)),Vd];rw[aq.ae,]
 ·rw[(fT I).trans ((J c U a).trans ?_),]
  have:(c∈d++[i])↔c∈d:=by rw[[Vk,U5],⟨λe=>e.resolve_right λe=>I e.symm,.inl⟩,]
  by_cases C:c∈d
  ·rw[Vb C,Vb (this.mpr C)]
  ·rw[U8 C,U8 λe=>C (this.mp e)]
def Gm{x:Str}{ks:List Nat}(hu:aK lv h h w ms bk σ)(HH:lQ x)(hk:∀i∈ks,i<nn h)(hl:ks.length<=2)(hn:nn h<8)(hh:h.length+1<50000)(hw:w.length+1024<=50000)
 (hQ:∀σ',aK lv (fa h (x,ks)) (fa h (x,ks)) (wN h (x,ks) w) ms bk σ'->bB σ σ'->Q (vi (oZ (aI h) (x,ks))) σ'):GC g (k+7) exc σ (.raw (.ref 409)) [.loc lv,.str x,.tup (ks.map vi)] Q:=by
 rw[bp u0 rfl rfl rfl<|aw hu λp q=>?_,0 hu,<-UP q,aB λR_ B=>?_,];obtain⟨ho,he,hf,JI,⟨D,Om,JP,X⟩,La,JJ,JK,Cp,JL,y2,Cq,R0,S,jy⟩:=q;rw[B ?_,0 B R_,<-BC Cq,<-vp R0,6 BC,λxK=>aB λR_ B=>n0 xK λbD no nu we de ws ds Qn=>?_,0 xK,];rcases Qn with⟨Gk,_⟩;rw[B ?_,0 B R_,6 vp,λJS=>aB λR_ B=>rF JS λuD Qg Qh Qi JN Gn=>?_,0 JS,];rcases Gn with⟨Nj,_,_,_,_,_,_⟩;rw[B ?_,0 B R_,2 nA,];unfold fa wN at hQ;rw["w",Jw Cq HH hk hl (VK hn (U4 ..)) λA4 Y C=>?_,<-yX (C ⟨20,0⟩ rfl).trans ho,<-yF (C ⟨24,0⟩ rfl).trans Om,<-Qo (C ⟨10,0⟩ rfl).trans Nj,<-M R0.same (C.kept (.inl (Va _))),"w",EG M ?_,"w",];by_cases hm:(x,ks)∈aI h
 ·rw[Vb hm,Vb hm] at hQ
  have hp:oZ (aI h) (x,ks)<nn h:=aS (jL hm);rw[aQ (λ_=>?_) λe=>U9 hp e,"w",hQ A4 ⟨p,?_⟩ (C.a (.inl (U4 ..))),];have Qp:Bs (aI h) (x,ks)=aI h:=Vb hm;rw[Qp] at Y;exact⟨yX,(C ⟨21,0⟩ rfl).trans he,(C ⟨22,0⟩ rfl).trans hf,(C ⟨23,0⟩ rfl).trans JI,⟨D,yF,JP,X⟩,λc h1 h2=>(C ⟨25,c⟩ rfl).trans (La c h1 h2),JJ.same λi=>C ⟨26,i⟩ rfl,(C ⟨27,0⟩ rfl).trans JK,(C ⟨28,0⟩ rfl).trans Cp,(C ⟨29,0⟩ rfl).trans JL,λj hj=>(C ⟨30,j⟩ rfl).trans (y2 j hj),Y,M,S,jy⟩
 ·rw[U8 hm,U8 hm] at hQ
  have hp:oZ (aI h) (x,ks)=nn h:=l7 hm;rw[hp] at hQ⊢;rw[aQ (λe=>U9 e (VB _)) λ_=>?_,];have Qp:Bs (aI h) (x,ks)=aI h++[(x,ks)]:=U8 hm;rw[Qp] at Y;rw["w",Jq M (kl hn) λU Ou H=>?_,<-L' (H ⟨20,0⟩ rfl).trans yX,<-Nl (H ⟨24,0⟩ rfl).trans yF,<-Ov Y.same (H.kept (.inr (Va _))),];have wG:D.length<=nn h:=aJ JP λx hx=>((X x).mp hx).1;have Nm:nn h∉D:=λe=>VB _ ((X _).mp e).1;have JV:∀i∈ks,i<nn h+1:=λi hi=>Vi (hk i hi);rw["w",cF ⟨25,nn h⟩ λJ R1=>?_,"w",eD (k1:=.i (nn h)) rfl Nl rfl (by rw[[U2],ax [.lt af eo,.le aj af] (.le aj aE) (.l [1,1,1]) tt [_,_] hn wG,]) λR=>?_,];rw[dy (aZ.2 Nm)] at R⊢;rw["w",];have ET:lZ p.u (nn h+1) (mr h) ((U.set ⟨25,nn h⟩ (.one J (.list []))).set ⟨24,0⟩ (.one p.ab (.dA ((D.map λ(c:Nat)=>(Atom.i c,V.loc (p.gC c)))++[(.i (nn h),.loc J)])))):=
   (Ou.same λt L=>aH (lo:=10) (hi:=20) rfl L).same λt L=>aH (lo:=10) (hi:=20) rfl L
  rw[wO (kk:=k+4) rfl (by decide) rfl (λK' Qq=>Qq) L' rfl rfl rfl ET JV hl ?_,];have Nn:∀y∈ks.map (ay (mr h)),y<nn h:=fB λx hx=>VA (dR (ew S) x).2 (hk x hx);have Hz:∀y∈ks.map (ay (mr h)),ay (mr h) y=y:=fB λx hx=>(dR (ew S) x).1;rw[Gf ⟨60,5⟩ bT (λy hy=>VK (Nn y hy) hn) (by rw[[U2],hl,]) λbs Ow=>dG (wM (l:=ks.map (ay (mr h))) (by rw[[U2],hl,])) λi1 i2 i3=>?_,pE Ow rfl i1 i2 ?_,];generalize TC:(ks.map (ay (mr h))).foldl cu []=ps at*;have DG:∀y∈ps,y<nn h/\ay (mr h) y=y:=λy hy=>⟨Nn y ((i3 y).mp hy),Hz y ((i3 y).mp hy)⟩;have wQ:(D.map λ(c:Nat)=>(Atom.i c,V.loc (p.gC c)))++[(.i (nn h),.loc J)]=(D++[nn h]).map λ(c:Nat)=>(Atom.i c,V.loc (if c=nn h then J else p.gC c)):=by
   rw[Vd];congr 1
   ·rw[Vy λc hc=>?_,]
    rw[U8 (show¬c=nn h fromλe=>Nm (e▸hc))]
   ·show _=[(Atom.i (nn h),V.loc (if nn h=nn h then J else p.gC (nn h)))]
    rw[Vb rfl]
  rw[wQ] at R⊢;clear wQ;have Lb:bB σ (((U.set ⟨25,nn h⟩ (.one J (.list []))).set ⟨24,0⟩ (.one p.ab (.dA ((D++[nn h]).map λ(c:Nat)=>(Atom.i c,V.loc (if c=nn h then J else p.gC c)))))).set ⟨60,5⟩ (.one bs (.set ps))):=
   ((((C.a (.inl (U4 ..))).trans (H.a (.inl (U4 ..)))).set rfl).set rfl).set rfl
  have Qr:cZ p.b (aI h++[(x,ks)]) (((U.set ⟨25,nn h⟩ (.one J (.list []))).set ⟨24,0⟩ (.one p.ab (.dA ((D++[nn h]).map λ(c:Nat)=>(Atom.i c,V.loc (if c=nn h then J else p.gC c)))))).set ⟨60,5⟩ (.one bs (.set ps))):=
   ((Ov.same λt L=>aH (lo:=0) (hi:=10) rfl L).same λt L=>aH (lo:=0) (hi:=10) rfl L).same λt L=>aH (lo:=0) (hi:=10) rfl L
  have Np:lZ p.u (nn h+1) (mr h) (((U.set ⟨25,nn h⟩ (.one J (.list []))).set ⟨24,0⟩ (.one p.ab (.dA ((D++[nn h]).map λ(c:Nat)=>(Atom.i c,V.loc (if c=nn h then J else p.gC c)))))).set ⟨60,5⟩ (.one bs (.set ps))):=
   ((Ou.same λt L=>aH (lo:=10) (hi:=20) rfl L).same λt L=>aH (lo:=10) (hi:=20) rfl L).same λt L=>aH (lo:=10) (hi:=20) rfl L
  have hold:∀t:Tg,cW 20 31 t=true->Nat.beq t.k 24=false->Nat.beq t.k 25=false->(((U.set ⟨25,nn h⟩ (.one J (.list []))).set ⟨24,0⟩ (.one p.ab (.dA ((D++[nn h]).map λ(c:Nat)=>(Atom.i c,V.loc (if c=nn h then J else p.gC c)))))).set ⟨60,5⟩ (.one bs (.set ps))) t=σ t:=λt h1 h2 h3=>
   (aq.ag λe=>by rw[<-e] at h1;rw[7 h1,]).trans ((aq.ag λe=>by rw[<-e] at h2;rw[7 h2,]).trans ((aq.ag λe=>by rw[<-e] at h3;rw[7 h3,]).trans ((H.kept (by decide) t h1).trans (C.kept (by decide) t h1))))
  have JW:∀c,c<nn h->ay (mr h) c=c->(((U.set ⟨25,nn h⟩ (.one J (.list []))).set ⟨24,0⟩ (.one p.ab (.dA ((D++[nn h]).map λ(c:Nat)=>(Atom.i c,V.loc (if c=nn h then J else p.gC c)))))).set ⟨60,5⟩ (.one bs (.set ps))) ⟨25,c⟩=some (.one (p.gC c) (.list ((ab h c).map vi))):=λc h1 h2=>
   (fT (σ:=U) (WO h1)).trans ((H ⟨25,c⟩ rfl).trans ((C ⟨25,c⟩ rfl).trans (La c h1 h2)))
  have Qs:(((U.set ⟨25,nn h⟩ (.one J (.list []))).set ⟨24,0⟩ (.one p.ab (.dA ((D++[nn h]).map λ(c:Nat)=>(Atom.i c,V.loc (if c=nn h then J else p.gC c)))))).set ⟨60,5⟩ (.one bs (.set ps))) ⟨25,nn h⟩=some (.one J (.list [])):=R1;generalize Qt:(((U.set ⟨25,nn h⟩ (.one J (.list []))).set ⟨24,0⟩ (.one p.ab (.dA ((D++[nn h]).map λ(c:Nat)=>(Atom.i c,V.loc (if c=nn h then J else p.gC c)))))).set ⟨60,5⟩ (.one bs (.set ps)))=pI at*;have Og:pI ⟨20,0⟩=_:=(hold ⟨20,0⟩ rfl rfl rfl).trans ho;have Nq:pI ⟨24,0⟩=some (.one p.ab (.dA ((D++[nn h]).map λ(c:Nat)=>(Atom.i c,V.loc (if c=nn h then J else p.gC c))))):=Qt▸R;clear Qt Ow R1 R Nl ET Ov L' Ou H M Qo yF yX C Y;refine hV (e5 (m0:=[(3,vi (nn h)),(0,.loc lv),(1,.str x),(2,.tup (ks.map vi))]) (λd r σ'=>d++r=ps/\aA 25 26 pI σ'/\σ' ⟨25,nn h⟩=some (.one J (.list []))/\∀c,c<nn h->ay (mr h) c=c->σ' ⟨25,c⟩=some (.one (p.gC c) (.list ((if c∈d then ab h c++[nn h] else ab h c).map vi))))
   (λd i r σ' P hI hP=>?_) (λd m σ' DY hI=>?_) _ [] _ _ ⟨rfl,rfl,rfl,rfl,trivial⟩ ⟨rfl,.refl,Qs,λc h1 h2=>by rw[[U8 (WG)],JW c h1 h2,]⟩)
  ·rw[jU hI λW hs Cr Ox=>?_,0 hI,]
   have Qu:i∈ps:=W▸Vm _ (.head _);have hi':=DG i Qu;have pb:i∉d:=λq=>VB i ((List.pairwise_append.mp (W▸i2)).2.2 i q i (.head _));have Nr:=Ox i hi'.1 hi'.2;rw[U8 pb] at Nr;have Lc:=(hs ⟨20,0⟩ rfl).trans Og;have Qv:=(hs ⟨24,0⟩ rfl).trans Nq;have Pu:i≠nn h:=Vt hi'.1;have Qw:i∈D++[nn h]:=Vv _ ((X i).mpr hi');rw[bX ⟨rfl,?_⟩,"w",cx (k1:=.i i) rfl Qv rfl ((aZ.1 Qw).trans (Ve (λa=>some (V.loc a)) (U8 Pu))) ?_,"w",aW Nr rfl (by rw[[U2],<-this dC S i,kl this,]) λQx=>⟨rfl,hP _ _ ⟨rfl,rfl,rfl,rfl,trivial⟩ ⟨by rw[[Vo],W,],hs.set rfl,(fT Pu).trans Cr,JR Ox pb⟩⟩,]
  ·rw[jU hI λW hs Cr Ox=>?_,0 hI,]
   ·rw[VR] at W
    subst W;have l0:lk m 0=some (.loc lv):=cR DY 0 _ rfl;have l3:lk m 3=some (vi (nn h)):=cR DY 3 _ rfl;have Lc:=(hs ⟨20,0⟩ rfl).trans Og;have G:∀t:Tg,cW 20 31 t=true->Nat.beq t.k 24=false->Nat.beq t.k 25=false->σ' t=σ t:=λt h1 h2 h3=>(hs t (VC.mpr λe=>by
     have:=az.mp e;have:t.k=25:=by rw[ax [.le (.k 25) af,.lt af (.k 26)] (.eq af (.k 25)) (.s 0 (.l [1,1]) (.l [1,0,1])) tt [_] this.1 this.2,]
     rw[this] at h3;injection h3)).trans (hold t h1 h2 h3)
    have q4:ez lv {p with gC:=λc=>if c=nn h then J else p.gC c} (.mk (x,ks)::h) h w ms bk σ':=by
     rw[⟨Lc,(G ⟨21,0⟩ rfl rfl rfl).trans he,(G ⟨22,0⟩ rfl rfl rfl).trans hf,(G ⟨23,0⟩ rfl rfl rfl).trans JI,⟨D++[nn h],(hs ⟨24,0⟩ rfl).trans Nq,?_,λc=>?_⟩,λc h1 h2=>?_,JJ.same λi=>G ⟨26,i⟩ rfl rfl rfl,(G ⟨27,0⟩ rfl rfl rfl).trans JK,(G ⟨28,0⟩ rfl rfl rfl).trans Cp,(G ⟨29,0⟩ rfl rfl rfl).trans JL,λj hj=>(G ⟨30,j⟩ rfl rfl rfl).trans (y2 j hj),Qr.same (hs.kept (.inr (U4 ..))),?_,⟨hm,hl,hk,hn,S⟩,?_⟩,]
     ·rw[Wu]
      exact⟨JP,VY ..,λa ha b hb e=>Nm (by rw[U5.mp hb] at e;rw[e▸ha,])⟩
     ·rw[Vk,U5,X,dB]
      show(c<nn h/\ay (mr h) c=c)\/c=nn h↔c<nn h+1/\ay (mr h) c=c;constructor
      ·rintro(⟨h1,h2⟩|rfl)
       ·exact⟨Vi h1,h2⟩
       ·exact⟨Vs _,(l6 (ew S) _ (Va _)).2.2⟩
      ·rintro⟨h1,h2⟩
       rcases Nat.lt_or_eq_of_le (Wh h1) with q|q
       ·rw[.inl ⟨q,h2⟩,]
       ·rw[.inr q,]
     ·rw[dB] at h1
      show _=some (GO.one (if c=nn h then J else p.gC c) (.list ((if c=nn h then[] else if c∈ks.map (ay (mr h)) then ab h c++[nn h] else ab h c).map vi)));by_cases qc:c=nn h
      ·rw[[Vb qc,Vb qc,qc],Cr,]
      ·rw[U8 qc,U8 qc,Ox c (ax [.lt af (.p aj aF),.ne af aj] (.lt af aj) (.s 2 (.l [1,1]) (.l [1,0,1])) tt [_,_] h1 qc) h2]
       by_cases qd:c∈d
       ·rw[Vb qd,Vb ((i3 c).mp qd)]
       ·rw[U8 qd,U8 λe=>qd ((i3 c).mpr e)]
     ·rw[[dB],Np.same (hs.kept (.inr (U4 ..))),]
     ·exact⟨VP hh,jy.2⟩
    rw["w",By (l:=h) ⟨_,q4⟩ (.inr ⟨_,rfl,rfl⟩) hh hw λQy h5 Nt=>?_,"w",hQ Qy h5 ((Lb.trans (hs.a (by decide))).trans (Nt.a (by decide))),]
end
end
noncomputable section
section
variable{g:G0}{k:Nat}{exc:XQ}{lv:Addr}{h l:HI}{w ms:List Nat}{bk:Nat}{σ0 σ:aq}{Q:V->aq->Prop}{n:Nat}
def JX{r:List Nat}{A:Nat->List Nat}{o:Nat->Addr}{f:Nat->Nat}{σ':aq}{i m n:Nat}(U:∀c,c<n->f c=c->σ' ⟨25,c⟩=some (.one (o c) (.list ((if c∈i::r then A c++[m] else A c).map vi))))(I:i∉r):
 ∀c,c<n->f c=c->(σ'.set ⟨25,i⟩ (.one (o i) (.list ((A i).map vi)))) ⟨25,c⟩=some (.one (o c) (.list ((if c∈r then A c++[m] else A c).map vi))):=λc a b=>by
 by_cases J:i=c
 ·rw[<-J,U8 I];rw[aq.ae,]
 ·rw[(fT J).trans ((U c a b).trans ?_),]
  have:(c∈i::r)↔c∈r:=by rw[[Vc],⟨λe=>e.resolve_left λe=>J e.symm,.inr⟩,]
  by_cases C:c∈r
  ·rw[Vb C,Vb (this.mpr C)]
  ·rw[U8 C,U8 λe=>C (this.mp e)]
def BD(q:ez lv p (.mk nd::h) (.mk nd::h) w ms bk σ0)(hs:aA 28 29 σ0 σ)(hc:σ ⟨28,0⟩=some (.one p.ch (.list (y1 p.lR h))))(hQ:∀σ',aK lv h h w ms bk σ'->aA 0 61 σ σ'->Kept 29 60 σ σ'->Q .none σ'):GC g (k+5) exc σ (.raw (.ref 568)) [.loc lv,vi (nn h)] Q:=by
 rw[bp lL rfl rfl rfl ?_,];have L:∀t:Tg,cW 28 29 t=false->σ t=σ0 t:=hs;rw[aB λR_ J=>?_,];obtain⟨ho,he,hf,JI,⟨kk,M,JP,N⟩,La,JJ,JK,Cp,JL,y2,E,R,U,jy⟩:=q;rw[J ?_,0 J R_,];have a:nn (.mk nd::h)=nn h+1:=dB;rw[a] at ho
 replace ho:=(L ⟨20,0⟩ rfl).trans ho
 replace M:=(L ⟨24,0⟩ rfl).trans M
 replace La:=λc I f=>(L ⟨25,c⟩ rfl).trans (La c I f)
 replace E:=E.same (hs.kept (.inr (U4 ..)))
 replace R:=R.same (hs.kept (.inr (U4 ..)))
 rw[6 U,λNu=>y9 Nu λhm hl hk hn U=>?_,0 Nu,<-BC E,<-vp R,6 BC,λCs=>aB λR_ J=>n0 Cs λbD no nu we de ws ds Ci=>?_,0 Cs,];rcases Ci with⟨Gk,_⟩;rw[J ?_,0 J R_,6 vp,λxK=>aB λR_ J=>rF xK λuD Qg Qh Qi JN Qn=>?_,0 xK,];rcases Qn with⟨Nj,_,_,_,_,_,_⟩;rw[J ?_,0 J R_,2 gw,"w",];have Y:lZ p.u (nn h+1) (mr h) σ:=a▸R;have JV:∀i∈nd.2,i<nn h+1:=λi hi=>Vi (hk i hi);rw[wO (kk:=k+2) rfl (by decide) rfl (λK' Qq=>?_) ho rfl rfl rfl Y JV hl ?_,]
 ·rw["w",]
  rw[ky E (nd:=nd) (show(aI h++[nd])[nn h]?=some nd by rw[WK ..,]) Qq,]
 have Nn:∀y∈nd.2.map (ay (mr h)),y<nn h:=fB λx hx=>VA (dR (ew U) x).2 (hk x hx);have Hz:∀y∈nd.2.map (ay (mr h)),ay (mr h) y=y:=fB λx hx=>(dR (ew U) x).1;rw[Gf ⟨60,5⟩ bT (λy hy=>VK (Nn y hy) hn) (by rw[[U2],hl,]) λbs Ow=>dG (wM (l:=nd.2.map (ay (mr h))) (by rw[[U2],hl,])) λi1 i2 i3=>?_,pE Ow rfl i1 i2 ?_,];generalize TC:(nd.2.map (ay (mr h))).foldl cu []=ps at*;have DG:∀y∈ps,y<nn h/\ay (mr h) y=y:=λy hy=>⟨Nn y ((i3 y).mp hy),Hz y ((i3 y).mp hy)⟩;have C:aA 60 61 σ (σ.set ⟨60,5⟩ (.one bs (.set ps))):=aA.refl.set rfl;generalize Qt:σ.set ⟨60,5⟩ (.one bs (.set ps))=pI at*;have TF:∀c,c≠nn h->ab (.mk nd::h) c=if c∈ps then ab h c++[nn h] else ab h c:=λc hc=>by
  show(if c=nn h then[] else if c∈nd.2.map (ay (mr h)) then ab h c++[nn h] else ab h c)=_;rw[U8 hc];by_cases q:c∈ps
  ·rw[Vb q,Vb ((i3 c).mp q)]
  ·rw[U8 q,U8 λe=>q ((i3 c).mpr e)]
 have JW:∀c,c<nn h->ay (mr h) c=c->pI ⟨25,c⟩=some (.one (p.gC c) (.list ((if c∈ps then ab h c++[nn h] else ab h c).map vi))):=λc I f=>by rw[<-TF c (Vt I)];exact(C ⟨25,c⟩ rfl).trans (La c (Vg I (a▸VE _)) f)
 refine hV (e5 (m0:=[(0,.loc lv),(1,vi (nn h))]) (λd r σ'=>d++r=ps/\aA 25 26 pI σ'/\∀c,c<nn h->ay (mr h) c=c->σ' ⟨25,c⟩=some (.one (p.gC c) (.list ((if c∈r then ab h c++[nn h] else ab h c).map vi))))
  (λd i r σ' P hI hP=>?_) (λd m σ' DY hI=>?_) _ [] _ _ ⟨rfl,rfl,trivial⟩ ⟨rfl,.refl,JW⟩)
 ·rw[dG hI λS o W=>?_,0 hI,]
  have Qu:i∈ps:=S▸Vm _ (.head _);have X:=DG i Qu;have Ol:i∉r:=λq=>VB i ((List.pairwise_cons.mp (List.pairwise_append.mp (S▸i2)).2.1).1 i q);have Nr:=W i X.1 X.2;rw[Vb (VL ..),Vd] at Nr;have Lc:=(o ⟨20,0⟩ rfl).trans ((C ⟨20,0⟩ rfl).trans ho);have G:=(o ⟨24,0⟩ rfl).trans ((C ⟨24,0⟩ rfl).trans M);have Qw:i∈kk:=(N i).mpr ⟨Vg X.1 (a▸VE _),X.2⟩;rw[bX ⟨rfl,?_⟩,"w",cx (k1:=.i i) rfl G rfl (aZ.1 Qw) ?_,"w",dz (l:=(ab h i).map vi) Nr rfl (by rw[[U2],<-this dC U i,kl this,]) λQx=>⟨rfl,hP _ _ ⟨rfl,rfl,trivial⟩ ⟨by rw[[Vo],S,],o.set rfl,JX W Ol⟩⟩,]
 ·rw[dG hI λS o W=>?_,0 hI,]
  ·skip
   have l0:lk m 0=some (.loc lv):=cR DY 0 _ rfl;have l1:lk m 1=some (vi (nn h)):=cR DY 1 _ rfl;have Lc:=(o ⟨20,0⟩ rfl).trans ((C ⟨20,0⟩ rfl).trans ho);have G:=(o ⟨24,0⟩ rfl).trans ((C ⟨24,0⟩ rfl).trans M);have TG:=(o ⟨10,0⟩ rfl).trans ((C ⟨10,0⟩ rfl).trans Nj);have Qz:=(o ⟨0,0⟩ rfl).trans ((C ⟨0,0⟩ rfl).trans Gk);have Nm:nn h∈kk:=(N _).mpr ⟨a▸Vs _,(l6 (ew U) _ (Va _)).2.2⟩;have wG:kk.length<=nn h+1:=aJ JP λx hx=>a▸((N x).mp hx).1;have QA:aA 0 61 σ σ':=(C.wide (Vj _) (Va _)).trans (o.wide (Vj _) (U4 ..));have Oy:=(E.same (C.kept (.inr (U4 ..)))).same (o.kept (.inr (U4 ..)));have Np:=(Y.same (C.kept (.inr (U4 ..)))).same (o.kept (.inr (U4 ..)));have hold:∀t:Tg,cW 20 31 t=true->Nat.beq t.k 25=false->σ' t=σ t:=λt I f=>
    (o t (VC.mpr λe=>by
     have:=az.mp e;have:t.k=25:=by rw[ax [.le (.k 25) af,.lt af (.k 26)] (.eq af (.k 25)) (.s 0 (.l [1,1]) (.l [1,0,1])) tt [_] this.1 this.2,]
     rw[this] at f;injection f)).trans (C.kept (by decide) t I)
   rw["w",Es (k1:=.i (nn h)) rfl G rfl (aZ.1 Nm) (by rw[[U2],ax [.lt af eo,.le aj (.p af aF)] (.le aj aE) (.l [1,1,1]) tt [_,_] hn wG,]) λNv=>?_,];rw[wK] at Nv⊢;rw["w",];have TH:lZ p.u (nn h+1) (mr h) (σ'.set ⟨24,0⟩ (.one p.ab (.dA ((kk.filter λk=>decide (k≠nn h)).map λ(c:Nat)=>(Atom.i c,V.loc (p.gC c)))))):=Np.same λt B=>aH (lo:=10) (hi:=20) rfl B;have TJ:cZ p.b (aI h++[nd]) (σ'.set ⟨24,0⟩ (.one p.ab (.dA ((kk.filter λk=>decide (k≠nn h)).map λ(c:Nat)=>(Atom.i c,V.loc (p.gC c)))))):=Oy.same λt B=>aH (lo:=0) (hi:=10) rfl B;rw[Js TH (ew U) λUQ TK v=>?_,<-TL (v ⟨20,0⟩ rfl).trans Lc,<-TM (v ⟨0,0⟩ rfl).trans Qz,<-TN TJ.same (v.kept (.inr (Va _))),"w",Nf TN λR2 TP D=>?_,<-TQ (D ⟨20,0⟩ rfl).trans TL,<-TR TK.same (D.kept (.inl (Va _))),"w",bC TQ rfl (U1 rfl) (λP=>by kernel_rfl) (U1 rfl) λTU=>?_,];have z:∀t:Tg,cW 20 31 t=true->Nat.beq t.k 20=false->Nat.beq t.k 24=false->R2 t=σ' t:=λt I f h3=>
    (D.kept (by decide) t I).trans ((v.kept (by decide) t I).trans (aq.ag λe=>by rw[<-e] at h3;rw[7 h3,]))
   have A:∀t:Tg,cW 21 31 t=true->Nat.beq t.k 24=false->Nat.beq t.k 25=false->Nat.beq t.k 28=false->(R2.set ⟨20,0⟩ (.obj lv 578 p.lD (fF 21 (vi (nn h)) (JG p bk (nn h+1))))) t=σ0 t:=λt I f h3 h4=>by
    have H:=az.mp I;have R3:cW 20 31 t=true:=az.mpr ⟨by rw[ax [.le (.k 21) af] (.le (.k 20) af) (.l [1,1]) tt [_] H.1,],H.2⟩;have hb:Nat.beq t.k 20=false:=VC.mpr λe=>by have:=V' e;exact ax [.le (.k 21) af,.eq af (.k 20)] (.ff) (.l [0,1,1]) tt [_] H.1 this
    refine(aq.ag λe=>by rw[<-e] at H;rw[U9 H.1 (VB _),]).trans ((z t R3 hb f).trans ((hold t R3 h3).trans (L t (VC.mpr λe=>?_))));have:=az.mp e;have:t.k=28:=by rw[ax [.le (.k 28) af,.lt af (.k 29)] (.eq af (.k 28)) (.s 0 (.l [1,1]) (.l [1,0,1])) tt [_] this.1 this.2,]
    rw[this] at h4;rw[7 h4,]
   refine hQ _ ⟨p,?_⟩ ((((QA.set rfl).trans (v.wide (Vj _) (U4 ..))).trans (D.wide (Vj _) (U4 ..))).set rfl) λt B=>
    (aH (lo:=29) (hi:=60) rfl B).trans ((D.kept (.inl (U4 ..)) t B).trans ((v.kept (.inl (U4 ..)) t B).trans ((aH (lo:=29) (hi:=60) rfl B).trans ((o.kept (.inl (U4 ..)) t B).trans (C.kept (.inr (Va _)) t B)))))
   rw[⟨TU,(A ⟨21,0⟩ rfl rfl rfl rfl).trans he,(A ⟨22,0⟩ rfl rfl rfl rfl).trans hf,(A ⟨23,0⟩ rfl rfl rfl rfl).trans JI,⟨kk.filter λk=>decide (k≠nn h),?_,JP.filter _,λc=>?_⟩,λc I f=>?_,jV.same (λi=>A ⟨26,i⟩ rfl rfl rfl rfl) JJ,(A ⟨27,0⟩ rfl rfl rfl rfl).trans JK,?_,(A ⟨29,0⟩ rfl rfl rfl rfl).trans JL,λj hj=>(A ⟨30,j⟩ rfl rfl rfl rfl).trans (y2 j hj),?_,?_,U,?_⟩,]
   ·exact(aH (lo:=21) (hi:=31) rfl rfl).trans ((D ⟨24,0⟩ rfl).trans ((v ⟨24,0⟩ rfl).trans Nv))
   ·rw[VS,N,a]
    constructor
    ·rintro⟨⟨I,f⟩,h3⟩
     have:=Wi h3;exact⟨by rw[ax [.lt af (.p aj aF),.ne af aj] (.lt af aj) (.s 2 (.l [1,1]) (.l [1,0,1])) tt [_,_] I this,],f⟩
    ·rintro⟨I,f⟩
     exact⟨⟨Vi I,f⟩,Wo (Vt I)⟩
   ·have:=W c I f
    rw[U8 WG] at this;exact(aH (lo:=21) (hi:=31) rfl rfl).trans ((z ⟨25,c⟩ rfl rfl rfl).trans this)
   ·exact(aH (lo:=21) (hi:=31) rfl rfl).trans ((z ⟨28,0⟩ rfl rfl rfl).trans ((hold ⟨28,0⟩ rfl rfl).trans hc))
   ·rw[TP.same λt B=>aH (lo:=0) (hi:=10) rfl B,]
   ·rw[TR.same λt B=>aH (lo:=10) (hi:=20) rfl B,]
   ·exact⟨V9 jy.1,V9 jy.2.1,jy.2.2⟩
end
end
noncomputable section
def yG(l:List V)(a k:Nat):((List.range k).map (a+·)).filterMap (λi=>l[i]?)=(l.drop a).take k:=by
 have:=pick_run l.toArray a k
 simpa using this
def Gp{x n:Nat}:kms_lo (some (x:Int)) n=min x n:=
 (U8 (cz x):(if(x:Int)<0 then n-(-(x:Int)).toNat else min (x:Int).toNat n)=_)
def pK(l:List V)(lo hi:Option Int):gs l lo hi none=(l.drop (kms_lo lo l.length)).take (kms_hi hi l.length-kms_lo lo l.length):=by rw[2 gs,[kms_bounds,sliceRange_one,yG],]
def ly(l:List V){x:Nat}:gs l none (some (x:Int)) none=l.take x:=by rw[[pK,show kms_hi (some (x:Int)) l.length=min x l.length from Gp,show kms_lo none l.length=0 from rfl,List.drop_zero,Nat.sub_zero],List.take_eq_take_iff.mpr (by rw[Nat.min_assoc,Nat.min_self]),]
def vq(l:List V)(o:b<=l.length):gs l none (some (b:Int)) none=l.take b:=ly l
section
variable{g:G0}{k:Nat}{exc:XQ}{lv:Addr}{h l:HI}{w ms:List Nat}{bk:Nat}{σ0 σ:aq}{Q:V->aq->Prop}{n:Nat}
def BE(q:ez lv p (.ed a b r::h) (.ed a b r::h) w ms bk σ0)(hs:aA 28 29 σ0 σ)(hc:σ ⟨28,0⟩=some (.one p.ch (.list (y1 p.lR h))))(hQ:∀σ',aK lv h h w ms bk σ'->aA 0 29 σ σ'->Q .none σ'):GC g (k+3) exc σ (.raw (.ref 575)) [.loc lv,y0 p.lR h (.ed a b r)] Q:=by
 rw[show y0 p.lR h (.ed a b r)=.tup [.str "edge",vi (lo h a b),vi (ab h (lo h a b)).length,vi (hi h a b),if ay (mr h) a=ay (mr h) b then .any else .loc (p.lR h.length)] from rfl];generalize hU:(if ay (mr h) a=ay (mr h) b then V.any else .loc (p.lR h.length))=R4;rw[a8 lN rfl rfl ?_,];have J:∀t:Tg,cW 28 29 t=false->σ t=σ0 t:=hs;rw[aB λR_ L=>?_,];obtain⟨ho,he,hf,R,⟨ks,S,W,B⟩,D,M,X,Cp,Y,y2,Cq,G,U,jy⟩:=q;rw[L ?_,0 L R_,]
 replace ho:=(J ⟨20,0⟩ rfl).trans ho
 replace he:=(J ⟨21,0⟩ rfl).trans he
 replace hf:=(J ⟨22,0⟩ rfl).trans hf
 replace R:=(J ⟨23,0⟩ rfl).trans R
 replace S:=(J ⟨24,0⟩ rfl).trans S
 replace D:=λc h1 h2=>(J ⟨25,c⟩ rfl).trans (D c h1 h2)
 replace M:=M.same λi=>J ⟨26,i⟩ rfl
 replace X:=(J ⟨27,0⟩ rfl).trans X
 replace Y:=(J ⟨29,0⟩ rfl).trans Y
 replace y2:=λj hj=>(J ⟨30,j⟩ rfl).trans (y2 j hj)
 replace Cq:=Cq.same (hs.kept (.inr (U4 ..)))
 replace G:=G.same (hs.kept (.inr (U4 ..)))
 rw[0 Cp,6 U,λNu=>dG Nu λha hb U=>?_,0 Nu,<-Oo ew U,<-vp G,6 vp,λCs=>aB λR_ L=>rF Cs λuD Qg Qh Qi JN Ci=>?_,0 Cs,];rcases Ci with⟨Nj,_,_,Nw,_,_,TV⟩;rw[L ?_,0 L R_,];have TX:bK (.ed a b r::h)=bK h++[(a,b,r)]:=rfl;rw[TX,Vd] at he;rw[2 gy,"w",dz (l:=(bK h).map K7) he rfl (by rw[[U2],U3 cS (by have:h.length+1<=50000:=jy.1;rw[km this,]),]) λCo=>?_,"w",];have Nx:h.length<=50000/\h.length<=50000/\w.length<=50000/\ms.length<=100:=⟨V9 jy.1,V9 jy.1,jy.2.2⟩;by_cases q:ay (mr h) a=ay (mr h) b
 ·have e1:mr (.ed a b r::h)=mr h:=Vb q
  have e2:nQ (.ed a b r::h)=nQ h:=Vb q;have e3:∀c,ab (.ed a b r::h) c=ab h c:=λc=>Vb q;rw[en (U9 (show lo h a b=hi h a b by rw[2 lo hi,[q,Nat.min_self,Nat.max_self],])) λ_=>hQ _ ⟨p,ho,Co,(e2▸hf),R,⟨ks,S,W,e1▸B⟩,λc h1 h2=>?_,M.2.same λi=>aH (lo:=22) (hi:=31) rfl rfl,X,hc,Y,y2,Cq.same λt H=>aH (lo:=0) (hi:=10) rfl H,?_,U,Nx⟩ (aA.refl.set rfl),]
  ·rw[<-e3];rw[D c h1 (e1.symm▸h2),]
  ·rw[<-e1];rw[G.same λt H=>aH (lo:=10) (hi:=20) rfl H,]
 ·rw[U8 q] at hU
  rw[8 hU,jU (JH U ha hb q) λl1 l2 l3 l4=>?_,];have e1:mr (.ed a b r::h)=(lo h a b,hi h a b)::mr h:=U8 q;have e2:nQ (.ed a b r::h)=nQ h++[(bK h).length]:=U8 q;have e3:∀c,ab (.ed a b r::h) c=if c=lo h a b then ab h (lo h a b)++ab h (hi h a b) else ab h c:=λc=>U8 q;have QB:=M.1 q;have QC:=M.2;rw[e2,Vd] at hf;rw[e1] at G B D Nw;have EU:=gB U;have wG:ks.length<=nn h:=aJ W λx hx=>((B x).mp hx).1;have d:∀c,c∈ks↔(c<nn h/\ay (mr h) c=c)/\c≠hi h a b:=λc=>by
   rw[B];show c<nn h/\(if ay (mr h) c=hi h a b then lo h a b else ay (mr h) c)=c↔_;constructor
   ·rintro⟨h1,h2⟩
    by_cases y:ay (mr h) c=hi h a b
    ·rw[Vb y] at h2
     rw[<-h2,l3] at y;rw[U9 y (Vt l1),]
    ·rw[U8 y] at h2
     exact⟨⟨h1,h2⟩,λe=>y (h2.trans e)⟩
   ·rintro⟨⟨h1,h2⟩,h3⟩
    exact⟨h1,by rw[h2,U8 h3]⟩
  have K8:lo h a b∈ks:=(d _).mpr ⟨⟨VK l1 l2,l3⟩,Vt l1⟩;have K9:hi h a b∉ks:=λe=>((d _).mp e).2 rfl;have hk:=D (lo h a b) (VK l1 l2) ((B _).mp K8).2;rw[e3,Vb rfl,Vd] at hk;rw[<-s1 dC U (lo h a b),<-s2 dC U (hi h a b),<-Ny mg_lt Oo (VA (Vj _) ha),en (λ_=>?_) λe=>U9 e (Vt l1),"w",dz (l:=(nQ h).map vi) hf rfl (by rw[[U2,jN U],ax [.le af eo,.lt aj af] (.le aj aE) (.l [1,1,1]) tt [_,_] EU Ny,]) λNk=>?_,"w",aX (n:=(mr h).length+1) (cv Nw rfl) (by rw[U2,V2];rfl) (ax [.le af eo,.lt aj af] (.le (.p aj aF) aE) (.l [1,1,1]) tt [_,_] EU Ny) ?_,"w",gm (U4 1 _) ?_,[Nat.add_sub_cancel],];have QD:lZ p.u (nn h) ([(lo h a b,hi h a b)]++mr h) ((σ.set ⟨21,0⟩ (.one p.e (.list ((bK h).map K7)))).set ⟨22,0⟩ (.one p.f (.list ((nQ h).map vi)))):=(G.same λt H=>aH (lo:=10) (hi:=20) rfl H).same λt H=>aH (lo:=10) (hi:=20) rfl H;rw[Jr (λA4 y3 C=>?_) QD,<-yX (C ⟨20,0⟩ rfl).trans ho,<-Oq (C ⟨21,0⟩ rfl).trans Co,<-TY (C ⟨22,0⟩ rfl).trans Nk,<-yF (C ⟨24,0⟩ rfl).trans S,<-TZ (C ⟨25,lo h a b⟩ rfl).trans hk,<-QE (C ⟨26,h.length⟩ rfl).trans QB,"w",cx (k1:=.i (lo h a b)) rfl yF rfl (aZ.1 K8) ?_,"w",jH (cv TZ rfl) .none (.int _) .none (by intro e;rw[7 e,]) (by simp only[U7,U2];rw[ax [.le af (.k 1024),.le aj (.k 1024)] (.le (.p af aj) aE) (.l [1,1,1]) tt [_,_] s1 s2,]) (vq _ (by simp only[U7,U2];rw[ax [] (.le af (.p af aj)) (.l [1]) tt [_,_],])) (.inr ⟨⟨25,lo h a b⟩,λbb=>?_⟩),[List.take_left' (by rw[U2])],"w",eD (k1:=.i (lo h a b)) rfl yF rfl (by rw[[U2],ax [.le af eo,.le aj af] (.le aj aE) (.l [1,1,1]) tt [_,_] EU wG,]) λNz=>?_,];rw[wJ (f':=λj=>if j=lo h a b then bb else p.gC j) W K8 rfl] at Nz⊢;rw["w",wI ⟨26,h.length⟩ ⟨25,hi h a b⟩ (eD (k1:=.i (hi h a b)) rfl Nz rfl (by rw[[U2],ax [.le af eo,.le aj af] (.le aj aE) (.l [1,1,1]) tt [_,_] EU wG,]) λP=>⟨p.lR h.length,.list ((ab h (hi h a b)).map vi),QE,?_⟩),];rw[dy (aZ.2 K9)] at P⊢;have wQ:(ks.map λ(c:Nat)=>(Atom.i c,V.loc (if c=lo h a b then bb else p.gC c)))++[(.i (hi h a b),.loc (p.lR h.length))]=(ks++[hi h a b]).map λ(c:Nat)=>(Atom.i c,V.loc (if c=hi h a b then p.lR h.length else if c=lo h a b then bb else p.gC c)):=by
   rw[Vd];congr 1
   ·rw[Vy λc hc=>?_,]
    rw[U8 (show¬c=hi h a b fromλe=>K9 (e▸hc))]
   ·show _=[(Atom.i (hi h a b),V.loc (if hi h a b=hi h a b then p.lR h.length else _))]
    rw[Vb rfl]
  rw[wQ] at P⊢;rw["w",hQ _ ⟨{p with gC:=λc=>if c=hi h a b then p.lR h.length else if c=lo h a b then bb else p.gC c},yX,Oq,TY,(C ⟨23,0⟩ rfl).trans R,⟨ks++[hi h a b],P,?_,λc=>?_⟩,λc h1 h2=>?_,jV.ag (λi hi'=>?_) QC,(C ⟨27,0⟩ rfl).trans X,(C ⟨28,0⟩ rfl).trans hc,(C ⟨29,0⟩ rfl).trans Y,λj hj=>(C ⟨30,j⟩ rfl).trans (y2 j hj),?_,?_,U,Nx⟩ ?_,]
  ·rw[Wu]
   exact⟨W,VY ..,λa ha b hb e=>K9 (by rw[U5.mp hb] at e;rw[e▸ha,])⟩
  ·rw[Vk,U5,d]
   constructor
   ·rintro(⟨h1,_⟩|rfl)
    ·rw[h1,]
    ·exact⟨l2,l4⟩
   ·intro h1
    by_cases y:c=hi h a b
    ·rw[.inr y,]
    ·rw[.inl ⟨h1,y⟩,]
  ·show aq.rC _ _ _ _ _ _=some (GO.one (if c=hi h a b then p.lR h.length else if c=lo h a b then bb else p.gC c) _)
   by_cases y:c=hi h a b
   ·rw[[Vb y,y],aq.ae,]
   ·rw[U8 y]
    rw[(dD (λe=>by injection e with e;cases e) (λe=>y (by injection e with _ e;rw[e.symm,]))).trans ?_,];by_cases q3:c=lo h a b
    ·rw[Vb q3,q3]
     rw[aq.ae (σ:=A4),]
    ·rw[U8 q3]
     refine(fT (σ:=A4) λe=>q3 e.symm).trans ((C ⟨25,c⟩ rfl).trans ?_);have:=D c h1 ((B c).mp ((d c).mpr ⟨⟨h1,h2⟩,y⟩)).2;rw[e3,U8 q3] at this;rw[this,]
  ·exact(dD (λe=>WO hi' (by rw[7 e,])) (λe=>by injection e with e;cases e)).trans (C ⟨26,i⟩ rfl)
  ·rw[Cq.same λt H=>?_,]
   have:=az.mp H;have ne:∀{kk ii:Nat},10<=kk->(⟨kk,ii⟩:Tg)≠t:=λhk e=>by rw[<-e] at this;rw[U9 this.2 (VV.mpr hk),]
   rw[(dD (ne (U4 ..)) (ne (U4 ..))).trans<|(aq.ag (ne (U4 ..))).trans ((aq.ag (ne (U4 ..))).trans ((aq.ag (ne (U4 ..))).trans ((C t ?_).trans ((aq.ag (ne (U4 ..))).trans (aq.ag (ne (U4 ..))))))),kU H (by decide),]
  ·rw[y3.same λt H=>?_,]
   have:=az.mp H;have ne:∀{kk ii:Nat},20<=kk->(⟨kk,ii⟩:Tg)≠t:=λhk e=>by rw[<-e] at this;rw[U9 this.2 (VV.mpr hk),]
   exact(dD (ne (U4 ..)) (ne (U4 ..))).trans ((aq.ag (ne (U4 ..))).trans ((aq.ag (ne (U4 ..))).trans (aq.ag (ne (U4 ..)))))
  ·rw[aA.rC ((((((aA.refl.set rfl).set rfl).trans (C.wide (Vj _) (U4 ..))).set rfl).set rfl).set rfl) rfl rfl,]
end
end
noncomputable section
def yH:Bv o (ms++[x])=Bv o ms++[.tup [vi x,.loc (o ms.length)]]:=by rw[2 Bv,[List.zipIdx_append,Vd],];simp
def EW(h:∀p∈l,p.1≠x):dp (rB (l++[(x,n)])) (dm x)=rB l:=by
 rw[2 rB dp,[Vd,List.filter_append,List.filter_eq_self.mpr],]
 ·simp
 ·intro y C
  rw[ah (Vn.mp C) λp I o=>?_,3 o,];simp only[WN];exactλe=>h p I (fU e)
def yI(h:∀p∈l,p.1≠x):cH (l++[(x,n)]) x=some n:=by
 induction l with
 |nil=>exact Vb rfl
 |cons p l o=>
  rw[5 ((if p.1=x then some p.2 else cH (l++[(x,n)]) x)=_),[U8 (h p (VL ..))],o λq C=>h q (Wz _ C),]
section
variable{g:G0}{k:Nat}{exc:XQ}{lv:Addr}{h l:HI}{w ms:List Nat}{bk:Nat}{σ0 σ:aq}{Q:V->aq->Prop}{n:Nat}
def NA(hu:aK lv (pre++h0) (pre++h0) w (ms++[h0.length]) bk σ)(hQ:∀σ',aK lv h0 h0 [] ms (bk+1) σ'->bB σ σ'->Q .none σ'):GC g (k+6) exc σ (.raw (.ref 547)) [.loc lv] Q:=by
 rw[a8 qP rfl rfl ?_,6 hu,λCi=>aB λR_ d=>aw Ci λp xK=>?_,0 Ci,];rcases xK with⟨ho,he,hf,B,D,H,L,S,J,x,G,M,R,W,C⟩;rw[d ?_,0 d R_,];rw[yH] at x;have Y:=G ms.length (by simp);have QF:ms.length<=100:=by have:=C.2.2.2;rw[U7] at this;rw[ax [.le (.p af aj) bU] (.le af bU) (.l [1,1]) tt [_,_] this,]
 rw[2 jF,"w",aX (n:=ms.length+1) (cv x rfl) (by rw[U7,l8];rfl) (kp QF) ?_,"w",aQ (λe=>nomatch e) λ_=>?_,"w",dz x rfl (by rw[[l8],kl QF,]) λNB=>?_,"w",bC ho rfl (U1 rfl) (λP=>by kernel_rfl) (U1 rfl) λyX=>?_,];have Oz:aA 20 30 σ ((σ.set ⟨29,0⟩ (.one p.JF (.list (Bv p.vo ms)))).set ⟨20,0⟩ (.obj lv 578 p.lD (JG p (bk+1) (nn (pre++h0))))):=(aA.refl.set rfl).set rfl;have q2:aK lv (pre++h0) (pre++h0) w ms (bk+1) ((σ.set ⟨29,0⟩ (.one p.JF (.list (Bv p.vo ms)))).set ⟨20,0⟩ (.obj lv 578 p.lD (JG p (bk+1) (nn (pre++h0))))):=
  ⟨p,yX,he,hf,B,D,λc h1 h2=>H c h1 h2,(L.put rfl).put rfl,S,J,NB,λj hj=>G j (by rw[[U7],Vi hj,]),M.same (Oz.kept (.inr (U4 ..))),R.same (Oz.kept (.inr (Va _))),W,C.1,C.2.1,C.2.2.1,QF⟩
 rw[e4 (λpre:HI=>pre.length) (λ_=>[(0,.loc lv),(1,vi h0.length),(2,.loc (p.vo ms.length))]) (λpre σ'=>aK lv (pre++h0) (pre++h0) w ms (bk+1) σ'/\bB σ σ'/\σ' ⟨30,ms.length⟩=some (.one (p.vo ms.length) (.list []))) pre ⟨rfl,rfl,rfl,trivial⟩ ⟨q2,Oz.a (.inl (U4 ..)),Y⟩ λpre σ' hI=>?_,0 q2 Oz yX NB G Y x M R W C D H L S J ho he hf B,dG hI λR5 hs Y=>aw R5 λp' q=>?_,0 hI R5,<-J q.ch,<-ho q.o,<-B q.kn,<-C q.sz,"w",aX (n:=pre.length+h0.length) (cv J rfl) (by rw[fy,U7]) (by rw[<-U7];rw[kl C.2.1,]) ?_,"w",]
 induction pre using List.casesOn with
 |nil=>
  rw[oQ (λe=>U9 e (by rw[[Wm,Wk],VB _,])) λ_=>?_,"w",EL ⟨30,ms.length⟩ ⟨27,0⟩ (bC ho rfl (U1 rfl) (λP=>by kernel_rfl) (U1 rfl) λFD=>⟨_,_,Y,?_⟩),hQ _ ⟨{p' with wt:=p.vo ms.length},?_⟩ (bB.rC (hs.set rfl) rfl rfl),aB λR_ d=>?_,];obtain⟨ho,he,hf,B,⟨ks,D⟩,H,L,S,J,x,G,M,R,W,C⟩:=q;rw[d ?_,0 d R_,];have hr:∀t:Tg,cW 20 30 t=true->Nat.beq t.k 20=false->Nat.beq t.k 27=false->((σ'.set ⟨20,0⟩ (.obj lv 578 p'.lD (fF 17 (.loc (p.vo ms.length)) (JG p' (bk+1) (nn ([]++h0)))))).rC ⟨30,ms.length⟩ ⟨27,0⟩ (p.vo ms.length) (.list [])) t=σ' t:=λt h1 h2 h3=>
   (dD (λe=>by rw[<-e] at h1;rw[7 h1,]) (λe=>by rw[<-e] at h3;rw[7 h3,])).trans (aq.ag λe=>by rw[<-e] at h2;rw[7 h2,])
  rw[⟨(dD (λe=>by injection e with e;cases e) (λe=>by injection e with e;cases e)).trans FD,(hr ⟨21,0⟩ rfl rfl rfl).trans he,(hr ⟨22,0⟩ rfl rfl rfl).trans hf,(hr ⟨23,0⟩ rfl rfl rfl).trans B,⟨ks,(hr ⟨24,0⟩ rfl rfl rfl).trans D.1,D.2⟩,λc h1 h2=>(hr ⟨25,c⟩ rfl rfl rfl).trans (H c h1 h2),L.same λi=>hr ⟨26,i⟩ rfl rfl rfl,aq.ae,(hr ⟨28,0⟩ rfl rfl rfl).trans J,(hr ⟨29,0⟩ rfl rfl rfl).trans x,λj hj=>?_,M.same λt ht=>?_,R.same λt ht=>?_,W,C.1,C.2.1,Vj _,C.2.2.2⟩,]
  ·exact(dD (λe=>WO hj (by rw[7 e,])) (λe=>by injection e with e;cases e)).trans (G j hj)
  ·have:=az.mp ht
   have ne:∀{kk ii:Nat},10<=kk->(⟨kk,ii⟩:Tg)≠t:=λhk e=>by rw[<-e] at this;rw[U9 this.2 (VV.mpr hk),]
   exact(dD (ne (U4 ..)) (ne (U4 ..))).trans (aq.ag (ne (U4 ..)))
  ·have:=az.mp ht
   have ne:∀{kk ii:Nat},20<=kk->(⟨kk,ii⟩:Tg)≠t:=λhk e=>by rw[<-e] at this;rw[U9 this.2 (VV.mpr hk),]
   exact(dD (ne (U4 ..)) (ne (U4 ..))).trans (aq.ag (ne (Va _)))
 |cons c pre=>
  rw[oQ (λ_=>?_) λe=>U9 (show h0.length<pre.length+1+h0.length by rw[ax [] (.lt af (.p (.p aj aF) af)) (.l [1]) tt [_,_],]) e,<-qy C.1,<-J J,];have K6:∀U,aK lv (pre++h0) (pre++h0) w ms (bk+1) U->bB σ' U->U ⟨30,ms.length⟩=σ' ⟨30,ms.length⟩->∀m,bj [(0,.loc lv),(1,vi h0.length),(2,.loc (p.vo ms.length))] m->
   ∃z:HI,z.length<(c::pre).length/\bj [(0,.loc lv),(1,vi h0.length),(2,.loc (p.vo ms.length))] m/\aK lv (z++h0) (z++h0) w ms (bk+1) U/\bB σ U/\U ⟨30,ms.length⟩=some (.one (p.vo ms.length) (.list [])):=
   λU h1 h2 h3 m hm=>⟨pre,Vs _,hm,h1,hs.trans h2,h3.trans Y⟩
  induction c with
  |mk nd=>
   have J:σ' ⟨28,0⟩=some (.one p'.ch (.list (y1 p'.lR (pre++h0)++[.tup [.str "made",vi (nn (pre++h0))]]))):=J;rw["w",dz J rfl (by rw[[fy],km qy,]) λy=>?_,"w",aQ (λ_=>?_) λe=>U9 rfl e,"w",BD (nd:=nd) q (aA.refl.set rfl) y λBA h2 s2 k2=>?_,"w",];exact⟨rfl,K6 BA h2 ((bB.refl.set rfl).trans (.of2 s2 k2)) ((k2 ⟨30,ms.length⟩ rfl).trans (aH (lo:=30) (hi:=31) rfl rfl)) _ ⟨rfl,rfl,rfl,trivial⟩⟩
  |kn key j=>
   have J:σ' ⟨28,0⟩=some (.one p'.ch (.list (y1 p'.lR (pre++h0)++[.tup [.str "known",aP key]]))):=J;rw["w",dz J rfl (by rw[[fy],km qy,]) λy=>?_,"w",aQ (λe=>U9 e (by decide)) λ_=>?_,"w",aQ (λ_=>?_) λe=>U9 rfl e,];have hw:(∀p∈iC (pre++h0),p.1≠key)/\j<nn (pre++h0)/\jM (pre++h0):=q.wf;rw["w",Ez (X:=vi j) (d4 (nd:=key)) B rfl ?_ ?_ λNC=>?_,]
   ·rw[ic.trans (by rw[show iC (.kn key j::pre++h0)=iC (pre++h0)++[(key,j)] from rfl,yI hw.1];rfl),]
   ·rw[2 rB,[U2],U3 jO (by have:(Ch.kn key j::(pre++h0)).length<=50000:=C.1;rw[U3 this (U4 ..),]),]
   rw[show iC (.kn key j::pre++h0)=iC (pre++h0)++[(key,j)] from rfl,EW hw.1] at NC⊢;rw["w",⟨rfl,K6 _ ⟨p',?_⟩ ((bB.refl.set rfl).set rfl) ((aH (lo:=30) (hi:=31) rfl rfl).trans (aH (lo:=30) (hi:=31) rfl rfl)) _ ⟨rfl,rfl,rfl,trivial⟩⟩,aB λR_ d=>?_,];obtain⟨ho,he,hf,B,D,H,L,S,J,x,G,M,R,W,C⟩:=q;rw[d ?_,0 d R_,];exact⟨ho,he,hf,NC,D,λc h1 h2=>H c h1 h2,jV.put (jV.put (h:=pre++h0) L rfl) rfl,S,y,x,λj hj=>G j hj,(M.same λt ht=>aH (lo:=0) (hi:=10) rfl ht).same λt ht=>aH (lo:=0) (hi:=10) rfl ht,(R.same λt ht=>aH (lo:=10) (hi:=20) rfl ht).same λt ht=>aH (lo:=10) (hi:=20) rfl ht,hw.2.2,V9 C.1,V9 C.2.1,C.2.2⟩
  |ed a b r=>
   rw["w",dz J rfl (by rw[[fy],km qy,]) λy=>?_,"w",cb ?_,"w",aQ (λe=>U9 e (by decide)) λ_=>?_,"w",cb ?_,"w",aQ (λe=>U9 e (by decide)) λ_=>?_,"w",BE q (aA.refl.set rfl) y λBA h2 s2=>?_,"w",⟨rfl,K6 BA h2 ((bB.refl.set rfl).trans (s2.a (.inl (U4 ..)))) ((s2.kept (lo':=30) (hi':=31) (.inl (VE _)) ⟨30,ms.length⟩ rfl).trans (aH (lo:=30) (hi:=31) rfl rfl)) _ ⟨rfl,rfl,rfl,trivial⟩⟩,]
end
end
noncomputable section
def kK.mono{Q U E}(h:kK g A env f args c Q E)(a:∀v c',Q v c'->U v c'):kK g A env f args c U E:=λo d i I j F Z s k st=>WE (h o d i I j F Z s k st) λr s' x=>by
 induction r with
 |ok f=>
  induction f with
  |ret v=>
   rw[aB λl C=>?_,];obtain⟨F',b,c',m,I,J,q⟩:=x;rw[C ?_,0 C l,];exact⟨F',b,c',m,I,J,a _ _ q⟩
  |_=>exact x
 |error e=>exact x
section
variable{g:G0}{k:Nat}{exc:XQ}{lv:Addr}{h l:HI}{w ms:List Nat}{bk:Nat}{σ0 σ:aq}{Q:V->aq->Prop}{n:Nat}
def l9(t:Tg)(hm:∀P,makesIn (KR P) C=true)(hi:∀P,findIn (KR P) (.ref C) "__init__"=some (some (.ref a)))(hf:∀P,typeIn (KR P) (.ref a)=some (.type "function"))
 (h:∀x dx,Be g k exc (σ.set t (.obj x C dx [])) (.raw (.ref a)) (.loc x::args) λv σ'=>v=.none/\Q (.loc x) σ'):GC g (k+1) exc σ (.raw (.ref C)) args Q:=λb A env c e f=>
 (DE t.t t.d b e (hm _) (hi _) (hf _) λi x dx j B m p ne=>(h x dx b i env _ j (f.PL m p ne)).mono λv c' q=>by rw[6 q,λo=>aB λr I=>aV o λu J=>ah J λσ' y U=>aV U λz q=>I ?_,0 o I r J U,⟨z,u,σ',y,q⟩,]:kK g A env ..).ca
def EY(e:∀b σ',cZ b [] σ'->aA 0 10 σ σ'->Q (.loc b) σ'):GC g (k+2) exc σ (.raw (.ref 292)) [] Q:=by rw[l9 ⟨0,0⟩ HO HS HW λb C=>gi sL rfl rfl ?_,];have o:(σ.set ⟨0,0⟩ (.obj b 292 C [])) ⟨0,0⟩=some (.obj b 292 C []):=aq.ae;rw[2 k6,cF ⟨1,0⟩ λno I=>?_,"w",bC o rfl (U1 rfl) (λP=>by kernel_rfl) (U1 rfl) λo=>qQ ⟨2,0⟩ λf J=>?_,"w",bC o rfl (U1 rfl) (λP=>by kernel_rfl) (U1 rfl) λo=>cF ⟨3,0⟩ λj U=>?_,"w",bC o rfl (U1 rfl) (λP=>by kernel_rfl) (U1 rfl) λo=>cF ⟨4,0⟩ λm a=>?_,"w",bC o rfl (U1 rfl) (λP=>by kernel_rfl) (U1 rfl) λo=>⟨rfl,e _ _ ⟨C,no,f,j,m,[],[],⟨o,I,J,U,a,⟨rfl,rfl⟩,(λi y d=>nomatch d),(λi y d=>nomatch d),.nil,Vj _⟩⟩ (((((((((aA.refl.set rfl).set rfl).set rfl).set rfl).set rfl).set rfl).set rfl).set rfl).set rfl)⟩,]
def JY(a:∀u σ',lZ u 0 [] σ'->aA 10 20 σ σ'->Q (.loc u) σ'):GC g (k+2) exc σ (.raw (.ref 374)) [] Q:=by rw[l9 ⟨10,0⟩ HP HT HX λb C=>gi oC rfl rfl ?_,];have o:(σ.set ⟨10,0⟩ (.obj b 374 C [])) ⟨10,0⟩=some (.obj b 374 C []):=aq.ae;rw[2 iL,cF ⟨11,0⟩ λno I=>?_,"w",bC o rfl (U1 rfl) (λP=>by kernel_rfl) (U1 rfl) λo=>cF ⟨12,0⟩ λd J=>?_,"w",bC o rfl (U1 rfl) (λP=>by kernel_rfl) (U1 rfl) λo=>cF ⟨13,0⟩ λe U=>?_,"w",bC o rfl (U1 rfl) (λP=>by kernel_rfl) (U1 rfl) λo=>⟨rfl,a _ _ ⟨C,no,d,e,λ_=>0,⟨o,I,J,U,λi hi=>U9 hi (VT i),trivial,Vj _,Vj _⟩⟩ (((((((aA.refl.set rfl).set rfl).set rfl).set rfl).set rfl).set rfl).set rfl)⟩,]
def JZ(A:∀lv σ',aK lv [] [] [] [] 0 σ'->aA 0 40 σ σ'->Q (.loc lv) σ'):GC g (k+5) exc σ (.raw (.ref 578)) [] Q:=by
 rw[l9 ⟨20,0⟩ HQ HU HY λlv J=>wB oU oT rfl nO ?_,];have C:(σ.set ⟨20,0⟩ (.obj lv 578 J [])) ⟨20,0⟩=some (.obj lv 578 J []):=aq.ae;rw[2 hZ,⟨lv,⟨20,0⟩,J,[],rfl,C,?_⟩,2 iS,gi sW rfl rfl ?_,];have I:aA 0 40 σ (σ.set ⟨20,0⟩ (.obj lv 578 J [])):=aA.refl.set rfl;generalize σ.set ⟨20,0⟩ (.obj lv 578 J [])=σ0 at*;rw[2 lg,"w",EY λb i m p=>?_,]
 replace C:=(p ⟨20,0⟩ rfl).trans C
 replace I:=I.trans (p.wide (Vj _) (U4 ..))
 rw["w",bC C rfl (U1 rfl) (λP=>by kernel_rfl) (U1 rfl) λC=>?_,]
 replace m:=m.same (σ':=i.set ⟨20,0⟩ (.obj lv 578 J (fF 12 (.loc b) []))) λt B=>aH (lo:=0) (hi:=10) rfl B
 replace I:=I.set (t:=⟨20,0⟩) (o:=.obj lv 578 J (fF 12 (.loc b) [])) rfl
 generalize i.set ⟨20,0⟩ (.obj lv 578 J (fF 12 (.loc b) []))=D at*;rw["w",JY λu U E a=>?_,]
 replace C:=(a ⟨20,0⟩ rfl).trans C
 replace I:=I.trans (a.wide (Vj _) (U4 ..))
 replace m:=m.same (a.kept (.inr (Va _)))
 have d:aA 20 40 U U:=.refl;rw["w",bC C rfl (U1 rfl) (λP=>by kernel_rfl) (U1 rfl) λC=>?_,]
 replace d:=d.set (t:=⟨20,0⟩) (o:=.obj lv 578 J (fF 13 (.loc u) (fF 12 (.loc b) []))) rfl
 generalize U.set ⟨20,0⟩ (.obj lv 578 J (fF 13 (.loc u) (fF 12 (.loc b) [])))=G at*;rw[cF ⟨21,0⟩ λe H=>?_,"w",bC C rfl (U1 rfl) (λP=>by kernel_rfl) (U1 rfl) λC=>cF ⟨22,0⟩ λf L=>?_,"w",bC C rfl (U1 rfl) (λP=>by kernel_rfl) (U1 rfl) λC=>qQ ⟨23,0⟩ λkn q=>?_,"w",bC C rfl (U1 rfl) (λP=>by kernel_rfl) (U1 rfl) λC=>lX ⟨24,0⟩ λab r=>?_,"w",bC C rfl (U1 rfl) (λP=>by kernel_rfl) (U1 rfl) λC=>cF ⟨27,0⟩ λM v=>?_,"w",bC C rfl (U1 rfl) (λP=>by kernel_rfl) (U1 rfl) λC=>?_,"w",bC C rfl (U1 rfl) (λP=>by kernel_rfl) (U1 rfl) λC=>?_,2 h7,cF ⟨28,0⟩ λN x=>?_,"w",bC C rfl (U1 rfl) (λP=>by kernel_rfl) (U1 rfl) λC=>cF ⟨29,0⟩ λmk y=>?_,"w",bC C rfl (U1 rfl) (λP=>by kernel_rfl) (U1 rfl) λC=>?_,"w",bC C rfl (U1 rfl) (λP=>by kernel_rfl) (U1 rfl) λC=>(λz=>⟨rfl,A _ _ ⟨⟨J,b,u,e,f,kn,ab,M,N,mk,λ_=>0,λ_=>0,λ_=>0⟩,C,H,L,q,⟨[],r,.nil,λc=>⟨λe=>(nomatch e),λe=>U9 e.1 (VT _)⟩⟩,λc R _=>U9 R (VT _),trivial,v,x,y,λj S=>U9 S (VT _),m.same (z.kept (.inr (U4 ..))),E.same (z.kept (.inr (Va _))),trivial,Vj _,Vj _,Vj _,Vj _⟩ (I.trans (z.wide (Vj _) (Va _)))⟩:aA 20 40 U _->_) ?_,((((((((((((((((d.set rfl).set rfl).set rfl).set rfl).set rfl).set rfl).set rfl).set rfl).set rfl).set rfl).set rfl).set rfl).set rfl).set rfl).set rfl).set rfl),]
def ND(J:aK lv h h w ms bk σ)(I:lQ x)(U:nn h<8)(a:h.length+1<50000)(b:w.length+1024<=50000)
 (d:∀σ',aK lv (fa h (x,[])) (fa h (x,[])) (wN h (x,[]) w) ms bk σ'->bB σ σ'->Q (vi (oZ (aI h) (x,[]))) σ'):GC g (k+8) exc σ (.raw (.ref 414)) [.loc lv,.tup [.str x]] Q:=by
 rw[bp u3 rfl rfl rfl ?_,<-C J,aw C λp q=>?_,0 C,<-e q.o,2 nB,"w",cj [(0,.loc lv)] rfl ⟨rfl,trivial⟩ ?_,"w",hM (Vj _) (aY ⟨rfl,trivial⟩ (.tup _) (eJ ?_)),cY bT (Vj _) ?_,"w",Gm (ks:=[]) J I (λ_ hi=>nomatch hi) (Vj _) U a b d,]
end
end
noncomputable section
noncomputable abbrev tI:=Nat->Nat->yC->Prop
inductive PV(ns:List Nd)(ev:tI):Nat->V->V->V->Prop
 |told {d a b:Nat} {t:Str}:ev a b (.told t)->PV ns ev (d+1) (.tup [.str "told",.str t]) (tm ns a) (tm ns b)
 |rule {d a b k:Nat}:ev a b (.rule k)->PV ns ev (d+1) (.tup [.str "rule",.str "r",.tup [.tup [.str "?x",tm ns k]]]) (tm ns a) (tm ns b)
 |same {d a:Nat}:a<ns.length->PV ns ev (d+1) (.tup [.str "same",tm ns a]) (tm ns a) (tm ns a)
 |turn {d:Nat} {q x y:V}:PV ns ev d q y x->PV ns ev (d+1) (.tup [.str "turn",q]) x y
 |join {d:Nat} {q r x y z:V}:PV ns ev d q x z->PV ns ev d r z y->PV ns ev (d+1) (.tup [.str "join",q,r]) x y
 |under {d:Nat} {op:Str} {l:List (V×V×V)}:PyData.strOk op=true->l.length<=2->(∀t∈l,PV ns ev d t.1 t.2.1 t.2.2)->PV ns ev (d+1) (.tup [.str "under",.str op,.tup (l.map (·.1))]) (.tup (.str op::l.map (·.2.1))) (.tup (.str op::l.map (·.2.2)))
def PV.up{ns:List Nd}{ev:tI}{d:Nat}{p x y:V}(h:PV ns ev d p x y):PV ns ev (d+1) p x y:=by
 induction h with
 |told e=>exact .told e
 |rule e=>exact .rule e
 |same e=>exact .same e
 |turn _ o=>exact .turn o
 |join _ _ C I=>exact .join C I
 |under J U _ o=>exact .under J U o
def PV.le{ns:List Nd}{ev:tI}{d o:Nat}{p x y:V}(h:PV ns ev d p x y)(C:d<=o):PV ns ev o p x y:=by
 induction C with
 |refl=>exact h
 |step _ I=>exact I.up
noncomputable def wR(ns:List Nd)(ev:tI)(d:Nat):List V->V->V->Prop
 |[],x,y=>x=y
 |p::l,x,y=>∃z,PV ns ev d p x z/\wR ns ev d l z y
def wR.snoc{ns:List Nd}{ev:tI}{d:Nat}{p z y:V}(o:PV ns ev d p y z){l:List V}:∀{x:V},wR ns ev d l x y->wR ns ev d (l++[p]) x z:=by
 induction l with
 |nil=>exactλh=>⟨_,h▸o,rfl⟩
 |cons _ _ C=>exactλh=>h.imp λ_ h=>⟨h.1,C h.2⟩
noncomputable def jn(p q:V):V:=.tup [.str "join",p,q]
noncomputable def pairUp:List V->List V
 |p::q::r=>jn p q::pairUp r
 |l=>l
def nR{o:Type}{C:List o->Prop}(n:C [])(s:∀p,C [p])(c:∀p q r,C r->C (p::q::r))(l:List o):C l:=by
 rw[(?_:C l/\∀p,C (p::l)).1,]
 induction l with
 |nil=>exact⟨n,s⟩
 |cons q r I=>exact⟨I.2 q,λp=>c p q r I.1⟩
def wR.pair{ns:List Nd}{ev:tI}{d:Nat}{l:List V}{y:V}:∀{x:V},wR ns ev d l x y->wR ns ev (d+1) (pairUp l) x y:=
 nR (C:=λl=>∀{x:V},wR ns ev d l x y->wR ns ev (d+1) (pairUp l) x y) (λh=>h) (λ_ _ h=>h.imp λ_ h=>⟨h.1.up,h.2⟩) (λ_ _ _ I _ h=>aw h λz h=>aw h.2 λw o=>⟨w,.join h.1 o.1,I o.2⟩) l
def yJ(l:List V):((List.range (l.length/2)).map λi=>jn (l.getD (2*i) .none) (l.getD (2*i+1) .none))++l.drop (l.length-l.length%2)=pairUp l:=by rw[nR (C:=λl=>((List.range (l.length/2)).map λi=>jn (l.getD (2*i) .none) (l.getD (2*i+1) .none))++l.drop (l.length-l.length%2)=pairUp l) rfl (λp=>by rw[show[p].length=1 from rfl];rfl) (λp q r o=>?_) l,<-I Nat.add_div_right r.length Nat.two_pos,<-J (Ve (r.length+2-·) (Nat.add_mod_right r.length 2)).trans (Nat.sub_add_comm (Nat.mod_le ..)),[I,J,List.range_succ_eq_map,VI,VD],Ve (jn p q::·) o,]
def vr(l:List V):(pairUp l).length<=l.length/\(1<l.length->(pairUp l).length<l.length):=
 nR (C:=λl=>(pairUp l).length<=l.length/\(1<l.length->(pairUp l).length<l.length)) ⟨Va _,λh=>U9 h (by decide)⟩ (λ_=>⟨Va _,λh=>U9 h (VB 1)⟩)
  (λ_ _ _ o=>⟨VG (VJ o.1),λ_=>Nat.succ_lt_succ (Xy o.1)⟩) l
def vt(l:List V)(o:a<=l.length):gs l (some (a:Int)) none none=l.drop a:=by rw[[pK,Gp,Wl o],List.take_of_length_le (Vz (List.length_drop ..)),]
section
variable{F:Fr}{K:KS}{s:List V}{m:GM}{σ:aq}
def BF{x j:Nat}{t:Tok}(k:K (.bool (decide (j<x))::s) m σ):cmp .Gt F K (.raw (.int j t)::vi x::s) m σ:=λC A env c I J o u v U a=>(Gb (F:=F) (K:=K) (s:=s) k) C A env c I J o u v U ⟨t,a⟩
def BG(hz:z≠0)(o:Builtin.divisionGoesByPylong (y-x) z=false)(k:K (.mi x y z::s) m σ):gH 3 F K (.int z::.int y::.int x::.raw (.type "range")::s) m σ:=λI A env c J C=>xw hz o ⟨rfl,σ,C,k⟩
def vu(o:y≠0)(k:K (vi (x%y)::s) m σ):bin .Mod F K (vi y::vi x::s) m σ:=λI A env c J C=>mJ (λe=>o (WL e)) ⟨rfl,σ,C,by rw[[show(x:Int).fmod (y:Int)=((x%y:Nat):Int) by rw[Int.fmod_eq_emod_of_nonneg _ (Wj y)];rfl],k,]⟩
end
section
variable{g:G0}{k:Nat}{exc:XQ}{lv:Addr}{h l:HI}{w ms:List Nat}{bk:Nat}{σ0 σ:aq}{Q:V->aq->Prop}{n:Nat}
def J0(C:aK lv h h w ms bk σ)(U:Q (.tup [vi (nn h),vi (bK h).length,vi bk]) σ):GC g (k+3) exc σ (.raw (.ref 109)) [.loc lv] Q:=by rw[a8 ym (by decide+kernel) rfl ?_,<-I C,aw C λp q=>?_,0 C,<-b q.o,<-a q.e,<-J q.sz,2 pB,"w",wH I ?_,"w",aX (n:=(bK h).length) (cv a rfl) (U2 ..) (U3 cS (kl J.2.1)) ?_,"w",U,]
def BH(d:aK lv h h w ms bk σ)(a:n<nn h)(f:∀σ',aA 60 61 σ σ'->Q (tm (aI h) n) σ'):GC g (k+3) exc σ (.raw (.ref 116)) [.loc lv,vi n] Q:=by
 rw[a8 sE (by decide+kernel) rfl<|aw d λp q=>?_,0 d,<-r q.o,<-C q.bk,<-I C,6 I,λJ=>aB λi U=>n0 J λt no u v y z A b=>?_,0 J,];rcases b with⟨m,_⟩;rw[U ?_,0 U i,2 kW,"w",Br C a λx B=>?_,"w",BF (j:=100000) ?_,"w",aQ (λe=>U9 e ?_) λ_=>?_,]
 ·have:=WJ (n:=3) (by decide) (show n<=7 by have:=gB q.wf;exact ax [.lt af aj,.le aj eo] (.le af (.k 7)) (.l [1,1,1]) tt [_,_] a this)
  have:(3:Nat)^7=2187:=by decide
  omega
 rw["w",JB C a f,]
end
end
noncomputable section
section
variable{g:G0}{k:Nat}{exc:XQ}{lv:Addr}{h l:HI}{w ms:List Nat}{bk:Nat}{σ0 σ:aq}{Q:V->aq->Prop}{n:Nat}
noncomputable def T1(ns:List Nd):yC->V
 |.told t=>.tup [.str "told",.str t]
 |.rule k=>.tup [.str "rule",.str "r",.tup [.tup [.str "?x",tm ns k]]]
 |.d5=>.none
def EZ(C:aK lv h h w ms bk σ)(v:(bK h)[i]?=some (a,b,r))(y:r≠.d5)(z:∀j,r=.rule j->j<nn h)(x:∀σ',aA 60 61 σ σ'->Q (T1 (aI h) r) σ'):GC g (k+4) exc σ (.raw (.ref 121)) [.loc lv,vi i] Q:=by
 rw[bp lJ (by decide+kernel) rfl rfl ?_,<-I C,aw C λp q=>?_,0 C,<-A q.o,<-J q.e,<-U q.sz,<-d aS v,<-f cS (h:=h),2 gv,"w",bW J rfl (cm v) (ax [.le af bQ,.lt aj aC,.le aC af] (.lt aj (.k 1000000)) (.l [1,1,1,1]) tt [_,_,_] U.2.1 d f) ?_,"w",]
 induction r with
 |d5=>exact U9 rfl y
 |told t=>
  rw[cb ?_,"w",aQ (λ_=>?_) λe=>U9 rfl e,"w",fq ?_,"w",];exact x σ .refl
 |rule j=>
  rw[cb ?_,"w",aQ (λe=>U9 e (by decide)) λ_=>?_,"w",fq ?_,"w",cj [(0,.loc lv)] rfl ⟨rfl,trivial⟩ ?_,"w",qU (aY ⟨rfl,trivial⟩ (.tup _) (dg (bG ?_))),"w",⟨rfl,nM (λ_=>?_) λe=>nomatch e⟩,"w",BH I (z j rfl) λm u=>?_,"w",⟨⟨rfl,trivial⟩,Vj _,eJ ?_⟩,cY bT (U1 rfl) ?_,"w",x m u,]
def BJ:∀n:Fin 101,1<n.1->Builtin.Range.small ((0:Nat):Int) ((n.1-1:Nat):Int) ((2:Nat):Int)=true/\Builtin.Range.rangeSize ((0:Nat):Int) ((n.1-1:Nat):Int) ((2:Nat):Int)=((n.1/2:Nat):Int):=by decide+kernel
def rg(h1:1<n)(o:n<=100):Builtin.Range.small ((0:Nat):Int) ((n-1:Nat):Int) ((2:Nat):Int)=true/\Builtin.Range.rangeSize ((0:Nat):Int) ((n-1:Nat):Int) ((2:Nat):Int)=((n/2:Nat):Int)/\jo ((0:Nat):Int) ((2:Nat):Int) (n/2)=(List.range (n/2)).map λi=>vi (2*i):=by rw[aV (BJ ⟨n,Xy o⟩ h1) λC I=>⟨C,I,?_⟩,2 jo,Vy λi _=>Ve V.int ((Int.zero_add _).trans ((Int.mul_comm ..).trans (Int.natCast_mul 2 i).symm)),]
def J4{ns:List Nd}{ev:tI}{d a:Nat}{X:V}{f:List V}{y:V}(P:aK lv h h w ms bk σ)(G:a<nn h)(R:Seq σ X f)(H:f.length<=100)(S:wR (aI h) ev d f (tm (aI h) a) y)
 (L:∀p σ',PV (aI h) ev (d+f.length+1) p (tm (aI h) a) y->aA 60 61 σ σ'->Q p σ'):GC g (k+4) exc σ (.raw (.ref 126)) [.loc lv,vi a,X] Q:=by
 rw[bp qH (by decide+kernel) rfl rfl ?_,2 jC,"w",wm R (kl H) (.inl ?_),"w",e4 (λz:List V×Nat=>z.1.length) (λz=>[(0,.loc lv),(1,vi a),(3,.lst z.1)]) (λz σ'=>σ'=σ/\z.1.length<=100/\z.2+z.1.length<=d+f.length/\wR (aI h) ev z.2 z.1 (tm (aI h) a) y) (f,d) ⟨rfl,rfl,rfl,trivial⟩ ⟨rfl,H,Va _,S⟩ λz σ' M=>?_,];obtain⟨I,t⟩:=z;rw[jU M λu (o:I.length<=100) (b:t+I.length<=d+f.length) (C:wR (aI h) ev t I (tm (aI h) a) y)=>?_,0 M,3 u,"w",aX bT rfl (kl o) ?_,"w",oQ (λJ=>?_) λJ=>?_,]
 ·rw[cj [(3,.lst I)] rfl ⟨rfl,trivial⟩ ?_,]
  rw["w",aX bT rfl (kl o) ?_,"w",gm (VP J) ?_,"w",BG (by decide) rfl (aY ⟨rfl,trivial⟩ (.mi (n:=I.length/2) (rg J o).1 (rg J o).2.1) ?_),[(rg J o).2.2],bJ (y:=λi=>jn (I.getD (2*i) .none) (I.getD (2*i+1) .none)) (List.range (I.length/2)) [] (λi hi W P' v x=>?_) (by rw[[Xw,Wm,Wk],U3 (Nat.div_le_self ..) (U3 o (by decide)),]) ?_,]
  ·have U:=ax [.le (.r (.p af aF) 2) aj] (.lt (.p (.m 2 af) aF) aj) (.l [1,1]) tt [_,_] ((Nat.le_div_iff_mul_le (by decide)).mp (List.mem_range.mp hi))
   have N:I.length<=1000000:=U3 o (by decide);rw[bG ⟨rfl,nM (λ_=>?_) λe=>nomatch e⟩,"w",bz (X:=I.getD (2*i) .none) ?_ (Vg (Nat.lt_of_succ_lt U) N) ?_,]
   ·rw[Vf,U' (Nat.lt_of_succ_lt U)];rfl
   rw["w",bz (X:=I.getD (2*i+1) .none) ?_ (Vg U N) ?_,]
   ·rw[Vf,U' U];rfl
   rw["w",⟨⟨rfl,trivial⟩,v,x⟩,]
  ·rw[Wg]
   rw["w",aX bT rfl (kl o) ?_,"w",aX bT rfl (kl o) ?_,"w",vu (by decide)<|gm (Nat.mod_le ..) ?_,"w",jH bT (.int _) .none .none (by intro e;rw[7 e,]) (kl o) (vt _ (ax [.sub af aj aC] (.le af aj) (.l [1,0,1]) tt [_,_,_] rfl)) (.inl ?_),ko bT bT (by rw[[U2,Xw,List.length_drop],U3 (WM (U3 (Nat.div_le_self ..) o) (U3 (Nat.sub_le ..) o)) (by decide),]) (.inl ?_),[yJ],"w",<-j (vr I).2 J,⟨rfl,(pairUp I,t+1),j,⟨rfl,rfl,rfl,trivial⟩,rfl,by rw[ax [.le af bU,.lt aj af] (.le aj bU) (.l [1,1,1]) tt [_,_] o j,],by rw[ax [.le (.p af aj) (.p aC bH),.lt iV aj] (.le (.p (.p af aF) iV) (.p aC bH)) (.l [1,1,1]) tt [_,_,_,_,_] b j,],C.pair⟩,]
 ·rw["w",]
  rw[aX bT rfl (ax [.CG aF af] (.le af aE) (.l [1,1]) tt [_] J) ?_,"w",]
  match I,C,o,b,J with
  |[],C,o,b,J=>
   rw[aQ (λe=>nomatch e) λ_=>?_,"w",BH P G λA B=>?_,"w",<-C C,];refine L _ A (PV.le (d:=1) (C▸.same G) (ax [] (.le aF (.p (.p af aj) aF)) (.l [1]) tt [_,_])) B
  |[p],C,o,b,J=>
   rw[aQ (λ_=>?_) λe=>U9 rfl e,"w",bz (n:=0) rfl (by decide) ?_,"w",ah C λz Y D=>?_,0 C,<-D D,<-b b,];exact L p _ ((D▸Y).le (ax [.le (.p af aF) (.p aj aC)] (.le af (.p (.p aj aC) aF)) (.l [1,1]) tt [_,_,_] b)) .refl
  |p::q::E,C,o,b,J=>exact U9 (show 1<E.length+1+1 by rw[ax [] (.lt aF (.p (.p af aF) aF)) (.l [1]) tt [_],]) J
end
end
noncomputable section
def e6(j:Nat)(σ σ':aq):Prop:=∀t:Tg,(cW 41 44 t=false\/(cW 40 43 t=true/\t.i%2≠j))->σ' t=σ t
def e6.refl:e6 j σ σ:=λ_ _=>rfl
def e6.trans(h1:e6 j σ σ')(I:e6 j σ' o):e6 j σ o:=λt C=>(I t C).trans (h1 t C)
def e6.set(h:e6 j σ σ')(h1:cW 41 44 t=true)(I:t.k=43\/t.i%2=j):e6 j σ (σ'.set t o):=λu C=>by
 rw[(aq.ag λe=>?_).trans (h u C),8 e,];rcases C with C|⟨C,hi⟩
 ·rw[h1] at C;rw[7 C,]
 ·rcases I with I|I
  ·have:=az.mp C;exact ax [.eq af (.k 43),.lt af (.k 43)] (.ff) (.l [0,0,1,1]) tt [_] I this.2
  ·rw[hi I,]
noncomputable abbrev NF(p:Nat×Nat):V:=.tup [vi p.1,vi p.2]
def nS(j:Nat)(I:Addr)(f:Nat->List (Nat×Nat))(σ:aq):Prop:=∃(o:List Nat) (C:Nat->Addr),σ ⟨41,j⟩=some (.one I (.dA (o.map λ(c:Nat)=>(Atom.i c,.loc (C c)))))/\o.Nodup/\(∀c,c∈o↔f c≠[])/\(∀c∈o,c<8)/\
 ∀c∈o,σ ⟨42,2*c+j⟩=some (.one (C c) (.list ((f c).map NF)))
def nS.same(h:nS j o f σ)(hs:Kept 41 43 σ σ'):nS j o f σ':=by rw[tW h λC I J U a b d=>?_,0 h,⟨C,I,(hs _ rfl).trans J,U,a,b,λc e=>(hs ⟨42,2*c+j⟩ rfl).trans (d c e)⟩,]
section
variable{F:Fr}{K:KS}{s:List V}{m:GM}{σ:aq}{j:Nat}{bA:Addr}{f:Nat->List (Nat×Nat)}
def tJ(d:nS j bA f σ)(h:j<2)(n:c<8)(hf:(f c).length<=100)(li:lk m i=some (vi c))(l2:lk m 2=some (vi x))(H:lk m i'=some (vi o))
 (E:∀σ',nS j bA (λz=>if z=c then f c++[(x,o)] else f z) σ'->e6 j σ σ'->K s m σ'):
 (ee 28 F<|ld i F<|lst 0 F<|dc 2 F<|ee 24 F<|ld 2 F<|ld i' F<|tup 2 F<|dc 1 F<|pop F<|K) (.loc bA::s) m σ:=by
 rw[tW d λr t u v k J w=>?_,0 d,<-U aJ v λc n=>J c n,"w",];by_cases hm:c∈r
 ·have L:=w c hm
  refine cF ⟨43,0⟩ λa _=>Gh (k1:=.i c) rfl u rfl (by rw[[U2],kl U,]) (λX I=>?_) λI=>by rw[aZ.1 hm] at I;rw[7 I,]
  rw[aZ.1 hm] at I;rw[1 I,"w","w",aW L rfl (by rw[[U2],kl hf,]) λA=>?_,"w",E _ ⟨r,t,u,v,λz=>?_,J,λz C=>?_⟩ ((e6.refl.set rfl (.inl rfl)).set rfl (.inr ((Nat.mul_add_mod 2 c j).trans (Wq h)))),]
  ·rw[k]
   dsimp only;by_cases q:z=c
   ·rw[Vb q,q]
    exact⟨λ_ e=>by simp at e,λ_=>(k c).mp hm⟩
   ·rw[U8 q]
  ·dsimp only
   by_cases q:z=c
   ·rw[[Vb q,q,Vd],A,]
   ·rw[U8 q]
    exact(fT (λe=>q (ax [.eq (.p (.m 2 af) aj) (.p (.m 2 aC) aj)] (.eq aC af) (.s 0 (.l [2,1]) (.l [2,0,1])) tt [_,_,_] e))).trans (w z C)
 ·have B:=Wc λe=>hm ((k c).mpr e)
  rw[cF ⟨42,2*c+j⟩ λa D=>Gh (k1:=.i c) rfl u rfl (by rw[[U2],kl U,]) (λX I=>by rw[aZ.2 hm] at I;rw[7 I,]) λ_ G=>?_,];rw[dy (aZ.2 hm)] at G⊢;rw["w","w",aW D rfl (Vj _) λA=>?_,"w",E _ ⟨r++[c],λz=>if z=c then a else t z,?_,?_,λz=>?_,λz C=>?_,λz C=>?_⟩ (((e6.refl.set rfl (.inr ((Nat.mul_add_mod 2 c j).trans (Wq h)))).set rfl (.inr (show j%2=j from Wq h))).set rfl (.inr ((Nat.mul_add_mod 2 c j).trans (Wq h)))),]
  ·rw[G.trans ?_,]
   congr 3;rw[Vd];congr 1
   ·rw[Vy λz C=>?_,]
    dsimp only;rw[U8 (show¬z=c fromλe=>hm (e▸C))]
   ·show _=[(Atom.i c,V.loc (if c=c then a else t c))]
    rw[Vb rfl]
  ·rw[Wu]
   exact⟨v,VY ..,λa D b d e=>hm (by rw[U5.mp d] at e;rw[e▸D,])⟩
  ·rw[Vk,U5,k]
   dsimp only;by_cases q:z=c
   ·rw[Vb q]
    exact⟨λ_ e=>by simp at e,λ_=>.inr q⟩
   ·rw[U8 q]
    exact⟨λe=>e.resolve_right q,.inl⟩
  ·rcases Vk.mp C with C|C
   ·rw[J z C,]
   ·rw[[U5.mp C],n,]
  ·dsimp only
   by_cases q:z=c
   ·rw[[Vb q,Vb q,B,q],A,]
   ·rw[U8 q,U8 q]
    rw[<-C (Vk.mp C).resolve_right λe=>q (U5.mp e),(fT (λe=>q (ax [.eq (.p (.m 2 af) aj) (.p (.m 2 aC) aj)] (.eq aC af) (.s 0 (.l [2,1]) (.l [2,0,1])) tt [_,_,_] e))).trans ((fT (λe=>q (ax [.eq (.p (.m 2 af) aj) (.p (.m 2 aC) aj)] (.eq aC af) (.s 0 (.l [2,1]) (.l [2,0,1])) tt [_,_,_] e))).trans (w z C)),]
end
end
noncomputable section
noncomputable def fe:HI->List (Nat×Nat×Nat)
 |[]=>[]
 |.mk _::h=>fe h
 |.kn _ _::h=>fe h
 |.ed a b _::h=>if ay (mr h) a=ay (mr h) b then fe h else fe h++[((bK h).length,a,b)]
def lz(w:jM h):(fe h).map (·.1)=nQ h/\∀e∈fe h,e.1<(bK h).length/\(∃r,(bK h)[e.1]?=some (e.2.1,e.2.2,r))/\e.2.1<nn h/\e.2.2<nn h:=by
 refine w.ind (C:=λh=>(fe h).map (·.1)=nQ h/\∀e∈fe h,e.1<(bK h).length/\(∃r,(bK h)[e.1]?=some (e.2.1,e.2.2,r))/\e.2.1<nn h/\e.2.2<nn h) ⟨rfl,λ_ h=>nomatch h⟩
  (λ_ _ _ _ _ i=>⟨i.1,λe o=>jU (i.2 e o) λJ I d f=>dB▸⟨J,I,Vi d,Vi f⟩⟩) (λ_ _ _ i=>i) λ{a b r h} j k _ i=>?_
 have key:∀e∈fe h,e.1<(bK h++[(a,b,r)]).length/\(∃U,(bK h++[(a,b,r)])[e.1]?=some (e.2.1,e.2.2,U))/\e.2.1<nn h/\e.2.2<nn h:=λe o=>
  jU (i.2 e o) λJ I d f=>⟨U7▸Nat.lt_add_right _ J,I.imp λU I=>(VQ J).trans I,d,f⟩
 refine(?_:(if ay (mr h) a=ay (mr h) b then fe h else fe h++[((bK h).length,a,b)]).map (·.1)=(if ay (mr h) a=ay (mr h) b then nQ h else nQ h++[(bK h).length])/\
  ∀e∈(if ay (mr h) a=ay (mr h) b then fe h else fe h++[((bK h).length,a,b)]),e.1<(bK h++[(a,b,r)]).length/\(∃U,(bK h++[(a,b,r)])[e.1]?=some (e.2.1,e.2.2,U))/\e.2.1<nn h/\e.2.2<nn h)
 by_cases q:ay (mr h) a=ay (mr h) b
 ·rw[Vb q,Vb q]
  exact⟨i.1,key⟩
 ·rw[U8 q,U8 q]
  exact⟨by rw[Vd,i.1];rfl,λe o=>(Vk.mp o).elim (key e) λo=>U5.mp o▸⟨U7▸Vs _,⟨r,WK ..⟩,j,k⟩⟩
noncomputable def J5(c:Nat)(e:Nat×Nat×Nat):List (Nat×Nat):=(if c=e.2.1 then[(e.1,e.2.2)] else[])++if c=e.2.2 then[(e.1,e.2.1)] else[]
noncomputable def jc(es:List (Nat×Nat×Nat))(c:Nat):List (Nat×Nat):=es.flatMap (J5 c)
def rh:(jc es c).length<=2*es.length:=by
 induction es with
 |nil=>exact Vj _
 |cons e es o=>
  show(J5 c e++jc es c).length<=_;have:(J5 c e).length<=2:=by
   rw[2 J5,[U7],];have C:(if c=e.2.1 then[(e.1,e.2.2)] else[]).length<=1:=by split<;>simp
   have I:(if c=e.2.2 then[(e.1,e.2.1)] else[]).length<=1:=by split<;>simp
   rw[ax [.le af aF,.le aj aF] (.le (.p af aj) gI) (.l [1,1,1]) tt [_,_] C I,]
  rw[[U7,WB],ax [.le af (.m 2 aj),.le aC gI] (.le (.p aC af) (.m 2 (.p aj aF))) (.l [1,1,1]) tt [_,_,_] o this,]
def BK:(λz=>if z=b then(if b=a then jc es a++[(i,b)] else jc es b)++[(i,a)] else if z=a then jc es a++[(i,b)] else jc es z)=jc (es++[(i,a,b)]):=by
 funext z
 have C:jc (es++[(i,a,b)]) z=jc es z++J5 z (i,a,b):=by rw[2 jc,[List.flatMap_append],];congr 1;rw[VR _,]
 rw[[C],2 J5,];dsimp only;by_cases q:z=b
 ·subst q
  rw[Vb rfl,Vb rfl];by_cases o:z=a
  ·subst o
   rw[Vb rfl,Vb rfl,Vo]
  ·rw[U8 o,U8 o,Wg]
 ·rw[U8 q,U8 q,VR]
  by_cases o:z=a
  ·subst o
   rw[Vb rfl,Vb rfl]
  ·rw[U8 o,U8 o,VR]
def nT(w:jM h):(fe h).length<=8:=by
 have:=Ve List.length (lz w).1;rw[U2,jN w] at this;rw[this];rcases Nat.eq_zero_or_pos (nn h) with q|q
 ·have w:=ew w
  generalize mr h=r at*
  induction r using List.casesOn with
  |nil=>exact Vj _
  |cons x r=>exact U9 (q▸w.2.1) (VT _)
 ·rw[U3 (VP (mg_lt (ew w) q)) (gB w),]
def Gq(o:HI):nn C<=nn (o++C)/\(bK C).length<=(bK (o++C)).length:=by
 induction o with
 |nil=>exact⟨Va _,Va _⟩
 |cons c o I=>
  rw[c.casesOn (motive:=λc=>nn C<=nn (c::(o++C))/\(bK C).length<=(bK (c::(o++C))).length) (λ_=>⟨dB▸VG I.1,I.2⟩) (λ_ _=>I) λa b r=>⟨I.1,(U7:(bK (o++C)++[(a,b,r)]).length=_)▸VG I.2⟩,]
def E0(o:HI):nn (o++C)=nn C->(bK (o++C)).length=(bK C).length->fe (o++C)=fe C:=by
 induction o with
 |nil=>exactλ_ _=>rfl
 |cons c o J=>
  exact c.casesOn (motive:=λc=>nn (c::(o++C))=nn C->(bK (c::(o++C))).length=(bK C).length->fe (c::(o++C))=fe C) (λ_ e=>U9 (U3 (Vz (dB.symm.trans e)) (Gq o).1) (Nat.not_succ_le_self _)) (λ_ _=>J)
   λa b r _ e=>U9 (U3 (Vz ((U7 (bs:=[(a,b,r)])).symm.trans e)) (Gq o).2) (Nat.not_succ_le_self _)
noncomputable abbrev WS:=Option (HI×Nat)
noncomputable def Ld:WS->V
 |none=>.none
 |some (h,b)=>.tup [vi (nn h),vi (bK h).length,vi b]
noncomputable def vv(lv o:Addr)(st:WS)(pa le:Nat):List (Nat×V):=[(0,.loc lv),(1,vi pa),(2,vi le),(3,Ld st),(4,.loc o)]
def eE(j:Nat)(C lv:Addr)(st:WS)(pa le:Nat)(σ:aq):Prop:=∃I o,σ ⟨40,j⟩=some (.obj C 176 I (vv lv o st pa le))/\∀x,st=some x->nS j o (jc (fe x.1)) σ
def y4(st:WS)(h:HI)(bk:Nat):Prop:=∀C b,st=some (C,b)->b<bk\/b=bk/\∃o,h=o++C
def cy(j:Nat)(σ σ':aq):Prop:=∀t:Tg,(cW 40 44 t=false\/(cW 40 43 t=true/\t.i%2≠j))->σ' t=σ t
def cy.refl:cy j σ σ:=λ_ _=>rfl
def cy.trans(h1:cy j σ σ')(I:cy j σ' o):cy j σ o:=λt C=>(I t C).trans (h1 t C)
def cy.set(h:cy j σ σ')(h1:cW 40 44 t=true)(I:t.k=43\/t.i%2=j):cy j σ (σ'.set t o):=λu C=>by
 rw[(aq.ag λe=>?_).trans (h u C),8 e,];rcases C with C|⟨C,hi⟩
 ·rw[h1] at C;rw[7 C,]
 ·rcases I with I|I
  ·have:=az.mp C;exact ax [.eq af (.k 43),.lt af (.k 43)] (.ff) (.l [0,0,1,1]) tt [_] I this.2
  ·rw[hi I,]
def e6.v(h:e6 j σ σ'):cy j σ σ':=λt o=>h t (o.imp (λe=>VC.mpr λq=>by have:=az.mp q;rw[az.mpr ⟨by rw[ax [.le (.k 41) af] (.le (.k 40) af) (.l [1,1]) tt [_] this.1,],this.2⟩] at e;rw[7 e,]) id)
def cy.kept{j:Nat}{σ σ':aq}(h:cy j σ σ'){lo hi:Nat}(o:hi<=40\/44<=lo):Kept lo hi σ σ':=λt C=>h t (.inl (kU C o))
end
noncomputable section
section
variable{g:G0}{k:Nat}{exc:XQ}{lv wo:Addr}{h l:HI}{w ms:List Nat}{bk j pa le:Nat}{st:WS}{σ0 σ:aq}{Q:V->aq->Prop}{n:Nat}
def yK(hu:aK lv h h w ms bk σ)(hw:eE j wo lv st pa le σ)(hj:j<2)(hv:y4 st h bk)(hQ:∀σ',eE j wo lv (some (h,bk)) pa le σ'->cy j σ σ'->Q .none σ'):GC g (k+4) exc σ (.raw (.ref 147)) [.loc wo] Q:=by
 rw[a8 ng (by decide+kernel) rfl<|dr hw λJ G z S=>?_,0 hw,<-T2 hu,aw hu λp q=>?_,0 hu,<-ho q.o,<-he q.e,<-A q.f,<-jy q.sz,<-H q.wf,2 g6,];have L:j%2=j:=Wq hj;rw["w",J0 T2 ?_,"w",];have hg:GG σ (Ld st) (Ld st):=by induction st<;>exact .of rfl
 rw[qS z rfl rfl (by decide) (λP=>by kernel_rfl) (by induction st<;>rfl)<|Bm (X:=.tup [vi (nn h),vi (bK h).length,vi bk]) (.of rfl) hg (by induction st<;>rfl) λb C=>?_,"w",w_ite (λe=>?_) λe=>?_,]
 ·rw[?_,]
  rw[lX ⟨41,j⟩ λI W=>?_,"w",bC z rfl (by decide) (λP=>by kernel_rfl) (U1 rfl) λD=>?_,"w",bC D rfl (by decide) (λP=>by kernel_rfl) (U1 rfl) λy=>?_,"w",];have Y:cy j σ (((σ.set ⟨41,j⟩ (.one I (.dA []))).set ⟨40,j⟩ (.obj wo 176 J (fF 3 (.tup [vi (nn h),vi (bK h).length,vi bk]) (vv lv G st pa le)))).set ⟨40,j⟩ (.obj wo 176 J (vv lv I (some (h,bk)) pa le))):=((cy.refl.set rfl (.inr L)).set rfl (.inr L)).set rfl (.inr L);have Ov:nS j I (jc []) (((σ.set ⟨41,j⟩ (.one I (.dA []))).set ⟨40,j⟩ (.obj wo 176 J (fF 3 (.tup [vi (nn h),vi (bK h).length,vi bk]) (vv lv G st pa le)))).set ⟨40,j⟩ (.obj wo 176 J (vv lv I (some (h,bk)) pa le))):=
   ⟨[],λ_=>0,W,.nil,λc=>⟨λe=>(nomatch e),U9 rfl⟩,λc hc=>(nomatch hc),λc hc=>(nomatch hc)⟩
  have y:(((σ.set ⟨41,j⟩ (.one I (.dA []))).set ⟨40,j⟩ (.obj wo 176 J (fF 3 (.tup [vi (nn h),vi (bK h).length,vi bk]) (vv lv G st pa le)))).set ⟨40,j⟩ (.obj wo 176 J (vv lv I (some (h,bk)) pa le))) ⟨40,j⟩=some (.obj wo 176 J (vv lv I (some (h,bk)) pa le)):=aq.ae;change df _ _ _ _ _ _ _ (((σ.set ⟨41,j⟩ (.one I (.dA []))).set ⟨40,j⟩ (.obj wo 176 J (fF 3 (.tup [vi (nn h),vi (bK h).length,vi bk]) (vv lv G st pa le)))).set ⟨40,j⟩ (.obj wo 176 J (vv lv I (some (h,bk)) pa le)));generalize (((σ.set ⟨41,j⟩ (.one I (.dA []))).set ⟨40,j⟩ (.obj wo 176 J (fF 3 (.tup [vi (nn h),vi (bK h).length,vi bk]) (vv lv G st pa le)))).set ⟨40,j⟩ (.obj wo 176 J (vv lv I (some (h,bk)) pa le)))=BA at*;have k2:Kept 0 40 σ BA:=Y.kept (.inl (by decide))
  replace ho:=(k2 ⟨20,0⟩ rfl).trans ho
  replace he:=(k2 ⟨21,0⟩ rfl).trans he
  replace A:=(k2 ⟨22,0⟩ rfl).trans A
  refine aV (lz H) λf1 f2=>?_;rw[<-f1,VD] at A;clear W D z S;refine qX A rfl (e5 (f:=λe:Nat×Nat×Nat=>vi e.1) (m0:=[(0,.loc wo)]) (λd r σ'=>d++r=fe h/\e6 j (BA.del ⟨22,0⟩) σ'/\nS j I (jc d) σ')
   (λd e r σ' P hI hP=>?_) (λd m σ' DY hI=>?_) _ [] _ _ ⟨rfl,trivial⟩ ⟨rfl,.refl,Ov.same λt M=>aq.aR λe=>by rw[<-e] at M;rw[7 M,]⟩)
  ·obtain⟨i,a,c⟩:=e
   rw[dG hI λU N C=>?_,0 hI,];have T3:(i,a,c)∈fe h:=U▸Vm _ (VL ..);rw[jU (f2 _ T3) λh1 Gn h3 h4=>aw Gn λr' h2=>?_,0 Gn,<-EU gB H,];have R:d.length<=8:=by have:=nT H;rw[<-U,U7] at this;rw[ax [.le (.p af aj) eo] (.le af eo) (.l [1,1]) tt [_,_] this,]
   rw[<-Lc (N ⟨20,0⟩ (.inl rfl)).trans ho,<-OA (N ⟨21,0⟩ (.inl rfl)).trans he,<-OB cS (h:=h),<-T4 (N ⟨40,j⟩ (.inl rfl)).trans y,bX ⟨rfl,?_⟩,"w",bW OA rfl (cm h2) (Vg (show i<(bK h).length from h1) (U3 cS (U3 jy.1 (by decide)))) ?_,"w",tJ (i:=3) (i':=4) (c:=a) (o:=c) (x:=i) C hj (Vg h3 EU) (U3 rh (ax [.le af eo] (.le (.m 2 af) bU) (.l [1,2]) tt [_] R)) rfl rfl rfl λpI Qr Lb=>?_,<-T5 (Lb ⟨40,j⟩ (.inl rfl)).trans T4,"w",tJ (i:=4) (i':=3) (c:=c) (o:=a) (x:=i) Qr hj (Vg h4 EU) ?hf ?li ?l2 ?T6 λOC Oy QA=>?_,]
   case li=>rfl
   case l2=>rfl
   case T6=>rfl
   case hf=>
    split
    ·rw[[U7],<-this rh (es:=d) (c:=a),5 (_+1<=_),ax [.le af eo,.le aj (.m 2 af)] (.le (.p aj aF) bU) (.l [1,2,1]) tt [_,_] R this,]
    ·have:=rh (es:=d) (c:=c);exact ax [.le af eo,.le aj (.m 2 af)] (.le aj bU) (.l [1,2,1]) tt [_,_] R this
   rw[BK] at Oy;rw[⟨rfl,hP _ _ ⟨rfl,trivial⟩ ⟨by rw[[Vo],U,],(N.trans Lb).trans QA,Oy⟩⟩,]
  ·rw[dG hI λU N C=>?_,0 hI,]
   rw[VR] at U;rw[8 U,hQ _ ⟨J,I,?_,λx hx=>?_⟩ λt M=>?_,]
   ·exact(aH (lo:=40) (hi:=41) rfl rfl).trans ((N ⟨40,j⟩ (.inl rfl)).trans ((aq.aR λe=>by injection e with e;cases e).trans y))
   ·rw[1 hx,]
    rw[C.same λt M=>aH (lo:=41) (hi:=43) rfl M,]
   ·by_cases q:(⟨22,0⟩:Tg)=t
    ·rw[<-q]
     rw[aq.ae.trans (A.symm.trans (k2 ⟨22,0⟩ rfl)),]
    ·exact(aq.ag q).trans ((N.v t M).trans ((aq.aR q).trans (Y t M)))
 ·have C:¬((.tup [vi (nn h),vi (bK h).length,vi bk]:V)≠Ld st):=λq=>by rw[C.mpr q] at e;injection e
  have C:=Classical.not_not.mp C
  induction st with
  |none=>injection C
  |some x=>
   rw[aB λR_ mM=>?_,];obtain⟨E,B⟩:=x;rw[mM ?_,0 mM R_,];have Cr:Ld (some (h,bk))=Ld (some (E,B)):=C;have C:(.tup [vi (nn h),vi (bK h).length,vi bk]:V)=.tup [vi (nn E),vi (bK E).length,vi B]:=C;have u:nn h=nn E:=by injection C with C;injection C with u _;injection u with u;rw[WL u,]
   have e2:(bK h).length=(bK E).length:=by injection C with C;injection C with _ C;injection C with u _;injection u with u;rw[WL u,]
   have e3:bk=B:=by injection C with C;injection C with _ C;injection C with _ C;injection C with u _;injection u with u;rw[WL u,]
   have A:fe h=fe E:=by
    rcases hv E B rfl with q|⟨_,pre,rfl⟩
    ·rw[U9 (e3▸q) (VB _),]
    ·rw[E0 pre u e2,]
   rw[hQ σ ⟨J,G,?_,λx hx=>?_⟩ .refl,]
   ·rw[[z],2 vv,[Cr],]
   ·rw[1 hx,]
    rw[5 (nS j G (jc (fe h)) σ),[A],S (E,B) rfl,]
end
end
noncomputable section
noncomputable abbrev FE:=List (Nat×Nat×Nat)
def Ct(es:FE)(o x i:Nat)(b:Bool)(z:Nat):Prop:=∃u v,(i,u,v)∈es/\i<o/\(if b then u=z/\v=x else u=x/\v=z)
noncomputable def wU(es:FE)(o:Nat):Nat->List (Nat×Bool)->Nat->Prop
 |x,[],y=>x=y
 |x,p::l,y=>∃z,Ct es o x p.1 p.2 z/\wU es o z l y
def dE(es:FE)(o a b:Nat):Prop:=∃l,wU es o a l b
def jP:(i,y)∈jc es x↔(i,x,y)∈es\/(i,y,x)∈es:=by
 rw[2 jc,[List.mem_flatMap],];constructor
 ·rintro⟨⟨J,u,v⟩,I,h⟩
  unfold J5 at h;dsimp only at h;rcases Vk.mp h with h|h
  ·by_cases q:x=u
   ·rw[Vb q] at h
    injection U5.mp h with o C;rw[8 o,8 C,8 q,.inl I,]
   ·rw[U8 q] at h;cases h
  ·by_cases q:x=v
   ·rw[Vb q] at h
    injection U5.mp h with o C;rw[8 o,8 C,8 q,.inr I,]
   ·rw[U8 q] at h;cases h
 ·rintro(h|h)
  ·exact⟨_,h,Vv _ (by rw[[Vb rfl],Vr _,])⟩
  ·exact⟨_,h,Vm _ (by rw[[Vb rfl],Vr _,])⟩
def Ct.nb(h:Ct es e x i b z):(i,z)∈jc es x/\i<e:=by
 rw[cp h λu v a d o=>?_,0 h,]
 induction b with
 |true=>refine aV o λC I=>?_;rw[0 o,3 C,3 I,];exact⟨jP.mpr (.inr a),d⟩
 |false=>refine aV o λJ U=>?_;rw[0 o,3 J,3 U,⟨jP.mpr (.inl a),d⟩,]
noncomputable abbrev FL:=List (Nat×Nat×Nat)
noncomputable def dF(a:Nat)(r:FL):List Nat:=r.map (·.1)++[a]
noncomputable def BI(es:FE)(o a:Nat):FL->Prop
 |[]=>True
 |t::r=>t.1∉dF a r/\t.2.1∈dF a r/\(t.2.2,t.1)∈jc es t.2.1/\t.2.2<o/\BI es o a r
def BI.find:∀{r:FL},BI es b a r->c∈dF a r->c≠a->∃d I J U,r=d++(c,I,J)::U/\BI es b a U/\c∉dF a U/\I∈dF a U/\(J,c)∈jc es I/\J<b:=by
 intro r
 induction r with
 |nil=>exactλ_ h o=>U9 (U5.mp h) o
 |cons t r f=>
  intro C h o;by_cases q:t.1=c
  ·rw[<-q]
   exact⟨[],t.2.1,t.2.2,r,rfl,C.2.2.2.2,C.1,C.2.1,C.2.2.1,C.2.2.2.1⟩
  ·rw[rE (f C.2.2.2.2 ((Vc.mp (show c∈t.1::dF a r from h)).resolve_left λe=>q e.symm) o) λi I J j z=>⟨t::i,I,J,j,Ve (t::·) z.1,z.2⟩,]
def yL:BI es C a r->(dF a r).Nodup:=by
 induction r with
 |nil=>exactλ_=>VY ..
 |cons t r o=>exactλh=>VX.mpr ⟨h.1,o h.2.2.2.2⟩
def ri(h:x∈dF a o):x∈dF a (C++o):=by unfold dF at*;rw[[Vd,Vo],Vm _ h,]
def E1{es:FE}{I:Nat}{N:List Nat}(o:∀x∈N,∀i y,(i,y)∈jc es x->i<I->y∈N){l:List (Nat×Bool)}{b:Nat}:∀{x:Nat},x∈N->wU es I x l b->b∈N:=by
 induction l with
 |nil=>exactλC h=>h▸C
 |cons _ _ J=>exactλC h=>aw h λ_ h=>J (o _ C _ _ h.1.nb.1 h.1.nb.2) h.2
def NG(es:FE):Prop:=∀e∈es,∀o∈es,e.1=o.1->e=o
def J6(w:jM h):NG (fe h):=λe b d J q=>by rw[aV (lz w) λ_ a=>dG (a e b) λ_ o _=>aw o λr I=>?_,0 o,dG (a d J) λ_ C _=>aw C λj f=>?_,0 C,];rw[q,f] at I;injection I with I;injection I with i U;injection U with U _;rw[Prod.ext q (Prod.ext i.symm U.symm),]
def QG(es:FE)(i x:Nat):Prop:=∃e∈es,e.1=i/\(e.2.1=x\/e.2.2=x)
def J7(I:NG es)(h:(i,y)∈jc es x)(J:QG es i z):z=x\/z=y:=by
 rw[bL J λe U o C=>?_,0 J,3 o,];rcases jP.mp h with h|h
 ·have:=I e U _ h rfl
  rw[this] at C;rw[C.imp Eq.symm Eq.symm,]
 ·have:=I e U _ h rfl
  rw[this] at C;rw[C.symm.imp Eq.symm Eq.symm,]
def yM(l:List V):gs l none none (some (-1))=l.reverse:=by rw[2 gs,[krv_bounds,krv_sliceRange,krv_range,List.filterMap_reverse],<-this krv_all l.toArray,];simp only[List.getElem?_toArray,Xe] at this;rw[this]
end
noncomputable section
noncomputable def e7(a:Nat):FL->List (Atom×V)
 |[]=>[(.i (a:Int),.tup [])]
 |t::r=>e7 a r++[(.i (t.1:Int),.tup [vi t.2.1,vi t.2.2])]
def eL:c∉dF a r->aO (e7 a r) (.i c)=none:=by
 have ne:∀{x:Nat},c≠x->¬Atom.i x=.i c:=λh e=>h (WL (Atom.i.inj e)).symm
 induction r with
 |nil=>exactλh=>(bq ..).trans (U8 (ne λe=>h (e▸.head _)))
 |cons t r o=>exactλh=>(dJ (o λe=>h (.tail _ e))).trans ((bq ..).trans (U8 (ne λe=>h (e▸.head _))))
def kA:c∈dF a r->∃X,aO (e7 a r) (.i c)=some X:=by
 induction r with
 |nil=>exactλh=>⟨_,(bq ..).trans (Vb (U5.mp h▸rfl))⟩
 |cons t r o=>
  rw[λh=>?_,];by_cases q:c∈dF a r
  ·rw[aw (o q) λX C=>⟨X,fP C⟩,]
  ·exact⟨_,(dJ (eL q)).trans ((bq ..).trans (Vb ((Vc.mp h).resolve_right q▸rfl)))⟩
def E2(h:t.1∉dF a C):aO (e7 a (o++t::C)) (.i t.1)=some (.tup [vi t.2.1,vi t.2.2]):=by
 induction o with
 |nil=>exact(dJ (eL h)).trans ((bq ..).trans (Vb rfl))
 |cons u o I=>exact fP I
def BL:(e7 a r).length=r.length+1:=by
 induction r with
 |nil=>rfl
 |cons t r o=>exact U7.trans (Ve Nat.succ o)
noncomputable def lS(a:Nat)(r:FL):List V:=(dF a r).reverse.map vi
def yN:lS a (t::r)=lS a r++[vi t.1]:=by unfold lS dF;simp
def tK:(lS a r).length=r.length+1:=by unfold lS dF;simp
def rj(h:BI es C a r)(o:∀x∈dF a r,x<N):r.length+1<=N:=by have:=aJ (yL h) o;unfold dF at this;rw[U7,U2] at this;rw[this,]
noncomputable def NH:SC:=gd 2<|aN 8<|aN 9<|ao
noncomputable def NI:SC:=aa 8<|aa 3<|bO .Lt<|sq bu<|sq (eu .And (aa 9<|aa 4<|bO .NotIn<|sq bu<|ao))<|sq (ite (aa 7<|aa 8<|bc 2<|aa 4<|aa 9<|sq cD<|aa 5<|a' 24<|aa 9<|ba 1<|sq pop<|ao) ao)<|ao
section
variable{F:Fr}{m:GM}{σ:aq}{es:FE}{a b bf x:Nat}{cA rA wo:Addr}{sp:V}
def wV{Kf:GM->aq->Prop}{N:List (Nat×Nat)}{r:FL}(L:∀x i y,(i,y)∈jc es x->y<8)(hN:∀p∈N,p∈jc es x)(hb:BI es bf a r)(hn:∀z∈dF a r,z<8)(hx:x∈dF a r)
 (hm:bj [(0,.loc wo),(1,vi a),(2,vi b),(3,vi bf),(4,.loc cA),(5,.loc rA),(6,sp),(7,vi x)] m) (h0:σ ⟨61,0⟩=some (.one cA (.dA (e7 a r)))) (h1:σ ⟨61,1⟩=some (.one rA (.list (lS a r))))
 (hk:∀n σ' m',bj [(0,.loc wo),(1,vi a),(2,vi b),(3,vi bf),(4,.loc cA),(5,.loc rA),(6,sp),(7,vi x)] m'->BI es bf a (n++r)->(∀z∈dF a (n++r),z<8)->(∀p∈N,p.1<bf->p.2∈dF a (n++r))->
  σ' ⟨61,0⟩=some (.one cA (.dA (e7 a (n++r))))->σ' ⟨61,1⟩=some (.one rA (.list (lS a (n++r))))->aA 61 62 σ σ'->Kf m' σ'):
 ef (gb (NH F) (NI F)) Kf (N.map NF) m σ:=by
 refine tu (m0:=[(0,.loc wo),(1,vi a),(2,vi b),(3,vi bf),(4,.loc cA),(5,.loc rA),(6,sp),(7,vi x)])
  (λdone l σ'=>∃d q n,done=d.map NF/\l=q.map NF/\d++q=N/\BI es bf a (n++r)/\(∀z∈dF a (n++r),z<8)/\(∀p∈d,p.1<bf->p.2∈dF a (n++r))/\
   σ' ⟨61,0⟩=some (.one cA (.dA (e7 a (n++r))))/\σ' ⟨61,1⟩=some (.one rA (.list (lS a (n++r))))/\aA 61 62 σ σ')
  (λdone y rest σ' P v hP=>?_) (λdone m σ' M v=>?_) _ [] _ _ hm ⟨[],N,[],rfl,rfl,rfl,hb,hn,(λp j=>(nomatch j)),h0,h1,.refl⟩
 ·rw[Ll v λd q n Q H U C I w J f A=>?_,0 v,3 Q,]
  induction q using List.casesOn with
  |nil=>injection H
  |cons e q=>
   injection H with R S;rw[3 R,3 S,aB λR_ B=>?_,];obtain⟨i,y⟩:=e;rw[B ?_,0 B R_,<-D hN _ (U▸Vm _ (VL ..)),<-k rj C I,];have fin:∀t,BI es bf a (t++r)->(∀z∈dF a (t++r),z<8)->(∀p∈d,p.1<bf->p.2∈dF a (t++r))->(i<bf->y∈dF a (t++r))->∀o m,bj [(0,.loc wo),(1,vi a),(2,vi b),(3,vi bf),(4,.loc cA),(5,.loc rA),(6,sp),(7,vi x)] m->o ⟨61,0⟩=some (.one cA (.dA (e7 a (t++r))))->o ⟨61,1⟩=some (.one rA (.list (lS a (t++r))))->aA 61 62 σ o->P m o:=
    λt q1 q2 q3 q4 o m q5 q6 q7 q8=>hP m o q5 ⟨d++[(i,y)],q,t,by rw[Vd];rfl,rfl,by rw[[Vo],U,],q1,q2,λp j h=>by
     rcases Vk.mp j with j|j
     ·rw[q3 p j h,]
     ·rw[U5.mp j] at h⊢;exact q4 h,q6,q7,q8⟩
   rw[bX ?_,2 NH NI,"w",⟨rfl,?_⟩,"w",vd (λhi=>?_) λhi=>?_,]
   ·rw[w_ite (λe=>nomatch e) λ_=>⟨rfl,fin n C I w (λe=>U9 e hi) _ _ ⟨rfl,rfl,rfl,rfl,rfl,rfl,rfl,rfl,trivial⟩ J f A⟩,]
   ·rw["w",]
    rw[jI (k1:=.i y) rfl J rfl ?_,];by_cases E:y∈dF a (n++r)
    ·rw[aw (kA E) λX hX=>?_,]
     rw[[hX],"w",w_ite (λe=>nomatch e) λ_=>⟨rfl,fin n C I w (λ_=>E) _ _ ⟨rfl,rfl,rfl,rfl,rfl,rfl,rfl,rfl,trivial⟩ J f A⟩,]
    ·rw[eL E]
     rw["w",];refine w_ite (λ_=>?_) λe=>nomatch e;rw["w",eD (k1:=.i y) rfl J rfl (by rw[[BL],kn k,]) λu=>?_,];rw[dy (eL E)] at u⊢;rw["w",aW f rfl (by rw[[tK],kn k,]) λG=>?_,"w",⟨rfl,fin ((y,x,i)::n) ⟨E,ri hx,D,hi,C⟩ ?_ (λp j h=>Wz _ (w p j h)) (λ_=>VL ..) _ _ ⟨rfl,rfl,rfl,rfl,rfl,rfl,rfl,rfl,trivial⟩ u ?_ ((A.set rfl).set rfl)⟩,]
     ·intro z W
      rcases Vc.mp (show z∈y::dF a (n++r) from W) with rfl|W
      ·rw[L _ _ _ D,]
      ·rw[I z W,]
     ·rw[[XW,yN],G,]
 ·rw[Ll v λd q n Y H U C I w J f A=>?_,0 v,3 Y,]
  induction q using List.casesOn with
  |cons _ _=>injection H
  |nil=>
   rw[VR] at U;rw[hk n σ' m M C I (U▸w) J f A,]
end
end
noncomputable section
noncomputable def J8:SC:=aa 2<|aa 4<|bO .NotIn<|sq bu<|sq (ite (Mz (.ref 88)<|sq Oh<|au (.str "two numbers are not alike")<|aa 1<|aa 2<|bc 2<|sq rz<|ao) ao)<|eY 0<|aN 10<|sq (iB (aa 2<|aa 1<|bO .NotEq<|sq bu<|ao) (aa 4<|aa 2<|sq sub<|gd 2<|aN 7<|aN 8<|aa 10<|a' 24<|aa 8<|aa 0<|a9 0<|a9 14<|aa 8<|sq sub<|au (vi 0)<|sq sub<|aa 7<|bO .NotEq<|bc 2<|ba 1<|sq pop<|aa 7<|aN 2<|ao))<|aa 10<|au .none<|au .none<|au (vi 1)<|sq (un .USub)<|sq fL<|sq sub<|sq cU<|ao
noncomputable abbrev NJ(p:Nat×Bool):V:=.tup [vi p.1,.bool p.2]
section
variable{F:Fr}{K:KS}{s:List V}{m:GM}{σ σ0:aq}{h:HI}{a b bf j bk pa le:Nat}{st:WS}{cA wo wD lv bA:Addr}{p:HA}
def fJ(k:K (.int (-x)::s) m σ):un .USub F K (.int x::s) m σ:=λU A env c d J C a I F Z s e st=>by rw[aw I λt o=>?_,0 I,3 o,PyProof.Rows.neg_int ⟨F,.int (-x),c,.refl _,⟨_,rfl⟩,st.toks _,rfl,σ,J,k⟩,]
structure RI(es:FE)(bf a b:Nat)(r r2:FL)(c:Nat)(l:List (Nat×Bool)):Prop where
 sp:∃r1,r=r1++r2
 bi:BI es bf a r2
 mc:c∈dF a r2
 pt:wU es bf c l b
 nd:(l.map (·.1)).Nodup
 tc:∀i∈l.map (·.1),∃y,y∉dF a r2/\QG es i y
 ln:l.length+r2.length<=r.length
def J9(e:jM h)(f:(I,c)∈jc (fe h) C)(J:I<bf)(i:c≠C):∃u v U,(bK h)[I]?=some (u,v,U)/\I<(bK h).length/\Ct (fe h) bf C I (!decide (u=C)) c/\QG (fe h) I c:=by
 have d:=(lz e).2;rcases jP.mp f with o|o
 ·rw[aw (d _ o).2.1 λU k=>⟨C,c,U,k,(d _ o).1,⟨C,c,o,J,by rw[[Wo rfl],⟨rfl,rfl⟩,]⟩,_,o,rfl,.inr rfl⟩,]
 ·rw[aw (d _ o).2.1 λU k=>⟨c,C,U,k,(d _ o).1,⟨c,C,o,J,by rw[[WT i],⟨rfl,rfl⟩,]⟩,_,o,rfl,.inl rfl⟩,]
def RI.step(f:jM h)(I:RI (fe h) bf a b r A c l)(B:c≠a):∃C o d u v D,aO (e7 a r) (.i c)=some (.tup [vi C,vi o])/\(bK h)[o]?=some (u,v,D)/\o<(bK h).length/\
 RI (fe h) bf a b r d C ((o,!decide (u=C))::l)/\d.length<A.length:=by
 rw[aB λS k=>aw I.sp λW P=>rE (I.bi.find I.mc B) λQ C o d x=>Lk x λz E J U n G=>kG (J9 f n G λe=>J (e▸U)) λu v D y=>jU y λH L M N=>k ?_,0 k S x y,];have w:∀{y},y∈dF a d->y∈dF a A:=λe=>by rw[[z,List.append_cons],ri e,]
 have R:A.length=Q.length+(d.length+1):=by rw[z,U7,WB]
 rw[⟨C,o,d,u,v,D,?_,H,L,⟨⟨W++Q++[(c,C,o)],?_⟩,E,U,⟨c,M,I.pt⟩,VX.mpr ⟨λhi=>aw (I.tc _ hi) λy q=>?_,I.nd⟩,λi hi=>?_,?_⟩,?_⟩,]
 ·rw[P,z,<-Vo];rw[E2 (t:=(c,C,o)) J,]
 ·rw[P,z,Vo,Vo];rfl
 ·exact(J7 (J6 f) n q.2).elim (λe=>q.1 (w (e▸U))) λe=>q.1 (e▸I.mc)
 ·exact(Vc.mp hi).elim (λe=>⟨c,J,e▸N⟩) λhi=>aw (I.tc _ hi) λy q=>⟨y,λe=>q.1 (w e),q.2⟩
 ·have:=I.ln;rw[R] at this;rw[ax [.le (.p af (.p aj (.p aC aF))) bH] (.le (.p (.p af aF) aC) bH) (.l [1,1]) tt [_,_,_,_] this,]
 ·rw[[R],U4 ..,]
def J'(W:3<=F.k)(Y:lk m 0=some (.loc wo))(l1:lk m 1=some (vi a))(l2:lk m 2=some (vi b))(l4:lk m 4=some (.loc cA))(f:jM h)(n:(bK h).length<=50000)
 (q:σ ⟨40,j⟩=some (.obj wo 176 wD (vv lv bA st pa le))) (ho:σ ⟨20,0⟩=some (.obj lv 578 p.lD (JG p bk (nn h)))) (he:σ ⟨21,0⟩=some (.one p.e (.list ((bK h).map K7))))
 (H:BI (fe h) bf a r) (hn:∀z∈dF a r,z<8) (h0:σ ⟨61,0⟩=some (.one cA (.dA (e7 a r))))
 (hk:b∈dF a r->∀l σ',wU (fe h) bf a l b->(l.map (·.1)).Nodup->aA 61 62 σ σ'->F.ret (.lst (l.map NJ)) σ')
 (L:b∉dF a r->F.exc 88 [(22,.str "two numbers are not alike"),(23,.tup [vi a,vi b])] σ):J8 F K [] m σ:=by
 rw[2 J8,"w",jI (k1:=.i b) rfl h0 rfl ?_,];by_cases o:b∈dF a r
 ·rw[aw (kA o) λX hX=>?_,]
  rw[[hX],"w",w_ite (λe=>nomatch e) λ_=>?_,<-t hk o,<-J rj H hn,0 L,cF ⟨61,2⟩ λM w=>?_,"w",];refine e4 (λz:FL×Nat×List (Nat×Bool)=>z.1.length) (λz=>[(0,.loc wo),(1,vi a),(2,vi z.2.1),(4,.loc cA),(10,.loc M)])
   (λz σ'=>RI (fe h) bf a b r z.1 z.2.1 z.2.2/\σ' ⟨61,2⟩=some (.one M (.list (z.2.2.reverse.map NJ)))/\σ' ⟨61,0⟩=some (.one cA (.dA (e7 a r)))/\aA 61 62 σ σ') (r,b,[])
   ⟨(cQ (show¬10=0 by decide)).trans Y,(cQ (show¬10=1 by decide)).trans l1,(cQ (show¬10=2 by decide)).trans l2,(cQ (show¬10=4 by decide)).trans l4,d9,trivial⟩
   ⟨⟨⟨[],rfl⟩,H,o,rfl,.nil,(λ_ hi=>nomatch hi),Vz (Wk _)⟩,w,h0,aA.refl.set rfl⟩ λz σ' N=>?_
  rw[jU N λI P U d=>?_,0 N,<-Q (d ⟨40,j⟩ rfl).trans q,<-FD (d ⟨20,0⟩ rfl).trans ho,<-x (d ⟨21,0⟩ rfl).trans he,];have R:(z.2.2.reverse.map NJ).length<=100000:=by rw[[U2,V2],U3 (U3 (Vx ..) I.ln) (U3 (V9 J) (by decide)),]
  rw["w",MY (λC=>?_) λC=>?_,]
  ·rw[OO (I.step f C) λS ti q2 u v rr y A B D E=>?_,]
   rw["w",cx (k1:=.i z.2.1) rfl U rfl y ?_,"w",bW x rfl (cm A) (k2 n B) ?_,"w",aW P rfl R λG=>⟨rfl,(q2,S,(ti,!decide (u=S))::z.2.2),E,⟨rfl,rfl,rfl,rfl,rfl,trivial⟩,D,?_,U,d.set rfl⟩,[VZ,Vd],G,]
  ·rw["w",]
   rw[fJ ?_,"w",jH (cv P rfl) .none .none (.int (-1)) (by decide) R (yM _) (.inl ?_),];rw[<-V6,XJ];rw[t z.2.2 σ' (C▸I.pt) I.nd d,]
 ·rw[eL o]
  rw["w",];refine w_ite (λ_=>?_) λe=>nomatch e;rw[⟨rfl,?_⟩,"w",P8 W (L o),]
end
end
noncomputable section
def bg(j o:Nat)(σ σ':aq):Prop:=∀t:Tg,(cW 40 70 t=false\/(cW 40 43 t=true/\t.i%2≠j)\/(Nat.beq t.k 62=true/\o<=t.i))->σ' t=σ t
def bg.refl:bg j o σ σ:=λ_ _=>rfl
def bg.trans(h1:bg j o σ σ')(J:bg j o σ' C):bg j o σ C:=λt I=>(J t I).trans (h1 t I)
def bg.up(h:bg j C σ σ')(I:C<=o):bg j o σ σ':=λt J=>h t (J.imp id (Or.imp id λe=>⟨e.1,U3 I e.2⟩))
def cy.p(h:cy j σ σ'):bg j C σ σ':=λt o=>by rw[h t (o.elim (λo=>.inl (Bf o (by decide) (by decide))) λo=>o.elim .inr λo=>.inl (kh (V' o.1) (by decide))),]
def aA.p{j C lo hi:Nat}{σ σ':aq}(h:aA lo hi σ σ')(h1:44<=lo)(I:hi<=62\/63<=lo)(J:hi<=70):bg j C σ σ':=λt o=>by rw[h t (o.elim (λo=>Bf o (U3 (by decide:40<=44) h1) J) λo=>o.elim (λo=>kU o.1 (.inl (U3 (by decide:43<=44) h1))) λo=>kh (V' o.1) I.symm),]
def bg.kept{j o:Nat}{σ σ':aq}(h:bg j o σ σ'){lo hi:Nat}(C:hi<=40\/70<=lo):Kept lo hi σ σ':=λt I=>h t (.inl (kU I C))
def eE.same{j:Nat}{o lv:Addr}{st:WS}{pa le:Nat}{σ σ':aq}(h:eE j o lv st pa le σ)(hs:Kept 40 43 σ σ'):eE j o lv st pa le σ':=by rw[dr h λI J U a=>?_,0 h,⟨I,J,(hs ⟨40,j⟩ rfl).trans U,λx b=>(a x b).same λt C=>hs t (az.mpr ⟨by have:=az.mp C;exact ax [.le (.k 41) af] (.le (.k 40) af) (.l [1,1]) tt [_] this.1,(az.mp C).2⟩)⟩,]
def aA.NK{lo hi:Nat}{σ σ':aq}{t:Tg}{o:GO}(h:aA lo hi (σ.del t) σ')(C:σ t=some o):aA lo hi σ (σ'.set t o):=λu I=>by
 by_cases q:t=u
 ·rw[8 q,aq.ae.trans C.symm,]
 ·exact(aq.ag q).trans ((h u I).trans (aq.aR q))
def E3:(dF a (n++r)).reverse=(dF a r).reverse++(n.map (·.1)).reverse:=by unfold dF;simp
def vw:(dF a r).length=r.length+1:=by unfold dF;simp
section
variable{g:G0}{k:Nat}{exc:XQ}{lv wo:Addr}{h l:HI}{w ms:List Nat}{bk j pa le a b bf:Nat}{st:WS}{σ0 σ:aq}{Q:V->aq->Prop}{n:Nat}
def Ka(hu:aK lv h h w ms bk σ)(hw:eE j wo lv st pa le σ)(hj:j<2)(hv:y4 st h bk)(ha:a<nn h)
 (u:∀l σ',wU (fe h) bf a l b->(l.map (·.1)).Nodup->eE j wo lv (some (h,bk)) pa le σ'->bg j 0 σ σ'->Q (.lst (l.map NJ)) σ')
 (hx:¬dE (fe h) bf a b->∀σ',eE j wo lv (some (h,bk)) pa le σ'->bg j 0 σ σ'->exc 88 [(22,.str "two numbers are not alike"),(23,.tup [vi a,vi b])] σ'):
 GC g (k+5) exc σ (.raw (.ref 154)) [.loc wo,vi a,vi b,vi bf] Q:=by
 rw[a8 sI (by decide+kernel) rfl ?_,<-Ih hw,dr Ih λwD bA L _=>?_,0 Ih,2 kY,"w",yK hu hw hj hv λA4 M R6=>?_,<-y3 hu.same (R6.kept (.inl (by decide))),aw y3 λp q=>?_,0 y3,<-P q.wf,<-R gB P,<-ho q.o,<-he q.e,];have T8:(bK h).length<=50000:=U3 cS q.sz.1;rw[0 L hw,<-Cu M,dr Cu λwD bA L v=>?_,0 Cu,]
 replace v:=v (h,bk) rfl
 rw["w",qR ⟨61,0⟩ λA T9=>?_,"w",tp (k1:=.i a) T9 λQH=>?_,"w",nK ⟨61,1⟩ λB T'=>?_,"w",];have OA:∀x i y,(i,y)∈jc (fe h) x->y<8:=λx i y hh=>by
  rw[aV (lz P) λ_ f2=>?_,];rcases jP.mp hh with J|J
  ·rw[Vg (f2 _ J).2.2.2 R,]
  ·rw[Vg (f2 _ J).2.2.1 R,]
 refine qW (λx m σ'=>∃r C,m=[(0,.loc wo),(1,vi a),(2,vi b),(3,vi bf),(4,.loc A),(5,.loc B),(6,vi C)]/\x=9-C/\C<=r.length+1/\BI (fe h) bf a r/\(∀z∈dF a r,z<8)/\
  (∀k,k<C->∀z,(dF a r).reverse[k]?=some z->∀i y,(i,y)∈jc (fe h) z->i<bf->y∈dF a r)/\σ' ⟨61,0⟩=some (.one A (.dA (e7 a r)))/\σ' ⟨61,1⟩=some (.one B (.list (lS a r)))/\aA 61 62 A4 σ')
  (m0:=[(0,.loc wo),(1,vi a),(2,vi b),(3,vi bf),(4,.loc A),(5,.loc B),(6,vi 0)]) ⟨rfl,rfl,rfl,rfl,rfl,rfl,rfl,trivial⟩
  ⟨[],0,rfl,rfl,Vj _,trivial,λz G=>by rw[[U5.mp G],Vg ha R,],(λk u=>U9 u (VT _)),QH,T',(((aA.refl.set rfl).set rfl).set rfl)⟩ λx m σ' hI=>?_
 rw[OL hI λr C QI AG UR hb hn yZ h0 J D=>?_,0 hI,3 QI,3 AG,<-t rj hb hn,<-FD (D ⟨20,0⟩ rfl).trans ho,<-Qc (D ⟨21,0⟩ rfl).trans he,<-QJ (D ⟨40,j⟩ rfl).trans L,];have R7:bg j 0 σ σ':=R6.p.trans (D.p (by decide) (.inl (by decide)) (by decide));have U:(b∉dF a r->¬dE (fe h) bf a b)->J8 ⟨g,k+4,Q,exc⟩ (λ_ _ σ=>Q .none σ) [] [(0,.loc wo),(1,vi a),(2,vi b),(3,vi bf),(4,.loc A),(5,.loc B),(6,vi C)] σ':=λUa=>
  J' (h:=h) (U3 (by decide) (U4 4 k)) rfl rfl rfl rfl P T8 QJ FD Qc hb hn h0
   (λ_ l I J h2 h3=>u l I J h2 ((M.same (D.kept (.inr (by decide)))).same (h3.kept (.inr (by decide)))) (R7.trans (h3.p (by decide) (.inl (by decide)) (by decide))))
   λS=>hx (Ua S) σ' (M.same (D.kept (.inr (by decide)))) R7
 rw["w",aX (n:=r.length+1) (cv J rfl) tK (kn t) ?_,"w",vd (λd=>?_) λd=>?_,]
 ·rw[nM (λe=>nomatch e) λ_=>U λS hc=>aw hc λl hl=>?_,0 hc,]
  rw[S (E1 (N:=dF a r) (λz G i y J h2=>?_) (show a∈dF a r from Vm _ (Vr a)) hl),aw (List.getElem?_of_mem (XR.mpr G)) λk u=>?_,yZ k ?_ z u i y J h2,<-this aS u,];rw[V2,vw] at this;rw[ax [.CG af (.p aj aF),.lt aC (.p aj aF)] (.lt aC af) (.l [1,1,1]) tt [_,_,_] d this,]
 ·rw["w",]
  rw[jI (k1:=.i b) rfl h0 rfl ?_,];by_cases W:b∈dF a r
  ·rw[aw (kA W) λX hX=>?_,]
   rw[[hX],"w",nM (λe=>nomatch e) λ_=>U λe=>U9 W e,]
  ·rw[eL W]
   rw["w",];refine nM (λ_=>?_) λe=>nomatch e;rw[0 U,aw ((⟨_,U' (by rw[[V2,vw],d,])⟩:∃f,(dF a r).reverse[C]?=some f)) λf Y=>?_,];have R8:f∈dF a r:=XR.mp (Xg Y);rw[tW v λks pl b1 b2 b3 b4 b5=>?_,0 v,<-Ub (D ⟨41,j⟩ rfl).trans b1,];have wG:ks.length<=8:=aJ b2 λc hc=>b4 c hc;have H:∀n I m',bj [(0,.loc wo),(1,vi a),(2,vi b),(3,vi bf),(4,.loc A),(5,.loc B),(6,vi (C+1)),(7,vi f)] m'->BI (fe h) bf a (n++r)->(∀z∈dF a (n++r),z<8)->(∀p∈jc (fe h) f,p.1<bf->p.2∈dF a (n++r))->
    I ⟨61,0⟩=some (.one A (.dA (e7 a (n++r))))->I ⟨61,1⟩=some (.one B (.list (lS a (n++r))))->aA 61 62 σ' I->
    ∃n' m0,n'<9-C/\bj m0 m'/\∃r C,m0=[(0,.loc wo),(1,vi a),(2,vi b),(3,vi bf),(4,.loc A),(5,.loc B),(6,vi C)]/\n'=9-C/\C<=r.length+1/\BI (fe h) bf a r/\(∀z∈dF a r,z<8)/\
     (∀k,k<C->∀z,(dF a r).reverse[k]?=some z->∀i y,(i,y)∈jc (fe h) z->i<bf->y∈dF a r)/\I ⟨61,0⟩=some (.one A (.dA (e7 a r)))/\I ⟨61,1⟩=some (.one B (.list (lS a r)))/\aA 61 62 A4 I:=λn I m' hm q1 q2 q3 q4 q5 q6=>
    ⟨9-(C+1),[(0,.loc wo),(1,vi a),(2,vi b),(3,vi bf),(4,.loc A),(5,.loc B),(6,vi (C+1))],by rw[ax [.le (.p af aF) eo,.lt aj (.p af aF),.sub aC (.k 9) (.p aj aF),.sub bH (.k 9) aj] (.lt aC bH) (.s 3 (.l [1,0,0,1,1]) (.l [0,1,1,0,0,0,0,1])) tt [_,_,_,_] t d rfl rfl,],⟨hm.1,hm.2.1,hm.2.2.1,hm.2.2.2.1,hm.2.2.2.2.1,hm.2.2.2.2.2.1,hm.2.2.2.2.2.2.1,trivial⟩,n++r,C+1,rfl,rfl,by rw[[U7],ax [.lt af (.p aj aF)] (.le (.p af aF) (.p (.p aC aj) aF)) (.l [1,1]) tt [_,_,_] d,],q1,q2,λk u z G i y J h2=>by
     rw[E3,VQ (by rw[[V2,vw],ax [.lt af (.p aj aF),.lt aC (.p af aF)] (.lt aC (.p aj aF)) (.l [1,1,1]) tt [_,_,_] d u,])] at G;by_cases qk:k=C
     ·rw[qk,Y] at G
      rw[1 G,q3 (i,y) J h2,]
     ·exact ri (yZ k (ax [.lt af (.p aj aF),.ne af aj] (.lt af aj) (.s 2 (.l [1,1]) (.l [1,0,1])) tt [_,_] u qk) z G i y J h2),q4,q5,D.trans q6⟩
   rw["w",bW (X:=vi f) J rfl (cm Y) (ax [.le (.p af aF) eo,.lt aj (.p af aF)] (.lt aj (.k 1000000)) (.l [1,1,1]) tt [_,_] t d) ?_,"w",iq<|Jg (k1:=.i f) rfl Ub rfl ?_,];by_cases E:f∈ks
   ·rw[aZ.1 E]
    rw[<-R9 (D ⟨42,2*f+j⟩ rfl).trans (b5 f E),qX R9 rfl (wV OA (λp hp=>hp) hb hn R8 ⟨rfl,rfl,rfl,rfl,rfl,rfl,rfl,rfl,trivial⟩ h0 J λn I m' hm q1 q2 q3 q4 q5 q6=>?_),⟨rfl,H n _ m' hm q1 q2 q3 q4 q5 (q6.NK R9)⟩,]
   ·rw[aZ.2 E]
    have QK:jc (fe h) f=[]:=Wc λe=>E ((b3 f).mpr e);rw[hV (l:=[].map NF) (wV (x:=f) (N:=[]) OA (λp hp=>(nomatch hp)) hb hn R8 ⟨rfl,rfl,rfl,rfl,rfl,rfl,rfl,rfl,trivial⟩ h0 J λn I m' hm q1 q2 q3 q4 q5 q6=>?_),⟨rfl,H n _ m' hm q1 q2 (by rw[[QK],q3,]) q4 q5 q6⟩,]
end
end
noncomputable section
noncomputable def rk(es:FE)(i:Nat):Nat:=(es.filter λe=>decide (e.1<i)).length
def wW(h:i<=j):rk es i<=rk es j:=by
 unfold rk
 induction es with
 |nil=>exact Va _
 |cons e es o=>
  by_cases q:e.1<i
  ·rw[Ww (by simpa using q),Ww (by simp;rw[ax [.le af aj,.lt aC af] (.lt aC aj) (.l [1,1,1]) tt [_,_,_] h q,])]
   rw[VJ o,]
  ·rw[W4 (by simpa using q)]
   by_cases C:e.1<j
   ·rw[[Ww (by simpa using C)],VG o,]
   ·rw[[W4 (by simpa using C)],o,]
def rn(h:e∈es):rk es e.1+1<=rk es (e.1+1):=by
 unfold rk
 induction es with
 |nil=>cases h
 |cons x es o=>
  rcases Vc.mp h with rfl|h
  ·rw[W4 (by simp),Ww (by simp)]
   have:=wW (es:=es) (VE e.1);unfold rk at this;rw[VJ this,]
  ·have o:=o h
   by_cases q:x.1<e.1
   ·rw[Ww (by simpa using q),Ww (by simp;rw[ax [.lt af aj] (.lt af (.p aj aF)) (.l [1,1]) tt [_,_] q,])]
    rw[VJ o,]
   ·rw[W4 (by simpa using q)]
    rw[U3 o ?_,];by_cases C:x.1<e.1+1
    ·rw[[Ww (by simpa using C)],VE _,]
    ·rw[[W4 (by simpa using C)],Va _,]
def BM:rk es i<=es.length:=List.length_filter_le ..
noncomputable def ro(es:FE)(l:List Nat):Nat:=(l.map λi=>3^rk es i).sum
def vz:i∈l->ro es l=3^rk es i+ro es (l.erase i):=by
 induction l with
 |nil=>exactλh=>nomatch h
 |cons a l o=>
  rw[λh=>?_,];by_cases q:a=i
  ·rw[q,List.erase_cons_head];rfl
  ·rw[List.erase_cons_tail λe=>q (eq_of_beq e)]
   exact(Ve (3^rk es a+·) (o ((Vc.mp h).resolve_left λe=>q e.symm))).trans (Nat.add_left_comm ..)
def E4(o:Nat):∀{l:List Nat},l.Nodup->(∀i∈l,i<o/\∃e∈es,e.1=i)->2*ro es l+1<=3^rk es o:=by
 induction o with
 |zero=>
  rw[λ{l} _ h=>?_,]
  induction l using List.casesOn with
  |nil=>exact Nat.one_le_pow _ _ (by decide)
  |cons a l=>exact U9 (h a (VL ..)).1 (VT _)
 |succ o I=>
  rw[λ{l} C h=>?_,<-key I (C.erase o) λi hi=>aV ((List.Nodup.mem_erase_iff C).mp hi) λhi hm=>⟨WV (Wh (h i hm).1) hi,(h i hm).2⟩,];by_cases q:o∈l
  ·rw[vz q]
   rw[aw (h o q).2 λe x=>U3 ?_ (WJ (by decide) (x.2▸rn x.1:rk es o+1<=rk es (o+1))),[Nat.pow_succ],ax [.le (.p (.m 2 af) aF) aj] (.le (.p (.m 2 (.p aj af)) aF) (.r aj 3)) (.l [1,1]) tt [_,_] key,]
  ·rw[List.erase_of_not_mem q] at key
   rw[U3 key (WJ (by decide) (wW (VE _))),]
end
noncomputable section
def yO(h:HI):Prop:=∀(i a b:Nat),(bK h)[i]?=some (a,b,.d5)->(∃u v,(i,u,v)∈fe h)->PyData.strOk (eK h a).1=true/\(eK h a).1=(eK h b).1/\(eK h a).2.length=(eK h b).2.length/\∀p∈(eK h a).2.zip (eK h b).2,dE (fe h) i p.1 p.2
def yP(h:HI)(ev:tI):Prop:=∀(i a b:Nat) (r:yC),(bK h)[i]?=some (a,b,r)->r≠.d5->ev a b r/\∀j,r=.rule j->j<nn h
def tL(g:G0)(k:Nat)(j:Nat)(J lv:Addr)(h:HI)(ev:tI)(w ms:List Nat)(bk i:Nat):Prop:=
 ∀(I:aq) (U le x y:Nat) (Q:V->aq->Prop),aK lv h h w ms bk I->eE j J lv (some (h,bk)) U le I->2*U+3^rk (fe h) i<=40001->le+rk (fe h) i<=100->x<nn h->y<nn h->dE (fe h) i x y->
  (∀p C o,PV (aI h) ev (12*rk (fe h) i+1) p (tm (aI h) x) (tm (aI h) y)->2*C+1<=2*U+3^rk (fe h) i->eE j J lv (some (h,bk)) C le o->bg j (i+1) I o->Q p o)->
  GC g (k+3*rk (fe h) i+7) iI I (.raw (.ref 168)) [.loc J,vi x,vi y,vi i] Q
def Kb(h:t<=2)(o:0<P):t*P+2<=2*P+t:=
 aw (Nat.exists_eq_add_of_le h) λk e=>ax [.le af aj,.eq gI (.p aC af),.eq (.m 2 (.v 5)) (.p bH aj)] (.le (.p bH gI) (.p (.m 2 (.v 5)) aC)) (.l [1,1,1,0,0,1]) tt [_,_,_,_,0,_] (Nat.le_mul_of_pos_right k o) e (show 2*P=t*P+k*P from e▸Nat.add_mul ..)
def E5(o:Nat):∀{l:List Nat},l.Nodup->(∀i∈l,i<o/\∃e∈es,e.1=i)->l.length<=rk es o:=by
 induction o with
 |zero=>
  rw[λ{l} _ h=>?_,]
  induction l using List.casesOn with
  |nil=>exact Vj _
  |cons a l=>exact U9 (h a (VL ..)).1 (VT _)
 |succ o I=>
  rw[λ{l} C h=>?_,<-key I (C.erase o) λi hi=>aV ((List.Nodup.mem_erase_iff C).mp hi) λhi hm=>⟨WV (Wh (h i hm).1) hi,(h i hm).2⟩,];by_cases q:o∈l
  ·rw[List.length_erase_of_mem q] at key
   rw[aw (h o q).2 λe x=>ax [.le af aj,.le (.p aj aF) aC,.sub af bH aF] (.le bH aC) (.l [1,1,1,1]) tt [_,_,_,_] key (x.2▸rn x.1) rfl,]
  ·rw[List.erase_of_not_mem q] at key
   rw[U3 key (wW (VE _)),]
def dW{F:Fr}{K:KS}{s:List V}{m:GM}{σ σ0:aq}{t:Tg}{a C d:Addr}{fs:List (Nat×V)}{i:Nat}{X:V}(h:σ0 t=some (.obj a C d fs))(e:σ t=σ0 t)(hi:i<AN.length)(o:∀P,p5 (KR P) C (an i)=true)(hz:fs.length<100000)
 (k:∀σ':aq,σ' t=some (.obj a C d (fF i X fs))->(∀u,t≠u->σ' u=σ u)->K s m σ'):jz i F K (.loc a::X::s) m σ:=
 bC h e hi o hz λI=>k _ I λ_ J=>aq.ag J
def Kc{F:Fr}{K:KS}{s:List V}{m:GM}{σ:aq}{X Y:List V}(C:X.length=Y.length)(k:∀z (σ' o:aq),aA 63 64 σ σ'->aA 63 64 σ o->i9 true σ' (.loc z) (uI X Y) o none->K (.loc z::s) m σ'):gH 2 F K (.tup Y::.tup X::.raw (.type "zip")::s) m σ:=by rw[M7 ⟨63,0⟩ ⟨63,1⟩ ⟨63,2⟩ ⟨63,3⟩ λz I J U=>?_,];have ne:∀i j:Nat,i≠j->(⟨63,i⟩:Tg)≠⟨63,j⟩:=λi j h e=>h (by rw[7 e,]);rw[k z _ _ ((((aA.refl.set rfl).set rfl).set rfl).set rfl) ?_ (.zip (t0:=⟨63,0⟩) (t1:=⟨63,1⟩) (t2:=⟨63,2⟩) (t3:=⟨63,3⟩) rfl rfl rfl rfl rfl (ne _ _ (by decide)) (ne _ _ (by decide)) (ne _ _ (by decide)) (ne _ _ (by decide)) (ne _ _ (by decide)) (ne _ _ (by decide)) C),(((((((aA.refl.set rfl).set rfl).set rfl).set rfl).del rfl).del rfl).del rfl).del rfl,]
def E6(A:List Nat):∀B:List Nat,uI (A.map vi) (B.map vi)=(A.zip B).map λp=>V.tup [vi p.1,vi p.2]:=by
 induction A with
 |nil=>exactλ_=>rfl
 |cons a A o=>exactλB=>B.rec rfl λb B _=>Ve (V.tup [vi a,vi b]::·) (o B)
def BN(h:cZ b ns σ):wF ns:=by rw[n0 h λI no J U a d e o=>?_,0 h,];rcases o with⟨_,_,_,_,_,_,_,C,_,_⟩;rw[C,]
def jQ{j:Nat}{J lv U C:Addr}{st:WS}{pa' le':Nat}{σ σ':aq}(b:j<2)(I:∀x,st=some x->nS j C (jc (fe x.1)) σ)(h1:σ' ⟨40,j⟩=some (.obj J 176 U (vv lv C st pa' le')))(a:∀u,(⟨40,j⟩:Tg)≠u->σ' u=σ u):eE j J lv st pa' le' σ'/\cy j σ σ':=by
 rw[⟨⟨U,C,h1,λx d=>(I x d).same λt o=>a t λe=>?_⟩,λt o=>a t λe=>?_⟩,]
 ·rw[<-e] at o;rw[7 o,]
 ·rw[<-e] at o
  rcases o with o|o
  ·rw[7 o,]
  ·rw[o.2 (Wq b),]
section
variable{g:G0}{k:Nat}{exc:XQ}{lv wo:Addr}{h l:HI}{w ms:List Nat}{bk j pa le:Nat}{st:WS}{σ0 σ:aq}{Q:V->aq->Prop}{ev:tI}{i:Nat}
def yQ{step:V->aq->List V->(List V->aq->Prop)->Prop}{K:List V->aq->Prop}{U:Type}{f:U->V}(I:List U->List V->aq->Prop)
 (C:∀x r o σ P,I (x::r) o σ->(∀o σ,I r o σ->P o σ)->step (f x) σ o P) (J:∀o σ,I [] o σ->K o σ) (l:List U):∀o σ,I l o σ->fo step K (l.map f) o σ:=by
 induction l with
 |nil=>exact J
 |cons x l a=>exactλo σ h=>C x l o σ _ h a
def E7{F:Fr}{K:List V->aq->Prop}{l:List (Nat×Nat)}(H:F.k=k+3*rk (fe h) i+7)(L:F.exc=iI)(M:tL F.g k j wo lv h ev w ms bk i)(x:le+rk (fe h) i<=100)(N:l.length<=2)
 (R:aK lv h h w ms bk σ) (S:eE j wo lv (some (h,bk)) pa le σ) (W:2*pa+l.length*3^rk (fe h) i<=40000+l.length) (X:∀p∈l,p.1<nn h/\p.2<nn h/\dE (fe h) i p.1 p.2)
 (Y:∀(o:List (V×Nat×Nat)) pa' σ',o.map (·.2)=l->(∀t∈o,PV (aI h) ev (12*rk (fe h) i+1) t.1 (tm (aI h) t.2.1) (tm (aI h) t.2.2))->2*pa'+l.length<=2*pa+l.length*3^rk (fe h) i->
  eE j wo lv (some (h,bk)) pa' le σ'->bg j (i+1) σ σ'->K (o.map (·.1)) σ'):
 fo (iJ ((gd 2<|aN 7<|aN 8<|ao:SC) F) ((au (.bool true)<|ao:SC) F) ((aa 0<|a' 34<|aa 7<|aa 8<|aa 1<|ba 3<|ao:SC) F) [(1,vi i),(0,.loc wo)]) K (l.map λp=>V.tup [vi p.1,vi p.2]) [] σ:=by
 refine yQ (λr C σ'=>∃(o:List (V×Nat×Nat)) (pa':Nat),o.map (·.2)++r=l/\C=o.map (·.1)/\(∀t∈o,PV (aI h) ev (12*rk (fe h) i+1) t.1 (tm (aI h) t.2.1) (tm (aI h) t.2.2))/\2*pa'+r.length*3^rk (fe h) i<=40000+r.length/\2*pa'+o.length<=2*pa+o.length*3^rk (fe h) i/\eE j wo lv (some (h,bk)) pa' le σ'/\bg j (i+1) σ σ')
  (λp r C J P n hP=>?_) (λC σ' n=>dh n λo pa' q=>KW q λI u y _ z q6 q7=>?fi) l [] σ ⟨[],pa,rfl,rfl,λ_ h=>(nomatch h),W,Vx ..,S,.refl⟩
 case fi=>
  rw[VR] at I;have e:l.length=o.length:=I▸U2 ..;rw[u▸Y o pa' σ' I y (e▸z) q6 q7,]
 rw[dh n λo U q=>KW q λI u y a z b d=>?_,0 n q,dG (X p (I▸Vm _ (.head _))) λhx hy A=>dh (id b) λwD bA q=>?_,<-OD q.1,0 q,];have B:o.length<=2:=U3 (by rw[<-I,U7,U2];rw[Vx ..,]) N;have f:0<3^rk (fe h) i:=Nat.pow_pos (by decide)
 replace a:2*U+(r.length+1)*3^rk (fe h) i<=40000+(r.length+1):=a
 rw[show(r.length+1)*3^rk (fe h) i=r.length*3^rk (fe h) i+3^rk (fe h) i from Nat.succ_mul ..] at a;rw[<-D Nat.le_mul_of_pos_right r.length f,bG ?_,"w",⟨rfl,nM (λ_=>?_) λe=>nomatch e⟩,"w",5 (GC F.g F.k F.exc J ..),[H,L],M J U le p.1 p.2 _ (R.same (d.kept (.inl (by decide)))) b (ax [.le (.p (.m 2 af) (.p aj aC)) (.p (.k 40000) (.p bH aF)),.le bH aj] (.le (.p (.m 2 af) aC) (.k 40001)) (.l [1,1,1]) tt [_,_,_,_] a D) x hx hy A λq pa' σ' h1 G h3 h4=>⟨⟨rfl,rfl,trivial⟩,by rw[[u,U2],U3 B (by decide),],hP _ _ ⟨o++[(q,p)],pa',?_,?_,λt E=>(Vk.mp E).elim (y t) λE=>(U5.mp E)▸h1,?_,?_,h3,d.trans h4⟩⟩,]
 ·rw[[Vd,Vo],I,]
 ·rw[Vd,u];rfl
 ·rw[ax [.le (.p (.m 2 af) (.p aj aC)) (.p (.k 40000) (.p bH aF)),.le (.p (.m 2 iV) aF) (.p (.m 2 af) aC)] (.le (.p (.m 2 iV) aj) (.p (.k 40000) bH)) (.l [1,1,1]) tt [_,_,_,_,_] a G,]
 ·rw[[U7,Nat.add_mul],ax [.le (.p (.m 2 af) aF) (.p (.m 2 aj) aC),.le (.p (.m 2 aj) iV) (.p (.m 2 bH) (.v 5))] (.le (.p (.m 2 af) (.p iV aF)) (.p (.m 2 bH) (.p (.v 5) (.m 1 aC)))) (.l [1,1,1]) tt [_,_,_,_,_,_] G z,]
def BO{a b:Nat}{r:yC}(IH:r=.d5->tL g k j wo lv h ev w ms bk i)(HG:yO h)(Uc:yP h ev)(hu:aK lv h h w ms bk σ)(hw:eE j wo lv (some (h,bk)) pa le σ)(hj:j<2)(M:(bK h)[i]?=some (a,b,r))(hf:∃u v,(i,u,v)∈fe h)(N:a<nn h)(hb:b<nn h)
 (R:pa+3^rk (fe h) i<=20000) (S:le+rk (fe h) i+1<=100)
 (hQ:∀p pa' σ',PV (aI h) ev (12*rk (fe h) i+2) p (tm (aI h) a) (tm (aI h) b)->pa'<=pa+3^rk (fe h) i->eE j wo lv (some (h,bk)) pa' le σ'->bg j (i+1) σ σ'->Q p σ'):
 GC g (k+3*rk (fe h) i+8) exc σ (.raw (.ref 173)) [.loc wo,vi i] Q:=by
 rw[bp nq (by decide+kernel) rfl rfl ?_,<-W hu,dr hw λwD bA OD X=>?_,0 hw,aw hu λp q=>?_,0 hu,<-H q.o,<-E q.e,<-jy q.sz,<-US q.wf,<-OB cS (h:=h),<-Qe aS M,];have I:0<3^rk (fe h) i:=Nat.pow_pos (by decide);rw[2 g8,"w",dW OD rfl (by decide) (λP=>by kernel_rfl) (U1 rfl) λY A Sa=>aV (jQ (pa':=pa+1) (le':=le) hj X A Sa) λNL C=>?_,<-y3 W.same (C.kept (.inl (by decide))),<-Ud NL,]
 replace H:=(C ⟨20,0⟩ (.inl rfl)).trans H
 replace E:=(C ⟨21,0⟩ (.inl rfl)).trans E
 rw["w",BF (j:=20000) ?_,"w",aQ (λe=>(X5.mpr e (U3 (WC I pa) R)).elim) λ_=>?_,"w",bW E rfl (cm M) (ax [.le af bQ,.le aj af,.lt aC aj] (.lt aC (.k 1000000)) (.l [1,1,1,1]) tt [_,_,_] jy.2.1 OB Qe) ?_,"w",];have G:r≠.d5->GC g (k+3*rk (fe h) i+7) iI Y (.raw (.ref 121)) [.loc lv,vi i] Q:=λhr=>by
  rw[aV (Uc i a b r M hr) λCo Mn=>EZ y3 M hr Mn λσ' hs=>?_,hQ _ (pa+1) σ' ?_ (ax [.lt gp af] (.le (.p aj aF) (.p aj af)) (.l [1,1]) tt [_,_] I) (NL.same (hs.kept (.inr (by decide)))) (C.p.trans (hs.p (by decide) (.inl (by decide)) (by decide))),]
  induction r with
  |d5=>exact U9 rfl hr
  |told t=>exact .told Co
  |rule c=>exact .rule Co
 have QL:r=.d5->_:=λe=>HG i a b (e▸M) hf
 induction r with
 |told t=>
  rw[cb ?_,"w",en (λ_=>?_) λe=>U9 e (by decide),"w",];exact G (λe=>nomatch e)
 |rule c=>
  rw[cb ?_,"w",en (λ_=>?_) λe=>U9 e (by decide),"w",];exact G (λe=>nomatch e)
 |d5=>
  rw[cb ?_,"w",en (λe=>U9 rfl e) λ_=>?_,0 G,jU (QL rfl) λl0 l1 l2 l3=>?_,];have QM:∀x,some (h,bk)=some x->nS j bA (jc (fe x.1)) Y:=λx hx=>(X x hx).same λt ht=>Sa t λe=>by rw[<-e] at ht;rw[7 ht,]
  rw["w",dW A rfl (by decide) (λP=>by kernel_rfl) (U1 rfl) λBA J Ue=>aV (jQ (pa':=pa+1) (le':=le+1) hj QM J Ue) λCu d=>?_,<-Ou y3.same (d.kept (.inl (by decide))),]
  replace H:=(d ⟨20,0⟩ (.inl rfl)).trans H
  have U:cZ p.b (aI h) BA:=(q.bk.same (C.kept (.inl (by decide)))).same (d.kept (.inl (by decide)));rw[<-BC U,6 BC,λB=>aB λR_ mM=>n0 B λbD no nu we de ws ds QN=>?_,0 B,];rcases QN with⟨Gk,_⟩;rw[mM ?_,0 mM R_,"w",BF (j:=100) ?_,"w",aQ (λe=>(X5.mpr e (U3 (Wx (Vx le _) 1) S)).elim) λ_=>?_,"w",ky U (cn N) ?_,"w",ky U (cn hb) ?_,<-f BN U,<-hA (f _ _ (cn N)),<-hB (f _ _ (cn hb)),Kc (by rw[[U2,U2],l2,]) λz pI Ug n Sb hz=>?_,<-QO U.same (n.kept (.inr (by decide))),]
  replace H:=(n ⟨20,0⟩ rfl).trans H
  replace Gk:=(n ⟨0,0⟩ rfl).trans Gk
  replace J:=(n ⟨40,j⟩ rfl).trans J
  rw["w",Ju QO (cn N) ?_,"w",cj [(1,vi i),(0,.loc wo)] rfl ⟨rfl,rfl,trivial⟩ ?_,"w",aY ⟨rfl,rfl,trivial⟩ hz ?_,[E6],];have Sd:bg j (i+1) σ Ug:=(C.p.trans d.p).trans (Sb.p (by decide) (.inr (by decide)) (by decide));have y:((eK h a).2.zip (eK h b).2).length<=2:=by rw[List.length_zip,<-l2,Nat.min_self];rw[hA.2,]
  have D:=Kb y I;refine E7 (le:=le+1) (j:=j) (bk:=bk) (w:=w) (ms:=ms) (lv:=lv) (k:=k) (pa:=pa+1) rfl rfl (IH rfl) (ax [.le (.p (.p af aj) aF) bU] (.le (.p (.p af aF) aj) bU) (.l [1,1]) tt [_,_] S) y (W.same (Sd.kept (.inl (by decide)))) (Cu.same (Sb.kept (.inr (by decide))))
   (ax [.le (.p af aj) (.k 20000),.le (.p aC gI) (.p (.m 2 aj) bH)] (.le (.p (.m 2 (.p af aF)) aC) (.p (.k 40000) bH)) (.l [1,2,1]) tt [_,_,_,_] R D) (λx hx=>aV (List.of_mem_zip (a:=x.1) (b:=x.2) hx) λm1 m2=>⟨VK (hA.1 _ m1) N,VK (hB.1 _ m2) hb,l3 x hx⟩) λL pa' OC a1 a2 a5 a6 a7=>?_
  have Se:L.length<=2:=by rw[<-a1,U2] at y;rw[y,]
  rw[cY bT (by rw[[U2],U3 Se (by decide),])<|dr a6 λUT UU QP QR=>?_,0 a6,"w",gm (U4 1 le) ?_,"w",dW QP rfl (by decide) (λP=>by kernel_rfl) (U1 rfl) λQy QT Uh=>aV (jQ (pa':=pa') (le':=le) hj QR QT Uh) λUi Nt=>?_,"w",];have ea:tm (aI h) a=.tup (.str (eK h a).1::(L.map λt=>(t.1,tm (aI h) t.2.1,tm (aI h) t.2.2)).map (·.2.1)):=by rw[nP f (cn N),<-List.map_fst_zip (Vz l2),<-a1,VD,VD,VD];rfl
  have eb:tm (aI h) b=.tup (.str (eK h a).1::(L.map λt=>(t.1,tm (aI h) t.2.1,tm (aI h) t.2.2)).map (·.2.2)):=by rw[nP f (cn hb),l1,<-List.map_snd_zip (Vz l2.symm),<-a1,VD,VD,VD];rfl
  have ec:L.map (·.1)=(L.map λt=>(t.1,tm (aI h) t.2.1,tm (aI h) t.2.2)).map (·.1):=by rw[VD];rfl
  rw[hQ (.tup [.str "under",.str (eK h a).1,.tup (L.map (·.1))]) pa' Qy (by rw[[ea,eb,ec],PV.under l0 (by rw[[U2],Se,]) λt ht=>aw (Vn.mp ht) λt0 q=>q.2▸a2 t0 q.1,]) (ax [.le (.p af gI) (.p (.m 2 aj) aC),.le (.p (.m 2 bH) aC) (.p (.m 2 (.p iV aF)) af)] (.le bH (.p iV aj)) (.l [2,1,1]) tt [_,_,_,_,_] D a5) Ui ((Sd.trans a7).trans Nt.p),]
end
end
noncomputable section
section
variable{g:G0}{k:Nat}{exc:XQ}{lv wo:Addr}{h:HI}{w ms:List Nat}{bk j pa le:Nat}{st:WS}{σ0 σ:aq}{Q:V->aq->Prop}{ev:tI}{i:Nat}
noncomputable def NM:SC:=gd 2<|aN 5<|aN 6<|ao
noncomputable def NN:SC:=aa 0<|a' 35<|aa 5<|ba 1<|aN 7<|aa 4<|a' 24<|aa 6<|sq bu<|sq (ite (au (.str "turn")<|aa 7<|bc 2<|ao) (aa 7<|ao))<|ba 1<|sq pop<|ao
def wU.mem:∀{x:Nat},wU es o x l y->∀c∈l.map (·.1),c<o/\∃e∈es,e.1=c:=by
 induction l with
 |nil=>exactλ_ _ h=>nomatch h
 |cons p l C=>exactλh c I=>aw h λz h=>dh h.1 λu v q=>(Vc.mp I).elim (λe=>e▸⟨q.2.1,_,q.1,rfl⟩) (C h.2 c)
def bg.Gr(h:bg j I σ σ')(hi:i<I):bg j I σ (σ'.set ⟨62,i⟩ o):=λu C=>by
 rw[(aq.ag λe=>?_).trans (h u C),8 e,];rcases C with C|⟨C,_⟩|⟨_,C⟩
 ·rw[7 C,]
 ·rw[7 C,]
 ·rw[<-C C,ax [.lt af aj,.le aj af] (.ff) (.l [0,1,1]) tt [_,_] hi C,]
def bg.NO(h:bg j o σ σ')(hi:o<=i):σ' ⟨62,i⟩=σ ⟨62,i⟩:=h _ (.inr (.inr ⟨rfl,hi⟩))
def NP(hF:F.k=k+3*rk (fe h) i+6)(IH:∀e,e<i->∀k,tL F.g k j wo lv h ev w ms bk e)(S:yO h)(W:yP h ev)(hj:j<2)(X:le+rk (fe h) i<=100)
 (hu:aK lv h h w ms bk σ) (hw:eE j wo lv (some (h,bk)) pa le σ) (hp:wU (fe h) i x l y) (hl:l.length<=1000) (hc:pa+ro (fe h) (l.map (·.1))<=20000) (Y:σ ⟨62,i⟩=some (.one fA (.list []))) (hm:bj [(0,.loc wo),(1,vi x),(4,.loc fA)] m)
 (hk:∀ps pa' σ' I,bj [(0,.loc wo),(1,vi x),(4,.loc fA)] I->ps.length=l.length->wR (aI h) ev (12*rk (fe h) i-9) ps (tm (aI h) x) (tm (aI h) y)->pa'<=pa+ro (fe h) (l.map (·.1))->eE j wo lv (some (h,bk)) pa' le σ'->σ' ⟨62,i⟩=some (.one fA (.list ps))->bg j (i+1) σ σ'->Kf I σ'):
 ef (gb (NM F) (NN F)) Kf (l.map NJ) m σ:=by
 refine e5 (m0:=[(0,.loc wo),(1,vi x),(4,.loc fA)]) (λ_ r σ'=>∃U z pa',U.length+r.length=l.length/\eE j wo lv (some (h,bk)) pa' le σ'/\wU (fe h) i z r y/\pa'+ro (fe h) (r.map (·.1))<=pa+ro (fe h) (l.map (·.1))/\wR (aI h) ev (12*rk (fe h) i-9) U (tm (aI h) x) (tm (aI h) z)/\σ' ⟨62,i⟩=some (.one fA (.list U))/\bg j (i+1) σ σ')
  (λ_ e=>e.rec λc b r A4 P L hP=>?_) (λ_ I σ' a L=>kG L λU z pa' q=>KW q λq1 q2 q3 q4 q5 q6 q7=>hk U pa' σ' I a q1 ((show z=y from q3)▸q5) q4 q2 q6 q7) l [] m σ hm ⟨[],x,pa,Wk _,hw,hp,Va _,rfl,Y,.refl⟩
 rw[kG L λU z Uj q=>KW q λM f n o Cp Nk A=>aw n λz' q=>aV q λst Uk=>dh st λu v q=>dG q λh1 N R=>?_,0 L n st q,<-y3 hu.same (A.kept (.inl (by decide))),<-B f,dh B λwD bA q=>?_,];replace B:=q.1;rw[0 q,aw hu λpp q=>jU ((lz q.wf).2 _ h1) λ_ D h5 h6=>aw D λr0 h4=>?_,0 D q,<-C U3 (rn h1) (wW N),]
 replace o:Uj+(3^rk (fe h) c+ro (fe h) (r.map (·.1)))<=pa+ro (fe h) (l.map (·.1)):=o
 replace M:U.length+(r.length+1)=l.length:=M
 rw[bX ?_,2 NM NN,"w",⟨rfl,?_⟩,"w",5 (GC F.g F.k F.exc A4 ..),aw (Nat.exists_eq_add_of_le C) λd hd=>?_,[hF,show k+3*rk (fe h) i+6=k+3*d+1+3*rk (fe h) c+8 from hd▸ax [] (.eq (.p (.p af (.m 3 (.p (.p aj aF) aC))) (.k 6)) (.p (.p (.p (.p af (.m 3 aC)) aF) (.m 3 aj)) eo)) (.s 0 (.l [1]) (.l [1])) tt [_,_,_]],BO (λ_=>IH c N _) S W y3 f hj h4 ⟨u,v,h1⟩ h5 h6 (ax [.le iV (.k 20000),.le (.p af (.p aj aC)) iV] (.le (.p af aj) (.k 20000)) (.l [1,1,1]) tt [_,_,_,0,_] hc o) (ax [.le (.p af aj) bU,.le (.p aC aF) aj] (.le (.p (.p af aC) aF) bU) (.l [1,1,1]) tt [_,_,_] X C) λp pa' σ' g1 g2 g3 g4=>?_,<-E (g4.NO (i:=i) N).trans Nk,"w",];have J:∀p',PV (aI h) ev (12*rk (fe h) i-9) p' (tm (aI h) z) (tm (aI h) z')->∀I,bj [(0,.loc wo),(1,vi x),(4,.loc fA)] I->dc 1 F (pop F λs m σ=>s=[]/\P m σ) [p',.loc fA,.raw (.builtin "list.append")] I σ':=λp' G I a=>by
  rw[aW E rfl (ax [.eq (.p af (.p aj aF)) aC,.le aC (.k 1000)] (.le af aE) (.l [1,1,0,1]) tt [_,_,_] M hl) λH=>⟨rfl,hP _ _ a ⟨_,z',pa',?_,g3.same λt ht=>aq.ag λe=>(by rw[<-e] at ht;rw[7 ht,]),Uk,?_,.snoc G Cp,H,A.trans ((g4.up (VG N)).Gr (Vs i))⟩⟩,]
  ·rw[[U7],M▸W' ..,]
  ·rw[ax [.le (.p af (.p aj aC)) iV,.le bH (.p af aj)] (.le (.p bH aC) iV) (.l [1,1,1]) tt [_,_,_,_,_] o g2,]
 induction b with
 |true=>
  refine w_ite (λ_=>?_) λe=>nomatch e;rw["w",];exact J _ (PV.le (d:=12*rk (fe h) c+2+1) (R.1▸R.2▸.turn g1) (ax [.le (.p af aF) aj,.sub aC (.m 12 aj) (.k 9)] (.le (.p (.p (.m 12 af) gI) aF) aC) (.l [1,12,1]) tt [_,_,_] C rfl)) _ ⟨rfl,rfl,rfl,trivial⟩
 |false=>
  rw[w_ite (λe=>nomatch e) λ_=>?_,"w",J _ (PV.le (R.1▸R.2▸g1) (ax [.le (.p af aF) aj,.sub aC (.m 12 aj) (.k 9)] (.le (.p (.m 12 af) gI) aC) (.l [1,12,1]) tt [_,_,_] C rfl)) _ ⟨rfl,rfl,rfl,trivial⟩,]
def Gs(IH:∀e,e<i->∀k,tL g k j wo lv h ev w ms bk e)(v:yO h)(z:yP h ev)(N:aK lv h h w ms bk σ)(P:eE j wo lv st pa le σ)(R:j<2)(hv:y4 st h bk)
 (A:2*pa+3^rk (fe h) i<=40001) (C:le+rk (fe h) i<=100) (S:x<nn h)
 (hQ:∀p pa' σ',PV (aI h) ev (12*rk (fe h) i+1) p (tm (aI h) x) (tm (aI h) y)->2*pa'+1<=2*pa+3^rk (fe h) i->eE j wo lv (some (h,bk)) pa' le σ'->bg j (i+1) σ σ'->dE (fe h) i x y->Q p σ')
 (hX:¬dE (fe h) i x y->∀σ',eE j wo lv (some (h,bk)) pa le σ'->bg j (i+1) σ σ'->exc 88 [(22,.str "two numbers are not alike"),(23,.tup [vi x,vi y])] σ'):
 GC g (k+3*rk (fe h) i+7) exc σ (.raw (.ref 168)) [.loc wo,vi x,vi y,vi i] Q:=by
 rw[a8 nj (by decide+kernel) rfl<|dr (id P) λwD bA J _=>?_,2 g7,cF ⟨62,i⟩ λr B=>?_,];have I:bg j (i+1) σ (σ.set ⟨62,i⟩ (.one r (.list []))):=bg.refl.Gr (Vs i);have D:eE j wo lv st pa le (σ.set ⟨62,i⟩ (.one r (.list []))):=P.same λt W=>aq.ag λe=>by rw[<-e] at W;rw[7 W,]
 replace J:(σ.set ⟨62,i⟩ (.one r (.list []))) ⟨40,j⟩=_:=(aq.ag λe=>by injection e with e;cases e).trans J
 generalize σ.set ⟨62,i⟩ (.one r (.list []))=E at*;rw[<-U N.same (I.kept (.inl (by decide))),"w",5 (GC g (k+3*rk (fe h) i+1+5) exc E ..),Ka U D R hv S (λl a u X G b=>?_) λhn a G b=>hX hn a G (I.trans (b.up (Vj _))),<-d U.same (b.kept (.inl (by decide))),<-f (b.NO (i:=i) (Vj _)).trans B,<-n E4 (es:=fe h) i X u.mem,<-o E5 (es:=fe h) i X u.mem,];rw[U2] at o;rw[hV (NP rfl IH v z R C d G u (ax [.le (.p af aj) bU,.le aC aj] (.le aC (.k 1000)) (.l [1,1,1]) tt [_,_,_] C o) (ax [.le (.p (.m 2 af) aj) (.k 40001),.le (.p (.m 2 aC) aF) aj] (.le (.p af aC) (.k 20000)) (.l [2,1,1]) tt [_,_,_] A n) f ⟨rfl,rfl,rfl,trivial⟩ λps pa' pI m3 H Y b3 b4 b5 b6 b7=>?_),<-L d.same (b7.kept (.inl (by decide))),dr (id b5) λUW UX Ul _=>ej H.1 ?_,"s",ej H.2.1 (ej H.2.2.1 ?_),"w",J4 (ns:=[]) L S (cv b6 rfl) (ax [.le (.p af aj) bU,.le aC aj,.eq bH aC] (.le bH bU) (.l [1,1,1,1]) tt [_,_,_,_] C o Y) b3 λp M c1 c2=>?_,"w",hQ p pa' M (c1.le ?_) (ax [.le (.p (.m 2 af) aF) aj,.le aC (.p bH af)] (.le (.p (.m 2 aC) aF) (.p (.m 2 bH) aj)) (.l [1,1,2]) tt [_,_,_,_] n b4) (b5.same (c2.kept (.inr (by decide)))) (((I.trans (b.up (Vj _))).trans b7).trans (c2.p (by decide) (.inl (by decide)) (by decide))) ⟨l,u⟩,aw N λpp q=>ax [.le af aj,.eq aC af,.le aj iV,.le iV eo,.sub bH (.m 12 aj) (.k 9)] (.le (.p (.p bH aC) aF) (.p (.m 12 aj) aF)) (.s 5 (.l [0,1,1,1,1]) (.l [0,1,1,1,1,0,1,1])) tt [_,_,_,_,_] o Y BM (nT q.wf) rfl,]
def Kd(o:yO h)(C:yP h ev)(m:j<2):∀(i k:Nat),tL g k j wo lv h ev w ms bk i:=by
 intro i
 induction i using Nat.strongRecOn with
 |_ i n=>
  intro k σ pa le x y Q r t I J u G v z;rw[Gs n o C r t m (λH b e=>by injection e with U;injection U with a d;rw[3 a,3 d,.inr ⟨rfl,[],rfl⟩,]) I J u (λp f l A B D E _=>z p f l A B D E) λq=>U9 v q,]
def fb(j:Nat)(wo lv:Addr)(st:WS)(σ:aq):Prop:=∃pa le,eE j wo lv st pa le σ
def fb.same(h:fb j wo lv st σ)(hs:Kept 40 43 σ σ'):fb j wo lv st σ':=by rw[6 h,λo=>dh o λpa le h=>?_,0 o,⟨pa,le,h.same hs⟩,]
def E8(a:yO h)(b:yP h ev)(hu:aK lv h h w ms bk σ)(hw:fb j wo lv st σ)(B:j<2)(hv:y4 st h bk)(D:x<nn h)
 (hQ:∀p σ',PV (aI h) ev 97 p (tm (aI h) x) (tm (aI h) y)->fb j wo lv (some (h,bk)) σ'->bg j ((bK h).length+1) σ σ'->dE (fe h) (bK h).length x y->Q p σ')
 (hX:¬dE (fe h) (bK h).length x y->∀σ',fb j wo lv (some (h,bk)) σ'->bg j ((bK h).length+1) σ σ'->exc 88 [(22,.str "two numbers are not alike"),(23,.tup [vi x,vi y])] σ'):
 gk ⟨g,k+33,Q,exc⟩ (λ_ _ σ=>Q .none σ) [] (jb 0 [.loc wo,vi x,vi y]) σ:=by
 rw[dh hw λpa le J=>dr J λwD bA E d=>?_,0 hw J,aw (id hu) λp q=>?_,];have G:(bK h).length<=50000:=U3 cS q.sz.1;rw[<-C BM (es:=fe h) (i:=(bK h).length),<-I nT q.wf,2 gk,"w",dW E rfl (by decide) (λP=>by kernel_rfl) (U1 rfl) λA4 U f=>?_,];have r:=λx D=>(d x D).same λt ht=>f t λe=>by rw[<-e] at ht;rw[7 ht,]
 rw["w",dW U rfl (by decide) (λP=>by kernel_rfl) (U1 rfl) λH u L=>aV (jQ (pa':=0) (le':=le) B d U f) λNL N=>?_,aV (jQ (pa':=0) (le':=0) B r u L) λR S=>?_,<-z N.trans S,<-W hu.same (z.kept (.inl (by decide))),<-ho (z ⟨20,0⟩ (.inl rfl)).trans q.o,<-he (z ⟨21,0⟩ (.inl rfl)).trans q.e,"w",aX (n:=(bK h).length) (cv he rfl) (U2 ..) (kl G) ?_,"w",];have A:3^rk (fe h) (bK h).length<=3^8:=WJ (by decide) (ax [.le af aj,.le aj eo] (.le af eo) (.l [1,1,1]) tt [_,_] C I);have h8:(3:Nat)^8=6561:=by decide
 rw[aw (Rk k (ax [.le af aj,.le aj eo] (.le (.p (.m 3 af) (.k 7)) (.k 33)) (.l [1,3,3]) tt [_,_] C I:3*rk (fe h) (bK h).length+7<=33)) λk' X=>?_,5 (GC g (k+33) exc H ..),];rw[X,<-WZ];rw[Gs (pa:=0) (le:=0) (λe _ k=>Kd a b B e k) a b W R B hv (ax [.le af (.k 6561)] (.le (.p gp af) (.k 40001)) (.l [1,1]) tt [_] A) (ax [.le af aj,.le aj eo] (.le (.p gp af) bU) (.l [1,1,1]) tt [_,_] C I) D (λp v σ' q1 q2 Y q4 q5=>?_) λhn σ' Y q4=>hX hn σ' ⟨_,_,Y⟩ (z.p.trans q4),hQ p σ' (q1.le (ax [.le af aj,.le aj eo] (.le (.p (.m 12 af) aF) (.k 97)) (.l [1,12,12]) tt [_,_] C I)) ⟨_,_,Y⟩ (z.p.trans q4) q5,]
end
end
noncomputable section
def hide{P:Prop}(h:∀R:Prop,(P->R)->R):P:=h P id
section
variable{g:G0}{k:Nat}{exc:XQ}{lv:Addr}{σ:aq}{Q:V->aq->Prop}
def BP(d:j<2)(l:∀I σ',fb j I lv none σ'->cy j σ σ'->Q (.loc I) σ'):GC g (k+2) exc σ (.raw (.ref 176)) [.loc lv] Q:=by
 refine l9 ⟨40,j⟩ HN HR HV λI a=>gi sG (by decide+kernel) rfl ?_;have o:(σ.set ⟨40,j⟩ (.obj I 176 a [])) ⟨40,j⟩=some (.obj I 176 a []):=aq.ae;have C:cy j σ (σ.set ⟨40,j⟩ (.obj I 176 a [])):=cy.refl.set rfl (.inr (Wq d));generalize σ.set ⟨40,j⟩ (.obj I 176 a [])=J at*;have b:∀{J σ':aq},cy j σ J->(∀u,(⟨40,j⟩:Tg)≠u->σ' u=J u)->cy j σ σ':=λm n t U=>(n t λe=>by
  rw[<-e] at U;rcases U with U|U
  ·rw[7 U,]
  ·exact U.2 (Wq d)).trans (m t U)
 rw[2 kX,"w",dW o rfl (by decide) (λP=>by kernel_rfl) (U1 rfl) λp o q=>?_,]
 replace C:=b C q
 rw["w",dW o rfl (by decide) (λP=>by kernel_rfl) (U1 rfl) λr o v=>?_,]
 replace C:=b C v
 rw["w",dW o rfl (by decide) (λP=>by kernel_rfl) (U1 rfl) λw o y=>?_,]
 replace C:=b C y
 rw["w",dW o rfl (by decide) (λP=>by kernel_rfl) (U1 rfl) λf o z=>?_,]
 replace C:=b C z
 rw[lX ⟨41,j⟩ λi A=>?_,]
 replace C:cy j σ (f.set ⟨41,j⟩ (.one i (.dA []))):=C.set rfl (.inr (Wq d))
 rw["w",dW o rfl (by decide) (λP=>by kernel_rfl) (U1 rfl) λh o B=>⟨rfl,l I h ⟨0,0,a,i,o,λx D=>nomatch D⟩ (b C B)⟩,]
noncomputable def E9(o:List Nat)(C:Nat)(p:Nat×Nat):List (Atom×V):=[(.s "row",.lst (o.map vi)),(.s "at",vi C),(.s "gone",.tup [vi p.1,vi p.2])]
inductive cI(wa:Addr)(n:Nat)(p:Nat×Nat)(σ:aq):Prop
 |mk (row:List Nat) (at_:Nat) (h:σ ⟨70,0⟩=some (.one wa (.dA (E9 row at_ p)))) (hl:row.length<=45) (ha:at_<=n):cI wa n p σ
def cI.same(h:cI wa n p σ)(e:σ' ⟨70,0⟩=σ ⟨70,0⟩):cI wa n p σ':=by induction h with|mk o C h I J=>exact⟨o,C,e.trans h,I,J⟩
def e8(f:cI wa n p σ)(i:n<=900)(hm:0<m)(j:∀r σ',r<m->cI wa (n+1) p σ'->aA 70 71 σ σ'->Q (vi r) σ'):GC g (k+1) exc σ (.raw (.ref 587)) [.loc wa,vi m] Q:=by
 induction f with|mk I C h U e=>
 rw[a8 u5 (by decide+kernel) rfl ?_,2 nG,"w",cx (k1:=.s "at") rfl h rfl rfl ?_,"w",eD (k1:=.s "at") rfl h rfl (U1 rfl) λb=>?_,"w",cx (k1:=.s "row") rfl b rfl rfl ?_,];have d:I.length<=100000:=U3 U (by decide);rw[aX bT (U2 ..) d ?_,"w",];have fin:∀x,Q (vi (x%m)) (σ.set ⟨70,0⟩ (.one wa (.dA (dput (E9 I C p) (.s "at") (vi (C+1)))))):=λx=>j _ _ (Nat.mod_lt _ hm) ⟨I,C+1,b,U,VJ e⟩ (aA.refl.set rfl);have J:=WO hm;have o:C<=100000:=U3 e (U3 i (by decide));rw[aQ (λq=>?_) λq=>?_,]
 ·rw["w",]
  rw[cx (k1:=.s "row") rfl b rfl rfl ?_,"w",bz (cm (U' q)) (Vg q (U3 U (by decide))) ?_,"w",vu J (fin _),]
 ·rw["w",]
  rw[vj o ?_,"w",vj o ?_,"w",vj o ?_,"w",En ?_,"w",vu J (fin _),]
def Fb(b:wF ns)(hz:ns.length<=8):∀(n k:Nat) (exc:XQ) (σ:aq) (Q:V->aq->Prop),n<ns.length->Q (tm ns n) σ->GC g (k+n+1) exc σ (.raw (.ref 592)) [.lst (ns.map aP),vi n] Q:=by
 intro n
 induction n using Nat.strongRecOn with
 |_ n i=>
  intro k exc σ Q C f;have e:=U' C;have I:=b n _ e;rw[nP b e] at f;rw[bp u7 (by decide+kernel) rfl rfl ?_,2 nH,];have h:n<1000000:=Vg C (U3 hz (by decide));rw["w",bz (cm e) h (cb ?_),"w",cj [(0,.lst (ns.map aP))] rfl ⟨rfl,trivial⟩ ?_,"w",bz (cm e) h (hM ?_ (aY ⟨rfl,trivial⟩ (.tup _) ?_)),]
  ·rw[[U2],U3 I.2 (by decide),]
  have J:(ns[n].2).length<=100000:=U3 I.2 (by decide);rw[bJ (y:=tm ns) _ [] (λx o j m l U=>?_) (by rw[[Wm,Wk],J,]) ?_,]
  ·rw[bG ⟨rfl,nM (λ_=>?_) λe=>nomatch e⟩,]
   rw["w",<-o I.1 x o,aw (Nat.exists_eq_add_of_lt o) λd a=>?_,3 a,];rw[Yi x d,<-WZ,<-WZ];rw[i x o (k+d) _ _ _ (VK o C) ⟨⟨rfl,trivial⟩,l,U⟩,]
  ·rw[cY bT (by rw[[Wg,U2],J,]) (ft (by rw[[Wg,U2],J,]) ?_),]
   rw["w",f,]
end
end
noncomputable section
noncomputable abbrev Ev:=Nat×Nat×Str
structure GoodR(ns:List Nd)(evs:List Ev)(R:Nat->Nat->Prop):Prop where
 rf:∀a,R a a
 sy:∀a b,R a b->R b a
 tr:∀a b c,R a b->R b c->R a c
 ev:∀e∈evs,R e.1 e.2.1
 cg:∀a b x y,ns[a]?=some x->ns[b]?=some y->x.1=y.1->x.2.length=y.2.length->(∀p∈x.2.zip y.2,R p.1 p.2)->R a b
noncomputable abbrev hm(hs:List Nat)(a:Nat):Nat:=hs.getD a 0
noncomputable def kB(hs:List Nat)(p:Nat×Nat):List Nat:=hs.map λx=>if x=max (hm hs p.1) (hm hs p.2) then min (hm hs p.1) (hm hs p.2) else x
def eF:(kB hs p).length=hs.length:=U2 ..
def BQ(h:i<hs.length):hm (kB hs p) i=if hm hs i=max (hm hs p.1) (hm hs p.2) then min (hm hs p.1) (hm hs p.2) else hm hs i:=by rw[2 hm kB,[Vf,WD,Vf (l:=hs) (i:=i),U' h],];rfl
def BR(l:List Nat)(o:d<=c):(l.map λx=>if x=c then d else x).sum<=l.sum:=by
 induction l with
 |nil=>exact Va _
 |cons x l C=>
  rw[[VI,Yl,Yl],WM ?_ C,];split
  ·rw[4 q,q▸o,]
  ·rw[Va _,]
def Ke{c d:Nat}{l:List Nat}(o:d<c):c∈l->(l.map λx=>if x=c then d else x).sum<l.sum:=by
 induction l with
 |nil=>exactλh=>nomatch h
 |cons x l C=>
  rw[λh=>?_,[VI,Yl,Yl],];by_cases q:x=c
  ·rw[[Vb q],Nat.add_lt_add_of_lt_of_le (q▸o) (BR l (VP o)),]
  ·rw[[U8 q],Nat.add_lt_add_left (C ((Vc.mp h).resolve_left λe=>q e.symm)) _,]
def Kg:(kB hs p).sum<=hs.sum:=BR _ (U3 (X3 ..) (Nat.le_max_left ..))
def Kh{hs:List Nat}{p:Nat×Nat}(h1:p.1<hs.length)(C:p.2<hs.length)(o:hm hs p.1≠hm hs p.2):(kB hs p).sum<hs.sum:=by
 rw[Ke (ax [.ne af aj,.mn aC af aj,.mx bH af aj] (.lt aC bH) (.s 1 (.l [1,1,1,0,0,1]) (.l [1,1,0,1,1])) tt [_,_,_,_] o rfl rfl) ?_,];have e:∀i,i<hs.length->hm hs i∈hs:=λi hi=>by rw[2 hm,[Vf,U' hi],WH hi,]
 rcases XM (hm hs p.1) (hm hs p.2) with q|q
 ·rw[[WU q],e _ C,]
 ·rw[[W5 q],e _ h1,]
def BS{a b u v:Nat}:(if a=v then u else a)=(if b=v then u else b)↔a=b\/(a=u\/a=v)/\(b=u\/b=v):=by
 by_cases p:a=v
 ·by_cases q:b=v
  ·rw[[Vb p,Vb q],⟨λ_=>.inl (p.trans q.symm),λ_=>rfl⟩,]
  ·rw[[Vb p,U8 q],⟨λe=>.inr ⟨.inr p,.inl e.symm⟩,λh=>h.elim (λe=>U9 (e.symm.trans p) q) λh=>(h.2.resolve_right q).symm⟩,]
 ·by_cases q:b=v
  ·rw[[U8 p,Vb q],⟨λe=>.inr ⟨.inl e,.inr q⟩,λh=>h.elim (λe=>U9 (e.trans q) p) λh=>h.1.resolve_right p⟩,]
  ·rw[[U8 p,U8 q],⟨.inl,λh=>h.elim id λh=>(h.1.resolve_right p).trans (h.2.resolve_right q).symm⟩,]
def Um{a b c d:Nat}:(if a=max c d then min c d else a)=(if b=max c d then min c d else b)↔a=b\/(a=c\/a=d)/\(b=c\/b=d):=by
 rcases XM c d with q|q
 ·rw[[WU q,Wl q],BS,]
 ·rw[[W5 q,W7 q],BS.trans (or_congr_right (and_congr or_comm or_comm)),]
def rp{hs:List Nat}{p:Nat×Nat}{i j:Nat}(hi:i<hs.length)(o:j<hs.length):hm (kB hs p) i=hm (kB hs p) j↔hm hs i=hm hs j\/(hm hs i=hm hs p.1\/hm hs i=hm hs p.2)/\(hm hs j=hm hs p.1\/hm hs j=hm hs p.2):=by rw[[BQ hi,BQ o],Um,]
structure Ki(n:Nat)(R:Nat->Nat->Prop)(hs:List Nat):Prop where
 len:hs.length=n
 snd:∀a b,a<n->b<n->hm hs a=hm hs b->R a b
def Ki.mg(C:GoodR ns evs R)(h:Ki n R hs)(h1:p.1<n)(h2:p.2<n)(hp:R p.1 p.2):Ki n R (kB hs p) where
 len:=eF.trans h.len
 snd a b J hb e:=by
  rcases(rp (h.len▸J) (h.len▸hb)).mp e with e|⟨U,d⟩
  ·rw[h.snd a b J hb e,]
  ·have j:=U.elim (h.snd _ _ J h1) λq=>C.tr _ _ _ (h.snd _ _ J h2 q) (C.sy _ _ hp)
   rw[<-x d.elim (λq=>C.sy _ _ (h.snd _ _ hb h1 q)) λq=>C.tr _ _ _ hp (C.sy _ _ (h.snd _ _ hb h2 q)),C.tr _ _ _ j x,]
noncomputable def rq(hs:List Nat)(nd:Nd):Nd:=(nd.1,nd.2.map (hm hs))
structure wX(ns:List Nd)(hs:List Nat)(d:Nat)(fl:List (Nd×Nat))(ws:List (Nat×Nat)):Prop where
 ok:∀i nd,i<d->ns[i]?=some nd->∃f,cH fl (rq hs nd)=some f/\(hm hs f≠hm hs i->(f,i)∈ws)
 kn:∀c f,cH fl c=some f->f<d/\∃nd,ns[f]?=some nd/\rq hs nd=c
 wi:∀p∈ws,p.1<d/\p.2<d/\hm hs p.1≠hm hs p.2/\∃x y,ns[p.1]?=some x/\ns[p.2]?=some y/\rq hs x=rq hs y
 fn:fl.length<=d
 wn:ws.length<=d
def Kj(k:wF ns)(n:GoodR ns evs R)(h:Ki ns.length R hs)(J:ns[a]?=some x)(U:ns[b]?=some y)(e:rq hs x=rq hs y):R a b:=by
 have q:x.1=y.1:=by have:=Ve Prod.fst e;exact this
 have m:x.2.map (hm hs)=y.2.map (hm hs):=by have:=Ve Prod.snd e;exact this
 rw[n.cg a b x y J U q (by have:=Ve List.length m;simpa using this) λp r=>?_,<-t (k a x J).1,<-u (k b y U).1,<-d aS J,<-f aS U,aw (List.mem_iff_getElem.mp r) λi o=>aw o λhi j=>?_,0 o,3 j,];rw[List.length_zip] at hi;rw[List.getElem_zip];have C:i<x.2.length:=by rw[ax [.lt af aj,.mn aj aC bH] (.lt af aC) (.l [1,1,1]) tt [_,_,_,_] hi rfl,]
 have I:i<y.2.length:=by rw[ax [.lt af aj,.mn aj aC bH] (.lt af bH) (.l [1,1,0,1]) tt [_,_,_,_] hi rfl,]
 rw[h.snd _ _ (VK (t _ (WH C)) d) (VK (u _ (WH I)) f) ?_,<-this Ve (λl=>l[i]?) m,];simp only[WD,U' C,U' I,Option.map_some,Yd] at this;rw[this,]
def wX.nil:wX ns hs 0 [] []:=⟨λ_ _ h=>U9 h (VT _),(λ_ _ h=>nomatch h),(λ_ h=>nomatch h),Va _,Va _⟩
def wX.none(h:wX ns hs d fl ws)(y:ns[d]?=some nd)(B:cH fl (rq hs nd)=none)(C:∀c,cH (fl++[(rq hs nd,d)]) c=if c=rq hs nd then some d else cH fl c):wX ns hs (d+1) (fl++[(rq hs nd,d)]) ws where
 ok i x hi J:=by
  rcases WY.mp hi with hi|rfl
  ·rw[ah (h.ok i x hi J) λf h1 h2=>⟨f,?_,h2⟩,]
   rw[C,U8 λe=>by rw[e,B] at h1;rw[7 h1,]];rw[h1,]
  ·rw[y] at J;rw[1 J,]
   exact⟨i,by rw[C,Vb rfl],U9 rfl⟩
 kn c f hc:=by
  rw[C] at hc;by_cases q:c=rq hs nd
  ·rw[Vb q] at hc;rw[1 hc,⟨Vs _,nd,y,q.symm⟩,]
  ·rw[U8 q] at hc
   rw[aV (h.kn c f hc) λh1 h2=>⟨Vi h1,h2⟩,]
 wi p hp:=by rw[dG (h.wi p hp) λh1 h2 D=>⟨Vi h1,Vi h2,D⟩,]
 fn:=by rw[[U7],VJ h.fn,]
 wn:=VG h.wn
def wX.some(h:wX ns hs d fl ws)(k:ns[d]?=some nd)(l:cH fl (rq hs nd)=some f):wX ns hs (d+1) fl (if hm hs f=hm hs d then ws else ws++[(f,d)]):=by
 have C:∀p,p∈ws->p∈(if hm hs f=hm hs d then ws else ws++[(f,d)]):=λp o=>by
  split
  ·rw[o,]
  ·rw[Vv _ o,]
 rw[aV (h.kn _ _ l) λm I=>ah I λx k2 n=>?_,0 I,⟨λi x hi b=>?_,λc f r=>?_,λp o=>?_,VG h.fn,?_⟩,]
 ·rcases WY.mp hi with hi|rfl
  ·rw[ah (h.ok i x hi b) λf J U=>⟨f,J,λe=>C _ (U e)⟩,]
  ·rw[k] at b;rw[1 b,]
   exact⟨f,l,λe=>by rw[[U8 e],Vm _ (Vr _),]⟩
 ·rw[aV (h.kn c f r) λJ U=>⟨Vi J,U⟩,]
 ·have a:p∈ws->_:=λo=>by
   obtain⟨J,U,t⟩:=h.wi p o;exact(⟨Vi J,Vi U,t⟩:p.1<d+1/\p.2<d+1/\hm hs p.1≠hm hs p.2/\∃x y,ns[p.1]?=Option.some x/\ns[p.2]?=Option.some y/\rq hs x=rq hs y)
  split at o
  ·rw[a o,]
  ·rw[4 q,]
   rcases Vk.mp o with o|o
   ·rw[a o,]
   ·rw[U5.mp o]
    exact⟨Vi m,Vs _,q,x,nd,k2,k,n⟩
 ·split
  ·rw[VG h.wn,]
  ·rw[[U7],VJ h.wn,]
def Fc(P:wF ns)(hl:hs.length=ns.length)(h:wX ns hs ns.length fl [])(U:∀e∈evs,e.1<ns.length/\e.2.1<ns.length/\hm hs e.1=hm hs e.2.1):GoodR ns evs λa b=>hm hs a=hm hs b where
 rf a:=rfl
 sy a b h:=h.symm
 tr a b c h d:=h.trans d
 ev e h:=(U e h).2.2
 cg a b x y C hb j J B:=by
  have D:rq hs x=rq hs y:=by rw[2 rq,[j],];congr 1;rw[List.ext_getElem (by simpa using J) λi h1 h2=>?_,];rw[U2] at h1 h2;rw[[List.getElem_map,List.getElem_map],<-this B (x.2[i],y.2[i]) (List.mem_iff_getElem.mpr ⟨i,by rw[[List.length_zip],ax [.eq af aj,.lt aC af,.mn bH af aj] (.lt aC bH) (.s 3 (.l [1,1,0,0,1]) (.l [1,1,1,0,1])) tt [_,_,_,_] J h1 rfl,],List.getElem_zip⟩),this,]
  rw[ah (h.ok a x (aS C) C) λf h1 h2=>ah (h.ok b y (aS hb) hb) λQ G H=>?_,];rw[D,G] at h1;cases h1;have L:=Wc λe=>nomatch h2 e;have M:=Wc λe=>nomatch H e;rw[L.symm.trans M,]
end
noncomputable section
noncomputable abbrev pV(p:Nat×Nat):V:=.tup [vi p.1,vi p.2]
noncomputable abbrev jd(e:Ev):V:=.tup [vi e.1,vi e.2.1,.str e.2.2]
def wY:cH l x=none->∀c,cH (l++[(x,d)]) c=if c=x then some d else cH l c:=by
 induction l with
 |nil=>
  rw[λ_ c=>(?_:(if x=c then some d else none)=if c=x then some d else none),];by_cases q:c=x
  ·rw[Vb q,Vb q.symm]
  ·rw[U8 q,U8 λe=>q e.symm]
 |cons a l C=>
  rw[λh c=>(?_:(if a.1=c then some a.2 else cH (l++[(x,d)]) c)=if c=x then some d else if a.1=c then some a.2 else cH l c),]
  replace h:(if a.1=x then some a.2 else cH l x)=none:=h
  split at h
  ·exact nomatch h
  ·rw[4 q,]
   by_cases o:a.1=c
   ·rw[Vb o,Vb o,U8 λe=>q (o.trans e)]
   ·rw[[U8 o,U8 o],C h c,]
def BU:rB (l++[p])=rB l++[(dm p.1,vi p.2)]:=by rw[2 rB,[Vd],];rfl
noncomputable def NQ:SC:=gd 2<|aN 2<|aN 3<|ao
noncomputable def NR:SC:=aM (.builtin "sorted")<|aa 4<|aa 2<|sq sub<|aa 4<|aa 3<|sq sub<|eY 2<|aL 1<|gd 2<|aN 6<|aN 7<|sq (comp false [7,6] (aa 4<|ao) (aN 13<|ao) (au (.bool true)<|ao) (aa 13<|aa 7<|bO .Eq<|sq bu<|sq (ite (aa 6<|ao) (aa 13<|ao))<|ao))<|aN 4<|ao
noncomputable def BV:SC:=gd 2<|aN 9<|aN 10<|ao
noncomputable def BW:SC:=aa 8<|a' 28<|aa 10<|au (vi 0)<|sq sub<|bc 1<|aM (.type "tuple")<|sq (comp false [4] (aa 10<|au (vi 1)<|au .none<|au .none<|sq fL<|sq sub<|ao) (aN 14<|ao) (au (.bool true)<|ao) (aa 4<|aa 14<|sq sub<|ao))<|aL 1<|dk .Add<|aa 9<|ba 2<|aN 11<|aa 4<|aa 11<|sq sub<|aa 4<|aa 9<|sq sub<|bO .NotEq<|sq bu<|sq (ite (aa 5<|a' 24<|aa 11<|aa 9<|bc 2<|ba 1<|sq pop<|ao) ao)<|ao
section
variable{F:Fr}{K:KS}{s:List V}{m:GM}{σ:aq}{X N E:V}
def Kk{I:Bool}{tt o:SC}{l:List V}(J:Seq σ X l)(k:∀h σ0 C,(∀m,K s m σ->C m σ0)->ef (gb (tt (F.lst h l)) (o (F.lst h l))) C l m σ0):df I tt o F K (X::s) m σ:=by
 rcases J with rfl|⟨a,t,rfl,h⟩
 ·rw[hV (k none σ _ λ_ h=>h),]
 ·rw[qX h rfl (k _ _ _ λm U=>?_),]
  rw[show(σ.del t).set t (.one a (.list l))=σ from funext λu=>by
   by_cases q:t=u
   ·rw[8 q,aq.ae.trans h.symm,]
   ·exact(aq.ag q).trans (aq.aR q)]
  rw[U,]
def ie(h:i<hs.length):(hs.map vi)[i]?=some (vi (hm hs i)):=by rw[cm ?_,2 hm,[Vf,U' h],];rfl
def NS(f:n<=8):∀(ws:List (Nat×Nat)) (hs:List Nat) (m:GM),(∀p∈ws,p.1<n/\p.2<n)->hs.length=n->bj [(0,N),(1,E),(4,.lst (hs.map vi))] m->
 (∀j,bj [(0,N),(1,E),(4,.lst ((ws.foldl kB hs).map vi))] j->u j σ)->ef (gb (NQ F) (NR F)) u (ws.map pV) m σ:=by
 intro ws
 induction ws with
 |nil=>exactλhs m _ _ hm a=>d2 (a m hm)
 |cons p ws v=>
  intro hs m r C b a;rw[aV (r p (VL ..)) λJ U=>?_,];have J:=C.symm▸J;have U:=C.symm▸U;have t:∀{i},i<hs.length->i<1000000:=λh=>by rw[ax [.le af eo,.eq aj af,.lt aC aj] (.lt aC (.k 1000000)) (.l [1,1,1,0,1]) tt [_,_,_] f C h,]
  rw[[VI],bP [(0,N),(1,E),(4,.lst (hs.map vi))] b (bX ?_),2 NQ NR,"w",⟨rfl,?_⟩,"w",bz (ie J) (t J) ?_,"w",bz (ie U) (t U) (lW (kr ?_)),"w",cj [(7,vi (max (hm hs p.1) (hm hs p.2))),(6,vi (min (hm hs p.1) (hm hs p.2)))] rfl ⟨rfl,rfl,trivial⟩ ?_,"w",aY ⟨rfl,rfl,trivial⟩ (.lst _)<|bJ (y:=λx=>vi (if x=max (hm hs p.1) (hm hs p.2) then min (hm hs p.1) (hm hs p.2) else x)) hs [] (λx z w A I o=>?_) (by rw[[Wm],ax [.le af eo,.eq aj af] (.le (.p gp aj) aE) (.l [1,1,1]) tt [_,_] f C,]) ?_,]
  ·rw[bG ⟨rfl,nM (λ_=>?_) λe=>nomatch e⟩,]
   rw["w",aQ (λq=>?_) λq=>?_,]
   ·rw[Vb q] at o
    rw["w",⟨⟨rfl,rfl,trivial⟩,I,o⟩,]
   ·rw[U8 q] at o
    rw["w",⟨⟨rfl,rfl,trivial⟩,I,o⟩,]
  ·rw["w",]
   rw[⟨rfl,v (kB hs p) _ (λp d=>r p (Wz _ d)) (eF.trans C) ⟨rfl,rfl,?_,trivial⟩ a⟩,[d9,Wg],2 kB,[VD],];rfl
def Kl(M:ns.length<=8)(hw:wF ns)(P:hs.length=ns.length):∀(rest:List Nd) (d:Nat) (fl:List (Nd×Nat)) (ws:List (Nat×Nat)) (m:GM) (σ:aq),ns.drop d=rest->d<=ns.length->wX ns hs d fl ws->
 σ ⟨72,0⟩=some (.one fA (.dT (rB fl)))->σ ⟨72,1⟩=some (.one wA (.list (ws.map pV)))->bj [(0,N),(1,E),(4,.lst (hs.map vi)),(8,.loc fA),(5,.loc wA)] m->
 (∀r σ' C u,bj [(0,N),(1,E),(4,.lst (hs.map vi)),(8,.loc fA),(5,.loc wA)] r->wX ns hs ns.length C u->σ' ⟨72,1⟩=some (.one wA (.list (u.map pV)))->aA 72 73 σ σ'->Kf r σ')->
 ef (gb (BV F) (BW F)) Kf (kR d (rest.map aP)) m σ:=by
 intro rest
 induction rest with
 |nil=>
  intro d fl ws m σ t hd b Q D j G;have:=Xq hd (by have:=Ve List.length t;rw[List.length_drop] at this;rw[Nat.le_of_sub_eq_zero this,]);exact d2 (G m σ fl ws j (this▸b) D .refl)
 |cons J rest ih=>
  intro d fl ws m σ t hd b Q D j G;have o:=Nat.lt_of_not_le λq=>by rw[List.drop_of_length_le q] at t;rw[7 t,]
  have k:ns[d]?=some J:=by have:=Ve (λl=>l[0]?) t;rw[List.getElem?_drop] at this;rw[this,]
  have v:ns.drop (d+1)=rest:=by have:=Ve List.tail t;rw[List.tail_drop] at this;rw[this,]
  have w:=hw d J k;have H:J.2.length<=100000:=U3 w.2 (by decide);have R:=b.wn;have S:=b.fn;have W:∀{i},i<ns.length->i<1000000:=λh=>by rw[k2 M h,]
  rw[[VI],bP [(0,N),(1,E),(4,.lst (hs.map vi)),(8,.loc fA),(5,.loc wA)] j (bX ?_),2 BV BW,"w",⟨rfl,?_⟩,"w",cj [(4,.lst (hs.map vi))] rfl ⟨rfl,trivial⟩ ?_,"w",hM (by rw[[U2],H,]) (aY ⟨rfl,trivial⟩ (.tup _) ?_),bJ (y:=λx=>vi (hm hs x)) J.2 [] (λx L acc P' Ng Qf=>?_) (by rw[[Wm,Wk],H,]) ?_,]
  ·rw[bG ⟨rfl,nM (λ_=>?_) λe=>nomatch e⟩,]
   rw[<-L VK (w.1 x L) o,"w",bz (ie (P.symm▸L)) (W L) ⟨⟨rfl,trivial⟩,Ng,Qf⟩,]
  rw[[Wg],cY bT (by rw[[U2],H,]) (ft (by rw[[U2],H,]) ?_),"w",];have ex:V.tup (.str J.1::J.2.map λx=>vi (hm hs x))=kT (dm (rq hs J)):=by rw[<-d4];show _=V.tup (.str J.1::(J.2.map (hm hs)).map vi);rw[VD];rfl
  have fin:∀f C (I:aq),f<ns.length->wX ns hs (d+1) C (if hm hs f=hm hs d then ws else ws++[(f,d)])->I ⟨72,0⟩=some (.one fA (.dT (rB C)))->I ⟨72,1⟩=some (.one wA (.list (ws.map pV)))->aA 72 73 σ I->
   (aN 11<|aa 4<|aa 11<|sq sub<|aa 4<|aa 9<|sq sub<|bO .NotEq<|sq bu<|sq (ite (aa 5<|a' 24<|aa 11<|aa 9<|bc 2<|ba 1<|sq pop<|ao) ao)<|ao) F (λs m σ=>s=[]/\ef (gb (BV F) (BW F)) Kf (kR (d+1) (rest.map aP)) m σ) [vi f] [(10,aP J),(9,vi d),(0,N),(1,E),(4,.lst (hs.map vi)),(8,.loc fA),(5,.loc wA)] I:=λf C I z U g0 g1 A=>by
   rw["w",bz (ie (P.symm▸z)) (W z) ?_,"w",bz (ie (P.symm▸o)) (W o) ?_,"w",en (λq=>?_) λq=>?_,]
   ·rw[U8 q] at U
    rw["w",aW g1 rfl (by rw[[U2],ax [.le af eo,.lt aj af,.le aC aj] (.le aC aE) (.l [1,1,1,1]) tt [_,_,_] M o R,]) λUn=>?_,"w",⟨rfl,ih (d+1) C _ _ _ v o U g0 (by rw[[Vd],Un,]) ⟨rfl,rfl,rfl,rfl,rfl,trivial⟩ λr σ' n p k1 k2 k3 k4=>G r σ' n p k1 k2 k3 ((A.set rfl).trans k4)⟩,]
   ·rw[Vb q] at U
    exact⟨rfl,ih (d+1) C ws _ I v o U g0 g1 ⟨rfl,rfl,rfl,rfl,rfl,trivial⟩ λr σ' n p k1 k2 k3 k4=>G r σ' n p k1 k2 k3 (A.trans k4)⟩
  rw[Gi ex Q rfl (by rw[2 rB,[U2],ax [.le af eo,.lt aj af,.le aC aj] (.le aC aE) (.l [1,1,1,1]) tt [_,_,_] M o S,]) (λY a=>?_) λa B=>?_,]
  ·rw[ic] at a
   rw[ah (WA.mp a) λf z Cs=>?_,3 Cs,fin f fl σ (VK (b.kn _ _ z).1 o) (b.some k z) Q D .refl,]
  ·rw[ic] at a
   rw[<-a Option.map_eq_none_iff.mp a,fin d (fl++[(rq hs J,d)]) _ o ?_ ?_ D (aA.refl.set rfl),]
   ·rw[[Vb rfl],b.none k a (wY a),]
   ·rw[BU]
    rw[dy (by rw[ic,a];rfl)] at B⊢;rw[B,]
end
end
noncomputable section
def OE(h1:¬a=i)(o:¬b=i):lk ((a,X)::(b,Y)::m) i=lk m i:=(cQ h1).trans (cQ o)
def tM:∀{ws:List (Nat×Nat)} {hs:List Nat},(ws.foldl kB hs).length=hs.length:=by
 intro ws
 induction ws with
 |nil=>exact rfl
 |cons p ws o=>exact o.trans eF
def tN:∀{ws:List (Nat×Nat)} {hs:List Nat},(ws.foldl kB hs).sum<=hs.sum:=by
 intro ws
 induction ws with
 |nil=>exact Va _
 |cons p ws o=>exact U3 o Kg
def pL:∀{ws:List (Nat×Nat)} {hs:List Nat},a<hs.length->b<hs.length->hm hs a=hm hs b->hm (ws.foldl kB hs) a=hm (ws.foldl kB hs) b:=by
 intro ws
 induction ws with
 |nil=>exactλ_ _ e=>e
 |cons p ws I=>exactλo C e=>I (eF.symm▸o) (eF.symm▸C) ((rp o C).mpr (.inl e))
def Fd:∀{ws:List (Nat×Nat)} {hs:List Nat},p.1<hs.length->p.2<hs.length->p∈ws->hm (ws.foldl kB hs) p.1=hm (ws.foldl kB hs) p.2:=by
 intro ws
 induction ws with
 |nil=>exactλ_ _ h=>nomatch h
 |cons q ws I=>
  intro hs o C h;rcases Vc.mp h with rfl|h
  ·rw[pL (ws:=ws) (hs:=kB hs p) (by rw[[eF],o,]) (by rw[[eF],C,]) ((rp o C).mpr (.inr ⟨.inl rfl,.inr rfl⟩)),]
  ·rw[I (by rw[[eF],o,]) (by rw[[eF],C,]) h,]
def BX(I:GoodR ns evs R):∀{ws:List (Nat×Nat)} {hs:List Nat},Ki n R hs->(∀p∈ws,p.1<n/\p.2<n/\R p.1 p.2)->Ki n R (ws.foldl kB hs):=by
 intro ws
 induction ws with
 |nil=>exactλh _=>h
 |cons p ws J=>
  intro hs h C;rw[dG (C p (VL ..)) λU a b=>J (h.mg I U a b) λp o=>C p (Wz _ o),]
inductive Le(ns:List Nd)(evs:List Ev)(x:Nat)(hs:List Nat)(ws:List (Nat×Nat)):Prop
 |mk (len:hs.length=ns.length) (lt:∀p∈ws,p.1<ns.length/\p.2<ns.length) (wl:ws.length<=1000) (snd:∀R,GoodR ns evs R->Ki ns.length R hs/\∀p∈ws,R p.1 p.2)
  (h:(ws=evs.map (λe=>(e.1,e.2.1))/\x=hs.sum+1)\/(x=hs.sum/\(∀p∈ws,hm hs p.1≠hm hs p.2)/\(∃fl,wX ns hs ns.length fl ws)/\∀e∈evs,hm hs e.1=hm hs e.2.1)):Le ns evs x hs ws
def Le.next(n:wF ns)(q:ns.length<=8)(r:∀e∈evs,e.1<ns.length/\e.2.1<ns.length)(h:Le ns evs x hs ws)(b:ws≠[])(I:wX ns (ws.foldl kB hs) ns.length fl d):
 (ws.foldl kB hs).sum<x/\Le ns evs (ws.foldl kB hs).sum (ws.foldl kB hs) d:=by
 induction h with|mk len lt B f h=>
 have i:∀e∈evs,hm (ws.foldl kB hs) e.1=hm (ws.foldl kB hs) e.2.1:=λe C=>by
  rw[aV (r e C) λU a=>?_,];rcases h with⟨rfl,_⟩|⟨_,_,_,h⟩
  ·rw[Fd (p:=(e.1,e.2.1)) (len.symm▸U) (len.symm▸a) (Vn.mpr ⟨e,C,rfl⟩),]
  ·rw[pL (len.symm▸U) (len.symm▸a) (h e C),]
 rw[⟨?_,tM.trans len,λp o=>⟨(I.wi p o).1,(I.wi p o).2.1⟩,by have:=I.wn;exact ax [.le af eo,.le aj af] (.le aj (.k 1000)) (.l [1,1,1]) tt [_,_] q this,λR j=>?_,.inr ⟨rfl,λp o=>(I.wi p o).2.2.1,⟨fl,I⟩,i⟩⟩,]
 ·rcases h with⟨_,h⟩|⟨h,t,_⟩
  ·have:=tN (ws:=ws) (hs:=hs);exact ax [.eq af (.p aj aF),.le aC aj] (.lt aC af) (.l [1,0,1,1]) tt [_,_,_] h this
  ·induction ws using List.casesOn with
   |nil=>exact U9 rfl b
   |cons p ws=>
    rw[aV (lt p (VL ..)) λU a=>?_,<-this Kh (len.symm▸U) (len.symm▸a) (t p (VL ..)),[h],VA (tN (ws:=ws)) this,]
 ·rw[aV (f R j) λu v=>?_,]
  rw[<-m BX j u (ws:=ws) λp o=>⟨(lt p o).1,(lt p o).2,v p o⟩,⟨m,λp o=>?_⟩,jU (I.wi p o) λ_ _ _ J=>cp J λx y w z A=>?_,0 J,Kj n j m w z A,]
def Km{ws:List (Nat×Nat)}:V.eA (ws.map pV)=true:=dY.mpr λx C=>by rw[ah (Vn.mp C) λp _ o=>?_,3 o,];rfl
section
variable{g:G0}{k:Nat}{exc:XQ}{σ:aq}{Q:V->aq->Prop}
def Fe(w:wF ns)(d:ns.length<=8)(hz:evs.length<=1000)(t:∀e∈evs,e.1<ns.length/\e.2.1<ns.length)(z:evs≠[])
 (hQ:∀hs σ',hs.length=ns.length->(∀R,GoodR ns evs R->∀a b,a<ns.length->b<ns.length->hm hs a=hm hs b->R a b)->GoodR ns evs (λa b=>hm hs a=hm hs b)->aA 72 74 σ σ'->Q (.lst (hs.map vi)) σ'):
 GC g (k+1) exc σ (.raw (.ref 597)) [.lst (ns.map aP),.lst (evs.map jd)] Q:=by
 rw[bp tn (by decide+kernel) rfl rfl ?_,2 lq,];have A:ns.length<=100000:=U3 d (by decide);rw["w",aX bT (U2 ..) A<|hO (Em (U3 d (by decide)) ?_),cj [] rfl trivial ?_,"w",aY trivial (.lst _)<|bJ (y:=λe=>pV (e.1,e.2.1)) evs [] (λe o acc P' B D=>?_) (by rw[[Wm,Wk],U3 hz (by decide),]) ?_,]
 ·rw[bG ?_,]
  rw["w",⟨rfl,nM (λ_=>?_) λe=>nomatch e⟩,"w",⟨trivial,B,D⟩,]
 rw[[Wg],"w",];have h0:Le ns evs ((List.range ns.length).sum+1) (List.range ns.length) (evs.map λe=>(e.1,e.2.1)):=by
  rw[⟨Xw,λp G=>?_,by rw[[U2],hz,],λR J=>⟨⟨Xw,λa b H U e=>?_⟩,λp G=>?_⟩,.inl ⟨rfl,rfl⟩⟩,]
  ·rw[ah (Vn.mp G) λe o L=>?_,3 L,t e o,]
  ·have e1:∀{a},a<ns.length->hm (List.range ns.length) a=a:=λh=>by unfold hm;rw[Vf,List.getElem?_range h];rfl
   rw[e1 H,e1 U] at e;rw[e▸J.rf a,]
  ·rw[ah (Vn.mp G) λe o M=>?_,3 M,J.ev e o,]
 refine qW (λx m σ'=>∃hs I X,m=[(0,.lst (ns.map aP)),(1,.lst (evs.map jd)),(4,.lst (hs.map vi)),(5,X)]/\Le ns evs x hs I/\Seq σ' X (I.map pV)/\aA 72 74 σ σ')
  (m0:=[(0,.lst (ns.map aP)),(1,.lst (evs.map jd)),(4,.lst ((List.range ns.length).map vi)),(5,.lst (evs.map λe=>pV (e.1,e.2.1)))]) ⟨rfl,rfl,rfl,rfl,trivial⟩
  ⟨_,_,_,rfl,h0,.inl (by rw[VD];rfl),.refl⟩ λx m σ' f=>?_
 rw[hide λR J=>?_,6 f,λi=>tX i λhs I X j f hX l=>?_,0 i,3 j,J ?_,0 J R,"w",iq (Bm (.seq hX Km) (.of rfl) (Yk.mpr (U3 (Nat.min_le_right ..) (by decide))) λb U=>?_),"w",nM (λq=>?_) λq=>?_,]
 ·have n:I≠[]:=λe=>by rw[e] at U;exact U.mp q rfl
  have P:=f
  induction P with|mk len lt wl r h=>
  rw["w",Kk hX λh' σ0 Kf S=>NS (N:=.lst (ns.map aP)) (E:=.lst (evs.map jd)) d I hs _ lt len ⟨rfl,rfl,rfl,trivial⟩ λm' C=>S m'<|qQ ⟨72,0⟩ λfA W=>cF ⟨72,1⟩ λu Y=>?_,ej ((OE (show¬8=0 by decide) (show¬5=0 by decide)).trans C.1)<|Jb ⟨73,0⟩ ⟨73,1⟩ λe it=>?_,⟨_,_,none,.enum (t0:=⟨73,0⟩) (t1:=⟨73,1⟩) rfl rfl rfl (by intro e;injection e with _ e;cases e),?_⟩,Kl (N:=.lst (ns.map aP)) (E:=.lst (evs.map jd)) (fA:=fA) (wA:=u) (hs:=I.foldl kB hs) d w (tM.trans len) ns 0 [] [] _ _ rfl (Vj _) .nil ?_ ?_ ?_ λm2 BA UY Uo v k2 k3 k4=>?_,]
  ·rw[W,]
  ·rw[Y,]
  ·exact⟨(OE (show¬8=0 by decide) (show¬5=0 by decide)).trans C.1,(OE (show¬8=1 by decide) (show¬5=1 by decide)).trans C.2.1,(OE (show¬8=4 by decide) (show¬5=4 by decide)).trans C.2.2.1,d9,(cQ (show¬8=5 by decide)).trans d9,trivial⟩
  ·rw[aV (f.next w d t n k2) λn1 n2=>⟨rfl,_,[(0,.lst (ns.map aP)),(1,.lst (evs.map jd)),(4,.lst ((I.foldl kB hs).map vi)),(5,.loc u)],n1,⟨v.1,v.2.1,v.2.2.1,v.2.2.2.2.1,trivial⟩,_,Uo,_,rfl,n2,.inr ⟨u,⟨72,1⟩,rfl,k3⟩,?_⟩,]
   exact(((((l.set rfl).set rfl).set rfl).set rfl).del rfl).del rfl|>.trans (k4.wide (by decide) (by decide))
 ·have Up:I=[]:=Wc λe=>by
   have:=U.mpr λe'=>by injection e' with e';rw[e (List.map_eq_nil_iff.mp e'),]
   rw[q] at this;rw[7 this,]
  subst Up
  induction f with|mk len lt wl r h=>
  rw["w",hQ hs σ' len (λR J a b H U e=>(r R J).1.snd a b H U e) ?_ l,];rcases h with⟨h,_⟩|⟨_,_,⟨fl,h⟩,h'⟩
  ·rw[U9 (List.map_eq_nil_iff.mp h.symm) z,]
  ·rw[Fc w len h λe o=>⟨(t e o).1,(t e o).2,h' e o⟩,]
end
end
noncomputable section
structure nU(ns:List Nd):Prop where
 wf:wF ns
 le:ns.length<=8
 op:∀nd∈ns,PyData.strOk nd.1=true
def NT(h:∀x∈l,x.D.depth<=n):PyData.depthAll (V.DL l)<=n:=by
 induction l with
 |nil=>exact Vj _
 |cons x l o=>exact Nat.max_le.mpr ⟨h x (VL ..),o λy C=>h y (Wz _ C)⟩
def Gd(n:Nat)(x:V):Prop:=x.d7=true/\x.D.depth<=n
def Gd.str(h:PyData.strOk s=true):Gd n (.str s):=⟨h,Vj _⟩
def Gd.tup(h:∀x∈l,Gd n x):Gd (n+1) (.tup l):=⟨dY.mpr λx o=>(h x o).1,VJ (NT λx o=>(h x o).2)⟩
def Gd.le(h:Gd n x)(o:n<=m):Gd m x:=⟨h.1,U3 h.2 o⟩
def wZ(C:nU ns):∀n,n<ns.length->Gd (n+1) (tm ns n):=by
 intro n
 induction n using Nat.strongRecOn with
 |_ n a=>
  intro I;rw[<-e U' I,[nP C.wf e],.tup λx J=>?_,];rcases Vc.mp J with rfl|J
  ·rw[.str (C.op _ (WH I)),]
  ·rw[ah (Vn.mp J) λc o U=>?_,3 U,]
   rw[<-o (C.wf n _ e).1 c o,(a c o (VK o I)).le o,]
structure Kn(ns:List Nd)(evs:List Ev)(ev:tI):Prop where
 lb:∀e∈evs,PyData.strOk e.2.2=true/\e.1<ns.length/\e.2.1<ns.length
 td:∀a b t,ev a b (.told t)->a<ns.length/\b<ns.length/\t≠""/\(∃e∈evs,e.2.2=t)/\∀e∈evs,e.2.2=t->tm ns e.1=tm ns a/\tm ns e.2.1=tm ns b
 rl:∀a b k,ev a b (.rule k)->a<ns.length/\b<ns.length/\k<ns.length/\(∃e∈evs,e.2.2=""/\tm ns e.2.1=tm ns k)/\∀e∈evs,e.2.2=""->tm ns e.2.1=tm ns k->tm ns e.1=tm ns a/\tm ns e.2.1=tm ns b
def BY{ns:List Nd}{evs:List Ev}{ev:tI}(j:nU ns)(C:Kn ns evs ev){d:Nat}{p x y:V}(h:PV ns ev d p x y):Gd (d+8) x/\Gd (d+8) y:=by
 have o:∀{d a:Nat},a<ns.length->Gd (d+1+8) (tm ns a):=λh=>(wZ j _ h).le (by have:=j.le;exact ax [.lt af aj,.le aj eo] (.le (.p af aF) (.p (.p aC aF) eo)) (.l [1,1,1]) tt [_,_,_] h this);have up:∀{d:Nat} {x:V},Gd (d+8) x->Gd (d+1+8) x:=λh=>h.le (Wx (VE _) 8);have k:∀{d:Nat} {U:Str} {l:List (V×V×V)} {f:V×V×V->V},PyData.strOk U=true->(∀t∈l,Gd (d+8) (f t))->Gd (d+1+8) (.tup (.str U::l.map f)):=λ{d U l f} J h=>.tup (n:=d+8) λx C=>(Vc.mp C).elim (λe=>e▸.str J) λC=>aw (Vn.mp C) λt q=>q.2▸h t q.1
 induction h with
 |told e=>exact dG (C.td _ _ _ e) λb i _=>⟨o b,o i⟩
 |rule e=>exact dG (C.rl _ _ _ e) λb i _=>⟨o b,o i⟩
 |same e=>exact⟨o e,o e⟩
 |turn _ I=>exact⟨up I.2,up I.1⟩
 |join _ _ m r=>exact⟨up m.1,up r.2⟩
 |under J _ _ I=>exact⟨k J λt o=>(I t o).1,k J λt o=>(I t o).2⟩
noncomputable def y5(ns:List Nd)(e:Ev):V:=if e.2.2="" then .tup [.str "rule",.str "r",.tup [.tup [.str "?x",tm ns e.2.1]]] else .tup [.str "told",.str e.2.2]
def vA{ns:List Nd}{evs:List Ev}{ev:tI}(I:nU ns)(o:Kn ns evs ev){e:Ev}(J:e∈evs):Gd 20 (y5 ns e):=by
 rw[dG (o.lb e J) λU a C=>?_,2 y5,<-C (wZ I _ C).le (m:=9) (by have:=I.le;exact ax [.lt af aj,.le aj eo] (.le (.p af aF) (.k 9)) (.l [1,1,1]) tt [_,_] C this),];have s:∀{x:Str} {n:Nat},PyData.strOk x=true->Gd n (.str x):=.str;split
 ·rw[.tup (n:=19) λx o=>?_,]
  simp only[Vc,WG,or_false] at o;rcases o with rfl|rfl|rfl
  ·rw[s (by decide+kernel),]
  ·rw[s (by decide+kernel),]
  ·rw[.tup (n:=18) λx o=>?_,]
   rw[[U5.mp o],.tup (n:=17) λx o=>?_,];simp only[Vc,WG,or_false] at o;rcases o with rfl|rfl
   ·rw[s (by decide+kernel),]
   ·rw[C.le (by decide),]
 ·rw[.tup (n:=19) λx o=>?_,]
  simp only[Vc,WG,or_false] at o;rcases o with rfl|rfl
  ·rw[s (by decide+kernel),]
  ·rw[s U,]
def Gd.gg(h:Gd n x):GG σ x x:=.of h.1
def Gd.bl{n:Nat}{x y:V}(h:Gd n x)(o:n<=200):Nat.ble (min x.D.depth y.D.depth) 200=true:=Yk.mpr (U3 (X3 ..) (U3 h.2 o))
end
noncomputable section
noncomputable def Ko:SC:=gd 3<|aN 4<|aN 5<|aN 6<|ao
noncomputable def Kp:SC:=aa 6<|au (.str "")<|bO .NotEq<|sq bu<|sq (ite (au (.str "told")<|aa 6<|bc 2<|ao) (au (.str "rule")<|au (.str "r")<|au (.str "?x")<|aM (.ref 592)<|aa 1<|aa 5<|aL 2<|bc 2<|bc 1<|bc 3<|ao))<|aN 7<|aa 0<|aa 7<|bO .Eq<|sq bu<|sq (ite (aM (.ref 592)<|aa 1<|aa 4<|aL 2<|aM (.ref 592)<|aa 1<|aa 5<|aL 2<|bc 2<|sq cU<|ao) ao)<|ao
def jR(o:nU ns)(h:n<ns.length)(C:Q (tm ns n) σ):GC g (k+8) exc σ (.raw (.ref 592)) [.lst (ns.map aP),vi n] Q:=by rw[aw (Rk k (U3 h o.le)) λj I=>?_,];rw[I,Nat.succ_eq_add_one,<-WZ];rw[Fb o.wf o.le n j exc σ Q h C,]
section
variable{F:Fr}{σ:aq}{ns:List Nd}{evs:List Ev}{ev:tI}
def NU(U:F.k=k+8)(J:nU ns)(f:Kn ns evs ev)(t:p.d7=true)(u:F.ret (.tup [x,y]) σ):
 ∀(rest:List Ev) (m:GM),(∀e∈rest,e∈evs)->(∃e∈rest,y5 ns e=p)->(∀e∈rest,y5 ns e=p->tm ns e.1=x/\tm ns e.2.1=y)->bj [(0,p),(1,.lst (ns.map aP)),(2,E)] m->
  ef (gb (Ko F) (Kp F)) v (rest.map jd) m σ:=by
 intro rest
 induction rest with
 |nil=>exactλm _ h _ _=>U9 h λ⟨_,h,_⟩=>nomatch h
 |cons e rest w=>
  intro m o I C a;rw[<-i o e (VL ..),dG (f.lb e i) λG z j=>?_,[VI],bP [(0,p),(1,.lst (ns.map aP)),(2,E)] a (bX ?_),2 Ko Kp,"w",⟨rfl,?_⟩,"w",];have fin:(aN 7<|aa 0<|aa 7<|bO .Eq<|sq bu<|sq (ite (aM (.ref 592)<|aa 1<|aa 4<|aL 2<|aM (.ref 592)<|aa 1<|aa 5<|aL 2<|bc 2<|sq cU<|ao) ao)<|ao) F (λs m σ=>s=[]/\ef (gb (Ko F) (Kp F)) v (rest.map jd) m σ) [y5 ns e] [(6,.str e.2.2),(5,vi e.2.1),(4,vi e.1),(0,p),(1,.lst (ns.map aP)),(2,E)] σ:=by
   rw[<-l vA J f i,"w",tq (.of t) l.gg (by rw[[Nat.min_comm],l.bl (by decide),]) λb n=>?_,"w",w_ite (λq=>?_) λq=>?_,]
   ·rw[aV (C e (VL ..) (n.mp q).symm) λA B=>?_,]
    rw["w",5 (GC F.g F.k F.exc σ ..),[U],jR J z ?_,"w",5 (GC F.g F.k F.exc σ ..),[U],jR J j ?_,[A,B],u,]
   ·rw[⟨rfl,w _ (λe h=>o e (Wz _ h)) ?_ (λe h=>C e (Wz _ h)) ⟨rfl,rfl,rfl,trivial⟩⟩,]
    rw[ah I λD d r=>?_,0 I,];rcases Vc.mp d with rfl|d
    ·rw[U9 (n.mpr r.symm) (by rw[[q],Vu,]),]
    ·exact⟨D,d,r⟩
  unfold y5 at fin;rw[en (λq=>?_) λq=>?_,]
  ·rw[U8 q] at fin
   rw[fin,]
  ·rw[Vb q] at fin
   rw["w",5 (GC F.g F.k F.exc σ ..),[U],jR J j<|fin,]
end
section
variable{g:G0}{k:Nat}{exc:XQ}{σ:aq}{Q:V->aq->Prop}{ns:List Nd}{evs:List Ev}{ev:tI}
noncomputable def yR:SC:=aa 3<|au (.str "turn")<|bO .Eq<|sq bu<|sq (ite (aa 8<|au (vi 0)<|sq sub<|au (vi 1)<|sq sub<|aa 8<|au (vi 0)<|sq sub<|au (vi 0)<|sq sub<|bc 2<|sq cU<|ao) ao)<|aa 3<|au (.str "join")<|bO .Eq<|sq bu<|sq (ite (aa 8<|au (vi 0)<|sq sub<|au (vi 1)<|sq sub<|aa 8<|au (vi 1)<|sq sub<|au (vi 0)<|sq sub<|bO .Eq<|sq bu<|sq (ite (aa 8<|au (vi 0)<|sq sub<|au (vi 0)<|sq sub<|aa 8<|au (vi 1)<|sq sub<|au (vi 1)<|sq sub<|bc 2<|ao) (au .none<|ao))<|sq cU<|ao) ao)<|aa 0<|au (vi 1)<|sq sub<|bc 1<|aM (.type "tuple")<|sq (comp false [] (aa 8<|ao) (aN 9<|ao) (au (.bool true)<|ao) (aa 9<|au (vi 0)<|sq sub<|ao))<|aL 1<|dk .Add<|aa 0<|au (vi 1)<|sq sub<|bc 1<|aM (.type "tuple")<|sq (comp false [] (aa 8<|ao) (aN 9<|ao) (au (.bool true)<|ao) (aa 9<|au (vi 1)<|sq sub<|ao))<|aL 1<|dk .Add<|bc 2<|sq cU<|ao
noncomputable def NV(l:List (V×V×V)):List V:=l.map λt=>.tup [t.2.1,t.2.2]
noncomputable def Kq:SC:=aN 8<|au .none<|aa 8<|bO .In<|sq bu<|sq (ite (au .none<|sq cU<|ao) ao)<|yR
section
variable{F:Fr}{N E:V}{s:Str}{r:List V}{l:List (V×V×V)}{m1:GM}{x y:V}
def BZ(I:F.k=k+8)(J:nU ns)(U:Kn ns evs ev)(hs:s≠"same")(hi:V.str s∈[V.str "told",.str "rule"])(a:PyData.strOk s=true)(d:(V.tup (.str s::r)).d7=true)(C:∃e∈evs,y5 ns e=.tup (.str s::r))
 (o:∀e∈evs,y5 ns e=.tup (.str s::r)->tm ns e.1=x/\tm ns e.2.1=y) (f:F.ret (.tup [x,y]) σ):dM F (λ_ _ σ=>F.ret .none σ) [] [(0,.tup (.str s::r)),(1,.lst (ns.map aP)),(2,.lst (evs.map jd))] σ:=by
 rw[2 dM,cb ?_,"w",aQ (λe=>U9 e hs) λ_=>?_,"w",wu (X:=.str s) (.of a) (by decide+kernel) rfl λb i=>w_ite (λ_=>?_) λe=>U9 (i.mpr hi) (by rw[[e],Vu,]),hV (NU (F:=F.lst none (evs.map jd)) (k:=k) I J U d f evs _ (λ_ h=>h) C o ⟨rfl,rfl,rfl,trivial⟩),]
def B0(d:l.length<=2)(f:∀t∈l,t.2.1.d7=true/\t.2.2.d7=true)(I:∀t∈l,∀P:V->aq->Prop,P (.tup [t.2.1,t.2.2]) σ->GC F.g F.k iI σ (.raw (.ref 602)) [t.1,N,E] P)(hm:bj [(2,E),(1,N)] m1)
 (i:yR F (λ_ _ σ=>F.ret .none σ) [] ((8,.lst (NV l))::m1) σ):∃C σ0 h,bj [(2,E),(1,N)] m1/\i9 false σ (.tup (l.map (·.1))) C σ0 h/\
  fo (iJ ((aN 9<|ao:SC) F.quiet) ((au (.bool true)<|ao:SC) F.quiet) ((aM (.ref 602)<|aa 9<|aa 1<|aa 2<|aL 3<|ao:SC) F.quiet) [(2,E),(1,N)])
   (λo σ=>Kq F (λ_ _ σ=>F.ret .none σ) [.lst o] m1 (Ij h C σ)) C [] σ0:=by
 refine aY (P:=λC σ0 h=>fo (iJ ((aN 9<|ao:SC) F.quiet) ((au (.bool true)<|ao:SC) F.quiet) ((aM (.ref 602)<|aa 9<|aa 1<|aa 2<|aL 3<|ao:SC) F.quiet) [(2,E),(1,N)])
  (λo σ=>Kq F (λ_ _ σ=>F.ret .none σ) [.lst o] m1 (Ij h C σ)) C [] σ0) hm (.tup _) ?_
 rw[bJ (y:=λt:V×V×V=>.tup [t.2.1,t.2.2]) l [] (λt j o n U a=>?_) (by rw[[Wm],ax [.le af gI] (.le (.p gp af) aE) (.l [1,1]) tt [_] d,]) ?_,]
 ·rw[bG ⟨rfl,nM (λ_=>?_) λe=>nomatch e⟩,]
  rw["w",I t j _ ⟨⟨rfl,rfl,trivial⟩,U,a⟩,]
 rw[[Wg],2 Kq,wq (X:=.none) (.of rfl) bT (dY.mpr λz J=>aw (Vn.mp J) λt q=>?_) rfl λb m=>?_,]
 ·rw[<-q.2]
  have:=f t q.1;exact dY.mpr λz J=>(Vc.mp J).elim (λe=>e▸this.1) λJ=>U5.mp J▸this.2
 ·rw[w_ite (λe=>aw (Vn.mp (m.mp e)) λt q=>nomatch q.2) λ_=>i,]
def B1(hs:s≠"same")(h1:s≠"told")(d:s≠"rule")(f:PyData.strOk s=true)(I:(s="under"/\∃o,r=[o,.tup (l.map (·.1))])\/(s≠"under"/\r=l.map (·.1)))
 (J:l.length<=2) (U:∀t∈l,t.2.1.d7=true/\t.2.2.d7=true) (C:∀t∈l,∀P:V->aq->Prop,P (.tup [t.2.1,t.2.2]) σ->GC F.g F.k iI σ (.raw (.ref 602)) [t.1,N,E] P)
 (a:yR F (λ_ _ σ=>F.ret .none σ) [] [(8,.lst (NV l)),(3,.str s),(0,.tup (.str s::r)),(1,N),(2,E)] σ):dM F (λ_ _ σ=>F.ret .none σ) [] [(0,.tup (.str s::r)),(1,N),(2,E)] σ:=by
 rw[2 dM,cb ?_,"w",aQ (λe=>U9 e hs) λ_=>?_,"w",wu (X:=.str s) (.of f) (by decide+kernel) rfl λb h=>w_ite (λe=>(Vc.mp (h.mp e)).elim (λe=>by injection e with e;rw[U9 e h1,]) λe=>by injection U5.mp e with e;rw[U9 e d,]) λ_=>?_,cj [(2,E),(1,N)] rfl ⟨rfl,rfl,trivial⟩ ?_,"w",];rcases I with⟨rfl,o,rfl⟩|⟨i,rfl⟩
 ·rw[aQ (λ_=>?_) λe=>U9 rfl e,]
  rw["w",B0 J U C ⟨rfl,rfl,trivial⟩ a,]
 ·rw[aQ (λe=>U9 e i) λ_=>hM (by rw[[U2],kl J,]) (B0 J U C ⟨rfl,rfl,trivial⟩ a),]
end
def nV{t:Str}(o:t≠""){e:Ev}:y5 ns e=.tup [.str "told",.str t]↔e.2.2=t:=by
 unfold y5;split
 ·rw[4 q,[q],⟨λh=>by injection h with h;injection h with h;injection h with h;rw[U9 h (by decide),],λh=>U9 h.symm o⟩,]
 ·exact⟨λh=>by injection h with h;injection h with _ h;injection h with h;rw[7 h,],λh=>by rw[h]⟩
def jS:y5 ns e=.tup [.str "rule",.str "r",.tup [.tup [.str "?x",z]]]↔e.2.2=""/\tm ns e.2.1=z:=by
 unfold y5;split
 ·rw[4 q,]
  exact⟨λh=>⟨q,by injection h with h;injection h with _ h;injection h with _ h;injection h with h;injection h with h;injection h with h;injection h with h;injection h with _ h;rw[7 h,]⟩,λh=>by rw[h.2]⟩
 ·rw[4 q,]
  exact⟨λh=>by injection h with h;injection h with h;injection h with h;rw[U9 h (by decide),],λh=>U9 h.1 q⟩
def Ff(m:nU ns)(I:Kn ns evs ev)(S:PV ns ev d p x y):∀(k:Nat) (exc:XQ) (σ:aq) (Q:V->aq->Prop),d<=100->Q (.tup [x,y]) σ->GC g (k+d+9) exc σ (.raw (.ref 602)) [p,.lst (ns.map aP),.lst (evs.map jd)] Q:=by
 have J:∀{d:Nat},d+1<=100->d<=100:=λh=>V9 h;have D:∀{d p x y},PV ns ev d p x y->x.d7=true/\y.d7=true:=λh=>⟨(BY m I h).1.1,(BY m I h).2.1⟩
 induction S with
 |@told d a b t e=>
  intro k exc σ Q o C;rw[bp dN (by decide+kernel) rfl rfl (y9 (I.td _ _ _ e) λ_ _ E u G=>aw u λH q=>?_),];exact BZ (k:=k+(d+1)) rfl m I (by decide) (.head _) (by decide+kernel) ((nV E).mpr q.2▸(vA m I q.1).1) ⟨H,q.1,(nV E).mpr q.2⟩ (λe L o=>G e L ((nV E).mp o)) C
 |@rule d a b c e=>
  intro k exc σ Q o C;rw[bp dN (by decide+kernel) rfl rfl (y9 (I.rl _ _ _ e) λ_ _ E u G=>aw u λH q=>?_),];exact BZ (k:=k+(d+1)) rfl m I (by decide) (.tail _ (.head _)) (by decide+kernel) (jS.mpr q.2▸(vA m I q.1).1) ⟨H,q.1,jS.mpr q.2⟩ (λe L o=>G e L (jS.mp o).1 (jS.mp o).2) C
 |same e=>
  intro k exc σ Q o C;rw[bp dN (by decide+kernel) rfl rfl ?_,2 dM,"w",aQ (λ_=>?_) λe=>U9 rfl e,"w",];exact C
 |@turn d q x y h M=>
  intro k exc σ Q o C;refine bp dN (by decide+kernel) rfl rfl (B1 (s:="turn") (l:=[(q,y,x)]) (by decide) (by decide) (by decide) (by decide+kernel) (.inr ⟨by decide,rfl⟩) (U1 rfl) (λt U=>U5.mp U▸D h)
   (λt U P i=>by rw[U5.mp U] at i⊢;rw[M k iI σ P (J o) i,]) ?_)
  rw[2 yR,"w",aQ (λ_=>?_) λe=>U9 rfl e,"w",bz (n:=0) rfl (by decide) (fq ?_),"w",];exact bz (n:=0) rfl (by decide) (cb C)
 |@join d q r x y z A R W X=>
  intro k exc σ Q o C;refine bp dN (by decide+kernel) rfl rfl (B1 (s:="join") (l:=[(q,x,z),(r,z,y)]) (by decide) (by decide) (by decide) (by decide+kernel) (.inr ⟨by decide,rfl⟩) (U1 rfl) (VF.mpr ⟨D A,List.forall_mem_singleton.mpr (D R)⟩)
   (VF.mpr ⟨λP i=>W k iI σ P (J o) i,List.forall_mem_singleton.mpr λP i=>X k iI σ P (J o) i⟩) ?_)
  rw[<-j (BY m I R).1,2 yR,"w",aQ (λe=>U9 e (by decide)) λ_=>?_,"w",aQ (λ_=>?_) λe=>U9 rfl e,"w",bz (n:=0) rfl (by decide) (fq ?_),"w",bz (n:=1) rfl (by decide) (cb ?_),tq j.gg j.gg (j.bl (kn o)) λb Y=>w_ite (λ_=>?_) λe=>U9 (Y.mpr rfl) (by rw[[e],Vu,]),"w",bz (n:=0) rfl (by decide) (cb ?_),"w",];exact bz (n:=1) rfl (by decide) (fq C)
 |@under d op l h0 A h M=>
  intro k exc σ Q o C;rw[bp dN (by decide+kernel) rfl rfl (B1 (s:="under") (l:=l) (by decide) (by decide) (by decide) (by decide+kernel) (.inl ⟨rfl,_,rfl⟩) A (λt U=>D (h t U)) (λt U P i=>M t U k iI σ P (J o) i) ?_),];have j:∀{f:V×V×V->V},(List.map f l).length<=100000:=λ{f}=>by rw[[U2],U3 A (by decide),]
  have B:([]:List V).length+l.length<=100000:=by rw[[Wm,Wk],U3 A (by decide),]
  rw[2 yR,"w",aQ (λe=>U9 e (by decide)) λ_=>?_,"w",aQ (λe=>U9 e (by decide)) λ_=>?_,"w",cj [] rfl trivial<|aY trivial (.lst _) (bJ (y:=λt:V×V×V=>t.2.1) l [] (λt U N P' v w=>?_) B ?_),]
  ·rw[bG ⟨rfl,nM (λ_=>?_) λe=>nomatch e⟩,]
   rw["w",⟨trivial,v,w⟩,]
  rw[cY bT j (ft j ?_),"w",cj [] rfl trivial<|aY trivial (.lst _) (bJ (y:=λt:V×V×V=>t.2.2) l [] (λt U N P' v w=>?_) B ?_),]
  ·rw[bG ⟨rfl,nM (λ_=>?_) λe=>nomatch e⟩,]
   rw["w",⟨trivial,v,w⟩,]
  rw[cY bT j (ft j C),]
end
end
noncomputable section
def nW(w:jM h)(a:Nat):ay (mr h) (ay (mr h) a)=ay (mr h) a:=(dR (ew w) a).1
def B2(w:jM h)(o:a<nn h):ay (mr h) a<nn h:=VA (dR (ew w) a).2 o
def ig(x:Nat):ay (mr (.ed a b r::h)) x=if ay (mr h) a=ay (mr h) b then ay (mr h) x else if ay (mr h) x=hi h a b then lo h a b else ay (mr h) x:=by
 rw[5 (ay (qY (mr h) a b) x=_),2 qY,];split
 ·rfl
 ·rfl
def eM(e:ay (mr h) x=ay (mr h) y):ay (mr (.ed a b r::h)) x=ay (mr (.ed a b r::h)) y:=by rw[ig,ig,e]
def iw:ay (mr (.ed a b r::h)) a=ay (mr (.ed a b r::h)) b:=by
 rw[ig,ig];by_cases q:ay (mr h) a=ay (mr h) b
 ·rw[Vb q,Vb q,q]
 ·rw[U8 q,U8 q]
  rcases X6 q with l|l
  ·rw[show hi h a b=ay (mr h) b from WU (VP l),show lo h a b=ay (mr h) a from Wl (VP l),U8 q,Vb rfl]
  ·rw[show hi h a b=ay (mr h) a from W5 (VP l),show lo h a b=ay (mr h) b from W7 (VP l),Vb rfl,U8 λe=>q e.symm]
def vB(w:jM h)(x:Nat):ay (mr (.ed a b r::h)) (ay (mr h) x)=ay (mr (.ed a b r::h)) x:=eM (nW w x)
def Kr:∀{h:HI},∀c,∀x∈ab h c,x<nn h:=by
 intro h
 induction h with
 |nil=>intro c x o;cases o
 |cons y h C=>
  intro c x o
  induction y with
  |kn _ _=>exact C c x o
  |mk I=>
   rw[dB];have e:ab (.mk I::h) c=if c=nn h then[] else if c∈I.2.map (ay (mr h)) then ab h c++[nn h] else ab h c:=rfl;rw[e] at o;split at o
   ·cases o
   ·split at o
    ·rcases Vk.mp o with o|o
     ·rw[Vi (C c x o),]
     ·rw[[U5.mp o],Vs _,]
    ·exact Vi (C c x o)
  |ed a b r=>
   have e:ab (.ed a b r::h) c=if ay (mr h) a=ay (mr h) b then ab h c else if c=lo h a b then ab h (lo h a b)++ab h (hi h a b) else ab h c:=rfl;rw[e] at o;split at o
   ·rw[C c x o,]
   ·split at o
    ·rcases Vk.mp o with o|o
     ·rw[C _ x o,]
     ·rw[C _ x o,]
    ·rw[C c x o,]
noncomputable def OF(evs:List Ev)(h:HI)(a b:Nat):yC->Prop
 |.told t=>t≠""/\(a,b,t)∈evs
 |.rule k=>k=b/\(a,b,("":Str))∈evs
 |.d5=>(eK h a).1=(eK h b).1/\(eK h a).2.map (ay (mr h))=(eK h b).2.map (ay (mr h))
noncomputable def Cv(evs:List Ev):HI->Prop
 |[]=>True
 |.mk _::h=>Cv evs h
 |.kn _ _::h=>Cv evs h
 |.ed a b r::h=>a<nn h/\b<nn h/\OF evs h a b r/\Cv evs h
def Cv.mono(hs:∀e∈evs,e∈o):∀{h:HI},Cv evs h->Cv o h:=by
 intro h
 induction h with
 |nil=>exact id
 |cons c h C=>
  induction c with
  |mk _=>exact C
  |kn _ _=>exact C
  |ed a b r=>
   intro q;rw[⟨q.1,q.2.1,?_,C q.2.2.2⟩,<-q q.2.2.1,]
   induction r with
   |told t=>exact⟨q.1,hs _ q.2⟩
   |rule k=>exact⟨q.1,hs _ q.2⟩
   |d5=>exact q
structure fK(h:HI)(w:List Nat)(evs:List Ev)(D:Nat):Prop where
 wf:jM h
 op:∀nd∈aI h,PyData.strOk nd.1=true
 eg:Cv evs h
 ev:∀e∈evs,e.1<nn h/\e.2.1<nn h/\ay (mr h) e.1=ay (mr h) e.2.1
 ab:∀n,n<nn h->∀c∈(eK h n).2,c<nn h/\n∈ab h (ay (mr h) c)
 ke:∀p∈iC h,p.2<nn h/\(eK h p.2).1=p.1.1/\(eK h p.2).2.map (ay (mr h))=p.1.2.map (ay (mr h))
 kn:∀n,n<nn h->n∈w\/∃o,cH (iC h) (gA h n)=some o/\ay (mr h) o=ay (mr h) n
 wl:∀n∈w,n<nn h
 sz:h.length+w.length<=D+1025*(mr h).length
def fK.mm(q:fK h w evs D):(mr h).length<=8:=by have o:=Ve List.length (lz q.wf).1;rw[U2,jN q.wf] at o;rw[<-o];rw[nT q.wf,]
def Fg(h:cH l x=some o):(x,o)∈l:=tG h
def fK.ed(q:fK h Q evs D)(t:a<nn h)(u:b<nn h)(i:∀e∈evs,e∈J)(v:∀e∈J,e∈evs\/(e.1=a/\e.2.1=b))(H:OF J h a b r)(E:∀n∈w,n<nn h)
 (G:∀n,n<nn h->n∈w\/∃o,cH (iC h) (gA h n)=some o/\(ay (mr h) o=ay (mr h) n\/(o=a/\n=b))) (hs:h.length+1+w.length<=L+1025*(mr h).length):fK (.ed a b r::h) (jw h a b w) J L:=by
 have U:(jw h a b w).length<=w.length+(if ay (mr h) a=ay (mr h) b then 0 else 1024):=by
  unfold jw;split
  ·rw[Va _,]
  ·rw[[U7],WC (dC q.wf _) _,]
 have y:(mr (.ed a b r::h)).length=(mr h).length+if ay (mr h) a=ay (mr h) b then 0 else 1:=by
  show(qY (mr h) a b).length=_;unfold qY;split
  ·rfl
  ·rfl
 rw[⟨⟨t,u,q.wf⟩,q.op,⟨t,u,H,q.eg.mono i⟩,λe z=>?_,λn I c j=>?_,λp M=>?_,λn I=>?_,λn I=>?_,?_⟩,]
 ·rcases v e z with z|⟨N,d⟩
  ·rw[dG (q.ev e z) λf C A=>⟨f,C,eM A⟩,]
  ·rw[[N,d],⟨t,u,iw⟩,]
 ·rw[aV (q.ab n I c j) λf C=>⟨f,?_⟩,]
  rw[ig];show _∈(if ay (mr h) a=ay (mr h) b then Mine.ab h _ else if _=lo h a b then Mine.ab h (lo h a b)++Mine.ab h (hi h a b) else Mine.ab h _);by_cases e:ay (mr h) a=ay (mr h) b
  ·rw[[Vb e,Vb e],C,]
  ·rw[U8 e,U8 e]
   by_cases d:ay (mr h) c=hi h a b
   ·rw[Vb d,Vb rfl,<-d];rw[Vm _ C,]
   ·rw[U8 d]
    split
    ·rw[4 P,];rw[<-P];rw[Vv _ C,]
    ·rw[C,]
 ·rw[dG (q.ke p M) λf C A=>⟨f,C,?_⟩,]
  have key:∀l:List Nat,l.map (ay (mr (.ed a b r::h)))=(l.map (ay (mr h))).map (ay (mr (.ed a b r::h))):=λl=>by rw[[VD],Vy λx _=>(vB q.wf x).symm,]
  show(eK h p.2).2.map _=_;rw[key,A,<-key]
 ·unfold jw
  by_cases e:ay (mr h) a=ay (mr h) b
  ·rw[Vb e]
   rw[(G n I).imp id λ⟨o,f,C⟩=>⟨o,?_,?_⟩,]
   ·show cH (iC h) ((eK h n).1,(eK h n).2.map (ay (qY (mr h) a b)))=_
    rw[2 qY,[Vb e],f,]
   ·rcases C with C|⟨rfl,rfl⟩
    ·rw[eM C,]
    ·rw[iw,]
  ·rw[U8 e]
   by_cases B:∃c∈(eK h n).2,ay (mr h) c=hi h a b
   ·rw[ah B λc j d=>?_,0 B,]
    rw[.inl (Vm _ (d▸(q.ab n I c j).2)),]
   ·rw[(G n I).imp (Vv _) λ⟨o,f,C⟩=>⟨o,?_,?_⟩,]
    ·have:gA (.ed a b r::h) n=gA h n:=by
      show((eK h n).1,(eK h n).2.map (ay (mr (.ed a b r::h))))=((eK h n).1,(eK h n).2.map (ay (mr h)));congr 1;rw[Vy λc j=>?_,[ig,U8 e,U8 λd=>B ⟨c,j,d⟩],]
     rw[[this],f,]
    ·rcases C with C|⟨rfl,rfl⟩
     ·rw[eM C,]
     ·rw[iw,]
 ·unfold jw at I
  split at I
  ·rw[E n I,]
  ·rcases Vk.mp I with I|I
   ·rw[E n I,]
   ·rw[Kr (h:=h) _ n I,]
 ·rw[y,WB]
  split at U
  ·rw[4 e,[Vb e],ax [.le (.p (.p af aF) aj) (.p aC (.m 1025 bH)),.le iV (.p aj gp)] (.le (.p (.p af aF) iV) (.p aC (.m 1025 (.p bH gp)))) (.l [1,1,1]) tt [_,_,_,_,_] hs U,]
  ·rw[4 e,[U8 e],ax [.le (.p (.p af aF) aj) (.p aC (.m 1025 bH)),.le iV (.p aj (.k 1024))] (.le (.p (.p af aF) iV) (.p aC (.m 1025 (.p bH aF)))) (.l [1,1,1]) tt [_,_,_,_,_] hs U,]
def fK.look(q:fK h (w++[n]) evs D):fK (wL h n) (Gl h n w) evs D/\aI (wL h n)=aI h/\(∃i,wL h n=i++h)/\(8-(mr (wL h n)).length)*1025+(Gl h n w).length<(8-(mr h).length)*1025+(w++[n]).length:=by
 have f:n<nn h:=q.wl n (Vm _ (Vr _));have j:∀m∈w,m<nn h:=λm hm=>q.wl m (Vv _ hm);have a:=q.sz;rw[U7] at a⊢;have C:([n]:List Nat).length=1:=rfl;rw[C] at a⊢;have I:∀m,m<nn h->m∈w\/m=n\/∃o,cH (iC h) (gA h m)=some o/\ay (mr h) o=ay (mr h) m:=λm hm=>by
  rcases q.kn m hm with h|h
  ·rcases Vk.mp h with h|h
   ·rw[.inl h,]
   ·rw[.inr (.inl (U5.mp h)),]
  ·rw[.inr (.inr h),]
 unfold wL Gl;cases U:cH (iC h) (gA h n) with
 |none=>
  rw[⟨⟨⟨λp J=>pJ U p J,f,q.wf⟩,q.op,q.eg,q.ev,q.ab,λp J=>?_,λm hm=>?_,j,?_⟩,rfl,⟨[_],rfl⟩,?_⟩,]
  ·rcases Vk.mp J with J|J
   ·rw[q.ke p J,]
   ·rw[U5.mp J]
    rw[⟨f,rfl,?_⟩,5 (_=((eK h n).2.map (ay (mr h))).map (ay (mr h))),[VD],Vy λx _=>(nW q.wf x).symm,]
  ·have t:=wY (d:=n) U
   show m∈w\/∃o,cH (iC h++[(gA h n,n)]) (gA h m)=some o/\_;rw[t];rcases I m hm with h|rfl|⟨o,C,u⟩
   ·rw[.inl h,]
   ·rw[.inr ⟨m,Vb rfl,rfl⟩,]
   ·rw[.inr ⟨o,by rw[U8 λe=>by rw[e,U] at C;rw[7 C,]];rw[C,],u⟩,]
  ·rw[5 (h.length+1+w.length<=D+1025*(mr h).length),ax [.le (.p af (.p aj aF)) (.p aC (.m 1025 bH))] (.le (.p (.p af aF) aj) (.p aC (.m 1025 bH))) (.l [1,1]) tt [_,_,_,_] a,]
  ·show(8-(mr h).length)*1025+w.length<_;exact ax [] (.lt (.p (.r af 1025) aj) (.p (.r af 1025) (.p aj aF))) (.l [1]) tt [_,_]
 |some o=>
  by_cases e:ay (mr h) o=ay (mr h) n
  ·have B:jw h o n w=w:=Vb e
   dsimp only;rw[[Vb e,B],⟨⟨q.wf,q.op,q.eg,q.ev,q.ab,q.ke,λm hm=>?_,j,by rw[ax [.le (.p af (.p aj aF)) (.p aC (.m 1025 bH))] (.le (.p af aj) (.p aC (.m 1025 bH))) (.l [1,1]) tt [_,_,_,_] a,]⟩,rfl,⟨[],rfl⟩,by rw[ax [] (.lt (.p (.r af 1025) aj) (.p (.r af 1025) (.p aj aF))) (.l [1]) tt [_,_],]⟩,];rcases I m hm with h|rfl|h
   ·rw[.inl h,]
   ·rw[.inr ⟨o,U,e⟩,]
   ·rw[.inr h,]
  ·dsimp only
   rw[[U8 e],dG (q.ke _ (Fg U)) λz k2 E=>⟨q.ed z f (λ_ h=>h) (λ_ h=>.inl h) ⟨k2,?_⟩ j (λm hm=>?_) (ax [.le (.p af (.p aj aF)) (.p aC (.m 1025 bH))] (.le (.p (.p af aF) aj) (.p aC (.m 1025 bH))) (.l [1,1]) tt [_,_,_,_] a),rfl,⟨[_],rfl⟩,?_⟩,]
   ·show(eK h o).2.map _=_
    rw[[E],5 (((eK h n).2.map (ay (mr h))).map (ay (mr h))=_),[VD],Vy λx _=>nW q.wf x,]
   ·rcases I m hm with h|rfl|⟨G,C,u⟩
    ·rw[.inl h,]
    ·rw[.inr ⟨o,U,.inr ⟨rfl,rfl⟩⟩,]
    ·rw[.inr ⟨G,C,.inl u⟩,]
   ·have b:(jw h o n w).length<=w.length+1024:=by
     rw[2 jw,[U8 e,U7],WC (dC q.wf _) _,]
    have v:(mr (.ed o n .d5::h)).length=(mr h).length+1:=by rw[5 ((qY (mr h) o n).length=_),2 qY,[U8 e],];rfl
    have A:(mr (.ed o n .d5::h)).length<=8:=by have y:jM (.ed o n .d5::h):=⟨z,f,q.wf⟩;have C:=Ve List.length (lz y).1;rw[U2,jN y] at C;rw[<-C];rw[nT y,]
    rw[v] at A⊢;rw[ax [.le af (.p aj (.k 1024)),.le (.p aC aF) eo,.sub bH eo (.p aC aF),.sub iV eo aC] (.lt (.p (.r bH 1025) af) (.p (.r iV 1025) (.p aj aF))) (.s 3 (.l [0,1025,1,1,1025,0,0,1025]) (.l [0,1025,1,1,0,0,0,1025])) tt [_,_,_,_,_] b A rfl rfl,]
def fK.settle(b:D<=30000):∀(N:Nat) {h:HI} {w:List Nat},fK h w evs D->(8-(mr h).length)*1025+w.length<N->∃x h',yE x h w h'/\fK h' [] evs D/\aI h'=aI h/\∃o,h'=o++h:=by
 intro N
 induction N with
 |zero=>exactλ_ h=>U9 h (VT _)
 |succ N e=>
  intro h w q f;by_cases d:w=[]
  ·subst d
   exact⟨0,h,.done,q,rfl,[],rfl⟩
  ·rw[dh (jK d) λz n U=>?_,3 U,]
   rw[jU q.look λi j C A=>aw C λo r=>?_,0 C,iz (e i (Vg (by assumption) (Wh f))) λx h' t u v I=>aw I λJ y=>?_,0 I,<-a q.sz,<-hm q.mm,];rw[U7] at a;exact⟨x+1,h',.step (q.wl n (Vm _ (Vr _))) (ax [.le af (.k 30000),.le (.p aj (.p aC bH)) (.p af (.m 1025 iV)),.le iV eo] (.lt aj bQ) (.l [1,1,1,1025]) tt [_,_,_,_,_] b a hm) (ax [.le af (.k 30000),.le (.p aj (.p aC bH)) (.p af (.m 1025 iV)),.le iV eo] (.le (.p aC (.k 1024)) bQ) (.l [1,1,1,1025]) tt [_,_,_,_,_] b a hm) t,u,v.trans j,J++o,by rw[y,r,Vo]⟩
def fK.Uq(q:fK h w evs D)(h1:nd∉aI h)(i:nd.2.length<=2)(d:∀c∈nd.2,c<nn h)(j:nn h<8)(k:PyData.strOk nd.1=true):fK (.mk nd::h) (w++[nn h]) evs (D+2):=by
 have a:∀m,m<nn h->eK (.mk nd::h) m=eK h m:=λm hm=>by show(aI h++[nd]).getD m _=(aI h).getD m _;rw[Vf,Vf,VQ hm]
 have r:eK (.mk nd::h) (nn h)=nd:=by show(aI h++[nd]).getD (aI h).length _=nd;rw[Vf,WR (Va _),Yj];rfl
 have f:∀m,m<nn (.mk nd::h)->m<nn h\/m=nn h:=λm hm=>WY.mp (by rw[dB] at hm;rw[hm,]);rw[⟨⟨h1,i,d,j,q.wf⟩,λx U=>?_,q.eg,λe t=>?_,λn o c C=>?_,λp u=>?_,λn o=>?_,λn o=>?_,?_⟩,]
 ·rcases Vk.mp U with U|U
  ·rw[q.op x U,]
  ·rw[[U5.mp U],k,]
 ·rw[dG (q.ev e t) λI J b=>?_,]
  rw[[dB],⟨Vi I,Vi J,b⟩,]
 ·have e:∀c,Mine.ab (.mk nd::h) c=if c=nn h then[] else if c∈nd.2.map (ay (mr h)) then Mine.ab h c++[nn h] else Mine.ab h c:=λ_=>rfl
  rw[dB];show _/\n∈Mine.ab (.mk nd::h) (ay (mr h) c);rw[e];rcases f n o with o|rfl
  ·rw[a n o] at C
   rw[aV (q.ab n o c C) λI J=>?_,[U8 (Vt (B2 q.wf I))],⟨Vi I,?_⟩,];split
   ·rw[Vv _ J,]
   ·rw[J,]
  ·rw[r] at C
   rw[<-I d c C,[U8 (Vt (B2 q.wf I)),Vb (W6 C)],⟨Vi I,Vm _ (Vr _)⟩,]
 ·rw[dG (q.ke p u) λI J b=>?_,]
  rw[[a _ I,dB],⟨Vi I,J,b⟩,]
 ·rcases f n o with o|rfl
  ·have:gA (.mk nd::h) n=gA h n:=by unfold gA;rw[a n o];rfl
   rw[[this],(q.kn n o).imp (Vv _) id,]
  ·rw[.inl (Vm _ (Vr _)),]
 ·rw[dB]
  rcases Vk.mp o with o|o
  ·rw[Vi (q.wl n o),]
  ·rw[[U5.mp o],Vs _,]
 ·have:=q.sz
  rw[[U7,WB],5 (h.length+1+(w.length+1)<=D+2+1025*(mr h).length),ax [.le (.p af aj) (.p aC (.m 1025 bH))] (.le (.p (.p af aF) (.p aj aF)) (.p (.p aC gI) (.m 1025 bH))) (.l [1,1]) tt [_,_,_,_] this,]
def fK.le(q:fK h w evs D)(o:D<=C):fK h w evs C:=⟨q.wf,q.op,q.eg,q.ev,q.ab,q.ke,q.kn,q.wl,U3 q.sz (Wx o _)⟩
end
noncomputable section
def wU.trans:∀{l o:List (Nat×Bool)} {x y z:Nat},wU es I x l y->wU es I y o z->wU es I x (l++o) z:=by
 intro l
 induction l with
 |nil=>intro o x y z h C;exact(show x=y from h)▸C
 |cons p l J=>intro o x y z ⟨w,U,a⟩ C;exact⟨w,U,J a C⟩
def dE.refl:dE es o x x:=⟨[],rfl⟩
def dE.trans(h:dE es C x y)(h':dE es C y z):dE es C x z:=by rw[6 h,λo=>aw o λl h=>?_,0 o,6 h',λo=>aw o λI h'=>?_,0 o,⟨_,h.trans h'⟩,]
def Ct.conn(h:Ct es o x i b z):dE es o x z:=⟨[(i,b)],z,h,rfl⟩
def Ct.back(h:Ct es C x i b z):Ct es C z i (!b) x:=by
 rw[cp h λu v I J o=>?_,0 h,⟨u,v,I,J,?_⟩,]
 induction b with
 |true=>exact⟨o.1,o.2⟩
 |false=>exact⟨o.1,o.2⟩
def dE.symm(h:dE es C x y):dE es C y x:=by
 rw[6 h,λo=>aw o λl h=>?_,0 o,]
 induction l generalizing x with
 |nil=>exact(show x=y from h)▸.refl
 |cons p l I=>
  rw[ah h λz J U=>?_,0 h,(I U).trans J.back.conn,]
def dE.mono(hs:∀e∈es,e∈I)(U:a<=J)(h:dE es a x y):dE I J x y:=by
 rw[6 h,λC=>aw C λl h=>?_,0 C,⟨l,?_⟩,]
 induction l generalizing x with
 |nil=>exact h
 |cons p l b=>
  rw[ah h λz o d=>cp o λu v f i j=>?_,0 h o,⟨z,⟨u,v,hs _ f,Vg i U,j⟩,b d⟩,]
def B3:(bK (.ed a b r::h)).length=(bK h).length+1:=by show(bK h++[_]).length=_;rw[U7];rfl
def tO:fe (.ed a b r::h)=if ay (mr h) a=ay (mr h) b then fe h else fe h++[((bK h).length,a,b)]:=rfl
def tP:∀{h:HI} (x:Nat),dE (fe h) (bK h).length x (ay (mr h) x):=by
 intro h
 induction h with
 |nil=>exactλx=>.refl
 |cons c h I=>
  intro x
  induction c with
  |mk _=>exact I x
  |kn _ _=>exact I x
  |ed a b r=>
   have C:∀y,dE (fe (.ed a b r::h)) (bK (.ed a b r::h)).length y (ay (mr h) y):=λy=>(I y).mono (λe U=>by
    rw[tO];split
    ·rw[U,]
    ·exact Vv _ U) (by rw[[B3],VE _,])
   rw[ig];by_cases q:ay (mr h) a=ay (mr h) b
   ·rw[[Vb q],C x,]
   ·rw[U8 q]
    split
    ·rw[4 e,]
     have J:dE (fe (.ed a b r::h)) (bK (.ed a b r::h)).length a b:=by rw[Ct.conn (i:=(bK h).length) (b:=false) ⟨a,b,?_,by rw[[B3],Vs _,],rfl,rfl⟩,[tO,U8 q],Vm _ (Vr _),]
     rw[<-o ((C a).symm.trans J).trans (C b),(C x).trans ?_,[e],];rcases X6 q with l|l
     ·rw[[show hi h a b=ay (mr h) b from WU (VP l),show lo h a b=ay (mr h) a from Wl (VP l)],o.symm,]
     ·rw[[show hi h a b=ay (mr h) a from W5 (VP l),show lo h a b=ay (mr h) b from W7 (VP l)],o,]
    ·rw[C x,]
def Ks:∀{h:HI},∀e∈fe h,ay (mr h) e.2.1=ay (mr h) e.2.2:=by
 intro h
 induction h with
 |nil=>intro e o;cases o
 |cons c h C=>
  intro e o
  induction c with
  |mk _=>exact C e o
  |kn _ _=>exact C e o
  |ed a b r=>
   rw[tO] at o;split at o
   ·rw[eM (C e o),]
   ·rcases Vk.mp o with o|o
    ·rw[eM (C e o),]
    ·rw[[U5.mp o],iw,]
def nX:dE (fe h) (bK h).length x y↔ay (mr h) x=ay (mr h) y:=by
 rw[⟨λ⟨l,I⟩=>?_,λe=>(tP x).trans (e▸(tP y).symm)⟩,]
 induction l generalizing x with
 |nil=>rw[show x=y from I]
 |cons p l U=>
  rw[ah I λz o J=>cp o λu v a b C=>?_,0 I o,<-this Ks _ a,Eq.trans ?_ (U ⟨l,J⟩ J),];split at C
  ·rw[<-C.1,<-C.2];rw[this.symm,]
  ·rw[<-C.1,<-C.2];rw[this,]
def Gu:∀{h:HI},Cv evs h->∀{i a b:Nat} {r:yC},(bK h)[i]?=some (a,b,r)->∃o h0,h=o++.ed a b r::h0/\(bK h0).length=i/\a<nn h0/\b<nn h0/\OF evs h0 a b r:=by
 intro h
 induction h with
 |nil=>intro _ i a b r e;injection e
 |cons c h u=>
  intro C i a b r e;have up:Cv evs h->(bK h)[i]?=some (a,b,r)->∃o h0,c::h=o++.ed a b r::h0/\(bK h0).length=i/\a<nn h0/\b<nn h0/\OF evs h0 a b r:=λC e=>by rw[dr (u C e) λo h0 I h=>?_,3 I,⟨c::o,h0,rfl,h⟩,]
  induction c with
  |mk _=>exact up C e
  |kn _ _=>exact up C e
  |ed J U d=>
   by_cases q:i<(bK h).length
   ·rw[up C.2.2.2 (by rw[show bK (.ed J U d::h)=bK h++[(J,U,d)] from rfl,VQ q] at e;rw[e,]),]
   ·rw[show bK (.ed J U d::h)=bK h++[(J,U,d)] from rfl,WR (Wn q)] at e
    cases f:i-(bK h).length with
    |succ n=>rw[f] at e;injection e
    |zero=>
     rw[f] at e;injection e with j;injection j with k m;rw[3 k,];injection m with p t;rw[3 p,3 t,⟨[],h,rfl,by rw[ax [.CG af aj,.eq aC gp,.sub aC af aj] (.eq aj af) (.s 0 (.l [1,0,1,0,1]) (.l [1,1])) tt [_,_,_] q f rfl,],C.1,C.2.1,C.2.2.1⟩,]
def rt:∀(o:HI) {h0:HI},∃r,aI (o++h0)=aI h0++r:=by
 intro o
 induction o with
 |nil=>exactλ{h0}=>⟨[],(VR _).symm⟩
 |cons c o I=>
  intro h0;rw[aw (I (h0:=h0)) λr e=>?_,]
  induction c with
  |mk C=>exact⟨r++[C],by show aI (o++h0)++[C]=_;rw[e,Vo]⟩
  |kn _ _=>exact⟨r,e⟩
  |ed _ _ _=>exact⟨r,e⟩
def Kt:∀(o:HI) {h0:HI},∀e∈fe h0,e∈fe (o++h0):=by
 intro o
 induction o with
 |nil=>exactλe C=>C
 |cons c o I=>
  intro h0 e C;have:=I e C
  induction c with
  |mk J=>exact this
  |kn _ _=>exact this
  |ed _ _ _=>
   rw[XW,tO];split
   ·rw[this,]
   ·rw[Vv _ this,]
def ru(C:a<nn h0):eK (o++h0) a=eK h0 a:=by rw[aw (rt o (h0:=h0)) λr e=>?_,2 eK,[e,Vf,Vf,VQ C],]
noncomputable def B4(evs:List Ev):tI:=λa b r=>match r with
 |.told t=>t≠""/\(a,b,t)∈evs
 |.rule k=>k=b/\(a,b,("":Str))∈evs
 |.d5=>False
def w4:∀{l r:List Nat},l.map f=r.map f->l.length=r.length/\∀p∈l.zip r,f p.1=f p.2:=by
 intro l
 induction l with
 |nil=>intro r e;induction r using List.casesOn with
  |nil=>exact⟨rfl,λ_ h=>nomatch h⟩
  |cons _ _=>injection e
 |cons x l C=>intro r e;induction r using List.casesOn with
  |nil=>injection e
  |cons y r=>
   injection e with I J;rw[aV (C J) λU a=>⟨Ve Nat.succ U,λp o=>?_⟩,];rcases Vc.mp o with rfl|o
   ·rw[I,]
   ·rw[a p o,]
def zip_map:∀{l r:List Nat},l.length=r.length->(∀p∈l.zip r,f p.1=f p.2)->l.map f=r.map f:=by
 intro l
 induction l with
 |nil=>intro r e _;induction r using List.casesOn with
  |nil=>rfl
  |cons _ _=>cases e
 |cons x l o=>intro r e h;induction r using List.casesOn with
  |nil=>cases e
  |cons y r=>exact List.cons_eq_cons.mpr ⟨h (x,y) (VL ..),o (XT e) λp C=>h p (Wz _ C)⟩
section
variable{h:HI}{evs:List Ev}{D:Nat}
def fK.lk(q:fK h [] evs D):yO h:=λi a b d x=>by
 rw[tW (Gu q.eg d) λC I J U k l o=>aV o λm n=>?_,0 o,3 J,3 U,];have f:a<nn (.ed a b .d5::I):=k;have t:b<nn (.ed a b .d5::I):=l;have j:=q.op (eK (C++.ed a b .d5::I) a) (by rw[aw (rt C (h0:=.ed a b .d5::I)) λr e=>?_,[ru f,e],Vv _ ?_,<-this cn (h:=.ed a b .d5::I) f,Xg this,])
 rw[aV (w4 n) λu v=>⟨j,?_⟩,[ru f,ru t],⟨m,u,λp w=>(nX.mpr (v p w)).mono (λe d=>?_) (Va _)⟩,Kt C e ?_,[tO],];split
 ·rw[d,]
 ·rw[Vv _ d,]
def fK.Ur(q:fK h [] evs D):yP h (B4 evs):=λi a b r f l=>by
 rw[tW (Gu q.eg f) λo C I J p m U=>?_,3 I,3 J,];have d:nn C<=nn (o++.ed a b r::C):=by rw[aw (rt o (h0:=.ed a b r::C)) λu e=>?_,5 ((aI C).length<=(aI _).length),[e,U7],Vx ..,]
 induction r with
 |told t=>exact⟨U,λj e=>nomatch e⟩
 |rule k=>exact⟨U,λj e=>by injection e with e;rw[<-n U.1,VA (Vz (e.symm.trans n)) (Vg m d),]⟩
 |d5=>exact U9 rfl l
def fK.good(q:fK h [] evs D):GoodR (aI h) evs λa b=>ay (mr h) a=ay (mr h) b where
 rf a:=rfl
 sy a b e:=e.symm
 tr a b c e d:=e.trans d
 ev e j:=(q.ev e j).2.2
 cg a b x y C hb B G H:=by
  have L:eK h a=x:=by have:=cn (h:=h) (aS C);rw[C] at this;exact(VW this).symm
  have M:eK h b=y:=by have:=cn (h:=h) (aS hb);rw[hb] at this;exact(VW this).symm
  have P:gA h a=gA h b:=by rw[2 gA,[L,M,B,zip_map G H],]
  rcases q.kn a (aS C) with h1|⟨o,h1,h2⟩
  ·cases h1
  rcases q.kn b (aS hb) with J|⟨R,J,Q⟩
  ·cases J
  rw[P,J] at h1;rw[1 h1,h2.symm.trans Q,]
def Gv(o:GoodR ns evs R):∀{h0:HI},Cv evs h0->(∀(n:Nat) (x:Nd),(aI h0)[n]?=some x->ns[n]?=some x)->∀x,R x (ay (mr h0) x):=by
 intro h0
 induction h0 with
 |nil=>exactλ_ _ x=>o.rf x
 |cons c h0 C=>
  intro J U x
  induction c with
  |mk i=>exact C J (λn x e=>U n x (by rw[5 ((aI h0++[i])[n]?=_),[VQ (aS e)],e,])) x
  |kn _ _=>exact C J U x
  |ed a b r=>
   have C:=C J.2.2.2 U;have f:R a b:=by
    have d:=J.2.2.1
    induction r with
    |told t=>exact o.ev _ d.2
    |rule k=>exact o.ev _ d.2
    |d5=>
     rw[aV (w4 d.2) λj m=>o.cg a b _ _ (U a _ (cn J.1)) (U b _ (cn J.2.1)) d.1 j λp u=>?_,o.tr _ _ _ (C p.1) (by rw[[m p u],o.sy _ _ (C p.2),]),]
   rw[<-I o.tr _ _ _ (o.tr _ _ _ (o.sy _ _ (C a)) f) (C b),[ig],];by_cases q:ay (mr h0) a=ay (mr h0) b
   ·rw[[Vb q],C x,]
   ·rw[U8 q]
    split
    ·rw[4 e,]
     rw[o.tr _ _ _ (C x) ?_,[e],];rcases X6 q with l|l
     ·rw[[show hi h0 a b=ay (mr h0) b from WU (VP l),show lo h0 a b=ay (mr h0) a from Wl (VP l)],o.sy _ _ I,]
     ·rw[[show hi h0 a b=ay (mr h0) a from W5 (VP l),show lo h0 a b=ay (mr h0) b from W7 (VP l)],I,]
    ·rw[C x,]
structure NW(ns:List Nd)(evs:List Ev):Prop where
 lb:∀e∈evs,PyData.strOk e.2.2=true
 un:∀e∈evs,∀e'∈evs,e.2.2=e'.2.2->e.2.2≠""->e=e'
 rl:∀e∈evs,e.2.2=""->ns[e.1]?=some (("f":Str),[e.2.1])
def fK.Us(q:fK h [] evs D)(j:wF (aI h))(hl:NW (aI h) evs):Kn (aI h) evs (B4 evs) where
 lb e C:=⟨hl.lb e C,(q.ev e C).1,(q.ev e C).2.1⟩
 td a b t C:=⟨(q.ev _ C.2).1,(q.ev _ C.2).2.1,C.1,⟨_,C.2,rfl⟩,λe J x=>by rw[<-this hl.un e J _ C.2 x (by rw[[x],C.1,]),[this],⟨rfl,rfl⟩,]⟩
 rl a b k C:=by rw[6 C,λU=>aV U λd C=>?_,0 U,3 d,⟨(q.ev _ C).1,(q.ev _ C).2.1,(q.ev _ C).2.1,⟨_,C,rfl,rfl⟩,λe J h1 h2=>⟨?_,h2⟩⟩,[nP j (hl.rl e J h1),nP j (hl.rl _ C rfl)],5 (V.tup [_,tm (aI h) e.2.1]=_),[h2],];rfl
end
end
noncomputable section
def QU:lQ "f":=⟨by kernel_rfl,by decide+kernel,by decide+kernel,by kernel_rfl,by kernel_rfl,by kernel_rfl,by decide+kernel⟩
def QV:lQ "g":=⟨by kernel_rfl,by decide+kernel,by decide+kernel,by kernel_rfl,by kernel_rfl,by kernel_rfl,by decide+kernel⟩
def B5(h:cZ b ns σ):ns.Nodup:=by rw[n0 h λo no C I J U a q=>?_,0 h,q.nd,]
def B6{l:List Nd}(h:l.Nodup){i j:Nat}{x:Nd}(hi:l[i]?=some x)(o:l[j]?=some x):i=j:=
 (List.getElem?_inj (aS hi) h).mp (hi.trans o.symm)
def pM(h:aP a=aP b):a=b:=by
 injection h with h;injection h with o I;injection o with o;rw[Prod.ext o ?_,];have:∀l r:List Nat,l.map vi=r.map vi->l=r:=by
  intro l
  induction l with
  |nil=>intro r e;induction r using List.casesOn with
   |nil=>rfl
   |cons _ _=>injection e
  |cons x l J=>intro r e;induction r using List.casesOn with
   |nil=>injection e
   |cons y r=>
    injection e with C U;injection C with C;rw[WL C,J r U]
 rw[this _ _ I,]
def Gw(h:PyData.strOk nd.1=true):Gd 1 (aP nd):=.tup (n:=0) λx o=>by
 rcases Vc.mp o with rfl|o
 ·rw[.str h,]
 ·rw[ah (Vn.mp o) λc _ C=>?_,3 C,]
  exact⟨rfl,Va _⟩
def Ku:aI (wL h n)=aI h:=by
 unfold wL;split
 ·rfl
 ·split
  ·rfl
  ·rfl
def je:aI (fa h nd)=if nd∈aI h then aI h else aI h++[nd]:=by
 unfold fa;split
 ·rfl
 ·rw[Ku,]
def fK.add(q:fK h w evs D)(I:nd.2.length<=2)(J:∀c∈nd.2,c<nn h)(U:nn h<8)(b:PyData.strOk nd.1=true):fK (fa h nd) (wN h nd w) evs (D+2)/\∃o,fa h nd=o++h:=by
 unfold fa wN;by_cases e:nd∈aI h
 ·rw[[Vb e,Vb e],⟨q.le (Vx ..),[],rfl⟩,]
 ·rw[U8 e,U8 e]
  rw[jU ((q.Uq e I J U b).look) λa _ C _=>aw C λo d=>?_,0 C,⟨a,o++[_],by rw[d,Vo];rfl⟩,]
section
variable{g:G0}{k:Nat}{exc:XQ}{lv wa:Addr}{h:HI}{w ms:List Nat}{bk n D:Nat}{p:Nat×Nat}{evs:List Ev}{σ:aq}{Q:V->aq->Prop}
def jT(σ σ':aq):Prop:=∀t:Tg,40<=t.k->t.k≠70->t.k≠60->σ' t=σ t
def jT.trans(h:jT σ σ')(h':jT σ' o):jT σ o:=λt a b c=>(h' t a b c).trans (h t a b c)
def bB.d(h:bB σ σ'):jT σ σ':=λt a b c=>h t (kz.mpr ⟨a,c⟩)
def aA.d(h:aA 70 71 σ σ'):jT σ σ':=λt a b c=>h t (VC.mpr λq=>by have:=az.mp q;exact ax [.ne af (.k 70),.le (.k 70) af,.lt af (.k 71)] (.ff) (.s 1 (.l [1,0,1]) (.l [1,0,0,1])) tt [_] b this.1 this.2)
def vC{x:Str}(v:x="f"\/x="g")(hw:cI wa n p σ)(hn:n<=800)(hu:aK lv h h w ms bk σ)(L:fK h w evs D)(hD:D<=30000)(M:nn h<8)(h0:0<nn h)
 (hQ:∀nd σ',nd.1=x->nd.2.length=(if x="f" then 1 else 2)->(∀c∈nd.2,c<nn h)->cI wa (n+2) p σ'->aK lv (fa h nd) (fa h nd) (wN h nd w) ms bk σ'->fK (fa h nd) (wN h nd w) evs (D+2)->jT σ σ'->Q (.tup [.lst ((aI (fa h nd)).map aP),vi (oZ (aI h) nd)]) σ'):
 GC g (k+8) exc σ (.raw (.ref 607)) [.loc wa,.loc lv,.lst ((aI h).map aP),.str x] Q:=by
 rw[bp va (by decide+kernel) rfl rfl ?_,];have B:PyData.strOk x=true:=by rcases v with rfl|rfl<;>decide+kernel
 have HH:lQ x:=by rcases v with rfl|rfl<;>first|exact QU|exact QV
 have N:(aI h).length<=100000:=U3 (VP M) (by decide);have P:0<min (aI h).length 4:=by have:0<(aI h).length:=h0;rw[ax [.lt gp af,.mn aj af (.k 4)] (.lt gp aj) (.s 2 (.l [1,1,1]) (.l [1,1])) tt [_,_] this rfl,]
 have fin:∀(I:List Nat) (J:aq),I.length=(if x="f" then 1 else 2)->(∀c∈I,c<nn h)->cI wa (n+2) p J->aA 70 71 σ J->
  (aL 1<|dk .Add<|aN 4<|aa 1<|a' 52<|aa 3<|aa 4<|au (vi 1)<|au .none<|au .none<|sq fL<|sq sub<|ba 2<|sq pop<|aa 4<|aa 2<|bO .In<|sq bu<|sq (ite (aa 2<|ao) (aa 2<|aa 4<|eY 1<|dk .Add<|ao))<|aN 5<|aa 5<|aa 5<|a' 30<|aa 4<|ba 1<|bc 2<|sq cU<|ao) ⟨g,k+7,Q,iI⟩ (λ_ _ σ=>Q .none σ)
   [.lst (I.map vi),.raw (.type "tuple"),.tup [.str x]] [(0,.loc wa),(1,.loc lv),(2,.lst ((aI h).map aP)),(3,.str x)] J:=λI J e1 e2 NL R=>by
  have E:I.length<=2:=by rw[e1];split<;>decide
  have G:I.length<=100000:=U3 E (by decide);rw[<-S hu.same (R.kept (.inr (by decide))),<-t S,aw t λpp q=>?_,0 t,<-ho q.o,<-jy q.sz,<-W L.sz,<-X L.mm,cY bT (by rw[[U2],G,]) (ft (by rw[[U2],G,]) ?_),"w",hM (by rw[[U2],G,]) ?_,"w",Gm (ks:=I) S HH e2 E M (ax [.le af (.k 30000),.le (.p aj aC) (.p af (.m 1025 bH)),.le bH eo] (.lt (.p aj aF) bQ) (.l [1,1,1,1025]) tt [_,_,_,_] hD W X) (ax [.le af (.k 30000),.le (.p aj aC) (.p af (.m 1025 bH)),.le bH eo] (.le (.p aC (.k 1024)) bQ) (.l [1,1,1,1025]) tt [_,_,_,_] hD W X) λC t U=>aV (L.add (nd:=(x,I)) E e2 M B) λKv _=>?_,<-Ut hQ (x,I) C rfl e1 e2 (NL.same (U ⟨70,0⟩ rfl)) t Kv (R.d.trans U.d),];have Y:∀l:List Nd,(∀y∈l,PyData.strOk y.1=true)->V.eA (l.map aP)=true:=λl hl=>dY.mpr λy H=>by rw[ah (Vn.mp H) λz hz Gn=>?_,3 Gn,(Gw (hl z hz)).1,]
  rw[<-gx Gw (nd:=(x,I)) B,"w",wq gx.gg bT (Y _ L.op) (Yk.mpr (U3 gx.2 (by decide))) λb hb=>?_,];have A:b=true↔(x,I)∈aI h:=hb.trans ⟨λhm=>by rw[ah (Vn.mp hm) λy h1 h2=>?_,];rw[<-pM h2];rw[h1,],λhm=>W6 hm⟩;rw[<-nd B5 q.bk,"w",];have last:∀(l:List Nd),l=aI (fa h (x,I))->l[oZ (aI h) (x,I)]?=some (x,I)->(∀i,i<oZ (aI h) (x,I)->l[i]?≠some (x,I))->l.length<=100000->(∀y∈l,PyData.strOk y.1=true)->
   (aN 5<|aa 5<|aa 5<|a' 30<|aa 4<|ba 1<|bc 2<|sq cU<|ao) ⟨g,k+7,Q,iI⟩ (λ_ _ σ=>Q .none σ) [.lst (l.map aP)] [(4,aP (x,I)),(0,.loc wa),(1,.loc lv),(2,.lst ((aI h).map aP)),(3,.str x)] C:=λl e l1 l2 l3 l4=>by
   rw["w",Bn ?_,"w",Ep (j:=oZ (aI h) (x,I)) gx.gg (Y l l4) (cm l1) (λi hi e=>?_) (by rw[[U2],l3,]) (Yk.mpr (U3 gx.2 (by decide))) (e▸Ut),];rw[WD] at e;rw[ah (WA.mp e) λy h1 h2=>l2 i hi (h1.trans (Ve some (pM h2))),]
  by_cases hm:(x,I)∈aI h
  ·rw[w_ite (λ_=>?_) λe=>U9 (A.mpr hm) (by rw[[e],Vu,]),]
   rw[?_,last (aI h) (by rw[je,Vb hm]) (jL hm) (λi hi e=>?_) N L.op,U9 (B6 nd e (jL hm)) (Vt hi),]
  ·rw[w_ite (λe=>U9 (A.mp e) hm) λ_=>jG (ko bT bT (by rw[[U2],U3 (VJ (VP M)) (by decide),]) (.inl ?_)),]
   have hp:=l7 hm;have:=last (aI h++[(x,I)]) (by rw[je,U8 hm]) (by rw[hp,WR (Va _),Yj];rfl) (λi hi e=>?_) (by rw[[U7],U3 (VJ (VP M)) (by decide),]) (λy H=>?_)
   ·rw[Vd] at this;rw[this,]
   ·rw[hp] at hi
    rw[VQ hi] at e;rw[hm (Xg e),]
   ·rcases Vk.mp H with H|H
    ·rw[L.op y H,]
    ·rw[[U5.mp H],B,]
 rw[2 nI,"w",cj [(2,.lst ((aI h).map aP)),(0,.loc wa)] rfl ⟨rfl,rfl,trivial⟩ ?_,];have one:∀(y:V) (n':Nat) (J:aq) (u:List V) (K':List V->aq->Prop),n'<=801->cI wa n' p J->aA 70 71 σ J->u.length<=10->(∀c C,c<nn h->cI wa (n'+1) p C->aA 70 71 σ C->K' (u++[vi c]) C)->
  iJ ((aN 6<|ao:SC) ⟨g,k+7,Q,iI⟩) ((au (.bool true)<|ao:SC) ⟨g,k+7,Q,iI⟩) ((aM (.ref 587)<|aa 0<|aM (.builtin "min")<|aM (.builtin "len")<|aa 2<|aL 1<|au (vi 4)<|aL 2<|aL 2<|ao:SC) ⟨g,k+7,Q,iI⟩) [(2,.lst ((aI h).map aP)),(0,.loc wa)] y J u K':=λy n' J u K' Uu Uv FK ha hK=>by
  rw[bG ⟨rfl,nM (λ_=>?_) λe=>nomatch e⟩,"w",aX bT (U2 ..) N ?_,"w",Jc ?_,"w",e8 Uv (kl Uu) P λr C hr f U=>⟨⟨rfl,rfl,trivial⟩,by rw[kl ha,],hK r C (Vg hr (X3 ..)) f (FK.trans U)⟩,]
 rcases v with rfl|rfl
 ·rw["w",]
  rw[aQ (λ_=>?_) λe=>U9 rfl e,"w",hO<|aY ⟨rfl,rfl,trivial⟩ (.mi (n:=1) rfl rfl) (dg (one _ n σ [] _ (kl hn) hw .refl (Vj _) λc C hc f U=>eJ ?_)),fin [c] C rfl (λx v=>by rw[[U5.mp v],hc,]) (by induction f with|mk a b c d e=>exact⟨a,b,c,d,VG e⟩) U,]
 ·rw["w",]
  refine aQ (λe=>U9 e (by decide)) λ_=>?_;walk_at "w";refine hO<|aY ⟨rfl,rfl,trivial⟩ (.mi (n:=2) rfl rfl) (dg (one _ n σ [] _ (kl hn) hw .refl (Vj _) λc C hc f U=>dg (one _ (n+1) C [vi c] _ (kp hn) f U (U1 rfl) λd pI hd NX Lb=>eJ ?_)));exact fin [c,d] pI (by rw[U8 (by decide)];rfl) (λx v=>by
   simp only[Vc,WG,or_false] at v;rcases v with rfl|rfl
   ·rw[hc,]
   ·exact hd) NX Lb
end
end
noncomputable section
noncomputable def y6(j:Nat):Str:=("t":Str)++Str.ofString (toString j)
def Fh:∀i,i<10->∀j,j<10->y6 i=y6 j->i=j:=by decide+kernel
def vD:∀i,i<10->PyData.strOk (y6 i)=true/\y6 i≠""/\(("t":Str).length+(Str.ofString (toString i)).length<=10):=by decide+kernel
structure vE(ns:List Nd)(evs:List Ev)(b lap:Nat):Prop where
 l:NW ns evs
 hi:ns.length<=b
 lo:3<=ns.length
 n:evs.length<=lap
 lb:∀e∈evs,e.2.2=""\/∃j,j<lap/\e.2.2=y6 j
 ne:lap=0\/evs≠[]
def vE.up(h:vE ns evs b lap)(I:b<=J)(C:lap<=o)(U:evs≠[]):vE ns evs J o:=
 ⟨h.l,U3 h.hi I,h.lo,U3 h.n C,λe a=>(h.lb e a).imp id λ⟨j,d,f⟩=>⟨j,Vg d C,f⟩,.inr U⟩
def vE.more(h:vE ns evs b lap):vE (if nd∈ns then ns else ns++[nd]) evs (b+1) lap:=by
 split
 ·exact⟨h.l,VG h.hi,h.lo,h.n,h.lb,h.ne⟩
 ·rw[⟨⟨h.l.lb,h.l.un,λe o C=>?_⟩,by rw[[U7],VJ h.hi,],by rw[[U7],U3 h.lo (Vx ..),],h.n,h.lb,h.ne⟩,]
  rw[<-this h.l.rl e o C,[VQ (aS this)],this,]
def vE.ev{ns:List Nd}{evs:List Ev}{b lap U:Nat}{e:Ev}(h:vE ns evs b lap)(k:lap<10)(f:(e.2.2=y6 lap/\U=lap+1)\/(e.2.2=""/\ns[e.1]?=some (("f":Str),[e.2.1])/\U=lap+1)):vE ns (evs++[e]) b U:=by
 rw[<-p f.elim (·.2) (·.2.2),8 p,];have i:∀a∈evs,a.2.2=e.2.2->a.2.2≠""->False:=λa o J I=>by
  rcases f with⟨C,_⟩|⟨C,_⟩
  ·rcases h.lb a o with d|⟨j,d,t⟩
   ·rw[I d,]
   ·rw[C,t] at J
    have:=Fh j (VK d k) lap k J;exact ax [.lt af aj,.eq af aj] (.ff) (.l [0,1,0,1]) tt [_,_] d this
  ·rw[I (J.trans C),]
 rw[⟨⟨λa o=>?_,λq J r I C d=>?_,λa o m=>?_⟩,h.hi,h.lo,by rw[[U7],VJ h.n,],λa o=>?_,.inr (by simp)⟩,]
 ·rcases Vk.mp o with o|o
  ·rw[h.l.lb a o,]
  ·rw[U5.mp o]
   rcases f with⟨C,_⟩|⟨C,_⟩
   ·rw[[C],(vD lap k).1,]
   ·rw[C];decide+kernel
 ·rcases Vk.mp J with J|J
  ·rcases Vk.mp I with I|I
   ·rw[h.l.un q J r I C d,]
   ·rw[U5.mp I] at C
    exact(i q J C d).elim
  ·rw[U5.mp J] at C d⊢
   rcases Vk.mp I with I|I
   ·exact(i r I C.symm (C▸d)).elim
   ·exact(U5.mp I).symm
 ·rcases Vk.mp o with o|o
  ·rw[h.l.rl a o m,]
  ·rw[U5.mp o] at m⊢
   rcases f with⟨C,_⟩|⟨_,C,_⟩
   ·rw[C] at m;rw[U9 m (vD lap k).2.1,]
   ·rw[C,]
 ·rcases Vk.mp o with o|o
  ·exact(h.lb a o).imp id λ⟨j,J,I⟩=>⟨j,Vi J,I⟩
  ·rw[U5.mp o]
   rcases f with⟨C,_⟩|⟨C,_⟩
   ·rw[.inr ⟨lap,Vs _,C⟩,]
   ·rw[.inl C,]
noncomputable abbrev Cw:=HI×List Ev
noncomputable abbrev sV(ns:List Nd)(evs:List Ev):V:=.tup [.lst (ns.map aP),.lst (evs.map jd)]
noncomputable abbrev Cx(l:Cw):V:=sV (aI l.1) l.2
noncomputable def Lf(D b lap:Nat):HI->List Cw->Prop
 |_,[]=>True
 |h,l::ls=>(∃o,h=o++l.1)/\fK l.1 [] l.2 D/\vE (aI l.1) l.2 b lap/\l.2≠[]/\Lf D b lap l.1 ls
def Lf.up(h1:D<=J)(U:b<=f)(i:lap<=C):∀{ls:List Cw} {h h':HI},(∃o,h'=o++h)->Lf D b lap h ls->Lf J f C h' ls:=by
 intro ls
 induction ls with
 |nil=>intro h h' _ _;trivial
 |cons l ls j=>
  intro h h' ⟨o,e⟩ ⟨⟨I,k⟩,a,c,d,s⟩;exact⟨⟨o++I,by rw[e,k,Vo]⟩,a.le h1,c.up U i d,d,j ⟨[],rfl⟩ s⟩
noncomputable abbrev Cy(ls:List Cw):List Nat:=ls.reverse.map λl=>l.1.length
noncomputable abbrev Cz(ls:List Cw)(ns:List Nd)(evs:List Ev):List V:=ls.reverse.map Cx++[sV ns evs]
structure NY(wa lv sa:Addr)(n D b lap:Nat)(ls:List Cw)(h:HI)(w:List Nat)(evs:List Ev)(bk:Nat)(p:Nat×Nat)(σ:aq):Prop where
 well:cI wa n p σ
 heap:aK lv h h w (Cy ls) bk σ
 Lg:σ ⟨71,0⟩=some (.one sa (.list (Cz ls (aI h) evs)))
 ok:fK h w evs D
 lr:vE (aI h) evs b lap
 sk:Lf D b lap h ls
 ln:ls.length<=lap
 w0:lap=0\/w=[]
def dn(σ σ':aq):Prop:=∀t:Tg,40<=t.k->t.k≠60->t.k≠70->t.k≠71->σ' t=σ t
def dn.refl:dn σ σ:=λ_ _ _ _ _=>rfl
def dn.trans(h:dn σ σ')(h':dn σ' o):dn σ o:=λt a b c d=>(h' t a b c d).trans (h t a b c d)
def jT.k(h:jT σ σ'):dn σ σ':=λt a b c _=>h t a c b
def bB.k(h:bB σ σ'):dn σ σ':=h.d.k
def dn.tQ(h:dn σ σ'):dn σ (σ'.set ⟨71,0⟩ o):=λt a b c d=>(aq.ag λe=>d (by rw[<-e])).trans (h t a b c d)
def vF(h:HI)(bk:Nat)(h':HI)(o:Nat):Prop:=(o=bk/\∃C,h'=C++h)\/o=bk+1
end
noncomputable section
def tR{F:Fr}{K:KS}{s:List V}{m:GM}{σ:aq}{x y z:V}(k:K (.tup [x,y]::s) m σ):sub F K (.fL .none (vi 2) .none::.tup [x,y,z]::s) m σ:=⟨trivial,λC A env c I o=>yf ⟨rfl,σ,o,k⟩⟩
def w5{F:Fr}{K:KS}{s:List V}{m:GM}{σ:aq}{o:Type}{f:o->V}{l:List o}{x:o}(k:K (f x::s) m σ):sub F K (.int (-1)::.lst ((l++[x]).map f)::s) m σ:=by rw[[Vd],Ek k,]
section
variable{g:G0}{k:Nat}{exc:XQ}{wa lv sa:Addr}{n D b lap bk:Nat}{ls:List Cw}{h:HI}{w:List Nat}{evs:List Ev}{p:Nat×Nat}{σ:aq}{Q:V->aq->Prop}
def tS:Cy (l::ls)=Cy ls++[l.1.length]:=by rw[2 Cy,[VZ,Vd],];rfl
def tT:Cz (l::ls) ns evs=Cz ls (aI l.1) l.2++[sV ns evs]:=by rw[2 Cz,[VZ,Vd],];rfl
def w7:(Cy ls).length=ls.length:=by rw[2 Cy,[U2,V2],]
def ma:(Cz ls ns evs).length=ls.length+1:=by rw[2 Cz,[U7,U2,V2],];rfl
def vF.pre(J:vF h bk h1 C)(I:∃pre,h'=pre++h1):vF h bk h' C:=J.imp (λ⟨e,pre,U⟩=>⟨e,by rw[aw I λo a=>?_,0 I,⟨o++pre,by rw[a,U,Vo]⟩,]⟩) id
noncomputable def B7:SC:=a' 55<|ba 0<|sq pop<|ao
noncomputable def NZ:SC:=aa 4<|au (vi 4)<|bO .Lt<|sq bu<|sq (ite (aM (.ref 587)<|aa 0<|aM (.builtin "len")<|aa 5<|aL 1<|aL 2<|aM (.ref 587)<|aa 0<|aM (.builtin "len")<|aa 5<|aL 1<|aL 2<|bc 2<|sq (Ck [7,8])<|aa 1<|a' 49<|aa 7<|aa 8<|au (.str "told")<|au (.str "t")<|aM (.type "str")<|aa 3<|aL 1<|dk .Add<|bc 2<|ba 3<|sq pop<|aa 5<|aa 6<|aa 7<|aa 8<|au (.str "t")<|aM (.type "str")<|aa 3<|aL 1<|dk .Add<|bc 3<|eY 1<|dk .Add<|bc 2<|aa 2<|au (vi 1)<|sq (un .USub)<|sq cD<|ao) (aa 4<|au (vi 4)<|bO .Eq<|sq bu<|sq (ite (aM (.ref 607)<|aa 0<|aa 1<|aa 5<|au (.str "f")<|aL 4<|gd 2<|aN 9<|aN 10<|aa 9<|aa 10<|sq sub<|au (vi 1)<|sq sub<|aN 11<|aa 1<|a' 49<|aa 10<|aa 11<|au (.str "rule")<|au (.str "r")<|au (.str "?x")<|aa 11<|bc 2<|bc 1<|bc 3<|ba 3<|sq pop<|aa 9<|aa 6<|aa 10<|aa 11<|au (.str "")<|bc 3<|eY 1<|dk .Add<|bc 2<|aa 2<|au (vi 1)<|sq (un .USub)<|sq cD<|ao) (aM (.ref 607)<|aa 0<|aa 1<|aa 5<|au (.str "fg")<|aM (.ref 587)<|aa 0<|au (vi 2)<|aL 2<|sq sub<|aL 4<|au (vi 0)<|sq sub<|aa 6<|bc 2<|aa 2<|au (vi 1)<|sq (un .USub)<|sq cD<|ao))<|ao))<|ao
def nY(E:F.k=k+8)(G:D<=25000)(e:aK lv h1 h1 w1 (Cy ls') I C)(H:fK h1 w1 evs1 (D+4))(L:vE (aI h1) evs1 B (lap+1))(hs:Lf (D+4) B (lap+1) h1 ls')(f:ls'.length<=lap+1)
 (i:evs1≠[]) (M:cI wa N p' C) (j:C ⟨71,0⟩=some (.one sa (.list (Cz ls' (aI h1) evs1)))) (R:vF h bk h1 I) (hf:dn σ C)
 (S:∀ls' h' J I p' σ',NY wa lv sa N (D+4) B (lap+1) ls' h' [] J I p' σ'->J≠[]->vF h bk h' I->dn σ σ'->Q .none σ'):
 B7 F (λ_ _ σ=>Q .none σ) [.loc lv] Y C:=by
 rw[iz (H.settle (U3 (Wx G 4) (by decide)) _ (Vs _)) λx h' W X y z=>?_,];have l:∃A m,C ⟨20,0⟩=some (.obj lv 578 A m)/\lk m 55=none:=by rw[aw e λpp q=>?_,0 e,⟨_,_,q.o,rfl⟩,]
 rw[6 l,λd=>dr d λA m l r=>?_,0 d,2 B7,vf l rfl r (by decide) (λP=>by kernel_rfl) (wx ?_),5 (GC F.g F.k F.exc C ..),[E],Bz e W λt u U=>?_,<-v (U.a (.inl (Va _))).k,S ls' h' evs1 I p' t ⟨M.same (U ⟨70,0⟩ rfl),u,?_,X,y▸L,hs.up (Va _) (Va _) (Va _) z,f,.inr rfl⟩ i (R.pre z) (hf.trans v),[y],(U ⟨71,0⟩ rfl).trans j,]
def Kw:(aI (fa h nd))[oZ (aI h) nd]?=some nd:=by
 rw[je];split
 ·rw[4 q,jL q,]
 ·rw[4 q,[l7 q,WR (Va _),Yj],];rfl
def Gx:nn h<=nn (fa h nd):=by
 show(aI h).length<=(aI (fa h nd)).length;rw[je];split
 ·rw[Va _,]
 ·rw[[U7],Vx ..,]
def Kx(hI:NY wa lv sa n D b lap ls h w evs bk p σ)(hl:lap<9)(hn:n<=700)(hD:D<=25000)(hb:lap<3\/b<8)
 (hQ:∀ls' h' N0 N1 p' σ',NY wa lv sa (n+4) (D+4) (if lap<3 then b else b+1) (lap+1) ls' h' [] N0 N1 p' σ'->N0≠[]->vF h bk h' N1->dn σ σ'->Q .none σ'):
 GC g (k+9) exc σ (.raw (.ref 614)) [.loc wa,.loc lv,.loc sa,vi lap] Q:=by
 rw[a8 vc (by decide+kernel) rfl ?_,];have hB:b<=(if lap<3 then b else b+1):=by split;rw[Va _,VE _,]
 have Sf:=hI.ok.mm;have jy:=hI.ok.sz;have OG:ls.length<=9:=U3 hI.ln (VP hl);have Sg:(aI h).length<=100000:=U3 (gB hI.ok.wf) (by decide);have h3:=hI.lr.lo;have N2:=hI.lr.n;have OH:0<nn h:=Vg (by decide) h3;rw[aB λR_ mM=>?_,];obtain⟨hw,hu,FN,z,hr,Lh,P,Ih⟩:=hI;rw[mM ?_,0 mM R_,];have X:∀(R n':Nat) (A:aq),(lap<3->R=0\/R=3)->R<6->(lap=0->R=3)->n'<=n+1->cI wa n' p A->dn σ A->aK lv h h w (Cy ls) bk A->A ⟨71,0⟩=some (.one sa (.list (Cz ls (aI h) evs)))->
  (aa 2<|au (vi 1)<|sq (un .USub)<|sq sub<|bc 2<|gd 2<|aN 4<|gd 2<|aN 5<|aN 6<|aa 4<|au (vi 0)<|bO .Eq<|sq bu<|sq (ite (aa 1<|a' 56<|ba 0<|sq pop<|aa 2<|a' 24<|aa 5<|aa 6<|bc 2<|ba 1<|sq pop<|ao) (aa 4<|au (vi 3)<|bO .Lt<|sq bu<|sq (eu .And (aM (.builtin "len")<|aa 2<|aL 1<|au (vi 1)<|bO .Gt<|sq bu<|ao))<|sq (ite (aa 1<|a' 25<|ba 0<|sq pop<|aa 2<|a' 25<|ba 0<|sq pop<|aa 6<|au (vi 1)<|sq (un .USub)<|sq sub<|au .none<|au (vi 2)<|au .none<|sq fL<|sq sub<|aa 0<|au (.str "gone")<|sq cD<|ao) (aa 4<|au (vi 4)<|bO .Lt<|sq bu<|sq (ite (aM (.ref 587)<|aa 0<|aM (.builtin "len")<|aa 5<|aL 1<|aL 2<|aM (.ref 587)<|aa 0<|aM (.builtin "len")<|aa 5<|aL 1<|aL 2<|bc 2<|sq (Ck [7,8])<|aa 1<|a' 49<|aa 7<|aa 8<|au (.str "told")<|au (.str "t")<|aM (.type "str")<|aa 3<|aL 1<|dk .Add<|bc 2<|ba 3<|sq pop<|aa 5<|aa 6<|aa 7<|aa 8<|au (.str "t")<|aM (.type "str")<|aa 3<|aL 1<|dk .Add<|bc 3<|eY 1<|dk .Add<|bc 2<|aa 2<|au (vi 1)<|sq (un .USub)<|sq cD<|ao) (aa 4<|au (vi 4)<|bO .Eq<|sq bu<|sq (ite (aM (.ref 607)<|aa 0<|aa 1<|aa 5<|au (.str "f")<|aL 4<|gd 2<|aN 9<|aN 10<|aa 9<|aa 10<|sq sub<|au (vi 1)<|sq sub<|aN 11<|aa 1<|a' 49<|aa 10<|aa 11<|au (.str "rule")<|au (.str "r")<|au (.str "?x")<|aa 11<|bc 2<|bc 1<|bc 3<|ba 3<|sq pop<|aa 9<|aa 6<|aa 10<|aa 11<|au (.str "")<|bc 3<|eY 1<|dk .Add<|bc 2<|aa 2<|au (vi 1)<|sq (un .USub)<|sq cD<|ao) (aM (.ref 607)<|aa 0<|aa 1<|aa 5<|au (.str "fg")<|aM (.ref 587)<|aa 0<|au (vi 2)<|aL 2<|sq sub<|aL 4<|au (vi 0)<|sq sub<|aa 6<|bc 2<|aa 2<|au (vi 1)<|sq (un .USub)<|sq cD<|ao))<|ao))<|ao))<|ao))<|aa 1<|a' 55<|ba 0<|sq pop<|ao) ⟨g,k+8,Q,exc⟩ (λ_ _ σ=>Q .none σ) [vi R] [(0,.loc wa),(1,.loc lv),(2,.loc sa),(3,vi lap)] A:=λR n' A c1 c2 c3 u S E H U=>by
  have OI:∀{n'' Sh N3},n''<=n+4->cI wa n'' Sh N3->cI wa (n+4) Sh N3:=λhle hw=>by induction hw with|mk a b c d e=>exact⟨a,b,c,d,U3 e hle⟩
  rw["w",fJ (qT (l:=ls.reverse.map Cx) U rfl ?_),"w",aQ (λq=>?_) λq=>?_,]
  ·
   have G:evs≠[]:=hr.ne.resolve_left λe=>by have:=c3 e;exact ax [.eq af gp,.eq af (.k 3)] (.ff) (.l [0,1,0,0,1]) tt [_] q this
   obtain rfl:w=[]:=Ih.resolve_left λe=>by have:=c3 e;exact ax [.eq af gp,.eq af (.k 3)] (.ff) (.l [0,1,0,0,1]) tt [_] q this
   rw[aw (id H) λpp qh=>?_,<-ho qh.o,"w",JQ H (by rw[[w7],kq OG,]) λf L C=>?_,<-i (C ⟨71,0⟩ rfl).trans U,"w",aW i rfl (by rw[[ma],kp OG,]) λI=>?_,"w",];have J:dn σ ((f.set ⟨71,0⟩ (.one sa (.list (Cz ls (aI h) evs++[sV (aI h) evs]))))):=(E.trans (C.a (.inl (Va _))).k).tQ;show B7 ⟨g,k+8,Q,exc⟩ (λ_ _ σ=>Q .none σ) [.loc lv] ..;exact nY (ls':=(h,evs)::ls) (h1:=h) (w1:=[]) (evs1:=evs) rfl hD (by rw[tS];exact L.same λt N=>aq.ag λe=>by rw[<-e] at N;rw[7 N,]) (z.le (Vx ..)) (hr.up hB (VE _) G)
    ⟨⟨[],rfl⟩,z.le (Vx ..),hr.up hB (VE _) G,G,Lh.up (Vx ..) hB (VE _) ⟨[],rfl⟩⟩ (VJ P) G (OI (ax [.le af (.p aj aF)] (.le af (.p aj (.k 4))) (.l [1,1]) tt [_,_] u) ((S.same (C ⟨70,0⟩ rfl)).same (aq.ag λe=>by injection e with e;cases e))) (by rw[[tT],I,]) (.inl ⟨rfl,[],rfl⟩) J hQ
  ·
   have QW:∀KK:KS,(∀m1 f,lk m1 1=some (.loc lv)->B7 ⟨g,k+8,Q,exc⟩ (λ_ _ σ=>Q .none σ) [.loc lv] m1 f->KK [] m1 f)->NZ ⟨g,k+8,Q,exc⟩ KK [] [(6,.lst (evs.map jd)),(5,.lst ((aI h).map aP)),(4,vi R),(0,.loc wa),(1,.loc lv),(2,.loc sa),(3,vi lap)] A:=λKK QX=>by
    rw[2 NZ,"w",aQ (λq4=>?_) λq4=>?_,]
    ·rw["w",]
     rw[aX bT (U2 ..) Sg ?_,"w",e8 S (ax [.le af (.k 700),.le aj (.p af aF)] (.le aj (.k 900)) (.l [1,1,1]) tt [_,_] hn u) OH λa f ha Cu C=>?_,"w",aX bT (U2 ..) Sg ?_,"w",e8 Cu (ax [.le af (.k 700),.le aj (.p af aF)] (.le (.p aj aF) (.k 900)) (.l [1,1,1]) tt [_,_] hn u) OH λb' pI Cr NX J=>?_,<-ET (H.same (C.kept (.inr (by decide)))).same (J.kept (.inr (by decide))),<-I (J ⟨71,0⟩ rfl).trans ((C ⟨71,0⟩ rfl).trans U),aw (id ET) λpp qh=>?_,<-ho qh.o,<-QY vD lap (Vi hl),"w",Gg (kl hl)<|Bl (U3 QY.2.2 (by rw[VN];decide)) ?_,"w",tH (r:=.told (y6 lap)) ET ha Cr (ax [.le af (.k 25000),.le aj eo,.le (.p aC bH) (.p af (.m 1025 aj))] (.lt aC bQ) (.l [1,1,1025,1]) tt [_,_,_,_] hD Sf jy) (ax [.le af (.k 25000),.le aj eo,.le (.p aC bH) (.p af (.m 1025 aj))] (.le (.p bH (.k 1024)) bQ) (.l [1,1,1025,1]) tt [_,_,_,_] hD Sf jy) λv OC Np W=>?_,<-M (W ⟨71,0⟩ rfl).trans I,"w",Gg (kl hl)<|Bl (U3 QY.2.2 (by rw[VN];decide)) ?_,"w",jG (ko bT bT (by rw[[U2],5 (evs.length+1<=_),ax [.lt af (.k 9),.le aj af] (.le (.p aj aF) aE) (.l [1,1,1]) tt [_,_] hl N2,]) (.inl ?_)),"w",fJ<|ku M rfl λQZ=>?_,];have Nt:dn σ (OC.set ⟨71,0⟩ (.one sa (.list (ls.reverse.map Cx++[.tup [.lst ((aI h).map aP),.lst (evs.map jd++[jd (a,b',y6 lap)])]])))):=(((E.trans C.d.k).trans J.d.k).trans (W.a (.inl (Va _))).k).tQ;rw[QX _ _ rfl (nY (ls':=ls) (h1:=.ed a b' (.told (y6 lap))::h) (w1:=jw h a b' w) (evs1:=evs++[(a,b',y6 lap)]) (B:=if lap<3 then b else b+1) rfl hD (Np.same λt N=>aq.ag λe=>by rw[<-e] at N;rw[7 N,]) ?_ ((hr.ev (e:=(a,b',y6 lap)) (Vi hl) (.inl ⟨rfl,rfl⟩)).up hB (Va _) (by simp)) (Lh.up (Vx ..) hB (VE _) ⟨[_],rfl⟩) (VG P) (by simp) (OI (ax [.le af (.p aj aF)] (.le (.p (.p af aF) aF) (.p aj (.k 4))) (.l [1,1]) tt [_,_] u) ((NX.same (W ⟨70,0⟩ rfl)).same (aq.ag λe=>by injection e with e;cases e))) ?_ (.inl ⟨rfl,[_],rfl⟩) Nt hQ),]
     ·rw[z.ed ha Cr (λ_ h=>Vv _ h) (λe he=>?_) ⟨QY.2.1,Vm _ (Vr _)⟩ z.wl (λn hn=>?_) (ax [.le (.p af aj) (.p aC (.m 1025 bH))] (.le (.p (.p af aF) aj) (.p (.p aC (.k 4)) (.m 1025 bH))) (.l [1,1]) tt [_,_,_,_] jy),]
      ·rcases Vk.mp he with he|he
       ·rw[.inl he,]
       ·rw[[U5.mp he],.inr ⟨rfl,rfl⟩,]
      ·exact(z.kn n hn).imp id λ⟨o,h1,h2⟩=>⟨o,h1,.inl h2⟩
     ·show _=some (GO.one sa (.list (ls.reverse.map Cx++[.tup [.lst ((aI h).map aP),.lst ((evs++[(a,b',y6 lap)]).map jd)]])))
      rw[[Vd],QZ,]
    ·have OJ:¬lap<3:=λq5=>by rcases c1 q5 with e|e<;>omega
     have Uw:b<8:=hb.resolve_left OJ;have h8:nn h<8:=VA hr.hi Uw;rw[U8 OJ] at hQ hB;have G:evs≠[]:=hr.ne.resolve_left λe=>by rw[ax [.CG af (.k 3),.eq af gp] (.ff) (.l [0,1,1]) tt [_] OJ e,]
     obtain rfl:w=[]:=Ih.resolve_left λe=>by rw[ax [.CG af (.k 3),.eq af gp] (.ff) (.l [0,1,1]) tt [_] OJ e,]
     rw["w",aQ (λq5=>?_) λq5=>?_,]
     ·rw["w",]
      rw[vC (.inl rfl) S (ax [.le af (.k 700),.le aj (.p af aF)] (.le aj (.k 800)) (.l [1,1,1]) tt [_,_] hn u) H z (kl hD) h8 OH λnd f e1 e2 e3 Cu L Kv C=>aB λR_ mM=>?_,];obtain⟨x,kd⟩:=nd;rw[mM ?_,0 mM R_,];obtain rfl:x="f":=e1;rw[aw ((List.length_eq_one_iff.mp e2:∃c,kd=[c])) λc JS=>?_,3 JS,];have hc:c<nn h:=e3 c (Vr _);have Ky:=Kw (h:=h) (nd:=("f",[c]));have DG:oZ (aI h) ("f",[c])<nn (fa h ("f",[c])):=aS Ky;have yZ:c<nn (fa h ("f",[c])):=Vg hc Gx;rw[<-i (C ⟨71,0⟩ (by decide) (by decide) (by decide)).trans U,<-Kz Kv.sz,<-N4 Kv.mm,aw (id L) λpp qh=>?_,<-ho qh.o,<-EU gB qh.wf,"w",bz (cm Ky) (ax [.lt af aj,.le aj eo] (.lt af (.k 1000000)) (.l [1,1,1]) tt [_,_] DG EU)<|fq (x:=.str "f") (y:=vi c) (l:=[]) ?_,"w",tH (r:=.rule c) L DG yZ (ax [.le af (.k 25000),.le (.p aj aC) (.p (.p af gI) (.m 1025 bH)),.le bH eo] (.lt aj bQ) (.l [1,1,1,1025]) tt [_,_,_,_] hD Kz N4) (ax [.le af (.k 25000),.le (.p aj aC) (.p (.p af gI) (.m 1025 bH)),.le bH eo] (.le (.p aC (.k 1024)) bQ) (.l [1,1,1,1025]) tt [_,_,_,_] hD Kz N4) λv pI ET J=>?_,<-I (J ⟨71,0⟩ rfl).trans i,"w",jG (ko bT bT (by rw[[U2],5 (evs.length+1<=_),ax [.lt af (.k 9),.le aj af] (.le (.p aj aF) aE) (.l [1,1,1]) tt [_,_] hl N2,]) (.inl ?_)),"w",fJ<|ku I rfl λM=>?_,];have W:dn σ (pI.set ⟨71,0⟩ (.one sa (.list (ls.reverse.map Cx++[.tup [.lst ((aI (fa h ("f",[c]))).map aP),.lst (evs.map jd++[jd ((oZ (aI h) ("f",[c]),c,""):Ev)])]])))):=((E.trans C.k).trans (J.a (.inl (Va _))).k).tQ;have j:=(z.add (nd:=("f",[c])) (U1 rfl) e3 h8 (show PyData.strOk "f"=true by decide+kernel)).2;have Ux:vE (aI (fa h ("f",[c]))) (evs++[((oZ (aI h) ("f",[c]),c,""):Ev)]) (b+1) (lap+1):=by rw[vE.ev (lap:=lap) ?_ (Vi hl) (.inr ⟨rfl,Ky,rfl⟩),[je],hr.more,]
      rw[QX _ _ rfl (nY (ls':=ls) (h1:=.ed (oZ (aI h) ("f",[c])) c (.rule c)::fa h ("f",[c])) (w1:=jw (fa h ("f",[c])) (oZ (aI h) ("f",[c])) c (wN h ("f",[c]) [])) (evs1:=evs++[((oZ (aI h) ("f",[c]),c,""):Ev)]) (B:=b+1) rfl hD (ET.same λt N=>aq.ag λe=>by rw[<-e] at N;rw[7 N,]) ?_ Ux (Lh.up (Vx ..) hB (VE _) ?_) (VG P) (by simp) (OI (n'':=n'+2) (ax [.le af (.p aj aF)] (.le (.p af gI) (.p aj (.k 4))) (.l [1,1]) tt [_,_] u) ((Cu.same (J ⟨70,0⟩ rfl)).same (aq.ag λe=>by injection e with e;cases e))) ?_ (.inl ⟨rfl,?_⟩) W hQ),]
      ·rw[Kv.ed DG yZ (λ_ h=>Vv _ h) (λe he=>?_) ⟨rfl,Vm _ (Vr _)⟩ Kv.wl (λn hn=>?_) (ax [.le (.p af aj) (.p (.p aC gI) (.m 1025 bH))] (.le (.p (.p af aF) aj) (.p (.p aC (.k 4)) (.m 1025 bH))) (.l [1,1]) tt [_,_,_,_] Kz),]
       ·rcases Vk.mp he with he|he
        ·rw[.inl he,]
        ·rw[[U5.mp he],.inr ⟨rfl,rfl⟩,]
       ·exact(Kv.kn n hn).imp id λ⟨o,h1,h2⟩=>⟨o,h1,.inl h2⟩
      ·rw[aw j λpre e=>?_,0 j,⟨.ed _ _ _::pre,by rw[e];rfl⟩,]
      ·show _=some (GO.one sa (.list (ls.reverse.map Cx++[.tup [.lst ((aI (fa h ("f",[c]))).map aP),.lst ((evs++[((oZ (aI h) ("f",[c]),c,""):Ev)]).map jd)]])))
       rw[[Vd],M,]
      ·rw[aw j λpre e=>?_,0 j,⟨.ed _ _ _::pre,by rw[e];rfl⟩,]
     ·rw["w",]
      rw[e8 S (ax [.le af (.k 700),.le aj (.p af aF)] (.le aj (.k 900)) (.l [1,1,1]) tt [_,_] hn u) (by decide) λr f Uy Cu C=>?_,<-L H.same (C.kept (.inr (by decide))),<-i (C ⟨71,0⟩ rfl).trans U,];have Si:∃x:Str,(x="f"\/x="g")/\Txt.item "fg" (r:Int)=x/\fitsSsize (r:Int)=true/\(Txt.charAt "fg" (r:Int)).isSome=true:=by
       match r,Uy with
       |0,_=>exact⟨"f",.inl rfl,by kernel_rfl,by kernel_rfl,by kernel_rfl⟩
       |1,_=>exact⟨"g",.inr rfl,by kernel_rfl,by kernel_rfl,by kernel_rfl⟩
      rw[n4 Si λx hx x1 x2 x3=>?_,0 Si,lY x2 x3 ?_,[x1],"w",vC hx Cu (ax [.le af (.k 700),.le aj (.p af aF)] (.le (.p aj aF) (.k 800)) (.l [1,1,1]) tt [_,_] hn u) L z (kl hD) h8 OH λnd pI e1 e2 e3 NX ET Uz J=>?_,<-I (J ⟨71,0⟩ (by decide) (by decide) (by decide)).trans i,<-j (z.add (nd:=nd) (by rw[e2];split<;>decide) e3 h8 (by rw[e1];rcases hx with rfl|rfl<;>decide+kernel)).2,"w",fJ<|ku I rfl λM=>?_,];have W:dn σ (pI.set ⟨71,0⟩ (.one sa (.list (ls.reverse.map Cx++[sV (aI (fa h nd)) evs])))):=((E.trans C.d.k).trans J.k).tQ;rw[QX _ _ rfl (nY (ls':=ls) (h1:=fa h nd) (w1:=wN h nd []) (evs1:=evs) (B:=b+1) rfl hD (ET.same λt N=>aq.ag λe=>by rw[<-e] at N;rw[7 N,]) (Uz.le (ax [] (.le (.p af gI) (.p af (.k 4))) (.l [1]) tt [_])) ?_ (Lh.up (Vx ..) hB (VE _) j) (VG P) G (OI (n'':=n'+1+2) (ax [.le af (.p aj aF)] (.le (.p (.p af aF) gI) (.p aj (.k 4))) (.l [1,1]) tt [_,_] u) (NX.same (aq.ag λe=>by injection e with e;cases e))) M (.inl ⟨rfl,j⟩) W hQ),[je],hr.more.up (Va _) (VE _) G,]
   rw["w",vd (λq2=>?_) λq2=>?_,]
   ·rw[w_ite (λe=>nomatch e) λ_=>QW _ λm1 f hm hc=>ej hm hc,]
   ·rw["w",]
    rw[aX (cv U rfl) ma (kp OG) ?_,"w",aQ (λq6=>?_) λq6=>?_,]
    ·clear QW
     have G:evs≠[]:=hr.ne.resolve_left λe=>by have:=c3 e;exact ax [.le af aj,.lt aF (.p af aF),.eq aj gp] (.ff) (.l [0,1,1,1]) tt [_,_] P q6 e
     rw[dh (jK G) λe0 e AG=>?_,3 AG,]
     induction ls using List.casesOn with
     |nil=>exact U9 q6 (by decide)
     |cons l ls'=>
      rw[y9 Lh λFi p1 p2 p3 p4=>aw Fi λpre Q0=>?_,0 Lh Fi,];rw[tT] at U;rw[tS,Q0] at H;rw[aw (id H) λpp qh=>?_,<-ho qh.o,"w",NA H λf L C=>?_,<-i (C ⟨71,0⟩ rfl).trans U,"w",dz i rfl (U3 (by rw[[ma],OG,]) (by decide:9<=100000)) λI=>?_,"w",fJ (w5 ?_),"w",tR ?_,"w",]
      induction S with|mk row at_ wh wl wn=>
      rw[<-Sj (C ⟨70,0⟩ rfl).trans wh,eD (k1:=.s "gone") rfl Sj rfl (U1 rfl) λSk=>?_,"w",];have J:dn σ ((f.set ⟨71,0⟩ (.one sa (.list (Cz ls' (aI l.1) l.2)))).set ⟨70,0⟩ (.one wa (.dA (dput (E9 row at_ p) (.s "gone") (.tup [vi e.1,vi e.2.1]))))):=λt t1 t2 t3 t4=>(aq.ag λq=>t3 (by rw[<-q])).trans (((E.trans C.k).tQ) t t1 t2 t3 t4);rw[5 (B7 ⟨g,k+8,Q,exc⟩ (λ_ _ σ=>Q .none σ) [.loc lv] ..),nY (ls':=ls') (h1:=l.1) (w1:=[]) (evs1:=l.2) (p':=(e.1,e.2.1)) (B:=if lap<3 then b else b+1) rfl hD (L.same λt N=>(aq.ag λq=>by rw[<-q] at N;rw[7 N,]).trans (aq.ag λq=>by rw[<-q] at N;rw[7 N,])) (p1.le (Vx ..)) (p2.up hB (VE _) p3) (p4.up (Vx ..) hB (VE _) ⟨[],rfl⟩) (by rw[WB] at P;rw[ax [.le (.p af aF) aj] (.le af (.p aj aF)) (.l [1,1]) tt [_,_] P,]) p3 ⟨row,at_,Sk,wl,by rw[ax [.le af (.p aj aF),.le aC af] (.le aC (.p aj (.k 4))) (.l [1,1,1]) tt [_,_,_] u wn,]⟩ ((aq.ag λq=>by injection q with q;cases q).trans I) (.inr rfl) J hQ,]
    ·rw[QW _ λm1 f hm hc=>ej hm hc,]
 rw[2 nJ,"w",aQ (λq=>?_) λq=>?_,]
 ·have:=Sw q
  rcases this with rfl|rfl|rfl
  ·rw[cb<|X 3 n σ (λ_=>.inr rfl) (by decide) (λ_=>rfl) (Vx ..) hw .refl hu FN,]
  ·rw[fq<|X 0 n σ (λ_=>.inl rfl) (by decide) (λe=>nomatch e) (Vx ..) hw .refl hu FN,]
  ·rw[qU<|X 3 n σ (λ_=>.inr rfl) (by decide) (λe=>nomatch e) (Vx ..) hw .refl hu FN,]
 ·rw["w",]
  rw[e8 hw (kl hn) (by decide) λr A hr S E=>X r (n+1) A (λe=>U9 e q) hr (λe=>by rw[ax [.CG af (.k 3),.eq af gp] (.eq aj (.k 3)) (.l [1,1]) tt [_,_] q e,]) (Va _) S E.d.k (hu.same (E.kept (.inr (by decide)))) ((E ⟨71,0⟩ rfl).trans FN),]
end
end
noncomputable section
noncomputable def fC:List Str:=["whys","nodes","events","homes","pair","paper"]
noncomputable def nZ:SC:=aa 3<|aa 4<|au (vi 0)<|sq sub<|sq sub<|aa 3<|aa 4<|au (vi 1)<|sq sub<|sq sub<|bO .NotEq<|sq bu<|sq (ite (au (.bool false)<|sq cU<|ao) ao)<|
 aM (.ref 602)<|aa 5<|aa 1<|aa 2<|aL 3<|aM (.ref 592)<|aa 1<|aa 4<|au (vi 0)<|sq sub<|aL 2<|aM (.ref 592)<|aa 1<|aa 4<|au (vi 1)<|sq sub<|aL 2<|bc 2<|bO .Eq<|sq cU<|ao
def B8:cB fC (lv fC 14) 14 (aG (dH 32)) ((aT (dH 32)).drop 1)=nZ:=by kernel_rfl
noncomputable def UA(q:Nat->Pos):Stmt:=.Assign [.Name "paper" (q 0)] (.Call (.Attribute (.Name "whys" (q 1)) "paper" (q 2)) [.Subscript (.Name "pair" (q 3)) (.Constant (.int 0) 0 (q 4)) (q 5),.Subscript (.Name "pair" (q 6)) (.Constant (.int 1) 0 (q 7)) (q 8)] [] (q 9)) (q 10)
noncomputable def Sl(q:Nat->Pos):Stmt:=.Return (some (.BoolOp .And [.Compare (.Subscript (.Name "homes" (q 12)) (.Subscript (.Name "pair" (q 13)) (.Constant (.int 0) 0 (q 14)) (q 15)) (q 16)) [.NotEq] [.Subscript (.Name "homes" (q 17)) (.Subscript (.Name "pair" (q 18)) (.Constant (.int 1) 0 (q 19)) (q 20)) (q 21)] (q 22),.Compare (.Attribute (.Name "fault" (q 23)) "place" (q 24)) [.Eq] [.Name "pair" (q 25)] (q 26)] (q 27))) (q 28)
noncomputable def UB(q:Nat->Pos):Stmt:=.Try [UA q] [.ExceptHandler (some (.Name "PaperFault" (q 11))) (some "fault") [Sl q] (q 29)] [] [] (q 30)
noncomputable def Sm(i:Nat):Pos:=([⟨447,8,447,13⟩,⟨447,16,447,20⟩,⟨447,16,447,26⟩,⟨447,27,447,31⟩,⟨447,32,447,33⟩,⟨447,27,447,34⟩,⟨447,36,447,40⟩,⟨447,41,447,42⟩,⟨447,36,447,43⟩,⟨447,16,447,44⟩,⟨447,8,447,44⟩,⟨448,11,448,21⟩,⟨449,15,449,20⟩,⟨449,21,449,25⟩,⟨449,26,449,27⟩,
 ⟨449,21,449,28⟩,⟨449,15,449,29⟩,⟨449,33,449,38⟩,⟨449,39,449,43⟩,⟨449,44,449,45⟩,⟨449,39,449,46⟩,⟨449,33,449,47⟩,⟨449,15,449,47⟩,⟨449,52,449,57⟩,⟨449,52,449,63⟩,⟨449,67,449,71⟩,⟨449,52,449,71⟩,⟨449,15,449,71⟩,⟨449,8,449,71⟩,⟨448,4,449,71⟩,⟨446,4,449,71⟩]:List Pos).getD i ⟨0,0,0,0⟩
def N5:aT (dH 32)=UB Sm::(aT (dH 32)).drop 1:=by kernel_rfl
def Fj(P:Params):exmOne (KR P) (.ref 88) (.ref 88)=some true:=by kernel_rfl
def B9(P:Params):pZ (KR P) 176 "paper" 161=true:=by kernel_rfl
section
variable{g:G0}{A:Around}{env:Env}{c:CS}{hs:List Nat}{a b:Nat}
def B'(i:Base g)(ok:bV env)(d:env.kindOf "homes"=some .local)(kp:env.kindOf "pair"=some .local)(kf:env.kindOf "fault"=some .local)(j:A.units+200<cLine)(p:Nat->Pos)(k:a<hs.length)(C:b<hs.length)(hz:hs.length<=8)(I:hm hs a≠hm hs b)
 (l:c.σ ea=some ⟨t,.exc 88 (some dx) tb⟩) (n:c.σ dx=some ⟨t',.ns fs⟩) (hf:fs.lookup ("place":Str)=some (.tup [vi a,vi b])) (e:c.m.lookup ("homes":Str)=some (.lst (hs.map vi))) (J:c.m.lookup ("pair":Str)=some (.tup [vi a,vi b])) (q:c.m.lookup ("fault":Str)=some (.loc ea)):
 EX g A env [Sl p] c (λf r=>f=.ret (.bool true)/\r=c) iA:=by
 have o:∀{x:Nat} {Q:V->CS->Prop},x<hs.length->Q (vi (hm hs x)) c->bN g A env Is getItem (.lst (hs.map vi)) (vi x) c Q iA:=λ{x Q} u h=>kN (Wj _) (by omega) (ie u) h;rw[pS (zq (vO (t8 (iY (bE ok d e (iY (bE ok kp J (mB (eR (f6 (i0 (o k ?_)))))))))))),iY (bE ok d e (iY (bE ok kp J (mB (eR (f7 (i0 (o C (rU ?_))))))))),[WT I],dt<|t8 (vP (bE ok kf q (DV i l n hf (v7 _) (AK _) rfl (bE ok kp J (vW (.of rfl) (.of rfl) ?_ λv U=>?_))))),]
 ·rw[VA (WC (U3 (X3 ..) (U1 rfl)) _) j,]
 ·exact⟨by rw[U.mpr rfl],rfl⟩
end
section
variable{f:Addr}{nm:List Str}{na:Nat}{fd:FuncData}{body:List Stmt}{S:Scope}{code:SC}{g:G0}{k:Nat}{exc:XQ}{σ:aq}{args:List V}{Q:V->aq->Prop}
def Fl(D:m9 f nm na fd body S code)(o:jB S (nm.take na)=true)(d:args.length=na)(h:code ⟨g,k,Q,exc⟩ (λ_ _ σ=>Q .none σ) [] (jb 0 args) σ)(i:Base g)(j:b8 A (k+1))(l:aD σ c.σ):
 CA g A env (.raw (.ref f)) args c (λv c'=>c'.m=c.m/\∃σ',aD σ' c'.σ/\Q v σ') (λX c'=>c'.m=c.m/\EE exc X c'):=by
 have U:=ra o;have I:args.length=(nm.take na).length:=by rw[[List.length_take,d],(Wl D.hn).symm,]
 rw[(gU i (D.hK _) j (λx a e=>by have:=V8.mp U.1 x a;rw[e] at this;rw[7 this,]) (λn p=>rd (V8.mp U.2 n p)) I λr L J q t b ok u=>j5 ?_).ca,];have w:ER nm ⟨g,k,Q,exc⟩ S r (bh S L J q (some f) fd.code t):=pA i b D.nd ok λx a=>by rw[<-this V8.mp U.1 _ (mem_lookup a),7 this,]
 rw[<-D.hc] at h;exact T.mono (gh (oy 14) (uW _ 14) 14 w (c:=⟨((nm.take na).zip args).reverse,c.σ⟩) (eI D.nd (by rw[d]) I) l h) (λP c' q=>kg rfl q) λX c' e=>by rw[CC (wj (m:=c.m) e) λy C z B E G H M=>⟨y,C,z,B,E,G,H,λT N=>⟨rfl,M T N⟩⟩,]
end
section
variable{g:G0}{k:Nat}{exc:XQ}{σ:aq}{Q:V->aq->Prop}{h:HI}{evs:List Ev}{D bk j a b:Nat}{wo lv:Addr}{st:WS}{ms:List Nat}{hs:List Nat}
def Fm{F:Fr}{σ':aq}{p:V}{m:GM}(e:F.k=k+110)(J:nU (aI h))(I:Kn (aI h) evs (B4 evs))(C:hs.length=(aI h).length)(f:hm hs a=hm hs b)(U:a<nn h)(o:b<nn h)(n:PV (aI h) (B4 evs) 97 p (tm (aI h) a) (tm (aI h) b))(q:F.ret (.bool true) σ')
 (t:lk m 1=some (.lst ((aI h).map aP))) (l2:lk m 2=some (.lst (evs.map jd))) (u:lk m 3=some (.lst (hs.map vi))) (v:lk m 4=some (.tup [vi a,vi b])) (w:lk m 5=some p) {K:KS}:nZ F K [] m σ':=by
 rw[<-d J.le,2 nZ,"w",bz (ie (by rw[[C],U,])) (Vg U (U3 d (by decide))) ?_,"w",bz (ie (by rw[[C],o,])) (Vg o (U3 d (by decide))) ?_,"w",en (U9 f) λ_=>?_,"w",5 (GC F.g F.k F.exc σ' ..),[e],Ff J I n (k+4) _ _ _ (by decide) ?_,"w",5 (GC F.g F.k F.exc σ' ..),[e],jR (k:=k+102) J U ?_,"w",5 (GC F.g F.k F.exc σ' ..),[e],jR (k:=k+102) J o ?_,"w",];have i:Gd 10 (.tup [tm (aI h) a,tm (aI h) b]):=Gd.tup λx I=>by
  rcases Vc.mp I with rfl|I
  ·exact(wZ J a U).le (by have:a<(aI h).length:=U;rw[ax [.le af eo,.lt aj af] (.le (.p aj aF) (.k 9)) (.l [1,1,1]) tt [_,_] d this,])
  ·rcases Vc.mp I with rfl|I
   ·exact(wZ J b o).le (by have:b<(aI h).length:=o;rw[ax [.le af eo,.lt aj af] (.le (.p aj aF) (.k 9)) (.l [1,1,1]) tt [_,_] d this,])
   ·cases I
 rw[tq i.gg i.gg (i.bl (ax [] (.le (.k 10) (.k 200)) (.l [1]) tt [])) λy r=>?_,"w",[r.mpr rfl],q,]
def Fn:∃m0,((["whys","nodes","events","homes","pair"]:List Str).zip [x0,x1,x2,x3,x4]).reverse=m0/\RelM fC (jb 0 [x0,x1,x2,x3,x4]) m0/\m0.lookup ("pair":Str)=some x4/\m0.lookup ("homes":Str)=some x3/\m0.lookup ("whys":Str)=some x0:=
 ⟨_,rfl,eI (by decide+kernel) rfl rfl,bR,bI (by decide) bR,bI (by decide) (bI (by decide) (bI (by decide) (bI (by decide) bR)))⟩
def Fo(B:fK h [] evs D)(hn:nU (aI h))(OB:NW (aI h) evs)(hu:aK lv h h [] ms bk σ)(hy:fb j wo lv st σ)(hj:j<2)(hv:y4 st h bk)(o:hs.length=(aI h).length)(S:hm hs a=hm hs b↔ay (mr h) a=ay (mr h) b)(n:a<nn h)(W:b<nn h)
 (hQ:∀σ',fb j wo lv (some (h,bk)) σ'->bg j ((bK h).length+1) σ σ'->Q (.bool true) σ'):GC g (k+111) exc σ (.raw (.ref 621)) [.loc wo,.lst ((aI h).map aP),.lst (evs.map jd),.lst (hs.map vi),.tup [vi a,vi b]] Q:=λr A env c rm rs=>by
 have hK:=lC g.w.params;have hz:=hn.le;have UC:hs.length<=8:=o▸hz;have Ng:a<hs.length:=o▸n;have Cr:b<hs.length:=o▸W;rw[(vU r hK (by have:=rm.depth;exact ax [.lt (.p af (.p aj (.k 111))) aC] (.lt af aC) (.l [1,1]) tt [_,_,recursionLimit] this) (by rw[hK.scope];decide+kernel) (by rw[hK.scope];decide+kernel) rfl iA (λ_ _ e=>e.elim) λL=>?_).ca,[kM hK,N5],aw rm.fr λl Hz=>?_,];generalize Y:bh (aG (dH 32)) L c7.closure (c7.qualname++".<locals>.") (some 621) c7.code (some L)=env';have ok:bV env':=Y▸p6 (by decide+kernel);have E:b8 (A.deeper env') (k+110):=rm.deeper _;have G:ER fC ⟨g,k+110,Q,iI⟩ (aG (dH 32)) (A.deeper env') env':=by
  subst Y;exact pA r E (by decide+kernel) ok λx hx=>by rw[<-this V8.mp (ra (show jB (aG (dH 32)) ["whys","nodes","events","homes","pair"]=true by decide+kernel)).1 _ (mem_lookup hx),7 this,]
 have I:∀x,List.lookup x (aG (dH 32)).names=some .local->env'.kindOf x=some .local:=λx e=>by rw[8 Y,e,]
 rw[<-kp I "pair" (by decide+kernel),j5 (pR (Ia r ok (Around.frames_deeper Hz) (by subst Y;rfl) (I "fault" (by decide+kernel)) ?_)),dh (id hy) λpa le Cs=>dr Cs λwD bA OD UZ=>?_,0 Cs,<-q rs _ _ OD,xb (Fn (x0:=.loc wo) (x1:=.lst ((aI h).map aP)) (x2:=.lst (evs.map jd)) (x3:=.lst (hs.map vi)) (x4:=.tup [vi a,vi b])) λm0 e0 M mp mh mw=>?_,[e0],pS (ik (rM (bE ok (I "whys" (by decide+kernel)) mw (vR r q.1 q.2 ((qC (i:=33) (by decide)).trans rfl) (B9 _) ?_)) (fR rfl rfl (by show 2<30;decide)))),p7 r (.k (Hr _)) (jj (iY (bE ok kp mp (mB (eR (f6 ?_)))))),jj (iY (bE ok kp mp (mB (eR (f7 ?_))))),pQ ?_,];have yZ:=Fl (g:=g) (k:=k+109) (exc:=λC fs σ'=>C=88/\fs=[(22,.str "two numbers are not alike"),(23,.tup [vi a,vi b])]/\¬dE (fe h) (bK h).length a b/\fb j wo lv (some (h,bk)) σ'/\bg j ((bK h).length+1) σ σ')
  (Q:=λp σ'=>PV (aI h) (B4 evs) 97 p (tm (aI h) a) (tm (aI h) b)/\fb j wo lv (some (h,bk)) σ'/\bg j ((bK h).length+1) σ σ'/\dE (fe h) (bK h).length a b) qJ (by decide+kernel) rfl
  (E8 (k:=k+76) B.lk B.Ur hu hy hj hv n (λp σ' q1 q2 q3 q4=>⟨q1,q2,q3,q4⟩) λq1 σ' q2 q3=>⟨rfl,rfl,q1,q2,q3⟩) r (env:=env') (c:=⟨m0,c.σ⟩) E rs
 rw[λF₀ fv as i1 i2=>T.mono (yZ F₀ fv as i1 i2) (λp t z=>?_) λX t z=>?_,]
 ·rw[aV z λem JS=>xb JS λσ' H hp N P hc=>?_,0 z JS,]
  rw[pT ok (I "paper" (by decide+kernel)) ?_,];have M1:RelM fC ((5,p)::jb 0 [.loc wo,.lst ((aI h).map aP),.lst (evs.map jd),.lst (hs.map vi),.tup [vi a,vi b]]) (("paper",p)::t.m):=RelM.st (by decide+kernel) (em▸M) rfl;have R:cB fC (Mine.lv fC 14) 14 (aG (dH 32)) ((aT (dH 32)).drop 1) ⟨g,k+110,Q,iI⟩ (λ_ _ σ=>Q .none σ) [] ((5,p)::jb 0 [.loc wo,.lst ((aI h).map aP),.lst (evs.map jd),.lst (hs.map vi),.tup [vi a,vi b]]) σ':=by rw[[B8],Fm rfl hn (B.Us hn.wf OB) o (S.mpr (nX.mp hc)) n W hp (hQ σ' N P) rfl rfl rfl rfl rfl,]
  have UD:ER fC ⟨g,k+110,Q,iI⟩ (aG (dH 32)) (A.deeper env') env':=⟨G.hb,G.rm,G.nd,G.ok,G.FX,G.gl,G.bt⟩;rw[T.qx (gh (oy 14) (uW _ 14) 14 UD (c:=⟨("paper",p)::t.m,t.σ⟩) M1 H R) λcf c' q=>kg rfl q,]
 ·rw[aB λR_ mM=>aV z λem Cj=>ah Cj λσ' H u=>GA u λJ C d tb fs Fi e1 e2 e3 v=>y9 v λQ1 Q2 Q3 N P=>mM ?_,0 mM R_ z Cj u v,3 Fi,3 Q1,3 Q2,]
  have Q4:hm hs a≠hm hs b:=λe=>Q3 (nX.mpr (S.mp e));rw[⟨J,88,some d,tb,[("homes",.lst (hs.map vi)),("pair",.tup [vi a,vi b])],.ref 88,rfl,e1,e3,em.symm▸⟨mh,mp,trivial⟩,Fj _,λU hU=>?_⟩,];have h1:J≠U:=λq=>by rw[q,hU] at e1;rw[7 e1,]
  have h2:d≠U:=λq=>by rw[q,hU] at e2;rw[7 e2,]
  have h3:d≠J:=λq=>by rw[q,e1] at e2;cases e2
  have f1:((t.σ.set J ⟨.exc,.exc 88 (some d) (some U)⟩).set U ⟨.tb,.lA .none⟩) J=some ⟨.exc,.exc 88 (some d) (some U)⟩:=by rw[[ak.ag _ _ h1],ak.ae ..,]
  have f2:((t.σ.set J ⟨.exc,.exc 88 (some d) (some U)⟩).set U ⟨.tb,.lA .none⟩) d=t.σ d:=by rw[ak.ag _ _ h2,ak.ag _ _ h3]
  rw[vN r ok (by rw[8 Y,(show List.lookup ("PaperFault":Str) (aG (dH 32)).names=some .globalImplicit by decide+kernel),]) (n9 _) ⟨rfl,f1,ak.ae ..,?_⟩,T.mono (B' (hs:=hs) (a:=a) (b:=b) (ea:=J) (dx:=d) r ok (I "homes" (by decide+kernel)) kp (I "fault" (by decide+kernel)) (by have:=E.units;show(A.deeper env').units+200<_;exact ax [.lt (.p (.p af (.m 4 (.p aj (.k 110)))) (.k 200)) aC] (.lt (.p af (.k 200)) aC) (.l [1,1]) tt [_,_,cLine] this) Sm Ng Cr UC Q4 f1 (f2.trans e2) rfl (bI (by decide) bR) (bI (by decide) (bI (by decide) bR)) bR) (λf c3 z=>?_) λ_ _ e=>e,aV z λQ5 Q6=>?_,0 z,3 Q5,3 Q6,⟨rfl,σ',H.PH λx y k i b n=>?_,hQ σ' N P⟩,];have g1:x≠U:=λq=>by rw[q,hU] at n;rw[7 n,]
  have g2:x≠J:=λq=>by rw[q,e1] at n;cases n
  rw[5 (((t.σ.set J _).set U _) x=_),[ak.ag _ _ g1,ak.ag _ _ g2],n,]
end
end
noncomputable section
def fV(j:Nat)(σ σ':aq):Prop:=∀t:Tg,(t.k<40\/t.k=71\/t.k=74\/(cW 40 43 t=true/\t.i%2≠j))->σ' t=σ t
def fV.trans(h:fV j σ σ')(h':fV j σ' o):fV j σ o:=λt e=>(h' t e).trans (h t e)
def bg.r(h:bg j o σ σ'):fV j σ σ':=λt e=>h t (by rw[e.elim (λe=>.inl (VC.mpr λq=>VV.mpr (az.mp q).1 e)) λe=>e.elim (λe=>.inl (kh e (by decide))) λe=>e.elim (λe=>.inl (kh e (by decide))) λe=>.inr (.inl e),])
def aA.r{j lo hi:Nat}{σ σ':aq}(h:aA lo hi σ σ')(h1:43<=lo)(o:71<lo\/hi<=71)(C:hi<=74):fV j σ σ':=λt e=>h t
 (e.elim (λe=>VC.mpr λq=>VV.mpr (U3 h1 (az.mp q).1) (VK e (by decide))) λe=>e.elim (λe=>kh e o) λe=>e.elim (λe=>kh e (.inr C)) λe=>kU e.1 (.inl h1))
def fV.set(h:fV j σ σ'):fV j σ (σ'.set ⟨75,0⟩ o):=λt e=>(aq.ag λq=>by
 subst q;rcases e with e|e|e|⟨e,_⟩
 ·rw[U9 e (by decide),]
 ·rw[U9 e (by decide),]
 ·rw[U9 e (by decide),]
 ·injection e).trans (h t e)
def fV.del(h:fV j σ σ'):fV j σ (σ'.del ⟨75,0⟩):=λt e=>(aq.aR λq=>by
 subst q;rcases e with e|e|e|⟨e,_⟩
 ·rw[U9 e (by decide),]
 ·rw[U9 e (by decide),]
 ·rw[U9 e (by decide),]
 ·injection e).trans (h t e)
section
variable{k j n bk D:Nat}{wa wo lv:Addr}{h:HI}{evs:List Ev}{p:Nat×Nat}{ms hs:List Nat}{σ0 σ:aq}{F:Fr}{K:KS}{m:GM}
structure KA(j n bk:Nat)(wa wo lv:Addr)(h:HI)(p:Nat×Nat)(ms:List Nat)(σ0 σ:aq):Prop where
 hp:aK lv h h [] ms bk σ
 wl:cI wa n p σ
 fr:fV j σ0 σ
 wy:∃st,fb j wo lv st σ/\y4 st h bk
structure Q7(j D bk:Nat)(h:HI)(evs:List Ev)(hs:List Nat):Prop where
 hj:j<2
 ok:fK h [] evs D
 ns:nU (aI h)
 el:NW (aI h) evs
 hl:hs.length=(aI h).length
 hm:∀a b,a<nn h->b<nn h->(hm hs a=hm hs b↔ay (mr h) a=ay (mr h) b)
noncomputable def KC:SC:=aM (.ref 621)<|aa 1<|aa 3<|aa 4<|aa 5<|aa 9<|aL 5<|sq bu<|sq neg<|sq (ite (au (.bool false)<|sq cU<|ao) ao)<|ao
def w8(C:Q7 j D bk h evs hs)(q:F.k=k+111)(I:KA j n bk wa wo lv h p ms σ0 σ)(i:a<nn h)(l:b<nn h)(w:lk m 1=some (.loc wo))(x:lk m 3=some (.lst ((aI h).map aP)))(y:lk m 4=some (.lst (evs.map jd)))(z:lk m 5=some (.lst (hs.map vi)))(A:lk m 9=some (.tup [vi a,vi b]))
 (t:∀σ',KA j n bk wa wo lv h p ms σ0 σ'->K [] m σ'):KC F K [] m σ:=by
 rw[2 KC,"w",5 (GC F.g F.k F.exc σ ..),[q],ah I.wy λst u v=>Fo C.ok C.ns C.el I.hp u C.hj v C.hl (C.hm a b i l) i l λσ' J o=>?_,"w",w_ite (λe=>U9 e (by decide)) λ_=>t σ' ⟨I.hp.same (o.kept (.inl (by decide))),I.wl.same (o ⟨70,0⟩ (.inl rfl)),I.fr.trans o.r,_,J,λB b e=>by injection e with U;injection U with d f;rw[3 d,3 f,.inr ⟨rfl,[],rfl⟩,]⟩,]
noncomputable def Ca:SC:=gd 2<|aN 7<|aN 8<|ao
noncomputable def Cb:SC:=aM (.builtin "max")<|aa 7<|aa 8<|aL 2<|aM (.builtin "len")<|aa 3<|aL 1<|bO .Lt<|sq bu<|sq (ite (aa 7<|aa 8<|bc 2<|aa 8<|aa 7<|bc 2<|bc 2<|sq (df false (aN 9<|ao) KC)<|ao) ao)<|ao
def N6(C:Q7 j D bk h evs hs)(b:F.k=k+111):∀(l:List (Nat×Nat)) {m:GM} {σ:aq},KA j n bk wa wo lv h p ms σ0 σ->bj [(1,.loc wo),(3,.lst ((aI h).map aP)),(4,.lst (evs.map jd)),(5,.lst (hs.map vi))] m->(∀m σ',KA j n bk wa wo lv h p ms σ0 σ'->r m σ')->
 ef (gb (Ca F) (Cb F)) r (l.map λe=>.tup [vi e.1,vi e.2]) m σ:=by
 intro l
 induction l with
 |nil=>exactλo _ I=>d2 (I _ _ o)
 |cons e l d=>
  intro m σ o J I;rw[[VI],bP [(1,.loc wo),(3,.lst ((aI h).map aP)),(4,.lst (evs.map jd)),(5,.lst (hs.map vi))] J (bX ?_),2 Ca Cb,"w",⟨rfl,?_⟩,"w",Jd ?_,"w",aX (n:=(aI h).length) bT (U2 ..) (U3 C.ns.le (by decide)) ?_,"w",aQ (λq=>?_) λ_=>⟨rfl,d o ⟨rfl,rfl,rfl,rfl,trivial⟩ I⟩,<-f VA (Nat.le_max_left ..) q,<-i VA (Nat.le_max_right ..) q,"w",vl (bP [(1,.loc wo),(3,.lst ((aI h).map aP)),(4,.lst (evs.map jd)),(5,.lst (hs.map vi))] ⟨rfl,rfl,rfl,rfl,trivial⟩ (bX ?_)),"w",⟨rfl,w8 C b o f i rfl rfl rfl rfl rfl λt U=>⟨rfl,?_⟩⟩,bP [(1,.loc wo),(3,.lst ((aI h).map aP)),(4,.lst (evs.map jd)),(5,.lst (hs.map vi))] ⟨rfl,rfl,rfl,rfl,trivial⟩ (bX ?_),"w",⟨rfl,w8 C b U i f rfl rfl rfl rfl rfl λu a=>⟨rfl,?_⟩⟩,d2 ⟨rfl,d a ⟨rfl,rfl,rfl,rfl,trivial⟩ I⟩,]
def Fp(h:∃C,l=C++[e])(k:K (jd e::s) m σ):sub F K (.int (-1)::.lst (l.map jd)::s) m σ:=by rw[aw h λC o=>?_,0 h,3 o,w5 k,]
def N7(o:fK h w evs D)(C:aK lv h h w ms bk σ):nU (aI h):=by rw[aw C λq0 q=>?_,0 C,⟨BN q.bk,gB q.wf,o.op⟩,]
def Gy{g:G0}{exc:XQ}{st:WS}{Q:V->aq->Prop}(Y:aK lv h h [] ms bk σ)(hw:cI wa n p σ)(I:fK h [] evs D)(E:NW (aI h) evs)(f:evs≠[])(G:evs.length<=1000)(h0:0<nn h)(hy:fb j wo lv st σ)(hj:j<2)(hv:y4 st h bk)(hn:n<=800)
 (hQ:∀σ',KA j (n+2) bk wa wo lv h p ms σ σ'->Q (.bool true) σ'):GC g (k+112) exc σ (.raw (.ref 628)) [.loc wa,.loc wo,sV (aI h) evs] Q:=by
 rw[<-U N7 I Y,a8 lP (by decide+kernel) rfl ?_,2 gz,"w",5 (GC g (k+111) exc σ ..),Fe U.wf U.le G (λe A=>⟨(I.ev e A).1,(I.ev e A).2.1⟩) f λhs H hl h1 h2 i=>?_,<-L hw.same (i ⟨70,0⟩ rfl),"w",aX (n:=(aI h).length) bT (U2 ..) (U3 U.le (by decide)) ?_,"w",5 (GC g (k+111) exc H ..),e8 L (kl hn) h0 λa M ha N u=>?_,"w",aX (n:=(aI h).length) bT (U2 ..) (U3 U.le (by decide)) ?_,"w",5 (GC g (k+111) exc M ..),e8 N (kp hn) h0 λb v hb w z=>?_,"w",nK ⟨75,0⟩ λso q1=>?_,"w",fJ<|aw ((⟨evs.getLast f,evs.dropLast,(List.dropLast_concat_getLast f).symm⟩:∃e,∃l',evs=l'++[e])) λe A=>?_,Fp A ?_,"w",tR ?_,"w",<-P w,]
 induction w with|mk row at_ R Sj Sk=>
 have o:(⟨75,0⟩:Tg)≠⟨70,0⟩:=λe=>by cases e
 rw[cx (k1:=.s "gone") rfl R (aq.ag o) rfl ?_,"w",lW<|nN q1 rfl bT (by show 1+2<=100000;decide) λq2=>?_,"w",qX q2 rfl ?_,];have hs:aA 70 74 σ v:=λt J=>by
  have e1:cW 70 71 t=false:=VC.mpr λq=>by have:=az.mp q;rw[az.mpr ⟨this.1,by rw[kl this.2,]⟩] at J;rw[7 J,]
  have e2:cW 72 74 t=false:=VC.mpr λq=>by have:=az.mp q;rw[az.mpr ⟨by rw[ax [.le (.k 72) af] (.le (.k 70) af) (.l [1,1]) tt [_] this.1,],this.2⟩] at J;rw[7 J,]
  exact(z t e1).trans ((u t e1).trans (i t e2))
 have d:∀t:Tg,t.k<70->∀{x y:GO},(((v.set ⟨75,0⟩ x).set ⟨75,0⟩ y).del ⟨75,0⟩) t=σ t:=λt J x y=>by
  have ne:(⟨75,0⟩:Tg)≠t:=λe=>by rw[8 e,U9 J (by decide),]
  exact(aq.aR ne).trans ((aq.ag ne).trans ((aq.ag ne).trans (hs t (VC.mpr λq=>by have:=az.mp q;exact ax [.lt af (.k 70),.le (.k 70) af] (.ff) (.l [0,1,1]) tt [_] J this.1))))
 have C:Q7 j D bk h evs _:=⟨hj,I,U,E,hl,λa b ha hb=>⟨λe=>h1 _ I.good a b ha hb e,λe=>by have f1:=Gv h2 I.eg (λ_ _ e=>e) a;have f2:=Gv h2 I.eg (λ_ _ e=>e) b;rw[e] at f1;rw[f1.trans f2.symm,]⟩⟩
 rw[5 (ef (gb (Ca _) (Cb _)) _ (([(a,b),(e.1,e.2.1),p]:List (Nat×Nat)).map λe=>V.tup [vi e.1,vi e.2]) ..),N6 (k:=k) (n:=n+2) (σ0:=σ) C rfl _ ⟨Y.same (λt J=>d t (by have:=az.mp J;exact kl this.2)),P.same ((aq.aR o).trans ((aq.ag o).trans (aq.ag o))),?_,st,hy.same (λt J=>d t (by have:=az.mp J;exact kl this.2)),hv⟩ ⟨rfl,rfl,rfl,rfl,trivial⟩ λm σ' B=>?_,]
 ·exact((((i.r (by decide) (by decide) (by decide)).trans (u.r (by decide) (by decide) (by decide))).trans (z.r (by decide) (by decide) (by decide))).set.set).del
 ·rw["w",]
  rw[hQ _ ⟨B.hp.same (λt J=>aq.ag λe=>by rw[8 e,7 J,]),B.wl.same (aq.ag o),B.fr.set,?_⟩,ah B.wy λS W X=>⟨S,W.same (λt J=>aq.ag λe=>by rw[8 e,7 J,]),X⟩,]
end
end
noncomputable section
section
variable{g:G0}{k j n b D lap bk:Nat}{exc:XQ}{wa lv sa ka wo wo0 wo1:Addr}{h h':HI}{st:WS}{p:Nat×Nat}{evs:List Ev}{N1:Nat}{σ σ' σ0:aq}{F:Fr}{K:KS}{m:GM}{s:List V}{Q:V->aq->Prop}
def fb.own(h:fb j wo lv st σ)(C:j<2)(hs:∀t,cW 40 43 t=true->t.i%2=j->σ' t=σ t):fb j wo lv st σ':=by rw[dh h λI le o=>dr o λJ U a d=>?_,0 h o,⟨I,le,J,U,(hs ⟨40,j⟩ rfl (Wq C)).trans a,λx e=>?_⟩,tW (d x e) λf l q r u v w=>⟨f,l,(hs ⟨41,j⟩ rfl (Wq C)).trans q,r,u,v,λc y=>(hs ⟨42,2*c+j⟩ rfl ((Nat.mul_add_mod 2 c j).trans (Wq C))).trans (w c y)⟩,]
def y4.grow(I:y4 st h bk)(U:vF h bk h' N1):y4 st h' N1:=λJ x e=>by
 rcases U with⟨rfl,C,rfl⟩|rfl
 ·exact(I J x e).imp id λ⟨a,o,d⟩=>⟨a,C++o,by rw[d,Vo]⟩
 ·rw[.inl ((I J x e).elim Vi λh=>Xy (Vz h.1)),]
noncomputable def yS:Nat->Nat->List V
 |0,_=>[]
 |r+1,x=>vi x::yS r (x+1)
def w9(r:Nat):∀x:Nat,((List.range r).map λi=>vi (x+i))=yS r x:=by
 induction r with
 |zero=>exactλ_=>rfl
 |succ r o=>
  rw[λx=>?_,[List.range_succ_eq_map,VI,VD],Ve (vi x::·) ((Vy λi _=>(Ve vi (W' x 1 i).symm:vi (x+(i+1))=vi (x+1+i))).trans (o (x+1))),]
noncomputable def Li(wo0 wo1:Addr)(j:Nat):Addr:=if j=0 then wo0 else wo1
def Fq(o:j<2):([V.loc wo0,.loc wo1]:List V)[j]?=some (.loc (Li wo0 wo1 j)):=by
 induction j using Nat.casesOn with
 |zero=>rfl
 |succ j=>rw[Nat.lt_one_iff.mp (Nat.lt_of_succ_lt_succ o)];rfl
structure Gz(wa lv sa ka wo0 wo1:Addr)(n D b lap:Nat)(ls:List Cw)(h:HI)(w:List Nat)(evs:List Ev)(bk:Nat)(p:Nat×Nat)(σ:aq):Prop where
 lw:NY wa lv sa n D b lap ls h w evs bk p σ
 kp:σ ⟨74,0⟩=some (.one ka (.list [.loc wo0,.loc wo1]))
 wy:∀j,j<2->∃st,fb j (Li wo0 wo1 j) lv st σ/\y4 st h bk
def KD(wa lv sa wo0 wo1:Addr)(n D b lap:Nat)(ls:List Cw)(h:HI)(evs:List Ev)(bk:Nat)(p:Nat×Nat)(σ:aq):Prop:=NY wa lv sa n D b lap ls h [] evs bk p σ/\∀j,j<2->∃st,fb j (Li wo0 wo1 j) lv st σ/\y4 st h bk
def KD.are(o:KD wa lv sa wo0 wo1 n D b lap ls h evs bk p σ)(f:j<2)(C:KA j U bk wa (Li wo0 wo1 j) lv h p (Cy ls) σ σ'):KD wa lv sa wo0 wo1 U D b lap ls h evs bk p σ':=
 ⟨⟨C.wl,C.hp,(C.fr ⟨71,0⟩ (.inr (.inl rfl))).trans o.1.Lg,o.1.ok,o.1.lr,o.1.sk,o.1.ln,.inr rfl⟩,λJ I=>by
  by_cases q:J=j
  ·rw[[q],C.wy,]
  ·refine ah (o.2 J I) λst a d=>⟨st,a.own I λt e hi=>C.fr t (.inr (.inr (.inr ⟨e,by rw[[hi],q,]⟩))),d⟩⟩
def Gz.are(o:Gz wa lv sa ka wo0 wo1 n D b lap ls h [] evs bk p σ)(I:j<2)(C:KA j J bk wa (Li wo0 wo1 j) lv h p (Cy ls) σ σ'):Gz wa lv sa ka wo0 wo1 J D b lap ls h [] evs bk p σ':=
 have q:=KD.are ⟨o.lw,o.wy⟩ I C
 ⟨q.1,(C.fr ⟨74,0⟩ (.inr (.inr (.inl rfl)))).trans o.kp,q.2⟩
noncomputable def Fs:SC:=aM (.ref 614)<|aa 1<|aa 2<|aa 3<|aa 5<|aL 4<|sq pop<|aa 2<|a' 36<|ba 0<|aM (.builtin "len")<|aa 3<|au (vi 1)<|sq (un .USub)<|sq sub<|au (vi 0)<|sq sub<|aL 1<|bO .NotEq<|sq bu<|sq (eu .Or (aa 2<|a' 46<|ba 0<|aM (.builtin "len")<|aa 3<|aL 1<|au (vi 1)<|dk .Sub<|bO .NotEq<|sq bu<|ao))<|sq (ite (au (.bool false)<|sq cU<|ao) ao)<|
 aM (.ref 628)<|aa 1<|aa 6<|aM (.ref 587)<|aa 1<|au (vi 2)<|aL 2<|sq sub<|aa 3<|au (vi 1)<|sq (un .USub)<|sq sub<|aL 3<|sq bu<|sq neg<|sq (ite (au (.bool false)<|sq cU<|ao) ao)<|ao
def KG(o:lap<=3/\b<=5\/3<=lap/\b<=lap+2):lap+1<=3/\(if lap<3 then b else b+1)<=5\/3<=lap+1/\(if lap<3 then b else b+1)<=lap+1+2:=by
 split
 ·rw[4 q,.inl ⟨q,o.elim (·.2) λh=>U9 q (VV.mpr h.1)⟩,]
 ·rw[4 q,<-q Wn q,.inr ⟨VG q,VJ (o.elim (λh=>U3 h.2 (Wx q 2)) (·.2))⟩,]
def Ft(E:F.k=k+113):∀(r:Nat) {lap n D b:Nat} {ls:List Cw} {h:HI} {w:List Nat} {evs:List Ev} {bk:Nat} {p:Nat×Nat} {m:GM} {σ:aq},Gz wa lv sa ka wo0 wo1 n D b lap ls h w evs bk p σ->lap+r<=6->n+10*r<=500->D+10*r<=20000->(lap<=3/\b<=5\/3<=lap/\b<=lap+2)->
 (r=0->w=[]/\evs≠[])->bj [(1,.loc wa),(2,.loc lv),(3,.loc sa),(6,.loc ka)] m->
 (∀n D b ls h evs bk p m σ,Gz wa lv sa ka wo0 wo1 n D b (lap+r) ls h [] evs bk p σ->evs≠[]->n<=500->bj [(1,.loc wa),(2,.loc lv),(3,.loc sa),(6,.loc ka)] m->Kf m σ)->ef (gb (sq (Mine.st 5) ao F) (Fs F)) Kf (yS r lap) m σ:=by
 intro r
 induction r with
 |zero=>
  intro lap n D b ls h w evs bk p m σ G A B P R h0 x S;rw[aV (h0 rfl) λW J=>?_,3 W,];exact d2 (S _ _ _ _ _ _ _ _ _ _ G J (km B) x)
 |succ r ih=>
  intro lap n D b ls h w evs bk p m σ G A B P R h0 x S;rw[bP [(1,.loc wa),(2,.loc lv),(3,.loc sa),(6,.loc ka)] x (bX ?_),"w",⟨rfl,?_⟩,2 Fs,"w",5 (GC F.g F.k F.exc σ ..),[E],Kx (k:=k+104) G.lw (ax [.le (.p af (.p aj aF)) (.k 6)] (.lt af (.k 9)) (.l [1,1]) tt [_,_] A) (ax [.le (.p af (.m 10 (.p aj aF))) (.k 500)] (.le af (.k 700)) (.l [1,1]) tt [_,_] B) (ax [.le (.p af (.m 10 (.p aj aF))) (.k 20000)] (.le af (.k 25000)) (.l [1,1]) tt [_,_] P) (.inr (R.elim (λq=>VA q.2 (by decide)) λq=>ax [.le af (.p aj gI),.le (.p aj (.p aC aF)) (.k 6)] (.lt af eo) (.l [1,1,1]) tt [_,_,_] q.2 A)) λI X i H p1 U C J hg y=>?_,];have L:Gz wa lv sa ka wo0 wo1 (n+4) (D+4) (if lap<3 then b else b+1) (lap+1) I X [] i H p1 U:=⟨C,(y ⟨74,0⟩ (by decide) (by decide) (by decide) (by decide)).trans G.kp,λj d=>by rw[ah (G.wy j d) λst a c=>⟨st,a.same λt ht=>(by have:=az.mp ht;exact y t this.1 (ax [.lt af (.k 43)] (.ne af (.k 60)) (.l [0,1,1]) tt [_] this.2) (ax [.lt af (.k 43)] (.ne af (.k 70)) (.l [0,1,1]) tt [_] this.2) (ax [.lt af (.k 43)] (.ne af (.k 71)) (.l [0,1,1]) tt [_] this.2)),c.grow hg⟩,]⟩
  rw[0 y hg,aw (id C.heap) λpp qh=>?_,<-ho qh.o,<-h8 gB qh.wf,<-Y C.ln,"w",5 (GC F.g F.k F.exc U ..),[E],wH (k:=k+111) C.heap ?_,"w",fJ (qT (l:=I.reverse.map Cx) C.Lg rfl ?_),"w",aX (n:=(aI X).length) bT (U2 ..) (U3 h8 (by decide)) ?_,"w",MX (U9 rfl) λ_=>?_,"w",5 (GC F.g F.k F.exc U ..),[E],ES (k:=k+112) C.heap ?_,"w",aX (n:=I.length+1) (cv C.Lg rfl) ma (ax [.le (.p af (.p aj aF)) (.k 6),.le aC (.p af aF)] (.le (.p aC aF) aE) (.l [1,1,1]) tt [_,_,_] A Y) ?_,"w",gm (ax [] (.le aF (.p af aF)) (.l [1]) tt [_]) ?_,"w",en (U9 w7) λ_=>?_,"w",5 (GC F.g F.k F.exc U ..),[E],e8 (k:=k+112) (m:=2) C.well (ax [.le (.p af (.m 10 (.p aj aF))) (.k 500)] (.le (.p af (.k 4)) (.k 900)) (.l [1,1]) tt [_,_] B) (by decide) λj M d N f=>?_,<-u (f ⟨74,0⟩ rfl).trans L.kp,<-v (f ⟨71,0⟩ rfl).trans C.Lg,];have z:Gz wa lv sa ka wo0 wo1 (n+5) (D+4) (if lap<3 then b else b+1) (lap+1) I X [] i H p1 M:=⟨⟨N,C.heap.same (f.kept (.inr (by decide))),v,C.ok,C.lr,C.sk,C.ln,.inr rfl⟩,u,λj d=>by rw[ah (L.wy j d) λst a c=>⟨st,a.same (f.kept (.inr (by decide))),c⟩,]⟩
  rw["w",bW u rfl (Fq d) (kl d) ?_,"w",fJ (qT (l:=I.reverse.map Cx) v rfl ?_),"w",5 (GC F.g F.k F.exc M ..),[E],ah (z.wy j d) λst hy hv=>Gy (k:=k+1) z.lw.heap N C.ok C.lr.l J (U3 C.lr.n (ax [.le (.p af (.p aj aF)) (.k 6)] (.le (.p af aF) (.k 1000)) (.l [1,1]) tt [_,_] A)) (Vg (by decide) C.lr.lo) hy d hv (ax [.le (.p af (.m 10 (.p aj aF))) (.k 500)] (.le (.p (.p af (.k 4)) aF) (.k 800)) (.l [1,1]) tt [_,_] B) λpI ha=>?_,<-UE z.are d ha,"w",w_ite (λe=>U9 e (by decide)) λ_=>⟨rfl,?_⟩,ih UE (ax [.le (.p af (.p aj aF)) (.k 6)] (.le (.p (.p af aF) aj) (.k 6)) (.l [1,1]) tt [_,_] A) (ax [.le (.p af (.m 10 (.p aj aF))) (.k 500)] (.le (.p (.p (.p (.p af (.k 4)) aF) gI) (.m 10 aj)) (.k 500)) (.l [1,1]) tt [_,_] B) (ax [.le (.p af (.m 10 (.p aj aF))) (.k 20000)] (.le (.p (.p af (.k 4)) (.m 10 aj)) (.k 20000)) (.l [1,1]) tt [_,_] P) (KG R) (λ_=>⟨rfl,J⟩) ⟨rfl,rfl,rfl,rfl,trivial⟩ λn D b ls h evs bk p m σ e=>S n D b ls h evs bk p m σ (by rw[[show lap+(r+1)=lap+1+r by rw[ax [] (.eq (.p af (.p aj aF)) (.p (.p af aF) aj)) (.s 0 (.l [1]) (.l [1])) tt [_,_],]],e,]),]
noncomputable def KH:SC:=aM (.ref 628)<|aa 1<|aa 8<|aa 3<|au (vi 1)<|sq (un .USub)<|sq sub<|aL 3<|sq bu<|sq neg<|ao
noncomputable def w':SC:=sq (comp false [3,1] (aa 6<|ao) (aN 8<|ao) KH (aa 8<|ao))<|eY 0<|bO .Eq<|sq cU<|ao
def xa(J:F.k=k+113)(o:KD wa lv sa wo0 wo1 n D b lap ls h evs bk p σ)(C:evs≠[])(U:lap<=900)(a:n<=800)(I:j<2)(q:lk m 1=some (.loc wa))(r:lk m 3=some (.loc sa))(t:lk m 8=some (.loc (Li wo0 wo1 j)))
 (d:∀σ',KD wa lv sa wo0 wo1 (n+2) D b lap ls h evs bk p σ'->K [.bool false] m σ'):KH F K [] m σ:=by
 rw[2 KH,"w",fJ (qT (l:=ls.reverse.map Cx) o.1.Lg rfl ?_),"w",5 (GC F.g F.k F.exc σ ..),[J],ah (o.2 j I) λst e f=>Gy (k:=k+1) o.1.heap o.1.well o.1.ok o.1.lr.l C (U3 o.1.lr.n (kl U)) (Vg (by decide) o.1.lr.lo) e I f a λσ' i=>?_,"w",d σ' (o.are I i),]
def Cc(d:F.k=k+113)(o:Gz wa lv sa ka wo0 wo1 n D b lap ls h [] evs bk p σ)(I:evs≠[])(f:lap<=900)(i:n<=700)(q:lk m 1=some (.loc wa))(r:lk m 3=some (.loc sa))(B:lk m 6=some (.loc ka))(u:∀σ',F.ret (.bool true) σ'):w' F K [] m σ:=by
 rw[2 w',cj [(3,.loc sa),(1,.loc wa)] rfl ⟨r,q,trivial⟩ ?_,"w",aY ⟨r,q,trivial⟩ (.loc o.kp) ?_,];have ne:∀{t:Tg},t.k≠74->(σ.del ⟨74,0⟩) t=σ t:=λ{t} J=>aq.aR λe=>J (by rw[<-e]);have C:∀{lo hi:Nat},hi<=74->Kept lo hi σ (σ.del ⟨74,0⟩):=λ{lo hi} h t J=>ne (by have:=az.mp J;exact ax [.le af (.k 74),.lt aj af] (.ne aj (.k 74)) (.l [0,1,1,1]) tt [_,_] h this.2);have v:KD wa lv sa wo0 wo1 n D b lap ls h evs bk p (σ.del ⟨74,0⟩):=⟨⟨o.lw.well.same (ne (by decide)),o.lw.heap.same (C (by decide)),(ne (by decide)).trans o.lw.Lg,o.lw.ok,o.lw.lr,o.lw.sk,o.lw.ln,.inr rfl⟩,λj w=>by rw[ah (o.wy j w) λst a c=>⟨st,a.same (C (by decide)),c⟩,]⟩
 rw[dg (bG ⟨rfl,xa (j:=0) (k:=k) d v I f (kl i) (by decide) rfl rfl rfl λx U=>nM (λe=>nomatch e) λ_=>⟨⟨rfl,rfl,trivial⟩,?_⟩⟩),dg (bG ⟨rfl,xa (j:=1) (k:=k) d U I f (kp i) (by decide) rfl rfl rfl λy z=>nM (λe=>nomatch e) λ_=>⟨⟨rfl,rfl,trivial⟩,?_⟩⟩),eJ<|iq (tq (.of rfl) (.of rfl) rfl λb A=>?_),"w",[A.mpr rfl],u _,]
end
end
noncomputable section
def Q8:lQ "a":=⟨by kernel_rfl,by decide+kernel,by decide+kernel,by kernel_rfl,by kernel_rfl,by kernel_rfl,by decide+kernel⟩
def Q9:lQ "b":=⟨by kernel_rfl,by decide+kernel,by decide+kernel,by kernel_rfl,by kernel_rfl,by kernel_rfl,by decide+kernel⟩
def Ra:lQ "c":=⟨by kernel_rfl,by decide+kernel,by decide+kernel,by kernel_rfl,by kernel_rfl,by kernel_rfl,by decide+kernel⟩
section
variable{g:G0}{k n b D:Nat}{exc:XQ}{wa lv sa:Addr}{h:HI}{w:List Nat}{p:Nat×Nat}{σ σ0:aq}{F:Fr}{K:KS}{m:GM}{s:List V}{Q:V->aq->Prop}
def Cd(h:σ t=some (.one a (.dA [])))(k:K (.loc a::s) m (σ.set t (.one a (.dA [(.s "row",x),(.s "at",y),(.s "gone",z)])))):mZ 3 F K (z::.str "gone"::y::.str "at"::x::.str "row"::.loc a::s) m σ:=
 ⟨a,t,rfl,h,by rw[5 (K _ _ (σ.set t (.one a (.dA (j7 [] [(.s "row",x),(.s "at",y),(.s "gone",z)]))))),[show j7 [] [(Atom.s "row",x),(Atom.s "at",y),(Atom.s "gone",z)]=[(Atom.s "row",x),(Atom.s "at",y),(Atom.s "gone",z)] by rfl],k,]⟩
def Fu(k:K (.lst [x,y,z]::s) m σ):lst 3 F K (z::y::x::s) m σ:=⟨by decide,.inl k⟩
def KI(k:K (vi (x.fmod 1000003).toNat::s) m σ):bin .Mod F K (vi 1000003::.int x::s) m σ:=λC A env c I o=>mJ (by decide) ⟨rfl,σ,o,by have:((x.fmod 1000003).toNat:Int)=x.fmod ((1000003:Nat):Int):=Int.toNat_of_nonneg (Int.fmod_nonneg_of_pos x (by decide));rw[<-this];rw[k,]⟩
noncomputable def KJ:SC:=aa 2<|a' 39<|aa 4<|ba 1<|sq pop<|ao
def rv(i:F.k=k+113)(d:aK lv h h w [] 0 σ)(J:fK h w [] D)(j:lQ x)(hs:PyData.strOk x=true)(e:nn h<8)(f:D<=100)(l2:lk m 2=some (.loc lv))(u:lk m 4=some (.tup [.str x]))
 (q:∀σ',aK lv (fa h (x,[])) (fa h (x,[])) (wN h (x,[]) w) [] 0 σ'->fK (fa h (x,[])) (wN h (x,[]) w) [] (D+2)->bB σ σ'->K [] m σ'):KJ F K [] m σ:=by
 rw[aw (id d) λv r=>?_,<-y r.o,<-C J.mm,<-I J.sz,2 KJ,"w",5 (GC F.g F.k F.exc σ ..),[i],ND (k:=k+105) d j e (ax [.le af bU,.le aj eo,.le (.p aC bH) (.p af (.m 1025 aj))] (.lt (.p aC aF) bQ) (.l [1,1,1025,1]) tt [_,_,_,_] f C I) (ax [.le af bU,.le aj eo,.le (.p aC bH) (.p af (.m 1025 aj))] (.le (.p bH (.k 1024)) bQ) (.l [1,1,1025,1]) tt [_,_,_,_] f C I) λσ' U a=>?_,"w",q σ' U (J.add (nd:=(x,[])) (Vj _) (λc t=>nomatch t) e hs).1 a,]
noncomputable def KL:SC:=aM (.ref 607)<|aa 1<|aa 2<|aa 3<|au (vi 0)<|sq sub<|au (vi 0)<|sq sub<|au (.str "fg")<|aM (.ref 587)<|aa 1<|au (vi 2)<|aL 2<|sq sub<|aL 4<|au (vi 0)<|sq sub<|eY 0<|bc 2<|aa 3<|au (vi 0)<|sq cD<|ao
def Rb(o:j<2)(k:∀x:Str,x="f"\/x="g"->K (.str x::s) m σ):sub F K (vi j::.str "fg"::s) m σ:=by
 rcases j with _|_|j
 ·rw[lY (by decide) (by decide+kernel) (k _ (.inl (by kernel_rfl))),]
 ·rw[lY (by decide) (by decide+kernel) (k _ (.inr (by kernel_rfl))),]
 ·omega
def Fv(P:F.k=k+113):∀(r:Nat) {lap n D:Nat} {h:HI} {w:List Nat} {m:GM} {σ:aq},aK lv h h w [] 0 σ->fK h w [] D->cI wa n p σ->σ ⟨71,0⟩=some (.one sa (.list [sV (aI h) []]))->3<=nn h->nn h+r<=5->D+2*r<=100->n+3*r<=100->
 bj [(1,.loc wa),(2,.loc lv),(3,.loc sa)] m->
 (∀n D h w m σ,aK lv h h w [] 0 σ->fK h w [] D->cI wa n p σ->σ ⟨71,0⟩=some (.one sa (.list [sV (aI h) []]))->3<=nn h->nn h<=5->D<=100->n<=100->bj [(1,.loc wa),(2,.loc lv),(3,.loc sa)] m->S m σ)->ef (gb (sq (Mine.st 5) ao F) (KL F)) S (yS r lap) m σ:=by
 intro r
 induction r with
 |zero=>exactλq u v o d f i I C y=>d2 (y _ _ _ _ _ _ q u v o d f i I C)
 |succ r W=>
  intro lap n D h w m σ q u v o d f i I C y;rw[bP [(1,.loc wa),(2,.loc lv),(3,.loc sa)] C (bX ?_),"w",⟨rfl,?_⟩,2 KL,"w",bW (n:=0) o rfl rfl (by decide) ?_,"w",5 (GC F.g F.k F.exc σ ..),[P],e8 (k:=k+112) (m:=2) v (ax [.le (.p af (.m 3 (.p aj aF))) bU] (.le af (.k 900)) (.l [1,1]) tt [_,_] I) (by decide) λj z X A J=>Rb X λx Y=>?_,"w",5 (GC F.g F.k F.exc z ..),[P],vC (k:=k+105) Y A (ax [.le (.p af (.m 3 (.p aj aF))) bU] (.le (.p af aF) (.k 800)) (.l [1,1]) tt [_,_] I) (q.same (J.kept (.inr (by decide)))) u (ax [.le (.p af (.m 2 (.p aj aF))) bU] (.le af (.k 30000)) (.l [1,1]) tt [_,_] i) (ax [.le (.p af (.p aj aF)) (.k 5)] (.lt af eo) (.l [1,1]) tt [_,_] f) (ax [.le (.k 3) af] (.lt gp af) (.l [1,1]) tt [_] d) λB BA e1 e2 e3 E G H L=>?_,<-U (L ⟨71,0⟩ (by decide) (by decide) (by decide)).trans ((J ⟨71,0⟩ rfl).trans o),];have M:nn h<=nn (fa h B):=Gx;have N:nn (fa h B)<=nn h+1:=by
   show(aI (fa h B)).length<=(aI h).length+1;rw[je];split
   ·rw[Vx ..,]
   ·rw[[U7],Va _,]
  rw["w",iq ?_,"w",vg (n:=0) U rfl (by show 0<1;decide) (by show 1<=100000;decide) λa=>⟨rfl,?_⟩,W (G.same λt R=>aq.ag λe=>by rw[<-e] at R;rw[7 R,]) H (E.same (aq.ag λe=>by injection e with e;cases e)) a (ax [.le (.k 3) af,.le af aj] (.le (.k 3) aj) (.l [1,1,1]) tt [_,_] d M) (ax [.le (.p af (.p aj aF)) (.k 5),.le aC (.p af aF)] (.le (.p aC aj) (.k 5)) (.l [1,1,1]) tt [_,_,_] f N) (ax [.le (.p af (.m 2 (.p aj aF))) bU] (.le (.p (.p af gI) (.m 2 aj)) bU) (.l [1,1]) tt [_,_] i) (ax [.le (.p af (.m 3 (.p aj aF))) bU] (.le (.p (.p (.p af aF) gI) (.m 3 aj)) bU) (.l [1,1]) tt [_,_] I) ⟨rfl,rfl,rfl,trivial⟩ y,]
def yT(u:F.k=k+113)(hu:aK lv h h w [] 0 σ)(hq:fK h w [] D)(hw:cI wa n p σ)(E:σ ⟨71,0⟩=some (.one sa (.list [sV (aI h) []])))(h3:3<=nn h)(h5:nn h<=5)(hD:D<=100)(hn:n<=100)
 (l1:lk m 1=some (.loc wa)) (l2:lk m 2=some (.loc lv)) (l3:lk m 3=some (.loc sa)) (hQ:∀σ',F.ret (.bool true) σ'):
 (aM (.ref 176)<|aa 2<|aL 1<|aM (.ref 176)<|aa 2<|aL 1<|eY 2<|aN 6<|aM (.type "range")<|au (vi 5)<|aM (.ref 587)<|aa 1<|au (vi 2)<|aL 2<|dk .Add<|aL 1<|sq (df false (sq (Mine.st 5) ao) Fs)<|w') F K [] m σ:=by
 rw["w",5 (GC F.g F.k F.exc σ ..),[u],BP (k:=k+111) (j:=0) (by decide) λI G H L=>?_,"w",5 (GC F.g F.k F.exc G ..),[u],BP (k:=k+111) (j:=1) (by decide) λJ U M v=>I6 ⟨74,0⟩ λka N=>?_,"w",];have C:∀{t:Tg} {o:GO},cW 40 44 t=false->t.k≠74->(U.set ⟨74,0⟩ o) t=σ t:=λ{t o} h1 h2=>(aq.ag λe=>h2 (by rw[<-e])).trans ((v t (.inl h1)).trans (L t (.inl h1)));rw[<-P hw.same (C (o:=.one ka (.list [.loc I,.loc J])) rfl (by decide)),5 (GC F.g F.k F.exc ..),[u],e8 (k:=k+112) (m:=2) P (kl hn) (by decide) λr z A R a=>ve (hO ?_),vm (x:=0) (y:=5+r) (Vj _) (ax [.lt af gI] (.lt (.p (.k 5) af) (.k 1000000)) (.l [1,1]) tt [_] A) ?_,[w9,Nat.sub_zero],<-B (a ⟨74,0⟩ rfl).trans N,];have hy:∀{j:Nat} {i:Addr},fb j i lv none (U.set ⟨74,0⟩ (.one ka (.list [.loc I,.loc J])))->fb j i lv none z:=λ{j i} h=>h.same (a.kept (.inr (by decide)));have d:∀{j:Nat} {i:Addr} {o:GO},fb j i lv none U->fb j i lv none (U.set ⟨74,0⟩ o):=λ{j i o} h=>h.same λt f=>aq.ag λe=>by rw[<-e] at f;rw[7 f,]
 have k2:Kept 0 40 σ z:=λt f=>(a.kept (by decide) t f).trans (C (kU f (by decide)) (by have:=az.mp f;exact ax [.lt af (.k 40)] (.ne af (.k 74)) (.l [0,1,1]) tt [_] this.2));have S:=(a ⟨71,0⟩ rfl).trans (C rfl (by decide));have W:vE (aI h) [] 5 0:=⟨⟨λe q=>(nomatch q),λe q=>(nomatch q),λe q=>(nomatch q)⟩,h5,h3,Va _,λe q=>(nomatch q),.inl rfl⟩;rw[Ft (F:=F.lst none (yS (5+r) 0)) (k:=k) (wo0:=I) (wo1:=J) u (5+r) (lap:=0) (n:=n+1) (D:=D) (b:=5) (ls:=[]) (h:=h) (w:=w) (evs:=[]) (bk:=0) (p:=p) ⟨⟨R,hu.same k2,S.trans E,hq,W,trivial,Va _,.inl rfl⟩,B,λj hj=>?_⟩ (ax [.lt af gI] (.le (.p gp (.p (.k 5) af)) (.k 6)) (.l [1,1]) tt [_] A) (ax [.le af bU,.lt aj gI] (.le (.p (.p af aF) (.m 10 (.p (.k 5) aj))) (.k 500)) (.l [1,1,10]) tt [_,_] hn A) (ax [.le af bU,.lt aj gI] (.le (.p af (.m 10 (.p (.k 5) aj))) (.k 20000)) (.l [1,1,10]) tt [_,_] hD A) (.inl ⟨by decide,by decide⟩) (λe=>nomatch(Yi 5 r).symm.trans e) ⟨l1,l2,l3,rfl,trivial⟩ λn' D' b' ls h' X bk p m σ' hI C Y hm=>?_,]
 ·rw[⟨none,?_,λ_ _ e=>nomatch e⟩,]
  rcases j with _|_|j
  ·rw[hy (d (H.own (by decide) λt f hi=>v t (.inr ⟨f,by rw[hi];decide⟩))),]
  ·rw[hy (d M),]
  ·omega
 ·rw[Cc (k:=k) u hI C (ax [.lt af gI] (.le (.p gp (.p (.k 5) af)) (.k 900)) (.l [1,1]) tt [_] A) (kl Y) hm.1 hm.2.2.1 hm.2.2.2.1 hQ,]
end
end
noncomputable section
section
variable{g:G0}{k n b D:Nat}{exc:XQ}{wa lv sa:Addr}{h:HI}{w:List Nat}{p:Nat×Nat}{σ σ0:aq}{F:Fr}{K:KS}{m:GM}{s:List V}{Q:V->aq->Prop}
noncomputable def KN:SC:=aM (.ref 176)<|aa 2<|aL 1<|aM (.ref 176)<|aa 2<|aL 1<|eY 2<|aN 6<|aM (.type "range")<|au (vi 5)<|aM (.ref 587)<|aa 1<|au (vi 2)<|aL 2<|dk .Add<|aL 1<|sq (df false (sq (Mine.st 5) ao) Fs)<|w'
noncomputable def vG:SC:=aa 3<|au (vi 0)<|sq sub<|au (vi 0)<|sq sub<|sq (df false (aN 4<|ao) KJ)<|aM (.type "range")<|au (vi 1)<|aM (.ref 587)<|aa 1<|au (vi 2)<|aL 2<|dk .Add<|aL 1<|sq (df false (aN 5<|ao) KL)<|KN
noncomputable abbrev Sn:List Nd:=[("a",[]),("b",[]),("c",[])]
def yU(d:F.k=k+113)(A:aK lv [] [] [] [] 0 σ)(G:cI wa 0 p σ)(C:σ ⟨71,0⟩=some (.one sa (.list [sV Sn []])))
 (P:lk m 1=some (.loc wa)) (l2:lk m 2=some (.loc lv)) (R:lk m 3=some (.loc sa)) (S:∀σ',F.ret (.bool true) σ'):vG F K [] m σ:=by
 have B:fK [] [] [] 0:=⟨trivial,λ_ h=>(nomatch h),trivial,λ_ h=>(nomatch h),λn e=>U9 e (VT _),λ_ h=>(nomatch h),λn e=>U9 e (VT _),λ_ h=>(nomatch h),Vj _⟩;rw[2 vG,"w",bW (n:=0) C rfl rfl (by decide) ?_,"w",hV (bP [(1,.loc wa),(2,.loc lv),(3,.loc sa)] ⟨P,l2,R,trivial⟩ (bX ?_)),"w",⟨rfl,rv (F:=F.lst none _) (x:="a") d A B Q8 (by decide+kernel) (by decide) (by decide) rfl rfl λW f i j=>⟨rfl,?_⟩⟩,bP [(1,.loc wa),(2,.loc lv),(3,.loc sa)] ⟨rfl,rfl,rfl,trivial⟩ (bX ?_),"w",⟨rfl,rv (F:=F.lst none _) (x:="b") d f i Q9 (by decide+kernel) (by decide+kernel) (by decide) rfl rfl λX q t u=>⟨rfl,?_⟩⟩,bP [(1,.loc wa),(2,.loc lv),(3,.loc sa)] ⟨rfl,rfl,rfl,trivial⟩ (bX ?_),"w",⟨rfl,rv (F:=F.lst none _) (x:="c") d q t Ra (by decide+kernel) (by decide+kernel) (by decide) rfl rfl λY J U v=>⟨rfl,d2 ?_⟩⟩,];have a:aI (fa (fa (fa [] (("a":Str),[])) (("b":Str),[])) (("c":Str),[]))=Sn:=by decide+kernel
 have H:=(j.trans u).trans v;have L:=G.same (H ⟨70,0⟩ rfl);have o:=(H ⟨71,0⟩ rfl).trans C;have I:nn (fa (fa (fa [] (("a":Str),[])) (("b":Str),[])) (("c":Str),[]))=3:=by show(aI _).length=3;rw[a];rfl
 rw[<-a] at o;revert J U o I;generalize fa (fa (fa [] (("a":Str),[])) (("b":Str),[])) (("c":Str),[])=N;generalize wN (fa (fa [] (("a":Str),[])) (("b":Str),[])) (("c":Str),[]) (wN (fa [] (("a":Str),[])) (("b":Str),[]) (wN [] (("a":Str),[]) []))=w3;intro J U o I;rw[0 a H j u v f i q t A B,"w",5 (GC F.g F.k F.exc ..),[d],e8 (k:=k+112) (m:=2) L (ax [] (.le gp (.k 900)) (.l [1]) tt []) (by decide) λr OC E M z=>ve (hO ?_),vm (x:=0) (y:=1+r) (Vj _) (ax [.lt af gI] (.lt (.p aF af) (.k 1000000)) (.l [1,1]) tt [_] E) ?_,[w9,Nat.sub_zero],Fv (F:=F.lst none (yS (1+r) 0)) (k:=k) (lv:=lv) (sa:=sa) (wa:=wa) d (1+r) (lap:=0) (D:=6) (J.same (z.kept (.inr (by decide)))) U M ((z ⟨71,0⟩ rfl).trans o) (ax [.eq af (.k 3)] (.le (.k 3) af) (.l [1,0,1]) tt [_] I) (ax [.eq af (.k 3),.lt aj gI] (.le (.p af (.p aF aj)) (.k 5)) (.l [1,1,0,1]) tt [_,_] I E) (ax [.lt af gI] (.le (.p (.k 6) (.m 2 (.p aF af))) bU) (.l [1,2]) tt [_] E) (ax [.lt af gI] (.le (.p aF (.m 3 (.p aF af))) bU) (.l [1,3]) tt [_] E) ⟨rfl,rfl,rfl,trivial⟩ λn D h w m σ' A B G C N h5 hD e hm=>Mine.yT (k:=k) d A B G C N h5 hD e hm.1 hm.2.1 hm.2.2.1 S,]
def Ce{xs:List Int}(hz:xs.length<=100000)(i:∀σ',Q (.bool true) σ'):Bg ⟨g,k+113,Q,iI⟩ (λ_ _ σ=>Q .none σ) [] (jb 0 [.lst (xs.map .int)]) σ:=by
 rw[2 Bg,qR ⟨70,0⟩ λwa C=>?_,"w",cj [] rfl trivial ?_,"w",jH bT .none (.int 45) .none (by decide) (by rw[[U2],hz,]) (ly _) (.inl ?_),];rw[<-List.map_take];rw[aY trivial (.lst _) ?_,<-o List.length_take_le 45 xs,bJ (y:=λx:Int=>vi (x.fmod 1000003).toNat) (xs.take 45) [] (λx u j v I J=>?_) (by rw[[Wm,Wk],U3 o (by decide),]) ?_,]
 ·rw[bG ⟨rfl,nM (λ_=>?_) λe=>nomatch e⟩,]
  rw["w",M8 ?_,"w",KI<|⟨trivial,I,J⟩,]
 rw["w",Cd C ?_,];have U:cI wa 0 (0,1) ((σ.set ⟨70,0⟩ (.one wa (.dA []))).set ⟨70,0⟩ (.one wa (.dA [(.s "row",.lst ([]++(xs.take 45).map λx:Int=>vi (x.fmod 1000003).toNat)),(.s "at",vi 0),(.s "gone",.tup [vi 0,vi 1])]))):=
  ⟨(xs.take 45).map λx:Int=>(x.fmod 1000003).toNat,0,by rw[[aq.ae,Wg],2 E9,[VD],];rfl,by rw[[U2],o,],Va _⟩
 rw["w",5 (GC g (k+113) iI ..),JZ (k:=k+108) λlv l q r=>?_,<-a U.same (r ⟨70,0⟩ rfl),"w",Fu (iq ?_),nK ⟨71,0⟩ λsa d=>?_,];refine'(?_:vG ⟨g,k+113,Q,iI⟩ (λ_ _ σ=>Q .none σ) [] ((3,.loc sa)::(2,.loc lv)::(1,.loc wa)::_) _);rw[yU (k:=k) rfl (q.same λt f=>aq.ag λe=>by rw[<-e] at f;rw[7 f,]) (a.same (aq.ag λe=>by injection e with e;cases e)) d rfl rfl rfl i,]
end
end
noncomputable section
section
variable{g:G0}{A:Around}{Q:V->CS->Prop}
def yV(hb:Base g)(hs:g.h₀=s.heap)(R:g.os=s.os)(hg:s.gens=#[]) (hA:A.frames=some [])
 (W:IsL s.heap.get? args U) (hK:fN (KK g) f fd body names S) (D:A.depth<recursionLimit) (Rc:fd.closure=[])
 (G:∀L,∀n∈names,fd.scope.names.lookup n=some .local\/(fd.scope.names.lookup n=some .cell/\((cellsFrom (L+1) fd.scope.names []).lookup n).isSome=true)) (C:args.length=names.length)
 (h:∀L,EX g (A.deeper (callEnvC fd L f)) (callEnvC fd L f) body ⟨(names.zip args).reverse,λ_=>none⟩ (λcf c'=>Q (gP cf) c') iA)
 (O5:∀x∈fd.scope.names,x.2≠.free) (O6:∀L,((cellsFrom (L+1) fd.scope.names []).map (·.1)).Nodup)
 (hP:∀F X v c s',Is F X v->c8 s.heap.get? F->c8 F s'.heap.get?->s'.os=s.os->s'.gens=#[]->Q X c->P v s'):wpAny (model P0 g.w) A (PySem.call (.ref f) U) P E s:=by
 rw[kG hK.at_ λoc od He ho=>aV (id hb) λX0 LW=>dh LW λmg mb Tr=>?_,0 LW,];rw[hs] at X0 Tr;have J:U.length=names.length:=W.length.trans C;have Rd:∀x∈names.zip U,x.1∈names:=λx hx=>by have:=W6 (f:=(·.1)) hx;rwa [eH J] at this
 rw[X7 (codeAny_call_cells (fd:=fd) (body:=body) (vals:=U) (binds:=names.zip U) D (X0 _ _ ho) rfl Tr.nolimit (codeRec_of X0 hK.code) hK.body (hK.bind U J) Rc (λx hx=>G _ _ (Rd x hx)) (λzw d=>?_) hK.co hK.gen hK.kind),dr d.done λj tk Ci _=>?_,3 Ci,<-H d.toInCall.keep,<-FI d.toInCall.ns,];have Rf:∀a∈aU (callEnvC fd s.heap.objs.size f),a=s.heap.objs.size\/∃n,(n,a)∈cellsFrom (s.heap.objs.size+1) fd.scope.names []:=λa y=>by
  simp only[aU,Vc,Vn,VS] at y;rcases y with rfl|⟨⟨n,b⟩,⟨h1,_⟩,rfl⟩
  ·rw[.inl rfl,]
  ·rw[.inr ⟨n,h1⟩,]
 have B:∀n X,(names.zip args).reverse.lookup n=some X->∃v,(names.zip U).reverse.lookup n=some v/\Is s.heap.get? X v:=λn X e=>
  mF (F:=s.heap.get?) (l:=(names.zip args).reverse) (r:=(names.zip U).reverse) (by rw[V6,V6,eP C,eH J])
   (by rw[[V6,V6,j2 C,mG J],IsL.reverse W,]) e
 have new:∀a∈aU (callEnvC fd s.heap.objs.size f),s.heap.objs.size<=a/\∃o,j.get? a=some o:=λa y=>by
  rcases Rf a y with rfl|⟨n,hn⟩
  ·rw[y' FI λo es ep e _=>?_,0 FI,]
   exact⟨Va _,o,e⟩
  ·rw[⟨VP (d.above n a hn),?_⟩,]
   rw[ah (d.cell n a (lookup_of_mem_nodup (O6 _) hn)) λo e _=>⟨o,e⟩,]
 have Y:St g (A.deeper (callEnvC fd s.heap.objs.size f)).frames (callEnvC fd s.heap.objs.size f) s.heap.get? bot ⟨(names.zip args).reverse,λ_=>none⟩ {s with heap:=j,toks:=tk}:=
  {gens:=hg
   gF:=R.symm
   base:=λa o e=>by rw[hs] at e;rw[e,]
   fr:=H
   zr:=λ_ _ e=>nomatch e
   obj:=λ_ _ e=>nomatch e
   fD:=λ_ _ e=>nomatch e
   d6:=λ_ _ e=>nomatch e
   ZF:=λ_ _ e=>nomatch e
   own:=λa y=>⟨Heap.get?_none_of_le (new a y).1,rfl,rfl⟩
   cq:=by rw[2 aU,[VX],⟨λq=>?_,gQ (List.Pairwise.filter _ d.apart)⟩,ah (Vn.mp q) λGn h1 h2=>?_,];rcases Gn with⟨n,b⟩;have:=d.above n b (VS.mp h1).1;have h2:b=s.heap.objs.size:=h2;have h3:s.heap.objs.size<b:=this;rw[h2] at h3;rw[VB _ h3,]
   live:=λa y=>(new a y).2
   ns:=⟨_,FI,λn X hn e=>by rw[ah (B n X e) λv v1 v2=>⟨v,by rw[mH _ _ _ hn,v1];rfl,v2⟩,]⟩
   cell:=λn b h1 h2=>⟨_,d.cell n b h1,λX e=>by rw[ah (B n X e) λv v1 v2=>⟨v,by rw[mI _ _ _ h2,v1];rfl,v2⟩,]⟩
   bx:=λn b _ q X e=>U9 rfl (O5 _ (mem_of_lookup (show fd.scope.names.lookup n=some .free from q)))
   fz:=λl hl e he=>by
    rcases j4 (A:=A) (env':=callEnvC fd s.heap.objs.size f) rfl hK.kind l hl e he with⟨l',h1,h2⟩|⟨h1,h2⟩
    ·rw[hA] at h1;rw[1 h1,9 h2,]
    ·exact⟨h1,_,h2,.inl rfl⟩}
 rw[T.run (h s.heap.objs.size) (.bot _) Y (λF' fl cf c' s' f1 iX M hQ=>?_) λ_ _ _ _ _ _ _ _ e=>e.elim,hP F' (gP cf) _ c' s' iX.gP f1 M.fr (M.gF.trans R) M.gens hQ,]
end
end
def KO(P:Params):nsIn (KR P) mainGlobals "law"=some (some (.ref 633)):=by kernel_rfl
def KP:d0.name=("law":Str):=by kernel_rfl
def N8:b8 callerA 114:=⟨rfl,by decide+kernel,by decide+kernel,[],rfl⟩
def KQ{g:G0}(I:Base g){xs:List Int}(hz:xs.length<=100000)(L:Addr):EX g (callerA.deeper (callEnvC i7 L 633)) (callEnvC i7 L 633) (aT (dH 34)) ⟨((["script"]:List Str).zip [.lst (xs.map .int)]).reverse,λ_=>none⟩ (λC c'=>gP C=.bool true) iA:=by
 rw[<-J zO g.w.params,[jr J],];have ok:bV (bh (aG (dH 34)) L (cellsFrom (L+1) (aG (dH 34)).names []) (i7.qualname++".<locals>.") (some 633) i7.code (some L)):=p6 (by decide+kernel);have U:ER Ga ⟨g,113,λv _=>v=.bool true,iI⟩ (aG (dH 34)) (callerA.deeper (bh (aG (dH 34)) L (cellsFrom (L+1) (aG (dH 34)).names []) (i7.qualname++".<locals>.") (some 633) i7.code (some L))) _:=
  pA I (N8.deeper _) (by decide+kernel) ok λx e=>cellsFrom_some _ _ _ (.inl e)
 have h:=Ce (g:=g) (k:=0) (σ:=λ_=>none) (Q:=λv _=>v=V.bool true) hz λ_=>rfl;rw[<-MW.hc] at h;rw[T.qx (gh (oy 14) (uW _ 14) 14 U (c:=⟨((["script"]:List Str).zip [.lst (xs.map .int)]).reverse,λ_=>none⟩) (eI (by decide+kernel) rfl rfl) (λ_ _ e=>by rw[7 e,]) h) λC c' q=>aV (kg (m:=[]) rfl q) λ_ o=>ah o λa _ e=>?_,0 o,e,]
def final:PySem.Challenge.rw_sa0046_01.Holds:=by
 rw[OX ?_,];intro w N C mg mb G Y a o pm cd doc dV kV ho p q hD J hg U P as d f r t u;rw[<-R kIn_of Y,Ground.open G ?_,];intro T B D TE TW;clear D TE TW B G Y q hD p;rw[KP,mg_of R T.g (KO _)] at J;injection J with x;rw[1 x,]
 wrow_args d f r t u
 rw[4 xs _ _ _ _ _ _ _ l vs _ S _ hW _ hI _ W _,];have hb:Base ⟨w,C.heap,C.os⟩:=⟨R,mg,mb,topRead_of T⟩;rw[dh ((by cases hW with|list e _=>exact⟨_,_,e⟩:∃i n',C.heap.get? l=some (bM i n'))) λi n' I=>bL S λol j yZ k=>aw k λnl z=>?_,0 S k,];rw[I] at j;rw[1 j,];injection z with E H;rw[3 E,3 H,<-m zO w.params,5 (wpAny (model P0 (G0.w ⟨w,C.heap,C.os⟩)) callerA (PySem.call (.ref 633) [.ref l]) ..),yV (g:=⟨w,C.heap,C.os⟩) (args:=[.lst (xs.map .int)]) (names:=["script"]) (Q:=λX _=>X=.bool true) hb rfl rfl hg rfl (IsL.cons ⟨l,_,vs.toArray,_,rfl,I,rfl,rfl,IsL.lT hI⟩ IsL.nil) m (by decide+kernel) rfl (λL n hn=>by rw[[m.scope],.inl (by cases hn with|head=>decide+kernel|tail _ h=>cases h),]) rfl (KQ hb (by omega)) (by rw[m.scope];decide+kernel) (λL=>by rw[[m.scope],gr (by decide+kernel) _,]) λF X v c s' i1 i2 i3 i4 i5 i6=>?_,]
 subst i6;cases(show v=.bool true from i1);rw[⟨.inl ⟨_,.bool true,[],rfl,λ_=>rfl,.bool _,?_,λ_=>⟨List.nodup_nil,λa h=>nomatch h⟩⟩,.of_keep λb o e=>i3 _ _ (i2 _ _ e),i4,.of_eq i5⟩,]
 first|exact postW_of rfl (X:=true) rfl rfl|exact postW_of (by decide+kernel) (X:=true) (by kernel_rfl) rfl|(refine postW_of (X:=true) rfl ?_ rfl;simp[WTm.value])
end Mine
theorem PySem.Challenge.cw_sa0046_01_holds : PySem.Challenge.rw_sa0046_01.Holds :=
 Mine.final
