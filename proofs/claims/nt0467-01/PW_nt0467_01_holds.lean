import PyProof.Rows.All
import Wide.All
import OpenK.AllK
import Wide.FinOn
import Lean
import PySem.Challenge.RW_nt0467_01
set_option Elab.async false
set_option linter.all false
set_option genSizeOf false
set_option genInjectivity false
set_option bootstrap.genMatcherCode false
set_option compiler.extract_closed false
set_option maxRecDepth 100000
namespace Internal
def P7:=@Nat.lt_of_lt_of_le
def P8:=@Nat.le_trans
def P9:=@List.getD_eq_getElem?_getD
def Qa:=@Bool.and_eq_true
def Qb:=@if_neg
def Qc:=@List.length_append
def Qd:=@List.length_map
def Qe:=@of_decide_eq_true
def Qg:=@List.getElem?_eq_getElem
def Qh:=@decide_eq_true_iff
def Qi:=@Nat.lt_of_le_of_lt
def Qj:=@List.all_eq_true
def Qk:=@if_pos
def Ql:=@List.length_set
def Qm:=@List.append_assoc
def Qn:=@Nat.le_refl
def Qo:=@Nat.testBit_xor
def Qp:=@Nat.le_of_lt
def Qq:=@decide_eq_true
def Qr:=@Nat.zero_testBit
def Qs:=@List.getElem?_eq_some_iff
def Qt:=@List.mem_singleton
def Qu:=@Nat.lt_succ_self
def Qv:=@Nat.pos_of_ne_zero
def Qw:=@Nat.lt_or_ge
def Qx:=@Nat.shiftRight_eq_div_pow
def Qy:=@Int.natCast_nonneg
def Qz:=@Option.bind_eq_some_iff
def QA:=@Nat.le_add_right
def QB:=@List.mem_cons_self
def QC:=@List.mem_cons_of_mem
def QD:=@Decidable.not_not
def QE:=@Option.map_eq_some_iff
def QF:=@List.mem_append
def QG:=@Array.toList_append
def QH:=@Nat.le_of_lt_succ
def QI:=@Bool.not_eq_true'
def QJ:=@List.mem_of_getElem?
def QK:=@List.getElem?_map
def QL:=@Nat.ne_of_gt
def QM:=@List.length_replicate
def QN:=@Nat.mul_le_mul_right
def QO:=@getElem?_pos
def QP:=@List.take_append_drop
def QQ:=@Nat.lt_of_le_of_ne
def QR:=@Bool.eq_iff_iff
def QS:=@Nat.zero_le
def QT:=@Int.ofNat_le
def QU:=@Nat.add_le_add_left
def QV:=@Bool.and_eq_true_iff
def QW:=@Nat.lt_succ_of_lt
def QX:=@Nat.ne_of_lt
def QY:=@Nat.le_of_ble_eq_true
def QZ:=@List.perm_append_comm
def Q0:=@Nat.add_sub_cancel'
def Q1:=@List.map_congr_left
def Q2:=@Array.length_toList
def Q3:=@Bool.or_eq_true
def Q4:=@List.lookup_cons
def Q5:=@Nat.ne_zero_of_lt
def Q6:=@List.size_toArray
def Q7:=@Nat.lt_trans
def Q8:=@Nat.lt_irrefl
def Q9:=@List.map_cons
def Rb:=@Nat.le_of_eq
def Rc:=@Nat.not_lt_zero
def Rd:=@List.map_append
def Rf:=@List.getElem?_eq_none
def Rg:=@List.not_mem_nil
def Rh:=@Nat.add_sub_cancel_left
def Ri:=@List.getElem?_append_right
def Rj:=@Nat.and_two_pow_sub_one_eq_mod
def Rk:=@Nat.sub_le
def Rl:=@Nat.le_add_right_of_le
def Rm:=@Option.map_some
def Ro:=@Nat.two_pow_pos
def Rp:=@Nat.xor_assoc
def Rq:=@Nat.testBit_two_pow
def Rr:=@PySem.W.Fast.te16421684217811934046
def Ru:=@beq_iff_eq
def Rv:=@Nat.not_lt
def Rx:=@Nat.zero_add
def Ry:=@Nat.lt_succ_of_le
def Rz:=@List.Perm.append_left
def RA:=@Nat.zero_lt_two
def RB:=@Nat.pow_le_pow_right
def RC:=@Nat.div_lt_of_lt_mul
def RD:=@List.getElem?_set
def RE:=@List.getElem?_range
def RF:=@List.extract_eq_take_drop
def RH:=@Nat.le_antisymm
def RI:=@Nat.le_add_left
def RJ:=@Nat.div_add_mod
def RK:=@List.append_nil
def RL:=@Nat.shiftLeft_eq
def RM:=@List.isEmpty_iff
def RN:=@Nat.add_assoc
def RO:=@List.getElem?_replicate
def RP:=@Int.eq_ofNat_of_zero_le
def RQ:=@Nat.xor_zero
def RT:=@Nat.mul_comm
def RU:=@Nat.zero_lt_of_lt
def RV:=@Nat.le_of_succ_le
def RX:=@Nat.testBit_and
def RY:=@List.length_reverse
def RZ:=@PySem.W.Fast.te17119622794617984870
def Sa:=@PySem.W.Fast.te14364793385576792824
def Sb:=@List.getElem_mem
def Se:=@List.mem_map
def Sf:=@Nat.add_le_add
def Sh:=@List.mem_range
def Si:=@Bool.xor_false
def Sj:=@List.getElem?_append_left
def Sk:=@List.drop_eq_getElem_cons
def Sl:=@Decidable.byContradiction
def So:=@Array.toList_extract
def Sp:=@Nat.min_eq_left
def Sr:=@List.length_range
def Ss:=@Nat.lt_succ_iff_lt_or_eq
def Su:=@List.map_map
def Sv:=@Int.le_trans
def Sw:=@List.mem_cons
def Sx:=@Bool.true_and
def Sy:=@beq_eq_false_iff_ne
def Sz:=@Int.toNat_of_nonneg
def SA:=@Nat.le_of_not_lt
def SD:=@Nat.testBit_shiftRight
def SF:=@Nat.sub_add_cancel
def SG:=@Nat.add_comm
def SH:=@Nat.testBit_shiftLeft
def SI:=@List.length_singleton
def SJ:=@Nat.sub_lt
def SK:=@Nat.mod_lt
def SN:=@Nat.sub_pos_of_lt
def SO:=@Nat.mod_two_eq_zero_or_one
def SP:=@Array.perm_iff_toList_perm
def SQ:=@Nat.add_le_add_right
def SR:=@List.mem_of_mem_take
def SS:=@Nat.testBit_or
def SV:=@Option.isNone_iff_eq_none
def SW:=@Nat.succ_le_succ
def SX:=@List.take_length
def SY:=@List.length_take
def S7:=@List.filter_cons
def S8:=@Nat.mul_le_mul_left
def S9:=@PySem.W.Fast.te13343964577679436407
def Ta:=@Nat.zero_and
def Tb:=@Nat.eq_zero_or_pos
def Tc:=@Nat.add_right_comm
def Td:=@Nat.le_mul_of_pos_right
def Te:=@List.drop_eq_nil_of_le
def Tf:=@List.Perm.append_right
def Tg:=@Nat.le_succ
def Th:=@Option.some.injEq
def Ti:=@List.take_add_one
def Tj:=@Array.toList_push
def Tn:=@Bool.false_xor
def To:=@Bool.false_and
def Tp:=@Nat.pow_succ
def Tq:=@Nat.mod_eq_of_lt
def Ts:=@List.length_drop
def Tt:=@Nat.add_lt_add_right
def Tu:=@Bool.or_eq_false_iff
def Tv:=@Int.ofNat.inj
def Tw:=@Nat.div_le_self
def Tx:=@List.mem_filter
def Tz:=@Nat.two_pow_add_eq_or_of_lt
def TB:=@Nat.testBit_two_pow_sub_one
def TC:=@Nat.shiftRight_add
def TF:=@List.map_replicate
def TG:=@Int.natAbs_natCast
def TH:=@Array.size_extract
def TJ:=@Nat.le_succ_of_le
def TK:=@List.reverse_cons
def TL:=@Option.isSome_iff_exists
def TM:=@Nat.and_assoc
def TN:=@Bool.or_false
def TO:=@Nat.div_eq_of_lt
def TP:=@PyProof.noPylong_small
def TQ:=@Nat.le_mul_of_pos_left
def TR:=@Nat.div_div_eq_div_mul
def TS:=@List.take_of_length_le
def TU:=@Nat.succ_mul
def TV:=@Nat.sub_self
def TX:=@Nat.and_zero
def TY:=@Nat.min_le_left
def TZ:=@List.nodup_cons
def T7:=@Int.natCast_add
def T8:=@List.mem_append_right
def T9:=@List.mem_of_mem_drop
def Ua:=@List.mem_append_left
def Ub:=@Array.toList_reverse
def Uc:=@Nat.mul_le_mul
def Ud:=@Nat.sub_lt_sub_left
def Ue:=@Nat.add_lt_add_left
def Ug:=@PySem.W.Fast.te14374325043358763698
def Uh:=@PySem.W.Fast.te8326940854005059898
def Ui:=@PySem.W.Fast.te5923862056798008813
def Uj:=@Nat.add_sub_cancel
def Uk:=@List.zip_cons_cons
def Ul:=@Bool.false_ne_true
@[elab_as_elim] theorem OM {α:Sort _} {b:α} {P:α->Prop} {a:α} (h:a=b) (k:P b):P a:=h ▸ k
@[elab_as_elim] theorem OL {α:Sort _} {b:α} {P:α->Prop} {a:α} (h:b=a) (k:P b):P a:=h ▸ k
@[elab_as_elim] theorem ON {b:Prop} {P:Prop->Prop} {a:Prop} (h:a↔b) (k:P b):P a:=propext h ▸ k
end Internal
local macro_rules | `(tactic| rewrite [$a:term])=>`(tactic| first | refine Internal.OM ($a ..) ?_ | refine Internal.ON ($a ..) ?_ | fail)
local macro_rules | `(tactic| rewrite [<- $a:term])=>`(tactic| first | refine Internal.OL ($a ..) ?_ | fail)
local macro_rules | `(tactic| rw [$a:rwRule])=>`(tactic| first | (rewrite [$a];with_reducible try rfl) | fail)
local macro_rules | `(tactic| rw [$a:rwRule,$as:rwRule,*])=>`(tactic| first | (rewrite [$a];rw [$as,*]) | fail)
section
namespace Internal
theorem aD {Q:Prop} {A B:Prop} (h:A/\B) (k:A->B->Q):Q:=k h.1 h.2
theorem dJ {Q:Prop} {A B C:Prop} (h:A/\B/\C) (k:A->B->C->Q):Q:=k h.1 h.2.1 h.2.2
theorem rX {Q:Prop} {A B C D:Prop} (h:A/\B/\C/\D) (k:A->B->C->D->Q):Q:=k h.1 h.2.1 h.2.2.1 h.2.2.2
theorem rW {Q:Prop} {A B C D E:Prop} (h:A/\B/\C/\D/\E) (k:A->B->C->D->E->Q):Q:=k h.1 h.2.1 h.2.2.1 h.2.2.2.1 h.2.2.2.2
theorem uQ {Q:Prop} {A B C D E F:Prop} (h:A/\B/\C/\D/\E/\F) (k:A->B->C->D->E->F->Q):Q:=k h.1 h.2.1 h.2.2.1 h.2.2.2.1 h.2.2.2.2.1 h.2.2.2.2.2
theorem uP {Q:Prop} {A B C D E F G:Prop} (h:A/\B/\C/\D/\E/\F/\G) (k:A->B->C->D->E->F->G->Q):Q:=k h.1 h.2.1 h.2.2.1 h.2.2.2.1 h.2.2.2.2.1 h.2.2.2.2.2.1 h.2.2.2.2.2.2
theorem bJ {α:Sort _} {Q:Prop} {A:α->Prop} (h:∃x,A x) (k:∀x,A x->Q):Q:=h.elim λx h0=>k x h0
theorem ao {α:Sort _} {Q:Prop} {A B:α->Prop} (h:∃x,A x/\B x) (k:∀x,A x->B x->Q):Q:=h.elim λx h0=>k x h0.1 h0.2
theorem gP {α:Sort _} {Q:Prop} {A B C:α->Prop} (h:∃x,A x/\B x/\C x) (k:∀x,A x->B x->C x->Q):Q:=h.elim λx h0=>k x h0.1 h0.2.1 h0.2.2
theorem Ha {α:Sort _} {Q:Prop} {A B C D:α->Prop} (h:∃x,A x/\B x/\C x/\D x) (k:∀x,A x->B x->C x->D x->Q):Q:=h.elim λx h0=>k x h0.1 h0.2.1 h0.2.2.1 h0.2.2.2
theorem Kz {α:Sort _} {Q:Prop} {A B C D E:α->Prop} (h:∃x,A x/\B x/\C x/\D x/\E x) (k:∀x,A x->B x->C x->D x->E x->Q):Q:=h.elim λx h0=>k x h0.1 h0.2.1 h0.2.2.1 h0.2.2.2.1 h0.2.2.2.2
theorem Ky {α:Sort _} {Q:Prop} {A B C D E F:α->Prop} (h:∃x,A x/\B x/\C x/\D x/\E x/\F x) (k:∀x,A x->B x->C x->D x->E x->F x->Q):Q:=h.elim λx h0=>k x h0.1 h0.2.1 h0.2.2.1 h0.2.2.2.1 h0.2.2.2.2.1 h0.2.2.2.2.2
theorem AU {α:Sort _} {β:Sort _} {Q:Prop} {A:α->β->Prop} (h:∃x,∃y,A x y) (k:∀x,∀y,A x y->Q):Q:=h.elim λx h0=>h0.elim λy h1=>k x y h1
theorem pq {α:Sort _} {β:Sort _} {Q:Prop} {A B:α->β->Prop} (h:∃x,∃y,A x y/\B x y) (k:∀x,∀y,A x y->B x y->Q):Q:=h.elim λx h0=>h0.elim λy h1=>k x y h1.1 h1.2
theorem fF {α:Sort _} {β:Sort _} {Q:Prop} {A B C:α->β->Prop} (h:∃x,∃y,A x y/\B x y/\C x y) (k:∀x,∀y,A x y->B x y->C x y->Q):Q:=h.elim λx h0=>h0.elim λy h1=>k x y h1.1 h1.2.1 h1.2.2
theorem ew {α:Sort _} {β:Sort _} {Q:Prop} {A B C D:α->β->Prop} (h:∃x,∃y,A x y/\B x y/\C x y/\D x y) (k:∀x,∀y,A x y->B x y->C x y->D x y->Q):Q:=h.elim λx h0=>h0.elim λy h1=>k x y h1.1 h1.2.1 h1.2.2.1 h1.2.2.2
theorem D9 {α:Sort _} {β:Sort _} {Q:Prop} {A B C D E F:α->β->Prop} (h:∃x,∃y,A x y/\B x y/\C x y/\D x y/\E x y/\F x y) (k:∀x,∀y,A x y->B x y->C x y->D x y->E x y->F x y->Q):Q:=h.elim λx h0=>h0.elim λy h1=>k x y h1.1 h1.2.1 h1.2.2.1 h1.2.2.2.1 h1.2.2.2.2.1 h1.2.2.2.2.2
theorem Kx {α:Sort _} {β:Sort _} {Q:Prop} {A B C D E F G:α->β->Prop} (h:∃x,∃y,A x y/\B x y/\C x y/\D x y/\E x y/\F x y/\G x y) (k:∀x,∀y,A x y->B x y->C x y->D x y->E x y->F x y->G x y->Q):Q:=h.elim λx h0=>h0.elim λy h1=>k x y h1.1 h1.2.1 h1.2.2.1 h1.2.2.2.1 h1.2.2.2.2.1 h1.2.2.2.2.2.1 h1.2.2.2.2.2.2
theorem Kw {α:Sort _} {β:Sort _} {γ:Sort _} {Q:Prop} {A:α->β->γ->Prop} (h:∃x,∃y,∃z,A x y z) (k:∀x,∀y,∀z,A x y z->Q):Q:=h.elim λx h0=>h0.elim λy h1=>h1.elim λz h2=>k x y z h2
theorem G9 {α:Sort _} {β:Sort _} {γ:Sort _} {Q:Prop} {A B:α->β->γ->Prop} (h:∃x,∃y,∃z,A x y z/\B x y z) (k:∀x,∀y,∀z,A x y z->B x y z->Q):Q:=h.elim λx h0=>h0.elim λy h1=>h1.elim λz h2=>k x y z h2.1 h2.2
theorem AS {α:Sort _} {β:Sort _} {γ:Sort _} {Q:Prop} {A B C:α->β->γ->Prop} (h:∃x,∃y,∃z,A x y z/\B x y z/\C x y z) (k:∀x,∀y,∀z,A x y z->B x y z->C x y z->Q):Q:=h.elim λx h0=>h0.elim λy h1=>h1.elim λz h2=>k x y z h2.1 h2.2.1 h2.2.2
theorem Kv {α:Sort _} {β:Sort _} {γ:Sort _} {Q:Prop} {A B C D:α->β->γ->Prop} (h:∃x,∃y,∃z,A x y z/\B x y z/\C x y z/\D x y z) (k:∀x,∀y,∀z,A x y z->B x y z->C x y z->D x y z->Q):Q:=h.elim λx h0=>h0.elim λy h1=>h1.elim λz h2=>k x y z h2.1 h2.2.1 h2.2.2.1 h2.2.2.2
theorem xK {α:Sort _} {β:Sort _} {γ:Sort _} {δ:Sort _} {Q:Prop} {A B:α->β->γ->δ->Prop} (h:∃x,∃y,∃z,∃w,A x y z w/\B x y z w) (k:∀x,∀y,∀z,∀w,A x y z w->B x y z w->Q):Q:=h.elim λx h0=>h0.elim λy h1=>h1.elim λz h2=>h2.elim λw h3=>k x y z w h3.1 h3.2
theorem mV {α:Sort _} {β:Sort _} {γ:Sort _} {δ:Sort _} {Q:Prop} {A B C:α->β->γ->δ->Prop} (h:∃x,∃y,∃z,∃w,A x y z w/\B x y z w/\C x y z w) (k:∀x,∀y,∀z,∀w,A x y z w->B x y z w->C x y z w->Q):Q:=h.elim λx h0=>h0.elim λy h1=>h1.elim λz h2=>h2.elim λw h3=>k x y z w h3.1 h3.2.1 h3.2.2
theorem G8 {α:Sort _} {β:Sort _} {γ:Sort _} {δ:Sort _} {Q:Prop} {A B C D:α->β->γ->δ->Prop} (h:∃x,∃y,∃z,∃w,A x y z w/\B x y z w/\C x y z w/\D x y z w) (k:∀x,∀y,∀z,∀w,A x y z w->B x y z w->C x y z w->D x y z w->Q):Q:=h.elim λx h0=>h0.elim λy h1=>h1.elim λz h2=>h2.elim λw h3=>k x y z w h3.1 h3.2.1 h3.2.2.1 h3.2.2.2
theorem pY {c:Nat}:1-c<2:=Ry (Rk 1 c)
theorem Mk {c:Nat} (h:c<2):1- (1-c)=c:=Nat.sub_sub_self (QH h)
theorem Gi {s k:Nat} (h:k<8):(s*8+k) / 8=s:=by rw [RT,Nat.mul_add_div (by decide),TO h];rfl
theorem Ms {s k:Nat} (h:k<8):(s*8+k)%8=k:=by rw [RT,Nat.mul_add_mod,Tq h]
theorem E3 {s:Nat}:1-s≠s:=by lia
theorem Mj {s x k:Nat} (h:x=(1-s)*8+k) (hk:k<8) (h2:x / 8=s):False:=by rw [h,Gi hk] at h2;exact E3 h2
theorem JY:∀x:Nat,x<8->x=0\/x=1\/x=2\/x=3\/x=4\/x=5\/x=6\/x=7:=by decide
theorem J5 {k:Nat} (h1:1<=k) (h6:k<=6) (n:¬(k=3\/k=4\/k=5)):k=1\/k=2\/k=6:=(by decide:∀k:Nat,k<7->1<=k->¬(k=3\/k=4\/k=5)->k=1\/k=2\/k=6) k (Ry h6) h1 n
theorem E6 {t b x:Nat} (h:t<b):(t+b*x) / b=x:=by rw [Nat.add_mul_div_left _ _ (Qi (QS t) h),TO h,Rx]
theorem KA {t b x:Nat} (h:t<b):(t+b*x)%b=t:=by rw [Nat.add_mul_mod_self_left,Tq h]
theorem C7 {a b n:Nat} (h:1<=b) (h2:a+b<=n):a+b-1<n:=P7 (SJ (P7 h (RI b a)) Nat.one_pos) h2
theorem fp:∀c:Nat,c<2->c=0\/c=1:=by decide
theorem n9 {s:Nat} (h:s<2):9-8*s=(1-s)*8+1:=by rcases fp s h with rfl | rfl<;>rfl
theorem n8 {s:Nat} (h:s<2):8*s<=9:=P8 (S8 8 (QH h)) (by decide)
theorem O7 {s:Nat} (h:s<2):14-8*s=(1-s)*8+6:=by rcases fp s h with rfl | rfl<;>rfl
theorem OU {x s:Nat} (h:s<2):((x≠0/\x%8=1)/\x≠0/\x / 8=1-s)↔x=9-8*s:=by
 rcases fp s h with rfl | rfl
 ·refine ⟨λ⟨⟨_,a⟩,_,b⟩=>?_,λe=>by subst e;decide⟩;have:=RJ x 8;rw [a,b] at this;exact this.symm
 ·refine ⟨λ⟨⟨_,a⟩,_,b⟩=>?_,λe=>by subst e;decide⟩;have:=RJ x 8;rw [a,b] at this;exact this.symm
universe uu
@[irreducible] noncomputable def ep {α:Type uu} (S:α->Prop) (x:α):α:=open Classical in if h:∃y,¬S y then h.choose else x
theorem au {α:Type uu} {S:α->Prop} {x:α} (h:S (ep S x)) (y:α):S y:=Classical.byContradiction λn=>by
 delta ep at h;rw [dif_pos ⟨y,n⟩] at h;exact Exists.choose_spec (⟨y,n⟩:∃y,¬S y) h
theorem lb {a b c:Nat} (h:a<b) (k:Nat.ble b c=true):a<c:=P7 h (QY k)
theorem Lb {a b c:Nat} (h:a<=b) (k:Nat.ble b c=true):a<=c:=P8 h (QY k)
theorem lB {a b c:Nat} (h:a<=b) (k:Nat.ble (b+1) c=true):a<c:=P7 (Ry h) (QY k)
theorem Ll {a b c:Nat} (h:a<b) (k:Nat.ble b (c+1)=true):a<=c:=QH (lb h k)
theorem bL {a b c:Nat} (h:b<=a) (k:Nat.ble c b=true):c<=a:=P8 (QY k) h
theorem bl {a b c:Nat} (h:b<=a) (k:Nat.ble (c+1) b=true):c<a:=P7 (QY k) h
theorem f9 {a b c d:Nat} (h:a<b) (g:b<=c) (k:Nat.ble c d=true):a<d:=lb (P7 h g) k
theorem gD {a b c d:Nat} (h:a<b) (g:b<=c) (k:Nat.ble c (d+1)=true):a<=d:=Ll (P7 h g) k
theorem L2 {a b c d:Nat} (h:a<=b) (g:b<=c) (k:Nat.ble (c+1) d=true):a<d:=lB (P8 h g) k
theorem MN {a b c d:Nat} (h:a<=b) (g:b<=c) (k:Nat.ble c d=true):a<=d:=Lb (P8 h g) k
theorem Jc {a b c d:Nat} (h:a<=b) (g:b<c) (k:Nat.ble c d=true):a<d:=lb (Qi h g) k
theorem sb {a b c d:Nat} (h:a<=b) (k:Nat.ble b c=true):a-d<=c:=P8 (Rk ..) (Lb h k)
theorem zL {a b c:Int} (h:a<=b) (k:decide (b<=c)=true):a<=c:=Sv h (Qe k)
theorem zl {a b c:Int} (h:a<=b) (k:decide (b<c)=true):a<c:=Int.lt_of_le_of_lt h (Qe k)
theorem Lz {a b c:Int} (h:b<=a) (k:decide (c<=b)=true):c<=a:=Sv (Qe k) h
theorem rI {x a b:Nat} (h:x=a+(b+1)):x≠0:=λe=>nomatch h.symm.trans e
theorem kA {a b:Nat}:a+(b+1)≠0:=Nat.succ_ne_zero _
theorem MG {x s k:Nat} (h:x=s*8+k) (q:Nat.ble (k+1) 8=true):x%8=k:=by rw [h];exact Ms (QY q)
theorem Ku {x s k:Nat} (h:x=s*8+k) (q:Nat.ble (k+1) 8=true):x / 8=s:=by rw [h];exact Gi (QY q)
theorem mk8 {x s k:Nat} (h:x / 8=s) (q:x%8=k):x=s*8+k:=by rw [<- h,<- q,RT];exact (RJ x 8).symm
theorem JV {x s k:Nat} (h:x / 8=s) (q:x%8=k):s*8+k=x:=(mk8 h q).symm
theorem w8 {x s k j:Nat} (h:x=s*8+k) (g:x%8=j) (q:Nat.ble (k+1) 8=true) (n:Nat.beq k j=false):False:=by
 have e:=(MG h q).symm.trans g;rw [e,Nat.beq_refl] at n;cases n
theorem zc {x:Nat} (h:x<15):x / 8<2:=RC (P7 h (by decide))
theorem Mt {x:Nat} (h:1<=x%8):x≠0:=λe=>by rw [e] at h;exact absurd h (by decide)
theorem dv {a b c:Nat} (h:a<b) (q:Nat.ble b c=true) {d:Nat}:a / d<c:=Qi (Tw ..) (lb h q)
theorem Dc {s f:Nat} (h:s<2) (g:f<4):s*8+(f+2)<15:=by lia
theorem OV {s f:Nat} (g:f<4):(s*8+(f+2)) / 8=s:=Gi (Tt (P7 g (by decide:4<=6)) 2)
theorem Mn {s f:Nat} (g:f<4):(s*8+(f+2))%8=f+2:=Ms (Tt (P7 g (by decide:4<=6)) 2)
theorem JK {s f:Nat} (g:f<4):(s*8+(f+2))%8<=6:=by rw [Mn g];exact P8 (SQ (QH g) 2) (by decide)
theorem JQ {s f:Nat} (g:f<4):1<=(s*8+(f+2))%8:=by rw [Mn g];exact RI 1 (f+1)
theorem OK {s k:Nat} (h:s<2) (g:Nat.ble k 6=true):s*8+k<15:=by have:=QY g;lia
theorem Po {i s:Nat} (h:i / 2=s) (g:i%2=0):2*s=i:=by have:=RJ i 2;rw [g,h] at this;exact this
theorem Pm {i s:Nat} (h:i / 2=s):i=2*s\/i=2*s+1:=by lia
theorem O8 {o t f:Nat} (h:t=o+2*f):(o+t) / 2=o+f:=by lia
theorem Mr {o t f:Nat} (h:o=t+2*f):(o+t) / 2=t+f:=by lia
theorem FV {o t:Nat} (h:o<64) (g:t<64):2^6*o+t<2^12:=by lia
theorem Jj {c:Nat} (h:c<2) (n:¬c=0):c=1:=RH (QH h) (Qv n)
theorem Ce {k:Nat} (h:k≠1) (g:k≠0):2<=k:=QQ (Qv g) (Ne.symm h)
theorem p0 {y:Nat} (h:y≠0):(0:Int)<y:=Int.natCast_pos.mpr (Qv h)
theorem pz {y:Nat} (h:y≠0):¬(y:Int)=0:=λe=>h (Tv e)
theorem s1 {a b c:Nat} (h:c<=a) (k:Nat.ble 1 c=true):a- (b+1)<a:=SJ (bl h k) (Nat.succ_pos b)
theorem ad {a b:Nat} (h:a<=b) {c:Nat}:a+(b-a+c)=b+c:=by rw [<- RN,Q0 h]
theorem Mq {x:Nat} (h:x%2≠0):x%2=1:=(SO x).resolve_left h
theorem FW {x:Nat}:¬x%2=0↔x%2=1:=⟨Mq,λh e=>nomatch h.symm.trans e⟩
theorem MI {c y o f:Nat} (h:y>=1) (k:c=0/\y-1=o+f\/c=1/\o=y-1+f):c=0/\y=o+f+1\/c=1/\y+f=o+1:=
 k.elim (λk=>.inl ⟨k.1,by rw [<- k.2,SF h]⟩) λk=>.inr ⟨k.1,by rw [k.2,Tc,SF h]⟩
theorem PD {b:Nat} (h0:b≠0) (e:b%2=0):(b-1) / 2=b / 2-1:=by
 have hb:b=2*(b / 2):=by have:=RJ b 2;rw [e] at this;exact this.symm
 cases hk:b / 2 with
 | zero=>rw [hk] at hb;exact absurd hb h0
 | succ m=>
  rw [hk] at hb;rw [hb];show (2*m+1) / 2=m;rw [Nat.mul_add_div (by decide)];rfl
theorem O5 {b:Nat} (e:b%2=1):(b-1) / 2=b / 2:=by
 have hb:=RJ b 2;rw [e] at hb
 have:b-1=2*(b / 2):=by rw [<- hb];show 2*(b / 2)=2*((2*(b / 2)+1) / 2);rw [Nat.mul_add_div (by decide)];rfl
 rw [this,Nat.mul_div_cancel_left _ (by decide)]
theorem Fu {r:Nat} (h:5<=r):r-3+2<=r:=P8 (QU (by decide:2<=3) _) (Rb (SF (P8 (by decide) h)))
theorem Pk {k:Nat} (h:k=2\/k=3\/k=4\/k=5):2<=k/\k<=5:=by rcases h with rfl | rfl | rfl | rfl<;>decide
theorem Pj {k:Nat} (h:k=2\/k=3\/k=4\/k=5\/k=6):2<=k/\k<=6:=by rcases h with rfl | rfl | rfl | rfl | rfl<;>decide
end Internal
end
section
open PySem PyProof.Rows
namespace Internal
noncomputable def fQ:Bool->Keyed->Array Keyed->Nat->Nat->Nat->StateT SortSt Sem (Option Nat):=sortPriv%PySem.Builtin.gallop
noncomputable def dE:Nat->StateT SortSt Sem Unit:=sortPriv%PySem.Builtin.setMinGallop
noncomputable def lX:Array Keyed->Array Keyed->StateT SortSt Sem (Array Keyed):=sortPriv%PySem.Builtin.mergeLo
noncomputable def lY:Array Keyed->Array Keyed->StateT SortSt Sem (Array Keyed):=sortPriv%PySem.Builtin.mergeHi
structure WB (a₀:Array Keyed) (st:SortSt):Prop where
 perm:(arrOf st).Perm a₀
 kind:kindOf st=oneType'
 failed:failedOf st=none
def AB (p:Keyed):Prop:=∃n t,p.1=.int n t
section
variable {prog:Program} {w:World} {A:Around} {E:Value->Shared->Prop} {s:Shared} {a₀:Array Keyed} {st:SortSt}
theorem WB.AB (h:WB a₀ st) (h0:IntKeys a₀) {i:Nat} (hi:i<a₀.size):∃p,(arrOf st)[i]?=some p/\AB p:=by
 have hi':i<(arrOf st).size:=by rw [h.perm.size_eq];exact hi
 exact ⟨_,QO _ i hi',h0 _ ((SP.mp h.perm).mem_iff.mp (by simp))⟩
theorem cv {arr:Array Keyed} {i:Nat} {p:Keyed} {Q:Keyed->SortSt->Prop} (hp:arr[i]?=some p) (h:Q p st):wpS (model prog w) A E s (elem' arr i) Q st:=by
 rw [elem'_eq,hp];exact wpS_pure h
theorem wX {x y:Keyed} {Q:Option Bool->SortSt->Prop} (hk:kindOf st=oneType') (hx:AB x) (hy:AB y) (h:∀b,Q (some b) st):wpS (model prog w) A E s (lt' x y) Q st:=by
 refine AU hx λa t ex=>?_;refine AU hy λb u ey=>?_;rw [lt'_eq];refine wpS_bind (wpS_get ?_);rw [hk,keyLt'_oneType,ex,ey];refine wpS_bind (wpS_lift (wpAny_attempt (oneLt_int ⟨rfl,?_⟩)));exact wpS_pure (h _)
theorem mc {i j:Nat} {Q:Option Bool->SortSt->Prop} (hB:WB a₀ st) (h0:IntKeys a₀) (hi:i<a₀.size) (hj:j<a₀.size) (h:∀b,Q (some b) st):wpS (model prog w) A E s (ltAt' i j) Q st:=by
 refine ao (hB.AB h0 hi) λp e1 i1=>?_;refine ao (hB.AB h0 hj) λq e2 i2=>?_;rw [ltAt'_eq];refine wpS_bind (wpS_get ?_);refine wpS_bind (cv e1 ?_);refine wpS_bind (cv e2 ?_);exact wX hB.kind i1 i2 h
theorem nG {β:Type} {a b:Nat} {f:Nat->β->StateT SortSt Sem (ForInStep β)} (I:β->SortSt->Prop) {Q:β->SortSt->Prop}
 (hstep:∀i c st,a<=i->i<b->I c st->wpS (model prog w) A E s (f i c) (λr st'=>match r with | .done c'=>Q c' st' | .yield c'=>I c' st') st)
 (hend:∀c st,I c st->Q c st) {c:β} (h:I c st):wpS (model prog w) A E s (forIn [a:b] c f) Q st:=
 wpS_forRange (I:=λ_=>I) hstep hend h
noncomputable def AK (left:Bool) (key:Keyed) (arr:Array Keyed) (i:Nat):StateT SortSt Sem (Option Bool):=
 elem' arr i >>= λx=>if left=true then lt' x key else lt' key x >>= λr=>pure (r.map (!·))
noncomputable def Pt (bey:Nat->StateT SortSt Sem (Option Bool)) (f:Nat->Nat) (mx:Nat) (neg:Bool) (_:Nat) (c:Option (Option Nat)×Nat×Nat):StateT SortSt Sem (ForInStep (Option (Option Nat)×Nat×Nat)):=
 if c.2.2>=mx then pure (.done (none,c.2)) else bey (f c.2.2) >>= λr=>match r with
  | some b=>if (bif neg then !b else b)=true then pure (.done (none,c.2)) else pure (.yield (none,c.2.2,2*c.2.2+1))
  | _=>pure (.done (some none,c.2))
noncomputable def Kq (bey:Nat->StateT SortSt Sem (Option Bool)) (_:Nat) (c:Option (Option Nat)×Nat×Nat):StateT SortSt Sem (ForInStep (Option (Option Nat)×Nat×Nat)):=
 if c.2.1>=c.2.2 then pure (.done (none,c.2)) else bey (c.2.1+(c.2.2-c.2.1) / 2) >>= λr=>match r with
  | some b=>if b=true then pure (.yield (none,c.2.1+(c.2.2-c.2.1) / 2+1,c.2.2)) else pure (.yield (none,c.2.1,c.2.1+(c.2.2-c.2.1) / 2))
  | _=>pure (.done (some none,c.2))
noncomputable def GY (bey:Nat->StateT SortSt Sem (Option Bool)) (n lo hi:Nat):StateT SortSt Sem (Option Nat):=
 forIn [0:n] ((none,lo,hi):Option (Option Nat)×Nat×Nat) (Kq bey) >>= λc=>match c.1 with
  | some r=>pure r
  | none=>pure (some c.2.2)
noncomputable def D5 (bey:Nat->StateT SortSt Sem (Option Bool)) (n:Nat) (f:Nat->Nat) (mx:Nat) (neg:Bool) (lo hi:Nat->Nat->Nat):StateT SortSt Sem (Option Nat):=
 forIn [0:n] ((none,0,1):Option (Option Nat)×Nat×Nat) (Pt bey f mx neg) >>= λc=>match c.1 with
  | some r=>pure r
  | none=>GY bey n (lo c.2.1 c.2.2) (hi c.2.1 c.2.2)
theorem rQ (left:Bool) (key:Keyed) (arr:Array Keyed) (base n hint:Nat):fQ left key arr base n hint =
 (AK left key arr (base+hint) >>= λr=>match r with
  | some right=>
   if right=true then D5 (λi=>AK left key arr (base+i)) n (λo=>hint+o) (n-hint) true (λl _=>hint+l+1) (λ_ o=>hint+min o (n-hint))
   else D5 (λi=>AK left key arr (base+i)) n (λo=>hint-o) (hint+1) false (λ_ o=>hint+1-min o (hint+1)) (λl _=>hint-l)
  | _=>pure none):=by kernel_rfl
theorem b9 {α:Type} {c:Prop} [Decidable c] {m n:StateT SortSt Sem α} {Q:α->SortSt->Prop} (h1:c->wpS (model prog w) A E s m Q st) (h2:¬c->wpS (model prog w) A E s n Q st):wpS (model prog w) A E s (if c then m else n) Q st:=by
 by_cases h:c
 ·rw [Qk h];exact h1 h
 ·rw [Qb h];exact h2 h
theorem tE {β:Type} {a b:Nat} {f:Nat->β->StateT SortSt Sem (ForInStep β)} (I:β->Prop) {Q:β->SortSt->Prop}
 (hstep:∀i c,I c->wpS (model prog w) A E s (f i c) (λr st'=>st'=st/\match r with | .done c'=>I c' | .yield c'=>I c') st) {c:β} (h:I c) (hend:∀c,I c->Q c st):wpS (model prog w) A E s (forIn [a:b] c f) Q st:=
 wpS_mono (nG (λc st'=>st'=st/\I c) (Q:=λc st'=>st'=st/\I c) (λi c st' _ _ ⟨e,hc⟩=>by
  subst e;refine wpS_mono (hstep i c hc) λr st2 h=>?_
  cases r<;>exact h) (λ_ _ h=>h) ⟨rfl,h⟩) λc st' ⟨e,hc⟩=>by subst e;exact hend c hc
theorem DA {bey:Nat->StateT SortSt Sem (Option Bool)} {n lo hi:Nat} {Q:Option Nat->SortSt->Prop} (hb:∀{i:Nat} {Q:Option Bool->SortSt->Prop},i<n->(∀b,Q (some b) st)->wpS (model prog w) A E s (bey i) Q st)
 (h1:hi<=n) (h:∀r,r<=n->Q (some r) st):wpS (model prog w) A E s (GY bey n lo hi) Q st:=by
 refine wpS_bind (tE (λc=>c.1=none/\c.2.2<=n) (λi c ⟨e,l⟩=>?a) ⟨rfl,h1⟩ λc ⟨e,l⟩=>?b)
 case a=>
  refine b9 (λ_=>wpS_pure ⟨rfl,rfl,l⟩) λz=>?_
  have m1:c.2.1+(c.2.2-c.2.1) / 2<n:=by lia
  exact wpS_bind (hb m1 λb=>b9 (λ_=>wpS_pure ⟨rfl,rfl,l⟩) λ_=>wpS_pure ⟨rfl,rfl,Qp m1⟩)
 case b=>
  obtain ⟨r,c⟩:=c;cases e;exact wpS_pure (h _ l)
theorem xa {bey:Nat->StateT SortSt Sem (Option Bool)} {n mx:Nat} {f:Nat->Nat} {neg:Bool} {lo hi:Nat->Nat->Nat} {Q:Option Nat->SortSt->Prop} (hb:∀{i:Nat} {Q:Option Bool->SortSt->Prop},i<n->(∀b,Q (some b) st)->wpS (model prog w) A E s (bey i) Q st)
 (hf:∀o,o<mx->f o<n) (h1:∀l o,hi l o<=n) (h:∀r,r<=n->Q (some r) st):wpS (model prog w) A E s (D5 bey n f mx neg lo hi) Q st:=by
 refine wpS_bind (tE (λc=>c.1=none) (λi c e=>?a) rfl λc e=>?b)
 case a=>exact b9 (λ_=>wpS_pure ⟨rfl,rfl⟩) λz=>wpS_bind (hb (hf _ (Nat.lt_of_not_le z)) λb=>b9 (λ_=>wpS_pure ⟨rfl,rfl⟩) λ_=>wpS_pure ⟨rfl,rfl⟩)
 case b=>
  obtain ⟨r,c⟩:=c;cases e;exact DA hb (h1 _ _) h
theorem gn {left:Bool} {key:Keyed} {arr:Array Keyed} {base n hint:Nat} {Q:Option Nat->SortSt->Prop} (hk:kindOf st=oneType') (hkey:AB key) (ha:IntKeys arr) (hh:hint<n) (hsz:base+n<=arr.size)
 (h:∀r,r<=n->Q (some r) st):wpS (model prog w) A E s (fQ left key arr base n hint) Q st:=by
 have bey:∀{i:Nat} {Q:Option Bool->SortSt->Prop},i<n->(∀b,Q (some b) st)->wpS (model prog w) A E s (AK left key arr (base+i)) Q st:=λ{i Q} hi h=>by
  have hi':base+i<arr.size:=P7 (Ue hi base) hsz;have hx:AB arr[base+i]:=ha _ (by simp);exact wpS_bind (cv (QO arr (base+i) hi') (b9 (λ_=>wX hk hx hkey h) λ_=>wpS_bind (wX hk hkey hx λb=>wpS_pure (h _))))
 rw [rQ];exact wpS_bind (bey hh λb=>b9 (λ_=>xa bey (λo z=>by lia) (λl o=>by lia) h) λ_=>xa bey (λo z=>Qi (Rk _ _) hh) (λl o=>P8 (Rk _ _) (Qp hh)) h)
end
noncomputable abbrev bQ (st:SortSt) (g:Nat):SortSt:=SortSt.mk' (kindOf st) (arrOf st) (pendingOf st) g (failedOf st)
theorem jL (g:Nat):dE g=modify λs=>bQ s g:=rfl
noncomputable abbrev SM:=StateT SortSt Sem
noncomputable abbrev S0 (X Y Z:Type):=Option (Array Keyed)×X×Y×Z×Nat
noncomputable abbrev S1 (X Y Z:Type):=Option (Array Keyed)×X×Y×Z×Nat×Nat
noncomputable abbrev S2 (X Y Z:Type):=Option (Array Keyed)×X×Y×Z×Nat×Nat×Nat
section
variable {X Y Z:Type}
noncomputable def Pf (n:Nat) (f:Nat->S2 X Y Z->SM (ForInStep (S2 X Y Z))) (mg:Nat) (s1:S1 X Y Z):SM (ForInStep (S0 X Y Z)):=match s1.1 with
 | some r=>pure (.done (some r,s1.2.1,s1.2.2.1,s1.2.2.2.1,mg))
 | none=>do
  rule "list.sort.gallop"
  let s2 <- forIn [0:n] ((none,s1.2.1,s1.2.2.1,s1.2.2.2.1,mg+1,s1.2.2.2.2.1,s1.2.2.2.2.2):S2 X Y Z) f
  match s2.1 with
  | some r=>pure (.done (some r,s2.2.1,s2.2.2.1,s2.2.2.2.1,s2.2.2.2.2.1))
  | none=>do
   dE (s2.2.2.2.2.1+1)
   pure (.yield (none,s2.2.1,s2.2.2.1,s2.2.2.2.1,s2.2.2.2.2.1+1))
noncomputable def l0 (n:Nat) (f1:Nat->Nat->S1 X Y Z->SM (ForInStep (S1 X Y Z))) (f2:Nat->S2 X Y Z->SM (ForInStep (S2 X Y Z))) (_:Nat) (c:S0 X Y Z):SM (ForInStep (S0 X Y Z)):=do
 let s1 <- forIn [0:n] ((none,c.2.1,c.2.2.1,c.2.2.2.1,0,0):S1 X Y Z) (f1 c.2.2.2.2)
 Pf n f2 c.2.2.2.2 s1
noncomputable def Du (n:Nat) (f1:Nat->Nat->S1 X Y Z->SM (ForInStep (S1 X Y Z))) (f2:Nat->S2 X Y Z->SM (ForInStep (S2 X Y Z))) (x:X) (y:Y) (z:Z):SM (Array Keyed):=do
 let st <- get
 let c <- forIn [0:n] ((none,x,y,z,gallopOf st):S0 X Y Z) (l0 n f1 f2)
 match c.1 with
 | some r=>pure r
 | none=>unsupported "internal:list.sort.merge-bound"
end
section
variable {prog:Program} {w:World} {A:Around} {E:Value->Shared->Prop} {s:Shared} {a₀:Array Keyed} {st:SortSt}
theorem wZ {g:Nat} {Q:Unit->SortSt->Prop} (h:Q () (bQ st g)):wpS (model prog w) A E s (dE g) Q st:=by
 rw [jL];exact wpS_modify h
theorem fW {α:Type} {x y:Nat} {m n:StateT SortSt Sem α} {Q:α->SortSt->Prop} (h1:x=y->wpS (model prog w) A E s m Q st) (h2:x≠y->wpS (model prog w) A E s n Q st):wpS (model prog w) A E s (if (x == y)=true then m else n) Q st:=
 b9 (λh=>h1 (Ru.mp h)) λh=>h2 λe=>h (Ru.mpr e)
variable {X Y Z:Type}
def D1 (F:Array Keyed->Prop) (J:Prop) (r:Option (Array Keyed)):Prop:=(∃r',r=some r'/\F r')\/(r=none/\J)
def EU (F:Array Keyed->Prop) (J:X->Y->Z->Prop):ForInStep (S1 X Y Z)->Prop
 | .done c=>D1 F (J c.2.1 c.2.2.1 c.2.2.2.1) c.1
 | .yield c=>c.1=none/\J c.2.1 c.2.2.1 c.2.2.2.1
def Bg (F:Array Keyed->Prop) (J:X->Y->Z->Prop):ForInStep (S2 X Y Z)->Prop
 | .done c=>D1 F (J c.2.1 c.2.2.1 c.2.2.2.1) c.1
 | .yield c=>c.1=none/\J c.2.1 c.2.2.1 c.2.2.2.1
def mJ {α:Type} (st:SortSt) (P:α->Prop) (r:α) (st':SortSt):Prop:=(∃g,st'=bQ st g)/\P r
theorem aZ {α:Type} {g:Nat} {P:α->Prop} {r:α} (h:P r):wpS (model prog w) A E s (pure r:SM α) (mJ st P) (bQ st g):=wpS_pure ⟨⟨_,rfl⟩,h⟩
noncomputable def dW:World:={ draws:=λ_ _=>0,params:={ strHash:=λ_=>0,shareClass:=λ_=>0,mergeTok:=id,idOf:=λ_=>0,idOfShared:=λ_ _=>0,followText:=λ_=>false,idOfImm:=λ_=>0 } }
def g9 {n:Nat} {f1:Nat->Nat->S1 X Y Z->SM (ForInStep (S1 X Y Z))} {f2:Nat->S2 X Y Z->SM (ForInStep (S2 X Y Z))} {F:Array Keyed->Prop} {J:Nat->X->Y->Z->Prop} {Q:Array Keyed->SortSt->Prop}:Prop:=∀(n1:1<=n) (mono:∀{m k x y z},J m x y z->k<=m->J k x y z) (bad:∀{x y z},¬J (n+1) x y z)
 (h1:∀{g mg i m c},J m c.2.1 c.2.2.1 c.2.2.2.1->wpS (model prog w) A E s (f1 mg i c) (mJ st (EU F (J (m+1)))) (bQ st g))
 (h2:∀{g i m c},J m c.2.1 c.2.2.1 c.2.2.2.1->wpS (model prog w) A E s (f2 i c) (mJ st (Bg F (J m))) (bQ st g))
 {x:X} {y:Y} {z:Z} (h0:J 1 x y z) (h:∀r g,F r->Q r (bQ st g)),wpS (model prog w) A E s (Du n f1 f2 x y z) Q st
theorem tB {n:Nat} {f1:Nat->Nat->S1 X Y Z->SM (ForInStep (S1 X Y Z))} {f2:Nat->S2 X Y Z->SM (ForInStep (S2 X Y Z))} {F:Array Keyed->Prop} {J:Nat->X->Y->Z->Prop} {Q:Array Keyed->SortSt->Prop}:@g9 prog w A E s st X Y Z n f1 f2 F J Q:=au (S:=λt:Type×Type×Type=>∀prog w A E s st n f1 f2 F J Q,@g9 prog w A E s st t.1 t.2.1 t.2.2 n f1 f2 F J Q) (x:=(Nat,Nat,Nat)) (by
 refine (?_:∀X Y Z prog w A E s st n f1 f2 F J Q,@g9 prog w A E s st X Y Z n f1 f2 F J Q) _ _ _;intro X Y Z prog w A E s st n f1 f2 F J Q;refine au (S:=λx:Program×World×Around×(Value->Shared->Prop)×Shared×SortSt×Nat×(Nat->Nat->S1 X Y Z->SM (ForInStep (S1 X Y Z)))×(Nat->S2 X Y Z->SM (ForInStep (S2 X Y Z)))×(Array Keyed->Prop)×(Nat->X->Y->Z->Prop)×(Array Keyed->SortSt->Prop)=>@g9 x.1 x.2.1 x.2.2.1 x.2.2.2.1 x.2.2.2.2.1 x.2.2.2.2.2.1 X Y Z x.2.2.2.2.2.2.1 x.2.2.2.2.2.2.2.1 x.2.2.2.2.2.2.2.2.1 x.2.2.2.2.2.2.2.2.2.1 x.2.2.2.2.2.2.2.2.2.2.1 x.2.2.2.2.2.2.2.2.2.2.2) (x:=(default,dW,{},λ_ _=>True,{},.mk' oneType' #[] #[] 0 none,0,λ_ _ c=>pure (.done c),λ_ c=>pure (.done c),λ_=>True,λ_ _ _ _=>True,λ_ _=>True)) ?_ (prog,w,A,E,s,st,n,f1,f2,F,J,Q);refine (?_:∀prog w A E s st n f1 f2 F J Q,@g9 prog w A E s st X Y Z n f1 f2 F J Q) _ _ _ _ _ _ _ _ _ _ _ _;intro prog w A E s st n f1 f2 F J Q n1 mono bad h1 h2 x y z h0 h
 refine wpS_bind (wpS_get (wpS_bind (wpS_mono (wpS_forRange (λi c=>mJ st (λc:S0 X Y Z=>c.1=none/\J (i+1) c.2.1 c.2.2.1 c.2.2.2.1) c) (Q:=mJ st λc:S0 X Y Z=>∃r,c.1=some r/\F r)
  (λi c st' _ _ hI=>?_) (λc st' hI=>absurd hI.2.2 ?_) ⟨⟨gallopOf st,rfl⟩,rfl,h0⟩) λc st' hQ=>?_)))
 ·refine dJ hI ?_;rintro ⟨g,rfl⟩ _ hJ
  refine wpS_bind (wpS_mono (wpS_forRange (λk c=>mJ st (λc:S1 X Y Z=>c.1=none/\J (i+1+k) c.2.1 c.2.2.1 c.2.2.2.1) c) (Q:=mJ st λc:S1 X Y Z=>D1 F (J (i+1+1) c.2.1 c.2.2.1 c.2.2.2.1) c.1)
   (λk c1 st' _ _ hI=>?_) (λc st' hI=>⟨hI.1,.inr ⟨hI.2.1,mono hI.2.2 (QU (P8 n1 (Nat.le_max_right 0 n)) _)⟩⟩) ⟨⟨g,rfl⟩,rfl,hJ⟩) λc1 st' hQ=>?_)
  ·refine dJ hI ?_;rintro ⟨g,rfl⟩ _ hJ;refine wpS_mono (h1 hJ) λr st' hr=>?_
   cases r with
   | done c=>exact ⟨hr.1,hr.2.imp id λq=>⟨q.1,mono q.2 (SQ (QA _ _) 1)⟩⟩
   | yield c=>exact hr
  ·refine aD hQ ?_;rintro ⟨g,rfl⟩ hD;obtain ⟨r,c1⟩:=c1;rcases hD with ⟨r',rfl,hF⟩ | ⟨rfl,hJ⟩
   ·exact wpS_pure ⟨⟨g,rfl⟩,r',rfl,hF⟩
   ·refine wpS_bind (wpS_lift (wpAny_rule ⟨rfl,?_⟩))
    refine wpS_bind (wpS_mono (wpS_forRange (λ_ c=>mJ st (λc:S2 X Y Z=>c.1=none/\J (i+1+1) c.2.1 c.2.2.1 c.2.2.2.1) c) (Q:=mJ st λc:S2 X Y Z=>D1 F (J (i+1+1) c.2.1 c.2.2.1 c.2.2.2.1) c.1)
     (λk c1 st' _ _ hI=>?_) (λc st' hI=>⟨hI.1,.inr hI.2⟩) ⟨⟨g,rfl⟩,rfl,hJ⟩) λc1 st' hQ=>?_)
    ·refine dJ hI ?_;rintro ⟨g,rfl⟩ _ hJ;refine wpS_mono (h2 hJ) λr st' hr=>?_
     cases r<;>exact hr
    ·refine aD hQ ?_;rintro ⟨g,rfl⟩ hD;obtain ⟨r,c1⟩:=c1;rcases hD with ⟨r',rfl,hF⟩ | ⟨rfl,hJ⟩
     ·exact wpS_pure ⟨⟨g,rfl⟩,r',rfl,hF⟩
     ·exact wpS_bind (wZ (wpS_pure ⟨⟨_,rfl⟩,rfl,hJ⟩))
 ·rw [Nat.zero_max];exact bad
 ·obtain ⟨⟨g,rfl⟩,r,hr,hF⟩:=hQ;obtain ⟨_,c⟩:=c;cases hr
  exact wpS_pure (h _ _ hF)) (X,Y,Z) _ _ _ _ _ _ _ _ _ _ _ _
end
noncomputable def BS (a b out:Array Keyed) (i j:Nat):Array Keyed:=out++a.extract i a.size++b.extract j b.size
noncomputable def I2 (a b out:Array Keyed) (i j:Nat):Array Keyed:=out++b.extract j b.size++a.extract i a.size
noncomputable def Mw (a b:Array Keyed) (mg:Nat) (out:Array Keyed) (i j bc:Nat):SM (ForInStep (S1 (Array Keyed) Nat Nat)):=do
 let x <- elem' b j
 if (j+1 == b.size)=true then pure (.done (some (BS a b (out.push x) i (j+1)),out.push x,i,j+1,0,bc+1))
 else if bc+1>=mg then pure (.done (none,out.push x,i,j+1,0,bc+1)) else pure (.yield (none,out.push x,i,j+1,0,bc+1))
noncomputable def Mx (a b:Array Keyed) (mg:Nat) (out:Array Keyed) (i j ac:Nat):SM (ForInStep (S1 (Array Keyed) Nat Nat)):=do
 let x <- elem' a i
 if (i+1+1 == a.size)=true then pure (.done (some (I2 a b (out.push x) (i+1) j),out.push x,i+1,j,ac+1,0))
 else if ac+1>=mg then pure (.done (none,out.push x,i+1,j,ac+1,0)) else pure (.yield (none,out.push x,i+1,j,ac+1,0))
noncomputable def l1 (a b:Array Keyed) (mg:Nat) (_:Nat) (c:S1 (Array Keyed) Nat Nat):SM (ForInStep (S1 (Array Keyed) Nat Nat)):=do
 let x <- elem' b c.2.2.2.1
 let y <- elem' a c.2.2.1
 let r <- lt' x y
 match r with
 | some bw=>if bw=true then Mw a b mg c.2.1 c.2.2.1 c.2.2.2.1 c.2.2.2.2.2 else Mx a b mg c.2.1 c.2.2.1 c.2.2.2.1 c.2.2.2.2.1
 | _=>pure (.done (some (BS a b c.2.1 c.2.2.1 c.2.2.2.1),c.2))
noncomputable def J0 (a b:Array Keyed) (mg k k2:Nat) (out:Array Keyed) (i j:Nat):SM (ForInStep (S2 (Array Keyed) Nat Nat)):=do
 let y <- elem' a i
 if (i+1+1 == a.size)=true then pure (.done (some (I2 a b (out.push y) (i+1) j),out.push y,i+1,j,mg,k,k2))
 else if (decide (k<7) && decide (k2<7))=true then pure (.done (none,out.push y,i+1,j,mg,k,k2)) else pure (.yield (none,out.push y,i+1,j,mg,k,k2))
noncomputable def J2 (a b:Array Keyed) (mg k bc:Nat) (out:Array Keyed) (i j:Nat):SM (ForInStep (S2 (Array Keyed) Nat Nat)):=
 elem' b j >>= λx=>
 if (j+1 == b.size)=true then pure (.done (some (BS a b (out.push x) i (j+1)),out.push x,i,j+1,mg,k,bc)) else
 elem' a i >>= λy=>fQ true y b (j+1) (b.size- (j+1)) 0 >>= λr=>match r with
  | some k2=>
   if k2>0 then
    if (j+1+k2 == b.size)=true then pure (.done (some (BS a b (out.push x++b.extract (j+1) (j+1+k2)) i (j+1+k2)),out.push x++b.extract (j+1) (j+1+k2),i,j+1+k2,mg,k,k2))
    else J0 a b mg k k2 (out.push x++b.extract (j+1) (j+1+k2)) i (j+1+k2)
   else J0 a b mg k k2 (out.push x) i (j+1)
  | _=>pure (.done (some (BS a b (out.push x) i (j+1)),out.push x,i,j+1,mg,k,bc))
noncomputable def J3 (a b:Array Keyed) (mg:Nat) (c:Array Keyed×Nat×Nat×Nat×Nat×Nat):SM (ForInStep (S2 (Array Keyed) Nat Nat)):=
 dE mg >>= λ_=>elem' b c.2.2.1 >>= λx=>fQ false x a c.2.1 (a.size-c.2.1) 0 >>= λr=>match r with
 | some k=>
  if k>0 then
   if (c.2.1+k+1 == a.size)=true then pure (.done (some (I2 a b (c.1++a.extract c.2.1 (c.2.1+k)) (c.2.1+k) c.2.2.1),c.1++a.extract c.2.1 (c.2.1+k),c.2.1+k,c.2.2.1,mg,k,c.2.2.2.2.2))
   else if (c.2.1+k == a.size)=true then pure (.done (some (BS a b (c.1++a.extract c.2.1 (c.2.1+k)) (c.2.1+k) c.2.2.1),c.1++a.extract c.2.1 (c.2.1+k),c.2.1+k,c.2.2.1,mg,k,c.2.2.2.2.2))
   else J2 a b mg k c.2.2.2.2.2 (c.1++a.extract c.2.1 (c.2.1+k)) (c.2.1+k) c.2.2.1
  else J2 a b mg k c.2.2.2.2.2 c.1 c.2.1 c.2.2.1
 | _=>pure (.done (some (BS a b c.1 c.2.1 c.2.2.1),c.1,c.2.1,c.2.2.1,mg,c.2.2.2.2))
noncomputable def l2 (a b:Array Keyed) (_:Nat) (c:S2 (Array Keyed) Nat Nat):SM (ForInStep (S2 (Array Keyed) Nat Nat)):=if c.2.2.2.2.1>1 then J3 a b (c.2.2.2.2.1-1) c.2 else J3 a b c.2.2.2.2.1 c.2
theorem qm (a b:Array Keyed):lX a b=(do
 rule "list.sort.merge-lo"
 let x <- elem' b 0
 if (1 == b.size)=true then pure (BS a b #[x] 0 1)
 else if (0+1 == a.size)=true then pure (I2 a b #[x] 0 1)
 else Du (a.size+b.size) (l1 a b) (l2 a b) #[x] 0 1):=by kernel_rfl
def Iv (a b out:Array Keyed) (ia ib:Nat):Prop:=out.toList.Perm (a.toList.take ia++b.toList.take ib)
section
variable {a b out:Array Keyed} {ia ib k:Nat}
theorem Iv.nB (h:Iv a b out ia ib) (hb:ib<b.size):Iv a b (out.push b[ib]) ia (ib+1):=by
 unfold Iv at h ⊢;rw [Tj,Ti,Qg (by rw [Q2];exact hb),<- Qm];exact h.append_right _
theorem Iv.qc (h:Iv a b out ia ib) (ha:ia<a.size):Iv a b (out.push a[ia]) (ia+1) ib:=by
 unfold Iv at h ⊢;rw [Tj,Ti,Qg (by rw [Q2];exact ha),Qm];exact (h.append_right _).trans (by rw [Qm];exact Rz _ QZ)
theorem Iv.uX (h:Iv a b out ia ib):Iv a b (out++a.extract ia (ia+k)) (ia+k) ib:=by
 unfold Iv at h ⊢;rw [QG,So,RF,Rh,List.take_add];rw [Qm];exact (h.append_right _).trans (by rw [Qm];exact Rz _ QZ)
theorem Iv.uW (h:Iv a b out ia ib):Iv a b (out++b.extract ib (ib+k)) ia (ib+k):=by
 unfold Iv at h ⊢;rw [QG,So,RF,Rh,List.take_add,<- Qm];exact h.append_right _
theorem Iv.done (h:Iv a b out ia ib):(out++a.extract ia a.size++b.extract ib b.size).toList.Perm (a.toList++b.toList):=by
 have e:∀(c:Array Keyed) (i:Nat),(c.extract i c.size).toList=c.toList.drop i:=λc i=>by
  rw [So,RF,TS (by rw [Ts,Q2];exact Qn _)]
 rw [QG,QG,e,e];refine ((h.append_right _).append_right _).trans ?_
 have e2:a.toList++b.toList=(a.toList.take ia++a.toList.drop ia)++ (b.toList.take ib++b.toList.drop ib):=by rw [QP,QP]
 rw [e2,Qm,Qm,Qm];refine Rz _ ?_;rw [<- Qm,<- Qm];exact Tf _ QZ
theorem Iv.last (h:Iv a b out ia ib):(out++b.extract ib b.size++a.extract ia a.size).toList.Perm (a.toList++b.toList):=by
 refine List.Perm.trans ?_ h.done;rw [QG,QG,QG,QG,Qm,Qm];exact Rz _ QZ
end
theorem fX {a:Array Keyed} {i:Nat} (ha:IntKeys a) (hi:i<a.size):AB a[i]:=ha _ (by simp)
structure Jl (a b:Array Keyed) (m:Nat) (out:Array Keyed) (i j:Nat):Prop where
 iv:Iv a b out i j
 ia:i+1<a.size
 jb:j<b.size
 le:m<=i+j
section
variable {prog:Program} {w:World} {A:Around} {E:Value->Shared->Prop} {s:Shared} {a₀:Array Keyed} {st:SortSt} {a b out:Array Keyed} {m mg g i j k k2 bc ac x:Nat}
abbrev FL (a b:Array Keyed):Array Keyed->Prop:=λr=>r.toList.Perm (a.toList++b.toList)
theorem Jl.vc (J:Jl a b m out i j):i<a.size:=Nat.lt_of_succ_lt J.ia
theorem Jl.a1 (J:Jl a b m out i j) (ne:i+1+1≠a.size):Jl a b (m+1) (out.push (a[i]'J.vc)) (i+1) j:=
 ⟨J.iv.qc J.vc,QQ J.ia ne,J.jb,P8 (SW J.le) (Rb (Tc i j 1))⟩
theorem Jl.b1 (J:Jl a b m out i j) (ne:j+1≠b.size):Jl a b (m+1) (out.push (b[j]'J.jb)) i (j+1):=
 ⟨J.iv.nB J.jb,J.ia,QQ J.jb ne,SW J.le⟩
theorem Jl.mono (J:Jl a b m out i j) (h:k<=m):Jl a b k out i j:=⟨J.iv,J.ia,J.jb,P8 h J.le⟩
theorem Dv (J:Jl a b m out i j):wpS (model prog w) A E s (Mw a b mg out i j bc) (mJ st (EU (FL a b) (Jl a b (m+1)))) (bQ st g):=by
 refine wpS_bind (cv (QO b j J.jb) ?_);refine fW (λ_=>aZ (st:=st) (.inl ⟨_,rfl,(J.iv.nB J.jb).done⟩)) λne=>?_;exact b9 (λ_=>aZ (st:=st) (.inr ⟨rfl,J.b1 ne⟩)) λ_=>aZ (st:=st) ⟨rfl,J.b1 ne⟩
theorem Dw (J:Jl a b m out i j):wpS (model prog w) A E s (Mx a b mg out i j ac) (mJ st (EU (FL a b) (Jl a b (m+1)))) (bQ st g):=by
 refine wpS_bind (cv (QO a i J.vc) ?_);refine fW (λ_=>aZ (st:=st) (.inl ⟨_,rfl,(J.iv.qc J.vc).last⟩)) λne=>?_;exact b9 (λ_=>aZ (st:=st) (.inr ⟨rfl,J.a1 ne⟩)) λ_=>aZ (st:=st) ⟨rfl,J.a1 ne⟩
theorem Gs (kd:kindOf st=oneType') (ha:IntKeys a) (hb:IntKeys b) {c:S1 (Array Keyed) Nat Nat} (J:Jl a b m c.2.1 c.2.2.1 c.2.2.2.1):wpS (model prog w) A E s (l1 a b mg x c) (mJ st (EU (FL a b) (Jl a b (m+1)))) (bQ st g):=by
 refine wpS_bind (cv (QO b _ J.jb) (wpS_bind (cv (QO a _ J.vc) (wpS_bind (wX kd (fX hb J.jb) (fX ha J.vc) λbw=>?_)))));exact b9 (λ_=>Dv J) λ_=>Dw J
theorem wO (J:Jl a b m out i j):wpS (model prog w) A E s (J0 a b mg k k2 out i j) (mJ st (Bg (FL a b) (Jl a b m))) (bQ st g):=by
 refine wpS_bind (cv (QO a i J.vc) ?_);refine fW (λ_=>aZ (st:=st) (.inl ⟨_,rfl,(J.iv.qc J.vc).last⟩)) λne=>?_;have J':=(J.a1 ne).mono (Tg m);exact b9 (λ_=>aZ (st:=st) (.inr ⟨rfl,J'⟩)) λ_=>aZ (st:=st) ⟨rfl,J'⟩
theorem Jl.bk (J:Jl a b m out i j) (h:k<=b.size-j) (ne:j+k≠b.size):Jl a b m (out++b.extract j (j+k)) i (j+k):=
 ⟨J.iv.uW,J.ia,QQ (P8 (QU h j) (Rb (Q0 (Qp J.jb)))) ne,P8 J.le (QU (QA j k) i)⟩
theorem wQ (kd:kindOf st=oneType') (ha:IntKeys a) (hb:IntKeys b) (J:Jl a b m out i j):wpS (model prog w) A E s (J2 a b mg k bc out i j) (mJ st (Bg (FL a b) (Jl a b m))) (bQ st g):=by
 refine wpS_bind (cv (QO b j J.jb) ?_);refine fW (λ_=>aZ (st:=st) (.inl ⟨_,rfl,(J.iv.nB J.jb).done⟩)) λne=>?_;have J1:=(J.b1 ne).mono (Tg m);refine wpS_bind (cv (QO a i J.vc) (wpS_bind (gn kd (fX ha J.vc) hb (SN J1.jb) (Rb (Q0 (Qp J1.jb))) λk2 hk2=>?_)));exact b9 (λ_=>fW (λ_=>aZ (st:=st) (.inl ⟨_,rfl,J1.iv.uW.done⟩)) λne2=>wO (J1.bk hk2 ne2)) λ_=>wO J1
theorem wU (kd:kindOf st=oneType') (ha:IntKeys a) (hb:IntKeys b) {c:Array Keyed×Nat×Nat×Nat×Nat×Nat} (J:Jl a b m c.1 c.2.1 c.2.2.1):wpS (model prog w) A E s (J3 a b mg c) (mJ st (Bg (FL a b) (Jl a b m))) (bQ st g):=by
 refine wpS_bind (wZ (wpS_bind (cv (QO b _ J.jb) (wpS_bind (gn (st:=bQ st mg) kd (fX hb J.jb) ha (SN J.vc) (Rb (Q0 (Qp J.vc))) λk hk=>?_)))));refine b9 (λ_=>?_) λ_=>wQ kd ha hb J;refine fW (λ_=>aZ (st:=st) (.inl ⟨_,rfl,J.iv.uX.last⟩)) λn1=>fW (λ_=>aZ (st:=st) (.inl ⟨_,rfl,J.iv.uX.done⟩)) λn2=>wQ kd ha hb ⟨J.iv.uX,?_,J.jb,P8 J.le (SQ (QA _ _) _)⟩;have:=J.ia;lia
theorem Gr (kd:kindOf st=oneType') (ha:IntKeys a) (hb:IntKeys b) {c:S2 (Array Keyed) Nat Nat} (J:Jl a b m c.2.1 c.2.2.1 c.2.2.2.1):wpS (model prog w) A E s (l2 a b x c) (mJ st (Bg (FL a b) (Jl a b m))) (bQ st g):=
 b9 (λ_=>wU kd ha hb J) λ_=>wU kd ha hb J
theorem uC {Q:Array Keyed->SortSt->Prop} (hB:WB a₀ st) (ha:IntKeys a) (hb:IntKeys b) (a1:1<=a.size) (b1:1<=b.size)
 (h:∀r g,r.toList.Perm (a.toList++b.toList)->Q r (bQ st g)):wpS (model prog w) A E s (lX a b) Q st:=by
 rw [qm];refine wpS_bind (wpS_lift (wpAny_rule ⟨rfl,?_⟩));refine wpS_bind (cv (QO b 0 b1) ?_);have I0:Iv a b #[b[0]] 0 1:=Iv.nB (a:=a) (b:=b) (out:=#[]) (ia:=0) (ib:=0) (List.Perm.refl _) b1;refine fW (λ_=>wpS_pure (h _ (gallopOf st) I0.done)) λnb=>fW (λ_=>wpS_pure (h _ (gallopOf st) I0.last)) λna=>?_;exact tB (P8 a1 (QA _ _)) (λJ l=>J.mono l) (λJ=>by have:=J.ia;have:=J.jb;have:=J.le;lia) (λJ=>Gs hB.kind ha hb J) (λJ=>Gr hB.kind ha hb J) ⟨I0,QQ a1 na,QQ b1 nb,Qn 1⟩ h
end
noncomputable def BU (a b out:Array Keyed) (na nb:Nat):Array Keyed:=a.extract 0 na++b.extract 0 nb++out.reverse
noncomputable def I8 (a b out:Array Keyed) (na nb:Nat):Array Keyed:=b.extract 0 nb++a.extract 0 na++out.reverse
noncomputable def MB (a b:Array Keyed) (mg na nb:Nat) (out:Array Keyed) (ac:Nat):SM (ForInStep (S1 Nat Nat (Array Keyed))):=do
 let x <- elem' a (na-1)
 if (na-1 == 0)=true then pure (.done (some (BU a b (out.push x) (na-1) nb),na-1,nb,out.push x,ac+1,0))
 else if ac+1>=mg then pure (.done (none,na-1,nb,out.push x,ac+1,0)) else pure (.yield (none,na-1,nb,out.push x,ac+1,0))
noncomputable def MA (a b:Array Keyed) (mg na nb:Nat) (out:Array Keyed) (bc:Nat):SM (ForInStep (S1 Nat Nat (Array Keyed))):=do
 let x <- elem' b (nb-1)
 if (nb-1 == 1)=true then pure (.done (some (I8 a b (out.push x) na (nb-1)),na,nb-1,out.push x,0,bc+1))
 else if bc+1>=mg then pure (.done (none,na,nb-1,out.push x,0,bc+1)) else pure (.yield (none,na,nb-1,out.push x,0,bc+1))
noncomputable def h1 (a b:Array Keyed) (mg:Nat) (_:Nat) (c:S1 Nat Nat (Array Keyed)):SM (ForInStep (S1 Nat Nat (Array Keyed))):=do
 let x <- elem' b (c.2.2.1-1)
 let y <- elem' a (c.2.1-1)
 let r <- lt' x y
 match r with
 | some aw=>if aw=true then MB a b mg c.2.1 c.2.2.1 c.2.2.2.1 c.2.2.2.2.1 else MA a b mg c.2.1 c.2.2.1 c.2.2.2.1 c.2.2.2.2.2
 | _=>pure (.done (some (BU a b c.2.2.2.1 c.2.1 c.2.2.1),c.2))
noncomputable def Kn (a b:Array Keyed) (mg k k2 na nb:Nat) (out:Array Keyed):SM (ForInStep (S2 Nat Nat (Array Keyed))):=do
 let y <- elem' a (na-1)
 if (na-1 == 0)=true then pure (.done (some (BU a b (out.push y) (na-1) nb),na-1,nb,out.push y,mg,k,k2))
 else if (decide (k<7) && decide (k2<7))=true then pure (.done (none,na-1,nb,out.push y,mg,k,k2)) else pure (.yield (none,na-1,nb,out.push y,mg,k,k2))
noncomputable def Ko (a b:Array Keyed) (mg k bc na nb:Nat) (out:Array Keyed):SM (ForInStep (S2 Nat Nat (Array Keyed))):=
 elem' b (nb-1) >>= λx=>
 if (nb-1 == 1)=true then pure (.done (some (I8 a b (out.push x) na (nb-1)),na,nb-1,out.push x,mg,k,bc)) else
 elem' a (na-1) >>= λy=>fQ true y b 0 (nb-1) (nb-1-1) >>= λr=>match r with
  | some at_=>
   if nb-1-at_>0 then
    if (at_ == 1)=true then pure (.done (some (I8 a b (out.push x++ (b.extract at_ (nb-1)).reverse) na at_),na,at_,out.push x++ (b.extract at_ (nb-1)).reverse,mg,k,nb-1-at_))
    else if (at_ == 0)=true then pure (.done (some (BU a b (out.push x++ (b.extract at_ (nb-1)).reverse) na at_),na,at_,out.push x++ (b.extract at_ (nb-1)).reverse,mg,k,nb-1-at_))
    else Kn a b mg k (nb-1-at_) na at_ (out.push x++ (b.extract at_ (nb-1)).reverse)
   else Kn a b mg k (nb-1-at_) na (nb-1) (out.push x)
  | _=>pure (.done (some (BU a b (out.push x) na (nb-1)),na,nb-1,out.push x,mg,k,bc))
noncomputable def Kp (a b:Array Keyed) (mg:Nat) (c:Nat×Nat×Array Keyed×Nat×Nat×Nat):SM (ForInStep (S2 Nat Nat (Array Keyed))):=
 dE mg >>= λ_=>elem' b (c.2.1-1) >>= λx=>fQ false x a 0 c.1 (c.1-1) >>= λr=>match r with
 | some at_=>
  if c.1-at_>0 then
   if (at_ == 0)=true then pure (.done (some (BU a b (c.2.2.1++ (a.extract at_ c.1).reverse) at_ c.2.1),at_,c.2.1,c.2.2.1++ (a.extract at_ c.1).reverse,mg,c.1-at_,c.2.2.2.2.2))
   else Ko a b mg (c.1-at_) c.2.2.2.2.2 at_ c.2.1 (c.2.2.1++ (a.extract at_ c.1).reverse)
  else Ko a b mg (c.1-at_) c.2.2.2.2.2 c.1 c.2.1 c.2.2.1
 | _=>pure (.done (some (BU a b c.2.2.1 c.1 c.2.1),c.1,c.2.1,c.2.2.1,mg,c.2.2.2.2))
noncomputable def h2 (a b:Array Keyed) (_:Nat) (c:S2 Nat Nat (Array Keyed)):SM (ForInStep (S2 Nat Nat (Array Keyed))):=if c.2.2.2.2.1>1 then Kp a b (c.2.2.2.2.1-1) c.2 else Kp a b c.2.2.2.2.1 c.2
theorem qn (a b:Array Keyed):lY a b=(do
 rule "list.sort.merge-hi"
 let x <- elem' a (a.size-1)
 if (a.size-1 == 0)=true then pure (BU a b #[x] (a.size-1) b.size)
 else if (b.size == 1)=true then pure (I8 a b #[x] (a.size-1) b.size)
 else Du (a.size+b.size) (h1 a b) (h2 a b) (a.size-1) b.size #[x]):=by kernel_rfl
def Hv (a b out:Array Keyed) (na nb:Nat):Prop:=out.toList.Perm (a.toList.drop na++b.toList.drop nb)
section
variable {a b out:Array Keyed} {na nb k:Nat}
theorem nP {c:List Keyed} {i:Nat} (h:i<c.length):c.drop i=c[i]::c.drop (i+1):=Sk h
theorem Hv.qc (h:Hv a b out (na+1) nb) (ha:na<a.size):Hv a b (out.push a[na]) na nb:=by
 unfold Hv at h ⊢;rw [Tj,nP (c:=a.toList) (by rw [Q2];exact ha)];exact (h.append_right _).trans QZ
theorem Hv.nB (h:Hv a b out na (nb+1)) (hb:nb<b.size):Hv a b (out.push b[nb]) na nb:=by
 unfold Hv at h ⊢;rw [Tj,nP (c:=b.toList) (by rw [Q2];exact hb)];refine (h.append_right _).trans (QZ.trans ?_);show List.Perm (b[nb]:: (a.toList.drop na++b.toList.drop (nb+1))) (a.toList.drop na++b[nb]::b.toList.drop (nb+1));exact List.perm_middle.symm
theorem jq {c:Array Keyed} {i j:Nat} (h:i<=j):c.toList.drop i=(c.extract i j).toList++c.toList.drop j:=by
 rw [So,RF];have:=QP (j-i) (c.toList.drop i);rw [List.drop_drop,Q0 h] at this;exact this.symm
theorem Hv.uX (h:Hv a b out na nb) (hk:k<=na):Hv a b (out++ (a.extract k na).reverse) k nb:=by
 unfold Hv at h ⊢;rw [QG,Ub,jq hk,Qm];exact (h.append (List.reverse_perm _)).trans QZ
theorem Hv.uW (h:Hv a b out na nb) (hk:k<=nb):Hv a b (out++ (b.extract k nb).reverse) na k:=by
 unfold Hv at h ⊢;rw [QG,Ub,jq hk];refine (h.append (List.reverse_perm _)).trans ?_;rw [Qm];exact Rz _ QZ
theorem Hv.done (h:Hv a b out na nb):(a.extract 0 na++b.extract 0 nb++out.reverse).toList.Perm (a.toList++b.toList):=by
 have e:∀(c:Array Keyed) (i:Nat),(c.extract 0 i).toList=c.toList.take i:=λc i=>by
  rw [So,RF];rfl
 rw [QG,QG,Ub,e,e];refine (Rz _ ((List.reverse_perm _).trans h)).trans ?_
 have e2:a.toList++b.toList=(a.toList.take na++a.toList.drop na)++ (b.toList.take nb++b.toList.drop nb):=by rw [QP,QP]
 rw [e2,Qm,Qm];refine Rz _ ?_;rw [<- Qm,<- Qm];exact Tf _ QZ
theorem Hv.first (h:Hv a b out na nb):(b.extract 0 nb++a.extract 0 na++out.reverse).toList.Perm (a.toList++b.toList):=by
 refine List.Perm.trans ?_ h.done;rw [QG,QG,QG,QG];exact Tf _ QZ
end
theorem Hv.a1 {a b out:Array Keyed} {na nb:Nat} (h:Hv a b out na nb) (h1:1<=na) (h2:na<=a.size):Hv a b (out.push (a[na-1]'(P7 (SJ h1 Nat.one_pos) h2))) (na-1) nb:=by
 cases na with
 | zero=>cases h1
 | succ n=>exact h.qc h2
theorem Hv.b1 {a b out:Array Keyed} {na nb:Nat} (h:Hv a b out na nb) (h1:1<=nb) (h2:nb<=b.size):Hv a b (out.push (b[nb-1]'(P7 (SJ h1 Nat.one_pos) h2))) na (nb-1):=by
 cases nb with
 | zero=>cases h1
 | succ n=>exact h.nB h2
structure Jh (a b:Array Keyed) (m na nb:Nat) (out:Array Keyed):Prop where
 hv:Hv a b out na nb
 a1:1<=na
 a2:na<=a.size
 b1:2<=nb
 b2:nb<=b.size
 le:na+nb+m<=a.size+b.size
section
variable {prog:Program} {w:World} {A:Around} {E:Value->Shared->Prop} {s:Shared} {a₀:Array Keyed} {st:SortSt} {a b out:Array Keyed} {m mg g na nb k k2 bc ac x:Nat}
theorem Jh.ia (J:Jh a b m na nb out):na-1<a.size:=P7 (SJ J.a1 Nat.one_pos) J.a2
theorem Jh.b0 (J:Jh a b m na nb out):1<=nb:=RV J.b1
theorem Jh.jb (J:Jh a b m na nb out):nb-1<b.size:=P7 (SJ J.b0 Nat.one_pos) J.b2
theorem Jh.mono (J:Jh a b m na nb out) (h:k<=m):Jh a b k na nb out:=⟨J.hv,J.a1,J.a2,J.b1,J.b2,P8 (QU h _) J.le⟩
theorem Jh.pa (J:Jh a b m na nb out) (ne:na-1≠0):Jh a b (m+1) (na-1) nb (out.push (a[na-1]'J.ia)):=by
 have:=J.a1;have:=J.le;exact ⟨J.hv.a1 J.a1 J.a2,Qv ne,P8 (Rk _ _) J.a2,J.b1,J.b2,by lia⟩
theorem Jh.pb (J:Jh a b m na nb out) (ne:nb-1≠1):Jh a b (m+1) na (nb-1) (out.push (b[nb-1]'J.jb)):=by
 have:=J.b1;have:=J.le;exact ⟨J.hv.b1 J.b0 J.b2,J.a1,J.a2,by lia,P8 (Rk _ _) J.b2,by lia⟩
theorem D4 (J:Jh a b m na nb out):wpS (model prog w) A E s (MB a b mg na nb out ac) (mJ st (EU (FL a b) (Jh a b (m+1)))) (bQ st g):=by
 refine wpS_bind (cv (QO a _ J.ia) ?_);refine fW (λ_=>aZ (st:=st) (.inl ⟨_,rfl,(J.hv.a1 J.a1 J.a2).done⟩)) λne=>?_;exact b9 (λ_=>aZ (st:=st) (.inr ⟨rfl,J.pa ne⟩)) λ_=>aZ (st:=st) ⟨rfl,J.pa ne⟩
theorem D3 (J:Jh a b m na nb out):wpS (model prog w) A E s (MA a b mg na nb out bc) (mJ st (EU (FL a b) (Jh a b (m+1)))) (bQ st g):=by
 refine wpS_bind (cv (QO b _ J.jb) ?_);refine fW (λ_=>aZ (st:=st) (.inl ⟨_,rfl,(J.hv.b1 J.b0 J.b2).first⟩)) λne=>?_;exact b9 (λ_=>aZ (st:=st) (.inr ⟨rfl,J.pb ne⟩)) λ_=>aZ (st:=st) ⟨rfl,J.pb ne⟩
theorem GR (kd:kindOf st=oneType') (ha:IntKeys a) (hb:IntKeys b) {c:S1 Nat Nat (Array Keyed)} (J:Jh a b m c.2.1 c.2.2.1 c.2.2.2.1):wpS (model prog w) A E s (h1 a b mg x c) (mJ st (EU (FL a b) (Jh a b (m+1)))) (bQ st g):=by
 refine wpS_bind (cv (QO b _ J.jb) (wpS_bind (cv (QO a _ J.ia) (wpS_bind (wX kd (fX hb J.jb) (fX ha J.ia) λbw=>?_)))));exact b9 (λ_=>D4 J) λ_=>D3 J
theorem xr (J:Jh a b m na nb out):wpS (model prog w) A E s (Kn a b mg k k2 na nb out) (mJ st (Bg (FL a b) (Jh a b m))) (bQ st g):=by
 refine wpS_bind (cv (QO a _ J.ia) ?_);refine fW (λ_=>aZ (st:=st) (.inl ⟨_,rfl,(J.hv.a1 J.a1 J.a2).done⟩)) λne=>?_;have J':=(J.pa ne).mono (Tg m);exact b9 (λ_=>aZ (st:=st) (.inr ⟨rfl,J'⟩)) λ_=>aZ (st:=st) ⟨rfl,J'⟩
theorem Jh.bk (J:Jh a b m na nb out) (h:k<=nb) (n1:k≠1) (n0:k≠0):Jh a b m na k (out++ (b.extract k nb).reverse):=by
 have:=J.le;exact ⟨J.hv.uW h,J.a1,J.a2,by exact Ce ‹_› ‹_›,P8 h J.b2,by lia⟩
theorem Jh.ak (J:Jh a b m na nb out) (h:k<=na) (n0:k≠0):Jh a b m k nb (out++ (a.extract k na).reverse):=by
 have:=J.le;exact ⟨J.hv.uX h,Qv n0,P8 h J.a2,J.b1,J.b2,by lia⟩
theorem xu (kd:kindOf st=oneType') (ha:IntKeys a) (hb:IntKeys b) (J:Jh a b m na nb out):wpS (model prog w) A E s (Ko a b mg k bc na nb out) (mJ st (Bg (FL a b) (Jh a b m))) (bQ st g):=by
 refine wpS_bind (cv (QO b _ J.jb) ?_);refine fW (λ_=>aZ (st:=st) (.inl ⟨_,rfl,(J.hv.b1 J.b0 J.b2).first⟩)) λne=>?_;have J1:=(J.pb ne).mono (Tg m);refine wpS_bind (cv (QO a _ J.ia) (wpS_bind (gn kd (fX ha J.ia) hb (SJ J1.b0 Nat.one_pos) ((Rx _).symm ▸ J1.b2) λk2 hk2=>?_)));exact b9 (λ_=>fW (λ_=>aZ (st:=st) (.inl ⟨_,rfl,(J1.hv.uW hk2).first⟩)) λn1=>fW (λ_=>aZ (st:=st) (.inl ⟨_,rfl,(J1.hv.uW hk2).done⟩)) λn2=>xr (J1.bk hk2 n1 n2)) λ_=>xr J1
theorem xy (kd:kindOf st=oneType') (ha:IntKeys a) (hb:IntKeys b) {c:Nat×Nat×Array Keyed×Nat×Nat×Nat} (J:Jh a b m c.1 c.2.1 c.2.2.1):wpS (model prog w) A E s (Kp a b mg c) (mJ st (Bg (FL a b) (Jh a b m))) (bQ st g):=by
 refine wpS_bind (wZ (wpS_bind (cv (QO b _ J.jb) (wpS_bind (gn (st:=bQ st mg) kd (fX hb J.jb) ha (SJ J.a1 Nat.one_pos) ((Rx _).symm ▸ J.a2) λk hk=>?_)))));exact b9 (λ_=>fW (λ_=>aZ (st:=st) (.inl ⟨_,rfl,(J.hv.uX hk).done⟩)) λn1=>xu kd ha hb (J.ak hk n1)) λ_=>xu kd ha hb J
theorem GQ (kd:kindOf st=oneType') (ha:IntKeys a) (hb:IntKeys b) {c:S2 Nat Nat (Array Keyed)} (J:Jh a b m c.2.1 c.2.2.1 c.2.2.2.1):wpS (model prog w) A E s (h2 a b x c) (mJ st (Bg (FL a b) (Jh a b m))) (bQ st g):=
 b9 (λ_=>xy kd ha hb J) λ_=>xy kd ha hb J
theorem uD {Q:Array Keyed->SortSt->Prop} (hB:WB a₀ st) (ha:IntKeys a) (hb:IntKeys b) (a1:1<=a.size) (b1:1<=b.size)
 (h:∀r g,r.toList.Perm (a.toList++b.toList)->Q r (bQ st g)):wpS (model prog w) A E s (lY a b) Q st:=by
 rw [qn];refine wpS_bind (wpS_lift (wpAny_rule ⟨rfl,?_⟩));have a1':a.size-1<a.size:=SJ a1 Nat.one_pos;refine wpS_bind (cv (QO a (a.size-1) a1') ?_)
 have I0:Hv a b #[a[a.size-1]] (a.size-1) b.size:=Hv.a1 (out:=#[]) (by
  unfold Hv;rw [Te (Rb Q2),Te (Rb Q2)]
  exact List.Perm.refl _) a1 (Qn _)
 refine fW (λ_=>wpS_pure (h _ (gallopOf st) I0.done)) λna=>fW (λ_=>wpS_pure (h _ (gallopOf st) I0.first)) λnb=>?_;exact tB (P8 a1 (QA _ _)) (λJ l=>J.mono l) (λJ=>by have:=J.le;lia) (λJ=>GR hB.kind ha hb J) (λJ=>GQ hB.kind ha hb J) ⟨I0,Qv na,Rk _ _,by exact QQ ‹_› (Ne.symm ‹_›),Qn _,by exact Tt ‹_› _⟩ h
end
theorem qo (i:Nat):mergeAt' i=(do
 let s <- get
 let (some (sa,na,power),some (sb,nb,_)):=((pendingOf s)[i]?,(pendingOf s)[i+1]?) | unsupported "internal:list.sort.pending"
 set (setPending s (((pendingOf s).setIfInBounds i (sa,na+nb,power)).eraseIdxIfInBounds (i+1)))
 let some k <- fQ false (<- elem' (arrOf s) sb) (arrOf s) sa na 0 | return false
 let (sa,na):=(sa+k,na-k)
 if na == 0 then return true
 let some nb <- fQ true (<- elem' (arrOf s) (sa+na-1)) (arrOf s) sb nb (nb-1) | return false
 if nb == 0 then return true
 let x:=(arrOf s).extract sa sb
 let y:=(arrOf s).extract sb (sb+nb)
 let merged <- if na<=nb then lX x y else lY x y
 modify λs=>setArr s (merged.toList.zipIdx.foldl (λa (p,j)=>a.setIfInBounds (sa+j) p) (arrOf s))
 return (failedOf (<- get)).isNone):=rfl
theorem lk {sa:Nat}:∀{M:List Keyed} {k:Nat} {xs:Array Keyed},sa+k+M.length<=xs.size->
 ((M.zipIdx k).foldl (λa (p,j)=>a.setIfInBounds (sa+j) p) xs).toList=xs.toList.take (sa+k)++M++xs.toList.drop (sa+k+M.length)
 | [],k,xs,h=>by rw [RK];exact (QP _ _).symm
 | p::M,k,xs,h=>by
  have h:sa+k+(M.length+1)<=xs.size:=h;rw [List.zipIdx_cons,List.foldl_cons,lk (by rw [Array.size_setIfInBounds];lia)];show (xs.setIfInBounds (sa+k) p).toList.take (sa+(k+1))++M++ (xs.setIfInBounds (sa+k) p).toList.drop (sa+(k+1)+M.length)=_
  have hl:sa+k<xs.toList.length:=by rw [Q2];lia
  rw [Array.toList_setIfInBounds,List.drop_set_of_lt (by exact QA _ _),<- RN,Ti,List.take_set_of_le (Qn _),List.getElem?_set_self hl,Qm _ _ M,show sa+k+1+M.length=sa+k+(M.length+1) by exact Tc _ _ _];rfl
theorem qV {xs m:Array Keyed} {sa sb nb:Nat} (h1:sa<=sb) (h2:sb+nb<=xs.size) (hp:m.toList.Perm ((xs.extract sa sb).toList++ (xs.extract sb (sb+nb)).toList)) :
 (m.toList.zipIdx.foldl (λa (p,j)=>a.setIfInBounds (sa+j) p) xs).Perm xs:=by
 have hl:m.toList.length=sb-sa+nb:=by
  rw [hp.length_eq,Qc,Q2,Q2,TH,TH,Sp (P8 (QA _ _) h2),Sp h2,Rh]
 refine SP.mpr ?_;rw [lk (by rw [hl];lia),hl,Nat.add_zero,show sa+(sb-sa+nb)=sb+nb by exact ad ‹_›]
 have e:xs.toList=xs.toList.take sa++ ((xs.extract sa sb).toList++ (xs.extract sb (sb+nb)).toList)++xs.toList.drop (sb+nb):=by
  rw [Qm,Qm,<- jq (QA sb nb),<- jq h1,QP]
 refine List.Perm.trans (Tf _ (Rz _ hp)) ?_;rw [<- e]
section
variable {prog:Program} {w:World} {A:Around} {E:Value->Shared->Prop} {s:Shared} {a₀:Array Keyed} {st:SortSt}
theorem o7 {xs:Array Keyed} (h:IntKeys xs) {i j:Nat}:IntKeys (xs.extract i j):=λp hp=>h p (by
 rw [So,RF] at hp
 exact T9 (SR hp))
theorem WB.ints (h:WB a₀ st) (h0:IntKeys a₀):IntKeys (arrOf st):=λp hp=>h0 p ((SP.mp h.perm).mem_iff.mp hp)
theorem Gw {st':SortSt} {Q:Unit->SortSt->Prop} (h:Q () st'):wpS (model prog w) A E s (set st':StateT SortSt Sem Unit) Q st:=by
 unfold wpS;rw [StateT.run_set];exact wpAny_pure ⟨rfl,h⟩
theorem uE {i sa na pw sb nb pw':Nat} {Q:Bool->SortSt->Prop} (hB:WB a₀ st) (h0:IntKeys a₀) (e1:(pendingOf st)[i]?=some (sa,na,pw)) (e2:(pendingOf st)[i+1]?=some (sb,nb,pw')) (hs:sa+na=sb) (h1:1<=na) (h2:1<=nb) (h3:sb+nb<=a₀.size)
 (h:∀st',WB a₀ st'->pendingOf st'=((pendingOf st).setIfInBounds i (sa,na+nb,pw)).eraseIdxIfInBounds (i+1)->Q true st'):wpS (model prog w) A E s (mergeAt' i) Q st:=by
 have hsz:=hB.perm.size_eq;have hI:=hB.ints h0;rw [qo];refine wpS_bind (wpS_get ?_);rw [e1,e2];refine wpS_bind (Gw ?_);have hB1:WB a₀ (setPending st (((pendingOf st).setIfInBounds i (sa,na+nb,pw)).eraseIdxIfInBounds (i+1))):=⟨hB.perm,hB.kind,hB.failed⟩;have ha1:arrOf st=arrOf (setPending st (((pendingOf st).setIfInBounds i (sa,na+nb,pw)).eraseIdxIfInBounds (i+1))):=rfl;have hp1:pendingOf (setPending st (((pendingOf st).setIfInBounds i (sa,na+nb,pw)).eraseIdxIfInBounds (i+1)))=((pendingOf st).setIfInBounds i (sa,na+nb,pw)).eraseIdxIfInBounds (i+1):=rfl;generalize setPending st (((pendingOf st).setIfInBounds i (sa,na+nb,pw)).eraseIdxIfInBounds (i+1))=st1 at hB1 ha1 hp1 ⊢
 have b1:sb<(arrOf st).size:=by lia
 refine wpS_bind (cv (QO _ sb b1) ?_);refine wpS_bind (gn hB1.kind (fX hI b1) hI (show 0<na by assumption) (show sa+na<=(arrOf st).size by lia) λk hk=>?_);refine fW (λ_=>wpS_pure (h _ hB1 hp1)) λnk=>?_;have nk:na-k≠0:=nk
 have b2:sa+k+(na-k) -1<(arrOf st).size:=by rw [RN,Q0 hk,hs];exact Qi (Rk _ _) b1
 refine wpS_bind (cv (QO _ (sa+k+(na-k) -1) b2) ?_);refine wpS_bind (gn hB1.kind (fX hI b2) hI (show nb-1<nb by exact SJ ‹_› (by decide)) (show sb+nb<=(arrOf st).size by lia) λk2 hk2=>?_);refine fW (λ_=>wpS_pure (h _ hB1 hp1)) λnk2=>?_;have nk2:k2≠0:=nk2
 have fin:∀(m:Array Keyed) g,m.toList.Perm (((arrOf st).extract (sa+k) sb).toList++ ((arrOf st).extract sb (sb+k2)).toList)->wpS (model prog w) A E s (do
  modify λs=>setArr s (m.toList.zipIdx.foldl (λa (p,j)=>a.setIfInBounds (sa+k+j) p) (arrOf s))
  return (failedOf (<- get)).isNone:StateT SortSt Sem Bool) Q (bQ st1 g):=λm g hm=>by
  refine wpS_bind (wpS_modify ?_);refine wpS_bind (wpS_get ?_);rw [show failedOf (setArr (bQ st1 g) _)=none from hB1.failed];refine wpS_pure (h _ ⟨?_,hB1.kind,hB1.failed⟩ hp1);refine Array.Perm.trans ?_ hB.perm;show (m.toList.zipIdx.foldl (λa (p,j)=>a.setIfInBounds (sa+k+j) p) (arrOf st1)).Perm (arrOf st);rw [<- ha1];exact qV (by lia) (by lia) hm
 have s1:1<=((arrOf st).extract (sa+k) sb).size:=by rw [TH,Sp (Qp b1)];exact SN (hs ▸ Ue (Nat.lt_of_sub_ne_zero nk) sa)
 have s2:1<=((arrOf st).extract sb (sb+k2)).size:=by rw [TH,Sp (P8 (QU hk2 sb) (hsz ▸ h3)),Rh];exact Qv nk2
 refine b9 (λ_=>?_) λ_=>?_
 ·exact wpS_bind (uC hB1 (o7 hI) (o7 hI) s1 s2 λm g hm=>fin m g hm)
 ·exact wpS_bind (uD hB1 (o7 hI) (o7 hI) s1 s2 λm g hm=>fin m g hm)
end
section
variable {prog:Program} {w:World} {A:Around} {E:Value->Shared->Prop} {s:Shared} {a₀:Array Keyed} {st:SortSt}
def WP (a₀:Array Keyed) (p:Array (Nat×Nat×Nat)) (st:SortSt):Prop:=WB a₀ st/\pendingOf st=p
theorem tF {i j:Nat} {p:Array (Nat×Nat×Nat)} {Q:Unit->SortSt->Prop} (hB:WP a₀ p st) (h:∀st',WP a₀ p st'->Q () st'):wpS (model prog w) A E s (reverseSlice' i j) Q st:=by
 rw [reverseSlice'_eq];exact wpS_modify (h _ ⟨⟨(mirror_perm _ _ _ _).trans hB.1.perm,hB.1.kind,hB.1.failed⟩,hB.2⟩)
theorem DB {i j:Nat} {p:Array (Nat×Nat×Nat)} {Q:Unit->SortSt->Prop} (hB:WP a₀ p st) (h:∀st',WP a₀ p st'->Q () st'):wpS (model prog w) A E s (moveDown' i j) Q st:=by
 rw [moveDown'_eq];exact wpS_modify (h _ ⟨⟨(bubble_perm _ _ _).trans hB.1.perm,hB.1.kind,hB.1.failed⟩,hB.2⟩)
theorem o5 {lo n ok:Nat} {p:Array (Nat×Nat×Nat)} {Q:Bool->SortSt->Prop} (h0:IntKeys a₀) (hn:lo+n<=a₀.size) (hB:WP a₀ p st) (h:∀st',WP a₀ p st'->Q true st'):wpS (model prog w) A E s (binarySort' lo n ok) Q st:=by
 rw [binarySort'_eq];refine wpS_bind (wpS_mono (nG (I:=λc st'=>c.fst=none/\WP a₀ p st') (Q:=λc st'=>c.fst=none/\WP a₀ p st') ?_ (λ_ _ h=>h) ⟨rfl,hB⟩) ?_)
 ·rintro k ⟨r,u⟩ st' hk1 hk ⟨e1,hB⟩;cases e1;refine wpS_bind (wpS_mono (nG (I:=λc st'=>c.fst=none/\c.snd.snd<=k/\WP a₀ p st') (Q:=λc st'=>c.fst=none/\WP a₀ p st') ?_ (λ_ _ h=>⟨h.1,h.2.2⟩) ⟨rfl,Qn k,hB⟩) ?_)
  ·rintro i ⟨r,l,rr⟩ st2 _ _ ⟨e1,h1,hB⟩;cases e1;dsimp only at h1;refine b9 (λ_=>wpS_pure ⟨rfl,hB⟩) λhlt=>?_;dsimp only at hlt;refine wpS_bind (mc hB.1 h0 (by lia) (by dsimp only;lia) λb=>?_);cases b
   ·exact wpS_pure ⟨rfl,h1,hB⟩
   ·exact wpS_pure ⟨rfl,show (l+rr) / 2<=k by lia,hB⟩
  ·rintro ⟨r,l,rr⟩ st2 ⟨e1,hB⟩;cases e1;exact wpS_bind (DB hB λst3 hB=>wpS_pure ⟨rfl,hB⟩)
 ·rintro ⟨r,u⟩ st' ⟨e1,hB⟩;cases e1;exact wpS_pure (h _ hB)
noncomputable abbrev Fd:=Option (Option Nat)×Nat
noncomputable abbrev LZ:=Option (Option Nat)×Nat×Nat
noncomputable def yB (lo:Nat) (_:Nat) (c:Fd):SM (ForInStep Fd):=ltAt' (lo+c.2) (lo+c.2-1) >>= λr=>match r with
 | some b=>if b=true then pure (.done (none,c.2)) else pure (.yield (none,c.2+1))
 | _=>pure (.done (some none,c.2))
noncomputable def HZ (lo nrem n:Nat):SM (Option Nat):=forIn [n:nrem] ((none,n):Fd) (yB lo) >>= λc=>match c.1 with
 | some r=>pure r
 | none=>pure (some c.2)
noncomputable def Eu (lo nrem n:Nat):SM (Option Nat):=reverseSlice' lo (lo+n) >>= λ_=>HZ lo nrem n
noncomputable def Hd (lo:Nat) (_:Nat) (c:LZ):SM (ForInStep LZ):=ltAt' (lo+c.2.1) (lo+c.2.1-1) >>= λr=>match r with
 | some b=>
  if b=true then
   if c.2.2>0 then reverseSlice' (lo+c.2.1- (c.2.2+1)) (lo+c.2.1) >>= λ_=>pure (.yield (none,c.2.1+1,0)) else pure (.yield (none,c.2.1+1,0))
  else ltAt' (lo+c.2.1-1) (lo+c.2.1) >>= λr=>match r with
   | some b=>if b=true then pure (.done (none,c.2)) else pure (.yield (none,c.2.1+1,c.2.2+1))
   | _=>pure (.done (some none,c.2))
 | _=>pure (.done (some none,c.2))
noncomputable def yC (lo nrem n:Nat):SM (Option Nat):=do
 rule "list.sort.descending-run"
 let c <- forIn [n+1:nrem] ((none,n+1,0):LZ) (Hd lo)
 match c.1 with
 | some r=>pure r
 | none=>if c.2.2>0 then reverseSlice' (lo+c.2.1- (c.2.2+1)) (lo+c.2.1) >>= λ_=>Eu lo nrem c.2.1 else Eu lo nrem c.2.1
theorem pA (lo nrem:Nat):countRun' lo nrem=(forIn [1:nrem] ((none,1):Fd) (yB lo) >>= λc=>match c.1 with
 | some r=>pure r
 | none=>
  if (c.2 == nrem)=true then pure (some c.2) else
  if c.2>1 then ltAt' lo (lo+c.2-1) >>= λr=>match r with
   | some b=>if b=true then pure (some c.2) else reverseSlice' lo (lo+c.2) >>= λ_=>yC lo nrem c.2
   | _=>pure none
  else yC lo nrem c.2):=by kernel_rfl
structure CQ (a₀:Array Keyed) (p:Array (Nat×Nat×Nat)) (m:Nat) (r:Option (Option Nat)) (n:Nat) (st:SortSt):Prop where
 w:WP a₀ p st
 e:r=none
 n1:1<=n
 n2:n<=m
section
variable {lo nrem n:Nat} {p:Array (Nat×Nat×Nat)} {Q:Option Nat->SortSt->Prop}
theorem tI {Q:Fd->SortSt->Prop} (h0:IntKeys a₀) (hn:lo+nrem<=a₀.size) (n1:1<=n) (n2:n<=nrem) (hB:WP a₀ p st) (h:∀c st',CQ a₀ p nrem c.1 c.2 st'->Q c st'):wpS (model prog w) A E s (forIn [n:nrem] ((none,n):Fd) (yB lo)) Q st:=by
 refine wpS_mono (wpS_forRange (λx c st'=>CQ a₀ p x c.1 c.2 st'/\c.2=x) (Q:=λc st'=>CQ a₀ p nrem c.1 c.2 st') (λx c st' hx1 hx2 ⟨q,e⟩=>?_) (λc st h=>⟨h.1.w,h.1.e,h.1.n1,P8 h.1.n2 (Nat.max_le.mpr ⟨n2,Qn _⟩)⟩) ⟨⟨hB,rfl,n1,Qn _⟩,rfl⟩) h;obtain ⟨r,n⟩:=c;cases e;have z:=q.n1;refine wpS_bind (mc q.w.1 h0 (show lo+n<a₀.size by lia) (show lo+n-1<a₀.size by lia) λb=>b9 (λ_=>wpS_pure ⟨q.w,rfl,z,Qp hx2⟩) λ_=>wpS_pure ⟨⟨q.w,rfl,TJ z,Qn _⟩,rfl⟩)
theorem xb (h0:IntKeys a₀) (hn:lo+nrem<=a₀.size) (n1:1<=n) (n2:n<=nrem) (hB:WP a₀ p st) (h:∀m st',WP a₀ p st'->1<=m->m<=nrem->Q (some m) st'):wpS (model prog w) A E s (Eu lo nrem n) Q st:=by
 refine wpS_bind (tF hB λst' hB=>wpS_bind (tI h0 hn n1 n2 hB λc st2 q=>?_));obtain ⟨r,m⟩:=c;obtain ⟨w,e,l1,l2⟩:=q;cases e;exact wpS_pure (h _ _ w l1 l2)
theorem tJ (h0:IntKeys a₀) (hn:lo+nrem<=a₀.size) (n2:n+1<=nrem) (hB:WP a₀ p st) (h:∀m st',WP a₀ p st'->1<=m->m<=nrem->Q (some m) st'):wpS (model prog w) A E s (yC lo nrem n) Q st:=by
 refine wpS_bind (wpS_lift (wpAny_rule ⟨rfl,?_⟩));refine wpS_bind (wpS_mono (wpS_forRange (λx c st'=>CQ a₀ p x c.1 c.2.1 st'/\c.2.1=x) (Q:=λc st'=>CQ a₀ p nrem c.1 c.2.1 st') (λx c st' hx1 hx2 ⟨q,e⟩=>?a) (λc st h=>⟨h.1.w,h.1.e,h.1.n1,P8 h.1.n2 (Nat.max_le.mpr ⟨n2,Qn _⟩)⟩) ⟨⟨hB,rfl,RI 1 n,Qn _⟩,rfl⟩) λc st' q=>?b)
 case a=>
  obtain ⟨r,n,neq⟩:=c;cases e;have z:=q.n1
  have i1:lo+n<a₀.size:=by lia
  have i2:lo+n-1<a₀.size:=Qi (Rk _ _) i1;have up:∀{st},WP a₀ p st->CQ a₀ p (n+1) none (n+1) st/\n+1=n+1:=λw=>⟨⟨w,rfl,TJ z,Qn _⟩,rfl⟩;refine wpS_bind (mc q.w.1 h0 i1 i2 λb=>b9 (λ_=>b9 (λ_=>wpS_bind (tF q.w λst' hB=>wpS_pure (up hB))) λ_=>wpS_pure (up q.w)) λ_=>?_);exact wpS_bind (mc q.w.1 h0 i2 i1 λb=>b9 (λ_=>wpS_pure ⟨q.w,rfl,z,Qp hx2⟩) λ_=>wpS_pure (up q.w))
 case b=>
  obtain ⟨r,n,neq⟩:=c;obtain ⟨w,e,l1,l2⟩:=q;cases e;exact b9 (λ_=>wpS_bind (tF w λst' hB=>xb h0 hn l1 l2 hB h)) λ_=>xb h0 hn l1 l2 w h
theorem rP (h0:IntKeys a₀) (hn:lo+nrem<=a₀.size) (h1:1<=nrem) (hB:WP a₀ p st) (h:∀m st',WP a₀ p st'->1<=m->m<=nrem->Q (some m) st'):wpS (model prog w) A E s (countRun' lo nrem) Q st:=by
 rw [pA];refine wpS_bind (tI h0 hn (Qn 1) h1 hB λc st2 q=>?_);obtain ⟨r,n⟩:=c;obtain ⟨w,e,n1,n2⟩:=q;cases e;refine fW (λ_=>wpS_pure (h _ _ w n1 n2)) λnne=>?_;have n3:n+1<=nrem:=QQ n2 nne;refine b9 (λ_=>wpS_bind (mc w.1 h0 (show lo<a₀.size by lia) (show lo+n-1<a₀.size by lia) λb=>?_)) λ_=>tJ h0 hn n3 w h;exact b9 (λ_=>wpS_pure (h _ _ w n1 n2)) λ_=>wpS_bind (tF w λst' hB=>tJ h0 hn n3 hB h)
end
end
noncomputable abbrev EV:=Nat×Nat×Nat
def qS:Nat->List EV->Nat->Prop
 | s,[],e=>s=e
 | s,x::l,e=>x.1=s/\1<=x.2.1/\qS (s+x.2.1) l e
theorem qS.le:∀{l:List EV} {s e:Nat},qS s l e->s<=e
 | [],_,_,h=>Rb h
 | x::l,s,e,h=>P8 (QA _ _) h.2.2.le
theorem jt:∀{l m:List EV} {s e:Nat},qS s (l++m) e↔∃k,qS s l k/\qS k m e
 | [],m,s,e=>⟨λh=>⟨s,rfl,h⟩,λ⟨k,h1,h2⟩=>by cases h1;exact h2⟩
 | x::l,m,s,e=>by
  constructor
  ·rintro ⟨h1,h2,h3⟩;refine ao (jt.mp h3) λk h4 h5=>?_;exact ⟨k,⟨h1,h2,h4⟩,h5⟩
  ·rintro ⟨k,⟨h1,h2,h4⟩,h5⟩;exact ⟨h1,h2,jt.mpr ⟨k,h4,h5⟩⟩
theorem tU {pw:Nat}:∀{l:List EV} {i s e:Nat},qS s l e->qS s (l.modify i λx=>(x.1,x.2.1,pw)) e
 | [],i,s,e,h=>by rw [List.modify_nil];exact h
 | x::l,0,s,e,h=>by rw [List.modify_zero_cons];exact h
 | x::l,i+1,s,e,h=>by rw [List.modify_succ_cons];exact ⟨h.1,h.2.1,tU h.2.2⟩
theorem AX {p:Array EV} {i lo:Nat} (hi:i+1<p.size) (h:qS 0 p.toList lo):∃sa na pw sb nb pw',p[i]?=some (sa,na,pw)/\p[i+1]?=some (sb,nb,pw')/\sa+na=sb/\1<=na/\1<=nb/\sb+nb<=lo/\
 qS 0 ((p.setIfInBounds i (sa,na+nb,pw)).eraseIdxIfInBounds (i+1)).toList lo:=by
 have hl:i+1<p.toList.length:=by rw [Q2];exact hi
 have e1:p.toList.drop i=p.toList[i]::p.toList[i+1]::p.toList.drop (i+1+1):=by
  rw [Sk (Nat.lt_of_succ_lt hl),Sk hl]
 have e0:p.toList=p.toList.take i++p.toList[i]::p.toList[i+1]::p.toList.drop (i+1+1):=by rw [<- e1,QP]
 have tl:(p.toList.take i).length=i:=by rw [SY];lia
 have h':=h;rw [e0] at h';refine Ky (jt.mp h') λk h1 h2 h3 h4 h5 h6=>?_
 have g1:p[i]?=some p.toList[i]:=by rw [<- Array.getElem?_toList];exact Qg _
 have g2:p[i+1]?=some p.toList[i+1]:=by rw [<- Array.getElem?_toList];exact Qg _
 obtain ⟨A,hA⟩:∃A,p.toList[i]=A:=⟨_,rfl⟩;obtain ⟨B,hB⟩:∃B,p.toList[i+1]=B:=⟨_,rfl⟩;rw [hA] at e0 g1 h2 h3 h4 h6;rw [hB] at e0 g2 h4 h5 h6;obtain ⟨sa,na,pw⟩:=A;obtain ⟨sb,nb,pw'⟩:=B;dsimp only at h2 h3 h4 h5 h6;refine ⟨sa,na,pw,sb,nb,pw',g1,g2,by lia,h3,h5,by have:=h6.le;lia,?_⟩
 have e3:((p.setIfInBounds i (sa,na+nb,pw)).eraseIdxIfInBounds (i+1)).toList=p.toList.take i++ (sa,na+nb,pw)::p.toList.drop (i+1+1):=by
  rw [Array.toList_eraseIdxIfInBounds,Array.toList_setIfInBounds]
  conv=>lhs;rw [e0]
  rw [List.set_append_right _ _ (by lia),tl,TV,List.set_cons_zero,List.eraseIdx_append_of_length_le (by lia),tl,Rh];rfl
 rw [e3];exact jt.mpr ⟨k,h1,h2,by show 1<=na+nb;exact Rl ‹_›,by show qS (k+(na+nb)) _ _;rw [<- RN];exact h6⟩
section
variable {prog:Program} {w:World} {A:Around} {E:Value->Shared->Prop} {s:Shared} {a₀:Array Keyed} {st:SortSt}
theorem tH {i lo:Nat} {Q:Bool->SortSt->Prop} (h0:IntKeys a₀) (hB:WB a₀ st) (hC:qS 0 (pendingOf st).toList lo) (hlo:lo<=a₀.size) (hi:i+1<(pendingOf st).size)
 (h:∀st',WB a₀ st'->qS 0 (pendingOf st').toList lo->Q true st'):wpS (model prog w) A E s (mergeAt' i) Q st:=by
 obtain ⟨sa,na,pw,sb,nb,pw',e1,e2,h1,h2,h3,h4,h5⟩:=AX hi hC;exact uE hB h0 e1 e2 h1 h2 h3 (P8 h4 hlo) λst' hB' hp=>h st' hB' (by rw [hp];exact h5)
theorem ite_le {c:Prop} [Decidable c] {n:Nat}:(if c then n-1 else n)<=n:=by
 split
 ·exact Rk ..
 ·exact Qn n
noncomputable abbrev SU:=Option Unit×Unit
noncomputable abbrev SL:=Option Unit×Nat
noncomputable def Bz (pw:Nat) (_:Nat) (_:SU):SM (ForInStep SU):=get >>= λst=>match (if (pendingOf st).size>1 then (pendingOf st)[(pendingOf st).size-2]? else none) with
 | some (_,_,older)=>if older<=pw then pure (.done (none,())) else mergeAt' ((pendingOf st).size-2) >>= λb=>if (!b)=true then pure (.done (some (),())) else pure (.yield (none,()))
 | _=>pure (.done (none,()))
noncomputable def vY (lo n:Nat):SM (ForInStep SL):=do
 modify λs=>setPending s ((pendingOf s).push (lo,n,0))
 pure (.yield (none,lo+n))
noncomputable def CL (size pw lo n:Nat):SM (ForInStep SL):=do
 let c <- forIn [0:size] ((none,()):SU) (Bz pw)
 match c.1 with
 | some r=>pure (.done (some r,lo))
 | none=>do
  modify λs=>setPending s ((pendingOf s).modify ((pendingOf s).size-1) λx=>(x.fst,x.2.fst,pw))
  vY lo n
noncomputable def CJ (size lo n:Nat):SM (ForInStep SL):=get >>= λst=>match (pendingOf st).back? with
 | some (s1,n1,_)=>CL size (power' size (2*s1+n1) (2*s1+n1+n1+n) size) lo n
 | _=>vY lo n
noncomputable def Bx (size:Nat) (_:Nat) (c:SL):SM (ForInStep SL):=
 if c.2>=size then pure (.done (none,c.2)) else countRun' c.2 (size-c.2) >>= λr=>match r with
  | some found=>
   if found<minRun' size size 0 then do
    rule "list.sort.binary-insertion"
    let b <- binarySort' c.2 (min (size-c.2) (minRun' size size 0)) found
    if (!b)=true then pure (.done (some (),c.2)) else CJ size c.2 (min (size-c.2) (minRun' size size 0))
   else CJ size c.2 found
  | _=>pure (.done (some (),c.2))
noncomputable def Ml (p:Array EV):Nat:=if Option.any (λx=>decide (x<p[p.size-2+1]?.elim 0 λx=>x.snd.fst)) (if p.size-2>0 then Option.map (λx=>x.snd.fst) p[p.size-2-1]? else none)=true then p.size-2-1 else p.size-2
noncomputable def JE (_:Nat) (_:SU):SM (ForInStep SU):=get >>= λst=>
 if (pendingOf st).size<=1 then pure (.done (none,())) else mergeAt' (Ml (pendingOf st)) >>= λb=>if (!b)=true then pure (.done (some (),())) else pure (.yield (none,()))
theorem ow:sortRuns'=(do
 let st <- get
 let c <- forIn [0:(arrOf st).size] ((none,0):SL) (Bx (arrOf st).size)
 match c.1 with
 | some r=>pure r
 | none=>do
  let c <- forIn [0:(arrOf st).size] ((none,()):SU) JE
  match c.1 with
  | some r=>pure r
  | none=>pure ()):=by kernel_rfl
structure RW (a₀:Array Keyed) (lo:Nat) (st:SortSt):Prop where
 w:WB a₀ st
 c:qS 0 (pendingOf st).toList lo
theorem CS {p:Array EV}:Ml p<=p.size-2:=ite_le
section
variable {size pw lo n:Nat}
theorem Aw {c:SU} {i:Nat} (h0:IntKeys a₀) (hl:lo<=a₀.size) (hW:RW a₀ lo st):wpS (model prog w) A E s (Bz pw i c) (λr st'=>match r with | .done c=>c.1=none/\RW a₀ lo st' | .yield c=>c.1=none/\RW a₀ lo st') st:=by
 refine wpS_bind (wpS_get ?_);by_cases hp2:(pendingOf st).size>1
 ·rw [Qk hp2,QO (pendingOf st) ((pendingOf st).size-2) (SJ (Nat.lt_of_succ_lt hp2) Nat.two_pos)];refine b9 (λ_=>wpS_pure ⟨rfl,hW⟩) λ_=>?_;exact wpS_bind (tH h0 hW.w hW.c hl (by lia) λst4 hB4 hC4=>wpS_pure ⟨rfl,hB4,hC4⟩)
 ·rw [Qb hp2];exact wpS_pure ⟨rfl,hW⟩
abbrev RS (a₀:Array Keyed):ForInStep SL->SortSt->Prop:=λr st'=>match r with
 | .done c=>WB a₀ st'/\(c.1=none->c.2<=a₀.size/\RW a₀ c.2 st')
 | .yield c=>c.1=none/\c.2<=a₀.size/\RW a₀ c.2 st'
theorem tG (n1:1<=n) (hn:lo+n<=a₀.size) (hW:RW a₀ lo st):wpS (model prog w) A E s (vY lo n) (RS a₀) st:=by
 refine wpS_bind (wpS_modify (wpS_pure ⟨rfl,hn,⟨hW.w.perm,hW.w.kind,hW.w.failed⟩,?_⟩));show qS 0 ((pendingOf st).push (lo,n,0)).toList _;rw [Tj];exact jt.mpr ⟨lo,hW.c,rfl,n1,rfl⟩
theorem wW (h0:IntKeys a₀) (n1:1<=n) (hn:lo+n<=a₀.size) (hW:RW a₀ lo st):wpS (model prog w) A E s (CJ size lo n) (RS a₀) st:=by
 refine wpS_bind (wpS_get ?_)
 cases (pendingOf st).back? with
 | none=>exact tG n1 hn hW
 | some x=>
  refine wpS_bind (wpS_mono (nG (λc st'=>c.1=none/\RW a₀ lo st') (Q:=λc st'=>c.1=none/\RW a₀ lo st') (λi c st' _ _ h=>wpS_mono (Aw h0 (P8 (QA _ _) hn) h.2) λr _ h=>by cases r<;>exact h) (λ_ _ h=>h) ⟨rfl,hW⟩) λc st' ⟨e,hW⟩=>?_);obtain ⟨r,c⟩:=c;cases e;refine wpS_bind (wpS_modify (tG n1 hn ⟨⟨hW.w.perm,hW.w.kind,hW.w.failed⟩,?_⟩));show qS 0 ((pendingOf st').modify _ _).toList lo;rw [Array.toList_modify];exact tU hW.c
theorem Av {c:SL} {i:Nat} (h0:IntKeys a₀) (hl:c.2<=a₀.size) (hW:RW a₀ c.2 st):wpS (model prog w) A E s (Bx a₀.size i c) (RS a₀) st:=by
 refine b9 (λ_=>wpS_pure ⟨hW.w,λ_=>⟨hl,hW⟩⟩) λhlo=>?_;have hlo:1<=a₀.size-c.2:=SN (Nat.lt_of_not_le hlo);have cp:∀{st2},WP a₀ (pendingOf st) st2->RW a₀ c.2 st2:=λw=>⟨w.1,by rw [w.2];exact hW.c⟩;refine wpS_bind (rP (p:=pendingOf st) h0 (Rb (Q0 hl)) hlo ⟨hW.w,rfl⟩ λm st2 w2 m1 m2=>?_);refine b9 (λhm=>?_) λ_=>wW h0 m1 (P8 (QU m2 _) (Rb (Q0 hl))) (cp w2);have f1:1<=min (a₀.size-c.2) (minRun' a₀.size a₀.size 0):=Nat.le_min.mpr ⟨hlo,P8 m1 (Qp hm)⟩;have f2:c.2+min (a₀.size-c.2) (minRun' a₀.size a₀.size 0)<=a₀.size:=P8 (QU (TY ..) _) (Rb (Q0 hl));exact wpS_bind (wpS_lift (wpAny_rule ⟨rfl,wpS_bind (o5 h0 f2 w2 λst3 w3=>wW h0 f1 f2 (cp w3))⟩))
theorem rO {Q:Unit->SortSt->Prop} (h0:IntKeys a₀) (hB:WB a₀ st) (hp:pendingOf st=#[]) (h:∀st',WB a₀ st'->Q () st'):wpS (model prog w) A E s sortRuns' Q st:=by
 rw [ow];refine wpS_bind (wpS_get ?_);rw [show (arrOf st).size=a₀.size from hB.perm.size_eq];refine wpS_bind (wpS_mono (nG (λc st'=>c.1=none/\c.2<=a₀.size/\RW a₀ c.2 st') (Q:=λc st'=>WB a₀ st'/\(c.1=none->c.2<=a₀.size/\RW a₀ c.2 st')) (λi c st' _ _ hc=>?a) (λc st h=>⟨h.2.2.w,λ_=>h.2⟩) ⟨rfl,QS _,hB,by rw [hp];rfl⟩) λc st' hc=>?b)
 case a=>exact wpS_mono (Av h0 hc.2.1 hc.2.2) λr _ h=>by cases r<;>exact h
 case b=>
  obtain ⟨r,lo⟩:=c
  cases r with
  | some u=>exact wpS_pure (h _ hc.1)
  | none=>
   refine aD (hc.2 rfl) λhl hW=>?_;refine wpS_bind (wpS_mono (nG (λc st'=>RW a₀ lo st') (Q:=λc st'=>WB a₀ st') (λi c st' _ _ hW=>?a) (λ_ _ h=>h.w) hW) λc st' hB=>?b)
   case a=>
    refine wpS_bind (wpS_get (b9 (λ_=>wpS_pure hW.w) λh1=>wpS_bind (tH h0 hW.w hW.c hl (Qi (SW CS) (by lia)) λst2 hB2 hC2=>wpS_pure ⟨hB2,hC2⟩)))
   case b=>
    obtain ⟨r,u⟩:=c
    cases r<;>exact wpS_pure (h _ hB)
end
end
end Internal
end
section
open PySem
namespace Internal
inductive V where
 | none
 | bool (b:Bool)
 | int (i:Int)
 | ref (a:Addr)
 | tup (vs:List V)
 | f7 (a b c:Int)
 | nK (vs:List V)
inductive Ob where
 | list (vs:List V)
 | dict (fs:List (Nat×V))
 | inst (cls:Nat) (dx:Addr)
noncomputable abbrev Hp:=Addr->Option Ob
noncomputable def Hp.upd (H:Hp) (a:Addr) (o:Ob):Hp:=λb=>if b=a then some o else H b
def Hp.Sub (H H':Hp):Prop:=∀a o,H a=some o->H' a=some o
noncomputable abbrev Lc:=List (Option V)
inductive gJ where
 | add | sub | mul | fdiv | mod | shl | shr | and | or | xor
inductive uZ where
 | eq | ne | lt | le | gt | ge | is | isnot | inn | notin
inductive Bi where
 | len | abs | range | max | sorted | sum | list
set_option genCtorIdx false in
inductive E where
 | nil
 | cons (c r:E)
 | bad
 | hG
 | bz (b:Bool)
 | bC (i:Int)
 | ma (is:List Int)
 | loc (i:Nat)
 | bin (op:gJ) (l r:E)
 | neg (e:E)
 | inv (e:E)
 | l7 (e:E)
 | dZ (es:E)
 | tm (es:E)
 | cmp (op:uZ) (l r:E)
 | AD (t a b:E)
 | call (f:Nat) (args:E)
 | new (c:Nat) (args:E)
 | bi (b:Bi) (args:E)
 | append (o x:E)
 | pop (o:E)
 | index (o x:E)
 | count (o x:E)
 | attr (o:E) (n:Nat)
 | sub (o i:E)
 | slice (o lo hi:E)
 | tup (es:E)
 | lst (es:E)
 | comp (caps:List (Option Nat)) (it cond elt:E)
set_option genCtorIdx false in
inductive S where
 | nil
 | cons (s r:S)
 | bad
 | aG (e:E)
 | asg (i:Nat) (e:E)
 | mE (is:List Nat) (e:E)
 | cj (o:E) (n:Nat) (e:E)
 | eS (o i e:E)
 | aug (i:Nat) (op:gJ) (e:E)
 | j6 (o:E) (n:Nat) (op:gJ) (e:E)
 | jx (o i:E) (op:gJ) (e:E)
 | bh (t:E) (a b:S)
 | gT (t:E) (b:S)
 | cC (i:Nat) (it:E) (b:S)
 | ret (e:E)
 | zK
 | brk
 | raise
inductive Fl where
 | next | brk
 | ret (v:V)
structure Fn where
 BQ:Str
 names:List Str
 np:Nat
 body:S
abbrev Sg:=Nat->List V->Hp->(V->Hp->Prop)->Prop
noncomputable def truthy:V->Option Bool
 | .none=>some false
 | .bool b=>some b
 | .int i=>some (i !=0)
 | _=>none
def B3 (op:gJ) (x y:Int) (Q:Int->Prop):Prop:=match op with
 | .add=>Q (x+y)
 | .sub=>Q (x-y)
 | .mul=>x.natAbs<2^64/\Q (x*y)
 | .fdiv=>(y≠0/\y.natAbs<1073741824)/\Q (x.fdiv y)
 | .mod=>y≠0/\Q (x.fmod y)
 | .shl=>(0<=y/\y<=100000/\x.natAbs<2^64)/\Q (x*2^y.toNat)
 | .shr=>0<=y/\Q (x.fdiv (2^y.toNat))
 | .and=>Q (Builtin.bitAnd x y)
 | .or=>Q (Builtin.bitOr x y)
 | .xor=>Q (Builtin.bitXor x y)
noncomputable abbrev lim:Nat:=1000000
structure da (vs:List V) (H:Hp) (Q:V->Hp->Prop):Prop where
 l:vs.length<=lim
 q:∀a,H a=none->Q (.ref a) (H.upd a (.list vs))
inductive eX (H:Hp) (Q:V->Hp->Prop):gJ->V->V->Prop
 | int {op:gJ} {x y:Int} (h:B3 op x y λz=>Q (.int z) H):eX H Q op (.int x) (.int y)
 | rep {a:Addr} {x:V} {n:Int} (h:H a=some (.list [x])) (l:0<=n/\n<=lim) (q:da (List.replicate n.toNat x) H Q):eX H Q .mul (.ref a) (.int n)
 | cat {a b:Addr} {xs ys:List V} (h1:H a=some (.list xs)) (h2:H b=some (.list ys)) (q:da (xs++ys) H Q):eX H Q .add (.ref a) (.ref b)
def ar (op:gJ) (v w:V) (H:Hp) (Q:V->Hp->Prop):Prop:=eX H Q op v w
noncomputable def intOf?:V->Option Int
 | .int i=>some i
 | _=>none
noncomputable def intsOf?:List V->Option (List Int)
 | []=>some []
 | .int i::r=>(intsOf? r).map (i::·)
 | _=>none
inductive Pd (H:Hp):V->PyData->Prop
 | int (i:Int):Pd H (.int i) (.int i)
 | bool (b:Bool):Pd H (.bool b) (.bool b)
 | list {a:Addr} {vs:List V} {ns:List Int} (h:H a=some (.list vs)) (hi:intsOf? vs=some ns):Pd H (.ref a) (.list (ns.map .int))
inductive B7 (H:Hp):List V->List PyData->Prop
 | nil:B7 H [] []
 | cons {v:V} {d:PyData} {vs:List V} {ds:List PyData} (a:Pd H v d) (b:B7 H vs ds):B7 H (v::vs) (d::ds)
inductive Ff (H:Hp):V->PyData->Prop
 | flat {v:V} {d:PyData} (h:Pd H v d):Ff H v d
 | tup {vs:List V} {ds:List PyData} (h:B7 H vs ds):Ff H (.tup vs) (.tuple ds)
inductive Mb (H:Hp):V->List Int->Prop
 | tup {vs:List V} {ns:List Int} (h:intsOf? vs=some ns):Mb H (.tup vs) ns
 | list {a:Addr} {vs:List V} {ns:List Int} (h:H a=some (.list vs)) (hi:intsOf? vs=some ns):Mb H (.ref a) ns
inductive Md (H:Hp) (P:Bool->Prop) (v w:V):Prop
 | mk {d e:PyData} (a:Ff H v d) (b:Ff H w e) (q:P (PyData.eqv d e)):Md H P v w
inductive sQ (P:Int->Int->Prop):V->V->Prop
 | mk {x y:Int} (q:P x y):sQ P (.int x) (.int y)
inductive IT (P:Prop):V->Prop
 | mk (q:P):IT P .none
inductive IU (H:Hp) (P:Bool->Prop) (w:V):V->Prop
 | mk {x:Int} {ns:List Int} (h:Mb H w ns) (q:P (ns.any (· == x))):IU H P w (.int x)
noncomputable def isNone:V->Bool
 | .none=>true
 | _=>false
noncomputable def cq (a b c:Int):Nat:=(Builtin.Range.rangeSize a b c).toNat
noncomputable def aP (a b c:Int):List V:=(List.range (cq a b c)).map λ(k:Nat)=>.int (a+(k:Int)*c)
inductive qM (H:Hp) (Q:V->Hp->Prop):V->V->Prop
 | ref {a:Addr} {vs:List V} {i:Int} {x:V} (h:H a=some (.list vs)) (h0:0<=i) (hx:vs[i.toNat]?=some x) (q:Q x H):qM H Q (.ref a) (.int i)
 | tup {vs:List V} {i:Int} {x:V} (h0:0<=i) (hx:vs[i.toNat]?=some x) (q:Q x H):qM H Q (.tup vs) (.int i)
 | nK {vs:List V} {i:Int} {x:V} (h0:0<=i) (hx:vs[i.toNat]?=some x) (q:Q x H):qM H Q (.nK vs) (.int i)
def aN (v i:V) (H:Hp) (Q:V->Hp->Prop):Prop:=qM H Q v i
inductive Fb (vs:List V) (H:Hp) (Q:V->Hp->Prop):V->V->Prop
 | to {k:Int} (h:0<=k/\k<=lim) (q:da (vs.take k.toNat) H Q):Fb vs H Q .none (.int k)
 | mid {j k:Int} (h:0<=j/\j<=k/\k<=lim) (q:da ((vs.take k.toNat).drop j.toNat) H Q):Fb vs H Q (.int j) (.int k)
 | ME {j:Int} (h:0<=j/\j<=lim) (q:da (vs.drop j.toNat) H Q):Fb vs H Q (.int j) .none
inductive iX (lo hi:V) (H:Hp) (Q:V->Hp->Prop):V->Prop
 | ref {a:Addr} {vs:List V} (h:H a=some (.list vs)) (q:Fb vs H Q lo hi):iX lo hi H Q (.ref a)
 | nK {vs:List V} (q:Fb vs H Q lo hi):iX lo hi H Q (.nK vs)
def ec (v lo hi:V) (H:Hp) (Q:V->Hp->Prop):Prop:=iX lo hi H Q v
inductive mF (H:Hp) (Q:V->Hp->Prop):Bi->List V->Prop
 | len {a:Addr} {vs:List V} (h:H a=some (.list vs)) (q:Q (.int vs.length) H):mF H Q .len [.ref a]
 | JZ {vs:List V} (q:Q (.int vs.length) H):mF H Q .len [.nK vs]
 | abs {x:Int} (q:Q (.int x.natAbs) H):mF H Q .abs [.int x]
 | max {x y:Int} (q:Q (.int (max x y)) H):mF H Q .max [.int x,.int y]
 | CD {n:Int} (h:-1000000<=n/\n<=1000000) (q:Q (.f7 0 n 1) H):mF H Q .range [.int n]
 | FI {a b:Int} (h:(-1000000<=a/\a<=1000000)/\-1000000<=b/\b<=1000000) (q:Q (.f7 a b 1) H):mF H Q .range [.int a,.int b]
 | CC {a b c:Int} (h:(-1000000<=a/\a<=1000000)/\-1000000<=b/\b<=1000000) (hc:c=-1) (q:Q (.f7 a b c) H):mF H Q .range [.int a,.int b,.int c]
 | sorted {a:Addr} {vs:List V} {xs:List Int} (h:H a=some (.list vs)) (hi:intsOf? vs=some xs) (q:∀ys:List Int,ys.Perm xs->(xs.length<64->ys.Pairwise (·<=·))->da (ys.map .int) H Q):mF H Q .sorted [.ref a]
 | sum {a:Addr} {vs:List V} {xs:List Int} (h:H a=some (.list vs)) (hi:intsOf? vs=some xs) (q:Q (.int xs.sum) H):mF H Q .sum [.ref a]
 | list {a:Addr} {vs:List V} (h:H a=some (.list vs)) (q:da vs H Q):mF H Q .list [.ref a]
def b8 (b:Bi) (vs:List V) (H:Hp) (Q:V->Hp->Prop):Prop:=mF H Q b vs
noncomputable def fe (n:Nat):List (Nat×V)->Option V
 | []=>none
 | (k,v)::r=>if k=n then some v else fe n r
noncomputable def gB (n:Nat) (v:V):List (Nat×V)->List (Nat×V)
 | []=>[(n,v)]
 | (k,w)::r=>if k=n then (k,v)::r else (k,w)::gB n v r
inductive yR (n:Nat) (H:Hp) (Q:V->Hp->Prop):V->Prop
 | mk {a dx:Addr} {c:Nat} {fs:List (Nat×V)} {x:V} (h1:H a=some (.inst c dx)) (h2:H dx=some (.dict fs)) (h3:fe n fs=some x) (q:Q x H):yR n H Q (.ref a)
def dP (v:V) (n:Nat) (H:Hp) (Q:V->Hp->Prop):Prop:=yR n H Q v
inductive yQ (n:Nat) (x:V) (H:Hp) (Q:Hp->Prop):V->Prop
 | mk {a dx:Addr} {c:Nat} {fs:List (Nat×V)} (h1:H a=some (.inst c dx)) (h2:H dx=some (.dict fs)) (l:fs.length<=100) (q:Q (H.upd dx (.dict (gB n x fs)))):yQ n x H Q (.ref a)
def bj (v:V) (n:Nat) (x:V) (H:Hp) (Q:Hp->Prop):Prop:=yQ n x H Q v
inductive yP (x:V) (H:Hp) (Q:Hp->Prop):V->V->Prop
 | mk {a:Addr} {vs:List V} {i:Int} (h:H a=some (.list vs)) (h0:0<=i) (hl:i.toNat<vs.length) (q:Q (H.upd a (.list (vs.set i.toNat x)))):yP x H Q (.ref a) (.int i)
def bV (v i x:V) (H:Hp) (Q:Hp->Prop):Prop:=yP x H Q v i
inductive IsL (H:Hp):V->Prop
 | mk {a:Addr} {vs:List V} (h:H a=some (.list vs)):IsL H (.ref a)
def DV (v:V) (H:Hp):Prop:=IsL H v
inductive ET (x:V) (H:Hp) (Q:V->Hp->Prop):V->Prop
 | mk {a:Addr} {vs:List V} (h:H a=some (.list vs)) (l:vs.length<lim) (q:Q .none (H.upd a (.list (vs++ [x])))):ET x H Q (.ref a)
def dD (v x:V) (H:Hp) (Q:V->Hp->Prop):Prop:=ET x H Q v
inductive EP (H:Hp) (Q:V->Hp->Prop):V->Prop
 | mk {a:Addr} {us:List V} {x:V} (h:H a=some (.list (us++ [x]))) (q:Q x (H.upd a (.list us))):EP H Q (.ref a)
def sU (v:V) (H:Hp) (Q:V->Hp->Prop):Prop:=EP H Q v
inductive ER (H:Hp) (Q:V->Hp->Prop):V->V->Prop
 | mk {a:Addr} {vs:List V} {xs:List Int} {x:Int} (h:H a=some (.list vs)) (hi:intsOf? vs=some xs) (hx:x∈xs) (hl:xs.length<=100) (hb:∀y∈xs,0<=y/\y<100) (q:Q (.int (xs.idxOf x)) H):ER H Q (.ref a) (.int x)
def kO (v x:V) (H:Hp) (Q:V->Hp->Prop):Prop:=ER H Q v x
inductive ES (H:Hp) (Q:V->Hp->Prop):V->V->Prop
 | mk {a:Addr} {vs:List V} {xs:List Int} {x:Int} (h:H a=some (.list vs)) (hi:intsOf? vs=some xs) (q:Q (.int (xs.count x)) H):ES H Q (.ref a) (.int x)
def kP (v x:V) (H:Hp) (Q:V->Hp->Prop):Prop:=ES H Q v x
def Kf (acc:List V) (R:List V->Hp->(List V->Hp->Prop)->Prop) (Q:List V->Hp->Prop):V->Hp->Prop:=λy H=>acc.length<lim/\R (acc++ [y]) H Q
def Ax (e:Hp->(V->Hp->Prop)->Prop) (R:List V->Hp->(List V->Hp->Prop)->Prop) (acc:List V) (Q:List V->Hp->Prop):V->Hp->Prop:=λv H=>match truthy v with
 | some true=>e H (Kf acc R Q)
 | some false=>R acc H Q
 | none=>False
def eE (test:Lc->Hp->(V->Hp->Prop)->Prop) (elt:Lc->Hp->(V->Hp->Prop)->Prop) (O:Lc):List V->List V->Hp->(List V->Hp->Prop)->Prop
 | [],acc,H,Q=>Q acc H
 | x::r,acc,H,Q=>test (O.set 0 (some x)) H (Ax (elt (O.set 0 (some x))) (eE test elt O r) acc Q)
noncomputable def gH (O:Lc) (caps:List (Option Nat)):Lc:=caps.map λc=>match c with
 | some i=>(O[i]?).join
 | none=>none
noncomputable def isNil:E->Bool
 | .nil=>true
 | _=>false
noncomputable def getL (O:Lc) (i:Nat):Option V:=(O[i]?).join
@[irreducible] def cF (v:V) (A B:Prop):Prop:=match truthy v with
 | some true=>A
 | some false=>B
 | none=>False
def xR (op:uZ) (v w:V) (H:Hp) (Q:V->Hp->Prop):Prop:=match op with
 | .eq=>Md H (λb=>Q (.bool b) H) v w
 | .ne=>Md H (λb=>Q (.bool !b) H) v w
 | .lt=>sQ (λx y=>Q (.bool (decide (x<y))) H) v w
 | .le=>sQ (λx y=>Q (.bool (decide (x<=y))) H) v w
 | .gt=>sQ (λx y=>Q (.bool (decide (y<x))) H) v w
 | .ge=>sQ (λx y=>Q (.bool (decide (y<=x))) H) v w
 | .is=>IT (Q (.bool (isNone v)) H) w
 | .isnot=>IT (Q (.bool !isNone v) H) w
 | .inn=>IU H (λb=>Q (.bool b) H) w v
 | .notin=>IU H (λb=>Q (.bool !b) H) w v
@[irreducible] def bM (op:uZ) (v w:V) (H:Hp) (Q:V->Hp->Prop):Prop:=xR op v w H Q
theorem bM.mk {op:uZ} {v w:V} {H:Hp} {Q:V->Hp->Prop} (h:xR op v w H Q):bM op v w H Q:=by delta bM;exact h
@[irreducible] def jh (v:V) (H:Hp) (Q:V->Hp->Prop):Prop:=match truthy v with
 | some b=>Q (.bool (!b)) H
 | none=>False
@[irreducible] def oT (v:V) (H:Hp) (Q:V->Hp->Prop):Prop:=match v with
 | .int i=>Q (.int (-i)) H
 | _=>False
@[irreducible] def xl (v:V) (H:Hp) (Q:V->Hp->Prop):Prop:=match v with
 | .int i=>Q (.int (Builtin.bitNot i)) H
 | _=>False
@[irreducible] def fH (test:Lc->Hp->(V->Hp->Prop)->Prop) (elt:Lc->Hp->(V->Hp->Prop)->Prop) (O:Lc) (v:V) (H:Hp) (Q:List V->Hp->Prop):Prop:=match v with
 | .f7 a b c=>eE test elt O (aP a b c) [] H Q
 | _=>False
inductive E0 (op:gJ) (P:V->Prop):V->V->Prop
 | mk {x y:Int} (h:B3 op x y λz=>P (.int z)):E0 op P (.int x) (.int y)
def kK (op:gJ) (v w:V) (P:V->Prop):Prop:=E0 op P v w
abbrev K1:=V->Hp->Prop
abbrev Ev:=Hp->K1->Prop
noncomputable def GD (op:gJ) (v:V) (Q:K1):K1:=λw H=>ar op v w H Q
noncomputable def Kh (op:gJ) (R:Ev) (Q:K1):K1:=λv H=>R H (GD op v Q)
noncomputable def xf (op:uZ) (v:V) (Q:K1):K1:=λw H=>bM op v w H Q
noncomputable def GA (op:uZ) (R:Ev) (Q:K1):K1:=λv H=>R H (xf op v Q)
noncomputable def DH (Q:K1):K1:=λv H=>oT v H Q
noncomputable def DJ (Q:K1):K1:=λv H=>xl v H Q
noncomputable def xc (Q:K1):K1:=λv H=>jh v H Q
noncomputable def DT (b:Bool) (R:Ev) (Q:K1):K1:=λv H=>match b with
 | true=>Q v H
 | false=>cF v (R H Q) (Q v H)
noncomputable def J9 (b:Bool) (R:Ev) (Q:K1):K1:=λv H=>match b with
 | true=>Q v H
 | false=>cF v (Q v H) (R H Q)
noncomputable def Kc (A B:Ev) (Q:K1):K1:=λv H=>cF v (A H Q) (B H Q)
def GB (g:List V->Hp->K1->Prop) (Q:K1):List V->Hp->Prop:=λvs H=>g vs H Q
def Kb (Γ:Sg) (c:Nat) (Q:K1):List V->Hp->Prop:=λvs H=>∀a dx,H a=none->H dx=none->a≠dx->
 Γ (1000+c) (.ref a::vs) ((H.upd a (.inst c dx)).upd dx (.dict [])) λv H=>isNone v=true/\Q (.ref a) H
def Ph (b:Bi) (Q:K1):List V->Hp->Prop:=λvs H=>b8 b vs H Q
noncomputable def DI (op:V->V->Hp->K1->Prop) (v:V) (Q:K1):K1:=λw H=>op v w H Q
noncomputable def tK (op:V->V->Hp->K1->Prop) (R:Ev) (Q:K1):K1:=λv H=>DV v H/\R H (DI op v Q)
noncomputable def DG (Q:K1):K1:=λv H=>sU v H Q
noncomputable def GG (n:Nat) (Q:K1):K1:=λv H=>dP v n H Q
noncomputable def Gx (v:V) (Q:K1):K1:=λw H=>aN v w H Q
noncomputable def DC (R:Ev) (Q:K1):K1:=λv H=>R H (Gx v Q)
noncomputable def J7 (v l:V) (Q:K1):K1:=λh H=>ec v l h H Q
noncomputable def J8 (v:V) (R:Ev) (Q:K1):K1:=λl H=>R H (J7 v l Q)
noncomputable def My (L R:Ev) (Q:K1):K1:=λv H=>L H (J8 v R Q)
def J6 (Q:K1):List V->Hp->Prop:=λvs H=>vs.length<=1000/\Q (.tup vs) H
def uF (Q:K1):List V->Hp->Prop:=λvs H=>da vs H Q
noncomputable def qs (t e:Lc->Ev) (O:Lc) (Q:K1):K1:=λv H=>fH t e O v H (uF Q)
def Ke (v:V) (Q:List V->Hp->Prop):List V->Hp->Prop:=λvs H=>Q (v::vs) H
noncomputable def Pg (R:Hp->(List V->Hp->Prop)->Prop) (Q:List V->Hp->Prop):K1:=λv H=>R H (Ke v Q)
mutual
def bp (Γ:Sg):E->Lc->Hp->(V->Hp->Prop)->Prop
 | .nil,_,_,_=>False
 | .cons _ _,_,_,_=>False
 | .bad,_,_,_=>False
 | .hG,_,H,Q=>Q .none H
 | .bz b,_,H,Q=>Q (.bool b) H
 | .bC i,_,H,Q=>Q (.int i) H
 | .ma is,_,H,Q=>Q (.tup (is.map .int)) H
 | .loc i,O,H,Q=>(match getL O i with
  | some v=>Q v H
  | none=>False)
 | .bin op l r,O,H,Q=>bp Γ l O H (Kh op (bp Γ r O) Q)
 | .neg e,O,H,Q=>bp Γ e O H (DH Q)
 | .inv e,O,H,Q=>bp Γ e O H (DJ Q)
 | .l7 e,O,H,Q=>bp Γ e O H (xc Q)
 | .dZ es,O,H,Q=>jE Γ es O H Q
 | .tm es,O,H,Q=>mZ Γ es O H Q
 | .cmp op l r,O,H,Q=>bp Γ l O H (GA op (bp Γ r O) Q)
 | .AD t a b,O,H,Q=>bp Γ t O H (Kc (bp Γ a O) (bp Γ b O) Q)
 | .call f args,O,H,Q=>lp Γ args O H (GB (Γ f) Q)
 | .new c args,O,H,Q=>lp Γ args O H (Kb Γ c Q)
 | .bi b args,O,H,Q=>lp Γ args O H (Ph b Q)
 | .append o x,O,H,Q=>bp Γ o O H (tK dD (bp Γ x O) Q)
 | .pop o,O,H,Q=>bp Γ o O H (DG Q)
 | .index o x,O,H,Q=>bp Γ o O H (tK kO (bp Γ x O) Q)
 | .count o x,O,H,Q=>bp Γ o O H (tK kP (bp Γ x O) Q)
 | .attr o n,O,H,Q=>bp Γ o O H (GG n Q)
 | .sub o i,O,H,Q=>bp Γ o O H (DC (bp Γ i O) Q)
 | .slice o lo hi,O,H,Q=>bp Γ o O H (My (bp Γ lo O) (bp Γ hi O) Q)
 | .tup es,O,H,Q=>lp Γ es O H (J6 Q)
 | .lst es,O,H,Q=>lp Γ es O H (uF Q)
 | .comp caps it cond elt,O,H,Q=>bp Γ it O H (qs (bp Γ cond) (bp Γ elt) (gH O caps) Q)
def lp (Γ:Sg):E->Lc->Hp->(List V->Hp->Prop)->Prop
 | .nil,_,H,Q=>Q [] H
 | .cons c r,O,H,Q=>bp Γ c O H (Pg (lp Γ r O) Q)
 | _,_,_,_=>False
def jE (Γ:Sg):E->Lc->Hp->(V->Hp->Prop)->Prop
 | .cons x r,O,H,Q=>bp Γ x O H (DT (isNil r) (jE Γ r O) Q)
 | _,_,_,_=>False
def mZ (Γ:Sg):E->Lc->Hp->(V->Hp->Prop)->Prop
 | .cons x r,O,H,Q=>bp Γ x O H (J9 (isNil r) (mZ Γ r O) Q)
 | _,_,_,_=>False
end
noncomputable def cV (O:Lc) (i:Nat) (v:V):Lc:=O.set i (some v)
noncomputable def kj (O:Lc):List Nat->List V->Option Lc
 | [],[]=>some O
 | i::is,v::vs=>kj (cV O i v) is vs
 | _,_=>none
abbrev KS:=Fl->Lc->Hp->Prop
abbrev Bk:=Hp->KS->Prop
noncomputable def xd (R:Lc->Bk) (Q:KS):KS:=λfl O H=>match fl with
 | .next=>R O H Q
 | .brk=>Q .next O H
 | .ret v=>Q (.ret v) O H
def fo (body:Lc->Bk) (i:Nat) (chk:Hp->Prop):List V->Lc->Hp->KS->Prop
 | [],O,H,Q=>chk H/\Q .next O H
 | x::r,O,H,Q=>chk H/\body (cV O i x) H (xd (fo body i chk r) Q)
noncomputable def I4 (B:Bk) (R:Lc->Bk) (O:Lc) (Q:KS):K1:=λv H=>match truthy v with
 | some true=>B H (xd R Q)
 | some false=>Q .next O H
 | none=>False
def dM (test:Lc->Ev) (body:Lc->Bk):Nat->Lc->Hp->KS->Prop
 | 0,_,_,_=>False
 | n+1,O,H,Q=>test O H (I4 (body O) (dM test body n) O Q)
@[irreducible] def jo (v:V) (A:Prop):Prop:=match v with
 | .none=>A
 | .int _=>A
 | _=>False
@[irreducible] def tupK (O:Lc) (is:List Nat) (v:V) (P:Lc->Prop):Prop:=match v with
 | .tup vs=>(match kj O is vs with
  | some O=>P O
  | none=>False)
 | _=>False
def BE (a:Addr) (vs:List V):Hp->Prop:=λH=>H a=some (.list vs)
def BA:Hp->Prop:=λ_=>True
@[irreducible] def fj (body:Lc->Hp->(Fl->Lc->Hp->Prop)->Prop) (i:Nat) (v:V) (O:Lc) (H:Hp) (Q:Fl->Lc->Hp->Prop):Prop:=match v with
 | .ref a=>(match H a with
  | some (.list vs)=>fo body i (BE a vs) vs O H Q
  | _=>False)
 | .tup vs=>fo body i BA vs O H Q
 | .f7 x y z=>fo body i BA (aP x y z) O H Q
 | _=>False
def I5 (O:Lc) (Q:KS):Hp->Prop:=λH=>Q .next O H
noncomputable def Kd (O:Lc) (Q:KS):K1:=λv H=>jo v (Q .next O H)
noncomputable def Az (i:Nat) (O:Lc) (Q:KS):K1:=λv H=>Q .next (cV O i v) H
def Ka (H:Hp) (Q:KS):Lc->Prop:=λO=>Q .next O H
noncomputable def BL (is:List Nat) (O:Lc) (Q:KS):K1:=λv H=>tupK O is v (Ka H Q)
noncomputable def DF (n:Nat) (x:V) (O:Lc) (Q:KS):K1:=λv H=>bj v n x H (I5 O Q)
noncomputable def BI (R:Ev) (n:Nat) (O:Lc) (Q:KS):K1:=λx H=>R H (DF n x O Q)
noncomputable def DD (v x:V) (O:Lc) (Q:KS):K1:=λw H=>bV v w x H (I5 O Q)
noncomputable def DE (I:Ev) (x:V) (O:Lc) (Q:KS):K1:=λv H=>I H (DD v x O Q)
noncomputable def BH (ρ I:Ev) (O:Lc) (Q:KS):K1:=λx H=>ρ H (DE I x O Q)
def GF (i:Nat) (O:Lc) (H:Hp) (Q:KS):V->Prop:=λz=>Q .next (cV O i z) H
noncomputable def DS (i:Nat) (op:gJ) (v:V) (O:Lc) (Q:KS):K1:=λw H=>kK op v w (GF i O H Q)
def DO (v:V) (n:Nat) (O:Lc) (H:Hp) (Q:KS):V->Prop:=λz=>bj v n z H (I5 O Q)
noncomputable def DP (v:V) (n:Nat) (op:gJ) (x:V) (O:Lc) (Q:KS):K1:=λy H=>kK op x y (DO v n O H Q)
noncomputable def DQ (R:Ev) (v:V) (n:Nat) (op:gJ) (O:Lc) (Q:KS):K1:=λx H=>R H (DP v n op x O Q)
noncomputable def BK (R:Ev) (n:Nat) (op:gJ) (O:Lc) (Q:KS):K1:=λv H=>dP v n H (DQ R v n op O Q)
def DK (v w:V) (O:Lc) (H:Hp) (Q:KS):V->Prop:=λz=>bV v w z H (I5 O Q)
noncomputable def DL (v w:V) (op:gJ) (x:V) (O:Lc) (Q:KS):K1:=λy H=>kK op x y (DK v w O H Q)
noncomputable def DM (R:Ev) (v w:V) (op:gJ) (O:Lc) (Q:KS):K1:=λx H=>R H (DL v w op x O Q)
noncomputable def DN (R:Ev) (v:V) (op:gJ) (O:Lc) (Q:KS):K1:=λw H=>aN v w H (DM R v w op O Q)
noncomputable def BJ (I R:Ev) (op:gJ) (O:Lc) (Q:KS):K1:=λv H=>I H (DN R v op O Q)
noncomputable def Ay (A B:Bk) (Q:KS):K1:=λv H=>cF v (A H Q) (B H Q)
noncomputable def kFor (B:Lc->Bk) (i:Nat) (O:Lc) (Q:KS):K1:=λv H=>fj B i v O H Q
noncomputable def Gz (O:Lc) (Q:KS):K1:=λv H=>Q (.ret v) O H
noncomputable def Gy (R:Lc->Bk) (Q:KS):KS:=λfl O H=>match fl with
 | .next=>R O H Q
 | .brk=>Q .brk O H
 | .ret v=>Q (.ret v) O H
mutual
def wpS (Γ:Sg):S->Lc->Hp->(Fl->Lc->Hp->Prop)->Prop
 | .nil,_,_,_=>False
 | .cons _ _,_,_,_=>False
 | .bad,_,_,_=>False
 | .aG e,O,H,Q=>bp Γ e O H (Kd O Q)
 | .asg i e,O,H,Q=>bp Γ e O H (Az i O Q)
 | .mE is e,O,H,Q=>bp Γ e O H (BL is O Q)
 | .cj o n e,O,H,Q=>bp Γ e O H (BI (bp Γ o O) n O Q)
 | .eS o i e,O,H,Q=>bp Γ e O H (BH (bp Γ o O) (bp Γ i O) O Q)
 | .aug i op e,O,H,Q=>(match getL O i with
  | some v=>bp Γ e O H (DS i op v O Q)
  | none=>False)
 | .j6 o n op e,O,H,Q=>bp Γ o O H (BK (bp Γ e O) n op O Q)
 | .jx o i op e,O,H,Q=>bp Γ o O H (BJ (bp Γ i O) (bp Γ e O) op O Q)
 | .bh t a b,O,H,Q=>bp Γ t O H (Ay (aO Γ a O) (aO Γ b O) Q)
 | .gT t b,O,H,Q=>∃n,dM (bp Γ t) (aO Γ b) n O H Q
 | .cC i it b,O,H,Q=>bp Γ it O H (kFor (aO Γ b) i O Q)
 | .ret e,O,H,Q=>bp Γ e O H (Gz O Q)
 | .zK,O,H,Q=>Q (.ret .none) O H
 | .brk,O,H,Q=>Q .brk O H
 | .raise,_,_,_=>False
def aO (Γ:Sg):S->Lc->Hp->(Fl->Lc->Hp->Prop)->Prop
 | .nil,O,H,Q=>Q .next O H
 | .cons s r,O,H,Q=>wpS Γ s O H (Gy (aO Γ r) Q)
 | _,_,_,_=>False
end
noncomputable def iH:Fl->Option V
 | .ret v=>some v
 | .next=>some .none
 | .brk=>none
noncomputable def gq (code:Nat->Option Fn):Nat->Sg
 | 0=>λ_ _ _ _=>False
 | d+1=>λf args H Q=>match code f with
  | none=>False
  | some F=>args.length=F.np/\aO (gq code d) F.body (args.map some++List.replicate (F.names.length-F.np) none) H λfl _ H'=>
   match iH fl with
   | some v=>∃H'':Hp,H''.Sub H'/\Q v H''
   | none=>False
set_option genCtorIdx false in
inductive Gl where
 | int (i:Int)
 | tup (is:List Int)
 | fn (k:Nat)
 | cls (c:Nat)
 | bi (b:Bi)
noncomputable abbrev GT:=List (Str×Gl)
noncomputable def eu (n:Str):List Str->Option Nat
 | []=>none
 | m::r=>if PySem.W.Fast.sEq m n=true then some 0 else (eu n r).map (·+1)
noncomputable def di (n:Str):GT->Option Gl
 | []=>none
 | (m,g)::r=>if PySem.W.Fast.sEq m n=true then some g else di n r
noncomputable def kJ:Operator->Option gJ
 | .Add=>some .add
 | .Sub=>some .sub
 | .Mult=>some .mul
 | .FloorDiv=>some .fdiv
 | .Mod=>some .mod
 | .LShift=>some .shl
 | .RShift=>some .shr
 | .BitAnd=>some .and
 | .BitOr=>some .or
 | .BitXor=>some .xor
 | _=>none
noncomputable def A7:CmpOp->Option uZ
 | .Eq=>some .eq
 | .NotEq=>some .ne
 | .Lt=>some .lt
 | .LtE=>some .le
 | .Gt=>some .gt
 | .GtE=>some .ge
 | .Is=>some .is
 | .IsNot=>some .isnot
 | .In=>some .inn
 | .NotIn=>some .notin
noncomputable def bA (x:Str) (sc:Scope):List Str:=x:: (sc.names.filterMap λ(n,k)=>if k ==.free then some n else none)
noncomputable def ob {α:Type} (o:Option α) (f:α->E):E:=match o with
 | some a=>f a
 | none=>.bad
noncomputable def gd (c:Bool) (e:E):E:=match c with
 | true=>e
 | false=>.bad
noncomputable def vK {α:Type} (o:Option α) (f:α->S):S:=match o with
 | some a=>f a
 | none=>.bad
noncomputable def Cu (c:Bool) (e:S):S:=match c with
 | true=>e
 | false=>.bad
noncomputable def MC:Gl->E
 | .int i=>.bC i
 | .tup is=>.ma is
 | _=>.bad
noncomputable def MD (args:E):Gl->E
 | .fn k=>.call k args
 | .cls c=>.new c args
 | .bi b=>.bi b args
 | _=>.bad
noncomputable def t7 (g:GT) (sc:Scope) (ns:List Str) (n:Str):E:=
 match eu n ns with
 | some i=>.loc i
 | none=>gd (sc.names.lookup n == some .globalImplicit) (ob (di n g) MC)
noncomputable def pG (g:GT) (sc:Scope) (ns:List Str) (n:Str) (args:E):E:=
 match eu n ns with
 | some _=>.bad
 | none=>gd (sc.names.lookup n == some .globalImplicit) (ob (di n g) (MD args))
noncomputable def gj (e:Expr):Bool:=Nat.beq e.ctorIdx 23 || Nat.beq e.ctorIdx 20 || Nat.beq e.ctorIdx 21
noncomputable def isStar (e:Expr):Bool:=Nat.beq e.ctorIdx 22
noncomputable def eI:List Expr->Bool
 | []=>true
 | e::r=>!isStar e && eI r
noncomputable def tM (e:Expr):Bool:=Nat.beq e.ctorIdx 16
noncomputable def ju (sc sc':Scope) (x:Str) (it:Expr):Bool:=
 sc'.kind ==.function && tM it &&
 sc'.names.all (λy=>!(y.2 ==.local) || sc'.names.lookup y.1 == some .local) &&
 ((sc'.names.lookup x == some .local && sc'.names.all (λy=>!(y.2 ==.cell))) || (sc'.names.lookup x == some .cell && sc'.names.all (λy=>!(y.2 ==.cell) || y.1 == x))) &&
 sc'.names.all (λy=>!(y.2 ==.free) || (sc'.names.lookup y.1 == some .free && (sc.names.lookup y.1 == some .cell || sc.names.lookup y.1 == some .free))) &&
 (bA x sc').all (λn=>!(n == ("__debug__":Str)) && !(n == ("__classdict__":Str)))
noncomputable def Ew:Const->E
 | .none=>.hG
 | .bool b=>.bz b
 | .int i=>.bC i
 | _=>.bad
noncomputable def PH (e:E):UnaryOp->E
 | .USub=>.neg e
 | .Invert=>.inv e
 | .Not=>.l7 e
 | _=>.bad
noncomputable def cBool (es:E):BoolOp->E
 | .And=>.dZ es
 | .Or=>.tm es
noncomputable def HY (o x:E) (m:Str):E:=
 if m == ("append":Str) then .append o x
 else if m == ("index":Str) then .index o x
 else if m == ("count":Str) then .count o x
 else .bad
noncomputable def H7 (g:GT) (sc:Scope) (ns:List Str) (pos:Pos) (args:List Expr) (o as:E):Expr->E
 | .Name n _=>gd (decide (args.length<20) && eI args) (pG g sc ns n as)
 | .Attribute b m apos=>gd (gj b && eI args && apos.endLine == pos.line) (match as with
  | .nil=>gd (m == ("pop":Str)) (.pop o)
  | .cons x .nil=>HY o x m
  | _=>.bad)
 | _=>.bad
def oa (Γ:Sg) (op:BoolOp):E->Lc->Hp->K1->Prop:=match op with
 | .And=>jE Γ
 | .Or=>mZ Γ
noncomputable def Ki:Expr->Bool
 | .Slice _ _ none _=>true
 | _=>false
noncomputable def P5 {α:Type}:List α->Bool
 | [_]=>true
 | _=>false
noncomputable def mi:Expr->Option Str
 | .Name x _=>some x
 | _=>none
noncomputable def iW (nm:Str) (sc':Scope) (ns:List Str):List (Option Nat):=none:: (bA nm sc').tail.map λn=>eu n ns
mutual
noncomputable def cE (g:GT) (at_:List Str) (sc:Scope) (ns:List Str):Expr->E
 | .Constant c _ _=>Ew c
 | .Name n _=>t7 g sc ns n
 | .BinOp l op r _=>ob (kJ op) λo=>.bin o (cE g at_ sc ns l) (cE g at_ sc ns r)
 | .UnaryOp op x _=>PH (cE g at_ sc ns x) op
 | .BoolOp op vs _=>cBool (zf g at_ sc ns vs) op
 | .Compare l ops rs _=>(match ops,rs with
  | op::ops,r::rs=>gd (ops.isEmpty && rs.isEmpty && !behindInMarks op r) (ob (A7 op) λo=>.cmp o (cE g at_ sc ns l) (cE g at_ sc ns r))
  | _,_=>.bad)
 | .IfExp t b o _=>.AD (cE g at_ sc ns t) (cE g at_ sc ns b) (cE g at_ sc ns o)
 | .Call f args ks pos=>gd ks.isEmpty (H7 g sc ns pos args (match f with
  | .Attribute o _ _=>cE g at_ sc ns o
  | _=>.bad) (zf g at_ sc ns args) f)
 | .Attribute o a _=>gd (gj o) (ob (eu a at_) λn=>.attr (cE g at_ sc ns o) n)
 | .Subscript v s _=>(match Ki s with
  | true=>.slice (cE g at_ sc ns v) (match s with
   | .Slice lo _ _ _=>cO g at_ sc ns lo
   | _=>.bad) (match s with
   | .Slice _ hi _ _=>cO g at_ sc ns hi
   | _=>.bad)
  | false=>.sub (cE g at_ sc ns v) (cE g at_ sc ns s))
 | .Tuple es _ _=>gd (eI es) (.tup (zf g at_ sc ns es))
 | .List es _=>gd (eI es) (.lst (zf g at_ sc ns es))
 | .ListComp elt gens sc' _=>(match gens with
  | ⟨t,it,ifs,as⟩::gs=>ob (mi t) λx=>gd (gs.isEmpty && as == 0 && ju sc sc' x it && decide (ifs.length<=1)) (.comp (iW x sc' ns) (cE g at_ sc ns it) (match ifs with
   | c::_=>cE g at_ sc' (bA x sc') c
   | []=>.bz true) (cE g at_ sc' (bA x sc') elt))
  | []=>.bad)
 | _=>.bad
noncomputable def zf (g:GT) (at_:List Str) (sc:Scope) (ns:List Str):List Expr->E
 | []=>.nil
 | e::r=>.cons (cE g at_ sc ns e) (zf g at_ sc ns r)
noncomputable def cO (g:GT) (at_:List Str) (sc:Scope) (ns:List Str):Option Expr->E
 | none=>.hG
 | some e=>cE g at_ sc ns e
end
noncomputable def nV (ns:List Str):List Expr->Option (List Nat)
 | []=>some []
 | e::r=>(mi e).bind λn=>(eu n ns).bind λi=>(nV ns r).map (i::·)
noncomputable def DU (e:Expr):Bool:=Nat.beq e.ctorIdx 25
noncomputable def hU (e:Expr):Bool:=Nat.beq e.ctorIdx 26
noncomputable def LR (g:GT) (at_:List Str) (sc:Scope) (ns:List Str) (e:Expr):Expr->S
 | .Name n _=>vK (eu n ns) λi=>.asg i (cE g at_ sc ns e)
 | .Tuple ts _ _=>Cu (!DU e) (vK (nV ns ts) λis=>.mE is (cE g at_ sc ns e))
 | .Attribute o a _=>vK (eu a at_) λn=>.cj (cE g at_ sc ns o) n (cE g at_ sc ns e)
 | .Subscript o i _=>.eS (cE g at_ sc ns o) (cE g at_ sc ns i) (cE g at_ sc ns e)
 | _=>.bad
noncomputable def LQ (g:GT) (at_:List Str) (sc:Scope) (ns:List Str) (op:Operator) (e:Expr):Expr->S
 | .Name n _=>vK (eu n ns) λi=>vK (kJ op) λo=>.aug i o (cE g at_ sc ns e)
 | .Attribute o a _=>vK (eu a at_) λn=>vK (kJ op) λp=>.j6 (cE g at_ sc ns o) n p (cE g at_ sc ns e)
 | .Subscript o i _=>Cu (!hU i) (vK (kJ op) λp=>.jx (cE g at_ sc ns o) (cE g at_ sc ns i) p (cE g at_ sc ns e))
 | _=>.bad
noncomputable def LP (g:GT) (at_:List Str) (sc:Scope) (ns:List Str):Option Expr->S
 | some e=>.ret (cE g at_ sc ns e)
 | none=>.zK
mutual
noncomputable def cS (g:GT) (at_:List Str) (sc:Scope) (ns:List Str):Stmt->S
 | .Expr e _=>Cu (tM e) (.aG (cE g at_ sc ns e))
 | .Assign ts e _=>(match ts with
  | t::r=>Cu r.isEmpty (LR g at_ sc ns e t)
  | []=>.bad)
 | .AugAssign t op e _=>LQ g at_ sc ns op e t
 | .If t a b _=>.bh (cE g at_ sc ns t) (cB g at_ sc ns a) (cB g at_ sc ns b)
 | .While t b o _=>Cu o.isEmpty (.gT (cE g at_ sc ns t) (cB g at_ sc ns b))
 | .For t it b o _=>Cu o.isEmpty (vK (mi t) λn=>vK (eu n ns) λi=>.cC i (cE g at_ sc ns it) (cB g at_ sc ns b))
 | .Return e _=>LP g at_ sc ns e
 | .Break _=>.brk
 | .Raise _ _ _=>.raise
 | _=>.bad
noncomputable def cB (g:GT) (at_:List Str) (sc:Scope) (ns:List Str):List Stmt->S
 | []=>.nil
 | s::r=>.cons (cS g at_ sc ns s) (cB g at_ sc ns r)
end
section
variable {Γ:Sg} {O:Lc} {H:Hp} {Q:V->Hp->Prop} {K:KS} {α:Type}
theorem og {o:Option α} {f:α->E} (h:bp Γ (ob o f) O H Q):∃a,o=some a/\bp Γ (f a) O H Q:=by
 cases o with
 | none=>exact h.elim
 | some a=>exact ⟨a,rfl,h⟩
theorem gw {c:Bool} {e:E} (h:bp Γ (gd c e) O H Q):c=true/\bp Γ e O H Q:=by
 cases c with
 | false=>exact h.elim
 | true=>exact ⟨rfl,h⟩
theorem i6 {o:Option α} {f:α->S} (h:wpS Γ (vK o f) O H K):∃a,o=some a/\wpS Γ (f a) O H K:=by
 cases o with
 | none=>exact h.elim
 | some a=>exact ⟨a,rfl,h⟩
theorem vm {c:Bool} {e:S} (h:wpS Γ (Cu c e) O H K):c=true/\wpS Γ e O H K:=by
 cases c with
 | false=>exact h.elim
 | true=>exact ⟨rfl,h⟩
theorem Fj {i:Nat} (h:bp Γ (.loc i) O H Q):∃v,getL O i=some v/\Q v H:=by
 revert h;show (match getL O i with | some v=>Q v H | none=>False)->_
 cases getL O i with
 | none=>exact False.elim
 | some v=>exact λh=>⟨v,rfl,h⟩
theorem Cd {g:GT} {sc:Scope} {ns:List Str} {n:Str} {P:Prop} (h:bp Γ (t7 g sc ns n) O H Q) (h1:∀i,eu n ns=some i->bp Γ (.loc i) O H Q->P)
 (h2:(sc.names.lookup n == some .globalImplicit)=true->∀x,di n g=some x->bp Γ (MC x) O H Q->P):P:=by
 delta t7 at h;generalize hi:eu n ns=o at h
 cases o with
 | some i=>exact h1 i hi h
 | none=>
  refine aD (gw h) λa h=>?_;refine ao (og h) λx b h=>?_;exact h2 a x b h
theorem vn {g:GT} {sc:Scope} {ns:List Str} {n:Str} {as:E} (h:bp Γ (pG g sc ns n as) O H Q):(sc.names.lookup n == some .globalImplicit)=true/\∃x,di n g=some x/\bp Γ (MD as x) O H Q:=by
 delta pG at h;generalize eu n ns=o at h
 cases o with
 | some i=>exact h.elim
 | none=>exact ⟨(gw h).1,og (gw h).2⟩
theorem AI (e:Expr):match mi e with | some n=>∃p,e=.Name n p | none=>True:=by
 cases e with
 | Name m p=>exact ⟨p,rfl⟩
 | _=>exact True.intro
theorem qv {e:Expr} {n:Str} (h:mi e=some n):∃p,e=.Name n p:=by have:=AI e;rw [h] at this;exact this
end
section
open E S gJ uZ Bi
noncomputable def attrs:List Str:=["pieces","ep","rights","side","files","ranks","size","full","has_double","has_castling","file_masks","rank_masks","rays","king","knight","pawn","castles","rights_lost","geo","zob","board","kinds","sides","half","key","history"]
noncomputable abbrev bg (s:String) (g:Gl):Str×Gl:=(Str.ofString s,g)
noncomputable def gt:GT:=[bg "WHITE" (.int 0),bg "BLACK" (.int 1),bg "NO_KIND" (.int 0),bg "PAWN" (.int 1),bg "KNIGHT" (.int 2),bg "BISHOP" (.int 3),bg "ROOK" (.int 4),bg "QUEEN" (.int 5),bg "KING" (.int 6),bg "EMPTY" (.int 0),bg "NORMAL" (.int 0),bg "PROMOTION" (.int 1),bg "EN_PASSANT" (.int 2),bg "CASTLING" (.int 3),bg "STEP_FILES" (.tup [0,1,0,-1,1,1,-1,-1]),bg "STEP_RANKS" (.tup [1,0,-1,0,1,-1,-1,1]),bg "MAY" (.int 0),bg "NO_WING" (.int 1),bg "RIGHT_LOST" (.int 2),bg "NOT_FREE" (.int 3),bg "IN_CHECK" (.int 4),bg "PASSES_ATTACK" (.int 5),bg "GOAL_ATTACKED" (.int 6),bg "CAPTURES" (.int 0),bg "QUIETS" (.int 1),bg "NON_EVASIONS" (.int 2),bg "EVASIONS" (.int 3),bg "make_piece" (.fn 0),bg "side_of" (.fn 1),bg "kind_of" (.fn 2),bg "pack_move" (.fn 3),bg "move_from" (.fn 4),bg "move_to" (.fn 5),bg "move_special" (.fn 6),bg "move_promo" (.fn 7),bg "state_key" (.fn 8),bg "full_key" (.fn 9),bg "pawn_key" (.fn 10),bg "non_pawn_key" (.fn 11),bg "material_key" (.fn 12),bg "is_growing" (.fn 13),bg "add_masks" (.fn 14),bg "inner_squares" (.fn 15),bg "add_rays" (.fn 16),bg "add_pawns" (.fn 17),bg "add_knights" (.fn 18),bg "add_castles" (.fn 19),bg "make_geometry" (.fn 20),bg "more_than_one" (.fn 21),bg "highest" (.fn 22),bg "lowest" (.fn 23),bg "squares_of" (.fn 24),bg "put_piece" (.fn 25),bg "take_piece" (.fn 26),bg "shift_piece" (.fn 27),bg "occupied" (.fn 28),bg "pieces" (.fn 29),bg "king_square" (.fn 30),bg "settle_key" (.fn 31),bg "moved_piece" (.fn 32),bg "taken_square_makemove" (.fn 33),bg "rook_step" (.fn 34),bg "passed_square" (.fn 35),bg "kept_rights" (.fn 36),bg "clear_ep_key" (.fn 37),bg "set_ep_key" (.fn 38),bg "set_rights_key" (.fn 39),bg "do_move" (.fn 40),bg "undo_move" (.fn 41),bg "key_after" (.fn 42),bg "direction" (.fn 43),bg "between" (.fn 44),bg "line" (.fn 45),bg "aligned" (.fn 46),bg "ray_attacks" (.fn 47),bg "rook_attacks" (.fn 48),bg "bishop_attacks" (.fn 49),bg "queen_attacks" (.fn 50),bg "slider_attacks" (.fn 51),bg "piece_attacks" (.fn 52),bg "straight_sliders" (.fn 53),bg "slanting_sliders" (.fn 54),bg "pawn_attackers" (.fn 55),bg "step_attackers" (.fn 56),bg "line_attackers" (.fn 57),bg "attackers_to" (.fn 58),bg "is_attacked" (.fn 59),bg "checkers_of" (.fn 60),bg "checkers" (.fn 61),bg "in_check_of" (.fn 62),bg "in_check" (.fn 63),bg "snipers_of" (.fn 64),bg "blockers" (.fn 65),bg "pinned_pieces" (.fn 66),bg "squares_within" (.fn 67),bg "castle_refusal" (.fn 68),bg "add_castling" (.fn 69),bg "add_goals" (.fn 70),bg "add_piece_moves" (.fn 71),bg "stage_target" (.fn 72),bg "push_step" (.fn 73),bg "start_mask" (.fn 74),bg "last_mask" (.fn 75),bg "shift_push" (.fn 76),bg "shift_capture" (.fn 77),bg "push_targets" (.fn 78),bg "add_promotions" (.fn 79),bg "add_plain_pushes" (.fn 80),bg "add_push_promotions" (.fn 81),bg "add_pawn_captures" (.fn 82),bg "add_pawn_moves" (.fn 83),bg "add_en_passant" (.fn 84),bg "evasion_targets" (.fn 85),bg "passed_pawn_square" (.fn 86),bg "may_answer_en_passant" (.fn 87),bg "add_evasions" (.fn 88),bg "taken_square_legality" (.fn 89),bg "is_safe_en_passant" (.fn 90),bg "is_legal" (.fn 91),bg "generate" (.fn 92),bg "pseudo_moves" (.fn 93),bg "keep_legal" (.fn 94),bg "legal_moves" (.fn 95),bg "_law_shapes" (.fn 96),bg "_law_at" (.fn 97),bg "_law_hits" (.fn 98),bg "_law_beside" (.fn 99),bg "_law_passed" (.fn 100),bg "_law_kings" (.fn 101),bg "_law_draw" (.fn 102),bg "_law_play" (.fn 103),bg "_law_sum" (.fn 104),bg "_law_agrees" (.fn 105),bg "_law_position" (.fn 106),bg "law" (.fn 107),bg "Zobrist" (.cls 0),bg "Geometry" (.cls 1),bg "Position" (.cls 2),bg "len" (.bi .len),bg "abs" (.bi .abs),bg "range" (.bi .range),bg "max" (.bi .max),bg "sorted" (.bi .sorted),bg "sum" (.bi .sum),bg "list" (.bi .list)]
noncomputable abbrev ah:=E.loc 0
noncomputable abbrev aA:=E.loc 1
noncomputable abbrev aT:=E.loc 2
noncomputable abbrev bI:=E.loc 3
noncomputable abbrev bZ:=E.loc 4
noncomputable abbrev c8:=E.loc 5
noncomputable abbrev cU:=E.loc 6
noncomputable abbrev dS:=E.loc 7
noncomputable abbrev fg:=E.loc 8
noncomputable abbrev lu:=E.loc 9
noncomputable abbrev gx:=E.loc 10
noncomputable abbrev dk:=E.loc 11
noncomputable abbrev vo:=E.loc 12
noncomputable abbrev mO:=E.loc 13
noncomputable abbrev qX:=E.loc 14
noncomputable abbrev Jp:=E.loc 15
noncomputable abbrev a0:=E.bC 0
noncomputable abbrev aH:=E.bC 1
noncomputable abbrev dH:=E.bC 2
noncomputable abbrev iQ:=E.bC 3
noncomputable abbrev jm:=E.bC 4
noncomputable abbrev qR:=E.bC 5
noncomputable abbrev uz:=E.bC 6
noncomputable abbrev E4:=E.bC 7
noncomputable abbrev kZ:=E.bC 8
noncomputable abbrev uA:=E.bC 14
noncomputable abbrev qr:=E.bC 15
noncomputable abbrev aV:=E.bin .add
noncomputable abbrev aB:=E.bin .and
noncomputable abbrev bK:=E.bin .fdiv
noncomputable abbrev bY:=E.bin .mod
noncomputable abbrev aY:=E.bin .mul
noncomputable abbrev dY:=E.bin .or
noncomputable abbrev a9:=E.bin .shl
noncomputable abbrev cJ:=E.bin .shr
noncomputable abbrev aF:=E.bin .sub
noncomputable abbrev fR:=E.bin .xor
noncomputable abbrev aL:=E.cmp .eq
noncomputable abbrev pC:=E.cmp .ge
noncomputable abbrev jv:=E.cmp .gt
noncomputable abbrev j3:=E.cmp .lt
noncomputable abbrev dC:=E.cmp .ne
noncomputable abbrev bB (a:E):E:=.cons a .nil
noncomputable abbrev bU (a b:E):E:=.cons a (.cons b .nil)
noncomputable abbrev dO (a b c:E):E:=.cons a (.cons b (.cons c .nil))
noncomputable abbrev f6 (a b c d:E):E:=.cons a (.cons b (.cons c (.cons d .nil)))
noncomputable abbrev IW (a b c d e:E):E:=.cons a (.cons b (.cons c (.cons d (.cons e .nil))))
noncomputable abbrev P1 (a b c d e f:E):E:=.cons a (.cons b (.cons c (.cons d (.cons e (.cons f .nil)))))
noncomputable abbrev aX (a:S):S:=.cons a .nil
noncomputable abbrev Bz2 (a b:S):S:=.cons a (.cons b .nil)
noncomputable abbrev pN (a b c:S):S:=.cons a (.cons b (.cons c .nil))
noncomputable abbrev qP (a b c d:S):S:=.cons a (.cons b (.cons c (.cons d .nil)))
noncomputable abbrev yY (a b c d e:S):S:=.cons a (.cons b (.cons c (.cons d (.cons e .nil))))
noncomputable abbrev yX (a b c d e f:S):S:=.cons a (.cons b (.cons c (.cons d (.cons e (.cons f .nil)))))
noncomputable abbrev B9 (a b c d e f g:S):S:=.cons a (.cons b (.cons c (.cons d (.cons e (.cons f (.cons g .nil))))))
noncomputable abbrev Me (a b c d e f g h:S):S:=.cons a (.cons b (.cons c (.cons d (.cons e (.cons f (.cons g (.cons h .nil)))))))
noncomputable abbrev IV (a b c d e f g h i:S):S:=.cons a (.cons b (.cons c (.cons d (.cons e (.cons f (.cons g (.cons h (.cons i .nil))))))))
noncomputable abbrev vg (a b c d e f g h r:S):S:=.cons a (.cons b (.cons c (.cons d (.cons e (.cons f (.cons g (.cons h r)))))))
noncomputable def F0:Fn:=⟨"make_piece",["side","kind"],2,aX (.ret (aV (aY ah kZ) aA))⟩
noncomputable def F1:Fn:=⟨"side_of",["piece"],1,aX (.ret (cJ ah iQ))⟩
noncomputable def F2:Fn:=⟨"kind_of",["piece"],1,aX (.ret (aB ah E4))⟩
noncomputable def F3:Fn:=⟨"pack_move",["origin","to","special","promo","field"],4,pN (.asg 4 a0) (.bh (aL aT aH) (aX (.asg 4 (aF bI dH))) .nil) (.ret (dY (dY (dY aA (a9 ah uz)) (a9 bZ (.bC 12))) (a9 aT uA)))⟩
noncomputable def F4:Fn:=⟨"move_from",["move"],1,aX (.ret (aB (cJ ah uz) (.bC 63)))⟩
noncomputable def F5:Fn:=⟨"move_to",["move"],1,aX (.ret (aB ah (.bC 63)))⟩
noncomputable def F6:Fn:=⟨"move_special",["move"],1,aX (.ret (aB (cJ ah uA) iQ))⟩
noncomputable def F7:Fn:=⟨"move_promo",["move"],1,Bz2 (.bh (dC (aB (cJ ah uA) iQ) aH) (aX (.ret a0)) .nil) (.ret (aV (aB (cJ ah (.bC 12)) iQ) dH))⟩
noncomputable def F8:Fn:=⟨"state_key",["pos","zob","key"],1,yY (.asg 1 (.attr ah 19)) (.asg 2 (.sub (.attr aA 2) (.attr ah 2))) (.bh (pC (.attr ah 1) a0) (aX (.aug 2 .xor (.sub (.attr aA 1) (bY (.attr ah 1) (.attr (.attr ah 18) 4))))) .nil) (.bh (aL (.attr ah 3) aH) (aX (.aug 2 .xor (.attr aA 3))) .nil) (.ret aT)⟩
noncomputable def F9:Fn:=⟨"full_key",["pos","numbers","key","square","piece"],1,yY (.asg 1 (.attr (.attr ah 19) 0)) (.asg 2 (.call 8 (bB ah))) (.asg 3 a0) (.cC 4 (.attr ah 20) (Bz2 (.bh (dC bZ a0) (aX (.aug 2 .xor (.sub (.sub aA bZ) bI))) .nil) (.aug 3 .add aH))) (.ret aT)⟩
noncomputable def Ol:Fn:=⟨"pawn_key",["pos","numbers","key","square","piece"],1,yY (.asg 1 (.attr (.attr ah 19) 0)) (.asg 2 a0) (.asg 3 a0) (.cC 4 (.attr ah 20) (Bz2 (.bh (aL (.call 2 (bB bZ)) aH) (aX (.aug 2 .xor (.sub (.sub aA bZ) bI))) .nil) (.aug 3 .add aH))) (.ret aT)⟩
noncomputable def Oj:Fn:=⟨"non_pawn_key",["pos","side","numbers","key","square","piece"],2,yY (.asg 2 (.attr (.attr ah 19) 0)) (.asg 3 a0) (.asg 4 a0) (.cC 5 (.attr ah 20) (Bz2 (.bh (.dZ (bU (jv (.call 2 (bB c8)) aH) (aL (.call 1 (bB c8)) aA))) (aX (.aug 3 .xor (.sub (.sub aT c8) bZ))) .nil) (.aug 4 .add aH))) (.ret bI)⟩
noncomputable def Oi:Fn:=⟨"material_key",["pos","numbers","counts","key","piece"],1,yY (.asg 1 (.attr (.attr ah 19) 0)) (.asg 2 (aY (.lst (bB a0)) qr)) (.asg 3 a0) (.cC 4 (.attr ah 20) (aX (.bh (dC bZ a0) (Bz2 (.aug 3 .xor (.sub (.sub aA bZ) (.sub aT bZ))) (.jx aT bZ .add aH)) .nil))) (.ret bI)⟩
noncomputable def Oh:Fn:=⟨"is_growing",["d"],1,aX (.ret (.tm (bU (jv (.sub (.ma [1,0,-1,0,1,-1,-1,1]) ah) a0) (aL ah aH))))⟩
noncomputable def Og:Fn:=⟨"add_masks",["geo","row","column","r","f"],1,qP (.asg 1 (aF (a9 aH (.attr ah 4)) aH)) (.asg 2 a0) (.cC 3 (.bi .range (bB (.attr ah 5))) (Bz2 (.aG (.append (.attr ah 11) (a9 aA (aY bI (.attr ah 4))))) (.aug 2 .or (a9 aH (aY bI (.attr ah 4)))))) (.cC 4 (.bi .range (bB (.attr ah 4))) (aX (.aG (.append (.attr ah 10) (a9 aT bZ)))))⟩
noncomputable def Of:Fn:=⟨"inner_squares",["geo","d","edge"],2,yX (.asg 2 a0) (.bh (jv (.sub (.ma [0,1,0,-1,1,1,-1,-1]) aA) a0) (aX (.aug 2 .or (.sub (.attr ah 10) (aF (.attr ah 4) aH)))) .nil) (.bh (j3 (.sub (.ma [0,1,0,-1,1,1,-1,-1]) aA) a0) (aX (.aug 2 .or (.sub (.attr ah 10) a0))) .nil) (.bh (jv (.sub (.ma [1,0,-1,0,1,-1,-1,1]) aA) a0) (aX (.aug 2 .or (.sub (.attr ah 11) (aF (.attr ah 5) aH)))) .nil) (.bh (j3 (.sub (.ma [1,0,-1,0,1,-1,-1,1]) aA) a0) (aX (.aug 2 .or (.sub (.attr ah 11) a0))) .nil) (.ret (aB (.attr ah 7) (.inv aT)))⟩
noncomputable def Oe:Fn:=⟨"add_rays",["geo","d","inner","delta","ray","order","square","goal"],1,Bz2 (.cj ah 13 (aY (.lst (bB a0)) (.attr ah 6))) (.cC 1 (.bi .range (bB kZ)) (B9 (.asg 2 (.call 15 (bU ah aA))) (.asg 3 (aV (aY (.sub (.ma [1,0,-1,0,1,-1,-1,1]) aA) (.attr ah 4)) (.sub (.ma [0,1,0,-1,1,1,-1,-1]) aA))) (.asg 4 (aY (.lst (bB a0)) (.attr ah 6))) (.asg 5 (.bi .range (bB (.attr ah 6)))) (.bh (.call 13 (bB aA)) (aX (.asg 5 (.bi .range (dO (aF (.attr ah 6) aH) (.neg aH) (.neg aH))))) .nil) (.cC 6 c8 (aX (.bh (aB (cJ aT cU) aH) (pN (.asg 7 (aV cU bI)) (.eS bZ cU (dY (.sub bZ dS) (a9 aH dS))) (.jx (.attr ah 13) cU .or (a9 aH dS))) .nil))) (.aG (.append (.attr ah 12) bZ))))⟩
noncomputable def Od:Fn:=⟨"add_pawns",["geo","square"],1,aX (.cC 1 (.bi .range (bB (.attr ah 6))) (Bz2 (.aG (.append (.sub (.attr ah 15) a0) (aB (.sub (.attr ah 13) aA) (dY (.sub (.sub (.attr ah 12) jm) aA) (.sub (.sub (.attr ah 12) E4) aA))))) (.aG (.append (.sub (.attr ah 15) aH) (aB (.sub (.attr ah 13) aA) (dY (.sub (.sub (.attr ah 12) qR) aA) (.sub (.sub (.attr ah 12) uz) aA)))))))⟩
noncomputable def Oc:Fn:=⟨"add_knights",["geo","files","not_first","not_last","not_first_two","not_last_two","square","b","near","far","found"],1,yX (.asg 1 (.attr ah 4)) (.asg 2 (aB (.attr ah 7) (.inv (.sub (.attr ah 10) a0)))) (.asg 3 (aB (.attr ah 7) (.inv (.sub (.attr ah 10) (aF aA aH))))) (.asg 4 (aB aT (.inv (.sub (.attr ah 10) aH)))) (.asg 5 (aB bI (.inv (.sub (.attr ah 10) (aF aA dH))))) (.cC 6 (.bi .range (bB (.attr ah 6))) (yY (.asg 7 (a9 aH cU)) (.asg 8 (dY (aB (a9 dS aH) aT) (aB (cJ dS aH) bI))) (.asg 9 (dY (aB (a9 dS dH) bZ) (aB (cJ dS dH) c8))) (.asg 10 (dY (dY (dY (a9 fg (aY dH aA)) (cJ fg (aY dH aA))) (a9 lu aA)) (cJ lu aA))) (.aG (.append (.attr ah 14) (aB gx (.attr ah 7))))))⟩
noncomputable def Oa:Fn:=⟨"add_castles",["geo","start","index","base","corner","way","goal"],1,pN (.cj ah 17 (aY (.lst (bB a0)) (.attr ah 6))) (.asg 1 (bK (.attr ah 4) dH)) (.cC 2 (.bi .range (bB jm)) (yX (.asg 3 (aY (aY (cJ aT aH) (aF (.attr ah 5) aH)) (.attr ah 4))) (.asg 4 (aF (.attr ah 4) aH)) (.asg 5 aH) (.bh (aB aT aH) (Bz2 (.asg 4 a0) (.asg 5 (.neg aH))) .nil) (.asg 6 (aV aA (aY dH c8))) (.bh (.dZ (bU (.attr ah 9) (jv (aY (aF bZ cU) c8) a0))) (pN (.aG (.append (.attr ah 16) (.tup (f6 (aV bI aA) (aV bI cU) (aV bI bZ) (aF (aV bI cU) c8))))) (.jx (.attr ah 17) (aV bI aA) .or (a9 aH aT)) (.jx (.attr ah 17) (aV bI bZ) .or (a9 aH aT))) (aX (.aG (.append (.attr ah 16) .hG))))))⟩
noncomputable def N9:Fn:=⟨"make_geometry",["files","ranks","has_double","has_castling","geo"],4,Me (.bh (.tm (f6 (j3 ah dH) (jv ah kZ) (j3 aA iQ) (jv aA kZ))) (aX .raise) .nil) (.asg 4 (.new 1 (f6 ah aA aT bI))) (.aG (.call 14 (bB bZ))) (.aG (.call 16 (bB bZ))) (.aG (.call 17 (bB bZ))) (.aG (.call 18 (bB bZ))) (.aG (.call 19 (bB bZ))) (.ret bZ)⟩
noncomputable def N8:Fn:=⟨"more_than_one",["b"],1,aX (.ret (dC (aB ah (aF ah aH)) a0))⟩
noncomputable def N7:Fn:=⟨"highest",["b","width","square"],1,yX (.bh (aL ah a0) (aX (.ret (.neg aH))) .nil) (.asg 1 aH) (.gT (cJ ah aA) (aX (.aug 1 .mul dH))) (.asg 2 a0) (.gT (jv aA aH) (Bz2 (.aug 1 .fdiv dH) (.bh (cJ ah aA) (Bz2 (.aug 0 .shr aA) (.aug 2 .add aA)) .nil))) (.ret aT)⟩
noncomputable def N6:Fn:=⟨"lowest",["b"],1,aX (.ret (.call 22 (bB (aB ah (.neg ah)))))⟩
noncomputable def N5:Fn:=⟨"squares_of",["b","out","square"],1,qP (.asg 1 (.lst .nil)) (.asg 2 a0) (.gT ah (qP (.gT (.l7 (aB ah qr)) (Bz2 (.aug 0 .shr jm) (.aug 2 .add jm))) (.bh (aB ah aH) (aX (.aG (.append aA aT))) .nil) (.aug 0 .shr aH) (.aug 2 .add aH))) (.ret aA)⟩
noncomputable def N4:Fn:=⟨"put_piece",["pos","piece","s","bit"],3,yY (.asg 3 (a9 aH aT)) (.eS (.attr ah 20) aT aA) (.jx (.attr ah 21) (.call 2 (bB aA)) .or bI) (.jx (.attr ah 22) (.call 1 (bB aA)) .or bI) (.j6 ah 24 .xor (.sub (.sub (.attr (.attr ah 19) 0) aA) aT))⟩
noncomputable def N3:Fn:=⟨"take_piece",["pos","s","piece","bit"],2,B9 (.asg 2 (.sub (.attr ah 20) aA)) (.asg 3 (a9 aH aA)) (.eS (.attr ah 20) aA a0) (.jx (.attr ah 21) (.call 2 (bB aT)) .xor bI) (.jx (.attr ah 22) (.call 1 (bB aT)) .xor bI) (.j6 ah 24 .xor (.sub (.sub (.attr (.attr ah 19) 0) aT) aA)) (.ret aT)⟩
noncomputable def N2:Fn:=⟨"shift_piece",["pos","a","b","piece","bits","numbers"],3,Me (.asg 3 (.sub (.attr ah 20) aA)) (.asg 4 (dY (a9 aH aA) (a9 aH aT))) (.eS (.attr ah 20) aA a0) (.eS (.attr ah 20) aT bI) (.jx (.attr ah 21) (.call 2 (bB bI)) .xor bZ) (.jx (.attr ah 22) (.call 1 (bB bI)) .xor bZ) (.asg 5 (.sub (.attr (.attr ah 19) 0) bI)) (.j6 ah 24 .xor (fR (.sub c8 aA) (.sub c8 aT)))⟩
noncomputable def N0:Fn:=⟨"occupied",["pos"],1,aX (.ret (dY (.sub (.attr ah 22) a0) (.sub (.attr ah 22) aH)))⟩
noncomputable def NZ:Fn:=⟨"pieces",["pos","side","kind"],3,aX (.ret (aB (.sub (.attr ah 22) aA) (.sub (.attr ah 21) aT)))⟩
noncomputable def NY:Fn:=⟨"king_square",["pos","side"],2,aX (.ret (.call 23 (bB (aB (.sub (.attr ah 22) aA) (.sub (.attr ah 21) uz)))))⟩
noncomputable def NX:Fn:=⟨"settle_key",["pos"],1,aX (.cj ah 24 (.call 9 (bB ah)))⟩
noncomputable def NW:Fn:=⟨"moved_piece",["pos","move","origin","piece"],2,yY (.asg 2 (.call 4 (bB aA))) (.bh (.tm (bU (pC aT (.attr (.attr ah 18) 6)) (pC (.call 5 (bB aA)) (.attr (.attr ah 18) 6)))) (aX .raise) .nil) (.asg 3 (.sub (.attr ah 20) aT)) (.bh (.tm (bU (aL bI a0) (dC (.call 1 (bB bI)) (.attr ah 3)))) (aX .raise) .nil) (.ret bI)⟩
noncomputable def PZ:Fn:=⟨"taken_square_makemove",["pos","move","goal"],2,qP (.asg 2 (.call 5 (bB aA))) (.bh (dC (.call 6 (bB aA)) dH) (aX (.ret aT)) .nil) (.bh (aL (.attr ah 3) a0) (aX (.ret (aF aT (.attr (.attr ah 18) 4)))) .nil) (.ret (aV aT (.attr (.attr ah 18) 4)))⟩
noncomputable def NV:Fn:=⟨"rook_step",["geo","side","goal","index","wing"],3,Bz2 (.cC 3 (.tup (bU (aY dH aA) (aV (aY dH aA) aH))) (Bz2 (.asg 4 (.sub (.attr ah 16) bI)) (.bh (.dZ (bU (.cmp .isnot bZ .hG) (aL (.sub bZ aH) aT))) (aX (.ret (.tup (bU (.sub bZ dH) (.sub bZ iQ))))) .nil))) .raise⟩
noncomputable def NU:Fn:=⟨"passed_square",["pos","side","origin","goal","files","passed","enemies"],4,yX (.asg 4 (.attr (.attr ah 18) 4)) (.bh (.dZ (bU (dC (aF bI aT) (aY dH bZ)) (dC (aF aT bI) (aY dH bZ)))) (aX (.ret (.neg aH))) .nil) (.asg 5 (bK (aV aT bI) dH)) (.asg 6 (aB (.sub (.attr ah 21) aH) (.sub (.attr ah 22) (aF aH aA)))) (.bh (aL (aB (.sub (.sub (.attr (.attr ah 18) 15) aA) c8) cU) a0) (aX (.ret (.neg aH))) .nil) (.ret c8)⟩
noncomputable def NT:Fn:=⟨"kept_rights",["pos","origin","goal","lost"],3,Bz2 (.asg 3 (dY (.sub (.attr (.attr ah 18) 17) aA) (.sub (.attr (.attr ah 18) 17) aT))) (.ret (aF (.attr ah 2) (aB (.attr ah 2) bI)))⟩
noncomputable def NS:Fn:=⟨"clear_ep_key",["pos"],1,aX (.bh (pC (.attr ah 1) a0) (Bz2 (.j6 ah 24 .xor (.sub (.attr (.attr ah 19) 1) (bY (.attr ah 1) (.attr (.attr ah 18) 4)))) (.cj ah 1 (.neg aH))) .nil)⟩
noncomputable def NR:Fn:=⟨"set_ep_key",["pos","square"],2,Bz2 (.bh (pC aA a0) (aX (.j6 ah 24 .xor (.sub (.attr (.attr ah 19) 1) (bY aA (.attr (.attr ah 18) 4))))) .nil) (.cj ah 1 aA)⟩
noncomputable def NQ:Fn:=⟨"set_rights_key",["pos","rights"],2,aX (.bh (dC aA (.attr ah 2)) (Bz2 (.j6 ah 24 .xor (fR (.sub (.attr (.attr ah 19) 2) (.attr ah 2)) (.sub (.attr (.attr ah 19) 2) aA))) (.cj ah 2 aA)) .nil)⟩
noncomputable def Je:Fn:=⟨"do_move",["pos","move","piece","side","origin","goal","special","rook","where","taken"],2,vg (.asg 2 (.call 32 (bU ah aA))) (.asg 3 (.attr ah 3)) (.asg 4 (.call 4 (bB aA))) (.asg 5 (.call 5 (bB aA))) (.asg 6 (.call 6 (bB aA))) (.asg 7 (.tup (bU (.neg aH) (.neg aH)))) (.bh (aL cU iQ) (aX (.asg 7 (.call 34 (dO (.attr ah 18) bI c8)))) .nil) (.asg 8 (.call 33 (bU ah aA))) (vg (.asg 9 (.sub (.attr ah 20) fg)) (.aG (.append (.attr ah 25) (.tup (P1 aA lu (.attr ah 2) (.attr ah 1) (.attr ah 23) (.attr ah 24))))) (.aG (.call 37 (bB ah))) (.j6 ah 23 .add aH) (.bh (dC lu a0) (Bz2 (.aG (.call 26 (bU ah fg))) (.cj ah 23 a0)) .nil) (.bh (aL cU aH) (Bz2 (.aG (.call 26 (bU ah bZ))) (.aG (.call 25 (dO ah (.call 0 (bU bI (.call 7 (bB aA)))) c8)))) (aX (.aG (.call 27 (dO ah bZ c8))))) (.bh (aL cU iQ) (aX (.aG (.call 27 (dO ah (.sub dS a0) (.sub dS aH))))) .nil) (.bh (aL (.call 2 (bB aT)) aH) (Bz2 (.cj ah 23 a0) (.aG (.call 38 (bU ah (.call 35 (f6 ah bI bZ c8)))))) .nil) (qP (.aG (.call 39 (bU ah (.call 36 (dO ah bZ c8))))) (.bh (aL bI aH) (aX (.j6 ah 7 .add aH)) .nil) (.cj ah 3 (aF aH bI)) (.j6 ah 24 .xor (.attr (.attr ah 19) 3))))⟩
noncomputable def L7:Fn:=⟨"undo_move",["pos","move","taken","rights","ep","half","key","side","origin","goal","special","rook"],1,vg (.bh (aL (.bi .len (bB (.attr ah 25))) a0) (aX .raise) .nil) (.mE [1,2,3,4,5,6] (.pop (.attr ah 25))) (.asg 7 (aF aH (.attr ah 3))) (.cj ah 3 dS) (.asg 8 (.call 4 (bB aA))) (.asg 9 (.call 5 (bB aA))) (.asg 10 (.call 6 (bB aA))) (.bh (aL gx aH) (Bz2 (.aG (.call 26 (bU ah lu))) (.aG (.call 25 (dO ah (.call 0 (bU dS aH)) fg)))) (aX (.aG (.call 27 (dO ah lu fg))))) (B9 (.bh (aL gx iQ) (Bz2 (.asg 11 (.call 34 (dO (.attr ah 18) dS lu))) (.aG (.call 27 (dO ah (.sub dk aH) (.sub dk a0))))) .nil) (.bh (dC aT a0) (aX (.aG (.call 25 (dO ah aT (.call 33 (bU ah aA)))))) .nil) (.bh (aL dS aH) (aX (.j6 ah 7 .sub aH)) .nil) (.cj ah 2 bI) (.cj ah 1 bZ) (.cj ah 23 c8) (.cj ah 24 cU))⟩
noncomputable def L6:Fn:=⟨"key_after",["pos","move","zob","piece","side","origin","goal","special","key","where","taken","landed","rook","row","passed"],2,vg (.asg 2 (.attr ah 19)) (.asg 3 (.call 32 (bU ah aA))) (.asg 4 (.attr ah 3)) (.asg 5 (.call 4 (bB aA))) (.asg 6 (.call 5 (bB aA))) (.asg 7 (.call 6 (bB aA))) (.asg 8 (fR (.attr ah 24) (.attr aT 3))) (.bh (pC (.attr ah 1) a0) (aX (.aug 8 .xor (.sub (.attr aT 1) (bY (.attr ah 1) (.attr (.attr ah 18) 4))))) .nil) (IV (.asg 9 (.call 33 (bU ah aA))) (.asg 10 (.sub (.attr ah 20) lu)) (.bh (dC gx a0) (aX (.aug 8 .xor (.sub (.sub (.attr aT 0) gx) lu))) .nil) (.asg 11 bI) (.bh (aL dS aH) (aX (.asg 11 (.call 0 (bU bZ (.call 7 (bB aA)))))) .nil) (.aug 8 .xor (fR (.sub (.sub (.attr aT 0) bI) c8) (.sub (.sub (.attr aT 0) dk) cU))) (.bh (aL dS iQ) (pN (.asg 12 (.call 34 (dO (.attr ah 18) bZ cU))) (.asg 13 (.sub (.attr aT 0) (.call 0 (bU bZ jm)))) (.aug 8 .xor (fR (.sub mO (.sub vo a0)) (.sub mO (.sub vo aH))))) .nil) (.bh (aL (.call 2 (bB bI)) aH) (Bz2 (.asg 14 (.call 35 (f6 ah bZ c8 cU))) (.bh (pC qX a0) (aX (.aug 8 .xor (.sub (.attr aT 1) (bY qX (.attr (.attr ah 18) 4))))) .nil)) .nil) (.ret (fR (fR fg (.sub (.attr aT 2) (.attr ah 2))) (.sub (.attr aT 2) (.call 36 (dO ah c8 cU))))))⟩
noncomputable def NP:Fn:=⟨"direction",["geo","a","b","d"],3,Bz2 (.cC 3 (.bi .range (bB kZ)) (aX (.bh (aB (cJ (.sub (.sub (.attr ah 12) bI) aA) aT) aH) (aX (.ret bI)) .nil))) (.ret (.neg aH))⟩
noncomputable def NO:Fn:=⟨"between",["geo","a","b","d"],3,pN (.asg 3 (.call 43 (dO ah aA aT))) (.bh (j3 bI a0) (aX (.ret a0)) .nil) (.ret (aB (.sub (.sub (.attr ah 12) bI) aA) (.sub (.sub (.attr ah 12) (fR bI dH)) aT)))⟩
noncomputable def NN:Fn:=⟨"line",["geo","a","b","d"],3,pN (.asg 3 (.call 43 (dO ah aA aT))) (.bh (j3 bI a0) (aX (.ret a0)) .nil) (.ret (dY (dY (.sub (.sub (.attr ah 12) bI) aA) (.sub (.sub (.attr ah 12) (fR bI dH)) aA)) (a9 aH aA)))⟩
noncomputable def NM:Fn:=⟨"aligned",["geo","a","b","c"],4,aX (.ret (aL (aB (cJ (.call 45 (dO ah aA aT)) bI) aH) aH))⟩
noncomputable def NL:Fn:=⟨"ray_attacks",["geo","d","square","occupied","ray","stop","behind"],4,vg (.asg 4 (.sub (.sub (.attr ah 12) aA) aT)) (.asg 5 (aB bZ bI)) (.bh (aL c8 a0) (aX (.ret bZ)) .nil) (.bh (.call 13 (bB aA)) (aX (.ret (aB bZ (fR c8 (aF c8 aH))))) .nil) (.asg 6 (cJ c8 aH)) (.aug 6 .or (cJ cU aH)) (.aug 6 .or (cJ cU dH)) (.aug 6 .or (cJ cU jm)) (qP (.aug 6 .or (cJ cU kZ)) (.aug 6 .or (cJ cU (.bC 16))) (.aug 6 .or (cJ cU (.bC 32))) (.ret (aB bZ (.inv cU))))⟩
noncomputable def NK:Fn:=⟨"rook_attacks",["geo","square","occupied","found","d"],3,pN (.asg 3 a0) (.cC 4 (.bi .range (bB jm)) (aX (.aug 3 .or (.call 47 (f6 ah bZ aA aT))))) (.ret bI)⟩
noncomputable def NJ:Fn:=⟨"bishop_attacks",["geo","square","occupied","found","d"],3,pN (.asg 3 a0) (.cC 4 (.bi .range (bU jm kZ)) (aX (.aug 3 .or (.call 47 (f6 ah bZ aA aT))))) (.ret bI)⟩
noncomputable def NI:Fn:=⟨"queen_attacks",["geo","square","occupied"],3,aX (.ret (dY (.call 48 (dO ah aA aT)) (.call 49 (dO ah aA aT))))⟩
noncomputable def NH:Fn:=⟨"slider_attacks",["geo","kind","square","occupied"],4,qP (.bh (aL aA iQ) (aX (.ret (.call 49 (dO ah aT bI)))) .nil) (.bh (aL aA jm) (aX (.ret (.call 48 (dO ah aT bI)))) .nil) (.bh (aL aA qR) (aX (.ret (.call 50 (dO ah aT bI)))) .nil) (.ret a0)⟩
noncomputable def NG:Fn:=⟨"piece_attacks",["geo","side","kind","square","occupied"],5,qP (.bh (aL aT aH) (aX (.ret (.sub (.sub (.attr ah 15) aA) bI))) .nil) (.bh (aL aT dH) (aX (.ret (.sub (.attr ah 14) bI))) .nil) (.bh (aL aT uz) (aX (.ret (.sub (.attr ah 13) bI))) .nil) (.ret (.call 51 (f6 ah aT bI bZ)))⟩
noncomputable def NF:Fn:=⟨"straight_sliders",["pos"],1,aX (.ret (dY (.sub (.attr ah 21) jm) (.sub (.attr ah 21) qR)))⟩
noncomputable def ND:Fn:=⟨"slanting_sliders",["pos"],1,aX (.ret (dY (.sub (.attr ah 21) iQ) (.sub (.attr ah 21) qR)))⟩
noncomputable def NC:Fn:=⟨"pawn_attackers",["pos","square","side"],3,aX (.ret (aB (aB (.sub (.sub (.attr (.attr ah 18) 15) (aF aH aT)) aA) (.sub (.attr ah 21) aH)) (.sub (.attr ah 22) aT)))⟩
noncomputable def NB:Fn:=⟨"step_attackers",["pos","square","side","geo","near"],3,qP (.asg 3 (.attr ah 18)) (.asg 4 (aB (.sub (.attr bI 14) aA) (.sub (.attr ah 21) dH))) (.aug 4 .or (aB (.sub (.attr bI 13) aA) (.sub (.attr ah 21) uz))) (.ret (dY (.call 55 (dO ah aA aT)) (aB bZ (.sub (.attr ah 22) aT))))⟩
noncomputable def NA:Fn:=⟨"line_attackers",["pos","square","occupied","hits","straight","slanting"],3,yX (.asg 3 a0) (.asg 4 (.call 53 (bB ah))) (.bh bZ (aX (.aug 3 .or (aB (.call 48 (dO (.attr ah 18) aA aT)) bZ))) .nil) (.asg 5 (.call 54 (bB ah))) (.bh c8 (aX (.aug 3 .or (aB (.call 49 (dO (.attr ah 18) aA aT)) c8))) .nil) (.ret bI)⟩
noncomputable def Nz:Fn:=⟨"attackers_to",["pos","square","occupied","steps"],3,Bz2 (.asg 3 (dY (.call 56 (dO ah aA a0)) (.call 56 (dO ah aA aH)))) (.ret (dY bI (.call 57 (dO ah aA aT))))⟩
noncomputable def Ny:Fn:=⟨"is_attacked",["pos","square","side","occupied","geo","own","straight","slanting"],4,B9 (.bh (.call 56 (dO ah aA aT)) (aX (.ret (.bz true))) .nil) (.asg 4 (.attr ah 18)) (.asg 5 (.sub (.attr ah 22) aT)) (.asg 6 (aB (.call 53 (bB ah)) c8)) (.bh (.dZ (bU cU (aB (.call 48 (dO bZ aA bI)) cU))) (aX (.ret (.bz true))) .nil) (.asg 7 (aB (.call 54 (bB ah)) c8)) (.ret (.dZ (bU (dC dS a0) (dC (aB (.call 49 (dO bZ aA bI)) dS) a0))))⟩
noncomputable def Nx:Fn:=⟨"checkers_of",["pos","side","everything"],2,Bz2 (.asg 2 (dY (.sub (.attr ah 22) a0) (.sub (.attr ah 22) aH))) (.ret (aB (.call 58 (dO ah (.call 30 (bU ah aA)) aT)) (.sub (.attr ah 22) (aF aH aA))))⟩
noncomputable def Nw:Fn:=⟨"checkers",["pos"],1,aX (.ret (.call 60 (bU ah (.attr ah 3))))⟩
noncomputable def Nv:Fn:=⟨"in_check_of",["pos","side","everything"],2,Bz2 (.asg 2 (dY (.sub (.attr ah 22) a0) (.sub (.attr ah 22) aH))) (.ret (.call 59 (f6 ah (.call 30 (bU ah aA)) (aF aH aA) aT)))⟩
noncomputable def Nu:Fn:=⟨"in_check",["pos"],1,aX (.ret (.call 62 (bU ah (.attr ah 3))))⟩
noncomputable def Nt:Fn:=⟨"snipers_of",["pos","side","king","hits"],2,qP (.asg 2 (.call 30 (bU ah aA))) (.asg 3 (aB (.call 48 (dO (.attr ah 18) aT a0)) (.call 53 (bB ah)))) (.aug 3 .or (aB (.call 49 (dO (.attr ah 18) aT a0)) (.call 54 (bB ah)))) (.ret (aB bI (.sub (.attr ah 22) (aF aH aA))))⟩
noncomputable def Nr:Fn:=⟨"blockers",["pos","side","king","snipers","standing","held","pinners","sniper","inside"],2,B9 (.asg 2 (.call 30 (bU ah aA))) (.asg 3 (.call 64 (bU ah aA))) (.asg 4 (fR (dY (.sub (.attr ah 22) a0) (.sub (.attr ah 22) aH)) bI)) (.asg 5 a0) (.asg 6 a0) (.cC 7 (.call 24 (bB bI)) (Bz2 (.asg 8 (aB (.call 44 (dO (.attr ah 18) aT dS)) bZ)) (.bh (.dZ (bU fg (.l7 (.call 21 (bB fg))))) (Bz2 (.aug 5 .or fg) (.bh (aB fg (.sub (.attr ah 22) aA)) (aX (.aug 6 .or (a9 aH dS))) .nil)) .nil))) (.ret (.tup (bU c8 cU)))⟩
noncomputable def Nq:Fn:=⟨"pinned_pieces",["pos","side"],2,aX (.ret (aB (.sub (.call 65 (bU ah aA)) a0) (.sub (.attr ah 22) aA)))⟩
noncomputable def Np:Fn:=⟨"squares_within",["a","b"],2,Bz2 (.bh (j3 ah aA) (aX (.ret (aF (a9 aH aA) (a9 dH ah)))) .nil) (.ret (aF (a9 aH ah) (a9 dH aA)))⟩
noncomputable def Nn:Fn:=⟨"castle_refusal",["pos","index","wing","king_from","king_to","rook_from","rook_to","whole","enemy"],2,vg (.asg 2 (.sub (.attr (.attr ah 18) 16) aA)) (.bh (.cmp .is aT .hG) (aX (.ret aH)) .nil) (.bh (aL (aB (.attr ah 2) (a9 aH aA)) a0) (aX (.ret dH)) .nil) (.mE [3,4,5,6] aT) (.asg 7 (.call 28 (bB ah))) (.bh (aB dS (.call 67 (bU bI c8))) (aX (.ret iQ)) .nil) (.asg 8 (aF aH (cJ aA aH))) (.bh (.call 59 (f6 ah bI fg dS)) (aX (.ret jm)) .nil) (pN (.bh (.call 59 (f6 ah cU fg dS)) (aX (.ret qR)) .nil) (.bh (.call 59 (f6 ah bZ fg dS)) (aX (.ret uz)) .nil) (.ret a0))⟩
noncomputable def Nm:Fn:=⟨"add_castling",["pos","out","index","king_from","king_to","rook_from","rook_to"],2,aX (.cC 2 (.lst (bU (aY dH (.attr ah 3)) (aV (aY dH (.attr ah 3)) aH))) (aX (.bh (aL (.call 68 (bU ah aT)) a0) (Bz2 (.mE [3,4,5,6] (.sub (.attr (.attr ah 18) 16) aT)) (.aG (.append aA (.call 3 (f6 bI bZ iQ a0))))) .nil)))⟩
noncomputable def Nl:Fn:=⟨"add_goals",["origin","goals","out","goal"],3,aX (.cC 3 (.call 24 (bB aA)) (aX (.aG (.append aT (.call 3 (f6 ah bI a0 a0))))))⟩
noncomputable def Nk:Fn:=⟨"add_piece_moves",["pos","kind","target","out","whole","origin","reach"],4,Bz2 (.asg 4 (.call 28 (bB ah))) (.cC 5 (.call 24 (bB (.call 29 (dO ah (.attr ah 3) aA)))) (Bz2 (.asg 6 (.call 52 (IW (.attr ah 18) (.attr ah 3) aA c8 bZ))) (.aG (.call 70 (dO c8 (aB cU aT) bI)))))⟩
noncomputable def Nj:Fn:=⟨"stage_target",["pos","stage"],2,pN (.bh (aL aA a0) (aX (.ret (.sub (.attr ah 22) (aF aH (.attr ah 3))))) .nil) (.bh (aL aA aH) (aX (.ret (aB (.attr (.attr ah 18) 7) (.inv (.call 28 (bB ah)))))) .nil) (.ret (aB (.attr (.attr ah 18) 7) (.inv (.sub (.attr ah 22) (.attr ah 3)))))⟩
noncomputable def Ni:Fn:=⟨"push_step",["geo","side"],2,Bz2 (.bh (aL aA a0) (aX (.ret (.attr ah 4))) .nil) (.ret (.neg (.attr ah 4)))⟩
noncomputable def Nh:Fn:=⟨"start_mask",["geo","side"],2,Bz2 (.bh (aL aA a0) (aX (.ret (.sub (.attr ah 11) aH))) .nil) (.ret (.sub (.attr ah 11) (aF (.attr ah 5) dH)))⟩
noncomputable def Ng:Fn:=⟨"last_mask",["geo","side"],2,Bz2 (.bh (aL aA a0) (aX (.ret (.sub (.attr ah 11) (aF (.attr ah 5) aH)))) .nil) (.ret (.sub (.attr ah 11) a0))⟩
noncomputable def Nf:Fn:=⟨"shift_push",["geo","b","side"],3,Bz2 (.bh (aL aT a0) (aX (.ret (aB (a9 aA (.attr ah 4)) (.attr ah 7)))) .nil) (.ret (cJ aA (.attr ah 4)))⟩
noncomputable def Nc:Fn:=⟨"shift_capture",["geo","b","side","wing"],4,Bz2 (.bh (aL bI a0) (aX (.ret (a9 (.call 76 (dO ah (aB aA (.inv (.sub (.attr ah 10) (aF (.attr ah 4) aH)))) aT)) aH))) .nil) (.ret (cJ (.call 76 (dO ah (aB aA (.inv (.sub (.attr ah 10) a0))) aT)) aH))⟩
noncomputable def Nb:Fn:=⟨"push_targets",["pos","side","geo","empty","pawns","ones","twos","passed"],2,B9 (.asg 2 (.attr ah 18)) (.asg 3 (aB (.attr aT 7) (.inv (.call 28 (bB ah))))) (.asg 4 (.call 29 (dO ah aA aH))) (.asg 5 (aB (.call 76 (dO aT bZ aA)) bI)) (.asg 6 a0) (.bh (.attr aT 8) (Bz2 (.asg 7 (aB (.call 76 (dO aT (aB bZ (.call 74 (bU aT aA))) aA)) bI)) (.asg 6 (aB (.call 76 (dO aT dS aA)) bI))) .nil) (.ret (.tup (bU c8 cU)))⟩
noncomputable def M9:Fn:=⟨"add_promotions",["origin","to","stage","is_capture","out","with_lesser","kind"],5,pN (.bh (dC aT aH) (aX (.aG (.append bZ (.call 3 (f6 ah aA aH qR))))) .nil) (.bh (aL aT a0) (aX (.asg 5 bI)) (aX (.bh (aL aT aH) (aX (.asg 5 (.l7 bI))) (aX (.asg 5 (.bz true)))))) (.bh c8 (aX (.cC 6 (.lst (dO jm iQ dH)) (aX (.aG (.append bZ (.call 3 (f6 ah aA aH cU))))))) .nil)⟩
noncomputable def M8:Fn:=⟨"add_plain_pushes",["pos","target","out","geo","step","ones","twos","goal"],3,yY (.asg 3 (.attr ah 18)) (.asg 4 (.call 73 (bU bI (.attr ah 3)))) (.mE [5,6] (.call 78 (bU ah (.attr ah 3)))) (.cC 7 (.call 24 (bB (aB (aB c8 aA) (.inv (.call 75 (bU bI (.attr ah 3))))))) (aX (.aG (.append aT (.call 3 (f6 (aF dS bZ) dS a0 a0)))))) (.cC 7 (.call 24 (bB (aB cU aA))) (aX (.aG (.append aT (.call 3 (f6 (aF dS (aY dH bZ)) dS a0 a0))))))⟩
noncomputable def M7:Fn:=⟨"add_push_promotions",["pos","stage","target","out","geo","step","ones","goal"],4,qP (.asg 4 (.attr ah 18)) (.asg 5 (.call 73 (bU bZ (.attr ah 3)))) (.asg 6 (.sub (.call 78 (bU ah (.attr ah 3))) a0)) (.cC 7 (.call 24 (bB (aB (aB cU aT) (.call 75 (bU bZ (.attr ah 3)))))) (aX (.aG (.call 79 (IW (aF dS c8) dS aA (.bz false) bI)))))⟩
noncomputable def M6:Fn:=⟨"add_pawn_captures",["pos","stage","target","out","geo","side","last","pawns","hits","wing","step","goal"],4,yX (.asg 4 (.attr ah 18)) (.asg 5 (.attr ah 3)) (.asg 6 (.call 75 (bU bZ c8))) (.asg 7 (.call 29 (dO ah c8 aH))) (.asg 8 (aB aT (.sub (.attr ah 22) (aF aH c8)))) (.cC 9 (.lst (bU a0 aH)) (Bz2 (.asg 10 (aF (aV (.call 73 (bU bZ c8)) aH) (aY dH lu))) (.cC 11 (.call 24 (bB (aB (.call 77 (f6 bZ dS c8 lu)) fg))) (aX (.bh (aB cU (a9 aH dk)) (aX (.aG (.call 79 (IW (aF dk gx) dk aA (.bz true) bI)))) (aX (.aG (.append bI (.call 3 (f6 (aF dk gx) dk a0 a0))))))))))⟩
noncomputable def M5:Fn:=⟨"add_pawn_moves",["pos","stage","target","out"],4,pN (.bh (dC aA a0) (aX (.aG (.call 80 (dO ah aT bI)))) .nil) (.aG (.call 81 (f6 ah aA aT bI))) (.bh (dC aA aH) (aX (.aG (.call 82 (f6 ah aA aT bI)))) .nil)⟩
noncomputable def M4:Fn:=⟨"add_en_passant",["pos","out","origins","origin"],2,pN (.bh (j3 (.attr ah 1) a0) (aX .zK) .nil) (.asg 2 (aB (.sub (.sub (.attr (.attr ah 18) 15) (aF aH (.attr ah 3))) (.attr ah 1)) (.call 29 (dO ah (.attr ah 3) aH)))) (.cC 3 (.call 24 (bB aT)) (aX (.aG (.append aA (.call 3 (f6 bI (.attr ah 1) dH a0))))))⟩
noncomputable def M3:Fn:=⟨"evasion_targets",["pos","given"],2,Bz2 (.bh (.tm (bU (aL aA a0) (.call 21 (bB aA)))) (aX (.ret a0)) .nil) (.ret (dY aA (.call 44 (dO (.attr ah 18) (.call 30 (bU ah (.attr ah 3))) (.call 23 (bB aA))))))⟩
noncomputable def M0:Fn:=⟨"passed_pawn_square",["pos"],1,Bz2 (.bh (aL (.attr ah 3) a0) (aX (.ret (aF (.attr ah 1) (.attr (.attr ah 18) 4)))) .nil) (.ret (aV (.attr ah 1) (.attr (.attr ah 18) 4)))⟩
noncomputable def MZ:Fn:=⟨"may_answer_en_passant",["pos","target"],2,Bz2 (.bh (j3 (.attr ah 1) a0) (aX (.ret (.bz false))) .nil) (.ret (dC (aB aA (dY (a9 aH (.attr ah 1)) (a9 aH (.call 86 (bB ah))))) a0))⟩
noncomputable def MY:Fn:=⟨"add_evasions",["pos","out","target","kind"],2,pN (.asg 2 (.call 85 (bU ah (.call 61 (bB ah))))) (.bh aT (pN (.aG (.call 83 (f6 ah iQ aT aA))) (.bh (.call 87 (bU ah aT)) (aX (.aG (.call 84 (bU ah aA)))) .nil) (.cC 3 (.lst (f6 dH iQ jm qR)) (aX (.aG (.call 71 (f6 ah bI aT aA)))))) .nil) (.aG (.call 71 (f6 ah uz (aB (.attr (.attr ah 18) 7) (.inv (.sub (.attr ah 22) (.attr ah 3)))) aA)))⟩
noncomputable def PY:Fn:=⟨"taken_square_legality",["pos","move","goal"],2,qP (.asg 2 (.call 5 (bB aA))) (.bh (dC (.call 6 (bB aA)) dH) (aX (.ret aT)) .nil) (.bh (aL (.attr ah 3) a0) (aX (.ret (aF aT (.attr (.attr ah 18) 4)))) .nil) (.ret (aV aT (.attr (.attr ah 18) 4)))⟩
noncomputable def MX:Fn:=⟨"is_safe_en_passant",["pos","move","taken","goal","everything","behind","hits"],2,yX (.asg 2 (a9 aH (.call 89 (bU ah aA)))) (.asg 3 (a9 aH (.call 5 (bB aA)))) (.asg 4 (dY (.sub (.attr ah 22) a0) (.sub (.attr ah 22) aH))) (.asg 5 (dY (fR (fR bZ (a9 aH (.call 4 (bB aA)))) aT) bI)) (.asg 6 (.call 58 (dO ah (.call 30 (bU ah (.attr ah 3))) c8))) (.ret (aL (aB (aB cU (.sub (.attr ah 22) (aF aH (.attr ah 3)))) (.inv aT)) a0))⟩
noncomputable def MW:Fn:=⟨"is_legal",["pos","move","pinned","special","origin","goal","king","lifted"],3,IV (.asg 3 (.call 6 (bB aA))) (.bh (aL bI iQ) (aX (.ret (.bz true))) .nil) (.bh (aL bI dH) (aX (.ret (.call 90 (bU ah aA)))) .nil) (.asg 4 (.call 4 (bB aA))) (.asg 5 (.call 5 (bB aA))) (.asg 6 (.call 30 (bU ah (.attr ah 3)))) (.bh (aL bZ cU) (Bz2 (.asg 7 (fR (dY (.sub (.attr ah 22) a0) (.sub (.attr ah 22) aH)) (a9 aH cU))) (.ret (.l7 (.call 59 (f6 ah c8 (aF aH (.attr ah 3)) dS))))) .nil) (.bh (aL (aB (cJ aT bZ) aH) a0) (aX (.ret (.bz true))) .nil) (.ret (.call 46 (f6 (.attr ah 18) bZ c8 cU)))⟩
noncomputable def MV:Fn:=⟨"generate",["pos","stage","out","target","kind"],2,Me (.asg 2 (.lst .nil)) (.bh (aL aA iQ) (Bz2 (.aG (.call 88 (bU ah aT))) (.ret aT)) .nil) (.asg 3 (.call 72 (bU ah aA))) (.aG (.call 83 (f6 ah aA (.attr (.attr ah 18) 7) aT))) (.bh (dC aA aH) (aX (.aG (.call 84 (bU ah aT)))) .nil) (.cC 4 (.lst (IW dH iQ jm qR uz)) (aX (.aG (.call 71 (f6 ah bZ bI aT))))) (.bh (dC aA a0) (aX (.aG (.call 69 (bU ah aT)))) .nil) (.ret aT)⟩
noncomputable def MU:Fn:=⟨"pseudo_moves",["pos"],1,Bz2 (.bh (.call 63 (bB ah)) (aX (.ret (.call 92 (bU ah iQ)))) .nil) (.ret (.call 92 (bU ah dH)))⟩
noncomputable def MT:Fn:=⟨"keep_legal",["pos","moves","pinned","out","move"],2,qP (.asg 2 (.call 66 (bU ah (.attr ah 3)))) (.asg 3 (.lst .nil)) (.cC 4 aA (aX (.bh (.call 91 (dO ah bZ aT)) (aX (.aG (.append bI bZ))) .nil))) (.ret bI)⟩
noncomputable def MS:Fn:=⟨"legal_moves",["pos"],1,aX (.ret (.call 94 (bU ah (.call 93 (bB ah)))))⟩
noncomputable def PX:Fn:=⟨"_law_shapes",[],0,aX (.ret (.lst (dO (.tup (f6 jm qR (.bz true) (.bz false))) (.tup (f6 E4 iQ (.bz false) (.bz true))) (.tup (f6 qR qR (.bz true) (.bz false))))))⟩
noncomputable def MR:Fn:=⟨"_law_at",["script","k"],2,aX (.ret (.AD (j3 aA (.bi .len (bB ah))) (.sub ah aA) a0))⟩
noncomputable def Jd:Fn:=⟨"_law_hits",["cells","files","start","goal","man","df","dr","near","way","spot"],4,vg (.asg 4 (bY (.sub ah aT) kZ)) (.asg 5 (aF (bY bI aA) (bY aT aA))) (.asg 6 (aF (bK bI aA) (bK aT aA))) (.asg 7 (.bi .sorted (bB (.lst (bU (.bi .abs (bB c8)) (.bi .abs (bB cU))))))) (.bh (aL bZ aH) (aX (.ret (.dZ (bU (aL (.bi .abs (bB c8)) aH) (aL cU (.AD (jv (.sub ah aT) kZ) (.neg aH) aH)))))) .nil) (.bh (aL bZ dH) (aX (.ret (aL dS (.lst (bU aH dH))))) .nil) (.bh (aL bZ uz) (aX (.ret (aL (.sub dS aH) aH))) .nil) (.bh (.tm (bU (aL (.sub dS aH) a0) (.cmp .notin (.sub dS a0) (.tup (bU a0 (.sub dS aH)))))) (aX (.ret (.bz false))) .nil) (yY (.bh (.tm (bU (.dZ (bU (aL bZ iQ) (aL (.sub dS a0) a0))) (.dZ (bU (aL bZ jm) (jv (.sub dS a0) a0))))) (aX (.ret (.bz false))) .nil) (.asg 8 (aV (aY (bK cU (.sub dS aH)) aA) (bK c8 (.sub dS aH)))) (.asg 9 (aV aT fg)) (.gT (dC lu bI) (Bz2 (.bh (dC (.sub ah lu) a0) (aX (.ret (.bz false))) .nil) (.aug 9 .add fg))) (.ret (.bz true)))⟩
noncomputable def L5:Fn:=⟨"_law_beside",["cells","files","spot","man"],4,Bz2 (.bh (.dZ (bU (jv (bY aT aA) a0) (aL (.sub ah (aF aT aH)) bI))) (aX (.ret (.bz true))) .nil) (.ret (.dZ (bU (j3 (bY aT aA) (aF aA aH)) (aL (.sub ah (aV aT aH)) bI))))⟩
noncomputable def IQ:Fn:=⟨"_law_passed",["cells","who","files","ranks","way","f","spot"],4,pN (.asg 4 (.AD (aL aA aH) (.neg aT) aT)) (.cC 5 (.bi .range (bB aT)) (Bz2 (.asg 6 (aV (aY (.AD (aL aA aH) dH (aF bI iQ)) aT) c8)) (.bh (.dZ (dO (aL (.sub ah cU) a0) (aL (.sub ah (aV cU bZ)) a0) (aL (.sub ah (aF cU bZ)) (aF (.bC 9) (aY kZ aA))))) (aX (.bh (.call 99 (f6 ah aT (aF cU bZ) (aV (aY kZ aA) aH))) (aX (.ret cU)) .nil)) .nil))) (.ret (.neg aH))⟩
noncomputable def IK:Fn:=⟨"_law_kings",["script","files","ranks","wings","size","cells","n","rights","i","home","k","spot"],4,IV (.asg 4 (aY aA aT)) (.asg 5 (aY (.lst (bB a0)) bZ)) (.asg 6 (.call 97 (bU ah aH))) (.asg 7 a0) (.bh (.dZ (bU bI (aL (bY cU dH) a0))) (yY (.eS c8 (bK aA dH) uz) (.eS c8 (aV (aF bZ aA) (bK aA dH)) uA) (.asg 7 (bY (bK cU dH) (.bC 16))) (.cC 8 (.bi .range (bB jm)) (aX (.bh (aB (cJ dS fg) aH) (aX (.eS c8 (aV (aY (bK fg dH) (aF bZ aA)) (.AD (aL (bY fg dH) aH) a0 (aF aA aH))) (aV (aY (bK fg dH) kZ) jm))) .nil))) (.ret (.tup (bU c8 dS)))) .nil) (.asg 9 (bY cU bZ)) (.eS c8 lu uz) (.cC 10 (.bi .range (bB bZ)) (Bz2 (.asg 11 (bY (aV (bK cU bZ) gx) bZ)) (.bh (jv (.bi .max (bU (.bi .abs (bB (aF (bY dk aA) (bY lu aA)))) (.bi .abs (bB (aF (bK dk aA) (bK lu aA)))))) aH) (Bz2 (.eS c8 dk uA) (.ret (.tup (bU c8 dS)))) .nil))) (.ret (.tup (bU c8 dS)))⟩
noncomputable def IJ:Fn:=⟨"_law_draw",["script","files","ranks","double","wings","size","cells","rights","who","n","spot","code","outer","ep"],5,B9 (.asg 5 (aY aA aT)) (.mE [6,7] (.call 101 (f6 ah aA aT bZ))) (.asg 8 (bY (.call 97 (bU ah dH)) dH)) (.cC 9 (.slice ah iQ E4) (qP (.asg 10 (bY lu c8)) (.asg 11 (bY (bK lu c8) (.bC 10))) (.asg 12 (.cmp .inn (bK gx aA) (.tup (bU a0 (aF aT aH))))) (.bh (.dZ (bU (aL (.sub cU gx) a0) (.l7 (.dZ (bU (aL (bY dk qR) a0) vo))))) (Bz2 (.eS cU gx (aV (aV (aY (bK dk qR) kZ) (bY dk qR)) aH)) (.bh (.dZ (bU (aL (bK dk qR) fg) (.call 98 (f6 cU aA gx (.index cU (aF uA (aY kZ fg))))))) (aX (.eS cU gx a0)) .nil)) .nil))) (.asg 13 (.neg aH)) (.bh (.dZ (bU bI (aL (bY (bK (.call 97 (bU ah dH)) dH) dH) a0))) (aX (.asg 13 (.call 100 (f6 cU fg aA aT)))) .nil) (.ret (.tup (f6 cU fg dS mO)))⟩
noncomputable def II:Fn:=⟨"_law_play",["state","move","files","cells","who","rights","ep","start","goal","special","row","new","kept","i","first","corner"],3,vg (.mE [3,4,5,6] ah) (.asg 7 (bY (bK aA (.bC 64)) (.bC 64))) (.asg 8 (bY aA (.bC 64))) (.asg 9 (bY (bK aA (.bC 16384)) jm)) (.asg 10 (aY (bK dS aT) aT)) (.asg 11 (.bi .list (bB bI))) (.eS dk dS a0) (.eS dk fg (.sub bI dS)) (IV (.bh (aL lu aH) (aX (.eS dk fg (aV (aV (aY bZ kZ) dH) (bY (bK aA (.bC 4096)) jm)))) .nil) (.bh (aL lu dH) (aX (.eS dk (aV gx (bY fg aT)) a0)) .nil) (.bh (.dZ (bU (aL lu iQ) (jv fg dS))) (Bz2 (.eS dk (aF (aV gx aT) aH) a0) (.eS dk (aF fg aH) (aV (aY bZ kZ) jm))) .nil) (.bh (.dZ (bU (aL lu iQ) (j3 fg dS))) (Bz2 (.eS dk gx a0) (.eS dk (aV fg aH) (aV (aY bZ kZ) jm))) .nil) (.asg 12 a0) (.cC 13 (.bi .range (bB jm)) (pN (.asg 14 (aY (bK mO dH) (aF (.bi .len (bB bI)) aT))) (.asg 15 (.AD (aL (bY mO dH) aH) qX (aF (aV qX aT) aH))) (.bh (.dZ (dO (aB (cJ c8 mO) aH) (aL (.sub dk (aV qX (bK aT dH))) (aV (aY (bK mO dH) kZ) uz)) (aL (.sub dk Jp) (aV (aY (bK mO dH) kZ) jm)))) (aX (.aug 12 .add (a9 aH mO))) .nil))) (.asg 6 (.neg aH)) (.bh (.dZ (dO (aL (bY (.sub bI dS) kZ) aH) (aL (.bi .abs (bB (aF fg dS))) (aY dH aT)) (.call 99 (f6 dk aT fg (aF (.bC 9) (aY kZ bZ)))))) (aX (.asg 6 (bK (aV fg dS) dH))) .nil) (.ret (.tup (f6 dk (aF aH bZ) vo cU))))⟩
noncomputable def Ma:Fn:=⟨"_law_sum",["state","files","cells","who","rights","ep","size","total"],2,yX (.mE [2,3,4,5] ah) (.asg 6 (.bi .len (bB aT))) (.asg 7 (a9 bZ (aY qr cU))) (.bh (pC c8 a0) (aX (.aug 7 .add (a9 aH (aV (aV (aY qr cU) jm) (bY c8 aA))))) .nil) (.bh (aL bI aH) (aX (.aug 7 .add (a9 aH (aV (aV (aY qr cU) jm) aA)))) .nil) (.ret (aV dS (.bi .sum (bB (.comp [none,some 2,some 6] (.bi .range (bB cU)) (dC (.sub aA ah) a0) (a9 aH (aV (aY (.sub aA ah) aT) ah)))))))⟩
noncomputable def L9:Fn:=⟨"_law_agrees",["pos","state","files","cells","size","whole","who","others"],3,B9 (.asg 3 (.sub aA a0)) (.asg 4 (.bi .len (bB bI))) (.asg 5 (.call 104 (bU aA aT))) (.bh (.tm (dO (dC (.attr ah 20) bI) (dC (.attr ah 24) c8) (dC (.call 9 (bB ah)) c8))) (aX (.ret (.bz false))) .nil) (.bh (dC (.call 10 (bB ah)) (.bi .sum (bB (.comp [none,some 3,some 4] (.bi .range (bB bZ)) (aL (bY (.sub aA ah) kZ) aH) (a9 aH (aV (aY (.sub aA ah) aT) ah)))))) (aX (.ret (.bz false))) .nil) (.cC 6 (.tup (bU a0 aH)) (Bz2 (.asg 7 (.comp [none,some 3,some 4,some 6] (.bi .range (bB bZ)) (.dZ (bU (jv (bY (.sub aA ah) kZ) aH) (aL (bK (.sub aA ah) kZ) bI))) (a9 aH (aV (aY (.sub aA ah) aT) ah)))) (.bh (dC (.call 11 (bU ah cU)) (.bi .sum (bB dS))) (aX (.ret (.bz false))) .nil))) (.ret (aL (.call 12 (bB ah)) (.bi .sum (bB (.comp [none,some 3,some 4] (.bi .range (bU aH qr)) (.bz true) (a9 (aF (a9 aH (.count aA ah)) aH) (aY ah aT)))))))⟩
noncomputable def L8:Fn:=⟨"_law_position",["geo","state","files","size","s","rows","base","zob","pos"],3,vg (.asg 3 (.bi .len (bB (.sub aA a0)))) (.asg 5 (.comp [none,some 3] (.bi .range (bB qr)) (.bz true) (.comp [none,some 0,some 1] (.bi .range (bB aA)) (.bz true) (a9 aH (aV (aY aA aT) ah))))) (.asg 6 (aY qr bI)) (.asg 7 (.new 0 (f6 c8 (.comp [none,some 6] (.bi .range (bB aT)) (.bz true) (a9 aH (aV (aV aA jm) ah))) (.comp [none,some 6] (.bi .range (bB (.bC 16))) (.bz true) (a9 ah aA)) (a9 aH (aV (aV cU jm) aT))))) (.asg 8 (.new 2 (bU ah dS))) (.cC 4 (.bi .range (bB bI)) (aX (.bh (dC (.sub (.sub aA a0) bZ) a0) (aX (.aG (.call 25 (dO fg (.sub (.sub aA a0) bZ) bZ)))) .nil))) (.cj fg 3 (.sub aA aH)) (.cj fg 2 (.sub aA dH)) (pN (.cj fg 1 (.sub aA iQ)) (.aG (.call 31 (bB fg))) (.ret fg))⟩
noncomputable def j9:Fn:=⟨"law",["script","files","ranks","double","wings","state","pos","states","moves","n","choices","move","told","last","k"],1,vg (.asg 0 (.slice ah .hG (.bC 24))) (.mE [1,2,3,4] (.sub (.call 96 .nil) (bY (.call 97 (bU ah a0)) iQ))) (.asg 5 (.call 102 (IW ah aA aT bI bZ))) (.asg 6 (.call 106 (dO (.call 20 (f6 aA aT bI bZ)) c8 aA))) (.bh (.l7 (.call 105 (dO cU c8 aA))) (aX (.ret (.bz false))) .nil) (.asg 7 (.lst (bB c8))) (.asg 8 (.lst .nil)) (.cC 9 (.slice (aV (.slice ah E4 (.bC 11)) (.lst (dO a0 a0 a0))) .hG jm) (IV (.asg 10 (.bi .sorted (bB (.call 95 (bB cU))))) (.bh (aL (.bi .len (bB gx)) a0) (aX .brk) .nil) (.asg 11 (.sub gx (bY lu (.bi .len (bB gx))))) (.asg 12 (.call 42 (bU cU dk))) (.aG (.call 40 (bU cU dk))) (.asg 5 (.call 103 (dO c8 dk aA))) (.bh (.tm (bU (dC vo (.attr cU 24)) (.l7 (.call 105 (dO cU c8 aA))))) (aX (.ret (.bz false))) .nil) (.aG (.append fg dk)) (.aG (.append dS c8)))) (yX (.asg 13 (.attr cU 24)) (.cC 14 (.bi .range (dO (aF (.bi .len (bB fg)) aH) (.neg aH) (.neg aH))) (Bz2 (.aG (.call 41 (bB cU))) (.bh (.tm (bU (dC (.attr cU 20) (.sub (.sub dS qX) a0)) (dC (.attr cU 24) (.call 104 (bU (.sub dS qX) aA))))) (aX (.ret (.bz false))) .nil))) (.bh (j3 (.bi .len (bB fg)) iQ) (aX (.ret (.bz true))) .nil) (.asg 5 (.sub dS a0)) (.cC 11 (aV (.lst (dO (.sub fg dH) (.sub fg aH) (.sub fg a0))) (.slice fg iQ .hG)) (qP (.bh (.cmp .notin dk (.call 95 (bB cU))) (aX (.ret (.bz true))) .nil) (.aG (.call 40 (bU cU dk))) (.asg 5 (.call 103 (dO c8 dk aA))) (.bh (.l7 (.call 105 (dO cU c8 aA))) (aX (.ret (.bz false))) .nil))) (.ret (aL (aL (.attr cU 24) mO) (aL c8 (.sub dS (.bi .len (bB fg)))))))⟩
noncomputable def IP:Fn:=⟨"Zobrist",["self","pieces","ep","rights","side"],5,qP (.cj ah 0 aA) (.cj ah 1 aT) (.cj ah 2 bI) (.cj ah 3 bZ)⟩
noncomputable def IM:Fn:=⟨"Geometry",["self","files","ranks","has_double","has_castling"],5,vg (.cj ah 4 aA) (.cj ah 5 aT) (.cj ah 6 (aY aA aT)) (.cj ah 7 (aF (a9 aH (aY aA aT)) aH)) (.cj ah 8 (.dZ (bU bI (pC aT qR)))) (.cj ah 9 bZ) (.cj ah 10 (.lst .nil)) (.cj ah 11 (.lst .nil)) (yX (.cj ah 12 (.lst .nil)) (.cj ah 13 (.lst .nil)) (.cj ah 14 (.lst .nil)) (.cj ah 15 (.lst (bU (.lst .nil) (.lst .nil)))) (.cj ah 16 (.lst .nil)) (.cj ah 17 (.lst .nil)))⟩
noncomputable def IL:Fn:=⟨"Position",["self","geo","zob"],3,vg (.cj ah 18 aA) (.cj ah 19 aT) (.cj ah 20 (aY (.lst (bB a0)) (.attr aA 6))) (.cj ah 21 (aY (.lst (bB a0)) E4)) (.cj ah 22 (.lst (bU a0 a0))) (.cj ah 3 a0) (.cj ah 2 a0) (.cj ah 1 (.neg aH)) (qP (.cj ah 23 a0) (.cj ah 7 aH) (.cj ah 24 a0) (.cj ah 25 (.lst .nil)))⟩
noncomputable def dK:List (Nat×Fn):=[(0,F0),(1,F1),(2,F2),(3,F3),(4,F4),(5,F5),(6,F6),(7,F7),(8,F8),(9,F9),(10,Ol),(11,Oj),(12,Oi),(13,Oh),(14,Og),(15,Of),(16,Oe),(17,Od),(18,Oc),(19,Oa),(20,N9),(21,N8),(22,N7),(23,N6),(24,N5),(25,N4),(26,N3),(27,N2),(28,N0),(29,NZ),(30,NY),(31,NX),(32,NW),(33,PZ),(34,NV),(35,NU),(36,NT),(37,NS),(38,NR),(39,NQ),(40,Je),(41,L7),(42,L6),(43,NP),(44,NO),(45,NN),(46,NM),(47,NL),(48,NK),(49,NJ),(50,NI),(51,NH),(52,NG),(53,NF),(54,ND),(55,NC),(56,NB),(57,NA),(58,Nz),(59,Ny),(60,Nx),(61,Nw),(62,Nv),(63,Nu),(64,Nt),(65,Nr),(66,Nq),(67,Np),(68,Nn),(69,Nm),(70,Nl),(71,Nk),(72,Nj),(73,Ni),(74,Nh),(75,Ng),(76,Nf),(77,Nc),(78,Nb),(79,M9),(80,M8),(81,M7),(82,M6),(83,M5),(84,M4),(85,M3),(86,M0),(87,MZ),(88,MY),(89,PY),(90,MX),(91,MW),(92,MV),(93,MU),(94,MT),(95,MS),(96,PX),(97,MR),(98,Jd),(99,L5),(100,IQ),(101,IK),(102,IJ),(103,II),(104,Ma),(105,L9),(106,L8),(107,j9),(1000,IP),(1001,IM),(1002,IL)]
noncomputable def code (k:Nat):Option Fn:=dK.lookup k
end
end Internal
end
section
open PySem PySem.W PySem.Calls PyProof.Rows
namespace Internal
noncomputable abbrev Im:=Addr->Option Obj
def Im.Le (T T':Im):Prop:=∀a o,T a=some o->T' a=some o
theorem Im.Le.refl (T:Im):T.Le T:=λ_ _ h=>h
theorem Im.Le.trans {T T' T'':Im} (a:T.Le T') (b:T'.Le T''):T.Le T'':=λ_ _ h=>b _ _ (a _ _ h)
mutual
inductive VR (T:Im):V->Value->Prop
 | none:VR T .none .none
 | bool (b:Bool):VR T (.bool b) (.bool b)
 | int (i:Int) (t:Tok):VR T (.int i) (.int i t)
 | ref (a:Addr):VR T (.ref a) (.ref a)
 | tup {a:Addr} {vals:List Value} {vs:List V}:T a=some { cls:=.type "tuple",data:=.seq vals.toArray }->vs.length<=1000->cG T vs vals->VR T (.tup vs) (.ref a)
 | nK {a:Addr} {o:Obj} {vals:List Value} {n:Nat} {vs:List V}:T a=some o->o.cls=.type "list"->o.data=.seq vals.toArray n->vs.length<=1000->cG T vs vals->VR T (.nK vs) (.ref a)
 | f7 {a b c:Int} {t u v:Tok} {r:Addr}:T r=some { cls:=.type "range",data:=.fields #[.int a t,.int b u,.int c v] }->Builtin.Range.small a b c=true->
  Builtin.Range.rangeSize a b c=(cq a b c:Int)->VR T (.f7 a b c) (.ref r)
inductive cG (T:Im):List V->List Value->Prop
 | nil:cG T [] []
 | cons {v:V} {x:Value} {vs:List V} {xs:List Value}:VR T v x->cG T vs xs->cG T (v::vs) (x::xs)
end
section
variable {T:Im} {x:Value} {xs:List Value} {v u y:V}
@[elab_as_elim] theorem VR.ei {i:Int} {P:Value->Prop} (h:VR T (.int i) x) (k:∀t,P (.int i t)):P x:=by cases h;exact k _
@[elab_as_elim] theorem VR.er {a:Addr} {P:Value->Prop} (h:VR T (.ref a) x) (k:P (.ref a)):P x:=by cases h;exact k
@[elab_as_elim] theorem VR.eb {b:Bool} {P:Value->Prop} (h:VR T (.bool b) x) (k:P (.bool b)):P x:=by cases h;exact k
@[elab_as_elim] theorem VR.en {P:Value->Prop} (h:VR T .none x) (k:P .none):P x:=by cases h;exact k
@[elab_as_elim] theorem VR.et {vs:List V} {P:Value->Prop} (h:VR T (.tup vs) x) (k:∀a vals,T a=some { cls:=.type "tuple",data:=.seq vals.toArray }->vs.length<=1000->cG T vs vals->P (.ref a)):P x:=by
 cases h with
 | tup a b c=>exact k _ _ a b c
@[elab_as_elim] theorem VR.ef {vs:List V} {P:Value->Prop} (h:VR T (.nK vs) x) (k:∀a o vals n,T a=some o->o.cls=.type "list"->o.data=.seq vals.toArray n->vs.length<=1000->cG T vs vals->P (.ref a)):P x:=by
 cases h with
 | nK a b c d e=>exact k _ _ _ _ a b c d e
theorem VR.Mz (h:VR T v x):(x ==.none)=isNone v:=by cases h<;>rfl
theorem cG.one (h:cG T [v] xs):∃x,xs=[x]/\VR T v x:=by
 cases h with
 | cons a b=>cases b;exact ⟨_,rfl,a⟩
theorem cG.two (h:cG T [v,u] xs):∃x y,xs=[x,y]/\VR T v x/\VR T u y:=by
 cases h with
 | cons a b=>
  obtain ⟨y,rfl,c⟩:=b.one;exact ⟨_,_,rfl,a,c⟩
theorem cG.three (h:cG T [v,u,y] xs):∃a b c,xs=[a,b,c]/\VR T v a/\VR T u b/\VR T y c:=by
 cases h with
 | cons a b=>
  obtain ⟨y,z,rfl,c,d⟩:=b.two;exact ⟨_,_,_,rfl,a,c,d⟩
@[elab_as_elim] theorem cG.e1 {P:List Value->Prop} (h:cG T [v] xs) (k:∀x,VR T v x->P [x]):P xs:=by obtain ⟨x,rfl,a⟩:=h.one;exact k x a
@[elab_as_elim] theorem cG.e2 {P:List Value->Prop} (h:cG T [v,u] xs) (k:∀x y,VR T v x->VR T u y->P [x,y]):P xs:=by obtain ⟨x,y,rfl,a,b⟩:=h.two;exact k x y a b
@[elab_as_elim] theorem cG.e3 {P:List Value->Prop} (h:cG T [v,u,y] xs) (k:∀a b c,VR T v a->VR T u b->VR T y c->P [a,b,c]):P xs:=by obtain ⟨a,b,c,rfl,p,q,r⟩:=h.three;exact k a b c p q r
end
def PV (o:Obj):Prop:=o.cls=.type "tuple"\/o.cls=.type "range"\/o.cls=.type "list"
abbrev yV (T T':Im):Prop:=∀a o,T a=some o->PV o->T' a=some o
theorem VR.map {T T':Im} (h:yV T T') {v:V} {x:Value} (r:VR T v x):VR T' v x:=
 VR.rec (motive_1:=λv x _=>VR T' v x) (motive_2:=λvs xs _=>cG T' vs xs) .none .bool .int .ref (λe l _ ih=>.tup (h _ _ e (.inl rfl)) l ih) (λe c d l _ ih=>.nK (h _ _ e (.inr (.inr c))) c d l ih) (λe s q=>.f7 (h _ _ e (.inr (.inl rfl))) s q) .nil (λ_ _ a b=>.cons a b) r
theorem cG.ind {T:Im} {P:List V->List Value->Prop} (n:P [] []) (c:∀{v x vs xs},VR T v x->cG T vs xs->P vs xs->P (v::vs) (x::xs)) {vs:List V} {xs:List Value} (h:cG T vs xs):P vs xs:=
 cG.rec (motive_1:=λ_ _ _=>True) (motive_2:=λvs xs _=>P vs xs) trivial (λ_=>trivial) (λ_ _=>trivial) (λ_=>trivial) (λ_ _ _ _=>trivial) (λ_ _ _ _ _ _=>trivial) (λ_ _ _=>trivial) n (λa b _ ih=>c a b ih) h
theorem cG.map {T T':Im} (h:yV T T') {v:List V} {x:List Value} (r:cG T v x):cG T' v x:=r.ind (P:=cG T') .nil λa _ ih=>.cons (a.map h) ih
theorem VR.mono {T T':Im} (h:T.Le T') {v:V} {x:Value} (r:VR T v x):VR T' v x:=r.map λa o e _=>h a o e
theorem cG.mono {T T':Im} (h:T.Le T') {v:List V} {x:List Value} (r:cG T v x):cG T' v x:=r.map λa o e _=>h a o e
theorem cG.length {T:Im} {v:List V} {x:List Value} (h:cG T v x):v.length=x.length:=h.ind (P:=λv x=>v.length=x.length) rfl λ_ _ ih=>congrArg (·+1) ih
theorem cG.get {T:Im} {vs:List V} {xs:List Value} {i:Nat} {v:V} (h:cG T vs xs):vs[i]?=some v->∃x,xs[i]?=some x/\VR T v x:=
 h.ind (P:=λvs xs=>∀i,vs[i]?=some v->∃x,xs[i]?=some x/\VR T v x) (λ_ e=>by cases e) (λa _ ih i e=>by
  cases i with
  | zero=>cases e;exact ⟨_,rfl,a⟩
  | succ i=>exact ih i e) i
theorem cG.append {T:Im} {vs ws:List V} {xs ys:List Value} (h:cG T vs xs) (k:cG T ws ys):cG T (vs++ws) (xs++ys):=
 h.ind (P:=λvs xs=>cG T (vs++ws) (xs++ys)) k λa _ ih=>.cons a ih
theorem cG.set {T:Im} {v:V} {x:Value} (hv:VR T v x) {vs:List V} {xs:List Value} (i:Nat) (h:cG T vs xs):cG T (vs.set i v) (xs.set i x):=
 h.ind (P:=λvs xs=>∀i,cG T (vs.set i v) (xs.set i x)) (λ_=>.nil) (λa b ih i=>by
  cases i with
  | zero=>exact .cons hv b
  | succ i=>exact .cons a (ih i)) i
theorem cG.take {T:Im} {vs:List V} {xs:List Value} (n:Nat) (h:cG T vs xs):cG T (vs.take n) (xs.take n):=
 h.ind (P:=λvs xs=>∀n,cG T (vs.take n) (xs.take n)) (λn=>by cases n<;>exact .nil) (λa _ ih n=>by
  cases n with
  | zero=>exact .nil
  | succ n=>exact .cons a (ih n)) n
theorem cG.drop {T:Im} {vs:List V} {xs:List Value} (n:Nat) (h:cG T vs xs):cG T (vs.drop n) (xs.drop n):=
 h.ind (P:=λvs xs=>∀n,cG T (vs.drop n) (xs.drop n)) (λn=>by cases n<;>exact .nil) (λa b ih n=>by
  cases n with
  | zero=>exact .cons a b
  | succ n=>exact ih n) n
theorem cG.replicate {T:Im} {v:V} {x:Value} (h:VR T v x):∀n,cG T (List.replicate n v) (List.replicate n x)
 | 0=>.nil
 | n+1=>.cons h (cG.replicate h n)
noncomputable def an (n:Nat):Str:=attrs.getD n (Str.ofString "?")
inductive DR (T:Im):List (Nat×V)->List DictEntry->Prop
 | nil:DR T [] []
 | cons {n:Nat} {v:V} {hs:Int} {t:Tok} {x:Value} {fs:List (Nat×V)} {es:List DictEntry}:n<attrs.length->VR T v x->DR T fs es->DR T ((n,v)::fs) (⟨hs,.str (an n) t,x⟩::es)
theorem DR.map {T T':Im} (h:yV T T') {fs:List (Nat×V)} {es:List DictEntry} (r:DR T fs es):DR T' fs es:=by
 induction r with
 | nil=>exact .nil
 | cons l a _ ih=>exact .cons l (a.map h) ih
theorem DR.length {T:Im} {fs:List (Nat×V)} {es:List DictEntry} (r:DR T fs es):es.length=fs.length:=by
 induction r with
 | nil=>rfl
 | cons _ _ _ ih=>exact congrArg (·+1) ih
theorem yM:∀m n:Nat,m<attrs.length->n<attrs.length->an m=an n->m=n:=by
 have h:∀m:Fin attrs.length,∀n:Fin attrs.length,an m=an n->m=n:=by decide +kernel
 intro m n hm hn e;have:=h ⟨m,hm⟩ ⟨n,hn⟩ e;exact congrArg Fin.val this
inductive OR (ca:Nat->Addr) (T:Im):Ob->Obj->Prop
 | list {vs:List V} {xs:List Value} {n:Nat}:cG T vs xs->vs.length<=lim->OR ca T (.list vs) { cls:=.type "list",data:=.seq xs.toArray n }
 | dict {fs:List (Nat×V)} {es:List DictEntry} {n:Nat}:DR T fs es->OR ca T (.dict fs) { cls:=.type "dict",data:=.dict es.toArray n }
 | inst {c:Nat} {dx:Addr}:c<3->OR ca T (.inst c dx) { cls:=.ref (ca c),dict:=some dx,data:=.plain }
theorem OR.map {ca:Nat->Addr} {T T':Im} (h:yV T T') {ob:Ob} {o:Obj} (r:OR ca T ob o):OR ca T' ob o:=by
 cases r with
 | list a b=>exact .list (a.map h) b
 | dict a=>exact .dict (a.map h)
 | inst a=>exact .inst a
theorem OR.mono {ca:Nat->Addr} {T T':Im} (h:T.Le T') {ob:Ob} {o:Obj} (r:OR ca T ob o):OR ca T' ob o:=r.map λa o e _=>h a o e
def mI (o:Obj):Prop:=(∃xs n,o.data=.seq xs n/\o.cls=.type "tuple")\/(∃xs,o.data=.fields xs)
theorem OR.tq {ca:Nat->Addr} {T:Im} {ob:Ob} {o:Obj} (r:OR ca T ob o):¬mI o:=by
 rintro (⟨xs,n,h,h'⟩ | ⟨xs,h⟩)<;>cases r<;>simp_all
theorem OR.gk {ca:Nat->Addr} {T:Im} {ob:Ob} {o:Obj} (r:OR ca T ob o) (v:Option Value):o.data≠.cell v:=by
 cases r<;>simp
structure Rt (w:World) (K:Frag) (base:Heap):Prop where
 tC:K.In base
 lim:base.NoLimit
 g:∃mg,base.Ns mainGlobals mg
 b:∃mb,base.Ns builtinsNs mb/\∀x,x≠("__name__":Str)->mb x=bootBuiltins x
def kB (env:Env) (m:Str->Option Value) (h:Heap) (n:Str) (val:Value):Prop:=
 (env.kindOf n=some .local/\m n=some val)\/
 ((env.kindOf n=some .cell\/env.kindOf n=some .free)/\∃c,env.cells.lookup n=some c/\h.IsCell c (some val))
structure Fx where
 ca:Nat->Addr
 base:Heap
 h₀:Heap
 env:Env
 W:List Str
 ns:List Str
noncomputable def BV:Fx:=⟨λ_=>0,default,default,default,[],[]⟩
structure aJ (x:Fx) (h:Heap) (O:Lc) (H:Hp) (T:Im):Prop where
 cN:x.base.StaysIn x.h₀
 fr:∃m,Fr x.h₀ x.env.locals h m/\∀i v,getL O i=some v->∃n val,x.ns[i]?=some n/\kB x.env m h n val/\VR T v val
 own:∀a ob,H a=some ob->(∃o,h.get? a=some o/\OR x.ca T ob o)/\a≠x.env.locals/\x.h₀.get? a=none
 fc:∀a o,T a=some o->h.get? a=some o/\(mI o\/x.base.get? a=some o)
 jD:∀n c,x.env.cells.lookup n=some c->∃v,h.IsCell c v/\(n∈x.W->x.h₀.get? c=none)
section
variable {x:Fx} {h₀ h h':Heap} {env:Env} {O:Lc} {H:Hp} {T:Im}
theorem IsCell.grow {c:Addr} {v:Option Value} (hc:h.IsCell c v) (k:∀b o,h.get? b=some o->h'.get? b=some o):h'.IsCell c v:=
 let ⟨o,a,b⟩:=hc;⟨o,k _ _ a,b⟩
theorem kB.grow {m:Str->Option Value} {n:Str} {val:Value} (s:kB env m h n val) (k:∀b o,h.get? b=some o->h'.get? b=some o):kB env m h' n val:=by
 rcases s with s | ⟨a,c,b,d⟩
 ·exact .inl s
 ·exact .inr ⟨a,c,b,IsCell.grow d k⟩
theorem aJ.iC (S:aJ x h O H T) {z:Addr} (hz:x.h₀.get? z=none):x.base.get? z=none:=by
 cases q:x.base.get? z with
 | none=>rfl
 | some o=>rw [S.cN _ _ q] at hz;cases hz
theorem aJ.jS (S:aJ x h O H T):x.h₀.get? x.env.locals=none:=by
 obtain ⟨m,F,_⟩:=S.fr
 cases q:x.h₀.get? x.env.locals with
 | none=>rfl
 | some o=>exact absurd (Heap.lt_size q) (Rv.mpr F.above)
theorem nY {h:Heap} {a:Addr} {m:Str->Option Value} {v:Option Value} (F:h.Ns a m) (c:h.IsCell a v):False:=by
 refine AS F λo es ep e1 e2 _=>?_;refine ao c λo' c1 c2=>?_;rw [e1] at c1;cases c1;rw [e2] at c2;cases c2
theorem aJ.kU (S:aJ x h O H T) {c:Addr} {m:Str->Option Value} (h0:x.h₀.get? c=none) (hc:h.Ns c m):T c=none:=by
 refine AS hc λo es ep e1 e2 _=>?_
 cases q:T c with
 | none=>rfl
 | some ob=>
  refine aD (S.fc c ob q) λa1 a2=>?_;rw [e1] at a1;cases a1;rcases a2 with (⟨_,_,t2,_⟩ | ⟨_,t2⟩) | t2
  ·rw [e2] at t2;cases t2
  ·rw [e2] at t2;cases t2
  ·rw [S.iC h0] at t2;cases t2
theorem aJ.keep (S:aJ x h O H T):∀b o,x.base.get? b=some o->h.get? b=some o:=λb o e=>
 let ⟨_,F,_⟩:=S.fr;F.keep b o (S.cN b o e)
theorem Fr.GV {m:Str->Option Value} {L:Addr} (F:Fr h₀ L h m) (k:∀b o,h.get? b=some o->h'.get? b=some o):Fr h₀ L h' m:=by
 obtain ⟨oL,a1,a2,hL,a3⟩:=F.ns;exact ⟨⟨oL,a1,a2,k _ _ hL,a3⟩,λb o e=>k _ _ (F.keep b o e),F.above⟩
theorem aJ.grow (S:aJ x h O H T) (k:∀b o,h.get? b=some o->h'.get? b=some o):aJ x h' O H T:=by
 obtain ⟨m,F,hl⟩:=S.fr;refine ⟨S.cN,⟨m,Fr.GV F k,λi v e=>?_⟩,λa ob e=>?_,λa o e=>⟨k _ _ (S.fc a o e).1,(S.fc a o e).2⟩,λn c hn=>?_⟩
 ·refine fF (hl i v e) λn val a b c=>?_;exact ⟨n,val,a,b.grow k,c⟩
 ·refine dJ (S.own a ob e) ?_;rintro ⟨o,a1,a2⟩ b c;exact ⟨⟨o,k _ _ a1,a2⟩,b,c⟩
 ·refine ao (S.jD n c hn) λv a3 a4=>?_;exact ⟨v,IsCell.grow a3 k,a4⟩
theorem aJ.mono (S:aJ x h O H T) {H':Hp} (hs:H'.Sub H):aJ x h O H' T:=
 ⟨S.cN,S.fr,λa ob e=>S.own a ob (hs a ob e),S.fc,S.jD⟩
theorem aJ.fresh (S:aJ x h O H T) {a:Addr} (ha:h.objs.size<=a):H a=none:=by
 cases e:H a with
 | none=>rfl
 | some ob=>refine aD (S.own a ob e) ?_;rintro ⟨o,e1,_⟩ _;exact absurd (Heap.lt_size e1) (Rv.mpr ha)
theorem aJ.lt (S:aJ x h O H T):x.env.locals<h.objs.size:=by
 obtain ⟨m,F,_⟩:=S.fr;obtain ⟨oL,a1,a2,hL,a3⟩:=F.ns;exact Heap.lt_size hL
theorem aJ.k8 (S:aJ x h O H T) {a:Addr} (ha:h.objs.size<=a):x.h₀.get? a=none:=by
 obtain ⟨m,F,_⟩:=S.fr
 cases e:x.h₀.get? a with
 | none=>rfl
 | some o=>exact absurd (Heap.lt_size (F.keep _ _ e)) (Rv.mpr ha)
theorem aJ.upd (S:aJ x h O H T) {a:Addr} {ob ob':Ob} {o':Obj} (ha:H a=some ob) (hs:Heap.SameBut a h h') (ho:h'.get? a=some o') (hr:OR x.ca T ob' o') :
 aJ x h' O (H.upd a ob') T:=by
 refine dJ (S.own a ob ha) ?_;rintro ⟨o,e1,e2⟩ e3 e4;obtain ⟨m,F,hl⟩:=S.fr;have kp:∀b o,b≠a->h.get? b=some o->h'.get? b=some o:=λb o hb e=>(hs.2 b hb).trans e
 have kc:∀c v,h.IsCell c v->h'.IsCell c v:=λc v ⟨oc,c1,c2⟩=>⟨oc,kp c oc (λq=>by
  subst q;rw [e1] at c1;cases c1;exact e2.gk v c2) c1,c2⟩
 refine ⟨S.cN,⟨m,⟨F.ns.sameBut hs (Ne.symm e3),λb ob e=>kp b ob (λq=>by subst q;rw [e4] at e;cases e) (F.keep b ob e),F.above⟩,λi v e=>?_⟩,λb ob e=>?_,λb ob e=>?_,λn c hn=>?_⟩
 ·refine fF (hl i v e) λn val q1 q2 q3=>?_;refine ⟨n,val,q1,?_,q3⟩;rcases q2 with s | ⟨p1,c,p2,p3⟩
  ·exact .inl s
  ·exact .inr ⟨p1,c,p2,kc _ _ p3⟩
 ·unfold Hp.upd at e;by_cases hb:b=a
  ·subst hb;rw [Qk rfl] at e;cases e;exact ⟨⟨o',ho,hr⟩,e3,e4⟩
  ·rw [Qb hb] at e;refine aD (S.own b ob e) ?_;rintro ⟨o2,q1,q2⟩ q3;exact ⟨⟨o2,kp _ _ hb q1,q2⟩,q3⟩
 ·have:=S.fc b ob e;refine ⟨kp _ _ (λq=>?_) this.1,this.2⟩;subst q;rw [e1] at this;cases this.1;rcases this.2 with hi | hb
  ·exact e2.tq hi
  ·rw [S.cN _ _ hb] at e4;cases e4
 ·refine ao (S.jD n c hn) λv a3 a4=>?_;exact ⟨v,kc _ _ a3,a4⟩
theorem aJ.new (S:aJ x h O H T) (k:∀b o,h.get? b=some o->h'.get? b=some o) {a:Addr} {ob:Ob} {o:Obj} (ha:h.objs.size<=a) (ho:h'.get? a=some o) (hr:OR x.ca T ob o) :
 aJ x h' O (H.upd a ob) T:=by
 have S':=S.grow k;refine ⟨S'.cN,S'.fr,λb ob' e=>?_,S'.fc,S'.jD⟩;unfold Hp.upd at e;by_cases hb:b=a
 ·subst hb;rw [Qk rfl] at e;cases e;exact ⟨⟨o,ho,hr⟩,λq=>absurd S.lt (by rw [<- q];exact Rv.mpr ha),S.k8 ha⟩
 ·rw [Qb hb] at e;exact S'.own b ob' e
noncomputable def Im.upd (T:Im) (a:Addr) (o:Obj):Im:=λb=>if b=a then some o else T b
theorem aJ.Gb (S:aJ x h O H T) (k:∀b o,h.get? b=some o->h'.get? b=some o) {a:Addr} {o:Obj} (ha:h.objs.size<=a) (ho:h'.get? a=some o) (hi:mI o) :
 T.Le (T.upd a o)/\aJ x h' O H (T.upd a o):=by
 have le:T.Le (T.upd a o):=λb o' e=>by
  unfold Im.upd;by_cases hb:b=a
  ·subst hb;exact absurd (Heap.lt_size (S.fc b o' e).1) (Rv.mpr ha)
  ·rw [Qb hb];exact e
 have S':=S.grow k;obtain ⟨m,F,hl⟩:=S'.fr;refine ⟨le,S'.cN,⟨m,F,λi v e=>?_⟩,λb ob e=>?_,λb o' e=>?_,S'.jD⟩
 ·refine fF (hl i v e) λn val q1 q2 q3=>?_;exact ⟨n,val,q1,q2,q3.mono le⟩
 ·refine aD (S'.own b ob e) ?_;rintro ⟨o2,q1,q2⟩ q3;exact ⟨⟨o2,q1,q2.mono le⟩,q3⟩
 ·unfold Im.upd at e;by_cases hb:b=a
  ·subst hb;rw [Qk rfl] at e;cases e;exact ⟨ho,.inl hi⟩
  ·rw [Qb hb] at e;exact S'.fc b o' e
end
structure jB (s s':Shared):Prop where
 g:s'.gens=s.gens
 o:s'.os=s.os
inductive bf (x:Fx) (O:Lc) (T:Im) (s:Shared) (Q:V->Hp->Prop) (val:Value) (s':Shared):Prop
 | mk (v:V) (H':Hp) (T':Im) (hv:VR T' v val) (le:T.Le T') (S:aJ x s'.heap O H' T') (go:jB s s') (q:Q v H'):bf x O T s Q val s'
inductive yU (x:Fx) (O:Lc) (T:Im) (s:Shared) (Q:Hp->Prop) (s':Shared):Prop
 | mk (H':Hp) (T':Im) (le:T.Le T') (S:aJ x s'.heap O H' T') (go:jB s s') (q:Q H'):yU x O T s Q s'
abbrev No:Value->Shared->Prop:=λ_ _=>False
theorem IsList.of {T:Im} {ca:Nat->Addr} {h:Heap} {a:Addr} {vs:List V} {o:Obj} (hr:OR ca T (.list vs) o) (ho:h.get? a=some o):∃xs n,o={ cls:=.type "list",data:=.seq xs.toArray n }/\cG T vs xs/\vs.length<=lim/\h.IsList a xs.toArray:=by
 cases hr with
 | list a1 a2=>exact ⟨_,_,rfl,a1,a2,_,ho,rfl,_,rfl⟩
theorem aJ.list {x:Fx} {h:Heap} {O:Lc} {H:Hp} {T:Im} (S:aJ x h O H T) {a:Addr} {vs:List V} (e:H a=some (.list vs)) :
 ∃xs n,h.get? a=some { cls:=.type "list",data:=.seq xs.toArray n }/\cG T vs xs/\vs.length<=lim/\h.IsList a xs.toArray:=by
 refine aD (S.own a _ e) ?_;rintro ⟨o,h1,h2⟩ _;refine ew (IsList.of h2 h1) ?_;rintro xs n rfl b c d;exact ⟨xs,n,h1,b,c,d⟩
theorem IntsAre.of {T:Im} {vs:List V}:∀{xs:List Value} {ns:List Int},cG T vs xs->intsOf? vs=some ns->IntsAre xs ns:=by
 induction vs with
 | nil=>intro _ _ h e;cases h;cases e;exact .nil
 | cons v vs ih=>
  intro _ _ h e
  cases h with
  | cons a b=>
   cases v with
   | int i=>
    refine ao (QE.mp (show (intsOf? vs).map (i::·)=some _ from e)) λns h q=>?_;rw [<- q];exact a.ei λt=>.cons i t (ih b h)
   | _=>exact nomatch e
theorem cG.oP {T:Im} {xs:List Value} {ns:List Int} (h:IntsAre xs ns):cG T (ns.map .int) xs:=by
 induction h with
 | nil=>exact .nil
 | cons i t _ ih=>exact .cons (.int i t) ih
theorem g8:lim+1<=sizeLine:=by decide
section
variable {prog:Program} {w:World} {A:Around} {E:Value->Shared->Prop} {s:Shared} {x:Fx} {O:Lc} {H:Hp} {T:Im}
theorem bf.keep (S:aJ x s.heap O H T) {Q:V->Hp->Prop} {v:V} {val:Value} {tk:Nat} (hv:VR T v val) (hq:Q v H):bf x O T s Q val { s with toks:=tk }:=
 ⟨v,H,T,hv,Im.Le.refl T,S,⟨rfl,rfl⟩,hq⟩
theorem bf.hM (S:aJ x s.heap O H T) {Q:V->Hp->Prop} {v:V} {val:Value} (hv:VR T v val) (hq:Q v H):bf x O T s Q val s:=
 ⟨v,H,T,hv,Im.Le.refl T,S,⟨rfl,rfl⟩,hq⟩
theorem Ex {op:Operator} {o:gJ} (ho:kJ op=some o) {a b:Int} {t u:Tok} {P:Int->Prop} (h:B3 o a b P) {Q:Value->Shared->Prop}
 (hq:∀z,P z->Q (.int z s.toks) { s with toks:=s.toks+1 }):wpAny (model prog w) A (binaryOp op (.int a t) (.int b u)) Q E s:=by
 have key:match kJ op with | some o=>B3 o a b P->wpAny (model prog w) A (binaryOp op (.int a t) (.int b u)) Q E s | none=>True:=by
  cases op with
  | Add=>exact λh=>PyProof.Rows.add_int (hq _ h)
  | Sub=>exact λh=>PyProof.Rows.sub_int (hq _ h)
  | Mult=>exact λh=>mul_int (hq _ h.2) (IntMulOk.of_left (intBits_le h.1))
  | Mod=>exact λh=>mod_int' h.1 (hq _ h.2)
  | LShift=>exact λh=>lshift_int_small h.1.1 (Sv h.1.2.1 (by decide)) h.1.2.2 (hq _ h.2)
  | RShift=>exact λh=>rshift_int h.1 (hq _ h.2)
  | BitOr=>exact λh=>or_int (hq _ h)
  | BitXor=>exact λh=>xor_int (hq _ h)
  | BitAnd=>exact λh=>and_int (hq _ h)
  | FloorDiv=>exact λh=>floordiv_int h.1.1 (hq _ h.2) (.inl (TP h.1.2))
  | _=>exact True.intro
 rw [ho] at key;exact key h
theorem o8 {op:Operator} {o:gJ} (ho:kJ op=some o) {a b:Int} {t u:Tok} {P:Int->Prop} (h:B3 o a b P) {Q:Value->Shared->Prop}
 (hq:∀z,P z->Q (.int z s.toks) { s with toks:=s.toks+1 }):wpAny (model prog w) A (inplaceOp op (.int a t) (.int b u)) Q E s:=by
 have key:match kJ op with | some o=>B3 o a b P->wpAny (model prog w) A (inplaceOp op (.int a t) (.int b u)) Q E s | none=>True:=by
  cases op with
  | Add=>exact λh=>wpAny_iadd_int (hq _ h)
  | Sub=>exact λh=>isub_int (hq _ h)
  | Mult=>exact λh=>imul_int (hq _ h.2) (IntMulOk.of_left (intBits_le h.1))
  | Mod=>exact λh=>imod_int h.1 (hq _ h.2)
  | LShift=>exact λh=>ilshift_int_small h.1.1 (Sv h.1.2.1 (by decide)) h.1.2.2 (hq _ h.2)
  | RShift=>exact λh=>irshift_int h.1 (hq _ h.2)
  | BitOr=>exact λh=>ior_int (hq _ h)
  | BitXor=>exact λh=>ixor_int (hq _ h)
  | BitAnd=>exact λh=>iand_int (hq _ h)
  | FloorDiv=>exact λh=>ifloordiv_int h.1.1 (hq _ h.2) (.inl (TP h.1.2))
  | _=>exact True.intro
 rw [ho] at key;exact key h
theorem jG {v:V} {val:Value} {b:Bool} (hv:VR T v val) (hb:truthy v=some b) {Q:Bool->Shared->Prop} (h:Q b s):wpAny (model prog w) A (PySem.truthy val) Q E s:=by
 cases hv<;>simp only [truthy,Th,reduceCtorEq] at hb<;>subst hb
 ·exact λ_ _ _=>h
 ·exact wpAny_truthy_bool h
 ·exact truthy_int h
theorem Aj (S:aJ x s.heap O H T) {vs:List V} {xs:List Value} (hv:cG T vs xs) {Q:V->Hp->Prop} (h:da vs H Q):wpAny (model prog w) A (newList xs) (bf x O T s Q) E s:=by
 have hl:xs.length<=sizeLine:=by have:=h.1;have:=hv.length;have:=g8;lia
 refine wpAny_newObj_type (T:="list") ?_ (by show xs.toArray.size<=sizeLine;rw [Q6];exact hl);refine ⟨_,_,T,.ref _,Im.Le.refl T,S.new (λb o e=>Heap.get?_push_of_some _ e) (Qn _) (Heap.get?_push_size _ rfl) (.list hv h.1),⟨rfl,rfl⟩,h.2 _ (S.fresh (Qn _))⟩
theorem Ai (S:aJ x s.heap O H T) {vs:List V} {xs:List Value} (hv:cG T vs xs) {Q:V->Hp->Prop} (h:vs.length<=1000/\Q (.tup vs) H):wpAny (model prog w) A (newTuple xs) (bf x O T s Q) E s:=by
 have hl:xs.length<=sizeLine:=by have:=h.1;have:=hv.length;have:=g8;simp only [lim] at *;lia
 refine wpAny_newObj_type (T:="tuple") ?_ (by show xs.toArray.size<=sizeLine;rw [Q6];exact hl);have hS:=S.Gb (h':=s.heap.push { cls:=.type "tuple",data:=.seq xs.toArray }) (λb o e=>Heap.get?_push_of_some _ e) (Qn s.heap.objs.size) (Heap.get?_push_size _ rfl) (.inl ⟨_,_,rfl,rfl⟩);exact ⟨_,H,_,.tup (by simp [Im.upd]) h.1 (hv.mono hS.1),hS.1,hS.2,⟨rfl,rfl⟩,h.2⟩
end
theorem Pd.shape {H:Hp} {v:V} {d:PyData} (p:Pd H v d):d.canLay0=true/\d.depth<=1:=by
 cases p with
 | int=>exact ⟨rfl,by simp [PyData.depth]⟩
 | bool=>exact ⟨rfl,by simp [PyData.depth]⟩
 | list h hi=>exact ⟨by simp [PyData.canLay0,ke_canLayAll0],by simp [PyData.depth,ke_depthAll]⟩
theorem B7.shape {H:Hp} {vs:List V} {ds:List PyData} (p:B7 H vs ds):PyData.canLayAll0 ds=true/\PyData.depthAll ds<=1:=by
 induction p with
 | nil=>exact ⟨rfl,by simp [PyData.depthAll]⟩
 | cons a b ih=>exact ⟨by rw [PyData.canLayAll0,a.shape.1,ih.1];rfl,by rw [PyData.depthAll];exact Nat.max_le.mpr ⟨a.shape.2,ih.2⟩⟩
section
variable {prog:Program} {w:World} {A:Around} {E:Value->Shared->Prop} {s:Shared} {x:Fx} {O:Lc} {H:Hp} {T:Im}
theorem Pd.reads {h:Heap} (S:aJ x h O H T) {v:V} {val:Value} {d:PyData} (p:Pd H v d) (hv:VR T v val):∃as,Reads h val d as:=by
 cases p with
 | int i=>exact hv.ei λ_=>⟨_,.int _ _⟩
 | bool b=>exact hv.eb ⟨_,.bool _⟩
 | list h hi=>refine hv.er ?_;exact ew (S.list h) λxs n g1 g2 g3 g4=>⟨_,reads_of_ints g4 (IntsAre.of g2 hi)⟩
theorem B7.reads {h:Heap} (S:aJ x h O H T) {vs:List V} {ds:List PyData} (p:B7 H vs ds):∀{xs:List Value},cG T vs xs->∃as,ReadsAll h xs ds as:=by
 induction p with
 | nil=>intro _ g;cases g;exact ⟨_,.nil⟩
 | cons a b ih=>
  intro _ g
  cases g with
  | cons g1 g2=>exact bJ (a.reads S g1) λas r1=>bJ (ih g2) λbs r2=>⟨_,.cons r1 r2⟩
theorem Ff.reads {h:Heap} (S:aJ x h O H T) {v:V} {val:Value} {d:PyData} (p:Ff H v d) (hv:VR T v val):∃as,Reads h val d as/\SeqAt.shaped d=true:=by
 cases p with
 | flat p=>
  refine bJ (p.reads S hv) λas r=>⟨as,r,QV.mpr ⟨p.shape.1,Qq (P8 p.shape.2 (by decide))⟩⟩
 | tup p=>
  refine hv.et λ_ _ t1 l1 v1=>?_;refine bJ (p.reads S v1) λas r=>⟨as,.tuple (S.fc _ _ t1).1 rfl rfl r,QV.mpr ⟨by rw [PyData.canLay0];exact p.shape.1,Qq (by rw [PyData.depth];exact P8 (SQ p.shape.2 1) (by decide))⟩⟩
@[elab_as_elim] theorem sQ.el {P:Int->Int->Prop} {v u:V} {val wal:Value} {G:Value->Value->Prop} (c:sQ P v u) (hv:VR T v val) (hu:VR T u wal) (k:∀{x y t z},P x y->G (.int x t) (.int y z)):G val wal:=by
 cases c with
 | mk q=>exact hv.ei λ_=>hu.ei λ_=>k q
@[elab_as_elim] theorem IT.el {P:Prop} {u:V} {wal:Value} {G:Value->Prop} (c:IT P u) (hu:VR T u wal) (k:P->G .none):G wal:=by
 cases c with
 | mk q=>exact hu.en (k q)
@[elab_as_elim] theorem IU.el {h:Heap} {P:Bool->Prop} {v u:V} {val wal:Value} {G:Value->Value->Prop} (c:IU H P u v) (S:aJ x h O H T) (hv:VR T v val) (hu:VR T u wal)
 (k1:∀{i t a} {xs:List Value} {ns},h.IsList a xs.toArray->IntsAre xs ns->P (ns.any (· == i))->G (.int i t) (.ref a)) (k2:∀{i t a} {xs:List Value} {ns},IsTup h a xs.toArray->IntsAre xs ns->P (ns.any (· == i))->G (.int i t) (.ref a)):G val wal:=by
 cases c with
 | mk g q=>
  refine hv.ei λ_=>?_
  cases g with
  | list h hi=>refine hu.er ?_;exact ew (S.list h) λxs n g1 g2 g3 g4=>k1 g4 (IntsAre.of g2 hi) q
  | tup h=>exact hu.et λ_ _ t1 l1 v1=>k2 ⟨_,(S.fc _ _ t1).1,rfl,_,rfl⟩ (IntsAre.of v1 h) q
theorem xP (S:aJ x s.heap O H T) {op:CmpOp} {o:uZ} (ho:A7 op=some o) {v u:V} {val wal:Value} (hv:VR T v val) (hu:VR T u wal) (hun:A.units+100<cLine) {Q':V->Hp->Prop} (h:xR o v u H Q')
 {Q:Value->Shared->Prop} (k:∀b,Q' (.bool b) H->Q (.bool b) s):wpAny (model prog w) A (compareOp op val wal) Q E s:=by
 have hun':A.units+64<cLine:=Qi (QU (by decide) _) hun
 have key:match A7 op with | some o=>xR o v u H Q'->wpAny (model prog w) A (compareOp op val wal) Q E s | none=>True:=by
  cases op with
  | Eq=>exact λ⟨a,b,q⟩=>ao (a.reads S hv) λas r1 s1=>ao (b.reads S hu) λbs r2 s2=>eq_dataH r1 r2 s1 s2 hun' (k _ q)
  | NotEq=>exact λ⟨a,b,q⟩=>ao (a.reads S hv) λas r1 s1=>ao (b.reads S hu) λbs r2 s2=>ne_dataH r1 r2 s1 s2 hun' (k _ q)
  | Lt=>exact λc=>c.el hv hu λq=>PyProof.Rows.lt_int (k _ q)
  | LtE=>exact λc=>c.el hv hu λq=>le_int (k _ q)
  | Gt=>exact λc=>c.el hv hu λq=>gt_int (k _ q)
  | GtE=>exact λc=>c.el hv hu λq=>ge_int (k _ q)
  | Is=>exact λc=>c.el hu λq=>is_none (by rw [hv.Mz];exact k _ q)
  | IsNot=>exact λc=>c.el hu λq=>isNot_none (by rw [hv.Mz];exact k _ q)
  | In=>exact λc=>c.el S hv hu (λg1 g2 q=>in_list_ints g1 g2 (k _ q)) λg1 g2 q=>in_tuple_ints g1 g2 (k _ q)
  | NotIn=>exact λc=>c.el S hv hu (λg1 g2 q=>notin_list_ints g1 g2 (k _ q)) λg1 g2 q=>notin_tuple_ints g1 g2 (k _ q)
 rw [ho] at key;exact key h
end
noncomputable def gI (h₀ h:Heap) (L:Addr):List (Addr×Obj):=
 (List.range h.objs.size).filterMap λa=>match h.get? a with
  | some o=>if (h₀.get? a).isNone && a !=L then some (a,o) else none
  | none=>none
theorem eQ {h₀ h:Heap} {L:Addr} {p:Addr×Obj}:p∈gI h₀ h L↔h.get? p.1=some p.2/\p.1≠L/\h₀.get? p.1=none:=by
 unfold gI;rw [List.mem_filterMap];constructor
 ·rintro ⟨a,_,e⟩;split at e
  ·rename_i o ho;split at e
   ·rename_i hc;cases e;simp only [Qa,SV,bne_iff_ne,ne_eq] at hc;exact ⟨ho,hc.2,hc.1⟩
   ·cases e
  ·cases e
 ·rintro ⟨e1,e2,e3⟩;refine ⟨p.1,Sh.mpr (Heap.lt_size e1),?_⟩;rw [e1];simp [e2,e3]
theorem qj (h₀ h:Heap) (L:Addr):News h₀ L h (gI h₀ h L):=λp hp=>eQ.mp hp
section
variable {x:Fx} {h h':Heap} {O:Lc} {H:Hp} {T:Im}
theorem tD {h₀:Heap} {L:Addr} {m:Str->Option Value} {more:List (Addr×Obj)} (F':Fr h₀ L h' m) (F:Fr h₀ L h m) (N':News h₀ L h' (more++gI h₀ h L)) :
 ∀b o,b≠L->h.get? b=some o->h'.get? b=some o:=λb o hb e=>by
 cases q:h₀.get? b with
 | some o'=>have:=F.keep b o' q;rw [e] at this;cases this;exact F'.keep b _ q
 | none=>exact (N' (b,o) (T8 _ (eQ.mpr ⟨e,hb,q⟩))).1
theorem aJ.GU (S:aJ x h O H T) {m:Str->Option Value} (hl:∀i v,getL O i=some v->∃n val,x.ns[i]?=some n/\kB x.env m h n val/\VR T v val)
 (F:Fr x.h₀ x.env.locals h m) (F':Fr x.h₀ x.env.locals h' m) (k:∀b o,b≠x.env.locals->h.get? b=some o->h'.get? b=some o):aJ x h' O H T:=by
 have kc:∀{c v},h.IsCell c v->h'.IsCell c v:=λhc=>ao hc λo c1 c2=>⟨o,k _ _ (λq=>nY F.ns (q ▸ hc)) c1,c2⟩;refine ⟨S.cN,⟨m,F',λi v e=>?_⟩,λa ob e=>?_,λa o e=>?_,λn c hn=>?_⟩
 ·refine fF (hl i v e) λn val q1 q2 q3=>?_;refine ⟨n,val,q1,?_,q3⟩;rcases q2 with s | ⟨p1,c,p2,p3⟩
  ·exact .inl s
  ·exact .inr ⟨p1,c,p2,kc p3⟩
 ·refine dJ (S.own a ob e) ?_;rintro ⟨o,q1,q2⟩ q3 q4;exact ⟨⟨o,k _ _ q3 q1,q2⟩,q3,q4⟩
 ·have:=S.fc a o e;exact ⟨k _ _ (λq=>by rw [q,S.kU S.jS F.ns] at e;cases e) this.1,this.2⟩
 ·refine ao (S.jD n c hn) λv a3 a4=>?_;exact ⟨v,kc a3,a4⟩
end
section
variable {prog:Program} {w:World} {A:Around} {E:Value->Shared->Prop} {s:Shared} {x:Fx} {O:Lc} {H:Hp} {T:Im}
theorem aJ.news {h:Heap} (S:aJ x h O H T):∃m,Fr x.h₀ x.env.locals h m/\News x.h₀ x.env.locals h (gI x.h₀ h x.env.locals)/\
 (∀h' more,Fr x.h₀ x.env.locals h' m->News x.h₀ x.env.locals h' (more++gI x.h₀ h x.env.locals)->aJ x h' O H T/\∀b o,b≠x.env.locals->h.get? b=some o->h'.get? b=some o):=by
 obtain ⟨m,F,hl⟩:=S.fr;exact ⟨m,F,qj _ _ _,λh' more F' N'=>⟨S.GU hl F F' (tD F' F N'),tD F' F N'⟩⟩
theorem dB (v:Value):∀(n:Nat) (acc:Array Value),List.foldl (λx1 x2=>x1++x2) acc (List.replicate n #[v])=acc++ (List.replicate n v).toArray
 | 0,acc=>by simp
 | n+1,acc=>by
  rw [List.replicate_succ,List.foldl_cons,dB v n,List.replicate_succ];apply Array.toList_inj.mp;simp
theorem bf.newList {h':Heap} {tk:Nat} (S:aJ x s.heap O H T) (S':aJ x h' O H T) {a:Addr} {vs:List V} {xs:List Value} {n:Nat} (ha:s.heap.objs.size<=a) (ho:h'.get? a=some { cls:=.type "list",data:=.seq xs.toArray n })
 (hv:cG T vs xs) {Q:V->Hp->Prop} (h:da vs H Q):bf x O T s Q (.ref a) { s with heap:=h',toks:=tk }:=by
 have hn:H a=none:=S.fresh ha;refine ⟨_,H.upd a (.list vs),T,.ref _,Im.Le.refl T,?_,⟨rfl,rfl⟩,h.2 _ hn⟩;refine ⟨S'.cN,S'.fr,λb ob' e=>?_,S'.fc,S'.jD⟩;unfold Hp.upd at e;by_cases hb:b=a
 ·subst hb;rw [Qk rfl] at e;cases e;exact ⟨⟨_,ho,.list hv h.1⟩,λq=>absurd S.lt (by rw [<- q];exact Rv.mpr ha),S.k8 ha⟩
 ·rw [Qb hb] at e;exact S'.own b ob' e
theorem xq (op:Operator):match kJ op with | some .add=>op=.Add | some .mul=>op=.Mult | _=>True:=by cases op<;>first | exact rfl | exact True.intro
theorem yD {op:Operator} (h:kJ op=some .mul):op=.Mult:=by have:=xq op;rw [h] at this;exact this
theorem yE {op:Operator} (h:kJ op=some .add):op=.Add:=by have:=xq op;rw [h] at this;exact this
def pH {op:Operator} {o:gJ} {v u:V} {val wal:Value} {Q:V->Hp->Prop}:Prop:=∀(S:aJ x s.heap O H T) (ho:kJ op=some o) (hv:VR T v val) (hu:VR T u wal) (h:ar o v u H Q),wpAny (model prog w) A (binaryOp op val wal) (bf x O T s Q) E s
theorem EE {op:Operator} {o:gJ} {v u:V} {val wal:Value} {Q:V->Hp->Prop}:@pH prog w A E s x O H T op o v u val wal Q:=au (S:=λx:(Program×World×Around×(Value->Shared->Prop))×(Shared×Fx×Lc×Hp)×(Im×Operator×gJ×V)×(V×Value×Value×(V->Hp->Prop))=>@pH x.1.1 x.1.2.1 x.1.2.2.1 x.1.2.2.2 x.2.1.1 x.2.1.2.1 x.2.1.2.2.1 x.2.1.2.2.2 x.2.2.1.1 x.2.2.1.2.1 x.2.2.1.2.2.1 x.2.2.1.2.2.2 x.2.2.2.1 x.2.2.2.2.1 x.2.2.2.2.2.1 x.2.2.2.2.2.2) (x:=((default,dW,{},λ_ _=>True),({},BV,[],λ_=>none),(λ_=>none,.Add,.add,.none),(.none,default,default,λ_ _=>True))) (by
 refine (?_:∀prog w A E s x O H T op o v u val wal Q,@pH prog w A E s x O H T op o v u val wal Q) _ _ _ _ _ _ _ _ _ _ _ _ _ _ _ _;intro prog w A E s x O H T op o v u val wal Q S ho hv hu h
 cases h with
 | int h=>
  refine hv.ei λ_=>?_;refine hu.ei λ_=>?_;exact Ex ho h λz hz=>bf.keep S (.int _ _) hz
 | @rep a y n hy hn h=>
  refine hv.er ?_;refine hu.ei λ_=>?_;cases yD ho;refine ew (S.list hy) λxs k g1 g2 g3 g4=>?_;obtain ⟨y',rfl,a1⟩:=g2.one;obtain ⟨m,F,N,go⟩:=S.news
  have hl:n.toNat<=1000000:=by have:=hn.2;simp only [lim] at this;lia
  refine mul_list F N g1 (by have:=hn.1;exact Lz ‹_› (by rfl)) (by have:=hn.2;simp only [lim] at this;exact zl ‹_› (by rfl)) (by simp;exact zL (And.right ‹_›) (by rfl)) λh' F' N'=>?_;rw [show (List.foldl (λx1 x2=>x1++x2) #[] (List.replicate (if ([y'].toArray).isEmpty=true then 0 else n.toNat) [y'].toArray))=(List.replicate n.toNat y').toArray from (dB y' n.toNat #[]).trans (by simp)] at N';exact bf.newList (n:=0) S (go h' [_] F' N').1 (Qn _) (N' _ (QB ..)).1 (cG.replicate a1 _) h
 | cat h1 h2 h=>
  refine hv.er ?_;refine hu.er ?_;cases yE ho;refine ew (S.list h1) λxs' k g1 g2 g3 g4=>?_;refine ew (S.list h2) λys' k' f1 f2 f3 f4=>?_;obtain ⟨m,F,N,go⟩:=S.news
  refine add_lists F N g4 f4 (λh' F' N'=>bf.newList (n:=0) S (go h' [_] F' N').1 (Qn _) (N' _ (QB ..)).1 (g2.append f2) h) (by have:=g2.length;have:=f2.length;have:=g8;have:=h.1;simp only [Qc] at this;lia)) ((prog,w,A,E),(s,x,O,H),(T,op,o,v),(u,val,wal,Q))
end
section
variable {x:Fx} {h h':Heap} {O:Lc} {H:Hp} {T:Im}
theorem aJ.Jq (S:aJ x h O H T) {m:Str->Option Value} (hl:∀i v,getL O i=some v->∃n val,x.ns[i]?=some n/\kB x.env m h n val/\VR T v val)
 (F:Fr x.h₀ x.env.locals h m) (F':Fr x.h₀ x.env.locals h' m) {a:Addr} {ob ob':Ob} {o':Obj} (ha:H a=some ob)
 (k:∀b o,b≠x.env.locals->b≠a->h.get? b=some o->h'.get? b=some o) (ho:h'.get? a=some o') (hr:OR x.ca T ob' o'):aJ x h' O (H.upd a ob') T:=by
 refine dJ (S.own a ob ha) ?_;rintro ⟨o,e1,e2⟩ e3 e4
 have kc:∀{c v},h.IsCell c v->h'.IsCell c v:=λ{c v} hc=>by
  refine ao hc λoc c1 c2=>?_;refine ⟨oc,k _ _ (λq=>?_) (λq=>?_) c1,c2⟩
  ·exact nY F.ns (q ▸ hc)
  ·subst q;rw [e1] at c1;cases c1;exact e2.gk v c2
 refine ⟨S.cN,⟨m,F',λi v e=>?_⟩,λb ob e=>?_,λb ob e=>?_,λn c hn=>?_⟩
 ·refine fF (hl i v e) λn val q1 q2 q3=>?_;refine ⟨n,val,q1,?_,q3⟩;rcases q2 with s | ⟨p1,c,p2,p3⟩
  ·exact .inl s
  ·exact .inr ⟨p1,c,p2,kc p3⟩
 ·unfold Hp.upd at e;by_cases hb:b=a
  ·subst hb;rw [Qk rfl] at e;cases e;exact ⟨⟨o',ho,hr⟩,e3,e4⟩
  ·rw [Qb hb] at e;refine dJ (S.own b ob e) ?_;rintro ⟨o2,q1,q2⟩ q3 q4;exact ⟨⟨o2,k _ _ q3 hb q1,q2⟩,q3,q4⟩
 ·have:=S.fc b ob e;refine ⟨k _ _ (λq=>?_) (λq=>?_) this.1,this.2⟩
  ·rw [q,S.kU S.jS F.ns] at e;cases e
  ·subst q;rw [e1] at this;cases this.1;rcases this.2 with hi | hb
   ·exact e2.tq hi
   ·rw [S.iC e4] at hb;cases hb
 ·refine ao (S.jD n c hn) λv a3 a4=>?_;exact ⟨v,kc a3,a4⟩
noncomputable def ji (h₀ h:Heap) (L d:Addr):List (Addr×Obj):=(gI h₀ h L).filter λp=>p.1 !=d
theorem qk {h₀ h:Heap} {L d:Addr}:∀p∈ji h₀ h L d,p.1≠d:=λp hp=>by
 have:=(Tx.mp hp).2;simpa using this
theorem aJ.turns (S:aJ x h O H T) {a:Addr} {ob:Ob} (ha:H a=some ob):∃m o,h.get? a=some o/\OR x.ca T ob o/\Fr x.h₀ x.env.locals h m/\News x.h₀ x.env.locals h ((a,o)::ji x.h₀ h x.env.locals a)/\
 (∀o',Upd a o o' ((a,o)::ji x.h₀ h x.env.locals a) ((a,o')::ji x.h₀ h x.env.locals a))/\
 (∀h' o' ob',Fr x.h₀ x.env.locals h' m->News x.h₀ x.env.locals h' ((a,o')::ji x.h₀ h x.env.locals a)->OR x.ca T ob' o'->aJ x h' O (H.upd a ob') T):=by
 refine dJ (S.own a ob ha) ?_;rintro ⟨o,e1,e2⟩ e3 e4;obtain ⟨m,F,hl⟩:=S.fr;refine ⟨m,o,e1,e2,F,λp hp=>?_,λo'=>.head qk,λh' o' ob' F' N' hr=>?_⟩
 ·rcases Sw.mp hp with rfl | hp
  ·exact ⟨e1,e3,e4⟩
  ·exact qj _ _ _ p (Tx.mp hp).1
 ·refine S.Jq hl F F' ha (λb ob hb hba e=>?_) (N' _ (QB ..)).1 hr
  cases q:x.h₀.get? b with
  | some o'=>have:=F.keep b o' q;rw [e] at this;cases this;exact F'.keep b _ q
  | none=>exact (N' (b,ob) (QC _ (Tx.mpr ⟨eQ.mpr ⟨e,hb,q⟩,by simpa using hba⟩))).1
end
section
variable {prog:Program} {w:World} {A:Around} {E:Value->Shared->Prop} {s:Shared} {x:Fx} {O:Lc} {H:Hp} {T:Im}
theorem oz {i:Int} {n:Nat} (h0:0<=i) (h:i.toNat<n):seqIndex? i n=some i.toNat:=by
 unfold seqIndex?;simp only [Qb (show ¬i<0 by exact Int.not_lt.mpr ‹_›),show (decide (0<=i) && decide (i<(n:Int)))=true by simp;lia,if_true]
theorem mh (S:aJ x s.heap O H T) {v u:V} {val wal:Value} (hv:VR T v val) (hu:VR T u wal) {Q:V->Hp->Prop} (h:aN v u H Q) :
 wpAny (model prog w) A (getItem val wal) (bf x O T s Q) E s:=by
 cases h with
 | ref hy h0 h1 h2=>
  refine hv.er ?_;refine hu.ei λ_=>?_;refine ew (S.list hy) λxs k g1 g2 g3 g4=>?_;refine ao (g2.get h1) λz z1 z2=>?_;have hlt:=(Qs.mp h1).1;exact wpAny_getItem_list g4 h0 (by simp only [lim] at g3;lia) (by simpa using z1) (bf.hM S z2 h2)
 | tup h0 h1 h2=>
  refine hu.ei λ_=>?_;refine hv.et λ_ _ t1 l1 t2=>?_
  ·refine ao (t2.get h1) λz z1 z2=>?_;have hlt:=(Qs.mp z1).1;have hlen:=t2.length;exact getItem_tuple ⟨_,(S.fc _ _ t1).1,rfl,_,rfl⟩ (by exact Lz ‹_› (by rfl)) (by lia) (oz h0 (by simpa using hlt)) (by simpa using z1) (bf.hM S z2 h2)
 | nK h0 h1 h2=>
  refine hu.ei λ_=>?_;refine hv.ef λ_ _ _ _ t1 c1 d1 l1 t2=>?_
  ·refine ao (t2.get h1) λz z1 z2=>?_;have hlt:=(Qs.mp h1).1;exact wpAny_getItem_list ⟨_,(S.fc _ _ t1).1,c1,_,d1⟩ h0 (by lia) (by simpa using z1) (bf.hM S z2 h2)
theorem Cm (S:aJ x s.heap O H T) {v u:V} {val wal:Value} (hv:VR T v val) (hu:VR T u wal) {Q:V->Hp->Prop} (h:aN v u H Q) {value slice:PySem.Expr}
 (hs:∀a b,subscripted slice false a b=operate [a,b] (getItem a b)):wpAny (model prog w) A (subscriptTail value slice val wal) (bf x O T s Q) E s:=by
 have g:=mh (prog:=prog) (w:=w) (A:=A) (E:=E) S hv hu h;revert g
 cases h with
 | ref hy=>exact hv.er λg=>ew (S.list hy) λxs k g1 g2 g3 g4=>tail_any g4.typeIs slot_list_getitem.lookup g (hs _ _)
 | tup=>exact hv.et λ_ _ t1 l1 t2 g=>tail_any (T:="tuple") ⟨_,(S.fc _ _ t1).1,rfl⟩ slot_tuple_getitem.lookup g (hs _ _)
 | nK=>exact hv.ef λ_ _ _ _ t1 c1 d1 l1 t2 g=>tail_any (T:="list") ⟨_,(S.fc _ _ t1).1,c1⟩ slot_list_getitem.lookup g (hs _ _)
inductive Part:V->Value->Option Int->Prop
 | none:Part .none .none none
 | int (i:Int) (t:Tok):Part (.int i) (.int i t) (some i)
theorem ra (xs:List Value) {k:Int} (hk:0<=k):slicePick xs.toArray none (some k) none=(xs.take k.toNat).toArray:=by
 have:=slicePick_upto' xs.toArray k.toNat;rw [Sz hk] at this;simpa using this
theorem rd (xs:List Value) {k:Int} (hk:0<=k):slicePick xs.toArray (some k) none none=(xs.drop k.toNat).toArray:=by
 have:=slicePick_from' xs.toArray k.toNat;rw [Sz hk] at this;simpa using this
theorem rg (xs:List Value) {j k:Int} (hj:0<=j) (hk:j<=k):slicePick xs.toArray (some j) (some k) none=((xs.take k.toNat).drop j.toNat).toArray:=by
 rw [slicePick_plain]
 have e1:clipAt xs.toArray.size j=min j.toNat xs.length:=by have:=clipAt_nat xs.toArray.size j.toNat;rw [Sz hj] at this;simpa using this
 have e2:clipAt xs.toArray.size k=min k.toNat xs.length:=by have:=clipAt_nat xs.toArray.size k.toNat;rw [Sz (by lia)] at this;simpa using this
 simp only [Option.elim,e1,e2];congr 1;show (xs.drop (min j.toNat xs.length)).take (min k.toNat xs.length-min j.toNat xs.length)=_;rw [PySem.W.kmk_drop_min,List.drop_take];rcases Nat.le_total j.toNat xs.length with h1 | h1
 ·rw [Sp h1];rcases Nat.le_total k.toNat xs.length with h2 | h2
  ·rw [Sp h2]
  ·rw [Nat.min_eq_right h2,TS (by simp),TS (by simp;lia)]
 ·rw [List.drop_of_length_le h1];simp
theorem VR.pn {v:Value} (h:VR T .none v):IsPart v Option.none:=h.en IsPart.none
theorem VR.pi {i:Int} {v:Value} (h:VR T (.int i) v):IsPart v (some i):=h.ei λ_=>IsPart.int _ _
theorem Bq (S:aJ x s.heap O H T) {a:Addr} {vs:List V} {xs:List Value} (g4:s.heap.IsList a xs.toArray) (g2:cG T vs xs) (g3:vs.length<=lim) {lo hi:V} {vl vu:Value} (hl:VR T lo vl) (hh:VR T hi vu) {Q:V->Hp->Prop} (h:Fb vs H Q lo hi) {value:PySem.Expr} {lower upper:Option PySem.Expr} {p:Pos} :
 wpAny (model prog w) A (subscriptTail value (.Slice lower upper none p) (.ref a) (.ref s.heap.objs.size)) (bf x O T s Q) E { s with heap:=s.heap.push { cls:=.type "slice",data:=.fields #[vl,vu,.none] } }:=by
 have S1:aJ x (s.heap.push { cls:=.type "slice",data:=.fields #[vl,vu,.none] }) O H T:=S.grow λb o e=>Heap.get?_push_of_some _ e
 have fin:∀{lo' hi':Option Int} {us:List V} {ys:List Value},IsPart vl lo'->IsPart vu hi'->slicePick xs.toArray lo' hi' none=ys.toArray->cG T us ys->da us H Q->
  wpAny (model prog w) A (subscriptTail value (.Slice lower upper none p) (.ref a) (.ref s.heap.objs.size)) (bf x O T s Q) E { s with heap:=s.heap.push { cls:=.type "slice",data:=.fields #[vl,vu,.none] } }:=by
  intro lo' hi' us ys pl pu e hr hn;refine tail_any (g4.push _).typeIs slot_list_getitem.lookup (wpAny_getItem_list_slice (st:=none) (g4.push _) (Heap.IsSliceOf.new ..) pl pu .none (by simp) ?_ (by have:=g2.length;have:=g8;rw [Q6];lia)) (ops:=[.ref s.heap.objs.size,.ref a]) rfl;have S2:aJ x ((s.heap.push { cls:=.type "slice",data:=.fields #[vl,vu,.none] }).push { cls:=.type "list",data:=.seq (slicePick xs.toArray lo' hi' none) }) O H T:=S1.grow λb o e=>Heap.get?_push_of_some _ e;refine bf.newList (s:=s) (tk:=s.toks) (n:=0) S S2 (xs:=ys) ?_ ?_ hr hn
  ·show s.heap.objs.size<=(s.heap.push _).objs.size;rw [Heap.size_push];exact QA _ _
  ·rw [e];exact Heap.get?_push_size _ rfl
 cases h with
 | to h q=>exact fin hl.pn hh.pi (ra xs h.1) (g2.take _) q
 | mid h q=>exact fin hl.pi hh.pi (rg xs h.1 h.2.1) ((g2.take _).drop _) q
 | ME h q=>exact fin hl.pi hh.pn (rd xs h.1) (g2.drop _) q
theorem vM (S:aJ x s.heap O H T) {v lo hi:V} {val vl vu:Value} (hv:VR T v val) (hl:VR T lo vl) (hh:VR T hi vu) {Q:V->Hp->Prop} (h:ec v lo hi H Q) {value:PySem.Expr} {lower upper:Option PySem.Expr} {p:Pos} :
 wpAny (model prog w) A (subscriptTail value (.Slice lower upper none p) val (.ref s.heap.objs.size)) (bf x O T s Q) E { s with heap:=s.heap.push { cls:=.type "slice",data:=.fields #[vl,vu,.none] } }:=by
 cases h with
 | ref hy h=>
  refine hv.er ?_;refine ew (S.list hy) λxs k g1 g2 g3 g4=>?_;exact Bq S g4 g2 g3 hl hh h
 | nK h=>
  exact hv.ef λ_ _ _ _ t1 c1 d1 l1 t2=>Bq S ⟨_,(S.fc _ _ t1).1,c1,_,d1⟩ t2 (by simp only [lim];exact P8 ‹_› (by decide)) hl hh h
theorem lK (S:aJ x s.heap O H T) {v u y:V} {val wal yal:Value} (hv:VR T v val) (hu:VR T u wal) (hy:VR T y yal) {Q:Hp->Prop} (h:bV v u y H Q) :
 wpAny (model prog w) A (setItem val wal yal) (λ_=>yU x O T s Q) E s:=by
 cases h with
 | @mk a vs i hy' h0 hlt hq=>
  refine hv.er ?_;refine hu.ei λ_=>?_;refine ew (S.list hy') λxs k g1 g2 g3 g4=>?_;have hlen:=g2.length;refine ki_setAt g1 h0 (by simp only [lim] at g3;lia) (by simp;lia) ?_;refine ⟨_,T,Im.Le.refl T,S.upd (o':={ cls:=.type "list",data:=.seq (xs.set i.toNat yal).toArray k }) hy' (Heap.SameBut.update ..) ?_ (.list (g2.set hy _) (by simpa using g3)),⟨rfl,rfl⟩,hq⟩;rw [Heap.get?_update_self (Obj.mapSeq λx=>x.setIfInBounds i.toNat yal) g1 rfl];simp [Obj.mapSeq]
end
def cm:Prop:=∀{prog:Program} {w:World} {A:Around} {E:Value->Shared->Prop} {s:Shared} {l:Addr} {vs:List Value} {ns:List Int} {Q:Value->Shared->Prop},
 s.heap.IsList l vs.toArray->IntsAre vs ns->ns.length<=lim->
 (∀(h':Heap) (a:Addr) (vs':List Value) (ns':List Int) (e:Nat),(∀b o,s.heap.get? b=some o->h'.get? b=some o)->s.heap.objs.size<=a->h'.get? a=some { cls:=.type "list",data:=.seq vs'.toArray e }->
  IntsAre vs' ns'->ns'.Perm ns->(ns.length<64->ns'.Pairwise (·<=·))->Q (.ref a) { s with heap:=h' })->
 wpAny (model prog w) A (call (.builtin "sorted") [.ref l]) Q E s
theorem i5:∀{ns:List Int},(∀y∈ns,0<=y/\y<100)->PyData.weightAll (ns.map .int)<=9*ns.length
 | [],_=>by simp [PyData.weightAll]
 | a::r,h=>by
  have ih:=i5 λy hy=>h y (QC _ hy);have ha:=h a (QB ..)
  have hw:(PyData.int a).weight<=8:=by
   simp only [PyData.weight];split
   ·exact RI _ _
   ·rename_i h0
    have h0':a.natAbs≠0:=by simpa using h0
    have:a.natAbs.log2<7:=(Nat.log2_lt h0').mpr (by lia);exact P7 ‹_› (by decide)
  simp only [Q9,PyData.weightAll,List.length_cons];lia
theorem mU {ns:List Int} (h:∀y∈ns,0<=y/\y<100) (hl:ns.length<=100):(PyData.list (ns.map .int)).layable0=true:=by
 have hw:=i5 h
 have e1:(PyData.list (ns.map .int)).canLay0=true:=by rw [PyData.canLay0];exact ke_canLayAll0 ns
 have e2:(PyData.list (ns.map .int)).depth<=64:=by rw [PyData.depth,ke_depthAll];exact RI _ _
 have e3:(PyData.list (ns.map .int)).weight<=2^20:=by rw [PyData.weight];lia
 unfold PyData.layable0;rw [e1,Qq e2,Qq e3];rfl
section
variable {prog:Program} {w:World} {A:Around} {E:Value->Shared->Prop} {s:Shared} {x:Fx} {O:Lc} {H:Hp} {T:Im}
theorem bf.wD {h':Heap} {tk:Nat} (S':aJ x h' O H T) {a:Addr} {vs:List V} {xs:List Value} {n:Nat} (hn:H a=none) (ha:a≠x.env.locals) (hb:x.h₀.get? a=none) (ho:h'.get? a=some { cls:=.type "list",data:=.seq xs.toArray n })
 (hv:cG T vs xs) {Q:V->Hp->Prop} (h:da vs H Q):bf x O T s Q (.ref a) { s with heap:=h',toks:=tk }:=by
 refine ⟨_,H.upd a (.list vs),T,.ref _,Im.Le.refl T,?_,⟨rfl,rfl⟩,h.2 _ hn⟩;refine ⟨S'.cN,S'.fr,λb ob' e=>?_,S'.fc,S'.jD⟩;unfold Hp.upd at e;by_cases hb':b=a
 ·subst hb';rw [Qk rfl] at e;cases e;exact ⟨⟨_,ho,.list hv h.1⟩,ha,hb⟩
 ·rw [Qb hb'] at e;exact S'.own b ob' e
theorem uV (S:aJ x s.heap O H T) {v u:V} {val wal:Value} (hv:VR T v val) (hu:VR T u wal) {Q:V->Hp->Prop} (h:dD v u H Q) :
 wpAny (model prog w) A (call (.builtin "list.append") [val,wal]) (bf x O T s Q) E s:=by
 cases h with
 | mk hy hl hq=>
  refine hv.er ?_;refine ew (S.list hy) λxs k g1 g2 g3 g4=>?_;have hlen:=g2.length;refine append_at (hsz:=by have:=g8;rw [Q6];lia) g1 λh' hs ho=>?_;refine ⟨.none,_,T,.none,Im.Le.refl T,S.upd hy hs ho ?_,⟨rfl,rfl⟩,hq⟩;rw [show xs.toArray.push wal=(xs++ [wal]).toArray by simp];exact .list (g2.append (.cons hu .nil)) (by rw [Qc];exact hl)
theorem cG.zG {us:List V} {y:V} {xs:List Value} (h:cG T (us++ [y]) xs):∃p z,xs=p++ [z]/\cG T us p/\VR T y z:=by
 have h1:=h.take us.length;have h2:=h.drop us.length;rw [List.take_left'] at h1
 ·rw [List.drop_left'] at h2
  ·obtain ⟨z,e,hz⟩:=h2.one;exact ⟨_,z,by rw [<- e,QP],h1,hz⟩
  ·rfl
 ·rfl
theorem C8 (S:aJ x s.heap O H T) {v:V} {val:Value} (hv:VR T v val) {Q:V->Hp->Prop} (h:sU v H Q) :
 wpAny (model prog w) A (call (.builtin "list.pop") [val]) (bf x O T s Q) E s:=by
 cases h with
 | @mk a us y hy hq=>
  refine hv.er ?_;refine D9 (S.turns hy) λm o g0 g1 F N σ go=>?_;refine ew (IsList.of g1 g0) ?_;rintro xs n rfl g2 g3 g4;have hlen:=g2.length;obtain ⟨p,z,rfl,hp,hz⟩:=g2.zG;refine kl_pop F N (p:=p) (y:=z) (kpa_last z p) (σ _) (by show (p++ [z]).length<=sizeLine;have:=g8;lia) λh' F' N'=>?_;exact ⟨y,_,T,hz,Im.Le.refl T,go h' _ (.list us) F' N' (.list hp (by rw [Qc] at g3;exact RV g3)),⟨rfl,rfl⟩,hq⟩
theorem xm (S:aJ x s.heap O H T) {v u:V} {val wal:Value} (hv:VR T v val) (hu:VR T u wal) {Q:V->Hp->Prop} (h:kO v u H Q) :
 wpAny (model prog w) A (call (.builtin "list.index") [val,wal]) (bf x O T s Q) E s:=by
 cases h with
 | mk hy hn hx hl hb hq=>
  refine hv.er ?_;refine hu.ei λ_=>?_;refine ew (S.list hy) λxs k g1 g2 g3 g4=>?_;exact index_list_ints g4 (IntsAre.of g2 hn) (mU hb hl) hx (bf.keep S (.int _ _) hq)
theorem xM (S:aJ x s.heap O H T) {v u:V} {val wal:Value} (hv:VR T v val) (hu:VR T u wal) {Q:V->Hp->Prop} (h:kP v u H Q) :
 wpAny (model prog w) A (call (.builtin "list.count") [val,wal]) (bf x O T s Q) E s:=by
 cases h with
 | mk hy hn hq=>
  refine hv.er ?_;refine hu.ei λ_=>?_;refine ew (S.list hy) λxs k g1 g2 g3 g4=>?_;exact count_list_ints g4 (IntsAre.of g2 hn) (bf.keep S (.int _ _) hq)
noncomputable def ky:Bi->Value
 | .len=>.builtin "len"
 | .abs=>.builtin "abs"
 | .range=>.type "range"
 | .max=>.builtin "max"
 | .sorted=>.builtin "sorted"
 | .sum=>.builtin "sum"
 | .list=>.type "list"
theorem uj {a b c:Int} (ha:-1000000<=a/\a<=1000000) (hb:-1000000<=b/\b<=1000000) (hc:c=1\/c=-1) :
 Builtin.Range.small a b c=true/\Builtin.Range.rangeSize a b c=(cq a b c:Int):=by
 have hs:0<=Builtin.Range.rangeSize a b c/\Builtin.Range.rangeSize a b c<=2000000:=by
  unfold Builtin.Range.rangeSize
  rcases hc with rfl | rfl<;>simp<;>split<;>lia
 refine ⟨?_,by unfold cq;rw [Sz hs.1]⟩
 have fit:∀z:Int,-10000000<=z->z<=10000000->Builtin.Range.rangeFitsLong z=true:=λz h1 h2=>by
  unfold Builtin.Range.rangeFitsLong;simp;lia
 unfold Builtin.Range.small;rw [fit a (by lia) (by lia),fit b (by lia) (by lia),fit c (by lia) (by lia),fit _ (by lia:-10000000<=Builtin.Range.rangeSize a b c) (by lia)];rcases hc with rfl | rfl
 ·simp [fit (b+0) (by lia) (by lia),fit b (by lia) (by lia)]
 ·simp [fit (b+0) (by lia) (by lia),fit b (by lia) (by lia)]
theorem oB {h':Heap} {a b c:Int} {t u v:Tok} {tk:Nat} (S:aJ x s.heap O H T) (hh:h'=s.heap.push { cls:=.type "range",data:=.fields #[.int a t,.int b u,.int c v] })
 (ha:-1000000<=a/\a<=1000000) (hb:-1000000<=b/\b<=1000000) (hc:c=1\/c=-1) {Q:V->Hp->Prop} (h:Q (.f7 a b c) H):bf x O T s Q (.ref s.heap.objs.size) { s with heap:=h',toks:=tk }:=by
 subst hh;have hS:=S.Gb (h':=s.heap.push { cls:=.type "range",data:=.fields #[.int a t,.int b u,.int c v] }) (λb o e=>Heap.get?_push_of_some _ e) (Qn s.heap.objs.size) (Heap.get?_push_size _ rfl) (.inr ⟨_,rfl⟩);have:=uj ha hb hc;exact ⟨_,H,_,.f7 (t:=t) (u:=u) (v:=v) (by simp [Im.upd]) this.1 this.2,hS.1,hS.2,⟨rfl,rfl⟩,h⟩
def sF {b:Bi} {vs:List V} {xs:List Value} {Q:V->Hp->Prop}:Prop:=∀(hsort:cm) (S:aJ x s.heap O H T) (hh:A.handled=none) (hv:cG T vs xs) (h:b8 b vs H Q),wpAny (model prog w) A (call (ky b) xs) (bf x O T s Q) E s
theorem Ie {b:Bi} {vs:List V} {xs:List Value} {Q:V->Hp->Prop}:@sF prog w A E s x O H T b vs xs Q:=au (S:=λx:(Program×World×Around×(Value->Shared->Prop))×(Shared×Fx×Lc×Hp)×(Im×Bi×List V×List Value)×(V->Hp->Prop)=>@sF x.1.1 x.1.2.1 x.1.2.2.1 x.1.2.2.2 x.2.1.1 x.2.1.2.1 x.2.1.2.2.1 x.2.1.2.2.2 x.2.2.1.1 x.2.2.1.2.1 x.2.2.1.2.2.1 x.2.2.1.2.2.2 x.2.2.2) (x:=((default,dW,{},λ_ _=>True),({},BV,[],λ_=>none),(λ_=>none,.len,[],[]),λ_ _=>True)) (by
 refine (?_:∀prog w A E s x O H T b vs xs Q,@sF prog w A E s x O H T b vs xs Q) _ _ _ _ _ _ _ _ _ _ _ _ _;intro prog w A E s x O H T b vs xs Q hsort S hh hv h
 cases h with
 | @len a vs hy hq=>
  refine hv.e1 λ_ a1=>?_;refine a1.er ?_;refine ew (S.list hy) λxs k g1 g2 g3 g4=>?_;have hlen:=g2.length;refine len_list g4 (by simp only [lim] at g3;rw [Q6];lia) (bf.keep S (v:=.int vs.length) ?_ hq);rw [Q6,<- hlen];exact .int _ _
 | @JZ vs hq=>
  refine hv.e1 λ_ a1=>?_;refine a1.ef λa o vals n t1 c1 d1 l1 t2=>?_
  ·have hlen:=t2.length;refine len_list (items:=vals.toArray) ⟨_,(S.fc _ _ t1).1,c1,_,d1⟩ (by rw [Q6];lia) (bf.keep S (v:=.int vs.length) ?_ hq);rw [Q6,<- hlen];exact .int _ _
 | @abs i hq=>
  refine hv.e1 λ_ a1=>?_;refine a1.ei λ_=>?_;refine call_abs_int λu tk=>bf.keep S (v:=.int i.natAbs) ?_ hq;rw [show (if i<0 then -i else i)=(i.natAbs:Int) by split<;>lia];exact .int _ _
 | @max i j hq=>
  refine hv.e2 λ_ _ a1 a2=>?_;refine a1.ei λ_=>?_;refine a2.ei λ_=>?_;obtain ⟨m,F,N,go⟩:=S.news;refine max_two_N hh F N λh' tk F' N'=>⟨.int (max i j),H,T,?_,Im.Le.refl T,(go h' [] F' N').1,⟨rfl,rfl⟩,hq⟩;rw [show (if j>i then j else i)=max i j by split<;>lia];exact .int _ _
 | CD h hq=>
  refine hv.e1 λ_ a1=>?_;refine a1.ei λ_=>?_;exact call_range_1 (oB S rfl (by decide) h (.inl rfl) hq)
 | FI h hq=>
  refine hv.e2 λ_ _ a1 a2=>?_;refine a1.ei λ_=>?_;refine a2.ei λ_=>?_;exact call_range_2 (oB S rfl h.1 h.2 (.inl rfl) hq)
 | CC h hc hq=>
  subst hc;refine hv.e3 λ_ _ _ a1 a2 a3=>?_;refine a1.ei λ_=>?_;refine a2.ei λ_=>?_;refine a3.ei λ_=>?_;exact PySem.call_range_3 (by decide) (oB S rfl h.1 h.2 (.inr rfl) hq) (.inl (TP (by decide)))
 | sorted hy hn hq=>
  refine hv.e1 λ_ a1=>?_;refine a1.er ?_;refine ew (S.list hy) λxs k g1 g2 g3 g4=>?_;have hi:=IntsAre.of g2 hn;refine hsort g4 hi (hi.length ▸ g2.length ▸ g3) λh' a vs' ns' e hk ha ho hi' hp ho'=>?_;exact bf.newList (tk:=s.toks) S (S.grow hk) ha ho (cG.oP hi') (hq ns' hp ho')
 | @sum a vs ns hy hn hq=>
  refine hv.e1 λ_ a1=>?_;refine a1.er ?_;refine ew (S.list hy) λxs k g1 g2 g3 g4=>?_;obtain ⟨m,F,N,go⟩:=S.news;exact sumK hh F N g4 (IntsAre.of g2 hn) λh' tk t' F' N'=>⟨.int ns.sum,H,T,.int _ _,Im.Le.refl T,(go h' [] F' N').1,⟨rfl,rfl⟩,hq⟩
 | list hy hq=>
  refine hv.e1 λ_ a1=>?_;refine a1.er ?_;refine ew (S.list hy) λxs k g1 g2 g3 g4=>?_;obtain ⟨m,F,N,go⟩:=S.news;refine list_copyK F N g4 (λD c h' F' N' hD=>?_) (by have:=g2.length;have:=g8;rw [Q6];lia);have N1:=N' _ (QB ..)
  have hn:H D=none:=by
   cases e:H D with
   | none=>rfl
   | some ob=>
    refine dJ (S.own D ob e) ?_;rintro ⟨o,e1,_⟩ e2 e3;exact absurd (hD (D,o) (eQ.mpr ⟨e1,e2,e3⟩)) (Q8 _)
  exact bf.wD (tk:=s.toks) (go h' [_] F' N').1 hn N1.2.1 N1.2.2 N1.1 g2 hq) ((prog,w,A,E),(s,x,O,H),(T,b,vs,xs),Q)
end
structure uc (K:Frag) (ca:Nat->Addr):Prop where
 get:∀c,c<3->∀n,n<attrs.length->plainGet K (ca c) (an n)=true/\findIn K (.ref (ca c)) (an n)=some none/\takerIn K (ca c) (an n)=some none
 dict:∀c,c<3->hasDictIn K (ca c)=true/\plainOver K (ca c)=true/\findIn K (.ref (ca c)) "__setattr__"=some (some (.builtin "object.__setattr__"))
theorem AH {T:Im} {n:Nat} (hn:n<attrs.length) {fs:List (Nat×V)} {es:List DictEntry} (h:DR T fs es):∀{v:V},fe n fs=some v->∃val,PySem.W.getL (an n) es=some (some val)/\VR T v val:=by
 induction h with
 | nil=>exact λh=>nomatch h
 | @cons k v0 hs t y fs es l a b ih=>
  intro v h;unfold fe at h;unfold PySem.W.getL;by_cases e:k=n
  ·rw [Qk e] at h;cases h;subst e;refine ⟨y,?_,a⟩;rw [List.find?_cons_of_pos (by simp [Value.isStr])]
  ·rw [Qb e] at h;refine ao (ih h) λval h1 h2=>?_;refine ⟨val,?_,h2⟩;have hk:(Value.str (an k) t).isStr (an n)=false:=Sy.mpr λq=>e (yM k n l hn q);rw [List.find?_cons_of_neg (Bool.not_eq_true _ ▸ hk)];exact h1
theorem uq {T:Im} {fs:List (Nat×V)} {es:List DictEntry} (h:DR T fs es):es.any (·.refKey)=false:=by
 induction h with
 | nil=>rfl
 | cons _ _ _ ih=>rw [List.any_cons,ih];rfl
theorem uJ {T:Im} {n:Str} {fs:List (Nat×V)} {es:List DictEntry} (h:DR T fs es):(PySem.W.getL n es).isSome=true:=by
 unfold PySem.W.getL;split
 ·rfl
 ·rw [uq h];rfl
theorem z0 {T:Im} {n:Nat} (hn:n<attrs.length) {hs:Int} {t:Tok} {v:V} {val:Value} (hv:VR T v val) {fs:List (Nat×V)} {es:List DictEntry} (h:DR T fs es) :
 DR T (gB n v fs) (putL (an n) hs (.str (an n) t) val es):=by
 induction h with
 | nil=>exact .cons hn hv .nil
 | @cons k v0 hs' t' y fs es l a b ih=>
  unfold gB putL;by_cases e:k=n
  ·rw [Qk e,Qk (by rw [e];simp [Value.isStr])];subst e;exact .cons l hv b
  ·have hk:(Value.str (an k) t').isStr (an n)=false:=Sy.mpr λq=>e (yM k n l hn q);rw [Qb e,Qb (Bool.not_eq_true _ ▸ hk)];exact .cons l a ih
theorem km (n:Str) (hs:Int) (k v:Value):∀es:List DictEntry,(putL n hs k v es).length<=es.length+1
 | []=>by simp [putL]
 | e::r=>by
  unfold putL;have:=km n hs k v r
  split<;>simp only [List.length_cons]<;>lia
section
variable {prog:Program} {w:World} {A:Around} {E:Value->Shared->Prop} {s:Shared} {x:Fx} {O:Lc} {H:Hp} {T:Im} {K:Frag}
theorem uI {v:V} {val:Value} (h:VR T v val):handedIn val=true:=by cases h<;>rfl
theorem ua (X:K.In x.base) (C:uc K x.ca) (S:aJ x s.heap O H T) {v:V} {val:Value} (hv:VR T v val) {n:Nat} (hn:n<attrs.length) {expr:Bool} {Q:V->Hp->Prop} (h:dP v n H Q) :
 wpAny (model prog w) A (getAttr val (an n) expr) (bf x O T s Q) E s:=by
 cases h with
 | mk hy hz hf hq=>
  refine hv.er ?_;refine aD (S.own _ _ hy) ?_;rintro ⟨o,e1,e2⟩ _;refine aD (S.own _ _ hz) ?_;rintro ⟨od,d1,d2⟩ _
  cases e2 with
  | inst hc=>
   cases d2 with
   | dict hd=>
    refine ao (AH hn hd hf) λval g1 g2=>?_;obtain ⟨m,F,_⟩:=S.fr;have cg:=C.get _ hc _ hn;exact get_own F (X.keeps S.cN) ⟨e1,rfl,rfl,d1⟩ cg.1 (C.dict _ hc).1 cg.2.1 rfl g1 (uI g2) (bf.keep S g2 hq)
theorem lL (X:K.In x.base) (C:uc K x.ca) (S:aJ x s.heap O H T) {v y:V} {val yal:Value} (hv:VR T v val) (hy:VR T y yal) {n:Nat} (hn:n<attrs.length) {Q:Hp->Prop} (h:bj v n y H Q) :
 wpAny (model prog w) A (setAttr val (an n) yal) (λ_=>yU x O T s Q) E s:=by
 cases h with
 | mk hi hz hl hq=>
  refine hv.er ?_;refine aD (S.own _ _ hi) ?_;rintro ⟨o,e1,e2⟩ _;refine D9 (S.turns hz) λm od d1 d2 F N σ go=>?_
  cases e2 with
  | inst hc=>
   cases d2 with
   | @dict _ es k hd=>
    have cg:=C.get _ hc _ hn;have cd:=C.dict _ hc;have hlen:=hd.length;refine set_dict F (X.keeps S.cN) N ⟨e1,rfl,rfl,d1⟩ rfl cd.2.2 cd.2.1 cg.2.2 cd.1 (uJ hd) rfl (σ _) (by have:=km (an n) (PyData.keyHash w.params (an n)) (.str (an n) (s.toks+1)) yal es;lia) λh' F' N'=>?_;exact ⟨_,T,Im.Le.refl T,go h' _ _ F' N' (.dict (z0 hn hy hd)),⟨rfl,rfl⟩,hq⟩
end
structure Rn (prog:Program) (w:World) (K:Frag) (base:Heap) (ca fa:Nat->Addr) (A:Around) (Γ:Sg):Prop where
 tC:K.In base
 lim:base.NoLimit
 g:∃mg,base.Ns mainGlobals mg
 b:∃mb,base.Ns builtinsNs mb/\∀x,x≠("__name__":Str)->mb x=bootBuiltins x
 cls:uc K ca
 AG:∀n i,di n gt=some (.int i)->∃t,nsIn K mainGlobals n=some (some (.int i t))
 AE:∀n is,di n gt=some (.tup is)->∃a vals,nsIn K mainGlobals n=some (some (.ref a))/\K.lookup a=some { cls:=.type "tuple",data:=.seq vals.toArray }/\IntsAre vals is/\is.length<=1000
 I6:∀n k,di n gt=some (.fn k)->nsIn K mainGlobals n=some (some (.ref (fa k)))/\keepIn K (.ref (fa k))=true
 AJ:∀n c,di n gt=some (.cls c)->nsIn K mainGlobals n=some (some (.ref (ca c)))/\keepIn K (.ref (ca c))=true/\c<3
 I7:∀n b,di n gt=some (.bi b)->nsIn K mainGlobals n=some none/\bootBuiltins n=some (ky b)/\n≠("__name__":Str)
 xA:∀n g,di n gt=some g->(n == ("__debug__":Str))=false
 hh:A.handled=none
 un:A.units+100<cLine
 call:∀{E:Value->Shared->Prop} {s:Shared} {x:Fx} {O:Lc} {H:Hp} {T:Im} {f:Nat} {vs:List V} {xs:List Value} {Q:V->Hp->Prop},x.base=base->x.ca=ca->aJ x s.heap O H T->cG T vs xs->Γ f vs H Q->
  wpAny (model prog w) A (PySem.call (.ref (fa f)) xs) (bf x O T s Q) E s
 new:∀{E:Value->Shared->Prop} {s:Shared} {x:Fx} {O:Lc} {H:Hp} {T:Im} {c:Nat} {vs:List V} {xs:List Value} {Q:V->Hp->Prop},c<3->x.base=base->x.ca=ca->aJ x s.heap O H T->cG T vs xs->
  (∀a dx,H a=none->H dx=none->a≠dx->Γ (1000+c) (.ref a::vs) ((H.upd a (.inst c dx)).upd dx (.dict [])) λv H=>isNone v=true/\Q (.ref a) H)->
  wpAny (model prog w) A (PySem.call (.ref (ca c)) xs) (bf x O T s Q) E s
structure En (x:Fx) (sc:Scope) (ns:List Str):Prop where
 JU:x.ns=ns
 kind:x.env.scope.kind=.function
 glob:x.env.globals=mainGlobals
 blt:x.env.builtins=builtinsNs
 gl:∀n,sc.names.lookup n=some .globalImplicit->x.env.kindOf n=some .globalImplicit
 cf:∀n,sc.names.lookup n=some .cell\/sc.names.lookup n=some .free->(x.env.kindOf n=some .cell\/x.env.kindOf n=some .free)/\∃c,x.env.cells.lookup n=some c
 MH:∀n∈ns,(n == ("__debug__":Str))=false/\(n == ("__classdict__":Str))=false
theorem fC {n:Str}:∀{ns:List Str} {i:Nat},eu n ns=some i->ns[i]?=some n
 | [],_,h=>by simp [eu] at h
 | m::r,i,h=>by
  unfold eu at h;by_cases e:PySem.W.Fast.sEq m n=true
  ·rw [Qk e] at h;cases h;simp [PySem.W.Fast.sEq_iff.mp e]
  ·rw [Qb e] at h
   cases q:eu n r with
   | none=>rw [q] at h;cases h
   | some j=>rw [q] at h;simp at h;subst h;simpa using fC q
section
variable {prog:Program} {w:World} {A:Around} {E:Value->Shared->Prop} {s:Shared} {x:Fx} {O:Lc} {H:Hp} {T:Im} {K:Frag} {base:Heap} {ca fa:Nat->Addr} {Γ:Sg} {sc:Scope} {ns:List Str}
inductive ub (x:Fx) (O:Lc) (T:Im) (s:Shared) (Q:List V->Hp->Prop) (vals:List Value) (s':Shared):Prop
 | mk (vs:List V) (H':Hp) (T':Im) (hv:cG T' vs vals) (le:T.Le T') (S:aJ x s'.heap O H' T') (go:jB s s') (q:Q vs H'):ub x O T s Q vals s'
theorem bf.up {T':Im} {s' s'':Shared} {Q:V->Hp->Prop} {val:Value} (le:T.Le T') (hs:jB s s') (h:bf x O T' s' Q val s''):bf x O T s Q val s'':=by
 obtain ⟨v,H',T'',a,b,c,d,e⟩:=h;exact ⟨v,H',T'',a,le.trans b,c,⟨d.1.trans hs.1,d.2.trans hs.2⟩,e⟩
theorem bH {m:Sem Value} {P:V->Hp->Prop} {R:Value->Shared->Prop} (hm:wpAny (model prog w) A m (bf x O T s P) E s)
 (hf:∀v H' T' val s₁,T.Le T'->jB s s₁->aJ x s₁.heap O H' T'->VR T' v val->P v H'->R val s₁) :
 wpAny (model prog w) A m R E s:=
 wpAny_mono hm (λval s₁ ⟨v,H',T',a,b,c,d,e⟩=>hf v H' T' val s₁ b d c a e) λ_ _ h=>h
theorem qY {T':Im} {s₁:Shared} {m:Sem Value} {Q:V->Hp->Prop} (le:T.Le T') (hs:jB s s₁) (h:wpAny (model prog w) A m (bf x O T' s₁ Q) E s₁):wpAny (model prog w) A m (bf x O T s Q) E s₁:=
 wpAny_mono h (λ_ _ h=>h.up le hs) λ_ _ h=>h
theorem aJ.LY {h:Heap} (S:aJ x h O H T) {a:Addr} {o:Obj} (he:x.base.get? a=some o) (hi:mI o):∃T',T.Le T'/\T' a=some o/\aJ x h O H T':=by
 have ho:=S.keep a o he
 have le:T.Le (T.upd a o):=λb o' e=>by
  unfold Im.upd;by_cases hb:b=a
  ·subst hb;rw [Qk rfl];have:=(S.fc b o' e).1;rw [ho] at this;exact this
  ·rw [Qb hb];exact e
 obtain ⟨m,F,hl⟩:=S.fr;refine ⟨T.upd a o,le,by simp [Im.upd],S.cN,⟨m,F,λi v e=>?_⟩,λb ob e=>?_,λb o' e=>?_,S.jD⟩
 ·refine fF (hl i v e) λn val q1 q2 q3=>?_;exact ⟨n,val,q1,q2,q3.mono le⟩
 ·refine aD (S.own b ob e) ?_;rintro ⟨o2,q1,q2⟩ q3;exact ⟨⟨o2,q1,q2.mono le⟩,q3⟩
 ·unfold Im.upd at e;by_cases hb:b=a
  ·subst hb;rw [Qk rfl] at e;cases e;exact ⟨ho,.inl hi⟩
  ·rw [Qb hb] at e;exact S.fc b o' e
theorem iz (R:Rn prog w K base ca fa A Γ) (N:En x sc ns) (hb:x.base=base) (S:aJ x s.heap O H T) {n:Str} {p:Pos} (hsc:(sc.names.lookup n == some .globalImplicit)=true) {g:Gl} (hg:di n gt=some g) {v:Value}
 (hv:nsIn K mainGlobals n=some (some v)) {Q:Value->Shared->Prop} (h:Q v s):wpAny (model prog w) A (eval (.Name n p) x.env) Q E s:=by
 obtain ⟨mg,hmg⟩:=R.g
 have hm:s.heap.Ns mainGlobals mg:=by
  refine AS hmg λo es ep a b c=>?_;exact ⟨o,es,ep,S.keep _ _ (by rw [hb];exact a),b,c⟩
 have e:mg n=some v:=mg_of (R.tC) hmg hv;exact Name_function_global N.kind (N.gl n (eq_of_beq hsc)) (loadGlobal_global (by rw [N.glob];exact hm) e h) (R.xA n g hg)
theorem sC (R:Rn prog w K base ca fa A Γ) (N:En x sc ns) (hb:x.base=base) (S:aJ x s.heap O H T) {n:Str} {p:Pos} (hsc:(sc.names.lookup n == some .globalImplicit)=true) {b:Bi} (hg:di n gt=some (.bi b))
 {Q:Value->Shared->Prop} (h:Q (ky b) s):wpAny (model prog w) A (eval (.Name n p) x.env) Q E s:=by
 obtain ⟨mg,hmg⟩:=R.g;obtain ⟨mb,hmb,hbo⟩:=R.b;have kp:∀{a m},base.Ns a m->s.heap.Ns a m:=λ⟨o,es,ep,a,b,c⟩=>⟨o,es,ep,S.keep _ _ (by rw [hb];exact a),b,c⟩;refine dJ (R.I7 n b hg) λh1 h2 h3=>?_;have e:mg n=none:=mg_none_of (R.tC) hmg h1;exact Name_function_global N.kind (N.gl n (eq_of_beq hsc)) (loadGlobal_builtin (by rw [N.glob];exact kp hmg) e (by rw [N.blt];exact kp hmb) ((hbo n h3).trans h2) h) (R.xA n _ hg)
theorem ko (N:En x sc ns) (S:aJ x s.heap O H T) {n:Str} {i:Nat} (hi:eu n ns=some i) {v:V} (hv:getL O i=some v) {Q:Value->Shared->Prop} (h:∀val,VR T v val->Q val s) :
 wpAny (model prog w) A (loadName x.env n) Q E s:=by
 obtain ⟨m,F,hl⟩:=S.fr;refine fF (hl i v hv) λn' val h1 h2 h3=>?_;have hn:=fC hi;rw [N.JU,hn] at h1;cases h1;have hd:=N.MH n (QJ hn);rcases h2 with ⟨a,b⟩ | ⟨a,c,b,d⟩
 ·exact wpAny_loadName_local N.kind a F.ns b (h _ h3)
 ·rcases a with a | a
  ·exact wpAny_loadName_cell N.kind a b d (h _ h3)
  ·exact wpAny_loadName_free N.kind a b d (h _ h3) hd.2
theorem Dq (N:En x sc ns) (S:aJ x s.heap O H T) {n:Str} {p:Pos} {i:Nat} (hi:eu n ns=some i) {v:V} (hv:getL O i=some v) {Q:V->Hp->Prop} (h:Q v H) :
 wpAny (model prog w) A (eval (.Name n p) x.env) (bf x O T s Q) E s:=by
 have hd:=N.MH n (QJ (fC hi));exact wpAny_Name (ko N S hi hv λval hr=>bf.hM S hr h) hd.1
theorem Ak (R:Rn prog w K base ca fa A Γ) (N:En x sc ns) (hb:x.base=base) (S:aJ x s.heap O H T) {n:Str} {p:Pos} {Q:V->Hp->Prop} (h:bp Γ (t7 gt sc ns n) O H Q) :
 wpAny (model prog w) A (eval (.Name n p) x.env) (bf x O T s Q) E s:=by
 refine Cd h (λi hi h=>?_) λhsc g hg h=>?_
 ·refine ao (Fj h) λv hv h=>?_;exact Dq N S hi hv h
 ·cases g with
  | int i=>
   refine bJ (R.AG n i hg) λt ht=>?_;exact iz R N hb S hsc hg ht (bf.hM S (.int _ _) h)
  | tup is=>
   refine ew (R.AE n is hg) λa vals h1 h2 h3 h4=>?_;refine gP (S.LY (by rw [hb];exact R.tC _ _ h2) (.inl ⟨_,_,rfl,rfl⟩)) λT' le ha S'=>?_;exact iz R N hb S hsc hg h1 ⟨.tup (is.map .int),H,T',.tup ha (by simpa using h4) (cG.oP h3),le,S',⟨rfl,rfl⟩,h⟩
  | _=>exact h.elim
end
section
variable (prog:Program) (w:World) (K:Frag) (base:Heap) (ca fa:Nat->Addr)
def PE (e:PySem.Expr):Prop:=∀{A:Around} {Γ:Sg} {x:Fx} {sc:Scope} {ns:List Str} {O:Lc} {H:Hp} {T:Im} {s:Shared} {E:Value->Shared->Prop} {Q:V->Hp->Prop},
 Rn prog w K base ca fa A Γ->En x sc ns->x.base=base->x.ca=ca->aJ x s.heap O H T->bp Γ (cE gt attrs sc ns e) O H Q->wpAny (model prog w) A (eval e x.env) (bf x O T s Q) E s
def Tr (P:Bool->Hp->Prop):V->Hp->Prop:=λv H=>match truthy v with
 | some b=>P b H
 | none=>False
inductive gu (x:Fx) (O:Lc) (T:Im) (s:Shared) (P:Bool->Hp->Prop) (b:Bool) (s':Shared):Prop
 | mk (H':Hp) (T':Im) (le:T.Le T') (S:aJ x s'.heap O H' T') (go:jB s s') (q:P b H'):gu x O T s P b s'
def PT (e:PySem.Expr):Prop:=∀{A:Around} {Γ:Sg} {x:Fx} {sc:Scope} {ns:List Str} {O:Lc} {H:Hp} {T:Im} {s:Shared} {E:Value->Shared->Prop} {P:Bool->Hp->Prop},
 Rn prog w K base ca fa A Γ->En x sc ns->x.base=base->x.ca=ca->aJ x s.heap O H T->bp Γ (cE gt attrs sc ns e) O H (Tr P)->wpAny (model prog w) A (isTrue e x.env (eval e x.env)) (gu x O T s P) E s
def B8 (es:List PySem.Expr):Prop:=∀{A:Around} {Γ:Sg} {x:Fx} {sc:Scope} {ns:List Str} {O:Lc} {H:Hp} {T:Im} {s:Shared} {E:Value->Shared->Prop} {Q:List V->Hp->Prop},
 Rn prog w K base ca fa A Γ->En x sc ns->x.base=base->x.ca=ca->aJ x s.heap O H T->lp Γ (zf gt attrs sc ns es) O H Q->wpAny (model prog w) A (spliced (es.map λe=>(false,eval e x.env))) (ub x O T s Q) E s
def PB (op:BoolOp) (es:List PySem.Expr):Prop:=∀{A:Around} {Γ:Sg} {x:Fx} {sc:Scope} {ns:List Str} {O:Lc} {H:Hp} {T:Im} {s:Shared} {E:Value->Shared->Prop} {Q:V->Hp->Prop} {pos:Pos},
 Rn prog w K base ca fa A Γ->En x sc ns->x.base=base->x.ca=ca->aJ x s.heap O H T->oa Γ op (zf gt attrs sc ns es) O H Q->
  wpAny (model prog w) A (boolOp pos op (evalEach es x.env)) (bf x O T s Q) E s
def IE (op:BoolOp) (es:List PySem.Expr):Prop:=∀{A:Around} {Γ:Sg} {x:Fx} {sc:Scope} {ns:List Str} {O:Lc} {H:Hp} {T:Im} {s:Shared} {E:Value->Shared->Prop} {P:Bool->Hp->Prop},
 Rn prog w K base ca fa A Γ->En x sc ns->x.base=base->x.ca=ca->aJ x s.heap O H T->oa Γ op (zf gt attrs sc ns es) O H (Tr P)->
  wpAny (model prog w) A (allTrue op es x.env) (gu x O T s P) E s
def f5:Prop:=∀(x:Str) (xp:Pos) (it elt:PySem.Expr) (ifs:List PySem.Expr) (sc':Scope) (pos:Pos),ifs.length<=1->PE prog w K base ca fa it->PE prog w K base ca fa elt->(∀c∈ifs,PT prog w K base ca fa c)->
 PE prog w K base ca fa (.ListComp elt [⟨.Name x xp,it,ifs,0⟩] sc' pos)
end
section
variable {prog:Program} {w:World} {A:Around} {E:Value->Shared->Prop} {s:Shared} {x:Fx} {O:Lc} {H:Hp} {T:Im} {K:Frag} {base:Heap} {ca fa:Nat->Addr} {Γ:Sg} {sc:Scope} {ns:List Str}
theorem gu.up {T':Im} {s' s'':Shared} {P:Bool->Hp->Prop} {b:Bool} (le:T.Le T') (hs:jB s s') (h:gu x O T' s' P b s''):gu x O T s P b s'':=by
 obtain ⟨H',T'',b,c,d,e⟩:=h;exact ⟨H',T'',le.trans b,c,⟨d.1.trans hs.1,d.2.trans hs.2⟩,e⟩
theorem Js {T':Im} {s₁:Shared} {m:Sem Bool} {P:Bool->Hp->Prop} (le:T.Le T') (hs:jB s s₁) (h:wpAny (model prog w) A m (gu x O T' s₁ P) E s₁):wpAny (model prog w) A m (gu x O T s P) E s₁:=
 wpAny_mono h (λ_ _ h=>h.up le hs) λ_ _ h=>h
theorem gu.keep (S:aJ x s.heap O H T) {P:Bool->Hp->Prop} {b:Bool} (h:P b H):gu x O T s P b s:=⟨H,T,Im.Le.refl T,S,⟨rfl,rfl⟩,h⟩
theorem fq {pos:Pos} {env:Env}:∀{es:List PySem.Expr},eI es=true->backTo pos (starEach es env)=es.map λe=>(false,eval e env)
 | [],_=>rfl
 | e::r,h=>by
  have h':eI r=true/\starEach (e::r) env=(false,eval e env)::starEach r env:=by
   cases e<;>first | exact ⟨h,rfl⟩ | cases h
  rw [h'.2];show (false,eval e env)::backTo pos (starEach r env)=_;rw [fq h'.1];rfl
theorem iJ {env:Env} (es:List PySem.Expr):((es.map λe=>((false,eval e env):Bool×Sem Value)).any (·.1))=false:=by
 induction es with
 | nil=>rfl
 | cons e r ih=>rw [Q9,List.any_cons,ih];rfl
theorem pJ {o:PySem.Expr} (h:gj o=true) (n:Str) (env:Env) (whole:Sem Value):attributeBase o n env whole=whole:=by
 cases o<;>first | rfl | cases h
theorem sub_eq {sl:PySem.Expr} (h:hU sl=false) (a b:Value):subscripted sl false a b=operate [a,b] (getItem a b):=by
 cases sl<;>first | rfl | cases h
theorem rC {e:PySem.Expr} (h:PE prog w K base ca fa e) (he:∀env whole,isTrue e env whole=(do let v <- whole;standAt e.pos;holding [v] (PySem.truthy v))):PT prog w K base ca fa e:=by
 intro A Γ x sc ns O H T s E P R N hb hc S hw;refine isTrue_plain ?_ (he _ _);refine bH (h R N hb hc S hw) λv H' T' val s₁ le hs S' hv hp=>?_;unfold Tr at hp;split at hp
 ·rename_i b hb';exact jG hv hb' (gu.up le hs (gu.keep S' hp))
 ·exact hp.elim
theorem qD {f:Value} {pos:Pos} {args:List PySem.Expr} (R:Rn prog w K base ca fa A Γ) (hb:x.base=base) (S:aJ x s.heap O H T) (hs:eI args=true) (hk:keepIn K f=true) {Q':List V->Hp->Prop} {Q:Value->Shared->Prop}
 (h:wpAny (model prog w) A (spliced (args.map λe=>(false,eval e x.env))) (ub x O T s Q') E s)
 (hc:∀vs H' T' vals s₁,T.Le T'->jB s s₁->aJ x s₁.heap O H' T'->cG T' vs vals->Q' vs H'->wpAny (model prog w) A (PySem.call f vals) Q E s₁) :
 wpAny (model prog w) A (callWith pos f [] (backTo pos (starEach args x.env)) (backToKw pos (keywordEach [] x.env))) Q E s:=by
 rw [fq hs];have hX:∀{s₁:Shared} {H' T'},aJ x s₁.heap O H' T'->K.In s₁.heap:=λS' a o e=>S'.keep a o (by rw [hb];exact R.tC a o e)
 have fin:wpAny (model prog w) A (evalArgs f true (args.map λe=>(false,eval e x.env)) []) (λa s₁=>K.In s₁.heap/\wpAny (model prog w) A (PySem.call f ([]++a.pos) a.kw) Q E s₁) E s:=by
  cases args with
  | nil=>
   refine evalArgs_nil3 ?_;have h1:ub x O T s Q' [] s\/True:=.inr trivial;refine ⟨hX S,?_⟩;have:=h;rw [List.map_nil] at this;have e:spliced ([]:List (Bool×Sem Value))=pure []:=rfl;rw [e] at this;intro Γ' p hΓ;obtain ⟨vs,H',T',a,b,c,d,q⟩:=this Γ' p hΓ;exact hc vs H' T' [] s b d c a q Γ' p hΓ
  | cons e r=>
   refine evalArgs_plain (wpAny_mono h (λvals s₁ h₁=>?_) λ_ _ h=>h);obtain ⟨vs,H',T',a,b,c,d,q⟩:=h₁;exact ⟨hX c,hc vs H' T' vals s₁ b d c a q⟩
 exact callWith_of (by rw [iJ];rfl) (keeps_K hk) fin
end
section
variable {prog:Program} {w:World} {K:Frag} {base:Heap} {ca fa:Nat->Addr}
theorem xV {M:Model} {A:Around} {E:Value->Shared->Prop} {s:Shared} {b:Bi} {pos:Pos} {trees:List (Bool×Sem Value)} {Q:Value->Shared->Prop} (ha:(trees.any λx=>x.1)=false)
 (h:wpAny M A (evalArgs (ky b) true trees []) (λa s₁=>wpAny M A (PySem.call (ky b) ([]++a.pos) a.kw) Q E s₁) E s):wpAny M A (callWith pos (ky b) [] trees []) Q E s:=by
 cases b
 ·exact callWith_builtin ha h
 ·exact callWith_builtin ha h
 ·exact PyProof.Rows.callWith_type ha h
 ·exact callWith_builtin ha h
 ·exact callWith_builtin ha h
 ·exact callWith_builtin ha h
 ·exact PyProof.Rows.callWith_type ha h
theorem FZ {b:Bi} {H:Hp} {Q:V->Hp->Prop} (h:b8 b [] H Q):False:=by
 cases h
theorem A1 {n:Str} {np:Pos} {args:List PySem.Expr} {pos:Pos} (hsort:cm) (ih:B8 prog w K base ca fa args):PE prog w K base ca fa (.Call (.Name n np) args [] pos):=by
 intro A Γ x sc ns O H T s E Q R N hb hc S hw;refine aD (gw hw) λ_ hw=>?_;refine aD (gw hw) λhlen hw=>?_;refine aD (QV.mp hlen) λhlen hstar=>?_;obtain ⟨hsc,g,hg,hw⟩:=vn hw;refine wpAny_Call_Name_kw ?_
 cases g with
 | fn k=>
  refine aD (R.I6 n k hg) λh1 h2=>?_;refine iz R N hb S hsc hg h1 ?_;refine qD R hb S hstar h2 (ih R N hb hc S hw) λvs H' T' vals s₁ le hs S' hv hq=>?_;exact qY le hs (R.call hb hc S' hv hq)
 | cls c=>
  refine dJ (R.AJ n c hg) λh1 h2 h3=>?_;refine iz R N hb S hsc hg h1 ?_;refine qD R hb S hstar h2 (ih R N hb hc S hw) λvs H' T' vals s₁ le hs S' hv hq=>?_;exact qY le hs (R.new h3 hb hc S' hv hq)
 | bi b=>
  refine sC R N hb S hsc hg ?_;rw [fq hstar];have sp:=ih (E:=E) R N hb hc S hw
  cases args with
  | nil=>
   intro Γ' p hΓ;obtain ⟨vs,H',T',a,b',c,d,q⟩:=sp Γ' p hΓ;cases a;exact (FZ q).elim
  | cons e r=>
   refine xV (iJ (env:=x.env) (e::r)) (evalArgs_plain (wpAny_mono sp (λvals s₁ h₁=>?_) λ_ _ h=>h));obtain ⟨vs,H',T',a,b',c,d,q⟩:=h₁;exact qY b' d (Ie hsort c R.hh a q)
 | _=>exact hw.elim
theorem xF {env:Env} {pos:Pos} (args:List PySem.Expr) (hs:eI args=true) (hl:args.length<30) :
 ((backTo pos (starEach args env)).all (λx=>!x.1) && (backToKw pos (keywordEach [] env)).all (λx=>x.1.isSome) && decide (args.length+([]:List Keyword).length+(if ([]:List Keyword).isEmpty then 0 else 1)<30))=true:=by
 rw [fq hs]
 have:∀es:List PySem.Expr,((es.map λe=>((false,eval e env):Bool×Sem Value)).all λx=>!x.1)=true:=λes=>by
  induction es with
  | nil=>rfl
  | cons e r ih=>rw [Q9,List.all_cons,ih];rfl
 rw [this];exact Qq (show args.length+0+0<30 from hl)
theorem xj {v:V} {H:Hp} (h:DV v H):∃a vs,v=.ref a/\H a=some (.list vs):=by
 cases h with
 | mk h=>exact ⟨_,_,rfl,h⟩
theorem pop_list {v:V} {H:Hp} {Q:V->Hp->Prop} (h:DG Q v H):∃a vs,v=.ref a/\H a=some (.list vs):=by
 cases (show sU v H Q from h) with
 | mk e _=>exact ⟨_,_,rfl,e⟩
theorem oU {o y:PySem.Expr} {m:Str} {id:String} {apos pos:Pos} (slot:Slot "list" m id) (ty:typeOf (.builtin id)=pure (.type "method_descriptor")) (hp:gj o=true) (hs:eI [y]=true) (hl:(apos.endLine == pos.line)=true)
 {A:Around} {Γ:Sg} {x:Fx} {sc:Scope} {ns:List Str} {O:Lc} {H:Hp} {T:Im} {s:Shared} {E:Value->Shared->Prop} {Q:V->Hp->Prop} {op:V->V->Hp->(V->Hp->Prop)->Prop}
 (ho:PE prog w K base ca fa o) (hy:PE prog w K base ca fa y)
 (hop:∀{s:Shared} {H:Hp} {T:Im} {v u:V} {val wal:Value},aJ x s.heap O H T->VR T v val->VR T u wal->op v u H Q->wpAny (model prog w) A (PySem.call (.builtin id) [val,wal]) (bf x O T s Q) E s)
 (R:Rn prog w K base ca fa A Γ) (N:En x sc ns) (hb:x.base=base) (hc:x.ca=ca) (S:aJ x s.heap O H T)
 (hw:bp Γ (cE gt attrs sc ns o) O H (tK op (bp Γ (cE gt attrs sc ns y) O) Q)) :
 wpAny (model prog w) A (eval (.Call (.Attribute o m apos) [y] [] pos) x.env) (bf x O T s Q) E s:=by
 refine wpAny_Call_method (pJ hp _ _ _) (xF [y] hs (by simp)) hl PySem.F.plainAttrs_list slot ty ?_;refine bH (ho R N hb hc S hw) λv H' T' val s₁ le hs' S' hv hq=>?_;refine aD hq λhL hq=>?_;refine pq (xj hL) ?_;rintro a vs rfl hH;refine hv.er ?_;refine ew (S'.list hH) λxs k g1 g2 g3 g4=>?_;refine ⟨g4.typeIs,λa e=>?_,?_⟩
 ·cases e;exact ⟨_,g1,rfl⟩
 ·rw [fq hs];refine callWith_builtin rfl (evalArgs_plain ?_);refine spliced_cons (bH (hy R N hb hc S' hq) λu H'' T'' wal s₂ le2 hs2 S'' hu hq2=>spliced_nil ?_);exact qY (le.trans le2) ⟨hs2.1.trans hs'.1,hs2.2.trans hs'.2⟩ (hop S'' (.ref _) hu hq2)
theorem z7 {o:PySem.Expr} {apos pos:Pos} (hp:gj o=true) (hl:(apos.endLine == pos.line)=true)
 {A:Around} {Γ:Sg} {x:Fx} {sc:Scope} {ns:List Str} {O:Lc} {H:Hp} {T:Im} {s:Shared} {E:Value->Shared->Prop} {Q:V->Hp->Prop} (ho:PE prog w K base ca fa o)
 (R:Rn prog w K base ca fa A Γ) (N:En x sc ns) (hb:x.base=base) (hc:x.ca=ca) (S:aJ x s.heap O H T)
 (hw:bp Γ (cE gt attrs sc ns o) O H (DG Q)) :
 wpAny (model prog w) A (eval (.Call (.Attribute o ("pop":Str) apos) [] [] pos) x.env) (bf x O T s Q) E s:=by
 refine wpAny_Call_method (pJ hp _ _ _) (xF [] rfl (by simp)) hl PySem.F.plainAttrs_list PySem.F.slot_list_pop PySem.F.type_list_pop ?_;refine bH (ho R N hb hc S hw) λv H' T' val s₁ le hs' S' hv hq=>?_;refine pq (pop_list hq) ?_;rintro a vs rfl hH;refine hv.er ?_;refine ew (S'.list hH) λxs k g1 g2 g3 g4=>?_;refine ⟨g4.typeIs,λa e=>?_,callWith_builtin rfl (evalArgs_nil3 (qY le hs' (C8 S' (.ref _) hq)))⟩;cases e;exact ⟨_,g1,rfl⟩
end
section
variable {prog:Program} {w:World} {K:Frag} {base:Heap} {ca fa:Nat->Addr}
theorem xN (c:Const) (k:Nat) (pos:Pos):PE prog w K base ca fa (.Constant c k pos):=by
 intro A Γ x sc ns O H T s E Q R N hb hc S hw
 cases c with
 | none=>exact wpAny_Constant_none (bf.hM S .none hw)
 | bool b=>exact wpAny_Constant_bool (bf.hM S (.bool _) hw)
 | int i=>exact wpAny_Constant_int (bf.keep S (.int _ _) hw)
 | _=>exact hw.elim
theorem Ic {l r:PySem.Expr} {op:Operator} {pos:Pos} (hl:PE prog w K base ca fa l) (hr:PE prog w K base ca fa r):PE prog w K base ca fa (.BinOp l op r pos):=by
 intro A Γ x sc ns O H T s E Q R N hb hc S hw;refine ao (og hw) λo ho hw=>?_;refine wpAny_BinOp (bH (hl R N hb hc S hw) λv H' T' val s₁ le hs S' hv hq=>?_);refine bH (hr R N hb hc S' hq) λu H'' T'' wal s₂ le2 hs2 S'' hu hq2=>?_;exact qY (le.trans le2) ⟨hs2.1.trans hs.1,hs2.2.trans hs.2⟩ (EE S'' ho (hv.mono le2) hu hq2)
theorem DX {v:V} {H:Hp} {Q:V->Hp->Prop} (h:DJ Q v H):∃i,v=.int i/\Q (.int (Builtin.bitNot i)) H:=by
 delta DJ xl at h
 cases v with
 | int i=>exact ⟨i,rfl,h⟩
 | _=>exact h.elim
theorem Di {v:V} {H:Hp} {Q:V->Hp->Prop} (h:DH Q v H):∃i,v=.int i/\Q (.int (-i)) H:=by
 delta DH oT at h
 cases v with
 | int i=>exact ⟨i,rfl,h⟩
 | _=>exact h.elim
theorem Dg {v:V} {H:Hp} {Q:V->Hp->Prop} (h:xc Q v H):∃b,truthy v=some b/\Q (.bool (!b)) H:=by
 delta xc jh at h;generalize truthy v=o at h
 cases o with
 | some b=>exact ⟨b,rfl,h⟩
 | none=>exact h.elim
theorem xQ {op:uZ} {v w:V} {H:Hp} {Q:V->Hp->Prop} (h:xf op v Q w H):xR op v w H Q:=by delta xf bM at h;exact h
theorem zm {op:UnaryOp} {y:PySem.Expr} {pos:Pos} (hy:PE prog w K base ca fa y):PE prog w K base ca fa (.UnaryOp op y pos):=by
 intro A Γ x sc ns O H T s E Q R N hb hc S hw
 cases op with
 | Invert=>
  refine wpAny_UnaryOp (bH (hy R N hb hc S hw) λv H' T' val s₁ le hs S' hv hq=>?_);refine ao (DX hq) ?_;rintro i rfl hp;exact hv.ei λ_=>qY le hs (invert_int (bf.keep S' (.int _ _) hp))
 | Not=>
  refine wpAny_UnaryOp (bH (hy R N hb hc S hw) λv H' T' val s₁ le hs S' hv hq=>?_);refine ao (Dg hq) λb hb' hq=>?_;exact not_value (jG hv hb' (bf.up le hs (bf.hM S' (.bool _) hq)))
 | USub=>
  refine wpAny_UnaryOp (bH (hy R N hb hc S hw) λv H' T' val s₁ le hs S' hv hq=>?_);refine ao (Di hq) ?_;rintro i rfl hp;exact hv.ei λ_=>qY le hs (PyProof.Rows.neg_int (bf.keep S' (.int _ _) hp))
 | _=>exact hw.elim
theorem nS {l:PySem.Expr} {ops:List CmpOp} {rs:List PySem.Expr} {pos:Pos} {Γ:Sg} {sc:Scope} {ns:List Str} {O:Lc} {H:Hp} {Q:V->Hp->Prop} (hw:bp Γ (cE gt attrs sc ns (.Compare l ops rs pos)) O H Q) :
 ∃op r,ops=[op]/\rs=[r]/\behindInMarks op r=false/\∃o,A7 op=some o/\bp Γ (cE gt attrs sc ns l) O H (GA o (bp Γ (cE gt attrs sc ns r) O) Q):=by
 match ops,rs,hw with
 | op::ops,r::rs,hw=>
  refine aD (gw hw) λh hw=>?_;refine ao (og hw) λo ho hw2=>?_;rw [Qa,Qa,RM,RM,QI] at h;obtain ⟨⟨rfl,rfl⟩,h⟩:=h;exact ⟨op,r,rfl,rfl,h,o,ho,hw2⟩
 | [],_,hw=>exact hw.elim
 | _::_,[],hw=>exact hw.elim
theorem Hg {l:PySem.Expr} {ops:List CmpOp} {rs:List PySem.Expr} {pos:Pos} (hl:PE prog w K base ca fa l) (hr:∀r∈rs,PE prog w K base ca fa r):PE prog w K base ca fa (.Compare l ops rs pos):=by
 intro A Γ x sc ns O H T s E Q R N hb hc S hw;obtain ⟨op,r,rfl,rfl,hset,o,ho,hw⟩:=nS hw;refine wpAny_Compare1 (bH (hl R N hb hc S hw) λv H' T' val s₁ le hs S' hv hq=>?_) hset;refine bH (hr r (Qt.mpr rfl) R N hb hc S' hq) λu H'' T'' wal s₂ le2 hs2 S'' hu hq2=>?_;exact xP S'' ho (hv.mono le2) hu R.un (xQ hq2) λb hq2=>(bf.up (le.trans le2) ⟨hs2.1.trans hs.1,hs2.2.trans hs.2⟩ (bf.hM S'' (.bool _) hq2))
theorem He {l:PySem.Expr} {ops:List CmpOp} {rs:List PySem.Expr} {pos:Pos} (hl:PE prog w K base ca fa l) (hr:∀r∈rs,PE prog w K base ca fa r):PT prog w K base ca fa (.Compare l ops rs pos):=by
 intro A Γ x sc ns O H T s E P R N hb hc S hw;obtain ⟨op,r,rfl,rfl,hset,o,ho,hw⟩:=nS hw;refine wpAny_isTrue_Compare1 (bH (hl R N hb hc S hw) λv H' T' val s₁ le hs S' hv hq=>?_) hset;refine bH (hr r (Qt.mpr rfl) R N hb hc S' hq) λu H'' T'' wal s₂ le2 hs2 S'' hu hq2=>?_;exact xP S'' ho (hv.mono le2) hu R.un (xQ hq2) λb hq2=>(wpAny_truthy_bool (gu.up (le.trans le2) ⟨hs2.1.trans hs.1,hs2.2.trans hs.2⟩ (gu.keep S'' hq2)))
theorem Df {P:Bool->Hp->Prop}:xc (Tr P)=Tr λb H=>P (!b) H:=by
 funext v H;delta xc jh;show (match truthy v with | some b=>P (!b) H | none=>False)=(match truthy v with | some b=>P (!b) H | none=>False);rfl
theorem BO {A B:Ev} {Q:K1}:Kc A B Q=Tr λb H=>if b then A H Q else B H Q:=by
 funext v H;delta Kc cF Tr;dsimp only
 cases truthy v with
 | none=>rfl
 | some b=>cases b<;>rfl
theorem FY {y:PySem.Expr} {pos:Pos} (hy:PT prog w K base ca fa y):PT prog w K base ca fa (.UnaryOp .Not y pos):=by
 intro A Γ x sc ns O H T s E P R N hb hc S hw;have hw:bp Γ (cE gt attrs sc ns y) O H (Tr λb H=>P (!b) H):=Df ▸ hw;exact wpAny_isTrue_Not (wpAny_mono (hy R N hb hc S hw) (λb s' ⟨H',T',a,b',c,d⟩=>⟨H',T',a,b',c,d⟩) λ_ _ h=>h)
theorem GI {t a b:PySem.Expr} {pos:Pos} (ht:PT prog w K base ca fa t) (ha:PE prog w K base ca fa a) (hbb:PE prog w K base ca fa b):PE prog w K base ca fa (.IfExp t a b pos):=by
 intro A Γ x sc ns O H T s E Q R N hb hc S hw;have hw:bp Γ (cE gt attrs sc ns t) O H (Tr λc H=>if c then bp Γ (cE gt attrs sc ns a) O H Q else bp Γ (cE gt attrs sc ns b) O H Q):=BO ▸ hw;refine wpAny_IfExp (wpAny_mono (ht R N hb hc S hw) (λc s₁ ⟨H',T',le,S',hs,hq⟩=>?_) λ_ _ h=>h);cases c
 ·exact qY le hs (hbb R N hb hc S' hq)
 ·exact qY le hs (ha R N hb hc S' hq)
theorem GH {t a b:PySem.Expr} {pos:Pos} (ht:PT prog w K base ca fa t) (ha:PT prog w K base ca fa a) (hbb:PT prog w K base ca fa b):PT prog w K base ca fa (.IfExp t a b pos):=by
 intro A Γ x sc ns O H T s E P R N hb hc S hw;have hw:bp Γ (cE gt attrs sc ns t) O H (Tr λc H=>if c then bp Γ (cE gt attrs sc ns a) O H (Tr P) else bp Γ (cE gt attrs sc ns b) O H (Tr P)):=BO ▸ hw;refine isTrue_IfExp (wpAny_mono (ht R N hb hc S hw) (λc s₁ ⟨H',T',le,S',hs,hq⟩=>?_) λ_ _ h=>h);cases c
 ·exact Js le hs (hbb R N hb hc S' hq)
 ·exact Js le hs (ha R N hb hc S' hq)
theorem EJ {o:PySem.Expr} {a:Str} {pos:Pos} (ho:PE prog w K base ca fa o):PE prog w K base ca fa (.Attribute o a pos):=by
 intro A Γ x sc ns O H T s E Q R N hb hc S hw;refine aD (gw hw) λhp hw=>?_;refine ao (og hw) λn hn hw2=>?_;have hn':=fC hn;have hlt:n<attrs.length:=(Qs.mp hn').1
 have ha:an n=a:=by unfold an;rw [P9,hn'];rfl
 subst ha;refine Attribute_any_ (bH (ho R N hb hc S hw2) λv H' T' val s₁ le hs S' hv hq=>?_) ?_
 ·exact qY le hs (ua (by rw [hb];exact R.tC) (by rw [hc];exact R.cls) S' hv hlt hq)
 ·show (do let o' <- attributeBase o (an n) x.env (eval o x.env);standAt pos.atName;let r <- holding [o'] (getAttr o' (an n) true);letTemporaryGo o o' r;pure r)=_;rw [pJ hp]
theorem Ft {o i:PySem.Expr} {pos:Pos} (hi':hU i=false) (ho:PE prog w K base ca fa o) (hi:PE prog w K base ca fa i):PE prog w K base ca fa (.Subscript o i pos):=by
 intro A Γ x sc ns O H T s E Q R N hb hc S hw
 have hw:bp Γ (cE gt attrs sc ns o) O H (DC (bp Γ (cE gt attrs sc ns i) O) Q):=by
  cases i<;>first | exact hw | cases hi'
 refine Subscript_ (bH (ho R N hb hc S hw) λv H' T' val s₁ le hs S' hv hq=>?_);refine bH (hi R N hb hc S' hq) λu H'' T'' wal s₂ le2 hs2 S'' hu hq2=>?_;exact qY (le.trans le2) ⟨hs2.1.trans hs.1,hs2.2.trans hs.2⟩ (Cm S'' (hv.mono le2) hu hq2 (sub_eq hi'))
theorem zH {o:PySem.Expr} {lo hi:Option PySem.Expr} {p pos:Pos} (ho:PE prog w K base ca fa o) (hl:∀e,lo=some e->PE prog w K base ca fa e) (hh:∀e,hi=some e->PE prog w K base ca fa e) :
 PE prog w K base ca fa (.Subscript o (.Slice lo hi none p) pos):=by
 intro A Γ x sc ns O H T s E Q R N hb hc S hw;have hw:bp Γ (cE gt attrs sc ns o) O H (My (bp Γ (cO gt attrs sc ns lo) O) (bp Γ (cO gt attrs sc ns hi) O) Q):=hw
 have part:∀{b:Option PySem.Expr} {H:Hp} {T:Im} {s:Shared} {Q:V->Hp->Prop},(∀e,b=some e->PE prog w K base ca fa e)->aJ x s.heap O H T->bp Γ (cO gt attrs sc ns b) O H Q->wpAny (model prog w) A (evalPart b x.env) (bf x O T s Q) E s:=by
  intro b H T s Q hb' S hw
  cases b with
  | none=>rw [evalPart_none];exact wpAny_pure (bf.hM S .none hw)
  | some e=>exact hb' e rfl R N hb hc S hw
 refine Subscript_ (bH (ho R N hb hc S hw) λv H' T' val s₁ le hs S' hv hq=>?_);refine wpAny_Slice (bH (part hl S' hq) λu H'' T'' wal s₂ le2 hs2 S'' hu hq2=>?_);refine bH (part hh S'' hq2) λu3 H3 T3 val3 s₃ gD hs3 S3 hu3 hq3=>?_;rw [evalPart_none];refine wpAny_pure ?_;exact wpAny_mono (vM S3 ((hv.mono le2).mono gD) (hu.mono gD) hu3 hq3) (λ_ _ h=>h.up (le.trans (le2.trans gD)) ⟨hs3.1.trans (hs2.1.trans hs.1),hs3.2.trans (hs2.2.trans hs.2)⟩) λ_ _ h=>h
end
section
variable {prog:Program} {w:World} {K:Frag} {base:Heap} {ca fa:Nat->Addr}
theorem xI:B8 prog w K base ca fa []:=by
 intro A Γ x sc ns O H T s E Q R N hb hc S hw;exact spliced_nil ⟨[],H,T,.nil,Im.Le.refl T,S,⟨rfl,rfl⟩,hw⟩
theorem tP {e:PySem.Expr} {r:List PySem.Expr} (he:PE prog w K base ca fa e) (hr:B8 prog w K base ca fa r):B8 prog w K base ca fa (e::r):=by
 intro A Γ x sc ns O H T s E Q R N hb hc S hw;refine spliced_cons (bH (he R N hb hc S hw) λv H' T' val s₁ le hs S' hv hq=>?_);refine wpAny_mono (hr R N hb hc S' hq) (λvals s₂ h₂=>?_) λ_ _ h=>h;obtain ⟨vs,H'',T'',a,b,c,d,q⟩:=h₂;exact ⟨v::vs,H'',T'',.cons (hv.mono b) a,le.trans b,c,⟨d.1.trans hs.1,d.2.trans hs.2⟩,q⟩
theorem Fp {es:List PySem.Expr} {k:Nat} {pos:Pos} (h:B8 prog w K base ca fa es):PE prog w K base ca fa (.Tuple es k pos):=by
 intro A Γ x sc ns O H T s E Q R N hb hc S hw;refine aD (gw hw) λhs hw=>?_;refine Tuple_ ?_;rw [fq hs];exact wpAny_mono (h R N hb hc S hw) (λvals s₁ ⟨vs,H',T',a,b,c,d,q⟩=>qY b d (Ai c a q)) λ_ _ h=>h
theorem Gj {es:List PySem.Expr} {pos:Pos} (h:B8 prog w K base ca fa es):PE prog w K base ca fa (.List es pos):=by
 intro A Γ x sc ns O H T s E Q R N hb hc S hw;refine aD (gw hw) λhs hw=>?_;refine List_ ?_;rw [fq hs];exact wpAny_mono (h R N hb hc S hw) (λvals s₁ ⟨vs,H',T',a,b,c,d,q⟩=>qY b d (Aj c a q)) λ_ _ h=>h
theorem EA (pos:Pos) (op:BoolOp) (x:Sem Value):boolOp pos op [x]=x:=rfl
theorem sD (pos:Pos) (op:BoolOp) (x y:Sem Value) (r:List (Sem Value)):boolOp pos op (x::y::r)=(do
 let v <- x
 standAt pos
 let t <- holding [v] (PySem.truthy v)
 match op,t with
 | .And,false | .Or,true=>pure v
 | _,_=>boolOp pos op (y::r)):=rfl
noncomputable def GC (op:BoolOp) (R:Ev) (Q:K1):K1:=match op with
 | .And=>DT false R Q
 | .Or=>J9 false R Q
theorem yF {op:BoolOp} {Γ:Sg} {c c' r:E} {O:Lc} {H:Hp} {Q:K1} (h:oa Γ op (.cons c (.cons c' r)) O H Q):bp Γ c O H (GC op (oa Γ op (.cons c' r) O) Q):=by cases op<;>exact h
theorem yG {op:BoolOp} {Γ:Sg} {c:E} {O:Lc} {H:Hp} {Q:K1} (h:oa Γ op (.cons c .nil) O H Q):bp Γ c O H Q:=by cases op<;>exact h
theorem yH {op:BoolOp} {Γ:Sg} {O:Lc} {H:Hp} {Q:K1} (h:oa Γ op .nil O H Q):False:=by cases op<;>exact h
theorem Ib {op:BoolOp} {Γ:Sg} {es:E} {O:Lc} {H:Hp} {Q:K1} (h:bp Γ (cBool es op) O H Q):oa Γ op es O H Q:=by cases op<;>exact h
theorem BP {v:V} {A B:Prop} (h:cF v A B):∃t,truthy v=some t/\(match t with | true=>A | false=>B):=by
 delta cF at h;generalize truthy v=o at h
 match o,h with
 | some true,h=>exact ⟨_,rfl,h⟩
 | some false,h=>exact ⟨_,rfl,h⟩
 | none,h=>exact h.elim
noncomputable def lE (op:BoolOp) (t:Bool):Bool:=match op with
 | .And=>!t
 | .Or=>t
theorem Ia {op:BoolOp} {R:Ev} {Q:K1} {v:V} {H:Hp} (h:GC op R Q v H):∃t,truthy v=some t/\((lE op t=true/\Q v H)\/(lE op t=false/\R H Q)):=by
 cases op with
 | And=>
  refine ao (BP (show cF v (R H Q) (Q v H) from h)) λt e h=>?_;cases t
  ·exact ⟨_,e,.inl ⟨rfl,h⟩⟩
  ·exact ⟨_,e,.inr ⟨rfl,h⟩⟩
 | Or=>
  refine ao (BP (show cF v (Q v H) (R H Q) from h)) λt e h=>?_;cases t
  ·exact ⟨_,e,.inr ⟨rfl,h⟩⟩
  ·exact ⟨_,e,.inl ⟨rfl,h⟩⟩
theorem qG (pos:Pos) (op:BoolOp) (x y:Sem Value) (r:List (Sem Value)):boolOp pos op (x::y::r)=(do
 let v <- x
 standAt pos
 let t <- holding [v] (PySem.truthy v)
 if lE op t then pure v else boolOp pos op (y::r)):=by
 rw [sD];refine congrArg (bind x) (funext λv=>congrArg (bind (standAt pos)) (funext λ_=>congrArg (bind (holding [v] (PySem.truthy v))) (funext λt=>?_)))
 cases op<;>cases t<;>rfl
theorem Dd (op:BoolOp):PB prog w K base ca fa op []:=by
 intro A Γ x sc ns O H T s E Q pos R N hb hc S hw;exact (yH hw).elim
theorem Ab {op:BoolOp} {e:PySem.Expr} {r:List PySem.Expr} (he:PE prog w K base ca fa e) (hr:PB prog w K base ca fa op r):PB prog w K base ca fa op (e::r):=by
 intro A Γ x sc ns O H T s E Q pos R N hb hc S hw
 cases r with
 | nil=>exact he R N hb hc S (yG hw)
 | cons e' r=>
  show wpAny _ _ (boolOp pos op (eval e x.env::eval e' x.env::evalEach r x.env)) _ _ _;rw [qG];refine wpAny_bind (bH (he R N hb hc S (yF hw)) λv H' T' val s₁ le hs S' hv hq=>?_);refine ao (Ia hq) λt ht hq=>?_;refine wpAny_bind (wpAny_standAt (wpAny_bind (wpAny_holding (jG hv ht ?_))));rcases hq with ⟨e,hq⟩ | ⟨e,hq⟩
  ·rw [e];exact wpAny_pure (bf.up le hs (bf.hM S' hv hq))
  ·rw [e];exact qY le hs (hr (pos:=pos) R N hb hc S' hq)
theorem Ez {op:BoolOp} {es:List PySem.Expr} {pos:Pos} (h:PB prog w K base ca fa op es):PE prog w K base ca fa (.BoolOp op es pos):=by
 intro A Γ x sc ns O H T s E Q R N hb hc S hw;exact h (pos:=pos) R N hb hc S (Ib hw)
theorem Aa (op:BoolOp):IE prog w K base ca fa op []:=by
 intro A Γ x sc ns O H T s E P R N hb hc S hw;exact (yH hw).elim
theorem H9 {op:BoolOp} {R:Ev} {P:Bool->Hp->Prop}:GC op R (Tr P)=Tr λb H=>if lE op b then P b H else R H (Tr P):=by
 funext v H;delta GC DT J9 cF Tr;dsimp only
 cases op<;>dsimp only<;>cases truthy v with
 | none=>rfl
 | some b=>cases b<;>rfl
theorem all_cons {M:Model} {A:Around} {E:Value->Shared->Prop} {op:BoolOp} {e:PySem.Expr} {r:List PySem.Expr} {env:Env} {Q:Bool->Shared->Prop} {s:Shared}
 (h:wpAny M A (isTrue e env (eval e env)) (λb s'=>if lE op b then Q b s' else wpAny M A (allTrue op r env) Q E s') E s):wpAny M A (allTrue op (e::r) env) Q E s:=by
 cases op
 ·refine wpAny_allTrue_And_cons (wpAny_mono h (λb s₁ h=>?_) λ_ _ h=>h)
  cases b<;>exact h
 ·refine wpAny_allTrue_Or_cons (wpAny_mono h (λb s₁ h=>?_) λ_ _ h=>h)
  cases b<;>exact h
theorem wq {op:BoolOp} {e:PySem.Expr} {r:List PySem.Expr} (he:PT prog w K base ca fa e) (hr:IE prog w K base ca fa op r):IE prog w K base ca fa op (e::r):=by
 intro A Γ x sc ns O H T s E P R N hb hc S hw
 cases r with
 | nil=>
  refine all_cons (wpAny_mono (he R N hb hc S (yG hw)) (λb s₁ h=>?_) λ_ _ h=>h);cases op
  ·cases b
   ·exact h
   ·exact wpAny_allTrue_And_nil h
  ·cases b
   ·exact wpAny_allTrue_Or_nil h
   ·exact h
 | cons e' r=>
  have hw:bp Γ (cE gt attrs sc ns e) O H (GC op (oa Γ op (zf gt attrs sc ns (e'::r)) O) (Tr P)):=yF hw;rw [H9] at hw;refine all_cons (wpAny_mono (he R N hb hc S hw) (λb s₁ ⟨H',T',le,S',hs,hq⟩=>?_) λ_ _ h=>h);have hq:if lE op b=true then P b H' else oa Γ op (zf gt attrs sc ns (e'::r)) O H' (Tr P):=hq
  cases hb':lE op b with
  | true=>rw [hb'] at hq;exact gu.up le hs (gu.keep S' hq)
  | false=>rw [hb'] at hq;exact Js le hs (hr R N hb hc S' hq)
theorem Ey {op:BoolOp} {es:List PySem.Expr} {pos:Pos} (h:IE prog w K base ca fa op es):PT prog w K base ca fa (.BoolOp op es pos):=by
 intro A Γ x sc ns O H T s E P R N hb hc S hw;exact wpAny_isTrue_BoolOp (h R N hb hc S (Ib hw))
theorem Ik {e:PySem.Expr} (h:∀sc ns,cE gt attrs sc ns e=.bad):PE prog w K base ca fa e:=by
 intro A Γ x sc ns O H T s E Q R N hb hc S hw;rw [h] at hw;exact hw.elim
theorem Ip {o:PySem.Expr} {m:Str} {ys:List PySem.Expr} {apos pos:Pos} (ho:PE prog w K base ca fa o) (hy:∀y∈ys,PE prog w K base ca fa y):PE prog w K base ca fa (.Call (.Attribute o m apos) ys [] pos):=by
 intro A Γ x sc ns O H T s E Q R N hb hc S hw;refine aD (gw hw) λ_ hw=>?_;refine aD (gw hw) λhp hw=>?_;rw [Qa,Qa] at hp
 match ys,hy,hp,hw with
 | [],_,hp,hw=>
  refine aD (gw hw) λhm hw=>?_;rw [eq_of_beq hm];exact z7 hp.1.1 hp.2 ho R N hb hc S hw
 | [y],hy,hp,hw=>
  have hy:PE prog w K base ca fa y:=hy y (Qt.mpr rfl);by_cases h1:(m == ("append":Str))=true
  ·have hw:bp Γ (if (m == ("append":Str))=true then _ else _) O H Q:=hw;rw [Qk h1] at hw;rw [eq_of_beq h1];exact oU PySem.slot_list_append PySem.F.type_list_append hp.1.1 hp.1.2 hp.2 ho hy (λS a b h=>uV S a b h) R N hb hc S hw
  ·have hw:bp Γ (if (m == ("append":Str))=true then _ else _) O H Q:=hw;rw [Qb h1] at hw;by_cases h2:(m == ("index":Str))=true
   ·rw [Qk h2] at hw;rw [eq_of_beq h2];exact oU PySem.F.slot_list_index PySem.F.type_list_index hp.1.1 hp.1.2 hp.2 ho hy (λS a b h=>xm S a b h) R N hb hc S hw
   ·rw [Qb h2] at hw;by_cases h3:(m == ("count":Str))=true
    ·rw [Qk h3] at hw;rw [eq_of_beq h3];exact oU PySem.F.slot_list_count PySem.F.type_list_count hp.1.1 hp.1.2 hp.2 ho hy (λS a b h=>xM S a b h) R N hb hc S hw
    ·rw [Qb h3] at hw;exact hw.elim
 | _::_::_,_,_,hw=>exact hw.elim
end
section
variable {prog:Program} {w:World} {K:Frag} {base:Heap} {ca fa:Nat->Addr}
def gc (prog:Program) (w:World) (K:Frag) (base:Heap) (ca fa:Nat->Addr) (e:PySem.Expr):Prop:=PE prog w K base ca fa e/\PT prog w K base ca fa e
theorem eV {e:PySem.Expr} (h:PE prog w K base ca fa e) (he:∀env whole,isTrue e env whole=(do let v <- whole;standAt e.pos;holding [v] (PySem.truthy v))):gc prog w K base ca fa e:=⟨h,rC h he⟩
theorem jw {e:PySem.Expr} (h:∀sc ns,cE gt attrs sc ns e=.bad):gc prog w K base ca fa e:=⟨Ik h,by
 intro A Γ x sc ns O H T s E P R N hb hc S hw
 rw [h] at hw;exact hw.elim⟩
theorem mu {elt:PySem.Expr} {gens:List Comprehension} {sc sc':Scope} {ns:List Str} {pos:Pos} {Γ:Sg} {O:Lc} {H:Hp} {Q:K1} (hw:bp Γ (cE gt attrs sc ns (.ListComp elt gens sc' pos)) O H Q) :
 ∃nm xp it ifs,gens=[⟨.Name nm xp,it,ifs,0⟩]/\ifs.length<=1:=by
 match gens,hw with
 | [],hw=>exact hw.elim
 | ⟨t,it,ifs,as⟩::gs,hw=>
  obtain ⟨x,hx,hk⟩:∃x,mi t=some x/\(gs.isEmpty && as == 0 && ju sc sc' x it && decide (ifs.length<=1))=true:=by
   cases ifs
   ·refine ao (og hw) λx hx h2=>?_;exact ⟨x,hx,(gw h2).1⟩
   ·refine ao (og hw) λx hx h2=>?_;exact ⟨x,hx,(gw h2).1⟩
  refine bJ (qv hx) ?_;rintro px rfl;simp only [Qa,RM,Ru,decide_eq_true_eq] at hk;refine aD hk ?_;rintro ⟨⟨rfl,rfl⟩,_⟩ hl;exact ⟨x,px,it,ifs,rfl,hl⟩
theorem xO {elt:PySem.Expr} {gens:List Comprehension} {sc':Scope} {pos:Pos} (hcomp:f5 prog w K base ca fa) (he:gc prog w K base ca fa elt)
 (hg:∀g∈gens,gc prog w K base ca fa g.iter/\∀c∈g.ifs,gc prog w K base ca fa c):gc prog w K base ca fa (.ListComp elt gens sc' pos):=by
 refine eV ?_ (λ_ _=>rfl);intro A Γ x sc ns O H T s E Q R N hb hc S hw;refine xK (mu hw) ?_;rintro x px it ifs rfl hl;have hg':=hg _ (Qt.mpr rfl);exact hcomp x px it elt ifs sc' pos hl hg'.1.1 he.1 (λc hc=>(hg'.2 c hc).2) R N hb hc S hw
theorem AZ {l:PySem.Expr} {ops:List CmpOp} {cs:List PySem.Expr} {pos:Pos} (hl:gc prog w K base ca fa l) (hcs:∀c∈cs,gc prog w K base ca fa c):gc prog w K base ca fa (.Compare l ops cs pos):=
 ⟨Hg hl.1 λr h=>(hcs r h).1,He hl.1 λr h=>(hcs r h).1⟩
theorem xU {f:PySem.Expr} {as:List PySem.Expr} {ks:List Keyword} {pos:Pos} (hsort:cm) (hf:∀o m p,f=.Attribute o m p->gc prog w K base ca fa o) (has:∀a∈as,gc prog w K base ca fa a):gc prog w K base ca fa (.Call f as ks pos):=by
 have hEs:B8 prog w K base ca fa as:=by
  clear hf
  induction as with
  | nil=>exact xI
  | cons a r ih=>exact tP (has a (QB ..)).1 (ih λb hb=>has b (QC _ hb))
 refine eV ?_ (λ_ _=>rfl);intro A Γ x sc ns O H T s E Q R N hb hc S hw
 cases f with
 | Name n p=>cases RM.mp (gw hw).1;exact A1 hsort hEs R N hb hc S hw
 | Attribute o m p=>cases RM.mp (gw hw).1;exact Ip (hf o m p rfl).1 (λy h=>(has y h).1) R N hb hc S hw
 | _=>exact (gw hw).2.elim
theorem uh {o:PySem.Expr} {a b:Option PySem.Expr} {c:PySem.Expr} {d pos:Pos} (ho:PE prog w K base ca fa o):PE prog w K base ca fa (.Subscript o (.Slice a b (some c) d) pos):=by
 intro A Γ x sc ns O H T s E Q R N hb hc S hw;have hw:bp Γ (cE gt attrs sc ns o) O H (DC (bp Γ .bad O) Q):=hw;exact Subscript_ (bH (ho R N hb hc S hw) λv H' T' val s₁ le hs S' hv hq=>hq.elim)
theorem zE {o i:PySem.Expr} {pos:Pos} (ho:gc prog w K base ca fa o) (hi:gc prog w K base ca fa i) (hs:∀a b c d,i=.Slice a b c d->(∀e,a=some e->gc prog w K base ca fa e)/\(∀e,b=some e->gc prog w K base ca fa e)) :
 gc prog w K base ca fa (.Subscript o i pos):=by
 refine eV ?_ (λ_ _=>rfl)
 cases i with
 | Slice a b c d=>
  cases c with
  | none=>exact zH ho.1 (λe h=>((hs a b none d rfl).1 e h).1) (λe h=>((hs a b none d rfl).2 e h).1)
  | some c=>exact uh ho.1
 | _=>exact Ft rfl ho.1 hi.1
mutual
theorem bW (hsort:cm) (hcomp:f5 prog w K base ca fa):∀e:PySem.Expr,gc prog w K base ca fa e
 | .Constant c k pos=>eV (xN c k pos) (λ_ _=>rfl)
 | .Name n p=>eV (λR N hb hc S hw=>Ak R N hb S hw) (λ_ _=>rfl)
 | .BoolOp op vs pos=>⟨Ez (oq hsort hcomp op vs).1,Ey (oq hsort hcomp op vs).2⟩
 | .NamedExpr .. =>jw λ_ _=>rfl
 | .BinOp l op r pos=>eV (Ic (bW hsort hcomp l).1 (bW hsort hcomp r).1) (λ_ _=>rfl)
 | .UnaryOp .Not y pos=>⟨zm (bW hsort hcomp y).1,FY (bW hsort hcomp y).2⟩
 | .UnaryOp .USub y pos=>eV (zm (bW hsort hcomp y).1) (λ_ _=>rfl)
 | .UnaryOp .UAdd y pos=>eV (zm (bW hsort hcomp y).1) (λ_ _=>rfl)
 | .UnaryOp .Invert y pos=>eV (zm (bW hsort hcomp y).1) (λ_ _=>rfl)
 | .Lambda .. =>jw λ_ _=>rfl
 | .IfExp t a b pos=>⟨GI (bW hsort hcomp t).2 (bW hsort hcomp a).1 (bW hsort hcomp b).1,GH (bW hsort hcomp t).2 (bW hsort hcomp a).2 (bW hsort hcomp b).2⟩
 | .Dict .. =>jw λ_ _=>rfl
 | .Set .. =>jw λ_ _=>rfl
 | .ListComp elt gens sc' pos=>xO hcomp (bW hsort hcomp elt) (vJ hsort hcomp gens)
 | .SetComp .. =>jw λ_ _=>rfl
 | .DictComp .. =>jw λ_ _=>rfl
 | .GeneratorExp .. =>jw λ_ _=>rfl
 | .Await .. =>jw λ_ _=>rfl
 | .Yield .. =>jw λ_ _=>rfl
 | .YieldFrom .. =>jw λ_ _=>rfl
 | .Compare l ops cs pos=>AZ (bW hsort hcomp l) (ou hsort hcomp cs)
 | .Call f as ks pos=>xU hsort (Cs hsort hcomp f) (ou hsort hcomp as)
 | .FormattedValue .. =>jw λ_ _=>rfl
 | .JoinedStr .. =>jw λ_ _=>rfl
 | .Attribute o a pos=>eV (EJ (bW hsort hcomp o).1) (λ_ _=>rfl)
 | .Subscript o i pos=>zE (bW hsort hcomp o) (bW hsort hcomp i) (Cr hsort hcomp i)
 | .Starred .. =>jw λ_ _=>rfl
 | .List es pos=>eV (Gj (oo hsort hcomp es)) (λ_ _=>rfl)
 | .Tuple es k pos=>eV (Fp (oo hsort hcomp es)) (λ_ _=>rfl)
 | .Slice .. =>jw λ_ _=>rfl
theorem oo (hsort:cm) (hcomp:f5 prog w K base ca fa):∀es:List PySem.Expr,B8 prog w K base ca fa es
 | []=>xI
 | e::r=>tP (bW hsort hcomp e).1 (oo hsort hcomp r)
theorem oq (hsort:cm) (hcomp:f5 prog w K base ca fa) (op:BoolOp):∀es:List PySem.Expr,PB prog w K base ca fa op es/\IE prog w K base ca fa op es
 | []=>⟨Dd op,Aa op⟩
 | e::r=>⟨Ab (bW hsort hcomp e).1 (oq hsort hcomp op r).1,wq (bW hsort hcomp e).2 (oq hsort hcomp op r).2⟩
theorem ou (hsort:cm) (hcomp:f5 prog w K base ca fa):∀es:List PySem.Expr,∀e∈es,gc prog w K base ca fa e
 | []=>λ_ h=>absurd h (Rg)
 | e::r=>List.forall_mem_cons.mpr ⟨bW hsort hcomp e,ou hsort hcomp r⟩
theorem vH (hsort:cm) (hcomp:f5 prog w K base ca fa):∀b:Option PySem.Expr,∀e,b=some e->gc prog w K base ca fa e
 | none=>λ_ h=>nomatch h
 | some e=>λ_ h=>(Option.some.inj h) ▸ bW hsort hcomp e
theorem Cr (hsort:cm) (hcomp:f5 prog w K base ca fa):∀i:PySem.Expr,∀a b c d,i=.Slice a b c d->(∀e,a=some e->gc prog w K base ca fa e)/\(∀e,b=some e->gc prog w K base ca fa e)
 | .Slice a b c d=>λa' b' c' d' h=>by
  have h1:=vH hsort hcomp a;have h2:=vH hsort hcomp b;injection h with e1 e2 e3 e4;subst e1;subst e2;exact ⟨h1,h2⟩
 | .Constant .. | .Name .. | .BoolOp .. | .NamedExpr .. | .BinOp .. | .UnaryOp .. | .Lambda .. | .IfExp .. | .Dict .. | .Set .. | .ListComp .. | .SetComp .. | .DictComp .. | .GeneratorExp .. | .Await .. | .Yield .. | .YieldFrom .. | .Compare .. | .Call .. | .FormattedValue .. | .JoinedStr .. | .Attribute .. | .Subscript .. | .Starred .. | .List .. | .Tuple .. =>λ_ _ _ _ h=>nomatch h
theorem Cs (hsort:cm) (hcomp:f5 prog w K base ca fa):∀f:PySem.Expr,∀o m p,f=.Attribute o m p->gc prog w K base ca fa o
 | .Attribute o m p=>λo' m' p' h=>by
  have h1:=bW hsort hcomp o;injection h with e1 e2 e3;subst e1;exact h1
 | .Constant .. | .Name .. | .BoolOp .. | .NamedExpr .. | .BinOp .. | .UnaryOp .. | .Lambda .. | .IfExp .. | .Dict .. | .Set .. | .ListComp .. | .SetComp .. | .DictComp .. | .GeneratorExp .. | .Await .. | .Yield .. | .YieldFrom .. | .Compare .. | .Call .. | .FormattedValue .. | .JoinedStr .. | .Slice .. | .Subscript .. | .Starred .. | .List .. | .Tuple .. =>λ_ _ _ h=>nomatch h
theorem vJ (hsort:cm) (hcomp:f5 prog w K base ca fa):∀gens:List Comprehension,∀g∈gens,gc prog w K base ca fa g.iter/\∀c∈g.ifs,gc prog w K base ca fa c
 | []=>λ_ h=>absurd h (Rg)
 | ⟨t,it,ifs,a⟩::r=>List.forall_mem_cons.mpr ⟨⟨bW hsort hcomp it,ou hsort hcomp ifs⟩,vJ hsort hcomp r⟩
end
end
noncomputable def Im.minus (T:Im) (z:Addr):Im:=λb=>if b=z then none else T b
theorem Im.lV (T:Im) (z:Addr):T.minus z z=none:=by simp [Im.minus]
theorem Im.lW {T T':Im} {z:Addr} (h:T.Le T') (hz:T z=none):T.Le (T'.minus z):=λb o e=>by
 unfold Im.minus;by_cases hb:b=z
 ·subst hb;rw [hz] at e;cases e
 ·rw [Qb hb];exact h b o e
theorem jV {T:Im} {z:Addr} (h:∀o,T z=some o->o.cls≠.type "tuple"/\o.cls≠.type "range"/\o.cls≠.type "list"):yV T (T.minus z):=λa o e c=>by
 unfold Im.minus;by_cases ha:a=z
 ·subst ha;refine dJ (h _ e) λh1 h2 h3=>?_;exact (c.elim h1 λc=>c.elim h2 h3).elim
 ·rw [Qb ha];exact e
theorem VR.minus {T:Im} {z:Addr} (h:∀o,T z=some o->o.cls≠.type "tuple"/\o.cls≠.type "range"/\o.cls≠.type "list") {v:V} {x:Value} (r:VR T v x):VR (T.minus z) v x:=r.map (jV h)
theorem cG.minus {T:Im} {z:Addr} (h:∀o,T z=some o->o.cls≠.type "tuple"/\o.cls≠.type "range"/\o.cls≠.type "list") {v:List V} {x:List Value} (r:cG T v x):cG (T.minus z) v x:=r.map (jV h)
theorem OR.minus {ca:Nat->Addr} {T:Im} {z:Addr} (h:∀o,T z=some o->o.cls≠.type "tuple"/\o.cls≠.type "range"/\o.cls≠.type "list") {ob:Ob} {o:Obj} (r:OR ca T ob o):OR ca (T.minus z) ob o:=r.map (jV h)
section
variable {x:Fx} {h h':Heap} {O:Lc} {H:Hp} {T:Im}
structure Own (h:Heap) (z:Addr):Prop where
 it:∃o,h.get? z=some o/\(o.cls≠.type "tuple"/\o.cls≠.type "range"/\o.cls≠.type "list")/\∃xs,o.data=.fields xs
theorem aJ.minus (S:aJ x h O H T) {z:Addr} (hz:Own h z):aJ x h O H (T.minus z):=by
 obtain ⟨o,h1,h2,_⟩:=hz.it
 have hh:∀o,T z=some o->o.cls≠.type "tuple"/\o.cls≠.type "range"/\o.cls≠.type "list":=λo' e=>by
  have:=(S.fc z o' e).1;rw [h1] at this;cases this;exact h2
 obtain ⟨m,F,hl⟩:=S.fr;refine ⟨S.cN,⟨m,F,λi v e=>?_⟩,λb ob e=>?_,λb o' e=>?_,S.jD⟩
 ·refine fF (hl i v e) λn val q1 q2 q3=>?_;exact ⟨n,val,q1,q2,q3.minus hh⟩
 ·refine aD (S.own b ob e) ?_;rintro ⟨o2,q1,q2⟩ q3;exact ⟨⟨o2,q1,q2.minus hh⟩,q3⟩
 ·unfold Im.minus at e;by_cases hb:b=z
  ·rw [Qk hb] at e;cases e
  ·rw [Qb hb] at e;exact S.fc b o' e
theorem aJ.hh (S:aJ x h O H T) {z:Addr} (hz:Own h z):∀o,T z=some o->o.cls≠.type "tuple"/\o.cls≠.type "range"/\o.cls≠.type "list":=λo' e=>by
 obtain ⟨o,h1,h2,_⟩:=hz.it;have:=(S.fc z o' e).1;rw [h1] at this;cases this;exact h2
theorem aJ.off (S:aJ x h O H T) {z:Addr} (hT:T z=none) (hH:H z=none) (hL:z≠x.env.locals) (h0:x.h₀.get? z=none) (hc:∀v,¬h.IsCell z v) (k:Heap.ExtBut z h h'):aJ x h' O H T:=by
 obtain ⟨m,F,hl⟩:=S.fr
 have kc:∀{c v},h.IsCell c v->h'.IsCell c v:=λ{c v} hv=>by
  have hn:c≠z:=λq=>by subst q;exact hc v hv
  refine ao hv λo c1 c2=>?_;exact ⟨o,k _ _ hn c1,c2⟩
 refine ⟨S.cN,⟨m,⟨?_,λb o e=>k b o (λq=>by subst q;rw [h0] at e;cases e) (F.keep b o e),F.above⟩,λi v e=>?_⟩,λa ob e=>?_,λa o e=>?_,λn c hn=>?_⟩
 ·obtain ⟨o,es,ep,a1,a2⟩:=F.ns;exact ⟨o,es,ep,k _ _ (Ne.symm hL) a1,a2⟩
 ·refine fF (hl i v e) λn val q1 q2 q3=>?_;refine ⟨n,val,q1,?_,q3⟩;rcases q2 with s | ⟨p1,c,p2,p3⟩
  ·exact .inl s
  ·exact .inr ⟨p1,c,p2,kc p3⟩
 ·refine dJ (S.own a ob e) ?_;rintro ⟨o,q1,q2⟩ q3 q4;exact ⟨⟨o,k _ _ (λq=>by subst q;rw [hH] at e;cases e) q1,q2⟩,q3,q4⟩
 ·exact ⟨k _ _ (λq=>by subst q;rw [hT] at e;cases e) (S.fc a o e).1,(S.fc a o e).2⟩
 ·refine ao (S.jD n c hn) λv a3 a4=>?_;exact ⟨v,kc a3,a4⟩
theorem Own.gk {z:Addr} (hz:Own h z) (v:Option Value):¬h.IsCell z v:=by
 obtain ⟨o,h1,_,xs,h2⟩:=hz.it;rintro ⟨o',e1,e2⟩;rw [h1] at e1;cases e1;rw [h2] at e2;cases e2
theorem aJ.qh (S:aJ x h O H T) {z:Addr} (hz:Own h z):H z=none:=by
 obtain ⟨o,h1,_,xs,h2⟩:=hz.it
 cases e:H z with
 | none=>rfl
 | some ob=>
  refine aD (S.own z ob e) ?_;rintro ⟨o',e1,e2⟩ _
  rw [h1] at e1;cases e1;cases e2<;>cases h2
theorem aJ.rD (S:aJ x h O H T) {z:Addr} (hz:Own h z):z≠x.env.locals:=by
 obtain ⟨o,h1,_,xs,h2⟩:=hz.it;obtain ⟨m,F,_⟩:=S.fr;obtain ⟨oL,es,ep,hL,hd,_⟩:=F.ns;intro q;subst q;rw [h1] at hL;cases hL;rw [h2] at hd;cases hd
theorem aJ.oO (S:aJ x h O H T) {z:Addr} (hz:Own h z) (h0:x.h₀.get? z=none) (k:Heap.ExtBut z h h'):aJ x h' O H (T.minus z):=
 (S.minus hz).off (T.lV z) (S.qh hz) (S.rD hz) h0 hz.gk k
theorem aJ.mark (S:aJ x h O H T) {z:Addr} (hT:T z=none) {o:Obj} (ho:h.get? z=some o) (hi:mI o):T.Le (T.upd z o)/\aJ x h O H (T.upd z o):=by
 have le:T.Le (T.upd z o):=λb o' e=>by
  unfold Im.upd;by_cases hb:b=z
  ·subst hb;rw [hT] at e;cases e
  ·rw [Qb hb];exact e
 obtain ⟨m,F,hl⟩:=S.fr;refine ⟨le,S.cN,⟨m,F,λi v e=>?_⟩,λb ob e=>?_,λb o' e=>?_,S.jD⟩
 ·refine fF (hl i v e) λn val q1 q2 q3=>?_;exact ⟨n,val,q1,q2,q3.mono le⟩
 ·refine aD (S.own b ob e) ?_;rintro ⟨o2,q1,q2⟩ q3;exact ⟨⟨o2,q1,q2.mono le⟩,q3⟩
 ·unfold Im.upd at e;by_cases hb:b=z
  ·subst hb;rw [Qk rfl] at e;cases e;exact ⟨ho,.inl hi⟩
  ·rw [Qb hb] at e;exact S.fc b o' e
end
def fZ (v:V) (val:Value) (I:Addr) (k:Nat) (h:Heap):Prop:=match v,val with
 | .ref a,_=>h.IsListIter I a k
 | .tup _,.ref a=>h.IsTupleIter I a k
 | .f7 a b c,_=>IsRangeIter h I (a+(k:Int)*c) ((cq a b c:Int) - (k:Int)) c
 | _,_=>False
noncomputable def ed (H:Hp):V->Option (List V)
 | .ref a=>(match H a with
  | some (.list vs)=>some vs
  | _=>none)
 | .tup vs=>some vs
 | .f7 a b c=>some (aP a b c)
 | _=>none
theorem fZ.own {v:V} {val:Value} {I:Addr} {k:Nat} {h:Heap} (i:fZ v val I k h):Own h I:=by
 unfold fZ at i;split at i
 ·refine gP i λo a b c=>?_;exact ⟨o,a,by rw [b];exact ⟨by decide,by decide,by decide⟩,_,c⟩
 ·refine gP i λo a b c=>?_;exact ⟨o,a,by rw [b];exact ⟨by decide,by decide,by decide⟩,_,c⟩
 ·exact ⟨_,i,⟨show (Value.type "range_iterator")≠.type "tuple" by decide,show (Value.type "range_iterator")≠.type "range" by decide,show (Value.type "range_iterator")≠.type "list" by decide⟩,_,rfl⟩
 ·exact i.elim
theorem fZ.keep {v:V} {val:Value} {I:Addr} {k:Nat} {h h':Heap} (i:fZ v val I k h) (e:∀o,h.get? I=some o->h'.get? I=some o):fZ v val I k h':=by
 unfold fZ at i ⊢;split at i
 ·refine gP i λo a b c=>?_;exact ⟨o,e _ a,b,c⟩
 ·refine gP i λo a b c=>?_;exact ⟨o,e _ a,b,c⟩
 ·exact e _ i
 ·exact i.elim
section
variable {prog:Program} {w:World} {A:Around} {E:Value->Shared->Prop} {s:Shared} {x:Fx} {O:Lc} {H:Hp} {T:Im}
theorem md (S:aJ x s.heap O H T) {v:V} {val:Value} (hv:VR T v val) {vs:List V} (hi:ed H v=some vs) {Q:Value->Shared->Prop}
 (hQ:∀h',(∀b o,s.heap.get? b=some o->h'.get? b=some o)->fZ v val s.heap.objs.size 0 h'->Q (.ref s.heap.objs.size) { s with heap:=h' }):wpAny (model prog w) A (pyIter val) Q E s:=by
 unfold ed at hi
 cases hv with
 | ref a=>
  simp only at hi;split at hi
  ·rename_i us hy;refine ew (S.list hy) λxs k g1 g2 g3 g4=>?_;exact wpAny_pyIter_list g4 (hQ _ (λb o e=>Heap.get?_push_of_some _ e) ⟨_,Heap.get?_push_size _ rfl,rfl,rfl⟩)
  ·cases hi
 | tup t1 l1 t2=>
  exact wpAny_pyIter_tuple ⟨_,(S.fc _ _ t1).1,rfl,_,rfl⟩ (hQ _ (λb o e=>Heap.get?_push_of_some _ e) ⟨_,Heap.get?_push_size _ rfl,rfl,rfl⟩)
 | f7 e q1 q2=>
  refine wpAny_pyIter_range (S.fc _ _ e).1 q1 (hQ _ (λb o e=>Heap.get?_push_of_some _ e) ?_);simp only [fZ];rw [q2];show Heap.get? _ _=_;rw [Heap.get?_push_size _ rfl];simp
 | _=>cases hi
theorem zJ {a b c:Int} {k:Nat} {u:V} (h:(aP a b c)[k]?=some u):k<cq a b c/\u=.int (a+(k:Int)*c):=by
 unfold aP at h;rw [QK] at h
 cases e:(List.range (cq a b c))[k]? with
 | none=>rw [e] at h;cases h
 | some j=>
  rw [e] at h;have:=Qs.mp e;refine bJ this λh1 h2=>?_;simp at h1 h2;subst h2;simp at h;exact ⟨h1,h.symm⟩
theorem vS {a b c:Int} {k:Nat} (h:(aP a b c)[k]?=none):cq a b c<=k:=by
 unfold aP at h;simpa using h
theorem nH (S:aJ x s.heap O H T) {v:V} {val:Value} (hv:VR T v val) {vs:List V} (hi:ed H v=some vs) {I:Addr} {k:Nat} (st:fZ v val I k s.heap) {u:V} (hu:vs[k]?=some u) {Q:Option Value->Shared->Prop}
 (hQ:∀h' tk ual,VR T u ual->Heap.SameBut I s.heap h'->fZ v val I (k+1) h'->Q (some ual) { s with heap:=h',toks:=tk }):wpAny (model prog w) A (pyNext (.ref I)) Q E s:=by
 unfold ed at hi
 cases hv with
 | ref a=>
  simp only at hi;split at hi
  ·rename_i us hy;cases hi;refine ew (S.list hy) λxs n g1 g2 g3 g4=>?_;refine ao (g2.get hu) λy hy1 hy2=>?_;exact wpAny_pyNext_list_item st g4 (by simpa using hy1) λh' hit hs=>hQ h' s.toks _ hy2 hs hit
  ·cases hi
 | tup t1 l1 t2=>
  simp only [Th] at hi;subst hi;refine ao (t2.get hu) λy hy1 hy2=>?_;exact wpAny_pyNext_tuple_item st ⟨_,(S.fc _ _ t1).1,rfl,_,rfl⟩ (by simpa using hy1) λh' hit hs=>hQ h' s.toks _ hy2 hs hit
 | f7 e q1 q2=>
  rename_i a b c t' u' v' r;simp only [Th] at hi;subst hi;refine aD (zJ hu) ?_;rintro h1 rfl;refine wpAny_pyNext_range_item st (by lia) λh' hit hs=>hQ h' _ _ (.int _ _) hs ?_;simp only [fZ]
  have e1:a+((k+1:Nat):Int)*c=a+(k:Int)*c+c:=by push_cast;rw [Int.add_mul,Int.one_mul,Int.add_assoc]
  have e2:(cq a b c:Int) - ((k+1:Nat):Int)=(cq a b c:Int) - (k:Int) -1:=by push_cast;lia
  rw [e1,e2];exact hit
 | _=>cases hi
theorem qt (hh:A.handled=none) (S:aJ x s.heap O H T) {v:V} {val:Value} (hv:VR T v val) {vs:List V} (hi:ed H v=some vs) {I:Addr} {k:Nat} (st:fZ v val I k s.heap) (hu:vs[k]?=none) {Q:Option Value->Shared->Prop}
 (hQ:∀h',Heap.ExtBut I s.heap h'->Q none { s with heap:=h' }):wpAny (model prog w) A (pyNext (.ref I)) Q E s:=by
 unfold ed at hi
 cases hv with
 | ref a=>
  simp only at hi;split at hi
  ·rename_i us hy;cases hi;refine ew (S.list hy) λxs n g1 g2 g3 g4=>?_;have:=g2.length;exact wpAny_pyNext_list_end hh st g4 (by simp at hu ⊢;lia) hQ
  ·cases hi
 | tup t1 l1 t2=>
  simp only [Th] at hi;subst hi;have:=t2.length;exact wpAny_pyNext_tuple_end hh st ⟨_,(S.fc _ _ t1).1,rfl,_,rfl⟩ (by simp at hu ⊢;lia) hQ
 | f7 e q1 q2=>
  simp only [Th] at hi;subst hi;have:=vS hu;exact wpAny_pyNext_range_end hh st (by lia) hQ
 | _=>cases hi
end
noncomputable def I9:Obj:={ cls:=.none,data:=.freed }
noncomputable def freeze (h:Heap) (p:Addr->Prop) (n:Nat):Heap:=by
 classical exact ⟨Array.ofFn (n:=n) λi=>if p i.val then (h.objs[i.val]?).getD I9 else I9,h.life⟩
theorem qw (h:Heap) (p:Addr->Prop) (n:Nat):(freeze h p n).objs.size=n:=by simp [freeze]
theorem ic {h:Heap} {p:Addr->Prop} {n a:Nat} (hn:a<n) (hp:p a):(freeze h p n).get? a=h.get? a:=by
 classical
 have e:(freeze h p n).objs[a]?=some ((h.objs[a]?).getD I9):=by simp [freeze,hn,hp]
 unfold Heap.get?;rw [e]
 cases q:h.objs[a]? with
 | none=>rfl
 | some o=>rfl
theorem ie {h:Heap} {p:Addr->Prop} {n a:Nat} (hp:¬(a<n/\p a)):(freeze h p n).get? a=none:=by
 classical
 unfold Heap.get?;by_cases hn:a<n
 ·have hp':¬p a:=λq=>hp ⟨hn,q⟩
  have e:(freeze h p n).objs[a]?=some I9:=by simp [freeze,hn,hp']
  rw [e];rfl
 ·have e:(freeze h p n).objs[a]?=none:=by simp [freeze];exact SA ‹_›
  rw [e]
theorem uN {h:Heap} {p:Addr->Prop} {n a:Nat} {o:Obj} (e:(freeze h p n).get? a=some o):a<n/\p a/\h.get? a=some o:=by
 by_cases hp:a<n/\p a
 ·rw [ic hp.1 hp.2] at e;exact ⟨hp.1,hp.2,e⟩
 ·rw [ie hp] at e;cases e
noncomputable def inner (x:Fx) (h:Heap) (H:Hp) (cenv:Env) (ns:List Str):Fx:={ ca:=x.ca,base:=x.base,h₀:=freeze h (λa=>H a=none) cenv.locals,env:=cenv,W:=[],ns:=ns }
section
variable {x:Fx} {h h':Heap} {O ρ':Lc} {H H':Hp} {T T':Im} {cenv:Env} {ns:List Str}
theorem aJ.enter (S:aJ x h O H T) {m:Str->Option Value} (hC:h.Ns cenv.locals m) (hHC:H cenv.locals=none) (h0:x.h₀.objs.size<=cenv.locals)
 (hcells:∀n c,cenv.cells.lookup n=some c->∃v,h.IsCell c v) (hρ:∀i v,getL ρ' i=some v->∃n val,ns[i]?=some n/\kB cenv m h n val/\VR T v val):aJ (inner x h H cenv ns) h ρ' H T:=by
 refine ⟨λb o e=>?_,⟨m,⟨hC,λb o e=>(uN e).2.2,by show (freeze _ _ _).objs.size<=_;rw [qw];exact Qn _⟩,hρ⟩,λa ob e=>?_,S.fc,λn c e=>?_⟩
 ·have e1:=S.cN b o e;have e2:=S.keep b o e;show (freeze h _ _).get? b=some o;rw [ic (P7 (Heap.lt_size e1) h0)]
  ·exact e2
  ·cases q:H b with
   | none=>rfl
   | some ob=>have:=(S.own b ob q).2.2;rw [e1] at this;cases this
 ·refine dJ (S.own a ob e) λa1 a2 a3=>?_;refine ⟨a1,?_,?_⟩
  ·show a≠cenv.locals;intro q;subst q;rw [hHC] at e;cases e
  ·exact ie λq=>by rw [q.2] at e;cases e
 ·refine bJ (hcells n c e) λv hv=>?_;exact ⟨v,hv,λq=>nomatch q⟩
theorem aJ.frozen (S':aJ (inner x h H cenv ns) h' ρ' H' T') {a:Addr} (hlt:a<cenv.locals) (hn:H a=none) {o:Obj} (e:h.get? a=some o):h'.get? a=some o/\H' a=none:=by
 have hf:(inner x h H cenv ns).h₀.get? a=some o:=by
  show (freeze h _ _).get? a=some o;rw [ic hlt hn];exact e
 obtain ⟨m,F,_⟩:=S'.fr;refine ⟨F.keep _ _ hf,?_⟩
 cases q:H' a with
 | none=>rfl
 | some ob=>have:=(S'.own a ob q).2.2;rw [hf] at this;cases this
theorem aJ.g7 (S:aJ x h O H T):H x.env.locals=none:=by
 cases q:H x.env.locals with
 | none=>rfl
 | some ob=>exact absurd rfl (S.own _ ob q).2.1
theorem aJ.j5 (S:aJ x h O H T) {c:Addr} {v:Option Value} (hc:h.IsCell c v):H c=none/\(x.h₀.get? c=none->T c=none):=by
 refine ao hc λo e1 e2=>?_;constructor
 ·cases q:H c with
  | none=>rfl
  | some ob=>
   refine aD (S.own c ob q) ?_;rintro ⟨o',a1,a2⟩ _;rw [e1] at a1;cases a1;exact absurd e2 (a2.gk v)
 ·intro h0
  cases q:T c with
  | none=>rfl
  | some ob=>
   refine aD (S.fc c ob q) λa1 a2=>?_;rw [e1] at a1;cases a1;rcases a2 with (⟨_,_,t2,_⟩ | ⟨_,t2⟩) | t2
   ·rw [e2] at t2;cases t2
   ·rw [e2] at t2;cases t2
   ·rw [S.iC h0] at t2;cases t2
theorem aJ.leave (S:aJ x h O H T) (S':aJ (inner x h H cenv ns) h' ρ' H' T') (le:T.Le T') (hlt:x.env.locals<cenv.locals) (h0:x.h₀.objs.size<=cenv.locals)
 (hcb:∀n c,x.env.cells.lookup n=some c->c<cenv.locals):aJ x h' O H' T':=by
 obtain ⟨m,F,hl⟩:=S.fr;have kp:∀{a:Addr} {o:Obj},a<cenv.locals->H a=none->h.get? a=some o->h'.get? a=some o:=λa1 a2 a3=>(S'.frozen a1 a2 a3).1
 have k0:∀{b:Addr} {o:Obj},x.h₀.get? b=some o->b<cenv.locals/\H b=none/\h.get? b=some o:=λ{b o} e=>by
  refine ⟨P7 (Heap.lt_size e) h0,?_,F.keep b o e⟩
  cases q:H b with
  | none=>rfl
  | some ob=>have:=(S.own b ob q).2.2;rw [e] at this;cases this
 have kc:∀{n:Str} {c:Addr} {v:Option Value},x.env.cells.lookup n=some c->h.IsCell c v->h'.IsCell c v:=λhc hv=>by
  have hn:=(S.j5 hv).1;refine ao hv λo e1 e2=>?_;exact ⟨o,kp (hcb _ _ hc) hn e1,e2⟩
 refine ⟨S.cN,⟨m,⟨?_,λb o e=>kp (k0 e).1 (k0 e).2.1 (k0 e).2.2,F.above⟩,λi v e=>?_⟩,λa ob e=>?_,S'.fc,λn c e=>?_⟩
 ·obtain ⟨o,es,ep,a1,a2⟩:=F.ns;exact ⟨o,es,ep,kp hlt S.g7 a1,a2⟩
 ·refine fF (hl i v e) λn val q1 q2 q3=>?_;refine ⟨n,val,q1,?_,q3.mono le⟩;rcases q2 with s | ⟨p1,c,p2,p3⟩
  ·exact .inl s
  ·exact .inr ⟨p1,c,p2,kc p2 p3⟩
 ·refine dJ (S'.own a ob e) λa1 a2 a3=>?_;refine ⟨a1,λq=>?_,?_⟩
  ·subst q;obtain ⟨o,es,ep,b1,b2⟩:=F.ns;have:=(S'.frozen hlt S.g7 b1).2;rw [e] at this;cases this
  ·cases q:x.h₀.get? a with
   | none=>rfl
   | some o=>
    have:=(S'.frozen (k0 q).1 (k0 q).2.1 (k0 q).2.2).2;rw [e] at this;cases this
 ·refine ao (S.jD n c e) λv a3 a4=>?_;exact ⟨v,kc e a3,a4⟩
end
theorem eW {n:Str}:∀(names:List (Str×NameKind)) (k:Nat) (acc:List (Str×Addr)),(∀y∈names,y.2=.cell->y.1≠n)->(cellsFrom k names acc).lookup n=acc.lookup n
 | [],_,_,_=>rfl
 | (m,kd)::r,k,acc,h=>by
  unfold cellsFrom;have hr:∀y∈r,y.2=.cell->y.1≠n:=λy hy=>h y (QC _ hy);split
  ·rename_i hk;rw [eW r _ _ hr];have hne:m≠n:=h (m,kd) (QB ..) (eq_of_beq hk)
   have:(n == m)=false:=by simpa using Ne.symm hne
   simp [Q4,this]
  ·exact eW r _ _ hr
theorem fY {n:Str} {lo:Nat}:∀(names:List (Str×NameKind)) (h:Heap) (acc:List (Str×Addr)),lo<=h.objs.size->(n,NameKind.cell)∈names\/(∃c,acc.lookup n=some c/\lo<=c/\h.IsCell c none)->
 ∃c,(cellsFrom h.objs.size names acc).lookup n=some c/\lo<=c/\(pushCells h names).IsCell c none
 | [],h,acc,_,hm=>by
  rcases hm with hm | hm
  ·cases hm
  ·exact hm
 | (m,kd)::r,h,acc,hlo,hm=>by
  unfold cellsFrom pushCells;split
  ·rename_i hk;have:=fY (n:=n) (lo:=lo) r (h.push { cls:=.type "cell",data:=.cell none }) ((m,h.objs.size)::acc) (by rw [Heap.size_push];exact Rl ‹_›) ?_
   ·rw [Heap.size_push] at this;exact this
   ·by_cases hmn:n=m
    ·subst hmn;exact .inr ⟨h.objs.size,by simp [Q4],hlo,_,Heap.get?_push_size _ rfl,rfl⟩
    ·rcases hm with hm | ⟨c,c1,c2,c3⟩
     ·rcases Sw.mp hm with e | hm
      ·cases e;exact absurd rfl hmn
      ·exact .inl hm
     ·have:(n == m)=false:=by simpa using hmn
      exact .inr ⟨c,by simp [Q4,this,c1],c2,c3.keeps λb o e=>Heap.get?_push_of_some _ e⟩
  ·rename_i hk;refine fY r h acc hlo ?_;rcases hm with hm | hm
   ·rcases Sw.mp hm with e | hm
    ·cases e;exact absurd rfl hk
    ·exact .inl hm
   ·exact .inr hm
theorem gW:∀(names:List (Str×NameKind)) (h:Heap),h.objs.size<=(pushCells h names).objs.size
 | [],_=>Qn _
 | (m,kd)::r,h=>by
  unfold pushCells;split
  ·have:=gW r (h.push { cls:=.type "cell",data:=.cell none });rw [Heap.size_push] at this;exact Qp ‹_›
  ·exact gW r h
theorem iV {env:Env} (f:Str×NameKind->List (Str×Addr)->Sem (ForInStep (List (Str×Addr)))) (hf:∀n k cs,f (n,k) cs=if k ==.free then (do let a <- cellOf env n;pure (.yield ((n,a)::cs))) else pure (.yield cs)) :
 ∀(names:List (Str×NameKind)) (acc:List (Str×Addr)),(∀y∈names,y.2=.free->∃c,env.cells.lookup y.1=some c)->(∀n c,acc.lookup n=some c->env.cells.lookup n=some c)->
  ∃cl,forIn names acc f=pure cl/\(∀n c,cl.lookup n=some c->env.cells.lookup n=some c)/\(∀n,(n,NameKind.free)∈names\/(∃c,acc.lookup n=some c)->∃c,cl.lookup n=some c)
 | [],acc,_,ha=>⟨acc,by rw [List.forIn_nil],ha,λn h=>h.elim (λh=>nomatch h) id⟩
 | (m,k)::r,acc,h,ha=>by
  have hr:∀y∈r,y.2=.free->∃c,env.cells.lookup y.1=some c:=λy hy=>h y (QC _ hy);by_cases hk:(k == NameKind.free)=true
  ·refine bJ (h (m,k) (QB ..) (eq_of_beq hk)) λc hc=>?_;have hc':env.cells.lookup m=some c:=hc
   have hco:cellOf env m=pure c:=by unfold cellOf;rw [hc']
   obtain ⟨cl,e1,e2,e3⟩:=iV f hf r ((m,c)::acc) hr (λn c' hn=>by
    rw [Q4] at hn
    cases q:n == m with
    | true=>rw [q] at hn;cases hn;rw [eq_of_beq q];exact hc'
    | false=>rw [q] at hn;exact ha n c' hn)
   refine ⟨cl,?_,e2,λn hn=>e3 n ?_⟩
   ·rw [List.forIn_cons,hf,Qk hk,hco];exact e1
   ·by_cases hmn:n=m
    ·subst hmn;exact .inr ⟨c,by simp [Q4]⟩
    ·have q:(n == m)=false:=by simpa using hmn
     rcases hn with hn | ⟨c',hn⟩
     ·rcases Sw.mp hn with e | hn
      ·cases e;exact absurd rfl hmn
      ·exact .inl hn
     ·exact .inr ⟨c',by simp [Q4,q,hn]⟩
  ·refine gP (iV f hf r acc hr ha) λcl e1 e2 e3=>?_;refine ⟨cl,?_,e2,λn hn=>e3 n ?_⟩
   ·rw [List.forIn_cons,hf,Qb hk];exact e1
   ·rcases hn with hn | hn
    ·rcases Sw.mp hn with e | hn
     ·cases e;exact absurd rfl hk
     ·exact .inl hn
    ·exact .inr hn
theorem mW {env:Env} {scope:Scope} (h:∀y∈scope.names,y.2=.free->∃c,env.cells.lookup y.1=some c) :
 ∃cl,closureFor scope env=pure cl/\(∀n c,cl.lookup n=some c->env.cells.lookup n=some c)/\(∀n,(n,NameKind.free)∈scope.names->∃c,cl.lookup n=some c):=by
 refine gP (iV (env:=env) (λy cs=>if y.2 ==.free then (do let a <- cellOf env y.1;pure (.yield ((y.1,a)::cs))) else pure (.yield cs)) (λ_ _ _=>rfl) scope.names [] h (λn c e=>by simp at e)) λcl e1 e2 e3=>?_;refine ⟨cl,?_,e2,λn hn=>e3 n (.inl hn)⟩;unfold closureFor;show (forIn scope.names ([]:List (Str×Addr)) (λ(y:Str×NameKind) (cs:List (Str×Addr))=>(if y.2 ==.free then (do let a <- cellOf env y.1;pure (.yield ((y.1,a)::cs))) else pure (.yield cs):Sem (ForInStep (List (Str×Addr))))) >>= λcs=>pure cs)=pure cl;rw [e1];rfl
section
variable {M:Model} {A:Around} {E:Value->Shared->Prop} {s:Shared}
theorem rH {scope:Scope} {globals:Addr} {cl:List (Str×Addr)} {qual:Str} {outer:Env} {Q:Env->Shared->Prop}
 (hQ:Q (newEnv scope s.heap.objs.size globals (cellsFrom (s.heap.objs.size+1) scope.names cl) qual none .none (some outer) builtinsNs) { s with heap:=pushCells (s.heap.push { cls:=.type "dict",data:=.dict #[] }) scope.names }) :
 wpAny M A (newFunctionEnv scope globals cl [] qual none .none (some outer)) Q E s:=by
 simp only [newFunctionEnv,Option.isSome_some,if_true];refine wpAny_bind (wpAny_alloc ?_);refine wpAny_bind (wpAny_layCells _ (λname kind cells=>by cases hkc:kind == NameKind.cell<;>simp [hkc]) _ _ _ _ ?_);rw [show ({ s with heap:=s.heap.push { cls:=.type "dict",data:=.dict #[] } }:Shared).heap.objs.size=s.heap.objs.size+1 from Heap.size_push ..];exact wpAny_bind (wpAny_pure (wpAny_pure hQ))
end
structure EZ (x:Fx) (O:Lc) (T₀:Im) (s₀:Shared) (D C:Addr) (Qf:List V->Hp->Prop) (s:Shared) (H:Hp) (T:Im) (acc:List V) (accV:List Value) (e:Nat) (m:Str->Option Value):Prop where
 le:T₀.Le T
 S:aJ x s.heap O H T
 go:jB s₀ s
 ns:s.heap.Ns C m
 ol:s.heap.get? D=some { cls:=.type "list",data:=.seq accV.toArray e }
 vr:cG T acc accV
 len:acc.length<=lim
 hD:H D=none
 hC:H C=none
 q:Qf acc H
section
variable {prog:Program} {w:World} {A:Around} {E:Value->Shared->Prop} {s:Shared} {x:Fx} {O:Lc} {H:Hp} {T:Im} {K:Frag} {base:Heap} {ca fa:Nat->Addr} {Γ:Sg} {sc:Scope} {ns:List Str}
noncomputable def tV (Γ':GT) (at_:List Str) (sc:Scope) (ns:List Str):List PySem.Expr->Internal.E
 | []=>.bz true
 | c::_=>cE Γ' at_ sc ns c
theorem vt {ifs:List PySem.Expr} (hifs:ifs.length<=1) (hT:∀c∈ifs,PT prog w K base ca fa c) (R:Rn prog w K base ca fa A Γ) (N:En x sc ns) (hb:x.base=base) (hc:x.ca=ca) (S:aJ x s.heap O H T)
 {P:Bool->Hp->Prop} (h:bp Γ (tV gt attrs sc ns ifs) O H (Tr P)) :
 wpAny (model prog w) A (forIn ifs true λc r=>if r=true then do let ok <- isTrue c x.env (eval c x.env);pure (ForInStep.yield ok) else pure (ForInStep.yield r)) (gu x O T s P) E s:=by
 match ifs,hifs with
 | [],_=>exact wpAny_tests_nil (gu.keep S h)
 | [c],_=>exact wpAny_tests_one (hT c (Qt.mpr rfl) R N hb hc S h)
 | _::_::_,h=>simp at h
theorem aJ.wB (S:aJ x s.heap O H T) {C:Addr} {m:Str->Option Value} (hC:s.heap.Ns C m) (hn:H C=none) (hL:C≠x.env.locals) (h0:x.h₀.get? C=none) {h':Heap} (k:Heap.ExtBut C s.heap h'):aJ x h' O H T:=
 S.off (S.kU h0 hC) hn hL h0 (λv ⟨o,e1,e2⟩=>by refine AS hC λo' es ep a1 a2 _=>?_;rw [e1] at a1;cases a1;rw [e2] at a2;cases a2) k
theorem aJ.Ae {h:Heap} (S:aJ x h O H T) {D:Addr} {xs:Array Value} {e:Nat} (hD:h.get? D=some { cls:=.type "list",data:=.seq xs e }) (hn:H D=none) (hL:D≠x.env.locals) (h0:x.h₀.get? D=none) {h':Heap} (k:Heap.ExtBut D h h'):aJ x h' O H T:=by
 refine S.off ?_ hn hL h0 (λv ⟨o,e1,e2⟩=>by rw [hD] at e1;cases e1;cases e2) k
 cases q:T D with
 | none=>rfl
 | some ob=>
  refine aD (S.fc D ob q) λa1 a2=>?_;rw [hD] at a1;cases a1;rcases a2 with (⟨_,_,_,t2⟩ | ⟨_,t2⟩) | t2
  ·exact absurd (show Value.type "list"=.type "tuple" from t2) (by decide)
  ·cases t2
  ·rw [S.iC h0] at t2;cases t2
theorem uK {O:Lc} {u:V} (h:0<O.length):getL (O.set 0 (some u)) 0=some u:=by
 simp [getL,RD,h]
theorem qu {O:Lc} {u:V} {i:Nat} (h:i≠0):getL (O.set 0 (some u)) i=getL O i:=by
 simp [getL,RD,Ne.symm h]
theorem Cg {e:Ev} {R:List V->Hp->(List V->Hp->Prop)->Prop} {acc:List V} {Q:List V->Hp->Prop}:Ax e R acc Q=Tr λb H=>if b=true then e H (Kf acc R Q) else R acc H Q:=by
 funext v H;delta Ax Tr;dsimp only
 cases truthy v with
 | none=>rfl
 | some b=>cases b<;>rfl
theorem uR {xi:Fx} {ρi:Lc} {mt:Sem Bool} {me:Sem Value} {t el:Ev} {R:List V->Hp->(List V->Hp->Prop)->Prop} {Qf:List V->Hp->Prop} {acc:List V} {D:Addr} {s2:Shared} {J:Shared->Prop}
 (ht:∀{P:Bool->Hp->Prop},t H (Tr P)->wpAny (model prog w) A mt (gu xi ρi T s2 P) E s2)
 (hel:∀{H3 T3} {s3:Shared} {Q},aJ xi s3.heap ρi H3 T3->el H3 Q->wpAny (model prog w) A me (bf xi ρi T3 s3 Q) E s3)
 (q:t H (Ax el R acc Qf))
 (hno:∀(s3:Shared) H3 T3,T.Le T3->aJ xi s3.heap ρi H3 T3->jB s2 s3->R acc H3 Qf->J s3)
 (hyes:∀(s4:Shared) H4 T4 v y,T.Le T4->aJ xi s4.heap ρi H4 T4->jB s2 s4->VR T4 v y->Kf acc R Qf v H4->wpAny (model prog w) A (call (.builtin "list.append") [.ref D,y]) (λ_ s₅=>J s₅) E s4) :
 wpAny (model prog w) A mt (λok s₃=>if ok=true then wpAny (model prog w) A me (λx_1 s₄=>wpAny (model prog w) A (call (.builtin "list.append") [.ref D,x_1]) (λ_ s₅=>J s₅) E s₄) E s₃ else J s₃) E s2:=by
 rw [Cg] at q;refine wpAny_mono (ht q) (λok s3 ⟨H3,T3,gD,S3,go3,q3⟩=>?_) λ_ _ y=>y
 cases ok with
 | false=>exact hno s3 H3 T3 gD S3 go3 q3
 | true=>exact wpAny_mono (hel S3 q3) (λy s4 ⟨v,H4,T4,hv,le4,S4,go4,q4⟩=>hyes s4 H4 T4 v y (gD.trans le4) S4 ⟨go4.1.trans go3.1,go4.2.trans go3.2⟩ hv q4) λ_ _ y=>y
inductive u0 (x:Fx) (O:Lc) (T₀:Im) (s₀:Shared) (D I:Addr) (cenv:Env) (rv:V) (rval:Value) (n:Nat) (W:Nat->List V->Hp->Prop) (k:Nat) (s:Shared):Prop
 | mk (j:Nat) (H:Hp) (T:Im) (acc:List V) (accV:List Value) (e:Nat) (m:Str->Option Value) (hk:k=n-j) (hj:j<=n) (F:EZ x O T₀ s₀ D cenv.locals (W j) s H T acc accV e m) (st:fZ rv rval I j s.heap) (cs:∀n c,cenv.cells.lookup n=some c->∃v,s.heap.IsCell c v):u0 x O T₀ s₀ D I cenv rv rval n W k s
def CW (t el:Lc->Ev) (ρ':Lc) (vs:List V) (Qf:List V->Hp->Prop) (j:Nat):List V->Hp->Prop:=λacc H=>eE t el ρ' (vs.drop j) acc H Qf
theorem iA {h:Heap} {a:Addr} (l:LE.le (α:=Nat) h.objs.size a):h.get? a=none:=by
 cases q:h.get? a with
 | none=>rfl
 | some o=>exact absurd (Heap.lt_size q) (Rv.mpr l)
theorem aJ.CF (S1:aJ x s.heap O H T) {h2:Heap} {c0:Addr} {v0:Option Value} (hv0:s.heap.IsCell c0 v0) (c00:x.h₀.get? c0=none) (hs2:Heap.SameBut c0 s.heap h2) (nLc:x.env.locals≠c0) (hc:∀n c,x.env.cells.lookup n=some c->c≠c0):aJ x h2 O H T:=by
 obtain ⟨m0,F0,hl0⟩:=S1.fr;have cn:=S1.j5 hv0;have kp:∀{b:Addr} {o:Obj},b≠c0->s.heap.get? b=some o->h2.get? b=some o:=λhb e=>hs2.extBut _ _ hb e;refine ⟨S1.cN,⟨m0,⟨F0.ns.sameBut hs2 nLc,λb o e=>kp (λq=>by subst q;rw [c00] at e;cases e) (F0.keep b o e),F0.above⟩,λi v e=>?_⟩,λa ob e=>?_,λa o e=>?_,λn c hn=>?_⟩
 ·refine fF (hl0 i v e) λn val q1 q2 q3=>?_;refine ⟨n,val,q1,?_,q3⟩;rcases q2 with s | ⟨p1,c,p2,p3⟩
  ·exact .inl s
  ·exact .inr ⟨p1,c,p2,p3.sameBut hs2 (hc _ _ p2)⟩
 ·refine dJ (S1.own a ob e) ?_;rintro ⟨o,q1,q2⟩ q3 q4;exact ⟨⟨o,kp (λq=>by subst q;rw [cn.1] at e;cases e) q1,q2⟩,q3,q4⟩
 ·exact ⟨kp (λq=>by subst q;rw [cn.2 c00] at e;cases e) (S1.fc a o e).1,(S1.fc a o e).2⟩
 ·refine ao (S1.jD n c hn) λv a3 a4=>?_;exact ⟨v,a3.sameBut hs2 (hc _ _ hn),a4⟩
theorem j4 {cenv:Env} {h1 h2:Heap} {a:Addr} (hcs:∀n c,cenv.cells.lookup n=some c->∃v,h1.IsCell c v) (hs:Heap.SameBut a h1 h2) (ha:∀v,¬h1.IsCell a v):∀n c,cenv.cells.lookup n=some c->∃v,h2.IsCell c v:=λn c hn=>by
 refine bJ (hcs n c hn) λv hv=>?_;exact ⟨v,hv.sameBut hs λq=>ha v (q ▸ hv)⟩
theorem oR {h:Heap} {a:Addr} {o:Obj} (e:h.get? a=some o) (hd:∀c,o.data≠.cell c):∀v,¬h.IsCell a v:=λv ⟨o',e1,e2⟩=>by
 rw [e] at e1;cases e1;exact hd _ e2
def iS {elt it:PySem.Expr} {ifs:List PySem.Expr} {sc':Scope} {pos px:Pos} {nm:Str} {ns':List Str} {cenv:Env} {ρ':Lc} {T₀:Im} {s₀:Shared} {D I:Nat} {rval:Value} {a b c:Int}:Prop:=∀{Qf:List V->Hp->Prop} {RR:Result->Shared->Prop} {t el:Lc->Ev} (hh:A.handled=none) (hkf:cenv.scope.kind=.function) (ht:∀{xi:Fx} {O H T} {s:Shared} {E P},(∃h H,xi=inner x h H cenv ns')->aJ xi s.heap O H T->t O H (Tr P)->wpAny (model prog w) A (forIn ifs true λc r=>if r=true then do let ok <- isTrue c cenv (eval c cenv);pure (ForInStep.yield ok) else pure (ForInStep.yield r)) (gu xi O T s P) E s) (hel:∀{xi:Fx} {O H T} {s:Shared} {E Q},(∃h H,xi=inner x h H cenv ns')->aJ xi s.heap O H T->el O H Q->wpAny (model prog w) A (eval elt cenv) (bf xi O T s Q) E s) (hkx:cenv.kindOf nm=some .local\/(cenv.kindOf nm=some .cell/\∃c0:Nat,cenv.cells.lookup nm=some c0/\(cenv.locals:Nat)<c0/\∀n,cenv.cells.lookup n=some c0->n=nm)) (hns:ns'[0]?=some nm) (hlen:0<ρ'.length) (hL:LT.lt (α:=Nat) x.env.locals D) (h0:x.h₀.objs.size<=I) (hDC:LT.lt (α:=Nat) D cenv.locals) (hIC:LT.lt (α:=Nat) I cenv.locals) (hID:I<D) (hcb:∀n c,x.env.cells.lookup n=some c->LT.lt (α:=Nat) c I) (hcap:∀i v,i≠0->getL ρ' i=some v->∃n j,ns'[i]?=some n/\n≠nm/\getL O j=some v/\x.ns[j]?=some n/\(x.env.kindOf n=some .cell\/x.env.kindOf n=some .free)/\(cenv.kindOf n=some .cell\/cenv.kindOf n=some .free)/\∀c,x.env.cells.lookup n=some c->cenv.cells.lookup n=some c) (hT0:T₀ I=none) (hrv:VR T₀ (.f7 a b c) rval) (hfin:∀s H T acc accV e m,EZ x O T₀ s₀ D cenv.locals Qf s H T acc accV e m->RR (.ok .next) s) {k:Nat} (st:u0 x O T₀ s₀ D I cenv (.f7 a b c) rval (cq a b c) (CW t el ρ' (aP a b c) Qf) k s),codeAny (model prog w) A (.compLoop (.ListComp elt [⟨.Name nm px,it,ifs,0⟩] sc' pos) 0 (.ref I) (.ref D) cenv) RR s
theorem uS {elt it:PySem.Expr} {ifs:List PySem.Expr} {sc':Scope} {pos px:Pos} {nm:Str} {ns':List Str} {cenv:Env} {ρ':Lc} {T₀:Im} {s₀:Shared} {D I:Nat} {rval:Value} {a b c:Int}:@iS prog w A s x O elt it ifs sc' pos px nm ns' cenv ρ' T₀ s₀ D I rval a b c:=au (S:=λx:(Program×World×Around×Shared)×(Fx×Lc×PySem.Expr×PySem.Expr)×(List PySem.Expr×Scope×Pos×Pos)×(Str×List Str×Env×Lc)×(Im×Shared×Nat×Nat)×(Value×Int×Int×Int)=>@iS x.1.1 x.1.2.1 x.1.2.2.1 x.1.2.2.2 x.2.1.1 x.2.1.2.1 x.2.1.2.2.1 x.2.1.2.2.2 x.2.2.1.1 x.2.2.1.2.1 x.2.2.1.2.2.1 x.2.2.1.2.2.2 x.2.2.2.1.1 x.2.2.2.1.2.1 x.2.2.2.1.2.2.1 x.2.2.2.1.2.2.2 x.2.2.2.2.1.1 x.2.2.2.2.1.2.1 x.2.2.2.2.1.2.2.1 x.2.2.2.2.1.2.2.2 x.2.2.2.2.2.1 x.2.2.2.2.2.2.1 x.2.2.2.2.2.2.2.1 x.2.2.2.2.2.2.2.2) (x:=((default,dW,{},{}),(BV,[],default,default),([],default,default,default),(default,[],default,[]),(λ_=>none,{},0,0),(default,0,0,0))) (by
 refine (?_:∀prog w A s x O elt it ifs sc' pos px nm ns' cenv ρ' T₀ s₀ D I rval a b c,@iS prog w A s x O elt it ifs sc' pos px nm ns' cenv ρ' T₀ s₀ D I rval a b c) _ _ _ _ _ _ _ _ _ _ _ _ _ _ _ _ _ _ _ _ _ _ _ _;intro prog w A s x O elt it ifs sc' pos px nm ns' cenv ρ' T₀ s₀ D I rval a b c Qf RR t el hh hkf ht hel hkx hns hlen hL h0 hDC hIC hID hcb hcap hT0 hrv hfin k st;refine codeAny_compLoop_tests (u0 x O T₀ s₀ D I cenv (.f7 a b c) rval (cq a b c) (CW t el ρ' (aP a b c) Qf)) ?_ _ st;clear st;rintro k s ⟨j,H,T,acc,accV,e,m,rfl,hj,F,st,hcs⟩;have nID:I≠D:=QX hID;have nIC:I≠cenv.locals:=QX hIC;have nDC:D≠cenv.locals:=QX hDC;have lLC:LT.lt (α:=Nat) x.env.locals cenv.locals:=Q7 hL hDC;have l0C:LE.le (α:=Nat) x.h₀.objs.size cenv.locals:=P8 h0 (Qp hIC);have hI0:x.h₀.get? I=none:=iA h0;have own:=st.own;have hrv':=hrv.mono F.le
 cases hu:(aP a b c)[j]? with
 | none=>
  refine qt (H:=H) hh F.S hrv' rfl st hu λh' hx=>?_;have q:eE t el ρ' ((aP a b c).drop j) acc H Qf:=F.q;rw [Te (List.getElem?_eq_none_iff.mp hu)] at q;refine hfin _ H (T.minus I) acc accV e m ⟨Im.lW F.le hT0,F.S.oO own hI0 hx,⟨F.go.1,F.go.2⟩,?_,hx D _ nID.symm F.ol,F.vr.minus (F.S.hh own),F.len,F.hD,F.hC,q⟩;obtain ⟨o,es,ep,a1,a2⟩:=F.ns;exact ⟨o,es,ep,hx _ _ nIC.symm a1,a2⟩
 | some u=>
  refine nH (H:=H) F.S hrv' rfl st hu λh1 tk ual hual hs1 st1=>?_
  have hjl:j<cq a b c:=by
   have:=(Qs.mp hu).1;rwa [show (aP a b c).length=cq a b c by delta aP;rw [Qd,Sr]] at this
  have hx1:=hs1.extBut;have S1:aJ x h1 O H (T.minus I):=F.S.oO own hI0 hx1;have ol1:=hx1 D _ nID.symm F.ol
  have ns1:h1.Ns cenv.locals m:=by
   obtain ⟨o,es,ep,a1,a2⟩:=F.ns;exact ⟨o,es,ep,hx1 _ _ nIC.symm a1,a2⟩
  have cs1:=j4 hcs hs1 own.gk;have q:eE t el ρ' ((aP a b c).drop j) acc H Qf:=F.q
  rw [show (aP a b c).drop j=u:: (aP a b c).drop (j+1) by
   refine bJ (Qs.mp hu) λh1 h2=>?_
   rw [Sk h1,h2]] at q
  have done:∀{s':Shared} {H' T' acc' accV' e'},T.minus I |>.Le T'->jB s₀ s'->cG T' acc' accV'->acc'.length<=lim->CW t el ρ' (aP a b c) Qf (j+1) acc' H'->aJ x s'.heap O H' T'->s'.heap.get? D=some { cls:=.type "list",data:=.seq accV'.toArray e' }->fZ (.f7 a b c) rval I (j+1) s'.heap->H' D=none->H' cenv.locals=none->(∃m,s'.heap.Ns cenv.locals m)->(∀n c,cenv.cells.lookup n=some c->∃v,s'.heap.IsCell c v)->
   ∃m,m<cq a b c-j/\u0 x O T₀ s₀ D I cenv (.f7 a b c) rval (cq a b c) (CW t el ρ' (aP a b c) Qf) m s':=λle go vr len q S ol st hD hC ⟨m,ns⟩ cs=>
   ⟨_,Ud hjl (Qu j),j+1,_,_,_,_,_,m,rfl,hjl,⟨(Im.lW F.le hT0).trans le,S,go,ns,ol,vr,len,hD,hC,q⟩,st,cs⟩
  have key:∀{E:Value->Shared->Prop} (s2:Shared) (m2:Str->Option Value),jB s₀ s2->aJ x s2.heap O H (T.minus I)->s2.heap.Ns cenv.locals m2->s2.heap.get? D=some { cls:=.type "list",data:=.seq accV.toArray e }->fZ (.f7 a b c) rval I (j+1) s2.heap->
   (∀n c,cenv.cells.lookup n=some c->∃v,s2.heap.IsCell c v)->kB cenv m2 s2.heap nm ual->wpAny (model prog w) A (forIn ifs true λc r=>if r=true then do let ok <- isTrue c cenv (eval c cenv);pure (ForInStep.yield ok) else pure (ForInStep.yield r)) (λok s₃=>
    if ok=true then wpAny (model prog w) A (eval elt cenv) (λx_1 s₄=>wpAny (model prog w) A (call (.builtin "list.append") [.ref D,x_1]) (λ_ s₅=>∃m,m<cq a b c-j/\u0 x O T₀ s₀ D I cenv (.f7 a b c) rval (cq a b c) (CW t el ρ' (aP a b c) Qf) m s₅) E s₄) E s₃
    else ∃m,m<cq a b c-j/\u0 x O T₀ s₀ D I cenv (.f7 a b c) rval (cq a b c) (CW t el ρ' (aP a b c) Qf) m s₃) E s2:=by
   intro E s2 m2 go2 S2 ns2 ol2 st2 cs2 sl2;have hIn:H I=none:=S2.qh st2.own
   have S3:aJ (inner x s2.heap H cenv ns') s2.heap (ρ'.set 0 (some u)) H (T.minus I):=by
    refine S2.enter ns2 F.hC l0C cs2 λi v hv=>?_;by_cases hi:i=0
    ·subst hi;rw [uK hlen] at hv;cases hv;exact ⟨nm,ual,hns,sl2,hual.minus (F.S.hh own)⟩
    ·rw [qu hi] at hv;refine Kx (hcap i v hi hv) λn j' c1 _ c2 c3 c4 c5 c6=>?_;obtain ⟨m0,F0,hl0⟩:=S2.fr;refine fF (hl0 j' v c2) λn' val q1 q2 q3=>?_;rw [c3] at q1;cases q1;refine ⟨n,val,c1,?_,q3⟩;rcases q2 with ⟨p1,_⟩ | ⟨p1,cc,p2,p3⟩
     ·rcases c4 with c4 | c4<;>rw [c4] at p1<;>cases p1
     ·exact .inr ⟨c5,cc,c6 _ p2,p3⟩
   generalize hxi:inner x s2.heap H cenv ns'=xi at S3;have hin:∃h H,xi=inner x h H cenv ns':=⟨_,_,hxi.symm⟩
   have back:∀{ρ'':Lc} {H':Hp} {T':Im} {h':Heap},aJ xi h' ρ'' H' T'->(T.minus I).Le T'->aJ x h' O H' T'/\(h'.get? D=some { cls:=.type "list",data:=.seq accV.toArray e }/\H' D=none)/\fZ (.f7 a b c) rval I (j+1) h'/\H' cenv.locals=none/\(∃m,h'.Ns cenv.locals m)/\
    (∀n c,cenv.cells.lookup n=some c->∃v,h'.IsCell c v):=λS' le=>by
    subst hxi;refine ⟨S2.leave S' le lLC l0C (λn c hn=>Q7 (hcb n c hn) hIC),S'.frozen hDC F.hD ol2,st2.keep λo ho=>(S'.frozen hIC hIn ho).1,S'.g7,?_,λn c hn=>?_⟩
    ·obtain ⟨m',F',_⟩:=S'.fr;exact ⟨m',F'.ns⟩
    ·refine ao (S'.jD n c hn) λv hv _=>?_;exact ⟨v,hv⟩
   have vr1:=F.vr.minus (F.S.hh own);refine uR (ht hin S3) (λS=>hel hin S) q (λs3 H3 T3 gD S4 go3 q3=>?_) λs4 H4 T4 v y le4 S5 go4 hv q4=>?_
   ·refine uQ (back S4 gD) λb1 b2 b3 b5 b6 b7=>?_;exact done gD ⟨go3.1.trans go2.1,go3.2.trans go2.2⟩ (vr1.mono gD) F.len q3 b1 b2.1 b3 b2.2 b5 b6 b7
   ·refine uQ (back S5 le4) ?_;rintro b1 b2 b3 b5 ⟨m4,b6⟩ b7;have vr4:=vr1.mono le4;refine append_at (hsz:=by have:=g8;have:=q4.1;have:=vr1.length;rw [Q6];lia) b2.1 λh5 hs5 ho5=>?_;rw [show accV.toArray.push y=(accV++ [y]).toArray by rw [List.push_toArray]] at ho5
    exact done le4 ⟨go4.1.trans go2.1,go4.2.trans go2.2⟩ (vr4.append (.cons hv .nil)) (by rw [Qc];exact q4.1) q4.2 (b1.Ae b2.1 b2.2 (QL hL) (iA (P8 h0 (Qp hID))) hs5.extBut) ho5 (b3.keep λo ho=>hs5.extBut _ _ nID ho) b2.2 b5 ⟨m4,b6.sameBut hs5 nDC.symm⟩
     (j4 b7 hs5 (oR b2.1 λ_=>nofun))
  show wpAny _ A (assign (.Name nm px) cenv ual) _ _ _;refine wpAny_assign_Name ?_;rcases hkx with hk | ⟨hk,c0,hc0,hc0C,hc0u⟩
  ·refine wpAny_storeName_local hk ns1 (λh2 ns2 hs2=>?_) (by rw [hkf];rfl);refine key _ _ ⟨F.go.1,F.go.2⟩ (S1.wB (s:={ s with heap:=h1 }) ns1 F.hC (QL lLC) (iA l0C) hs2.extBut) ns2 (hs2.extBut _ _ nDC ol1) (st1.keep λo ho=>hs2.extBut _ _ nIC ho) (j4 cs1 hs2 λv hv=>?_) (.inl ⟨hk,by simp⟩);exact nY ns1 hv
  ·refine bJ (cs1 _ _ hc0) λv0 hv0=>?_;refine wpAny_storeName_cell hkf hk hc0 hv0 λh2 hc2 hs2=>?_;have lIc:=Q7 hIC hc0C;refine key _ m ⟨F.go.1,F.go.2⟩ (S1.CF (s:={ s with heap:=h1 }) hv0 (iA (P8 l0C (Qp hc0C))) hs2 (QX (Q7 lLC hc0C)) λn c hn=>QX (Q7 (hcb _ _ hn) lIc)) (ns1.sameBut hs2 (QX hc0C)) (hs2.extBut _ _ (QX (Q7 hDC hc0C)) ol1) (st1.keep λo ho=>hs2.extBut _ _ (QX lIc) ho) (λn c hn=>?_) (.inr ⟨.inl hk,c0,hc0,hc2⟩);by_cases hcc:c=c0
   ·subst hcc;exact ⟨_,hc2⟩
   ·refine bJ (cs1 n c hn) λv hv=>?_
    exact ⟨v,hv.sameBut hs2 hcc⟩) ((prog,w,A,s),(x,O,elt,it),(ifs,sc',pos,px),(nm,ns',cenv,ρ'),(T₀,s₀,D,I),(rval,a,b,c))
end
theorem fy (env:Env) (n:Str):∀names:List (Str×NameKind),
 (names.map λ(n,k)=>if (k == NameKind.free && env.scope.kind ==.function && env.kindOf n == some .cell) then (n,NameKind.cell) else (n,k)).lookup n =
  (names.lookup n).map λk=>if (k == NameKind.free && env.scope.kind ==.function && env.kindOf n == some .cell) then NameKind.cell else k
 | []=>rfl
 | (m,k)::r=>by
  have ih:=fy env n r;by_cases hm:(n == m)=true
  ·have:=eq_of_beq hm;subst this;by_cases hc:(k == NameKind.free && env.scope.kind ==.function && env.kindOf n == some .cell)=true
   ·rw [Q9];simp only [Qk hc,Q4,hm,Rm]
   ·rw [Q9];simp only [Qb hc,Q4,hm,Rm]
  ·have hm':(n == m)=false:=by simpa using hm
   rw [Q9];by_cases hc:(k == NameKind.free && env.scope.kind ==.function && env.kindOf m == some .cell)=true
   ·simp only [Qk hc,Q4,hm'];exact ih
   ·simp only [Qb hc,Q4,hm'];exact ih
section
variable {prog:Program} {w:World} {A:Around} {E:Value->Shared->Prop} {s:Shared} {x:Fx} {O:Lc} {H:Hp} {T:Im} {K:Frag} {base:Heap} {ca fa:Nat->Addr} {Γ:Sg} {sc:Scope} {ns:List Str}
theorem tW {elt it:PySem.Expr} {nm:Str} {px pos:Pos} {ifs:List PySem.Expr} {sc':Scope} {Q:K1} (hw:bp Γ (cE gt attrs sc ns (.ListComp elt [⟨.Name nm px,it,ifs,0⟩] sc' pos)) O H Q) :
 ju sc sc' nm it=true/\bp Γ (cE gt attrs sc ns it) O H (qs (bp Γ (tV gt attrs sc' (bA nm sc') ifs)) (bp Γ (cE gt attrs sc' (bA nm sc') elt)) (gH O (iW nm sc' ns)) Q):=by
 cases ifs with
 | nil=>
  refine ao (og hw) λ_ h h2=>?_;cases h;refine aD (gw h2) λh h3=>?_;rw [Qa,Qa] at h;exact ⟨h.1.2,h3⟩
 | cons c r=>
  refine ao (og hw) λ_ h h2=>?_;cases h;refine aD (gw h2) λh h3=>?_;rw [Qa,Qa] at h;exact ⟨h.1.2,h3⟩
theorem AY {t el:Lc->Ev} {v:V} {Q:K1} (h:qs t el O Q v H):∃a b c,v=.f7 a b c/\eE t el O (aP a b c) [] H (uF Q):=by
 delta qs fH at h
 cases v with
 | f7 a b c=>exact ⟨a,b,c,rfl,h⟩
 | _=>exact h.elim
def iT {elt it:PySem.Expr} {nm:Str} {px pos pos':Pos} {ifs:List PySem.Expr} {sc':Scope} {use:Option (Value->Sem Unit)}:Prop:=∀(R:Rn prog w K base ca fa A Γ) (N:En x sc ns) (hb:x.base=base) (hc:x.ca=ca) (S:aJ x s.heap O H T) (hchk:ju sc sc' nm it=true) (hI:PE prog w K base ca fa it) (hE:PE prog w K base ca fa elt) (hT:∀c∈ifs,PT prog w K base ca fa c) (hifs:ifs.length<=1) {Q':K1} (hw:bp Γ (cE gt attrs sc ns it) O H (qs (bp Γ (tV gt attrs sc' (bA nm sc') ifs)) (bp Γ (cE gt attrs sc' (bA nm sc') elt)) (gH O (iW nm sc' ns)) Q')) {Q:Value->Shared->Prop} (hfin:∀(D C:Addr) s' H' T' acc accV e m,D≠C->D≠x.env.locals->C≠x.env.locals->x.h₀.get? D=none->x.h₀.get? C=none->EZ x O T s D C (uF Q') s' H' T' acc accV e m->compPost (model prog w) A E use Q (.ref D) C (.ok .next) s'),wpAny (model prog w) A (comprehension (.ListComp elt [⟨.Name nm px,it,ifs,0⟩] sc' pos) sc' x.env pos' (newList []) false (eval it x.env) use) Q E s
theorem nQ {elt it:PySem.Expr} {nm:Str} {px pos pos':Pos} {ifs:List PySem.Expr} {sc':Scope} {use:Option (Value->Sem Unit)}:@iT prog w A E s x O H T K base ca fa Γ sc ns elt it nm px pos pos' ifs sc' use:=au (S:=λx:(Program×World×Around×(Value->Shared->Prop))×(Shared×Fx×Lc×Hp)×(Im×Frag×Heap×(Nat->Addr))×((Nat->Addr)×Sg×Scope×List Str)×(PySem.Expr×PySem.Expr×Str×Pos)×(Pos×Pos×List PySem.Expr×Scope)×(Option (Value->Sem Unit))=>@iT x.1.1 x.1.2.1 x.1.2.2.1 x.1.2.2.2 x.2.1.1 x.2.1.2.1 x.2.1.2.2.1 x.2.1.2.2.2 x.2.2.1.1 x.2.2.1.2.1 x.2.2.1.2.2.1 x.2.2.1.2.2.2 x.2.2.2.1.1 x.2.2.2.1.2.1 x.2.2.2.1.2.2.1 x.2.2.2.1.2.2.2 x.2.2.2.2.1.1 x.2.2.2.2.1.2.1 x.2.2.2.2.1.2.2.1 x.2.2.2.2.1.2.2.2 x.2.2.2.2.2.1.1 x.2.2.2.2.2.1.2.1 x.2.2.2.2.2.1.2.2.1 x.2.2.2.2.2.1.2.2.2 x.2.2.2.2.2.2) (x:=((default,dW,{},λ_ _=>True),({},BV,[],λ_=>none),(λ_=>none,[],default,λ_=>0),(λ_=>0,λ_ _ _ _=>True,default,[]),(default,default,default,default),(default,default,[],default),none)) (by
 refine (?_:∀prog w A E s x O H T K base ca fa Γ sc ns elt it nm px pos pos' ifs sc' use,@iT prog w A E s x O H T K base ca fa Γ sc ns elt it nm px pos pos' ifs sc' use) _ _ _ _ _ _ _ _ _ _ _ _ _ _ _ _ _ _ _ _ _ _ _ _ _;intro prog w A E s x O H T K base ca fa Γ sc ns elt it nm px pos pos' ifs sc' use R N hb hc S hchk hI hE hT hifs Q' hw Q hfin;simp only [ju,Qa] at hchk;refine aD hchk ?_;rintro ⟨⟨⟨⟨hk,hcall⟩,hnm⟩,hx⟩,hfr⟩ hdb
 have hkind:sc'.kind=.function:=by revert hk;cases sc'.kind<;>first | (intro _;rfl) | (intro h;exact absurd h (by decide))
 have hnames:∀y∈sc'.names,y.2=.local->sc'.names.lookup y.1=some .local:=λy hy hl=>by
  have:=Qj.mp hnm y hy;rw [hl] at this;simpa using this
 have hfree:∀y∈sc'.names,y.2=.free->sc'.names.lookup y.1=some .free/\(sc.names.lookup y.1=some .cell\/sc.names.lookup y.1=some .free):=λy hy hl=>by
  have:=Qj.mp hfr y hy;rw [hl] at this;simpa using this
 have hcellnm:∀y∈sc'.names,y.2=.cell->y.1=nm:=λy hy hl=>by
  simp only [Q3,Qa] at hx;rcases hx with ⟨_,h2⟩ | ⟨_,h2⟩
  ·have:=Qj.mp h2 y hy;rw [hl] at this;simp at this
  ·have:=Qj.mp h2 y hy;rw [hl] at this;simpa using this
 have hnmk:sc'.names.lookup nm=some .local\/sc'.names.lookup nm=some .cell:=by
  simp only [Q3,Qa] at hx;rcases hx with ⟨h1,_⟩ | ⟨h1,_⟩
  ·exact .inl (eq_of_beq h1)
  ·exact .inr (eq_of_beq h1)
 refine gP (mW (env:=x.env) (scope:=sc') λy hy hl=>(N.cf y.1 (hfree y hy hl).2).2) λcl hclos hcl1 hcl2=>?_
 refine wpAny_comprehension_free (gs:=[]) (g:=⟨.Name nm px,it,ifs,0⟩) rfl (λy=>by
  cases it<;>first | rfl | exact Bool.noConfusion hcall) hclos hkind hnames (wpAny_mono (hI R N hb hc S hw) (λxv s1 h1=>?_) λ_ _ y=>y)
 obtain ⟨v,H1,T1,hv,le1,S1,go1,q1⟩:=h1;refine G9 (AY q1) ?_;rintro a b c rfl q2;refine md S1 hv (vs:=aP a b c) rfl λh2 k2 st2=>?_
 have hIlt:s1.heap.objs.size<h2.objs.size:=by
  obtain ⟨o,e,_⟩:=st2.own.it;exact Heap.lt_size e
 refine wpAny_newObj_type (rH ?_) (by size_fits);dsimp only;rw [show (h2.push { cls:=.type "list",data:=.seq ([]:List Value).toArray }).objs.size=h2.objs.size+1 from Heap.size_push ..];generalize hD:h2.objs.size=D at *;generalize hI':s1.heap.objs.size=I at *;generalize hh4:pushCells ((h2.push { cls:=.type "list",data:=.seq ([]:List Value).toArray }).push { cls:=.type "dict",data:=.dict #[] }) sc'.names=h4;have k3:∀b o,h2.get? b=some o->(h2.push { cls:=.type "list",data:=.seq ([]:List Value).toArray }).get? b=some o:=λb o e=>Heap.get?_push_of_some _ e;have k4:∀b o,((h2.push { cls:=.type "list",data:=.seq ([]:List Value).toArray }).push { cls:=.type "dict",data:=.dict #[] }).get? b=some o->h4.get? b=some o:=λb o e=>hh4 ▸ pushCells_keeps _ _ b o e;have k:∀b o,s1.heap.get? b=some o->h4.get? b=some o:=λb o e=>k4 b o (Heap.get?_push_of_some _ (k3 b o (k2 b o e)))
 have e3:(h2.push { cls:=.type "list",data:=.seq ([]:List Value).toArray }).objs.size=D+1:=by rw [Heap.size_push,hD]
 have e4:((h2.push { cls:=.type "list",data:=.seq ([]:List Value).toArray }).push { cls:=.type "dict",data:=.dict #[] }).objs.size=D+1+1:=by rw [Heap.size_push,e3]
 have S4:aJ x h4 O H1 T1:=S1.grow k;have hDo:h4.get? D=some { cls:=.type "list",data:=.seq ([]:List Value).toArray }:=k4 _ _ (Heap.get?_push_of_some _ (by rw [<- hD];exact Heap.get?_push_size _ rfl))
 have hCn:h4.Ns (D+1) (λ_=>none):=by
  have:=Heap.Ns.new (h2.push { cls:=.type "list",data:=.seq ([]:List Value).toArray }) (.type "dict");rw [e3] at this;exact this.keeps k4
 have hcb:∀n c,x.env.cells.lookup n=some c->LT.lt (α:=Nat) c I:=λn c e=>by
  refine ao (S1.jD n c e) λv hv _=>?_;rw [<- hI'];exact hv.lt
 have hother:∀n,(∀y∈sc'.names,y.2=.cell->y.1≠n)->(cellsFrom (D+1+1) sc'.names cl).lookup n=cl.lookup n:=λn h=>eW _ _ _ h
 have hnew:∀n,(n,NameKind.cell)∈sc'.names->∃c,(cellsFrom (D+1+1) sc'.names cl).lookup n=some c/\D+1+1<=c/\h4.IsCell c none:=λn h=>by
  have:=fY (n:=n) (lo:=D+1+1) sc'.names ((h2.push { cls:=.type "list",data:=.seq ([]:List Value).toArray }).push { cls:=.type "dict",data:=.dict #[] }) cl (by rw [e4];exact Qn _) (.inl h);rw [e4,hh4] at this;exact this
 have hlk:∀n k,sc'.names.lookup n=some k->k≠.free->(relabel sc' x.env).names.lookup n=some k:=λn k e hne=>by
  show (sc'.names.map _).lookup n=_;rw [fy,e,Rm]
  have:(k == NameKind.free)=false:=by simpa using hne
  simp [this]
 have hlkf:∀n,sc'.names.lookup n=some .free->(relabel sc' x.env).names.lookup n=some .cell\/(relabel sc' x.env).names.lookup n=some .free:=λn e=>by
  have:(relabel sc' x.env).names.lookup n=_:=fy x.env n sc'.names;rw [this,e,Rm];split
  ·exact .inl rfl
  ·exact .inr rfl
 have hfn:∀n,sc'.names.lookup n=some .free->(cellsFrom (D+1+1) sc'.names cl).lookup n=cl.lookup n/\∃c,cl.lookup n=some c:=λn e=>by
  refine ⟨hother n λy hy hl q=>?_,hcl2 n (mem_of_lookup e)⟩;have:=hcellnm y hy hl;rw [<- q,this] at e
  rcases hnmk with h | h<;>rw [h] at e<;>cases e
 have hcs:∀n c,(cellsFrom (D+1+1) sc'.names cl).lookup n=some c->∃v,h4.IsCell c v:=λn c e=>by
  by_cases hcn:(n,NameKind.cell)∈sc'.names
  ·refine gP (hnew n hcn) λc' c1 _ c3=>?_;rw [c1] at e;cases e;exact ⟨_,c3⟩
  ·rw [hother n λy hy hl q=>hcn (by obtain ⟨y1,y2⟩:=y;cases hl;cases q;exact hy)] at e;refine ao (S1.jD n c (hcl1 n c e)) λv hv _=>?_;exact ⟨v,hv.keeps k⟩
 have loop:∀s5:Shared,s5={ s1 with heap:=h4 }->codeAny (model prog w) A (.compLoop (.ListComp elt [⟨.Name nm px,it,ifs,0⟩] sc' pos) 0 (.ref I) (.ref D)
  { newEnv sc' (D+1) x.env.globals (cellsFrom (D+1+1) sc'.names cl) x.env.qual none .none (some x.env) builtinsNs with scope:=relabel sc' x.env })
  (compPost (model prog w) A E use Q (.ref D) (D+1)) s5:=by
  rintro s5 rfl
  have N':∀h H,En (inner x h H { newEnv sc' (D+1) x.env.globals (cellsFrom (D+1+1) sc'.names cl) x.env.qual none .none (some x.env) builtinsNs with scope:=relabel sc' x.env } (bA nm sc')) sc' (bA nm sc'):=λh H=>by
   refine ⟨rfl,hkind,N.glob,N.blt,λn e=>hlk n _ e (by decide),λn e=>?_,λn hn=>?_⟩
   ·rcases e with e | e
    ·refine ao (hnew n (mem_of_lookup e)) λc c1 _=>?_;exact ⟨.inl (hlk n _ e (by decide)),c,c1⟩
    ·obtain ⟨f1,c,f2⟩:=hfn n e;exact ⟨hlkf n e,c,f1.trans f2⟩
   ·have:=Qj.mp hdb n hn;simpa using this
  refine uS (cenv:={ newEnv sc' (D+1) x.env.globals (cellsFrom (D+1+1) sc'.names cl) x.env.qual none .none (some x.env) builtinsNs with scope:=relabel sc' x.env }) (ns':=bA nm sc') (O:=O) (ρ':=gH O (iW nm sc' ns)) (T₀:=T1) (s₀:=s1) (Qf:=uF Q') (x:=x) (sc':=sc') (D:=D) (I:=I)
   (t:=bp Γ (tV gt attrs sc' (bA nm sc') ifs)) (el:=bp Γ (cE gt attrs sc' (bA nm sc') elt)) R.hh hkind (λ⟨h,H,e⟩ S q=>by subst e;exact vt hifs hT R (N' h H) hb hc S q) (λ⟨h,H,e⟩ S q=>by subst e;exact hE R (N' h H) hb hc S q)
   ?_ rfl (by simp [gH,iW]) ?_ ?_ (Qu _) (Q7 hIlt (Qu _)) hIlt hcb ?_ ?_ hv ?_ (s:={ s1 with heap:=h4 }) ⟨0,H1,T1,[],[],0,λ_=>none,rfl,QS _,⟨Im.Le.refl _,S4,⟨rfl,rfl⟩,hCn,hDo,.nil,QS _,?_,?_,q2⟩,?_,hcs⟩
  ·rcases hnmk with e | e
   ·exact .inl (hlk nm _ e (by decide))
   ·refine gP (hnew nm (mem_of_lookup e)) λc0 c1 c2 c3=>?_;refine .inr ⟨hlk nm _ e (by decide),c0,c1,P7 (Qu _) c2,λn hn=>?_⟩;by_cases hne:n=nm
    ·exact hne
    ·have hn':(cellsFrom (D+1+1) sc'.names cl).lookup n=some c0:=hn;rw [hother n λy hy hl q=>hne (by rw [<- q];exact hcellnm y hy hl)] at hn';have:=hcb n c0 (hcl1 n c0 hn');exact absurd (Q7 (P7 (QW (QW hIlt)) c2) this) (Q8 _)
  ·have:=S1.lt;rw [hI'] at this;exact Q7 this hIlt
  ·obtain ⟨m,F,_⟩:=S1.fr;have:=S1.lt;rw [hI'] at this;exact P8 F.above (Qp this)
  ·intro i v hi0 hg
   cases i with
   | zero=>exact absurd rfl hi0
   | succ i=>
    have hcap:gH O (iW nm sc' ns)=(none:Option V):: (bA nm sc').tail.map λn=>match eu n ns with | some i=>(O[i]?).join | none=>none:=by
     simp only [gH,iW,Q9,Su];congr 1
    rw [hcap] at hg;simp only [getL,List.getElem?_cons_succ,QK] at hg
    have htl:(bA nm sc')[i+1]?=(bA nm sc').tail[i]?:=by simp
    cases q:(bA nm sc').tail[i]? with
    | none=>rw [q] at hg;cases hg
    | some n=>
     rw [q] at hg;simp only [Rm,Option.join_some] at hg;split at hg
     ·rename_i j hj
      have hmem:(n,NameKind.free)∈sc'.names:=by
       have:=QJ q;simp only [bA,List.tail_cons,List.mem_filterMap] at this;refine ao this ?_;rintro ⟨n',k'⟩ m1 m2;split at m2
       ·rename_i hk';cases m2;rw [<- eq_of_beq hk'];exact m1
       ·cases m2
      have hf:=hfree _ hmem rfl;have cf:=N.cf n hf.2;obtain ⟨f1,c',f2⟩:=hfn n hf.1;refine ⟨n,j,by rw [htl,q],λe=>?_,hg,?_,cf.1,hlkf n hf.1,λc hcc=>?_⟩
      ·have:=hf.1;rw [e] at this
       rcases hnmk with h | h<;>rw [h] at this<;>cases this
      ·rw [N.JU];exact fC hj
      ·have:=hcl1 n c' f2;rw [hcc] at this;cases this;exact f1.trans f2
     ·cases hg
  ·cases q:T1 I with
   | none=>rfl
   | some o=>
    have:=Heap.lt_size (S1.fc I o q).1;rw [hI'] at this;exact absurd this (Q8 _)
  ·intro s6 H6 T6 acc accV e m F
   have hlL:LT.lt (α:=Nat) x.env.locals I:=by have:=S1.lt;rw [hI'] at this;exact this
   have n0:∀a:Nat,I<=a->x.h₀.get? a=none:=λa ha=>S1.k8 (by rw [hI'];exact ha);refine hfin D (D+1) s6 H6 T6 acc accV e m (QX (Qu _)) (QL (Q7 hlL hIlt)) (QL (Q7 (Q7 hlL hIlt) (Qu _))) (n0 _ (Qp hIlt)) (n0 _ (Qp (Q7 hIlt (Qu _)))) ?_;exact ⟨le1.trans F.le,F.S,⟨F.go.1.trans go1.1,F.go.2.trans go1.2⟩,F.ns,F.ol,F.vr,F.len,F.hD,F.hC,F.q⟩
  ·exact S1.fresh (by rw [hI'];exact Qp hIlt)
  ·exact S1.fresh (by rw [hI'];exact Qp (Q7 hIlt (Qu _)))
  ·exact st2.keep λo ho=>k4 _ _ (Heap.get?_push_of_some _ (k3 _ _ ho))
 refine codeAny_compStart_list (loop _ rfl) ?_;have st4:fZ (.f7 a b c) xv I 0 h4:=st2.keep λo ho=>k4 _ _ (Heap.get?_push_of_some _ (k3 _ _ ho))
 exact wpAny_pyIter_rangeiter (s:={ s1 with heap:=h4 }) st4 (loop _ rfl)) ((prog,w,A,E),(s,x,O,H),(T,K,base,ca),(fa,Γ,sc,ns),(elt,it,nm,px),(pos,pos',ifs,sc'),use)
theorem wJ {Q:K1} {vs:List V} {D:Addr} (h:uF Q vs H) (hD:H D=none):Q (.ref D) (H.upd D (.list vs)):=by
 exact h.q D hD
theorem rY:f5 prog w K base ca fa:=by
 intro nm xp it elt ifs sc' pos hifs hI hE hT A Γ x sc ns O H T s E Q R N hb hc S hw;refine aD (tW hw) λhchk hw=>?_;rw [eval_ListComp];refine nQ (use:=none) R N hb hc S hchk hI hE hT hifs hw λD C s' H' T' acc accV e m hDC hDL hCL h0D h0C F=>?_;refine ⟨m,F.ns,λh' hs=>?_⟩;have S':=F.S.wB (s:=s') F.ns F.hC hCL h0C hs.extBut;refine ⟨_,H'.upd D (.list acc),T',.ref _,F.le,?_,⟨F.go.1,F.go.2⟩,wJ F.q F.hD⟩;refine ⟨S'.cN,S'.fr,λb ob' e'=>?_,S'.fc,S'.jD⟩;unfold Hp.upd at e';by_cases hb':b=D
 ·subst hb';rw [Qk rfl] at e';cases e';exact ⟨⟨_,hs.extBut _ _ hDC F.ol,.list F.vr F.len⟩,hDL,h0D⟩
 ·rw [Qb hb'] at e';exact S'.own b ob' e'
end
inductive IH (T:Im):Fl->Flow->Prop
 | next:IH T .next .next
 | brk:IH T .brk .brk
 | ret {v:V} {val:Value}:VR T v val->IH T (.ret v) (.ret val)
structure mX (x:Fx) (sc:Scope) (ns:List Str):Prop where
 en:En x sc ns
 nd:ns.Nodup
 kd:∀n∈ns,x.env.kindOf n=some .local\/(x.env.kindOf n=some .cell/\(∃c,x.env.cells.lookup n=some c)/\n∈x.W)
 ap:∀n n' c,x.env.cells.lookup n=some c->x.env.cells.lookup n'=some c->n=n'
inductive eA (x:Fx) (T:Im) (s:Shared) (Q:Fl->Lc->Hp->Prop) (f:Flow) (s':Shared):Prop
 | mk (fl:Fl) (ρ':Lc) (H':Hp) (T':Im) (hf:IH T' fl f) (le:T.Le T') (S:aJ x s'.heap ρ' H' T') (go:jB s s') (q:Q fl ρ' H'):eA x T s Q f s'
section
variable (prog:Program) (w:World) (K:Frag) (base:Heap) (ca fa:Nat->Addr)
def PS (st:Stmt):Prop:=∀{A:Around} {Γ:Sg} {x:Fx} {sc:Scope} {ns:List Str} {O:Lc} {H:Hp} {T:Im} {s:Shared} {E:Value->Shared->Prop} {Q:Fl->Lc->Hp->Prop},
 Rn prog w K base ca fa A Γ->mX x sc ns->x.base=base->x.ca=ca->aJ x s.heap O H T->wpS Γ (cS gt attrs sc ns st) O H Q->wpAny (model prog w) A (exec st x.env) (eA x T s Q) E s
def ve (b:List Stmt):Prop:=∀{A:Around} {Γ:Sg} {x:Fx} {sc:Scope} {ns:List Str} {O:Lc} {H:Hp} {T:Im} {s:Shared} {E:Value->Shared->Prop} {Q:Fl->Lc->Hp->Prop},
 Rn prog w K base ca fa A Γ->mX x sc ns->x.base=base->x.ca=ca->aJ x s.heap O H T->aO Γ (cB gt attrs sc ns b) O H Q->wpAny (model prog w) A (execs b x.env) (eA x T s Q) E s
end
section
variable {prog:Program} {w:World} {A:Around} {E:Value->Shared->Prop} {s:Shared} {x:Fx} {O:Lc} {H:Hp} {T:Im} {K:Frag} {base:Heap} {ca fa:Nat->Addr} {Γ:Sg} {sc:Scope} {ns:List Str}
theorem eA.up {T':Im} {s' s'':Shared} {Q:Fl->Lc->Hp->Prop} {f:Flow} (le:T.Le T') (hs:jB s s') (h:eA x T' s' Q f s''):eA x T s Q f s'':=by
 obtain ⟨fl,ρ',H',T'',a,b,c,d,e⟩:=h;exact ⟨fl,ρ',H',T'',a,le.trans b,c,⟨d.1.trans hs.1,d.2.trans hs.2⟩,e⟩
theorem Jt {T':Im} {s₁:Shared} {m:Sem Flow} {Q:Fl->Lc->Hp->Prop} (le:T.Le T') (hs:jB s s₁) (h:wpAny (model prog w) A m (eA x T' s₁ Q) E s₁):wpAny (model prog w) A m (eA x T s Q) E s₁:=
 wpAny_mono h (λ_ _ h=>h.up le hs) λ_ _ h=>h
theorem eA.keep (S:aJ x s.heap O H T) {Q:Fl->Lc->Hp->Prop} {fl:Fl} {f:Flow} (hf:IH T fl f) (hq:Q fl O H):eA x T s Q f s:=⟨fl,O,H,T,hf,Im.Le.refl T,S,⟨rfl,rfl⟩,hq⟩
theorem nJ {O:Lc} {i j:Nat} {v u:V} (h:getL (cV O i v) j=some u):(j=i/\u=v)\/(j≠i/\getL O j=some u):=by
 unfold getL cV at h;by_cases hj:j=i
 ·subst hj;rw [RD] at h;simp only [if_true] at h;split at h
  ·simp at h;exact .inl ⟨rfl,h.symm⟩
  ·cases h
 ·rw [List.getElem?_set_ne (Ne.symm hj)] at h;exact .inr ⟨hj,h⟩
theorem jO:∀{l:List Str},l.Nodup->∀{i j:Nat} {a:Str},l[i]?=some a->l[j]?=some a->i=j
 | [],_,_,_,_,hi,_=>by simp at hi
 | b::r,h,i,j,a,hi,hj=>by
  refine aD (TZ.mp h) λh1 h2=>?_
  cases i with
  | zero=>
   cases j with
   | zero=>rfl
   | succ j=>simp at hi hj;subst hi;exact absurd (QJ hj) h1
  | succ i=>
   cases j with
   | zero=>simp at hi hj;subst hj;exact absurd (QJ hi) h1
   | succ j=>simp at hi hj;rw [jO h2 hi hj]
def jH:Prop:=∀(N:mX x sc ns) (S:aJ x s.heap O H T) {n:Str} {i:Nat} (hi:eu n ns=some i) {v:V} {val:Value} (hv:VR T v val) {Q:Unit->Shared->Prop} (hQ:∀h' tk,aJ x h' (cV O i v) H T->(∀b o,b≠x.env.locals->(∀v,¬s.heap.IsCell b v)->s.heap.get? b=some o->h'.get? b=some o)->Q () { s with heap:=h',toks:=tk }),wpAny (model prog w) A (storeName x.env n val) Q E s
theorem i9:@jH prog w A E s x O H T sc ns:=au (S:=λx:(Program×World×Around×(Value->Shared->Prop))×(Shared×Fx×Lc×Hp)×(Im×Scope×List Str)=>@jH x.1.1 x.1.2.1 x.1.2.2.1 x.1.2.2.2 x.2.1.1 x.2.1.2.1 x.2.1.2.2.1 x.2.1.2.2.2 x.2.2.1 x.2.2.2.1 x.2.2.2.2) (x:=((default,dW,{},λ_ _=>True),({},BV,[],λ_=>none),(λ_=>none,default,[]))) (by
 refine (?_:∀prog w A E s x O H T sc ns,@jH prog w A E s x O H T sc ns) _ _ _ _ _ _ _ _ _ _ _;intro prog w A E s x O H T sc ns N S n i hi v val hv Q hQ;obtain ⟨m,F,hl⟩:=S.fr;have hn:=fC hi;have hkf:=N.en.kind;have hnx:=N.en.JU;rcases N.kd n (QJ hn) with hk | ⟨hk,⟨c,hc⟩,hW⟩
 ·refine wpAny_storeName_local hk F.ns (λh' hns hs=>hQ h' _ ?_ λb o hb _ e=>hs.extBut b o hb e) (by rw [hkf];rfl);have kp:∀b o,b≠x.env.locals->s.heap.get? b=some o->h'.get? b=some o:=λb o hb e=>hs.extBut b o hb e;have nL:∀{c v},s.heap.IsCell c v->c≠x.env.locals:=λhc q=>nY F.ns (q ▸ hc);refine ⟨S.cN,⟨_,F.set hns hs,λj u e=>?_⟩,λa ob e=>?_,λa o e=>?_,λn' c hn'=>?_⟩
  ·rcases nJ e with ⟨rfl,rfl⟩ | ⟨hj,e⟩
   ·exact ⟨n,val,by rw [hnx];exact hn,.inl ⟨hk,by simp⟩,hv⟩
   ·refine fF (hl j u e) λn' val' q1 q2 q3=>?_;refine ⟨n',val',q1,?_,q3⟩;rcases q2 with ⟨q2,q4⟩ | ⟨p1,c,p2,p3⟩
    ·have hne:n'≠n:=λq=>hj (by subst q;rw [hnx] at q1;exact jO N.nd q1 hn);exact .inl ⟨q2,by show (if n'=n then some val else m n')=_;rw [Qb hne];exact q4⟩
    ·exact .inr ⟨p1,c,p2,p3.sameBut hs (nL p3)⟩
  ·refine dJ (S.own a ob e) ?_;rintro ⟨o,q1,q2⟩ q3 q4;exact ⟨⟨o,kp _ _ q3 q1,q2⟩,q3,q4⟩
  ·have:=S.fc a o e;refine ⟨kp _ _ (λq=>?_) this.1,this.2⟩;subst q;rw [S.kU S.jS F.ns] at e;cases e
  ·refine ao (S.jD n' c hn') λv a3 a4=>?_;exact ⟨v,a3.sameBut hs (nL a3),a4⟩
 ·refine ao (S.jD n c hc) λv0 hv0 h00=>?_;have c00:=h00 hW;have cn:=S.j5 hv0;have nL:x.env.locals≠c:=λq=>nY F.ns (q ▸ hv0);refine wpAny_storeName_cell hkf hk hc hv0 λh' hc' hs=>hQ h' s.toks ?_ λb o _ hv e=>hs.extBut b o (λq=>by subst q;exact hv _ hv0) e;have kp:∀b o,b≠c->s.heap.get? b=some o->h'.get? b=some o:=λb o hb e=>hs.extBut b o hb e;refine ⟨S.cN,⟨m,⟨F.ns.sameBut hs nL,λb o e=>kp b o (λq=>by subst q;rw [c00] at e;cases e) (F.keep b o e),F.above⟩,λj u e=>?_⟩,λa ob e=>?_,λa o e=>?_,λn' c' hn'=>?_⟩
  ·rcases nJ e with ⟨rfl,rfl⟩ | ⟨hj,e⟩
   ·exact ⟨n,val,by rw [hnx];exact hn,.inr ⟨.inl hk,c,hc,hc'⟩,hv⟩
   ·refine fF (hl j u e) λn' val' q1 q2 q3=>?_;refine ⟨n',val',q1,?_,q3⟩;rcases q2 with q2 | ⟨p1,c',p2,p3⟩
    ·exact .inl q2
    ·refine .inr ⟨p1,c',p2,p3.sameBut hs λq=>?_⟩;subst q;have:=N.ap _ _ _ p2 hc;subst this;exact hj (by rw [hnx] at q1;exact jO N.nd q1 hn)
  ·refine dJ (S.own a ob e) ?_;rintro ⟨o,q1,q2⟩ q3 q4;exact ⟨⟨o,kp _ _ (λq=>by subst q;rw [cn.1] at e;cases e) q1,q2⟩,q3,q4⟩
  ·exact ⟨kp _ _ (λq=>by subst q;rw [cn.2 c00] at e;cases e) (S.fc a o e).1,(S.fc a o e).2⟩
  ·by_cases hcc:c'=c
   ·subst hcc;refine ao (S.jD n' c' hn') λv a3 a4=>?_;exact ⟨_,hc',a4⟩
   ·refine ao (S.jD n' c' hn') λv a3 a4=>?_;exact ⟨v,a3.sameBut hs hcc,a4⟩) ((prog,w,A,E),(s,x,O,H),(T,sc,ns))
end
section
variable {prog:Program} {w:World} {A:Around} {E:Value->Shared->Prop} {s:Shared} {x:Fx} {O:Lc} {H:Hp} {T:Im} {K:Frag} {base:Heap} {ca fa:Nat->Addr} {Γ:Sg} {sc:Scope} {ns:List Str}
theorem yU.next {Q:Fl->Lc->Hp->Prop} {s':Shared} (h:yU x O T s (λH=>Q .next O H) s'):eA x T s Q .next s':=by
 obtain ⟨H',T'',b,c,d,e⟩:=h;exact ⟨.next,O,H',T'',.next,b,c,d,e⟩
theorem vE (N:mX x sc ns) (S:aJ x s.heap O H T) {n:Str} {i:Nat} (hi:eu n ns=some i) {v:V} {val:Value} (hv:VR T v val) {Q:Fl->Lc->Hp->Prop} (hq:Q .next (cV O i v) H) :
 wpAny (model prog w) A (storeName x.env n val) (λ_=>eA x T s Q .next) E s:=
 i9 N S hi hv λ_ _ S' _=>⟨.next,_,H,T,.next,Im.Le.refl T,S',⟨rfl,rfl⟩,hq⟩
theorem mf (N:En x sc ns):interactive x.env=false:=by
 have h:(ScopeKind.function == ScopeKind.module)=false:=by decide
 unfold interactive;rw [N.kind,h];rfl
theorem kz {st:Stmt} (h:∀sc ns,cS gt attrs sc ns st=.bad):PS prog w K base ca fa st:=by
 intro A Γ x sc ns O H T s E Q R N hb hc S hw;rw [h] at hw;exact hw.elim
theorem xH {v:V} {P:Prop} (h:jo v P):P:=by
 delta jo at h
 cases v<;>first | exact h | exact h.elim
theorem D8 {e:PySem.Expr} {pos:Pos} (he:PE prog w K base ca fa e):PS prog w K base ca fa (.Expr e pos):=by
 intro A Γ x sc ns O H T s E Q R N hb hc S hw;refine aD (vm hw) λhcall hw=>?_;exact wpAny_Expr_any (bH (he R N.en hb hc S hw) λv H' T' val s₁ le hs S' hv hq=>eA.up le hs (eA.keep S' .next (xH hq))) (mf N.en) (by cases e<;>first | rfl | exact Bool.noConfusion hcall)
theorem uU {e:PySem.Expr} {n:Str} {p pos:Pos} {i:Nat} (he:PE prog w K base ca fa e) (R:Rn prog w K base ca fa A Γ) (N:mX x sc ns) (hb:x.base=base) (hc:x.ca=ca) (S:aJ x s.heap O H T) (hi:eu n ns=some i) {Q:Fl->Lc->Hp->Prop}
 (hw:bp Γ (cE gt attrs sc ns e) O H (Az i O Q)) (hs:swapsWith e (some (.Name n p)) pos.line x.env=pure false):wpAny (model prog w) A (exec (.Assign [.Name n p] e pos) x.env) (eA x T s Q) E s:=by
 refine wpAny_Assign_Name (bH (he R N.en hb hc S hw) λv H' T' val s₁ le hs S' hv hq=>?_) hs;exact wpAny_mono (vE N S' hi hv hq) (λ_ _ h=>h.up le hs) λ_ _ h=>h
theorem yJ {elt it:PySem.Expr} {nm:Str} {px cpos:Pos} {ifs:List PySem.Expr} {sc':Scope} {n:Str} {p pos:Pos} {i:Nat} (hifs:ifs.length<=1) (hI:PE prog w K base ca fa it) (hE:PE prog w K base ca fa elt) (hT:∀c∈ifs,PT prog w K base ca fa c)
 (R:Rn prog w K base ca fa A Γ) (N:mX x sc ns) (hb:x.base=base) (hc:x.ca=ca) (S:aJ x s.heap O H T) (hi:eu n ns=some i) {Q:Fl->Lc->Hp->Prop}
 (hw:bp Γ (cE gt attrs sc ns (.ListComp elt [⟨.Name nm px,it,ifs,0⟩] sc' cpos)) O H (Az i O Q))
 (hs:swapsWith (.ListComp elt [⟨.Name nm px,it,ifs,0⟩] sc' cpos) (some (.Name n p)) pos.line x.env=pure true):wpAny (model prog w) A (exec (.Assign [.Name n p] (.ListComp elt [⟨.Name nm px,it,ifs,0⟩] sc' cpos) pos) x.env) (eA x T s Q) E s:=by
 refine aD (tW hw) λhchk hw=>?_;rw [exec_Assign_Name_used _ _ _ _ hs];refine wpAny_bind (wpAny_standAt (wpAny_bind ?_));show wpAny _ A (do let _ <- comprehension (.ListComp elt [⟨.Name nm px,it,ifs,0⟩] sc' cpos) sc' x.env _ (newList []) false (eval it x.env) (some (assign (.Name n p) x.env))) _ _ s;refine wpAny_bind (wpAny_mono (nQ (use:=some (assign (.Name n p) x.env)) (Q:=λ_ s'=>eA x T s Q .next s') R N.en hb hc S hchk hI hE hT hifs hw λD C s' H' T' acc accV e m hDC hDL hCL h0D h0C F=>?_) (λ_ s' hq=>wpAny_pure (wpAny_pure hq)) λ_ _ y=>y);show wpAny _ A (assign (.Name n p) x.env (.ref D)) _ _ _;refine wpAny_assign_Name ?_
 have S1:aJ x s'.heap O (H'.upd D (.list acc)) T':=by
  refine ⟨F.S.cN,F.S.fr,λb ob' e'=>?_,F.S.fc,F.S.jD⟩;unfold Hp.upd at e';by_cases hb':b=D
  ·subst hb';rw [Qk rfl] at e';cases e';exact ⟨⟨_,F.ol,.list F.vr F.len⟩,hDL,h0D⟩
  ·rw [Qb hb'] at e';exact F.S.own b ob' e'
 have hC1:(H'.upd D (.list acc)) C=none:=by unfold Hp.upd;rw [Qb (Ne.symm hDC)];exact F.hC
 have nc:∀v,¬s'.heap.IsCell C v:=λv c=>nY F.ns c;refine i9 N S1 hi (.ref D) λh2 tk S2 kp=>?_
 have hns2:h2.Ns C m:=by
  obtain ⟨o',es,ep,a1,a2⟩:=F.ns;exact ⟨o',es,ep,kp _ _ hCL nc a1,a2⟩
 refine ⟨m,hns2,λh' hs=>?_⟩;have S3:=S2.wB (s:={ s' with heap:=h2,toks:=tk }) hns2 hC1 hCL h0C hs.extBut;exact ⟨.next,_,_,T',.next,F.le,S3,⟨F.go.1,F.go.2⟩,wJ F.q F.hD⟩
theorem gU {e:PySem.Expr} {t:PySem.Expr} {l:Nat} {env:Env} (h:∀n p,t≠.Name n p):swapsWith e (some t) l env=pure false:=by
 cases e<;>first | rfl | (cases t<;>first | rfl | exact absurd rfl (h _ _))
theorem q8 {elt:PySem.Expr} {gens:List Comprehension} {sc':Scope} {cpos:Pos} {n:Str} {p:Pos} {l:Nat} {env:Env}:∃b,swapsWith (.ListComp elt gens sc' cpos) (some (.Name n p)) l env=pure b:=⟨_,rfl⟩
end
section
variable {prog:Program} {w:World} {A:Around} {E:Value->Shared->Prop} {s:Shared} {x:Fx} {O:Lc} {H:Hp} {T:Im} {K:Frag} {base:Heap} {ca fa:Nat->Addr} {Γ:Sg} {sc:Scope} {ns:List Str}
theorem Iu (hA:∀e,gc prog w K base ca fa e) {e:PySem.Expr} {n:Str} {p pos:Pos}:PS prog w K base ca fa (.Assign [.Name n p] e pos):=by
 intro A Γ x sc ns O H T s E Q R N hb hc S hw;refine ao (i6 hw) λi hi hw=>?_;have hw:bp Γ (cE gt attrs sc ns e) O H (Az i O Q):=hw;have key:=λh=>uU (E:=E) (p:=p) (pos:=pos) (hA _).1 R N hb hc S hi hw h
 cases e with
 | SetComp a b c d=>exact hw.elim
 | DictComp a b c d f=>exact hw.elim
 | ListComp elt gens sc' cpos=>
  refine bJ (q8 (elt:=elt) (gens:=gens) (sc':=sc') (cpos:=cpos) (n:=n) (p:=p) (l:=pos.line) (env:=x.env)) λb hbb=>?_
  cases b with
  | false=>exact key hbb
  | true=>
   refine xK (mu hw) ?_;rintro nm xp it ifs rfl hl;exact yJ hl (hA _).1 (hA _).1 (λc _=>(hA c).2) R N hb hc S hi hw hbb
 | _=>exact key rfl
theorem B5 {a:Str} {n:Nat} (h:eu a attrs=some n):n<attrs.length/\a=an n:=by
 have h:=fC h;refine ⟨(Qs.mp h).1,?_⟩;unfold an;rw [P9,h];rfl
theorem pK {b:gJ} {v u:V} {P:V->Prop} (h:kK b v u P):∃i j,v=.int i/\u=.int j/\B3 b i j λz=>P (.int z):=by
 cases h with
 | mk h=>exact ⟨_,_,rfl,rfl,h⟩
theorem EM (hA:∀e,gc prog w K base ca fa e) {e o:PySem.Expr} {a:Str} {p pos:Pos}:PS prog w K base ca fa (.Assign [.Attribute o a p] e pos):=by
 intro A Γ x sc ns O H T s E Q R N hb hc S hw;refine ao (i6 hw) λn hn hw2=>?_;clear hw;refine aD (B5 hn) ?_;rintro hlt rfl;refine plainObj_wpAny_Assign_Attribute (bH ((hA e).1 R N.en hb hc S (Q:=BI (bp Γ (cE gt attrs sc ns o) O) n O Q) hw2) λv H1 T1 val s1 le1 go1 S1 hv q1=>?_) (gU λ_ _=>nofun);refine bH ((hA o).1 R N.en hb hc S1 q1) λv2 H2 T2 val2 s2 le2 go2 S2 hv2 q2=>?_;exact wpAny_mono (lL (hb ▸ R.tC) (hc ▸ R.cls) S2 hv2 (hv.mono le2) hlt q2) (λ_ _ h=>eA.up (le1.trans le2) ⟨go2.1.trans go1.1,go2.2.trans go1.2⟩ h.next) λ_ _ h=>h
theorem EL (hA:∀e,gc prog w K base ca fa e) {e o i:PySem.Expr} {p pos:Pos}:PS prog w K base ca fa (.Assign [.Subscript o i p] e pos):=by
 intro A Γ x sc ns O H T s E Q R N hb hc S hw;refine wpAny_Assign_Subscript (bH ((hA e).1 R N.en hb hc S (Q:=BH (bp Γ (cE gt attrs sc ns o) O) (bp Γ (cE gt attrs sc ns i) O) O Q) hw) λv H1 T1 val s1 le1 go1 S1 hv q1=>?_) (gU λ_ _=>nofun);refine bH ((hA o).1 R N.en hb hc S1 q1) λv2 H2 T2 val2 s2 le2 go2 S2 hv2 q2=>?_;refine bH ((hA i).1 R N.en hb hc S2 q2) λv3 H3 T3 val3 s3 gD go3 S3 hv3 q3=>?_;exact wpAny_mono (lK S3 (hv2.mono gD) hv3 ((hv.mono le2).mono gD) q3) (λ_ _ h=>eA.up (le1.trans (le2.trans gD)) ⟨go3.1.trans (go2.1.trans go1.1),go3.2.trans (go2.2.trans go1.2)⟩ h.next) λ_ _ h=>h
theorem EG {i:Nat} {b:gJ} {e:Internal.E} {Q:KS} (h:wpS Γ (.aug i b e) O H Q):∃v,getL O i=some v/\bp Γ e O H (DS i b v O Q):=by
 revert h;show (match getL O i with | some v=>bp Γ e O H (DS i b v O Q) | none=>False)->_
 cases getL O i with
 | none=>exact False.elim
 | some v=>exact λh=>⟨v,rfl,h⟩
theorem Io (hA:∀e,gc prog w K base ca fa e) {e:PySem.Expr} {n:Str} {op:Operator} {p pos:Pos}:PS prog w K base ca fa (.AugAssign (.Name n p) op e pos):=by
 intro A Γ x sc ns O H T s E Q R N hb hc S hw;refine ao (i6 hw) λi hi hw=>?_;refine ao (i6 hw) λo ho hw=>?_;refine ao (EG hw) λv hv hw2=>?_;refine wpAny_AugAssign_Name (ko N.en S hi hv λval hval=>?_);refine bH ((hA e).1 R N.en hb hc S hw2) λv2 H2 T2 val2 s2 le2 go2 S2 hv2 q2=>?_;refine fF (pK q2) ?_;rintro _ _ rfl rfl r;refine hval.ei λ_=>hv2.ei λ_=>?_;refine o8 ho r λz hz=>?_;exact wpAny_mono (vE (s:={ s2 with toks:=s2.toks+1 }) N S2 hi (.int z _) hz) (λ_ _ h=>eA.up (s':={ s2 with toks:=s2.toks+1 }) le2 ⟨go2.1,go2.2⟩ h) λ_ _ h=>h
theorem EI (hA:∀e,gc prog w K base ca fa e) {e o:PySem.Expr} {a:Str} {op:Operator} {p pos:Pos}:PS prog w K base ca fa (.AugAssign (.Attribute o a p) op e pos):=by
 intro A Γ x sc ns O H T s E Q R N hb hc S hw;refine ao (i6 hw) λn hn hw2=>?_;clear hw;refine ao (i6 hw2) λb ho hw=>?_;clear hw2;have hw:bp Γ (cE gt attrs sc ns o) O H (BK (bp Γ (cE gt attrs sc ns e) O) n b O Q):=hw;refine aD (B5 hn) ?_;rintro hlt rfl;refine wpAny_AugAssign_AttributeAny (bH ((hA o).1 R N.en hb hc S hw) λv H1 T1 val s1 le1 go1 S1 hv q1=>?_);refine bH (ua (hb ▸ R.tC) (hc ▸ R.cls) S1 hv hlt q1) λv2 H2 T2 val2 s2 le2 go2 S2 hv2 q2=>?_;refine bH ((hA e).1 R N.en hb hc S2 q2) λv3 H3 T3 val3 s3 gD go3 S3 hv3 q3=>?_;refine fF (pK q3) ?_;rintro _ _ rfl rfl r;refine hv2.ei λ_=>hv3.ei λ_=>?_;refine o8 ho r λz hz=>?_;exact wpAny_mono (lL (s:={ s3 with toks:=s3.toks+1 }) (hb ▸ R.tC) (hc ▸ R.cls) S3 ((hv.mono le2).mono gD) (.int z s3.toks) hlt hz) (λ_ _ h=>eA.up (s':={ s3 with toks:=s3.toks+1 }) (le1.trans (le2.trans gD)) ⟨go3.1.trans (go2.1.trans go1.1),go3.2.trans (go2.2.trans go1.2)⟩ h.next) λ_ _ h=>h
theorem mC {i:PySem.Expr} (h:hU i=false) (ov iv new:Value):augStore i ov iv new=(do holding [new,ov,iv] (setItem ov iv new);release [new,ov,iv] [];pure .next):=by
 cases i<;>first | rfl | cases h
theorem EH (hA:∀e,gc prog w K base ca fa e) {e o i:PySem.Expr} {op:Operator} {p pos:Pos}:PS prog w K base ca fa (.AugAssign (.Subscript o i p) op e pos):=by
 intro A Γ x sc ns O H T s E Q R N hb hc S hw;refine aD (vm hw) λhsl hw=>?_;refine ao (i6 hw) λb ho hw=>?_;have hsl:hU i=false:=QI _ ▸ hsl;refine wpAny_AugAssign_SubscriptAny (bH ((hA o).1 R N.en hb hc S (Q:=BJ (bp Γ (cE gt attrs sc ns i) O) (bp Γ (cE gt attrs sc ns e) O) b O Q) hw) λv H1 T1 val s1 le1 go1 S1 hv q1=>?_) (mC hsl);refine bH ((hA i).1 R N.en hb hc S1 q1) λv2 H2 T2 val2 s2 le2 go2 S2 hv2 q2=>?_;refine bH (mh S2 (hv.mono le2) hv2 q2) λv3 H3 T3 val3 s3 gD go3 S3 hv3 q3=>?_;refine bH ((hA e).1 R N.en hb hc S3 q3) λv4 H4 T4 val4 s4 le4 go4 S4 hv4 q4=>?_;refine fF (pK q4) ?_;rintro _ _ rfl rfl r;refine hv3.ei λ_=>hv4.ei λ_=>?_;refine o8 ho r λz hz=>?_
 exact wpAny_mono (lK (s:={ s4 with toks:=s4.toks+1 }) S4 ((hv.mono le2).mono (gD.trans le4)) (hv2.mono (gD.trans le4)) (.int z s4.toks) hz)
  (λ_ _ h=>eA.up (s':={ s4 with toks:=s4.toks+1 }) (le1.trans (le2.trans (gD.trans le4))) ⟨go4.1.trans (go3.1.trans (go2.1.trans go1.1)),go4.2.trans (go3.2.trans (go2.2.trans go1.2))⟩ h.next) λ_ _ h=>h
theorem Km (hA:∀e,gc prog w K base ca fa e) {t:PySem.Expr} {a b:List Stmt} {pos:Pos} (ha:ve prog w K base ca fa a) (hb':ve prog w K base ca fa b):PS prog w K base ca fa (.If t a b pos):=by
 intro A Γ x sc ns O H T s E Q R N hb hc S hw
 have e:Ay (aO Γ (cB gt attrs sc ns a) O) (aO Γ (cB gt attrs sc ns b) O) Q=Tr λc H=>match c with | true=>aO Γ (cB gt attrs sc ns a) O H Q | false=>aO Γ (cB gt attrs sc ns b) O H Q:=by
  funext v H;delta Ay cF Tr;dsimp only
  cases truthy v with
  | none=>rfl
  | some c=>cases c<;>rfl
 have hw:bp Γ (cE gt attrs sc ns t) O H (Ay (aO Γ (cB gt attrs sc ns a) O) (aO Γ (cB gt attrs sc ns b) O) Q):=hw;rw [e] at hw;refine wpAny_If (wpAny_mono ((hA t).2 R N.en hb hc S hw) (λc s1 ⟨H1,T1,le1,S1,go1,q1⟩=>?_) λ_ _ h=>h)
 cases c with
 | true=>exact Jt le1 go1 (ha R N hb hc S1 q1)
 | false=>exact Jt le1 go1 (hb' R N hb hc S1 q1)
theorem FJ (hA:∀e,gc prog w K base ca fa e) {e:PySem.Expr} {pos:Pos}:PS prog w K base ca fa (.Return (some e) pos):=by
 intro A Γ x sc ns O H T s E Q R N hb hc S hw;have hw:bp Γ (cE gt attrs sc ns e) O H (Gz O Q):=hw;exact wpAny_Return_some (bH ((hA e).1 R N.en hb hc S hw) λv H1 T1 val s1 le1 go1 S1 hv q1=>eA.up le1 go1 (eA.keep S1 (.ret hv) q1))
theorem CE {pos:Pos}:PS prog w K base ca fa (.Return none pos):=by
 intro A Γ x sc ns O H T s E Q R N hb hc S hw;exact wpAny_Return_none (eA.keep S (.ret .none) hw)
theorem H8 {pos:Pos}:PS prog w K base ca fa (.Break pos):=by
 intro A Γ x sc ns O H T s E Q R N hb hc S hw;exact PySem.wpAny_Break (eA.keep S .brk hw)
theorem zP {e c:Option PySem.Expr} {pos:Pos}:PS prog w K base ca fa (.Raise e c pos):=by
 intro A Γ x sc ns O H T s E Q R N hb hc S hw;exact hw.elim
theorem Ga:ve prog w K base ca fa []:=by
 intro A Γ x sc ns O H T s E Q R N hb hc S hw;exact wpAny_execs_nil (eA.keep S .next hw)
theorem Eb {st:Stmt} {r:List Stmt} (h1:PS prog w K base ca fa st) (h2:ve prog w K base ca fa r):ve prog w K base ca fa (st::r):=by
 intro A Γ x sc ns O H T s E Q R N hb hc S hw;refine wpAny_execs_cons (wpAny_mono (h1 R N hb hc S (Q:=Gy (aO Γ (cB gt attrs sc ns r)) Q) hw) (λf s1 ⟨fl,ρ1,H1,T1,hf,le1,S1,go1,q1⟩=>?_) λ_ _ h=>h)
 cases hf with
 | next=>exact Jt le1 go1 (h2 R N hb hc S1 q1)
 | brk=>exact ⟨.brk,ρ1,H1,T1,.brk,le1,S1,go1,q1⟩
 | ret hv=>exact ⟨.ret _,ρ1,H1,T1,.ret hv,le1,S1,go1,q1⟩
theorem zi (hA:∀e,gc prog w K base ca fa e) {t:PySem.Expr} {b:List Stmt} {pos:Pos} (hB:ve prog w K base ca fa b):PS prog w K base ca fa (.While t b [] pos):=by
 intro A Γ x sc ns O H T s E Q R N hb hc S hw;obtain ⟨n,hw⟩:∃n,dM (bp Γ (cE gt attrs sc ns t)) (aO Γ (cB gt attrs sc ns b)) n O H Q:=hw
 obtain ⟨I,hI,hO⟩:∃I:Nat->Shared->Prop,(∀{k s' ρ' H' T'},T.Le T'->aJ x s'.heap ρ' H' T'->jB s s'->dM (bp Γ (cE gt attrs sc ns t)) (aO Γ (cB gt attrs sc ns b)) k ρ' H' Q->I k s')/\
  ∀{k s'},I k s'->∃ρ' H' T',T.Le T'/\aJ x s'.heap ρ' H' T'/\jB s s'/\dM (bp Γ (cE gt attrs sc ns t)) (aO Γ (cB gt attrs sc ns b)) k ρ' H' Q:=
  ⟨λk s'=>∃ρ' H' T',T.Le T'/\aJ x s'.heap ρ' H' T'/\jB s s'/\dM (bp Γ (cE gt attrs sc ns t)) (aO Γ (cB gt attrs sc ns b)) k ρ' H' Q,λa b c d=>⟨_,_,_,a,b,c,d⟩,id⟩
 refine PySem.wpAny_While (codeAny_whileLoop I (λk s1 h=>?_) n (hI (Im.Le.refl T) S ⟨rfl,rfl⟩ hw));refine Kv (hO h) λρ1 H1 T1 le1 S1 go1 q1=>?_
 cases k with
 | zero=>exact q1.elim
 | succ k=>
  have q1:bp Γ (cE gt attrs sc ns t) ρ1 H1 (I4 (aO Γ (cB gt attrs sc ns b) ρ1) (dM (bp Γ (cE gt attrs sc ns t)) (aO Γ (cB gt attrs sc ns b)) k) ρ1 Q):=q1
  have e:I4 (aO Γ (cB gt attrs sc ns b) ρ1) (dM (bp Γ (cE gt attrs sc ns t)) (aO Γ (cB gt attrs sc ns b)) k) ρ1 Q=Tr λc H=>match c with | true=>aO Γ (cB gt attrs sc ns b) ρ1 H (xd (dM (bp Γ (cE gt attrs sc ns t)) (aO Γ (cB gt attrs sc ns b)) k) Q) | false=>Q .next ρ1 H:=by
   funext v H;delta I4 Tr;dsimp only
   cases truthy v with
   | none=>rfl
   | some c=>cases c<;>rfl
  rw [e] at q1;refine wpAny_mono ((hA t).2 R N.en hb hc S1 q1) (λc s2 ⟨H2,T2,le2,S2,go2,q2⟩=>?_) λ_ _ h=>h;have go2':jB s s2:=⟨go2.1.trans go1.1,go2.2.trans go1.2⟩
  cases c with
  | false=>exact wpAny_execs_nil ⟨.next,ρ1,H2,T2,.next,le1.trans le2,S2,go2',q2⟩
  | true=>
   refine wpAny_mono (hB R N hb hc S2 q2) (λf s3 ⟨fl,ρ3,H3,T3,hf,gD,S3,go3,q3⟩=>?_) λ_ _ h=>h;have go3':jB s s3:=⟨go3.1.trans go2'.1,go3.2.trans go2'.2⟩;have le3':=(le1.trans le2).trans gD
   cases hf with
   | next=>exact ⟨k,Qu _,hI le3' S3 go3' q3⟩
   | brk=>exact ⟨.next,ρ3,H3,T3,.next,le3',S3,go3',q3⟩
   | ret hv=>exact ⟨.ret _,ρ3,H3,T3,.ret hv,le3',S3,go3',q3⟩
end
section
variable {prog:Program} {w:World} {A:Around} {E:Value->Shared->Prop} {s:Shared} {x:Fx} {O:Lc} {H:Hp} {T:Im} {K:Frag} {base:Heap} {ca fa:Nat->Addr} {Γ:Sg} {sc:Scope} {ns:List Str}
theorem ng {t:PySem.Expr} {r:List PySem.Expr} {is:List Nat} (h:nV ns (t::r)=some is):∃n p i js,t=.Name n p/\eu n ns=some i/\nV ns r=some js/\is=i::js:=by
 refine ao (Qz.mp (show (mi t).bind _=some is from h)) λn h1 h2=>?_;refine ao (Qz.mp h2) λi h3 h4=>?_;refine ao (QE.mp h4) λjs h5 h6=>?_;refine bJ (qv h1) ?_;rintro p rfl;exact ⟨n,p,i,js,rfl,h3,h5,h6.symm⟩
theorem lx {env:Env}:∀{ts:List PySem.Expr} {is:List Nat},nV ns ts=some is->(assignEach ts env).length=is.length/\(assignEach ts env).findIdx? (·.1)=none
 | [],is,h=>by cases h;exact ⟨rfl,rfl⟩
 | t::r,is,h=>by
  refine G8 (ng h) ?_;rintro n p i js rfl _ h2 rfl;have:=lx (env:=env) h2;refine ⟨congrArg (·+1) this.1,?_⟩;show ((false,assign (.Name n p) env)::assignEach r env).findIdx? (·.1)=none;rw [List.findIdx?_cons,this.2];rfl
theorem nA:∀{is:List Nat} {vs:List V} {O ρ':Lc},kj O is vs=some ρ'->is.length=vs.length
 | [],[],_,_,_=>rfl
 | _::is,_::vs,_,_,h=>congrArg (·+1) (nA (is:=is) (vs:=vs) h)
 | [],_::_,_,_,h=>nomatch h
 | _::_,[],_,_,h=>nomatch h
theorem zq (N:mX x sc ns):∀{ts:List PySem.Expr} {is:List Nat} {vs:List V} {vals:List Value} {O ρ':Lc} {s:Shared} {Q:Unit->Shared->Prop},nV ns ts=some is->cG T vs vals->kj O is vs=some ρ'->aJ x s.heap O H T->
 (∀h' tk,aJ x h' ρ' H T->Q () { s with heap:=h',toks:=tk })->wpAny (model prog w) A (assignInOrder ((assignEach ts x.env).map (·.2)) vals) Q E s:=by
 intro ts
 induction ts with
 | nil=>
  intro is vs vals O ρ' s Q h hv hs S hq;cases h
  cases hv with
  | nil=>cases hs;exact assignInOrder_nil (hq s.heap s.toks S)
  | cons _ _=>cases hs
 | cons t r ih=>
  intro is vs vals O ρ' s Q h hv hs S hq;refine G8 (ng h) ?_;rintro n p i js rfl h1 h2 rfl
  cases hv with
  | nil=>cases hs
  | cons a b=>exact assignInOrder_cons (wpAny_assign_Name (i9 N S h1 a λh' tk S' _=>ih (s:={ s with heap:=h',toks:=tk }) h2 b hs S' λh'' tk' S''=>hq h'' tk' S''))
theorem zo {is:List Nat} {v:V} {P:Lc->Prop} (h:tupK O is v P):∃vs ρ',v=.tup vs/\kj O is vs=some ρ'/\P ρ':=by
 delta tupK at h
 cases v with
 | tup vs=>
  refine ⟨vs,?_⟩;revert h;show (match kj O is vs with | some O=>P O | none=>False)->_
  cases kj O is vs with
  | none=>exact False.elim
  | some ρ'=>exact λh=>⟨ρ',rfl,rfl,h⟩
 | _=>exact h.elim
theorem EK (hA:∀e,gc prog w K base ca fa e) {e:PySem.Expr} {ts:List PySem.Expr} {k} {p pos:Pos}:PS prog w K base ca fa (.Assign [.Tuple ts k p] e pos):=by
 intro A Γ x sc ns O H T s E Q R N hb hc S hw;refine aD (vm hw) λht hw=>?_;refine ao (i6 hw) λis GP hw=>?_;refine Assign_Tuple (bH ((hA e).1 R N.en hb hc S (Q:=BL is O Q) hw) λv H1 T1 val s1 le1 go1 S1 hv q1=>?_) (show swapsWith e (some (.Tuple ts k p)) pos.line x.env=pure false from gU (by intro n p q;cases q)) (by cases e<;>first | rfl | exact Bool.noConfusion ht);refine fF (zo q1) ?_;rintro vs ρ' rfl hρ q;refine hv.et λ_ _ t1 l1 t2=>?_
 ·have sh:=lx (env:=x.env) GP;have hl:=nA hρ;have hl2:=t2.length;refine assign_Tuple_tuple R.hh ⟨_,(S1.fc _ _ t1).1,rfl,_,rfl⟩ (by rw [sh.1,Q6];lia) sh.2 λh' hx=>?_;refine zq N (s:={ s1 with heap:=h' }) GP t2 hρ (S1.grow λb o e=>hx b o (λq=>?_) e) λh'' tk S''=>⟨.next,ρ',H1,T1,.next,le1,S'',⟨go1.1,go1.2⟩,q⟩;subst q;exact absurd (Heap.lt_size e) (Q8 _)
def jW {nm:Str} {px:Pos} {b:List Stmt} {i:Nat}:Prop:=∀(hB:ve prog w K base ca fa b) (R:Rn prog w K base ca fa A Γ) (N:mX x sc ns) (hb:x.base=base) (hc:x.ca=ca) (hi:eu nm ns=some i) {I:Addr} {v:V} {val:Value} {vs:List V} {chk:Hp->Prop} (hsrc:∀H,chk H->ed H v=some vs) {T₀:Im} {s₀:Shared} {Q:KS} (hv:VR T₀ v val) (hT:T₀ I=none) (h0:x.h₀.get? I=none) (go:jB s₀ s) (le:T₀.Le T) (S:aJ x s.heap O H T) (st:fZ v val I 0 s.heap) (hw:fo (aO Γ (cB gt attrs sc ns b)) i chk vs O H Q),codeAny (model prog w) A (.forLoop (.Name nm px) (.ref I) b [] x.env) (λr s'=>match r with | .ok f=>eA x T₀ s₀ Q f s' | .error e=>cameBackBy (model prog w) A x.env E e s') s
theorem xC {nm:Str} {px:Pos} {b:List Stmt} {i:Nat}:@jW prog w A E s x O H T K base ca fa Γ sc ns nm px b i:=au (S:=λx:(Program×World×Around×(Value->Shared->Prop))×(Shared×Fx×Lc×Hp)×(Im×Frag×Heap×(Nat->Addr))×((Nat->Addr)×Sg×Scope×List Str)×(Str×Pos×List Stmt×Nat)=>@jW x.1.1 x.1.2.1 x.1.2.2.1 x.1.2.2.2 x.2.1.1 x.2.1.2.1 x.2.1.2.2.1 x.2.1.2.2.2 x.2.2.1.1 x.2.2.1.2.1 x.2.2.1.2.2.1 x.2.2.1.2.2.2 x.2.2.2.1.1 x.2.2.2.1.2.1 x.2.2.2.1.2.2.1 x.2.2.2.1.2.2.2 x.2.2.2.2.1 x.2.2.2.2.2.1 x.2.2.2.2.2.2.1 x.2.2.2.2.2.2.2) (x:=((default,dW,{},λ_ _=>True),({},BV,[],λ_=>none),(λ_=>none,[],default,λ_=>0),(λ_=>0,λ_ _ _ _=>True,default,[]),(default,default,[],0))) (by
 refine (?_:∀prog w A E s x O H T K base ca fa Γ sc ns nm px b i,@jW prog w A E s x O H T K base ca fa Γ sc ns nm px b i) _ _ _ _ _ _ _ _ _ _ _ _ _ _ _ _ _ _ _ _;intro prog w A E s x O H T K base ca fa Γ sc ns nm px b i hB R N hb hc hi I v val vs chk hsrc T₀ s₀ Q hv hT h0 go le S st hw
 obtain ⟨J,hI,hO⟩:∃J:Nat->Shared->Prop,(∀{j ρ' H' T' s'},j<=vs.length->jB s₀ s'->T₀.Le T'->aJ x s'.heap ρ' H' T'->fZ v val I j s'.heap->fo (aO Γ (cB gt attrs sc ns b)) i chk (vs.drop j) ρ' H' Q->J (vs.length-j) s')/\
  ∀{k s'},J k s'->∃j ρ' H' T',k=vs.length-j/\j<=vs.length/\jB s₀ s'/\T₀.Le T'/\aJ x s'.heap ρ' H' T'/\fZ v val I j s'.heap/\fo (aO Γ (cB gt attrs sc ns b)) i chk (vs.drop j) ρ' H' Q:=
  ⟨_,λa b c d e f=>⟨_,_,_,_,rfl,a,b,c,d,e,f⟩,id⟩
 refine codeAny_forLoop J (λk s1 h=>?_) _ (hI (QS _) go le S st hw);clear go le S st hw;obtain ⟨j,ρ1,H1,T1,rfl,hj,go1,le1,S1,st1,q1⟩:=hO h;clear hO h;have own:=st1.own;have hv1:=hv.mono le1;have hle:T₀.Le (T1.minus I):=Im.lW le1 hT
 cases hu:vs[j]? with
 | none=>
  rw [Te (List.getElem?_eq_none_iff.mp hu)] at q1;exact qt R.hh S1 hv1 (hsrc _ q1.1) st1 hu λh' hx=>wpAny_execs_nil ⟨.next,ρ1,H1,_,.next,hle,S1.oO own h0 hx,⟨go1.1,go1.2⟩,q1.2⟩
 | some u=>
  refine bJ (Qs.mp hu) λhlt hu'=>?_;rw [Sk hlt,hu'] at q1;refine nH S1 hv1 (hsrc _ q1.1) st1 hu λh2 tk ual hual hs2 st2=>?_;have S2:aJ x h2 ρ1 H1 (T1.minus I):=S1.oO own h0 hs2.extBut;obtain ⟨o2,ho2,hcl2,xs2,hd2⟩:=st2.own.it;refine aD (S2.mark (Im.lV _ _) ho2 (.inr ⟨xs2,hd2⟩)) λgD S3=>?_;have hual2:=(hual.minus (S1.hh own)).mono gD;show wpAny _ A (assign (.Name nm px) x.env ual) _ _ _;refine wpAny_assign_Name (i9 N (s:={ s1 with heap:=h2,toks:=tk }) S3 hi hual2 λh4 tk4 S4 _=>?_);refine wpAny_mono (hB R N hb hc (s:={ s1 with heap:=h4,toks:=tk4 }) S4 q1.2) (λf s5 ⟨fl,ρ5,H5,T5,hf,le5,S5,go5,q5⟩=>?_) λ_ _ h=>h;have go5':jB s₀ s5:=⟨go5.1.trans go1.1,go5.2.trans go1.2⟩;have le5':=(hle.trans gD).trans le5
  cases hf with
  | next=>exact ⟨vs.length- (j+1),Ud hlt (Qu j),hI hlt go5' le5' S5 (st2.keep λo ho=>by
   rw [ho2] at ho;cases ho
   exact (S5.fc I o2 (le5 _ _ (by simp [Im.upd]))).1) q5⟩
  | brk=>exact ⟨.next,ρ5,H5,T5,.next,le5',S5,go5',q5⟩
  | ret hv=>exact ⟨.ret _,ρ5,H5,T5,.ret hv,le5',S5,go5',q5⟩) ((prog,w,A,E),(s,x,O,H),(T,K,base,ca),(fa,Γ,sc,ns),(nm,px,b,i))
theorem AO {B:Lc->Bk} {i:Nat} {v:V} {Q:KS} (h:fj B i v O H Q):∃chk vs,(∀H,chk H->ed H v=some vs)/\chk H/\fo B i chk vs O H Q:=by
 delta fj at h
 cases v with
 | ref a=>
  revert h;show (match H a with | some (.list vs)=>fo B i (BE a vs) vs O H Q | _=>False)->_
  cases e:H a with
  | none=>exact False.elim
  | some o=>
   cases o with
   | list vs=>exact λh=>⟨_,vs,λH (h:H a=_)=>by delta ed;dsimp only;rw [h],e,h⟩
   | _=>exact False.elim
 | tup vs=>exact ⟨_,vs,λ_ _=>rfl,trivial,h⟩
 | f7 a b c=>exact ⟨_,_,λ_ _=>rfl,trivial,h⟩
 | _=>exact h.elim
theorem G0 (hA:∀e,gc prog w K base ca fa e) {nm:Str} {px pos:Pos} {it:PySem.Expr} {b:List Stmt} (hB:ve prog w K base ca fa b):PS prog w K base ca fa (.For (.Name nm px) it b [] pos):=by
 intro A Γ x sc ns O H T s E Q R N hb hc S hw;refine ao (i6 (o:=eu nm ns) hw) λi hi hw3=>?_;have hw4:bp Γ (cE gt attrs sc ns it) O H (kFor (aO Γ (cB gt attrs sc ns b)) i O Q):=hw3;clear hw hw3;refine wpAny_For (bH ((hA it).1 R N.en hb hc S hw4) λv H1 T1 val s1 le1 go1 S1 hv q1=>?_) (λy=>by clear hA hc S;cases it<;>first | rfl | exact hw4.elim);clear hw4;refine fF (AO q1) λchk vs hsrc hck hq=>?_
 have hT:T1 s1.heap.objs.size=none:=by
  cases q:T1 s1.heap.objs.size with
  | none=>rfl
  | some o=>exact absurd (Heap.lt_size (S1.fc _ o q).1) (Q8 _)
 refine md S1 hv (hsrc _ hck) λh2 k2 st2=>?_;refine codeAny_mono (xC (s:={ s1 with heap:=h2 }) (E:=E) hB R N hb hc hi hsrc hv hT (S1.k8 (Qn s1.heap.objs.size)) ⟨rfl,rfl⟩ (Im.Le.refl T1) (S1.grow k2) st2 hq) λr s' h=>?_
 cases r with
 | ok f=>exact eA.up (s':={ s1 with heap:=h2 }) le1 ⟨go1.1,go1.2⟩ h
 | error e=>exact h
end
section
variable {prog:Program} {w:World} {K:Frag} {base:Heap} {ca fa:Nat->Addr}
theorem sH (hA:∀e,gc prog w K base ca fa e) {ts:List PySem.Expr} {e:PySem.Expr} {pos:Pos}:PS prog w K base ca fa (.Assign ts e pos):=by
 cases ts with
 | nil=>exact kz λ_ _=>rfl
 | cons t r=>
  cases r with
  | cons _ _=>exact kz λ_ _=>rfl
  | nil=>
   cases t with
   | Name n p=>exact Iu hA
   | Attribute o a p=>exact EM hA
   | Subscript o i p=>exact EL hA
   | Tuple ts k p=>exact EK hA
   | _=>exact kz λ_ _=>rfl
theorem Bc (hA:∀e,gc prog w K base ca fa e) {t:PySem.Expr} {op:Operator} {e:PySem.Expr} {pos:Pos}:PS prog w K base ca fa (.AugAssign t op e pos):=by
 cases t with
 | Name n p=>exact Io hA
 | Attribute o a p=>exact EI hA
 | Subscript o i p=>exact EH hA
 | _=>exact kz λ_ _=>rfl
theorem AM (hA:∀e,gc prog w K base ca fa e) {t it:PySem.Expr} {b o:List Stmt} {pos:Pos} (hB:ve prog w K base ca fa b):PS prog w K base ca fa (.For t it b o pos):=by
 cases o with
 | cons _ _=>exact kz λ_ _=>rfl
 | nil=>
  cases t with
  | Name n p=>exact G0 hA hB
  | _=>exact kz λ_ _=>rfl
theorem uf (hA:∀e,gc prog w K base ca fa e) {t:PySem.Expr} {b o:List Stmt} {pos:Pos} (hB:ve prog w K base ca fa b):PS prog w K base ca fa (.While t b o pos):=by
 cases o with
 | nil=>exact zi hA hB
 | cons _ _=>exact kz λ_ _=>rfl
mutual
theorem Fw (hA:∀e,gc prog w K base ca fa e):∀st:Stmt,PS prog w K base ca fa st
 | .Expr e pos=>D8 (hA e).1
 | .Assign ts e pos=>sH hA
 | .AugAssign t op e pos=>Bc hA
 | .If t a b pos=>Km hA (ny hA a) (ny hA b)
 | .While t b o pos=>uf hA (ny hA b)
 | .For t it b o pos=>AM hA (ny hA b)
 | .Return (some e) pos=>FJ hA
 | .Return none pos=>CE
 | .Break pos=>H8
 | .Raise e c pos=>zP
 | .FunctionDef .. | .AsyncFunctionDef .. | .ClassDef .. | .Delete .. | .TypeAlias .. | .AnnAssign .. | .AsyncFor .. | .With .. | .AsyncWith .. | .Match .. | .Try .. | .TryStar .. | .Assert .. | .Import .. | .ImportFrom .. | .Global .. | .Nonlocal .. | .Pass .. | .Continue .. =>
  kz λ_ _=>rfl
theorem ny (hA:∀e,gc prog w K base ca fa e):∀b:List Stmt,ve prog w K base ca fa b
 | []=>Ga
 | s::r=>Eb (Fw hA s) (ny hA r)
end
theorem sound (hsort:cm):∀b:List Stmt,ve prog w K base ca fa b:=ny (bW hsort rY)
end
theorem lg:∀{ns:List Str} {vs:List Value},ns.Nodup->∀{i:Nat} {n:Str} {v:Value},ns[i]?=some n->vs[i]?=some v->(ns.zip vs).lookup n=some v
 | [],_,_,_,_,_,h,_=>by simp at h
 | _::_,[],_,_,_,_,_,h=>by simp at h
 | m::ns,u::vs,hd,i,n,v,h1,h2=>by
  refine aD (TZ.mp hd) λd1 d2=>?_;rw [Uk,Q4]
  cases i with
  | zero=>simp at h1 h2;subst h1;subst h2;simp
  | succ i=>
   simp at h1 h2
   have:(n == m)=false:=by
    simp only [Sy,ne_eq];intro q;subst q;exact d1 (QJ h1)
   rw [this];exact lg d2 h1 h2
theorem ud {ns:List Str} {vs:List Value} (hd:ns.Nodup) (hl:ns.length=vs.length):ns.filterMap (λn=>((ns.zip vs).lookup n).map (n,·))=ns.zip vs:=by
 have key:∀(done:List (Str×Value)) (ns:List Str) (vs:List Value),ns.Nodup->ns.length=vs.length->(∀n∈ns,done.lookup n=none)->ns.filterMap (λn=>((done++ns.zip vs).lookup n).map (n,·))=ns.zip vs:=by
  intro done ns
  induction ns generalizing done with
  | nil=>intros;rfl
  | cons m ns ih=>
   intro vs hd hl hn
   cases vs with
   | nil=>simp at hl
   | cons v vs=>
    refine aD (TZ.mp hd) λd1 d2=>?_;rw [Uk]
    have e1:(done++ (m,v)::ns.zip vs).lookup m=some v:=by rw [List.lookup_append,hn m (QB ..)];simp
    rw [List.filterMap_cons,e1];simp only [Rm];congr 1
    have:=ih (done++ [(m,v)]) vs d2 (by simpa using hl) (λn hm=>by
     rw [List.lookup_append,hn n (QC _ hm)]
     have:(n == m)=false:=by simp only [Sy,ne_eq];intro q;subst q;exact d1 hm
     simp [Q4,this])
    simpa using this
 exact key [] ns vs hd hl (λ_ _=>rfl)
theorem sE {fd:FuncData} {vals:List Value} (h1:fd.params.posonlyargs=[]) (h2:fd.params.kwonlyargs=[]) (h3:fd.params.vararg=none) (h4:fd.params.kwarg=none) (h5:fd.defaults=.none)
 (hg:¬vals.length>(fd.params.args.map (·.arg)).length) (hm:((fd.params.args.map (·.arg)).filter λn=>(((fd.params.args.map (·.arg)).zip vals).lookup n).isNone)=[]):bindArgs fd ⟨vals,[]⟩=pure ((fd.params.args.map (·.arg)).filterMap λn=>(((fd.params.args.map (·.arg)).zip vals).lookup n).map (n,·)):=by
 obtain ⟨x1,x2,yy,x4,x5,x6,x7,x8,x9⟩:=fd;obtain ⟨y1,y2,y3,y4,y5,y6,y7⟩:=yy;dsimp only at *;subst h1 h2 h3 h4 h5;generalize hk:y2.map (λ(x:Arg)=>x.arg)=ns at hg hm ⊢;refine (Qb (c:=(decide (vals.length>([]++y2.map (λ(x:Arg)=>x.arg)).length) && true)=true) (by rw [List.nil_append,hk,Bool.and_true];exact λh=>hg (Qe h))).trans ?_;refine (Qb (c:=(!(List.filter (λn=>(((y2.map (λ(x:Arg)=>x.arg)).zip vals).lookup n).isNone) (List.take ((y2.map (λ(x:Arg)=>x.arg)).length- (List.drop (0- (y2.map (λ(x:Arg)=>x.arg)).length) ([]:List Value)).length) (y2.map (λ(x:Arg)=>x.arg)))).isEmpty)=true) (by rw [List.drop_nil,List.length_nil,Nat.sub_zero,SX,hk,hm];decide)).trans ?_;have e:∀n,List.drop n ((none.getD #[]:Array Value)).toList=[]:=λn=>List.drop_nil;rw [e,List.zip_nil_right];show (pure:_->Sem (List (Str×Value))) (List.filterMap (λn=>(((y2.map (λ(x:Arg)=>x.arg)).zip vals).lookup n).map (n,·)) ((y2.map (λ(x:Arg)=>x.arg))++ []))=_;rw [RK,hk]
theorem mB {fd:FuncData} {vals:List Value} {ns:List Str} (h1:fd.params.posonlyargs=[]) (h2:fd.params.kwonlyargs=[]) (h3:fd.params.vararg=none) (h4:fd.params.kwarg=none) (h5:fd.defaults=.none)
 (h6:fd.params.args.map (·.arg)=ns) (hd:ns.Nodup) (hl:ns.length=vals.length):bindArgs fd ⟨vals,[]⟩=pure (ns.zip vals):=by
 have hlk:∀n∈ns,((ns.zip vals).lookup n).isNone=false:=λn hn=>by
  obtain ⟨i,hi,rfl⟩:=List.mem_iff_getElem.mp hn
  have e:vals[i]?=some (vals[i]'(hl ▸ hi)):=by simp
  rw [lg hd (Qg hi) e];rfl
 have hmiss:((ns.take ns.length).filter λn=>((ns.zip vals).lookup n).isNone)=[]:=by
  rw [List.filter_eq_nil_iff];intro n hn;rw [SX] at hn;rw [hlk n hn];decide
 subst h6;rw [sE h1 h2 h3 h4 h5 (by rw [hl];exact Q8 _) (by rw [SX] at hmiss;exact hmiss),ud hd hl]
theorem kv {kindOf:Str->Option NameKind} {n:Str}:∀{bs:List (Str×Value)} {m:Str->Option Value},(∀b∈bs,b.1≠n)->bindL kindOf bs m n=m n
 | [],_,_=>rfl
 | (k,v)::r,m,h=>by
  unfold bindL;rw [kv λb hb=>h b (QC _ hb)];have hk:n≠k:=λq=>h (k,v) (QB ..) q.symm;by_cases hl:kindOf k=some .local
  ·rw [Qk hl];simp [hk]
  ·rw [Qb hl]
theorem kx {kindOf:Str->Option NameKind} {n:Str}:∀{bs:List (Str×Value)} {m:Str->Option Value},(∀b∈bs,b.1≠n)->bindC kindOf bs m n=m n
 | [],_,_=>rfl
 | (k,v)::r,m,h=>by
  unfold bindC;rw [kx λb hb=>h b (QC _ hb)];have hk:n≠k:=λq=>h (k,v) (QB ..) q.symm;by_cases hl:kindOf k=some .local
  ·rw [Qk hl]
  ·rw [Qb hl];simp [hk]
theorem sR {n:Str}:∀{ns:List Str} {vs:List Value},n∉ns->∀b∈ns.zip vs,b.1≠n
 | ns,vs,h,b,hb=>λq=>by subst q;exact h (List.of_mem_zip hb).1
theorem qH {kindOf:Str->Option NameKind}:∀{ns:List Str} {vs:List Value} {m c:Str->Option Value},ns.Nodup->∀{i:Nat} {n:Str} {v:Value},ns[i]?=some n->vs[i]?=some v->
 (kindOf n=some .local->bindL kindOf (ns.zip vs) m n=some v)/\(kindOf n≠some .local->bindC kindOf (ns.zip vs) c n=some v)
 | [],_,_,_,_,_,_,_,h,_=>by simp at h
 | _::_,[],_,_,_,_,_,_,_,h=>by simp at h
 | k::ns,u::vs,m,c,hd,i,n,v,h1,h2=>by
  refine aD (TZ.mp hd) λd1 d2=>?_;rw [Uk];unfold bindL bindC
  cases i with
  | zero=>
   simp at h1 h2;subst h1;subst h2;constructor
   ·intro hl;rw [kv (sR d1),Qk hl];simp
   ·intro hl;rw [kx (sR d1),Qb hl];simp
  | succ i=>
   simp at h1 h2;exact qH d2 h1 h2
noncomputable def vN (sc:Scope) (ns:List Str):Bool:=
 ns.all (λn=>(sc.names.lookup n == some .local || sc.names.lookup n == some .cell) && !(n == ("__debug__":Str)) && !(n == ("__classdict__":Str))) && sc.names.all (λy=>!(y.2 ==.free))
def FnAt (K:Frag) (a:Addr) (F:Fn):Prop:=∃oc od osl fd body,K.lookup a=some ⟨oc,od,.func fd,osl⟩/\fd.body=.stmts body/\codeIn K fd.code fd.qualname=true/\fd.closure=[]/\fd.globals=mainGlobals/\fd.builtins=builtinsNs/\
 (fd.scope.kind=.function/\fd.scope.isCoroutine=false/\fd.scope.isGenerator=false)/\(fd.params.posonlyargs=[]/\fd.params.kwonlyargs=[]/\fd.params.vararg=none/\fd.params.kwarg=none/\fd.defaults=.none)/\
 fd.params.args.map (·.arg)=F.names.take F.np/\F.np<=F.names.length/\F.names.Nodup/\vN fd.scope F.names=true/\cB gt attrs fd.scope F.names body=F.body
structure Fc (K:Frag) (base:Heap) (ca fa:Nat->Addr):Prop where
 tC:K.In base
 lim:base.NoLimit
 g:∃mg,base.Ns mainGlobals mg
 b:∃mb,base.Ns builtinsNs mb/\∀x,x≠("__name__":Str)->mb x=bootBuiltins x
 cls:uc K ca
 AG:∀n i,di n gt=some (.int i)->∃t,nsIn K mainGlobals n=some (some (.int i t))
 AE:∀n is,di n gt=some (.tup is)->∃a vals,nsIn K mainGlobals n=some (some (.ref a))/\K.lookup a=some { cls:=.type "tuple",data:=.seq vals.toArray }/\IntsAre vals is/\is.length<=1000
 I6:∀n k,di n gt=some (.fn k)->nsIn K mainGlobals n=some (some (.ref (fa k)))/\keepIn K (.ref (fa k))=true
 AJ:∀n c,di n gt=some (.cls c)->nsIn K mainGlobals n=some (some (.ref (ca c)))/\keepIn K (.ref (ca c))=true/\c<3
 I7:∀n b,di n gt=some (.bi b)->nsIn K mainGlobals n=some none/\bootBuiltins n=some (ky b)/\n≠("__name__":Str)
 xA:∀n g,di n gt=some g->(n == ("__debug__":Str))=false
 fns:∀k F,code k=some F->FnAt K (fa k) F
 made:∀c,c<3->makesIn K (ca c)=true/\findIn K (.ref (ca c)) "__init__"=some (some (.ref (fa (1000+c))))/\isFn K (.ref (fa (1000+c)))=true
section
variable {prog:Program} {w:World} {A:Around} {s:Shared} {x:Fx} {O:Lc} {H:Hp} {T:Im} {K:Frag} {base:Heap} {ca fa:Nat->Addr} {Γ:Sg}
theorem aJ.Fh {h:Heap} (S:aJ x h O H T) {W:List Str} (hW:∀n c,x.env.cells.lookup n=some c->n∈W->x.h₀.get? c=none):aJ { x with W:=W } h O H T:=
 ⟨S.cN,S.fr,S.own,S.fc,λn c e=>by refine ao (S.jD n c e) λv hv _=>?_;exact ⟨v,hv,hW n c e⟩⟩
theorem uL {vs:List V} {n i:Nat} {v:V} (h:getL (vs.map some++List.replicate n none) i=some v):vs[i]?=some v:=by
 unfold getL at h;rw [List.getElem?_append] at h;split at h
 ·rw [QK] at h
  cases q:vs[i]? with
  | none=>rw [q] at h;cases h
  | some u=>rw [q] at h;exact h
 ·rw [RO] at h
  split at h<;>simp at h
def iU {d:Nat} {f:Nat} {vs:List V} {xs:List Value} {Q:V->Hp->Prop} {RR:Result->Shared->Prop}:Prop:=∀(hsort:cm) (Z:Fc K base ca fa) (hroom:A.depth<recursionLimit) (R:∀env,Rn prog w K base ca fa (A.deeper env) (gq code d)) (hb:x.base=base) (hc:x.ca=ca) (S:aJ x s.heap O H T) (hv:cG T vs xs) (hw:gq code (d+1) f vs H Q) (hR:∀val s',bf x O T s Q val s'->RR (.ok (.ret val)) s'),codeAny (model prog w) A (.call (.ref (fa f)) ⟨xs,[]⟩) RR s
theorem nR {d:Nat} {f:Nat} {vs:List V} {xs:List Value} {Q:V->Hp->Prop} {RR:Result->Shared->Prop}:@iU prog w A s x O H T K base ca fa d f vs xs Q RR:=au (S:=λx:(Program×World×Around×Shared)×(Fx×Lc×Hp×Im)×(Frag×Heap×(Nat->Addr)×(Nat->Addr))×(Nat×Nat×List V×List Value)×((V->Hp->Prop)×(Result->Shared->Prop))=>@iU x.1.1 x.1.2.1 x.1.2.2.1 x.1.2.2.2 x.2.1.1 x.2.1.2.1 x.2.1.2.2.1 x.2.1.2.2.2 x.2.2.1.1 x.2.2.1.2.1 x.2.2.1.2.2.1 x.2.2.1.2.2.2 x.2.2.2.1.1 x.2.2.2.1.2.1 x.2.2.2.1.2.2.1 x.2.2.2.1.2.2.2 x.2.2.2.2.1 x.2.2.2.2.2) (x:=((default,dW,{},{}),(BV,[],λ_=>none,λ_=>none),([],default,λ_=>0,λ_=>0),(0,0,[],[]),(λ_ _=>True,λ_ _=>True))) (by
 refine (?_:∀prog w A s x O H T K base ca fa d f vs xs Q RR,@iU prog w A s x O H T K base ca fa d f vs xs Q RR) _ _ _ _ _ _ _ _ _ _ _ _ _ _ _ _ _ _;intro prog w A s x O H T K base ca fa d f vs xs Q RR hsort Z hroom R hb hc S hv hw hR;rw [gq] at hw;split at hw
 ·exact hw.elim
 ·rename_i F hF;refine aD hw λhlen hw=>?_;obtain ⟨oc,od,osl,fd,body,hlk,hbody,hcd,hclo,hgl,hbl,⟨hk,hco,hgen⟩,⟨p1,p2,p3,p4,p5⟩,hargs,hnp,hnd,hchk,hcB⟩:=Z.fns f F hF;have X:K.In s.heap:=λa o e=>S.keep a o (by rw [hb];exact Z.tC a o e);have hlim:s.heap.NoLimit:=Z.lim.keeps λb o e=>S.keep b o (by rw [hb];exact e);have hxl:=hv.length
  have htl:(F.names.take F.np).length=xs.length:=by rw [SY,<- hxl,hlen];exact Sp ‹_›
  have hndt:(F.names.take F.np).Nodup:=hnd.sublist (List.take_sublist _ _);have hbind:=mB (fd:=fd) (vals:=xs) p1 p2 p3 p4 p5 hargs hndt htl;simp only [vN,Qa] at hchk
  have hkn:∀n∈F.names,(fd.scope.names.lookup n=some .local\/fd.scope.names.lookup n=some .cell)/\(n == ("__debug__":Str))=false/\(n == ("__classdict__":Str))=false:=λn hn=>by
   have:=Qj.mp hchk.1 n hn;simp only [Qa,Q3] at this;refine ⟨?_,by simpa using this.1.2,by simpa using this.2⟩;rcases this.1.1 with h | h
   ·exact .inl (eq_of_beq h)
   ·exact .inr (eq_of_beq h)
  have hnf:∀n,fd.scope.names.lookup n≠some .free:=λn e=>by
   have:=Qj.mp hchk.2 _ (mem_of_lookup e);simp at this
  refine codeAny_call_cells (fd:=fd) hroom (X _ _ hlk) rfl hlim (codeRec_of X hcd) hbody hbind hclo (λy hy=>?_) (λs₁ C=>?_) hco hgen hk
  ·have hm:y.1∈F.names:=SR (List.of_mem_zip hy).1;rcases (hkn _ hm).1 with e | e
   ·exact .inl e
   ·exact .inr ⟨e,cellsFrom_some _ _ _ (.inl e)⟩
  ·
   generalize hE:callEnvC fd s.heap.objs.size (fa f)=env at C ⊢
   have hsc:env.scope=fd.scope:=by rw [<- hE];rfl
   have hL:env.locals=s.heap.objs.size:=by rw [<- hE];rfl
   have hce:env.cells=cellsFrom (s.heap.objs.size+1) fd.scope.names []:=by rw [<- hE];rfl
   have hko:∀n,env.kindOf n=fd.scope.names.lookup n:=λn=>by unfold Env.kindOf;rw [hsc]
   obtain ⟨h',tk,he⟩:=C.toInCall.same;have S1:aJ x s₁.heap O H T:=S.grow C.toInCall.keep
   have hLlt:LT.lt (α:=Nat) x.env.locals env.locals:=by rw [hL];exact S.lt
   have h0:LE.le (α:=Nat) x.h₀.objs.size env.locals:=by
    obtain ⟨m,F0,_⟩:=S.fr;exact P8 F0.above (Qp hLlt)
   have hHL:H env.locals=none:=by rw [hL];exact S.fresh (Qn _)
   have S2:aJ (inner x s₁.heap H env F.names) s₁.heap (vs.map some++List.replicate (F.names.length-F.np) none) H T:=by
    refine S1.enter C.toInCall.ns hHL h0 (λn c e=>⟨_,C.cell n c e⟩) λi v hi=>?_;have h1:=uL hi;refine ao (hv.get h1) λval h2 h3=>?_;have hlt:=(Qs.mp h1).1
    have hn:(F.names.take F.np)[i]?=some (F.names[i]'(by lia)):=by
     rw [List.getElem?_take_of_lt (by lia)];simp
    have hn':F.names[i]?=some (F.names[i]'(by lia)):=by simp
    refine ⟨F.names[i]'(by lia),val,hn',?_,h3⟩;have hb:=qH (kindOf:=env.kindOf) (m:=λ_=>none) (c:=λ_=>none) hndt hn h2;rcases (hkn _ (Sb _)).1 with e | e
    ·exact .inl ⟨(hko _).trans e,hb.1 ((hko _).trans e)⟩
    ·have hne:env.kindOf (F.names[i]'(by lia))≠some .local:=by rw [hko,e];decide
     refine bJ (TL.mp (cellsFrom_some (x:=F.names[i]'(by lia)) fd.scope.names (s.heap.objs.size+1) [] (.inl e))) λc hcl=>?_;rw [<- hce] at hcl;refine .inr ⟨.inl ((hko _).trans e),c,hcl,?_⟩;have:=C.cell _ _ hcl;rw [hb.2 hne] at this;exact this
   have S3:=S2.Fh (W:=fd.scope.names.map (·.1)) λn c e _=>by
    have:=C.above n c (mem_of_lookup e);exact ie λq=>absurd q.1 (Rv.mpr (Qp this))
   have SE:mX { inner x s₁.heap H env F.names with W:=fd.scope.names.map (·.1) } fd.scope F.names:=by
    refine ⟨⟨rfl,?_,?_,?_,λn e=>(hko n).trans e,λn e=>?_,λn hn=>(hkn n hn).2⟩,hnd,λn hn=>?_,λn n' c e1 e2=>name_of_addr C.apart (mem_of_lookup e1) (mem_of_lookup e2)⟩
    ·show env.scope.kind=.function;rw [hsc];exact hk
    ·show env.globals=mainGlobals;rw [<- hE];exact hgl
    ·show env.builtins=builtinsNs;rw [<- hE];exact hbl
    ·rcases e with e | e
     ·refine bJ (TL.mp (cellsFrom_some (x:=n) fd.scope.names (s.heap.objs.size+1) [] (.inl e))) λc hcl=>?_;exact ⟨.inl ((hko n).trans e),c,by show env.cells.lookup n=some c;rw [hce];exact hcl⟩
     ·exact absurd e (hnf n)
    ·rcases (hkn n hn).1 with e | e
     ·exact .inl ((hko n).trans e)
     ·refine bJ (TL.mp (cellsFrom_some (x:=n) fd.scope.names (s.heap.objs.size+1) [] (.inl e))) λc hcl=>?_;exact .inr ⟨(hko n).trans e,⟨c,by show env.cells.lookup n=some c;rw [hce];exact hcl⟩,List.mem_map_of_mem (mem_of_lookup e)⟩
   refine wpAny_mono (sound hsort body (R env) SE hb hc S3 (by rw [hcB];exact hw)) (λfl s' h=>hR _ _ ?_) λ_ _ y=>y;obtain ⟨fl',ρ2,H2,T2,hf,le2,S4,go2,q2⟩:=h;have S5:aJ (inner x s₁.heap H env F.names) s'.heap ρ2 H2 T2:=⟨S4.cN,S4.fr,S4.own,S4.fc,λn c e=>by refine ao (S4.jD n c e) λv hv _=>?_;exact ⟨v,hv,λq=>nomatch q⟩⟩
   have S6:=S1.leave S5 le2 hLlt h0 λn c e=>by
    refine ao (S.jD n c e) λv hv _=>?_;rw [hL];exact hv.lt
   have go:jB s s':=⟨go2.1.trans (he ▸ rfl),go2.2.trans (he ▸ rfl)⟩
   cases hf with
   | next=>
    simp only [iH] at q2;refine ao q2 λH3 hs3 q3=>?_;exact ⟨.none,H3,T2,.none,le2,S6.mono hs3,go,q3⟩
   | brk=>simp only [iH] at q2
   | ret hv=>
    simp only [iH] at q2;refine ao q2 λH3 hs3 q3=>?_
    exact ⟨_,H3,T2,hv,le2,S6.mono hs3,go,q3⟩) ((prog,w,A,s),(x,O,H,T),(K,base,ca,fa),(d,f,vs,xs),(Q,RR))
end
section
variable {prog:Program} {w:World} {A:Around} {s:Shared} {x:Fx} {O:Lc} {H:Hp} {T:Im} {K:Frag} {base:Heap} {ca fa:Nat->Addr} {Γ:Sg}
noncomputable abbrev gS (C:Addr) (xs:List Value):Code:=.builtin "type.__call__" ⟨.ref C::xs,[]⟩
theorem ni (C:Addr) (xs:List Value):(gS C xs).weight=1:=by rfl
theorem vv (C:Addr) (xs:List Value):(gS C xs).cUnits<=3:=by
 have:(gS C xs).cUnits=1:=by rfl
 exact RI _ _
def oS {d:Nat} {c:Nat} {vs:List V} {xs:List Value} {Q:V->Hp->Prop} {E:Value->Shared->Prop}:Prop:=∀(hsort:cm) (Z:Fc K base ca fa) (hroom:A.depth+1<recursionLimit) (R:∀(C:Addr) (xs:List Value) env,Rn prog w K base ca fa ((A.under (gS C xs)).deeper env) (gq code d)) (hb:x.base=base) (hc:x.ca=ca) (S:aJ x s.heap O H T) (hc3:c<3) (hv:cG T vs xs) (hw:∀a dx,H a=none->H dx=none->a≠dx->gq code (d+1) (1000+c) (.ref a::vs) ((H.upd a (.inst c dx)).upd dx (.dict [])) λv H=>isNone v=true/\Q (.ref a) H),wpAny (model prog w) A (PySem.call (.ref (ca c)) xs) (bf x O T s Q) E s
theorem Dh {d:Nat} {c:Nat} {vs:List V} {xs:List Value} {Q:V->Hp->Prop} {E:Value->Shared->Prop}:@oS prog w A s x O H T K base ca fa d c vs xs Q E:=au (S:=λx:(Program×World×Around×Shared)×(Fx×Lc×Hp×Im)×(Frag×Heap×(Nat->Addr)×(Nat->Addr))×(Nat×Nat×List V×List Value)×((V->Hp->Prop)×(Value->Shared->Prop))=>@oS x.1.1 x.1.2.1 x.1.2.2.1 x.1.2.2.2 x.2.1.1 x.2.1.2.1 x.2.1.2.2.1 x.2.1.2.2.2 x.2.2.1.1 x.2.2.1.2.1 x.2.2.1.2.2.1 x.2.2.1.2.2.2 x.2.2.2.1.1 x.2.2.2.1.2.1 x.2.2.2.1.2.2.1 x.2.2.2.1.2.2.2 x.2.2.2.2.1 x.2.2.2.2.2) (x:=((default,dW,{},{}),(BV,[],λ_=>none,λ_=>none),([],default,λ_=>0,λ_=>0),(0,0,[],[]),(λ_ _=>True,λ_ _=>True))) (by
 refine (?_:∀prog w A s x O H T K base ca fa d c vs xs Q E,@oS prog w A s x O H T K base ca fa d c vs xs Q E) _ _ _ _ _ _ _ _ _ _ _ _ _ _ _ _ _ _;intro prog w A s x O H T K base ca fa d c vs xs Q E hsort Z hroom R hb hc S hc3 hv hw;obtain ⟨m,F,N,go⟩:=S.news;refine dJ (Z.made c hc3) λz1 z2 z3=>?_;have X0:K.In x.h₀:=λa o e=>S.cN a o (by rw [hb];exact Z.tC a o e);refine call_cls F X0 N z1 z2 z3 λa dx h' F' N' hlt hda=>?_;refine aD (go h' [(a,instObj (ca c) dx),(dx,dictOf [] 0)] F' N') λS' kp=>?_;have Na:=N' _ (QB ..);have Nd:=N' _ (QC _ (QB ..))
 have hlow:∀b:Addr,¬LT.lt (α:=Nat) b dx->H b=none:=λb hb=>by
  cases e:H b with
  | none=>rfl
  | some ob=>
   refine dJ (S.own b ob e) ?_;rintro ⟨o,e1,_⟩ e2 e3;exact absurd (hlt (b,o) (eQ.mpr ⟨e1,e2,e3⟩)) hb
 have hHd:H dx=none:=hlow dx (Q8 _);have hHa:H a=none:=hlow a (Rv.mpr (Qp hda));have hne:a≠dx:=QL hda
 have S2:aJ x h' O ((H.upd a (.inst c dx)).upd dx (.dict [])) T:=by
  refine ⟨S'.cN,S'.fr,λb ob e=>?_,S'.fc,S'.jD⟩;unfold Hp.upd at e;by_cases hbd:b=dx
  ·subst hbd;rw [Qk rfl] at e;cases e;exact ⟨⟨_,Nd.1,.dict (es:=[]) .nil⟩,Nd.2.1,Nd.2.2⟩
  ·rw [Qb hbd] at e;by_cases hba:b=a
   ·subst hba;rw [Qk rfl] at e;cases e;refine ⟨⟨_,Na.1,?_⟩,Na.2.1,Na.2.2⟩;have:OR x.ca T (.inst c dx) { cls:=.ref (x.ca c),dict:=some dx,data:=.plain }:=.inst hc3;rw [hc] at this;rw [hc];exact this
   ·rw [Qb hba] at e;exact S'.own b ob e
 refine nR (s:={ s with heap:=h' }) (A:=A.under (gS (ca c) xs)) hsort Z (by show A.depth+(gS (ca c) xs).weight<_;rw [ni];exact hroom) (R _ _) hb hc S2 (.cons (.ref a) hv) (hw a dx hHa hHd hne) λval s' h=>?_;obtain ⟨v,H3,T3,r1,r2,r3,r4,r5,r6⟩:=h
 cases r1<;>first | (cases r5) | skip
 exact ⟨rfl,.ref a,H3,T3,.ref a,r2,r3,⟨r4.1,r4.2⟩,r6⟩) ((prog,w,A,s),(x,O,H,T),(K,base,ca,fa),(d,c,vs,xs),(Q,E))
theorem runs (hsort:cm) (Z:Fc K base ca fa):∀(d:Nat) (A:Around),A.handled=none->A.depth+4*d+4<=990->A.units+10*d+200<=9000->Rn prog w K base ca fa A (gq code d):=by
 intro d
 induction d with
 | zero=>
  intro A hh hd hu;refine ⟨Z.tC,Z.lim,Z.g,Z.b,Z.cls,Z.AG,Z.AE,Z.I6,Z.AJ,Z.I7,Z.xA,hh,by simp only [cLine];lia,λ_ _ _ _ h=>?_,λ{E s x O H T c vs xs Q} _ _ _ S _ h=>?_⟩
  ·rw [gq] at h;exact h.elim
  ·have:=h s.heap.objs.size (s.heap.objs.size+1) (S.fresh (Qn _)) (S.fresh (Tg _)) (QX (Qu _));rw [gq] at this;exact this.elim
 | succ d ih=>
  intro A hh hd hu;refine ⟨Z.tC,Z.lim,Z.g,Z.b,Z.cls,Z.AG,Z.AE,Z.I6,Z.AJ,Z.I7,Z.xA,hh,by simp only [cLine];lia,λhb hc S hv h=>?_,λhc3 hb hc S hv h=>?_⟩
  ·refine wpAny_call (nR hsort Z (by simp only [recursionLimit];lia) (λenv=>ih _ hh ?_ ?_) hb hc S hv h λval s' h=>h)
   ·show A.depth+1+4*d+4<=990;lia
   ·show A.units+3+10*d+200<=9000;lia
  ·refine Dh hsort Z (by simp only [recursionLimit];lia) (λC xs env=>ih _ hh ?_ ?_) hb hc S hc3 hv h
   ·show A.depth+(gS C xs).weight+1+4*d+4<=990;rw [ni];lia
   ·show A.units+(gS C xs).cUnits+3+10*d+200<=9000;have:=vv C xs;lia
end
noncomputable def Pw:List (Nat×Addr):=[(0,21),(1,28),(2,35),(3,42),(4,49),(5,56),(6,63),(7,70),(8,98),(9,105),(10,112),(11,119),(12,126),(13,188),(14,195),(15,202),(16,209),(17,216),(18,223),(19,230),(20,237),(21,244),(22,251),(23,258),(24,265),(25,293),(26,300),(27,307),(28,314),(29,321),(30,328),(31,335),(32,342),(33,349),(34,356),(35,363),(36,370),(37,377),(38,384),(39,391),(40,398),(41,405),(42,412),(43,419),(44,426),(45,433),(46,440),(47,447),(48,454),(49,461),(50,468),(51,475),(52,482),(53,489),(54,496),(55,503),(56,510),(57,517),(58,524),(59,531),(60,538),(61,545),(62,552),(63,559),(64,566),(65,573),(66,580),(67,587),(68,594),(69,601),(70,608),(71,615),(72,622),(73,629),(74,636),(75,643),(76,650),(77,657),(78,664),(79,671),(80,678),(81,685),(82,692),(83,699),(84,706),(85,713),(86,720),(87,727),(88,734),(89,741),(90,748),(91,755),(92,762),(93,769),(94,776),(95,783),(96,790),(97,797),(98,804),(99,811),(100,818),(101,825),(102,832),(103,839),(104,844),(105,849),(106,854),(107,861),(1000,84),(1001,174),(1002,279)]
noncomputable def fa (k:Nat):Addr:=(Pw.lookup k).getD 0
noncomputable def ca:Nat->Addr
 | 0=>87
 | 1=>177
 | _=>282
noncomputable def Iz:Value->Option Int
 | .int j _=>some j
 | _=>none
noncomputable def LU:Value->Option Addr
 | .ref a=>some a
 | _=>none
noncomputable def LV:Value->Option String
 | .builtin a=>some a
 | _=>none
theorem Iy (v:Value):match Iz v with | some i=>∃t,v=.int i t | none=>True:=by cases v with | int i t=>exact ⟨t,rfl⟩ | _=>exact True.intro
theorem Iw (v:Value):match LU v with | some i=>v=.ref i | none=>True:=by cases v with | ref i=>exact rfl | _=>exact True.intro
theorem IB (v:Value):match LV v with | some i=>v=.builtin i | none=>True:=by cases v with | builtin i=>exact rfl | _=>exact True.intro
theorem yL {v:Value} {i:Int} (h:Iz v=some i):∃t,v=.int i t:=by have:=Iy v;rw [h] at this;exact this
theorem EN {v:Value} {i:Addr} (h:LU v=some i):v=.ref i:=by have:=Iw v;rw [h] at this;exact this
theorem EO {v:Value} {i:String} (h:LV v=some i):v=.builtin i:=by have:=IB v;rw [h] at this;exact this
noncomputable def oh:List Value->List Int->Bool
 | [],[]=>true
 | v::r,j::q=>(match Iz v with | some i=>i == j | none=>false) && oh r q
 | _,_=>false
theorem q0 {vs:List Value}:∀{is:List Int},oh vs is=true->IntsAre vs is:=by
 induction vs with
 | nil=>
  intro is h
  cases is with
  | nil=>exact .nil
  | cons=>exact nomatch h
 | cons v r ih=>
  intro is h
  cases is with
  | nil=>exact nomatch h
  | cons j q=>
   refine aD (QV.mp h) λh1 h2=>?_
   cases e:Iz v with
   | none=>rw [e] at h1;exact nomatch h1
   | some i=>
    rw [e] at h1;refine bJ (yL e) λt ht=>?_;rw [ht,eq_of_beq h1];exact .cons _ t (ih h2)
noncomputable def Mh:Value->Option String
 | .type n=>some n
 | _=>none
theorem Fm (v:Value):match Mh v with | some i=>v=.type i | none=>True:=by cases v with | type i=>exact rfl | _=>exact True.intro
noncomputable def Mi:Data->Option (Array Value×Nat)
 | .seq xs k=>some (xs,k)
 | _=>none
theorem Fy (v:Data):match Mi v with | some i=>v=.seq i.1 i.2 | none=>True:=by cases v with | seq xs k=>exact rfl | _=>exact True.intro
noncomputable def qg (o:Obj):Option (List Value):=(Mi o.data).bind λp=>if Mh o.cls=some "tuple"/\o.dict.isNone=true/\p.2=0/\o.slots.toList.isEmpty=true then some p.1.toList else none
theorem qf {o:Obj} {l:List Value} (h:qg o=some l):o={ cls:=.type "tuple",data:=.seq l.toArray }:=by
 refine ao (Qz.mp h) λp hp h=>?_;have h1:=Fy o.data;rw [hp] at h1;have h2:=Fm o.cls;obtain ⟨c,d,a,sl⟩:=o;dsimp only at *;split at h
 ·rename_i q;refine rX q λq1 q2 q3 q4=>?_;rw [q1] at h2;dsimp only at h2;cases h;rw [h1,h2,q3,SV.mp q2,Array.toList_inj.mp ((RM.mp q4).trans (show []=(#[]:Array (Option Value)).toList from rfl))]
 ·exact nomatch h
noncomputable def ss {α β:Type} (f:α->Option β) (o:Option (Option α)):Option β:=match o with
 | some (some v)=>f v
 | _=>none
theorem vG {α β:Type} {f:α->Option β} {o:Option (Option α)} {i:β} (h:ss f o=some i):∃v,o=some (some v)/\f v=some i:=by
 rcases o with _ | _ | v
 ·exact nomatch h
 ·exact nomatch h
 ·exact ⟨v,rfl,h⟩
noncomputable def B4:Option (Option Value)->Option Int:=ss Iz
noncomputable def qJ:Option (Option Value)->Option Addr:=ss LU
noncomputable def IA:Option (Option Value)->Option String:=ss LV
noncomputable def AA {α:Type}:Option (Option α)->Bool
 | some none=>true
 | _=>false
theorem yK {o:Option (Option Value)} {i:Int} (h:B4 o=some i):∃t,o=some (some (.int i t)):=ao (vG h) λv h1 h2=>bJ (yL h2) λt h3=>⟨t,by rw [h1,h3]⟩
theorem jz {o:Option (Option Value)} {i:Addr} (h:qJ o=some i):o=some (some (.ref i)):=ao (vG h) λv h1 h2=>by rw [h1,EN h2]
theorem Be {o:Option (Option Value)} {i:String} (h:IA o=some i):o=some (some (.builtin i)):=ao (vG h) λv h1 h2=>by rw [h1,EO h2]
theorem o6 {α:Type} {o:Option (Option α)} (h:AA o=true):o=some none:=by
 rcases o with _ | _ | v
 ·cases h
 ·rfl
 ·cases h
theorem anyOf {α:Type} {o:Option α} {p:α->Bool} (h:o.any p=true):∃x,o=some x/\p x=true:=by
 cases o with
 | none=>cases h
 | some x=>exact ⟨x,rfl,h⟩
theorem band {a b:Bool} {P:Prop} (h:(a && b)=true) (k:a=true->b=true->P):P:=by
 cases a<;>cases b<;>first | exact k rfl rfl | cases h
noncomputable def GZ (K:Frag) (n:Str):Gl->Bool
 | .int i=>B4 (nsIn K mainGlobals n) == some i
 | .tup is=>(qJ (nsIn K mainGlobals n)).any λa=>(K.lookup a).any λo=>(qg o).any λl=>oh l is && decide (is.length<=1000)
 | .fn k=>qJ (nsIn K mainGlobals n) == some (fa k) && keepIn K (.ref (fa k))
 | .cls c=>decide (c<3) && (qJ (nsIn K mainGlobals n) == some (ca c) && keepIn K (.ref (ca c)))
 | .bi b=>AA (nsIn K mainGlobals n) && (bootBuiltins n == some (ky b) && !(n == ("__name__":Str)))
noncomputable def uM (K:Frag) (p:Str×Gl):Bool:=!(p.1 == ("__debug__":Str)) && GZ K p.1 p.2
theorem nM {n:Str} {g:Gl}:∀{l:GT},di n l=some g->(n,g)∈l
 | [],h=>nomatch h
 | (m,k)::r,h=>by
  by_cases hm:PySem.W.Fast.sEq m n=true
  ·rw [di,Qk hm] at h;cases h;rw [PySem.W.Fast.sEq_iff.mp hm];exact QB ..
  ·rw [di,Qb hm] at h;exact QC _ (nM h)
noncomputable def fdOf (o:Option Obj):Option (FuncData×List Stmt):=match o with
 | some ⟨_,_,.func fd,_⟩=>(match fd.body with
  | .stmts b=>some (fd,b)
  | _=>none)
 | _=>none
theorem AP {o:Option Obj} {p:FuncData×List Stmt} (h:fdOf o=some p):∃oc od osl,o=some ⟨oc,od,.func p.1,osl⟩/\p.1.body=.stmts p.2:=by
 cases o with
 | none=>cases h
 | some o=>
  obtain ⟨oc,od,d,osl⟩:=o
  cases d with
  | func fd=>
   revert h;show (match fd.body with | .stmts b=>some (fd,b) | _=>none)=some p->_
   cases e:fd.body with
   | stmts b=>intro h;cases h;exact ⟨oc,od,osl,rfl,e⟩
   | expr b=>nofun
  | _=>cases h
noncomputable def Kj:Value->Bool
 | .none=>true
 | _=>false
noncomputable def DW:ScopeKind->Bool
 | .function=>true
 | _=>false
noncomputable def D7 (K:Frag) (F:Fn) (fd:FuncData):Bool:=codeIn K fd.code fd.qualname && (fd.closure.isEmpty && (fd.globals == mainGlobals && (fd.builtins == builtinsNs && (DW fd.scope.kind && (!fd.scope.isCoroutine && (!fd.scope.isGenerator &&
 (fd.params.posonlyargs.isEmpty && (fd.params.kwonlyargs.isEmpty && (fd.params.vararg.isNone && (fd.params.kwarg.isNone && (Kj fd.defaults && (decide (fd.params.args.map (·.arg)=F.names.take F.np) &&
 (decide (F.np<=F.names.length) && (decide F.names.Nodup && vN fd.scope F.names))))))))))))))
noncomputable def tO (K:Frag) (a:Addr) (F:Fn):Bool:=(fdOf (K.lookup a)).any λp=>D7 K F p.1
noncomputable def mj (K:Frag) (a:Addr) (F:Fn):S:=match fdOf (K.lookup a) with
 | some p=>cB gt attrs p.1.scope F.names p.2
 | none=>.bad
def jX {K:Frag} {a:Addr} {F:Fn}:Prop:=∀(h:tO K a F=true) (hB:mj K a F=F.body),FnAt K a F
theorem xD {K:Frag} {a:Addr} {F:Fn}:@jX K a F:=au (S:=λx:Frag×Addr×Fn=>@jX x.1 x.2.1 x.2.2) (x:=([],0,⟨"",[],0,.brk⟩)) (by
 refine (?_:∀K a F,@jX K a F) _ _ _;intro K a F h hB;delta tO at h;delta mj at hB
 cases e:fdOf (K.lookup a) with
 | none=>rw [e] at h;cases h
 | some p=>
  rw [e] at h hB;refine G9 (AP e) λoc od osl h0 hb=>?_
  refine band h λh1 h=>band h λh2 h=>band h λh3 h=>band h λh4 h=>band h λh5 h=>band h λh6 h=>band h λh7 h=>band h λh8 h=>band h λh9 h=>band h λh10 h=>band h λh11 h=>band h λh12 h=>band h λh13 h=>band h λh14 h=>band h λh15 h16=>
   ⟨oc,od,osl,p.1,p.2,h0,hb,h1,RM.mp h2,eq_of_beq h3,eq_of_beq h4,⟨?_,(QI _).mp h6,(QI _).mp h7⟩,⟨RM.mp h8,RM.mp h9,SV.mp h10,SV.mp h11,?_⟩,Qe h13,Qe h14,Qe h15,h16,hB⟩
  ·revert h5;cases p.1.scope.kind<;>first | exact λ_=>rfl | nofun
  ·revert h12;cases p.1.defaults<;>first | exact λ_=>rfl | nofun) (K,a,F)
noncomputable def pB (K:Frag) (c:Nat):Bool:=(List.range attrs.length).all (λn=>plainGet K (ca c) (an n) && (AA (findIn K (.ref (ca c)) (an n)) && AA (takerIn K (ca c) (an n)))) &&
 (hasDictIn K (ca c) && (plainOver K (ca c) && (IA (findIn K (.ref (ca c)) "__setattr__") == some "object.__setattr__" && (makesIn K (ca c) && (qJ (findIn K (.ref (ca c)) "__init__") == some (fa (1000+c)) && isFn K (.ref (fa (1000+c))))))))
end Internal
end
section
open PySem
namespace Internal
theorem k9 (x y:Nat):Builtin.bitAnd (x:Int) (y:Int)=((x &&& y:Nat):Int):=by
 rw [PyProof.Rows.bitAnd_pp (Qy x) (Qy y)];rfl
theorem wA (x y:Nat):Builtin.bitOr (x:Int) (y:Int)=((x ||| y:Nat):Int):=by
 rw [PyProof.Rows.bitOr_and,k9];have:=PyProof.Rows.nat_or_add_and x y;lia
theorem tS (x y:Nat) (h:x &&& y=0):x+y=x ||| y:=by
 have:=PyProof.Rows.nat_or_add_and x y;lia
theorem cM {x y:Nat} (h:∀i,x.testBit i=y.testBit i):x=y:=Nat.eq_of_testBit_eq h
theorem kM (x y:Nat):(x ^^^ y)+(x &&& y)=x ||| y:=by
 rw [tS _ _ (cM λi=>by rw [RX,Qo,RX,Qr];cases x.testBit i<;>cases y.testBit i<;>rfl)]
 exact cM λi=>by rw [SS,Qo,RX,SS];cases x.testBit i<;>cases y.testBit i<;>rfl
theorem zg (x y:Nat):Builtin.bitXor (x:Int) (y:Int)=((x ^^^ y:Nat):Int):=by
 unfold Builtin.bitXor;rw [wA,k9];have:=kM x y;lia
noncomputable def ez (a b:Nat):Nat:=a ^^^ (a &&& b)
theorem sX (a b i:Nat):(ez a b).testBit i=(a.testBit i && !b.testBit i):=by
 unfold ez;rw [Qo,RX];cases a.testBit i<;>cases b.testBit i<;>rfl
theorem qL (x y:Nat):Builtin.bitAnd (x:Int) (Builtin.bitNot (y:Int))=((ez x y:Nat):Int):=by
 rw [PyProof.Rows.bitAnd_not,k9];have h:=kM x (x &&& y)
 have e1:x &&& (x &&& y)=x &&& y:=by rw [<- TM,Nat.and_self]
 have e2:x ||| (x &&& y)=x:=cM λi=>by rw [SS,RX];cases x.testBit i<;>cases y.testBit i<;>rfl
 rw [e1,e2] at h;unfold ez;lia
theorem Ap (b:Nat):Builtin.bitAnd (b:Int) (-(b:Int))=((ez b (b-1):Nat):Int):=by
 cases b with
 | zero=>rfl
 | succ n=>rw [<- qL];congr 1;unfold Builtin.bitNot;lia
noncomputable abbrev nv (n:Nat):V:=.int (n:Int)
noncomputable abbrev av (l:List Nat):List V:=l.map nv
structure aE where
 aa:Nat
 bE:Nat
 dbl:Bool
 gM:Bool
 fm:List Nat
 rm:List Nat
 eM:List (List Nat)
 cz:List Nat
 a8:List Nat
 pw:List Nat
 pb:List Nat
 bt:List (Option (Nat×Nat×Nat×Nat))
 cP:List Nat
noncomputable def aE.size (G:aE):Nat:=G.aa*G.bE
noncomputable def aE.full (G:aE):Nat:=2^G.size-1
noncomputable def vj:Option (Nat×Nat×Nat×Nat)->V
 | none=>.none
 | some (a,b,c,d)=>.tup [nv a,nv b,nv c,nv d]
structure Rw where
 ae:List Nat
 bF:List Nat
 bX:List Nat
 af:Nat
 ab:Nat
 ep:Int
 fK:Int
 full:Int
 key:Nat
 cA:List V
structure Ad where
 p:Addr
 dx:Addr
 bd:Addr
 kd:Addr
 sd:Addr
 hs:Addr
 g:Addr
 gd:Addr
 fm:Addr
 rm:Addr
 oA:Addr
 mR:Nat->Addr
 cz:Addr
 a8:Addr
 fJ:Addr
 pn:Nat->Addr
 gM:Addr
 cP:Addr
 z:Addr
 zd:Addr
 zp:Addr
 row:Nat->Addr
 ze:Addr
 zr:Addr
noncomputable def j0:Ad:=⟨0,0,0,0,0,0,0,0,0,0,0,λ_=>0,0,0,0,λ_=>0,0,0,0,0,0,λ_=>0,0,0⟩
noncomputable def bO:aE:=⟨0,0,false,false,[],[],[],[],[],[],[],[],[]⟩
noncomputable def fG:Rw:=⟨[],[],[],0,0,0,0,0,0,[]⟩
noncomputable def vh (size m:Nat):List Nat:=(List.range size).map λs=>2^(m*size+s)
noncomputable def Bn (size aa:Nat):List Nat:=(List.range aa).map λf=>2^(15*size+4+f)
noncomputable def Bm (size:Nat):List Nat:=(List.range 16).map λr=>r <<< (15*size)
noncomputable def yZ (size aa:Nat):Nat:=2^(15*size+4+aa)
structure GW (H:Hp) (a:Ad) (G:aE):Prop where
 g:H a.g=some (.inst 1 a.gd)
 gd:H a.gd=some (.dict [(4,nv G.aa),(5,nv G.bE),(6,nv G.size),(7,nv G.full),(8,.bool G.dbl),(9,.bool G.gM),(10,.ref a.fm),(11,.ref a.rm),(12,.ref a.oA),(13,.ref a.cz),(14,.ref a.a8),(15,.ref a.fJ),(16,.ref a.gM),(17,.ref a.cP)])
 fm:H a.fm=some (.list (av G.fm))
 rm:H a.rm=some (.list (av G.rm))
 oA:H a.oA=some (.list ((List.range 8).map λd=>.ref (a.mR d)))
 mR:∀d r,G.eM[d]?=some r->H (a.mR d)=some (.list (av r))
 cz:H a.cz=some (.list (av G.cz))
 a8:H a.a8=some (.list (av G.a8))
 fJ:H a.fJ=some (.list ((List.range 2).map λd=>.ref (a.pn d)))
 pn:∀c r,[G.pw,G.pb][c]?=some r->H (a.pn c)=some (.list (av r))
 gM:H a.gM=some (.list (G.bt.map vj))
 cP:H a.cP=some (.list (av G.cP))
structure ZW (H:Hp) (a:Ad) (G:aE):Prop where
 z:H a.z=some (.inst 0 a.zd)
 zd:H a.zd=some (.dict [(0,.ref a.zp),(1,.ref a.ze),(2,.ref a.zr),(3,nv (yZ G.size G.aa))])
 zp:H a.zp=some (.list ((List.range 15).map λm=>.ref (a.row m)))
 row:∀m,m<15->H (a.row m)=some (.list (av (vh G.size m)))
 ze:H a.ze=some (.list (av (Bn G.size G.aa)))
 zr:H a.zr=some (.list (av (Bm G.size)))
structure PW (H:Hp) (a:Ad) (R:Rw):Prop where
 p:H a.p=some (.inst 2 a.dx)
 dx:H a.dx=some (.dict [(18,.ref a.g),(19,.ref a.z),(20,.ref a.bd),(21,.ref a.kd),(22,.ref a.sd),(3,nv R.af),(2,nv R.ab),(1,.int R.ep),(23,.int R.fK),(7,.int R.full),(24,nv R.key),(25,.ref a.hs)])
 bd:H a.bd=some (.list (av R.ae))
 kd:H a.kd=some (.list (av R.bF))
 sd:H a.sd=some (.list (av R.bX))
 hs:H a.hs=some (.list R.cA)
structure W (H:Hp) (a:Ad) (G:aE) (R:Rw):Prop where
 P:PW H a R
 T:GW H a G
 Z:ZW H a G
theorem W.mono {H H':Hp} {a:Ad} {G:aE} {R:Rw} (w:W H a G R) (s:H.Sub H'):W H' a G R:=
 ⟨⟨s _ _ w.P.p,s _ _ w.P.dx,s _ _ w.P.bd,s _ _ w.P.kd,s _ _ w.P.sd,s _ _ w.P.hs⟩,
  ⟨s _ _ w.T.g,s _ _ w.T.gd,s _ _ w.T.fm,s _ _ w.T.rm,s _ _ w.T.oA,λd r h=>s _ _ (w.T.mR d r h),s _ _ w.T.cz,s _ _ w.T.a8,s _ _ w.T.fJ,λc r h=>s _ _ (w.T.pn c r h),s _ _ w.T.gM,s _ _ w.T.cP⟩,
  ⟨s _ _ w.Z.z,s _ _ w.Z.zd,s _ _ w.Z.zp,λm h=>s _ _ (w.Z.row m h),s _ _ w.Z.ze,s _ _ w.Z.zr⟩⟩
theorem Hp.Sub.refl (H:Hp):H.Sub H:=λ_ _ h=>h
theorem Hp.Sub.trans {A B C:Hp} (h:A.Sub B) (k:B.Sub C):A.Sub C:=λa o e=>k a o (h a o e)
theorem Hp.ai (H:Hp) (a:Addr) (o:Ob):(H.upd a o) a=some o:=Qk rfl
theorem Hp.ay {H:Hp} {a b:Addr} {o:Ob} (h:b≠a):(H.upd a o) b=H b:=Qb h
theorem Hp.ax {H:Hp} {a:Addr} {o:Ob} (h:H a=none):H.Sub (H.upd a o):=λb p e=>by
 have:b≠a:=λq=>by rw [q,h] at e;cases e
 rw [Hp.ay this];exact e
theorem Hp.eH (H:Hp) (a:Addr) (o o':Ob):(H.upd a o).upd a o'=H.upd a o':=by
 funext b;unfold Hp.upd;split<;>rfl
theorem Hp.dN {H:Hp} {a b:Addr} {o:Ob} (h:H a=some o) (k:H b=none):a≠b:=λe=>by rw [e,k] at h;cases h
@[irreducible] noncomputable def Call (d:Nat):Sg:=gq code d
@[irreducible] def dq (Q:V->Hp->Prop):Fl->Lc->Hp->Prop:=λfl _ H'=>match iH fl with
 | some v=>∃H'':Hp,H''.Sub H'/\Q v H''
 | none=>False
section
variable {Γ:Sg} {O:Lc} {H:Hp} {Q:Fl->Lc->Hp->Prop} {q:V->Hp->Prop}
theorem aq {d f:Nat} {g:Str} {ns:List Str} {np:Nat} {b:S} {args:List V} (hF:code f=some ⟨g,ns,np,b⟩) (hn:args.length=np) (h:aO (Call d) b (args.map some++List.replicate (ns.length-np) none) H (dq q)):Call (d+1) f args H q:=by
 unfold Call dq at h;unfold Call
 show (match code f with | none=>False | some F=>args.length=F.np/\aO (gq code d) F.body (args.map some++List.replicate (F.names.length-F.np) none) H λfl _ H'=>match iH fl with
       | some v=>∃H'':Hp,H''.Sub H'/\q v H''
       | none=>False)
 rw [hF];exact ⟨hn,h⟩
theorem aj {v:V} (h:q v H):dq q (.ret v) O H:=by unfold dq;exact ⟨H,Hp.Sub.refl H,h⟩
theorem gz {v:V} (H':Hp) (s:H'.Sub H) (h:q v H'):dq q (.ret v) O H:=by unfold dq;exact ⟨H',s,h⟩
theorem dt (H':Hp) (s:H'.Sub H) (h:q .none H'):dq q .next O H:=by unfold dq;exact ⟨H',s,h⟩
theorem fN (h:q .none H):dq q .next O H:=by unfold dq;exact ⟨H,Hp.Sub.refl H,h⟩
theorem aQ {A:Prop} (h:A):jo .none A:=by unfold jo;exact h
theorem wY {A:Prop} {i:Int} (h:A):jo (.int i) A:=by unfold jo;exact h
theorem mP {is:List Nat} {vs:List V} {P:Lc->Prop} {ρ':Lc} (hs:kj O is vs=some ρ') (h:P ρ'):tupK O is (.tup vs) P:=by unfold tupK;simp only [hs];exact h
theorem fD {v:V} {a b:S} {Kt:Fl->Lc->Hp->Prop} (P:Lc->Hp->Prop) (hJ:∀ρ' H',P ρ' H'->Kt .next ρ' H')
 (h:∀K',(∀ρ' H',P ρ' H'->K' Fl.next ρ' H')->(∀v ρ' H',Kt (.ret v) ρ' H'->K' (.ret v) ρ' H')->cF v (aO Γ a O H K') (aO Γ b O H K')):cF v (aO Γ a O H Kt) (aO Γ b O H Kt):=h Kt hJ λ_ _ _ h=>h
theorem uH {v:V} {a b:S} {Kt:Fl->Lc->Hp->Prop} (i:Nat) (z:V) (hJ:Kt .next (cV O i z) H)
 (h:∀K',K' Fl.next (cV O i z) H->cF v (aO Γ a O H K') (aO Γ b O H K')):cF v (aO Γ a O H Kt) (aO Γ b O H Kt):=h Kt hJ
theorem set_same:∀{O:Lc} {i:Nat} {v:V},getL O i=some v->cV O i v=O
 | [],_,_,h=>by cases h
 | x::r,0,v,h=>by
  have:x=some v:=h;rw [this];rfl
 | x::r,i+1,v,h=>congrArg (x::·) (set_same (O:=r) (i:=i) h)
theorem gK {K':Fl->Lc->Hp->Prop} {i:Nat} {z z':V} (j:K' Fl.next (cV O i z) H) (e:z'=z):K' Fl.next (cV O i z') H:=e ▸ j
theorem eG {K':Fl->Lc->Hp->Prop} {i:Nat} {z z':V} (j:K' Fl.next (cV O i z) H) (hg:getL O i=some z') (e:z'=z):K' Fl.next O H:=by
 have:=set_same hg;subst e;rw [this] at j;exact j
theorem AN {body:Lc->Hp->(Fl->Lc->Hp->Prop)->Prop} {i:Nat} {chk:Hp->Prop} (I:Nat->Lc->Hp->Prop):∀{vs:List V} {k:Nat} {O:Lc} {H:Hp},
 (∀j x O H K,vs[j]?=some x->I (k+j) O H->(∀ρ' H',I (k+j+1) ρ' H'->K Fl.next ρ' H')->(∀v ρ' H',Q (.ret v) ρ' H'->K (.ret v) ρ' H')->(∀ρ' H',Q .next ρ' H'->K .brk ρ' H')->chk H/\body (cV O i x) H K)->
 (∀O H,I (k+vs.length) O H->chk H/\Q .next O H)->I k O H->fo body i chk vs O H Q
 | [],k,O,H,_,fin,h0=>fin O H h0
 | x::r,k,O,H,step,fin,h0=>by
  have hh:∀ρ' H',I (k+1) ρ' H'->fo body i chk r ρ' H' Q:=λρ' H' h=>
   AN I (k:=k+1) (λj x O H K hx hI a b c=>step (j+1) x O H K hx (by rw [<- RN,Tc];exact hI) (by rw [<- RN,Tc k j 1];exact a) b c) (λO H h=>fin O H (by rw [List.length_cons,SG r.length 1,<- RN];exact h)) h
  exact step 0 x O H _ rfl h0 hh (λ_ _ _ h=>h) λ_ _ h=>h
theorem rx {a b:Nat}:aP a b 1=(List.range (b-a)).map λk=>nv (a+k):=by
 have:cq a b 1=b-a:=by unfold cq Builtin.Range.rangeSize;rw [Qk (by decide)];split<;>lia
 unfold aP;rw [this];refine Q1 λk _=>?_;show V.int ((a:Int)+(k:Int)*1)=V.int ((a+k:Nat):Int);congr 1;lia
theorem uk {n:Nat}:aP 0 (n:Int) 1=(List.range n).map nv:=by
 have:=rx (a:=0) (b:=n);rw [show ((0:Nat):Int)=0 from rfl,Nat.sub_zero] at this
 rw [this];exact Q1 λk _=>by rw [Rx]
theorem vU {n:Nat}:aP ((n:Int) -1) (-1) (-1)=(List.range n).map λk=>nv (n-1-k):=by
 have:cq ((n:Int) -1) (-1) (-1)=n:=by unfold cq Builtin.Range.rangeSize;rw [Qb (by decide),Int.neg_neg,Int.ediv_one];split<;>lia
 unfold aP;rw [this];refine Q1 λk hk=>?_;have:=Sh.mp hk;show V.int ((n:Int) -1+(k:Int)*(-1))=V.int ((n-1-k:Nat):Int);congr 1;lia
section
variable {body:Lc->Hp->(Fl->Lc->Hp->Prop)->Prop}
theorem forL {i:Nat} {x:Addr} {vs:List V} (h1:H x=some (.list vs)) (I:Nat->Lc->Hp->Prop)
 (step:∀j v O H K,vs[j]?=some v->I j O H->(∀ρ' H',I (j+1) ρ' H'->K Fl.next ρ' H')->(∀v ρ' H',Q (.ret v) ρ' H'->K (.ret v) ρ' H')->(∀ρ' H',Q .next ρ' H'->K .brk ρ' H')->H x=some (.list vs)/\body (cV O i v) H K)
 (fin:∀O H,I vs.length O H->H x=some (.list vs)/\Q .next O H) (h0:I 0 O H):fj body i (.ref x) O H Q:=by
 unfold fj;show (match H x with | some (.list vs)=>fo body i (λH=>H x=some (.list vs)) vs O H Q | _=>False);rw [h1];exact AN I (k:=0) (λj v O H K hx hI=>by rw [Rx] at hI ⊢;exact step j v O H K hx hI) (λO H h=>by rw [Rx] at h;exact fin O H h) h0
theorem G1 {i:Nat} {vs:List V} (I:Nat->Lc->Hp->Prop)
 (step:∀j v O H K,vs[j]?=some v->I j O H->(∀ρ' H',I (j+1) ρ' H'->K Fl.next ρ' H')->(∀v ρ' H',Q (.ret v) ρ' H'->K (.ret v) ρ' H')->(∀ρ' H',Q .next ρ' H'->K .brk ρ' H')->body (cV O i v) H K)
 (fin:∀O H,I vs.length O H->Q .next O H) (h0:I 0 O H):fj body i (.tup vs) O H Q:=by
 unfold fj;exact AN I (k:=0) (λj v O H K hx hI a b c=>⟨trivial,by rw [Rx] at hI a;exact step j v O H K hx hI a b c⟩) (λO H h=>⟨trivial,by rw [Rx] at h;exact fin O H h⟩) h0
theorem D6 {i n:Nat} {x y z:Int} {f:Nat->Nat} (he:aP x y z=(List.range n).map λk=>nv (f k)) (I:Nat->Lc->Hp->Prop)
 (step:∀j O H K,j<n->I j O H->(∀ρ' H',I (j+1) ρ' H'->K Fl.next ρ' H')->(∀v ρ' H',Q (.ret v) ρ' H'->K (.ret v) ρ' H')->(∀ρ' H',Q .next ρ' H'->K .brk ρ' H')->body (cV O i (nv (f j))) H K)
 (fin:∀O H,I n O H->Q .next O H) (h0:I 0 O H):fj body i (.f7 x y z) O H Q:=by
 unfold fj;show fo body i (λ_=>True) (aP x y z) O H Q;rw [he];refine AN I (k:=0) (λj v O H K hx hI a b c=>⟨trivial,?_⟩) (λO H h=>⟨trivial,?_⟩) h0
 ·rw [Rx] at hI a;rw [QK] at hx
  have hj:j<n:=by
   rcases Qw j n with q | q
   ·exact q
   ·rw [Rf (by rw [Sr];exact q)] at hx;cases hx
  rw [RE hj] at hx;cases hx;exact step j O H K hj hI a b c
 ·rw [Rx,Qd,Sr] at h;exact fin O H h
theorem forR {i n:Nat} (I:Nat->Lc->Hp->Prop)
 (step:∀j O H K,j<n->I j O H->(∀ρ' H',I (j+1) ρ' H'->K Fl.next ρ' H')->(∀v ρ' H',Q (.ret v) ρ' H'->K (.ret v) ρ' H')->(∀ρ' H',Q .next ρ' H'->K .brk ρ' H')->body (cV O i (nv j)) H K)
 (fin:∀O H,I n O H->Q .next O H) (h0:I 0 O H):fj body i (.f7 0 n 1) O H Q:=D6 (f:=λk=>k) uk I step fin h0
theorem lq {test:Lc->Hp->(V->Hp->Prop)->Prop} (I:Nat->Lc->Hp->Prop) (n:Nat) (h0:I n O H)
 (step:∀n O H K (X:Lc->Hp->Prop),I n O H->(∀m ρ' H',m<n->I m ρ' H'->K Fl.next ρ' H')->(∀v ρ' H',Q (.ret v) ρ' H'->K (.ret v) ρ' H')->(∀ρ' H',Q .next ρ' H'->K .brk ρ' H')->(∀ρ' H',Q .next ρ' H'->X ρ' H')->
  test O H λv H=>cF v (body O H K) (X O H)):∃n,dM test body n O H Q:=by
 refine ⟨n+1,?_⟩
 have key:∀(f:Nat) (n:Nat) (O:Lc) (H:Hp),n<f->I n O H->dM test body f O H Q:=by
  intro f
  induction f with
  | zero=>intro _ _ _ h;exact absurd h (Rc _)
  | succ f ih=>
   intro n O H hn hI
   have:=step n O H (λfl O H=>match fl with
    | .next=>dM test body f O H Q
    | .brk=>Q .next O H
    | .ret v=>Q (.ret v) O H) (λO H=>Q .next O H) hI (λm ρ' H' hm h=>ih m ρ' H' (P7 hm (QH hn)) h) (λ_ _ _ h=>h) (λ_ _ h=>h) λ_ _ h=>h
   unfold cF at this;exact this
 exact key (n+1) n O H (Qu n) h0
end
theorem o9 {A B:Prop} (h:A):cF (.bool true) A B:=by unfold cF;exact h
theorem gE {A B:Prop} (h:B):cF (.bool false) A B:=by unfold cF;exact h
theorem dh {b:Bool} {A B:Prop} (h:b=true->A) (k:b=false->B):cF (.bool b) A B:=by
 cases b
 ·exact gE (k rfl)
 ·exact o9 (h rfl)
theorem ag {p:Prop} [Decidable p] {A B:Prop} (h:p->A) (k:¬p->B):cF (.bool (decide p)) A B:=
 dh (λe=>h (Qe e)) λe=>k (of_decide_eq_false e)
theorem dI {n:Nat} {A B:Prop} (h:n≠0->A) (k:n=0->B):cF (nv n) A B:=by
 unfold cF;cases n with
 | zero=>exact k rfl
 | succ m=>exact h (Nat.succ_ne_zero m)
theorem BC {p:Prop} [Decidable p] (h:q (.bool (decide (¬p))) H):jh (.bool (decide p)) H q:=by
 unfold jh;by_cases e:p
 ·simp only [truthy,Qq e];rw [decide_eq_false (λk=>k e)] at h;exact h
 ·simp only [truthy,decide_eq_false e];rw [Qq e] at h;exact h
theorem lU {b:Bool} (h:q (.bool (!b)) H):jh (.bool b) H q:=by unfold jh;exact h
theorem Ge {n:Nat} (h:q (.bool (decide (n=0))) H):jh (nv n) H q:=by
 unfold jh;cases n<;>exact h
theorem eP {i:Int} (h:q (.int (-i)) H):oT (.int i) H q:=by unfold oT;exact h
theorem jj {i:Int} (h:q (.int (Builtin.bitNot i)) H):xl (.int i) H q:=by unfold xl;exact h
theorem eq_int {x y:Int}:PyData.eqv (.int x) (.int y)=decide (x=y):=by rw [PyData.eqv];exact QR.mpr (by rw [Ru,Qh])
theorem t6 {x y:Int} (h:q (.bool (decide (x=y))) H):bM .eq (.int x) (.int y) H q:=.mk ⟨.flat (.int x),.flat (.int y),by rw [eq_int];exact h⟩
theorem qE {x y:Int} (h:q (.bool (decide (x≠y))) H):bM .ne (.int x) (.int y) H q:=.mk ⟨.flat (.int x),.flat (.int y),by rw [eq_int,<- decide_not];exact h⟩
theorem nU {x y:Int} (h:q (.bool (decide (x<y))) H):bM .lt (.int x) (.int y) H q:=.mk (.mk h)
theorem xW {x y:Int} (h:q (.bool (decide (y<x))) H):bM .gt (.int x) (.int y) H q:=.mk (.mk h)
theorem ku {x y:Int} (h:q (.bool (decide (y<=x))) H):bM .ge (.int x) (.int y) H q:=.mk (.mk h)
theorem dz {p p':Prop} [Decidable p] [Decidable p'] (h:p↔p'):decide p=decide p':=by rw [QR,Qh,Qh];exact h
theorem aR {x y:Nat} (h:q (.bool (decide (x=y))) H):bM .eq (nv x) (nv y) H q:=t6 (by rw [dz (show (x:Int)=y↔x=y by exact Int.ofNat_inj)];exact h)
theorem eD {x y:Nat} (h:q (.bool (decide (x≠y))) H):bM .ne (nv x) (nv y) H q:=qE (by rw [dz (show (x:Int)≠y↔x≠y by lia)];exact h)
theorem rZ {x y:Nat} (h:q (.bool (decide (x<y))) H):bM .lt (nv x) (nv y) H q:=nU (by rw [dz (show (x:Int)<y↔x<y by exact QT)];exact h)
theorem pE {x y:Nat} (h:q (.bool (decide (y<x))) H):bM .gt (nv x) (nv y) H q:=xW (by rw [dz (show (y:Int)<x↔y<x by exact QT)];exact h)
theorem Ho {x y:Nat} (h:q (.bool (decide (y<=x))) H):bM .ge (nv x) (nv y) H q:=ku (by rw [dz (show (y:Int)<=x↔y<=x by exact QT)];exact h)
theorem Hn {v:V} (h:q (.bool (isNone v)) H):bM .is v .none H q:=.mk (.mk h)
theorem tZ {v:V} (h:q (.bool (!isNone v)) H):bM .isnot v .none H q:=.mk (.mk h)
section
variable {x y:Nat}
theorem p_add (h:q (nv (x+y)) H):ar .add (nv x) (nv y) H q:=by
 refine eX.int ?_;show q (.int ((x:Int)+(y:Int))) H;rw [<- T7];exact h
theorem cH (hle:y<=x) (h:q (nv (x-y)) H):ar .sub (nv x) (nv y) H q:=by
 refine eX.int ?_;show q (.int ((x:Int) - (y:Int))) H;rw [<- Int.natCast_sub hle];exact h
theorem dc {x y:Int} (h:q (.int (x-y)) H):ar .sub (.int x) (.int y) H q:=eX.int h
theorem g5 {x y:Int} (h:q (.int (x+y)) H):ar .add (.int x) (.int y) H q:=eX.int h
theorem bT (hx:x<2^64) (h:q (nv (x*y)) H):ar .mul (nv x) (nv y) H q:=by
 refine eX.int ?_;refine ⟨by rw [TG];exact hx,?_⟩;show q (.int ((x:Int)*(y:Int))) H;rw [<- Int.natCast_mul];exact h
theorem wy {x y:Int} (hx:x.natAbs<2^64) (h:q (.int (x*y)) H):ar .mul (.int x) (.int y) H q:=by
 exact eX.int ⟨hx,h⟩
theorem dd (h0:y≠0) (h1:y<1073741824) (h:q (nv (x / y)) H):ar .fdiv (nv x) (nv y) H q:=by
 refine eX.int ?_;refine ⟨⟨by exact pz ‹_›,by rw [TG];exact h1⟩,?_⟩;show q (.int ((x:Int).fdiv (y:Int))) H;rw [Int.fdiv_eq_ediv_of_nonneg _ (Qy y),<- Int.natCast_ediv];exact h
theorem dX (h0:y≠0) (h:q (nv (x%y)) H):ar .mod (nv x) (nv y) H q:=by
 refine eX.int ?_;refine ⟨by exact pz ‹_›,?_⟩;show q (.int ((x:Int).fmod (y:Int))) H;rw [Int.fmod_eq_emod_of_nonneg _ (Qy y),<- Int.natCast_emod];exact h
theorem jM {x:Int} (h0:y≠0) (hx:0<=x) (h:q (nv (x.toNat%y)) H):ar .mod (.int x) (nv y) H q:=by
 refine bJ (RP hx) ?_;rintro n rfl;exact dX h0 h
theorem gY (h0:y<=100000) (h1:x<2^64) (h:q (nv (x <<< y)) H):ar .shl (nv x) (nv y) H q:=by
 refine eX.int ?_;refine ⟨⟨Qy y,by exact QT.mpr ‹_›,by rw [TG];exact h1⟩,?_⟩;show q (.int ((x:Int)*2^((y:Int).toNat))) H;rw [Int.toNat_natCast,show (x:Int)*2^y=((x <<< y:Nat):Int) by rw [RL];push_cast;rfl];exact h
theorem cb (h0:y<=100000) (h:q (nv (2^y)) H):ar .shl (.int 1) (nv y) H q:=gY (x:=1) h0 (by decide) (by rw [RL,Nat.one_mul];exact h)
theorem cR (h:q (nv (x >>> y)) H):ar .shr (nv x) (nv y) H q:=by
 refine eX.int ?_;refine ⟨Qy y,?_⟩;show q (.int ((x:Int).fdiv (2^((y:Int).toNat)))) H;rw [Int.toNat_natCast,Int.fdiv_eq_ediv_of_nonneg _ (by exact Int.pow_nonneg (by decide)),show (2:Int)^y=((2^y:Nat):Int) by push_cast;rfl,<- Int.natCast_ediv,<- Qx];exact h
theorem aS (h:q (nv (x &&& y)) H):ar .and (nv x) (nv y) H q:=by refine eX.int ?_;show q (.int (Builtin.bitAnd x y)) H;rw [k9];exact h
theorem cW (h:q (nv (x ||| y)) H):ar .or (nv x) (nv y) H q:=by refine eX.int ?_;show q (.int (Builtin.bitOr x y)) H;rw [wA];exact h
theorem bS (h:q (nv (x ^^^ y)) H):ar .xor (nv x) (nv y) H q:=by refine eX.int ?_;show q (.int (Builtin.bitXor x y)) H;rw [zg];exact h
theorem gZ (h:q (nv (ez x y)) H):ar .and (nv x) (.int (Builtin.bitNot y)) H q:=by refine eX.int ?_;show q (.int (Builtin.bitAnd x (Builtin.bitNot y))) H;rw [qL];exact h
theorem FU (h:q (nv (ez x (x-1))) H):ar .and (nv x) (.int (-(x:Int))) H q:=by refine eX.int ?_;show q (.int (Builtin.bitAnd x (-(x:Int)))) H;rw [Ap];exact h
theorem dy {c:Nat} (hc:c<2) (h:q (nv (1-c)) H):ar .sub (.int 1) (nv c) H q:=cH (x:=1) (QH hc) h
end
theorem bG {op:gJ} {x y:Int} {P:V->Prop} (h:ar op (.int x) (.int y) (λ_=>none) λv _=>P v):kK op (.int x) (.int y) P:=by
 cases h with
 | int h=>exact .mk h
theorem at_ {x dx:Addr} {c:Nat} {fs:List (Nat×V)} {n:Nat} {v:V} (h1:H x=some (.inst c dx)) (h2:H dx=some (.dict fs)) (h3:fe n fs=some v) (h:q v H):dP (.ref x) n H q:=yR.mk h1 h2 h3 h
theorem iD {x:Addr} {vs:List V} {i:Nat} {v:V} (h1:H x=some (.list vs)) (h2:vs[i]?=some v) (h:q v H):aN (.ref x) (nv i) H q:=qM.ref h1 (Qy i) h2 h
theorem dU {vs:List V} {i:Nat} {v:V} (h2:vs[i]?=some v) (h:q v H):aN (.tup vs) (nv i) H q:=qM.tup (Qy i) h2 h
theorem aU {x:Addr} {l:List Nat} {i:Nat} (h1:H x=some (.list (av l))) (h2:i<l.length) (h:q (nv (l.getD i 0)) H):aN (.ref x) (nv i) H q:=by
 refine iD h1 (v:=nv (l.getD i 0)) ?_ h;rw [QK,Qg h2,P9,Qg h2];rfl
theorem Bs {x:Addr} {vs:List V} {i:Nat} {v:V} {P:Hp->Prop} (h1:H x=some (.list vs)) (h2:i<vs.length) (h:P (H.upd x (.list (vs.set i v)))):bV (.ref x) (nv i) v H P:=yP.mk h1 (Qy i) h2 h
theorem pW {x:Addr} {l:List Nat} {i n:Nat} {P:Hp->Prop} (h1:H x=some (.list (av l))) (h2:i<l.length) (h:P (H.upd x (.list (av (l.set i n))))):bV (.ref x) (nv i) (nv n) H P:=by
 refine Bs h1 (by rw [Qd];exact h2) ?_;rw [av,List.map_set] at h;exact h
theorem pX {x dx:Addr} {c:Nat} {fs:List (Nat×V)} {n:Nat} {v:V} {P:Hp->Prop} (h1:H x=some (.inst c dx)) (h2:H dx=some (.dict fs)) (h3:fs.length<=100) (h:P (H.upd dx (.dict (gB n v fs)))):bj (.ref x) n v H P:=yQ.mk h1 h2 h3 h
theorem qK {x:Addr} {vs:List V} {v:V} (h1:H x=some (.list vs)) (h2:vs.length<lim) (h:q .none (H.upd x (.list (vs++ [v])))):dD (.ref x) v H q:=ET.mk h1 h2 h
theorem gO {x:Addr} {vs:List V} (h1:H x=some (.list vs)):DV (.ref x) H:=IsL.mk h1
theorem l9 {x:Addr} {vs:List V} (h1:H x=some (.list vs)) (h:q (nv vs.length) H):b8 .len [.ref x] H q:=mF.len h1 h
theorem new_ {vs:List V} (h0:vs.length<=lim) (h:∀a,H a=none->q (.ref a) (H.upd a (.list vs))):da vs H q:=⟨h0,h⟩
theorem fM {n:Nat} (hn:n<=1000000) (h:q (.f7 0 n 1) H):b8 .range [nv n] H q:=mF.CD ⟨by exact Qy _,by exact QT.mpr ‹_›⟩ h
end
structure cu (G:aE):Prop where
 f0:2<=G.aa
 r0:3<=G.bE
 i3:G.size<=25
 Pu:G.fm.length=G.aa
 OO:G.rm.length=G.bE
 IZ:G.eM.length=8
 ry:∀d,d<8->(G.eM.getD d []).length=G.size
 kl:G.cz.length=G.size
 nl:G.a8.length=G.size
 OT:G.pw.length=G.size
 O3:G.pb.length=G.size
 cl:G.bt.length=4
 ll:G.cP.length=G.size
 lb:∀s,s<G.size->G.cP.getD s 0<16
 rb:∀d s,(G.eM.getD d []).getD s 0<2^G.size
 cw:∀i kf kt rf rt,G.bt.getD i none=some (kf,kt,rf,rt)->kf<G.size/\kt<G.size/\rf<G.size/\rt<G.size/\kf≠rf
structure dR (G:aE) (R:Rw):Prop where
 bl:R.ae.length=G.size
 bm:∀i,i<G.size->R.ae.getD i 0<15
 kl:R.bF.length=7
 sl:R.bX.length=2
 c2:R.af<2
 je:R.ab<16
 e0:-1<=R.ep
 e1:R.ep<G.size
 ef:0<=R.ep->(G.aa:Int)<=R.ep/\R.ep+G.aa<G.size
 kb:∀k,R.bF.getD k 0<2^G.size
 sb:∀c,R.bX.getD c 0<2^G.size
noncomputable abbrev Sd (R:Rw) (c:Nat):Nat:=R.bX.getD c 0
noncomputable abbrev K (R:Rw) (k:Nat):Nat:=R.bF.getD k 0
noncomputable abbrev aW (G:aE) (d s:Nat):Nat:=(G.eM.getD d []).getD s 0
noncomputable abbrev ct (G:aE) (c s:Nat):Nat:=([G.pw,G.pb].getD c []).getD s 0
section
variable {H:Hp} {a:Ad} {G:aE} {R:Rw} {q:V->Hp->Prop}
theorem aI (w:W H a G R) {n:Nat} {v:V} (e:fe n [(18,V.ref a.g),(19,.ref a.z),(20,.ref a.bd),(21,.ref a.kd),(22,.ref a.sd),(3,nv R.af),(2,nv R.ab),(1,.int R.ep),(23,.int R.fK),(7,.int R.full),(24,nv R.key),(25,.ref a.hs)]=some v) (h:q v H):dP (.ref a.p) n H q:=at_ w.P.p w.P.dx e h
theorem la (w:W H a G R) {n:Nat} {v:V} (e:fe n [(0,V.ref a.zp),(1,.ref a.ze),(2,.ref a.zr),(3,nv (yZ G.size G.aa))]=some v) (h:q v H):dP (.ref a.z) n H q:=at_ w.Z.z w.Z.zd e h
theorem eT (w:W H a G R) {n:Nat} {v:V} (e:fe n [(4,nv G.aa),(5,nv G.bE),(6,nv G.size),(7,nv G.full),(8,.bool G.dbl),(9,.bool G.gM),(10,.ref a.fm),(11,.ref a.rm),(12,.ref a.oA),(13,.ref a.cz),(14,.ref a.a8),(15,.ref a.fJ),(16,.ref a.gM),(17,.ref a.cP)]=some v) (h:q v H):dP (.ref a.g) n H q:=at_ w.T.g w.T.gd e h
theorem vy (w:W H a G R) {r:Nat} (hr:r<16) (h:q (nv (r <<< (15*G.size))) H):aN (.ref a.zr) (nv r) H q:=iD w.Z.zr (by simp only [Bm,QK,RE hr,Rm]) h
theorem vz (w:W H a G R) {f:Nat} (hf:f<G.aa) (h:q (nv (2^(15*G.size+4+f))) H):aN (.ref a.ze) (nv f) H q:=iD w.Z.ze (by simp only [Bn,QK,RE hf,Rm]) h
theorem lA (w:W H a G R) {m:Nat} (hm:m<15) (h:q (.ref (a.row m)) H):aN (.ref a.zp) (nv m) H q:=iD w.Z.zp (by simp only [QK,RE hm,Rm]) h
theorem gh (w:W H a G R) {m s:Nat} (hm:m<15) (hs:s<G.size) (h:q (nv (2^(m*G.size+s))) H):aN (.ref (a.row m)) (nv s) H q:=iD (w.Z.row m hm) (by simp only [vh,QK,RE hs,Rm]) h
theorem Jx (w:W H a G R) (o:dR G R) {i:Nat} (hi:i<G.size) (h:q (nv (R.ae.getD i 0)) H):aN (.ref a.bd) (nv i) H q:=aU w.P.bd (by rw [o.bl];exact hi) h
theorem om (w:W H a G R) (o:dR G R) {i:Nat} (hi:i<7) (h:q (nv (K R i)) H):aN (.ref a.kd) (nv i) H q:=aU w.P.kd (by rw [o.kl];exact hi) h
theorem eU (w:W H a G R) (o:dR G R) {i:Nat} (hi:i<2) (h:q (nv (Sd R i)) H):aN (.ref a.sd) (nv i) H q:=aU w.P.sd (by rw [o.sl];exact hi) h
theorem nq (w:W H a G R) {d:Nat} (hd:d<8) (h:q (.ref (a.mR d)) H):aN (.ref a.oA) (nv d) H q:=iD w.T.oA (by simp only [QK,RE hd,Rm]) h
theorem nu (w:W H a G R) (g:cu G) {d s:Nat} (hd:d<8) (hs:s<G.size) (h:q (nv (aW G d s)) H):aN (.ref (a.mR d)) (nv s) H q:=by
 have e:G.eM[d]?=some (G.eM.getD d []):=by
  rw [P9,Qg (by rw [g.IZ];exact hd)];rfl
 exact aU (w.T.mR d _ e) (by rw [g.ry d hd];exact hs) h
theorem vB (w:W H a G R) (g:cu G) {s:Nat} (hs:s<G.size) (h:q (nv (G.cz.getD s 0)) H):aN (.ref a.cz) (nv s) H q:=aU w.T.cz (by rw [g.kl];exact hs) h
theorem pS (w:W H a G R) (g:cu G) {s:Nat} (hs:s<G.size) (h:q (nv (G.a8.getD s 0)) H):aN (.ref a.a8) (nv s) H q:=aU w.T.a8 (by rw [g.nl];exact hs) h
theorem oj (w:W H a G R) {c:Nat} (hc:c<2) (h:q (.ref (a.pn c)) H):aN (.ref a.fJ) (nv c) H q:=iD w.T.fJ (by simp only [QK,RE hc,Rm]) h
theorem zu (w:W H a G R) (g:cu G) {c s:Nat} (hc:c<2) (hs:s<G.size) (h:q (nv (ct G c s)) H):aN (.ref (a.pn c)) (nv s) H q:=by
 match c,hc with
 | 0,_=>exact aU (w.T.pn 0 G.pw rfl) (by rw [g.OT];exact hs) h
 | 1,_=>exact aU (w.T.pn 1 G.pb rfl) (by rw [g.O3];exact hs) h
theorem Fs (w:W H a G R) (g:cu G) {s:Nat} (hs:s<G.aa) (h:q (nv (G.fm.getD s 0)) H):aN (.ref a.fm) (nv s) H q:=aU w.T.fm (by rw [g.Pu];exact hs) h
theorem zt (w:W H a G R) (g:cu G) {s:Nat} (hs:s<G.bE) (h:q (nv (G.rm.getD s 0)) H):aN (.ref a.rm) (nv s) H q:=aU w.T.rm (by rw [g.OO];exact hs) h
theorem vA (w:W H a G R) (g:cu G) {s:Nat} (hs:s<G.size) (h:q (nv (G.cP.getD s 0)) H):aN (.ref a.cP) (nv s) H q:=aU w.T.cP (by rw [g.ll];exact hs) h
theorem vC (w:W H a G R) (g:cu G) {s:Nat} (hs:s<4) (h:q (vj (G.bt.getD s none)) H):aN (.ref a.gM) (nv s) H q:=
 iD w.T.gM (by rw [QK,P9,Qg (by rw [g.cl];exact hs)];rfl) h
end
section
variable {d x y:Nat} {H:Hp} {a:Ad} {G:aE} {R:Rw} {q:V->Hp->Prop}
theorem Jb (h:q (nv (x*8+y)) H) (hx:x<2^64):Call (d+1) 0 [nv x,nv y] H q:=by
 refine aq rfl rfl ?_;refine bT (y:=8) hx ?_;refine p_add ?_;refine aj ?_;exact h
theorem HX (h:q (nv (x / 8)) H):Call (d+1) 1 [nv x] H q:=by
 refine aq rfl rfl ?_;refine cR ?_;refine aj ?_;rw [Qx];exact h
theorem m7 (x:Nat):x &&& 7=x%8:=Rj x 3
theorem Mu (x:Nat):x &&& 63=x%64:=Rj x 6
theorem m3 (x:Nat):x &&& 3=x%4:=Rj x 2
theorem Er (h:q (nv (x%8)) H):Call (d+1) 2 [nv x] H q:=by
 refine aq rfl rfl ?_;refine aS ?_;refine aj ?_;show q (nv (x &&& 7)) H;rw [m7];exact h
theorem E9 (h:q (nv (x / 64%64)) H):Call (d+1) 4 [nv x] H q:=by
 refine aq rfl rfl ?_;refine cR ?_;refine aS ?_;refine aj ?_;show q (nv (x >>> 6 &&& 63)) H;rw [Mu,Qx];exact h
theorem BX (h:q (nv (x%64)) H):Call (d+1) 5 [nv x] H q:=by
 refine aq rfl rfl ?_;refine aS ?_;refine aj ?_;show q (nv (x &&& 63)) H;rw [Mu];exact h
theorem E8 (h:q (nv (x / 16384%4)) H):Call (d+1) 6 [nv x] H q:=by
 refine aq rfl rfl ?_;refine cR ?_;refine aS ?_;refine aj ?_;show q (nv (x >>> 14 &&& 3)) H;rw [m3,Qx];exact h
theorem MK (hx:x / 16384%4=1) (h:q (nv (x / 4096%4+2)) H):Call (d+1) 7 [nv x] H q:=by
 refine aq rfl rfl ?_;refine cR ?_;refine aS ?_;refine eD ?_;refine ag (λe=>absurd ((m3 _).trans (by rw [Qx];exact hx)) e) (λe=>?_);refine cR ?_;refine aS ?_;refine p_add ?_;refine aj ?_;show q (nv ((x >>> 12 &&& 3)+2)) H;rw [m3,Qx];exact h
noncomputable def pk (o t sp f:Nat):Nat:=t+64*o+4096*f+16384*sp
theorem O4 {o t sp f:Nat} (ho:o<64) (ht:t<64) (hf:f<4):((t ||| o <<< 6) ||| f <<< 12) ||| sp <<< 14=pk o t sp f:=by
 rw [RL,RL,RL];have e1:=Tz (i:=6) (b:=t) ht o;have e2:=Tz (i:=12) (b:=2^6*o+t) (by exact FV ‹_› ‹_›) f;have e3:=Tz (i:=14) (b:=2^12*f+(2^6*o+t)) (by lia) sp;rw [Nat.or_comm t,RT o,<- e1,Nat.or_comm _ (f*2^12),RT f,<- e2,Nat.or_comm _ (sp*2^14),RT sp,<- e3];unfold pk;lia
theorem BY {o t sp pr f:Nat} (ho:o<64) (ht:t<64) (hs:sp<4) (hf:f<4) (hp:sp=1->pr=f+2) (hn:sp≠1->f=0) (h:q (nv (pk o t sp f)) H):Call (d+1) 3 [nv o,nv t,nv sp,nv pr] H q:=by
 refine aq rfl rfl ?_;refine aR ?_;refine uH 4 (nv f) ?_ λK' j=>?_
 ·refine gY (y:=6) (by decide) (by exact P7 ‹_› (by decide)) ?_;refine cW ?_;refine gY (y:=12) (by decide) (by exact P7 ‹_› (by decide)) ?_;refine cW ?_;refine gY (y:=14) (by decide) (by exact P7 ‹_› (by decide)) ?_;refine cW ?_;refine aj ?_;rw [O4 ho ht hf];exact h
 ·refine ag (λe=>?_) (λe=>?_)
  ·refine cH (y:=2) (by rw [hp e];exact RI _ _) ?_;exact gK j (by rw [show pr-2=f by have:=hp e;lia])
  ·exact eG j rfl (by rw [hn e];rfl)
noncomputable def cX (G:aE) (R:Rw):Nat:=
 (R.ab <<< (15*G.size) ^^^ (if 0<=R.ep then 2^(15*G.size+4+R.ep.toNat%G.aa) else 0)) ^^^ (if R.af=1 then yZ G.size G.aa else 0)
theorem PG (w:W H a G R) (g:cu G) (o:dR G R) (h:q (nv (cX G R)) H):Call (d+1) 8 [.ref a.p] H q:=by
 have hf:G.aa≠0:=by have:=g.f0;exact Q5 ‹_›
 refine aq rfl rfl ?_;refine aI ‹_› rfl ?_;refine la ‹_› rfl ?_;refine aI ‹_› rfl ?_;refine vy w o.je ?_;refine aI ‹_› rfl ?_;refine ku ?_;refine uH 2 (nv (R.ab <<< (15*G.size) ^^^ (if 0<=R.ep then 2^(15*G.size+4+R.ep.toNat%G.aa) else 0))) ?_ λK' j=>?_
 ·refine aI ‹_› rfl ?_;refine aR ?_;refine uH 2 (nv (cX G R)) ?_ λK' j=>?_
  ·refine aj ?_;exact h
  ·refine ag (λe=>?_) (λe=>?_)
   ·refine la ‹_› rfl ?_;refine bG ?_;refine bS ?_;exact gK j (by unfold cX;rw [Qk e])
   ·exact eG j rfl (by unfold cX;rw [Qb e,RQ])
 ·refine ag (λe=>?_) (λe=>?_)
  ·refine la ‹_› rfl ?_;refine aI ‹_› rfl ?_;refine aI ‹_› rfl ?_;refine eT ‹_› rfl ?_;refine jM hf e ?_;refine vz w (SK _ (Qv hf)) ?_;refine bG ?_;refine bS ?_;exact gK j (by rw [Qk e])
  ·exact eG j rfl (by rw [Qb e,RQ])
noncomputable def xk (sz:Nat) (p:Nat->Bool) (b:List Nat):Nat->Nat
 | 0=>0
 | k+1=>if p (b.getD k 0) then xk sz p b k ^^^ 2^(b.getD k 0*sz+k) else xk sz p b k
theorem Cb {sz:Nat} {p:Nat->Prop} [DecidablePred p] {b:List Nat} {k:Nat} (e:p (b.getD k 0)):xk sz (λm=>decide (p m)) b k ^^^ 2^(b.getD k 0*sz+k)=xk sz (λm=>decide (p m)) b (k+1):=(Qk (Qq e)).symm
theorem zh {sz:Nat} {p:Nat->Prop} [DecidablePred p] {b:List Nat} {k:Nat} (e:¬p (b.getD k 0)):xk sz (λm=>decide (p m)) b k=xk sz (λm=>decide (p m)) b (k+1):=(Qb (λh=>e (Qe h))).symm
theorem jy {l:List Nat} {n k:Nat} {v:V} (hl:l.length=n) (hv:(av l)[k]?=some v):k<n/\v=nv (l.getD k 0):=by
 have hk:k<n:=by
  rcases Qw k n with q | q
  ·exact q
  ·rw [Rf (by rw [Qd,hl];exact q)] at hv;cases hv
 refine ⟨hk,?_⟩;rw [QK,Qg (by rw [hl];exact hk)] at hv;cases hv;rw [P9,Qg (by rw [hl];exact hk)];rfl
def Ee:Prop:=∀(w:W H a G R) (g:cu G) (o:dR G R) (h:q (nv (cX G R ^^^ xk G.size (λm=>decide (m≠0)) R.ae G.size)) H),Call (d+2) 9 [.ref a.p] H q
theorem MJ:@Ee d H a G R q:=au (S:=λx:(Nat×Hp×Ad×aE)×(Rw×(V->Hp->Prop))=>@Ee x.1.1 x.1.2.1 x.1.2.2.1 x.1.2.2.2 x.2.1 x.2.2) (x:=((0,λ_=>none,j0,bO),(fG,λ_ _=>True))) (by
 refine (?_:∀d H a G R q,@Ee d H a G R q) _ _ _ _ _ _;intro d H a G R q w g o h;refine aq rfl rfl ?_;refine aI ‹_› rfl ?_;refine la ‹_› rfl ?_;refine PG w g o ?_;refine aI ‹_› rfl ?_;refine forL w.P.bd (λk ρ' H'=>H'=H/\∃x,ρ'=[some (.ref a.p),some (.ref a.zp),some (nv (cX G R ^^^ xk G.size (λm=>decide (m≠0)) R.ae k)),some (nv k),x]) (λk v ρ' H' K hv hI hn _ _=>?_) (λρ' H' hI=>?_) ⟨rfl,none,by rw [xk,RQ];rfl⟩
 ·obtain ⟨rfl,x,rfl⟩:=hI;refine ⟨w.P.bd,?_⟩;refine aD (jy o.bl hv) ?_;rintro hk rfl;have hm:=o.bm k hk;refine eD ?_;refine uH 2 (nv (cX G R ^^^ xk G.size (λm=>decide (m≠0)) R.ae (k+1))) ?_ λK' j=>?_
  ·refine bG ?_;refine p_add ?_;exact hn _ _ ⟨rfl,_,rfl⟩
  ·refine ag (λe=>?_) (λe=>?_)
   ·refine lA ‹_› ‹_› ?_;refine gh ‹_› ‹_› ‹_› ?_;refine bG ?_;refine bS ?_;exact gK j (by rw [<- Cb e,<- Rp])
   ·exact eG j rfl (by rw [zh e])
 ·obtain ⟨rfl,x,rfl⟩:=hI;rw [Qd,o.bl];refine ⟨w.P.bd,?_⟩;refine aj ?_
  exact h) ((d,H,a,G),(R,q))
theorem LO (w:W H a G R) (o:dR G R) (h:q (nv (xk G.size (λm=>decide (m%8=1)) R.ae G.size)) H):Call (d+2) 10 [.ref a.p] H q:=by
 refine aq rfl rfl ?_;refine aI ‹_› rfl ?_;refine la ‹_› rfl ?_;refine aI ‹_› rfl ?_;refine forL w.P.bd (λk ρ' H'=>H'=H/\∃x,ρ'=[some (.ref a.p),some (.ref a.zp),some (nv (xk G.size (λm=>decide (m%8=1)) R.ae k)),some (nv k),x]) (λk v ρ' H' K hv hI hn _ _=>?_) (λρ' H' hI=>?_) ⟨rfl,none,rfl⟩
 ·obtain ⟨rfl,x,rfl⟩:=hI;refine ⟨w.P.bd,?_⟩;refine aD (jy o.bl hv) ?_;rintro hk rfl;have hm:=o.bm k hk;refine Er ?_;refine aR ?_;refine uH 2 (nv (xk G.size (λm=>decide (m%8=1)) R.ae (k+1))) ?_ λK' j=>?_
  ·refine bG ?_;refine p_add ?_;exact hn _ _ ⟨rfl,_,rfl⟩
  ·refine ag (λe=>?_) (λe=>?_)
   ·refine lA ‹_› ‹_› ?_;refine gh ‹_› ‹_› ‹_› ?_;refine bG ?_;refine bS ?_;exact gK j (by rw [<- Cb (p:=λm=>m%8=1) e])
   ·exact eG j rfl (by rw [zh (p:=λm=>m%8=1) e])
 ·obtain ⟨rfl,x,rfl⟩:=hI;rw [Qd,o.bl];refine ⟨w.P.bd,?_⟩;refine aj ?_;exact h
def yA:Prop:=∀(w:W H a G R) (o:dR G R) (h:q (nv (xk G.size (λm=>decide (1<m%8/\m / 8=x)) R.ae G.size)) H),Call (d+2) 11 [.ref a.p,nv x] H q
theorem LN:@yA d x H a G R q:=au (S:=λx:(Nat×Nat×Hp×Ad)×(aE×Rw×(V->Hp->Prop))=>@yA x.1.1 x.1.2.1 x.1.2.2.1 x.1.2.2.2 x.2.1 x.2.2.1 x.2.2.2) (x:=((0,0,λ_=>none,j0),(bO,fG,λ_ _=>True))) (by
 refine (?_:∀d x H a G R q,@yA d x H a G R q) _ _ _ _ _ _ _;intro d x H a G R q w o h;refine aq rfl rfl ?_;refine aI ‹_› rfl ?_;refine la ‹_› rfl ?_;refine aI ‹_› rfl ?_;refine forL w.P.bd (λk ρ' H'=>H'=H/\∃y,ρ'=[some (.ref a.p),some (nv x),some (.ref a.zp),some (nv (xk G.size (λm=>decide (1<m%8/\m / 8=x)) R.ae k)),some (nv k),y]) (λk v ρ' H' K hv hI hn _ _=>?_) (λρ' H' hI=>?_) ⟨rfl,none,rfl⟩
 ·obtain ⟨rfl,y,rfl⟩:=hI;refine ⟨w.P.bd,?_⟩;refine aD (jy o.bl hv) ?_;rintro hk rfl;have hm:=o.bm k hk;have fin:∀ρ',ρ'=[some (.ref a.p),some (nv x),some (.ref a.zp),some (nv (xk G.size (λm=>decide (1<m%8/\m / 8=x)) R.ae (k+1))),some (nv (k+1)),some (nv (R.ae.getD k 0))]->K Fl.next ρ' H':=λρ' e=>hn _ _ ⟨rfl,_,e⟩;refine Er ?_;refine pE ?_;refine ag (λe1=>?_) (λe1=>?_)
  ·refine HX ?_;refine aR ?_;refine ag (λe=>?_) (λe=>?_)
   ·refine lA ‹_› ‹_› ?_;refine gh ‹_› ‹_› ‹_› ?_;refine bG ?_;refine bS ?_;refine bG ?_;refine p_add ?_;exact fin _ (by rw [Cb (p:=λm=>1<m%8/\m / 8=x) ⟨e1,e⟩];rfl)
   ·refine bG ?_;refine p_add ?_;exact fin _ (by rw [<- zh (p:=λm=>1<m%8/\m / 8=x) (λc=>e c.2)];rfl)
  ·refine ag (λe=>absurd e e1) (λ_=>?_);refine bG ?_;refine p_add ?_;exact fin _ (by rw [<- zh (p:=λm=>1<m%8/\m / 8=x) (λc=>e1 c.1)];rfl)
 ·obtain ⟨rfl,y,rfl⟩:=hI;rw [Qd,o.bl];refine ⟨w.P.bd,?_⟩;refine aj ?_
  exact h) ((d,x,H,a),(G,R,q))
end
section
variable {d:Nat} {H:Hp} {q:V->Hp->Prop}
theorem HQ {b:Nat} (hb:b≠0) (h:q (.bool (decide (b &&& (b-1)≠0))) H):Call (d+1) 21 [nv b] H q:=by
 refine aq rfl rfl ?_;refine cH (y:=1) (by exact Qv ‹_›) ?_;refine aS ?_;refine eD ?_;refine aj ?_;exact h
theorem ox {x s:Nat} (hx:x≠0) (hs:s≠0):x >>> s<x:=by
 rw [Qx];exact Nat.div_lt_self (Qv hx) (Nat.one_lt_two_pow hs)
theorem Br {x s:Nat} (h:x<2^s):x >>> s=0:=by rw [Qx,TO h]
theorem nF {x s:Nat} (h:x >>> s=0):x<2^s:=by
 rw [Qx] at h;rcases Qw x (2^s) with q | q
 ·exact q
 ·have:=Nat.div_pos q (Ro s);lia
theorem LK {b:Nat} (hb:b≠0) (h64:b<2^64) (h:∀s,b >>> s=1->q (nv s) H):Call (d+1) 22 [nv b] H q:=by
 refine aq rfl rfl ?_;refine aR ?_;refine ag (λe=>absurd e hb) λ_=>?_;refine lq (λm ρ' H'=>H'=H/\∃k,ρ'=[some (nv b),some (nv (2^k)),none]/\m=b >>> 2^k) (b >>> 2^0) ⟨rfl,0,rfl,rfl⟩ λm ρ' H' K X hI hn _ _ hX=>?_;obtain ⟨rfl,k,rfl,rfl⟩:=hI;refine cR ?_;refine dI (λe=>?_) (λe=>?_)
 ·have hk:2^k<64:=by
   rcases Qw (2^k) 64 with q | q
   ·exact q
   ·exact absurd (Br (P7 h64 (RB (by decide) q))) e
  refine bG ?_;refine bT (y:=2) (by exact P7 ‹_› (by decide)) ?_;refine hn (b >>> 2^(k+1)) _ _ ?_ ⟨rfl,k+1,by rw [Tp];rfl,rfl⟩;rw [Tp,Nat.mul_two,TC];exact ox e (QL (Ro k))
 ·refine hX _ _ ?_;refine lq (λm ρ' H''=>H''=H'/\∃c sq,ρ'=[some (nv c),some (nv (2^m)),some (nv sq)]/\c=b >>> sq/\c≠0/\c<2^2^m) k ⟨rfl,b,0,rfl,rfl,hb,nF e⟩ λm ρ' H'' K X hI hn _ _ hX=>?_;obtain ⟨rfl,c,sq,rfl,hc,h0,hlt⟩:=hI;refine pE ?_;refine ag (λe=>?_) (λe=>?_)
  ·have hm:m≠0:=by rintro rfl;exact absurd e (by decide)
   refine bJ (Nat.exists_eq_succ_of_ne_zero hm) ?_;rintro n rfl;refine bG ?_;refine dd (y:=2) (by decide) (by decide) ?_;rw [Tp,Nat.mul_div_cancel _ (by decide)];refine cR ?_;refine dI (λe2=>?_) (λe2=>?_)
   ·refine bG ?_;refine cR ?_;refine bG ?_;refine p_add ?_;refine hn n _ _ (Qu n) ⟨rfl,c >>> 2^n,sq+2^n,rfl,by rw [hc,TC],e2,?_⟩;rw [Qx];refine RC ?_;rw [<- Nat.pow_add,<- Nat.mul_two,<- Tp];exact hlt
   ·exact hn n _ _ (Qu n) ⟨rfl,c,sq,rfl,hc,h0,nF e2⟩
  ·refine hX _ _ ?_;refine aj ?_
   have hm:m=0:=by
    rcases Tb m with q | q
    ·exact q
    ·exact absurd (Nat.one_lt_two_pow (QL q)) e
   subst hm;exact h sq (by rw [<- hc];have:c<2:=hlt;exact Jj ‹_› ‹_›)
theorem z6 {k s:Nat} (h:2^k >>> s=1):s=k:=by
 have:(2^k >>> s).testBit 0=true:=by rw [h];rfl
 rw [SD,Rq] at this;have:=Qe this;exact Eq.symm ‹_›
theorem HP {k:Nat} (hk:k<64) (h:q (nv k) H):Call (d+2) 23 [nv (2^k)] H q:=by
 have e:ez (2^k) (2^k-1)=2^k:=cM λi=>by
  rw [sX,TB,Rq];by_cases hi:k=i
  ·subst hi;rw [Qq rfl,decide_eq_false (Q8 k)];rfl
  ·rw [decide_eq_false hi];rfl
 refine aq rfl rfl ?_;refine eP ?_;refine FU ?_;rw [e];refine LK (QL (Ro k)) (Nat.pow_lt_pow_right (by decide) hk) λs hs=>?_;refine aj ?_;rw [z6 hs];exact h
theorem Ac {b:Nat} (h0:b≠0) (h:b &&& (b-1)=0):∃k,b=2^k:=by
 induction b using Nat.strongRecOn with
 | ind b ih=>
  rcases SO b with e | e
  ·have h2:b / 2 &&& (b / 2-1)=0:=by
    have:=congrArg (· / 2) h;simp only [Nat.and_div_two] at this;rw [PD h0 e] at this;exact this
   refine bJ (ih (b / 2) (by exact Nat.div_lt_self (Qv ‹_›) (by decide)) (by lia) h2) λk hk=>?_;exact ⟨k+1,by rw [Tp,<- hk];lia⟩
  ·refine ⟨0,?_⟩
   have h2:b / 2=0:=by
    have:=congrArg (· / 2) h;simp only [Nat.and_div_two] at this;rw [O5 e,Nat.and_self] at this;exact this
   lia
def Sq (b c:Nat) (l:List Nat) (sq:Nat):Prop:=c=b >>> sq/\(∀s,s∈l↔b.testBit s=true/\s<sq)/\l.length<=sq
theorem O9 (x:Nat):x &&& 15=x%16:=Rj x 4
theorem m1 (x:Nat):x &&& 1=x%2:=Rj x 1
theorem vx {b sq s:Nat} (h:sq<=s):b.testBit s=(b >>> sq).testBit (s-sq):=by rw [SD];congr 1;lia
theorem Sq.four {b c sq:Nat} {l:List Nat} (h:Sq b c l sq) (e:c &&& 15=0):Sq b (c >>> 4) l (sq+4):=by
 refine dJ h λh1 h2 h3=>?_;refine ⟨by rw [h1,TC],λs=>(h2 s).trans ⟨λk=>⟨k.1,by exact P7 (And.right ‹_›) (QA _ _)⟩,λk=>⟨k.1,?_⟩⟩,by exact Rl ‹_›⟩;rcases Qw s sq with q | q
 ·exact q
 ·exfalso;have k1:=k.1;rw [vx q,<- h1] at k1
  have:(c &&& 15).testBit (s-sq)=true:=by
   rw [RX,k1,show 15=2^4-1 from rfl,TB,Qq (by lia)];rfl
  rw [e,Qr] at this;cases this
theorem Sq.one {b c sq:Nat} {l l':List Nat} (h:Sq b c l sq) (e:(c &&& 1≠0/\l'=l++ [sq])\/(c &&& 1=0/\l'=l)):Sq b (c >>> 1) l' (sq+1):=by
 refine dJ h λh1 h2 h3=>?_
 have hb:b.testBit sq=decide (c%2=1):=by rw [vx (Qn sq),<- h1,TV,Nat.testBit_zero]
 rw [m1] at e;refine ⟨by rw [h1,TC],λs=>?_,?_⟩
 ·rcases e with ⟨e,rfl⟩ | ⟨e,rfl⟩
  ·rw [QF,Qt,h2];constructor
   ·rintro (k | rfl)
    ·exact ⟨k.1,by exact QW (And.right ‹_›)⟩
    ·exact ⟨by rw [hb,Qq (by exact Mq ‹_›)],by exact Qu _⟩
   ·rintro ⟨k1,k2⟩;rcases Qw s sq with q | q
    ·exact .inl ⟨k1,q⟩
    ·exact .inr (by exact RH (QH ‹_›) ‹_›)
  ·rw [h2];constructor
   ·rintro k;exact ⟨k.1,by exact QW (And.right ‹_›)⟩
   ·rintro ⟨k1,k2⟩;refine ⟨k1,?_⟩;rcases Qw s sq with q | q
    ·exact q
    ·obtain rfl:s=sq:=by exact RH (QH ‹_›) ‹_›
     rw [hb,decide_eq_false (by lia)] at k1;cases k1
 ·rcases e with ⟨e,rfl⟩ | ⟨e,rfl⟩
  ·rw [Qc];simp only [SI];exact Ry ‹_›
  ·exact Rl ‹_›
theorem qF {b:Nat} (h64:b<2^64) (h:∀l,(∀s,s∈l↔b.testBit s=true)->l.length<=64->∀a,H a=none->q (.ref a) (H.upd a (.list (av l)))):Call (d+1) 24 [nv b] H q:=by
 refine aq rfl rfl ?_;refine new_ (QS _) λa ha=>?_;refine lq (λm ρ' H'=>∃l sq,ρ'=[some (nv m),some (.ref a),some (nv sq)]/\H'=H.upd a (.list (av l))/\Sq b m l sq/\l.length<=64) b ⟨[],0,rfl,rfl,⟨rfl,λs=>⟨λk=>absurd k Rg,λk=>absurd k.2 (Rc s)⟩,QS _⟩,QS _⟩ λm ρ' H' K X hI hn _ _ hX=>?_;refine ew hI ?_;rintro l sq rfl rfl hs hl;refine dI (λe=>?_) (λe=>?_)
 ·refine lq (λc ρ' H'=>∃sq,ρ'=[some (nv c),some (.ref a),some (nv sq)]/\H'=H.upd a (.list (av l))/\Sq b c l sq/\c≠0/\c<=m) m ⟨sq,rfl,rfl,hs,e,Qn m⟩ λc ρ' H' K2 X2 hI hn2 _ _ hX2=>?_;refine Kz hI ?_;rintro sq rfl rfl hs e hcm;refine aS ?_;refine Ge ?_;refine ag (λe2=>?_) (λe2=>?_)
  ·refine bG ?_;refine cR ?_;refine bG ?_;refine p_add ?_;have e3:c%16=0:=(O9 c).symm.trans e2;refine hn2 (c >>> 4) _ _ (ox e (by decide)) ⟨sq+4,rfl,rfl,hs.four e2,?_,P8 (Qp (ox e (by decide))) hcm⟩;rw [Qx];lia
  ·refine hX2 _ _ ?_
   have hsq:sq<64:=by
    rcases Qw sq 64 with q | q
    ·exact q
    ·exact absurd (hs.1.trans (Br (P7 h64 (RB (by decide) q)))) e
   have hls:=hs.2.2;have hlt:c >>> 1<m:=P7 (ox e (by decide)) hcm;refine aS ?_;refine dI (λe4=>?_) (λe4=>?_)
   ·refine ⟨gO (Hp.ai ..),?_⟩;refine qK (Hp.ai ..) (by rw [Qd];show _<1000000;lia) ?_;refine aQ ?_;refine bG ?_;refine cR ?_;refine bG ?_;refine p_add ?_;refine hn (c >>> 1) _ _ hlt ⟨l++ [sq],sq+1,rfl,?_,hs.one (.inl ⟨e4,rfl⟩),by rw [Qc];simp only [SI];exact Qi ‹_› ‹_›⟩;rw [Hp.eH,av,av,Rd];rfl
   ·refine bG ?_;refine cR ?_;refine bG ?_;refine p_add ?_;exact hn (c >>> 1) _ _ hlt ⟨l,sq+1,rfl,rfl,hs.one (.inr ⟨e4,rfl⟩),hl⟩
 ·refine hX _ _ ?_;refine aj ?_;refine h l (λs=>(hs.2.1 s).trans ⟨λk=>k.1,λk=>⟨k,?_⟩⟩) hl a ha;rcases Qw s sq with q | q
  ·exact q
  ·rw [vx q,<- hs.1,e,Qr] at k;cases k
end
noncomputable def grow (d:Nat):Bool:=decide (d=0\/d=1\/d=4\/d=7)
noncomputable def sm (b k:Nat):Nat:=b ||| b >>> k
noncomputable def Bp (b:Nat):Nat:=sm (sm (sm (sm (sm (sm b 1) 2) 4) 8) 16) 32
noncomputable def gV (G:aE) (d s oc:Nat):Nat:=
 if aW G d s &&& oc=0 then aW G d s
 else if grow d=true then aW G d s &&& ((aW G d s &&& oc) ^^^ ((aW G d s &&& oc) -1))
 else ez (aW G d s) (Bp ((aW G d s &&& oc) >>> 1))
noncomputable def iI (G:aE) (s oc a:Nat):Nat->Nat
 | 0=>0
 | k+1=>iI G s oc a k ||| gV G (a+k) s oc
noncomputable def fb (G:aE) (s oc:Nat):Nat:=iI G s oc 0 4
noncomputable def fI (G:aE) (s oc:Nat):Nat:=iI G s oc 4 4
noncomputable def eK (G:aE) (a b:Nat):Nat->Nat->Nat
 | 0,d=>d
 | n+1,d=>if (aW G d a).testBit b then d else eK G a b n (d+1)
noncomputable def dirOf (G:aE) (a b:Nat):Nat:=eK G a b 8 0
noncomputable def a7 (G:aE) (a b:Nat):Nat:=if dirOf G a b=8 then 0 else aW G (dirOf G a b) a &&& aW G (dirOf G a b ^^^ 2) b
noncomputable def fV (G:aE) (a b:Nat):Nat:=if dirOf G a b=8 then 0 else aW G (dirOf G a b) a ||| aW G (dirOf G a b ^^^ 2) a ||| 2^a
noncomputable def vL (G:aE) (k s oc:Nat):Nat:=if k=3 then fI G s oc else if k=4 then fb G s oc else if k=5 then fb G s oc ||| fI G s oc else 0
noncomputable def oM (G:aE) (c k s oc:Nat):Nat:=if k=1 then ct G c s else if k=2 then G.a8.getD s 0 else if k=6 then G.cz.getD s 0 else vL G k s oc
noncomputable def eO (R:Rw):Nat:=Sd R 0 ||| Sd R 1
noncomputable def lD (R:Rw):Nat:=K R 4 ||| K R 5
noncomputable def lF (R:Rw):Nat:=K R 3 ||| K R 5
noncomputable def wu (G:aE) (R:Rw) (s c:Nat):Nat:=ct G (1-c) s &&& K R 1 &&& Sd R c
noncomputable def ki (G:aE) (R:Rw) (s c:Nat):Nat:=wu G R s c ||| (((G.a8.getD s 0 &&& K R 2) ||| (G.cz.getD s 0 &&& K R 6)) &&& Sd R c)
noncomputable def jl (G:aE) (R:Rw) (s oc:Nat):Nat:=(fb G s oc &&& lD R) ||| (fI G s oc &&& lF R)
noncomputable def ff (G:aE) (R:Rw) (s oc:Nat):Nat:=(ki G R s 0 ||| ki G R s 1) ||| jl G R s oc
noncomputable def eR (G:aE) (R:Rw) (s c oc:Nat):Bool:=decide (ki G R s c≠0\/fb G s oc &&& (lD R &&& Sd R c)≠0\/fI G s oc &&& (lF R &&& Sd R c)≠0)
noncomputable def kE (G:aE) (R:Rw) (k c:Nat):Nat:=((fb G k 0 &&& lD R) ||| (fI G k 0 &&& lF R)) &&& Sd R (1-c)
noncomputable def fB (G:aE) (R:Rw) (k c s:Nat):Nat:=a7 G k s &&& (eO R ^^^ kE G R k c)
def dj (G:aE) (R:Rw) (c k:Nat):Prop:=Sd R c &&& K R 6=2^k/\k<G.size
section
variable {d x y s c k oc:Nat} {H:Hp} {a:Ad} {G:aE} {R:Rw} {q:V->Hp->Prop}
theorem Bt {a b:Nat} (ha:a<=1000000) (hb:b<=1000000) (h:q (.f7 a b 1) H):b8 .range [nv a,nv b] H q:=mF.FI ⟨by exact And.intro (Qy _) (QT.mpr ‹_›),by exact And.intro (Qy _) (QT.mpr ‹_›)⟩ h
theorem kh {x b:Nat}:(x >>> b &&& 1≠0)↔x.testBit b=true:=by
 rw [m1,show x.testBit b=(x >>> b).testBit 0 by rw [SD,Nat.add_zero],Nat.testBit_zero,Qh];exact FW
theorem LL (hd:x<8) (h:q (.bool (grow x)) H):Call (d+1) 13 [nv x] H q:=by
 refine aq rfl rfl ?_;have:x=0\/x=1\/x=2\/x=3\/x=4\/x=5\/x=6\/x=7:=JY x (by assumption)
 rcases this with rfl | rfl | rfl | rfl | rfl | rfl | rfl | rfl<;>
  (refine dU rfl ?_;first | refine pE ?_ | refine xW ?_
   refine ag (λe=>?_) (λe=>?_)<;>first | (exact absurd e (by decide)) | (refine aj ?_;exact h) | (refine aR ?_;refine aj ?_;exact h))
theorem Ep (w:W H a G R) (o:dR G R) (h:q (nv (eO R)) H):Call (d+1) 28 [.ref a.p] H q:=by
 refine aq rfl rfl ?_;refine aI ‹_› rfl ?_;refine eU ‹_› ‹_› (by decide) ?_;refine aI ‹_› rfl ?_;refine eU ‹_› ‹_› (by decide) ?_;refine cW ?_;refine aj ?_;exact h
theorem A6 (w:W H a G R) (o:dR G R) (hc:c<2) (hk:k<7) (h:q (nv (Sd R c &&& K R k)) H):Call (d+1) 29 [.ref a.p,nv c,nv k] H q:=by
 refine aq rfl rfl ?_;refine aI ‹_› rfl ?_;refine eU ‹_› ‹_› ‹_› ?_;refine aI ‹_› rfl ?_;refine om ‹_› ‹_› ‹_› ?_;refine aS ?_;refine aj ?_;exact h
theorem si (w:W H a G R) (g:cu G) (o:dR G R) (hc:c<2) (kk:dj G R c k) (h:q (nv k) H):Call (d+3) 30 [.ref a.p,nv c] H q:=by
 have:=g.i3;have:=kk.2;refine aq rfl rfl ?_;refine aI ‹_› rfl ?_;refine eU ‹_› ‹_› ‹_› ?_;refine aI ‹_› rfl ?_;refine om ‹_› ‹_› (by decide) ?_;refine aS ?_;rw [kk.1];refine HP (by exact f9 ‹_› ‹_› (by rfl)) ?_;refine aj ?_;exact h
theorem mr:∀(n d:Nat),d<=eK G x y n d/\eK G x y n d<=d+n
 | 0,d=>⟨Qn d,Qn d⟩
 | n+1,d=>by
  unfold eK;split
  ·lia
  ·have:=mr n (d+1);lia
theorem HE (w:W H a G R) (g:cu G) (hx:x<G.size) (h8:dirOf G x y=8->q (.int (-1)) H) (h:dirOf G x y<8->q (nv (dirOf G x y)) H):Call (d+1) 43 [.ref a.g,nv x,nv y] H q:=by
 refine aq rfl rfl ?_;refine fM (n:=8) (by decide) ?_;refine forR (n:=8) (λj ρ' H'=>H'=H/\dirOf G x y=eK G x y (8-j) j/\∃z,ρ'=[some (.ref a.g),some (nv x),some (nv y),z]) (λj ρ' H' K hj hI hn hr _=>?_) (λρ' H' hI=>?_) ⟨rfl,rfl,none,rfl⟩
 ·obtain ⟨rfl,e,z,rfl⟩:=hI;rw [show 8-j=(8- (j+1))+1 by exact (SF (SN hj)).symm,eK] at e;refine eT ‹_› rfl ?_;refine nq ‹_› ‹_› ?_;refine nu ‹_› ‹_› ‹_› ‹_› ?_;refine cR ?_;refine aS ?_;refine dI (λe2=>?_) (λe2=>?_)
  ·rw [Qk (kh.mp e2)] at e;refine hr _ _ _ ?_;refine aj ?_;rw [<- e];exact h (by rw [e];exact hj)
  ·rw [Qb (λk=>kh.mpr k e2)] at e;exact hn _ _ ⟨rfl,e,_,rfl⟩
 ·obtain ⟨rfl,e,z,rfl⟩:=hI;refine eP ?_;refine aj ?_;exact h8 e
theorem zb {e:Nat} (h:e<8):e ^^^ 2<8:=Nat.xor_lt_two_pow (n:=3) h (by decide)
theorem HD (w:W H a G R) (g:cu G) (hx:x<G.size) (hy:y<G.size) (h:q (nv (a7 G x y)) H):Call (d+2) 44 [.ref a.g,nv x,nv y] H q:=by
 refine aq rfl rfl ?_;refine HE w g hx (λe=>?_) (λe=>?_)
 ·refine nU ?_;refine ag (λ_=>?_) (λe=>absurd (by decide) e);refine aj ?_;unfold a7 at h;rw [Qk e] at h;exact h
 ·have e2:=zb e;refine rZ ?_;refine ag (λe3=>absurd e3 (Rc _)) (λ_=>?_);refine eT ‹_› rfl ?_;refine nq ‹_› ‹_› ?_;refine nu ‹_› ‹_› ‹_› ‹_› ?_;refine eT ‹_› rfl ?_;refine bS ?_;refine nq ‹_› ‹_› ?_;refine nu ‹_› ‹_› ‹_› ‹_› ?_;refine aS ?_;refine aj ?_;unfold a7 at h;rw [Qb (by exact QX ‹_›)] at h;exact h
theorem Lv (w:W H a G R) (g:cu G) (hx:x<G.size) (h:q (nv (fV G x y)) H):Call (d+2) 45 [.ref a.g,nv x,nv y] H q:=by
 have:=g.i3;refine aq rfl rfl ?_;refine HE w g hx (λe=>?_) (λe=>?_)
 ·refine nU ?_;refine ag (λ_=>?_) (λe=>absurd (by decide) e);refine aj ?_;unfold fV at h;rw [Qk e] at h;exact h
 ·have e2:=zb e;refine rZ ?_;refine ag (λe3=>absurd e3 (Rc _)) (λ_=>?_);refine eT ‹_› rfl ?_;refine nq ‹_› ‹_› ?_;refine nu ‹_› ‹_› ‹_› ‹_› ?_;refine eT ‹_› rfl ?_;refine bS ?_;refine nq ‹_› ‹_› ?_;refine nu ‹_› ‹_› ‹_› ‹_› ?_;refine cW ?_;refine cb (by exact gD ‹_› ‹_› (by rfl)) ?_;refine cW ?_;refine aj ?_;unfold fV at h;rw [Qb (by exact QX ‹_›)] at h;exact h
theorem Lu {z:Nat} (w:W H a G R) (g:cu G) (hx:x<G.size) (h:q (.bool ((fV G x y).testBit z)) H):Call (d+3) 46 [.ref a.g,nv x,nv y,nv z] H q:=by
 refine aq rfl rfl ?_;refine Lv w g hx ?_;refine cR ?_;refine aS ?_;refine aR ?_;refine aj ?_
 have e:decide (fV G x y >>> z &&& 1=1)=(fV G x y).testBit z:=by
  rw [QR,Qh,<- kh,m1];exact FW.symm
 exact e ▸ h
theorem HC (w:W H a G R) (g:cu G) (hx:x<8) (hs:s<G.size) (h:q (nv (gV G x s oc)) H):Call (d+2) 47 [.ref a.g,nv x,nv s,nv oc] H q:=by
 refine aq rfl rfl ?_;refine eT ‹_› rfl ?_;refine nq ‹_› ‹_› ?_;refine nu ‹_› ‹_› ‹_› ‹_› ?_;refine aS ?_;refine aR ?_;refine ag (λe=>?_) (λe=>?_)
 ·refine aj ?_;unfold gV at h;rw [Qk e] at h;exact h
 ·refine LL hx ?_;refine dh (λe2=>?_) (λe2=>?_)
  ·refine cH (y:=1) (Qv e) ?_;refine bS ?_;refine aS ?_;refine aj ?_;unfold gV at h;rw [Qb e,Qk e2] at h;exact h
  ·refine cR ?_;refine cR ?_;refine bG ?_;refine cW ?_;refine cR ?_;refine bG ?_;refine cW ?_;refine cR ?_;refine bG ?_;refine cW ?_;refine cR ?_;refine bG ?_;refine cW ?_;refine cR ?_;refine bG ?_;refine cW ?_;refine cR ?_;refine bG ?_;refine cW ?_;refine jj ?_;refine gZ ?_;refine aj ?_;unfold gV at h;rw [Qb e,Qb (by rw [e2];decide)] at h;exact h
theorem ym (w:W H a G R) (g:cu G) (hs:s<G.size) (h:q (nv (fb G s oc)) H):Call (d+3) 48 [.ref a.g,nv s,nv oc] H q:=by
 refine aq rfl rfl ?_;refine fM (n:=4) (by decide) ?_;refine forR (n:=4) (λj ρ' H'=>H'=H/\∃z,ρ'=[some (.ref a.g),some (nv s),some (nv oc),some (nv (iI G s oc 0 j)),z]) (λj ρ' H' K hj hI hn hr _=>?_) (λρ' H' hI=>?_) ⟨rfl,none,rfl⟩
 ·obtain ⟨rfl,z,rfl⟩:=hI;refine HC w g (by exact P7 ‹_› (by decide)) hs ?_;refine bG ?_;refine cW ?_;exact hn _ _ ⟨rfl,_,by rw [iI,Rx];rfl⟩
 ·obtain ⟨rfl,z,rfl⟩:=hI;refine aj ?_;exact h
theorem yl (w:W H a G R) (g:cu G) (hs:s<G.size) (h:q (nv (fI G s oc)) H):Call (d+3) 49 [.ref a.g,nv s,nv oc] H q:=by
 refine aq rfl rfl ?_;refine Bt (a:=4) (b:=8) (by decide) (by decide) ?_;refine D6 (n:=4) (f:=λk=>4+k) (rx (a:=4) (b:=8)) (λj ρ' H'=>H'=H/\∃z,ρ'=[some (.ref a.g),some (nv s),some (nv oc),some (nv (iI G s oc 4 j)),z]) (λj ρ' H' K hj hI hn hr _=>?_) (λρ' H' hI=>?_) ⟨rfl,none,rfl⟩
 ·obtain ⟨rfl,z,rfl⟩:=hI;refine HC w g (by exact QU ‹_› _) hs ?_;refine bG ?_;refine cW ?_;exact hn _ _ ⟨rfl,_,rfl⟩
 ·obtain ⟨rfl,z,rfl⟩:=hI;refine aj ?_;exact h
theorem Lr (w:W H a G R) (g:cu G) (hs:s<G.size) (h:q (nv (fb G s oc ||| fI G s oc)) H):Call (d+4) 50 [.ref a.g,nv s,nv oc] H q:=by
 refine aq rfl rfl ?_;refine ym w g hs ?_;refine yl w g hs ?_;refine cW ?_;refine aj ?_;exact h
theorem Lq (w:W H a G R) (g:cu G) (hs:s<G.size) (h:q (nv (vL G k s oc)) H):Call (d+5) 51 [.ref a.g,nv k,nv s,nv oc] H q:=by
 unfold vL at h;refine aq rfl rfl ?_;refine aR ?_;refine ag (λe=>?_) (λe=>?_)
 ·rw [Qk e] at h;refine yl w g hs ?_;refine aj ?_;exact h
 ·rw [Qb e] at h;refine aR ?_;refine ag (λe=>?_) (λe=>?_)
  ·rw [Qk e] at h;refine ym w g hs ?_;refine aj ?_;exact h
  ·rw [Qb e] at h;refine aR ?_;refine ag (λe=>?_) (λe=>?_)
   ·rw [Qk e] at h;refine Lr w g hs ?_;refine aj ?_;exact h
   ·rw [Qb e] at h;refine aj ?_;exact h
theorem Lo (w:W H a G R) (g:cu G) (hc:c<2) (hs:s<G.size) (h:q (nv (oM G c k s oc)) H):Call (d+6) 52 [.ref a.g,nv c,nv k,nv s,nv oc] H q:=by
 unfold oM at h;refine aq rfl rfl ?_;refine aR ?_;refine ag (λe=>?_) (λe=>?_)
 ·rw [Qk e] at h;refine eT ‹_› rfl ?_;refine oj ‹_› ‹_› ?_;refine zu ‹_› ‹_› ‹_› ‹_› ?_;refine aj ?_;exact h
 ·rw [Qb e] at h;refine aR ?_;refine ag (λe=>?_) (λe=>?_)
  ·rw [Qk e] at h;refine eT ‹_› rfl ?_;refine pS ‹_› ‹_› ‹_› ?_;refine aj ?_;exact h
  ·rw [Qb e] at h;refine aR ?_;refine ag (λe=>?_) (λe=>?_)
   ·rw [Qk e] at h;refine eT ‹_› rfl ?_;refine vB ‹_› ‹_› ‹_› ?_;refine aj ?_;exact h
   ·rw [Qb e] at h;refine Lq w g hs ?_;refine aj ?_;exact h
theorem Ek (w:W H a G R) (o:dR G R) (h:q (nv (lD R)) H):Call (d+1) 53 [.ref a.p] H q:=by
 refine aq rfl rfl ?_;refine aI ‹_› rfl ?_;refine om ‹_› ‹_› (by decide) ?_;refine aI ‹_› rfl ?_;refine om ‹_› ‹_› (by decide) ?_;refine cW ?_;refine aj ?_;exact h
theorem Ej (w:W H a G R) (o:dR G R) (h:q (nv (lF R)) H):Call (d+1) 54 [.ref a.p] H q:=by
 refine aq rfl rfl ?_;refine aI ‹_› rfl ?_;refine om ‹_› ‹_› (by decide) ?_;refine aI ‹_› rfl ?_;refine om ‹_› ‹_› (by decide) ?_;refine cW ?_;refine aj ?_;exact h
theorem Lm (w:W H a G R) (g:cu G) (o:dR G R) (hc:c<2) (hs:s<G.size) (h:q (nv (wu G R s c)) H):Call (d+1) 55 [.ref a.p,nv s,nv c] H q:=by
 have h1:1-c<2:=by exact pY
 refine aq rfl rfl ?_;refine aI ‹_› rfl ?_;refine eT ‹_› rfl ?_;refine dy ‹_› ?_;refine oj ‹_› ‹_› ?_;refine zu ‹_› ‹_› ‹_› ‹_› ?_;refine aI ‹_› rfl ?_;refine om ‹_› ‹_› (by decide) ?_;refine aS ?_;refine aI ‹_› rfl ?_;refine eU ‹_› ‹_› ‹_› ?_;refine aS ?_;refine aj ?_;exact h
theorem Ei (w:W H a G R) (g:cu G) (o:dR G R) (hc:c<2) (hs:s<G.size) (h:q (nv (ki G R s c)) H):Call (d+2) 56 [.ref a.p,nv s,nv c] H q:=by
 refine aq rfl rfl ?_;refine aI ‹_› rfl ?_;refine eT ‹_› rfl ?_;refine pS ‹_› ‹_› ‹_› ?_;refine aI ‹_› rfl ?_;refine om ‹_› ‹_› (by decide) ?_;refine aS ?_;refine eT ‹_› rfl ?_;refine vB ‹_› ‹_› ‹_› ?_;refine aI ‹_› rfl ?_;refine om ‹_› ‹_› (by decide) ?_;refine aS ?_;refine bG ?_;refine cW ?_;refine Lm w g o hc hs ?_;refine aI ‹_› rfl ?_;refine eU ‹_› ‹_› ‹_› ?_;refine aS ?_;refine cW ?_;refine aj ?_;exact h
theorem Lk (w:W H a G R) (g:cu G) (o:dR G R) (hs:s<G.size) (h:q (nv (jl G R s oc)) H):Call (d+4) 57 [.ref a.p,nv s,nv oc] H q:=by
 refine aq rfl rfl ?_;refine Ek w o ?_;refine uH 3 (nv (fb G s oc &&& lD R)) ?_ λK' j=>?_
 ·refine Ej w o ?_;refine uH 3 (nv (jl G R s oc)) ?_ λK' j=>?_
  ·refine aj ?_;exact h
  ·refine dI (λe=>?_) (λe=>?_)
   ·refine aI ‹_› rfl ?_;refine yl w g hs ?_;refine aS ?_;refine bG ?_;refine cW ?_;exact j
   ·exact eG j rfl (by unfold jl;rw [e,TX,Nat.or_zero])
 ·refine dI (λe=>?_) (λe=>?_)
  ·refine aI ‹_› rfl ?_;refine ym w g hs ?_;refine aS ?_;refine bG ?_;refine cW ?_;exact gK j (by rw [Nat.zero_or])
  ·exact eG j rfl (by rw [e,TX];rfl)
theorem HB (w:W H a G R) (g:cu G) (o:dR G R) (hs:s<G.size) (h:q (nv (ff G R s oc)) H):Call (d+5) 58 [.ref a.p,nv s,nv oc] H q:=by
 refine aq rfl rfl ?_;refine Ei (c:=0) w g o (by decide) hs ?_;refine Ei (c:=1) w g o (by decide) hs ?_;refine cW ?_;refine Lk w g o hs ?_;refine cW ?_;refine aj ?_;exact h
theorem yj (w:W H a G R) (g:cu G) (o:dR G R) (hc:c<2) (hs:s<G.size) (h:q (.bool (eR G R s c oc)) H):Call (d+4) 59 [.ref a.p,nv s,nv c,nv oc] H q:=by
 unfold eR at h;refine aq rfl rfl ?_;refine Ei w g o hc hs ?_;refine dI (λe=>?_) (λe=>?_)
 ·rw [Qq (.inl e)] at h;refine aj ?_;exact h
 ·refine aI ‹_› rfl ?_;refine aI ‹_› rfl ?_;refine eU ‹_› ‹_› ‹_› ?_;refine Ek w o ?_;refine aS ?_
  have last:(¬fb G s oc &&& (lD R &&& Sd R c)≠0)->aO (Call (d+3)) (.cons (.asg 7 (.bin .and (.call 54 (.cons (.loc 0) .nil)) (.loc 5))) (.cons (.ret (.dZ (.cons (.cmp .ne (.loc 7) (.bC 0)) (.cons (.cmp .ne (.bin .and (.call 49 (.cons (.loc 4) (.cons (.loc 1) (.cons (.loc 3) .nil)))) (.loc 7)) (.bC 0)) .nil)))) .nil))
   [some (.ref a.p),some (nv s),some (nv c),some (nv oc),some (.ref a.g),some (nv (Sd R c)),some (nv (lD R &&& Sd R c)),none] H (dq q):=λe2=>by
   refine Ej w o ?_;refine aS ?_;refine eD ?_;refine ag (λe3=>?_) (λe3=>?_)
   ·refine yl w g hs ?_;refine aS ?_;refine eD ?_;refine aj ?_;rw [dz (show (ki G R s c≠0\/fb G s oc &&& (lD R &&& Sd R c)≠0\/fI G s oc &&& (lF R &&& Sd R c)≠0)↔fI G s oc &&& (lF R &&& Sd R c)≠0 from ⟨λk=>k.elim (λk=>absurd e k) λk=>k.elim (λk=>absurd k e2) id,λk=>.inr (.inr k)⟩)] at h;exact h
   ·refine aj ?_;have e3:lF R &&& Sd R c=0:=QD.mp e3;rw [dz (show (ki G R s c≠0\/fb G s oc &&& (lD R &&& Sd R c)≠0\/fI G s oc &&& (lF R &&& Sd R c)≠0)↔lF R &&& Sd R c≠0 from ⟨λk=>k.elim (λk=>absurd e k) λk=>k.elim (λk=>absurd k e2) λk=>absurd (by rw [e3,TX]) k,λk=>absurd e3 k⟩)] at h;exact h
  refine dI (λe2=>?_) (λe2=>?_)
  ·refine ym w g hs ?_;refine aS ?_;refine dI (λe3=>?_) (λe3=>?_)
   ·rw [Qq (.inr (.inl e3))] at h;refine aj ?_;exact h
   ·exact last (λk=>k e3)
  ·refine dI (λe3=>absurd e2 e3) (λ_=>?_);exact last (λk=>k (by rw [e2,TX]))
theorem Lj (w:W H a G R) (g:cu G) (o:dR G R) (hc:c<2) (kk:dj G R c k) (h:q (nv (ff G R k (eO R) &&& Sd R (1-c))) H):Call (d+6) 60 [.ref a.p,nv c] H q:=by
 refine aq rfl rfl ?_;refine aI ‹_› rfl ?_;refine eU ‹_› ‹_› (by decide) ?_;refine aI ‹_› rfl ?_;refine eU ‹_› ‹_› (by decide) ?_;refine cW ?_;refine si w g o hc kk ?_;refine HB w g o kk.2 ?_;refine aI ‹_› rfl ?_;refine dy ‹_› ?_;refine eU ‹_› ‹_› (by exact pY) ?_;refine aS ?_;refine aj ?_;exact h
theorem Li (w:W H a G R) (g:cu G) (o:dR G R) (kk:dj G R R.af k) (h:q (nv (ff G R k (eO R) &&& Sd R (1-R.af))) H):Call (d+7) 61 [.ref a.p] H q:=by
 refine aq rfl rfl ?_;refine aI ‹_› rfl ?_;refine Lj w g o o.c2 kk ?_;refine aj ?_;exact h
theorem Lh (w:W H a G R) (g:cu G) (o:dR G R) (hc:c<2) (kk:dj G R c k) (h:q (.bool (eR G R k (1-c) (eO R))) H):Call (d+5) 62 [.ref a.p,nv c] H q:=by
 refine aq rfl rfl ?_;refine aI ‹_› rfl ?_;refine eU ‹_› ‹_› (by decide) ?_;refine aI ‹_› rfl ?_;refine eU ‹_› ‹_› (by decide) ?_;refine cW ?_;refine si w g o hc kk ?_;refine dy ‹_› ?_;refine yj w g o (by exact pY) kk.2 ?_;refine aj ?_;exact h
theorem Lg (w:W H a G R) (g:cu G) (o:dR G R) (kk:dj G R R.af k) (h:q (.bool (eR G R k (1-R.af) (eO R))) H):Call (d+6) 63 [.ref a.p] H q:=by
 refine aq rfl rfl ?_;refine aI ‹_› rfl ?_;refine Lh w g o o.c2 kk ?_;refine aj ?_;exact h
theorem Lf (w:W H a G R) (g:cu G) (o:dR G R) (hc:c<2) (kk:dj G R c k) (h:q (nv (kE G R k c)) H):Call (d+4) 64 [.ref a.p,nv c] H q:=by
 refine aq rfl rfl ?_;refine si w g o hc kk ?_;refine aI ‹_› rfl ?_;refine ym (oc:=0) w g kk.2 ?_;refine Ek w o ?_;refine aS ?_;refine aI ‹_› rfl ?_;refine yl (oc:=0) w g kk.2 ?_;refine Ej w o ?_;refine aS ?_;refine bG ?_;refine cW ?_;refine aI ‹_› rfl ?_;refine dy ‹_› ?_;refine eU ‹_› ‹_› (by exact pY) ?_;refine aS ?_;refine aj ?_;exact h
end
theorem dG {b n s:Nat} (h:b<2^n) (k:b.testBit s=true):s<n:=by
 rcases Qw s n with q | q
 ·exact q
 ·rw [Nat.testBit_lt_two_pow (P7 h (RB (by decide) q))] at k;cases k
theorem c7 {x y n:Nat} (h:y<2^n):x &&& y<2^n:=Qi Nat.and_le_right h
theorem dA {x y n:Nat} (h:x<2^n):x &&& y<2^n:=Qi Nat.and_le_left h
theorem fS {x y n:Nat} (h:x<2^n):ez x y<2^n:=Nat.xor_lt_two_pow h (dA h)
theorem aC {x y i:Nat}:(x &&& y).testBit i=true↔x.testBit i=true/\y.testBit i=true:=by rw [RX,Qa]
theorem dT {x y i:Nat}:(x ||| y).testBit i=true↔x.testBit i=true\/y.testBit i=true:=by rw [SS,Q3]
theorem iG {x y i:Nat}:(ez x y).testBit i=true↔x.testBit i=true/\¬y.testBit i=true:=by
 rw [sX];cases x.testBit i<;>cases y.testBit i<;>simp
theorem cu.tj {G:aE} (g:cu G) {x:Nat} (h:x<2^G.size):x<2^64:=P7 h (RB (by decide) (by have:=g.i3;exact P8 ‹_› (by decide)))
theorem Hp.bu (H:Hp) {a b:Addr} (o p:Ob) (h:a≠b):(H.upd a o).upd b p=(H.upd b p).upd a o:=by
 funext c;unfold Hp.upd;by_cases e:c=b
 ·subst e;rw [Qk rfl,Qb (Ne.symm h),Qk rfl]
 ·rw [Qb e];by_cases e2:c=a
  ·rw [Qk e2,Qk e2]
  ·rw [Qb e2,Qb e2,Qb e]
theorem Hp.none_of {H:Hp} {a b:Addr} {o:Ob} (h:(H.upd a o) b=none):b≠a/\H b=none:=by
 by_cases e:b=a
 ·subst e;rw [Hp.ai] at h;cases h
 ·rw [Hp.ay e] at h;exact ⟨e,h⟩
theorem gF {body:Lc->Hp->(Fl->Lc->Hp->Prop)->Prop} {i:Nat} {O:Lc} {H:Hp} {Q:Fl->Lc->Hp->Prop} {out b:Addr} {l ms:List Nat} (hb:b≠out) (E:Lc->Prop) (P:Nat->Prop) (c:Nat) (hl:l.length<=64) (hE:E O)
 (step:∀s ms' ρ' K,s∈l->E ρ'->ms'.length<=ms.length+64*c->(∀ρ'' ns,E ρ''->ns.length<=c->(∀m∈ns,P m)->K Fl.next ρ'' ((H.upd out (.list (av (ms'++ns)))).upd b (.list (av l))))->body (cV ρ' i (nv s)) ((H.upd out (.list (av ms'))).upd b (.list (av l))) K)
 (fin:∀ρ'' ns,E ρ''->ns.length<=64*c->(∀m∈ns,P m)->Q .next ρ'' ((H.upd out (.list (av (ms++ns)))).upd b (.list (av l)))) :
 fj body i (.ref b) O ((H.upd out (.list (av ms))).upd b (.list (av l))) Q:=by
 refine forL (Hp.ai ..) (λk ρ' H'=>E ρ'/\∃ns,ns.length<=k*c/\(∀m∈ns,P m)/\H'=(H.upd out (.list (av (ms++ns)))).upd b (.list (av l))) (λk v ρ' H' K hv hI hn _ _=>?_) (λρ' H' hI=>?_) ⟨hE,[],QS _,λm hm=>absurd hm Rg,by rw [RK]⟩
 ·obtain ⟨hE,ns,hns,hP,rfl⟩:=hI;refine ⟨Hp.ai ..,?_⟩;refine aD (jy rfl hv) ?_;rintro hk rfl;have h1:k*c<=64*c:=QN c (by exact Qp (P7 ‹_› ‹_›));refine step (l.getD k 0) (ms++ns) ρ' K ?_ hE (by rw [Qc];lia) λρ'' ns' hE' hns' hP'=>hn _ _ ⟨hE',ns++ns',by rw [Qc,TU];exact Sf ‹_› ‹_›,λm hm=>?_,by rw [Qm]⟩
  ·rw [P9,Qg hk];exact Sb hk
  ·rcases QF.mp hm with q | q
   ·exact hP m q
   ·exact hP' m q
 ·obtain ⟨hE,ns,hns,hP,rfl⟩:=hI;rw [Qd] at hns;exact ⟨Hp.ai ..,fin _ _ hE (P8 hns (QN c hl)) hP⟩
noncomputable abbrev Hp.out (H:Hp) (o:Addr) (ms:List Nat):Hp:=H.upd o (.list (av ms))
def mY (H:Hp) (out:Addr) (ms:List Nat) (n:Nat) (P:Nat->Prop) (q:V->Hp->Prop):Prop:=∀ns:List Nat,ns.length<=n->(∀m∈ns,P m)->q .none (H.out out (ms++ns))
def yT (G:aE) (R:Rw) (k tgt:Nat) (m:Nat):Prop:=∃o t,m=pk o t 0 0/\(Sd R R.af &&& K R k).testBit o=true/\(oM G R.af k o (eO R)).testBit t=true/\tgt.testBit t=true
def fT (R:Rw) (o:Nat):Prop:=(Sd R R.af &&& K R 1).testBit o=true
def ID (G:aE) (R:Rw) (tgt:Nat) (m:Nat):Prop:=∃o t sp f,m=pk o t sp f/\f<4/\(sp=0/\f=0\/sp=1)/\(R.af=0/\t=o+G.aa\/R.af=1/\o=t+G.aa)/\fT R o/\¬(eO R).testBit t=true/\t<G.size/\tgt.testBit t=true
noncomputable def eY (G:aE) (c:Nat):Nat:=if c=0 then G.rm.getD 1 0 else G.rm.getD (G.bE-2) 0
def IC (G:aE) (R:Rw) (tgt:Nat) (m:Nat):Prop:=∃o p t,m=pk o t 0 0/\(R.af=0/\p=o+G.aa/\t=p+G.aa\/R.af=1/\o=p+G.aa/\p=t+G.aa)/\(fT R o/\(eY G R.af).testBit o=true)/\¬(eO R).testBit p=true/\¬(eO R).testBit t=true/\t<G.size/\p<G.size/\tgt.testBit t=true
def sP (G:aE) (c o t:Nat):Prop:=
 (¬(G.fm.getD (G.aa-1) 0).testBit o=true/\(c=0/\t=o+G.aa+1\/c=1/\t+G.aa=o+1))\/(¬(G.fm.getD 0 0).testBit o=true/\(c=0/\t+1=o+G.aa\/c=1/\t+G.aa+1=o))
def Jf (G:aE) (R:Rw) (tgt:Nat) (m:Nat):Prop:=∃o t sp f,m=pk o t sp f/\f<4/\(sp=0/\f=0\/sp=1)/\sP G R.af o t/\fT R o/\(Sd R (1-R.af)).testBit t=true/\tgt.testBit t=true
def Bl (G:aE) (R:Rw) (m:Nat):Prop:=∃o t:Nat,m=pk o t 2 0/\R.ep=t/\(ct G (1-R.af) t).testBit o=true/\fT R o
noncomputable def within (a b:Nat):Nat:=if a<b then 2^b-2^(a+1) else 2^a-2^(b+1)
def kD (G:aE) (R:Rw) (i kf kt rf rt:Nat):Prop:=G.bt.getD i none=some (kf,kt,rf,rt)/\R.ab &&& 2^i≠0/\eO R &&& within kf rf=0/\eR G R kf (1-i / 2) (eO R)=false/\eR G R rt (1-i / 2) (eO R)=false/\eR G R kt (1-i / 2) (eO R)=false
def sO (G:aE) (R:Rw) (m:Nat):Prop:=∃i kf kt rf rt,m=pk kf kt 3 0/\i / 2=R.af/\kD G R i kf kt rf rt
def gr (G:aE) (R:Rw) (tgt:Nat) (m:Nat):Prop:=ID G R tgt m\/IC G R tgt m\/Jf G R tgt m
section
variable {d x y s c k oc tgt:Nat} {H:Hp} {a:Ad} {G:aE} {R:Rw} {q:V->Hp->Prop} {out:Addr} {ms:List Nat}
theorem ta (g:cu G) (o:dR G R):kE G R k c<2^G.size:=c7 (o.sb _)
def yi:Prop:=∀(w:W H a G R) (g:cu G) (o:dR G R) (hc:c<2) (kk:dj G R c k) (h:∀held pin,(∀t,held.testBit t=true↔∃s,(kE G R k c).testBit s=true/\(fB G R k c s).testBit t=true/\fB G R k c s &&& (fB G R k c s-1)=0)->q (.tup [nv held,nv pin]) H),Call (d+5) 65 [.ref a.p,nv c] H q
theorem Ld:@yi d c k H a G R q:=au (S:=λx:(Nat×Nat×Nat×Hp)×(Ad×aE×Rw×(V->Hp->Prop))=>@yi x.1.1 x.1.2.1 x.1.2.2.1 x.1.2.2.2 x.2.1 x.2.2.1 x.2.2.2.1 x.2.2.2.2) (x:=((0,0,0,λ_=>none),(j0,bO,fG,λ_ _=>True))) (by
 refine (?_:∀d c k H a G R q,@yi d c k H a G R q) _ _ _ _ _ _ _ _;intro d c k H a G R q w g o hc kk h;refine aq rfl rfl ?_;refine si w g o hc kk ?_;refine Lf w g o hc kk ?_;refine aI ‹_› rfl ?_;refine eU ‹_› ‹_› (by decide) ?_;refine aI ‹_› rfl ?_;refine eU ‹_› ‹_› (by decide) ?_;refine cW ?_;refine bS ?_;refine qF (g.tj (ta g o)) λl hl _ b hb=>?_;have w':=w.mono (Hp.ax (o:=.list (av l)) hb)
 refine forL (Hp.ai ..) (λn ρ' H'=>H'=H.upd b (.list (av l))/\∃held pin z y,ρ'=[some (.ref a.p),some (nv c),some (nv k),some (nv (kE G R k c)),some (nv (eO R ^^^ kE G R k c)),some (nv held),some (nv pin),z,y]/\
  ∀t,held.testBit t=true↔∃s,s∈l.take n/\(fB G R k c s).testBit t=true/\fB G R k c s &&& (fB G R k c s-1)=0) (λn v ρ' H' K hv hI hn _ _=>?_) (λρ' H' hI=>?_) ⟨rfl,0,0,none,none,rfl,λt=>by rw [List.take_zero,Qr];exact ⟨λe=>(nomatch e),λ⟨_,e,_⟩=>absurd e Rg⟩⟩
 ·obtain ⟨rfl,held,pin,z,y,rfl,hh⟩:=hI;refine ⟨Hp.ai ..,?_⟩;refine aD (jy rfl hv) ?_;rintro hk rfl
  have hmem:l.getD n 0∈l:=by rw [P9,Qg hk];exact Sb hk
  have hs:=(hl _).mp hmem;have hlt:=dG (ta g o) hs
  have tk:l.take (n+1)=l.take n++ [l.getD n 0]:=by
   rw [Ti,P9,Qg hk];rfl
  have skip:¬(fB G R k c (l.getD n 0)≠0/\fB G R k c (l.getD n 0) &&& (fB G R k c (l.getD n 0) -1)=0)->∀t,held.testBit t=true↔∃s,s∈l.take (n+1)/\(fB G R k c s).testBit t=true/\fB G R k c s &&& (fB G R k c s-1)=0:=λhno t=>by
   rw [hh t,tk];constructor
   ·rintro ⟨s,e1,e2⟩;exact ⟨s,Ua _ e1,e2⟩
   ·rintro ⟨s,e1,e2,e3⟩;rcases QF.mp e1 with q | q
    ·exact ⟨s,q,e2,e3⟩
    ·rw [Qt] at q;subst q;exact absurd ⟨(λz=>by rw [z,Qr] at e2;cases e2),e3⟩ hno
  have take:fB G R k c (l.getD n 0) &&& (fB G R k c (l.getD n 0) -1)=0->∀t,(held ||| fB G R k c (l.getD n 0)).testBit t=true↔∃s,s∈l.take (n+1)/\(fB G R k c s).testBit t=true/\fB G R k c s &&& (fB G R k c s-1)=0:=λhyes t=>by
   rw [dT,hh t,tk];constructor
   ·rintro (⟨s,e1,e2⟩ | e)
    ·exact ⟨s,Ua _ e1,e2⟩
    ·exact ⟨_,T8 _ (Qt.mpr rfl),e,hyes⟩
   ·rintro ⟨s,e1,e2,e3⟩;rcases QF.mp e1 with q | q
    ·exact .inl ⟨s,q,e2,e3⟩
    ·rw [Qt] at q;subst q;exact .inr e2
  refine aI ‹_› rfl ?_;refine HD w' g kk.2 hlt ?_;refine aS ?_;refine dI (λe=>?_) (λe=>?_)
  ·refine HQ e ?_;refine BC ?_;refine ag (λe2=>?_) (λe2=>?_)
   ·have e2:=QD.mp e2;refine bG ?_;refine cW ?_;refine aI ‹_› rfl ?_;refine eU ‹_› ‹_› ‹_› ?_;refine aS ?_;refine dI (λe3=>?_) (λe3=>?_)
    ·refine cb (by have:=g.i3;exact gD ‹_› ‹_› (by rfl)) ?_;refine bG ?_;refine cW ?_;exact hn _ _ ⟨rfl,_,_,_,_,rfl,take e2⟩
    ·exact hn _ _ ⟨rfl,_,_,_,_,rfl,take e2⟩
   ·exact hn _ _ ⟨rfl,_,_,_,_,rfl,skip λz=>e2 (not_not_intro z.2)⟩
  ·refine dI (λe3=>absurd e e3) (λ_=>?_);exact hn _ _ ⟨rfl,_,_,_,_,rfl,skip λz=>z.1 e⟩
 ·obtain ⟨rfl,held,pin,z,y,rfl,hh⟩:=hI;refine ⟨Hp.ai ..,?_⟩;refine ⟨by simp,?_⟩;refine gz H (Hp.ax hb) (h _ _ λt=>?_);rw [hh t,Qd,SX]
  exact ⟨λ⟨s,e1,e2⟩=>⟨s,(hl s).mp e1,e2⟩,λ⟨s,e1,e2⟩=>⟨s,(hl s).mpr e1,e2⟩⟩) ((d,c,k,H),(a,G,R,q))
end
section
variable {d x y s c k oc tgt:Nat} {H:Hp} {a:Ad} {G:aE} {R:Rw} {q:V->Hp->Prop} {out:Addr} {ms:List Nat}
def Oo (G:aE) (R:Rw) (k c t:Nat):Prop:=∃s,(kE G R k c).testBit s=true/\(fB G R k c s).testBit t=true/\fB G R k c s &&& (fB G R k c s-1)=0
theorem K9 (w:W H a G R) (g:cu G) (o:dR G R) (hc:c<2) (kk:dj G R c k) (h:∀pn,(∀t,pn.testBit t=true↔Oo G R k c t/\(Sd R c).testBit t=true)->q (nv pn) H):Call (d+6) 66 [.ref a.p,nv c] H q:=by
 refine aq rfl rfl ?_;refine Ld w g o hc kk λheld pin hh=>?_;refine dU (i:=0) rfl ?_;refine aI ‹_› rfl ?_;refine eU ‹_› ‹_› ‹_› ?_;refine aS ?_;refine aj ?_
 exact h _ λt=>by rw [aC,hh t];rfl
theorem K8 (hx:x<64) (hy:y<64) (hne:x≠y) (h:q (nv (within x y)) H):Call (d+1) 67 [nv x,nv y] H q:=by
 unfold within at h;refine aq rfl rfl ?_;refine rZ ?_;refine ag (λe=>?_) (λe=>?_)
 ·rw [Qk e] at h;refine cb (by exact Qp (P7 ‹_› (by decide))) ?_;refine gY (x:=2) (by lia) (by decide) ?_;rw [RL,RT,<- Tp];refine cH (RB (by decide) e) ?_;refine aj ?_;exact h
 ·rw [Qb e] at h;refine cb (by exact Qp (P7 ‹_› (by decide))) ?_;refine gY (x:=2) (by exact Qp (P7 ‹_› (by decide))) (by decide) ?_;rw [RL,RT,<- Tp];refine cH (RB (by decide) (by lia)) ?_;refine aj ?_;exact h
theorem K7 (w:W H a G R) (g:cu G) (o:dR G R) (hx:x<4) (hno:∀r:Nat,r≠0->q (nv r) H) (hyes:∀kf kt rf rt,kD G R x kf kt rf rt->q (nv 0) H):Call (d+5) 68 [.ref a.p,nv x] H q:=by
 refine aq rfl rfl ?_;refine aI ‹_› rfl ?_;refine eT ‹_› rfl ?_;refine vC w g hx ?_
 cases hw:G.bt.getD x none with
 | none=>
  refine Hn ?_;refine o9 ?_;refine aj ?_;exact hno 1 (by decide)
 | some v=>
  obtain ⟨kf,kt,rf,rt⟩:=v;refine rW (g.cw x kf kt rf rt hw) λb1 b2 b3 b4 b5=>?_;have h25:=g.i3;refine Hn ?_;refine gE ?_;refine aI ‹_› rfl ?_;refine cb (by exact Qp (P7 ‹_› (by decide))) ?_;refine aS ?_;refine aR ?_;refine ag (λe=>?_) (λe1=>?_)
  ·refine aj ?_;exact hno 2 (by decide)
  refine mP rfl ?_;refine Ep w o ?_;refine K8 (by exact f9 ‹_› ‹_› (by rfl)) (by exact f9 ‹_› ‹_› (by rfl)) b5 ?_;refine aS ?_;refine dI (λe=>?_) (λe2=>?_)
  ·refine aj ?_;exact hno 3 (by decide)
  refine cR ?_;refine dy (c:=x >>> 1) (by rw [Qx];exact RC ‹_›) ?_
  have hs:x >>> 1=x / 2:=by rw [Qx]
  refine yj w g o (by exact pY) b1 ?_;refine dh (λe=>?_) (λe3=>?_)
  ·refine aj ?_;exact hno 4 (by decide)
  refine yj w g o (by exact pY) b4 ?_;refine dh (λe=>?_) (λe4=>?_)
  ·refine aj ?_;exact hno 5 (by decide)
  refine yj w g o (by exact pY) b2 ?_;refine dh (λe=>?_) (λe5=>?_)
  ·refine aj ?_;exact hno 6 (by decide)
  refine aj ?_;rw [show x >>> 1=x / 2 from hs] at e3 e4 e5;exact hyes kf kt rf rt ⟨hw,e1,e2,e3,e4,e5⟩
theorem W.two (w:W H a G R) (ho:H out=none) {b:Addr} {L:List V} (hb:b≠out) (hn:H b=none) (ms:List Nat):W ((H.out out ms).upd b (.list L)) a G R:=
 (w.mono (Hp.ax (o:=.list (av ms)) ho)).mono (Hp.ax ((Hp.ay hb).trans hn))
theorem fL {b:Addr} {L:List V} (hb:b≠out) (hn:H b=none) (ms:List Nat):(H.out out ms).Sub ((H.out out ms).upd b (.list L)):=Hp.ax ((Hp.ay hb).trans hn)
theorem sI {b:Addr} {L:List V} {m:Nat} (hb:b≠out) (hl:ms.length<lim) (h:q .none ((H.out out (ms++ [m])).upd b (.list L))):DV (.ref out) ((H.out out ms).upd b (.list L))/\dD (.ref out) (nv m) ((H.out out ms).upd b (.list L)) q:=by
 have e:((H.out out ms).upd b (.list L)) out=some (.list (av ms)):=by rw [Hp.ay (Ne.symm hb)];exact Hp.ai ..
 refine ⟨gO e,qK e (by rw [Qd];exact hl) ?_⟩
 have:((H.out out ms).upd b (.list L)).upd out (.list (av ms++ [nv m]))=(H.out out (ms++ [m])).upd b (.list L):=by
  rw [Hp.bu _ _ _ (Ne.symm hb),Hp.eH,Hp.bu _ _ _ hb];show (H.upd out (.list (av ms++ [nv m]))).upd b (.list L)=(H.upd out (.list (List.map nv (ms++ [m])))).upd b (.list L);rw [Rd];rfl
 rw [this];exact h
theorem LW {m:Nat} (hl:ms.length<lim) (h:q .none (H.out out (ms++ [m]))):DV (.ref out) (H.out out ms)/\dD (.ref out) (nv m) (H.out out ms) q:=by
 refine ⟨gO (Hp.ai ..),qK (Hp.ai ..) (by rw [Qd];exact hl) ?_⟩
 have e:(H.out out ms).upd out (.list (av ms++ [nv m]))=H.out out (ms++ [m]):=by
  rw [Hp.eH];show H.upd out (.list (av ms++ [nv m]))=H.upd out (.list (List.map nv (ms++ [m])));rw [Rd];rfl
 rw [e];exact h
def yh:Prop:=∀(w:W H a G R) (g:cu G) (o:dR G R) (ho:H out=none) (hm:ms.length<=900000) (h:mY H out ms 128 (sO G R) q),Call (d+6) 69 [.ref a.p,.ref out] (H.out out ms) q
theorem K6:@yh d H a G R q out ms:=au (S:=λx:(Nat×Hp×Ad×aE)×(Rw×(V->Hp->Prop)×Addr×List Nat)=>@yh x.1.1 x.1.2.1 x.1.2.2.1 x.1.2.2.2 x.2.1 x.2.2.1 x.2.2.2.1 x.2.2.2.2) (x:=((0,λ_=>none,j0,bO),(fG,λ_ _=>True,0,[]))) (by
 refine (?_:∀d H a G R q out ms,@yh d H a G R q out ms) _ _ _ _ _ _ _ _;intro d H a G R q out ms w g o ho hm h;have w1:=w.mono (Hp.ax (o:=.list (av ms)) ho);have hc:=o.c2;refine aq rfl rfl ?_;refine aI ‹_› rfl ?_;refine bT (x:=2) (by decide) ?_;refine aI ‹_› rfl ?_;refine bT (x:=2) (by decide) ?_;refine p_add ?_;refine new_ (show 2<=lim by decide) λb hb=>?_;refine aD (Hp.none_of hb) λhb hn=>?_;refine gF (l:=[2*R.af,2*R.af+1]) hb (λρ'=>∃x1 x2 x3 x4 x5,ρ'=[some (.ref a.p),some (.ref out),x1,x2,x3,x4,x5]) (sO G R) 1 (show 2<=64 by decide) ⟨_,_,_,_,_,rfl⟩ (λs ms' ρ' K hs hE hm' hK=>?_) (λρ' ns _ hl hP=>?_)
 ·obtain ⟨x1,x2,x3,x4,x5,rfl⟩:=hE;have w2:=w.two ho (L:=av [2*R.af,2*R.af+1]) hb hn ms'
  have hs4:s<4/\s / 2=R.af:=by
   rcases Sw.mp hs with rfl | hs
   ·lia
   ·rw [Qt] at hs;subst hs;lia
  refine K7 w2 g o hs4.1 (λr hr=>?_) (λkf kt rf rt hk=>?_)
  ·refine aR ?_;refine ag (λe=>absurd e hr) (λ_=>?_);have:=hK [some (.ref a.p),some (.ref out),some (nv s),x2,x3,x4,x5] [] ⟨_,_,_,_,_,rfl⟩ (QS _) (λm hm=>absurd hm Rg);rw [RK] at this;exact this
  ·refine rW (g.cw s kf kt rf rt hk.1) λb1 b2 b3 b4 b5=>?_;have h25:=g.i3;refine aR ?_;refine ag (λ_=>?_) (λe=>absurd rfl e);refine aI ‹_› rfl ?_;refine eT ‹_› rfl ?_;refine vC w2 g hs4.1 ?_;rw [hk.1];refine mP rfl ?_;refine ⟨gO (by rw [Hp.ay (Ne.symm hb)];exact Hp.ai ..),?_⟩;refine BY (o:=kf) (t:=kt) (sp:=3) (pr:=0) (f:=0) (by exact f9 ‹_› ‹_› (by rfl)) (by exact f9 ‹_› ‹_› (by rfl)) (by decide) (by decide) (λe=>absurd e (by decide)) (λ_=>rfl) ?_;refine (sI hb (by show _<1000000;lia) ?_).2;refine aQ ?_
   exact hK _ [pk kf kt 3 0] ⟨_,_,_,_,_,rfl⟩ (Qn 1) λm hm=>by rw [Qt] at hm;subst hm;exact ⟨s,kf,kt,rf,rt,rfl,hs4.2,hk⟩
 ·exact dt _ (fL hb hn _) (h ns (by exact P8 ‹_› (by decide)) hP)) ((d,H,a,G),(R,q,out,ms))
theorem K5 (hx:x<64) (hy:y<2^64) (ho:H out=none) (hm:ms.length<=900000) (h:mY H out ms 64 (λm=>∃t,m=pk x t 0 0/\y.testBit t=true) q):Call (d+2) 70 [nv x,nv y,.ref out] (H.out out ms) q:=by
 refine aq rfl rfl ?_;refine qF hy λl hl hll b hb=>?_;refine aD (Hp.none_of hb) λhb hn=>?_;refine gF (l:=l) hb (λρ'=>∃z,ρ'=[some (nv x),some (nv y),some (.ref out),z]) (λm=>∃t,m=pk x t 0 0/\y.testBit t=true) 1 hll ⟨_,rfl⟩ (λs ms' ρ' K hs hE hm' hK=>?_) (λρ' ns _ hl hP=>?_)
 ·refine bJ hE ?_;rintro z rfl;have hs':=(hl s).mp hs;have h64:=dG hy hs';refine ⟨gO (by rw [Hp.ay (Ne.symm hb)];exact Hp.ai ..),?_⟩;refine BY (sp:=0) (pr:=0) (f:=0) hx h64 (by decide) (by decide) (λe=>absurd e (by decide)) (λ_=>rfl) ?_;refine (sI hb (by show _<1000000;lia) ?_).2;refine aQ ?_
  exact hK _ [pk x s 0 0] ⟨_,rfl⟩ (Qn 1) λm hm=>by rw [Qt] at hm;subst hm;exact ⟨s,rfl,hs'⟩
 ·exact dt _ (fL hb hn _) (h ns ‹_› hP)
def yg:Prop:=∀(w:W H a G R) (g:cu G) (o:dR G R) (hk:k<7) (ht:tgt<2^G.size) (ho:H out=none) (hm:ms.length<=800000) (h:mY H out ms 4096 (yT G R k tgt) q),Call (d+7) 71 [.ref a.p,nv k,nv tgt,.ref out] (H.out out ms) q
theorem Eh:@yg d k tgt H a G R q out ms:=au (S:=λx:(Nat×Nat×Nat×Hp)×(Ad×aE×Rw×(V->Hp->Prop))×(Addr×List Nat)=>@yg x.1.1 x.1.2.1 x.1.2.2.1 x.1.2.2.2 x.2.1.1 x.2.1.2.1 x.2.1.2.2.1 x.2.1.2.2.2 x.2.2.1 x.2.2.2) (x:=((0,0,0,λ_=>none),(j0,bO,fG,λ_ _=>True),(0,[]))) (by
 refine (?_:∀d k tgt H a G R q out ms,@yg d k tgt H a G R q out ms) _ _ _ _ _ _ _ _ _ _;intro d k tgt H a G R q out ms w g o hk ht ho hm h;have w1:=w.mono (Hp.ax (o:=.list (av ms)) ho);have hc:=o.c2;have h25:=g.i3;refine aq rfl rfl ?_;refine Ep w1 o ?_;refine aI ‹_› rfl ?_;refine A6 w1 o hc hk ?_;refine qF (g.tj (c7 (o.kb k))) λl hl hll b hb=>?_;refine aD (Hp.none_of hb) λhb hn=>?_;refine gF (l:=l) hb (λρ'=>∃z1 z2,ρ'=[some (.ref a.p),some (nv k),some (nv tgt),some (.ref out),some (nv (eO R)),z1,z2]) (yT G R k tgt) 64 hll ⟨_,_,rfl⟩ (λs ms' ρ' K hs hE hm' hK=>?_) (λρ' ns _ hl hP=>?_)
 ·refine AU hE ?_;rintro z1 z2 rfl;have hs':=(hl s).mp hs;have hsz:=dG (c7 (o.kb k)) hs';have w2:=w.two ho (L:=av l) hb hn ms';refine aI ‹_› rfl ?_;refine aI ‹_› rfl ?_;refine Lo w2 g hc hsz ?_;refine aS ?_;have e:(H.out out ms').upd b (.list (av l))=(H.upd b (.list (av l))).out out ms':=Hp.bu _ _ _ (Ne.symm hb);rw [e];refine K5 (by exact f9 ‹_› ‹_› (by rfl)) (g.tj (c7 ht)) (by rw [Hp.ay (Ne.symm hb)];exact ho) (by lia) λns hns hP=>?_;rw [show (H.upd b (.list (av l))).out out (ms'++ns)=(H.out out (ms'++ns)).upd b (.list (av l)) from (Hp.bu _ _ _ (Ne.symm hb)).symm];refine aQ ?_;refine hK _ ns ⟨_,_,rfl⟩ hns λm hm=>?_;refine ao (hP m hm) λt e1 e2=>?_;exact ⟨s,t,e1,hs',(aC.mp e2).1,(aC.mp e2).2⟩
 ·exact dt _ (fL hb hn _) (h ns ‹_› hP)) ((d,k,tgt,H),(a,G,R,q),(out,ms))
theorem K4 (w:W H a G R) (o:dR G R) (h:q (nv (ez G.full (Sd R R.af))) H):Call (d+2) 72 [.ref a.p,nv 2] H q:=by
 have hc:=o.c2;refine aq rfl rfl ?_;refine aR ?_;refine ag (λe=>absurd e (by decide)) λ_=>?_;refine aR ?_;refine ag (λe=>absurd e (by decide)) λ_=>?_;refine aI ‹_› rfl ?_;refine eT ‹_› rfl ?_;refine aI ‹_› rfl ?_;refine aI ‹_› rfl ?_;refine eU ‹_› ‹_› ‹_› ?_;refine jj ?_;refine gZ ?_;refine aj ?_;exact h
theorem Eg (w:W H a G R) (hc:c<2) (h:q (.int (if c=0 then (G.aa:Int) else -(G.aa:Int))) H):Call (d+1) 73 [.ref a.g,nv c] H q:=by
 refine aq rfl rfl ?_;refine aR ?_;refine ag (λe=>?_) λe=>?_
 ·rw [Qk e] at h;refine eT ‹_› rfl ?_;refine aj ?_;exact h
 ·rw [Qb e] at h;refine eT ‹_› rfl ?_;refine eP ?_;refine aj ?_;exact h
theorem K3 (w:W H a G R) (g:cu G) (hc:c<2) (h:q (nv (eY G c)) H):Call (d+1) 74 [.ref a.g,nv c] H q:=by
 have:=g.r0;refine aq rfl rfl ?_;refine aR ?_;refine ag (λe=>?_) λe=>?_
 ·refine eT ‹_› rfl ?_;refine zt (s:=1) w g (by exact Qp ‹_›) ?_;refine aj ?_;unfold eY at h;rw [Qk e] at h;exact h
 ·refine eT ‹_› rfl ?_;refine eT ‹_› rfl ?_;refine cH (y:=2) (by exact Qp ‹_›) ?_;refine zt w g (by exact s1 ‹_› (by rfl)) ?_;refine aj ?_;unfold eY at h;rw [Qb e] at h;exact h
theorem Ef (w:W H a G R) (g:cu G) (hc:c<2) (h:∀v:Nat,q (nv v) H):Call (d+1) 75 [.ref a.g,nv c] H q:=by
 have:=g.r0;refine aq rfl rfl ?_;refine aR ?_;refine ag (λe=>?_) λe=>?_
 ·refine eT ‹_› rfl ?_;refine eT ‹_› rfl ?_;refine cH (y:=1) (by exact RU ‹_›) ?_;refine zt w g (by exact s1 ‹_› (by rfl)) ?_;refine aj ?_;exact h _
 ·refine eT ‹_› rfl ?_;refine zt (s:=0) w g (by exact RU ‹_›) ?_;refine aj ?_;exact h _
noncomputable def zI (G:aE) (b c:Nat):Nat:=if c=0 then b <<< G.aa &&& G.full else b >>> G.aa
theorem cu.qz (g:cu G):G.aa<=25:=by
 have h1:=g.i3;have h2:=g.r0;unfold aE.size at h1;have:=Td G.aa (show 0<G.bE by exact RU ‹_›);exact P8 ‹_› ‹_›
theorem yf (w:W H a G R) (g:cu G) (hx:x<2^64) (h:q (nv (zI G x c)) H):Call (d+1) 76 [.ref a.g,nv x,nv c] H q:=by
 have:=g.qz;unfold zI at h;refine aq rfl rfl ?_;refine aR ?_;refine ag (λe=>?_) λe=>?_
 ·rw [Qk e] at h;refine eT ‹_› rfl ?_;refine gY (by exact P8 ‹_› (by decide)) hx ?_;refine eT ‹_› rfl ?_;refine aS ?_;refine aj ?_;exact h
 ·rw [Qb e] at h;refine eT ‹_› rfl ?_;refine cR ?_;refine aj ?_;exact h
theorem jK (hx:x<2^G.size):zI G x c<2^G.size:=by
 unfold zI;split
 ·exact c7 (by unfold aE.full;exact Nat.sub_one_lt (QL (Ro _)))
 ·rw [Qx];exact Qi (Tw ..) hx
noncomputable def IY (G:aE) (b c wg:Nat):Nat:=if wg=0 then zI G (ez b (G.fm.getD (G.aa-1) 0)) c <<< 1 else zI G (ez b (G.fm.getD 0 0)) c >>> 1
theorem KZ (w:W H a G R) (g:cu G) (hx:x<2^G.size) (h:q (nv (IY G x c y)) H):Call (d+2) 77 [.ref a.g,nv x,nv c,nv y] H q:=by
 have hf:=g.f0;unfold IY at h;refine aq rfl rfl ?_;refine aR ?_;refine ag (λe=>?_) λe=>?_
 ·rw [Qk e] at h;refine eT ‹_› rfl ?_;refine eT ‹_› rfl ?_;refine cH (y:=1) (by exact Qp ‹_›) ?_;refine Fs w g (by exact s1 ‹_› (by rfl)) ?_;refine jj ?_;refine gZ ?_;refine yf w g (g.tj (fS hx)) ?_;refine gY (y:=1) (by decide) (g.tj (jK (fS hx))) ?_;refine aj ?_;exact h
 ·rw [Qb e] at h;refine eT ‹_› rfl ?_;refine Fs (s:=0) w g (by exact Qp ‹_›) ?_;refine jj ?_;refine gZ ?_;refine yf w g (g.tj (fS hx)) ?_;refine cR ?_;refine aj ?_;exact h
end
section
variable {d x y s c k oc tgt:Nat} {H:Hp} {a:Ad} {G:aE} {R:Rw} {q:V->Hp->Prop} {out:Addr} {ms:List Nat}
theorem ly (h:(zI G x c).testBit y=true) (hc:c<2):∃o,x.testBit o=true/\(c=0/\y=o+G.aa\/c=1/\o=y+G.aa):=by
 unfold zI at h;split at h
 ·rename_i e;rw [aC,SH,Qa,Qh] at h;exact ⟨y-G.aa,h.1.2,.inl ⟨e,by have:=h.1.1;exact (SF ‹_›).symm⟩⟩
 ·rename_i e;rw [SD] at h;exact ⟨G.aa+y,h,.inr ⟨by exact Jj ‹_› ‹_›,by exact SG _ _⟩⟩
theorem iB:G.full<2^G.size:=by unfold aE.full;exact Nat.sub_one_lt (QL (Ro _))
def ML (G:aE) (R:Rw) (t:Nat):Prop:=∃o,(R.af=0/\t=o+G.aa\/R.af=1/\o=t+G.aa)/\fT R o/\¬(eO R).testBit t=true/\t<G.size
def PR (G:aE) (R:Rw) (t:Nat):Prop:=∃o p,(R.af=0/\p=o+G.aa/\t=p+G.aa\/R.af=1/\o=p+G.aa/\p=t+G.aa)/\(fT R o/\(eY G R.af).testBit o=true)/\¬(eO R).testBit p=true/\¬(eO R).testBit t=true/\t<G.size/\p<G.size
theorem dw (o:dR G R) {s:Nat} (h:fT R s):s<G.size:=dG (c7 (o.kb 1)) h
theorem HA (w:W H a G R) (g:cu G) (o:dR G R) (h:∀ones twos,ones<2^G.size->twos<2^G.size->(∀t,ones.testBit t=true->ML G R t)->(∀t,twos.testBit t=true->PR G R t)->q (.tup [nv ones,nv twos]) H):Call (d+2) 78 [.ref a.p,nv R.af] H q:=by
 have hc:=o.c2;have hp:Sd R R.af &&& K R 1<2^G.size:=c7 (o.kb 1);have he:∀{t:Nat},(ez G.full (eO R)).testBit t=true->¬(eO R).testBit t=true/\t<G.size:=λe=>⟨(iG.mp e).2,dG iB (iG.mp e).1⟩
 have p1:∀t,(zI G (Sd R R.af &&& K R 1) R.af &&& ez G.full (eO R)).testBit t=true->ML G R t:=λt e=>by
  refine ao (ly (aC.mp e).1 hc) λo' a1 a2=>?_;refine aD (he (aC.mp e).2) λb1 b2=>?_;exact ⟨o',a2,a1,b1,b2⟩
 refine aq rfl rfl ?_;refine aI ‹_› rfl ?_;refine eT ‹_› rfl ?_;refine Ep w o ?_;refine jj ?_;refine gZ ?_;refine A6 (k:=1) w o hc (by decide) ?_;refine yf w g (g.tj hp) ?_;refine aS ?_;refine eT ‹_› rfl ?_;refine dh (λe=>?_) (λe=>?_)
 ·refine K3 w g hc ?_;refine aS ?_;refine yf w g (g.tj (dA hp)) ?_;refine aS ?_;refine yf w g (g.tj (dA (jK (dA hp)))) ?_;refine aS ?_;refine ⟨show 2<=1000 by decide,?_⟩;refine aj ?_;refine h _ _ (dA (jK hp)) (dA (jK (dA (jK (dA hp))))) p1 λt e=>?_;refine ao (ly (aC.mp e).1 hc) λp a1 a2=>?_;refine aD (he (aC.mp e).2) λb1 b2=>?_;refine aD (he (aC.mp a1).2) λc1 c2=>?_;refine ao (ly (aC.mp a1).1 hc) λo' d1 d2=>?_;refine ⟨o',p,?_,aC.mp d1,c1,b1,b2,c2⟩;rcases a2 with ⟨x1,x2⟩ | ⟨x1,x2⟩
  ·rcases d2 with ⟨y1,y2⟩ | ⟨y1,y2⟩
   ·exact .inl ⟨x1,y2,x2⟩
   ·lia
  ·rcases d2 with ⟨y1,y2⟩ | ⟨y1,y2⟩
   ·lia
   ·exact .inr ⟨x1,y2,x2⟩
 ·refine ⟨show 2<=1000 by decide,?_⟩;refine aj ?_
  exact h _ _ (dA (jK hp)) (Ro _) p1 λt e=>by rw [Qr] at e;cases e
theorem Hz {cp:Bool} (hx:x<64) (hy:y<64) (hs:2<=s) (ho:H out=none) (hm:ms.length<=900000) (h:mY H out ms 256 (λm=>∃f,f<4/\m=pk x y 1 f) q):Call (d+2) 79 [nv x,nv y,nv s,.bool cp,.ref out] (H.out out ms) q:=by
 refine aq rfl rfl ?_;refine eD ?_;refine ag (λ_=>?_) (λe=>absurd (show s≠1 by exact QL ‹_›) e);refine ⟨gO (Hp.ai ..),?_⟩;refine BY (sp:=1) (pr:=5) (f:=3) hx hy (by decide) (by decide) (λ_=>rfl) (λe=>absurd rfl e) ?_;refine (LW (by show _<1000000;exact Qi ‹_› (by decide)) ?_).2;refine aQ ?_;refine aR ?_;refine ag (λe=>absurd (show s=0 from e) (by exact Q5 ‹_›)) λ_=>?_;refine aR ?_;refine ag (λe=>absurd (show s=1 from e) ‹_›) λ_=>?_;refine o9 ?_;refine new_ (show 3<=lim by decide) λb hb=>?_;refine aD (Hp.none_of hb) λhb hn=>?_;refine gF (l:=[4,3,2]) hb (λρ'=>∃z,ρ'=[some (nv x),some (nv y),some (nv s),some (.bool cp),some (.ref out),some (.bool true),z]) (λm=>∃f,f<4/\m=pk x y 1 f) 1 (by decide) ⟨_,rfl⟩ (λv ms' ρ' K hv hE hm' hK=>?_) (λρ' ns _ hl hP=>?_)
 ·refine bJ hE ?_;rintro z rfl
  have hv2:∃f,f<4/\v=f+2:=by
   have:v=4\/v=3\/v=2:=by simpa using hv
   exact ⟨v-2,by rcases ‹v=4\/v=3\/v=2› with rfl | rfl | rfl<;>decide,by rcases ‹v=4\/v=3\/v=2› with rfl | rfl | rfl<;>rfl⟩
  refine ao hv2 ?_;rintro f hf rfl;rw [Qc] at hm';simp only [SI] at hm';refine ⟨gO (by rw [Hp.ay (Ne.symm hb)];exact Hp.ai ..),?_⟩;refine BY (sp:=1) (f:=f) hx hy (by decide) hf (λ_=>rfl) (λe=>absurd rfl e) ?_;refine (sI hb (by show _<1000000;lia) ?_).2;refine aQ ?_
  exact hK _ [pk x y 1 f] ⟨_,rfl⟩ (Qn 1) λm hm=>by rw [Qt] at hm;exact ⟨f,hf,hm⟩
 ·refine dt _ (fL hb hn _) ?_;rw [Qm];refine h ([pk x y 1 3]++ns) (by rw [Qc];simp only [SI];exact P8 (QU ‹_› _) (by decide)) λm hm=>?_;rcases QF.mp hm with q | q
  ·rw [Qt] at q;exact ⟨3,by decide,q⟩
  ·exact hP m q
noncomputable def Cn (G:aE) (R:Rw):Int:=if R.af=0 then (G.aa:Int) else -(G.aa:Int)
theorem Fv {o t:Nat} (h:R.af=0/\t=o+G.aa\/R.af=1/\o=t+G.aa):(t:Int) -Cn G R=(o:Int):=by
 unfold Cn;split<;>lia
theorem Jz {o p t:Nat} (h:R.af=0/\p=o+G.aa/\t=p+G.aa\/R.af=1/\o=p+G.aa/\p=t+G.aa):(t:Int) -2*Cn G R=(o:Int):=by
 unfold Cn;split<;>lia
def ye:Prop:=∀(w:W H a G R) (g:cu G) (o:dR G R) (ht:tgt<2^G.size) (ho:H out=none) (hm:ms.length<=800000) (h:mY H out ms 128 (gr G R tgt) q),Call (d+3) 80 [.ref a.p,nv tgt,.ref out] (H.out out ms) q
theorem KY:@ye d tgt H a G R q out ms:=au (S:=λx:(Nat×Nat×Hp×Ad)×(aE×Rw×(V->Hp->Prop)×Addr)×List Nat=>@ye x.1.1 x.1.2.1 x.1.2.2.1 x.1.2.2.2 x.2.1.1 x.2.1.2.1 x.2.1.2.2.1 x.2.1.2.2.2 x.2.2) (x:=((0,0,λ_=>none,j0),(bO,fG,λ_ _=>True,0),[])) (by
 refine (?_:∀d tgt H a G R q out ms,@ye d tgt H a G R q out ms) _ _ _ _ _ _ _ _ _;intro d tgt H a G R q out ms w g o ht ho hm h;have w1:=w.mono (Hp.ax (o:=.list (av ms)) ho);have hc:=o.c2;have h25:=g.i3;have qz:=g.qz;refine aq rfl rfl ?_;refine aI ‹_› rfl ?_;refine aI ‹_› rfl ?_;refine Eg w1 hc ?_;refine aI ‹_› rfl ?_;refine HA w1 g o λones twos o1 o2 hp1 hp2=>?_;refine mP rfl ?_;refine aS ?_;refine aI ‹_› rfl ?_;refine Ef w1 g hc λv=>?_;refine jj ?_;refine gZ ?_;refine qF (g.tj (fS (dA o1))) λl hl hll b hb=>?_;refine aD (Hp.none_of hb) λhb hn=>?_;refine gF (l:=l) hb (λρ'=>∃z,ρ'=[some (.ref a.p),some (nv tgt),some (.ref out),some (.ref a.g),some (.int (Cn G R)),some (nv ones),some (nv twos),z]) (gr G R tgt) 1 hll ⟨_,rfl⟩ (λs ms' ρ' K hs hE hm' hK=>?_) (λρ' ns hE hl2 hP=>?_)
 ·refine bJ hE ?_;rintro z rfl;have hs':=(hl s).mp hs;refine Ha (hp1 s (aC.mp (iG.mp hs').1).1) λo' e1 e2 e3 e4=>?_;have ho':=dw o e2;refine ⟨gO (by rw [Hp.ay (Ne.symm hb)];exact Hp.ai ..),?_⟩;refine dc ?_;rw [Fv e1];refine BY (sp:=0) (pr:=0) (f:=0) (by exact f9 ‹_› ‹_› (by rfl)) (by exact f9 ‹_› ‹_› (by rfl)) (by decide) (by decide) (λe=>absurd e (by decide)) (λ_=>rfl) ?_;refine (sI hb (by show _<1000000;lia) ?_).2;refine aQ ?_
  exact hK _ [pk o' s 0 0] ⟨_,rfl⟩ (Qn 1) λm hm=>by rw [Qt] at hm;subst hm;exact .inl ⟨o',s,0,0,rfl,by decide,.inl ⟨rfl,rfl⟩,e1,e2,e3,e4,(aC.mp (iG.mp hs').1).2⟩
 ·refine bJ hE ?_;rintro z rfl;refine aS ?_;refine qF (g.tj (dA o2)) λl2 hl' hll' b2 hb2=>?_;refine aD (Hp.none_of hb2) λhb2 hn2=>?_;refine aD (Hp.none_of hn2) λhb3 hn3=>?_
  have e0:((H.out out (ms++ns)).upd b (.list (av l))).upd b2 (.list (av l2))=((H.upd b (.list (av l))).out out (ms++ns)).upd b2 (.list (av l2)):=by rw [Hp.bu _ _ _ (Ne.symm hb)]
  rw [e0];refine gF (l:=l2) hb3 (λρ'=>∃z,ρ'=[some (.ref a.p),some (nv tgt),some (.ref out),some (.ref a.g),some (.int (Cn G R)),some (nv ones),some (nv twos),z]) (gr G R tgt) 1 hll' ⟨_,rfl⟩ (λs ms' ρ' K hs hE hm' hK=>?_) (λρ' ns2 hE hl3 hP2=>?_)
  ·refine bJ hE ?_;rintro z rfl;have hs':=(hl' s).mp hs;refine D9 (hp2 s (aC.mp hs').1) λo' p e1 e2 e3 e4 e5 e6=>?_;have ho':=dw o e2.1;rw [Qc] at hm';refine ⟨gO (by rw [Hp.ay (Ne.symm hb3)];exact Hp.ai ..),?_⟩;refine wy (x:=2) (by decide) ?_;refine dc ?_;rw [Jz e1];refine BY (sp:=0) (pr:=0) (f:=0) (by exact f9 ‹_› ‹_› (by rfl)) (by exact f9 ‹_› ‹_› (by rfl)) (by decide) (by decide) (λe=>absurd e (by decide)) (λ_=>rfl) ?_;refine (sI hb3 (by show _<1000000;lia) ?_).2;refine aQ ?_
   exact hK _ [pk o' s 0 0] ⟨_,rfl⟩ (Qn 1) λm hm=>by rw [Qt] at hm;subst hm;exact .inr (.inl ⟨o',p,s,rfl,e1,e2,e3,e4,e5,e6,(aC.mp hs').2⟩)
  ·refine dt (H.out out (ms++ (ns++ns2))) ?_ (h (ns++ns2) (by rw [Qc];exact P8 (Sf ‹_› ‹_›) (by decide)) λm hm=>(QF.mp hm).elim (hP m) (hP2 m));rw [Qm];have e1:(H.upd b (.list (av l))).out out (ms++ (ns++ns2))=(H.out out (ms++ (ns++ns2))).upd b (.list (av l)):=Hp.bu _ _ _ hb
   have s2:((H.out out (ms++ (ns++ns2))).upd b (.list (av l))).Sub (((H.upd b (.list (av l))).out out (ms++ (ns++ns2))).upd b2 (.list (av l2))):=by
    rw [<- e1];exact Hp.ax ((Hp.ay hb3).trans ((Hp.ay hb2).trans hn3))
   exact Hp.Sub.trans (fL hb hn _) s2) ((d,tgt,H,a),(G,R,q,out),ms)
def yd:Prop:=∀(w:W H a G R) (g:cu G) (o:dR G R) (hst:2<=s) (ht:tgt<2^G.size) (ho:H out=none) (hm:ms.length<=800000) (h:mY H out ms 16384 (gr G R tgt) q),Call (d+3) 81 [.ref a.p,nv s,nv tgt,.ref out] (H.out out ms) q
theorem KW:@yd d s tgt H a G R q out ms:=au (S:=λx:(Nat×Nat×Nat×Hp)×(Ad×aE×Rw×(V->Hp->Prop))×(Addr×List Nat)=>@yd x.1.1 x.1.2.1 x.1.2.2.1 x.1.2.2.2 x.2.1.1 x.2.1.2.1 x.2.1.2.2.1 x.2.1.2.2.2 x.2.2.1 x.2.2.2) (x:=((0,0,0,λ_=>none),(j0,bO,fG,λ_ _=>True),(0,[]))) (by
 refine (?_:∀d s tgt H a G R q out ms,@yd d s tgt H a G R q out ms) _ _ _ _ _ _ _ _ _ _;intro d s tgt H a G R q out ms w g o hst ht ho hm h;have w1:=w.mono (Hp.ax (o:=.list (av ms)) ho);have hc:=o.c2;have h25:=g.i3;refine aq rfl rfl ?_;refine aI ‹_› rfl ?_;refine aI ‹_› rfl ?_;refine Eg w1 hc ?_;refine aI ‹_› rfl ?_;refine HA w1 g o λones twos o1 o2 hp1 hp2=>?_;refine dU (i:=0) rfl ?_;refine aS ?_;refine aI ‹_› rfl ?_;refine Ef w1 g hc λv=>?_;refine aS ?_;refine qF (g.tj (dA (dA o1))) λl hl hll b hb=>?_;refine aD (Hp.none_of hb) λhb hn=>?_;refine gF (l:=l) hb (λρ'=>∃z,ρ'=[some (.ref a.p),some (nv s),some (nv tgt),some (.ref out),some (.ref a.g),some (.int (Cn G R)),some (nv ones),z]) (gr G R tgt) 256 hll ⟨_,rfl⟩ (λv' ms' ρ' K hs hE hm' hK=>?_) (λρ' ns hE hl2 hP=>?_)
 ·refine bJ hE ?_;rintro z rfl;have hs':=(hl v').mp hs;refine Ha (hp1 v' (aC.mp (aC.mp hs').1).1) λo' e1 e2 e3 e4=>?_;have ho':=dw o e2;refine dc ?_;rw [Fv e1];have e:(H.out out ms').upd b (.list (av l))=(H.upd b (.list (av l))).out out ms':=Hp.bu _ _ _ (Ne.symm hb);rw [e];refine Hz (by exact f9 ‹_› ‹_› (by rfl)) (by exact f9 ‹_› ‹_› (by rfl)) hst (by rw [Hp.ay (Ne.symm hb)];exact ho) (by lia) λns hns hP=>?_;rw [show (H.upd b (.list (av l))).out out (ms'++ns)=(H.out out (ms'++ns)).upd b (.list (av l)) from (Hp.bu _ _ _ (Ne.symm hb)).symm];refine aQ ?_;refine hK _ ns ⟨_,rfl⟩ hns λm hm=>?_;refine ao (hP m hm) ?_;rintro f f4 rfl;exact .inl ⟨o',v',1,f,rfl,f4,.inr rfl,e1,e2,e3,e4,(aC.mp (aC.mp hs').1).2⟩
 ·exact dt _ (fL hb hn _) (h ns ‹_› hP)) ((d,s,tgt,H),(a,G,R,q),(out,ms))
end
section
variable {d x y s c k oc tgt:Nat} {H:Hp} {a:Ad} {G:aE} {R:Rw} {q:V->Hp->Prop} {out:Addr} {ms:List Nat}
theorem Cj (h:(IY G x c s).testBit y=true) (hc:c<2) (hs:s<2):∃o,x.testBit o=true/\sP G c o y/\(y:Int) - ((if c=0 then (G.aa:Int) else -(G.aa:Int))+1-2*s)=o:=by
 unfold IY at h;split at h
 ·rename_i e;subst e;rw [SH,Qa,Qh] at h;refine ao (ly h.2 hc) λo h1 h2=>?_;have h3:=iG.mp h1;refine ⟨o,h3.1,.inl ⟨h3.2,?_⟩,?_⟩
  ·exact MI h.1 h2
  ·have:=MI h.1 h2;clear h h1 h2 h3;split<;>lia
 ·rename_i e
  obtain rfl:s=1:=by exact Jj ‹_› ‹_›
  rw [SD] at h;refine ao (ly h hc) λo h1 h2=>?_;have h3:=iG.mp h1;refine ⟨o,h3.1,.inr ⟨h3.2,?_⟩,?_⟩
  ·lia
  ·clear h h1 h3;split<;>lia
theorem Hp.Jr (H:Hp) {a b c:Addr} (x y z:Ob) (h1:a≠b) (h2:a≠c) (h3:b≠c):((H.upd a x).upd b y).upd c z=((H.upd c z).upd b y).upd a x:=by
 rw [Hp.bu H x y h1,Hp.bu (H.upd b y) x z h2,Hp.bu H y z h3]
theorem i8 {H H':Hp} (h:H.Sub H') (X:List Nat):(H.out out X).Sub (H'.out out X):=λb p e=>by
 have e':(H.upd out (.list (av X))) b=some p:=e;show (H'.upd out (.list (av X))) b=some p;by_cases k:b=out
 ·subst k;rw [Hp.ai] at e' ⊢;exact e'
 ·rw [Hp.ay k] at e' ⊢;exact h b p e'
def yc:Prop:=∀(w:W H a G R) (g:cu G) (o:dR G R) (hst:2<=s) (ht:tgt<2^G.size) (ho:H out=none) (hm:ms.length<=700000) (h:mY H out ms 40000 (Jf G R tgt) q),Call (d+3) 82 [.ref a.p,nv s,nv tgt,.ref out] (H.out out ms) q
theorem KV:@yc d s tgt H a G R q out ms:=au (S:=λx:(Nat×Nat×Nat×Hp)×(Ad×aE×Rw×(V->Hp->Prop))×(Addr×List Nat)=>@yc x.1.1 x.1.2.1 x.1.2.2.1 x.1.2.2.2 x.2.1.1 x.2.1.2.1 x.2.1.2.2.1 x.2.1.2.2.2 x.2.2.1 x.2.2.2) (x:=((0,0,0,λ_=>none),(j0,bO,fG,λ_ _=>True),(0,[]))) (by
 refine (?_:∀d s tgt H a G R q out ms,@yc d s tgt H a G R q out ms) _ _ _ _ _ _ _ _ _ _;intro d s tgt H a G R q out ms w g o hst ht ho hm h;have w1:=w.mono (Hp.ax (o:=.list (av ms)) ho);have hc:=o.c2;have h25:=g.i3;have hp:Sd R R.af &&& K R 1<2^G.size:=c7 (o.kb 1);have h1:1-R.af<2:=pY;refine aq rfl rfl ?_;refine aI ‹_› rfl ?_;refine aI ‹_› rfl ?_;refine Ef w1 g hc λlast=>?_;refine A6 (k:=1) w1 o hc (by decide) ?_;refine aI ‹_› rfl ?_;refine dy ‹_› ?_;refine eU ‹_› ‹_› ‹_› ?_;refine aS ?_;refine new_ (show 2<=lim by decide) λb hb=>?_;refine aD (Hp.none_of hb) λhb hn=>?_
 refine forL (Hp.ai ..) (λn ρ' H'=>(∃z1 z2 z3,ρ'=[some (.ref a.p),some (nv s),some (nv tgt),some (.ref out),some (.ref a.g),some (nv R.af),some (nv last),some (nv (Sd R R.af &&& K R 1)),some (nv (tgt &&& Sd R (1-R.af))),z1,z2,z3])/\∃ns Hx,ns.length<=n*16384/\(∀m∈ns,Jf G R tgt m)/\
  H.Sub Hx/\Hx out=none/\Hx b=none/\H'=(Hx.out out (ms++ns)).upd b (.list (av [0,1]))) (λn v ρ' H' K0 hv hI hK _ _=>?_) (λρ' H' hI=>?_) ⟨⟨_,_,_,rfl⟩,[],H,QS _,λm hm=>absurd hm Rg,Hp.Sub.refl H,ho,hn,by rw [RK];rfl⟩
 ·obtain ⟨⟨z1,z2,z3,rfl⟩,ns,Hx,hns,hP,hsub,hox,hbx,rfl⟩:=hI
  have hn2:n<2/\v=nv n:=by
   match n,hv with
   | 0,hv=>exact ⟨by decide,(Option.some.inj hv).symm⟩
   | 1,hv=>exact ⟨by decide,(Option.some.inj hv).symm⟩
   | n+2,hv=>cases hv
  obtain ⟨hn2,rfl⟩:=hn2;have w2:=(w.mono hsub).two hox (L:=av [0,1]) hb hbx (ms++ns);refine ⟨Hp.ai ..,?_⟩;refine Eg w2 hc ?_;refine g5 (y:=1) ?_;refine bT (x:=2) (by decide) ?_;refine dc ?_;refine KZ w2 g hp ?_;refine aS ?_;refine qF (g.tj (c7 (c7 (o.sb _)))) λl hl hll b2 hb2=>?_;refine aD (Hp.none_of hb2) λhb2 hn3=>?_;refine aD (Hp.none_of hn3) λhb3 hn4=>?_
  have e0:((Hx.out out (ms++ns)).upd b (.list (av [0,1]))).upd b2 (.list (av l))=((Hx.upd b (.list (av [0,1]))).out out (ms++ns)).upd b2 (.list (av l)):=by rw [Hp.bu _ _ _ (Ne.symm hb)]
  have hob:(Hx.upd b (.list (av [0,1]))) out=none:=(Hp.ay (Ne.symm hb)).trans hox;have hns':ns.length<=32768:=P8 hns (by lia);rw [e0];refine gF (l:=l) hb3 (λρ'=>∃z,ρ'=[some (.ref a.p),some (nv s),some (nv tgt),some (.ref out),some (.ref a.g),some (nv R.af),some (nv last),some (nv (Sd R R.af &&& K R 1)),some (nv (tgt &&& Sd R (1-R.af))),some (nv n),some (.int ((if R.af=0 then (G.aa:Int) else -(G.aa:Int))+1-2*n)),z]) (Jf G R tgt) 256 hll ⟨_,by push_cast;rfl⟩ (λv' ms' ρ' K2 hs hE hm' hK2=>?_) (λρ' ns2 hE hl3 hP2=>?_)
  ·refine bJ hE ?_;rintro z rfl;have hs':=(hl v').mp hs;refine gP (Cj (aC.mp hs').1 hc hn2) λo' e1 e2 e3=>?_;have ho':=dw o e1;have hv':=dG (c7 (o.sb _)) (aC.mp hs').2;have e4:=aC.mp (aC.mp hs').2;rw [Qc] at hm';refine cb (by exact gD ‹_› ‹_› (by rfl)) ?_;refine aS ?_;refine dI (λe=>?_) (λe=>?_)
   ·refine dc ?_;rw [e3];have e:((Hx.upd b (.list (av [0,1]))).out out ms').upd b2 (.list (av l))=((Hx.upd b (.list (av [0,1]))).upd b2 (.list (av l))).out out ms':=Hp.bu _ _ _ (Ne.symm hb3);rw [e];refine Hz (by exact f9 ‹_› ‹_› (by rfl)) (by exact f9 ‹_› ‹_› (by rfl)) hst (by rw [Hp.ay (Ne.symm hb3)];exact hob) (by lia) λns hns hP=>?_;rw [show ((Hx.upd b (.list (av [0,1]))).upd b2 (.list (av l))).out out (ms'++ns)=((Hx.upd b (.list (av [0,1]))).out out (ms'++ns)).upd b2 (.list (av l)) from (Hp.bu _ _ _ (Ne.symm hb3)).symm];refine aQ ?_;refine hK2 _ ns ⟨_,rfl⟩ hns λm hm=>?_;refine ao (hP m hm) ?_;rintro f f4 rfl;exact ⟨o',v',1,f,rfl,f4,.inr rfl,e2,e1,e4.2,e4.1⟩
   ·refine ⟨gO (by rw [Hp.ay (Ne.symm hb3)];exact Hp.ai ..),?_⟩;refine dc ?_;rw [e3];refine BY (sp:=0) (pr:=0) (f:=0) (by exact f9 ‹_› ‹_› (by rfl)) (by exact f9 ‹_› ‹_› (by rfl)) (by decide) (by decide) (λe=>absurd e (by decide)) (λ_=>rfl) ?_;refine (sI hb3 (by show _<1000000;lia) ?_).2;refine aQ ?_
    exact hK2 _ [pk o' v' 0 0] ⟨_,rfl⟩ (show 1<=256 by decide) λm hm=>by rw [Qt] at hm;subst hm;exact ⟨o',v',0,0,rfl,by decide,.inl ⟨rfl,rfl⟩,e2,e1,e4.2,e4.1⟩
  ·refine bJ hE ?_;rintro z rfl;refine hK _ _ ⟨⟨_,_,_,rfl⟩,ns++ns2,Hx.upd b2 (.list (av l)),by rw [Qc];lia,λm hm=>(QF.mp hm).elim (hP m) (hP2 m),hsub.trans (Hp.ax hn4),(Hp.ay (Ne.symm hb3)).trans hox,(Hp.ay (Ne.symm hb2)).trans hbx,?_⟩;rw [Qm];show ((Hx.upd b (.list (av [0,1]))).upd out (.list (av (ms++ (ns++ns2))))).upd b2 (.list (av l))=((Hx.upd b2 (.list (av l))).upd out (.list (av (ms++ (ns++ns2))))).upd b (.list (av [0,1]));exact Hp.Jr _ _ _ _ hb (Ne.symm hb2) (Ne.symm hb3)
 ·obtain ⟨⟨z1,z2,z3,rfl⟩,ns,Hx,hns,hP,hsub,hox,hbx,rfl⟩:=hI;refine ⟨Hp.ai ..,?_⟩
  exact dt _ ((i8 hsub _).trans (fL hb hbx _)) (h ns (P8 hns (show 2*16384<=40000 by decide)) hP)) ((d,s,tgt,H),(a,G,R,q),(out,ms))
theorem Hy (w:W H a G R) (g:cu G) (o:dR G R) (hst:2<=s) (ht:tgt<2^G.size) (ho:H out=none) (hm:ms.length<=600000) (h:mY H out ms 60000 (gr G R tgt) q):Call (d+4) 83 [.ref a.p,nv s,nv tgt,.ref out] (H.out out ms) q:=by
 refine aq rfl rfl ?_;refine eD ?_;refine ag (λ_=>?_) (λe=>absurd (show s≠0 by exact Q5 ‹_›) e);refine KY w g o ht ho (by exact P8 ‹_› (by decide)) λns1 l1 p1=>?_;refine aQ ?_;refine KW w g o hst ht ho (by rw [Qc];exact P8 (Sf ‹_› ‹_›) (by decide)) λns2 l2 p2=>?_;refine aQ ?_;refine eD ?_;refine ag (λ_=>?_) (λe=>absurd (show s≠1 by exact QL ‹_›) e);refine KV w g o hst ht ho (by rw [Qc,Qc];lia) λns3 l3 p3=>?_;refine aQ ?_;refine fN ?_;rw [Qm,Qm];refine h (ns1++ (ns2++ns3)) (by rw [Qc,Qc];lia) λm hm=>?_;rcases QF.mp hm with q | q
 ·exact p1 m q
 ·rcases QF.mp q with q | q
  ·exact p2 m q
  ·exact .inr (.inr (p3 m q))
def yb:Prop:=∀(w:W H a G R) (g:cu G) (o:dR G R) (ho:H out=none) (hm:ms.length<=900000) (h:mY H out ms 64 (Bl G R) q),Call (d+2) 84 [.ref a.p,.ref out] (H.out out ms) q
theorem Hw:@yb d H a G R q out ms:=au (S:=λx:(Nat×Hp×Ad×aE)×(Rw×(V->Hp->Prop)×Addr×List Nat)=>@yb x.1.1 x.1.2.1 x.1.2.2.1 x.1.2.2.2 x.2.1 x.2.2.1 x.2.2.2.1 x.2.2.2.2) (x:=((0,λ_=>none,j0,bO),(fG,λ_ _=>True,0,[]))) (by
 refine (?_:∀d H a G R q out ms,@yb d H a G R q out ms) _ _ _ _ _ _ _ _;intro d H a G R q out ms w g o ho hm h;have w1:=w.mono (Hp.ax (o:=.list (av ms)) ho);have hc:=o.c2;have h1:1-R.af<2:=pY;have h25:=g.i3;refine aq rfl rfl ?_;refine aI ‹_› rfl ?_;refine nU ?_;refine ag (λe=>?_) (λe=>?_)
 ·refine aj ?_;have:=h [] (QS _) (λm hm=>absurd hm Rg);rw [RK] at this;exact this
 ·refine bJ (RP (show 0<=R.ep by have:=e;exact Int.not_lt.mp ‹_›)) λt ht=>?_
  have htz:t<G.size:=by have:=o.e1;lia
  refine aI ‹_› rfl ?_;refine eT ‹_› rfl ?_;refine aI ‹_› rfl ?_;refine dy ‹_› ?_;refine oj ‹_› ‹_› ?_;refine aI ‹_› rfl ?_;rw [ht];refine zu w1 g h1 htz ?_;refine aI ‹_› rfl ?_;refine A6 (k:=1) w1 o hc (by decide) ?_;refine aS ?_;refine qF (g.tj (c7 (c7 (o.kb 1)))) λl hl hll b hb=>?_;refine aD (Hp.none_of hb) λhb hn=>?_;refine gF (l:=l) hb (λρ'=>∃z,ρ'=[some (.ref a.p),some (.ref out),some (nv (ct G (1-R.af) t &&& (Sd R R.af &&& K R 1))),z]) (Bl G R) 1 hll ⟨_,rfl⟩ (λv' ms' ρ' K2 hs hE hm' hK2=>?_) (λρ' ns2 hE hl3 hP2=>?_)
  ·refine bJ hE ?_;rintro z rfl;have hs':=aC.mp ((hl v').mp hs);have ho':=dw o hs'.2;have w2:=w.two ho (L:=av l) hb hn ms';refine ⟨gO (by rw [Hp.ay (Ne.symm hb)];exact Hp.ai ..),?_⟩;refine aI ‹_› rfl ?_;rw [ht];refine BY (sp:=2) (pr:=0) (f:=0) (by exact f9 ‹_› ‹_› (by rfl)) (by exact f9 ‹_› ‹_› (by rfl)) (by decide) (by decide) (λe=>absurd e (by decide)) (λ_=>rfl) ?_;refine (sI hb (by show _<1000000;lia) ?_).2;refine aQ ?_
   exact hK2 _ [pk v' t 2 0] ⟨_,rfl⟩ (Qn 1) λm hm=>by rw [Qt] at hm;subst hm;exact ⟨v',t,rfl,ht,hs'.1,hs'.2⟩
  ·exact dt _ (fL hb hn _) (h ns2 ‹_› hP2)) ((d,H,a,G),(R,q,out,ms))
theorem pI (g:cu G):a7 G x y<2^G.size:=by
 unfold a7;split
 ·exact Ro _
 ·exact c7 (g.rb _ _)
theorem KU (w:W H a G R) (g:cu G) (o:dR G R) (kk:dj G R R.af k) (hx:x<2^G.size) (h0:q (nv 0) H) (h:∀s,x=2^s->q (nv (x ||| a7 G k s)) H):Call (d+4) 85 [.ref a.p,nv x] H q:=by
 have hc:=o.c2;have h25:=g.i3;refine aq rfl rfl ?_;refine aR ?_;refine ag (λe=>?_) (λe=>?_)
 ·refine ag (λ_=>?_) (λk=>absurd e k);refine aj ?_;exact h0
 ·refine HQ e ?_;refine ag (λe2=>?_) (λe2=>?_)
  ·refine aj ?_;exact h0
  ·refine bJ (Ac e (QD.mp e2)) λs hs=>?_;have hsz:s<G.size:=dG hx (by rw [hs,Nat.testBit_two_pow_self]);refine aI ‹_› rfl ?_;refine aI ‹_› rfl ?_;refine si w g o hc kk ?_;rw [hs];refine HP (by exact f9 ‹_› ‹_› (by rfl)) ?_;refine HD w g kk.2 hsz ?_;refine cW ?_;refine aj ?_;rw [<- hs];exact h s hs
theorem KR (w:W H a G R) (g:cu G) (o:dR G R) {t:Nat} (ht:R.ep=t) (h:q (nv (if R.af=0 then t-G.aa else t+G.aa)) H):Call (d+1) 86 [.ref a.p] H q:=by
 have hf:=(o.ef (by lia)).1;refine aq rfl rfl ?_;refine aI ‹_› rfl ?_;refine aR ?_;refine ag (λe=>?_) (λe=>?_)
 ·rw [Qk e] at h;refine aI ‹_› rfl ?_;refine aI ‹_› rfl ?_;refine eT ‹_› rfl ?_;rw [ht];refine cH (by lia) ?_;refine aj ?_;exact h
 ·rw [Qb e] at h;refine aI ‹_› rfl ?_;refine aI ‹_› rfl ?_;refine eT ‹_› rfl ?_;rw [ht];refine p_add ?_;refine aj ?_;exact h
theorem KQ (w:W H a G R) (g:cu G) (o:dR G R) (h:∀b,q (.bool b) H):Call (d+2) 87 [.ref a.p,nv x] H q:=by
 have h25:=g.i3;have qz:=g.qz;refine aq rfl rfl ?_;refine aI ‹_› rfl ?_;refine nU ?_;refine ag (λe=>?_) (λe=>?_)
 ·refine aj ?_;exact h _
 ·refine bJ (RP (show 0<=R.ep by have:=e;exact Int.not_lt.mp ‹_›)) λt ht=>?_
  have htz:t<G.size:=by have:=o.e1;lia
  refine aI ‹_› rfl ?_;rw [ht];refine cb (by exact gD ‹_› ‹_› (by rfl)) ?_;refine KR w g o ht ?_;refine cb (by split<;>lia) ?_;refine cW ?_;refine aS ?_;refine eD ?_;refine aj ?_;exact h _
def sN (G:aE) (R:Rw) (k m:Nat):Prop:=
 (∃s,ff G R k (eO R) &&& Sd R (1-R.af)=2^s/\(gr G R (2^s ||| a7 G k s) m\/Bl G R m\/∃kd,2<=kd/\kd<=5/\yT G R kd (2^s ||| a7 G k s) m))\/yT G R 6 (ez G.full (Sd R R.af)) m
def EX (G:aE) (R:Rw) (m:Nat):Prop:=
 gr G R G.full m\/Bl G R m\/(∃kd,2<=kd/\kd<=6/\yT G R kd (ez G.full (Sd R R.af)) m)\/sO G R m
theorem qx {body:Lc->Hp->(Fl->Lc->Hp->Prop)->Prop} {i:Nat} {O:Lc} {Q:Fl->Lc->Hp->Prop} {b:Addr} {l:List Nat} {n:Nat} (hb:b≠out) (hn:H b=none) (E:Lc->Prop) (P:Nat->Prop) (c:Nat) (hl:l.length<=n) (hE:E O)
 (step:∀kd ms' ρ' K0,kd∈l->E ρ'->ms'.length<=ms.length+n*c->(∀ρ'' ns,E ρ''->ns.length<=c->(∀m∈ns,P m)->K0 Fl.next ρ'' ((H.upd b (.list (av l))).out out (ms'++ns)))->body (cV ρ' i (nv kd)) ((H.upd b (.list (av l))).out out ms') K0)
 (fin:∀ρ'' ns,E ρ''->ns.length<=n*c->(∀m∈ns,P m)->Q .next ρ'' ((H.upd b (.list (av l))).out out (ms++ns))) :
 fj body i (.ref b) O ((H.upd b (.list (av l))).out out ms) Q:=by
 have at_:∀X:List Nat,((H.upd b (.list (av l))).out out X) b=some (.list (av l)):=λX=>(Hp.ay hb).trans (Hp.ai ..);refine forL (at_ _) (λj ρ' H'=>E ρ'/\∃ns,ns.length<=j*c/\(∀m∈ns,P m)/\H'=(H.upd b (.list (av l))).out out (ms++ns)) (λj v ρ' H' K0 hv hI hn _ _=>?_) (λρ' H' hI=>?_) ⟨hE,[],QS _,λm hm=>absurd hm Rg,by rw [RK]⟩
 ·obtain ⟨hE,ns,hns,hP,rfl⟩:=hI;refine ⟨at_ _,?_⟩;refine aD (jy rfl hv) ?_;rintro hk rfl;have h1:j*c<=n*c:=QN c (by exact Qp (P7 ‹_› ‹_›));refine step (l.getD j 0) (ms++ns) ρ' K0 ?_ hE (by rw [Qc];lia) λρ'' ns' hE' hns' hP'=>hn _ _ ⟨hE',ns++ns',by rw [Qc,TU];exact Sf ‹_› ‹_›,λm hm=>(QF.mp hm).elim (hP m) (hP' m),by rw [Qm]⟩;rw [P9,Qg hk];exact Sb hk
 ·obtain ⟨hE,ns,hns,hP,rfl⟩:=hI;rw [Qd] at hns;exact ⟨at_ _,fin _ _ hE (P8 hns (QN c hl)) hP⟩
def ya:Prop:=∀(w:W H a G R) (g:cu G) (o:dR G R) (kk:dj G R R.af k) (ho:H out=none) (hm:ms.length<=100) (h:mY H out ms 90000 (sN G R k) q),Call (d+9) 88 [.ref a.p,.ref out] (H.out out ms) q
theorem KP:@ya d k H a G R q out ms:=au (S:=λx:(Nat×Nat×Hp×Ad)×(aE×Rw×(V->Hp->Prop)×Addr)×List Nat=>@ya x.1.1 x.1.2.1 x.1.2.2.1 x.1.2.2.2 x.2.1.1 x.2.1.2.1 x.2.1.2.2.1 x.2.1.2.2.2 x.2.2) (x:=((0,0,λ_=>none,j0),(bO,fG,λ_ _=>True,0),[])) (by
 refine (?_:∀d k H a G R q out ms,@ya d k H a G R q out ms) _ _ _ _ _ _ _ _ _;intro d k H a G R q out ms w g o kk ho hm h;have w1:=w.mono (Hp.ax (o:=.list (av ms)) ho);have hc:=o.c2;have hgl:ff G R k (eO R) &&& Sd R (1-R.af)<2^G.size:=c7 (o.sb _);have hfl:ez G.full (Sd R R.af)<2^G.size:=fS iB
 have last:∀(Hx:Hp) (z:Option V) (tg:V) (ns:List Nat),H.Sub Hx->Hx out=none->ns.length<=80000->(∀m∈ns,sN G R k m)->
  aO (Call (d+8)) (.cons (.aG (.call 71 (.cons (.loc 0) (.cons (.bC 6) (.cons (.bin .and (.attr (.attr (.loc 0) 18) 7) (.inv (.sub (.attr (.loc 0) 22) (.attr (.loc 0) 3)))) (.cons (.loc 1) .nil)))))) .nil) [some (.ref a.p),some (.ref out),some tg,z] (Hx.out out (ms++ns)) (dq q):=λHx z tg ns hs hx hl hP=>by
  have wx:=w.mono hs;have wx1:=wx.mono (Hp.ax (o:=.list (av (ms++ns))) hx);refine aI ‹_› rfl ?_;refine eT ‹_› rfl ?_;refine aI ‹_› rfl ?_;refine aI ‹_› rfl ?_;refine eU ‹_› ‹_› ‹_› ?_;refine jj ?_;refine gZ ?_;refine Eh (k:=6) wx g o (by decide) hfl hx (by rw [Qc];exact P8 (Sf ‹_› ‹_›) (by decide)) λns2 l2 p2=>?_;refine aQ ?_;refine dt _ (i8 hs _) ?_;rw [Qm];exact h (ns++ns2) (by rw [Qc];exact P8 (Sf ‹_› ‹_›) (by decide)) λm hm=>(QF.mp hm).elim (hP m) λk=>.inr (p2 m k)
 refine aq rfl rfl ?_;refine Li w1 g o kk ?_;refine KU w1 g o kk hgl ?_ λs hs=>?_
 ·refine dI (λe=>absurd rfl e) λ_=>?_;have:=last H none (nv 0) [] (Hp.Sub.refl H) ho (QS _) (λm hm=>absurd hm Rg);rw [RK] at this;exact this
 ·have htg:(ff G R k (eO R) &&& Sd R (1-R.af)) ||| a7 G k s<2^G.size:=Nat.or_lt_two_pow hgl (pI g);refine dI (λ_=>?_) λe=>?_
  ·refine Hy (s:=3) w g o (by decide) htg ho (by exact P8 ‹_› (by decide)) λns1 l1 p1=>?_;refine aQ ?_;refine KQ (w.mono (Hp.ax ho)) g o λb=>?_
   have tail:∀ns:List Nat,ns.length<=60064->(∀m∈ns,sN G R k m)->aO (Call (d+8)) (.cons (.cC 3 (.lst (.cons (.bC 2) (.cons (.bC 3) (.cons (.bC 4) (.cons (.bC 5) .nil))))) (.cons (.aG (.call 71 (.cons (.loc 0) (.cons (.loc 3) (.cons (.loc 2) (.cons (.loc 1) .nil)))))) .nil)) .nil)
    [some (.ref a.p),some (.ref out),some (nv ((ff G R k (eO R) &&& Sd R (1-R.af)) ||| a7 G k s)),none] (H.out out (ms++ns)) (λfl O H=>match fl with
     | .next=>aO (Call (d+8)) (.cons (.aG (.call 71 (.cons (.loc 0) (.cons (.bC 6) (.cons (.bin .and (.attr (.attr (.loc 0) 18) 7) (.inv (.sub (.attr (.loc 0) 22) (.attr (.loc 0) 3)))) (.cons (.loc 1) .nil)))))) .nil) O H (dq q)
     | .brk=>dq q .brk O H
     | .ret v=>dq q (.ret v) O H):=λns hl hP=>by
    refine new_ (show 4<=lim by decide) λb hb=>?_;refine aD (Hp.none_of hb) λhb hn=>?_;rw [show (H.out out (ms++ns)).upd b (.list [V.int 2,V.int 3,V.int 4,V.int 5])=(H.upd b (.list (av [2,3,4,5]))).out out (ms++ns) from Hp.bu _ _ _ (Ne.symm hb)];refine qx (n:=4) hb hn (λρ'=>∃z,ρ'=[some (.ref a.p),some (.ref out),some (nv ((ff G R k (eO R) &&& Sd R (1-R.af)) ||| a7 G k s)),z]) (sN G R k) 4096 (by decide) ⟨_,rfl⟩ (λkd ms' ρ' K0 hk hE hm' hK=>?_) (λρ' ns2 hE hl2 hP2=>?_)
    ·refine bJ hE ?_;rintro z rfl
     have hkd:2<=kd/\kd<=5:=by
      have:kd=2\/kd=3\/kd=4\/kd=5:=by simpa using hk
      exact Pk this
     rw [Qc] at hm';refine Eh (w.mono (Hp.ax hn)) g o (by exact lB (And.right ‹_›) (by rfl)) htg ((Hp.ay (Ne.symm hb)).trans ho) (by lia) λns3 l3 p3=>?_;refine aQ ?_;exact hK _ ns3 ⟨_,rfl⟩ l3 λm hm=>.inl ⟨s,hs,.inr (.inr ⟨kd,hkd.1,hkd.2,hs ▸ p3 m hm⟩)⟩
    ·refine bJ hE ?_;rintro z rfl;rw [Qm];exact last _ z _ (ns++ns2) (Hp.ax hn) ((Hp.ay (Ne.symm hb)).trans ho) (by rw [Qc];exact P8 (Sf ‹_› ‹_›) (by decide)) λm hm=>(QF.mp hm).elim (hP m) (hP2 m)
   have p1':∀m∈ns1,sN G R k m:=λm hm=>.inl ⟨s,hs,.inl (hs ▸ p1 m hm)⟩;refine dh (λ_=>?_) λ_=>?_
   ·refine Hw w g o ho (by rw [Qc];exact P8 (Sf ‹_› ‹_›) (by decide)) λns2 l2 p2=>?_;refine aQ ?_;rw [Qm];exact tail (ns1++ns2) (by rw [Qc];exact P8 (Sf ‹_› ‹_›) (by decide)) λm hm=>(QF.mp hm).elim (p1' m) λk=>.inl ⟨s,hs,.inr (.inl (p2 m k))⟩
   ·exact tail ns1 (by exact P8 ‹_› (by decide)) p1'
  ·exfalso;have:(2^s ||| a7 G k s).testBit s=true:=dT.mpr (.inl (by rw [Nat.testBit_two_pow_self]))
   rw [<- hs,e,Qr] at this;cases this) ((d,k,H,a),(G,R,q,out),ms)
end
section
variable {d x y s c k oc tgt:Nat} {H:Hp} {a:Ad} {G:aE} {R:Rw} {q:V->Hp->Prop} {out:Addr} {ms:List Nat} {o t sp f:Nat}
theorem ti:pk o t sp f=t+64*(o+64*(f+4*sp)):=by unfold pk;lia
theorem lS (ht:t<64):pk o t sp f%64=t:=by rw [ti];exact KA ht
theorem oK (ho:o<64) (ht:t<64):pk o t sp f / 64%64=o:=by rw [ti,E6 ht];exact KA ho
theorem lT (ho:o<64) (ht:t<64) (hs:sp<4) (hf:f<4):pk o t sp f / 16384%4=sp:=by rw [ti,show 16384=64*64*4 from rfl,<- TR,<- TR,E6 ht,E6 ho,E6 hf];exact Tq hs
theorem C9 (ho:o<64) (ht:t<64) (hf:f<4):pk o t sp f / 4096%4=f:=by rw [ti,show 4096=64*64 from rfl,<- TR,E6 ht,E6 ho];exact KA hf
noncomputable def ij (G:aE) (R:Rw) (t:Nat):Nat:=if R.af=0 then t-G.aa else t+G.aa
noncomputable def qA (G:aE) (R:Rw) (o t:Nat):Nat:=((eO R ^^^ 2^o) ^^^ 2^ij G R t) ||| 2^t
def rq (G:aE) (R:Rw) (k o t:Nat):Prop:=ez (ff G R k (qA G R o t) &&& Sd R (1-R.af)) (2^ij G R t)=0
def Pn (G:aE) (R:Rw) (k o:Nat):Prop:=Oo G R k R.af o/\(Sd R R.af).testBit o=true
def IG (G:aE) (R:Rw) (k o t sp:Nat):Prop:=sp=3\/(sp=2/\rq G R k o t)\/(sp≠3/\sp≠2/\o=k/\eR G R t (1-R.af) (eO R ^^^ 2^k)=false)\/(sp≠3/\sp≠2/\o≠k/\(¬Pn G R k o\/(fV G o t).testBit k=true))
def EY (G:aE) (R:Rw) (o t sp f:Nat):Prop:=o<G.size/\t<G.size/\sp<4/\f<4/\(sp=2->R.ep=t)
theorem KO (w:W H a G R) (g:cu G) (ok:dR G R) (ht:t<G.size) (ho:o<G.size) (he:R.ep=t) (h:q (nv (ij G R t)) H):Call (d+2) 89 [.ref a.p,nv (pk o t 2 0)] H q:=by
 have h25:=g.i3;have hf:=(ok.ef (by lia)).1;unfold ij at h;refine aq rfl rfl ?_;refine BX ?_;rw [lS (by exact f9 ‹_› ‹_› (by rfl))];refine E8 ?_;rw [lT (by exact f9 ‹_› ‹_› (by rfl)) (by exact f9 ‹_› ‹_› (by rfl)) (by decide) (by decide)];refine eD ?_;refine ag (λe=>absurd rfl e) λ_=>?_;refine aI ‹_› rfl ?_;refine aR ?_;refine ag (λe=>?_) λe=>?_
 ·rw [Qk e] at h;refine aI ‹_› rfl ?_;refine eT ‹_› rfl ?_;refine cH (by lia) ?_;refine aj ?_;exact h
 ·rw [Qb e] at h;refine aI ‹_› rfl ?_;refine eT ‹_› rfl ?_;refine p_add ?_;refine aj ?_;exact h
theorem tQ (ok:dR G R) (he:R.ep=t):ij G R t<G.size:=by
 have:=ok.ef (by lia)
 unfold ij;split<;>lia
theorem KN (w:W H a G R) (g:cu G) (ok:dR G R) (kk:dj G R R.af k) (ht:t<G.size) (ho:o<G.size) (he:R.ep=t) (h:∀b,(b=true->rq G R k o t)->q (.bool b) H):Call (d+6) 90 [.ref a.p,nv (pk o t 2 0)] H q:=by
 have h25:=g.i3;have hc:=ok.c2
 have h1:1-R.af<2:=by exact pY
 have hk:=tQ ok he;refine aq rfl rfl ?_;refine KO w g ok ht ho he ?_;refine cb (by exact gD ‹_› ‹_› (by rfl)) ?_;refine BX ?_;rw [lS (by exact f9 ‹_› ‹_› (by rfl))];refine cb (by exact gD ‹_› ‹_› (by rfl)) ?_;refine aI ‹_› rfl ?_;refine eU ‹_› ‹_› (by decide) ?_;refine aI ‹_› rfl ?_;refine eU ‹_› ‹_› (by decide) ?_;refine cW ?_;refine E9 ?_;rw [oK (by exact f9 ‹_› ‹_› (by rfl)) (by exact f9 ‹_› ‹_› (by rfl))];refine cb (by exact gD ‹_› ‹_› (by rfl)) ?_;refine bS ?_;refine bS ?_;refine cW ?_;refine aI ‹_› rfl ?_;refine si w g ok hc kk ?_;refine HB w g ok kk.2 ?_;refine aI ‹_› rfl ?_;refine aI ‹_› rfl ?_;refine dy ‹_› ?_;refine eU ‹_› ‹_› ‹_› ?_;refine aS ?_;refine jj ?_;refine gZ ?_;refine aR ?_;refine aj ?_
 exact h _ λe=>by unfold rq;exact Qe e
def xZ {pn:Nat}:Prop:=∀(w:W H a G R) (g:cu G) (ok:dR G R) (kk:dj G R R.af k) (hd:EY G R o t sp f) (hf0:sp=2->f=0) (hpn:∀t,pn.testBit t=true↔Pn G R k t) (h:∀b,(b=true->IG G R k o t sp)->q (.bool b) H),Call (d+7) 91 [.ref a.p,nv (pk o t sp f),nv pn] H q
theorem KL {pn:Nat}:@xZ d k H a G R q o t sp f pn:=au (S:=λx:(Nat×Nat×Hp×Ad)×(aE×Rw×(V->Hp->Prop)×Nat)×(Nat×Nat×Nat×Nat)=>@xZ x.1.1 x.1.2.1 x.1.2.2.1 x.1.2.2.2 x.2.1.1 x.2.1.2.1 x.2.1.2.2.1 x.2.1.2.2.2 x.2.2.1 x.2.2.2.1 x.2.2.2.2.1 x.2.2.2.2.2) (x:=((0,0,λ_=>none,j0),(bO,fG,λ_ _=>True,0),(0,0,0,0))) (by
 refine (?_:∀d k H a G R q o t sp f pn,@xZ d k H a G R q o t sp f pn) _ _ _ _ _ _ _ _ _ _ _ _;intro d k H a G R q o t sp f pn w g ok kk hd hf0 hpn h;have h25:=g.i3;have hc:=ok.c2
 have h1:1-R.af<2:=by exact pY
 refine rW hd λho ht hs hf he=>?_;refine aq rfl rfl ?_;refine E8 ?_;rw [lT (by exact f9 ‹_› ‹_› (by rfl)) (by exact f9 ‹_› ‹_› (by rfl)) hs hf];refine aR ?_;refine ag (λe=>?_) λe3=>?_
 ·refine aj ?_;exact h true λ_=>.inl e
 refine aR ?_;refine ag (λe=>?_) λe2=>?_
 ·obtain rfl:sp=2:=e;obtain rfl:=hf0 rfl;refine KN w g ok kk ht ho (he rfl) λb hb=>?_;refine aj ?_;exact h b λe=>.inr (.inl ⟨rfl,hb e⟩)
 refine E9 ?_;rw [oK (by exact f9 ‹_› ‹_› (by rfl)) (by exact f9 ‹_› ‹_› (by rfl))];refine BX ?_;rw [lS (by exact f9 ‹_› ‹_› (by rfl))];refine aI ‹_› rfl ?_;refine si w g ok hc kk ?_;refine aR ?_;refine ag (λe=>?_) λek=>?_
 ·have:=kk.2;refine aI ‹_› rfl ?_;refine eU ‹_› ‹_› (by decide) ?_;refine aI ‹_› rfl ?_;refine eU ‹_› ‹_› (by decide) ?_;refine cW ?_;refine cb (by exact gD ‹_› ‹_› (by rfl)) ?_;refine bS ?_;refine aI ‹_› rfl ?_;refine dy ‹_› ?_;refine yj w g ok h1 ht ?_;refine lU ?_;refine aj ?_;refine h _ λe'=>.inr (.inr (.inl ⟨e3,e2,e,?_⟩));revert e';show ((!eR G R t (1-R.af) (eO R ^^^ 2^k))=true)->_
  cases eR G R t (1-R.af) (eO R ^^^ 2^k)<;>simp
 refine cR ?_;refine aS ?_;refine aR ?_;refine ag (λe=>?_) λe=>?_
 ·refine aj ?_;exact h true λ_=>.inr (.inr (.inr ⟨e3,e2,ek,.inl λhp=>kh.mpr ((hpn o).mpr hp) e⟩))
 ·refine aI ‹_› rfl ?_;refine Lu w g ho ?_;refine aj ?_
  exact h _ λe=>.inr (.inr (.inr ⟨e3,e2,ek,.inr e⟩))) ((d,k,H,a),(G,R,q,o),(t,sp,f,pn))
theorem Hu (w:W H a G R) (g:cu G) (ok:dR G R) (kk:dj G R R.af k) (h:∀ns:List Nat,ns.length<=90000->(∀m∈ns,sN G R k m)->∀b,H b=none->q (.ref b) (H.out b ns)):Call (d+10) 92 [.ref a.p,nv 3] H q:=by
 refine aq rfl rfl ?_;refine new_ (QS _) λb hb=>?_;refine aR ?_;refine ag (λ_=>?_) λe=>absurd rfl e;refine KP (ms:=[]) w g ok kk hb (QS _) λns hl hP=>?_;refine aQ ?_;refine aj ?_;exact h ns hl hP b hb
theorem Ht (w:W H a G R) (g:cu G) (ok:dR G R) (h:∀ns:List Nat,ns.length<=90000->(∀m∈ns,EX G R m)->∀b,H b=none->q (.ref b) (H.out b ns)):Call (d+8) 92 [.ref a.p,nv 2] H q:=by
 have hfl:ez G.full (Sd R R.af)<2^G.size:=fS iB;refine aq rfl rfl ?_;refine new_ (QS _) λb hb=>?_;have w1:=w.mono (Hp.ax (o:=.list []) hb);refine aR ?_;refine ag (λe=>absurd e (by decide)) λ_=>?_;refine K4 w1 ok ?_;refine aI ‹_› rfl ?_;refine eT ‹_› rfl ?_;refine Hy (s:=2) (ms:=[]) w g ok (by decide) iB hb (QS _) λns1 l1 p1=>?_;refine aQ ?_;refine eD ?_;refine ag (λ_=>?_) λe=>absurd (show 2≠1 by decide) e;refine Hw w g ok hb (show ns1.length<=_ by exact P8 ‹_› (by decide)) λns2 l2 p2=>?_;refine aQ ?_;refine new_ (show 5<=lim by decide) λb2 hb2=>?_;refine aD (Hp.none_of hb2) λhb2 hn2=>?_;rw [show (H.out b (([]++ns1)++ns2)).upd b2 (.list [V.int 2,V.int 3,V.int 4,V.int 5,V.int 6])=(H.upd b2 (.list (av [2,3,4,5,6]))).out b (ns1++ns2) from Hp.bu _ _ _ (Ne.symm hb2)];refine qx (n:=5) hb2 hn2 (λρ'=>∃z,ρ'=[some (.ref a.p),some (nv 2),some (.ref b),some (nv (ez G.full (Sd R R.af))),z]) (EX G R) 4096 (by decide) ⟨_,rfl⟩ (λkd ms' ρ' K0 hk hE hm' hK=>?_) (λρ' ns3 hE hl3 hP3=>?_)
 ·refine bJ hE ?_;rintro z rfl
  have hkd:2<=kd/\kd<=6:=by
   have:kd=2\/kd=3\/kd=4\/kd=5\/kd=6:=by simpa using hk
   exact Pj this
  rw [Qc] at hm';refine Eh (w.mono (Hp.ax hn2)) g ok (by exact lB (And.right ‹_›) (by rfl)) hfl ((Hp.ay (Ne.symm hb2)).trans hb) (by lia) λns3 l3 p3=>?_;refine aQ ?_;exact hK _ ns3 ⟨_,rfl⟩ l3 λm hm=>.inr (.inr (.inl ⟨kd,hkd.1,hkd.2,p3 m hm⟩))
 ·refine bJ hE ?_;rintro z rfl;refine eD ?_;refine ag (λ_=>?_) λe=>absurd (show 2≠0 by decide) e;refine K6 (w.mono (Hp.ax hn2)) g ok ((Hp.ay (Ne.symm hb2)).trans hb) (by rw [Qc,Qc];lia) λns4 l4 p4=>?_;refine aQ ?_
  conv=>whnf
  refine gz (H.out b (((ns1++ns2)++ns3)++ns4)) (i8 (Hp.ax hn2) _) ?_;refine h _ (by rw [Qc,Qc,Qc];lia) (λm hm=>?_) b hb;rcases QF.mp hm with hm | hm
  ·rcases QF.mp hm with hm | hm
   ·rcases QF.mp hm with hm | hm
    ·exact .inl (p1 m hm)
    ·exact .inr (.inl (p2 m hm))
   ·exact hP3 m hm
  ·exact .inr (.inr (.inr (p4 m hm)))
def sM (G:aE) (R:Rw) (k m:Nat):Prop:=(eR G R k (1-R.af) (eO R)=true/\sN G R k m)\/(eR G R k (1-R.af) (eO R)=false/\EX G R m)
theorem KJ (w:W H a G R) (g:cu G) (ok:dR G R) (kk:dj G R R.af k) (h:∀ns:List Nat,ns.length<=90000->(∀m∈ns,sM G R k m)->∀b,H b=none->q (.ref b) (H.out b ns)):Call (d+11) 93 [.ref a.p] H q:=by
 refine aq rfl rfl ?_;refine Lg w g ok kk ?_;refine dh (λe=>?_) λe=>?_
 ·refine Hu w g ok kk λns hl hP b hb=>?_;refine aj ?_;exact h ns hl (λm hm=>.inl ⟨e,hP m hm⟩) b hb
 ·refine Ht w g ok λns hl hP b hb=>?_;refine aj ?_;exact h ns hl (λm hm=>.inr ⟨e,hP m hm⟩) b hb
def Mv (G:aE) (R:Rw) (k m:Nat):Prop:=∃o t sp f,m=pk o t sp f/\EY G R o t sp f/\(sp=2->f=0)
theorem yT.mv {kd m:Nat} (ok:dR G R) (ht:tgt<2^G.size) (h:yT G R kd tgt m):Mv G R k m:=by
 refine ew h ?_;rintro o t rfl h1 h2 h3;exact ⟨o,t,0,0,rfl,⟨dG (c7 (ok.kb _)) h1,dG ht h3,by decide,by decide,λe=>absurd e (by decide)⟩,λ_=>rfl⟩
theorem gr.mv {m:Nat} (ok:dR G R) (h:gr G R tgt m):Mv G R k m:=by
 rcases h with ⟨o,t,sp,f,rfl,hf,hs,_,hp,_,ht,_⟩ | ⟨o,p,t,rfl,_,hp,_,_,ht,_⟩ | ⟨o,t,sp,f,rfl,hf,hs,_,hp,ht,_⟩
 ·exact ⟨o,t,sp,f,rfl,⟨dw ok hp,ht,by lia,hf,by lia⟩,by lia⟩
 ·exact ⟨o,t,0,0,rfl,⟨dw ok hp.1,ht,by decide,by decide,by lia⟩,by lia⟩
 ·exact ⟨o,t,sp,f,rfl,⟨dw ok hp,dG (ok.sb _) ht,by lia,hf,by lia⟩,by lia⟩
theorem Bl.mv {m:Nat} (ok:dR G R) (h:Bl G R m):Mv G R k m:=by
 refine ew h ?_;rintro o t rfl he _ hp;exact ⟨o,t,2,0,rfl,⟨dw ok hp,by have:=ok.e1;lia,by decide,by decide,λ_=>he⟩,λ_=>rfl⟩
theorem sO.mv {m:Nat} (g:cu G) (h:sO G R m):Mv G R k m:=by
 obtain ⟨i,kf,kt,rf,rt,rfl,_,hc⟩:=h;have:=g.cw _ _ _ _ _ hc.1;exact ⟨kf,kt,3,0,rfl,⟨this.1,this.2.1,by decide,by decide,by lia⟩,λ_=>rfl⟩
theorem sM.mv {m:Nat} (g:cu G) (ok:dR G R) (h:sM G R k m):Mv G R k m:=by
 have hfl:ez G.full (Sd R R.af)<2^G.size:=fS iB;rcases h with ⟨_,⟨s,hs,h⟩ | h⟩ | ⟨_,h⟩
 ·have htg:2^s ||| a7 G k s<2^G.size:=Nat.or_lt_two_pow (hs ▸ c7 (ok.sb _)) (pI g);rcases h with h | h | ⟨kd,_,_,h⟩
  ·exact gr.mv ok h
  ·exact Bl.mv ok h
  ·exact yT.mv ok htg h
 ·exact yT.mv ok hfl h
 ·rcases h with h | h | ⟨kd,_,_,h⟩ | h
  ·exact gr.mv ok h
  ·exact Bl.mv ok h
  ·exact yT.mv ok hfl h
  ·exact sO.mv g h
def iY (G:aE) (R:Rw) (k m:Nat):Prop:=sM G R k m/\∃o t sp f,m=pk o t sp f/\EY G R o t sp f/\IG G R k o t sp
def xY {mv:Addr} {l:List Nat}:Prop:=∀(w:W H a G R) (g:cu G) (ok:dR G R) (kk:dj G R R.af k) (hmv:H mv=none) (hl:l.length<=90000) (hP:∀m∈l,sM G R k m) (h:∀ns:List Nat,ns.length<=90000->(∀m∈ns,iY G R k m)->∀b,H b=none->q (.ref b) (H.out b ns)),Call (d+8) 94 [.ref a.p,.ref mv] (H.out mv l) q
theorem KI {mv:Addr} {l:List Nat}:@xY d k H a G R q mv l:=au (S:=λx:(Nat×Nat×Hp×Ad)×(aE×Rw×(V->Hp->Prop)×Addr)×List Nat=>@xY x.1.1 x.1.2.1 x.1.2.2.1 x.1.2.2.2 x.2.1.1 x.2.1.2.1 x.2.1.2.2.1 x.2.1.2.2.2 x.2.2) (x:=((0,0,λ_=>none,j0),(bO,fG,λ_ _=>True,0),[])) (by
 refine (?_:∀d k H a G R q mv l,@xY d k H a G R q mv l) _ _ _ _ _ _ _ _ _;intro d k H a G R q mv l w g ok kk hmv hl hP h;have hc:=ok.c2;have w1:=w.mono (Hp.ax (o:=.list (av l)) hmv);refine aq rfl rfl ?_;refine aI ‹_› rfl ?_;refine K9 w1 g ok hc kk λpn hpn=>?_;refine new_ (QS _) λb hb=>?_;refine aD (Hp.none_of hb) λhb hn=>?_;have at_:∀X:List V,((H.out mv l).upd b (.list X)) mv=some (.list (av l)):=λX=>(Hp.ay (Ne.symm hb)).trans (Hp.ai ..);refine forL (at_ _) (λn ρ' H'=>(∃z,ρ'=[some (.ref a.p),some (.ref mv),some (nv pn),some (.ref b),z])/\∃ns:List Nat,ns.length<=n/\(∀m∈ns,iY G R k m)/\H'=(H.out mv l).upd b (.list (av ns))) (λn v ρ' H' K0 hv hI hK _ _=>?_) (λρ' H' hI=>?_) ⟨⟨_,rfl⟩,[],QS _,λm hm=>absurd hm Rg,rfl⟩
 ·obtain ⟨⟨z,rfl⟩,ns,hns,hL,rfl⟩:=hI;refine ⟨at_ _,?_⟩;refine aD (jy rfl hv) ?_;rintro hk rfl;have hm:=hP (l.getD n 0) (by rw [P9,Qg hk];exact Sb hk);refine mV (sM.mv g ok hm) λo t sp f e hd hf0=>?_;have w2:=w1.mono (Hp.ax (o:=.list (av ns)) ((Hp.ay hb).trans hn));rw [e] at hm ⊢;refine KL w2 g ok kk hd hf0 hpn λb' hb'=>?_;refine dh (λe'=>?_) λ_=>?_
  ·refine ⟨gO (Hp.ai ..),?_⟩;refine qK (Hp.ai ..) (by rw [Qd];show _<1000000;lia) ?_;refine aQ ?_;refine hK _ _ ⟨⟨_,rfl⟩,ns++ [pk o t sp f],by rw [Qc];exact SW hns,λm h1=>?_,?_⟩
   ·rcases QF.mp h1 with h1 | h1
    ·exact hL m h1
    ·rw [Qt] at h1;subst h1;exact ⟨hm,o,t,sp,f,rfl,hd,hb' e'⟩
   ·rw [Hp.eH,av,av,Rd];rfl
  ·exact hK _ _ ⟨⟨_,rfl⟩,ns,TJ hns,hL,rfl⟩
 ·obtain ⟨⟨z,rfl⟩,ns,hns,hL,rfl⟩:=hI;refine ⟨at_ _,?_⟩
  conv=>whnf
  rw [Qd] at hns;refine gz (H.out b ns) ?_ (h ns (by exact P8 ‹_› ‹_›) hL b hn);rw [Hp.bu _ _ _ (Ne.symm hb)]
  exact Hp.ax ((Hp.ay (Ne.symm hb)).trans hmv)) ((d,k,H,a),(G,R,q,mv),l)
theorem KH (w:W H a G R) (g:cu G) (ok:dR G R) (kk:dj G R R.af k) (h:∀ns:List Nat,ns.length<=90000->(∀m∈ns,iY G R k m)->∀b,H b=none->q (.ref b) (H.out b ns)):Call (d+12) 95 [.ref a.p] H q:=by
 refine aq rfl rfl ?_;refine KJ w g ok kk λns hl hP b hb=>?_;refine KI w g ok kk hb hl hP λns2 hl2 hP2 b2 hb2=>?_;refine aj ?_;exact h ns2 hl2 hP2 b2 hb2
end
noncomputable def AW (a:Ad) (R:Rw):List (Nat×V):=[(18,.ref a.g),(19,.ref a.z),(20,.ref a.bd),(21,.ref a.kd),(22,.ref a.sd),(3,nv R.af),(2,nv R.ab),(1,.int R.ep),(23,.int R.fK),(7,.int R.full),(24,nv R.key),(25,.ref a.hs)]
noncomputable def Hp.put (H:Hp) (a:Ad) (R:Rw):Hp:=λx=>
 if x=a.bd then some (.list (av R.ae)) else if x=a.kd then some (.list (av R.bF)) else if x=a.sd then some (.list (av R.bX)) else if x=a.hs then some (.list R.cA) else if x=a.dx then some (.dict (AW a R)) else H x
def dyn (a:Ad) (x:Addr):Prop:=x=a.bd\/x=a.kd\/x=a.sd\/x=a.hs\/x=a.dx
structure Om (a:Ad):Prop where
 d1:a.kd≠a.bd
 d2:a.sd≠a.bd
 d3:a.hs≠a.bd
 d4:a.dx≠a.bd
 d5:a.sd≠a.kd
 d6:a.hs≠a.kd
 d7:a.dx≠a.kd
 d8:a.hs≠a.sd
 d9:a.dx≠a.sd
 d0:a.dx≠a.hs
 p:¬dyn a a.p
 g:¬dyn a a.g
 gd:¬dyn a a.gd
 fm:¬dyn a a.fm
 rm:¬dyn a a.rm
 oA:¬dyn a a.oA
 mR:∀d,d<8->¬dyn a (a.mR d)
 cz:¬dyn a a.cz
 a8:¬dyn a a.a8
 fJ:¬dyn a a.fJ
 pn:∀d,d<2->¬dyn a (a.pn d)
 gM:¬dyn a a.gM
 cP:¬dyn a a.cP
 z:¬dyn a a.z
 zd:¬dyn a a.zd
 zp:¬dyn a a.zp
 row:∀m,m<15->¬dyn a (a.row m)
 ze:¬dyn a a.ze
 zr:¬dyn a a.zr
structure gb (H:Hp) (a:Ad) (G:aE):Prop where
 p:H a.p=some (.inst 2 a.dx)
 T:GW H a G
 Z:ZW H a G
 D:Om a
 r8:G.eM.length=8
theorem bq {H:Hp} {a:Ad} {R:Rw} {x:Addr} (h:¬dyn a x):H.put a R x=H x:=by
 unfold Hp.put dyn at *;rw [Qb λe=>h (.inl e),Qb λe=>h (.inr (.inl e)),Qb λe=>h (.inr (.inr (.inl e))),Qb λe=>h (.inr (.inr (.inr (.inl e)))),Qb λe=>h (.inr (.inr (.inr (.inr e))))]
section
variable {d x y s c k:Nat} {H:Hp} {a:Ad} {G:aE} {R:Rw} {q:V->Hp->Prop}
theorem gb.w (S:gb H a G) (R:Rw):W (H.put a R) a G R where
 P:=⟨(bq S.D.p).trans S.p,by unfold Hp.put;rw [Qb S.D.d4,Qb S.D.d7,Qb S.D.d9,Qb S.D.d0,Qk rfl];rfl,by unfold Hp.put;rw [Qk rfl],by unfold Hp.put;rw [Qb S.D.d1,Qk rfl],
  by unfold Hp.put;rw [Qb S.D.d2,Qb S.D.d5,Qk rfl],by unfold Hp.put;rw [Qb S.D.d3,Qb S.D.d6,Qb S.D.d8,Qk rfl]⟩
 T:=⟨(bq S.D.g).trans S.T.g,(bq S.D.gd).trans S.T.gd,(bq S.D.fm).trans S.T.fm,(bq S.D.rm).trans S.T.rm,(bq S.D.oA).trans S.T.oA,
  λd r h=>(bq (S.D.mR d (by rcases Qw d 8 with q | q;exact q;rw [Rf (by rw [S.r8];exact q)] at h;cases h))).trans (S.T.mR d r h),
  (bq S.D.cz).trans S.T.cz,(bq S.D.a8).trans S.T.a8,(bq S.D.fJ).trans S.T.fJ,
  λd r h=>(bq (S.D.pn d (by rcases Qw d 2 with q | q;exact q;rw [Rf (show 2<=d from q)] at h;cases h))).trans (S.T.pn d r h),(bq S.D.gM).trans S.T.gM,(bq S.D.cP).trans S.T.cP⟩
 Z:=⟨(bq S.D.z).trans S.Z.z,(bq S.D.zd).trans S.Z.zd,(bq S.D.zp).trans S.Z.zp,λm h=>(bq (S.D.row m h)).trans (S.Z.row m h),(bq S.D.ze).trans S.Z.ze,(bq S.D.zr).trans S.Z.zr⟩
theorem CX (S:gb H a G) (b:List Nat):(H.put a R).upd a.bd (.list (av b))=H.put a { R with ae:=b }:=by
 funext x;unfold Hp.upd Hp.put AW;split<;>rfl
theorem CU (S:gb H a G) (b:List Nat):(H.put a R).upd a.kd (.list (av b))=H.put a { R with bF:=b }:=by
 funext x;unfold Hp.upd Hp.put AW;by_cases e:x=a.kd
 ·subst e;rw [Qk rfl,Qb S.D.d1,Qk rfl]
 ·rw [Qb e,Qb e,Qb e]
theorem CT (S:gb H a G) (b:List Nat):(H.put a R).upd a.sd (.list (av b))=H.put a { R with bX:=b }:=by
 funext x;unfold Hp.upd Hp.put AW;by_cases e:x=a.sd
 ·subst e;rw [Qk rfl,Qb S.D.d2,Qb S.D.d5,Qk rfl]
 ·rw [Qb e,Qb e,Qb e]
theorem wc (S:gb H a G) (b:List V):(H.put a R).upd a.hs (.list b)=H.put a { R with cA:=b }:=by
 funext x;unfold Hp.upd Hp.put AW;by_cases e:x=a.hs
 ·subst e;rw [Qk rfl,Qb S.D.d3,Qb S.D.d6,Qb S.D.d8,Qk rfl]
 ·rw [Qb e,Qb e,Qb e]
theorem CV (S:gb H a G) {R':Rw} {fs:List (Nat×V)} (h:fs=AW a R') (h1:R'.ae=R.ae) (h2:R'.bF=R.bF) (h3:R'.bX=R.bX) (h4:R'.cA=R.cA):(H.put a R).upd a.dx (.dict fs)=H.put a R':=by
 funext x;unfold Hp.upd Hp.put;by_cases e:x=a.dx
 ·subst e;rw [Qk rfl,Qb S.D.d4,Qb S.D.d7,Qb S.D.d9,Qb S.D.d0,Qk rfl,h]
 ·rw [Qb e,Qb e,Qb e,h1,h2,h3,h4]
theorem ui (S:gb H a G) {n:Nat} {v:V} {R':Rw} {P:Hp->Prop} (h:gB n v (AW a R)=AW a R') (h1:R'.ae=R.ae) (h2:R'.bF=R.bF) (h3:R'.bX=R.bX) (h4:R'.cA=R.cA) (k:P (H.put a R')):bj (.ref a.p) n v (H.put a R) P:=
 pX (S.w R).P.p (S.w R).P.dx (show 12<=100 by decide) (show P ((H.put a R).upd a.dx (.dict (gB n v (AW a R)))) from (CV S h h1 h2 h3 h4).symm ▸ k)
theorem fh (S:gb H a G) {v:Nat} {P:Hp->Prop} (k:P (H.put a { R with key:=v })):bj (.ref a.p) 24 (nv v) (H.put a R) P:=ui (R':={ R with key:=v }) S rfl rfl rfl rfl rfl k
theorem lI (S:gb H a G) {v:Int} {P:Hp->Prop} (k:P (H.put a { R with ep:=v })):bj (.ref a.p) 1 (.int v) (H.put a R) P:=ui (R':={ R with ep:=v }) S rfl rfl rfl rfl rfl k
theorem iL (S:gb H a G) {v:Nat} {P:Hp->Prop} (k:P (H.put a { R with ab:=v })):bj (.ref a.p) 2 (nv v) (H.put a R) P:=ui (R':={ R with ab:=v }) S rfl rfl rfl rfl rfl k
theorem lH (S:gb H a G) {v:Nat} {P:Hp->Prop} (k:P (H.put a { R with af:=v })):bj (.ref a.p) 3 (nv v) (H.put a R) P:=ui (R':={ R with af:=v }) S rfl rfl rfl rfl rfl k
theorem jc (S:gb H a G) {v:Int} {P:Hp->Prop} (k:P (H.put a { R with fK:=v })):bj (.ref a.p) 23 (.int v) (H.put a R) P:=ui (R':={ R with fK:=v }) S rfl rfl rfl rfl rfl k
theorem pV (S:gb H a G) {v:Int} {P:Hp->Prop} (k:P (H.put a { R with full:=v })):bj (.ref a.p) 7 (.int v) (H.put a R) P:=ui (R':={ R with full:=v }) S rfl rfl rfl rfl rfl k
theorem oy (S:gb H a G) {i v:Nat} {P:Hp->Prop} (hi:i<R.ae.length) (k:P (H.put a { R with ae:=R.ae.set i v })):bV (.ref a.bd) (nv i) (nv v) (H.put a R) P:=pW (S.w R).P.bd hi (by rw [CX S];exact k)
theorem rj (S:gb H a G) {i v:Nat} {P:Hp->Prop} (hi:i<R.bF.length) (k:P (H.put a { R with bF:=R.bF.set i v })):bV (.ref a.kd) (nv i) (nv v) (H.put a R) P:=pW (S.w R).P.kd hi (by rw [CU S];exact k)
theorem ri (S:gb H a G) {i v:Nat} {P:Hp->Prop} (hi:i<R.bX.length) (k:P (H.put a { R with bX:=R.bX.set i v })):bV (.ref a.sd) (nv i) (nv v) (H.put a R) P:=pW (S.w R).P.sd hi (by rw [CT S];exact k)
structure Len (G:aE) (R:Rw):Prop where
 bl:R.ae.length=G.size
 kl:R.bF.length=7
 sl:R.bX.length=2
theorem dR.len (o:dR G R):Len G R:=⟨o.bl,o.kl,o.sl⟩
noncomputable def we (G:aE) (R:Rw) (x s:Nat):Rw:={ R with ae:=R.ae.set s x,bF:=R.bF.set (x%8) (K R (x%8) ||| 2^s),bX:=R.bX.set (x / 8) (Sd R (x / 8) ||| 2^s),key:=R.key ^^^ 2^(x*G.size+s) }
noncomputable def nj (G:aE) (R:Rw) (s:Nat):Rw:={ R with ae:=R.ae.set s 0,bF:=R.bF.set (R.ae.getD s 0%8) (K R (R.ae.getD s 0%8) ^^^ 2^s),bX:=R.bX.set (R.ae.getD s 0 / 8) (Sd R (R.ae.getD s 0 / 8) ^^^ 2^s),key:=R.key ^^^ 2^(R.ae.getD s 0*G.size+s) }
noncomputable def lG (G:aE) (R:Rw) (x y:Nat):Rw:={ R with ae:=(R.ae.set x 0).set y (R.ae.getD x 0),bF:=R.bF.set (R.ae.getD x 0%8) (K R (R.ae.getD x 0%8) ^^^ (2^x ||| 2^y)),bX:=R.bX.set (R.ae.getD x 0 / 8) (Sd R (R.ae.getD x 0 / 8) ^^^ (2^x ||| 2^y)),key:=R.key ^^^ (2^(R.ae.getD x 0*G.size+x) ^^^ 2^(R.ae.getD x 0*G.size+y)) }
def good (x:Nat):Prop:=x<15/\x%8<7
def yz:Prop:=∀(S:gb H a G) (g:cu G) (l:Len G R) (hx:good x) (hs:s<G.size) (h:q .none (H.put a (we G R x s))),Call (d+2) 25 [.ref a.p,nv x,nv s] (H.put a R) q
theorem LJ:@yz d x s H a G R q:=au (S:=λx:(Nat×Nat×Nat×Hp)×(Ad×aE×Rw×(V->Hp->Prop))=>@yz x.1.1 x.1.2.1 x.1.2.2.1 x.1.2.2.2 x.2.1 x.2.2.1 x.2.2.2.1 x.2.2.2.2) (x:=((0,0,0,λ_=>none),(j0,bO,fG,λ_ _=>True))) (by
 refine (?_:∀d x s H a G R q,@yz d x s H a G R q) _ _ _ _ _ _ _ _;intro d x s H a G R q S g l hx hs h;have h25:=g.i3;refine aD hx λhx1 hx2=>?_;have wR:=S.w;refine aq rfl rfl ?_;refine cb (by exact gD ‹_› ‹_› (by rfl)) ?_;have w1:=wR R;refine aI ‹_› rfl ?_;refine oy S (by rw [l.bl];exact hs) ?_;have w2:=wR { R with ae:=R.ae.set s x };refine aI ‹_› rfl ?_;refine Er ?_;refine aU w2.P.kd (by rw [l.kl];exact hx2) ?_;refine bG ?_;refine cW ?_;refine rj S (by rw [l.kl];exact hx2) ?_;have w3:=wR { R with ae:=R.ae.set s x,bF:=R.bF.set (x%8) (K R (x%8) ||| 2^s) };refine aI ‹_› rfl ?_;refine HX ?_;refine aU w3.P.sd (by rw [l.sl];exact zc ‹_›) ?_;refine bG ?_;refine cW ?_;refine ri S (by rw [l.sl];exact zc ‹_›) ?_;have w4:=wR { R with ae:=R.ae.set s x,bF:=R.bF.set (x%8) (K R (x%8) ||| 2^s),bX:=R.bX.set (x / 8) (Sd R (x / 8) ||| 2^s) };refine aI ‹_› rfl ?_;refine aI ‹_› rfl ?_;refine la ‹_› rfl ?_;refine lA ‹_› ‹_› ?_;refine gh ‹_› ‹_› ‹_› ?_;refine bG ?_;refine bS ?_;refine fh S ?_
 conv=>whnf
 exact fN h) ((d,x,s,H),(a,G,R,q))
def yx:Prop:=∀(S:gb H a G) (g:cu G) (l:Len G R) (hx:good (R.ae.getD s 0)) (hs:s<G.size) (h:q (nv (R.ae.getD s 0)) (H.put a (nj G R s))),Call (d+2) 26 [.ref a.p,nv s] (H.put a R) q
theorem LI:@yx d s H a G R q:=au (S:=λx:(Nat×Nat×Hp×Ad)×(aE×Rw×(V->Hp->Prop))=>@yx x.1.1 x.1.2.1 x.1.2.2.1 x.1.2.2.2 x.2.1 x.2.2.1 x.2.2.2) (x:=((0,0,λ_=>none,j0),(bO,fG,λ_ _=>True))) (by
 refine (?_:∀d s H a G R q,@yx d s H a G R q) _ _ _ _ _ _ _;intro d s H a G R q S g l hx hs h;have h25:=g.i3;refine aD hx λhx1 hx2=>?_;have wR:=S.w;have w1:=wR R;refine aq rfl rfl ?_;refine aI ‹_› rfl ?_;refine aU w1.P.bd (by rw [l.bl];exact hs) ?_;refine cb (by exact gD ‹_› ‹_› (by rfl)) ?_;refine aI ‹_› rfl ?_;refine oy (v:=0) S (by rw [l.bl];exact hs) ?_;have w2:=wR { R with ae:=R.ae.set s 0 };refine aI ‹_› rfl ?_;refine Er ?_;refine aU w2.P.kd (by rw [l.kl];exact hx2) ?_;refine bG ?_;refine bS ?_;refine rj S (by rw [l.kl];exact hx2) ?_;have w3:=wR { R with ae:=R.ae.set s 0,bF:=R.bF.set (R.ae.getD s 0%8) (K R (R.ae.getD s 0%8) ^^^ 2^s) };refine aI ‹_› rfl ?_;refine HX ?_;refine aU w3.P.sd (by rw [l.sl];exact zc ‹_›) ?_;refine bG ?_;refine bS ?_;refine ri S (by rw [l.sl];exact zc ‹_›) ?_;have w4:=wR { R with ae:=R.ae.set s 0,bF:=R.bF.set (R.ae.getD s 0%8) (K R (R.ae.getD s 0%8) ^^^ 2^s),bX:=R.bX.set (R.ae.getD s 0 / 8) (Sd R (R.ae.getD s 0 / 8) ^^^ 2^s) };refine aI ‹_› rfl ?_;refine aI ‹_› rfl ?_;refine la ‹_› rfl ?_;refine lA ‹_› ‹_› ?_;refine gh ‹_› ‹_› ‹_› ?_;refine bG ?_;refine bS ?_;refine fh S ?_;refine aj ?_
 exact h) ((d,s,H,a),(G,R,q))
def yv:Prop:=∀(S:gb H a G) (g:cu G) (l:Len G R) (hx:good (R.ae.getD x 0)) (h1:x<G.size) (h2:y<G.size) (h:q .none (H.put a (lG G R x y))),Call (d+2) 27 [.ref a.p,nv x,nv y] (H.put a R) q
theorem LH:@yv d x y H a G R q:=au (S:=λx:(Nat×Nat×Nat×Hp)×(Ad×aE×Rw×(V->Hp->Prop))=>@yv x.1.1 x.1.2.1 x.1.2.2.1 x.1.2.2.2 x.2.1 x.2.2.1 x.2.2.2.1 x.2.2.2.2) (x:=((0,0,0,λ_=>none),(j0,bO,fG,λ_ _=>True))) (by
 refine (?_:∀d x y H a G R q,@yv d x y H a G R q) _ _ _ _ _ _ _ _;intro d x y H a G R q S g l hx h1 h2 h;have h25:=g.i3;refine aD hx λhx1 hx2=>?_;have wR:=S.w;have w1:=wR R;refine aq rfl rfl ?_;refine aI ‹_› rfl ?_;refine aU w1.P.bd (by rw [l.bl];exact h1) ?_;refine cb (by exact gD ‹_› ‹_› (by rfl)) ?_;refine cb (by exact gD ‹_› ‹_› (by rfl)) ?_;refine cW ?_;refine aI ‹_› rfl ?_;refine oy (v:=0) S (by rw [l.bl];exact h1) ?_;have w2:=wR { R with ae:=R.ae.set x 0 };refine aI ‹_› rfl ?_;refine oy S (by show y<(R.ae.set x 0).length;rw [Ql,l.bl];exact h2) ?_;have w3:=wR { R with ae:=(R.ae.set x 0).set y (R.ae.getD x 0) };refine aI ‹_› rfl ?_;refine Er ?_;refine aU w3.P.kd (by rw [l.kl];exact hx2) ?_;refine bG ?_;refine bS ?_;refine rj S (by rw [l.kl];exact hx2) ?_;have w4:=wR { R with ae:=(R.ae.set x 0).set y (R.ae.getD x 0),bF:=R.bF.set (R.ae.getD x 0%8) (K R (R.ae.getD x 0%8) ^^^ (2^x ||| 2^y)) };refine aI ‹_› rfl ?_;refine HX ?_;refine aU w4.P.sd (by rw [l.sl];exact zc ‹_›) ?_;refine bG ?_;refine bS ?_;refine ri S (by rw [l.sl];exact zc ‹_›) ?_;have w5:=wR { R with ae:=(R.ae.set x 0).set y (R.ae.getD x 0),bF:=R.bF.set (R.ae.getD x 0%8) (K R (R.ae.getD x 0%8) ^^^ (2^x ||| 2^y)),bX:=R.bX.set (R.ae.getD x 0 / 8) (Sd R (R.ae.getD x 0 / 8) ^^^ (2^x ||| 2^y)) };refine aI ‹_› rfl ?_;refine la ‹_› rfl ?_;refine lA ‹_› ‹_› ?_;refine aI ‹_› rfl ?_;refine gh ‹_› ‹_› ‹_› ?_;refine gh ‹_› ‹_› ‹_› ?_;refine bS ?_;refine bG ?_;refine bS ?_;refine fh S ?_
 conv=>whnf
 exact fN h) ((d,x,y,H),(a,G,R,q))
noncomputable def xS (G:aE) (R:Rw):Rw:=if 0<=R.ep then { R with key:=R.key ^^^ 2^(15*G.size+4+R.ep.toNat%G.aa),ep:=-1 } else R
noncomputable def Cw (G:aE) (R:Rw) (e:Int):Rw:={ R with key:=if 0<=e then R.key ^^^ 2^(15*G.size+4+e.toNat%G.aa) else R.key,ep:=e }
noncomputable def Cq (G:aE) (R:Rw) (r:Nat):Rw:=if r≠R.ab then { R with key:=R.key ^^^ (R.ab <<< (15*G.size) ^^^ r <<< (15*G.size)),ab:=r } else R
theorem LG (S:gb H a G) (g:cu G) (o:dR G R) (h:q .none (H.put a { R with key:=cX G R ^^^ xk G.size (λm=>decide (m≠0)) R.ae G.size })):Call (d+3) 31 [.ref a.p] (H.put a R) q:=by
 have w1:=S.w R;refine aq rfl rfl ?_;refine MJ w1 g o ?_;refine fh S ?_
 conv=>whnf
 exact fN h
theorem LF (S:gb H a G) (g:cu G) (h:q .none (H.put a (xS G R))):Call (d+1) 37 [.ref a.p] (H.put a R) q:=by
 have hf:G.aa≠0:=by have:=g.f0;exact Q5 ‹_›
 have w1:=S.w R;unfold xS at h;refine aq rfl rfl ?_;refine aI ‹_› rfl ?_;refine ku ?_;refine ag (λe=>?_) (λe=>?_)
 ·rw [Qk e] at h;refine aI ‹_› rfl ?_;refine aI ‹_› rfl ?_;refine la ‹_› rfl ?_;refine aI ‹_› rfl ?_;refine aI ‹_› rfl ?_;refine eT ‹_› rfl ?_;refine jM hf e ?_;refine vz w1 (SK _ (Qv hf)) ?_;refine bG ?_;refine bS ?_;refine fh S ?_;refine eP ?_;refine lI S ?_
  conv=>whnf
  exact fN h
 ·rw [Qb e] at h
  conv=>whnf
  exact fN h
theorem LC {e:Int} (S:gb H a G) (g:cu G) (h:q .none (H.put a (Cw G R e))):Call (d+1) 38 [.ref a.p,.int e] (H.put a R) q:=by
 have hf:G.aa≠0:=by have:=g.f0;exact Q5 ‹_›
 have w1:=S.w R;unfold Cw at h;refine aq rfl rfl ?_;refine ku ?_;refine ag (λe=>?_) (λe=>?_)
 ·rw [Qk e] at h;refine aI ‹_› rfl ?_;refine aI ‹_› rfl ?_;refine la ‹_› rfl ?_;refine aI ‹_› rfl ?_;refine eT ‹_› rfl ?_;refine jM hf e ?_;refine vz w1 (SK _ (Qv hf)) ?_;refine bG ?_;refine bS ?_;refine fh S ?_;refine lI S ?_
  conv=>whnf
  exact fN h
 ·rw [Qb e] at h;refine lI S ?_
  conv=>whnf
  exact fN h
theorem LA (S:gb H a G) (hr:R.ab<16) (hx:x<16) (h:q .none (H.put a (Cq G R x))):Call (d+1) 39 [.ref a.p,nv x] (H.put a R) q:=by
 have w1:=S.w R;unfold Cq at h;refine aq rfl rfl ?_;refine aI ‹_› rfl ?_;refine eD ?_;refine ag (λe=>?_) (λe=>?_)
 ·rw [Qk e] at h;refine aI ‹_› rfl ?_;refine aI ‹_› rfl ?_;refine la ‹_› rfl ?_;refine aI ‹_› rfl ?_;refine vy w1 hr ?_;refine aI ‹_› rfl ?_;refine la ‹_› rfl ?_;refine vy w1 hx ?_;refine bS ?_;refine bG ?_;refine bS ?_;refine fh S ?_;refine iL S ?_
  conv=>whnf
  exact fN h
 ·rw [Qb e] at h
  conv=>whnf
  exact fN h
end
noncomputable abbrev bd (R:Rw) (s:Nat):Nat:=R.ae.getD s 0
theorem cT {l:List Nat} {i j v:Nat} (h:i<l.length):(l.set i v).getD j 0=if j=i then v else l.getD j 0:=by
 rw [P9,P9,RD];by_cases e:i=j
 ·subst e;rw [Qk rfl,Qk h,Qk rfl];rfl
 ·rw [Qb e,Qb (Ne.symm e)]
theorem hZ {l:List Nat} {i:Nat} (h:l.length<=i):l.getD i 0=0:=by
 rw [P9,Rf h];rfl
theorem eJ {l m:List Nat} (h:l.length=m.length) (e:∀i,l.getD i 0=m.getD i 0):l=m:=by
 refine List.ext_getElem h λi h1 h2=>?_;have:=e i;rw [P9,P9,Qg h1,Qg h2] at this;exact this
theorem aM {l:List Nat} {i j v:Nat} (h:j≠i):(l.set i v).getD j 0=l.getD j 0:=by
 rw [P9,P9,RD,Qb (Ne.symm h)]
def nE (x:Nat):Prop:=x<15/\1<=x%8/\x%8<=6
structure ba (G:aE) (R:Rw):Prop where
 bl:R.ae.length=G.size
 kl:R.bF.length=7
 sl:R.bX.length=2
 mn:∀s,bd R s≠0->nE (bd R s)
 kb:∀k s,(K R k).testBit s=true↔bd R s≠0/\bd R s%8=k
 sb:∀c s,(Sd R c).testBit s=true↔bd R s≠0/\bd R s / 8=c
noncomputable def kL (G:aE) (R:Rw):Nat:=cX G R ^^^ xk G.size (λm=>decide (m≠0)) R.ae G.size
structure Sm (R R':Rw):Prop where
 af:R'.af=R.af
 ab:R'.ab=R.ab
 ep:R'.ep=R.ep
 cA:R'.cA=R.cA
section
variable {x y s c k n:Nat} {G:aE} {R R':Rw}
theorem ba.lt (g:ba G R) (h:bd R s≠0):s<G.size:=by
 rcases Qw s G.size with q | q
 ·exact q
 ·exact absurd (hZ (g.bl ▸ q)) h
theorem qp {x n:Nat} (h:∀i,n<=i->x.testBit i=false):x<2^n:=Nat.lt_pow_two_of_testBit x h
theorem gg {b:Bool} (h:¬b=true):b=false:=by cases b;rfl;exact absurd rfl h
theorem ba.ok (g:ba G R) (c2:R.af<2) (je:R.ab<16) (e:R.ep=-1\/(G.aa:Int)<=R.ep/\R.ep+G.aa<G.size):dR G R where
 bl:=g.bl
 bm:=λi _=>by
  rcases Tb (bd R i) with h | h
  ·show bd R i<15;lia
  ·exact (g.mn i (QL h)).1
 kl:=g.kl
 sl:=g.sl
 c2:=c2
 je:=je
 e0:=by lia
 e1:=by lia
 ef:=λh=>by lia
 kb:=λk=>qp λi hi=>gg λh=>absurd (g.lt ((g.kb k i).mp h).1) (Rv.mpr hi)
 sb:=λk=>qp λi hi=>gg λh=>absurd (g.lt ((g.sb k i).mp h).1) (Rv.mpr hi)
theorem Fg {p:Nat->Bool} {sz:Nat} {b:List Nat} {v:Nat}:∀{n:Nat},n<=s->xk sz p (b.set s v) n=xk sz p b n
 | 0,_=>rfl
 | n+1,h=>by
  have ih:=Fg (p:=p) (sz:=sz) (b:=b) (v:=v) (n:=n) (by exact Qp ‹_›);unfold xk;rw [ih,aM (by exact QX ‹_›)]
theorem lj {sz:Nat} {b:List Nat} {v:Nat} (hs:s<b.length) (h0:b.getD s 0=0) (hv:v≠0):∀{n:Nat},s<n->xk sz (λm=>decide (m≠0)) (b.set s v) n=xk sz (λm=>decide (m≠0)) b n ^^^ 2^(v*sz+s)
 | 0,h=>absurd h (Rc _)
 | n+1,h=>by
  rcases Qw s n with q | q
  ·have ih:=lj (sz:=sz) hs h0 hv q;unfold xk;rw [ih,aM (by exact QL ‹_›)];split
   ·rw [Rp,Rp,Nat.xor_comm (2^(v*sz+s))]
   ·rfl
  ·have e:s=n:=by exact RH (QH ‹_›) ‹_›
   subst e;unfold xk;rw [Fg (Qn s),cT hs,Qk rfl,Qk (Qq hv),h0,Qb (by decide)]
theorem xx {a b:Nat}:(a ^^^ b) ^^^ b=a:=by rw [Rp,Nat.xor_self,RQ]
theorem kN {sz:Nat} {b:List Nat} (hs:s<b.length) (h0:b.getD s 0≠0) {n:Nat} (h:s<n):xk sz (λm=>decide (m≠0)) (b.set s 0) n=xk sz (λm=>decide (m≠0)) b n ^^^ 2^(b.getD s 0*sz+s):=by
 have e:(b.set s 0).set s (b.getD s 0)=b:=eJ (by rw [Ql,Ql]) λi=>by
  rw [cT (by rw [Ql];exact hs)];split
  ·subst_vars;rfl
  ·rw [aM ‹_›]
 have:=lj (sz:=sz) (b:=b.set s 0) (v:=b.getD s 0) (by rw [Ql];exact hs) (by rw [cT hs,Qk rfl]) h0 h;rw [e] at this;rw [this,xx]
theorem oi {l:List Nat} {i j b:Nat} (h:i<l.length):((l.set i (l.getD i 0 ||| 2^s)).getD j 0).testBit b=((l.getD j 0).testBit b || (decide (j=i) && decide (s=b))):=by
 rw [cT h];by_cases e:j=i
 ·subst e;rw [Qk rfl,SS,Rq,Qq rfl,Sx]
 ·rw [Qb e,decide_eq_false e,To,TN]
theorem i7 {l:List Nat} {i j b m:Nat} (h:i<l.length):((l.set i (l.getD i 0 ^^^ m)).getD j 0).testBit b=((l.getD j 0).testBit b ^^ (decide (j=i) && m.testBit b)):=by
 rw [cT h];by_cases e:j=i
 ·subst e;rw [Qk rfl,Qo,Qq rfl,Sx]
 ·rw [Qb e,decide_eq_false e,To,Si]
theorem ba.put (g:ba G R) (hx:nE x) (hs:s<G.size) (h0:bd R s=0):ba G (we G R x s) where
 bl:=(Ql ..).trans g.bl
 kl:=(Ql ..).trans g.kl
 sl:=(Ql ..).trans g.sl
 mn:=λt ht=>by
  show nE ((R.ae.set s x).getD t 0);have ht:(R.ae.set s x).getD t 0≠0:=ht;rw [cT (g.bl ▸ hs)] at ht ⊢;split at ht
  ·rw [Qk ‹_›];exact hx
  ·rw [Qb ‹_›];exact g.mn t ht
 kb:=λk t=>by
  show ((R.bF.set (x%8) (R.bF.getD (x%8) 0 ||| 2^s)).getD k 0).testBit t=true↔(R.ae.set s x).getD t 0≠0/\(R.ae.set s x).getD t 0%8=k;rw [oi (by have:=hx.2.2;rw [g.kl];exact Ry ‹_›),Q3,Qa,Qh,Qh,cT (g.bl ▸ hs),g.kb];have:=hx.2.1;split
  ·rename_i e;subst e;constructor
   ·rintro (⟨q,_⟩ | ⟨q,_⟩)
    ·exact absurd h0 q
    ·exact ⟨by exact Mt ‹_›,q.symm⟩
   ·rintro ⟨_,q⟩;exact .inr ⟨q.symm,rfl⟩
  ·exact ⟨λq=>q.elim id λq=>absurd q.2.symm ‹_›,.inl⟩
 sb:=λk t=>by
  show ((R.bX.set (x / 8) (R.bX.getD (x / 8) 0 ||| 2^s)).getD k 0).testBit t=true↔(R.ae.set s x).getD t 0≠0/\(R.ae.set s x).getD t 0 / 8=k;rw [oi (by have:=hx.1;rw [g.sl];exact zc ‹_›),Q3,Qa,Qh,Qh,cT (g.bl ▸ hs),g.sb];have:=hx.2.1;split
  ·rename_i e;subst e;constructor
   ·rintro (⟨q,_⟩ | ⟨q,_⟩)
    ·exact absurd h0 q
    ·exact ⟨by exact Mt ‹_›,q.symm⟩
   ·rintro ⟨_,q⟩;exact .inr ⟨q.symm,rfl⟩
  ·exact ⟨λq=>q.elim id λq=>absurd q.2.symm ‹_›,.inl⟩
theorem nZ {a b:Bool}:(a ^^ b)=true↔¬(a=true↔b=true):=by cases a<;>cases b<;>decide
theorem ba.take (g:ba G R) (h0:bd R s≠0):ba G (nj G R s) where
 bl:=(Ql ..).trans g.bl
 kl:=(Ql ..).trans g.kl
 sl:=(Ql ..).trans g.sl
 mn:=λt ht=>by
  show nE ((R.ae.set s 0).getD t 0);have ht:(R.ae.set s 0).getD t 0≠0:=ht;rw [cT (g.bl ▸ g.lt h0)] at ht ⊢;split at ht
  ·exact absurd rfl ht
  ·rw [Qb ‹_›];exact g.mn t ht
 kb:=λk t=>by
  show ((R.bF.set (bd R s%8) (R.bF.getD (bd R s%8) 0 ^^^ 2^s)).getD k 0).testBit t=true↔(R.ae.set s 0).getD t 0≠0/\(R.ae.set s 0).getD t 0%8=k;have hx:=g.mn s h0;rw [i7 (by have:=hx.2.2;rw [g.kl];exact Ry ‹_›),cT (g.bl ▸ g.lt h0),Rq,nZ,g.kb,Qa,Qh,Qh];split
  ·rename_i e;subst e;exact ⟨λq=>absurd ⟨λz=>⟨z.2.symm,rfl⟩,λz=>⟨h0,z.1.symm⟩⟩ q,λq=>absurd rfl q.1⟩
  ·rename_i e;exact ⟨λq=>Sl λz=>q ⟨λy=>absurd y z,λy=>absurd y.2.symm e⟩,λq z=>absurd (z.mp q).2.symm e⟩
 sb:=λk t=>by
  show ((R.bX.set (bd R s / 8) (R.bX.getD (bd R s / 8) 0 ^^^ 2^s)).getD k 0).testBit t=true↔(R.ae.set s 0).getD t 0≠0/\(R.ae.set s 0).getD t 0 / 8=k;have hx:=g.mn s h0;rw [i7 (by have:=hx.1;rw [g.sl];exact zc ‹_›),cT (g.bl ▸ g.lt h0),Rq,nZ,g.sb,Qa,Qh,Qh];split
  ·rename_i e;subst e;exact ⟨λq=>absurd ⟨λz=>⟨z.2.symm,rfl⟩,λz=>⟨h0,z.1.symm⟩⟩ q,λq=>absurd rfl q.1⟩
  ·rename_i e;exact ⟨λq=>Sl λz=>q ⟨λy=>absurd y z,λy=>absurd y.2.symm e⟩,λq z=>absurd (z.mp q).2.symm e⟩
theorem kL.put (g:ba G R) (hx:x≠0) (hs:s<G.size) (h0:bd R s=0) (k:R.key=kL G R):(we G R x s).key=kL G (we G R x s):=by
 show R.key ^^^ 2^(x*G.size+s)=cX G R ^^^ xk G.size (λm=>decide (m≠0)) (R.ae.set s x) G.size;rw [lj (g.bl ▸ hs) h0 hx hs,k,kL,Rp]
theorem kL.take (g:ba G R) (h0:bd R s≠0) (k:R.key=kL G R):(nj G R s).key=kL G (nj G R s):=by
 show R.key ^^^ 2^(R.ae.getD s 0*G.size+s)=cX G R ^^^ xk G.size (λm=>decide (m≠0)) (R.ae.set s 0) G.size;rw [kN (g.bl ▸ g.lt h0) h0 (g.lt h0),k,kL,Rp]
theorem ba.shift (g:ba G R) (h0:bd R x≠0) (hy:y<G.size) (h1:bd R y=0):ba G (lG G R x y):=by
 have g1:=g.take h0;have hxy:x≠y:=λe=>h0 (e ▸ h1);have g2:=g1.put (x:=bd R x) (s:=y) (g.mn x h0) hy (by show (R.ae.set x 0).getD y 0=0;rw [aM (Ne.symm hxy)];exact h1)
 have e1:∀(l:List Nat) (i j b:Nat),i<l.length->¬((l.set i (l.getD i 0 ^^^ 2^x)).getD i 0).testBit y=true->((l.set i (l.getD i 0 ^^^ (2^x ||| 2^y))).getD j 0).testBit b=((((l.set i (l.getD i 0 ^^^ 2^x)).set i ((l.set i (l.getD i 0 ^^^ 2^x)).getD i 0 ||| 2^y)).getD j 0).testBit b):=λl i j b hi hf=>by
  rw [oi (by rw [Ql];exact hi),i7 hi,i7 hi,SS,Rq,Rq];rw [i7 hi,Qq rfl,Sx,Rq,decide_eq_false hxy,Si] at hf;by_cases ej:j=i
  ·subst ej;rw [Qq rfl,Sx,Sx,Sx];by_cases eb:y=b
   ·subst eb;rw [Qq rfl,decide_eq_false hxy,gg hf];rfl
   ·rw [decide_eq_false eb,TN,TN]
  ·rw [decide_eq_false ej,To,To,To,TN]
 have hm:=g.mn x h0;have hz:(nj G R x).ae.getD y 0=0:=(aM (Ne.symm hxy)).trans h1
 exact ⟨g2.bl,(Ql ..).trans g.kl,(Ql ..).trans g.sl,g2.mn,
  λk t=>by
   refine Iff.trans ?_ (g2.kb k t);show ((R.bF.set (bd R x%8) _).getD k 0).testBit t=true↔_
   rw [e1 R.bF (bd R x%8) k t (by have:=hm.2.2;rw [g.kl];exact Ry ‹_›) λq=>((g1.kb _ y).mp q).1 hz];exact Iff.rfl,
  λk t=>by
   refine Iff.trans ?_ (g2.sb k t);show ((R.bX.set (bd R x / 8) _).getD k 0).testBit t=true↔_
   rw [e1 R.bX (bd R x / 8) k t (by have:=hm.1;rw [g.sl];exact zc ‹_›) λq=>((g1.sb _ y).mp q).1 hz];exact Iff.rfl⟩
theorem kL.shift (g:ba G R) (h0:bd R x≠0) (hy:y<G.size) (h1:bd R y=0) (k:R.key=kL G R):(lG G R x y).key=kL G (lG G R x y):=by
 have hxy:x≠y:=λe=>h0 (e ▸ h1);have:=kL.put (g.take h0) (x:=bd R x) h0 hy (by show (R.ae.set x 0).getD y 0=0;rw [aM (Ne.symm hxy)];exact h1) (kL.take g h0 k);rw [show (lG G R x y).key=(we G (nj G R x) (bd R x) y).key from (Rp ..).symm,this];rfl
theorem ba.congr (g:ba G R) (h1:R'.ae=R.ae) (h2:R'.bF=R.bF) (h3:R'.bX=R.bX):ba G R':=by
 obtain ⟨a,b,c,d,e,f⟩:=g;exact ⟨h1 ▸ a,h2 ▸ b,h3 ▸ c,by unfold bd;rw [h1];exact d,by unfold bd K;rw [h1,h2];exact e,by unfold bd Sd;rw [h1,h3];exact f⟩
end
section
variable {d x y s c k o t sp f i rf rt:Nat} {H:Hp} {a:Ad} {G:aE} {R:Rw} {q:V->Hp->Prop}
def yu:Prop:=∀(w:W H a G R) (g:cu G) (hc:c<2) (hi:i=2*c\/i=2*c+1) (hw:G.bt.getD i none=some (o,t,rf,rt)) (hu:∀v,G.bt.getD (2*c) none=some v->v.2.1=t->2*c=i) (h:q (.tup [nv rf,nv rt]) H),Call (d+1) 34 [.ref a.g,nv c,nv t] H q
theorem El:@yu d c o t i rf rt H a G R q:=au (S:=λx:(Nat×Nat×Nat×Nat)×(Nat×Nat×Nat×Hp)×(Ad×aE×Rw×(V->Hp->Prop))=>@yu x.1.1 x.1.2.1 x.1.2.2.1 x.1.2.2.2 x.2.1.1 x.2.1.2.1 x.2.1.2.2.1 x.2.1.2.2.2 x.2.2.1 x.2.2.2.1 x.2.2.2.2.1 x.2.2.2.2.2) (x:=((0,0,0,0),(0,0,0,λ_=>none),(j0,bO,fG,λ_ _=>True))) (by
 refine (?_:∀d c o t i rf rt H a G R q,@yu d c o t i rf rt H a G R q) _ _ _ _ _ _ _ _ _ _ _ _;intro d c o t i rf rt H a G R q w g hc hi hw hu h;refine aq rfl rfl ?_;refine bT (x:=2) (by decide) ?_;refine bT (x:=2) (by decide) ?_;refine p_add ?_;refine ⟨show 2<=1000 by decide,?_⟩;refine G1 (vs:=[nv (2*c),nv (2*c+1)]) (λk ρ' H'=>H'=H/\2*c+k<=i/\∃y z,ρ'=[some (.ref a.g),some (nv c),some (nv t),y,z]) (λk v ρ' H' K hv hI hn hr _=>?_) (λρ' H' hI=>?_) ⟨rfl,by lia,none,none,rfl⟩
 ·obtain ⟨rfl,e,y,z,rfl⟩:=hI
  have hk:k<2/\v=nv (2*c+k):=by
   rcases k with _ | _ | k
   ·cases hv;exact ⟨by decide,rfl⟩
   ·cases hv;exact ⟨by decide,rfl⟩
   ·cases hv
  obtain ⟨hk,rfl⟩:=hk;refine eT ‹_› rfl ?_;refine vC w g (by lia) ?_;have next:2*c+k≠i->∀ρ',(∃y z,ρ'=[some (.ref a.g),some (nv c),some (nv t),y,z])->K Fl.next ρ' H':=λhne ρ' e'=>hn _ _ ⟨rfl,by exact QQ ‹_› ‹_›,e'⟩
  cases hw':G.bt.getD (2*c+k) none with
  | none=>
   have:2*c+k≠i:=λe=>by rw [e,hw] at hw';cases hw'
   refine tZ ?_;refine gE ?_;refine gE ?_;exact next this _ ⟨_,_,rfl⟩
  | some v=>
   obtain ⟨kf,kt,rf',rt'⟩:=v;refine tZ ?_;refine o9 ?_;refine dU (i:=1) rfl ?_;refine aR ?_;refine ag (λe1=>?_) (λe1=>?_)
   ·have e2:2*c+k=i:=by
     rcases k with _ | _ | k
     ·exact hu _ hw' e1
     ·lia
     ·lia
    rw [e2,hw] at hw';cases hw';refine dU (i:=2) rfl ?_;refine dU (i:=3) rfl ?_;refine ⟨show 2<=1000 by decide,?_⟩;refine hr _ _ _ ?_;refine aj ?_;exact h
   ·exact next (λe=>e1 (by rw [e,hw] at hw';cases hw';rfl)) _ ⟨_,_,rfl⟩
 ·refine dJ hI ?_;rintro rfl e _
  exact absurd e (by show ¬2*c+2<=i;lia)) ((d,c,o,t),(i,rf,rt,H),(a,G,R,q))
noncomputable def C6 (G:aE) (e c o t:Nat):Int:=if t=o+2*G.aa\/o=t+2*G.aa then (if ct G c ((o+t) / 2) &&& e=0 then -1 else ((o+t) / 2:Nat)) else -1
theorem HN (w:W H a G R) (g:cu G) (l:Len G R) (hc:c<2) (ho:o<G.size) (ht:t<G.size) (h:q (.int (C6 G (K R 1 &&& Sd R (1-c)) c o t)) H):Call (d+1) 35 [.ref a.p,nv c,nv o,nv t] H q:=by
 unfold C6 at h
 have main:(t=o+2*G.aa\/o=t+2*G.aa)->aO (Call d) (.cons (.asg 5 (.bin .fdiv (.bin .add (.loc 2) (.loc 3)) (.bC 2))) (.cons (.asg 6 (.bin .and (.sub (.attr (.loc 0) 21) (.bC 1)) (.sub (.attr (.loc 0) 22) (.bin .sub (.bC 1) (.loc 1))))) (.cons (.bh (.cmp .eq (.bin .and (.sub (.sub (.attr (.attr (.loc 0) 18) 15) (.loc 1)) (.loc 5)) (.loc 6)) (.bC 0)) (.cons (.ret (.neg (.bC 1))) .nil) .nil) (.cons (.ret (.loc 5)) .nil))))
  [some (.ref a.p),some (nv c),some (nv o),some (nv t),some (nv G.aa),none,none] H (dq q):=λe=>by
  rw [Qk e] at h
  have hp:(o+t) / 2<G.size:=by lia
  refine p_add ?_;refine dd (y:=2) (by decide) (by decide) ?_;refine aI ‹_› rfl ?_;refine aU (i:=1) w.P.kd (by rw [l.kl];decide) ?_;refine aI ‹_› rfl ?_;refine dy ‹_› ?_;refine aU w.P.sd (by rw [l.sl];exact pY) ?_;refine aS ?_;refine aI ‹_› rfl ?_;refine eT ‹_› rfl ?_;refine oj ‹_› ‹_› ?_;refine zu ‹_› ‹_› ‹_› ‹_› ?_;refine aS ?_;refine aR ?_;refine ag (λe1=>?_) (λe1=>?_)
  ·rw [Qk e1] at h;refine eP ?_;refine aj ?_;exact h
  ·rw [Qb e1] at h;refine aj ?_;exact h
 refine aq rfl rfl ?_;refine aI ‹_› rfl ?_;refine eT ‹_› rfl ?_;refine dc ?_;refine bT (x:=2) (by decide) ?_;refine qE ?_;refine ag (λe=>?_) (λe=>?_)
 ·refine dc ?_;refine bT (x:=2) (by decide) ?_;refine qE ?_;refine ag (λe1=>?_) (λe1=>?_)
  ·rw [Qb (by lia)] at h;refine eP ?_;refine aj ?_;exact h
  ·exact main (.inr (by lia))
 ·refine ag (λe1=>absurd e1 e) (λ_=>?_);exact main (.inl (by lia))
noncomputable def de (G:aE) (R:Rw) (o t:Nat):Nat:=R.ab- (R.ab &&& (G.cP.getD o 0 ||| G.cP.getD t 0))
theorem HM (w:W H a G R) (g:cu G) (ho:o<G.size) (ht:t<G.size) (h:q (nv (de G R o t)) H):Call (d+1) 36 [.ref a.p,nv o,nv t] H q:=by
 refine aq rfl rfl ?_;refine aI ‹_› rfl ?_;refine eT ‹_› rfl ?_;refine vA w g ho ?_;refine aI ‹_› rfl ?_;refine eT ‹_› rfl ?_;refine vA w g ht ?_;refine cW ?_;refine aI ‹_› rfl ?_;refine aI ‹_› rfl ?_;refine aS ?_;refine cH Nat.and_le_left ?_;refine aj ?_;exact h
structure eC (G:aE) (R:Rw) (o t sp f wh rf rt:Nat):Prop where
 ho:o<G.size
 ht:t<G.size
 ot:o≠t
 s4:sp<4
 f4:f<4
 b0:bd R o≠0
 bs:bd R o / 8=R.af
 hw:wh=if sp=2 then ij G R t else t
 w1:wh<G.size
 w2:wh≠o
 e0:sp=2->bd R t=0/\wh≠t/\R.ep=t
 e1:sp=2->R.af=0->G.aa<=t
 pr:sp=1->bd R o%8=1
 d2:bd R o%8=1->t=o+2*G.aa\/o=t+2*G.aa->bd R wh=0
 ca:sp=3->∃i,(i=2*R.af\/i=2*R.af+1)/\G.bt.getD i none=some (o,t,rf,rt)/\(∀v,G.bt.getD (2*R.af) none=some v->v.2.1=t->2*R.af=i)
 c1:sp=3->bd R rf=R.af*8+4/\bd R t=0/\bd R rt=0/\rf<G.size/\rt<G.size/\rf≠o/\rt≠t
theorem eC.sz {wh:Nat} (m:eC G R o t sp f wh rf rt) (g:cu G):o<64/\t<64/\G.aa<G.size:=by
 have:=g.i3;have:=m.ho;have:=m.ht;have h1:=g.f0;have h2:=g.r0;refine ⟨by exact f9 ‹_› ‹_› (by rfl),by exact f9 ‹_› ‹_› (by rfl),?_⟩;have:G.aa*1<G.aa*G.bE:=Nat.mul_lt_mul_of_pos_left (by exact Qp ‹_›) (by exact Qp ‹_›);unfold aE.size;lia
theorem Eo {wh:Nat} {R1:Rw} (w:W H a G R1) (g:cu G) (m:eC G R o t sp f wh rf rt) (hs:R1.af=R.af) (h:q (nv wh) H):Call (d+2) 33 [.ref a.p,nv (pk o t sp f)] H q:=by
 have ⟨h1,h2,h3⟩:=m.sz g;have hw:=m.hw;refine aq rfl rfl ?_;refine BX ?_;rw [lS h2];refine E8 ?_;rw [lT h1 h2 m.s4 m.f4];refine eD ?_;refine ag (λe=>?_) λe=>?_
 ·rw [Qb e] at hw;refine aj ?_;rw [<- hw];exact h
 ·have e:sp=2:=QD.mp e;rw [Qk e,ij] at hw;refine aI ‹_› rfl ?_;refine aR ?_;refine ag (λe1=>?_) λe1=>?_
  ·have e1:R.af=0:=hs ▸ e1;rw [Qk e1] at hw;refine aI ‹_› rfl ?_;refine eT ‹_› rfl ?_;refine cH (m.e1 e e1) ?_;refine aj ?_;rw [<- hw];exact h
  ·have e1:¬R.af=0:=hs ▸ e1;rw [Qb e1] at hw;refine aI ‹_› rfl ?_;refine eT ‹_› rfl ?_;refine p_add ?_;refine aj ?_;rw [<- hw];exact h
end
structure eL (kk:Prop) (G:aE) (c r:Nat) (hs:List V) (b:List Nat) (e:Int) (R:Rw):Prop where
 gd:ba G R
 key:kk->R.key=kL G R
 af:R.af=c
 ab:R.ab=r
 cA:R.cA=hs
 ae:R.ae=b
 ep:R.ep=e
section
variable {kk:Prop} {d x y s c r k o t sp f i rf rt:Nat} {H:Hp} {a:Ad} {G:aE} {R:Rw} {q:V->Hp->Prop} {hs:List V} {b:List Nat} {e:Int}
theorem x3 (A E E' S X:Nat):(((A ^^^ E) ^^^ S) ^^^ X) ^^^ (E ^^^ E')=((A ^^^ E') ^^^ S) ^^^ X:=cM λi=>by
 rw [Qo,Qo,Qo,Qo,Qo,Qo,Qo,Qo]
 cases A.testBit i<;>cases E.testBit i<;>cases S.testBit i<;>cases X.testBit i<;>cases E'.testBit i<;>rfl
theorem x4 (A B E S X:Nat):(((A ^^^ E) ^^^ S) ^^^ X) ^^^ (A ^^^ B)=((B ^^^ E) ^^^ S) ^^^ X:=cM λi=>by
 rw [Qo,Qo,Qo,Qo,Qo,Qo,Qo,Qo]
 cases A.testBit i<;>cases E.testBit i<;>cases S.testBit i<;>cases X.testBit i<;>cases B.testBit i<;>rfl
theorem x5 (A S S' X:Nat):((A ^^^ S) ^^^ X) ^^^ (S ^^^ S')=(A ^^^ S') ^^^ X:=cM λi=>by
 rw [Qo,Qo,Qo,Qo,Qo,Qo]
 cases A.testBit i<;>cases S.testBit i<;>cases X.testBit i<;>cases S'.testBit i<;>rfl
theorem eL.fK (m:eL kk G c r hs b e R) (v:Int):eL kk G c r hs b e { R with fK:=v }:=⟨m.gd.congr rfl rfl rfl,m.key,m.af,m.ab,m.cA,m.ae,m.ep⟩
theorem eL.full (m:eL kk G c r hs b e R) (v:Int):eL kk G c r hs b e { R with full:=v }:=⟨m.gd.congr rfl rfl rfl,m.key,m.af,m.ab,m.cA,m.ae,m.ep⟩
theorem eL.GP (m:eL kk G c r hs b e R) (v:List V):eL kk G c r v b e { R with cA:=v }:=⟨m.gd.congr rfl rfl rfl,m.key,m.af,m.ab,rfl,m.ae,m.ep⟩
noncomputable def rT (G:aE) (e:Int):Nat:=if 0<=e then 2^(15*G.size+4+e.toNat%G.aa) else 0
noncomputable def vb (G:aE) (c:Nat):Nat:=if c=1 then yZ G.size G.aa else 0
theorem iZ:kL G R=(((R.ab <<< (15*G.size) ^^^ rT G R.ep) ^^^ vb G R.af) ^^^ xk G.size (λm=>decide (m≠0)) R.ae G.size):=rfl
theorem xJ:rT G (-1)=0:=Qb (by decide)
theorem eL.PF (m:eL kk G c r hs b e R) (h:-1<=e):eL kk G c r hs b (-1) (xS G R):=by
 have hb:=m.ep;unfold xS;split
 ·rename_i h0;refine ⟨m.gd.congr rfl rfl rfl,λz=>?_,m.af,m.ab,m.cA,m.ae,rfl⟩;show R.key ^^^ 2^(15*G.size+4+R.ep.toNat%G.aa)=(((R.ab <<< (15*G.size) ^^^ rT G (-1)) ^^^ vb G R.af) ^^^ xk G.size (λm=>decide (m≠0)) R.ae G.size);rw [m.key z,iZ,xJ,show rT G R.ep=2^(15*G.size+4+R.ep.toNat%G.aa) from Qk h0];have:=x3 (R.ab <<< (15*G.size)) (2^(15*G.size+4+R.ep.toNat%G.aa)) 0 (vb G R.af) (xk G.size (λm=>decide (m≠0)) R.ae G.size);rw [RQ (2^_)] at this;exact this
 ·exact ⟨m.gd,m.key,m.af,m.ab,m.cA,m.ae,by lia⟩
theorem eL.sep (m:eL kk G c r hs b (-1) R):eL kk G c r hs b e (Cw G R e):=by
 have hb:=m.ep;refine ⟨m.gd.congr rfl rfl rfl,λz=>?_,m.af,m.ab,m.cA,m.ae,rfl⟩;show (if 0<=e then R.key ^^^ 2^(15*G.size+4+e.toNat%G.aa) else R.key)=(((R.ab <<< (15*G.size) ^^^ rT G e) ^^^ vb G R.af) ^^^ xk G.size (λm=>decide (m≠0)) R.ae G.size);rw [m.key z,iZ,hb,xJ];unfold rT;split
 ·have:=x3 (R.ab <<< (15*G.size)) 0 (2^(15*G.size+4+e.toNat%G.aa)) (vb G R.af) (xk G.size (λm=>decide (m≠0)) R.ae G.size);rw [Nat.zero_xor] at this;exact this
 ·rfl
theorem eL.sr {r':Nat} (m:eL kk G c r hs b e R):eL kk G c r' hs b e (Cq G R r'):=by
 unfold Cq;split
 ·refine ⟨m.gd.congr rfl rfl rfl,λz=>?_,m.af,rfl,m.cA,m.ae,m.ep⟩;show R.key ^^^ (R.ab <<< (15*G.size) ^^^ r' <<< (15*G.size))=(((r' <<< (15*G.size) ^^^ rT G R.ep) ^^^ vb G R.af) ^^^ xk G.size (λm=>decide (m≠0)) R.ae G.size);rw [m.key z,iZ];exact x4 ..
 ·rename_i h;exact ⟨m.gd,m.key,m.af,(QD.mp h).symm,m.cA,m.ae,m.ep⟩
theorem eL.flip (m:eL kk G c r hs b e R) (hc:c<2):eL kk G (1-c) r hs b e { R with af:=1-c,key:=R.key ^^^ yZ G.size G.aa }:=by
 have hb:=m.af;refine ⟨m.gd.congr rfl rfl rfl,λz=>?_,rfl,m.ab,m.cA,m.ae,m.ep⟩;show R.key ^^^ yZ G.size G.aa=(((R.ab <<< (15*G.size) ^^^ rT G R.ep) ^^^ vb G (1-c)) ^^^ xk G.size (λm=>decide (m≠0)) R.ae G.size);rw [m.key z,iZ,hb,<- x5 _ (vb G c) (vb G (1-c))];congr 1;rcases fp c hc with rfl | rfl
 ·exact (Nat.zero_xor _).symm
 ·exact (RQ _).symm
theorem eL.G2 (m:eL kk G c r hs b e R) {c':Nat}:eL False G c' r hs b e { R with af:=c' }:=⟨m.gd.congr rfl rfl rfl,λz=>z.elim,rfl,m.ab,m.cA,m.ae,m.ep⟩
theorem ba.len (g:ba G R):Len G R:=⟨g.bl,g.kl,g.sl⟩
theorem nE.good (h:nE x):good x:=⟨h.1,Ry h.2.2⟩
theorem rJ (S:gb H a G) (g:cu G) (m:eL kk G c r hs b e R) (h0:b.getD s 0≠0) (h:∀R',eL kk G c r hs (b.set s 0) e R'->q (nv (b.getD s 0)) (H.put a R')):Call (d+2) 26 [.ref a.p,nv s] (H.put a R) q:=by
 have hb:=m.ae;subst hb;exact LI S g m.gd.len (m.gd.mn s h0).good (m.gd.lt h0) (h _ ⟨m.gd.take h0,λz=>kL.take m.gd h0 (m.key z),m.af,m.ab,m.cA,rfl,m.ep⟩)
theorem tv (S:gb H a G) (g:cu G) (m:eL kk G c r hs b e R) (hx:nE x) (hs':s<G.size) (h0:b.getD s 0=0) (h:∀R',eL kk G c r hs (b.set s x) e R'->q .none (H.put a R')):Call (d+2) 25 [.ref a.p,nv x,nv s] (H.put a R) q:=by
 have hb:=m.ae;subst hb
 have hx0:x≠0:=λe=>by subst e;exact absurd hx.2.1 (by decide)
 exact LJ S g m.gd.len hx.good hs' (h _ ⟨m.gd.put hx hs' h0,λz=>kL.put m.gd hx0 hs' h0 (m.key z),m.af,m.ab,m.cA,rfl,m.ep⟩)
theorem kW (S:gb H a G) (g:cu G) (m:eL kk G c r hs b e R) (h0:b.getD x 0≠0) (hs':y<G.size) (h1:b.getD y 0=0) (h:∀R',eL kk G c r hs ((b.set x 0).set y (b.getD x 0)) e R'->q .none (H.put a R')):Call (d+2) 27 [.ref a.p,nv x,nv y] (H.put a R) q:=by
 have hb:=m.ae;subst hb;exact LH S g m.gd.len (m.gd.mn x h0).good (m.gd.lt h0) hs' (h _ ⟨m.gd.shift h0 hs' h1,λz=>kL.shift m.gd h0 hs' h1 (m.key z),m.af,m.ab,m.cA,rfl,m.ep⟩)
theorem HO {wh:Nat} (w:W H a G R) (g:cu G) (l:Len G R) (m:eC G R o t sp f wh rf rt) (h:q (nv (bd R o)) H):Call (d+2) 32 [.ref a.p,nv (pk o t sp f)] H q:=by
 have ⟨h1,h2,h3⟩:=m.sz g;have ho:=m.ho;have ht:=m.ht;refine aq rfl rfl ?_;refine E9 ?_;rw [oK h1 h2];refine aI ‹_› rfl ?_;refine eT ‹_› rfl ?_;refine Ho ?_;refine ag (λe=>absurd e (by exact absurd ‹_› (Nat.not_le.mpr ‹_›))) λ_=>?_;refine BX ?_;rw [lS h2];refine aI ‹_› rfl ?_;refine eT ‹_› rfl ?_;refine Ho ?_;refine ag (λe=>absurd e (by exact absurd ‹_› (Rv.mpr ‹_›))) λ_=>?_;refine aI ‹_› rfl ?_;refine aU w.P.bd (by rw [l.bl];exact ho) ?_;refine aR ?_;refine ag (λe=>absurd e m.b0) λ_=>?_;refine HX ?_;refine aI ‹_› rfl ?_;refine eD ?_;refine ag (λe=>absurd m.bs e) λ_=>?_;refine aj ?_;exact h
end
noncomputable def gX (R:Rw) (o sp f:Nat):Nat:=if sp=1 then R.af*8+(f+2) else bd R o
noncomputable def c9 (R:Rw) (o t sp f wh:Nat):List Nat:=((R.ae.set wh 0).set o 0).set t (gX R o sp f)
noncomputable def bR (R:Rw) (o t sp f wh rf rt:Nat):List Nat:=if sp=3 then ((c9 R o t sp f wh).set rf 0).set rt (R.af*8+4) else c9 R o t sp f wh
noncomputable def iR (R:Rw) (o t sp f wh:Nat):V:=.tup [nv (pk o t sp f),nv (bd R wh),nv R.ab,.int R.ep,.int R.fK,nv R.key]
noncomputable def gp (G:aE) (R' R:Rw) (o t:Nat):Int:=if bd R o%8=1 then C6 G (K R' 1 &&& Sd R' (1-R.af)) R.af o t else -1
structure Done (G:aE) (R:Rw) (o t sp f wh rf rt:Nat) (R':Rw):Prop where
 m:eL True G (1-R.af) (de G R o t) (R.cA++ [iR R o t sp f wh]) (bR R o t sp f wh rf rt) (gp G R' R o t) R'
section
variable {kk:Prop} {d x y s c r k o t sp f i rf rt wh:Nat} {H:Hp} {a:Ad} {G:aE} {R:Rw} {q:V->Hp->Prop} {hs:List V} {b:List Nat} {e:Int}
theorem eC.nE (m:eC G R o t sp f wh rf rt) (g0:ba G R) (hc:R.af<2):nE (gX R o sp f):=by
 unfold gX;have:=m.f4;split
 ·exact ⟨by exact Dc ‹_› ‹_›,by exact JQ ‹_›,by exact JK ‹_›⟩
 ·exact g0.mn o m.b0
theorem Ij {l:List Nat} {s:Nat} (h:l.getD s 0=0):l.set s 0=l:=eJ (Ql ..) λi=>by
 by_cases e:s<l.length
 ·rw [cT e];split
  ·subst_vars;exact h.symm
  ·rfl
 ·rw [List.set_eq_of_length_le (SA e)]
noncomputable def va:Nat->S->S
 | n+1,.cons _ r=>va n r
 | _,s=>s
def se {R5:Rw} {v9:V}:Prop:=∀(S:gb H a G) (g:cu G) (bl:R.ae.length=G.size) (hc:R.af<2) (m:eC G R o t sp f wh rf rt) (je:R.ab<16) (lb:de G R o t<16) (hwr:sp=3->wh≠rf) (m5:eL True G R.af R.ab hs (c9 R o t sp f wh) (-1) R5) (h:∀R',eL True G (1-R.af) (de G R o t) hs (bR R o t sp f wh rf rt) (gp G R' R o t) R'->q .none (H.put a R')),aO (Call (d+3)) (va 14 Je.body) [some (.ref a.p),some (nv (pk o t sp f)),some (nv (bd R o)),some (nv R.af),some (nv o),some (nv t),some (nv sp),some (.tup (if sp=3 then [nv rf,nv rt] else [.int (-1),.int (-1)])),some (nv wh),some v9] (H.put a R5) (dq q)
theorem HI {R5:Rw} {v9:V}:@se d o t sp f rf rt wh H a G R q hs R5 v9:=au (S:=λx:(Nat×Nat×Nat×Nat)×(Nat×Nat×Nat×Nat)×(Hp×Ad×aE×Rw)×((V->Hp->Prop)×List V×Rw×V)=>@se x.1.1 x.1.2.1 x.1.2.2.1 x.1.2.2.2 x.2.1.1 x.2.1.2.1 x.2.1.2.2.1 x.2.1.2.2.2 x.2.2.1.1 x.2.2.1.2.1 x.2.2.1.2.2.1 x.2.2.1.2.2.2 x.2.2.2.1 x.2.2.2.2.1 x.2.2.2.2.2.1 x.2.2.2.2.2.2) (x:=((0,0,0,0),(0,0,0,0),(λ_=>none,j0,bO,fG),(λ_ _=>True,[],fG,.none))) (by
 refine (?_:∀d o t sp f rf rt wh H a G R q hs R5 v9,@se d o t sp f rf rt wh H a G R q hs R5 v9) _ _ _ _ _ _ _ _ _ _ _ _ _ _ _ _;intro d o t sp f rf rt wh H a G R q hs R5 v9 S g bl hc m je lb hwr m5 h;have wR:=S.w;have w5:=wR R5;refine aR ?_;refine fD (λρ' H'=>ρ'=[some (.ref a.p),some (nv (pk o t sp f)),some (nv (bd R o)),some (nv R.af),some (nv o),some (nv t),some (nv sp),some (.tup (if sp=3 then [nv rf,nv rt] else [.int (-1),.int (-1)])),some (nv wh),some v9]/\∃R',H'=H.put a R'/\eL True G R.af R.ab hs (bR R o t sp f wh rf rt) (-1) R') (λρ' H' hI=>?_) λK' j _=>?_
 rotate_left
 ·refine ag (λe=>?_) (λe=>?_)
  ·refine uP (m.c1 e) λe1 e2 e3 e4 e5 e6 e7=>?_
   have hrt:rf≠t:=λz=>by rw [z,e2] at e1;exact absurd (Eq.symm ‹_›) kA
   have b1:(c9 R o t sp f wh).getD rf 0=R.af*8+4:=by unfold c9;rw [aM hrt,aM e6,aM (Ne.symm (hwr e))];exact e1
   have b2:(c9 R o t sp f wh).getD rt 0=0:=by
    unfold c9;rw [aM e7];by_cases z:rt=o
    ·rw [z,cT (by rw [Ql,bl];exact m.ho),Qk rfl]
    ·rw [aM z];by_cases z:rt=wh
     ·rw [z,cT (by rw [bl];exact m.w1),Qk rfl]
     ·rw [aM z];exact e3
   rw [Qk e];refine dU (i:=0) rfl ?_;refine dU (i:=1) rfl ?_;refine kW S g m5 (by rw [b1];exact kA) e5 b2 λR' m'=>?_;refine aQ ?_;exact j _ _ ⟨by rw [Qk e],_,rfl,by unfold bR;rw [Qk e,<- b1];exact m'⟩
  ·exact j _ _ ⟨rfl,_,rfl,by unfold bR;rw [Qb e];exact m5⟩
 obtain ⟨rfl,R6,rfl,m6⟩:=hI;have w6:=wR R6;refine Er ?_;refine aR ?_;refine fD (λρ' H'=>ρ'=[some (.ref a.p),some (nv (pk o t sp f)),some (nv (bd R o)),some (nv R.af),some (nv o),some (nv t),some (nv sp),some (.tup (if sp=3 then [nv rf,nv rt] else [.int (-1),.int (-1)])),some (nv wh),some v9]/\∃R',H'=H.put a R'/\eL True G R.af R.ab hs (bR R o t sp f wh rf rt) (gp G R' R o t) R') (λρ' H' hI=>?_) λK' j _=>?_
 rotate_left
 ·refine ag (λe=>?_) (λe=>?_)
  ·refine jc S ?_;have m7:=m6.fK 0;generalize { R6 with fK:=0 }=R7 at m7 ⊢;have w7:=wR R7;refine HN w7 g m7.gd.len hc m.ho m.ht ?_;refine LC S g ?_;refine aQ ?_;exact j _ _ ⟨rfl,_,rfl,by unfold gp;rw [Qk e];exact m7.sep⟩
  ·exact j _ _ ⟨rfl,_,rfl,by unfold gp;rw [Qb e];exact m6⟩
 obtain ⟨rfl,R7,rfl,m7⟩:=hI;have w7:=wR R7;refine HM w7 g m.ho m.ht ?_
 have er:de G R7 o t=de G R o t:=by unfold de;rw [m7.ab]
 rw [er];refine LA S (m7.ab ▸ je) lb ?_;have m8:=m7.sr (r':=de G R o t)
 have e8:gp G (Cq G R7 (de G R o t)) R o t=gp G R7 R o t:=by unfold Cq;split<;>rfl
 rw [<- e8] at m8;generalize Cq G R7 (de G R o t)=R8 at m8 ⊢;have w8:=wR R8;refine aQ ?_;refine aR ?_;refine fD (λρ' H'=>ρ'=[some (.ref a.p),some (nv (pk o t sp f)),some (nv (bd R o)),some (nv R.af),some (nv o),some (nv t),some (nv sp),some (.tup (if sp=3 then [nv rf,nv rt] else [.int (-1),.int (-1)])),some (nv wh),some v9]/\∃R',H'=H.put a R'/\eL True G R.af (de G R o t) hs (bR R o t sp f wh rf rt) (gp G R' R o t) R') (λρ' H' hI=>?_) λK' j _=>?_
 rotate_left
 ·refine ag (λe=>?_) (λe=>?_)
  ·refine aI ‹_› rfl ?_;refine bG ?_;refine g5 ?_;refine pV S ?_;exact j _ _ ⟨rfl,_,rfl,m8.full _⟩
  ·exact j _ _ ⟨rfl,_,rfl,m8⟩
 obtain ⟨rfl,R9,rfl,m9⟩:=hI;have w9:=wR R9;refine dy ‹_› ?_;refine lH S ?_;have w10:=wR { R9 with af:=1-R.af };refine aI ‹_› rfl ?_;refine aI ‹_› rfl ?_;refine la ‹_› rfl ?_;refine bG ?_;refine bS ?_;refine fh S ?_
 refine fN (h _ (m9.flip hc))) ((d,o,t,sp),(f,rf,rt,wh),(H,a,G,R),(q,hs,R5,v9))
def sg {R4:Rw} {v9:V}:Prop:=∀(S:gb H a G) (g:cu G) (g0:ba G R) (hc:R.af<2) (m:eC G R o t sp f wh rf rt) (je:R.ab<16) (lb:de G R o t<16) (hwr:sp=3->wh≠rf) (m4:eL True G R.af R.ab hs (R.ae.set wh 0) (-1) R4) (h:∀R',eL True G (1-R.af) (de G R o t) hs (bR R o t sp f wh rf rt) (gp G R' R o t) R'->q .none (H.put a R')),aO (Call (d+3)) (va 13 Je.body) [some (.ref a.p),some (nv (pk o t sp f)),some (nv (bd R o)),some (nv R.af),some (nv o),some (nv t),some (nv sp),some (.tup (if sp=3 then [nv rf,nv rt] else [.int (-1),.int (-1)])),some (nv wh),some v9] (H.put a R4) (dq q)
theorem HJ {R4:Rw} {v9:V}:@sg d o t sp f rf rt wh H a G R q hs R4 v9:=au (S:=λx:(Nat×Nat×Nat×Nat)×(Nat×Nat×Nat×Nat)×(Hp×Ad×aE×Rw)×((V->Hp->Prop)×List V×Rw×V)=>@sg x.1.1 x.1.2.1 x.1.2.2.1 x.1.2.2.2 x.2.1.1 x.2.1.2.1 x.2.1.2.2.1 x.2.1.2.2.2 x.2.2.1.1 x.2.2.1.2.1 x.2.2.1.2.2.1 x.2.2.1.2.2.2 x.2.2.2.1 x.2.2.2.2.1 x.2.2.2.2.2.1 x.2.2.2.2.2.2) (x:=((0,0,0,0),(0,0,0,0),(λ_=>none,j0,bO,fG),(λ_ _=>True,[],fG,.none))) (by
 refine (?_:∀d o t sp f rf rt wh H a G R q hs R4 v9,@sg d o t sp f rf rt wh H a G R q hs R4 v9) _ _ _ _ _ _ _ _ _ _ _ _ _ _ _ _;intro d o t sp f rf rt wh H a G R q hs R4 v9 S g g0 hc m je lb hwr m4 h;have ⟨h1,h2,h3⟩:=m.sz g;have wR:=S.w;have w4:=wR R4;have b4:(R.ae.set wh 0).getD o 0=bd R o:=aM (Ne.symm m.w2)
 have t4:((R.ae.set wh 0).set o 0).getD t 0=0:=by
  rw [aM (Ne.symm m.ot)];by_cases z:t=wh
  ·rw [z,cT (by rw [g0.bl];exact m.w1),Qk rfl]
  ·rw [aM z];have hw:=m.hw;by_cases z':sp=2
   ·exact (m.e0 z').1
   ·rw [Qb z'] at hw;exact absurd hw.symm z
 refine aR ?_;refine fD (λρ' H'=>ρ'=[some (.ref a.p),some (nv (pk o t sp f)),some (nv (bd R o)),some (nv R.af),some (nv o),some (nv t),some (nv sp),some (.tup (if sp=3 then [nv rf,nv rt] else [.int (-1),.int (-1)])),some (nv wh),some v9]/\∃R',H'=H.put a R'/\eL True G R.af R.ab hs (c9 R o t sp f wh) (-1) R') (λρ' H' hI=>?_) λK' j _=>?_
 rotate_left
 ·refine ag (λe=>?_) (λe=>?_)
  ·refine rJ S g m4 (b4 ▸ m.b0) λR' m'=>?_;refine wY ?_;refine MK (by rw [lT h1 h2 m.s4 m.f4];exact e) ?_;rw [C9 h1 h2 m.f4];refine Jb ?_ (by exact P7 ‹_› (by decide));refine tv S g m' (show Internal.nE (R.af*8+(f+2)) from by have:=m.nE g0 hc;unfold gX at this;rw [Qk e] at this;exact this) m.ht t4 λR' m'=>?_;refine aQ ?_;exact j _ _ ⟨rfl,_,rfl,by unfold c9 gX;rw [Qk e];exact m'⟩
  ·refine kW S g m4 (b4 ▸ m.b0) m.ht ((aM (Ne.symm m.ot)).symm.trans t4) λR' m'=>?_;refine aQ ?_;exact j _ _ ⟨rfl,_,rfl,by unfold c9 gX;rw [Qb e,<- b4];exact m'⟩
 obtain ⟨rfl,R5,rfl,m5⟩:=hI
 exact HI S g g0.bl hc m je lb hwr m5 h) ((d,o,t,sp),(f,rf,rt,wh),(H,a,G,R),(q,hs,R4,v9))
set_option maxHeartbeats 1000000 in
def yq:Prop:=∀(S:gb H a G) (g:cu G) (ok:dR G R) (g0:ba G R) (hk:R.key=kL G R) (m:eC G R o t sp f wh rf rt) (hh:R.cA.length<100) (lb:de G R o t<16) (hwr:sp=3->wh≠rf) (h:∀R',Done G R o t sp f wh rf rt R'->q .none (H.put a R')),Call (d+4) 40 [.ref a.p,nv (pk o t sp f)] (H.put a R) q
theorem Ly:@yq d o t sp f rf rt wh H a G R q:=au (S:=λx:(Nat×Nat×Nat×Nat)×(Nat×Nat×Nat×Nat)×(Hp×Ad×aE×Rw)×(V->Hp->Prop)=>@yq x.1.1 x.1.2.1 x.1.2.2.1 x.1.2.2.2 x.2.1.1 x.2.1.2.1 x.2.1.2.2.1 x.2.1.2.2.2 x.2.2.1.1 x.2.2.1.2.1 x.2.2.1.2.2.1 x.2.2.1.2.2.2 x.2.2.2) (x:=((0,0,0,0),(0,0,0,0),(λ_=>none,j0,bO,fG),λ_ _=>True)) (by
 refine (?_:∀d o t sp f rf rt wh H a G R q,@yq d o t sp f rf rt wh H a G R q) _ _ _ _ _ _ _ _ _ _ _ _ _;intro d o t sp f rf rt wh H a G R q S g ok g0 hk m hh lb hwr h;have ⟨h1,h2,h3⟩:=m.sz g;have hc:=ok.c2;have w0:=S.w R;have wR:=S.w;have m0:eL True G R.af R.ab R.cA R.ae R.ep R:=⟨g0,λ_=>hk,rfl,rfl,rfl,rfl,rfl⟩;refine aq rfl rfl ?_;refine HO w0 g ok.len m ?_;refine aI ‹_› rfl ?_;refine E9 ?_;rw [oK h1 h2];refine BX ?_;rw [lS h2];refine E8 ?_;rw [lT h1 h2 m.s4 m.f4];refine eP ?_;refine eP ?_;refine ⟨show 2<=1000 by decide,?_⟩;refine aR ?_;refine uH 7 (.tup (if sp=3 then [nv rf,nv rt] else [.int (-1),.int (-1)])) ?_ λK' j=>?_
 rotate_left
 ·refine ag (λe=>?_) (λe=>?_)
  ·refine gP (m.ca e) λi hi hw hu=>?_;refine aI ‹_› rfl ?_;refine El w0 g hc hi hw hu ?_;exact gK j (by rw [Qk e])
  ·exact eG j rfl (by rw [Qb e])
 refine Eo w0 g m rfl ?_;refine aI ‹_› rfl ?_;refine aU w0.P.bd (by rw [ok.bl];exact m.w1) ?_;refine aI ‹_› rfl ?_;refine ⟨gO w0.P.hs,?_⟩;refine aI ‹_› rfl ?_;refine aI ‹_› rfl ?_;refine aI ‹_› rfl ?_;refine aI ‹_› rfl ?_;refine ⟨show 6<=1000 by decide,?_⟩;refine qK w0.P.hs (show _<1000000 by exact P7 ‹_› (by decide)) ?_;rw [wc S];have m1:=m0.GP (R.cA++ [iR R o t sp f wh]);show jo .none (aO _ _ _ (H.put a { R with cA:=R.cA++ [iR R o t sp f wh] }) _);generalize { R with cA:=R.cA++ [iR R o t sp f wh] }=R1 at m1 ⊢;refine aQ ?_;refine LF S g ?_;have m2:=m1.PF ok.e0;generalize xS G R1=R2 at m2 ⊢;have w2:=wR R2;refine aQ ?_;refine aI ‹_› rfl ?_;refine bG ?_;refine g5 ?_;refine jc S ?_;have m3:=m2.fK (R2.fK+1);generalize { R2 with fK:=R2.fK+1 }=R3 at m3 ⊢;have w3:=wR R3;refine eD ?_;refine fD (λρ' H'=>ρ'=[some (.ref a.p),some (nv (pk o t sp f)),some (nv (bd R o)),some (nv R.af),some (nv o),some (nv t),some (nv sp),some (.tup (if sp=3 then [nv rf,nv rt] else [.int (-1),.int (-1)])),some (nv wh),some (nv (bd R wh))]/\∃R',H'=H.put a R'/\eL True G R.af R.ab (R.cA++ [iR R o t sp f wh]) (R.ae.set wh 0) (-1) R') (λρ' H' hI=>?_) λK' j _=>?_
 rotate_left
 ·refine ag (λe=>?_) (λe=>?_)
  ·refine rJ S g m3 e λR' m'=>?_;refine wY ?_;refine jc S ?_;exact j _ _ ⟨rfl,_,rfl,m'.fK 0⟩
  ·have e:bd R wh=0:=QD.mp e;exact j _ _ ⟨rfl,_,rfl,(Ij e).symm ▸ m3⟩
 obtain ⟨rfl,R4,rfl,m4⟩:=hI
 exact HJ S g g0 hc m ok.je lb hwr m4 λR' m'=>h R' ⟨m'⟩) ((d,o,t,sp),(f,rf,rt,wh),(H,a,G,R),q)
end
section
variable {kk:Prop} {d x y s c r k o t sp f i rf rt wh:Nat} {H:Hp} {a:Ad} {G:aE} {R:Rw} {q:V->Hp->Prop} {hs:List V} {b:List Nat} {e:Int}
theorem gs {l:List Nat} {n i j v:Nat} (hl:l.length=n) (h:i<n):(l.set i v).getD j 0=if j=i then v else l.getD j 0:=cT (hl ▸ h)
theorem ls {l:List Nat} {n i v:Nat} (hl:l.length=n):(l.set i v).length=n:=(Ql ..).trans hl
theorem fk (hl:R.ae.length=G.size):(c9 R o t sp f wh).length=G.size:=ls (ls (ls hl))
theorem eN (hl:R.ae.length=G.size):(bR R o t sp f wh rf rt).length=G.size:=by
 unfold bR;split
 ·exact ls (ls (fk hl))
 ·exact fk hl
theorem jg (m:eC G R o t sp f wh rf rt) (hl:R.ae.length=G.size):(c9 R o t sp f wh).getD i 0=if i=t then gX R o sp f else if i=o then 0 else if i=wh then 0 else bd R i:=by
 unfold c9;rw [gs (ls (ls hl)) m.ht,gs (ls hl) m.ho,gs hl m.w1]
theorem du (m:eC G R o t sp f wh rf rt) (hl:R.ae.length=G.size):(bR R o t sp f wh rf rt).getD i 0=if sp=3/\i=rt then R.af*8+4 else if sp=3/\i=rf then 0 else if i=t then gX R o sp f else if i=o then 0 else if i=wh then 0 else bd R i:=by
 unfold bR;split
 ·rename_i e;refine uP (m.c1 e) λe1 e2 e3 e4 e5 e6 e7=>?_;rw [gs (ls (fk hl)) e5,gs (fk hl) e4,jg m hl];by_cases z1:i=rt
  ·rw [Qk z1,Qk ⟨e,z1⟩]
  ·rw [Qb z1,Qb (show ¬(sp=3/\i=rt) from λz=>z1 z.2)];by_cases z2:i=rf
   ·rw [Qk z2,Qk ⟨e,z2⟩]
   ·rw [Qb z2,Qb (show ¬(sp=3/\i=rf) from λz=>z2 z.2)]
 ·rename_i e;rw [Qb (show ¬(sp=3/\i=rt) from λz=>e z.1),Qb (show ¬(sp=3/\i=rf) from λz=>e z.1),jg m hl]
noncomputable def uB (R:Rw) (o t wh:Nat):List Nat:=((R.ae.set wh 0).set t 0).set o (bd R o)
theorem pR (m:eC G R o t sp f wh rf rt) (hl:R.ae.length=G.size):(uB R o t wh).getD i 0=if i=o then bd R o else if i=t then 0 else if i=wh then 0 else bd R i:=by
 unfold uB;rw [gs (ls (ls hl)) m.ho,gs (ls hl) m.ht,gs hl m.w1]
theorem OE (m:eC G R o t sp f wh rf rt) (hl:R.ae.length=G.size) (h3:sp≠3):((bR R o t sp f wh rf rt).set t 0).set o (bd R o)=uB R o t wh:=
 eJ ((ls (ls (eN hl))).trans (ls (ls (ls hl))).symm) λi=>by
  rw [gs (ls (eN hl)) m.ho,gs (eN hl) m.ht,du m hl,pR m hl,Qb (show ¬(sp=3/\i=rt) from λz=>h3 z.1),Qb (show ¬(sp=3/\i=rf) from λz=>h3 z.1)];by_cases z1:i=o
  ·rw [Qk z1,Qk z1]
  ·rw [Qb z1,Qb z1,Qb z1];by_cases z2:i=t
   ·rw [Qk z2,Qk z2]
   ·rw [Qb z2,Qb z2,Qb z2]
theorem OD (m:eC G R o t sp f wh rf rt) (hl:R.ae.length=G.size) (h3:sp=3):((((bR R o t sp f wh rf rt).set t 0).set o (bd R o)).set rt 0).set rf (R.af*8+4)=uB R o t wh:=by
 refine uP (m.c1 h3) λe1 e2 e3 e4 e5 e6 e7=>?_
 have hrt:rf≠t:=λz=>by rw [z,e2] at e1;exact absurd (Eq.symm ‹_›) kA
 have hrr:rf≠rt:=λz=>by rw [z,e3] at e1;exact absurd (Eq.symm ‹_›) kA
 have hro:rt≠o:=λz=>m.b0 (z ▸ e3)
 have hw:wh=t:=by have:=m.hw;rw [Qb (show ¬sp=2 by lia)] at this;exact this
 refine eJ ((ls (ls (ls (ls (eN hl))))).trans (ls (ls (ls hl))).symm) λi=>?_;rw [gs (ls (ls (ls (eN hl)))) e4,gs (ls (ls (eN hl))) e5,gs (ls (eN hl)) m.ho,gs (eN hl) m.ht,du m hl,pR m hl];by_cases z1:i=rf
 ·subst z1;rw [Qk rfl,Qb e6,Qb hrt,Qb (hw ▸ hrt)];exact e1.symm
 ·rw [Qb z1];by_cases z2:i=rt
  ·subst z2;rw [Qk rfl,Qb hro,Qb e7,Qb (hw ▸ e7)];exact e3.symm
  ·rw [Qb z2,Qb (show ¬(sp=3/\i=rt) from λz=>z2 z.2),Qb (show ¬(sp=3/\i=rf) from λz=>z1 z.2)];by_cases z1:i=o
   ·rw [Qk z1,Qk z1]
   ·rw [Qb z1,Qb z1,Qb z1];by_cases z2:i=t
    ·rw [Qk z2,Qk z2]
    ·rw [Qb z2,Qb z2,Qb z2]
theorem Mg (m:eC G R o t sp f wh rf rt) (hl:R.ae.length=G.size):(uB R o t wh).set wh (bd R wh)=R.ae:=
 eJ ((ls (ls (ls (ls hl)))).trans hl.symm) λi=>by
  rw [gs (show (uB R o t wh).length=G.size from ls (ls (ls hl))) m.w1,pR m hl];have hw:=m.hw;by_cases z1:i=wh
  ·rw [Qk z1,z1]
  ·rw [Qb z1,Qb z1];by_cases z2:i=o
   ·rw [Qk z2,z2]
   ·rw [Qb z2];by_cases z3:i=t
    ·rw [Qk z3,z3];by_cases e:sp=2
     ·exact (m.e0 e).1.symm
     ·rw [Qb e] at hw;exact absurd (z3.trans hw.symm) z1
    ·rw [Qb z3]
theorem OC (m:eC G R o t sp f wh rf rt) (hl:R.ae.length=G.size) (h0:bd R wh=0):uB R o t wh=R.ae:=by
 have:=Mg m hl;rw [h0] at this
 have e:(uB R o t wh).getD wh 0=0:=by
  rw [pR m hl,Qb m.w2,Qk rfl,ite_self]
 rw [Ij e] at this;exact this
theorem JJ {x:Addr} {vs:List V} {v:V} (h1:H x=some (.list (vs++ [v]))) (h:q v (H.upd x (.list vs))):sU (.ref x) H q:=EP.mk h1 h
def r9 {R2:Rw}:Prop:=∀(S:gb H a G) (g:cu G) (g0:ba G R) (hc:R.af<2) (hk:R.key=kL G R) (m:eC G R o t sp f wh rf rt) {r':Nat} {e':Int} (m2:eL False G R.af r' hs (((bR R o t sp f wh rf rt).set t 0).set o (bd R o)) e' R2) (h:∀R',eL True G R.af R.ab hs R.ae R.ep R'->q .none (H.put a R')),aO (Call (d+3)) (va 8 L7.body) [some (.ref a.p),some (nv (pk o t sp f)),some (nv (bd R wh)),some (nv R.ab),some (.int R.ep),some (.int R.fK),some (nv R.key),some (nv R.af),some (nv o),some (nv t),some (nv sp),none] (H.put a R2) (dq q)
theorem HH {R2:Rw}:@r9 d o t sp f rf rt wh H a G R q hs R2:=au (S:=λx:(Nat×Nat×Nat×Nat)×(Nat×Nat×Nat×Nat)×(Hp×Ad×aE×Rw)×((V->Hp->Prop)×List V×Rw)=>@r9 x.1.1 x.1.2.1 x.1.2.2.1 x.1.2.2.2 x.2.1.1 x.2.1.2.1 x.2.1.2.2.1 x.2.1.2.2.2 x.2.2.1.1 x.2.2.1.2.1 x.2.2.1.2.2.1 x.2.2.1.2.2.2 x.2.2.2.1 x.2.2.2.2.1 x.2.2.2.2.2) (x:=((0,0,0,0),(0,0,0,0),(λ_=>none,j0,bO,fG),(λ_ _=>True,[],fG))) (by
 refine (?_:∀d o t sp f rf rt wh H a G R q hs R2,@r9 d o t sp f rf rt wh H a G R q hs R2) _ _ _ _ _ _ _ _ _ _ _ _ _ _ _;intro d o t sp f rf rt wh H a G R q hs R2 S g g0 hc hk m r' e' m2 h;have ⟨h1,h2,h3⟩:=m.sz g;have wR:=S.w;have w2:=wR R2;have hl:=g0.bl;refine aR ?_;refine fD (λρ' H'=>(∃z,ρ'=[some (.ref a.p),some (nv (pk o t sp f)),some (nv (bd R wh)),some (nv R.ab),some (.int R.ep),some (.int R.fK),some (nv R.key),some (nv R.af),some (nv o),some (nv t),some (nv sp),z])/\∃R',H'=H.put a R'/\eL False G R.af r' hs (uB R o t wh) e' R') (λρ' H' hI=>?_) λK' j _=>?_
 rotate_left
 ·refine ag (λe=>?_) (λe=>?_)
  ·have e:sp=3:=e;refine gP (m.ca e) λi hi hw hu=>?_;refine uP (m.c1 e) λe1 e2 e3 e4 e5 e6 e7=>?_
   have hrt:rf≠t:=λz=>by rw [z,e2] at e1;exact absurd (Eq.symm ‹_›) kA
   have hrr:rf≠rt:=λz=>by rw [z,e3] at e1;exact absurd (Eq.symm ‹_›) kA
   have hro:rt≠o:=λz=>m.b0 (z ▸ e3)
   have hw':wh=t:=by have:=m.hw;rw [Qb (show ¬sp=2 by lia)] at this;exact this
   have b1:(((bR R o t sp f wh rf rt).set t 0).set o (bd R o)).getD rt 0=R.af*8+4:=by
    rw [aM hro,aM e7,du m hl,Qk ⟨e,rfl⟩]
   have b2:(((bR R o t sp f wh rf rt).set t 0).set o (bd R o)).getD rf 0=0:=by
    rw [aM e6,aM hrt,du m hl,Qb (show ¬(sp=3/\rf=rt) from λz=>hrr z.2),Qk ⟨e,rfl⟩]
   refine aI ‹_› rfl ?_;refine El w2 g hc hi hw hu ?_;refine dU (i:=1) rfl ?_;refine dU (i:=0) rfl ?_;refine kW S g m2 (by rw [b1];exact kA) e4 b2 λR' m'=>?_;refine aQ ?_;rw [b1,OD m hl e] at m';exact j _ _ ⟨⟨_,rfl⟩,_,rfl,m'⟩
  ·rw [OE m hl e] at m2;exact j _ _ ⟨⟨_,rfl⟩,_,rfl,m2⟩
 obtain ⟨⟨z,rfl⟩,R3,rfl,m3⟩:=hI;have w3:=wR R3;refine eD ?_;refine fD (λρ' H'=>ρ'=[some (.ref a.p),some (nv (pk o t sp f)),some (nv (bd R wh)),some (nv R.ab),some (.int R.ep),some (.int R.fK),some (nv R.key),some (nv R.af),some (nv o),some (nv t),some (nv sp),z]/\∃R',H'=H.put a R'/\eL False G R.af r' hs R.ae e' R') (λρ' H' hI=>?_) λK' j _=>?_
 rotate_left
 ·refine ag (λe=>?_) (λe=>?_)
  ·refine Eo w3 g m m3.af ?_;refine tv S g m3 (g0.mn wh e) m.w1 (by rw [pR m hl,Qb m.w2,Qk rfl,ite_self]) λR' m'=>?_;refine aQ ?_;rw [Mg m hl] at m';exact j _ _ ⟨rfl,_,rfl,m'⟩
  ·have e:bd R wh=0:=QD.mp e;rw [OC m hl e] at m3;exact j _ _ ⟨rfl,_,rfl,m3⟩
 obtain ⟨rfl,R4,rfl,m4⟩:=hI;have w4:=wR R4;refine aR ?_;refine fD (λρ' H'=>ρ'=[some (.ref a.p),some (nv (pk o t sp f)),some (nv (bd R wh)),some (nv R.ab),some (.int R.ep),some (.int R.fK),some (nv R.key),some (nv R.af),some (nv o),some (nv t),some (nv sp),z]/\∃R',H'=H.put a R'/\eL False G R.af r' hs R.ae e' R') (λρ' H' hI=>?_) λK' j _=>?_
 rotate_left
 ·refine ag (λe=>?_) (λe=>?_)
  ·refine aI ‹_› rfl ?_;refine bG ?_;refine dc ?_;refine pV S ?_;exact j _ _ ⟨rfl,_,rfl,m4.full _⟩
  ·exact j _ _ ⟨rfl,_,rfl,m4⟩
 obtain ⟨rfl,R5,rfl,m5⟩:=hI;have w5:=wR R5;refine iL S ?_;have w6:=wR { R5 with ab:=R.ab };refine lI S ?_;have w7:=wR { R5 with ab:=R.ab,ep:=R.ep };refine jc S ?_;have w8:=wR { R5 with ab:=R.ab,ep:=R.ep,fK:=R.fK };refine fh S ?_;refine fN (h _ ⟨m5.gd.congr rfl rfl rfl,λ_=>?_,m5.af,rfl,m5.cA,m5.ae,rfl⟩);show R.key=(((R.ab <<< (15*G.size) ^^^ rT G R.ep) ^^^ vb G R5.af) ^^^ xk G.size (λm=>decide (m≠0)) R5.ae G.size)
 rw [hk,iZ,m5.af,m5.ae]) ((d,o,t,sp),(f,rf,rt,wh),(H,a,G,R),(q,hs,R2))
set_option maxHeartbeats 1000000 in
def yp {R1:Rw}:Prop:=∀(S:gb H a G) (g:cu G) (g0:ba G R) (hc:R.af<2) (hk:R.key=kL G R) (m:eC G R o t sp f wh rf rt) {r':Nat} {e':Int} (m1:eL True G (1-R.af) r' (hs++ [iR R o t sp f wh]) (bR R o t sp f wh rf rt) e' R1) (h:∀R',eL True G R.af R.ab hs R.ae R.ep R'->q .none (H.put a R')),Call (d+4) 41 [.ref a.p] (H.put a R1) q
theorem Lx {R1:Rw}:@yp d o t sp f rf rt wh H a G R q hs R1:=au (S:=λx:(Nat×Nat×Nat×Nat)×(Nat×Nat×Nat×Nat)×(Hp×Ad×aE×Rw)×((V->Hp->Prop)×List V×Rw)=>@yp x.1.1 x.1.2.1 x.1.2.2.1 x.1.2.2.2 x.2.1.1 x.2.1.2.1 x.2.1.2.2.1 x.2.1.2.2.2 x.2.2.1.1 x.2.2.1.2.1 x.2.2.1.2.2.1 x.2.2.1.2.2.2 x.2.2.2.1 x.2.2.2.2.1 x.2.2.2.2.2) (x:=((0,0,0,0),(0,0,0,0),(λ_=>none,j0,bO,fG),(λ_ _=>True,[],fG))) (by
 refine (?_:∀d o t sp f rf rt wh H a G R q hs R1,@yp d o t sp f rf rt wh H a G R q hs R1) _ _ _ _ _ _ _ _ _ _ _ _ _ _ _;intro d o t sp f rf rt wh H a G R q hs R1 S g g0 hc hk m r' e' m1 h;have ⟨h1,h2,h3⟩:=m.sz g;have wR:=S.w;have w1:=wR R1;have hl:=g0.bl;refine aq rfl rfl ?_;refine aI ‹_› rfl ?_;refine l9 w1.P.hs ?_;refine aR ?_;refine ag (λe=>?_) (λ_=>?_)
 ·rw [m1.cA,Qc] at e;exact absurd e (by show ¬_+1=0;exact kA)
 refine aI ‹_› rfl ?_;refine JJ (w1.P.hs.trans (by rw [m1.cA])) ?_;rw [wc S];have m2:=m1.GP hs;show tupK _ _ _ λO=>aO _ _ O (H.put a { R1 with cA:=hs }) _;generalize { R1 with cA:=hs }=R2 at m2 ⊢;have w2:=wR R2;refine mP rfl ?_;refine aI ‹_› rfl ?_;rw [m2.af];refine dy (by exact pY) ?_;rw [Mk ‹_›];refine lH S ?_;have m3:=m2.G2 (c':=R.af);generalize { R2 with af:=R.af }=R3 at m3 ⊢;have w3:=wR R3;refine E9 ?_;rw [oK h1 h2];refine BX ?_;rw [lS h2];refine E8 ?_;rw [lT h1 h2 m.s4 m.f4];refine aR ?_;refine fD (λρ' H'=>ρ'=[some (.ref a.p),some (nv (pk o t sp f)),some (nv (bd R wh)),some (nv R.ab),some (.int R.ep),some (.int R.fK),some (nv R.key),some (nv R.af),some (nv o),some (nv t),some (nv sp),none]/\∃R',H'=H.put a R'/\eL False G R.af r' hs (((bR R o t sp f wh rf rt).set t 0).set o (bd R o)) e' R') (λρ' H' hI=>?_) λK' j _=>?_
 rotate_left
 ·have b0:((bR R o t sp f wh rf rt).set t 0).getD o 0=0:=by
   rw [aM m.ot,du m hl,Qb (show ¬(sp=3/\o=rt) from λz=>m.b0 (z.2.symm ▸ (m.c1 z.1).2.2.1)),Qb (show ¬(sp=3/\o=rf) from λz=>(m.c1 z.1).2.2.2.2.2.1 z.2.symm),Qb m.ot,Qk rfl]
  have b1:(bR R o t sp f wh rf rt).getD t 0=gX R o sp f:=by
   rw [du m hl,Qb (show ¬(sp=3/\t=rt) from λz=>(m.c1 z.1).2.2.2.2.2.2 z.2.symm),Qb (show ¬(sp=3/\t=rf) from λz=>?_),Qk rfl];have h1:=(m.c1 z.1).1;rw [<- z.2,(m.c1 z.1).2.1] at h1;exact absurd (Eq.symm ‹_›) kA
  have hm:=m.nE g0 hc;refine ag (λe=>?_) (λe=>?_)
  ·have e:sp=1:=e;refine rJ S g m3 (by rw [b1];exact λz=>by rw [z] at hm;exact absurd hm.2.1 (by decide)) λR' m'=>?_;refine wY ?_;refine Jb ?_ (by exact P7 ‹_› (by decide))
   have eo:R.af*8+1=bd R o:=by have h1:=m.pr e;have h2:=m.bs;exact JV ‹_› ‹_›
   rw [eo];refine tv S g m' (g0.mn o m.b0) m.ho b0 λR' m'=>?_;refine aQ ?_;exact j _ _ ⟨rfl,_,rfl,m'⟩
  ·have e:¬sp=1:=e;have ep:gX R o sp f=bd R o:=Qb e;refine kW S g m3 (by rw [b1,ep];exact m.b0) m.ho ((aM m.ot).symm.trans b0) λR' m'=>?_;refine aQ ?_;rw [b1,ep] at m';exact j _ _ ⟨rfl,_,rfl,m'⟩
 obtain ⟨rfl,R4,rfl,m4⟩:=hI
 exact HH S g g0 hc hk m m4 h) ((d,o,t,sp),(f,rf,rt,wh),(H,a,G,R),(q,hs,R1))
end
section
variable {kk:Prop} {d x y s c r k o t sp f i rf rt wh:Nat} {H:Hp} {a:Ad} {G:aE} {R:Rw} {q:V->Hp->Prop} {hs:List V} {b:List Nat} {e:Int}
noncomputable def Au (G:aE) (R:Rw):Nat:=(R.key ^^^ yZ G.size G.aa) ^^^ rT G R.ep
noncomputable def Dy (G:aE) (R:Rw) (wh:Nat):Nat:=if bd R wh≠0 then Au G R ^^^ 2^(bd R wh*G.size+wh) else Au G R
noncomputable def I3 (G:aE) (R:Rw) (o t sp f wh:Nat):Nat:=Dy G R wh ^^^ (2^(bd R o*G.size+o) ^^^ 2^(gX R o sp f*G.size+t))
noncomputable def Dx (G:aE) (R:Rw) (o t sp f wh rf rt:Nat):Nat:=if sp=3 then I3 G R o t sp f wh ^^^ (2^((R.af*8+4)*G.size+rf) ^^^ 2^((R.af*8+4)*G.size+rt)) else I3 G R o t sp f wh
noncomputable def E5 (G:aE) (R:Rw) (o t sp f wh rf rt:Nat):Nat:=Dx G R o t sp f wh rf rt ^^^ rT G (gp G R R o t)
noncomputable def ka (G:aE) (R:Rw) (o t sp f wh rf rt:Nat):Nat:=(E5 G R o t sp f wh rf rt ^^^ R.ab <<< (15*G.size)) ^^^ de G R o t <<< (15*G.size)
def r7:Prop:=∀(w:W H a G R) (g:cu G) (g0:ba G R) (ok:dR G R) (m:eC G R o t sp f wh rf rt) (lb:de G R o t<16) {v9 v10:V} (h:q (nv (ka G R o t sp f wh rf rt)) H),aO (Call (d+3)) (va 13 L6.body) [some (.ref a.p),some (nv (pk o t sp f)),some (.ref a.z),some (nv (bd R o)),some (nv R.af),some (nv o),some (nv t),some (nv sp),some (nv (Dy G R wh)),some v9,some v10,some (nv (gX R o sp f)),none,none,none] H (dq q)
theorem HG:@r7 d o t sp f rf rt wh H a G R q:=au (S:=λx:(Nat×Nat×Nat×Nat)×(Nat×Nat×Nat×Nat)×(Hp×Ad×aE×Rw)×(V->Hp->Prop)=>@r7 x.1.1 x.1.2.1 x.1.2.2.1 x.1.2.2.2 x.2.1.1 x.2.1.2.1 x.2.1.2.2.1 x.2.1.2.2.2 x.2.2.1.1 x.2.2.1.2.1 x.2.2.1.2.2.1 x.2.2.1.2.2.2 x.2.2.2) (x:=((0,0,0,0),(0,0,0,0),(λ_=>none,j0,bO,fG),λ_ _=>True)) (by
 refine (?_:∀d o t sp f rf rt wh H a G R q,@r7 d o t sp f rf rt wh H a G R q) _ _ _ _ _ _ _ _ _ _ _ _ _;intro d o t sp f rf rt wh H a G R q w g g0 ok m lb v9 v10 h;have hc:=ok.c2
 have hf:G.aa≠0:=by have:=g.f0;exact Q5 ‹_›
 have hb:=m.bs
 have hr4:R.af*8+4<15:=by exact OK ‹_› (by rfl)
 have hx:=(g0.mn o m.b0).1;have hp:=(m.nE g0 hc).1;have ho:=m.ho;have ht:=m.ht;refine la ‹_› rfl ?_;refine lA ‹_› ‹_› ?_;refine gh ‹_› ‹_› ‹_› ?_;refine la ‹_› rfl ?_;refine lA ‹_› ‹_› ?_;refine gh ‹_› ‹_› ‹_› ?_;refine bS ?_;refine bG ?_;refine bS ?_;refine aR ?_;refine fD (λρ' H'=>H'=H/\∃x y,ρ'=[some (.ref a.p),some (nv (pk o t sp f)),some (.ref a.z),some (nv (bd R o)),some (nv R.af),some (nv o),some (nv t),some (nv sp),some (nv (Dx G R o t sp f wh rf rt)),some v9,some v10,some (nv (gX R o sp f)),x,y,none]) (λρ' H' hI=>?_) λK' j _=>?_
 rotate_left
 ·refine ag (λe=>?_) (λe=>?_)
  ·have e:sp=3:=e;refine gP (m.ca e) λi hi hw hu=>?_;refine uP (m.c1 e) λe1 e2 e3 e4 e5 e6 e7=>?_;refine aI ‹_› rfl ?_;refine El w g hc hi hw hu ?_;refine la ‹_› rfl ?_;refine Jb (y:=4) ?_ (by exact P7 ‹_› (by decide));refine lA ‹_› ‹_› ?_;refine dU (i:=0) rfl ?_;refine gh ‹_› ‹_› ‹_› ?_;refine dU (i:=1) rfl ?_;refine gh ‹_› ‹_› ‹_› ?_;refine bS ?_;refine bG ?_;refine bS ?_;exact j _ _ ⟨rfl,_,_,by unfold Dx;rw [Qk e];rfl⟩
  ·exact j _ _ ⟨rfl,none,none,by unfold Dx;rw [Qb (show ¬sp=3 from e)];rfl⟩
 obtain ⟨rfl,x,y,rfl⟩:=hI;refine Er ?_;refine aR ?_;refine fD (λρ' H''=>H''=H'/\∃z,ρ'=[some (.ref a.p),some (nv (pk o t sp f)),some (.ref a.z),some (nv (bd R o)),some (nv R.af),some (nv o),some (nv t),some (nv sp),some (nv (E5 G R o t sp f wh rf rt)),some v9,some v10,some (nv (gX R o sp f)),x,y,z]) (λρ' H'' hI=>?_) λK' j _=>?_
 rotate_left
 ·refine ag (λe=>?_) (λe=>?_)
  ·have e:bd R o%8=1:=e;have ee:gp G R R o t=C6 G (K R 1 &&& Sd R (1-R.af)) R.af o t:=Qk e;refine HN w g ok.len hc m.ho m.ht ?_;rw [<- ee];refine ku ?_;refine ag (λe1=>?_) (λe1=>?_)
   ·refine la ‹_› rfl ?_;refine aI ‹_› rfl ?_;refine eT ‹_› rfl ?_;refine jM hf e1 ?_;refine vz w (SK _ (Qv hf)) ?_;refine bG ?_;refine bS ?_;exact j _ _ ⟨rfl,_,by unfold E5 rT;rw [Qk e1];rfl⟩
   ·exact j _ _ ⟨rfl,_,by unfold E5 rT;rw [Qb (show ¬0<=gp G R R o t from e1),RQ];rfl⟩
  ·have ee:gp G R R o t=-1:=Qb e;exact j _ _ ⟨rfl,_,by unfold E5;rw [ee,xJ,RQ]⟩
 obtain ⟨rfl,z,rfl⟩:=hI;refine la ‹_› rfl ?_;refine aI ‹_› rfl ?_;refine vy w ok.je ?_;refine bS ?_;refine la ‹_› rfl ?_;refine HM w g m.ho m.ht ?_;refine vy w lb ?_;refine bS ?_;refine aj ?_
 exact h) ((d,o,t,sp),(f,rf,rt,wh),(H,a,G,R),q)
set_option maxHeartbeats 1000000 in
def yn:Prop:=∀(w:W H a G R) (g:cu G) (g0:ba G R) (ok:dR G R) (m:eC G R o t sp f wh rf rt) (lb:de G R o t<16) (h:q (nv (ka G R o t sp f wh rf rt)) H),Call (d+4) 42 [.ref a.p,nv (pk o t sp f)] H q
theorem Lw:@yn d o t sp f rf rt wh H a G R q:=au (S:=λx:(Nat×Nat×Nat×Nat)×(Nat×Nat×Nat×Nat)×(Hp×Ad×aE×Rw)×(V->Hp->Prop)=>@yn x.1.1 x.1.2.1 x.1.2.2.1 x.1.2.2.2 x.2.1.1 x.2.1.2.1 x.2.1.2.2.1 x.2.1.2.2.2 x.2.2.1.1 x.2.2.1.2.1 x.2.2.1.2.2.1 x.2.2.1.2.2.2 x.2.2.2) (x:=((0,0,0,0),(0,0,0,0),(λ_=>none,j0,bO,fG),λ_ _=>True)) (by
 refine (?_:∀d o t sp f rf rt wh H a G R q,@yn d o t sp f rf rt wh H a G R q) _ _ _ _ _ _ _ _ _ _ _ _ _;intro d o t sp f rf rt wh H a G R q w g g0 ok m lb h;have ⟨h1,h2,h3⟩:=m.sz g;have hc:=ok.c2
 have hf:G.aa≠0:=by have:=g.f0;exact Q5 ‹_›
 have hx:=(g0.mn o m.b0).1;have hp:=(m.nE g0 hc).1;have ho:=m.ho;have ht:=m.ht;have hw:=m.w1;have hwm:=ok.bm wh hw;refine aq rfl rfl ?_;refine (?_:aO _ _ [_,_,_,_,_,_,_,_,_,_,_,_,_,_,_] _ _);refine aI ‹_› rfl ?_;refine HO w g ok.len m ?_;refine aI ‹_› rfl ?_;refine E9 ?_;rw [oK h1 h2];refine BX ?_;rw [lS h2];refine E8 ?_;rw [lT h1 h2 m.s4 m.f4];refine aI ‹_› rfl ?_;refine la ‹_› rfl ?_;refine bS ?_;refine aI ‹_› rfl ?_;refine ku ?_;refine uH 8 (nv (Au G R)) ?_ λK' j=>?_
 rotate_left
 ·refine ag (λe=>?_) (λe=>?_)
  ·refine la ‹_› rfl ?_;refine aI ‹_› rfl ?_;refine aI ‹_› rfl ?_;refine eT ‹_› rfl ?_;refine jM hf e ?_;refine vz w (SK _ (Qv hf)) ?_;refine bG ?_;refine bS ?_;exact gK j (by unfold Au rT;rw [Qk e])
  ·exact eG j rfl (by unfold Au rT;rw [Qb e,RQ])
 refine (?_:aO _ _ [_,_,_,_,_,_,_,_,_,_,_,_,_,_,_] _ _);refine Eo w g m rfl ?_;refine aI ‹_› rfl ?_;refine Jx ‹_› ‹_› ‹_› ?_;refine eD ?_;refine uH 8 (nv (Dy G R wh)) ?_ λK' j=>?_
 rotate_left
 ·refine ag (λe=>?_) (λe=>?_)
  ·refine la ‹_› rfl ?_;refine lA ‹_› ‹_› ?_;refine gh ‹_› ‹_› ‹_› ?_;refine bG ?_;refine bS ?_;exact gK j (by unfold Dy;rw [Qk e])
  ·exact eG j rfl (by unfold Dy;rw [Qb e])
 refine (?_:aO _ _ [_,_,_,_,_,_,_,_,_,_,_,_,_,_,_] _ _);refine aR ?_;refine uH 11 (nv (gX R o sp f)) ?_ λK' j=>?_
 rotate_left
 ·refine ag (λe=>?_) (λe=>?_)
  ·have e:sp=1:=e;refine MK (by rw [lT h1 h2 m.s4 m.f4];exact e) ?_;rw [C9 h1 h2 m.f4];refine Jb ?_ (by exact P7 ‹_› (by decide));exact gK j (by unfold gX;rw [Qk e])
  ·exact eG j rfl (by unfold gX;rw [Qb (show ¬sp=1 from e)])
 refine (?_:aO _ _ [_,_,_,_,_,_,_,_,_,_,_,_,_,_,_] _ _)
 exact HG w g g0 ok m lb h) ((d,o,t,sp),(f,rf,rt,wh),(H,a,G,R),q)
end
section
variable {kk:Prop} {d x y s c r k o t sp f i rf rt wh:Nat} {G:aE} {R R':Rw} {hs:List V} {b:List Nat} {e:Int}
noncomputable abbrev XK (G:aE) (b:List Nat):Nat:=xk G.size (λm=>decide (m≠0)) b G.size
theorem bx:∀r E S X Z M E' r':Bool,(((((((((r ^^ E) ^^ S) ^^ X) ^^ Z) ^^ E) ^^ M) ^^ E') ^^ r) ^^ r')=(((r' ^^ E') ^^ (S ^^ Z)) ^^ (X ^^ M)):=by decide
theorem nx (r E S X Z M E' r':Nat):(((((((((r ^^^ E) ^^^ S) ^^^ X) ^^^ Z) ^^^ E) ^^^ M) ^^^ E') ^^^ r) ^^^ r')=(((r' ^^^ E') ^^^ (S ^^^ Z)) ^^^ (X ^^^ M)):=cM λi=>by
 simp only [Qo];exact bx ..
def Jk:Prop:=∀(m:eC G R o t sp f wh rf rt) (g0:ba G R) (hc:R.af<2),∃M,XK G (bR R o t sp f wh rf rt)=XK G R.ae ^^^ M/\Dx G R o t sp f wh rf rt=Au G R ^^^ M
theorem xp:@Jk o t sp f rf rt wh G R:=au (S:=λx:(Nat×Nat×Nat×Nat)×(Nat×Nat×Nat×aE)×Rw=>@Jk x.1.1 x.1.2.1 x.1.2.2.1 x.1.2.2.2 x.2.1.1 x.2.1.2.1 x.2.1.2.2.1 x.2.1.2.2.2 x.2.2) (x:=((0,0,0,0),(0,0,0,bO),fG)) (by
 refine (?_:∀o t sp f rf rt wh G R,@Jk o t sp f rf rt wh G R) _ _ _ _ _ _ _ _ _;intro o t sp f rf rt wh G R m g0 hc;have hl:=g0.bl;have hb4:(R.ae.set wh 0).getD o 0=bd R o:=aM (Ne.symm m.w2)
 have ht4:((R.ae.set wh 0).set o 0).getD t 0=0:=by
  rw [aM (Ne.symm m.ot),gs hl m.w1];split
  ·rfl
  ·rename_i z;have hw:=m.hw;by_cases z':sp=2
   ·exact (m.e0 z').1
   ·rw [Qb z'] at hw;exact absurd hw.symm z
 have h1:∃M,XK G (R.ae.set wh 0)=XK G R.ae ^^^ M/\Dy G R wh=Au G R ^^^ M:=by
  unfold Dy;by_cases z:bd R wh=0
  ·exact ⟨0,by rw [Ij z,RQ],by rw [Qb (not_not_intro z),RQ]⟩
  ·exact ⟨_,kN (hl.symm ▸ m.w1) z m.w1,by rw [Qk z]⟩
 refine ao h1 λM1 h1 k1=>?_
 have h2:XK G (c9 R o t sp f wh)=XK G R.ae ^^^ (M1 ^^^ (2^(bd R o*G.size+o) ^^^ 2^(gX R o sp f*G.size+t))):=by
  have hp:=m.nE g0 hc;have e1:=kN (sz:=G.size) (b:=R.ae.set wh 0) (s:=o) (by rw [ls hl];exact m.ho) (by rw [hb4];exact m.b0) m.ho;have e2:=lj (sz:=G.size) (b:=(R.ae.set wh 0).set o 0) (s:=t) (v:=gX R o sp f) (by rw [ls (ls hl)];exact m.ht) ht4 (λz=>by rw [z] at hp;exact absurd hp.2.1 (by decide)) m.ht;rw [hb4] at e1;unfold XK at h1;unfold XK c9;rw [e2,e1,h1,Rp,Rp]
 have k3:I3 G R o t sp f wh=Au G R ^^^ (M1 ^^^ (2^(bd R o*G.size+o) ^^^ 2^(gX R o sp f*G.size+t))):=by
  unfold I3;rw [k1,Rp]
 by_cases e:sp=3
 ·refine uP (m.c1 e) λe1 e2 e3 e4 e5 e6 e7=>?_
  have hrt:rf≠t:=λz=>by rw [z,e2] at e1;exact absurd (Eq.symm ‹_›) kA
  have hrr:rf≠rt:=λz=>by rw [z,e3] at e1;exact absurd (Eq.symm ‹_›) kA
  have hro:rt≠o:=λz=>m.b0 (z ▸ e3)
  have hw':wh=t:=by have:=m.hw;rw [Qb (show ¬sp=2 by lia)] at this;exact this
  have b1:(c9 R o t sp f wh).getD rf 0=R.af*8+4:=by
   rw [jg m hl,Qb hrt,Qb e6,Qb (hw' ▸ hrt)];exact e1
  have b2:((c9 R o t sp f wh).set rf 0).getD rt 0=0:=by
   rw [aM (Ne.symm hrr),jg m hl,Qb e7,Qb hro,Qb (hw' ▸ e7)];exact e3
  have f1:=kN (sz:=G.size) (b:=c9 R o t sp f wh) (s:=rf) (by rw [fk hl];exact e4) (by rw [b1];exact kA) e4;have f2:=lj (sz:=G.size) (b:=(c9 R o t sp f wh).set rf 0) (s:=rt) (v:=R.af*8+4) (by rw [ls (fk hl)];exact e5) b2 (by exact kA) e5;rw [b1] at f1;refine ⟨(M1 ^^^ (2^(bd R o*G.size+o) ^^^ 2^(gX R o sp f*G.size+t))) ^^^ (2^((R.af*8+4)*G.size+rf) ^^^ 2^((R.af*8+4)*G.size+rt)),?_,?_⟩
  ·unfold XK at h2;unfold XK bR;rw [Qk e,f2,f1,h2];generalize M1 ^^^ (2^(bd R o*G.size+o) ^^^ 2^(gX R o sp f*G.size+t))=M2;rw [Rp,Rp]
  ·unfold Dx;rw [Qk e,k3];generalize M1 ^^^ (2^(bd R o*G.size+o) ^^^ 2^(gX R o sp f*G.size+t))=M2;rw [Rp]
 ·exact ⟨_,by unfold bR;rw [Qb e,h2],by unfold Dx;rw [Qb e,k3]⟩) ((o,t,sp,f),(rf,rt,wh,G),R)
theorem EW (m:eC G R o t sp f wh rf rt) (g0:ba G R) (hc:R.af<2) (hk:R.key=kL G R)
 (d:eL True G (1-R.af) (de G R o t) hs (bR R o t sp f wh rf rt) e R') (he:e=gp G R R o t):R'.key=ka G R o t sp f wh rf rt:=by
 refine ao (xp m g0 hc) λM h1 h2=>?_;rw [d.key trivial,iZ,d.af,d.ab,d.ae,d.ep];unfold ka E5;unfold XK at h1
 have hz:vb G (1-R.af)=vb G R.af ^^^ yZ G.size G.aa:=by
  have:R.af=0\/R.af=1:=by exact fp _ ‹_›
  rcases this with z | z<;>rw [z]
  ·exact (Nat.zero_xor _).symm
  ·exact (Nat.xor_self _).symm
 rw [h2,h1,hz,Au,hk,iZ,he];exact (nx ..).symm
end
section
noncomputable def cK (U:Nat->Addr):V->V
 | .ref i=>.ref (U i)
 | v=>v
noncomputable def kF (U:Nat->Addr):Ob->Ob
 | .list vs=>.list (vs.map (cK U))
 | .dict fs=>.dict (fs.map λp=>(p.1,cK U p.2))
 | .inst c dx=>.inst c (U dx)
noncomputable def gL:V->Bool
 | .ref _=>false
 | .tup _=>false
 | .nK _=>false
 | _=>true
noncomputable def lr (n:Nat):V->Bool
 | .ref i=>decide (i<n)
 | .tup vs=>vs.all gL
 | .nK _=>false
 | _=>true
noncomputable def zk (n:Nat):Ob->Bool
 | .list vs=>vs.all (lr n)
 | .dict fs=>fs.all λp=>lr n p.2
 | .inst _ dx=>decide (dx<n)
noncomputable abbrev Ch:=List Ob
structure Em (H0:Hp) (U:Nat->Addr) (C:Ch) (H:Hp):Prop where
 got:∀(i:Nat) o,C[i]?=some o->H (U i)=some (kF U o)
 fr:∀i,i<C.length->H0 (U i)=none
 inj:∀i j,i<C.length->j<C.length->U i=U j->i=j
 off:∀x,(∀i,i<C.length->U i≠x)->H x=H0 x
 wf:∀(i:Nat) o,C[i]?=some o->zk C.length o=true
structure gQ (U:Nat->Addr) (C:Ch) (σ':Nat->Addr) (C':Ch):Prop where
 le:C.length<=C'.length
 eq:∀i,i<C.length->σ' i=U i
noncomputable abbrev Out:=Option (V×Ch)
noncomputable def CO (op:gJ) (x y:Int):Option Int:=match op with
 | .add=>some (x+y)
 | .sub=>some (x-y)
 | .mul=>if x.natAbs<2^64 then some (x*y) else none
 | .fdiv=>if y≠0/\y.natAbs<1073741824 then some (x.fdiv y) else none
 | .mod=>if y≠0 then some (x.fmod y) else none
 | .shl=>if 0<=y/\y<=100000/\x.natAbs<2^64 then some (x*2^y.toNat) else none
 | .shr=>if 0<=y then some (x.fdiv (2^y.toNat)) else none
 | .and=>some (Builtin.bitAnd x y)
 | .or=>some (Builtin.bitOr x y)
 | .xor=>some (Builtin.bitXor x y)
noncomputable def vI {α:Type} (v:V) (k:Int->Option α):Option α:=match v with
 | .int i=>k i
 | _=>none
noncomputable def vR {α:Type} (v:V) (k:Addr->Option α):Option α:=match v with
 | .ref i=>k i
 | _=>none
noncomputable def oL {α:Type} (o:Ob) (k:List V->Option α):Option α:=match o with
 | .list vs=>k vs
 | _=>none
noncomputable def oD {α:Type} (o:Ob) (k:List (Nat×V)->Option α):Option α:=match o with
 | .dict vs=>k vs
 | _=>none
noncomputable def oI {α:Type} (o:Ob) (k:Nat->Addr->Option α):Option α:=match o with
 | .inst c dx=>k c dx
 | _=>none
noncomputable def cL {α:Type} (C:Ch) (a:Nat) (k:List V->Option α):Option α:=(C[a]?).bind λo=>oL o k
noncomputable def cD {α:Type} (C:Ch) (a:Nat) (k:List (Nat×V)->Option α):Option α:=(C[a]?).bind λo=>oD o k
noncomputable def cI {α:Type} (C:Ch) (a:Nat) (k:Nat->Addr->Option α):Option α:=(C[a]?).bind λo=>oI o k
theorem gR {α:Type} {v:V} {k:Int->Option α} {r:α} (h:vI v k=some r):∃i,v=.int i/\k i=some r:=by
 cases v with
 | int i=>exact ⟨i,rfl,h⟩
 | _=>exact nomatch h
theorem sW {α:Type} {v:V} {k:Addr->Option α} {r:α} (h:vR v k=some r):∃i,v=.ref i/\k i=some r:=by
 cases v with
 | ref i=>exact ⟨i,rfl,h⟩
 | _=>exact nomatch h
theorem t8 {α:Type} {C:Ch} {a:Nat} {k:List V->Option α} {r:α} (h:cL C a k=some r):∃vs,C[a]?=some (.list vs)/\k vs=some r:=by
 refine ao (Qz.mp h) λo h1 h2=>?_
 cases o with
 | list vs=>exact ⟨vs,h1,h2⟩
 | _=>exact nomatch h2
theorem B2 {α:Type} {C:Ch} {a:Nat} {k:List (Nat×V)->Option α} {r:α} (h:cD C a k=some r):∃vs,C[a]?=some (.dict vs)/\k vs=some r:=by
 refine ao (Qz.mp h) λo h1 h2=>?_
 cases o with
 | dict vs=>exact ⟨vs,h1,h2⟩
 | _=>exact nomatch h2
theorem B1 {α:Type} {C:Ch} {a:Nat} {k:Nat->Addr->Option α} {r:α} (h:cI C a k=some r):∃c dx,C[a]?=some (.inst c dx)/\k c dx=some r:=by
 refine ao (Qz.mp h) λo h1 h2=>?_
 cases o with
 | inst c dx=>exact ⟨c,dx,h1,h2⟩
 | _=>exact nomatch h2
noncomputable def isMul:gJ->Bool
 | .mul=>true
 | _=>false
theorem xh {op:gJ} (h:isMul op=true):op=.mul:=by cases op<;>first | rfl | exact nomatch h
noncomputable def BM:Bi->Bool
 | .range=>true
 | _=>false
theorem xg {b:Bi} (h:BM b=true):b=.range:=by cases b<;>first | rfl | exact nomatch h
noncomputable def one?:List V->Option V
 | [x]=>some x
 | _=>none
noncomputable def CP (op:gJ) (v w:V) (C:Ch):Out:=vI w λy=>match v with
 | .int x=>(CO op x y).map λz=>(.int z,C)
 | .ref a=>cL C a λl=>(one? l).bind λx=>if isMul op=true/\0<=y/\y<=1000 then some (.ref C.length,C++ [.list (List.replicate y.toNat x)]) else none
 | _=>none
noncomputable def FT (op:uZ) (x y:Int):Option Bool:=match op with
 | .eq=>some (decide (x=y))
 | .ne=>some (decide (x≠y))
 | .lt=>some (decide (x<y))
 | .gt=>some (decide (y<x))
 | .ge=>some (decide (y<=x))
 | _=>none
noncomputable def CN (op:uZ) (v w:V):Option Bool:=match v with
 | .int x=>(match w with
  | .int y=>FT op x y
  | _=>none)
 | _=>none
noncomputable def zT (vs:List V) (i:Int) (C:Ch):Out:=if 0<=i then vs[i.toNat]?.map (·,C) else none
noncomputable def zQ (v i:V) (C:Ch):Out:=vI i λi=>match v with
 | .ref a=>cL C a λvs=>zT vs i C
 | .tup vs=>zT vs i C
 | _=>none
noncomputable def wa (v:V) (n:Nat) (C:Ch):Out:=vR v λa=>cI C a λ_ dx=>cD C dx λfs=>(fe n fs).map (·,C)
noncomputable def JD (vs:List V) (C:Ch):Out:=match vs with
 | [v]=>vI v λn=>if -1000000<=n/\n<=1000000 then some (.f7 0 n 1,C) else none
 | [u,v,w]=>vI u λa=>vI v λb=>vI w λc=>if (-1000000<=a/\a<=1000000)/\(-1000000<=b/\b<=1000000)/\c=-1 then some (.f7 a b c,C) else none
 | _=>none
noncomputable def JF (b:Bi) (vs:List V) (C:Ch):Out:=if BM b=true then JD vs C else none
noncomputable def zZ (v w:V) (C:Ch):Out:=vR v λa=>cL C a λvs=>if vs.length<1000 then some (.none,C.set a (.list (vs++ [w]))) else none
noncomputable def ur (v:V) (C:Ch):Bool:=match v with
 | .ref a=>(match C[a]? with
  | some (.list _)=>true
  | _=>false)
 | _=>false
noncomputable abbrev RG:=Nat->List V->Ch->Out
mutual
noncomputable def rE (Γ:RG):E->Lc->Ch->Out
 | .hG,_,C=>some (.none,C)
 | .bz b,_,C=>some (.bool b,C)
 | .bC i,_,C=>some (.int i,C)
 | .ma is,_,C=>some (.tup (is.map .int),C)
 | .loc i,O,C=>(getL O i).map (·,C)
 | .bin op l r,O,C=>(rE Γ l O C).bind λp=>(rE Γ r O p.2).bind λq=>CP op p.1 q.1 q.2
 | .neg e,O,C=>(rE Γ e O C).bind λp=>match p.1 with | .int i=>some (.int (-i),p.2) | _=>none
 | .inv e,O,C=>(rE Γ e O C).bind λp=>match p.1 with | .int i=>some (.int (Builtin.bitNot i),p.2) | _=>none
 | .dZ es,O,C=>te Γ es O C
 | .tm es,O,C=>zR Γ es O C
 | .cmp op l r,O,C=>(rE Γ l O C).bind λp=>(rE Γ r O p.2).bind λq=>(CN op p.1 q.1).map λb=>(.bool b,q.2)
 | .call f args,O,C=>(zU Γ args O C).bind λp=>Γ f p.1 p.2
 | .new c args,O,C=>(zU Γ args O C).bind λp=>(Γ (1000+c) (.ref (p.2.length+1)::p.1) ((p.2++ [.dict []])++ [.inst c p.2.length])).bind λq=>if isNone q.1=true then some (.ref (p.2.length+1),q.2) else none
 | .bi b args,O,C=>(zU Γ args O C).bind λp=>JF b p.1 p.2
 | .append o x,O,C=>(rE Γ o O C).bind λp=>if ur p.1 p.2 then (rE Γ x O p.2).bind λq=>zZ p.1 q.1 q.2 else none
 | .attr o n,O,C=>(rE Γ o O C).bind λp=>wa p.1 n p.2
 | .sub o i,O,C=>(rE Γ o O C).bind λp=>(rE Γ i O p.2).bind λq=>zQ p.1 q.1 q.2
 | .tup es,O,C=>(zU Γ es O C).bind λp=>if p.1.length<=1000/\p.1.all gL=true then some (.tup p.1,p.2) else none
 | .lst es,O,C=>(zU Γ es O C).bind λp=>if p.1.length<=1000 then some (.ref p.2.length,p.2++ [.list p.1]) else none
 | _,_,_=>none
noncomputable def zU (Γ:RG):E->Lc->Ch->Option (List V×Ch)
 | .nil,_,C=>some ([],C)
 | .cons c r,O,C=>(rE Γ c O C).bind λp=>(zU Γ r O p.2).bind λq=>some (p.1::q.1,q.2)
 | _,_,_=>none
noncomputable def te (Γ:RG):E->Lc->Ch->Out
 | .cons x r,O,C=>(rE Γ x O C).bind λp=>match isNil r with
  | true=>some p
  | false=>(truthy p.1).bind λb=>if b then te Γ r O p.2 else some p
 | _,_,_=>none
noncomputable def zR (Γ:RG):E->Lc->Ch->Out
 | .cons x r,O,C=>(rE Γ x O C).bind λp=>match isNil r with
  | true=>some p
  | false=>(truthy p.1).bind λb=>if b then some p else zR Γ r O p.2
 | _,_,_=>none
end
noncomputable abbrev Bh:=Option ((Fl×Lc)×Ch)
noncomputable def CM (body:Lc->Ch->Bh) (i:Nat):List V->Lc->Ch->Bh
 | [],O,C=>some ((.next,O),C)
 | x::r,O,C=>(body (cV O i x) C).bind λp=>match p.1.1 with
  | .next=>CM body i r p.1.2 p.2
  | _=>none
noncomputable def By (v:V) (n:Nat) (x:V) (C:Ch):Option Ch:=vR v λa=>cI C a λ_ dx=>cD C dx λfs=>if fs.length<=100 then some (C.set dx (.dict (gB n x fs))) else none
noncomputable def vW (v i x:V) (C:Ch):Option Ch:=vR v λa=>vI i λi=>cL C a λvs=>if 0<=i/\i.toNat<vs.length then some (C.set a (.list (vs.set i.toNat x))) else none
noncomputable def zX (op:gJ) (v w:V):Option V:=vI v λx=>vI w λy=>(CO op x y).map .int
mutual
noncomputable def rS (Γ:RG):S->Lc->Ch->Bh
 | .aG e,O,C=>(rE Γ e O C).bind λp=>if isNone p.1 then some ((.next,O),p.2) else none
 | .asg i e,O,C=>(rE Γ e O C).bind λp=>some ((.next,cV O i p.1),p.2)
 | .cj o n e,O,C=>(rE Γ e O C).bind λp=>(rE Γ o O p.2).bind λq=>(By q.1 n p.1 q.2).map λC=>((.next,O),C)
 | .eS o i e,O,C=>(rE Γ e O C).bind λp=>(rE Γ o O p.2).bind λq=>(rE Γ i O q.2).bind λr=>(vW q.1 r.1 p.1 r.2).map λC=>((.next,O),C)
 | .aug i op e,O,C=>(getL O i).bind λv=>(rE Γ e O C).bind λp=>(zX op v p.1).map λz=>((.next,cV O i z),p.2)
 | .jx o i op e,O,C=>(rE Γ o O C).bind λp=>(rE Γ i O p.2).bind λq=>(zQ p.1 q.1 q.2).bind λx=>(rE Γ e O x.2).bind λy=>(zX op x.1 y.1).bind λz=>(vW p.1 q.1 z y.2).map λC=>((.next,O),C)
 | .bh t a b,O,C=>(rE Γ t O C).bind λp=>(truthy p.1).bind λc=>if c then rB Γ a O p.2 else rB Γ b O p.2
 | .cC i it b,O,C=>(rE Γ it O C).bind λp=>match p.1 with
  | .f7 x y z=>CM (λO C=>rB Γ b O C) i (aP x y z) O p.2
  | _=>none
 | .ret e,O,C=>(rE Γ e O C).bind λp=>some ((.ret p.1,O),p.2)
 | _,_,_=>none
noncomputable def rB (Γ:RG):S->Lc->Ch->Bh
 | .nil,O,C=>some ((.next,O),C)
 | .cons s r,O,C=>(rS Γ s O C).bind λp=>match p.1.1 with
  | .next=>rB Γ r p.1.2 p.2
  | _=>some p
 | _,_,_=>none
end
noncomputable def jd (code:Nat->Option Fn):Nat->RG
 | 0=>λ_ _ _=>none
 | d+1=>λf args C=>match code f with
  | none=>none
  | some F=>if args.length=F.np then (rB (jd code d) F.body (args.map some++List.replicate (F.names.length-F.np) none) C).bind λp=>(iH p.1.1).map (·,p.2) else none
end
theorem gQ.refl (U:Nat->Addr) (C:Ch):gQ U C U C:=⟨Qn _,λ_ _=>rfl⟩
theorem gQ.trans {U σ1 σ2:Nat->Addr} {C C1 C2:Ch} (h:gQ U C σ1 C1) (k:gQ σ1 C1 σ2 C2):gQ U C σ2 C2:=⟨P8 h.le k.le,λi hi=>(k.eq i (P7 hi h.le)).trans (h.eq i hi)⟩
theorem gv {n m:Nat} (h:n<=m):∀{v:V},lr n v=true->lr m v=true
 | .ref _,k=>Qq (P7 (Qe k) h)
 | .none,_ | .bool _,_ | .int _,_ | .f7 ..,_=>rfl
 | .tup _,k=>k
theorem oE {U σ':Nat->Addr} {n:Nat} (h:∀i,i<n->σ' i=U i):∀{v:V},lr n v=true->cK σ' v=cK U v
 | .ref i,k=>congrArg V.ref (h i (Qe k))
 | .none,_ | .bool _,_ | .int _,_ | .f7 ..,_ | .tup _,_=>rfl
theorem oC {U σ':Nat->Addr} {n:Nat} (h:∀i,i<n->σ' i=U i) {vs:List V} (k:vs.all (lr n)=true):vs.map (cK σ')=vs.map (cK U):=
 Q1 λ_ hv=>oE h (Qj.mp k _ hv)
theorem zM {U σ':Nat->Addr} {n:Nat} (h:∀i,i<n->σ' i=U i):∀{o:Ob},zk n o=true->kF σ' o=kF U o
 | .list _,k=>congrArg Ob.list (oC h k)
 | .dict _,k=>congrArg Ob.dict (Q1 λp hp=>by rw [oE h (Qj.mp k p hp)])
 | .inst c dx,k=>congrArg (Ob.inst c) (h dx (Qe k))
theorem qW {n m:Nat} (h:n<=m) {vs:List V} (k:vs.all (lr n)=true):vs.all (lr m)=true:=Qj.mpr λv hv=>gv h (Qj.mp k v hv)
theorem Cc {n m:Nat} (h:n<=m):∀{o:Ob},zk n o=true->zk m o=true
 | .list _,k=>qW h k
 | .dict _,k=>Qj.mpr λp hp=>gv h (Qj.mp k p hp)
 | .inst _ _,k=>Qq (P7 (Qe k) h)
section
variable {H0 H:Hp} {U:Nat->Addr} {C:Ch}
theorem Em.set (e:Em H0 U C H) {a:Nat} {o:Ob} (ha:a<C.length) (ho:zk C.length o=true):Em H0 U (C.set a o) (H.upd (U a) (kF U o)) where
 got:=λi o' hi=>by
  rw [RD] at hi;split at hi
  ·subst_vars
   cases hi;exact Hp.ai ..
  ·rename_i hne;have hl:i<C.length:=(Qs.mp hi).1;rw [Hp.ay λz=>hne (e.inj _ _ hl ha z).symm];exact e.got i o' hi
 fr:=λi hi=>e.fr i (Ql .. ▸ hi)
 inj:=λi j hi hj=>e.inj i j (Ql .. ▸ hi) (Ql .. ▸ hj)
 off:=λx hx=>by rw [Hp.ay λz=>hx a (by rw [Ql];exact ha) z.symm];exact e.off x λi hi=>hx i (by rw [Ql];exact hi)
 wf:=λi o' hi=>by
  rw [Ql];rw [RD] at hi;split at hi
  ·cases hi;exact ho
  ·exact e.wf i o' hi
noncomputable def ext (U:Nat->Addr) (n:Nat) (x:Addr):Nat->Addr:=λi=>if i=n then x else U i
theorem fE {n i:Nat} {x:Addr} (h:i<n):ext U n x i=U i:=Qb (QX h)
theorem ig {n:Nat} {x:Addr}:ext U n x n=x:=Qk rfl
theorem Em.fresh (e:Em H0 U C H) {x:Addr} (hx:H x=none):H0 x=none/\∀i,i<C.length->U i≠x:=by
 have h1:∀i,i<C.length->U i≠x:=λi hi z=>by
  have:=e.got i C[i] (Qg hi);rw [z,hx] at this;cases this
 exact ⟨(e.off x h1).symm.trans hx,h1⟩
theorem Em.new (e:Em H0 U C H) {x:Addr} {o:Ob} (hx:H x=none) (ho:zk (C.length+1) o=true):Em H0 (ext U C.length x) (C++ [o]) (H.upd x (kF (ext U C.length x) o)) where
 got:=λi o' hi=>by
  rcases Qw i C.length with q | q
  ·rw [Sj q] at hi;rw [fE q,Hp.ay ((e.fresh hx).2 i q),e.got i o' hi];exact congrArg some (zM (λj hj=>fE hj) (e.wf i o' hi)).symm
  ·rw [Ri q] at hi
   have:i-C.length=0:=by have:=(Qs.mp hi).1;simp at this;assumption
   rw [this] at hi;cases hi
   have:i=C.length:=by lia
   subst this;rw [ig];exact Hp.ai ..
 fr:=λi hi=>by
  rw [Qc] at hi;rcases Qw i C.length with q | q
  ·rw [fE q];exact e.fr i q
  ·have:i=C.length:=by simp at hi;exact RH (QH ‹_›) ‹_›
   subst this;rw [ig];exact (e.fresh hx).1
 inj:=λi j hi hj hz=>by
  rw [Qc] at hi hj
  rcases Qw i C.length with q | q<;>rcases Qw j C.length with p | p
  ·rw [fE q,fE p] at hz;exact e.inj i j q p hz
  ·have:j=C.length:=by simp at hj;exact RH (QH ‹_›) ‹_›
   subst this;rw [fE q,ig] at hz;exact absurd hz ((e.fresh hx).2 i q)
  ·have:i=C.length:=by simp at hi;exact RH (QH ‹_›) ‹_›
   subst this;rw [fE p,ig] at hz;exact absurd hz.symm ((e.fresh hx).2 j p)
  ·simp at hi hj;lia
 off:=λy hy=>by
  have h1:y≠x:=λz=>hy C.length (by simp) (ig.trans z.symm);rw [Hp.ay h1];exact e.off y λi hi z=>hy i (by rw [Qc];exact Nat.lt_add_right _ hi) ((fE hi).trans z)
 wf:=λi o' hi=>by
  rw [Qc];rcases Qw i C.length with q | q
  ·rw [Sj q] at hi;exact Cc (QA _ _) (e.wf i o' hi)
  ·rw [Ri q] at hi
   have:i-C.length=0:=by have:=(Qs.mp hi).1;simp at this;assumption
   rw [this] at hi;cases hi;exact ho
theorem gQ.new {x:Addr} {o:Ob}:gQ U C (ext U C.length x) (C++ [o]):=⟨by rw [Qc];exact QA _ _,λ_ hi=>fE hi⟩
theorem gQ.set {a:Nat} {o:Ob}:gQ U C U (C.set a o):=⟨by rw [Ql];exact Qn _,λ_ _=>rfl⟩
end
def cZ {α β:Type} (rn:(Nat->Addr)->α->β) (wf:Nat->α->Prop) (H0:Hp) (C:Ch) (U:Nat->Addr) (r:Option (α×Ch)) (w:(β->Hp->Prop)->Prop):Prop:=
 ∀v C',r=some (v,C')->∀Q,(∀σ' H',gQ U C σ' C'->Em H0 σ' C' H'->wf C'.length v->Q (rn σ' v) H')->w Q
abbrev pQ (n:Nat) (v:V):Prop:=lr n v=true
abbrev y0 (n:Nat) (vs:List V):Prop:=vs.all (lr n)=true
noncomputable abbrev pP (U:Nat->Addr) (vs:List V):List V:=vs.map (cK U)
noncomputable def bD (U:Nat->Addr) (O:Lc):Lc:=O.map (Option.map (cK U))
def nf (n:Nat) (O:Lc):Prop:=∀i v,getL O i=some v->pQ n v
noncomputable abbrev nX:=cZ cK pQ
noncomputable abbrev PU:=cZ pP y0
section
variable {α β γ δ:Type} {rn:(Nat->Addr)->α->β} {wf:Nat->α->Prop} {rn':(Nat->Addr)->γ->δ} {wf':Nat->γ->Prop} {H0 H:Hp} {C:Ch} {U:Nat->Addr}
theorem cZ.none {w:(β->Hp->Prop)->Prop}:cZ rn wf H0 C U none w:=λ_ _ h=>nomatch h
theorem cZ.bind {r:Option (α×Ch)} {w:(β->Hp->Prop)->Prop} {kk:α×Ch->Option (γ×Ch)} {wk:β->Hp->(δ->Hp->Prop)->Prop} (h:cZ rn wf H0 C U r w)
 (k:∀v C1 σ1 H1,gQ U C σ1 C1->Em H0 σ1 C1 H1->wf C1.length v->cZ rn' wf' H0 C1 σ1 (kk (v,C1)) (wk (rn σ1 v) H1)):cZ rn' wf' H0 C U (r.bind kk) (λQ=>w λv H=>wk v H Q):=by
 intro v C' e Q hQ;refine ao (Qz.mp e) ?_;rintro ⟨v1,C1⟩ e1 e2;refine h v1 C1 e1 _ λσ1 H1 t1 m1 f1=>k v1 C1 σ1 H1 t1 m1 f1 v C' e2 Q λσ2 H2 t2 m2 f2=>hQ σ2 H2 (t1.trans t2) m2 f2
theorem cZ.pure {v:α} {w:(β->Hp->Prop)->Prop} (m:Em H0 U C H) (f:wf C.length v) (hw:∀Q,Q (rn U v) H->w Q):cZ rn wf H0 C U (some (v,C)) w:=by
 intro v' C' e Q hQ;cases e;exact hw Q (hQ U H (gQ.refl _ _) m f)
theorem pZ {O:Lc} {i:Nat}:getL (bD U O) i=(getL O i).map (cK U):=by
 unfold getL bD;rw [QK];cases O[i]?<;>rfl
theorem dr {σ':Nat->Addr} {n:Nat} (h:∀i,i<n->σ' i=U i) {O:Lc} (k:nf n O):bD σ' O=bD U O:=by
 unfold bD;refine Q1 λo ho=>?_
 cases o with
 | none=>rfl
 | some v=>
  obtain ⟨i,hi,e⟩:=List.mem_iff_getElem.mp ho
  have:getL O i=some v:=by unfold getL;rw [Qg hi,e];rfl
  exact congrArg some (oE h (k i v this))
theorem eF {n m:Nat} (h:n<=m) {O:Lc} (k:nf n O):nf m O:=λi v e=>gv h (k i v e)
theorem lJ {O:Lc} {i:Nat} {v:V}:cV (bD U O) i (cK U v)=bD U (cV O i v):=by
 unfold cV bD;rw [List.map_set];rfl
theorem oe {n:Nat} {O:Lc} {i:Nat} {v:V} (k:nf n O) (f:pQ n v):nf n (cV O i v):=λj w e=>by
 unfold getL cV at e;rw [RD] at e;split at e
 ·split at e
  ·cases e;exact f
  ·cases e
 ·exact k j w e
theorem dg {c:Prop} [Decidable c] {a z:α} (h:(if c then some a else none)=some z):c/\a=z:=by
 split at h
 ·cases h;exact ⟨‹_›,rfl⟩
 ·cases h
theorem uG {c:Prop} [Decidable c] {a:Option α} {z:α} (h:(if c then a else none)=some z):c/\a=some z:=by
 split at h
 ·exact ⟨‹_›,h⟩
 ·cases h
theorem td {op:gJ} {x y z:Int} {P:Int->Prop} (h:CO op x y=some z) (k:P z):B3 op x y P:=by
 cases op
 case mul | fdiv | mod | shl | shr=>refine aD (dg h) λh1 h2=>?_;subst h2;exact ⟨h1,k⟩
 all_goals (cases h;exact k)
theorem Em.ph (m:Em H0 U C H) {a:Nat} {o:Ob} (h:C[a]?=some o):H (U a)=some (kF U o):=m.got a o h
theorem lZ {a:Nat} {o:Ob} (h:C[a]?=some o):a<C.length:=(Qs.mp h).1
theorem qN {vs:List V} (m:Em H0 U C H) (f:y0 C.length vs) (hl:vs.length<=1000):nX H0 C U (some (.ref C.length,C++ [.list vs])) (da (pP U vs) H):=by
 intro v C' e Q hQ;cases e;refine new_ (by rw [Qd];exact P8 hl (by decide)) λx hx=>?_;have:=hQ (ext U C.length x) _ gQ.new (m.new (o:=.list vs) hx (qW (Tg _) f)) (by show decide _=true;rw [Qc];exact Qq (Qu _));rw [show cK (ext U C.length x) (.ref C.length)=.ref x from congrArg V.ref ig,show kF (ext U C.length x) (.list vs)=.list (pP U vs) from congrArg Ob.list (oC (λi hi=>fE hi) f)] at this;exact this
theorem zW {op:gJ} {v w:V} (m:Em H0 U C H):nX H0 C U (CP op v w C) (ar op (cK U v) (cK U w) H):=by
 intro v' C' e Q hQ;refine ao (gR e) λy hw e=>?_;subst hw
 cases v with
 | int x=>
  refine ao (QE.mp e) λz hz e2=>?_;cases e2;exact eX.int (td (P:=λz=>Q (.int z) H) hz (hQ U H (gQ.refl _ _) m rfl))
 | ref a=>
  refine ao (t8 e) λl ha e=>?_;refine ao (Qz.mp e) λx hl e=>?_
  have hl:l=[x]:=by
   rcases l with _ | ⟨z,_ | ⟨_,_⟩⟩
   ·exact nomatch hl
   ·cases hl;rfl
   ·exact nomatch hl
  subst hl;refine aD (dg e) λhn e=>?_;have:=m.ph ha;have hx:pQ C.length x:=(Qj.mp (m.wf _ _ ha)) x (Qt.mpr rfl);have h2:=qN (vs:=List.replicate y.toNat x) m (Qj.mpr λy hy=>(List.eq_of_mem_replicate hy).symm ▸ hx) (by rw [QM];exact Int.toNat_le.mpr hn.2.2) v' C' (congrArg some e) Q hQ;rw [xh hn.1];exact eX.rep this ⟨hn.2.1,Sv hn.2.2 (by decide)⟩ (by rw [pP,TF] at h2;exact h2)
 | _=>exact nomatch e
theorem zV {op:uZ} {v w:V} {b:Bool} {Q:V->Hp->Prop} (h:CN op v w=some b) (k:Q (.bool b) H):bM op (cK U v) (cK U w) H Q:=by
 cases v with
 | int x=>
  cases w with
  | int y=>
   cases op with
   | eq=>cases h;exact t6 k
   | ne=>cases h;exact qE k
   | lt=>cases h;exact nU k
   | gt=>cases h;exact xW k
   | ge=>cases h;exact ku k
   | _=>exact nomatch h
  | _=>exact nomatch h
 | _=>exact nomatch h
theorem tc {vs:List V} {i:Int} {w:(V->Hp->Prop)->Prop} (m:Em H0 U C H) (f:y0 C.length vs) (hw:∀{Q:V->Hp->Prop} {x:V},0<=i->(pP U vs)[i.toNat]?=some x->Q x H->w Q):nX H0 C U (zT vs i C) w:=by
 intro v C' e Q hQ;unfold zT at e;split at e
 ·refine ao (QE.mp e) λz hz e2=>?_;cases e2;exact hw ‹_› (by rw [QK,hz];rfl) (hQ U H (gQ.refl _ _) m (Qj.mp f _ (QJ hz)))
 ·cases e
theorem qy {v:V} (h:gL v=true):cK U v=v:=by cases v<;>first | rfl | exact nomatch h
theorem pj {v:V} {n:Nat} (h:gL v=true):pQ n v:=by cases v<;>first | rfl | exact nomatch h
theorem jY {vs:List V} (h:vs.all gL=true):pP U vs=vs:=by
 have:=Q1 (f:=cK U) (g:=id) λv hv=>qy (Qj.mp h v hv);rw [pP,this,List.map_id]
theorem tb {v w:V} (m:Em H0 U C H) (fv:pQ C.length v):nX H0 C U (zQ v w C) (aN (cK U v) (cK U w) H):=by
 intro v' C' e Q hQ;refine ao (gR e) λi hw e=>?_;subst hw
 cases v with
 | ref a=>
  refine ao (t8 e) λvs ha e=>?_;have:=m.ph ha;exact tc m (m.wf _ _ ha) (λh0 h h2=>qM.ref this h0 h h2) v' C' e Q hQ
 | tup vs=>
  refine tc m (Qj.mpr λx hx=>pj (Qj.mp fv x hx)) (λh0 h h2=>?_) v' C' e Q hQ;rw [jY fv] at h;exact qM.tup h0 h h2
 | _=>exact nomatch e
theorem nN {n:Nat}:∀{fs:List (Nat×V)} {v:V},fe n fs=some v->fe n (fs.map λp=>(p.1,cK U p.2))=some (cK U v)
 | [],_,h=>nomatch h
 | (k,x)::r,v,h=>by
  unfold fe at h;show (if k=n then some (cK U x) else fe n (r.map λp=>(p.1,cK U p.2)))=some (cK U v);split at h
  ·cases h;rw [Qk ‹_›]
  ·rw [Qb ‹_›];exact nN h
theorem nO {n:Nat}:∀{fs:List (Nat×V)} {v:V},fe n fs=some v->∃k,(k,v)∈fs
 | [],_,h=>nomatch h
 | (k,x)::r,v,h=>by
  unfold fe at h;split at h
  ·cases h;exact ⟨k,QB⟩
  ·refine bJ (nO h) λj hj=>?_;exact ⟨j,QC _ hj⟩
theorem qb {n:Nat} {v:V}:∀{fs:List (Nat×V)},(gB n v fs).map (λp=>(p.1,cK U p.2))=gB n (cK U v) (fs.map λp=>(p.1,cK U p.2))
 | []=>rfl
 | (k,x)::r=>by
  show (if k=n then (k,v)::r else (k,x)::gB n v r).map _=(if k=n then (k,cK U v)::r.map _ else (k,cK U x)::gB n (cK U v) (r.map _));split
  ·rfl
  ·rw [Q9,qb]
theorem tf {n m:Nat} {v:V} (f:pQ m v):∀{fs:List (Nat×V)},zk m (.dict fs)=true->zk m (.dict (gB n v fs))=true
 | [],_=>by show (lr m v && true)=true;rw [f];rfl
 | (k,x)::r,h=>by
  have h:(lr m x && r.all λp=>lr m p.2)=true:=h;rw [Qa] at h;show (if k=n then (k,v)::r else (k,x)::gB n v r).all (λp=>lr m p.2)=true;split
  ·show (lr m v && r.all λp=>lr m p.2)=true;rw [f,h.2];rfl
  ·show (lr m x && (gB n v r).all λp=>lr m p.2)=true;rw [h.1,Sx];exact tf f h.2
theorem vZ {v:V} {n:Nat} (m:Em H0 U C H):nX H0 C U (wa v n C) (dP (cK U v) n H):=by
 intro v' C' e Q hQ;refine ao (sW e) λa hv e=>?_;subst hv;refine pq (B1 e) λc dx ha e=>?_;refine ao (B2 e) λfs hd e=>?_;refine ao (QE.mp e) λz hz e2=>?_;cases e2;refine bJ (nO hz) λk hk=>?_;exact at_ (m.ph ha) (m.ph hd) (nN hz) (hQ U H (gQ.refl _ _) m (Qj.mp (m.wf _ _ hd) _ hk))
theorem CR {b:Bi} {vs:List V} (m:Em H0 U C H):nX H0 C U (JF b vs C) (b8 b (pP U vs) H):=by
 intro v' C' e Q hQ;refine aD (uG e) λhb e=>?_;rw [xg hb];rcases vs with _ | ⟨v,_ | ⟨w,_ | ⟨u,_ | ⟨_,_⟩⟩⟩⟩
 ·exact nomatch e
 ·refine ao (gR e) λn hv e=>?_;subst hv;refine aD (dg e) λh e=>?_;cases e;exact mF.CD h (hQ U H (gQ.refl _ _) m rfl)
 ·exact nomatch e
 ·refine ao (gR e) λa ha e=>?_;refine ao (gR e) λb hb e=>?_;refine ao (gR e) λc hc e=>?_;subst ha hb hc;refine aD (dg e) λh e=>?_;cases e;exact mF.CC ⟨h.1,h.2.1⟩ h.2.2 (hQ U H (gQ.refl _ _) m rfl)
 ·exact nomatch e
theorem zS {v:V} (m:Em H0 U C H) (h:ur v C=true):DV (cK U v) H:=by
 unfold ur at h;split at h
 ·split at h
  ·exact gO (m.ph ‹_›)
  ·cases h
 ·cases h
theorem zY {v w:V} (m:Em H0 U C H) (fw:pQ C.length w):nX H0 C U (zZ v w C) (dD (cK U v) (cK U w) H):=by
 intro v' C' e Q hQ;refine ao (sW e) λa hv e=>?_;subst hv;refine ao (t8 e) λvs ha e=>?_;refine aD (dg e) λhl e=>?_;cases e;refine qK (m.ph ha) (by rw [Qd];exact Q7 hl (by decide)) ?_
 have hf:zk C.length (.list (vs++ [w]))=true:=by
  show (vs++ [w]).all (lr C.length)=true;rw [List.all_append,Qa];exact ⟨m.wf _ _ ha,by show (lr C.length w && true)=true;rw [fw];rfl⟩
 have:=hQ U _ gQ.set (m.set (lZ ha) hf) rfl;rw [show kF U (.list (vs++ [w]))=.list (vs.map (cK U)++ [cK U w]) from congrArg Ob.list (Rd ..)] at this;exact this
end
def L4 (Γr:RG) (Γ:Sg):Prop:=∀f args H0 C U H,Em H0 U C H->y0 C.length args->nX H0 C U (Γr f args C) (Γ f (pP U args) H)
section
variable {Γr:RG} {Γ:Sg} {H0 H:Hp} {C:Ch} {U:Nat->Addr} {O:Lc}
def vd (Γr:RG) (Γ:Sg) (e:E):Prop:=∀H0 C U H O,Em H0 U C H->nf C.length O->nX H0 C U (rE Γr e O C) (bp Γ e (bD U O) H)
def PL (Γr:RG) (Γ:Sg) (e:E):Prop:=∀H0 C U H O,Em H0 U C H->nf C.length O->PU H0 C U (zU Γr e O C) (lp Γ e (bD U O) H)
def PA (Γr:RG) (Γ:Sg) (e:E):Prop:=∀H0 C U H O,Em H0 U C H->nf C.length O->nX H0 C U (te Γr e O C) (jE Γ e (bD U O) H)
def PO (Γr:RG) (Γ:Sg) (e:E):Prop:=∀H0 C U H O,Em H0 U C H->nf C.length O->nX H0 C U (zR Γr e O C) (mZ Γ e (bD U O) H)
theorem vd.at {e:E} (h:vd Γr Γ e) {σ':Nat->Addr} {C':Ch} (t:gQ U C σ' C') (m:Em H0 σ' C' H) (f:nf C.length O):nX H0 C' σ' (rE Γr e O C') (bp Γ e (bD U O) H):=by
 rw [<- dr t.eq f];exact h H0 C' σ' H O m (eF t.le f)
theorem ft {σ':Nat->Addr} {C':Ch} {v:V} (t:gQ U C σ' C') (f:pQ C.length v):cK U v=cK σ' v:=(oE t.eq f).symm
theorem q6 {v:V}:truthy (cK U v)=truthy v:=by cases v<;>rfl
theorem two {e1 e2:E} {kr:V->V->Ch->Out} {kw:V->V->Hp->(V->Hp->Prop)->Prop} (h1:vd Γr Γ e1) (h2:vd Γr Γ e2)
 (hk:∀{H0 C U H v w},Em H0 U C H->pQ C.length v->pQ C.length w->nX H0 C U (kr v w C) (kw (cK U v) (cK U w) H)) (m:Em H0 U C H) (f:nf C.length O) :
 nX H0 C U ((rE Γr e1 O C).bind λp=>(rE Γr e2 O p.2).bind λq=>kr p.1 q.1 q.2) λQ=>bp Γ e1 (bD U O) H λv H=>bp Γ e2 (bD U O) H λw H=>kw v w H Q:=
 cZ.bind (wk:=λv H Q=>bp Γ e2 (bD U O) H λw H=>kw v w H Q) (h1 H0 C U H O m f) λv C1 σ1 H1 t m1 f1=>
  cZ.bind (wk:=λw H Q=>kw (cK σ1 v) w H Q) (h2.at t m1 f) λw C2 σ2 H2 t2 m2 f2=>by
   rw [ft t2 f1];exact hk m2 (gv t2.le f1) f2
theorem one {e1:E} {kr:V->Ch->Out} {kw:V->Hp->(V->Hp->Prop)->Prop} (h1:vd Γr Γ e1)
 (hk:∀{H0 C U H v},Em H0 U C H->pQ C.length v->nX H0 C U (kr v C) (kw (cK U v) H)) (m:Em H0 U C H) (f:nf C.length O) :
 nX H0 C U ((rE Γr e1 O C).bind λp=>kr p.1 p.2) λQ=>bp Γ e1 (bD U O) H λv H=>kw v H Q:=
 cZ.bind (wk:=λv H Q=>kw v H Q) (h1 H0 C U H O m f) λ_ _ _ _ _ m1 f1=>hk m1 f1
theorem many {e1:E} {kr:List V->Ch->Out} {kw:List V->Hp->(V->Hp->Prop)->Prop} (h1:PL Γr Γ e1)
 (hk:∀{H0 C U H vs},Em H0 U C H->y0 C.length vs->nX H0 C U (kr vs C) (kw (pP U vs) H)) (m:Em H0 U C H) (f:nf C.length O) :
 nX H0 C U ((zU Γr e1 O C).bind λp=>kr p.1 p.2) λQ=>lp Γ e1 (bD U O) H λv H=>kw v H Q:=
 cZ.bind (wk:=λv H Q=>kw v H Q) (h1 H0 C U H O m f) λ_ _ _ _ _ m1 f1=>hk m1 f1
theorem nI:∀is:List Int,(is.map V.int).all gL=true
 | []=>rfl
 | _::r=>nI r
def mG {c:Nat} {vs:List V}:Prop:=∀(hΓ:L4 Γr Γ) (m:Em H0 U C H) (f:y0 C.length vs),nX H0 C U ((Γr (1000+c) (.ref (C.length+1)::vs) ((C++ [.dict []])++ [.inst c C.length])).bind λq=>if isNone q.1=true then some (.ref (C.length+1),q.2) else none)
 λQ=>∀a dx,H a=none->H dx=none->a≠dx->Γ (1000+c) (.ref a::pP U vs) ((H.upd a (.inst c dx)).upd dx (.dict [])) λv H=>isNone v=true/\Q (.ref a) H
theorem Bj {c:Nat} {vs:List V}:@mG Γr Γ H0 H C U c vs:=au (S:=λx:(RG×Sg×Hp×Hp)×(Ch×(Nat->Addr)×Nat×List V)=>@mG x.1.1 x.1.2.1 x.1.2.2.1 x.1.2.2.2 x.2.1 x.2.2.1 x.2.2.2.1 x.2.2.2.2) (x:=((λ_ _ _=>none,λ_ _ _ _=>True,λ_=>none,λ_=>none),([],λ_=>0,0,[]))) (by
 refine (?_:∀Γr Γ H0 H C U c vs,@mG Γr Γ H0 H C U c vs) _ _ _ _ _ _ _ _;intro Γr Γ H0 H C U c vs hΓ m f;intro v C' e Q hQ a dx ha hd hne;refine ao (Qz.mp e) ?_;rintro ⟨u,C1⟩ e1 e2;refine aD (dg e2) λhu e2=>?_;cases e2
 have hd1:(H.upd dx (.dict [])) a=none:=by rw [Hp.ay hne];exact ha
 have m1:=m.new (o:=.dict []) hd rfl
 have hl1:(C++ [Ob.dict []]).length=C.length+1:=by rw [Qc];rfl
 have m2:=m1.new (o:=.inst c C.length) hd1 (Qq (by rw [hl1];exact QW (Qu _)));have t2:gQ U C _ ((C++ [.dict []])++ [.inst c C.length]):=gQ.trans (gQ.new (x:=dx)) (gQ.new (x:=a))
 have hl2:((C++ [Ob.dict []])++ [Ob.inst c C.length]).length=C.length+2:=by rw [Qc,hl1];rfl
 have ea:ext (ext U C.length dx) (C++ [Ob.dict []]).length a (C.length+1)=a:=by rw [hl1];exact ig
 have h3:=hΓ (1000+c) (.ref (C.length+1)::vs) H0 _ _ _ m2 (by
  show (decide _ && vs.all (lr _))=true
  rw [hl2,Qq (show C.length+1<C.length+2 from Qu _),Sx];exact qW (QA _ 2) f) u C1 e1 (λv H=>isNone v=true/\Q (.ref a) H) λσ' H' t m' fu=>by
   refine And.intro (by cases u<;>first | rfl | exact nomatch hu) ?_;have:=hQ σ' H' (t2.trans t) m' (by show decide _=true;have:=t.le;rw [hl2] at this;exact Qq (P7 (Qu _) this));rw [show cK σ' (.ref (C.length+1))=.ref a from congrArg V.ref ((t.eq _ (by rw [hl2];exact Qu _)).trans ea)] at this;exact this
 have er:pP (ext (ext U C.length dx) (C++ [Ob.dict []]).length a) (.ref (C.length+1)::vs)=.ref a::pP U vs:=by
  show V.ref _::_=_;rw [ea];exact congrArg (V.ref a::·) (oC t2.eq f)
 rw [er] at h3
 have eh:((H.upd dx (kF (ext U C.length dx) (.dict []))).upd a (kF (ext (ext U C.length dx) (C++ [Ob.dict []]).length a) (.inst c C.length)))=((H.upd a (.inst c dx)).upd dx (.dict [])):=by
  rw [Hp.bu _ _ _ hne];show (H.upd dx (.dict [])).upd a (.inst c _)=_;rw [fE (by rw [hl1];exact Qu _),ig]
 rw [eh] at h3
 exact h3) ((Γr,Γ,H0,H),(C,U,c,vs))
end
section
variable {Γr:RG} {Γ:Sg} {H0 H:Hp} {C:Ch} {U:Nat->Addr} {O:Lc}
structure PP (Γr:RG) (Γ:Sg) (x:E):Prop where
 e:vd Γr Γ x
 l:PL Γr Γ x
 a:PA Γr Γ x
 o:PO Γr Γ x
theorem PP.of {e:E} (h:vd Γr Γ e) (h1:∀O C,zU Γr e O C=none) (h2:∀O C,te Γr e O C=none) (h3:∀O C,zR Γr e O C=none):PP Γr Γ e:=
 ⟨h,λ_ _ _ _ _ _ _=>by rw [h1];exact cZ.none,λ_ _ _ _ _ _ _=>by rw [h2];exact cZ.none,λ_ _ _ _ _ _ _=>by rw [h3];exact cZ.none⟩
theorem vd.no {e:E} (h:∀O C,rE Γr e O C=none):vd Γr Γ e:=λ_ _ _ _ _ _ _=>by rw [h];exact cZ.none
theorem BN {kw:V->Hp->(V->Hp->Prop)->Prop} {g:Int->Int} (hk:∀i H Q,Q (.int (g i)) H->kw (.int i) H Q) {v:V} (m:Em H0 U C H):nX H0 C U (match v with | .int i=>some (.int (g i),C) | _=>none) (kw (cK U v) H):=by
 cases v<;>first | exact cZ.none | exact cZ.pure m rfl λQ h=>hk _ H Q h
theorem xn {α β:Type} {rn:(Nat->Addr)->α->β} {wf:Nat->α->Prop} {v:V} {a b:Option (α×Ch)} {A B:(β->Hp->Prop)->Prop} (ha:cZ rn wf H0 C U a A) (hb:cZ rn wf H0 C U b B):cZ rn wf H0 C U ((truthy v).bind λc=>if c then a else b) (λQ=>cF (cK U v) (A Q) (B Q)):=by
 intro v' C' e Q hQ;refine ao (Qz.mp e) λc hc e=>?_;unfold cF;rw [q6,hc];cases c
 ·exact hb v' C' e Q hQ
 ·exact ha v' C' e Q hQ
theorem FR (hΓ:L4 Γr Γ):∀e:E,PP Γr Γ e:=by
 intro e
 induction e with
 | nil=>exact ⟨vd.no λ_ _=>rfl,λ_ _ _ _ _ m _=>cZ.pure m rfl λ_ h=>h,λ_ _ _ _ _ _ _=>cZ.none,λ_ _ _ _ _ _ _=>cZ.none⟩
 | cons c r ihc ihr=>
  refine ⟨vd.no λ_ _=>rfl,λH0 C U H O m f=>?_,λH0 C U H O m f=>?_,λH0 C U H O m f=>?_⟩
  ·refine cZ.bind (wk:=λv H Q=>lp Γ r (bD U O) H λvs H=>Q (v::vs) H) (ihc.e H0 C U H O m f) λv C1 σ1 H1 t m1 f1=>?_;refine cZ.bind (rn:=pP) (wf:=y0) (w:=lp Γ r (bD U O) H1) (wk:=λvs H Q=>Q (cK σ1 v::vs) H) ?_ λvs C2 σ2 H2 t2 m2 f2=>?_
   ·rw [<- dr t.eq f];exact ihr.l H0 C1 σ1 H1 O m1 (eF t.le f)
   ·rw [ft t2 f1];exact cZ.pure (v:=v::vs) m2 (by show (lr _ v && vs.all (lr _))=true;rw [gv t2.le f1,f2];rfl) λ_ h=>h
  ·refine cZ.bind (wk:=λv H Q=>match isNil r with | true=>Q v H | false=>cF v (jE Γ r (bD U O) H Q) (Q v H)) (ihc.e H0 C U H O m f) λv C1 σ1 H1 t m1 f1=>?_;cases isNil r
   ·refine xn (A:=λQ=>jE Γ r (bD U O) H1 Q) (B:=λQ=>Q (cK σ1 v) H1) ?_ (cZ.pure m1 f1 λ_ h=>h);rw [<- dr t.eq f];exact ihr.a H0 C1 σ1 H1 O m1 (eF t.le f)
   ·exact cZ.pure m1 f1 λ_ h=>h
  ·refine cZ.bind (wk:=λv H Q=>match isNil r with | true=>Q v H | false=>cF v (Q v H) (mZ Γ r (bD U O) H Q)) (ihc.e H0 C U H O m f) λv C1 σ1 H1 t m1 f1=>?_;cases isNil r
   ·refine xn (A:=λQ=>Q (cK σ1 v) H1) (B:=λQ=>mZ Γ r (bD U O) H1 Q) (cZ.pure m1 f1 λ_ h=>h) ?_;rw [<- dr t.eq f];exact ihr.o H0 C1 σ1 H1 O m1 (eF t.le f)
   ·exact cZ.pure m1 f1 λ_ h=>h
 | bad | l7 | AD | pop | index | count | slice | comp=>exact PP.of (vd.no λ_ _=>rfl) (λ_ _=>rfl) (λ_ _=>rfl) λ_ _=>rfl
 | hG | bz | bC=>exact PP.of (λ_ _ _ _ _ m _=>cZ.pure m rfl λ_ h=>h) (λ_ _=>rfl) (λ_ _=>rfl) λ_ _=>rfl
 | ma is=>exact PP.of (λ_ _ _ _ _ m _=>cZ.pure m (nI is) λ_ h=>h) (λ_ _=>rfl) (λ_ _=>rfl) λ_ _=>rfl
 | loc i=>
  refine PP.of (λH0 C U H O m f v C' e Q hQ=>?_) (λ_ _=>rfl) (λ_ _=>rfl) λ_ _=>rfl;refine ao (QE.mp e) λz hz e2=>?_;cases e2;show (match getL (bD U O) i with | some v=>Q v H | none=>False);rw [pZ,hz];exact hQ U H (gQ.refl _ _) m (f i _ hz)
 | bin op l r il ir=>exact PP.of (λH0 C U H O m f=>two (kr:=CP op) (kw:=ar op) il.e ir.e (λm _ _=>zW m) m f) (λ_ _=>rfl) (λ_ _=>rfl) λ_ _=>rfl
 | neg e ih=>exact PP.of (λH0 C U H O m f=>one (kr:=λv C=>match v with | .int i=>some (.int (-i),C) | _=>none) (kw:=oT) ih.e (λm _=>BN (λ_ _ _ h=>eP h) m) m f) (λ_ _=>rfl) (λ_ _=>rfl) λ_ _=>rfl
 | inv e ih=>exact PP.of (λH0 C U H O m f=>one (kr:=λv C=>match v with | .int i=>some (.int (Builtin.bitNot i),C) | _=>none) (kw:=xl) ih.e (λm _=>BN (λ_ _ _ h=>jj h) m) m f) (λ_ _=>rfl) (λ_ _=>rfl) λ_ _=>rfl
 | dZ es ih=>exact PP.of (λH0 C U H O m f=>ih.a H0 C U H O m f) (λ_ _=>rfl) (λ_ _=>rfl) λ_ _=>rfl
 | tm es ih=>exact PP.of (λH0 C U H O m f=>ih.o H0 C U H O m f) (λ_ _=>rfl) (λ_ _=>rfl) λ_ _=>rfl
 | cmp op l r il ir=>
  refine PP.of (λH0 C U H O m f=>two (kr:=λv w C=>(CN op v w).map λb=>(.bool b,C)) (kw:=bM op) il.e ir.e (λm _ _ v C' e Q hQ=>?_) m f) (λ_ _=>rfl) (λ_ _=>rfl) λ_ _=>rfl;refine ao (QE.mp e) λb hb e2=>?_;cases e2;exact zV hb (hQ _ _ (gQ.refl _ _) m rfl)
 | call f args ih=>exact PP.of (λH0 C U H O m g=>many (kr:=Γr f) (kw:=Γ f) ih.l (λm h=>hΓ f _ _ _ _ _ m h) m g) (λ_ _=>rfl) (λ_ _=>rfl) λ_ _=>rfl
 | new c args ih=>exact PP.of (λH0 C U H O m g=>many (kr:=λvs C=>(Γr (1000+c) (.ref (C.length+1)::vs) ((C++ [Ob.dict []])++ [Ob.inst c C.length]:Ch)).bind λq=>if isNone q.1=true then some (.ref (C.length+1),q.2) else none) (kw:=λvs H Q=>∀a dx,H a=none->H dx=none->a≠dx->Γ (1000+c) (.ref a::vs) ((H.upd a (.inst c dx)).upd dx (.dict [])) λv H=>isNone v=true/\Q (.ref a) H) ih.l (λm h=>Bj hΓ m h) m g) (λ_ _=>rfl) (λ_ _=>rfl) λ_ _=>rfl
 | bi b args ih=>exact PP.of (λH0 C U H O m f=>many (kr:=JF b) (kw:=b8 b) ih.l (λm _=>CR m) m f) (λ_ _=>rfl) (λ_ _=>rfl) λ_ _=>rfl
 | append o x io ix=>
  refine PP.of (λH0 C U H O m f=>?_) (λ_ _=>rfl) (λ_ _=>rfl) λ_ _=>rfl;refine cZ.bind (wk:=λv H Q=>DV v H/\bp Γ x (bD U O) H λw H=>dD v w H Q) (io.e H0 C U H O m f) λv C1 σ1 H1 t m1 f1 v' C' e Q hQ=>?_
  obtain ⟨h1,e⟩:ur v C1=true/\((rE Γr x O C1).bind λq=>zZ v q.1 q.2)=some (v',C'):=by
   by_cases z:ur v C1=true
   ·exact ⟨z,by rw [<- e];exact (Qk z).symm⟩
   ·rw [show (if ur v C1=true then (rE Γr x O C1).bind λq=>zZ v q.1 q.2 else none)=none from Qb z] at e;cases e
  refine ⟨zS m1 h1,?_⟩;exact (cZ.bind (wk:=λw H Q=>dD (cK σ1 v) w H Q) (ix.e.at t m1 f) λw C2 σ2 H2 t2 m2 f2=>by rw [ft t2 f1];exact zY m2 f2) v' C' e Q hQ
 | attr o n ih=>exact PP.of (λH0 C U H O m f=>one (kr:=λv C=>wa v n C) (kw:=λv H Q=>dP v n H Q) ih.e (λm _=>vZ m) m f) (λ_ _=>rfl) (λ_ _=>rfl) λ_ _=>rfl
 | sub o i io ii=>exact PP.of (λH0 C U H O m f=>two (kr:=zQ) (kw:=aN) io.e ii.e (λm h _=>tb m h) m f) (λ_ _=>rfl) (λ_ _=>rfl) λ_ _=>rfl
 | tup es ih=>
  refine PP.of (λH0 C U H O m f=>many (kr:=λvs C=>if vs.length<=1000/\vs.all gL=true then some (.tup vs,C) else none) (kw:=λvs H Q=>vs.length<=1000/\Q (.tup vs) H) ih.l (λm h v C' e Q hQ=>?_) m f) (λ_ _=>rfl) (λ_ _=>rfl) λ_ _=>rfl;refine aD (dg e) ?_;rintro ⟨h1,h2⟩ e;cases e;have:=hQ _ _ (gQ.refl _ _) m h2;rw [jY h2];exact ⟨h1,this⟩
 | lst es ih=>
  refine PP.of (λH0 C U H O m f=>many (kr:=λvs C=>if vs.length<=1000 then some (.ref C.length,(C++ [Ob.list vs]:Ch)) else none) (kw:=da) ih.l (λm h v C' e Q hQ=>?_) m f) (λ_ _=>rfl) (λ_ _=>rfl) λ_ _=>rfl;refine aD (dg e) λh1 e=>?_;exact qN m h h1 v C' (e ▸ rfl) Q hQ
end
noncomputable def JC (U:Nat->Addr):Fl->Fl
 | .ret v=>.ret (cK U v)
 | f=>f
def OB (n:Nat):Fl->Prop
 | .ret v=>pQ n v
 | _=>True
noncomputable def mN (U:Nat->Addr) (p:Fl×Lc):Fl×Lc:=(JC U p.1,bD U p.2)
def pO (n:Nat) (p:Fl×Lc):Prop:=OB n p.1/\nf n p.2
noncomputable abbrev IF:=cZ mN pO
noncomputable abbrev P6:=cZ (λ_ (u:Unit)=>u) (λ_ _=>True)
section
variable {Γr:RG} {Γ:Sg} {H0 H:Hp} {C:Ch} {U:Nat->Addr} {O:Lc}
theorem vX {v x:V} {n:Nat} (m:Em H0 U C H) (fx:pQ C.length x) {C':Ch} (e:By v n x C=some C') {P:Hp->Prop} (h:∀H',Em H0 U C' H'->gQ U C U C'->P H'):bj (cK U v) n (cK U x) H P:=by
 refine ao (sW e) λa hv e=>?_;subst hv;refine pq (B1 e) λc dx ha e=>?_;refine ao (B2 e) λfs hd e=>?_;refine aD (dg e) λh1 e=>?_;subst e;refine pX (m.ph ha) (m.ph hd) (by rw [Qd];exact h1) ?_;have:=h _ (m.set (lZ hd) (tf fx (m.wf _ _ hd))) gQ.set;rw [show kF U (.dict (gB n x fs))=.dict (gB n (cK U x) (fs.map λp=>(p.1,cK U p.2))) from congrArg Ob.dict qb] at this;exact this
theorem zj {n i:Nat} {vs:List V} {x:V} (h:y0 n vs) (f:pQ n x):y0 n (vs.set i x):=Qj.mpr λv hv=>by
 rcases List.mem_or_eq_of_mem_set hv with q | q
 ·exact Qj.mp h v q
 ·exact q ▸ f
theorem p7 {v i x:V} (m:Em H0 U C H) (fx:pQ C.length x) {C':Ch} (e:vW v i x C=some C') {P:Hp->Prop} (h:∀H',Em H0 U C' H'->gQ U C U C'->P H'):bV (cK U v) (cK U i) (cK U x) H P:=by
 refine ao (sW e) λa hv e=>?_;refine ao (gR e) λi hi e=>?_;subst hv hi;refine ao (t8 e) λvs ha e=>?_;refine aD (dg e) λh1 e=>?_;subst e;have:=h _ (m.set (lZ ha) (o:=.list (vs.set i.toNat x)) (zj (m.wf _ _ ha) fx)) gQ.set;have hi:(.int i:V)=nv i.toNat:=congrArg V.int (Sz h1.1).symm;show bV (.ref (U a)) (.int i) (cK U x) H P;rw [hi];refine Bs (m.ph ha) (by rw [Qd];exact h1.2) ?_;rw [show kF U (.list (vs.set i.toNat x))=.list ((vs.map (cK U)).set i.toNat (cK U x)) from congrArg Ob.list (List.map_set ..)] at this;exact this
theorem p9 {op:gJ} {v w z:V} (e:zX op v w=some z):∃y:Int,z=.int y:=
 ao (gR e) λ_ _ e=>ao (gR e) λ_ _ e=>ao (QE.mp e) λy _ e=>⟨y,e.symm⟩
theorem kQ {op:gJ} {v w z:V} (e:zX op v w=some z) {P:V->Prop} (h:P z):kK op (cK U v) (cK U w) P/\∀n,pQ n z:=by
 refine ao (gR e) λx h1 e=>?_;refine ao (gR e) λz h2 e=>?_;subst h1 h2;refine ao (QE.mp e) λy hy e=>?_;subst e;exact ⟨E0.mk (td (P:=λz=>P (.int z)) hy h),λ_=>rfl⟩
def PQ (Γr:RG) (Γ:Sg) (s:S):Prop:=∀H0 C U H O,Em H0 U C H->nf C.length O->IF H0 C U (rS Γr s O C) λQ=>wpS Γ s (bD U O) H λfl O H=>Q (fl,O) H
def Fe (Γr:RG) (Γ:Sg) (s:S):Prop:=∀H0 C U H O,Em H0 U C H->nf C.length O->IF H0 C U (rB Γr s O C) λQ=>aO Γ s (bD U O) H λfl O H=>Q (fl,O) H
theorem Fe.at {s:S} (h:Fe Γr Γ s) {σ':Nat->Addr} {C':Ch} (t:gQ U C σ' C') (m:Em H0 σ' C' H) (f:nf C.length O):IF H0 C' σ' (rB Γr s O C') λQ=>aO Γ s (bD U O) H λfl O H=>Q (fl,O) H:=by
 rw [<- dr t.eq f];exact h H0 C' σ' H O m (eF t.le f)
theorem xB {b:S} (hb:Fe Γr Γ b) {i:Nat}:∀{vs:List V} {C:Ch} {U:Nat->Addr} {H:Hp} {O:Lc},vs.all gL=true->Em H0 U C H->nf C.length O->
 IF H0 C U (CM (λO C=>rB Γr b O C) i vs O C) λQ=>fo (λO H Q=>aO Γ b O H Q) i (λ_=>True) vs (bD U O) H λfl O H=>Q (fl,O) H
 | [],C,U,H,O,_,m,f=>cZ.pure m ⟨trivial,f⟩ λ_ h=>⟨trivial,h⟩
 | x::r,C,U,H,O,hf,m,f=>by
  have hf:(gL x && r.all gL)=true:=hf;rw [Qa] at hf;intro v C' e Q hQ;refine ao (Qz.mp e) ?_;rintro ⟨⟨fl,ρ1⟩,C1⟩ e1 e2;refine ⟨trivial,?_⟩;have h1:=hb H0 C U H (cV O i x) m (oe f (pj hf.1)) (fl,ρ1) C1 e1;rw [<- lJ,qy hf.1] at h1
  refine h1 (λp H=>match p.1 with
   | .next=>fo (λO H Q=>aO Γ b O H Q) i (λ_=>True) r p.2 H λfl O H=>Q (fl,O) H
   | .brk=>Q (.next,p.2) H
   | .ret v=>Q (.ret v,p.2) H) λσ1 H1 t1 m1 f1=>?_
  cases fl with
  | next=>exact xB hb hf.2 m1 f1.2 v C' e2 Q λσ2 H2 t2 m2 f2=>hQ σ2 H2 (t1.trans t2) m2 f2
  | brk=>exact nomatch e2
  | ret=>exact nomatch e2
theorem vT {a b c:Int}:(aP a b c).all gL=true:=Qj.mpr λv hv=>by
 unfold aP at hv;refine ao (Se.mp hv) ?_;rintro k _ rfl;rfl
theorem Pl {v:V} {a b:S} (ha:Fe Γr Γ a) (hb:Fe Γr Γ b) {σ':Nat->Addr} {C':Ch} (t:gQ U C σ' C') (m:Em H0 σ' C' H) (f:nf C.length O) :
 IF H0 C' σ' ((truthy v).bind λc=>if c then rB Γr a O C' else rB Γr b O C') λQ=>cF (cK σ' v) (aO Γ a (bD U O) H λfl O H=>Q (fl,O) H) (aO Γ b (bD U O) H λfl O H=>Q (fl,O) H):=
 xn (ha.at t m f) (hb.at t m f)
theorem FQ (hE:∀e,PP Γr Γ e):∀s:S,PQ Γr Γ s/\Fe Γr Γ s:=by
 intro s
 induction s with
 | nil=>exact ⟨λ_ _ _ _ _ _ _=>cZ.none,λ_ _ _ _ _ m f=>cZ.pure m ⟨trivial,f⟩ λ_ h=>h⟩
 | cons s r is ir=>
  refine ⟨λ_ _ _ _ _ _ _=>cZ.none,λH0 C U H O m f v C' e Q hQ=>?_⟩;refine ao (Qz.mp e) ?_;rintro ⟨⟨fl,ρ1⟩,C1⟩ e1 e2
  refine is.1 H0 C U H O m f (fl,ρ1) C1 e1 (λp H=>match p.1 with
   | .next=>aO Γ r p.2 H λfl O H=>Q (fl,O) H
   | .brk=>Q (Fl.brk,p.2) H
   | .ret v=>Q (Fl.ret v,p.2) H) λσ1 H1 t1 m1 f1=>?_
  cases fl with
  | next=>exact ir.2 H0 C1 σ1 H1 ρ1 m1 f1.2 v C' e2 Q λσ2 H2 t2 m2 f2=>hQ σ2 H2 (t1.trans t2) m2 f2
  | brk=>cases e2;exact hQ σ1 H1 t1 m1 f1
  | ret=>cases e2;exact hQ σ1 H1 t1 m1 f1
 | bad | zK | brk | raise | mE | j6=>exact ⟨λ_ _ _ _ _ _ _=>cZ.none,λ_ _ _ _ _ _ _=>cZ.none⟩
 | gT=>exact ⟨λ_ _ _ _ _ _ _=>cZ.none,λ_ _ _ _ _ _ _=>cZ.none⟩
 | aG x=>
  refine ⟨λH0 C U H O m f=>?_,λ_ _ _ _ _ _ _=>cZ.none⟩;refine cZ.bind (rn':=mN) (wf':=pO) (wk:=λv H Q=>jo v (Q (Fl.next,bD U O) H)) ((hE x).e H0 C U H O m f) λv C1 σ1 H1 t1 m1 f1 v' C' e Q hQ=>?_;refine aD (dg (show (if isNone v=true then some ((Fl.next,O),C1) else none)=some (v',C') from e)) λhv e=>?_;cases e;have:=hQ σ1 H1 (gQ.refl _ _) m1 ⟨trivial,eF t1.le f⟩
  have hv:v=.none:=by cases v<;>first | rfl | exact Bool.noConfusion hv
  subst hv;rw [mN,dr t1.eq f] at this;exact aQ this
 | asg i x=>
  refine ⟨λH0 C U H O m f=>?_,λ_ _ _ _ _ _ _=>cZ.none⟩;refine cZ.bind (rn':=mN) (wf':=pO) (wk:=λv H Q=>Q (Fl.next,cV (bD U O) i v) H) ((hE x).e H0 C U H O m f) λv C1 σ1 H1 t1 m1 f1=>?_;rw [<- dr t1.eq f,lJ];exact cZ.pure (rn:=mN) (wf:=pO) (v:=(Fl.next,cV O i v)) m1 ⟨trivial,oe (eF t1.le f) f1⟩ λ_ h=>h
 | cj o n x=>
  refine ⟨λH0 C U H O m f=>?_,λ_ _ _ _ _ _ _=>cZ.none⟩;refine cZ.bind (rn':=mN) (wf':=pO) (wk:=λx H Q=>bp Γ o (bD U O) H λv H=>bj v n x H λH=>Q (Fl.next,bD U O) H) ((hE x).e H0 C U H O m f) λx C1 σ1 H1 t1 m1 f1=>?_;refine cZ.bind (rn':=mN) (wf':=pO) (wk:=λv H Q=>bj v n (cK σ1 x) H λH=>Q (Fl.next,bD U O) H) ((hE o).e.at t1 m1 f) λv C2 σ2 H2 t2 m2 f2 v' C' e Q hQ=>?_;refine ao (QE.mp e) λC3 e3 e4=>?_;cases e4;rw [ft t2 f1];refine vX m2 (gv t2.le f1) e3 λH3 m3 t3=>?_;have:=hQ σ2 H3 t3 m3 ⟨trivial,eF ((t1.trans t2).trans t3).le f⟩;rw [mN,dr (t1.trans t2).eq f] at this;exact this
 | eS o i x=>
  refine ⟨λH0 C U H O m f=>?_,λ_ _ _ _ _ _ _=>cZ.none⟩;refine cZ.bind (rn':=mN) (wf':=pO) (wk:=λx H Q=>bp Γ o (bD U O) H λv H=>bp Γ i (bD U O) H λw H=>bV v w x H λH=>Q (Fl.next,bD U O) H) ((hE x).e H0 C U H O m f) λx C1 σ1 H1 t1 m1 f1=>?_;refine cZ.bind (rn':=mN) (wf':=pO) (wk:=λv H Q=>bp Γ i (bD U O) H λw H=>bV v w (cK σ1 x) H λH=>Q (Fl.next,bD U O) H) ((hE o).e.at t1 m1 f) λv C2 σ2 H2 t2 m2 f2=>?_;refine cZ.bind (rn':=mN) (wf':=pO) (wk:=λw H Q=>bV (cK σ2 v) w (cK σ1 x) H λH=>Q (Fl.next,bD U O) H) ((hE i).e.at (t1.trans t2) m2 f) λw C3 σ3 H3 t3 m3 f3 v' C' e Q hQ=>?_;refine ao (QE.mp e) λC4 e3 e4=>?_;cases e4;rw [ft (t2.trans t3) f1,ft t3 f2];refine p7 m3 (gv (t2.trans t3).le f1) e3 λH4 m4 t4=>?_;have:=hQ σ3 H4 t4 m4 ⟨trivial,eF (((t1.trans t2).trans t3).trans t4).le f⟩;rw [mN,dr ((t1.trans t2).trans t3).eq f] at this;exact this
 | aug i op x=>
  refine ⟨λH0 C U H O m f v C' e Q hQ=>?_,λ_ _ _ _ _ _ _=>cZ.none⟩;refine ao (Qz.mp e) λu hu e=>?_
  show (match getL (bD U O) i with
   | some v=>bp Γ x (bD U O) H λw H=>kK op v w λz=>Q (Fl.next,cV (bD U O) i z) H
   | none=>False)
  rw [pZ,hu];have fu:=f i u hu;refine (cZ.bind (rn':=mN) (wf':=pO) (wk:=λw H Q=>kK op (cK U u) w λz=>Q (Fl.next,cV (bD U O) i z) H) ((hE x).e H0 C U H O m f) λw C1 σ1 H1 t1 m1 f1 v' C' e Q hQ=>?_) v C' e Q hQ;refine ao (QE.mp e) λz hz e4=>?_;cases e4;rw [ft t1 fu];have hz':=(kQ (U:=σ1) (P:=λ_=>True) hz trivial).2;refine (kQ hz ?_).1;have:=hQ σ1 H1 (gQ.refl _ _) m1 ⟨trivial,oe (eF t1.le f) (hz' _)⟩;refine bJ (p9 hz) λy hy=>?_;subst hy;rw [<- dr t1.eq f,show (.int y:V)=cK σ1 (.int y) from rfl,lJ];exact this
 | jx o i op x=>
  refine ⟨λH0 C U H O m f=>?_,λ_ _ _ _ _ _ _=>cZ.none⟩;refine cZ.bind (rn':=mN) (wf':=pO) (wk:=λv H Q=>bp Γ i (bD U O) H λw H=>aN v w H λu H=>bp Γ x (bD U O) H λy H=>kK op u y λz=>bV v w z H λH=>Q (Fl.next,bD U O) H) ((hE o).e H0 C U H O m f) λv C1 σ1 H1 t1 m1 f1=>?_;refine cZ.bind (rn':=mN) (wf':=pO) (wk:=λw H Q=>aN (cK σ1 v) w H λu H=>bp Γ x (bD U O) H λy H=>kK op u y λz=>bV (cK σ1 v) w z H λH=>Q (Fl.next,bD U O) H) ((hE i).e.at t1 m1 f) λw C2 σ2 H2 t2 m2 f2=>?_;rw [ft t2 f1];refine cZ.bind (rn':=mN) (wf':=pO) (wk:=λu H Q=>bp Γ x (bD U O) H λy H=>kK op u y λz=>bV (cK σ2 v) (cK σ2 w) z H λH=>Q (Fl.next,bD U O) H) (tb m2 (gv t2.le f1)) λu C3 σ3 H3 t3 m3 f3=>?_;refine cZ.bind (rn':=mN) (wf':=pO) (wk:=λy H Q=>kK op (cK σ3 u) y λz=>bV (cK σ2 v) (cK σ2 w) z H λH=>Q (Fl.next,bD U O) H) ((hE x).e.at ((t1.trans t2).trans t3) m3 f) λy C4 σ4 H4 t4 m4 f4 v' C' e Q hQ=>?_;refine ao (Qz.mp e) λz hz e=>?_;refine ao (QE.mp e) λC5 e3 e4=>?_;cases e4;have hz':=(kQ (U:=σ4) (P:=λ_=>True) hz trivial).2;rw [ft t4 f3,ft (t3.trans t4) (gv t2.le f1),ft (t3.trans t4) f2];refine (kQ hz ?_).1
  have hr:z=cK σ4 z:=bJ (p9 hz) λy hy=>by rw [hy];rfl
  rw [hr];refine p7 m4 (hz' _) e3 λH5 m5 t5=>?_;have:=hQ σ4 H5 t5 m5 ⟨trivial,eF ((((t1.trans t2).trans t3).trans t4).trans t5).le f⟩;rw [mN,dr (((t1.trans t2).trans t3).trans t4).eq f] at this;exact this
 | bh t a b ia ib=>
  refine ⟨λH0 C U H O m f=>?_,λ_ _ _ _ _ _ _=>cZ.none⟩;exact cZ.bind (rn':=mN) (wf':=pO) (wk:=λv H Q=>cF v (aO Γ a (bD U O) H λfl O H=>Q (fl,O) H) (aO Γ b (bD U O) H λfl O H=>Q (fl,O) H)) ((hE t).e H0 C U H O m f) λv C1 σ1 H1 t1 m1 f1=>Pl ia.2 ib.2 t1 m1 f
 | cC i it b ib=>
  refine ⟨λH0 C U H O m f=>?_,λ_ _ _ _ _ _ _=>cZ.none⟩;refine cZ.bind (rn':=mN) (wf':=pO) (wk:=λv H Q=>fj (λO H Q=>aO Γ b O H Q) i v (bD U O) H λfl O H=>Q (fl,O) H) ((hE it).e H0 C U H O m f) λv C1 σ1 H1 t1 m1 f1=>?_
  cases v with
  | f7 x y z=>
   intro v C' e Q hQ;unfold fj;rw [<- dr t1.eq f];exact xB ib.2 vT m1 (eF t1.le f) v C' e Q hQ
  | _=>exact cZ.none
 | ret x=>
  refine ⟨λH0 C U H O m f=>?_,λ_ _ _ _ _ _ _=>cZ.none⟩;refine cZ.bind (rn':=mN) (wf':=pO) (wk:=λv H Q=>Q (Fl.ret v,bD U O) H) ((hE x).e H0 C U H O m f) λv C1 σ1 H1 t1 m1 f1=>?_;rw [<- dr t1.eq f];exact cZ.pure (rn:=mN) (wf:=pO) (v:=(Fl.ret v,O)) m1 ⟨f1,eF t1.le f⟩ λ_ h=>h
theorem uo {vs:List V} {n:Nat}:(pP U vs).map some++List.replicate n none=bD U (vs.map some++List.replicate n none):=by
 unfold bD pP;rw [Rd,TF,Su,Su];rfl
theorem vk {vs:List V} {n k:Nat} (h:y0 k vs):nf k (vs.map some++List.replicate n none):=λi v e=>by
 have hm:some v∈vs.map some++List.replicate n none:=by
  unfold getL at e
  cases h2:(vs.map some++List.replicate n none)[i]? with
  | none=>rw [h2] at e;cases e
  | some o=>rw [h2] at e;have e:o=some v:=e;rw [<- e];exact QJ h2
 rcases QF.mp hm with q | q
 ·refine ao (Se.mp q) λu hu e=>?_;cases e;exact Qj.mp h _ hu
 ·exact nomatch List.eq_of_mem_replicate q
theorem p8:∀d,L4 (jd code d) (gq code d)
 | 0=>λ_ _ _ _ _ _ _ _=>cZ.none
 | d+1=>λf args H0 C U H m g v C' e Q hQ=>by
  unfold jd at e
  show (match code f with
   | none=>False
   | some F=>(pP U args).length=F.np/\aO (gq code d) F.body ((pP U args).map some++List.replicate (F.names.length-F.np) none) H λfl _ H'=>match iH fl with
    | some v=>∃H'':Hp,H''.Sub H'/\Q v H''
    | none=>False)
  cases hc:code f with
  | none=>rw [hc] at e;cases e
  | some F=>
   rw [hc] at e;have e:(if args.length=F.np then (rB (jd code d) F.body (args.map some++List.replicate (F.names.length-F.np) none) C).bind λp=>(iH p.1.1).map (·,p.2) else none)=some (v,C'):=e;by_cases hn:args.length=F.np
   ·rw [Qk hn] at e;refine ao (Qz.mp e) ?_;rintro ⟨⟨fl,ρ1⟩,C1⟩ e1 e2;refine ao (QE.mp e2) λu hu e3=>?_;cases e3;refine ⟨(Qd ..).trans hn,?_⟩;rw [uo]
    refine (FQ (FR (p8 d)) F.body).2 H0 C U H _ m (vk g) (fl,ρ1) C1 e1 (λp H'=>match iH p.1 with
     | some v=>∃H'':Hp,H''.Sub H'/\Q v H''
     | none=>False) λσ1 H1 t1 m1 f1=>?_
    cases fl with
    | next=>cases hu;exact ⟨H1,Hp.Sub.refl _,hQ σ1 H1 t1 m1 rfl⟩
    | brk=>cases hu
    | ret w=>cases hu;exact ⟨H1,Hp.Sub.refl _,hQ σ1 H1 t1 m1 f1.1⟩
   ·rw [Qb hn] at e;cases e
theorem xT {d f:Nat} {args:List V} (hf:args.all gL=true) {v:V} {C:Ch} (e:jd code d f args []=some (v,C)) {q:V->Hp->Prop}
 (h:∀U H',Em H U C H'->q (cK U v) H'):Call d f args H q:=by
 unfold Call;have m:Em H (λ_=>0) [] H:={ got:=λi o hi=>(nomatch hi),fr:=λi hi=>absurd hi (Rc _),inj:=λi j hi=>absurd hi (Rc _),off:=λ_ _=>rfl,wf:=λi o hi=>(nomatch hi) };have:=p8 d f args H [] (λ_=>0) H m (Qj.mpr λx hx=>pj (Qj.mp hf x hx)) v C e q λσ' H' _ m' _=>h σ' H' m';rw [jY hf] at this;exact this
end
noncomputable def mL:aE:=⟨4,5,true,false,[69905,139810,279620,559240],[15,240,3840,61440,983040],[[69904,139808,279616,559232,69888,139776,279552,559104,69632,139264,278528,557056,65536,131072,262144,524288,0,0,0,0],[14,12,8,0,224,192,128,0,3584,3072,2048,0,57344,49152,32768,0,917504,786432,524288,0],[0,0,0,0,1,2,4,8,17,34,68,136,273,546,1092,2184,4369,8738,17476,34952],[0,1,3,7,0,16,48,112,0,256,768,1792,0,4096,12288,28672,0,65536,196608,458752],[33824,2112,128,0,541184,33792,2048,0,270336,540672,32768,0,131072,262144,524288,0,0,0,0,0],[0,0,0,0,2,4,8,0,36,72,128,0,584,1152,2048,0,9344,18432,32768,0],[0,0,0,0,0,1,2,4,0,16,33,66,0,256,528,1057,0,4096,8448,16912],[0,16,288,4672,0,256,4608,74752,0,4096,73728,147456,0,65536,131072,262144,0,0,0,0]],[50,117,234,196,803,1879,3758,3148,12848,30064,60128,50368,205568,481024,962048,805888,143360,356352,712704,311296],[576,1408,2576,1056,9220,22536,41217,16898,147522,360581,659482,270372,263200,526416,65952,131648,16896,34048,6656,9216],[32,80,160,64,512,1280,2560,1024,8192,20480,40960,16384,131072,327680,655360,262144,0,0,0,0],[0,0,0,0,2,5,10,4,32,80,160,64,512,1280,2560,1024,8192,20480,40960,16384],[none,none,none,none],[0,0,0,0,0,0,0,0,0,0,0,0,0,0,0,0,0,0,0,0]⟩
noncomputable def kC:aE:=⟨7,3,false,true,[16513,33026,66052,132104,264208,528416,1056832],[127,16256,2080768],[[16512,33024,66048,132096,264192,528384,1056768,16384,32768,65536,131072,262144,524288,1048576,0,0,0,0,0,0,0],[126,124,120,112,96,64,0,16128,15872,15360,14336,12288,8192,0,2064384,2031616,1966080,1835008,1572864,1048576,0],[0,0,0,0,0,0,0,1,2,4,8,16,32,64,129,258,516,1032,2064,4128,8256],[0,1,3,7,15,31,63,0,128,384,896,1920,3968,8064,0,16384,49152,114688,245760,507904,1032192],[65792,131584,263168,526336,1052672,8192,0,32768,65536,131072,262144,524288,1048576,0,0,0,0,0,0,0,0],[0,0,0,0,0,0,0,2,4,8,16,32,64,0,260,520,1040,2080,4160,8192,0],[0,0,0,0,0,0,0,0,1,2,4,8,16,32,0,128,257,514,1028,2056,4112],[0,128,16640,33280,66560,133120,266240,0,16384,32768,65536,131072,262144,524288,0,0,0,0,0,0,0]],[386,901,1802,3604,7208,14416,12320,49411,115335,230670,461340,922680,1845360,1577056,33152,82816,165632,331264,662528,1325056,536576],[33280,82944,166016,332032,664064,1311744,526336,65540,131080,278545,557090,1114180,131080,262160,514,1029,2186,4372,8744,1104,2080],[256,640,1280,2560,5120,10240,4096,32768,81920,163840,327680,655360,1310720,524288,0,0,0,0,0,0,0],[0,0,0,0,0,0,0,2,5,10,20,40,80,32,256,640,1280,2560,5120,10240,4096],[some (3,5,6,4),some (3,1,0,2),some (17,19,20,18),some (17,15,14,16)],[2,0,0,3,0,0,1,0,0,0,0,0,0,0,8,0,0,12,0,0,4]⟩
noncomputable def mK:aE:=⟨5,5,true,false,[1082401,2164802,4329604,8659208,17318416],[31,992,31744,1015808,32505856],[[1082400,2164800,4329600,8659200,17318400,1082368,2164736,4329472,8658944,17317888,1081344,2162688,4325376,8650752,17301504,1048576,2097152,4194304,8388608,16777216,0,0,0,0,0],[30,28,24,16,0,960,896,768,512,0,30720,28672,24576,16384,0,983040,917504,786432,524288,0,31457280,29360128,25165824,16777216,0],[0,0,0,0,0,1,2,4,8,16,33,66,132,264,528,1057,2114,4228,8456,16912,33825,67650,135300,270600,541200],[0,1,3,7,15,0,32,96,224,480,0,1024,3072,7168,15360,0,32768,98304,229376,491520,0,1048576,3145728,7340032,15728640],[17043520,532608,16640,512,0,8521728,17043456,532480,16384,0,4259840,8519680,17039360,524288,0,2097152,4194304,8388608,16777216,0,0,0,0,0,0],[0,0,0,0,0,2,4,8,16,0,68,136,272,512,0,2184,4368,8704,16384,0,69904,139776,278528,524288,0],[0,0,0,0,0,0,1,2,4,8,0,32,65,130,260,0,1024,2080,4161,8322,0,32768,66560,133152,266305],[0,32,1088,34944,1118464,0,1024,34816,1118208,2236416,0,32768,1114112,2228224,4456448,0,1048576,2097152,4194304,8388608,0,0,0,0,0]],[98,229,458,916,776,3139,7335,14670,29340,24856,100448,234720,469440,938880,795392,3214336,7511040,15022080,30044160,25452544,2195456,5472256,10944512,21889024,9175040],[2176,5376,10784,20544,8320,69636,172040,345105,657410,266244,2228354,5505285,11043370,21037140,8519816,4198464,8396960,17843520,2099840,4198656,133120,267264,567296,86016,139264],[64,160,320,640,256,2048,5120,10240,20480,8192,65536,163840,327680,655360,262144,2097152,5242880,10485760,20971520,8388608,0,0,0,0,0],[0,0,0,0,0,2,5,10,20,8,64,160,320,640,256,2048,5120,10240,20480,8192,65536,163840,327680,655360,262144],[none,none,none,none],[0,0,0,0,0,0,0,0,0,0,0,0,0,0,0,0,0,0,0,0,0,0,0,0,0]⟩
noncomputable def uT (G:aE):Ch:=[.dict [(4,nv G.aa),(5,nv G.bE),(6,nv G.size),(7,nv G.full),(8,.bool G.dbl),(9,.bool G.gM),(10,.ref 2),(11,.ref 3),(12,.ref 4),(13,.ref 13),(14,.ref 6),(15,.ref 9),(16,.ref 10),(17,.ref 31)],
 .inst 1 0,.list (av G.fm),.list (av G.rm),.list ((List.range 8).map λd=>.ref (15+2*d)),.list [],.list (av G.a8),.list (av G.pw),.list (av G.pb),.list [.ref 7,.ref 8],.list (G.bt.map vj),.list [],
 .list [.int 0],.list (av G.cz),.list [.int 0],.list (av (G.eM.getD 0 [])),.list [.int 0],.list (av (G.eM.getD 1 [])),.list [.int 0],.list (av (G.eM.getD 2 [])),.list [.int 0],.list (av (G.eM.getD 3 [])),
 .list [.int 0],.list (av (G.eM.getD 4 [])),.list [.int 0],.list (av (G.eM.getD 5 [])),.list [.int 0],.list (av (G.eM.getD 6 [])),.list [.int 0],.list (av (G.eM.getD 7 [])),.list [.int 0],.list (av G.cP)]
theorem FE:jd code 20 20 [.int 4,.int 5,.bool true,.bool false] []=some (.ref 1,uT mL):=by kernel_rfl
theorem FC:jd code 20 20 [.int 7,.int 3,.bool false,.bool true] []=some (.ref 1,uT kC):=by kernel_rfl
theorem FD:jd code 20 20 [.int 5,.int 5,.bool true,.bool false] []=some (.ref 1,uT mK):=by kernel_rfl
noncomputable def tx (n:Nat) (l:List Nat):Bool:=l.all λx=>decide (x<n)
theorem qq {n s:Nat} {l:List Nat} (hn:0<n) (h:tx n l=true):l.getD s 0<n:=by
 rw [P9]
 cases e:l[s]? with
 | none=>exact hn
 | some x=>exact Qe (Qj.mp h x (QJ e))
noncomputable def Mp (G:aE):Bool:=
 decide (2<=G.aa/\3<=G.bE/\G.size<=25/\G.fm.length=G.aa/\G.rm.length=G.bE/\G.eM.length=8) &&
 (G.eM.all λr=>decide (r.length=G.size) && tx (2^G.size) r) &&
 decide (G.cz.length=G.size/\G.a8.length=G.size/\G.pw.length=G.size/\G.pb.length=G.size/\G.bt.length=4/\G.cP.length=G.size) && tx 16 G.cP &&
 G.bt.all λw=>match w with
  | none=>true
  | some (a,b,c,d)=>decide (a<G.size/\b<G.size/\c<G.size/\d<G.size/\a≠c)
theorem zN {G:aE} {d:Nat} (h:d<G.eM.length):G.eM.getD d []∈G.eM:=by
 rw [P9,Qg h];exact Sb h
def oN {G:aE}:Prop:=∀(h:Mp G=true),cu G
theorem rG {G:aE}:@oN G:=au (S:=λx:aE=>@oN x) (x:=(bO)) (by
 refine (?_:∀G,@oN G) _;intro G h;unfold Mp at h;rw [Qa,Qa,Qa,Qa] at h;refine aD h ?_;rintro ⟨⟨⟨h1,h2⟩,h3⟩,h4⟩ h5;refine uQ (Qe h1) λa1 a2 a3 a4 a5 a6=>?_;refine uQ (Qe h3) λb1 b2 b3 b4 b5 b6=>?_
 have hr:∀d,d<8->(G.eM.getD d []).length=G.size/\tx (2^G.size) (G.eM.getD d [])=true:=λd hd=>by
  have:=Qj.mp h2 _ (zN (d:=d) (by rw [a6];exact hd));rw [Qa] at this;exact ⟨Qe this.1,this.2⟩
 refine ⟨a1,a2,a3,a4,a5,a6,λd hd=>(hr d hd).1,b1,b2,b3,b4,b5,b6,λs _=>qq (by decide) h4,λd s=>?_,λi kf kt rf rt e=>?_⟩
 ·rcases Qw d 8 with q | q
  ·exact qq (Ro _) (hr d q).2
  ·have e:G.eM.getD d []=[]:=by rw [P9,Rf (by rw [a6];exact q)];rfl
   rw [e];exact Ro _
 ·rw [P9] at e
  cases e2:G.bt[i]? with
  | none=>rw [e2] at e;cases e
  | some w=>
   rw [e2] at e;have e:w=some (kf,kt,rf,rt):=e;have:=Qj.mp h5 w (QJ e2);rw [e] at this
   exact Qe this) (G)
theorem JT:cu mL:=rG (by decide +kernel)
theorem JR:cu kC:=rG (by decide +kernel)
theorem JS:cu mK:=rG (by decide +kernel)
structure P4 (U:Nat->Addr) (a:Ad):Prop where
 g:a.g=U 1
 gd:a.gd=U 0
 fm:a.fm=U 2
 rm:a.rm=U 3
 oA:a.oA=U 4
 mR:∀d,a.mR d=U (15+2*d)
 cz:a.cz=U 13
 a8:a.a8=U 6
 fJ:a.fJ=U 9
 pn:∀c,a.pn c=U (7+c)
 gM:a.gM=U 10
 cP:a.cP=U 31
theorem gC {U:Nat->Addr} (l:List Nat):(av l).map (cK U)=av l:=by rw [Su];rfl
theorem ue {U:Nat->Addr} (l:List (Option (Nat×Nat×Nat×Nat))):(l.map vj).map (cK U)=l.map vj:=by
 rw [Su];refine Q1 λw _=>?_
 cases w<;>rfl
theorem GS {H0 H:Hp} {U:Nat->Addr} {a:Ad} {G:aE} (m:Em H0 U (uT G) H) (t:P4 U a) (r8:G.eM.length=8):GW H a G where
 g:=by rw [t.g,t.gd];exact m.got 1 _ rfl
 gd:=by
  rw [t.gd,t.fm,t.rm,t.oA,t.cz,t.a8,t.fJ,t.gM,t.cP];exact m.got 0 _ rfl
 fm:=by rw [t.fm,<- gC (U:=U)];exact m.got 2 _ rfl
 rm:=by rw [t.rm,<- gC (U:=U)];exact m.got 3 _ rfl
 oA:=by
  rw [t.oA,show ((List.range 8).map λd=>V.ref (a.mR d))=((List.range 8).map λd=>V.ref (15+2*d)).map (cK U) from by
   rw [Su];exact Q1 λd _=>congrArg V.ref (t.mR d)]
  exact m.got 4 _ rfl
 mR:=λd r h=>by
  have hd:d<8:=by rw [<- r8];exact (Qs.mp h).1
  have hr:r=G.eM.getD d []:=by rw [P9,h];rfl
  subst hr;rw [t.mR,<- gC (U:=U)];have:d=0\/d=1\/d=2\/d=3\/d=4\/d=5\/d=6\/d=7:=JY d (by assumption);rcases this with rfl | rfl | rfl | rfl | rfl | rfl | rfl | rfl
  ·exact m.got 15 _ rfl
  ·exact m.got 17 _ rfl
  ·exact m.got 19 _ rfl
  ·exact m.got 21 _ rfl
  ·exact m.got 23 _ rfl
  ·exact m.got 25 _ rfl
  ·exact m.got 27 _ rfl
  ·exact m.got 29 _ rfl
 cz:=by rw [t.cz,<- gC (U:=U)];exact m.got 13 _ rfl
 a8:=by rw [t.a8,<- gC (U:=U)];exact m.got 6 _ rfl
 fJ:=by
  rw [t.fJ,show ((List.range 2).map λd=>V.ref (a.pn d))=[V.ref 7,V.ref 8].map (cK U) from by
   show [V.ref (a.pn 0),V.ref (a.pn 1)]=[V.ref (U 7),V.ref (U 8)]
   rw [t.pn,t.pn]]
  exact m.got 9 _ rfl
 pn:=λc r h=>by
  rw [t.pn,<- gC (U:=U)]
  match c,h with
  | 0,h=>cases h;exact m.got 7 _ rfl
  | 1,h=>cases h;exact m.got 8 _ rfl
 gM:=by rw [t.gM,<- ue (U:=U)];exact m.got 10 _ rfl
 cP:=by rw [t.cP,<- gC (U:=U)];exact m.got 31 _ rfl
section
variable {d x y s c k:Nat} {H:Hp} {a:Ad} {G:aE} {R:Rw} {q:V->Hp->Prop}
noncomputable def sat (is:List Int) (k:Nat):Int:=is.getD k 0
theorem A4 {is:List Int} {sc:Addr} (hsc:H sc=some (.list (is.map .int))) (h:q (.int (sat is k)) H):Call (d+1) 97 [.ref sc,nv k] H q:=by
 refine aq rfl rfl ?_;refine (?_:aO _ _ [_,_] _ _);refine (?_:b8 _ _ _ _);refine l9 hsc ?_;refine (?_:bM _ _ _ _ _);refine rZ ?_;refine ag (λe=>?_) (λe=>?_)
 ·have hk:k<is.length:=by rw [Qd] at e;exact e
  refine (?_:aN _ _ _ _);refine iD (v:=.int (sat is k)) hsc ?_ ?_
  ·unfold sat;rw [QK,P9,Qg hk];rfl
  ·refine aj ?_;exact h
 ·have hk:is.length<=k:=by rw [Qd] at e;exact SA e
  have e0:sat is k=0:=by unfold sat;rw [P9,Rf hk];rfl
  rw [e0] at h;refine aj ?_;exact h
end
section
variable {d x y s c k:Nat} {H:Hp} {a:Ad} {G:aE} {R:Rw} {q:V->Hp->Prop}
noncomputable def cl (b:List Nat):Nat->List Nat
 | 0=>List.replicate 15 0
 | k+1=>if b.getD k 0≠0 then (cl b k).set (b.getD k 0) ((cl b k).getD (b.getD k 0) 0+1) else cl b k
noncomputable def ux (sz:Nat) (b:List Nat):Nat->Nat
 | 0=>0
 | k+1=>if b.getD k 0≠0 then ux sz b k ^^^ 2^(b.getD k 0*sz+(cl b k).getD (b.getD k 0) 0) else ux sz b k
theorem ik {b:List Nat}:∀{k:Nat},(cl b k).length=15
 | 0=>rfl
 | k+1=>by
  unfold cl;split
  ·rw [Ql];exact ik
  ·exact ik
theorem nT {b:List Nat} {m:Nat}:∀{k:Nat},(cl b k).getD m 0<=k
 | 0=>by
  show (List.replicate 15 0).getD m 0<=0
  rw [P9,RO];split<;>exact Qn 0
 | k+1=>by
  have h:=nT (b:=b) (m:=m) (k:=k);have h2:=nT (b:=b) (m:=b.getD k 0) (k:=k);unfold cl;split
  ·rw [P9,RD];split
   ·split
    ·show _+1<=k+1;exact Ry ‹_›
    ·exact QS _
   ·rw [<- P9];exact Rl ‹_›
  ·exact Rl ‹_›
theorem tr {x:Addr} {v:V} {n:Nat} (h1:H x=some (.list [v])) (hn:n<=1000) (h:da (List.replicate n v) H q):ar .mul (.ref x) (nv n) H q:=eX.rep h1 ⟨Qy n,by show (n:Int)<=1000000;exact Sv (QT.mpr ‹_›) (by decide)⟩ h
theorem LM (w:W H a G R) (o:dR G R) (h:q (nv (ux G.size R.ae G.size)) H):Call (d+1) 12 [.ref a.p] H q:=by
 refine aq rfl rfl ?_;refine (?_:aO _ _ [_,_,_,_,_] _ _);refine aI ‹_› rfl ?_;refine la ‹_› rfl ?_;refine new_ (show 1<=lim by decide) λb1 hb1=>?_;refine tr (n:=15) (Hp.ai ..) (by decide) ?_;refine new_ (show 15<=lim by decide) λb2 hb2=>?_;refine aD (Hp.none_of hb2) λhb2 hn2=>?_;have w1:=w.mono (Hp.ax (o:=.list [.int 0]) hb1);have e0:∀L,W ((H.upd b1 (.list [.int 0])).upd b2 (.list L)) a G R:=λL=>w1.mono (Hp.ax ((Hp.ay hb2).trans hn2));have w2:=e0 (List.replicate 15 (.int 0));refine (?_:aO _ _ [_,_,_,_,_] _ _);refine aI ‹_› rfl ?_;refine forL w2.P.bd (λk ρ' H'=>H'=(H.upd b1 (.list [.int 0])).upd b2 (.list (av (cl R.ae k)))/\∃x,ρ'=[some (.ref a.p),some (.ref a.zp),some (.ref b2),some (nv (ux G.size R.ae k)),x]) (λk v ρ' H' K hv hI hn _ _=>?_) (λρ' H' hI=>?_) ⟨by rw [cl];rfl,none,rfl⟩
 ·obtain ⟨rfl,x,rfl⟩:=hI;have w3:=e0 (av (cl R.ae k));refine ⟨w3.P.bd,?_⟩;refine aD (jy o.bl hv) ?_;rintro hk rfl;have hm:=o.bm k hk;have hc:(cl R.ae k).getD (R.ae.getD k 0) 0<G.size:=Qi nT hk;refine eD ?_;refine ag (λe=>?_) (λe=>?_)
  ·refine lA ‹_› ‹_› ?_;refine aU (Hp.ai ..) (by rw [ik];exact hm) ?_;refine gh ‹_› ‹_› ‹_› ?_;refine bG ?_;refine bS ?_;refine aU (Hp.ai ..) (by rw [ik];exact hm) ?_;refine bG ?_;refine p_add ?_;refine pW (Hp.ai ..) (by rw [ik];exact hm) ?_;refine hn _ _ ⟨?_,_,by rw [ux,Qk e];rfl⟩;rw [Hp.eH,cl,Qk e]
  ·exact hn _ _ ⟨by rw [cl,Qb e],_,by rw [ux,Qb e];rfl⟩
 ·obtain ⟨rfl,x,rfl⟩:=hI;rw [Qd,o.bl];refine ⟨(e0 _).P.bd,?_⟩;refine (?_:dq _ _ _ _);exact gz H (Hp.Sub.trans (Hp.ax hb1) (Hp.ax ((Hp.ay hb2).trans hn2))) h
end
section
variable {d x y s c k f r m:Nat} {H:Hp} {q:V->Hp->Prop} {L:List Nat} {x:Addr}
noncomputable def Bb (L:List Nat) (f s m:Nat):Bool:=decide ((0<s%f/\L.getD (s-1) 0=m)\/(s%f<f-1/\L.getD (s+1) 0=m))
theorem vQ (hf:0<f) (hs:s<f*r) (h:s%f<f-1):s+1<f*r:=by
 have h1:=RJ s f;have h2:s / f<r:=RC hs;have h3:f*(s / f+1)<=f*r:=S8 f h2;rw [Nat.mul_succ] at h3;lia
theorem Hr (hL:H x=some (.list (av L))) (hf:0<f) (hl:L.length=f*r) (hs:s<f*r) (h:q (.bool (Bb L f s m)) H):Call (d+1) 99 [.ref x,nv f,nv s,nv m] H q:=by
 refine aq rfl rfl ?_;refine (?_:aO _ _ [_,_,_,_] _ _);refine dX (QL hf) ?_;refine (?_:bM _ _ _ _ _);refine pE (y:=0) ?_
 have second:¬(0<s%f/\L.getD (s-1) 0=m)->aO (Call d) (va 1 L5.body) [some (.ref x),some (nv f),some (nv s),some (nv m)] H (dq q):=λhne=>by
  refine dX (QL hf) ?_;refine cH (y:=1) hf ?_;refine rZ ?_;refine ag (λe=>?_) (λe=>?_)
  ·have hs1:=vQ hf hs e;refine p_add ?_;refine aU hL (by rw [hl];exact hs1) ?_;refine aR ?_;refine aj ?_;rw [show decide (L.getD (s+1) 0=m)=Bb L f s m from dz ⟨λk=>.inr ⟨e,k⟩,λk=>k.elim (λk=>absurd k hne) λk=>k.2⟩];exact h
  ·rw [show Bb L f s m=decide (s%f<f-1) from dz ⟨λk=>k.elim (λk=>absurd k hne) λk=>absurd k.1 e,λk=>absurd k e⟩] at h;refine aj ?_;exact h
 refine ag (λe=>?_) (λe=>?_)
 ·have e:0<s%f:=e
  have hs0:1<=s:=by rcases Tb s with z | z;(rw [z,Nat.zero_mod] at e;exact absurd e (Q8 0));exact z
  refine cH (y:=1) hs0 ?_;refine aU hL (by rw [hl];exact Qi (Rk _ _) ‹_›) ?_;refine aR ?_;refine ag (λe2=>?_) (λe2=>?_)
  ·rw [show Bb L f s m=true from Qq (.inl ⟨e,e2⟩)] at h;refine aj ?_;exact h
  ·exact second λk=>e2 k.2
 ·refine ag (λe2=>absurd e2 e) (λ_=>?_);exact second λk=>e k.1
end
section
variable {d x y s c k f r m:Nat} {H:Hp} {q:V->Hp->Prop} {L:List Nat} {x:Addr}
theorem n7 {test elt:Lc->Hp->(V->Hp->Prop)->Prop} {O:Lc} (p:Nat->Bool) (g:Nat->Nat) (fn:Nat->Nat) {Q:List V->Hp->Prop}:∀{js:List Nat} {acc:List V},
 (∀j∈js,∀Q,Q (.bool (p j)) H->test (O.set 0 (some (nv (fn j)))) H Q)->(∀j∈js,p j=true->∀Q,Q (nv (g j)) H->elt (O.set 0 (some (nv (fn j)))) H Q)->
 acc.length+js.length<=lim->Q (acc++ (js.filter p).map λj=>nv (g j)) H->eE test elt O (js.map λj=>nv (fn j)) acc H Q
 | [],acc,_,_,_,h=>by rw [List.filter_nil,List.map_nil,RK] at h;exact h
 | j::js,acc,ht,he,hn,h=>by
  have hn:acc.length+(js.length+1)<=lim:=hn
  show test (O.set 0 (some (nv (fn j)))) H λv H=>match truthy v with
   | some true=>elt (O.set 0 (some (nv (fn j)))) H λy H=>acc.length<lim/\eE test elt O (js.map λj=>nv (fn j)) (acc++ [y]) H Q
   | some false=>eE test elt O (js.map λj=>nv (fn j)) acc H Q
   | none=>False
  refine ht j QB _ ?_;rw [S7] at h
  cases e:p j with
  | true=>
   rw [e,Qk rfl,Q9] at h;refine he j QB e _ ⟨by lia,?_⟩;refine n7 p g fn (λi hi=>ht i (QC _ hi)) (λi hi=>he i (QC _ hi)) (by rw [Qc];simp only [SI];lia) ?_;rw [Qm];exact h
  | false=>
   rw [e,Qb (by decide)] at h;exact n7 p g fn (λi hi=>ht i (QC _ hi)) (λi hi=>he i (QC _ hi)) (by exact Qp ‹_›) h
theorem qC {test elt:Lc->Hp->(V->Hp->Prop)->Prop} {O:Lc} {a b c:Int} {n:Nat} {fn:Nat->Nat} (e:aP a b c=(List.range n).map λk=>nv (fn k)) (p:Nat->Bool) (g:Nat->Nat) {Q:List V->Hp->Prop}
 (hn:n<=1000) (ht:∀j,j<n->∀Q,Q (.bool (p j)) H->test (O.set 0 (some (nv (fn j)))) H Q) (he:∀j,j<n->p j=true->∀Q,Q (nv (g j)) H->elt (O.set 0 (some (nv (fn j)))) H Q)
 (h:Q (((List.range n).filter p).map λj=>nv (g j)) H):fH test elt O (.f7 a b c) H Q:=by
 unfold fH;show eE test elt O (aP a b c) [] H Q;rw [e];refine n7 p g fn (λj hj=>ht j (Sh.mp hj)) (λj hj=>he j (Sh.mp hj)) ?_ h;rw [Sr];show 0+n<=1000000;exact P8 (QU ‹_› _) (by decide)
theorem cY (l:List Nat):intsOf? (av l)=some (l.map Int.ofNat):=by
 induction l with
 | nil=>rfl
 | cons a r ih=>show (intsOf? (av r)).map _=_;rw [ih];rfl
theorem sum_nat (l:List Nat):(l.map Int.ofNat).sum=((l.sum:Nat):Int):=by
 induction l with
 | nil=>rfl
 | cons a r ih=>rw [Q9,List.sum_cons,List.sum_cons,ih];rfl
theorem zD {b:Addr} {l:List Nat} (h1:H b=some (.list (av l))) (h:q (nv l.sum) H):b8 .sum [.ref b] H q:=mF.sum h1 (cY l) (by rw [sum_nat];exact h)
noncomputable def z5 (p:Nat->Bool) (L:List Nat):Nat:=(((List.range L.length).filter λs=>p (L.getD s 0)).map λs=>2^(L.getD s 0*L.length+s)).sum
noncomputable def lsum (L:List Nat) (f az ab:Nat) (ep:Int):Nat:=
 ((ab <<< (15*L.length)+(if 0<=ep then 2^(15*L.length+4+ep.toNat%f) else 0))+(if az=1 then 2^(15*L.length+4+f) else 0))+z5 (λm=>decide (m≠0)) L
noncomputable abbrev mQ (x:Addr) (az ab:Nat) (ep:Int):V:=.tup [.ref x,nv az,nv ab,.int ep]
theorem xE {n:Nat} {p:Nat->Bool} {g:Nat->Nat} (h:n<=1000):(((List.range n).filter p).map λj=>nv (g j)).length<=lim:=by
 rw [Qd];have:=List.length_filter_le p (List.range n);rw [Sr] at this;show _<=1000000;exact MN ‹_› ‹_› (by rfl)
theorem AL (H:Hp) (b:Addr) (l:List Nat) (g:Nat->Nat):(H.upd b (.list (l.map λj=>nv (g j)))) b=some (.list (av (l.map g))):=by
 rw [Hp.ai,av,Su];rfl
theorem BZ {az ab:Nat} {ep:Int} (hL:H x=some (.list (av L))) (hf:0<f) (hf2:f<=100) (hl:L.length<=25) (hm:∀s,L.getD s 0<15) (hr:ab<16) (h:q (nv (lsum L f az ab ep)) H):Call (d+1) 104 [mQ x az ab ep,nv f] H q:=by
 refine aq rfl rfl ?_;refine (?_:aO _ _ [_,_,_,_,_,_,_,_] _ _);refine (?_:tupK _ _ _ _);refine mP rfl ?_;refine (?_:b8 _ _ _ _);refine l9 hL ?_;rw [Qd];refine bT (x:=15) (by decide) ?_;refine gY (by exact P8 (S8 _ ‹_›) (by decide)) (by exact P7 ‹_› (by decide)) ?_;refine (?_:aO _ _ [_,_,_,_,_,_,_,_] _ _);refine ku ?_;refine uH 7 (nv (ab <<< (15*L.length)+(if 0<=ep then 2^(15*L.length+4+ep.toNat%f) else 0))) ?_ λK' j=>?_
 rotate_left
 ·refine ag (λe=>?_) (λe=>?_)
  ·refine bT (x:=15) (by decide) ?_;refine p_add ?_;refine jM (QL hf) e ?_;refine p_add ?_;refine cb (by have:=SK ep.toNat hf;show 15*L.length+4+ep.toNat%f<=100000;lia) ?_;refine bG ?_;refine p_add ?_;exact gK j (by rw [Qk e])
  ·exact eG j rfl (by rw [Qb e];rfl)
 refine (?_:aO _ _ [_,_,_,_,_,_,_,_] _ _);refine aR ?_;refine uH 7 (nv ((ab <<< (15*L.length)+(if 0<=ep then 2^(15*L.length+4+ep.toNat%f) else 0))+(if az=1 then 2^(15*L.length+4+f) else 0))) ?_ λK' j=>?_
 rotate_left
 ·refine ag (λe=>?_) (λe=>?_)
  ·have e:az=1:=e;refine bT (x:=15) (by decide) ?_;refine p_add ?_;refine p_add ?_;refine cb (by show 15*L.length+4+f<=100000;lia) ?_;refine bG ?_;refine p_add ?_;exact gK j (by rw [Qk e])
  ·exact eG j rfl (by rw [Qb (show ¬az=1 from e)];rfl)
 refine (?_:aO _ _ [_,_,_,_,_,_,_,_] _ _);refine (?_:b8 _ _ _ _);refine fM (by exact P8 ‹_› (by decide)) ?_;refine (?_:fH _ _ _ _ _ _);refine qC uk (λs=>decide (L.getD s 0≠0)) (λs=>2^(L.getD s 0*L.length+s)) (by exact P8 ‹_› (by decide)) (λj hj Q h=>?_) (λj hj _ Q h=>?_) ?_
 ·refine aU hL hj ?_;refine eD ?_;exact h
 ·refine aU hL hj ?_;have:=hm j;refine bT (by exact P7 ‹_› (by decide)) ?_;refine p_add ?_;have:L.getD j 0*L.length<=15*25:=Uc (by exact Qp ‹_›) hl;refine cb (by lia) ?_;exact h
 ·refine new_ (xE (by exact P8 ‹_› (by decide))) λb hb=>?_;refine zD (l:=(((List.range L.length).filter λs=>decide (L.getD s 0≠0)).map λs=>2^(L.getD s 0*L.length+s))) (AL ..) ?_;refine (?_:ar _ _ _ _ _);refine p_add ?_;refine (?_:dq _ _ _ _);exact gz H (Hp.ax hb) h
end
section
variable {s c k n sz v:Nat} {G:aE} {R:Rw} {p:Nat->Bool} {b:List Nat}
theorem iy {x y:Nat} (h:∀i,x.testBit i=true->y.testBit i=true->False):x ^^^ y=x+y:=by
 have h0:x &&& y=0:=cM λi=>by
  rw [RX,Qr]
  cases e1:x.testBit i<;>cases e2:y.testBit i<;>first | rfl | exact absurd (h i e1 e2) id
 have:=kM x y;rw [h0] at this;rw [tS x y h0,<- this];rfl
theorem bb {e i:Nat}:(2^e).testBit i=true↔i=e:=by
 rw [Rq,Qh];exact eq_comm
theorem sS {e:Nat}:∀{n:Nat},(xk sz p b n).testBit e=true->∃k,k<n/\e=b.getD k 0*sz+k
 | 0,h=>by rw [show xk sz p b 0=0 from rfl,Qr] at h;cases h
 | n+1,h=>by
  unfold xk at h;split at h
  ·rw [Qo,nZ] at h;by_cases z:(xk sz p b n).testBit e=true
   ·refine ao (sS z) λk h1 h2=>?_;exact ⟨k,QW h1,h2⟩
   ·have:(2^(b.getD n 0*sz+n)).testBit e=true:=Sl λy=>h ⟨λq=>absurd q z,λq=>absurd q y⟩;exact ⟨n,Qu n,bb.mp this⟩
  ·refine ao (sS h) λk h1 h2=>?_;exact ⟨k,QW h1,h2⟩
theorem ql {a a' i j:Nat} (hi:i<sz) (hj:j<sz) (h:a*sz+i=a'*sz+j):i=j:=by
 have h1:=congrArg (·%sz) h;simp only [Nat.add_mod,Nat.mul_mod_left,Rx,Tq hi,Tq hj] at h1;exact h1
theorem sT:xk sz p b (n+1)=if p (b.getD n 0) then xk sz p b n ^^^ 2^(b.getD n 0*sz+n) else xk sz p b n:=rfl
theorem qT:∀{n:Nat},n<=sz->xk sz p b n=(((List.range n).filter λs=>p (b.getD s 0)).map λs=>2^(b.getD s 0*sz+s)).sum
 | 0,_=>rfl
 | n+1,h=>by
  have ih:=qT (n:=n) (RV h);rw [List.range_succ,List.filter_append,Rd,List.sum_append_nat,<- ih,sT]
  cases e:p (b.getD n 0) with
  | true=>
   rw [Qk rfl,S7,e,Qk rfl,iy]
   ·rfl
   ·intro i h1 h2;refine ao (sS h1) λk k1 k2=>?_;have:=bb.mp h2;exact absurd (ql (by exact Q7 ‹_› ‹_›) ‹_› (k2.symm.trans this)) (QX k1)
  | false=>rw [Qb (by decide),S7,e,Qb (by decide)];rfl
end
def BG (G:aE):Prop:=G=mL\/G=kC\/G=mK
theorem tab {f:aE->Bool} (h1:f mL=true) (h2:f kC=true) (h3:f mK=true) {G:aE} (B:BG G):f G=true:=by
 rcases B with rfl | rfl | rfl<;>assumption
theorem BG.ok {G:aE} (B:BG G):cu G:=by
 rcases B with rfl | rfl | rfl
 ·exact JT
 ·exact JR
 ·exact JS
noncomputable def cQ (n:Nat) (f:Nat->Bool):Bool:=(List.range n).all f
theorem aK {n:Nat} {f:Nat->Bool} (h:cQ n f=true) {i:Nat} (hi:i<n):f i=true:=Qj.mp h i (Sh.mpr hi)
noncomputable def dQ (n m:Nat):List Nat:=(List.range n).filter λi=>m.testBit i
theorem eg {n m i:Nat}:i∈dQ n m↔i<n/\m.testBit i=true:=by
 unfold dQ;rw [Tx,Sh]
noncomputable def vq:List Nat->Nat
 | []=>0
 | t::l=>2^t ||| vq l
noncomputable def subs:List Nat->List Nat
 | []=>[0]
 | t::l=>subs l++ (subs l).map λm=>2^t ||| m
theorem q7 {i:Nat}:∀{l:List Nat},(vq l).testBit i=true↔i∈l
 | []=>by rw [show vq []=0 from rfl,Qr];simp
 | t::l=>by rw [show vq (t::l)=2^t ||| vq l from rfl,dT,q7,bb,Sw]
theorem pU {oc:Nat}:∀{l:List Nat},vq l &&& oc∈subs l
 | []=>by rw [show vq []=0 from rfl,Ta];exact Qt.mpr rfl
 | t::l=>by
  have ih:=pU (oc:=oc) (l:=l);rw [show vq (t::l)=2^t ||| vq l from rfl,Nat.and_or_distrib_right];unfold subs;by_cases h:oc.testBit t=true
  ·refine T8 _ (Se.mpr ⟨_,ih,?_⟩);congr 1
   exact cM λi=>by
    rw [QR,aC,bb];exact ⟨λe=>⟨e,e ▸ h⟩,λe=>e.1⟩
  ·refine Ua _ ?_
   rw [show 2^t &&& oc=0 from cM λi=>by
    rw [QR,aC,bb,Qr]
    exact ⟨λe=>absurd (e.1 ▸ e.2) h,λe=>nomatch e⟩,Nat.zero_or]
   exact ih
theorem vp {n m:Nat} (h:m<2^n):vq (dQ n m)=m:=cM λi=>by
 rw [QR,q7,eg];exact ⟨λe=>e.2,λe=>⟨dG h e,e⟩⟩
noncomputable def zv (G:aE):Bool:=cQ 8 λd=>cQ G.size λs=>(dQ G.size (aW G d s)).all λt=>decide (dirOf G s t=d) && (aW G (d ^^^ 2) t).testBit s
noncomputable def vV (G:aE) (d s m:Nat):Nat:=if m=0 then aW G d s else if grow d=true then aW G d s &&& (m ^^^ (m-1)) else ez (aW G d s) (Bp (m >>> 1))
noncomputable def zC (G:aE):Bool:=cQ 8 λd=>cQ G.size λs=>(subs (dQ G.size (aW G d s))).all λm=>(dQ G.size (aW G d s)).all λt=>(vV G d s m).testBit t == decide (aW G (d ^^^ 2) t &&& m=0)
theorem FP:zv mL=true:=by decide +kernel
theorem FN:zv kC=true:=by decide +kernel
theorem FO:zv mK=true:=by decide +kernel
theorem It:zC mL=true:=by decide +kernel
theorem Iq:zC kC=true:=by decide +kernel
theorem Ir:zC mK=true:=by decide +kernel
section
variable {d s t c k x oc:Nat} {G:aE} {R:Rw} {b:List Nat}
theorem lC (g:cu G) (h:(aW G d s).testBit t=true):t<G.size:=dG (g.rb d s) h
theorem gy (B:BG G) (hd:d<8) (hs:s<G.size) (h:(aW G d s).testBit t=true):dirOf G s t=d/\(aW G (d ^^^ 2) t).testBit s=true:=by
 have h1:=Qj.mp (aK (aK (tab (f:=zv) FP FN FO B) hd) hs) t (eg.mpr ⟨lC B.ok h,h⟩);rw [Qa] at h1;exact ⟨Qe h1.1,h1.2⟩
theorem p6 {m:Nat} (h:(vV G d s m).testBit t=true):(aW G d s).testBit t=true:=by
 unfold vV at h;split at h
 ·exact h
 ·split at h
  ·exact (aC.mp h).1
  ·exact (iG.mp h).1
theorem rA (B:BG G) (hd:d<8) (hs:s<G.size):(gV G d s oc).testBit t=true↔(aW G d s).testBit t=true/\(aW G d s &&& aW G (d ^^^ 2) t) &&& oc=0:=by
 have e:gV G d s oc=vV G d s (aW G d s &&& oc):=rfl
 have e2:(aW G d s &&& aW G (d ^^^ 2) t) &&& oc=aW G (d ^^^ 2) t &&& (aW G d s &&& oc):=by
  rw [Nat.and_comm (aW G d s),TM]
 rw [e,e2]
 have key:(aW G d s).testBit t=true->((vV G d s (aW G d s &&& oc)).testBit t=true↔aW G (d ^^^ 2) t &&& (aW G d s &&& oc)=0):=λh=>by
  have hm:aW G d s &&& oc∈subs (dQ G.size (aW G d s)):=by
   have:=pU (oc:=oc) (l:=dQ G.size (aW G d s));rw [vp (B.ok.rb d s)] at this;exact this
  have h1:=Qj.mp (Qj.mp (aK (aK (tab (f:=zC) It Iq Ir B) hd) hs) _ hm) t (eg.mpr ⟨lC B.ok h,h⟩);rw [Ru] at h1;rw [h1,Qh]
 exact ⟨λh=>⟨p6 h,(key (p6 h)).mp h⟩,λh=>(key h.1).mpr h.2⟩
theorem kq:∀{n d:Nat},eK G s t n d<d+n->(aW G (eK G s t n d) s).testBit t=true
 | 0,d,h=>absurd h (Q8 d)
 | n+1,d,h=>by
  unfold eK at h ⊢;by_cases e:(aW G d s).testBit t=true
  ·rw [Qk e];exact e
  ·rw [Qb e] at h ⊢;exact kq (by lia)
theorem jr (h:dirOf G s t<8):(aW G (dirOf G s t) s).testBit t=true:=kq (n:=8) (d:=0) h
theorem pv:dirOf G s t<=8:=(mr 8 0).2
theorem jZ (B:BG G) (h:dirOf G s t<8):t<G.size:=lC B.ok (jr h)
theorem iw (h:dirOf G s t<8):a7 G s t=aW G (dirOf G s t) s &&& aW G (dirOf G s t ^^^ 2) t:=by
 unfold a7;rw [Qb (by exact QX ‹_›)]
theorem rF (B:BG G) (hs:s<G.size) {a:Nat}:∀{n:Nat},a+n<=8->((iI G s oc a n).testBit t=true↔(a<=dirOf G s t/\dirOf G s t<a+n)/\a7 G s t &&& oc=0)
 | 0,_=>by
  rw [show iI G s oc a 0=0 from rfl,Qr];exact ⟨λe=>(nomatch e),λe=>absurd e.1 (by lia)⟩
 | n+1,h=>by
  rw [show iI G s oc a (n+1)=iI G s oc a n ||| gV G (a+n) s oc from rfl,dT,rF B hs (by exact Qp ‹_›),rA B ‹_› hs];constructor
  ·rintro (⟨h1,h2⟩ | ⟨h1,h2⟩)
   ·exact ⟨by lia,h2⟩
   ·have e:=(gy B ‹_› hs h1).1;rw [iw (by lia),e];exact ⟨by lia,h2⟩
  ·rintro ⟨h1,h2⟩;by_cases e:dirOf G s t=a+n
   ·have h8:dirOf G s t<8:=by lia
    rw [iw h8] at h2;have h3:=jr h8;rw [e] at h2 h3;exact .inr ⟨h3,h2⟩
   ·exact .inl ⟨by lia,h2⟩
theorem lM (B:BG G) (hs:s<G.size):(fb G s oc).testBit t=true↔dirOf G s t<4/\a7 G s t &&& oc=0:=by
 unfold fb;rw [rF B hs (by decide)];exact ⟨λh=>⟨by lia,h.2⟩,λh=>⟨by lia,h.2⟩⟩
theorem mA (B:BG G) (hs:s<G.size):(fI G s oc).testBit t=true↔(4<=dirOf G s t/\dirOf G s t<8)/\a7 G s t &&& oc=0:=by
 unfold fI;rw [rF B hs (by decide)]
theorem k7 (B:BG G) (hs:s<G.size) (h:dirOf G s t<8):dirOf G t s=dirOf G s t ^^^ 2:=by
 have:=(gy B h hs (jr h)).2;exact (gy B (zb h) (jZ B h) this).1
theorem Jm (d:Nat):(d ^^^ 2) ^^^ 2=d:=by rw [Rp,Nat.xor_self,RQ]
theorem iu (B:BG G) (hs:s<G.size) (ht:t<G.size):a7 G s t=a7 G t s:=by
 by_cases h:dirOf G s t<8
 ·have e:=k7 B hs h;rw [iw h,iw (by rw [e];exact zb h),e,Jm,Nat.and_comm]
 ·have h8:dirOf G s t=8:=by have:=pv (G:=G) (s:=s) (t:=t);exact RH ‹_› (SA ‹_›)
  have h9:dirOf G t s=8:=by
   by_cases z:dirOf G t s<8
   ·have:=k7 B ht z;have:=zb z;lia
   ·have:=pv (G:=G) (s:=t) (t:=s);exact RH ‹_› (SA ‹_›)
  unfold a7;rw [Qk h8,Qk h9]
theorem d4 (h:k<8):(k ^^^ 2<4↔k<4):=by
 have:k=0\/k=1\/k=2\/k=3\/k=4\/k=5\/k=6\/k=7:=by exact JY _ ‹_›
 rcases this with rfl | rfl | rfl | rfl | rfl | rfl | rfl | rfl<;>decide
noncomputable def rel (G:aE) (c k x s:Nat):Bool:=if k=1 then (ct G c x).testBit s else if k=2 then (G.a8.getD x 0).testBit s else if k=6 then (G.cz.getD x 0).testBit s else if k=3 then decide (4<=dirOf G x s/\dirOf G x s<8) else if k=4 then decide (dirOf G x s<4) else decide (k=5/\dirOf G x s<8)
noncomputable def vD (G:aE):Bool:=cQ G.size λx=>decide (G.a8.getD x 0<2^G.size/\G.cz.getD x 0<2^G.size/\ct G 0 x<2^G.size/\ct G 1 x<2^G.size) && cQ G.size λs=>
 (G.a8.getD x 0).testBit s == (G.a8.getD s 0).testBit x && (G.cz.getD x 0).testBit s == (G.cz.getD s 0).testBit x && (ct G 0 x).testBit s == (ct G 1 s).testBit x &&
 (!((G.a8.getD x 0).testBit s || (G.cz.getD x 0).testBit s || (ct G 0 x).testBit s || (ct G 1 x).testBit s) || decide (a7 G x s=0))
theorem Bw:vD mL=true:=by decide +kernel
theorem Bu:vD kC=true:=by decide +kernel
theorem Bv:vD mK=true:=by decide +kernel
def oH:Prop:=∀(B:BG G) (hx:x<G.size) (hs:s<G.size),((G.a8.getD x 0).testBit s=(G.a8.getD s 0).testBit x/\(G.cz.getD x 0).testBit s=(G.cz.getD s 0).testBit x/\(ct G 0 x).testBit s=(ct G 1 s).testBit x)/\
 ((G.a8.getD x 0).testBit s=true\/(G.cz.getD x 0).testBit s=true\/(ct G 0 x).testBit s=true\/(ct G 1 x).testBit s=true->a7 G x s=0)
theorem iM:@oH s x G:=au (S:=λx:Nat×Nat×aE=>@oH x.1 x.2.1 x.2.2) (x:=(0,0,bO)) (by
 refine (?_:∀s x G,@oH s x G) _ _ _;intro s x G B hx hs;have h:=aK (tab (f:=vD) Bw Bu Bv B) hx;rw [Qa] at h;have h:=aK h.2 hs;rw [Qa,Qa,Qa,Ru,Ru,Ru] at h;refine aD h ?_;rintro ⟨⟨h1,h2⟩,h3⟩ h4;refine ⟨⟨h1,h2,h3⟩,λe=>?_⟩;rw [Q3,QI,Qh] at h4;rcases h4 with h4 | h4
 ·rw [Tu,Tu,Tu] at h4;refine aD h4 ?_;rintro ⟨⟨a1,a2⟩,a3⟩ a4;rw [a1,a2,a3,a4] at e
  rcases e with e | e | e | e<;>cases e
 ·exact h4) (s,x,G)
theorem Ci (B:BG G) (hx:x<G.size):G.a8.getD x 0<2^G.size/\G.cz.getD x 0<2^G.size/\ct G 0 x<2^G.size/\ct G 1 x<2^G.size:=by
 have h:=aK (tab (f:=vD) Bw Bu Bv B) hx;rw [Qa] at h;exact Qe h.1
def oG:Prop:=∀(B:BG G) (hc:c<2) (hx:x<G.size) (h:rel G c k x s=true),s<G.size
theorem rz:@oG s c k x G:=au (S:=λx:(Nat×Nat×Nat×Nat)×aE=>@oG x.1.1 x.1.2.1 x.1.2.2.1 x.1.2.2.2 x.2) (x:=((0,0,0,0),bO)) (by
 refine (?_:∀s c k x G,@oG s c k x G) _ _ _ _ _;intro s c k x G B hc hx h;have t:=Ci B hx;unfold rel at h;split at h
 ·match c,hc with
  | 0,_=>exact dG t.2.2.1 h
  | 1,_=>exact dG t.2.2.2 h
 split at h
 ·exact dG t.1 h
 split at h
 ·exact dG t.2.1 h
 split at h
 ·exact jZ B (Qe h).2
 split at h
 ·exact jZ B (P7 (Qe h) (by decide))
 ·exact jZ B (Qe h).2) ((s,c,k,x),G)
theorem fz (B:BG G) (hc:c<2) (hx:x<G.size) (hk:k=1\/k=2\/k=6) (h:rel G c k x s=true):a7 G x s=0:=by
 have hs:=rz B hc hx h;refine (iM B hx hs).2 ?_;unfold rel at h;rcases hk with rfl | rfl | rfl
 ·rw [Qk rfl] at h
  match c,hc with
  | 0,_=>exact .inr (.inr (.inl h))
  | 1,_=>exact .inr (.inr (.inr h))
 ·exact .inl h
 ·exact .inr (.inl h)
def iO:Prop:=∀(B:BG G) (hc:c<2) (hx:x<G.size) (h1:1<=k) (h6:k<=6),(oM G c k x oc).testBit s=true↔rel G c k x s=true/\a7 G x s &&& oc=0
theorem uw:@iO s c k x oc G:=au (S:=λx:(Nat×Nat×Nat×Nat)×(Nat×aE)=>@iO x.1.1 x.1.2.1 x.1.2.2.1 x.1.2.2.2 x.2.1 x.2.2) (x:=((0,0,0,0),(0,bO))) (by
 refine (?_:∀s c k x oc G,@iO s c k x oc G) _ _ _ _ _ _;intro s c k x oc G B hc hx h1 h6;have step:k=1\/k=2\/k=6->(rel G c k x s=true↔rel G c k x s=true/\a7 G x s &&& oc=0):=λhk=>⟨λh=>⟨h,by rw [fz B hc hx hk h,Ta]⟩,λh=>h.1⟩
 have:k=1\/k=2\/k=6\/k=3\/k=4\/k=5:=by lia
 rcases this with rfl | rfl | rfl | rfl | rfl | rfl
 ·exact step (.inl rfl)
 ·exact step (.inr (.inl rfl))
 ·exact step (.inr (.inr rfl))
 ·show (fI G x oc).testBit s=true↔decide (4<=dirOf G x s/\dirOf G x s<8)=true/\_;rw [mA B hx,Qh]
 ·show (fb G x oc).testBit s=true↔decide (dirOf G x s<4)=true/\_;rw [lM B hx,Qh]
 ·show (fb G x oc ||| fI G x oc).testBit s=true↔decide (5=5/\dirOf G x s<8)=true/\_;rw [dT,lM B hx,mA B hx,Qh];constructor
  ·rintro (⟨h,e⟩ | ⟨h,e⟩)<;>exact ⟨by lia,e⟩
  ·rintro ⟨h,e⟩;by_cases z:dirOf G x s<4
   ·exact .inl ⟨z,e⟩
   ·exact .inr ⟨by lia,e⟩) ((s,c,k,x),(oc,G))
def Mf (G:aE) (b:List Nat) (c s oc x:Nat):Prop:=b.getD x 0≠0/\b.getD x 0 / 8=c/\rel G c (b.getD x 0%8) x s=true/\a7 G x s &&& oc=0
def Jg (G:aE) (b:List Nat) (c s oc:Nat):Prop:=∃x,Mf G b c s oc x
theorem oF (k3:k=3\/k=4\/k=5):rel G c k x s=true↔(4<=dirOf G x s/\dirOf G x s<8/\(k=3\/k=5))\/(dirOf G x s<4/\(k=4\/k=5)):=by
 rcases k3 with rfl | rfl | rfl
 ·show decide (4<=dirOf G x s/\dirOf G x s<8)=true↔_;rw [Qh];lia
 ·show decide (dirOf G x s<4)=true↔_;rw [Qh];lia
 ·show decide (5=5/\dirOf G x s<8)=true↔_;rw [Qh];exact ⟨λh=>(Qw (dirOf G x s) 4).elim (λz=>.inr ⟨z,.inr rfl⟩) λz=>.inl ⟨z,h.2,.inr rfl⟩,λh=>h.elim (λz=>⟨rfl,z.2.1⟩) λz=>⟨rfl,Q7 z.1 (by decide)⟩⟩
def jT:Prop:=∀(B:BG G) (g:ba G R) (hs:s<G.size),(jl G R s oc).testBit x=true↔bd R x≠0/\(bd R x%8=3\/bd R x%8=4\/bd R x%8=5)/\rel G c (bd R x%8) x s=true/\a7 G x s &&& oc=0
theorem jk:@jT s c x oc G R:=au (S:=λx:(Nat×Nat×Nat×Nat)×(aE×Rw)=>@jT x.1.1 x.1.2.1 x.1.2.2.1 x.1.2.2.2 x.2.1 x.2.2) (x:=((0,0,0,0),(bO,fG))) (by
 refine (?_:∀s c x oc G R,@jT s c x oc G R) _ _ _ _ _ _;intro s c x oc G R B g hs;unfold jl lD lF;rw [dT,aC,aC,dT,dT,g.kb,g.kb,g.kb,lM B hs,mA B hs];by_cases hx:bd R x≠0
 ·have hxs:=g.lt hx;rw [iu B hs hxs]
  have hd:(dirOf G s x<4↔dirOf G x s<4)/\(4<=dirOf G s x/\dirOf G s x<8↔4<=dirOf G x s/\dirOf G x s<8):=by
   by_cases h:dirOf G s x<8
   ·have e:=k7 B hs h;have a:=d4 h;have b:=zb h;rw [e];exact ⟨a.symm,by rw [<- Rv,<- Rv,a];exact ⟨λz=>⟨z.1,b⟩,λz=>⟨z.1,h⟩⟩⟩
   ·have:¬dirOf G x s<8:=λz=>by
     have e:=k7 B hxs z;have:=zb z;lia
    lia
  rw [hd.1,hd.2];constructor
  ·rintro (⟨⟨h1,h2⟩,h3⟩ | ⟨⟨h1,h2⟩,h3⟩)
   ·have k3:bd R x%8=3\/bd R x%8=4\/bd R x%8=5:=by lia
    exact ⟨hx,k3,(oF k3).mpr (.inr ⟨h1,by lia⟩),h2⟩
   ·have k3:bd R x%8=3\/bd R x%8=4\/bd R x%8=5:=by lia
    exact ⟨hx,k3,(oF k3).mpr (.inl ⟨h1.1,h1.2,by lia⟩),h2⟩
  ·rintro ⟨_,k3,h1,h2⟩;rcases (oF k3).mp h1 with ⟨a1,a2,a3⟩ | ⟨a1,a3⟩
   ·exact .inr ⟨⟨⟨a1,a2⟩,h2⟩,by lia⟩
   ·exact .inl ⟨⟨a1,h2⟩,by lia⟩
 ·exact ⟨λh=>by lia,λh=>absurd h.1 hx⟩) ((s,c,x,oc),(G,R))
def jI:Prop:=∀(B:BG G) (g:ba G R) (hc:c<2) (hs:s<G.size),(ki G R s c).testBit x=true↔bd R x≠0/\bd R x / 8=c/\(bd R x%8=1\/bd R x%8=2\/bd R x%8=6)/\rel G c (bd R x%8) x s=true
theorem ja:@jI s c x G R:=au (S:=λx:(Nat×Nat×Nat×aE)×Rw=>@jI x.1.1 x.1.2.1 x.1.2.2.1 x.1.2.2.2 x.2) (x:=((0,0,0,bO),fG)) (by
 refine (?_:∀s c x G R,@jI s c x G R) _ _ _ _ _;intro s c x G R B g hc hs;unfold ki wu;rw [dT,aC,aC,aC,dT,aC,aC,g.kb,g.kb,g.kb,g.sb];by_cases hx:bd R x≠0
 ·have hxs:=g.lt hx;have t:=(iM B hxs hs).1;have t2:=(iM B hs hxs).1;rw [<- t.1,<- t.2.1]
  have tp:(ct G (1-c) s).testBit x=(ct G c x).testBit s:=by
   match c,hc with
   | 0,_=>exact t.2.2.symm
   | 1,_=>exact t2.2.2
  rw [tp];constructor
  ·rintro (⟨⟨h1,h2⟩,h3⟩ | ⟨⟨h1,h2⟩ | ⟨h1,h2⟩,h3⟩)
   ·exact ⟨hx,h3.2,.inl h2.2,by rw [h2.2];exact h1⟩
   ·exact ⟨hx,h3.2,.inr (.inl h2.2),by rw [h2.2];exact h1⟩
   ·exact ⟨hx,h3.2,.inr (.inr h2.2),by rw [h2.2];exact h1⟩
  ·rintro ⟨_,h2,h3,h4⟩
   rcases h3 with h3 | h3 | h3<;>rw [h3] at h4
   ·exact .inl ⟨⟨h4,hx,h3⟩,hx,h2⟩
   ·exact .inr ⟨.inl ⟨h4,hx,h3⟩,hx,h2⟩
   ·exact .inr ⟨.inr ⟨h4,hx,h3⟩,hx,h2⟩
 ·exact ⟨λh=>by lia,λh=>absurd h.1 hx⟩) ((s,c,x,G),R)
theorem ba.k6 (g:ba G R) (h:bd R x≠0):1<=bd R x%8/\bd R x%8<=6/\bd R x / 8<2:=by
 have m:=g.mn x h;exact ⟨m.2.1,m.2.2,RC (QW m.1)⟩
def mD:Prop:=∀(B:BG G) (g:ba G R) (hc:c<2) (hs:s<G.size),(ff G R s oc &&& Sd R c).testBit x=true↔Mf G R.ae c s oc x
theorem pL:@mD s c x oc G R:=au (S:=λx:(Nat×Nat×Nat×Nat)×(aE×Rw)=>@mD x.1.1 x.1.2.1 x.1.2.2.1 x.1.2.2.2 x.2.1 x.2.2) (x:=((0,0,0,0),(bO,fG))) (by
 refine (?_:∀s c x oc G R,@mD s c x oc G R) _ _ _ _ _ _;intro s c x oc G R B g hc hs;unfold ff Mf;rw [aC,dT,dT,ja B g (by decide) hs,ja B g (by decide) hs,jk (c:=c) B g hs,g.sb];constructor
 ·rintro ⟨(⟨h1,h2,h3,h4⟩ | ⟨h1,h2,h3,h4⟩) | ⟨h1,h3,h4,h5⟩,hx,h6⟩
  ·have:c=0:=by lia
   subst this;exact ⟨hx,h6,h4,by rw [fz B hc (g.lt hx) h3 h4,Ta]⟩
  ·have:c=1:=by lia
   subst this;exact ⟨hx,h6,h4,by rw [fz B hc (g.lt hx) h3 h4,Ta]⟩
  ·exact ⟨hx,h6,h4,h5⟩
 ·rintro ⟨h1,h2,h3,h4⟩;refine ⟨?_,h1,h2⟩;have k:=g.k6 h1;by_cases z:bd R x%8=3\/bd R x%8=4\/bd R x%8=5
  ·exact .inr ⟨h1,z,h3,h4⟩
  ·rcases fp c hc with rfl | rfl
   ·exact .inl (.inl ⟨h1,h2,J5 k.1 k.2.1 z,h3⟩)
   ·exact .inl (.inr ⟨h1,h2,J5 k.1 k.2.1 z,h3⟩)) ((s,c,x,oc),(G,R))
theorem g6 {n:Nat}:n≠0↔∃i,n.testBit i=true:=by
 constructor
 ·intro h;refine Classical.byContradiction λz=>h (cM λi=>?_);rw [Qr];exact gg λe=>z ⟨i,e⟩
 ·rintro ⟨i,h⟩ rfl;rw [Qr] at h;cases h
theorem jU (B:BG G) (g:ba G R) (hc:c<2) (hs:s<G.size):eR G R s c oc=true↔Jg G R.ae c s oc:=by
 have hl:(fb G s oc &&& (lD R &&& Sd R c)≠0\/fI G s oc &&& (lF R &&& Sd R c)≠0)↔jl G R s oc &&& Sd R c≠0:=by
  unfold jl;rw [Nat.and_or_distrib_right,TM,TM,Ne,Ne,Ne,Nat.or_eq_zero_iff];exact Classical.not_and_iff_not_or_not.symm
 unfold eR;rw [Qh,hl,g6,g6];constructor
 ·rintro (⟨x,h⟩ | ⟨x,h⟩)
  ·refine rX ((ja B g hc hs).mp h) λh1 h2 h3 h4=>?_;exact ⟨x,h1,h2,h4,by rw [fz B hc (g.lt h1) h3 h4,Ta]⟩
  ·rw [aC,jk (c:=c) B g hs,g.sb] at h;refine dJ h ?_;rintro ⟨h1,_,h3,h4⟩ _ h5;exact ⟨x,h1,h5,h3,h4⟩
 ·rintro ⟨x,h1,h2,h3,h4⟩;have k:=g.k6 h1;by_cases z:bd R x%8=3\/bd R x%8=4\/bd R x%8=5
  ·refine .inr ⟨x,?_⟩;rw [aC,jk (c:=c) B g hs,g.sb];exact ⟨⟨h1,z,h3,h4⟩,h1,h2⟩
  ·exact .inl ⟨x,(ja B g hc hs).mpr ⟨h1,h2,J5 k.1 k.2.1 z,h3⟩⟩
end
noncomputable def sZ (G:aE):Bool:=cQ G.size λo=>cQ G.size λt=>
 (!decide (t=o+G.aa) || decide (a7 G o t=0)) && (!decide (t=o+2*G.aa) || decide (a7 G o t=2^(o+G.aa)))
noncomputable def zz (G:aE):Bool:=cQ 2 λc=>cQ G.size λo=>cQ G.size λt=>
 !decide ((¬(G.fm.getD (G.aa-1) 0).testBit o=true/\(c=0/\t=o+G.aa+1\/c=1/\t+G.aa=o+1))\/(¬(G.fm.getD 0 0).testBit o=true/\(c=0/\t+1=o+G.aa\/c=1/\t+G.aa+1=o))) || ((ct G c o).testBit t && decide (t≠o+2*G.aa/\o≠t+2*G.aa))
noncomputable def s8 (G:aE):Bool:=cQ 8 λd=>cQ G.size λk=>(dQ G.size (aW G d k)).all λx=>(dQ G.size (a7 G k x)).all λo=>(dQ G.size (aW G d o ||| aW G (d ^^^ 2) o)).all λt=>
 (a7 G k x).testBit t || decide (t=x\/t=k) || (a7 G o t).testBit x || (a7 G o t).testBit k
noncomputable def pT (G:aE):Bool:=(dQ G.size (eY G 0)).all (λo=>decide (o / G.aa=1)) && (dQ G.size (eY G 1)).all λo=>decide (o / G.aa=G.bE-2)
noncomputable def sY (G:aE):Bool:=cQ 8 λd=>cQ G.size λs=>!(aW G d s).testBit s
theorem C0:sZ mL=true:=by decide +kernel
theorem CY:sZ kC=true:=by decide +kernel
theorem CZ:sZ mK=true:=by decide +kernel
theorem Hm:zz mL=true:=by decide +kernel
theorem Hk:zz kC=true:=by decide +kernel
theorem Hl:zz mK=true:=by decide +kernel
theorem Dt:s8 mL=true:=by decide +kernel
theorem Dr:s8 kC=true:=by decide +kernel
theorem Ds:s8 mK=true:=by decide +kernel
theorem CI:pT mL=true/\eY mL 0<2^mL.size/\eY mL 1<2^mL.size:=by decide +kernel
theorem CG:pT kC=true/\eY kC 0<2^kC.size/\eY kC 1<2^kC.size:=by decide +kernel
theorem CH:pT mK=true/\eY mK 0<2^mK.size/\eY mK 1<2^mK.size:=by decide +kernel
theorem Cz:sY mL=true:=by decide +kernel
theorem Cx:sY kC=true:=by decide +kernel
theorem Cy:sY mK=true:=by decide +kernel
section
variable {d s t c k k2 x o sp f wh rf rt oc e i:Nat} {G:aE} {R:Rw} {b:List Nat}
theorem kR (B:BG G) (h:t<G.size):(t=o+G.aa->a7 G o t=0)/\(t=o+2*G.aa->a7 G o t=2^(o+G.aa)):=by
 rcases Qw o G.size with q | q
 ·have:=aK (aK (tab (f:=sZ) C0 CY CZ B) q) h;rw [Qa,Q3,Q3,QI,QI,Qh,Qh,decide_eq_false_iff_not,decide_eq_false_iff_not] at this;exact ⟨λe=>this.1.resolve_left (not_not_intro e),λe=>this.2.resolve_left (not_not_intro e)⟩
 ·exact ⟨λe=>by lia,λe=>by lia⟩
theorem Ed (B:BG G) (hc:c<2) (ho:o<G.size) (ht:t<G.size) (h:sP G c o t):(ct G c o).testBit t=true/\t≠o+2*G.aa/\o≠t+2*G.aa:=by
 have:=aK (aK (aK (tab (f:=zz) Hm Hk Hl B) hc) ho) ht;rw [Q3,QI,decide_eq_false_iff_not,Qa,Qh] at this;exact this.resolve_left (not_not_intro h)
theorem zO (B:BG G) (hc:c<2) (h:(eY G c).testBit o=true):(c=0->o / G.aa=1)/\(c=1->o / G.aa=G.bE-2):=by
 have hb:pT G=true/\eY G 0<2^G.size/\eY G 1<2^G.size:=by
  rcases B with rfl | rfl | rfl
  ·exact CI
  ·exact CG
  ·exact CH
 refine dJ hb λhb h0 h1=>?_;rw [pT,Qa] at hb;rcases fp c hc with rfl | rfl
 ·exact ⟨λ_=>Qe (Qj.mp hb.1 o (eg.mpr ⟨dG h0 h,h⟩)),λe=>nomatch e⟩
 ·exact ⟨λe=>(nomatch e),λ_=>Qe (Qj.mp hb.2 o (eg.mpr ⟨dG h1 h,h⟩))⟩
theorem qi (B:BG G) (hd:d<8):¬(aW G d s).testBit s=true:=λh=>by
 have:=aK (aK (tab (f:=sY) Cz Cx Cy B) hd) (lC B.ok h);rw [h] at this;cases this
theorem sG (h:(a7 G s t).testBit x=true):dirOf G s t<8:=by
 by_cases z:dirOf G s t=8
 ·unfold a7 at h;rw [Qk z,Qr] at h;cases h
 ·have:=pv (G:=G) (s:=s) (t:=t);exact QQ ‹_› ‹_›
theorem qI (h:(a7 G s t).testBit x=true):(aW G (dirOf G s t) s).testBit x=true/\(aW G (dirOf G s t ^^^ 2) t).testBit x=true:=by
 rw [iw (sG h)] at h;exact aC.mp h
theorem t9 (B:BG G):¬(a7 G s t).testBit t=true:=λh=>qi B (zb (sG h)) (qI h).2
def l8:Prop:=∀(B:BG G) (hk:k<G.size) (h:(a7 G k x).testBit o=true) (hl:(fV G o t).testBit k=true),(a7 G k x).testBit t=true\/t=x\/t=k\/(a7 G o t).testBit x=true\/(a7 G o t).testBit k=true
theorem Aq:@l8 t k x o G:=au (S:=λx:(Nat×Nat×Nat×Nat)×aE=>@l8 x.1.1 x.1.2.1 x.1.2.2.1 x.1.2.2.2 x.2) (x:=((0,0,0,0),bO)) (by
 refine (?_:∀t k x o G,@l8 t k x o G) _ _ _ _ _;intro t k x o G B hk h hl;have h8:=sG h;have ⟨h1,h2⟩:=qI h;have ho:=lC B.ok h1;have e1:=gy B h8 hk h1
 have hd:dirOf G o t<8:=by
  by_cases z:dirOf G o t=8
  ·unfold fV at hl;rw [Qk z,Qr] at hl;cases hl
  ·have:=pv (G:=G) (s:=o) (t:=t);exact QQ ‹_› ‹_›
 have ht:=jr hd;have hok:dirOf G o k=dirOf G k x ^^^ 2:=(gy B (zb h8) ho e1.2).1
 have ht2:(aW G (dirOf G k x) o ||| aW G (dirOf G k x ^^^ 2) o).testBit t=true:=by
  unfold fV at hl;rw [Qb (by exact QX ‹_›),dT,dT,bb] at hl;rw [dT];rcases hl with (hl | hl) | hl
  ·have:=(gy B hd ho hl).1;rw [hok] at this;rw [this];exact .inr ht
  ·have:=(gy B (zb hd) ho hl).1;rw [hok] at this
   have e:dirOf G k x=dirOf G o t:=by rw [<- Jm (dirOf G k x),this,Jm]
   rw [e];exact .inl ht
  ·subst hl;exact absurd h1 (qi B h8)
 have hx:x∈dQ G.size (aW G (dirOf G k x) k):=eg.mpr ⟨jZ B h8,jr h8⟩;have:=Qj.mp (Qj.mp (Qj.mp (aK (aK (tab (f:=s8) Dt Dr Ds B) h8) hk) x hx) o (eg.mpr ⟨ho,h⟩)) t (eg.mpr ⟨jZ B hd,ht2⟩);rw [Q3,Q3,Q3,Qh] at this;rcases this with ((h | h) | h) | h
 ·exact .inl h
 ·exact .inr (h.elim .inl λh=>.inr (.inl h))
 ·exact .inr (.inr (.inr (.inl h)))
 ·exact .inr (.inr (.inr (.inr h)))) ((t,k,x,o),G)
structure Mo (G:aE) (R:Rw) (k o t sp f:Nat):Prop where
 ho:o<G.size
 ht:t<G.size
 s4:sp<4
 f4:f<4
 b0:bd R o≠0
 bs:bd R o / 8=R.af
 nt:bd R t≠0->bd R t / 8≠R.af
 way:sp≠3->a7 G o t &&& eO R=0
 hit:bd R t≠0->rel G R.af (bd R o%8) o t=true
 pr:sp=1->bd R o%8=1
 f0:sp≠1->f=0
 ep:sp=2->R.ep=t/\bd R o%8=1/\(ct G (1-R.af) t).testBit o=true
 ca:sp=3->∃i rf rt,i / 2=R.af/\kD G R i o t rf rt
 ck:eR G R k (1-R.af) (eO R)=true->o≠k->sp≠2->∃s,ff G R k (eO R) &&& Sd R (1-R.af)=2^s/\(2^s ||| a7 G k s).testBit t=true
 d2:sp≠2->bd R o%8=1->(t=o+2*G.aa->R.af=0/\sp=0/\bd R t=0/\bd R (o+G.aa)=0/\(o+G.aa) / G.aa=2)/\(o=t+2*G.aa->R.af=1/\sp=0/\bd R t=0/\bd R (t+G.aa)=0/\(t+G.aa) / G.aa=G.bE-3)
structure Kg (b:List Nat) (c k:Nat):Prop where
 at_:b.getD k 0=c*8+6
 un:∀s,b.getD s 0=c*8+6->s=k
structure Pos (G:aE) (R:Rw) (k k2:Nat):Prop where
 B:BG G
 g:ba G R
 c2:R.af<2
 je:R.ab<16
 kg:Kg R.ae R.af k
 ke:Kg R.ae (1-R.af) k2
 sf:¬Jg G R.ae R.af k2 (eO R)
 rt:∀i,R.ab.testBit i=true->∃kf kt rf rt,G.bt.getD i none=some (kf,kt,rf,rt)/\bd R kf=i / 2*8+6/\bd R rf=i / 2*8+4
 ep:R.ep=-1\/∃e:Nat,R.ep=e/\G.aa<=e/\e+G.aa<G.size/\bd R e=0/\bd R (ij G R e)=(1-R.af)*8+1/\e / G.aa=if R.af=1 then 2 else G.bE-3
theorem cy (g:ba G R):(eO R).testBit s=true↔bd R s≠0:=by
 unfold eO;rw [dT,g.sb,g.sb];constructor
 ·rintro (h | h)<;>exact h.1
 ·intro h;have:=(g.k6 h).2.2
  have:bd R s / 8=0\/bd R s / 8=1:=by exact fp _ ‹_›
  exact this.elim (λz=>.inl ⟨h,z⟩) λz=>.inr ⟨h,z⟩
theorem j7 {x y:Nat}:x &&& y=0↔∀i,x.testBit i=true->y.testBit i=true->False:=by
 constructor
 ·intro h i h1 h2;have:=(aC (x:=x) (y:=y) (i:=i)).mpr ⟨h1,h2⟩;rw [h,Qr] at this;cases this
 ·intro h
  exact cM λi=>by
   rw [Qr];exact gg λe=>h i (aC.mp e).1 (aC.mp e).2
theorem Pos.ok (P:Pos G R k k2):dR G R:=P.g.ok P.c2 P.je (by
 rcases P.ep with h | ⟨e,h,h1,h2,_⟩
 ·exact .inl h
 ·exact .inr (by lia))
theorem Pos.cz (P:Pos G R k k2):dj G R R.af k:=by
 have h:=P.kg.at_
 have hk:bd R k≠0:=by show R.ae.getD k 0≠0;exact rI ‹_›
 refine ⟨cM λi=>?_,P.g.lt hk⟩;rw [QR,aC,bb,P.g.sb,P.g.kb];constructor
 ·rintro ⟨⟨h0,h1⟩,_,h2⟩;exact P.kg.un i (by show bd R i=_;exact mk8 ‹_› ‹_›)
 ·rintro rfl;have:bd R i=R.af*8+6:=h;exact ⟨⟨hk,by exact Ku ‹_› (by rfl)⟩,hk,by exact MG ‹_› (by rfl)⟩
theorem Mo.wo {kd tg:Nat} (P:Pos G R k k2) (h1:2<=kd) (h6:kd<=6) (hm:yT G R kd tg s) (hn:∀t,tg.testBit t=true->bd R t≠0->bd R t / 8≠R.af) (hl:tg<2^G.size)
 (ck:∀o t,(Sd R R.af &&& K R kd).testBit o=true->tg.testBit t=true->eR G R k (1-R.af) (eO R)=true->o≠k->∃s,ff G R k (eO R) &&& Sd R (1-R.af)=2^s/\(2^s ||| a7 G k s).testBit t=true):∃o t,s=pk o t 0 0/\Mo G R k o t 0 0:=by
 refine ew hm ?_;rintro o t rfl h2 h3 h4;have h2':=h2;rw [aC,P.g.sb,P.g.kb] at h2;refine dJ h2 ?_;rintro ⟨b0,bs⟩ _ bk;have ho:=P.g.lt b0;have ht:=dG hl h4;have:=(uw P.B P.c2 ho (by exact Qp ‹_›) h6).mp h3;exact ⟨o,t,rfl,ho,ht,by decide,by decide,b0,bs,hn t h4,λ_=>this.2,λ_=>by rw [bk];exact this.1,λe=>absurd e (by decide),λ_=>rfl,λe=>absurd e (by decide),λe=>absurd e (by decide),λa b _=>ck o t h2' h4 a b,λ_ e=>absurd (bk.symm.trans e) (QL h1)⟩
def mH {tg:Nat}:Prop:=∀(P:Pos G R k k2) (hm:gr G R tg s) (ck:∀o t,tg.testBit t=true->eR G R k (1-R.af) (eO R)=true->o≠k->∃s,ff G R k (eO R) &&& Sd R (1-R.af)=2^s/\(2^s ||| a7 G k s).testBit t=true),∃o t sp f,s=pk o t sp f/\Mo G R k o t sp f
theorem Mo.fJ {tg:Nat}:@mH s k k2 G R tg:=au (S:=λx:(Nat×Nat×Nat×aE)×(Rw×Nat)=>@mH x.1.1 x.1.2.1 x.1.2.2.1 x.1.2.2.2 x.2.1 x.2.2) (x:=((0,0,0,bO),(fG,0))) (by
 refine (?_:∀s k k2 G R tg,@mH s k k2 G R tg) _ _ _ _ _ _;intro s k k2 G R tg P hm ck
 have pw:∀{o},fT R o->(bd R o≠0/\bd R o / 8=R.af)/\bd R o%8=1:=λh=>by
  unfold fT at h;rw [aC,P.g.sb,P.g.kb] at h;exact ⟨h.1,h.2.2⟩
 have f2:=P.B.ok.f0;rcases hm with ⟨o,t,sp,f,rfl,hf,hs,hg,hp,hn,ht,htg⟩ | ⟨o,p,t,rfl,hg,hp,hnp,hn,ht,hpl,htg⟩ | ⟨o,t,sp,f,rfl,hf,hs,hg,hp,hn,htg⟩
 ·refine aD (pw hp) ?_;rintro ⟨b0,bs⟩ b1;have ho:=P.g.lt b0;have hn:bd R t=0:=QD.mp λz=>hn ((cy P.g).mpr z)
  have hb:a7 G o t=0:=by
   rcases hg with ⟨_,hg⟩ | ⟨_,hg⟩
   ·exact (kR P.B ht).1 hg
   ·rw [iu P.B ho ht];exact (kR P.B ho).1 hg
  exact ⟨o,t,sp,f,rfl,ho,ht,by lia,hf,b0,bs,λz=>absurd hn z,λ_=>by rw [hb,Ta],λz=>absurd hn z,λ_=>b1,λe=>by lia,λe=>by lia,λe=>by lia,λa b _=>ck o t htg a b,λ_ _=>⟨λe=>by lia,λe=>by lia⟩⟩
 ·refine aD hp λhp hsm=>?_;have hrk:=zO P.B P.c2 hsm;refine aD (pw hp) ?_;rintro ⟨b0,bs⟩ b1;have ho:=P.g.lt b0;have hn:bd R t=0:=QD.mp λz=>hn ((cy P.g).mpr z);have hnp':bd R p=0:=QD.mp λz=>hnp ((cy P.g).mpr z)
  have hb:a7 G o t=2^p:=by
   rcases hg with ⟨_,hg,hg2⟩ | ⟨_,hg,hg2⟩
   ·rw [(kR P.B ht).2 (by lia)];congr 1;exact Eq.symm ‹_›
   ·rw [iu P.B ho ht,(kR P.B ho).2 (by lia)];congr 1;exact Eq.symm ‹_›
  exact ⟨o,t,0,0,rfl,ho,ht,by decide,by decide,b0,bs,λz=>absurd hn z,λ_=>by rw [hb];exact j7.mpr λi h1 h2=>hnp (by rw [bb.mp h1] at h2;exact h2),λz=>absurd hn z,λe=>absurd e (by decide),λ_=>rfl,λe=>absurd e (by decide),λe=>absurd e (by decide),λa b _=>ck o t htg a b,λ_ _=>⟨λe=>⟨by lia,rfl,hn,by rw [show o+G.aa=p by lia];exact hnp',by have h1:=hrk.1 (by lia);rw [Nat.add_div_right _ (P7 RA f2),h1]⟩,λe=>⟨by lia,rfl,hn,by rw [show t+G.aa=p by lia];exact hnp',by have h1:=hrk.2 (by lia);rw [show o=(t+G.aa)+G.aa by lia,Nat.add_div_right _ (P7 RA f2)] at h1;exact (Nat.eq_sub_of_add_eq h1).trans (Nat.sub_sub _ 2 1)⟩⟩⟩
 ·refine aD (pw hp) ?_;rintro ⟨b0,bs⟩ b1;have ho:=P.g.lt b0;rw [P.g.sb] at hn;have ht:=P.g.lt hn.1;have hc:=Ed P.B P.c2 ho ht hg;have hr:rel G R.af 1 o t=true:=hc.1;have:=P.c2
  exact ⟨o,t,sp,f,rfl,ho,ht,by lia,hf,b0,bs,λ_=>by lia,λ_=>by rw [fz P.B P.c2 ho (.inl rfl) hr,Ta],λ_=>by rw [b1];exact hr,λ_=>b1,λe=>by lia,λe=>by lia,λe=>by lia,λa b _=>ck o t htg a b,λ_ _=>⟨λe=>absurd e hc.2.1,λe=>absurd e hc.2.2⟩⟩) ((s,k,k2,G),(R,tg))
theorem Mo.MF (P:Pos G R k k2) (hm:Bl G R s):∃o t,s=pk o t 2 0/\Mo G R k o t 2 0:=by
 refine ew hm ?_;rintro o t rfl he h1 hp;unfold fT at hp;rw [aC,P.g.sb,P.g.kb] at hp;refine dJ hp ?_;rintro ⟨b0,bs⟩ _ b1;have ho:=P.g.lt b0;rcases P.ep with h | ⟨e,h,h2,h3,h4,h5⟩
 ·lia
 obtain rfl:e=t:=by lia
 have ht:e<G.size:=by lia
 have c2:=P.c2
 have hr:rel G R.af 1 o e=true:=by
  have a:=(iM P.B ho ht).1.2.2;have b:=(iM P.B ht ho).1.2.2
  have:R.af=0\/R.af=1:=by exact fp _ ‹_›
  rcases this with z | z<;>rw [z] at h1 ⊢
  ·exact a.trans h1
  ·exact b.symm.trans h1
 exact ⟨o,e,rfl,ho,ht,by decide,by decide,b0,bs,λz=>absurd h4 z,λ_=>by rw [fz P.B c2 ho (.inl rfl) hr,Ta],λz=>absurd h4 z,λe=>absurd e (by decide),λ_=>rfl,λ_=>⟨he,b1,h1⟩,λe=>absurd e (by decide),λ_ _ e=>absurd rfl e,λe=>absurd rfl e⟩
noncomputable def zy (G:aE):Bool:=cQ 4 λi=>match G.bt.getD i none with
 | none=>true
 | some (kf,kt,rf,rt)=>decide (kf<G.size/\kt<G.size/\rf<G.size/\rt<G.size) && ((within kf rf).testBit kt && (within kf rf).testBit rt) &&
  (cQ G.size λx=>!(a7 G x kt).testBit rf && (!(a7 G x kt).testBit kf || (a7 G x kt).testBit rt)) &&
  decide (kf=i / 2*(G.size-G.aa)+G.aa / 2/\rf=i / 2*(G.size-G.aa)+(if i%2=1 then 0 else G.aa-1)/\kf<kt+(if i%2=1 then G.size else 0)/\kt<kf+(if i%2=1 then 0 else G.size)/\(i%2=1->rt=kt+1)/\(i%2=0->rt+1=kt))
theorem Hj:zy mL=true:=by decide +kernel
theorem Hh:zy kC=true:=by decide +kernel
theorem Hi:zy mK=true:=by decide +kernel
structure Mc (G:aE) (i kf kt rf rt:Nat):Prop where
 lt:kf<G.size/\kt<G.size/\rf<G.size/\rt<G.size
 w1:(within kf rf).testBit kt=true
 w2:(within kf rf).testBit rt=true
 b:∀x,x<G.size->¬(a7 G x kt).testBit rf=true/\((a7 G x kt).testBit kf=true->(a7 G x kt).testBit rt=true)
 n:kf=i / 2*(G.size-G.aa)+G.aa / 2/\rf=i / 2*(G.size-G.aa)+(if i%2=1 then 0 else G.aa-1)/\kf<kt+(if i%2=1 then G.size else 0)/\kt<kf+(if i%2=1 then 0 else G.size)/\(i%2=1->rt=kt+1)/\(i%2=0->rt+1=kt)
theorem BW (B:BG G) (h:G.bt.getD i none≠none):i<4:=by
 rcases Qw i 4 with q | q
 ·exact q
 ·exact absurd (by rw [P9,Rf (by rw [B.ok.cl];exact q)];rfl) h
def pD:Prop:=∀(B:BG G) {kf kt:Nat} (h:G.bt.getD i none=some (kf,kt,rf,rt)),Mc G i kf kt rf rt
theorem gG:@pD rf rt i G:=au (S:=λx:Nat×Nat×Nat×aE=>@pD x.1 x.2.1 x.2.2.1 x.2.2.2) (x:=(0,0,0,bO)) (by
 refine (?_:∀rf rt i G,@pD rf rt i G) _ _ _ _;intro rf rt i G B kf kt h;have:=aK (tab (f:=zy) Hj Hh Hi B) (BW B (i:=i) (by rw [h];exact λz=>nomatch z));rw [h] at this
 have:(decide (kf<G.size/\kt<G.size/\rf<G.size/\rt<G.size) && ((within kf rf).testBit kt && (within kf rf).testBit rt) &&
  (cQ G.size λx=>!(a7 G x kt).testBit rf && (!(a7 G x kt).testBit kf || (a7 G x kt).testBit rt)) &&
  decide (kf=i / 2*(G.size-G.aa)+G.aa / 2/\rf=i / 2*(G.size-G.aa)+(if i%2=1 then 0 else G.aa-1)/\kf<kt+(if i%2=1 then G.size else 0)/\kt<kf+(if i%2=1 then 0 else G.size)/\(i%2=1->rt=kt+1)/\(i%2=0->rt+1=kt)))=true:=this
 rw [Qa,Qa,Qa,Qa] at this;refine aD this ?_;rintro ⟨⟨h1,h2,h3⟩,h4⟩ h5;refine ⟨Qe h1,h2,h3,λx hx=>?_,Qe h5⟩;have:=aK h4 hx;rw [Qa,Q3,QI,QI] at this;refine ⟨λz=>?_,λz=>?_⟩
 ·rw [z] at this;exact nomatch this.1
 ·exact this.2.resolve_left λy=>by rw [z] at y;cases y) (rf,rt,i,G)
theorem Mo.gM (P:Pos G R k k2) (hm:sO G R s):∃o t,s=pk o t 3 0/\Mo G R k o t 3 0:=by
 obtain ⟨i,kf,kt,rf,rt,rfl,hi,hc⟩:=hm
 have hr:R.ab.testBit i=true:=by
  have:=hc.2.1;refine bJ (g6.mp this) λj hj=>?_;rw [aC,bb] at hj;exact hj.2 ▸ hj.1
 refine mV (P.rt i hr) λkf' kt' rf' rt' h1 h2 h3=>?_;rw [hc.1] at h1;cases h1;have T:=gG P.B hc.1;have hn:bd R kt=0:=QD.mp λz=>j7.mp hc.2.2.1 kt ((cy P.g).mpr z) T.w1;have c2:=P.c2;exact ⟨kf,kt,rfl,T.lt.1,T.lt.2.1,by decide,by decide,by exact rI ‹_›,by exact Eq.trans (Ku ‹_› (by rfl)) ‹_›,λz=>absurd hn z,λe=>absurd rfl e,λz=>absurd hn z,λe=>absurd e (by decide),λ_=>rfl,λe=>absurd e (by decide),λ_=>⟨i,rf,rt,hi,hc⟩,λ_ e _=>absurd (P.kg.un kf (by show bd R kf=_;lia)) e,λ_ e=>absurd e (by exact λe=>w8 ‹_› e (by rfl) (by rfl))⟩
def sJ:Prop:=∀(P:Pos G R k k2) (h:sM G R k s),∃o t sp f,s=pk o t sp f/\Mo G R k o t sp f
theorem Mo.of:@sJ s k k2 G R:=au (S:=λx:(Nat×Nat×Nat×aE)×Rw=>@sJ x.1.1 x.1.2.1 x.1.2.2.1 x.1.2.2.2 x.2) (x:=((0,0,0,bO),fG)) (by
 refine (?_:∀s k k2 G R,@sJ s k k2 G R) _ _ _ _ _;intro s k k2 G R P h;have o:=P.ok;have hfl:ez G.full (Sd R R.af)<2^G.size:=fS iB;have c2:=P.c2;have own:∀t,(ez G.full (Sd R R.af)).testBit t=true->bd R t≠0->bd R t / 8≠R.af:=λt h h0 h1=>(iG.mp h).2 ((P.g.sb _ _).mpr ⟨h0,h1⟩);rcases h with ⟨_,⟨s',hs,h⟩ | h⟩ | ⟨hno,h⟩
 ·have hsd:(Sd R (1-R.af)).testBit s'=true:=by
   have:(2^s').testBit s'=true:=bb.mpr rfl;rw [<- hs] at this;exact (aC.mp this).2
  have htg:2^s' ||| a7 G k s'<2^G.size:=Nat.or_lt_two_pow (hs ▸ c7 (o.sb _)) (pI P.B.ok);rcases h with h | h | ⟨kd,h1,h2,h⟩
  ·exact Mo.fJ P h λo t ht _ _=>⟨s',hs,ht⟩
  ·refine pq (Mo.MF P h) λo t e m=>?_;exact ⟨o,t,2,0,e,m⟩
  ·by_cases hbe:a7 G k s' &&& Sd R R.af=0
   ·obtain ⟨o,t,e,m⟩:=Mo.wo P h1 (by exact P8 ‹_› (by decide)) h (λt ht h0 h1=>by
     rw [dT,bb] at ht;rcases ht with ht | ht
     ·subst ht;rw [P.g.sb] at hsd;exact E3 (hsd.2.symm.trans h1)
     ·exact j7.mp hbe t ht ((P.g.sb _ _).mpr ⟨h0,h1⟩)) htg λo t _ ht _ _=>⟨s',hs,ht⟩
    exact ⟨o,t,0,0,e,m⟩
   ·exfalso;refine bJ (g6.mp hbe) λy hy=>?_;refine aD (aC.mp hy) λy1 y2=>?_
    have ha:(ff G R k (eO R) &&& Sd R (1-R.af)).testBit s'=true:=by rw [hs];exact bb.mpr rfl
    have h4:=((pL P.B P.g (by exact pY) P.cz.2).mp ha).2.2.2;rw [iu P.B (P.g.lt ((P.g.sb _ _).mp hsd).1) P.cz.2] at h4;exact j7.mp h4 y y1 ((cy P.g).mpr ((P.g.sb _ _).mp y2).1)
 ·obtain ⟨o,t,e,m⟩:=Mo.wo P (by decide) (by decide) h own hfl λo t ho _ _ hne=>by
   rw [P.cz.1,bb] at ho;exact absurd ho hne
  exact ⟨o,t,0,0,e,m⟩
 ·rcases h with h | h | ⟨kd,h1,h2,h⟩ | h
  ·exact Mo.fJ P h λ_ _ _ e=>by rw [hno] at e;cases e
  ·refine pq (Mo.MF P h) λo t e m=>?_;exact ⟨o,t,2,0,e,m⟩
  ·refine pq (Mo.wo P h1 h2 h own hfl λ_ _ _ _ e=>by rw [hno] at e;cases e) λo t e m=>?_;exact ⟨o,t,0,0,e,m⟩
  ·refine pq (Mo.gM P h) λo t e m=>?_;exact ⟨o,t,3,0,e,m⟩) ((s,k,k2,G),R)
theorem Mo.tA (P:Pos G R k k2) (h:iY G R k s):∃o t sp f,s=pk o t sp f/\Mo G R k o t sp f/\IG G R k o t sp:=by
 obtain ⟨h1,o',t',sp',f',e',hd,hl⟩:=h;refine xK (Mo.of P h1) λo t sp f e m=>?_;have h25:=P.B.ok.i3;have:=hd.1;have:=hd.2.1;have:=m.ho;have:=m.ht;have ee:pk o t sp f=pk o' t' sp' f':=e.symm.trans e'
 have e1:t=t':=by rw [<- lS (o:=o) (t:=t) (sp:=sp) (f:=f) (by exact f9 ‹_› ‹_› (by rfl)),ee,lS (by exact f9 ‹_› ‹_› (by rfl))]
 have e2:o=o':=by rw [<- oK (o:=o) (t:=t) (sp:=sp) (f:=f) (by exact f9 ‹_› ‹_› (by rfl)) (by exact f9 ‹_› ‹_› (by rfl)),ee,oK (by exact f9 ‹_› ‹_› (by rfl)) (by exact f9 ‹_› ‹_› (by rfl))]
 have e3:sp=sp':=by rw [<- lT (o:=o) (t:=t) (sp:=sp) (f:=f) (by exact f9 ‹_› ‹_› (by rfl)) (by exact f9 ‹_› ‹_› (by rfl)) m.s4 m.f4,ee,lT (by exact f9 ‹_› ‹_› (by rfl)) (by exact f9 ‹_› ‹_› (by rfl)) hd.2.2.1 hd.2.2.2.1]
 exact ⟨o,t,sp,f,e,m,by rw [e1,e2,e3];exact hl⟩
end
noncomputable def IX (G:aE):Bool:=cQ 2 λc=>cQ G.size λo=>(dQ G.size (ct G c o)).all λt=>decide ((t≠o+2*G.aa/\o≠t+2*G.aa)/\(if c=0 then t-G.aa else t+G.aa)=o / G.aa*G.aa+t%G.aa)
theorem JI:IX mL=true:=by decide +kernel
theorem JG:IX kC=true:=by decide +kernel
theorem JH:IX mK=true:=by decide +kernel
section
variable {d s t c k k2 x o sp f wh rf rt oc e i:Nat} {G:aE} {R:Rw} {b:List Nat}
theorem qa (B:BG G) (hc:c<2) (ho:o<G.size) (h:(ct G c o).testBit t=true):(t≠o+2*G.aa/\o≠t+2*G.aa)/\(if c=0 then t-G.aa else t+G.aa)=o / G.aa*G.aa+t%G.aa:=by
 have ht:=rz B (k:=1) hc ho h;exact Qe (Qj.mp (aK (aK (tab (f:=IX) JI JG JH B) hc) ho) t (eg.mpr ⟨ht,h⟩))
noncomputable def i4 (G:aE) (R:Rw) (t sp:Nat):Nat:=if sp=2 then ij G R t else t
theorem Pos.G7 (P:Pos G R k k2) (he:R.ep=t):G.aa<=t/\t+G.aa<G.size/\bd R t=0/\bd R (ij G R t)=(1-R.af)*8+1/\t / G.aa=if R.af=1 then 2 else G.bE-3:=by
 rcases P.ep with h | ⟨e,h,h2⟩
 ·lia
 ·obtain rfl:e=t:=by lia
  exact h2
theorem Mo.pt (P:Pos G R k k2) (m:Mo G R k o t 2 f):(ct G R.af o).testBit t=true:=by
 refine dJ (m.ep rfl) λ_ _ h=>?_;have a:=(iM P.B m.ho m.ht).1.2.2;have b:=(iM P.B m.ht m.ho).1.2.2;have:=P.c2
 have:R.af=0\/R.af=1:=by exact fp _ ‹_›
 rcases this with z | z<;>rw [z] at h ⊢
 ·exact a.trans h
 ·exact b.symm.trans h
def sL:Prop:=∀(P:Pos G R k k2) (m:Mo G R k o t sp f),∃rf rt,eC G R o t sp f (i4 G R t sp) rf rt/\(sp=3->∃i,i / 2=R.af/\kD G R i o t rf rt)
theorem Mo.mv:@sL t k k2 o sp f G R:=au (S:=λx:(Nat×Nat×Nat×Nat)×(Nat×Nat×aE×Rw)=>@sL x.1.1 x.1.2.1 x.1.2.2.1 x.1.2.2.2 x.2.1 x.2.2.1 x.2.2.2.1 x.2.2.2.2) (x:=((0,0,0,0),(0,0,bO,fG))) (by
 refine (?_:∀t k k2 o sp f G R,@sL t k k2 o sp f G R) _ _ _ _ _ _ _ _;intro t k k2 o sp f G R P m;have ot:o≠t:=λz=>m.nt (z ▸ m.b0) (z ▸ m.bs);have c2:=P.c2
 have base:∀rf rt,(sp=3->∃i,i / 2=R.af/\kD G R i o t rf rt)->eC G R o t sp f (i4 G R t sp) rf rt/\(sp=3->∃i,i / 2=R.af/\kD G R i o t rf rt):=λrf rt hc=>by
  refine ⟨⟨m.ho,m.ht,ot,m.s4,m.f4,m.b0,m.bs,rfl,?_,?_,λe=>?_,λe=>?_,m.pr,λh1 h2=>?_,λe=>?_,λe=>?_⟩,hc⟩
  ·unfold i4;split
   ·exact tQ P.ok (m.ep ‹_›).1
   ·exact m.ht
  ·unfold i4;split
   ·intro z;have:=(P.G7 (m.ep ‹_›).1).2.2.2.1;rw [z] at this;exact Mj this (by decide) m.bs
   ·exact Ne.symm ot
  ·have:=P.G7 (m.ep e).1;refine ⟨this.2.2.1,λz=>?_,(m.ep e).1⟩;unfold i4 at z;rw [Qk e] at z;rw [z] at this;lia
  ·intro _;exact (P.G7 (m.ep e).1).1
  ·by_cases z:sp=2
   ·subst z;have:=(qa P.B c2 m.ho (m.pt P)).1;exact h2.elim (λz=>absurd z this.1) λz=>absurd z this.2
   ·unfold i4;rw [Qb z];exact h2.elim (λe=>((m.d2 z h1).1 e).2.2.1) λe=>((m.d2 z h1).2 e).2.2.1
  ·refine ao (hc e) λi hi h=>?_;refine ⟨i,by exact Pm ‹_›,h.1,λv hv hvt=>?_⟩;obtain ⟨kf',kt',rf',rt'⟩:=v;have T1:=(gG P.B h.1).n;have T2:=(gG P.B hv).n;have hvt:kt'=t:=hvt
   have e2:2*R.af / 2=i / 2:=by lia
   rw [e2] at T2;rcases SO i with z | z
   ·exact Po ‹_› ‹_›
   ·have z2:2*R.af%2=0:=by lia
    have z3:¬2*R.af%2=1:=by lia
    simp only [Qk z] at T1;simp only [Qb z3] at T2;lia
  ·refine ao (hc e) λi hi h=>?_
   have hr:R.ab.testBit i=true:=by
    refine bJ (g6.mp h.2.1) λj hj=>?_;rw [aC,bb] at hj;exact hj.2 ▸ hj.1
   refine mV (P.rt i hr) λkf' kt' rf' rt' h1 h2 h3=>?_;rw [h.1] at h1;cases h1;have T:=gG P.B h.1;have hn:∀y,(within o rf).testBit y=true->bd R y=0:=λy hy=>QD.mp λz=>j7.mp h.2.2.1 y ((cy P.g).mpr z) hy;refine ⟨by rw [h3,hi],hn t T.w1,hn rt T.w2,T.lt.2.2.1,T.lt.2.2.2,λz=>?_,λz=>?_⟩
   ·rw [z] at h3;lia
   ·have:=T.n.2.2.2.2;lia
 by_cases e:sp=3
 ·refine Kw (m.ca e) λi rf rt h=>?_;exact ⟨rf,rt,base rf rt λ_=>⟨i,h⟩⟩
 ·exact ⟨0,0,base 0 0 λz=>absurd z e⟩) ((t,k,k2,o),(sp,f,G,R))
noncomputable def Af (b:List Nat):Nat:=vq ((List.range b.length).filter λs=>decide (b.getD s 0≠0))
theorem lz {y:Nat}:(Af b).testBit y=true↔b.getD y 0≠0:=by
 unfold Af;rw [q7,Tx,Sh,Qh];refine ⟨λh=>h.2,λh=>⟨?_,h⟩⟩;rcases Qw y b.length with q | q
 ·exact q
 ·exact absurd (hZ q) h
theorem kT (g:ba G R):eO R=Af R.ae:=cM λi=>by rw [QR,cy g,lz]
noncomputable def tL (k o t:Nat):Nat:=if o=k then t else k
def lR {y:Nat}:Prop:=∀(P:Pos G R k k2) (m:eC G R o t sp f wh rf rt) (h0:(bR R o t sp f wh rf rt).getD y 0≠0) (h1:(bR R o t sp f wh rf rt).getD y 0 / 8=1-R.af),bd R y=(bR R o t sp f wh rf rt).getD y 0/\y≠t/\y≠o/\y≠wh/\(sp=3->y≠rt/\y≠rf)
theorem oJ {y:Nat}:@lR t k k2 o sp f wh rf rt G R y:=au (S:=λx:(Nat×Nat×Nat×Nat)×(Nat×Nat×Nat×Nat)×(Nat×aE×Rw×Nat)=>@lR x.1.1 x.1.2.1 x.1.2.2.1 x.1.2.2.2 x.2.1.1 x.2.1.2.1 x.2.1.2.2.1 x.2.1.2.2.2 x.2.2.1 x.2.2.2.1 x.2.2.2.2.1 x.2.2.2.2.2) (x:=((0,0,0,0),(0,0,0,0),(0,bO,fG,0))) (by
 refine (?_:∀t k k2 o sp f wh rf rt G R y,@lR t k k2 o sp f wh rf rt G R y) _ _ _ _ _ _ _ _ _ _ _ _;intro t k k2 o sp f wh rf rt G R y P m h0 h1;have c2:=P.c2;rw [du m P.g.bl] at h0 h1 ⊢
 have hp:gX R o sp f / 8=R.af:=by
  unfold gX;have:=m.f4;have:=m.bs;split
  ·exact Gi (by lia)
  ·exact m.bs
 split at h0
 ·rw [Qk ‹_›] at h1;exact absurd (h1.symm.trans (Gi (by decide))) E3
 ·rename_i n1;rw [Qb n1] at h1 ⊢;split at h0
  ·exact absurd rfl h0
  ·rename_i n2;rw [Qb n2] at h1 ⊢;split at h0
   ·rw [Qk ‹_›] at h1;exact absurd (h1.symm.trans hp) E3
   ·rename_i n3;rw [Qb n3] at h1 ⊢;split at h0
    ·exact absurd rfl h0
    ·rename_i n4;rw [Qb n4] at h1 ⊢;split at h0
     ·exact absurd rfl h0
     ·rename_i n5;rw [Qb n5]
      exact ⟨rfl,n3,n4,n5,λe=>⟨λz=>n1 ⟨e,z⟩,λz=>n2 ⟨e,z⟩⟩⟩) ((t,k,k2,o),(sp,f,wh,rf),(rt,G,R,y))
theorem z9 {y:Nat} (P:Pos G R k k2) (m:eC G R o t sp f wh rf rt) (h0:bd R y≠0) (ho:y≠o) (hw:y≠wh) (h3:sp=3->y≠rf):(bR R o t sp f wh rf rt).getD y 0≠0:=by
 have hp:=m.nE P.g P.c2
 have hp0:gX R o sp f≠0:=λz=>by rw [z] at hp;exact absurd hp.2.1 (by decide)
 rw [du m P.g.bl];split
 ·exact kA
 ·split
  ·rename_i z;exact absurd z.2 (h3 z.1)
  ·split
   ·exact hp0
   ·exact h0
theorem lP (P:Pos G R k k2) (m:eC G R o t sp f wh rf rt):(bR R o t sp f wh rf rt).getD t 0=gX R o sp f/\gX R o sp f≠0:=by
 have hp:=m.nE P.g P.c2;refine ⟨?_,λz=>by rw [z] at hp;exact absurd hp.2.1 (by decide)⟩;rw [du m P.g.bl,Qb λz=>(m.c1 z.1).2.2.2.2.2.2 z.2.symm,Qb λz=>?_,Qk rfl];have:=m.c1 z.1;rw [<- z.2] at this;lia
def vO:Prop:=∀(P:Pos G R k k2) (mo:Mo G R k o t sp f) (m:eC G R o t sp f (i4 G R t sp) rf rt) (hc:sp=3->∃i,i / 2=R.af/\kD G R i o t rf rt) (L:IG G R k o t sp),¬Jg G (bR R o t sp f (i4 G R t sp) rf rt) (1-R.af) (tL k o t) (Af (bR R o t sp f (i4 G R t sp) rf rt))
theorem safe:@vO t k k2 o sp f rf rt G R:=au (S:=λx:(Nat×Nat×Nat×Nat)×(Nat×Nat×Nat×Nat)×(aE×Rw)=>@vO x.1.1 x.1.2.1 x.1.2.2.1 x.1.2.2.2 x.2.1.1 x.2.1.2.1 x.2.1.2.2.1 x.2.1.2.2.2 x.2.2.1 x.2.2.2) (x:=((0,0,0,0),(0,0,0,0),(bO,fG))) (by
 refine (?_:∀t k k2 o sp f rf rt G R,@vO t k k2 o sp f rf rt G R) _ _ _ _ _ _ _ _ _ _;intro t k k2 o sp f rf rt G R P mo m hc L;have c2:=P.c2;have c1:1-R.af<2:=pY;have sde:1-R.af≠R.af:=E3;have kS:=P.cz.2;have bk:bd R k=R.af*8+6:=P.kg.at_;rintro ⟨x,x0,x1,x2,x3⟩;refine rW (oJ P m x0 x1) λxe xt xo xw x4=>?_;rw [<- xe] at x0 x1 x2;have hx:x<G.size:=P.g.lt x0;have emp:∀y,(a7 G x (tL k o t)).testBit y=true->(bR R o t sp f (i4 G R t sp) rf rt).getD y 0=0:=λy hy=>QD.mp λz=>j7.mp x3 y hy (lz.mpr z);have cN:∀y,(a7 G x (tL k o t)).testBit y=true->y≠o->y≠i4 G R t sp->(sp=3->y≠rf)->bd R y=0:=λy hy h1 h2 h3=>QD.mp λz=>z9 P m z h1 h2 h3 (emp y hy);have tn:¬(a7 G x (tL k o t)).testBit t=true:=λz=>(lP P m).2 ((lP P m).1.symm.trans (emp t z));have w2:sp≠2->i4 G R t sp=t:=λz=>Qb z;rcases L with L | ⟨L,Le⟩ | ⟨n3,n2,ok,La⟩ | ⟨n3,n2,ok,Ln⟩
 ·refine ao (hc L) λi hi hC=>?_;have T:=gG P.B hC.1
  have kk:tL k o t=t:=by
   unfold tL;rw [Qk]
   have hr:R.ab.testBit i=true:=by
    refine bJ (g6.mp hC.2.1) λj hj=>?_;rw [aC,bb] at hj;exact hj.2 ▸ hj.1
   refine mV (P.rt i hr) λkf' kt' rf' rt' h1 h2 h3=>?_;rw [hC.1] at h1;cases h1;exact P.kg.un o (by show bd R o=_;rw [h2,hi])
  rw [kk] at x2 emp cN
  have hb:a7 G x t &&& eO R≠0:=λz=>by
   have:=(jU P.B P.g (by exact pY) T.lt.2.1 (c:=1-i / 2) (oc:=eO R)).mpr ⟨x,x0,by rw [hi];exact x1,by rw [hi];exact x2,z⟩;rw [hC.2.2.2.2.2] at this;cases this
  refine bJ (g6.mp hb) λy hy=>?_;refine aD (aC.mp hy) λy1 y2=>?_;have y2:=(cy P.g).mp y2;by_cases yr:y=rf
  ·exact (T.b x hx).1 (yr ▸ y1)
  ·by_cases yo:y=o
   ·have h:=(T.b x hx).2 (yo ▸ y1);have:=emp rt h;rw [du m P.g.bl,Qk ⟨L,rfl⟩] at this;exact absurd ‹_› kA
   ·exact y2 (cN y y1 yo (by rw [w2 (by lia)];exact λz=>t9 P.B (z ▸ y1)) λ_=>yr)
 ·subst L;have hep:=mo.ep rfl;have ep:=P.G7 hep.1;have wd:i4 G R t 2=ij G R t:=Qk rfl
  have ok:o≠k:=λz=>by have:=hep.2.1;rw [z] at this;exact w8 ‹_› ‹_› (by rfl) (by rfl)
  have kk:tL k o t=k:=Qb ok;rw [kk] at x2 emp cN tn
  have hb:a7 G x k &&& qA G R o t=0:=j7.mpr λy h1 h2=>by
   have yt:y≠t:=λz=>tn (z ▸ h1);unfold qA at h2;rw [dT,bb] at h2;have h2:=h2.resolve_right yt;rw [Qo,Qo] at h2;by_cases yo:y=o
   ·subst yo;rw [(cy P.g).mpr mo.b0,bb.mpr rfl] at h2
    have:y≠ij G R t:=λz=>by rw [<- wd] at z;exact m.w2 z.symm
    rw [gg λq=>this (bb.mp q)] at h2;cases h2
   ·rw [gg λq=>yo (bb.mp q),Si] at h2;by_cases yw:y=ij G R t
    ·subst yw;rw [(cy P.g).mpr (by have:=ep.2.2.2.1;exact rI ‹_›),bb.mpr rfl] at h2;cases h2
    ·rw [gg λq=>yw (bb.mp q),Si] at h2;exact (cy P.g).mp h2 (cN y h1 yo (by rw [wd];exact yw) λe=>absurd e (by decide))
  have:=(pL P.B P.g c1 kS (oc:=qA G R o t)).mpr ⟨x0,x1,x2,hb⟩;have h3:(ez (ff G R k (qA G R o t) &&& Sd R (1-R.af)) (2^ij G R t)).testBit x=true:=iG.mpr ⟨this,λq=>xw (by rw [wd];exact bb.mp q)⟩;rw [Le,Qr] at h3;cases h3
 ·have kk:tL k o t=t:=Qk ok;rw [kk] at x2 emp cN
  have hb:a7 G x t &&& (eO R ^^^ 2^k)=0:=j7.mpr λy h1 h2=>by
   rw [Qo] at h2;by_cases yk:y=k
   ·subst yk;rw [(cy P.g).mpr (by exact rI ‹_›),bb.mpr rfl] at h2;cases h2
   ·rw [gg λq=>yk (bb.mp q),Si] at h2;exact (cy P.g).mp h2 (cN y h1 (by lia) (by rw [w2 n2];exact λz=>t9 P.B (z ▸ h1)) λe=>absurd e n3)
  have:=(jU P.B P.g c1 mo.ht (oc:=eO R ^^^ 2^k)).mpr ⟨x,x0,x1,x2,hb⟩;rw [La] at this;cases this
 ·have kk:tL k o t=k:=Qb ok;rw [kk] at x2 emp cN tn;rw [w2 n2] at cN;have bs:=iu P.B hx kS;by_cases oin:(a7 G x k).testBit o=true
  ·have k3:bd R x%8=3\/bd R x%8=4\/bd R x%8=5:=by
    have:=P.g.k6 x0;refine Sl λz=>?_;have:=fz P.B c1 hx (by lia) x2;rw [this,Qr] at oin;cases oin
   have only:∀y,(a7 G x k).testBit y=true->y≠o->bd R y=0:=λy h1 h2=>cN y h1 h2 (λz=>tn (z ▸ h1)) λe=>absurd e n3
   have hsn:(kE G R k R.af).testBit x=true:=by
    have:kE G R k R.af=jl G R k 0 &&& Sd R (1-R.af):=rfl;rw [this,aC,P.g.sb,jk (c:=1-R.af) P.B P.g kS];exact ⟨⟨x0,k3,x2,TX _⟩,x0,x1⟩
   have hin:fB G R k R.af x=2^o:=cM λy=>by
    unfold fB;rw [QR,aC,bb,<- bs];constructor
    ·rintro ⟨h1,h2⟩;refine Sl λyo=>?_;have h0:=only y h1 yo;rw [Qo,show (eO R).testBit y=false from gg λq=>(cy P.g).mp q h0,Tn] at h2;unfold kE at h2;exact ((P.g.sb _ _).mp (aC.mp h2).2).1 h0
    ·rintro rfl;refine ⟨oin,?_⟩
     have hns:(kE G R k R.af).testBit y=false:=gg λq=>by
      unfold kE at q;exact sde (((P.g.sb _ _).mp (aC.mp q).2).2.symm.trans mo.bs)
     rw [Qo,(cy P.g).mpr mo.b0,hns];rfl
   have hpn:Pn G R k o:=⟨⟨x,hsn,by rw [hin];exact bb.mpr rfl,by rw [hin,Rj,Nat.mod_self]⟩,(P.g.sb _ _).mpr ⟨mo.b0,mo.bs⟩⟩;have hl:=Ln.resolve_left (not_not_intro hpn);rw [bs] at oin tn;have way:=j7.mp (mo.way n3);rcases Aq P.B kS oin hl with h | h | h | h | h
   ·exact tn h
   ·exact xt h.symm
   ·rw [h] at mo;have:=mo.nt;lia
   ·exact way x h ((cy P.g).mpr x0)
   ·exact way k h ((cy P.g).mpr (by exact rI ‹_›))
  ·have hb:a7 G x k &&& eO R=0:=j7.mpr λy h1 h2=>(cy P.g).mp h2 (cN y h1 (λz=>oin (z ▸ h1)) (λz=>tn (z ▸ h1)) λe=>absurd e n3);have ha:=(jU P.B P.g c1 kS (oc:=eO R)).mpr ⟨x,x0,x1,x2,hb⟩;refine ao (mo.ck ha ok n2) λs hs ht=>?_;have hx2:=(pL P.B P.g c1 kS (oc:=eO R)).mpr ⟨x0,x1,x2,hb⟩;rw [hs,bb] at hx2;rw [dT,bb,<- hx2,<- bs] at ht
   exact ht.elim (λz=>xt z.symm) tn) ((t,k,k2,o),(sp,f,rf,rt),(G,R))
end
noncomputable def s7 (G:aE):Bool:=cQ 4 λi=>match G.bt.getD i none with
 | none=>true
 | some (kf,_,rf,_)=>(G.cP.getD kf 0).testBit i && (G.cP.getD rf 0).testBit i && decide (kf / G.aa*G.aa=i / 2*(G.size-G.aa)) && cQ G.size λs=>!(G.cP.getD s 0).testBit i || decide (s=kf\/s=rf)
noncomputable def zB (G:aE):Bool:=cQ 2 λc=>cQ G.size λp=>cQ G.size λt=>!decide (c=0/\t=p+G.aa\/c=1/\p=t+G.aa) ||
 cQ G.size λx=>(ct G c p).testBit x == decide ((0<t%G.aa/\x+1=t)\/(t%G.aa<G.aa-1/\x=t+1))
theorem Dp:s7 mL=true:=by decide +kernel
theorem Dm:s7 kC=true:=by decide +kernel
theorem Dn:s7 mK=true:=by decide +kernel
theorem Ii:zB mL=true:=by decide +kernel
theorem Ig:zB kC=true:=by decide +kernel
theorem Ih:zB mK=true:=by decide +kernel
section
variable {d s t c k k2 x o sp f wh rf rt oc e i p:Nat} {G:aE} {R R':Rw} {b:List Nat}
theorem oZ (B:BG G) {kf kt:Nat} (h:G.bt.getD i none=some (kf,kt,rf,rt)):(G.cP.getD kf 0).testBit i=true/\(G.cP.getD rf 0).testBit i=true/\kf / G.aa*G.aa=i / 2*(G.size-G.aa)/\∀s,s<G.size->(G.cP.getD s 0).testBit i=true->s=kf\/s=rf:=by
 have:=aK (tab (f:=s7) Dp Dm Dn B) (BW B (i:=i) (by rw [h];exact λz=>nomatch z));rw [h] at this;have:((G.cP.getD kf 0).testBit i && (G.cP.getD rf 0).testBit i && decide (kf / G.aa*G.aa=i / 2*(G.size-G.aa)) && cQ G.size λs=>!(G.cP.getD s 0).testBit i || decide (s=kf\/s=rf))=true:=this;rw [Qa,Qa,Qa] at this;refine ⟨this.1.1.1,this.1.1.2,Qe this.1.2,λs hs z=>?_⟩;have:=aK this.2 hs;rw [z] at this;exact Qe this
theorem EF (B:BG G) (hc:c<2) (hp:p<G.size) (ht:t<G.size) (h:c=0/\t=p+G.aa\/c=1/\p=t+G.aa) (hx:x<G.size):(ct G c p).testBit x=true↔(0<t%G.aa/\x+1=t)\/(t%G.aa<G.aa-1/\x=t+1):=by
 have:=aK (aK (aK (tab (f:=zB) Ii Ig Ih B) hc) hp) ht;rw [Qq h] at this;have:=aK this hx;rw [Ru] at this;rw [this,Qh]
structure Go (G:aE) (R:Rw) (k k2 o t sp f wh rf rt:Nat):Prop where
 P:Pos G R k k2
 mo:Mo G R k o t sp f
 m:eC G R o t sp f wh rf rt
 hc:sp=3->∃i,i / 2=R.af/\kD G R i o t rf rt
 L:IG G R k o t sp
theorem Go.of (P:Pos G R k k2) (h:iY G R k s):∃o t sp f wh rf rt,s=pk o t sp f/\Go G R k k2 o t sp f wh rf rt:=by
 refine mV (Mo.tA P h) λo t sp f e mo L=>?_;refine pq (mo.mv P) λrf rt m hc=>?_;exact ⟨o,t,sp,f,_,rf,rt,e,P,mo,m,hc,L⟩
theorem Go.wd (z:Go G R k k2 o t sp f wh rf rt):wh=i4 G R t sp:=z.m.hw
theorem Go.E2 (z:Go G R k k2 o t sp f wh rf rt):wh=t\/(sp=2/\bd R wh=(1-R.af)*8+1):=by
 have h:=z.m.hw;by_cases e:sp=2
 ·rw [Qk e] at h;exact .inr ⟨e,by rw [h];exact (z.P.G7 (z.mo.ep e).1).2.2.2.1⟩
 ·rw [Qb e] at h;exact .inl h
theorem Go.tk (z:Go G R k k2 o t sp f wh rf rt):t≠k2:=by
 rintro rfl;have h:=z.P.ke.at_
 have h0:bd R t≠0:=by show R.ae.getD t 0≠0;exact rI ‹_›
 by_cases e:sp=3
 ·exact h0 (z.m.c1 e).2.1
 ·exact z.P.sf ⟨o,z.mo.b0,z.mo.bs,z.mo.hit h0,z.mo.way e⟩
theorem lQ {y:Nat} (z:Go G R k k2 o t sp f wh rf rt) (h1:y≠o) (h2:y≠t) (h3:y≠wh) (h4:sp=3->y≠rf/\y≠rt):(bR R o t sp f wh rf rt).getD y 0=bd R y:=by
 rw [du z.m z.P.g.bl,Qb λq=>(h4 q.1).2 q.2,Qb λq=>(h4 q.1).1 q.2,Qb h2,Qb h1,Qb h3]
theorem Go.off {y:Nat} (z:Go G R k k2 o t sp f wh rf rt) (h0:bd R y≠0) (h1:y≠o) (h2:y≠t) (h3:bd R y≠(1-R.af)*8+1) (h4:sp=3->y≠rf):(bR R o t sp f wh rf rt).getD y 0=bd R y:=
 lQ z h1 h2 (λq=>z.E2.elim (λe=>h2 (q.trans e)) λe=>h3 (q ▸ e.2)) λe=>⟨h4 e,λq=>h0 (q ▸ (z.m.c1 e).2.2.1)⟩
theorem q9 (r l i:Nat):(r- (r &&& l)).testBit i=true↔r.testBit i=true/\¬l.testBit i=true:=by
 have h:=kM r (r &&& l)
 have e1:r &&& (r &&& l)=r &&& l:=by rw [<- TM,Nat.and_self]
 have e2:r ||| (r &&& l)=r:=cM λi=>by rw [SS,RX];cases r.testBit i<;>rfl
 rw [e1,e2] at h
 have:r- (r &&& l)=ez r l:=by unfold ez;exact (Nat.eq_sub_of_add_eq h).symm
 rw [this];exact iG
theorem o4:(de G R o t).testBit i=true↔R.ab.testBit i=true/\¬(G.cP.getD o 0).testBit i=true/\¬(G.cP.getD t 0).testBit i=true:=by
 unfold de;rw [q9,dT,not_or]
theorem k5 (h:R.ab<16):de G R o t<16:=Qi (Rk ..) h
theorem Go.GJ (z:Go G R k k2 o t sp f wh rf rt) (h:(de G R o t).testBit i=true):∃kf kt rf' rt',G.bt.getD i none=some (kf,kt,rf',rt')/\(bR R o t sp f wh rf rt).getD kf 0=i / 2*8+6/\(bR R o t sp f wh rf rt).getD rf' 0=i / 2*8+4:=by
 refine dJ (o4.mp h) λh1 h2 h3=>?_;refine mV (z.P.rt i h1) λkf kt rf' rt' e e1 e2=>?_;have T:=oZ z.P.B e;refine ⟨kf,kt,rf',rt',e,?_,?_⟩
 ·rw [<- e1];refine z.off (by exact rI ‹_›) (λq=>h2 (q ▸ T.1)) (λq=>h3 (q ▸ T.1)) (by lia) λe3 q=>?_;have:=(z.m.c1 e3).1;rw [<- q] at this;lia
 ·rw [<- e2];refine z.off (by exact rI ‹_›) (λq=>h2 (q ▸ T.2.1)) (λq=>h3 (q ▸ T.2.1)) (by lia) λe3 q=>?_;have h4:=(z.m.c1 e3).1;refine ao (z.hc e3) λj hj hC=>?_;have T1:=(gG z.P.B hC.1).n.1;have T2:=(gG z.P.B e).n.1
  have:i / 2=j / 2:=by rw [<- q] at h4;lia
  rw [this] at T2;exact h2 ((T2.trans T1.symm) ▸ T.1)
def j8:Prop:=∀(z:Go G R k k2 o t sp f wh rf rt) (D:Done G R o t sp f wh rf rt R'),Pos G R' k2 (tL k o t)
theorem Pos.next:@j8 t k k2 o sp f wh rf rt G R R':=au (S:=λx:(Nat×Nat×Nat×Nat)×(Nat×Nat×Nat×Nat)×(Nat×aE×Rw×Rw)=>@j8 x.1.1 x.1.2.1 x.1.2.2.1 x.1.2.2.2 x.2.1.1 x.2.1.2.1 x.2.1.2.2.1 x.2.1.2.2.2 x.2.2.1 x.2.2.2.1 x.2.2.2.2.1 x.2.2.2.2.2) (x:=((0,0,0,0),(0,0,0,0),(0,bO,fG,fG))) (by
 refine (?_:∀t k k2 o sp f wh rf rt G R R',@j8 t k k2 o sp f wh rf rt G R R') _ _ _ _ _ _ _ _ _ _ _ _;intro t k k2 o sp f wh rf rt G R R' z D;have P:=z.P;have m:=D.m;have c2:=P.c2
 have hb:∀y,bd R' y=(bR R o t sp f wh rf rt).getD y 0:=λy=>by rw [<- m.ae]
 have hs:=m.af
 have hs1:1-R'.af=R.af:=by rw [hs];exact Mk c2
 have bk:bd R k=R.af*8+6:=P.kg.at_;have bk2:bd R k2=(1-R.af)*8+6:=P.ke.at_;have bo:=z.mo.bs;refine ⟨P.B,m.gd,by rw [hs];exact pY,m.ab ▸ k5 P.je,?_,?_,?_,λi hi=>?_,?_⟩
 ·rw [hs];refine ⟨(hb k2).trans ?_,λs hs=>?_⟩
  ·rw [<- bk2];refine z.off (by exact rI ‹_›) (λq=>?_) (Ne.symm z.tk) (by lia) λe q=>?_
   ·rw [q] at bk2;exact Mj bk2 (by decide) bo
   ·have:=(z.m.c1 e).1;rw [<- q] at this;lia
  ·have hs:bd R' s=(1-R.af)*8+6:=hs;rw [hb] at hs;have:=oJ P z.m (y:=s) (by exact rI ‹_›) (by exact Ku ‹_› (by rfl));exact P.ke.un s (this.1.trans hs)
 ·rw [hs1];refine ⟨(hb _).trans ?_,λs hs=>?_⟩
  ·unfold tL;split
   ·rename_i q;rw [(lP P z.m).1];unfold gX;rewrite [Qb λe=>?_,q]
    ·exact bk
    ·have:=z.mo.pr e;rw [q] at this;lia
   ·rw [<- bk];refine z.off (by exact rI ‹_›) (λq=>‹¬o=k› q.symm) (λq=>?_) (by lia) λe q=>?_
    ·have:=z.mo.nt;rw [<- q] at this;lia
    ·have:=(z.m.c1 e).1;rw [<- q] at this;lia
  ·have hs:bd R' s=R.af*8+6:=hs;rw [hb,du z.m P.g.bl] at hs;split at hs
   ·lia
   ·split at hs
    ·exact absurd (Eq.symm ‹_›) kA
    ·split at hs
     ·rename_i q;unfold gX at hs;have:=z.mo.f4;split at hs
      ·lia
      ·unfold tL;rw [Qk (P.kg.un o hs)];exact q
     ·split at hs
      ·exact absurd (Eq.symm ‹_›) kA
      ·split at hs
       ·exact absurd (Eq.symm ‹_›) kA
       ·have:=P.kg.un s hs;unfold tL;rw [Qb λq=>‹¬s=o› (this.trans q.symm)];exact this
 ·have:=safe P z.mo (z.wd ▸ z.m) z.hc z.L;rw [<- z.wd,<- m.ae,<- kT m.gd] at this;rw [hs];exact this
 ·rw [m.ab] at hi;refine mV (z.GJ hi) λkf kt rf' rt' e e1 e2=>?_;exact ⟨kf,kt,rf',rt',e,(hb _).trans e1,(hb _).trans e2⟩
 ·rw [m.ep];unfold gp;split
  ·rename_i b1;unfold C6;have h0:=z.P.B.ok.f0;have ho:=z.mo.ho;have ht:=z.mo.ht;by_cases z2:sp=2
   ·subst z2;have:=(qa P.B c2 ho (z.mo.pt P)).1;rw [Qb (λq=>q.elim (λq=>this.1 q) λq=>this.2 q)];exact .inl rfl
   ·have D2:=z.mo.d2 z2 b1;have wt:=z.E2.resolve_right λq=>z2 q.1
    have fin:∀p:Nat,bd R p=0->p≠t->p≠o->sp=0->(bR R o t sp f wh rf rt).getD p 0=0:=λp h1 h2 h3 h4=>by
     rw [lQ z h3 h2 (wt.symm ▸ h2) λe=>by lia];exact h1
    have pt:sp=0->(bR R o t sp f wh rf rt).getD t 0=R.af*8+1:=λe=>by
     rw [(lP P z.m).1];unfold gX;rw [Qb (by lia)];exact mk8 ‹_› ‹_›
    split
    ·split
     ·exact .inl rfl
     ·rename_i hh _;refine .inr ⟨_,rfl,?_⟩;rw [hb,hb,hs1];unfold ij;rw [hs];rcases hh with hh | hh
      ·refine rW (D2.1 hh) λa1 a2 a3 a4 a5=>?_
       have e:(o+t) / 2=o+G.aa:=by exact O8 ‹_›
       rw [e,Qb (by rw [a1];decide)];refine ⟨by exact RI _ _,by lia,fin _ a4 (by lia) (by lia) a2,?_⟩;rw [show o+G.aa+G.aa=t by lia,Qk (by rw [a1])];exact ⟨pt a2,a5⟩
      ·refine rW (D2.2 hh) λa1 a2 a3 a4 a5=>?_
       have e:(o+t) / 2=t+G.aa:=by exact Mr ‹_›
       rw [e,Qk (by rw [a1])];refine ⟨by exact RI _ _,by lia,fin _ a4 (by lia) (by lia) a2,?_⟩;rw [Uj,Qb (by rw [a1];decide)];exact ⟨pt a2,a5⟩
    ·exact .inl rfl
  ·exact .inl rfl) ((t,k,k2,o),(sp,f,wh,rf),(rt,G,R,R'))
end
noncomputable def Ao (L:List Nat) (az o t sp pf:Nat):List Nat:=if sp=1 then ((L.set o 0).set t (L.getD o 0)).set t (az*8+2+pf) else (L.set o 0).set t (L.getD o 0)
noncomputable def za (L:List Nat) (f az o t sp pf:Nat):List Nat:=if sp=2 then (Ao L az o t sp pf).set (o / f*f+t%f) 0 else Ao L az o t sp pf
noncomputable def y9 (L:List Nat) (f az o t sp pf:Nat):List Nat:=if sp=3/\o<t then ((za L f az o t sp pf).set (o / f*f+f-1) 0).set (t-1) (az*8+4) else za L f az o t sp pf
noncomputable def kH (L:List Nat) (f az o t sp pf:Nat):List Nat:=if sp=3/\t<o then ((y9 L f az o t sp pf).set (o / f*f) 0).set (t+1) (az*8+4) else y9 L f az o t sp pf
noncomputable def CK (N:List Nat) (f sz r i:Nat):Bool:=r.testBit i && decide (N.getD (i / 2*(sz-f)+f / 2) 0=i / 2*8+6/\N.getD (if i%2=1 then i / 2*(sz-f) else i / 2*(sz-f)+f-1) 0=i / 2*8+4)
noncomputable def l6 (N:List Nat) (f sz r:Nat):Nat->Nat
 | 0=>0
 | i+1=>if CK N f sz r i=true then l6 N f sz r i+2^i else l6 N f sz r i
noncomputable def Am (L N:List Nat) (f az o t:Nat):Int:=if L.getD o 0%8=1/\(t=o+2*f\/o=t+2*f)/\Bb N f t (9-8*az)=true then ((t+o) / 2:Nat) else -1
section
variable {d s t c k k2 x o sp f wh rf rt oc e i p:Nat} {G:aE} {R R':Rw} {b:List Nat}
theorem yI:∀r,r<16->r=(((if r.testBit 0=true then 1 else 0)+if r.testBit 1=true then 2 else 0)+if r.testBit 2=true then 4 else 0)+if r.testBit 3=true then 8 else 0:=by decide +kernel
theorem Dj {N:List Nat} {sz r r':Nat} (h16:r'<16) (h:∀i,i<4->CK N f sz r i=r'.testBit i):l6 N f sz r 4=r':=by
 have add:∀i,l6 N f sz r (i+1)=l6 N f sz r i+if CK N f sz r i=true then 2^i else 0:=λi=>by
  rw [l6];split<;>rfl
 rw [add,add,add,add,h 0 (by decide),h 1 (by decide),h 2 (by decide),h 3 (by decide),show l6 N f sz r 0=0 from rfl,Rx];exact (yI r' h16).symm
theorem Cv {l:List Nat} {i v w:Nat}:(l.set i v).set i w=l.set i w:=List.set_set ..
theorem wM:Ao R.ae R.af o t sp f=(R.ae.set o 0).set t (gX R o sp f):=by
 unfold Ao gX;split
 ·rw [Cv,RN,SG 2]
 ·rfl
def oX:Prop:=∀(z:Go G R k k2 o t sp f wh rf rt),kH R.ae G.aa R.af o t sp f=bR R o t sp f wh rf rt
theorem wL:@oX t k k2 o sp f wh rf rt G R:=au (S:=λx:(Nat×Nat×Nat×Nat)×(Nat×Nat×Nat×Nat)×(Nat×aE×Rw)=>@oX x.1.1 x.1.2.1 x.1.2.2.1 x.1.2.2.2 x.2.1.1 x.2.1.2.1 x.2.1.2.2.1 x.2.1.2.2.2 x.2.2.1 x.2.2.2.1 x.2.2.2.2) (x:=((0,0,0,0),(0,0,0,0),(0,bO,fG))) (by
 refine (?_:∀t k k2 o sp f wh rf rt G R,@oX t k k2 o sp f wh rf rt G R) _ _ _ _ _ _ _ _ _ _ _;intro t k k2 o sp f wh rf rt G R z;have hl:=z.P.g.bl;have m:=z.m
 have h3:sp=3->za R.ae G.aa R.af o t sp f=c9 R o t sp f wh:=λe=>by
  unfold za;rw [Qb (by lia),wM]
  have:bd R wh=0:=by
   have hw:=z.E2.resolve_right λq=>by lia
   rw [hw];exact (m.c1 e).2.1
  unfold c9;rw [Ij this]
 by_cases e3:sp=3
 ·refine ao (z.hc e3) λi hi hC=>?_;have n:=(gG z.P.B hC.1).n;have row:=(oZ z.P.B hC.1).2.2.1;have f0:=z.P.B.ok.f0;unfold kH y9 bR;rw [Qk e3,h3 e3,row];rcases SO i with q | q
  ·have q':¬i%2=1:=λe=>by rw [q] at e;exact nomatch e
   simp only [Qb q'] at n;refine uQ n λn1 n2 n3 n4 n5 n6=>?_;have n3:o<t:=n3;rw [Qb λe=>Nat.lt_asymm n3 e.2,Qk ⟨e3,n3⟩,n2,<- n6 q,Uj,Nat.add_sub_assoc (RV f0)]
  ·simp only [Qk q] at n;refine uQ n λn1 n2 n3 n4 n5 n6=>?_;have n4:t<o:=n4;rw [Qk ⟨e3,n4⟩,Qb λe=>Nat.lt_asymm n4 e.2,n2,n5 q];rfl
 ·have hp:bR R o t sp f wh rf rt=c9 R o t sp f wh:=Qb e3;unfold kH y9;rw [Qb λq=>e3 q.1,Qb λq=>e3 q.1,hp];unfold za;rw [wM];by_cases e2:sp=2
  ·subst e2;have hw:=(qa z.P.B z.P.c2 z.mo.ho (z.mo.pt z.P)).2;rw [Qk rfl,<- hw,show (if R.af=0 then t-G.aa else t+G.aa)=wh from (m.hw.trans (Qk rfl)).symm];have hwt:=(m.e0 rfl).2.1;unfold c9;rw [List.set_comm _ _ (Ne.symm hwt),List.set_comm _ _ (Ne.symm m.w2)]
  ·have hw:=z.E2.resolve_right λq=>e2 q.1;rw [Qb e2];unfold c9
   rw [hw,List.set_comm _ _ (Ne.symm m.ot),Cv]) ((t,k,k2,o),(sp,f,wh,rf),(rt,G,R))
def jR:Prop:=∀(z:Go G R k k2 o t sp f wh rf rt),l6 (bR R o t sp f wh rf rt) G.aa G.size R.ab 4=de G R o t
theorem wK:@jR t k k2 o sp f wh rf rt G R:=au (S:=λx:(Nat×Nat×Nat×Nat)×(Nat×Nat×Nat×Nat)×(Nat×aE×Rw)=>@jR x.1.1 x.1.2.1 x.1.2.2.1 x.1.2.2.2 x.2.1.1 x.2.1.2.1 x.2.1.2.2.1 x.2.1.2.2.2 x.2.2.1 x.2.2.2.1 x.2.2.2.2) (x:=((0,0,0,0),(0,0,0,0),(0,bO,fG))) (by
 refine (?_:∀t k k2 o sp f wh rf rt G R,@jR t k k2 o sp f wh rf rt G R) _ _ _ _ _ _ _ _ _ _ _;intro t k k2 o sp f wh rf rt G R z;refine Dj (k5 z.P.je) λi _=>?_;have f0:=z.P.B.ok.f0
 have sq:∀{kf kt rf' rt':Nat},G.bt.getD i none=some (kf,kt,rf',rt')->i / 2*(G.size-G.aa)+G.aa / 2=kf/\(if i%2=1 then i / 2*(G.size-G.aa) else i / 2*(G.size-G.aa)+G.aa-1)=rf':=λe=>by
  have n:=(gG z.P.B e).n;refine ⟨n.1.symm,?_⟩;rw [n.2.1];split
  ·rfl
  ·exact Nat.add_sub_assoc (RV f0) _
 unfold CK;rw [QR,Qa,Qh];constructor
 ·rintro ⟨h1,h2,h3⟩;refine mV (z.P.rt i h1) λkf kt rf' rt' e e1 e2=>?_;rw [(sq e).1] at h2;rw [(sq e).2] at h3;have T:=(oZ z.P.B e).2.2.2;have bo:=z.mo.bs
  have po:(bR R o t sp f wh rf rt).getD o 0=0:=by
   rw [du z.m z.P.g.bl,Qb (show ¬(sp=3/\o=rt) from λq=>z.mo.b0 ((congrArg (bd R) q.2).trans (z.m.c1 q.1).2.2.1)),Qb (show ¬(sp=3/\o=rf) from λq=>(z.m.c1 q.1).2.2.2.2.2.1 q.2.symm),Qb z.m.ot,Qk rfl]
  have pt:=(lP z.P z.m).1
  have ps:gX R o sp f / 8=R.af:=by
   unfold gX;have:=z.m.f4;split
   ·exact OV ‹_›
   ·exact bo
  refine o4.mpr ⟨h1,λq=>?_,λq=>?_⟩
  ·rcases T o z.mo.ho q with q | q
   ·rw [<- q,po] at h2;exact nomatch h2
   ·rw [<- q,po] at h3;exact nomatch h3
  ·rcases T t z.mo.ht q with q | q
   ·rw [<- q] at e1;have hnt:=z.mo.nt (by rw [e1];exact kA);have c2:=z.P.c2;have:=(z.P.g.k6 (x:=t) (by rw [e1];exact kA)).2.2;exact z.tk (z.P.ke.un t (by show bd R t=_;lia))
   ·rw [<- q] at e2 h3;rw [pt] at h3;have hnt:=z.mo.nt (by rw [e2];exact kA);lia
 ·intro h;refine mV (z.GJ h) λkf kt rf' rt' e e1 e2=>?_;rw [(sq e).1,(sq e).2]
  exact ⟨(o4.mp h).1,e1,e2⟩) ((t,k,k2,o),(sp,f,wh,rf),(rt,G,R))
def oW:Prop:=∀(z:Go G R k k2 o t sp f wh rf rt) (g:ba G R') (hb:R'.ae=bR R o t sp f wh rf rt),Am R.ae (bR R o t sp f wh rf rt) G.aa R.af o t=gp G R' R o t
theorem Dk:@oW t k k2 o sp f wh rf rt G R R':=au (S:=λx:(Nat×Nat×Nat×Nat)×(Nat×Nat×Nat×Nat)×(Nat×aE×Rw×Rw)=>@oW x.1.1 x.1.2.1 x.1.2.2.1 x.1.2.2.2 x.2.1.1 x.2.1.2.1 x.2.1.2.2.1 x.2.1.2.2.2 x.2.2.1 x.2.2.2.1 x.2.2.2.2.1 x.2.2.2.2.2) (x:=((0,0,0,0),(0,0,0,0),(0,bO,fG,fG))) (by
 refine (?_:∀t k k2 o sp f wh rf rt G R R',@oW t k k2 o sp f wh rf rt G R R') _ _ _ _ _ _ _ _ _ _ _ _;intro t k k2 o sp f wh rf rt G R R' z g hb;have c2:=z.P.c2;unfold Am gp C6;by_cases b1:bd R o%8=1
 ·rw [Qk b1];by_cases h2:t=o+2*G.aa\/o=t+2*G.aa
  ·rw [Qk h2]
   have D:(R.af=0/\t=(o+t) / 2+G.aa\/R.af=1/\(o+t) / 2=t+G.aa)/\(o+t) / 2<G.size:=by
    have s2:sp≠2:=λe=>by
     subst e;have:=(qa z.P.B c2 z.mo.ho (z.mo.pt z.P)).1;exact h2.elim (λq=>this.1 q) λq=>this.2 q
    have D:=z.mo.d2 s2 b1;have ho:=z.mo.ho;have ht:=z.mo.ht;rcases h2 with h2 | h2
    ·have:=(D.1 h2).1;exact ⟨.inl ⟨this,by lia⟩,by lia⟩
    ·have:=(D.2 h2).1;exact ⟨.inr ⟨this,by exact Mr ‹_›⟩,by lia⟩
   have key:Bb (bR R o t sp f wh rf rt) G.aa t (9-8*R.af)=true↔ct G R.af ((o+t) / 2) &&& (K R' 1 &&& Sd R' (1-R.af))≠0:=by
    have bit:∀x,(K R' 1 &&& Sd R' (1-R.af)).testBit x=true↔(bR R o t sp f wh rf rt).getD x 0=9-8*R.af:=λx=>by
     rw [aC,g.kb,g.sb];show (R'.ae.getD x 0≠0/\_)/\(R'.ae.getD x 0≠0/\_)↔_;unfold bd;rw [hb];exact OU c2
    have bs:=λx (hx:x<G.size)=>EF z.P.B c2 D.2 z.mo.ht (by lia) (x:=x) hx;unfold Bb;rw [Qh,g6];constructor
    ·rintro (⟨h1,h3⟩ | ⟨h1,h3⟩)
     ·have h0:1<=t:=by rcases Tb t with q | q;(rw [q,Nat.zero_mod] at h1;exact absurd h1 (Q8 0));exact q
      exact ⟨t-1,aC.mpr ⟨(bs _ (Qi (Rk ..) z.mo.ht)).mpr (.inl ⟨h1,SF h0⟩),(bit _).mpr h3⟩⟩
     ·exact ⟨t+1,aC.mpr ⟨(bs _ (vQ (P7 RA z.P.B.ok.f0) z.mo.ht h1)).mpr (.inr ⟨h1,rfl⟩),(bit _).mpr h3⟩⟩
    ·rintro ⟨x,hx⟩;refine aD (aC.mp hx) λx1 x2=>?_;have x2:=(bit _).mp x2;have hxs:x<G.size:=rz z.P.B (k:=1) c2 D.2 x1;rcases (bs x hxs).mp x1 with ⟨h1,h3⟩ | ⟨h1,h3⟩
     ·exact .inl ⟨h1,by rw [show t-1=x from Nat.sub_eq_of_eq_add h3.symm];exact x2⟩
     ·exact .inr ⟨h1,by rw [<- h3];exact x2⟩
   by_cases hk:Bb (bR R o t sp f wh rf rt) G.aa t (9-8*R.af)=true
   ·rw [Qk ⟨b1,h2,hk⟩,Qb (key.mp hk),SG]
   ·rw [Qb λq=>hk q.2.2,Qk (QD.mp λq=>hk (key.mpr q))]
  ·rw [Qb h2,Qb λq=>h2 q.2.1]
 ·rw [Qb b1,Qb λq=>b1 q.1]) ((t,k,k2,o),(sp,f,wh,rf),(rt,G,R,R'))
end
section
variable {s c k n sz v m e f i j:Nat} {G:aE} {R:Rw} {p:Nat->Bool} {b:List Nat}
theorem s9 (hs:s<sz) (hj:j<sz):m*sz+s=c*sz+j↔m=c/\s=j:=by
 constructor
 ·intro h;have e:=ql hs hj h;subst e;exact ⟨Nat.eq_of_mul_eq_mul_right (Qi (QS _) hs) (Nat.add_right_cancel h),rfl⟩
 ·rintro ⟨rfl,rfl⟩;rfl
theorem lh {x y:Bool} {P:Prop} (h1:y=true->x=false) (hP:P↔x=true\/y=true):(x ^^ y)=true↔P:=by
 rw [hP];cases x<;>cases y<;>simp_all
theorem qU (hs:s<sz):∀{n:Nat},n<=sz->((xk sz p b n).testBit (m*sz+s)=true↔s<n/\b.getD s 0=m/\p m=true)
 | 0,_=>by rw [show xk sz p b 0=0 from rfl,Qr];exact ⟨λh=>(nomatch h),λh=>absurd h.1 (Rc _)⟩
 | n+1,h=>by
  have ih:=qU hs (n:=n) (RV h);rw [sT];split
  ·rename_i hp;rw [Qo];refine lh (λq=>gg λq2=>?_) ?_
   ·have:=(s9 hs h).mp (bb.mp q);exact absurd (ih.mp q2).1 (by rw [this.2];exact Q8 _)
   ·rw [ih,bb,s9 hs h];constructor
    ·rintro ⟨h1,h2,h3⟩;rcases Ss.mp h1 with q | q
     ·exact .inl ⟨q,h2,h3⟩
     ·exact .inr ⟨by rw [<- h2,q],q⟩
    ·rintro (⟨h1,h2⟩ | ⟨h1,h2⟩)
     ·exact ⟨QW h1,h2⟩
     ·exact ⟨by rw [h2];exact Qu n,by rw [h2,h1],by rw [h1];exact hp⟩
  ·rename_i hp;rw [ih];constructor
   ·rintro ⟨h1,h2⟩;exact ⟨QW h1,h2⟩
   ·rintro ⟨h1,h2,h3⟩;refine ⟨?_,h2,h3⟩;rcases Ss.mp h1 with q | q
    ·exact q
    ·rw [<- h2,q] at h3;exact absurd h3 hp
theorem Bo (hb:∀i,b.getD i 0<15) (h:n<=sz) (he:(xk sz p b n).testBit e=true):e<15*sz:=by
 refine ao (sS he) ?_;rintro k h1 rfl;have:=QN sz (QH (hb k));lia
theorem rh {r N e:Nat} (hr:r<16) (h:(r <<< N).testBit e=true):N<=e/\e<N+4:=by
 rw [SH,Qa,Qh] at h;have:=dG (n:=4) hr h.2;lia
noncomputable def rV (N f:Nat) (ep:Int):Nat:=if 0<=ep then 2^(N+4+ep.toNat%f) else 0
noncomputable def y8 (N f az:Nat):Nat:=if az=1 then 2^(N+4+f) else 0
theorem rU {N:Nat} {ep:Int} (h:(rV N f ep).testBit e=true):0<=ep/\e=N+4+ep.toNat%f:=by
 unfold rV at h;split at h
 ·exact ⟨‹_›,bb.mp h⟩
 ·rw [Qr] at h;cases h
theorem ro {N az:Nat} (h:(y8 N f az).testBit e=true):az=1/\e=N+4+f:=by
 unfold y8 at h;split at h
 ·exact ⟨‹_›,bb.mp h⟩
 ·rw [Qr] at h;cases h
theorem l5 {az ab:Nat} {ep:Int} (hb:∀i,b.getD i 0<15) (hf:0<f) (hr:ab<16) :
 lsum b f az ab ep=((ab <<< (15*b.length) ^^^ rV (15*b.length) f ep) ^^^ y8 (15*b.length) f az) ^^^ xk b.length (λm=>decide (m≠0)) b b.length:=by
 have hm:ep.toNat%f<f:=SK _ hf
 have d1:ab <<< (15*b.length) ^^^ rV (15*b.length) f ep=ab <<< (15*b.length)+rV (15*b.length) f ep:=iy λi h1 h2=>by
  have:=rh hr h1;have:=(rU h2).2;lia
 have lo:∀i,(ab <<< (15*b.length) ^^^ rV (15*b.length) f ep).testBit i=true->15*b.length<=i/\i<15*b.length+4+f:=λi h=>by
  rw [Qo] at h;by_cases q:(ab <<< (15*b.length)).testBit i=true
  ·have:=rh hr q;lia
  ·rw [gg q,Tn] at h;have:=(rU h).2;lia
 have d2:(ab <<< (15*b.length) ^^^ rV (15*b.length) f ep) ^^^ y8 (15*b.length) f az=(ab <<< (15*b.length) ^^^ rV (15*b.length) f ep)+y8 (15*b.length) f az:=iy λi h1 h2=>by
  have:=lo i h1;have:=(ro h2).2;lia
 have d3:=iy (x:=(ab <<< (15*b.length) ^^^ rV (15*b.length) f ep) ^^^ y8 (15*b.length) f az) (y:=xk b.length (λm=>decide (m≠0)) b b.length) λi h1 h2=>by
  have h2:=Bo hb (Qn _) h2;rw [Qo] at h1;by_cases q:(ab <<< (15*b.length) ^^^ rV (15*b.length) f ep).testBit i=true
  ·have:=lo i q;lia
  ·rw [gg q,Tn] at h1;have:=(ro h1).2;lia
 rw [d3,d2,d1,qT (Qn _)];rfl
theorem qO (g:ba G R) (hf:0<G.aa) (hr:R.ab<16):kL G R=lsum R.ae G.aa R.af R.ab R.ep:=by
 have hb:∀i,R.ae.getD i 0<15:=λi=>by
  by_cases q:bd R i=0
  ·exact Qi (Rb q) (by decide)
  ·exact (g.mn i q).1
 rw [l5 hb hf hr,g.bl];rfl
theorem z4 (g:ba G R):z5 p R.ae=xk G.size p R.ae G.size:=by
 unfold z5;rw [g.bl,qT (Qn _)]
def jQ {b':List Nat} {az ab who' rights':Nat} {ep ep':Int}:Prop:=∀(hl:b'.length=b.length) (hb:∀i,b.getD i 0<15) (hb':∀i,b'.getD i 0<15) (hf:0<f) (hr:ab<16) (hr':rights'<16) (hw:az<2) (hw':who'<2) (h:lsum b f az ab ep=lsum b' f who' rights' ep'),b=b'/\az=who'/\ab=rights'/\(0<=ep↔0<=ep')/\(0<=ep->ep.toNat%f=ep'.toNat%f)
theorem wI {b':List Nat} {az ab who' rights':Nat} {ep ep':Int}:@jQ f b b' az ab who' rights' ep ep':=au (S:=λx:(Nat×List Nat×List Nat×Nat)×(Nat×Nat×Nat×Int)×Int=>@jQ x.1.1 x.1.2.1 x.1.2.2.1 x.1.2.2.2 x.2.1.1 x.2.1.2.1 x.2.1.2.2.1 x.2.1.2.2.2 x.2.2) (x:=((0,[],[],0),(0,0,0,0),0)) (by
 refine (?_:∀f b b' az ab who' rights' ep ep',@jQ f b b' az ab who' rights' ep ep') _ _ _ _ _ _ _ _ _;intro f b b' az ab who' rights' ep ep' hl hb hb' hf hr hr' hw hw' h;rw [l5 hb hf hr,l5 hb' hf hr',hl] at h;have hm:ep.toNat%f<f:=SK _ hf;have hm':ep'.toNat%f<f:=SK _ hf
 have T:∀(i:Nat),((((ab <<< (15*b.length)).testBit i ^^ (rV (15*b.length) f ep).testBit i) ^^ (y8 (15*b.length) f az).testBit i) ^^ (xk b.length (λm=>decide (m≠0)) b b.length).testBit i) =
  ((((rights' <<< (15*b.length)).testBit i ^^ (rV (15*b.length) f ep').testBit i) ^^ (y8 (15*b.length) f who').testBit i) ^^ (xk b.length (λm=>decide (m≠0)) b' b.length).testBit i):=λi=>by
  have:=congrArg (λx=>x.testBit i) h;simp only [Qo] at this;exact this
 have nr:∀{r i:Nat},r<16->¬(15*b.length<=i/\i<15*b.length+4)->(r <<< (15*b.length)).testBit i=false:=λh1 h2=>gg λq=>h2 (rh h1 q);have ne:∀{e:Int} {i:Nat},i≠15*b.length+4+e.toNat%f->(rV (15*b.length) f e).testBit i=false:=λh1=>gg λq=>h1 (rU q).2;have ns:∀{w i:Nat},i≠15*b.length+4+f->(y8 (15*b.length) f w).testBit i=false:=λh1=>gg λq=>h1 (ro q).2;have nx:∀{b1:List Nat} {i:Nat},(∀i,b1.getD i 0<15)->15*b.length<=i->(xk b.length (λm=>decide (m≠0)) b1 b.length).testBit i=false:=λh1 h2=>gg λq=>absurd (Bo h1 (Qn _) q) (Rv.mpr h2);refine ⟨eJ hl.symm λs=>?_,?_,?_,?_⟩
 ·rcases Qw s b.length with hs | hs
  ·have X:∀m,m<15->((b.getD s 0=m/\m≠0)↔(b'.getD s 0=m/\m≠0)):=λm hm=>by
    have lt:m*b.length+s<15*b.length:=by
     have:=QN b.length (QH hm);lia
    have:=T (m*b.length+s);rw [nr hr (by lia),nr hr' (by lia),ne (by lia),ne (by lia),ns (by lia),ns (by lia)] at this;simp only [Tn,Si] at this;have a1:=qU (p:=λm=>decide (m≠0)) (b:=b) (m:=m) hs (Qn _);have a2:=qU (p:=λm=>decide (m≠0)) (b:=b') (m:=m) hs (Qn _);rw [<- this,a1,Qh] at a2;exact ⟨λq=>(a2.mp ⟨hs,q⟩).2,λq=>(a2.mpr ⟨hs,q⟩).2⟩
   have h1:=X _ (hb s);have h2:=X _ (hb' s);by_cases q:b.getD s 0=0
   ·by_cases q':b'.getD s 0=0
    ·rw [q,q']
    ·exact (h2.mpr ⟨rfl,q'⟩).1
   ·exact (h1.mp ⟨rfl,q⟩).1.symm
  ·rw [hZ hs,hZ (hl ▸ hs)]
 ·have:=T (15*b.length+4+f);rw [nr hr (by lia),nr hr' (by lia),ne (by lia),ne (by lia),nx hb (by lia),nx hb' (by lia)] at this;simp only [Tn,Si] at this;unfold y8 at this;have t1:(2^(15*b.length+4+f)).testBit (15*b.length+4+f)=true:=bb.mpr rfl
  have:az=1↔who'=1:=by
   by_cases q:az=1
   ·rw [Qk q,t1] at this;by_cases q':who'=1
    ·exact ⟨λ_=>q',λ_=>q⟩
    ·rw [Qb q',Qr] at this;cases this
   ·rw [Qb q,Qr] at this;by_cases q':who'=1
    ·rw [Qk q',t1] at this;cases this
    ·exact ⟨λz=>absurd z q,λz=>absurd z q'⟩
  lia
 ·have X:∀j,j<4->ab.testBit j=rights'.testBit j:=λj hj=>by
   have:=T (15*b.length+j);rw [ne (by lia),ne (by lia),ns (by lia),ns (by lia),nx hb (by exact QA _ _),nx hb' (by exact QA _ _)] at this;simp only [Si] at this;rw [SH,SH,Rh,Qq (QA _ _)] at this;exact this
  rw [yI _ hr,yI _ hr',X 0 (by decide),X 1 (by decide),X 2 (by decide),X 3 (by decide)]
 ·have X:∀x,x<f->((0<=ep/\ep.toNat%f=x)↔(0<=ep'/\ep'.toNat%f=x)):=λx hx=>by
   have:=T (15*b.length+4+x);rw [nr hr (by lia),nr hr' (by lia),ns (by lia),ns (by lia),nx hb (by lia),nx hb' (by lia)] at this;simp only [Tn,Si] at this
   have E:∀e:Int,(rV (15*b.length) f e).testBit (15*b.length+4+x)=true↔0<=e/\e.toNat%f=x:=λe=>by
    unfold rV;split
    ·rename_i q;rw [bb];exact ⟨λz=>⟨q,by lia⟩,λz=>by rw [z.2]⟩
    ·rename_i q;rw [Qr];exact ⟨λz=>(nomatch z),λz=>absurd z.1 q⟩
   rw [<- E ep,<- E ep',this]
  have h1:=X _ hm;have h2:=X _ hm'
  exact ⟨⟨λq=>(h1.mp ⟨q,rfl⟩).1,λq=>(h2.mpr ⟨q,rfl⟩).1⟩,λq=>(h1.mp ⟨q,rfl⟩).2.symm⟩) ((f,b,b',az),(ab,who',rights',ep),ep')
theorem wF:ux sz b (k+1)=if b.getD k 0≠0 then ux sz b k ^^^ 2^(b.getD k 0*sz+(cl b k).getD (b.getD k 0) 0) else ux sz b k:=rfl
theorem tY:cl b (k+1)=if b.getD k 0≠0 then (cl b k).set (b.getD k 0) ((cl b k).getD (b.getD k 0) 0+1) else cl b k:=rfl
theorem tu (hj:j<sz):∀{k:Nat},k<=sz->(∀i,b.getD i 0<15)->((ux sz b k).testBit (m*sz+j)=true↔m≠0/\j<(cl b k).getD m 0)
 | 0,_,_=>by
  have:(cl b 0).getD m 0=0:=Nat.le_zero.mp nT;rw [this,show ux sz b 0=0 from rfl,Qr];exact ⟨λh=>(nomatch h),λh=>absurd h.2 (Rc _)⟩
 | k+1,h,hb=>by
  have ih:=tu hj (k:=k) (RV h) hb;rw [wF,tY];split
  ·rename_i h0;have hc:(cl b k).getD (b.getD k 0) 0<sz:=Qi nT h;rw [Qo,cT (by rw [ik];exact hb k)];refine lh (λq=>gg λq2=>?_) ?_
   ·refine aD ((s9 hj hc).mp (bb.mp q)) λq3 q4=>?_;have:=(ih.mp q2).2;rw [q3,q4] at this;exact Q8 _ this
   ·rw [ih,bb,s9 hj hc];by_cases q:m=b.getD k 0
    ·rw [Qk q,q];exact ⟨λz=>(Ss.mp z.2).elim (λy=>.inl ⟨h0,y⟩) λy=>.inr ⟨rfl,y⟩,λz=>z.elim (λy=>⟨h0,QW y.2⟩) λy=>⟨h0,by rw [y.2];exact Qu _⟩⟩
    ·rw [Qb q];exact ⟨.inl,λz=>z.elim id λy=>absurd y.1 q⟩
  ·exact ih
noncomputable def mT (sz:Nat) (c:Nat->Nat):Nat->Nat
 | 0=>0
 | k+1=>mT sz c k+(2^c (1+k) -1) <<< ((1+k)*sz)
theorem BD {c:Nat->Nat} (hc:∀m,c m<=sz):∀{k:Nat},mT sz c k<2^((1+k)*sz)
 | 0=>Ro _
 | k+1=>by
  have ih:=BD hc (k:=k);unfold mT;have h1:2^c (1+k)<=2^sz:=RB (by decide) (hc _);rw [RL]
  have e:2^((1+(k+1))*sz)=2^sz*2^((1+k)*sz):=by
   rw [<- Nat.pow_add];congr 1;rw [<- RN,TU,SG]
  rw [e];have h2:(2^c (1+k) -1)*2^((1+k)*sz)<=(2^sz-1)*2^((1+k)*sz):=QN _ (Nat.sub_le_sub_right h1 1);have h3:2^((1+k)*sz)<=2^sz*2^((1+k)*sz):=TQ _ (Ro _);rw [Nat.sub_mul (2^sz),Nat.one_mul] at h2;exact P7 (Nat.add_lt_add_of_lt_of_le ih h2) (Rb (Q0 h3))
theorem wH {c:Nat->Nat} (hc:∀m,c m<=sz) (hj:j<sz):∀{k:Nat},(mT sz c k).testBit (m*sz+j)=true↔(1<=m/\m<=k)/\j<c m
 | 0=>by
  rw [show mT sz c 0=0 from rfl,Qr];exact ⟨λh=>(nomatch h),λh=>by lia⟩
 | k+1=>by
  have ih:=wH hc hj (k:=k);have hlt:=BD hc (k:=k);unfold mT;rw [RL,SG,RT _ (2^_),Nat.testBit_two_pow_mul_add _ hlt];split
  ·rename_i h;rw [ih]
   have:m<1+k:=by
    rcases Qw m (1+k) with q | q
    ·exact q
    ·have:=QN sz q;lia
   constructor
   ·rintro ⟨⟨h1,h2⟩,h3⟩;exact ⟨⟨h1,by exact Rl ‹_›⟩,h3⟩
   ·rintro ⟨⟨h1,h2⟩,h3⟩;exact ⟨⟨h1,by lia⟩,h3⟩
  ·rename_i h
   have hm:1+k<=m:=by
    rcases Qw m (1+k) with q | q
    ·have:=QN sz (show m+1<=1+k from q);rw [TU] at this;lia
    ·exact q
   rw [TB,Qh];rcases Qw (1+k) m with q | q
   ·have h2:=QN sz (show 1+k+1<=m from q);rw [TU] at h2;have:=hc (1+k);exact ⟨λz=>absurd z (Rv.mpr (P8 this (Nat.le_sub_of_add_le (P8 (Rb (SG _ _)) (P8 h2 (QA _ _)))))),λz=>absurd z.1.2 (Nat.not_le.mpr (SG 1 k ▸ q))⟩
   ·have e:m=1+k:=by exact RH ‹_› ‹_›
    subst e;rw [Rh];exact ⟨λz=>⟨⟨by exact QA _ _,by lia⟩,z⟩,λz=>z.2⟩
noncomputable def Gg (L:List Nat):Nat:=((List.range 14).map λk=>(2^L.count (1+k) -1) <<< ((1+k)*L.length)).sum
theorem wG {c:Nat->Nat}:∀{k:Nat},((List.range k).map λk=>(2^c (1+k) -1) <<< ((1+k)*sz)).sum=mT sz c k
 | 0=>rfl
 | k+1=>by
  rw [List.range_succ,Rd,List.sum_append_nat,wG];rfl
theorem mw (hm:m≠0) (h15:m<15) (hb:∀i,b.getD i 0<15):∀{k:Nat},k<=b.length->(cl b k).getD m 0=(b.take k).count m
 | 0,_=>by rw [List.take_zero];exact Nat.le_zero.mp nT
 | k+1,h=>by
  have ih:=mw hm h15 hb (k:=k) (RV h);rw [Ti,List.count_append,<- ih,Qg h]
  have e:b[k]=b.getD k 0:=by rw [P9,Qg h];rfl
  rw [e];show _=_+[b.getD k 0].count m;rw [List.count_singleton];rw [tY];split
  ·rw [cT (by rw [ik];exact hb k)];split
   ·rename_i q;rw [Qk (Ru.mpr q.symm),q]
   ·rename_i q;rw [Qb λz=>q (Ru.mp z).symm];rfl
  ·rename_i q;have q:b.getD k 0=0:=QD.mp q;rw [Qb λz=>hm ((Ru.mp z).symm.trans q)];rfl
theorem Al (hb:∀i,b.getD i 0<15) (h0:0<b.length):ux b.length b b.length=Gg b:=by
 unfold Gg;rw [wG (c:=λm=>b.count m)];refine cM λe=>?_;have hj:e%b.length<b.length:=SK _ h0
 have he:e=e / b.length*b.length+e%b.length:=by rw [RT];exact (RJ ..).symm
 rw [he,QR,tu hj (Qn _) hb,wH (λm=>List.count_le_length) hj];constructor
 ·rintro ⟨h1,h2⟩
  have h15:e / b.length<15:=by
   rcases Qw (e / b.length) 15 with q | q
   ·exact q
   ·rw [hZ (by rw [ik];exact q)] at h2;exact absurd h2 (Rc _)
  rw [mw h1 h15 hb (Qn _),SX] at h2;exact ⟨⟨Qv h1,QH h15⟩,h2⟩
 ·rintro ⟨⟨h1,h2⟩,h3⟩;rw [mw (QL h1) (Ry h2) hb (Qn _),SX];exact ⟨QL h1,h3⟩
end
noncomputable def tT (f s g:Nat):Int:=((g%f:Nat):Int) - ((s%f:Nat):Int)
noncomputable def qB (f s g:Nat):Int:=((g / f:Nat):Int) - ((s / f:Nat):Int)
noncomputable def n0 (f s g:Nat):Nat:=min (tT f s g).natAbs (qB f s g).natAbs
noncomputable def n1 (f s g:Nat):Nat:=max (tT f s g).natAbs (qB f s g).natAbs
noncomputable def jF (f s g:Nat):Int:=(qB f s g).fdiv (n1 f s g)*f+(tT f s g).fdiv (n1 f s g)
noncomputable def Bf (f s g:Nat):Bool:=decide (n1 f s g≠0/\(n0 f s g=0\/n0 f s g=n1 f s g))
noncomputable def zw (G:aE):Bool:=cQ G.size λs=>cQ G.size λg=>
 (cQ 2 λc=>!(ct G c s).testBit g || decide ((tT G.aa s g).natAbs=1/\qB G.aa s g=if c=1 then -1 else 1)) &&
 (!(G.a8.getD s 0).testBit g || decide (n0 G.aa s g=1/\n1 G.aa s g=2)) &&
 (!decide (dirOf G s g<8) || (Bf G.aa s g && decide (dirOf G s g<4↔n0 G.aa s g=0))) &&
 (!Bf G.aa s g || (decide ((s:Int)+n1 G.aa s g*jF G.aa s g=g/\((qB G.aa s g).fdiv (n1 G.aa s g)).natAbs<=25) && cQ (n1 G.aa s g) λj=>decide (j=0) ||
  decide (0<=(s:Int)+j*jF G.aa s g/\(s:Int)+j*jF G.aa s g<G.size/\(s:Int)+j*jF G.aa s g≠g) && (a7 G s g).testBit ((s:Int)+j*jF G.aa s g).toNat))
theorem GO:zw mL=true:=by decide +kernel
theorem GL:zw kC=true:=by decide +kernel
theorem GN:zw mK=true:=by decide +kernel
section
variable {d s g c k:Nat} {H:Hp} {G:aE} {q:V->Hp->Prop} {L:List Nat} {x:Addr}
structure L3 (G:aE) (s g:Nat):Prop where
 p:∀c,c<2->(ct G c s).testBit g=true->(tT G.aa s g).natAbs=1/\qB G.aa s g=if c=1 then -1 else 1
 n:(G.a8.getD s 0).testBit g=true->n0 G.aa s g=1/\n1 G.aa s g=2
 l:dirOf G s g<8->Bf G.aa s g=true/\(dirOf G s g<4↔n0 G.aa s g=0)
 e:Bf G.aa s g=true->(s:Int)+n1 G.aa s g*jF G.aa s g=g
 d:Bf G.aa s g=true->((qB G.aa s g).fdiv (n1 G.aa s g)).natAbs<=25
 w:Bf G.aa s g=true->∀j,j<n1 G.aa s g->j≠0->(0<=(s:Int)+j*jF G.aa s g/\(s:Int)+j*jF G.aa s g<G.size/\(s:Int)+j*jF G.aa s g≠g)/\(a7 G s g).testBit ((s:Int)+j*jF G.aa s g).toNat=true
theorem hY {a b:Bool} (h:(!a || b)=true) (k:a=true):b=true:=by rw [k] at h;exact h
def pe:Prop:=∀(B:BG G) (hs:s<G.size) (hg:g<G.size),L3 G s g
theorem D0:@pe s g G:=au (S:=λx:Nat×Nat×aE=>@pe x.1 x.2.1 x.2.2) (x:=(0,0,bO)) (by
 refine (?_:∀s g G,@pe s g G) _ _ _;intro s g G B hs hg;have h:=aK (aK (tab (f:=zw) GO GL GN B) hs) hg;rw [Qa,Qa,Qa] at h;refine aD h ?_;rintro ⟨⟨h1,h2⟩,h3⟩ h4;refine ⟨λc hc k=>Qe (hY (aK h1 hc) k),λk=>Qe (hY h2 k),λk=>?_,λk=>?_,λk=>?_,λk j hj h0=>?_⟩
 ·have:=hY h3 (Qq k);rw [Qa] at this;exact ⟨this.1,Qe this.2⟩
 ·have:=hY h4 k;rw [Qa] at this;exact (Qe this.1).1
 ·have:=hY h4 k;rw [Qa] at this;exact (Qe this.1).2
 ·have:=hY h4 k;rw [Qa] at this;have:=aK this.2 hj;rw [decide_eq_false h0,Bool.false_or,Qa] at this
  exact ⟨Qe this.1,this.2⟩) (s,g,G)
theorem qZ {a b:Nat} {ys:List Int} (hp:ys.Perm [(a:Int),(b:Int)]) (hs:ys.Pairwise (·<=·)):ys.map V.int=av [min a b,max a b]:=by
 have hl:=hp.length_eq
 match ys,hl with
 | [u,v],_=>
  have huv:u<=v:=by
   have:=List.pairwise_cons.mp hs;exact this.1 v (Qt.mpr rfl)
  have h1:u=a/\v=b\/u=b/\v=a:=by
   have hu:u∈[(a:Int),(b:Int)]:=hp.subset QB;rcases Sw.mp hu with z | z
   ·subst z;exact .inl ⟨rfl,List.singleton_inj.mp (List.perm_singleton.mp hp.cons_inv)⟩
   ·have z:=Qt.mp z;subst z;exact .inr ⟨rfl,List.singleton_inj.mp (List.perm_singleton.mp (hp.trans (List.Perm.swap ..)).cons_inv)⟩
  show [V.int u,V.int v]=[nv (min a b),nv (max a b)];rcases h1 with ⟨rfl,rfl⟩ | ⟨rfl,rfl⟩
  ·rw [Sp (by exact QT.mp ‹_›),Nat.max_eq_right (by exact QT.mp ‹_›)]
  ·rw [Nat.min_eq_right (by exact QT.mp ‹_›),Nat.max_eq_left (by exact QT.mp ‹_›)]
theorem uY {i:Int} (h:q (nv i.natAbs) H):b8 .abs [.int i] H q:=mF.abs h
theorem Ct {a b:Nat} (h1:H x=some (.list (av [a,b]))) (h:da (av [min a b,max a b]) H q):b8 .sorted [.ref x] H q:=by
 refine mF.sorted h1 (cY _) λys hp hs=>?_;rw [qZ hp (hs (show 2<64 by decide))];exact h
theorem rR {l m:List Nat}:PyData.eqv (.list ((l.map Int.ofNat).map .int)) (.list ((m.map Int.ofNat).map .int))=decide (l=m):=by
 rw [PyData.eqv,PySem.W.ked_eqvAll];exact dz ⟨λe=>(List.map_inj_right λa b e=>Tv e).mp e,λe=>e ▸ rfl⟩
theorem Ks {y:Addr} {l m:List Nat} (h1:H x=some (.list (av l))) (h2:H y=some (.list (av m))) (h:q (.bool (decide (l=m))) H):bM .eq (.ref x) (.ref y) H q:=
 .mk ⟨.flat (.list h1 (cY _)),.flat (.list h2 (cY _)),by rw [rR];exact h⟩
theorem Ah {a b c:Nat} (h:q (.bool (decide (¬(c=a\/c=b)))) H):bM .notin (nv c) (.tup [nv a,nv b]) H q:=by
 refine .mk (.mk (.tup rfl) ?_);show q (.bool (!((a:Int) == c || ((b:Int) == c || false)))) H
 rw [show (!((a:Int) == c || ((b:Int) == c || false)))=decide (¬(c=a\/c=b)) by
  rw [TN,QR,QI,Tu,Sy,Sy,Qh];lia]
 exact h
theorem jN {x:Int} {y:Nat} (h0:y≠0) (h1:y<1073741824) (h:q (.int (x.fdiv y)) H):ar .fdiv (.int x) (nv y) H q:=by
 exact eX.int ⟨⟨by exact pz ‹_›,by rw [TG];exact h1⟩,h⟩
theorem yO {a b n:Nat} (ha:a<=n) (hb:b<=n):((a:Int) - (b:Int)).natAbs<=n:=by lia
theorem Gf (hs:s<G.size) (hg:g<G.size) (h25:G.size<=25):n1 G.aa s g<=25:=by
 have hs:=P8 (Qp hs) h25;have hg:=P8 (Qp hg) h25;exact Nat.max_le.mpr ⟨yO (P8 (Nat.mod_le ..) hg) (P8 (Nat.mod_le ..) hs),yO (P8 (Tw ..) hg) (P8 (Tw ..) hs)⟩
def xX:Prop:=∀(B:BG G) (hL:H x=some (.list (av L))) (hl:L.length=G.size) (hs:s<G.size) (hg:g<G.size) (h1:1<=L.getD s 0%8) (h5:L.getD s 0%8<=5) (h15:L.getD s 0<15) (h:∀b,((rel G (L.getD s 0 / 8) (L.getD s 0%8) s g=true/\a7 G s g &&& Af L=0)->b=true)->q (.bool b) H),Call (d+1) 98 [.ref x,nv G.aa,nv s,nv g] H q
theorem KD:@xX d s g H G q L x:=au (S:=λx:(Nat×Nat×Nat×Hp)×(aE×(V->Hp->Prop)×List Nat×Addr)=>@xX x.1.1 x.1.2.1 x.1.2.2.1 x.1.2.2.2 x.2.1 x.2.2.1 x.2.2.2.1 x.2.2.2.2) (x:=((0,0,0,λ_=>none),(bO,λ_ _=>True,[],0))) (by
 refine (?_:∀d s g H G q L x,@xX d s g H G q L x) _ _ _ _ _ _ _ _;intro d s g H G q L x B hL hl hs hg h1 h5 h15 h;have f0:G.aa≠0:=QL (P7 RA B.ok.f0);have T:=D0 B hs hg;have n25:=Gf hs hg B.ok.i3;refine aq rfl rfl ?_;refine (?_:aO _ _ [_,_,_,_,_,_,_,_,_,_] _ _);refine aU hL (by rw [hl];exact hs) ?_;refine dX (y:=8) (by decide) ?_;refine dX f0 ?_;refine dX f0 ?_;refine dc ?_;refine (?_:aO _ _ [_,_,_,_,_,_,_,_,_,_] _ _);refine dd f0 (by have:=B.ok.qz;exact Qi ‹_› (by decide)) ?_;refine dd f0 (by have:=B.ok.qz;exact Qi ‹_› (by decide)) ?_;refine dc ?_;refine (?_:aO _ _ [_,_,_,_,_,some (.int (tT G.aa s g)),some (.int (qB G.aa s g)),_,_,_] _ _);refine (?_:b8 .abs _ _ _);refine uY ?_;refine (?_:b8 .abs _ _ _);refine uY ?_;refine new_ (show 2<=1000000 by decide) λb1 hb1=>?_;refine (?_:b8 .sorted _ _ _);refine Ct (a:=(tT G.aa s g).natAbs) (b:=(qB G.aa s g).natAbs) (Hp.ai ..) ?_;refine new_ (show 2<=1000000 by decide) λb2 hb2=>?_;refine aD (Hp.none_of hb2) λhb2 hn2=>?_;have s2:H.Sub ((H.upd b1 (.list [nv (tT G.aa s g).natAbs,nv (qB G.aa s g).natAbs])).upd b2 (.list (av [n0 G.aa s g,n1 G.aa s g]))):=Hp.Sub.trans (Hp.ax hb1) (Hp.ax ((Hp.ay hb2).trans hn2));have e2:((H.upd b1 (.list [nv (tT G.aa s g).natAbs,nv (qB G.aa s g).natAbs])).upd b2 (.list (av [n0 G.aa s g,n1 G.aa s g]))) b2=some (.list (av [n0 G.aa s g,n1 G.aa s g])):=Hp.ai ..;refine (?_:aO _ _ [_,_,_,_,_,_,_,some (.ref b2),_,_] ((H.upd b1 (.list [nv (tT G.aa s g).natAbs,nv (qB G.aa s g).natAbs])).upd b2 (.list (av [n0 G.aa s g,n1 G.aa s g]))) _);generalize (H.upd b1 (.list [nv (tT G.aa s g).natAbs,nv (qB G.aa s g).natAbs])).upd b2 (.list (av [n0 G.aa s g,n1 G.aa s g]))=H2 at s2 e2 ⊢;have fin:∀b H' O,H.Sub H'->((rel G (L.getD s 0 / 8) (L.getD s 0%8) s g=true/\a7 G s g &&& Af L=0)->b=true)->dq q (.ret (.bool b)) O H':=λb H' O s hb=>gz H s (h b hb);generalize dq q=K0 at fin ⊢;have hL2:=s2 _ _ hL;refine aR ?_
 have c2:L.getD s 0 / 8<2:=by exact zc ‹_›
 refine ag (λm1=>?_) λm1=>?_
 ·have rp:rel G (L.getD s 0 / 8) (L.getD s 0%8) s g=true->_:=λr=>T.p _ c2 (by rw [m1] at r;exact r);refine (?_:b8 .abs _ _ _);refine uY ?_;refine aR ?_;refine ag (λe=>?_) λe=>?_
  ·refine aU hL2 (by rw [hl];exact hs) ?_;refine pE ?_;refine ag (λe3=>?_) λe3=>?_
   ·refine eP ?_;refine t6 ?_;refine fin _ _ _ s2 λhr=>Qq ((rp hr.1).2.trans (Qk (by have e3:8<L.getD s 0:=e3;lia)))
   ·refine t6 ?_;refine fin _ _ _ s2 λhr=>Qq ((rp hr.1).2.trans (Qb (by have e3:¬8<L.getD s 0:=e3;lia)))
  ·exact fin _ _ _ s2 λhr=>absurd (rp hr.1).1 e
 refine aR ?_;refine ag (λm2=>?_) λm2=>?_
 ·refine new_ (show 2<=1000000 by decide) λb3 hb3=>?_;refine (?_:bM _ _ _ _ _);refine Ks (l:=[n0 G.aa s g,n1 G.aa s g]) (m:=[1,2]) ((Hp.ay (Hp.dN e2 hb3)).trans e2) (Hp.ai ..) ?_;refine fin _ _ _ (Hp.Sub.trans s2 (Hp.ax hb3)) λhr=>Qq ?_;have r:=hr.1;rw [m2] at r;have:=T.n r;rw [this.1,this.2]
 refine aR ?_;have m1:L.getD s 0%8≠1:=m1;have m2:L.getD s 0%8≠2:=m2;refine ag (λm6=>absurd m6 (λz=>by have z:L.getD s 0%8=6:=z;lia)) λ_=>?_
 have k3:L.getD s 0%8=3\/L.getD s 0%8=4\/L.getD s 0%8=5:=by lia
 have rl:rel G (L.getD s 0 / 8) (L.getD s 0%8) s g=true->Bf G.aa s g=true/\(L.getD s 0%8=3->n0 G.aa s g≠0)/\(L.getD s 0%8=4->n0 G.aa s g=0):=λr=>by
  rcases (oF k3).mp r with ⟨a1,a2,a3⟩ | ⟨a1,a3⟩
  ·have:=T.l a2;exact ⟨this.1,λ_ z=>by have:=this.2.mpr z;exact absurd ‹_› (Rv.mpr ‹_›),λz=>by lia⟩
  ·have:=T.l (Q7 a1 (by decide));exact ⟨this.1,λz=>by lia,λ_=>this.2.mp a1⟩
 have no:∀{O},(rel G (L.getD s 0 / 8) (L.getD s 0%8) s g=true->False)->K0 (.ret (.bool false)) O H2:=λz=>fin _ _ _ s2 λhr=>(z hr.1).elim
 have last:Bf G.aa s g=true->aO (Call d) (va 9 Jd.body) [some (.ref x),some (nv G.aa),some (nv s),some (nv g),some (nv (L.getD s 0%8)),some (.int (tT G.aa s g)),some (.int (qB G.aa s g)),some (.ref b2),none,none] H2 K0:=λha=>by
  have hn:=(Qe ha).1;refine aU (i:=1) e2 (show 1<2 by decide) ?_;refine (?_:ar _ _ (nv (n1 G.aa s g)) _ _);refine jN hn (by exact Qi ‹_› (by decide)) ?_;refine wy ?_ ?_
  ·have:((qB G.aa s g).fdiv (n1 G.aa s g)).natAbs<=25:=T.d ha;exact Qi this (by decide)
  refine aU (i:=1) e2 (show 1<2 by decide) ?_;refine (?_:ar _ _ (nv (n1 G.aa s g)) _ _);refine jN hn (by exact Qi ‹_› (by decide)) ?_;refine g5 ?_;refine (?_:aO _ _ [_,_,_,_,_,_,_,_,some (.int (jF G.aa s g)),_] _ _);refine g5 (x:=(s:Int)) ?_;refine (?_:aO _ _ [_,_,_,_,_,_,_,_,_,_] _ _);refine lq (λm ρ' H'=>H'=H2/\∃j,1<=j/\j<=n1 G.aa s g/\m=n1 G.aa s g-j/\ρ'=[some (.ref x),some (nv G.aa),some (nv s),some (nv g),some (nv (L.getD s 0%8)),some (.int (tT G.aa s g)),some (.int (qB G.aa s g)),some (.ref b2),some (.int (jF G.aa s g)),some (.int ((s:Int)+j*jF G.aa s g))]) (n1 G.aa s g-1) ⟨rfl,1,Qn _,Qv hn,rfl,by rw [Int.natCast_one,Int.one_mul]⟩ λm ρ' H' K X hI hn' hr hb hX=>?_;obtain ⟨rfl,j,j1,j2,rfl,rfl⟩:=hI;refine qE ?_;refine ag (λe=>?_) λe=>?_
  ·have jn:j≠n1 G.aa s g:=λz=>e (by rw [z];exact T.e ha);have ⟨⟨w1,w2,_⟩,w4⟩:=T.w ha j (by exact QQ ‹_› ‹_›) (by exact QL ‹_›);refine bJ (RP w1) λsp hsp=>?_;rw [hsp] at w2 w4 ⊢;have w4:(a7 G s g).testBit sp=true:=w4;refine aU hL2 (by rw [hl];exact QT.mp ‹_›) ?_;refine eD ?_;refine ag (λe3=>?_) λ_=>?_
   ·refine hr _ _ _ (fin _ _ _ s2 λhz=>?_);exact (j7.mp hz.2 sp w4 (lz.mpr e3)).elim
   ·refine bG ?_;refine g5 ?_;refine hn' (n1 G.aa s g- (j+1)) _ _ (by exact Ud (QQ ‹_› ‹_›) (Qu _)) ⟨rfl,j+1,by exact RI _ _,by exact QQ ‹_› ‹_›,rfl,?_⟩;rewrite [T7,Int.add_mul,Int.natCast_one,Int.one_mul,<- Int.add_assoc,hsp];rfl
  ·refine hX _ _ ?_;exact fin _ _ _ s2 λ_=>rfl
 have last2:Bf G.aa s g=true->aO (Call d) (va 8 Jd.body) [some (.ref x),some (nv G.aa),some (nv s),some (nv g),some (nv (L.getD s 0%8)),some (.int (tT G.aa s g)),some (.int (qB G.aa s g)),some (.ref b2),none,none] H2 K0:=λha=>by
  refine aR ?_;refine (?_:cF _ _ _);refine ag (λe3=>?_) λe3=>?_
  ·refine (?_:aN _ _ _ _);refine aU (i:=0) e2 (show 0<2 by decide) ?_;refine aR ?_;refine (?_:cF _ _ _);refine ag (λe4=>?_) λe4=>?_
   ·refine (?_:cF _ _ _);refine ag (λ_=>?_) λz=>absurd e4 z;exact no λr=>(rl r).2.1 e3 e4
   ·refine (?_:bM _ _ _ _ _);refine aR ?_;refine (?_:cF _ _ _);refine ag (λz=>absurd (e3.symm.trans z) (show ¬3=4 by decide)) λz=>?_;refine (?_:cF _ _ _);refine ag (λy=>absurd y z) λ_=>?_;exact last ha
  ·refine (?_:cF _ _ _);refine ag (λy=>absurd y e3) λ_=>?_;refine (?_:bM _ _ _ _ _);refine aR ?_;refine (?_:cF _ _ _);refine ag (λe4=>?_) λe4=>?_
   ·refine (?_:aN _ _ _ _);refine aU (i:=0) e2 (show 0<2 by decide) ?_;refine (?_:bM _ _ _ _ _);refine pE ?_;refine (?_:cF _ _ _);refine ag (λe5=>?_) λe5=>?_
    ·refine no λr=>?_;have e5:0<n0 G.aa s g:=e5;rw [(rl r).2.2 e4] at e5;exact absurd e5 (Q8 0)
    ·exact last ha
   ·refine (?_:cF _ _ _);refine ag (λy=>absurd y e4) λ_=>?_;exact last ha
 refine aU (i:=1) e2 (show 1<2 by decide) ?_;refine aR ?_;refine ag (λe=>?_) λe=>?_
 ·refine ag (λ_=>?_) λz=>absurd e z;exact no λr=>(Qe (rl r).1).1 e
 ·refine (?_:aN _ _ _ _);refine aU (i:=0) e2 (show 0<2 by decide) ?_;refine aU (i:=1) e2 (show 1<2 by decide) ?_;refine ⟨show 2<=1000 by decide,?_⟩;refine (?_:bM _ (nv (n0 G.aa s g)) (.tup [nv 0,nv (n1 G.aa s g)]) _ _);refine Ah ?_;refine ag (λe3=>?_) λe3=>?_
  ·exact no λr=>e3 (Qe (rl r).1).2
  ·exact last2 (Qq ⟨e,QD.mp e3⟩)) ((d,s,g,H),(G,q,L,x))
end
section
variable {d s c k f r o t sp pf az ab rk:Nat} {H:Hp} {q:V->Hp->Prop} {L:List Nat} {x:Addr} {ep:Int}
theorem oY:(Ao L az o t sp pf).length=L.length:=by
 unfold Ao;split
 ·rw [Ql,Ql,Ql]
 ·rw [Ql,Ql]
theorem kY:(za L f az o t sp pf).length=L.length:=by
 unfold za;split
 ·rw [Ql,oY]
 ·exact oY
theorem kX:(y9 L f az o t sp pf).length=L.length:=by
 unfold y9;split
 ·rw [Ql,Ql,kY]
 ·exact kY
theorem An:(kH L f az o t sp pf).length=L.length:=by
 unfold kH;split
 ·rw [Ql,Ql,kX]
 ·exact kX
theorem Gk {vs:List V} (h1:H x=some (.list vs)) (h:da vs H q):b8 .list [.ref x] H q:=mF.list h1 h
theorem CB (hf:0<f) (ho:o<f*rk):o / f*f+f<=f*rk:=by
 have h2:o / f+1<=rk:=RC ho;have h3:=S8 f h2;rw [Nat.mul_succ,RT] at h3;exact h3
theorem eZ {b:Addr} {l:List Nat} {i n:Nat} {P:Hp->Prop} (h2:i<l.length) (h:P (H.out b (l.set i n))):bV (.ref b) (nv i) (nv n) (H.out b l) P:=
 pW (Hp.ai ..) h2 (by rw [Hp.eH];exact h)
section
variable {Γ:Sg} {O:Lc} {Q:Fl->Lc->Hp->Prop}
theorem vP {s r:S} (ρ1:Lc) (H1:Hp) (h:∀K':Fl->Lc->Hp->Prop,K' .next ρ1 H1->wpS Γ s O H K') (hJ:aO Γ r ρ1 H1 Q):aO Γ (.cons s r) O H Q:=h (λfl O H=>match fl with
 | .next=>aO Γ r O H Q
 | .brk=>Q .brk O H
 | .ret v=>Q (.ret v) O H) hJ
theorem CA {s r:S} (H1:Hp) (h:∀K':Fl->Lc->Hp->Prop,K' .next O H1->wpS Γ s O H K') (hJ:aO Γ r O H1 Q):aO Γ (.cons s r) O H Q:=vP O H1 h hJ
theorem ru {s r:S} (P:Lc->Hp->Prop) (h:∀K':Fl->Lc->Hp->Prop,(∀ρ' H',P ρ' H'->K' .next ρ' H')->(∀v ρ' H',Q (.ret v) ρ' H'->K' (.ret v) ρ' H')->(∀ρ' H',Q .brk ρ' H'->K' .brk ρ' H')->wpS Γ s O H K') (hJ:∀ρ' H',P ρ' H'->aO Γ r ρ' H' Q):aO Γ (.cons s r) O H Q:=h (λfl O H=>match fl with
 | .next=>aO Γ r O H Q
 | .brk=>Q .brk O H
 | .ret v=>Q (.ret v) O H) hJ (λ_ _ _ h=>h) λ_ _ h=>h
theorem to_eq {K':Fl->Lc->Hp->Prop} {ρ':Lc} {H' H1:Hp} (j:K' .next O H1) (e:ρ'=O) (e2:H'=H1):K' .next ρ' H':=by rw [e,e2];exact j
end
def su:Prop:=∀(hL:H x=some (.list (av L))) (hf:0<f) (hf8:f<=25) (hl:L.length=f*rk) (h25:L.length<=25) (hrk:1<=rk) (ho:o<L.length) (ht:t<L.length) (hsp:sp<4) (hpf:pf<4) (hw:az<2) (h:∀b,H b=none->q (mQ b (1-az) (l6 (kH L f az o t sp pf) f L.length ab 4) (Am L (kH L f az o t sp pf) f az o t)) (H.out b (kH L f az o t sp pf))),Call (d+2) 103 [mQ x az ab ep,nv (pk o t sp pf),nv f] H q
theorem HT:@su d f o t sp pf az ab rk H q L x ep:=au (S:=λx:(Nat×Nat×Nat×Nat)×(Nat×Nat×Nat×Nat)×(Nat×Hp×(V->Hp->Prop)×List Nat)×(Addr×Int)=>@su x.1.1 x.1.2.1 x.1.2.2.1 x.1.2.2.2 x.2.1.1 x.2.1.2.1 x.2.1.2.2.1 x.2.1.2.2.2 x.2.2.1.1 x.2.2.1.2.1 x.2.2.1.2.2.1 x.2.2.1.2.2.2 x.2.2.2.1 x.2.2.2.2) (x:=((0,0,0,0),(0,0,0,0),(0,λ_=>none,λ_ _=>True,[]),(0,0))) (by
 refine (?_:∀d f o t sp pf az ab rk H q L x ep,@su d f o t sp pf az ab rk H q L x ep) _ _ _ _ _ _ _ _ _ _ _ _ _ _;intro d f o t sp pf az ab rk H q L x ep hL hf hf8 hl h25 hrk ho ht hsp hpf hw h;have f0:f≠0:=QL hf;have rl:=CB (Qv f0) (hl ▸ ho);refine aq rfl rfl ?_;refine (?_:aO _ _ [_,_,_,_,_,_,_,_,_,_,_,_,_,_,_,_] _ _);refine (?_:tupK _ _ _ _);refine mP rfl ?_;refine (?_:aO _ _ [_,_,_,_,_,_,_,_,_,_,_,_,_,_,_,_] _ _);refine dd (y:=64) (by decide) (by decide) ?_;refine dX (y:=64) (by decide) ?_;have FV:o<64:=P7 ho (P8 h25 (by decide));have t64:t<64:=P7 ht (P8 h25 (by decide));rw [oK FV t64];refine dX (y:=64) (by decide) ?_;rw [lS t64];refine dd (y:=16384) (by decide) (by decide) ?_;refine dX (y:=4) (by decide) ?_;rw [lT FV t64 hsp hpf];refine dd f0 (by exact Qi ‹_› (by decide)) ?_;have hd:o / f<=o:=Tw ..;refine bT (by exact Jc ‹_› ‹_› (by rfl)) ?_;refine (?_:aO _ _ [_,_,_,_,_,_,_,_,_,_,_,_,_,_,_,_] _ _);refine (?_:b8 .list _ _ _);refine Gk hL ?_;refine new_ (by rw [Qd];show _<=1000000;exact P8 ‹_› (by decide)) λb hb=>?_;have hx:x≠b:=Hp.dN hL hb;have hLo:∀X,(H.out b X) x=some (.list (av L)):=λX=>(Hp.ay hx).trans hL;refine (?_:aO _ _ [_,_,_,_,_,_,_,_,_,_,_,some (.ref b),_,_,_,_] (H.out b L) _);refine (?_:bV _ _ (nv 0) _ _);refine eZ ho ?_;refine (?_:aO _ _ [_,_,_,_,_,_,_,_,_,_,_,_,_,_,_,_] _ _);refine aU (hLo _) ho ?_;refine (?_:bV _ _ _ _ _);refine eZ (by rw [Ql];exact ht) ?_;refine (?_:aO _ _ [_,_,_,_,_,_,_,_,_,_,_,_,_,_,_,_] _ _);refine CA (H.out b (Ao L az o t sp pf)) (λK' j=>?_) ?_
 ·refine aR ?_;refine ag (λe=>?_) λe=>?_
  ·refine bT (y:=8) (by exact P7 ‹_› (by decide)) ?_;refine p_add ?_;refine dd (y:=4096) (by decide) (by decide) ?_;refine dX (y:=4) (by decide) ?_;rw [C9 FV t64 hpf];refine p_add ?_;refine eZ (by rw [Ql,Ql];exact ht) ?_;exact to_eq j rfl (by unfold Ao;rw [Qk e])
  ·exact to_eq j rfl (by unfold Ao;rw [Qb e])
 refine CA (H.out b (za L f az o t sp pf)) (λK' j=>?_) ?_
 ·refine aR ?_;refine ag (λe=>?_) λe=>?_
  ·refine dX f0 ?_;refine p_add ?_;refine eZ (n:=0) (by rw [oY];have:=SK t (Qv f0);lia) ?_;exact to_eq j rfl (by unfold za;rw [Qk e])
  ·exact to_eq j rfl (by unfold za;rw [Qb e])
 refine CA (H.out b (y9 L f az o t sp pf)) (λK' j=>?_) ?_
 ·refine aR ?_;refine ag (λe=>?_) λe=>?_
  ·refine pE ?_;refine ag (λe3=>?_) λe3=>?_
   ·have e3:o<t:=e3;refine p_add ?_;refine cH (y:=1) (by lia) ?_;refine eZ (n:=0) (by rw [kY];lia) ?_;refine (?_:aO _ _ [_,_,_,_,_,_,_,_,_,_,_,_,_,_,_,_] _ _);refine bT (y:=8) (by exact P7 ‹_› (by decide)) ?_;refine p_add ?_;refine cH (y:=1) (by exact RU ‹_›) ?_;refine eZ (by rw [Ql,kY];exact Qi (Rk _ _) ‹_›) ?_;exact to_eq j rfl (by unfold y9;rw [Qk ⟨e,e3⟩])
   ·exact to_eq j rfl (by unfold y9;rw [Qb λz=>e3 z.2])
  ·refine (?_:cF _ _ _);refine ag (λz=>absurd z e) λ_=>?_;exact to_eq j rfl (by unfold y9;rw [Qb λz=>e z.1])
 refine CA (H.out b (kH L f az o t sp pf)) (λK' j=>?_) ?_
 ·refine aR ?_;refine ag (λe=>?_) λe=>?_
  ·refine rZ ?_;refine (?_:cF _ _ _);refine ag (λe3=>?_) λe3=>?_
   ·have e3:t<o:=e3;refine eZ (n:=0) (by rw [kX];lia) ?_;refine (?_:aO _ _ [_,_,_,_,_,_,_,_,_,_,_,_,_,_,_,_] _ _);refine bT (y:=8) (by exact P7 ‹_› (by decide)) ?_;refine p_add ?_;refine p_add ?_;refine eZ (i:=t+1) (by rw [Ql,kX];exact Qi ‹_› ‹_›) ?_;exact to_eq j rfl (by unfold kH;rw [Qk ⟨e,e3⟩])
   ·exact to_eq j rfl (by unfold kH;rw [Qb λz=>e3 z.2])
  ·refine (?_:cF _ _ _);refine ag (λz=>absurd z e) λ_=>?_;exact to_eq j rfl (by unfold kH;rw [Qb λz=>e z.1])
 have hN:(H.out b (kH L f az o t sp pf)) b=some (.list (av (kH L f az o t sp pf))):=Hp.ai ..;have hNl:(kH L f az o t sp pf).length=L.length:=An;have hx2:=hLo (kH L f az o t sp pf);generalize hh:H.out b (kH L f az o t sp pf)=H2 at hN hx2 ⊢;have h:=hh ▸ h b hb;generalize kH L f az o t sp pf=N at hN hNl h ⊢;refine (?_:aO _ _ [_,_,_,_,_,_,_,_,_,_,_,_,some (nv 0),_,_,_] _ _);refine ru (λρ' H'=>H'=H2/\∃u v w,ρ'=[some (mQ x az ab ep),some (nv (pk o t sp pf)),some (nv f),some (.ref x),some (nv az),some (nv ab),some (.int ep),some (nv o),some (nv t),some (nv sp),some (nv (o / f*f)),some (.ref b),some (nv (l6 N f L.length ab 4)),u,v,w]) (λK1 k1 _ _=>?_) λρ' H' hI=>?_
 ·refine (?_:b8 .range _ _ _);refine fM (n:=4) (by decide) ?_;refine (?_:fj _ _ _ _ _ _);refine forR (n:=4) (λi ρ' H'=>H'=H2/\∃u v w,ρ'=[some (mQ x az ab ep),some (nv (pk o t sp pf)),some (nv f),some (.ref x),some (nv az),some (nv ab),some (.int ep),some (nv o),some (nv t),some (nv sp),some (nv (o / f*f)),some (.ref b),some (nv (l6 N f L.length ab i)),u,v,w]) (λi ρ' H' K hi hI hn _ _=>?_) (λρ' H' hI=>k1 _ _ hI) ⟨rfl,_,_,_,rfl⟩;obtain ⟨rfl,u,v,w,rfl⟩:=hI;have i2:i / 2<2:=RC hi
  have first:i / 2*(L.length-f)+f<=L.length:=by
   have:=QN (L.length-f) (QH i2);lia
  refine (?_:aO _ _ [_,_,_,_,_,_,_,_,_,_,_,_,_,some (nv i),_,_] _ _);refine dd (y:=2) (by decide) (by decide) ?_;refine (?_:b8 .len _ _ _);refine l9 hx2 ?_;rw [Qd];refine cH (by lia) ?_;refine bT (by exact P7 ‹_› (by decide)) ?_;refine (?_:aO _ _ [_,_,_,_,_,_,_,_,_,_,_,_,_,_,some (nv (i / 2*(L.length-f))),_] _ _);refine vP (cV [some (mQ x az ab ep),some (nv (pk o t sp pf)),some (nv f),some (.ref x),some (nv az),some (nv ab),some (.int ep),some (nv o),some (nv t),some (nv sp),some (nv (o / f*f)),some (.ref b),some (nv (l6 N f L.length ab i)),some (nv i),some (nv (i / 2*(L.length-f))),w] 15 (nv (if i%2=1 then i / 2*(L.length-f) else i / 2*(L.length-f)+f-1))) H' (λK' j=>?_) ?_
  ·refine dX (y:=2) (by decide) ?_;refine aR ?_;refine ag (λe=>?_) λe=>?_
   ·exact to_eq j (by rw [Qk e]) rfl
   ·refine p_add ?_;refine cH (y:=1) (by lia) ?_;exact to_eq j (by rw [Qb e]) rfl
  refine (?_:aO _ _ [_,_,_,_,_,_,_,_,_,_,_,_,_,_,_,some (nv (if i%2=1 then i / 2*(L.length-f) else i / 2*(L.length-f)+f-1))] _ _)
  have corner:(if i%2=1 then i / 2*(L.length-f) else i / 2*(L.length-f)+f-1)<L.length:=by
   split
   ·exact P7 (Nat.lt_add_of_pos_right hf) first
   ·exact C7 hf first
  have rok:CK N f L.length ab i=(ab.testBit i && decide (N.getD (i / 2*(L.length-f)+f / 2) 0=i / 2*8+6/\N.getD (if i%2=1 then i / 2*(L.length-f) else i / 2*(L.length-f)+f-1) 0=i / 2*8+4)):=rfl;generalize (if i%2=1 then i / 2*(L.length-f) else i / 2*(L.length-f)+f-1)=cr at corner rok ⊢
  have kno:CK N f L.length ab i=false->l6 N f L.length ab (i+1)=l6 N f L.length ab i:=λe=>by
   rw [l6,e,Qb Ul]
  have no:∀{ρ'},(∃u v w,ρ'=[some (mQ x az ab ep),some (nv (pk o t sp pf)),some (nv f),some (.ref x),some (nv az),some (nv ab),some (.int ep),some (nv o),some (nv t),some (nv sp),some (nv (o / f*f)),some (.ref b),some (nv (l6 N f L.length ab i)),u,v,w])->CK N f L.length ab i=false->K .next ρ' H':=λ⟨u,v,w,e⟩ z=>hn _ _ ⟨rfl,u,v,w,by rw [kno z];exact e⟩;refine cR ?_;refine aS ?_;refine (?_:cF _ _ _);refine dI (λe=>?_) λe=>?_
  ·have e:=kh.mp e;rw [e,Sx] at rok;refine (?_:ar _ _ _ _ _);refine dd (y:=2) (by decide) (by decide) ?_;refine p_add ?_;refine aU hN (by rw [hNl];lia) ?_;refine dd (y:=2) (by decide) (by decide) ?_;refine bT (y:=8) (by exact P7 ‹_› (by decide)) ?_;refine p_add ?_;refine aR ?_;refine (?_:cF _ _ _);refine ag (λe2=>?_) λe2=>?_
   ·refine (?_:aN _ _ _ _);refine aU hN (by rw [hNl];exact corner) ?_;refine dd (y:=2) (by decide) (by decide) ?_;refine bT (y:=8) (by exact P7 ‹_› (by decide)) ?_;refine p_add ?_;refine aR ?_;refine (?_:cF _ _ _);refine ag (λe3=>?_) λe3=>?_
    ·refine cb (by exact Qp (P7 ‹_› (by decide))) ?_;refine bG ?_;refine p_add ?_
     have kyes:l6 N f L.length ab (i+1)=l6 N f L.length ab i+2^i:=by rw [l6,rok,Qq ⟨e2,e3⟩,Qk rfl]
     refine hn _ _ ⟨rfl,some (nv i),some (nv (i / 2*(L.length-f))),some (nv cr),?_⟩;rw [kyes];rfl
    ·exact no ⟨_,_,_,rfl⟩ (rok.trans (decide_eq_false λz=>e3 z.2))
   ·refine (?_:cF _ _ _);refine ag (λy=>absurd y e2) λ_=>?_;exact no ⟨_,_,_,rfl⟩ (rok.trans (decide_eq_false λz=>e2 z.1))
  ·refine (?_:cF _ _ _);refine dI (λy=>absurd e y) λ_=>?_;refine no ⟨_,_,_,rfl⟩ (rok.trans ?_);rw [gg λz=>kh.mpr z e,To]
 obtain ⟨rfl,u,v,w,rfl⟩:=hI;refine eP ?_;refine (?_:aO _ _ [_,_,_,_,_,_,some (.int (-1)),_,_,_,_,_,_,_,_,_] _ _);refine vP (cV [some (mQ x az ab ep),some (nv (pk o t sp pf)),some (nv f),some (.ref x),some (nv az),some (nv ab),some (.int (-1)),some (nv o),some (nv t),some (nv sp),some (nv (o / f*f)),some (.ref b),some (nv (l6 N f L.length ab 4)),u,v,w] 6 (.int (Am L N f az o t))) H' (λK' j=>?_) ?_
 ·have no:¬(L.getD o 0%8=1/\(t=o+2*f\/o=t+2*f)/\Bb N f t (9-8*az)=true)->K' .next [some (mQ x az ab ep),some (nv (pk o t sp pf)),some (nv f),some (.ref x),some (nv az),some (nv ab),some (.int (-1)),some (nv o),some (nv t),some (nv sp),some (nv (o / f*f)),some (.ref b),some (nv (l6 N f L.length ab 4)),u,v,w] H':=λz=>to_eq j (by unfold Am;rw [Qb z];rfl) rfl;refine aU hx2 ho ?_;refine dX (y:=8) (by decide) ?_;refine aR ?_;refine (?_:cF _ _ _);refine ag (λe=>?_) λe=>?_
  ·refine (?_:ar _ _ _ _ _);refine dc ?_;refine (?_:b8 .abs _ _ _);refine uY ?_;refine bT (x:=2) (by decide) ?_;refine aR ?_;refine (?_:cF _ _ _);refine ag (λe2=>?_) λe2=>?_
   ·refine (?_:ar _ _ _ _ _);refine bT (x:=8) (by decide) ?_;refine cH (x:=9) (n8 hw) ?_;refine Hr (r:=rk) (m:=9-8*az) hN (Qv f0) (hNl.trans hl) (hl ▸ ht) ?_;refine (?_:cF _ _ _);refine dh (λe3=>?_) λe3=>?_
    ·refine p_add ?_;refine dd (y:=2) (by decide) (by decide) ?_;refine to_eq j ?_ rfl;unfold Am;rw [Qk ⟨e,by lia,e3⟩]
    ·exact no λz=>by rw [e3] at z;exact nomatch z.2.2
   ·refine (?_:cF _ _ _);refine ag (λy=>absurd y e2) λ_=>?_;exact no λz=>e2 (by lia)
  ·refine (?_:cF _ _ _);refine ag (λy=>absurd y e) λ_=>?_;exact no λz=>e z.1
 refine (?_:aO _ _ [_,_,_,_,_,_,some (.int (Am L N f az o t)),_,_,_,_,_,_,_,_,_] _ _);refine dy ‹_› ?_;refine ⟨show 4<=1000 by decide,?_⟩;refine aj ?_
 exact h) ((d,f,o,t),(sp,pf,az,ab),(rk,H,q,L),(x,ep))
end
section
variable {d s c k f r:Nat} {H:Hp} {a:Ad} {G:aE} {R:Rw} {q:V->Hp->Prop} {L:List Nat} {x:Addr}
theorem Gd {y:Addr} {l m:List Nat} (h1:H x=some (.list (av l))) (h2:H y=some (.list (av m))) (h:q (.bool (decide (l≠m))) H):bM .ne (.ref x) (.ref y) H q:=
 .mk ⟨.flat (.list h1 (cY _)),.flat (.list h2 (cY _)),by rw [rR,<- decide_not];exact h⟩
theorem tX {m:Nat}:∀{l:List Nat},(l.map Int.ofNat).count (m:Int)=l.count m
 | []=>rfl
 | y::l=>by
  rw [Q9,List.count_cons,List.count_cons,tX,show (Int.ofNat y == (m:Int))=(y == m) by
   rw [QR,Ru,Ru];exact ⟨λe=>Tv e,λe=>congrArg Int.ofNat e⟩]
theorem Ea {l:List Nat} {m:Nat} (h1:H x=some (.list (av l))) (h:q (nv (l.count m)) H):kP (.ref x) (nv m) H q:=ES.mk h1 (cY l) (by rw [tX];exact h)
structure E1 (G:aE) (R:Rw) (L:List Nat):Prop where
 g:ba G R
 ok:dR G R
 key:R.key=kL G R
 eb:R.ae=L
theorem E1.m (A:E1 G R L) (s:Nat):L.getD s 0<15:=by
 have:=A.eb;subst this;by_cases z:bd R s=0
 ·exact Qi (Rb z) (by decide)
 ·exact (A.g.mn s z).1
theorem E1.len (A:E1 G R L):L.length=G.size:=A.eb ▸ A.g.bl
theorem E1.whole (A:E1 G R L) (g:cu G):R.key=lsum L G.aa R.af R.ab R.ep:=by
 rw [A.key,qO A.g (P7 RA g.f0) A.ok.je,A.eb]
def sk:Prop:=∀(w:W H a G R) (g:cu G) (A:E1 G R L) (hL:H x=some (.list (av L))) (h:q (.bool true) H),Call (d+3) 105 [.ref a.p,mQ x R.af R.ab R.ep,nv G.aa] H q
theorem HS:@sk d H a G R q L x:=au (S:=λx:(Nat×Hp×Ad×aE)×(Rw×(V->Hp->Prop)×List Nat×Addr)=>@sk x.1.1 x.1.2.1 x.1.2.2.1 x.1.2.2.2 x.2.1 x.2.2.1 x.2.2.2.1 x.2.2.2.2) (x:=((0,λ_=>none,j0,bO),(fG,λ_ _=>True,[],0))) (by
 refine (?_:∀d H a G R q L x,@sk d H a G R q L x) _ _ _ _ _ _ _ _;intro d H a G R q L x w g A hL h;have hm:=A.m;have hl:=A.len;have h25:L.length<=25:=hl ▸ g.i3;have hf:0<G.aa:=P7 RA g.f0
 have hps:∀p,xk G.size p R.ae G.size=z5 p L:=λp=>by rw [<- A.eb];exact (z4 A.g).symm
 refine aq rfl rfl ?_;refine (?_:aO _ _ [_,_,_,_,_,_,_,_] _ _);refine (?_:aN _ _ _ _);refine dU (i:=0) rfl ?_;refine (?_:aO _ _ [_,_,_,some (.ref x),_,_,_,_] _ _);refine (?_:b8 .len _ _ _);refine l9 hL ?_;rw [Qd];refine (?_:aO _ _ [_,_,_,_,some (nv L.length),_,_,_] _ _);refine (?_:Call _ _ _ _ _);refine BZ hL hf (P8 g.qz (by decide)) h25 hm A.ok.je ?_;rw [<- A.whole g];refine (?_:aO _ _ [_,_,_,_,_,some (nv R.key),_,_] _ _);refine CA H (λK' j=>?_) ?_
 ·refine aI ‹_› rfl ?_;refine Gd w.P.bd hL ?_;refine (?_:cF _ _ _);refine ag (λe=>absurd A.eb e) λ_=>?_;refine aI ‹_› rfl ?_;refine eD ?_;refine ag (λe=>absurd rfl e) λ_=>?_;refine (?_:Call _ _ _ _ _);refine MJ w g A.ok ?_;rw [show cX G R ^^^ xk G.size (λm=>decide (m≠0)) R.ae G.size=R.key from A.key.symm];refine (?_:bM _ _ _ _ _);refine eD ?_;refine (?_:cF _ _ _);refine ag (λe=>absurd rfl e) λ_=>?_;exact j
 have elt:∀{Γ:Sg} {O:Lc} {i:Nat} {H1:Hp} {Q:V->Hp->Prop},H1 x=some (.list (av L))->i<L.length->Q (nv (2^(L.getD i 0*L.length+i))) H1->bp Γ (.bin .shl (.bC 1) (.bin .add (.bin .mul (.sub (.loc 1) (.loc 0)) (.loc 2)) (.loc 0))) (some (nv i)::some (.ref x)::some (nv L.length)::O) H1 Q:=λ{Γ O i H1 Q} h1 hi h2=>by
  refine (?_:aN _ _ _ _);refine aU h1 hi ?_;have:=hm i;refine (?_:ar _ _ _ _ _);refine bT (by exact P7 ‹_› (by decide)) ?_;refine (?_:ar _ _ _ _ _);refine p_add ?_;refine (?_:ar _ _ _ _ _);have:L.getD i 0*L.length<=15*25:=Uc (by exact Qp ‹_›) h25;exact cb (by lia) h2
 refine ru (λρ' H'=>ρ'=[some (.ref a.p),some (mQ x R.af R.ab R.ep),some (nv G.aa),some (.ref x),some (nv L.length),some (nv R.key),none,none]/\H.Sub H') (λK' j _ _=>?_) λρ' H' hI=>?_
 ·refine (?_:Call _ _ _ _ _);refine LO w A.ok ?_;rw [hps];refine (?_:b8 .range _ _ _);refine fM (by exact P8 ‹_› (by decide)) ?_;refine (?_:fH _ _ _ _ _ _);refine qC uk (λs=>decide (L.getD s 0%8=1)) (λs=>2^(L.getD s 0*L.length+s)) (by exact P8 ‹_› (by decide)) (λi hi Q h=>?_) (λi hi _ Q h=>elt hL hi h) ?_
  ·refine (?_:aN _ _ _ _);refine aU hL hi ?_;refine (?_:ar _ _ _ _ _);refine dX (y:=8) (by decide) ?_;refine (?_:bM _ _ _ _ _);exact aR h
  ·refine new_ (xE (by exact P8 ‹_› (by decide))) λb hb=>?_;refine (?_:b8 .sum _ _ _);refine zD (l:=(((List.range L.length).filter λs=>decide (L.getD s 0%8=1)).map λs=>2^(L.getD s 0*L.length+s))) (AL ..) ?_;refine (?_:bM _ _ _ _ _);refine eD ?_;refine (?_:cF _ _ _);refine ag (λe=>absurd rfl e) λ_=>?_;exact j _ _ ⟨rfl,Hp.ax hb⟩
 refine aD hI ?_;rintro rfl s1;refine ru (λρ' H'=>H.Sub H'/\∃u v,ρ'=[some (.ref a.p),some (mQ x R.af R.ab R.ep),some (nv G.aa),some (.ref x),some (nv L.length),some (nv R.key),u,v]) (λK' j _ _=>?_) λρ2 H2 hI=>?_
 ·refine ⟨show 2<=1000 by decide,?_⟩;refine (?_:fj _ _ _ _ _ _);refine G1 (vs:=[nv 0,nv 1]) (λ_ ρ' H'=>H.Sub H'/\∃u v,ρ'=[some (.ref a.p),some (mQ x R.af R.ab R.ep),some (nv G.aa),some (.ref x),some (nv L.length),some (nv R.key),u,v]) (λi v ρ' H' K hv hI hn _ _=>?_) (λρ' H' hI=>j _ _ hI) ⟨s1,_,_,rfl⟩;obtain ⟨s2,u,u',rfl⟩:=hI
  have hv':∃c,v=nv c:=by
   rcases i with _ | _ | i
   ·exact ⟨0,by cases hv;rfl⟩
   ·exact ⟨1,by cases hv;rfl⟩
   ·cases hv
  refine bJ hv' ?_;rintro c rfl;have hL2:=s2 _ _ hL;refine (?_:aO _ _ [_,_,_,_,_,_,some (nv c),_] _ _);refine (?_:b8 .range _ _ _);refine fM (by exact P8 ‹_› (by decide)) ?_;refine (?_:fH _ _ _ _ _ _);refine qC uk (λs=>decide (1<L.getD s 0%8/\L.getD s 0 / 8=c)) (λs=>2^(L.getD s 0*L.length+s)) (by exact P8 ‹_› (by decide)) (λi hi Q h=>?_) (λi hi _ Q h=>elt hL2 hi h) ?_
  ·refine (?_:aN _ _ _ _);refine aU hL2 hi ?_;refine (?_:ar _ _ _ _ _);refine dX (y:=8) (by decide) ?_;refine (?_:bM _ _ _ _ _);refine pE (y:=1) ?_;refine (?_:cF _ _ _);refine ag (λe=>?_) λe=>?_
   ·refine (?_:aN _ _ _ _);refine aU hL2 hi ?_;refine (?_:ar _ _ _ _ _);refine dd (y:=8) (by decide) (by decide) ?_;refine (?_:bM _ _ _ _ _);refine aR ?_;rw [dz (show L.getD i 0 / 8=c↔1<L.getD i 0%8/\L.getD i 0 / 8=c from ⟨λz=>⟨e,z⟩,λz=>z.2⟩)];exact h
   ·rw [dz (show (1<L.getD i 0%8/\L.getD i 0 / 8=c)↔1<L.getD i 0%8 from ⟨λz=>z.1,λz=>absurd z e⟩)] at h;exact h
  ·refine new_ (xE (by exact P8 ‹_› (by decide))) λb hb=>?_;have s3:H.Sub (H'.upd b (.list (((List.range L.length).filter λs=>decide (1<L.getD s 0%8/\L.getD s 0 / 8=c)).map λs=>nv (2^(L.getD s 0*L.length+s))))):=Hp.Sub.trans s2 (Hp.ax hb);refine (?_:aO _ _ [_,_,_,_,_,_,_,some (.ref b)] _ _);refine (?_:Call _ _ _ _ _);refine LN (x:=c) (w.mono s3) A.ok ?_;rw [hps];refine (?_:b8 .sum _ _ _);refine zD (l:=(((List.range L.length).filter λs=>decide (1<L.getD s 0%8/\L.getD s 0 / 8=c)).map λs=>2^(L.getD s 0*L.length+s))) (AL ..) ?_;refine (?_:bM _ _ _ _ _);refine eD ?_;refine (?_:cF _ _ _);refine ag (λe=>absurd rfl e) λ_=>?_;exact hn _ _ ⟨s3,_,_,rfl⟩
 obtain ⟨s2,u,v,rfl⟩:=hI;have hL2:=s2 _ _ hL;refine (?_:Call _ _ _ _ _);refine LM (w.mono s2) A.ok ?_;refine (?_:b8 .range _ _ _);refine Bt (a:=1) (b:=15) (by decide) (by decide) ?_;refine (?_:fH _ _ _ _ _ _);refine qC (rx (a:=1) (b:=15)) (λ_=>true) (λk=>(2^L.count (1+k) -1) <<< ((1+k)*L.length)) (by decide) (λi hi Q h=>h) (λi hi _ Q h=>?_) ?_
 ·have hc:L.count (1+i)<=25:=P8 List.count_le_length h25;have hp:2^L.count (1+i)<=2^25:=RB (by decide) hc;refine ⟨gO hL2,?_⟩;refine (?_:kP _ _ _ _);refine Ea hL2 ?_;refine (?_:ar _ _ _ _ _);refine cb (by exact P8 ‹_› (by decide)) ?_;refine (?_:ar _ _ _ _ _);refine cH (y:=1) (Ro _) ?_;refine (?_:ar _ _ _ _ _);have:(1+i)*L.length<=15*25:=Uc (by lia) h25;refine bT (by lia) ?_;refine (?_:ar _ _ _ _ _);exact gY (by exact P8 ‹_› (by decide)) (by first | exact Qi (Rk _ _) (Qi ‹_› (by decide)) | lia) h
 ·refine new_ (xE (by decide)) λb hb=>?_;refine (?_:b8 .sum _ _ _);refine zD (l:=(((List.range 14).filter λ_=>true).map λk=>(2^L.count (1+k) -1) <<< ((1+k)*L.length))) (AL ..) ?_;refine (?_:bM _ _ _ _ _);refine aR ?_
  have e:ux G.size R.ae G.size=(((List.range 14).filter λ_=>true).map λk=>(2^L.count (1+k) -1) <<< ((1+k)*L.length)).sum:=by
   rw [<- hl,A.eb,Al hm (by rw [hl];exact P7 (P7 RA g.f0) (Td _ (P7 (by decide) g.r0)))];rfl
  rw [Qq e]
  exact gz H (Hp.Sub.trans s2 (Hp.ax hb)) h) ((d,H,a,G),(R,q,L,x))
end
def yW (f rk:Nat) (L:List Nat) (az:Nat) (e:Nat):Prop:=f<=e/\e+f<f*rk/\L.getD e 0=0/\L.getD (if az=0 then e-f else e+f) 0=(1-az)*8+1/\e / f=if az=1 then 2 else rk-3
section
variable {d s c k f r az rk:Nat} {H:Hp} {G:aE} {q:V->Hp->Prop} {L:List Nat} {x:Addr}
def sA:Prop:=∀(hL:H x=some (.list (av L))) (hf:0<f) (hf8:f<=25) (hrk:5<=rk) (hrk8:rk<=25) (hl:L.length=f*rk) (hw:az<2) (h:∀e:Int,(e=-1\/∃n:Nat,e=n/\yW f rk L az n)->q (.int e) H),Call (d+2) 100 [.ref x,nv az,nv f,nv rk] H q
theorem HW:@sA d f az rk H q L x:=au (S:=λx:(Nat×Nat×Nat×Nat)×(Hp×(V->Hp->Prop)×List Nat×Addr)=>@sA x.1.1 x.1.2.1 x.1.2.2.1 x.1.2.2.2 x.2.1 x.2.2.1 x.2.2.2.1 x.2.2.2.2) (x:=((0,0,0,0),(λ_=>none,λ_ _=>True,[],0))) (by
 refine (?_:∀d f az rk H q L x,@sA d f az rk H q L x) _ _ _ _ _ _ _ _;intro d f az rk H q L x hL hf hf8 hrk hrk8 hl hw h;refine aq rfl rfl ?_;refine (?_:aO _ _ [_,_,_,_,_,_,_] _ _);refine vP (cV [some (.ref x),some (nv az),some (nv f),some (nv rk),none,none,none] 4 (.int (if az=1 then -(f:Int) else f))) H (λK' j=>?_) ?_
 ·refine aR ?_;refine ag (λe=>?_) λe=>?_
  ·refine eP ?_;exact to_eq j (by rw [Qk e]) rfl
  ·exact to_eq j (by rw [Qb e]) rfl
 refine (?_:aO _ _ [_,_,_,_,some (.int (if az=1 then -(f:Int) else f)),_,_] _ _)
 have m1:(if az=1 then 2 else rk-3)*f+2*f<=f*rk:=by
  have:(if az=1 then 2 else rk-3)+2<=rk:=by split<;>first | exact bL ‹_› (by rfl) | exact Fu ‹_›
  have:=QN f this;rw [Nat.add_mul,RT rk] at this;exact this
 have m2:f<=(if az=1 then 2 else rk-3)*f:=TQ f (by split<;>first | decide | exact SN (bl ‹_› (by rfl)))
 have m3:(if az=1 then 2 else rk-3)<=25:=by split<;>first | decide | exact sb ‹_› (by rfl)
 have m4:az=1->(if az=1 then 2 else rk-3)=2:=λe=>Qk e;have m5:¬az=1->(if az=1 then 2 else rk-3)=rk-3:=λe=>Qb e;generalize hme:(if az=1 then 2 else rk-3)=me at m1 m2 m3 m4 m5;refine ru (λρ' H'=>H'=H/\∃u v,ρ'=[some (.ref x),some (nv az),some (nv f),some (nv rk),some (.int (if az=1 then -(f:Int) else f)),u,v]) (λK1 k1 kr _=>?_) λρ' H' hI=>?_
 ·refine (?_:b8 .range _ _ _);refine fM (P8 hf8 (by decide)) ?_;refine (?_:fj _ _ _ _ _ _);refine forR (n:=f) (λi ρ' H'=>H'=H/\∃u v,ρ'=[some (.ref x),some (nv az),some (nv f),some (nv rk),some (.int (if az=1 then -(f:Int) else f)),u,v]) (λi ρ' H' K hi hI hn hr _=>?_) (λρ' H' hI=>k1 _ _ hI) ⟨rfl,_,_,rfl⟩;obtain ⟨rfl,u,v,rfl⟩:=hI;refine (?_:aO _ _ [_,_,_,_,_,some (nv i),_] _ _);refine vP (cV [some (.ref x),some (nv az),some (nv f),some (nv rk),some (.int (if az=1 then -(f:Int) else f)),some (nv i),v] 6 (nv (me*f+i))) H' (λK' j=>?_) ?_
  ·refine aR ?_;refine ag (λe=>?_) λe=>?_
   ·refine bT (x:=2) (by decide) ?_;refine p_add ?_;exact to_eq j (by rw [m4 e]) rfl
   ·refine cH (y:=3) (P8 (by decide) hrk) ?_;refine bT (Qi (Rk _ _) (Qi hrk8 (by decide))) ?_;refine p_add ?_;exact to_eq j (by rw [m5 e]) rfl
  refine (?_:aO _ _ [_,_,_,_,_,_,some (nv (me*f+i))] _ _);have a1:f<=me*f+i:=P8 m2 (QA _ _)
  have a2:me*f+i+f<L.length:=by rw [hl];exact P7 (by rw [Nat.two_mul,RN];exact Ue (Tt hi f) _) m1
  have a3:me*f+i<L.length:=Qi (QA _ _) a2
  have up:∃n:Nat,((me*f+i:Nat):Int)+(if az=1 then -(f:Int) else f)=n/\n<L.length:=by
   by_cases e:az=1
   ·rw [Qk e];exact ⟨me*f+i-f,(Int.natCast_sub a1).symm,Qi (Rk _ _) a3⟩
   ·rw [Qb e];exact ⟨me*f+i+f,(T7 _ _).symm,a2⟩
  have dn:((me*f+i:Nat):Int) - (if az=1 then -(f:Int) else f)=((if az=0 then me*f+i-f else me*f+i+f:Nat):Int)/\(if az=0 then me*f+i-f else me*f+i+f)<L.length:=by
   by_cases e:az=1
   ·rw [Qk e,Qb (by rw [e];decide)];exact ⟨by rw [Int.sub_neg];exact (T7 _ _).symm,a2⟩
   ·rw [Qb e,Qk ((fp az hw).resolve_right e)];exact ⟨(Int.natCast_sub a1).symm,Qi (Rk _ _) a3⟩
  refine ao up λun hu hul=>?_;refine aD dn λhd hdl=>?_;have no:K .next [some (.ref x),some (nv az),some (nv f),some (nv rk),some (.int (if az=1 then -(f:Int) else f)),some (nv i),some (nv (me*f+i))] H':=hn _ _ ⟨rfl,_,_,rfl⟩;refine aU hL a3 ?_;refine aR ?_;refine (?_:cF _ _ _);refine ag (λe1=>?_) λe1=>?_
  ·refine (?_:ar _ _ _ _ _);refine g5 ?_;rw [hu];refine (?_:aN _ (nv un) _ _);refine aU hL hul ?_;refine aR ?_;refine (?_:cF _ _ _);refine ag (λe2=>?_) λe2=>?_
   ·refine (?_:ar _ _ _ _ _);refine dc ?_;rw [hd];refine (?_:aN _ (nv _) _ _);refine aU hL hdl ?_;refine bT (x:=8) (by decide) ?_;refine cH (x:=9) (n8 hw) ?_;refine aR ?_;refine (?_:cF _ _ _);refine ag (λe3=>?_) λe3=>?_
    ·refine dc ?_;rw [hd];refine (?_:ar _ _ _ _ _);refine bT (x:=8) (by decide) ?_;refine p_add ?_;refine Hr (r:=rk) hL hf hl (hl ▸ hdl) ?_;refine (?_:cF _ _ _);refine dh (λe4=>?_) λe4=>?_
     ·refine hr _ _ _ (kr _ _ _ ?_);refine (?_:dq _ _ _ _);refine aj (h _ (.inr ⟨_,rfl,a1,hl ▸ a2,e1,?_,?_⟩))
      ·have e3:L.getD (if az=0 then me*f+i-f else me*f+i+f) 0=9-8*az:=e3;rw [e3];exact n9 hw
      ·rw [SG,Nat.add_mul_div_right _ _ hf,TO hi,Rx,hme]
     ·exact no
    ·exact no
   ·refine (?_:cF _ _ _);refine ag (λy=>absurd y e2) λ_=>?_;exact no
  ·refine (?_:cF _ _ _);refine ag (λy=>absurd y e1) λ_=>?_;exact no
 obtain ⟨rfl,u,v,rfl⟩:=hI;refine eP ?_;refine aj ?_
 exact h _ (.inl rfl)) ((d,f,az,rk),(H,q,L,x))
end
structure vf (G:aE) (L:List Nat) (r az k k2:Nat):Prop where
 len:L.length=G.size
 mn:∀s,L.getD s 0≠0->nE (L.getD s 0)
 kg:Kg L az k
 ke:Kg L (1-az) k2
 sf:¬Jg G L az k2 (Af L)
 je:r<16
 rt:∀i,r.testBit i=true->∃kf kt rf rt,G.bt.getD i none=some (kf,kt,rf,rt)/\L.getD kf 0=i / 2*8+6/\L.getD rf 0=i / 2*8+4
noncomputable def AV (G:aE) (L:List Nat) (r az k k2:Nat):Bool:=
 decide (L.length=G.size/\r<16/\L.getD k 0=az*8+6/\L.getD k2 0=(1-az)*8+6) && cQ G.size (λs=>decide ((L.getD s 0≠0->L.getD s 0<15/\1<=L.getD s 0%8/\L.getD s 0%8<=6)/\(L.getD s 0=az*8+6->s=k)/\(L.getD s 0=(1-az)*8+6->s=k2))) &&
 cQ G.size (λx=>!(decide (L.getD x 0≠0/\L.getD x 0 / 8=az) && rel G az (L.getD x 0%8) x k2 && decide (a7 G x k2 &&& Af L=0))) &&
 cQ 4 λi=>!r.testBit i || match G.bt.getD i none with
  | none=>false
  | some (kf,_,rf,_)=>decide (L.getD kf 0=i / 2*8+6/\L.getD rf 0=i / 2*8+4)
def mq {G:aE} {L:List Nat} {r az k k2:Nat}:Prop:=∀(h:AV G L r az k k2=true),vf G L r az k k2
theorem tR {G:aE} {L:List Nat} {r az k k2:Nat}:@mq G L r az k k2:=au (S:=λx:(aE×List Nat×Nat×Nat)×(Nat×Nat)=>@mq x.1.1 x.1.2.1 x.1.2.2.1 x.1.2.2.2 x.2.1 x.2.2) (x:=((bO,[],0,0),(0,0))) (by
 refine (?_:∀G L r az k k2,@mq G L r az k k2) _ _ _ _ _ _;intro G L r az k k2 h;unfold AV at h;rw [Qa,Qa,Qa] at h;refine aD h ?_;rintro ⟨⟨h1,h2⟩,h3⟩ h4;refine rX (Qe h1) λa1 a2 a3 a4=>?_
 have hs:∀{s},L.getD s 0≠0->s<G.size:=λ{s} hs=>by
  rcases Qw s G.size with q | q
  ·exact q
  ·exact absurd (hZ (a1 ▸ q)) hs
 have sq:∀{s},L.getD s 0≠0->_:=λ{s} z=>Qe (aK h2 (hs z));refine ⟨a1,λs z=>(sq z).1 z,⟨a3,λs z=>(sq (s:=s) (by exact rI ‹_›)).2.1 z⟩,⟨a4,λs z=>(sq (s:=s) (by exact rI ‹_›)).2.2 z⟩,?_,a2,λi hi=>?_⟩
 ·rintro ⟨x,b1,b2,b3,b4⟩;have:=aK h3 (hs b1);rw [Qq (And.intro b1 b2),b3,Qq b4] at this;cases this
 ·have:=hY (aK h4 (dG (n:=4) a2 hi)) hi
  cases e:G.bt.getD i none with
  | none=>rw [e] at this;cases this
  | some w=>
   obtain ⟨kf,kt,rf,rt⟩:=w;rw [e] at this
   exact ⟨kf,kt,rf,rt,rfl,Qe this⟩) ((G,L,r,az),(k,k2))
noncomputable def kl (f sz rr:Nat):Nat->List Nat
 | 0=>((List.replicate sz 0).set (f / 2) 6).set (sz-f+f / 2) 14
 | i+1=>if rr.testBit i=true then (kl f sz rr i).set (i / 2*(sz-f)+if i%2=1 then 0 else f-1) (i / 2*8+4) else kl f sz rr i
theorem J4:cQ 16 (λrr=>AV kC (kl 7 21 rr 4) rr 0 3 17 && AV kC (kl 7 21 rr 4) rr 1 17 3)=true:=by decide +kernel
theorem o3 {f sz rr:Nat}:∀{i:Nat},(kl f sz rr i).length=sz
 | 0=>by unfold kl;rw [Ql,Ql,QM]
 | i+1=>by
  unfold kl;split
  ·rw [Ql,o3]
  ·exact o3
noncomputable def AQ (f s g:Nat):Bool:=decide (1<n1 f s g)
noncomputable def zx (G:aE):Bool:=cQ G.size λs=>(cQ G.size λg=>!AQ G.aa s g || (!(G.cz.getD s 0).testBit g && !(G.cz.getD g 0).testBit s && decide (s≠g))) && !cQ G.size λg=>!AQ G.aa s g
theorem G5:zx mL=true:=by decide +kernel
theorem G3:zx kC=true:=by decide +kernel
theorem G4:zx mK=true:=by decide +kernel
section
variable {d s g c k k2 f r az rk v:Nat} {H:Hp} {G:aE} {q:V->Hp->Prop} {L:List Nat} {x:Addr}
theorem xG (B:BG G) (hs:s<G.size):(∀g,g<G.size->AQ G.aa s g=true->(¬(G.cz.getD s 0).testBit g=true/\¬(G.cz.getD g 0).testBit s=true)/\s≠g)/\∃g,g<G.size/\AQ G.aa s g=true:=by
 have h:=aK (tab (f:=zx) G5 G3 G4 B) hs;rw [Qa] at h;refine ⟨λg hg z=>?_,?_⟩
 ·have:=hY (aK h.1 hg) z;rw [Qa,Qa,QI,QI] at this;exact ⟨⟨by rw [this.1.1];exact Ul,by rw [this.1.2];exact Ul⟩,Qe this.2⟩
 ·refine Classical.byContradiction λz=>?_;have h2:=h.2
  rw [show (cQ G.size λg=>!AQ G.aa s g)=true from Qj.mpr λg hg=>by
   cases e:AQ G.aa s g with
   | false=>rfl
   | true=>exact absurd ⟨g,Sh.mp hg,e⟩ z] at h2
  cases h2
def iK:Prop:=∀(B:BG G) (hs:s<G.size) (hg:g<G.size) (hf:AQ G.aa s g=true) (hw:az<2),∃k k2,vf G (((List.replicate G.size 0).set s 6).set g 14) 0 az k k2
theorem ug:@iK s g az G:=au (S:=λx:Nat×Nat×Nat×aE=>@iK x.1 x.2.1 x.2.2.1 x.2.2.2) (x:=(0,0,0,bO)) (by
 refine (?_:∀s g az G,@iK s g az G) _ _ _ _;intro s g az G B hs hg hf hw;refine aD ((xG B hs).1 g hg hf) ?_;rintro ⟨n1,n2⟩ ne
 have at_:∀y,(((List.replicate G.size 0).set s 6).set g 14).getD y 0=if y=g then 14 else if y=s then 6 else 0:=λy=>by
  have hl:(List.replicate G.size 0).length=G.size:=QM;rw [gs (ls hl) hg,gs hl hs];split
  ·rfl
  ·split
   ·rfl
   ·rw [P9,RO];split<;>rfl
 have hgs:(((List.replicate G.size 0).set s 6).set g 14).getD s 0=6:=by rw [at_,Qb ne,Qk rfl]
 have hgg:(((List.replicate G.size 0).set s 6).set g 14).getD g 0=14:=by rw [at_,Qk rfl]
 have h6:∀y,(((List.replicate G.size 0).set s 6).set g 14).getD y 0=6->y=s:=λy h=>by
  rw [at_] at h;split at h
  ·exact nomatch h
  ·split at h
   ·assumption
   ·exact nomatch h
 have h14:∀y,(((List.replicate G.size 0).set s 6).set g 14).getD y 0=14->y=g:=λy h=>by
  rw [at_] at h;split at h
  ·assumption
  ·split at h<;>exact nomatch h
 have hn:∀y,(((List.replicate G.size 0).set s 6).set g 14).getD y 0≠0->(((List.replicate G.size 0).set s 6).set g 14).getD y 0=6\/(((List.replicate G.size 0).set s 6).set g 14).getD y 0=14:=λy h=>by
  rw [at_] at h ⊢;split
  ·exact .inr rfl
  ·rename_i z;rw [Qb z] at h;split
   ·exact .inl rfl
   ·rename_i z2;rw [Qb z2] at h;exact absurd rfl h
 have len:(((List.replicate G.size 0).set s 6).set g 14).length=G.size:=ls (ls QM)
 have mn:∀y,(((List.replicate G.size 0).set s 6).set g 14).getD y 0≠0->nE ((((List.replicate G.size 0).set s 6).set g 14).getD y 0):=λy h=>by
  rcases hn y h with e | e<;>rw [e]
  ·exact ⟨by decide,by decide,by decide⟩
  ·exact ⟨by decide,by decide,by decide⟩
 have rt:∀i,(0:Nat).testBit i=true->∃kf kt rf rt,G.bt.getD i none=some (kf,kt,rf,rt)/\(((List.replicate G.size 0).set s 6).set g 14).getD kf 0=i / 2*8+6/\(((List.replicate G.size 0).set s 6).set g 14).getD rf 0=i / 2*8+4:=λi h=>by rw [Qr] at h;cases h
 match az,hw with
 | 0,_=>
  refine ⟨s,g,len,mn,⟨hgs,h6⟩,⟨hgg,h14⟩,?_,by decide,rt⟩;rintro ⟨y,b1,b2,b3,_⟩;rcases hn y b1 with e | e
  ·rw [e,h6 y e] at b3;exact n1 b3
  ·rw [e] at b2;exact nomatch b2
 | 1,_=>
  refine ⟨g,s,len,mn,⟨hgg,h14⟩,⟨hgs,h6⟩,?_,by decide,rt⟩;rintro ⟨y,b1,b2,b3,_⟩;rcases hn y b1 with e | e
  ·rw [e] at b2;exact nomatch b2
  ·rw [e,h14 y e] at b3;exact n2 b3) (s,g,az,G)
theorem fU {x:Int} {y:Nat} (h0:y≠0) (h:∀m,m<y->(m:Int)=x%(y:Int)->q (nv m) H):ar .mod (.int x) (nv y) H q:=by
 refine eX.int ?_;refine ⟨by exact pz ‹_›,?_⟩;show q (.int (x.fmod (y:Int))) H;rw [Int.fmod_eq_emod_of_nonneg _ (Qy y)];have h1:0<=x%(y:Int):=Int.emod_nonneg _ (by exact pz ‹_›);refine bJ (RP h1) λm hm=>?_;have h2:x%(y:Int)<y:=Int.emod_lt_of_pos _ (by exact p0 ‹_›);rw [hm] at h2 ⊢;exact h m (by exact QT.mp ‹_›) hm.symm
end
section
variable {d s g c k k2 f r az rk v:Nat} {H:Hp} {G:aE} {q:V->Hp->Prop} {L:List Nat} {x:Addr}
theorem JX {a b:Nat} (h:q (nv (max a b)) H):b8 .max [nv a,nv b] H q:=by
 refine mF.max ?_;show q (.int (max (a:Int) (b:Int))) H;rw [show max (a:Int) (b:Int)=((max a b:Nat):Int) from by first | exact (Int.natCast_max _ _).symm | exact (Int.ofNat_max _ _).symm | exact Int.ofNat_max _ _ | lia];exact h
theorem Ca {n:Nat} {y:Addr} (h1:H y=some (.list [.int 0])) (hn:n<=1000) (h:∀a,H a=none->q (.ref a) (H.out a (List.replicate n 0))):ar .mul (.ref y) (nv n) H q:=by
 refine tr h1 hn ?_;refine new_ (by rw [QM];show n<=1000000;exact P8 ‹_› (by decide)) λa ha=>?_;rw [show List.replicate n (V.int 0)=av (List.replicate n 0) from by rw [av,TF];rfl];exact h a ha
def sy {is:List Int} {sc:Addr}:Prop:=∀(hsc:H sc=some (.list (is.map .int))) (B:BG G) (h:∀b L r,H b=none->(∀az,az<2->∃k k2,vf G L r az k k2)->q (.tup [.ref b,nv r]) (H.out b L)),Call (d+2) 101 [.ref sc,nv G.aa,nv G.bE,.bool G.gM] H q
theorem HV {is:List Int} {sc:Addr}:@sy d H G q is sc:=au (S:=λx:(Nat×Hp×aE×(V->Hp->Prop))×(List Int×Addr)=>@sy x.1.1 x.1.2.1 x.1.2.2.1 x.1.2.2.2 x.2.1 x.2.2) (x:=((0,λ_=>none,bO,λ_ _=>True),([],0))) (by
 refine (?_:∀d H G q is sc,@sy d H G q is sc) _ _ _ _ _ _;intro d H G q is sc hsc B h;have g:=B.ok;have h25:=g.i3;have f0:=g.f0;have r0:=g.r0;have qz:=g.qz;have sz:G.aa*G.bE=G.size:=rfl;have fsz:G.aa<=G.size:=Td _ (by exact RU ‹_›)
 have s0:G.size≠0:=by lia
 refine aq rfl rfl ?_;refine (?_:aO _ _ [_,_,_,_,_,_,_,_,_,_,_,_] _ _);refine bT (by exact L2 ‹_› ‹_› (by rfl)) ?_;rw [sz];refine (?_:aO _ _ [_,_,_,_,some (nv G.size),_,_,_,_,_,_,_] _ _);refine new_ (show 1<=1000000 by decide) λb1 hb1=>?_;refine (?_:ar _ _ _ _ _);refine Ca (Hp.ai ..) (by exact P8 ‹_› (by decide)) λb hb=>?_;refine aD (Hp.none_of hb) λhbb hbn=>?_;have fin:∀L' r' ρ',(∀az,az<2->∃k k2,vf G L' r' az k k2)->dq q (.ret (.tup [.ref b,nv r'])) ρ' ((H.upd b1 (.list [.int 0])).out b L'):=λL' r' ρ' z=>gz (H.out b L') (i8 (Hp.ax hb1) L') (h b L' r' hbn z);refine (?_:aO _ _ [_,_,_,_,_,some (.ref b),_,_,_,_,_,_] ((H.upd b1 (.list [.int 0])).out b (List.replicate G.size 0)) _);have esc:((H.upd b1 (.list [.int 0])).out b (List.replicate G.size 0)) sc=_:=Hp.ax (H:=H.upd b1 (.list [.int 0])) (a:=b) (o:=.list (av (List.replicate G.size 0))) hb _ _ (Hp.ax hb1 _ _ hsc);generalize H.upd b1 (.list [.int 0])=H1 at fin esc ⊢;generalize dq q=K0 at fin ⊢;refine (?_:Call _ _ _ _ _);refine A4 (k:=1) esc ?_;generalize sat is 1=N;refine (?_:aO _ _ [_,_,_,_,_,_,some (.int N),some (nv 0),_,_,_,_] _ _);refine ru (λρ' H'=>ρ'=[some (.ref sc),some (nv G.aa),some (nv G.bE),some (.bool G.gM),some (nv G.size),some (.ref b),some (.int N),some (nv 0),none,none,none,none]/\H'=H1.out b (List.replicate G.size 0)) (λK' j kr _=>?_) λρ' H' hI=>?_
 ·refine (?_:cF _ _ _);refine dh (λe=>?_) λe=>?_
  ·have e73:G=kC:=by
    rcases B with z | z | z
    ·rw [z] at e;exact nomatch e
    ·exact z
    ·rw [z] at e;exact nomatch e
   refine (?_:ar _ _ _ _ _);refine fU (y:=2) (by decide) λm _ _=>?_;refine (?_:bM _ _ _ _ _);refine aR ?_;refine (?_:cF _ _ _);refine ag (λ_=>?_) λ_=>j _ _ ⟨rfl,rfl⟩;refine (?_:aO _ _ [_,_,_,_,_,_,_,_,_,_,_,_] _ _);refine (?_:ar _ _ _ _ _);refine dd (y:=2) (by decide) (by decide) ?_;refine (?_:bV _ _ (nv 6) _ _);refine eZ (by rw [QM];lia) ?_;refine (?_:aO _ _ [_,_,_,_,_,_,_,_,_,_,_,_] _ _);refine (?_:ar _ _ _ _ _);refine cH fsz ?_;refine (?_:ar _ _ _ _ _);refine dd (y:=2) (by decide) (by decide) ?_;refine (?_:ar _ _ _ _ _);refine p_add ?_;refine (?_:bV _ _ (nv 14) _ _);refine eZ (by rw [Ql,QM];lia) ?_;refine (?_:aO _ _ [_,_,_,_,_,_,_,_,_,_,_,_] _ _);refine (?_:ar _ _ _ _ _);refine jN (y:=2) (by decide) (by decide) ?_;refine (?_:ar _ _ _ _ _);refine fU (y:=16) (by decide) λrr hr _=>?_;refine (?_:aO _ _ [_,_,_,_,_,_,_,some (nv rr),_,_,_,_] (H1.out b (kl G.aa G.size rr 0)) _);refine ru (λρ' H'=>H'=H1.out b (kl G.aa G.size rr 4)/\∃u,ρ'=[some (.ref sc),some (nv G.aa),some (nv G.bE),some (.bool G.gM),some (nv G.size),some (.ref b),some (.int N),some (nv rr),u,none,none,none]) (λK2 j2 _ _=>?_) λρ' H' hI=>?_
   ·refine (?_:b8 .range _ _ _);refine fM (n:=4) (by decide) ?_;refine (?_:fj _ _ _ _ _ _);refine forR (n:=4) (λi ρ' H'=>H'=H1.out b (kl G.aa G.size rr i)/\∃u,ρ'=[some (.ref sc),some (nv G.aa),some (nv G.bE),some (.bool G.gM),some (nv G.size),some (.ref b),some (.int N),some (nv rr),u,none,none,none]) (λi ρ' H' K hi hI hn _ _=>?_) (λρ' H' hI=>j2 _ _ hI) ⟨rfl,_,rfl⟩;obtain ⟨rfl,u,rfl⟩:=hI;refine (?_:aO _ _ [_,_,_,_,_,_,_,_,some (nv i),_,_,_] _ _);refine cR ?_;refine aS ?_;refine dI (λe1=>?_) λe1=>?_
    ·have i2:i / 2<2:=RC hi
     have first:i / 2*(G.size-G.aa)+G.aa<=G.size:=by
      have:=QN (G.size-G.aa) (QH i2);lia
     have yes:kl G.aa G.size rr (i+1)=(kl G.aa G.size rr i).set (i / 2*(G.size-G.aa)+if i%2=1 then 0 else G.aa-1) (i / 2*8+4):=by rw [kl,Qk (kh.mp e1)]
     refine dd (y:=2) (by decide) (by decide) ?_;refine bT (y:=8) (by exact P7 ‹_› (by decide)) ?_;refine p_add ?_;refine dd (y:=2) (by decide) (by decide) ?_;refine cH fsz ?_;refine bT (by exact P7 ‹_› (by decide)) ?_;refine dX (y:=2) (by decide) ?_;refine aR ?_;refine ag (λe2=>?_) λe2=>?_
     ·refine p_add ?_;refine eZ (i:=i / 2*(G.size-G.aa)+0) (by rw [o3];lia) ?_;exact hn _ _ ⟨by rw [yes,Qk e2],_,rfl⟩
     ·refine cH (y:=1) (by exact Qp ‹_›) ?_;refine p_add ?_;refine eZ (by rw [o3];lia) ?_;exact hn _ _ ⟨by rw [yes,Qb e2],_,rfl⟩
    ·exact hn _ _ ⟨by rw [kl,Qb λz=>kh.mpr z e1],_,rfl⟩
   obtain ⟨rfl,u,rfl⟩:=hI;refine ⟨show 2<=1000 by decide,?_⟩;refine kr _ _ _ (fin _ _ _ λaz hw=>?_);subst e73;have:=aK J4 hr;rw [Qa] at this
   match az,hw with
   | 0,_=>exact ⟨_,_,tR this.1⟩
   | 1,_=>exact ⟨_,_,tR this.2⟩
  ·refine (?_:cF _ _ _);refine dh (λz=>absurd (z.symm.trans e) (by decide)) λ_=>?_;exact j _ _ ⟨rfl,rfl⟩
 refine aD hI ?_;rintro rfl rfl;refine (?_:ar _ _ _ _ _);refine fU s0 λhm hm1 _=>?_;refine (?_:aO _ _ [_,_,_,_,_,_,_,_,_,some (nv hm),_,_] _ _);refine (?_:bV _ _ (nv 6) _ _);refine eZ (by rw [QM];exact hm1) ?_;refine (?_:aO _ _ [_,_,_,_,_,_,_,_,_,_,_,_] _ _);refine ru (λ_ _=>False) (λK' j kr _=>?_) λρ' H' hI=>hI.elim;refine (?_:b8 .range _ _ _);refine fM (by exact P8 ‹_› (by decide)) ?_;refine (?_:fj _ _ _ _ _ _);refine forR (n:=G.size) (λi ρ' H'=>(∀j,j<i->∀m,m<G.size->(m:Int)=(N.fdiv G.size+(j:Int))%(G.size:Int)->¬AQ G.aa hm m=true)/\H'=H1.out b ((List.replicate G.size 0).set hm 6)/\∃u v,ρ'=[some (.ref sc),some (nv G.aa),some (nv G.bE),some (.bool G.gM),some (nv G.size),some (.ref b),some (.int N),some (nv 0),none,some (nv hm),u,v]) (λi ρ' H' K hi hI hn hr _=>?_) (λρ' H' hI=>?_) ⟨λj z=>absurd z (Rc _),rfl,_,_,rfl⟩
 ·obtain ⟨hno,rfl,u,v,rfl⟩:=hI;refine (?_:aO _ _ [_,_,_,_,_,_,_,_,_,_,some (nv i),_] _ _);refine (?_:ar _ _ _ _ _);refine jN s0 (by exact Qi ‹_› (by decide)) ?_;refine (?_:ar _ _ _ _ _);refine g5 ?_;refine (?_:ar _ _ _ _ _);refine fU s0 λm hm2 hme=>?_;refine (?_:aO _ _ [_,_,_,_,_,_,_,_,_,_,_,some (nv m)] _ _);refine (?_:ar _ _ _ _ _);refine dX (by exact Q5 ‹_›) ?_;refine (?_:ar _ _ _ _ _);refine dX (by exact Q5 ‹_›) ?_;refine (?_:ar _ _ _ _ _);refine dc ?_;refine (?_:b8 .abs _ _ _);refine uY ?_;refine (?_:ar _ _ _ _ _);refine dd (by exact Q5 ‹_›) (by exact L2 ‹_› ‹_› (by rfl)) ?_;refine (?_:ar _ _ _ _ _);refine dd (by exact Q5 ‹_›) (by exact L2 ‹_› ‹_› (by rfl)) ?_;refine (?_:ar _ _ _ _ _);refine dc ?_;refine (?_:b8 .abs _ _ _);refine uY ?_;refine (?_:b8 .max _ _ _);refine JX ?_;refine (?_:bM _ _ _ _ _);refine pE (y:=1) ?_;refine (?_:cF _ _ _);refine ag (λe=>?_) λe=>?_
  ·have hf:AQ G.aa hm m=true:=by
    refine Qq ?_;exact e
   refine (?_:aO _ _ [_,_,_,_,_,_,_,_,_,_,_,_] _ _);refine (?_:bV _ _ (nv 14) _ _);refine eZ (by rw [Ql,QM];exact hm2) ?_;refine ⟨show 2<=1000 by decide,?_⟩;refine hr _ _ _ (kr _ _ _ (fin _ _ _ λaz hw=>?_));exact ug B hm1 hm2 hf hw
  ·refine hn _ _ ⟨λj hj m' hm' hme'=>?_,rfl,_,_,rfl⟩;rcases Ss.mp hj with z | z
   ·exact hno j z m' hm' hme'
   ·subst z;have:m'=m:=Tv (hme'.trans hme.symm);rw [this];exact λz=>e (Qe z)
 ·exfalso;refine ao ((xG B hm1).2) λm hm2 hf=>?_;have hj0:0<=((m:Int) -N.fdiv G.size)%(G.size:Int):=Int.emod_nonneg _ (by exact pz ‹_›);have hj1:((m:Int) -N.fdiv G.size)%(G.size:Int)<G.size:=Int.emod_lt_of_pos _ (by exact p0 ‹_›);refine bJ (RP hj0) λjn hjn=>?_;refine hI.1 jn (by lia) m hm2 ?_ hf;rw [show (jn:Int)=((m:Int) -N.fdiv G.size)%(G.size:Int) from hjn.symm,Int.add_emod,Int.emod_emod,<- Int.add_emod,show N.fdiv (G.size:Int)+((m:Int) -N.fdiv G.size)=m by lia]
  exact (Int.emod_eq_of_lt (Qy m) (by exact QT.mpr ‹_›)).symm) ((d,H,G,q),(is,sc))
end
section
variable {d s g c k k2 f r az rk v:Nat} {H:Hp} {G:aE} {q:V->Hp->Prop} {L:List Nat} {x:Addr}
theorem vf.add (D:vf G L r az k k2) (hs:s<G.size) (h0:L.getD s 0=0) (h15:v<15) (h1:1<=v%8) (h5:v%8<=5) (hh:v / 8=az->¬(rel G az (v%8) s k2=true/\a7 G s k2 &&& Af (L.set s v)=0)):vf G (L.set s v) r az k k2:=by
 have at_:∀y,(L.set s v).getD y 0=if y=s then v else L.getD y 0:=λy=>gs D.len hs
 have ne:∀{y},L.getD y 0≠0->(L.set s v).getD y 0=L.getD y 0:=λ{y} h=>by
  rw [at_,Qb (show ¬y=s from λz=>h (z ▸ h0))]
 have un:∀{w y kk},Kg L w kk->(L.set s v).getD y 0=w*8+6->y=kk:=λ{w y kk} K h=>by
  rw [at_] at h;split at h
  ·lia
  ·exact K.un y h
 have kk:∀{w kk},Kg L w kk->Kg (L.set s v) w kk:=λ{w kk} K=>⟨by rw [ne (by rw [K.at_];exact kA)];exact K.at_,λy h=>un K h⟩;refine ⟨ls D.len,λy h=>?_,kk D.kg,kk D.ke,?_,D.je,λi hi=>?_⟩
 ·rw [at_] at h ⊢;split
  ·exact ⟨h15,h1,TJ h5⟩
  ·rename_i z;rw [Qb z] at h;exact D.mn y h
 ·rintro ⟨y,b1,b2,b3,b4⟩;by_cases z:y=s
  ·have:(L.set s v).getD y 0=v:=by rw [at_,Qk z]
   rw [this] at b2 b3;rw [z] at b3 b4;exact hh b2 ⟨b3,b4⟩
  ·have:(L.set s v).getD y 0=L.getD y 0:=by rw [at_,Qb z]
   rw [this] at b1 b2 b3;refine D.sf ⟨y,b1,b2,b3,j7.mpr λi h1 h2=>j7.mp b4 i h1 (lz.mpr ?_)⟩;have h2:=lz.mp h2;rw [ne h2];exact h2
 ·refine mV (D.rt i hi) λkf kt rf rt e e1 e2=>?_;exact ⟨kf,kt,rf,rt,e,by rw [ne (by exact rI ‹_›)];exact e1,by rw [ne (by exact rI ‹_›)];exact e2⟩
theorem DY {l:List Nat} {m:Nat} (h1:H x=some (.list (av l))) (hm:m∈l) (hl:l.length<=100) (hy:∀y∈l,y<100) (h:q (nv (l.idxOf m)) H):kO (.ref x) (nv m) H q:=by
 have e:∀{l:List Nat},(l.map Int.ofNat).idxOf (m:Int)=l.idxOf m:=by
  intro l
  induction l with
  | nil=>rfl
  | cons y l ih=>
   rw [Q9,List.idxOf_cons,List.idxOf_cons,ih,show (Int.ofNat y == (m:Int))=(y == m) by
    rw [QR,Ru,Ru];exact ⟨λe=>Tv e,λe=>congrArg Int.ofNat e⟩]
 refine ER.mk h1 (cY l) (Se.mpr ⟨m,hm,rfl⟩) (by rw [Qd];exact hl) (λy h=>?_) (by rw [e];exact h);refine ao (Se.mp h) ?_;rintro z hz rfl;have:=hy z hz;exact ⟨Qy z,Int.ofNat_lt.mpr this⟩
theorem Kg.idx (K:Kg L c k):c*8+6∈L/\L.idxOf (c*8+6)=k:=by
 have hk:k<L.length:=by
  rcases Qw k L.length with q | q
  ·exact q
  ·have:=K.at_;rw [hZ q] at this;exact absurd (Eq.symm ‹_›) kA
 have hm:c*8+6∈L:=by
  have:=K.at_;rw [P9,Qg hk] at this;exact this ▸ Sb hk
 refine ⟨hm,K.un _ ?_⟩;have hi:=List.idxOf_lt_length_of_mem hm;rw [P9,Qg hi];exact List.getElem_idxOf hi
theorem Kk {a b c:Nat} (h:∀z,q (.bool z) H):bM .inn (nv c) (.tup [nv a,nv b]) H q:=.mk (.mk (.tup rfl) (h _))
theorem Fz {vs:List V} {a b:Nat} (h1:H x=some (.list vs)) (hab:a<=b) (hb:b<=1000) (h:da ((vs.take b).drop a) H q):ec (.ref x) (nv a) (nv b) H q:=by
 exact iX.ref h1 (.mid ⟨Qy a,QT.mpr hab,by show (b:Int)<=1000000;exact Sv (QT.mpr ‹_›) (by decide)⟩ h)
def sx {is:List Int} {sc:Addr}:Prop:=∀(hsc:H sc=some (.list (is.map .int))) (B:BG G) (h:∀b L az r (ep:Int) k k2,H b=none->az<2->vf G L r az k k2->(ep=-1\/∃n:Nat,ep=n/\yW G.aa G.bE L az n)->q (mQ b az r ep) (H.out b L)),Call (d+3) 102 [.ref sc,nv G.aa,nv G.bE,.bool G.dbl,.bool G.gM] H q
theorem HU {is:List Int} {sc:Addr}:@sx d H G q is sc:=au (S:=λx:(Nat×Hp×aE×(V->Hp->Prop))×(List Int×Addr)=>@sx x.1.1 x.1.2.1 x.1.2.2.1 x.1.2.2.2 x.2.1 x.2.2) (x:=((0,λ_=>none,bO,λ_ _=>True),([],0))) (by
 refine (?_:∀d H G q is sc,@sx d H G q is sc) _ _ _ _ _ _;intro d H G q is sc hsc B h;have g:=B.ok;have h25:=g.i3;have f0:=g.f0;have r0:=g.r0;have qz:=g.qz;have sz:G.aa*G.bE=G.size:=rfl;have s0:G.size≠0:=QL (P7 (by exact Qp ‹_›) (Td G.aa (show 0<G.bE by exact RU ‹_›)));refine aq rfl rfl ?_;refine (?_:aO _ _ [_,_,_,_,_,_,_,_,_,_,_,_,_,_] _ _);refine (?_:ar _ _ _ _ _);refine bT (by exact Qi ‹_› (by decide)) ?_;rw [sz];refine (?_:aO _ _ [_,_,_,_,_,some (nv G.size),_,_,_,_,_,_,_,_] _ _);refine (?_:Call _ _ _ _ _);refine HV hsc B λb L0 r hb hD=>?_;have hsb:sc≠b:=Hp.dN hsc hb;have esc:∀L,(H.out b L) sc=some (.list (is.map .int)):=λL=>(Hp.ay hsb).trans hsc;refine (?_:tupK _ _ _ _);refine mP rfl ?_;refine (?_:aO _ _ [_,_,_,_,_,_,some (.ref b),some (nv r),_,_,_,_,_,_] _ _);refine (?_:Call _ _ _ _ _);refine A4 (k:=2) (esc _) ?_;refine (?_:ar _ _ _ _ _);refine fU (y:=2) (by decide) λaz hw _=>?_;refine (?_:aO _ _ [_,_,_,_,_,_,_,_,some (nv az),_,_,_,_,_] _ _);refine AU (hD az hw) λk k2 hD=>?_;refine ru (λρ' H'=>∃L H1 u1 u2 u3 u4 u5,H.Sub H1/\H1 b=none/\H'=H1.out b L/\vf G L r az k k2/\ρ'=[some (.ref sc),some (nv G.aa),some (nv G.bE),some (.bool G.dbl),some (.bool G.gM),some (nv G.size),some (.ref b),some (nv r),some (nv az),u1,u2,u3,u4,u5]) (λK1 k1 kr _=>?_) λρ' H' hI=>?_
 ·refine (?_:ec _ _ _ _ _);refine Fz (a:=3) (b:=7) (esc _) (by decide) (by decide) ?_;refine new_ (by rw [Ts,SY];exact P8 (Rk _ _) (P8 (TY _ _) (by decide))) λb3 hb3=>?_;refine aD (Hp.none_of hb3) λhbb hbn=>?_
  have hL:∀i v,(((is.map V.int).take 7).drop 3)[i]?=some v->∃n:Int,v=V.int n:=λi v e=>by
   have:=SR (T9 (QJ e));refine ao (Se.mp this) ?_;rintro n _ rfl;exact ⟨n,rfl⟩
  generalize ((is.map V.int).take 7).drop 3=vs at hL ⊢;have hc:∀L,(H.out b L).upd b3 (.list vs)=(H.upd b3 (.list vs)).out b L:=λL=>Hp.bu _ _ _ (Ne.symm hbb);rw [hc];have s1:H.Sub (H.upd b3 (.list vs)):=Hp.ax hbn;have hb1:(H.upd b3 (.list vs)) b=none:=(Hp.ay (Ne.symm hbb)).trans hb;have e3:∀L,((H.upd b3 (.list vs)).out b L) b3=some (.list vs):=λL=>(Hp.ay hbb).trans (Hp.ai ..);generalize H.upd b3 (.list vs)=H1 at s1 hb1 e3 ⊢;refine (?_:fj _ _ _ _ _ _);refine forL (e3 _) (λ_ ρ' H'=>∃L u1 u2 u3 u4 u5,H'=H1.out b L/\vf G L r az k k2/\ρ'=[some (.ref sc),some (nv G.aa),some (nv G.bE),some (.bool G.dbl),some (.bool G.gM),some (nv G.size),some (.ref b),some (nv r),some (nv az),u1,u2,u3,u4,u5]) (λi v ρ' H' K hv hI hn hr _=>?_) (λρ' H' hI=>?_) ⟨L0,_,_,_,_,_,rfl,hD,rfl⟩
  ·obtain ⟨L,u1,u2,u3,u4,u5,rfl,D,rfl⟩:=hI;refine bJ (hL i v hv) ?_;rintro n rfl;refine ⟨e3 L,?_⟩;have e6:(H1.out b L) b=some (.list (av L)):=Hp.ai ..;refine (?_:aO _ _ [_,_,_,_,_,_,_,_,_,some (.int n),_,_,_,_] _ _);refine (?_:ar _ _ _ _ _);refine fU s0 λsq hsq _=>?_;refine (?_:aO _ _ [_,_,_,_,_,_,_,_,_,_,some (nv sq),_,_,_] _ _);refine (?_:ar _ _ _ _ _);refine jN s0 (by exact Qi ‹_› (by decide)) ?_;refine (?_:ar _ _ _ _ _);refine fU (y:=10) (by decide) λcd hcd _=>?_;refine (?_:aO _ _ [_,_,_,_,_,_,_,_,_,_,_,some (nv cd),_,_] _ _);refine (?_:ar _ _ _ _ _);refine dd (by exact Q5 ‹_›) (by exact Qi ‹_› (by decide)) ?_;refine (?_:ar _ _ _ _ _);refine cH (y:=1) (by exact RU ‹_›) ?_;refine ⟨show 2<=1000 by decide,?_⟩;refine (?_:bM _ (nv _) (.tup [nv 0,nv (G.bE-1)]) _ _);refine Kk λot=>?_;refine (?_:aO _ _ [_,_,_,_,_,_,_,_,_,_,_,_,some (.bool ot),_] _ _);have no:K .next [some (.ref sc),some (nv G.aa),some (nv G.bE),some (.bool G.dbl),some (.bool G.gM),some (nv G.size),some (.ref b),some (nv r),some (nv az),some (.int n),some (nv sq),some (nv cd),some (.bool ot),u5] (H1.out b L):=hn _ _ ⟨L,_,_,_,_,_,rfl,D,rfl⟩;refine (?_:aN _ _ _ _);refine aU e6 (by rw [D.len];exact hsq) ?_;refine (?_:bM _ _ _ _ _);refine aR ?_;refine (?_:cF _ _ _);refine ag (λh0=>?_) λh0=>?_
   ·have put:aO (Call (d+2)) (.cons (.eS (.loc 6) (.loc 10) (.bin .add (.bin .add (.bin .mul (.bin .fdiv (.loc 11) (.bC 5)) (.bC 8)) (.bin .mod (.loc 11) (.bC 5))) (.bC 1))) (.cons (.bh (.dZ (.cons (.cmp .eq (.bin .fdiv (.loc 11) (.bC 5)) (.loc 8)) (.cons (.call 98 (.cons (.loc 6) (.cons (.loc 1) (.cons (.loc 10) (.cons (.index (.loc 6) (.bin .sub (.bC 14) (.bin .mul (.bC 8) (.loc 8)))) .nil))))) .nil))) (.cons (.eS (.loc 6) (.loc 10) (.bC 0)) .nil) .nil) .nil))
     [some (.ref sc),some (nv G.aa),some (nv G.bE),some (.bool G.dbl),some (.bool G.gM),some (nv G.size),some (.ref b),some (nv r),some (nv az),some (.int n),some (nv sq),some (nv cd),some (.bool ot),u5] (H1.out b L) K:=by
     have h0:L.getD sq 0=0:=h0;refine (?_:ar _ _ _ _ _);refine dd (y:=5) (by decide) (by decide) ?_;refine (?_:ar _ _ _ _ _);refine bT (y:=8) (by exact dv ‹_› (by rfl)) ?_;refine (?_:ar _ _ _ _ _);refine dX (y:=5) (by decide) ?_;refine (?_:ar _ _ _ _ _);refine p_add ?_;refine (?_:ar _ _ _ _ _);refine p_add (y:=1) ?_;have v15:cd / 5*8+cd%5+1<15:=(by decide:∀c,c<10->c / 5*8+c%5+1<15) cd ‹_›;have v1:1<=(cd / 5*8+cd%5+1)%8:=(by decide:∀c,c<10->1<=(c / 5*8+c%5+1)%8) cd ‹_›;have v5:(cd / 5*8+cd%5+1)%8<=5:=(by decide:∀c,c<10->(c / 5*8+c%5+1)%8<=5) cd ‹_›;have v8:(cd / 5*8+cd%5+1) / 8=cd / 5:=(by decide:∀c,c<10->(c / 5*8+c%5+1) / 8=c / 5) cd ‹_›;generalize cd / 5*8+cd%5+1=v at v15 v1 v5 v8 ⊢;refine (?_:bV _ _ _ _ _);refine eZ (by rw [D.len];exact hsq) ?_;refine (?_:aO _ _ [_,_,_,_,_,_,_,_,_,_,_,_,_,_] _ _);refine (?_:ar _ _ _ _ _);refine dd (y:=5) (by decide) (by decide) ?_;refine (?_:bM _ _ _ _ _);refine aR ?_;refine (?_:cF _ _ _);refine ag (λhwho=>?_) λhwho=>?_
     ·have Dl:(L.set sq v).length=G.size:=ls D.len
      have atv:(L.set sq v).getD sq 0=v:=by rw [gs D.len hsq,Qk rfl]
      have ke:Kg (L.set sq v) (1-az) k2:=⟨by rw [gs D.len hsq,Qb λz=>by have:=D.ke.at_;rw [z,h0] at this;exact absurd (Eq.symm ‹_›) kA];exact D.ke.at_,λy hy=>by
       rw [gs D.len hsq] at hy;split at hy
       ·lia
       ·exact D.ke.un y hy⟩
      have e7:(H1.out b (L.set sq v)) b=some (.list (av (L.set sq v))):=Hp.ai ..;refine ⟨gO e7,?_⟩;refine (?_:ar _ _ _ _ _);refine bT (x:=8) (by decide) ?_;refine (?_:ar _ _ _ _ _);refine cH (x:=14) (by lia) ?_;rw [show 14-8*az=(1-az)*8+6 from O7 (by assumption)];refine (?_:kO _ _ _ _);refine DY e7 ke.idx.1 (by rw [Dl];exact P8 ‹_› (by decide)) (λy hy=>?_) ?_
      ·obtain ⟨j,hj,rfl⟩:=List.getElem_of_mem hy;by_cases z:(L.set sq v).getD j 0=0
       ·rw [P9,Qg hj] at z;have z:(L.set sq v)[j]=0:=z;rw [z];decide
       ·rw [gs D.len hsq] at z
        have e9:(L.set sq v)[j]=(L.set sq v).getD j 0:=by rw [P9,Qg hj];rfl
        rw [e9,gs D.len hsq];split
        ·exact P7 ‹_› (by decide)
        ·rename_i z2;rw [Qb z2] at z;have:=(D.mn j z).1;exact P7 ‹_› (by decide)
      rw [ke.idx.2]
      have hk2:k2<G.size:=by
       rcases Qw k2 G.size with q | q
       ·exact q
       ·have:=ke.at_;rw [hZ (Dl.symm ▸ q)] at this;exact absurd (Eq.symm ‹_›) kA
      refine (?_:Call _ _ _ _ _);refine KD B e7 Dl hsq hk2 (by rw [atv];exact v1) (by rw [atv];exact v5) (by rw [atv];exact v15) λb' hb'=>?_;rw [atv,v8] at hb';refine (?_:cF _ _ _);refine dh (λe=>?_) λe=>?_
      ·refine (?_:aO _ _ [_,_,_,_,_,_,_,_,_,_,_,_,_,_] _ _);refine (?_:bV _ _ (nv 0) _ _);refine eZ (by rw [Dl];exact hsq) ?_;refine hn _ _ ⟨L,_,_,_,_,_,?_,D,rfl⟩;rw [Cv,Ij h0]
      ·refine hn _ _ ⟨L.set sq v,_,_,_,_,_,rfl,D.add hsq h0 v15 v1 v5 λ_ z=>?_,rfl⟩;have hwho:cd / 5=az:=hwho;rw [hwho] at hb';rw [hb' z] at e;cases e
     ·refine (?_:cF _ _ _);refine ag (λz=>absurd z hwho) λ_=>?_;exact hn _ _ ⟨L.set sq v,_,_,_,_,_,rfl,D.add hsq h0 v15 v1 v5 λz=>absurd (v8.symm.trans z) hwho,rfl⟩
    refine (?_:ar _ _ _ _ _);refine dX (y:=5) (by decide) ?_;refine (?_:bM _ _ _ _ _);refine aR ?_;refine (?_:cF _ _ _);refine ag (λe5=>?_) λe5=>?_
    ·refine (?_:jh _ _ _);refine lU ?_;refine (?_:cF _ _ _);refine dh (λ_=>?_) λ_=>?_
     ·exact put
     ·exact no
    ·refine (?_:jh _ _ _);refine BC ?_;refine (?_:cF _ _ _);refine ag (λ_=>?_) λz=>absurd e5 z;exact put
   ·refine (?_:cF _ _ _);refine ag (λy=>absurd y h0) λ_=>?_;exact no
  ·obtain ⟨L,u1,u2,u3,u4,u5,rfl,D,rfl⟩:=hI;exact ⟨e3 L,k1 _ _ ⟨L,H1,_,_,_,_,_,s1,hb1,rfl,D,rfl⟩⟩
 obtain ⟨L,H1,u1,u2,u3,u4,u5,s1,hb1,rfl,D,rfl⟩:=hI;have e6:(H1.out b L) b=some (.list (av L)):=Hp.ai ..;refine (?_:oT _ _ _);refine eP ?_;refine (?_:aO _ _ [_,_,_,_,_,_,_,_,_,_,_,_,_,some (.int (-1))] _ _);have fin:∀ep:Int,(ep=-1\/∃n:Nat,ep=n/\yW G.aa G.bE L az n)->∀ρ',dq q (.ret (mQ b az r ep)) ρ' (H1.out b L):=λep he ρ'=>gz (H.out b L) (i8 s1 L) (h b L az r ep k k2 hb hw D he)
 have last:∀ep:Int,(ep=-1\/∃n:Nat,ep=n/\yW G.aa G.bE L az n)->aO (Call (d+2)) (.cons (.ret (.tup (.cons (.loc 6) (.cons (.loc 8) (.cons (.loc 7) (.cons (.loc 13) .nil)))))) .nil) [some (.ref sc),some (nv G.aa),some (nv G.bE),some (.bool G.dbl),some (.bool G.gM),some (nv G.size),some (.ref b),some (nv r),some (nv az),u1,u2,u3,u4,some (.int ep)] (H1.out b L) (dq q):=λep he=>by
  refine ⟨show 4<=1000 by decide,?_⟩;exact fin ep he _
 refine (?_:cF _ _ _);refine dh (λe=>?_) λe=>?_
 ·have r5:5<=G.bE:=by
   rcases B with z | z | z
   ·rw [z];decide
   ·rw [z] at e;exact nomatch e
   ·rw [z];decide
  have r25:G.bE<=25:=P8 (TQ _ (by exact Qp ‹_›)) h25;refine (?_:Call _ _ _ _ _);refine A4 (k:=2) ((Hp.ay hsb).trans (s1 _ _ hsc)) ?_;refine (?_:ar _ _ _ _ _);refine jN (y:=2) (by decide) (by decide) ?_;refine (?_:ar _ _ _ _ _);refine fU (y:=2) (by decide) λm _ _=>?_;refine (?_:bM _ _ _ _ _);refine aR ?_;refine (?_:cF _ _ _);refine ag (λ_=>?_) λ_=>?_
  ·refine (?_:aO _ _ [_,_,_,_,_,_,_,_,_,_,_,_,_,_] _ _);refine (?_:Call _ _ _ _ _);refine HW e6 (by exact Qp ‹_›) qz r5 r25 D.len hw λep he=>?_;exact last ep he
  ·exact last (-1) (.inl rfl)
 ·refine (?_:cF _ _ _);refine dh (λz=>absurd (z.symm.trans e) (by decide)) λ_=>?_
  exact last (-1) (.inl rfl)) ((d,H,G,q),(is,sc))
end
structure qQ (H Hc:Hp) (p dx:Addr) (fs:List (Nat×V)) (ls:List (Addr×Ob)):Prop where
 ip:Hc p=some (.inst 2 dx)
 id:Hc dx=some (.dict fs)
 old:∀x o,x≠dx->H x=some o->Hc x=some o
 new:∀e∈ls,Hc e.1=some e.2/\H e.1=none/\e.1≠dx/\e.1≠p
 Ja:ls.Pairwise λa b=>a.1≠b.1
section
variable {d s g c k k2 f r az:Nat} {H Hc:Hp} {G:aE} {q:V->Hp->Prop} {L:List Nat} {x p dx:Addr} {fs:List (Nat×V)} {ls:List (Addr×Ob)}
theorem qQ.pd (B:qQ H Hc p dx fs ls):p≠dx:=λe=>by
 have:=B.ip;rw [e,B.id] at this;cases this
theorem qQ.set (B:qQ H Hc p dx fs ls) (fs':List (Nat×V)):qQ H (Hc.upd dx (.dict fs')) p dx fs' ls where
 ip:=(Hp.ay B.pd).trans B.ip
 id:=Hp.ai ..
 old:=λx o hx h=>(Hp.ay hx).trans (B.old x o hx h)
 new:=λe he=>⟨(Hp.ay (B.new e he).2.2.1).trans (B.new e he).1,(B.new e he).2⟩
 Ja:=B.Ja
theorem qQ.alloc (B:qQ H Hc p dx fs ls) {y:Addr} (hy:Hc y=none) (o:Ob):qQ H (Hc.upd y o) p dx fs (ls++ [(y,o)]):=by
 have hd:dx≠y:=Hp.dN B.id hy;have hp:p≠y:=Hp.dN B.ip hy
 have hH:H y=none:=by
  cases e:H y with
  | none=>rfl
  | some o'=>have:=B.old y o' (Ne.symm hd) e;rw [hy] at this;cases this
 refine ⟨(Hp.ay hp).trans B.ip,(Hp.ay hd).trans B.id,λx o' hx h=>(Hp.ay (Hp.dN h hH)).trans (B.old x o' hx h),λe he=>?_,?_⟩
 ·rcases QF.mp he with z | z
  ·have:=B.new e z;exact ⟨(Hp.ay (Hp.dN this.1 hy)).trans this.1,this.2⟩
  ·rw [Qt.mp z];exact ⟨Hp.ai ..,hH,Ne.symm hd,Ne.symm hp⟩
 ·refine List.pairwise_append.mpr ⟨B.Ja,List.pairwise_singleton _ _,λa ha b hb=>?_⟩;rw [Qt.mp hb];exact Hp.dN (B.new a ha).1 hy
theorem gN {v:V} {n:Nat} {P:Hp->Prop} (B:qQ H Hc p dx fs ls) (h3:fs.length<=100) (h:∀Hc',qQ H Hc' p dx (gB n v fs) ls->P Hc'):bj (.ref p) n v Hc P:=
 pX B.ip B.id h3 (h _ (B.set _))
theorem nW {vs:List V} (B:qQ H Hc p dx fs ls) (h0:vs.length<=lim) (h:∀y Hc',qQ H Hc' p dx fs (ls++ [(y,.list vs)])->q (.ref y) Hc'):da vs Hc q:=new_ h0 λy hy=>h y _ (B.alloc hy _)
theorem qQ.at_ (B:qQ H Hc p dx fs ls) {i:Nat} {e:Addr×Ob} (h:ls[i]?=some e):Hc e.1=some e.2:=(B.new e (QJ h)).1
noncomputable abbrev KC (gA zA bd kd sd hs:Addr):List (Nat×V):=[(18,.ref gA),(19,.ref zA),(20,.ref bd),(21,.ref kd),(22,.ref sd),(3,nv 0),(2,nv 0),(1,.int (-1)),(23,.int 0),(7,.int 1),(24,nv 0),(25,.ref hs)]
def pF {gA zA gd:Addr}:Prop:=∀{gf:List (Nat×V)} (B:qQ H Hc p dx [] []) (hg:H gA=some (.inst 1 gd)) (hgd:H gd=some (.dict gf)) (h6:fe 6 gf=some (nv s)) (hs:s<=1000) (n1:gA≠dx) (n2:gd≠dx) (h:∀Hc' t1 bd t2 kd sd hs,qQ H Hc' p dx (KC gA zA bd kd sd hs) [(t1,.list [.int 0]),(bd,.list (av (List.replicate s 0))),(t2,.list [.int 0]),(kd,.list (av (List.replicate 7 0))),(sd,.list (av [0,0])),(hs,.list [])]->q .none Hc'),Call (d+1) 1002 [.ref p,.ref gA,.ref zA] Hc q
theorem Es {gA zA gd:Addr}:@pF d s H Hc q p dx gA zA gd:=au (S:=λx:(Nat×Nat×Hp×Hp)×((V->Hp->Prop)×Addr×Addr×Addr)×(Addr×Addr)=>@pF x.1.1 x.1.2.1 x.1.2.2.1 x.1.2.2.2 x.2.1.1 x.2.1.2.1 x.2.1.2.2.1 x.2.1.2.2.2 x.2.2.1 x.2.2.2) (x:=((0,0,λ_=>none,λ_=>none),(λ_ _=>True,0,0,0),(0,0))) (by
 refine (?_:∀d s H Hc q p dx gA zA gd,@pF d s H Hc q p dx gA zA gd) _ _ _ _ _ _ _ _ _ _;intro d s H Hc q p dx gA zA gd gf B hg hgd h6 hs n1 n2 h;refine aq rfl rfl ?_;refine (?_:aO _ _ [_,_,_] _ _);refine (?_:bj _ _ _ _ _);refine gN B (by decide) λHc B=>?_;refine (?_:aO _ _ [_,_,_] _ _);refine (?_:bj _ _ _ _ _);refine gN B (show 1<=100 by decide) λHc B=>?_;refine (?_:aO _ _ [_,_,_] _ _);refine nW B (show 1<=1000000 by decide) λt1 Hc B=>?_;refine (?_:dP _ _ _ _);refine at_ (B.old _ _ n1 hg) (B.old _ _ n2 hgd) h6 ?_;refine (?_:ar _ _ _ _ _);refine tr (B.at_ (i:=0) rfl) hs ?_;rw [show List.replicate s (V.int 0)=av (List.replicate s 0) from by rw [av,TF];rfl];refine nW B (by rw [Qd,QM];show s<=1000000;exact P8 ‹_› (by decide)) λbd Hc B=>?_;refine (?_:bj _ _ _ _ _);refine gN B (show 2<=100 by decide) λHc B=>?_;refine (?_:aO _ _ [_,_,_] _ _);refine nW B (show 1<=1000000 by decide) λt2 Hc B=>?_;refine (?_:ar _ _ (nv 7) _ _);refine tr (B.at_ (i:=2) rfl) (by decide) ?_;refine nW B (show 7<=1000000 by decide) λkd Hc B=>?_;refine (?_:bj _ _ _ _ _);refine gN B (show 3<=100 by decide) λHc B=>?_;refine (?_:aO _ _ [_,_,_] _ _);refine nW B (show 2<=1000000 by decide) λsd Hc B=>?_;refine (?_:bj _ _ _ _ _);refine gN B (show 4<=100 by decide) λHc B=>?_;refine (?_:bj _ _ _ _ _);refine gN B (show 5<=100 by decide) λHc B=>?_;refine (?_:bj _ _ _ _ _);refine gN B (show 6<=100 by decide) λHc B=>?_;refine (?_:oT _ _ _);refine eP ?_;refine (?_:bj _ _ _ _ _);refine gN B (show 7<=100 by decide) λHc B=>?_;refine (?_:bj _ _ _ _ _);refine gN B (show 8<=100 by decide) λHc B=>?_;refine (?_:bj _ _ _ _ _);refine gN B (show 9<=100 by decide) λHc B=>?_;refine (?_:bj _ _ _ _ _);refine gN B (show 10<=100 by decide) λHc B=>?_;refine (?_:aO _ _ [_,_,_] _ _);refine nW B (show 0<=1000000 by decide) λhs Hc B=>?_;refine (?_:bj _ _ _ _ _);refine gN B (show 11<=100 by decide) λHc B=>?_;refine (?_:dq _ _ _ _)
 exact fN (h _ t1 bd t2 kd sd hs B)) ((d,s,H,Hc),(q,p,dx,gA),(zA,gd))
end
section
variable {d s g c k k2 f r az ab:Nat} {H H0 Hc:Hp} {G:aE} {R:Rw} {a:Ad} {q:V->Hp->Prop} {L:List Nat} {x p dx:Addr} {ep:Int} {U:Nat->Addr}
theorem Et {z zd:Addr} {v0 v1 v2 v3:V} (h1:H z=some (.inst 0 zd)) (h2:H zd=some (.dict [])) (h:q .none (H.upd zd (.dict [(0,v0),(1,v1),(2,v2),(3,v3)]))):Call (d+1) 1000 [.ref z,v0,v1,v2,v3] H q:=by
 have hz:z≠zd:=λe=>by rw [e,h2] at h1;cases h1
 have st:∀{n:Nat} {v:V} {fs:List (Nat×V)} {P:Hp->Prop},fs.length<=100->P (H.upd zd (.dict (gB n v fs)))->bj (.ref z) n v (H.upd zd (.dict fs)) P:=λh3 h4=>
  pX ((Hp.ay hz).trans h1) (Hp.ai ..) h3 (by rw [Hp.eH];exact h4)
 refine aq rfl rfl ?_;refine (?_:aO _ _ [_,_,_,_,_] _ _);refine (?_:bj _ _ _ _ _);refine pX h1 h2 (by decide) ?_;refine (?_:bj _ _ _ _ _);refine st (show 1<=100 by decide) ?_;refine (?_:bj _ _ _ _ _);refine st (show 2<=100 by decide) ?_;refine (?_:bj _ _ _ _ _);refine st (show 3<=100 by decide) ?_;refine (?_:dq _ _ _ _);exact fN h
theorem sV {test elt:Lc->Hp->(V->Hp->Prop)->Prop} {O:Lc} {Q:List V->Hp->Prop} (I:Nat->List V->Hp->Prop) (hl:∀j acc H,I j acc H->acc.length<=j) {n:Nat} (hn:n<=1000)
 (step:∀j acc H (K:V->Hp->Prop),j<n->I j acc H->(∀y H',I (j+1) (acc++ [y]) H'->K y H')->(∀Q':V->Hp->Prop,Q' (.bool true) H->test (O.set 0 (some (nv j))) H Q')/\elt (O.set 0 (some (nv j))) H K)
 (fin:∀acc H',I n acc H'->Q acc H'):∀{m j:Nat} {acc:List V} {H:Hp},j+m=n->I j acc H->eE test elt O ((List.range' j m).map nv) acc H Q
 | 0,j,acc,H,e,h=>fin acc H (by rw [<- e];exact h)
 | m+1,j,acc,H,e,h=>by
  have st:=step j acc H (λy H'=>acc.length<lim/\eE test elt O ((List.range' (j+1) m).map nv) (acc++ [y]) H' Q) (by lia) h λy H' h'=>⟨by have:=hl _ _ _ h;show _<1000000;lia,sV I hl hn step fin (by lia) h'⟩;exact st.1 _ st.2
theorem Ec {test elt:Lc->Hp->(V->Hp->Prop)->Prop} {O:Lc} {Q:List V->Hp->Prop} (I:Nat->List V->Hp->Prop) (hl:∀j acc H,I j acc H->acc.length<=j) {n:Nat} (hn:n<=1000)
 (step:∀j acc H (K:V->Hp->Prop),j<n->I j acc H->(∀y H',I (j+1) (acc++ [y]) H'->K y H')->(∀Q':V->Hp->Prop,Q' (.bool true) H->test (O.set 0 (some (nv j))) H Q')/\elt (O.set 0 (some (nv j))) H K)
 (h0:I 0 [] H) (fin:∀acc H',I n acc H'->Q acc H'):fH test elt O (.f7 0 n 1) H Q:=by
 unfold fH;show eE test elt O (aP 0 n 1) [] H Q;rw [uk,List.range_eq_range'];exact sV I hl hn step fin (Rx n) h0
theorem wC {Γ:Sg} {e:E} {O:Lc} {n:Nat} {g:Nat->Nat} {Q:V->Hp->Prop} (hn:n<=1000) (he:∀j,j<n->∀Q:V->Hp->Prop,Q (nv (g j)) H->bp Γ e (O.set 0 (some (nv j))) H Q)
 (h:∀b,H b=none->Q (.ref b) (H.out b ((List.range n).map g))):fH (λO H Q=>bp Γ (.bz true) O H Q) (λO H Q=>bp Γ e O H Q) O (.f7 0 n 1) H λvs H=>da vs H Q:=by
 refine qC uk (λ_=>true) g hn (λ_ _ Q h=>h) (λj hj _ Q h=>he j hj Q h) ?_;have hf:(List.range n).filter (λ_=>true)=List.range n:=List.filter_eq_self.mpr λ_ _=>rfl;refine new_ (xE hn) λb hb=>?_;rw [hf,show ((List.range n).map λj=>nv (g j))=av ((List.range n).map g) from by rw [av,Su];rfl];exact h b hb
theorem GW.mono {H':Hp} (w:GW H a G) (s:H.Sub H'):GW H' a G:=⟨s _ _ w.g,s _ _ w.gd,s _ _ w.fm,s _ _ w.rm,s _ _ w.oA,λd r h=>s _ _ (w.mR d r h),s _ _ w.cz,s _ _ w.a8,s _ _ w.fJ,λc r h=>s _ _ (w.pn c r h),s _ _ w.gM,s _ _ w.cP⟩
theorem ZW.mono {H':Hp} (w:ZW H a G) (s:H.Sub H'):ZW H' a G:=⟨s _ _ w.z,s _ _ w.zd,s _ _ w.zp,λm h=>s _ _ (w.row m h),s _ _ w.ze,s _ _ w.zr⟩
theorem wb (w:PW H a R):H=H.put a R:=by
 funext y;unfold Hp.put;split
 ·subst_vars;exact w.bd
 ·split
  ·subst_vars;exact w.kd
  ·split
   ·subst_vars;exact w.sd
   ·split
    ·subst_vars;exact w.hs
    ·split
     ·subst_vars;exact w.dx
     ·rfl
def vi:Prop:=∀{Γ:Sg} {v4 v5 v6 v7 v8:Option V} {gA:Addr} {st:V} {r:S} {Q:Fl->Lc->Hp->Prop} (g:cu G) (hc:∀z v0 v1 v2 v3 zd H q,H z=some (.inst 0 zd)->H zd=some (.dict [])->q .none (H.upd zd (.dict [(0,v0),(1,v1),(2,v2),(3,v3)]))->Γ 1000 [.ref z,v0,v1,v2,v3] H q) (h:∀H' z zd zp ze zr,∀row:Nat->Addr,∀ρ',H.Sub H'->H' z=some (.inst 0 zd)->H' zd=some (.dict [(0,.ref zp),(1,.ref ze),(2,.ref zr),(3,nv (yZ G.size G.aa))])->H' zp=some (.list ((List.range 15).map λm=>.ref (row m)))->(∀m,m<15->H' (row m)=some (.list (av (vh G.size m))))->
 H' ze=some (.list (av (Bn G.size G.aa)))->H' zr=some (.list (av (Bm G.size)))->ρ'=[some (.ref gA),some st,some (nv G.aa),some (nv G.size),v4,some (.ref zp),some (nv (15*G.size)),some (.ref z),v8]->aO Γ r ρ' H' Q),aO Γ (.cons (.asg 5 (.comp [none,some 3] (.bi .range (.cons (.bC 15) .nil)) (.bz true) (.comp [none,some 0,some 1] (.bi .range (.cons (.loc 1) .nil)) (.bz true) (.bin .shl (.bC 1) (.bin .add (.bin .mul (.loc 1) (.loc 2)) (.loc 0)))))) (.cons (.asg 6 (.bin .mul (.bC 15) (.loc 3))) (.cons (.asg 7 (.new 0 (.cons (.loc 5) (.cons (.comp [none,some 6] (.bi .range (.cons (.loc 2) .nil)) (.bz true) (.bin .shl (.bC 1) (.bin .add (.bin .add (.loc 1) (.bC 4)) (.loc 0)))) (.cons (.comp [none,some 6] (.bi .range (.cons (.bC 16) .nil)) (.bz true) (.bin .shl (.loc 0) (.loc 1))) (.cons (.bin .shl (.bC 1) (.bin .add (.bin .add (.loc 6) (.bC 4)) (.loc 2))) .nil)))))) r)))
 [some (.ref gA),some st,some (nv G.aa),some (nv G.size),v4,v5,v6,v7,v8] H Q
theorem Ji:@vi H G:=au (S:=λx:Hp×aE=>@vi x.1 x.2) (x:=(λ_=>none,bO)) (by
 refine (?_:∀H G,@vi H G) _ _;intro H G Γ v4 v5 v6 v7 v8 gA st r Q g hc h;have h25:=g.i3;have qz:=g.qz;refine (?_:b8 .range _ _ _);refine fM (n:=15) (by decide) ?_;refine (?_:fH _ _ _ _ _ _);refine Ec (n:=15) (λj acc H'=>H.Sub H'/\∃as:List Addr,acc=as.map V.ref/\as.length=j/\∀m,m<j->H' (as.getD m 0)=some (.list (av (vh G.size m)))) (λj acc H' h=>by obtain ⟨_,as,rfl,e,_⟩:=h;rw [Qd,e];exact Qn _) (by decide) (λj acc H' K hj hI hK=>⟨λQ' h=>h,?_⟩) ⟨Hp.Sub.refl H,[],rfl,rfl,λm h=>absurd h (Rc m)⟩ λacc H1 hI=>?_
 ·obtain ⟨s1,as,rfl,hl,hr⟩:=hI;refine (?_:b8 .range _ _ _);refine fM (by exact P8 ‹_› (by decide)) ?_;refine (?_:fH _ _ [_,_,_] _ _ _);refine wC (g:=λs=>2^(j*G.size+s)) (by exact P8 ‹_› (by decide)) (λi hi Q h=>?_) λb hb=>?_
  ·refine (?_:ar _ _ _ _ _);refine bT (by exact P7 ‹_› (by decide)) ?_;refine (?_:ar _ _ _ _ _);refine p_add ?_;refine (?_:ar _ _ _ _ _);have:j*G.size<=15*25:=Uc (by exact Qp ‹_›) h25;exact cb (by lia) h
  ·refine hK _ _ ⟨Hp.Sub.trans s1 (Hp.ax hb),as++ [b],by rw [Rd];rfl,by rw [Qc,hl];rfl,λm hm=>?_⟩;rw [P9];rcases Ss.mp hm with z | z
   ·rw [Sj (by rw [hl];exact z),<- P9];exact (Hp.ay (Hp.dN (hr m z) hb)).trans (hr m z)
   ·rw [z,Ri (by rw [hl];exact Qn _),hl,TV];exact Hp.ai ..
 obtain ⟨s1,as,rfl,hl,hr⟩:=hI;refine new_ (by rw [Qd,hl];show 15<=1000000;decide) λzp hzp=>?_
 have e1:as.map V.ref=(List.range 15).map λm=>V.ref (as.getD m 0):=by
  refine List.ext_getElem (by rw [Qd,Qd,Sr,hl]) λi h1 h2=>?_;rw [Qd] at h1;rw [List.getElem_map,List.getElem_map,List.getElem_range,P9,Qg h1];rfl
 rw [e1];have s2:=Hp.Sub.trans s1 (Hp.ax (o:=.list ((List.range 15).map λm=>V.ref (as.getD m 0))) hzp);have hr2:∀m,m<15->(H1.upd zp (.list ((List.range 15).map λm=>V.ref (as.getD m 0)))) (as.getD m 0)=some (.list (av (vh G.size m))):=λm hm=>(Hp.ay (Hp.dN (hr m hm) hzp)).trans (hr m hm);have hz2:(H1.upd zp (.list ((List.range 15).map λm=>V.ref (as.getD m 0)))) zp=_:=Hp.ai ..;refine (?_:aO _ _ [_,_,_,_,_,some (.ref zp),_,_,_] _ _);generalize H1.upd zp (.list ((List.range 15).map λm=>V.ref (as.getD m 0)))=H2 at s2 hr2 hz2 ⊢;refine (?_:ar _ _ _ _ _);refine bT (x:=15) (by decide) ?_;refine (?_:aO _ _ [_,_,_,_,_,_,some (nv (15*G.size)),_,_] _ _);refine (?_:b8 .range _ _ _);refine fM (by exact P8 ‹_› (by decide)) ?_;refine (?_:fH _ _ [_,_] _ _ _);refine wC (g:=λf=>2^(15*G.size+4+f)) (by exact P8 ‹_› (by decide)) (λi hi Q h=>?_) λze hze=>?_
 ·refine (?_:ar _ _ _ _ _);refine p_add (y:=4) ?_;refine (?_:ar _ _ _ _ _);refine p_add ?_;refine (?_:ar _ _ _ _ _);exact cb (by lia) h
 have s3:=Hp.Sub.trans s2 (Hp.ax (o:=.list (av (Bn G.size G.aa))) hze);have u3:=Hp.ax (o:=.list (av (Bn G.size G.aa))) hze;have e3:(H2.upd ze (.list (av (Bn G.size G.aa)))) ze=_:=Hp.ai ..;refine (?_:b8 .range _ (H2.upd ze (.list (av (Bn G.size G.aa)))) _);generalize H2.upd ze (.list (av (Bn G.size G.aa)))=H3 at s3 u3 e3 ⊢;refine fM (n:=16) (by decide) ?_;refine (?_:fH _ _ [_,_] _ _ _);refine wC (n:=16) (g:=λr=>r <<< (15*G.size)) (by decide) (λi hi Q h=>?_) λzr hzr=>?_
 ·refine (?_:ar _ _ _ _ _);exact gY (by exact P8 (S8 _ ‹_›) (by decide)) (by exact P7 ‹_› (by decide)) h
 have s4:=Hp.Sub.trans s3 (Hp.ax (o:=.list (av (Bm G.size))) hzr);have u4:=Hp.ax (o:=.list (av (Bm G.size))) hzr;have e4:(H3.upd zr (.list (av (Bm G.size)))) zr=_:=Hp.ai ..;refine (?_:ar _ _ _ (H3.upd zr (.list (av (Bm G.size)))) _);generalize H3.upd zr (.list (av (Bm G.size)))=H4 at s4 u4 e4 ⊢;refine p_add (y:=4) ?_;refine (?_:ar _ _ _ _ _);refine p_add ?_;refine (?_:ar _ _ _ _ _);refine cb (by lia) ?_;intro z zd hz hzd hne;have u5:H4.Sub ((H4.upd z (.inst 0 zd)).upd zd (.dict [])):=Hp.Sub.trans (Hp.ax hz) (Hp.ax ((Hp.ay (Ne.symm hne)).trans hzd));refine hc z _ _ _ _ zd _ _ ((Hp.ay hne).trans (Hp.ai ..)) (Hp.ai ..) ⟨rfl,?_⟩
 have u6:H4.Sub (((H4.upd z (.inst 0 zd)).upd zd (.dict [])).upd zd (.dict [(0,.ref zp),(1,.ref ze),(2,.ref zr),(3,nv (yZ G.size G.aa))])):=by
  rw [Hp.eH];exact Hp.Sub.trans (Hp.ax hz) (Hp.ax ((Hp.ay (Ne.symm hne)).trans hzd))
 have t34:=Hp.Sub.trans u4 u6;have t24:=Hp.Sub.trans u3 t34
 exact h _ z zd zp ze zr (λm=>as.getD m 0) _ (Hp.Sub.trans s4 u6) ((Hp.ay hne).trans ((Hp.ay hne).trans (Hp.ai ..))) (Hp.ai ..) (t24 _ _ hz2) (λm hm=>t24 _ _ (hr2 m hm)) (t34 _ _ e3) (u6 _ _ e4) rfl) (H,G)
end
noncomputable def Gh (U:Nat->Addr) (p dx bd kd sd hs z zd zp ze zr:Addr) (row:Nat->Addr):Ad where
 p:=p
 dx:=dx
 bd:=bd
 kd:=kd
 sd:=sd
 hs:=hs
 g:=U 1
 gd:=U 0
 fm:=U 2
 rm:=U 3
 oA:=U 4
 mR:=λd=>U (15+2*d)
 cz:=U 13
 a8:=U 6
 fJ:=U 9
 pn:=λc=>U (7+c)
 gM:=U 10
 cP:=U 31
 z:=z
 zd:=zd
 zp:=zp
 row:=row
 ze:=ze
 zr:=zr
noncomputable def bk (L:List Nat) (k:Nat):List Nat:=(List.range L.length).map λs=>if s<k then L.getD s 0 else 0
noncomputable def R0 (sz:Nat):Rw:=⟨List.replicate sz 0,List.replicate 7 0,[0,0],0,0,-1,0,1,0,[]⟩
section
variable {d s g c k k2 f r az ab:Nat} {H H0 Hc:Hp} {G:aE} {R:Rw} {a:Ad} {q:V->Hp->Prop} {L:List Nat} {x p dx:Addr} {ep:Int} {U:Nat->Addr}
theorem iq:(bk L k).length=L.length:=by unfold bk;rw [Qd,Sr]
theorem my:(bk L k).getD s 0=if s<k then L.getD s 0 else 0:=by
 rcases Qw s L.length with h | h
 ·unfold bk;rw [P9,QK,RE h];rfl
 ·rw [hZ (by rw [iq];exact h),hZ h];split<;>rfl
theorem ED:bk L L.length=L:=eJ iq λi=>by
 rw [my];split
 ·rfl
 ·exact (hZ (SA ‹_›)).symm
theorem A9:bk L 0=List.replicate L.length 0:=eJ (by rw [iq,QM]) λi=>by
 rw [my,Qb (Rc i),P9,RO];split<;>rfl
theorem EC (h:k<L.length):(bk L k).set k (L.getD k 0)=bk L (k+1):=eJ (by rw [Ql,iq,iq]) λi=>by
 rw [cT (by rw [iq];exact h),my,my];by_cases e:i=k
 ·rw [Qk e,Qk (by lia),e]
 ·rw [Qb e];by_cases e2:i<k
  ·rw [Qk e2,Qk (by exact Rl ‹_›)]
  ·rw [Qb e2,Qb (by lia)]
theorem Ba (h0:L.getD k 0=0):bk L k=bk L (k+1):=eJ (by rw [iq,iq]) λi=>by
 rw [my,my];by_cases e:i=k
 ·rw [e,Qb (Q8 k),Qk (Qu k),h0]
 ·by_cases e2:i<k
  ·rw [Qk e2,Qk (QW e2)]
  ·rw [Qb e2,Qb (by lia)]
theorem rep0 {n i:Nat}:(List.replicate n 0).getD i 0=0:=by
 rw [P9,RO];split<;>rfl
theorem AF:ba G (R0 G.size):=by
 have b0:∀s,bd (R0 G.size) s=0:=λs=>rep0;have s0:∀c,Sd (R0 G.size) c=0:=λc=>rep0 (n:=2);have k0:∀c,K (R0 G.size) c=0:=λc=>rep0 (n:=7);refine ⟨QM,QM,rfl,λs h=>absurd (b0 s) h,λk s=>?_,λc s=>?_⟩
 ·rw [k0,Qr];exact ⟨λe=>(nomatch e),λe=>absurd (b0 s) e.1⟩
 ·rw [s0,Qr];exact ⟨λe=>(nomatch e),λe=>absurd (b0 s) e.1⟩
def sj:Prop:=∀(B:BG G) (m:Em H0 U (uT G) H) (hL:H x=some (.list (av L))) (hl:L.length=G.size) (mn:∀s,L.getD s 0≠0->nE (L.getD s 0)) (hw:az<2) (hr:ab<16) (hep:ep=-1\/(G.aa:Int)<=ep/\ep+G.aa<G.size) (h:∀a H' R,gb H' a G->(∀y o,H y=some o->¬dyn a y/\H' y=some o)->ba G R->R.key=kL G R->R.ae=L->R.af=az->R.ab=ab->R.ep=ep->R.cA=[]->q (.ref a.p) (H'.put a R)),Call (d+4) 106 [.ref (U 1),mQ x az ab ep,nv G.aa] H q
theorem HR:@sj d az ab H H0 G q L x ep U:=au (S:=λx:(Nat×Nat×Nat×Hp)×(Hp×aE×(V->Hp->Prop)×List Nat)×(Addr×Int×(Nat->Addr))=>@sj x.1.1 x.1.2.1 x.1.2.2.1 x.1.2.2.2 x.2.1.1 x.2.1.2.1 x.2.1.2.2.1 x.2.1.2.2.2 x.2.2.1 x.2.2.2.1 x.2.2.2.2) (x:=((0,0,0,λ_=>none),(λ_=>none,bO,λ_ _=>True,[]),(0,0,λ_=>0))) (by
 refine (?_:∀d az ab H H0 G q L x ep U,@sj d az ab H H0 G q L x ep U) _ _ _ _ _ _ _ _ _ _ _;intro d az ab H H0 G q L x ep U B m hL hl mn hw hr hep h;have g:=B.ok;have h25:=g.i3;refine aq rfl rfl ?_;refine (?_:aO _ _ [_,_,_,_,_,_,_,_,_] _ _);refine (?_:aN _ _ _ _);refine dU (i:=0) rfl ?_;refine (?_:b8 .len _ _ _);refine l9 hL ?_;rw [Qd,hl];refine Ji g (λz v0 v1 v2 v3 zd H q h1 h2 h3=>Et h1 h2 h3) λH1 z zd zp ze zr row ρ' s1 hz hzd hzp hrow hze hzr e=>?_;subst e;intro p dx hp hdx hne;have u1:H1.Sub ((H1.upd p (.inst 2 dx)).upd dx (.dict [])):=Hp.Sub.trans (Hp.ax hp) (Hp.ax ((Hp.ay (Ne.symm hne)).trans hdx))
 have B0:qQ ((H1.upd p (.inst 2 dx)).upd dx (.dict [])) ((H1.upd p (.inst 2 dx)).upd dx (.dict [])) p dx [] []:=
  ⟨(Hp.ay hne).trans (Hp.ai ..),Hp.ai ..,λ_ _ _ h=>h,λe he=>absurd he Rg,List.Pairwise.nil⟩
 have T0:∀bd kd sd hs,GW H (Gh U p dx bd kd sd hs z zd zp ze zr row) G:=λbd kd sd hs=>GS m ⟨rfl,rfl,rfl,rfl,rfl,λ_=>rfl,rfl,rfl,rfl,λ_=>rfl,rfl,rfl⟩ g.IZ;have T1:=(T0 0 0 0 0).mono s1;have nd:∀{y o},H1 y=some o->y≠dx:=λh=>Hp.dN h hdx;refine (?_:Call _ 1002 _ _ _);refine Es (gd:=U 0) B0 (u1 _ _ T1.g) (u1 _ _ T1.gd) rfl (by exact P8 ‹_› (by decide)) (nd T1.g) (nd T1.gd) λHc t1 bd t2 kd sd hs Bd=>⟨rfl,?_⟩;have u2:H1.Sub Hc:=λy o e=>Bd.old y o (nd e) (u1 y o e);obtain ⟨a,ha⟩:∃a,a=Gh U p dx bd kd sd hs z zd zp ze zr row:=⟨_,rfl⟩;have hP:=Bd.Ja
 have nw:∀{i:Nat} {e:Addr×Ob},[(t1,Ob.list [.int 0]),(bd,.list (av (List.replicate G.size 0))),(t2,.list [.int 0]),(kd,.list (av (List.replicate 7 0))),(sd,.list (av [0,0])),(hs,.list [])][i]?=some e->H1 e.1=none/\e.1≠dx/\e.1≠p:=λhe=>by
  have:=Bd.new _ (QJ he);refine ⟨?_,this.2.2⟩
  cases e1:H1 _ with
  | none=>rfl
  | some o=>have:=this.2.1;rw [u1 _ _ e1] at this;cases this
 have nb:=nw (i:=1) rfl;have nk:=nw (i:=3) rfl;have ns:=nw (i:=4) rfl;have nh:=nw (i:=5) rfl
 have df:∀{i j:Nat} {e e':Addr×Ob},i<j->[(t1,Ob.list [.int 0]),(bd,.list (av (List.replicate G.size 0))),(t2,.list [.int 0]),(kd,.list (av (List.replicate 7 0))),(sd,.list (av [0,0])),(hs,.list [])][i]?=some e->[(t1,Ob.list [.int 0]),(bd,.list (av (List.replicate G.size 0))),(t2,.list [.int 0]),(kd,.list (av (List.replicate 7 0))),(sd,.list (av [0,0])),(hs,.list [])][j]?=some e'->e.1≠e'.1:=λhij h1 h2=>by
  refine bJ (Qs.mp h1) ?_;rintro a1 rfl;refine bJ (Qs.mp h2) ?_;rintro a2 rfl;exact List.pairwise_iff_getElem.mp hP _ _ a1 a2 hij
 have dn:∀{y o},H1 y=some o->¬dyn a y:=λ{y o} e z=>by
  rw [ha] at z
  rcases z with z | z | z | z | z<;>rw [z] at e
  ·exact nomatch nb.1.symm.trans e
  ·exact nomatch nk.1.symm.trans e
  ·exact nomatch ns.1.symm.trans e
  ·exact nomatch nh.1.symm.trans e
  ·exact nomatch hdx.symm.trans e
 have T:GW H1 a G:=ha ▸ (T0 bd kd sd hs).mono s1
 have Z:ZW H1 a G:=by rw [ha];exact ⟨hz,hzd,hzp,hrow,hze,hzr⟩
 have D:Om a:=by
  have dp:¬dyn a p:=λz=>by
   rw [ha] at z;rcases z with z | z | z | z | z
   ·exact nb.2.2 z.symm
   ·exact nk.2.2 z.symm
   ·exact ns.2.2 z.symm
   ·exact nh.2.2 z.symm
   ·exact hne z
  have dray:∀d,d<8->¬dyn a (a.mR d):=λd hd=>dn (T.mR d _ (by rw [Qg (by rw [g.IZ];exact hd)]));have dpn:∀d,d<2->¬dyn a (a.pn d):=λd hd=>dn (T.pn d _ (Qg (show d<2 from hd)));have d1:=df (i:=1) (j:=3) (by decide) rfl rfl;have d2:=df (i:=1) (j:=4) (by decide) rfl rfl;have d3:=df (i:=1) (j:=5) (by decide) rfl rfl;have d5:=df (i:=3) (j:=4) (by decide) rfl rfl;have d6:=df (i:=3) (j:=5) (by decide) rfl rfl;have d8:=df (i:=4) (j:=5) (by decide) rfl rfl
  have ap:a.p=p:=by rw [ha];rfl
  exact ⟨by rw [ha];exact Ne.symm d1,by rw [ha];exact Ne.symm d2,by rw [ha];exact Ne.symm d3,by rw [ha];exact Ne.symm nb.2.1,by rw [ha];exact Ne.symm d5,by rw [ha];exact Ne.symm d6,by rw [ha];exact Ne.symm nk.2.1,by rw [ha];exact Ne.symm d8,by rw [ha];exact Ne.symm ns.2.1,by rw [ha];exact Ne.symm nh.2.1,
   ap.symm ▸ dp,dn T.g,dn T.gd,dn T.fm,dn T.rm,dn T.oA,dray,dn T.cz,dn T.a8,dn T.fJ,dpn,dn T.gM,dn T.cP,dn Z.z,dn Z.zd,dn Z.zp,λm hm=>dn (Z.row m hm),dn Z.ze,dn Z.zr⟩
 have S:gb Hc a G:=⟨by rw [ha];exact Bd.ip,T.mono u2,Z.mono u2,D,g.IZ⟩
 have PW0:PW Hc a (R0 G.size):=by
  rw [ha];exact ⟨Bd.ip,Bd.id,Bd.at_ (i:=1) rfl,Bd.at_ (i:=3) rfl,Bd.at_ (i:=4) rfl,Bd.at_ (i:=5) rfl⟩
 have ap:a.p=p:=by rw [ha];rfl
 have keep:∀y o,H y=some o->¬dyn a y/\Hc y=some o:=λy o e=>⟨dn (s1 y o e),u2 y o (s1 y o e)⟩;have hxk:=keep x _ hL;have hx:∀R,(Hc.put a R) x=some (.list (av L)):=λR=>(bq hxk.1).trans hxk.2;rw [wb PW0,<- ap];have m0:eL False G 0 0 [] (bk L 0) (-1) (R0 G.size):=⟨AF,λz=>z.elim,rfl,rfl,rfl,by rw [A9,hl];rfl,rfl⟩;generalize R0 G.size=Ra at m0 ⊢;clear PW0 ha ap;refine (?_:aO _ _ [_,_,_,_,_,_,_,_,some (.ref a.p)] _ _);refine ru (λρ' H'=>∃R v4,H'=Hc.put a R/\eL False G 0 0 [] L (-1) R/\ρ'=[some (.ref (U 1)),some (mQ x az ab ep),some (nv G.aa),some (nv G.size),v4,some (.ref zp),some (nv (15*G.size)),some (.ref z),some (.ref a.p)]) (λK1 k1 _ _=>?_) λρ' H' hI=>?_
 ·refine (?_:b8 .range _ _ _);refine fM (by exact P8 ‹_› (by decide)) ?_;refine (?_:fj _ _ _ _ _ _);refine forR (n:=G.size) (λi ρ' H'=>∃R v4,H'=Hc.put a R/\eL False G 0 0 [] (bk L i) (-1) R/\ρ'=[some (.ref (U 1)),some (mQ x az ab ep),some (nv G.aa),some (nv G.size),v4,some (.ref zp),some (nv (15*G.size)),some (.ref z),some (.ref a.p)]) (λi ρ' H' K hi hI hn _ _=>?_) (λρ' H' hI=>k1 _ _ ?_) ⟨Ra,_,rfl,m0,rfl⟩
  ·refine fF hI ?_;rintro R v4 rfl m rfl;refine (?_:aO _ _ [_,_,_,_,some (nv i),_,_,_,_] _ _);refine (?_:aN _ _ _ _);refine dU (i:=0) rfl ?_;refine (?_:aN _ _ _ _);refine aU (hx R) (by rw [hl];exact hi) ?_;refine (?_:bM _ _ _ _ _);refine eD ?_;refine (?_:cF _ _ _);refine ag (λe=>?_) λe=>?_
   ·have e:L.getD i 0≠0:=e;refine (?_:aN _ _ _ _);refine dU (i:=0) rfl ?_;refine (?_:aN _ _ _ _);refine aU (hx R) (by rw [hl];exact hi) ?_;refine (?_:Call _ _ _ _ _);refine tv S g m (mn i e) hi (by rw [my,Qb (Q8 i)]) λR' m'=>?_;refine aQ ?_;exact hn _ _ ⟨R',_,rfl,by rw [<- EC (hl.symm ▸ hi)];exact m',rfl⟩
   ·exact hn _ _ ⟨R,_,rfl,by rw [<- Ba (QD.mp e)];exact m,rfl⟩
  ·refine fF hI λR v4 e1 m e2=>?_;exact ⟨R,v4,e1,by rw [<- ED (L:=L),hl];exact m,e2⟩
 refine fF hI ?_;rintro R v4 rfl m rfl;refine (?_:aN _ _ _ _);refine dU (i:=1) rfl ?_;refine (?_:bj _ _ _ _ _);refine lH S ?_;refine (?_:aN _ _ _ _);refine dU (i:=2) rfl ?_;refine (?_:bj _ _ _ _ _);refine iL S ?_;refine (?_:aN _ _ _ _);refine dU (i:=3) rfl ?_;refine (?_:bj _ _ _ _ _);refine lI S ?_;refine (?_:Call _ _ _ _ _);have g1:ba G { R with af:=az,ab:=ab,ep:=ep }:=m.gd.congr rfl rfl rfl;refine LG (R:={ R with af:=az,ab:=ab,ep:=ep }) S g (g1.ok hw hr hep) ?_;refine aQ ?_;refine (?_:dq _ _ _ _)
 exact aj (h a Hc _ S keep (g1.congr rfl rfl rfl) rfl m.ae rfl rfl rfl m.cA)) ((d,az,ab,H),(H0,G,q,L),(x,ep,U))
end
structure LS where
 L:List Nat
 az:Nat
 r:Nat
 e:Int
noncomputable def E7:LS:=⟨[],0,0,0⟩
noncomputable def jC (f:Nat) (S:LS) (o t sp pf:Nat):LS:=⟨kH S.L f S.az o t sp pf,1-S.az,l6 (kH S.L f S.az o t sp pf) f S.L.length S.r 4,Am S.L (kH S.L f S.az o t sp pf) f S.az o t⟩
abbrev At (G:aE) (S:LS) (hs:List V) (R:Rw):Prop:=eL True G S.az S.r hs S.L S.e R
noncomputable abbrev LS.v (S:LS) (x:Addr):V:=mQ x S.az S.r S.e
section
variable {d k k2 o t sp f wh rf rt:Nat} {H Hb:Hp} {G:aE} {R R':Rw} {a:Ad} {q:V->Hp->Prop} {S:LS} {hs:List V} {x st mv:Addr} {ss ms:List V}
theorem AR (z:Go G R k k2 o t sp f wh rf rt) (g:ba G R') (hb:R'.ae=bR R o t sp f wh rf rt):gp G R' R o t=gp G R R o t:=by
 have P:=z.P;have c2:=P.c2;unfold gp;split
 ·rename_i b1;unfold C6;split
  ·rename_i h2
   have s2:sp≠2:=λe=>by
    subst e;have:=(qa P.B c2 z.mo.ho (z.mo.pt P)).1;exact h2.elim (λq=>this.1 q) λq=>this.2 q
   have wt:=z.E2.resolve_right λq=>s2 q.1;have s3:sp=0:=h2.elim (λe=>((z.mo.d2 s2 b1).1 e).2.1) λe=>((z.mo.d2 s2 b1).2 e).2.1;have t0:bd R t=0:=h2.elim (λe=>((z.mo.d2 s2 b1).1 e).2.2.1) λe=>((z.mo.d2 s2 b1).2 e).2.2.1
   have e:(K R' 1 &&& Sd R' (1-R.af))=(K R 1 &&& Sd R (1-R.af)):=cM λy=>by
    rw [QR,aC,aC,g.kb,g.sb,P.g.kb,P.g.sb]
    have hy:bd R' y=(bR R o t sp f wh rf rt).getD y 0:=by rw [<- hb]
    rw [hy];constructor
    ·rintro ⟨⟨h1,h3⟩,_,h4⟩;have:=(oJ P z.m h1 h4).1;rw [this];exact ⟨⟨h1,h3⟩,h1,h4⟩
    ·rintro ⟨⟨h1,h3⟩,_,h4⟩
     have:(bR R o t sp f wh rf rt).getD y 0=bd R y:=lQ z (λq=>by have:=z.mo.bs;rw [<- q] at this;exact E3 (h4.symm.trans this)) (λq=>h1 (q ▸ t0)) (λq=>h1 ((q.trans wt) ▸ t0)) λe=>by lia
     rw [this];exact ⟨⟨h1,h3⟩,h1,h4⟩
   rw [e]
  ·rfl
 ·rfl
theorem Pos.congr (P:Pos G R k k2) (g:ba G R') (h1:R'.ae=R.ae) (h2:R'.af=R.af) (h3:R'.ab=R.ab) (h4:R'.ep=R.ep):Pos G R' k k2:=by
 refine ⟨P.B,g,h2 ▸ P.c2,h3 ▸ P.je,?_,?_,?_,?_,?_⟩
 ·rw [h1,h2];exact P.kg
 ·rw [h1,h2];exact P.ke
 ·rw [kT g,h1,h2,<- kT P.g];exact P.sf
 ·unfold bd;rw [h1,h3];exact P.rt
 ·unfold ij bd;rw [h1,h2,h4];exact P.ep
theorem At.pos (A:At G S hs R) {hs':List V} (A':At G S hs' R') (P:Pos G R k k2):Pos G R' k k2:=
 P.congr A'.gd (A'.ae.trans A.ae.symm) (A'.af.trans A.af.symm) (A'.ab.trans A.ab.symm) (A'.ep.trans A.ep.symm)
theorem At.jC (A:At G S hs R) (z:Go G R k k2 o t sp f wh rf rt) (D:Done G R o t sp f wh rf rt R'):At G (jC G.aa S o t sp f) (hs++ [iR R o t sp f wh]) R':=by
 have m:=D.m
 have eB:kH S.L G.aa S.az o t sp f=bR R o t sp f wh rf rt:=by rw [<- A.ae,<- A.af];exact wL z
 refine ⟨m.gd,m.key,?_,?_,?_,?_,?_⟩
 ·exact m.af.trans (by rw [A.af];rfl)
 ·refine m.ab.trans ?_;show _=l6 (kH S.L G.aa S.az o t sp f) G.aa S.L.length S.r 4;rw [eB,<- A.ae,<- A.ab,z.P.g.bl];exact (wK z).symm
 ·rw [m.cA,A.cA]
 ·exact m.ae.trans eB.symm
 ·refine m.ep.trans ?_;show _=Am S.L (kH S.L G.aa S.az o t sp f) G.aa S.az o t;rw [eB,<- A.ae,<- A.af];exact (Dk z m.gd m.ae).symm
theorem Mm (S0:gb H a G) (A:At G S hs R) (z:Go G R k k2 o t sp f wh rf rt) (hh:hs.length<100)
 (h:∀R',At G (jC G.aa S o t sp f) (hs++ [iR R o t sp f wh]) R'->Pos G R' k2 (tL k o t)->R'.key=ka G R o t sp f wh rf rt->q .none (H.put a R')):Call (d+4) 40 [.ref a.p,nv (pk o t sp f)] (H.put a R) q:=by
 refine Ly S0 z.P.B.ok z.P.ok z.P.g (A.key trivial) z.m (by rw [A.cA];exact hh) (k5 z.P.je) (λe q=>?_) λR' D=>?_
 ·have:=(z.m.c1 e).1;rcases z.E2 with w | w
  ·rw [<- q,w,(z.m.c1 e).2.1] at this;exact absurd (Eq.symm ‹_›) kA
  ·lia
 ·exact h R' (A.jC z D) (Pos.next z D) (EW z.m z.P.g z.P.c2 (A.key trivial) D.m (AR z D.m.gd D.m.ae))
theorem th (B:BG G) (A:At G S hs R) (z:Go G R k k2 o t sp f wh rf rt) (hL:H x=some (.list (av S.L))) (h:∀b,H b=none->q ((jC G.aa S o t sp f).v b) (H.out b (jC G.aa S o t sp f).L)):Call (d+2) 103 [S.v x,nv (pk o t sp f),nv G.aa] H q:=by
 have hl:S.L.length=G.size:=by rw [<- A.ae];exact z.P.g.bl
 have g:=B.ok;exact HT (rk:=G.bE) hL (P7 RA g.f0) g.qz hl (hl ▸ g.i3) (P8 (by decide) g.r0) (hl ▸ z.mo.ho) (hl ▸ z.mo.ht) z.mo.s4 z.mo.f4 (A.af ▸ z.P.c2) h
theorem LX (S0:gb H a G) (B:BG G) (A:At G S hs R) (P:Pos G R k k2) (hL:(H.put a R) x=some (.list (av S.L))) (h:q (.bool true) (H.put a R)):Call (d+3) 105 [.ref a.p,S.v x,nv G.aa] (H.put a R) q:=by
 have:=HS (d:=d) (q:=q) (L:=S.L) (x:=x) (S0.w R) B.ok ⟨P.g,P.ok,A.key trivial,A.ae⟩ hL h;rw [A.af,A.ab,A.ep] at this;exact this
structure HF (Hb:Hp) (a:Ad) (G:aE) (st mv:Addr):Prop where
 S:gb Hb a G
 s0:Hb st=none
 m0:Hb mv=none
 ne:st≠mv
 ds:¬dyn a st
 dm:¬dyn a mv
noncomputable def FH (Hb:Hp) (a:Ad) (R:Rw) (st:Addr) (ss:List V) (mv:Addr) (ms:List V):Hp:=((Hb.upd st (.list ss)).upd mv (.list ms)).put a R
theorem jf {b:Addr} {o:Ob} (h:¬dyn a b):(H.put a R).upd b o=(H.upd b o).put a R:=by
 funext y;unfold Hp.put Hp.upd;by_cases e:y=b
 ·subst e;unfold dyn at h;rw [Qk rfl,Qb λz=>h (.inl z),Qb λz=>h (.inr (.inl z)),Qb λz=>h (.inr (.inr (.inl z))),Qb λz=>h (.inr (.inr (.inr (.inl z)))),Qb λz=>h (.inr (.inr (.inr (.inr z)))),Qk rfl]
 ·rw [Qb e,Qb e]
theorem gb.mono {H':Hp} (S:gb H a G) (s:H.Sub H'):gb H' a G:=⟨s _ _ S.p,S.T.mono s,S.Z.mono s,S.D,S.r8⟩
theorem HF.sub (F:HF Hb a G st mv):Hb.Sub ((Hb.upd st (.list ss)).upd mv (.list ms)):=Hp.Sub.trans (Hp.ax F.s0) (Hp.ax ((Hp.ay (Ne.symm F.ne)).trans F.m0))
theorem HF.u7 (F:HF Hb a G st mv) (ss ms:List V):gb ((Hb.upd st (.list ss)).upd mv (.list ms)) a G:=F.S.mono F.sub
theorem HF.get (F:HF Hb a G st mv) {y:Addr} {o:Ob} (h:Hb y=some o) (hd:¬dyn a y):(FH Hb a R st ss mv ms) y=some o:=(bq hd).trans (F.sub _ _ h)
theorem HF.gs (F:HF Hb a G st mv):(FH Hb a R st ss mv ms) st=some (.list ss):=(bq F.ds).trans ((Hp.ay F.ne).trans (Hp.ai ..))
theorem HF.gm (F:HF Hb a G st mv):(FH Hb a R st ss mv ms) mv=some (.list ms):=(bq F.dm).trans (Hp.ai ..)
theorem HF.us (F:HF Hb a G st mv) {ss':List V}:(FH Hb a R st ss mv ms).upd st (.list ss')=FH Hb a R st ss' mv ms:=by
 unfold FH;rw [jf F.ds,Hp.bu _ _ _ (Ne.symm F.ne),Hp.eH]
theorem HF.um (F:HF Hb a G st mv) {ms':List V}:(FH Hb a R st ss mv ms).upd mv (.list ms')=FH Hb a R st ss mv ms':=by
 unfold FH;rw [jf F.dm,Hp.eH]
theorem HF.new (F:HF Hb a G st mv) {b:Addr} (h:(FH Hb a R st ss mv ms) b=none) (o:Ob):(FH Hb a R st ss mv ms).upd b o=FH (Hb.upd b o) a R st ss mv ms/\HF (Hb.upd b o) a G st mv/\Hb.Sub (Hb.upd b o)/\¬dyn a b:=by
 have w:=(F.u7 ss ms).w R
 have hd:¬dyn a b:=λz=>by
  unfold FH at h;rcases z with rfl | rfl | rfl | rfl | rfl
  ·exact nomatch w.P.bd.symm.trans h
  ·exact nomatch w.P.kd.symm.trans h
  ·exact nomatch w.P.sd.symm.trans h
  ·exact nomatch w.P.hs.symm.trans h
  ·exact nomatch w.P.dx.symm.trans h
 have h1:=(bq hd).symm.trans h;refine aD (Hp.none_of h1) λhm h2=>?_;refine aD (Hp.none_of h2) λhs h3=>?_;refine ⟨?_,⟨F.S.mono (Hp.ax h3),(Hp.ay (Ne.symm hs)).trans F.s0,(Hp.ay (Ne.symm hm)).trans F.m0,F.ne,F.ds,F.dm⟩,Hp.ax h3,hd⟩;unfold FH;rw [jf hd,Hp.bu _ _ _ (Ne.symm hm),Hp.bu Hb _ _ (Ne.symm hs)]
end
noncomputable abbrev Rec:=LS×Nat×V
noncomputable def kI (c:List Rec):List V:=(c.map λe=>e.2.2).reverse
noncomputable def fi (c:List Rec):List Nat:=(c.map λe=>e.2.1).reverse
noncomputable def jJ (c:List Rec) (S:LS):List LS:=(c.map λe=>e.1).reverse++ [S]
inductive MM (G:aE) (S0:LS) (m:Nat) (h:V) (hs:List V) (S:LS):Prop
 | mk (R:Rw) (k k2 o t sp f wh rf rt:Nat) (A:At G S0 hs R) (z:Go G R k k2 o t sp f wh rf rt) (hm:m=pk o t sp f) (hh:h=iR R o t sp f wh) (hS:S=jC G.aa S0 o t sp f):MM G S0 m h hs S
def IS (G:aE):List Rec->LS->Prop
 | [],_=>True
 | (S0,m,h)::c,S=>IS G c S0/\MM G S0 m h (kI c) S
def yS (Hb:Hp) (a:Ad) (Ls:List LS) (ss:List V):Prop:=ss.length=Ls.length/\∀(i:Nat) (S:LS),Ls[i]?=some S->∃x,ss[i]?=some (S.v x)/\Hb x=some (.list (av S.L))/\¬dyn a x
section
variable {d k k2 o t sp f wh rf rt:Nat} {H Hb:Hp} {G:aE} {R R':Rw} {a:Ad} {q:V->Hp->Prop} {S S':LS} {hs:List V} {x y st mv:Addr} {ss:List V} {ms:List V} {Q:Fl->Lc->Hp->Prop}
theorem yS.mono {H':Hp} {Ls:List LS} (h:yS Hb a Ls ss) (s:Hb.Sub H'):yS H' a Ls ss:=⟨h.1,λi S e=>by refine gP (h.2 i S e) λx h1 h2 h3=>?_;exact ⟨x,h1,s _ _ h2,h3⟩⟩
theorem yS.snoc {Ls:List LS} (h:yS Hb a Ls ss) (h2:Hb x=some (.list (av S.L))) (h3:¬dyn a x):yS Hb a (Ls++ [S]) (ss++ [S.v x]):=by
 refine ⟨by rw [Qc,Qc,h.1];rfl,λi T e=>?_⟩;rcases Qw i Ls.length with z | z
 ·rw [Sj z] at e;refine ao (h.2 i T e) λx' h1 h4=>?_;exact ⟨x',by rw [Sj (h.1.symm ▸ z)];exact h1,h4⟩
 ·rw [Ri z] at e
  have hi:i-Ls.length=0:=by
   rcases Tb (i-Ls.length) with z' | z'
   ·exact z'
   ·rw [Rf (show [S].length<=_ from z')] at e;cases e
  rw [hi] at e;cases e;exact ⟨x,by rw [Ri (h.1.symm ▸ z),h.1,hi];rfl,h2,h3⟩
theorem Cf (h1:H x=some (.list (av S.L))) (h2:H y=some (.list (av S'.L))) (h:q (.bool (decide (S.L=S'.L/\S.az=S'.az/\S.r=S'.r/\S.e=S'.e))) H):bM .eq (S.v x) (S'.v y) H q:=by
 refine .mk ⟨.tup (.cons (.list h1 (cY _)) (.cons (.int _) (.cons (.int _) (.cons (.int _) .nil)))),.tup (.cons (.list h2 (cY _)) (.cons (.int _) (.cons (.int _) (.cons (.int _) .nil)))),?_⟩;rw [PyData.eqv,PyData.eqvAll,rR,PyData.eqvAll,eq_int,PyData.eqvAll,eq_int,PyData.eqvAll,eq_int,PyData.eqvAll]
 have e3:(decide (S.L=S'.L) && (decide ((S.az:Int)=S'.az) && (decide ((S.r:Int)=S'.r) && (decide (S.e=S'.e) && true))))=decide (S.L=S'.L/\S.az=S'.az/\S.r=S'.r/\S.e=S'.e):=by
  rw [QR,Qa,Qa,Qa,Bool.and_true,Qh,Qh,Qh,Qh,Qh,Int.ofNat_inj,Int.ofNat_inj]
 rw [e3];exact h
theorem Ag {l:List Nat} {m:Nat} (h1:H x=some (.list (av l))) (h:q (.bool (decide (¬m∈l))) H):bM .notin (nv m) (.ref x) H q:=by
 refine .mk (.mk (.list h1 (cY _)) ?_)
 rw [show (!(l.map Int.ofNat).any λz=>z == (m:Int))=decide (¬m∈l) by
  rw [QR,QI,Qh,<- Bool.not_eq_true,List.any_eq_true];refine not_congr ⟨λ⟨z,h1,h2⟩=>?_,λh=>⟨(m:Int),Se.mpr ⟨m,h,rfl⟩,Ru.mpr rfl⟩⟩;refine ao (Se.mp h1) ?_;rintro w hw rfl;have:w=m:=Tv (Ru.mp h2)
  exact this ▸ hw]
 exact h
theorem A8 {b c:Bool} (h:q (.bool (b == c)) H):bM .eq (.bool b) (.bool c) H q:=.mk ⟨.flat (.bool b),.flat (.bool c),by rw [PyData.eqv];exact h⟩
theorem B6 {vs ws:List V} (h1:H x=some (.list vs)) (h2:H y=some (.list ws)) (h:da (vs++ws) H q):ar .add (.ref x) (.ref y) H q:=eX.cat h1 h2 h
theorem JB {vs:List V} {j:Nat} (h1:H x=some (.list vs)) (hj:j<=1000) (h:da (vs.drop j) H q):ec (.ref x) (nv j) .none H q:=iX.ref h1 (.ME ⟨Qy j,by show (j:Int)<=1000000;exact Sv (QT.mpr ‹_›) (by decide)⟩ h)
theorem JA {vs:List V} {j:Nat} (h1:H x=some (.list vs)) (hj:j<=1000) (h:da (vs.take j) H q):ec (.ref x) .none (nv j) H q:=iX.ref h1 (.to ⟨Qy j,by show (j:Int)<=1000000;exact Sv (QT.mpr ‹_›) (by decide)⟩ h)
theorem HF.da (F:HF Hb a G st mv) {vs:List V} (h0:vs.length<=lim) (h:∀b,HF (Hb.upd b (.list vs)) a G st mv->Hb.Sub (Hb.upd b (.list vs))->¬dyn a b->q (.ref b) (FH (Hb.upd b (.list vs)) a R st ss mv ms)):da vs (FH Hb a R st ss mv ms) q:=new_ h0 λb hb=>by
 refine rX (F.new hb (.list vs)) λe F' s hd=>?_;rw [e];exact h b F' s hd
theorem HF.tA (F:HF Hb a G st mv) (P:Pos G R k k2) (h:∀ns b,ns.length<=90000->(∀m∈ns,iY G R k m)->HF (Hb.upd b (.list (av ns))) a G st mv->Hb.Sub (Hb.upd b (.list (av ns)))->¬dyn a b->q (.ref b) (FH (Hb.upd b (.list (av ns))) a R st ss mv ms)):Call (d+12) 95 [.ref a.p] (FH Hb a R st ss mv ms) q:=
 KH ((F.u7 ss ms).w R) P.B.ok P.ok P.cz λns hl hP b hb=>by
  refine rX (F.new hb (.list (av ns))) λe F' s hd=>?_;rw [show (FH Hb a R st ss mv ms).out b ns=_ from e];exact h ns b hl hP F' s hd
def Vd (G:aE) (S:LS):Prop:=∃R hs k k2,At G S hs R/\Pos G R k k2
def pM:Prop:=∀(v:Vd G S) (v':Vd G S'),decide (lsum S.L G.aa S.az S.r S.e=lsum S'.L G.aa S'.az S'.r S'.e)=decide (S.L=S'.L/\S.az=S'.az/\S.r=S'.r/\S.e=S'.e)
theorem Vd.key:@pM G S S':=au (S:=λx:aE×LS×LS=>@pM x.1 x.2.1 x.2.2) (x:=(bO,E7,E7)) (by
 refine (?_:∀G S S',@pM G S S') _ _ _;intro G S S' v v';refine xK v λR hs k k2 A P=>?_;refine xK v' λR' hs' k' k2' A' P'=>?_
 have b15:∀{R:Rw} {S:LS} {hs},At G S hs R->∀i,S.L.getD i 0<15:=λ{R S hs} A i=>by
  rw [<- A.ae];by_cases z:bd R i=0
  ·exact Qi (Rb z) (by decide)
  ·exact (A.gd.mn i z).1
 have hl:S'.L.length=S.L.length:=by rw [<- A.ae,<- A'.ae,P.g.bl,P'.g.bl]
 refine dz ⟨λh=>?_,λ⟨h1,h2,h3,h4⟩=>by rw [h1,h2,h3,h4]⟩;have:=wI hl (b15 A) (b15 A') (P7 RA P.B.ok.f0) (A.ab ▸ P.je) (A'.ab ▸ P'.je) (A.af ▸ P.c2) (A'.af ▸ P'.c2) h;refine rW this λh1 h2 h3 h4 h5=>?_;refine ⟨h1,h2,h3,?_⟩;have e1:=P.ep;have e2:=P'.ep;rw [A.ep,A.af] at e1;rw [A'.ep,A'.af] at e2;rcases e1 with e1 | ⟨n,e1,_,_,_,_,r1⟩
 ·rcases e2 with e2 | ⟨n',e2,_⟩
  ·rw [e1,e2]
  ·lia
 ·rcases e2 with e2 | ⟨n',e2,_,_,_,_,r2⟩
  ·lia
  ·have:=h5 (by lia);rw [e1,e2] at this ⊢;have h6:n%G.aa=n'%G.aa:=this
   have h7:n / G.aa=n' / G.aa:=by rw [r1,r2,h2]
   have:n=n':=by rw [<- RJ n G.aa,<- RJ n' G.aa,h6,h7]
   rw [this]) (G,S,S')
theorem At.lsum (A:At G S hs R) (P:Pos G R k k2):R.key=lsum S.L G.aa S.az S.r S.e:=by
 rw [A.key trivial,qO P.g (P7 RA P.B.ok.f0) P.je,A.ae,A.af,A.ab,A.ep]
end
section
variable {k k2:Nat} {H Hb:Hp} {G:aE} {R R':Rw} {a:Ad} {S Sn:LS} {x st mv:Addr} {ss:List V} {mz:List Nat} {Q:Fl->Lc->Hp->Prop} {v0 v2 v3 v4 v9 v10 v11 v12 v14:Option V} {Ls:List LS}
structure Lp (Hb:Hp) (G:aE) (a:Ad) (st mv:Addr) (n:Nat) (Hb':Hp) (R:Rw) (S:LS) (x:Addr):Prop where
 F:HF Hb' a G st mv
 s:Hb.Sub Hb'
 A:∃hs,At G S hs R/\hs.length<=n
 P:∃k k2,Pos G R k k2
 hx:Hb' x=some (.list (av S.L))
 d:¬dyn a x
inductive LD (Hb:Hp) (G:aE) (a:Ad) (st mv:Addr) (ss:List V) (mz:List Nat) (v0 v2 v3 v4 v9 v12 v13 v14:Option V) (n:Nat):Lc->Hp->Prop
 | mk (Hb':Hp) (R':Rw) (S':LS) (x':Addr) (u10 u11:Option V) (h:Lp Hb G a st mv n Hb' R' S' x'):LD Hb G a st mv ss mz v0 v2 v3 v4 v9 v12 v13 v14 n [v0,some (nv G.aa),v2,v3,v4,some (S'.v x'),some (.ref a.p),some (.ref st),some (.ref mv),v9,u10,u11,v12,v13,v14] (FH Hb' a R' st ss mv (av mz))
inductive MO (Hb':Hp) (G:aE) (a:Ad) (st mv:Addr) (ss:List V) (mz:List Nat) (R:Rw) (k m:Nat) (O:Lc):Lc->Hp->Prop
 | mk (Hb1:Hp) (ns:List Nat) (F:HF Hb1 a G st mv) (s:Hb'.Sub Hb1) (hP:∀m∈ns,iY G R k m) (hm:m∈ns):MO Hb' G a st mv ss mz R k m O O (FH Hb1 a R st ss mv (av mz))
def rK:Prop:=∀(B:BG G) (F:HF Hb a G st mv) (A0:At G S [] R) (P0:Pos G R k k2) (hx:Hb x=some (.list (av S.L))) (hxd:¬dyn a x) (h3:3<=mz.length) (h4:mz.length<=4) (T:yS Hb a Ls ss) (hn:Ls[mz.length]?=some Sn) (hV:Vd G Sn) (hQ:∀O H',Q (.ret (.bool true)) O H'),aO (Call 20) (va 12 j9.body) [v0,some (nv G.aa),v2,v3,v4,some (S.v x),some (.ref a.p),some (.ref st),some (.ref mv),v9,v10,v11,v12,some (nv (lsum Sn.L G.aa Sn.az Sn.r Sn.e)),v14] (FH Hb a R st ss mv (av mz)) Q
theorem Gm:@rK k k2 Hb G R a S Sn x st mv ss mz Q v0 v2 v3 v4 v9 v10 v11 v12 v14 Ls:=au (S:=λx:(Nat×Nat×Hp×aE)×(Rw×Ad×LS×LS)×(Addr×Addr×Addr×List V)×(List Nat×(Fl->Lc->Hp->Prop)×Option V×Option V)×(Option V×Option V×Option V×Option V)×(Option V×Option V×Option V×List LS)=>@rK x.1.1 x.1.2.1 x.1.2.2.1 x.1.2.2.2 x.2.1.1 x.2.1.2.1 x.2.1.2.2.1 x.2.1.2.2.2 x.2.2.1.1 x.2.2.1.2.1 x.2.2.1.2.2.1 x.2.2.1.2.2.2 x.2.2.2.1.1 x.2.2.2.1.2.1 x.2.2.2.1.2.2.1 x.2.2.2.1.2.2.2 x.2.2.2.2.1.1 x.2.2.2.2.1.2.1 x.2.2.2.2.1.2.2.1 x.2.2.2.2.1.2.2.2 x.2.2.2.2.2.1 x.2.2.2.2.2.2.1 x.2.2.2.2.2.2.2.1 x.2.2.2.2.2.2.2.2) (x:=((0,0,λ_=>none,bO),(fG,j0,E7,E7),(0,0,0,[]),([],λ_ _ _=>True,none,none),(none,none,none,none),(none,none,none,[]))) (by
 refine (?_:∀k k2 Hb G R a S Sn x st mv ss mz Q v0 v2 v3 v4 v9 v10 v11 v12 v14 Ls,@rK k k2 Hb G R a S Sn x st mv ss mz Q v0 v2 v3 v4 v9 v10 v11 v12 v14 Ls) _ _ _ _ _ _ _ _ _ _ _ _ _ _ _ _ _ _ _ _ _ _ _ _;intro k k2 Hb G R a S Sn x st mv ss mz Q v0 v2 v3 v4 v9 v10 v11 v12 v14 Ls B F A0 P0 hx hxd h3 h4 T hn hV hQ;refine ru (LD Hb G a st mv ss mz v0 v2 v3 v4 v9 v12 (some (nv (lsum Sn.L G.aa Sn.az Sn.r Sn.e))) v14 50) (λK1 k1 kr _=>?_) λρ' H' hI=>?_
 ·refine (?_:aN _ (nv 2) _ _);refine aU F.gm ‹_› ?_;refine (?_:aN _ (nv 1) _ _);refine aU F.gm (by exact Qp ‹_›) ?_;refine (?_:aN _ (nv 0) _ _);refine aU F.gm (by exact RU ‹_›) ?_;refine F.da (vs:=av [mz.getD 2 0,mz.getD 1 0,mz.getD 0 0]) (show 3<=1000000 by decide) λb1 F1 s1 d1=>?_;refine (?_:ec _ _ _ _ _);refine JB (j:=3) F1.gm (by decide) ?_;refine F1.da (by rw [Ts,Qd];show _<=1000000;exact P8 (Rk _ _) (P8 ‹_› (by decide))) λb2 F2 s2 d2=>?_;refine (?_:ar _ _ _ _ _);refine B6 (vs:=av [mz.getD 2 0,mz.getD 1 0,mz.getD 0 0]) (ws:=(av mz).drop 3) (F2.get (s2 _ _ (Hp.ai ..)) d1) (F2.get (Hp.ai ..) d2) ?_;rw [show av [mz.getD 2 0,mz.getD 1 0,mz.getD 0 0]++ (av mz).drop 3=av ([mz.getD 2 0,mz.getD 1 0,mz.getD 0 0]++mz.drop 3) by rw [av,av,av,Rd,List.map_drop]]
  have hl4:([mz.getD 2 0,mz.getD 1 0,mz.getD 0 0]++mz.drop 3).length<=4:=by
   rw [Qc,Ts];show 3+_<=4;rw [Q0 h3];exact h4
  generalize [mz.getD 2 0,mz.getD 1 0,mz.getD 0 0]++mz.drop 3=rs at hl4 ⊢;refine F2.da (by rw [Qd];show _<=1000000;exact P8 ‹_› (by decide)) λb3 F3 s3 d3=>?_;have sub:=Hp.Sub.trans s1 (Hp.Sub.trans s2 s3);have e3:∀{Hb'},((((Hb.upd b1 (.list (av [mz.getD 2 0,mz.getD 1 0,mz.getD 0 0]))).upd b2 (.list ((av mz).drop 3))).upd b3 (.list (av rs))).Sub Hb')->Hb' b3=some (.list (av rs)):=λs=>s _ _ (Hp.ai ..);refine (?_:fj _ _ _ _ (FH (((Hb.upd b1 (.list (av [mz.getD 2 0,mz.getD 1 0,mz.getD 0 0]))).upd b2 (.list ((av mz).drop 3))).upd b3 (.list (av rs))) a R st ss mv (av mz)) _);have x3:=sub _ _ hx;have T3:=T.mono sub;generalize ((Hb.upd b1 (.list (av [mz.getD 2 0,mz.getD 1 0,mz.getD 0 0]))).upd b2 (.list ((av mz).drop 3))).upd b3 (.list (av rs))=Hc at F3 sub e3 x3 T3 ⊢;refine forL (F3.get (e3 (Hp.Sub.refl _)) d3) (LD Hc G a st mv ss mz v0 v2 v3 v4 v9 v12 (some (nv (lsum Sn.L G.aa Sn.az Sn.r Sn.e))) v14) (λi v ρ' H' K hv hI hn hr _=>?_) (λρ' H' hI=>?_) ⟨Hc,R,S,x,_,_,⟨F3,Hp.Sub.refl _,⟨[],A0,Qn _⟩,⟨k,k2,P0⟩,x3,hxd⟩⟩
  ·obtain ⟨Hb',R',S',x',u10,u11,⟨F',s',⟨hs,A,hhs⟩,⟨k,k2,P⟩,hx',hd'⟩⟩:=hI;refine ⟨F'.get (e3 s') d3,?_⟩;refine aD (jy rfl hv) ?_;rintro hi rfl;refine (?_:aO _ _ [_,_,_,_,_,_,_,_,_,_,_,some (nv (rs.getD i 0)),_,_,_] _ _);generalize rs.getD i 0=m;refine ru (MO Hb' G a st mv ss mz R' k m [v0,some (nv G.aa),v2,v3,v4,some (S'.v x'),some (.ref a.p),some (.ref st),some (.ref mv),v9,u10,some (nv m),v12,some (nv (lsum Sn.L G.aa Sn.az Sn.r Sn.e)),v14]) (λK2 k2' kr2 _=>?_) λρ1 H1 hJ=>?_
   ·refine (?_:Call _ _ _ _ _);refine F'.tA P λns b hl hP F1 s1 d1=>?_;refine (?_:bM _ _ _ _ _);refine Ag (F1.get (Hp.ai ..) d1) ?_;refine (?_:cF _ _ _);refine ag (λ_=>?_) λe=>?_
    ·exact kr2 _ _ _ (hr _ _ _ (kr _ _ _ (hQ _ _)))
    ·exact k2' _ _ ⟨_,ns,F1,s1,hP,QD.mp e⟩
   obtain ⟨Hb1,ns,F1,s1,hP,hm⟩:=hJ;obtain ⟨o,t,sp,f,wh,rf,rt,rfl,z⟩:=Go.of P (hP _ hm);refine (?_:Call _ _ _ _ _);refine Mm (F1.u7 _ _) A z (by have:i<4:=P7 hi hl4;exact Jc ‹_› ‹_› (by rfl)) λR2 A2 P2 _=>?_;refine aQ ?_;refine (?_:aO _ _ [_,_,_,_,_,_,_,_,_,_,_,_,_,_,_] (FH Hb1 a R2 st ss mv (av mz)) _);refine (?_:Call _ _ _ _ _);refine th B A z (F1.get (s1 _ _ hx') hd') λb hb=>?_;refine rX (F1.new hb (.list (av (jC G.aa S' o t sp f).L))) λeq4 F4 s4 d4=>?_;rw [show (FH Hb1 a R2 st ss mv (av mz)).out b (jC G.aa S' o t sp f).L=_ from eq4];have x4:(Hb1.upd b (.list (av (jC G.aa S' o t sp f).L))) b=some (.list (av (jC G.aa S' o t sp f).L)):=Hp.ai ..;refine (?_:aO _ _ [_,_,_,_,_,some ((jC G.aa S' o t sp f).v b),_,_,_,_,_,_,_,_,_] (FH (Hb1.upd b (.list (av (jC G.aa S' o t sp f).L))) a R2 st ss mv (av mz)) _);generalize Hb1.upd b (.list (av (jC G.aa S' o t sp f).L))=Hb4 at F4 s4 x4 ⊢;generalize jC G.aa S' o t sp f=S4 at A2 x4 ⊢;refine (?_:Call _ _ _ _ _);refine LX (F4.u7 _ _) B A2 P2 (F4.get x4 d4) ?_;refine (?_:jh _ _ _);refine lU ?_;refine (?_:cF _ _ _);refine gE ?_;exact hn _ _ ⟨Hb4,R2,S4,b,_,_,⟨F4,Hp.Sub.trans s' (Hp.Sub.trans s1 s4),⟨_,A2,by rw [Qc];exact SW hhs⟩,⟨_,_,P2⟩,x4,d4⟩⟩
  ·obtain ⟨Hb',R',S',x',u10,u11,⟨F',s',⟨hs,A,hhs⟩,P,hx',hd'⟩⟩:=hI;rw [Qd] at hhs;exact ⟨F'.get (e3 s') d3,k1 _ _ ⟨Hb',R',S',x',_,_,⟨F',Hp.Sub.trans sub s',⟨hs,A,by exact MN ‹_› ‹_› (by rfl)⟩,P,hx',hd'⟩⟩⟩
 obtain ⟨Hb',R',S',x',u10,u11,⟨F',s',⟨hs,A,hhs⟩,⟨k,k2,P⟩,hx',hd'⟩⟩:=hI;refine gP (T.2 _ _ hn) λy hy1 hy2 hy3=>?_;have w:=(F'.u7 ss (av mz)).w R';refine (?_:dP _ _ _ _);refine aI w rfl ?_;refine (?_:bM _ _ _ _ _);refine aR ?_;refine (?_:b8 .len _ _ _);refine l9 F'.gm ?_;rw [Qd];refine (?_:aN _ _ _ _);refine iD F'.gs hy1 ?_;refine (?_:bM _ _ _ _ _);refine Cf (F'.get hx' hd') (F'.get (s' _ _ hy2) hy3) ?_;refine (?_:bM _ _ _ _ _);refine A8 ?_;rw [A.lsum P,Vd.key ⟨R',hs,k,k2,A,P⟩ hV,beq_self_eq_true]
 exact hQ _ _) ((k,k2,Hb,G),(R,a,S,Sn),(x,st,mv,ss),(mz,Q,v0,v2),(v3,v4,v9,v10),(v11,v12,v14,Ls))
end
section
variable {k k2:Nat} {H Hb:Hp} {G:aE} {R R':Rw} {a:Ad} {S Sn:LS} {x st mv:Addr} {ss:List V} {Q:Fl->Lc->Hp->Prop} {q:V->Hp->Prop} {v0 v2 v3 v4 v5 v9 v10 v11 v12 v13 v14:Option V} {c:List Rec}
theorem FG {x y:Int} (h1:-1000000<=x/\x<=1000000) (h2:-1000000<=y/\y<=1000000) (h:q (.f7 x y (-1)) H):b8 .range [.int x,.int y,.int (-1)] H q:=mF.CC ⟨h1,h2⟩ rfl h
theorem jP:(fi c).length=c.length:=by unfold fi;rw [RY,Qd]
theorem DZ:(kI c).length=c.length:=by unfold kI;rw [RY,Qd]
theorem vF:(jJ c S)[c.length]?=some S:=by
 unfold jJ;rw [Ri (by rw [RY,Qd];exact Qn _),RY,Qd,TV];rfl
theorem Cp {pre c2:List Rec} {e:Rec}:(jJ (pre++e::c2) S)[c2.length]?=some e.1:=by
 unfold jJ;rw [Rd,Q9,List.reverse_append,TK,Qm,Qm,Ri (by rw [RY,Qd];exact Qn _),RY,Qd,TV];rfl
theorem tN {S2:LS} {m:Nat} {h:V} {c2:List Rec}:kI ((S2,m,h)::c2)=kI c2++ [h]:=by unfold kI;rw [Q9,TK]
inductive MQ (G:aE) (H:Rw->Hp) (S0:Option LS) (O:Option V->Lc):Lc->Hp->Prop
 | mk (R':Rw) (S':LS) (u14:Option V) (k k2:Nat) (A:At G S' [] R') (P:Pos G R' k k2) (hs:S0=some S'):MQ G H S0 O (O u14) (H R')
inductive MP (G:aE) (H:Rw->Hp) (c:List Rec) (S:LS) (O:Option V->Lc) (i:Nat):Lc->Hp->Prop
 | mk (R':Rw) (S':LS) (pre c':List Rec) (u14:Option V) (k k2:Nat) (hc:c=pre++c') (hp:pre.length=i) (C:IS G c' S') (A:At G S' (kI c') R') (P:Pos G R' k k2) (hs:(jJ c S)[c'.length]?=some S'):MP G H c S O i (O u14) (H R')
def rL:Prop:=∀(B:BG G) (F:HF Hb a G st mv) (A:At G S (kI c) R) (P:Pos G R k k2) (C:IS G c S) (h4:c.length<=4) (T:yS Hb a (jJ c S) ss) (hQ:∀O H',Q (.ret (.bool true)) O H'),aO (Call 20) (va 8 j9.body) [v0,some (nv G.aa),v2,v3,v4,v5,some (.ref a.p),some (.ref st),some (.ref mv),v9,v10,v11,v12,v13,v14] (FH Hb a R st ss mv (av (fi c))) Q
theorem Gn:@rL k k2 Hb G R a S st mv ss Q v0 v2 v3 v4 v5 v9 v10 v11 v12 v13 v14 c:=au (S:=λx:(Nat×Nat×Hp×aE)×(Rw×Ad×LS×Addr)×(Addr×List V×(Fl->Lc->Hp->Prop)×Option V)×(Option V×Option V×Option V×Option V)×(Option V×Option V×Option V×Option V)×(Option V×Option V×List Rec)=>@rL x.1.1 x.1.2.1 x.1.2.2.1 x.1.2.2.2 x.2.1.1 x.2.1.2.1 x.2.1.2.2.1 x.2.1.2.2.2 x.2.2.1.1 x.2.2.1.2.1 x.2.2.1.2.2.1 x.2.2.1.2.2.2 x.2.2.2.1.1 x.2.2.2.1.2.1 x.2.2.2.1.2.2.1 x.2.2.2.1.2.2.2 x.2.2.2.2.1.1 x.2.2.2.2.1.2.1 x.2.2.2.2.1.2.2.1 x.2.2.2.2.1.2.2.2 x.2.2.2.2.2.1 x.2.2.2.2.2.2.1 x.2.2.2.2.2.2.2) (x:=((0,0,λ_=>none,bO),(fG,j0,E7,0),(0,[],λ_ _ _=>True,none),(none,none,none,none),(none,none,none,none),(none,none,[]))) (by
 refine (?_:∀k k2 Hb G R a S st mv ss Q v0 v2 v3 v4 v5 v9 v10 v11 v12 v13 v14 c,@rL k k2 Hb G R a S st mv ss Q v0 v2 v3 v4 v5 v9 v10 v11 v12 v13 v14 c) _ _ _ _ _ _ _ _ _ _ _ _ _ _ _ _ _ _ _ _ _ _ _;intro k k2 Hb G R a S st mv ss Q v0 v2 v3 v4 v5 v9 v10 v11 v12 v13 v14 c B F A P C h4 T hQ;have g:=B.ok;have hf:0<G.aa:=P7 RA g.f0;have hV:Vd G S:=⟨R,_,k,k2,A,P⟩;refine (?_:dP _ _ _ _);refine aI ((F.u7 ss (av (fi c))).w R) rfl ?_;rw [A.lsum P];refine (?_:aO _ _ [_,_,_,_,_,_,_,_,_,_,_,_,_,some (nv (lsum S.L G.aa S.az S.r S.e)),_] _ _)
 let Hf:Rw->Hp:=λR=>FH Hb a R st ss mv (av (fi c))
 let rf:Option V->Lc:=λu=>[v0,some (nv G.aa),v2,v3,v4,v5,some (.ref a.p),some (.ref st),some (.ref mv),v9,v10,v11,v12,some (nv (lsum S.L G.aa S.az S.r S.e)),u]
 refine ru (MQ G Hf (jJ c S)[0]? rf) (λK1 k1 kr _=>?_) λρ' H' hI=>?_
 ·refine (?_:b8 .len _ _ _);refine l9 F.gm ?_;rw [Qd,jP];refine (?_:ar _ _ (.int 1) _ _);refine dc ?_;refine (?_:oT _ _ _);refine eP ?_;refine (?_:oT _ _ _);refine eP ?_;refine (?_:b8 .range [.int ((c.length:Int) -1),.int (-1),.int (-1)] _ _);refine FG (by lia) (by decide) ?_;refine (?_:fj _ _ _ _ _ _);refine D6 (n:=c.length) (f:=λk=>c.length-1-k) vU (MP G Hf c S rf) (λi ρ' H' K hi hI hn _ _=>?_) (λρ' H' hI=>?_) ⟨R,S,[],c,v14,k,k2,rfl,rfl,C,A,P,vF⟩
  ·obtain ⟨R',S',pre,c',u14,k',k2',hc,hp,C',A',P',hs'⟩:=hI
   cases c' with
   | nil=>rw [hc,RK] at hi;exact absurd hp (QL hi)
   | cons e c2=>
    obtain ⟨S2,m,h⟩:=e;obtain ⟨C2,R2,k3,k4,o,t,sp,f,wh,rf',rt,A2,z,hm,hh,hS⟩:=C';subst hm;subst hh;subst hS
    have hidx:c.length-1-i=c2.length:=by rw [hc,Qc,hp];show i+(c2.length+1) -1-i=c2.length;rw [<- RN,Uj,Rh]
    refine (?_:aO _ _ [_,_,_,_,_,_,_,_,_,_,_,_,_,_,some (nv (c.length-1-i))] _ _);rw [hidx];refine (?_:Call _ _ _ _ _)
    have eB:kH S2.L G.aa S2.az o t sp f=bR R2 o t sp f wh rf' rt:=by rw [<- A2.ae,<- A2.af];exact wL z
    refine Lx (hs:=kI c2) (F.u7 ss (av (fi c))) g z.P.g z.P.c2 (A2.key trivial) z.m (m1:=⟨A'.gd,A'.key,A'.af.trans (by rw [A2.af];rfl),A'.ab,A'.cA.trans tN,A'.ae.trans eB,A'.ep⟩) λR3 m3=>?_;have A3:At G S2 (kI c2) R3:=⟨m3.gd,m3.key,m3.af.trans A2.af,m3.ab.trans A2.ab,m3.cA,m3.ae.trans A2.ae,m3.ep.trans A2.ep⟩;have P3:=A2.pos A3 z.P
    have hst:(jJ c S)[c2.length]?=some S2:=by rw [hc];exact Cp
    refine gP (T.2 _ _ hst) λx2 hx1 hx2 hx3=>?_;have w:=(F.u7 ss (av (fi c))).w R3
    have hl:S2.L.length<=25:=by rw [<- A3.ae,P3.g.bl];exact g.i3
    refine aQ ?_;refine (?_:aO _ _ [_,_,_,_,_,_,_,_,_,_,_,_,_,_,_] (FH Hb a R3 st ss mv (av (fi c))) _);refine (?_:dP _ _ _ _);refine aI w rfl ?_;refine (?_:aN _ _ _ _);refine iD F.gs hx1 ?_;refine (?_:aN _ _ _ _);refine dU (i:=0) rfl ?_;refine (?_:bM _ _ _ _ _);refine Gd w.P.bd (F.get hx2 hx3) ?_;refine (?_:cF _ _ _);refine ag (λe=>absurd A3.ae e) λ_=>?_;refine (?_:dP _ _ _ _);refine aI w rfl ?_;refine (?_:aN _ _ _ _);refine iD F.gs hx1 ?_;refine (?_:Call _ _ _ _ _);refine BZ (F.get hx2 hx3) hf (P8 g.qz (by decide)) hl (λs=>?_) (A3.ab ▸ P3.je) ?_
    ·rw [<- A3.ae];by_cases z:bd R3 s=0
     ·exact Qi (Rb z) (by decide)
     ·exact (P3.g.mn s z).1
    refine (?_:bM _ _ _ _ _);refine eD ?_;refine (?_:cF _ _ _);refine ag (λe=>absurd (A3.lsum P3) e) λ_=>?_;exact hn _ _ ⟨R3,S2,pre++ [(S2,pk o t sp f,iR R2 o t sp f wh)],c2,some (nv c2.length),_,_,by rw [hc,Qm];rfl,by rw [Qc,hp];rfl,C2,A3,P3,hst⟩
  ·obtain ⟨R',S',pre,c',u14,k',k2',hc,hp,C',A',P',hs'⟩:=hI
   have:c'=[]:=by
    have:=congrArg List.length hc;rw [Qc,hp] at this;exact List.eq_nil_of_length_eq_zero (by lia)
   subst this;exact k1 _ _ ⟨R',S',u14,_,_,A',P',hs'⟩
 obtain ⟨R',S',u14,k',k2',A',P',hs'⟩:=hI;refine gP (T.2 _ _ hs') λx2 hx1 hx2 hx3=>?_;refine ru (λρ' H'=>3<=c.length/\H'=FH Hb a R' st ss mv (av (fi c))/\ρ'=[v0,some (nv G.aa),v2,v3,v4,v5,some (.ref a.p),some (.ref st),some (.ref mv),v9,v10,v11,v12,some (nv (lsum S.L G.aa S.az S.r S.e)),u14]) (λK1 k1 kr _=>?_) λρ' H' hI=>?_
 ·refine (?_:b8 .len _ _ _);refine l9 F.gm ?_;rw [Qd,jP];refine (?_:bM _ _ (nv 3) _ _);refine rZ ?_;refine (?_:cF _ _ _);refine ag (λ_=>?_) λe=>?_
  ·exact kr _ _ _ (hQ _ _)
  ·exact k1 _ _ ⟨SA e,rfl,rfl⟩
 refine dJ hI ?_;rintro h3 rfl rfl;refine (?_:aN _ (nv 0) _ _);refine iD F.gs hx1 ?_
 refine Gm (S:=S') B F A' P' hx2 hx3 (by rw [jP];exact h3) (by rw [jP];exact h4) T (by rw [jP];exact vF) hV hQ) ((k,k2,Hb,G),(R,a,S,st),(mv,ss,Q,v0),(v2,v3,v4,v5),(v9,v10,v11,v12),(v13,v14,c))
end
section
variable {k k2:Nat} {H Hb Hs:Hp} {G:aE} {R R':Rw} {a:Ad} {S Sn:LS} {x st mv sc:Addr} {ss:List V} {Q:Fl->Lc->Hp->Prop} {q:V->Hp->Prop} {v0 v2 v3 v4 v5 v7 v8 v9 v10 v11 v12 v13 v14:Option V} {c:List Rec} {is:List Int}
theorem zF {l:List Nat} (h1:H x=some (.list (av l))) (h:∀ms:List Nat,ms.length=l.length->(∀m∈ms,m∈l)->da (av ms) H q):b8 .sorted [.ref x] H q:=by
 refine mF.sorted h1 (cY _) λys hp _=>?_
 have hy:∀y∈ys,∃m∈l,y=(m:Int):=λy hy=>by
  refine ao (Se.mp (hp.subset hy)) λm hm e=>?_;exact ⟨m,hm,e.symm⟩
 have e:ys.map V.int=av (ys.map Int.toNat):=by
  rw [av,Su];refine Q1 λy h=>?_;refine ao (hy y h) ?_;rintro m _ rfl;rfl
 rw [e];refine h _ (by rw [Qd,hp.length_eq,Qd]) λm hm=>?_;refine ao (Se.mp hm) ?_;rintro y h2 rfl;refine ao (hy y h2) ?_;rintro m h3 rfl;exact h3
structure L1 (Hb:Hp) (G:aE) (a:Ad) (st mv:Addr) (n:Nat) (Hb':Hp) (R:Rw) (S:LS) (x:Addr) (ss:List V) (c:List Rec):Prop where
 F:HF Hb' a G st mv
 s:Hb.Sub Hb'
 A:At G S (kI c) R
 P:∃k k2,Pos G R k k2
 C:IS G c S
 l:c.length<=n
 T:yS Hb' a (jJ c S) ss
 hx:Hb' x=some (.list (av S.L))
 d:¬dyn a x
inductive LB (Hb:Hp) (G:aE) (a:Ad) (st mv sc:Addr) (v2 v3 v4 v13 v14:Option V) (n:Nat):Lc->Hp->Prop
 | mk (Hb':Hp) (R':Rw) (S':LS) (x':Addr) (ss':List V) (c:List Rec) (u9 u10 u11 u12:Option V) (h:L1 Hb G a st mv n Hb' R' S' x' ss' c):LB Hb G a st mv sc v2 v3 v4 v13 v14 n [some (.ref sc),some (nv G.aa),v2,v3,v4,some (S'.v x'),some (.ref a.p),some (.ref st),some (.ref mv),u9,u10,u11,u12,v13,v14] (FH Hb' a R' st ss' mv (av (fi c)))
def rM:Prop:=∀(B:BG G) (S0:gb Hs a G) (A0:At G S [] R) (P0:Pos G R k k2) (hx:Hs x=some (.list (av S.L))) (hxd:¬dyn a x) (hsc:Hs sc=some (.list (is.map .int))) (hscd:¬dyn a sc) (hQ:∀O H',Q (.ret (.bool true)) O H'),aO (Call 20) (va 5 j9.body) [some (.ref sc),some (nv G.aa),v2,v3,v4,some (S.v x),some (.ref a.p),v7,v8,v9,v10,v11,v12,v13,v14] (Hs.put a R) Q
theorem Gp:@rM k k2 Hs G R a S x sc Q v2 v3 v4 v7 v8 v9 v10 v11 v12 v13 v14 is:=au (S:=λx:(Nat×Nat×Hp×aE)×(Rw×Ad×LS×Addr)×(Addr×(Fl->Lc->Hp->Prop)×Option V×Option V)×(Option V×Option V×Option V×Option V)×(Option V×Option V×Option V×Option V)×(Option V×List Int)=>@rM x.1.1 x.1.2.1 x.1.2.2.1 x.1.2.2.2 x.2.1.1 x.2.1.2.1 x.2.1.2.2.1 x.2.1.2.2.2 x.2.2.1.1 x.2.2.1.2.1 x.2.2.1.2.2.1 x.2.2.1.2.2.2 x.2.2.2.1.1 x.2.2.2.1.2.1 x.2.2.2.1.2.2.1 x.2.2.2.1.2.2.2 x.2.2.2.2.1.1 x.2.2.2.2.1.2.1 x.2.2.2.2.1.2.2.1 x.2.2.2.2.1.2.2.2 x.2.2.2.2.2.1 x.2.2.2.2.2.2) (x:=((0,0,λ_=>none,bO),(fG,j0,E7,0),(0,λ_ _ _=>True,none,none),(none,none,none,none),(none,none,none,none),(none,[]))) (by
 refine (?_:∀k k2 Hs G R a S x sc Q v2 v3 v4 v7 v8 v9 v10 v11 v12 v13 v14 is,@rM k k2 Hs G R a S x sc Q v2 v3 v4 v7 v8 v9 v10 v11 v12 v13 v14 is) _ _ _ _ _ _ _ _ _ _ _ _ _ _ _ _ _ _ _ _ _ _;intro k k2 Hs G R a S x sc Q v2 v3 v4 v7 v8 v9 v10 v11 v12 v13 v14 is B S0 A0 P0 hx hxd hsc hscd hQ;have g:=B.ok;refine new_ (show 1<=1000000 by decide) λst hst=>?_;refine (?_:aO _ _ [_,_,_,_,_,_,_,some (.ref st),_,_,_,_,_,_,_] _ _);refine new_ (show 0<=1000000 by decide) λmv hmv=>?_;refine (?_:aO _ _ [_,_,_,_,_,_,_,_,some (.ref mv),_,_,_,_,_,_] (((Hs.put a R).upd st (.list [S.v x])).upd mv (.list [])) _)
 have ndy:∀{b:Addr},(Hs.put a R) b=none->¬dyn a b:=λ{b} h z=>by
  have w:=S0.w R;rcases z with rfl | rfl | rfl | rfl | rfl
  ·exact nomatch w.P.bd.symm.trans h
  ·exact nomatch w.P.kd.symm.trans h
  ·exact nomatch w.P.sd.symm.trans h
  ·exact nomatch w.P.hs.symm.trans h
  ·exact nomatch w.P.dx.symm.trans h
 refine aD (Hp.none_of hmv) λhms hmv=>?_;have F:HF Hs a G st mv:=⟨S0,(bq (ndy hst)).symm.trans hst,(bq (ndy hmv)).symm.trans hmv,Ne.symm hms,ndy hst,ndy hmv⟩;rw [jf F.ds,jf F.dm];refine (?_:aO _ _ _ (FH Hs a R st [S.v x] mv (av (fi []))) _)
 have T0:yS Hs a (jJ [] S) [S.v x]:=⟨rfl,λi T e=>by
  rcases i with _ | i
  ·cases e;exact ⟨x,rfl,hx,hxd⟩
  ·cases e⟩
 refine ru (LB Hs G a st mv sc v2 v3 v4 v13 v14 4) (λK1 k1 kr _=>?_) λρ' H' hI=>?_
 ·refine (?_:ec _ _ _ _ _);refine Fz (a:=7) (b:=11) (F.get hsc hscd) (by decide) (by decide) ?_
  have hi0:∀v∈((is.map V.int).take 11).drop 7,∃n:Int,v=V.int n:=λv e=>by
   refine ao (Se.mp (SR (T9 e))) ?_;rintro n _ rfl;exact ⟨n,rfl⟩
  have hl0:(((is.map V.int).take 11).drop 7).length<=4:=by rw [Ts,SY];exact Nat.sub_le_sub_right (TY _ _) 7
  generalize ((is.map V.int).take 11).drop 7=l1 at hi0 hl0 ⊢;refine F.da (show l1.length<=1000000 by exact P8 ‹_› (by decide)) λb1 F1 s1 d1=>?_;refine F1.da (vs:=[.int 0,.int 0,.int 0]) (show 3<=1000000 by decide) λb2 F2 s2 d2=>?_;refine (?_:ar _ _ _ _ _);refine B6 (vs:=l1) (ws:=[.int 0,.int 0,.int 0]) (F2.get (s2 _ _ (Hp.ai ..)) d1) (F2.get (Hp.ai ..) d2) ?_;refine F2.da (show (l1++ [V.int 0,V.int 0,V.int 0]).length<=1000000 by rw [Qc];show _+3<=_;exact P8 (SQ ‹_› _) (by decide)) λb3 F3 s3 d3=>?_;refine (?_:ec _ _ (nv 4) _ _);refine JA (j:=4) (F3.get (Hp.ai ..) d3) (by decide) ?_
  have hi1:∀v∈(l1++ [V.int 0,V.int 0,V.int 0]).take 4,∃n:Int,v=V.int n:=λv e=>by
   rcases QF.mp (SR e) with z | z
   ·exact hi0 v z
   ·refine ⟨0,?_⟩;simpa using z
  have hl1:((l1++ [V.int 0,V.int 0,V.int 0]).take 4).length<=4:=by rw [SY];exact TY _ _
  generalize (l1++ [V.int 0,V.int 0,V.int 0]).take 4=l4 at hi1 hl1 ⊢;refine F3.da (show l4.length<=1000000 by exact P8 ‹_› (by decide)) λb4 F4 s4 d4=>?_;have sub:=Hp.Sub.trans s1 (Hp.Sub.trans s2 (Hp.Sub.trans s3 s4));refine (?_:fj _ _ _ _ (FH ((((Hs.upd b1 (.list l1)).upd b2 (.list [.int 0,.int 0,.int 0])).upd b3 (.list (l1++ [V.int 0,V.int 0,V.int 0]))).upd b4 (.list l4)) a R st [S.v x] mv (av (fi []))) _);have e4:((((Hs.upd b1 (.list l1)).upd b2 (.list [.int 0,.int 0,.int 0])).upd b3 (.list (l1++ [V.int 0,V.int 0,V.int 0]))).upd b4 (.list l4)) b4=some (.list l4):=Hp.ai ..;generalize (((Hs.upd b1 (.list l1)).upd b2 (.list [.int 0,.int 0,.int 0])).upd b3 (.list (l1++ [V.int 0,V.int 0,V.int 0]))).upd b4 (.list l4)=Hc at F4 sub e4 ⊢;refine forL (F4.get e4 d4) (LB Hc G a st mv sc v2 v3 v4 v13 v14) (λi v ρ' H' K hv hI hn hr hb=>?_) (λρ' H' hI=>?_) ⟨Hc,R,S,x,_,[],_,_,_,_,⟨F4,Hp.Sub.refl _,A0,⟨k,k2,P0⟩,trivial,Qn _,T0.mono sub,sub _ _ hx,hxd⟩⟩
  ·obtain ⟨Hb',R',S',x',ss',c,u9,u10,u11,u12,⟨F',s',A,⟨k,k2,P⟩,C,hl,T,hx',hd'⟩⟩:=hI;refine bJ (hi1 v (QJ hv)) ?_;rintro n rfl;have hi:i<4:=P7 (Qs.mp hv).1 hl1;refine ⟨F'.get (s' _ _ e4) d4,?_⟩;refine (?_:aO _ _ [_,_,_,_,_,_,_,_,_,some (.int n),_,_,_,_,_] _ _);refine (?_:Call _ _ _ _ _);refine F'.tA P λns b hnl hP F1 s1 d1=>?_;refine (?_:b8 .sorted _ _ _);refine zF (F1.get (Hp.ai ..) d1) λms hml hms=>?_;refine F1.da (by rw [Qd,hml];show _<=1000000;exact P8 ‹_› (by decide)) λb2 F2 s2 d2=>?_;have em:((Hb'.upd b (.list (av ns))).upd b2 (.list (av ms))) b2=some (.list (av ms)):=Hp.ai ..;have s12:=Hp.Sub.trans s1 s2;refine (?_:aO _ _ [_,_,_,_,_,_,_,_,_,_,some (.ref b2),_,_,_,_] (FH ((Hb'.upd b (.list (av ns))).upd b2 (.list (av ms))) a R' st ss' mv (av (fi c))) _);generalize (Hb'.upd b (.list (av ns))).upd b2 (.list (av ms))=Hb2 at F2 em s12 ⊢;have T2:=T.mono s12;have x2:=s12 _ _ hx';refine ru (λρ1 H1=>ms.length≠0/\H1=FH Hb2 a R' st ss' mv (av (fi c))/\ρ1=[some (.ref sc),some (nv G.aa),v2,v3,v4,some (S'.v x'),some (.ref a.p),some (.ref st),some (.ref mv),some (.int n),some (.ref b2),u11,u12,v13,v14]) (λK2 k2' _ kb=>?_) λρ1 H1 hJ=>?_
   ·refine (?_:b8 .len _ _ _);refine l9 (F2.get em d2) ?_;rw [Qd];refine (?_:bM _ _ (nv 0) _ _);refine aR ?_;refine (?_:cF _ _ _);refine ag (λ_=>?_) λe=>?_
    ·exact kb _ _ (hb _ _ (k1 _ _ ⟨Hb2,R',S',x',ss',c,_,_,_,_,⟨F2,Hp.Sub.trans sub (Hp.Sub.trans s' s12),A,⟨k,k2,P⟩,C,by exact P8 ‹_› (Qp ‹_›),T2,x2,hd'⟩⟩))
    ·exact k2' _ _ ⟨e,rfl,rfl⟩
   refine dJ hJ ?_;rintro hne rfl rfl;refine (?_:b8 .len _ _ _);refine l9 (F2.get em d2) ?_;rw [Qd];refine (?_:ar _ _ _ _ _);refine fU hne λm hm _=>?_;refine (?_:aN _ _ _ _);refine aU (F2.get em d2) hm ?_;have hmem:ms.getD m 0∈ns:=hms _ (by rw [P9,Qg hm];exact Sb hm);obtain ⟨o,t,sp,f,wh,rf,rt,e,z⟩:=Go.of P (hP _ hmem);rw [e];refine (?_:aO _ _ [_,_,_,_,_,_,_,_,_,_,_,some (nv (pk o t sp f)),_,_,_] _ _);refine (?_:Call _ _ _ _ _);refine Lw ((F2.u7 _ _).w R') g z.P.g z.P.ok z.m (k5 z.P.je) ?_;refine (?_:aO _ _ [_,_,_,_,_,_,_,_,_,_,_,_,some (nv (ka G R' o t sp f wh rf rt)),_,_] _ _);refine (?_:Call _ _ _ _ _);refine Mm (F2.u7 _ _) A z (by rw [DZ];exact Jc ‹_› ‹_› (by rfl)) λR2 A2 P2 hka=>?_;refine aQ ?_;refine (?_:aO _ _ [_,_,_,_,_,_,_,_,_,_,_,_,_,_,_] (FH Hb2 a R2 st ss' mv (av (fi c))) _);refine (?_:Call _ _ _ _ _);refine th B A z (F2.get x2 hd') λb hb5=>?_;refine rX (F2.new hb5 (.list (av (jC G.aa S' o t sp f).L))) λeq4 F5 s5 d5=>?_;rw [show (FH Hb2 a R2 st ss' mv (av (fi c))).out b (jC G.aa S' o t sp f).L=_ from eq4];have x5:(Hb2.upd b (.list (av (jC G.aa S' o t sp f).L))) b=some (.list (av (jC G.aa S' o t sp f).L)):=Hp.ai ..;refine (?_:aO _ _ [_,_,_,_,_,some ((jC G.aa S' o t sp f).v b),_,_,_,_,_,_,_,_,_] (FH (Hb2.upd b (.list (av (jC G.aa S' o t sp f).L))) a R2 st ss' mv (av (fi c))) _);generalize Hb2.upd b (.list (av (jC G.aa S' o t sp f).L))=Hb5 at F5 s5 x5 ⊢;have C5:IS G ((S',pk o t sp f,iR R' o t sp f wh)::c) (jC G.aa S' o t sp f):=⟨C,R',k,k2,o,t,sp,f,wh,rf,rt,A,z,rfl,rfl,rfl⟩
   have T5:yS Hb5 a (jJ ((S',pk o t sp f,iR R' o t sp f wh)::c) (jC G.aa S' o t sp f)) (ss'++ [(jC G.aa S' o t sp f).v b]):=by
    have:=(T2.mono s5).snoc (S:=jC G.aa S' o t sp f) x5 d5;unfold jJ at this ⊢;rw [Q9,TK];exact this
   have A5:At G (jC G.aa S' o t sp f) (kI ((S',pk o t sp f,iR R' o t sp f wh)::c)) R2:=by rw [tN];exact A2
   generalize jC G.aa S' o t sp f=S5 at A5 A2 C5 T5 x5 ⊢;refine CA (FH Hb5 a R2 st ss' mv (av (fi c))) (λK' j=>?_) ?_
   ·refine (?_:dP _ _ _ _);refine aI ((F5.u7 _ _).w R2) rfl ?_;refine (?_:bM _ _ _ _ _);refine eD ?_;refine (?_:cF _ _ _);refine ag (λe=>absurd hka.symm e) λ_=>?_;refine (?_:Call _ _ _ _ _);refine LX (F5.u7 _ _) B A2 P2 (F5.get x5 d5) ?_;refine (?_:jh _ _ _);refine lU ?_;refine (?_:cF _ _ _);refine gE ?_;exact j
   have ml:(av (fi c)).length<1000000:=by rw [Qd,jP];exact Jc ‹_› ‹_› (by rfl)
   have sl:ss'.length<1000000:=by rw [T.1];unfold jJ;rw [Qc,RY,Qd];show _+1<_;lia
   refine ⟨gO F5.gm,?_⟩;refine (?_:dD _ _ _ _);refine qK F5.gm ml ?_;refine aQ ?_
   rw [show (FH Hb5 a R2 st ss' mv (av (fi c))).upd mv (.list (av (fi c)++ [nv (pk o t sp f)]))=FH Hb5 a R2 st ss' mv (av (fi ((S',pk o t sp f,iR R' o t sp f wh)::c))) by
    rw [F5.um];unfold fi av;rw [Q9,TK,Rd];rfl]
   refine (?_:aO _ _ [_,_,_,_,_,_,_,_,_,_,_,_,_,_,_] (FH Hb5 a R2 st ss' mv (av (fi ((S',pk o t sp f,iR R' o t sp f wh)::c)))) _);refine ⟨gO F5.gs,?_⟩;refine (?_:dD _ _ _ _);refine qK F5.gs sl ?_;refine aQ ?_;rw [F5.us];exact hn _ _ ⟨Hb5,R2,S5,b,_,_,_,_,_,_,⟨F5,Hp.Sub.trans s' (Hp.Sub.trans s12 s5),A5,⟨_,_,P2⟩,C5,SW hl,T5,x5,d5⟩⟩
  ·obtain ⟨Hb',R',S',x',ss',c,u9,u10,u11,u12,⟨F',s',A,P,C,hl,T,hx',hd'⟩⟩:=hI;exact ⟨F'.get (s' _ _ e4) d4,k1 _ _ ⟨Hb',R',S',x',ss',c,_,_,_,_,⟨F',Hp.Sub.trans sub s',A,P,C,P8 hl hl1,T,hx',hd'⟩⟩⟩
 obtain ⟨Hb',R',S',x',ss',c,u9,u10,u11,u12,⟨F',s',A,⟨k,k2,P⟩,C,hl,T,hx',hd'⟩⟩:=hI
 exact Gn B F' A P C hl T hQ) ((k,k2,Hs,G),(R,a,S,x),(sc,Q,v2,v3),(v4,v7,v8,v9),(v10,v11,v12,v13),(v14,is))
end
section
variable {d k k2 r az:Nat} {H Hb Hs:Hp} {G:aE} {R R':Rw} {a:Ad} {S Sn:LS} {x st mv sc:Addr} {Q:Fl->Lc->Hp->Prop} {q:V->Hp->Prop} {is:List Int} {L:List Nat} {ep:Int}
theorem Em.sub {H0:Hp} {U:Nat->Addr} {C:Ch} (m:Em H0 U C H):H0.Sub H:=λy o e=>by
 rw [m.off y λi hi z=>by have:=m.fr i hi;rw [z,e] at this;cases this];exact e
def mM:Prop:=∀(B:BG G) (D:vf G L r az k k2) (hw:az<2) (he:ep=-1\/∃n:Nat,ep=n/\yW G.aa G.bE L az n) (g:ba G R) (hb:R.ae=L) (hs:R.af=az) (hr:R.ab=r) (h4:R.ep=ep),Pos G R k k2
theorem vf.pos:@mM k k2 r az G R L ep:=au (S:=λx:(Nat×Nat×Nat×Nat)×(aE×Rw×List Nat×Int)=>@mM x.1.1 x.1.2.1 x.1.2.2.1 x.1.2.2.2 x.2.1 x.2.2.1 x.2.2.2.1 x.2.2.2.2) (x:=((0,0,0,0),(bO,fG,[],0))) (by
 refine (?_:∀k k2 r az G R L ep,@mM k k2 r az G R L ep) _ _ _ _ _ _ _ _;intro k k2 r az G R L ep B D hw he g hb hs hr h4;subst hb hs hr h4;refine ⟨B,g,hw,D.je,D.kg,D.ke,?_,D.rt,?_⟩
 ·rw [kT g];exact D.sf
 ·rcases he with h | ⟨n,h,h1,h2,h3,h4,h5⟩
  ·exact .inl h
  ·exact .inr ⟨n,h,h1,h2,h3,h4,h5⟩) ((k,k2,r,az),(G,R,L,ep))
theorem rN (B:BG G) (hrun:jd code 20 20 [nv G.aa,nv G.bE,.bool G.dbl,.bool G.gM] []=some (.ref 1,uT G)) (hsc:H sc=some (.list (is.map .int))) (hQ:∀O H',Q (.ret (.bool true)) O H') :
 aO (Call 20) (va 2 j9.body) [some (.ref sc),some (nv G.aa),some (nv G.bE),some (.bool G.dbl),some (.bool G.gM),none,none,none,none,none,none,none,none,none,none] H Q:=by
 refine (?_:Call _ _ _ _ _);refine HU (d:=17) hsc B λb L az r ep k k2 hb hw D he=>?_;refine (?_:aO _ _ [_,_,_,_,_,some (mQ b az r ep),_,_,_,_,_,_,_,_,_] _ _);refine (?_:Call _ 20 _ _ _);refine xT rfl hrun λU H' m=>?_;have s1:=m.sub;have hbL:H' b=some (.list (av L)):=s1 _ _ (Hp.ai ..);have hsc':H' sc=some (.list (is.map .int)):=s1 _ _ ((Hp.ay (Hp.dN hsc hb)).trans hsc);refine (?_:Call _ 106 [.ref (U 1),mQ b az r ep,nv G.aa] _ _);refine HR (d:=16) B m hbL D.len D.mn hw D.je (he.elim .inl λ⟨n,h,h1,h2,_⟩=>.inr ⟨by rw [h];exact QT.mpr h1,by rw [h];exact Int.ofNat_lt.mpr h2⟩) λa Hs R S keep g key hbd hsd hrt hep hhs=>?_;have P:=D.pos B hw he g hbd hsd hrt hep;have A:At G ⟨L,az,r,ep⟩ [] R:=⟨g,λ_=>key,hsd,hrt,hhs,hbd,hep⟩;have kb:=keep _ _ hbL;have ks:=keep _ _ hsc';refine (?_:aO _ _ [_,_,_,_,_,_,some (.ref a.p),_,_,_,_,_,_,_,_] _ _);refine CA (Hs.put a R) (λK' j=>?_) ?_
 ·refine (?_:Call _ _ _ _ _);refine LX (S:=⟨L,az,r,ep⟩) (d:=17) S B A P ((bq kb.1).trans kb.2) ?_;refine (?_:jh _ _ _);refine lU ?_;refine (?_:cF _ _ _);refine gE ?_;exact j
 exact Gp (S:=⟨L,az,r,ep⟩) B S A P kb.2 kb.1 ks.2 ks.1 hQ
theorem FA {vs:List V} {j:Nat} (hj:j<=1000) (h:da (vs.take j) H q):ec (.nK vs) .none (nv j) H q:=iX.nK (.to ⟨Qy j,by show (j:Int)<=1000000;exact Sv (QT.mpr ‹_›) (by decide)⟩ h)
theorem KG (h:∀b,H b=none->q (.ref b) (H.upd b (.list [.tup [.int 4,.int 5,.bool true,.bool false],.tup [.int 7,.int 3,.bool false,.bool true],.tup [.int 5,.int 5,.bool true,.bool false]]))):Call (d+1) 96 [] H q:=by
 refine aq rfl rfl ?_;refine ⟨show 4<=1000 by decide,show 4<=1000 by decide,show 4<=1000 by decide,?_⟩;refine new_ (show 3<=1000000 by decide) λb hb=>?_;refine (?_:dq _ _ _ _);exact aj (h b hb)
theorem Gq (hQ:∀O H',Q (.ret (.bool true)) O H'):aO (Call 20) j9.body [some (.nK (is.map .int)),none,none,none,none,none,none,none,none,none,none,none,none,none,none] H Q:=by
 refine (?_:ec _ _ (nv 24) _ _);refine FA (by decide) ?_;refine new_ (by rw [SY];show _<=1000000;lia) λsc hsc=>?_;refine (?_:aO _ _ [some (.ref sc),_,_,_,_,_,_,_,_,_,_,_,_,_,_] _ _);refine (?_:Call _ _ _ _ _);refine KG (d:=19) λb hb=>?_;refine aD (Hp.none_of hb) λhbs hbn=>?_
 have e1:((H.upd sc (.list ((is.map V.int).take 24))).upd b (.list [.tup [.int 4,.int 5,.bool true,.bool false],.tup [.int 7,.int 3,.bool false,.bool true],.tup [.int 5,.int 5,.bool true,.bool false]])) sc=some (.list ((is.take 24).map .int)):=by
  rw [Hp.ay (Ne.symm hbs),Hp.ai,List.map_take]
 have e2:((H.upd sc (.list ((is.map V.int).take 24))).upd b (.list [.tup [.int 4,.int 5,.bool true,.bool false],.tup [.int 7,.int 3,.bool false,.bool true],.tup [.int 5,.int 5,.bool true,.bool false]])) b=_:=Hp.ai ..;generalize (H.upd sc (.list ((is.map V.int).take 24))).upd b (.list [.tup [.int 4,.int 5,.bool true,.bool false],.tup [.int 7,.int 3,.bool false,.bool true],.tup [.int 5,.int 5,.bool true,.bool false]])=H1 at e1 e2 ⊢;refine (?_:Call _ _ _ H1 _);refine A4 (k:=0) (d:=19) e1 ?_;refine (?_:ar _ _ _ _ _);refine fU (y:=3) (by decide) λm hm _=>?_;refine (?_:aN _ _ _ _)
 match m,hm with
 | 0,_=>
  refine iD (i:=0) e2 rfl ?_;refine (?_:tupK _ _ _ _);refine mP rfl ?_;exact rN (G:=mL) (.inl rfl) FE e1 hQ
 | 1,_=>
  refine iD (i:=1) e2 rfl ?_;refine (?_:tupK _ _ _ _);refine mP rfl ?_;exact rN (G:=kC) (.inr (.inl rfl)) FC e1 hQ
 | 2,_=>
  refine iD (i:=2) e2 rfl ?_;refine (?_:tupK _ _ _ _);refine mP rfl ?_;exact rN (G:=mK) (.inr (.inr rfl)) FD e1 hQ
end
end Internal
end
section
open PySem PySem.W PyProof.Rows
namespace Internal
section
variable {prog:Program} {w:World} {A:Around} {E:Value->Shared->Prop} {s:Shared}
theorem wz {vs:List Value} {ns:List Int} (hI:IntsAre vs ns) {xs:Array Keyed} (hp:xs.Perm (pairsOf vs)):∃ns',IntsAre (xs.map (·.2)).toList ns'/\ns'.Perm ns:=by
 have hl:(xs.map (·.2)).toList.Perm vs:=by
  have h:=(SP.mp hp).map (·.2);rw [pairsOf_toList,<- Array.toList_map,List.map_snd_zip (Qn _)] at h;exact h
 refine ⟨_,intsAre_map _ λv hv=>hI.all v (hl.mem_iff.mp hv),?_⟩;have:=hl.map numOf;rw [hI.nums] at this;exact this
theorem Dz {a:Addr} {vs:List Value} {ns:List Int} {n:Nat} {P:Fin->Shared->Prop} (ho:s.heap.get? a=some (seqObj "list" vs.toArray n)) (hI:IntsAre vs ns) (h2:2<=vs.length) (hl:vs.length<=sizeLine)
 (h:∀(out:Array Value) (ns':List Int),IntsAre out.toList ns'->ns'.Perm ns->P (.done (.ret .none)) { s with heap:=sortedHeap s.heap a vs out }):wpAny (model prog w) A (Builtin.«list.sort» ⟨[.ref a],[]⟩) P E s:=by
 have hsz:vs.toArray.size=vs.length:=Q6 ..;have ha:a<s.heap.objs.size:=Heap.lt_size ho;rw [list_sort_plain];refine wpAny_bind (listItems_at ho rfl ?_);refine wpAny_bind (listUpdate_at ho rfl ?_ (by rw [hsz];exact hl) (by show 0<=_;exact QS _));obtain ⟨e1,ho1⟩:∃e1,(s.heap.update a (Obj.mapSeq λ_=>#[])).get? a=some (seqObj "list" #[] e1):=⟨_,get?_update_seq ho (λ_=>#[])⟩;refine wpAny_bind (seqEpoch_at ho1 rfl ?_);refine wpAny_bind (wpAny_newTuple ?_);refine wpAny_bind (wpAny_newList ?_);refine wpAny_holding ?_
 have ho6:(((s.heap.update a (Obj.mapSeq λ_=>#[])).push (seqObj "tuple" vs.toArray 0)).push (seqObj "list" #[] 0)).get? a=some (seqObj "list" #[] e1):=by
  rw [Heap.get?_push_ne _ _ _ (by rw [size_push',Heap.size_update];exact QX (QW ha)),Heap.get?_push_ne _ _ _ (by rw [Heap.size_update];exact QX ha)];exact ho1
 show wpAny (model prog w) A _ P E { s with heap:=((s.heap.update a (Obj.mapSeq λ_=>#[])).push (seqObj "tuple" vs.toArray 0)).push (seqObj "list" #[] 0) };dsimp only;rw [Qb (by rw [hsz];exact Rv.mpr ‹_›),Qb (by rw [hsz];exact Rv.mpr ‹_›)]
 have hk:keyKind' vs.toArray=pure oneType':=by
  match vs,h2,hI with
  | v₁::v₂::rest,_,hI=>exact keyKind_ints hI
 rw [hk];refine wpAny_bind (wpAny_pure ?_);refine wpAny_bind (wpAny_mono (rO (a₀:=pairsOf vs) (st:=SortSt.mk' oneType' (vs.toArray.zip vs.toArray) #[] 7 none) (Q:=λ_ st'=>WB (pairsOf vs) st') hI.intKeys ⟨Array.Perm.refl _,rfl,rfl⟩ rfl λst' h=>h) ?_ λ_ _ e=>e);rintro ⟨⟨⟩,st'⟩ s' ⟨rfl,hB⟩;dsimp only;have hp:=hB.perm;refine wpAny_bind (seqEpoch_at ho6 rfl ?_);refine wpAny_bind (listUpdate_at ho6 rfl ?_ (QS _) (hsz2:=by rw [Array.size_map,hp.size_eq,pairsOf_size];exact P8 ‹_› (by decide)));rw [hB.failed];simp only [bne_self_eq_false,Bool.false_eq_true,if_false];refine ao (wz hI hp) λns' a1 a2=>?_;exact wpAny_pure (h _ ns' a1 a2)
theorem wV {l:Addr} {vs:List Value} {ns:List Int} {Q:Value->Shared->Prop} (hl:s.heap.IsList l vs.toArray) (hI:IntsAre vs ns) (h2:2<=vs.length) (hle:vs.length<=sizeLine)
 (h:∀(out:Array Value) (ns':List Int),IntsAre out.toList ns'->ns'.Perm ns->Q (.ref (s.heap.objs.size+1)) { s with heap:=sortedAll s.heap vs out }):wpAny (model prog w) A (call (.builtin "sorted") [.ref l]) Q E s:=by
 refine Calls.call_function_entry kind_sorted plain_sorted entry_sorted (args_sorted1 _) ?_;unfold Builtin.«sorted»;refine wpAny_bind (m:=checkCount "sorted" 1 1 _) (wpAny_pure ?_);refine wpAny_bind (collect_list hl ?_ hle);refine wpAny_bind (wpAny_newList ?_)
 have hsz:((s.heap.push (seqObj "list" #[] 0)).update s.heap.objs.size (Obj.mapSeq (·++vs.toArray))).objs.size=s.heap.objs.size+1:=by
  rw [Heap.size_update,size_push']
 have hoL:(((s.heap.push (seqObj "list" #[] 0)).update s.heap.objs.size (Obj.mapSeq (·++vs.toArray))).push (seqObj "list" vs.toArray 0)).get? (s.heap.objs.size+1)=some (seqObj "list" vs.toArray 0):=by
  rw [<- hsz];exact Heap.get?_push_size _ rfl
 show wpAny _ _ _ _ _ { s with heap:=((s.heap.push (seqObj "list" #[] 0)).update s.heap.objs.size (Obj.mapSeq (·++vs.toArray))).push (seqObj "list" vs.toArray 0) };rw [hsz];refine wpAny_bind (wpAny_holding (wpAny_call_entry slot_list_sort ⟨_,hoL,rfl⟩ entry_list_sort (Dz hoL hI h2 hle λout ns' a1 a2=>⟨_,rfl,?_⟩) (args_list_sort _)));exact wpAny_pure ⟨_,rfl,h out ns' a1 a2⟩
end
theorem nz:cm:=by
 intro prog w A E s l vs ns Q hl hI hle h
 have hlen:vs.length=ns.length:=by rw [<- hI.nums,Qd]
 by_cases h64:vs.length<64
 ·refine sorted_ints hl hI h64 λout ns' a1 a2 a3=>?_;refine bJ (sortedAll_at s.heap vs out) λe he=>?_;exact h _ _ out.toList ns' e (λb o=>sortedAll_old) (Tg _) he a1 a2 λ_=>a3
 ·refine wV hl hI (by lia) (by rw [hlen];exact P8 hle (by decide)) λout ns' a1 a2=>?_;refine bJ (sortedAll_at s.heap vs out) λe he=>?_;exact h _ _ out.toList ns' e (λb o=>sortedAll_old) (Tg _) he a1 a2 λz=>absurd (hlen ▸ z) h64
end Internal
end
section
open PySem PySem.W PySem.Calls PyProof.Rows
namespace Internal
noncomputable def BF (sc:Scope):Bool:=sc.kind ==.function && j9.names.all (λn=>sc.names.lookup n == some .local && !(n == ("__debug__":Str)) && !(n == ("__classdict__":Str))) && sc.names.all λy=>!(y.2 ==.cell) && !(y.2 ==.free)
section
variable {prog:Program} {w:World} {K:Frag} {base:Heap} {ca fa:Nat->Addr} {A:Around} {sc:Scope} {name:Str} {fa0:Addr} {cd:Value} {l:Addr} {vs:List Value} {ns:List Int} {m:Str->Option Value} {body:List Stmt} {s:Shared} {E:Value->Shared->Prop}
def iP:Prop:=∀(Z:Fc K base ca fa) (F:Fr base base.objs.size s.heap m) (hm:m "script"=some (.ref l)) (hI:IntsAre vs ns) (hL:base.IsList l vs.toArray) (hlen:ns.length<=1000) (hA:A.handled=none) (hd:A.depth+84<=990) (hu:A.units+400<=9000) (hsc:BF sc=true) (hb:cB gt attrs sc j9.names body=j9.body),wpAny (model prog w) A (execs body (envOf name sc base.objs.size fa0 cd)) (λf s'=>f=.ret (.bool true)/\(∃m',Fr base base.objs.size s'.heap m')/\jB s s') E s
theorem uy:@iP prog w K base ca fa A sc name fa0 cd l vs ns m body s E:=au (S:=λx:(Program×World×Frag×Heap)×((Nat->Addr)×(Nat->Addr)×Around×Scope)×(Str×Addr×Value×Addr)×(List Value×List Int×(Str->Option Value)×List Stmt)×(Shared×(Value->Shared->Prop))=>@iP x.1.1 x.1.2.1 x.1.2.2.1 x.1.2.2.2 x.2.1.1 x.2.1.2.1 x.2.1.2.2.1 x.2.1.2.2.2 x.2.2.1.1 x.2.2.1.2.1 x.2.2.1.2.2.1 x.2.2.1.2.2.2 x.2.2.2.1.1 x.2.2.2.1.2.1 x.2.2.2.1.2.2.1 x.2.2.2.1.2.2.2 x.2.2.2.2.1 x.2.2.2.2.2) (x:=((default,dW,[],default),(λ_=>0,λ_=>0,{},default),(default,0,default,0),([],[],λ_=>none,[]),({},λ_ _=>True))) (by
 refine (?_:∀prog w K base ca fa A sc name fa0 cd l vs ns m body s E,@iP prog w K base ca fa A sc name fa0 cd l vs ns m body s E) _ _ _ _ _ _ _ _ _ _ _ _ _ _ _ _ _ _;intro prog w K base ca fa A sc name fa0 cd l vs ns m body s E Z F hm hI hL hlen hA hd hu hsc hb;obtain ⟨o,ho,hc,n,hdt⟩:=hL;unfold BF at hsc;rw [Qa,Qa] at hsc;refine aD hsc ?_;rintro ⟨k1,k2⟩ k3
 have kn:∀n∈j9.names,sc.names.lookup n=some .local/\(n == ("__debug__":Str))=false/\(n == ("__classdict__":Str))=false:=λn hn=>by
  have:=Qj.mp k2 n hn;rw [Qa,Qa,QI,QI] at this;exact ⟨eq_of_beq this.1.1,this.1.2,this.2⟩
 have nocf:∀n,¬(sc.names.lookup n=some .cell\/sc.names.lookup n=some .free):=λn h=>by
  rcases h with h | h
  ·have:=Qj.mp k3 _ (mem_of_lookup h);simp at this
  ·have:=Qj.mp k3 _ (mem_of_lookup h);simp at this
 let x:Fx:=⟨ca,base,base,envOf name sc base.objs.size fa0 cd,[],j9.names⟩
 have SE:mX x sc j9.names:=by
  refine ⟨⟨rfl,eq_of_beq k1,rfl,rfl,λn e=>e,λn e=>absurd e (nocf n),λn hn=>(kn n hn).2⟩,by decide,λn hn=>.inl (kn n hn).1,λn n' c e=>?_⟩;cases e
 have S:aJ x s.heap [some (.nK (ns.map .int)),none,none,none,none,none,none,none,none,none,none,none,none,none,none] (λ_=>none) (λa=>if a=l then some o else none):=by
  refine ⟨λ_ _ h=>h,⟨m,F,λi v hi=>?_⟩,λa ob h=>(nomatch h),λa o' h=>?_,λn c e=>?_⟩
  ·match i,hi with
   | 0,hi=>
    cases hi;exact ⟨_,.ref l,rfl,.inl ⟨(kn _ (by decide)).1,hm⟩,.nK (Qk rfl) hc hdt (by rw [Qd];exact hlen) (cG.oP hI)⟩
   | i+1,hi=>
    exfalso
    have:(List.replicate 14 (none:Option V))[i]?=some (some v):=by
     unfold getL at hi;have hi:((List.replicate 14 (none:Option V))[i]?).join=some v:=hi
     cases q:(List.replicate 14 (none:Option V))[i]? with
     | none=>rw [q] at hi;cases hi
     | some u=>rw [q] at hi;cases hi;rfl
    rw [RO] at this
    split at this<;>cases this
  ·split at h
   ·cases h
    subst_vars
    exact ⟨F.keep _ _ ho,.inr ho⟩
   ·cases h
  ·cases e
 have hw:=Gq (is:=ns) (H:=λ_=>none) (Q:=λfl _ _=>fl=.ret (.bool true)) λ_ _=>rfl;rw [<- hb] at hw;unfold Call at hw;refine wpAny_mono (sound nz body (runs nz Z 20 A hA hd hu) SE rfl rfl S hw) (λf s' h=>?_) λ_ _ h=>h;obtain ⟨fl,ρ',H',T',hf,_,S',go,hq⟩:=h;subst hq
 cases hf with
 | ret hv=>
  cases hv;obtain ⟨m',F',_⟩:=S'.fr
  exact ⟨rfl,⟨m',F'⟩,go.1,go.2⟩) ((prog,w,K,base),(ca,fa,A,sc),(name,fa0,cd,l),(vs,ns,m,body),(s,E))
end
end Internal
end
section
open PySem PySem.W PyProof.Rows
set_option maxRecDepth 1000000
set_option maxHeartbeats 8000000
namespace InternalH
noncomputable def pg:Program:=PySem.Challenge.pw_nt0467_01
noncomputable def bN (n:Nat):Stmt:=pg.main.body.getD n (.Pass default)
noncomputable def I1 (n m:Nat):Stmt:=match bN n with
 | .ClassDef _ _ _ b _ _ _ _ _ _ _=>b.getD m (.Pass default)
 | s=>s
noncomputable abbrev so (s:String):Str:=Str.ofString s
noncomputable abbrev sv (s:String) (t:Nat):Value:=.str (Str.ofString s) t
noncomputable abbrev rf (a:Nat):Value:=.ref a
noncomputable abbrev en (s:String) (t:Nat) (v:Value) (P:Params):DictEntry:=⟨PyData.keyHash P (Str.ofString s),.str (Str.ofString s) t,v⟩
noncomputable def BR (s:Stmt) (q:Str) (g:Addr) (pm cd:Value):Data:=match s with
 | .FunctionDef n ps b _ _ _ sc _ _ _=>.func { name:=n,qualname:=q,params:=ps,body:=.stmts b,scope:=sc,globals:=g,closure:=[],defaults:=.none,kwdefaults:=.none,pyModule:=pm,code:=cd }
 | _=>.plain
noncomputable def Jy:Nat->List Str->List Value
 | _,[]=>[]
 | t,s::r=>.str s t::Jy (t+1) r
noncomputable def d7 (a t u line argc flags:Nat) (s:Stmt) (n q:Str) (g:Addr) (pm:Value) (vars cells:List Str) (more:List Obj):List Obj:=
 ⟨.type "tuple",none,.seq ⟨[]⟩ 0,⟨[]⟩⟩:: ⟨.none,none,.fields ⟨[]⟩,⟨[]⟩⟩:: ⟨.type "tuple",none,.seq ⟨Jy (t+3) vars⟩ 0,⟨[]⟩⟩:: ⟨.type "tuple",none,.seq ⟨Jy (t+3+vars.length) cells⟩ 0,⟨[]⟩⟩ ::
 ⟨.none,none,BR s q 0 .none .none,⟨[]⟩⟩ ::
 ⟨.type "code",none,.fields ⟨[.str n t,.str q (t+1),sv "/claim/cut.py" (t+2),.int line 0,.int argc 0,.int 0 0,.int 0 0,.int flags 0,rf a,.bool true,.int 181 0,rf (a+1),.none,rf (a+2),rf (a+3),rf (a+4),.int u 0,.int line 0,sv "/claim/cut.py" (u+1)]⟩,⟨[]⟩⟩ ::
 ⟨.type "function",none,BR s q g pm (rf (a+5)),⟨[]⟩⟩::more
noncomputable def dF (a t u line fl:Nat) (s:Stmt) (F:Internal.Fn) (g:Addr) (pm:Value) (more:List Obj):List Obj:=d7 a t u line F.np fl s F.BQ F.BQ g pm F.names [] more
noncomputable abbrev mS:Value:=sv "chess.kinds" 187
noncomputable abbrev lO:Value:=sv "chess.zobrist" 278
noncomputable abbrev iF:Value:=sv "chess.geometry" 416
noncomputable abbrev uv:Value:=sv "chess.bits" 577
noncomputable abbrev lN:Value:=sv "chess.position" 611
noncomputable abbrev iN:Value:=sv "chess.makemove" 717
noncomputable abbrev z8:Value:=sv "chess.lines" 851
noncomputable abbrev qd:Value:=sv "chess.sliders" 893
noncomputable abbrev iE:Value:=sv "chess.attacks" 960
noncomputable abbrev wi:Value:=sv "chess.castling" 1097
noncomputable abbrev qe:Value:=sv "chess.piecemoves" 1149
noncomputable abbrev fO:Value:=sv "chess.pawnmoves" 1190
noncomputable abbrev nD:Value:=sv "chess.evasions" 1328
noncomputable abbrev wj:Value:=sv "chess.legality" 1363
noncomputable abbrev nC:Value:=sv "chess.movegen" 1402
noncomputable abbrev gi:Value:=sv "law_nt0467_01" 1440
noncomputable def rest (P:Params):List Obj:=
 ⟨.type "code",none,.fields ⟨[sv "<module>" 182,sv "<module>" 183,sv "/claim/cut.py" 184,.int 1 0,.int 0 0,.int 0 0,.int 0 0,.int 0 0,rf 11,.bool false,.int 181 0,rf 12,.none,.none,.none,.none,.int 185 0,.int 1 0,sv "/claim/cut.py" 186]⟩,⟨[]⟩⟩ ::
 ⟨.type "frame",none,.plain,⟨[some (rf 13),some (rf 3),some (rf 3),none,some (sv "__main__" 164),none,some (rf 0)]⟩⟩ ::
 dF 15 217 222 16 3 (bN 15) Internal.F0 3 mS (
 dF 22 225 229 18 3 (bN 16) Internal.F1 3 mS (
 dF 29 232 236 20 3 (bN 17) Internal.F2 3 mS (
 dF 36 239 247 22 3 (bN 18) Internal.F3 3 mS (
 dF 43 250 254 27 3 (bN 19) Internal.F4 3 mS (
 dF 50 257 261 29 3 (bN 20) Internal.F5 3 mS (
 dF 57 264 268 31 3 (bN 21) Internal.F6 3 mS (
 dF 64 271 275 33 3 (bN 22) Internal.F7 3 mS (
 ⟨.type "tuple",none,.seq ⟨[]⟩ 0,⟨[]⟩⟩ ::
 ⟨.type "builtin_function_or_method",none,.fields ⟨[.builtin "type.__prepare__",.type "type"]⟩,⟨[]⟩⟩ ::
 ⟨.type "dict",none,.dict ⟨[en "__module__" 287 lO P,en "__qualname__" 289 (sv "Zobrist" 288) P,en "__firstlineno__" 291 (.int 38 290) P,en "__init__" 302 (rf 84) P,en "__static_attributes__" 307 (rf 85) P]⟩ 5,⟨[]⟩⟩ ::
 ⟨.type "tuple",none,.seq ⟨[]⟩ 0,⟨[]⟩⟩ ::
 ⟨.none,none,.fields ⟨[.int 40 0,.int 4 0,rf 83]⟩,⟨[]⟩⟩ ::
 ⟨.type "code",none,.fields ⟨[sv "Zobrist" 282,sv "Zobrist" 283,sv "/claim/cut.py" 284,.int 38 0,.int 0 0,.int 0 0,.int 0 0,.int 0 0,rf 74,.bool false,.int 181 0,rf 75,.none,.none,.none,.none,.int 285 0,.int 38 0,sv "/claim/cut.py" 286]⟩,⟨[]⟩⟩ ::
 ⟨.type "frame",none,.plain,⟨[some (rf 76),some (rf 3),some (rf 73),none,some lO,none,some (rf 0)]⟩⟩ ::
 d7 78 292 300 40 5 3 (I1 24 0) "__init__" "Zobrist.__init__" 3 lO ["self","pieces","ep","rights","side"] [] (
 ⟨.type "tuple",none,.seq ⟨[sv "ep" 303,sv "pieces" 304,sv "rights" 305,sv "side" 306]⟩ 0,⟨[]⟩⟩ ::
 ⟨.type "dict",none,.dict ⟨[en "__module__" 287 lO P,en "__firstlineno__" 291 (.int 38 290) P,en "__init__" 302 (rf 84) P,en "__static_attributes__" 307 (rf 85) P,en "__dict__" 309 (rf 88) P,en "__weakref__" 311 (rf 89) P,en "__doc__" 312 (.none) P]⟩ 4,⟨[]⟩⟩ ::
 ⟨.type "type",none,.cls { name:=so "Zobrist",bases:=[.type "object"],mro:=[rf 87,.type "object"],ns:=86,qualname:=so "Zobrist",hasDict:=true,slotNames:=[],subclasses:=[],abstract:=false,collection:=none,hasDel:=false },⟨[none,none,some (sv "Zobrist" 280),some (sv "Zobrist" 288),some (.builtin "object.__new__"),some (.bool true)]⟩⟩ ::
 ⟨.type "getset_descriptor",none,.fields ⟨[sv "__dict__" 308,rf 87,.builtin "function.__dict__",.builtin "function.__dict__#set"]⟩,⟨[]⟩⟩ ::
 ⟨.type "getset_descriptor",none,.fields ⟨[sv "__weakref__" 310,rf 87,.builtin "ExceptionGroup.__weakref__",.none]⟩,⟨[]⟩⟩ ::
 ⟨.type "super",none,.fields ⟨[rf 87,rf 87,rf 87]⟩,⟨[]⟩⟩ ::
 ⟨.type "builtin_function_or_method",none,.fields ⟨[.builtin "object.__init_subclass__",rf 87]⟩,⟨[]⟩⟩ ::
 dF 92 315 321 45 3 (bN 25) Internal.F8 3 lO (
 dF 99 324 332 53 3 (bN 26) Internal.F9 3 lO (
 dF 106 335 343 62 3 (bN 27) Internal.Ol 3 lO (
 dF 113 346 355 71 3 (bN 28) Internal.Oj 3 lO (
 dF 120 358 366 80 3 (bN 29) Internal.Oi 3 lO (
 ⟨.type "tuple",none,.seq ⟨[.type "Exception"]⟩ 0,⟨[]⟩⟩ ::
 ⟨.type "builtin_function_or_method",none,.fields ⟨[.builtin "type.__prepare__",.type "type"]⟩,⟨[]⟩⟩ ::
 ⟨.type "dict",none,.dict ⟨[en "__module__" 378 (sv "chess.errors" 369) P,en "__qualname__" 380 (sv "ChessError" 379) P,en "__firstlineno__" 382 (.int 90 381) P,en "__init__" 390 (rf 140) P,en "__static_attributes__" 392 (rf 141) P]⟩ 5,⟨[]⟩⟩ ::
 ⟨.type "tuple",none,.seq ⟨[]⟩ 0,⟨[]⟩⟩ ::
 ⟨.none,none,.fields ⟨[.int 92 0,.int 4 0,rf 139]⟩,⟨[]⟩⟩ ::
 ⟨.type "code",none,.fields ⟨[sv "ChessError" 373,sv "ChessError" 374,sv "/claim/cut.py" 375,.int 90 0,.int 0 0,.int 0 0,.int 0 0,.int 0 0,rf 130,.bool false,.int 181 0,rf 131,.none,.none,.none,.none,.int 376 0,.int 90 0,sv "/claim/cut.py" 377]⟩,⟨[]⟩⟩ ::
 ⟨.type "frame",none,.plain,⟨[some (rf 132),some (rf 3),some (rf 129),none,some (sv "chess.errors" 369),none,some (rf 0)]⟩⟩ ::
 d7 134 383 388 92 2 3 (I1 31 0) "__init__" "ChessError.__init__" 3 (sv "chess.errors" 369) ["self","text"] [] (
 ⟨.type "tuple",none,.seq ⟨[sv "text" 391]⟩ 0,⟨[]⟩⟩ ::
 ⟨.type "dict",none,.dict ⟨[en "__module__" 378 (sv "chess.errors" 369) P,en "__firstlineno__" 382 (.int 90 381) P,en "__init__" 390 (rf 140) P,en "__static_attributes__" 392 (rf 141) P,en "__weakref__" 394 (rf 144) P,en "__doc__" 395 (.none) P]⟩ 3,⟨[]⟩⟩ ::
 ⟨.type "type",none,.cls { name:=so "ChessError",bases:=[.type "Exception"],mro:=[rf 143,.type "Exception",.type "BaseException",.type "object"],ns:=142,qualname:=so "ChessError",hasDict:=true,slotNames:=[],subclasses:=[rf 156],abstract:=false,collection:=none,hasDel:=false },⟨[some (rf 127),none,some (sv "ChessError" 371),some (sv "ChessError" 379),some (.builtin "Exception.__new__"),some (.bool true)]⟩⟩ ::
 ⟨.type "getset_descriptor",none,.fields ⟨[sv "__weakref__" 393,rf 143,.builtin "ExceptionGroup.__weakref__",.none]⟩,⟨[]⟩⟩ ::
 ⟨.type "super",none,.fields ⟨[rf 143,rf 143,rf 143]⟩,⟨[]⟩⟩ ::
 ⟨.type "builtin_function_or_method",none,.fields ⟨[.builtin "object.__init_subclass__",rf 143]⟩,⟨[]⟩⟩ ::
 ⟨.type "tuple",none,.seq ⟨[rf 143]⟩ 0,⟨[]⟩⟩ ::
 ⟨.type "builtin_function_or_method",none,.fields ⟨[.builtin "type.__prepare__",.type "type"]⟩,⟨[]⟩⟩ ::
 ⟨.type "dict",none,.dict ⟨[en "__module__" 407 (sv "chess.errors" 369) P,en "__qualname__" 409 (sv "BadMove" 408) P,en "__firstlineno__" 411 (.int 95 410) P,en "__static_attributes__" 412 (rf 154) P]⟩ 4,⟨[]⟩⟩ ::
 ⟨.type "tuple",none,.seq ⟨[]⟩ 0,⟨[]⟩⟩ ::
 ⟨.none,none,.fields ⟨[]⟩,⟨[]⟩⟩ ::
 ⟨.type "code",none,.fields ⟨[sv "BadMove" 402,sv "BadMove" 403,sv "/claim/cut.py" 404,.int 95 0,.int 0 0,.int 0 0,.int 0 0,.int 0 0,rf 150,.bool false,.int 181 0,rf 151,.none,.none,.none,.none,.int 405 0,.int 95 0,sv "/claim/cut.py" 406]⟩,⟨[]⟩⟩ ::
 ⟨.type "frame",none,.plain,⟨[some (rf 152),some (rf 3),some (rf 149),none,some (sv "chess.errors" 369),none,some (rf 0)]⟩⟩ ::
 ⟨.type "tuple",none,.seq ⟨[]⟩ 0,⟨[]⟩⟩ ::
 ⟨.type "dict",none,.dict ⟨[en "__module__" 407 (sv "chess.errors" 369) P,en "__firstlineno__" 411 (.int 95 410) P,en "__static_attributes__" 412 (rf 154) P,en "__doc__" 413 (.none) P]⟩ 2,⟨[]⟩⟩ ::
 ⟨.type "type",none,.cls { name:=so "BadMove",bases:=[rf 143],mro:=[rf 156,rf 143,.type "Exception",.type "BaseException",.type "object"],ns:=155,qualname:=so "BadMove",hasDict:=true,slotNames:=[],subclasses:=[],abstract:=false,collection:=none,hasDel:=false },⟨[some (rf 147),none,some (sv "BadMove" 400),some (sv "BadMove" 408),some (.builtin "Exception.__new__"),some (.bool true)]⟩⟩ ::
 ⟨.type "super",none,.fields ⟨[rf 156,rf 156,rf 156]⟩,⟨[]⟩⟩ ::
 ⟨.type "builtin_function_or_method",none,.fields ⟨[.builtin "object.__init_subclass__",rf 156]⟩,⟨[]⟩⟩ ::
 ⟨.type "tuple",none,.seq ⟨[.int 0 418,.int 1 419,.int 0 420,.int (-1) 422,.int 1 423,.int 1 424,.int (-1) 426,.int (-1) 428]⟩ 0,⟨[]⟩⟩ ::
 ⟨.type "tuple",none,.seq ⟨[.int 1 430,.int 0 431,.int (-1) 433,.int 0 434,.int 1 435,.int (-1) 437,.int (-1) 439,.int 1 440]⟩ 0,⟨[]⟩⟩ ::
 ⟨.type "tuple",none,.seq ⟨[]⟩ 0,⟨[]⟩⟩ ::
 ⟨.type "builtin_function_or_method",none,.fields ⟨[.builtin "type.__prepare__",.type "type"]⟩,⟨[]⟩⟩ ::
 ⟨.type "dict",none,.dict ⟨[en "__module__" 449 iF P,en "__qualname__" 451 (sv "Geometry" 450) P,en "__firstlineno__" 453 (.int 100 452) P,en "__init__" 464 (rf 174) P,en "__static_attributes__" 479 (rf 175) P]⟩ 5,⟨[]⟩⟩ ::
 ⟨.type "tuple",none,.seq ⟨[]⟩ 0,⟨[]⟩⟩ ::
 ⟨.none,none,.fields ⟨[.int 102 0,.int 4 0,rf 173]⟩,⟨[]⟩⟩ ::
 ⟨.type "code",none,.fields ⟨[sv "Geometry" 444,sv "Geometry" 445,sv "/claim/cut.py" 446,.int 100 0,.int 0 0,.int 0 0,.int 0 0,.int 0 0,rf 164,.bool false,.int 181 0,rf 165,.none,.none,.none,.none,.int 447 0,.int 100 0,sv "/claim/cut.py" 448]⟩,⟨[]⟩⟩ ::
 ⟨.type "frame",none,.plain,⟨[some (rf 166),some (rf 3),some (rf 163),none,some iF,none,some (rf 0)]⟩⟩ ::
 d7 168 454 462 102 5 3 (I1 36 0) "__init__" "Geometry.__init__" 3 iF ["self","files","ranks","has_double","has_castling"] [] (
 ⟨.type "tuple",none,.seq ⟨[sv "castles" 465,sv "file_masks" 466,sv "files" 467,sv "full" 468,sv "has_castling" 469,sv "has_double" 470,sv "king" 471,sv "knight" 472,sv "pawn" 473,sv "rank_masks" 474,sv "ranks" 475,sv "rays" 476,sv "rights_lost" 477,sv "size" 478]⟩ 0,⟨[]⟩⟩ ::
 ⟨.type "dict",none,.dict ⟨[en "__module__" 449 iF P,en "__firstlineno__" 453 (.int 100 452) P,en "__init__" 464 (rf 174) P,en "__static_attributes__" 479 (rf 175) P,en "__dict__" 481 (rf 178) P,en "__weakref__" 483 (rf 179) P,en "__doc__" 484 (.none) P]⟩ 4,⟨[]⟩⟩ ::
 ⟨.type "type",none,.cls { name:=so "Geometry",bases:=[.type "object"],mro:=[rf 177,.type "object"],ns:=176,qualname:=so "Geometry",hasDict:=true,slotNames:=[],subclasses:=[],abstract:=false,collection:=none,hasDel:=false },⟨[none,none,some (sv "Geometry" 442),some (sv "Geometry" 450),some (.builtin "object.__new__"),some (.bool true)]⟩⟩ ::
 ⟨.type "getset_descriptor",none,.fields ⟨[sv "__dict__" 480,rf 177,.builtin "function.__dict__",.builtin "function.__dict__#set"]⟩,⟨[]⟩⟩ ::
 ⟨.type "getset_descriptor",none,.fields ⟨[sv "__weakref__" 482,rf 177,.builtin "ExceptionGroup.__weakref__",.none]⟩,⟨[]⟩⟩ ::
 ⟨.type "super",none,.fields ⟨[rf 177,rf 177,rf 177]⟩,⟨[]⟩⟩ ::
 ⟨.type "builtin_function_or_method",none,.fields ⟨[.builtin "object.__init_subclass__",rf 177]⟩,⟨[]⟩⟩ ::
 dF 182 487 491 117 3 (bN 37) Internal.Oh 3 iF (
 dF 189 494 502 119 3 (bN 38) Internal.Og 3 iF (
 dF 196 505 511 127 3 (bN 39) Internal.Of 3 iF (
 dF 203 514 525 138 3 (bN 40) Internal.Oe 3 iF (
 dF 210 528 533 153 3 (bN 41) Internal.Od 3 iF (
 dF 217 536 550 157 3 (bN 42) Internal.Oc 3 iF (
 dF 224 553 563 169 3 (bN 43) Internal.Oa 3 iF (
 dF 231 566 574 186 3 (bN 44) Internal.N9 3 iF (
 dF 238 579 583 197 3 (bN 46) Internal.N8 3 uv (
 dF 245 586 592 199 3 (bN 47) Internal.N7 3 uv (
 dF 252 595 599 212 3 (bN 48) Internal.N6 3 uv (
 dF 259 602 608 214 3 (bN 49) Internal.N5 3 uv (
 ⟨.type "tuple",none,.seq ⟨[]⟩ 0,⟨[]⟩⟩ ::
 ⟨.type "builtin_function_or_method",none,.fields ⟨[.builtin "type.__prepare__",.type "type"]⟩,⟨[]⟩⟩ ::
 ⟨.type "dict",none,.dict ⟨[en "__module__" 620 lN P,en "__qualname__" 622 (sv "Position" 621) P,en "__firstlineno__" 624 (.int 227 623) P,en "__init__" 633 (rf 279) P,en "__static_attributes__" 646 (rf 280) P]⟩ 5,⟨[]⟩⟩ ::
 ⟨.type "tuple",none,.seq ⟨[]⟩ 0,⟨[]⟩⟩ ::
 ⟨.none,none,.fields ⟨[.int 229 0,.int 4 0,rf 278]⟩,⟨[]⟩⟩ ::
 ⟨.type "code",none,.fields ⟨[sv "Position" 615,sv "Position" 616,sv "/claim/cut.py" 617,.int 227 0,.int 0 0,.int 0 0,.int 0 0,.int 0 0,rf 269,.bool false,.int 181 0,rf 270,.none,.none,.none,.none,.int 618 0,.int 227 0,sv "/claim/cut.py" 619]⟩,⟨[]⟩⟩ ::
 ⟨.type "frame",none,.plain,⟨[some (rf 271),some (rf 3),some (rf 268),none,some lN,none,some (rf 0)]⟩⟩ ::
 d7 273 625 631 229 3 3 (I1 51 0) "__init__" "Position.__init__" 3 lN ["self","geo","zob"] [] (
 ⟨.type "tuple",none,.seq ⟨[sv "board" 634,sv "ep" 635,sv "full" 636,sv "geo" 637,sv "half" 638,sv "history" 639,sv "key" 640,sv "kinds" 641,sv "rights" 642,sv "side" 643,sv "sides" 644,sv "zob" 645]⟩ 0,⟨[]⟩⟩ ::
 ⟨.type "dict",none,.dict ⟨[en "__module__" 620 lN P,en "__firstlineno__" 624 (.int 227 623) P,en "__init__" 633 (rf 279) P,en "__static_attributes__" 646 (rf 280) P,en "__dict__" 648 (rf 283) P,en "__weakref__" 650 (rf 284) P,en "__doc__" 651 (.none) P]⟩ 4,⟨[]⟩⟩ ::
 ⟨.type "type",none,.cls { name:=so "Position",bases:=[.type "object"],mro:=[rf 282,.type "object"],ns:=281,qualname:=so "Position",hasDict:=true,slotNames:=[],subclasses:=[],abstract:=false,collection:=none,hasDel:=false },⟨[none,none,some (sv "Position" 613),some (sv "Position" 621),some (.builtin "object.__new__"),some (.bool true)]⟩⟩ ::
 ⟨.type "getset_descriptor",none,.fields ⟨[sv "__dict__" 647,rf 282,.builtin "function.__dict__",.builtin "function.__dict__#set"]⟩,⟨[]⟩⟩ ::
 ⟨.type "getset_descriptor",none,.fields ⟨[sv "__weakref__" 649,rf 282,.builtin "ExceptionGroup.__weakref__",.none]⟩,⟨[]⟩⟩ ::
 ⟨.type "super",none,.fields ⟨[rf 282,rf 282,rf 282]⟩,⟨[]⟩⟩ ::
 ⟨.type "builtin_function_or_method",none,.fields ⟨[.builtin "object.__init_subclass__",rf 282]⟩,⟨[]⟩⟩ ::
 dF 287 654 661 242 3 (bN 52) Internal.N4 3 lN (
 dF 294 664 671 248 3 (bN 53) Internal.N3 3 lN (
 dF 301 674 683 256 3 (bN 54) Internal.N2 3 lN (
 dF 308 686 690 265 3 (bN 55) Internal.N0 3 lN (
 dF 315 693 699 267 3 (bN 56) Internal.NZ 3 lN (
 dF 322 702 707 269 3 (bN 57) Internal.NY 3 lN (
 dF 329 710 714 271 3 (bN 58) Internal.NX 3 lN (
 dF 336 719 726 274 3 (bN 60) Internal.NW 3 iN (
 d7 343 729 735 282 2 3 (bN 61) "taken_square" "taken_square" 3 iN ["pos","move","goal"] [] (
 dF 350 739 747 290 3 (bN 63) Internal.NV 3 iN (
 dF 357 750 760 296 3 (bN 64) Internal.NU 3 iN (
 dF 364 763 770 305 3 (bN 65) Internal.NT 3 iN (
 dF 371 773 777 308 3 (bN 66) Internal.NS 3 iN (
 dF 378 780 785 312 3 (bN 67) Internal.NR 3 iN (
 dF 385 788 793 316 3 (bN 68) Internal.NQ 3 iN (
 dF 392 796 809 320 3 (bN 69) Internal.Je 3 iN (
 dF 399 812 827 352 3 (bN 70) Internal.L7 3 iN (
 dF 406 830 848 377 3 (bN 71) Internal.L6 3 iN (
 dF 413 853 860 405 3 (bN 73) Internal.NP 3 z8 (
 dF 420 863 870 410 3 (bN 74) Internal.NO 3 z8 (
 dF 427 873 880 415 3 (bN 75) Internal.NN 3 z8 (
 dF 434 883 890 420 3 (bN 76) Internal.NM 3 z8 (
 dF 441 895 905 423 3 (bN 78) Internal.NL 3 qd (
 dF 448 908 916 438 3 (bN 79) Internal.NK 3 qd (
 dF 455 919 927 443 3 (bN 80) Internal.NJ 3 qd (
 dF 462 930 936 448 3 (bN 81) Internal.NI 3 qd (
 dF 469 939 946 450 3 (bN 82) Internal.NH 3 qd (
 dF 476 949 957 458 3 (bN 83) Internal.NG 3 qd (
 dF 483 962 966 467 3 (bN 85) Internal.NF 3 iE (
 dF 490 969 973 469 3 (bN 86) Internal.ND 3 iE (
 dF 497 976 982 471 3 (bN 87) Internal.NC 3 iE (
 dF 504 985 993 473 3 (bN 88) Internal.NB 3 iE (
 dF 511 996 1005 478 3 (bN 89) Internal.NA 3 iE (
 dF 518 1008 1015 487 3 (bN 90) Internal.Nz 3 iE (
 dF 525 1018 1029 490 3 (bN 91) Internal.Ny 3 iE (
 dF 532 1032 1038 500 3 (bN 92) Internal.Nx 3 iE (
 dF 539 1041 1045 503 3 (bN 93) Internal.Nw 3 iE (
 dF 546 1048 1054 505 3 (bN 94) Internal.Nv 3 iE (
 dF 553 1057 1061 508 3 (bN 95) Internal.Nu 3 iE (
 dF 560 1064 1071 510 3 (bN 96) Internal.Nt 3 iE (
 dF 567 1074 1086 515 3 (bN 97) Internal.Nr 3 iE (
 dF 574 1089 1094 528 3 (bN 98) Internal.Nq 3 iE (
 dF 581 1113 1118 538 3 (bN 107) Internal.Np 3 wi (
 dF 588 1121 1133 542 3 (bN 108) Internal.Nn 3 wi (
 dF 595 1136 1146 560 3 (bN 109) Internal.Nm 3 wi (
 dF 602 1159 1166 570 3 (bN 115) Internal.Nl 3 qe (
 dF 609 1169 1179 573 3 (bN 116) Internal.Nk 3 qe (
 dF 616 1182 1187 578 3 (bN 117) Internal.Nj 3 qe (
 dF 623 1192 1197 585 3 (bN 119) Internal.Ni 3 fO (
 dF 630 1200 1205 589 3 (bN 120) Internal.Nh 3 fO (
 dF 637 1208 1213 593 3 (bN 121) Internal.Ng 3 fO (
 dF 644 1216 1222 597 3 (bN 122) Internal.Nf 3 fO (
 dF 651 1225 1232 601 3 (bN 123) Internal.Nc 3 fO (
 dF 658 1235 1246 605 3 (bN 124) Internal.Nb 3 fO (
 dF 665 1249 1259 615 3 (bN 125) Internal.M9 3 fO (
 dF 672 1262 1273 627 3 (bN 126) Internal.M8 3 fO (
 dF 679 1276 1287 635 3 (bN 127) Internal.M7 3 fO (
 dF 686 1290 1305 641 3 (bN 128) Internal.M6 3 fO (
 dF 693 1308 1315 654 3 (bN 129) Internal.M5 3 fO (
 dF 700 1318 1325 660 3 (bN 130) Internal.M4 3 fO (
 dF 707 1330 1335 667 3 (bN 132) Internal.M3 3 nD (
 dF 714 1338 1342 671 3 (bN 133) Internal.M0 3 nD (
 dF 721 1345 1350 675 3 (bN 134) Internal.MZ 3 nD (
 dF 728 1353 1360 679 3 (bN 135) Internal.MY 3 nD (
 d7 735 1365 1371 689 2 3 (bN 137) "taken_square" "taken_square" 3 wj ["pos","move","goal"] [] (
 dF 742 1375 1385 697 3 (bN 139) Internal.MX 3 wj (
 dF 749 1388 1399 704 3 (bN 140) Internal.MW 3 wj (
 dF 756 1404 1412 720 3 (bN 142) Internal.MV 3 nC (
 dF 763 1415 1419 734 3 (bN 143) Internal.MU 3 nC (
 dF 770 1422 1430 738 3 (bN 144) Internal.MT 3 nC (
 dF 777 1433 1437 745 3 (bN 145) Internal.MS 3 nC (
 d7 784 1442 1445 748 0 3 (bN 147) "_law_shapes" "_law_shapes" 3 gi [] [] (
 dF 791 1448 1453 750 3 (bN 148) Internal.MR 3 gi (
 dF 798 1456 1469 752 3 (bN 149) Internal.Jd 3 gi (
 dF 805 1472 1479 774 3 (bN 150) Internal.L5 3 gi (
 dF 812 1482 1492 778 3 (bN 151) Internal.IQ 3 gi (
 dF 819 1495 1510 786 3 (bN 152) Internal.IK 3 gi (
 dF 826 1513 1530 807 3 (bN 153) Internal.IJ 3 gi (
 dF 833 1533 1552 823 3 (bN 154) Internal.II 3 gi (
 ⟨.type "tuple",none,.seq ⟨[]⟩ 0,⟨[]⟩⟩ ::
 ⟨.none,none,.fields ⟨[]⟩,⟨[]⟩⟩ ::
 ⟨.none,none,BR (bN 155) "_law_sum" 0 (.none) (.none),⟨[]⟩⟩ ::
 ⟨.type "code",none,.fields ⟨[sv "_law_sum" 1555,sv "_law_sum" 1556,sv "/claim/cut.py" 1557,.int 852 0,.int 2 0,.int 0 0,.int 0 0,.int 3 0,rf 840,.bool true,.int 181 0,rf 841,.none,.none,.none,rf 842,.int 1558 0,.int 852 0,sv "/claim/cut.py" 1559]⟩,⟨[]⟩⟩ ::
 ⟨.type "function",none,BR (bN 155) "_law_sum" 3 gi (rf 843),⟨[]⟩⟩ ::
 ⟨.type "tuple",none,.seq ⟨[]⟩ 0,⟨[]⟩⟩ ::
 ⟨.none,none,.fields ⟨[]⟩,⟨[]⟩⟩ ::
 ⟨.none,none,BR (bN 156) "_law_agrees" 0 (.none) (.none),⟨[]⟩⟩ ::
 ⟨.type "code",none,.fields ⟨[sv "_law_agrees" 1561,sv "_law_agrees" 1562,sv "/claim/cut.py" 1563,.int 861 0,.int 3 0,.int 0 0,.int 0 0,.int 3 0,rf 845,.bool true,.int 181 0,rf 846,.none,.none,.none,rf 847,.int 1564 0,.int 861 0,sv "/claim/cut.py" 1565]⟩,⟨[]⟩⟩ ::
 ⟨.type "function",none,BR (bN 156) "_law_agrees" 3 gi (rf 848),⟨[]⟩⟩ ::
 ⟨.type "tuple",none,.seq ⟨[]⟩ 0,⟨[]⟩⟩ ::
 ⟨.none,none,.fields ⟨[]⟩,⟨[]⟩⟩ ::
 ⟨.none,none,BR (bN 157) "_law_position" 0 (.none) (.none),⟨[]⟩⟩ ::
 ⟨.type "code",none,.fields ⟨[sv "_law_position" 1567,sv "_law_position" 1568,sv "/claim/cut.py" 1569,.int 874 0,.int 3 0,.int 0 0,.int 0 0,.int 3 0,rf 850,.bool true,.int 181 0,rf 851,.none,.none,.none,rf 852,.int 1570 0,.int 874 0,sv "/claim/cut.py" 1571]⟩,⟨[]⟩⟩ ::
 ⟨.type "function",none,BR (bN 157) "_law_position" 3 gi (rf 853),⟨[]⟩⟩ ::
 dF 855 1573 1591 888 3 (bN 158) Internal.j9 3 gi (
 [])))))))))))))))))))))))))))))))))))))))))))))))))))))))))))))))))))))))))))))))))))))))))))))))))))))))))))))
noncomputable def ents (ts:Addr) (P:Params):List DictEntry:=[
 en "__doc__" 166 (.none) P,
 en "__package__" 167 (.none) P,
 en "__loader__" 168 (.builtin "__main__.__loader__#opaque") P,
 en "__spec__" 169 (.none) P,
 en "__annotations__" 170 (rf 6) P,
 en "__builtins__" 171 (rf 4) P,
 en "__file__" 173 (sv "/claim/cut.py" 172) P,
 en "__cached__" 174 (.none) P,
 en "WHITE" 190 (.int 0 189) P,
 en "BLACK" 192 (.int 1 191) P,
 en "NO_KIND" 194 (.int 0 193) P,
 en "PAWN" 196 (.int 1 195) P,
 en "KNIGHT" 198 (.int 2 197) P,
 en "BISHOP" 200 (.int 3 199) P,
 en "ROOK" 202 (.int 4 201) P,
 en "QUEEN" 204 (.int 5 203) P,
 en "KING" 206 (.int 6 205) P,
 en "EMPTY" 208 (.int 0 207) P,
 en "NORMAL" 210 (.int 0 209) P,
 en "PROMOTION" 212 (.int 1 211) P,
 en "EN_PASSANT" 214 (.int 2 213) P,
 en "CASTLING" 216 (.int 3 215) P,
 en "make_piece" 224 (rf 21) P,
 en "side_of" 231 (rf 28) P,
 en "kind_of" 238 (rf 35) P,
 en "pack_move" 249 (rf 42) P,
 en "move_from" 256 (rf 49) P,
 en "move_to" 263 (rf 56) P,
 en "move_special" 270 (rf 63) P,
 en "move_promo" 277 (rf 70) P,
 en "Zobrist" 314 (rf 87) P,
 en "state_key" 323 (rf 98) P,
 en "full_key" 334 (rf 105) P,
 en "pawn_key" 345 (rf 112) P,
 en "non_pawn_key" 357 (rf 119) P,
 en "material_key" 368 (rf 126) P,
 en "ChessError" 399 (rf 143) P,
 en "BadMove" 415 (rf 156) P,
 en "STEP_FILES" 429 (rf 159) P,
 en "STEP_RANKS" 441 (rf 160) P,
 en "Geometry" 486 (rf 177) P,
 en "is_growing" 493 (rf 188) P,
 en "add_masks" 504 (rf 195) P,
 en "inner_squares" 513 (rf 202) P,
 en "add_rays" 527 (rf 209) P,
 en "add_pawns" 535 (rf 216) P,
 en "add_knights" 552 (rf 223) P,
 en "add_castles" 565 (rf 230) P,
 en "make_geometry" 576 (rf 237) P,
 en "more_than_one" 585 (rf 244) P,
 en "highest" 594 (rf 251) P,
 en "lowest" 601 (rf 258) P,
 en "squares_of" 610 (rf 265) P,
 en "Position" 653 (rf 282) P,
 en "put_piece" 663 (rf 293) P,
 en "take_piece" 673 (rf 300) P,
 en "shift_piece" 685 (rf 307) P,
 en "occupied" 692 (rf 314) P,
 en "pieces" 701 (rf 321) P,
 en "king_square" 709 (rf 328) P,
 en "settle_key" 716 (rf 335) P,
 en "moved_piece" 728 (rf 342) P,
 en "taken_square" 737 (rf ts) P,
 en "taken_square_makemove" 738 (rf 349) P,
 en "rook_step" 749 (rf 356) P,
 en "passed_square" 762 (rf 363) P,
 en "kept_rights" 772 (rf 370) P,
 en "clear_ep_key" 779 (rf 377) P,
 en "set_ep_key" 787 (rf 384) P,
 en "set_rights_key" 795 (rf 391) P,
 en "do_move" 811 (rf 398) P,
 en "undo_move" 829 (rf 405) P,
 en "key_after" 850 (rf 412) P,
 en "direction" 862 (rf 419) P,
 en "between" 872 (rf 426) P,
 en "line" 882 (rf 433) P,
 en "aligned" 892 (rf 440) P,
 en "ray_attacks" 907 (rf 447) P,
 en "rook_attacks" 918 (rf 454) P,
 en "bishop_attacks" 929 (rf 461) P,
 en "queen_attacks" 938 (rf 468) P,
 en "slider_attacks" 948 (rf 475) P,
 en "piece_attacks" 959 (rf 482) P,
 en "straight_sliders" 968 (rf 489) P,
 en "slanting_sliders" 975 (rf 496) P,
 en "pawn_attackers" 984 (rf 503) P,
 en "step_attackers" 995 (rf 510) P,
 en "line_attackers" 1007 (rf 517) P,
 en "attackers_to" 1017 (rf 524) P,
 en "is_attacked" 1031 (rf 531) P,
 en "checkers_of" 1040 (rf 538) P,
 en "checkers" 1047 (rf 545) P,
 en "in_check_of" 1056 (rf 552) P,
 en "in_check" 1063 (rf 559) P,
 en "snipers_of" 1073 (rf 566) P,
 en "blockers" 1088 (rf 573) P,
 en "pinned_pieces" 1096 (rf 580) P,
 en "MAY" 1100 (.int 0 1099) P,
 en "NO_WING" 1102 (.int 1 1101) P,
 en "RIGHT_LOST" 1104 (.int 2 1103) P,
 en "NOT_FREE" 1106 (.int 3 1105) P,
 en "IN_CHECK" 1108 (.int 4 1107) P,
 en "PASSES_ATTACK" 1110 (.int 5 1109) P,
 en "GOAL_ATTACKED" 1112 (.int 6 1111) P,
 en "squares_within" 1120 (rf 587) P,
 en "castle_refusal" 1135 (rf 594) P,
 en "add_castling" 1148 (rf 601) P,
 en "CAPTURES" 1152 (.int 0 1151) P,
 en "QUIETS" 1154 (.int 1 1153) P,
 en "NON_EVASIONS" 1156 (.int 2 1155) P,
 en "EVASIONS" 1158 (.int 3 1157) P,
 en "add_goals" 1168 (rf 608) P,
 en "add_piece_moves" 1181 (rf 615) P,
 en "stage_target" 1189 (rf 622) P,
 en "push_step" 1199 (rf 629) P,
 en "start_mask" 1207 (rf 636) P,
 en "last_mask" 1215 (rf 643) P,
 en "shift_push" 1224 (rf 650) P,
 en "shift_capture" 1234 (rf 657) P,
 en "push_targets" 1248 (rf 664) P,
 en "add_promotions" 1261 (rf 671) P,
 en "add_plain_pushes" 1275 (rf 678) P,
 en "add_push_promotions" 1289 (rf 685) P,
 en "add_pawn_captures" 1307 (rf 692) P,
 en "add_pawn_moves" 1317 (rf 699) P,
 en "add_en_passant" 1327 (rf 706) P,
 en "evasion_targets" 1337 (rf 713) P,
 en "passed_pawn_square" 1344 (rf 720) P,
 en "may_answer_en_passant" 1352 (rf 727) P,
 en "add_evasions" 1362 (rf 734) P,
 en "taken_square_legality" 1374 (rf 741) P,
 en "is_safe_en_passant" 1387 (rf 748) P,
 en "is_legal" 1401 (rf 755) P,
 en "generate" 1414 (rf 762) P,
 en "pseudo_moves" 1421 (rf 769) P,
 en "keep_legal" 1432 (rf 776) P,
 en "legal_moves" 1439 (rf 783) P,
 en "_law_shapes" 1447 (rf 790) P,
 en "_law_at" 1455 (rf 797) P,
 en "_law_hits" 1471 (rf 804) P,
 en "_law_beside" 1481 (rf 811) P,
 en "_law_passed" 1494 (rf 818) P,
 en "_law_kings" 1512 (rf 825) P,
 en "_law_draw" 1532 (rf 832) P,
 en "_law_play" 1554 (rf 839) P,
 en "_law_sum" 1560 (rf 844) P,
 en "_law_agrees" 1566 (rf 849) P,
 en "_law_position" 1572 (rf 854) P,
 en "law" 1593 (rf 861) P]
noncomputable def FX:List Value:=[.int 16 0,.int 0 0,rf 20,.int 18 0,.int 0 0,rf 27,.int 20 0,.int 0 0,rf 34,.int 22 0,.int 0 0,rf 41,.int 27 0,.int 0 0,rf 48,.int 29 0,.int 0 0,rf 55,.int 31 0,.int 0 0,rf 62,.int 33 0,.int 0 0,rf 69,.int 38 0,.int 0 0,rf 76,.int 45 0,.int 0 0,rf 97,.int 53 0,.int 0 0,rf 104,.int 62 0,.int 0 0,rf 111,.int 71 0,.int 0 0,rf 118,.int 80 0,.int 0 0,rf 125,.int 90 0,.int 0 0,rf 132,.int 95 0,.int 0 0,rf 152,.int 100 0,.int 0 0,rf 166,.int 117 0,.int 0 0,rf 187,.int 119 0,.int 0 0,rf 194,.int 127 0,.int 0 0,rf 201,.int 138 0,.int 0 0,rf 208,.int 153 0,.int 0 0,rf 215,.int 157 0,.int 0 0,rf 222,.int 169 0,.int 0 0,rf 229,.int 186 0,.int 0 0,rf 236,.int 197 0,.int 0 0,rf 243,.int 199 0,.int 0 0,rf 250,.int 212 0,.int 0 0,rf 257,.int 214 0,.int 0 0,rf 264,.int 227 0,.int 0 0,rf 271,.int 242 0,.int 0 0,rf 292,.int 248 0,.int 0 0,rf 299,.int 256 0,.int 0 0,rf 306,.int 265 0,.int 0 0,rf 313,.int 267 0,.int 0 0,rf 320,.int 269 0,.int 0 0,rf 327,.int 271 0,.int 0 0,rf 334,.int 274 0,.int 0 0,rf 341,.int 282 0,.int 0 0,rf 348,.int 290 0,.int 0 0,rf 355,.int 296 0,.int 0 0,rf 362,.int 305 0,.int 0 0,rf 369,.int 308 0,.int 0 0,rf 376,.int 312 0,.int 0 0,rf 383,.int 316 0,.int 0 0,rf 390,.int 320 0,.int 0 0,rf 397,.int 352 0,.int 0 0,rf 404,.int 377 0,.int 0 0,rf 411,.int 405 0,.int 0 0,rf 418,.int 410 0,.int 0 0,rf 425,.int 415 0,.int 0 0,rf 432,.int 420 0,.int 0 0,rf 439,.int 423 0,.int 0 0,rf 446,.int 438 0,.int 0 0,rf 453,.int 443 0,.int 0 0,rf 460,.int 448 0,.int 0 0,rf 467,.int 450 0,.int 0 0,rf 474,.int 458 0,.int 0 0,rf 481,.int 467 0,.int 0 0,rf 488,.int 469 0,.int 0 0,rf 495,.int 471 0,.int 0 0,rf 502,.int 473 0,.int 0 0,rf 509,.int 478 0,.int 0 0,rf 516,.int 487 0,.int 0 0,rf 523,.int 490 0,.int 0 0,rf 530,.int 500 0,.int 0 0,rf 537,.int 503 0,.int 0 0,rf 544,.int 505 0,.int 0 0,rf 551,.int 508 0,.int 0 0,rf 558,.int 510 0,.int 0 0,rf 565,.int 515 0,.int 0 0,rf 572,.int 528 0,.int 0 0,rf 579,.int 538 0,.int 0 0,rf 586,.int 542 0,.int 0 0,rf 593,.int 560 0,.int 0 0,rf 600,.int 570 0,.int 0 0,rf 607,.int 573 0,.int 0 0,rf 614,.int 578 0,.int 0 0,rf 621,.int 585 0,.int 0 0,rf 628,.int 589 0,.int 0 0,rf 635,.int 593 0,.int 0 0,rf 642,.int 597 0,.int 0 0,rf 649,.int 601 0,.int 0 0,rf 656,.int 605 0,.int 0 0,rf 663,.int 615 0,.int 0 0,rf 670,.int 627 0,.int 0 0,rf 677,.int 635 0,.int 0 0,rf 684,.int 641 0,.int 0 0,rf 691,.int 654 0,.int 0 0,rf 698,.int 660 0,.int 0 0,rf 705,.int 667 0,.int 0 0,rf 712,.int 671 0,.int 0 0,rf 719,.int 675 0,.int 0 0,rf 726,.int 679 0,.int 0 0,rf 733,.int 689 0,.int 0 0,rf 740,.int 697 0,.int 0 0,rf 747,.int 704 0,.int 0 0,rf 754,.int 720 0,.int 0 0,rf 761,.int 734 0,.int 0 0,rf 768,.int 738 0,.int 0 0,rf 775,.int 745 0,.int 0 0,rf 782,.int 748 0,.int 0 0,rf 789,.int 750 0,.int 0 0,rf 796,.int 752 0,.int 0 0,rf 803,.int 774 0,.int 0 0,rf 810,.int 778 0,.int 0 0,rf 817,.int 786 0,.int 0 0,rf 824,.int 807 0,.int 0 0,rf 831,.int 823 0,.int 0 0,rf 838,.int 852 0,.int 0 0,rf 843,.int 861 0,.int 0 0,rf 848,.int 874 0,.int 0 0,rf 853,.int 888 0,.int 0 0,rf 860]
noncomputable def statics (P:Params):Bool->Obj
 | true=>⟨.none,none,.dict ⟨[en "type.__subclasses__.Exception.0" 396 (.int 143 0) P,en "type.__subclasses__.Exception.n" 397 (.int 1 0) P]⟩ 2,⟨[]⟩⟩
 | false=>boot_o_2 P
noncomputable def br (P:Params) (st:Bool) (e0:Value) (ts:Addr) (k3 k12 n:Nat):Heap:=
 Heap.mk ⟨boot_o_0 P::boot_o_1 P::statics P st:: ⟨.type "dict",none,.dict ⟨en "__name__" 165 e0 P:: (ents ts P).take (k3-1)⟩ k3,⟨[]⟩⟩ ::
  boot_o_4 P::boot_o_5 P::boot_o_6 P::boot_o_7 P::boot_o_8 P::boot_o_9 P::boot_o_10 P:: ⟨.type "tuple",none,.seq ⟨[]⟩ 0,⟨[]⟩⟩:: ⟨.none,none,.fields ⟨FX.take k12⟩,⟨[]⟩⟩:: (rest P).take (n-13)⟩ {}
noncomputable def uO:Env:={ scope:=pg.main.scope,locals:=mainNs,globals:=mainNs,cells:=[],code:=.ref 13,frame:=some 14 }
noncomputable def cE:Code:=.body (behindTheImports pg) uO
noncomputable abbrev p0:Pos:=⟨0,0,0,0⟩
noncomputable abbrev BB:List Frame:=[topFrame p0]
noncomputable def HL (P:Params):Heap:=br P true gi 741 150 339 862
theorem pre (w:World):(λos=>topGo treeTable pg w 11 (some (.ref 6)) 12 ⟨boot_heap w.params,⟨[]⟩,boot_drawn,boot_toks,os⟩ (topStub pg))=λos=>some (⟨br w.params false (sv "__main__" 164) 741 9 0 15,⟨[]⟩,{},187,os⟩,⟨denote treeTable cE,cE,p0,BB⟩):=by
 rw [PySem.W.Fast.te15667345088766844465,PySem.W.Fast.te14364793385576792824,PySem.W.Fast.te11892475500146522536];kernel_rfl
theorem PI (w:World):(λos=>segRun treeTable pg w 11 (some (.ref 6)) 1 1 ⟨br w.params false (sv "__main__" 164) 741 9 0 15,⟨[]⟩,{},187,os⟩ (blockOf (behindTheImports pg) uO cE p0 BB))=λos=>some (.next,⟨br w.params false (sv "__main__" 164) 741 9 0 15,⟨[]⟩,{},187,os⟩,cE,p0):=by
 rw [PySem.W.Fast.te14374325043358763698,PySem.W.Fast.te14364793385576792824];kernel_rfl
def Pc (w:World) (n:Nat) (h:Heap) (k:Nat) (l:List Stmt) (p:Pos) (h':Heap) (k':Nat) (p':Pos):Prop:=(λos=>segRun treeTable pg w 11 (some (.ref 6)) 1 n ⟨h,⟨[]⟩,{},k,os⟩ (piecesOf l uO cE p BB))=λos=>some (.next,⟨h',⟨[]⟩,{},k',os⟩,cE,p')
theorem fA {w:World} {n:Nat} {h:Heap} {k:Nat} {l:List Stmt} {p:Pos} {h':Heap} {k':Nat} {p':Pos} (e:(λos=>PySem.W.Fast.tw14374325043358763698 PySem.W.Fast.tw14364793385576792824 pg w 11 (some (.ref 6)) 1 n ⟨h,⟨[]⟩,{},k,os⟩ (piecesOf l uO cE p BB))=λos=>some (.next,⟨h',⟨[]⟩,{},k',os⟩,cE,p')):Pc w n h k l p h' k' p':=by
 delta Pc;rw [PySem.W.Fast.te14374325043358763698,PySem.W.Fast.te14364793385576792824];exact e
noncomputable def i0 (n k:Nat):List Stmt:=(pg.main.body.drop n).take k
theorem JQ (w:World):Pc w 286 (br w.params false (sv "__main__" 164) 741 9 0 15) 187 (i0 0 20) ⟨0,0,0,0⟩ (br w.params false mS 741 28 15 50) 257 ⟨27,0,28,25⟩:=fA (by kernel_rfl)
theorem O2 (w:World):Pc w 489 (br w.params false mS 741 28 15 50) 257 (i0 20 10) ⟨27,0,28,25⟩ (br w.params false lO 741 37 42 127) 369 ⟨80,0,88,14⟩:=fA (by kernel_rfl)
theorem O1 (w:World):Pc w 493 (br w.params false lO 741 37 42 127) 369 (i0 30 5) ⟨80,0,88,14⟩ (br w.params true iF 741 40 48 160) 430 ⟨98,0,98,10⟩:=fA (by kernel_rfl)
theorem O0 (w:World):Pc w 365 (br w.params true iF 741 40 48 160) 430 (i0 35 5) ⟨98,0,98,10⟩ (br w.params true iF 741 45 60 203) 514 ⟨127,0,137,27⟩:=fA (by kernel_rfl)
theorem OZ (w:World):Pc w 303 (br w.params true iF 741 45 60 203) 514 (i0 40 10) ⟨127,0,137,27⟩ (br w.params true uv 741 54 87 266) 611 ⟨214,0,225,14⟩:=fA (by kernel_rfl)
theorem JK (w:World):Pc w 470 (br w.params true uv 741 54 87 266) 611 (i0 50 10) ⟨214,0,225,14⟩ (br w.params true iN 741 62 111 336) 719 ⟨273,0,273,8⟩:=fA (by kernel_rfl)
theorem OY (w:World):Pc w 301 (br w.params true iN 741 62 111 336) 719 (i0 60 10) ⟨273,0,273,8⟩ (br w.params true iN 349 72 138 399) 812 ⟨320,0,351,27⟩:=fA (by kernel_rfl)
theorem OX (w:World):Pc w 298 (br w.params true iN 349 72 138 399) 812 (i0 70 10) ⟨320,0,351,27⟩ (br w.params true qd 349 80 162 455) 919 ⟨438,0,442,16⟩:=fA (by kernel_rfl)
theorem OW (w:World):Pc w 295 (br w.params true qd 349 80 162 455) 919 (i0 80 10) ⟨438,0,442,16⟩ (br w.params true iE 349 89 189 518) 1008 ⟨478,0,486,15⟩:=fA (by kernel_rfl)
theorem JP (w:World):Pc w 297 (br w.params true iE 349 89 189 518) 1008 (i0 90 10) ⟨478,0,486,15⟩ (br w.params true wi 349 98 216 581) 1099 ⟨530,0,530,8⟩:=fA (by kernel_rfl)
theorem JO (w:World):Pc w 211 (br w.params true wi 349 98 216 581) 1099 (i0 100 15) ⟨530,0,530,8⟩ (br w.params true qe 349 112 225 602) 1159 ⟨569,0,569,8⟩:=fA (by kernel_rfl)
theorem JN (w:World):Pc w 296 (br w.params true qe 349 112 225 602) 1159 (i0 115 10) ⟨569,0,569,8⟩ (br w.params true fO 349 121 252 665) 1249 ⟨605,0,614,23⟩:=fA (by kernel_rfl)
theorem JM (w:World):Pc w 310 (br w.params true fO 349 121 252 665) 1249 (i0 125 10) ⟨605,0,614,23⟩ (br w.params true nD 349 130 279 728) 1353 ⟨675,0,678,69⟩:=fA (by kernel_rfl)
theorem JL (w:World):Pc w 258 (br w.params true nD 349 130 279 728) 1353 (i0 135 10) ⟨675,0,678,69⟩ (br w.params true nC 741 137 300 777) 1433 ⟨738,0,744,14⟩:=fA (by kernel_rfl)
theorem Dc (w:World):Pc w 449 (br w.params true nC 741 137 300 777) 1433 (i0 145 14) ⟨738,0,744,14⟩ (HL w.params) 1594 ⟨888,0,924,61⟩:=fA (by kernel_rfl)
theorem Kr (w:World):(λos=>topRun treeTable pg w 11 (some (.ref 6)) 2 ⟨HL w.params,⟨[]⟩,{},1594,os⟩ (restOf [] uO cE ⟨888,0,924,61⟩ BB))=λos=>some ⟨HL w.params,⟨[]⟩,{},1594,os⟩:=by
 rw [PySem.W.Fast.te14082659384304107361,PySem.W.Fast.te14364793385576792824];kernel_rfl
theorem EB:behindTheImports pg=i0 0 20++ (i0 20 10++ (i0 30 5++ (i0 35 5++ (i0 40 10++ (i0 50 10++ (i0 60 10++ (i0 70 10++ (i0 80 10++ (i0 90 10++ (i0 100 15++ (i0 115 10++ (i0 125 10++ (i0 135 10++ (i0 145 14++ [])))))))))))))):=by kernel_rfl
noncomputable abbrev Ju:Nat:=(286+(489+(493+(365+(303+(470+(301+(298+(295+(297+(211+(296+(310+(258+(449+2)))))))))))))))
theorem run (w:World) (os:OsState):topRun treeTable pg w 11 (some (.ref 6)) (12+(1+Ju)) ⟨boot_heap w.params,⟨[]⟩,boot_drawn,boot_toks,os⟩ (topStub pg)=some ⟨HL w.params,⟨[]⟩,{},1594,os⟩:=
 go_top (congrFun (pre w) os) (piece_block (congrFun (PI w) os) ((congrArg (λl=>topRun treeTable pg w 11 (some (.ref 6)) Ju ⟨br w.params false (sv "__main__" 164) 741 9 0 15,⟨[]⟩,{},187,os⟩ (restOf l uO cE p0 BB)) EB).trans
  (piece_app (congrFun (JQ w) os) (piece_app (congrFun (O2 w) os) (piece_app (congrFun (O1 w) os) (piece_app (congrFun (O0 w) os) (piece_app (congrFun (OZ w) os) (piece_app (congrFun (JK w) os) (piece_app (congrFun (OY w) os) (piece_app (congrFun (OX w) os) (piece_app (congrFun (OW w) os) (piece_app (congrFun (JP w) os) (piece_app (congrFun (JO w) os) (piece_app (congrFun (JN w) os) (piece_app (congrFun (JM w) os) (piece_app (congrFun (JL w) os) (piece_app (congrFun (Dc w) os) (congrFun (Kr w) os))))))))))))))))))
noncomputable def vw:Program:={ pg with main:={ pg.main with body:=[bN 158] } }
noncomputable def lo:List Str:=[so "WHITE",so "BLACK",so "NO_KIND",so "PAWN",so "KNIGHT",so "BISHOP",so "ROOK",so "QUEEN",so "KING",so "EMPTY",so "NORMAL",so "PROMOTION",so "EN_PASSANT",so "CASTLING",so "make_piece",so "side_of",so "kind_of",so "pack_move",so "move_from",so "move_to",so "move_special",so "move_promo",so "Zobrist",so "state_key",so "full_key",so "pawn_key",so "non_pawn_key",so "material_key",so "ChessError",so "BadMove",so "STEP_FILES",so "STEP_RANKS",so "Geometry",so "is_growing",so "add_masks",so "inner_squares",so "add_rays",so "add_pawns",so "add_knights",so "add_castles",so "make_geometry",so "more_than_one",so "highest",so "lowest",so "squares_of",so "Position",so "put_piece",so "take_piece",so "shift_piece",so "occupied",so "pieces",so "king_square",so "settle_key",so "moved_piece",so "taken_square",so "taken_square_makemove",so "rook_step",so "passed_square",so "kept_rights",so "clear_ep_key",so "set_ep_key",so "set_rights_key",so "do_move",so "undo_move",so "key_after",so "direction",so "between",so "line",so "aligned",so "ray_attacks",so "rook_attacks",so "bishop_attacks",so "queen_attacks",so "slider_attacks",so "piece_attacks",so "straight_sliders",so "slanting_sliders",so "pawn_attackers",so "step_attackers",so "line_attackers",so "attackers_to",so "is_attacked",so "checkers_of",so "checkers",so "in_check_of",so "in_check",so "snipers_of",so "blockers",so "pinned_pieces",so "MAY",so "NO_WING",so "RIGHT_LOST",so "NOT_FREE",so "IN_CHECK",so "PASSES_ATTACK",so "GOAL_ATTACKED",so "squares_within",so "castle_refusal",so "add_castling",so "CAPTURES",so "QUIETS",so "NON_EVASIONS",so "EVASIONS",so "add_goals",so "add_piece_moves",so "stage_target",so "push_step",so "start_mask",so "last_mask",so "shift_push",so "shift_capture",so "push_targets",so "add_promotions",so "add_plain_pushes",so "add_push_promotions",so "add_pawn_captures",so "add_pawn_moves",so "add_en_passant",so "evasion_targets",so "passed_pawn_square",so "may_answer_en_passant",so "add_evasions",so "taken_square_legality",so "is_safe_en_passant",so "is_legal",so "generate",so "pseudo_moves",so "keep_legal",so "legal_moves",so "_law_shapes",so "_law_at",so "_law_hits",so "_law_beside",so "_law_passed",so "_law_kings",so "_law_draw",so "_law_play",so "_law_sum",so "_law_agrees",so "_law_position"]
noncomputable def kG:Nat->List Obj->Frag
 | _,[]=>[]
 | n,o::r=>(n,o)::kG (n+1) r
noncomputable def KK (P:Params):Frag:=kG 2 (((HL P).objs.toList.drop 2).take 2)++kG 11 ((HL P).objs.toList.drop 11)
noncomputable def adr:List Addr:=2::3:: (List.range 851).map (·+11)
theorem yN (P:Params):adr=(KK P).map (·.1):=by kernel_rfl
noncomputable def HK:Hook:=kHook KK adr yN
noncomputable def xt (s:Shared):Bool:=xlAt vw [] s && recOk (RowW.records (OpenRow.toRowW PySem.Challenge.rw_nt0467_01.row)) s
theorem Pe (w:World):(λos=>(staticsOk (importedModules pg.main.body) (boot_heap w.params) (HL w.params) && namesBound pg (HL w.params) && gensDone ⟨HL w.params,⟨[]⟩,{},1594,os⟩ && laidKept (boot_heap w.params) (HL w.params)))=λ_:OsState=>true:=by
 rw [PySem.W.Fast.te5923862056798008813];kernel_rfl
theorem Pb (w:World):(λos=>openSeen vw lo (importedModules pg.main.body) xt true ⟨HL w.params,⟨[]⟩,{},1594,os⟩)=λ_:OsState=>openGood vw lo:=by
 rw [PySem.W.Fast.te4187177175401517315];kernel_rfl
theorem oQ {l:List Obj}:∀(n:Nat) (r:List Obj),(∀i o,r[i]?=some o->l[n+i]?=some o)->∀p,p∈kG n r->l[p.1]?=some p.2
 | _,[],_,_,h=>nomatch h
 | n,o::r,h,p,hp=>(List.mem_cons.mp hp).elim (λe=>e ▸ h 0 o rfl) (oQ (n+1) r (λi q e=>(Nat.succ_add_eq_add_succ n i).symm ▸ h (i+1) q e) p)
theorem Gv (l:List Obj) (p:Addr×Obj) (h:p∈kG 2 ((l.drop 2).take 2)++kG 11 (l.drop 11)):l[p.1]?=some p.2:=by
 refine (List.mem_append.mp h).elim (oQ 2 _ (λi o e=>?_) p) (oQ 11 _ (λi o e=>List.getElem?_drop.symm.trans e) p);rw [List.getElem?_take] at e;split at e
 ·exact List.getElem?_drop.symm.trans e
 ·cases e
theorem As (h:Heap) (a:List Addr) (K:Frag) (e:K=kG 2 ((h.objs.toList.drop 2).take 2)++kG 11 (h.objs.toList.drop 11)) (ha:a=K.map (·.1)) (f:K.all (λp=>!p.2.isFreed)=true):a.map h.get?=K.map λp=>some p.2:=by
 rw [ha,List.map_map];exact List.map_congr_left λp hp=>Heap.get?_some_iff.mpr ⟨Array.getElem?_toList.symm.trans (Gv _ p (e ▸ hp)),(Bool.not_eq_true' _).mp (List.all_eq_true.mp f p hp)⟩
theorem Gu (P:Params):KK P=kG 2 (((HL P).objs.toList.drop 2).take 2)++kG 11 ((HL P).objs.toList.drop 11):=by kernel_rfl
theorem Ar (P:Params):(KK P).all (λp=>!p.2.isFreed)=true:=by kernel_rfl
theorem De (s:Shared):HK.obs s=adr.map s.heap.get?:=by kernel_rfl
theorem val_eq (w:World):HK.val w=(KK w.params).map λp=>some p.2:=by kernel_rfl
theorem GK {s:Shared} {w:World} {h:Heap} (e:s.heap=h) (k:KK w.params=kG 2 ((h.objs.toList.drop 2).take 2)++kG 11 (h.objs.toList.drop 11)):HK.obs s=HK.val w:=by
 rw [De,val_eq,e];exact As h adr (KK w.params) k (yN _) (Ar _)
theorem Pa (w:World):(λos=>HK.obs ⟨HL w.params,⟨[]⟩,{},1594,os⟩)=λ_:OsState=>HK.val w:=funext λ_=>GK rfl (Gu _)
theorem left:LeftO pg vw lo xt HK.obs HK.val 10338:=
 LeftO.of_pieces (H₀:=boot_heap) (H₁:=HL) (gs₀:=⟨[]⟩) (gs₁:=⟨[]⟩) (d₀:=boot_drawn) (d₁:={}) (k₀:=boot_toks) (k₁:=1594) (m₀:=11) (ann:=some (.ref 6)) (M:=12+(1+Ju))
  (boot_open (by kernel_rfl) (by decide +kernel) (by rw [PySem.W.Fast.te14289696077712309145];intro s;kernel_rfl)) (λw=>by rw [PySem.W.Fast.te8920871248978507458];kernel_rfl) run (by decide +kernel)
  (λw=>funext λos=>looks_pair (congrFun (Pe w) os) (looks_pair (congrFun (Pb w) os) (congrFun (Pa w) os)))
end InternalH
end
section
open PySem PySem.W PyProof.Rows
set_option maxRecDepth 1000000
set_option maxHeartbeats 8000000
open PySem.TablesWhole (wSs wS holds gather noTwice wModule wProgram)
namespace InternalH
noncomputable abbrev rl:OpenLaw:=PySem.Challenge.rw_nt0467_01
theorem OA:namesResolve rl.row.prog=true:=by rw [PySem.W.Fast.te8377067652309620493];kernel_rfl
theorem OS:readsOut rl.row.prog rl.row.prog.main.body "vars"=false:=by rw [PySem.W.Fast.te13343964577679436407];kernel_rfl
theorem OQ:readsOut rl.row.prog rl.row.prog.main.body "dir"=false:=by rw [PySem.W.Fast.te13343964577679436407];kernel_rfl
theorem OP:readsOut rl.row.prog rl.row.prog.main.body "locals"=false:=by rw [PySem.W.Fast.te13343964577679436407];kernel_rfl
theorem FK:(["vars","dir","locals"]:List Str).filter (readsOut rl.row.prog rl.row.prog.main.body)=[]:=by
 rw [List.filter_cons,OS,List.filter_cons,OQ,List.filter_cons,OP];rfl
theorem Kl:importedModules rl.row.prog.main.body=[]:=by rw [PySem.W.Fast.te5923862056798008813];kernel_rfl
theorem Oz:noRoadLSs { strict:=!(importedModules rl.row.prog.main.body).all cThrough.contains,foot:=none,bare:=(["vars","dir","locals"]:List Str).filter (readsOut rl.row.prog rl.row.prog.main.body) } rl.row.prog.main.body=true:=by
 rw [FK,Kl,PySem.W.Fast.te8326940854005059898];kernel_rfl
theorem Oy:namesMeet rl.row.prog rl.row.prog.main.body (λ_ n=>attrL n)=true:=by rw [PySem.W.Fast.te17119622794617984870,PySem.W.Fast.te17868728402115742887];kernel_rfl
theorem Ox:rl.row.prog.boundNames.all (λn=>!worldNames.contains n)=true:=by rw [PySem.W.Fast.te18344453789297297638];kernel_rfl
theorem Ow:looksOpen rl.row.prog=true:=by
 refine look_both (look_both (look_both (look_both (look_both ?_ ?_) OA) Ox) Oz) Oy
 ·rw [PySem.W.Fast.te11788848310118352699];kernel_rfl
 ·rw [PySem.W.Fast.te9807087744658564304,PySem.W.Fast.te12862048085361865435];kernel_rfl
theorem Ov:OpenRow.wellSaid rl.row=true:=by
 refine look_both (look_both (look_both (look_both (look_both (look_both (look_both (look_both (look_both (look_both (look_both (look_both (look_both (look_both (look_both Ow ?_) ?_) ?_) ?_) ?_) ?_) ?_) ?_) ?_) ?_) ?_) ?_) ?_) ?_) ?_
 all_goals kernel_rfl
theorem Ou:rl.bound'.all (λn=>!builtinNamed n || rl.about == [n] || !rl.reads n)=true:=by
 rw [PySem.W.Fast.named_eq,PySem.W.Fast.te6984425678791042302,PySem.W.Fast.te797321630700447069,PySem.W.Fast.sDec_eq];kernel_rfl
theorem Ot:namesMeet rl.prog rl.above (λ_ n=>!rl.own.contains n)=true:=by rw [PySem.W.Fast.te17119622794617984870];kernel_rfl
theorem Oq:noRoadLSs { strict:=true,foot:=some rl.bound',writes:=rl.writes,may:=rl.may } rl.footing=true:=by rw [PySem.W.Fast.te8326940854005059898];kernel_rfl
theorem Jo:namesMeet rl.prog rl.footing (λsc n=>(!(["type","isinstance","issubclass","getattr","hasattr"]:List Str).contains n || sc.names.lookup n == some .globalImplicit) &&
 (rl.may !=some n || sc.kind ==.module || sc.names.lookup n == some .globalImplicit))=true:=by rw [PySem.W.Fast.te17119622794617984870];kernel_rfl
theorem Jn:namesMeet rl.prog rl.footing (λsc n=>sc.kind ==.module || sc.names.lookup n !=some .globalExplicit)=true:=by rw [PySem.W.Fast.te17119622794617984870];kernel_rfl
theorem ws:OpenLaw.wellSaid rl=true:=by
 refine look_both (look_both (look_both (look_both (look_both (look_both (look_both (look_both (look_both (look_both (look_both (look_both (look_both (look_both (look_both (look_both (look_both (look_both Ov ?_) ?_) ?_) ?_) ?_) Oq) ?_) ?_) ?_) Ou) ?_) ?_) Jo) ?_) ?_) ?_) Ot) Jn
 ·kernel_rfl
 ·kernel_rfl
 ·rw [PySem.W.Fast.te8179353310426384613];kernel_rfl
 ·kernel_rfl
 ·kernel_rfl
 ·rw [PySem.W.Fast.te9558739934217749035];kernel_rfl
 all_goals kernel_rfl
noncomputable abbrev mm:Module:=rl.row.prog.main
theorem O6:noTwice mm.scope=true:=by rw [PySem.W.Fast.te8331962902438777018];kernel_rfl
theorem told:wSs gather mm.scope ⟨mm.scope,[],[],[],none⟩ mm.scope mm.body=[]:=by rw [PySem.W.Fast.te16421684217811934046,PySem.W.Fast.te12652042256554560961];kernel_rfl
theorem wm (m:Module):wModule holds m=(noTwice m.scope && (wSs holds m.scope ⟨m.scope,[],wSs gather m.scope ⟨m.scope,[],[],[],none⟩ m.scope m.body,[],none⟩ m.scope m.body && true)):=rfl
theorem Fi (top:Scope) (cx:TablesWhole.Ctx) (sc:Scope) (b:List Stmt):∀a,wSs holds top cx sc a=true->wSs holds top cx sc b=true->wSs holds top cx sc (a++b)=true
 | [],_,h=>h
 | s::a,h1,h2=>by
  have h1:(wS holds top cx sc s && wSs holds top cx sc a)=true:=h1;have:=Bool.and_eq_true_iff.mp h1;exact Bool.and_eq_true_iff.mpr ⟨this.1,Fi top cx sc b a this.2 h2⟩
noncomputable def tp (l:List Stmt):Bool:=wSs holds mm.scope ⟨mm.scope,[],[],[],none⟩ mm.scope l
theorem OI:tp ((mm.body.drop 0).take 80)=true:=by delta tp;rw [PySem.W.Fast.te16421684217811934046];kernel_rfl
theorem OH:tp ((mm.body.drop 80).take 40)=true:=by delta tp;rw [PySem.W.Fast.te16421684217811934046];kernel_rfl
theorem OG:tp ((mm.body.drop 120).take 20)=true:=by delta tp;rw [PySem.W.Fast.te16421684217811934046];kernel_rfl
theorem OF:tp ((mm.body.drop 140).take 20)=true:=by delta tp;rw [PySem.W.Fast.te16421684217811934046];kernel_rfl
theorem Jv:mm.body=(mm.body.drop 0).take 80++ ((mm.body.drop 80).take 40++ ((mm.body.drop 120).take 20++ (mm.body.drop 140).take 20)):=by kernel_rfl
theorem Ck {a b:List Stmt} (h1:tp a=true) (h2:tp b=true):tp (a++b)=true:=Fi _ _ _ b a h1 h2
theorem Fq (m:Module) (h1:noTwice m.scope=true) (h2:wSs gather m.scope ⟨m.scope,[],[],[],none⟩ m.scope m.body=[]) (h3:wSs holds m.scope ⟨m.scope,[],[],[],none⟩ m.scope m.body=true):wModule holds m=true:=
 (wm m).trans (Bool.and_eq_true_iff.mpr ⟨h1,Bool.and_eq_true_iff.mpr ⟨(congrArg (λt=>wSs holds m.scope ⟨m.scope,[],t,[],none⟩ m.scope m.body) h2).trans h3,rfl⟩⟩)
theorem Jw:tp mm.body=true:=(congrArg tp Jv).trans (Ck OI (Ck OH (Ck OG OF)))
theorem Fo (p:Program) (h:wModule holds p.main=true) (h1:p.modules=[]) (h2:p.parses=[]) (h3:p.harvested=[]):p.tablesWhole=true:=by
 delta Program.tablesWhole wProgram;rw [h,h1,h2,h3];rfl
theorem tw:rl.row.prog.tablesWhole=true:=Fo _ (Fq _ O6 told Jw) rfl rfl rfl
end InternalH
end
section
open PySem PySem.W PySem.Calls PyProof.Rows
set_option maxRecDepth 1000000
set_option maxHeartbeats 8000000
namespace Internal
theorem jA {α:Type} {l:List α} {P:α->Bool} (n:Nat) (h1:(l.take n).all P=true) (h2:(l.drop n).all P=true):l.all P=true:=
 (congrArg (List.all · P) (List.take_append_drop n l)).symm.trans (List.all_append.trans (Bool.and_eq_true_iff.mpr ⟨h1,h2⟩))
theorem oV {α β:Type} {l:List α} {f g:α->β} (n:Nat) (h1:(l.take n).map f=(l.take n).map g) (h2:(l.drop n).map f=(l.drop n).map g):l.map f=l.map g:=
 (congrArg (List.map f) (List.take_append_drop n l)).symm.trans (List.map_append.trans ((congr (congrArg _ h1) h2).trans (List.map_append.symm.trans (congrArg (List.map g) (List.take_append_drop n l)))))
noncomputable def fP (p:Params) (q:Nat×Fn):Bool:=tO (InternalH.KK p) (fa q.1) q.2
noncomputable def bP (p:Params) (q:Nat×Fn):S:=mj (InternalH.KK p) (fa q.1) q.2
theorem Pr (p:Params):(gt.take 60).all (uM (InternalH.KK p))=true:=by kernel_rfl
theorem Pq (p:Params):((gt.drop 60).take 60).all (uM (InternalH.KK p))=true:=by kernel_rfl
theorem Pp (p:Params):((gt.drop 60).drop 60).all (uM (InternalH.KK p))=true:=by kernel_rfl
theorem GX (p:Params):gt.all (uM (InternalH.KK p))=true:=jA 60 (Pr p) (jA 60 (Pq p) (Pp p))
theorem Hq (p:Params):[0,1,2].all (pB (InternalH.KK p))=true:=by kernel_rfl
theorem PC (p:Params):(dK.take 27).all (fP p)=true:=by kernel_rfl
theorem Pz (p:Params):((dK.drop 27).take 27).all (fP p)=true:=by kernel_rfl
theorem Py (p:Params):(((dK.drop 27).drop 27).take 27).all (fP p)=true:=by kernel_rfl
theorem Px (p:Params):(((dK.drop 27).drop 27).drop 27).all (fP p)=true:=by kernel_rfl
theorem G6 (p:Params):dK.all (fP p)=true:=jA 27 (PC p) (jA 27 (Pz p) (jA 27 (Py p) (Px p)))
theorem PN (p:Params):(dK.take 27).map (bP p)=(dK.take 27).map (λq=>q.2.body):=by kernel_rfl
theorem PM (p:Params):((dK.drop 27).take 27).map (bP p)=((dK.drop 27).take 27).map (λq=>q.2.body):=by kernel_rfl
theorem PK (p:Params):(((dK.drop 27).drop 27).take 27).map (bP p)=(((dK.drop 27).drop 27).take 27).map (λq=>q.2.body):=by kernel_rfl
theorem PJ (p:Params):(((dK.drop 27).drop 27).drop 27).map (bP p)=(((dK.drop 27).drop 27).drop 27).map (λq=>q.2.body):=by kernel_rfl
theorem Il (p:Params):dK.map (bP p)=dK.map (λq=>q.2.body):=oV 27 (PN p) (oV 27 (PM p) (oV 27 (PK p) (PJ p)))
theorem wN {α:Type}:∀{l:List (Nat×α)} {n:Nat} {c:α},l.lookup n=some c->(n,c)∈l
 | (k,v)::r,n,c,h=>by
  rw [List.lookup_cons] at h
  cases hb:n == k with
  | true=>rw [hb] at h;cases h;rw [beq_iff_eq.mp hb];exact List.mem_cons_self
  | false=>rw [hb] at h;exact List.mem_cons_of_mem _ (wN h)
theorem JW:∀c:Nat,c<3->c∈[0,1,2]:=by decide
theorem Co {K:Frag} {base:Heap} (X:K.In base) (hlim:base.NoLimit) (hg:∃mg,base.Ns mainGlobals mg) (hb:∃mb,base.Ns builtinsNs mb/\∀x,x≠("__name__":Str)->mb x=bootBuiltins x)
 (g1:gt.all (uM K)=true) (c1:[0,1,2].all (pB K)=true) (f1:dK.all (λq=>tO K (fa q.1) q.2)=true) (b1:dK.map (λq=>mj K (fa q.1) q.2)=dK.map (λq=>q.2.body)):Fc K base ca fa:=by
 have G:∀n g,di n gt=some g->uM K (n,g)=true:=λn g h=>List.all_eq_true.mp g1 _ (nM h);have C:∀c,c<3->pB K c=true:=λc hc=>List.all_eq_true.mp c1 c (JW c hc);have M:∀k F,code k=some F->(k,F)∈dK:=λk F h=>wN h;have B:∀q∈dK,mj K (fa q.1) q.2=q.2.body:=λq hq=>List.map_inj_left.mp b1 q hq;have FF:∀k F,code k=some F->FnAt K (fa k) F:=λk F h=>xD (List.all_eq_true.mp f1 (k,F) (M k F h)) (B (k,F) (M k F h))
 refine ⟨X,hlim,hg,hb,⟨λc hc n hn=>band (C c hc) λh _=>band (List.all_eq_true.mp h n (List.mem_range.mpr hn)) λh1 h2=>band h2 λh2 h3=>⟨h1,o6 h2,o6 h3⟩,λc hc=>band (C c hc) λ_ h=>band h λh1 h=>band h λh2 h=>band h λh3 _=>⟨h1,h2,Be (eq_of_beq h3)⟩⟩,
  λn i h=>band (G n _ h) λ_ h=>yK (eq_of_beq h),λn is h=>band (G n _ h) λ_ h=>?_,λn k h=>band (G n _ h) λ_ h=>band h λh1 h2=>⟨jz (eq_of_beq h1),h2⟩,
  λn c h=>band (G n _ h) λ_ h=>band h λh1 h=>band h λh2 h3=>⟨jz (eq_of_beq h2),h3,of_decide_eq_true h1⟩,λn b h=>band (G n _ h) λ_ h=>band h λh1 h=>band h λh2 h3=>⟨o6 h1,eq_of_beq h2,by simpa using h3⟩,
  λn g h=>band (G n _ h) λh _=>(Bool.not_eq_true' _).mp h,FF,λc hc=>band (C c hc) λ_ h=>band h λ_ h=>band h λ_ h=>band h λ_ h=>band h λh1 h=>band h λh2 h3=>⟨h1,jz (eq_of_beq h2),h3⟩⟩
 obtain ⟨a,ha,h⟩:=anyOf h;obtain ⟨o,ho,h⟩:=anyOf h;obtain ⟨l,hl,h⟩:=anyOf h;exact band h λh1 h2=>⟨a,l,jz ha,by rw [ho,qf hl],q0 h1,of_decide_eq_true h2⟩
theorem OJ {w:World} {base:Heap} (X:(InternalH.KK w.params).In base) (hlim:base.NoLimit) (hg:∃mg,base.Ns mainGlobals mg) (hb:∃mb,base.Ns builtinsNs mb/\∀x,x≠("__name__":Str)->mb x=bootBuiltins x) :
 Fc (InternalH.KK w.params) base ca fa:=Co X hlim hg hb (GX _) (Hq _) (G6 _) (Il _)
end Internal
end
section
open PySem PySem.W PyProof.Rows
set_option maxRecDepth 1000000
set_option maxHeartbeats 8000000
open Internal InternalH in
theorem PySem.Challenge.cw_nt0467_01_holds : PySem.Challenge.rw_nt0467_01.Holds := by
 w_on
 refine holds_law ws λsaid=>?_;refine holds_open (q:=vw) (loose:=InternalH.lo) (Xt:=xt) (XP:=XL vw []) (Yf:=HK.obs) (Ya:=HK.val) (YP:=HK.says) (N:=10338) left HK.of HK.keeps (λs e=>xl_of s (Bool.and_eq_true_iff.mp e).1) XL.keeps (by rfl) (by rfl) (by rfl) (λs e=>recFacts_of (Bool.and_eq_true_iff.mp e).2) (by rfl) said (by decide +kernel) ⟨rfl,rfl,rfl,rfl,rfl,InternalH.tw⟩ ?hw ?hc
 case hw=>w_witness2
 intro w s₀ s₁ mg mb G Y fa o pm cd doc dV kV ho hd hcd hD hmg hg args vals as hpre hlay hrd hwl hlo;have KX:=kIn_of Y;have X:=(Ground.X G).1;have V:=(Ground.X G).2;refine Ground.open G ?_;intro T B D TE TW
 try (refine guard_noD D (by decide +kernel) ?_;clear D)
 obtain ⟨_,_,M⟩:=bmod_of_top T;have TA:=at_of_top T
 try (obtain ⟨_,_,he,B0⟩:=based_of_top T rfl hmg ho hd;have he':cd=_:=he;subst he';clear he)
 clear hmg
 wrow_args hpre hlay hrd hwl hlo
 refine enter_call ?_
 w_top on
 try refine codeAny_mono ?_ (λ_ _ g=>GoodW.toG g)
 have K0:=below_caller (Top.heap T)
 w_call any ho hd hcd hD T F
 clear hd TA
 k_drop
 rename Top _ _ _ _ _ _=>T
 rename Fr _ _ _ _=>F
 rename IntsAre _ _=>hI
 rename Heap.IsList _ _ _=>hL
 rename ¬(_<_)=>hlen
 have Z:=OJ KX T.nolimit ⟨_,T.g⟩ ⟨_,T.b,T.builtins⟩;refine wpAny_mono (uy Z F rfl hI hL (by lia) rfl (Nat.le_of_ble_eq_true (by kernel_rfl)) (Nat.le_of_ble_eq_true (by kernel_rfl)) (by kernel_rfl) (by kernel_rfl)) (λf s' h=>?_) λ_ _ h=>h;obtain ⟨rfl,⟨m',F'⟩,h1,h2⟩:=h;exact goodW_bool F' (h1.trans hg) (λ_=>rfl) (postW_of rfl rfl (by first | simp [same] | kernel_rfl | decide)) h2
end
