import PyProof.Rows.All
import Wide.All
import OpenK.AllK
import Wide.FinOn
import Lean
import PySem.Challenge.RW_nt0467_01
set_option Elab.async false
set_option linter.all false
set_option genSizeOf false
set_option genInjectivity false
set_option bootstrap.genMatcherCode false
set_option compiler.extract_closed false
set_option maxRecDepth 100000
namespace Internal
def Pa:=@Nat.lt_of_lt_of_le
def Pb:=@Nat.le_trans
def Pc:=@List.getD_eq_getElem?_getD
def Pe:=@Bool.and_eq_true
def Pf:=@if_neg
def Pg:=@List.length_append
def Ph:=@List.length_map
def Pj:=@of_decide_eq_true
def Pk:=@List.getElem?_eq_getElem
def Pl:=@decide_eq_true_iff
def Pm:=@Nat.lt_of_le_of_lt
def Po:=@if_pos
def Pp:=@List.all_eq_true
def Pq:=@List.length_set
def Pr:=@List.append_assoc
def Pt:=@Nat.le_refl
def Pu:=@Nat.testBit_xor
def Pw:=@Nat.le_of_lt
def Px:=@decide_eq_true
def Py:=@Nat.zero_testBit
def Pz:=@List.getElem?_eq_some_iff
def PC:=@List.mem_singleton
def PD:=@Nat.lt_succ_self
def PF:=@Nat.pos_of_ne_zero
def PG:=@Nat.lt_or_ge
def PH:=@Nat.shiftRight_eq_div_pow
def PI:=@Int.natCast_nonneg
def PJ:=@Option.bind_eq_some_iff
def PK:=@Nat.le_add_right
def PM:=@List.mem_cons_self
def PN:=@PySem.W.Fast.te14364793385576792824
def PQ:=@List.mem_cons_of_mem
def PR:=@Decidable.not_not
def PU:=@Option.map_eq_some_iff
def PV:=@Array.toList_append
def PX:=@Nat.le_of_lt_succ
def PY:=@List.mem_of_getElem?
def PZ:=@List.mem_append
def P1:=@List.getElem?_map
def P4:=@Bool.not_eq_true'
def P5:=@Nat.ne_of_gt
def P6:=@List.length_replicate
def P7:=@Nat.mul_le_mul_right
def P8:=@getElem?_pos
def P9:=@Nat.lt_of_le_of_ne
def Qa:=@Bool.eq_iff_iff
def Qb:=@PySem.W.Fast.te14374325043358763698
def Qc:=@Nat.zero_le
def Qd:=@Int.ofNat_le
def Qe:=@Nat.add_le_add_left
def Qg:=@Nat.lt_succ_of_lt
def Qh:=@Nat.ne_of_lt
def Qi:=@Nat.le_of_ble_eq_true
def Qj:=@List.perm_append_comm
def Qk:=@Nat.add_sub_cancel'
def Ql:=@Array.length_toList
def Qm:=@Bool.or_eq_true
def Qn:=@List.lookup_cons
def Qo:=@Nat.ne_zero_of_lt
def Qp:=@List.size_toArray
def Qq:=@Nat.lt_trans
def Qr:=@Nat.lt_irrefl
def Qs:=@List.map_cons
def Qt:=@Nat.le_of_eq
def Qu:=@Nat.not_lt_zero
def Qv:=@List.map_congr_left
def Qw:=@List.take_append_drop
def Qx:=@List.getElem?_eq_none
def Qy:=@List.not_mem_nil
def Qz:=@Nat.add_sub_cancel_left
def QA:=@List.getElem?_append_right
def QB:=@Nat.and_two_pow_sub_one_eq_mod
def QC:=@Nat.sub_le
def QD:=@Nat.le_add_right_of_le
def QE:=@Option.map_some
def QF:=@Nat.two_pow_pos
def QG:=@List.map_append
def QH:=@Nat.xor_assoc
def QI:=@Nat.testBit_two_pow
def QJ:=@beq_iff_eq
def QK:=@Nat.not_lt
def QL:=@Nat.zero_add
def QM:=@Nat.lt_succ_of_le
def QN:=@List.Perm.append_left
def QO:=@Nat.zero_lt_two
def QP:=@Nat.pow_le_pow_right
def QQ:=@Nat.div_lt_of_lt_mul
def QR:=@List.getElem?_set
def QS:=@List.getElem?_range
def QT:=@List.extract_eq_take_drop
def QU:=@Nat.le_antisymm
def QV:=@Nat.le_add_left
def QW:=@Nat.div_add_mod
def QX:=@List.append_nil
def QY:=@Nat.shiftLeft_eq
def QZ:=@List.isEmpty_iff
def Q0:=@Nat.add_assoc
def Q1:=@List.getElem?_replicate
def Q2:=@Int.eq_ofNat_of_zero_le
def Q3:=@Nat.xor_zero
def Q4:=@Nat.mul_comm
def Q5:=@Nat.zero_lt_of_lt
def Q6:=@Nat.le_of_succ_le
def Q7:=@Nat.testBit_and
def Q8:=@List.length_reverse
def Q9:=@PySem.W.Fast.te17119622794617984870
def Rb:=@List.getElem_mem
def Rc:=@List.mem_map
def Rd:=@Nat.add_le_add
def Rf:=@List.mem_range
def Rg:=@Bool.xor_false
def Rh:=@List.getElem?_append_left
def Ri:=@List.drop_eq_getElem_cons
def Rj:=@Decidable.byContradiction
def Rk:=@Bool.and_eq_true_iff
def Rl:=@Array.toList_extract
def Rm:=@Nat.min_eq_left
def Ro:=@List.length_range
def Rp:=@Nat.lt_succ_iff_lt_or_eq
def Rq:=@Int.le_trans
def Rr:=@Bool.true_and
def Ru:=@beq_eq_false_iff_ne
def Rv:=@Int.toNat_of_nonneg
def Rx:=@Nat.le_of_not_lt
def Ry:=@Nat.testBit_shiftRight
def Rz:=@Nat.sub_add_cancel
def RA:=@Nat.add_comm
def RB:=@List.map_map
def RC:=@Nat.testBit_shiftLeft
def RD:=@List.length_singleton
def RE:=@Nat.sub_lt
def RF:=@Nat.mod_lt
def RH:=@List.mem_cons
def RI:=@Nat.sub_pos_of_lt
def RJ:=@Nat.mod_two_eq_zero_or_one
def RK:=@Array.perm_iff_toList_perm
def RL:=@Nat.add_le_add_right
def RM:=@List.mem_of_mem_take
def RN:=@Nat.testBit_or
def RO:=@Option.isNone_iff_eq_none
def RP:=@Nat.succ_le_succ
def RQ:=@List.take_length
def RT:=@List.length_take
def RU:=@Nat.mul_le_mul_left
def RV:=@Nat.zero_and
def RX:=@Nat.eq_zero_or_pos
def RY:=@Nat.add_right_comm
def RZ:=@Nat.le_mul_of_pos_right
def Sa:=@List.drop_eq_nil_of_le
def Sb:=@List.Perm.append_right
def Se:=@Nat.le_succ
def Sf:=@Option.some.injEq
def Sh:=@List.take_add_one
def Si:=@Array.toList_push
def Sj:=@Bool.false_xor
def Sk:=@Bool.false_and
def Sl:=@Nat.pow_succ
def So:=@Nat.mod_eq_of_lt
def Sp:=@List.length_drop
def Sr:=@Nat.add_lt_add_right
def Ss:=@Bool.or_eq_false_iff
def Su:=@Int.ofNat.inj
def Sv:=@Nat.div_le_self
def Sw:=@List.mem_filter
def Sx:=@Nat.two_pow_add_eq_or_of_lt
def Sy:=@Nat.testBit_two_pow_sub_one
def Sz:=@Nat.shiftRight_add
def SA:=@List.map_replicate
def SD:=@Int.natAbs_natCast
def SF:=@Array.size_extract
def SG:=@Nat.le_succ_of_le
def SH:=@List.reverse_cons
def SI:=@Option.isSome_iff_exists
def SJ:=@Nat.and_assoc
def SK:=@Bool.or_false
def SN:=@Nat.div_eq_of_lt
def SO:=@PyProof.noPylong_small
def SP:=@Nat.le_mul_of_pos_left
def SQ:=@Nat.div_div_eq_div_mul
def SR:=@List.take_of_length_le
def SS:=@Nat.succ_mul
def SV:=@Nat.sub_self
def SW:=@Nat.and_zero
def SX:=@Nat.min_le_left
def SY:=@List.nodup_cons
def S7:=@Int.natCast_add
def S8:=@List.mem_append_right
def S9:=@List.mem_of_mem_drop
def Ta:=@List.mem_append_left
def Tb:=@Array.toList_reverse
def Tc:=@Nat.mul_le_mul
def Td:=@Nat.sub_lt_sub_left
def Te:=@Nat.add_lt_add_left
def Tf:=@PySem.W.Fast.te8326940854005059898
def Tg:=@Nat.add_sub_cancel
def Th:=@List.zip_cons_cons
def Ti:=@Bool.false_ne_true
@[elab_as_elim] theorem Ol {α:Sort _} {b:α} {P:α->Prop} {a:α} (h:a=b) (k:P b):P a:=h ▸ k
@[elab_as_elim] theorem Oj {α:Sort _} {b:α} {P:α->Prop} {a:α} (h:b=a) (k:P b):P a:=h ▸ k
@[elab_as_elim] theorem Om {b:Prop} {P:Prop->Prop} {a:Prop} (h:a↔b) (k:P b):P a:=propext h ▸ k
end Internal
local macro_rules | `(tactic| rewrite [$a:term])=>`(tactic| first | refine Internal.Ol ($a ..) ?_ | refine Internal.Om ($a ..) ?_ | fail)
local macro_rules | `(tactic| rewrite [<- $a:term])=>`(tactic| first | refine Internal.Oj ($a ..) ?_ | fail)
local macro_rules | `(tactic| rw [$a:rwRule])=>`(tactic| first | (rewrite [$a];with_reducible try rfl) | fail)
local macro_rules | `(tactic| rw [$a:rwRule,$as:rwRule,*])=>`(tactic| first | (rewrite [$a];rw [$as,*]) | fail)
section
namespace Internal
theorem aD {Q:Prop} {A B:Prop} (h:A/\B) (k:A->B->Q):Q:=k h.1 h.2
theorem dH {Q:Prop} {A B C:Prop} (h:A/\B/\C) (k:A->B->C->Q):Q:=k h.1 h.2.1 h.2.2
theorem rR {Q:Prop} {A B C D:Prop} (h:A/\B/\C/\D) (k:A->B->C->D->Q):Q:=k h.1 h.2.1 h.2.2.1 h.2.2.2
theorem rQ {Q:Prop} {A B C D E:Prop} (h:A/\B/\C/\D/\E) (k:A->B->C->D->E->Q):Q:=k h.1 h.2.1 h.2.2.1 h.2.2.2.1 h.2.2.2.2
theorem uJ {Q:Prop} {A B C D E F:Prop} (h:A/\B/\C/\D/\E/\F) (k:A->B->C->D->E->F->Q):Q:=k h.1 h.2.1 h.2.2.1 h.2.2.2.1 h.2.2.2.2.1 h.2.2.2.2.2
theorem uI {Q:Prop} {A B C D E F G:Prop} (h:A/\B/\C/\D/\E/\F/\G) (k:A->B->C->D->E->F->G->Q):Q:=k h.1 h.2.1 h.2.2.1 h.2.2.2.1 h.2.2.2.2.1 h.2.2.2.2.2.1 h.2.2.2.2.2.2
theorem bI {α:Sort _} {Q:Prop} {A:α->Prop} (h:∃x,A x) (k:∀x,A x->Q):Q:=h.elim λx h0=>k x h0
theorem aq {α:Sort _} {Q:Prop} {A B:α->Prop} (h:∃x,A x/\B x) (k:∀x,A x->B x->Q):Q:=h.elim λx h0=>k x h0.1 h0.2
theorem gK {α:Sort _} {Q:Prop} {A B C:α->Prop} (h:∃x,A x/\B x/\C x) (k:∀x,A x->B x->C x->Q):Q:=h.elim λx h0=>k x h0.1 h0.2.1 h0.2.2
theorem GZ {α:Sort _} {Q:Prop} {A B C D:α->Prop} (h:∃x,A x/\B x/\C x/\D x) (k:∀x,A x->B x->C x->D x->Q):Q:=h.elim λx h0=>k x h0.1 h0.2.1 h0.2.2.1 h0.2.2.2
theorem Ke {α:Sort _} {Q:Prop} {A B C D E:α->Prop} (h:∃x,A x/\B x/\C x/\D x/\E x) (k:∀x,A x->B x->C x->D x->E x->Q):Q:=h.elim λx h0=>k x h0.1 h0.2.1 h0.2.2.1 h0.2.2.2.1 h0.2.2.2.2
theorem Kd {α:Sort _} {Q:Prop} {A B C D E F:α->Prop} (h:∃x,A x/\B x/\C x/\D x/\E x/\F x) (k:∀x,A x->B x->C x->D x->E x->F x->Q):Q:=h.elim λx h0=>k x h0.1 h0.2.1 h0.2.2.1 h0.2.2.2.1 h0.2.2.2.2.1 h0.2.2.2.2.2
theorem AJ {α:Sort _} {β:Sort _} {Q:Prop} {A:α->β->Prop} (h:∃x,∃y,A x y) (k:∀x,∀y,A x y->Q):Q:=h.elim λx h0=>h0.elim λy h1=>k x y h1
theorem o8 {α:Sort _} {β:Sort _} {Q:Prop} {A B:α->β->Prop} (h:∃x,∃y,A x y/\B x y) (k:∀x,∀y,A x y->B x y->Q):Q:=h.elim λx h0=>h0.elim λy h1=>k x y h1.1 h1.2
theorem fB {α:Sort _} {β:Sort _} {Q:Prop} {A B C:α->β->Prop} (h:∃x,∃y,A x y/\B x y/\C x y) (k:∀x,∀y,A x y->B x y->C x y->Q):Q:=h.elim λx h0=>h0.elim λy h1=>k x y h1.1 h1.2.1 h1.2.2
theorem ed {α:Sort _} {β:Sort _} {Q:Prop} {A B C D:α->β->Prop} (h:∃x,∃y,A x y/\B x y/\C x y/\D x y) (k:∀x,∀y,A x y->B x y->C x y->D x y->Q):Q:=h.elim λx h0=>h0.elim λy h1=>k x y h1.1 h1.2.1 h1.2.2.1 h1.2.2.2
theorem DW {α:Sort _} {β:Sort _} {Q:Prop} {A B C D E F:α->β->Prop} (h:∃x,∃y,A x y/\B x y/\C x y/\D x y/\E x y/\F x y) (k:∀x,∀y,A x y->B x y->C x y->D x y->E x y->F x y->Q):Q:=h.elim λx h0=>h0.elim λy h1=>k x y h1.1 h1.2.1 h1.2.2.1 h1.2.2.2.1 h1.2.2.2.2.1 h1.2.2.2.2.2
theorem Kc {α:Sort _} {β:Sort _} {Q:Prop} {A B C D E F G:α->β->Prop} (h:∃x,∃y,A x y/\B x y/\C x y/\D x y/\E x y/\F x y/\G x y) (k:∀x,∀y,A x y->B x y->C x y->D x y->E x y->F x y->G x y->Q):Q:=h.elim λx h0=>h0.elim λy h1=>k x y h1.1 h1.2.1 h1.2.2.1 h1.2.2.2.1 h1.2.2.2.2.1 h1.2.2.2.2.2.1 h1.2.2.2.2.2.2
theorem Kb {α:Sort _} {β:Sort _} {γ:Sort _} {Q:Prop} {A:α->β->γ->Prop} (h:∃x,∃y,∃z,A x y z) (k:∀x,∀y,∀z,A x y z->Q):Q:=h.elim λx h0=>h0.elim λy h1=>h1.elim λz h2=>k x y z h2
theorem GY {α:Sort _} {β:Sort _} {γ:Sort _} {Q:Prop} {A B:α->β->γ->Prop} (h:∃x,∃y,∃z,A x y z/\B x y z) (k:∀x,∀y,∀z,A x y z->B x y z->Q):Q:=h.elim λx h0=>h0.elim λy h1=>h1.elim λz h2=>k x y z h2.1 h2.2
theorem AI {α:Sort _} {β:Sort _} {γ:Sort _} {Q:Prop} {A B C:α->β->γ->Prop} (h:∃x,∃y,∃z,A x y z/\B x y z/\C x y z) (k:∀x,∀y,∀z,A x y z->B x y z->C x y z->Q):Q:=h.elim λx h0=>h0.elim λy h1=>h1.elim λz h2=>k x y z h2.1 h2.2.1 h2.2.2
theorem Ka {α:Sort _} {β:Sort _} {γ:Sort _} {Q:Prop} {A B C D:α->β->γ->Prop} (h:∃x,∃y,∃z,A x y z/\B x y z/\C x y z/\D x y z) (k:∀x,∀y,∀z,A x y z->B x y z->C x y z->D x y z->Q):Q:=h.elim λx h0=>h0.elim λy h1=>h1.elim λz h2=>k x y z h2.1 h2.2.1 h2.2.2.1 h2.2.2.2
theorem xC {α:Sort _} {β:Sort _} {γ:Sort _} {δ:Sort _} {Q:Prop} {A B:α->β->γ->δ->Prop} (h:∃x,∃y,∃z,∃w,A x y z w/\B x y z w) (k:∀x,∀y,∀z,∀w,A x y z w->B x y z w->Q):Q:=h.elim λx h0=>h0.elim λy h1=>h1.elim λz h2=>h2.elim λw h3=>k x y z w h3.1 h3.2
theorem mR {α:Sort _} {β:Sort _} {γ:Sort _} {δ:Sort _} {Q:Prop} {A B C:α->β->γ->δ->Prop} (h:∃x,∃y,∃z,∃w,A x y z w/\B x y z w/\C x y z w) (k:∀x,∀y,∀z,∀w,A x y z w->B x y z w->C x y z w->Q):Q:=h.elim λx h0=>h0.elim λy h1=>h1.elim λz h2=>h2.elim λw h3=>k x y z w h3.1 h3.2.1 h3.2.2
theorem GX {α:Sort _} {β:Sort _} {γ:Sort _} {δ:Sort _} {Q:Prop} {A B C D:α->β->γ->δ->Prop} (h:∃x,∃y,∃z,∃w,A x y z w/\B x y z w/\C x y z w/\D x y z w) (k:∀x,∀y,∀z,∀w,A x y z w->B x y z w->C x y z w->D x y z w->Q):Q:=h.elim λx h0=>h0.elim λy h1=>h1.elim λz h2=>h2.elim λw h3=>k x y z w h3.1 h3.2.1 h3.2.2.1 h3.2.2.2
theorem pT {c:Nat}:1-c<2:=QM (QC 1 c)
theorem LZ {c:Nat} (h:c<2):1- (1-c)=c:=Nat.sub_sub_self (PX h)
theorem FZ {s k:Nat} (h:k<8):(s*8+k) / 8=s:=by rw [Q4,Nat.mul_add_div (by decide),SN h];rfl
theorem L8 {s k:Nat} (h:k<8):(s*8+k)%8=k:=by rw [Q4,Nat.mul_add_mod,So h]
theorem ET {s:Nat}:1-s≠s:=by lia
theorem LY {s x k:Nat} (h:x=(1-s)*8+k) (hk:k<8) (h2:x / 8=s):False:=by rw [h,FZ hk] at h2;exact ET h2
theorem JG:∀x:Nat,x<8->x=0\/x=1\/x=2\/x=3\/x=4\/x=5\/x=6\/x=7:=by decide
theorem JM {k:Nat} (h1:1<=k) (h6:k<=6) (n:¬(k=3\/k=4\/k=5)):k=1\/k=2\/k=6:=(by decide:∀k:Nat,k<7->1<=k->¬(k=3\/k=4\/k=5)->k=1\/k=2\/k=6) k (QM h6) h1 n
theorem EW {t b x:Nat} (h:t<b):(t+b*x) / b=x:=by rw [Nat.add_mul_div_left _ _ (Pm (Qc t) h),SN h,QL]
theorem Kf {t b x:Nat} (h:t<b):(t+b*x)%b=t:=by rw [Nat.add_mul_mod_self_left,So h]
theorem CO {a b n:Nat} (h:1<=b) (h2:a+b<=n):a+b-1<n:=Pa (RE (Pa h (QV b a)) Nat.one_pos) h2
theorem fj:∀c:Nat,c<2->c=0\/c=1:=by decide
theorem n9 {s:Nat} (h:s<2):9-8*s=(1-s)*8+1:=by rcases fj s h with rfl | rfl<;>rfl
theorem n8 {s:Nat} (h:s<2):8*s<=9:=Pb (RU 8 (PX h)) (by decide)
theorem OC {s:Nat} (h:s<2):14-8*s=(1-s)*8+6:=by rcases fj s h with rfl | rfl<;>rfl
theorem Ot {x s:Nat} (h:s<2):((x≠0/\x%8=1)/\x≠0/\x / 8=1-s)↔x=9-8*s:=by
 rcases fj s h with rfl | rfl
 ·refine ⟨λ⟨⟨_,a⟩,_,b⟩=>?_,λe=>by subst e;decide⟩;have:=QW x 8;rw [a,b] at this;exact this.symm
 ·refine ⟨λ⟨⟨_,a⟩,_,b⟩=>?_,λe=>by subst e;decide⟩;have:=QW x 8;rw [a,b] at this;exact this.symm
universe uu
@[irreducible] noncomputable def ep {α:Type uu} (S:α->Prop) (x:α):α:=open Classical in if h:∃y,¬S y then h.choose else x
theorem ao {α:Type uu} {S:α->Prop} {x:α} (h:S (ep S x)) (y:α):S y:=Classical.byContradiction λn=>by
 delta ep at h;rw [dif_pos ⟨y,n⟩] at h;exact Exists.choose_spec (⟨y,n⟩:∃y,¬S y) h
theorem lb {a b c:Nat} (h:a<b) (k:Nat.ble b c=true):a<c:=Pa h (Qi k)
theorem Lb {a b c:Nat} (h:a<=b) (k:Nat.ble b c=true):a<=c:=Pb h (Qi k)
theorem lB {a b c:Nat} (h:a<=b) (k:Nat.ble (b+1) c=true):a<c:=Pa (QM h) (Qi k)
theorem Ll {a b c:Nat} (h:a<b) (k:Nat.ble b (c+1)=true):a<=c:=PX (lb h k)
theorem bL {a b c:Nat} (h:b<=a) (k:Nat.ble c b=true):c<=a:=Pb (Qi k) h
theorem bl {a b c:Nat} (h:b<=a) (k:Nat.ble (c+1) b=true):c<a:=Pa (Qi k) h
theorem fX {a b c d:Nat} (h:a<b) (g:b<=c) (k:Nat.ble c d=true):a<d:=lb (Pa h g) k
theorem gw {a b c d:Nat} (h:a<b) (g:b<=c) (k:Nat.ble c (d+1)=true):a<=d:=Ll (Pa h g) k
theorem LF {a b c d:Nat} (h:a<=b) (g:b<=c) (k:Nat.ble (c+1) d=true):a<d:=lB (Pb h g) k
theorem Mt {a b c d:Nat} (h:a<=b) (g:b<=c) (k:Nat.ble c d=true):a<=d:=Lb (Pb h g) k
theorem I1 {a b c d:Nat} (h:a<=b) (g:b<c) (k:Nat.ble c d=true):a<d:=lb (Pm h g) k
theorem sb {a b c d:Nat} (h:a<=b) (k:Nat.ble b c=true):a-d<=c:=Pb (QC ..) (Lb h k)
theorem zL {a b c:Int} (h:a<=b) (k:decide (b<=c)=true):a<=c:=Rq h (Pj k)
theorem zl {a b c:Int} (h:a<=b) (k:decide (b<c)=true):a<c:=Int.lt_of_le_of_lt h (Pj k)
theorem Lz {a b c:Int} (h:b<=a) (k:decide (c<=b)=true):c<=a:=Rq (Pj k) h
theorem rC {x a b:Nat} (h:x=a+(b+1)):x≠0:=λe=>nomatch h.symm.trans e
theorem kx {a b:Nat}:a+(b+1)≠0:=Nat.succ_ne_zero _
theorem Ml {x s k:Nat} (h:x=s*8+k) (q:Nat.ble (k+1) 8=true):x%8=k:=by rw [h];exact L8 (Qi q)
theorem J9 {x s k:Nat} (h:x=s*8+k) (q:Nat.ble (k+1) 8=true):x / 8=s:=by rw [h];exact FZ (Qi q)
theorem mk8 {x s k:Nat} (h:x / 8=s) (q:x%8=k):x=s*8+k:=by rw [<- h,<- q,Q4];exact (QW x 8).symm
theorem JD {x s k:Nat} (h:x / 8=s) (q:x%8=k):s*8+k=x:=(mk8 h q).symm
theorem w8 {x s k j:Nat} (h:x=s*8+k) (g:x%8=j) (q:Nat.ble (k+1) 8=true) (n:Nat.beq k j=false):False:=by
 have e:=(Ml h q).symm.trans g;rw [e,Nat.beq_refl] at n;cases n
theorem yW {x:Nat} (h:x<15):x / 8<2:=QQ (Pa h (by decide))
theorem L9 {x:Nat} (h:1<=x%8):x≠0:=λe=>by rw [e] at h;exact absurd h (by decide)
theorem dv {a b c:Nat} (h:a<b) (q:Nat.ble b c=true) {d:Nat}:a / d<c:=Pm (Sv ..) (lb h q)
theorem Jx {s f:Nat} (h:s<2) (g:f<4):s*8+(f+2)<15:=by lia
theorem Ou {s f:Nat} (g:f<4):(s*8+(f+2)) / 8=s:=FZ (Sr (Pa g (by decide:4<=6)) 2)
theorem L4 {s f:Nat} (g:f<4):(s*8+(f+2))%8=f+2:=L8 (Sr (Pa g (by decide:4<=6)) 2)
theorem Jw {s f:Nat} (g:f<4):(s*8+(f+2))%8<=6:=by rw [L4 g];exact Pb (RL (PX g) 2) (by decide)
theorem Jy {s f:Nat} (g:f<4):1<=(s*8+(f+2))%8:=by rw [L4 g];exact QV 1 (f+1)
theorem Oi {s k:Nat} (h:s<2) (g:Nat.ble k 6=true):s*8+k<15:=by have:=Qi g;lia
theorem OP {i s:Nat} (h:i / 2=s) (g:i%2=0):2*s=i:=by have:=QW i 2;rw [g,h] at this;exact this
theorem OO {i s:Nat} (h:i / 2=s):i=2*s\/i=2*s+1:=by lia
theorem OD {o t f:Nat} (h:t=o+2*f):(o+t) / 2=o+f:=by lia
theorem L7 {o t f:Nat} (h:o=t+2*f):(o+t) / 2=t+f:=by lia
theorem FK {o t:Nat} (h:o<64) (g:t<64):2^6*o+t<2^12:=by lia
theorem I7 {c:Nat} (h:c<2) (n:¬c=0):c=1:=QU (PX h) (PF n)
theorem B3 {k:Nat} (h:k≠1) (g:k≠0):2<=k:=P9 (PF g) (Ne.symm h)
theorem p0 {y:Nat} (h:y≠0):(0:Int)<y:=Int.natCast_pos.mpr (PF h)
theorem pz {y:Nat} (h:y≠0):¬(y:Int)=0:=λe=>h (Su e)
theorem s1 {a b c:Nat} (h:c<=a) (k:Nat.ble 1 c=true):a- (b+1)<a:=RE (bl h k) (Nat.succ_pos b)
theorem ad {a b:Nat} (h:a<=b) {c:Nat}:a+(b-a+c)=b+c:=by rw [<- Q0,Qk h]
theorem L6 {x:Nat} (h:x%2≠0):x%2=1:=(RJ x).resolve_left h
theorem FN {x:Nat}:¬x%2=0↔x%2=1:=⟨L6,λh e=>nomatch h.symm.trans e⟩
theorem Mn {c y o f:Nat} (h:y>=1) (k:c=0/\y-1=o+f\/c=1/\o=y-1+f):c=0/\y=o+f+1\/c=1/\y+f=o+1:=
 k.elim (λk=>.inl ⟨k.1,by rw [<- k.2,Rz h]⟩) λk=>.inr ⟨k.1,by rw [k.2,RY,Rz h]⟩
theorem OU {b:Nat} (h0:b≠0) (e:b%2=0):(b-1) / 2=b / 2-1:=by
 have hb:b=2*(b / 2):=by have:=QW b 2;rw [e] at this;exact this.symm
 cases hk:b / 2 with
 | zero=>rw [hk] at hb;exact absurd hb h0
 | succ m=>
  rw [hk] at hb;rw [hb];show (2*m+1) / 2=m;rw [Nat.mul_add_div (by decide)];rfl
theorem OB {b:Nat} (e:b%2=1):(b-1) / 2=b / 2:=by
 have hb:=QW b 2;rw [e] at hb
 have:b-1=2*(b / 2):=by rw [<- hb];show 2*(b / 2)=2*((2*(b / 2)+1) / 2);rw [Nat.mul_add_div (by decide)];rfl
 rw [this,Nat.mul_div_cancel_left _ (by decide)]
theorem Fd {r:Nat} (h:5<=r):r-3+2<=r:=Pb (Qe (by decide:2<=3) _) (Qt (Rz (Pb (by decide) h)))
theorem OM {k:Nat} (h:k=2\/k=3\/k=4\/k=5):2<=k/\k<=5:=by rcases h with rfl | rfl | rfl | rfl<;>decide
theorem OL {k:Nat} (h:k=2\/k=3\/k=4\/k=5\/k=6):2<=k/\k<=6:=by rcases h with rfl | rfl | rfl | rfl | rfl<;>decide
end Internal
end
section
open PySem PyProof.Rows
namespace Internal
noncomputable def fK:Bool->Keyed->Array Keyed->Nat->Nat->Nat->StateT SortSt Sem (Option Nat):=sortPriv%PySem.Builtin.gallop
noncomputable def dC:Nat->StateT SortSt Sem Unit:=sortPriv%PySem.Builtin.setMinGallop
noncomputable def lU:Array Keyed->Array Keyed->StateT SortSt Sem (Array Keyed):=sortPriv%PySem.Builtin.mergeLo
noncomputable def lV:Array Keyed->Array Keyed->StateT SortSt Sem (Array Keyed):=sortPriv%PySem.Builtin.mergeHi
structure WB (a₀:Array Keyed) (st:SortSt):Prop where
 perm:(arrOf st).Perm a₀
 kind:kindOf st=oneType'
 failed:failedOf st=none
def Aq (p:Keyed):Prop:=∃n t,p.1=.int n t
section
variable {prog:Program} {w:World} {A:Around} {E:Value->Shared->Prop} {s:Shared} {a₀:Array Keyed} {st:SortSt}
theorem WB.Aq (h:WB a₀ st) (h0:IntKeys a₀) {i:Nat} (hi:i<a₀.size):∃p,(arrOf st)[i]?=some p/\Aq p:=by
 have hi':i<(arrOf st).size:=by rw [h.perm.size_eq];exact hi
 exact ⟨_,P8 _ i hi',h0 _ ((RK.mp h.perm).mem_iff.mp (by simp))⟩
theorem ct {arr:Array Keyed} {i:Nat} {p:Keyed} {Q:Keyed->SortSt->Prop} (hp:arr[i]?=some p) (h:Q p st):wpS (model prog w) A E s (elem' arr i) Q st:=by
 rw [elem'_eq,hp];exact wpS_pure h
theorem wL {x y:Keyed} {Q:Option Bool->SortSt->Prop} (hk:kindOf st=oneType') (hx:Aq x) (hy:Aq y) (h:∀b,Q (some b) st):wpS (model prog w) A E s (lt' x y) Q st:=by
 refine AJ hx λa t ex=>?_;refine AJ hy λb u ey=>?_;rw [lt'_eq];refine wpS_bind (wpS_get ?_);rw [hk,keyLt'_oneType,ex,ey];refine wpS_bind (wpS_lift (wpAny_attempt (oneLt_int ⟨rfl,?_⟩)));exact wpS_pure (h _)
theorem l8 {i j:Nat} {Q:Option Bool->SortSt->Prop} (hB:WB a₀ st) (h0:IntKeys a₀) (hi:i<a₀.size) (hj:j<a₀.size) (h:∀b,Q (some b) st):wpS (model prog w) A E s (ltAt' i j) Q st:=by
 refine aq (hB.Aq h0 hi) λp e1 i1=>?_;refine aq (hB.Aq h0 hj) λq e2 i2=>?_;rw [ltAt'_eq];refine wpS_bind (wpS_get ?_);refine wpS_bind (ct e1 ?_);refine wpS_bind (ct e2 ?_);exact wL hB.kind i1 i2 h
theorem nC {β:Type} {a b:Nat} {f:Nat->β->StateT SortSt Sem (ForInStep β)} (I:β->SortSt->Prop) {Q:β->SortSt->Prop}
 (hstep:∀i c st,a<=i->i<b->I c st->wpS (model prog w) A E s (f i c) (λr st'=>match r with | .done c'=>Q c' st' | .yield c'=>I c' st') st)
 (hend:∀c st,I c st->Q c st) {c:β} (h:I c st):wpS (model prog w) A E s (forIn [a:b] c f) Q st:=
 wpS_forRange (I:=λ_=>I) hstep hend h
noncomputable def Az (left:Bool) (key:Keyed) (arr:Array Keyed) (i:Nat):StateT SortSt Sem (Option Bool):=
 elem' arr i >>= λx=>if left=true then lt' x key else lt' key x >>= λr=>pure (r.map (!·))
noncomputable def OQ (bey:Nat->StateT SortSt Sem (Option Bool)) (f:Nat->Nat) (mx:Nat) (neg:Bool) (_:Nat) (c:Option (Option Nat)×Nat×Nat):StateT SortSt Sem (ForInStep (Option (Option Nat)×Nat×Nat)):=
 if c.2.2>=mx then pure (.done (none,c.2)) else bey (f c.2.2) >>= λr=>match r with
  | some b=>if (bif neg then !b else b)=true then pure (.done (none,c.2)) else pure (.yield (none,c.2.2,2*c.2.2+1))
  | _=>pure (.done (some none,c.2))
noncomputable def J6 (bey:Nat->StateT SortSt Sem (Option Bool)) (_:Nat) (c:Option (Option Nat)×Nat×Nat):StateT SortSt Sem (ForInStep (Option (Option Nat)×Nat×Nat)):=
 if c.2.1>=c.2.2 then pure (.done (none,c.2)) else bey (c.2.1+(c.2.2-c.2.1) / 2) >>= λr=>match r with
  | some b=>if b=true then pure (.yield (none,c.2.1+(c.2.2-c.2.1) / 2+1,c.2.2)) else pure (.yield (none,c.2.1,c.2.1+(c.2.2-c.2.1) / 2))
  | _=>pure (.done (some none,c.2))
noncomputable def GK (bey:Nat->StateT SortSt Sem (Option Bool)) (n lo hi:Nat):StateT SortSt Sem (Option Nat):=
 forIn [0:n] ((none,lo,hi):Option (Option Nat)×Nat×Nat) (J6 bey) >>= λc=>match c.1 with
  | some r=>pure r
  | none=>pure (some c.2.2)
noncomputable def DS (bey:Nat->StateT SortSt Sem (Option Bool)) (n:Nat) (f:Nat->Nat) (mx:Nat) (neg:Bool) (lo hi:Nat->Nat->Nat):StateT SortSt Sem (Option Nat):=
 forIn [0:n] ((none,0,1):Option (Option Nat)×Nat×Nat) (OQ bey f mx neg) >>= λc=>match c.1 with
  | some r=>pure r
  | none=>GK bey n (lo c.2.1 c.2.2) (hi c.2.1 c.2.2)
theorem rL (left:Bool) (key:Keyed) (arr:Array Keyed) (base n hint:Nat):fK left key arr base n hint =
 (Az left key arr (base+hint) >>= λr=>match r with
  | some right=>
   if right=true then DS (λi=>Az left key arr (base+i)) n (λo=>hint+o) (n-hint) true (λl _=>hint+l+1) (λ_ o=>hint+min o (n-hint))
   else DS (λi=>Az left key arr (base+i)) n (λo=>hint-o) (hint+1) false (λ_ o=>hint+1-min o (hint+1)) (λl _=>hint-l)
  | _=>pure none):=by kernel_rfl
theorem bZ {α:Type} {c:Prop} [Decidable c] {m n:StateT SortSt Sem α} {Q:α->SortSt->Prop} (h1:c->wpS (model prog w) A E s m Q st) (h2:¬c->wpS (model prog w) A E s n Q st):wpS (model prog w) A E s (if c then m else n) Q st:=by
 by_cases h:c
 ·rw [Po h];exact h1 h
 ·rw [Pf h];exact h2 h
theorem tx {β:Type} {a b:Nat} {f:Nat->β->StateT SortSt Sem (ForInStep β)} (I:β->Prop) {Q:β->SortSt->Prop}
 (hstep:∀i c,I c->wpS (model prog w) A E s (f i c) (λr st'=>st'=st/\match r with | .done c'=>I c' | .yield c'=>I c') st) {c:β} (h:I c) (hend:∀c,I c->Q c st):wpS (model prog w) A E s (forIn [a:b] c f) Q st:=
 wpS_mono (nC (λc st'=>st'=st/\I c) (Q:=λc st'=>st'=st/\I c) (λi c st' _ _ ⟨e,hc⟩=>by
  subst e;refine wpS_mono (hstep i c hc) λr st2 h=>?_
  cases r<;>exact h) (λ_ _ h=>h) ⟨rfl,h⟩) λc st' ⟨e,hc⟩=>by subst e;exact hend c hc
theorem Dn {bey:Nat->StateT SortSt Sem (Option Bool)} {n lo hi:Nat} {Q:Option Nat->SortSt->Prop} (hb:∀{i:Nat} {Q:Option Bool->SortSt->Prop},i<n->(∀b,Q (some b) st)->wpS (model prog w) A E s (bey i) Q st)
 (h1:hi<=n) (h:∀r,r<=n->Q (some r) st):wpS (model prog w) A E s (GK bey n lo hi) Q st:=by
 refine wpS_bind (tx (λc=>c.1=none/\c.2.2<=n) (λi c ⟨e,l⟩=>?a) ⟨rfl,h1⟩ λc ⟨e,l⟩=>?b)
 case a=>
  refine bZ (λ_=>wpS_pure ⟨rfl,rfl,l⟩) λz=>?_
  have m1:c.2.1+(c.2.2-c.2.1) / 2<n:=by lia
  exact wpS_bind (hb m1 λb=>bZ (λ_=>wpS_pure ⟨rfl,rfl,l⟩) λ_=>wpS_pure ⟨rfl,rfl,Pw m1⟩)
 case b=>
  obtain ⟨r,c⟩:=c;cases e;exact wpS_pure (h _ l)
theorem wO {bey:Nat->StateT SortSt Sem (Option Bool)} {n mx:Nat} {f:Nat->Nat} {neg:Bool} {lo hi:Nat->Nat->Nat} {Q:Option Nat->SortSt->Prop} (hb:∀{i:Nat} {Q:Option Bool->SortSt->Prop},i<n->(∀b,Q (some b) st)->wpS (model prog w) A E s (bey i) Q st)
 (hf:∀o,o<mx->f o<n) (h1:∀l o,hi l o<=n) (h:∀r,r<=n->Q (some r) st):wpS (model prog w) A E s (DS bey n f mx neg lo hi) Q st:=by
 refine wpS_bind (tx (λc=>c.1=none) (λi c e=>?a) rfl λc e=>?b)
 case a=>exact bZ (λ_=>wpS_pure ⟨rfl,rfl⟩) λz=>wpS_bind (hb (hf _ (Nat.lt_of_not_le z)) λb=>bZ (λ_=>wpS_pure ⟨rfl,rfl⟩) λ_=>wpS_pure ⟨rfl,rfl⟩)
 case b=>
  obtain ⟨r,c⟩:=c;cases e;exact Dn hb (h1 _ _) h
theorem gc {left:Bool} {key:Keyed} {arr:Array Keyed} {base n hint:Nat} {Q:Option Nat->SortSt->Prop} (hk:kindOf st=oneType') (hkey:Aq key) (ha:IntKeys arr) (hh:hint<n) (hsz:base+n<=arr.size)
 (h:∀r,r<=n->Q (some r) st):wpS (model prog w) A E s (fK left key arr base n hint) Q st:=by
 have bey:∀{i:Nat} {Q:Option Bool->SortSt->Prop},i<n->(∀b,Q (some b) st)->wpS (model prog w) A E s (Az left key arr (base+i)) Q st:=λ{i Q} hi h=>by
  have hi':base+i<arr.size:=Pa (Te hi base) hsz;have hx:Aq arr[base+i]:=ha _ (by simp);exact wpS_bind (ct (P8 arr (base+i) hi') (bZ (λ_=>wL hk hx hkey h) λ_=>wpS_bind (wL hk hkey hx λb=>wpS_pure (h _))))
 rw [rL];exact wpS_bind (bey hh λb=>bZ (λ_=>wO bey (λo z=>by lia) (λl o=>by lia) h) λ_=>wO bey (λo z=>Pm (QC _ _) hh) (λl o=>Pb (QC _ _) (Pw hh)) h)
end
noncomputable abbrev bO (st:SortSt) (g:Nat):SortSt:=SortSt.mk' (kindOf st) (arrOf st) (pendingOf st) g (failedOf st)
theorem jG (g:Nat):dC g=modify λs=>bO s g:=rfl
noncomputable abbrev SM:=StateT SortSt Sem
noncomputable abbrev S0 (X Y Z:Type):=Option (Array Keyed)×X×Y×Z×Nat
noncomputable abbrev S1 (X Y Z:Type):=Option (Array Keyed)×X×Y×Z×Nat×Nat
noncomputable abbrev S2 (X Y Z:Type):=Option (Array Keyed)×X×Y×Z×Nat×Nat×Nat
section
variable {X Y Z:Type}
noncomputable def OI (n:Nat) (f:Nat->S2 X Y Z->SM (ForInStep (S2 X Y Z))) (mg:Nat) (s1:S1 X Y Z):SM (ForInStep (S0 X Y Z)):=match s1.1 with
 | some r=>pure (.done (some r,s1.2.1,s1.2.2.1,s1.2.2.2.1,mg))
 | none=>do
  rule "list.sort.gallop"
  let s2 <- forIn [0:n] ((none,s1.2.1,s1.2.2.1,s1.2.2.2.1,mg+1,s1.2.2.2.2.1,s1.2.2.2.2.2):S2 X Y Z) f
  match s2.1 with
  | some r=>pure (.done (some r,s2.2.1,s2.2.2.1,s2.2.2.2.1,s2.2.2.2.2.1))
  | none=>do
   dC (s2.2.2.2.2.1+1)
   pure (.yield (none,s2.2.1,s2.2.2.1,s2.2.2.2.1,s2.2.2.2.2.1+1))
noncomputable def l0 (n:Nat) (f1:Nat->Nat->S1 X Y Z->SM (ForInStep (S1 X Y Z))) (f2:Nat->S2 X Y Z->SM (ForInStep (S2 X Y Z))) (_:Nat) (c:S0 X Y Z):SM (ForInStep (S0 X Y Z)):=do
 let s1 <- forIn [0:n] ((none,c.2.1,c.2.2.1,c.2.2.2.1,0,0):S1 X Y Z) (f1 c.2.2.2.2)
 OI n f2 c.2.2.2.2 s1
noncomputable def Dg (n:Nat) (f1:Nat->Nat->S1 X Y Z->SM (ForInStep (S1 X Y Z))) (f2:Nat->S2 X Y Z->SM (ForInStep (S2 X Y Z))) (x:X) (y:Y) (z:Z):SM (Array Keyed):=do
 let st <- get
 let c <- forIn [0:n] ((none,x,y,z,gallopOf st):S0 X Y Z) (l0 n f1 f2)
 match c.1 with
 | some r=>pure r
 | none=>unsupported "internal:list.sort.merge-bound"
end
section
variable {prog:Program} {w:World} {A:Around} {E:Value->Shared->Prop} {s:Shared} {a₀:Array Keyed} {st:SortSt}
theorem wN {g:Nat} {Q:Unit->SortSt->Prop} (h:Q () (bO st g)):wpS (model prog w) A E s (dC g) Q st:=by
 rw [jG];exact wpS_modify h
theorem fQ {α:Type} {x y:Nat} {m n:StateT SortSt Sem α} {Q:α->SortSt->Prop} (h1:x=y->wpS (model prog w) A E s m Q st) (h2:x≠y->wpS (model prog w) A E s n Q st):wpS (model prog w) A E s (if (x == y)=true then m else n) Q st:=
 bZ (λh=>h1 (QJ.mp h)) λh=>h2 λe=>h (QJ.mpr e)
variable {X Y Z:Type}
def D1 (F:Array Keyed->Prop) (J:Prop) (r:Option (Array Keyed)):Prop:=(∃r',r=some r'/\F r')\/(r=none/\J)
def EJ (F:Array Keyed->Prop) (J:X->Y->Z->Prop):ForInStep (S1 X Y Z)->Prop
 | .done c=>D1 F (J c.2.1 c.2.2.1 c.2.2.2.1) c.1
 | .yield c=>c.1=none/\J c.2.1 c.2.2.1 c.2.2.2.1
def A4 (F:Array Keyed->Prop) (J:X->Y->Z->Prop):ForInStep (S2 X Y Z)->Prop
 | .done c=>D1 F (J c.2.1 c.2.2.1 c.2.2.2.1) c.1
 | .yield c=>c.1=none/\J c.2.1 c.2.2.1 c.2.2.2.1
def mG {α:Type} (st:SortSt) (P:α->Prop) (r:α) (st':SortSt):Prop:=(∃g,st'=bO st g)/\P r
theorem aZ {α:Type} {g:Nat} {P:α->Prop} {r:α} (h:P r):wpS (model prog w) A E s (pure r:SM α) (mG st P) (bO st g):=wpS_pure ⟨⟨_,rfl⟩,h⟩
noncomputable def dW:World:={ draws:=λ_ _=>0,params:={ strHash:=λ_=>0,shareClass:=λ_=>0,mergeTok:=id,idOf:=λ_=>0,idOfShared:=λ_ _=>0,followText:=λ_=>false,idOfImm:=λ_=>0 } }
def g5 {n:Nat} {f1:Nat->Nat->S1 X Y Z->SM (ForInStep (S1 X Y Z))} {f2:Nat->S2 X Y Z->SM (ForInStep (S2 X Y Z))} {F:Array Keyed->Prop} {J:Nat->X->Y->Z->Prop} {Q:Array Keyed->SortSt->Prop}:Prop:=∀(n1:1<=n) (mono:∀{m k x y z},J m x y z->k<=m->J k x y z) (bad:∀{x y z},¬J (n+1) x y z)
 (h1:∀{g mg i m c},J m c.2.1 c.2.2.1 c.2.2.2.1->wpS (model prog w) A E s (f1 mg i c) (mG st (EJ F (J (m+1)))) (bO st g))
 (h2:∀{g i m c},J m c.2.1 c.2.2.1 c.2.2.2.1->wpS (model prog w) A E s (f2 i c) (mG st (A4 F (J m))) (bO st g))
 {x:X} {y:Y} {z:Z} (h0:J 1 x y z) (h:∀r g,F r->Q r (bO st g)),wpS (model prog w) A E s (Dg n f1 f2 x y z) Q st
theorem tu {n:Nat} {f1:Nat->Nat->S1 X Y Z->SM (ForInStep (S1 X Y Z))} {f2:Nat->S2 X Y Z->SM (ForInStep (S2 X Y Z))} {F:Array Keyed->Prop} {J:Nat->X->Y->Z->Prop} {Q:Array Keyed->SortSt->Prop}:@g5 prog w A E s st X Y Z n f1 f2 F J Q:=ao (S:=λt:Type×Type×Type=>∀prog w A E s st n f1 f2 F J Q,@g5 prog w A E s st t.1 t.2.1 t.2.2 n f1 f2 F J Q) (x:=(Nat,Nat,Nat)) (by
 refine (?_:∀X Y Z prog w A E s st n f1 f2 F J Q,@g5 prog w A E s st X Y Z n f1 f2 F J Q) _ _ _;intro X Y Z prog w A E s st n f1 f2 F J Q;refine ao (S:=λx:Program×World×Around×(Value->Shared->Prop)×Shared×SortSt×Nat×(Nat->Nat->S1 X Y Z->SM (ForInStep (S1 X Y Z)))×(Nat->S2 X Y Z->SM (ForInStep (S2 X Y Z)))×(Array Keyed->Prop)×(Nat->X->Y->Z->Prop)×(Array Keyed->SortSt->Prop)=>@g5 x.1 x.2.1 x.2.2.1 x.2.2.2.1 x.2.2.2.2.1 x.2.2.2.2.2.1 X Y Z x.2.2.2.2.2.2.1 x.2.2.2.2.2.2.2.1 x.2.2.2.2.2.2.2.2.1 x.2.2.2.2.2.2.2.2.2.1 x.2.2.2.2.2.2.2.2.2.2.1 x.2.2.2.2.2.2.2.2.2.2.2) (x:=(default,dW,{},λ_ _=>True,{},.mk' oneType' #[] #[] 0 none,0,λ_ _ c=>pure (.done c),λ_ c=>pure (.done c),λ_=>True,λ_ _ _ _=>True,λ_ _=>True)) ?_ (prog,w,A,E,s,st,n,f1,f2,F,J,Q);refine (?_:∀prog w A E s st n f1 f2 F J Q,@g5 prog w A E s st X Y Z n f1 f2 F J Q) _ _ _ _ _ _ _ _ _ _ _ _;intro prog w A E s st n f1 f2 F J Q n1 mono bad h1 h2 x y z h0 h
 refine wpS_bind (wpS_get (wpS_bind (wpS_mono (wpS_forRange (λi c=>mG st (λc:S0 X Y Z=>c.1=none/\J (i+1) c.2.1 c.2.2.1 c.2.2.2.1) c) (Q:=mG st λc:S0 X Y Z=>∃r,c.1=some r/\F r)
  (λi c st' _ _ hI=>?_) (λc st' hI=>absurd hI.2.2 ?_) ⟨⟨gallopOf st,rfl⟩,rfl,h0⟩) λc st' hQ=>?_)))
 ·refine dH hI ?_;rintro ⟨g,rfl⟩ _ hJ
  refine wpS_bind (wpS_mono (wpS_forRange (λk c=>mG st (λc:S1 X Y Z=>c.1=none/\J (i+1+k) c.2.1 c.2.2.1 c.2.2.2.1) c) (Q:=mG st λc:S1 X Y Z=>D1 F (J (i+1+1) c.2.1 c.2.2.1 c.2.2.2.1) c.1)
   (λk c1 st' _ _ hI=>?_) (λc st' hI=>⟨hI.1,.inr ⟨hI.2.1,mono hI.2.2 (Qe (Pb n1 (Nat.le_max_right 0 n)) _)⟩⟩) ⟨⟨g,rfl⟩,rfl,hJ⟩) λc1 st' hQ=>?_)
  ·refine dH hI ?_;rintro ⟨g,rfl⟩ _ hJ;refine wpS_mono (h1 hJ) λr st' hr=>?_
   cases r with
   | done c=>exact ⟨hr.1,hr.2.imp id λq=>⟨q.1,mono q.2 (RL (PK _ _) 1)⟩⟩
   | yield c=>exact hr
  ·refine aD hQ ?_;rintro ⟨g,rfl⟩ hD;obtain ⟨r,c1⟩:=c1;rcases hD with ⟨r',rfl,hF⟩ | ⟨rfl,hJ⟩
   ·exact wpS_pure ⟨⟨g,rfl⟩,r',rfl,hF⟩
   ·refine wpS_bind (wpS_lift (wpAny_rule ⟨rfl,?_⟩))
    refine wpS_bind (wpS_mono (wpS_forRange (λ_ c=>mG st (λc:S2 X Y Z=>c.1=none/\J (i+1+1) c.2.1 c.2.2.1 c.2.2.2.1) c) (Q:=mG st λc:S2 X Y Z=>D1 F (J (i+1+1) c.2.1 c.2.2.1 c.2.2.2.1) c.1)
     (λk c1 st' _ _ hI=>?_) (λc st' hI=>⟨hI.1,.inr hI.2⟩) ⟨⟨g,rfl⟩,rfl,hJ⟩) λc1 st' hQ=>?_)
    ·refine dH hI ?_;rintro ⟨g,rfl⟩ _ hJ;refine wpS_mono (h2 hJ) λr st' hr=>?_
     cases r<;>exact hr
    ·refine aD hQ ?_;rintro ⟨g,rfl⟩ hD;obtain ⟨r,c1⟩:=c1;rcases hD with ⟨r',rfl,hF⟩ | ⟨rfl,hJ⟩
     ·exact wpS_pure ⟨⟨g,rfl⟩,r',rfl,hF⟩
     ·exact wpS_bind (wN (wpS_pure ⟨⟨_,rfl⟩,rfl,hJ⟩))
 ·rw [Nat.zero_max];exact bad
 ·obtain ⟨⟨g,rfl⟩,r,hr,hF⟩:=hQ;obtain ⟨_,c⟩:=c;cases hr
  exact wpS_pure (h _ _ hF)) (X,Y,Z) _ _ _ _ _ _ _ _ _ _ _ _
end
noncomputable def BI (a b out:Array Keyed) (i j:Nat):Array Keyed:=out++a.extract i a.size++b.extract j b.size
noncomputable def IP (a b out:Array Keyed) (i j:Nat):Array Keyed:=out++b.extract j b.size++a.extract i a.size
noncomputable def Mb (a b:Array Keyed) (mg:Nat) (out:Array Keyed) (i j bc:Nat):SM (ForInStep (S1 (Array Keyed) Nat Nat)):=do
 let x <- elem' b j
 if (j+1 == b.size)=true then pure (.done (some (BI a b (out.push x) i (j+1)),out.push x,i,j+1,0,bc+1))
 else if bc+1>=mg then pure (.done (none,out.push x,i,j+1,0,bc+1)) else pure (.yield (none,out.push x,i,j+1,0,bc+1))
noncomputable def Mc (a b:Array Keyed) (mg:Nat) (out:Array Keyed) (i j ac:Nat):SM (ForInStep (S1 (Array Keyed) Nat Nat)):=do
 let x <- elem' a i
 if (i+1+1 == a.size)=true then pure (.done (some (IP a b (out.push x) (i+1) j),out.push x,i+1,j,ac+1,0))
 else if ac+1>=mg then pure (.done (none,out.push x,i+1,j,ac+1,0)) else pure (.yield (none,out.push x,i+1,j,ac+1,0))
noncomputable def l1 (a b:Array Keyed) (mg:Nat) (_:Nat) (c:S1 (Array Keyed) Nat Nat):SM (ForInStep (S1 (Array Keyed) Nat Nat)):=do
 let x <- elem' b c.2.2.2.1
 let y <- elem' a c.2.2.1
 let r <- lt' x y
 match r with
 | some bw=>if bw=true then Mb a b mg c.2.1 c.2.2.1 c.2.2.2.1 c.2.2.2.2.2 else Mc a b mg c.2.1 c.2.2.1 c.2.2.2.1 c.2.2.2.2.1
 | _=>pure (.done (some (BI a b c.2.1 c.2.2.1 c.2.2.2.1),c.2))
noncomputable def JI (a b:Array Keyed) (mg k k2:Nat) (out:Array Keyed) (i j:Nat):SM (ForInStep (S2 (Array Keyed) Nat Nat)):=do
 let y <- elem' a i
 if (i+1+1 == a.size)=true then pure (.done (some (IP a b (out.push y) (i+1) j),out.push y,i+1,j,mg,k,k2))
 else if (decide (k<7) && decide (k2<7))=true then pure (.done (none,out.push y,i+1,j,mg,k,k2)) else pure (.yield (none,out.push y,i+1,j,mg,k,k2))
noncomputable def JJ (a b:Array Keyed) (mg k bc:Nat) (out:Array Keyed) (i j:Nat):SM (ForInStep (S2 (Array Keyed) Nat Nat)):=
 elem' b j >>= λx=>
 if (j+1 == b.size)=true then pure (.done (some (BI a b (out.push x) i (j+1)),out.push x,i,j+1,mg,k,bc)) else
 elem' a i >>= λy=>fK true y b (j+1) (b.size- (j+1)) 0 >>= λr=>match r with
  | some k2=>
   if k2>0 then
    if (j+1+k2 == b.size)=true then pure (.done (some (BI a b (out.push x++b.extract (j+1) (j+1+k2)) i (j+1+k2)),out.push x++b.extract (j+1) (j+1+k2),i,j+1+k2,mg,k,k2))
    else JI a b mg k k2 (out.push x++b.extract (j+1) (j+1+k2)) i (j+1+k2)
   else JI a b mg k k2 (out.push x) i (j+1)
  | _=>pure (.done (some (BI a b (out.push x) i (j+1)),out.push x,i,j+1,mg,k,bc))
noncomputable def JK (a b:Array Keyed) (mg:Nat) (c:Array Keyed×Nat×Nat×Nat×Nat×Nat):SM (ForInStep (S2 (Array Keyed) Nat Nat)):=
 dC mg >>= λ_=>elem' b c.2.2.1 >>= λx=>fK false x a c.2.1 (a.size-c.2.1) 0 >>= λr=>match r with
 | some k=>
  if k>0 then
   if (c.2.1+k+1 == a.size)=true then pure (.done (some (IP a b (c.1++a.extract c.2.1 (c.2.1+k)) (c.2.1+k) c.2.2.1),c.1++a.extract c.2.1 (c.2.1+k),c.2.1+k,c.2.2.1,mg,k,c.2.2.2.2.2))
   else if (c.2.1+k == a.size)=true then pure (.done (some (BI a b (c.1++a.extract c.2.1 (c.2.1+k)) (c.2.1+k) c.2.2.1),c.1++a.extract c.2.1 (c.2.1+k),c.2.1+k,c.2.2.1,mg,k,c.2.2.2.2.2))
   else JJ a b mg k c.2.2.2.2.2 (c.1++a.extract c.2.1 (c.2.1+k)) (c.2.1+k) c.2.2.1
  else JJ a b mg k c.2.2.2.2.2 c.1 c.2.1 c.2.2.1
 | _=>pure (.done (some (BI a b c.1 c.2.1 c.2.2.1),c.1,c.2.1,c.2.2.1,mg,c.2.2.2.2))
noncomputable def l2 (a b:Array Keyed) (_:Nat) (c:S2 (Array Keyed) Nat Nat):SM (ForInStep (S2 (Array Keyed) Nat Nat)):=if c.2.2.2.2.1>1 then JK a b (c.2.2.2.2.1-1) c.2 else JK a b c.2.2.2.2.1 c.2
theorem qh (a b:Array Keyed):lU a b=(do
 rule "list.sort.merge-lo"
 let x <- elem' b 0
 if (1 == b.size)=true then pure (BI a b #[x] 0 1)
 else if (0+1 == a.size)=true then pure (IP a b #[x] 0 1)
 else Dg (a.size+b.size) (l1 a b) (l2 a b) #[x] 0 1):=by kernel_rfl
def Iv (a b out:Array Keyed) (ia ib:Nat):Prop:=out.toList.Perm (a.toList.take ia++b.toList.take ib)
section
variable {a b out:Array Keyed} {ia ib k:Nat}
theorem Iv.ny (h:Iv a b out ia ib) (hb:ib<b.size):Iv a b (out.push b[ib]) ia (ib+1):=by
 unfold Iv at h ⊢;rw [Si,Sh,Pk (by rw [Ql];exact hb),<- Pr];exact h.append_right _
theorem Iv.p7 (h:Iv a b out ia ib) (ha:ia<a.size):Iv a b (out.push a[ia]) (ia+1) ib:=by
 unfold Iv at h ⊢;rw [Si,Sh,Pk (by rw [Ql];exact ha),Pr];exact (h.append_right _).trans (by rw [Pr];exact QN _ Qj)
theorem Iv.uR (h:Iv a b out ia ib):Iv a b (out++a.extract ia (ia+k)) (ia+k) ib:=by
 unfold Iv at h ⊢;rw [PV,Rl,QT,Qz,List.take_add];rw [Pr];exact (h.append_right _).trans (by rw [Pr];exact QN _ Qj)
theorem Iv.uQ (h:Iv a b out ia ib):Iv a b (out++b.extract ib (ib+k)) ia (ib+k):=by
 unfold Iv at h ⊢;rw [PV,Rl,QT,Qz,List.take_add,<- Pr];exact h.append_right _
theorem Iv.done (h:Iv a b out ia ib):(out++a.extract ia a.size++b.extract ib b.size).toList.Perm (a.toList++b.toList):=by
 have e:∀(c:Array Keyed) (i:Nat),(c.extract i c.size).toList=c.toList.drop i:=λc i=>by
  rw [Rl,QT,SR (by rw [Sp,Ql];exact Pt _)]
 rw [PV,PV,e,e];refine ((h.append_right _).append_right _).trans ?_
 have e2:a.toList++b.toList=(a.toList.take ia++a.toList.drop ia)++ (b.toList.take ib++b.toList.drop ib):=by rw [Qw,Qw]
 rw [e2,Pr,Pr,Pr];refine QN _ ?_;rw [<- Pr,<- Pr];exact Sb _ Qj
theorem Iv.last (h:Iv a b out ia ib):(out++b.extract ib b.size++a.extract ia a.size).toList.Perm (a.toList++b.toList):=by
 refine List.Perm.trans ?_ h.done;rw [PV,PV,PV,PV,Pr,Pr];exact QN _ Qj
end
theorem fR {a:Array Keyed} {i:Nat} (ha:IntKeys a) (hi:i<a.size):Aq a[i]:=ha _ (by simp)
structure Jl (a b:Array Keyed) (m:Nat) (out:Array Keyed) (i j:Nat):Prop where
 iv:Iv a b out i j
 ia:i+1<a.size
 jb:j<b.size
 le:m<=i+j
section
variable {prog:Program} {w:World} {A:Around} {E:Value->Shared->Prop} {s:Shared} {a₀:Array Keyed} {st:SortSt} {a b out:Array Keyed} {m mg g i j k k2 bc ac x:Nat}
abbrev FL (a b:Array Keyed):Array Keyed->Prop:=λr=>r.toList.Perm (a.toList++b.toList)
theorem Jl.uY (J:Jl a b m out i j):i<a.size:=Nat.lt_of_succ_lt J.ia
theorem Jl.a1 (J:Jl a b m out i j) (ne:i+1+1≠a.size):Jl a b (m+1) (out.push (a[i]'J.uY)) (i+1) j:=
 ⟨J.iv.p7 J.uY,P9 J.ia ne,J.jb,Pb (RP J.le) (Qt (RY i j 1))⟩
theorem Jl.b1 (J:Jl a b m out i j) (ne:j+1≠b.size):Jl a b (m+1) (out.push (b[j]'J.jb)) i (j+1):=
 ⟨J.iv.ny J.jb,J.ia,P9 J.jb ne,RP J.le⟩
theorem Jl.mono (J:Jl a b m out i j) (h:k<=m):Jl a b k out i j:=⟨J.iv,J.ia,J.jb,Pb h J.le⟩
theorem Dh (J:Jl a b m out i j):wpS (model prog w) A E s (Mb a b mg out i j bc) (mG st (EJ (FL a b) (Jl a b (m+1)))) (bO st g):=by
 refine wpS_bind (ct (P8 b j J.jb) ?_);refine fQ (λ_=>aZ (st:=st) (.inl ⟨_,rfl,(J.iv.ny J.jb).done⟩)) λne=>?_;exact bZ (λ_=>aZ (st:=st) (.inr ⟨rfl,J.b1 ne⟩)) λ_=>aZ (st:=st) ⟨rfl,J.b1 ne⟩
theorem Di (J:Jl a b m out i j):wpS (model prog w) A E s (Mc a b mg out i j ac) (mG st (EJ (FL a b) (Jl a b (m+1)))) (bO st g):=by
 refine wpS_bind (ct (P8 a i J.uY) ?_);refine fQ (λ_=>aZ (st:=st) (.inl ⟨_,rfl,(J.iv.p7 J.uY).last⟩)) λne=>?_;exact bZ (λ_=>aZ (st:=st) (.inr ⟨rfl,J.a1 ne⟩)) λ_=>aZ (st:=st) ⟨rfl,J.a1 ne⟩
theorem Gi (kd:kindOf st=oneType') (ha:IntKeys a) (hb:IntKeys b) {c:S1 (Array Keyed) Nat Nat} (J:Jl a b m c.2.1 c.2.2.1 c.2.2.2.1):wpS (model prog w) A E s (l1 a b mg x c) (mG st (EJ (FL a b) (Jl a b (m+1)))) (bO st g):=by
 refine wpS_bind (ct (P8 b _ J.jb) (wpS_bind (ct (P8 a _ J.uY) (wpS_bind (wL kd (fR hb J.jb) (fR ha J.uY) λbw=>?_)))));exact bZ (λ_=>Dh J) λ_=>Di J
theorem wG (J:Jl a b m out i j):wpS (model prog w) A E s (JI a b mg k k2 out i j) (mG st (A4 (FL a b) (Jl a b m))) (bO st g):=by
 refine wpS_bind (ct (P8 a i J.uY) ?_);refine fQ (λ_=>aZ (st:=st) (.inl ⟨_,rfl,(J.iv.p7 J.uY).last⟩)) λne=>?_;have J':=(J.a1 ne).mono (Se m);exact bZ (λ_=>aZ (st:=st) (.inr ⟨rfl,J'⟩)) λ_=>aZ (st:=st) ⟨rfl,J'⟩
theorem Jl.bk (J:Jl a b m out i j) (h:k<=b.size-j) (ne:j+k≠b.size):Jl a b m (out++b.extract j (j+k)) i (j+k):=
 ⟨J.iv.uQ,J.ia,P9 (Pb (Qe h j) (Qt (Qk (Pw J.jb)))) ne,Pb J.le (Qe (PK j k) i)⟩
theorem wH (kd:kindOf st=oneType') (ha:IntKeys a) (hb:IntKeys b) (J:Jl a b m out i j):wpS (model prog w) A E s (JJ a b mg k bc out i j) (mG st (A4 (FL a b) (Jl a b m))) (bO st g):=by
 refine wpS_bind (ct (P8 b j J.jb) ?_);refine fQ (λ_=>aZ (st:=st) (.inl ⟨_,rfl,(J.iv.ny J.jb).done⟩)) λne=>?_;have J1:=(J.b1 ne).mono (Se m);refine wpS_bind (ct (P8 a i J.uY) (wpS_bind (gc kd (fR ha J.uY) hb (RI J1.jb) (Qt (Qk (Pw J1.jb))) λk2 hk2=>?_)));exact bZ (λ_=>fQ (λ_=>aZ (st:=st) (.inl ⟨_,rfl,J1.iv.uQ.done⟩)) λne2=>wG (J1.bk hk2 ne2)) λ_=>wG J1
theorem wI (kd:kindOf st=oneType') (ha:IntKeys a) (hb:IntKeys b) {c:Array Keyed×Nat×Nat×Nat×Nat×Nat} (J:Jl a b m c.1 c.2.1 c.2.2.1):wpS (model prog w) A E s (JK a b mg c) (mG st (A4 (FL a b) (Jl a b m))) (bO st g):=by
 refine wpS_bind (wN (wpS_bind (ct (P8 b _ J.jb) (wpS_bind (gc (st:=bO st mg) kd (fR hb J.jb) ha (RI J.uY) (Qt (Qk (Pw J.uY))) λk hk=>?_)))));refine bZ (λ_=>?_) λ_=>wH kd ha hb J;refine fQ (λ_=>aZ (st:=st) (.inl ⟨_,rfl,J.iv.uR.last⟩)) λn1=>fQ (λ_=>aZ (st:=st) (.inl ⟨_,rfl,J.iv.uR.done⟩)) λn2=>wH kd ha hb ⟨J.iv.uR,?_,J.jb,Pb J.le (RL (PK _ _) _)⟩;have:=J.ia;lia
theorem Gh (kd:kindOf st=oneType') (ha:IntKeys a) (hb:IntKeys b) {c:S2 (Array Keyed) Nat Nat} (J:Jl a b m c.2.1 c.2.2.1 c.2.2.2.1):wpS (model prog w) A E s (l2 a b x c) (mG st (A4 (FL a b) (Jl a b m))) (bO st g):=
 bZ (λ_=>wI kd ha hb J) λ_=>wI kd ha hb J
theorem uw {Q:Array Keyed->SortSt->Prop} (hB:WB a₀ st) (ha:IntKeys a) (hb:IntKeys b) (a1:1<=a.size) (b1:1<=b.size)
 (h:∀r g,r.toList.Perm (a.toList++b.toList)->Q r (bO st g)):wpS (model prog w) A E s (lU a b) Q st:=by
 rw [qh];refine wpS_bind (wpS_lift (wpAny_rule ⟨rfl,?_⟩));refine wpS_bind (ct (P8 b 0 b1) ?_);have I0:Iv a b #[b[0]] 0 1:=Iv.ny (a:=a) (b:=b) (out:=#[]) (ia:=0) (ib:=0) (List.Perm.refl _) b1;refine fQ (λ_=>wpS_pure (h _ (gallopOf st) I0.done)) λnb=>fQ (λ_=>wpS_pure (h _ (gallopOf st) I0.last)) λna=>?_;exact tu (Pb a1 (PK _ _)) (λJ l=>J.mono l) (λJ=>by have:=J.ia;have:=J.jb;have:=J.le;lia) (λJ=>Gi hB.kind ha hb J) (λJ=>Gh hB.kind ha hb J) ⟨I0,P9 a1 na,P9 b1 nb,Pt 1⟩ h
end
noncomputable def BJ (a b out:Array Keyed) (na nb:Nat):Array Keyed:=a.extract 0 na++b.extract 0 nb++out.reverse
noncomputable def IW (a b out:Array Keyed) (na nb:Nat):Array Keyed:=b.extract 0 nb++a.extract 0 na++out.reverse
noncomputable def Mg (a b:Array Keyed) (mg na nb:Nat) (out:Array Keyed) (ac:Nat):SM (ForInStep (S1 Nat Nat (Array Keyed))):=do
 let x <- elem' a (na-1)
 if (na-1 == 0)=true then pure (.done (some (BJ a b (out.push x) (na-1) nb),na-1,nb,out.push x,ac+1,0))
 else if ac+1>=mg then pure (.done (none,na-1,nb,out.push x,ac+1,0)) else pure (.yield (none,na-1,nb,out.push x,ac+1,0))
noncomputable def Mf (a b:Array Keyed) (mg na nb:Nat) (out:Array Keyed) (bc:Nat):SM (ForInStep (S1 Nat Nat (Array Keyed))):=do
 let x <- elem' b (nb-1)
 if (nb-1 == 1)=true then pure (.done (some (IW a b (out.push x) na (nb-1)),na,nb-1,out.push x,0,bc+1))
 else if bc+1>=mg then pure (.done (none,na,nb-1,out.push x,0,bc+1)) else pure (.yield (none,na,nb-1,out.push x,0,bc+1))
noncomputable def h1 (a b:Array Keyed) (mg:Nat) (_:Nat) (c:S1 Nat Nat (Array Keyed)):SM (ForInStep (S1 Nat Nat (Array Keyed))):=do
 let x <- elem' b (c.2.2.1-1)
 let y <- elem' a (c.2.1-1)
 let r <- lt' x y
 match r with
 | some aw=>if aw=true then Mg a b mg c.2.1 c.2.2.1 c.2.2.2.1 c.2.2.2.2.1 else Mf a b mg c.2.1 c.2.2.1 c.2.2.2.1 c.2.2.2.2.2
 | _=>pure (.done (some (BJ a b c.2.2.2.1 c.2.1 c.2.2.1),c.2))
noncomputable def J3 (a b:Array Keyed) (mg k k2 na nb:Nat) (out:Array Keyed):SM (ForInStep (S2 Nat Nat (Array Keyed))):=do
 let y <- elem' a (na-1)
 if (na-1 == 0)=true then pure (.done (some (BJ a b (out.push y) (na-1) nb),na-1,nb,out.push y,mg,k,k2))
 else if (decide (k<7) && decide (k2<7))=true then pure (.done (none,na-1,nb,out.push y,mg,k,k2)) else pure (.yield (none,na-1,nb,out.push y,mg,k,k2))
noncomputable def J4 (a b:Array Keyed) (mg k bc na nb:Nat) (out:Array Keyed):SM (ForInStep (S2 Nat Nat (Array Keyed))):=
 elem' b (nb-1) >>= λx=>
 if (nb-1 == 1)=true then pure (.done (some (IW a b (out.push x) na (nb-1)),na,nb-1,out.push x,mg,k,bc)) else
 elem' a (na-1) >>= λy=>fK true y b 0 (nb-1) (nb-1-1) >>= λr=>match r with
  | some at_=>
   if nb-1-at_>0 then
    if (at_ == 1)=true then pure (.done (some (IW a b (out.push x++ (b.extract at_ (nb-1)).reverse) na at_),na,at_,out.push x++ (b.extract at_ (nb-1)).reverse,mg,k,nb-1-at_))
    else if (at_ == 0)=true then pure (.done (some (BJ a b (out.push x++ (b.extract at_ (nb-1)).reverse) na at_),na,at_,out.push x++ (b.extract at_ (nb-1)).reverse,mg,k,nb-1-at_))
    else J3 a b mg k (nb-1-at_) na at_ (out.push x++ (b.extract at_ (nb-1)).reverse)
   else J3 a b mg k (nb-1-at_) na (nb-1) (out.push x)
  | _=>pure (.done (some (BJ a b (out.push x) na (nb-1)),na,nb-1,out.push x,mg,k,bc))
noncomputable def J5 (a b:Array Keyed) (mg:Nat) (c:Nat×Nat×Array Keyed×Nat×Nat×Nat):SM (ForInStep (S2 Nat Nat (Array Keyed))):=
 dC mg >>= λ_=>elem' b (c.2.1-1) >>= λx=>fK false x a 0 c.1 (c.1-1) >>= λr=>match r with
 | some at_=>
  if c.1-at_>0 then
   if (at_ == 0)=true then pure (.done (some (BJ a b (c.2.2.1++ (a.extract at_ c.1).reverse) at_ c.2.1),at_,c.2.1,c.2.2.1++ (a.extract at_ c.1).reverse,mg,c.1-at_,c.2.2.2.2.2))
   else J4 a b mg (c.1-at_) c.2.2.2.2.2 at_ c.2.1 (c.2.2.1++ (a.extract at_ c.1).reverse)
  else J4 a b mg (c.1-at_) c.2.2.2.2.2 c.1 c.2.1 c.2.2.1
 | _=>pure (.done (some (BJ a b c.2.2.1 c.1 c.2.1),c.1,c.2.1,c.2.2.1,mg,c.2.2.2.2))
noncomputable def h2 (a b:Array Keyed) (_:Nat) (c:S2 Nat Nat (Array Keyed)):SM (ForInStep (S2 Nat Nat (Array Keyed))):=if c.2.2.2.2.1>1 then J5 a b (c.2.2.2.2.1-1) c.2 else J5 a b c.2.2.2.2.1 c.2
theorem qi (a b:Array Keyed):lV a b=(do
 rule "list.sort.merge-hi"
 let x <- elem' a (a.size-1)
 if (a.size-1 == 0)=true then pure (BJ a b #[x] (a.size-1) b.size)
 else if (b.size == 1)=true then pure (IW a b #[x] (a.size-1) b.size)
 else Dg (a.size+b.size) (h1 a b) (h2 a b) (a.size-1) b.size #[x]):=by kernel_rfl
def Hv (a b out:Array Keyed) (na nb:Nat):Prop:=out.toList.Perm (a.toList.drop na++b.toList.drop nb)
section
variable {a b out:Array Keyed} {na nb k:Nat}
theorem nK {c:List Keyed} {i:Nat} (h:i<c.length):c.drop i=c[i]::c.drop (i+1):=Ri h
theorem Hv.p7 (h:Hv a b out (na+1) nb) (ha:na<a.size):Hv a b (out.push a[na]) na nb:=by
 unfold Hv at h ⊢;rw [Si,nK (c:=a.toList) (by rw [Ql];exact ha)];exact (h.append_right _).trans Qj
theorem Hv.ny (h:Hv a b out na (nb+1)) (hb:nb<b.size):Hv a b (out.push b[nb]) na nb:=by
 unfold Hv at h ⊢;rw [Si,nK (c:=b.toList) (by rw [Ql];exact hb)];refine (h.append_right _).trans (Qj.trans ?_);show List.Perm (b[nb]:: (a.toList.drop na++b.toList.drop (nb+1))) (a.toList.drop na++b[nb]::b.toList.drop (nb+1));exact List.perm_middle.symm
theorem jj {c:Array Keyed} {i j:Nat} (h:i<=j):c.toList.drop i=(c.extract i j).toList++c.toList.drop j:=by
 rw [Rl,QT];have:=Qw (j-i) (c.toList.drop i);rw [List.drop_drop,Qk h] at this;exact this.symm
theorem Hv.uR (h:Hv a b out na nb) (hk:k<=na):Hv a b (out++ (a.extract k na).reverse) k nb:=by
 unfold Hv at h ⊢;rw [PV,Tb,jj hk,Pr];exact (h.append (List.reverse_perm _)).trans Qj
theorem Hv.uQ (h:Hv a b out na nb) (hk:k<=nb):Hv a b (out++ (b.extract k nb).reverse) na k:=by
 unfold Hv at h ⊢;rw [PV,Tb,jj hk];refine (h.append (List.reverse_perm _)).trans ?_;rw [Pr];exact QN _ Qj
theorem Hv.done (h:Hv a b out na nb):(a.extract 0 na++b.extract 0 nb++out.reverse).toList.Perm (a.toList++b.toList):=by
 have e:∀(c:Array Keyed) (i:Nat),(c.extract 0 i).toList=c.toList.take i:=λc i=>by
  rw [Rl,QT];rfl
 rw [PV,PV,Tb,e,e];refine (QN _ ((List.reverse_perm _).trans h)).trans ?_
 have e2:a.toList++b.toList=(a.toList.take na++a.toList.drop na)++ (b.toList.take nb++b.toList.drop nb):=by rw [Qw,Qw]
 rw [e2,Pr,Pr];refine QN _ ?_;rw [<- Pr,<- Pr];exact Sb _ Qj
theorem Hv.first (h:Hv a b out na nb):(b.extract 0 nb++a.extract 0 na++out.reverse).toList.Perm (a.toList++b.toList):=by
 refine List.Perm.trans ?_ h.done;rw [PV,PV,PV,PV];exact Sb _ Qj
end
theorem Hv.a1 {a b out:Array Keyed} {na nb:Nat} (h:Hv a b out na nb) (h1:1<=na) (h2:na<=a.size):Hv a b (out.push (a[na-1]'(Pa (RE h1 Nat.one_pos) h2))) (na-1) nb:=by
 cases na with
 | zero=>cases h1
 | succ n=>exact h.p7 h2
theorem Hv.b1 {a b out:Array Keyed} {na nb:Nat} (h:Hv a b out na nb) (h1:1<=nb) (h2:nb<=b.size):Hv a b (out.push (b[nb-1]'(Pa (RE h1 Nat.one_pos) h2))) na (nb-1):=by
 cases nb with
 | zero=>cases h1
 | succ n=>exact h.ny h2
structure Jh (a b:Array Keyed) (m na nb:Nat) (out:Array Keyed):Prop where
 hv:Hv a b out na nb
 a1:1<=na
 a2:na<=a.size
 b1:2<=nb
 b2:nb<=b.size
 le:na+nb+m<=a.size+b.size
section
variable {prog:Program} {w:World} {A:Around} {E:Value->Shared->Prop} {s:Shared} {a₀:Array Keyed} {st:SortSt} {a b out:Array Keyed} {m mg g na nb k k2 bc ac x:Nat}
theorem Jh.ia (J:Jh a b m na nb out):na-1<a.size:=Pa (RE J.a1 Nat.one_pos) J.a2
theorem Jh.b0 (J:Jh a b m na nb out):1<=nb:=Q6 J.b1
theorem Jh.jb (J:Jh a b m na nb out):nb-1<b.size:=Pa (RE J.b0 Nat.one_pos) J.b2
theorem Jh.mono (J:Jh a b m na nb out) (h:k<=m):Jh a b k na nb out:=⟨J.hv,J.a1,J.a2,J.b1,J.b2,Pb (Qe h _) J.le⟩
theorem Jh.pa (J:Jh a b m na nb out) (ne:na-1≠0):Jh a b (m+1) (na-1) nb (out.push (a[na-1]'J.ia)):=by
 have:=J.a1;have:=J.le;exact ⟨J.hv.a1 J.a1 J.a2,PF ne,Pb (QC _ _) J.a2,J.b1,J.b2,by lia⟩
theorem Jh.pb (J:Jh a b m na nb out) (ne:nb-1≠1):Jh a b (m+1) na (nb-1) (out.push (b[nb-1]'J.jb)):=by
 have:=J.b1;have:=J.le;exact ⟨J.hv.b1 J.b0 J.b2,J.a1,J.a2,by lia,Pb (QC _ _) J.b2,by lia⟩
theorem DP (J:Jh a b m na nb out):wpS (model prog w) A E s (Mg a b mg na nb out ac) (mG st (EJ (FL a b) (Jh a b (m+1)))) (bO st g):=by
 refine wpS_bind (ct (P8 a _ J.ia) ?_);refine fQ (λ_=>aZ (st:=st) (.inl ⟨_,rfl,(J.hv.a1 J.a1 J.a2).done⟩)) λne=>?_;exact bZ (λ_=>aZ (st:=st) (.inr ⟨rfl,J.pa ne⟩)) λ_=>aZ (st:=st) ⟨rfl,J.pa ne⟩
theorem DO (J:Jh a b m na nb out):wpS (model prog w) A E s (Mf a b mg na nb out bc) (mG st (EJ (FL a b) (Jh a b (m+1)))) (bO st g):=by
 refine wpS_bind (ct (P8 b _ J.jb) ?_);refine fQ (λ_=>aZ (st:=st) (.inl ⟨_,rfl,(J.hv.b1 J.b0 J.b2).first⟩)) λne=>?_;exact bZ (λ_=>aZ (st:=st) (.inr ⟨rfl,J.pb ne⟩)) λ_=>aZ (st:=st) ⟨rfl,J.pb ne⟩
theorem GF (kd:kindOf st=oneType') (ha:IntKeys a) (hb:IntKeys b) {c:S1 Nat Nat (Array Keyed)} (J:Jh a b m c.2.1 c.2.2.1 c.2.2.2.1):wpS (model prog w) A E s (h1 a b mg x c) (mG st (EJ (FL a b) (Jh a b (m+1)))) (bO st g):=by
 refine wpS_bind (ct (P8 b _ J.jb) (wpS_bind (ct (P8 a _ J.ia) (wpS_bind (wL kd (fR hb J.jb) (fR ha J.ia) λbw=>?_)))));exact bZ (λ_=>DP J) λ_=>DO J
theorem xf (J:Jh a b m na nb out):wpS (model prog w) A E s (J3 a b mg k k2 na nb out) (mG st (A4 (FL a b) (Jh a b m))) (bO st g):=by
 refine wpS_bind (ct (P8 a _ J.ia) ?_);refine fQ (λ_=>aZ (st:=st) (.inl ⟨_,rfl,(J.hv.a1 J.a1 J.a2).done⟩)) λne=>?_;have J':=(J.pa ne).mono (Se m);exact bZ (λ_=>aZ (st:=st) (.inr ⟨rfl,J'⟩)) λ_=>aZ (st:=st) ⟨rfl,J'⟩
theorem Jh.bk (J:Jh a b m na nb out) (h:k<=nb) (n1:k≠1) (n0:k≠0):Jh a b m na k (out++ (b.extract k nb).reverse):=by
 have:=J.le;exact ⟨J.hv.uQ h,J.a1,J.a2,by exact B3 ‹_› ‹_›,Pb h J.b2,by lia⟩
theorem Jh.ak (J:Jh a b m na nb out) (h:k<=na) (n0:k≠0):Jh a b m k nb (out++ (a.extract k na).reverse):=by
 have:=J.le;exact ⟨J.hv.uR h,PF n0,Pb h J.a2,J.b1,J.b2,by lia⟩
theorem xg (kd:kindOf st=oneType') (ha:IntKeys a) (hb:IntKeys b) (J:Jh a b m na nb out):wpS (model prog w) A E s (J4 a b mg k bc na nb out) (mG st (A4 (FL a b) (Jh a b m))) (bO st g):=by
 refine wpS_bind (ct (P8 b _ J.jb) ?_);refine fQ (λ_=>aZ (st:=st) (.inl ⟨_,rfl,(J.hv.b1 J.b0 J.b2).first⟩)) λne=>?_;have J1:=(J.pb ne).mono (Se m);refine wpS_bind (ct (P8 a _ J.ia) (wpS_bind (gc kd (fR ha J.ia) hb (RE J1.b0 Nat.one_pos) ((QL _).symm ▸ J1.b2) λk2 hk2=>?_)));exact bZ (λ_=>fQ (λ_=>aZ (st:=st) (.inl ⟨_,rfl,(J1.hv.uQ hk2).first⟩)) λn1=>fQ (λ_=>aZ (st:=st) (.inl ⟨_,rfl,(J1.hv.uQ hk2).done⟩)) λn2=>xf (J1.bk hk2 n1 n2)) λ_=>xf J1
theorem xh (kd:kindOf st=oneType') (ha:IntKeys a) (hb:IntKeys b) {c:Nat×Nat×Array Keyed×Nat×Nat×Nat} (J:Jh a b m c.1 c.2.1 c.2.2.1):wpS (model prog w) A E s (J5 a b mg c) (mG st (A4 (FL a b) (Jh a b m))) (bO st g):=by
 refine wpS_bind (wN (wpS_bind (ct (P8 b _ J.jb) (wpS_bind (gc (st:=bO st mg) kd (fR hb J.jb) ha (RE J.a1 Nat.one_pos) ((QL _).symm ▸ J.a2) λk hk=>?_)))));exact bZ (λ_=>fQ (λ_=>aZ (st:=st) (.inl ⟨_,rfl,(J.hv.uR hk).done⟩)) λn1=>xg kd ha hb (J.ak hk n1)) λ_=>xg kd ha hb J
theorem GD (kd:kindOf st=oneType') (ha:IntKeys a) (hb:IntKeys b) {c:S2 Nat Nat (Array Keyed)} (J:Jh a b m c.2.1 c.2.2.1 c.2.2.2.1):wpS (model prog w) A E s (h2 a b x c) (mG st (A4 (FL a b) (Jh a b m))) (bO st g):=
 bZ (λ_=>xh kd ha hb J) λ_=>xh kd ha hb J
theorem ux {Q:Array Keyed->SortSt->Prop} (hB:WB a₀ st) (ha:IntKeys a) (hb:IntKeys b) (a1:1<=a.size) (b1:1<=b.size)
 (h:∀r g,r.toList.Perm (a.toList++b.toList)->Q r (bO st g)):wpS (model prog w) A E s (lV a b) Q st:=by
 rw [qi];refine wpS_bind (wpS_lift (wpAny_rule ⟨rfl,?_⟩));have a1':a.size-1<a.size:=RE a1 Nat.one_pos;refine wpS_bind (ct (P8 a (a.size-1) a1') ?_)
 have I0:Hv a b #[a[a.size-1]] (a.size-1) b.size:=Hv.a1 (out:=#[]) (by
  unfold Hv;rw [Sa (Qt Ql),Sa (Qt Ql)]
  exact List.Perm.refl _) a1 (Pt _)
 refine fQ (λ_=>wpS_pure (h _ (gallopOf st) I0.done)) λna=>fQ (λ_=>wpS_pure (h _ (gallopOf st) I0.first)) λnb=>?_;exact tu (Pb a1 (PK _ _)) (λJ l=>J.mono l) (λJ=>by have:=J.le;lia) (λJ=>GF hB.kind ha hb J) (λJ=>GD hB.kind ha hb J) ⟨I0,PF na,QC _ _,by exact P9 ‹_› (Ne.symm ‹_›),Pt _,by exact Sr ‹_› _⟩ h
end
theorem qj (i:Nat):mergeAt' i=(do
 let s <- get
 let (some (sa,na,power),some (sb,nb,_)):=((pendingOf s)[i]?,(pendingOf s)[i+1]?) | unsupported "internal:list.sort.pending"
 set (setPending s (((pendingOf s).setIfInBounds i (sa,na+nb,power)).eraseIdxIfInBounds (i+1)))
 let some k <- fK false (<- elem' (arrOf s) sb) (arrOf s) sa na 0 | return false
 let (sa,na):=(sa+k,na-k)
 if na == 0 then return true
 let some nb <- fK true (<- elem' (arrOf s) (sa+na-1)) (arrOf s) sb nb (nb-1) | return false
 if nb == 0 then return true
 let x:=(arrOf s).extract sa sb
 let y:=(arrOf s).extract sb (sb+nb)
 let merged <- if na<=nb then lU x y else lV x y
 modify λs=>setArr s (merged.toList.zipIdx.foldl (λa (p,j)=>a.setIfInBounds (sa+j) p) (arrOf s))
 return (failedOf (<- get)).isNone):=rfl
theorem lg {sa:Nat}:∀{M:List Keyed} {k:Nat} {xs:Array Keyed},sa+k+M.length<=xs.size->
 ((M.zipIdx k).foldl (λa (p,j)=>a.setIfInBounds (sa+j) p) xs).toList=xs.toList.take (sa+k)++M++xs.toList.drop (sa+k+M.length)
 | [],k,xs,h=>by rw [QX];exact (Qw _ _).symm
 | p::M,k,xs,h=>by
  have h:sa+k+(M.length+1)<=xs.size:=h;rw [List.zipIdx_cons,List.foldl_cons,lg (by rw [Array.size_setIfInBounds];lia)];show (xs.setIfInBounds (sa+k) p).toList.take (sa+(k+1))++M++ (xs.setIfInBounds (sa+k) p).toList.drop (sa+(k+1)+M.length)=_
  have hl:sa+k<xs.toList.length:=by rw [Ql];lia
  rw [Array.toList_setIfInBounds,List.drop_set_of_lt (by exact PK _ _),<- Q0,Sh,List.take_set_of_le (Pt _),List.getElem?_set_self hl,Pr _ _ M,show sa+k+1+M.length=sa+k+(M.length+1) by exact RY _ _ _];rfl
theorem qQ {xs m:Array Keyed} {sa sb nb:Nat} (h1:sa<=sb) (h2:sb+nb<=xs.size) (hp:m.toList.Perm ((xs.extract sa sb).toList++ (xs.extract sb (sb+nb)).toList)) :
 (m.toList.zipIdx.foldl (λa (p,j)=>a.setIfInBounds (sa+j) p) xs).Perm xs:=by
 have hl:m.toList.length=sb-sa+nb:=by
  rw [hp.length_eq,Pg,Ql,Ql,SF,SF,Rm (Pb (PK _ _) h2),Rm h2,Qz]
 refine RK.mpr ?_;rw [lg (by rw [hl];lia),hl,Nat.add_zero,show sa+(sb-sa+nb)=sb+nb by exact ad ‹_›]
 have e:xs.toList=xs.toList.take sa++ ((xs.extract sa sb).toList++ (xs.extract sb (sb+nb)).toList)++xs.toList.drop (sb+nb):=by
  rw [Pr,Pr,<- jj (PK sb nb),<- jj h1,Qw]
 refine List.Perm.trans (Sb _ (QN _ hp)) ?_;rw [<- e]
section
variable {prog:Program} {w:World} {A:Around} {E:Value->Shared->Prop} {s:Shared} {a₀:Array Keyed} {st:SortSt}
theorem oZ {xs:Array Keyed} (h:IntKeys xs) {i j:Nat}:IntKeys (xs.extract i j):=λp hp=>h p (by
 rw [Rl,QT] at hp
 exact S9 (RM hp))
theorem WB.ints (h:WB a₀ st) (h0:IntKeys a₀):IntKeys (arrOf st):=λp hp=>h0 p ((RK.mp h.perm).mem_iff.mp hp)
theorem Gj {st':SortSt} {Q:Unit->SortSt->Prop} (h:Q () st'):wpS (model prog w) A E s (set st':StateT SortSt Sem Unit) Q st:=by
 unfold wpS;rw [StateT.run_set];exact wpAny_pure ⟨rfl,h⟩
theorem uy {i sa na pw sb nb pw':Nat} {Q:Bool->SortSt->Prop} (hB:WB a₀ st) (h0:IntKeys a₀) (e1:(pendingOf st)[i]?=some (sa,na,pw)) (e2:(pendingOf st)[i+1]?=some (sb,nb,pw')) (hs:sa+na=sb) (h1:1<=na) (h2:1<=nb) (h3:sb+nb<=a₀.size)
 (h:∀st',WB a₀ st'->pendingOf st'=((pendingOf st).setIfInBounds i (sa,na+nb,pw)).eraseIdxIfInBounds (i+1)->Q true st'):wpS (model prog w) A E s (mergeAt' i) Q st:=by
 have hsz:=hB.perm.size_eq;have hI:=hB.ints h0;rw [qj];refine wpS_bind (wpS_get ?_);rw [e1,e2];refine wpS_bind (Gj ?_);have hB1:WB a₀ (setPending st (((pendingOf st).setIfInBounds i (sa,na+nb,pw)).eraseIdxIfInBounds (i+1))):=⟨hB.perm,hB.kind,hB.failed⟩;have ha1:arrOf st=arrOf (setPending st (((pendingOf st).setIfInBounds i (sa,na+nb,pw)).eraseIdxIfInBounds (i+1))):=rfl;have hp1:pendingOf (setPending st (((pendingOf st).setIfInBounds i (sa,na+nb,pw)).eraseIdxIfInBounds (i+1)))=((pendingOf st).setIfInBounds i (sa,na+nb,pw)).eraseIdxIfInBounds (i+1):=rfl;generalize setPending st (((pendingOf st).setIfInBounds i (sa,na+nb,pw)).eraseIdxIfInBounds (i+1))=st1 at hB1 ha1 hp1 ⊢
 have b1:sb<(arrOf st).size:=by lia
 refine wpS_bind (ct (P8 _ sb b1) ?_);refine wpS_bind (gc hB1.kind (fR hI b1) hI (show 0<na by assumption) (show sa+na<=(arrOf st).size by lia) λk hk=>?_);refine fQ (λ_=>wpS_pure (h _ hB1 hp1)) λnk=>?_;have nk:na-k≠0:=nk
 have b2:sa+k+(na-k) -1<(arrOf st).size:=by rw [Q0,Qk hk,hs];exact Pm (QC _ _) b1
 refine wpS_bind (ct (P8 _ (sa+k+(na-k) -1) b2) ?_);refine wpS_bind (gc hB1.kind (fR hI b2) hI (show nb-1<nb by exact RE ‹_› (by decide)) (show sb+nb<=(arrOf st).size by lia) λk2 hk2=>?_);refine fQ (λ_=>wpS_pure (h _ hB1 hp1)) λnk2=>?_;have nk2:k2≠0:=nk2
 have fin:∀(m:Array Keyed) g,m.toList.Perm (((arrOf st).extract (sa+k) sb).toList++ ((arrOf st).extract sb (sb+k2)).toList)->wpS (model prog w) A E s (do
  modify λs=>setArr s (m.toList.zipIdx.foldl (λa (p,j)=>a.setIfInBounds (sa+k+j) p) (arrOf s))
  return (failedOf (<- get)).isNone:StateT SortSt Sem Bool) Q (bO st1 g):=λm g hm=>by
  refine wpS_bind (wpS_modify ?_);refine wpS_bind (wpS_get ?_);rw [show failedOf (setArr (bO st1 g) _)=none from hB1.failed];refine wpS_pure (h _ ⟨?_,hB1.kind,hB1.failed⟩ hp1);refine Array.Perm.trans ?_ hB.perm;show (m.toList.zipIdx.foldl (λa (p,j)=>a.setIfInBounds (sa+k+j) p) (arrOf st1)).Perm (arrOf st);rw [<- ha1];exact qQ (by lia) (by lia) hm
 have s1:1<=((arrOf st).extract (sa+k) sb).size:=by rw [SF,Rm (Pw b1)];exact RI (hs ▸ Te (Nat.lt_of_sub_ne_zero nk) sa)
 have s2:1<=((arrOf st).extract sb (sb+k2)).size:=by rw [SF,Rm (Pb (Qe hk2 sb) (hsz ▸ h3)),Qz];exact PF nk2
 refine bZ (λ_=>?_) λ_=>?_
 ·exact wpS_bind (uw hB1 (oZ hI) (oZ hI) s1 s2 λm g hm=>fin m g hm)
 ·exact wpS_bind (ux hB1 (oZ hI) (oZ hI) s1 s2 λm g hm=>fin m g hm)
end
section
variable {prog:Program} {w:World} {A:Around} {E:Value->Shared->Prop} {s:Shared} {a₀:Array Keyed} {st:SortSt}
def WP (a₀:Array Keyed) (p:Array (Nat×Nat×Nat)) (st:SortSt):Prop:=WB a₀ st/\pendingOf st=p
theorem tA {i j:Nat} {p:Array (Nat×Nat×Nat)} {Q:Unit->SortSt->Prop} (hB:WP a₀ p st) (h:∀st',WP a₀ p st'->Q () st'):wpS (model prog w) A E s (reverseSlice' i j) Q st:=by
 rw [reverseSlice'_eq];exact wpS_modify (h _ ⟨⟨(mirror_perm _ _ _ _).trans hB.1.perm,hB.1.kind,hB.1.failed⟩,hB.2⟩)
theorem Dp {i j:Nat} {p:Array (Nat×Nat×Nat)} {Q:Unit->SortSt->Prop} (hB:WP a₀ p st) (h:∀st',WP a₀ p st'->Q () st'):wpS (model prog w) A E s (moveDown' i j) Q st:=by
 rw [moveDown'_eq];exact wpS_modify (h _ ⟨⟨(bubble_perm _ _ _).trans hB.1.perm,hB.1.kind,hB.1.failed⟩,hB.2⟩)
theorem oX {lo n ok:Nat} {p:Array (Nat×Nat×Nat)} {Q:Bool->SortSt->Prop} (h0:IntKeys a₀) (hn:lo+n<=a₀.size) (hB:WP a₀ p st) (h:∀st',WP a₀ p st'->Q true st'):wpS (model prog w) A E s (binarySort' lo n ok) Q st:=by
 rw [binarySort'_eq];refine wpS_bind (wpS_mono (nC (I:=λc st'=>c.fst=none/\WP a₀ p st') (Q:=λc st'=>c.fst=none/\WP a₀ p st') ?_ (λ_ _ h=>h) ⟨rfl,hB⟩) ?_)
 ·rintro k ⟨r,u⟩ st' hk1 hk ⟨e1,hB⟩;cases e1;refine wpS_bind (wpS_mono (nC (I:=λc st'=>c.fst=none/\c.snd.snd<=k/\WP a₀ p st') (Q:=λc st'=>c.fst=none/\WP a₀ p st') ?_ (λ_ _ h=>⟨h.1,h.2.2⟩) ⟨rfl,Pt k,hB⟩) ?_)
  ·rintro i ⟨r,l,rr⟩ st2 _ _ ⟨e1,h1,hB⟩;cases e1;dsimp only at h1;refine bZ (λ_=>wpS_pure ⟨rfl,hB⟩) λhlt=>?_;dsimp only at hlt;refine wpS_bind (l8 hB.1 h0 (by lia) (by dsimp only;lia) λb=>?_);cases b
   ·exact wpS_pure ⟨rfl,h1,hB⟩
   ·exact wpS_pure ⟨rfl,show (l+rr) / 2<=k by lia,hB⟩
  ·rintro ⟨r,l,rr⟩ st2 ⟨e1,hB⟩;cases e1;exact wpS_bind (Dp hB λst3 hB=>wpS_pure ⟨rfl,hB⟩)
 ·rintro ⟨r,u⟩ st' ⟨e1,hB⟩;cases e1;exact wpS_pure (h _ hB)
noncomputable abbrev E2:=Option (Option Nat)×Nat
noncomputable abbrev LC:=Option (Option Nat)×Nat×Nat
noncomputable def yn (lo:Nat) (_:Nat) (c:E2):SM (ForInStep E2):=ltAt' (lo+c.2) (lo+c.2-1) >>= λr=>match r with
 | some b=>if b=true then pure (.done (none,c.2)) else pure (.yield (none,c.2+1))
 | _=>pure (.done (some none,c.2))
noncomputable def HO (lo nrem n:Nat):SM (Option Nat):=forIn [n:nrem] ((none,n):E2) (yn lo) >>= λc=>match c.1 with
 | some r=>pure r
 | none=>pure (some c.2)
noncomputable def Eg (lo nrem n:Nat):SM (Option Nat):=reverseSlice' lo (lo+n) >>= λ_=>HO lo nrem n
noncomputable def G0 (lo:Nat) (_:Nat) (c:LC):SM (ForInStep LC):=ltAt' (lo+c.2.1) (lo+c.2.1-1) >>= λr=>match r with
 | some b=>
  if b=true then
   if c.2.2>0 then reverseSlice' (lo+c.2.1- (c.2.2+1)) (lo+c.2.1) >>= λ_=>pure (.yield (none,c.2.1+1,0)) else pure (.yield (none,c.2.1+1,0))
  else ltAt' (lo+c.2.1-1) (lo+c.2.1) >>= λr=>match r with
   | some b=>if b=true then pure (.done (none,c.2)) else pure (.yield (none,c.2.1+1,c.2.2+1))
   | _=>pure (.done (some none,c.2))
 | _=>pure (.done (some none,c.2))
noncomputable def yp (lo nrem n:Nat):SM (Option Nat):=do
 rule "list.sort.descending-run"
 let c <- forIn [n+1:nrem] ((none,n+1,0):LC) (G0 lo)
 match c.1 with
 | some r=>pure r
 | none=>if c.2.2>0 then reverseSlice' (lo+c.2.1- (c.2.2+1)) (lo+c.2.1) >>= λ_=>Eg lo nrem c.2.1 else Eg lo nrem c.2.1
theorem pe (lo nrem:Nat):countRun' lo nrem=(forIn [1:nrem] ((none,1):E2) (yn lo) >>= λc=>match c.1 with
 | some r=>pure r
 | none=>
  if (c.2 == nrem)=true then pure (some c.2) else
  if c.2>1 then ltAt' lo (lo+c.2-1) >>= λr=>match r with
   | some b=>if b=true then pure (some c.2) else reverseSlice' lo (lo+c.2) >>= λ_=>yp lo nrem c.2
   | _=>pure none
  else yp lo nrem c.2):=by kernel_rfl
structure CQ (a₀:Array Keyed) (p:Array (Nat×Nat×Nat)) (m:Nat) (r:Option (Option Nat)) (n:Nat) (st:SortSt):Prop where
 w:WP a₀ p st
 e:r=none
 n1:1<=n
 n2:n<=m
section
variable {lo nrem n:Nat} {p:Array (Nat×Nat×Nat)} {Q:Option Nat->SortSt->Prop}
theorem tD {Q:E2->SortSt->Prop} (h0:IntKeys a₀) (hn:lo+nrem<=a₀.size) (n1:1<=n) (n2:n<=nrem) (hB:WP a₀ p st) (h:∀c st',CQ a₀ p nrem c.1 c.2 st'->Q c st'):wpS (model prog w) A E s (forIn [n:nrem] ((none,n):E2) (yn lo)) Q st:=by
 refine wpS_mono (wpS_forRange (λx c st'=>CQ a₀ p x c.1 c.2 st'/\c.2=x) (Q:=λc st'=>CQ a₀ p nrem c.1 c.2 st') (λx c st' hx1 hx2 ⟨q,e⟩=>?_) (λc st h=>⟨h.1.w,h.1.e,h.1.n1,Pb h.1.n2 (Nat.max_le.mpr ⟨n2,Pt _⟩)⟩) ⟨⟨hB,rfl,n1,Pt _⟩,rfl⟩) h;obtain ⟨r,n⟩:=c;cases e;have z:=q.n1;refine wpS_bind (l8 q.w.1 h0 (show lo+n<a₀.size by lia) (show lo+n-1<a₀.size by lia) λb=>bZ (λ_=>wpS_pure ⟨q.w,rfl,z,Pw hx2⟩) λ_=>wpS_pure ⟨⟨q.w,rfl,SG z,Pt _⟩,rfl⟩)
theorem wQ (h0:IntKeys a₀) (hn:lo+nrem<=a₀.size) (n1:1<=n) (n2:n<=nrem) (hB:WP a₀ p st) (h:∀m st',WP a₀ p st'->1<=m->m<=nrem->Q (some m) st'):wpS (model prog w) A E s (Eg lo nrem n) Q st:=by
 refine wpS_bind (tA hB λst' hB=>wpS_bind (tD h0 hn n1 n2 hB λc st2 q=>?_));obtain ⟨r,m⟩:=c;obtain ⟨w,e,l1,l2⟩:=q;cases e;exact wpS_pure (h _ _ w l1 l2)
theorem tE (h0:IntKeys a₀) (hn:lo+nrem<=a₀.size) (n2:n+1<=nrem) (hB:WP a₀ p st) (h:∀m st',WP a₀ p st'->1<=m->m<=nrem->Q (some m) st'):wpS (model prog w) A E s (yp lo nrem n) Q st:=by
 refine wpS_bind (wpS_lift (wpAny_rule ⟨rfl,?_⟩));refine wpS_bind (wpS_mono (wpS_forRange (λx c st'=>CQ a₀ p x c.1 c.2.1 st'/\c.2.1=x) (Q:=λc st'=>CQ a₀ p nrem c.1 c.2.1 st') (λx c st' hx1 hx2 ⟨q,e⟩=>?a) (λc st h=>⟨h.1.w,h.1.e,h.1.n1,Pb h.1.n2 (Nat.max_le.mpr ⟨n2,Pt _⟩)⟩) ⟨⟨hB,rfl,QV 1 n,Pt _⟩,rfl⟩) λc st' q=>?b)
 case a=>
  obtain ⟨r,n,neq⟩:=c;cases e;have z:=q.n1
  have i1:lo+n<a₀.size:=by lia
  have i2:lo+n-1<a₀.size:=Pm (QC _ _) i1;have up:∀{st},WP a₀ p st->CQ a₀ p (n+1) none (n+1) st/\n+1=n+1:=λw=>⟨⟨w,rfl,SG z,Pt _⟩,rfl⟩;refine wpS_bind (l8 q.w.1 h0 i1 i2 λb=>bZ (λ_=>bZ (λ_=>wpS_bind (tA q.w λst' hB=>wpS_pure (up hB))) λ_=>wpS_pure (up q.w)) λ_=>?_);exact wpS_bind (l8 q.w.1 h0 i2 i1 λb=>bZ (λ_=>wpS_pure ⟨q.w,rfl,z,Pw hx2⟩) λ_=>wpS_pure (up q.w))
 case b=>
  obtain ⟨r,n,neq⟩:=c;obtain ⟨w,e,l1,l2⟩:=q;cases e;exact bZ (λ_=>wpS_bind (tA w λst' hB=>wQ h0 hn l1 l2 hB h)) λ_=>wQ h0 hn l1 l2 w h
theorem rK (h0:IntKeys a₀) (hn:lo+nrem<=a₀.size) (h1:1<=nrem) (hB:WP a₀ p st) (h:∀m st',WP a₀ p st'->1<=m->m<=nrem->Q (some m) st'):wpS (model prog w) A E s (countRun' lo nrem) Q st:=by
 rw [pe];refine wpS_bind (tD h0 hn (Pt 1) h1 hB λc st2 q=>?_);obtain ⟨r,n⟩:=c;obtain ⟨w,e,n1,n2⟩:=q;cases e;refine fQ (λ_=>wpS_pure (h _ _ w n1 n2)) λnne=>?_;have n3:n+1<=nrem:=P9 n2 nne;refine bZ (λ_=>wpS_bind (l8 w.1 h0 (show lo<a₀.size by lia) (show lo+n-1<a₀.size by lia) λb=>?_)) λ_=>tE h0 hn n3 w h;exact bZ (λ_=>wpS_pure (h _ _ w n1 n2)) λ_=>wpS_bind (tA w λst' hB=>tE h0 hn n3 hB h)
end
end
noncomputable abbrev EK:=Nat×Nat×Nat
def qN:Nat->List EK->Nat->Prop
 | s,[],e=>s=e
 | s,x::l,e=>x.1=s/\1<=x.2.1/\qN (s+x.2.1) l e
theorem qN.le:∀{l:List EK} {s e:Nat},qN s l e->s<=e
 | [],_,_,h=>Qt h
 | x::l,s,e,h=>Pb (PK _ _) h.2.2.le
theorem jl:∀{l m:List EK} {s e:Nat},qN s (l++m) e↔∃k,qN s l k/\qN k m e
 | [],m,s,e=>⟨λh=>⟨s,rfl,h⟩,λ⟨k,h1,h2⟩=>by cases h1;exact h2⟩
 | x::l,m,s,e=>by
  constructor
  ·rintro ⟨h1,h2,h3⟩;refine aq (jl.mp h3) λk h4 h5=>?_;exact ⟨k,⟨h1,h2,h4⟩,h5⟩
  ·rintro ⟨k,⟨h1,h2,h4⟩,h5⟩;exact ⟨h1,h2,jl.mpr ⟨k,h4,h5⟩⟩
theorem tP {pw:Nat}:∀{l:List EK} {i s e:Nat},qN s l e->qN s (l.modify i λx=>(x.1,x.2.1,pw)) e
 | [],i,s,e,h=>by rw [List.modify_nil];exact h
 | x::l,0,s,e,h=>by rw [List.modify_zero_cons];exact h
 | x::l,i+1,s,e,h=>by rw [List.modify_succ_cons];exact ⟨h.1,h.2.1,tP h.2.2⟩
theorem AM {p:Array EK} {i lo:Nat} (hi:i+1<p.size) (h:qN 0 p.toList lo):∃sa na pw sb nb pw',p[i]?=some (sa,na,pw)/\p[i+1]?=some (sb,nb,pw')/\sa+na=sb/\1<=na/\1<=nb/\sb+nb<=lo/\
 qN 0 ((p.setIfInBounds i (sa,na+nb,pw)).eraseIdxIfInBounds (i+1)).toList lo:=by
 have hl:i+1<p.toList.length:=by rw [Ql];exact hi
 have e1:p.toList.drop i=p.toList[i]::p.toList[i+1]::p.toList.drop (i+1+1):=by
  rw [Ri (Nat.lt_of_succ_lt hl),Ri hl]
 have e0:p.toList=p.toList.take i++p.toList[i]::p.toList[i+1]::p.toList.drop (i+1+1):=by rw [<- e1,Qw]
 have tl:(p.toList.take i).length=i:=by rw [RT];lia
 have h':=h;rw [e0] at h';refine Kd (jl.mp h') λk h1 h2 h3 h4 h5 h6=>?_
 have g1:p[i]?=some p.toList[i]:=by rw [<- Array.getElem?_toList];exact Pk _
 have g2:p[i+1]?=some p.toList[i+1]:=by rw [<- Array.getElem?_toList];exact Pk _
 obtain ⟨A,hA⟩:∃A,p.toList[i]=A:=⟨_,rfl⟩;obtain ⟨B,hB⟩:∃B,p.toList[i+1]=B:=⟨_,rfl⟩;rw [hA] at e0 g1 h2 h3 h4 h6;rw [hB] at e0 g2 h4 h5 h6;obtain ⟨sa,na,pw⟩:=A;obtain ⟨sb,nb,pw'⟩:=B;dsimp only at h2 h3 h4 h5 h6;refine ⟨sa,na,pw,sb,nb,pw',g1,g2,by lia,h3,h5,by have:=h6.le;lia,?_⟩
 have e3:((p.setIfInBounds i (sa,na+nb,pw)).eraseIdxIfInBounds (i+1)).toList=p.toList.take i++ (sa,na+nb,pw)::p.toList.drop (i+1+1):=by
  rw [Array.toList_eraseIdxIfInBounds,Array.toList_setIfInBounds]
  conv=>lhs;rw [e0]
  rw [List.set_append_right _ _ (by lia),tl,SV,List.set_cons_zero,List.eraseIdx_append_of_length_le (by lia),tl,Qz];rfl
 rw [e3];exact jl.mpr ⟨k,h1,h2,by show 1<=na+nb;exact QD ‹_›,by show qN (k+(na+nb)) _ _;rw [<- Q0];exact h6⟩
section
variable {prog:Program} {w:World} {A:Around} {E:Value->Shared->Prop} {s:Shared} {a₀:Array Keyed} {st:SortSt}
theorem tC {i lo:Nat} {Q:Bool->SortSt->Prop} (h0:IntKeys a₀) (hB:WB a₀ st) (hC:qN 0 (pendingOf st).toList lo) (hlo:lo<=a₀.size) (hi:i+1<(pendingOf st).size)
 (h:∀st',WB a₀ st'->qN 0 (pendingOf st').toList lo->Q true st'):wpS (model prog w) A E s (mergeAt' i) Q st:=by
 obtain ⟨sa,na,pw,sb,nb,pw',e1,e2,h1,h2,h3,h4,h5⟩:=AM hi hC;exact uy hB h0 e1 e2 h1 h2 h3 (Pb h4 hlo) λst' hB' hp=>h st' hB' (by rw [hp];exact h5)
theorem ite_le {c:Prop} [Decidable c] {n:Nat}:(if c then n-1 else n)<=n:=by
 split
 ·exact QC ..
 ·exact Pt n
noncomputable abbrev SU:=Option Unit×Unit
noncomputable abbrev SL:=Option Unit×Nat
noncomputable def Bp (pw:Nat) (_:Nat) (_:SU):SM (ForInStep SU):=get >>= λst=>match (if (pendingOf st).size>1 then (pendingOf st)[(pendingOf st).size-2]? else none) with
 | some (_,_,older)=>if older<=pw then pure (.done (none,())) else mergeAt' ((pendingOf st).size-2) >>= λb=>if (!b)=true then pure (.done (some (),())) else pure (.yield (none,()))
 | _=>pure (.done (none,()))
noncomputable def vS (lo n:Nat):SM (ForInStep SL):=do
 modify λs=>setPending s ((pendingOf s).push (lo,n,0))
 pure (.yield (none,lo+n))
noncomputable def Cz (size pw lo n:Nat):SM (ForInStep SL):=do
 let c <- forIn [0:size] ((none,()):SU) (Bp pw)
 match c.1 with
 | some r=>pure (.done (some r,lo))
 | none=>do
  modify λs=>setPending s ((pendingOf s).modify ((pendingOf s).size-1) λx=>(x.fst,x.2.fst,pw))
  vS lo n
noncomputable def Cx (size lo n:Nat):SM (ForInStep SL):=get >>= λst=>match (pendingOf st).back? with
 | some (s1,n1,_)=>Cz size (power' size (2*s1+n1) (2*s1+n1+n1+n) size) lo n
 | _=>vS lo n
noncomputable def Bn (size:Nat) (_:Nat) (c:SL):SM (ForInStep SL):=
 if c.2>=size then pure (.done (none,c.2)) else countRun' c.2 (size-c.2) >>= λr=>match r with
  | some found=>
   if found<minRun' size size 0 then do
    rule "list.sort.binary-insertion"
    let b <- binarySort' c.2 (min (size-c.2) (minRun' size size 0)) found
    if (!b)=true then pure (.done (some (),c.2)) else Cx size c.2 (min (size-c.2) (minRun' size size 0))
   else Cx size c.2 found
  | _=>pure (.done (some (),c.2))
noncomputable def L2 (p:Array EK):Nat:=if Option.any (λx=>decide (x<p[p.size-2+1]?.elim 0 λx=>x.snd.fst)) (if p.size-2>0 then Option.map (λx=>x.snd.fst) p[p.size-2-1]? else none)=true then p.size-2-1 else p.size-2
noncomputable def Jq (_:Nat) (_:SU):SM (ForInStep SU):=get >>= λst=>
 if (pendingOf st).size<=1 then pure (.done (none,())) else mergeAt' (L2 (pendingOf st)) >>= λb=>if (!b)=true then pure (.done (some (),())) else pure (.yield (none,()))
theorem om:sortRuns'=(do
 let st <- get
 let c <- forIn [0:(arrOf st).size] ((none,0):SL) (Bn (arrOf st).size)
 match c.1 with
 | some r=>pure r
 | none=>do
  let c <- forIn [0:(arrOf st).size] ((none,()):SU) Jq
  match c.1 with
  | some r=>pure r
  | none=>pure ()):=by kernel_rfl
structure RW (a₀:Array Keyed) (lo:Nat) (st:SortSt):Prop where
 w:WB a₀ st
 c:qN 0 (pendingOf st).toList lo
theorem CF {p:Array EK}:L2 p<=p.size-2:=ite_le
section
variable {size pw lo n:Nat}
theorem Al {c:SU} {i:Nat} (h0:IntKeys a₀) (hl:lo<=a₀.size) (hW:RW a₀ lo st):wpS (model prog w) A E s (Bp pw i c) (λr st'=>match r with | .done c=>c.1=none/\RW a₀ lo st' | .yield c=>c.1=none/\RW a₀ lo st') st:=by
 refine wpS_bind (wpS_get ?_);by_cases hp2:(pendingOf st).size>1
 ·rw [Po hp2,P8 (pendingOf st) ((pendingOf st).size-2) (RE (Nat.lt_of_succ_lt hp2) Nat.two_pos)];refine bZ (λ_=>wpS_pure ⟨rfl,hW⟩) λ_=>?_;exact wpS_bind (tC h0 hW.w hW.c hl (by lia) λst4 hB4 hC4=>wpS_pure ⟨rfl,hB4,hC4⟩)
 ·rw [Pf hp2];exact wpS_pure ⟨rfl,hW⟩
abbrev RS (a₀:Array Keyed):ForInStep SL->SortSt->Prop:=λr st'=>match r with
 | .done c=>WB a₀ st'/\(c.1=none->c.2<=a₀.size/\RW a₀ c.2 st')
 | .yield c=>c.1=none/\c.2<=a₀.size/\RW a₀ c.2 st'
theorem tB (n1:1<=n) (hn:lo+n<=a₀.size) (hW:RW a₀ lo st):wpS (model prog w) A E s (vS lo n) (RS a₀) st:=by
 refine wpS_bind (wpS_modify (wpS_pure ⟨rfl,hn,⟨hW.w.perm,hW.w.kind,hW.w.failed⟩,?_⟩));show qN 0 ((pendingOf st).push (lo,n,0)).toList _;rw [Si];exact jl.mpr ⟨lo,hW.c,rfl,n1,rfl⟩
theorem wK (h0:IntKeys a₀) (n1:1<=n) (hn:lo+n<=a₀.size) (hW:RW a₀ lo st):wpS (model prog w) A E s (Cx size lo n) (RS a₀) st:=by
 refine wpS_bind (wpS_get ?_)
 cases (pendingOf st).back? with
 | none=>exact tB n1 hn hW
 | some x=>
  refine wpS_bind (wpS_mono (nC (λc st'=>c.1=none/\RW a₀ lo st') (Q:=λc st'=>c.1=none/\RW a₀ lo st') (λi c st' _ _ h=>wpS_mono (Al h0 (Pb (PK _ _) hn) h.2) λr _ h=>by cases r<;>exact h) (λ_ _ h=>h) ⟨rfl,hW⟩) λc st' ⟨e,hW⟩=>?_);obtain ⟨r,c⟩:=c;cases e;refine wpS_bind (wpS_modify (tB n1 hn ⟨⟨hW.w.perm,hW.w.kind,hW.w.failed⟩,?_⟩));show qN 0 ((pendingOf st').modify _ _).toList lo;rw [Array.toList_modify];exact tP hW.c
theorem Ak {c:SL} {i:Nat} (h0:IntKeys a₀) (hl:c.2<=a₀.size) (hW:RW a₀ c.2 st):wpS (model prog w) A E s (Bn a₀.size i c) (RS a₀) st:=by
 refine bZ (λ_=>wpS_pure ⟨hW.w,λ_=>⟨hl,hW⟩⟩) λhlo=>?_;have hlo:1<=a₀.size-c.2:=RI (Nat.lt_of_not_le hlo);have cp:∀{st2},WP a₀ (pendingOf st) st2->RW a₀ c.2 st2:=λw=>⟨w.1,by rw [w.2];exact hW.c⟩;refine wpS_bind (rK (p:=pendingOf st) h0 (Qt (Qk hl)) hlo ⟨hW.w,rfl⟩ λm st2 w2 m1 m2=>?_);refine bZ (λhm=>?_) λ_=>wK h0 m1 (Pb (Qe m2 _) (Qt (Qk hl))) (cp w2);have f1:1<=min (a₀.size-c.2) (minRun' a₀.size a₀.size 0):=Nat.le_min.mpr ⟨hlo,Pb m1 (Pw hm)⟩;have f2:c.2+min (a₀.size-c.2) (minRun' a₀.size a₀.size 0)<=a₀.size:=Pb (Qe (SX ..) _) (Qt (Qk hl));exact wpS_bind (wpS_lift (wpAny_rule ⟨rfl,wpS_bind (oX h0 f2 w2 λst3 w3=>wK h0 f1 f2 (cp w3))⟩))
theorem rJ {Q:Unit->SortSt->Prop} (h0:IntKeys a₀) (hB:WB a₀ st) (hp:pendingOf st=#[]) (h:∀st',WB a₀ st'->Q () st'):wpS (model prog w) A E s sortRuns' Q st:=by
 rw [om];refine wpS_bind (wpS_get ?_);rw [show (arrOf st).size=a₀.size from hB.perm.size_eq];refine wpS_bind (wpS_mono (nC (λc st'=>c.1=none/\c.2<=a₀.size/\RW a₀ c.2 st') (Q:=λc st'=>WB a₀ st'/\(c.1=none->c.2<=a₀.size/\RW a₀ c.2 st')) (λi c st' _ _ hc=>?a) (λc st h=>⟨h.2.2.w,λ_=>h.2⟩) ⟨rfl,Qc _,hB,by rw [hp];rfl⟩) λc st' hc=>?b)
 case a=>exact wpS_mono (Ak h0 hc.2.1 hc.2.2) λr _ h=>by cases r<;>exact h
 case b=>
  obtain ⟨r,lo⟩:=c
  cases r with
  | some u=>exact wpS_pure (h _ hc.1)
  | none=>
   refine aD (hc.2 rfl) λhl hW=>?_;refine wpS_bind (wpS_mono (nC (λc st'=>RW a₀ lo st') (Q:=λc st'=>WB a₀ st') (λi c st' _ _ hW=>?a) (λ_ _ h=>h.w) hW) λc st' hB=>?b)
   case a=>
    refine wpS_bind (wpS_get (bZ (λ_=>wpS_pure hW.w) λh1=>wpS_bind (tC h0 hW.w hW.c hl (Pm (RP CF) (by lia)) λst2 hB2 hC2=>wpS_pure ⟨hB2,hC2⟩)))
   case b=>
    obtain ⟨r,u⟩:=c
    cases r<;>exact wpS_pure (h _ hB)
end
end
end Internal
end
section
open PySem
namespace Internal
inductive V where
 | none
 | bool (b:Bool)
 | int (i:Int)
 | ref (a:Addr)
 | tup (vs:List V)
 | fW (a b c:Int)
 | nG (vs:List V)
inductive Ob where
 | list (vs:List V)
 | dict (fs:List (Nat×V))
 | inst (cls:Nat) (dx:Addr)
noncomputable abbrev Hp:=Addr->Option Ob
noncomputable def Hp.upd (H:Hp) (a:Addr) (o:Ob):Hp:=λb=>if b=a then some o else H b
def Hp.Sub (H H':Hp):Prop:=∀a o,H a=some o->H' a=some o
noncomputable abbrev Lc:=List (Option V)
inductive gD where
 | add | sub | mul | fdiv | mod | shl | shr | and | or | xor
inductive uT where
 | eq | ne | lt | le | gt | ge | is | isnot | inn | notin
inductive Bi where
 | len | abs | range | max | sorted | sum | list
set_option genCtorIdx false in
inductive E where
 | nil
 | cons (c r:E)
 | bad
 | g6
 | bu (b:Bool)
 | bB (i:Int)
 | l7 (is:List Int)
 | loc (i:Nat)
 | bin (op:gD) (l r:E)
 | neg (e:E)
 | inv (e:E)
 | lZ (e:E)
 | dU (es:E)
 | tf (es:E)
 | cmp (op:uT) (l r:E)
 | Ar (t a b:E)
 | call (f:Nat) (args:E)
 | new (c:Nat) (args:E)
 | bi (b:Bi) (args:E)
 | append (o x:E)
 | pop (o:E)
 | index (o x:E)
 | count (o x:E)
 | attr (o:E) (n:Nat)
 | sub (o i:E)
 | slice (o lo hi:E)
 | tup (es:E)
 | lst (es:E)
 | comp (caps:List (Option Nat)) (it cond elt:E)
set_option genCtorIdx false in
inductive S where
 | nil
 | cons (s r:S)
 | bad
 | aG (e:E)
 | asg (i:Nat) (e:E)
 | mB (is:List Nat) (e:E)
 | b9 (o:E) (n:Nat) (e:E)
 | eP (o i e:E)
 | aug (i:Nat) (op:gD) (e:E)
 | j3 (o:E) (n:Nat) (op:gD) (e:E)
 | jt (o i:E) (op:gD) (e:E)
 | bh (t:E) (a b:S)
 | gO (t:E) (b:S)
 | cy (i:Nat) (it:E) (b:S)
 | ret (e:E)
 | zB
 | brk
 | raise
inductive Fl where
 | next | brk
 | ret (v:V)
structure Fn where
 BF:Str
 names:List Str
 np:Nat
 body:S
abbrev Sg:=Nat->List V->Hp->(V->Hp->Prop)->Prop
noncomputable def truthy:V->Option Bool
 | .none=>some false
 | .bool b=>some b
 | .int i=>some (i !=0)
 | _=>none
def BQ (op:gD) (x y:Int) (Q:Int->Prop):Prop:=match op with
 | .add=>Q (x+y)
 | .sub=>Q (x-y)
 | .mul=>x.natAbs<2^64/\Q (x*y)
 | .fdiv=>(y≠0/\y.natAbs<1073741824)/\Q (x.fdiv y)
 | .mod=>y≠0/\Q (x.fmod y)
 | .shl=>(0<=y/\y<=100000/\x.natAbs<2^64)/\Q (x*2^y.toNat)
 | .shr=>0<=y/\Q (x.fdiv (2^y.toNat))
 | .and=>Q (Builtin.bitAnd x y)
 | .or=>Q (Builtin.bitOr x y)
 | .xor=>Q (Builtin.bitXor x y)
noncomputable abbrev lim:Nat:=1000000
structure c7 (vs:List V) (H:Hp) (Q:V->Hp->Prop):Prop where
 l:vs.length<=lim
 q:∀a,H a=none->Q (.ref a) (H.upd a (.list vs))
inductive eU (H:Hp) (Q:V->Hp->Prop):gD->V->V->Prop
 | int {op:gD} {x y:Int} (h:BQ op x y λz=>Q (.int z) H):eU H Q op (.int x) (.int y)
 | rep {a:Addr} {x:V} {n:Int} (h:H a=some (.list [x])) (l:0<=n/\n<=lim) (q:c7 (List.replicate n.toNat x) H Q):eU H Q .mul (.ref a) (.int n)
 | cat {a b:Addr} {xs ys:List V} (h1:H a=some (.list xs)) (h2:H b=some (.list ys)) (q:c7 (xs++ys) H Q):eU H Q .add (.ref a) (.ref b)
def au (op:gD) (v w:V) (H:Hp) (Q:V->Hp->Prop):Prop:=eU H Q op v w
noncomputable def intOf?:V->Option Int
 | .int i=>some i
 | _=>none
noncomputable def intsOf?:List V->Option (List Int)
 | []=>some []
 | .int i::r=>(intsOf? r).map (i::·)
 | _=>none
inductive Pd (H:Hp):V->PyData->Prop
 | int (i:Int):Pd H (.int i) (.int i)
 | bool (b:Bool):Pd H (.bool b) (.bool b)
 | list {a:Addr} {vs:List V} {ns:List Int} (h:H a=some (.list vs)) (hi:intsOf? vs=some ns):Pd H (.ref a) (.list (ns.map .int))
inductive BV (H:Hp):List V->List PyData->Prop
 | nil:BV H [] []
 | cons {v:V} {d:PyData} {vs:List V} {ds:List PyData} (a:Pd H v d) (b:BV H vs ds):BV H (v::vs) (d::ds)
inductive E4 (H:Hp):V->PyData->Prop
 | flat {v:V} {d:PyData} (h:Pd H v d):E4 H v d
 | tup {vs:List V} {ds:List PyData} (h:BV H vs ds):E4 H (.tup vs) (.tuple ds)
inductive LO (H:Hp):V->List Int->Prop
 | tup {vs:List V} {ns:List Int} (h:intsOf? vs=some ns):LO H (.tup vs) ns
 | list {a:Addr} {vs:List V} {ns:List Int} (h:H a=some (.list vs)) (hi:intsOf? vs=some ns):LO H (.ref a) ns
inductive LQ (H:Hp) (P:Bool->Prop) (v w:V):Prop
 | mk {d e:PyData} (a:E4 H v d) (b:E4 H w e) (q:P (PyData.eqv d e)):LQ H P v w
inductive sL (P:Int->Int->Prop):V->V->Prop
 | mk {x y:Int} (q:P x y):sL P (.int x) (.int y)
inductive IF (P:Prop):V->Prop
 | mk (q:P):IF P .none
inductive IG (H:Hp) (P:Bool->Prop) (w:V):V->Prop
 | mk {x:Int} {ns:List Int} (h:LO H w ns) (q:P (ns.any (· == x))):IG H P w (.int x)
noncomputable def isNone:V->Bool
 | .none=>true
 | _=>false
noncomputable def cj (a b c:Int):Nat:=(Builtin.Range.rangeSize a b c).toNat
noncomputable def aP (a b c:Int):List V:=(List.range (cj a b c)).map λ(k:Nat)=>.int (a+(k:Int)*c)
inductive qH (H:Hp) (Q:V->Hp->Prop):V->V->Prop
 | ref {a:Addr} {vs:List V} {i:Int} {x:V} (h:H a=some (.list vs)) (h0:0<=i) (hx:vs[i.toNat]?=some x) (q:Q x H):qH H Q (.ref a) (.int i)
 | tup {vs:List V} {i:Int} {x:V} (h0:0<=i) (hx:vs[i.toNat]?=some x) (q:Q x H):qH H Q (.tup vs) (.int i)
 | nG {vs:List V} {i:Int} {x:V} (h0:0<=i) (hx:vs[i.toNat]?=some x) (q:Q x H):qH H Q (.nG vs) (.int i)
def aN (v i:V) (H:Hp) (Q:V->Hp->Prop):Prop:=qH H Q v i
inductive E0 (vs:List V) (H:Hp) (Q:V->Hp->Prop):V->V->Prop
 | to {k:Int} (h:0<=k/\k<=lim) (q:c7 (vs.take k.toNat) H Q):E0 vs H Q .none (.int k)
 | mid {j k:Int} (h:0<=j/\j<=k/\k<=lim) (q:c7 ((vs.take k.toNat).drop j.toNat) H Q):E0 vs H Q (.int j) (.int k)
 | Mj {j:Int} (h:0<=j/\j<=lim) (q:c7 (vs.drop j.toNat) H Q):E0 vs H Q (.int j) .none
inductive iT (lo hi:V) (H:Hp) (Q:V->Hp->Prop):V->Prop
 | ref {a:Addr} {vs:List V} (h:H a=some (.list vs)) (q:E0 vs H Q lo hi):iT lo hi H Q (.ref a)
 | nG {vs:List V} (q:E0 vs H Q lo hi):iT lo hi H Q (.nG vs)
def dX (v lo hi:V) (H:Hp) (Q:V->Hp->Prop):Prop:=iT lo hi H Q v
inductive mC (H:Hp) (Q:V->Hp->Prop):Bi->List V->Prop
 | len {a:Addr} {vs:List V} (h:H a=some (.list vs)) (q:Q (.int vs.length) H):mC H Q .len [.ref a]
 | JH {vs:List V} (q:Q (.int vs.length) H):mC H Q .len [.nG vs]
 | abs {x:Int} (q:Q (.int x.natAbs) H):mC H Q .abs [.int x]
 | max {x y:Int} (q:Q (.int (max x y)) H):mC H Q .max [.int x,.int y]
 | Cr {n:Int} (h:-1000000<=n/\n<=1000000) (q:Q (.fW 0 n 1) H):mC H Q .range [.int n]
 | Fy {a b:Int} (h:(-1000000<=a/\a<=1000000)/\-1000000<=b/\b<=1000000) (q:Q (.fW a b 1) H):mC H Q .range [.int a,.int b]
 | Cq {a b c:Int} (h:(-1000000<=a/\a<=1000000)/\-1000000<=b/\b<=1000000) (hc:c=-1) (q:Q (.fW a b c) H):mC H Q .range [.int a,.int b,.int c]
 | sorted {a:Addr} {vs:List V} {xs:List Int} (h:H a=some (.list vs)) (hi:intsOf? vs=some xs) (q:∀ys:List Int,ys.Perm xs->(xs.length<64->ys.Pairwise (·<=·))->c7 (ys.map .int) H Q):mC H Q .sorted [.ref a]
 | sum {a:Addr} {vs:List V} {xs:List Int} (h:H a=some (.list vs)) (hi:intsOf? vs=some xs) (q:Q (.int xs.sum) H):mC H Q .sum [.ref a]
 | list {a:Addr} {vs:List V} (h:H a=some (.list vs)) (q:c7 vs H Q):mC H Q .list [.ref a]
def bY (b:Bi) (vs:List V) (H:Hp) (Q:V->Hp->Prop):Prop:=mC H Q b vs
noncomputable def eZ (n:Nat):List (Nat×V)->Option V
 | []=>none
 | (k,v)::r=>if k=n then some v else eZ n r
noncomputable def gu (n:Nat) (v:V):List (Nat×V)->List (Nat×V)
 | []=>[(n,v)]
 | (k,w)::r=>if k=n then (k,v)::r else (k,w)::gu n v r
inductive yI (n:Nat) (H:Hp) (Q:V->Hp->Prop):V->Prop
 | mk {a dx:Addr} {c:Nat} {fs:List (Nat×V)} {x:V} (h1:H a=some (.inst c dx)) (h2:H dx=some (.dict fs)) (h3:eZ n fs=some x) (q:Q x H):yI n H Q (.ref a)
def dM (v:V) (n:Nat) (H:Hp) (Q:V->Hp->Prop):Prop:=yI n H Q v
inductive yH (n:Nat) (x:V) (H:Hp) (Q:Hp->Prop):V->Prop
 | mk {a dx:Addr} {c:Nat} {fs:List (Nat×V)} (h1:H a=some (.inst c dx)) (h2:H dx=some (.dict fs)) (l:fs.length<=100) (q:Q (H.upd dx (.dict (gu n x fs)))):yH n x H Q (.ref a)
def bj (v:V) (n:Nat) (x:V) (H:Hp) (Q:Hp->Prop):Prop:=yH n x H Q v
inductive yG (x:V) (H:Hp) (Q:Hp->Prop):V->V->Prop
 | mk {a:Addr} {vs:List V} {i:Int} (h:H a=some (.list vs)) (h0:0<=i) (hl:i.toNat<vs.length) (q:Q (H.upd a (.list (vs.set i.toNat x)))):yG x H Q (.ref a) (.int i)
def bT (v i x:V) (H:Hp) (Q:Hp->Prop):Prop:=yG x H Q v i
inductive IsL (H:Hp):V->Prop
 | mk {a:Addr} {vs:List V} (h:H a=some (.list vs)):IsL H (.ref a)
def DI (v:V) (H:Hp):Prop:=IsL H v
inductive EI (x:V) (H:Hp) (Q:V->Hp->Prop):V->Prop
 | mk {a:Addr} {vs:List V} (h:H a=some (.list vs)) (l:vs.length<lim) (q:Q .none (H.upd a (.list (vs++ [x])))):EI x H Q (.ref a)
def dB (v x:V) (H:Hp) (Q:V->Hp->Prop):Prop:=EI x H Q v
inductive EF (H:Hp) (Q:V->Hp->Prop):V->Prop
 | mk {a:Addr} {us:List V} {x:V} (h:H a=some (.list (us++ [x]))) (q:Q x (H.upd a (.list us))):EF H Q (.ref a)
def sP (v:V) (H:Hp) (Q:V->Hp->Prop):Prop:=EF H Q v
inductive EG (H:Hp) (Q:V->Hp->Prop):V->V->Prop
 | mk {a:Addr} {vs:List V} {xs:List Int} {x:Int} (h:H a=some (.list vs)) (hi:intsOf? vs=some xs) (hx:x∈xs) (hl:xs.length<=100) (hb:∀y∈xs,0<=y/\y<100) (q:Q (.int (xs.idxOf x)) H):EG H Q (.ref a) (.int x)
def kL (v x:V) (H:Hp) (Q:V->Hp->Prop):Prop:=EG H Q v x
inductive EH (H:Hp) (Q:V->Hp->Prop):V->V->Prop
 | mk {a:Addr} {vs:List V} {xs:List Int} {x:Int} (h:H a=some (.list vs)) (hi:intsOf? vs=some xs) (q:Q (.int (xs.count x)) H):EH H Q (.ref a) (.int x)
def kM (v x:V) (H:Hp) (Q:V->Hp->Prop):Prop:=EH H Q v x
def JW (acc:List V) (R:List V->Hp->(List V->Hp->Prop)->Prop) (Q:List V->Hp->Prop):V->Hp->Prop:=λy H=>acc.length<lim/\R (acc++ [y]) H Q
def Am (e:Hp->(V->Hp->Prop)->Prop) (R:List V->Hp->(List V->Hp->Prop)->Prop) (acc:List V) (Q:List V->Hp->Prop):V->Hp->Prop:=λv H=>match truthy v with
 | some true=>e H (JW acc R Q)
 | some false=>R acc H Q
 | none=>False
def eA (test:Lc->Hp->(V->Hp->Prop)->Prop) (elt:Lc->Hp->(V->Hp->Prop)->Prop) (ρ:Lc):List V->List V->Hp->(List V->Hp->Prop)->Prop
 | [],acc,H,Q=>Q acc H
 | x::r,acc,H,Q=>test (ρ.set 0 (some x)) H (Am (elt (ρ.set 0 (some x))) (eA test elt ρ r) acc Q)
noncomputable def gB (ρ:Lc) (caps:List (Option Nat)):Lc:=caps.map λc=>match c with
 | some i=>(ρ[i]?).join
 | none=>none
noncomputable def isNil:E->Bool
 | .nil=>true
 | _=>false
noncomputable def getL (ρ:Lc) (i:Nat):Option V:=(ρ[i]?).join
@[irreducible] def cz (v:V) (A B:Prop):Prop:=match truthy v with
 | some true=>A
 | some false=>B
 | none=>False
def xI (op:uT) (v w:V) (H:Hp) (Q:V->Hp->Prop):Prop:=match op with
 | .eq=>LQ H (λb=>Q (.bool b) H) v w
 | .ne=>LQ H (λb=>Q (.bool !b) H) v w
 | .lt=>sL (λx y=>Q (.bool (decide (x<y))) H) v w
 | .le=>sL (λx y=>Q (.bool (decide (x<=y))) H) v w
 | .gt=>sL (λx y=>Q (.bool (decide (y<x))) H) v w
 | .ge=>sL (λx y=>Q (.bool (decide (y<=x))) H) v w
 | .is=>IF (Q (.bool (isNone v)) H) w
 | .isnot=>IF (Q (.bool !isNone v) H) w
 | .inn=>IG H (λb=>Q (.bool b) H) w v
 | .notin=>IG H (λb=>Q (.bool !b) H) w v
@[irreducible] def bK (op:uT) (v w:V) (H:Hp) (Q:V->Hp->Prop):Prop:=xI op v w H Q
theorem bK.mk {op:uT} {v w:V} {H:Hp} {Q:V->Hp->Prop} (h:xI op v w H Q):bK op v w H Q:=by delta bK;exact h
@[irreducible] def jc (v:V) (H:Hp) (Q:V->Hp->Prop):Prop:=match truthy v with
 | some b=>Q (.bool (!b)) H
 | none=>False
@[irreducible] def oO (v:V) (H:Hp) (Q:V->Hp->Prop):Prop:=match v with
 | .int i=>Q (.int (-i)) H
 | _=>False
@[irreducible] def xa (v:V) (H:Hp) (Q:V->Hp->Prop):Prop:=match v with
 | .int i=>Q (.int (Builtin.bitNot i)) H
 | _=>False
@[irreducible] def fD (test:Lc->Hp->(V->Hp->Prop)->Prop) (elt:Lc->Hp->(V->Hp->Prop)->Prop) (ρ:Lc) (v:V) (H:Hp) (Q:List V->Hp->Prop):Prop:=match v with
 | .fW a b c=>eA test elt ρ (aP a b c) [] H Q
 | _=>False
inductive EP (op:gD) (P:V->Prop):V->V->Prop
 | mk {x y:Int} (h:BQ op x y λz=>P (.int z)):EP op P (.int x) (.int y)
def kH (op:gD) (v w:V) (P:V->Prop):Prop:=EP op P v w
abbrev K1:=V->Hp->Prop
abbrev Ev:=Hp->K1->Prop
noncomputable def Gs (op:gD) (v:V) (Q:K1):K1:=λw H=>au op v w H Q
noncomputable def JX (op:gD) (R:Ev) (Q:K1):K1:=λv H=>R H (Gs op v Q)
noncomputable def wW (op:uT) (v:V) (Q:K1):K1:=λw H=>bK op v w H Q
noncomputable def Gp (op:uT) (R:Ev) (Q:K1):K1:=λv H=>R H (wW op v Q)
noncomputable def Dv (Q:K1):K1:=λv H=>oO v H Q
noncomputable def Dx (Q:K1):K1:=λv H=>xa v H Q
noncomputable def wU (Q:K1):K1:=λv H=>jc v H Q
noncomputable def DG (b:Bool) (R:Ev) (Q:K1):K1:=λv H=>match b with
 | true=>Q v H
 | false=>cz v (R H Q) (Q v H)
noncomputable def JQ (b:Bool) (R:Ev) (Q:K1):K1:=λv H=>match b with
 | true=>Q v H
 | false=>cz v (Q v H) (R H Q)
noncomputable def JT (A B:Ev) (Q:K1):K1:=λv H=>cz v (A H Q) (B H Q)
def Gq (g:List V->Hp->K1->Prop) (Q:K1):List V->Hp->Prop:=λvs H=>g vs H Q
def JS (Γ:Sg) (c:Nat) (Q:K1):List V->Hp->Prop:=λvs H=>∀a dx,H a=none->H dx=none->a≠dx->
 Γ (1000+c) (.ref a::vs) ((H.upd a (.inst c dx)).upd dx (.dict [])) λv H=>isNone v=true/\Q (.ref a) H
def OK (b:Bi) (Q:K1):List V->Hp->Prop:=λvs H=>bY b vs H Q
noncomputable def Dw (op:V->V->Hp->K1->Prop) (v:V) (Q:K1):K1:=λw H=>op v w H Q
noncomputable def tF (op:V->V->Hp->K1->Prop) (R:Ev) (Q:K1):K1:=λv H=>DI v H/\R H (Dw op v Q)
noncomputable def Du (Q:K1):K1:=λv H=>sP v H Q
noncomputable def Gv (n:Nat) (Q:K1):K1:=λv H=>dM v n H Q
noncomputable def Gk (v:V) (Q:K1):K1:=λw H=>aN v w H Q
noncomputable def Dq (R:Ev) (Q:K1):K1:=λv H=>R H (Gk v Q)
noncomputable def JO (v l:V) (Q:K1):K1:=λh H=>dX v l h H Q
noncomputable def JP (v:V) (R:Ev) (Q:K1):K1:=λl H=>R H (JO v l Q)
noncomputable def Md (L R:Ev) (Q:K1):K1:=λv H=>L H (JP v R Q)
def JN (Q:K1):List V->Hp->Prop:=λvs H=>vs.length<=1000/\Q (.tup vs) H
def uz (Q:K1):List V->Hp->Prop:=λvs H=>c7 vs H Q
noncomputable def qn (t e:Lc->Ev) (ρ:Lc) (Q:K1):K1:=λv H=>fD t e ρ v H (uz Q)
def JV (v:V) (Q:List V->Hp->Prop):List V->Hp->Prop:=λvs H=>Q (v::vs) H
noncomputable def OJ (R:Hp->(List V->Hp->Prop)->Prop) (Q:List V->Hp->Prop):K1:=λv H=>R H (JV v Q)
mutual
def bp (Γ:Sg):E->Lc->Hp->(V->Hp->Prop)->Prop
 | .nil,_,_,_=>False
 | .cons _ _,_,_,_=>False
 | .bad,_,_,_=>False
 | .g6,_,H,Q=>Q .none H
 | .bu b,_,H,Q=>Q (.bool b) H
 | .bB i,_,H,Q=>Q (.int i) H
 | .l7 is,_,H,Q=>Q (.tup (is.map .int)) H
 | .loc i,ρ,H,Q=>(match getL ρ i with
  | some v=>Q v H
  | none=>False)
 | .bin op l r,ρ,H,Q=>bp Γ l ρ H (JX op (bp Γ r ρ) Q)
 | .neg e,ρ,H,Q=>bp Γ e ρ H (Dv Q)
 | .inv e,ρ,H,Q=>bp Γ e ρ H (Dx Q)
 | .lZ e,ρ,H,Q=>bp Γ e ρ H (wU Q)
 | .dU es,ρ,H,Q=>jz Γ es ρ H Q
 | .tf es,ρ,H,Q=>mW Γ es ρ H Q
 | .cmp op l r,ρ,H,Q=>bp Γ l ρ H (Gp op (bp Γ r ρ) Q)
 | .Ar t a b,ρ,H,Q=>bp Γ t ρ H (JT (bp Γ a ρ) (bp Γ b ρ) Q)
 | .call f args,ρ,H,Q=>lh Γ args ρ H (Gq (Γ f) Q)
 | .new c args,ρ,H,Q=>lh Γ args ρ H (JS Γ c Q)
 | .bi b args,ρ,H,Q=>lh Γ args ρ H (OK b Q)
 | .append o x,ρ,H,Q=>bp Γ o ρ H (tF dB (bp Γ x ρ) Q)
 | .pop o,ρ,H,Q=>bp Γ o ρ H (Du Q)
 | .index o x,ρ,H,Q=>bp Γ o ρ H (tF kL (bp Γ x ρ) Q)
 | .count o x,ρ,H,Q=>bp Γ o ρ H (tF kM (bp Γ x ρ) Q)
 | .attr o n,ρ,H,Q=>bp Γ o ρ H (Gv n Q)
 | .sub o i,ρ,H,Q=>bp Γ o ρ H (Dq (bp Γ i ρ) Q)
 | .slice o lo hi,ρ,H,Q=>bp Γ o ρ H (Md (bp Γ lo ρ) (bp Γ hi ρ) Q)
 | .tup es,ρ,H,Q=>lh Γ es ρ H (JN Q)
 | .lst es,ρ,H,Q=>lh Γ es ρ H (uz Q)
 | .comp caps it cond elt,ρ,H,Q=>bp Γ it ρ H (qn (bp Γ cond) (bp Γ elt) (gB ρ caps) Q)
def lh (Γ:Sg):E->Lc->Hp->(List V->Hp->Prop)->Prop
 | .nil,_,H,Q=>Q [] H
 | .cons c r,ρ,H,Q=>bp Γ c ρ H (OJ (lh Γ r ρ) Q)
 | _,_,_,_=>False
def jz (Γ:Sg):E->Lc->Hp->(V->Hp->Prop)->Prop
 | .cons x r,ρ,H,Q=>bp Γ x ρ H (DG (isNil r) (jz Γ r ρ) Q)
 | _,_,_,_=>False
def mW (Γ:Sg):E->Lc->Hp->(V->Hp->Prop)->Prop
 | .cons x r,ρ,H,Q=>bp Γ x ρ H (JQ (isNil r) (mW Γ r ρ) Q)
 | _,_,_,_=>False
end
noncomputable def cR (ρ:Lc) (i:Nat) (v:V):Lc:=ρ.set i (some v)
noncomputable def j9 (ρ:Lc):List Nat->List V->Option Lc
 | [],[]=>some ρ
 | i::is,v::vs=>j9 (cR ρ i v) is vs
 | _,_=>none
abbrev KS:=Fl->Lc->Hp->Prop
abbrev Bk:=Hp->KS->Prop
noncomputable def wV (R:Lc->Bk) (Q:KS):KS:=λfl ρ H=>match fl with
 | .next=>R ρ H Q
 | .brk=>Q .next ρ H
 | .ret v=>Q (.ret v) ρ H
def fi (body:Lc->Bk) (i:Nat) (chk:Hp->Prop):List V->Lc->Hp->KS->Prop
 | [],ρ,H,Q=>chk H/\Q .next ρ H
 | x::r,ρ,H,Q=>chk H/\body (cR ρ i x) H (wV (fi body i chk r) Q)
noncomputable def IS (B:Bk) (R:Lc->Bk) (ρ:Lc) (Q:KS):K1:=λv H=>match truthy v with
 | some true=>B H (wV R Q)
 | some false=>Q .next ρ H
 | none=>False
def dI (test:Lc->Ev) (body:Lc->Bk):Nat->Lc->Hp->KS->Prop
 | 0,_,_,_=>False
 | n+1,ρ,H,Q=>test ρ H (IS (body ρ) (dI test body n) ρ Q)
@[irreducible] def ji (v:V) (A:Prop):Prop:=match v with
 | .none=>A
 | .int _=>A
 | _=>False
@[irreducible] def tupK (ρ:Lc) (is:List Nat) (v:V) (P:Lc->Prop):Prop:=match v with
 | .tup vs=>(match j9 ρ is vs with
  | some ρ=>P ρ
  | none=>False)
 | _=>False
def Bt (a:Addr) (vs:List V):Hp->Prop:=λH=>H a=some (.list vs)
def Bq:Hp->Prop:=λ_=>True
@[irreducible] def fg (body:Lc->Hp->(Fl->Lc->Hp->Prop)->Prop) (i:Nat) (v:V) (ρ:Lc) (H:Hp) (Q:Fl->Lc->Hp->Prop):Prop:=match v with
 | .ref a=>(match H a with
  | some (.list vs)=>fi body i (Bt a vs) vs ρ H Q
  | _=>False)
 | .tup vs=>fi body i Bq vs ρ H Q
 | .fW x y z=>fi body i Bq (aP x y z) ρ H Q
 | _=>False
def IT (ρ:Lc) (Q:KS):Hp->Prop:=λH=>Q .next ρ H
noncomputable def JU (ρ:Lc) (Q:KS):K1:=λv H=>ji v (Q .next ρ H)
noncomputable def Ao (i:Nat) (ρ:Lc) (Q:KS):K1:=λv H=>Q .next (cR ρ i v) H
def JR (H:Hp) (Q:KS):Lc->Prop:=λρ=>Q .next ρ H
noncomputable def Bz (is:List Nat) (ρ:Lc) (Q:KS):K1:=λv H=>tupK ρ is v (JR H Q)
noncomputable def Dt (n:Nat) (x:V) (ρ:Lc) (Q:KS):K1:=λv H=>bj v n x H (IT ρ Q)
noncomputable def Bw (R:Ev) (n:Nat) (ρ:Lc) (Q:KS):K1:=λx H=>R H (Dt n x ρ Q)
noncomputable def Dr (v x:V) (ρ:Lc) (Q:KS):K1:=λw H=>bT v w x H (IT ρ Q)
noncomputable def Ds (I:Ev) (x:V) (ρ:Lc) (Q:KS):K1:=λv H=>I H (Dr v x ρ Q)
noncomputable def Bv (O I:Ev) (ρ:Lc) (Q:KS):K1:=λx H=>O H (Ds I x ρ Q)
def Gu (i:Nat) (ρ:Lc) (H:Hp) (Q:KS):V->Prop:=λz=>Q .next (cR ρ i z) H
noncomputable def DF (i:Nat) (op:gD) (v:V) (ρ:Lc) (Q:KS):K1:=λw H=>kH op v w (Gu i ρ H Q)
def DC (v:V) (n:Nat) (ρ:Lc) (H:Hp) (Q:KS):V->Prop:=λz=>bj v n z H (IT ρ Q)
noncomputable def DD (v:V) (n:Nat) (op:gD) (x:V) (ρ:Lc) (Q:KS):K1:=λy H=>kH op x y (DC v n ρ H Q)
noncomputable def DE (R:Ev) (v:V) (n:Nat) (op:gD) (ρ:Lc) (Q:KS):K1:=λx H=>R H (DD v n op x ρ Q)
noncomputable def By (R:Ev) (n:Nat) (op:gD) (ρ:Lc) (Q:KS):K1:=λv H=>dM v n H (DE R v n op ρ Q)
def Dy (v w:V) (ρ:Lc) (H:Hp) (Q:KS):V->Prop:=λz=>bT v w z H (IT ρ Q)
noncomputable def Dz (v w:V) (op:gD) (x:V) (ρ:Lc) (Q:KS):K1:=λy H=>kH op x y (Dy v w ρ H Q)
noncomputable def DA (R:Ev) (v w:V) (op:gD) (ρ:Lc) (Q:KS):K1:=λx H=>R H (Dz v w op x ρ Q)
noncomputable def DB (R:Ev) (v:V) (op:gD) (ρ:Lc) (Q:KS):K1:=λw H=>aN v w H (DA R v w op ρ Q)
noncomputable def Bx (I R:Ev) (op:gD) (ρ:Lc) (Q:KS):K1:=λv H=>I H (DB R v op ρ Q)
noncomputable def An (A B:Bk) (Q:KS):K1:=λv H=>cz v (A H Q) (B H Q)
noncomputable def kFor (B:Lc->Bk) (i:Nat) (ρ:Lc) (Q:KS):K1:=λv H=>fg B i v ρ H Q
noncomputable def Gn (ρ:Lc) (Q:KS):K1:=λv H=>Q (.ret v) ρ H
noncomputable def Gm (R:Lc->Bk) (Q:KS):KS:=λfl ρ H=>match fl with
 | .next=>R ρ H Q
 | .brk=>Q .brk ρ H
 | .ret v=>Q (.ret v) ρ H
mutual
def wpS (Γ:Sg):S->Lc->Hp->(Fl->Lc->Hp->Prop)->Prop
 | .nil,_,_,_=>False
 | .cons _ _,_,_,_=>False
 | .bad,_,_,_=>False
 | .aG e,ρ,H,Q=>bp Γ e ρ H (JU ρ Q)
 | .asg i e,ρ,H,Q=>bp Γ e ρ H (Ao i ρ Q)
 | .mB is e,ρ,H,Q=>bp Γ e ρ H (Bz is ρ Q)
 | .b9 o n e,ρ,H,Q=>bp Γ e ρ H (Bw (bp Γ o ρ) n ρ Q)
 | .eP o i e,ρ,H,Q=>bp Γ e ρ H (Bv (bp Γ o ρ) (bp Γ i ρ) ρ Q)
 | .aug i op e,ρ,H,Q=>(match getL ρ i with
  | some v=>bp Γ e ρ H (DF i op v ρ Q)
  | none=>False)
 | .j3 o n op e,ρ,H,Q=>bp Γ o ρ H (By (bp Γ e ρ) n op ρ Q)
 | .jt o i op e,ρ,H,Q=>bp Γ o ρ H (Bx (bp Γ i ρ) (bp Γ e ρ) op ρ Q)
 | .bh t a b,ρ,H,Q=>bp Γ t ρ H (An (aO Γ a ρ) (aO Γ b ρ) Q)
 | .gO t b,ρ,H,Q=>∃n,dI (bp Γ t) (aO Γ b) n ρ H Q
 | .cy i it b,ρ,H,Q=>bp Γ it ρ H (kFor (aO Γ b) i ρ Q)
 | .ret e,ρ,H,Q=>bp Γ e ρ H (Gn ρ Q)
 | .zB,ρ,H,Q=>Q (.ret .none) ρ H
 | .brk,ρ,H,Q=>Q .brk ρ H
 | .raise,_,_,_=>False
def aO (Γ:Sg):S->Lc->Hp->(Fl->Lc->Hp->Prop)->Prop
 | .nil,ρ,H,Q=>Q .next ρ H
 | .cons s r,ρ,H,Q=>wpS Γ s ρ H (Gm (aO Γ r) Q)
 | _,_,_,_=>False
end
noncomputable def iD:Fl->Option V
 | .ret v=>some v
 | .next=>some .none
 | .brk=>none
noncomputable def gh (code:Nat->Option Fn):Nat->Sg
 | 0=>λ_ _ _ _=>False
 | d+1=>λf args H Q=>match code f with
  | none=>False
  | some F=>args.length=F.np/\aO (gh code d) F.body (args.map some++List.replicate (F.names.length-F.np) none) H λfl _ H'=>
   match iD fl with
   | some v=>∃H'':Hp,H''.Sub H'/\Q v H''
   | none=>False
set_option genCtorIdx false in
inductive Gl where
 | int (i:Int)
 | tup (is:List Int)
 | fn (k:Nat)
 | cls (c:Nat)
 | bi (b:Bi)
noncomputable abbrev GT:=List (Str×Gl)
noncomputable def ec (n:Str):List Str->Option Nat
 | []=>none
 | m::r=>if m == n then some 0 else (ec n r).map (·+1)
noncomputable def de (n:Str):GT->Option Gl
 | []=>none
 | (m,g)::r=>if m == n then some g else de n r
noncomputable def kG:Operator->Option gD
 | .Add=>some .add
 | .Sub=>some .sub
 | .Mult=>some .mul
 | .FloorDiv=>some .fdiv
 | .Mod=>some .mod
 | .LShift=>some .shl
 | .RShift=>some .shr
 | .BitAnd=>some .and
 | .BitOr=>some .or
 | .BitXor=>some .xor
 | _=>none
noncomputable def AS:CmpOp->Option uT
 | .Eq=>some .eq
 | .NotEq=>some .ne
 | .Lt=>some .lt
 | .LtE=>some .le
 | .Gt=>some .gt
 | .GtE=>some .ge
 | .Is=>some .is
 | .IsNot=>some .isnot
 | .In=>some .inn
 | .NotIn=>some .notin
noncomputable def bz (x:Str) (sc:Scope):List Str:=x:: (sc.names.filterMap λ(n,k)=>if k ==.free then some n else none)
noncomputable def ob {α:Type} (o:Option α) (f:α->E):E:=match o with
 | some a=>f a
 | none=>.bad
noncomputable def gd (c:Bool) (e:E):E:=match c with
 | true=>e
 | false=>.bad
noncomputable def vD {α:Type} (o:Option α) (f:α->S):S:=match o with
 | some a=>f a
 | none=>.bad
noncomputable def Cg (c:Bool) (e:S):S:=match c with
 | true=>e
 | false=>.bad
noncomputable def Mh:Gl->E
 | .int i=>.bB i
 | .tup is=>.l7 is
 | _=>.bad
noncomputable def Mi (args:E):Gl->E
 | .fn k=>.call k args
 | .cls c=>.new c args
 | .bi b=>.bi b args
 | _=>.bad
noncomputable def tW (g:GT) (sc:Scope) (ns:List Str) (n:Str):E:=
 match ec n ns with
 | some i=>.loc i
 | none=>gd (sc.names.lookup n == some .globalImplicit) (ob (de n g) Mh)
noncomputable def pB (g:GT) (sc:Scope) (ns:List Str) (n:Str) (args:E):E:=
 match ec n ns with
 | some _=>.bad
 | none=>gd (sc.names.lookup n == some .globalImplicit) (ob (de n g) (Mi args))
noncomputable def f9 (e:Expr):Bool:=Nat.beq e.ctorIdx 23 || Nat.beq e.ctorIdx 20 || Nat.beq e.ctorIdx 21
noncomputable def isStar (e:Expr):Bool:=Nat.beq e.ctorIdx 22
noncomputable def eF:List Expr->Bool
 | []=>true
 | e::r=>!isStar e && eF r
noncomputable def tH (e:Expr):Bool:=Nat.beq e.ctorIdx 16
noncomputable def jm (sc sc':Scope) (x:Str) (it:Expr):Bool:=
 sc'.kind ==.function && tH it &&
 sc'.names.all (λy=>!(y.2 ==.local) || sc'.names.lookup y.1 == some .local) &&
 ((sc'.names.lookup x == some .local && sc'.names.all (λy=>!(y.2 ==.cell))) || (sc'.names.lookup x == some .cell && sc'.names.all (λy=>!(y.2 ==.cell) || y.1 == x))) &&
 sc'.names.all (λy=>!(y.2 ==.free) || (sc'.names.lookup y.1 == some .free && (sc.names.lookup y.1 == some .cell || sc.names.lookup y.1 == some .free))) &&
 (bz x sc').all (λn=>!(n == ("__debug__":Str)) && !(n == ("__classdict__":Str)))
noncomputable def Eh:Const->E
 | .none=>.g6
 | .bool b=>.bu b
 | .int i=>.bB i
 | _=>.bad
noncomputable def OX (e:E):UnaryOp->E
 | .USub=>.neg e
 | .Invert=>.inv e
 | .Not=>.lZ e
 | _=>.bad
noncomputable def cBool (es:E):BoolOp->E
 | .And=>.dU es
 | .Or=>.tf es
noncomputable def HN (o x:E) (m:Str):E:=
 if m == ("append":Str) then .append o x
 else if m == ("index":Str) then .index o x
 else if m == ("count":Str) then .count o x
 else .bad
noncomputable def HP (g:GT) (sc:Scope) (ns:List Str) (pos:Pos) (args:List Expr) (o as:E):Expr->E
 | .Name n _=>gd (decide (args.length<20) && eF args) (pB g sc ns n as)
 | .Attribute b m apos=>gd (f9 b && eF args && apos.endLine == pos.line) (match as with
  | .nil=>gd (m == ("pop":Str)) (.pop o)
  | .cons x .nil=>HN o x m
  | _=>.bad)
 | _=>.bad
def nX (Γ:Sg) (op:BoolOp):E->Lc->Hp->K1->Prop:=match op with
 | .And=>jz Γ
 | .Or=>mW Γ
noncomputable def JY:Expr->Bool
 | .Slice _ _ none _=>true
 | _=>false
noncomputable def O8 {α:Type}:List α->Bool
 | [_]=>true
 | _=>false
noncomputable def md:Expr->Option Str
 | .Name x _=>some x
 | _=>none
noncomputable def iS (nm:Str) (sc':Scope) (ns:List Str):List (Option Nat):=none:: (bz nm sc').tail.map λn=>ec n ns
mutual
noncomputable def cE (g:GT) (at_:List Str) (sc:Scope) (ns:List Str):Expr->E
 | .Constant c _ _=>Eh c
 | .Name n _=>tW g sc ns n
 | .BinOp l op r _=>ob (kG op) λo=>.bin o (cE g at_ sc ns l) (cE g at_ sc ns r)
 | .UnaryOp op x _=>OX (cE g at_ sc ns x) op
 | .BoolOp op vs _=>cBool (yX g at_ sc ns vs) op
 | .Compare l ops rs _=>(match ops,rs with
  | op::ops,r::rs=>gd (ops.isEmpty && rs.isEmpty && !behindInMarks op r) (ob (AS op) λo=>.cmp o (cE g at_ sc ns l) (cE g at_ sc ns r))
  | _,_=>.bad)
 | .IfExp t b o _=>.Ar (cE g at_ sc ns t) (cE g at_ sc ns b) (cE g at_ sc ns o)
 | .Call f args ks pos=>gd ks.isEmpty (HP g sc ns pos args (match f with
  | .Attribute o _ _=>cE g at_ sc ns o
  | _=>.bad) (yX g at_ sc ns args) f)
 | .Attribute o a _=>gd (f9 o) (ob (ec a at_) λn=>.attr (cE g at_ sc ns o) n)
 | .Subscript v s _=>(match JY s with
  | true=>.slice (cE g at_ sc ns v) (match s with
   | .Slice lo _ _ _=>cO g at_ sc ns lo
   | _=>.bad) (match s with
   | .Slice _ hi _ _=>cO g at_ sc ns hi
   | _=>.bad)
  | false=>.sub (cE g at_ sc ns v) (cE g at_ sc ns s))
 | .Tuple es _ _=>gd (eF es) (.tup (yX g at_ sc ns es))
 | .List es _=>gd (eF es) (.lst (yX g at_ sc ns es))
 | .ListComp elt gens sc' _=>(match gens with
  | ⟨t,it,ifs,as⟩::gs=>ob (md t) λx=>gd (gs.isEmpty && as == 0 && jm sc sc' x it && decide (ifs.length<=1)) (.comp (iS x sc' ns) (cE g at_ sc ns it) (match ifs with
   | c::_=>cE g at_ sc' (bz x sc') c
   | []=>.bu true) (cE g at_ sc' (bz x sc') elt))
  | []=>.bad)
 | _=>.bad
noncomputable def yX (g:GT) (at_:List Str) (sc:Scope) (ns:List Str):List Expr->E
 | []=>.nil
 | e::r=>.cons (cE g at_ sc ns e) (yX g at_ sc ns r)
noncomputable def cO (g:GT) (at_:List Str) (sc:Scope) (ns:List Str):Option Expr->E
 | none=>.g6
 | some e=>cE g at_ sc ns e
end
noncomputable def nR (ns:List Str):List Expr->Option (List Nat)
 | []=>some []
 | e::r=>(md e).bind λn=>(ec n ns).bind λi=>(nR ns r).map (i::·)
noncomputable def DH (e:Expr):Bool:=Nat.beq e.ctorIdx 25
noncomputable def g9 (e:Expr):Bool:=Nat.beq e.ctorIdx 26
noncomputable def Lu (g:GT) (at_:List Str) (sc:Scope) (ns:List Str) (e:Expr):Expr->S
 | .Name n _=>vD (ec n ns) λi=>.asg i (cE g at_ sc ns e)
 | .Tuple ts _ _=>Cg (!DH e) (vD (nR ns ts) λis=>.mB is (cE g at_ sc ns e))
 | .Attribute o a _=>vD (ec a at_) λn=>.b9 (cE g at_ sc ns o) n (cE g at_ sc ns e)
 | .Subscript o i _=>.eP (cE g at_ sc ns o) (cE g at_ sc ns i) (cE g at_ sc ns e)
 | _=>.bad
noncomputable def Lr (g:GT) (at_:List Str) (sc:Scope) (ns:List Str) (op:Operator) (e:Expr):Expr->S
 | .Name n _=>vD (ec n ns) λi=>vD (kG op) λo=>.aug i o (cE g at_ sc ns e)
 | .Attribute o a _=>vD (ec a at_) λn=>vD (kG op) λp=>.j3 (cE g at_ sc ns o) n p (cE g at_ sc ns e)
 | .Subscript o i _=>Cg (!g9 i) (vD (kG op) λp=>.jt (cE g at_ sc ns o) (cE g at_ sc ns i) p (cE g at_ sc ns e))
 | _=>.bad
noncomputable def Lq (g:GT) (at_:List Str) (sc:Scope) (ns:List Str):Option Expr->S
 | some e=>.ret (cE g at_ sc ns e)
 | none=>.zB
mutual
noncomputable def cS (g:GT) (at_:List Str) (sc:Scope) (ns:List Str):Stmt->S
 | .Expr e _=>Cg (tH e) (.aG (cE g at_ sc ns e))
 | .Assign ts e _=>(match ts with
  | t::r=>Cg r.isEmpty (Lu g at_ sc ns e t)
  | []=>.bad)
 | .AugAssign t op e _=>Lr g at_ sc ns op e t
 | .If t a b _=>.bh (cE g at_ sc ns t) (cB g at_ sc ns a) (cB g at_ sc ns b)
 | .While t b o _=>Cg o.isEmpty (.gO (cE g at_ sc ns t) (cB g at_ sc ns b))
 | .For t it b o _=>Cg o.isEmpty (vD (md t) λn=>vD (ec n ns) λi=>.cy i (cE g at_ sc ns it) (cB g at_ sc ns b))
 | .Return e _=>Lq g at_ sc ns e
 | .Break _=>.brk
 | .Raise _ _ _=>.raise
 | _=>.bad
noncomputable def cB (g:GT) (at_:List Str) (sc:Scope) (ns:List Str):List Stmt->S
 | []=>.nil
 | s::r=>.cons (cS g at_ sc ns s) (cB g at_ sc ns r)
end
section
variable {Γ:Sg} {ρ:Lc} {H:Hp} {Q:V->Hp->Prop} {K:KS} {α:Type}
theorem nZ {o:Option α} {f:α->E} (h:bp Γ (ob o f) ρ H Q):∃a,o=some a/\bp Γ (f a) ρ H Q:=by
 cases o with
 | none=>exact h.elim
 | some a=>exact ⟨a,rfl,h⟩
theorem gn {c:Bool} {e:E} (h:bp Γ (gd c e) ρ H Q):c=true/\bp Γ e ρ H Q:=by
 cases c with
 | false=>exact h.elim
 | true=>exact ⟨rfl,h⟩
theorem iZ {o:Option α} {f:α->S} (h:wpS Γ (vD o f) ρ H K):∃a,o=some a/\wpS Γ (f a) ρ H K:=by
 cases o with
 | none=>exact h.elim
 | some a=>exact ⟨a,rfl,h⟩
theorem vf {c:Bool} {e:S} (h:wpS Γ (Cg c e) ρ H K):c=true/\wpS Γ e ρ H K:=by
 cases c with
 | false=>exact h.elim
 | true=>exact ⟨rfl,h⟩
theorem E7 {i:Nat} (h:bp Γ (.loc i) ρ H Q):∃v,getL ρ i=some v/\Q v H:=by
 revert h;show (match getL ρ i with | some v=>Q v H | none=>False)->_
 cases getL ρ i with
 | none=>exact False.elim
 | some v=>exact λh=>⟨v,rfl,h⟩
theorem B2 {g:GT} {sc:Scope} {ns:List Str} {n:Str} {P:Prop} (h:bp Γ (tW g sc ns n) ρ H Q) (h1:∀i,ec n ns=some i->bp Γ (.loc i) ρ H Q->P)
 (h2:(sc.names.lookup n == some .globalImplicit)=true->∀x,de n g=some x->bp Γ (Mh x) ρ H Q->P):P:=by
 delta tW at h;generalize hi:ec n ns=o at h
 cases o with
 | some i=>exact h1 i hi h
 | none=>
  refine aD (gn h) λa h=>?_;refine aq (nZ h) λx b h=>?_;exact h2 a x b h
theorem vg {g:GT} {sc:Scope} {ns:List Str} {n:Str} {as:E} (h:bp Γ (pB g sc ns n as) ρ H Q):(sc.names.lookup n == some .globalImplicit)=true/\∃x,de n g=some x/\bp Γ (Mi as x) ρ H Q:=by
 delta pB at h;generalize ec n ns=o at h
 cases o with
 | some i=>exact h.elim
 | none=>exact ⟨(gn h).1,nZ (gn h).2⟩
theorem Ax (e:Expr):match md e with | some n=>∃p,e=.Name n p | none=>True:=by
 cases e with
 | Name m p=>exact ⟨p,rfl⟩
 | _=>exact True.intro
theorem qq {e:Expr} {n:Str} (h:md e=some n):∃p,e=.Name n p:=by have:=Ax e;rw [h] at this;exact this
end
section
open E S gD uT Bi
noncomputable def attrs:List Str:=["pieces","ep","rights","side","files","ranks","size","full","has_double","has_castling","file_masks","rank_masks","rays","king","knight","pawn","castles","rights_lost","geo","zob","board","kinds","sides","half","key","history"]
noncomputable abbrev bg (s:String) (g:Gl):Str×Gl:=(Str.ofString s,g)
noncomputable def gt:GT:=[bg "WHITE" (.int 0),bg "BLACK" (.int 1),bg "NO_KIND" (.int 0),bg "PAWN" (.int 1),bg "KNIGHT" (.int 2),bg "BISHOP" (.int 3),bg "ROOK" (.int 4),bg "QUEEN" (.int 5),bg "KING" (.int 6),bg "EMPTY" (.int 0),bg "NORMAL" (.int 0),bg "PROMOTION" (.int 1),bg "EN_PASSANT" (.int 2),bg "CASTLING" (.int 3),bg "STEP_FILES" (.tup [0,1,0,-1,1,1,-1,-1]),bg "STEP_RANKS" (.tup [1,0,-1,0,1,-1,-1,1]),bg "MAY" (.int 0),bg "NO_WING" (.int 1),bg "RIGHT_LOST" (.int 2),bg "NOT_FREE" (.int 3),bg "IN_CHECK" (.int 4),bg "PASSES_ATTACK" (.int 5),bg "GOAL_ATTACKED" (.int 6),bg "CAPTURES" (.int 0),bg "QUIETS" (.int 1),bg "NON_EVASIONS" (.int 2),bg "EVASIONS" (.int 3),bg "make_piece" (.fn 0),bg "side_of" (.fn 1),bg "kind_of" (.fn 2),bg "pack_move" (.fn 3),bg "move_from" (.fn 4),bg "move_to" (.fn 5),bg "move_special" (.fn 6),bg "move_promo" (.fn 7),bg "state_key" (.fn 8),bg "full_key" (.fn 9),bg "pawn_key" (.fn 10),bg "non_pawn_key" (.fn 11),bg "material_key" (.fn 12),bg "is_growing" (.fn 13),bg "add_masks" (.fn 14),bg "inner_squares" (.fn 15),bg "add_rays" (.fn 16),bg "add_pawns" (.fn 17),bg "add_knights" (.fn 18),bg "add_castles" (.fn 19),bg "make_geometry" (.fn 20),bg "more_than_one" (.fn 21),bg "highest" (.fn 22),bg "lowest" (.fn 23),bg "squares_of" (.fn 24),bg "put_piece" (.fn 25),bg "take_piece" (.fn 26),bg "shift_piece" (.fn 27),bg "occupied" (.fn 28),bg "pieces" (.fn 29),bg "king_square" (.fn 30),bg "settle_key" (.fn 31),bg "moved_piece" (.fn 32),bg "taken_square_makemove" (.fn 33),bg "rook_step" (.fn 34),bg "passed_square" (.fn 35),bg "kept_rights" (.fn 36),bg "clear_ep_key" (.fn 37),bg "set_ep_key" (.fn 38),bg "set_rights_key" (.fn 39),bg "do_move" (.fn 40),bg "undo_move" (.fn 41),bg "key_after" (.fn 42),bg "direction" (.fn 43),bg "between" (.fn 44),bg "line" (.fn 45),bg "aligned" (.fn 46),bg "ray_attacks" (.fn 47),bg "rook_attacks" (.fn 48),bg "bishop_attacks" (.fn 49),bg "queen_attacks" (.fn 50),bg "slider_attacks" (.fn 51),bg "piece_attacks" (.fn 52),bg "straight_sliders" (.fn 53),bg "slanting_sliders" (.fn 54),bg "pawn_attackers" (.fn 55),bg "step_attackers" (.fn 56),bg "line_attackers" (.fn 57),bg "attackers_to" (.fn 58),bg "is_attacked" (.fn 59),bg "checkers_of" (.fn 60),bg "checkers" (.fn 61),bg "in_check_of" (.fn 62),bg "in_check" (.fn 63),bg "snipers_of" (.fn 64),bg "blockers" (.fn 65),bg "pinned_pieces" (.fn 66),bg "squares_within" (.fn 67),bg "castle_refusal" (.fn 68),bg "add_castling" (.fn 69),bg "add_goals" (.fn 70),bg "add_piece_moves" (.fn 71),bg "stage_target" (.fn 72),bg "push_step" (.fn 73),bg "start_mask" (.fn 74),bg "last_mask" (.fn 75),bg "shift_push" (.fn 76),bg "shift_capture" (.fn 77),bg "push_targets" (.fn 78),bg "add_promotions" (.fn 79),bg "add_plain_pushes" (.fn 80),bg "add_push_promotions" (.fn 81),bg "add_pawn_captures" (.fn 82),bg "add_pawn_moves" (.fn 83),bg "add_en_passant" (.fn 84),bg "evasion_targets" (.fn 85),bg "passed_pawn_square" (.fn 86),bg "may_answer_en_passant" (.fn 87),bg "add_evasions" (.fn 88),bg "taken_square_legality" (.fn 89),bg "is_safe_en_passant" (.fn 90),bg "is_legal" (.fn 91),bg "generate" (.fn 92),bg "pseudo_moves" (.fn 93),bg "keep_legal" (.fn 94),bg "legal_moves" (.fn 95),bg "_law_shapes" (.fn 96),bg "_law_at" (.fn 97),bg "_law_hits" (.fn 98),bg "_law_beside" (.fn 99),bg "_law_passed" (.fn 100),bg "_law_kings" (.fn 101),bg "_law_draw" (.fn 102),bg "_law_play" (.fn 103),bg "_law_sum" (.fn 104),bg "_law_agrees" (.fn 105),bg "_law_position" (.fn 106),bg "law" (.fn 107),bg "Zobrist" (.cls 0),bg "Geometry" (.cls 1),bg "Position" (.cls 2),bg "len" (.bi .len),bg "abs" (.bi .abs),bg "range" (.bi .range),bg "max" (.bi .max),bg "sorted" (.bi .sorted),bg "sum" (.bi .sum),bg "list" (.bi .list)]
noncomputable abbrev ah:=E.loc 0
noncomputable abbrev aA:=E.loc 1
noncomputable abbrev aT:=E.loc 2
noncomputable abbrev bH:=E.loc 3
noncomputable abbrev bX:=E.loc 4
noncomputable abbrev cY:=E.loc 5
noncomputable abbrev cQ:=E.loc 6
noncomputable abbrev dP:=E.loc 7
noncomputable abbrev fc:=E.loc 8
noncomputable abbrev lp:=E.loc 9
noncomputable abbrev gp:=E.loc 10
noncomputable abbrev dh:=E.loc 11
noncomputable abbrev vh:=E.loc 12
noncomputable abbrev mL:=E.loc 13
noncomputable abbrev qS:=E.loc 14
noncomputable abbrev Jc:=E.loc 15
noncomputable abbrev a0:=E.bB 0
noncomputable abbrev aH:=E.bB 1
noncomputable abbrev dE:=E.bB 2
noncomputable abbrev iL:=E.bB 3
noncomputable abbrev jh:=E.bB 4
noncomputable abbrev qM:=E.bB 5
noncomputable abbrev ur:=E.bB 6
noncomputable abbrev EU:=E.bB 7
noncomputable abbrev kW:=E.bB 8
noncomputable abbrev uv:=E.bB 14
noncomputable abbrev qm:=E.bB 15
noncomputable abbrev aV:=E.bin .add
noncomputable abbrev aB:=E.bin .and
noncomputable abbrev bJ:=E.bin .fdiv
noncomputable abbrev bW:=E.bin .mod
noncomputable abbrev aY:=E.bin .mul
noncomputable abbrev dT:=E.bin .or
noncomputable abbrev a9:=E.bin .shl
noncomputable abbrev cF:=E.bin .shr
noncomputable abbrev aF:=E.bin .sub
noncomputable abbrev fL:=E.bin .xor
noncomputable abbrev aL:=E.cmp .eq
noncomputable abbrev pj:=E.cmp .ge
noncomputable abbrev jq:=E.cmp .gt
noncomputable abbrev jY:=E.cmp .lt
noncomputable abbrev dA:=E.cmp .ne
noncomputable abbrev bA (a:E):E:=.cons a .nil
noncomputable abbrev bS (a b:E):E:=.cons a (.cons b .nil)
noncomputable abbrev dK (a b c:E):E:=.cons a (.cons b (.cons c .nil))
noncomputable abbrev fV (a b c d:E):E:=.cons a (.cons b (.cons c (.cons d .nil)))
noncomputable abbrev II (a b c d e:E):E:=.cons a (.cons b (.cons c (.cons d (.cons e .nil))))
noncomputable abbrev O6 (a b c d e f:E):E:=.cons a (.cons b (.cons c (.cons d (.cons e (.cons f .nil)))))
noncomputable abbrev aX (a:S):S:=.cons a .nil
noncomputable abbrev Bz2 (a b:S):S:=.cons a (.cons b .nil)
noncomputable abbrev pI (a b c:S):S:=.cons a (.cons b (.cons c .nil))
noncomputable abbrev qK (a b c d:S):S:=.cons a (.cons b (.cons c (.cons d .nil)))
noncomputable abbrev yP (a b c d e:S):S:=.cons a (.cons b (.cons c (.cons d (.cons e .nil))))
noncomputable abbrev yO (a b c d e f:S):S:=.cons a (.cons b (.cons c (.cons d (.cons e (.cons f .nil)))))
noncomputable abbrev BX (a b c d e f g:S):S:=.cons a (.cons b (.cons c (.cons d (.cons e (.cons f (.cons g .nil))))))
noncomputable abbrev LR (a b c d e f g h:S):S:=.cons a (.cons b (.cons c (.cons d (.cons e (.cons f (.cons g (.cons h .nil)))))))
noncomputable abbrev IH (a b c d e f g h i:S):S:=.cons a (.cons b (.cons c (.cons d (.cons e (.cons f (.cons g (.cons h (.cons i .nil))))))))
noncomputable abbrev va (a b c d e f g h r:S):S:=.cons a (.cons b (.cons c (.cons d (.cons e (.cons f (.cons g (.cons h r)))))))
noncomputable def F0:Fn:=⟨"make_piece",["side","kind"],2,aX (.ret (aV (aY ah kW) aA))⟩
noncomputable def F1:Fn:=⟨"side_of",["piece"],1,aX (.ret (cF ah iL))⟩
noncomputable def F2:Fn:=⟨"kind_of",["piece"],1,aX (.ret (aB ah EU))⟩
noncomputable def F3:Fn:=⟨"pack_move",["origin","to","special","promo","field"],4,pI (.asg 4 a0) (.bh (aL aT aH) (aX (.asg 4 (aF bH dE))) .nil) (.ret (dT (dT (dT aA (a9 ah ur)) (a9 bX (.bB 12))) (a9 aT uv)))⟩
noncomputable def F4:Fn:=⟨"move_from",["move"],1,aX (.ret (aB (cF ah ur) (.bB 63)))⟩
noncomputable def F5:Fn:=⟨"move_to",["move"],1,aX (.ret (aB ah (.bB 63)))⟩
noncomputable def F6:Fn:=⟨"move_special",["move"],1,aX (.ret (aB (cF ah uv) iL))⟩
noncomputable def F7:Fn:=⟨"move_promo",["move"],1,Bz2 (.bh (dA (aB (cF ah uv) iL) aH) (aX (.ret a0)) .nil) (.ret (aV (aB (cF ah (.bB 12)) iL) dE))⟩
noncomputable def F8:Fn:=⟨"state_key",["pos","zob","key"],1,yP (.asg 1 (.attr ah 19)) (.asg 2 (.sub (.attr aA 2) (.attr ah 2))) (.bh (pj (.attr ah 1) a0) (aX (.aug 2 .xor (.sub (.attr aA 1) (bW (.attr ah 1) (.attr (.attr ah 18) 4))))) .nil) (.bh (aL (.attr ah 3) aH) (aX (.aug 2 .xor (.attr aA 3))) .nil) (.ret aT)⟩
noncomputable def F9:Fn:=⟨"full_key",["pos","numbers","key","square","piece"],1,yP (.asg 1 (.attr (.attr ah 19) 0)) (.asg 2 (.call 8 (bA ah))) (.asg 3 a0) (.cy 4 (.attr ah 20) (Bz2 (.bh (dA bX a0) (aX (.aug 2 .xor (.sub (.sub aA bX) bH))) .nil) (.aug 3 .add aH))) (.ret aT)⟩
noncomputable def NZ:Fn:=⟨"pawn_key",["pos","numbers","key","square","piece"],1,yP (.asg 1 (.attr (.attr ah 19) 0)) (.asg 2 a0) (.asg 3 a0) (.cy 4 (.attr ah 20) (Bz2 (.bh (aL (.call 2 (bA bX)) aH) (aX (.aug 2 .xor (.sub (.sub aA bX) bH))) .nil) (.aug 3 .add aH))) (.ret aT)⟩
noncomputable def NY:Fn:=⟨"non_pawn_key",["pos","side","numbers","key","square","piece"],2,yP (.asg 2 (.attr (.attr ah 19) 0)) (.asg 3 a0) (.asg 4 a0) (.cy 5 (.attr ah 20) (Bz2 (.bh (.dU (bS (jq (.call 2 (bA cY)) aH) (aL (.call 1 (bA cY)) aA))) (aX (.aug 3 .xor (.sub (.sub aT cY) bX))) .nil) (.aug 4 .add aH))) (.ret bH)⟩
noncomputable def NX:Fn:=⟨"material_key",["pos","numbers","counts","key","piece"],1,yP (.asg 1 (.attr (.attr ah 19) 0)) (.asg 2 (aY (.lst (bA a0)) qm)) (.asg 3 a0) (.cy 4 (.attr ah 20) (aX (.bh (dA bX a0) (Bz2 (.aug 3 .xor (.sub (.sub aA bX) (.sub aT bX))) (.jt aT bX .add aH)) .nil))) (.ret bH)⟩
noncomputable def NW:Fn:=⟨"is_growing",["d"],1,aX (.ret (.tf (bS (jq (.sub (.l7 [1,0,-1,0,1,-1,-1,1]) ah) a0) (aL ah aH))))⟩
noncomputable def NV:Fn:=⟨"add_masks",["geo","row","column","r","f"],1,qK (.asg 1 (aF (a9 aH (.attr ah 4)) aH)) (.asg 2 a0) (.cy 3 (.bi .range (bA (.attr ah 5))) (Bz2 (.aG (.append (.attr ah 11) (a9 aA (aY bH (.attr ah 4))))) (.aug 2 .or (a9 aH (aY bH (.attr ah 4)))))) (.cy 4 (.bi .range (bA (.attr ah 4))) (aX (.aG (.append (.attr ah 10) (a9 aT bX)))))⟩
noncomputable def NU:Fn:=⟨"inner_squares",["geo","d","edge"],2,yO (.asg 2 a0) (.bh (jq (.sub (.l7 [0,1,0,-1,1,1,-1,-1]) aA) a0) (aX (.aug 2 .or (.sub (.attr ah 10) (aF (.attr ah 4) aH)))) .nil) (.bh (jY (.sub (.l7 [0,1,0,-1,1,1,-1,-1]) aA) a0) (aX (.aug 2 .or (.sub (.attr ah 10) a0))) .nil) (.bh (jq (.sub (.l7 [1,0,-1,0,1,-1,-1,1]) aA) a0) (aX (.aug 2 .or (.sub (.attr ah 11) (aF (.attr ah 5) aH)))) .nil) (.bh (jY (.sub (.l7 [1,0,-1,0,1,-1,-1,1]) aA) a0) (aX (.aug 2 .or (.sub (.attr ah 11) a0))) .nil) (.ret (aB (.attr ah 7) (.inv aT)))⟩
noncomputable def NT:Fn:=⟨"add_rays",["geo","d","inner","delta","ray","order","square","goal"],1,Bz2 (.b9 ah 13 (aY (.lst (bA a0)) (.attr ah 6))) (.cy 1 (.bi .range (bA kW)) (BX (.asg 2 (.call 15 (bS ah aA))) (.asg 3 (aV (aY (.sub (.l7 [1,0,-1,0,1,-1,-1,1]) aA) (.attr ah 4)) (.sub (.l7 [0,1,0,-1,1,1,-1,-1]) aA))) (.asg 4 (aY (.lst (bA a0)) (.attr ah 6))) (.asg 5 (.bi .range (bA (.attr ah 6)))) (.bh (.call 13 (bA aA)) (aX (.asg 5 (.bi .range (dK (aF (.attr ah 6) aH) (.neg aH) (.neg aH))))) .nil) (.cy 6 cY (aX (.bh (aB (cF aT cQ) aH) (pI (.asg 7 (aV cQ bH)) (.eP bX cQ (dT (.sub bX dP) (a9 aH dP))) (.jt (.attr ah 13) cQ .or (a9 aH dP))) .nil))) (.aG (.append (.attr ah 12) bX))))⟩
noncomputable def NS:Fn:=⟨"add_pawns",["geo","square"],1,aX (.cy 1 (.bi .range (bA (.attr ah 6))) (Bz2 (.aG (.append (.sub (.attr ah 15) a0) (aB (.sub (.attr ah 13) aA) (dT (.sub (.sub (.attr ah 12) jh) aA) (.sub (.sub (.attr ah 12) EU) aA))))) (.aG (.append (.sub (.attr ah 15) aH) (aB (.sub (.attr ah 13) aA) (dT (.sub (.sub (.attr ah 12) qM) aA) (.sub (.sub (.attr ah 12) ur) aA)))))))⟩
noncomputable def NR:Fn:=⟨"add_knights",["geo","files","not_first","not_last","not_first_two","not_last_two","square","b","near","far","found"],1,yO (.asg 1 (.attr ah 4)) (.asg 2 (aB (.attr ah 7) (.inv (.sub (.attr ah 10) a0)))) (.asg 3 (aB (.attr ah 7) (.inv (.sub (.attr ah 10) (aF aA aH))))) (.asg 4 (aB aT (.inv (.sub (.attr ah 10) aH)))) (.asg 5 (aB bH (.inv (.sub (.attr ah 10) (aF aA dE))))) (.cy 6 (.bi .range (bA (.attr ah 6))) (yP (.asg 7 (a9 aH cQ)) (.asg 8 (dT (aB (a9 dP aH) aT) (aB (cF dP aH) bH))) (.asg 9 (dT (aB (a9 dP dE) bX) (aB (cF dP dE) cY))) (.asg 10 (dT (dT (dT (a9 fc (aY dE aA)) (cF fc (aY dE aA))) (a9 lp aA)) (cF lp aA))) (.aG (.append (.attr ah 14) (aB gp (.attr ah 7))))))⟩
noncomputable def NQ:Fn:=⟨"add_castles",["geo","start","index","base","corner","way","goal"],1,pI (.b9 ah 17 (aY (.lst (bA a0)) (.attr ah 6))) (.asg 1 (bJ (.attr ah 4) dE)) (.cy 2 (.bi .range (bA jh)) (yO (.asg 3 (aY (aY (cF aT aH) (aF (.attr ah 5) aH)) (.attr ah 4))) (.asg 4 (aF (.attr ah 4) aH)) (.asg 5 aH) (.bh (aB aT aH) (Bz2 (.asg 4 a0) (.asg 5 (.neg aH))) .nil) (.asg 6 (aV aA (aY dE cY))) (.bh (.dU (bS (.attr ah 9) (jq (aY (aF bX cQ) cY) a0))) (pI (.aG (.append (.attr ah 16) (.tup (fV (aV bH aA) (aV bH cQ) (aV bH bX) (aF (aV bH cQ) cY))))) (.jt (.attr ah 17) (aV bH aA) .or (a9 aH aT)) (.jt (.attr ah 17) (aV bH bX) .or (a9 aH aT))) (aX (.aG (.append (.attr ah 16) .g6))))))⟩
noncomputable def NP:Fn:=⟨"make_geometry",["files","ranks","has_double","has_castling","geo"],4,LR (.bh (.tf (fV (jY ah dE) (jq ah kW) (jY aA iL) (jq aA kW))) (aX .raise) .nil) (.asg 4 (.new 1 (fV ah aA aT bH))) (.aG (.call 14 (bA bX))) (.aG (.call 16 (bA bX))) (.aG (.call 17 (bA bX))) (.aG (.call 18 (bA bX))) (.aG (.call 19 (bA bX))) (.ret bX)⟩
noncomputable def NO:Fn:=⟨"more_than_one",["b"],1,aX (.ret (dA (aB ah (aF ah aH)) a0))⟩
noncomputable def NN:Fn:=⟨"highest",["b","width","square"],1,yO (.bh (aL ah a0) (aX (.ret (.neg aH))) .nil) (.asg 1 aH) (.gO (cF ah aA) (aX (.aug 1 .mul dE))) (.asg 2 a0) (.gO (jq aA aH) (Bz2 (.aug 1 .fdiv dE) (.bh (cF ah aA) (Bz2 (.aug 0 .shr aA) (.aug 2 .add aA)) .nil))) (.ret aT)⟩
noncomputable def NM:Fn:=⟨"lowest",["b"],1,aX (.ret (.call 22 (bA (aB ah (.neg ah)))))⟩
noncomputable def NL:Fn:=⟨"squares_of",["b","out","square"],1,qK (.asg 1 (.lst .nil)) (.asg 2 a0) (.gO ah (qK (.gO (.lZ (aB ah qm)) (Bz2 (.aug 0 .shr jh) (.aug 2 .add jh))) (.bh (aB ah aH) (aX (.aG (.append aA aT))) .nil) (.aug 0 .shr aH) (.aug 2 .add aH))) (.ret aA)⟩
noncomputable def NK:Fn:=⟨"put_piece",["pos","piece","s","bit"],3,yP (.asg 3 (a9 aH aT)) (.eP (.attr ah 20) aT aA) (.jt (.attr ah 21) (.call 2 (bA aA)) .or bH) (.jt (.attr ah 22) (.call 1 (bA aA)) .or bH) (.j3 ah 24 .xor (.sub (.sub (.attr (.attr ah 19) 0) aA) aT))⟩
noncomputable def NJ:Fn:=⟨"take_piece",["pos","s","piece","bit"],2,BX (.asg 2 (.sub (.attr ah 20) aA)) (.asg 3 (a9 aH aA)) (.eP (.attr ah 20) aA a0) (.jt (.attr ah 21) (.call 2 (bA aT)) .xor bH) (.jt (.attr ah 22) (.call 1 (bA aT)) .xor bH) (.j3 ah 24 .xor (.sub (.sub (.attr (.attr ah 19) 0) aT) aA)) (.ret aT)⟩
noncomputable def NI:Fn:=⟨"shift_piece",["pos","a","b","piece","bits","numbers"],3,LR (.asg 3 (.sub (.attr ah 20) aA)) (.asg 4 (dT (a9 aH aA) (a9 aH aT))) (.eP (.attr ah 20) aA a0) (.eP (.attr ah 20) aT bH) (.jt (.attr ah 21) (.call 2 (bA bH)) .xor bX) (.jt (.attr ah 22) (.call 1 (bA bH)) .xor bX) (.asg 5 (.sub (.attr (.attr ah 19) 0) bH)) (.j3 ah 24 .xor (fL (.sub cY aA) (.sub cY aT)))⟩
noncomputable def NH:Fn:=⟨"occupied",["pos"],1,aX (.ret (dT (.sub (.attr ah 22) a0) (.sub (.attr ah 22) aH)))⟩
noncomputable def NG:Fn:=⟨"pieces",["pos","side","kind"],3,aX (.ret (aB (.sub (.attr ah 22) aA) (.sub (.attr ah 21) aT)))⟩
noncomputable def NF:Fn:=⟨"king_square",["pos","side"],2,aX (.ret (.call 23 (bA (aB (.sub (.attr ah 22) aA) (.sub (.attr ah 21) ur)))))⟩
noncomputable def ND:Fn:=⟨"settle_key",["pos"],1,aX (.b9 ah 24 (.call 9 (bA ah)))⟩
noncomputable def NC:Fn:=⟨"moved_piece",["pos","move","origin","piece"],2,yP (.asg 2 (.call 4 (bA aA))) (.bh (.tf (bS (pj aT (.attr (.attr ah 18) 6)) (pj (.call 5 (bA aA)) (.attr (.attr ah 18) 6)))) (aX .raise) .nil) (.asg 3 (.sub (.attr ah 20) aT)) (.bh (.tf (bS (aL bH a0) (dA (.call 1 (bA bH)) (.attr ah 3)))) (aX .raise) .nil) (.ret bH)⟩
noncomputable def O5:Fn:=⟨"taken_square_makemove",["pos","move","goal"],2,qK (.asg 2 (.call 5 (bA aA))) (.bh (dA (.call 6 (bA aA)) dE) (aX (.ret aT)) .nil) (.bh (aL (.attr ah 3) a0) (aX (.ret (aF aT (.attr (.attr ah 18) 4)))) .nil) (.ret (aV aT (.attr (.attr ah 18) 4)))⟩
noncomputable def NB:Fn:=⟨"rook_step",["geo","side","goal","index","wing"],3,Bz2 (.cy 3 (.tup (bS (aY dE aA) (aV (aY dE aA) aH))) (Bz2 (.asg 4 (.sub (.attr ah 16) bH)) (.bh (.dU (bS (.cmp .isnot bX .g6) (aL (.sub bX aH) aT))) (aX (.ret (.tup (bS (.sub bX dE) (.sub bX iL))))) .nil))) .raise⟩
noncomputable def NA:Fn:=⟨"passed_square",["pos","side","origin","goal","files","passed","enemies"],4,yO (.asg 4 (.attr (.attr ah 18) 4)) (.bh (.dU (bS (dA (aF bH aT) (aY dE bX)) (dA (aF aT bH) (aY dE bX)))) (aX (.ret (.neg aH))) .nil) (.asg 5 (bJ (aV aT bH) dE)) (.asg 6 (aB (.sub (.attr ah 21) aH) (.sub (.attr ah 22) (aF aH aA)))) (.bh (aL (aB (.sub (.sub (.attr (.attr ah 18) 15) aA) cY) cQ) a0) (aX (.ret (.neg aH))) .nil) (.ret cY)⟩
noncomputable def Nz:Fn:=⟨"kept_rights",["pos","origin","goal","lost"],3,Bz2 (.asg 3 (dT (.sub (.attr (.attr ah 18) 17) aA) (.sub (.attr (.attr ah 18) 17) aT))) (.ret (aF (.attr ah 2) (aB (.attr ah 2) bH)))⟩
noncomputable def Ny:Fn:=⟨"clear_ep_key",["pos"],1,aX (.bh (pj (.attr ah 1) a0) (Bz2 (.j3 ah 24 .xor (.sub (.attr (.attr ah 19) 1) (bW (.attr ah 1) (.attr (.attr ah 18) 4)))) (.b9 ah 1 (.neg aH))) .nil)⟩
noncomputable def Nx:Fn:=⟨"set_ep_key",["pos","square"],2,Bz2 (.bh (pj aA a0) (aX (.j3 ah 24 .xor (.sub (.attr (.attr ah 19) 1) (bW aA (.attr (.attr ah 18) 4))))) .nil) (.b9 ah 1 aA)⟩
noncomputable def Nw:Fn:=⟨"set_rights_key",["pos","rights"],2,aX (.bh (dA aA (.attr ah 2)) (Bz2 (.j3 ah 24 .xor (fL (.sub (.attr (.attr ah 19) 2) (.attr ah 2)) (.sub (.attr (.attr ah 19) 2) aA))) (.b9 ah 2 aA)) .nil)⟩
noncomputable def I3:Fn:=⟨"do_move",["pos","move","piece","side","origin","goal","special","rook","where","taken"],2,va (.asg 2 (.call 32 (bS ah aA))) (.asg 3 (.attr ah 3)) (.asg 4 (.call 4 (bA aA))) (.asg 5 (.call 5 (bA aA))) (.asg 6 (.call 6 (bA aA))) (.asg 7 (.tup (bS (.neg aH) (.neg aH)))) (.bh (aL cQ iL) (aX (.asg 7 (.call 34 (dK (.attr ah 18) bH cY)))) .nil) (.asg 8 (.call 33 (bS ah aA))) (va (.asg 9 (.sub (.attr ah 20) fc)) (.aG (.append (.attr ah 25) (.tup (O6 aA lp (.attr ah 2) (.attr ah 1) (.attr ah 23) (.attr ah 24))))) (.aG (.call 37 (bA ah))) (.j3 ah 23 .add aH) (.bh (dA lp a0) (Bz2 (.aG (.call 26 (bS ah fc))) (.b9 ah 23 a0)) .nil) (.bh (aL cQ aH) (Bz2 (.aG (.call 26 (bS ah bX))) (.aG (.call 25 (dK ah (.call 0 (bS bH (.call 7 (bA aA)))) cY)))) (aX (.aG (.call 27 (dK ah bX cY))))) (.bh (aL cQ iL) (aX (.aG (.call 27 (dK ah (.sub dP a0) (.sub dP aH))))) .nil) (.bh (aL (.call 2 (bA aT)) aH) (Bz2 (.b9 ah 23 a0) (.aG (.call 38 (bS ah (.call 35 (fV ah bH bX cY)))))) .nil) (qK (.aG (.call 39 (bS ah (.call 36 (dK ah bX cY))))) (.bh (aL bH aH) (aX (.j3 ah 7 .add aH)) .nil) (.b9 ah 3 (aF aH bH)) (.j3 ah 24 .xor (.attr (.attr ah 19) 3))))⟩
noncomputable def LK:Fn:=⟨"undo_move",["pos","move","taken","rights","ep","half","key","side","origin","goal","special","rook"],1,va (.bh (aL (.bi .len (bA (.attr ah 25))) a0) (aX .raise) .nil) (.mB [1,2,3,4,5,6] (.pop (.attr ah 25))) (.asg 7 (aF aH (.attr ah 3))) (.b9 ah 3 dP) (.asg 8 (.call 4 (bA aA))) (.asg 9 (.call 5 (bA aA))) (.asg 10 (.call 6 (bA aA))) (.bh (aL gp aH) (Bz2 (.aG (.call 26 (bS ah lp))) (.aG (.call 25 (dK ah (.call 0 (bS dP aH)) fc)))) (aX (.aG (.call 27 (dK ah lp fc))))) (BX (.bh (aL gp iL) (Bz2 (.asg 11 (.call 34 (dK (.attr ah 18) dP lp))) (.aG (.call 27 (dK ah (.sub dh aH) (.sub dh a0))))) .nil) (.bh (dA aT a0) (aX (.aG (.call 25 (dK ah aT (.call 33 (bS ah aA)))))) .nil) (.bh (aL dP aH) (aX (.j3 ah 7 .sub aH)) .nil) (.b9 ah 2 bH) (.b9 ah 1 bX) (.b9 ah 23 cY) (.b9 ah 24 cQ))⟩
noncomputable def LJ:Fn:=⟨"key_after",["pos","move","zob","piece","side","origin","goal","special","key","where","taken","landed","rook","row","passed"],2,va (.asg 2 (.attr ah 19)) (.asg 3 (.call 32 (bS ah aA))) (.asg 4 (.attr ah 3)) (.asg 5 (.call 4 (bA aA))) (.asg 6 (.call 5 (bA aA))) (.asg 7 (.call 6 (bA aA))) (.asg 8 (fL (.attr ah 24) (.attr aT 3))) (.bh (pj (.attr ah 1) a0) (aX (.aug 8 .xor (.sub (.attr aT 1) (bW (.attr ah 1) (.attr (.attr ah 18) 4))))) .nil) (IH (.asg 9 (.call 33 (bS ah aA))) (.asg 10 (.sub (.attr ah 20) lp)) (.bh (dA gp a0) (aX (.aug 8 .xor (.sub (.sub (.attr aT 0) gp) lp))) .nil) (.asg 11 bH) (.bh (aL dP aH) (aX (.asg 11 (.call 0 (bS bX (.call 7 (bA aA)))))) .nil) (.aug 8 .xor (fL (.sub (.sub (.attr aT 0) bH) cY) (.sub (.sub (.attr aT 0) dh) cQ))) (.bh (aL dP iL) (pI (.asg 12 (.call 34 (dK (.attr ah 18) bX cQ))) (.asg 13 (.sub (.attr aT 0) (.call 0 (bS bX jh)))) (.aug 8 .xor (fL (.sub mL (.sub vh a0)) (.sub mL (.sub vh aH))))) .nil) (.bh (aL (.call 2 (bA bH)) aH) (Bz2 (.asg 14 (.call 35 (fV ah bX cY cQ))) (.bh (pj qS a0) (aX (.aug 8 .xor (.sub (.attr aT 1) (bW qS (.attr (.attr ah 18) 4))))) .nil)) .nil) (.ret (fL (fL fc (.sub (.attr aT 2) (.attr ah 2))) (.sub (.attr aT 2) (.call 36 (dK ah cY cQ))))))⟩
noncomputable def Nv:Fn:=⟨"direction",["geo","a","b","d"],3,Bz2 (.cy 3 (.bi .range (bA kW)) (aX (.bh (aB (cF (.sub (.sub (.attr ah 12) bH) aA) aT) aH) (aX (.ret bH)) .nil))) (.ret (.neg aH))⟩
noncomputable def Nu:Fn:=⟨"between",["geo","a","b","d"],3,pI (.asg 3 (.call 43 (dK ah aA aT))) (.bh (jY bH a0) (aX (.ret a0)) .nil) (.ret (aB (.sub (.sub (.attr ah 12) bH) aA) (.sub (.sub (.attr ah 12) (fL bH dE)) aT)))⟩
noncomputable def Nt:Fn:=⟨"line",["geo","a","b","d"],3,pI (.asg 3 (.call 43 (dK ah aA aT))) (.bh (jY bH a0) (aX (.ret a0)) .nil) (.ret (dT (dT (.sub (.sub (.attr ah 12) bH) aA) (.sub (.sub (.attr ah 12) (fL bH dE)) aA)) (a9 aH aA)))⟩
noncomputable def Nr:Fn:=⟨"aligned",["geo","a","b","c"],4,aX (.ret (aL (aB (cF (.call 45 (dK ah aA aT)) bH) aH) aH))⟩
noncomputable def Nq:Fn:=⟨"ray_attacks",["geo","d","square","occupied","ray","stop","behind"],4,va (.asg 4 (.sub (.sub (.attr ah 12) aA) aT)) (.asg 5 (aB bX bH)) (.bh (aL cY a0) (aX (.ret bX)) .nil) (.bh (.call 13 (bA aA)) (aX (.ret (aB bX (fL cY (aF cY aH))))) .nil) (.asg 6 (cF cY aH)) (.aug 6 .or (cF cQ aH)) (.aug 6 .or (cF cQ dE)) (.aug 6 .or (cF cQ jh)) (qK (.aug 6 .or (cF cQ kW)) (.aug 6 .or (cF cQ (.bB 16))) (.aug 6 .or (cF cQ (.bB 32))) (.ret (aB bX (.inv cQ))))⟩
noncomputable def Np:Fn:=⟨"rook_attacks",["geo","square","occupied","found","d"],3,pI (.asg 3 a0) (.cy 4 (.bi .range (bA jh)) (aX (.aug 3 .or (.call 47 (fV ah bX aA aT))))) (.ret bH)⟩
noncomputable def Nn:Fn:=⟨"bishop_attacks",["geo","square","occupied","found","d"],3,pI (.asg 3 a0) (.cy 4 (.bi .range (bS jh kW)) (aX (.aug 3 .or (.call 47 (fV ah bX aA aT))))) (.ret bH)⟩
noncomputable def Nm:Fn:=⟨"queen_attacks",["geo","square","occupied"],3,aX (.ret (dT (.call 48 (dK ah aA aT)) (.call 49 (dK ah aA aT))))⟩
noncomputable def Nl:Fn:=⟨"slider_attacks",["geo","kind","square","occupied"],4,qK (.bh (aL aA iL) (aX (.ret (.call 49 (dK ah aT bH)))) .nil) (.bh (aL aA jh) (aX (.ret (.call 48 (dK ah aT bH)))) .nil) (.bh (aL aA qM) (aX (.ret (.call 50 (dK ah aT bH)))) .nil) (.ret a0)⟩
noncomputable def Nk:Fn:=⟨"piece_attacks",["geo","side","kind","square","occupied"],5,qK (.bh (aL aT aH) (aX (.ret (.sub (.sub (.attr ah 15) aA) bH))) .nil) (.bh (aL aT dE) (aX (.ret (.sub (.attr ah 14) bH))) .nil) (.bh (aL aT ur) (aX (.ret (.sub (.attr ah 13) bH))) .nil) (.ret (.call 51 (fV ah aT bH bX)))⟩
noncomputable def Nj:Fn:=⟨"straight_sliders",["pos"],1,aX (.ret (dT (.sub (.attr ah 21) jh) (.sub (.attr ah 21) qM)))⟩
noncomputable def Ni:Fn:=⟨"slanting_sliders",["pos"],1,aX (.ret (dT (.sub (.attr ah 21) iL) (.sub (.attr ah 21) qM)))⟩
noncomputable def Nh:Fn:=⟨"pawn_attackers",["pos","square","side"],3,aX (.ret (aB (aB (.sub (.sub (.attr (.attr ah 18) 15) (aF aH aT)) aA) (.sub (.attr ah 21) aH)) (.sub (.attr ah 22) aT)))⟩
noncomputable def Ng:Fn:=⟨"step_attackers",["pos","square","side","geo","near"],3,qK (.asg 3 (.attr ah 18)) (.asg 4 (aB (.sub (.attr bH 14) aA) (.sub (.attr ah 21) dE))) (.aug 4 .or (aB (.sub (.attr bH 13) aA) (.sub (.attr ah 21) ur))) (.ret (dT (.call 55 (dK ah aA aT)) (aB bX (.sub (.attr ah 22) aT))))⟩
noncomputable def Nf:Fn:=⟨"line_attackers",["pos","square","occupied","hits","straight","slanting"],3,yO (.asg 3 a0) (.asg 4 (.call 53 (bA ah))) (.bh bX (aX (.aug 3 .or (aB (.call 48 (dK (.attr ah 18) aA aT)) bX))) .nil) (.asg 5 (.call 54 (bA ah))) (.bh cY (aX (.aug 3 .or (aB (.call 49 (dK (.attr ah 18) aA aT)) cY))) .nil) (.ret bH)⟩
noncomputable def Nc:Fn:=⟨"attackers_to",["pos","square","occupied","steps"],3,Bz2 (.asg 3 (dT (.call 56 (dK ah aA a0)) (.call 56 (dK ah aA aH)))) (.ret (dT bH (.call 57 (dK ah aA aT))))⟩
noncomputable def Nb:Fn:=⟨"is_attacked",["pos","square","side","occupied","geo","own","straight","slanting"],4,BX (.bh (.call 56 (dK ah aA aT)) (aX (.ret (.bu true))) .nil) (.asg 4 (.attr ah 18)) (.asg 5 (.sub (.attr ah 22) aT)) (.asg 6 (aB (.call 53 (bA ah)) cY)) (.bh (.dU (bS cQ (aB (.call 48 (dK bX aA bH)) cQ))) (aX (.ret (.bu true))) .nil) (.asg 7 (aB (.call 54 (bA ah)) cY)) (.ret (.dU (bS (dA dP a0) (dA (aB (.call 49 (dK bX aA bH)) dP) a0))))⟩
noncomputable def M9:Fn:=⟨"checkers_of",["pos","side","everything"],2,Bz2 (.asg 2 (dT (.sub (.attr ah 22) a0) (.sub (.attr ah 22) aH))) (.ret (aB (.call 58 (dK ah (.call 30 (bS ah aA)) aT)) (.sub (.attr ah 22) (aF aH aA))))⟩
noncomputable def M8:Fn:=⟨"checkers",["pos"],1,aX (.ret (.call 60 (bS ah (.attr ah 3))))⟩
noncomputable def M7:Fn:=⟨"in_check_of",["pos","side","everything"],2,Bz2 (.asg 2 (dT (.sub (.attr ah 22) a0) (.sub (.attr ah 22) aH))) (.ret (.call 59 (fV ah (.call 30 (bS ah aA)) (aF aH aA) aT)))⟩
noncomputable def M6:Fn:=⟨"in_check",["pos"],1,aX (.ret (.call 62 (bS ah (.attr ah 3))))⟩
noncomputable def M5:Fn:=⟨"snipers_of",["pos","side","king","hits"],2,qK (.asg 2 (.call 30 (bS ah aA))) (.asg 3 (aB (.call 48 (dK (.attr ah 18) aT a0)) (.call 53 (bA ah)))) (.aug 3 .or (aB (.call 49 (dK (.attr ah 18) aT a0)) (.call 54 (bA ah)))) (.ret (aB bH (.sub (.attr ah 22) (aF aH aA))))⟩
noncomputable def M4:Fn:=⟨"blockers",["pos","side","king","snipers","standing","held","pinners","sniper","inside"],2,BX (.asg 2 (.call 30 (bS ah aA))) (.asg 3 (.call 64 (bS ah aA))) (.asg 4 (fL (dT (.sub (.attr ah 22) a0) (.sub (.attr ah 22) aH)) bH)) (.asg 5 a0) (.asg 6 a0) (.cy 7 (.call 24 (bA bH)) (Bz2 (.asg 8 (aB (.call 44 (dK (.attr ah 18) aT dP)) bX)) (.bh (.dU (bS fc (.lZ (.call 21 (bA fc))))) (Bz2 (.aug 5 .or fc) (.bh (aB fc (.sub (.attr ah 22) aA)) (aX (.aug 6 .or (a9 aH dP))) .nil)) .nil))) (.ret (.tup (bS cY cQ)))⟩
noncomputable def M3:Fn:=⟨"pinned_pieces",["pos","side"],2,aX (.ret (aB (.sub (.call 65 (bS ah aA)) a0) (.sub (.attr ah 22) aA)))⟩
noncomputable def M0:Fn:=⟨"squares_within",["a","b"],2,Bz2 (.bh (jY ah aA) (aX (.ret (aF (a9 aH aA) (a9 dE ah)))) .nil) (.ret (aF (a9 aH ah) (a9 dE aA)))⟩
noncomputable def MZ:Fn:=⟨"castle_refusal",["pos","index","wing","king_from","king_to","rook_from","rook_to","whole","enemy"],2,va (.asg 2 (.sub (.attr (.attr ah 18) 16) aA)) (.bh (.cmp .is aT .g6) (aX (.ret aH)) .nil) (.bh (aL (aB (.attr ah 2) (a9 aH aA)) a0) (aX (.ret dE)) .nil) (.mB [3,4,5,6] aT) (.asg 7 (.call 28 (bA ah))) (.bh (aB dP (.call 67 (bS bH cY))) (aX (.ret iL)) .nil) (.asg 8 (aF aH (cF aA aH))) (.bh (.call 59 (fV ah bH fc dP)) (aX (.ret jh)) .nil) (pI (.bh (.call 59 (fV ah cQ fc dP)) (aX (.ret qM)) .nil) (.bh (.call 59 (fV ah bX fc dP)) (aX (.ret ur)) .nil) (.ret a0))⟩
noncomputable def MY:Fn:=⟨"add_castling",["pos","out","index","king_from","king_to","rook_from","rook_to"],2,aX (.cy 2 (.lst (bS (aY dE (.attr ah 3)) (aV (aY dE (.attr ah 3)) aH))) (aX (.bh (aL (.call 68 (bS ah aT)) a0) (Bz2 (.mB [3,4,5,6] (.sub (.attr (.attr ah 18) 16) aT)) (.aG (.append aA (.call 3 (fV bH bX iL a0))))) .nil)))⟩
noncomputable def MX:Fn:=⟨"add_goals",["origin","goals","out","goal"],3,aX (.cy 3 (.call 24 (bA aA)) (aX (.aG (.append aT (.call 3 (fV ah bH a0 a0))))))⟩
noncomputable def MW:Fn:=⟨"add_piece_moves",["pos","kind","target","out","whole","origin","reach"],4,Bz2 (.asg 4 (.call 28 (bA ah))) (.cy 5 (.call 24 (bA (.call 29 (dK ah (.attr ah 3) aA)))) (Bz2 (.asg 6 (.call 52 (II (.attr ah 18) (.attr ah 3) aA cY bX))) (.aG (.call 70 (dK cY (aB cQ aT) bH)))))⟩
noncomputable def MV:Fn:=⟨"stage_target",["pos","stage"],2,pI (.bh (aL aA a0) (aX (.ret (.sub (.attr ah 22) (aF aH (.attr ah 3))))) .nil) (.bh (aL aA aH) (aX (.ret (aB (.attr (.attr ah 18) 7) (.inv (.call 28 (bA ah)))))) .nil) (.ret (aB (.attr (.attr ah 18) 7) (.inv (.sub (.attr ah 22) (.attr ah 3)))))⟩
noncomputable def MU:Fn:=⟨"push_step",["geo","side"],2,Bz2 (.bh (aL aA a0) (aX (.ret (.attr ah 4))) .nil) (.ret (.neg (.attr ah 4)))⟩
noncomputable def MT:Fn:=⟨"start_mask",["geo","side"],2,Bz2 (.bh (aL aA a0) (aX (.ret (.sub (.attr ah 11) aH))) .nil) (.ret (.sub (.attr ah 11) (aF (.attr ah 5) dE)))⟩
noncomputable def MS:Fn:=⟨"last_mask",["geo","side"],2,Bz2 (.bh (aL aA a0) (aX (.ret (.sub (.attr ah 11) (aF (.attr ah 5) aH)))) .nil) (.ret (.sub (.attr ah 11) a0))⟩
noncomputable def MR:Fn:=⟨"shift_push",["geo","b","side"],3,Bz2 (.bh (aL aT a0) (aX (.ret (aB (a9 aA (.attr ah 4)) (.attr ah 7)))) .nil) (.ret (cF aA (.attr ah 4)))⟩
noncomputable def MQ:Fn:=⟨"shift_capture",["geo","b","side","wing"],4,Bz2 (.bh (aL bH a0) (aX (.ret (a9 (.call 76 (dK ah (aB aA (.inv (.sub (.attr ah 10) (aF (.attr ah 4) aH)))) aT)) aH))) .nil) (.ret (cF (.call 76 (dK ah (aB aA (.inv (.sub (.attr ah 10) a0))) aT)) aH))⟩
noncomputable def MP:Fn:=⟨"push_targets",["pos","side","geo","empty","pawns","ones","twos","passed"],2,BX (.asg 2 (.attr ah 18)) (.asg 3 (aB (.attr aT 7) (.inv (.call 28 (bA ah))))) (.asg 4 (.call 29 (dK ah aA aH))) (.asg 5 (aB (.call 76 (dK aT bX aA)) bH)) (.asg 6 a0) (.bh (.attr aT 8) (Bz2 (.asg 7 (aB (.call 76 (dK aT (aB bX (.call 74 (bS aT aA))) aA)) bH)) (.asg 6 (aB (.call 76 (dK aT dP aA)) bH))) .nil) (.ret (.tup (bS cY cQ)))⟩
noncomputable def MO:Fn:=⟨"add_promotions",["origin","to","stage","is_capture","out","with_lesser","kind"],5,pI (.bh (dA aT aH) (aX (.aG (.append bX (.call 3 (fV ah aA aH qM))))) .nil) (.bh (aL aT a0) (aX (.asg 5 bH)) (aX (.bh (aL aT aH) (aX (.asg 5 (.lZ bH))) (aX (.asg 5 (.bu true)))))) (.bh cY (aX (.cy 6 (.lst (dK jh iL dE)) (aX (.aG (.append bX (.call 3 (fV ah aA aH cQ))))))) .nil)⟩
noncomputable def MN:Fn:=⟨"add_plain_pushes",["pos","target","out","geo","step","ones","twos","goal"],3,yP (.asg 3 (.attr ah 18)) (.asg 4 (.call 73 (bS bH (.attr ah 3)))) (.mB [5,6] (.call 78 (bS ah (.attr ah 3)))) (.cy 7 (.call 24 (bA (aB (aB cY aA) (.inv (.call 75 (bS bH (.attr ah 3))))))) (aX (.aG (.append aT (.call 3 (fV (aF dP bX) dP a0 a0)))))) (.cy 7 (.call 24 (bA (aB cQ aA))) (aX (.aG (.append aT (.call 3 (fV (aF dP (aY dE bX)) dP a0 a0))))))⟩
noncomputable def MM:Fn:=⟨"add_push_promotions",["pos","stage","target","out","geo","step","ones","goal"],4,qK (.asg 4 (.attr ah 18)) (.asg 5 (.call 73 (bS bX (.attr ah 3)))) (.asg 6 (.sub (.call 78 (bS ah (.attr ah 3))) a0)) (.cy 7 (.call 24 (bA (aB (aB cQ aT) (.call 75 (bS bX (.attr ah 3)))))) (aX (.aG (.call 79 (II (aF dP cY) dP aA (.bu false) bH)))))⟩
noncomputable def ML:Fn:=⟨"add_pawn_captures",["pos","stage","target","out","geo","side","last","pawns","hits","wing","step","goal"],4,yO (.asg 4 (.attr ah 18)) (.asg 5 (.attr ah 3)) (.asg 6 (.call 75 (bS bX cY))) (.asg 7 (.call 29 (dK ah cY aH))) (.asg 8 (aB aT (.sub (.attr ah 22) (aF aH cY)))) (.cy 9 (.lst (bS a0 aH)) (Bz2 (.asg 10 (aF (aV (.call 73 (bS bX cY)) aH) (aY dE lp))) (.cy 11 (.call 24 (bA (aB (.call 77 (fV bX dP cY lp)) fc))) (aX (.bh (aB cQ (a9 aH dh)) (aX (.aG (.call 79 (II (aF dh gp) dh aA (.bu true) bH)))) (aX (.aG (.append bH (.call 3 (fV (aF dh gp) dh a0 a0))))))))))⟩
noncomputable def MK:Fn:=⟨"add_pawn_moves",["pos","stage","target","out"],4,pI (.bh (dA aA a0) (aX (.aG (.call 80 (dK ah aT bH)))) .nil) (.aG (.call 81 (fV ah aA aT bH))) (.bh (dA aA aH) (aX (.aG (.call 82 (fV ah aA aT bH)))) .nil)⟩
noncomputable def MJ:Fn:=⟨"add_en_passant",["pos","out","origins","origin"],2,pI (.bh (jY (.attr ah 1) a0) (aX .zB) .nil) (.asg 2 (aB (.sub (.sub (.attr (.attr ah 18) 15) (aF aH (.attr ah 3))) (.attr ah 1)) (.call 29 (dK ah (.attr ah 3) aH)))) (.cy 3 (.call 24 (bA aT)) (aX (.aG (.append aA (.call 3 (fV bH (.attr ah 1) dE a0))))))⟩
noncomputable def MI:Fn:=⟨"evasion_targets",["pos","given"],2,Bz2 (.bh (.tf (bS (aL aA a0) (.call 21 (bA aA)))) (aX (.ret a0)) .nil) (.ret (dT aA (.call 44 (dK (.attr ah 18) (.call 30 (bS ah (.attr ah 3))) (.call 23 (bA aA))))))⟩
noncomputable def MH:Fn:=⟨"passed_pawn_square",["pos"],1,Bz2 (.bh (aL (.attr ah 3) a0) (aX (.ret (aF (.attr ah 1) (.attr (.attr ah 18) 4)))) .nil) (.ret (aV (.attr ah 1) (.attr (.attr ah 18) 4)))⟩
noncomputable def MG:Fn:=⟨"may_answer_en_passant",["pos","target"],2,Bz2 (.bh (jY (.attr ah 1) a0) (aX (.ret (.bu false))) .nil) (.ret (dA (aB aA (dT (a9 aH (.attr ah 1)) (a9 aH (.call 86 (bA ah))))) a0))⟩
noncomputable def MF:Fn:=⟨"add_evasions",["pos","out","target","kind"],2,pI (.asg 2 (.call 85 (bS ah (.call 61 (bA ah))))) (.bh aT (pI (.aG (.call 83 (fV ah iL aT aA))) (.bh (.call 87 (bS ah aT)) (aX (.aG (.call 84 (bS ah aA)))) .nil) (.cy 3 (.lst (fV dE iL jh qM)) (aX (.aG (.call 71 (fV ah bH aT aA)))))) .nil) (.aG (.call 71 (fV ah ur (aB (.attr (.attr ah 18) 7) (.inv (.sub (.attr ah 22) (.attr ah 3)))) aA)))⟩
noncomputable def O4:Fn:=⟨"taken_square_legality",["pos","move","goal"],2,qK (.asg 2 (.call 5 (bA aA))) (.bh (dA (.call 6 (bA aA)) dE) (aX (.ret aT)) .nil) (.bh (aL (.attr ah 3) a0) (aX (.ret (aF aT (.attr (.attr ah 18) 4)))) .nil) (.ret (aV aT (.attr (.attr ah 18) 4)))⟩
noncomputable def ME:Fn:=⟨"is_safe_en_passant",["pos","move","taken","goal","everything","behind","hits"],2,yO (.asg 2 (a9 aH (.call 89 (bS ah aA)))) (.asg 3 (a9 aH (.call 5 (bA aA)))) (.asg 4 (dT (.sub (.attr ah 22) a0) (.sub (.attr ah 22) aH))) (.asg 5 (dT (fL (fL bX (a9 aH (.call 4 (bA aA)))) aT) bH)) (.asg 6 (.call 58 (dK ah (.call 30 (bS ah (.attr ah 3))) cY))) (.ret (aL (aB (aB cQ (.sub (.attr ah 22) (aF aH (.attr ah 3)))) (.inv aT)) a0))⟩
noncomputable def MD:Fn:=⟨"is_legal",["pos","move","pinned","special","origin","goal","king","lifted"],3,IH (.asg 3 (.call 6 (bA aA))) (.bh (aL bH iL) (aX (.ret (.bu true))) .nil) (.bh (aL bH dE) (aX (.ret (.call 90 (bS ah aA)))) .nil) (.asg 4 (.call 4 (bA aA))) (.asg 5 (.call 5 (bA aA))) (.asg 6 (.call 30 (bS ah (.attr ah 3)))) (.bh (aL bX cQ) (Bz2 (.asg 7 (fL (dT (.sub (.attr ah 22) a0) (.sub (.attr ah 22) aH)) (a9 aH cQ))) (.ret (.lZ (.call 59 (fV ah cY (aF aH (.attr ah 3)) dP))))) .nil) (.bh (aL (aB (cF aT bX) aH) a0) (aX (.ret (.bu true))) .nil) (.ret (.call 46 (fV (.attr ah 18) bX cY cQ)))⟩
noncomputable def MC:Fn:=⟨"generate",["pos","stage","out","target","kind"],2,LR (.asg 2 (.lst .nil)) (.bh (aL aA iL) (Bz2 (.aG (.call 88 (bS ah aT))) (.ret aT)) .nil) (.asg 3 (.call 72 (bS ah aA))) (.aG (.call 83 (fV ah aA (.attr (.attr ah 18) 7) aT))) (.bh (dA aA aH) (aX (.aG (.call 84 (bS ah aT)))) .nil) (.cy 4 (.lst (II dE iL jh qM ur)) (aX (.aG (.call 71 (fV ah bX bH aT))))) (.bh (dA aA a0) (aX (.aG (.call 69 (bS ah aT)))) .nil) (.ret aT)⟩
noncomputable def MB:Fn:=⟨"pseudo_moves",["pos"],1,Bz2 (.bh (.call 63 (bA ah)) (aX (.ret (.call 92 (bS ah iL)))) .nil) (.ret (.call 92 (bS ah dE)))⟩
noncomputable def MA:Fn:=⟨"keep_legal",["pos","moves","pinned","out","move"],2,qK (.asg 2 (.call 66 (bS ah (.attr ah 3)))) (.asg 3 (.lst .nil)) (.cy 4 aA (aX (.bh (.call 91 (dK ah bX aT)) (aX (.aG (.append bH bX))) .nil))) (.ret bH)⟩
noncomputable def Mz:Fn:=⟨"legal_moves",["pos"],1,aX (.ret (.call 94 (bS ah (.call 93 (bA ah)))))⟩
noncomputable def O3:Fn:=⟨"_law_shapes",[],0,aX (.ret (.lst (dK (.tup (fV jh qM (.bu true) (.bu false))) (.tup (fV EU iL (.bu false) (.bu true))) (.tup (fV qM qM (.bu true) (.bu false))))))⟩
noncomputable def My:Fn:=⟨"_law_at",["script","k"],2,aX (.ret (.Ar (jY aA (.bi .len (bA ah))) (.sub ah aA) a0))⟩
noncomputable def I2:Fn:=⟨"_law_hits",["cells","files","start","goal","man","df","dr","near","way","spot"],4,va (.asg 4 (bW (.sub ah aT) kW)) (.asg 5 (aF (bW bH aA) (bW aT aA))) (.asg 6 (aF (bJ bH aA) (bJ aT aA))) (.asg 7 (.bi .sorted (bA (.lst (bS (.bi .abs (bA cY)) (.bi .abs (bA cQ))))))) (.bh (aL bX aH) (aX (.ret (.dU (bS (aL (.bi .abs (bA cY)) aH) (aL cQ (.Ar (jq (.sub ah aT) kW) (.neg aH) aH)))))) .nil) (.bh (aL bX dE) (aX (.ret (aL dP (.lst (bS aH dE))))) .nil) (.bh (aL bX ur) (aX (.ret (aL (.sub dP aH) aH))) .nil) (.bh (.tf (bS (aL (.sub dP aH) a0) (.cmp .notin (.sub dP a0) (.tup (bS a0 (.sub dP aH)))))) (aX (.ret (.bu false))) .nil) (yP (.bh (.tf (bS (.dU (bS (aL bX iL) (aL (.sub dP a0) a0))) (.dU (bS (aL bX jh) (jq (.sub dP a0) a0))))) (aX (.ret (.bu false))) .nil) (.asg 8 (aV (aY (bJ cQ (.sub dP aH)) aA) (bJ cY (.sub dP aH)))) (.asg 9 (aV aT fc)) (.gO (dA lp bH) (Bz2 (.bh (dA (.sub ah lp) a0) (aX (.ret (.bu false))) .nil) (.aug 9 .add fc))) (.ret (.bu true)))⟩
noncomputable def LI:Fn:=⟨"_law_beside",["cells","files","spot","man"],4,Bz2 (.bh (.dU (bS (jq (bW aT aA) a0) (aL (.sub ah (aF aT aH)) bH))) (aX (.ret (.bu true))) .nil) (.ret (.dU (bS (jY (bW aT aA) (aF aA aH)) (aL (.sub ah (aV aT aH)) bH))))⟩
noncomputable def ID:Fn:=⟨"_law_passed",["cells","who","files","ranks","way","f","spot"],4,pI (.asg 4 (.Ar (aL aA aH) (.neg aT) aT)) (.cy 5 (.bi .range (bA aT)) (Bz2 (.asg 6 (aV (aY (.Ar (aL aA aH) dE (aF bH iL)) aT) cY)) (.bh (.dU (dK (aL (.sub ah cQ) a0) (aL (.sub ah (aV cQ bX)) a0) (aL (.sub ah (aF cQ bX)) (aF (.bB 9) (aY kW aA))))) (aX (.bh (.call 99 (fV ah aT (aF cQ bX) (aV (aY kW aA) aH))) (aX (.ret cQ)) .nil)) .nil))) (.ret (.neg aH))⟩
noncomputable def Iz:Fn:=⟨"_law_kings",["script","files","ranks","wings","size","cells","n","rights","i","home","k","spot"],4,IH (.asg 4 (aY aA aT)) (.asg 5 (aY (.lst (bA a0)) bX)) (.asg 6 (.call 97 (bS ah aH))) (.asg 7 a0) (.bh (.dU (bS bH (aL (bW cQ dE) a0))) (yP (.eP cY (bJ aA dE) ur) (.eP cY (aV (aF bX aA) (bJ aA dE)) uv) (.asg 7 (bW (bJ cQ dE) (.bB 16))) (.cy 8 (.bi .range (bA jh)) (aX (.bh (aB (cF dP fc) aH) (aX (.eP cY (aV (aY (bJ fc dE) (aF bX aA)) (.Ar (aL (bW fc dE) aH) a0 (aF aA aH))) (aV (aY (bJ fc dE) kW) jh))) .nil))) (.ret (.tup (bS cY dP)))) .nil) (.asg 9 (bW cQ bX)) (.eP cY lp ur) (.cy 10 (.bi .range (bA bX)) (Bz2 (.asg 11 (bW (aV (bJ cQ bX) gp) bX)) (.bh (jq (.bi .max (bS (.bi .abs (bA (aF (bW dh aA) (bW lp aA)))) (.bi .abs (bA (aF (bJ dh aA) (bJ lp aA)))))) aH) (Bz2 (.eP cY dh uv) (.ret (.tup (bS cY dP)))) .nil))) (.ret (.tup (bS cY dP)))⟩
noncomputable def Iy:Fn:=⟨"_law_draw",["script","files","ranks","double","wings","size","cells","rights","who","n","spot","code","outer","ep"],5,BX (.asg 5 (aY aA aT)) (.mB [6,7] (.call 101 (fV ah aA aT bX))) (.asg 8 (bW (.call 97 (bS ah dE)) dE)) (.cy 9 (.slice ah iL EU) (qK (.asg 10 (bW lp cY)) (.asg 11 (bW (bJ lp cY) (.bB 10))) (.asg 12 (.cmp .inn (bJ gp aA) (.tup (bS a0 (aF aT aH))))) (.bh (.dU (bS (aL (.sub cQ gp) a0) (.lZ (.dU (bS (aL (bW dh qM) a0) vh))))) (Bz2 (.eP cQ gp (aV (aV (aY (bJ dh qM) kW) (bW dh qM)) aH)) (.bh (.dU (bS (aL (bJ dh qM) fc) (.call 98 (fV cQ aA gp (.index cQ (aF uv (aY kW fc))))))) (aX (.eP cQ gp a0)) .nil)) .nil))) (.asg 13 (.neg aH)) (.bh (.dU (bS bH (aL (bW (bJ (.call 97 (bS ah dE)) dE) dE) a0))) (aX (.asg 13 (.call 100 (fV cQ fc aA aT)))) .nil) (.ret (.tup (fV cQ fc dP mL)))⟩
noncomputable def Iw:Fn:=⟨"_law_play",["state","move","files","cells","who","rights","ep","start","goal","special","row","new","kept","i","first","corner"],3,va (.mB [3,4,5,6] ah) (.asg 7 (bW (bJ aA (.bB 64)) (.bB 64))) (.asg 8 (bW aA (.bB 64))) (.asg 9 (bW (bJ aA (.bB 16384)) jh)) (.asg 10 (aY (bJ dP aT) aT)) (.asg 11 (.bi .list (bA bH))) (.eP dh dP a0) (.eP dh fc (.sub bH dP)) (IH (.bh (aL lp aH) (aX (.eP dh fc (aV (aV (aY bX kW) dE) (bW (bJ aA (.bB 4096)) jh)))) .nil) (.bh (aL lp dE) (aX (.eP dh (aV gp (bW fc aT)) a0)) .nil) (.bh (.dU (bS (aL lp iL) (jq fc dP))) (Bz2 (.eP dh (aF (aV gp aT) aH) a0) (.eP dh (aF fc aH) (aV (aY bX kW) jh))) .nil) (.bh (.dU (bS (aL lp iL) (jY fc dP))) (Bz2 (.eP dh gp a0) (.eP dh (aV fc aH) (aV (aY bX kW) jh))) .nil) (.asg 12 a0) (.cy 13 (.bi .range (bA jh)) (pI (.asg 14 (aY (bJ mL dE) (aF (.bi .len (bA bH)) aT))) (.asg 15 (.Ar (aL (bW mL dE) aH) qS (aF (aV qS aT) aH))) (.bh (.dU (dK (aB (cF cY mL) aH) (aL (.sub dh (aV qS (bJ aT dE))) (aV (aY (bJ mL dE) kW) ur)) (aL (.sub dh Jc) (aV (aY (bJ mL dE) kW) jh)))) (aX (.aug 12 .add (a9 aH mL))) .nil))) (.asg 6 (.neg aH)) (.bh (.dU (dK (aL (bW (.sub bH dP) kW) aH) (aL (.bi .abs (bA (aF fc dP))) (aY dE aT)) (.call 99 (fV dh aT fc (aF (.bB 9) (aY kW bX)))))) (aX (.asg 6 (bJ (aV fc dP) dE))) .nil) (.ret (.tup (fV dh (aF aH bX) vh cQ))))⟩
noncomputable def LN:Fn:=⟨"_law_sum",["state","files","cells","who","rights","ep","size","total"],2,yO (.mB [2,3,4,5] ah) (.asg 6 (.bi .len (bA aT))) (.asg 7 (a9 bX (aY qm cQ))) (.bh (pj cY a0) (aX (.aug 7 .add (a9 aH (aV (aV (aY qm cQ) jh) (bW cY aA))))) .nil) (.bh (aL bH aH) (aX (.aug 7 .add (a9 aH (aV (aV (aY qm cQ) jh) aA)))) .nil) (.ret (aV dP (.bi .sum (bA (.comp [none,some 2,some 6] (.bi .range (bA cQ)) (dA (.sub aA ah) a0) (a9 aH (aV (aY (.sub aA ah) aT) ah)))))))⟩
noncomputable def LM:Fn:=⟨"_law_agrees",["pos","state","files","cells","size","whole","who","others"],3,BX (.asg 3 (.sub aA a0)) (.asg 4 (.bi .len (bA bH))) (.asg 5 (.call 104 (bS aA aT))) (.bh (.tf (dK (dA (.attr ah 20) bH) (dA (.attr ah 24) cY) (dA (.call 9 (bA ah)) cY))) (aX (.ret (.bu false))) .nil) (.bh (dA (.call 10 (bA ah)) (.bi .sum (bA (.comp [none,some 3,some 4] (.bi .range (bA bX)) (aL (bW (.sub aA ah) kW) aH) (a9 aH (aV (aY (.sub aA ah) aT) ah)))))) (aX (.ret (.bu false))) .nil) (.cy 6 (.tup (bS a0 aH)) (Bz2 (.asg 7 (.comp [none,some 3,some 4,some 6] (.bi .range (bA bX)) (.dU (bS (jq (bW (.sub aA ah) kW) aH) (aL (bJ (.sub aA ah) kW) bH))) (a9 aH (aV (aY (.sub aA ah) aT) ah)))) (.bh (dA (.call 11 (bS ah cQ)) (.bi .sum (bA dP))) (aX (.ret (.bu false))) .nil))) (.ret (aL (.call 12 (bA ah)) (.bi .sum (bA (.comp [none,some 3,some 4] (.bi .range (bS aH qm)) (.bu true) (a9 (aF (a9 aH (.count aA ah)) aH) (aY ah aT)))))))⟩
noncomputable def LL:Fn:=⟨"_law_position",["geo","state","files","size","s","rows","base","zob","pos"],3,va (.asg 3 (.bi .len (bA (.sub aA a0)))) (.asg 5 (.comp [none,some 3] (.bi .range (bA qm)) (.bu true) (.comp [none,some 0,some 1] (.bi .range (bA aA)) (.bu true) (a9 aH (aV (aY aA aT) ah))))) (.asg 6 (aY qm bH)) (.asg 7 (.new 0 (fV cY (.comp [none,some 6] (.bi .range (bA aT)) (.bu true) (a9 aH (aV (aV aA jh) ah))) (.comp [none,some 6] (.bi .range (bA (.bB 16))) (.bu true) (a9 ah aA)) (a9 aH (aV (aV cQ jh) aT))))) (.asg 8 (.new 2 (bS ah dP))) (.cy 4 (.bi .range (bA bH)) (aX (.bh (dA (.sub (.sub aA a0) bX) a0) (aX (.aG (.call 25 (dK fc (.sub (.sub aA a0) bX) bX)))) .nil))) (.b9 fc 3 (.sub aA aH)) (.b9 fc 2 (.sub aA dE)) (pI (.b9 fc 1 (.sub aA iL)) (.aG (.call 31 (bA fc))) (.ret fc))⟩
noncomputable def j6:Fn:=⟨"law",["script","files","ranks","double","wings","state","pos","states","moves","n","choices","move","told","last","k"],1,va (.asg 0 (.slice ah .g6 (.bB 24))) (.mB [1,2,3,4] (.sub (.call 96 .nil) (bW (.call 97 (bS ah a0)) iL))) (.asg 5 (.call 102 (II ah aA aT bH bX))) (.asg 6 (.call 106 (dK (.call 20 (fV aA aT bH bX)) cY aA))) (.bh (.lZ (.call 105 (dK cQ cY aA))) (aX (.ret (.bu false))) .nil) (.asg 7 (.lst (bA cY))) (.asg 8 (.lst .nil)) (.cy 9 (.slice (aV (.slice ah EU (.bB 11)) (.lst (dK a0 a0 a0))) .g6 jh) (IH (.asg 10 (.bi .sorted (bA (.call 95 (bA cQ))))) (.bh (aL (.bi .len (bA gp)) a0) (aX .brk) .nil) (.asg 11 (.sub gp (bW lp (.bi .len (bA gp))))) (.asg 12 (.call 42 (bS cQ dh))) (.aG (.call 40 (bS cQ dh))) (.asg 5 (.call 103 (dK cY dh aA))) (.bh (.tf (bS (dA vh (.attr cQ 24)) (.lZ (.call 105 (dK cQ cY aA))))) (aX (.ret (.bu false))) .nil) (.aG (.append fc dh)) (.aG (.append dP cY)))) (yO (.asg 13 (.attr cQ 24)) (.cy 14 (.bi .range (dK (aF (.bi .len (bA fc)) aH) (.neg aH) (.neg aH))) (Bz2 (.aG (.call 41 (bA cQ))) (.bh (.tf (bS (dA (.attr cQ 20) (.sub (.sub dP qS) a0)) (dA (.attr cQ 24) (.call 104 (bS (.sub dP qS) aA))))) (aX (.ret (.bu false))) .nil))) (.bh (jY (.bi .len (bA fc)) iL) (aX (.ret (.bu true))) .nil) (.asg 5 (.sub dP a0)) (.cy 11 (aV (.lst (dK (.sub fc dE) (.sub fc aH) (.sub fc a0))) (.slice fc iL .g6)) (qK (.bh (.cmp .notin dh (.call 95 (bA cQ))) (aX (.ret (.bu true))) .nil) (.aG (.call 40 (bS cQ dh))) (.asg 5 (.call 103 (dK cY dh aA))) (.bh (.lZ (.call 105 (dK cQ cY aA))) (aX (.ret (.bu false))) .nil))) (.ret (aL (aL (.attr cQ 24) mL) (aL cY (.sub dP (.bi .len (bA fc)))))))⟩
noncomputable def IC:Fn:=⟨"Zobrist",["self","pieces","ep","rights","side"],5,qK (.b9 ah 0 aA) (.b9 ah 1 aT) (.b9 ah 2 bH) (.b9 ah 3 bX)⟩
noncomputable def IB:Fn:=⟨"Geometry",["self","files","ranks","has_double","has_castling"],5,va (.b9 ah 4 aA) (.b9 ah 5 aT) (.b9 ah 6 (aY aA aT)) (.b9 ah 7 (aF (a9 aH (aY aA aT)) aH)) (.b9 ah 8 (.dU (bS bH (pj aT qM)))) (.b9 ah 9 bX) (.b9 ah 10 (.lst .nil)) (.b9 ah 11 (.lst .nil)) (yO (.b9 ah 12 (.lst .nil)) (.b9 ah 13 (.lst .nil)) (.b9 ah 14 (.lst .nil)) (.b9 ah 15 (.lst (bS (.lst .nil) (.lst .nil)))) (.b9 ah 16 (.lst .nil)) (.b9 ah 17 (.lst .nil)))⟩
noncomputable def IA:Fn:=⟨"Position",["self","geo","zob"],3,va (.b9 ah 18 aA) (.b9 ah 19 aT) (.b9 ah 20 (aY (.lst (bA a0)) (.attr aA 6))) (.b9 ah 21 (aY (.lst (bA a0)) EU)) (.b9 ah 22 (.lst (bS a0 a0))) (.b9 ah 3 a0) (.b9 ah 2 a0) (.b9 ah 1 (.neg aH)) (qK (.b9 ah 23 a0) (.b9 ah 7 aH) (.b9 ah 24 a0) (.b9 ah 25 (.lst .nil)))⟩
noncomputable def jo:List (Nat×Fn):=[(0,F0),(1,F1),(2,F2),(3,F3),(4,F4),(5,F5),(6,F6),(7,F7),(8,F8),(9,F9),(10,NZ),(11,NY),(12,NX),(13,NW),(14,NV),(15,NU),(16,NT),(17,NS),(18,NR),(19,NQ),(20,NP),(21,NO),(22,NN),(23,NM),(24,NL),(25,NK),(26,NJ),(27,NI),(28,NH),(29,NG),(30,NF),(31,ND),(32,NC),(33,O5),(34,NB),(35,NA),(36,Nz),(37,Ny),(38,Nx),(39,Nw),(40,I3),(41,LK),(42,LJ),(43,Nv),(44,Nu),(45,Nt),(46,Nr),(47,Nq),(48,Np),(49,Nn),(50,Nm),(51,Nl),(52,Nk),(53,Nj),(54,Ni),(55,Nh),(56,Ng),(57,Nf),(58,Nc),(59,Nb),(60,M9),(61,M8),(62,M7),(63,M6),(64,M5),(65,M4),(66,M3),(67,M0),(68,MZ),(69,MY),(70,MX),(71,MW),(72,MV),(73,MU),(74,MT),(75,MS),(76,MR),(77,MQ),(78,MP),(79,MO),(80,MN),(81,MM),(82,ML),(83,MK),(84,MJ),(85,MI),(86,MH),(87,MG),(88,MF),(89,O4),(90,ME),(91,MD),(92,MC),(93,MB),(94,MA),(95,Mz),(96,O3),(97,My),(98,I2),(99,LI),(100,ID),(101,Iz),(102,Iy),(103,Iw),(104,LN),(105,LM),(106,LL),(107,j6),(1000,IC),(1001,IB),(1002,IA)]
noncomputable def code (k:Nat):Option Fn:=jo.lookup k
end
end Internal
end
section
open PySem PySem.W PySem.Calls PyProof.Rows
namespace Internal
noncomputable abbrev Im:=Addr->Option Obj
def Im.Le (T T':Im):Prop:=∀a o,T a=some o->T' a=some o
theorem Im.Le.refl (T:Im):T.Le T:=λ_ _ h=>h
theorem Im.Le.trans {T T' T'':Im} (a:T.Le T') (b:T'.Le T''):T.Le T'':=λ_ _ h=>b _ _ (a _ _ h)
mutual
inductive VR (T:Im):V->Value->Prop
 | none:VR T .none .none
 | bool (b:Bool):VR T (.bool b) (.bool b)
 | int (i:Int) (t:Tok):VR T (.int i) (.int i t)
 | ref (a:Addr):VR T (.ref a) (.ref a)
 | tup {a:Addr} {vals:List Value} {vs:List V}:T a=some { cls:=.type "tuple",data:=.seq vals.toArray }->vs.length<=1000->cA T vs vals->VR T (.tup vs) (.ref a)
 | nG {a:Addr} {o:Obj} {vals:List Value} {n:Nat} {vs:List V}:T a=some o->o.cls=.type "list"->o.data=.seq vals.toArray n->vs.length<=1000->cA T vs vals->VR T (.nG vs) (.ref a)
 | fW {a b c:Int} {t u v:Tok} {r:Addr}:T r=some { cls:=.type "range",data:=.fields #[.int a t,.int b u,.int c v] }->Builtin.Range.small a b c=true->
  Builtin.Range.rangeSize a b c=(cj a b c:Int)->VR T (.fW a b c) (.ref r)
inductive cA (T:Im):List V->List Value->Prop
 | nil:cA T [] []
 | cons {v:V} {x:Value} {vs:List V} {xs:List Value}:VR T v x->cA T vs xs->cA T (v::vs) (x::xs)
end
section
variable {T:Im} {x:Value} {xs:List Value} {v u y:V}
@[elab_as_elim] theorem VR.ei {i:Int} {P:Value->Prop} (h:VR T (.int i) x) (k:∀t,P (.int i t)):P x:=by cases h;exact k _
@[elab_as_elim] theorem VR.er {a:Addr} {P:Value->Prop} (h:VR T (.ref a) x) (k:P (.ref a)):P x:=by cases h;exact k
@[elab_as_elim] theorem VR.eb {b:Bool} {P:Value->Prop} (h:VR T (.bool b) x) (k:P (.bool b)):P x:=by cases h;exact k
@[elab_as_elim] theorem VR.en {P:Value->Prop} (h:VR T .none x) (k:P .none):P x:=by cases h;exact k
@[elab_as_elim] theorem VR.et {vs:List V} {P:Value->Prop} (h:VR T (.tup vs) x) (k:∀a vals,T a=some { cls:=.type "tuple",data:=.seq vals.toArray }->vs.length<=1000->cA T vs vals->P (.ref a)):P x:=by
 cases h with
 | tup a b c=>exact k _ _ a b c
@[elab_as_elim] theorem VR.ef {vs:List V} {P:Value->Prop} (h:VR T (.nG vs) x) (k:∀a o vals n,T a=some o->o.cls=.type "list"->o.data=.seq vals.toArray n->vs.length<=1000->cA T vs vals->P (.ref a)):P x:=by
 cases h with
 | nG a b c d e=>exact k _ _ _ _ a b c d e
theorem VR.Me (h:VR T v x):(x ==.none)=isNone v:=by cases h<;>rfl
theorem cA.one (h:cA T [v] xs):∃x,xs=[x]/\VR T v x:=by
 cases h with
 | cons a b=>cases b;exact ⟨_,rfl,a⟩
theorem cA.two (h:cA T [v,u] xs):∃x y,xs=[x,y]/\VR T v x/\VR T u y:=by
 cases h with
 | cons a b=>
  obtain ⟨y,rfl,c⟩:=b.one;exact ⟨_,_,rfl,a,c⟩
theorem cA.three (h:cA T [v,u,y] xs):∃a b c,xs=[a,b,c]/\VR T v a/\VR T u b/\VR T y c:=by
 cases h with
 | cons a b=>
  obtain ⟨y,z,rfl,c,d⟩:=b.two;exact ⟨_,_,_,rfl,a,c,d⟩
@[elab_as_elim] theorem cA.e1 {P:List Value->Prop} (h:cA T [v] xs) (k:∀x,VR T v x->P [x]):P xs:=by obtain ⟨x,rfl,a⟩:=h.one;exact k x a
@[elab_as_elim] theorem cA.e2 {P:List Value->Prop} (h:cA T [v,u] xs) (k:∀x y,VR T v x->VR T u y->P [x,y]):P xs:=by obtain ⟨x,y,rfl,a,b⟩:=h.two;exact k x y a b
@[elab_as_elim] theorem cA.e3 {P:List Value->Prop} (h:cA T [v,u,y] xs) (k:∀a b c,VR T v a->VR T u b->VR T y c->P [a,b,c]):P xs:=by obtain ⟨a,b,c,rfl,p,q,r⟩:=h.three;exact k a b c p q r
end
def O2 (o:Obj):Prop:=o.cls=.type "tuple"\/o.cls=.type "range"\/o.cls=.type "list"
abbrev yM (T T':Im):Prop:=∀a o,T a=some o->O2 o->T' a=some o
theorem VR.map {T T':Im} (h:yM T T') {v:V} {x:Value} (r:VR T v x):VR T' v x:=
 VR.rec (motive_1:=λv x _=>VR T' v x) (motive_2:=λvs xs _=>cA T' vs xs) .none .bool .int .ref (λe l _ ih=>.tup (h _ _ e (.inl rfl)) l ih) (λe c d l _ ih=>.nG (h _ _ e (.inr (.inr c))) c d l ih) (λe s q=>.fW (h _ _ e (.inr (.inl rfl))) s q) .nil (λ_ _ a b=>.cons a b) r
theorem cA.ind {T:Im} {P:List V->List Value->Prop} (n:P [] []) (c:∀{v x vs xs},VR T v x->cA T vs xs->P vs xs->P (v::vs) (x::xs)) {vs:List V} {xs:List Value} (h:cA T vs xs):P vs xs:=
 cA.rec (motive_1:=λ_ _ _=>True) (motive_2:=λvs xs _=>P vs xs) trivial (λ_=>trivial) (λ_ _=>trivial) (λ_=>trivial) (λ_ _ _ _=>trivial) (λ_ _ _ _ _ _=>trivial) (λ_ _ _=>trivial) n (λa b _ ih=>c a b ih) h
theorem cA.map {T T':Im} (h:yM T T') {v:List V} {x:List Value} (r:cA T v x):cA T' v x:=r.ind (P:=cA T') .nil λa _ ih=>.cons (a.map h) ih
theorem VR.mono {T T':Im} (h:T.Le T') {v:V} {x:Value} (r:VR T v x):VR T' v x:=r.map λa o e _=>h a o e
theorem cA.mono {T T':Im} (h:T.Le T') {v:List V} {x:List Value} (r:cA T v x):cA T' v x:=r.map λa o e _=>h a o e
theorem cA.length {T:Im} {v:List V} {x:List Value} (h:cA T v x):v.length=x.length:=h.ind (P:=λv x=>v.length=x.length) rfl λ_ _ ih=>congrArg (·+1) ih
theorem cA.get {T:Im} {vs:List V} {xs:List Value} {i:Nat} {v:V} (h:cA T vs xs):vs[i]?=some v->∃x,xs[i]?=some x/\VR T v x:=
 h.ind (P:=λvs xs=>∀i,vs[i]?=some v->∃x,xs[i]?=some x/\VR T v x) (λ_ e=>by cases e) (λa _ ih i e=>by
  cases i with
  | zero=>cases e;exact ⟨_,rfl,a⟩
  | succ i=>exact ih i e) i
theorem cA.append {T:Im} {vs ws:List V} {xs ys:List Value} (h:cA T vs xs) (k:cA T ws ys):cA T (vs++ws) (xs++ys):=
 h.ind (P:=λvs xs=>cA T (vs++ws) (xs++ys)) k λa _ ih=>.cons a ih
theorem cA.set {T:Im} {v:V} {x:Value} (hv:VR T v x) {vs:List V} {xs:List Value} (i:Nat) (h:cA T vs xs):cA T (vs.set i v) (xs.set i x):=
 h.ind (P:=λvs xs=>∀i,cA T (vs.set i v) (xs.set i x)) (λ_=>.nil) (λa b ih i=>by
  cases i with
  | zero=>exact .cons hv b
  | succ i=>exact .cons a (ih i)) i
theorem cA.take {T:Im} {vs:List V} {xs:List Value} (n:Nat) (h:cA T vs xs):cA T (vs.take n) (xs.take n):=
 h.ind (P:=λvs xs=>∀n,cA T (vs.take n) (xs.take n)) (λn=>by cases n<;>exact .nil) (λa _ ih n=>by
  cases n with
  | zero=>exact .nil
  | succ n=>exact .cons a (ih n)) n
theorem cA.drop {T:Im} {vs:List V} {xs:List Value} (n:Nat) (h:cA T vs xs):cA T (vs.drop n) (xs.drop n):=
 h.ind (P:=λvs xs=>∀n,cA T (vs.drop n) (xs.drop n)) (λn=>by cases n<;>exact .nil) (λa b ih n=>by
  cases n with
  | zero=>exact .cons a b
  | succ n=>exact ih n) n
theorem cA.replicate {T:Im} {v:V} {x:Value} (h:VR T v x):∀n,cA T (List.replicate n v) (List.replicate n x)
 | 0=>.nil
 | n+1=>.cons h (cA.replicate h n)
noncomputable def an (n:Nat):Str:=attrs.getD n (Str.ofString "?")
inductive DR (T:Im):List (Nat×V)->List DictEntry->Prop
 | nil:DR T [] []
 | cons {n:Nat} {v:V} {hs:Int} {t:Tok} {x:Value} {fs:List (Nat×V)} {es:List DictEntry}:n<attrs.length->VR T v x->DR T fs es->DR T ((n,v)::fs) (⟨hs,.str (an n) t,x⟩::es)
theorem DR.map {T T':Im} (h:yM T T') {fs:List (Nat×V)} {es:List DictEntry} (r:DR T fs es):DR T' fs es:=by
 induction r with
 | nil=>exact .nil
 | cons l a _ ih=>exact .cons l (a.map h) ih
theorem DR.length {T:Im} {fs:List (Nat×V)} {es:List DictEntry} (r:DR T fs es):es.length=fs.length:=by
 induction r with
 | nil=>rfl
 | cons _ _ _ ih=>exact congrArg (·+1) ih
theorem yE:∀m n:Nat,m<attrs.length->n<attrs.length->an m=an n->m=n:=by
 have h:∀m:Fin attrs.length,∀n:Fin attrs.length,an m=an n->m=n:=by decide +kernel
 intro m n hm hn e;have:=h ⟨m,hm⟩ ⟨n,hn⟩ e;exact congrArg Fin.val this
inductive OR (ca:Nat->Addr) (T:Im):Ob->Obj->Prop
 | list {vs:List V} {xs:List Value} {n:Nat}:cA T vs xs->vs.length<=lim->OR ca T (.list vs) { cls:=.type "list",data:=.seq xs.toArray n }
 | dict {fs:List (Nat×V)} {es:List DictEntry} {n:Nat}:DR T fs es->OR ca T (.dict fs) { cls:=.type "dict",data:=.dict es.toArray n }
 | inst {c:Nat} {dx:Addr}:c<3->OR ca T (.inst c dx) { cls:=.ref (ca c),dict:=some dx,data:=.plain }
theorem OR.map {ca:Nat->Addr} {T T':Im} (h:yM T T') {ob:Ob} {o:Obj} (r:OR ca T ob o):OR ca T' ob o:=by
 cases r with
 | list a b=>exact .list (a.map h) b
 | dict a=>exact .dict (a.map h)
 | inst a=>exact .inst a
theorem OR.mono {ca:Nat->Addr} {T T':Im} (h:T.Le T') {ob:Ob} {o:Obj} (r:OR ca T ob o):OR ca T' ob o:=r.map λa o e _=>h a o e
def mF (o:Obj):Prop:=(∃xs n,o.data=.seq xs n/\o.cls=.type "tuple")\/(∃xs,o.data=.fields xs)
theorem OR.th {ca:Nat->Addr} {T:Im} {ob:Ob} {o:Obj} (r:OR ca T ob o):¬mF o:=by
 rintro (⟨xs,n,h,h'⟩ | ⟨xs,h⟩)<;>cases r<;>simp_all
theorem OR.gb {ca:Nat->Addr} {T:Im} {ob:Ob} {o:Obj} (r:OR ca T ob o) (v:Option Value):o.data≠.cell v:=by
 cases r<;>simp
structure Rt (w:World) (K:Frag) (base:Heap):Prop where
 tv:K.In base
 lim:base.NoLimit
 g:∃mg,base.Ns mainGlobals mg
 b:∃mb,base.Ns builtinsNs mb/\∀x,x≠("__name__":Str)->mb x=bootBuiltins x
def ky (env:Env) (m:Str->Option Value) (h:Heap) (n:Str) (val:Value):Prop:=
 (env.kindOf n=some .local/\m n=some val)\/
 ((env.kindOf n=some .cell\/env.kindOf n=some .free)/\∃c,env.cells.lookup n=some c/\h.IsCell c (some val))
structure Fx where
 ca:Nat->Addr
 base:Heap
 h₀:Heap
 env:Env
 W:List Str
 ns:List Str
noncomputable def uK:Fx:=⟨λ_=>0,default,default,default,[],[]⟩
structure aJ (x:Fx) (h:Heap) (ρ:Lc) (H:Hp) (T:Im):Prop where
 cJ:x.base.StaysIn x.h₀
 fr:∃m,Fr x.h₀ x.env.locals h m/\∀i v,getL ρ i=some v->∃n val,x.ns[i]?=some n/\ky x.env m h n val/\VR T v val
 own:∀a ob,H a=some ob->(∃o,h.get? a=some o/\OR x.ca T ob o)/\a≠x.env.locals/\x.h₀.get? a=none
 eY:∀a o,T a=some o->h.get? a=some o/\(mF o\/x.base.get? a=some o)
 jy:∀n c,x.env.cells.lookup n=some c->∃v,h.IsCell c v/\(n∈x.W->x.h₀.get? c=none)
section
variable {x:Fx} {h₀ h h':Heap} {env:Env} {ρ:Lc} {H:Hp} {T:Im}
theorem IsCell.grow {c:Addr} {v:Option Value} (hc:h.IsCell c v) (k:∀b o,h.get? b=some o->h'.get? b=some o):h'.IsCell c v:=
 let ⟨o,a,b⟩:=hc;⟨o,k _ _ a,b⟩
theorem ky.grow {m:Str->Option Value} {n:Str} {val:Value} (s:ky env m h n val) (k:∀b o,h.get? b=some o->h'.get? b=some o):ky env m h' n val:=by
 rcases s with s | ⟨a,c,b,d⟩
 ·exact .inl s
 ·exact .inr ⟨a,c,b,IsCell.grow d k⟩
theorem aJ.iz (S:aJ x h ρ H T) {z:Addr} (hz:x.h₀.get? z=none):x.base.get? z=none:=by
 cases q:x.base.get? z with
 | none=>rfl
 | some o=>rw [S.cJ _ _ q] at hz;cases hz
theorem aJ.jO (S:aJ x h ρ H T):x.h₀.get? x.env.locals=none:=by
 obtain ⟨m,F,_⟩:=S.fr
 cases q:x.h₀.get? x.env.locals with
 | none=>rfl
 | some o=>exact absurd (Heap.lt_size q) (QK.mpr F.above)
theorem nU {h:Heap} {a:Addr} {m:Str->Option Value} {v:Option Value} (F:h.Ns a m) (c:h.IsCell a v):False:=by
 refine AI F λo es ep e1 e2 _=>?_;refine aq c λo' c1 c2=>?_;rw [e1] at c1;cases c1;rw [e2] at c2;cases c2
theorem aJ.kQ (S:aJ x h ρ H T) {c:Addr} {m:Str->Option Value} (h0:x.h₀.get? c=none) (hc:h.Ns c m):T c=none:=by
 refine AI hc λo es ep e1 e2 _=>?_
 cases q:T c with
 | none=>rfl
 | some ob=>
  refine aD (S.eY c ob q) λa1 a2=>?_;rw [e1] at a1;cases a1;rcases a2 with (⟨_,_,t2,_⟩ | ⟨_,t2⟩) | t2
  ·rw [e2] at t2;cases t2
  ·rw [e2] at t2;cases t2
  ·rw [S.iz h0] at t2;cases t2
theorem aJ.keep (S:aJ x h ρ H T):∀b o,x.base.get? b=some o->h.get? b=some o:=λb o e=>
 let ⟨_,F,_⟩:=S.fr;F.keep b o (S.cJ b o e)
theorem Fr.GI {m:Str->Option Value} {L:Addr} (F:Fr h₀ L h m) (k:∀b o,h.get? b=some o->h'.get? b=some o):Fr h₀ L h' m:=by
 obtain ⟨oL,a1,a2,hL,a3⟩:=F.ns;exact ⟨⟨oL,a1,a2,k _ _ hL,a3⟩,λb o e=>k _ _ (F.keep b o e),F.above⟩
theorem aJ.grow (S:aJ x h ρ H T) (k:∀b o,h.get? b=some o->h'.get? b=some o):aJ x h' ρ H T:=by
 obtain ⟨m,F,hl⟩:=S.fr;refine ⟨S.cJ,⟨m,Fr.GI F k,λi v e=>?_⟩,λa ob e=>?_,λa o e=>⟨k _ _ (S.eY a o e).1,(S.eY a o e).2⟩,λn c hn=>?_⟩
 ·refine fB (hl i v e) λn val a b c=>?_;exact ⟨n,val,a,b.grow k,c⟩
 ·refine dH (S.own a ob e) ?_;rintro ⟨o,a1,a2⟩ b c;exact ⟨⟨o,k _ _ a1,a2⟩,b,c⟩
 ·refine aq (S.jy n c hn) λv a3 a4=>?_;exact ⟨v,IsCell.grow a3 k,a4⟩
theorem aJ.mono (S:aJ x h ρ H T) {H':Hp} (hs:H'.Sub H):aJ x h ρ H' T:=
 ⟨S.cJ,S.fr,λa ob e=>S.own a ob (hs a ob e),S.eY,S.jy⟩
theorem aJ.fresh (S:aJ x h ρ H T) {a:Addr} (ha:h.objs.size<=a):H a=none:=by
 cases e:H a with
 | none=>rfl
 | some ob=>refine aD (S.own a ob e) ?_;rintro ⟨o,e1,_⟩ _;exact absurd (Heap.lt_size e1) (QK.mpr ha)
theorem aJ.lt (S:aJ x h ρ H T):x.env.locals<h.objs.size:=by
 obtain ⟨m,F,_⟩:=S.fr;obtain ⟨oL,a1,a2,hL,a3⟩:=F.ns;exact Heap.lt_size hL
theorem aJ.kZ (S:aJ x h ρ H T) {a:Addr} (ha:h.objs.size<=a):x.h₀.get? a=none:=by
 obtain ⟨m,F,_⟩:=S.fr
 cases e:x.h₀.get? a with
 | none=>rfl
 | some o=>exact absurd (Heap.lt_size (F.keep _ _ e)) (QK.mpr ha)
theorem aJ.upd (S:aJ x h ρ H T) {a:Addr} {ob ob':Ob} {o':Obj} (ha:H a=some ob) (hs:Heap.SameBut a h h') (ho:h'.get? a=some o') (hr:OR x.ca T ob' o') :
 aJ x h' ρ (H.upd a ob') T:=by
 refine dH (S.own a ob ha) ?_;rintro ⟨o,e1,e2⟩ e3 e4;obtain ⟨m,F,hl⟩:=S.fr;have kp:∀b o,b≠a->h.get? b=some o->h'.get? b=some o:=λb o hb e=>(hs.2 b hb).trans e
 have kc:∀c v,h.IsCell c v->h'.IsCell c v:=λc v ⟨oc,c1,c2⟩=>⟨oc,kp c oc (λq=>by
  subst q;rw [e1] at c1;cases c1;exact e2.gb v c2) c1,c2⟩
 refine ⟨S.cJ,⟨m,⟨F.ns.sameBut hs (Ne.symm e3),λb ob e=>kp b ob (λq=>by subst q;rw [e4] at e;cases e) (F.keep b ob e),F.above⟩,λi v e=>?_⟩,λb ob e=>?_,λb ob e=>?_,λn c hn=>?_⟩
 ·refine fB (hl i v e) λn val q1 q2 q3=>?_;refine ⟨n,val,q1,?_,q3⟩;rcases q2 with s | ⟨p1,c,p2,p3⟩
  ·exact .inl s
  ·exact .inr ⟨p1,c,p2,kc _ _ p3⟩
 ·unfold Hp.upd at e;by_cases hb:b=a
  ·subst hb;rw [Po rfl] at e;cases e;exact ⟨⟨o',ho,hr⟩,e3,e4⟩
  ·rw [Pf hb] at e;refine aD (S.own b ob e) ?_;rintro ⟨o2,q1,q2⟩ q3;exact ⟨⟨o2,kp _ _ hb q1,q2⟩,q3⟩
 ·have:=S.eY b ob e;refine ⟨kp _ _ (λq=>?_) this.1,this.2⟩;subst q;rw [e1] at this;cases this.1;rcases this.2 with hi | hb
  ·exact e2.th hi
  ·rw [S.cJ _ _ hb] at e4;cases e4
 ·refine aq (S.jy n c hn) λv a3 a4=>?_;exact ⟨v,kc _ _ a3,a4⟩
theorem aJ.new (S:aJ x h ρ H T) (k:∀b o,h.get? b=some o->h'.get? b=some o) {a:Addr} {ob:Ob} {o:Obj} (ha:h.objs.size<=a) (ho:h'.get? a=some o) (hr:OR x.ca T ob o) :
 aJ x h' ρ (H.upd a ob) T:=by
 have S':=S.grow k;refine ⟨S'.cJ,S'.fr,λb ob' e=>?_,S'.eY,S'.jy⟩;unfold Hp.upd at e;by_cases hb:b=a
 ·subst hb;rw [Po rfl] at e;cases e;exact ⟨⟨o,ho,hr⟩,λq=>absurd S.lt (by rw [<- q];exact QK.mpr ha),S.kZ ha⟩
 ·rw [Pf hb] at e;exact S'.own b ob' e
noncomputable def Im.upd (T:Im) (a:Addr) (o:Obj):Im:=λb=>if b=a then some o else T b
theorem aJ.FT (S:aJ x h ρ H T) (k:∀b o,h.get? b=some o->h'.get? b=some o) {a:Addr} {o:Obj} (ha:h.objs.size<=a) (ho:h'.get? a=some o) (hi:mF o) :
 T.Le (T.upd a o)/\aJ x h' ρ H (T.upd a o):=by
 have le:T.Le (T.upd a o):=λb o' e=>by
  unfold Im.upd;by_cases hb:b=a
  ·subst hb;exact absurd (Heap.lt_size (S.eY b o' e).1) (QK.mpr ha)
  ·rw [Pf hb];exact e
 have S':=S.grow k;obtain ⟨m,F,hl⟩:=S'.fr;refine ⟨le,S'.cJ,⟨m,F,λi v e=>?_⟩,λb ob e=>?_,λb o' e=>?_,S'.jy⟩
 ·refine fB (hl i v e) λn val q1 q2 q3=>?_;exact ⟨n,val,q1,q2,q3.mono le⟩
 ·refine aD (S'.own b ob e) ?_;rintro ⟨o2,q1,q2⟩ q3;exact ⟨⟨o2,q1,q2.mono le⟩,q3⟩
 ·unfold Im.upd at e;by_cases hb:b=a
  ·subst hb;rw [Po rfl] at e;cases e;exact ⟨ho,.inl hi⟩
  ·rw [Pf hb] at e;exact S'.eY b o' e
end
structure jw (s s':Shared):Prop where
 g:s'.gens=s.gens
 o:s'.os=s.os
inductive bf (x:Fx) (ρ:Lc) (T:Im) (s:Shared) (Q:V->Hp->Prop) (val:Value) (s':Shared):Prop
 | mk (v:V) (H':Hp) (T':Im) (hv:VR T' v val) (le:T.Le T') (S:aJ x s'.heap ρ H' T') (go:jw s s') (q:Q v H'):bf x ρ T s Q val s'
inductive yL (x:Fx) (ρ:Lc) (T:Im) (s:Shared) (Q:Hp->Prop) (s':Shared):Prop
 | mk (H':Hp) (T':Im) (le:T.Le T') (S:aJ x s'.heap ρ H' T') (go:jw s s') (q:Q H'):yL x ρ T s Q s'
abbrev No:Value->Shared->Prop:=λ_ _=>False
theorem IsList.of {T:Im} {ca:Nat->Addr} {h:Heap} {a:Addr} {vs:List V} {o:Obj} (hr:OR ca T (.list vs) o) (ho:h.get? a=some o):∃xs n,o={ cls:=.type "list",data:=.seq xs.toArray n }/\cA T vs xs/\vs.length<=lim/\h.IsList a xs.toArray:=by
 cases hr with
 | list a1 a2=>exact ⟨_,_,rfl,a1,a2,_,ho,rfl,_,rfl⟩
theorem aJ.list {x:Fx} {h:Heap} {ρ:Lc} {H:Hp} {T:Im} (S:aJ x h ρ H T) {a:Addr} {vs:List V} (e:H a=some (.list vs)) :
 ∃xs n,h.get? a=some { cls:=.type "list",data:=.seq xs.toArray n }/\cA T vs xs/\vs.length<=lim/\h.IsList a xs.toArray:=by
 refine aD (S.own a _ e) ?_;rintro ⟨o,h1,h2⟩ _;refine ed (IsList.of h2 h1) ?_;rintro xs n rfl b c d;exact ⟨xs,n,h1,b,c,d⟩
theorem IntsAre.of {T:Im} {vs:List V}:∀{xs:List Value} {ns:List Int},cA T vs xs->intsOf? vs=some ns->IntsAre xs ns:=by
 induction vs with
 | nil=>intro _ _ h e;cases h;cases e;exact .nil
 | cons v vs ih=>
  intro _ _ h e
  cases h with
  | cons a b=>
   cases v with
   | int i=>
    refine aq (PU.mp (show (intsOf? vs).map (i::·)=some _ from e)) λns h q=>?_;rw [<- q];exact a.ei λt=>.cons i t (ih b h)
   | _=>exact nomatch e
theorem cA.oK {T:Im} {xs:List Value} {ns:List Int} (h:IntsAre xs ns):cA T (ns.map .int) xs:=by
 induction h with
 | nil=>exact .nil
 | cons i t _ ih=>exact .cons (.int i t) ih
theorem gZ:lim+1<=sizeLine:=by decide
section
variable {prog:Program} {w:World} {A:Around} {E:Value->Shared->Prop} {s:Shared} {x:Fx} {ρ:Lc} {H:Hp} {T:Im}
theorem bf.keep (S:aJ x s.heap ρ H T) {Q:V->Hp->Prop} {v:V} {val:Value} {tk:Nat} (hv:VR T v val) (hq:Q v H):bf x ρ T s Q val { s with toks:=tk }:=
 ⟨v,H,T,hv,Im.Le.refl T,S,⟨rfl,rfl⟩,hq⟩
theorem bf.g7 (S:aJ x s.heap ρ H T) {Q:V->Hp->Prop} {v:V} {val:Value} (hv:VR T v val) (hq:Q v H):bf x ρ T s Q val s:=
 ⟨v,H,T,hv,Im.Le.refl T,S,⟨rfl,rfl⟩,hq⟩
theorem Ei {op:Operator} {o:gD} (ho:kG op=some o) {a b:Int} {t u:Tok} {P:Int->Prop} (h:BQ o a b P) {Q:Value->Shared->Prop}
 (hq:∀z,P z->Q (.int z s.toks) { s with toks:=s.toks+1 }):wpAny (model prog w) A (binaryOp op (.int a t) (.int b u)) Q E s:=by
 have key:match kG op with | some o=>BQ o a b P->wpAny (model prog w) A (binaryOp op (.int a t) (.int b u)) Q E s | none=>True:=by
  cases op with
  | Add=>exact λh=>PyProof.Rows.add_int (hq _ h)
  | Sub=>exact λh=>PyProof.Rows.sub_int (hq _ h)
  | Mult=>exact λh=>mul_int (hq _ h.2) (IntMulOk.of_left (intBits_le h.1))
  | Mod=>exact λh=>mod_int' h.1 (hq _ h.2)
  | LShift=>exact λh=>lshift_int_small h.1.1 (Rq h.1.2.1 (by decide)) h.1.2.2 (hq _ h.2)
  | RShift=>exact λh=>rshift_int h.1 (hq _ h.2)
  | BitOr=>exact λh=>or_int (hq _ h)
  | BitXor=>exact λh=>xor_int (hq _ h)
  | BitAnd=>exact λh=>and_int (hq _ h)
  | FloorDiv=>exact λh=>floordiv_int h.1.1 (hq _ h.2) (.inl (SO h.1.2))
  | _=>exact True.intro
 rw [ho] at key;exact key h
theorem o3 {op:Operator} {o:gD} (ho:kG op=some o) {a b:Int} {t u:Tok} {P:Int->Prop} (h:BQ o a b P) {Q:Value->Shared->Prop}
 (hq:∀z,P z->Q (.int z s.toks) { s with toks:=s.toks+1 }):wpAny (model prog w) A (inplaceOp op (.int a t) (.int b u)) Q E s:=by
 have key:match kG op with | some o=>BQ o a b P->wpAny (model prog w) A (inplaceOp op (.int a t) (.int b u)) Q E s | none=>True:=by
  cases op with
  | Add=>exact λh=>wpAny_iadd_int (hq _ h)
  | Sub=>exact λh=>isub_int (hq _ h)
  | Mult=>exact λh=>imul_int (hq _ h.2) (IntMulOk.of_left (intBits_le h.1))
  | Mod=>exact λh=>imod_int h.1 (hq _ h.2)
  | LShift=>exact λh=>ilshift_int_small h.1.1 (Rq h.1.2.1 (by decide)) h.1.2.2 (hq _ h.2)
  | RShift=>exact λh=>irshift_int h.1 (hq _ h.2)
  | BitOr=>exact λh=>ior_int (hq _ h)
  | BitXor=>exact λh=>ixor_int (hq _ h)
  | BitAnd=>exact λh=>iand_int (hq _ h)
  | FloorDiv=>exact λh=>ifloordiv_int h.1.1 (hq _ h.2) (.inl (SO h.1.2))
  | _=>exact True.intro
 rw [ho] at key;exact key h
theorem jB {v:V} {val:Value} {b:Bool} (hv:VR T v val) (hb:truthy v=some b) {Q:Bool->Shared->Prop} (h:Q b s):wpAny (model prog w) A (PySem.truthy val) Q E s:=by
 cases hv<;>simp only [truthy,Sf,reduceCtorEq] at hb<;>subst hb
 ·exact λ_ _ _=>h
 ·exact wpAny_truthy_bool h
 ·exact truthy_int h
theorem Aa (S:aJ x s.heap ρ H T) {vs:List V} {xs:List Value} (hv:cA T vs xs) {Q:V->Hp->Prop} (h:c7 vs H Q):wpAny (model prog w) A (newList xs) (bf x ρ T s Q) E s:=by
 have hl:xs.length<=sizeLine:=by have:=h.1;have:=hv.length;have:=gZ;lia
 refine wpAny_newObj_type (T:="list") ?_ (by show xs.toArray.size<=sizeLine;rw [Qp];exact hl);refine ⟨_,_,T,.ref _,Im.Le.refl T,S.new (λb o e=>Heap.get?_push_of_some _ e) (Pt _) (Heap.get?_push_size _ rfl) (.list hv h.1),⟨rfl,rfl⟩,h.2 _ (S.fresh (Pt _))⟩
theorem z9 (S:aJ x s.heap ρ H T) {vs:List V} {xs:List Value} (hv:cA T vs xs) {Q:V->Hp->Prop} (h:vs.length<=1000/\Q (.tup vs) H):wpAny (model prog w) A (newTuple xs) (bf x ρ T s Q) E s:=by
 have hl:xs.length<=sizeLine:=by have:=h.1;have:=hv.length;have:=gZ;simp only [lim] at *;lia
 refine wpAny_newObj_type (T:="tuple") ?_ (by show xs.toArray.size<=sizeLine;rw [Qp];exact hl);have hS:=S.FT (h':=s.heap.push { cls:=.type "tuple",data:=.seq xs.toArray }) (λb o e=>Heap.get?_push_of_some _ e) (Pt s.heap.objs.size) (Heap.get?_push_size _ rfl) (.inl ⟨_,_,rfl,rfl⟩);exact ⟨_,H,_,.tup (by simp [Im.upd]) h.1 (hv.mono hS.1),hS.1,hS.2,⟨rfl,rfl⟩,h.2⟩
end
theorem Pd.shape {H:Hp} {v:V} {d:PyData} (p:Pd H v d):d.canLay0=true/\d.depth<=1:=by
 cases p with
 | int=>exact ⟨rfl,by simp [PyData.depth]⟩
 | bool=>exact ⟨rfl,by simp [PyData.depth]⟩
 | list h hi=>exact ⟨by simp [PyData.canLay0,ke_canLayAll0],by simp [PyData.depth,ke_depthAll]⟩
theorem BV.shape {H:Hp} {vs:List V} {ds:List PyData} (p:BV H vs ds):PyData.canLayAll0 ds=true/\PyData.depthAll ds<=1:=by
 induction p with
 | nil=>exact ⟨rfl,by simp [PyData.depthAll]⟩
 | cons a b ih=>exact ⟨by rw [PyData.canLayAll0,a.shape.1,ih.1];rfl,by rw [PyData.depthAll];exact Nat.max_le.mpr ⟨a.shape.2,ih.2⟩⟩
section
variable {prog:Program} {w:World} {A:Around} {E:Value->Shared->Prop} {s:Shared} {x:Fx} {ρ:Lc} {H:Hp} {T:Im}
theorem Pd.reads {h:Heap} (S:aJ x h ρ H T) {v:V} {val:Value} {d:PyData} (p:Pd H v d) (hv:VR T v val):∃as,Reads h val d as:=by
 cases p with
 | int i=>exact hv.ei λ_=>⟨_,.int _ _⟩
 | bool b=>exact hv.eb ⟨_,.bool _⟩
 | list h hi=>refine hv.er ?_;exact ed (S.list h) λxs n g1 g2 g3 g4=>⟨_,reads_of_ints g4 (IntsAre.of g2 hi)⟩
theorem BV.reads {h:Heap} (S:aJ x h ρ H T) {vs:List V} {ds:List PyData} (p:BV H vs ds):∀{xs:List Value},cA T vs xs->∃as,ReadsAll h xs ds as:=by
 induction p with
 | nil=>intro _ g;cases g;exact ⟨_,.nil⟩
 | cons a b ih=>
  intro _ g
  cases g with
  | cons g1 g2=>exact bI (a.reads S g1) λas r1=>bI (ih g2) λbs r2=>⟨_,.cons r1 r2⟩
theorem E4.reads {h:Heap} (S:aJ x h ρ H T) {v:V} {val:Value} {d:PyData} (p:E4 H v d) (hv:VR T v val):∃as,Reads h val d as/\SeqAt.shaped d=true:=by
 cases p with
 | flat p=>
  refine bI (p.reads S hv) λas r=>⟨as,r,Rk.mpr ⟨p.shape.1,Px (Pb p.shape.2 (by decide))⟩⟩
 | tup p=>
  refine hv.et λ_ _ t1 l1 v1=>?_;refine bI (p.reads S v1) λas r=>⟨as,.tuple (S.eY _ _ t1).1 rfl rfl r,Rk.mpr ⟨by rw [PyData.canLay0];exact p.shape.1,Px (by rw [PyData.depth];exact Pb (RL p.shape.2 1) (by decide))⟩⟩
@[elab_as_elim] theorem sL.el {P:Int->Int->Prop} {v u:V} {val wal:Value} {G:Value->Value->Prop} (c:sL P v u) (hv:VR T v val) (hu:VR T u wal) (k:∀{x y t z},P x y->G (.int x t) (.int y z)):G val wal:=by
 cases c with
 | mk q=>exact hv.ei λ_=>hu.ei λ_=>k q
@[elab_as_elim] theorem IF.el {P:Prop} {u:V} {wal:Value} {G:Value->Prop} (c:IF P u) (hu:VR T u wal) (k:P->G .none):G wal:=by
 cases c with
 | mk q=>exact hu.en (k q)
@[elab_as_elim] theorem IG.el {h:Heap} {P:Bool->Prop} {v u:V} {val wal:Value} {G:Value->Value->Prop} (c:IG H P u v) (S:aJ x h ρ H T) (hv:VR T v val) (hu:VR T u wal)
 (k1:∀{i t a} {xs:List Value} {ns},h.IsList a xs.toArray->IntsAre xs ns->P (ns.any (· == i))->G (.int i t) (.ref a)) (k2:∀{i t a} {xs:List Value} {ns},IsTup h a xs.toArray->IntsAre xs ns->P (ns.any (· == i))->G (.int i t) (.ref a)):G val wal:=by
 cases c with
 | mk g q=>
  refine hv.ei λ_=>?_
  cases g with
  | list h hi=>refine hu.er ?_;exact ed (S.list h) λxs n g1 g2 g3 g4=>k1 g4 (IntsAre.of g2 hi) q
  | tup h=>exact hu.et λ_ _ t1 l1 v1=>k2 ⟨_,(S.eY _ _ t1).1,rfl,_,rfl⟩ (IntsAre.of v1 h) q
theorem xG (S:aJ x s.heap ρ H T) {op:CmpOp} {o:uT} (ho:AS op=some o) {v u:V} {val wal:Value} (hv:VR T v val) (hu:VR T u wal) (hun:A.units+100<cLine) {Q':V->Hp->Prop} (h:xI o v u H Q')
 {Q:Value->Shared->Prop} (k:∀b,Q' (.bool b) H->Q (.bool b) s):wpAny (model prog w) A (compareOp op val wal) Q E s:=by
 have hun':A.units+64<cLine:=Pm (Qe (by decide) _) hun
 have key:match AS op with | some o=>xI o v u H Q'->wpAny (model prog w) A (compareOp op val wal) Q E s | none=>True:=by
  cases op with
  | Eq=>exact λ⟨a,b,q⟩=>aq (a.reads S hv) λas r1 s1=>aq (b.reads S hu) λbs r2 s2=>eq_dataH r1 r2 s1 s2 hun' (k _ q)
  | NotEq=>exact λ⟨a,b,q⟩=>aq (a.reads S hv) λas r1 s1=>aq (b.reads S hu) λbs r2 s2=>ne_dataH r1 r2 s1 s2 hun' (k _ q)
  | Lt=>exact λc=>c.el hv hu λq=>PyProof.Rows.lt_int (k _ q)
  | LtE=>exact λc=>c.el hv hu λq=>le_int (k _ q)
  | Gt=>exact λc=>c.el hv hu λq=>gt_int (k _ q)
  | GtE=>exact λc=>c.el hv hu λq=>ge_int (k _ q)
  | Is=>exact λc=>c.el hu λq=>is_none (by rw [hv.Me];exact k _ q)
  | IsNot=>exact λc=>c.el hu λq=>isNot_none (by rw [hv.Me];exact k _ q)
  | In=>exact λc=>c.el S hv hu (λg1 g2 q=>in_list_ints g1 g2 (k _ q)) λg1 g2 q=>in_tuple_ints g1 g2 (k _ q)
  | NotIn=>exact λc=>c.el S hv hu (λg1 g2 q=>notin_list_ints g1 g2 (k _ q)) λg1 g2 q=>notin_tuple_ints g1 g2 (k _ q)
 rw [ho] at key;exact key h
end
noncomputable def gC (h₀ h:Heap) (L:Addr):List (Addr×Obj):=
 (List.range h.objs.size).filterMap λa=>match h.get? a with
  | some o=>if (h₀.get? a).isNone && a !=L then some (a,o) else none
  | none=>none
theorem eN {h₀ h:Heap} {L:Addr} {p:Addr×Obj}:p∈gC h₀ h L↔h.get? p.1=some p.2/\p.1≠L/\h₀.get? p.1=none:=by
 unfold gC;rw [List.mem_filterMap];constructor
 ·rintro ⟨a,_,e⟩;split at e
  ·rename_i o ho;split at e
   ·rename_i hc;cases e;simp only [Pe,RO,bne_iff_ne,ne_eq] at hc;exact ⟨ho,hc.2,hc.1⟩
   ·cases e
  ·cases e
 ·rintro ⟨e1,e2,e3⟩;refine ⟨p.1,Rf.mpr (Heap.lt_size e1),?_⟩;rw [e1];simp [e2,e3]
theorem qe (h₀ h:Heap) (L:Addr):News h₀ L h (gC h₀ h L):=λp hp=>eN.mp hp
section
variable {x:Fx} {h h':Heap} {ρ:Lc} {H:Hp} {T:Im}
theorem tw {h₀:Heap} {L:Addr} {m:Str->Option Value} {more:List (Addr×Obj)} (F':Fr h₀ L h' m) (F:Fr h₀ L h m) (N':News h₀ L h' (more++gC h₀ h L)) :
 ∀b o,b≠L->h.get? b=some o->h'.get? b=some o:=λb o hb e=>by
 cases q:h₀.get? b with
 | some o'=>have:=F.keep b o' q;rw [e] at this;cases this;exact F'.keep b _ q
 | none=>exact (N' (b,o) (S8 _ (eN.mpr ⟨e,hb,q⟩))).1
theorem aJ.GH (S:aJ x h ρ H T) {m:Str->Option Value} (hl:∀i v,getL ρ i=some v->∃n val,x.ns[i]?=some n/\ky x.env m h n val/\VR T v val)
 (F:Fr x.h₀ x.env.locals h m) (F':Fr x.h₀ x.env.locals h' m) (k:∀b o,b≠x.env.locals->h.get? b=some o->h'.get? b=some o):aJ x h' ρ H T:=by
 have kc:∀{c v},h.IsCell c v->h'.IsCell c v:=λhc=>aq hc λo c1 c2=>⟨o,k _ _ (λq=>nU F.ns (q ▸ hc)) c1,c2⟩;refine ⟨S.cJ,⟨m,F',λi v e=>?_⟩,λa ob e=>?_,λa o e=>?_,λn c hn=>?_⟩
 ·refine fB (hl i v e) λn val q1 q2 q3=>?_;refine ⟨n,val,q1,?_,q3⟩;rcases q2 with s | ⟨p1,c,p2,p3⟩
  ·exact .inl s
  ·exact .inr ⟨p1,c,p2,kc p3⟩
 ·refine dH (S.own a ob e) ?_;rintro ⟨o,q1,q2⟩ q3 q4;exact ⟨⟨o,k _ _ q3 q1,q2⟩,q3,q4⟩
 ·have:=S.eY a o e;exact ⟨k _ _ (λq=>by rw [q,S.kQ S.jO F.ns] at e;cases e) this.1,this.2⟩
 ·refine aq (S.jy n c hn) λv a3 a4=>?_;exact ⟨v,kc a3,a4⟩
end
section
variable {prog:Program} {w:World} {A:Around} {E:Value->Shared->Prop} {s:Shared} {x:Fx} {ρ:Lc} {H:Hp} {T:Im}
theorem aJ.news {h:Heap} (S:aJ x h ρ H T):∃m,Fr x.h₀ x.env.locals h m/\News x.h₀ x.env.locals h (gC x.h₀ h x.env.locals)/\
 (∀h' more,Fr x.h₀ x.env.locals h' m->News x.h₀ x.env.locals h' (more++gC x.h₀ h x.env.locals)->aJ x h' ρ H T/\∀b o,b≠x.env.locals->h.get? b=some o->h'.get? b=some o):=by
 obtain ⟨m,F,hl⟩:=S.fr;exact ⟨m,F,qe _ _ _,λh' more F' N'=>⟨S.GH hl F F' (tw F' F N'),tw F' F N'⟩⟩
theorem dy (v:Value):∀(n:Nat) (acc:Array Value),List.foldl (λx1 x2=>x1++x2) acc (List.replicate n #[v])=acc++ (List.replicate n v).toArray
 | 0,acc=>by simp
 | n+1,acc=>by
  rw [List.replicate_succ,List.foldl_cons,dy v n,List.replicate_succ];apply Array.toList_inj.mp;simp
theorem bf.newList {h':Heap} {tk:Nat} (S:aJ x s.heap ρ H T) (S':aJ x h' ρ H T) {a:Addr} {vs:List V} {xs:List Value} {n:Nat} (ha:s.heap.objs.size<=a) (ho:h'.get? a=some { cls:=.type "list",data:=.seq xs.toArray n })
 (hv:cA T vs xs) {Q:V->Hp->Prop} (h:c7 vs H Q):bf x ρ T s Q (.ref a) { s with heap:=h',toks:=tk }:=by
 have hn:H a=none:=S.fresh ha;refine ⟨_,H.upd a (.list vs),T,.ref _,Im.Le.refl T,?_,⟨rfl,rfl⟩,h.2 _ hn⟩;refine ⟨S'.cJ,S'.fr,λb ob' e=>?_,S'.eY,S'.jy⟩;unfold Hp.upd at e;by_cases hb:b=a
 ·subst hb;rw [Po rfl] at e;cases e;exact ⟨⟨_,ho,.list hv h.1⟩,λq=>absurd S.lt (by rw [<- q];exact QK.mpr ha),S.kZ ha⟩
 ·rw [Pf hb] at e;exact S'.own b ob' e
theorem xd (op:Operator):match kG op with | some .add=>op=.Add | some .mul=>op=.Mult | _=>True:=by cases op<;>first | exact rfl | exact True.intro
theorem yq {op:Operator} (h:kG op=some .mul):op=.Mult:=by have:=xd op;rw [h] at this;exact this
theorem yu {op:Operator} (h:kG op=some .add):op=.Add:=by have:=xd op;rw [h] at this;exact this
def pC {op:Operator} {o:gD} {v u:V} {val wal:Value} {Q:V->Hp->Prop}:Prop:=∀(S:aJ x s.heap ρ H T) (ho:kG op=some o) (hv:VR T v val) (hu:VR T u wal) (h:au o v u H Q),wpAny (model prog w) A (binaryOp op val wal) (bf x ρ T s Q) E s
theorem Es {op:Operator} {o:gD} {v u:V} {val wal:Value} {Q:V->Hp->Prop}:@pC prog w A E s x ρ H T op o v u val wal Q:=ao (S:=λx:(Program×World×Around×(Value->Shared->Prop))×(Shared×Fx×Lc×Hp)×(Im×Operator×gD×V)×(V×Value×Value×(V->Hp->Prop))=>@pC x.1.1 x.1.2.1 x.1.2.2.1 x.1.2.2.2 x.2.1.1 x.2.1.2.1 x.2.1.2.2.1 x.2.1.2.2.2 x.2.2.1.1 x.2.2.1.2.1 x.2.2.1.2.2.1 x.2.2.1.2.2.2 x.2.2.2.1 x.2.2.2.2.1 x.2.2.2.2.2.1 x.2.2.2.2.2.2) (x:=((default,dW,{},λ_ _=>True),({},uK,[],λ_=>none),(λ_=>none,.Add,.add,.none),(.none,default,default,λ_ _=>True))) (by
 refine (?_:∀prog w A E s x ρ H T op o v u val wal Q,@pC prog w A E s x ρ H T op o v u val wal Q) _ _ _ _ _ _ _ _ _ _ _ _ _ _ _ _;intro prog w A E s x ρ H T op o v u val wal Q S ho hv hu h
 cases h with
 | int h=>
  refine hv.ei λ_=>?_;refine hu.ei λ_=>?_;exact Ei ho h λz hz=>bf.keep S (.int _ _) hz
 | @rep a y n hy hn h=>
  refine hv.er ?_;refine hu.ei λ_=>?_;cases yq ho;refine ed (S.list hy) λxs k g1 g2 g3 g4=>?_;obtain ⟨y',rfl,a1⟩:=g2.one;obtain ⟨m,F,N,go⟩:=S.news
  have hl:n.toNat<=1000000:=by have:=hn.2;simp only [lim] at this;lia
  refine mul_list F N g1 (by have:=hn.1;exact Lz ‹_› (by rfl)) (by have:=hn.2;simp only [lim] at this;exact zl ‹_› (by rfl)) (by simp;exact zL (And.right ‹_›) (by rfl)) λh' F' N'=>?_;rw [show (List.foldl (λx1 x2=>x1++x2) #[] (List.replicate (if ([y'].toArray).isEmpty=true then 0 else n.toNat) [y'].toArray))=(List.replicate n.toNat y').toArray from (dy y' n.toNat #[]).trans (by simp)] at N';exact bf.newList (n:=0) S (go h' [_] F' N').1 (Pt _) (N' _ (PM ..)).1 (cA.replicate a1 _) h
 | cat h1 h2 h=>
  refine hv.er ?_;refine hu.er ?_;cases yu ho;refine ed (S.list h1) λxs' k g1 g2 g3 g4=>?_;refine ed (S.list h2) λys' k' f1 f2 f3 f4=>?_;obtain ⟨m,F,N,go⟩:=S.news
  refine add_lists F N g4 f4 (λh' F' N'=>bf.newList (n:=0) S (go h' [_] F' N').1 (Pt _) (N' _ (PM ..)).1 (g2.append f2) h) (by have:=g2.length;have:=f2.length;have:=gZ;have:=h.1;simp only [Pg] at this;lia)) ((prog,w,A,E),(s,x,ρ,H),(T,op,o,v),(u,val,wal,Q))
end
section
variable {x:Fx} {h h':Heap} {ρ:Lc} {H:Hp} {T:Im}
theorem aJ.Jd (S:aJ x h ρ H T) {m:Str->Option Value} (hl:∀i v,getL ρ i=some v->∃n val,x.ns[i]?=some n/\ky x.env m h n val/\VR T v val)
 (F:Fr x.h₀ x.env.locals h m) (F':Fr x.h₀ x.env.locals h' m) {a:Addr} {ob ob':Ob} {o':Obj} (ha:H a=some ob)
 (k:∀b o,b≠x.env.locals->b≠a->h.get? b=some o->h'.get? b=some o) (ho:h'.get? a=some o') (hr:OR x.ca T ob' o'):aJ x h' ρ (H.upd a ob') T:=by
 refine dH (S.own a ob ha) ?_;rintro ⟨o,e1,e2⟩ e3 e4
 have kc:∀{c v},h.IsCell c v->h'.IsCell c v:=λ{c v} hc=>by
  refine aq hc λoc c1 c2=>?_;refine ⟨oc,k _ _ (λq=>?_) (λq=>?_) c1,c2⟩
  ·exact nU F.ns (q ▸ hc)
  ·subst q;rw [e1] at c1;cases c1;exact e2.gb v c2
 refine ⟨S.cJ,⟨m,F',λi v e=>?_⟩,λb ob e=>?_,λb ob e=>?_,λn c hn=>?_⟩
 ·refine fB (hl i v e) λn val q1 q2 q3=>?_;refine ⟨n,val,q1,?_,q3⟩;rcases q2 with s | ⟨p1,c,p2,p3⟩
  ·exact .inl s
  ·exact .inr ⟨p1,c,p2,kc p3⟩
 ·unfold Hp.upd at e;by_cases hb:b=a
  ·subst hb;rw [Po rfl] at e;cases e;exact ⟨⟨o',ho,hr⟩,e3,e4⟩
  ·rw [Pf hb] at e;refine dH (S.own b ob e) ?_;rintro ⟨o2,q1,q2⟩ q3 q4;exact ⟨⟨o2,k _ _ q3 hb q1,q2⟩,q3,q4⟩
 ·have:=S.eY b ob e;refine ⟨k _ _ (λq=>?_) (λq=>?_) this.1,this.2⟩
  ·rw [q,S.kQ S.jO F.ns] at e;cases e
  ·subst q;rw [e1] at this;cases this.1;rcases this.2 with hi | hb
   ·exact e2.th hi
   ·rw [S.iz e4] at hb;cases hb
 ·refine aq (S.jy n c hn) λv a3 a4=>?_;exact ⟨v,kc a3,a4⟩
noncomputable def jd (h₀ h:Heap) (L d:Addr):List (Addr×Obj):=(gC h₀ h L).filter λp=>p.1 !=d
theorem qf {h₀ h:Heap} {L d:Addr}:∀p∈jd h₀ h L d,p.1≠d:=λp hp=>by
 have:=(Sw.mp hp).2;simpa using this
theorem aJ.turns (S:aJ x h ρ H T) {a:Addr} {ob:Ob} (ha:H a=some ob):∃m o,h.get? a=some o/\OR x.ca T ob o/\Fr x.h₀ x.env.locals h m/\News x.h₀ x.env.locals h ((a,o)::jd x.h₀ h x.env.locals a)/\
 (∀o',Upd a o o' ((a,o)::jd x.h₀ h x.env.locals a) ((a,o')::jd x.h₀ h x.env.locals a))/\
 (∀h' o' ob',Fr x.h₀ x.env.locals h' m->News x.h₀ x.env.locals h' ((a,o')::jd x.h₀ h x.env.locals a)->OR x.ca T ob' o'->aJ x h' ρ (H.upd a ob') T):=by
 refine dH (S.own a ob ha) ?_;rintro ⟨o,e1,e2⟩ e3 e4;obtain ⟨m,F,hl⟩:=S.fr;refine ⟨m,o,e1,e2,F,λp hp=>?_,λo'=>.head qf,λh' o' ob' F' N' hr=>?_⟩
 ·rcases RH.mp hp with rfl | hp
  ·exact ⟨e1,e3,e4⟩
  ·exact qe _ _ _ p (Sw.mp hp).1
 ·refine S.Jd hl F F' ha (λb ob hb hba e=>?_) (N' _ (PM ..)).1 hr
  cases q:x.h₀.get? b with
  | some o'=>have:=F.keep b o' q;rw [e] at this;cases this;exact F'.keep b _ q
  | none=>exact (N' (b,ob) (PQ _ (Sw.mpr ⟨eN.mpr ⟨e,hb,q⟩,by simpa using hba⟩))).1
end
section
variable {prog:Program} {w:World} {A:Around} {E:Value->Shared->Prop} {s:Shared} {x:Fx} {ρ:Lc} {H:Hp} {T:Im}
theorem ou {i:Int} {n:Nat} (h0:0<=i) (h:i.toNat<n):seqIndex? i n=some i.toNat:=by
 unfold seqIndex?;simp only [Pf (show ¬i<0 by exact Int.not_lt.mpr ‹_›),show (decide (0<=i) && decide (i<(n:Int)))=true by simp;lia,if_true]
theorem mc (S:aJ x s.heap ρ H T) {v u:V} {val wal:Value} (hv:VR T v val) (hu:VR T u wal) {Q:V->Hp->Prop} (h:aN v u H Q) :
 wpAny (model prog w) A (getItem val wal) (bf x ρ T s Q) E s:=by
 cases h with
 | ref hy h0 h1 h2=>
  refine hv.er ?_;refine hu.ei λ_=>?_;refine ed (S.list hy) λxs k g1 g2 g3 g4=>?_;refine aq (g2.get h1) λz z1 z2=>?_;have hlt:=(Pz.mp h1).1;exact wpAny_getItem_list g4 h0 (by simp only [lim] at g3;lia) (by simpa using z1) (bf.g7 S z2 h2)
 | tup h0 h1 h2=>
  refine hu.ei λ_=>?_;refine hv.et λ_ _ t1 l1 t2=>?_
  ·refine aq (t2.get h1) λz z1 z2=>?_;have hlt:=(Pz.mp z1).1;have hlen:=t2.length;exact getItem_tuple ⟨_,(S.eY _ _ t1).1,rfl,_,rfl⟩ (by exact Lz ‹_› (by rfl)) (by lia) (ou h0 (by simpa using hlt)) (by simpa using z1) (bf.g7 S z2 h2)
 | nG h0 h1 h2=>
  refine hu.ei λ_=>?_;refine hv.ef λ_ _ _ _ t1 c1 d1 l1 t2=>?_
  ·refine aq (t2.get h1) λz z1 z2=>?_;have hlt:=(Pz.mp h1).1;exact wpAny_getItem_list ⟨_,(S.eY _ _ t1).1,c1,_,d1⟩ h0 (by lia) (by simpa using z1) (bf.g7 S z2 h2)
theorem B8 (S:aJ x s.heap ρ H T) {v u:V} {val wal:Value} (hv:VR T v val) (hu:VR T u wal) {Q:V->Hp->Prop} (h:aN v u H Q) {value slice:PySem.Expr}
 (hs:∀a b,subscripted slice false a b=operate [a,b] (getItem a b)):wpAny (model prog w) A (subscriptTail value slice val wal) (bf x ρ T s Q) E s:=by
 have g:=mc (prog:=prog) (w:=w) (A:=A) (E:=E) S hv hu h;revert g
 cases h with
 | ref hy=>exact hv.er λg=>ed (S.list hy) λxs k g1 g2 g3 g4=>tail_any g4.typeIs slot_list_getitem.lookup g (hs _ _)
 | tup=>exact hv.et λ_ _ t1 l1 t2 g=>tail_any (T:="tuple") ⟨_,(S.eY _ _ t1).1,rfl⟩ slot_tuple_getitem.lookup g (hs _ _)
 | nG=>exact hv.ef λ_ _ _ _ t1 c1 d1 l1 t2 g=>tail_any (T:="list") ⟨_,(S.eY _ _ t1).1,c1⟩ slot_list_getitem.lookup g (hs _ _)
inductive Part:V->Value->Option Int->Prop
 | none:Part .none .none none
 | int (i:Int) (t:Tok):Part (.int i) (.int i t) (some i)
theorem q0 (xs:List Value) {k:Int} (hk:0<=k):slicePick xs.toArray none (some k) none=(xs.take k.toNat).toArray:=by
 have:=slicePick_upto' xs.toArray k.toNat;rw [Rv hk] at this;simpa using this
theorem q6 (xs:List Value) {k:Int} (hk:0<=k):slicePick xs.toArray (some k) none none=(xs.drop k.toNat).toArray:=by
 have:=slicePick_from' xs.toArray k.toNat;rw [Rv hk] at this;simpa using this
theorem q7 (xs:List Value) {j k:Int} (hj:0<=j) (hk:j<=k):slicePick xs.toArray (some j) (some k) none=((xs.take k.toNat).drop j.toNat).toArray:=by
 rw [slicePick_plain]
 have e1:clipAt xs.toArray.size j=min j.toNat xs.length:=by have:=clipAt_nat xs.toArray.size j.toNat;rw [Rv hj] at this;simpa using this
 have e2:clipAt xs.toArray.size k=min k.toNat xs.length:=by have:=clipAt_nat xs.toArray.size k.toNat;rw [Rv (by lia)] at this;simpa using this
 simp only [Option.elim,e1,e2];congr 1;show (xs.drop (min j.toNat xs.length)).take (min k.toNat xs.length-min j.toNat xs.length)=_;rw [PySem.W.kmk_drop_min,List.drop_take];rcases Nat.le_total j.toNat xs.length with h1 | h1
 ·rw [Rm h1];rcases Nat.le_total k.toNat xs.length with h2 | h2
  ·rw [Rm h2]
  ·rw [Nat.min_eq_right h2,SR (by simp),SR (by simp;lia)]
 ·rw [List.drop_of_length_le h1];simp
theorem VR.pn {v:Value} (h:VR T .none v):IsPart v Option.none:=h.en IsPart.none
theorem VR.pi {i:Int} {v:Value} (h:VR T (.int i) v):IsPart v (some i):=h.ei λ_=>IsPart.int _ _
theorem Be (S:aJ x s.heap ρ H T) {a:Addr} {vs:List V} {xs:List Value} (g4:s.heap.IsList a xs.toArray) (g2:cA T vs xs) (g3:vs.length<=lim) {lo hi:V} {vl vu:Value} (hl:VR T lo vl) (hh:VR T hi vu) {Q:V->Hp->Prop} (h:E0 vs H Q lo hi) {value:PySem.Expr} {lower upper:Option PySem.Expr} {p:Pos} :
 wpAny (model prog w) A (subscriptTail value (.Slice lower upper none p) (.ref a) (.ref s.heap.objs.size)) (bf x ρ T s Q) E { s with heap:=s.heap.push { cls:=.type "slice",data:=.fields #[vl,vu,.none] } }:=by
 have S1:aJ x (s.heap.push { cls:=.type "slice",data:=.fields #[vl,vu,.none] }) ρ H T:=S.grow λb o e=>Heap.get?_push_of_some _ e
 have fin:∀{lo' hi':Option Int} {us:List V} {ys:List Value},IsPart vl lo'->IsPart vu hi'->slicePick xs.toArray lo' hi' none=ys.toArray->cA T us ys->c7 us H Q->
  wpAny (model prog w) A (subscriptTail value (.Slice lower upper none p) (.ref a) (.ref s.heap.objs.size)) (bf x ρ T s Q) E { s with heap:=s.heap.push { cls:=.type "slice",data:=.fields #[vl,vu,.none] } }:=by
  intro lo' hi' us ys pl pu e hr hn;refine tail_any (g4.push _).typeIs slot_list_getitem.lookup (wpAny_getItem_list_slice (st:=none) (g4.push _) (Heap.IsSliceOf.new ..) pl pu .none (by simp) ?_ (by have:=g2.length;have:=gZ;rw [Qp];lia)) (ops:=[.ref s.heap.objs.size,.ref a]) rfl;have S2:aJ x ((s.heap.push { cls:=.type "slice",data:=.fields #[vl,vu,.none] }).push { cls:=.type "list",data:=.seq (slicePick xs.toArray lo' hi' none) }) ρ H T:=S1.grow λb o e=>Heap.get?_push_of_some _ e;refine bf.newList (s:=s) (tk:=s.toks) (n:=0) S S2 (xs:=ys) ?_ ?_ hr hn
  ·show s.heap.objs.size<=(s.heap.push _).objs.size;rw [Heap.size_push];exact PK _ _
  ·rw [e];exact Heap.get?_push_size _ rfl
 cases h with
 | to h q=>exact fin hl.pn hh.pi (q0 xs h.1) (g2.take _) q
 | mid h q=>exact fin hl.pi hh.pi (q7 xs h.1 h.2.1) ((g2.take _).drop _) q
 | Mj h q=>exact fin hl.pi hh.pn (q6 xs h.1) (g2.drop _) q
theorem vF (S:aJ x s.heap ρ H T) {v lo hi:V} {val vl vu:Value} (hv:VR T v val) (hl:VR T lo vl) (hh:VR T hi vu) {Q:V->Hp->Prop} (h:dX v lo hi H Q) {value:PySem.Expr} {lower upper:Option PySem.Expr} {p:Pos} :
 wpAny (model prog w) A (subscriptTail value (.Slice lower upper none p) val (.ref s.heap.objs.size)) (bf x ρ T s Q) E { s with heap:=s.heap.push { cls:=.type "slice",data:=.fields #[vl,vu,.none] } }:=by
 cases h with
 | ref hy h=>
  refine hv.er ?_;refine ed (S.list hy) λxs k g1 g2 g3 g4=>?_;exact Be S g4 g2 g3 hl hh h
 | nG h=>
  exact hv.ef λ_ _ _ _ t1 c1 d1 l1 t2=>Be S ⟨_,(S.eY _ _ t1).1,c1,_,d1⟩ t2 (by simp only [lim];exact Pb ‹_› (by decide)) hl hh h
theorem lH (S:aJ x s.heap ρ H T) {v u y:V} {val wal yal:Value} (hv:VR T v val) (hu:VR T u wal) (hy:VR T y yal) {Q:Hp->Prop} (h:bT v u y H Q) :
 wpAny (model prog w) A (setItem val wal yal) (λ_=>yL x ρ T s Q) E s:=by
 cases h with
 | @mk a vs i hy' h0 hlt hq=>
  refine hv.er ?_;refine hu.ei λ_=>?_;refine ed (S.list hy') λxs k g1 g2 g3 g4=>?_;have hlen:=g2.length;refine ki_setAt g1 h0 (by simp only [lim] at g3;lia) (by simp;lia) ?_;refine ⟨_,T,Im.Le.refl T,S.upd (o':={ cls:=.type "list",data:=.seq (xs.set i.toNat yal).toArray k }) hy' (Heap.SameBut.update ..) ?_ (.list (g2.set hy _) (by simpa using g3)),⟨rfl,rfl⟩,hq⟩;rw [Heap.get?_update_self (Obj.mapSeq λx=>x.setIfInBounds i.toNat yal) g1 rfl];simp [Obj.mapSeq]
end
def cb:Prop:=∀{prog:Program} {w:World} {A:Around} {E:Value->Shared->Prop} {s:Shared} {l:Addr} {vs:List Value} {ns:List Int} {Q:Value->Shared->Prop},
 s.heap.IsList l vs.toArray->IntsAre vs ns->ns.length<=lim->
 (∀(h':Heap) (a:Addr) (vs':List Value) (ns':List Int) (e:Nat),(∀b o,s.heap.get? b=some o->h'.get? b=some o)->s.heap.objs.size<=a->h'.get? a=some { cls:=.type "list",data:=.seq vs'.toArray e }->
  IntsAre vs' ns'->ns'.Perm ns->(ns.length<64->ns'.Pairwise (·<=·))->Q (.ref a) { s with heap:=h' })->
 wpAny (model prog w) A (call (.builtin "sorted") [.ref l]) Q E s
theorem iY:∀{ns:List Int},(∀y∈ns,0<=y/\y<100)->PyData.weightAll (ns.map .int)<=9*ns.length
 | [],_=>by simp [PyData.weightAll]
 | a::r,h=>by
  have ih:=iY λy hy=>h y (PQ _ hy);have ha:=h a (PM ..)
  have hw:(PyData.int a).weight<=8:=by
   simp only [PyData.weight];split
   ·exact QV _ _
   ·rename_i h0
    have h0':a.natAbs≠0:=by simpa using h0
    have:a.natAbs.log2<7:=(Nat.log2_lt h0').mpr (by lia);exact Pa ‹_› (by decide)
  simp only [Qs,PyData.weightAll,List.length_cons];lia
theorem mP {ns:List Int} (h:∀y∈ns,0<=y/\y<100) (hl:ns.length<=100):(PyData.list (ns.map .int)).layable0=true:=by
 have hw:=iY h
 have e1:(PyData.list (ns.map .int)).canLay0=true:=by rw [PyData.canLay0];exact ke_canLayAll0 ns
 have e2:(PyData.list (ns.map .int)).depth<=64:=by rw [PyData.depth,ke_depthAll];exact QV _ _
 have e3:(PyData.list (ns.map .int)).weight<=2^20:=by rw [PyData.weight];lia
 unfold PyData.layable0;rw [e1,Px e2,Px e3];rfl
section
variable {prog:Program} {w:World} {A:Around} {E:Value->Shared->Prop} {s:Shared} {x:Fx} {ρ:Lc} {H:Hp} {T:Im}
theorem bf.wo {h':Heap} {tk:Nat} (S':aJ x h' ρ H T) {a:Addr} {vs:List V} {xs:List Value} {n:Nat} (hn:H a=none) (ha:a≠x.env.locals) (hb:x.h₀.get? a=none) (ho:h'.get? a=some { cls:=.type "list",data:=.seq xs.toArray n })
 (hv:cA T vs xs) {Q:V->Hp->Prop} (h:c7 vs H Q):bf x ρ T s Q (.ref a) { s with heap:=h',toks:=tk }:=by
 refine ⟨_,H.upd a (.list vs),T,.ref _,Im.Le.refl T,?_,⟨rfl,rfl⟩,h.2 _ hn⟩;refine ⟨S'.cJ,S'.fr,λb ob' e=>?_,S'.eY,S'.jy⟩;unfold Hp.upd at e;by_cases hb':b=a
 ·subst hb';rw [Po rfl] at e;cases e;exact ⟨⟨_,ho,.list hv h.1⟩,ha,hb⟩
 ·rw [Pf hb'] at e;exact S'.own b ob' e
theorem uP (S:aJ x s.heap ρ H T) {v u:V} {val wal:Value} (hv:VR T v val) (hu:VR T u wal) {Q:V->Hp->Prop} (h:dB v u H Q) :
 wpAny (model prog w) A (call (.builtin "list.append") [val,wal]) (bf x ρ T s Q) E s:=by
 cases h with
 | mk hy hl hq=>
  refine hv.er ?_;refine ed (S.list hy) λxs k g1 g2 g3 g4=>?_;have hlen:=g2.length;refine append_at (hsz:=by have:=gZ;rw [Qp];lia) g1 λh' hs ho=>?_;refine ⟨.none,_,T,.none,Im.Le.refl T,S.upd hy hs ho ?_,⟨rfl,rfl⟩,hq⟩;rw [show xs.toArray.push wal=(xs++ [wal]).toArray by simp];exact .list (g2.append (.cons hu .nil)) (by rw [Pg];exact hl)
theorem cA.zw {us:List V} {y:V} {xs:List Value} (h:cA T (us++ [y]) xs):∃p z,xs=p++ [z]/\cA T us p/\VR T y z:=by
 have h1:=h.take us.length;have h2:=h.drop us.length;rw [List.take_left'] at h1
 ·rw [List.drop_left'] at h2
  ·obtain ⟨z,e,hz⟩:=h2.one;exact ⟨_,z,by rw [<- e,Qw],h1,hz⟩
  ·rfl
 ·rfl
theorem CP (S:aJ x s.heap ρ H T) {v:V} {val:Value} (hv:VR T v val) {Q:V->Hp->Prop} (h:sP v H Q) :
 wpAny (model prog w) A (call (.builtin "list.pop") [val]) (bf x ρ T s Q) E s:=by
 cases h with
 | @mk a us y hy hq=>
  refine hv.er ?_;refine DW (S.turns hy) λm o g0 g1 F N U go=>?_;refine ed (IsList.of g1 g0) ?_;rintro xs n rfl g2 g3 g4;have hlen:=g2.length;obtain ⟨p,z,rfl,hp,hz⟩:=g2.zw;refine kl_pop F N (p:=p) (y:=z) (kpa_last z p) (U _) (by show (p++ [z]).length<=sizeLine;have:=gZ;lia) λh' F' N'=>?_;exact ⟨y,_,T,hz,Im.Le.refl T,go h' _ (.list us) F' N' (.list hp (by rw [Pg] at g3;exact Q6 g3)),⟨rfl,rfl⟩,hq⟩
theorem xb (S:aJ x s.heap ρ H T) {v u:V} {val wal:Value} (hv:VR T v val) (hu:VR T u wal) {Q:V->Hp->Prop} (h:kL v u H Q) :
 wpAny (model prog w) A (call (.builtin "list.index") [val,wal]) (bf x ρ T s Q) E s:=by
 cases h with
 | mk hy hn hx hl hb hq=>
  refine hv.er ?_;refine hu.ei λ_=>?_;refine ed (S.list hy) λxs k g1 g2 g3 g4=>?_;exact index_list_ints g4 (IntsAre.of g2 hn) (mP hb hl) hx (bf.keep S (.int _ _) hq)
theorem xD (S:aJ x s.heap ρ H T) {v u:V} {val wal:Value} (hv:VR T v val) (hu:VR T u wal) {Q:V->Hp->Prop} (h:kM v u H Q) :
 wpAny (model prog w) A (call (.builtin "list.count") [val,wal]) (bf x ρ T s Q) E s:=by
 cases h with
 | mk hy hn hq=>
  refine hv.er ?_;refine hu.ei λ_=>?_;refine ed (S.list hy) λxs k g1 g2 g3 g4=>?_;exact count_list_ints g4 (IntsAre.of g2 hn) (bf.keep S (.int _ _) hq)
noncomputable def ku:Bi->Value
 | .len=>.builtin "len"
 | .abs=>.builtin "abs"
 | .range=>.type "range"
 | .max=>.builtin "max"
 | .sorted=>.builtin "sorted"
 | .sum=>.builtin "sum"
 | .list=>.type "list"
theorem ue {a b c:Int} (ha:-1000000<=a/\a<=1000000) (hb:-1000000<=b/\b<=1000000) (hc:c=1\/c=-1) :
 Builtin.Range.small a b c=true/\Builtin.Range.rangeSize a b c=(cj a b c:Int):=by
 have hs:0<=Builtin.Range.rangeSize a b c/\Builtin.Range.rangeSize a b c<=2000000:=by
  unfold Builtin.Range.rangeSize
  rcases hc with rfl | rfl<;>simp<;>split<;>lia
 refine ⟨?_,by unfold cj;rw [Rv hs.1]⟩
 have fit:∀z:Int,-10000000<=z->z<=10000000->Builtin.Range.rangeFitsLong z=true:=λz h1 h2=>by
  unfold Builtin.Range.rangeFitsLong;simp;lia
 unfold Builtin.Range.small;rw [fit a (by lia) (by lia),fit b (by lia) (by lia),fit c (by lia) (by lia),fit _ (by lia:-10000000<=Builtin.Range.rangeSize a b c) (by lia)];rcases hc with rfl | rfl
 ·simp [fit (b+0) (by lia) (by lia),fit b (by lia) (by lia)]
 ·simp [fit (b+0) (by lia) (by lia),fit b (by lia) (by lia)]
theorem ox {h':Heap} {a b c:Int} {t u v:Tok} {tk:Nat} (S:aJ x s.heap ρ H T) (hh:h'=s.heap.push { cls:=.type "range",data:=.fields #[.int a t,.int b u,.int c v] })
 (ha:-1000000<=a/\a<=1000000) (hb:-1000000<=b/\b<=1000000) (hc:c=1\/c=-1) {Q:V->Hp->Prop} (h:Q (.fW a b c) H):bf x ρ T s Q (.ref s.heap.objs.size) { s with heap:=h',toks:=tk }:=by
 subst hh;have hS:=S.FT (h':=s.heap.push { cls:=.type "range",data:=.fields #[.int a t,.int b u,.int c v] }) (λb o e=>Heap.get?_push_of_some _ e) (Pt s.heap.objs.size) (Heap.get?_push_size _ rfl) (.inr ⟨_,rfl⟩);have:=ue ha hb hc;exact ⟨_,H,_,.fW (t:=t) (u:=u) (v:=v) (by simp [Im.upd]) this.1 this.2,hS.1,hS.2,⟨rfl,rfl⟩,h⟩
def sy {b:Bi} {vs:List V} {xs:List Value} {Q:V->Hp->Prop}:Prop:=∀(hsort:cb) (S:aJ x s.heap ρ H T) (hh:A.handled=none) (hv:cA T vs xs) (h:bY b vs H Q),wpAny (model prog w) A (call (ku b) xs) (bf x ρ T s Q) E s
theorem HV {b:Bi} {vs:List V} {xs:List Value} {Q:V->Hp->Prop}:@sy prog w A E s x ρ H T b vs xs Q:=ao (S:=λx:(Program×World×Around×(Value->Shared->Prop))×(Shared×Fx×Lc×Hp)×(Im×Bi×List V×List Value)×(V->Hp->Prop)=>@sy x.1.1 x.1.2.1 x.1.2.2.1 x.1.2.2.2 x.2.1.1 x.2.1.2.1 x.2.1.2.2.1 x.2.1.2.2.2 x.2.2.1.1 x.2.2.1.2.1 x.2.2.1.2.2.1 x.2.2.1.2.2.2 x.2.2.2) (x:=((default,dW,{},λ_ _=>True),({},uK,[],λ_=>none),(λ_=>none,.len,[],[]),λ_ _=>True)) (by
 refine (?_:∀prog w A E s x ρ H T b vs xs Q,@sy prog w A E s x ρ H T b vs xs Q) _ _ _ _ _ _ _ _ _ _ _ _ _;intro prog w A E s x ρ H T b vs xs Q hsort S hh hv h
 cases h with
 | @len a vs hy hq=>
  refine hv.e1 λ_ a1=>?_;refine a1.er ?_;refine ed (S.list hy) λxs k g1 g2 g3 g4=>?_;have hlen:=g2.length;refine len_list g4 (by simp only [lim] at g3;rw [Qp];lia) (bf.keep S (v:=.int vs.length) ?_ hq);rw [Qp,<- hlen];exact .int _ _
 | @JH vs hq=>
  refine hv.e1 λ_ a1=>?_;refine a1.ef λa o vals n t1 c1 d1 l1 t2=>?_
  ·have hlen:=t2.length;refine len_list (items:=vals.toArray) ⟨_,(S.eY _ _ t1).1,c1,_,d1⟩ (by rw [Qp];lia) (bf.keep S (v:=.int vs.length) ?_ hq);rw [Qp,<- hlen];exact .int _ _
 | @abs i hq=>
  refine hv.e1 λ_ a1=>?_;refine a1.ei λ_=>?_;refine call_abs_int λu tk=>bf.keep S (v:=.int i.natAbs) ?_ hq;rw [show (if i<0 then -i else i)=(i.natAbs:Int) by split<;>lia];exact .int _ _
 | @max i j hq=>
  refine hv.e2 λ_ _ a1 a2=>?_;refine a1.ei λ_=>?_;refine a2.ei λ_=>?_;obtain ⟨m,F,N,go⟩:=S.news;refine max_two_N hh F N λh' tk F' N'=>⟨.int (max i j),H,T,?_,Im.Le.refl T,(go h' [] F' N').1,⟨rfl,rfl⟩,hq⟩;rw [show (if j>i then j else i)=max i j by split<;>lia];exact .int _ _
 | Cr h hq=>
  refine hv.e1 λ_ a1=>?_;refine a1.ei λ_=>?_;exact call_range_1 (ox S rfl (by decide) h (.inl rfl) hq)
 | Fy h hq=>
  refine hv.e2 λ_ _ a1 a2=>?_;refine a1.ei λ_=>?_;refine a2.ei λ_=>?_;exact call_range_2 (ox S rfl h.1 h.2 (.inl rfl) hq)
 | Cq h hc hq=>
  subst hc;refine hv.e3 λ_ _ _ a1 a2 a3=>?_;refine a1.ei λ_=>?_;refine a2.ei λ_=>?_;refine a3.ei λ_=>?_;exact PySem.call_range_3 (by decide) (ox S rfl h.1 h.2 (.inr rfl) hq) (.inl (SO (by decide)))
 | sorted hy hn hq=>
  refine hv.e1 λ_ a1=>?_;refine a1.er ?_;refine ed (S.list hy) λxs k g1 g2 g3 g4=>?_;have hi:=IntsAre.of g2 hn;refine hsort g4 hi (hi.length ▸ g2.length ▸ g3) λh' a vs' ns' e hk ha ho hi' hp ho'=>?_;exact bf.newList (tk:=s.toks) S (S.grow hk) ha ho (cA.oK hi') (hq ns' hp ho')
 | @sum a vs ns hy hn hq=>
  refine hv.e1 λ_ a1=>?_;refine a1.er ?_;refine ed (S.list hy) λxs k g1 g2 g3 g4=>?_;obtain ⟨m,F,N,go⟩:=S.news;exact sumK hh F N g4 (IntsAre.of g2 hn) λh' tk t' F' N'=>⟨.int ns.sum,H,T,.int _ _,Im.Le.refl T,(go h' [] F' N').1,⟨rfl,rfl⟩,hq⟩
 | list hy hq=>
  refine hv.e1 λ_ a1=>?_;refine a1.er ?_;refine ed (S.list hy) λxs k g1 g2 g3 g4=>?_;obtain ⟨m,F,N,go⟩:=S.news;refine list_copyK F N g4 (λD c h' F' N' hD=>?_) (by have:=g2.length;have:=gZ;rw [Qp];lia);have N1:=N' _ (PM ..)
  have hn:H D=none:=by
   cases e:H D with
   | none=>rfl
   | some ob=>
    refine dH (S.own D ob e) ?_;rintro ⟨o,e1,_⟩ e2 e3;exact absurd (hD (D,o) (eN.mpr ⟨e1,e2,e3⟩)) (Qr _)
  exact bf.wo (tk:=s.toks) (go h' [_] F' N').1 hn N1.2.1 N1.2.2 N1.1 g2 hq) ((prog,w,A,E),(s,x,ρ,H),(T,b,vs,xs),Q)
end
structure t7 (K:Frag) (ca:Nat->Addr):Prop where
 get:∀c,c<3->∀n,n<attrs.length->plainGet K (ca c) (an n)=true/\findIn K (.ref (ca c)) (an n)=some none/\takerIn K (ca c) (an n)=some none
 dict:∀c,c<3->hasDictIn K (ca c)=true/\plainOver K (ca c)=true/\findIn K (.ref (ca c)) "__setattr__"=some (some (.builtin "object.__setattr__"))
theorem Aw {T:Im} {n:Nat} (hn:n<attrs.length) {fs:List (Nat×V)} {es:List DictEntry} (h:DR T fs es):∀{v:V},eZ n fs=some v->∃val,PySem.W.getL (an n) es=some (some val)/\VR T v val:=by
 induction h with
 | nil=>exact λh=>nomatch h
 | @cons k v0 hs t y fs es l a b ih=>
  intro v h;unfold eZ at h;unfold PySem.W.getL;by_cases e:k=n
  ·rw [Po e] at h;cases h;subst e;refine ⟨y,?_,a⟩;rw [List.find?_cons_of_pos (by simp [Value.isStr])]
  ·rw [Pf e] at h;refine aq (ih h) λval h1 h2=>?_;refine ⟨val,?_,h2⟩;have hk:(Value.str (an k) t).isStr (an n)=false:=Ru.mpr λq=>e (yE k n l hn q);rw [List.find?_cons_of_neg (Bool.not_eq_true _ ▸ hk)];exact h1
theorem uh {T:Im} {fs:List (Nat×V)} {es:List DictEntry} (h:DR T fs es):es.any (·.refKey)=false:=by
 induction h with
 | nil=>rfl
 | cons _ _ _ ih=>rw [List.any_cons,ih];rfl
theorem uE {T:Im} {n:Str} {fs:List (Nat×V)} {es:List DictEntry} (h:DR T fs es):(PySem.W.getL n es).isSome=true:=by
 unfold PySem.W.getL;split
 ·rfl
 ·rw [uh h];rfl
theorem zR {T:Im} {n:Nat} (hn:n<attrs.length) {hs:Int} {t:Tok} {v:V} {val:Value} (hv:VR T v val) {fs:List (Nat×V)} {es:List DictEntry} (h:DR T fs es) :
 DR T (gu n v fs) (putL (an n) hs (.str (an n) t) val es):=by
 induction h with
 | nil=>exact .cons hn hv .nil
 | @cons k v0 hs' t' y fs es l a b ih=>
  unfold gu putL;by_cases e:k=n
  ·rw [Po e,Po (by rw [e];simp [Value.isStr])];subst e;exact .cons l hv b
  ·have hk:(Value.str (an k) t').isStr (an n)=false:=Ru.mpr λq=>e (yE k n l hn q);rw [Pf e,Pf (Bool.not_eq_true _ ▸ hk)];exact .cons l a ih
theorem kh (n:Str) (hs:Int) (k v:Value):∀es:List DictEntry,(putL n hs k v es).length<=es.length+1
 | []=>by simp [putL]
 | e::r=>by
  unfold putL;have:=kh n hs k v r
  split<;>simp only [List.length_cons]<;>lia
section
variable {prog:Program} {w:World} {A:Around} {E:Value->Shared->Prop} {s:Shared} {x:Fx} {ρ:Lc} {H:Hp} {T:Im} {K:Frag}
theorem uD {v:V} {val:Value} (h:VR T v val):handedIn val=true:=by cases h<;>rfl
def my {v:V} {val:Value} {n:Nat} {expr:Bool} {Q:V->Hp->Prop}:Prop:=∀(X:K.In x.base) (C:t7 K x.ca) (S:aJ x s.heap ρ H T) (hv:VR T v val) (hn:n<attrs.length) (h:dM v n H Q),wpAny (model prog w) A (getAttr val (an n) expr) (bf x ρ T s Q) E s
theorem tZ {v:V} {val:Value} {n:Nat} {expr:Bool} {Q:V->Hp->Prop}:@my prog w A E s x ρ H T K v val n expr Q:=ao (S:=λx:(Program×World×Around×(Value->Shared->Prop))×(Shared×Fx×Lc×Hp)×(Im×Frag×V×Value)×(Nat×Bool×(V->Hp->Prop))=>@my x.1.1 x.1.2.1 x.1.2.2.1 x.1.2.2.2 x.2.1.1 x.2.1.2.1 x.2.1.2.2.1 x.2.1.2.2.2 x.2.2.1.1 x.2.2.1.2.1 x.2.2.1.2.2.1 x.2.2.1.2.2.2 x.2.2.2.1 x.2.2.2.2.1 x.2.2.2.2.2) (x:=((default,dW,{},λ_ _=>True),({},uK,[],λ_=>none),(λ_=>none,[],.none,default),(0,false,λ_ _=>True))) (by
 refine (?_:∀prog w A E s x ρ H T K v val n expr Q,@my prog w A E s x ρ H T K v val n expr Q) _ _ _ _ _ _ _ _ _ _ _ _ _ _ _;intro prog w A E s x ρ H T K v val n expr Q X C S hv hn h
 cases h with
 | mk hy hz hf hq=>
  refine hv.er ?_;refine aD (S.own _ _ hy) ?_;rintro ⟨o,e1,e2⟩ _;refine aD (S.own _ _ hz) ?_;rintro ⟨od,d1,d2⟩ _
  cases e2 with
  | inst hc=>
   cases d2 with
   | dict hd=>
    refine aq (Aw hn hd hf) λval g1 g2=>?_;obtain ⟨m,F,_⟩:=S.fr;have cg:=C.get _ hc _ hn
    exact get_own F (X.keeps S.cJ) ⟨e1,rfl,rfl,d1⟩ cg.1 (C.dict _ hc).1 cg.2.1 rfl g1 (uD g2) (bf.keep S g2 hq)) ((prog,w,A,E),(s,x,ρ,H),(T,K,v,val),(n,expr,Q))
def gQ {v y:V} {val yal:Value} {n:Nat} {Q:Hp->Prop}:Prop:=∀(X:K.In x.base) (C:t7 K x.ca) (S:aJ x s.heap ρ H T) (hv:VR T v val) (hy:VR T y yal) (hn:n<attrs.length) (h:bj v n y H Q),wpAny (model prog w) A (setAttr val (an n) yal) (λ_=>yL x ρ T s Q) E s
theorem lI {v y:V} {val yal:Value} {n:Nat} {Q:Hp->Prop}:@gQ prog w A E s x ρ H T K v y val yal n Q:=ao (S:=λx:(Program×World×Around×(Value->Shared->Prop))×(Shared×Fx×Lc×Hp)×(Im×Frag×V×V)×(Value×Value×Nat×(Hp->Prop))=>@gQ x.1.1 x.1.2.1 x.1.2.2.1 x.1.2.2.2 x.2.1.1 x.2.1.2.1 x.2.1.2.2.1 x.2.1.2.2.2 x.2.2.1.1 x.2.2.1.2.1 x.2.2.1.2.2.1 x.2.2.1.2.2.2 x.2.2.2.1 x.2.2.2.2.1 x.2.2.2.2.2.1 x.2.2.2.2.2.2) (x:=((default,dW,{},λ_ _=>True),({},uK,[],λ_=>none),(λ_=>none,[],.none,.none),(default,default,0,λ_=>True))) (by
 refine (?_:∀prog w A E s x ρ H T K v y val yal n Q,@gQ prog w A E s x ρ H T K v y val yal n Q) _ _ _ _ _ _ _ _ _ _ _ _ _ _ _ _;intro prog w A E s x ρ H T K v y val yal n Q X C S hv hy hn h
 cases h with
 | mk hi hz hl hq=>
  refine hv.er ?_;refine aD (S.own _ _ hi) ?_;rintro ⟨o,e1,e2⟩ _;refine DW (S.turns hz) λm od d1 d2 F N U go=>?_
  cases e2 with
  | inst hc=>
   cases d2 with
   | @dict _ es k hd=>
    have cg:=C.get _ hc _ hn;have cd:=C.dict _ hc;have hlen:=hd.length;refine set_dict F (X.keeps S.cJ) N ⟨e1,rfl,rfl,d1⟩ rfl cd.2.2 cd.2.1 cg.2.2 cd.1 (uE hd) rfl (U _) (by have:=kh (an n) (PyData.keyHash w.params (an n)) (.str (an n) (s.toks+1)) yal es;lia) λh' F' N'=>?_
    exact ⟨_,T,Im.Le.refl T,go h' _ _ F' N' (.dict (zR hn hy hd)),⟨rfl,rfl⟩,hq⟩) ((prog,w,A,E),(s,x,ρ,H),(T,K,v,y),(val,yal,n,Q))
end
structure Rn (prog:Program) (w:World) (K:Frag) (base:Heap) (ca fa:Nat->Addr) (A:Around) (Γ:Sg):Prop where
 tv:K.In base
 lim:base.NoLimit
 g:∃mg,base.Ns mainGlobals mg
 b:∃mb,base.Ns builtinsNs mb/\∀x,x≠("__name__":Str)->mb x=bootBuiltins x
 cls:t7 K ca
 Av:∀n i,de n gt=some (.int i)->∃t,nsIn K mainGlobals n=some (some (.int i t))
 As:∀n is,de n gt=some (.tup is)->∃a vals,nsIn K mainGlobals n=some (some (.ref a))/\K.lookup a=some { cls:=.type "tuple",data:=.seq vals.toArray }/\IntsAre vals is/\is.length<=1000
 IU:∀n k,de n gt=some (.fn k)->nsIn K mainGlobals n=some (some (.ref (fa k)))/\keepIn K (.ref (fa k))=true
 Ay:∀n c,de n gt=some (.cls c)->nsIn K mainGlobals n=some (some (.ref (ca c)))/\keepIn K (.ref (ca c))=true/\c<3
 IV:∀n b,de n gt=some (.bi b)->nsIn K mainGlobals n=some none/\bootBuiltins n=some (ku b)/\n≠("__name__":Str)
 xj:∀n g,de n gt=some g->(n == ("__debug__":Str))=false
 hh:A.handled=none
 un:A.units+100<cLine
 call:∀{E:Value->Shared->Prop} {s:Shared} {x:Fx} {ρ:Lc} {H:Hp} {T:Im} {f:Nat} {vs:List V} {xs:List Value} {Q:V->Hp->Prop},x.base=base->x.ca=ca->aJ x s.heap ρ H T->cA T vs xs->Γ f vs H Q->
  wpAny (model prog w) A (PySem.call (.ref (fa f)) xs) (bf x ρ T s Q) E s
 new:∀{E:Value->Shared->Prop} {s:Shared} {x:Fx} {ρ:Lc} {H:Hp} {T:Im} {c:Nat} {vs:List V} {xs:List Value} {Q:V->Hp->Prop},c<3->x.base=base->x.ca=ca->aJ x s.heap ρ H T->cA T vs xs->
  (∀a dx,H a=none->H dx=none->a≠dx->Γ (1000+c) (.ref a::vs) ((H.upd a (.inst c dx)).upd dx (.dict [])) λv H=>isNone v=true/\Q (.ref a) H)->
  wpAny (model prog w) A (PySem.call (.ref (ca c)) xs) (bf x ρ T s Q) E s
structure En (x:Fx) (sc:Scope) (ns:List Str):Prop where
 JC:x.ns=ns
 kind:x.env.scope.kind=.function
 glob:x.env.globals=mainGlobals
 blt:x.env.builtins=builtinsNs
 gl:∀n,sc.names.lookup n=some .globalImplicit->x.env.kindOf n=some .globalImplicit
 cf:∀n,sc.names.lookup n=some .cell\/sc.names.lookup n=some .free->(x.env.kindOf n=some .cell\/x.env.kindOf n=some .free)/\∃c,x.env.cells.lookup n=some c
 Mm:∀n∈ns,(n == ("__debug__":Str))=false/\(n == ("__classdict__":Str))=false
theorem fy {n:Str}:∀{ns:List Str} {i:Nat},ec n ns=some i->ns[i]?=some n
 | [],_,h=>by simp [ec] at h
 | m::r,i,h=>by
  unfold ec at h;by_cases e:(m == n)=true
  ·rw [Po e] at h;cases h;simp [eq_of_beq e]
  ·rw [Pf e] at h
   cases q:ec n r with
   | none=>rw [q] at h;cases h
   | some j=>rw [q] at h;simp at h;subst h;simpa using fy q
section
variable {prog:Program} {w:World} {A:Around} {E:Value->Shared->Prop} {s:Shared} {x:Fx} {ρ:Lc} {H:Hp} {T:Im} {K:Frag} {base:Heap} {ca fa:Nat->Addr} {Γ:Sg} {sc:Scope} {ns:List Str}
inductive t6 (x:Fx) (ρ:Lc) (T:Im) (s:Shared) (Q:List V->Hp->Prop) (vals:List Value) (s':Shared):Prop
 | mk (vs:List V) (H':Hp) (T':Im) (hv:cA T' vs vals) (le:T.Le T') (S:aJ x s'.heap ρ H' T') (go:jw s s') (q:Q vs H'):t6 x ρ T s Q vals s'
theorem bf.up {T':Im} {s' s'':Shared} {Q:V->Hp->Prop} {val:Value} (le:T.Le T') (hs:jw s s') (h:bf x ρ T' s' Q val s''):bf x ρ T s Q val s'':=by
 obtain ⟨v,H',T'',a,b,c,d,e⟩:=h;exact ⟨v,H',T'',a,le.trans b,c,⟨d.1.trans hs.1,d.2.trans hs.2⟩,e⟩
theorem bG {m:Sem Value} {P:V->Hp->Prop} {R:Value->Shared->Prop} (hm:wpAny (model prog w) A m (bf x ρ T s P) E s)
 (hf:∀v H' T' val s₁,T.Le T'->jw s s₁->aJ x s₁.heap ρ H' T'->VR T' v val->P v H'->R val s₁) :
 wpAny (model prog w) A m R E s:=
 wpAny_mono hm (λval s₁ ⟨v,H',T',a,b,c,d,e⟩=>hf v H' T' val s₁ b d c a e) λ_ _ h=>h
theorem qT {T':Im} {s₁:Shared} {m:Sem Value} {Q:V->Hp->Prop} (le:T.Le T') (hs:jw s s₁) (h:wpAny (model prog w) A m (bf x ρ T' s₁ Q) E s₁):wpAny (model prog w) A m (bf x ρ T s Q) E s₁:=
 wpAny_mono h (λ_ _ h=>h.up le hs) λ_ _ h=>h
theorem aJ.LA {h:Heap} (S:aJ x h ρ H T) {a:Addr} {o:Obj} (he:x.base.get? a=some o) (hi:mF o):∃T',T.Le T'/\T' a=some o/\aJ x h ρ H T':=by
 have ho:=S.keep a o he
 have le:T.Le (T.upd a o):=λb o' e=>by
  unfold Im.upd;by_cases hb:b=a
  ·subst hb;rw [Po rfl];have:=(S.eY b o' e).1;rw [ho] at this;exact this
  ·rw [Pf hb];exact e
 obtain ⟨m,F,hl⟩:=S.fr;refine ⟨T.upd a o,le,by simp [Im.upd],S.cJ,⟨m,F,λi v e=>?_⟩,λb ob e=>?_,λb o' e=>?_,S.jy⟩
 ·refine fB (hl i v e) λn val q1 q2 q3=>?_;exact ⟨n,val,q1,q2,q3.mono le⟩
 ·refine aD (S.own b ob e) ?_;rintro ⟨o2,q1,q2⟩ q3;exact ⟨⟨o2,q1,q2.mono le⟩,q3⟩
 ·unfold Im.upd at e;by_cases hb:b=a
  ·subst hb;rw [Po rfl] at e;cases e;exact ⟨ho,.inl hi⟩
  ·rw [Pf hb] at e;exact S.eY b o' e
theorem iu (R:Rn prog w K base ca fa A Γ) (N:En x sc ns) (hb:x.base=base) (S:aJ x s.heap ρ H T) {n:Str} {p:Pos} (hsc:(sc.names.lookup n == some .globalImplicit)=true) {g:Gl} (hg:de n gt=some g) {v:Value}
 (hv:nsIn K mainGlobals n=some (some v)) {Q:Value->Shared->Prop} (h:Q v s):wpAny (model prog w) A (eval (.Name n p) x.env) Q E s:=by
 obtain ⟨mg,hmg⟩:=R.g
 have hm:s.heap.Ns mainGlobals mg:=by
  refine AI hmg λo es ep a b c=>?_;exact ⟨o,es,ep,S.keep _ _ (by rw [hb];exact a),b,c⟩
 have e:mg n=some v:=mg_of (R.tv) hmg hv;exact Name_function_global N.kind (N.gl n (eq_of_beq hsc)) (loadGlobal_global (by rw [N.glob];exact hm) e h) (R.xj n g hg)
theorem sk (R:Rn prog w K base ca fa A Γ) (N:En x sc ns) (hb:x.base=base) (S:aJ x s.heap ρ H T) {n:Str} {p:Pos} (hsc:(sc.names.lookup n == some .globalImplicit)=true) {b:Bi} (hg:de n gt=some (.bi b))
 {Q:Value->Shared->Prop} (h:Q (ku b) s):wpAny (model prog w) A (eval (.Name n p) x.env) Q E s:=by
 obtain ⟨mg,hmg⟩:=R.g;obtain ⟨mb,hmb,hbo⟩:=R.b;have kp:∀{a m},base.Ns a m->s.heap.Ns a m:=λ⟨o,es,ep,a,b,c⟩=>⟨o,es,ep,S.keep _ _ (by rw [hb];exact a),b,c⟩;refine dH (R.IV n b hg) λh1 h2 h3=>?_;have e:mg n=none:=mg_none_of (R.tv) hmg h1;exact Name_function_global N.kind (N.gl n (eq_of_beq hsc)) (loadGlobal_builtin (by rw [N.glob];exact kp hmg) e (by rw [N.blt];exact kp hmb) ((hbo n h3).trans h2) h) (R.xj n _ hg)
theorem ki (N:En x sc ns) (S:aJ x s.heap ρ H T) {n:Str} {i:Nat} (hi:ec n ns=some i) {v:V} (hv:getL ρ i=some v) {Q:Value->Shared->Prop} (h:∀val,VR T v val->Q val s) :
 wpAny (model prog w) A (loadName x.env n) Q E s:=by
 obtain ⟨m,F,hl⟩:=S.fr;refine fB (hl i v hv) λn' val h1 h2 h3=>?_;have hn:=fy hi;rw [N.JC,hn] at h1;cases h1;have hd:=N.Mm n (PY hn);rcases h2 with ⟨a,b⟩ | ⟨a,c,b,d⟩
 ·exact wpAny_loadName_local N.kind a F.ns b (h _ h3)
 ·rcases a with a | a
  ·exact wpAny_loadName_cell N.kind a b d (h _ h3)
  ·exact wpAny_loadName_free N.kind a b d (h _ h3) hd.2
theorem Dc (N:En x sc ns) (S:aJ x s.heap ρ H T) {n:Str} {p:Pos} {i:Nat} (hi:ec n ns=some i) {v:V} (hv:getL ρ i=some v) {Q:V->Hp->Prop} (h:Q v H) :
 wpAny (model prog w) A (eval (.Name n p) x.env) (bf x ρ T s Q) E s:=by
 have hd:=N.Mm n (PY (fy hi));exact wpAny_Name (ki N S hi hv λval hr=>bf.g7 S hr h) hd.1
theorem Ab (R:Rn prog w K base ca fa A Γ) (N:En x sc ns) (hb:x.base=base) (S:aJ x s.heap ρ H T) {n:Str} {p:Pos} {Q:V->Hp->Prop} (h:bp Γ (tW gt sc ns n) ρ H Q) :
 wpAny (model prog w) A (eval (.Name n p) x.env) (bf x ρ T s Q) E s:=by
 refine B2 h (λi hi h=>?_) λhsc g hg h=>?_
 ·refine aq (E7 h) λv hv h=>?_;exact Dc N S hi hv h
 ·cases g with
  | int i=>
   refine bI (R.Av n i hg) λt ht=>?_;exact iu R N hb S hsc hg ht (bf.g7 S (.int _ _) h)
  | tup is=>
   refine ed (R.As n is hg) λa vals h1 h2 h3 h4=>?_;refine gK (S.LA (by rw [hb];exact R.tv _ _ h2) (.inl ⟨_,_,rfl,rfl⟩)) λT' le ha S'=>?_;exact iu R N hb S hsc hg h1 ⟨.tup (is.map .int),H,T',.tup ha (by simpa using h4) (cA.oK h3),le,S',⟨rfl,rfl⟩,h⟩
  | _=>exact h.elim
end
section
variable (prog:Program) (w:World) (K:Frag) (base:Heap) (ca fa:Nat->Addr)
def PE (e:PySem.Expr):Prop:=∀{A:Around} {Γ:Sg} {x:Fx} {sc:Scope} {ns:List Str} {ρ:Lc} {H:Hp} {T:Im} {s:Shared} {E:Value->Shared->Prop} {Q:V->Hp->Prop},
 Rn prog w K base ca fa A Γ->En x sc ns->x.base=base->x.ca=ca->aJ x s.heap ρ H T->bp Γ (cE gt attrs sc ns e) ρ H Q->wpAny (model prog w) A (eval e x.env) (bf x ρ T s Q) E s
def Tr (P:Bool->Hp->Prop):V->Hp->Prop:=λv H=>match truthy v with
 | some b=>P b H
 | none=>False
inductive gj (x:Fx) (ρ:Lc) (T:Im) (s:Shared) (P:Bool->Hp->Prop) (b:Bool) (s':Shared):Prop
 | mk (H':Hp) (T':Im) (le:T.Le T') (S:aJ x s'.heap ρ H' T') (go:jw s s') (q:P b H'):gj x ρ T s P b s'
def PT (e:PySem.Expr):Prop:=∀{A:Around} {Γ:Sg} {x:Fx} {sc:Scope} {ns:List Str} {ρ:Lc} {H:Hp} {T:Im} {s:Shared} {E:Value->Shared->Prop} {P:Bool->Hp->Prop},
 Rn prog w K base ca fa A Γ->En x sc ns->x.base=base->x.ca=ca->aJ x s.heap ρ H T->bp Γ (cE gt attrs sc ns e) ρ H (Tr P)->wpAny (model prog w) A (isTrue e x.env (eval e x.env)) (gj x ρ T s P) E s
def BW (es:List PySem.Expr):Prop:=∀{A:Around} {Γ:Sg} {x:Fx} {sc:Scope} {ns:List Str} {ρ:Lc} {H:Hp} {T:Im} {s:Shared} {E:Value->Shared->Prop} {Q:List V->Hp->Prop},
 Rn prog w K base ca fa A Γ->En x sc ns->x.base=base->x.ca=ca->aJ x s.heap ρ H T->lh Γ (yX gt attrs sc ns es) ρ H Q->wpAny (model prog w) A (spliced (es.map λe=>(false,eval e x.env))) (t6 x ρ T s Q) E s
def PB (op:BoolOp) (es:List PySem.Expr):Prop:=∀{A:Around} {Γ:Sg} {x:Fx} {sc:Scope} {ns:List Str} {ρ:Lc} {H:Hp} {T:Im} {s:Shared} {E:Value->Shared->Prop} {Q:V->Hp->Prop} {pos:Pos},
 Rn prog w K base ca fa A Γ->En x sc ns->x.base=base->x.ca=ca->aJ x s.heap ρ H T->nX Γ op (yX gt attrs sc ns es) ρ H Q->
  wpAny (model prog w) A (boolOp pos op (evalEach es x.env)) (bf x ρ T s Q) E s
def Iq (op:BoolOp) (es:List PySem.Expr):Prop:=∀{A:Around} {Γ:Sg} {x:Fx} {sc:Scope} {ns:List Str} {ρ:Lc} {H:Hp} {T:Im} {s:Shared} {E:Value->Shared->Prop} {P:Bool->Hp->Prop},
 Rn prog w K base ca fa A Γ->En x sc ns->x.base=base->x.ca=ca->aJ x s.heap ρ H T->nX Γ op (yX gt attrs sc ns es) ρ H (Tr P)->
  wpAny (model prog w) A (allTrue op es x.env) (gj x ρ T s P) E s
def fU:Prop:=∀(x:Str) (xp:Pos) (it elt:PySem.Expr) (ifs:List PySem.Expr) (sc':Scope) (pos:Pos),ifs.length<=1->PE prog w K base ca fa it->PE prog w K base ca fa elt->(∀c∈ifs,PT prog w K base ca fa c)->
 PE prog w K base ca fa (.ListComp elt [⟨.Name x xp,it,ifs,0⟩] sc' pos)
end
section
variable {prog:Program} {w:World} {A:Around} {E:Value->Shared->Prop} {s:Shared} {x:Fx} {ρ:Lc} {H:Hp} {T:Im} {K:Frag} {base:Heap} {ca fa:Nat->Addr} {Γ:Sg} {sc:Scope} {ns:List Str}
theorem gj.up {T':Im} {s' s'':Shared} {P:Bool->Hp->Prop} {b:Bool} (le:T.Le T') (hs:jw s s') (h:gj x ρ T' s' P b s''):gj x ρ T s P b s'':=by
 obtain ⟨H',T'',b,c,d,e⟩:=h;exact ⟨H',T'',le.trans b,c,⟨d.1.trans hs.1,d.2.trans hs.2⟩,e⟩
theorem Jf {T':Im} {s₁:Shared} {m:Sem Bool} {P:Bool->Hp->Prop} (le:T.Le T') (hs:jw s s₁) (h:wpAny (model prog w) A m (gj x ρ T' s₁ P) E s₁):wpAny (model prog w) A m (gj x ρ T s P) E s₁:=
 wpAny_mono h (λ_ _ h=>h.up le hs) λ_ _ h=>h
theorem gj.keep (S:aJ x s.heap ρ H T) {P:Bool->Hp->Prop} {b:Bool} (h:P b H):gj x ρ T s P b s:=⟨H,T,Im.Le.refl T,S,⟨rfl,rfl⟩,h⟩
theorem fk {pos:Pos} {env:Env}:∀{es:List PySem.Expr},eF es=true->backTo pos (starEach es env)=es.map λe=>(false,eval e env)
 | [],_=>rfl
 | e::r,h=>by
  have h':eF r=true/\starEach (e::r) env=(false,eval e env)::starEach r env:=by
   cases e<;>first | exact ⟨h,rfl⟩ | cases h
  rw [h'.2];show (false,eval e env)::backTo pos (starEach r env)=_;rw [fk h'.1];rfl
theorem iF {env:Env} (es:List PySem.Expr):((es.map λe=>((false,eval e env):Bool×Sem Value)).any (·.1))=false:=by
 induction es with
 | nil=>rfl
 | cons e r ih=>rw [Qs,List.any_cons,ih];rfl
theorem pE {o:PySem.Expr} (h:f9 o=true) (n:Str) (env:Env) (whole:Sem Value):attributeBase o n env whole=whole:=by
 cases o<;>first | rfl | cases h
theorem sub_eq {sl:PySem.Expr} (h:g9 sl=false) (a b:Value):subscripted sl false a b=operate [a,b] (getItem a b):=by
 cases sl<;>first | rfl | cases h
theorem rq {e:PySem.Expr} (h:PE prog w K base ca fa e) (he:∀env whole,isTrue e env whole=(do let v <- whole;standAt e.pos;holding [v] (PySem.truthy v))):PT prog w K base ca fa e:=by
 intro A Γ x sc ns ρ H T s E P R N hb hc S hw;refine isTrue_plain ?_ (he _ _);refine bG (h R N hb hc S hw) λv H' T' val s₁ le hs S' hv hp=>?_;unfold Tr at hp;split at hp
 ·rename_i b hb';exact jB hv hb' (gj.up le hs (gj.keep S' hp))
 ·exact hp.elim
theorem qy {f:Value} {pos:Pos} {args:List PySem.Expr} (R:Rn prog w K base ca fa A Γ) (hb:x.base=base) (S:aJ x s.heap ρ H T) (hs:eF args=true) (hk:keepIn K f=true) {Q':List V->Hp->Prop} {Q:Value->Shared->Prop}
 (h:wpAny (model prog w) A (spliced (args.map λe=>(false,eval e x.env))) (t6 x ρ T s Q') E s)
 (hc:∀vs H' T' vals s₁,T.Le T'->jw s s₁->aJ x s₁.heap ρ H' T'->cA T' vs vals->Q' vs H'->wpAny (model prog w) A (PySem.call f vals) Q E s₁) :
 wpAny (model prog w) A (callWith pos f [] (backTo pos (starEach args x.env)) (backToKw pos (keywordEach [] x.env))) Q E s:=by
 rw [fk hs];have hX:∀{s₁:Shared} {H' T'},aJ x s₁.heap ρ H' T'->K.In s₁.heap:=λS' a o e=>S'.keep a o (by rw [hb];exact R.tv a o e)
 have fin:wpAny (model prog w) A (evalArgs f true (args.map λe=>(false,eval e x.env)) []) (λa s₁=>K.In s₁.heap/\wpAny (model prog w) A (PySem.call f ([]++a.pos) a.kw) Q E s₁) E s:=by
  cases args with
  | nil=>
   refine evalArgs_nil3 ?_;have h1:t6 x ρ T s Q' [] s\/True:=.inr trivial;refine ⟨hX S,?_⟩;have:=h;rw [List.map_nil] at this;have e:spliced ([]:List (Bool×Sem Value))=pure []:=rfl;rw [e] at this;intro Γ' p hΓ;obtain ⟨vs,H',T',a,b,c,d,q⟩:=this Γ' p hΓ;exact hc vs H' T' [] s b d c a q Γ' p hΓ
  | cons e r=>
   refine evalArgs_plain (wpAny_mono h (λvals s₁ h₁=>?_) λ_ _ h=>h);obtain ⟨vs,H',T',a,b,c,d,q⟩:=h₁;exact ⟨hX c,hc vs H' T' vals s₁ b d c a q⟩
 exact callWith_of (by rw [iF];rfl) (keeps_K hk) fin
end
section
variable {prog:Program} {w:World} {K:Frag} {base:Heap} {ca fa:Nat->Addr}
theorem xN {M:Model} {A:Around} {E:Value->Shared->Prop} {s:Shared} {b:Bi} {pos:Pos} {trees:List (Bool×Sem Value)} {Q:Value->Shared->Prop} (ha:(trees.any λx=>x.1)=false)
 (h:wpAny M A (evalArgs (ku b) true trees []) (λa s₁=>wpAny M A (PySem.call (ku b) ([]++a.pos) a.kw) Q E s₁) E s):wpAny M A (callWith pos (ku b) [] trees []) Q E s:=by
 cases b
 ·exact callWith_builtin ha h
 ·exact callWith_builtin ha h
 ·exact PyProof.Rows.callWith_type ha h
 ·exact callWith_builtin ha h
 ·exact callWith_builtin ha h
 ·exact callWith_builtin ha h
 ·exact PyProof.Rows.callWith_type ha h
theorem FQ {b:Bi} {H:Hp} {Q:V->Hp->Prop} (h:bY b [] H Q):False:=by
 cases h
theorem AP {n:Str} {np:Pos} {args:List PySem.Expr} {pos:Pos} (hsort:cb) (ih:BW prog w K base ca fa args):PE prog w K base ca fa (.Call (.Name n np) args [] pos):=by
 intro A Γ x sc ns ρ H T s E Q R N hb hc S hw;refine aD (gn hw) λ_ hw=>?_;refine aD (gn hw) λhlen hw=>?_;refine aD (Rk.mp hlen) λhlen hstar=>?_;obtain ⟨hsc,g,hg,hw⟩:=vg hw;refine wpAny_Call_Name_kw ?_
 cases g with
 | fn k=>
  refine aD (R.IU n k hg) λh1 h2=>?_;refine iu R N hb S hsc hg h1 ?_;refine qy R hb S hstar h2 (ih R N hb hc S hw) λvs H' T' vals s₁ le hs S' hv hq=>?_;exact qT le hs (R.call hb hc S' hv hq)
 | cls c=>
  refine dH (R.Ay n c hg) λh1 h2 h3=>?_;refine iu R N hb S hsc hg h1 ?_;refine qy R hb S hstar h2 (ih R N hb hc S hw) λvs H' T' vals s₁ le hs S' hv hq=>?_;exact qT le hs (R.new h3 hb hc S' hv hq)
 | bi b=>
  refine sk R N hb S hsc hg ?_;rw [fk hstar];have sp:=ih (E:=E) R N hb hc S hw
  cases args with
  | nil=>
   intro Γ' p hΓ;obtain ⟨vs,H',T',a,b',c,d,q⟩:=sp Γ' p hΓ;cases a;exact (FQ q).elim
  | cons e r=>
   refine xN (iF (env:=x.env) (e::r)) (evalArgs_plain (wpAny_mono sp (λvals s₁ h₁=>?_) λ_ _ h=>h));obtain ⟨vs,H',T',a,b',c,d,q⟩:=h₁;exact qT b' d (HV hsort c R.hh a q)
 | _=>exact hw.elim
theorem xr {env:Env} {pos:Pos} (args:List PySem.Expr) (hs:eF args=true) (hl:args.length<30) :
 ((backTo pos (starEach args env)).all (λx=>!x.1) && (backToKw pos (keywordEach [] env)).all (λx=>x.1.isSome) && decide (args.length+([]:List Keyword).length+(if ([]:List Keyword).isEmpty then 0 else 1)<30))=true:=by
 rw [fk hs]
 have:∀es:List PySem.Expr,((es.map λe=>((false,eval e env):Bool×Sem Value)).all λx=>!x.1)=true:=λes=>by
  induction es with
  | nil=>rfl
  | cons e r ih=>rw [Qs,List.all_cons,ih];rfl
 rw [this];exact Px (show args.length+0+0<30 from hl)
theorem wZ {v:V} {H:Hp} (h:DI v H):∃a vs,v=.ref a/\H a=some (.list vs):=by
 cases h with
 | mk h=>exact ⟨_,_,rfl,h⟩
theorem pop_list {v:V} {H:Hp} {Q:V->Hp->Prop} (h:Du Q v H):∃a vs,v=.ref a/\H a=some (.list vs):=by
 cases (show sP v H Q from h) with
 | mk e _=>exact ⟨_,_,rfl,e⟩
theorem oP {o y:PySem.Expr} {m:Str} {id:String} {apos pos:Pos} (slot:Slot "list" m id) (ty:typeOf (.builtin id)=pure (.type "method_descriptor")) (hp:f9 o=true) (hs:eF [y]=true) (hl:(apos.endLine == pos.line)=true)
 {A:Around} {Γ:Sg} {x:Fx} {sc:Scope} {ns:List Str} {ρ:Lc} {H:Hp} {T:Im} {s:Shared} {E:Value->Shared->Prop} {Q:V->Hp->Prop} {op:V->V->Hp->(V->Hp->Prop)->Prop}
 (ho:PE prog w K base ca fa o) (hy:PE prog w K base ca fa y)
 (hop:∀{s:Shared} {H:Hp} {T:Im} {v u:V} {val wal:Value},aJ x s.heap ρ H T->VR T v val->VR T u wal->op v u H Q->wpAny (model prog w) A (PySem.call (.builtin id) [val,wal]) (bf x ρ T s Q) E s)
 (R:Rn prog w K base ca fa A Γ) (N:En x sc ns) (hb:x.base=base) (hc:x.ca=ca) (S:aJ x s.heap ρ H T)
 (hw:bp Γ (cE gt attrs sc ns o) ρ H (tF op (bp Γ (cE gt attrs sc ns y) ρ) Q)) :
 wpAny (model prog w) A (eval (.Call (.Attribute o m apos) [y] [] pos) x.env) (bf x ρ T s Q) E s:=by
 refine wpAny_Call_method (pE hp _ _ _) (xr [y] hs (by simp)) hl PySem.F.plainAttrs_list slot ty ?_;refine bG (ho R N hb hc S hw) λv H' T' val s₁ le hs' S' hv hq=>?_;refine aD hq λhL hq=>?_;refine o8 (wZ hL) ?_;rintro a vs rfl hH;refine hv.er ?_;refine ed (S'.list hH) λxs k g1 g2 g3 g4=>?_;refine ⟨g4.typeIs,λa e=>?_,?_⟩
 ·cases e;exact ⟨_,g1,rfl⟩
 ·rw [fk hs];refine callWith_builtin rfl (evalArgs_plain ?_);refine spliced_cons (bG (hy R N hb hc S' hq) λu H'' T'' wal s₂ le2 hs2 S'' hu hq2=>spliced_nil ?_);exact qT (le.trans le2) ⟨hs2.1.trans hs'.1,hs2.2.trans hs'.2⟩ (hop S'' (.ref _) hu hq2)
theorem zV {o:PySem.Expr} {apos pos:Pos} (hp:f9 o=true) (hl:(apos.endLine == pos.line)=true)
 {A:Around} {Γ:Sg} {x:Fx} {sc:Scope} {ns:List Str} {ρ:Lc} {H:Hp} {T:Im} {s:Shared} {E:Value->Shared->Prop} {Q:V->Hp->Prop} (ho:PE prog w K base ca fa o)
 (R:Rn prog w K base ca fa A Γ) (N:En x sc ns) (hb:x.base=base) (hc:x.ca=ca) (S:aJ x s.heap ρ H T)
 (hw:bp Γ (cE gt attrs sc ns o) ρ H (Du Q)) :
 wpAny (model prog w) A (eval (.Call (.Attribute o ("pop":Str) apos) [] [] pos) x.env) (bf x ρ T s Q) E s:=by
 refine wpAny_Call_method (pE hp _ _ _) (xr [] rfl (by simp)) hl PySem.F.plainAttrs_list PySem.F.slot_list_pop PySem.F.type_list_pop ?_;refine bG (ho R N hb hc S hw) λv H' T' val s₁ le hs' S' hv hq=>?_;refine o8 (pop_list hq) ?_;rintro a vs rfl hH;refine hv.er ?_;refine ed (S'.list hH) λxs k g1 g2 g3 g4=>?_;refine ⟨g4.typeIs,λa e=>?_,callWith_builtin rfl (evalArgs_nil3 (qT le hs' (CP S' (.ref _) hq)))⟩;cases e;exact ⟨_,g1,rfl⟩
end
section
variable {prog:Program} {w:World} {K:Frag} {base:Heap} {ca fa:Nat->Addr}
theorem xE (c:Const) (k:Nat) (pos:Pos):PE prog w K base ca fa (.Constant c k pos):=by
 intro A Γ x sc ns ρ H T s E Q R N hb hc S hw
 cases c with
 | none=>exact wpAny_Constant_none (bf.g7 S .none hw)
 | bool b=>exact wpAny_Constant_bool (bf.g7 S (.bool _) hw)
 | int i=>exact wpAny_Constant_int (bf.keep S (.int _ _) hw)
 | _=>exact hw.elim
theorem HU {l r:PySem.Expr} {op:Operator} {pos:Pos} (hl:PE prog w K base ca fa l) (hr:PE prog w K base ca fa r):PE prog w K base ca fa (.BinOp l op r pos):=by
 intro A Γ x sc ns ρ H T s E Q R N hb hc S hw;refine aq (nZ hw) λo ho hw=>?_;refine wpAny_BinOp (bG (hl R N hb hc S hw) λv H' T' val s₁ le hs S' hv hq=>?_);refine bG (hr R N hb hc S' hq) λu H'' T'' wal s₂ le2 hs2 S'' hu hq2=>?_;exact qT (le.trans le2) ⟨hs2.1.trans hs.1,hs2.2.trans hs.2⟩ (Es S'' ho (hv.mono le2) hu hq2)
theorem DK {v:V} {H:Hp} {Q:V->Hp->Prop} (h:Dx Q v H):∃i,v=.int i/\Q (.int (Builtin.bitNot i)) H:=by
 delta Dx xa at h
 cases v with
 | int i=>exact ⟨i,rfl,h⟩
 | _=>exact h.elim
theorem CZ {v:V} {H:Hp} {Q:V->Hp->Prop} (h:Dv Q v H):∃i,v=.int i/\Q (.int (-i)) H:=by
 delta Dv oO at h
 cases v with
 | int i=>exact ⟨i,rfl,h⟩
 | _=>exact h.elim
theorem CX {v:V} {H:Hp} {Q:V->Hp->Prop} (h:wU Q v H):∃b,truthy v=some b/\Q (.bool (!b)) H:=by
 delta wU jc at h;generalize truthy v=o at h
 cases o with
 | some b=>exact ⟨b,rfl,h⟩
 | none=>exact h.elim
theorem xH {op:uT} {v w:V} {H:Hp} {Q:V->Hp->Prop} (h:wW op v Q w H):xI op v w H Q:=by delta wW bK at h;exact h
theorem za {op:UnaryOp} {y:PySem.Expr} {pos:Pos} (hy:PE prog w K base ca fa y):PE prog w K base ca fa (.UnaryOp op y pos):=by
 intro A Γ x sc ns ρ H T s E Q R N hb hc S hw
 cases op with
 | Invert=>
  refine wpAny_UnaryOp (bG (hy R N hb hc S hw) λv H' T' val s₁ le hs S' hv hq=>?_);refine aq (DK hq) ?_;rintro i rfl hp;exact hv.ei λ_=>qT le hs (invert_int (bf.keep S' (.int _ _) hp))
 | Not=>
  refine wpAny_UnaryOp (bG (hy R N hb hc S hw) λv H' T' val s₁ le hs S' hv hq=>?_);refine aq (CX hq) λb hb' hq=>?_;exact not_value (jB hv hb' (bf.up le hs (bf.g7 S' (.bool _) hq)))
 | USub=>
  refine wpAny_UnaryOp (bG (hy R N hb hc S hw) λv H' T' val s₁ le hs S' hv hq=>?_);refine aq (CZ hq) ?_;rintro i rfl hp;exact hv.ei λ_=>qT le hs (PyProof.Rows.neg_int (bf.keep S' (.int _ _) hp))
 | _=>exact hw.elim
theorem nO {l:PySem.Expr} {ops:List CmpOp} {rs:List PySem.Expr} {pos:Pos} {Γ:Sg} {sc:Scope} {ns:List Str} {ρ:Lc} {H:Hp} {Q:V->Hp->Prop} (hw:bp Γ (cE gt attrs sc ns (.Compare l ops rs pos)) ρ H Q) :
 ∃op r,ops=[op]/\rs=[r]/\behindInMarks op r=false/\∃o,AS op=some o/\bp Γ (cE gt attrs sc ns l) ρ H (Gp o (bp Γ (cE gt attrs sc ns r) ρ) Q):=by
 match ops,rs,hw with
 | op::ops,r::rs,hw=>
  refine aD (gn hw) λh hw=>?_;refine aq (nZ hw) λo ho hw2=>?_;rw [Pe,Pe,QZ,QZ,P4] at h;obtain ⟨⟨rfl,rfl⟩,h⟩:=h;exact ⟨op,r,rfl,rfl,h,o,ho,hw2⟩
 | [],_,hw=>exact hw.elim
 | _::_,[],hw=>exact hw.elim
theorem G2 {l:PySem.Expr} {ops:List CmpOp} {rs:List PySem.Expr} {pos:Pos} (hl:PE prog w K base ca fa l) (hr:∀r∈rs,PE prog w K base ca fa r):PE prog w K base ca fa (.Compare l ops rs pos):=by
 intro A Γ x sc ns ρ H T s E Q R N hb hc S hw;obtain ⟨op,r,rfl,rfl,hset,o,ho,hw⟩:=nO hw;refine wpAny_Compare1 (bG (hl R N hb hc S hw) λv H' T' val s₁ le hs S' hv hq=>?_) hset;refine bG (hr r (PC.mpr rfl) R N hb hc S' hq) λu H'' T'' wal s₂ le2 hs2 S'' hu hq2=>?_;exact xG S'' ho (hv.mono le2) hu R.un (xH hq2) λb hq2=>(bf.up (le.trans le2) ⟨hs2.1.trans hs.1,hs2.2.trans hs.2⟩ (bf.g7 S'' (.bool _) hq2))
theorem G1 {l:PySem.Expr} {ops:List CmpOp} {rs:List PySem.Expr} {pos:Pos} (hl:PE prog w K base ca fa l) (hr:∀r∈rs,PE prog w K base ca fa r):PT prog w K base ca fa (.Compare l ops rs pos):=by
 intro A Γ x sc ns ρ H T s E P R N hb hc S hw;obtain ⟨op,r,rfl,rfl,hset,o,ho,hw⟩:=nO hw;refine wpAny_isTrue_Compare1 (bG (hl R N hb hc S hw) λv H' T' val s₁ le hs S' hv hq=>?_) hset;refine bG (hr r (PC.mpr rfl) R N hb hc S' hq) λu H'' T'' wal s₂ le2 hs2 S'' hu hq2=>?_;exact xG S'' ho (hv.mono le2) hu R.un (xH hq2) λb hq2=>(wpAny_truthy_bool (gj.up (le.trans le2) ⟨hs2.1.trans hs.1,hs2.2.trans hs.2⟩ (gj.keep S'' hq2)))
theorem CV {P:Bool->Hp->Prop}:wU (Tr P)=Tr λb H=>P (!b) H:=by
 funext v H;delta wU jc;show (match truthy v with | some b=>P (!b) H | none=>False)=(match truthy v with | some b=>P (!b) H | none=>False);rfl
theorem BD {A B:Ev} {Q:K1}:JT A B Q=Tr λb H=>if b then A H Q else B H Q:=by
 funext v H;delta JT cz Tr;dsimp only
 cases truthy v with
 | none=>rfl
 | some b=>cases b<;>rfl
theorem FP {y:PySem.Expr} {pos:Pos} (hy:PT prog w K base ca fa y):PT prog w K base ca fa (.UnaryOp .Not y pos):=by
 intro A Γ x sc ns ρ H T s E P R N hb hc S hw;have hw:bp Γ (cE gt attrs sc ns y) ρ H (Tr λb H=>P (!b) H):=CV ▸ hw;exact wpAny_isTrue_Not (wpAny_mono (hy R N hb hc S hw) (λb s' ⟨H',T',a,b',c,d⟩=>⟨H',T',a,b',c,d⟩) λ_ _ h=>h)
theorem Gx {t a b:PySem.Expr} {pos:Pos} (ht:PT prog w K base ca fa t) (ha:PE prog w K base ca fa a) (hbb:PE prog w K base ca fa b):PE prog w K base ca fa (.IfExp t a b pos):=by
 intro A Γ x sc ns ρ H T s E Q R N hb hc S hw;have hw:bp Γ (cE gt attrs sc ns t) ρ H (Tr λc H=>if c then bp Γ (cE gt attrs sc ns a) ρ H Q else bp Γ (cE gt attrs sc ns b) ρ H Q):=BD ▸ hw;refine wpAny_IfExp (wpAny_mono (ht R N hb hc S hw) (λc s₁ ⟨H',T',le,S',hs,hq⟩=>?_) λ_ _ h=>h);cases c
 ·exact qT le hs (hbb R N hb hc S' hq)
 ·exact qT le hs (ha R N hb hc S' hq)
theorem Gw {t a b:PySem.Expr} {pos:Pos} (ht:PT prog w K base ca fa t) (ha:PT prog w K base ca fa a) (hbb:PT prog w K base ca fa b):PT prog w K base ca fa (.IfExp t a b pos):=by
 intro A Γ x sc ns ρ H T s E P R N hb hc S hw;have hw:bp Γ (cE gt attrs sc ns t) ρ H (Tr λc H=>if c then bp Γ (cE gt attrs sc ns a) ρ H (Tr P) else bp Γ (cE gt attrs sc ns b) ρ H (Tr P)):=BD ▸ hw;refine isTrue_IfExp (wpAny_mono (ht R N hb hc S hw) (λc s₁ ⟨H',T',le,S',hs,hq⟩=>?_) λ_ _ h=>h);cases c
 ·exact Jf le hs (hbb R N hb hc S' hq)
 ·exact Jf le hs (ha R N hb hc S' hq)
theorem Ey {o:PySem.Expr} {a:Str} {pos:Pos} (ho:PE prog w K base ca fa o):PE prog w K base ca fa (.Attribute o a pos):=by
 intro A Γ x sc ns ρ H T s E Q R N hb hc S hw;refine aD (gn hw) λhp hw=>?_;refine aq (nZ hw) λn hn hw2=>?_;have hn':=fy hn;have hlt:n<attrs.length:=(Pz.mp hn').1
 have ha:an n=a:=by unfold an;rw [Pc,hn'];rfl
 subst ha;refine Attribute_any_ (bG (ho R N hb hc S hw2) λv H' T' val s₁ le hs S' hv hq=>?_) ?_
 ·exact qT le hs (tZ (by rw [hb];exact R.tv) (by rw [hc];exact R.cls) S' hv hlt hq)
 ·show (do let o' <- attributeBase o (an n) x.env (eval o x.env);standAt pos.atName;let r <- holding [o'] (getAttr o' (an n) true);letTemporaryGo o o' r;pure r)=_;rw [pE hp]
theorem Fc {o i:PySem.Expr} {pos:Pos} (hi':g9 i=false) (ho:PE prog w K base ca fa o) (hi:PE prog w K base ca fa i):PE prog w K base ca fa (.Subscript o i pos):=by
 intro A Γ x sc ns ρ H T s E Q R N hb hc S hw
 have hw:bp Γ (cE gt attrs sc ns o) ρ H (Dq (bp Γ (cE gt attrs sc ns i) ρ) Q):=by
  cases i<;>first | exact hw | cases hi'
 refine Subscript_ (bG (ho R N hb hc S hw) λv H' T' val s₁ le hs S' hv hq=>?_);refine bG (hi R N hb hc S' hq) λu H'' T'' wal s₂ le2 hs2 S'' hu hq2=>?_;exact qT (le.trans le2) ⟨hs2.1.trans hs.1,hs2.2.trans hs.2⟩ (B8 S'' (hv.mono le2) hu hq2 (sub_eq hi'))
theorem zx {o:PySem.Expr} {lo hi:Option PySem.Expr} {p pos:Pos} (ho:PE prog w K base ca fa o) (hl:∀e,lo=some e->PE prog w K base ca fa e) (hh:∀e,hi=some e->PE prog w K base ca fa e) :
 PE prog w K base ca fa (.Subscript o (.Slice lo hi none p) pos):=by
 intro A Γ x sc ns ρ H T s E Q R N hb hc S hw;have hw:bp Γ (cE gt attrs sc ns o) ρ H (Md (bp Γ (cO gt attrs sc ns lo) ρ) (bp Γ (cO gt attrs sc ns hi) ρ) Q):=hw
 have part:∀{b:Option PySem.Expr} {H:Hp} {T:Im} {s:Shared} {Q:V->Hp->Prop},(∀e,b=some e->PE prog w K base ca fa e)->aJ x s.heap ρ H T->bp Γ (cO gt attrs sc ns b) ρ H Q->wpAny (model prog w) A (evalPart b x.env) (bf x ρ T s Q) E s:=by
  intro b H T s Q hb' S hw
  cases b with
  | none=>rw [evalPart_none];exact wpAny_pure (bf.g7 S .none hw)
  | some e=>exact hb' e rfl R N hb hc S hw
 refine Subscript_ (bG (ho R N hb hc S hw) λv H' T' val s₁ le hs S' hv hq=>?_);refine wpAny_Slice (bG (part hl S' hq) λu H'' T'' wal s₂ le2 hs2 S'' hu hq2=>?_);refine bG (part hh S'' hq2) λu3 H3 T3 val3 s₃ gw hs3 S3 hu3 hq3=>?_;rw [evalPart_none];refine wpAny_pure ?_;exact wpAny_mono (vF S3 ((hv.mono le2).mono gw) (hu.mono gw) hu3 hq3) (λ_ _ h=>h.up (le.trans (le2.trans gw)) ⟨hs3.1.trans (hs2.1.trans hs.1),hs3.2.trans (hs2.2.trans hs.2)⟩) λ_ _ h=>h
end
section
variable {prog:Program} {w:World} {K:Frag} {base:Heap} {ca fa:Nat->Addr}
theorem xA:BW prog w K base ca fa []:=by
 intro A Γ x sc ns ρ H T s E Q R N hb hc S hw;exact spliced_nil ⟨[],H,T,.nil,Im.Le.refl T,S,⟨rfl,rfl⟩,hw⟩
theorem tK {e:PySem.Expr} {r:List PySem.Expr} (he:PE prog w K base ca fa e) (hr:BW prog w K base ca fa r):BW prog w K base ca fa (e::r):=by
 intro A Γ x sc ns ρ H T s E Q R N hb hc S hw;refine spliced_cons (bG (he R N hb hc S hw) λv H' T' val s₁ le hs S' hv hq=>?_);refine wpAny_mono (hr R N hb hc S' hq) (λvals s₂ h₂=>?_) λ_ _ h=>h;obtain ⟨vs,H'',T'',a,b,c,d,q⟩:=h₂;exact ⟨v::vs,H'',T'',.cons (hv.mono b) a,le.trans b,c,⟨d.1.trans hs.1,d.2.trans hs.2⟩,q⟩
theorem E9 {es:List PySem.Expr} {k:Nat} {pos:Pos} (h:BW prog w K base ca fa es):PE prog w K base ca fa (.Tuple es k pos):=by
 intro A Γ x sc ns ρ H T s E Q R N hb hc S hw;refine aD (gn hw) λhs hw=>?_;refine Tuple_ ?_;rw [fk hs];exact wpAny_mono (h R N hb hc S hw) (λvals s₁ ⟨vs,H',T',a,b,c,d,q⟩=>qT b d (z9 c a q)) λ_ _ h=>h
theorem Ga {es:List PySem.Expr} {pos:Pos} (h:BW prog w K base ca fa es):PE prog w K base ca fa (.List es pos):=by
 intro A Γ x sc ns ρ H T s E Q R N hb hc S hw;refine aD (gn hw) λhs hw=>?_;refine List_ ?_;rw [fk hs];exact wpAny_mono (h R N hb hc S hw) (λvals s₁ ⟨vs,H',T',a,b,c,d,q⟩=>qT b d (Aa c a q)) λ_ _ h=>h
theorem El (pos:Pos) (op:BoolOp) (x:Sem Value):boolOp pos op [x]=x:=rfl
theorem su (pos:Pos) (op:BoolOp) (x y:Sem Value) (r:List (Sem Value)):boolOp pos op (x::y::r)=(do
 let v <- x
 standAt pos
 let t <- holding [v] (PySem.truthy v)
 match op,t with
 | .And,false | .Or,true=>pure v
 | _,_=>boolOp pos op (y::r)):=rfl
noncomputable def Gr (op:BoolOp) (R:Ev) (Q:K1):K1:=match op with
 | .And=>DG false R Q
 | .Or=>JQ false R Q
theorem yv {op:BoolOp} {Γ:Sg} {c c' r:E} {ρ:Lc} {H:Hp} {Q:K1} (h:nX Γ op (.cons c (.cons c' r)) ρ H Q):bp Γ c ρ H (Gr op (nX Γ op (.cons c' r) ρ) Q):=by cases op<;>exact h
theorem yx {op:BoolOp} {Γ:Sg} {c:E} {ρ:Lc} {H:Hp} {Q:K1} (h:nX Γ op (.cons c .nil) ρ H Q):bp Γ c ρ H Q:=by cases op<;>exact h
theorem yz {op:BoolOp} {Γ:Sg} {ρ:Lc} {H:Hp} {Q:K1} (h:nX Γ op .nil ρ H Q):False:=by cases op<;>exact h
theorem HT {op:BoolOp} {Γ:Sg} {es:E} {ρ:Lc} {H:Hp} {Q:K1} (h:bp Γ (cBool es op) ρ H Q):nX Γ op es ρ H Q:=by cases op<;>exact h
theorem BE {v:V} {A B:Prop} (h:cz v A B):∃t,truthy v=some t/\(match t with | true=>A | false=>B):=by
 delta cz at h;generalize truthy v=o at h
 match o,h with
 | some true,h=>exact ⟨_,rfl,h⟩
 | some false,h=>exact ⟨_,rfl,h⟩
 | none,h=>exact h.elim
noncomputable def lA (op:BoolOp) (t:Bool):Bool:=match op with
 | .And=>!t
 | .Or=>t
theorem HS {op:BoolOp} {R:Ev} {Q:K1} {v:V} {H:Hp} (h:Gr op R Q v H):∃t,truthy v=some t/\((lA op t=true/\Q v H)\/(lA op t=false/\R H Q)):=by
 cases op with
 | And=>
  refine aq (BE (show cz v (R H Q) (Q v H) from h)) λt e h=>?_;cases t
  ·exact ⟨_,e,.inl ⟨rfl,h⟩⟩
  ·exact ⟨_,e,.inr ⟨rfl,h⟩⟩
 | Or=>
  refine aq (BE (show cz v (Q v H) (R H Q) from h)) λt e h=>?_;cases t
  ·exact ⟨_,e,.inr ⟨rfl,h⟩⟩
  ·exact ⟨_,e,.inl ⟨rfl,h⟩⟩
theorem qB (pos:Pos) (op:BoolOp) (x y:Sem Value) (r:List (Sem Value)):boolOp pos op (x::y::r)=(do
 let v <- x
 standAt pos
 let t <- holding [v] (PySem.truthy v)
 if lA op t then pure v else boolOp pos op (y::r)):=by
 rw [su];refine congrArg (bind x) (funext λv=>congrArg (bind (standAt pos)) (funext λ_=>congrArg (bind (holding [v] (PySem.truthy v))) (funext λt=>?_)))
 cases op<;>cases t<;>rfl
theorem CT (op:BoolOp):PB prog w K base ca fa op []:=by
 intro A Γ x sc ns ρ H T s E Q pos R N hb hc S hw;exact (yz hw).elim
theorem z0 {op:BoolOp} {e:PySem.Expr} {r:List PySem.Expr} (he:PE prog w K base ca fa e) (hr:PB prog w K base ca fa op r):PB prog w K base ca fa op (e::r):=by
 intro A Γ x sc ns ρ H T s E Q pos R N hb hc S hw
 cases r with
 | nil=>exact he R N hb hc S (yx hw)
 | cons e' r=>
  show wpAny _ _ (boolOp pos op (eval e x.env::eval e' x.env::evalEach r x.env)) _ _ _;rw [qB];refine wpAny_bind (bG (he R N hb hc S (yv hw)) λv H' T' val s₁ le hs S' hv hq=>?_);refine aq (HS hq) λt ht hq=>?_;refine wpAny_bind (wpAny_standAt (wpAny_bind (wpAny_holding (jB hv ht ?_))));rcases hq with ⟨e,hq⟩ | ⟨e,hq⟩
  ·rw [e];exact wpAny_pure (bf.up le hs (bf.g7 S' hv hq))
  ·rw [e];exact qT le hs (hr (pos:=pos) R N hb hc S' hq)
theorem Ek {op:BoolOp} {es:List PySem.Expr} {pos:Pos} (h:PB prog w K base ca fa op es):PE prog w K base ca fa (.BoolOp op es pos):=by
 intro A Γ x sc ns ρ H T s E Q R N hb hc S hw;exact h (pos:=pos) R N hb hc S (HT hw)
theorem zZ (op:BoolOp):Iq prog w K base ca fa op []:=by
 intro A Γ x sc ns ρ H T s E P R N hb hc S hw;exact (yz hw).elim
theorem HR {op:BoolOp} {R:Ev} {P:Bool->Hp->Prop}:Gr op R (Tr P)=Tr λb H=>if lA op b then P b H else R H (Tr P):=by
 funext v H;delta Gr DG JQ cz Tr;dsimp only
 cases op<;>dsimp only<;>cases truthy v with
 | none=>rfl
 | some b=>cases b<;>rfl
theorem all_cons {M:Model} {A:Around} {E:Value->Shared->Prop} {op:BoolOp} {e:PySem.Expr} {r:List PySem.Expr} {env:Env} {Q:Bool->Shared->Prop} {s:Shared}
 (h:wpAny M A (isTrue e env (eval e env)) (λb s'=>if lA op b then Q b s' else wpAny M A (allTrue op r env) Q E s') E s):wpAny M A (allTrue op (e::r) env) Q E s:=by
 cases op
 ·refine wpAny_allTrue_And_cons (wpAny_mono h (λb s₁ h=>?_) λ_ _ h=>h)
  cases b<;>exact h
 ·refine wpAny_allTrue_Or_cons (wpAny_mono h (λb s₁ h=>?_) λ_ _ h=>h)
  cases b<;>exact h
theorem wa {op:BoolOp} {e:PySem.Expr} {r:List PySem.Expr} (he:PT prog w K base ca fa e) (hr:Iq prog w K base ca fa op r):Iq prog w K base ca fa op (e::r):=by
 intro A Γ x sc ns ρ H T s E P R N hb hc S hw
 cases r with
 | nil=>
  refine all_cons (wpAny_mono (he R N hb hc S (yx hw)) (λb s₁ h=>?_) λ_ _ h=>h);cases op
  ·cases b
   ·exact h
   ·exact wpAny_allTrue_And_nil h
  ·cases b
   ·exact wpAny_allTrue_Or_nil h
   ·exact h
 | cons e' r=>
  have hw:bp Γ (cE gt attrs sc ns e) ρ H (Gr op (nX Γ op (yX gt attrs sc ns (e'::r)) ρ) (Tr P)):=yv hw;rw [HR] at hw;refine all_cons (wpAny_mono (he R N hb hc S hw) (λb s₁ ⟨H',T',le,S',hs,hq⟩=>?_) λ_ _ h=>h);have hq:if lA op b=true then P b H' else nX Γ op (yX gt attrs sc ns (e'::r)) ρ H' (Tr P):=hq
  cases hb':lA op b with
  | true=>rw [hb'] at hq;exact gj.up le hs (gj.keep S' hq)
  | false=>rw [hb'] at hq;exact Jf le hs (hr R N hb hc S' hq)
theorem Ej {op:BoolOp} {es:List PySem.Expr} {pos:Pos} (h:Iq prog w K base ca fa op es):PT prog w K base ca fa (.BoolOp op es pos):=by
 intro A Γ x sc ns ρ H T s E P R N hb hc S hw;exact wpAny_isTrue_BoolOp (h R N hb hc S (HT hw))
theorem H7 {e:PySem.Expr} (h:∀sc ns,cE gt attrs sc ns e=.bad):PE prog w K base ca fa e:=by
 intro A Γ x sc ns ρ H T s E Q R N hb hc S hw;rw [h] at hw;exact hw.elim
theorem Ia {o:PySem.Expr} {m:Str} {ys:List PySem.Expr} {apos pos:Pos} (ho:PE prog w K base ca fa o) (hy:∀y∈ys,PE prog w K base ca fa y):PE prog w K base ca fa (.Call (.Attribute o m apos) ys [] pos):=by
 intro A Γ x sc ns ρ H T s E Q R N hb hc S hw;refine aD (gn hw) λ_ hw=>?_;refine aD (gn hw) λhp hw=>?_;rw [Pe,Pe] at hp
 match ys,hy,hp,hw with
 | [],_,hp,hw=>
  refine aD (gn hw) λhm hw=>?_;rw [eq_of_beq hm];exact zV hp.1.1 hp.2 ho R N hb hc S hw
 | [y],hy,hp,hw=>
  have hy:PE prog w K base ca fa y:=hy y (PC.mpr rfl);by_cases h1:(m == ("append":Str))=true
  ·have hw:bp Γ (if (m == ("append":Str))=true then _ else _) ρ H Q:=hw;rw [Po h1] at hw;rw [eq_of_beq h1];exact oP PySem.slot_list_append PySem.F.type_list_append hp.1.1 hp.1.2 hp.2 ho hy (λS a b h=>uP S a b h) R N hb hc S hw
  ·have hw:bp Γ (if (m == ("append":Str))=true then _ else _) ρ H Q:=hw;rw [Pf h1] at hw;by_cases h2:(m == ("index":Str))=true
   ·rw [Po h2] at hw;rw [eq_of_beq h2];exact oP PySem.F.slot_list_index PySem.F.type_list_index hp.1.1 hp.1.2 hp.2 ho hy (λS a b h=>xb S a b h) R N hb hc S hw
   ·rw [Pf h2] at hw;by_cases h3:(m == ("count":Str))=true
    ·rw [Po h3] at hw;rw [eq_of_beq h3];exact oP PySem.F.slot_list_count PySem.F.type_list_count hp.1.1 hp.1.2 hp.2 ho hy (λS a b h=>xD S a b h) R N hb hc S hw
    ·rw [Pf h3] at hw;exact hw.elim
 | _::_::_,_,_,hw=>exact hw.elim
end
section
variable {prog:Program} {w:World} {K:Frag} {base:Heap} {ca fa:Nat->Addr}
def fZ (prog:Program) (w:World) (K:Frag) (base:Heap) (ca fa:Nat->Addr) (e:PySem.Expr):Prop:=PE prog w K base ca fa e/\PT prog w K base ca fa e
theorem eS {e:PySem.Expr} (h:PE prog w K base ca fa e) (he:∀env whole,isTrue e env whole=(do let v <- whole;standAt e.pos;holding [v] (PySem.truthy v))):fZ prog w K base ca fa e:=⟨h,rq h he⟩
theorem jr {e:PySem.Expr} (h:∀sc ns,cE gt attrs sc ns e=.bad):fZ prog w K base ca fa e:=⟨H7 h,by
 intro A Γ x sc ns ρ H T s E P R N hb hc S hw
 rw [h] at hw;exact hw.elim⟩
theorem mj {elt:PySem.Expr} {gens:List Comprehension} {sc sc':Scope} {ns:List Str} {pos:Pos} {Γ:Sg} {ρ:Lc} {H:Hp} {Q:K1} (hw:bp Γ (cE gt attrs sc ns (.ListComp elt gens sc' pos)) ρ H Q) :
 ∃nm xp it ifs,gens=[⟨.Name nm xp,it,ifs,0⟩]/\ifs.length<=1:=by
 match gens,hw with
 | [],hw=>exact hw.elim
 | ⟨t,it,ifs,as⟩::gs,hw=>
  obtain ⟨x,hx,hk⟩:∃x,md t=some x/\(gs.isEmpty && as == 0 && jm sc sc' x it && decide (ifs.length<=1))=true:=by
   cases ifs
   ·refine aq (nZ hw) λx hx h2=>?_;exact ⟨x,hx,(gn h2).1⟩
   ·refine aq (nZ hw) λx hx h2=>?_;exact ⟨x,hx,(gn h2).1⟩
  refine bI (qq hx) ?_;rintro px rfl;simp only [Pe,QZ,QJ,decide_eq_true_eq] at hk;refine aD hk ?_;rintro ⟨⟨rfl,rfl⟩,_⟩ hl;exact ⟨x,px,it,ifs,rfl,hl⟩
theorem xF {elt:PySem.Expr} {gens:List Comprehension} {sc':Scope} {pos:Pos} (hcomp:fU prog w K base ca fa) (he:fZ prog w K base ca fa elt)
 (hg:∀g∈gens,fZ prog w K base ca fa g.iter/\∀c∈g.ifs,fZ prog w K base ca fa c):fZ prog w K base ca fa (.ListComp elt gens sc' pos):=by
 refine eS ?_ (λ_ _=>rfl);intro A Γ x sc ns ρ H T s E Q R N hb hc S hw;refine xC (mj hw) ?_;rintro x px it ifs rfl hl;have hg':=hg _ (PC.mpr rfl);exact hcomp x px it elt ifs sc' pos hl hg'.1.1 he.1 (λc hc=>(hg'.2 c hc).2) R N hb hc S hw
theorem AO {l:PySem.Expr} {ops:List CmpOp} {cs:List PySem.Expr} {pos:Pos} (hl:fZ prog w K base ca fa l) (hcs:∀c∈cs,fZ prog w K base ca fa c):fZ prog w K base ca fa (.Compare l ops cs pos):=
 ⟨G2 hl.1 λr h=>(hcs r h).1,G1 hl.1 λr h=>(hcs r h).1⟩
theorem xM {f:PySem.Expr} {as:List PySem.Expr} {ks:List Keyword} {pos:Pos} (hsort:cb) (hf:∀o m p,f=.Attribute o m p->fZ prog w K base ca fa o) (has:∀a∈as,fZ prog w K base ca fa a):fZ prog w K base ca fa (.Call f as ks pos):=by
 have hEs:BW prog w K base ca fa as:=by
  clear hf
  induction as with
  | nil=>exact xA
  | cons a r ih=>exact tK (has a (PM ..)).1 (ih λb hb=>has b (PQ _ hb))
 refine eS ?_ (λ_ _=>rfl);intro A Γ x sc ns ρ H T s E Q R N hb hc S hw
 cases f with
 | Name n p=>cases QZ.mp (gn hw).1;exact AP hsort hEs R N hb hc S hw
 | Attribute o m p=>cases QZ.mp (gn hw).1;exact Ia (hf o m p rfl).1 (λy h=>(has y h).1) R N hb hc S hw
 | _=>exact (gn hw).2.elim
theorem uc {o:PySem.Expr} {a b:Option PySem.Expr} {c:PySem.Expr} {d pos:Pos} (ho:PE prog w K base ca fa o):PE prog w K base ca fa (.Subscript o (.Slice a b (some c) d) pos):=by
 intro A Γ x sc ns ρ H T s E Q R N hb hc S hw;have hw:bp Γ (cE gt attrs sc ns o) ρ H (Dq (bp Γ .bad ρ) Q):=hw;exact Subscript_ (bG (ho R N hb hc S hw) λv H' T' val s₁ le hs S' hv hq=>hq.elim)
theorem zu {o i:PySem.Expr} {pos:Pos} (ho:fZ prog w K base ca fa o) (hi:fZ prog w K base ca fa i) (hs:∀a b c d,i=.Slice a b c d->(∀e,a=some e->fZ prog w K base ca fa e)/\(∀e,b=some e->fZ prog w K base ca fa e)) :
 fZ prog w K base ca fa (.Subscript o i pos):=by
 refine eS ?_ (λ_ _=>rfl)
 cases i with
 | Slice a b c d=>
  cases c with
  | none=>exact zx ho.1 (λe h=>((hs a b none d rfl).1 e h).1) (λe h=>((hs a b none d rfl).2 e h).1)
  | some c=>exact uc ho.1
 | _=>exact Fc rfl ho.1 hi.1
mutual
theorem bU (hsort:cb) (hcomp:fU prog w K base ca fa):∀e:PySem.Expr,fZ prog w K base ca fa e
 | .Constant c k pos=>eS (xE c k pos) (λ_ _=>rfl)
 | .Name n p=>eS (λR N hb hc S hw=>Ab R N hb S hw) (λ_ _=>rfl)
 | .BoolOp op vs pos=>⟨Ek (oi hsort hcomp op vs).1,Ej (oi hsort hcomp op vs).2⟩
 | .NamedExpr .. =>jr λ_ _=>rfl
 | .BinOp l op r pos=>eS (HU (bU hsort hcomp l).1 (bU hsort hcomp r).1) (λ_ _=>rfl)
 | .UnaryOp .Not y pos=>⟨za (bU hsort hcomp y).1,FP (bU hsort hcomp y).2⟩
 | .UnaryOp .USub y pos=>eS (za (bU hsort hcomp y).1) (λ_ _=>rfl)
 | .UnaryOp .UAdd y pos=>eS (za (bU hsort hcomp y).1) (λ_ _=>rfl)
 | .UnaryOp .Invert y pos=>eS (za (bU hsort hcomp y).1) (λ_ _=>rfl)
 | .Lambda .. =>jr λ_ _=>rfl
 | .IfExp t a b pos=>⟨Gx (bU hsort hcomp t).2 (bU hsort hcomp a).1 (bU hsort hcomp b).1,Gw (bU hsort hcomp t).2 (bU hsort hcomp a).2 (bU hsort hcomp b).2⟩
 | .Dict .. =>jr λ_ _=>rfl
 | .Set .. =>jr λ_ _=>rfl
 | .ListComp elt gens sc' pos=>xF hcomp (bU hsort hcomp elt) (vC hsort hcomp gens)
 | .SetComp .. =>jr λ_ _=>rfl
 | .DictComp .. =>jr λ_ _=>rfl
 | .GeneratorExp .. =>jr λ_ _=>rfl
 | .Await .. =>jr λ_ _=>rfl
 | .Yield .. =>jr λ_ _=>rfl
 | .YieldFrom .. =>jr λ_ _=>rfl
 | .Compare l ops cs pos=>AO (bU hsort hcomp l) (oj hsort hcomp cs)
 | .Call f as ks pos=>xM hsort (Ce hsort hcomp f) (oj hsort hcomp as)
 | .FormattedValue .. =>jr λ_ _=>rfl
 | .JoinedStr .. =>jr λ_ _=>rfl
 | .Attribute o a pos=>eS (Ey (bU hsort hcomp o).1) (λ_ _=>rfl)
 | .Subscript o i pos=>zu (bU hsort hcomp o) (bU hsort hcomp i) (Cd hsort hcomp i)
 | .Starred .. =>jr λ_ _=>rfl
 | .List es pos=>eS (Ga (oh hsort hcomp es)) (λ_ _=>rfl)
 | .Tuple es k pos=>eS (E9 (oh hsort hcomp es)) (λ_ _=>rfl)
 | .Slice .. =>jr λ_ _=>rfl
theorem oh (hsort:cb) (hcomp:fU prog w K base ca fa):∀es:List PySem.Expr,BW prog w K base ca fa es
 | []=>xA
 | e::r=>tK (bU hsort hcomp e).1 (oh hsort hcomp r)
theorem oi (hsort:cb) (hcomp:fU prog w K base ca fa) (op:BoolOp):∀es:List PySem.Expr,PB prog w K base ca fa op es/\Iq prog w K base ca fa op es
 | []=>⟨CT op,zZ op⟩
 | e::r=>⟨z0 (bU hsort hcomp e).1 (oi hsort hcomp op r).1,wa (bU hsort hcomp e).2 (oi hsort hcomp op r).2⟩
theorem oj (hsort:cb) (hcomp:fU prog w K base ca fa):∀es:List PySem.Expr,∀e∈es,fZ prog w K base ca fa e
 | []=>λ_ h=>absurd h (Qy)
 | e::r=>List.forall_mem_cons.mpr ⟨bU hsort hcomp e,oj hsort hcomp r⟩
theorem vB (hsort:cb) (hcomp:fU prog w K base ca fa):∀b:Option PySem.Expr,∀e,b=some e->fZ prog w K base ca fa e
 | none=>λ_ h=>nomatch h
 | some e=>λ_ h=>(Option.some.inj h) ▸ bU hsort hcomp e
theorem Cd (hsort:cb) (hcomp:fU prog w K base ca fa):∀i:PySem.Expr,∀a b c d,i=.Slice a b c d->(∀e,a=some e->fZ prog w K base ca fa e)/\(∀e,b=some e->fZ prog w K base ca fa e)
 | .Slice a b c d=>λa' b' c' d' h=>by
  have h1:=vB hsort hcomp a;have h2:=vB hsort hcomp b;injection h with e1 e2 e3 e4;subst e1;subst e2;exact ⟨h1,h2⟩
 | .Constant .. | .Name .. | .BoolOp .. | .NamedExpr .. | .BinOp .. | .UnaryOp .. | .Lambda .. | .IfExp .. | .Dict .. | .Set .. | .ListComp .. | .SetComp .. | .DictComp .. | .GeneratorExp .. | .Await .. | .Yield .. | .YieldFrom .. | .Compare .. | .Call .. | .FormattedValue .. | .JoinedStr .. | .Attribute .. | .Subscript .. | .Starred .. | .List .. | .Tuple .. =>λ_ _ _ _ h=>nomatch h
theorem Ce (hsort:cb) (hcomp:fU prog w K base ca fa):∀f:PySem.Expr,∀o m p,f=.Attribute o m p->fZ prog w K base ca fa o
 | .Attribute o m p=>λo' m' p' h=>by
  have h1:=bU hsort hcomp o;injection h with e1 e2 e3;subst e1;exact h1
 | .Constant .. | .Name .. | .BoolOp .. | .NamedExpr .. | .BinOp .. | .UnaryOp .. | .Lambda .. | .IfExp .. | .Dict .. | .Set .. | .ListComp .. | .SetComp .. | .DictComp .. | .GeneratorExp .. | .Await .. | .Yield .. | .YieldFrom .. | .Compare .. | .Call .. | .FormattedValue .. | .JoinedStr .. | .Slice .. | .Subscript .. | .Starred .. | .List .. | .Tuple .. =>λ_ _ _ h=>nomatch h
theorem vC (hsort:cb) (hcomp:fU prog w K base ca fa):∀gens:List Comprehension,∀g∈gens,fZ prog w K base ca fa g.iter/\∀c∈g.ifs,fZ prog w K base ca fa c
 | []=>λ_ h=>absurd h (Qy)
 | ⟨t,it,ifs,a⟩::r=>List.forall_mem_cons.mpr ⟨⟨bU hsort hcomp it,oj hsort hcomp ifs⟩,vC hsort hcomp r⟩
end
end
noncomputable def Im.minus (T:Im) (z:Addr):Im:=λb=>if b=z then none else T b
theorem Im.lS (T:Im) (z:Addr):T.minus z z=none:=by simp [Im.minus]
theorem Im.lT {T T':Im} {z:Addr} (h:T.Le T') (hz:T z=none):T.Le (T'.minus z):=λb o e=>by
 unfold Im.minus;by_cases hb:b=z
 ·subst hb;rw [hz] at e;cases e
 ·rw [Pf hb];exact h b o e
theorem jS {T:Im} {z:Addr} (h:∀o,T z=some o->o.cls≠.type "tuple"/\o.cls≠.type "range"/\o.cls≠.type "list"):yM T (T.minus z):=λa o e c=>by
 unfold Im.minus;by_cases ha:a=z
 ·subst ha;refine dH (h _ e) λh1 h2 h3=>?_;exact (c.elim h1 λc=>c.elim h2 h3).elim
 ·rw [Pf ha];exact e
theorem VR.minus {T:Im} {z:Addr} (h:∀o,T z=some o->o.cls≠.type "tuple"/\o.cls≠.type "range"/\o.cls≠.type "list") {v:V} {x:Value} (r:VR T v x):VR (T.minus z) v x:=r.map (jS h)
theorem cA.minus {T:Im} {z:Addr} (h:∀o,T z=some o->o.cls≠.type "tuple"/\o.cls≠.type "range"/\o.cls≠.type "list") {v:List V} {x:List Value} (r:cA T v x):cA (T.minus z) v x:=r.map (jS h)
theorem OR.minus {ca:Nat->Addr} {T:Im} {z:Addr} (h:∀o,T z=some o->o.cls≠.type "tuple"/\o.cls≠.type "range"/\o.cls≠.type "list") {ob:Ob} {o:Obj} (r:OR ca T ob o):OR ca (T.minus z) ob o:=r.map (jS h)
section
variable {x:Fx} {h h':Heap} {ρ:Lc} {H:Hp} {T:Im}
structure Own (h:Heap) (z:Addr):Prop where
 it:∃o,h.get? z=some o/\(o.cls≠.type "tuple"/\o.cls≠.type "range"/\o.cls≠.type "list")/\∃xs,o.data=.fields xs
theorem aJ.minus (S:aJ x h ρ H T) {z:Addr} (hz:Own h z):aJ x h ρ H (T.minus z):=by
 obtain ⟨o,h1,h2,_⟩:=hz.it
 have hh:∀o,T z=some o->o.cls≠.type "tuple"/\o.cls≠.type "range"/\o.cls≠.type "list":=λo' e=>by
  have:=(S.eY z o' e).1;rw [h1] at this;cases this;exact h2
 obtain ⟨m,F,hl⟩:=S.fr;refine ⟨S.cJ,⟨m,F,λi v e=>?_⟩,λb ob e=>?_,λb o' e=>?_,S.jy⟩
 ·refine fB (hl i v e) λn val q1 q2 q3=>?_;exact ⟨n,val,q1,q2,q3.minus hh⟩
 ·refine aD (S.own b ob e) ?_;rintro ⟨o2,q1,q2⟩ q3;exact ⟨⟨o2,q1,q2.minus hh⟩,q3⟩
 ·unfold Im.minus at e;by_cases hb:b=z
  ·rw [Po hb] at e;cases e
  ·rw [Pf hb] at e;exact S.eY b o' e
theorem aJ.hh (S:aJ x h ρ H T) {z:Addr} (hz:Own h z):∀o,T z=some o->o.cls≠.type "tuple"/\o.cls≠.type "range"/\o.cls≠.type "list":=λo' e=>by
 obtain ⟨o,h1,h2,_⟩:=hz.it;have:=(S.eY z o' e).1;rw [h1] at this;cases this;exact h2
theorem aJ.off (S:aJ x h ρ H T) {z:Addr} (hT:T z=none) (hH:H z=none) (hL:z≠x.env.locals) (h0:x.h₀.get? z=none) (hc:∀v,¬h.IsCell z v) (k:Heap.ExtBut z h h'):aJ x h' ρ H T:=by
 obtain ⟨m,F,hl⟩:=S.fr
 have kc:∀{c v},h.IsCell c v->h'.IsCell c v:=λ{c v} hv=>by
  have hn:c≠z:=λq=>by subst q;exact hc v hv
  refine aq hv λo c1 c2=>?_;exact ⟨o,k _ _ hn c1,c2⟩
 refine ⟨S.cJ,⟨m,⟨?_,λb o e=>k b o (λq=>by subst q;rw [h0] at e;cases e) (F.keep b o e),F.above⟩,λi v e=>?_⟩,λa ob e=>?_,λa o e=>?_,λn c hn=>?_⟩
 ·obtain ⟨o,es,ep,a1,a2⟩:=F.ns;exact ⟨o,es,ep,k _ _ (Ne.symm hL) a1,a2⟩
 ·refine fB (hl i v e) λn val q1 q2 q3=>?_;refine ⟨n,val,q1,?_,q3⟩;rcases q2 with s | ⟨p1,c,p2,p3⟩
  ·exact .inl s
  ·exact .inr ⟨p1,c,p2,kc p3⟩
 ·refine dH (S.own a ob e) ?_;rintro ⟨o,q1,q2⟩ q3 q4;exact ⟨⟨o,k _ _ (λq=>by subst q;rw [hH] at e;cases e) q1,q2⟩,q3,q4⟩
 ·exact ⟨k _ _ (λq=>by subst q;rw [hT] at e;cases e) (S.eY a o e).1,(S.eY a o e).2⟩
 ·refine aq (S.jy n c hn) λv a3 a4=>?_;exact ⟨v,kc a3,a4⟩
theorem Own.gb {z:Addr} (hz:Own h z) (v:Option Value):¬h.IsCell z v:=by
 obtain ⟨o,h1,_,xs,h2⟩:=hz.it;rintro ⟨o',e1,e2⟩;rw [h1] at e1;cases e1;rw [h2] at e2;cases e2
theorem aJ.qc (S:aJ x h ρ H T) {z:Addr} (hz:Own h z):H z=none:=by
 obtain ⟨o,h1,_,xs,h2⟩:=hz.it
 cases e:H z with
 | none=>rfl
 | some ob=>
  refine aD (S.own z ob e) ?_;rintro ⟨o',e1,e2⟩ _
  rw [h1] at e1;cases e1;cases e2<;>cases h2
theorem aJ.ru (S:aJ x h ρ H T) {z:Addr} (hz:Own h z):z≠x.env.locals:=by
 obtain ⟨o,h1,_,xs,h2⟩:=hz.it;obtain ⟨m,F,_⟩:=S.fr;obtain ⟨oL,es,ep,hL,hd,_⟩:=F.ns;intro q;subst q;rw [h1] at hL;cases hL;rw [h2] at hd;cases hd
theorem aJ.oJ (S:aJ x h ρ H T) {z:Addr} (hz:Own h z) (h0:x.h₀.get? z=none) (k:Heap.ExtBut z h h'):aJ x h' ρ H (T.minus z):=
 (S.minus hz).off (T.lS z) (S.qc hz) (S.ru hz) h0 hz.gb k
theorem aJ.mark (S:aJ x h ρ H T) {z:Addr} (hT:T z=none) {o:Obj} (ho:h.get? z=some o) (hi:mF o):T.Le (T.upd z o)/\aJ x h ρ H (T.upd z o):=by
 have le:T.Le (T.upd z o):=λb o' e=>by
  unfold Im.upd;by_cases hb:b=z
  ·subst hb;rw [hT] at e;cases e
  ·rw [Pf hb];exact e
 obtain ⟨m,F,hl⟩:=S.fr;refine ⟨le,S.cJ,⟨m,F,λi v e=>?_⟩,λb ob e=>?_,λb o' e=>?_,S.jy⟩
 ·refine fB (hl i v e) λn val q1 q2 q3=>?_;exact ⟨n,val,q1,q2,q3.mono le⟩
 ·refine aD (S.own b ob e) ?_;rintro ⟨o2,q1,q2⟩ q3;exact ⟨⟨o2,q1,q2.mono le⟩,q3⟩
 ·unfold Im.upd at e;by_cases hb:b=z
  ·subst hb;rw [Po rfl] at e;cases e;exact ⟨ho,.inl hi⟩
  ·rw [Pf hb] at e;exact S.eY b o' e
end
def fT (v:V) (val:Value) (I:Addr) (k:Nat) (h:Heap):Prop:=match v,val with
 | .ref a,_=>h.IsListIter I a k
 | .tup _,.ref a=>h.IsTupleIter I a k
 | .fW a b c,_=>IsRangeIter h I (a+(k:Int)*c) ((cj a b c:Int) - (k:Int)) c
 | _,_=>False
noncomputable def dY (H:Hp):V->Option (List V)
 | .ref a=>(match H a with
  | some (.list vs)=>some vs
  | _=>none)
 | .tup vs=>some vs
 | .fW a b c=>some (aP a b c)
 | _=>none
theorem fT.own {v:V} {val:Value} {I:Addr} {k:Nat} {h:Heap} (i:fT v val I k h):Own h I:=by
 unfold fT at i;split at i
 ·refine gK i λo a b c=>?_;exact ⟨o,a,by rw [b];exact ⟨by decide,by decide,by decide⟩,_,c⟩
 ·refine gK i λo a b c=>?_;exact ⟨o,a,by rw [b];exact ⟨by decide,by decide,by decide⟩,_,c⟩
 ·exact ⟨_,i,⟨show (Value.type "range_iterator")≠.type "tuple" by decide,show (Value.type "range_iterator")≠.type "range" by decide,show (Value.type "range_iterator")≠.type "list" by decide⟩,_,rfl⟩
 ·exact i.elim
theorem fT.keep {v:V} {val:Value} {I:Addr} {k:Nat} {h h':Heap} (i:fT v val I k h) (e:∀o,h.get? I=some o->h'.get? I=some o):fT v val I k h':=by
 unfold fT at i ⊢;split at i
 ·refine gK i λo a b c=>?_;exact ⟨o,e _ a,b,c⟩
 ·refine gK i λo a b c=>?_;exact ⟨o,e _ a,b,c⟩
 ·exact e _ i
 ·exact i.elim
section
variable {prog:Program} {w:World} {A:Around} {E:Value->Shared->Prop} {s:Shared} {x:Fx} {ρ:Lc} {H:Hp} {T:Im}
def g8 {v:V} {val:Value} {vs:List V} {Q:Value->Shared->Prop}:Prop:=∀(S:aJ x s.heap ρ H T) (hv:VR T v val) (hi:dY H v=some vs) (hQ:∀h',(∀b o,s.heap.get? b=some o->h'.get? b=some o)->fT v val s.heap.objs.size 0 h'->Q (.ref s.heap.objs.size) { s with heap:=h' }),wpAny (model prog w) A (pyIter val) Q E s
theorem l9 {v:V} {val:Value} {vs:List V} {Q:Value->Shared->Prop}:@g8 prog w A E s x ρ H T v val vs Q:=ao (S:=λx:(Program×World×Around×(Value->Shared->Prop))×(Shared×Fx×Lc×Hp)×(Im×V×Value×List V)×(Value->Shared->Prop)=>@g8 x.1.1 x.1.2.1 x.1.2.2.1 x.1.2.2.2 x.2.1.1 x.2.1.2.1 x.2.1.2.2.1 x.2.1.2.2.2 x.2.2.1.1 x.2.2.1.2.1 x.2.2.1.2.2.1 x.2.2.1.2.2.2 x.2.2.2) (x:=((default,dW,{},λ_ _=>True),({},uK,[],λ_=>none),(λ_=>none,.none,default,[]),λ_ _=>True)) (by
 refine (?_:∀prog w A E s x ρ H T v val vs Q,@g8 prog w A E s x ρ H T v val vs Q) _ _ _ _ _ _ _ _ _ _ _ _ _;intro prog w A E s x ρ H T v val vs Q S hv hi hQ;unfold dY at hi
 cases hv with
 | ref a=>
  simp only at hi;split at hi
  ·rename_i us hy;refine ed (S.list hy) λxs k g1 g2 g3 g4=>?_;exact wpAny_pyIter_list g4 (hQ _ (λb o e=>Heap.get?_push_of_some _ e) ⟨_,Heap.get?_push_size _ rfl,rfl,rfl⟩)
  ·cases hi
 | tup t1 l1 t2=>
  exact wpAny_pyIter_tuple ⟨_,(S.eY _ _ t1).1,rfl,_,rfl⟩ (hQ _ (λb o e=>Heap.get?_push_of_some _ e) ⟨_,Heap.get?_push_size _ rfl,rfl,rfl⟩)
 | fW e q1 q2=>
  refine wpAny_pyIter_range (S.eY _ _ e).1 q1 (hQ _ (λb o e=>Heap.get?_push_of_some _ e) ?_);simp only [fT];rw [q2];show Heap.get? _ _=_;rw [Heap.get?_push_size _ rfl];simp
 | _=>cases hi) ((prog,w,A,E),(s,x,ρ,H),(T,v,val,vs),Q)
theorem zz {a b c:Int} {k:Nat} {u:V} (h:(aP a b c)[k]?=some u):k<cj a b c/\u=.int (a+(k:Int)*c):=by
 unfold aP at h;rw [P1] at h
 cases e:(List.range (cj a b c))[k]? with
 | none=>rw [e] at h;cases h
 | some j=>
  rw [e] at h;have:=Pz.mp e;refine bI this λh1 h2=>?_;simp at h1 h2;subst h2;simp at h;exact ⟨h1,h.symm⟩
theorem vL {a b c:Int} {k:Nat} (h:(aP a b c)[k]?=none):cj a b c<=k:=by
 unfold aP at h;simpa using h
def iM {v:V} {val:Value} {vs:List V} {I:Addr} {k:Nat} {u:V} {Q:Option Value->Shared->Prop}:Prop:=∀(S:aJ x s.heap ρ H T) (hv:VR T v val) (hi:dY H v=some vs) (st:fT v val I k s.heap) (hu:vs[k]?=some u) (hQ:∀h' tk ual,VR T u ual->Heap.SameBut I s.heap h'->fT v val I (k+1) h'->Q (some ual) { s with heap:=h',toks:=tk }),wpAny (model prog w) A (pyNext (.ref I)) Q E s
theorem nD {v:V} {val:Value} {vs:List V} {I:Addr} {k:Nat} {u:V} {Q:Option Value->Shared->Prop}:@iM prog w A E s x ρ H T v val vs I k u Q:=ao (S:=λx:(Program×World×Around×(Value->Shared->Prop))×(Shared×Fx×Lc×Hp)×(Im×V×Value×List V)×(Addr×Nat×V×(Option Value->Shared->Prop))=>@iM x.1.1 x.1.2.1 x.1.2.2.1 x.1.2.2.2 x.2.1.1 x.2.1.2.1 x.2.1.2.2.1 x.2.1.2.2.2 x.2.2.1.1 x.2.2.1.2.1 x.2.2.1.2.2.1 x.2.2.1.2.2.2 x.2.2.2.1 x.2.2.2.2.1 x.2.2.2.2.2.1 x.2.2.2.2.2.2) (x:=((default,dW,{},λ_ _=>True),({},uK,[],λ_=>none),(λ_=>none,.none,default,[]),(0,0,.none,λ_ _=>True))) (by
 refine (?_:∀prog w A E s x ρ H T v val vs I k u Q,@iM prog w A E s x ρ H T v val vs I k u Q) _ _ _ _ _ _ _ _ _ _ _ _ _ _ _ _;intro prog w A E s x ρ H T v val vs I k u Q S hv hi st hu hQ;unfold dY at hi
 cases hv with
 | ref a=>
  simp only at hi;split at hi
  ·rename_i us hy;cases hi;refine ed (S.list hy) λxs n g1 g2 g3 g4=>?_;refine aq (g2.get hu) λy hy1 hy2=>?_;exact wpAny_pyNext_list_item st g4 (by simpa using hy1) λh' hit hs=>hQ h' s.toks _ hy2 hs hit
  ·cases hi
 | tup t1 l1 t2=>
  simp only [Sf] at hi;subst hi;refine aq (t2.get hu) λy hy1 hy2=>?_;exact wpAny_pyNext_tuple_item st ⟨_,(S.eY _ _ t1).1,rfl,_,rfl⟩ (by simpa using hy1) λh' hit hs=>hQ h' s.toks _ hy2 hs hit
 | fW e q1 q2=>
  rename_i a b c t' u' v' r;simp only [Sf] at hi;subst hi;refine aD (zz hu) ?_;rintro h1 rfl;refine wpAny_pyNext_range_item st (by lia) λh' hit hs=>hQ h' _ _ (.int _ _) hs ?_;simp only [fT]
  have e1:a+((k+1:Nat):Int)*c=a+(k:Int)*c+c:=by push_cast;rw [Int.add_mul,Int.one_mul,Int.add_assoc]
  have e2:(cj a b c:Int) - ((k+1:Nat):Int)=(cj a b c:Int) - (k:Int) -1:=by push_cast;lia
  rw [e1,e2];exact hit
 | _=>cases hi) ((prog,w,A,E),(s,x,ρ,H),(T,v,val,vs),(I,k,u,Q))
def jQ {v:V} {val:Value} {vs:List V} {I:Addr} {k:Nat} {Q:Option Value->Shared->Prop}:Prop:=∀(hh:A.handled=none) (S:aJ x s.heap ρ H T) (hv:VR T v val) (hi:dY H v=some vs) (st:fT v val I k s.heap) (hu:vs[k]?=none) (hQ:∀h',Heap.ExtBut I s.heap h'->Q none { s with heap:=h' }),wpAny (model prog w) A (pyNext (.ref I)) Q E s
theorem qo {v:V} {val:Value} {vs:List V} {I:Addr} {k:Nat} {Q:Option Value->Shared->Prop}:@jQ prog w A E s x ρ H T v val vs I k Q:=ao (S:=λx:(Program×World×Around×(Value->Shared->Prop))×(Shared×Fx×Lc×Hp)×(Im×V×Value×List V)×(Addr×Nat×(Option Value->Shared->Prop))=>@jQ x.1.1 x.1.2.1 x.1.2.2.1 x.1.2.2.2 x.2.1.1 x.2.1.2.1 x.2.1.2.2.1 x.2.1.2.2.2 x.2.2.1.1 x.2.2.1.2.1 x.2.2.1.2.2.1 x.2.2.1.2.2.2 x.2.2.2.1 x.2.2.2.2.1 x.2.2.2.2.2) (x:=((default,dW,{},λ_ _=>True),({},uK,[],λ_=>none),(λ_=>none,.none,default,[]),(0,0,λ_ _=>True))) (by
 refine (?_:∀prog w A E s x ρ H T v val vs I k Q,@jQ prog w A E s x ρ H T v val vs I k Q) _ _ _ _ _ _ _ _ _ _ _ _ _ _ _;intro prog w A E s x ρ H T v val vs I k Q hh S hv hi st hu hQ;unfold dY at hi
 cases hv with
 | ref a=>
  simp only at hi;split at hi
  ·rename_i us hy;cases hi;refine ed (S.list hy) λxs n g1 g2 g3 g4=>?_;have:=g2.length;exact wpAny_pyNext_list_end hh st g4 (by simp at hu ⊢;lia) hQ
  ·cases hi
 | tup t1 l1 t2=>
  simp only [Sf] at hi;subst hi;have:=t2.length;exact wpAny_pyNext_tuple_end hh st ⟨_,(S.eY _ _ t1).1,rfl,_,rfl⟩ (by simp at hu ⊢;lia) hQ
 | fW e q1 q2=>
  simp only [Sf] at hi;subst hi;have:=vL hu;exact wpAny_pyNext_range_end hh st (by lia) hQ
 | _=>cases hi) ((prog,w,A,E),(s,x,ρ,H),(T,v,val,vs),(I,k,Q))
end
noncomputable def IX:Obj:={ cls:=.none,data:=.freed }
noncomputable def freeze (h:Heap) (p:Addr->Prop) (n:Nat):Heap:=by
 classical exact ⟨Array.ofFn (n:=n) λi=>if p i.val then (h.objs[i.val]?).getD IX else IX,h.life⟩
theorem qr (h:Heap) (p:Addr->Prop) (n:Nat):(freeze h p n).objs.size=n:=by simp [freeze]
theorem hU {h:Heap} {p:Addr->Prop} {n a:Nat} (hn:a<n) (hp:p a):(freeze h p n).get? a=h.get? a:=by
 classical
 have e:(freeze h p n).objs[a]?=some ((h.objs[a]?).getD IX):=by simp [freeze,hn,hp]
 unfold Heap.get?;rw [e]
 cases q:h.objs[a]? with
 | none=>rfl
 | some o=>rfl
theorem hY {h:Heap} {p:Addr->Prop} {n a:Nat} (hp:¬(a<n/\p a)):(freeze h p n).get? a=none:=by
 classical
 unfold Heap.get?;by_cases hn:a<n
 ·have hp':¬p a:=λq=>hp ⟨hn,q⟩
  have e:(freeze h p n).objs[a]?=some IX:=by simp [freeze,hn,hp']
  rw [e];rfl
 ·have e:(freeze h p n).objs[a]?=none:=by simp [freeze];exact Rx ‹_›
  rw [e]
theorem uH {h:Heap} {p:Addr->Prop} {n a:Nat} {o:Obj} (e:(freeze h p n).get? a=some o):a<n/\p a/\h.get? a=some o:=by
 by_cases hp:a<n/\p a
 ·rw [hU hp.1 hp.2] at e;exact ⟨hp.1,hp.2,e⟩
 ·rw [hY hp] at e;cases e
noncomputable def inner (x:Fx) (h:Heap) (H:Hp) (cenv:Env) (ns:List Str):Fx:={ ca:=x.ca,base:=x.base,h₀:=freeze h (λa=>H a=none) cenv.locals,env:=cenv,W:=[],ns:=ns }
section
variable {x:Fx} {h h':Heap} {ρ ρ':Lc} {H H':Hp} {T T':Im} {cenv:Env} {ns:List Str}
theorem aJ.enter (S:aJ x h ρ H T) {m:Str->Option Value} (hC:h.Ns cenv.locals m) (hHC:H cenv.locals=none) (h0:x.h₀.objs.size<=cenv.locals)
 (hcells:∀n c,cenv.cells.lookup n=some c->∃v,h.IsCell c v) (hρ:∀i v,getL ρ' i=some v->∃n val,ns[i]?=some n/\ky cenv m h n val/\VR T v val):aJ (inner x h H cenv ns) h ρ' H T:=by
 refine ⟨λb o e=>?_,⟨m,⟨hC,λb o e=>(uH e).2.2,by show (freeze _ _ _).objs.size<=_;rw [qr];exact Pt _⟩,hρ⟩,λa ob e=>?_,S.eY,λn c e=>?_⟩
 ·have e1:=S.cJ b o e;have e2:=S.keep b o e;show (freeze h _ _).get? b=some o;rw [hU (Pa (Heap.lt_size e1) h0)]
  ·exact e2
  ·cases q:H b with
   | none=>rfl
   | some ob=>have:=(S.own b ob q).2.2;rw [e1] at this;cases this
 ·refine dH (S.own a ob e) λa1 a2 a3=>?_;refine ⟨a1,?_,?_⟩
  ·show a≠cenv.locals;intro q;subst q;rw [hHC] at e;cases e
  ·exact hY λq=>by rw [q.2] at e;cases e
 ·refine bI (hcells n c e) λv hv=>?_;exact ⟨v,hv,λq=>nomatch q⟩
theorem aJ.frozen (S':aJ (inner x h H cenv ns) h' ρ' H' T') {a:Addr} (hlt:a<cenv.locals) (hn:H a=none) {o:Obj} (e:h.get? a=some o):h'.get? a=some o/\H' a=none:=by
 have hf:(inner x h H cenv ns).h₀.get? a=some o:=by
  show (freeze h _ _).get? a=some o;rw [hU hlt hn];exact e
 obtain ⟨m,F,_⟩:=S'.fr;refine ⟨F.keep _ _ hf,?_⟩
 cases q:H' a with
 | none=>rfl
 | some ob=>have:=(S'.own a ob q).2.2;rw [hf] at this;cases this
theorem aJ.gY (S:aJ x h ρ H T):H x.env.locals=none:=by
 cases q:H x.env.locals with
 | none=>rfl
 | some ob=>exact absurd rfl (S.own _ ob q).2.1
theorem aJ.j0 (S:aJ x h ρ H T) {c:Addr} {v:Option Value} (hc:h.IsCell c v):H c=none/\(x.h₀.get? c=none->T c=none):=by
 refine aq hc λo e1 e2=>?_;constructor
 ·cases q:H c with
  | none=>rfl
  | some ob=>
   refine aD (S.own c ob q) ?_;rintro ⟨o',a1,a2⟩ _;rw [e1] at a1;cases a1;exact absurd e2 (a2.gb v)
 ·intro h0
  cases q:T c with
  | none=>rfl
  | some ob=>
   refine aD (S.eY c ob q) λa1 a2=>?_;rw [e1] at a1;cases a1;rcases a2 with (⟨_,_,t2,_⟩ | ⟨_,t2⟩) | t2
   ·rw [e2] at t2;cases t2
   ·rw [e2] at t2;cases t2
   ·rw [S.iz h0] at t2;cases t2
theorem aJ.leave (S:aJ x h ρ H T) (S':aJ (inner x h H cenv ns) h' ρ' H' T') (le:T.Le T') (hlt:x.env.locals<cenv.locals) (h0:x.h₀.objs.size<=cenv.locals)
 (hcb:∀n c,x.env.cells.lookup n=some c->c<cenv.locals):aJ x h' ρ H' T':=by
 obtain ⟨m,F,hl⟩:=S.fr;have kp:∀{a:Addr} {o:Obj},a<cenv.locals->H a=none->h.get? a=some o->h'.get? a=some o:=λa1 a2 a3=>(S'.frozen a1 a2 a3).1
 have k0:∀{b:Addr} {o:Obj},x.h₀.get? b=some o->b<cenv.locals/\H b=none/\h.get? b=some o:=λ{b o} e=>by
  refine ⟨Pa (Heap.lt_size e) h0,?_,F.keep b o e⟩
  cases q:H b with
  | none=>rfl
  | some ob=>have:=(S.own b ob q).2.2;rw [e] at this;cases this
 have kc:∀{n:Str} {c:Addr} {v:Option Value},x.env.cells.lookup n=some c->h.IsCell c v->h'.IsCell c v:=λhc hv=>by
  have hn:=(S.j0 hv).1;refine aq hv λo e1 e2=>?_;exact ⟨o,kp (hcb _ _ hc) hn e1,e2⟩
 refine ⟨S.cJ,⟨m,⟨?_,λb o e=>kp (k0 e).1 (k0 e).2.1 (k0 e).2.2,F.above⟩,λi v e=>?_⟩,λa ob e=>?_,S'.eY,λn c e=>?_⟩
 ·obtain ⟨o,es,ep,a1,a2⟩:=F.ns;exact ⟨o,es,ep,kp hlt S.gY a1,a2⟩
 ·refine fB (hl i v e) λn val q1 q2 q3=>?_;refine ⟨n,val,q1,?_,q3.mono le⟩;rcases q2 with s | ⟨p1,c,p2,p3⟩
  ·exact .inl s
  ·exact .inr ⟨p1,c,p2,kc p2 p3⟩
 ·refine dH (S'.own a ob e) λa1 a2 a3=>?_;refine ⟨a1,λq=>?_,?_⟩
  ·subst q;obtain ⟨o,es,ep,b1,b2⟩:=F.ns;have:=(S'.frozen hlt S.gY b1).2;rw [e] at this;cases this
  ·cases q:x.h₀.get? a with
   | none=>rfl
   | some o=>
    have:=(S'.frozen (k0 q).1 (k0 q).2.1 (k0 q).2.2).2;rw [e] at this;cases this
 ·refine aq (S.jy n c e) λv a3 a4=>?_;exact ⟨v,kc e a3,a4⟩
end
theorem eT {n:Str}:∀(names:List (Str×NameKind)) (k:Nat) (acc:List (Str×Addr)),(∀y∈names,y.2=.cell->y.1≠n)->(cellsFrom k names acc).lookup n=acc.lookup n
 | [],_,_,_=>rfl
 | (m,kd)::r,k,acc,h=>by
  unfold cellsFrom;have hr:∀y∈r,y.2=.cell->y.1≠n:=λy hy=>h y (PQ _ hy);split
  ·rename_i hk;rw [eT r _ _ hr];have hne:m≠n:=h (m,kd) (PM ..) (eq_of_beq hk)
   have:(n == m)=false:=by simpa using Ne.symm hne
   simp [Qn,this]
  ·exact eT r _ _ hr
theorem fS {n:Str} {lo:Nat}:∀(names:List (Str×NameKind)) (h:Heap) (acc:List (Str×Addr)),lo<=h.objs.size->(n,NameKind.cell)∈names\/(∃c,acc.lookup n=some c/\lo<=c/\h.IsCell c none)->
 ∃c,(cellsFrom h.objs.size names acc).lookup n=some c/\lo<=c/\(pushCells h names).IsCell c none
 | [],h,acc,_,hm=>by
  rcases hm with hm | hm
  ·cases hm
  ·exact hm
 | (m,kd)::r,h,acc,hlo,hm=>by
  unfold cellsFrom pushCells;split
  ·rename_i hk;have:=fS (n:=n) (lo:=lo) r (h.push { cls:=.type "cell",data:=.cell none }) ((m,h.objs.size)::acc) (by rw [Heap.size_push];exact QD ‹_›) ?_
   ·rw [Heap.size_push] at this;exact this
   ·by_cases hmn:n=m
    ·subst hmn;exact .inr ⟨h.objs.size,by simp [Qn],hlo,_,Heap.get?_push_size _ rfl,rfl⟩
    ·rcases hm with hm | ⟨c,c1,c2,c3⟩
     ·rcases RH.mp hm with e | hm
      ·cases e;exact absurd rfl hmn
      ·exact .inl hm
     ·have:(n == m)=false:=by simpa using hmn
      exact .inr ⟨c,by simp [Qn,this,c1],c2,c3.keeps λb o e=>Heap.get?_push_of_some _ e⟩
  ·rename_i hk;refine fS r h acc hlo ?_;rcases hm with hm | hm
   ·rcases RH.mp hm with e | hm
    ·cases e;exact absurd rfl hk
    ·exact .inl hm
   ·exact .inr hm
theorem gS:∀(names:List (Str×NameKind)) (h:Heap),h.objs.size<=(pushCells h names).objs.size
 | [],_=>Pt _
 | (m,kd)::r,h=>by
  unfold pushCells;split
  ·have:=gS r (h.push { cls:=.type "cell",data:=.cell none });rw [Heap.size_push] at this;exact Pw ‹_›
  ·exact gS r h
theorem iR {env:Env} (f:Str×NameKind->List (Str×Addr)->Sem (ForInStep (List (Str×Addr)))) (hf:∀n k cs,f (n,k) cs=if k ==.free then (do let a <- cellOf env n;pure (.yield ((n,a)::cs))) else pure (.yield cs)) :
 ∀(names:List (Str×NameKind)) (acc:List (Str×Addr)),(∀y∈names,y.2=.free->∃c,env.cells.lookup y.1=some c)->(∀n c,acc.lookup n=some c->env.cells.lookup n=some c)->
  ∃cl,forIn names acc f=pure cl/\(∀n c,cl.lookup n=some c->env.cells.lookup n=some c)/\(∀n,(n,NameKind.free)∈names\/(∃c,acc.lookup n=some c)->∃c,cl.lookup n=some c)
 | [],acc,_,ha=>⟨acc,by rw [List.forIn_nil],ha,λn h=>h.elim (λh=>nomatch h) id⟩
 | (m,k)::r,acc,h,ha=>by
  have hr:∀y∈r,y.2=.free->∃c,env.cells.lookup y.1=some c:=λy hy=>h y (PQ _ hy);by_cases hk:(k == NameKind.free)=true
  ·refine bI (h (m,k) (PM ..) (eq_of_beq hk)) λc hc=>?_;have hc':env.cells.lookup m=some c:=hc
   have hco:cellOf env m=pure c:=by unfold cellOf;rw [hc']
   obtain ⟨cl,e1,e2,e3⟩:=iR f hf r ((m,c)::acc) hr (λn c' hn=>by
    rw [Qn] at hn
    cases q:n == m with
    | true=>rw [q] at hn;cases hn;rw [eq_of_beq q];exact hc'
    | false=>rw [q] at hn;exact ha n c' hn)
   refine ⟨cl,?_,e2,λn hn=>e3 n ?_⟩
   ·rw [List.forIn_cons,hf,Po hk,hco];exact e1
   ·by_cases hmn:n=m
    ·subst hmn;exact .inr ⟨c,by simp [Qn]⟩
    ·have q:(n == m)=false:=by simpa using hmn
     rcases hn with hn | ⟨c',hn⟩
     ·rcases RH.mp hn with e | hn
      ·cases e;exact absurd rfl hmn
      ·exact .inl hn
     ·exact .inr ⟨c',by simp [Qn,q,hn]⟩
  ·refine gK (iR f hf r acc hr ha) λcl e1 e2 e3=>?_;refine ⟨cl,?_,e2,λn hn=>e3 n ?_⟩
   ·rw [List.forIn_cons,hf,Pf hk];exact e1
   ·rcases hn with hn | hn
    ·rcases RH.mp hn with e | hn
     ·cases e;exact absurd rfl hk
     ·exact .inl hn
    ·exact .inr hn
theorem mS {env:Env} {scope:Scope} (h:∀y∈scope.names,y.2=.free->∃c,env.cells.lookup y.1=some c) :
 ∃cl,closureFor scope env=pure cl/\(∀n c,cl.lookup n=some c->env.cells.lookup n=some c)/\(∀n,(n,NameKind.free)∈scope.names->∃c,cl.lookup n=some c):=by
 refine gK (iR (env:=env) (λy cs=>if y.2 ==.free then (do let a <- cellOf env y.1;pure (.yield ((y.1,a)::cs))) else pure (.yield cs)) (λ_ _ _=>rfl) scope.names [] h (λn c e=>by simp at e)) λcl e1 e2 e3=>?_;refine ⟨cl,?_,e2,λn hn=>e3 n (.inl hn)⟩;unfold closureFor;show (forIn scope.names ([]:List (Str×Addr)) (λ(y:Str×NameKind) (cs:List (Str×Addr))=>(if y.2 ==.free then (do let a <- cellOf env y.1;pure (.yield ((y.1,a)::cs))) else pure (.yield cs):Sem (ForInStep (List (Str×Addr))))) >>= λcs=>pure cs)=pure cl;rw [e1];rfl
section
variable {M:Model} {A:Around} {E:Value->Shared->Prop} {s:Shared}
theorem rA {scope:Scope} {globals:Addr} {cl:List (Str×Addr)} {qual:Str} {outer:Env} {Q:Env->Shared->Prop}
 (hQ:Q (newEnv scope s.heap.objs.size globals (cellsFrom (s.heap.objs.size+1) scope.names cl) qual none .none (some outer) builtinsNs) { s with heap:=pushCells (s.heap.push { cls:=.type "dict",data:=.dict #[] }) scope.names }) :
 wpAny M A (newFunctionEnv scope globals cl [] qual none .none (some outer)) Q E s:=by
 simp only [newFunctionEnv,Option.isSome_some,if_true];refine wpAny_bind (wpAny_alloc ?_);refine wpAny_bind (wpAny_layCells _ (λname kind cells=>by cases hkc:kind == NameKind.cell<;>simp [hkc]) _ _ _ _ ?_);rw [show ({ s with heap:=s.heap.push { cls:=.type "dict",data:=.dict #[] } }:Shared).heap.objs.size=s.heap.objs.size+1 from Heap.size_push ..];exact wpAny_bind (wpAny_pure (wpAny_pure hQ))
end
structure EO (x:Fx) (ρ:Lc) (T₀:Im) (s₀:Shared) (D C:Addr) (Qf:List V->Hp->Prop) (s:Shared) (H:Hp) (T:Im) (acc:List V) (accV:List Value) (e:Nat) (m:Str->Option Value):Prop where
 le:T₀.Le T
 S:aJ x s.heap ρ H T
 go:jw s₀ s
 ns:s.heap.Ns C m
 ol:s.heap.get? D=some { cls:=.type "list",data:=.seq accV.toArray e }
 vr:cA T acc accV
 len:acc.length<=lim
 hD:H D=none
 hC:H C=none
 q:Qf acc H
section
variable {prog:Program} {w:World} {A:Around} {E:Value->Shared->Prop} {s:Shared} {x:Fx} {ρ:Lc} {H:Hp} {T:Im} {K:Frag} {base:Heap} {ca fa:Nat->Addr} {Γ:Sg} {sc:Scope} {ns:List Str}
noncomputable def tQ (Γ':GT) (at_:List Str) (sc:Scope) (ns:List Str):List PySem.Expr->Internal.E
 | []=>.bu true
 | c::_=>cE Γ' at_ sc ns c
theorem vk {ifs:List PySem.Expr} (hifs:ifs.length<=1) (hT:∀c∈ifs,PT prog w K base ca fa c) (R:Rn prog w K base ca fa A Γ) (N:En x sc ns) (hb:x.base=base) (hc:x.ca=ca) (S:aJ x s.heap ρ H T)
 {P:Bool->Hp->Prop} (h:bp Γ (tQ gt attrs sc ns ifs) ρ H (Tr P)) :
 wpAny (model prog w) A (forIn ifs true λc r=>if r=true then do let ok <- isTrue c x.env (eval c x.env);pure (ForInStep.yield ok) else pure (ForInStep.yield r)) (gj x ρ T s P) E s:=by
 match ifs,hifs with
 | [],_=>exact wpAny_tests_nil (gj.keep S h)
 | [c],_=>exact wpAny_tests_one (hT c (PC.mpr rfl) R N hb hc S h)
 | _::_::_,h=>simp at h
theorem aJ.wj (S:aJ x s.heap ρ H T) {C:Addr} {m:Str->Option Value} (hC:s.heap.Ns C m) (hn:H C=none) (hL:C≠x.env.locals) (h0:x.h₀.get? C=none) {h':Heap} (k:Heap.ExtBut C s.heap h'):aJ x h' ρ H T:=
 S.off (S.kQ h0 hC) hn hL h0 (λv ⟨o,e1,e2⟩=>by refine AI hC λo' es ep a1 a2 _=>?_;rw [e1] at a1;cases a1;rw [e2] at a2;cases a2) k
theorem aJ.z5 {h:Heap} (S:aJ x h ρ H T) {D:Addr} {xs:Array Value} {e:Nat} (hD:h.get? D=some { cls:=.type "list",data:=.seq xs e }) (hn:H D=none) (hL:D≠x.env.locals) (h0:x.h₀.get? D=none) {h':Heap} (k:Heap.ExtBut D h h'):aJ x h' ρ H T:=by
 refine S.off ?_ hn hL h0 (λv ⟨o,e1,e2⟩=>by rw [hD] at e1;cases e1;cases e2) k
 cases q:T D with
 | none=>rfl
 | some ob=>
  refine aD (S.eY D ob q) λa1 a2=>?_;rw [hD] at a1;cases a1;rcases a2 with (⟨_,_,_,t2⟩ | ⟨_,t2⟩) | t2
  ·exact absurd (show Value.type "list"=.type "tuple" from t2) (by decide)
  ·cases t2
  ·rw [S.iz h0] at t2;cases t2
theorem uF {ρ:Lc} {u:V} (h:0<ρ.length):getL (ρ.set 0 (some u)) 0=some u:=by
 simp [getL,QR,h]
theorem qp {ρ:Lc} {u:V} {i:Nat} (h:i≠0):getL (ρ.set 0 (some u)) i=getL ρ i:=by
 simp [getL,QR,Ne.symm h]
theorem B5 {e:Ev} {R:List V->Hp->(List V->Hp->Prop)->Prop} {acc:List V} {Q:List V->Hp->Prop}:Am e R acc Q=Tr λb H=>if b=true then e H (JW acc R Q) else R acc H Q:=by
 funext v H;delta Am Tr;dsimp only
 cases truthy v with
 | none=>rfl
 | some b=>cases b<;>rfl
theorem uL {xi:Fx} {ρi:Lc} {mt:Sem Bool} {me:Sem Value} {t el:Ev} {R:List V->Hp->(List V->Hp->Prop)->Prop} {Qf:List V->Hp->Prop} {acc:List V} {D:Addr} {s2:Shared} {J:Shared->Prop}
 (ht:∀{P:Bool->Hp->Prop},t H (Tr P)->wpAny (model prog w) A mt (gj xi ρi T s2 P) E s2)
 (hel:∀{H3 T3} {s3:Shared} {Q},aJ xi s3.heap ρi H3 T3->el H3 Q->wpAny (model prog w) A me (bf xi ρi T3 s3 Q) E s3)
 (q:t H (Am el R acc Qf))
 (hno:∀(s3:Shared) H3 T3,T.Le T3->aJ xi s3.heap ρi H3 T3->jw s2 s3->R acc H3 Qf->J s3)
 (hyes:∀(s4:Shared) H4 T4 v y,T.Le T4->aJ xi s4.heap ρi H4 T4->jw s2 s4->VR T4 v y->JW acc R Qf v H4->wpAny (model prog w) A (call (.builtin "list.append") [.ref D,y]) (λ_ s₅=>J s₅) E s4) :
 wpAny (model prog w) A mt (λok s₃=>if ok=true then wpAny (model prog w) A me (λx_1 s₄=>wpAny (model prog w) A (call (.builtin "list.append") [.ref D,x_1]) (λ_ s₅=>J s₅) E s₄) E s₃ else J s₃) E s2:=by
 rw [B5] at q;refine wpAny_mono (ht q) (λok s3 ⟨H3,T3,gw,S3,go3,q3⟩=>?_) λ_ _ y=>y
 cases ok with
 | false=>exact hno s3 H3 T3 gw S3 go3 q3
 | true=>exact wpAny_mono (hel S3 q3) (λy s4 ⟨v,H4,T4,hv,le4,S4,go4,q4⟩=>hyes s4 H4 T4 v y (gw.trans le4) S4 ⟨go4.1.trans go3.1,go4.2.trans go3.2⟩ hv q4) λ_ _ y=>y
inductive uU (x:Fx) (ρ:Lc) (T₀:Im) (s₀:Shared) (D I:Addr) (cenv:Env) (rv:V) (rval:Value) (n:Nat) (W:Nat->List V->Hp->Prop) (k:Nat) (s:Shared):Prop
 | mk (j:Nat) (H:Hp) (T:Im) (acc:List V) (accV:List Value) (e:Nat) (m:Str->Option Value) (hk:k=n-j) (hj:j<=n) (F:EO x ρ T₀ s₀ D cenv.locals (W j) s H T acc accV e m) (st:fT rv rval I j s.heap) (cs:∀n c,cenv.cells.lookup n=some c->∃v,s.heap.IsCell c v):uU x ρ T₀ s₀ D I cenv rv rval n W k s
def CW (t el:Lc->Ev) (ρ':Lc) (vs:List V) (Qf:List V->Hp->Prop) (j:Nat):List V->Hp->Prop:=λacc H=>eA t el ρ' (vs.drop j) acc H Qf
theorem iw {h:Heap} {a:Addr} (l:LE.le (α:=Nat) h.objs.size a):h.get? a=none:=by
 cases q:h.get? a with
 | none=>rfl
 | some o=>exact absurd (Heap.lt_size q) (QK.mpr l)
theorem aJ.Ct (S1:aJ x s.heap ρ H T) {h2:Heap} {c0:Addr} {v0:Option Value} (hv0:s.heap.IsCell c0 v0) (c00:x.h₀.get? c0=none) (hs2:Heap.SameBut c0 s.heap h2) (nLc:x.env.locals≠c0) (hc:∀n c,x.env.cells.lookup n=some c->c≠c0):aJ x h2 ρ H T:=by
 obtain ⟨m0,F0,hl0⟩:=S1.fr;have cn:=S1.j0 hv0;have kp:∀{b:Addr} {o:Obj},b≠c0->s.heap.get? b=some o->h2.get? b=some o:=λhb e=>hs2.extBut _ _ hb e;refine ⟨S1.cJ,⟨m0,⟨F0.ns.sameBut hs2 nLc,λb o e=>kp (λq=>by subst q;rw [c00] at e;cases e) (F0.keep b o e),F0.above⟩,λi v e=>?_⟩,λa ob e=>?_,λa o e=>?_,λn c hn=>?_⟩
 ·refine fB (hl0 i v e) λn val q1 q2 q3=>?_;refine ⟨n,val,q1,?_,q3⟩;rcases q2 with s | ⟨p1,c,p2,p3⟩
  ·exact .inl s
  ·exact .inr ⟨p1,c,p2,p3.sameBut hs2 (hc _ _ p2)⟩
 ·refine dH (S1.own a ob e) ?_;rintro ⟨o,q1,q2⟩ q3 q4;exact ⟨⟨o,kp (λq=>by subst q;rw [cn.1] at e;cases e) q1,q2⟩,q3,q4⟩
 ·exact ⟨kp (λq=>by subst q;rw [cn.2 c00] at e;cases e) (S1.eY a o e).1,(S1.eY a o e).2⟩
 ·refine aq (S1.jy n c hn) λv a3 a4=>?_;exact ⟨v,a3.sameBut hs2 (hc _ _ hn),a4⟩
theorem jZ {cenv:Env} {h1 h2:Heap} {a:Addr} (hcs:∀n c,cenv.cells.lookup n=some c->∃v,h1.IsCell c v) (hs:Heap.SameBut a h1 h2) (ha:∀v,¬h1.IsCell a v):∀n c,cenv.cells.lookup n=some c->∃v,h2.IsCell c v:=λn c hn=>by
 refine bI (hcs n c hn) λv hv=>?_;exact ⟨v,hv.sameBut hs λq=>ha v (q ▸ hv)⟩
theorem oM {h:Heap} {a:Addr} {o:Obj} (e:h.get? a=some o) (hd:∀c,o.data≠.cell c):∀v,¬h.IsCell a v:=λv ⟨o',e1,e2⟩=>by
 rw [e] at e1;cases e1;exact hd _ e2
def iO {elt it:PySem.Expr} {ifs:List PySem.Expr} {sc':Scope} {pos px:Pos} {nm:Str} {ns':List Str} {cenv:Env} {ρ':Lc} {T₀:Im} {s₀:Shared} {D I:Nat} {rval:Value} {a b c:Int}:Prop:=∀{Qf:List V->Hp->Prop} {RR:Result->Shared->Prop} {t el:Lc->Ev} (hh:A.handled=none) (hkf:cenv.scope.kind=.function) (ht:∀{xi:Fx} {ρ H T} {s:Shared} {E P},(∃h H,xi=inner x h H cenv ns')->aJ xi s.heap ρ H T->t ρ H (Tr P)->wpAny (model prog w) A (forIn ifs true λc r=>if r=true then do let ok <- isTrue c cenv (eval c cenv);pure (ForInStep.yield ok) else pure (ForInStep.yield r)) (gj xi ρ T s P) E s) (hel:∀{xi:Fx} {ρ H T} {s:Shared} {E Q},(∃h H,xi=inner x h H cenv ns')->aJ xi s.heap ρ H T->el ρ H Q->wpAny (model prog w) A (eval elt cenv) (bf xi ρ T s Q) E s) (hkx:cenv.kindOf nm=some .local\/(cenv.kindOf nm=some .cell/\∃c0:Nat,cenv.cells.lookup nm=some c0/\(cenv.locals:Nat)<c0/\∀n,cenv.cells.lookup n=some c0->n=nm)) (hns:ns'[0]?=some nm) (hlen:0<ρ'.length) (hL:LT.lt (α:=Nat) x.env.locals D) (h0:x.h₀.objs.size<=I) (hDC:LT.lt (α:=Nat) D cenv.locals) (hIC:LT.lt (α:=Nat) I cenv.locals) (hID:I<D) (hcb:∀n c,x.env.cells.lookup n=some c->LT.lt (α:=Nat) c I) (hcap:∀i v,i≠0->getL ρ' i=some v->∃n j,ns'[i]?=some n/\n≠nm/\getL ρ j=some v/\x.ns[j]?=some n/\(x.env.kindOf n=some .cell\/x.env.kindOf n=some .free)/\(cenv.kindOf n=some .cell\/cenv.kindOf n=some .free)/\∀c,x.env.cells.lookup n=some c->cenv.cells.lookup n=some c) (hT0:T₀ I=none) (hrv:VR T₀ (.fW a b c) rval) (hfin:∀s H T acc accV e m,EO x ρ T₀ s₀ D cenv.locals Qf s H T acc accV e m->RR (.ok .next) s) {k:Nat} (st:uU x ρ T₀ s₀ D I cenv (.fW a b c) rval (cj a b c) (CW t el ρ' (aP a b c) Qf) k s),codeAny (model prog w) A (.compLoop (.ListComp elt [⟨.Name nm px,it,ifs,0⟩] sc' pos) 0 (.ref I) (.ref D) cenv) RR s
theorem uM {elt it:PySem.Expr} {ifs:List PySem.Expr} {sc':Scope} {pos px:Pos} {nm:Str} {ns':List Str} {cenv:Env} {ρ':Lc} {T₀:Im} {s₀:Shared} {D I:Nat} {rval:Value} {a b c:Int}:@iO prog w A s x ρ elt it ifs sc' pos px nm ns' cenv ρ' T₀ s₀ D I rval a b c:=ao (S:=λx:(Program×World×Around×Shared)×(Fx×Lc×PySem.Expr×PySem.Expr)×(List PySem.Expr×Scope×Pos×Pos)×(Str×List Str×Env×Lc)×(Im×Shared×Nat×Nat)×(Value×Int×Int×Int)=>@iO x.1.1 x.1.2.1 x.1.2.2.1 x.1.2.2.2 x.2.1.1 x.2.1.2.1 x.2.1.2.2.1 x.2.1.2.2.2 x.2.2.1.1 x.2.2.1.2.1 x.2.2.1.2.2.1 x.2.2.1.2.2.2 x.2.2.2.1.1 x.2.2.2.1.2.1 x.2.2.2.1.2.2.1 x.2.2.2.1.2.2.2 x.2.2.2.2.1.1 x.2.2.2.2.1.2.1 x.2.2.2.2.1.2.2.1 x.2.2.2.2.1.2.2.2 x.2.2.2.2.2.1 x.2.2.2.2.2.2.1 x.2.2.2.2.2.2.2.1 x.2.2.2.2.2.2.2.2) (x:=((default,dW,{},{}),(uK,[],default,default),([],default,default,default),(default,[],default,[]),(λ_=>none,{},0,0),(default,0,0,0))) (by
 refine (?_:∀prog w A s x ρ elt it ifs sc' pos px nm ns' cenv ρ' T₀ s₀ D I rval a b c,@iO prog w A s x ρ elt it ifs sc' pos px nm ns' cenv ρ' T₀ s₀ D I rval a b c) _ _ _ _ _ _ _ _ _ _ _ _ _ _ _ _ _ _ _ _ _ _ _ _;intro prog w A s x ρ elt it ifs sc' pos px nm ns' cenv ρ' T₀ s₀ D I rval a b c Qf RR t el hh hkf ht hel hkx hns hlen hL h0 hDC hIC hID hcb hcap hT0 hrv hfin k st;refine codeAny_compLoop_tests (uU x ρ T₀ s₀ D I cenv (.fW a b c) rval (cj a b c) (CW t el ρ' (aP a b c) Qf)) ?_ _ st;clear st;rintro k s ⟨j,H,T,acc,accV,e,m,rfl,hj,F,st,hcs⟩;have nID:I≠D:=Qh hID;have nIC:I≠cenv.locals:=Qh hIC;have nDC:D≠cenv.locals:=Qh hDC;have lLC:LT.lt (α:=Nat) x.env.locals cenv.locals:=Qq hL hDC;have l0C:LE.le (α:=Nat) x.h₀.objs.size cenv.locals:=Pb h0 (Pw hIC);have hI0:x.h₀.get? I=none:=iw h0;have own:=st.own;have hrv':=hrv.mono F.le
 cases hu:(aP a b c)[j]? with
 | none=>
  refine qo (H:=H) hh F.S hrv' rfl st hu λh' hx=>?_;have q:eA t el ρ' ((aP a b c).drop j) acc H Qf:=F.q;rw [Sa (List.getElem?_eq_none_iff.mp hu)] at q;refine hfin _ H (T.minus I) acc accV e m ⟨Im.lT F.le hT0,F.S.oJ own hI0 hx,⟨F.go.1,F.go.2⟩,?_,hx D _ nID.symm F.ol,F.vr.minus (F.S.hh own),F.len,F.hD,F.hC,q⟩;obtain ⟨o,es,ep,a1,a2⟩:=F.ns;exact ⟨o,es,ep,hx _ _ nIC.symm a1,a2⟩
 | some u=>
  refine nD (H:=H) F.S hrv' rfl st hu λh1 tk ual hual hs1 st1=>?_
  have hjl:j<cj a b c:=by
   have:=(Pz.mp hu).1;rwa [show (aP a b c).length=cj a b c by delta aP;rw [Ph,Ro]] at this
  have hx1:=hs1.extBut;have S1:aJ x h1 ρ H (T.minus I):=F.S.oJ own hI0 hx1;have ol1:=hx1 D _ nID.symm F.ol
  have ns1:h1.Ns cenv.locals m:=by
   obtain ⟨o,es,ep,a1,a2⟩:=F.ns;exact ⟨o,es,ep,hx1 _ _ nIC.symm a1,a2⟩
  have cs1:=jZ hcs hs1 own.gb;have q:eA t el ρ' ((aP a b c).drop j) acc H Qf:=F.q
  rw [show (aP a b c).drop j=u:: (aP a b c).drop (j+1) by
   refine bI (Pz.mp hu) λh1 h2=>?_
   rw [Ri h1,h2]] at q
  have done:∀{s':Shared} {H' T' acc' accV' e'},T.minus I |>.Le T'->jw s₀ s'->cA T' acc' accV'->acc'.length<=lim->CW t el ρ' (aP a b c) Qf (j+1) acc' H'->aJ x s'.heap ρ H' T'->s'.heap.get? D=some { cls:=.type "list",data:=.seq accV'.toArray e' }->fT (.fW a b c) rval I (j+1) s'.heap->H' D=none->H' cenv.locals=none->(∃m,s'.heap.Ns cenv.locals m)->(∀n c,cenv.cells.lookup n=some c->∃v,s'.heap.IsCell c v)->
   ∃m,m<cj a b c-j/\uU x ρ T₀ s₀ D I cenv (.fW a b c) rval (cj a b c) (CW t el ρ' (aP a b c) Qf) m s':=λle go vr len q S ol st hD hC ⟨m,ns⟩ cs=>
   ⟨_,Td hjl (PD j),j+1,_,_,_,_,_,m,rfl,hjl,⟨(Im.lT F.le hT0).trans le,S,go,ns,ol,vr,len,hD,hC,q⟩,st,cs⟩
  have key:∀{E:Value->Shared->Prop} (s2:Shared) (m2:Str->Option Value),jw s₀ s2->aJ x s2.heap ρ H (T.minus I)->s2.heap.Ns cenv.locals m2->s2.heap.get? D=some { cls:=.type "list",data:=.seq accV.toArray e }->fT (.fW a b c) rval I (j+1) s2.heap->
   (∀n c,cenv.cells.lookup n=some c->∃v,s2.heap.IsCell c v)->ky cenv m2 s2.heap nm ual->wpAny (model prog w) A (forIn ifs true λc r=>if r=true then do let ok <- isTrue c cenv (eval c cenv);pure (ForInStep.yield ok) else pure (ForInStep.yield r)) (λok s₃=>
    if ok=true then wpAny (model prog w) A (eval elt cenv) (λx_1 s₄=>wpAny (model prog w) A (call (.builtin "list.append") [.ref D,x_1]) (λ_ s₅=>∃m,m<cj a b c-j/\uU x ρ T₀ s₀ D I cenv (.fW a b c) rval (cj a b c) (CW t el ρ' (aP a b c) Qf) m s₅) E s₄) E s₃
    else ∃m,m<cj a b c-j/\uU x ρ T₀ s₀ D I cenv (.fW a b c) rval (cj a b c) (CW t el ρ' (aP a b c) Qf) m s₃) E s2:=by
   intro E s2 m2 go2 S2 ns2 ol2 st2 cs2 sl2;have hIn:H I=none:=S2.qc st2.own
   have S3:aJ (inner x s2.heap H cenv ns') s2.heap (ρ'.set 0 (some u)) H (T.minus I):=by
    refine S2.enter ns2 F.hC l0C cs2 λi v hv=>?_;by_cases hi:i=0
    ·subst hi;rw [uF hlen] at hv;cases hv;exact ⟨nm,ual,hns,sl2,hual.minus (F.S.hh own)⟩
    ·rw [qp hi] at hv;refine Kc (hcap i v hi hv) λn j' c1 _ c2 c3 c4 c5 c6=>?_;obtain ⟨m0,F0,hl0⟩:=S2.fr;refine fB (hl0 j' v c2) λn' val q1 q2 q3=>?_;rw [c3] at q1;cases q1;refine ⟨n,val,c1,?_,q3⟩;rcases q2 with ⟨p1,_⟩ | ⟨p1,cc,p2,p3⟩
     ·rcases c4 with c4 | c4<;>rw [c4] at p1<;>cases p1
     ·exact .inr ⟨c5,cc,c6 _ p2,p3⟩
   generalize hxi:inner x s2.heap H cenv ns'=xi at S3;have hin:∃h H,xi=inner x h H cenv ns':=⟨_,_,hxi.symm⟩
   have back:∀{ρ'':Lc} {H':Hp} {T':Im} {h':Heap},aJ xi h' ρ'' H' T'->(T.minus I).Le T'->aJ x h' ρ H' T'/\(h'.get? D=some { cls:=.type "list",data:=.seq accV.toArray e }/\H' D=none)/\fT (.fW a b c) rval I (j+1) h'/\H' cenv.locals=none/\(∃m,h'.Ns cenv.locals m)/\
    (∀n c,cenv.cells.lookup n=some c->∃v,h'.IsCell c v):=λS' le=>by
    subst hxi;refine ⟨S2.leave S' le lLC l0C (λn c hn=>Qq (hcb n c hn) hIC),S'.frozen hDC F.hD ol2,st2.keep λo ho=>(S'.frozen hIC hIn ho).1,S'.gY,?_,λn c hn=>?_⟩
    ·obtain ⟨m',F',_⟩:=S'.fr;exact ⟨m',F'.ns⟩
    ·refine aq (S'.jy n c hn) λv hv _=>?_;exact ⟨v,hv⟩
   have vr1:=F.vr.minus (F.S.hh own);refine uL (ht hin S3) (λS=>hel hin S) q (λs3 H3 T3 gw S4 go3 q3=>?_) λs4 H4 T4 v y le4 S5 go4 hv q4=>?_
   ·refine uJ (back S4 gw) λb1 b2 b3 b5 b6 b7=>?_;exact done gw ⟨go3.1.trans go2.1,go3.2.trans go2.2⟩ (vr1.mono gw) F.len q3 b1 b2.1 b3 b2.2 b5 b6 b7
   ·refine uJ (back S5 le4) ?_;rintro b1 b2 b3 b5 ⟨m4,b6⟩ b7;have vr4:=vr1.mono le4;refine append_at (hsz:=by have:=gZ;have:=q4.1;have:=vr1.length;rw [Qp];lia) b2.1 λh5 hs5 ho5=>?_;rw [show accV.toArray.push y=(accV++ [y]).toArray by rw [List.push_toArray]] at ho5
    exact done le4 ⟨go4.1.trans go2.1,go4.2.trans go2.2⟩ (vr4.append (.cons hv .nil)) (by rw [Pg];exact q4.1) q4.2 (b1.z5 b2.1 b2.2 (P5 hL) (iw (Pb h0 (Pw hID))) hs5.extBut) ho5 (b3.keep λo ho=>hs5.extBut _ _ nID ho) b2.2 b5 ⟨m4,b6.sameBut hs5 nDC.symm⟩
     (jZ b7 hs5 (oM b2.1 λ_=>nofun))
  show wpAny _ A (assign (.Name nm px) cenv ual) _ _ _;refine wpAny_assign_Name ?_;rcases hkx with hk | ⟨hk,c0,hc0,hc0C,hc0u⟩
  ·refine wpAny_storeName_local hk ns1 (λh2 ns2 hs2=>?_) (by rw [hkf];rfl);refine key _ _ ⟨F.go.1,F.go.2⟩ (S1.wj (s:={ s with heap:=h1 }) ns1 F.hC (P5 lLC) (iw l0C) hs2.extBut) ns2 (hs2.extBut _ _ nDC ol1) (st1.keep λo ho=>hs2.extBut _ _ nIC ho) (jZ cs1 hs2 λv hv=>?_) (.inl ⟨hk,by simp⟩);exact nU ns1 hv
  ·refine bI (cs1 _ _ hc0) λv0 hv0=>?_;refine wpAny_storeName_cell hkf hk hc0 hv0 λh2 hc2 hs2=>?_;have lIc:=Qq hIC hc0C;refine key _ m ⟨F.go.1,F.go.2⟩ (S1.Ct (s:={ s with heap:=h1 }) hv0 (iw (Pb l0C (Pw hc0C))) hs2 (Qh (Qq lLC hc0C)) λn c hn=>Qh (Qq (hcb _ _ hn) lIc)) (ns1.sameBut hs2 (Qh hc0C)) (hs2.extBut _ _ (Qh (Qq hDC hc0C)) ol1) (st1.keep λo ho=>hs2.extBut _ _ (Qh lIc) ho) (λn c hn=>?_) (.inr ⟨.inl hk,c0,hc0,hc2⟩);by_cases hcc:c=c0
   ·subst hcc;exact ⟨_,hc2⟩
   ·refine bI (cs1 n c hn) λv hv=>?_
    exact ⟨v,hv.sameBut hs2 hcc⟩) ((prog,w,A,s),(x,ρ,elt,it),(ifs,sc',pos,px),(nm,ns',cenv,ρ'),(T₀,s₀,D,I),(rval,a,b,c))
end
theorem fp (env:Env) (n:Str):∀names:List (Str×NameKind),
 (names.map λ(n,k)=>if (k == NameKind.free && env.scope.kind ==.function && env.kindOf n == some .cell) then (n,NameKind.cell) else (n,k)).lookup n =
  (names.lookup n).map λk=>if (k == NameKind.free && env.scope.kind ==.function && env.kindOf n == some .cell) then NameKind.cell else k
 | []=>rfl
 | (m,k)::r=>by
  have ih:=fp env n r;by_cases hm:(n == m)=true
  ·have:=eq_of_beq hm;subst this;by_cases hc:(k == NameKind.free && env.scope.kind ==.function && env.kindOf n == some .cell)=true
   ·rw [Qs];simp only [Po hc,Qn,hm,QE]
   ·rw [Qs];simp only [Pf hc,Qn,hm,QE]
  ·have hm':(n == m)=false:=by simpa using hm
   rw [Qs];by_cases hc:(k == NameKind.free && env.scope.kind ==.function && env.kindOf m == some .cell)=true
   ·simp only [Po hc,Qn,hm'];exact ih
   ·simp only [Pf hc,Qn,hm'];exact ih
section
variable {prog:Program} {w:World} {A:Around} {E:Value->Shared->Prop} {s:Shared} {x:Fx} {ρ:Lc} {H:Hp} {T:Im} {K:Frag} {base:Heap} {ca fa:Nat->Addr} {Γ:Sg} {sc:Scope} {ns:List Str}
theorem tR {elt it:PySem.Expr} {nm:Str} {px pos:Pos} {ifs:List PySem.Expr} {sc':Scope} {Q:K1} (hw:bp Γ (cE gt attrs sc ns (.ListComp elt [⟨.Name nm px,it,ifs,0⟩] sc' pos)) ρ H Q) :
 jm sc sc' nm it=true/\bp Γ (cE gt attrs sc ns it) ρ H (qn (bp Γ (tQ gt attrs sc' (bz nm sc') ifs)) (bp Γ (cE gt attrs sc' (bz nm sc') elt)) (gB ρ (iS nm sc' ns)) Q):=by
 cases ifs with
 | nil=>
  refine aq (nZ hw) λ_ h h2=>?_;cases h;refine aD (gn h2) λh h3=>?_;rw [Pe,Pe] at h;exact ⟨h.1.2,h3⟩
 | cons c r=>
  refine aq (nZ hw) λ_ h h2=>?_;cases h;refine aD (gn h2) λh h3=>?_;rw [Pe,Pe] at h;exact ⟨h.1.2,h3⟩
theorem AN {t el:Lc->Ev} {v:V} {Q:K1} (h:qn t el ρ Q v H):∃a b c,v=.fW a b c/\eA t el ρ (aP a b c) [] H (uz Q):=by
 delta qn fD at h
 cases v with
 | fW a b c=>exact ⟨a,b,c,rfl,h⟩
 | _=>exact h.elim
def iP {elt it:PySem.Expr} {nm:Str} {px pos pos':Pos} {ifs:List PySem.Expr} {sc':Scope} {use:Option (Value->Sem Unit)}:Prop:=∀(R:Rn prog w K base ca fa A Γ) (N:En x sc ns) (hb:x.base=base) (hc:x.ca=ca) (S:aJ x s.heap ρ H T) (hchk:jm sc sc' nm it=true) (hI:PE prog w K base ca fa it) (hE:PE prog w K base ca fa elt) (hT:∀c∈ifs,PT prog w K base ca fa c) (hifs:ifs.length<=1) {Q':K1} (hw:bp Γ (cE gt attrs sc ns it) ρ H (qn (bp Γ (tQ gt attrs sc' (bz nm sc') ifs)) (bp Γ (cE gt attrs sc' (bz nm sc') elt)) (gB ρ (iS nm sc' ns)) Q')) {Q:Value->Shared->Prop} (hfin:∀(D C:Addr) s' H' T' acc accV e m,D≠C->D≠x.env.locals->C≠x.env.locals->x.h₀.get? D=none->x.h₀.get? C=none->EO x ρ T s D C (uz Q') s' H' T' acc accV e m->compPost (model prog w) A E use Q (.ref D) C (.ok .next) s'),wpAny (model prog w) A (comprehension (.ListComp elt [⟨.Name nm px,it,ifs,0⟩] sc' pos) sc' x.env pos' (newList []) false (eval it x.env) use) Q E s
theorem nM {elt it:PySem.Expr} {nm:Str} {px pos pos':Pos} {ifs:List PySem.Expr} {sc':Scope} {use:Option (Value->Sem Unit)}:@iP prog w A E s x ρ H T K base ca fa Γ sc ns elt it nm px pos pos' ifs sc' use:=ao (S:=λx:(Program×World×Around×(Value->Shared->Prop))×(Shared×Fx×Lc×Hp)×(Im×Frag×Heap×(Nat->Addr))×((Nat->Addr)×Sg×Scope×List Str)×(PySem.Expr×PySem.Expr×Str×Pos)×(Pos×Pos×List PySem.Expr×Scope)×(Option (Value->Sem Unit))=>@iP x.1.1 x.1.2.1 x.1.2.2.1 x.1.2.2.2 x.2.1.1 x.2.1.2.1 x.2.1.2.2.1 x.2.1.2.2.2 x.2.2.1.1 x.2.2.1.2.1 x.2.2.1.2.2.1 x.2.2.1.2.2.2 x.2.2.2.1.1 x.2.2.2.1.2.1 x.2.2.2.1.2.2.1 x.2.2.2.1.2.2.2 x.2.2.2.2.1.1 x.2.2.2.2.1.2.1 x.2.2.2.2.1.2.2.1 x.2.2.2.2.1.2.2.2 x.2.2.2.2.2.1.1 x.2.2.2.2.2.1.2.1 x.2.2.2.2.2.1.2.2.1 x.2.2.2.2.2.1.2.2.2 x.2.2.2.2.2.2) (x:=((default,dW,{},λ_ _=>True),({},uK,[],λ_=>none),(λ_=>none,[],default,λ_=>0),(λ_=>0,λ_ _ _ _=>True,default,[]),(default,default,default,default),(default,default,[],default),none)) (by
 refine (?_:∀prog w A E s x ρ H T K base ca fa Γ sc ns elt it nm px pos pos' ifs sc' use,@iP prog w A E s x ρ H T K base ca fa Γ sc ns elt it nm px pos pos' ifs sc' use) _ _ _ _ _ _ _ _ _ _ _ _ _ _ _ _ _ _ _ _ _ _ _ _ _;intro prog w A E s x ρ H T K base ca fa Γ sc ns elt it nm px pos pos' ifs sc' use R N hb hc S hchk hI hE hT hifs Q' hw Q hfin;simp only [jm,Pe] at hchk;refine aD hchk ?_;rintro ⟨⟨⟨⟨hk,hcall⟩,hnm⟩,hx⟩,hfr⟩ hdb
 have hkind:sc'.kind=.function:=by revert hk;cases sc'.kind<;>first | (intro _;rfl) | (intro h;exact absurd h (by decide))
 have hnames:∀y∈sc'.names,y.2=.local->sc'.names.lookup y.1=some .local:=λy hy hl=>by
  have:=Pp.mp hnm y hy;rw [hl] at this;simpa using this
 have hfree:∀y∈sc'.names,y.2=.free->sc'.names.lookup y.1=some .free/\(sc.names.lookup y.1=some .cell\/sc.names.lookup y.1=some .free):=λy hy hl=>by
  have:=Pp.mp hfr y hy;rw [hl] at this;simpa using this
 have hcellnm:∀y∈sc'.names,y.2=.cell->y.1=nm:=λy hy hl=>by
  simp only [Qm,Pe] at hx;rcases hx with ⟨_,h2⟩ | ⟨_,h2⟩
  ·have:=Pp.mp h2 y hy;rw [hl] at this;simp at this
  ·have:=Pp.mp h2 y hy;rw [hl] at this;simpa using this
 have hnmk:sc'.names.lookup nm=some .local\/sc'.names.lookup nm=some .cell:=by
  simp only [Qm,Pe] at hx;rcases hx with ⟨h1,_⟩ | ⟨h1,_⟩
  ·exact .inl (eq_of_beq h1)
  ·exact .inr (eq_of_beq h1)
 refine gK (mS (env:=x.env) (scope:=sc') λy hy hl=>(N.cf y.1 (hfree y hy hl).2).2) λcl hclos hcl1 hcl2=>?_
 refine wpAny_comprehension_free (gs:=[]) (g:=⟨.Name nm px,it,ifs,0⟩) rfl (λy=>by
  cases it<;>first | rfl | exact Bool.noConfusion hcall) hclos hkind hnames (wpAny_mono (hI R N hb hc S hw) (λxv s1 h1=>?_) λ_ _ y=>y)
 obtain ⟨v,H1,T1,hv,le1,S1,go1,q1⟩:=h1;refine GY (AN q1) ?_;rintro a b c rfl q2;refine l9 S1 hv (vs:=aP a b c) rfl λh2 k2 st2=>?_
 have hIlt:s1.heap.objs.size<h2.objs.size:=by
  obtain ⟨o,e,_⟩:=st2.own.it;exact Heap.lt_size e
 refine wpAny_newObj_type (rA ?_) (by size_fits);dsimp only;rw [show (h2.push { cls:=.type "list",data:=.seq ([]:List Value).toArray }).objs.size=h2.objs.size+1 from Heap.size_push ..];generalize hD:h2.objs.size=D at *;generalize hI':s1.heap.objs.size=I at *;generalize hh4:pushCells ((h2.push { cls:=.type "list",data:=.seq ([]:List Value).toArray }).push { cls:=.type "dict",data:=.dict #[] }) sc'.names=h4;have k3:∀b o,h2.get? b=some o->(h2.push { cls:=.type "list",data:=.seq ([]:List Value).toArray }).get? b=some o:=λb o e=>Heap.get?_push_of_some _ e;have k4:∀b o,((h2.push { cls:=.type "list",data:=.seq ([]:List Value).toArray }).push { cls:=.type "dict",data:=.dict #[] }).get? b=some o->h4.get? b=some o:=λb o e=>hh4 ▸ pushCells_keeps _ _ b o e;have k:∀b o,s1.heap.get? b=some o->h4.get? b=some o:=λb o e=>k4 b o (Heap.get?_push_of_some _ (k3 b o (k2 b o e)))
 have e3:(h2.push { cls:=.type "list",data:=.seq ([]:List Value).toArray }).objs.size=D+1:=by rw [Heap.size_push,hD]
 have e4:((h2.push { cls:=.type "list",data:=.seq ([]:List Value).toArray }).push { cls:=.type "dict",data:=.dict #[] }).objs.size=D+1+1:=by rw [Heap.size_push,e3]
 have S4:aJ x h4 ρ H1 T1:=S1.grow k;have hDo:h4.get? D=some { cls:=.type "list",data:=.seq ([]:List Value).toArray }:=k4 _ _ (Heap.get?_push_of_some _ (by rw [<- hD];exact Heap.get?_push_size _ rfl))
 have hCn:h4.Ns (D+1) (λ_=>none):=by
  have:=Heap.Ns.new (h2.push { cls:=.type "list",data:=.seq ([]:List Value).toArray }) (.type "dict");rw [e3] at this;exact this.keeps k4
 have hcb:∀n c,x.env.cells.lookup n=some c->LT.lt (α:=Nat) c I:=λn c e=>by
  refine aq (S1.jy n c e) λv hv _=>?_;rw [<- hI'];exact hv.lt
 have hother:∀n,(∀y∈sc'.names,y.2=.cell->y.1≠n)->(cellsFrom (D+1+1) sc'.names cl).lookup n=cl.lookup n:=λn h=>eT _ _ _ h
 have hnew:∀n,(n,NameKind.cell)∈sc'.names->∃c,(cellsFrom (D+1+1) sc'.names cl).lookup n=some c/\D+1+1<=c/\h4.IsCell c none:=λn h=>by
  have:=fS (n:=n) (lo:=D+1+1) sc'.names ((h2.push { cls:=.type "list",data:=.seq ([]:List Value).toArray }).push { cls:=.type "dict",data:=.dict #[] }) cl (by rw [e4];exact Pt _) (.inl h);rw [e4,hh4] at this;exact this
 have hlk:∀n k,sc'.names.lookup n=some k->k≠.free->(relabel sc' x.env).names.lookup n=some k:=λn k e hne=>by
  show (sc'.names.map _).lookup n=_;rw [fp,e,QE]
  have:(k == NameKind.free)=false:=by simpa using hne
  simp [this]
 have hlkf:∀n,sc'.names.lookup n=some .free->(relabel sc' x.env).names.lookup n=some .cell\/(relabel sc' x.env).names.lookup n=some .free:=λn e=>by
  have:(relabel sc' x.env).names.lookup n=_:=fp x.env n sc'.names;rw [this,e,QE];split
  ·exact .inl rfl
  ·exact .inr rfl
 have hfn:∀n,sc'.names.lookup n=some .free->(cellsFrom (D+1+1) sc'.names cl).lookup n=cl.lookup n/\∃c,cl.lookup n=some c:=λn e=>by
  refine ⟨hother n λy hy hl q=>?_,hcl2 n (mem_of_lookup e)⟩;have:=hcellnm y hy hl;rw [<- q,this] at e
  rcases hnmk with h | h<;>rw [h] at e<;>cases e
 have hcs:∀n c,(cellsFrom (D+1+1) sc'.names cl).lookup n=some c->∃v,h4.IsCell c v:=λn c e=>by
  by_cases hcn:(n,NameKind.cell)∈sc'.names
  ·refine gK (hnew n hcn) λc' c1 _ c3=>?_;rw [c1] at e;cases e;exact ⟨_,c3⟩
  ·rw [hother n λy hy hl q=>hcn (by obtain ⟨y1,y2⟩:=y;cases hl;cases q;exact hy)] at e;refine aq (S1.jy n c (hcl1 n c e)) λv hv _=>?_;exact ⟨v,hv.keeps k⟩
 have loop:∀s5:Shared,s5={ s1 with heap:=h4 }->codeAny (model prog w) A (.compLoop (.ListComp elt [⟨.Name nm px,it,ifs,0⟩] sc' pos) 0 (.ref I) (.ref D)
  { newEnv sc' (D+1) x.env.globals (cellsFrom (D+1+1) sc'.names cl) x.env.qual none .none (some x.env) builtinsNs with scope:=relabel sc' x.env })
  (compPost (model prog w) A E use Q (.ref D) (D+1)) s5:=by
  rintro s5 rfl
  have N':∀h H,En (inner x h H { newEnv sc' (D+1) x.env.globals (cellsFrom (D+1+1) sc'.names cl) x.env.qual none .none (some x.env) builtinsNs with scope:=relabel sc' x.env } (bz nm sc')) sc' (bz nm sc'):=λh H=>by
   refine ⟨rfl,hkind,N.glob,N.blt,λn e=>hlk n _ e (by decide),λn e=>?_,λn hn=>?_⟩
   ·rcases e with e | e
    ·refine aq (hnew n (mem_of_lookup e)) λc c1 _=>?_;exact ⟨.inl (hlk n _ e (by decide)),c,c1⟩
    ·obtain ⟨f1,c,f2⟩:=hfn n e;exact ⟨hlkf n e,c,f1.trans f2⟩
   ·have:=Pp.mp hdb n hn;simpa using this
  refine uM (cenv:={ newEnv sc' (D+1) x.env.globals (cellsFrom (D+1+1) sc'.names cl) x.env.qual none .none (some x.env) builtinsNs with scope:=relabel sc' x.env }) (ns':=bz nm sc') (ρ:=ρ) (ρ':=gB ρ (iS nm sc' ns)) (T₀:=T1) (s₀:=s1) (Qf:=uz Q') (x:=x) (sc':=sc') (D:=D) (I:=I)
   (t:=bp Γ (tQ gt attrs sc' (bz nm sc') ifs)) (el:=bp Γ (cE gt attrs sc' (bz nm sc') elt)) R.hh hkind (λ⟨h,H,e⟩ S q=>by subst e;exact vk hifs hT R (N' h H) hb hc S q) (λ⟨h,H,e⟩ S q=>by subst e;exact hE R (N' h H) hb hc S q)
   ?_ rfl (by simp [gB,iS]) ?_ ?_ (PD _) (Qq hIlt (PD _)) hIlt hcb ?_ ?_ hv ?_ (s:={ s1 with heap:=h4 }) ⟨0,H1,T1,[],[],0,λ_=>none,rfl,Qc _,⟨Im.Le.refl _,S4,⟨rfl,rfl⟩,hCn,hDo,.nil,Qc _,?_,?_,q2⟩,?_,hcs⟩
  ·rcases hnmk with e | e
   ·exact .inl (hlk nm _ e (by decide))
   ·refine gK (hnew nm (mem_of_lookup e)) λc0 c1 c2 c3=>?_;refine .inr ⟨hlk nm _ e (by decide),c0,c1,Pa (PD _) c2,λn hn=>?_⟩;by_cases hne:n=nm
    ·exact hne
    ·have hn':(cellsFrom (D+1+1) sc'.names cl).lookup n=some c0:=hn;rw [hother n λy hy hl q=>hne (by rw [<- q];exact hcellnm y hy hl)] at hn';have:=hcb n c0 (hcl1 n c0 hn');exact absurd (Qq (Pa (Qg (Qg hIlt)) c2) this) (Qr _)
  ·have:=S1.lt;rw [hI'] at this;exact Qq this hIlt
  ·obtain ⟨m,F,_⟩:=S1.fr;have:=S1.lt;rw [hI'] at this;exact Pb F.above (Pw this)
  ·intro i v hi0 hg
   cases i with
   | zero=>exact absurd rfl hi0
   | succ i=>
    have hcap:gB ρ (iS nm sc' ns)=(none:Option V):: (bz nm sc').tail.map λn=>match ec n ns with | some i=>(ρ[i]?).join | none=>none:=by
     simp only [gB,iS,Qs,RB];congr 1
    rw [hcap] at hg;simp only [getL,List.getElem?_cons_succ,P1] at hg
    have htl:(bz nm sc')[i+1]?=(bz nm sc').tail[i]?:=by simp
    cases q:(bz nm sc').tail[i]? with
    | none=>rw [q] at hg;cases hg
    | some n=>
     rw [q] at hg;simp only [QE,Option.join_some] at hg;split at hg
     ·rename_i j hj
      have hmem:(n,NameKind.free)∈sc'.names:=by
       have:=PY q;simp only [bz,List.tail_cons,List.mem_filterMap] at this;refine aq this ?_;rintro ⟨n',k'⟩ m1 m2;split at m2
       ·rename_i hk';cases m2;rw [<- eq_of_beq hk'];exact m1
       ·cases m2
      have hf:=hfree _ hmem rfl;have cf:=N.cf n hf.2;obtain ⟨f1,c',f2⟩:=hfn n hf.1;refine ⟨n,j,by rw [htl,q],λe=>?_,hg,?_,cf.1,hlkf n hf.1,λc hcc=>?_⟩
      ·have:=hf.1;rw [e] at this
       rcases hnmk with h | h<;>rw [h] at this<;>cases this
      ·rw [N.JC];exact fy hj
      ·have:=hcl1 n c' f2;rw [hcc] at this;cases this;exact f1.trans f2
     ·cases hg
  ·cases q:T1 I with
   | none=>rfl
   | some o=>
    have:=Heap.lt_size (S1.eY I o q).1;rw [hI'] at this;exact absurd this (Qr _)
  ·intro s6 H6 T6 acc accV e m F
   have hlL:LT.lt (α:=Nat) x.env.locals I:=by have:=S1.lt;rw [hI'] at this;exact this
   have n0:∀a:Nat,I<=a->x.h₀.get? a=none:=λa ha=>S1.kZ (by rw [hI'];exact ha);refine hfin D (D+1) s6 H6 T6 acc accV e m (Qh (PD _)) (P5 (Qq hlL hIlt)) (P5 (Qq (Qq hlL hIlt) (PD _))) (n0 _ (Pw hIlt)) (n0 _ (Pw (Qq hIlt (PD _)))) ?_;exact ⟨le1.trans F.le,F.S,⟨F.go.1.trans go1.1,F.go.2.trans go1.2⟩,F.ns,F.ol,F.vr,F.len,F.hD,F.hC,F.q⟩
  ·exact S1.fresh (by rw [hI'];exact Pw hIlt)
  ·exact S1.fresh (by rw [hI'];exact Pw (Qq hIlt (PD _)))
  ·exact st2.keep λo ho=>k4 _ _ (Heap.get?_push_of_some _ (k3 _ _ ho))
 refine codeAny_compStart_list (loop _ rfl) ?_;have st4:fT (.fW a b c) xv I 0 h4:=st2.keep λo ho=>k4 _ _ (Heap.get?_push_of_some _ (k3 _ _ ho))
 exact wpAny_pyIter_rangeiter (s:={ s1 with heap:=h4 }) st4 (loop _ rfl)) ((prog,w,A,E),(s,x,ρ,H),(T,K,base,ca),(fa,Γ,sc,ns),(elt,it,nm,px),(pos,pos',ifs,sc'),use)
theorem wA {Q:K1} {vs:List V} {D:Addr} (h:uz Q vs H) (hD:H D=none):Q (.ref D) (H.upd D (.list vs)):=by
 exact h.q D hD
theorem rT:fU prog w K base ca fa:=by
 intro nm xp it elt ifs sc' pos hifs hI hE hT A Γ x sc ns ρ H T s E Q R N hb hc S hw;refine aD (tR hw) λhchk hw=>?_;rw [eval_ListComp];refine nM (use:=none) R N hb hc S hchk hI hE hT hifs hw λD C s' H' T' acc accV e m hDC hDL hCL h0D h0C F=>?_;refine ⟨m,F.ns,λh' hs=>?_⟩;have S':=F.S.wj (s:=s') F.ns F.hC hCL h0C hs.extBut;refine ⟨_,H'.upd D (.list acc),T',.ref _,F.le,?_,⟨F.go.1,F.go.2⟩,wA F.q F.hD⟩;refine ⟨S'.cJ,S'.fr,λb ob' e'=>?_,S'.eY,S'.jy⟩;unfold Hp.upd at e';by_cases hb':b=D
 ·subst hb';rw [Po rfl] at e';cases e';exact ⟨⟨_,hs.extBut _ _ hDC F.ol,.list F.vr F.len⟩,hDL,h0D⟩
 ·rw [Pf hb'] at e';exact S'.own b ob' e'
end
inductive Iu (T:Im):Fl->Flow->Prop
 | next:Iu T .next .next
 | brk:Iu T .brk .brk
 | ret {v:V} {val:Value}:VR T v val->Iu T (.ret v) (.ret val)
structure mU (x:Fx) (sc:Scope) (ns:List Str):Prop where
 en:En x sc ns
 nd:ns.Nodup
 kd:∀n∈ns,x.env.kindOf n=some .local\/(x.env.kindOf n=some .cell/\(∃c,x.env.cells.lookup n=some c)/\n∈x.W)
 ap:∀n n' c,x.env.cells.lookup n=some c->x.env.cells.lookup n'=some c->n=n'
inductive eu (x:Fx) (T:Im) (s:Shared) (Q:Fl->Lc->Hp->Prop) (f:Flow) (s':Shared):Prop
 | mk (fl:Fl) (ρ':Lc) (H':Hp) (T':Im) (hf:Iu T' fl f) (le:T.Le T') (S:aJ x s'.heap ρ' H' T') (go:jw s s') (q:Q fl ρ' H'):eu x T s Q f s'
section
variable (prog:Program) (w:World) (K:Frag) (base:Heap) (ca fa:Nat->Addr)
def PS (st:Stmt):Prop:=∀{A:Around} {Γ:Sg} {x:Fx} {sc:Scope} {ns:List Str} {ρ:Lc} {H:Hp} {T:Im} {s:Shared} {E:Value->Shared->Prop} {Q:Fl->Lc->Hp->Prop},
 Rn prog w K base ca fa A Γ->mU x sc ns->x.base=base->x.ca=ca->aJ x s.heap ρ H T->wpS Γ (cS gt attrs sc ns st) ρ H Q->wpAny (model prog w) A (exec st x.env) (eu x T s Q) E s
def u0 (b:List Stmt):Prop:=∀{A:Around} {Γ:Sg} {x:Fx} {sc:Scope} {ns:List Str} {ρ:Lc} {H:Hp} {T:Im} {s:Shared} {E:Value->Shared->Prop} {Q:Fl->Lc->Hp->Prop},
 Rn prog w K base ca fa A Γ->mU x sc ns->x.base=base->x.ca=ca->aJ x s.heap ρ H T->aO Γ (cB gt attrs sc ns b) ρ H Q->wpAny (model prog w) A (execs b x.env) (eu x T s Q) E s
end
section
variable {prog:Program} {w:World} {A:Around} {E:Value->Shared->Prop} {s:Shared} {x:Fx} {ρ:Lc} {H:Hp} {T:Im} {K:Frag} {base:Heap} {ca fa:Nat->Addr} {Γ:Sg} {sc:Scope} {ns:List Str}
theorem eu.up {T':Im} {s' s'':Shared} {Q:Fl->Lc->Hp->Prop} {f:Flow} (le:T.Le T') (hs:jw s s') (h:eu x T' s' Q f s''):eu x T s Q f s'':=by
 obtain ⟨fl,ρ',H',T'',a,b,c,d,e⟩:=h;exact ⟨fl,ρ',H',T'',a,le.trans b,c,⟨d.1.trans hs.1,d.2.trans hs.2⟩,e⟩
theorem Jg {T':Im} {s₁:Shared} {m:Sem Flow} {Q:Fl->Lc->Hp->Prop} (le:T.Le T') (hs:jw s s₁) (h:wpAny (model prog w) A m (eu x T' s₁ Q) E s₁):wpAny (model prog w) A m (eu x T s Q) E s₁:=
 wpAny_mono h (λ_ _ h=>h.up le hs) λ_ _ h=>h
theorem eu.keep (S:aJ x s.heap ρ H T) {Q:Fl->Lc->Hp->Prop} {fl:Fl} {f:Flow} (hf:Iu T fl f) (hq:Q fl ρ H):eu x T s Q f s:=⟨fl,ρ,H,T,hf,Im.Le.refl T,S,⟨rfl,rfl⟩,hq⟩
theorem nF {ρ:Lc} {i j:Nat} {v u:V} (h:getL (cR ρ i v) j=some u):(j=i/\u=v)\/(j≠i/\getL ρ j=some u):=by
 unfold getL cR at h;by_cases hj:j=i
 ·subst hj;rw [QR] at h;simp only [if_true] at h;split at h
  ·simp at h;exact .inl ⟨rfl,h.symm⟩
  ·cases h
 ·rw [List.getElem?_set_ne (Ne.symm hj)] at h;exact .inr ⟨hj,h⟩
theorem jK:∀{l:List Str},l.Nodup->∀{i j:Nat} {a:Str},l[i]?=some a->l[j]?=some a->i=j
 | [],_,_,_,_,hi,_=>by simp at hi
 | b::r,h,i,j,a,hi,hj=>by
  refine aD (SY.mp h) λh1 h2=>?_
  cases i with
  | zero=>
   cases j with
   | zero=>rfl
   | succ j=>simp at hi hj;subst hi;exact absurd (PY hj) h1
  | succ i=>
   cases j with
   | zero=>simp at hi hj;subst hj;exact absurd (PY hi) h1
   | succ j=>simp at hi hj;rw [jK h2 hi hj]
def jC:Prop:=∀(N:mU x sc ns) (S:aJ x s.heap ρ H T) {n:Str} {i:Nat} (hi:ec n ns=some i) {v:V} {val:Value} (hv:VR T v val) {Q:Unit->Shared->Prop} (hQ:∀h' tk,aJ x h' (cR ρ i v) H T->(∀b o,b≠x.env.locals->(∀v,¬s.heap.IsCell b v)->s.heap.get? b=some o->h'.get? b=some o)->Q () { s with heap:=h',toks:=tk }),wpAny (model prog w) A (storeName x.env n val) Q E s
theorem i4:@jC prog w A E s x ρ H T sc ns:=ao (S:=λx:(Program×World×Around×(Value->Shared->Prop))×(Shared×Fx×Lc×Hp)×(Im×Scope×List Str)=>@jC x.1.1 x.1.2.1 x.1.2.2.1 x.1.2.2.2 x.2.1.1 x.2.1.2.1 x.2.1.2.2.1 x.2.1.2.2.2 x.2.2.1 x.2.2.2.1 x.2.2.2.2) (x:=((default,dW,{},λ_ _=>True),({},uK,[],λ_=>none),(λ_=>none,default,[]))) (by
 refine (?_:∀prog w A E s x ρ H T sc ns,@jC prog w A E s x ρ H T sc ns) _ _ _ _ _ _ _ _ _ _ _;intro prog w A E s x ρ H T sc ns N S n i hi v val hv Q hQ;obtain ⟨m,F,hl⟩:=S.fr;have hn:=fy hi;have hkf:=N.en.kind;have hnx:=N.en.JC;rcases N.kd n (PY hn) with hk | ⟨hk,⟨c,hc⟩,hW⟩
 ·refine wpAny_storeName_local hk F.ns (λh' hns hs=>hQ h' _ ?_ λb o hb _ e=>hs.extBut b o hb e) (by rw [hkf];rfl);have kp:∀b o,b≠x.env.locals->s.heap.get? b=some o->h'.get? b=some o:=λb o hb e=>hs.extBut b o hb e;have nL:∀{c v},s.heap.IsCell c v->c≠x.env.locals:=λhc q=>nU F.ns (q ▸ hc);refine ⟨S.cJ,⟨_,F.set hns hs,λj u e=>?_⟩,λa ob e=>?_,λa o e=>?_,λn' c hn'=>?_⟩
  ·rcases nF e with ⟨rfl,rfl⟩ | ⟨hj,e⟩
   ·exact ⟨n,val,by rw [hnx];exact hn,.inl ⟨hk,by simp⟩,hv⟩
   ·refine fB (hl j u e) λn' val' q1 q2 q3=>?_;refine ⟨n',val',q1,?_,q3⟩;rcases q2 with ⟨q2,q4⟩ | ⟨p1,c,p2,p3⟩
    ·have hne:n'≠n:=λq=>hj (by subst q;rw [hnx] at q1;exact jK N.nd q1 hn);exact .inl ⟨q2,by show (if n'=n then some val else m n')=_;rw [Pf hne];exact q4⟩
    ·exact .inr ⟨p1,c,p2,p3.sameBut hs (nL p3)⟩
  ·refine dH (S.own a ob e) ?_;rintro ⟨o,q1,q2⟩ q3 q4;exact ⟨⟨o,kp _ _ q3 q1,q2⟩,q3,q4⟩
  ·have:=S.eY a o e;refine ⟨kp _ _ (λq=>?_) this.1,this.2⟩;subst q;rw [S.kQ S.jO F.ns] at e;cases e
  ·refine aq (S.jy n' c hn') λv a3 a4=>?_;exact ⟨v,a3.sameBut hs (nL a3),a4⟩
 ·refine aq (S.jy n c hc) λv0 hv0 h00=>?_;have c00:=h00 hW;have cn:=S.j0 hv0;have nL:x.env.locals≠c:=λq=>nU F.ns (q ▸ hv0);refine wpAny_storeName_cell hkf hk hc hv0 λh' hc' hs=>hQ h' s.toks ?_ λb o _ hv e=>hs.extBut b o (λq=>by subst q;exact hv _ hv0) e;have kp:∀b o,b≠c->s.heap.get? b=some o->h'.get? b=some o:=λb o hb e=>hs.extBut b o hb e;refine ⟨S.cJ,⟨m,⟨F.ns.sameBut hs nL,λb o e=>kp b o (λq=>by subst q;rw [c00] at e;cases e) (F.keep b o e),F.above⟩,λj u e=>?_⟩,λa ob e=>?_,λa o e=>?_,λn' c' hn'=>?_⟩
  ·rcases nF e with ⟨rfl,rfl⟩ | ⟨hj,e⟩
   ·exact ⟨n,val,by rw [hnx];exact hn,.inr ⟨.inl hk,c,hc,hc'⟩,hv⟩
   ·refine fB (hl j u e) λn' val' q1 q2 q3=>?_;refine ⟨n',val',q1,?_,q3⟩;rcases q2 with q2 | ⟨p1,c',p2,p3⟩
    ·exact .inl q2
    ·refine .inr ⟨p1,c',p2,p3.sameBut hs λq=>?_⟩;subst q;have:=N.ap _ _ _ p2 hc;subst this;exact hj (by rw [hnx] at q1;exact jK N.nd q1 hn)
  ·refine dH (S.own a ob e) ?_;rintro ⟨o,q1,q2⟩ q3 q4;exact ⟨⟨o,kp _ _ (λq=>by subst q;rw [cn.1] at e;cases e) q1,q2⟩,q3,q4⟩
  ·exact ⟨kp _ _ (λq=>by subst q;rw [cn.2 c00] at e;cases e) (S.eY a o e).1,(S.eY a o e).2⟩
  ·by_cases hcc:c'=c
   ·subst hcc;refine aq (S.jy n' c' hn') λv a3 a4=>?_;exact ⟨_,hc',a4⟩
   ·refine aq (S.jy n' c' hn') λv a3 a4=>?_;exact ⟨v,a3.sameBut hs hcc,a4⟩) ((prog,w,A,E),(s,x,ρ,H),(T,sc,ns))
end
section
variable {prog:Program} {w:World} {A:Around} {E:Value->Shared->Prop} {s:Shared} {x:Fx} {ρ:Lc} {H:Hp} {T:Im} {K:Frag} {base:Heap} {ca fa:Nat->Addr} {Γ:Sg} {sc:Scope} {ns:List Str}
theorem yL.next {Q:Fl->Lc->Hp->Prop} {s':Shared} (h:yL x ρ T s (λH=>Q .next ρ H) s'):eu x T s Q .next s':=by
 obtain ⟨H',T'',b,c,d,e⟩:=h;exact ⟨.next,ρ,H',T'',.next,b,c,d,e⟩
theorem vy (N:mU x sc ns) (S:aJ x s.heap ρ H T) {n:Str} {i:Nat} (hi:ec n ns=some i) {v:V} {val:Value} (hv:VR T v val) {Q:Fl->Lc->Hp->Prop} (hq:Q .next (cR ρ i v) H) :
 wpAny (model prog w) A (storeName x.env n val) (λ_=>eu x T s Q .next) E s:=
 i4 N S hi hv λ_ _ S' _=>⟨.next,_,H,T,.next,Im.Le.refl T,S',⟨rfl,rfl⟩,hq⟩
theorem ma (N:En x sc ns):interactive x.env=false:=by
 have h:(ScopeKind.function == ScopeKind.module)=false:=by decide
 unfold interactive;rw [N.kind,h];rfl
theorem kv {st:Stmt} (h:∀sc ns,cS gt attrs sc ns st=.bad):PS prog w K base ca fa st:=by
 intro A Γ x sc ns ρ H T s E Q R N hb hc S hw;rw [h] at hw;exact hw.elim
theorem xy {v:V} {P:Prop} (h:ji v P):P:=by
 delta ji at h
 cases v<;>first | exact h | exact h.elim
theorem DV {e:PySem.Expr} {pos:Pos} (he:PE prog w K base ca fa e):PS prog w K base ca fa (.Expr e pos):=by
 intro A Γ x sc ns ρ H T s E Q R N hb hc S hw;refine aD (vf hw) λhcall hw=>?_;exact wpAny_Expr_any (bG (he R N.en hb hc S hw) λv H' T' val s₁ le hs S' hv hq=>eu.up le hs (eu.keep S' .next (xy hq))) (ma N.en) (by cases e<;>first | rfl | exact Bool.noConfusion hcall)
theorem uO {e:PySem.Expr} {n:Str} {p pos:Pos} {i:Nat} (he:PE prog w K base ca fa e) (R:Rn prog w K base ca fa A Γ) (N:mU x sc ns) (hb:x.base=base) (hc:x.ca=ca) (S:aJ x s.heap ρ H T) (hi:ec n ns=some i) {Q:Fl->Lc->Hp->Prop}
 (hw:bp Γ (cE gt attrs sc ns e) ρ H (Ao i ρ Q)) (hs:swapsWith e (some (.Name n p)) pos.line x.env=pure false):wpAny (model prog w) A (exec (.Assign [.Name n p] e pos) x.env) (eu x T s Q) E s:=by
 refine wpAny_Assign_Name (bG (he R N.en hb hc S hw) λv H' T' val s₁ le hs S' hv hq=>?_) hs;exact wpAny_mono (vy N S' hi hv hq) (λ_ _ h=>h.up le hs) λ_ _ h=>h
theorem yB {elt it:PySem.Expr} {nm:Str} {px cpos:Pos} {ifs:List PySem.Expr} {sc':Scope} {n:Str} {p pos:Pos} {i:Nat} (hifs:ifs.length<=1) (hI:PE prog w K base ca fa it) (hE:PE prog w K base ca fa elt) (hT:∀c∈ifs,PT prog w K base ca fa c)
 (R:Rn prog w K base ca fa A Γ) (N:mU x sc ns) (hb:x.base=base) (hc:x.ca=ca) (S:aJ x s.heap ρ H T) (hi:ec n ns=some i) {Q:Fl->Lc->Hp->Prop}
 (hw:bp Γ (cE gt attrs sc ns (.ListComp elt [⟨.Name nm px,it,ifs,0⟩] sc' cpos)) ρ H (Ao i ρ Q))
 (hs:swapsWith (.ListComp elt [⟨.Name nm px,it,ifs,0⟩] sc' cpos) (some (.Name n p)) pos.line x.env=pure true):wpAny (model prog w) A (exec (.Assign [.Name n p] (.ListComp elt [⟨.Name nm px,it,ifs,0⟩] sc' cpos) pos) x.env) (eu x T s Q) E s:=by
 refine aD (tR hw) λhchk hw=>?_;rw [exec_Assign_Name_used _ _ _ _ hs];refine wpAny_bind (wpAny_standAt (wpAny_bind ?_));show wpAny _ A (do let _ <- comprehension (.ListComp elt [⟨.Name nm px,it,ifs,0⟩] sc' cpos) sc' x.env _ (newList []) false (eval it x.env) (some (assign (.Name n p) x.env))) _ _ s;refine wpAny_bind (wpAny_mono (nM (use:=some (assign (.Name n p) x.env)) (Q:=λ_ s'=>eu x T s Q .next s') R N.en hb hc S hchk hI hE hT hifs hw λD C s' H' T' acc accV e m hDC hDL hCL h0D h0C F=>?_) (λ_ s' hq=>wpAny_pure (wpAny_pure hq)) λ_ _ y=>y);show wpAny _ A (assign (.Name n p) x.env (.ref D)) _ _ _;refine wpAny_assign_Name ?_
 have S1:aJ x s'.heap ρ (H'.upd D (.list acc)) T':=by
  refine ⟨F.S.cJ,F.S.fr,λb ob' e'=>?_,F.S.eY,F.S.jy⟩;unfold Hp.upd at e';by_cases hb':b=D
  ·subst hb';rw [Po rfl] at e';cases e';exact ⟨⟨_,F.ol,.list F.vr F.len⟩,hDL,h0D⟩
  ·rw [Pf hb'] at e';exact F.S.own b ob' e'
 have hC1:(H'.upd D (.list acc)) C=none:=by unfold Hp.upd;rw [Pf (Ne.symm hDC)];exact F.hC
 have nc:∀v,¬s'.heap.IsCell C v:=λv c=>nU F.ns c;refine i4 N S1 hi (.ref D) λh2 tk S2 kp=>?_
 have hns2:h2.Ns C m:=by
  obtain ⟨o',es,ep,a1,a2⟩:=F.ns;exact ⟨o',es,ep,kp _ _ hCL nc a1,a2⟩
 refine ⟨m,hns2,λh' hs=>?_⟩;have S3:=S2.wj (s:={ s' with heap:=h2,toks:=tk }) hns2 hC1 hCL h0C hs.extBut;exact ⟨.next,_,_,T',.next,F.le,S3,⟨F.go.1,F.go.2⟩,wA F.q F.hD⟩
theorem gP {e:PySem.Expr} {t:PySem.Expr} {l:Nat} {env:Env} (h:∀n p,t≠.Name n p):swapsWith e (some t) l env=pure false:=by
 cases e<;>first | rfl | (cases t<;>first | rfl | exact absurd rfl (h _ _))
theorem qY {elt:PySem.Expr} {gens:List Comprehension} {sc':Scope} {cpos:Pos} {n:Str} {p:Pos} {l:Nat} {env:Env}:∃b,swapsWith (.ListComp elt gens sc' cpos) (some (.Name n p)) l env=pure b:=⟨_,rfl⟩
end
section
variable {prog:Program} {w:World} {A:Around} {E:Value->Shared->Prop} {s:Shared} {x:Fx} {ρ:Lc} {H:Hp} {T:Im} {K:Frag} {base:Heap} {ca fa:Nat->Addr} {Γ:Sg} {sc:Scope} {ns:List Str}
theorem Ig (hA:∀e,fZ prog w K base ca fa e) {e:PySem.Expr} {n:Str} {p pos:Pos}:PS prog w K base ca fa (.Assign [.Name n p] e pos):=by
 intro A Γ x sc ns ρ H T s E Q R N hb hc S hw;refine aq (iZ hw) λi hi hw=>?_;have hw:bp Γ (cE gt attrs sc ns e) ρ H (Ao i ρ Q):=hw;have key:=λh=>uO (E:=E) (p:=p) (pos:=pos) (hA _).1 R N hb hc S hi hw h
 cases e with
 | SetComp a b c d=>exact hw.elim
 | DictComp a b c d f=>exact hw.elim
 | ListComp elt gens sc' cpos=>
  refine bI (qY (elt:=elt) (gens:=gens) (sc':=sc') (cpos:=cpos) (n:=n) (p:=p) (l:=pos.line) (env:=x.env)) λb hbb=>?_
  cases b with
  | false=>exact key hbb
  | true=>
   refine xC (mj hw) ?_;rintro nm xp it ifs rfl hl;exact yB hl (hA _).1 (hA _).1 (λc _=>(hA c).2) R N hb hc S hi hw hbb
 | _=>exact key rfl
theorem BS {a:Str} {n:Nat} (h:ec a attrs=some n):n<attrs.length/\a=an n:=by
 have h:=fy h;refine ⟨(Pz.mp h).1,?_⟩;unfold an;rw [Pc,h];rfl
theorem pF {b:gD} {v u:V} {P:V->Prop} (h:kH b v u P):∃i j,v=.int i/\u=.int j/\BQ b i j λz=>P (.int z):=by
 cases h with
 | mk h=>exact ⟨_,_,rfl,rfl,h⟩
theorem EB (hA:∀e,fZ prog w K base ca fa e) {e o:PySem.Expr} {a:Str} {p pos:Pos}:PS prog w K base ca fa (.Assign [.Attribute o a p] e pos):=by
 intro A Γ x sc ns ρ H T s E Q R N hb hc S hw;refine aq (iZ hw) λn hn hw2=>?_;clear hw;refine aD (BS hn) ?_;rintro hlt rfl;refine plainObj_wpAny_Assign_Attribute (bG ((hA e).1 R N.en hb hc S (Q:=Bw (bp Γ (cE gt attrs sc ns o) ρ) n ρ Q) hw2) λv H1 T1 val s1 le1 go1 S1 hv q1=>?_) (gP λ_ _=>nofun);refine bG ((hA o).1 R N.en hb hc S1 q1) λv2 H2 T2 val2 s2 le2 go2 S2 hv2 q2=>?_;exact wpAny_mono (lI (hb ▸ R.tv) (hc ▸ R.cls) S2 hv2 (hv.mono le2) hlt q2) (λ_ _ h=>eu.up (le1.trans le2) ⟨go2.1.trans go1.1,go2.2.trans go1.2⟩ h.next) λ_ _ h=>h
theorem EA (hA:∀e,fZ prog w K base ca fa e) {e o i:PySem.Expr} {p pos:Pos}:PS prog w K base ca fa (.Assign [.Subscript o i p] e pos):=by
 intro A Γ x sc ns ρ H T s E Q R N hb hc S hw;refine wpAny_Assign_Subscript (bG ((hA e).1 R N.en hb hc S (Q:=Bv (bp Γ (cE gt attrs sc ns o) ρ) (bp Γ (cE gt attrs sc ns i) ρ) ρ Q) hw) λv H1 T1 val s1 le1 go1 S1 hv q1=>?_) (gP λ_ _=>nofun);refine bG ((hA o).1 R N.en hb hc S1 q1) λv2 H2 T2 val2 s2 le2 go2 S2 hv2 q2=>?_;refine bG ((hA i).1 R N.en hb hc S2 q2) λv3 H3 T3 val3 s3 gw go3 S3 hv3 q3=>?_;exact wpAny_mono (lH S3 (hv2.mono gw) hv3 ((hv.mono le2).mono gw) q3) (λ_ _ h=>eu.up (le1.trans (le2.trans gw)) ⟨go3.1.trans (go2.1.trans go1.1),go3.2.trans (go2.2.trans go1.2)⟩ h.next) λ_ _ h=>h
theorem Eu {i:Nat} {b:gD} {e:Internal.E} {Q:KS} (h:wpS Γ (.aug i b e) ρ H Q):∃v,getL ρ i=some v/\bp Γ e ρ H (DF i b v ρ Q):=by
 revert h;show (match getL ρ i with | some v=>bp Γ e ρ H (DF i b v ρ Q) | none=>False)->_
 cases getL ρ i with
 | none=>exact False.elim
 | some v=>exact λh=>⟨v,rfl,h⟩
theorem H9 (hA:∀e,fZ prog w K base ca fa e) {e:PySem.Expr} {n:Str} {op:Operator} {p pos:Pos}:PS prog w K base ca fa (.AugAssign (.Name n p) op e pos):=by
 intro A Γ x sc ns ρ H T s E Q R N hb hc S hw;refine aq (iZ hw) λi hi hw=>?_;refine aq (iZ hw) λo ho hw=>?_;refine aq (Eu hw) λv hv hw2=>?_;refine wpAny_AugAssign_Name (ki N.en S hi hv λval hval=>?_);refine bG ((hA e).1 R N.en hb hc S hw2) λv2 H2 T2 val2 s2 le2 go2 S2 hv2 q2=>?_;refine fB (pF q2) ?_;rintro _ _ rfl rfl r;refine hval.ei λ_=>hv2.ei λ_=>?_;refine o3 ho r λz hz=>?_;exact wpAny_mono (vy (s:={ s2 with toks:=s2.toks+1 }) N S2 hi (.int z _) hz) (λ_ _ h=>eu.up (s':={ s2 with toks:=s2.toks+1 }) le2 ⟨go2.1,go2.2⟩ h) λ_ _ h=>h
theorem Ex (hA:∀e,fZ prog w K base ca fa e) {e o:PySem.Expr} {a:Str} {op:Operator} {p pos:Pos}:PS prog w K base ca fa (.AugAssign (.Attribute o a p) op e pos):=by
 intro A Γ x sc ns ρ H T s E Q R N hb hc S hw;refine aq (iZ hw) λn hn hw2=>?_;clear hw;refine aq (iZ hw2) λb ho hw=>?_;clear hw2;have hw:bp Γ (cE gt attrs sc ns o) ρ H (By (bp Γ (cE gt attrs sc ns e) ρ) n b ρ Q):=hw;refine aD (BS hn) ?_;rintro hlt rfl;refine wpAny_AugAssign_AttributeAny (bG ((hA o).1 R N.en hb hc S hw) λv H1 T1 val s1 le1 go1 S1 hv q1=>?_);refine bG (tZ (hb ▸ R.tv) (hc ▸ R.cls) S1 hv hlt q1) λv2 H2 T2 val2 s2 le2 go2 S2 hv2 q2=>?_;refine bG ((hA e).1 R N.en hb hc S2 q2) λv3 H3 T3 val3 s3 gw go3 S3 hv3 q3=>?_;refine fB (pF q3) ?_;rintro _ _ rfl rfl r;refine hv2.ei λ_=>hv3.ei λ_=>?_;refine o3 ho r λz hz=>?_;exact wpAny_mono (lI (s:={ s3 with toks:=s3.toks+1 }) (hb ▸ R.tv) (hc ▸ R.cls) S3 ((hv.mono le2).mono gw) (.int z s3.toks) hlt hz) (λ_ _ h=>eu.up (s':={ s3 with toks:=s3.toks+1 }) (le1.trans (le2.trans gw)) ⟨go3.1.trans (go2.1.trans go1.1),go3.2.trans (go2.2.trans go1.2)⟩ h.next) λ_ _ h=>h
theorem mw {i:PySem.Expr} (h:g9 i=false) (ov iv new:Value):augStore i ov iv new=(do holding [new,ov,iv] (setItem ov iv new);release [new,ov,iv] [];pure .next):=by
 cases i<;>first | rfl | cases h
theorem Ew (hA:∀e,fZ prog w K base ca fa e) {e o i:PySem.Expr} {op:Operator} {p pos:Pos}:PS prog w K base ca fa (.AugAssign (.Subscript o i p) op e pos):=by
 intro A Γ x sc ns ρ H T s E Q R N hb hc S hw;refine aD (vf hw) λhsl hw=>?_;refine aq (iZ hw) λb ho hw=>?_;have hsl:g9 i=false:=P4 _ ▸ hsl;refine wpAny_AugAssign_SubscriptAny (bG ((hA o).1 R N.en hb hc S (Q:=Bx (bp Γ (cE gt attrs sc ns i) ρ) (bp Γ (cE gt attrs sc ns e) ρ) b ρ Q) hw) λv H1 T1 val s1 le1 go1 S1 hv q1=>?_) (mw hsl);refine bG ((hA i).1 R N.en hb hc S1 q1) λv2 H2 T2 val2 s2 le2 go2 S2 hv2 q2=>?_;refine bG (mc S2 (hv.mono le2) hv2 q2) λv3 H3 T3 val3 s3 gw go3 S3 hv3 q3=>?_;refine bG ((hA e).1 R N.en hb hc S3 q3) λv4 H4 T4 val4 s4 le4 go4 S4 hv4 q4=>?_;refine fB (pF q4) ?_;rintro _ _ rfl rfl r;refine hv3.ei λ_=>hv4.ei λ_=>?_;refine o3 ho r λz hz=>?_
 exact wpAny_mono (lH (s:={ s4 with toks:=s4.toks+1 }) S4 ((hv.mono le2).mono (gw.trans le4)) (hv2.mono (gw.trans le4)) (.int z s4.toks) hz)
  (λ_ _ h=>eu.up (s':={ s4 with toks:=s4.toks+1 }) (le1.trans (le2.trans (gw.trans le4))) ⟨go4.1.trans (go3.1.trans (go2.1.trans go1.1)),go4.2.trans (go3.2.trans (go2.2.trans go1.2))⟩ h.next) λ_ _ h=>h
theorem J2 (hA:∀e,fZ prog w K base ca fa e) {t:PySem.Expr} {a b:List Stmt} {pos:Pos} (ha:u0 prog w K base ca fa a) (hb':u0 prog w K base ca fa b):PS prog w K base ca fa (.If t a b pos):=by
 intro A Γ x sc ns ρ H T s E Q R N hb hc S hw
 have e:An (aO Γ (cB gt attrs sc ns a) ρ) (aO Γ (cB gt attrs sc ns b) ρ) Q=Tr λc H=>match c with | true=>aO Γ (cB gt attrs sc ns a) ρ H Q | false=>aO Γ (cB gt attrs sc ns b) ρ H Q:=by
  funext v H;delta An cz Tr;dsimp only
  cases truthy v with
  | none=>rfl
  | some c=>cases c<;>rfl
 have hw:bp Γ (cE gt attrs sc ns t) ρ H (An (aO Γ (cB gt attrs sc ns a) ρ) (aO Γ (cB gt attrs sc ns b) ρ) Q):=hw;rw [e] at hw;refine wpAny_If (wpAny_mono ((hA t).2 R N.en hb hc S hw) (λc s1 ⟨H1,T1,le1,S1,go1,q1⟩=>?_) λ_ _ h=>h)
 cases c with
 | true=>exact Jg le1 go1 (ha R N hb hc S1 q1)
 | false=>exact Jg le1 go1 (hb' R N hb hc S1 q1)
theorem Fz (hA:∀e,fZ prog w K base ca fa e) {e:PySem.Expr} {pos:Pos}:PS prog w K base ca fa (.Return (some e) pos):=by
 intro A Γ x sc ns ρ H T s E Q R N hb hc S hw;have hw:bp Γ (cE gt attrs sc ns e) ρ H (Gn ρ Q):=hw;exact wpAny_Return_some (bG ((hA e).1 R N.en hb hc S hw) λv H1 T1 val s1 le1 go1 S1 hv q1=>eu.up le1 go1 (eu.keep S1 (.ret hv) q1))
theorem Cs {pos:Pos}:PS prog w K base ca fa (.Return none pos):=by
 intro A Γ x sc ns ρ H T s E Q R N hb hc S hw;exact wpAny_Return_none (eu.keep S (.ret .none) hw)
theorem HQ {pos:Pos}:PS prog w K base ca fa (.Break pos):=by
 intro A Γ x sc ns ρ H T s E Q R N hb hc S hw;exact PySem.wpAny_Break (eu.keep S .brk hw)
theorem zF {e c:Option PySem.Expr} {pos:Pos}:PS prog w K base ca fa (.Raise e c pos):=by
 intro A Γ x sc ns ρ H T s E Q R N hb hc S hw;exact hw.elim
theorem FR:u0 prog w K base ca fa []:=by
 intro A Γ x sc ns ρ H T s E Q R N hb hc S hw;exact wpAny_execs_nil (eu.keep S .next hw)
theorem DY {st:Stmt} {r:List Stmt} (h1:PS prog w K base ca fa st) (h2:u0 prog w K base ca fa r):u0 prog w K base ca fa (st::r):=by
 intro A Γ x sc ns ρ H T s E Q R N hb hc S hw;refine wpAny_execs_cons (wpAny_mono (h1 R N hb hc S (Q:=Gm (aO Γ (cB gt attrs sc ns r)) Q) hw) (λf s1 ⟨fl,ρ1,H1,T1,hf,le1,S1,go1,q1⟩=>?_) λ_ _ h=>h)
 cases hf with
 | next=>exact Jg le1 go1 (h2 R N hb hc S1 q1)
 | brk=>exact ⟨.brk,ρ1,H1,T1,.brk,le1,S1,go1,q1⟩
 | ret hv=>exact ⟨.ret _,ρ1,H1,T1,.ret hv,le1,S1,go1,q1⟩
theorem y0 (hA:∀e,fZ prog w K base ca fa e) {t:PySem.Expr} {b:List Stmt} {pos:Pos} (hB:u0 prog w K base ca fa b):PS prog w K base ca fa (.While t b [] pos):=by
 intro A Γ x sc ns ρ H T s E Q R N hb hc S hw;obtain ⟨n,hw⟩:∃n,dI (bp Γ (cE gt attrs sc ns t)) (aO Γ (cB gt attrs sc ns b)) n ρ H Q:=hw
 obtain ⟨I,hI,hO⟩:∃I:Nat->Shared->Prop,(∀{k s' ρ' H' T'},T.Le T'->aJ x s'.heap ρ' H' T'->jw s s'->dI (bp Γ (cE gt attrs sc ns t)) (aO Γ (cB gt attrs sc ns b)) k ρ' H' Q->I k s')/\
  ∀{k s'},I k s'->∃ρ' H' T',T.Le T'/\aJ x s'.heap ρ' H' T'/\jw s s'/\dI (bp Γ (cE gt attrs sc ns t)) (aO Γ (cB gt attrs sc ns b)) k ρ' H' Q:=
  ⟨λk s'=>∃ρ' H' T',T.Le T'/\aJ x s'.heap ρ' H' T'/\jw s s'/\dI (bp Γ (cE gt attrs sc ns t)) (aO Γ (cB gt attrs sc ns b)) k ρ' H' Q,λa b c d=>⟨_,_,_,a,b,c,d⟩,id⟩
 refine PySem.wpAny_While (codeAny_whileLoop I (λk s1 h=>?_) n (hI (Im.Le.refl T) S ⟨rfl,rfl⟩ hw));refine Ka (hO h) λρ1 H1 T1 le1 S1 go1 q1=>?_
 cases k with
 | zero=>exact q1.elim
 | succ k=>
  have q1:bp Γ (cE gt attrs sc ns t) ρ1 H1 (IS (aO Γ (cB gt attrs sc ns b) ρ1) (dI (bp Γ (cE gt attrs sc ns t)) (aO Γ (cB gt attrs sc ns b)) k) ρ1 Q):=q1
  have e:IS (aO Γ (cB gt attrs sc ns b) ρ1) (dI (bp Γ (cE gt attrs sc ns t)) (aO Γ (cB gt attrs sc ns b)) k) ρ1 Q=Tr λc H=>match c with | true=>aO Γ (cB gt attrs sc ns b) ρ1 H (wV (dI (bp Γ (cE gt attrs sc ns t)) (aO Γ (cB gt attrs sc ns b)) k) Q) | false=>Q .next ρ1 H:=by
   funext v H;delta IS Tr;dsimp only
   cases truthy v with
   | none=>rfl
   | some c=>cases c<;>rfl
  rw [e] at q1;refine wpAny_mono ((hA t).2 R N.en hb hc S1 q1) (λc s2 ⟨H2,T2,le2,S2,go2,q2⟩=>?_) λ_ _ h=>h;have go2':jw s s2:=⟨go2.1.trans go1.1,go2.2.trans go1.2⟩
  cases c with
  | false=>exact wpAny_execs_nil ⟨.next,ρ1,H2,T2,.next,le1.trans le2,S2,go2',q2⟩
  | true=>
   refine wpAny_mono (hB R N hb hc S2 q2) (λf s3 ⟨fl,ρ3,H3,T3,hf,gw,S3,go3,q3⟩=>?_) λ_ _ h=>h;have go3':jw s s3:=⟨go3.1.trans go2'.1,go3.2.trans go2'.2⟩;have le3':=(le1.trans le2).trans gw
   cases hf with
   | next=>exact ⟨k,PD _,hI le3' S3 go3' q3⟩
   | brk=>exact ⟨.next,ρ3,H3,T3,.next,le3',S3,go3',q3⟩
   | ret hv=>exact ⟨.ret _,ρ3,H3,T3,.ret hv,le3',S3,go3',q3⟩
end
section
variable {prog:Program} {w:World} {A:Around} {E:Value->Shared->Prop} {s:Shared} {x:Fx} {ρ:Lc} {H:Hp} {T:Im} {K:Frag} {base:Heap} {ca fa:Nat->Addr} {Γ:Sg} {sc:Scope} {ns:List Str}
theorem mY {t:PySem.Expr} {r:List PySem.Expr} {is:List Nat} (h:nR ns (t::r)=some is):∃n p i js,t=.Name n p/\ec n ns=some i/\nR ns r=some js/\is=i::js:=by
 refine aq (PJ.mp (show (md t).bind _=some is from h)) λn h1 h2=>?_;refine aq (PJ.mp h2) λi h3 h4=>?_;refine aq (PU.mp h4) λjs h5 h6=>?_;refine bI (qq h1) ?_;rintro p rfl;exact ⟨n,p,i,js,rfl,h3,h5,h6.symm⟩
theorem lq {env:Env}:∀{ts:List PySem.Expr} {is:List Nat},nR ns ts=some is->(assignEach ts env).length=is.length/\(assignEach ts env).findIdx? (·.1)=none
 | [],is,h=>by cases h;exact ⟨rfl,rfl⟩
 | t::r,is,h=>by
  refine GX (mY h) ?_;rintro n p i js rfl _ h2 rfl;have:=lq (env:=env) h2;refine ⟨congrArg (·+1) this.1,?_⟩;show ((false,assign (.Name n p) env)::assignEach r env).findIdx? (·.1)=none;rw [List.findIdx?_cons,this.2];rfl
theorem nu:∀{is:List Nat} {vs:List V} {ρ ρ':Lc},j9 ρ is vs=some ρ'->is.length=vs.length
 | [],[],_,_,_=>rfl
 | _::is,_::vs,_,_,h=>congrArg (·+1) (nu (is:=is) (vs:=vs) h)
 | [],_::_,_,_,h=>nomatch h
 | _::_,[],_,_,h=>nomatch h
theorem zc (N:mU x sc ns):∀{ts:List PySem.Expr} {is:List Nat} {vs:List V} {vals:List Value} {ρ ρ':Lc} {s:Shared} {Q:Unit->Shared->Prop},nR ns ts=some is->cA T vs vals->j9 ρ is vs=some ρ'->aJ x s.heap ρ H T->
 (∀h' tk,aJ x h' ρ' H T->Q () { s with heap:=h',toks:=tk })->wpAny (model prog w) A (assignInOrder ((assignEach ts x.env).map (·.2)) vals) Q E s:=by
 intro ts
 induction ts with
 | nil=>
  intro is vs vals ρ ρ' s Q h hv hs S hq;cases h
  cases hv with
  | nil=>cases hs;exact assignInOrder_nil (hq s.heap s.toks S)
  | cons _ _=>cases hs
 | cons t r ih=>
  intro is vs vals ρ ρ' s Q h hv hs S hq;refine GX (mY h) ?_;rintro n p i js rfl h1 h2 rfl
  cases hv with
  | nil=>cases hs
  | cons a b=>exact assignInOrder_cons (wpAny_assign_Name (i4 N S h1 a λh' tk S' _=>ih (s:={ s with heap:=h',toks:=tk }) h2 b hs S' λh'' tk' S''=>hq h'' tk' S''))
theorem zb {is:List Nat} {v:V} {P:Lc->Prop} (h:tupK ρ is v P):∃vs ρ',v=.tup vs/\j9 ρ is vs=some ρ'/\P ρ':=by
 delta tupK at h
 cases v with
 | tup vs=>
  refine ⟨vs,?_⟩;revert h;show (match j9 ρ is vs with | some ρ=>P ρ | none=>False)->_
  cases j9 ρ is vs with
  | none=>exact False.elim
  | some ρ'=>exact λh=>⟨ρ',rfl,rfl,h⟩
 | _=>exact h.elim
theorem Ez (hA:∀e,fZ prog w K base ca fa e) {e:PySem.Expr} {ts:List PySem.Expr} {k} {p pos:Pos}:PS prog w K base ca fa (.Assign [.Tuple ts k p] e pos):=by
 intro A Γ x sc ns ρ H T s E Q R N hb hc S hw;refine aD (vf hw) λht hw=>?_;refine aq (iZ hw) λis GC hw=>?_;refine Assign_Tuple (bG ((hA e).1 R N.en hb hc S (Q:=Bz is ρ Q) hw) λv H1 T1 val s1 le1 go1 S1 hv q1=>?_) (show swapsWith e (some (.Tuple ts k p)) pos.line x.env=pure false from gP (by intro n p q;cases q)) (by cases e<;>first | rfl | exact Bool.noConfusion ht);refine fB (zb q1) ?_;rintro vs ρ' rfl hρ q;refine hv.et λ_ _ t1 l1 t2=>?_
 ·have sh:=lq (env:=x.env) GC;have hl:=nu hρ;have hl2:=t2.length;refine assign_Tuple_tuple R.hh ⟨_,(S1.eY _ _ t1).1,rfl,_,rfl⟩ (by rw [sh.1,Qp];lia) sh.2 λh' hx=>?_;refine zc N (s:={ s1 with heap:=h' }) GC t2 hρ (S1.grow λb o e=>hx b o (λq=>?_) e) λh'' tk S''=>⟨.next,ρ',H1,T1,.next,le1,S'',⟨go1.1,go1.2⟩,q⟩;subst q;exact absurd (Heap.lt_size e) (Qr _)
def jT {nm:Str} {px:Pos} {b:List Stmt} {i:Nat}:Prop:=∀(hB:u0 prog w K base ca fa b) (R:Rn prog w K base ca fa A Γ) (N:mU x sc ns) (hb:x.base=base) (hc:x.ca=ca) (hi:ec nm ns=some i) {I:Addr} {v:V} {val:Value} {vs:List V} {chk:Hp->Prop} (hsrc:∀H,chk H->dY H v=some vs) {T₀:Im} {s₀:Shared} {Q:KS} (hv:VR T₀ v val) (hT:T₀ I=none) (h0:x.h₀.get? I=none) (go:jw s₀ s) (le:T₀.Le T) (S:aJ x s.heap ρ H T) (st:fT v val I 0 s.heap) (hw:fi (aO Γ (cB gt attrs sc ns b)) i chk vs ρ H Q),codeAny (model prog w) A (.forLoop (.Name nm px) (.ref I) b [] x.env) (λr s'=>match r with | .ok f=>eu x T₀ s₀ Q f s' | .error e=>cameBackBy (model prog w) A x.env E e s') s
theorem xm {nm:Str} {px:Pos} {b:List Stmt} {i:Nat}:@jT prog w A E s x ρ H T K base ca fa Γ sc ns nm px b i:=ao (S:=λx:(Program×World×Around×(Value->Shared->Prop))×(Shared×Fx×Lc×Hp)×(Im×Frag×Heap×(Nat->Addr))×((Nat->Addr)×Sg×Scope×List Str)×(Str×Pos×List Stmt×Nat)=>@jT x.1.1 x.1.2.1 x.1.2.2.1 x.1.2.2.2 x.2.1.1 x.2.1.2.1 x.2.1.2.2.1 x.2.1.2.2.2 x.2.2.1.1 x.2.2.1.2.1 x.2.2.1.2.2.1 x.2.2.1.2.2.2 x.2.2.2.1.1 x.2.2.2.1.2.1 x.2.2.2.1.2.2.1 x.2.2.2.1.2.2.2 x.2.2.2.2.1 x.2.2.2.2.2.1 x.2.2.2.2.2.2.1 x.2.2.2.2.2.2.2) (x:=((default,dW,{},λ_ _=>True),({},uK,[],λ_=>none),(λ_=>none,[],default,λ_=>0),(λ_=>0,λ_ _ _ _=>True,default,[]),(default,default,[],0))) (by
 refine (?_:∀prog w A E s x ρ H T K base ca fa Γ sc ns nm px b i,@jT prog w A E s x ρ H T K base ca fa Γ sc ns nm px b i) _ _ _ _ _ _ _ _ _ _ _ _ _ _ _ _ _ _ _ _;intro prog w A E s x ρ H T K base ca fa Γ sc ns nm px b i hB R N hb hc hi I v val vs chk hsrc T₀ s₀ Q hv hT h0 go le S st hw
 obtain ⟨J,hI,hO⟩:∃J:Nat->Shared->Prop,(∀{j ρ' H' T' s'},j<=vs.length->jw s₀ s'->T₀.Le T'->aJ x s'.heap ρ' H' T'->fT v val I j s'.heap->fi (aO Γ (cB gt attrs sc ns b)) i chk (vs.drop j) ρ' H' Q->J (vs.length-j) s')/\
  ∀{k s'},J k s'->∃j ρ' H' T',k=vs.length-j/\j<=vs.length/\jw s₀ s'/\T₀.Le T'/\aJ x s'.heap ρ' H' T'/\fT v val I j s'.heap/\fi (aO Γ (cB gt attrs sc ns b)) i chk (vs.drop j) ρ' H' Q:=
  ⟨_,λa b c d e f=>⟨_,_,_,_,rfl,a,b,c,d,e,f⟩,id⟩
 refine codeAny_forLoop J (λk s1 h=>?_) _ (hI (Qc _) go le S st hw);clear go le S st hw;obtain ⟨j,ρ1,H1,T1,rfl,hj,go1,le1,S1,st1,q1⟩:=hO h;clear hO h;have own:=st1.own;have hv1:=hv.mono le1;have hle:T₀.Le (T1.minus I):=Im.lT le1 hT
 cases hu:vs[j]? with
 | none=>
  rw [Sa (List.getElem?_eq_none_iff.mp hu)] at q1;exact qo R.hh S1 hv1 (hsrc _ q1.1) st1 hu λh' hx=>wpAny_execs_nil ⟨.next,ρ1,H1,_,.next,hle,S1.oJ own h0 hx,⟨go1.1,go1.2⟩,q1.2⟩
 | some u=>
  refine bI (Pz.mp hu) λhlt hu'=>?_;rw [Ri hlt,hu'] at q1;refine nD S1 hv1 (hsrc _ q1.1) st1 hu λh2 tk ual hual hs2 st2=>?_;have S2:aJ x h2 ρ1 H1 (T1.minus I):=S1.oJ own h0 hs2.extBut;obtain ⟨o2,ho2,hcl2,xs2,hd2⟩:=st2.own.it;refine aD (S2.mark (Im.lS _ _) ho2 (.inr ⟨xs2,hd2⟩)) λgw S3=>?_;have hual2:=(hual.minus (S1.hh own)).mono gw;show wpAny _ A (assign (.Name nm px) x.env ual) _ _ _;refine wpAny_assign_Name (i4 N (s:={ s1 with heap:=h2,toks:=tk }) S3 hi hual2 λh4 tk4 S4 _=>?_);refine wpAny_mono (hB R N hb hc (s:={ s1 with heap:=h4,toks:=tk4 }) S4 q1.2) (λf s5 ⟨fl,ρ5,H5,T5,hf,le5,S5,go5,q5⟩=>?_) λ_ _ h=>h;have go5':jw s₀ s5:=⟨go5.1.trans go1.1,go5.2.trans go1.2⟩;have le5':=(hle.trans gw).trans le5
  cases hf with
  | next=>exact ⟨vs.length- (j+1),Td hlt (PD j),hI hlt go5' le5' S5 (st2.keep λo ho=>by
   rw [ho2] at ho;cases ho
   exact (S5.eY I o2 (le5 _ _ (by simp [Im.upd]))).1) q5⟩
  | brk=>exact ⟨.next,ρ5,H5,T5,.next,le5',S5,go5',q5⟩
  | ret hv=>exact ⟨.ret _,ρ5,H5,T5,.ret hv,le5',S5,go5',q5⟩) ((prog,w,A,E),(s,x,ρ,H),(T,K,base,ca),(fa,Γ,sc,ns),(nm,px,b,i))
theorem AE {B:Lc->Bk} {i:Nat} {v:V} {Q:KS} (h:fg B i v ρ H Q):∃chk vs,(∀H,chk H->dY H v=some vs)/\chk H/\fi B i chk vs ρ H Q:=by
 delta fg at h
 cases v with
 | ref a=>
  revert h;show (match H a with | some (.list vs)=>fi B i (Bt a vs) vs ρ H Q | _=>False)->_
  cases e:H a with
  | none=>exact False.elim
  | some o=>
   cases o with
   | list vs=>exact λh=>⟨_,vs,λH (h:H a=_)=>by delta dY;dsimp only;rw [h],e,h⟩
   | _=>exact False.elim
 | tup vs=>exact ⟨_,vs,λ_ _=>rfl,trivial,h⟩
 | fW a b c=>exact ⟨_,_,λ_ _=>rfl,trivial,h⟩
 | _=>exact h.elim
theorem GN (hA:∀e,fZ prog w K base ca fa e) {nm:Str} {px pos:Pos} {it:PySem.Expr} {b:List Stmt} (hB:u0 prog w K base ca fa b):PS prog w K base ca fa (.For (.Name nm px) it b [] pos):=by
 intro A Γ x sc ns ρ H T s E Q R N hb hc S hw;refine aq (iZ (o:=ec nm ns) hw) λi hi hw3=>?_;have hw4:bp Γ (cE gt attrs sc ns it) ρ H (kFor (aO Γ (cB gt attrs sc ns b)) i ρ Q):=hw3;clear hw hw3;refine wpAny_For (bG ((hA it).1 R N.en hb hc S hw4) λv H1 T1 val s1 le1 go1 S1 hv q1=>?_) (λy=>by clear hA hc S;cases it<;>first | rfl | exact hw4.elim);clear hw4;refine fB (AE q1) λchk vs hsrc hck hq=>?_
 have hT:T1 s1.heap.objs.size=none:=by
  cases q:T1 s1.heap.objs.size with
  | none=>rfl
  | some o=>exact absurd (Heap.lt_size (S1.eY _ o q).1) (Qr _)
 refine l9 S1 hv (hsrc _ hck) λh2 k2 st2=>?_;refine codeAny_mono (xm (s:={ s1 with heap:=h2 }) (E:=E) hB R N hb hc hi hsrc hv hT (S1.kZ (Pt s1.heap.objs.size)) ⟨rfl,rfl⟩ (Im.Le.refl T1) (S1.grow k2) st2 hq) λr s' h=>?_
 cases r with
 | ok f=>exact eu.up (s':={ s1 with heap:=h2 }) le1 ⟨go1.1,go1.2⟩ h
 | error e=>exact h
end
section
variable {prog:Program} {w:World} {K:Frag} {base:Heap} {ca fa:Nat->Addr}
theorem sC (hA:∀e,fZ prog w K base ca fa e) {ts:List PySem.Expr} {e:PySem.Expr} {pos:Pos}:PS prog w K base ca fa (.Assign ts e pos):=by
 cases ts with
 | nil=>exact kv λ_ _=>rfl
 | cons t r=>
  cases r with
  | cons _ _=>exact kv λ_ _=>rfl
  | nil=>
   cases t with
   | Name n p=>exact Ig hA
   | Attribute o a p=>exact EB hA
   | Subscript o i p=>exact EA hA
   | Tuple ts k p=>exact Ez hA
   | _=>exact kv λ_ _=>rfl
theorem AY (hA:∀e,fZ prog w K base ca fa e) {t:PySem.Expr} {op:Operator} {e:PySem.Expr} {pos:Pos}:PS prog w K base ca fa (.AugAssign t op e pos):=by
 cases t with
 | Name n p=>exact H9 hA
 | Attribute o a p=>exact Ex hA
 | Subscript o i p=>exact Ew hA
 | _=>exact kv λ_ _=>rfl
theorem AB (hA:∀e,fZ prog w K base ca fa e) {t it:PySem.Expr} {b o:List Stmt} {pos:Pos} (hB:u0 prog w K base ca fa b):PS prog w K base ca fa (.For t it b o pos):=by
 cases o with
 | cons _ _=>exact kv λ_ _=>rfl
 | nil=>
  cases t with
  | Name n p=>exact GN hA hB
  | _=>exact kv λ_ _=>rfl
theorem ua (hA:∀e,fZ prog w K base ca fa e) {t:PySem.Expr} {b o:List Stmt} {pos:Pos} (hB:u0 prog w K base ca fa b):PS prog w K base ca fa (.While t b o pos):=by
 cases o with
 | nil=>exact y0 hA hB
 | cons _ _=>exact kv λ_ _=>rfl
mutual
theorem Fo (hA:∀e,fZ prog w K base ca fa e):∀st:Stmt,PS prog w K base ca fa st
 | .Expr e pos=>DV (hA e).1
 | .Assign ts e pos=>sC hA
 | .AugAssign t op e pos=>AY hA
 | .If t a b pos=>J2 hA (nj hA a) (nj hA b)
 | .While t b o pos=>ua hA (nj hA b)
 | .For t it b o pos=>AB hA (nj hA b)
 | .Return (some e) pos=>Fz hA
 | .Return none pos=>Cs
 | .Break pos=>HQ
 | .Raise e c pos=>zF
 | .FunctionDef .. | .AsyncFunctionDef .. | .ClassDef .. | .Delete .. | .TypeAlias .. | .AnnAssign .. | .AsyncFor .. | .With .. | .AsyncWith .. | .Match .. | .Try .. | .TryStar .. | .Assert .. | .Import .. | .ImportFrom .. | .Global .. | .Nonlocal .. | .Pass .. | .Continue .. =>
  kv λ_ _=>rfl
theorem nj (hA:∀e,fZ prog w K base ca fa e):∀b:List Stmt,u0 prog w K base ca fa b
 | []=>FR
 | s::r=>DY (Fo hA s) (nj hA r)
end
theorem sound (hsort:cb):∀b:List Stmt,u0 prog w K base ca fa b:=nj (bU hsort rT)
end
theorem k8:∀{ns:List Str} {vs:List Value},ns.Nodup->∀{i:Nat} {n:Str} {v:Value},ns[i]?=some n->vs[i]?=some v->(ns.zip vs).lookup n=some v
 | [],_,_,_,_,_,h,_=>by simp at h
 | _::_,[],_,_,_,_,_,h=>by simp at h
 | m::ns,u::vs,hd,i,n,v,h1,h2=>by
  refine aD (SY.mp hd) λd1 d2=>?_;rw [Th,Qn]
  cases i with
  | zero=>simp at h1 h2;subst h1;subst h2;simp
  | succ i=>
   simp at h1 h2
   have:(n == m)=false:=by
    simp only [Ru,ne_eq];intro q;subst q;exact d1 (PY h1)
   rw [this];exact k8 d2 h1 h2
theorem t8 {ns:List Str} {vs:List Value} (hd:ns.Nodup) (hl:ns.length=vs.length):ns.filterMap (λn=>((ns.zip vs).lookup n).map (n,·))=ns.zip vs:=by
 have key:∀(done:List (Str×Value)) (ns:List Str) (vs:List Value),ns.Nodup->ns.length=vs.length->(∀n∈ns,done.lookup n=none)->ns.filterMap (λn=>((done++ns.zip vs).lookup n).map (n,·))=ns.zip vs:=by
  intro done ns
  induction ns generalizing done with
  | nil=>intros;rfl
  | cons m ns ih=>
   intro vs hd hl hn
   cases vs with
   | nil=>simp at hl
   | cons v vs=>
    refine aD (SY.mp hd) λd1 d2=>?_;rw [Th]
    have e1:(done++ (m,v)::ns.zip vs).lookup m=some v:=by rw [List.lookup_append,hn m (PM ..)];simp
    rw [List.filterMap_cons,e1];simp only [QE];congr 1
    have:=ih (done++ [(m,v)]) vs d2 (by simpa using hl) (λn hm=>by
     rw [List.lookup_append,hn n (PQ _ hm)]
     have:(n == m)=false:=by simp only [Ru,ne_eq];intro q;subst q;exact d1 hm
     simp [Qn,this])
    simpa using this
 exact key [] ns vs hd hl (λ_ _=>rfl)
theorem sx {fd:FuncData} {vals:List Value} (h1:fd.params.posonlyargs=[]) (h2:fd.params.kwonlyargs=[]) (h3:fd.params.vararg=none) (h4:fd.params.kwarg=none) (h5:fd.defaults=.none)
 (hg:¬vals.length>(fd.params.args.map (·.arg)).length) (hm:((fd.params.args.map (·.arg)).filter λn=>(((fd.params.args.map (·.arg)).zip vals).lookup n).isNone)=[]):bindArgs fd ⟨vals,[]⟩=pure ((fd.params.args.map (·.arg)).filterMap λn=>(((fd.params.args.map (·.arg)).zip vals).lookup n).map (n,·)):=by
 obtain ⟨x1,x2,yy,x4,x5,x6,x7,x8,x9⟩:=fd;obtain ⟨y1,y2,y3,y4,y5,y6,y7⟩:=yy;dsimp only at *;subst h1 h2 h3 h4 h5;generalize hk:y2.map (λ(x:Arg)=>x.arg)=ns at hg hm ⊢;refine (Pf (c:=(decide (vals.length>([]++y2.map (λ(x:Arg)=>x.arg)).length) && true)=true) (by rw [List.nil_append,hk,Bool.and_true];exact λh=>hg (Pj h))).trans ?_;refine (Pf (c:=(!(List.filter (λn=>(((y2.map (λ(x:Arg)=>x.arg)).zip vals).lookup n).isNone) (List.take ((y2.map (λ(x:Arg)=>x.arg)).length- (List.drop (0- (y2.map (λ(x:Arg)=>x.arg)).length) ([]:List Value)).length) (y2.map (λ(x:Arg)=>x.arg)))).isEmpty)=true) (by rw [List.drop_nil,List.length_nil,Nat.sub_zero,RQ,hk,hm];decide)).trans ?_;have e:∀n,List.drop n ((none.getD #[]:Array Value)).toList=[]:=λn=>List.drop_nil;rw [e,List.zip_nil_right];show (pure:_->Sem (List (Str×Value))) (List.filterMap (λn=>(((y2.map (λ(x:Arg)=>x.arg)).zip vals).lookup n).map (n,·)) ((y2.map (λ(x:Arg)=>x.arg))++ []))=_;rw [QX,hk]
theorem mu {fd:FuncData} {vals:List Value} {ns:List Str} (h1:fd.params.posonlyargs=[]) (h2:fd.params.kwonlyargs=[]) (h3:fd.params.vararg=none) (h4:fd.params.kwarg=none) (h5:fd.defaults=.none)
 (h6:fd.params.args.map (·.arg)=ns) (hd:ns.Nodup) (hl:ns.length=vals.length):bindArgs fd ⟨vals,[]⟩=pure (ns.zip vals):=by
 have hlk:∀n∈ns,((ns.zip vals).lookup n).isNone=false:=λn hn=>by
  obtain ⟨i,hi,rfl⟩:=List.mem_iff_getElem.mp hn
  have e:vals[i]?=some (vals[i]'(hl ▸ hi)):=by simp
  rw [k8 hd (Pk hi) e];rfl
 have hmiss:((ns.take ns.length).filter λn=>((ns.zip vals).lookup n).isNone)=[]:=by
  rw [List.filter_eq_nil_iff];intro n hn;rw [RQ] at hn;rw [hlk n hn];decide
 subst h6;rw [sx h1 h2 h3 h4 h5 (by rw [hl];exact Qr _) (by rw [RQ] at hmiss;exact hmiss),t8 hd hl]
theorem ko {kindOf:Str->Option NameKind} {n:Str}:∀{bs:List (Str×Value)} {m:Str->Option Value},(∀b∈bs,b.1≠n)->bindL kindOf bs m n=m n
 | [],_,_=>rfl
 | (k,v)::r,m,h=>by
  unfold bindL;rw [ko λb hb=>h b (PQ _ hb)];have hk:n≠k:=λq=>h (k,v) (PM ..) q.symm;by_cases hl:kindOf k=some .local
  ·rw [Po hl];simp [hk]
  ·rw [Pf hl]
theorem kq {kindOf:Str->Option NameKind} {n:Str}:∀{bs:List (Str×Value)} {m:Str->Option Value},(∀b∈bs,b.1≠n)->bindC kindOf bs m n=m n
 | [],_,_=>rfl
 | (k,v)::r,m,h=>by
  unfold bindC;rw [kq λb hb=>h b (PQ _ hb)];have hk:n≠k:=λq=>h (k,v) (PM ..) q.symm;by_cases hl:kindOf k=some .local
  ·rw [Po hl]
  ·rw [Pf hl];simp [hk]
theorem sM {n:Str}:∀{ns:List Str} {vs:List Value},n∉ns->∀b∈ns.zip vs,b.1≠n
 | ns,vs,h,b,hb=>λq=>by subst q;exact h (List.of_mem_zip hb).1
theorem qC {kindOf:Str->Option NameKind}:∀{ns:List Str} {vs:List Value} {m c:Str->Option Value},ns.Nodup->∀{i:Nat} {n:Str} {v:Value},ns[i]?=some n->vs[i]?=some v->
 (kindOf n=some .local->bindL kindOf (ns.zip vs) m n=some v)/\(kindOf n≠some .local->bindC kindOf (ns.zip vs) c n=some v)
 | [],_,_,_,_,_,_,_,h,_=>by simp at h
 | _::_,[],_,_,_,_,_,_,_,h=>by simp at h
 | k::ns,u::vs,m,c,hd,i,n,v,h1,h2=>by
  refine aD (SY.mp hd) λd1 d2=>?_;rw [Th];unfold bindL bindC
  cases i with
  | zero=>
   simp at h1 h2;subst h1;subst h2;constructor
   ·intro hl;rw [ko (sM d1),Po hl];simp
   ·intro hl;rw [kq (sM d1),Pf hl];simp
  | succ i=>
   simp at h1 h2;exact qC d2 h1 h2
noncomputable def vG (sc:Scope) (ns:List Str):Bool:=
 ns.all (λn=>(sc.names.lookup n == some .local || sc.names.lookup n == some .cell) && !(n == ("__debug__":Str)) && !(n == ("__classdict__":Str))) && sc.names.all (λy=>!(y.2 ==.free))
def FnAt (K:Frag) (a:Addr) (F:Fn):Prop:=∃oc od osl fd body,K.lookup a=some ⟨oc,od,.func fd,osl⟩/\fd.body=.stmts body/\codeIn K fd.code fd.qualname=true/\fd.closure=[]/\fd.globals=mainGlobals/\fd.builtins=builtinsNs/\
 (fd.scope.kind=.function/\fd.scope.isCoroutine=false/\fd.scope.isGenerator=false)/\(fd.params.posonlyargs=[]/\fd.params.kwonlyargs=[]/\fd.params.vararg=none/\fd.params.kwarg=none/\fd.defaults=.none)/\
 fd.params.args.map (·.arg)=F.names.take F.np/\F.np<=F.names.length/\F.names.Nodup/\vG fd.scope F.names=true/\cB gt attrs fd.scope F.names body=F.body
structure E1 (K:Frag) (base:Heap) (ca fa:Nat->Addr):Prop where
 tv:K.In base
 lim:base.NoLimit
 g:∃mg,base.Ns mainGlobals mg
 b:∃mb,base.Ns builtinsNs mb/\∀x,x≠("__name__":Str)->mb x=bootBuiltins x
 cls:t7 K ca
 Av:∀n i,de n gt=some (.int i)->∃t,nsIn K mainGlobals n=some (some (.int i t))
 As:∀n is,de n gt=some (.tup is)->∃a vals,nsIn K mainGlobals n=some (some (.ref a))/\K.lookup a=some { cls:=.type "tuple",data:=.seq vals.toArray }/\IntsAre vals is/\is.length<=1000
 IU:∀n k,de n gt=some (.fn k)->nsIn K mainGlobals n=some (some (.ref (fa k)))/\keepIn K (.ref (fa k))=true
 Ay:∀n c,de n gt=some (.cls c)->nsIn K mainGlobals n=some (some (.ref (ca c)))/\keepIn K (.ref (ca c))=true/\c<3
 IV:∀n b,de n gt=some (.bi b)->nsIn K mainGlobals n=some none/\bootBuiltins n=some (ku b)/\n≠("__name__":Str)
 xj:∀n g,de n gt=some g->(n == ("__debug__":Str))=false
 fns:∀k F,code k=some F->FnAt K (fa k) F
 made:∀c,c<3->makesIn K (ca c)=true/\findIn K (.ref (ca c)) "__init__"=some (some (.ref (fa (1000+c))))/\isFn K (.ref (fa (1000+c)))=true
section
variable {prog:Program} {w:World} {A:Around} {s:Shared} {x:Fx} {ρ:Lc} {H:Hp} {T:Im} {K:Frag} {base:Heap} {ca fa:Nat->Addr} {Γ:Sg}
theorem aJ.E6 {h:Heap} (S:aJ x h ρ H T) {W:List Str} (hW:∀n c,x.env.cells.lookup n=some c->n∈W->x.h₀.get? c=none):aJ { x with W:=W } h ρ H T:=
 ⟨S.cJ,S.fr,S.own,S.eY,λn c e=>by refine aq (S.jy n c e) λv hv _=>?_;exact ⟨v,hv,hW n c e⟩⟩
theorem uG {vs:List V} {n i:Nat} {v:V} (h:getL (vs.map some++List.replicate n none) i=some v):vs[i]?=some v:=by
 unfold getL at h;rw [List.getElem?_append] at h;split at h
 ·rw [P1] at h
  cases q:vs[i]? with
  | none=>rw [q] at h;cases h
  | some u=>rw [q] at h;exact h
 ·rw [Q1] at h
  split at h<;>simp at h
def iQ {d:Nat} {f:Nat} {vs:List V} {xs:List Value} {Q:V->Hp->Prop} {RR:Result->Shared->Prop}:Prop:=∀(hsort:cb) (Z:E1 K base ca fa) (hroom:A.depth<recursionLimit) (R:∀env,Rn prog w K base ca fa (A.deeper env) (gh code d)) (hb:x.base=base) (hc:x.ca=ca) (S:aJ x s.heap ρ H T) (hv:cA T vs xs) (hw:gh code (d+1) f vs H Q) (hR:∀val s',bf x ρ T s Q val s'->RR (.ok (.ret val)) s'),codeAny (model prog w) A (.call (.ref (fa f)) ⟨xs,[]⟩) RR s
theorem nN {d:Nat} {f:Nat} {vs:List V} {xs:List Value} {Q:V->Hp->Prop} {RR:Result->Shared->Prop}:@iQ prog w A s x ρ H T K base ca fa d f vs xs Q RR:=ao (S:=λx:(Program×World×Around×Shared)×(Fx×Lc×Hp×Im)×(Frag×Heap×(Nat->Addr)×(Nat->Addr))×(Nat×Nat×List V×List Value)×((V->Hp->Prop)×(Result->Shared->Prop))=>@iQ x.1.1 x.1.2.1 x.1.2.2.1 x.1.2.2.2 x.2.1.1 x.2.1.2.1 x.2.1.2.2.1 x.2.1.2.2.2 x.2.2.1.1 x.2.2.1.2.1 x.2.2.1.2.2.1 x.2.2.1.2.2.2 x.2.2.2.1.1 x.2.2.2.1.2.1 x.2.2.2.1.2.2.1 x.2.2.2.1.2.2.2 x.2.2.2.2.1 x.2.2.2.2.2) (x:=((default,dW,{},{}),(uK,[],λ_=>none,λ_=>none),([],default,λ_=>0,λ_=>0),(0,0,[],[]),(λ_ _=>True,λ_ _=>True))) (by
 refine (?_:∀prog w A s x ρ H T K base ca fa d f vs xs Q RR,@iQ prog w A s x ρ H T K base ca fa d f vs xs Q RR) _ _ _ _ _ _ _ _ _ _ _ _ _ _ _ _ _ _;intro prog w A s x ρ H T K base ca fa d f vs xs Q RR hsort Z hroom R hb hc S hv hw hR;rw [gh] at hw;split at hw
 ·exact hw.elim
 ·rename_i F hF;refine aD hw λhlen hw=>?_;obtain ⟨oc,od,osl,fd,body,hlk,hbody,hcd,hclo,hgl,hbl,⟨hk,hco,hgen⟩,⟨p1,p2,p3,p4,p5⟩,hargs,hnp,hnd,hchk,hcB⟩:=Z.fns f F hF;have X:K.In s.heap:=λa o e=>S.keep a o (by rw [hb];exact Z.tv a o e);have hlim:s.heap.NoLimit:=Z.lim.keeps λb o e=>S.keep b o (by rw [hb];exact e);have hxl:=hv.length
  have htl:(F.names.take F.np).length=xs.length:=by rw [RT,<- hxl,hlen];exact Rm ‹_›
  have hndt:(F.names.take F.np).Nodup:=hnd.sublist (List.take_sublist _ _);have hbind:=mu (fd:=fd) (vals:=xs) p1 p2 p3 p4 p5 hargs hndt htl;simp only [vG,Pe] at hchk
  have hkn:∀n∈F.names,(fd.scope.names.lookup n=some .local\/fd.scope.names.lookup n=some .cell)/\(n == ("__debug__":Str))=false/\(n == ("__classdict__":Str))=false:=λn hn=>by
   have:=Pp.mp hchk.1 n hn;simp only [Pe,Qm] at this;refine ⟨?_,by simpa using this.1.2,by simpa using this.2⟩;rcases this.1.1 with h | h
   ·exact .inl (eq_of_beq h)
   ·exact .inr (eq_of_beq h)
  have hnf:∀n,fd.scope.names.lookup n≠some .free:=λn e=>by
   have:=Pp.mp hchk.2 _ (mem_of_lookup e);simp at this
  refine codeAny_call_cells (fd:=fd) hroom (X _ _ hlk) rfl hlim (codeRec_of X hcd) hbody hbind hclo (λy hy=>?_) (λs₁ C=>?_) hco hgen hk
  ·have hm:y.1∈F.names:=RM (List.of_mem_zip hy).1;rcases (hkn _ hm).1 with e | e
   ·exact .inl e
   ·exact .inr ⟨e,cellsFrom_some _ _ _ (.inl e)⟩
  ·
   generalize hE:callEnvC fd s.heap.objs.size (fa f)=env at C ⊢
   have hsc:env.scope=fd.scope:=by rw [<- hE];rfl
   have hL:env.locals=s.heap.objs.size:=by rw [<- hE];rfl
   have hce:env.cells=cellsFrom (s.heap.objs.size+1) fd.scope.names []:=by rw [<- hE];rfl
   have hko:∀n,env.kindOf n=fd.scope.names.lookup n:=λn=>by unfold Env.kindOf;rw [hsc]
   obtain ⟨h',tk,he⟩:=C.toInCall.same;have S1:aJ x s₁.heap ρ H T:=S.grow C.toInCall.keep
   have hLlt:LT.lt (α:=Nat) x.env.locals env.locals:=by rw [hL];exact S.lt
   have h0:LE.le (α:=Nat) x.h₀.objs.size env.locals:=by
    obtain ⟨m,F0,_⟩:=S.fr;exact Pb F0.above (Pw hLlt)
   have hHL:H env.locals=none:=by rw [hL];exact S.fresh (Pt _)
   have S2:aJ (inner x s₁.heap H env F.names) s₁.heap (vs.map some++List.replicate (F.names.length-F.np) none) H T:=by
    refine S1.enter C.toInCall.ns hHL h0 (λn c e=>⟨_,C.cell n c e⟩) λi v hi=>?_;have h1:=uG hi;refine aq (hv.get h1) λval h2 h3=>?_;have hlt:=(Pz.mp h1).1
    have hn:(F.names.take F.np)[i]?=some (F.names[i]'(by lia)):=by
     rw [List.getElem?_take_of_lt (by lia)];simp
    have hn':F.names[i]?=some (F.names[i]'(by lia)):=by simp
    refine ⟨F.names[i]'(by lia),val,hn',?_,h3⟩;have hb:=qC (kindOf:=env.kindOf) (m:=λ_=>none) (c:=λ_=>none) hndt hn h2;rcases (hkn _ (Rb _)).1 with e | e
    ·exact .inl ⟨(hko _).trans e,hb.1 ((hko _).trans e)⟩
    ·have hne:env.kindOf (F.names[i]'(by lia))≠some .local:=by rw [hko,e];decide
     refine bI (SI.mp (cellsFrom_some (x:=F.names[i]'(by lia)) fd.scope.names (s.heap.objs.size+1) [] (.inl e))) λc hcl=>?_;rw [<- hce] at hcl;refine .inr ⟨.inl ((hko _).trans e),c,hcl,?_⟩;have:=C.cell _ _ hcl;rw [hb.2 hne] at this;exact this
   have S3:=S2.E6 (W:=fd.scope.names.map (·.1)) λn c e _=>by
    have:=C.above n c (mem_of_lookup e);exact hY λq=>absurd q.1 (QK.mpr (Pw this))
   have SE:mU { inner x s₁.heap H env F.names with W:=fd.scope.names.map (·.1) } fd.scope F.names:=by
    refine ⟨⟨rfl,?_,?_,?_,λn e=>(hko n).trans e,λn e=>?_,λn hn=>(hkn n hn).2⟩,hnd,λn hn=>?_,λn n' c e1 e2=>name_of_addr C.apart (mem_of_lookup e1) (mem_of_lookup e2)⟩
    ·show env.scope.kind=.function;rw [hsc];exact hk
    ·show env.globals=mainGlobals;rw [<- hE];exact hgl
    ·show env.builtins=builtinsNs;rw [<- hE];exact hbl
    ·rcases e with e | e
     ·refine bI (SI.mp (cellsFrom_some (x:=n) fd.scope.names (s.heap.objs.size+1) [] (.inl e))) λc hcl=>?_;exact ⟨.inl ((hko n).trans e),c,by show env.cells.lookup n=some c;rw [hce];exact hcl⟩
     ·exact absurd e (hnf n)
    ·rcases (hkn n hn).1 with e | e
     ·exact .inl ((hko n).trans e)
     ·refine bI (SI.mp (cellsFrom_some (x:=n) fd.scope.names (s.heap.objs.size+1) [] (.inl e))) λc hcl=>?_;exact .inr ⟨(hko n).trans e,⟨c,by show env.cells.lookup n=some c;rw [hce];exact hcl⟩,List.mem_map_of_mem (mem_of_lookup e)⟩
   refine wpAny_mono (sound hsort body (R env) SE hb hc S3 (by rw [hcB];exact hw)) (λfl s' h=>hR _ _ ?_) λ_ _ y=>y;obtain ⟨fl',ρ2,H2,T2,hf,le2,S4,go2,q2⟩:=h;have S5:aJ (inner x s₁.heap H env F.names) s'.heap ρ2 H2 T2:=⟨S4.cJ,S4.fr,S4.own,S4.eY,λn c e=>by refine aq (S4.jy n c e) λv hv _=>?_;exact ⟨v,hv,λq=>nomatch q⟩⟩
   have S6:=S1.leave S5 le2 hLlt h0 λn c e=>by
    refine aq (S.jy n c e) λv hv _=>?_;rw [hL];exact hv.lt
   have go:jw s s':=⟨go2.1.trans (he ▸ rfl),go2.2.trans (he ▸ rfl)⟩
   cases hf with
   | next=>
    simp only [iD] at q2;refine aq q2 λH3 hs3 q3=>?_;exact ⟨.none,H3,T2,.none,le2,S6.mono hs3,go,q3⟩
   | brk=>simp only [iD] at q2
   | ret hv=>
    simp only [iD] at q2;refine aq q2 λH3 hs3 q3=>?_
    exact ⟨_,H3,T2,hv,le2,S6.mono hs3,go,q3⟩) ((prog,w,A,s),(x,ρ,H,T),(K,base,ca,fa),(d,f,vs,xs),(Q,RR))
end
section
variable {prog:Program} {w:World} {A:Around} {s:Shared} {x:Fx} {ρ:Lc} {H:Hp} {T:Im} {K:Frag} {base:Heap} {ca fa:Nat->Addr} {Γ:Sg}
noncomputable abbrev gN (C:Addr) (xs:List Value):Code:=.builtin "type.__call__" ⟨.ref C::xs,[]⟩
theorem mZ (C:Addr) (xs:List Value):(gN C xs).weight=1:=by rfl
theorem vm (C:Addr) (xs:List Value):(gN C xs).cUnits<=3:=by
 have:(gN C xs).cUnits=1:=by rfl
 exact QV _ _
def oN {d:Nat} {c:Nat} {vs:List V} {xs:List Value} {Q:V->Hp->Prop} {E:Value->Shared->Prop}:Prop:=∀(hsort:cb) (Z:E1 K base ca fa) (hroom:A.depth+1<recursionLimit) (R:∀(C:Addr) (xs:List Value) env,Rn prog w K base ca fa ((A.under (gN C xs)).deeper env) (gh code d)) (hb:x.base=base) (hc:x.ca=ca) (S:aJ x s.heap ρ H T) (hc3:c<3) (hv:cA T vs xs) (hw:∀a dx,H a=none->H dx=none->a≠dx->gh code (d+1) (1000+c) (.ref a::vs) ((H.upd a (.inst c dx)).upd dx (.dict [])) λv H=>isNone v=true/\Q (.ref a) H),wpAny (model prog w) A (PySem.call (.ref (ca c)) xs) (bf x ρ T s Q) E s
theorem CY {d:Nat} {c:Nat} {vs:List V} {xs:List Value} {Q:V->Hp->Prop} {E:Value->Shared->Prop}:@oN prog w A s x ρ H T K base ca fa d c vs xs Q E:=ao (S:=λx:(Program×World×Around×Shared)×(Fx×Lc×Hp×Im)×(Frag×Heap×(Nat->Addr)×(Nat->Addr))×(Nat×Nat×List V×List Value)×((V->Hp->Prop)×(Value->Shared->Prop))=>@oN x.1.1 x.1.2.1 x.1.2.2.1 x.1.2.2.2 x.2.1.1 x.2.1.2.1 x.2.1.2.2.1 x.2.1.2.2.2 x.2.2.1.1 x.2.2.1.2.1 x.2.2.1.2.2.1 x.2.2.1.2.2.2 x.2.2.2.1.1 x.2.2.2.1.2.1 x.2.2.2.1.2.2.1 x.2.2.2.1.2.2.2 x.2.2.2.2.1 x.2.2.2.2.2) (x:=((default,dW,{},{}),(uK,[],λ_=>none,λ_=>none),([],default,λ_=>0,λ_=>0),(0,0,[],[]),(λ_ _=>True,λ_ _=>True))) (by
 refine (?_:∀prog w A s x ρ H T K base ca fa d c vs xs Q E,@oN prog w A s x ρ H T K base ca fa d c vs xs Q E) _ _ _ _ _ _ _ _ _ _ _ _ _ _ _ _ _ _;intro prog w A s x ρ H T K base ca fa d c vs xs Q E hsort Z hroom R hb hc S hc3 hv hw;obtain ⟨m,F,N,go⟩:=S.news;refine dH (Z.made c hc3) λz1 z2 z3=>?_;have X0:K.In x.h₀:=λa o e=>S.cJ a o (by rw [hb];exact Z.tv a o e);refine call_cls F X0 N z1 z2 z3 λa dx h' F' N' hlt hda=>?_;refine aD (go h' [(a,instObj (ca c) dx),(dx,dictOf [] 0)] F' N') λS' kp=>?_;have Na:=N' _ (PM ..);have Nd:=N' _ (PQ _ (PM ..))
 have hlow:∀b:Addr,¬LT.lt (α:=Nat) b dx->H b=none:=λb hb=>by
  cases e:H b with
  | none=>rfl
  | some ob=>
   refine dH (S.own b ob e) ?_;rintro ⟨o,e1,_⟩ e2 e3;exact absurd (hlt (b,o) (eN.mpr ⟨e1,e2,e3⟩)) hb
 have hHd:H dx=none:=hlow dx (Qr _);have hHa:H a=none:=hlow a (QK.mpr (Pw hda));have hne:a≠dx:=P5 hda
 have S2:aJ x h' ρ ((H.upd a (.inst c dx)).upd dx (.dict [])) T:=by
  refine ⟨S'.cJ,S'.fr,λb ob e=>?_,S'.eY,S'.jy⟩;unfold Hp.upd at e;by_cases hbd:b=dx
  ·subst hbd;rw [Po rfl] at e;cases e;exact ⟨⟨_,Nd.1,.dict (es:=[]) .nil⟩,Nd.2.1,Nd.2.2⟩
  ·rw [Pf hbd] at e;by_cases hba:b=a
   ·subst hba;rw [Po rfl] at e;cases e;refine ⟨⟨_,Na.1,?_⟩,Na.2.1,Na.2.2⟩;have:OR x.ca T (.inst c dx) { cls:=.ref (x.ca c),dict:=some dx,data:=.plain }:=.inst hc3;rw [hc] at this;rw [hc];exact this
   ·rw [Pf hba] at e;exact S'.own b ob e
 refine nN (s:={ s with heap:=h' }) (A:=A.under (gN (ca c) xs)) hsort Z (by show A.depth+(gN (ca c) xs).weight<_;rw [mZ];exact hroom) (R _ _) hb hc S2 (.cons (.ref a) hv) (hw a dx hHa hHd hne) λval s' h=>?_;obtain ⟨v,H3,T3,r1,r2,r3,r4,r5,r6⟩:=h
 cases r1<;>first | (cases r5) | skip
 exact ⟨rfl,.ref a,H3,T3,.ref a,r2,r3,⟨r4.1,r4.2⟩,r6⟩) ((prog,w,A,s),(x,ρ,H,T),(K,base,ca,fa),(d,c,vs,xs),(Q,E))
theorem runs (hsort:cb) (Z:E1 K base ca fa):∀(d:Nat) (A:Around),A.handled=none->A.depth+4*d+4<=990->A.units+10*d+200<=9000->Rn prog w K base ca fa A (gh code d):=by
 intro d
 induction d with
 | zero=>
  intro A hh hd hu;refine ⟨Z.tv,Z.lim,Z.g,Z.b,Z.cls,Z.Av,Z.As,Z.IU,Z.Ay,Z.IV,Z.xj,hh,by simp only [cLine];lia,λ_ _ _ _ h=>?_,λ{E s x ρ H T c vs xs Q} _ _ _ S _ h=>?_⟩
  ·rw [gh] at h;exact h.elim
  ·have:=h s.heap.objs.size (s.heap.objs.size+1) (S.fresh (Pt _)) (S.fresh (Se _)) (Qh (PD _));rw [gh] at this;exact this.elim
 | succ d ih=>
  intro A hh hd hu;refine ⟨Z.tv,Z.lim,Z.g,Z.b,Z.cls,Z.Av,Z.As,Z.IU,Z.Ay,Z.IV,Z.xj,hh,by simp only [cLine];lia,λhb hc S hv h=>?_,λhc3 hb hc S hv h=>?_⟩
  ·refine wpAny_call (nN hsort Z (by simp only [recursionLimit];lia) (λenv=>ih _ hh ?_ ?_) hb hc S hv h λval s' h=>h)
   ·show A.depth+1+4*d+4<=990;lia
   ·show A.units+3+10*d+200<=9000;lia
  ·refine CY hsort Z (by simp only [recursionLimit];lia) (λC xs env=>ih _ hh ?_ ?_) hb hc S hc3 hv h
   ·show A.depth+(gN C xs).weight+1+4*d+4<=990;rw [mZ];lia
   ·show A.units+(gN C xs).cUnits+3+10*d+200<=9000;have:=vm C xs;lia
end
noncomputable def OT:List (Nat×Addr):=[(0,21),(1,28),(2,35),(3,42),(4,49),(5,56),(6,63),(7,70),(8,98),(9,105),(10,112),(11,119),(12,126),(13,188),(14,195),(15,202),(16,209),(17,216),(18,223),(19,230),(20,237),(21,244),(22,251),(23,258),(24,265),(25,293),(26,300),(27,307),(28,314),(29,321),(30,328),(31,335),(32,342),(33,349),(34,356),(35,363),(36,370),(37,377),(38,384),(39,391),(40,398),(41,405),(42,412),(43,419),(44,426),(45,433),(46,440),(47,447),(48,454),(49,461),(50,468),(51,475),(52,482),(53,489),(54,496),(55,503),(56,510),(57,517),(58,524),(59,531),(60,538),(61,545),(62,552),(63,559),(64,566),(65,573),(66,580),(67,587),(68,594),(69,601),(70,608),(71,615),(72,622),(73,629),(74,636),(75,643),(76,650),(77,657),(78,664),(79,671),(80,678),(81,685),(82,692),(83,699),(84,706),(85,713),(86,720),(87,727),(88,734),(89,741),(90,748),(91,755),(92,762),(93,769),(94,776),(95,783),(96,790),(97,797),(98,804),(99,811),(100,818),(101,825),(102,832),(103,839),(104,844),(105,849),(106,854),(107,861),(1000,84),(1001,174),(1002,279)]
noncomputable def fa (k:Nat):Addr:=(OT.lookup k).getD 0
noncomputable def ca:Nat->Addr
 | 0=>87
 | 1=>177
 | _=>282
noncomputable def Ij:Value->Option Int
 | .int j _=>some j
 | _=>none
noncomputable def Lv:Value->Option Addr
 | .ref a=>some a
 | _=>none
noncomputable def Lw:Value->Option String
 | .builtin a=>some a
 | _=>none
theorem Ii (v:Value):match Ij v with | some i=>∃t,v=.int i t | none=>True:=by cases v with | int i t=>exact ⟨t,rfl⟩ | _=>exact True.intro
theorem Ih (v:Value):match Lv v with | some i=>v=.ref i | none=>True:=by cases v with | ref i=>exact rfl | _=>exact True.intro
theorem Il (v:Value):match Lw v with | some i=>v=.builtin i | none=>True:=by cases v with | builtin i=>exact rfl | _=>exact True.intro
theorem yD {v:Value} {i:Int} (h:Ij v=some i):∃t,v=.int i t:=by have:=Ii v;rw [h] at this;exact this
theorem EC {v:Value} {i:Addr} (h:Lv v=some i):v=.ref i:=by have:=Ih v;rw [h] at this;exact this
theorem ED {v:Value} {i:String} (h:Lw v=some i):v=.builtin i:=by have:=Il v;rw [h] at this;exact this
noncomputable def n7:List Value->List Int->Bool
 | [],[]=>true
 | v::r,j::q=>(match Ij v with | some i=>i == j | none=>false) && n7 r q
 | _,_=>false
theorem qV {vs:List Value}:∀{is:List Int},n7 vs is=true->IntsAre vs is:=by
 induction vs with
 | nil=>
  intro is h
  cases is with
  | nil=>exact .nil
  | cons=>exact nomatch h
 | cons v r ih=>
  intro is h
  cases is with
  | nil=>exact nomatch h
  | cons j q=>
   refine aD (Rk.mp h) λh1 h2=>?_
   cases e:Ij v with
   | none=>rw [e] at h1;exact nomatch h1
   | some i=>
    rw [e] at h1;refine bI (yD e) λt ht=>?_;rw [ht,eq_of_beq h1];exact .cons _ t (ih h2)
noncomputable def LW:Value->Option String
 | .type n=>some n
 | _=>none
theorem E8 (v:Value):match LW v with | some i=>v=.type i | none=>True:=by cases v with | type i=>exact rfl | _=>exact True.intro
noncomputable def LX:Data->Option (Array Value×Nat)
 | .seq xs k=>some (xs,k)
 | _=>none
theorem Fp (v:Data):match LX v with | some i=>v=.seq i.1 i.2 | none=>True:=by cases v with | seq xs k=>exact rfl | _=>exact True.intro
noncomputable def qb (o:Obj):Option (List Value):=(LX o.data).bind λp=>if LW o.cls=some "tuple"/\o.dict.isNone=true/\p.2=0/\o.slots.toList.isEmpty=true then some p.1.toList else none
theorem qa {o:Obj} {l:List Value} (h:qb o=some l):o={ cls:=.type "tuple",data:=.seq l.toArray }:=by
 refine aq (PJ.mp h) λp hp h=>?_;have h1:=Fp o.data;rw [hp] at h1;have h2:=E8 o.cls;obtain ⟨c,d,a,sl⟩:=o;dsimp only at *;split at h
 ·rename_i q;refine rR q λq1 q2 q3 q4=>?_;rw [q1] at h2;dsimp only at h2;cases h;rw [h1,h2,q3,RO.mp q2,Array.toList_inj.mp ((QZ.mp q4).trans (show []=(#[]:Array (Option Value)).toList from rfl))]
 ·exact nomatch h
noncomputable def ss {α β:Type} (f:α->Option β) (o:Option (Option α)):Option β:=match o with
 | some (some v)=>f v
 | _=>none
theorem vA {α β:Type} {f:α->Option β} {o:Option (Option α)} {i:β} (h:ss f o=some i):∃v,o=some (some v)/\f v=some i:=by
 rcases o with _ | _ | v
 ·exact nomatch h
 ·exact nomatch h
 ·exact ⟨v,rfl,h⟩
noncomputable def BR:Option (Option Value)->Option Int:=ss Ij
noncomputable def qE:Option (Option Value)->Option Addr:=ss Lv
noncomputable def Ik:Option (Option Value)->Option String:=ss Lw
noncomputable def Ap {α:Type}:Option (Option α)->Bool
 | some none=>true
 | _=>false
theorem yC {o:Option (Option Value)} {i:Int} (h:BR o=some i):∃t,o=some (some (.int i t)):=aq (vA h) λv h1 h2=>bI (yD h2) λt h3=>⟨t,by rw [h1,h3]⟩
theorem jv {o:Option (Option Value)} {i:Addr} (h:qE o=some i):o=some (some (.ref i)):=aq (vA h) λv h1 h2=>by rw [h1,EC h2]
theorem AZ {o:Option (Option Value)} {i:String} (h:Ik o=some i):o=some (some (.builtin i)):=aq (vA h) λv h1 h2=>by rw [h1,ED h2]
theorem oY {α:Type} {o:Option (Option α)} (h:Ap o=true):o=some none:=by
 rcases o with _ | _ | v
 ·cases h
 ·rfl
 ·cases h
theorem anyOf {α:Type} {o:Option α} {p:α->Bool} (h:o.any p=true):∃x,o=some x/\p x=true:=by
 cases o with
 | none=>cases h
 | some x=>exact ⟨x,rfl,h⟩
theorem band {a b:Bool} {P:Prop} (h:(a && b)=true) (k:a=true->b=true->P):P:=by
 cases a<;>cases b<;>first | exact k rfl rfl | cases h
noncomputable def GL (K:Frag) (n:Str):Gl->Bool
 | .int i=>BR (nsIn K mainGlobals n) == some i
 | .tup is=>(qE (nsIn K mainGlobals n)).any λa=>(K.lookup a).any λo=>(qb o).any λl=>n7 l is && decide (is.length<=1000)
 | .fn k=>qE (nsIn K mainGlobals n) == some (fa k) && keepIn K (.ref (fa k))
 | .cls c=>decide (c<3) && (qE (nsIn K mainGlobals n) == some (ca c) && keepIn K (.ref (ca c)))
 | .bi b=>Ap (nsIn K mainGlobals n) && (bootBuiltins n == some (ku b) && !(n == ("__name__":Str)))
noncomputable def DQ (K:Frag) (p:Str×Gl):Bool:=!(p.1 == ("__debug__":Str)) && GL K p.1 p.2
theorem nH {n:Str} {g:Gl}:∀{l:GT},de n l=some g->(n,g)∈l
 | [],h=>nomatch h
 | (m,k)::r,h=>by
  by_cases hm:(m == n)=true
  ·rw [de,Po hm] at h;cases h;rw [eq_of_beq hm];exact PM ..
  ·rw [de,Pf hm] at h;exact PQ _ (nH h)
noncomputable def fdOf (o:Option Obj):Option (FuncData×List Stmt):=match o with
 | some ⟨_,_,.func fd,_⟩=>(match fd.body with
  | .stmts b=>some (fd,b)
  | _=>none)
 | _=>none
theorem AF {o:Option Obj} {p:FuncData×List Stmt} (h:fdOf o=some p):∃oc od osl,o=some ⟨oc,od,.func p.1,osl⟩/\p.1.body=.stmts p.2:=by
 cases o with
 | none=>cases h
 | some o=>
  obtain ⟨oc,od,d,osl⟩:=o
  cases d with
  | func fd=>
   revert h;show (match fd.body with | .stmts b=>some (fd,b) | _=>none)=some p->_
   cases e:fd.body with
   | stmts b=>intro h;cases h;exact ⟨oc,od,osl,rfl,e⟩
   | expr b=>nofun
  | _=>cases h
noncomputable def JZ:Value->Bool
 | .none=>true
 | _=>false
noncomputable def DJ:ScopeKind->Bool
 | .function=>true
 | _=>false
noncomputable def DU (K:Frag) (F:Fn) (fd:FuncData):Bool:=codeIn K fd.code fd.qualname && (fd.closure.isEmpty && (fd.globals == mainGlobals && (fd.builtins == builtinsNs && (DJ fd.scope.kind && (!fd.scope.isCoroutine && (!fd.scope.isGenerator &&
 (fd.params.posonlyargs.isEmpty && (fd.params.kwonlyargs.isEmpty && (fd.params.vararg.isNone && (fd.params.kwarg.isNone && (JZ fd.defaults && (decide (fd.params.args.map (·.arg)=F.names.take F.np) &&
 (decide (F.np<=F.names.length) && (decide F.names.Nodup && vG fd.scope F.names))))))))))))))
noncomputable def tJ (K:Frag) (a:Addr) (F:Fn):Bool:=(fdOf (K.lookup a)).any λp=>DU K F p.1
noncomputable def mf (K:Frag) (a:Addr) (F:Fn):S:=match fdOf (K.lookup a) with
 | some p=>cB gt attrs p.1.scope F.names p.2
 | none=>.bad
def jU {K:Frag} {a:Addr} {F:Fn}:Prop:=∀(h:tJ K a F=true) (hB:mf K a F=F.body),FnAt K a F
theorem xn {K:Frag} {a:Addr} {F:Fn}:@jU K a F:=ao (S:=λx:Frag×Addr×Fn=>@jU x.1 x.2.1 x.2.2) (x:=([],0,⟨"",[],0,.brk⟩)) (by
 refine (?_:∀K a F,@jU K a F) _ _ _;intro K a F h hB;delta tJ at h;delta mf at hB
 cases e:fdOf (K.lookup a) with
 | none=>rw [e] at h;cases h
 | some p=>
  rw [e] at h hB;refine GY (AF e) λoc od osl h0 hb=>?_
  refine band h λh1 h=>band h λh2 h=>band h λh3 h=>band h λh4 h=>band h λh5 h=>band h λh6 h=>band h λh7 h=>band h λh8 h=>band h λh9 h=>band h λh10 h=>band h λh11 h=>band h λh12 h=>band h λh13 h=>band h λh14 h=>band h λh15 h16=>
   ⟨oc,od,osl,p.1,p.2,h0,hb,h1,QZ.mp h2,eq_of_beq h3,eq_of_beq h4,⟨?_,(P4 _).mp h6,(P4 _).mp h7⟩,⟨QZ.mp h8,QZ.mp h9,RO.mp h10,RO.mp h11,?_⟩,Pj h13,Pj h14,Pj h15,h16,hB⟩
  ·revert h5;cases p.1.scope.kind<;>first | exact λ_=>rfl | nofun
  ·revert h12;cases p.1.defaults<;>first | exact λ_=>rfl | nofun) (K,a,F)
noncomputable def ph (K:Frag) (c:Nat):Bool:=(List.range attrs.length).all (λn=>plainGet K (ca c) (an n) && (Ap (findIn K (.ref (ca c)) (an n)) && Ap (takerIn K (ca c) (an n)))) &&
 (hasDictIn K (ca c) && (plainOver K (ca c) && (Ik (findIn K (.ref (ca c)) "__setattr__") == some "object.__setattr__" && (makesIn K (ca c) && (qE (findIn K (.ref (ca c)) "__init__") == some (fa (1000+c)) && isFn K (.ref (fa (1000+c))))))))
end Internal
end
section
open PySem
namespace Internal
theorem k5 (x y:Nat):Builtin.bitAnd (x:Int) (y:Int)=((x &&& y:Nat):Int):=by
 rw [PyProof.Rows.bitAnd_pp (PI x) (PI y)];rfl
theorem wi (x y:Nat):Builtin.bitOr (x:Int) (y:Int)=((x ||| y:Nat):Int):=by
 rw [PyProof.Rows.bitOr_and,k5];have:=PyProof.Rows.nat_or_add_and x y;lia
theorem tN (x y:Nat) (h:x &&& y=0):x+y=x ||| y:=by
 have:=PyProof.Rows.nat_or_add_and x y;lia
theorem cH {x y:Nat} (h:∀i,x.testBit i=y.testBit i):x=y:=Nat.eq_of_testBit_eq h
theorem kJ (x y:Nat):(x ^^^ y)+(x &&& y)=x ||| y:=by
 rw [tN _ _ (cH λi=>by rw [Q7,Pu,Q7,Py];cases x.testBit i<;>cases y.testBit i<;>rfl)]
 exact cH λi=>by rw [RN,Pu,Q7,RN];cases x.testBit i<;>cases y.testBit i<;>rfl
theorem yY (x y:Nat):Builtin.bitXor (x:Int) (y:Int)=((x ^^^ y:Nat):Int):=by
 unfold Builtin.bitXor;rw [wi,k5];have:=kJ x y;lia
noncomputable def eg (a b:Nat):Nat:=a ^^^ (a &&& b)
theorem sS (a b i:Nat):(eg a b).testBit i=(a.testBit i && !b.testBit i):=by
 unfold eg;rw [Pu,Q7];cases a.testBit i<;>cases b.testBit i<;>rfl
theorem qG (x y:Nat):Builtin.bitAnd (x:Int) (Builtin.bitNot (y:Int))=((eg x y:Nat):Int):=by
 rw [PyProof.Rows.bitAnd_not,k5];have h:=kJ x (x &&& y)
 have e1:x &&& (x &&& y)=x &&& y:=by rw [<- SJ,Nat.and_self]
 have e2:x ||| (x &&& y)=x:=cH λi=>by rw [RN,Q7];cases x.testBit i<;>cases y.testBit i<;>rfl
 rw [e1,e2] at h;unfold eg;lia
theorem Ah (b:Nat):Builtin.bitAnd (b:Int) (-(b:Int))=((eg b (b-1):Nat):Int):=by
 cases b with
 | zero=>rfl
 | succ n=>rw [<- qG];congr 1;unfold Builtin.bitNot;lia
noncomputable abbrev nv (n:Nat):V:=.int (n:Int)
noncomputable abbrev av (l:List Nat):List V:=l.map nv
structure aE where
 aa:Nat
 bD:Nat
 dbl:Bool
 gH:Bool
 fm:List Nat
 rm:List Nat
 eJ:List (List Nat)
 cv:List Nat
 a8:List Nat
 pw:List Nat
 pb:List Nat
 br:List (Option (Nat×Nat×Nat×Nat))
 cK:List Nat
noncomputable def aE.size (G:aE):Nat:=G.aa*G.bD
noncomputable def aE.full (G:aE):Nat:=2^G.size-1
noncomputable def vd:Option (Nat×Nat×Nat×Nat)->V
 | none=>.none
 | some (a,b,c,d)=>.tup [nv a,nv b,nv c,nv d]
structure Rw where
 ae:List Nat
 bE:List Nat
 bV:List Nat
 af:Nat
 ab:Nat
 ep:Int
 fG:Int
 full:Int
 key:Nat
 cx:List V
structure Ad where
 p:Addr
 dx:Addr
 bd:Addr
 kd:Addr
 sd:Addr
 hs:Addr
 g:Addr
 gd:Addr
 fm:Addr
 rm:Addr
 ow:Addr
 mO:Nat->Addr
 cv:Addr
 a8:Addr
 fF:Addr
 pn:Nat->Addr
 gH:Addr
 cK:Addr
 z:Addr
 zd:Addr
 zp:Addr
 row:Nat->Addr
 ze:Addr
 zr:Addr
noncomputable def jX:Ad:=⟨0,0,0,0,0,0,0,0,0,0,0,λ_=>0,0,0,0,λ_=>0,0,0,0,0,0,λ_=>0,0,0⟩
noncomputable def bN:aE:=⟨0,0,false,false,[],[],[],[],[],[],[],[],[]⟩
noncomputable def fC:Rw:=⟨[],[],[],0,0,0,0,0,0,[]⟩
noncomputable def vb (size m:Nat):List Nat:=(List.range size).map λs=>2^(m*size+s)
noncomputable def Ba (size aa:Nat):List Nat:=(List.range aa).map λf=>2^(15*size+4+f)
noncomputable def A9 (size:Nat):List Nat:=(List.range 16).map λr=>r <<< (15*size)
noncomputable def yQ (size aa:Nat):Nat:=2^(15*size+4+aa)
structure GW (H:Hp) (a:Ad) (G:aE):Prop where
 g:H a.g=some (.inst 1 a.gd)
 gd:H a.gd=some (.dict [(4,nv G.aa),(5,nv G.bD),(6,nv G.size),(7,nv G.full),(8,.bool G.dbl),(9,.bool G.gH),(10,.ref a.fm),(11,.ref a.rm),(12,.ref a.ow),(13,.ref a.cv),(14,.ref a.a8),(15,.ref a.fF),(16,.ref a.gH),(17,.ref a.cK)])
 fm:H a.fm=some (.list (av G.fm))
 rm:H a.rm=some (.list (av G.rm))
 ow:H a.ow=some (.list ((List.range 8).map λd=>.ref (a.mO d)))
 mO:∀d r,G.eJ[d]?=some r->H (a.mO d)=some (.list (av r))
 cv:H a.cv=some (.list (av G.cv))
 a8:H a.a8=some (.list (av G.a8))
 fF:H a.fF=some (.list ((List.range 2).map λd=>.ref (a.pn d)))
 pn:∀c r,[G.pw,G.pb][c]?=some r->H (a.pn c)=some (.list (av r))
 gH:H a.gH=some (.list (G.br.map vd))
 cK:H a.cK=some (.list (av G.cK))
structure ZW (H:Hp) (a:Ad) (G:aE):Prop where
 z:H a.z=some (.inst 0 a.zd)
 zd:H a.zd=some (.dict [(0,.ref a.zp),(1,.ref a.ze),(2,.ref a.zr),(3,nv (yQ G.size G.aa))])
 zp:H a.zp=some (.list ((List.range 15).map λm=>.ref (a.row m)))
 row:∀m,m<15->H (a.row m)=some (.list (av (vb G.size m)))
 ze:H a.ze=some (.list (av (Ba G.size G.aa)))
 zr:H a.zr=some (.list (av (A9 G.size)))
structure PW (H:Hp) (a:Ad) (R:Rw):Prop where
 p:H a.p=some (.inst 2 a.dx)
 dx:H a.dx=some (.dict [(18,.ref a.g),(19,.ref a.z),(20,.ref a.bd),(21,.ref a.kd),(22,.ref a.sd),(3,nv R.af),(2,nv R.ab),(1,.int R.ep),(23,.int R.fG),(7,.int R.full),(24,nv R.key),(25,.ref a.hs)])
 bd:H a.bd=some (.list (av R.ae))
 kd:H a.kd=some (.list (av R.bE))
 sd:H a.sd=some (.list (av R.bV))
 hs:H a.hs=some (.list R.cx)
structure W (H:Hp) (a:Ad) (G:aE) (R:Rw):Prop where
 P:PW H a R
 T:GW H a G
 Z:ZW H a G
theorem W.mono {H H':Hp} {a:Ad} {G:aE} {R:Rw} (w:W H a G R) (s:H.Sub H'):W H' a G R:=
 ⟨⟨s _ _ w.P.p,s _ _ w.P.dx,s _ _ w.P.bd,s _ _ w.P.kd,s _ _ w.P.sd,s _ _ w.P.hs⟩,
  ⟨s _ _ w.T.g,s _ _ w.T.gd,s _ _ w.T.fm,s _ _ w.T.rm,s _ _ w.T.ow,λd r h=>s _ _ (w.T.mO d r h),s _ _ w.T.cv,s _ _ w.T.a8,s _ _ w.T.fF,λc r h=>s _ _ (w.T.pn c r h),s _ _ w.T.gH,s _ _ w.T.cK⟩,
  ⟨s _ _ w.Z.z,s _ _ w.Z.zd,s _ _ w.Z.zp,λm h=>s _ _ (w.Z.row m h),s _ _ w.Z.ze,s _ _ w.Z.zr⟩⟩
theorem Hp.Sub.refl (H:Hp):H.Sub H:=λ_ _ h=>h
theorem Hp.Sub.trans {A B C:Hp} (h:A.Sub B) (k:B.Sub C):A.Sub C:=λa o e=>k a o (h a o e)
theorem Hp.ai (H:Hp) (a:Addr) (o:Ob):(H.upd a o) a=some o:=Po rfl
theorem Hp.ay {H:Hp} {a b:Addr} {o:Ob} (h:b≠a):(H.upd a o) b=H b:=Pf h
theorem Hp.ax {H:Hp} {a:Addr} {o:Ob} (h:H a=none):H.Sub (H.upd a o):=λb p e=>by
 have:b≠a:=λq=>by rw [q,h] at e;cases e
 rw [Hp.ay this];exact e
theorem Hp.eE (H:Hp) (a:Addr) (o o':Ob):(H.upd a o).upd a o'=H.upd a o':=by
 funext b;unfold Hp.upd;split<;>rfl
theorem Hp.dJ {H:Hp} {a b:Addr} {o:Ob} (h:H a=some o) (k:H b=none):a≠b:=λe=>by rw [e,k] at h;cases h
@[irreducible] noncomputable def Call (d:Nat):Sg:=gh code d
@[irreducible] def di (Q:V->Hp->Prop):Fl->Lc->Hp->Prop:=λfl _ H'=>match iD fl with
 | some v=>∃H'':Hp,H''.Sub H'/\Q v H''
 | none=>False
section
variable {Γ:Sg} {ρ:Lc} {H:Hp} {Q:Fl->Lc->Hp->Prop} {q:V->Hp->Prop}
theorem ar {d f:Nat} {g:Str} {ns:List Str} {np:Nat} {b:S} {args:List V} (hF:code f=some ⟨g,ns,np,b⟩) (hn:args.length=np) (h:aO (Call d) b (args.map some++List.replicate (ns.length-np) none) H (di q)):Call (d+1) f args H q:=by
 unfold Call di at h;unfold Call
 show (match code f with | none=>False | some F=>args.length=F.np/\aO (gh code d) F.body (args.map some++List.replicate (F.names.length-F.np) none) H λfl _ H'=>match iD fl with
       | some v=>∃H'':Hp,H''.Sub H'/\q v H''
       | none=>False)
 rw [hF];exact ⟨hn,h⟩
theorem aj {v:V} (h:q v H):di q (.ret v) ρ H:=by unfold di;exact ⟨H,Hp.Sub.refl H,h⟩
theorem gr {v:V} (H':Hp) (s:H'.Sub H) (h:q v H'):di q (.ret v) ρ H:=by unfold di;exact ⟨H',s,h⟩
theorem dk (H':Hp) (s:H'.Sub H) (h:q .none H'):di q .next ρ H:=by unfold di;exact ⟨H',s,h⟩
theorem fJ (h:q .none H):di q .next ρ H:=by unfold di;exact ⟨H,Hp.Sub.refl H,h⟩
theorem aQ {A:Prop} (h:A):ji .none A:=by unfold ji;exact h
theorem wM {A:Prop} {i:Int} (h:A):ji (.int i) A:=by unfold ji;exact h
theorem mM {is:List Nat} {vs:List V} {P:Lc->Prop} {ρ':Lc} (hs:j9 ρ is vs=some ρ') (h:P ρ'):tupK ρ is (.tup vs) P:=by unfold tupK;simp only [hs];exact h
theorem fz {v:V} {a b:S} {Kt:Fl->Lc->Hp->Prop} (P:Lc->Hp->Prop) (hJ:∀ρ' H',P ρ' H'->Kt .next ρ' H')
 (h:∀K',(∀ρ' H',P ρ' H'->K' Fl.next ρ' H')->(∀v ρ' H',Kt (.ret v) ρ' H'->K' (.ret v) ρ' H')->cz v (aO Γ a ρ H K') (aO Γ b ρ H K')):cz v (aO Γ a ρ H Kt) (aO Γ b ρ H Kt):=h Kt hJ λ_ _ _ h=>h
theorem uC {v:V} {a b:S} {Kt:Fl->Lc->Hp->Prop} (i:Nat) (z:V) (hJ:Kt .next (cR ρ i z) H)
 (h:∀K',K' Fl.next (cR ρ i z) H->cz v (aO Γ a ρ H K') (aO Γ b ρ H K')):cz v (aO Γ a ρ H Kt) (aO Γ b ρ H Kt):=h Kt hJ
theorem set_same:∀{ρ:Lc} {i:Nat} {v:V},getL ρ i=some v->cR ρ i v=ρ
 | [],_,_,h=>by cases h
 | x::r,0,v,h=>by
  have:x=some v:=h;rw [this];rfl
 | x::r,i+1,v,h=>congrArg (x::·) (set_same (ρ:=r) (i:=i) h)
theorem gF {K':Fl->Lc->Hp->Prop} {i:Nat} {z z':V} (j:K' Fl.next (cR ρ i z) H) (e:z'=z):K' Fl.next (cR ρ i z') H:=e ▸ j
theorem eD {K':Fl->Lc->Hp->Prop} {i:Nat} {z z':V} (j:K' Fl.next (cR ρ i z) H) (hg:getL ρ i=some z') (e:z'=z):K' Fl.next ρ H:=by
 have:=set_same hg;subst e;rw [this] at j;exact j
theorem AD {body:Lc->Hp->(Fl->Lc->Hp->Prop)->Prop} {i:Nat} {chk:Hp->Prop} (I:Nat->Lc->Hp->Prop):∀{vs:List V} {k:Nat} {ρ:Lc} {H:Hp},
 (∀j x ρ H K,vs[j]?=some x->I (k+j) ρ H->(∀ρ' H',I (k+j+1) ρ' H'->K Fl.next ρ' H')->(∀v ρ' H',Q (.ret v) ρ' H'->K (.ret v) ρ' H')->(∀ρ' H',Q .next ρ' H'->K .brk ρ' H')->chk H/\body (cR ρ i x) H K)->
 (∀ρ H,I (k+vs.length) ρ H->chk H/\Q .next ρ H)->I k ρ H->fi body i chk vs ρ H Q
 | [],k,ρ,H,_,fin,h0=>fin ρ H h0
 | x::r,k,ρ,H,step,fin,h0=>by
  have hh:∀ρ' H',I (k+1) ρ' H'->fi body i chk r ρ' H' Q:=λρ' H' h=>
   AD I (k:=k+1) (λj x ρ H K hx hI a b c=>step (j+1) x ρ H K hx (by rw [<- Q0,RY];exact hI) (by rw [<- Q0,RY k j 1];exact a) b c) (λρ H h=>fin ρ H (by rw [List.length_cons,RA r.length 1,<- Q0];exact h)) h
  exact step 0 x ρ H _ rfl h0 hh (λ_ _ _ h=>h) λ_ _ h=>h
theorem ri {a b:Nat}:aP a b 1=(List.range (b-a)).map λk=>nv (a+k):=by
 have:cj a b 1=b-a:=by unfold cj Builtin.Range.rangeSize;rw [Po (by decide)];split<;>lia
 unfold aP;rw [this];refine Qv λk _=>?_;show V.int ((a:Int)+(k:Int)*1)=V.int ((a+k:Nat):Int);congr 1;lia
theorem uf {n:Nat}:aP 0 (n:Int) 1=(List.range n).map nv:=by
 have:=ri (a:=0) (b:=n);rw [show ((0:Nat):Int)=0 from rfl,Nat.sub_zero] at this
 rw [this];exact Qv λk _=>by rw [QL]
theorem vN {n:Nat}:aP ((n:Int) -1) (-1) (-1)=(List.range n).map λk=>nv (n-1-k):=by
 have:cj ((n:Int) -1) (-1) (-1)=n:=by unfold cj Builtin.Range.rangeSize;rw [Pf (by decide),Int.neg_neg,Int.ediv_one];split<;>lia
 unfold aP;rw [this];refine Qv λk hk=>?_;have:=Rf.mp hk;show V.int ((n:Int) -1+(k:Int)*(-1))=V.int ((n-1-k:Nat):Int);congr 1;lia
section
variable {body:Lc->Hp->(Fl->Lc->Hp->Prop)->Prop}
theorem forL {i:Nat} {x:Addr} {vs:List V} (h1:H x=some (.list vs)) (I:Nat->Lc->Hp->Prop)
 (step:∀j v ρ H K,vs[j]?=some v->I j ρ H->(∀ρ' H',I (j+1) ρ' H'->K Fl.next ρ' H')->(∀v ρ' H',Q (.ret v) ρ' H'->K (.ret v) ρ' H')->(∀ρ' H',Q .next ρ' H'->K .brk ρ' H')->H x=some (.list vs)/\body (cR ρ i v) H K)
 (fin:∀ρ H,I vs.length ρ H->H x=some (.list vs)/\Q .next ρ H) (h0:I 0 ρ H):fg body i (.ref x) ρ H Q:=by
 unfold fg;show (match H x with | some (.list vs)=>fi body i (λH=>H x=some (.list vs)) vs ρ H Q | _=>False);rw [h1];exact AD I (k:=0) (λj v ρ H K hx hI=>by rw [QL] at hI ⊢;exact step j v ρ H K hx hI) (λρ H h=>by rw [QL] at h;exact fin ρ H h) h0
theorem GO {i:Nat} {vs:List V} (I:Nat->Lc->Hp->Prop)
 (step:∀j v ρ H K,vs[j]?=some v->I j ρ H->(∀ρ' H',I (j+1) ρ' H'->K Fl.next ρ' H')->(∀v ρ' H',Q (.ret v) ρ' H'->K (.ret v) ρ' H')->(∀ρ' H',Q .next ρ' H'->K .brk ρ' H')->body (cR ρ i v) H K)
 (fin:∀ρ H,I vs.length ρ H->Q .next ρ H) (h0:I 0 ρ H):fg body i (.tup vs) ρ H Q:=by
 unfold fg;exact AD I (k:=0) (λj v ρ H K hx hI a b c=>⟨trivial,by rw [QL] at hI a;exact step j v ρ H K hx hI a b c⟩) (λρ H h=>⟨trivial,by rw [QL] at h;exact fin ρ H h⟩) h0
theorem DT {i n:Nat} {x y z:Int} {f:Nat->Nat} (he:aP x y z=(List.range n).map λk=>nv (f k)) (I:Nat->Lc->Hp->Prop)
 (step:∀j ρ H K,j<n->I j ρ H->(∀ρ' H',I (j+1) ρ' H'->K Fl.next ρ' H')->(∀v ρ' H',Q (.ret v) ρ' H'->K (.ret v) ρ' H')->(∀ρ' H',Q .next ρ' H'->K .brk ρ' H')->body (cR ρ i (nv (f j))) H K)
 (fin:∀ρ H,I n ρ H->Q .next ρ H) (h0:I 0 ρ H):fg body i (.fW x y z) ρ H Q:=by
 unfold fg;show fi body i (λ_=>True) (aP x y z) ρ H Q;rw [he];refine AD I (k:=0) (λj v ρ H K hx hI a b c=>⟨trivial,?_⟩) (λρ H h=>⟨trivial,?_⟩) h0
 ·rw [QL] at hI a;rw [P1] at hx
  have hj:j<n:=by
   rcases PG j n with q | q
   ·exact q
   ·rw [Qx (by rw [Ro];exact q)] at hx;cases hx
  rw [QS hj] at hx;cases hx;exact step j ρ H K hj hI a b c
 ·rw [QL,Ph,Ro] at h;exact fin ρ H h
theorem forR {i n:Nat} (I:Nat->Lc->Hp->Prop)
 (step:∀j ρ H K,j<n->I j ρ H->(∀ρ' H',I (j+1) ρ' H'->K Fl.next ρ' H')->(∀v ρ' H',Q (.ret v) ρ' H'->K (.ret v) ρ' H')->(∀ρ' H',Q .next ρ' H'->K .brk ρ' H')->body (cR ρ i (nv j)) H K)
 (fin:∀ρ H,I n ρ H->Q .next ρ H) (h0:I 0 ρ H):fg body i (.fW 0 n 1) ρ H Q:=DT (f:=λk=>k) uf I step fin h0
theorem lj {test:Lc->Hp->(V->Hp->Prop)->Prop} (I:Nat->Lc->Hp->Prop) (n:Nat) (h0:I n ρ H)
 (step:∀n ρ H K (X:Lc->Hp->Prop),I n ρ H->(∀m ρ' H',m<n->I m ρ' H'->K Fl.next ρ' H')->(∀v ρ' H',Q (.ret v) ρ' H'->K (.ret v) ρ' H')->(∀ρ' H',Q .next ρ' H'->K .brk ρ' H')->(∀ρ' H',Q .next ρ' H'->X ρ' H')->
  test ρ H λv H=>cz v (body ρ H K) (X ρ H)):∃n,dI test body n ρ H Q:=by
 refine ⟨n+1,?_⟩
 have key:∀(f:Nat) (n:Nat) (ρ:Lc) (H:Hp),n<f->I n ρ H->dI test body f ρ H Q:=by
  intro f
  induction f with
  | zero=>intro _ _ _ h;exact absurd h (Qu _)
  | succ f ih=>
   intro n ρ H hn hI
   have:=step n ρ H (λfl ρ H=>match fl with
    | .next=>dI test body f ρ H Q
    | .brk=>Q .next ρ H
    | .ret v=>Q (.ret v) ρ H) (λρ H=>Q .next ρ H) hI (λm ρ' H' hm h=>ih m ρ' H' (Pa hm (PX hn)) h) (λ_ _ _ h=>h) (λ_ _ h=>h) λ_ _ h=>h
   unfold cz at this;exact this
 exact key (n+1) n ρ H (PD n) h0
end
theorem o4 {A B:Prop} (h:A):cz (.bool true) A B:=by unfold cz;exact h
theorem gx {A B:Prop} (h:B):cz (.bool false) A B:=by unfold cz;exact h
theorem dd {b:Bool} {A B:Prop} (h:b=true->A) (k:b=false->B):cz (.bool b) A B:=by
 cases b
 ·exact gx (k rfl)
 ·exact o4 (h rfl)
theorem ag {p:Prop} [Decidable p] {A B:Prop} (h:p->A) (k:¬p->B):cz (.bool (decide p)) A B:=
 dd (λe=>h (Pj e)) λe=>k (of_decide_eq_false e)
theorem dG {n:Nat} {A B:Prop} (h:n≠0->A) (k:n=0->B):cz (nv n) A B:=by
 unfold cz;cases n with
 | zero=>exact k rfl
 | succ m=>exact h (Nat.succ_ne_zero m)
theorem Br {p:Prop} [Decidable p] (h:q (.bool (decide (¬p))) H):jc (.bool (decide p)) H q:=by
 unfold jc;by_cases e:p
 ·simp only [truthy,Px e];rw [decide_eq_false (λk=>k e)] at h;exact h
 ·simp only [truthy,decide_eq_false e];rw [Px e] at h;exact h
theorem lR {b:Bool} (h:q (.bool (!b)) H):jc (.bool b) H q:=by unfold jc;exact h
theorem FV {n:Nat} (h:q (.bool (decide (n=0))) H):jc (nv n) H q:=by
 unfold jc;cases n<;>exact h
theorem eM {i:Int} (h:q (.int (-i)) H):oO (.int i) H q:=by unfold oO;exact h
theorem je {i:Int} (h:q (.int (Builtin.bitNot i)) H):xa (.int i) H q:=by unfold xa;exact h
theorem eq_int {x y:Int}:PyData.eqv (.int x) (.int y)=decide (x=y):=by rw [PyData.eqv];exact Qa.mpr (by rw [QJ,Pl])
theorem tV {x y:Int} (h:q (.bool (decide (x=y))) H):bK .eq (.int x) (.int y) H q:=.mk ⟨.flat (.int x),.flat (.int y),by rw [eq_int];exact h⟩
theorem qz {x y:Int} (h:q (.bool (decide (x≠y))) H):bK .ne (.int x) (.int y) H q:=.mk ⟨.flat (.int x),.flat (.int y),by rw [eq_int,<- decide_not];exact h⟩
theorem nQ {x y:Int} (h:q (.bool (decide (x<y))) H):bK .lt (.int x) (.int y) H q:=.mk (.mk h)
theorem xO {x y:Int} (h:q (.bool (decide (y<x))) H):bK .gt (.int x) (.int y) H q:=.mk (.mk h)
theorem km {x y:Int} (h:q (.bool (decide (y<=x))) H):bK .ge (.int x) (.int y) H q:=.mk (.mk h)
theorem du {p p':Prop} [Decidable p] [Decidable p'] (h:p↔p'):decide p=decide p':=by rw [Qa,Pl,Pl];exact h
theorem aR {x y:Nat} (h:q (.bool (decide (x=y))) H):bK .eq (nv x) (nv y) H q:=tV (by rw [du (show (x:Int)=y↔x=y by exact Int.ofNat_inj)];exact h)
theorem ez {x y:Nat} (h:q (.bool (decide (x≠y))) H):bK .ne (nv x) (nv y) H q:=qz (by rw [du (show (x:Int)≠y↔x≠y by lia)];exact h)
theorem rU {x y:Nat} (h:q (.bool (decide (x<y))) H):bK .lt (nv x) (nv y) H q:=nQ (by rw [du (show (x:Int)<y↔x<y by exact Qd)];exact h)
theorem pv {x y:Nat} (h:q (.bool (decide (y<x))) H):bK .gt (nv x) (nv y) H q:=xO (by rw [du (show (y:Int)<x↔y<x by exact Qd)];exact h)
theorem Ha {x y:Nat} (h:q (.bool (decide (y<=x))) H):bK .ge (nv x) (nv y) H q:=km (by rw [du (show (y:Int)<=x↔y<=x by exact Qd)];exact h)
theorem G9 {v:V} (h:q (.bool (isNone v)) H):bK .is v .none H q:=.mk (.mk h)
theorem tU {v:V} (h:q (.bool (!isNone v)) H):bK .isnot v .none H q:=.mk (.mk h)
section
variable {x y:Nat}
theorem p_add (h:q (nv (x+y)) H):au .add (nv x) (nv y) H q:=by
 refine eU.int ?_;show q (.int ((x:Int)+(y:Int))) H;rw [<- S7];exact h
theorem cC (hle:y<=x) (h:q (nv (x-y)) H):au .sub (nv x) (nv y) H q:=by
 refine eU.int ?_;show q (.int ((x:Int) - (y:Int))) H;rw [<- Int.natCast_sub hle];exact h
theorem c8 {x y:Int} (h:q (.int (x-y)) H):au .sub (.int x) (.int y) H q:=eU.int h
theorem gW {x y:Int} (h:q (.int (x+y)) H):au .add (.int x) (.int y) H q:=eU.int h
theorem bR (hx:x<2^64) (h:q (nv (x*y)) H):au .mul (nv x) (nv y) H q:=by
 refine eU.int ?_;refine ⟨by rw [SD];exact hx,?_⟩;show q (.int ((x:Int)*(y:Int))) H;rw [<- Int.natCast_mul];exact h
theorem wc {x y:Int} (hx:x.natAbs<2^64) (h:q (.int (x*y)) H):au .mul (.int x) (.int y) H q:=by
 exact eU.int ⟨hx,h⟩
theorem c9 (h0:y≠0) (h1:y<1073741824) (h:q (nv (x / y)) H):au .fdiv (nv x) (nv y) H q:=by
 refine eU.int ?_;refine ⟨⟨by exact pz ‹_›,by rw [SD];exact h1⟩,?_⟩;show q (.int ((x:Int).fdiv (y:Int))) H;rw [Int.fdiv_eq_ediv_of_nonneg _ (PI y),<- Int.natCast_ediv];exact h
theorem dS (h0:y≠0) (h:q (nv (x%y)) H):au .mod (nv x) (nv y) H q:=by
 refine eU.int ?_;refine ⟨by exact pz ‹_›,?_⟩;show q (.int ((x:Int).fmod (y:Int))) H;rw [Int.fmod_eq_emod_of_nonneg _ (PI y),<- Int.natCast_emod];exact h
theorem jI {x:Int} (h0:y≠0) (hx:0<=x) (h:q (nv (x.toNat%y)) H):au .mod (.int x) (nv y) H q:=by
 refine bI (Q2 hx) ?_;rintro n rfl;exact dS h0 h
theorem gU (h0:y<=100000) (h1:x<2^64) (h:q (nv (x <<< y)) H):au .shl (nv x) (nv y) H q:=by
 refine eU.int ?_;refine ⟨⟨PI y,by exact Qd.mpr ‹_›,by rw [SD];exact h1⟩,?_⟩;show q (.int ((x:Int)*2^((y:Int).toNat))) H;rw [Int.toNat_natCast,show (x:Int)*2^y=((x <<< y:Nat):Int) by rw [QY];push_cast;rfl];exact h
theorem b8 (h0:y<=100000) (h:q (nv (2^y)) H):au .shl (.int 1) (nv y) H q:=gU (x:=1) h0 (by decide) (by rw [QY,Nat.one_mul];exact h)
theorem cN (h:q (nv (x >>> y)) H):au .shr (nv x) (nv y) H q:=by
 refine eU.int ?_;refine ⟨PI y,?_⟩;show q (.int ((x:Int).fdiv (2^((y:Int).toNat)))) H;rw [Int.toNat_natCast,Int.fdiv_eq_ediv_of_nonneg _ (by exact Int.pow_nonneg (by decide)),show (2:Int)^y=((2^y:Nat):Int) by push_cast;rfl,<- Int.natCast_ediv,<- PH];exact h
theorem aS (h:q (nv (x &&& y)) H):au .and (nv x) (nv y) H q:=by refine eU.int ?_;show q (.int (Builtin.bitAnd x y)) H;rw [k5];exact h
theorem cT (h:q (nv (x ||| y)) H):au .or (nv x) (nv y) H q:=by refine eU.int ?_;show q (.int (Builtin.bitOr x y)) H;rw [wi];exact h
theorem bQ (h:q (nv (x ^^^ y)) H):au .xor (nv x) (nv y) H q:=by refine eU.int ?_;show q (.int (Builtin.bitXor x y)) H;rw [yY];exact h
theorem gV (h:q (nv (eg x y)) H):au .and (nv x) (.int (Builtin.bitNot y)) H q:=by refine eU.int ?_;show q (.int (Builtin.bitAnd x (Builtin.bitNot y))) H;rw [qG];exact h
theorem FJ (h:q (nv (eg x (x-1))) H):au .and (nv x) (.int (-(x:Int))) H q:=by refine eU.int ?_;show q (.int (Builtin.bitAnd x (-(x:Int)))) H;rw [Ah];exact h
theorem dt {c:Nat} (hc:c<2) (h:q (nv (1-c)) H):au .sub (.int 1) (nv c) H q:=cC (x:=1) (PX hc) h
end
theorem bF {op:gD} {x y:Int} {P:V->Prop} (h:au op (.int x) (.int y) (λ_=>none) λv _=>P v):kH op (.int x) (.int y) P:=by
 cases h with
 | int h=>exact .mk h
theorem at_ {x dx:Addr} {c:Nat} {fs:List (Nat×V)} {n:Nat} {v:V} (h1:H x=some (.inst c dx)) (h2:H dx=some (.dict fs)) (h3:eZ n fs=some v) (h:q v H):dM (.ref x) n H q:=yI.mk h1 h2 h3 h
theorem iA {x:Addr} {vs:List V} {i:Nat} {v:V} (h1:H x=some (.list vs)) (h2:vs[i]?=some v) (h:q v H):aN (.ref x) (nv i) H q:=qH.ref h1 (PI i) h2 h
theorem dR {vs:List V} {i:Nat} {v:V} (h2:vs[i]?=some v) (h:q v H):aN (.tup vs) (nv i) H q:=qH.tup (PI i) h2 h
theorem aU {x:Addr} {l:List Nat} {i:Nat} (h1:H x=some (.list (av l))) (h2:i<l.length) (h:q (nv (l.getD i 0)) H):aN (.ref x) (nv i) H q:=by
 refine iA h1 (v:=nv (l.getD i 0)) ?_ h;rw [P1,Pk h2,Pc,Pk h2];rfl
theorem Bg {x:Addr} {vs:List V} {i:Nat} {v:V} {P:Hp->Prop} (h1:H x=some (.list vs)) (h2:i<vs.length) (h:P (H.upd x (.list (vs.set i v)))):bT (.ref x) (nv i) v H P:=yG.mk h1 (PI i) h2 h
theorem pR {x:Addr} {l:List Nat} {i n:Nat} {P:Hp->Prop} (h1:H x=some (.list (av l))) (h2:i<l.length) (h:P (H.upd x (.list (av (l.set i n))))):bT (.ref x) (nv i) (nv n) H P:=by
 refine Bg h1 (by rw [Ph];exact h2) ?_;rw [av,List.map_set] at h;exact h
theorem pS {x dx:Addr} {c:Nat} {fs:List (Nat×V)} {n:Nat} {v:V} {P:Hp->Prop} (h1:H x=some (.inst c dx)) (h2:H dx=some (.dict fs)) (h3:fs.length<=100) (h:P (H.upd dx (.dict (gu n v fs)))):bj (.ref x) n v H P:=yH.mk h1 h2 h3 h
theorem qF {x:Addr} {vs:List V} {v:V} (h1:H x=some (.list vs)) (h2:vs.length<lim) (h:q .none (H.upd x (.list (vs++ [v])))):dB (.ref x) v H q:=EI.mk h1 h2 h
theorem gJ {x:Addr} {vs:List V} (h1:H x=some (.list vs)):DI (.ref x) H:=IsL.mk h1
theorem l6 {x:Addr} {vs:List V} (h1:H x=some (.list vs)) (h:q (nv vs.length) H):bY .len [.ref x] H q:=mC.len h1 h
theorem new_ {vs:List V} (h0:vs.length<=lim) (h:∀a,H a=none->q (.ref a) (H.upd a (.list vs))):c7 vs H q:=⟨h0,h⟩
theorem fI {n:Nat} (hn:n<=1000000) (h:q (.fW 0 n 1) H):bY .range [nv n] H q:=mC.Cr ⟨by exact PI _,by exact Qd.mpr ‹_›⟩ h
end
structure cq (G:aE):Prop where
 f0:2<=G.aa
 r0:3<=G.bD
 iW:G.size<=25
 OS:G.fm.length=G.aa
 Oo:G.rm.length=G.bD
 IL:G.eJ.length=8
 ry:∀d,d<8->(G.eJ.getD d []).length=G.size
 kl:G.cv.length=G.size
 nl:G.a8.length=G.size
 Oq:G.pw.length=G.size
 Oz:G.pb.length=G.size
 cl:G.br.length=4
 ll:G.cK.length=G.size
 lb:∀s,s<G.size->G.cK.getD s 0<16
 rb:∀d s,(G.eJ.getD d []).getD s 0<2^G.size
 cw:∀i kf kt rf rt,G.br.getD i none=some (kf,kt,rf,rt)->kf<G.size/\kt<G.size/\rf<G.size/\rt<G.size/\kf≠rf
structure dO (G:aE) (R:Rw):Prop where
 bl:R.ae.length=G.size
 bm:∀i,i<G.size->R.ae.getD i 0<15
 kl:R.bE.length=7
 sl:R.bV.length=2
 c2:R.af<2
 i8:R.ab<16
 e0:-1<=R.ep
 e1:R.ep<G.size
 ef:0<=R.ep->(G.aa:Int)<=R.ep/\R.ep+G.aa<G.size
 kb:∀k,R.bE.getD k 0<2^G.size
 sb:∀c,R.bV.getD c 0<2^G.size
noncomputable abbrev Sd (R:Rw) (c:Nat):Nat:=R.bV.getD c 0
noncomputable abbrev K (R:Rw) (k:Nat):Nat:=R.bE.getD k 0
noncomputable abbrev aW (G:aE) (d s:Nat):Nat:=(G.eJ.getD d []).getD s 0
noncomputable abbrev cm (G:aE) (c s:Nat):Nat:=([G.pw,G.pb].getD c []).getD s 0
section
variable {H:Hp} {a:Ad} {G:aE} {R:Rw} {q:V->Hp->Prop}
theorem aI (w:W H a G R) {n:Nat} {v:V} (e:eZ n [(18,V.ref a.g),(19,.ref a.z),(20,.ref a.bd),(21,.ref a.kd),(22,.ref a.sd),(3,nv R.af),(2,nv R.ab),(1,.int R.ep),(23,.int R.fG),(7,.int R.full),(24,nv R.key),(25,.ref a.hs)]=some v) (h:q v H):dM (.ref a.p) n H q:=at_ w.P.p w.P.dx e h
theorem k7 (w:W H a G R) {n:Nat} {v:V} (e:eZ n [(0,V.ref a.zp),(1,.ref a.ze),(2,.ref a.zr),(3,nv (yQ G.size G.aa))]=some v) (h:q v H):dM (.ref a.z) n H q:=at_ w.Z.z w.Z.zd e h
theorem eQ (w:W H a G R) {n:Nat} {v:V} (e:eZ n [(4,nv G.aa),(5,nv G.bD),(6,nv G.size),(7,nv G.full),(8,.bool G.dbl),(9,.bool G.gH),(10,.ref a.fm),(11,.ref a.rm),(12,.ref a.ow),(13,.ref a.cv),(14,.ref a.a8),(15,.ref a.fF),(16,.ref a.gH),(17,.ref a.cK)]=some v) (h:q v H):dM (.ref a.g) n H q:=at_ w.T.g w.T.gd e h
theorem vo (w:W H a G R) {r:Nat} (hr:r<16) (h:q (nv (r <<< (15*G.size))) H):aN (.ref a.zr) (nv r) H q:=iA w.Z.zr (by simp only [A9,P1,QS hr,QE]) h
theorem vp (w:W H a G R) {f:Nat} (hf:f<G.aa) (h:q (nv (2^(15*G.size+4+f))) H):aN (.ref a.ze) (nv f) H q:=iA w.Z.ze (by simp only [Ba,P1,QS hf,QE]) h
theorem lx (w:W H a G R) {m:Nat} (hm:m<15) (h:q (.ref (a.row m)) H):aN (.ref a.zp) (nv m) H q:=iA w.Z.zp (by simp only [P1,QS hm,QE]) h
theorem f6 (w:W H a G R) {m s:Nat} (hm:m<15) (hs:s<G.size) (h:q (nv (2^(m*G.size+s))) H):aN (.ref (a.row m)) (nv s) H q:=iA (w.Z.row m hm) (by simp only [vb,P1,QS hs,QE]) h
theorem Ji (w:W H a G R) (o:dO G R) {i:Nat} (hi:i<G.size) (h:q (nv (R.ae.getD i 0)) H):aN (.ref a.bd) (nv i) H q:=aU w.P.bd (by rw [o.bl];exact hi) h
theorem og (w:W H a G R) (o:dO G R) {i:Nat} (hi:i<7) (h:q (nv (K R i)) H):aN (.ref a.kd) (nv i) H q:=aU w.P.kd (by rw [o.kl];exact hi) h
theorem eR (w:W H a G R) (o:dO G R) {i:Nat} (hi:i<2) (h:q (nv (Sd R i)) H):aN (.ref a.sd) (nv i) H q:=aU w.P.sd (by rw [o.sl];exact hi) h
theorem ng (w:W H a G R) {d:Nat} (hd:d<8) (h:q (.ref (a.mO d)) H):aN (.ref a.ow) (nv d) H q:=iA w.T.ow (by simp only [P1,QS hd,QE]) h
theorem ni (w:W H a G R) (g:cq G) {d s:Nat} (hd:d<8) (hs:s<G.size) (h:q (nv (aW G d s)) H):aN (.ref (a.mO d)) (nv s) H q:=by
 have e:G.eJ[d]?=some (G.eJ.getD d []):=by
  rw [Pc,Pk (by rw [g.IL];exact hd)];rfl
 exact aU (w.T.mO d _ e) (by rw [g.ry d hd];exact hs) h
theorem vt (w:W H a G R) (g:cq G) {s:Nat} (hs:s<G.size) (h:q (nv (G.cv.getD s 0)) H):aN (.ref a.cv) (nv s) H q:=aU w.T.cv (by rw [g.kl];exact hs) h
theorem pN (w:W H a G R) (g:cq G) {s:Nat} (hs:s<G.size) (h:q (nv (G.a8.getD s 0)) H):aN (.ref a.a8) (nv s) H q:=aU w.T.a8 (by rw [g.nl];exact hs) h
theorem oe (w:W H a G R) {c:Nat} (hc:c<2) (h:q (.ref (a.pn c)) H):aN (.ref a.fF) (nv c) H q:=iA w.T.fF (by simp only [P1,QS hc,QE]) h
theorem zg (w:W H a G R) (g:cq G) {c s:Nat} (hc:c<2) (hs:s<G.size) (h:q (nv (cm G c s)) H):aN (.ref (a.pn c)) (nv s) H q:=by
 match c,hc with
 | 0,_=>exact aU (w.T.pn 0 G.pw rfl) (by rw [g.Oq];exact hs) h
 | 1,_=>exact aU (w.T.pn 1 G.pb rfl) (by rw [g.Oz];exact hs) h
theorem Fb (w:W H a G R) (g:cq G) {s:Nat} (hs:s<G.aa) (h:q (nv (G.fm.getD s 0)) H):aN (.ref a.fm) (nv s) H q:=aU w.T.fm (by rw [g.OS];exact hs) h
theorem zf (w:W H a G R) (g:cq G) {s:Nat} (hs:s<G.bD) (h:q (nv (G.rm.getD s 0)) H):aN (.ref a.rm) (nv s) H q:=aU w.T.rm (by rw [g.Oo];exact hs) h
theorem vq (w:W H a G R) (g:cq G) {s:Nat} (hs:s<G.size) (h:q (nv (G.cK.getD s 0)) H):aN (.ref a.cK) (nv s) H q:=aU w.T.cK (by rw [g.ll];exact hs) h
theorem vv (w:W H a G R) (g:cq G) {s:Nat} (hs:s<4) (h:q (vd (G.br.getD s none)) H):aN (.ref a.gH) (nv s) H q:=
 iA w.T.gH (by rw [P1,Pc,Pk (by rw [g.cl];exact hs)];rfl) h
end
section
variable {d x y:Nat} {H:Hp} {a:Ad} {G:aE} {R:Rw} {q:V->Hp->Prop}
theorem IZ (h:q (nv (x*8+y)) H) (hx:x<2^64):Call (d+1) 0 [nv x,nv y] H q:=by
 refine ar rfl rfl ?_;refine bR (y:=8) hx ?_;refine p_add ?_;refine aj ?_;exact h
theorem HM (h:q (nv (x / 8)) H):Call (d+1) 1 [nv x] H q:=by
 refine ar rfl rfl ?_;refine cN ?_;refine aj ?_;rw [PH];exact h
theorem m7 (x:Nat):x &&& 7=x%8:=QB x 3
theorem Ma (x:Nat):x &&& 63=x%64:=QB x 6
theorem m3 (x:Nat):x &&& 3=x%4:=QB x 2
theorem Ed (h:q (nv (x%8)) H):Call (d+1) 2 [nv x] H q:=by
 refine ar rfl rfl ?_;refine aS ?_;refine aj ?_;show q (nv (x &&& 7)) H;rw [m7];exact h
theorem EZ (h:q (nv (x / 64%64)) H):Call (d+1) 4 [nv x] H q:=by
 refine ar rfl rfl ?_;refine cN ?_;refine aS ?_;refine aj ?_;show q (nv (x >>> 6 &&& 63)) H;rw [Ma,PH];exact h
theorem BL (h:q (nv (x%64)) H):Call (d+1) 5 [nv x] H q:=by
 refine ar rfl rfl ?_;refine aS ?_;refine aj ?_;show q (nv (x &&& 63)) H;rw [Ma];exact h
theorem EY (h:q (nv (x / 16384%4)) H):Call (d+1) 6 [nv x] H q:=by
 refine ar rfl rfl ?_;refine cN ?_;refine aS ?_;refine aj ?_;show q (nv (x >>> 14 &&& 3)) H;rw [m3,PH];exact h
theorem Mq (hx:x / 16384%4=1) (h:q (nv (x / 4096%4+2)) H):Call (d+1) 7 [nv x] H q:=by
 refine ar rfl rfl ?_;refine cN ?_;refine aS ?_;refine ez ?_;refine ag (λe=>absurd ((m3 _).trans (by rw [PH];exact hx)) e) (λe=>?_);refine cN ?_;refine aS ?_;refine p_add ?_;refine aj ?_;show q (nv ((x >>> 12 &&& 3)+2)) H;rw [m3,PH];exact h
noncomputable def pk (o t sp f:Nat):Nat:=t+64*o+4096*f+16384*sp
theorem OA {o t sp f:Nat} (ho:o<64) (ht:t<64) (hf:f<4):((t ||| o <<< 6) ||| f <<< 12) ||| sp <<< 14=pk o t sp f:=by
 rw [QY,QY,QY];have e1:=Sx (i:=6) (b:=t) ht o;have e2:=Sx (i:=12) (b:=2^6*o+t) (by exact FK ‹_› ‹_›) f;have e3:=Sx (i:=14) (b:=2^12*f+(2^6*o+t)) (by lia) sp;rw [Nat.or_comm t,Q4 o,<- e1,Nat.or_comm _ (f*2^12),Q4 f,<- e2,Nat.or_comm _ (sp*2^14),Q4 sp,<- e3];unfold pk;lia
theorem BM {o t sp pr f:Nat} (ho:o<64) (ht:t<64) (hs:sp<4) (hf:f<4) (hp:sp=1->pr=f+2) (hn:sp≠1->f=0) (h:q (nv (pk o t sp f)) H):Call (d+1) 3 [nv o,nv t,nv sp,nv pr] H q:=by
 refine ar rfl rfl ?_;refine aR ?_;refine uC 4 (nv f) ?_ λK' j=>?_
 ·refine gU (y:=6) (by decide) (by exact Pa ‹_› (by decide)) ?_;refine cT ?_;refine gU (y:=12) (by decide) (by exact Pa ‹_› (by decide)) ?_;refine cT ?_;refine gU (y:=14) (by decide) (by exact Pa ‹_› (by decide)) ?_;refine cT ?_;refine aj ?_;rw [OA ho ht hf];exact h
 ·refine ag (λe=>?_) (λe=>?_)
  ·refine cC (y:=2) (by rw [hp e];exact QV _ _) ?_;exact gF j (by rw [show pr-2=f by have:=hp e;lia])
  ·exact eD j rfl (by rw [hn e];rfl)
noncomputable def cU (G:aE) (R:Rw):Nat:=
 (R.ab <<< (15*G.size) ^^^ (if 0<=R.ep then 2^(15*G.size+4+R.ep.toNat%G.aa) else 0)) ^^^ (if R.af=1 then yQ G.size G.aa else 0)
theorem OW (w:W H a G R) (g:cq G) (o:dO G R) (h:q (nv (cU G R)) H):Call (d+1) 8 [.ref a.p] H q:=by
 have hf:G.aa≠0:=by have:=g.f0;exact Qo ‹_›
 refine ar rfl rfl ?_;refine aI ‹_› rfl ?_;refine k7 ‹_› rfl ?_;refine aI ‹_› rfl ?_;refine vo w o.i8 ?_;refine aI ‹_› rfl ?_;refine km ?_;refine uC 2 (nv (R.ab <<< (15*G.size) ^^^ (if 0<=R.ep then 2^(15*G.size+4+R.ep.toNat%G.aa) else 0))) ?_ λK' j=>?_
 ·refine aI ‹_› rfl ?_;refine aR ?_;refine uC 2 (nv (cU G R)) ?_ λK' j=>?_
  ·refine aj ?_;exact h
  ·refine ag (λe=>?_) (λe=>?_)
   ·refine k7 ‹_› rfl ?_;refine bF ?_;refine bQ ?_;exact gF j (by unfold cU;rw [Po e])
   ·exact eD j rfl (by unfold cU;rw [Pf e,Q3])
 ·refine ag (λe=>?_) (λe=>?_)
  ·refine k7 ‹_› rfl ?_;refine aI ‹_› rfl ?_;refine aI ‹_› rfl ?_;refine eQ ‹_› rfl ?_;refine jI hf e ?_;refine vp w (RF _ (PF hf)) ?_;refine bF ?_;refine bQ ?_;exact gF j (by rw [Po e])
  ·exact eD j rfl (by rw [Pf e,Q3])
noncomputable def xk (sz:Nat) (p:Nat->Bool) (b:List Nat):Nat->Nat
 | 0=>0
 | k+1=>if p (b.getD k 0) then xk sz p b k ^^^ 2^(b.getD k 0*sz+k) else xk sz p b k
theorem BZ {sz:Nat} {p:Nat->Prop} [DecidablePred p] {b:List Nat} {k:Nat} (e:p (b.getD k 0)):xk sz (λm=>decide (p m)) b k ^^^ 2^(b.getD k 0*sz+k)=xk sz (λm=>decide (p m)) b (k+1):=(Po (Px e)).symm
theorem yZ {sz:Nat} {p:Nat->Prop} [DecidablePred p] {b:List Nat} {k:Nat} (e:¬p (b.getD k 0)):xk sz (λm=>decide (p m)) b k=xk sz (λm=>decide (p m)) b (k+1):=(Pf (λh=>e (Pj h))).symm
theorem ju {l:List Nat} {n k:Nat} {v:V} (hl:l.length=n) (hv:(av l)[k]?=some v):k<n/\v=nv (l.getD k 0):=by
 have hk:k<n:=by
  rcases PG k n with q | q
  ·exact q
  ·rw [Qx (by rw [Ph,hl];exact q)] at hv;cases hv
 refine ⟨hk,?_⟩;rw [P1,Pk (by rw [hl];exact hk)] at hv;cases hv;rw [Pc,Pk (by rw [hl];exact hk)];rfl
def D3:Prop:=∀(w:W H a G R) (g:cq G) (o:dO G R) (h:q (nv (cU G R ^^^ xk G.size (λm=>decide (m≠0)) R.ae G.size)) H),Call (d+2) 9 [.ref a.p] H q
theorem Mp:@D3 d H a G R q:=ao (S:=λx:(Nat×Hp×Ad×aE)×(Rw×(V->Hp->Prop))=>@D3 x.1.1 x.1.2.1 x.1.2.2.1 x.1.2.2.2 x.2.1 x.2.2) (x:=((0,λ_=>none,jX,bN),(fC,λ_ _=>True))) (by
 refine (?_:∀d H a G R q,@D3 d H a G R q) _ _ _ _ _ _;intro d H a G R q w g o h;refine ar rfl rfl ?_;refine aI ‹_› rfl ?_;refine k7 ‹_› rfl ?_;refine OW w g o ?_;refine aI ‹_› rfl ?_;refine forL w.P.bd (λk ρ' H'=>H'=H/\∃x,ρ'=[some (.ref a.p),some (.ref a.zp),some (nv (cU G R ^^^ xk G.size (λm=>decide (m≠0)) R.ae k)),some (nv k),x]) (λk v ρ' H' K hv hI hn _ _=>?_) (λρ' H' hI=>?_) ⟨rfl,none,by rw [xk,Q3];rfl⟩
 ·obtain ⟨rfl,x,rfl⟩:=hI;refine ⟨w.P.bd,?_⟩;refine aD (ju o.bl hv) ?_;rintro hk rfl;have hm:=o.bm k hk;refine ez ?_;refine uC 2 (nv (cU G R ^^^ xk G.size (λm=>decide (m≠0)) R.ae (k+1))) ?_ λK' j=>?_
  ·refine bF ?_;refine p_add ?_;exact hn _ _ ⟨rfl,_,rfl⟩
  ·refine ag (λe=>?_) (λe=>?_)
   ·refine lx ‹_› ‹_› ?_;refine f6 ‹_› ‹_› ‹_› ?_;refine bF ?_;refine bQ ?_;exact gF j (by rw [<- BZ e,<- QH])
   ·exact eD j rfl (by rw [yZ e])
 ·obtain ⟨rfl,x,rfl⟩:=hI;rw [Ph,o.bl];refine ⟨w.P.bd,?_⟩;refine aj ?_
  exact h) ((d,H,a,G),(R,q))
theorem Lo (w:W H a G R) (o:dO G R) (h:q (nv (xk G.size (λm=>decide (m%8=1)) R.ae G.size)) H):Call (d+2) 10 [.ref a.p] H q:=by
 refine ar rfl rfl ?_;refine aI ‹_› rfl ?_;refine k7 ‹_› rfl ?_;refine aI ‹_› rfl ?_;refine forL w.P.bd (λk ρ' H'=>H'=H/\∃x,ρ'=[some (.ref a.p),some (.ref a.zp),some (nv (xk G.size (λm=>decide (m%8=1)) R.ae k)),some (nv k),x]) (λk v ρ' H' K hv hI hn _ _=>?_) (λρ' H' hI=>?_) ⟨rfl,none,rfl⟩
 ·obtain ⟨rfl,x,rfl⟩:=hI;refine ⟨w.P.bd,?_⟩;refine aD (ju o.bl hv) ?_;rintro hk rfl;have hm:=o.bm k hk;refine Ed ?_;refine aR ?_;refine uC 2 (nv (xk G.size (λm=>decide (m%8=1)) R.ae (k+1))) ?_ λK' j=>?_
  ·refine bF ?_;refine p_add ?_;exact hn _ _ ⟨rfl,_,rfl⟩
  ·refine ag (λe=>?_) (λe=>?_)
   ·refine lx ‹_› ‹_› ?_;refine f6 ‹_› ‹_› ‹_› ?_;refine bF ?_;refine bQ ?_;exact gF j (by rw [<- BZ (p:=λm=>m%8=1) e])
   ·exact eD j rfl (by rw [yZ (p:=λm=>m%8=1) e])
 ·obtain ⟨rfl,x,rfl⟩:=hI;rw [Ph,o.bl];refine ⟨w.P.bd,?_⟩;refine aj ?_;exact h
def ym:Prop:=∀(w:W H a G R) (o:dO G R) (h:q (nv (xk G.size (λm=>decide (1<m%8/\m / 8=x)) R.ae G.size)) H),Call (d+2) 11 [.ref a.p,nv x] H q
theorem Lm:@ym d x H a G R q:=ao (S:=λx:(Nat×Nat×Hp×Ad)×(aE×Rw×(V->Hp->Prop))=>@ym x.1.1 x.1.2.1 x.1.2.2.1 x.1.2.2.2 x.2.1 x.2.2.1 x.2.2.2) (x:=((0,0,λ_=>none,jX),(bN,fC,λ_ _=>True))) (by
 refine (?_:∀d x H a G R q,@ym d x H a G R q) _ _ _ _ _ _ _;intro d x H a G R q w o h;refine ar rfl rfl ?_;refine aI ‹_› rfl ?_;refine k7 ‹_› rfl ?_;refine aI ‹_› rfl ?_;refine forL w.P.bd (λk ρ' H'=>H'=H/\∃y,ρ'=[some (.ref a.p),some (nv x),some (.ref a.zp),some (nv (xk G.size (λm=>decide (1<m%8/\m / 8=x)) R.ae k)),some (nv k),y]) (λk v ρ' H' K hv hI hn _ _=>?_) (λρ' H' hI=>?_) ⟨rfl,none,rfl⟩
 ·obtain ⟨rfl,y,rfl⟩:=hI;refine ⟨w.P.bd,?_⟩;refine aD (ju o.bl hv) ?_;rintro hk rfl;have hm:=o.bm k hk;have fin:∀ρ',ρ'=[some (.ref a.p),some (nv x),some (.ref a.zp),some (nv (xk G.size (λm=>decide (1<m%8/\m / 8=x)) R.ae (k+1))),some (nv (k+1)),some (nv (R.ae.getD k 0))]->K Fl.next ρ' H':=λρ' e=>hn _ _ ⟨rfl,_,e⟩;refine Ed ?_;refine pv ?_;refine ag (λe1=>?_) (λe1=>?_)
  ·refine HM ?_;refine aR ?_;refine ag (λe=>?_) (λe=>?_)
   ·refine lx ‹_› ‹_› ?_;refine f6 ‹_› ‹_› ‹_› ?_;refine bF ?_;refine bQ ?_;refine bF ?_;refine p_add ?_;exact fin _ (by rw [BZ (p:=λm=>1<m%8/\m / 8=x) ⟨e1,e⟩];rfl)
   ·refine bF ?_;refine p_add ?_;exact fin _ (by rw [<- yZ (p:=λm=>1<m%8/\m / 8=x) (λc=>e c.2)];rfl)
  ·refine ag (λe=>absurd e e1) (λ_=>?_);refine bF ?_;refine p_add ?_;exact fin _ (by rw [<- yZ (p:=λm=>1<m%8/\m / 8=x) (λc=>e1 c.1)];rfl)
 ·obtain ⟨rfl,y,rfl⟩:=hI;rw [Ph,o.bl];refine ⟨w.P.bd,?_⟩;refine aj ?_
  exact h) ((d,x,H,a),(G,R,q))
end
section
variable {d:Nat} {H:Hp} {q:V->Hp->Prop}
theorem HC {b:Nat} (hb:b≠0) (h:q (.bool (decide (b &&& (b-1)≠0))) H):Call (d+1) 21 [nv b] H q:=by
 refine ar rfl rfl ?_;refine cC (y:=1) (by exact PF ‹_›) ?_;refine aS ?_;refine ez ?_;refine aj ?_;exact h
theorem oo {x s:Nat} (hx:x≠0) (hs:s≠0):x >>> s<x:=by
 rw [PH];exact Nat.div_lt_self (PF hx) (Nat.one_lt_two_pow hs)
theorem Bf {x s:Nat} (h:x<2^s):x >>> s=0:=by rw [PH,SN h]
theorem nB {x s:Nat} (h:x >>> s=0):x<2^s:=by
 rw [PH] at h;rcases PG x (2^s) with q | q
 ·exact q
 ·have:=Nat.div_pos q (QF s);lia
theorem Li {b:Nat} (hb:b≠0) (h64:b<2^64) (h:∀s,b >>> s=1->q (nv s) H):Call (d+1) 22 [nv b] H q:=by
 refine ar rfl rfl ?_;refine aR ?_;refine ag (λe=>absurd e hb) λ_=>?_;refine lj (λm ρ' H'=>H'=H/\∃k,ρ'=[some (nv b),some (nv (2^k)),none]/\m=b >>> 2^k) (b >>> 2^0) ⟨rfl,0,rfl,rfl⟩ λm ρ' H' K X hI hn _ _ hX=>?_;obtain ⟨rfl,k,rfl,rfl⟩:=hI;refine cN ?_;refine dG (λe=>?_) (λe=>?_)
 ·have hk:2^k<64:=by
   rcases PG (2^k) 64 with q | q
   ·exact q
   ·exact absurd (Bf (Pa h64 (QP (by decide) q))) e
  refine bF ?_;refine bR (y:=2) (by exact Pa ‹_› (by decide)) ?_;refine hn (b >>> 2^(k+1)) _ _ ?_ ⟨rfl,k+1,by rw [Sl];rfl,rfl⟩;rw [Sl,Nat.mul_two,Sz];exact oo e (P5 (QF k))
 ·refine hX _ _ ?_;refine lj (λm ρ' H''=>H''=H'/\∃c sq,ρ'=[some (nv c),some (nv (2^m)),some (nv sq)]/\c=b >>> sq/\c≠0/\c<2^2^m) k ⟨rfl,b,0,rfl,rfl,hb,nB e⟩ λm ρ' H'' K X hI hn _ _ hX=>?_;obtain ⟨rfl,c,sq,rfl,hc,h0,hlt⟩:=hI;refine pv ?_;refine ag (λe=>?_) (λe=>?_)
  ·have hm:m≠0:=by rintro rfl;exact absurd e (by decide)
   refine bI (Nat.exists_eq_succ_of_ne_zero hm) ?_;rintro n rfl;refine bF ?_;refine c9 (y:=2) (by decide) (by decide) ?_;rw [Sl,Nat.mul_div_cancel _ (by decide)];refine cN ?_;refine dG (λe2=>?_) (λe2=>?_)
   ·refine bF ?_;refine cN ?_;refine bF ?_;refine p_add ?_;refine hn n _ _ (PD n) ⟨rfl,c >>> 2^n,sq+2^n,rfl,by rw [hc,Sz],e2,?_⟩;rw [PH];refine QQ ?_;rw [<- Nat.pow_add,<- Nat.mul_two,<- Sl];exact hlt
   ·exact hn n _ _ (PD n) ⟨rfl,c,sq,rfl,hc,h0,nB e2⟩
  ·refine hX _ _ ?_;refine aj ?_
   have hm:m=0:=by
    rcases RX m with q | q
    ·exact q
    ·exact absurd (Nat.one_lt_two_pow (P5 q)) e
   subst hm;exact h sq (by rw [<- hc];have:c<2:=hlt;exact I7 ‹_› ‹_›)
theorem zU {k s:Nat} (h:2^k >>> s=1):s=k:=by
 have:(2^k >>> s).testBit 0=true:=by rw [h];rfl
 rw [Ry,QI] at this;have:=Pj this;exact Eq.symm ‹_›
theorem HB {k:Nat} (hk:k<64) (h:q (nv k) H):Call (d+2) 23 [nv (2^k)] H q:=by
 have e:eg (2^k) (2^k-1)=2^k:=cH λi=>by
  rw [sS,Sy,QI];by_cases hi:k=i
  ·subst hi;rw [Px rfl,decide_eq_false (Qr k)];rfl
  ·rw [decide_eq_false hi];rfl
 refine ar rfl rfl ?_;refine eM ?_;refine FJ ?_;rw [e];refine Li (P5 (QF k)) (Nat.pow_lt_pow_right (by decide) hk) λs hs=>?_;refine aj ?_;rw [zU hs];exact h
theorem z4 {b:Nat} (h0:b≠0) (h:b &&& (b-1)=0):∃k,b=2^k:=by
 induction b using Nat.strongRecOn with
 | ind b ih=>
  rcases RJ b with e | e
  ·have h2:b / 2 &&& (b / 2-1)=0:=by
    have:=congrArg (· / 2) h;simp only [Nat.and_div_two] at this;rw [OU h0 e] at this;exact this
   refine bI (ih (b / 2) (by exact Nat.div_lt_self (PF ‹_›) (by decide)) (by lia) h2) λk hk=>?_;exact ⟨k+1,by rw [Sl,<- hk];lia⟩
  ·refine ⟨0,?_⟩
   have h2:b / 2=0:=by
    have:=congrArg (· / 2) h;simp only [Nat.and_div_two] at this;rw [OB e,Nat.and_self] at this;exact this
   lia
def Sq (b c:Nat) (l:List Nat) (sq:Nat):Prop:=c=b >>> sq/\(∀s,s∈l↔b.testBit s=true/\s<sq)/\l.length<=sq
theorem OE (x:Nat):x &&& 15=x%16:=QB x 4
theorem m1 (x:Nat):x &&& 1=x%2:=QB x 1
theorem vn {b sq s:Nat} (h:sq<=s):b.testBit s=(b >>> sq).testBit (s-sq):=by rw [Ry];congr 1;lia
theorem Sq.four {b c sq:Nat} {l:List Nat} (h:Sq b c l sq) (e:c &&& 15=0):Sq b (c >>> 4) l (sq+4):=by
 refine dH h λh1 h2 h3=>?_;refine ⟨by rw [h1,Sz],λs=>(h2 s).trans ⟨λk=>⟨k.1,by exact Pa (And.right ‹_›) (PK _ _)⟩,λk=>⟨k.1,?_⟩⟩,by exact QD ‹_›⟩;rcases PG s sq with q | q
 ·exact q
 ·exfalso;have k1:=k.1;rw [vn q,<- h1] at k1
  have:(c &&& 15).testBit (s-sq)=true:=by
   rw [Q7,k1,show 15=2^4-1 from rfl,Sy,Px (by lia)];rfl
  rw [e,Py] at this;cases this
theorem Sq.one {b c sq:Nat} {l l':List Nat} (h:Sq b c l sq) (e:(c &&& 1≠0/\l'=l++ [sq])\/(c &&& 1=0/\l'=l)):Sq b (c >>> 1) l' (sq+1):=by
 refine dH h λh1 h2 h3=>?_
 have hb:b.testBit sq=decide (c%2=1):=by rw [vn (Pt sq),<- h1,SV,Nat.testBit_zero]
 rw [m1] at e;refine ⟨by rw [h1,Sz],λs=>?_,?_⟩
 ·rcases e with ⟨e,rfl⟩ | ⟨e,rfl⟩
  ·rw [PZ,PC,h2];constructor
   ·rintro (k | rfl)
    ·exact ⟨k.1,by exact Qg (And.right ‹_›)⟩
    ·exact ⟨by rw [hb,Px (by exact L6 ‹_›)],by exact PD _⟩
   ·rintro ⟨k1,k2⟩;rcases PG s sq with q | q
    ·exact .inl ⟨k1,q⟩
    ·exact .inr (by exact QU (PX ‹_›) ‹_›)
  ·rw [h2];constructor
   ·rintro k;exact ⟨k.1,by exact Qg (And.right ‹_›)⟩
   ·rintro ⟨k1,k2⟩;refine ⟨k1,?_⟩;rcases PG s sq with q | q
    ·exact q
    ·obtain rfl:s=sq:=by exact QU (PX ‹_›) ‹_›
     rw [hb,decide_eq_false (by lia)] at k1;cases k1
 ·rcases e with ⟨e,rfl⟩ | ⟨e,rfl⟩
  ·rw [Pg];simp only [RD];exact QM ‹_›
  ·exact QD ‹_›
theorem qA {b:Nat} (h64:b<2^64) (h:∀l,(∀s,s∈l↔b.testBit s=true)->l.length<=64->∀a,H a=none->q (.ref a) (H.upd a (.list (av l)))):Call (d+1) 24 [nv b] H q:=by
 refine ar rfl rfl ?_;refine new_ (Qc _) λa ha=>?_;refine lj (λm ρ' H'=>∃l sq,ρ'=[some (nv m),some (.ref a),some (nv sq)]/\H'=H.upd a (.list (av l))/\Sq b m l sq/\l.length<=64) b ⟨[],0,rfl,rfl,⟨rfl,λs=>⟨λk=>absurd k Qy,λk=>absurd k.2 (Qu s)⟩,Qc _⟩,Qc _⟩ λm ρ' H' K X hI hn _ _ hX=>?_;refine ed hI ?_;rintro l sq rfl rfl hs hl;refine dG (λe=>?_) (λe=>?_)
 ·refine lj (λc ρ' H'=>∃sq,ρ'=[some (nv c),some (.ref a),some (nv sq)]/\H'=H.upd a (.list (av l))/\Sq b c l sq/\c≠0/\c<=m) m ⟨sq,rfl,rfl,hs,e,Pt m⟩ λc ρ' H' K2 X2 hI hn2 _ _ hX2=>?_;refine Ke hI ?_;rintro sq rfl rfl hs e hcm;refine aS ?_;refine FV ?_;refine ag (λe2=>?_) (λe2=>?_)
  ·refine bF ?_;refine cN ?_;refine bF ?_;refine p_add ?_;have e3:c%16=0:=(OE c).symm.trans e2;refine hn2 (c >>> 4) _ _ (oo e (by decide)) ⟨sq+4,rfl,rfl,hs.four e2,?_,Pb (Pw (oo e (by decide))) hcm⟩;rw [PH];lia
  ·refine hX2 _ _ ?_
   have hsq:sq<64:=by
    rcases PG sq 64 with q | q
    ·exact q
    ·exact absurd (hs.1.trans (Bf (Pa h64 (QP (by decide) q)))) e
   have hls:=hs.2.2;have hlt:c >>> 1<m:=Pa (oo e (by decide)) hcm;refine aS ?_;refine dG (λe4=>?_) (λe4=>?_)
   ·refine ⟨gJ (Hp.ai ..),?_⟩;refine qF (Hp.ai ..) (by rw [Ph];show _<1000000;lia) ?_;refine aQ ?_;refine bF ?_;refine cN ?_;refine bF ?_;refine p_add ?_;refine hn (c >>> 1) _ _ hlt ⟨l++ [sq],sq+1,rfl,?_,hs.one (.inl ⟨e4,rfl⟩),by rw [Pg];simp only [RD];exact Pm ‹_› ‹_›⟩;rw [Hp.eE,av,av,QG];rfl
   ·refine bF ?_;refine cN ?_;refine bF ?_;refine p_add ?_;exact hn (c >>> 1) _ _ hlt ⟨l,sq+1,rfl,rfl,hs.one (.inr ⟨e4,rfl⟩),hl⟩
 ·refine hX _ _ ?_;refine aj ?_;refine h l (λs=>(hs.2.1 s).trans ⟨λk=>k.1,λk=>⟨k,?_⟩⟩) hl a ha;rcases PG s sq with q | q
  ·exact q
  ·rw [vn q,<- hs.1,e,Py] at k;cases k
end
noncomputable def grow (d:Nat):Bool:=decide (d=0\/d=1\/d=4\/d=7)
noncomputable def sm (b k:Nat):Nat:=b ||| b >>> k
noncomputable def Bc (b:Nat):Nat:=sm (sm (sm (sm (sm (sm b 1) 2) 4) 8) 16) 32
noncomputable def gR (G:aE) (d s oc:Nat):Nat:=
 if aW G d s &&& oc=0 then aW G d s
 else if grow d=true then aW G d s &&& ((aW G d s &&& oc) ^^^ ((aW G d s &&& oc) -1))
 else eg (aW G d s) (Bc ((aW G d s &&& oc) >>> 1))
noncomputable def iE (G:aE) (s oc a:Nat):Nat->Nat
 | 0=>0
 | k+1=>iE G s oc a k ||| gR G (a+k) s oc
noncomputable def eX (G:aE) (s oc:Nat):Nat:=iE G s oc 0 4
noncomputable def fE (G:aE) (s oc:Nat):Nat:=iE G s oc 4 4
noncomputable def eH (G:aE) (a b:Nat):Nat->Nat->Nat
 | 0,d=>d
 | n+1,d=>if (aW G d a).testBit b then d else eH G a b n (d+1)
noncomputable def dirOf (G:aE) (a b:Nat):Nat:=eH G a b 8 0
noncomputable def a7 (G:aE) (a b:Nat):Nat:=if dirOf G a b=8 then 0 else aW G (dirOf G a b) a &&& aW G (dirOf G a b ^^^ 2) b
noncomputable def fP (G:aE) (a b:Nat):Nat:=if dirOf G a b=8 then 0 else aW G (dirOf G a b) a ||| aW G (dirOf G a b ^^^ 2) a ||| 2^a
noncomputable def vE (G:aE) (k s oc:Nat):Nat:=if k=3 then fE G s oc else if k=4 then eX G s oc else if k=5 then eX G s oc ||| fE G s oc else 0
noncomputable def oG (G:aE) (c k s oc:Nat):Nat:=if k=1 then cm G c s else if k=2 then G.a8.getD s 0 else if k=6 then G.cv.getD s 0 else vE G k s oc
noncomputable def eL (R:Rw):Nat:=Sd R 0 ||| Sd R 1
noncomputable def lz (R:Rw):Nat:=K R 4 ||| K R 5
noncomputable def lC (R:Rw):Nat:=K R 3 ||| K R 5
noncomputable def wb (G:aE) (R:Rw) (s c:Nat):Nat:=cm G (1-c) s &&& K R 1 &&& Sd R c
noncomputable def j8 (G:aE) (R:Rw) (s c:Nat):Nat:=wb G R s c ||| (((G.a8.getD s 0 &&& K R 2) ||| (G.cv.getD s 0 &&& K R 6)) &&& Sd R c)
noncomputable def jg (G:aE) (R:Rw) (s oc:Nat):Nat:=(eX G s oc &&& lz R) ||| (fE G s oc &&& lC R)
noncomputable def fb (G:aE) (R:Rw) (s oc:Nat):Nat:=(j8 G R s 0 ||| j8 G R s 1) ||| jg G R s oc
noncomputable def eO (G:aE) (R:Rw) (s c oc:Nat):Bool:=decide (j8 G R s c≠0\/eX G s oc &&& (lz R &&& Sd R c)≠0\/fE G s oc &&& (lC R &&& Sd R c)≠0)
noncomputable def kB (G:aE) (R:Rw) (k c:Nat):Nat:=((eX G k 0 &&& lz R) ||| (fE G k 0 &&& lC R)) &&& Sd R (1-c)
noncomputable def ft (G:aE) (R:Rw) (k c s:Nat):Nat:=a7 G k s &&& (eL R ^^^ kB G R k c)
def dg (G:aE) (R:Rw) (c k:Nat):Prop:=Sd R c &&& K R 6=2^k/\k<G.size
section
variable {d x y s c k oc:Nat} {H:Hp} {a:Ad} {G:aE} {R:Rw} {q:V->Hp->Prop}
theorem Bh {a b:Nat} (ha:a<=1000000) (hb:b<=1000000) (h:q (.fW a b 1) H):bY .range [nv a,nv b] H q:=mC.Fy ⟨by exact And.intro (PI _) (Qd.mpr ‹_›),by exact And.intro (PI _) (Qd.mpr ‹_›)⟩ h
theorem j7 {x b:Nat}:(x >>> b &&& 1≠0)↔x.testBit b=true:=by
 rw [m1,show x.testBit b=(x >>> b).testBit 0 by rw [Ry,Nat.add_zero],Nat.testBit_zero,Pl];exact FN
theorem Lj (hd:x<8) (h:q (.bool (grow x)) H):Call (d+1) 13 [nv x] H q:=by
 refine ar rfl rfl ?_;have:x=0\/x=1\/x=2\/x=3\/x=4\/x=5\/x=6\/x=7:=JG x (by assumption)
 rcases this with rfl | rfl | rfl | rfl | rfl | rfl | rfl | rfl<;>
  (refine dR rfl ?_;first | refine pv ?_ | refine xO ?_
   refine ag (λe=>?_) (λe=>?_)<;>first | (exact absurd e (by decide)) | (refine aj ?_;exact h) | (refine aR ?_;refine aj ?_;exact h))
theorem Ec (w:W H a G R) (o:dO G R) (h:q (nv (eL R)) H):Call (d+1) 28 [.ref a.p] H q:=by
 refine ar rfl rfl ?_;refine aI ‹_› rfl ?_;refine eR ‹_› ‹_› (by decide) ?_;refine aI ‹_› rfl ?_;refine eR ‹_› ‹_› (by decide) ?_;refine cT ?_;refine aj ?_;exact h
theorem AR (w:W H a G R) (o:dO G R) (hc:c<2) (hk:k<7) (h:q (nv (Sd R c &&& K R k)) H):Call (d+1) 29 [.ref a.p,nv c,nv k] H q:=by
 refine ar rfl rfl ?_;refine aI ‹_› rfl ?_;refine eR ‹_› ‹_› ‹_› ?_;refine aI ‹_› rfl ?_;refine og ‹_› ‹_› ‹_› ?_;refine aS ?_;refine aj ?_;exact h
theorem rZ (w:W H a G R) (g:cq G) (o:dO G R) (hc:c<2) (kk:dg G R c k) (h:q (nv k) H):Call (d+3) 30 [.ref a.p,nv c] H q:=by
 have:=g.iW;have:=kk.2;refine ar rfl rfl ?_;refine aI ‹_› rfl ?_;refine eR ‹_› ‹_› ‹_› ?_;refine aI ‹_› rfl ?_;refine og ‹_› ‹_› (by decide) ?_;refine aS ?_;rw [kk.1];refine HB (by exact fX ‹_› ‹_› (by rfl)) ?_;refine aj ?_;exact h
theorem mi:∀(n d:Nat),d<=eH G x y n d/\eH G x y n d<=d+n
 | 0,d=>⟨Pt d,Pt d⟩
 | n+1,d=>by
  unfold eH;split
  ·lia
  ·have:=mi n (d+1);lia
theorem Hq (w:W H a G R) (g:cq G) (hx:x<G.size) (h8:dirOf G x y=8->q (.int (-1)) H) (h:dirOf G x y<8->q (nv (dirOf G x y)) H):Call (d+1) 43 [.ref a.g,nv x,nv y] H q:=by
 refine ar rfl rfl ?_;refine fI (n:=8) (by decide) ?_;refine forR (n:=8) (λj ρ' H'=>H'=H/\dirOf G x y=eH G x y (8-j) j/\∃z,ρ'=[some (.ref a.g),some (nv x),some (nv y),z]) (λj ρ' H' K hj hI hn hr _=>?_) (λρ' H' hI=>?_) ⟨rfl,rfl,none,rfl⟩
 ·obtain ⟨rfl,e,z,rfl⟩:=hI;rw [show 8-j=(8- (j+1))+1 by exact (Rz (RI hj)).symm,eH] at e;refine eQ ‹_› rfl ?_;refine ng ‹_› ‹_› ?_;refine ni ‹_› ‹_› ‹_› ‹_› ?_;refine cN ?_;refine aS ?_;refine dG (λe2=>?_) (λe2=>?_)
  ·rw [Po (j7.mp e2)] at e;refine hr _ _ _ ?_;refine aj ?_;rw [<- e];exact h (by rw [e];exact hj)
  ·rw [Pf (λk=>j7.mpr k e2)] at e;exact hn _ _ ⟨rfl,e,_,rfl⟩
 ·obtain ⟨rfl,e,z,rfl⟩:=hI;refine eM ?_;refine aj ?_;exact h8 e
theorem yV {e:Nat} (h:e<8):e ^^^ 2<8:=Nat.xor_lt_two_pow (n:=3) h (by decide)
theorem Ho (w:W H a G R) (g:cq G) (hx:x<G.size) (hy:y<G.size) (h:q (nv (a7 G x y)) H):Call (d+2) 44 [.ref a.g,nv x,nv y] H q:=by
 refine ar rfl rfl ?_;refine Hq w g hx (λe=>?_) (λe=>?_)
 ·refine nQ ?_;refine ag (λ_=>?_) (λe=>absurd (by decide) e);refine aj ?_;unfold a7 at h;rw [Po e] at h;exact h
 ·have e2:=yV e;refine rU ?_;refine ag (λe3=>absurd e3 (Qu _)) (λ_=>?_);refine eQ ‹_› rfl ?_;refine ng ‹_› ‹_› ?_;refine ni ‹_› ‹_› ‹_› ‹_› ?_;refine eQ ‹_› rfl ?_;refine bQ ?_;refine ng ‹_› ‹_› ?_;refine ni ‹_› ‹_› ‹_› ‹_› ?_;refine aS ?_;refine aj ?_;unfold a7 at h;rw [Pf (by exact Qh ‹_›)] at h;exact h
theorem K3 (w:W H a G R) (g:cq G) (hx:x<G.size) (h:q (nv (fP G x y)) H):Call (d+2) 45 [.ref a.g,nv x,nv y] H q:=by
 have:=g.iW;refine ar rfl rfl ?_;refine Hq w g hx (λe=>?_) (λe=>?_)
 ·refine nQ ?_;refine ag (λ_=>?_) (λe=>absurd (by decide) e);refine aj ?_;unfold fP at h;rw [Po e] at h;exact h
 ·have e2:=yV e;refine rU ?_;refine ag (λe3=>absurd e3 (Qu _)) (λ_=>?_);refine eQ ‹_› rfl ?_;refine ng ‹_› ‹_› ?_;refine ni ‹_› ‹_› ‹_› ‹_› ?_;refine eQ ‹_› rfl ?_;refine bQ ?_;refine ng ‹_› ‹_› ?_;refine ni ‹_› ‹_› ‹_› ‹_› ?_;refine cT ?_;refine b8 (by exact gw ‹_› ‹_› (by rfl)) ?_;refine cT ?_;refine aj ?_;unfold fP at h;rw [Pf (by exact Qh ‹_›)] at h;exact h
theorem KZ {z:Nat} (w:W H a G R) (g:cq G) (hx:x<G.size) (h:q (.bool ((fP G x y).testBit z)) H):Call (d+3) 46 [.ref a.g,nv x,nv y,nv z] H q:=by
 refine ar rfl rfl ?_;refine K3 w g hx ?_;refine cN ?_;refine aS ?_;refine aR ?_;refine aj ?_
 have e:decide (fP G x y >>> z &&& 1=1)=(fP G x y).testBit z:=by
  rw [Qa,Pl,<- j7,m1];exact FN.symm
 exact e ▸ h
theorem Hn (w:W H a G R) (g:cq G) (hx:x<8) (hs:s<G.size) (h:q (nv (gR G x s oc)) H):Call (d+2) 47 [.ref a.g,nv x,nv s,nv oc] H q:=by
 refine ar rfl rfl ?_;refine eQ ‹_› rfl ?_;refine ng ‹_› ‹_› ?_;refine ni ‹_› ‹_› ‹_› ‹_› ?_;refine aS ?_;refine aR ?_;refine ag (λe=>?_) (λe=>?_)
 ·refine aj ?_;unfold gR at h;rw [Po e] at h;exact h
 ·refine Lj hx ?_;refine dd (λe2=>?_) (λe2=>?_)
  ·refine cC (y:=1) (PF e) ?_;refine bQ ?_;refine aS ?_;refine aj ?_;unfold gR at h;rw [Pf e,Po e2] at h;exact h
  ·refine cN ?_;refine cN ?_;refine bF ?_;refine cT ?_;refine cN ?_;refine bF ?_;refine cT ?_;refine cN ?_;refine bF ?_;refine cT ?_;refine cN ?_;refine bF ?_;refine cT ?_;refine cN ?_;refine bF ?_;refine cT ?_;refine cN ?_;refine bF ?_;refine cT ?_;refine je ?_;refine gV ?_;refine aj ?_;unfold gR at h;rw [Pf e,Pf (by rw [e2];decide)] at h;exact h
theorem yd (w:W H a G R) (g:cq G) (hs:s<G.size) (h:q (nv (eX G s oc)) H):Call (d+3) 48 [.ref a.g,nv s,nv oc] H q:=by
 refine ar rfl rfl ?_;refine fI (n:=4) (by decide) ?_;refine forR (n:=4) (λj ρ' H'=>H'=H/\∃z,ρ'=[some (.ref a.g),some (nv s),some (nv oc),some (nv (iE G s oc 0 j)),z]) (λj ρ' H' K hj hI hn hr _=>?_) (λρ' H' hI=>?_) ⟨rfl,none,rfl⟩
 ·obtain ⟨rfl,z,rfl⟩:=hI;refine Hn w g (by exact Pa ‹_› (by decide)) hs ?_;refine bF ?_;refine cT ?_;exact hn _ _ ⟨rfl,_,by rw [iE,QL];rfl⟩
 ·obtain ⟨rfl,z,rfl⟩:=hI;refine aj ?_;exact h
theorem yc (w:W H a G R) (g:cq G) (hs:s<G.size) (h:q (nv (fE G s oc)) H):Call (d+3) 49 [.ref a.g,nv s,nv oc] H q:=by
 refine ar rfl rfl ?_;refine Bh (a:=4) (b:=8) (by decide) (by decide) ?_;refine DT (n:=4) (f:=λk=>4+k) (ri (a:=4) (b:=8)) (λj ρ' H'=>H'=H/\∃z,ρ'=[some (.ref a.g),some (nv s),some (nv oc),some (nv (iE G s oc 4 j)),z]) (λj ρ' H' K hj hI hn hr _=>?_) (λρ' H' hI=>?_) ⟨rfl,none,rfl⟩
 ·obtain ⟨rfl,z,rfl⟩:=hI;refine Hn w g (by exact Qe ‹_› _) hs ?_;refine bF ?_;refine cT ?_;exact hn _ _ ⟨rfl,_,rfl⟩
 ·obtain ⟨rfl,z,rfl⟩:=hI;refine aj ?_;exact h
theorem KY (w:W H a G R) (g:cq G) (hs:s<G.size) (h:q (nv (eX G s oc ||| fE G s oc)) H):Call (d+4) 50 [.ref a.g,nv s,nv oc] H q:=by
 refine ar rfl rfl ?_;refine yd w g hs ?_;refine yc w g hs ?_;refine cT ?_;refine aj ?_;exact h
theorem KW (w:W H a G R) (g:cq G) (hs:s<G.size) (h:q (nv (vE G k s oc)) H):Call (d+5) 51 [.ref a.g,nv k,nv s,nv oc] H q:=by
 unfold vE at h;refine ar rfl rfl ?_;refine aR ?_;refine ag (λe=>?_) (λe=>?_)
 ·rw [Po e] at h;refine yc w g hs ?_;refine aj ?_;exact h
 ·rw [Pf e] at h;refine aR ?_;refine ag (λe=>?_) (λe=>?_)
  ·rw [Po e] at h;refine yd w g hs ?_;refine aj ?_;exact h
  ·rw [Pf e] at h;refine aR ?_;refine ag (λe=>?_) (λe=>?_)
   ·rw [Po e] at h;refine KY w g hs ?_;refine aj ?_;exact h
   ·rw [Pf e] at h;refine aj ?_;exact h
theorem KV (w:W H a G R) (g:cq G) (hc:c<2) (hs:s<G.size) (h:q (nv (oG G c k s oc)) H):Call (d+6) 52 [.ref a.g,nv c,nv k,nv s,nv oc] H q:=by
 unfold oG at h;refine ar rfl rfl ?_;refine aR ?_;refine ag (λe=>?_) (λe=>?_)
 ·rw [Po e] at h;refine eQ ‹_› rfl ?_;refine oe ‹_› ‹_› ?_;refine zg ‹_› ‹_› ‹_› ‹_› ?_;refine aj ?_;exact h
 ·rw [Pf e] at h;refine aR ?_;refine ag (λe=>?_) (λe=>?_)
  ·rw [Po e] at h;refine eQ ‹_› rfl ?_;refine pN ‹_› ‹_› ‹_› ?_;refine aj ?_;exact h
  ·rw [Pf e] at h;refine aR ?_;refine ag (λe=>?_) (λe=>?_)
   ·rw [Po e] at h;refine eQ ‹_› rfl ?_;refine vt ‹_› ‹_› ‹_› ?_;refine aj ?_;exact h
   ·rw [Pf e] at h;refine KW w g hs ?_;refine aj ?_;exact h
theorem D9 (w:W H a G R) (o:dO G R) (h:q (nv (lz R)) H):Call (d+1) 53 [.ref a.p] H q:=by
 refine ar rfl rfl ?_;refine aI ‹_› rfl ?_;refine og ‹_› ‹_› (by decide) ?_;refine aI ‹_› rfl ?_;refine og ‹_› ‹_› (by decide) ?_;refine cT ?_;refine aj ?_;exact h
theorem D8 (w:W H a G R) (o:dO G R) (h:q (nv (lC R)) H):Call (d+1) 54 [.ref a.p] H q:=by
 refine ar rfl rfl ?_;refine aI ‹_› rfl ?_;refine og ‹_› ‹_› (by decide) ?_;refine aI ‹_› rfl ?_;refine og ‹_› ‹_› (by decide) ?_;refine cT ?_;refine aj ?_;exact h
theorem KU (w:W H a G R) (g:cq G) (o:dO G R) (hc:c<2) (hs:s<G.size) (h:q (nv (wb G R s c)) H):Call (d+1) 55 [.ref a.p,nv s,nv c] H q:=by
 have h1:1-c<2:=by exact pT
 refine ar rfl rfl ?_;refine aI ‹_› rfl ?_;refine eQ ‹_› rfl ?_;refine dt ‹_› ?_;refine oe ‹_› ‹_› ?_;refine zg ‹_› ‹_› ‹_› ‹_› ?_;refine aI ‹_› rfl ?_;refine og ‹_› ‹_› (by decide) ?_;refine aS ?_;refine aI ‹_› rfl ?_;refine eR ‹_› ‹_› ‹_› ?_;refine aS ?_;refine aj ?_;exact h
theorem D7 (w:W H a G R) (g:cq G) (o:dO G R) (hc:c<2) (hs:s<G.size) (h:q (nv (j8 G R s c)) H):Call (d+2) 56 [.ref a.p,nv s,nv c] H q:=by
 refine ar rfl rfl ?_;refine aI ‹_› rfl ?_;refine eQ ‹_› rfl ?_;refine pN ‹_› ‹_› ‹_› ?_;refine aI ‹_› rfl ?_;refine og ‹_› ‹_› (by decide) ?_;refine aS ?_;refine eQ ‹_› rfl ?_;refine vt ‹_› ‹_› ‹_› ?_;refine aI ‹_› rfl ?_;refine og ‹_› ‹_› (by decide) ?_;refine aS ?_;refine bF ?_;refine cT ?_;refine KU w g o hc hs ?_;refine aI ‹_› rfl ?_;refine eR ‹_› ‹_› ‹_› ?_;refine aS ?_;refine cT ?_;refine aj ?_;exact h
theorem KR (w:W H a G R) (g:cq G) (o:dO G R) (hs:s<G.size) (h:q (nv (jg G R s oc)) H):Call (d+4) 57 [.ref a.p,nv s,nv oc] H q:=by
 refine ar rfl rfl ?_;refine D9 w o ?_;refine uC 3 (nv (eX G s oc &&& lz R)) ?_ λK' j=>?_
 ·refine D8 w o ?_;refine uC 3 (nv (jg G R s oc)) ?_ λK' j=>?_
  ·refine aj ?_;exact h
  ·refine dG (λe=>?_) (λe=>?_)
   ·refine aI ‹_› rfl ?_;refine yc w g hs ?_;refine aS ?_;refine bF ?_;refine cT ?_;exact j
   ·exact eD j rfl (by unfold jg;rw [e,SW,Nat.or_zero])
 ·refine dG (λe=>?_) (λe=>?_)
  ·refine aI ‹_› rfl ?_;refine yd w g hs ?_;refine aS ?_;refine bF ?_;refine cT ?_;exact gF j (by rw [Nat.zero_or])
  ·exact eD j rfl (by rw [e,SW];rfl)
theorem Hm (w:W H a G R) (g:cq G) (o:dO G R) (hs:s<G.size) (h:q (nv (fb G R s oc)) H):Call (d+5) 58 [.ref a.p,nv s,nv oc] H q:=by
 refine ar rfl rfl ?_;refine D7 (c:=0) w g o (by decide) hs ?_;refine D7 (c:=1) w g o (by decide) hs ?_;refine cT ?_;refine KR w g o hs ?_;refine cT ?_;refine aj ?_;exact h
theorem yb (w:W H a G R) (g:cq G) (o:dO G R) (hc:c<2) (hs:s<G.size) (h:q (.bool (eO G R s c oc)) H):Call (d+4) 59 [.ref a.p,nv s,nv c,nv oc] H q:=by
 unfold eO at h;refine ar rfl rfl ?_;refine D7 w g o hc hs ?_;refine dG (λe=>?_) (λe=>?_)
 ·rw [Px (.inl e)] at h;refine aj ?_;exact h
 ·refine aI ‹_› rfl ?_;refine aI ‹_› rfl ?_;refine eR ‹_› ‹_› ‹_› ?_;refine D9 w o ?_;refine aS ?_
  have last:(¬eX G s oc &&& (lz R &&& Sd R c)≠0)->aO (Call (d+3)) (.cons (.asg 7 (.bin .and (.call 54 (.cons (.loc 0) .nil)) (.loc 5))) (.cons (.ret (.dU (.cons (.cmp .ne (.loc 7) (.bB 0)) (.cons (.cmp .ne (.bin .and (.call 49 (.cons (.loc 4) (.cons (.loc 1) (.cons (.loc 3) .nil)))) (.loc 7)) (.bB 0)) .nil)))) .nil))
   [some (.ref a.p),some (nv s),some (nv c),some (nv oc),some (.ref a.g),some (nv (Sd R c)),some (nv (lz R &&& Sd R c)),none] H (di q):=λe2=>by
   refine D8 w o ?_;refine aS ?_;refine ez ?_;refine ag (λe3=>?_) (λe3=>?_)
   ·refine yc w g hs ?_;refine aS ?_;refine ez ?_;refine aj ?_;rw [du (show (j8 G R s c≠0\/eX G s oc &&& (lz R &&& Sd R c)≠0\/fE G s oc &&& (lC R &&& Sd R c)≠0)↔fE G s oc &&& (lC R &&& Sd R c)≠0 from ⟨λk=>k.elim (λk=>absurd e k) λk=>k.elim (λk=>absurd k e2) id,λk=>.inr (.inr k)⟩)] at h;exact h
   ·refine aj ?_;have e3:lC R &&& Sd R c=0:=PR.mp e3;rw [du (show (j8 G R s c≠0\/eX G s oc &&& (lz R &&& Sd R c)≠0\/fE G s oc &&& (lC R &&& Sd R c)≠0)↔lC R &&& Sd R c≠0 from ⟨λk=>k.elim (λk=>absurd e k) λk=>k.elim (λk=>absurd k e2) λk=>absurd (by rw [e3,SW]) k,λk=>absurd e3 k⟩)] at h;exact h
  refine dG (λe2=>?_) (λe2=>?_)
  ·refine yd w g hs ?_;refine aS ?_;refine dG (λe3=>?_) (λe3=>?_)
   ·rw [Px (.inr (.inl e3))] at h;refine aj ?_;exact h
   ·exact last (λk=>k e3)
  ·refine dG (λe3=>absurd e2 e3) (λ_=>?_);exact last (λk=>k (by rw [e2,SW]))
theorem KQ (w:W H a G R) (g:cq G) (o:dO G R) (hc:c<2) (kk:dg G R c k) (h:q (nv (fb G R k (eL R) &&& Sd R (1-c))) H):Call (d+6) 60 [.ref a.p,nv c] H q:=by
 refine ar rfl rfl ?_;refine aI ‹_› rfl ?_;refine eR ‹_› ‹_› (by decide) ?_;refine aI ‹_› rfl ?_;refine eR ‹_› ‹_› (by decide) ?_;refine cT ?_;refine rZ w g o hc kk ?_;refine Hm w g o kk.2 ?_;refine aI ‹_› rfl ?_;refine dt ‹_› ?_;refine eR ‹_› ‹_› (by exact pT) ?_;refine aS ?_;refine aj ?_;exact h
theorem KP (w:W H a G R) (g:cq G) (o:dO G R) (kk:dg G R R.af k) (h:q (nv (fb G R k (eL R) &&& Sd R (1-R.af))) H):Call (d+7) 61 [.ref a.p] H q:=by
 refine ar rfl rfl ?_;refine aI ‹_› rfl ?_;refine KQ w g o o.c2 kk ?_;refine aj ?_;exact h
theorem KO (w:W H a G R) (g:cq G) (o:dO G R) (hc:c<2) (kk:dg G R c k) (h:q (.bool (eO G R k (1-c) (eL R))) H):Call (d+5) 62 [.ref a.p,nv c] H q:=by
 refine ar rfl rfl ?_;refine aI ‹_› rfl ?_;refine eR ‹_› ‹_› (by decide) ?_;refine aI ‹_› rfl ?_;refine eR ‹_› ‹_› (by decide) ?_;refine cT ?_;refine rZ w g o hc kk ?_;refine dt ‹_› ?_;refine yb w g o (by exact pT) kk.2 ?_;refine aj ?_;exact h
theorem KN (w:W H a G R) (g:cq G) (o:dO G R) (kk:dg G R R.af k) (h:q (.bool (eO G R k (1-R.af) (eL R))) H):Call (d+6) 63 [.ref a.p] H q:=by
 refine ar rfl rfl ?_;refine aI ‹_› rfl ?_;refine KO w g o o.c2 kk ?_;refine aj ?_;exact h
theorem KL (w:W H a G R) (g:cq G) (o:dO G R) (hc:c<2) (kk:dg G R c k) (h:q (nv (kB G R k c)) H):Call (d+4) 64 [.ref a.p,nv c] H q:=by
 refine ar rfl rfl ?_;refine rZ w g o hc kk ?_;refine aI ‹_› rfl ?_;refine yd (oc:=0) w g kk.2 ?_;refine D9 w o ?_;refine aS ?_;refine aI ‹_› rfl ?_;refine yc (oc:=0) w g kk.2 ?_;refine D8 w o ?_;refine aS ?_;refine bF ?_;refine cT ?_;refine aI ‹_› rfl ?_;refine dt ‹_› ?_;refine eR ‹_› ‹_› (by exact pT) ?_;refine aS ?_;refine aj ?_;exact h
end
theorem dD {b n s:Nat} (h:b<2^n) (k:b.testBit s=true):s<n:=by
 rcases PG s n with q | q
 ·exact q
 ·rw [Nat.testBit_lt_two_pow (Pa h (QP (by decide) q))] at k;cases k
theorem cX {x y n:Nat} (h:y<2^n):x &&& y<2^n:=Pm Nat.and_le_right h
theorem dw {x y n:Nat} (h:x<2^n):x &&& y<2^n:=Pm Nat.and_le_left h
theorem fM {x y n:Nat} (h:x<2^n):eg x y<2^n:=Nat.xor_lt_two_pow h (dw h)
theorem aC {x y i:Nat}:(x &&& y).testBit i=true↔x.testBit i=true/\y.testBit i=true:=by rw [Q7,Pe]
theorem dQ {x y i:Nat}:(x ||| y).testBit i=true↔x.testBit i=true\/y.testBit i=true:=by rw [RN,Qm]
theorem iC {x y i:Nat}:(eg x y).testBit i=true↔x.testBit i=true/\¬y.testBit i=true:=by
 rw [sS];cases x.testBit i<;>cases y.testBit i<;>simp
theorem cq.te {G:aE} (g:cq G) {x:Nat} (h:x<2^G.size):x<2^64:=Pa h (QP (by decide) (by have:=g.iW;exact Pb ‹_› (by decide)))
theorem Hp.bt (H:Hp) {a b:Addr} (o p:Ob) (h:a≠b):(H.upd a o).upd b p=(H.upd b p).upd a o:=by
 funext c;unfold Hp.upd;by_cases e:c=b
 ·subst e;rw [Po rfl,Pf (Ne.symm h),Po rfl]
 ·rw [Pf e];by_cases e2:c=a
  ·rw [Po e2,Po e2]
  ·rw [Pf e2,Pf e2,Pf e]
theorem Hp.none_of {H:Hp} {a b:Addr} {o:Ob} (h:(H.upd a o) b=none):b≠a/\H b=none:=by
 by_cases e:b=a
 ·subst e;rw [Hp.ai] at h;cases h
 ·rw [Hp.ay e] at h;exact ⟨e,h⟩
theorem gy {body:Lc->Hp->(Fl->Lc->Hp->Prop)->Prop} {i:Nat} {ρ:Lc} {H:Hp} {Q:Fl->Lc->Hp->Prop} {out b:Addr} {l ms:List Nat} (hb:b≠out) (E:Lc->Prop) (P:Nat->Prop) (c:Nat) (hl:l.length<=64) (hE:E ρ)
 (step:∀s ms' ρ' K,s∈l->E ρ'->ms'.length<=ms.length+64*c->(∀ρ'' ns,E ρ''->ns.length<=c->(∀m∈ns,P m)->K Fl.next ρ'' ((H.upd out (.list (av (ms'++ns)))).upd b (.list (av l))))->body (cR ρ' i (nv s)) ((H.upd out (.list (av ms'))).upd b (.list (av l))) K)
 (fin:∀ρ'' ns,E ρ''->ns.length<=64*c->(∀m∈ns,P m)->Q .next ρ'' ((H.upd out (.list (av (ms++ns)))).upd b (.list (av l)))) :
 fg body i (.ref b) ρ ((H.upd out (.list (av ms))).upd b (.list (av l))) Q:=by
 refine forL (Hp.ai ..) (λk ρ' H'=>E ρ'/\∃ns,ns.length<=k*c/\(∀m∈ns,P m)/\H'=(H.upd out (.list (av (ms++ns)))).upd b (.list (av l))) (λk v ρ' H' K hv hI hn _ _=>?_) (λρ' H' hI=>?_) ⟨hE,[],Qc _,λm hm=>absurd hm Qy,by rw [QX]⟩
 ·obtain ⟨hE,ns,hns,hP,rfl⟩:=hI;refine ⟨Hp.ai ..,?_⟩;refine aD (ju rfl hv) ?_;rintro hk rfl;have h1:k*c<=64*c:=P7 c (by exact Pw (Pa ‹_› ‹_›));refine step (l.getD k 0) (ms++ns) ρ' K ?_ hE (by rw [Pg];lia) λρ'' ns' hE' hns' hP'=>hn _ _ ⟨hE',ns++ns',by rw [Pg,SS];exact Rd ‹_› ‹_›,λm hm=>?_,by rw [Pr]⟩
  ·rw [Pc,Pk hk];exact Rb hk
  ·rcases PZ.mp hm with q | q
   ·exact hP m q
   ·exact hP' m q
 ·obtain ⟨hE,ns,hns,hP,rfl⟩:=hI;rw [Ph] at hns;exact ⟨Hp.ai ..,fin _ _ hE (Pb hns (P7 c hl)) hP⟩
noncomputable abbrev Hp.out (H:Hp) (o:Addr) (ms:List Nat):Hp:=H.upd o (.list (av ms))
def mV (H:Hp) (out:Addr) (ms:List Nat) (n:Nat) (P:Nat->Prop) (q:V->Hp->Prop):Prop:=∀ns:List Nat,ns.length<=n->(∀m∈ns,P m)->q .none (H.out out (ms++ns))
def yK (G:aE) (R:Rw) (k tgt:Nat) (m:Nat):Prop:=∃o t,m=pk o t 0 0/\(Sd R R.af &&& K R k).testBit o=true/\(oG G R.af k o (eL R)).testBit t=true/\tgt.testBit t=true
def fN (R:Rw) (o:Nat):Prop:=(Sd R R.af &&& K R 1).testBit o=true
def Ip (G:aE) (R:Rw) (tgt:Nat) (m:Nat):Prop:=∃o t sp f,m=pk o t sp f/\f<4/\(sp=0/\f=0\/sp=1)/\(R.af=0/\t=o+G.aa\/R.af=1/\o=t+G.aa)/\fN R o/\¬(eL R).testBit t=true/\t<G.size/\tgt.testBit t=true
noncomputable def eV (G:aE) (c:Nat):Nat:=if c=0 then G.rm.getD 1 0 else G.rm.getD (G.bD-2) 0
def Io (G:aE) (R:Rw) (tgt:Nat) (m:Nat):Prop:=∃o p t,m=pk o t 0 0/\(R.af=0/\p=o+G.aa/\t=p+G.aa\/R.af=1/\o=p+G.aa/\p=t+G.aa)/\(fN R o/\(eV G R.af).testBit o=true)/\¬(eL R).testBit p=true/\¬(eL R).testBit t=true/\t<G.size/\p<G.size/\tgt.testBit t=true
def sJ (G:aE) (c o t:Nat):Prop:=
 (¬(G.fm.getD (G.aa-1) 0).testBit o=true/\(c=0/\t=o+G.aa+1\/c=1/\t+G.aa=o+1))\/(¬(G.fm.getD 0 0).testBit o=true/\(c=0/\t+1=o+G.aa\/c=1/\t+G.aa+1=o))
def I4 (G:aE) (R:Rw) (tgt:Nat) (m:Nat):Prop:=∃o t sp f,m=pk o t sp f/\f<4/\(sp=0/\f=0\/sp=1)/\sJ G R.af o t/\fN R o/\(Sd R (1-R.af)).testBit t=true/\tgt.testBit t=true
def A8 (G:aE) (R:Rw) (m:Nat):Prop:=∃o t:Nat,m=pk o t 2 0/\R.ep=t/\(cm G (1-R.af) t).testBit o=true/\fN R o
noncomputable def within (a b:Nat):Nat:=if a<b then 2^b-2^(a+1) else 2^a-2^(b+1)
def kA (G:aE) (R:Rw) (i kf kt rf rt:Nat):Prop:=G.br.getD i none=some (kf,kt,rf,rt)/\R.ab &&& 2^i≠0/\eL R &&& within kf rf=0/\eO G R kf (1-i / 2) (eL R)=false/\eO G R rt (1-i / 2) (eL R)=false/\eO G R kt (1-i / 2) (eL R)=false
def sI (G:aE) (R:Rw) (m:Nat):Prop:=∃i kf kt rf rt,m=pk kf kt 3 0/\i / 2=R.af/\kA G R i kf kt rf rt
def gi (G:aE) (R:Rw) (tgt:Nat) (m:Nat):Prop:=Ip G R tgt m\/Io G R tgt m\/I4 G R tgt m
section
variable {d x y s c k oc tgt:Nat} {H:Hp} {a:Ad} {G:aE} {R:Rw} {q:V->Hp->Prop} {out:Addr} {ms:List Nat}
theorem sY (g:cq G) (o:dO G R):kB G R k c<2^G.size:=cX (o.sb _)
def ya:Prop:=∀(w:W H a G R) (g:cq G) (o:dO G R) (hc:c<2) (kk:dg G R c k) (h:∀held pin,(∀t,held.testBit t=true↔∃s,(kB G R k c).testBit s=true/\(ft G R k c s).testBit t=true/\ft G R k c s &&& (ft G R k c s-1)=0)->q (.tup [nv held,nv pin]) H),Call (d+5) 65 [.ref a.p,nv c] H q
theorem KJ:@ya d c k H a G R q:=ao (S:=λx:(Nat×Nat×Nat×Hp)×(Ad×aE×Rw×(V->Hp->Prop))=>@ya x.1.1 x.1.2.1 x.1.2.2.1 x.1.2.2.2 x.2.1 x.2.2.1 x.2.2.2.1 x.2.2.2.2) (x:=((0,0,0,λ_=>none),(jX,bN,fC,λ_ _=>True))) (by
 refine (?_:∀d c k H a G R q,@ya d c k H a G R q) _ _ _ _ _ _ _ _;intro d c k H a G R q w g o hc kk h;refine ar rfl rfl ?_;refine rZ w g o hc kk ?_;refine KL w g o hc kk ?_;refine aI ‹_› rfl ?_;refine eR ‹_› ‹_› (by decide) ?_;refine aI ‹_› rfl ?_;refine eR ‹_› ‹_› (by decide) ?_;refine cT ?_;refine bQ ?_;refine qA (g.te (sY g o)) λl hl _ b hb=>?_;have w':=w.mono (Hp.ax (o:=.list (av l)) hb)
 refine forL (Hp.ai ..) (λn ρ' H'=>H'=H.upd b (.list (av l))/\∃held pin z y,ρ'=[some (.ref a.p),some (nv c),some (nv k),some (nv (kB G R k c)),some (nv (eL R ^^^ kB G R k c)),some (nv held),some (nv pin),z,y]/\
  ∀t,held.testBit t=true↔∃s,s∈l.take n/\(ft G R k c s).testBit t=true/\ft G R k c s &&& (ft G R k c s-1)=0) (λn v ρ' H' K hv hI hn _ _=>?_) (λρ' H' hI=>?_) ⟨rfl,0,0,none,none,rfl,λt=>by rw [List.take_zero,Py];exact ⟨λe=>(nomatch e),λ⟨_,e,_⟩=>absurd e Qy⟩⟩
 ·obtain ⟨rfl,held,pin,z,y,rfl,hh⟩:=hI;refine ⟨Hp.ai ..,?_⟩;refine aD (ju rfl hv) ?_;rintro hk rfl
  have hmem:l.getD n 0∈l:=by rw [Pc,Pk hk];exact Rb hk
  have hs:=(hl _).mp hmem;have hlt:=dD (sY g o) hs
  have tk:l.take (n+1)=l.take n++ [l.getD n 0]:=by
   rw [Sh,Pc,Pk hk];rfl
  have skip:¬(ft G R k c (l.getD n 0)≠0/\ft G R k c (l.getD n 0) &&& (ft G R k c (l.getD n 0) -1)=0)->∀t,held.testBit t=true↔∃s,s∈l.take (n+1)/\(ft G R k c s).testBit t=true/\ft G R k c s &&& (ft G R k c s-1)=0:=λhno t=>by
   rw [hh t,tk];constructor
   ·rintro ⟨s,e1,e2⟩;exact ⟨s,Ta _ e1,e2⟩
   ·rintro ⟨s,e1,e2,e3⟩;rcases PZ.mp e1 with q | q
    ·exact ⟨s,q,e2,e3⟩
    ·rw [PC] at q;subst q;exact absurd ⟨(λz=>by rw [z,Py] at e2;cases e2),e3⟩ hno
  have take:ft G R k c (l.getD n 0) &&& (ft G R k c (l.getD n 0) -1)=0->∀t,(held ||| ft G R k c (l.getD n 0)).testBit t=true↔∃s,s∈l.take (n+1)/\(ft G R k c s).testBit t=true/\ft G R k c s &&& (ft G R k c s-1)=0:=λhyes t=>by
   rw [dQ,hh t,tk];constructor
   ·rintro (⟨s,e1,e2⟩ | e)
    ·exact ⟨s,Ta _ e1,e2⟩
    ·exact ⟨_,S8 _ (PC.mpr rfl),e,hyes⟩
   ·rintro ⟨s,e1,e2,e3⟩;rcases PZ.mp e1 with q | q
    ·exact .inl ⟨s,q,e2,e3⟩
    ·rw [PC] at q;subst q;exact .inr e2
  refine aI ‹_› rfl ?_;refine Ho w' g kk.2 hlt ?_;refine aS ?_;refine dG (λe=>?_) (λe=>?_)
  ·refine HC e ?_;refine Br ?_;refine ag (λe2=>?_) (λe2=>?_)
   ·have e2:=PR.mp e2;refine bF ?_;refine cT ?_;refine aI ‹_› rfl ?_;refine eR ‹_› ‹_› ‹_› ?_;refine aS ?_;refine dG (λe3=>?_) (λe3=>?_)
    ·refine b8 (by have:=g.iW;exact gw ‹_› ‹_› (by rfl)) ?_;refine bF ?_;refine cT ?_;exact hn _ _ ⟨rfl,_,_,_,_,rfl,take e2⟩
    ·exact hn _ _ ⟨rfl,_,_,_,_,rfl,take e2⟩
   ·exact hn _ _ ⟨rfl,_,_,_,_,rfl,skip λz=>e2 (not_not_intro z.2)⟩
  ·refine dG (λe3=>absurd e e3) (λ_=>?_);exact hn _ _ ⟨rfl,_,_,_,_,rfl,skip λz=>z.1 e⟩
 ·obtain ⟨rfl,held,pin,z,y,rfl,hh⟩:=hI;refine ⟨Hp.ai ..,?_⟩;refine ⟨by simp,?_⟩;refine gr H (Hp.ax hb) (h _ _ λt=>?_);rw [hh t,Ph,RQ]
  exact ⟨λ⟨s,e1,e2⟩=>⟨s,(hl s).mp e1,e2⟩,λ⟨s,e1,e2⟩=>⟨s,(hl s).mpr e1,e2⟩⟩) ((d,c,k,H),(a,G,R,q))
end
section
variable {d x y s c k oc tgt:Nat} {H:Hp} {a:Ad} {G:aE} {R:Rw} {q:V->Hp->Prop} {out:Addr} {ms:List Nat}
def N2 (G:aE) (R:Rw) (k c t:Nat):Prop:=∃s,(kB G R k c).testBit s=true/\(ft G R k c s).testBit t=true/\ft G R k c s &&& (ft G R k c s-1)=0
theorem KI (w:W H a G R) (g:cq G) (o:dO G R) (hc:c<2) (kk:dg G R c k) (h:∀pn,(∀t,pn.testBit t=true↔N2 G R k c t/\(Sd R c).testBit t=true)->q (nv pn) H):Call (d+6) 66 [.ref a.p,nv c] H q:=by
 refine ar rfl rfl ?_;refine KJ w g o hc kk λheld pin hh=>?_;refine dR (i:=0) rfl ?_;refine aI ‹_› rfl ?_;refine eR ‹_› ‹_› ‹_› ?_;refine aS ?_;refine aj ?_
 exact h _ λt=>by rw [aC,hh t];rfl
theorem KH (hx:x<64) (hy:y<64) (hne:x≠y) (h:q (nv (within x y)) H):Call (d+1) 67 [nv x,nv y] H q:=by
 unfold within at h;refine ar rfl rfl ?_;refine rU ?_;refine ag (λe=>?_) (λe=>?_)
 ·rw [Po e] at h;refine b8 (by exact Pw (Pa ‹_› (by decide))) ?_;refine gU (x:=2) (by lia) (by decide) ?_;rw [QY,Q4,<- Sl];refine cC (QP (by decide) e) ?_;refine aj ?_;exact h
 ·rw [Pf e] at h;refine b8 (by exact Pw (Pa ‹_› (by decide))) ?_;refine gU (x:=2) (by exact Pw (Pa ‹_› (by decide))) (by decide) ?_;rw [QY,Q4,<- Sl];refine cC (QP (by decide) (by lia)) ?_;refine aj ?_;exact h
theorem KG (w:W H a G R) (g:cq G) (o:dO G R) (hx:x<4) (hno:∀r:Nat,r≠0->q (nv r) H) (hyes:∀kf kt rf rt,kA G R x kf kt rf rt->q (nv 0) H):Call (d+5) 68 [.ref a.p,nv x] H q:=by
 refine ar rfl rfl ?_;refine aI ‹_› rfl ?_;refine eQ ‹_› rfl ?_;refine vv w g hx ?_
 cases hw:G.br.getD x none with
 | none=>
  refine G9 ?_;refine o4 ?_;refine aj ?_;exact hno 1 (by decide)
 | some v=>
  obtain ⟨kf,kt,rf,rt⟩:=v;refine rQ (g.cw x kf kt rf rt hw) λb1 b2 b3 b4 b5=>?_;have h25:=g.iW;refine G9 ?_;refine gx ?_;refine aI ‹_› rfl ?_;refine b8 (by exact Pw (Pa ‹_› (by decide))) ?_;refine aS ?_;refine aR ?_;refine ag (λe=>?_) (λe1=>?_)
  ·refine aj ?_;exact hno 2 (by decide)
  refine mM rfl ?_;refine Ec w o ?_;refine KH (by exact fX ‹_› ‹_› (by rfl)) (by exact fX ‹_› ‹_› (by rfl)) b5 ?_;refine aS ?_;refine dG (λe=>?_) (λe2=>?_)
  ·refine aj ?_;exact hno 3 (by decide)
  refine cN ?_;refine dt (c:=x >>> 1) (by rw [PH];exact QQ ‹_›) ?_
  have hs:x >>> 1=x / 2:=by rw [PH]
  refine yb w g o (by exact pT) b1 ?_;refine dd (λe=>?_) (λe3=>?_)
  ·refine aj ?_;exact hno 4 (by decide)
  refine yb w g o (by exact pT) b4 ?_;refine dd (λe=>?_) (λe4=>?_)
  ·refine aj ?_;exact hno 5 (by decide)
  refine yb w g o (by exact pT) b2 ?_;refine dd (λe=>?_) (λe5=>?_)
  ·refine aj ?_;exact hno 6 (by decide)
  refine aj ?_;rw [show x >>> 1=x / 2 from hs] at e3 e4 e5;exact hyes kf kt rf rt ⟨hw,e1,e2,e3,e4,e5⟩
theorem W.two (w:W H a G R) (ho:H out=none) {b:Addr} {L:List V} (hb:b≠out) (hn:H b=none) (ms:List Nat):W ((H.out out ms).upd b (.list L)) a G R:=
 (w.mono (Hp.ax (o:=.list (av ms)) ho)).mono (Hp.ax ((Hp.ay hb).trans hn))
theorem fH {b:Addr} {L:List V} (hb:b≠out) (hn:H b=none) (ms:List Nat):(H.out out ms).Sub ((H.out out ms).upd b (.list L)):=Hp.ax ((Hp.ay hb).trans hn)
theorem sD {b:Addr} {L:List V} {m:Nat} (hb:b≠out) (hl:ms.length<lim) (h:q .none ((H.out out (ms++ [m])).upd b (.list L))):DI (.ref out) ((H.out out ms).upd b (.list L))/\dB (.ref out) (nv m) ((H.out out ms).upd b (.list L)) q:=by
 have e:((H.out out ms).upd b (.list L)) out=some (.list (av ms)):=by rw [Hp.ay (Ne.symm hb)];exact Hp.ai ..
 refine ⟨gJ e,qF e (by rw [Ph];exact hl) ?_⟩
 have:((H.out out ms).upd b (.list L)).upd out (.list (av ms++ [nv m]))=(H.out out (ms++ [m])).upd b (.list L):=by
  rw [Hp.bt _ _ _ (Ne.symm hb),Hp.eE,Hp.bt _ _ _ hb];show (H.upd out (.list (av ms++ [nv m]))).upd b (.list L)=(H.upd out (.list (List.map nv (ms++ [m])))).upd b (.list L);rw [QG];rfl
 rw [this];exact h
theorem Lx {m:Nat} (hl:ms.length<lim) (h:q .none (H.out out (ms++ [m]))):DI (.ref out) (H.out out ms)/\dB (.ref out) (nv m) (H.out out ms) q:=by
 refine ⟨gJ (Hp.ai ..),qF (Hp.ai ..) (by rw [Ph];exact hl) ?_⟩
 have e:(H.out out ms).upd out (.list (av ms++ [nv m]))=H.out out (ms++ [m]):=by
  rw [Hp.eE];show H.upd out (.list (av ms++ [nv m]))=H.upd out (.list (List.map nv (ms++ [m])));rw [QG];rfl
 rw [e];exact h
def xZ:Prop:=∀(w:W H a G R) (g:cq G) (o:dO G R) (ho:H out=none) (hm:ms.length<=900000) (h:mV H out ms 128 (sI G R) q),Call (d+6) 69 [.ref a.p,.ref out] (H.out out ms) q
theorem KD:@xZ d H a G R q out ms:=ao (S:=λx:(Nat×Hp×Ad×aE)×(Rw×(V->Hp->Prop)×Addr×List Nat)=>@xZ x.1.1 x.1.2.1 x.1.2.2.1 x.1.2.2.2 x.2.1 x.2.2.1 x.2.2.2.1 x.2.2.2.2) (x:=((0,λ_=>none,jX,bN),(fC,λ_ _=>True,0,[]))) (by
 refine (?_:∀d H a G R q out ms,@xZ d H a G R q out ms) _ _ _ _ _ _ _ _;intro d H a G R q out ms w g o ho hm h;have w1:=w.mono (Hp.ax (o:=.list (av ms)) ho);have hc:=o.c2;refine ar rfl rfl ?_;refine aI ‹_› rfl ?_;refine bR (x:=2) (by decide) ?_;refine aI ‹_› rfl ?_;refine bR (x:=2) (by decide) ?_;refine p_add ?_;refine new_ (show 2<=lim by decide) λb hb=>?_;refine aD (Hp.none_of hb) λhb hn=>?_;refine gy (l:=[2*R.af,2*R.af+1]) hb (λρ'=>∃x1 x2 x3 x4 x5,ρ'=[some (.ref a.p),some (.ref out),x1,x2,x3,x4,x5]) (sI G R) 1 (show 2<=64 by decide) ⟨_,_,_,_,_,rfl⟩ (λs ms' ρ' K hs hE hm' hK=>?_) (λρ' ns _ hl hP=>?_)
 ·obtain ⟨x1,x2,x3,x4,x5,rfl⟩:=hE;have w2:=w.two ho (L:=av [2*R.af,2*R.af+1]) hb hn ms'
  have hs4:s<4/\s / 2=R.af:=by
   rcases RH.mp hs with rfl | hs
   ·lia
   ·rw [PC] at hs;subst hs;lia
  refine KG w2 g o hs4.1 (λr hr=>?_) (λkf kt rf rt hk=>?_)
  ·refine aR ?_;refine ag (λe=>absurd e hr) (λ_=>?_);have:=hK [some (.ref a.p),some (.ref out),some (nv s),x2,x3,x4,x5] [] ⟨_,_,_,_,_,rfl⟩ (Qc _) (λm hm=>absurd hm Qy);rw [QX] at this;exact this
  ·refine rQ (g.cw s kf kt rf rt hk.1) λb1 b2 b3 b4 b5=>?_;have h25:=g.iW;refine aR ?_;refine ag (λ_=>?_) (λe=>absurd rfl e);refine aI ‹_› rfl ?_;refine eQ ‹_› rfl ?_;refine vv w2 g hs4.1 ?_;rw [hk.1];refine mM rfl ?_;refine ⟨gJ (by rw [Hp.ay (Ne.symm hb)];exact Hp.ai ..),?_⟩;refine BM (o:=kf) (t:=kt) (sp:=3) (pr:=0) (f:=0) (by exact fX ‹_› ‹_› (by rfl)) (by exact fX ‹_› ‹_› (by rfl)) (by decide) (by decide) (λe=>absurd e (by decide)) (λ_=>rfl) ?_;refine (sD hb (by show _<1000000;lia) ?_).2;refine aQ ?_
   exact hK _ [pk kf kt 3 0] ⟨_,_,_,_,_,rfl⟩ (Pt 1) λm hm=>by rw [PC] at hm;subst hm;exact ⟨s,kf,kt,rf,rt,rfl,hs4.2,hk⟩
 ·exact dk _ (fH hb hn _) (h ns (by exact Pb ‹_› (by decide)) hP)) ((d,H,a,G),(R,q,out,ms))
theorem KC (hx:x<64) (hy:y<2^64) (ho:H out=none) (hm:ms.length<=900000) (h:mV H out ms 64 (λm=>∃t,m=pk x t 0 0/\y.testBit t=true) q):Call (d+2) 70 [nv x,nv y,.ref out] (H.out out ms) q:=by
 refine ar rfl rfl ?_;refine qA hy λl hl hll b hb=>?_;refine aD (Hp.none_of hb) λhb hn=>?_;refine gy (l:=l) hb (λρ'=>∃z,ρ'=[some (nv x),some (nv y),some (.ref out),z]) (λm=>∃t,m=pk x t 0 0/\y.testBit t=true) 1 hll ⟨_,rfl⟩ (λs ms' ρ' K hs hE hm' hK=>?_) (λρ' ns _ hl hP=>?_)
 ·refine bI hE ?_;rintro z rfl;have hs':=(hl s).mp hs;have h64:=dD hy hs';refine ⟨gJ (by rw [Hp.ay (Ne.symm hb)];exact Hp.ai ..),?_⟩;refine BM (sp:=0) (pr:=0) (f:=0) hx h64 (by decide) (by decide) (λe=>absurd e (by decide)) (λ_=>rfl) ?_;refine (sD hb (by show _<1000000;lia) ?_).2;refine aQ ?_
  exact hK _ [pk x s 0 0] ⟨_,rfl⟩ (Pt 1) λm hm=>by rw [PC] at hm;subst hm;exact ⟨s,rfl,hs'⟩
 ·exact dk _ (fH hb hn _) (h ns ‹_› hP)
def xY:Prop:=∀(w:W H a G R) (g:cq G) (o:dO G R) (hk:k<7) (ht:tgt<2^G.size) (ho:H out=none) (hm:ms.length<=800000) (h:mV H out ms 4096 (yK G R k tgt) q),Call (d+7) 71 [.ref a.p,nv k,nv tgt,.ref out] (H.out out ms) q
theorem D6:@xY d k tgt H a G R q out ms:=ao (S:=λx:(Nat×Nat×Nat×Hp)×(Ad×aE×Rw×(V->Hp->Prop))×(Addr×List Nat)=>@xY x.1.1 x.1.2.1 x.1.2.2.1 x.1.2.2.2 x.2.1.1 x.2.1.2.1 x.2.1.2.2.1 x.2.1.2.2.2 x.2.2.1 x.2.2.2) (x:=((0,0,0,λ_=>none),(jX,bN,fC,λ_ _=>True),(0,[]))) (by
 refine (?_:∀d k tgt H a G R q out ms,@xY d k tgt H a G R q out ms) _ _ _ _ _ _ _ _ _ _;intro d k tgt H a G R q out ms w g o hk ht ho hm h;have w1:=w.mono (Hp.ax (o:=.list (av ms)) ho);have hc:=o.c2;have h25:=g.iW;refine ar rfl rfl ?_;refine Ec w1 o ?_;refine aI ‹_› rfl ?_;refine AR w1 o hc hk ?_;refine qA (g.te (cX (o.kb k))) λl hl hll b hb=>?_;refine aD (Hp.none_of hb) λhb hn=>?_;refine gy (l:=l) hb (λρ'=>∃z1 z2,ρ'=[some (.ref a.p),some (nv k),some (nv tgt),some (.ref out),some (nv (eL R)),z1,z2]) (yK G R k tgt) 64 hll ⟨_,_,rfl⟩ (λs ms' ρ' K hs hE hm' hK=>?_) (λρ' ns _ hl hP=>?_)
 ·refine AJ hE ?_;rintro z1 z2 rfl;have hs':=(hl s).mp hs;have hsz:=dD (cX (o.kb k)) hs';have w2:=w.two ho (L:=av l) hb hn ms';refine aI ‹_› rfl ?_;refine aI ‹_› rfl ?_;refine KV w2 g hc hsz ?_;refine aS ?_;have e:(H.out out ms').upd b (.list (av l))=(H.upd b (.list (av l))).out out ms':=Hp.bt _ _ _ (Ne.symm hb);rw [e];refine KC (by exact fX ‹_› ‹_› (by rfl)) (g.te (cX ht)) (by rw [Hp.ay (Ne.symm hb)];exact ho) (by lia) λns hns hP=>?_;rw [show (H.upd b (.list (av l))).out out (ms'++ns)=(H.out out (ms'++ns)).upd b (.list (av l)) from (Hp.bt _ _ _ (Ne.symm hb)).symm];refine aQ ?_;refine hK _ ns ⟨_,_,rfl⟩ hns λm hm=>?_;refine aq (hP m hm) λt e1 e2=>?_;exact ⟨s,t,e1,hs',(aC.mp e2).1,(aC.mp e2).2⟩
 ·exact dk _ (fH hb hn _) (h ns ‹_› hP)) ((d,k,tgt,H),(a,G,R,q),(out,ms))
theorem KA (w:W H a G R) (o:dO G R) (h:q (nv (eg G.full (Sd R R.af))) H):Call (d+2) 72 [.ref a.p,nv 2] H q:=by
 have hc:=o.c2;refine ar rfl rfl ?_;refine aR ?_;refine ag (λe=>absurd e (by decide)) λ_=>?_;refine aR ?_;refine ag (λe=>absurd e (by decide)) λ_=>?_;refine aI ‹_› rfl ?_;refine eQ ‹_› rfl ?_;refine aI ‹_› rfl ?_;refine aI ‹_› rfl ?_;refine eR ‹_› ‹_› ‹_› ?_;refine je ?_;refine gV ?_;refine aj ?_;exact h
theorem D5 (w:W H a G R) (hc:c<2) (h:q (.int (if c=0 then (G.aa:Int) else -(G.aa:Int))) H):Call (d+1) 73 [.ref a.g,nv c] H q:=by
 refine ar rfl rfl ?_;refine aR ?_;refine ag (λe=>?_) λe=>?_
 ·rw [Po e] at h;refine eQ ‹_› rfl ?_;refine aj ?_;exact h
 ·rw [Pf e] at h;refine eQ ‹_› rfl ?_;refine eM ?_;refine aj ?_;exact h
theorem Kz (w:W H a G R) (g:cq G) (hc:c<2) (h:q (nv (eV G c)) H):Call (d+1) 74 [.ref a.g,nv c] H q:=by
 have:=g.r0;refine ar rfl rfl ?_;refine aR ?_;refine ag (λe=>?_) λe=>?_
 ·refine eQ ‹_› rfl ?_;refine zf (s:=1) w g (by exact Pw ‹_›) ?_;refine aj ?_;unfold eV at h;rw [Po e] at h;exact h
 ·refine eQ ‹_› rfl ?_;refine eQ ‹_› rfl ?_;refine cC (y:=2) (by exact Pw ‹_›) ?_;refine zf w g (by exact s1 ‹_› (by rfl)) ?_;refine aj ?_;unfold eV at h;rw [Pf e] at h;exact h
theorem D4 (w:W H a G R) (g:cq G) (hc:c<2) (h:∀v:Nat,q (nv v) H):Call (d+1) 75 [.ref a.g,nv c] H q:=by
 have:=g.r0;refine ar rfl rfl ?_;refine aR ?_;refine ag (λe=>?_) λe=>?_
 ·refine eQ ‹_› rfl ?_;refine eQ ‹_› rfl ?_;refine cC (y:=1) (by exact Q5 ‹_›) ?_;refine zf w g (by exact s1 ‹_› (by rfl)) ?_;refine aj ?_;exact h _
 ·refine eQ ‹_› rfl ?_;refine zf (s:=0) w g (by exact Q5 ‹_›) ?_;refine aj ?_;exact h _
noncomputable def zy (G:aE) (b c:Nat):Nat:=if c=0 then b <<< G.aa &&& G.full else b >>> G.aa
theorem cq.qu (g:cq G):G.aa<=25:=by
 have h1:=g.iW;have h2:=g.r0;unfold aE.size at h1;have:=RZ G.aa (show 0<G.bD by exact Q5 ‹_›);exact Pb ‹_› ‹_›
theorem xX (w:W H a G R) (g:cq G) (hx:x<2^64) (h:q (nv (zy G x c)) H):Call (d+1) 76 [.ref a.g,nv x,nv c] H q:=by
 have:=g.qu;unfold zy at h;refine ar rfl rfl ?_;refine aR ?_;refine ag (λe=>?_) λe=>?_
 ·rw [Po e] at h;refine eQ ‹_› rfl ?_;refine gU (by exact Pb ‹_› (by decide)) hx ?_;refine eQ ‹_› rfl ?_;refine aS ?_;refine aj ?_;exact h
 ·rw [Pf e] at h;refine eQ ‹_› rfl ?_;refine cN ?_;refine aj ?_;exact h
theorem jF (hx:x<2^G.size):zy G x c<2^G.size:=by
 unfold zy;split
 ·exact cX (by unfold aE.full;exact Nat.sub_one_lt (P5 (QF _)))
 ·rw [PH];exact Pm (Sv ..) hx
noncomputable def IK (G:aE) (b c wg:Nat):Nat:=if wg=0 then zy G (eg b (G.fm.getD (G.aa-1) 0)) c <<< 1 else zy G (eg b (G.fm.getD 0 0)) c >>> 1
theorem Ky (w:W H a G R) (g:cq G) (hx:x<2^G.size) (h:q (nv (IK G x c y)) H):Call (d+2) 77 [.ref a.g,nv x,nv c,nv y] H q:=by
 have hf:=g.f0;unfold IK at h;refine ar rfl rfl ?_;refine aR ?_;refine ag (λe=>?_) λe=>?_
 ·rw [Po e] at h;refine eQ ‹_› rfl ?_;refine eQ ‹_› rfl ?_;refine cC (y:=1) (by exact Pw ‹_›) ?_;refine Fb w g (by exact s1 ‹_› (by rfl)) ?_;refine je ?_;refine gV ?_;refine xX w g (g.te (fM hx)) ?_;refine gU (y:=1) (by decide) (g.te (jF (fM hx))) ?_;refine aj ?_;exact h
 ·rw [Pf e] at h;refine eQ ‹_› rfl ?_;refine Fb (s:=0) w g (by exact Pw ‹_›) ?_;refine je ?_;refine gV ?_;refine xX w g (g.te (fM hx)) ?_;refine cN ?_;refine aj ?_;exact h
end
section
variable {d x y s c k oc tgt:Nat} {H:Hp} {a:Ad} {G:aE} {R:Rw} {q:V->Hp->Prop} {out:Addr} {ms:List Nat}
theorem lr (h:(zy G x c).testBit y=true) (hc:c<2):∃o,x.testBit o=true/\(c=0/\y=o+G.aa\/c=1/\o=y+G.aa):=by
 unfold zy at h;split at h
 ·rename_i e;rw [aC,RC,Pe,Pl] at h;exact ⟨y-G.aa,h.1.2,.inl ⟨e,by have:=h.1.1;exact (Rz ‹_›).symm⟩⟩
 ·rename_i e;rw [Ry] at h;exact ⟨G.aa+y,h,.inr ⟨by exact I7 ‹_› ‹_›,by exact RA _ _⟩⟩
theorem iy:G.full<2^G.size:=by unfold aE.full;exact Nat.sub_one_lt (P5 (QF _))
def Mr (G:aE) (R:Rw) (t:Nat):Prop:=∃o,(R.af=0/\t=o+G.aa\/R.af=1/\o=t+G.aa)/\fN R o/\¬(eL R).testBit t=true/\t<G.size
def O0 (G:aE) (R:Rw) (t:Nat):Prop:=∃o p,(R.af=0/\p=o+G.aa/\t=p+G.aa\/R.af=1/\o=p+G.aa/\p=t+G.aa)/\(fN R o/\(eV G R.af).testBit o=true)/\¬(eL R).testBit p=true/\¬(eL R).testBit t=true/\t<G.size/\p<G.size
theorem dr (o:dO G R) {s:Nat} (h:fN R s):s<G.size:=dD (cX (o.kb 1)) h
theorem Hl (w:W H a G R) (g:cq G) (o:dO G R) (h:∀ones twos,ones<2^G.size->twos<2^G.size->(∀t,ones.testBit t=true->Mr G R t)->(∀t,twos.testBit t=true->O0 G R t)->q (.tup [nv ones,nv twos]) H):Call (d+2) 78 [.ref a.p,nv R.af] H q:=by
 have hc:=o.c2;have hp:Sd R R.af &&& K R 1<2^G.size:=cX (o.kb 1);have he:∀{t:Nat},(eg G.full (eL R)).testBit t=true->¬(eL R).testBit t=true/\t<G.size:=λe=>⟨(iC.mp e).2,dD iy (iC.mp e).1⟩
 have p1:∀t,(zy G (Sd R R.af &&& K R 1) R.af &&& eg G.full (eL R)).testBit t=true->Mr G R t:=λt e=>by
  refine aq (lr (aC.mp e).1 hc) λo' a1 a2=>?_;refine aD (he (aC.mp e).2) λb1 b2=>?_;exact ⟨o',a2,a1,b1,b2⟩
 refine ar rfl rfl ?_;refine aI ‹_› rfl ?_;refine eQ ‹_› rfl ?_;refine Ec w o ?_;refine je ?_;refine gV ?_;refine AR (k:=1) w o hc (by decide) ?_;refine xX w g (g.te hp) ?_;refine aS ?_;refine eQ ‹_› rfl ?_;refine dd (λe=>?_) (λe=>?_)
 ·refine Kz w g hc ?_;refine aS ?_;refine xX w g (g.te (dw hp)) ?_;refine aS ?_;refine xX w g (g.te (dw (jF (dw hp)))) ?_;refine aS ?_;refine ⟨show 2<=1000 by decide,?_⟩;refine aj ?_;refine h _ _ (dw (jF hp)) (dw (jF (dw (jF (dw hp))))) p1 λt e=>?_;refine aq (lr (aC.mp e).1 hc) λp a1 a2=>?_;refine aD (he (aC.mp e).2) λb1 b2=>?_;refine aD (he (aC.mp a1).2) λc1 c2=>?_;refine aq (lr (aC.mp a1).1 hc) λo' d1 d2=>?_;refine ⟨o',p,?_,aC.mp d1,c1,b1,b2,c2⟩;rcases a2 with ⟨x1,x2⟩ | ⟨x1,x2⟩
  ·rcases d2 with ⟨y1,y2⟩ | ⟨y1,y2⟩
   ·exact .inl ⟨x1,y2,x2⟩
   ·lia
  ·rcases d2 with ⟨y1,y2⟩ | ⟨y1,y2⟩
   ·lia
   ·exact .inr ⟨x1,y2,x2⟩
 ·refine ⟨show 2<=1000 by decide,?_⟩;refine aj ?_
  exact h _ _ (dw (jF hp)) (QF _) p1 λt e=>by rw [Py] at e;cases e
theorem Hk {cp:Bool} (hx:x<64) (hy:y<64) (hs:2<=s) (ho:H out=none) (hm:ms.length<=900000) (h:mV H out ms 256 (λm=>∃f,f<4/\m=pk x y 1 f) q):Call (d+2) 79 [nv x,nv y,nv s,.bool cp,.ref out] (H.out out ms) q:=by
 refine ar rfl rfl ?_;refine ez ?_;refine ag (λ_=>?_) (λe=>absurd (show s≠1 by exact P5 ‹_›) e);refine ⟨gJ (Hp.ai ..),?_⟩;refine BM (sp:=1) (pr:=5) (f:=3) hx hy (by decide) (by decide) (λ_=>rfl) (λe=>absurd rfl e) ?_;refine (Lx (by show _<1000000;exact Pm ‹_› (by decide)) ?_).2;refine aQ ?_;refine aR ?_;refine ag (λe=>absurd (show s=0 from e) (by exact Qo ‹_›)) λ_=>?_;refine aR ?_;refine ag (λe=>absurd (show s=1 from e) ‹_›) λ_=>?_;refine o4 ?_;refine new_ (show 3<=lim by decide) λb hb=>?_;refine aD (Hp.none_of hb) λhb hn=>?_;refine gy (l:=[4,3,2]) hb (λρ'=>∃z,ρ'=[some (nv x),some (nv y),some (nv s),some (.bool cp),some (.ref out),some (.bool true),z]) (λm=>∃f,f<4/\m=pk x y 1 f) 1 (by decide) ⟨_,rfl⟩ (λv ms' ρ' K hv hE hm' hK=>?_) (λρ' ns _ hl hP=>?_)
 ·refine bI hE ?_;rintro z rfl
  have hv2:∃f,f<4/\v=f+2:=by
   have:v=4\/v=3\/v=2:=by simpa using hv
   exact ⟨v-2,by rcases ‹v=4\/v=3\/v=2› with rfl | rfl | rfl<;>decide,by rcases ‹v=4\/v=3\/v=2› with rfl | rfl | rfl<;>rfl⟩
  refine aq hv2 ?_;rintro f hf rfl;rw [Pg] at hm';simp only [RD] at hm';refine ⟨gJ (by rw [Hp.ay (Ne.symm hb)];exact Hp.ai ..),?_⟩;refine BM (sp:=1) (f:=f) hx hy (by decide) hf (λ_=>rfl) (λe=>absurd rfl e) ?_;refine (sD hb (by show _<1000000;lia) ?_).2;refine aQ ?_
  exact hK _ [pk x y 1 f] ⟨_,rfl⟩ (Pt 1) λm hm=>by rw [PC] at hm;exact ⟨f,hf,hm⟩
 ·refine dk _ (fH hb hn _) ?_;rw [Pr];refine h ([pk x y 1 3]++ns) (by rw [Pg];simp only [RD];exact Pb (Qe ‹_› _) (by decide)) λm hm=>?_;rcases PZ.mp hm with q | q
  ·rw [PC] at q;exact ⟨3,by decide,q⟩
  ·exact hP m q
noncomputable def B9 (G:aE) (R:Rw):Int:=if R.af=0 then (G.aa:Int) else -(G.aa:Int)
theorem Fm {o t:Nat} (h:R.af=0/\t=o+G.aa\/R.af=1/\o=t+G.aa):(t:Int) -B9 G R=(o:Int):=by
 unfold B9;split<;>lia
theorem Jk {o p t:Nat} (h:R.af=0/\p=o+G.aa/\t=p+G.aa\/R.af=1/\o=p+G.aa/\p=t+G.aa):(t:Int) -2*B9 G R=(o:Int):=by
 unfold B9;split<;>lia
def xW:Prop:=∀(w:W H a G R) (g:cq G) (o:dO G R) (ht:tgt<2^G.size) (ho:H out=none) (hm:ms.length<=800000) (h:mV H out ms 128 (gi G R tgt) q),Call (d+3) 80 [.ref a.p,nv tgt,.ref out] (H.out out ms) q
theorem Kx:@xW d tgt H a G R q out ms:=ao (S:=λx:(Nat×Nat×Hp×Ad)×(aE×Rw×(V->Hp->Prop)×Addr)×List Nat=>@xW x.1.1 x.1.2.1 x.1.2.2.1 x.1.2.2.2 x.2.1.1 x.2.1.2.1 x.2.1.2.2.1 x.2.1.2.2.2 x.2.2) (x:=((0,0,λ_=>none,jX),(bN,fC,λ_ _=>True,0),[])) (by
 refine (?_:∀d tgt H a G R q out ms,@xW d tgt H a G R q out ms) _ _ _ _ _ _ _ _ _;intro d tgt H a G R q out ms w g o ht ho hm h;have w1:=w.mono (Hp.ax (o:=.list (av ms)) ho);have hc:=o.c2;have h25:=g.iW;have qu:=g.qu;refine ar rfl rfl ?_;refine aI ‹_› rfl ?_;refine aI ‹_› rfl ?_;refine D5 w1 hc ?_;refine aI ‹_› rfl ?_;refine Hl w1 g o λones twos o1 o2 hp1 hp2=>?_;refine mM rfl ?_;refine aS ?_;refine aI ‹_› rfl ?_;refine D4 w1 g hc λv=>?_;refine je ?_;refine gV ?_;refine qA (g.te (fM (dw o1))) λl hl hll b hb=>?_;refine aD (Hp.none_of hb) λhb hn=>?_;refine gy (l:=l) hb (λρ'=>∃z,ρ'=[some (.ref a.p),some (nv tgt),some (.ref out),some (.ref a.g),some (.int (B9 G R)),some (nv ones),some (nv twos),z]) (gi G R tgt) 1 hll ⟨_,rfl⟩ (λs ms' ρ' K hs hE hm' hK=>?_) (λρ' ns hE hl2 hP=>?_)
 ·refine bI hE ?_;rintro z rfl;have hs':=(hl s).mp hs;refine GZ (hp1 s (aC.mp (iC.mp hs').1).1) λo' e1 e2 e3 e4=>?_;have ho':=dr o e2;refine ⟨gJ (by rw [Hp.ay (Ne.symm hb)];exact Hp.ai ..),?_⟩;refine c8 ?_;rw [Fm e1];refine BM (sp:=0) (pr:=0) (f:=0) (by exact fX ‹_› ‹_› (by rfl)) (by exact fX ‹_› ‹_› (by rfl)) (by decide) (by decide) (λe=>absurd e (by decide)) (λ_=>rfl) ?_;refine (sD hb (by show _<1000000;lia) ?_).2;refine aQ ?_
  exact hK _ [pk o' s 0 0] ⟨_,rfl⟩ (Pt 1) λm hm=>by rw [PC] at hm;subst hm;exact .inl ⟨o',s,0,0,rfl,by decide,.inl ⟨rfl,rfl⟩,e1,e2,e3,e4,(aC.mp (iC.mp hs').1).2⟩
 ·refine bI hE ?_;rintro z rfl;refine aS ?_;refine qA (g.te (dw o2)) λl2 hl' hll' b2 hb2=>?_;refine aD (Hp.none_of hb2) λhb2 hn2=>?_;refine aD (Hp.none_of hn2) λhb3 hn3=>?_
  have e0:((H.out out (ms++ns)).upd b (.list (av l))).upd b2 (.list (av l2))=((H.upd b (.list (av l))).out out (ms++ns)).upd b2 (.list (av l2)):=by rw [Hp.bt _ _ _ (Ne.symm hb)]
  rw [e0];refine gy (l:=l2) hb3 (λρ'=>∃z,ρ'=[some (.ref a.p),some (nv tgt),some (.ref out),some (.ref a.g),some (.int (B9 G R)),some (nv ones),some (nv twos),z]) (gi G R tgt) 1 hll' ⟨_,rfl⟩ (λs ms' ρ' K hs hE hm' hK=>?_) (λρ' ns2 hE hl3 hP2=>?_)
  ·refine bI hE ?_;rintro z rfl;have hs':=(hl' s).mp hs;refine DW (hp2 s (aC.mp hs').1) λo' p e1 e2 e3 e4 e5 e6=>?_;have ho':=dr o e2.1;rw [Pg] at hm';refine ⟨gJ (by rw [Hp.ay (Ne.symm hb3)];exact Hp.ai ..),?_⟩;refine wc (x:=2) (by decide) ?_;refine c8 ?_;rw [Jk e1];refine BM (sp:=0) (pr:=0) (f:=0) (by exact fX ‹_› ‹_› (by rfl)) (by exact fX ‹_› ‹_› (by rfl)) (by decide) (by decide) (λe=>absurd e (by decide)) (λ_=>rfl) ?_;refine (sD hb3 (by show _<1000000;lia) ?_).2;refine aQ ?_
   exact hK _ [pk o' s 0 0] ⟨_,rfl⟩ (Pt 1) λm hm=>by rw [PC] at hm;subst hm;exact .inr (.inl ⟨o',p,s,rfl,e1,e2,e3,e4,e5,e6,(aC.mp hs').2⟩)
  ·refine dk (H.out out (ms++ (ns++ns2))) ?_ (h (ns++ns2) (by rw [Pg];exact Pb (Rd ‹_› ‹_›) (by decide)) λm hm=>(PZ.mp hm).elim (hP m) (hP2 m));rw [Pr];have e1:(H.upd b (.list (av l))).out out (ms++ (ns++ns2))=(H.out out (ms++ (ns++ns2))).upd b (.list (av l)):=Hp.bt _ _ _ hb
   have s2:((H.out out (ms++ (ns++ns2))).upd b (.list (av l))).Sub (((H.upd b (.list (av l))).out out (ms++ (ns++ns2))).upd b2 (.list (av l2))):=by
    rw [<- e1];exact Hp.ax ((Hp.ay hb3).trans ((Hp.ay hb2).trans hn3))
   exact Hp.Sub.trans (fH hb hn _) s2) ((d,tgt,H,a),(G,R,q,out),ms)
def xV:Prop:=∀(w:W H a G R) (g:cq G) (o:dO G R) (hst:2<=s) (ht:tgt<2^G.size) (ho:H out=none) (hm:ms.length<=800000) (h:mV H out ms 16384 (gi G R tgt) q),Call (d+3) 81 [.ref a.p,nv s,nv tgt,.ref out] (H.out out ms) q
theorem Kw:@xV d s tgt H a G R q out ms:=ao (S:=λx:(Nat×Nat×Nat×Hp)×(Ad×aE×Rw×(V->Hp->Prop))×(Addr×List Nat)=>@xV x.1.1 x.1.2.1 x.1.2.2.1 x.1.2.2.2 x.2.1.1 x.2.1.2.1 x.2.1.2.2.1 x.2.1.2.2.2 x.2.2.1 x.2.2.2) (x:=((0,0,0,λ_=>none),(jX,bN,fC,λ_ _=>True),(0,[]))) (by
 refine (?_:∀d s tgt H a G R q out ms,@xV d s tgt H a G R q out ms) _ _ _ _ _ _ _ _ _ _;intro d s tgt H a G R q out ms w g o hst ht ho hm h;have w1:=w.mono (Hp.ax (o:=.list (av ms)) ho);have hc:=o.c2;have h25:=g.iW;refine ar rfl rfl ?_;refine aI ‹_› rfl ?_;refine aI ‹_› rfl ?_;refine D5 w1 hc ?_;refine aI ‹_› rfl ?_;refine Hl w1 g o λones twos o1 o2 hp1 hp2=>?_;refine dR (i:=0) rfl ?_;refine aS ?_;refine aI ‹_› rfl ?_;refine D4 w1 g hc λv=>?_;refine aS ?_;refine qA (g.te (dw (dw o1))) λl hl hll b hb=>?_;refine aD (Hp.none_of hb) λhb hn=>?_;refine gy (l:=l) hb (λρ'=>∃z,ρ'=[some (.ref a.p),some (nv s),some (nv tgt),some (.ref out),some (.ref a.g),some (.int (B9 G R)),some (nv ones),z]) (gi G R tgt) 256 hll ⟨_,rfl⟩ (λv' ms' ρ' K hs hE hm' hK=>?_) (λρ' ns hE hl2 hP=>?_)
 ·refine bI hE ?_;rintro z rfl;have hs':=(hl v').mp hs;refine GZ (hp1 v' (aC.mp (aC.mp hs').1).1) λo' e1 e2 e3 e4=>?_;have ho':=dr o e2;refine c8 ?_;rw [Fm e1];have e:(H.out out ms').upd b (.list (av l))=(H.upd b (.list (av l))).out out ms':=Hp.bt _ _ _ (Ne.symm hb);rw [e];refine Hk (by exact fX ‹_› ‹_› (by rfl)) (by exact fX ‹_› ‹_› (by rfl)) hst (by rw [Hp.ay (Ne.symm hb)];exact ho) (by lia) λns hns hP=>?_;rw [show (H.upd b (.list (av l))).out out (ms'++ns)=(H.out out (ms'++ns)).upd b (.list (av l)) from (Hp.bt _ _ _ (Ne.symm hb)).symm];refine aQ ?_;refine hK _ ns ⟨_,rfl⟩ hns λm hm=>?_;refine aq (hP m hm) ?_;rintro f f4 rfl;exact .inl ⟨o',v',1,f,rfl,f4,.inr rfl,e1,e2,e3,e4,(aC.mp (aC.mp hs').1).2⟩
 ·exact dk _ (fH hb hn _) (h ns ‹_› hP)) ((d,s,tgt,H),(a,G,R,q),(out,ms))
end
section
variable {d x y s c k oc tgt:Nat} {H:Hp} {a:Ad} {G:aE} {R:Rw} {q:V->Hp->Prop} {out:Addr} {ms:List Nat}
theorem B7 (h:(IK G x c s).testBit y=true) (hc:c<2) (hs:s<2):∃o,x.testBit o=true/\sJ G c o y/\(y:Int) - ((if c=0 then (G.aa:Int) else -(G.aa:Int))+1-2*s)=o:=by
 unfold IK at h;split at h
 ·rename_i e;subst e;rw [RC,Pe,Pl] at h;refine aq (lr h.2 hc) λo h1 h2=>?_;have h3:=iC.mp h1;refine ⟨o,h3.1,.inl ⟨h3.2,?_⟩,?_⟩
  ·exact Mn h.1 h2
  ·have:=Mn h.1 h2;clear h h1 h2 h3;split<;>lia
 ·rename_i e
  obtain rfl:s=1:=by exact I7 ‹_› ‹_›
  rw [Ry] at h;refine aq (lr h hc) λo h1 h2=>?_;have h3:=iC.mp h1;refine ⟨o,h3.1,.inr ⟨h3.2,?_⟩,?_⟩
  ·lia
  ·clear h h1 h3;split<;>lia
theorem Hp.Je (H:Hp) {a b c:Addr} (x y z:Ob) (h1:a≠b) (h2:a≠c) (h3:b≠c):((H.upd a x).upd b y).upd c z=((H.upd c z).upd b y).upd a x:=by
 rw [Hp.bt H x y h1,Hp.bt (H.upd b y) x z h2,Hp.bt H y z h3]
theorem i3 {H H':Hp} (h:H.Sub H') (X:List Nat):(H.out out X).Sub (H'.out out X):=λb p e=>by
 have e':(H.upd out (.list (av X))) b=some p:=e;show (H'.upd out (.list (av X))) b=some p;by_cases k:b=out
 ·subst k;rw [Hp.ai] at e' ⊢;exact e'
 ·rw [Hp.ay k] at e' ⊢;exact h b p e'
def xU:Prop:=∀(w:W H a G R) (g:cq G) (o:dO G R) (hst:2<=s) (ht:tgt<2^G.size) (ho:H out=none) (hm:ms.length<=700000) (h:mV H out ms 40000 (I4 G R tgt) q),Call (d+3) 82 [.ref a.p,nv s,nv tgt,.ref out] (H.out out ms) q
theorem Kv:@xU d s tgt H a G R q out ms:=ao (S:=λx:(Nat×Nat×Nat×Hp)×(Ad×aE×Rw×(V->Hp->Prop))×(Addr×List Nat)=>@xU x.1.1 x.1.2.1 x.1.2.2.1 x.1.2.2.2 x.2.1.1 x.2.1.2.1 x.2.1.2.2.1 x.2.1.2.2.2 x.2.2.1 x.2.2.2) (x:=((0,0,0,λ_=>none),(jX,bN,fC,λ_ _=>True),(0,[]))) (by
 refine (?_:∀d s tgt H a G R q out ms,@xU d s tgt H a G R q out ms) _ _ _ _ _ _ _ _ _ _;intro d s tgt H a G R q out ms w g o hst ht ho hm h;have w1:=w.mono (Hp.ax (o:=.list (av ms)) ho);have hc:=o.c2;have h25:=g.iW;have hp:Sd R R.af &&& K R 1<2^G.size:=cX (o.kb 1);have h1:1-R.af<2:=pT;refine ar rfl rfl ?_;refine aI ‹_› rfl ?_;refine aI ‹_› rfl ?_;refine D4 w1 g hc λlast=>?_;refine AR (k:=1) w1 o hc (by decide) ?_;refine aI ‹_› rfl ?_;refine dt ‹_› ?_;refine eR ‹_› ‹_› ‹_› ?_;refine aS ?_;refine new_ (show 2<=lim by decide) λb hb=>?_;refine aD (Hp.none_of hb) λhb hn=>?_
 refine forL (Hp.ai ..) (λn ρ' H'=>(∃z1 z2 z3,ρ'=[some (.ref a.p),some (nv s),some (nv tgt),some (.ref out),some (.ref a.g),some (nv R.af),some (nv last),some (nv (Sd R R.af &&& K R 1)),some (nv (tgt &&& Sd R (1-R.af))),z1,z2,z3])/\∃ns Hx,ns.length<=n*16384/\(∀m∈ns,I4 G R tgt m)/\
  H.Sub Hx/\Hx out=none/\Hx b=none/\H'=(Hx.out out (ms++ns)).upd b (.list (av [0,1]))) (λn v ρ' H' K0 hv hI hK _ _=>?_) (λρ' H' hI=>?_) ⟨⟨_,_,_,rfl⟩,[],H,Qc _,λm hm=>absurd hm Qy,Hp.Sub.refl H,ho,hn,by rw [QX];rfl⟩
 ·obtain ⟨⟨z1,z2,z3,rfl⟩,ns,Hx,hns,hP,hsub,hox,hbx,rfl⟩:=hI
  have hn2:n<2/\v=nv n:=by
   match n,hv with
   | 0,hv=>exact ⟨by decide,(Option.some.inj hv).symm⟩
   | 1,hv=>exact ⟨by decide,(Option.some.inj hv).symm⟩
   | n+2,hv=>cases hv
  obtain ⟨hn2,rfl⟩:=hn2;have w2:=(w.mono hsub).two hox (L:=av [0,1]) hb hbx (ms++ns);refine ⟨Hp.ai ..,?_⟩;refine D5 w2 hc ?_;refine gW (y:=1) ?_;refine bR (x:=2) (by decide) ?_;refine c8 ?_;refine Ky w2 g hp ?_;refine aS ?_;refine qA (g.te (cX (cX (o.sb _)))) λl hl hll b2 hb2=>?_;refine aD (Hp.none_of hb2) λhb2 hn3=>?_;refine aD (Hp.none_of hn3) λhb3 hn4=>?_
  have e0:((Hx.out out (ms++ns)).upd b (.list (av [0,1]))).upd b2 (.list (av l))=((Hx.upd b (.list (av [0,1]))).out out (ms++ns)).upd b2 (.list (av l)):=by rw [Hp.bt _ _ _ (Ne.symm hb)]
  have hob:(Hx.upd b (.list (av [0,1]))) out=none:=(Hp.ay (Ne.symm hb)).trans hox;have hns':ns.length<=32768:=Pb hns (by lia);rw [e0];refine gy (l:=l) hb3 (λρ'=>∃z,ρ'=[some (.ref a.p),some (nv s),some (nv tgt),some (.ref out),some (.ref a.g),some (nv R.af),some (nv last),some (nv (Sd R R.af &&& K R 1)),some (nv (tgt &&& Sd R (1-R.af))),some (nv n),some (.int ((if R.af=0 then (G.aa:Int) else -(G.aa:Int))+1-2*n)),z]) (I4 G R tgt) 256 hll ⟨_,by push_cast;rfl⟩ (λv' ms' ρ' K2 hs hE hm' hK2=>?_) (λρ' ns2 hE hl3 hP2=>?_)
  ·refine bI hE ?_;rintro z rfl;have hs':=(hl v').mp hs;refine gK (B7 (aC.mp hs').1 hc hn2) λo' e1 e2 e3=>?_;have ho':=dr o e1;have hv':=dD (cX (o.sb _)) (aC.mp hs').2;have e4:=aC.mp (aC.mp hs').2;rw [Pg] at hm';refine b8 (by exact gw ‹_› ‹_› (by rfl)) ?_;refine aS ?_;refine dG (λe=>?_) (λe=>?_)
   ·refine c8 ?_;rw [e3];have e:((Hx.upd b (.list (av [0,1]))).out out ms').upd b2 (.list (av l))=((Hx.upd b (.list (av [0,1]))).upd b2 (.list (av l))).out out ms':=Hp.bt _ _ _ (Ne.symm hb3);rw [e];refine Hk (by exact fX ‹_› ‹_› (by rfl)) (by exact fX ‹_› ‹_› (by rfl)) hst (by rw [Hp.ay (Ne.symm hb3)];exact hob) (by lia) λns hns hP=>?_;rw [show ((Hx.upd b (.list (av [0,1]))).upd b2 (.list (av l))).out out (ms'++ns)=((Hx.upd b (.list (av [0,1]))).out out (ms'++ns)).upd b2 (.list (av l)) from (Hp.bt _ _ _ (Ne.symm hb3)).symm];refine aQ ?_;refine hK2 _ ns ⟨_,rfl⟩ hns λm hm=>?_;refine aq (hP m hm) ?_;rintro f f4 rfl;exact ⟨o',v',1,f,rfl,f4,.inr rfl,e2,e1,e4.2,e4.1⟩
   ·refine ⟨gJ (by rw [Hp.ay (Ne.symm hb3)];exact Hp.ai ..),?_⟩;refine c8 ?_;rw [e3];refine BM (sp:=0) (pr:=0) (f:=0) (by exact fX ‹_› ‹_› (by rfl)) (by exact fX ‹_› ‹_› (by rfl)) (by decide) (by decide) (λe=>absurd e (by decide)) (λ_=>rfl) ?_;refine (sD hb3 (by show _<1000000;lia) ?_).2;refine aQ ?_
    exact hK2 _ [pk o' v' 0 0] ⟨_,rfl⟩ (show 1<=256 by decide) λm hm=>by rw [PC] at hm;subst hm;exact ⟨o',v',0,0,rfl,by decide,.inl ⟨rfl,rfl⟩,e2,e1,e4.2,e4.1⟩
  ·refine bI hE ?_;rintro z rfl;refine hK _ _ ⟨⟨_,_,_,rfl⟩,ns++ns2,Hx.upd b2 (.list (av l)),by rw [Pg];lia,λm hm=>(PZ.mp hm).elim (hP m) (hP2 m),hsub.trans (Hp.ax hn4),(Hp.ay (Ne.symm hb3)).trans hox,(Hp.ay (Ne.symm hb2)).trans hbx,?_⟩;rw [Pr];show ((Hx.upd b (.list (av [0,1]))).upd out (.list (av (ms++ (ns++ns2))))).upd b2 (.list (av l))=((Hx.upd b2 (.list (av l))).upd out (.list (av (ms++ (ns++ns2))))).upd b (.list (av [0,1]));exact Hp.Je _ _ _ _ hb (Ne.symm hb2) (Ne.symm hb3)
 ·obtain ⟨⟨z1,z2,z3,rfl⟩,ns,Hx,hns,hP,hsub,hox,hbx,rfl⟩:=hI;refine ⟨Hp.ai ..,?_⟩
  exact dk _ ((i3 hsub _).trans (fH hb hbx _)) (h ns (Pb hns (show 2*16384<=40000 by decide)) hP)) ((d,s,tgt,H),(a,G,R,q),(out,ms))
theorem Hj (w:W H a G R) (g:cq G) (o:dO G R) (hst:2<=s) (ht:tgt<2^G.size) (ho:H out=none) (hm:ms.length<=600000) (h:mV H out ms 60000 (gi G R tgt) q):Call (d+4) 83 [.ref a.p,nv s,nv tgt,.ref out] (H.out out ms) q:=by
 refine ar rfl rfl ?_;refine ez ?_;refine ag (λ_=>?_) (λe=>absurd (show s≠0 by exact Qo ‹_›) e);refine Kx w g o ht ho (by exact Pb ‹_› (by decide)) λns1 l1 p1=>?_;refine aQ ?_;refine Kw w g o hst ht ho (by rw [Pg];exact Pb (Rd ‹_› ‹_›) (by decide)) λns2 l2 p2=>?_;refine aQ ?_;refine ez ?_;refine ag (λ_=>?_) (λe=>absurd (show s≠1 by exact P5 ‹_›) e);refine Kv w g o hst ht ho (by rw [Pg,Pg];lia) λns3 l3 p3=>?_;refine aQ ?_;refine fJ ?_;rw [Pr,Pr];refine h (ns1++ (ns2++ns3)) (by rw [Pg,Pg];lia) λm hm=>?_;rcases PZ.mp hm with q | q
 ·exact p1 m q
 ·rcases PZ.mp q with q | q
  ·exact p2 m q
  ·exact .inr (.inr (p3 m q))
def xT:Prop:=∀(w:W H a G R) (g:cq G) (o:dO G R) (ho:H out=none) (hm:ms.length<=900000) (h:mV H out ms 64 (A8 G R) q),Call (d+2) 84 [.ref a.p,.ref out] (H.out out ms) q
theorem Hi:@xT d H a G R q out ms:=ao (S:=λx:(Nat×Hp×Ad×aE)×(Rw×(V->Hp->Prop)×Addr×List Nat)=>@xT x.1.1 x.1.2.1 x.1.2.2.1 x.1.2.2.2 x.2.1 x.2.2.1 x.2.2.2.1 x.2.2.2.2) (x:=((0,λ_=>none,jX,bN),(fC,λ_ _=>True,0,[]))) (by
 refine (?_:∀d H a G R q out ms,@xT d H a G R q out ms) _ _ _ _ _ _ _ _;intro d H a G R q out ms w g o ho hm h;have w1:=w.mono (Hp.ax (o:=.list (av ms)) ho);have hc:=o.c2;have h1:1-R.af<2:=pT;have h25:=g.iW;refine ar rfl rfl ?_;refine aI ‹_› rfl ?_;refine nQ ?_;refine ag (λe=>?_) (λe=>?_)
 ·refine aj ?_;have:=h [] (Qc _) (λm hm=>absurd hm Qy);rw [QX] at this;exact this
 ·refine bI (Q2 (show 0<=R.ep by have:=e;exact Int.not_lt.mp ‹_›)) λt ht=>?_
  have htz:t<G.size:=by have:=o.e1;lia
  refine aI ‹_› rfl ?_;refine eQ ‹_› rfl ?_;refine aI ‹_› rfl ?_;refine dt ‹_› ?_;refine oe ‹_› ‹_› ?_;refine aI ‹_› rfl ?_;rw [ht];refine zg w1 g h1 htz ?_;refine aI ‹_› rfl ?_;refine AR (k:=1) w1 o hc (by decide) ?_;refine aS ?_;refine qA (g.te (cX (cX (o.kb 1)))) λl hl hll b hb=>?_;refine aD (Hp.none_of hb) λhb hn=>?_;refine gy (l:=l) hb (λρ'=>∃z,ρ'=[some (.ref a.p),some (.ref out),some (nv (cm G (1-R.af) t &&& (Sd R R.af &&& K R 1))),z]) (A8 G R) 1 hll ⟨_,rfl⟩ (λv' ms' ρ' K2 hs hE hm' hK2=>?_) (λρ' ns2 hE hl3 hP2=>?_)
  ·refine bI hE ?_;rintro z rfl;have hs':=aC.mp ((hl v').mp hs);have ho':=dr o hs'.2;have w2:=w.two ho (L:=av l) hb hn ms';refine ⟨gJ (by rw [Hp.ay (Ne.symm hb)];exact Hp.ai ..),?_⟩;refine aI ‹_› rfl ?_;rw [ht];refine BM (sp:=2) (pr:=0) (f:=0) (by exact fX ‹_› ‹_› (by rfl)) (by exact fX ‹_› ‹_› (by rfl)) (by decide) (by decide) (λe=>absurd e (by decide)) (λ_=>rfl) ?_;refine (sD hb (by show _<1000000;lia) ?_).2;refine aQ ?_
   exact hK2 _ [pk v' t 2 0] ⟨_,rfl⟩ (Pt 1) λm hm=>by rw [PC] at hm;subst hm;exact ⟨v',t,rfl,ht,hs'.1,hs'.2⟩
  ·exact dk _ (fH hb hn _) (h ns2 ‹_› hP2)) ((d,H,a,G),(R,q,out,ms))
theorem pD (g:cq G):a7 G x y<2^G.size:=by
 unfold a7;split
 ·exact QF _
 ·exact cX (g.rb _ _)
theorem Ku (w:W H a G R) (g:cq G) (o:dO G R) (kk:dg G R R.af k) (hx:x<2^G.size) (h0:q (nv 0) H) (h:∀s,x=2^s->q (nv (x ||| a7 G k s)) H):Call (d+4) 85 [.ref a.p,nv x] H q:=by
 have hc:=o.c2;have h25:=g.iW;refine ar rfl rfl ?_;refine aR ?_;refine ag (λe=>?_) (λe=>?_)
 ·refine ag (λ_=>?_) (λk=>absurd e k);refine aj ?_;exact h0
 ·refine HC e ?_;refine ag (λe2=>?_) (λe2=>?_)
  ·refine aj ?_;exact h0
  ·refine bI (z4 e (PR.mp e2)) λs hs=>?_;have hsz:s<G.size:=dD hx (by rw [hs,Nat.testBit_two_pow_self]);refine aI ‹_› rfl ?_;refine aI ‹_› rfl ?_;refine rZ w g o hc kk ?_;rw [hs];refine HB (by exact fX ‹_› ‹_› (by rfl)) ?_;refine Ho w g kk.2 hsz ?_;refine cT ?_;refine aj ?_;rw [<- hs];exact h s hs
theorem Ks (w:W H a G R) (g:cq G) (o:dO G R) {t:Nat} (ht:R.ep=t) (h:q (nv (if R.af=0 then t-G.aa else t+G.aa)) H):Call (d+1) 86 [.ref a.p] H q:=by
 have hf:=(o.ef (by lia)).1;refine ar rfl rfl ?_;refine aI ‹_› rfl ?_;refine aR ?_;refine ag (λe=>?_) (λe=>?_)
 ·rw [Po e] at h;refine aI ‹_› rfl ?_;refine aI ‹_› rfl ?_;refine eQ ‹_› rfl ?_;rw [ht];refine cC (by lia) ?_;refine aj ?_;exact h
 ·rw [Pf e] at h;refine aI ‹_› rfl ?_;refine aI ‹_› rfl ?_;refine eQ ‹_› rfl ?_;rw [ht];refine p_add ?_;refine aj ?_;exact h
theorem Kr (w:W H a G R) (g:cq G) (o:dO G R) (h:∀b,q (.bool b) H):Call (d+2) 87 [.ref a.p,nv x] H q:=by
 have h25:=g.iW;have qu:=g.qu;refine ar rfl rfl ?_;refine aI ‹_› rfl ?_;refine nQ ?_;refine ag (λe=>?_) (λe=>?_)
 ·refine aj ?_;exact h _
 ·refine bI (Q2 (show 0<=R.ep by have:=e;exact Int.not_lt.mp ‹_›)) λt ht=>?_
  have htz:t<G.size:=by have:=o.e1;lia
  refine aI ‹_› rfl ?_;rw [ht];refine b8 (by exact gw ‹_› ‹_› (by rfl)) ?_;refine Ks w g o ht ?_;refine b8 (by split<;>lia) ?_;refine cT ?_;refine aS ?_;refine ez ?_;refine aj ?_;exact h _
def sH (G:aE) (R:Rw) (k m:Nat):Prop:=
 (∃s,fb G R k (eL R) &&& Sd R (1-R.af)=2^s/\(gi G R (2^s ||| a7 G k s) m\/A8 G R m\/∃kd,2<=kd/\kd<=5/\yK G R kd (2^s ||| a7 G k s) m))\/yK G R 6 (eg G.full (Sd R R.af)) m
def EM (G:aE) (R:Rw) (m:Nat):Prop:=
 gi G R G.full m\/A8 G R m\/(∃kd,2<=kd/\kd<=6/\yK G R kd (eg G.full (Sd R R.af)) m)\/sI G R m
theorem qs {body:Lc->Hp->(Fl->Lc->Hp->Prop)->Prop} {i:Nat} {ρ:Lc} {Q:Fl->Lc->Hp->Prop} {b:Addr} {l:List Nat} {n:Nat} (hb:b≠out) (hn:H b=none) (E:Lc->Prop) (P:Nat->Prop) (c:Nat) (hl:l.length<=n) (hE:E ρ)
 (step:∀kd ms' ρ' K0,kd∈l->E ρ'->ms'.length<=ms.length+n*c->(∀ρ'' ns,E ρ''->ns.length<=c->(∀m∈ns,P m)->K0 Fl.next ρ'' ((H.upd b (.list (av l))).out out (ms'++ns)))->body (cR ρ' i (nv kd)) ((H.upd b (.list (av l))).out out ms') K0)
 (fin:∀ρ'' ns,E ρ''->ns.length<=n*c->(∀m∈ns,P m)->Q .next ρ'' ((H.upd b (.list (av l))).out out (ms++ns))) :
 fg body i (.ref b) ρ ((H.upd b (.list (av l))).out out ms) Q:=by
 have at_:∀X:List Nat,((H.upd b (.list (av l))).out out X) b=some (.list (av l)):=λX=>(Hp.ay hb).trans (Hp.ai ..);refine forL (at_ _) (λj ρ' H'=>E ρ'/\∃ns,ns.length<=j*c/\(∀m∈ns,P m)/\H'=(H.upd b (.list (av l))).out out (ms++ns)) (λj v ρ' H' K0 hv hI hn _ _=>?_) (λρ' H' hI=>?_) ⟨hE,[],Qc _,λm hm=>absurd hm Qy,by rw [QX]⟩
 ·obtain ⟨hE,ns,hns,hP,rfl⟩:=hI;refine ⟨at_ _,?_⟩;refine aD (ju rfl hv) ?_;rintro hk rfl;have h1:j*c<=n*c:=P7 c (by exact Pw (Pa ‹_› ‹_›));refine step (l.getD j 0) (ms++ns) ρ' K0 ?_ hE (by rw [Pg];lia) λρ'' ns' hE' hns' hP'=>hn _ _ ⟨hE',ns++ns',by rw [Pg,SS];exact Rd ‹_› ‹_›,λm hm=>(PZ.mp hm).elim (hP m) (hP' m),by rw [Pr]⟩;rw [Pc,Pk hk];exact Rb hk
 ·obtain ⟨hE,ns,hns,hP,rfl⟩:=hI;rw [Ph] at hns;exact ⟨at_ _,fin _ _ hE (Pb hns (P7 c hl)) hP⟩
def xS:Prop:=∀(w:W H a G R) (g:cq G) (o:dO G R) (kk:dg G R R.af k) (ho:H out=none) (hm:ms.length<=100) (h:mV H out ms 90000 (sH G R k) q),Call (d+9) 88 [.ref a.p,.ref out] (H.out out ms) q
theorem Kq:@xS d k H a G R q out ms:=ao (S:=λx:(Nat×Nat×Hp×Ad)×(aE×Rw×(V->Hp->Prop)×Addr)×List Nat=>@xS x.1.1 x.1.2.1 x.1.2.2.1 x.1.2.2.2 x.2.1.1 x.2.1.2.1 x.2.1.2.2.1 x.2.1.2.2.2 x.2.2) (x:=((0,0,λ_=>none,jX),(bN,fC,λ_ _=>True,0),[])) (by
 refine (?_:∀d k H a G R q out ms,@xS d k H a G R q out ms) _ _ _ _ _ _ _ _ _;intro d k H a G R q out ms w g o kk ho hm h;have w1:=w.mono (Hp.ax (o:=.list (av ms)) ho);have hc:=o.c2;have hgl:fb G R k (eL R) &&& Sd R (1-R.af)<2^G.size:=cX (o.sb _);have hfl:eg G.full (Sd R R.af)<2^G.size:=fM iy
 have last:∀(Hx:Hp) (z:Option V) (tg:V) (ns:List Nat),H.Sub Hx->Hx out=none->ns.length<=80000->(∀m∈ns,sH G R k m)->
  aO (Call (d+8)) (.cons (.aG (.call 71 (.cons (.loc 0) (.cons (.bB 6) (.cons (.bin .and (.attr (.attr (.loc 0) 18) 7) (.inv (.sub (.attr (.loc 0) 22) (.attr (.loc 0) 3)))) (.cons (.loc 1) .nil)))))) .nil) [some (.ref a.p),some (.ref out),some tg,z] (Hx.out out (ms++ns)) (di q):=λHx z tg ns hs hx hl hP=>by
  have wx:=w.mono hs;have wx1:=wx.mono (Hp.ax (o:=.list (av (ms++ns))) hx);refine aI ‹_› rfl ?_;refine eQ ‹_› rfl ?_;refine aI ‹_› rfl ?_;refine aI ‹_› rfl ?_;refine eR ‹_› ‹_› ‹_› ?_;refine je ?_;refine gV ?_;refine D6 (k:=6) wx g o (by decide) hfl hx (by rw [Pg];exact Pb (Rd ‹_› ‹_›) (by decide)) λns2 l2 p2=>?_;refine aQ ?_;refine dk _ (i3 hs _) ?_;rw [Pr];exact h (ns++ns2) (by rw [Pg];exact Pb (Rd ‹_› ‹_›) (by decide)) λm hm=>(PZ.mp hm).elim (hP m) λk=>.inr (p2 m k)
 refine ar rfl rfl ?_;refine KP w1 g o kk ?_;refine Ku w1 g o kk hgl ?_ λs hs=>?_
 ·refine dG (λe=>absurd rfl e) λ_=>?_;have:=last H none (nv 0) [] (Hp.Sub.refl H) ho (Qc _) (λm hm=>absurd hm Qy);rw [QX] at this;exact this
 ·have htg:(fb G R k (eL R) &&& Sd R (1-R.af)) ||| a7 G k s<2^G.size:=Nat.or_lt_two_pow hgl (pD g);refine dG (λ_=>?_) λe=>?_
  ·refine Hj (s:=3) w g o (by decide) htg ho (by exact Pb ‹_› (by decide)) λns1 l1 p1=>?_;refine aQ ?_;refine Kr (w.mono (Hp.ax ho)) g o λb=>?_
   have tail:∀ns:List Nat,ns.length<=60064->(∀m∈ns,sH G R k m)->aO (Call (d+8)) (.cons (.cy 3 (.lst (.cons (.bB 2) (.cons (.bB 3) (.cons (.bB 4) (.cons (.bB 5) .nil))))) (.cons (.aG (.call 71 (.cons (.loc 0) (.cons (.loc 3) (.cons (.loc 2) (.cons (.loc 1) .nil)))))) .nil)) .nil)
    [some (.ref a.p),some (.ref out),some (nv ((fb G R k (eL R) &&& Sd R (1-R.af)) ||| a7 G k s)),none] (H.out out (ms++ns)) (λfl ρ H=>match fl with
     | .next=>aO (Call (d+8)) (.cons (.aG (.call 71 (.cons (.loc 0) (.cons (.bB 6) (.cons (.bin .and (.attr (.attr (.loc 0) 18) 7) (.inv (.sub (.attr (.loc 0) 22) (.attr (.loc 0) 3)))) (.cons (.loc 1) .nil)))))) .nil) ρ H (di q)
     | .brk=>di q .brk ρ H
     | .ret v=>di q (.ret v) ρ H):=λns hl hP=>by
    refine new_ (show 4<=lim by decide) λb hb=>?_;refine aD (Hp.none_of hb) λhb hn=>?_;rw [show (H.out out (ms++ns)).upd b (.list [V.int 2,V.int 3,V.int 4,V.int 5])=(H.upd b (.list (av [2,3,4,5]))).out out (ms++ns) from Hp.bt _ _ _ (Ne.symm hb)];refine qs (n:=4) hb hn (λρ'=>∃z,ρ'=[some (.ref a.p),some (.ref out),some (nv ((fb G R k (eL R) &&& Sd R (1-R.af)) ||| a7 G k s)),z]) (sH G R k) 4096 (by decide) ⟨_,rfl⟩ (λkd ms' ρ' K0 hk hE hm' hK=>?_) (λρ' ns2 hE hl2 hP2=>?_)
    ·refine bI hE ?_;rintro z rfl
     have hkd:2<=kd/\kd<=5:=by
      have:kd=2\/kd=3\/kd=4\/kd=5:=by simpa using hk
      exact OM this
     rw [Pg] at hm';refine D6 (w.mono (Hp.ax hn)) g o (by exact lB (And.right ‹_›) (by rfl)) htg ((Hp.ay (Ne.symm hb)).trans ho) (by lia) λns3 l3 p3=>?_;refine aQ ?_;exact hK _ ns3 ⟨_,rfl⟩ l3 λm hm=>.inl ⟨s,hs,.inr (.inr ⟨kd,hkd.1,hkd.2,hs ▸ p3 m hm⟩)⟩
    ·refine bI hE ?_;rintro z rfl;rw [Pr];exact last _ z _ (ns++ns2) (Hp.ax hn) ((Hp.ay (Ne.symm hb)).trans ho) (by rw [Pg];exact Pb (Rd ‹_› ‹_›) (by decide)) λm hm=>(PZ.mp hm).elim (hP m) (hP2 m)
   have p1':∀m∈ns1,sH G R k m:=λm hm=>.inl ⟨s,hs,.inl (hs ▸ p1 m hm)⟩;refine dd (λ_=>?_) λ_=>?_
   ·refine Hi w g o ho (by rw [Pg];exact Pb (Rd ‹_› ‹_›) (by decide)) λns2 l2 p2=>?_;refine aQ ?_;rw [Pr];exact tail (ns1++ns2) (by rw [Pg];exact Pb (Rd ‹_› ‹_›) (by decide)) λm hm=>(PZ.mp hm).elim (p1' m) λk=>.inl ⟨s,hs,.inr (.inl (p2 m k))⟩
   ·exact tail ns1 (by exact Pb ‹_› (by decide)) p1'
  ·exfalso;have:(2^s ||| a7 G k s).testBit s=true:=dQ.mpr (.inl (by rw [Nat.testBit_two_pow_self]))
   rw [<- hs,e,Py] at this;cases this) ((d,k,H,a),(G,R,q,out),ms)
end
section
variable {d x y s c k oc tgt:Nat} {H:Hp} {a:Ad} {G:aE} {R:Rw} {q:V->Hp->Prop} {out:Addr} {ms:List Nat} {o t sp f:Nat}
theorem td:pk o t sp f=t+64*(o+64*(f+4*sp)):=by unfold pk;lia
theorem lP (ht:t<64):pk o t sp f%64=t:=by rw [td];exact Kf ht
theorem oF (ho:o<64) (ht:t<64):pk o t sp f / 64%64=o:=by rw [td,EW ht];exact Kf ho
theorem lQ (ho:o<64) (ht:t<64) (hs:sp<4) (hf:f<4):pk o t sp f / 16384%4=sp:=by rw [td,show 16384=64*64*4 from rfl,<- SQ,<- SQ,EW ht,EW ho,EW hf];exact So hs
theorem CS (ho:o<64) (ht:t<64) (hf:f<4):pk o t sp f / 4096%4=f:=by rw [td,show 4096=64*64 from rfl,<- SQ,EW ht,EW ho];exact Kf hf
noncomputable def ic (G:aE) (R:Rw) (t:Nat):Nat:=if R.af=0 then t-G.aa else t+G.aa
noncomputable def qv (G:aE) (R:Rw) (o t:Nat):Nat:=((eL R ^^^ 2^o) ^^^ 2^ic G R t) ||| 2^t
def rg (G:aE) (R:Rw) (k o t:Nat):Prop:=eg (fb G R k (qv G R o t) &&& Sd R (1-R.af)) (2^ic G R t)=0
def Pn (G:aE) (R:Rw) (k o:Nat):Prop:=N2 G R k R.af o/\(Sd R R.af).testBit o=true
def It (G:aE) (R:Rw) (k o t sp:Nat):Prop:=sp=3\/(sp=2/\rg G R k o t)\/(sp≠3/\sp≠2/\o=k/\eO G R t (1-R.af) (eL R ^^^ 2^k)=false)\/(sp≠3/\sp≠2/\o≠k/\(¬Pn G R k o\/(fP G o t).testBit k=true))
def EN (G:aE) (R:Rw) (o t sp f:Nat):Prop:=o<G.size/\t<G.size/\sp<4/\f<4/\(sp=2->R.ep=t)
theorem Kp (w:W H a G R) (g:cq G) (ok:dO G R) (ht:t<G.size) (ho:o<G.size) (he:R.ep=t) (h:q (nv (ic G R t)) H):Call (d+2) 89 [.ref a.p,nv (pk o t 2 0)] H q:=by
 have h25:=g.iW;have hf:=(ok.ef (by lia)).1;unfold ic at h;refine ar rfl rfl ?_;refine BL ?_;rw [lP (by exact fX ‹_› ‹_› (by rfl))];refine EY ?_;rw [lQ (by exact fX ‹_› ‹_› (by rfl)) (by exact fX ‹_› ‹_› (by rfl)) (by decide) (by decide)];refine ez ?_;refine ag (λe=>absurd rfl e) λ_=>?_;refine aI ‹_› rfl ?_;refine aR ?_;refine ag (λe=>?_) λe=>?_
 ·rw [Po e] at h;refine aI ‹_› rfl ?_;refine eQ ‹_› rfl ?_;refine cC (by lia) ?_;refine aj ?_;exact h
 ·rw [Pf e] at h;refine aI ‹_› rfl ?_;refine eQ ‹_› rfl ?_;refine p_add ?_;refine aj ?_;exact h
theorem tL (ok:dO G R) (he:R.ep=t):ic G R t<G.size:=by
 have:=ok.ef (by lia)
 unfold ic;split<;>lia
theorem Ko (w:W H a G R) (g:cq G) (ok:dO G R) (kk:dg G R R.af k) (ht:t<G.size) (ho:o<G.size) (he:R.ep=t) (h:∀b,(b=true->rg G R k o t)->q (.bool b) H):Call (d+6) 90 [.ref a.p,nv (pk o t 2 0)] H q:=by
 have h25:=g.iW;have hc:=ok.c2
 have h1:1-R.af<2:=by exact pT
 have hk:=tL ok he;refine ar rfl rfl ?_;refine Kp w g ok ht ho he ?_;refine b8 (by exact gw ‹_› ‹_› (by rfl)) ?_;refine BL ?_;rw [lP (by exact fX ‹_› ‹_› (by rfl))];refine b8 (by exact gw ‹_› ‹_› (by rfl)) ?_;refine aI ‹_› rfl ?_;refine eR ‹_› ‹_› (by decide) ?_;refine aI ‹_› rfl ?_;refine eR ‹_› ‹_› (by decide) ?_;refine cT ?_;refine EZ ?_;rw [oF (by exact fX ‹_› ‹_› (by rfl)) (by exact fX ‹_› ‹_› (by rfl))];refine b8 (by exact gw ‹_› ‹_› (by rfl)) ?_;refine bQ ?_;refine bQ ?_;refine cT ?_;refine aI ‹_› rfl ?_;refine rZ w g ok hc kk ?_;refine Hm w g ok kk.2 ?_;refine aI ‹_› rfl ?_;refine aI ‹_› rfl ?_;refine dt ‹_› ?_;refine eR ‹_› ‹_› ‹_› ?_;refine aS ?_;refine je ?_;refine gV ?_;refine aR ?_;refine aj ?_
 exact h _ λe=>by unfold rg;exact Pj e
def xR {pn:Nat}:Prop:=∀(w:W H a G R) (g:cq G) (ok:dO G R) (kk:dg G R R.af k) (hd:EN G R o t sp f) (hf0:sp=2->f=0) (hpn:∀t,pn.testBit t=true↔Pn G R k t) (h:∀b,(b=true->It G R k o t sp)->q (.bool b) H),Call (d+7) 91 [.ref a.p,nv (pk o t sp f),nv pn] H q
theorem Kn {pn:Nat}:@xR d k H a G R q o t sp f pn:=ao (S:=λx:(Nat×Nat×Hp×Ad)×(aE×Rw×(V->Hp->Prop)×Nat)×(Nat×Nat×Nat×Nat)=>@xR x.1.1 x.1.2.1 x.1.2.2.1 x.1.2.2.2 x.2.1.1 x.2.1.2.1 x.2.1.2.2.1 x.2.1.2.2.2 x.2.2.1 x.2.2.2.1 x.2.2.2.2.1 x.2.2.2.2.2) (x:=((0,0,λ_=>none,jX),(bN,fC,λ_ _=>True,0),(0,0,0,0))) (by
 refine (?_:∀d k H a G R q o t sp f pn,@xR d k H a G R q o t sp f pn) _ _ _ _ _ _ _ _ _ _ _ _;intro d k H a G R q o t sp f pn w g ok kk hd hf0 hpn h;have h25:=g.iW;have hc:=ok.c2
 have h1:1-R.af<2:=by exact pT
 refine rQ hd λho ht hs hf he=>?_;refine ar rfl rfl ?_;refine EY ?_;rw [lQ (by exact fX ‹_› ‹_› (by rfl)) (by exact fX ‹_› ‹_› (by rfl)) hs hf];refine aR ?_;refine ag (λe=>?_) λe3=>?_
 ·refine aj ?_;exact h true λ_=>.inl e
 refine aR ?_;refine ag (λe=>?_) λe2=>?_
 ·obtain rfl:sp=2:=e;obtain rfl:=hf0 rfl;refine Ko w g ok kk ht ho (he rfl) λb hb=>?_;refine aj ?_;exact h b λe=>.inr (.inl ⟨rfl,hb e⟩)
 refine EZ ?_;rw [oF (by exact fX ‹_› ‹_› (by rfl)) (by exact fX ‹_› ‹_› (by rfl))];refine BL ?_;rw [lP (by exact fX ‹_› ‹_› (by rfl))];refine aI ‹_› rfl ?_;refine rZ w g ok hc kk ?_;refine aR ?_;refine ag (λe=>?_) λek=>?_
 ·have:=kk.2;refine aI ‹_› rfl ?_;refine eR ‹_› ‹_› (by decide) ?_;refine aI ‹_› rfl ?_;refine eR ‹_› ‹_› (by decide) ?_;refine cT ?_;refine b8 (by exact gw ‹_› ‹_› (by rfl)) ?_;refine bQ ?_;refine aI ‹_› rfl ?_;refine dt ‹_› ?_;refine yb w g ok h1 ht ?_;refine lR ?_;refine aj ?_;refine h _ λe'=>.inr (.inr (.inl ⟨e3,e2,e,?_⟩));revert e';show ((!eO G R t (1-R.af) (eL R ^^^ 2^k))=true)->_
  cases eO G R t (1-R.af) (eL R ^^^ 2^k)<;>simp
 refine cN ?_;refine aS ?_;refine aR ?_;refine ag (λe=>?_) λe=>?_
 ·refine aj ?_;exact h true λ_=>.inr (.inr (.inr ⟨e3,e2,ek,.inl λhp=>j7.mpr ((hpn o).mpr hp) e⟩))
 ·refine aI ‹_› rfl ?_;refine KZ w g ho ?_;refine aj ?_
  exact h _ λe=>.inr (.inr (.inr ⟨e3,e2,ek,.inr e⟩))) ((d,k,H,a),(G,R,q,o),(t,sp,f,pn))
theorem Hh (w:W H a G R) (g:cq G) (ok:dO G R) (kk:dg G R R.af k) (h:∀ns:List Nat,ns.length<=90000->(∀m∈ns,sH G R k m)->∀b,H b=none->q (.ref b) (H.out b ns)):Call (d+10) 92 [.ref a.p,nv 3] H q:=by
 refine ar rfl rfl ?_;refine new_ (Qc _) λb hb=>?_;refine aR ?_;refine ag (λ_=>?_) λe=>absurd rfl e;refine Kq (ms:=[]) w g ok kk hb (Qc _) λns hl hP=>?_;refine aQ ?_;refine aj ?_;exact h ns hl hP b hb
theorem Hg (w:W H a G R) (g:cq G) (ok:dO G R) (h:∀ns:List Nat,ns.length<=90000->(∀m∈ns,EM G R m)->∀b,H b=none->q (.ref b) (H.out b ns)):Call (d+8) 92 [.ref a.p,nv 2] H q:=by
 have hfl:eg G.full (Sd R R.af)<2^G.size:=fM iy;refine ar rfl rfl ?_;refine new_ (Qc _) λb hb=>?_;have w1:=w.mono (Hp.ax (o:=.list []) hb);refine aR ?_;refine ag (λe=>absurd e (by decide)) λ_=>?_;refine KA w1 ok ?_;refine aI ‹_› rfl ?_;refine eQ ‹_› rfl ?_;refine Hj (s:=2) (ms:=[]) w g ok (by decide) iy hb (Qc _) λns1 l1 p1=>?_;refine aQ ?_;refine ez ?_;refine ag (λ_=>?_) λe=>absurd (show 2≠1 by decide) e;refine Hi w g ok hb (show ns1.length<=_ by exact Pb ‹_› (by decide)) λns2 l2 p2=>?_;refine aQ ?_;refine new_ (show 5<=lim by decide) λb2 hb2=>?_;refine aD (Hp.none_of hb2) λhb2 hn2=>?_;rw [show (H.out b (([]++ns1)++ns2)).upd b2 (.list [V.int 2,V.int 3,V.int 4,V.int 5,V.int 6])=(H.upd b2 (.list (av [2,3,4,5,6]))).out b (ns1++ns2) from Hp.bt _ _ _ (Ne.symm hb2)];refine qs (n:=5) hb2 hn2 (λρ'=>∃z,ρ'=[some (.ref a.p),some (nv 2),some (.ref b),some (nv (eg G.full (Sd R R.af))),z]) (EM G R) 4096 (by decide) ⟨_,rfl⟩ (λkd ms' ρ' K0 hk hE hm' hK=>?_) (λρ' ns3 hE hl3 hP3=>?_)
 ·refine bI hE ?_;rintro z rfl
  have hkd:2<=kd/\kd<=6:=by
   have:kd=2\/kd=3\/kd=4\/kd=5\/kd=6:=by simpa using hk
   exact OL this
  rw [Pg] at hm';refine D6 (w.mono (Hp.ax hn2)) g ok (by exact lB (And.right ‹_›) (by rfl)) hfl ((Hp.ay (Ne.symm hb2)).trans hb) (by lia) λns3 l3 p3=>?_;refine aQ ?_;exact hK _ ns3 ⟨_,rfl⟩ l3 λm hm=>.inr (.inr (.inl ⟨kd,hkd.1,hkd.2,p3 m hm⟩))
 ·refine bI hE ?_;rintro z rfl;refine ez ?_;refine ag (λ_=>?_) λe=>absurd (show 2≠0 by decide) e;refine KD (w.mono (Hp.ax hn2)) g ok ((Hp.ay (Ne.symm hb2)).trans hb) (by rw [Pg,Pg];lia) λns4 l4 p4=>?_;refine aQ ?_
  conv=>whnf
  refine gr (H.out b (((ns1++ns2)++ns3)++ns4)) (i3 (Hp.ax hn2) _) ?_;refine h _ (by rw [Pg,Pg,Pg];lia) (λm hm=>?_) b hb;rcases PZ.mp hm with hm | hm
  ·rcases PZ.mp hm with hm | hm
   ·rcases PZ.mp hm with hm | hm
    ·exact .inl (p1 m hm)
    ·exact .inr (.inl (p2 m hm))
   ·exact hP3 m hm
  ·exact .inr (.inr (.inr (p4 m hm)))
def sG (G:aE) (R:Rw) (k m:Nat):Prop:=(eO G R k (1-R.af) (eL R)=true/\sH G R k m)\/(eO G R k (1-R.af) (eL R)=false/\EM G R m)
theorem Km (w:W H a G R) (g:cq G) (ok:dO G R) (kk:dg G R R.af k) (h:∀ns:List Nat,ns.length<=90000->(∀m∈ns,sG G R k m)->∀b,H b=none->q (.ref b) (H.out b ns)):Call (d+11) 93 [.ref a.p] H q:=by
 refine ar rfl rfl ?_;refine KN w g ok kk ?_;refine dd (λe=>?_) λe=>?_
 ·refine Hh w g ok kk λns hl hP b hb=>?_;refine aj ?_;exact h ns hl (λm hm=>.inl ⟨e,hP m hm⟩) b hb
 ·refine Hg w g ok λns hl hP b hb=>?_;refine aj ?_;exact h ns hl (λm hm=>.inr ⟨e,hP m hm⟩) b hb
def Mv (G:aE) (R:Rw) (k m:Nat):Prop:=∃o t sp f,m=pk o t sp f/\EN G R o t sp f/\(sp=2->f=0)
theorem yK.mv {kd m:Nat} (ok:dO G R) (ht:tgt<2^G.size) (h:yK G R kd tgt m):Mv G R k m:=by
 refine ed h ?_;rintro o t rfl h1 h2 h3;exact ⟨o,t,0,0,rfl,⟨dD (cX (ok.kb _)) h1,dD ht h3,by decide,by decide,λe=>absurd e (by decide)⟩,λ_=>rfl⟩
theorem gi.mv {m:Nat} (ok:dO G R) (h:gi G R tgt m):Mv G R k m:=by
 rcases h with ⟨o,t,sp,f,rfl,hf,hs,_,hp,_,ht,_⟩ | ⟨o,p,t,rfl,_,hp,_,_,ht,_⟩ | ⟨o,t,sp,f,rfl,hf,hs,_,hp,ht,_⟩
 ·exact ⟨o,t,sp,f,rfl,⟨dr ok hp,ht,by lia,hf,by lia⟩,by lia⟩
 ·exact ⟨o,t,0,0,rfl,⟨dr ok hp.1,ht,by decide,by decide,by lia⟩,by lia⟩
 ·exact ⟨o,t,sp,f,rfl,⟨dr ok hp,dD (ok.sb _) ht,by lia,hf,by lia⟩,by lia⟩
theorem A8.mv {m:Nat} (ok:dO G R) (h:A8 G R m):Mv G R k m:=by
 refine ed h ?_;rintro o t rfl he _ hp;exact ⟨o,t,2,0,rfl,⟨dr ok hp,by have:=ok.e1;lia,by decide,by decide,λ_=>he⟩,λ_=>rfl⟩
theorem sI.mv {m:Nat} (g:cq G) (h:sI G R m):Mv G R k m:=by
 obtain ⟨i,kf,kt,rf,rt,rfl,_,hc⟩:=h;have:=g.cw _ _ _ _ _ hc.1;exact ⟨kf,kt,3,0,rfl,⟨this.1,this.2.1,by decide,by decide,by lia⟩,λ_=>rfl⟩
theorem sG.mv {m:Nat} (g:cq G) (ok:dO G R) (h:sG G R k m):Mv G R k m:=by
 have hfl:eg G.full (Sd R R.af)<2^G.size:=fM iy;rcases h with ⟨_,⟨s,hs,h⟩ | h⟩ | ⟨_,h⟩
 ·have htg:2^s ||| a7 G k s<2^G.size:=Nat.or_lt_two_pow (hs ▸ cX (ok.sb _)) (pD g);rcases h with h | h | ⟨kd,_,_,h⟩
  ·exact gi.mv ok h
  ·exact A8.mv ok h
  ·exact yK.mv ok htg h
 ·exact yK.mv ok hfl h
 ·rcases h with h | h | ⟨kd,_,_,h⟩ | h
  ·exact gi.mv ok h
  ·exact A8.mv ok h
  ·exact yK.mv ok hfl h
  ·exact sI.mv g h
def iU (G:aE) (R:Rw) (k m:Nat):Prop:=sG G R k m/\∃o t sp f,m=pk o t sp f/\EN G R o t sp f/\It G R k o t sp
def xQ {mv:Addr} {l:List Nat}:Prop:=∀(w:W H a G R) (g:cq G) (ok:dO G R) (kk:dg G R R.af k) (hmv:H mv=none) (hl:l.length<=90000) (hP:∀m∈l,sG G R k m) (h:∀ns:List Nat,ns.length<=90000->(∀m∈ns,iU G R k m)->∀b,H b=none->q (.ref b) (H.out b ns)),Call (d+8) 94 [.ref a.p,.ref mv] (H.out mv l) q
theorem Kl {mv:Addr} {l:List Nat}:@xQ d k H a G R q mv l:=ao (S:=λx:(Nat×Nat×Hp×Ad)×(aE×Rw×(V->Hp->Prop)×Addr)×List Nat=>@xQ x.1.1 x.1.2.1 x.1.2.2.1 x.1.2.2.2 x.2.1.1 x.2.1.2.1 x.2.1.2.2.1 x.2.1.2.2.2 x.2.2) (x:=((0,0,λ_=>none,jX),(bN,fC,λ_ _=>True,0),[])) (by
 refine (?_:∀d k H a G R q mv l,@xQ d k H a G R q mv l) _ _ _ _ _ _ _ _ _;intro d k H a G R q mv l w g ok kk hmv hl hP h;have hc:=ok.c2;have w1:=w.mono (Hp.ax (o:=.list (av l)) hmv);refine ar rfl rfl ?_;refine aI ‹_› rfl ?_;refine KI w1 g ok hc kk λpn hpn=>?_;refine new_ (Qc _) λb hb=>?_;refine aD (Hp.none_of hb) λhb hn=>?_;have at_:∀X:List V,((H.out mv l).upd b (.list X)) mv=some (.list (av l)):=λX=>(Hp.ay (Ne.symm hb)).trans (Hp.ai ..);refine forL (at_ _) (λn ρ' H'=>(∃z,ρ'=[some (.ref a.p),some (.ref mv),some (nv pn),some (.ref b),z])/\∃ns:List Nat,ns.length<=n/\(∀m∈ns,iU G R k m)/\H'=(H.out mv l).upd b (.list (av ns))) (λn v ρ' H' K0 hv hI hK _ _=>?_) (λρ' H' hI=>?_) ⟨⟨_,rfl⟩,[],Qc _,λm hm=>absurd hm Qy,rfl⟩
 ·obtain ⟨⟨z,rfl⟩,ns,hns,hL,rfl⟩:=hI;refine ⟨at_ _,?_⟩;refine aD (ju rfl hv) ?_;rintro hk rfl;have hm:=hP (l.getD n 0) (by rw [Pc,Pk hk];exact Rb hk);refine mR (sG.mv g ok hm) λo t sp f e hd hf0=>?_;have w2:=w1.mono (Hp.ax (o:=.list (av ns)) ((Hp.ay hb).trans hn));rw [e] at hm ⊢;refine Kn w2 g ok kk hd hf0 hpn λb' hb'=>?_;refine dd (λe'=>?_) λ_=>?_
  ·refine ⟨gJ (Hp.ai ..),?_⟩;refine qF (Hp.ai ..) (by rw [Ph];show _<1000000;lia) ?_;refine aQ ?_;refine hK _ _ ⟨⟨_,rfl⟩,ns++ [pk o t sp f],by rw [Pg];exact RP hns,λm h1=>?_,?_⟩
   ·rcases PZ.mp h1 with h1 | h1
    ·exact hL m h1
    ·rw [PC] at h1;subst h1;exact ⟨hm,o,t,sp,f,rfl,hd,hb' e'⟩
   ·rw [Hp.eE,av,av,QG];rfl
  ·exact hK _ _ ⟨⟨_,rfl⟩,ns,SG hns,hL,rfl⟩
 ·obtain ⟨⟨z,rfl⟩,ns,hns,hL,rfl⟩:=hI;refine ⟨at_ _,?_⟩
  conv=>whnf
  rw [Ph] at hns;refine gr (H.out b ns) ?_ (h ns (by exact Pb ‹_› ‹_›) hL b hn);rw [Hp.bt _ _ _ (Ne.symm hb)]
  exact Hp.ax ((Hp.ay (Ne.symm hb)).trans hmv)) ((d,k,H,a),(G,R,q,mv),l)
theorem Kk (w:W H a G R) (g:cq G) (ok:dO G R) (kk:dg G R R.af k) (h:∀ns:List Nat,ns.length<=90000->(∀m∈ns,iU G R k m)->∀b,H b=none->q (.ref b) (H.out b ns)):Call (d+12) 95 [.ref a.p] H q:=by
 refine ar rfl rfl ?_;refine Km w g ok kk λns hl hP b hb=>?_;refine Kl w g ok kk hb hl hP λns2 hl2 hP2 b2 hb2=>?_;refine aj ?_;exact h ns2 hl2 hP2 b2 hb2
end
noncomputable def AL (a:Ad) (R:Rw):List (Nat×V):=[(18,.ref a.g),(19,.ref a.z),(20,.ref a.bd),(21,.ref a.kd),(22,.ref a.sd),(3,nv R.af),(2,nv R.ab),(1,.int R.ep),(23,.int R.fG),(7,.int R.full),(24,nv R.key),(25,.ref a.hs)]
noncomputable def Hp.put (H:Hp) (a:Ad) (R:Rw):Hp:=λx=>
 if x=a.bd then some (.list (av R.ae)) else if x=a.kd then some (.list (av R.bE)) else if x=a.sd then some (.list (av R.bV)) else if x=a.hs then some (.list R.cx) else if x=a.dx then some (.dict (AL a R)) else H x
def dyn (a:Ad) (x:Addr):Prop:=x=a.bd\/x=a.kd\/x=a.sd\/x=a.hs\/x=a.dx
structure N0 (a:Ad):Prop where
 d1:a.kd≠a.bd
 d2:a.sd≠a.bd
 d3:a.hs≠a.bd
 d4:a.dx≠a.bd
 d5:a.sd≠a.kd
 d6:a.hs≠a.kd
 d7:a.dx≠a.kd
 d8:a.hs≠a.sd
 d9:a.dx≠a.sd
 d0:a.dx≠a.hs
 p:¬dyn a a.p
 g:¬dyn a a.g
 gd:¬dyn a a.gd
 fm:¬dyn a a.fm
 rm:¬dyn a a.rm
 ow:¬dyn a a.ow
 mO:∀d,d<8->¬dyn a (a.mO d)
 cv:¬dyn a a.cv
 a8:¬dyn a a.a8
 fF:¬dyn a a.fF
 pn:∀d,d<2->¬dyn a (a.pn d)
 gH:¬dyn a a.gH
 cK:¬dyn a a.cK
 z:¬dyn a a.z
 zd:¬dyn a a.zd
 zp:¬dyn a a.zp
 row:∀m,m<15->¬dyn a (a.row m)
 ze:¬dyn a a.ze
 zr:¬dyn a a.zr
structure fY (H:Hp) (a:Ad) (G:aE):Prop where
 p:H a.p=some (.inst 2 a.dx)
 T:GW H a G
 Z:ZW H a G
 D:N0 a
 r8:G.eJ.length=8
theorem bq {H:Hp} {a:Ad} {R:Rw} {x:Addr} (h:¬dyn a x):H.put a R x=H x:=by
 unfold Hp.put dyn at *;rw [Pf λe=>h (.inl e),Pf λe=>h (.inr (.inl e)),Pf λe=>h (.inr (.inr (.inl e))),Pf λe=>h (.inr (.inr (.inr (.inl e)))),Pf λe=>h (.inr (.inr (.inr (.inr e))))]
section
variable {d x y s c k:Nat} {H:Hp} {a:Ad} {G:aE} {R:Rw} {q:V->Hp->Prop}
theorem fY.w (S:fY H a G) (R:Rw):W (H.put a R) a G R where
 P:=⟨(bq S.D.p).trans S.p,by unfold Hp.put;rw [Pf S.D.d4,Pf S.D.d7,Pf S.D.d9,Pf S.D.d0,Po rfl];rfl,by unfold Hp.put;rw [Po rfl],by unfold Hp.put;rw [Pf S.D.d1,Po rfl],
  by unfold Hp.put;rw [Pf S.D.d2,Pf S.D.d5,Po rfl],by unfold Hp.put;rw [Pf S.D.d3,Pf S.D.d6,Pf S.D.d8,Po rfl]⟩
 T:=⟨(bq S.D.g).trans S.T.g,(bq S.D.gd).trans S.T.gd,(bq S.D.fm).trans S.T.fm,(bq S.D.rm).trans S.T.rm,(bq S.D.ow).trans S.T.ow,
  λd r h=>(bq (S.D.mO d (by rcases PG d 8 with q | q;exact q;rw [Qx (by rw [S.r8];exact q)] at h;cases h))).trans (S.T.mO d r h),
  (bq S.D.cv).trans S.T.cv,(bq S.D.a8).trans S.T.a8,(bq S.D.fF).trans S.T.fF,
  λd r h=>(bq (S.D.pn d (by rcases PG d 2 with q | q;exact q;rw [Qx (show 2<=d from q)] at h;cases h))).trans (S.T.pn d r h),(bq S.D.gH).trans S.T.gH,(bq S.D.cK).trans S.T.cK⟩
 Z:=⟨(bq S.D.z).trans S.Z.z,(bq S.D.zd).trans S.Z.zd,(bq S.D.zp).trans S.Z.zp,λm h=>(bq (S.D.row m h)).trans (S.Z.row m h),(bq S.D.ze).trans S.Z.ze,(bq S.D.zr).trans S.Z.zr⟩
theorem CJ (S:fY H a G) (b:List Nat):(H.put a R).upd a.bd (.list (av b))=H.put a { R with ae:=b }:=by
 funext x;unfold Hp.upd Hp.put AL;split<;>rfl
theorem CH (S:fY H a G) (b:List Nat):(H.put a R).upd a.kd (.list (av b))=H.put a { R with bE:=b }:=by
 funext x;unfold Hp.upd Hp.put AL;by_cases e:x=a.kd
 ·subst e;rw [Po rfl,Pf S.D.d1,Po rfl]
 ·rw [Pf e,Pf e,Pf e]
theorem CG (S:fY H a G) (b:List Nat):(H.put a R).upd a.sd (.list (av b))=H.put a { R with bV:=b }:=by
 funext x;unfold Hp.upd Hp.put AL;by_cases e:x=a.sd
 ·subst e;rw [Po rfl,Pf S.D.d2,Pf S.D.d5,Po rfl]
 ·rw [Pf e,Pf e,Pf e]
theorem vW (S:fY H a G) (b:List V):(H.put a R).upd a.hs (.list b)=H.put a { R with cx:=b }:=by
 funext x;unfold Hp.upd Hp.put AL;by_cases e:x=a.hs
 ·subst e;rw [Po rfl,Pf S.D.d3,Pf S.D.d6,Pf S.D.d8,Po rfl]
 ·rw [Pf e,Pf e,Pf e]
theorem CI (S:fY H a G) {R':Rw} {fs:List (Nat×V)} (h:fs=AL a R') (h1:R'.ae=R.ae) (h2:R'.bE=R.bE) (h3:R'.bV=R.bV) (h4:R'.cx=R.cx):(H.put a R).upd a.dx (.dict fs)=H.put a R':=by
 funext x;unfold Hp.upd Hp.put;by_cases e:x=a.dx
 ·subst e;rw [Po rfl,Pf S.D.d4,Pf S.D.d7,Pf S.D.d9,Pf S.D.d0,Po rfl,h]
 ·rw [Pf e,Pf e,Pf e,h1,h2,h3,h4]
theorem ud (S:fY H a G) {n:Nat} {v:V} {R':Rw} {P:Hp->Prop} (h:gu n v (AL a R)=AL a R') (h1:R'.ae=R.ae) (h2:R'.bE=R.bE) (h3:R'.bV=R.bV) (h4:R'.cx=R.cx) (k:P (H.put a R')):bj (.ref a.p) n v (H.put a R) P:=
 pS (S.w R).P.p (S.w R).P.dx (show 12<=100 by decide) (show P ((H.put a R).upd a.dx (.dict (gu n v (AL a R)))) from (CI S h h1 h2 h3 h4).symm ▸ k)
theorem fe (S:fY H a G) {v:Nat} {P:Hp->Prop} (k:P (H.put a { R with key:=v })):bj (.ref a.p) 24 (nv v) (H.put a R) P:=ud (R':={ R with key:=v }) S rfl rfl rfl rfl rfl k
theorem lF (S:fY H a G) {v:Int} {P:Hp->Prop} (k:P (H.put a { R with ep:=v })):bj (.ref a.p) 1 (.int v) (H.put a R) P:=ud (R':={ R with ep:=v }) S rfl rfl rfl rfl rfl k
theorem iH (S:fY H a G) {v:Nat} {P:Hp->Prop} (k:P (H.put a { R with ab:=v })):bj (.ref a.p) 2 (nv v) (H.put a R) P:=ud (R':={ R with ab:=v }) S rfl rfl rfl rfl rfl k
theorem lE (S:fY H a G) {v:Nat} {P:Hp->Prop} (k:P (H.put a { R with af:=v })):bj (.ref a.p) 3 (nv v) (H.put a R) P:=ud (R':={ R with af:=v }) S rfl rfl rfl rfl rfl k
theorem i6 (S:fY H a G) {v:Int} {P:Hp->Prop} (k:P (H.put a { R with fG:=v })):bj (.ref a.p) 23 (.int v) (H.put a R) P:=ud (R':={ R with fG:=v }) S rfl rfl rfl rfl rfl k
theorem pQ (S:fY H a G) {v:Int} {P:Hp->Prop} (k:P (H.put a { R with full:=v })):bj (.ref a.p) 7 (.int v) (H.put a R) P:=ud (R':={ R with full:=v }) S rfl rfl rfl rfl rfl k
theorem oq (S:fY H a G) {i v:Nat} {P:Hp->Prop} (hi:i<R.ae.length) (k:P (H.put a { R with ae:=R.ae.set i v })):bT (.ref a.bd) (nv i) (nv v) (H.put a R) P:=pR (S.w R).P.bd hi (by rw [CJ S];exact k)
theorem ra (S:fY H a G) {i v:Nat} {P:Hp->Prop} (hi:i<R.bE.length) (k:P (H.put a { R with bE:=R.bE.set i v })):bT (.ref a.kd) (nv i) (nv v) (H.put a R) P:=pR (S.w R).P.kd hi (by rw [CH S];exact k)
theorem q9 (S:fY H a G) {i v:Nat} {P:Hp->Prop} (hi:i<R.bV.length) (k:P (H.put a { R with bV:=R.bV.set i v })):bT (.ref a.sd) (nv i) (nv v) (H.put a R) P:=pR (S.w R).P.sd hi (by rw [CG S];exact k)
structure Len (G:aE) (R:Rw):Prop where
 bl:R.ae.length=G.size
 kl:R.bE.length=7
 sl:R.bV.length=2
theorem dO.len (o:dO G R):Len G R:=⟨o.bl,o.kl,o.sl⟩
noncomputable def vX (G:aE) (R:Rw) (x s:Nat):Rw:={ R with ae:=R.ae.set s x,bE:=R.bE.set (x%8) (K R (x%8) ||| 2^s),bV:=R.bV.set (x / 8) (Sd R (x / 8) ||| 2^s),key:=R.key ^^^ 2^(x*G.size+s) }
noncomputable def nf (G:aE) (R:Rw) (s:Nat):Rw:={ R with ae:=R.ae.set s 0,bE:=R.bE.set (R.ae.getD s 0%8) (K R (R.ae.getD s 0%8) ^^^ 2^s),bV:=R.bV.set (R.ae.getD s 0 / 8) (Sd R (R.ae.getD s 0 / 8) ^^^ 2^s),key:=R.key ^^^ 2^(R.ae.getD s 0*G.size+s) }
noncomputable def lD (G:aE) (R:Rw) (x y:Nat):Rw:={ R with ae:=(R.ae.set x 0).set y (R.ae.getD x 0),bE:=R.bE.set (R.ae.getD x 0%8) (K R (R.ae.getD x 0%8) ^^^ (2^x ||| 2^y)),bV:=R.bV.set (R.ae.getD x 0 / 8) (Sd R (R.ae.getD x 0 / 8) ^^^ (2^x ||| 2^y)),key:=R.key ^^^ (2^(R.ae.getD x 0*G.size+x) ^^^ 2^(R.ae.getD x 0*G.size+y)) }
def good (x:Nat):Prop:=x<15/\x%8<7
def yl:Prop:=∀(S:fY H a G) (g:cq G) (l:Len G R) (hx:good x) (hs:s<G.size) (h:q .none (H.put a (vX G R x s))),Call (d+2) 25 [.ref a.p,nv x,nv s] (H.put a R) q
theorem Lh:@yl d x s H a G R q:=ao (S:=λx:(Nat×Nat×Nat×Hp)×(Ad×aE×Rw×(V->Hp->Prop))=>@yl x.1.1 x.1.2.1 x.1.2.2.1 x.1.2.2.2 x.2.1 x.2.2.1 x.2.2.2.1 x.2.2.2.2) (x:=((0,0,0,λ_=>none),(jX,bN,fC,λ_ _=>True))) (by
 refine (?_:∀d x s H a G R q,@yl d x s H a G R q) _ _ _ _ _ _ _ _;intro d x s H a G R q S g l hx hs h;have h25:=g.iW;refine aD hx λhx1 hx2=>?_;have wR:=S.w;refine ar rfl rfl ?_;refine b8 (by exact gw ‹_› ‹_› (by rfl)) ?_;have w1:=wR R;refine aI ‹_› rfl ?_;refine oq S (by rw [l.bl];exact hs) ?_;have w2:=wR { R with ae:=R.ae.set s x };refine aI ‹_› rfl ?_;refine Ed ?_;refine aU w2.P.kd (by rw [l.kl];exact hx2) ?_;refine bF ?_;refine cT ?_;refine ra S (by rw [l.kl];exact hx2) ?_;have w3:=wR { R with ae:=R.ae.set s x,bE:=R.bE.set (x%8) (K R (x%8) ||| 2^s) };refine aI ‹_› rfl ?_;refine HM ?_;refine aU w3.P.sd (by rw [l.sl];exact yW ‹_›) ?_;refine bF ?_;refine cT ?_;refine q9 S (by rw [l.sl];exact yW ‹_›) ?_;have w4:=wR { R with ae:=R.ae.set s x,bE:=R.bE.set (x%8) (K R (x%8) ||| 2^s),bV:=R.bV.set (x / 8) (Sd R (x / 8) ||| 2^s) };refine aI ‹_› rfl ?_;refine aI ‹_› rfl ?_;refine k7 ‹_› rfl ?_;refine lx ‹_› ‹_› ?_;refine f6 ‹_› ‹_› ‹_› ?_;refine bF ?_;refine bQ ?_;refine fe S ?_
 conv=>whnf
 exact fJ h) ((d,x,s,H),(a,G,R,q))
def yj:Prop:=∀(S:fY H a G) (g:cq G) (l:Len G R) (hx:good (R.ae.getD s 0)) (hs:s<G.size) (h:q (nv (R.ae.getD s 0)) (H.put a (nf G R s))),Call (d+2) 26 [.ref a.p,nv s] (H.put a R) q
theorem Lg:@yj d s H a G R q:=ao (S:=λx:(Nat×Nat×Hp×Ad)×(aE×Rw×(V->Hp->Prop))=>@yj x.1.1 x.1.2.1 x.1.2.2.1 x.1.2.2.2 x.2.1 x.2.2.1 x.2.2.2) (x:=((0,0,λ_=>none,jX),(bN,fC,λ_ _=>True))) (by
 refine (?_:∀d s H a G R q,@yj d s H a G R q) _ _ _ _ _ _ _;intro d s H a G R q S g l hx hs h;have h25:=g.iW;refine aD hx λhx1 hx2=>?_;have wR:=S.w;have w1:=wR R;refine ar rfl rfl ?_;refine aI ‹_› rfl ?_;refine aU w1.P.bd (by rw [l.bl];exact hs) ?_;refine b8 (by exact gw ‹_› ‹_› (by rfl)) ?_;refine aI ‹_› rfl ?_;refine oq (v:=0) S (by rw [l.bl];exact hs) ?_;have w2:=wR { R with ae:=R.ae.set s 0 };refine aI ‹_› rfl ?_;refine Ed ?_;refine aU w2.P.kd (by rw [l.kl];exact hx2) ?_;refine bF ?_;refine bQ ?_;refine ra S (by rw [l.kl];exact hx2) ?_;have w3:=wR { R with ae:=R.ae.set s 0,bE:=R.bE.set (R.ae.getD s 0%8) (K R (R.ae.getD s 0%8) ^^^ 2^s) };refine aI ‹_› rfl ?_;refine HM ?_;refine aU w3.P.sd (by rw [l.sl];exact yW ‹_›) ?_;refine bF ?_;refine bQ ?_;refine q9 S (by rw [l.sl];exact yW ‹_›) ?_;have w4:=wR { R with ae:=R.ae.set s 0,bE:=R.bE.set (R.ae.getD s 0%8) (K R (R.ae.getD s 0%8) ^^^ 2^s),bV:=R.bV.set (R.ae.getD s 0 / 8) (Sd R (R.ae.getD s 0 / 8) ^^^ 2^s) };refine aI ‹_› rfl ?_;refine aI ‹_› rfl ?_;refine k7 ‹_› rfl ?_;refine lx ‹_› ‹_› ?_;refine f6 ‹_› ‹_› ‹_› ?_;refine bF ?_;refine bQ ?_;refine fe S ?_;refine aj ?_
 exact h) ((d,s,H,a),(G,R,q))
def yi:Prop:=∀(S:fY H a G) (g:cq G) (l:Len G R) (hx:good (R.ae.getD x 0)) (h1:x<G.size) (h2:y<G.size) (h:q .none (H.put a (lD G R x y))),Call (d+2) 27 [.ref a.p,nv x,nv y] (H.put a R) q
theorem Lf:@yi d x y H a G R q:=ao (S:=λx:(Nat×Nat×Nat×Hp)×(Ad×aE×Rw×(V->Hp->Prop))=>@yi x.1.1 x.1.2.1 x.1.2.2.1 x.1.2.2.2 x.2.1 x.2.2.1 x.2.2.2.1 x.2.2.2.2) (x:=((0,0,0,λ_=>none),(jX,bN,fC,λ_ _=>True))) (by
 refine (?_:∀d x y H a G R q,@yi d x y H a G R q) _ _ _ _ _ _ _ _;intro d x y H a G R q S g l hx h1 h2 h;have h25:=g.iW;refine aD hx λhx1 hx2=>?_;have wR:=S.w;have w1:=wR R;refine ar rfl rfl ?_;refine aI ‹_› rfl ?_;refine aU w1.P.bd (by rw [l.bl];exact h1) ?_;refine b8 (by exact gw ‹_› ‹_› (by rfl)) ?_;refine b8 (by exact gw ‹_› ‹_› (by rfl)) ?_;refine cT ?_;refine aI ‹_› rfl ?_;refine oq (v:=0) S (by rw [l.bl];exact h1) ?_;have w2:=wR { R with ae:=R.ae.set x 0 };refine aI ‹_› rfl ?_;refine oq S (by show y<(R.ae.set x 0).length;rw [Pq,l.bl];exact h2) ?_;have w3:=wR { R with ae:=(R.ae.set x 0).set y (R.ae.getD x 0) };refine aI ‹_› rfl ?_;refine Ed ?_;refine aU w3.P.kd (by rw [l.kl];exact hx2) ?_;refine bF ?_;refine bQ ?_;refine ra S (by rw [l.kl];exact hx2) ?_;have w4:=wR { R with ae:=(R.ae.set x 0).set y (R.ae.getD x 0),bE:=R.bE.set (R.ae.getD x 0%8) (K R (R.ae.getD x 0%8) ^^^ (2^x ||| 2^y)) };refine aI ‹_› rfl ?_;refine HM ?_;refine aU w4.P.sd (by rw [l.sl];exact yW ‹_›) ?_;refine bF ?_;refine bQ ?_;refine q9 S (by rw [l.sl];exact yW ‹_›) ?_;have w5:=wR { R with ae:=(R.ae.set x 0).set y (R.ae.getD x 0),bE:=R.bE.set (R.ae.getD x 0%8) (K R (R.ae.getD x 0%8) ^^^ (2^x ||| 2^y)),bV:=R.bV.set (R.ae.getD x 0 / 8) (Sd R (R.ae.getD x 0 / 8) ^^^ (2^x ||| 2^y)) };refine aI ‹_› rfl ?_;refine k7 ‹_› rfl ?_;refine lx ‹_› ‹_› ?_;refine aI ‹_› rfl ?_;refine f6 ‹_› ‹_› ‹_› ?_;refine f6 ‹_› ‹_› ‹_› ?_;refine bQ ?_;refine bF ?_;refine bQ ?_;refine fe S ?_
 conv=>whnf
 exact fJ h) ((d,x,y,H),(a,G,R,q))
noncomputable def xJ (G:aE) (R:Rw):Rw:=if 0<=R.ep then { R with key:=R.key ^^^ 2^(15*G.size+4+R.ep.toNat%G.aa),ep:=-1 } else R
noncomputable def Cj (G:aE) (R:Rw) (e:Int):Rw:={ R with key:=if 0<=e then R.key ^^^ 2^(15*G.size+4+e.toNat%G.aa) else R.key,ep:=e }
noncomputable def Cc (G:aE) (R:Rw) (r:Nat):Rw:=if r≠R.ab then { R with key:=R.key ^^^ (R.ab <<< (15*G.size) ^^^ r <<< (15*G.size)),ab:=r } else R
theorem Ld (S:fY H a G) (g:cq G) (o:dO G R) (h:q .none (H.put a { R with key:=cU G R ^^^ xk G.size (λm=>decide (m≠0)) R.ae G.size })):Call (d+3) 31 [.ref a.p] (H.put a R) q:=by
 have w1:=S.w R;refine ar rfl rfl ?_;refine Mp w1 g o ?_;refine fe S ?_
 conv=>whnf
 exact fJ h
theorem K9 (S:fY H a G) (g:cq G) (h:q .none (H.put a (xJ G R))):Call (d+1) 37 [.ref a.p] (H.put a R) q:=by
 have hf:G.aa≠0:=by have:=g.f0;exact Qo ‹_›
 have w1:=S.w R;unfold xJ at h;refine ar rfl rfl ?_;refine aI ‹_› rfl ?_;refine km ?_;refine ag (λe=>?_) (λe=>?_)
 ·rw [Po e] at h;refine aI ‹_› rfl ?_;refine aI ‹_› rfl ?_;refine k7 ‹_› rfl ?_;refine aI ‹_› rfl ?_;refine aI ‹_› rfl ?_;refine eQ ‹_› rfl ?_;refine jI hf e ?_;refine vp w1 (RF _ (PF hf)) ?_;refine bF ?_;refine bQ ?_;refine fe S ?_;refine eM ?_;refine lF S ?_
  conv=>whnf
  exact fJ h
 ·rw [Pf e] at h
  conv=>whnf
  exact fJ h
theorem K8 {e:Int} (S:fY H a G) (g:cq G) (h:q .none (H.put a (Cj G R e))):Call (d+1) 38 [.ref a.p,.int e] (H.put a R) q:=by
 have hf:G.aa≠0:=by have:=g.f0;exact Qo ‹_›
 have w1:=S.w R;unfold Cj at h;refine ar rfl rfl ?_;refine km ?_;refine ag (λe=>?_) (λe=>?_)
 ·rw [Po e] at h;refine aI ‹_› rfl ?_;refine aI ‹_› rfl ?_;refine k7 ‹_› rfl ?_;refine aI ‹_› rfl ?_;refine eQ ‹_› rfl ?_;refine jI hf e ?_;refine vp w1 (RF _ (PF hf)) ?_;refine bF ?_;refine bQ ?_;refine fe S ?_;refine lF S ?_
  conv=>whnf
  exact fJ h
 ·rw [Pf e] at h;refine lF S ?_
  conv=>whnf
  exact fJ h
theorem K7 (S:fY H a G) (hr:R.ab<16) (hx:x<16) (h:q .none (H.put a (Cc G R x))):Call (d+1) 39 [.ref a.p,nv x] (H.put a R) q:=by
 have w1:=S.w R;unfold Cc at h;refine ar rfl rfl ?_;refine aI ‹_› rfl ?_;refine ez ?_;refine ag (λe=>?_) (λe=>?_)
 ·rw [Po e] at h;refine aI ‹_› rfl ?_;refine aI ‹_› rfl ?_;refine k7 ‹_› rfl ?_;refine aI ‹_› rfl ?_;refine vo w1 hr ?_;refine aI ‹_› rfl ?_;refine k7 ‹_› rfl ?_;refine vo w1 hx ?_;refine bQ ?_;refine bF ?_;refine bQ ?_;refine fe S ?_;refine iH S ?_
  conv=>whnf
  exact fJ h
 ·rw [Pf e] at h
  conv=>whnf
  exact fJ h
end
noncomputable abbrev bd (R:Rw) (s:Nat):Nat:=R.ae.getD s 0
theorem cP {l:List Nat} {i j v:Nat} (h:i<l.length):(l.set i v).getD j 0=if j=i then v else l.getD j 0:=by
 rw [Pc,Pc,QR];by_cases e:i=j
 ·subst e;rw [Po rfl,Po h,Po rfl];rfl
 ·rw [Pf e,Pf (Ne.symm e)]
theorem hM {l:List Nat} {i:Nat} (h:l.length<=i):l.getD i 0=0:=by
 rw [Pc,Qx h];rfl
theorem eG {l m:List Nat} (h:l.length=m.length) (e:∀i,l.getD i 0=m.getD i 0):l=m:=by
 refine List.ext_getElem h λi h1 h2=>?_;have:=e i;rw [Pc,Pc,Pk h1,Pk h2] at this;exact this
theorem aM {l:List Nat} {i j v:Nat} (h:j≠i):(l.set i v).getD j 0=l.getD j 0:=by
 rw [Pc,Pc,QR,Pf (Ne.symm h)]
def nA (x:Nat):Prop:=x<15/\1<=x%8/\x%8<=6
structure ba (G:aE) (R:Rw):Prop where
 bl:R.ae.length=G.size
 kl:R.bE.length=7
 sl:R.bV.length=2
 mn:∀s,bd R s≠0->nA (bd R s)
 kb:∀k s,(K R k).testBit s=true↔bd R s≠0/\bd R s%8=k
 sb:∀c s,(Sd R c).testBit s=true↔bd R s≠0/\bd R s / 8=c
noncomputable def kI (G:aE) (R:Rw):Nat:=cU G R ^^^ xk G.size (λm=>decide (m≠0)) R.ae G.size
structure Sm (R R':Rw):Prop where
 af:R'.af=R.af
 ab:R'.ab=R.ab
 ep:R'.ep=R.ep
 cx:R'.cx=R.cx
section
variable {x y s c k n:Nat} {G:aE} {R R':Rw}
theorem ba.lt (g:ba G R) (h:bd R s≠0):s<G.size:=by
 rcases PG s G.size with q | q
 ·exact q
 ·exact absurd (hM (g.bl ▸ q)) h
theorem qk {x n:Nat} (h:∀i,n<=i->x.testBit i=false):x<2^n:=Nat.lt_pow_two_of_testBit x h
theorem f5 {b:Bool} (h:¬b=true):b=false:=by cases b;rfl;exact absurd rfl h
theorem ba.ok (g:ba G R) (c2:R.af<2) (i8:R.ab<16) (e:R.ep=-1\/(G.aa:Int)<=R.ep/\R.ep+G.aa<G.size):dO G R where
 bl:=g.bl
 bm:=λi _=>by
  rcases RX (bd R i) with h | h
  ·show bd R i<15;lia
  ·exact (g.mn i (P5 h)).1
 kl:=g.kl
 sl:=g.sl
 c2:=c2
 i8:=i8
 e0:=by lia
 e1:=by lia
 ef:=λh=>by lia
 kb:=λk=>qk λi hi=>f5 λh=>absurd (g.lt ((g.kb k i).mp h).1) (QK.mpr hi)
 sb:=λk=>qk λi hi=>f5 λh=>absurd (g.lt ((g.sb k i).mp h).1) (QK.mpr hi)
theorem E5 {p:Nat->Bool} {sz:Nat} {b:List Nat} {v:Nat}:∀{n:Nat},n<=s->xk sz p (b.set s v) n=xk sz p b n
 | 0,_=>rfl
 | n+1,h=>by
  have ih:=E5 (p:=p) (sz:=sz) (b:=b) (v:=v) (n:=n) (by exact Pw ‹_›);unfold xk;rw [ih,aM (by exact Qh ‹_›)]
theorem la {sz:Nat} {b:List Nat} {v:Nat} (hs:s<b.length) (h0:b.getD s 0=0) (hv:v≠0):∀{n:Nat},s<n->xk sz (λm=>decide (m≠0)) (b.set s v) n=xk sz (λm=>decide (m≠0)) b n ^^^ 2^(v*sz+s)
 | 0,h=>absurd h (Qu _)
 | n+1,h=>by
  rcases PG s n with q | q
  ·have ih:=la (sz:=sz) hs h0 hv q;unfold xk;rw [ih,aM (by exact P5 ‹_›)];split
   ·rw [QH,QH,Nat.xor_comm (2^(v*sz+s))]
   ·rfl
  ·have e:s=n:=by exact QU (PX ‹_›) ‹_›
   subst e;unfold xk;rw [E5 (Pt s),cP hs,Po rfl,Po (Px hv),h0,Pf (by decide)]
theorem xx {a b:Nat}:(a ^^^ b) ^^^ b=a:=by rw [QH,Nat.xor_self,Q3]
theorem kK {sz:Nat} {b:List Nat} (hs:s<b.length) (h0:b.getD s 0≠0) {n:Nat} (h:s<n):xk sz (λm=>decide (m≠0)) (b.set s 0) n=xk sz (λm=>decide (m≠0)) b n ^^^ 2^(b.getD s 0*sz+s):=by
 have e:(b.set s 0).set s (b.getD s 0)=b:=eG (by rw [Pq,Pq]) λi=>by
  rw [cP (by rw [Pq];exact hs)];split
  ·subst_vars;rfl
  ·rw [aM ‹_›]
 have:=la (sz:=sz) (b:=b.set s 0) (v:=b.getD s 0) (by rw [Pq];exact hs) (by rw [cP hs,Po rfl]) h0 h;rw [e] at this;rw [this,xx]
theorem oa {l:List Nat} {i j b:Nat} (h:i<l.length):((l.set i (l.getD i 0 ||| 2^s)).getD j 0).testBit b=((l.getD j 0).testBit b || (decide (j=i) && decide (s=b))):=by
 rw [cP h];by_cases e:j=i
 ·subst e;rw [Po rfl,RN,QI,Px rfl,Rr]
 ·rw [Pf e,decide_eq_false e,Sk,SK]
theorem i0 {l:List Nat} {i j b m:Nat} (h:i<l.length):((l.set i (l.getD i 0 ^^^ m)).getD j 0).testBit b=((l.getD j 0).testBit b ^^ (decide (j=i) && m.testBit b)):=by
 rw [cP h];by_cases e:j=i
 ·subst e;rw [Po rfl,Pu,Px rfl,Rr]
 ·rw [Pf e,decide_eq_false e,Sk,Rg]
theorem ba.put (g:ba G R) (hx:nA x) (hs:s<G.size) (h0:bd R s=0):ba G (vX G R x s) where
 bl:=(Pq ..).trans g.bl
 kl:=(Pq ..).trans g.kl
 sl:=(Pq ..).trans g.sl
 mn:=λt ht=>by
  show nA ((R.ae.set s x).getD t 0);have ht:(R.ae.set s x).getD t 0≠0:=ht;rw [cP (g.bl ▸ hs)] at ht ⊢;split at ht
  ·rw [Po ‹_›];exact hx
  ·rw [Pf ‹_›];exact g.mn t ht
 kb:=λk t=>by
  show ((R.bE.set (x%8) (R.bE.getD (x%8) 0 ||| 2^s)).getD k 0).testBit t=true↔(R.ae.set s x).getD t 0≠0/\(R.ae.set s x).getD t 0%8=k;rw [oa (by have:=hx.2.2;rw [g.kl];exact QM ‹_›),Qm,Pe,Pl,Pl,cP (g.bl ▸ hs),g.kb];have:=hx.2.1;split
  ·rename_i e;subst e;constructor
   ·rintro (⟨q,_⟩ | ⟨q,_⟩)
    ·exact absurd h0 q
    ·exact ⟨by exact L9 ‹_›,q.symm⟩
   ·rintro ⟨_,q⟩;exact .inr ⟨q.symm,rfl⟩
  ·exact ⟨λq=>q.elim id λq=>absurd q.2.symm ‹_›,.inl⟩
 sb:=λk t=>by
  show ((R.bV.set (x / 8) (R.bV.getD (x / 8) 0 ||| 2^s)).getD k 0).testBit t=true↔(R.ae.set s x).getD t 0≠0/\(R.ae.set s x).getD t 0 / 8=k;rw [oa (by have:=hx.1;rw [g.sl];exact yW ‹_›),Qm,Pe,Pl,Pl,cP (g.bl ▸ hs),g.sb];have:=hx.2.1;split
  ·rename_i e;subst e;constructor
   ·rintro (⟨q,_⟩ | ⟨q,_⟩)
    ·exact absurd h0 q
    ·exact ⟨by exact L9 ‹_›,q.symm⟩
   ·rintro ⟨_,q⟩;exact .inr ⟨q.symm,rfl⟩
  ·exact ⟨λq=>q.elim id λq=>absurd q.2.symm ‹_›,.inl⟩
theorem nV {a b:Bool}:(a ^^ b)=true↔¬(a=true↔b=true):=by cases a<;>cases b<;>decide
theorem ba.take (g:ba G R) (h0:bd R s≠0):ba G (nf G R s) where
 bl:=(Pq ..).trans g.bl
 kl:=(Pq ..).trans g.kl
 sl:=(Pq ..).trans g.sl
 mn:=λt ht=>by
  show nA ((R.ae.set s 0).getD t 0);have ht:(R.ae.set s 0).getD t 0≠0:=ht;rw [cP (g.bl ▸ g.lt h0)] at ht ⊢;split at ht
  ·exact absurd rfl ht
  ·rw [Pf ‹_›];exact g.mn t ht
 kb:=λk t=>by
  show ((R.bE.set (bd R s%8) (R.bE.getD (bd R s%8) 0 ^^^ 2^s)).getD k 0).testBit t=true↔(R.ae.set s 0).getD t 0≠0/\(R.ae.set s 0).getD t 0%8=k;have hx:=g.mn s h0;rw [i0 (by have:=hx.2.2;rw [g.kl];exact QM ‹_›),cP (g.bl ▸ g.lt h0),QI,nV,g.kb,Pe,Pl,Pl];split
  ·rename_i e;subst e;exact ⟨λq=>absurd ⟨λz=>⟨z.2.symm,rfl⟩,λz=>⟨h0,z.1.symm⟩⟩ q,λq=>absurd rfl q.1⟩
  ·rename_i e;exact ⟨λq=>Rj λz=>q ⟨λy=>absurd y z,λy=>absurd y.2.symm e⟩,λq z=>absurd (z.mp q).2.symm e⟩
 sb:=λk t=>by
  show ((R.bV.set (bd R s / 8) (R.bV.getD (bd R s / 8) 0 ^^^ 2^s)).getD k 0).testBit t=true↔(R.ae.set s 0).getD t 0≠0/\(R.ae.set s 0).getD t 0 / 8=k;have hx:=g.mn s h0;rw [i0 (by have:=hx.1;rw [g.sl];exact yW ‹_›),cP (g.bl ▸ g.lt h0),QI,nV,g.sb,Pe,Pl,Pl];split
  ·rename_i e;subst e;exact ⟨λq=>absurd ⟨λz=>⟨z.2.symm,rfl⟩,λz=>⟨h0,z.1.symm⟩⟩ q,λq=>absurd rfl q.1⟩
  ·rename_i e;exact ⟨λq=>Rj λz=>q ⟨λy=>absurd y z,λy=>absurd y.2.symm e⟩,λq z=>absurd (z.mp q).2.symm e⟩
theorem kI.put (g:ba G R) (hx:x≠0) (hs:s<G.size) (h0:bd R s=0) (k:R.key=kI G R):(vX G R x s).key=kI G (vX G R x s):=by
 show R.key ^^^ 2^(x*G.size+s)=cU G R ^^^ xk G.size (λm=>decide (m≠0)) (R.ae.set s x) G.size;rw [la (g.bl ▸ hs) h0 hx hs,k,kI,QH]
theorem kI.take (g:ba G R) (h0:bd R s≠0) (k:R.key=kI G R):(nf G R s).key=kI G (nf G R s):=by
 show R.key ^^^ 2^(R.ae.getD s 0*G.size+s)=cU G R ^^^ xk G.size (λm=>decide (m≠0)) (R.ae.set s 0) G.size;rw [kK (g.bl ▸ g.lt h0) h0 (g.lt h0),k,kI,QH]
theorem ba.shift (g:ba G R) (h0:bd R x≠0) (hy:y<G.size) (h1:bd R y=0):ba G (lD G R x y):=by
 have g1:=g.take h0;have hxy:x≠y:=λe=>h0 (e ▸ h1);have g2:=g1.put (x:=bd R x) (s:=y) (g.mn x h0) hy (by show (R.ae.set x 0).getD y 0=0;rw [aM (Ne.symm hxy)];exact h1)
 have e1:∀(l:List Nat) (i j b:Nat),i<l.length->¬((l.set i (l.getD i 0 ^^^ 2^x)).getD i 0).testBit y=true->((l.set i (l.getD i 0 ^^^ (2^x ||| 2^y))).getD j 0).testBit b=((((l.set i (l.getD i 0 ^^^ 2^x)).set i ((l.set i (l.getD i 0 ^^^ 2^x)).getD i 0 ||| 2^y)).getD j 0).testBit b):=λl i j b hi hf=>by
  rw [oa (by rw [Pq];exact hi),i0 hi,i0 hi,RN,QI,QI];rw [i0 hi,Px rfl,Rr,QI,decide_eq_false hxy,Rg] at hf;by_cases ej:j=i
  ·subst ej;rw [Px rfl,Rr,Rr,Rr];by_cases eb:y=b
   ·subst eb;rw [Px rfl,decide_eq_false hxy,f5 hf];rfl
   ·rw [decide_eq_false eb,SK,SK]
  ·rw [decide_eq_false ej,Sk,Sk,Sk,SK]
 have hm:=g.mn x h0;have hz:(nf G R x).ae.getD y 0=0:=(aM (Ne.symm hxy)).trans h1
 exact ⟨g2.bl,(Pq ..).trans g.kl,(Pq ..).trans g.sl,g2.mn,
  λk t=>by
   refine Iff.trans ?_ (g2.kb k t);show ((R.bE.set (bd R x%8) _).getD k 0).testBit t=true↔_
   rw [e1 R.bE (bd R x%8) k t (by have:=hm.2.2;rw [g.kl];exact QM ‹_›) λq=>((g1.kb _ y).mp q).1 hz];exact Iff.rfl,
  λk t=>by
   refine Iff.trans ?_ (g2.sb k t);show ((R.bV.set (bd R x / 8) _).getD k 0).testBit t=true↔_
   rw [e1 R.bV (bd R x / 8) k t (by have:=hm.1;rw [g.sl];exact yW ‹_›) λq=>((g1.sb _ y).mp q).1 hz];exact Iff.rfl⟩
theorem kI.shift (g:ba G R) (h0:bd R x≠0) (hy:y<G.size) (h1:bd R y=0) (k:R.key=kI G R):(lD G R x y).key=kI G (lD G R x y):=by
 have hxy:x≠y:=λe=>h0 (e ▸ h1);have:=kI.put (g.take h0) (x:=bd R x) h0 hy (by show (R.ae.set x 0).getD y 0=0;rw [aM (Ne.symm hxy)];exact h1) (kI.take g h0 k);rw [show (lD G R x y).key=(vX G (nf G R x) (bd R x) y).key from (QH ..).symm,this];rfl
theorem ba.congr (g:ba G R) (h1:R'.ae=R.ae) (h2:R'.bE=R.bE) (h3:R'.bV=R.bV):ba G R':=by
 obtain ⟨a,b,c,d,e,f⟩:=g;exact ⟨h1 ▸ a,h2 ▸ b,h3 ▸ c,by unfold bd;rw [h1];exact d,by unfold bd K;rw [h1,h2];exact e,by unfold bd Sd;rw [h1,h3];exact f⟩
end
section
variable {d x y s c k o t sp f i rf rt:Nat} {H:Hp} {a:Ad} {G:aE} {R:Rw} {q:V->Hp->Prop}
def yh:Prop:=∀(w:W H a G R) (g:cq G) (hc:c<2) (hi:i=2*c\/i=2*c+1) (hw:G.br.getD i none=some (o,t,rf,rt)) (hu:∀v,G.br.getD (2*c) none=some v->v.2.1=t->2*c=i) (h:q (.tup [nv rf,nv rt]) H),Call (d+1) 34 [.ref a.g,nv c,nv t] H q
theorem Ea:@yh d c o t i rf rt H a G R q:=ao (S:=λx:(Nat×Nat×Nat×Nat)×(Nat×Nat×Nat×Hp)×(Ad×aE×Rw×(V->Hp->Prop))=>@yh x.1.1 x.1.2.1 x.1.2.2.1 x.1.2.2.2 x.2.1.1 x.2.1.2.1 x.2.1.2.2.1 x.2.1.2.2.2 x.2.2.1 x.2.2.2.1 x.2.2.2.2.1 x.2.2.2.2.2) (x:=((0,0,0,0),(0,0,0,λ_=>none),(jX,bN,fC,λ_ _=>True))) (by
 refine (?_:∀d c o t i rf rt H a G R q,@yh d c o t i rf rt H a G R q) _ _ _ _ _ _ _ _ _ _ _ _;intro d c o t i rf rt H a G R q w g hc hi hw hu h;refine ar rfl rfl ?_;refine bR (x:=2) (by decide) ?_;refine bR (x:=2) (by decide) ?_;refine p_add ?_;refine ⟨show 2<=1000 by decide,?_⟩;refine GO (vs:=[nv (2*c),nv (2*c+1)]) (λk ρ' H'=>H'=H/\2*c+k<=i/\∃y z,ρ'=[some (.ref a.g),some (nv c),some (nv t),y,z]) (λk v ρ' H' K hv hI hn hr _=>?_) (λρ' H' hI=>?_) ⟨rfl,by lia,none,none,rfl⟩
 ·obtain ⟨rfl,e,y,z,rfl⟩:=hI
  have hk:k<2/\v=nv (2*c+k):=by
   rcases k with _ | _ | k
   ·cases hv;exact ⟨by decide,rfl⟩
   ·cases hv;exact ⟨by decide,rfl⟩
   ·cases hv
  obtain ⟨hk,rfl⟩:=hk;refine eQ ‹_› rfl ?_;refine vv w g (by lia) ?_;have next:2*c+k≠i->∀ρ',(∃y z,ρ'=[some (.ref a.g),some (nv c),some (nv t),y,z])->K Fl.next ρ' H':=λhne ρ' e'=>hn _ _ ⟨rfl,by exact P9 ‹_› ‹_›,e'⟩
  cases hw':G.br.getD (2*c+k) none with
  | none=>
   have:2*c+k≠i:=λe=>by rw [e,hw] at hw';cases hw'
   refine tU ?_;refine gx ?_;refine gx ?_;exact next this _ ⟨_,_,rfl⟩
  | some v=>
   obtain ⟨kf,kt,rf',rt'⟩:=v;refine tU ?_;refine o4 ?_;refine dR (i:=1) rfl ?_;refine aR ?_;refine ag (λe1=>?_) (λe1=>?_)
   ·have e2:2*c+k=i:=by
     rcases k with _ | _ | k
     ·exact hu _ hw' e1
     ·lia
     ·lia
    rw [e2,hw] at hw';cases hw';refine dR (i:=2) rfl ?_;refine dR (i:=3) rfl ?_;refine ⟨show 2<=1000 by decide,?_⟩;refine hr _ _ _ ?_;refine aj ?_;exact h
   ·exact next (λe=>e1 (by rw [e,hw] at hw';cases hw';rfl)) _ ⟨_,_,rfl⟩
 ·refine dH hI ?_;rintro rfl e _
  exact absurd e (by show ¬2*c+2<=i;lia)) ((d,c,o,t),(i,rf,rt,H),(a,G,R,q))
noncomputable def CN (G:aE) (e c o t:Nat):Int:=if t=o+2*G.aa\/o=t+2*G.aa then (if cm G c ((o+t) / 2) &&& e=0 then -1 else ((o+t) / 2:Nat)) else -1
theorem Hz (w:W H a G R) (g:cq G) (l:Len G R) (hc:c<2) (ho:o<G.size) (ht:t<G.size) (h:q (.int (CN G (K R 1 &&& Sd R (1-c)) c o t)) H):Call (d+1) 35 [.ref a.p,nv c,nv o,nv t] H q:=by
 unfold CN at h
 have main:(t=o+2*G.aa\/o=t+2*G.aa)->aO (Call d) (.cons (.asg 5 (.bin .fdiv (.bin .add (.loc 2) (.loc 3)) (.bB 2))) (.cons (.asg 6 (.bin .and (.sub (.attr (.loc 0) 21) (.bB 1)) (.sub (.attr (.loc 0) 22) (.bin .sub (.bB 1) (.loc 1))))) (.cons (.bh (.cmp .eq (.bin .and (.sub (.sub (.attr (.attr (.loc 0) 18) 15) (.loc 1)) (.loc 5)) (.loc 6)) (.bB 0)) (.cons (.ret (.neg (.bB 1))) .nil) .nil) (.cons (.ret (.loc 5)) .nil))))
  [some (.ref a.p),some (nv c),some (nv o),some (nv t),some (nv G.aa),none,none] H (di q):=λe=>by
  rw [Po e] at h
  have hp:(o+t) / 2<G.size:=by lia
  refine p_add ?_;refine c9 (y:=2) (by decide) (by decide) ?_;refine aI ‹_› rfl ?_;refine aU (i:=1) w.P.kd (by rw [l.kl];decide) ?_;refine aI ‹_› rfl ?_;refine dt ‹_› ?_;refine aU w.P.sd (by rw [l.sl];exact pT) ?_;refine aS ?_;refine aI ‹_› rfl ?_;refine eQ ‹_› rfl ?_;refine oe ‹_› ‹_› ?_;refine zg ‹_› ‹_› ‹_› ‹_› ?_;refine aS ?_;refine aR ?_;refine ag (λe1=>?_) (λe1=>?_)
  ·rw [Po e1] at h;refine eM ?_;refine aj ?_;exact h
  ·rw [Pf e1] at h;refine aj ?_;exact h
 refine ar rfl rfl ?_;refine aI ‹_› rfl ?_;refine eQ ‹_› rfl ?_;refine c8 ?_;refine bR (x:=2) (by decide) ?_;refine qz ?_;refine ag (λe=>?_) (λe=>?_)
 ·refine c8 ?_;refine bR (x:=2) (by decide) ?_;refine qz ?_;refine ag (λe1=>?_) (λe1=>?_)
  ·rw [Pf (by lia)] at h;refine eM ?_;refine aj ?_;exact h
  ·exact main (.inr (by lia))
 ·refine ag (λe1=>absurd e1 e) (λ_=>?_);exact main (.inl (by lia))
noncomputable def da (G:aE) (R:Rw) (o t:Nat):Nat:=R.ab- (R.ab &&& (G.cK.getD o 0 ||| G.cK.getD t 0))
theorem Hy (w:W H a G R) (g:cq G) (ho:o<G.size) (ht:t<G.size) (h:q (nv (da G R o t)) H):Call (d+1) 36 [.ref a.p,nv o,nv t] H q:=by
 refine ar rfl rfl ?_;refine aI ‹_› rfl ?_;refine eQ ‹_› rfl ?_;refine vq w g ho ?_;refine aI ‹_› rfl ?_;refine eQ ‹_› rfl ?_;refine vq w g ht ?_;refine cT ?_;refine aI ‹_› rfl ?_;refine aI ‹_› rfl ?_;refine aS ?_;refine cC Nat.and_le_left ?_;refine aj ?_;exact h
structure ew (G:aE) (R:Rw) (o t sp f wh rf rt:Nat):Prop where
 ho:o<G.size
 ht:t<G.size
 ot:o≠t
 s4:sp<4
 f4:f<4
 b0:bd R o≠0
 bs:bd R o / 8=R.af
 hw:wh=if sp=2 then ic G R t else t
 w1:wh<G.size
 w2:wh≠o
 e0:sp=2->bd R t=0/\wh≠t/\R.ep=t
 e1:sp=2->R.af=0->G.aa<=t
 pr:sp=1->bd R o%8=1
 d2:bd R o%8=1->t=o+2*G.aa\/o=t+2*G.aa->bd R wh=0
 ca:sp=3->∃i,(i=2*R.af\/i=2*R.af+1)/\G.br.getD i none=some (o,t,rf,rt)/\(∀v,G.br.getD (2*R.af) none=some v->v.2.1=t->2*R.af=i)
 c1:sp=3->bd R rf=R.af*8+4/\bd R t=0/\bd R rt=0/\rf<G.size/\rt<G.size/\rf≠o/\rt≠t
theorem ew.sz {wh:Nat} (m:ew G R o t sp f wh rf rt) (g:cq G):o<64/\t<64/\G.aa<G.size:=by
 have:=g.iW;have:=m.ho;have:=m.ht;have h1:=g.f0;have h2:=g.r0;refine ⟨by exact fX ‹_› ‹_› (by rfl),by exact fX ‹_› ‹_› (by rfl),?_⟩;have:G.aa*1<G.aa*G.bD:=Nat.mul_lt_mul_of_pos_left (by exact Pw ‹_›) (by exact Pw ‹_›);unfold aE.size;lia
theorem Eb {wh:Nat} {R1:Rw} (w:W H a G R1) (g:cq G) (m:ew G R o t sp f wh rf rt) (hs:R1.af=R.af) (h:q (nv wh) H):Call (d+2) 33 [.ref a.p,nv (pk o t sp f)] H q:=by
 have ⟨h1,h2,h3⟩:=m.sz g;have hw:=m.hw;refine ar rfl rfl ?_;refine BL ?_;rw [lP h2];refine EY ?_;rw [lQ h1 h2 m.s4 m.f4];refine ez ?_;refine ag (λe=>?_) λe=>?_
 ·rw [Pf e] at hw;refine aj ?_;rw [<- hw];exact h
 ·have e:sp=2:=PR.mp e;rw [Po e,ic] at hw;refine aI ‹_› rfl ?_;refine aR ?_;refine ag (λe1=>?_) λe1=>?_
  ·have e1:R.af=0:=hs ▸ e1;rw [Po e1] at hw;refine aI ‹_› rfl ?_;refine eQ ‹_› rfl ?_;refine cC (m.e1 e e1) ?_;refine aj ?_;rw [<- hw];exact h
  ·have e1:¬R.af=0:=hs ▸ e1;rw [Pf e1] at hw;refine aI ‹_› rfl ?_;refine eQ ‹_› rfl ?_;refine p_add ?_;refine aj ?_;rw [<- hw];exact h
end
structure eI (kk:Prop) (G:aE) (c r:Nat) (hs:List V) (b:List Nat) (e:Int) (R:Rw):Prop where
 gd:ba G R
 key:kk->R.key=kI G R
 af:R.af=c
 ab:R.ab=r
 cx:R.cx=hs
 ae:R.ae=b
 ep:R.ep=e
section
variable {kk:Prop} {d x y s c r k o t sp f i rf rt:Nat} {H:Hp} {a:Ad} {G:aE} {R:Rw} {q:V->Hp->Prop} {hs:List V} {b:List Nat} {e:Int}
theorem x3 (A E E' S X:Nat):(((A ^^^ E) ^^^ S) ^^^ X) ^^^ (E ^^^ E')=((A ^^^ E') ^^^ S) ^^^ X:=cH λi=>by
 rw [Pu,Pu,Pu,Pu,Pu,Pu,Pu,Pu]
 cases A.testBit i<;>cases E.testBit i<;>cases S.testBit i<;>cases X.testBit i<;>cases E'.testBit i<;>rfl
theorem x4 (A B E S X:Nat):(((A ^^^ E) ^^^ S) ^^^ X) ^^^ (A ^^^ B)=((B ^^^ E) ^^^ S) ^^^ X:=cH λi=>by
 rw [Pu,Pu,Pu,Pu,Pu,Pu,Pu,Pu]
 cases A.testBit i<;>cases E.testBit i<;>cases S.testBit i<;>cases X.testBit i<;>cases B.testBit i<;>rfl
theorem x5 (A S S' X:Nat):((A ^^^ S) ^^^ X) ^^^ (S ^^^ S')=(A ^^^ S') ^^^ X:=cH λi=>by
 rw [Pu,Pu,Pu,Pu,Pu,Pu]
 cases A.testBit i<;>cases S.testBit i<;>cases X.testBit i<;>cases S'.testBit i<;>rfl
theorem eI.fG (m:eI kk G c r hs b e R) (v:Int):eI kk G c r hs b e { R with fG:=v }:=⟨m.gd.congr rfl rfl rfl,m.key,m.af,m.ab,m.cx,m.ae,m.ep⟩
theorem eI.full (m:eI kk G c r hs b e R) (v:Int):eI kk G c r hs b e { R with full:=v }:=⟨m.gd.congr rfl rfl rfl,m.key,m.af,m.ab,m.cx,m.ae,m.ep⟩
theorem eI.GC (m:eI kk G c r hs b e R) (v:List V):eI kk G c r v b e { R with cx:=v }:=⟨m.gd.congr rfl rfl rfl,m.key,m.af,m.ab,rfl,m.ae,m.ep⟩
noncomputable def rN (G:aE) (e:Int):Nat:=if 0<=e then 2^(15*G.size+4+e.toNat%G.aa) else 0
noncomputable def uX (G:aE) (c:Nat):Nat:=if c=1 then yQ G.size G.aa else 0
theorem iV:kI G R=(((R.ab <<< (15*G.size) ^^^ rN G R.ep) ^^^ uX G R.af) ^^^ xk G.size (λm=>decide (m≠0)) R.ae G.size):=rfl
theorem xB:rN G (-1)=0:=Pf (by decide)
theorem eI.OV (m:eI kk G c r hs b e R) (h:-1<=e):eI kk G c r hs b (-1) (xJ G R):=by
 have hb:=m.ep;unfold xJ;split
 ·rename_i h0;refine ⟨m.gd.congr rfl rfl rfl,λz=>?_,m.af,m.ab,m.cx,m.ae,rfl⟩;show R.key ^^^ 2^(15*G.size+4+R.ep.toNat%G.aa)=(((R.ab <<< (15*G.size) ^^^ rN G (-1)) ^^^ uX G R.af) ^^^ xk G.size (λm=>decide (m≠0)) R.ae G.size);rw [m.key z,iV,xB,show rN G R.ep=2^(15*G.size+4+R.ep.toNat%G.aa) from Po h0];have:=x3 (R.ab <<< (15*G.size)) (2^(15*G.size+4+R.ep.toNat%G.aa)) 0 (uX G R.af) (xk G.size (λm=>decide (m≠0)) R.ae G.size);rw [Q3 (2^_)] at this;exact this
 ·exact ⟨m.gd,m.key,m.af,m.ab,m.cx,m.ae,by lia⟩
theorem eI.sep (m:eI kk G c r hs b (-1) R):eI kk G c r hs b e (Cj G R e):=by
 have hb:=m.ep;refine ⟨m.gd.congr rfl rfl rfl,λz=>?_,m.af,m.ab,m.cx,m.ae,rfl⟩;show (if 0<=e then R.key ^^^ 2^(15*G.size+4+e.toNat%G.aa) else R.key)=(((R.ab <<< (15*G.size) ^^^ rN G e) ^^^ uX G R.af) ^^^ xk G.size (λm=>decide (m≠0)) R.ae G.size);rw [m.key z,iV,hb,xB];unfold rN;split
 ·have:=x3 (R.ab <<< (15*G.size)) 0 (2^(15*G.size+4+e.toNat%G.aa)) (uX G R.af) (xk G.size (λm=>decide (m≠0)) R.ae G.size);rw [Nat.zero_xor] at this;exact this
 ·rfl
theorem eI.sr {r':Nat} (m:eI kk G c r hs b e R):eI kk G c r' hs b e (Cc G R r'):=by
 unfold Cc;split
 ·refine ⟨m.gd.congr rfl rfl rfl,λz=>?_,m.af,rfl,m.cx,m.ae,m.ep⟩;show R.key ^^^ (R.ab <<< (15*G.size) ^^^ r' <<< (15*G.size))=(((r' <<< (15*G.size) ^^^ rN G R.ep) ^^^ uX G R.af) ^^^ xk G.size (λm=>decide (m≠0)) R.ae G.size);rw [m.key z,iV];exact x4 ..
 ·rename_i h;exact ⟨m.gd,m.key,m.af,(PR.mp h).symm,m.cx,m.ae,m.ep⟩
theorem eI.flip (m:eI kk G c r hs b e R) (hc:c<2):eI kk G (1-c) r hs b e { R with af:=1-c,key:=R.key ^^^ yQ G.size G.aa }:=by
 have hb:=m.af;refine ⟨m.gd.congr rfl rfl rfl,λz=>?_,rfl,m.ab,m.cx,m.ae,m.ep⟩;show R.key ^^^ yQ G.size G.aa=(((R.ab <<< (15*G.size) ^^^ rN G R.ep) ^^^ uX G (1-c)) ^^^ xk G.size (λm=>decide (m≠0)) R.ae G.size);rw [m.key z,iV,hb,<- x5 _ (uX G c) (uX G (1-c))];congr 1;rcases fj c hc with rfl | rfl
 ·exact (Nat.zero_xor _).symm
 ·exact (Q3 _).symm
theorem eI.GP (m:eI kk G c r hs b e R) {c':Nat}:eI False G c' r hs b e { R with af:=c' }:=⟨m.gd.congr rfl rfl rfl,λz=>z.elim,rfl,m.ab,m.cx,m.ae,m.ep⟩
theorem ba.len (g:ba G R):Len G R:=⟨g.bl,g.kl,g.sl⟩
theorem nA.good (h:nA x):good x:=⟨h.1,QM h.2.2⟩
theorem rD (S:fY H a G) (g:cq G) (m:eI kk G c r hs b e R) (h0:b.getD s 0≠0) (h:∀R',eI kk G c r hs (b.set s 0) e R'->q (nv (b.getD s 0)) (H.put a R')):Call (d+2) 26 [.ref a.p,nv s] (H.put a R) q:=by
 have hb:=m.ae;subst hb;exact Lg S g m.gd.len (m.gd.mn s h0).good (m.gd.lt h0) (h _ ⟨m.gd.take h0,λz=>kI.take m.gd h0 (m.key z),m.af,m.ab,m.cx,rfl,m.ep⟩)
theorem tm (S:fY H a G) (g:cq G) (m:eI kk G c r hs b e R) (hx:nA x) (hs':s<G.size) (h0:b.getD s 0=0) (h:∀R',eI kk G c r hs (b.set s x) e R'->q .none (H.put a R')):Call (d+2) 25 [.ref a.p,nv x,nv s] (H.put a R) q:=by
 have hb:=m.ae;subst hb
 have hx0:x≠0:=λe=>by subst e;exact absurd hx.2.1 (by decide)
 exact Lh S g m.gd.len hx.good hs' (h _ ⟨m.gd.put hx hs' h0,λz=>kI.put m.gd hx0 hs' h0 (m.key z),m.af,m.ab,m.cx,rfl,m.ep⟩)
theorem kR (S:fY H a G) (g:cq G) (m:eI kk G c r hs b e R) (h0:b.getD x 0≠0) (hs':y<G.size) (h1:b.getD y 0=0) (h:∀R',eI kk G c r hs ((b.set x 0).set y (b.getD x 0)) e R'->q .none (H.put a R')):Call (d+2) 27 [.ref a.p,nv x,nv y] (H.put a R) q:=by
 have hb:=m.ae;subst hb;exact Lf S g m.gd.len (m.gd.mn x h0).good (m.gd.lt h0) hs' (h _ ⟨m.gd.shift h0 hs' h1,λz=>kI.shift m.gd h0 hs' h1 (m.key z),m.af,m.ab,m.cx,rfl,m.ep⟩)
theorem HA {wh:Nat} (w:W H a G R) (g:cq G) (l:Len G R) (m:ew G R o t sp f wh rf rt) (h:q (nv (bd R o)) H):Call (d+2) 32 [.ref a.p,nv (pk o t sp f)] H q:=by
 have ⟨h1,h2,h3⟩:=m.sz g;have ho:=m.ho;have ht:=m.ht;refine ar rfl rfl ?_;refine EZ ?_;rw [oF h1 h2];refine aI ‹_› rfl ?_;refine eQ ‹_› rfl ?_;refine Ha ?_;refine ag (λe=>absurd e (by exact absurd ‹_› (Nat.not_le.mpr ‹_›))) λ_=>?_;refine BL ?_;rw [lP h2];refine aI ‹_› rfl ?_;refine eQ ‹_› rfl ?_;refine Ha ?_;refine ag (λe=>absurd e (by exact absurd ‹_› (QK.mpr ‹_›))) λ_=>?_;refine aI ‹_› rfl ?_;refine aU w.P.bd (by rw [l.bl];exact ho) ?_;refine aR ?_;refine ag (λe=>absurd e m.b0) λ_=>?_;refine HM ?_;refine aI ‹_› rfl ?_;refine ez ?_;refine ag (λe=>absurd m.bs e) λ_=>?_;refine aj ?_;exact h
end
noncomputable def gT (R:Rw) (o sp f:Nat):Nat:=if sp=1 then R.af*8+(f+2) else bd R o
noncomputable def cZ (R:Rw) (o t sp f wh:Nat):List Nat:=((R.ae.set wh 0).set o 0).set t (gT R o sp f)
noncomputable def bP (R:Rw) (o t sp f wh rf rt:Nat):List Nat:=if sp=3 then ((cZ R o t sp f wh).set rf 0).set rt (R.af*8+4) else cZ R o t sp f wh
noncomputable def iN (R:Rw) (o t sp f wh:Nat):V:=.tup [nv (pk o t sp f),nv (bd R wh),nv R.ab,.int R.ep,.int R.fG,nv R.key]
noncomputable def gg (G:aE) (R' R:Rw) (o t:Nat):Int:=if bd R o%8=1 then CN G (K R' 1 &&& Sd R' (1-R.af)) R.af o t else -1
structure Done (G:aE) (R:Rw) (o t sp f wh rf rt:Nat) (R':Rw):Prop where
 m:eI True G (1-R.af) (da G R o t) (R.cx++ [iN R o t sp f wh]) (bP R o t sp f wh rf rt) (gg G R' R o t) R'
section
variable {kk:Prop} {d x y s c r k o t sp f i rf rt wh:Nat} {H:Hp} {a:Ad} {G:aE} {R:Rw} {q:V->Hp->Prop} {hs:List V} {b:List Nat} {e:Int}
theorem ew.nA (m:ew G R o t sp f wh rf rt) (g0:ba G R) (hc:R.af<2):nA (gT R o sp f):=by
 unfold gT;have:=m.f4;split
 ·exact ⟨by exact Jx ‹_› ‹_›,by exact Jy ‹_›,by exact Jw ‹_›⟩
 ·exact g0.mn o m.b0
theorem HZ {l:List Nat} {s:Nat} (h:l.getD s 0=0):l.set s 0=l:=eG (Pq ..) λi=>by
 by_cases e:s<l.length
 ·rw [cP e];split
  ·subst_vars;exact h.symm
  ·rfl
 ·rw [List.set_eq_of_length_le (Rx e)]
noncomputable def uW:Nat->S->S
 | n+1,.cons _ r=>uW n r
 | _,s=>s
def rX {R5:Rw} {v9:V}:Prop:=∀(S:fY H a G) (g:cq G) (bl:R.ae.length=G.size) (hc:R.af<2) (m:ew G R o t sp f wh rf rt) (i8:R.ab<16) (lb:da G R o t<16) (hwr:sp=3->wh≠rf) (m5:eI True G R.af R.ab hs (cZ R o t sp f wh) (-1) R5) (h:∀R',eI True G (1-R.af) (da G R o t) hs (bP R o t sp f wh rf rt) (gg G R' R o t) R'->q .none (H.put a R')),aO (Call (d+3)) (uW 14 I3.body) [some (.ref a.p),some (nv (pk o t sp f)),some (nv (bd R o)),some (nv R.af),some (nv o),some (nv t),some (nv sp),some (.tup (if sp=3 then [nv rf,nv rt] else [.int (-1),.int (-1)])),some (nv wh),some v9] (H.put a R5) (di q)
theorem Hu {R5:Rw} {v9:V}:@rX d o t sp f rf rt wh H a G R q hs R5 v9:=ao (S:=λx:(Nat×Nat×Nat×Nat)×(Nat×Nat×Nat×Nat)×(Hp×Ad×aE×Rw)×((V->Hp->Prop)×List V×Rw×V)=>@rX x.1.1 x.1.2.1 x.1.2.2.1 x.1.2.2.2 x.2.1.1 x.2.1.2.1 x.2.1.2.2.1 x.2.1.2.2.2 x.2.2.1.1 x.2.2.1.2.1 x.2.2.1.2.2.1 x.2.2.1.2.2.2 x.2.2.2.1 x.2.2.2.2.1 x.2.2.2.2.2.1 x.2.2.2.2.2.2) (x:=((0,0,0,0),(0,0,0,0),(λ_=>none,jX,bN,fC),(λ_ _=>True,[],fC,.none))) (by
 refine (?_:∀d o t sp f rf rt wh H a G R q hs R5 v9,@rX d o t sp f rf rt wh H a G R q hs R5 v9) _ _ _ _ _ _ _ _ _ _ _ _ _ _ _ _;intro d o t sp f rf rt wh H a G R q hs R5 v9 S g bl hc m i8 lb hwr m5 h;have wR:=S.w;have w5:=wR R5;refine aR ?_;refine fz (λρ' H'=>ρ'=[some (.ref a.p),some (nv (pk o t sp f)),some (nv (bd R o)),some (nv R.af),some (nv o),some (nv t),some (nv sp),some (.tup (if sp=3 then [nv rf,nv rt] else [.int (-1),.int (-1)])),some (nv wh),some v9]/\∃R',H'=H.put a R'/\eI True G R.af R.ab hs (bP R o t sp f wh rf rt) (-1) R') (λρ' H' hI=>?_) λK' j _=>?_
 rotate_left
 ·refine ag (λe=>?_) (λe=>?_)
  ·refine uI (m.c1 e) λe1 e2 e3 e4 e5 e6 e7=>?_
   have hrt:rf≠t:=λz=>by rw [z,e2] at e1;exact absurd (Eq.symm ‹_›) kx
   have b1:(cZ R o t sp f wh).getD rf 0=R.af*8+4:=by unfold cZ;rw [aM hrt,aM e6,aM (Ne.symm (hwr e))];exact e1
   have b2:(cZ R o t sp f wh).getD rt 0=0:=by
    unfold cZ;rw [aM e7];by_cases z:rt=o
    ·rw [z,cP (by rw [Pq,bl];exact m.ho),Po rfl]
    ·rw [aM z];by_cases z:rt=wh
     ·rw [z,cP (by rw [bl];exact m.w1),Po rfl]
     ·rw [aM z];exact e3
   rw [Po e];refine dR (i:=0) rfl ?_;refine dR (i:=1) rfl ?_;refine kR S g m5 (by rw [b1];exact kx) e5 b2 λR' m'=>?_;refine aQ ?_;exact j _ _ ⟨by rw [Po e],_,rfl,by unfold bP;rw [Po e,<- b1];exact m'⟩
  ·exact j _ _ ⟨rfl,_,rfl,by unfold bP;rw [Pf e];exact m5⟩
 obtain ⟨rfl,R6,rfl,m6⟩:=hI;have w6:=wR R6;refine Ed ?_;refine aR ?_;refine fz (λρ' H'=>ρ'=[some (.ref a.p),some (nv (pk o t sp f)),some (nv (bd R o)),some (nv R.af),some (nv o),some (nv t),some (nv sp),some (.tup (if sp=3 then [nv rf,nv rt] else [.int (-1),.int (-1)])),some (nv wh),some v9]/\∃R',H'=H.put a R'/\eI True G R.af R.ab hs (bP R o t sp f wh rf rt) (gg G R' R o t) R') (λρ' H' hI=>?_) λK' j _=>?_
 rotate_left
 ·refine ag (λe=>?_) (λe=>?_)
  ·refine i6 S ?_;have m7:=m6.fG 0;generalize { R6 with fG:=0 }=R7 at m7 ⊢;have w7:=wR R7;refine Hz w7 g m7.gd.len hc m.ho m.ht ?_;refine K8 S g ?_;refine aQ ?_;exact j _ _ ⟨rfl,_,rfl,by unfold gg;rw [Po e];exact m7.sep⟩
  ·exact j _ _ ⟨rfl,_,rfl,by unfold gg;rw [Pf e];exact m6⟩
 obtain ⟨rfl,R7,rfl,m7⟩:=hI;have w7:=wR R7;refine Hy w7 g m.ho m.ht ?_
 have er:da G R7 o t=da G R o t:=by unfold da;rw [m7.ab]
 rw [er];refine K7 S (m7.ab ▸ i8) lb ?_;have m8:=m7.sr (r':=da G R o t)
 have e8:gg G (Cc G R7 (da G R o t)) R o t=gg G R7 R o t:=by unfold Cc;split<;>rfl
 rw [<- e8] at m8;generalize Cc G R7 (da G R o t)=R8 at m8 ⊢;have w8:=wR R8;refine aQ ?_;refine aR ?_;refine fz (λρ' H'=>ρ'=[some (.ref a.p),some (nv (pk o t sp f)),some (nv (bd R o)),some (nv R.af),some (nv o),some (nv t),some (nv sp),some (.tup (if sp=3 then [nv rf,nv rt] else [.int (-1),.int (-1)])),some (nv wh),some v9]/\∃R',H'=H.put a R'/\eI True G R.af (da G R o t) hs (bP R o t sp f wh rf rt) (gg G R' R o t) R') (λρ' H' hI=>?_) λK' j _=>?_
 rotate_left
 ·refine ag (λe=>?_) (λe=>?_)
  ·refine aI ‹_› rfl ?_;refine bF ?_;refine gW ?_;refine pQ S ?_;exact j _ _ ⟨rfl,_,rfl,m8.full _⟩
  ·exact j _ _ ⟨rfl,_,rfl,m8⟩
 obtain ⟨rfl,R9,rfl,m9⟩:=hI;have w9:=wR R9;refine dt ‹_› ?_;refine lE S ?_;have w10:=wR { R9 with af:=1-R.af };refine aI ‹_› rfl ?_;refine aI ‹_› rfl ?_;refine k7 ‹_› rfl ?_;refine bF ?_;refine bQ ?_;refine fe S ?_
 refine fJ (h _ (m9.flip hc))) ((d,o,t,sp),(f,rf,rt,wh),(H,a,G,R),(q,hs,R5,v9))
def rY {R4:Rw} {v9:V}:Prop:=∀(S:fY H a G) (g:cq G) (g0:ba G R) (hc:R.af<2) (m:ew G R o t sp f wh rf rt) (i8:R.ab<16) (lb:da G R o t<16) (hwr:sp=3->wh≠rf) (m4:eI True G R.af R.ab hs (R.ae.set wh 0) (-1) R4) (h:∀R',eI True G (1-R.af) (da G R o t) hs (bP R o t sp f wh rf rt) (gg G R' R o t) R'->q .none (H.put a R')),aO (Call (d+3)) (uW 13 I3.body) [some (.ref a.p),some (nv (pk o t sp f)),some (nv (bd R o)),some (nv R.af),some (nv o),some (nv t),some (nv sp),some (.tup (if sp=3 then [nv rf,nv rt] else [.int (-1),.int (-1)])),some (nv wh),some v9] (H.put a R4) (di q)
theorem Hw {R4:Rw} {v9:V}:@rY d o t sp f rf rt wh H a G R q hs R4 v9:=ao (S:=λx:(Nat×Nat×Nat×Nat)×(Nat×Nat×Nat×Nat)×(Hp×Ad×aE×Rw)×((V->Hp->Prop)×List V×Rw×V)=>@rY x.1.1 x.1.2.1 x.1.2.2.1 x.1.2.2.2 x.2.1.1 x.2.1.2.1 x.2.1.2.2.1 x.2.1.2.2.2 x.2.2.1.1 x.2.2.1.2.1 x.2.2.1.2.2.1 x.2.2.1.2.2.2 x.2.2.2.1 x.2.2.2.2.1 x.2.2.2.2.2.1 x.2.2.2.2.2.2) (x:=((0,0,0,0),(0,0,0,0),(λ_=>none,jX,bN,fC),(λ_ _=>True,[],fC,.none))) (by
 refine (?_:∀d o t sp f rf rt wh H a G R q hs R4 v9,@rY d o t sp f rf rt wh H a G R q hs R4 v9) _ _ _ _ _ _ _ _ _ _ _ _ _ _ _ _;intro d o t sp f rf rt wh H a G R q hs R4 v9 S g g0 hc m i8 lb hwr m4 h;have ⟨h1,h2,h3⟩:=m.sz g;have wR:=S.w;have w4:=wR R4;have b4:(R.ae.set wh 0).getD o 0=bd R o:=aM (Ne.symm m.w2)
 have t4:((R.ae.set wh 0).set o 0).getD t 0=0:=by
  rw [aM (Ne.symm m.ot)];by_cases z:t=wh
  ·rw [z,cP (by rw [g0.bl];exact m.w1),Po rfl]
  ·rw [aM z];have hw:=m.hw;by_cases z':sp=2
   ·exact (m.e0 z').1
   ·rw [Pf z'] at hw;exact absurd hw.symm z
 refine aR ?_;refine fz (λρ' H'=>ρ'=[some (.ref a.p),some (nv (pk o t sp f)),some (nv (bd R o)),some (nv R.af),some (nv o),some (nv t),some (nv sp),some (.tup (if sp=3 then [nv rf,nv rt] else [.int (-1),.int (-1)])),some (nv wh),some v9]/\∃R',H'=H.put a R'/\eI True G R.af R.ab hs (cZ R o t sp f wh) (-1) R') (λρ' H' hI=>?_) λK' j _=>?_
 rotate_left
 ·refine ag (λe=>?_) (λe=>?_)
  ·refine rD S g m4 (b4 ▸ m.b0) λR' m'=>?_;refine wM ?_;refine Mq (by rw [lQ h1 h2 m.s4 m.f4];exact e) ?_;rw [CS h1 h2 m.f4];refine IZ ?_ (by exact Pa ‹_› (by decide));refine tm S g m' (show Internal.nA (R.af*8+(f+2)) from by have:=m.nA g0 hc;unfold gT at this;rw [Po e] at this;exact this) m.ht t4 λR' m'=>?_;refine aQ ?_;exact j _ _ ⟨rfl,_,rfl,by unfold cZ gT;rw [Po e];exact m'⟩
  ·refine kR S g m4 (b4 ▸ m.b0) m.ht ((aM (Ne.symm m.ot)).symm.trans t4) λR' m'=>?_;refine aQ ?_;exact j _ _ ⟨rfl,_,rfl,by unfold cZ gT;rw [Pf e,<- b4];exact m'⟩
 obtain ⟨rfl,R5,rfl,m5⟩:=hI
 exact Hu S g g0.bl hc m i8 lb hwr m5 h) ((d,o,t,sp),(f,rf,rt,wh),(H,a,G,R),(q,hs,R4,v9))
set_option maxHeartbeats 1000000 in
def yg:Prop:=∀(S:fY H a G) (g:cq G) (ok:dO G R) (g0:ba G R) (hk:R.key=kI G R) (m:ew G R o t sp f wh rf rt) (hh:R.cx.length<100) (lb:da G R o t<16) (hwr:sp=3->wh≠rf) (h:∀R',Done G R o t sp f wh rf rt R'->q .none (H.put a R')),Call (d+4) 40 [.ref a.p,nv (pk o t sp f)] (H.put a R) q
theorem K6:@yg d o t sp f rf rt wh H a G R q:=ao (S:=λx:(Nat×Nat×Nat×Nat)×(Nat×Nat×Nat×Nat)×(Hp×Ad×aE×Rw)×(V->Hp->Prop)=>@yg x.1.1 x.1.2.1 x.1.2.2.1 x.1.2.2.2 x.2.1.1 x.2.1.2.1 x.2.1.2.2.1 x.2.1.2.2.2 x.2.2.1.1 x.2.2.1.2.1 x.2.2.1.2.2.1 x.2.2.1.2.2.2 x.2.2.2) (x:=((0,0,0,0),(0,0,0,0),(λ_=>none,jX,bN,fC),λ_ _=>True)) (by
 refine (?_:∀d o t sp f rf rt wh H a G R q,@yg d o t sp f rf rt wh H a G R q) _ _ _ _ _ _ _ _ _ _ _ _ _;intro d o t sp f rf rt wh H a G R q S g ok g0 hk m hh lb hwr h;have ⟨h1,h2,h3⟩:=m.sz g;have hc:=ok.c2;have w0:=S.w R;have wR:=S.w;have m0:eI True G R.af R.ab R.cx R.ae R.ep R:=⟨g0,λ_=>hk,rfl,rfl,rfl,rfl,rfl⟩;refine ar rfl rfl ?_;refine HA w0 g ok.len m ?_;refine aI ‹_› rfl ?_;refine EZ ?_;rw [oF h1 h2];refine BL ?_;rw [lP h2];refine EY ?_;rw [lQ h1 h2 m.s4 m.f4];refine eM ?_;refine eM ?_;refine ⟨show 2<=1000 by decide,?_⟩;refine aR ?_;refine uC 7 (.tup (if sp=3 then [nv rf,nv rt] else [.int (-1),.int (-1)])) ?_ λK' j=>?_
 rotate_left
 ·refine ag (λe=>?_) (λe=>?_)
  ·refine gK (m.ca e) λi hi hw hu=>?_;refine aI ‹_› rfl ?_;refine Ea w0 g hc hi hw hu ?_;exact gF j (by rw [Po e])
  ·exact eD j rfl (by rw [Pf e])
 refine Eb w0 g m rfl ?_;refine aI ‹_› rfl ?_;refine aU w0.P.bd (by rw [ok.bl];exact m.w1) ?_;refine aI ‹_› rfl ?_;refine ⟨gJ w0.P.hs,?_⟩;refine aI ‹_› rfl ?_;refine aI ‹_› rfl ?_;refine aI ‹_› rfl ?_;refine aI ‹_› rfl ?_;refine ⟨show 6<=1000 by decide,?_⟩;refine qF w0.P.hs (show _<1000000 by exact Pa ‹_› (by decide)) ?_;rw [vW S];have m1:=m0.GC (R.cx++ [iN R o t sp f wh]);show ji .none (aO _ _ _ (H.put a { R with cx:=R.cx++ [iN R o t sp f wh] }) _);generalize { R with cx:=R.cx++ [iN R o t sp f wh] }=R1 at m1 ⊢;refine aQ ?_;refine K9 S g ?_;have m2:=m1.OV ok.e0;generalize xJ G R1=R2 at m2 ⊢;have w2:=wR R2;refine aQ ?_;refine aI ‹_› rfl ?_;refine bF ?_;refine gW ?_;refine i6 S ?_;have m3:=m2.fG (R2.fG+1);generalize { R2 with fG:=R2.fG+1 }=R3 at m3 ⊢;have w3:=wR R3;refine ez ?_;refine fz (λρ' H'=>ρ'=[some (.ref a.p),some (nv (pk o t sp f)),some (nv (bd R o)),some (nv R.af),some (nv o),some (nv t),some (nv sp),some (.tup (if sp=3 then [nv rf,nv rt] else [.int (-1),.int (-1)])),some (nv wh),some (nv (bd R wh))]/\∃R',H'=H.put a R'/\eI True G R.af R.ab (R.cx++ [iN R o t sp f wh]) (R.ae.set wh 0) (-1) R') (λρ' H' hI=>?_) λK' j _=>?_
 rotate_left
 ·refine ag (λe=>?_) (λe=>?_)
  ·refine rD S g m3 e λR' m'=>?_;refine wM ?_;refine i6 S ?_;exact j _ _ ⟨rfl,_,rfl,m'.fG 0⟩
  ·have e:bd R wh=0:=PR.mp e;exact j _ _ ⟨rfl,_,rfl,(HZ e).symm ▸ m3⟩
 obtain ⟨rfl,R4,rfl,m4⟩:=hI
 exact Hw S g g0 hc m ok.i8 lb hwr m4 λR' m'=>h R' ⟨m'⟩) ((d,o,t,sp),(f,rf,rt,wh),(H,a,G,R),q)
end
section
variable {kk:Prop} {d x y s c r k o t sp f i rf rt wh:Nat} {H:Hp} {a:Ad} {G:aE} {R:Rw} {q:V->Hp->Prop} {hs:List V} {b:List Nat} {e:Int}
theorem gs {l:List Nat} {n i j v:Nat} (hl:l.length=n) (h:i<n):(l.set i v).getD j 0=if j=i then v else l.getD j 0:=cP (hl ▸ h)
theorem ls {l:List Nat} {n i v:Nat} (hl:l.length=n):(l.set i v).length=n:=(Pq ..).trans hl
theorem fh (hl:R.ae.length=G.size):(cZ R o t sp f wh).length=G.size:=ls (ls (ls hl))
theorem eK (hl:R.ae.length=G.size):(bP R o t sp f wh rf rt).length=G.size:=by
 unfold bP;split
 ·exact ls (ls (fh hl))
 ·exact fh hl
theorem ja (m:ew G R o t sp f wh rf rt) (hl:R.ae.length=G.size):(cZ R o t sp f wh).getD i 0=if i=t then gT R o sp f else if i=o then 0 else if i=wh then 0 else bd R i:=by
 unfold cZ;rw [gs (ls (ls hl)) m.ht,gs (ls hl) m.ho,gs hl m.w1]
theorem dq (m:ew G R o t sp f wh rf rt) (hl:R.ae.length=G.size):(bP R o t sp f wh rf rt).getD i 0=if sp=3/\i=rt then R.af*8+4 else if sp=3/\i=rf then 0 else if i=t then gT R o sp f else if i=o then 0 else if i=wh then 0 else bd R i:=by
 unfold bP;split
 ·rename_i e;refine uI (m.c1 e) λe1 e2 e3 e4 e5 e6 e7=>?_;rw [gs (ls (fh hl)) e5,gs (fh hl) e4,ja m hl];by_cases z1:i=rt
  ·rw [Po z1,Po ⟨e,z1⟩]
  ·rw [Pf z1,Pf (show ¬(sp=3/\i=rt) from λz=>z1 z.2)];by_cases z2:i=rf
   ·rw [Po z2,Po ⟨e,z2⟩]
   ·rw [Pf z2,Pf (show ¬(sp=3/\i=rf) from λz=>z2 z.2)]
 ·rename_i e;rw [Pf (show ¬(sp=3/\i=rt) from λz=>e z.1),Pf (show ¬(sp=3/\i=rf) from λz=>e z.1),ja m hl]
noncomputable def uB (R:Rw) (o t wh:Nat):List Nat:=((R.ae.set wh 0).set t 0).set o (bd R o)
theorem pM (m:ew G R o t sp f wh rf rt) (hl:R.ae.length=G.size):(uB R o t wh).getD i 0=if i=o then bd R o else if i=t then 0 else if i=wh then 0 else bd R i:=by
 unfold uB;rw [gs (ls (ls hl)) m.ho,gs (ls hl) m.ht,gs hl m.w1]
theorem Og (m:ew G R o t sp f wh rf rt) (hl:R.ae.length=G.size) (h3:sp≠3):((bP R o t sp f wh rf rt).set t 0).set o (bd R o)=uB R o t wh:=
 eG ((ls (ls (eK hl))).trans (ls (ls (ls hl))).symm) λi=>by
  rw [gs (ls (eK hl)) m.ho,gs (eK hl) m.ht,dq m hl,pM m hl,Pf (show ¬(sp=3/\i=rt) from λz=>h3 z.1),Pf (show ¬(sp=3/\i=rf) from λz=>h3 z.1)];by_cases z1:i=o
  ·rw [Po z1,Po z1]
  ·rw [Pf z1,Pf z1,Pf z1];by_cases z2:i=t
   ·rw [Po z2,Po z2]
   ·rw [Pf z2,Pf z2,Pf z2]
theorem Of (m:ew G R o t sp f wh rf rt) (hl:R.ae.length=G.size) (h3:sp=3):((((bP R o t sp f wh rf rt).set t 0).set o (bd R o)).set rt 0).set rf (R.af*8+4)=uB R o t wh:=by
 refine uI (m.c1 h3) λe1 e2 e3 e4 e5 e6 e7=>?_
 have hrt:rf≠t:=λz=>by rw [z,e2] at e1;exact absurd (Eq.symm ‹_›) kx
 have hrr:rf≠rt:=λz=>by rw [z,e3] at e1;exact absurd (Eq.symm ‹_›) kx
 have hro:rt≠o:=λz=>m.b0 (z ▸ e3)
 have hw:wh=t:=by have:=m.hw;rw [Pf (show ¬sp=2 by lia)] at this;exact this
 refine eG ((ls (ls (ls (ls (eK hl))))).trans (ls (ls (ls hl))).symm) λi=>?_;rw [gs (ls (ls (ls (eK hl)))) e4,gs (ls (ls (eK hl))) e5,gs (ls (eK hl)) m.ho,gs (eK hl) m.ht,dq m hl,pM m hl];by_cases z1:i=rf
 ·subst z1;rw [Po rfl,Pf e6,Pf hrt,Pf (hw ▸ hrt)];exact e1.symm
 ·rw [Pf z1];by_cases z2:i=rt
  ·subst z2;rw [Po rfl,Pf hro,Pf e7,Pf (hw ▸ e7)];exact e3.symm
  ·rw [Pf z2,Pf (show ¬(sp=3/\i=rt) from λz=>z2 z.2),Pf (show ¬(sp=3/\i=rf) from λz=>z1 z.2)];by_cases z1:i=o
   ·rw [Po z1,Po z1]
   ·rw [Pf z1,Pf z1,Pf z1];by_cases z2:i=t
    ·rw [Po z2,Po z2]
    ·rw [Pf z2,Pf z2,Pf z2]
theorem LV (m:ew G R o t sp f wh rf rt) (hl:R.ae.length=G.size):(uB R o t wh).set wh (bd R wh)=R.ae:=
 eG ((ls (ls (ls (ls hl)))).trans hl.symm) λi=>by
  rw [gs (show (uB R o t wh).length=G.size from ls (ls (ls hl))) m.w1,pM m hl];have hw:=m.hw;by_cases z1:i=wh
  ·rw [Po z1,z1]
  ·rw [Pf z1,Pf z1];by_cases z2:i=o
   ·rw [Po z2,z2]
   ·rw [Pf z2];by_cases z3:i=t
    ·rw [Po z3,z3];by_cases e:sp=2
     ·exact (m.e0 e).1.symm
     ·rw [Pf e] at hw;exact absurd (z3.trans hw.symm) z1
    ·rw [Pf z3]
theorem Oe (m:ew G R o t sp f wh rf rt) (hl:R.ae.length=G.size) (h0:bd R wh=0):uB R o t wh=R.ae:=by
 have:=LV m hl;rw [h0] at this
 have e:(uB R o t wh).getD wh 0=0:=by
  rw [pM m hl,Pf m.w2,Po rfl,ite_self]
 rw [HZ e] at this;exact this
theorem Jv {x:Addr} {vs:List V} {v:V} (h1:H x=some (.list (vs++ [v]))) (h:q v (H.upd x (.list vs))):sP (.ref x) H q:=EF.mk h1 h
def rW {R2:Rw}:Prop:=∀(S:fY H a G) (g:cq G) (g0:ba G R) (hc:R.af<2) (hk:R.key=kI G R) (m:ew G R o t sp f wh rf rt) {r':Nat} {e':Int} (m2:eI False G R.af r' hs (((bP R o t sp f wh rf rt).set t 0).set o (bd R o)) e' R2) (h:∀R',eI True G R.af R.ab hs R.ae R.ep R'->q .none (H.put a R')),aO (Call (d+3)) (uW 8 LK.body) [some (.ref a.p),some (nv (pk o t sp f)),some (nv (bd R wh)),some (nv R.ab),some (.int R.ep),some (.int R.fG),some (nv R.key),some (nv R.af),some (nv o),some (nv t),some (nv sp),none] (H.put a R2) (di q)
theorem Ht {R2:Rw}:@rW d o t sp f rf rt wh H a G R q hs R2:=ao (S:=λx:(Nat×Nat×Nat×Nat)×(Nat×Nat×Nat×Nat)×(Hp×Ad×aE×Rw)×((V->Hp->Prop)×List V×Rw)=>@rW x.1.1 x.1.2.1 x.1.2.2.1 x.1.2.2.2 x.2.1.1 x.2.1.2.1 x.2.1.2.2.1 x.2.1.2.2.2 x.2.2.1.1 x.2.2.1.2.1 x.2.2.1.2.2.1 x.2.2.1.2.2.2 x.2.2.2.1 x.2.2.2.2.1 x.2.2.2.2.2) (x:=((0,0,0,0),(0,0,0,0),(λ_=>none,jX,bN,fC),(λ_ _=>True,[],fC))) (by
 refine (?_:∀d o t sp f rf rt wh H a G R q hs R2,@rW d o t sp f rf rt wh H a G R q hs R2) _ _ _ _ _ _ _ _ _ _ _ _ _ _ _;intro d o t sp f rf rt wh H a G R q hs R2 S g g0 hc hk m r' e' m2 h;have ⟨h1,h2,h3⟩:=m.sz g;have wR:=S.w;have w2:=wR R2;have hl:=g0.bl;refine aR ?_;refine fz (λρ' H'=>(∃z,ρ'=[some (.ref a.p),some (nv (pk o t sp f)),some (nv (bd R wh)),some (nv R.ab),some (.int R.ep),some (.int R.fG),some (nv R.key),some (nv R.af),some (nv o),some (nv t),some (nv sp),z])/\∃R',H'=H.put a R'/\eI False G R.af r' hs (uB R o t wh) e' R') (λρ' H' hI=>?_) λK' j _=>?_
 rotate_left
 ·refine ag (λe=>?_) (λe=>?_)
  ·have e:sp=3:=e;refine gK (m.ca e) λi hi hw hu=>?_;refine uI (m.c1 e) λe1 e2 e3 e4 e5 e6 e7=>?_
   have hrt:rf≠t:=λz=>by rw [z,e2] at e1;exact absurd (Eq.symm ‹_›) kx
   have hrr:rf≠rt:=λz=>by rw [z,e3] at e1;exact absurd (Eq.symm ‹_›) kx
   have hro:rt≠o:=λz=>m.b0 (z ▸ e3)
   have hw':wh=t:=by have:=m.hw;rw [Pf (show ¬sp=2 by lia)] at this;exact this
   have b1:(((bP R o t sp f wh rf rt).set t 0).set o (bd R o)).getD rt 0=R.af*8+4:=by
    rw [aM hro,aM e7,dq m hl,Po ⟨e,rfl⟩]
   have b2:(((bP R o t sp f wh rf rt).set t 0).set o (bd R o)).getD rf 0=0:=by
    rw [aM e6,aM hrt,dq m hl,Pf (show ¬(sp=3/\rf=rt) from λz=>hrr z.2),Po ⟨e,rfl⟩]
   refine aI ‹_› rfl ?_;refine Ea w2 g hc hi hw hu ?_;refine dR (i:=1) rfl ?_;refine dR (i:=0) rfl ?_;refine kR S g m2 (by rw [b1];exact kx) e4 b2 λR' m'=>?_;refine aQ ?_;rw [b1,Of m hl e] at m';exact j _ _ ⟨⟨_,rfl⟩,_,rfl,m'⟩
  ·rw [Og m hl e] at m2;exact j _ _ ⟨⟨_,rfl⟩,_,rfl,m2⟩
 obtain ⟨⟨z,rfl⟩,R3,rfl,m3⟩:=hI;have w3:=wR R3;refine ez ?_;refine fz (λρ' H'=>ρ'=[some (.ref a.p),some (nv (pk o t sp f)),some (nv (bd R wh)),some (nv R.ab),some (.int R.ep),some (.int R.fG),some (nv R.key),some (nv R.af),some (nv o),some (nv t),some (nv sp),z]/\∃R',H'=H.put a R'/\eI False G R.af r' hs R.ae e' R') (λρ' H' hI=>?_) λK' j _=>?_
 rotate_left
 ·refine ag (λe=>?_) (λe=>?_)
  ·refine Eb w3 g m m3.af ?_;refine tm S g m3 (g0.mn wh e) m.w1 (by rw [pM m hl,Pf m.w2,Po rfl,ite_self]) λR' m'=>?_;refine aQ ?_;rw [LV m hl] at m';exact j _ _ ⟨rfl,_,rfl,m'⟩
  ·have e:bd R wh=0:=PR.mp e;rw [Oe m hl e] at m3;exact j _ _ ⟨rfl,_,rfl,m3⟩
 obtain ⟨rfl,R4,rfl,m4⟩:=hI;have w4:=wR R4;refine aR ?_;refine fz (λρ' H'=>ρ'=[some (.ref a.p),some (nv (pk o t sp f)),some (nv (bd R wh)),some (nv R.ab),some (.int R.ep),some (.int R.fG),some (nv R.key),some (nv R.af),some (nv o),some (nv t),some (nv sp),z]/\∃R',H'=H.put a R'/\eI False G R.af r' hs R.ae e' R') (λρ' H' hI=>?_) λK' j _=>?_
 rotate_left
 ·refine ag (λe=>?_) (λe=>?_)
  ·refine aI ‹_› rfl ?_;refine bF ?_;refine c8 ?_;refine pQ S ?_;exact j _ _ ⟨rfl,_,rfl,m4.full _⟩
  ·exact j _ _ ⟨rfl,_,rfl,m4⟩
 obtain ⟨rfl,R5,rfl,m5⟩:=hI;have w5:=wR R5;refine iH S ?_;have w6:=wR { R5 with ab:=R.ab };refine lF S ?_;have w7:=wR { R5 with ab:=R.ab,ep:=R.ep };refine i6 S ?_;have w8:=wR { R5 with ab:=R.ab,ep:=R.ep,fG:=R.fG };refine fe S ?_;refine fJ (h _ ⟨m5.gd.congr rfl rfl rfl,λ_=>?_,m5.af,rfl,m5.cx,m5.ae,rfl⟩);show R.key=(((R.ab <<< (15*G.size) ^^^ rN G R.ep) ^^^ uX G R5.af) ^^^ xk G.size (λm=>decide (m≠0)) R5.ae G.size)
 rw [hk,iV,m5.af,m5.ae]) ((d,o,t,sp),(f,rf,rt,wh),(H,a,G,R),(q,hs,R2))
set_option maxHeartbeats 1000000 in
def yf {R1:Rw}:Prop:=∀(S:fY H a G) (g:cq G) (g0:ba G R) (hc:R.af<2) (hk:R.key=kI G R) (m:ew G R o t sp f wh rf rt) {r':Nat} {e':Int} (m1:eI True G (1-R.af) r' (hs++ [iN R o t sp f wh]) (bP R o t sp f wh rf rt) e' R1) (h:∀R',eI True G R.af R.ab hs R.ae R.ep R'->q .none (H.put a R')),Call (d+4) 41 [.ref a.p] (H.put a R1) q
theorem K5 {R1:Rw}:@yf d o t sp f rf rt wh H a G R q hs R1:=ao (S:=λx:(Nat×Nat×Nat×Nat)×(Nat×Nat×Nat×Nat)×(Hp×Ad×aE×Rw)×((V->Hp->Prop)×List V×Rw)=>@yf x.1.1 x.1.2.1 x.1.2.2.1 x.1.2.2.2 x.2.1.1 x.2.1.2.1 x.2.1.2.2.1 x.2.1.2.2.2 x.2.2.1.1 x.2.2.1.2.1 x.2.2.1.2.2.1 x.2.2.1.2.2.2 x.2.2.2.1 x.2.2.2.2.1 x.2.2.2.2.2) (x:=((0,0,0,0),(0,0,0,0),(λ_=>none,jX,bN,fC),(λ_ _=>True,[],fC))) (by
 refine (?_:∀d o t sp f rf rt wh H a G R q hs R1,@yf d o t sp f rf rt wh H a G R q hs R1) _ _ _ _ _ _ _ _ _ _ _ _ _ _ _;intro d o t sp f rf rt wh H a G R q hs R1 S g g0 hc hk m r' e' m1 h;have ⟨h1,h2,h3⟩:=m.sz g;have wR:=S.w;have w1:=wR R1;have hl:=g0.bl;refine ar rfl rfl ?_;refine aI ‹_› rfl ?_;refine l6 w1.P.hs ?_;refine aR ?_;refine ag (λe=>?_) (λ_=>?_)
 ·rw [m1.cx,Pg] at e;exact absurd e (by show ¬_+1=0;exact kx)
 refine aI ‹_› rfl ?_;refine Jv (w1.P.hs.trans (by rw [m1.cx])) ?_;rw [vW S];have m2:=m1.GC hs;show tupK _ _ _ λρ=>aO _ _ ρ (H.put a { R1 with cx:=hs }) _;generalize { R1 with cx:=hs }=R2 at m2 ⊢;have w2:=wR R2;refine mM rfl ?_;refine aI ‹_› rfl ?_;rw [m2.af];refine dt (by exact pT) ?_;rw [LZ ‹_›];refine lE S ?_;have m3:=m2.GP (c':=R.af);generalize { R2 with af:=R.af }=R3 at m3 ⊢;have w3:=wR R3;refine EZ ?_;rw [oF h1 h2];refine BL ?_;rw [lP h2];refine EY ?_;rw [lQ h1 h2 m.s4 m.f4];refine aR ?_;refine fz (λρ' H'=>ρ'=[some (.ref a.p),some (nv (pk o t sp f)),some (nv (bd R wh)),some (nv R.ab),some (.int R.ep),some (.int R.fG),some (nv R.key),some (nv R.af),some (nv o),some (nv t),some (nv sp),none]/\∃R',H'=H.put a R'/\eI False G R.af r' hs (((bP R o t sp f wh rf rt).set t 0).set o (bd R o)) e' R') (λρ' H' hI=>?_) λK' j _=>?_
 rotate_left
 ·have b0:((bP R o t sp f wh rf rt).set t 0).getD o 0=0:=by
   rw [aM m.ot,dq m hl,Pf (show ¬(sp=3/\o=rt) from λz=>m.b0 (z.2.symm ▸ (m.c1 z.1).2.2.1)),Pf (show ¬(sp=3/\o=rf) from λz=>(m.c1 z.1).2.2.2.2.2.1 z.2.symm),Pf m.ot,Po rfl]
  have b1:(bP R o t sp f wh rf rt).getD t 0=gT R o sp f:=by
   rw [dq m hl,Pf (show ¬(sp=3/\t=rt) from λz=>(m.c1 z.1).2.2.2.2.2.2 z.2.symm),Pf (show ¬(sp=3/\t=rf) from λz=>?_),Po rfl];have h1:=(m.c1 z.1).1;rw [<- z.2,(m.c1 z.1).2.1] at h1;exact absurd (Eq.symm ‹_›) kx
  have hm:=m.nA g0 hc;refine ag (λe=>?_) (λe=>?_)
  ·have e:sp=1:=e;refine rD S g m3 (by rw [b1];exact λz=>by rw [z] at hm;exact absurd hm.2.1 (by decide)) λR' m'=>?_;refine wM ?_;refine IZ ?_ (by exact Pa ‹_› (by decide))
   have eo:R.af*8+1=bd R o:=by have h1:=m.pr e;have h2:=m.bs;exact JD ‹_› ‹_›
   rw [eo];refine tm S g m' (g0.mn o m.b0) m.ho b0 λR' m'=>?_;refine aQ ?_;exact j _ _ ⟨rfl,_,rfl,m'⟩
  ·have e:¬sp=1:=e;have ep:gT R o sp f=bd R o:=Pf e;refine kR S g m3 (by rw [b1,ep];exact m.b0) m.ho ((aM m.ot).symm.trans b0) λR' m'=>?_;refine aQ ?_;rw [b1,ep] at m';exact j _ _ ⟨rfl,_,rfl,m'⟩
 obtain ⟨rfl,R4,rfl,m4⟩:=hI
 exact Ht S g g0 hc hk m m4 h) ((d,o,t,sp),(f,rf,rt,wh),(H,a,G,R),(q,hs,R1))
end
section
variable {kk:Prop} {d x y s c r k o t sp f i rf rt wh:Nat} {H:Hp} {a:Ad} {G:aE} {R:Rw} {q:V->Hp->Prop} {hs:List V} {b:List Nat} {e:Int}
noncomputable def Aj (G:aE) (R:Rw):Nat:=(R.key ^^^ yQ G.size G.aa) ^^^ rN G R.ep
noncomputable def Dk (G:aE) (R:Rw) (wh:Nat):Nat:=if bd R wh≠0 then Aj G R ^^^ 2^(bd R wh*G.size+wh) else Aj G R
noncomputable def IQ (G:aE) (R:Rw) (o t sp f wh:Nat):Nat:=Dk G R wh ^^^ (2^(bd R o*G.size+o) ^^^ 2^(gT R o sp f*G.size+t))
noncomputable def Dj (G:aE) (R:Rw) (o t sp f wh rf rt:Nat):Nat:=if sp=3 then IQ G R o t sp f wh ^^^ (2^((R.af*8+4)*G.size+rf) ^^^ 2^((R.af*8+4)*G.size+rt)) else IQ G R o t sp f wh
noncomputable def EV (G:aE) (R:Rw) (o t sp f wh rf rt:Nat):Nat:=Dj G R o t sp f wh rf rt ^^^ rN G (gg G R R o t)
noncomputable def ka (G:aE) (R:Rw) (o t sp f wh rf rt:Nat):Nat:=(EV G R o t sp f wh rf rt ^^^ R.ab <<< (15*G.size)) ^^^ da G R o t <<< (15*G.size)
def rV:Prop:=∀(w:W H a G R) (g:cq G) (g0:ba G R) (ok:dO G R) (m:ew G R o t sp f wh rf rt) (lb:da G R o t<16) {v9 v10:V} (h:q (nv (ka G R o t sp f wh rf rt)) H),aO (Call (d+3)) (uW 13 LJ.body) [some (.ref a.p),some (nv (pk o t sp f)),some (.ref a.z),some (nv (bd R o)),some (nv R.af),some (nv o),some (nv t),some (nv sp),some (nv (Dk G R wh)),some v9,some v10,some (nv (gT R o sp f)),none,none,none] H (di q)
theorem Hr:@rV d o t sp f rf rt wh H a G R q:=ao (S:=λx:(Nat×Nat×Nat×Nat)×(Nat×Nat×Nat×Nat)×(Hp×Ad×aE×Rw)×(V->Hp->Prop)=>@rV x.1.1 x.1.2.1 x.1.2.2.1 x.1.2.2.2 x.2.1.1 x.2.1.2.1 x.2.1.2.2.1 x.2.1.2.2.2 x.2.2.1.1 x.2.2.1.2.1 x.2.2.1.2.2.1 x.2.2.1.2.2.2 x.2.2.2) (x:=((0,0,0,0),(0,0,0,0),(λ_=>none,jX,bN,fC),λ_ _=>True)) (by
 refine (?_:∀d o t sp f rf rt wh H a G R q,@rV d o t sp f rf rt wh H a G R q) _ _ _ _ _ _ _ _ _ _ _ _ _;intro d o t sp f rf rt wh H a G R q w g g0 ok m lb v9 v10 h;have hc:=ok.c2
 have hf:G.aa≠0:=by have:=g.f0;exact Qo ‹_›
 have hb:=m.bs
 have hr4:R.af*8+4<15:=by exact Oi ‹_› (by rfl)
 have hx:=(g0.mn o m.b0).1;have hp:=(m.nA g0 hc).1;have ho:=m.ho;have ht:=m.ht;refine k7 ‹_› rfl ?_;refine lx ‹_› ‹_› ?_;refine f6 ‹_› ‹_› ‹_› ?_;refine k7 ‹_› rfl ?_;refine lx ‹_› ‹_› ?_;refine f6 ‹_› ‹_› ‹_› ?_;refine bQ ?_;refine bF ?_;refine bQ ?_;refine aR ?_;refine fz (λρ' H'=>H'=H/\∃x y,ρ'=[some (.ref a.p),some (nv (pk o t sp f)),some (.ref a.z),some (nv (bd R o)),some (nv R.af),some (nv o),some (nv t),some (nv sp),some (nv (Dj G R o t sp f wh rf rt)),some v9,some v10,some (nv (gT R o sp f)),x,y,none]) (λρ' H' hI=>?_) λK' j _=>?_
 rotate_left
 ·refine ag (λe=>?_) (λe=>?_)
  ·have e:sp=3:=e;refine gK (m.ca e) λi hi hw hu=>?_;refine uI (m.c1 e) λe1 e2 e3 e4 e5 e6 e7=>?_;refine aI ‹_› rfl ?_;refine Ea w g hc hi hw hu ?_;refine k7 ‹_› rfl ?_;refine IZ (y:=4) ?_ (by exact Pa ‹_› (by decide));refine lx ‹_› ‹_› ?_;refine dR (i:=0) rfl ?_;refine f6 ‹_› ‹_› ‹_› ?_;refine dR (i:=1) rfl ?_;refine f6 ‹_› ‹_› ‹_› ?_;refine bQ ?_;refine bF ?_;refine bQ ?_;exact j _ _ ⟨rfl,_,_,by unfold Dj;rw [Po e];rfl⟩
  ·exact j _ _ ⟨rfl,none,none,by unfold Dj;rw [Pf (show ¬sp=3 from e)];rfl⟩
 obtain ⟨rfl,x,y,rfl⟩:=hI;refine Ed ?_;refine aR ?_;refine fz (λρ' H''=>H''=H'/\∃z,ρ'=[some (.ref a.p),some (nv (pk o t sp f)),some (.ref a.z),some (nv (bd R o)),some (nv R.af),some (nv o),some (nv t),some (nv sp),some (nv (EV G R o t sp f wh rf rt)),some v9,some v10,some (nv (gT R o sp f)),x,y,z]) (λρ' H'' hI=>?_) λK' j _=>?_
 rotate_left
 ·refine ag (λe=>?_) (λe=>?_)
  ·have e:bd R o%8=1:=e;have ee:gg G R R o t=CN G (K R 1 &&& Sd R (1-R.af)) R.af o t:=Po e;refine Hz w g ok.len hc m.ho m.ht ?_;rw [<- ee];refine km ?_;refine ag (λe1=>?_) (λe1=>?_)
   ·refine k7 ‹_› rfl ?_;refine aI ‹_› rfl ?_;refine eQ ‹_› rfl ?_;refine jI hf e1 ?_;refine vp w (RF _ (PF hf)) ?_;refine bF ?_;refine bQ ?_;exact j _ _ ⟨rfl,_,by unfold EV rN;rw [Po e1];rfl⟩
   ·exact j _ _ ⟨rfl,_,by unfold EV rN;rw [Pf (show ¬0<=gg G R R o t from e1),Q3];rfl⟩
  ·have ee:gg G R R o t=-1:=Pf e;exact j _ _ ⟨rfl,_,by unfold EV;rw [ee,xB,Q3]⟩
 obtain ⟨rfl,z,rfl⟩:=hI;refine k7 ‹_› rfl ?_;refine aI ‹_› rfl ?_;refine vo w ok.i8 ?_;refine bQ ?_;refine k7 ‹_› rfl ?_;refine Hy w g m.ho m.ht ?_;refine vo w lb ?_;refine bQ ?_;refine aj ?_
 exact h) ((d,o,t,sp),(f,rf,rt,wh),(H,a,G,R),q)
set_option maxHeartbeats 1000000 in
def ye:Prop:=∀(w:W H a G R) (g:cq G) (g0:ba G R) (ok:dO G R) (m:ew G R o t sp f wh rf rt) (lb:da G R o t<16) (h:q (nv (ka G R o t sp f wh rf rt)) H),Call (d+4) 42 [.ref a.p,nv (pk o t sp f)] H q
theorem K4:@ye d o t sp f rf rt wh H a G R q:=ao (S:=λx:(Nat×Nat×Nat×Nat)×(Nat×Nat×Nat×Nat)×(Hp×Ad×aE×Rw)×(V->Hp->Prop)=>@ye x.1.1 x.1.2.1 x.1.2.2.1 x.1.2.2.2 x.2.1.1 x.2.1.2.1 x.2.1.2.2.1 x.2.1.2.2.2 x.2.2.1.1 x.2.2.1.2.1 x.2.2.1.2.2.1 x.2.2.1.2.2.2 x.2.2.2) (x:=((0,0,0,0),(0,0,0,0),(λ_=>none,jX,bN,fC),λ_ _=>True)) (by
 refine (?_:∀d o t sp f rf rt wh H a G R q,@ye d o t sp f rf rt wh H a G R q) _ _ _ _ _ _ _ _ _ _ _ _ _;intro d o t sp f rf rt wh H a G R q w g g0 ok m lb h;have ⟨h1,h2,h3⟩:=m.sz g;have hc:=ok.c2
 have hf:G.aa≠0:=by have:=g.f0;exact Qo ‹_›
 have hx:=(g0.mn o m.b0).1;have hp:=(m.nA g0 hc).1;have ho:=m.ho;have ht:=m.ht;have hw:=m.w1;have hwm:=ok.bm wh hw;refine ar rfl rfl ?_;refine (?_:aO _ _ [_,_,_,_,_,_,_,_,_,_,_,_,_,_,_] _ _);refine aI ‹_› rfl ?_;refine HA w g ok.len m ?_;refine aI ‹_› rfl ?_;refine EZ ?_;rw [oF h1 h2];refine BL ?_;rw [lP h2];refine EY ?_;rw [lQ h1 h2 m.s4 m.f4];refine aI ‹_› rfl ?_;refine k7 ‹_› rfl ?_;refine bQ ?_;refine aI ‹_› rfl ?_;refine km ?_;refine uC 8 (nv (Aj G R)) ?_ λK' j=>?_
 rotate_left
 ·refine ag (λe=>?_) (λe=>?_)
  ·refine k7 ‹_› rfl ?_;refine aI ‹_› rfl ?_;refine aI ‹_› rfl ?_;refine eQ ‹_› rfl ?_;refine jI hf e ?_;refine vp w (RF _ (PF hf)) ?_;refine bF ?_;refine bQ ?_;exact gF j (by unfold Aj rN;rw [Po e])
  ·exact eD j rfl (by unfold Aj rN;rw [Pf e,Q3])
 refine (?_:aO _ _ [_,_,_,_,_,_,_,_,_,_,_,_,_,_,_] _ _);refine Eb w g m rfl ?_;refine aI ‹_› rfl ?_;refine Ji ‹_› ‹_› ‹_› ?_;refine ez ?_;refine uC 8 (nv (Dk G R wh)) ?_ λK' j=>?_
 rotate_left
 ·refine ag (λe=>?_) (λe=>?_)
  ·refine k7 ‹_› rfl ?_;refine lx ‹_› ‹_› ?_;refine f6 ‹_› ‹_› ‹_› ?_;refine bF ?_;refine bQ ?_;exact gF j (by unfold Dk;rw [Po e])
  ·exact eD j rfl (by unfold Dk;rw [Pf e])
 refine (?_:aO _ _ [_,_,_,_,_,_,_,_,_,_,_,_,_,_,_] _ _);refine aR ?_;refine uC 11 (nv (gT R o sp f)) ?_ λK' j=>?_
 rotate_left
 ·refine ag (λe=>?_) (λe=>?_)
  ·have e:sp=1:=e;refine Mq (by rw [lQ h1 h2 m.s4 m.f4];exact e) ?_;rw [CS h1 h2 m.f4];refine IZ ?_ (by exact Pa ‹_› (by decide));exact gF j (by unfold gT;rw [Po e])
  ·exact eD j rfl (by unfold gT;rw [Pf (show ¬sp=1 from e)])
 refine (?_:aO _ _ [_,_,_,_,_,_,_,_,_,_,_,_,_,_,_] _ _)
 exact Hr w g g0 ok m lb h) ((d,o,t,sp),(f,rf,rt,wh),(H,a,G,R),q)
end
section
variable {kk:Prop} {d x y s c r k o t sp f i rf rt wh:Nat} {G:aE} {R R':Rw} {hs:List V} {b:List Nat} {e:Int}
noncomputable abbrev XK (G:aE) (b:List Nat):Nat:=xk G.size (λm=>decide (m≠0)) b G.size
theorem bx:∀r E S X Z M E' r':Bool,(((((((((r ^^ E) ^^ S) ^^ X) ^^ Z) ^^ E) ^^ M) ^^ E') ^^ r) ^^ r')=(((r' ^^ E') ^^ (S ^^ Z)) ^^ (X ^^ M)):=by decide
theorem nx (r E S X Z M E' r':Nat):(((((((((r ^^^ E) ^^^ S) ^^^ X) ^^^ Z) ^^^ E) ^^^ M) ^^^ E') ^^^ r) ^^^ r')=(((r' ^^^ E') ^^^ (S ^^^ Z)) ^^^ (X ^^^ M)):=cH λi=>by
 simp only [Pu];exact bx ..
def I8:Prop:=∀(m:ew G R o t sp f wh rf rt) (g0:ba G R) (hc:R.af<2),∃M,XK G (bP R o t sp f wh rf rt)=XK G R.ae ^^^ M/\Dj G R o t sp f wh rf rt=Aj G R ^^^ M
theorem xp:@I8 o t sp f rf rt wh G R:=ao (S:=λx:(Nat×Nat×Nat×Nat)×(Nat×Nat×Nat×aE)×Rw=>@I8 x.1.1 x.1.2.1 x.1.2.2.1 x.1.2.2.2 x.2.1.1 x.2.1.2.1 x.2.1.2.2.1 x.2.1.2.2.2 x.2.2) (x:=((0,0,0,0),(0,0,0,bN),fC)) (by
 refine (?_:∀o t sp f rf rt wh G R,@I8 o t sp f rf rt wh G R) _ _ _ _ _ _ _ _ _;intro o t sp f rf rt wh G R m g0 hc;have hl:=g0.bl;have hb4:(R.ae.set wh 0).getD o 0=bd R o:=aM (Ne.symm m.w2)
 have ht4:((R.ae.set wh 0).set o 0).getD t 0=0:=by
  rw [aM (Ne.symm m.ot),gs hl m.w1];split
  ·rfl
  ·rename_i z;have hw:=m.hw;by_cases z':sp=2
   ·exact (m.e0 z').1
   ·rw [Pf z'] at hw;exact absurd hw.symm z
 have h1:∃M,XK G (R.ae.set wh 0)=XK G R.ae ^^^ M/\Dk G R wh=Aj G R ^^^ M:=by
  unfold Dk;by_cases z:bd R wh=0
  ·exact ⟨0,by rw [HZ z,Q3],by rw [Pf (not_not_intro z),Q3]⟩
  ·exact ⟨_,kK (hl.symm ▸ m.w1) z m.w1,by rw [Po z]⟩
 refine aq h1 λM1 h1 k1=>?_
 have h2:XK G (cZ R o t sp f wh)=XK G R.ae ^^^ (M1 ^^^ (2^(bd R o*G.size+o) ^^^ 2^(gT R o sp f*G.size+t))):=by
  have hp:=m.nA g0 hc;have e1:=kK (sz:=G.size) (b:=R.ae.set wh 0) (s:=o) (by rw [ls hl];exact m.ho) (by rw [hb4];exact m.b0) m.ho;have e2:=la (sz:=G.size) (b:=(R.ae.set wh 0).set o 0) (s:=t) (v:=gT R o sp f) (by rw [ls (ls hl)];exact m.ht) ht4 (λz=>by rw [z] at hp;exact absurd hp.2.1 (by decide)) m.ht;rw [hb4] at e1;unfold XK at h1;unfold XK cZ;rw [e2,e1,h1,QH,QH]
 have k3:IQ G R o t sp f wh=Aj G R ^^^ (M1 ^^^ (2^(bd R o*G.size+o) ^^^ 2^(gT R o sp f*G.size+t))):=by
  unfold IQ;rw [k1,QH]
 by_cases e:sp=3
 ·refine uI (m.c1 e) λe1 e2 e3 e4 e5 e6 e7=>?_
  have hrt:rf≠t:=λz=>by rw [z,e2] at e1;exact absurd (Eq.symm ‹_›) kx
  have hrr:rf≠rt:=λz=>by rw [z,e3] at e1;exact absurd (Eq.symm ‹_›) kx
  have hro:rt≠o:=λz=>m.b0 (z ▸ e3)
  have hw':wh=t:=by have:=m.hw;rw [Pf (show ¬sp=2 by lia)] at this;exact this
  have b1:(cZ R o t sp f wh).getD rf 0=R.af*8+4:=by
   rw [ja m hl,Pf hrt,Pf e6,Pf (hw' ▸ hrt)];exact e1
  have b2:((cZ R o t sp f wh).set rf 0).getD rt 0=0:=by
   rw [aM (Ne.symm hrr),ja m hl,Pf e7,Pf hro,Pf (hw' ▸ e7)];exact e3
  have f1:=kK (sz:=G.size) (b:=cZ R o t sp f wh) (s:=rf) (by rw [fh hl];exact e4) (by rw [b1];exact kx) e4;have f2:=la (sz:=G.size) (b:=(cZ R o t sp f wh).set rf 0) (s:=rt) (v:=R.af*8+4) (by rw [ls (fh hl)];exact e5) b2 (by exact kx) e5;rw [b1] at f1;refine ⟨(M1 ^^^ (2^(bd R o*G.size+o) ^^^ 2^(gT R o sp f*G.size+t))) ^^^ (2^((R.af*8+4)*G.size+rf) ^^^ 2^((R.af*8+4)*G.size+rt)),?_,?_⟩
  ·unfold XK at h2;unfold XK bP;rw [Po e,f2,f1,h2];generalize M1 ^^^ (2^(bd R o*G.size+o) ^^^ 2^(gT R o sp f*G.size+t))=M2;rw [QH,QH]
  ·unfold Dj;rw [Po e,k3];generalize M1 ^^^ (2^(bd R o*G.size+o) ^^^ 2^(gT R o sp f*G.size+t))=M2;rw [QH]
 ·exact ⟨_,by unfold bP;rw [Pf e,h2],by unfold Dj;rw [Pf e,k3]⟩) ((o,t,sp,f),(rf,rt,wh,G),R)
theorem EL (m:ew G R o t sp f wh rf rt) (g0:ba G R) (hc:R.af<2) (hk:R.key=kI G R)
 (d:eI True G (1-R.af) (da G R o t) hs (bP R o t sp f wh rf rt) e R') (he:e=gg G R R o t):R'.key=ka G R o t sp f wh rf rt:=by
 refine aq (xp m g0 hc) λM h1 h2=>?_;rw [d.key trivial,iV,d.af,d.ab,d.ae,d.ep];unfold ka EV;unfold XK at h1
 have hz:uX G (1-R.af)=uX G R.af ^^^ yQ G.size G.aa:=by
  have:R.af=0\/R.af=1:=by exact fj _ ‹_›
  rcases this with z | z<;>rw [z]
  ·exact (Nat.zero_xor _).symm
  ·exact (Nat.xor_self _).symm
 rw [h2,h1,hz,Aj,hk,iV,he];exact (nx ..).symm
end
section
noncomputable def cG (σ:Nat->Addr):V->V
 | .ref i=>.ref (σ i)
 | v=>v
noncomputable def kC (σ:Nat->Addr):Ob->Ob
 | .list vs=>.list (vs.map (cG σ))
 | .dict fs=>.dict (fs.map λp=>(p.1,cG σ p.2))
 | .inst c dx=>.inst c (σ dx)
noncomputable def gG:V->Bool
 | .ref _=>false
 | .tup _=>false
 | .nG _=>false
 | _=>true
noncomputable def lk (n:Nat):V->Bool
 | .ref i=>decide (i<n)
 | .tup vs=>vs.all gG
 | .nG _=>false
 | _=>true
noncomputable def y9 (n:Nat):Ob->Bool
 | .list vs=>vs.all (lk n)
 | .dict fs=>fs.all λp=>lk n p.2
 | .inst _ dx=>decide (dx<n)
noncomputable abbrev Ch:=List Ob
structure Em (H0:Hp) (σ:Nat->Addr) (C:Ch) (H:Hp):Prop where
 got:∀(i:Nat) o,C[i]?=some o->H (σ i)=some (kC σ o)
 fr:∀i,i<C.length->H0 (σ i)=none
 inj:∀i j,i<C.length->j<C.length->σ i=σ j->i=j
 off:∀x,(∀i,i<C.length->σ i≠x)->H x=H0 x
 wf:∀(i:Nat) o,C[i]?=some o->y9 C.length o=true
structure gL (σ:Nat->Addr) (C:Ch) (σ':Nat->Addr) (C':Ch):Prop where
 le:C.length<=C'.length
 eq:∀i,i<C.length->σ' i=σ i
noncomputable abbrev Out:=Option (V×Ch)
noncomputable def CC (op:gD) (x y:Int):Option Int:=match op with
 | .add=>some (x+y)
 | .sub=>some (x-y)
 | .mul=>if x.natAbs<2^64 then some (x*y) else none
 | .fdiv=>if y≠0/\y.natAbs<1073741824 then some (x.fdiv y) else none
 | .mod=>if y≠0 then some (x.fmod y) else none
 | .shl=>if 0<=y/\y<=100000/\x.natAbs<2^64 then some (x*2^y.toNat) else none
 | .shr=>if 0<=y then some (x.fdiv (2^y.toNat)) else none
 | .and=>some (Builtin.bitAnd x y)
 | .or=>some (Builtin.bitOr x y)
 | .xor=>some (Builtin.bitXor x y)
noncomputable def vI {α:Type} (v:V) (k:Int->Option α):Option α:=match v with
 | .int i=>k i
 | _=>none
noncomputable def vR {α:Type} (v:V) (k:Addr->Option α):Option α:=match v with
 | .ref i=>k i
 | _=>none
noncomputable def oL {α:Type} (o:Ob) (k:List V->Option α):Option α:=match o with
 | .list vs=>k vs
 | _=>none
noncomputable def oD {α:Type} (o:Ob) (k:List (Nat×V)->Option α):Option α:=match o with
 | .dict vs=>k vs
 | _=>none
noncomputable def oI {α:Type} (o:Ob) (k:Nat->Addr->Option α):Option α:=match o with
 | .inst c dx=>k c dx
 | _=>none
noncomputable def cL {α:Type} (C:Ch) (a:Nat) (k:List V->Option α):Option α:=(C[a]?).bind λo=>oL o k
noncomputable def cD {α:Type} (C:Ch) (a:Nat) (k:List (Nat×V)->Option α):Option α:=(C[a]?).bind λo=>oD o k
noncomputable def cI {α:Type} (C:Ch) (a:Nat) (k:Nat->Addr->Option α):Option α:=(C[a]?).bind λo=>oI o k
theorem gM {α:Type} {v:V} {k:Int->Option α} {r:α} (h:vI v k=some r):∃i,v=.int i/\k i=some r:=by
 cases v with
 | int i=>exact ⟨i,rfl,h⟩
 | _=>exact nomatch h
theorem sR {α:Type} {v:V} {k:Addr->Option α} {r:α} (h:vR v k=some r):∃i,v=.ref i/\k i=some r:=by
 cases v with
 | ref i=>exact ⟨i,rfl,h⟩
 | _=>exact nomatch h
theorem tX {α:Type} {C:Ch} {a:Nat} {k:List V->Option α} {r:α} (h:cL C a k=some r):∃vs,C[a]?=some (.list vs)/\k vs=some r:=by
 refine aq (PJ.mp h) λo h1 h2=>?_
 cases o with
 | list vs=>exact ⟨vs,h1,h2⟩
 | _=>exact nomatch h2
theorem BP {α:Type} {C:Ch} {a:Nat} {k:List (Nat×V)->Option α} {r:α} (h:cD C a k=some r):∃vs,C[a]?=some (.dict vs)/\k vs=some r:=by
 refine aq (PJ.mp h) λo h1 h2=>?_
 cases o with
 | dict vs=>exact ⟨vs,h1,h2⟩
 | _=>exact nomatch h2
theorem BO {α:Type} {C:Ch} {a:Nat} {k:Nat->Addr->Option α} {r:α} (h:cI C a k=some r):∃c dx,C[a]?=some (.inst c dx)/\k c dx=some r:=by
 refine aq (PJ.mp h) λo h1 h2=>?_
 cases o with
 | inst c dx=>exact ⟨c,dx,h1,h2⟩
 | _=>exact nomatch h2
noncomputable def isMul:gD->Bool
 | .mul=>true
 | _=>false
theorem wY {op:gD} (h:isMul op=true):op=.mul:=by cases op<;>first | rfl | exact nomatch h
noncomputable def BA:Bi->Bool
 | .range=>true
 | _=>false
theorem wX {b:Bi} (h:BA b=true):b=.range:=by cases b<;>first | rfl | exact nomatch h
noncomputable def one?:List V->Option V
 | [x]=>some x
 | _=>none
noncomputable def CD (op:gD) (v w:V) (C:Ch):Out:=vI w λy=>match v with
 | .int x=>(CC op x y).map λz=>(.int z,C)
 | .ref a=>cL C a λl=>(one? l).bind λx=>if isMul op=true/\0<=y/\y<=1000 then some (.ref C.length,C++ [.list (List.replicate y.toNat x)]) else none
 | _=>none
noncomputable def FI (op:uT) (x y:Int):Option Bool:=match op with
 | .eq=>some (decide (x=y))
 | .ne=>some (decide (x≠y))
 | .lt=>some (decide (x<y))
 | .gt=>some (decide (y<x))
 | .ge=>some (decide (y<=x))
 | _=>none
noncomputable def CB (op:uT) (v w:V):Option Bool:=match v with
 | .int x=>(match w with
  | .int y=>FI op x y
  | _=>none)
 | _=>none
noncomputable def zJ (vs:List V) (i:Int) (C:Ch):Out:=if 0<=i then vs[i.toNat]?.map (·,C) else none
noncomputable def zG (v i:V) (C:Ch):Out:=vI i λi=>match v with
 | .ref a=>cL C a λvs=>zJ vs i C
 | .tup vs=>zJ vs i C
 | _=>none
noncomputable def vU (v:V) (n:Nat) (C:Ch):Out:=vR v λa=>cI C a λ_ dx=>cD C dx λfs=>(eZ n fs).map (·,C)
noncomputable def Jp (vs:List V) (C:Ch):Out:=match vs with
 | [v]=>vI v λn=>if -1000000<=n/\n<=1000000 then some (.fW 0 n 1,C) else none
 | [u,v,w]=>vI u λa=>vI v λb=>vI w λc=>if (-1000000<=a/\a<=1000000)/\(-1000000<=b/\b<=1000000)/\c=-1 then some (.fW a b c,C) else none
 | _=>none
noncomputable def Jr (b:Bi) (vs:List V) (C:Ch):Out:=if BA b=true then Jp vs C else none
noncomputable def zQ (v w:V) (C:Ch):Out:=vR v λa=>cL C a λvs=>if vs.length<1000 then some (.none,C.set a (.list (vs++ [w]))) else none
noncomputable def ui (v:V) (C:Ch):Bool:=match v with
 | .ref a=>(match C[a]? with
  | some (.list _)=>true
  | _=>false)
 | _=>false
noncomputable abbrev RG:=Nat->List V->Ch->Out
mutual
noncomputable def rE (Γ:RG):E->Lc->Ch->Out
 | .g6,_,C=>some (.none,C)
 | .bu b,_,C=>some (.bool b,C)
 | .bB i,_,C=>some (.int i,C)
 | .l7 is,_,C=>some (.tup (is.map .int),C)
 | .loc i,ρ,C=>(getL ρ i).map (·,C)
 | .bin op l r,ρ,C=>(rE Γ l ρ C).bind λp=>(rE Γ r ρ p.2).bind λq=>CD op p.1 q.1 q.2
 | .neg e,ρ,C=>(rE Γ e ρ C).bind λp=>match p.1 with | .int i=>some (.int (-i),p.2) | _=>none
 | .inv e,ρ,C=>(rE Γ e ρ C).bind λp=>match p.1 with | .int i=>some (.int (Builtin.bitNot i),p.2) | _=>none
 | .dU es,ρ,C=>s9 Γ es ρ C
 | .tf es,ρ,C=>zH Γ es ρ C
 | .cmp op l r,ρ,C=>(rE Γ l ρ C).bind λp=>(rE Γ r ρ p.2).bind λq=>(CB op p.1 q.1).map λb=>(.bool b,q.2)
 | .call f args,ρ,C=>(zK Γ args ρ C).bind λp=>Γ f p.1 p.2
 | .new c args,ρ,C=>(zK Γ args ρ C).bind λp=>(Γ (1000+c) (.ref (p.2.length+1)::p.1) ((p.2++ [.dict []])++ [.inst c p.2.length])).bind λq=>if isNone q.1=true then some (.ref (p.2.length+1),q.2) else none
 | .bi b args,ρ,C=>(zK Γ args ρ C).bind λp=>Jr b p.1 p.2
 | .append o x,ρ,C=>(rE Γ o ρ C).bind λp=>if ui p.1 p.2 then (rE Γ x ρ p.2).bind λq=>zQ p.1 q.1 q.2 else none
 | .attr o n,ρ,C=>(rE Γ o ρ C).bind λp=>vU p.1 n p.2
 | .sub o i,ρ,C=>(rE Γ o ρ C).bind λp=>(rE Γ i ρ p.2).bind λq=>zG p.1 q.1 q.2
 | .tup es,ρ,C=>(zK Γ es ρ C).bind λp=>if p.1.length<=1000/\p.1.all gG=true then some (.tup p.1,p.2) else none
 | .lst es,ρ,C=>(zK Γ es ρ C).bind λp=>if p.1.length<=1000 then some (.ref p.2.length,p.2++ [.list p.1]) else none
 | _,_,_=>none
noncomputable def zK (Γ:RG):E->Lc->Ch->Option (List V×Ch)
 | .nil,_,C=>some ([],C)
 | .cons c r,ρ,C=>(rE Γ c ρ C).bind λp=>(zK Γ r ρ p.2).bind λq=>some (p.1::q.1,q.2)
 | _,_,_=>none
noncomputable def s9 (Γ:RG):E->Lc->Ch->Out
 | .cons x r,ρ,C=>(rE Γ x ρ C).bind λp=>match isNil r with
  | true=>some p
  | false=>(truthy p.1).bind λb=>if b then s9 Γ r ρ p.2 else some p
 | _,_,_=>none
noncomputable def zH (Γ:RG):E->Lc->Ch->Out
 | .cons x r,ρ,C=>(rE Γ x ρ C).bind λp=>match isNil r with
  | true=>some p
  | false=>(truthy p.1).bind λb=>if b then some p else zH Γ r ρ p.2
 | _,_,_=>none
end
noncomputable abbrev A6:=Option ((Fl×Lc)×Ch)
noncomputable def CA (body:Lc->Ch->A6) (i:Nat):List V->Lc->Ch->A6
 | [],ρ,C=>some ((.next,ρ),C)
 | x::r,ρ,C=>(body (cR ρ i x) C).bind λp=>match p.1.1 with
  | .next=>CA body i r p.1.2 p.2
  | _=>none
noncomputable def Bo (v:V) (n:Nat) (x:V) (C:Ch):Option Ch:=vR v λa=>cI C a λ_ dx=>cD C dx λfs=>if fs.length<=100 then some (C.set dx (.dict (gu n x fs))) else none
noncomputable def vP (v i x:V) (C:Ch):Option Ch:=vR v λa=>vI i λi=>cL C a λvs=>if 0<=i/\i.toNat<vs.length then some (C.set a (.list (vs.set i.toNat x))) else none
noncomputable def zO (op:gD) (v w:V):Option V:=vI v λx=>vI w λy=>(CC op x y).map .int
mutual
noncomputable def rS (Γ:RG):S->Lc->Ch->A6
 | .aG e,ρ,C=>(rE Γ e ρ C).bind λp=>if isNone p.1 then some ((.next,ρ),p.2) else none
 | .asg i e,ρ,C=>(rE Γ e ρ C).bind λp=>some ((.next,cR ρ i p.1),p.2)
 | .b9 o n e,ρ,C=>(rE Γ e ρ C).bind λp=>(rE Γ o ρ p.2).bind λq=>(Bo q.1 n p.1 q.2).map λC=>((.next,ρ),C)
 | .eP o i e,ρ,C=>(rE Γ e ρ C).bind λp=>(rE Γ o ρ p.2).bind λq=>(rE Γ i ρ q.2).bind λr=>(vP q.1 r.1 p.1 r.2).map λC=>((.next,ρ),C)
 | .aug i op e,ρ,C=>(getL ρ i).bind λv=>(rE Γ e ρ C).bind λp=>(zO op v p.1).map λz=>((.next,cR ρ i z),p.2)
 | .jt o i op e,ρ,C=>(rE Γ o ρ C).bind λp=>(rE Γ i ρ p.2).bind λq=>(zG p.1 q.1 q.2).bind λx=>(rE Γ e ρ x.2).bind λy=>(zO op x.1 y.1).bind λz=>(vP p.1 q.1 z y.2).map λC=>((.next,ρ),C)
 | .bh t a b,ρ,C=>(rE Γ t ρ C).bind λp=>(truthy p.1).bind λc=>if c then rB Γ a ρ p.2 else rB Γ b ρ p.2
 | .cy i it b,ρ,C=>(rE Γ it ρ C).bind λp=>match p.1 with
  | .fW x y z=>CA (λρ C=>rB Γ b ρ C) i (aP x y z) ρ p.2
  | _=>none
 | .ret e,ρ,C=>(rE Γ e ρ C).bind λp=>some ((.ret p.1,ρ),p.2)
 | _,_,_=>none
noncomputable def rB (Γ:RG):S->Lc->Ch->A6
 | .nil,ρ,C=>some ((.next,ρ),C)
 | .cons s r,ρ,C=>(rS Γ s ρ C).bind λp=>match p.1.1 with
  | .next=>rB Γ r p.1.2 p.2
  | _=>some p
 | _,_,_=>none
end
noncomputable def i7 (code:Nat->Option Fn):Nat->RG
 | 0=>λ_ _ _=>none
 | d+1=>λf args C=>match code f with
  | none=>none
  | some F=>if args.length=F.np then (rB (i7 code d) F.body (args.map some++List.replicate (F.names.length-F.np) none) C).bind λp=>(iD p.1.1).map (·,p.2) else none
end
theorem gL.refl (σ:Nat->Addr) (C:Ch):gL σ C σ C:=⟨Pt _,λ_ _=>rfl⟩
theorem gL.trans {σ σ1 σ2:Nat->Addr} {C C1 C2:Ch} (h:gL σ C σ1 C1) (k:gL σ1 C1 σ2 C2):gL σ C σ2 C2:=⟨Pb h.le k.le,λi hi=>(k.eq i (Pa hi h.le)).trans (h.eq i hi)⟩
theorem gk {n m:Nat} (h:n<=m):∀{v:V},lk n v=true->lk m v=true
 | .ref _,k=>Px (Pa (Pj k) h)
 | .none,_ | .bool _,_ | .int _,_ | .fW ..,_=>rfl
 | .tup _,k=>k
theorem oz {σ σ':Nat->Addr} {n:Nat} (h:∀i,i<n->σ' i=σ i):∀{v:V},lk n v=true->cG σ' v=cG σ v
 | .ref i,k=>congrArg V.ref (h i (Pj k))
 | .none,_ | .bool _,_ | .int _,_ | .fW ..,_ | .tup _,_=>rfl
theorem oy {σ σ':Nat->Addr} {n:Nat} (h:∀i,i<n->σ' i=σ i) {vs:List V} (k:vs.all (lk n)=true):vs.map (cG σ')=vs.map (cG σ):=
 Qv λ_ hv=>oz h (Pp.mp k _ hv)
theorem zC {σ σ':Nat->Addr} {n:Nat} (h:∀i,i<n->σ' i=σ i):∀{o:Ob},y9 n o=true->kC σ' o=kC σ o
 | .list _,k=>congrArg Ob.list (oy h k)
 | .dict _,k=>congrArg Ob.dict (Qv λp hp=>by rw [oz h (Pp.mp k p hp)])
 | .inst c dx,k=>congrArg (Ob.inst c) (h dx (Pj k))
theorem qR {n m:Nat} (h:n<=m) {vs:List V} (k:vs.all (lk n)=true):vs.all (lk m)=true:=Pp.mpr λv hv=>gk h (Pp.mp k v hv)
theorem B1 {n m:Nat} (h:n<=m):∀{o:Ob},y9 n o=true->y9 m o=true
 | .list _,k=>qR h k
 | .dict _,k=>Pp.mpr λp hp=>gk h (Pp.mp k p hp)
 | .inst _ _,k=>Px (Pa (Pj k) h)
section
variable {H0 H:Hp} {σ:Nat->Addr} {C:Ch}
theorem Em.set (e:Em H0 σ C H) {a:Nat} {o:Ob} (ha:a<C.length) (ho:y9 C.length o=true):Em H0 σ (C.set a o) (H.upd (σ a) (kC σ o)) where
 got:=λi o' hi=>by
  rw [QR] at hi;split at hi
  ·subst_vars
   cases hi;exact Hp.ai ..
  ·rename_i hne;have hl:i<C.length:=(Pz.mp hi).1;rw [Hp.ay λz=>hne (e.inj _ _ hl ha z).symm];exact e.got i o' hi
 fr:=λi hi=>e.fr i (Pq .. ▸ hi)
 inj:=λi j hi hj=>e.inj i j (Pq .. ▸ hi) (Pq .. ▸ hj)
 off:=λx hx=>by rw [Hp.ay λz=>hx a (by rw [Pq];exact ha) z.symm];exact e.off x λi hi=>hx i (by rw [Pq];exact hi)
 wf:=λi o' hi=>by
  rw [Pq];rw [QR] at hi;split at hi
  ·cases hi;exact ho
  ·exact e.wf i o' hi
noncomputable def ext (σ:Nat->Addr) (n:Nat) (x:Addr):Nat->Addr:=λi=>if i=n then x else σ i
theorem fA {n i:Nat} {x:Addr} (h:i<n):ext σ n x i=σ i:=Pf (Qh h)
theorem hZ {n:Nat} {x:Addr}:ext σ n x n=x:=Po rfl
theorem Em.fresh (e:Em H0 σ C H) {x:Addr} (hx:H x=none):H0 x=none/\∀i,i<C.length->σ i≠x:=by
 have h1:∀i,i<C.length->σ i≠x:=λi hi z=>by
  have:=e.got i C[i] (Pk hi);rw [z,hx] at this;cases this
 exact ⟨(e.off x h1).symm.trans hx,h1⟩
theorem Em.new (e:Em H0 σ C H) {x:Addr} {o:Ob} (hx:H x=none) (ho:y9 (C.length+1) o=true):Em H0 (ext σ C.length x) (C++ [o]) (H.upd x (kC (ext σ C.length x) o)) where
 got:=λi o' hi=>by
  rcases PG i C.length with q | q
  ·rw [Rh q] at hi;rw [fA q,Hp.ay ((e.fresh hx).2 i q),e.got i o' hi];exact congrArg some (zC (λj hj=>fA hj) (e.wf i o' hi)).symm
  ·rw [QA q] at hi
   have:i-C.length=0:=by have:=(Pz.mp hi).1;simp at this;assumption
   rw [this] at hi;cases hi
   have:i=C.length:=by lia
   subst this;rw [hZ];exact Hp.ai ..
 fr:=λi hi=>by
  rw [Pg] at hi;rcases PG i C.length with q | q
  ·rw [fA q];exact e.fr i q
  ·have:i=C.length:=by simp at hi;exact QU (PX ‹_›) ‹_›
   subst this;rw [hZ];exact (e.fresh hx).1
 inj:=λi j hi hj hz=>by
  rw [Pg] at hi hj
  rcases PG i C.length with q | q<;>rcases PG j C.length with p | p
  ·rw [fA q,fA p] at hz;exact e.inj i j q p hz
  ·have:j=C.length:=by simp at hj;exact QU (PX ‹_›) ‹_›
   subst this;rw [fA q,hZ] at hz;exact absurd hz ((e.fresh hx).2 i q)
  ·have:i=C.length:=by simp at hi;exact QU (PX ‹_›) ‹_›
   subst this;rw [fA p,hZ] at hz;exact absurd hz.symm ((e.fresh hx).2 j p)
  ·simp at hi hj;lia
 off:=λy hy=>by
  have h1:y≠x:=λz=>hy C.length (by simp) (hZ.trans z.symm);rw [Hp.ay h1];exact e.off y λi hi z=>hy i (by rw [Pg];exact Nat.lt_add_right _ hi) ((fA hi).trans z)
 wf:=λi o' hi=>by
  rw [Pg];rcases PG i C.length with q | q
  ·rw [Rh q] at hi;exact B1 (PK _ _) (e.wf i o' hi)
  ·rw [QA q] at hi
   have:i-C.length=0:=by have:=(Pz.mp hi).1;simp at this;assumption
   rw [this] at hi;cases hi;exact ho
theorem gL.new {x:Addr} {o:Ob}:gL σ C (ext σ C.length x) (C++ [o]):=⟨by rw [Pg];exact PK _ _,λ_ hi=>fA hi⟩
theorem gL.set {a:Nat} {o:Ob}:gL σ C σ (C.set a o):=⟨by rw [Pq];exact Pt _,λ_ _=>rfl⟩
end
def cW {α β:Type} (rn:(Nat->Addr)->α->β) (wf:Nat->α->Prop) (H0:Hp) (C:Ch) (σ:Nat->Addr) (r:Option (α×Ch)) (w:(β->Hp->Prop)->Prop):Prop:=
 ∀v C',r=some (v,C')->∀Q,(∀σ' H',gL σ C σ' C'->Em H0 σ' C' H'->wf C'.length v->Q (rn σ' v) H')->w Q
abbrev pL (n:Nat) (v:V):Prop:=lk n v=true
abbrev yR (n:Nat) (vs:List V):Prop:=vs.all (lk n)=true
noncomputable abbrev pK (σ:Nat->Addr) (vs:List V):List V:=vs.map (cG σ)
noncomputable def bC (σ:Nat->Addr) (ρ:Lc):Lc:=ρ.map (Option.map (cG σ))
def mX (n:Nat) (ρ:Lc):Prop:=∀i v,getL ρ i=some v->pL n v
noncomputable abbrev nT:=cW cG pL
noncomputable abbrev O1:=cW pK yR
section
variable {α β γ δ:Type} {rn:(Nat->Addr)->α->β} {wf:Nat->α->Prop} {rn':(Nat->Addr)->γ->δ} {wf':Nat->γ->Prop} {H0 H:Hp} {C:Ch} {σ:Nat->Addr}
theorem cW.none {w:(β->Hp->Prop)->Prop}:cW rn wf H0 C σ none w:=λ_ _ h=>nomatch h
theorem cW.bind {r:Option (α×Ch)} {w:(β->Hp->Prop)->Prop} {kk:α×Ch->Option (γ×Ch)} {wk:β->Hp->(δ->Hp->Prop)->Prop} (h:cW rn wf H0 C σ r w)
 (k:∀v C1 σ1 H1,gL σ C σ1 C1->Em H0 σ1 C1 H1->wf C1.length v->cW rn' wf' H0 C1 σ1 (kk (v,C1)) (wk (rn σ1 v) H1)):cW rn' wf' H0 C σ (r.bind kk) (λQ=>w λv H=>wk v H Q):=by
 intro v C' e Q hQ;refine aq (PJ.mp e) ?_;rintro ⟨v1,C1⟩ e1 e2;refine h v1 C1 e1 _ λσ1 H1 t1 m1 f1=>k v1 C1 σ1 H1 t1 m1 f1 v C' e2 Q λσ2 H2 t2 m2 f2=>hQ σ2 H2 (t1.trans t2) m2 f2
theorem cW.pure {v:α} {w:(β->Hp->Prop)->Prop} (m:Em H0 σ C H) (f:wf C.length v) (hw:∀Q,Q (rn σ v) H->w Q):cW rn wf H0 C σ (some (v,C)) w:=by
 intro v' C' e Q hQ;cases e;exact hw Q (hQ σ H (gL.refl _ _) m f)
theorem pU {ρ:Lc} {i:Nat}:getL (bC σ ρ) i=(getL ρ i).map (cG σ):=by
 unfold getL bC;rw [P1];cases ρ[i]?<;>rfl
theorem dj {σ':Nat->Addr} {n:Nat} (h:∀i,i<n->σ' i=σ i) {ρ:Lc} (k:mX n ρ):bC σ' ρ=bC σ ρ:=by
 unfold bC;refine Qv λo ho=>?_
 cases o with
 | none=>rfl
 | some v=>
  obtain ⟨i,hi,e⟩:=List.mem_iff_getElem.mp ho
  have:getL ρ i=some v:=by unfold getL;rw [Pk hi,e];rfl
  exact congrArg some (oz h (k i v this))
theorem eC {n m:Nat} (h:n<=m) {ρ:Lc} (k:mX n ρ):mX m ρ:=λi v e=>gk h (k i v e)
theorem lG {ρ:Lc} {i:Nat} {v:V}:cR (bC σ ρ) i (cG σ v)=bC σ (cR ρ i v):=by
 unfold cR bC;rw [List.map_set];rfl
theorem nY {n:Nat} {ρ:Lc} {i:Nat} {v:V} (k:mX n ρ) (f:pL n v):mX n (cR ρ i v):=λj w e=>by
 unfold getL cR at e;rw [QR] at e;split at e
 ·split at e
  ·cases e;exact f
  ·cases e
 ·exact k j w e
theorem dc {c:Prop} [Decidable c] {a z:α} (h:(if c then some a else none)=some z):c/\a=z:=by
 split at h
 ·cases h;exact ⟨‹_›,rfl⟩
 ·cases h
theorem uA {c:Prop} [Decidable c] {a:Option α} {z:α} (h:(if c then a else none)=some z):c/\a=some z:=by
 split at h
 ·exact ⟨‹_›,h⟩
 ·cases h
theorem s8 {op:gD} {x y z:Int} {P:Int->Prop} (h:CC op x y=some z) (k:P z):BQ op x y P:=by
 cases op
 case mul | fdiv | mod | shl | shr=>refine aD (dc h) λh1 h2=>?_;subst h2;exact ⟨h1,k⟩
 all_goals (cases h;exact k)
theorem Em.o6 (m:Em H0 σ C H) {a:Nat} {o:Ob} (h:C[a]?=some o):H (σ a)=some (kC σ o):=m.got a o h
theorem lW {a:Nat} {o:Ob} (h:C[a]?=some o):a<C.length:=(Pz.mp h).1
theorem qI {vs:List V} (m:Em H0 σ C H) (f:yR C.length vs) (hl:vs.length<=1000):nT H0 C σ (some (.ref C.length,C++ [.list vs])) (c7 (pK σ vs) H):=by
 intro v C' e Q hQ;cases e;refine new_ (by rw [Ph];exact Pb hl (by decide)) λx hx=>?_;have:=hQ (ext σ C.length x) _ gL.new (m.new (o:=.list vs) hx (qR (Se _) f)) (by show decide _=true;rw [Pg];exact Px (PD _));rw [show cG (ext σ C.length x) (.ref C.length)=.ref x from congrArg V.ref hZ,show kC (ext σ C.length x) (.list vs)=.list (pK σ vs) from congrArg Ob.list (oy (λi hi=>fA hi) f)] at this;exact this
theorem zN {op:gD} {v w:V} (m:Em H0 σ C H):nT H0 C σ (CD op v w C) (au op (cG σ v) (cG σ w) H):=by
 intro v' C' e Q hQ;refine aq (gM e) λy hw e=>?_;subst hw
 cases v with
 | int x=>
  refine aq (PU.mp e) λz hz e2=>?_;cases e2;exact eU.int (s8 (P:=λz=>Q (.int z) H) hz (hQ σ H (gL.refl _ _) m rfl))
 | ref a=>
  refine aq (tX e) λl ha e=>?_;refine aq (PJ.mp e) λx hl e=>?_
  have hl:l=[x]:=by
   rcases l with _ | ⟨z,_ | ⟨_,_⟩⟩
   ·exact nomatch hl
   ·cases hl;rfl
   ·exact nomatch hl
  subst hl;refine aD (dc e) λhn e=>?_;have:=m.o6 ha;have hx:pL C.length x:=(Pp.mp (m.wf _ _ ha)) x (PC.mpr rfl);have h2:=qI (vs:=List.replicate y.toNat x) m (Pp.mpr λy hy=>(List.eq_of_mem_replicate hy).symm ▸ hx) (by rw [P6];exact Int.toNat_le.mpr hn.2.2) v' C' (congrArg some e) Q hQ;rw [wY hn.1];exact eU.rep this ⟨hn.2.1,Rq hn.2.2 (by decide)⟩ (by rw [pK,SA] at h2;exact h2)
 | _=>exact nomatch e
theorem zM {op:uT} {v w:V} {b:Bool} {Q:V->Hp->Prop} (h:CB op v w=some b) (k:Q (.bool b) H):bK op (cG σ v) (cG σ w) H Q:=by
 cases v with
 | int x=>
  cases w with
  | int y=>
   cases op with
   | eq=>cases h;exact tV k
   | ne=>cases h;exact qz k
   | lt=>cases h;exact nQ k
   | gt=>cases h;exact xO k
   | ge=>cases h;exact km k
   | _=>exact nomatch h
  | _=>exact nomatch h
 | _=>exact nomatch h
theorem s7 {vs:List V} {i:Int} {w:(V->Hp->Prop)->Prop} (m:Em H0 σ C H) (f:yR C.length vs) (hw:∀{Q:V->Hp->Prop} {x:V},0<=i->(pK σ vs)[i.toNat]?=some x->Q x H->w Q):nT H0 C σ (zJ vs i C) w:=by
 intro v C' e Q hQ;unfold zJ at e;split at e
 ·refine aq (PU.mp e) λz hz e2=>?_;cases e2;exact hw ‹_› (by rw [P1,hz];rfl) (hQ σ H (gL.refl _ _) m (Pp.mp f _ (PY hz)))
 ·cases e
theorem qt {v:V} (h:gG v=true):cG σ v=v:=by cases v<;>first | rfl | exact nomatch h
theorem o7 {v:V} {n:Nat} (h:gG v=true):pL n v:=by cases v<;>first | rfl | exact nomatch h
theorem jV {vs:List V} (h:vs.all gG=true):pK σ vs=vs:=by
 have:=Qv (f:=cG σ) (g:=id) λv hv=>qt (Pp.mp h v hv);rw [pK,this,List.map_id]
theorem sZ {v w:V} (m:Em H0 σ C H) (fv:pL C.length v):nT H0 C σ (zG v w C) (aN (cG σ v) (cG σ w) H):=by
 intro v' C' e Q hQ;refine aq (gM e) λi hw e=>?_;subst hw
 cases v with
 | ref a=>
  refine aq (tX e) λvs ha e=>?_;have:=m.o6 ha;exact s7 m (m.wf _ _ ha) (λh0 h h2=>qH.ref this h0 h h2) v' C' e Q hQ
 | tup vs=>
  refine s7 m (Pp.mpr λx hx=>o7 (Pp.mp fv x hx)) (λh0 h h2=>?_) v' C' e Q hQ;rw [jV fv] at h;exact qH.tup h0 h h2
 | _=>exact nomatch e
theorem nI {n:Nat}:∀{fs:List (Nat×V)} {v:V},eZ n fs=some v->eZ n (fs.map λp=>(p.1,cG σ p.2))=some (cG σ v)
 | [],_,h=>nomatch h
 | (k,x)::r,v,h=>by
  unfold eZ at h;show (if k=n then some (cG σ x) else eZ n (r.map λp=>(p.1,cG σ p.2)))=some (cG σ v);split at h
  ·cases h;rw [Po ‹_›]
  ·rw [Pf ‹_›];exact nI h
theorem nJ {n:Nat}:∀{fs:List (Nat×V)} {v:V},eZ n fs=some v->∃k,(k,v)∈fs
 | [],_,h=>nomatch h
 | (k,x)::r,v,h=>by
  unfold eZ at h;split at h
  ·cases h;exact ⟨k,PM⟩
  ·refine bI (nJ h) λj hj=>?_;exact ⟨j,PQ _ hj⟩
theorem p6 {n:Nat} {v:V}:∀{fs:List (Nat×V)},(gu n v fs).map (λp=>(p.1,cG σ p.2))=gu n (cG σ v) (fs.map λp=>(p.1,cG σ p.2))
 | []=>rfl
 | (k,x)::r=>by
  show (if k=n then (k,v)::r else (k,x)::gu n v r).map _=(if k=n then (k,cG σ v)::r.map _ else (k,cG σ x)::gu n (cG σ v) (r.map _));split
  ·rfl
  ·rw [Qs,p6]
theorem ta {n m:Nat} {v:V} (f:pL m v):∀{fs:List (Nat×V)},y9 m (.dict fs)=true->y9 m (.dict (gu n v fs))=true
 | [],_=>by show (lk m v && true)=true;rw [f];rfl
 | (k,x)::r,h=>by
  have h:(lk m x && r.all λp=>lk m p.2)=true:=h;rw [Pe] at h;show (if k=n then (k,v)::r else (k,x)::gu n v r).all (λp=>lk m p.2)=true;split
  ·show (lk m v && r.all λp=>lk m p.2)=true;rw [f,h.2];rfl
  ·show (lk m x && (gu n v r).all λp=>lk m p.2)=true;rw [h.1,Rr];exact ta f h.2
theorem vT {v:V} {n:Nat} (m:Em H0 σ C H):nT H0 C σ (vU v n C) (dM (cG σ v) n H):=by
 intro v' C' e Q hQ;refine aq (sR e) λa hv e=>?_;subst hv;refine o8 (BO e) λc dx ha e=>?_;refine aq (BP e) λfs hd e=>?_;refine aq (PU.mp e) λz hz e2=>?_;cases e2;refine bI (nJ hz) λk hk=>?_;exact at_ (m.o6 ha) (m.o6 hd) (nI hz) (hQ σ H (gL.refl _ _) m (Pp.mp (m.wf _ _ hd) _ hk))
theorem CE {b:Bi} {vs:List V} (m:Em H0 σ C H):nT H0 C σ (Jr b vs C) (bY b (pK σ vs) H):=by
 intro v' C' e Q hQ;refine aD (uA e) λhb e=>?_;rw [wX hb];rcases vs with _ | ⟨v,_ | ⟨w,_ | ⟨u,_ | ⟨_,_⟩⟩⟩⟩
 ·exact nomatch e
 ·refine aq (gM e) λn hv e=>?_;subst hv;refine aD (dc e) λh e=>?_;cases e;exact mC.Cr h (hQ σ H (gL.refl _ _) m rfl)
 ·exact nomatch e
 ·refine aq (gM e) λa ha e=>?_;refine aq (gM e) λb hb e=>?_;refine aq (gM e) λc hc e=>?_;subst ha hb hc;refine aD (dc e) λh e=>?_;cases e;exact mC.Cq ⟨h.1,h.2.1⟩ h.2.2 (hQ σ H (gL.refl _ _) m rfl)
 ·exact nomatch e
theorem zI {v:V} (m:Em H0 σ C H) (h:ui v C=true):DI (cG σ v) H:=by
 unfold ui at h;split at h
 ·split at h
  ·exact gJ (m.o6 ‹_›)
  ·cases h
 ·cases h
theorem zP {v w:V} (m:Em H0 σ C H) (fw:pL C.length w):nT H0 C σ (zQ v w C) (dB (cG σ v) (cG σ w) H):=by
 intro v' C' e Q hQ;refine aq (sR e) λa hv e=>?_;subst hv;refine aq (tX e) λvs ha e=>?_;refine aD (dc e) λhl e=>?_;cases e;refine qF (m.o6 ha) (by rw [Ph];exact Qq hl (by decide)) ?_
 have hf:y9 C.length (.list (vs++ [w]))=true:=by
  show (vs++ [w]).all (lk C.length)=true;rw [List.all_append,Pe];exact ⟨m.wf _ _ ha,by show (lk C.length w && true)=true;rw [fw];rfl⟩
 have:=hQ σ _ gL.set (m.set (lW ha) hf) rfl;rw [show kC σ (.list (vs++ [w]))=.list (vs.map (cG σ)++ [cG σ w]) from congrArg Ob.list (QG ..)] at this;exact this
end
def LH (Γr:RG) (Γ:Sg):Prop:=∀f args H0 C σ H,Em H0 σ C H->yR C.length args->nT H0 C σ (Γr f args C) (Γ f (pK σ args) H)
section
variable {Γr:RG} {Γ:Sg} {H0 H:Hp} {C:Ch} {σ:Nat->Addr} {ρ:Lc}
def uZ (Γr:RG) (Γ:Sg) (e:E):Prop:=∀H0 C σ H ρ,Em H0 σ C H->mX C.length ρ->nT H0 C σ (rE Γr e ρ C) (bp Γ e (bC σ ρ) H)
def PL (Γr:RG) (Γ:Sg) (e:E):Prop:=∀H0 C σ H ρ,Em H0 σ C H->mX C.length ρ->O1 H0 C σ (zK Γr e ρ C) (lh Γ e (bC σ ρ) H)
def PA (Γr:RG) (Γ:Sg) (e:E):Prop:=∀H0 C σ H ρ,Em H0 σ C H->mX C.length ρ->nT H0 C σ (s9 Γr e ρ C) (jz Γ e (bC σ ρ) H)
def PO (Γr:RG) (Γ:Sg) (e:E):Prop:=∀H0 C σ H ρ,Em H0 σ C H->mX C.length ρ->nT H0 C σ (zH Γr e ρ C) (mW Γ e (bC σ ρ) H)
theorem uZ.at {e:E} (h:uZ Γr Γ e) {σ':Nat->Addr} {C':Ch} (t:gL σ C σ' C') (m:Em H0 σ' C' H) (f:mX C.length ρ):nT H0 C' σ' (rE Γr e ρ C') (bp Γ e (bC σ ρ) H):=by
 rw [<- dj t.eq f];exact h H0 C' σ' H ρ m (eC t.le f)
theorem fo {σ':Nat->Addr} {C':Ch} {v:V} (t:gL σ C σ' C') (f:pL C.length v):cG σ v=cG σ' v:=(oz t.eq f).symm
theorem qW {v:V}:truthy (cG σ v)=truthy v:=by cases v<;>rfl
theorem two {e1 e2:E} {kr:V->V->Ch->Out} {kw:V->V->Hp->(V->Hp->Prop)->Prop} (h1:uZ Γr Γ e1) (h2:uZ Γr Γ e2)
 (hk:∀{H0 C σ H v w},Em H0 σ C H->pL C.length v->pL C.length w->nT H0 C σ (kr v w C) (kw (cG σ v) (cG σ w) H)) (m:Em H0 σ C H) (f:mX C.length ρ) :
 nT H0 C σ ((rE Γr e1 ρ C).bind λp=>(rE Γr e2 ρ p.2).bind λq=>kr p.1 q.1 q.2) λQ=>bp Γ e1 (bC σ ρ) H λv H=>bp Γ e2 (bC σ ρ) H λw H=>kw v w H Q:=
 cW.bind (wk:=λv H Q=>bp Γ e2 (bC σ ρ) H λw H=>kw v w H Q) (h1 H0 C σ H ρ m f) λv C1 σ1 H1 t m1 f1=>
  cW.bind (wk:=λw H Q=>kw (cG σ1 v) w H Q) (h2.at t m1 f) λw C2 σ2 H2 t2 m2 f2=>by
   rw [fo t2 f1];exact hk m2 (gk t2.le f1) f2
theorem one {e1:E} {kr:V->Ch->Out} {kw:V->Hp->(V->Hp->Prop)->Prop} (h1:uZ Γr Γ e1)
 (hk:∀{H0 C σ H v},Em H0 σ C H->pL C.length v->nT H0 C σ (kr v C) (kw (cG σ v) H)) (m:Em H0 σ C H) (f:mX C.length ρ) :
 nT H0 C σ ((rE Γr e1 ρ C).bind λp=>kr p.1 p.2) λQ=>bp Γ e1 (bC σ ρ) H λv H=>kw v H Q:=
 cW.bind (wk:=λv H Q=>kw v H Q) (h1 H0 C σ H ρ m f) λ_ _ _ _ _ m1 f1=>hk m1 f1
theorem many {e1:E} {kr:List V->Ch->Out} {kw:List V->Hp->(V->Hp->Prop)->Prop} (h1:PL Γr Γ e1)
 (hk:∀{H0 C σ H vs},Em H0 σ C H->yR C.length vs->nT H0 C σ (kr vs C) (kw (pK σ vs) H)) (m:Em H0 σ C H) (f:mX C.length ρ) :
 nT H0 C σ ((zK Γr e1 ρ C).bind λp=>kr p.1 p.2) λQ=>lh Γ e1 (bC σ ρ) H λv H=>kw v H Q:=
 cW.bind (wk:=λv H Q=>kw v H Q) (h1 H0 C σ H ρ m f) λ_ _ _ _ _ m1 f1=>hk m1 f1
theorem nE:∀is:List Int,(is.map V.int).all gG=true
 | []=>rfl
 | _::r=>nE r
def mD {c:Nat} {vs:List V}:Prop:=∀(hΓ:LH Γr Γ) (m:Em H0 σ C H) (f:yR C.length vs),nT H0 C σ ((Γr (1000+c) (.ref (C.length+1)::vs) ((C++ [.dict []])++ [.inst c C.length])).bind λq=>if isNone q.1=true then some (.ref (C.length+1),q.2) else none)
 λQ=>∀a dx,H a=none->H dx=none->a≠dx->Γ (1000+c) (.ref a::pK σ vs) ((H.upd a (.inst c dx)).upd dx (.dict [])) λv H=>isNone v=true/\Q (.ref a) H
theorem A7 {c:Nat} {vs:List V}:@mD Γr Γ H0 H C σ c vs:=ao (S:=λx:(RG×Sg×Hp×Hp)×(Ch×(Nat->Addr)×Nat×List V)=>@mD x.1.1 x.1.2.1 x.1.2.2.1 x.1.2.2.2 x.2.1 x.2.2.1 x.2.2.2.1 x.2.2.2.2) (x:=((λ_ _ _=>none,λ_ _ _ _=>True,λ_=>none,λ_=>none),([],λ_=>0,0,[]))) (by
 refine (?_:∀Γr Γ H0 H C σ c vs,@mD Γr Γ H0 H C σ c vs) _ _ _ _ _ _ _ _;intro Γr Γ H0 H C σ c vs hΓ m f;intro v C' e Q hQ a dx ha hd hne;refine aq (PJ.mp e) ?_;rintro ⟨u,C1⟩ e1 e2;refine aD (dc e2) λhu e2=>?_;cases e2
 have hd1:(H.upd dx (.dict [])) a=none:=by rw [Hp.ay hne];exact ha
 have m1:=m.new (o:=.dict []) hd rfl
 have hl1:(C++ [Ob.dict []]).length=C.length+1:=by rw [Pg];rfl
 have m2:=m1.new (o:=.inst c C.length) hd1 (Px (by rw [hl1];exact Qg (PD _)));have t2:gL σ C _ ((C++ [.dict []])++ [.inst c C.length]):=gL.trans (gL.new (x:=dx)) (gL.new (x:=a))
 have hl2:((C++ [Ob.dict []])++ [Ob.inst c C.length]).length=C.length+2:=by rw [Pg,hl1];rfl
 have ea:ext (ext σ C.length dx) (C++ [Ob.dict []]).length a (C.length+1)=a:=by rw [hl1];exact hZ
 have h3:=hΓ (1000+c) (.ref (C.length+1)::vs) H0 _ _ _ m2 (by
  show (decide _ && vs.all (lk _))=true
  rw [hl2,Px (show C.length+1<C.length+2 from PD _),Rr];exact qR (PK _ 2) f) u C1 e1 (λv H=>isNone v=true/\Q (.ref a) H) λσ' H' t m' fu=>by
   refine And.intro (by cases u<;>first | rfl | exact nomatch hu) ?_;have:=hQ σ' H' (t2.trans t) m' (by show decide _=true;have:=t.le;rw [hl2] at this;exact Px (Pa (PD _) this));rw [show cG σ' (.ref (C.length+1))=.ref a from congrArg V.ref ((t.eq _ (by rw [hl2];exact PD _)).trans ea)] at this;exact this
 have er:pK (ext (ext σ C.length dx) (C++ [Ob.dict []]).length a) (.ref (C.length+1)::vs)=.ref a::pK σ vs:=by
  show V.ref _::_=_;rw [ea];exact congrArg (V.ref a::·) (oy t2.eq f)
 rw [er] at h3
 have eh:((H.upd dx (kC (ext σ C.length dx) (.dict []))).upd a (kC (ext (ext σ C.length dx) (C++ [Ob.dict []]).length a) (.inst c C.length)))=((H.upd a (.inst c dx)).upd dx (.dict [])):=by
  rw [Hp.bt _ _ _ hne];show (H.upd dx (.dict [])).upd a (.inst c _)=_;rw [fA (by rw [hl1];exact PD _),hZ]
 rw [eh] at h3
 exact h3) ((Γr,Γ,H0,H),(C,σ,c,vs))
end
section
variable {Γr:RG} {Γ:Sg} {H0 H:Hp} {C:Ch} {σ:Nat->Addr} {ρ:Lc}
structure PP (Γr:RG) (Γ:Sg) (x:E):Prop where
 e:uZ Γr Γ x
 l:PL Γr Γ x
 a:PA Γr Γ x
 o:PO Γr Γ x
theorem PP.of {e:E} (h:uZ Γr Γ e) (h1:∀ρ C,zK Γr e ρ C=none) (h2:∀ρ C,s9 Γr e ρ C=none) (h3:∀ρ C,zH Γr e ρ C=none):PP Γr Γ e:=
 ⟨h,λ_ _ _ _ _ _ _=>by rw [h1];exact cW.none,λ_ _ _ _ _ _ _=>by rw [h2];exact cW.none,λ_ _ _ _ _ _ _=>by rw [h3];exact cW.none⟩
theorem uZ.no {e:E} (h:∀ρ C,rE Γr e ρ C=none):uZ Γr Γ e:=λ_ _ _ _ _ _ _=>by rw [h];exact cW.none
theorem BC {kw:V->Hp->(V->Hp->Prop)->Prop} {g:Int->Int} (hk:∀i H Q,Q (.int (g i)) H->kw (.int i) H Q) {v:V} (m:Em H0 σ C H):nT H0 C σ (match v with | .int i=>some (.int (g i),C) | _=>none) (kw (cG σ v) H):=by
 cases v<;>first | exact cW.none | exact cW.pure m rfl λQ h=>hk _ H Q h
theorem xc {α β:Type} {rn:(Nat->Addr)->α->β} {wf:Nat->α->Prop} {v:V} {a b:Option (α×Ch)} {A B:(β->Hp->Prop)->Prop} (ha:cW rn wf H0 C σ a A) (hb:cW rn wf H0 C σ b B):cW rn wf H0 C σ ((truthy v).bind λc=>if c then a else b) (λQ=>cz (cG σ v) (A Q) (B Q)):=by
 intro v' C' e Q hQ;refine aq (PJ.mp e) λc hc e=>?_;unfold cz;rw [qW,hc];cases c
 ·exact hb v' C' e Q hQ
 ·exact ha v' C' e Q hQ
theorem FG (hΓ:LH Γr Γ):∀e:E,PP Γr Γ e:=by
 intro e
 induction e with
 | nil=>exact ⟨uZ.no λ_ _=>rfl,λ_ _ _ _ _ m _=>cW.pure m rfl λ_ h=>h,λ_ _ _ _ _ _ _=>cW.none,λ_ _ _ _ _ _ _=>cW.none⟩
 | cons c r ihc ihr=>
  refine ⟨uZ.no λ_ _=>rfl,λH0 C σ H ρ m f=>?_,λH0 C σ H ρ m f=>?_,λH0 C σ H ρ m f=>?_⟩
  ·refine cW.bind (wk:=λv H Q=>lh Γ r (bC σ ρ) H λvs H=>Q (v::vs) H) (ihc.e H0 C σ H ρ m f) λv C1 σ1 H1 t m1 f1=>?_;refine cW.bind (rn:=pK) (wf:=yR) (w:=lh Γ r (bC σ ρ) H1) (wk:=λvs H Q=>Q (cG σ1 v::vs) H) ?_ λvs C2 σ2 H2 t2 m2 f2=>?_
   ·rw [<- dj t.eq f];exact ihr.l H0 C1 σ1 H1 ρ m1 (eC t.le f)
   ·rw [fo t2 f1];exact cW.pure (v:=v::vs) m2 (by show (lk _ v && vs.all (lk _))=true;rw [gk t2.le f1,f2];rfl) λ_ h=>h
  ·refine cW.bind (wk:=λv H Q=>match isNil r with | true=>Q v H | false=>cz v (jz Γ r (bC σ ρ) H Q) (Q v H)) (ihc.e H0 C σ H ρ m f) λv C1 σ1 H1 t m1 f1=>?_;cases isNil r
   ·refine xc (A:=λQ=>jz Γ r (bC σ ρ) H1 Q) (B:=λQ=>Q (cG σ1 v) H1) ?_ (cW.pure m1 f1 λ_ h=>h);rw [<- dj t.eq f];exact ihr.a H0 C1 σ1 H1 ρ m1 (eC t.le f)
   ·exact cW.pure m1 f1 λ_ h=>h
  ·refine cW.bind (wk:=λv H Q=>match isNil r with | true=>Q v H | false=>cz v (Q v H) (mW Γ r (bC σ ρ) H Q)) (ihc.e H0 C σ H ρ m f) λv C1 σ1 H1 t m1 f1=>?_;cases isNil r
   ·refine xc (A:=λQ=>Q (cG σ1 v) H1) (B:=λQ=>mW Γ r (bC σ ρ) H1 Q) (cW.pure m1 f1 λ_ h=>h) ?_;rw [<- dj t.eq f];exact ihr.o H0 C1 σ1 H1 ρ m1 (eC t.le f)
   ·exact cW.pure m1 f1 λ_ h=>h
 | bad | lZ | Ar | pop | index | count | slice | comp=>exact PP.of (uZ.no λ_ _=>rfl) (λ_ _=>rfl) (λ_ _=>rfl) λ_ _=>rfl
 | g6 | bu | bB=>exact PP.of (λ_ _ _ _ _ m _=>cW.pure m rfl λ_ h=>h) (λ_ _=>rfl) (λ_ _=>rfl) λ_ _=>rfl
 | l7 is=>exact PP.of (λ_ _ _ _ _ m _=>cW.pure m (nE is) λ_ h=>h) (λ_ _=>rfl) (λ_ _=>rfl) λ_ _=>rfl
 | loc i=>
  refine PP.of (λH0 C σ H ρ m f v C' e Q hQ=>?_) (λ_ _=>rfl) (λ_ _=>rfl) λ_ _=>rfl;refine aq (PU.mp e) λz hz e2=>?_;cases e2;show (match getL (bC σ ρ) i with | some v=>Q v H | none=>False);rw [pU,hz];exact hQ σ H (gL.refl _ _) m (f i _ hz)
 | bin op l r il ir=>exact PP.of (λH0 C σ H ρ m f=>two (kr:=CD op) (kw:=au op) il.e ir.e (λm _ _=>zN m) m f) (λ_ _=>rfl) (λ_ _=>rfl) λ_ _=>rfl
 | neg e ih=>exact PP.of (λH0 C σ H ρ m f=>one (kr:=λv C=>match v with | .int i=>some (.int (-i),C) | _=>none) (kw:=oO) ih.e (λm _=>BC (λ_ _ _ h=>eM h) m) m f) (λ_ _=>rfl) (λ_ _=>rfl) λ_ _=>rfl
 | inv e ih=>exact PP.of (λH0 C σ H ρ m f=>one (kr:=λv C=>match v with | .int i=>some (.int (Builtin.bitNot i),C) | _=>none) (kw:=xa) ih.e (λm _=>BC (λ_ _ _ h=>je h) m) m f) (λ_ _=>rfl) (λ_ _=>rfl) λ_ _=>rfl
 | dU es ih=>exact PP.of (λH0 C σ H ρ m f=>ih.a H0 C σ H ρ m f) (λ_ _=>rfl) (λ_ _=>rfl) λ_ _=>rfl
 | tf es ih=>exact PP.of (λH0 C σ H ρ m f=>ih.o H0 C σ H ρ m f) (λ_ _=>rfl) (λ_ _=>rfl) λ_ _=>rfl
 | cmp op l r il ir=>
  refine PP.of (λH0 C σ H ρ m f=>two (kr:=λv w C=>(CB op v w).map λb=>(.bool b,C)) (kw:=bK op) il.e ir.e (λm _ _ v C' e Q hQ=>?_) m f) (λ_ _=>rfl) (λ_ _=>rfl) λ_ _=>rfl;refine aq (PU.mp e) λb hb e2=>?_;cases e2;exact zM hb (hQ _ _ (gL.refl _ _) m rfl)
 | call f args ih=>exact PP.of (λH0 C σ H ρ m g=>many (kr:=Γr f) (kw:=Γ f) ih.l (λm h=>hΓ f _ _ _ _ _ m h) m g) (λ_ _=>rfl) (λ_ _=>rfl) λ_ _=>rfl
 | new c args ih=>exact PP.of (λH0 C σ H ρ m g=>many (kr:=λvs C=>(Γr (1000+c) (.ref (C.length+1)::vs) ((C++ [Ob.dict []])++ [Ob.inst c C.length]:Ch)).bind λq=>if isNone q.1=true then some (.ref (C.length+1),q.2) else none) (kw:=λvs H Q=>∀a dx,H a=none->H dx=none->a≠dx->Γ (1000+c) (.ref a::vs) ((H.upd a (.inst c dx)).upd dx (.dict [])) λv H=>isNone v=true/\Q (.ref a) H) ih.l (λm h=>A7 hΓ m h) m g) (λ_ _=>rfl) (λ_ _=>rfl) λ_ _=>rfl
 | bi b args ih=>exact PP.of (λH0 C σ H ρ m f=>many (kr:=Jr b) (kw:=bY b) ih.l (λm _=>CE m) m f) (λ_ _=>rfl) (λ_ _=>rfl) λ_ _=>rfl
 | append o x io ix=>
  refine PP.of (λH0 C σ H ρ m f=>?_) (λ_ _=>rfl) (λ_ _=>rfl) λ_ _=>rfl;refine cW.bind (wk:=λv H Q=>DI v H/\bp Γ x (bC σ ρ) H λw H=>dB v w H Q) (io.e H0 C σ H ρ m f) λv C1 σ1 H1 t m1 f1 v' C' e Q hQ=>?_
  obtain ⟨h1,e⟩:ui v C1=true/\((rE Γr x ρ C1).bind λq=>zQ v q.1 q.2)=some (v',C'):=by
   by_cases z:ui v C1=true
   ·exact ⟨z,by rw [<- e];exact (Po z).symm⟩
   ·rw [show (if ui v C1=true then (rE Γr x ρ C1).bind λq=>zQ v q.1 q.2 else none)=none from Pf z] at e;cases e
  refine ⟨zI m1 h1,?_⟩;exact (cW.bind (wk:=λw H Q=>dB (cG σ1 v) w H Q) (ix.e.at t m1 f) λw C2 σ2 H2 t2 m2 f2=>by rw [fo t2 f1];exact zP m2 f2) v' C' e Q hQ
 | attr o n ih=>exact PP.of (λH0 C σ H ρ m f=>one (kr:=λv C=>vU v n C) (kw:=λv H Q=>dM v n H Q) ih.e (λm _=>vT m) m f) (λ_ _=>rfl) (λ_ _=>rfl) λ_ _=>rfl
 | sub o i io ii=>exact PP.of (λH0 C σ H ρ m f=>two (kr:=zG) (kw:=aN) io.e ii.e (λm h _=>sZ m h) m f) (λ_ _=>rfl) (λ_ _=>rfl) λ_ _=>rfl
 | tup es ih=>
  refine PP.of (λH0 C σ H ρ m f=>many (kr:=λvs C=>if vs.length<=1000/\vs.all gG=true then some (.tup vs,C) else none) (kw:=λvs H Q=>vs.length<=1000/\Q (.tup vs) H) ih.l (λm h v C' e Q hQ=>?_) m f) (λ_ _=>rfl) (λ_ _=>rfl) λ_ _=>rfl;refine aD (dc e) ?_;rintro ⟨h1,h2⟩ e;cases e;have:=hQ _ _ (gL.refl _ _) m h2;rw [jV h2];exact ⟨h1,this⟩
 | lst es ih=>
  refine PP.of (λH0 C σ H ρ m f=>many (kr:=λvs C=>if vs.length<=1000 then some (.ref C.length,(C++ [Ob.list vs]:Ch)) else none) (kw:=c7) ih.l (λm h v C' e Q hQ=>?_) m f) (λ_ _=>rfl) (λ_ _=>rfl) λ_ _=>rfl;refine aD (dc e) λh1 e=>?_;exact qI m h h1 v C' (e ▸ rfl) Q hQ
end
noncomputable def Jo (σ:Nat->Addr):Fl->Fl
 | .ret v=>.ret (cG σ v)
 | f=>f
def Od (n:Nat):Fl->Prop
 | .ret v=>pL n v
 | _=>True
noncomputable def mK (σ:Nat->Addr) (p:Fl×Lc):Fl×Lc:=(Jo σ p.1,bC σ p.2)
def pJ (n:Nat) (p:Fl×Lc):Prop:=Od n p.1/\mX n p.2
noncomputable abbrev Ir:=cW mK pJ
noncomputable abbrev O9:=cW (λ_ (u:Unit)=>u) (λ_ _=>True)
section
variable {Γr:RG} {Γ:Sg} {H0 H:Hp} {C:Ch} {σ:Nat->Addr} {ρ:Lc}
theorem vQ {v x:V} {n:Nat} (m:Em H0 σ C H) (fx:pL C.length x) {C':Ch} (e:Bo v n x C=some C') {P:Hp->Prop} (h:∀H',Em H0 σ C' H'->gL σ C σ C'->P H'):bj (cG σ v) n (cG σ x) H P:=by
 refine aq (sR e) λa hv e=>?_;subst hv;refine o8 (BO e) λc dx ha e=>?_;refine aq (BP e) λfs hd e=>?_;refine aD (dc e) λh1 e=>?_;subst e;refine pS (m.o6 ha) (m.o6 hd) (by rw [Ph];exact h1) ?_;have:=h _ (m.set (lW hd) (ta fx (m.wf _ _ hd))) gL.set;rw [show kC σ (.dict (gu n x fs))=.dict (gu n (cG σ x) (fs.map λp=>(p.1,cG σ p.2))) from congrArg Ob.dict p6] at this;exact this
theorem y8 {n i:Nat} {vs:List V} {x:V} (h:yR n vs) (f:pL n x):yR n (vs.set i x):=Pp.mpr λv hv=>by
 rcases List.mem_or_eq_of_mem_set hv with q | q
 ·exact Pp.mp h v q
 ·exact q ▸ f
theorem pW {v i x:V} (m:Em H0 σ C H) (fx:pL C.length x) {C':Ch} (e:vP v i x C=some C') {P:Hp->Prop} (h:∀H',Em H0 σ C' H'->gL σ C σ C'->P H'):bT (cG σ v) (cG σ i) (cG σ x) H P:=by
 refine aq (sR e) λa hv e=>?_;refine aq (gM e) λi hi e=>?_;subst hv hi;refine aq (tX e) λvs ha e=>?_;refine aD (dc e) λh1 e=>?_;subst e;have:=h _ (m.set (lW ha) (o:=.list (vs.set i.toNat x)) (y8 (m.wf _ _ ha) fx)) gL.set;have hi:(.int i:V)=nv i.toNat:=congrArg V.int (Rv h1.1).symm;show bT (.ref (σ a)) (.int i) (cG σ x) H P;rw [hi];refine Bg (m.o6 ha) (by rw [Ph];exact h1.2) ?_;rw [show kC σ (.list (vs.set i.toNat x))=.list ((vs.map (cG σ)).set i.toNat (cG σ x)) from congrArg Ob.list (List.map_set ..)] at this;exact this
theorem pY {op:gD} {v w z:V} (e:zO op v w=some z):∃y:Int,z=.int y:=
 aq (gM e) λ_ _ e=>aq (gM e) λ_ _ e=>aq (PU.mp e) λy _ e=>⟨y,e.symm⟩
theorem kN {op:gD} {v w z:V} (e:zO op v w=some z) {P:V->Prop} (h:P z):kH op (cG σ v) (cG σ w) P/\∀n,pL n z:=by
 refine aq (gM e) λx h1 e=>?_;refine aq (gM e) λz h2 e=>?_;subst h1 h2;refine aq (PU.mp e) λy hy e=>?_;subst e;exact ⟨EP.mk (s8 (P:=λz=>P (.int z)) hy h),λ_=>rfl⟩
def OZ (Γr:RG) (Γ:Sg) (s:S):Prop:=∀H0 C σ H ρ,Em H0 σ C H->mX C.length ρ->Ir H0 C σ (rS Γr s ρ C) λQ=>wpS Γ s (bC σ ρ) H λfl ρ H=>Q (fl,ρ) H
def E3 (Γr:RG) (Γ:Sg) (s:S):Prop:=∀H0 C σ H ρ,Em H0 σ C H->mX C.length ρ->Ir H0 C σ (rB Γr s ρ C) λQ=>aO Γ s (bC σ ρ) H λfl ρ H=>Q (fl,ρ) H
theorem E3.at {s:S} (h:E3 Γr Γ s) {σ':Nat->Addr} {C':Ch} (t:gL σ C σ' C') (m:Em H0 σ' C' H) (f:mX C.length ρ):Ir H0 C' σ' (rB Γr s ρ C') λQ=>aO Γ s (bC σ ρ) H λfl ρ H=>Q (fl,ρ) H:=by
 rw [<- dj t.eq f];exact h H0 C' σ' H ρ m (eC t.le f)
theorem xl {b:S} (hb:E3 Γr Γ b) {i:Nat}:∀{vs:List V} {C:Ch} {σ:Nat->Addr} {H:Hp} {ρ:Lc},vs.all gG=true->Em H0 σ C H->mX C.length ρ->
 Ir H0 C σ (CA (λρ C=>rB Γr b ρ C) i vs ρ C) λQ=>fi (λρ H Q=>aO Γ b ρ H Q) i (λ_=>True) vs (bC σ ρ) H λfl ρ H=>Q (fl,ρ) H
 | [],C,σ,H,ρ,_,m,f=>cW.pure m ⟨trivial,f⟩ λ_ h=>⟨trivial,h⟩
 | x::r,C,σ,H,ρ,hf,m,f=>by
  have hf:(gG x && r.all gG)=true:=hf;rw [Pe] at hf;intro v C' e Q hQ;refine aq (PJ.mp e) ?_;rintro ⟨⟨fl,ρ1⟩,C1⟩ e1 e2;refine ⟨trivial,?_⟩;have h1:=hb H0 C σ H (cR ρ i x) m (nY f (o7 hf.1)) (fl,ρ1) C1 e1;rw [<- lG,qt hf.1] at h1
  refine h1 (λp H=>match p.1 with
   | .next=>fi (λρ H Q=>aO Γ b ρ H Q) i (λ_=>True) r p.2 H λfl ρ H=>Q (fl,ρ) H
   | .brk=>Q (.next,p.2) H
   | .ret v=>Q (.ret v,p.2) H) λσ1 H1 t1 m1 f1=>?_
  cases fl with
  | next=>exact xl hb hf.2 m1 f1.2 v C' e2 Q λσ2 H2 t2 m2 f2=>hQ σ2 H2 (t1.trans t2) m2 f2
  | brk=>exact nomatch e2
  | ret=>exact nomatch e2
theorem vM {a b c:Int}:(aP a b c).all gG=true:=Pp.mpr λv hv=>by
 unfold aP at hv;refine aq (Rc.mp hv) ?_;rintro k _ rfl;rfl
theorem ON {v:V} {a b:S} (ha:E3 Γr Γ a) (hb:E3 Γr Γ b) {σ':Nat->Addr} {C':Ch} (t:gL σ C σ' C') (m:Em H0 σ' C' H) (f:mX C.length ρ) :
 Ir H0 C' σ' ((truthy v).bind λc=>if c then rB Γr a ρ C' else rB Γr b ρ C') λQ=>cz (cG σ' v) (aO Γ a (bC σ ρ) H λfl ρ H=>Q (fl,ρ) H) (aO Γ b (bC σ ρ) H λfl ρ H=>Q (fl,ρ) H):=
 xc (ha.at t m f) (hb.at t m f)
theorem FE (hE:∀e,PP Γr Γ e):∀s:S,OZ Γr Γ s/\E3 Γr Γ s:=by
 intro s
 induction s with
 | nil=>exact ⟨λ_ _ _ _ _ _ _=>cW.none,λ_ _ _ _ _ m f=>cW.pure m ⟨trivial,f⟩ λ_ h=>h⟩
 | cons s r is ir=>
  refine ⟨λ_ _ _ _ _ _ _=>cW.none,λH0 C σ H ρ m f v C' e Q hQ=>?_⟩;refine aq (PJ.mp e) ?_;rintro ⟨⟨fl,ρ1⟩,C1⟩ e1 e2
  refine is.1 H0 C σ H ρ m f (fl,ρ1) C1 e1 (λp H=>match p.1 with
   | .next=>aO Γ r p.2 H λfl ρ H=>Q (fl,ρ) H
   | .brk=>Q (Fl.brk,p.2) H
   | .ret v=>Q (Fl.ret v,p.2) H) λσ1 H1 t1 m1 f1=>?_
  cases fl with
  | next=>exact ir.2 H0 C1 σ1 H1 ρ1 m1 f1.2 v C' e2 Q λσ2 H2 t2 m2 f2=>hQ σ2 H2 (t1.trans t2) m2 f2
  | brk=>cases e2;exact hQ σ1 H1 t1 m1 f1
  | ret=>cases e2;exact hQ σ1 H1 t1 m1 f1
 | bad | zB | brk | raise | mB | j3=>exact ⟨λ_ _ _ _ _ _ _=>cW.none,λ_ _ _ _ _ _ _=>cW.none⟩
 | gO=>exact ⟨λ_ _ _ _ _ _ _=>cW.none,λ_ _ _ _ _ _ _=>cW.none⟩
 | aG x=>
  refine ⟨λH0 C σ H ρ m f=>?_,λ_ _ _ _ _ _ _=>cW.none⟩;refine cW.bind (rn':=mK) (wf':=pJ) (wk:=λv H Q=>ji v (Q (Fl.next,bC σ ρ) H)) ((hE x).e H0 C σ H ρ m f) λv C1 σ1 H1 t1 m1 f1 v' C' e Q hQ=>?_;refine aD (dc (show (if isNone v=true then some ((Fl.next,ρ),C1) else none)=some (v',C') from e)) λhv e=>?_;cases e;have:=hQ σ1 H1 (gL.refl _ _) m1 ⟨trivial,eC t1.le f⟩
  have hv:v=.none:=by cases v<;>first | rfl | exact Bool.noConfusion hv
  subst hv;rw [mK,dj t1.eq f] at this;exact aQ this
 | asg i x=>
  refine ⟨λH0 C σ H ρ m f=>?_,λ_ _ _ _ _ _ _=>cW.none⟩;refine cW.bind (rn':=mK) (wf':=pJ) (wk:=λv H Q=>Q (Fl.next,cR (bC σ ρ) i v) H) ((hE x).e H0 C σ H ρ m f) λv C1 σ1 H1 t1 m1 f1=>?_;rw [<- dj t1.eq f,lG];exact cW.pure (rn:=mK) (wf:=pJ) (v:=(Fl.next,cR ρ i v)) m1 ⟨trivial,nY (eC t1.le f) f1⟩ λ_ h=>h
 | b9 o n x=>
  refine ⟨λH0 C σ H ρ m f=>?_,λ_ _ _ _ _ _ _=>cW.none⟩;refine cW.bind (rn':=mK) (wf':=pJ) (wk:=λx H Q=>bp Γ o (bC σ ρ) H λv H=>bj v n x H λH=>Q (Fl.next,bC σ ρ) H) ((hE x).e H0 C σ H ρ m f) λx C1 σ1 H1 t1 m1 f1=>?_;refine cW.bind (rn':=mK) (wf':=pJ) (wk:=λv H Q=>bj v n (cG σ1 x) H λH=>Q (Fl.next,bC σ ρ) H) ((hE o).e.at t1 m1 f) λv C2 σ2 H2 t2 m2 f2 v' C' e Q hQ=>?_;refine aq (PU.mp e) λC3 e3 e4=>?_;cases e4;rw [fo t2 f1];refine vQ m2 (gk t2.le f1) e3 λH3 m3 t3=>?_;have:=hQ σ2 H3 t3 m3 ⟨trivial,eC ((t1.trans t2).trans t3).le f⟩;rw [mK,dj (t1.trans t2).eq f] at this;exact this
 | eP o i x=>
  refine ⟨λH0 C σ H ρ m f=>?_,λ_ _ _ _ _ _ _=>cW.none⟩;refine cW.bind (rn':=mK) (wf':=pJ) (wk:=λx H Q=>bp Γ o (bC σ ρ) H λv H=>bp Γ i (bC σ ρ) H λw H=>bT v w x H λH=>Q (Fl.next,bC σ ρ) H) ((hE x).e H0 C σ H ρ m f) λx C1 σ1 H1 t1 m1 f1=>?_;refine cW.bind (rn':=mK) (wf':=pJ) (wk:=λv H Q=>bp Γ i (bC σ ρ) H λw H=>bT v w (cG σ1 x) H λH=>Q (Fl.next,bC σ ρ) H) ((hE o).e.at t1 m1 f) λv C2 σ2 H2 t2 m2 f2=>?_;refine cW.bind (rn':=mK) (wf':=pJ) (wk:=λw H Q=>bT (cG σ2 v) w (cG σ1 x) H λH=>Q (Fl.next,bC σ ρ) H) ((hE i).e.at (t1.trans t2) m2 f) λw C3 σ3 H3 t3 m3 f3 v' C' e Q hQ=>?_;refine aq (PU.mp e) λC4 e3 e4=>?_;cases e4;rw [fo (t2.trans t3) f1,fo t3 f2];refine pW m3 (gk (t2.trans t3).le f1) e3 λH4 m4 t4=>?_;have:=hQ σ3 H4 t4 m4 ⟨trivial,eC (((t1.trans t2).trans t3).trans t4).le f⟩;rw [mK,dj ((t1.trans t2).trans t3).eq f] at this;exact this
 | aug i op x=>
  refine ⟨λH0 C σ H ρ m f v C' e Q hQ=>?_,λ_ _ _ _ _ _ _=>cW.none⟩;refine aq (PJ.mp e) λu hu e=>?_
  show (match getL (bC σ ρ) i with
   | some v=>bp Γ x (bC σ ρ) H λw H=>kH op v w λz=>Q (Fl.next,cR (bC σ ρ) i z) H
   | none=>False)
  rw [pU,hu];have fu:=f i u hu;refine (cW.bind (rn':=mK) (wf':=pJ) (wk:=λw H Q=>kH op (cG σ u) w λz=>Q (Fl.next,cR (bC σ ρ) i z) H) ((hE x).e H0 C σ H ρ m f) λw C1 σ1 H1 t1 m1 f1 v' C' e Q hQ=>?_) v C' e Q hQ;refine aq (PU.mp e) λz hz e4=>?_;cases e4;rw [fo t1 fu];have hz':=(kN (σ:=σ1) (P:=λ_=>True) hz trivial).2;refine (kN hz ?_).1;have:=hQ σ1 H1 (gL.refl _ _) m1 ⟨trivial,nY (eC t1.le f) (hz' _)⟩;refine bI (pY hz) λy hy=>?_;subst hy;rw [<- dj t1.eq f,show (.int y:V)=cG σ1 (.int y) from rfl,lG];exact this
 | jt o i op x=>
  refine ⟨λH0 C σ H ρ m f=>?_,λ_ _ _ _ _ _ _=>cW.none⟩;refine cW.bind (rn':=mK) (wf':=pJ) (wk:=λv H Q=>bp Γ i (bC σ ρ) H λw H=>aN v w H λu H=>bp Γ x (bC σ ρ) H λy H=>kH op u y λz=>bT v w z H λH=>Q (Fl.next,bC σ ρ) H) ((hE o).e H0 C σ H ρ m f) λv C1 σ1 H1 t1 m1 f1=>?_;refine cW.bind (rn':=mK) (wf':=pJ) (wk:=λw H Q=>aN (cG σ1 v) w H λu H=>bp Γ x (bC σ ρ) H λy H=>kH op u y λz=>bT (cG σ1 v) w z H λH=>Q (Fl.next,bC σ ρ) H) ((hE i).e.at t1 m1 f) λw C2 σ2 H2 t2 m2 f2=>?_;rw [fo t2 f1];refine cW.bind (rn':=mK) (wf':=pJ) (wk:=λu H Q=>bp Γ x (bC σ ρ) H λy H=>kH op u y λz=>bT (cG σ2 v) (cG σ2 w) z H λH=>Q (Fl.next,bC σ ρ) H) (sZ m2 (gk t2.le f1)) λu C3 σ3 H3 t3 m3 f3=>?_;refine cW.bind (rn':=mK) (wf':=pJ) (wk:=λy H Q=>kH op (cG σ3 u) y λz=>bT (cG σ2 v) (cG σ2 w) z H λH=>Q (Fl.next,bC σ ρ) H) ((hE x).e.at ((t1.trans t2).trans t3) m3 f) λy C4 σ4 H4 t4 m4 f4 v' C' e Q hQ=>?_;refine aq (PJ.mp e) λz hz e=>?_;refine aq (PU.mp e) λC5 e3 e4=>?_;cases e4;have hz':=(kN (σ:=σ4) (P:=λ_=>True) hz trivial).2;rw [fo t4 f3,fo (t3.trans t4) (gk t2.le f1),fo (t3.trans t4) f2];refine (kN hz ?_).1
  have hr:z=cG σ4 z:=bI (pY hz) λy hy=>by rw [hy];rfl
  rw [hr];refine pW m4 (hz' _) e3 λH5 m5 t5=>?_;have:=hQ σ4 H5 t5 m5 ⟨trivial,eC ((((t1.trans t2).trans t3).trans t4).trans t5).le f⟩;rw [mK,dj (((t1.trans t2).trans t3).trans t4).eq f] at this;exact this
 | bh t a b ia ib=>
  refine ⟨λH0 C σ H ρ m f=>?_,λ_ _ _ _ _ _ _=>cW.none⟩;exact cW.bind (rn':=mK) (wf':=pJ) (wk:=λv H Q=>cz v (aO Γ a (bC σ ρ) H λfl ρ H=>Q (fl,ρ) H) (aO Γ b (bC σ ρ) H λfl ρ H=>Q (fl,ρ) H)) ((hE t).e H0 C σ H ρ m f) λv C1 σ1 H1 t1 m1 f1=>ON ia.2 ib.2 t1 m1 f
 | cy i it b ib=>
  refine ⟨λH0 C σ H ρ m f=>?_,λ_ _ _ _ _ _ _=>cW.none⟩;refine cW.bind (rn':=mK) (wf':=pJ) (wk:=λv H Q=>fg (λρ H Q=>aO Γ b ρ H Q) i v (bC σ ρ) H λfl ρ H=>Q (fl,ρ) H) ((hE it).e H0 C σ H ρ m f) λv C1 σ1 H1 t1 m1 f1=>?_
  cases v with
  | fW x y z=>
   intro v C' e Q hQ;unfold fg;rw [<- dj t1.eq f];exact xl ib.2 vM m1 (eC t1.le f) v C' e Q hQ
  | _=>exact cW.none
 | ret x=>
  refine ⟨λH0 C σ H ρ m f=>?_,λ_ _ _ _ _ _ _=>cW.none⟩;refine cW.bind (rn':=mK) (wf':=pJ) (wk:=λv H Q=>Q (Fl.ret v,bC σ ρ) H) ((hE x).e H0 C σ H ρ m f) λv C1 σ1 H1 t1 m1 f1=>?_;rw [<- dj t1.eq f];exact cW.pure (rn:=mK) (wf:=pJ) (v:=(Fl.ret v,ρ)) m1 ⟨f1,eC t1.le f⟩ λ_ h=>h
theorem ug {vs:List V} {n:Nat}:(pK σ vs).map some++List.replicate n none=bC σ (vs.map some++List.replicate n none):=by
 unfold bC pK;rw [QG,SA,RB,RB];rfl
theorem ve {vs:List V} {n k:Nat} (h:yR k vs):mX k (vs.map some++List.replicate n none):=λi v e=>by
 have hm:some v∈vs.map some++List.replicate n none:=by
  unfold getL at e
  cases h2:(vs.map some++List.replicate n none)[i]? with
  | none=>rw [h2] at e;cases e
  | some o=>rw [h2] at e;have e:o=some v:=e;rw [<- e];exact PY h2
 rcases PZ.mp hm with q | q
 ·refine aq (Rc.mp q) λu hu e=>?_;cases e;exact Pp.mp h _ hu
 ·exact nomatch List.eq_of_mem_replicate q
theorem pX:∀d,LH (i7 code d) (gh code d)
 | 0=>λ_ _ _ _ _ _ _ _=>cW.none
 | d+1=>λf args H0 C σ H m g v C' e Q hQ=>by
  unfold i7 at e
  show (match code f with
   | none=>False
   | some F=>(pK σ args).length=F.np/\aO (gh code d) F.body ((pK σ args).map some++List.replicate (F.names.length-F.np) none) H λfl _ H'=>match iD fl with
    | some v=>∃H'':Hp,H''.Sub H'/\Q v H''
    | none=>False)
  cases hc:code f with
  | none=>rw [hc] at e;cases e
  | some F=>
   rw [hc] at e;have e:(if args.length=F.np then (rB (i7 code d) F.body (args.map some++List.replicate (F.names.length-F.np) none) C).bind λp=>(iD p.1.1).map (·,p.2) else none)=some (v,C'):=e;by_cases hn:args.length=F.np
   ·rw [Po hn] at e;refine aq (PJ.mp e) ?_;rintro ⟨⟨fl,ρ1⟩,C1⟩ e1 e2;refine aq (PU.mp e2) λu hu e3=>?_;cases e3;refine ⟨(Ph ..).trans hn,?_⟩;rw [ug]
    refine (FE (FG (pX d)) F.body).2 H0 C σ H _ m (ve g) (fl,ρ1) C1 e1 (λp H'=>match iD p.1 with
     | some v=>∃H'':Hp,H''.Sub H'/\Q v H''
     | none=>False) λσ1 H1 t1 m1 f1=>?_
    cases fl with
    | next=>cases hu;exact ⟨H1,Hp.Sub.refl _,hQ σ1 H1 t1 m1 rfl⟩
    | brk=>cases hu
    | ret w=>cases hu;exact ⟨H1,Hp.Sub.refl _,hQ σ1 H1 t1 m1 f1.1⟩
   ·rw [Pf hn] at e;cases e
theorem xK {d f:Nat} {args:List V} (hf:args.all gG=true) {v:V} {C:Ch} (e:i7 code d f args []=some (v,C)) {q:V->Hp->Prop}
 (h:∀σ H',Em H σ C H'->q (cG σ v) H'):Call d f args H q:=by
 unfold Call;have m:Em H (λ_=>0) [] H:={ got:=λi o hi=>(nomatch hi),fr:=λi hi=>absurd hi (Qu _),inj:=λi j hi=>absurd hi (Qu _),off:=λ_ _=>rfl,wf:=λi o hi=>(nomatch hi) };have:=pX d f args H [] (λ_=>0) H m (Pp.mpr λx hx=>o7 (Pp.mp hf x hx)) v C e q λσ' H' _ m' _=>h σ' H' m';rw [jV hf] at this;exact this
end
noncomputable def mI:aE:=⟨4,5,true,false,[69905,139810,279620,559240],[15,240,3840,61440,983040],[[69904,139808,279616,559232,69888,139776,279552,559104,69632,139264,278528,557056,65536,131072,262144,524288,0,0,0,0],[14,12,8,0,224,192,128,0,3584,3072,2048,0,57344,49152,32768,0,917504,786432,524288,0],[0,0,0,0,1,2,4,8,17,34,68,136,273,546,1092,2184,4369,8738,17476,34952],[0,1,3,7,0,16,48,112,0,256,768,1792,0,4096,12288,28672,0,65536,196608,458752],[33824,2112,128,0,541184,33792,2048,0,270336,540672,32768,0,131072,262144,524288,0,0,0,0,0],[0,0,0,0,2,4,8,0,36,72,128,0,584,1152,2048,0,9344,18432,32768,0],[0,0,0,0,0,1,2,4,0,16,33,66,0,256,528,1057,0,4096,8448,16912],[0,16,288,4672,0,256,4608,74752,0,4096,73728,147456,0,65536,131072,262144,0,0,0,0]],[50,117,234,196,803,1879,3758,3148,12848,30064,60128,50368,205568,481024,962048,805888,143360,356352,712704,311296],[576,1408,2576,1056,9220,22536,41217,16898,147522,360581,659482,270372,263200,526416,65952,131648,16896,34048,6656,9216],[32,80,160,64,512,1280,2560,1024,8192,20480,40960,16384,131072,327680,655360,262144,0,0,0,0],[0,0,0,0,2,5,10,4,32,80,160,64,512,1280,2560,1024,8192,20480,40960,16384],[none,none,none,none],[0,0,0,0,0,0,0,0,0,0,0,0,0,0,0,0,0,0,0,0]⟩
noncomputable def kz:aE:=⟨7,3,false,true,[16513,33026,66052,132104,264208,528416,1056832],[127,16256,2080768],[[16512,33024,66048,132096,264192,528384,1056768,16384,32768,65536,131072,262144,524288,1048576,0,0,0,0,0,0,0],[126,124,120,112,96,64,0,16128,15872,15360,14336,12288,8192,0,2064384,2031616,1966080,1835008,1572864,1048576,0],[0,0,0,0,0,0,0,1,2,4,8,16,32,64,129,258,516,1032,2064,4128,8256],[0,1,3,7,15,31,63,0,128,384,896,1920,3968,8064,0,16384,49152,114688,245760,507904,1032192],[65792,131584,263168,526336,1052672,8192,0,32768,65536,131072,262144,524288,1048576,0,0,0,0,0,0,0,0],[0,0,0,0,0,0,0,2,4,8,16,32,64,0,260,520,1040,2080,4160,8192,0],[0,0,0,0,0,0,0,0,1,2,4,8,16,32,0,128,257,514,1028,2056,4112],[0,128,16640,33280,66560,133120,266240,0,16384,32768,65536,131072,262144,524288,0,0,0,0,0,0,0]],[386,901,1802,3604,7208,14416,12320,49411,115335,230670,461340,922680,1845360,1577056,33152,82816,165632,331264,662528,1325056,536576],[33280,82944,166016,332032,664064,1311744,526336,65540,131080,278545,557090,1114180,131080,262160,514,1029,2186,4372,8744,1104,2080],[256,640,1280,2560,5120,10240,4096,32768,81920,163840,327680,655360,1310720,524288,0,0,0,0,0,0,0],[0,0,0,0,0,0,0,2,5,10,20,40,80,32,256,640,1280,2560,5120,10240,4096],[some (3,5,6,4),some (3,1,0,2),some (17,19,20,18),some (17,15,14,16)],[2,0,0,3,0,0,1,0,0,0,0,0,0,0,8,0,0,12,0,0,4]⟩
noncomputable def mH:aE:=⟨5,5,true,false,[1082401,2164802,4329604,8659208,17318416],[31,992,31744,1015808,32505856],[[1082400,2164800,4329600,8659200,17318400,1082368,2164736,4329472,8658944,17317888,1081344,2162688,4325376,8650752,17301504,1048576,2097152,4194304,8388608,16777216,0,0,0,0,0],[30,28,24,16,0,960,896,768,512,0,30720,28672,24576,16384,0,983040,917504,786432,524288,0,31457280,29360128,25165824,16777216,0],[0,0,0,0,0,1,2,4,8,16,33,66,132,264,528,1057,2114,4228,8456,16912,33825,67650,135300,270600,541200],[0,1,3,7,15,0,32,96,224,480,0,1024,3072,7168,15360,0,32768,98304,229376,491520,0,1048576,3145728,7340032,15728640],[17043520,532608,16640,512,0,8521728,17043456,532480,16384,0,4259840,8519680,17039360,524288,0,2097152,4194304,8388608,16777216,0,0,0,0,0,0],[0,0,0,0,0,2,4,8,16,0,68,136,272,512,0,2184,4368,8704,16384,0,69904,139776,278528,524288,0],[0,0,0,0,0,0,1,2,4,8,0,32,65,130,260,0,1024,2080,4161,8322,0,32768,66560,133152,266305],[0,32,1088,34944,1118464,0,1024,34816,1118208,2236416,0,32768,1114112,2228224,4456448,0,1048576,2097152,4194304,8388608,0,0,0,0,0]],[98,229,458,916,776,3139,7335,14670,29340,24856,100448,234720,469440,938880,795392,3214336,7511040,15022080,30044160,25452544,2195456,5472256,10944512,21889024,9175040],[2176,5376,10784,20544,8320,69636,172040,345105,657410,266244,2228354,5505285,11043370,21037140,8519816,4198464,8396960,17843520,2099840,4198656,133120,267264,567296,86016,139264],[64,160,320,640,256,2048,5120,10240,20480,8192,65536,163840,327680,655360,262144,2097152,5242880,10485760,20971520,8388608,0,0,0,0,0],[0,0,0,0,0,2,5,10,20,8,64,160,320,640,256,2048,5120,10240,20480,8192,65536,163840,327680,655360,262144],[none,none,none,none],[0,0,0,0,0,0,0,0,0,0,0,0,0,0,0,0,0,0,0,0,0,0,0,0,0]⟩
noncomputable def uN (G:aE):Ch:=[.dict [(4,nv G.aa),(5,nv G.bD),(6,nv G.size),(7,nv G.full),(8,.bool G.dbl),(9,.bool G.gH),(10,.ref 2),(11,.ref 3),(12,.ref 4),(13,.ref 13),(14,.ref 6),(15,.ref 9),(16,.ref 10),(17,.ref 31)],
 .inst 1 0,.list (av G.fm),.list (av G.rm),.list ((List.range 8).map λd=>.ref (15+2*d)),.list [],.list (av G.a8),.list (av G.pw),.list (av G.pb),.list [.ref 7,.ref 8],.list (G.br.map vd),.list [],
 .list [.int 0],.list (av G.cv),.list [.int 0],.list (av (G.eJ.getD 0 [])),.list [.int 0],.list (av (G.eJ.getD 1 [])),.list [.int 0],.list (av (G.eJ.getD 2 [])),.list [.int 0],.list (av (G.eJ.getD 3 [])),
 .list [.int 0],.list (av (G.eJ.getD 4 [])),.list [.int 0],.list (av (G.eJ.getD 5 [])),.list [.int 0],.list (av (G.eJ.getD 6 [])),.list [.int 0],.list (av (G.eJ.getD 7 [])),.list [.int 0],.list (av G.cK)]
theorem Fv:i7 code 20 20 [.int 4,.int 5,.bool true,.bool false] []=some (.ref 1,uN mI):=by kernel_rfl
theorem Ft:i7 code 20 20 [.int 7,.int 3,.bool false,.bool true] []=some (.ref 1,uN kz):=by kernel_rfl
theorem Fu:i7 code 20 20 [.int 5,.int 5,.bool true,.bool false] []=some (.ref 1,uN mH):=by kernel_rfl
noncomputable def tq (n:Nat) (l:List Nat):Bool:=l.all λx=>decide (x<n)
theorem ql {n s:Nat} {l:List Nat} (hn:0<n) (h:tq n l=true):l.getD s 0<n:=by
 rw [Pc]
 cases e:l[s]? with
 | none=>exact hn
 | some x=>exact Pj (Pp.mp h x (PY e))
noncomputable def L5 (G:aE):Bool:=
 decide (2<=G.aa/\3<=G.bD/\G.size<=25/\G.fm.length=G.aa/\G.rm.length=G.bD/\G.eJ.length=8) &&
 (G.eJ.all λr=>decide (r.length=G.size) && tq (2^G.size) r) &&
 decide (G.cv.length=G.size/\G.a8.length=G.size/\G.pw.length=G.size/\G.pb.length=G.size/\G.br.length=4/\G.cK.length=G.size) && tq 16 G.cK &&
 G.br.all λw=>match w with
  | none=>true
  | some (a,b,c,d)=>decide (a<G.size/\b<G.size/\c<G.size/\d<G.size/\a≠c)
theorem zD {G:aE} {d:Nat} (h:d<G.eJ.length):G.eJ.getD d []∈G.eJ:=by
 rw [Pc,Pk h];exact Rb h
def oH {G:aE}:Prop:=∀(h:L5 G=true),cq G
theorem rz {G:aE}:@oH G:=ao (S:=λx:aE=>@oH x) (x:=(bN)) (by
 refine (?_:∀G,@oH G) _;intro G h;unfold L5 at h;rw [Pe,Pe,Pe,Pe] at h;refine aD h ?_;rintro ⟨⟨⟨h1,h2⟩,h3⟩,h4⟩ h5;refine uJ (Pj h1) λa1 a2 a3 a4 a5 a6=>?_;refine uJ (Pj h3) λb1 b2 b3 b4 b5 b6=>?_
 have hr:∀d,d<8->(G.eJ.getD d []).length=G.size/\tq (2^G.size) (G.eJ.getD d [])=true:=λd hd=>by
  have:=Pp.mp h2 _ (zD (d:=d) (by rw [a6];exact hd));rw [Pe] at this;exact ⟨Pj this.1,this.2⟩
 refine ⟨a1,a2,a3,a4,a5,a6,λd hd=>(hr d hd).1,b1,b2,b3,b4,b5,b6,λs _=>ql (by decide) h4,λd s=>?_,λi kf kt rf rt e=>?_⟩
 ·rcases PG d 8 with q | q
  ·exact ql (QF _) (hr d q).2
  ·have e:G.eJ.getD d []=[]:=by rw [Pc,Qx (by rw [a6];exact q)];rfl
   rw [e];exact QF _
 ·rw [Pc] at e
  cases e2:G.br[i]? with
  | none=>rw [e2] at e;cases e
  | some w=>
   rw [e2] at e;have e:w=some (kf,kt,rf,rt):=e;have:=Pp.mp h5 w (PY e2);rw [e] at this
   exact Pj this) (G)
theorem JB:cq mI:=rz (by decide +kernel)
theorem Jz:cq kz:=rz (by decide +kernel)
theorem JA:cq mH:=rz (by decide +kernel)
structure O7 (σ:Nat->Addr) (a:Ad):Prop where
 g:a.g=σ 1
 gd:a.gd=σ 0
 fm:a.fm=σ 2
 rm:a.rm=σ 3
 ow:a.ow=σ 4
 mO:∀d,a.mO d=σ (15+2*d)
 cv:a.cv=σ 13
 a8:a.a8=σ 6
 fF:a.fF=σ 9
 pn:∀c,a.pn c=σ (7+c)
 gH:a.gH=σ 10
 cK:a.cK=σ 31
theorem gv {σ:Nat->Addr} (l:List Nat):(av l).map (cG σ)=av l:=by rw [RB];rfl
theorem t9 {σ:Nat->Addr} (l:List (Option (Nat×Nat×Nat×Nat))):(l.map vd).map (cG σ)=l.map vd:=by
 rw [RB];refine Qv λw _=>?_
 cases w<;>rfl
theorem GG {H0 H:Hp} {σ:Nat->Addr} {a:Ad} {G:aE} (m:Em H0 σ (uN G) H) (t:O7 σ a) (r8:G.eJ.length=8):GW H a G where
 g:=by rw [t.g,t.gd];exact m.got 1 _ rfl
 gd:=by
  rw [t.gd,t.fm,t.rm,t.ow,t.cv,t.a8,t.fF,t.gH,t.cK];exact m.got 0 _ rfl
 fm:=by rw [t.fm,<- gv (σ:=σ)];exact m.got 2 _ rfl
 rm:=by rw [t.rm,<- gv (σ:=σ)];exact m.got 3 _ rfl
 ow:=by
  rw [t.ow,show ((List.range 8).map λd=>V.ref (a.mO d))=((List.range 8).map λd=>V.ref (15+2*d)).map (cG σ) from by
   rw [RB];exact Qv λd _=>congrArg V.ref (t.mO d)]
  exact m.got 4 _ rfl
 mO:=λd r h=>by
  have hd:d<8:=by rw [<- r8];exact (Pz.mp h).1
  have hr:r=G.eJ.getD d []:=by rw [Pc,h];rfl
  subst hr;rw [t.mO,<- gv (σ:=σ)];have:d=0\/d=1\/d=2\/d=3\/d=4\/d=5\/d=6\/d=7:=JG d (by assumption);rcases this with rfl | rfl | rfl | rfl | rfl | rfl | rfl | rfl
  ·exact m.got 15 _ rfl
  ·exact m.got 17 _ rfl
  ·exact m.got 19 _ rfl
  ·exact m.got 21 _ rfl
  ·exact m.got 23 _ rfl
  ·exact m.got 25 _ rfl
  ·exact m.got 27 _ rfl
  ·exact m.got 29 _ rfl
 cv:=by rw [t.cv,<- gv (σ:=σ)];exact m.got 13 _ rfl
 a8:=by rw [t.a8,<- gv (σ:=σ)];exact m.got 6 _ rfl
 fF:=by
  rw [t.fF,show ((List.range 2).map λd=>V.ref (a.pn d))=[V.ref 7,V.ref 8].map (cG σ) from by
   show [V.ref (a.pn 0),V.ref (a.pn 1)]=[V.ref (σ 7),V.ref (σ 8)]
   rw [t.pn,t.pn]]
  exact m.got 9 _ rfl
 pn:=λc r h=>by
  rw [t.pn,<- gv (σ:=σ)]
  match c,h with
  | 0,h=>cases h;exact m.got 7 _ rfl
  | 1,h=>cases h;exact m.got 8 _ rfl
 gH:=by rw [t.gH,<- t9 (σ:=σ)];exact m.got 10 _ rfl
 cK:=by rw [t.cK,<- gv (σ:=σ)];exact m.got 31 _ rfl
section
variable {d x y s c k:Nat} {H:Hp} {a:Ad} {G:aE} {R:Rw} {q:V->Hp->Prop}
noncomputable def sat (is:List Int) (k:Nat):Int:=is.getD k 0
theorem AQ {is:List Int} {sc:Addr} (hsc:H sc=some (.list (is.map .int))) (h:q (.int (sat is k)) H):Call (d+1) 97 [.ref sc,nv k] H q:=by
 refine ar rfl rfl ?_;refine (?_:aO _ _ [_,_] _ _);refine (?_:bY _ _ _ _);refine l6 hsc ?_;refine (?_:bK _ _ _ _ _);refine rU ?_;refine ag (λe=>?_) (λe=>?_)
 ·have hk:k<is.length:=by rw [Ph] at e;exact e
  refine (?_:aN _ _ _ _);refine iA (v:=.int (sat is k)) hsc ?_ ?_
  ·unfold sat;rw [P1,Pc,Pk hk];rfl
  ·refine aj ?_;exact h
 ·have hk:is.length<=k:=by rw [Ph] at e;exact Rx e
  have e0:sat is k=0:=by unfold sat;rw [Pc,Qx hk];rfl
  rw [e0] at h;refine aj ?_;exact h
end
section
variable {d x y s c k:Nat} {H:Hp} {a:Ad} {G:aE} {R:Rw} {q:V->Hp->Prop}
noncomputable def cl (b:List Nat):Nat->List Nat
 | 0=>List.replicate 15 0
 | k+1=>if b.getD k 0≠0 then (cl b k).set (b.getD k 0) ((cl b k).getD (b.getD k 0) 0+1) else cl b k
noncomputable def uo (sz:Nat) (b:List Nat):Nat->Nat
 | 0=>0
 | k+1=>if b.getD k 0≠0 then uo sz b k ^^^ 2^(b.getD k 0*sz+(cl b k).getD (b.getD k 0) 0) else uo sz b k
theorem ie {b:List Nat}:∀{k:Nat},(cl b k).length=15
 | 0=>rfl
 | k+1=>by
  unfold cl;split
  ·rw [Pq];exact ie
  ·exact ie
theorem nP {b:List Nat} {m:Nat}:∀{k:Nat},(cl b k).getD m 0<=k
 | 0=>by
  show (List.replicate 15 0).getD m 0<=0
  rw [Pc,Q1];split<;>exact Pt 0
 | k+1=>by
  have h:=nP (b:=b) (m:=m) (k:=k);have h2:=nP (b:=b) (m:=b.getD k 0) (k:=k);unfold cl;split
  ·rw [Pc,QR];split
   ·split
    ·show _+1<=k+1;exact QM ‹_›
    ·exact Qc _
   ·rw [<- Pc];exact QD ‹_›
  ·exact QD ‹_›
theorem ti {x:Addr} {v:V} {n:Nat} (h1:H x=some (.list [v])) (hn:n<=1000) (h:c7 (List.replicate n v) H q):au .mul (.ref x) (nv n) H q:=eU.rep h1 ⟨PI n,by show (n:Int)<=1000000;exact Rq (Qd.mpr ‹_›) (by decide)⟩ h
theorem Lk (w:W H a G R) (o:dO G R) (h:q (nv (uo G.size R.ae G.size)) H):Call (d+1) 12 [.ref a.p] H q:=by
 refine ar rfl rfl ?_;refine (?_:aO _ _ [_,_,_,_,_] _ _);refine aI ‹_› rfl ?_;refine k7 ‹_› rfl ?_;refine new_ (show 1<=lim by decide) λb1 hb1=>?_;refine ti (n:=15) (Hp.ai ..) (by decide) ?_;refine new_ (show 15<=lim by decide) λb2 hb2=>?_;refine aD (Hp.none_of hb2) λhb2 hn2=>?_;have w1:=w.mono (Hp.ax (o:=.list [.int 0]) hb1);have e0:∀L,W ((H.upd b1 (.list [.int 0])).upd b2 (.list L)) a G R:=λL=>w1.mono (Hp.ax ((Hp.ay hb2).trans hn2));have w2:=e0 (List.replicate 15 (.int 0));refine (?_:aO _ _ [_,_,_,_,_] _ _);refine aI ‹_› rfl ?_;refine forL w2.P.bd (λk ρ' H'=>H'=(H.upd b1 (.list [.int 0])).upd b2 (.list (av (cl R.ae k)))/\∃x,ρ'=[some (.ref a.p),some (.ref a.zp),some (.ref b2),some (nv (uo G.size R.ae k)),x]) (λk v ρ' H' K hv hI hn _ _=>?_) (λρ' H' hI=>?_) ⟨by rw [cl];rfl,none,rfl⟩
 ·obtain ⟨rfl,x,rfl⟩:=hI;have w3:=e0 (av (cl R.ae k));refine ⟨w3.P.bd,?_⟩;refine aD (ju o.bl hv) ?_;rintro hk rfl;have hm:=o.bm k hk;have hc:(cl R.ae k).getD (R.ae.getD k 0) 0<G.size:=Pm nP hk;refine ez ?_;refine ag (λe=>?_) (λe=>?_)
  ·refine lx ‹_› ‹_› ?_;refine aU (Hp.ai ..) (by rw [ie];exact hm) ?_;refine f6 ‹_› ‹_› ‹_› ?_;refine bF ?_;refine bQ ?_;refine aU (Hp.ai ..) (by rw [ie];exact hm) ?_;refine bF ?_;refine p_add ?_;refine pR (Hp.ai ..) (by rw [ie];exact hm) ?_;refine hn _ _ ⟨?_,_,by rw [uo,Po e];rfl⟩;rw [Hp.eE,cl,Po e]
  ·exact hn _ _ ⟨by rw [cl,Pf e],_,by rw [uo,Pf e];rfl⟩
 ·obtain ⟨rfl,x,rfl⟩:=hI;rw [Ph,o.bl];refine ⟨(e0 _).P.bd,?_⟩;refine (?_:di _ _ _ _);exact gr H (Hp.Sub.trans (Hp.ax hb1) (Hp.ax ((Hp.ay hb2).trans hn2))) h
end
section
variable {d x y s c k f r m:Nat} {H:Hp} {q:V->Hp->Prop} {L:List Nat} {x:Addr}
noncomputable def AX (L:List Nat) (f s m:Nat):Bool:=decide ((0<s%f/\L.getD (s-1) 0=m)\/(s%f<f-1/\L.getD (s+1) 0=m))
theorem vK (hf:0<f) (hs:s<f*r) (h:s%f<f-1):s+1<f*r:=by
 have h1:=QW s f;have h2:s / f<r:=QQ hs;have h3:f*(s / f+1)<=f*r:=RU f h2;rw [Nat.mul_succ] at h3;lia
theorem He (hL:H x=some (.list (av L))) (hf:0<f) (hl:L.length=f*r) (hs:s<f*r) (h:q (.bool (AX L f s m)) H):Call (d+1) 99 [.ref x,nv f,nv s,nv m] H q:=by
 refine ar rfl rfl ?_;refine (?_:aO _ _ [_,_,_,_] _ _);refine dS (P5 hf) ?_;refine (?_:bK _ _ _ _ _);refine pv (y:=0) ?_
 have second:¬(0<s%f/\L.getD (s-1) 0=m)->aO (Call d) (uW 1 LI.body) [some (.ref x),some (nv f),some (nv s),some (nv m)] H (di q):=λhne=>by
  refine dS (P5 hf) ?_;refine cC (y:=1) hf ?_;refine rU ?_;refine ag (λe=>?_) (λe=>?_)
  ·have hs1:=vK hf hs e;refine p_add ?_;refine aU hL (by rw [hl];exact hs1) ?_;refine aR ?_;refine aj ?_;rw [show decide (L.getD (s+1) 0=m)=AX L f s m from du ⟨λk=>.inr ⟨e,k⟩,λk=>k.elim (λk=>absurd k hne) λk=>k.2⟩];exact h
  ·rw [show AX L f s m=decide (s%f<f-1) from du ⟨λk=>k.elim (λk=>absurd k hne) λk=>absurd k.1 e,λk=>absurd k e⟩] at h;refine aj ?_;exact h
 refine ag (λe=>?_) (λe=>?_)
 ·have e:0<s%f:=e
  have hs0:1<=s:=by rcases RX s with z | z;(rw [z,Nat.zero_mod] at e;exact absurd e (Qr 0));exact z
  refine cC (y:=1) hs0 ?_;refine aU hL (by rw [hl];exact Pm (QC _ _) ‹_›) ?_;refine aR ?_;refine ag (λe2=>?_) (λe2=>?_)
  ·rw [show AX L f s m=true from Px (.inl ⟨e,e2⟩)] at h;refine aj ?_;exact h
  ·exact second λk=>e2 k.2
 ·refine ag (λe2=>absurd e2 e) (λ_=>?_);exact second λk=>e k.1
end
section
variable {d x y s c k f r m:Nat} {H:Hp} {q:V->Hp->Prop} {L:List Nat} {x:Addr}
theorem nW {test elt:Lc->Hp->(V->Hp->Prop)->Prop} {ρ:Lc} (p:Nat->Bool) (g:Nat->Nat) (fn:Nat->Nat) {Q:List V->Hp->Prop}:∀{js:List Nat} {acc:List V},
 (∀j∈js,∀Q,Q (.bool (p j)) H->test (ρ.set 0 (some (nv (fn j)))) H Q)->(∀j∈js,p j=true->∀Q,Q (nv (g j)) H->elt (ρ.set 0 (some (nv (fn j)))) H Q)->
 acc.length+js.length<=lim->Q (acc++ (js.filter p).map λj=>nv (g j)) H->eA test elt ρ (js.map λj=>nv (fn j)) acc H Q
 | [],acc,_,_,_,h=>by rw [List.filter_nil,List.map_nil,QX] at h;exact h
 | j::js,acc,ht,he,hn,h=>by
  have hn:acc.length+(js.length+1)<=lim:=hn
  show test (ρ.set 0 (some (nv (fn j)))) H λv H=>match truthy v with
   | some true=>elt (ρ.set 0 (some (nv (fn j)))) H λy H=>acc.length<lim/\eA test elt ρ (js.map λj=>nv (fn j)) (acc++ [y]) H Q
   | some false=>eA test elt ρ (js.map λj=>nv (fn j)) acc H Q
   | none=>False
  refine ht j PM _ ?_;rw [List.filter_cons] at h
  cases e:p j with
  | true=>
   rw [e,Po rfl,Qs] at h;refine he j PM e _ ⟨by lia,?_⟩;refine nW p g fn (λi hi=>ht i (PQ _ hi)) (λi hi=>he i (PQ _ hi)) (by rw [Pg];simp only [RD];lia) ?_;rw [Pr];exact h
  | false=>
   rw [e,Pf (by decide)] at h;exact nW p g fn (λi hi=>ht i (PQ _ hi)) (λi hi=>he i (PQ _ hi)) (by exact Pw ‹_›) h
theorem qx {test elt:Lc->Hp->(V->Hp->Prop)->Prop} {ρ:Lc} {a b c:Int} {n:Nat} {fn:Nat->Nat} (e:aP a b c=(List.range n).map λk=>nv (fn k)) (p:Nat->Bool) (g:Nat->Nat) {Q:List V->Hp->Prop}
 (hn:n<=1000) (ht:∀j,j<n->∀Q,Q (.bool (p j)) H->test (ρ.set 0 (some (nv (fn j)))) H Q) (he:∀j,j<n->p j=true->∀Q,Q (nv (g j)) H->elt (ρ.set 0 (some (nv (fn j)))) H Q)
 (h:Q (((List.range n).filter p).map λj=>nv (g j)) H):fD test elt ρ (.fW a b c) H Q:=by
 unfold fD;show eA test elt ρ (aP a b c) [] H Q;rw [e];refine nW p g fn (λj hj=>ht j (Rf.mp hj)) (λj hj=>he j (Rf.mp hj)) ?_ h;rw [Ro];show 0+n<=1000000;exact Pb (Qe ‹_› _) (by decide)
theorem cV (l:List Nat):intsOf? (av l)=some (l.map Int.ofNat):=by
 induction l with
 | nil=>rfl
 | cons a r ih=>show (intsOf? (av r)).map _=_;rw [ih];rfl
theorem sum_nat (l:List Nat):(l.map Int.ofNat).sum=((l.sum:Nat):Int):=by
 induction l with
 | nil=>rfl
 | cons a r ih=>rw [Qs,List.sum_cons,List.sum_cons,ih];rfl
theorem zt {b:Addr} {l:List Nat} (h1:H b=some (.list (av l))) (h:q (nv l.sum) H):bY .sum [.ref b] H q:=mC.sum h1 (cV l) (by rw [sum_nat];exact h)
noncomputable def zT (p:Nat->Bool) (L:List Nat):Nat:=(((List.range L.length).filter λs=>p (L.getD s 0)).map λs=>2^(L.getD s 0*L.length+s)).sum
noncomputable def lsum (L:List Nat) (f az ab:Nat) (ep:Int):Nat:=
 ((ab <<< (15*L.length)+(if 0<=ep then 2^(15*L.length+4+ep.toNat%f) else 0))+(if az=1 then 2^(15*L.length+4+f) else 0))+zT (λm=>decide (m≠0)) L
noncomputable abbrev mN (x:Addr) (az ab:Nat) (ep:Int):V:=.tup [.ref x,nv az,nv ab,.int ep]
theorem xq {n:Nat} {p:Nat->Bool} {g:Nat->Nat} (h:n<=1000):(((List.range n).filter p).map λj=>nv (g j)).length<=lim:=by
 rw [Ph];have:=List.length_filter_le p (List.range n);rw [Ro] at this;show _<=1000000;exact Mt ‹_› ‹_› (by rfl)
theorem AA (H:Hp) (b:Addr) (l:List Nat) (g:Nat->Nat):(H.upd b (.list (l.map λj=>nv (g j)))) b=some (.list (av (l.map g))):=by
 rw [Hp.ai,av,RB];rfl
theorem BN {az ab:Nat} {ep:Int} (hL:H x=some (.list (av L))) (hf:0<f) (hf2:f<=100) (hl:L.length<=25) (hm:∀s,L.getD s 0<15) (hr:ab<16) (h:q (nv (lsum L f az ab ep)) H):Call (d+1) 104 [mN x az ab ep,nv f] H q:=by
 refine ar rfl rfl ?_;refine (?_:aO _ _ [_,_,_,_,_,_,_,_] _ _);refine (?_:tupK _ _ _ _);refine mM rfl ?_;refine (?_:bY _ _ _ _);refine l6 hL ?_;rw [Ph];refine bR (x:=15) (by decide) ?_;refine gU (by exact Pb (RU _ ‹_›) (by decide)) (by exact Pa ‹_› (by decide)) ?_;refine (?_:aO _ _ [_,_,_,_,_,_,_,_] _ _);refine km ?_;refine uC 7 (nv (ab <<< (15*L.length)+(if 0<=ep then 2^(15*L.length+4+ep.toNat%f) else 0))) ?_ λK' j=>?_
 rotate_left
 ·refine ag (λe=>?_) (λe=>?_)
  ·refine bR (x:=15) (by decide) ?_;refine p_add ?_;refine jI (P5 hf) e ?_;refine p_add ?_;refine b8 (by have:=RF ep.toNat hf;show 15*L.length+4+ep.toNat%f<=100000;lia) ?_;refine bF ?_;refine p_add ?_;exact gF j (by rw [Po e])
  ·exact eD j rfl (by rw [Pf e];rfl)
 refine (?_:aO _ _ [_,_,_,_,_,_,_,_] _ _);refine aR ?_;refine uC 7 (nv ((ab <<< (15*L.length)+(if 0<=ep then 2^(15*L.length+4+ep.toNat%f) else 0))+(if az=1 then 2^(15*L.length+4+f) else 0))) ?_ λK' j=>?_
 rotate_left
 ·refine ag (λe=>?_) (λe=>?_)
  ·have e:az=1:=e;refine bR (x:=15) (by decide) ?_;refine p_add ?_;refine p_add ?_;refine b8 (by show 15*L.length+4+f<=100000;lia) ?_;refine bF ?_;refine p_add ?_;exact gF j (by rw [Po e])
  ·exact eD j rfl (by rw [Pf (show ¬az=1 from e)];rfl)
 refine (?_:aO _ _ [_,_,_,_,_,_,_,_] _ _);refine (?_:bY _ _ _ _);refine fI (by exact Pb ‹_› (by decide)) ?_;refine (?_:fD _ _ _ _ _ _);refine qx uf (λs=>decide (L.getD s 0≠0)) (λs=>2^(L.getD s 0*L.length+s)) (by exact Pb ‹_› (by decide)) (λj hj Q h=>?_) (λj hj _ Q h=>?_) ?_
 ·refine aU hL hj ?_;refine ez ?_;exact h
 ·refine aU hL hj ?_;have:=hm j;refine bR (by exact Pa ‹_› (by decide)) ?_;refine p_add ?_;have:L.getD j 0*L.length<=15*25:=Tc (by exact Pw ‹_›) hl;refine b8 (by lia) ?_;exact h
 ·refine new_ (xq (by exact Pb ‹_› (by decide))) λb hb=>?_;refine zt (l:=(((List.range L.length).filter λs=>decide (L.getD s 0≠0)).map λs=>2^(L.getD s 0*L.length+s))) (AA ..) ?_;refine (?_:au _ _ _ _ _);refine p_add ?_;refine (?_:di _ _ _ _);exact gr H (Hp.ax hb) h
end
section
variable {s c k n sz v:Nat} {G:aE} {R:Rw} {p:Nat->Bool} {b:List Nat}
theorem iq {x y:Nat} (h:∀i,x.testBit i=true->y.testBit i=true->False):x ^^^ y=x+y:=by
 have h0:x &&& y=0:=cH λi=>by
  rw [Q7,Py]
  cases e1:x.testBit i<;>cases e2:y.testBit i<;>first | rfl | exact absurd (h i e1 e2) id
 have:=kJ x y;rw [h0] at this;rw [tN x y h0,<- this];rfl
theorem bb {e i:Nat}:(2^e).testBit i=true↔i=e:=by
 rw [QI,Pl];exact eq_comm
theorem sN {e:Nat}:∀{n:Nat},(xk sz p b n).testBit e=true->∃k,k<n/\e=b.getD k 0*sz+k
 | 0,h=>by rw [show xk sz p b 0=0 from rfl,Py] at h;cases h
 | n+1,h=>by
  unfold xk at h;split at h
  ·rw [Pu,nV] at h;by_cases z:(xk sz p b n).testBit e=true
   ·refine aq (sN z) λk h1 h2=>?_;exact ⟨k,Qg h1,h2⟩
   ·have:(2^(b.getD n 0*sz+n)).testBit e=true:=Rj λy=>h ⟨λq=>absurd q z,λq=>absurd q y⟩;exact ⟨n,PD n,bb.mp this⟩
  ·refine aq (sN h) λk h1 h2=>?_;exact ⟨k,Qg h1,h2⟩
theorem qg {a a' i j:Nat} (hi:i<sz) (hj:j<sz) (h:a*sz+i=a'*sz+j):i=j:=by
 have h1:=congrArg (·%sz) h;simp only [Nat.add_mod,Nat.mul_mod_left,QL,So hi,So hj] at h1;exact h1
theorem sO:xk sz p b (n+1)=if p (b.getD n 0) then xk sz p b n ^^^ 2^(b.getD n 0*sz+n) else xk sz p b n:=rfl
theorem qO:∀{n:Nat},n<=sz->xk sz p b n=(((List.range n).filter λs=>p (b.getD s 0)).map λs=>2^(b.getD s 0*sz+s)).sum
 | 0,_=>rfl
 | n+1,h=>by
  have ih:=qO (n:=n) (Q6 h);rw [List.range_succ,List.filter_append,QG,List.sum_append_nat,<- ih,sO]
  cases e:p (b.getD n 0) with
  | true=>
   rw [Po rfl,List.filter_cons,e,Po rfl,iq]
   ·rfl
   ·intro i h1 h2;refine aq (sN h1) λk k1 k2=>?_;have:=bb.mp h2;exact absurd (qg (by exact Qq ‹_› ‹_›) ‹_› (k2.symm.trans this)) (Qh k1)
  | false=>rw [Pf (by decide),List.filter_cons,e,Pf (by decide)];rfl
end
def BG (G:aE):Prop:=G=mI\/G=kz\/G=mH
theorem tab {f:aE->Bool} (h1:f mI=true) (h2:f kz=true) (h3:f mH=true) {G:aE} (B:BG G):f G=true:=by
 rcases B with rfl | rfl | rfl<;>assumption
theorem BG.ok {G:aE} (B:BG G):cq G:=by
 rcases B with rfl | rfl | rfl
 ·exact JB
 ·exact Jz
 ·exact JA
noncomputable def cM (n:Nat) (f:Nat->Bool):Bool:=(List.range n).all f
theorem aK {n:Nat} {f:Nat->Bool} (h:cM n f=true) {i:Nat} (hi:i<n):f i=true:=Pp.mp h i (Rf.mpr hi)
noncomputable def dN (n m:Nat):List Nat:=(List.range n).filter λi=>m.testBit i
theorem dZ {n m i:Nat}:i∈dN n m↔i<n/\m.testBit i=true:=by
 unfold dN;rw [Sw,Rf]
noncomputable def vj:List Nat->Nat
 | []=>0
 | t::l=>2^t ||| vj l
noncomputable def subs:List Nat->List Nat
 | []=>[0]
 | t::l=>subs l++ (subs l).map λm=>2^t ||| m
theorem qX {i:Nat}:∀{l:List Nat},(vj l).testBit i=true↔i∈l
 | []=>by rw [show vj []=0 from rfl,Py];simp
 | t::l=>by rw [show vj (t::l)=2^t ||| vj l from rfl,dQ,qX,bb,RH]
theorem pP {oc:Nat}:∀{l:List Nat},vj l &&& oc∈subs l
 | []=>by rw [show vj []=0 from rfl,RV];exact PC.mpr rfl
 | t::l=>by
  have ih:=pP (oc:=oc) (l:=l);rw [show vj (t::l)=2^t ||| vj l from rfl,Nat.and_or_distrib_right];unfold subs;by_cases h:oc.testBit t=true
  ·refine S8 _ (Rc.mpr ⟨_,ih,?_⟩);congr 1
   exact cH λi=>by
    rw [Qa,aC,bb];exact ⟨λe=>⟨e,e ▸ h⟩,λe=>e.1⟩
  ·refine Ta _ ?_
   rw [show 2^t &&& oc=0 from cH λi=>by
    rw [Qa,aC,bb,Py]
    exact ⟨λe=>absurd (e.1 ▸ e.2) h,λe=>nomatch e⟩,Nat.zero_or]
   exact ih
theorem vi {n m:Nat} (h:m<2^n):vj (dN n m)=m:=cH λi=>by
 rw [Qa,qX,dZ];exact ⟨λe=>e.2,λe=>⟨dD h e,e⟩⟩
noncomputable def zh (G:aE):Bool:=cM 8 λd=>cM G.size λs=>(dN G.size (aW G d s)).all λt=>decide (dirOf G s t=d) && (aW G (d ^^^ 2) t).testBit s
noncomputable def vO (G:aE) (d s m:Nat):Nat:=if m=0 then aW G d s else if grow d=true then aW G d s &&& (m ^^^ (m-1)) else eg (aW G d s) (Bc (m >>> 1))
noncomputable def zq (G:aE):Bool:=cM 8 λd=>cM G.size λs=>(subs (dN G.size (aW G d s))).all λm=>(dN G.size (aW G d s)).all λt=>(vO G d s m).testBit t == decide (aW G (d ^^^ 2) t &&& m=0)
theorem FD:zh mI=true:=by decide +kernel
theorem FA:zh kz=true:=by decide +kernel
theorem FC:zh mH=true:=by decide +kernel
theorem Ie:zq mI=true:=by decide +kernel
theorem Ib:zq kz=true:=by decide +kernel
theorem Ic:zq mH=true:=by decide +kernel
section
variable {d s t c k x oc:Nat} {G:aE} {R:Rw} {b:List Nat}
theorem ly (g:cq G) (h:(aW G d s).testBit t=true):t<G.size:=dD (g.rb d s) h
theorem gq (B:BG G) (hd:d<8) (hs:s<G.size) (h:(aW G d s).testBit t=true):dirOf G s t=d/\(aW G (d ^^^ 2) t).testBit s=true:=by
 have h1:=Pp.mp (aK (aK (tab (f:=zh) FD FA FC B) hd) hs) t (dZ.mpr ⟨ly B.ok h,h⟩);rw [Pe] at h1;exact ⟨Pj h1.1,h1.2⟩
theorem pV {m:Nat} (h:(vO G d s m).testBit t=true):(aW G d s).testBit t=true:=by
 unfold vO at h;split at h
 ·exact h
 ·split at h
  ·exact (aC.mp h).1
  ·exact (iC.mp h).1
theorem ro (B:BG G) (hd:d<8) (hs:s<G.size):(gR G d s oc).testBit t=true↔(aW G d s).testBit t=true/\(aW G d s &&& aW G (d ^^^ 2) t) &&& oc=0:=by
 have e:gR G d s oc=vO G d s (aW G d s &&& oc):=rfl
 have e2:(aW G d s &&& aW G (d ^^^ 2) t) &&& oc=aW G (d ^^^ 2) t &&& (aW G d s &&& oc):=by
  rw [Nat.and_comm (aW G d s),SJ]
 rw [e,e2]
 have key:(aW G d s).testBit t=true->((vO G d s (aW G d s &&& oc)).testBit t=true↔aW G (d ^^^ 2) t &&& (aW G d s &&& oc)=0):=λh=>by
  have hm:aW G d s &&& oc∈subs (dN G.size (aW G d s)):=by
   have:=pP (oc:=oc) (l:=dN G.size (aW G d s));rw [vi (B.ok.rb d s)] at this;exact this
  have h1:=Pp.mp (Pp.mp (aK (aK (tab (f:=zq) Ie Ib Ic B) hd) hs) _ hm) t (dZ.mpr ⟨ly B.ok h,h⟩);rw [QJ] at h1;rw [h1,Pl]
 exact ⟨λh=>⟨pV h,(key (pV h)).mp h⟩,λh=>(key h.1).mpr h.2⟩
theorem kj:∀{n d:Nat},eH G s t n d<d+n->(aW G (eH G s t n d) s).testBit t=true
 | 0,d,h=>absurd h (Qr d)
 | n+1,d,h=>by
  unfold eH at h ⊢;by_cases e:(aW G d s).testBit t=true
  ·rw [Po e];exact e
  ·rw [Pf e] at h ⊢;exact kj (by lia)
theorem jk (h:dirOf G s t<8):(aW G (dirOf G s t) s).testBit t=true:=kj (n:=8) (d:=0) h
theorem o9:dirOf G s t<=8:=(mi 8 0).2
theorem jW (B:BG G) (h:dirOf G s t<8):t<G.size:=ly B.ok (jk h)
theorem ik (h:dirOf G s t<8):a7 G s t=aW G (dirOf G s t) s &&& aW G (dirOf G s t ^^^ 2) t:=by
 unfold a7;rw [Pf (by exact Qh ‹_›)]
theorem rx (B:BG G) (hs:s<G.size) {a:Nat}:∀{n:Nat},a+n<=8->((iE G s oc a n).testBit t=true↔(a<=dirOf G s t/\dirOf G s t<a+n)/\a7 G s t &&& oc=0)
 | 0,_=>by
  rw [show iE G s oc a 0=0 from rfl,Py];exact ⟨λe=>(nomatch e),λe=>absurd e.1 (by lia)⟩
 | n+1,h=>by
  rw [show iE G s oc a (n+1)=iE G s oc a n ||| gR G (a+n) s oc from rfl,dQ,rx B hs (by exact Pw ‹_›),ro B ‹_› hs];constructor
  ·rintro (⟨h1,h2⟩ | ⟨h1,h2⟩)
   ·exact ⟨by lia,h2⟩
   ·have e:=(gq B ‹_› hs h1).1;rw [ik (by lia),e];exact ⟨by lia,h2⟩
  ·rintro ⟨h1,h2⟩;by_cases e:dirOf G s t=a+n
   ·have h8:dirOf G s t<8:=by lia
    rw [ik h8] at h2;have h3:=jk h8;rw [e] at h2 h3;exact .inr ⟨h3,h2⟩
   ·exact .inl ⟨by lia,h2⟩
theorem lJ (B:BG G) (hs:s<G.size):(eX G s oc).testBit t=true↔dirOf G s t<4/\a7 G s t &&& oc=0:=by
 unfold eX;rw [rx B hs (by decide)];exact ⟨λh=>⟨by lia,h.2⟩,λh=>⟨by lia,h.2⟩⟩
theorem mr (B:BG G) (hs:s<G.size):(fE G s oc).testBit t=true↔(4<=dirOf G s t/\dirOf G s t<8)/\a7 G s t &&& oc=0:=by
 unfold fE;rw [rx B hs (by decide)]
theorem kY (B:BG G) (hs:s<G.size) (h:dirOf G s t<8):dirOf G t s=dirOf G s t ^^^ 2:=by
 have:=(gq B h hs (jk h)).2;exact (gq B (yV h) (jW B h) this).1
theorem I9 (d:Nat):(d ^^^ 2) ^^^ 2=d:=by rw [QH,Nat.xor_self,Q3]
theorem ij (B:BG G) (hs:s<G.size) (ht:t<G.size):a7 G s t=a7 G t s:=by
 by_cases h:dirOf G s t<8
 ·have e:=kY B hs h;rw [ik h,ik (by rw [e];exact yV h),e,I9,Nat.and_comm]
 ·have h8:dirOf G s t=8:=by have:=o9 (G:=G) (s:=s) (t:=t);exact QU ‹_› (Rx ‹_›)
  have h9:dirOf G t s=8:=by
   by_cases z:dirOf G t s<8
   ·have:=kY B ht z;have:=yV z;lia
   ·have:=o9 (G:=G) (s:=t) (t:=s);exact QU ‹_› (Rx ‹_›)
  unfold a7;rw [Po h8,Po h9]
theorem d4 (h:k<8):(k ^^^ 2<4↔k<4):=by
 have:k=0\/k=1\/k=2\/k=3\/k=4\/k=5\/k=6\/k=7:=by exact JG _ ‹_›
 rcases this with rfl | rfl | rfl | rfl | rfl | rfl | rfl | rfl<;>decide
noncomputable def rel (G:aE) (c k x s:Nat):Bool:=if k=1 then (cm G c x).testBit s else if k=2 then (G.a8.getD x 0).testBit s else if k=6 then (G.cv.getD x 0).testBit s else if k=3 then decide (4<=dirOf G x s/\dirOf G x s<8) else if k=4 then decide (dirOf G x s<4) else decide (k=5/\dirOf G x s<8)
noncomputable def vx (G:aE):Bool:=cM G.size λx=>decide (G.a8.getD x 0<2^G.size/\G.cv.getD x 0<2^G.size/\cm G 0 x<2^G.size/\cm G 1 x<2^G.size) && cM G.size λs=>
 (G.a8.getD x 0).testBit s == (G.a8.getD s 0).testBit x && (G.cv.getD x 0).testBit s == (G.cv.getD s 0).testBit x && (cm G 0 x).testBit s == (cm G 1 s).testBit x &&
 (!((G.a8.getD x 0).testBit s || (G.cv.getD x 0).testBit s || (cm G 0 x).testBit s || (cm G 1 x).testBit s) || decide (a7 G x s=0))
theorem Bm:vx mI=true:=by decide +kernel
theorem Bj:vx kz=true:=by decide +kernel
theorem Bl:vx mH=true:=by decide +kernel
def oC:Prop:=∀(B:BG G) (hx:x<G.size) (hs:s<G.size),((G.a8.getD x 0).testBit s=(G.a8.getD s 0).testBit x/\(G.cv.getD x 0).testBit s=(G.cv.getD s 0).testBit x/\(cm G 0 x).testBit s=(cm G 1 s).testBit x)/\
 ((G.a8.getD x 0).testBit s=true\/(G.cv.getD x 0).testBit s=true\/(cm G 0 x).testBit s=true\/(cm G 1 x).testBit s=true->a7 G x s=0)
theorem iI:@oC s x G:=ao (S:=λx:Nat×Nat×aE=>@oC x.1 x.2.1 x.2.2) (x:=(0,0,bN)) (by
 refine (?_:∀s x G,@oC s x G) _ _ _;intro s x G B hx hs;have h:=aK (tab (f:=vx) Bm Bj Bl B) hx;rw [Pe] at h;have h:=aK h.2 hs;rw [Pe,Pe,Pe,QJ,QJ,QJ] at h;refine aD h ?_;rintro ⟨⟨h1,h2⟩,h3⟩ h4;refine ⟨⟨h1,h2,h3⟩,λe=>?_⟩;rw [Qm,P4,Pl] at h4;rcases h4 with h4 | h4
 ·rw [Ss,Ss,Ss] at h4;refine aD h4 ?_;rintro ⟨⟨a1,a2⟩,a3⟩ a4;rw [a1,a2,a3,a4] at e
  rcases e with e | e | e | e<;>cases e
 ·exact h4) (s,x,G)
theorem B6 (B:BG G) (hx:x<G.size):G.a8.getD x 0<2^G.size/\G.cv.getD x 0<2^G.size/\cm G 0 x<2^G.size/\cm G 1 x<2^G.size:=by
 have h:=aK (tab (f:=vx) Bm Bj Bl B) hx;rw [Pe] at h;exact Pj h.1
def oB:Prop:=∀(B:BG G) (hc:c<2) (hx:x<G.size) (h:rel G c k x s=true),s<G.size
theorem rj:@oB s c k x G:=ao (S:=λx:(Nat×Nat×Nat×Nat)×aE=>@oB x.1.1 x.1.2.1 x.1.2.2.1 x.1.2.2.2 x.2) (x:=((0,0,0,0),bN)) (by
 refine (?_:∀s c k x G,@oB s c k x G) _ _ _ _ _;intro s c k x G B hc hx h;have t:=B6 B hx;unfold rel at h;split at h
 ·match c,hc with
  | 0,_=>exact dD t.2.2.1 h
  | 1,_=>exact dD t.2.2.2 h
 split at h
 ·exact dD t.1 h
 split at h
 ·exact dD t.2.1 h
 split at h
 ·exact jW B (Pj h).2
 split at h
 ·exact jW B (Pa (Pj h) (by decide))
 ·exact jW B (Pj h).2) ((s,c,k,x),G)
theorem fq (B:BG G) (hc:c<2) (hx:x<G.size) (hk:k=1\/k=2\/k=6) (h:rel G c k x s=true):a7 G x s=0:=by
 have hs:=rj B hc hx h;refine (iI B hx hs).2 ?_;unfold rel at h;rcases hk with rfl | rfl | rfl
 ·rw [Po rfl] at h
  match c,hc with
  | 0,_=>exact .inr (.inr (.inl h))
  | 1,_=>exact .inr (.inr (.inr h))
 ·exact .inl h
 ·exact .inr (.inl h)
def iJ:Prop:=∀(B:BG G) (hc:c<2) (hx:x<G.size) (h1:1<=k) (h6:k<=6),(oG G c k x oc).testBit s=true↔rel G c k x s=true/\a7 G x s &&& oc=0
theorem uk:@iJ s c k x oc G:=ao (S:=λx:(Nat×Nat×Nat×Nat)×(Nat×aE)=>@iJ x.1.1 x.1.2.1 x.1.2.2.1 x.1.2.2.2 x.2.1 x.2.2) (x:=((0,0,0,0),(0,bN))) (by
 refine (?_:∀s c k x oc G,@iJ s c k x oc G) _ _ _ _ _ _;intro s c k x oc G B hc hx h1 h6;have step:k=1\/k=2\/k=6->(rel G c k x s=true↔rel G c k x s=true/\a7 G x s &&& oc=0):=λhk=>⟨λh=>⟨h,by rw [fq B hc hx hk h,RV]⟩,λh=>h.1⟩
 have:k=1\/k=2\/k=6\/k=3\/k=4\/k=5:=by lia
 rcases this with rfl | rfl | rfl | rfl | rfl | rfl
 ·exact step (.inl rfl)
 ·exact step (.inr (.inl rfl))
 ·exact step (.inr (.inr rfl))
 ·show (fE G x oc).testBit s=true↔decide (4<=dirOf G x s/\dirOf G x s<8)=true/\_;rw [mr B hx,Pl]
 ·show (eX G x oc).testBit s=true↔decide (dirOf G x s<4)=true/\_;rw [lJ B hx,Pl]
 ·show (eX G x oc ||| fE G x oc).testBit s=true↔decide (5=5/\dirOf G x s<8)=true/\_;rw [dQ,lJ B hx,mr B hx,Pl];constructor
  ·rintro (⟨h,e⟩ | ⟨h,e⟩)<;>exact ⟨by lia,e⟩
  ·rintro ⟨h,e⟩;by_cases z:dirOf G x s<4
   ·exact .inl ⟨z,e⟩
   ·exact .inr ⟨by lia,e⟩) ((s,c,k,x),(oc,G))
def LU (G:aE) (b:List Nat) (c s oc x:Nat):Prop:=b.getD x 0≠0/\b.getD x 0 / 8=c/\rel G c (b.getD x 0%8) x s=true/\a7 G x s &&& oc=0
def I5 (G:aE) (b:List Nat) (c s oc:Nat):Prop:=∃x,LU G b c s oc x
theorem oA (k3:k=3\/k=4\/k=5):rel G c k x s=true↔(4<=dirOf G x s/\dirOf G x s<8/\(k=3\/k=5))\/(dirOf G x s<4/\(k=4\/k=5)):=by
 rcases k3 with rfl | rfl | rfl
 ·show decide (4<=dirOf G x s/\dirOf G x s<8)=true↔_;rw [Pl];lia
 ·show decide (dirOf G x s<4)=true↔_;rw [Pl];lia
 ·show decide (5=5/\dirOf G x s<8)=true↔_;rw [Pl];exact ⟨λh=>(PG (dirOf G x s) 4).elim (λz=>.inr ⟨z,.inr rfl⟩) λz=>.inl ⟨z,h.2,.inr rfl⟩,λh=>h.elim (λz=>⟨rfl,z.2.1⟩) λz=>⟨rfl,Qq z.1 (by decide)⟩⟩
def jP:Prop:=∀(B:BG G) (g:ba G R) (hs:s<G.size),(jg G R s oc).testBit x=true↔bd R x≠0/\(bd R x%8=3\/bd R x%8=4\/bd R x%8=5)/\rel G c (bd R x%8) x s=true/\a7 G x s &&& oc=0
theorem jf:@jP s c x oc G R:=ao (S:=λx:(Nat×Nat×Nat×Nat)×(aE×Rw)=>@jP x.1.1 x.1.2.1 x.1.2.2.1 x.1.2.2.2 x.2.1 x.2.2) (x:=((0,0,0,0),(bN,fC))) (by
 refine (?_:∀s c x oc G R,@jP s c x oc G R) _ _ _ _ _ _;intro s c x oc G R B g hs;unfold jg lz lC;rw [dQ,aC,aC,dQ,dQ,g.kb,g.kb,g.kb,lJ B hs,mr B hs];by_cases hx:bd R x≠0
 ·have hxs:=g.lt hx;rw [ij B hs hxs]
  have hd:(dirOf G s x<4↔dirOf G x s<4)/\(4<=dirOf G s x/\dirOf G s x<8↔4<=dirOf G x s/\dirOf G x s<8):=by
   by_cases h:dirOf G s x<8
   ·have e:=kY B hs h;have a:=d4 h;have b:=yV h;rw [e];exact ⟨a.symm,by rw [<- QK,<- QK,a];exact ⟨λz=>⟨z.1,b⟩,λz=>⟨z.1,h⟩⟩⟩
   ·have:¬dirOf G x s<8:=λz=>by
     have e:=kY B hxs z;have:=yV z;lia
    lia
  rw [hd.1,hd.2];constructor
  ·rintro (⟨⟨h1,h2⟩,h3⟩ | ⟨⟨h1,h2⟩,h3⟩)
   ·have k3:bd R x%8=3\/bd R x%8=4\/bd R x%8=5:=by lia
    exact ⟨hx,k3,(oA k3).mpr (.inr ⟨h1,by lia⟩),h2⟩
   ·have k3:bd R x%8=3\/bd R x%8=4\/bd R x%8=5:=by lia
    exact ⟨hx,k3,(oA k3).mpr (.inl ⟨h1.1,h1.2,by lia⟩),h2⟩
  ·rintro ⟨_,k3,h1,h2⟩;rcases (oA k3).mp h1 with ⟨a1,a2,a3⟩ | ⟨a1,a3⟩
   ·exact .inr ⟨⟨⟨a1,a2⟩,h2⟩,by lia⟩
   ·exact .inl ⟨⟨a1,h2⟩,by lia⟩
 ·exact ⟨λh=>by lia,λh=>absurd h.1 hx⟩) ((s,c,x,oc),(G,R))
def jD:Prop:=∀(B:BG G) (g:ba G R) (hc:c<2) (hs:s<G.size),(j8 G R s c).testBit x=true↔bd R x≠0/\bd R x / 8=c/\(bd R x%8=1\/bd R x%8=2\/bd R x%8=6)/\rel G c (bd R x%8) x s=true
theorem i5:@jD s c x G R:=ao (S:=λx:(Nat×Nat×Nat×aE)×Rw=>@jD x.1.1 x.1.2.1 x.1.2.2.1 x.1.2.2.2 x.2) (x:=((0,0,0,bN),fC)) (by
 refine (?_:∀s c x G R,@jD s c x G R) _ _ _ _ _;intro s c x G R B g hc hs;unfold j8 wb;rw [dQ,aC,aC,aC,dQ,aC,aC,g.kb,g.kb,g.kb,g.sb];by_cases hx:bd R x≠0
 ·have hxs:=g.lt hx;have t:=(iI B hxs hs).1;have t2:=(iI B hs hxs).1;rw [<- t.1,<- t.2.1]
  have tp:(cm G (1-c) s).testBit x=(cm G c x).testBit s:=by
   match c,hc with
   | 0,_=>exact t.2.2.symm
   | 1,_=>exact t2.2.2
  rw [tp];constructor
  ·rintro (⟨⟨h1,h2⟩,h3⟩ | ⟨⟨h1,h2⟩ | ⟨h1,h2⟩,h3⟩)
   ·exact ⟨hx,h3.2,.inl h2.2,by rw [h2.2];exact h1⟩
   ·exact ⟨hx,h3.2,.inr (.inl h2.2),by rw [h2.2];exact h1⟩
   ·exact ⟨hx,h3.2,.inr (.inr h2.2),by rw [h2.2];exact h1⟩
  ·rintro ⟨_,h2,h3,h4⟩
   rcases h3 with h3 | h3 | h3<;>rw [h3] at h4
   ·exact .inl ⟨⟨h4,hx,h3⟩,hx,h2⟩
   ·exact .inr ⟨.inl ⟨h4,hx,h3⟩,hx,h2⟩
   ·exact .inr ⟨.inr ⟨h4,hx,h3⟩,hx,h2⟩
 ·exact ⟨λh=>by lia,λh=>absurd h.1 hx⟩) ((s,c,x,G),R)
theorem ba.k6 (g:ba G R) (h:bd R x≠0):1<=bd R x%8/\bd R x%8<=6/\bd R x / 8<2:=by
 have m:=g.mn x h;exact ⟨m.2.1,m.2.2,QQ (Qg m.1)⟩
def mA:Prop:=∀(B:BG G) (g:ba G R) (hc:c<2) (hs:s<G.size),(fb G R s oc &&& Sd R c).testBit x=true↔LU G R.ae c s oc x
theorem pG:@mA s c x oc G R:=ao (S:=λx:(Nat×Nat×Nat×Nat)×(aE×Rw)=>@mA x.1.1 x.1.2.1 x.1.2.2.1 x.1.2.2.2 x.2.1 x.2.2) (x:=((0,0,0,0),(bN,fC))) (by
 refine (?_:∀s c x oc G R,@mA s c x oc G R) _ _ _ _ _ _;intro s c x oc G R B g hc hs;unfold fb LU;rw [aC,dQ,dQ,i5 B g (by decide) hs,i5 B g (by decide) hs,jf (c:=c) B g hs,g.sb];constructor
 ·rintro ⟨(⟨h1,h2,h3,h4⟩ | ⟨h1,h2,h3,h4⟩) | ⟨h1,h3,h4,h5⟩,hx,h6⟩
  ·have:c=0:=by lia
   subst this;exact ⟨hx,h6,h4,by rw [fq B hc (g.lt hx) h3 h4,RV]⟩
  ·have:c=1:=by lia
   subst this;exact ⟨hx,h6,h4,by rw [fq B hc (g.lt hx) h3 h4,RV]⟩
  ·exact ⟨hx,h6,h4,h5⟩
 ·rintro ⟨h1,h2,h3,h4⟩;refine ⟨?_,h1,h2⟩;have k:=g.k6 h1;by_cases z:bd R x%8=3\/bd R x%8=4\/bd R x%8=5
  ·exact .inr ⟨h1,z,h3,h4⟩
  ·rcases fj c hc with rfl | rfl
   ·exact .inl (.inl ⟨h1,h2,JM k.1 k.2.1 z,h3⟩)
   ·exact .inl (.inr ⟨h1,h2,JM k.1 k.2.1 z,h3⟩)) ((s,c,x,oc),(G,R))
theorem gX {n:Nat}:n≠0↔∃i,n.testBit i=true:=by
 constructor
 ·intro h;refine Classical.byContradiction λz=>h (cH λi=>?_);rw [Py];exact f5 λe=>z ⟨i,e⟩
 ·rintro ⟨i,h⟩ rfl;rw [Py] at h;cases h
theorem jR (B:BG G) (g:ba G R) (hc:c<2) (hs:s<G.size):eO G R s c oc=true↔I5 G R.ae c s oc:=by
 have hl:(eX G s oc &&& (lz R &&& Sd R c)≠0\/fE G s oc &&& (lC R &&& Sd R c)≠0)↔jg G R s oc &&& Sd R c≠0:=by
  unfold jg;rw [Nat.and_or_distrib_right,SJ,SJ,Ne,Ne,Ne,Nat.or_eq_zero_iff];exact Classical.not_and_iff_not_or_not.symm
 unfold eO;rw [Pl,hl,gX,gX];constructor
 ·rintro (⟨x,h⟩ | ⟨x,h⟩)
  ·refine rR ((i5 B g hc hs).mp h) λh1 h2 h3 h4=>?_;exact ⟨x,h1,h2,h4,by rw [fq B hc (g.lt h1) h3 h4,RV]⟩
  ·rw [aC,jf (c:=c) B g hs,g.sb] at h;refine dH h ?_;rintro ⟨h1,_,h3,h4⟩ _ h5;exact ⟨x,h1,h5,h3,h4⟩
 ·rintro ⟨x,h1,h2,h3,h4⟩;have k:=g.k6 h1;by_cases z:bd R x%8=3\/bd R x%8=4\/bd R x%8=5
  ·refine .inr ⟨x,?_⟩;rw [aC,jf (c:=c) B g hs,g.sb];exact ⟨⟨h1,z,h3,h4⟩,h1,h2⟩
  ·exact .inl ⟨x,(i5 B g hc hs).mpr ⟨h1,h2,JM k.1 k.2.1 z,h3⟩⟩
end
noncomputable def sU (G:aE):Bool:=cM G.size λo=>cM G.size λt=>
 (!decide (t=o+G.aa) || decide (a7 G o t=0)) && (!decide (t=o+2*G.aa) || decide (a7 G o t=2^(o+G.aa)))
noncomputable def zm (G:aE):Bool:=cM 2 λc=>cM G.size λo=>cM G.size λt=>
 !decide ((¬(G.fm.getD (G.aa-1) 0).testBit o=true/\(c=0/\t=o+G.aa+1\/c=1/\t+G.aa=o+1))\/(¬(G.fm.getD 0 0).testBit o=true/\(c=0/\t+1=o+G.aa\/c=1/\t+G.aa+1=o))) || ((cm G c o).testBit t && decide (t≠o+2*G.aa/\o≠t+2*G.aa))
noncomputable def sW (G:aE):Bool:=cM 8 λd=>cM G.size λk=>(dN G.size (aW G d k)).all λx=>(dN G.size (a7 G k x)).all λo=>(dN G.size (aW G d o ||| aW G (d ^^^ 2) o)).all λt=>
 (a7 G k x).testBit t || decide (t=x\/t=k) || (a7 G o t).testBit x || (a7 G o t).testBit k
noncomputable def pO (G:aE):Bool:=(dN G.size (eV G 0)).all (λo=>decide (o / G.aa=1)) && (dN G.size (eV G 1)).all λo=>decide (o / G.aa=G.bD-2)
noncomputable def sT (G:aE):Bool:=cM 8 λd=>cM G.size λs=>!(aW G d s).testBit s
theorem CM:sU mI=true:=by decide +kernel
theorem CK:sU kz=true:=by decide +kernel
theorem CL:sU mH=true:=by decide +kernel
theorem G8:zm mI=true:=by decide +kernel
theorem G6:zm kz=true:=by decide +kernel
theorem G7:zm mH=true:=by decide +kernel
theorem Df:sW mI=true:=by decide +kernel
theorem Dd:sW kz=true:=by decide +kernel
theorem De:sW mH=true:=by decide +kernel
theorem Cw:pO mI=true/\eV mI 0<2^mI.size/\eV mI 1<2^mI.size:=by decide +kernel
theorem Cu:pO kz=true/\eV kz 0<2^kz.size/\eV kz 1<2^kz.size:=by decide +kernel
theorem Cv:pO mH=true/\eV mH 0<2^mH.size/\eV mH 1<2^mH.size:=by decide +kernel
theorem Cn:sT mI=true:=by decide +kernel
theorem Ck:sT kz=true:=by decide +kernel
theorem Cm:sT mH=true:=by decide +kernel
section
variable {d s t c k k2 x o sp f wh rf rt oc e i:Nat} {G:aE} {R:Rw} {b:List Nat}
theorem kO (B:BG G) (h:t<G.size):(t=o+G.aa->a7 G o t=0)/\(t=o+2*G.aa->a7 G o t=2^(o+G.aa)):=by
 rcases PG o G.size with q | q
 ·have:=aK (aK (tab (f:=sU) CM CK CL B) q) h;rw [Pe,Qm,Qm,P4,P4,Pl,Pl,decide_eq_false_iff_not,decide_eq_false_iff_not] at this;exact ⟨λe=>this.1.resolve_left (not_not_intro e),λe=>this.2.resolve_left (not_not_intro e)⟩
 ·exact ⟨λe=>by lia,λe=>by lia⟩
theorem D0 (B:BG G) (hc:c<2) (ho:o<G.size) (ht:t<G.size) (h:sJ G c o t):(cm G c o).testBit t=true/\t≠o+2*G.aa/\o≠t+2*G.aa:=by
 have:=aK (aK (aK (tab (f:=zm) G8 G6 G7 B) hc) ho) ht;rw [Qm,P4,decide_eq_false_iff_not,Pe,Pl] at this;exact this.resolve_left (not_not_intro h)
theorem zE (B:BG G) (hc:c<2) (h:(eV G c).testBit o=true):(c=0->o / G.aa=1)/\(c=1->o / G.aa=G.bD-2):=by
 have hb:pO G=true/\eV G 0<2^G.size/\eV G 1<2^G.size:=by
  rcases B with rfl | rfl | rfl
  ·exact Cw
  ·exact Cu
  ·exact Cv
 refine dH hb λhb h0 h1=>?_;rw [pO,Pe] at hb;rcases fj c hc with rfl | rfl
 ·exact ⟨λ_=>Pj (Pp.mp hb.1 o (dZ.mpr ⟨dD h0 h,h⟩)),λe=>nomatch e⟩
 ·exact ⟨λe=>(nomatch e),λ_=>Pj (Pp.mp hb.2 o (dZ.mpr ⟨dD h1 h,h⟩))⟩
theorem qd (B:BG G) (hd:d<8):¬(aW G d s).testBit s=true:=λh=>by
 have:=aK (aK (tab (f:=sT) Cn Ck Cm B) hd) (ly B.ok h);rw [h] at this;cases this
theorem sA (h:(a7 G s t).testBit x=true):dirOf G s t<8:=by
 by_cases z:dirOf G s t=8
 ·unfold a7 at h;rw [Po z,Py] at h;cases h
 ·have:=o9 (G:=G) (s:=s) (t:=t);exact P9 ‹_› ‹_›
theorem qD (h:(a7 G s t).testBit x=true):(aW G (dirOf G s t) s).testBit x=true/\(aW G (dirOf G s t ^^^ 2) t).testBit x=true:=by
 rw [ik (sA h)] at h;exact aC.mp h
theorem tY (B:BG G):¬(a7 G s t).testBit t=true:=λh=>qd B (yV (sA h)) (qD h).2
def l5:Prop:=∀(B:BG G) (hk:k<G.size) (h:(a7 G k x).testBit o=true) (hl:(fP G o t).testBit k=true),(a7 G k x).testBit t=true\/t=x\/t=k\/(a7 G o t).testBit x=true\/(a7 G o t).testBit k=true
theorem Ai:@l5 t k x o G:=ao (S:=λx:(Nat×Nat×Nat×Nat)×aE=>@l5 x.1.1 x.1.2.1 x.1.2.2.1 x.1.2.2.2 x.2) (x:=((0,0,0,0),bN)) (by
 refine (?_:∀t k x o G,@l5 t k x o G) _ _ _ _ _;intro t k x o G B hk h hl;have h8:=sA h;have ⟨h1,h2⟩:=qD h;have ho:=ly B.ok h1;have e1:=gq B h8 hk h1
 have hd:dirOf G o t<8:=by
  by_cases z:dirOf G o t=8
  ·unfold fP at hl;rw [Po z,Py] at hl;cases hl
  ·have:=o9 (G:=G) (s:=o) (t:=t);exact P9 ‹_› ‹_›
 have ht:=jk hd;have hok:dirOf G o k=dirOf G k x ^^^ 2:=(gq B (yV h8) ho e1.2).1
 have ht2:(aW G (dirOf G k x) o ||| aW G (dirOf G k x ^^^ 2) o).testBit t=true:=by
  unfold fP at hl;rw [Pf (by exact Qh ‹_›),dQ,dQ,bb] at hl;rw [dQ];rcases hl with (hl | hl) | hl
  ·have:=(gq B hd ho hl).1;rw [hok] at this;rw [this];exact .inr ht
  ·have:=(gq B (yV hd) ho hl).1;rw [hok] at this
   have e:dirOf G k x=dirOf G o t:=by rw [<- I9 (dirOf G k x),this,I9]
   rw [e];exact .inl ht
  ·subst hl;exact absurd h1 (qd B h8)
 have hx:x∈dN G.size (aW G (dirOf G k x) k):=dZ.mpr ⟨jW B h8,jk h8⟩;have:=Pp.mp (Pp.mp (Pp.mp (aK (aK (tab (f:=sW) Df Dd De B) h8) hk) x hx) o (dZ.mpr ⟨ho,h⟩)) t (dZ.mpr ⟨jW B hd,ht2⟩);rw [Qm,Qm,Qm,Pl] at this;rcases this with ((h | h) | h) | h
 ·exact .inl h
 ·exact .inr (h.elim .inl λh=>.inr (.inl h))
 ·exact .inr (.inr (.inr (.inl h)))
 ·exact .inr (.inr (.inr (.inr h)))) ((t,k,x,o),G)
structure Mo (G:aE) (R:Rw) (k o t sp f:Nat):Prop where
 ho:o<G.size
 ht:t<G.size
 s4:sp<4
 f4:f<4
 b0:bd R o≠0
 bs:bd R o / 8=R.af
 nt:bd R t≠0->bd R t / 8≠R.af
 way:sp≠3->a7 G o t &&& eL R=0
 hit:bd R t≠0->rel G R.af (bd R o%8) o t=true
 pr:sp=1->bd R o%8=1
 f0:sp≠1->f=0
 ep:sp=2->R.ep=t/\bd R o%8=1/\(cm G (1-R.af) t).testBit o=true
 ca:sp=3->∃i rf rt,i / 2=R.af/\kA G R i o t rf rt
 ck:eO G R k (1-R.af) (eL R)=true->o≠k->sp≠2->∃s,fb G R k (eL R) &&& Sd R (1-R.af)=2^s/\(2^s ||| a7 G k s).testBit t=true
 d2:sp≠2->bd R o%8=1->(t=o+2*G.aa->R.af=0/\sp=0/\bd R t=0/\bd R (o+G.aa)=0/\(o+G.aa) / G.aa=2)/\(o=t+2*G.aa->R.af=1/\sp=0/\bd R t=0/\bd R (t+G.aa)=0/\(t+G.aa) / G.aa=G.bD-3)
structure Kg (b:List Nat) (c k:Nat):Prop where
 at_:b.getD k 0=c*8+6
 un:∀s,b.getD s 0=c*8+6->s=k
structure Pos (G:aE) (R:Rw) (k k2:Nat):Prop where
 B:BG G
 g:ba G R
 c2:R.af<2
 i8:R.ab<16
 kg:Kg R.ae R.af k
 ke:Kg R.ae (1-R.af) k2
 sf:¬I5 G R.ae R.af k2 (eL R)
 rt:∀i,R.ab.testBit i=true->∃kf kt rf rt,G.br.getD i none=some (kf,kt,rf,rt)/\bd R kf=i / 2*8+6/\bd R rf=i / 2*8+4
 ep:R.ep=-1\/∃e:Nat,R.ep=e/\G.aa<=e/\e+G.aa<G.size/\bd R e=0/\bd R (ic G R e)=(1-R.af)*8+1/\e / G.aa=if R.af=1 then 2 else G.bD-3
theorem cu (g:ba G R):(eL R).testBit s=true↔bd R s≠0:=by
 unfold eL;rw [dQ,g.sb,g.sb];constructor
 ·rintro (h | h)<;>exact h.1
 ·intro h;have:=(g.k6 h).2.2
  have:bd R s / 8=0\/bd R s / 8=1:=by exact fj _ ‹_›
  exact this.elim (λz=>.inl ⟨h,z⟩) λz=>.inr ⟨h,z⟩
theorem j4 {x y:Nat}:x &&& y=0↔∀i,x.testBit i=true->y.testBit i=true->False:=by
 constructor
 ·intro h i h1 h2;have:=(aC (x:=x) (y:=y) (i:=i)).mpr ⟨h1,h2⟩;rw [h,Py] at this;cases this
 ·intro h
  exact cH λi=>by
   rw [Py];exact f5 λe=>h i (aC.mp e).1 (aC.mp e).2
theorem Pos.ok (P:Pos G R k k2):dO G R:=P.g.ok P.c2 P.i8 (by
 rcases P.ep with h | ⟨e,h,h1,h2,_⟩
 ·exact .inl h
 ·exact .inr (by lia))
theorem Pos.cv (P:Pos G R k k2):dg G R R.af k:=by
 have h:=P.kg.at_
 have hk:bd R k≠0:=by show R.ae.getD k 0≠0;exact rC ‹_›
 refine ⟨cH λi=>?_,P.g.lt hk⟩;rw [Qa,aC,bb,P.g.sb,P.g.kb];constructor
 ·rintro ⟨⟨h0,h1⟩,_,h2⟩;exact P.kg.un i (by show bd R i=_;exact mk8 ‹_› ‹_›)
 ·rintro rfl;have:bd R i=R.af*8+6:=h;exact ⟨⟨hk,by exact J9 ‹_› (by rfl)⟩,hk,by exact Ml ‹_› (by rfl)⟩
theorem Mo.vZ {kd tg:Nat} (P:Pos G R k k2) (h1:2<=kd) (h6:kd<=6) (hm:yK G R kd tg s) (hn:∀t,tg.testBit t=true->bd R t≠0->bd R t / 8≠R.af) (hl:tg<2^G.size)
 (ck:∀o t,(Sd R R.af &&& K R kd).testBit o=true->tg.testBit t=true->eO G R k (1-R.af) (eL R)=true->o≠k->∃s,fb G R k (eL R) &&& Sd R (1-R.af)=2^s/\(2^s ||| a7 G k s).testBit t=true):∃o t,s=pk o t 0 0/\Mo G R k o t 0 0:=by
 refine ed hm ?_;rintro o t rfl h2 h3 h4;have h2':=h2;rw [aC,P.g.sb,P.g.kb] at h2;refine dH h2 ?_;rintro ⟨b0,bs⟩ _ bk;have ho:=P.g.lt b0;have ht:=dD hl h4;have:=(uk P.B P.c2 ho (by exact Pw ‹_›) h6).mp h3;exact ⟨o,t,rfl,ho,ht,by decide,by decide,b0,bs,hn t h4,λ_=>this.2,λ_=>by rw [bk];exact this.1,λe=>absurd e (by decide),λ_=>rfl,λe=>absurd e (by decide),λe=>absurd e (by decide),λa b _=>ck o t h2' h4 a b,λ_ e=>absurd (bk.symm.trans e) (P5 h1)⟩
def mE {tg:Nat}:Prop:=∀(P:Pos G R k k2) (hm:gi G R tg s) (ck:∀o t,tg.testBit t=true->eO G R k (1-R.af) (eL R)=true->o≠k->∃s,fb G R k (eL R) &&& Sd R (1-R.af)=2^s/\(2^s ||| a7 G k s).testBit t=true),∃o t sp f,s=pk o t sp f/\Mo G R k o t sp f
theorem Mo.fF {tg:Nat}:@mE s k k2 G R tg:=ao (S:=λx:(Nat×Nat×Nat×aE)×(Rw×Nat)=>@mE x.1.1 x.1.2.1 x.1.2.2.1 x.1.2.2.2 x.2.1 x.2.2) (x:=((0,0,0,bN),(fC,0))) (by
 refine (?_:∀s k k2 G R tg,@mE s k k2 G R tg) _ _ _ _ _ _;intro s k k2 G R tg P hm ck
 have pw:∀{o},fN R o->(bd R o≠0/\bd R o / 8=R.af)/\bd R o%8=1:=λh=>by
  unfold fN at h;rw [aC,P.g.sb,P.g.kb] at h;exact ⟨h.1,h.2.2⟩
 have f2:=P.B.ok.f0;rcases hm with ⟨o,t,sp,f,rfl,hf,hs,hg,hp,hn,ht,htg⟩ | ⟨o,p,t,rfl,hg,hp,hnp,hn,ht,hpl,htg⟩ | ⟨o,t,sp,f,rfl,hf,hs,hg,hp,hn,htg⟩
 ·refine aD (pw hp) ?_;rintro ⟨b0,bs⟩ b1;have ho:=P.g.lt b0;have hn:bd R t=0:=PR.mp λz=>hn ((cu P.g).mpr z)
  have hb:a7 G o t=0:=by
   rcases hg with ⟨_,hg⟩ | ⟨_,hg⟩
   ·exact (kO P.B ht).1 hg
   ·rw [ij P.B ho ht];exact (kO P.B ho).1 hg
  exact ⟨o,t,sp,f,rfl,ho,ht,by lia,hf,b0,bs,λz=>absurd hn z,λ_=>by rw [hb,RV],λz=>absurd hn z,λ_=>b1,λe=>by lia,λe=>by lia,λe=>by lia,λa b _=>ck o t htg a b,λ_ _=>⟨λe=>by lia,λe=>by lia⟩⟩
 ·refine aD hp λhp hsm=>?_;have hrk:=zE P.B P.c2 hsm;refine aD (pw hp) ?_;rintro ⟨b0,bs⟩ b1;have ho:=P.g.lt b0;have hn:bd R t=0:=PR.mp λz=>hn ((cu P.g).mpr z);have hnp':bd R p=0:=PR.mp λz=>hnp ((cu P.g).mpr z)
  have hb:a7 G o t=2^p:=by
   rcases hg with ⟨_,hg,hg2⟩ | ⟨_,hg,hg2⟩
   ·rw [(kO P.B ht).2 (by lia)];congr 1;exact Eq.symm ‹_›
   ·rw [ij P.B ho ht,(kO P.B ho).2 (by lia)];congr 1;exact Eq.symm ‹_›
  exact ⟨o,t,0,0,rfl,ho,ht,by decide,by decide,b0,bs,λz=>absurd hn z,λ_=>by rw [hb];exact j4.mpr λi h1 h2=>hnp (by rw [bb.mp h1] at h2;exact h2),λz=>absurd hn z,λe=>absurd e (by decide),λ_=>rfl,λe=>absurd e (by decide),λe=>absurd e (by decide),λa b _=>ck o t htg a b,λ_ _=>⟨λe=>⟨by lia,rfl,hn,by rw [show o+G.aa=p by lia];exact hnp',by have h1:=hrk.1 (by lia);rw [Nat.add_div_right _ (Pa QO f2),h1]⟩,λe=>⟨by lia,rfl,hn,by rw [show t+G.aa=p by lia];exact hnp',by have h1:=hrk.2 (by lia);rw [show o=(t+G.aa)+G.aa by lia,Nat.add_div_right _ (Pa QO f2)] at h1;exact (Nat.eq_sub_of_add_eq h1).trans (Nat.sub_sub _ 2 1)⟩⟩⟩
 ·refine aD (pw hp) ?_;rintro ⟨b0,bs⟩ b1;have ho:=P.g.lt b0;rw [P.g.sb] at hn;have ht:=P.g.lt hn.1;have hc:=D0 P.B P.c2 ho ht hg;have hr:rel G R.af 1 o t=true:=hc.1;have:=P.c2
  exact ⟨o,t,sp,f,rfl,ho,ht,by lia,hf,b0,bs,λ_=>by lia,λ_=>by rw [fq P.B P.c2 ho (.inl rfl) hr,RV],λ_=>by rw [b1];exact hr,λ_=>b1,λe=>by lia,λe=>by lia,λe=>by lia,λa b _=>ck o t htg a b,λ_ _=>⟨λe=>absurd e hc.2.1,λe=>absurd e hc.2.2⟩⟩) ((s,k,k2,G),(R,tg))
theorem Mo.Mk (P:Pos G R k k2) (hm:A8 G R s):∃o t,s=pk o t 2 0/\Mo G R k o t 2 0:=by
 refine ed hm ?_;rintro o t rfl he h1 hp;unfold fN at hp;rw [aC,P.g.sb,P.g.kb] at hp;refine dH hp ?_;rintro ⟨b0,bs⟩ _ b1;have ho:=P.g.lt b0;rcases P.ep with h | ⟨e,h,h2,h3,h4,h5⟩
 ·lia
 obtain rfl:e=t:=by lia
 have ht:e<G.size:=by lia
 have c2:=P.c2
 have hr:rel G R.af 1 o e=true:=by
  have a:=(iI P.B ho ht).1.2.2;have b:=(iI P.B ht ho).1.2.2
  have:R.af=0\/R.af=1:=by exact fj _ ‹_›
  rcases this with z | z<;>rw [z] at h1 ⊢
  ·exact a.trans h1
  ·exact b.symm.trans h1
 exact ⟨o,e,rfl,ho,ht,by decide,by decide,b0,bs,λz=>absurd h4 z,λ_=>by rw [fq P.B c2 ho (.inl rfl) hr,RV],λz=>absurd h4 z,λe=>absurd e (by decide),λ_=>rfl,λ_=>⟨he,b1,h1⟩,λe=>absurd e (by decide),λ_ _ e=>absurd rfl e,λe=>absurd rfl e⟩
noncomputable def zk (G:aE):Bool:=cM 4 λi=>match G.br.getD i none with
 | none=>true
 | some (kf,kt,rf,rt)=>decide (kf<G.size/\kt<G.size/\rf<G.size/\rt<G.size) && ((within kf rf).testBit kt && (within kf rf).testBit rt) &&
  (cM G.size λx=>!(a7 G x kt).testBit rf && (!(a7 G x kt).testBit kf || (a7 G x kt).testBit rt)) &&
  decide (kf=i / 2*(G.size-G.aa)+G.aa / 2/\rf=i / 2*(G.size-G.aa)+(if i%2=1 then 0 else G.aa-1)/\kf<kt+(if i%2=1 then G.size else 0)/\kt<kf+(if i%2=1 then 0 else G.size)/\(i%2=1->rt=kt+1)/\(i%2=0->rt+1=kt))
theorem G5:zk mI=true:=by decide +kernel
theorem G3:zk kz=true:=by decide +kernel
theorem G4:zk mH=true:=by decide +kernel
structure LP (G:aE) (i kf kt rf rt:Nat):Prop where
 lt:kf<G.size/\kt<G.size/\rf<G.size/\rt<G.size
 w1:(within kf rf).testBit kt=true
 w2:(within kf rf).testBit rt=true
 b:∀x,x<G.size->¬(a7 G x kt).testBit rf=true/\((a7 G x kt).testBit kf=true->(a7 G x kt).testBit rt=true)
 n:kf=i / 2*(G.size-G.aa)+G.aa / 2/\rf=i / 2*(G.size-G.aa)+(if i%2=1 then 0 else G.aa-1)/\kf<kt+(if i%2=1 then G.size else 0)/\kt<kf+(if i%2=1 then 0 else G.size)/\(i%2=1->rt=kt+1)/\(i%2=0->rt+1=kt)
theorem BK (B:BG G) (h:G.br.getD i none≠none):i<4:=by
 rcases PG i 4 with q | q
 ·exact q
 ·exact absurd (by rw [Pc,Qx (by rw [B.ok.cl];exact q)];rfl) h
def pq:Prop:=∀(B:BG G) {kf kt:Nat} (h:G.br.getD i none=some (kf,kt,rf,rt)),LP G i kf kt rf rt
theorem gz:@pq rf rt i G:=ao (S:=λx:Nat×Nat×Nat×aE=>@pq x.1 x.2.1 x.2.2.1 x.2.2.2) (x:=(0,0,0,bN)) (by
 refine (?_:∀rf rt i G,@pq rf rt i G) _ _ _ _;intro rf rt i G B kf kt h;have:=aK (tab (f:=zk) G5 G3 G4 B) (BK B (i:=i) (by rw [h];exact λz=>nomatch z));rw [h] at this
 have:(decide (kf<G.size/\kt<G.size/\rf<G.size/\rt<G.size) && ((within kf rf).testBit kt && (within kf rf).testBit rt) &&
  (cM G.size λx=>!(a7 G x kt).testBit rf && (!(a7 G x kt).testBit kf || (a7 G x kt).testBit rt)) &&
  decide (kf=i / 2*(G.size-G.aa)+G.aa / 2/\rf=i / 2*(G.size-G.aa)+(if i%2=1 then 0 else G.aa-1)/\kf<kt+(if i%2=1 then G.size else 0)/\kt<kf+(if i%2=1 then 0 else G.size)/\(i%2=1->rt=kt+1)/\(i%2=0->rt+1=kt)))=true:=this
 rw [Pe,Pe,Pe,Pe] at this;refine aD this ?_;rintro ⟨⟨h1,h2,h3⟩,h4⟩ h5;refine ⟨Pj h1,h2,h3,λx hx=>?_,Pj h5⟩;have:=aK h4 hx;rw [Pe,Qm,P4,P4] at this;refine ⟨λz=>?_,λz=>?_⟩
 ·rw [z] at this;exact nomatch this.1
 ·exact this.2.resolve_left λy=>by rw [z] at y;cases y) (rf,rt,i,G)
theorem Mo.gH (P:Pos G R k k2) (hm:sI G R s):∃o t,s=pk o t 3 0/\Mo G R k o t 3 0:=by
 obtain ⟨i,kf,kt,rf,rt,rfl,hi,hc⟩:=hm
 have hr:R.ab.testBit i=true:=by
  have:=hc.2.1;refine bI (gX.mp this) λj hj=>?_;rw [aC,bb] at hj;exact hj.2 ▸ hj.1
 refine mR (P.rt i hr) λkf' kt' rf' rt' h1 h2 h3=>?_;rw [hc.1] at h1;cases h1;have T:=gz P.B hc.1;have hn:bd R kt=0:=PR.mp λz=>j4.mp hc.2.2.1 kt ((cu P.g).mpr z) T.w1;have c2:=P.c2;exact ⟨kf,kt,rfl,T.lt.1,T.lt.2.1,by decide,by decide,by exact rC ‹_›,by exact Eq.trans (J9 ‹_› (by rfl)) ‹_›,λz=>absurd hn z,λe=>absurd rfl e,λz=>absurd hn z,λe=>absurd e (by decide),λ_=>rfl,λe=>absurd e (by decide),λ_=>⟨i,rf,rt,hi,hc⟩,λ_ e _=>absurd (P.kg.un kf (by show bd R kf=_;lia)) e,λ_ e=>absurd e (by exact λe=>w8 ‹_› e (by rfl) (by rfl))⟩
def sE:Prop:=∀(P:Pos G R k k2) (h:sG G R k s),∃o t sp f,s=pk o t sp f/\Mo G R k o t sp f
theorem Mo.of:@sE s k k2 G R:=ao (S:=λx:(Nat×Nat×Nat×aE)×Rw=>@sE x.1.1 x.1.2.1 x.1.2.2.1 x.1.2.2.2 x.2) (x:=((0,0,0,bN),fC)) (by
 refine (?_:∀s k k2 G R,@sE s k k2 G R) _ _ _ _ _;intro s k k2 G R P h;have o:=P.ok;have hfl:eg G.full (Sd R R.af)<2^G.size:=fM iy;have c2:=P.c2;have own:∀t,(eg G.full (Sd R R.af)).testBit t=true->bd R t≠0->bd R t / 8≠R.af:=λt h h0 h1=>(iC.mp h).2 ((P.g.sb _ _).mpr ⟨h0,h1⟩);rcases h with ⟨_,⟨s',hs,h⟩ | h⟩ | ⟨hno,h⟩
 ·have hsd:(Sd R (1-R.af)).testBit s'=true:=by
   have:(2^s').testBit s'=true:=bb.mpr rfl;rw [<- hs] at this;exact (aC.mp this).2
  have htg:2^s' ||| a7 G k s'<2^G.size:=Nat.or_lt_two_pow (hs ▸ cX (o.sb _)) (pD P.B.ok);rcases h with h | h | ⟨kd,h1,h2,h⟩
  ·exact Mo.fF P h λo t ht _ _=>⟨s',hs,ht⟩
  ·refine o8 (Mo.Mk P h) λo t e m=>?_;exact ⟨o,t,2,0,e,m⟩
  ·by_cases hbe:a7 G k s' &&& Sd R R.af=0
   ·obtain ⟨o,t,e,m⟩:=Mo.vZ P h1 (by exact Pb ‹_› (by decide)) h (λt ht h0 h1=>by
     rw [dQ,bb] at ht;rcases ht with ht | ht
     ·subst ht;rw [P.g.sb] at hsd;exact ET (hsd.2.symm.trans h1)
     ·exact j4.mp hbe t ht ((P.g.sb _ _).mpr ⟨h0,h1⟩)) htg λo t _ ht _ _=>⟨s',hs,ht⟩
    exact ⟨o,t,0,0,e,m⟩
   ·exfalso;refine bI (gX.mp hbe) λy hy=>?_;refine aD (aC.mp hy) λy1 y2=>?_
    have ha:(fb G R k (eL R) &&& Sd R (1-R.af)).testBit s'=true:=by rw [hs];exact bb.mpr rfl
    have h4:=((pG P.B P.g (by exact pT) P.cv.2).mp ha).2.2.2;rw [ij P.B (P.g.lt ((P.g.sb _ _).mp hsd).1) P.cv.2] at h4;exact j4.mp h4 y y1 ((cu P.g).mpr ((P.g.sb _ _).mp y2).1)
 ·obtain ⟨o,t,e,m⟩:=Mo.vZ P (by decide) (by decide) h own hfl λo t ho _ _ hne=>by
   rw [P.cv.1,bb] at ho;exact absurd ho hne
  exact ⟨o,t,0,0,e,m⟩
 ·rcases h with h | h | ⟨kd,h1,h2,h⟩ | h
  ·exact Mo.fF P h λ_ _ _ e=>by rw [hno] at e;cases e
  ·refine o8 (Mo.Mk P h) λo t e m=>?_;exact ⟨o,t,2,0,e,m⟩
  ·refine o8 (Mo.vZ P h1 h2 h own hfl λ_ _ _ _ e=>by rw [hno] at e;cases e) λo t e m=>?_;exact ⟨o,t,0,0,e,m⟩
  ·refine o8 (Mo.gH P h) λo t e m=>?_;exact ⟨o,t,3,0,e,m⟩) ((s,k,k2,G),R)
theorem Mo.tr (P:Pos G R k k2) (h:iU G R k s):∃o t sp f,s=pk o t sp f/\Mo G R k o t sp f/\It G R k o t sp:=by
 obtain ⟨h1,o',t',sp',f',e',hd,hl⟩:=h;refine xC (Mo.of P h1) λo t sp f e m=>?_;have h25:=P.B.ok.iW;have:=hd.1;have:=hd.2.1;have:=m.ho;have:=m.ht;have ee:pk o t sp f=pk o' t' sp' f':=e.symm.trans e'
 have e1:t=t':=by rw [<- lP (o:=o) (t:=t) (sp:=sp) (f:=f) (by exact fX ‹_› ‹_› (by rfl)),ee,lP (by exact fX ‹_› ‹_› (by rfl))]
 have e2:o=o':=by rw [<- oF (o:=o) (t:=t) (sp:=sp) (f:=f) (by exact fX ‹_› ‹_› (by rfl)) (by exact fX ‹_› ‹_› (by rfl)),ee,oF (by exact fX ‹_› ‹_› (by rfl)) (by exact fX ‹_› ‹_› (by rfl))]
 have e3:sp=sp':=by rw [<- lQ (o:=o) (t:=t) (sp:=sp) (f:=f) (by exact fX ‹_› ‹_› (by rfl)) (by exact fX ‹_› ‹_› (by rfl)) m.s4 m.f4,ee,lQ (by exact fX ‹_› ‹_› (by rfl)) (by exact fX ‹_› ‹_› (by rfl)) hd.2.2.1 hd.2.2.2.1]
 exact ⟨o,t,sp,f,e,m,by rw [e1,e2,e3];exact hl⟩
end
noncomputable def IJ (G:aE):Bool:=cM 2 λc=>cM G.size λo=>(dN G.size (cm G c o)).all λt=>decide ((t≠o+2*G.aa/\o≠t+2*G.aa)/\(if c=0 then t-G.aa else t+G.aa)=o / G.aa*G.aa+t%G.aa)
theorem Ju:IJ mI=true:=by decide +kernel
theorem Js:IJ kz=true:=by decide +kernel
theorem Jt:IJ mH=true:=by decide +kernel
section
variable {d s t c k k2 x o sp f wh rf rt oc e i:Nat} {G:aE} {R:Rw} {b:List Nat}
theorem pZ (B:BG G) (hc:c<2) (ho:o<G.size) (h:(cm G c o).testBit t=true):(t≠o+2*G.aa/\o≠t+2*G.aa)/\(if c=0 then t-G.aa else t+G.aa)=o / G.aa*G.aa+t%G.aa:=by
 have ht:=rj B (k:=1) hc ho h;exact Pj (Pp.mp (aK (aK (tab (f:=IJ) Ju Js Jt B) hc) ho) t (dZ.mpr ⟨ht,h⟩))
noncomputable def iX (G:aE) (R:Rw) (t sp:Nat):Nat:=if sp=2 then ic G R t else t
theorem Pos.GV (P:Pos G R k k2) (he:R.ep=t):G.aa<=t/\t+G.aa<G.size/\bd R t=0/\bd R (ic G R t)=(1-R.af)*8+1/\t / G.aa=if R.af=1 then 2 else G.bD-3:=by
 rcases P.ep with h | ⟨e,h,h2⟩
 ·lia
 ·obtain rfl:e=t:=by lia
  exact h2
theorem Mo.pt (P:Pos G R k k2) (m:Mo G R k o t 2 f):(cm G R.af o).testBit t=true:=by
 refine dH (m.ep rfl) λ_ _ h=>?_;have a:=(iI P.B m.ho m.ht).1.2.2;have b:=(iI P.B m.ht m.ho).1.2.2;have:=P.c2
 have:R.af=0\/R.af=1:=by exact fj _ ‹_›
 rcases this with z | z<;>rw [z] at h ⊢
 ·exact a.trans h
 ·exact b.symm.trans h
def sF:Prop:=∀(P:Pos G R k k2) (m:Mo G R k o t sp f),∃rf rt,ew G R o t sp f (iX G R t sp) rf rt/\(sp=3->∃i,i / 2=R.af/\kA G R i o t rf rt)
theorem Mo.mv:@sF t k k2 o sp f G R:=ao (S:=λx:(Nat×Nat×Nat×Nat)×(Nat×Nat×aE×Rw)=>@sF x.1.1 x.1.2.1 x.1.2.2.1 x.1.2.2.2 x.2.1 x.2.2.1 x.2.2.2.1 x.2.2.2.2) (x:=((0,0,0,0),(0,0,bN,fC))) (by
 refine (?_:∀t k k2 o sp f G R,@sF t k k2 o sp f G R) _ _ _ _ _ _ _ _;intro t k k2 o sp f G R P m;have ot:o≠t:=λz=>m.nt (z ▸ m.b0) (z ▸ m.bs);have c2:=P.c2
 have base:∀rf rt,(sp=3->∃i,i / 2=R.af/\kA G R i o t rf rt)->ew G R o t sp f (iX G R t sp) rf rt/\(sp=3->∃i,i / 2=R.af/\kA G R i o t rf rt):=λrf rt hc=>by
  refine ⟨⟨m.ho,m.ht,ot,m.s4,m.f4,m.b0,m.bs,rfl,?_,?_,λe=>?_,λe=>?_,m.pr,λh1 h2=>?_,λe=>?_,λe=>?_⟩,hc⟩
  ·unfold iX;split
   ·exact tL P.ok (m.ep ‹_›).1
   ·exact m.ht
  ·unfold iX;split
   ·intro z;have:=(P.GV (m.ep ‹_›).1).2.2.2.1;rw [z] at this;exact LY this (by decide) m.bs
   ·exact Ne.symm ot
  ·have:=P.GV (m.ep e).1;refine ⟨this.2.2.1,λz=>?_,(m.ep e).1⟩;unfold iX at z;rw [Po e] at z;rw [z] at this;lia
  ·intro _;exact (P.GV (m.ep e).1).1
  ·by_cases z:sp=2
   ·subst z;have:=(pZ P.B c2 m.ho (m.pt P)).1;exact h2.elim (λz=>absurd z this.1) λz=>absurd z this.2
   ·unfold iX;rw [Pf z];exact h2.elim (λe=>((m.d2 z h1).1 e).2.2.1) λe=>((m.d2 z h1).2 e).2.2.1
  ·refine aq (hc e) λi hi h=>?_;refine ⟨i,by exact OO ‹_›,h.1,λv hv hvt=>?_⟩;obtain ⟨kf',kt',rf',rt'⟩:=v;have T1:=(gz P.B h.1).n;have T2:=(gz P.B hv).n;have hvt:kt'=t:=hvt
   have e2:2*R.af / 2=i / 2:=by lia
   rw [e2] at T2;rcases RJ i with z | z
   ·exact OP ‹_› ‹_›
   ·have z2:2*R.af%2=0:=by lia
    have z3:¬2*R.af%2=1:=by lia
    simp only [Po z] at T1;simp only [Pf z3] at T2;lia
  ·refine aq (hc e) λi hi h=>?_
   have hr:R.ab.testBit i=true:=by
    refine bI (gX.mp h.2.1) λj hj=>?_;rw [aC,bb] at hj;exact hj.2 ▸ hj.1
   refine mR (P.rt i hr) λkf' kt' rf' rt' h1 h2 h3=>?_;rw [h.1] at h1;cases h1;have T:=gz P.B h.1;have hn:∀y,(within o rf).testBit y=true->bd R y=0:=λy hy=>PR.mp λz=>j4.mp h.2.2.1 y ((cu P.g).mpr z) hy;refine ⟨by rw [h3,hi],hn t T.w1,hn rt T.w2,T.lt.2.2.1,T.lt.2.2.2,λz=>?_,λz=>?_⟩
   ·rw [z] at h3;lia
   ·have:=T.n.2.2.2.2;lia
 by_cases e:sp=3
 ·refine Kb (m.ca e) λi rf rt h=>?_;exact ⟨rf,rt,base rf rt λ_=>⟨i,h⟩⟩
 ·exact ⟨0,0,base 0 0 λz=>absurd z e⟩) ((t,k,k2,o),(sp,f,G,R))
noncomputable def z6 (b:List Nat):Nat:=vj ((List.range b.length).filter λs=>decide (b.getD s 0≠0))
theorem lu {y:Nat}:(z6 b).testBit y=true↔b.getD y 0≠0:=by
 unfold z6;rw [qX,Sw,Rf,Pl];refine ⟨λh=>h.2,λh=>⟨?_,h⟩⟩;rcases PG y b.length with q | q
 ·exact q
 ·exact absurd (hM q) h
theorem kP (g:ba G R):eL R=z6 R.ae:=cH λi=>by rw [Qa,cu g,lu]
noncomputable def tG (k o t:Nat):Nat:=if o=k then t else k
def lO {y:Nat}:Prop:=∀(P:Pos G R k k2) (m:ew G R o t sp f wh rf rt) (h0:(bP R o t sp f wh rf rt).getD y 0≠0) (h1:(bP R o t sp f wh rf rt).getD y 0 / 8=1-R.af),bd R y=(bP R o t sp f wh rf rt).getD y 0/\y≠t/\y≠o/\y≠wh/\(sp=3->y≠rt/\y≠rf)
theorem oE {y:Nat}:@lO t k k2 o sp f wh rf rt G R y:=ao (S:=λx:(Nat×Nat×Nat×Nat)×(Nat×Nat×Nat×Nat)×(Nat×aE×Rw×Nat)=>@lO x.1.1 x.1.2.1 x.1.2.2.1 x.1.2.2.2 x.2.1.1 x.2.1.2.1 x.2.1.2.2.1 x.2.1.2.2.2 x.2.2.1 x.2.2.2.1 x.2.2.2.2.1 x.2.2.2.2.2) (x:=((0,0,0,0),(0,0,0,0),(0,bN,fC,0))) (by
 refine (?_:∀t k k2 o sp f wh rf rt G R y,@lO t k k2 o sp f wh rf rt G R y) _ _ _ _ _ _ _ _ _ _ _ _;intro t k k2 o sp f wh rf rt G R y P m h0 h1;have c2:=P.c2;rw [dq m P.g.bl] at h0 h1 ⊢
 have hp:gT R o sp f / 8=R.af:=by
  unfold gT;have:=m.f4;have:=m.bs;split
  ·exact FZ (by lia)
  ·exact m.bs
 split at h0
 ·rw [Po ‹_›] at h1;exact absurd (h1.symm.trans (FZ (by decide))) ET
 ·rename_i n1;rw [Pf n1] at h1 ⊢;split at h0
  ·exact absurd rfl h0
  ·rename_i n2;rw [Pf n2] at h1 ⊢;split at h0
   ·rw [Po ‹_›] at h1;exact absurd (h1.symm.trans hp) ET
   ·rename_i n3;rw [Pf n3] at h1 ⊢;split at h0
    ·exact absurd rfl h0
    ·rename_i n4;rw [Pf n4] at h1 ⊢;split at h0
     ·exact absurd rfl h0
     ·rename_i n5;rw [Pf n5]
      exact ⟨rfl,n3,n4,n5,λe=>⟨λz=>n1 ⟨e,z⟩,λz=>n2 ⟨e,z⟩⟩⟩) ((t,k,k2,o),(sp,f,wh,rf),(rt,G,R,y))
theorem zY {y:Nat} (P:Pos G R k k2) (m:ew G R o t sp f wh rf rt) (h0:bd R y≠0) (ho:y≠o) (hw:y≠wh) (h3:sp=3->y≠rf):(bP R o t sp f wh rf rt).getD y 0≠0:=by
 have hp:=m.nA P.g P.c2
 have hp0:gT R o sp f≠0:=λz=>by rw [z] at hp;exact absurd hp.2.1 (by decide)
 rw [dq m P.g.bl];split
 ·exact kx
 ·split
  ·rename_i z;exact absurd z.2 (h3 z.1)
  ·split
   ·exact hp0
   ·exact h0
theorem lM (P:Pos G R k k2) (m:ew G R o t sp f wh rf rt):(bP R o t sp f wh rf rt).getD t 0=gT R o sp f/\gT R o sp f≠0:=by
 have hp:=m.nA P.g P.c2;refine ⟨?_,λz=>by rw [z] at hp;exact absurd hp.2.1 (by decide)⟩;rw [dq m P.g.bl,Pf λz=>(m.c1 z.1).2.2.2.2.2.2 z.2.symm,Pf λz=>?_,Po rfl];have:=m.c1 z.1;rw [<- z.2] at this;lia
def vH:Prop:=∀(P:Pos G R k k2) (mo:Mo G R k o t sp f) (m:ew G R o t sp f (iX G R t sp) rf rt) (hc:sp=3->∃i,i / 2=R.af/\kA G R i o t rf rt) (L:It G R k o t sp),¬I5 G (bP R o t sp f (iX G R t sp) rf rt) (1-R.af) (tG k o t) (z6 (bP R o t sp f (iX G R t sp) rf rt))
theorem safe:@vH t k k2 o sp f rf rt G R:=ao (S:=λx:(Nat×Nat×Nat×Nat)×(Nat×Nat×Nat×Nat)×(aE×Rw)=>@vH x.1.1 x.1.2.1 x.1.2.2.1 x.1.2.2.2 x.2.1.1 x.2.1.2.1 x.2.1.2.2.1 x.2.1.2.2.2 x.2.2.1 x.2.2.2) (x:=((0,0,0,0),(0,0,0,0),(bN,fC))) (by
 refine (?_:∀t k k2 o sp f rf rt G R,@vH t k k2 o sp f rf rt G R) _ _ _ _ _ _ _ _ _ _;intro t k k2 o sp f rf rt G R P mo m hc L;have c2:=P.c2;have c1:1-R.af<2:=pT;have sde:1-R.af≠R.af:=ET;have kS:=P.cv.2;have bk:bd R k=R.af*8+6:=P.kg.at_;rintro ⟨x,x0,x1,x2,x3⟩;refine rQ (oE P m x0 x1) λxe xt xo xw x4=>?_;rw [<- xe] at x0 x1 x2;have hx:x<G.size:=P.g.lt x0;have emp:∀y,(a7 G x (tG k o t)).testBit y=true->(bP R o t sp f (iX G R t sp) rf rt).getD y 0=0:=λy hy=>PR.mp λz=>j4.mp x3 y hy (lu.mpr z);have cJ:∀y,(a7 G x (tG k o t)).testBit y=true->y≠o->y≠iX G R t sp->(sp=3->y≠rf)->bd R y=0:=λy hy h1 h2 h3=>PR.mp λz=>zY P m z h1 h2 h3 (emp y hy);have tn:¬(a7 G x (tG k o t)).testBit t=true:=λz=>(lM P m).2 ((lM P m).1.symm.trans (emp t z));have w2:sp≠2->iX G R t sp=t:=λz=>Pf z;rcases L with L | ⟨L,Le⟩ | ⟨n3,n2,ok,La⟩ | ⟨n3,n2,ok,Ln⟩
 ·refine aq (hc L) λi hi hC=>?_;have T:=gz P.B hC.1
  have kk:tG k o t=t:=by
   unfold tG;rw [Po]
   have hr:R.ab.testBit i=true:=by
    refine bI (gX.mp hC.2.1) λj hj=>?_;rw [aC,bb] at hj;exact hj.2 ▸ hj.1
   refine mR (P.rt i hr) λkf' kt' rf' rt' h1 h2 h3=>?_;rw [hC.1] at h1;cases h1;exact P.kg.un o (by show bd R o=_;rw [h2,hi])
  rw [kk] at x2 emp cJ
  have hb:a7 G x t &&& eL R≠0:=λz=>by
   have:=(jR P.B P.g (by exact pT) T.lt.2.1 (c:=1-i / 2) (oc:=eL R)).mpr ⟨x,x0,by rw [hi];exact x1,by rw [hi];exact x2,z⟩;rw [hC.2.2.2.2.2] at this;cases this
  refine bI (gX.mp hb) λy hy=>?_;refine aD (aC.mp hy) λy1 y2=>?_;have y2:=(cu P.g).mp y2;by_cases yr:y=rf
  ·exact (T.b x hx).1 (yr ▸ y1)
  ·by_cases yo:y=o
   ·have h:=(T.b x hx).2 (yo ▸ y1);have:=emp rt h;rw [dq m P.g.bl,Po ⟨L,rfl⟩] at this;exact absurd ‹_› kx
   ·exact y2 (cJ y y1 yo (by rw [w2 (by lia)];exact λz=>tY P.B (z ▸ y1)) λ_=>yr)
 ·subst L;have hep:=mo.ep rfl;have ep:=P.GV hep.1;have wd:iX G R t 2=ic G R t:=Po rfl
  have ok:o≠k:=λz=>by have:=hep.2.1;rw [z] at this;exact w8 ‹_› ‹_› (by rfl) (by rfl)
  have kk:tG k o t=k:=Pf ok;rw [kk] at x2 emp cJ tn
  have hb:a7 G x k &&& qv G R o t=0:=j4.mpr λy h1 h2=>by
   have yt:y≠t:=λz=>tn (z ▸ h1);unfold qv at h2;rw [dQ,bb] at h2;have h2:=h2.resolve_right yt;rw [Pu,Pu] at h2;by_cases yo:y=o
   ·subst yo;rw [(cu P.g).mpr mo.b0,bb.mpr rfl] at h2
    have:y≠ic G R t:=λz=>by rw [<- wd] at z;exact m.w2 z.symm
    rw [f5 λq=>this (bb.mp q)] at h2;cases h2
   ·rw [f5 λq=>yo (bb.mp q),Rg] at h2;by_cases yw:y=ic G R t
    ·subst yw;rw [(cu P.g).mpr (by have:=ep.2.2.2.1;exact rC ‹_›),bb.mpr rfl] at h2;cases h2
    ·rw [f5 λq=>yw (bb.mp q),Rg] at h2;exact (cu P.g).mp h2 (cJ y h1 yo (by rw [wd];exact yw) λe=>absurd e (by decide))
  have:=(pG P.B P.g c1 kS (oc:=qv G R o t)).mpr ⟨x0,x1,x2,hb⟩;have h3:(eg (fb G R k (qv G R o t) &&& Sd R (1-R.af)) (2^ic G R t)).testBit x=true:=iC.mpr ⟨this,λq=>xw (by rw [wd];exact bb.mp q)⟩;rw [Le,Py] at h3;cases h3
 ·have kk:tG k o t=t:=Po ok;rw [kk] at x2 emp cJ
  have hb:a7 G x t &&& (eL R ^^^ 2^k)=0:=j4.mpr λy h1 h2=>by
   rw [Pu] at h2;by_cases yk:y=k
   ·subst yk;rw [(cu P.g).mpr (by exact rC ‹_›),bb.mpr rfl] at h2;cases h2
   ·rw [f5 λq=>yk (bb.mp q),Rg] at h2;exact (cu P.g).mp h2 (cJ y h1 (by lia) (by rw [w2 n2];exact λz=>tY P.B (z ▸ h1)) λe=>absurd e n3)
  have:=(jR P.B P.g c1 mo.ht (oc:=eL R ^^^ 2^k)).mpr ⟨x,x0,x1,x2,hb⟩;rw [La] at this;cases this
 ·have kk:tG k o t=k:=Pf ok;rw [kk] at x2 emp cJ tn;rw [w2 n2] at cJ;have bs:=ij P.B hx kS;by_cases oin:(a7 G x k).testBit o=true
  ·have k3:bd R x%8=3\/bd R x%8=4\/bd R x%8=5:=by
    have:=P.g.k6 x0;refine Rj λz=>?_;have:=fq P.B c1 hx (by lia) x2;rw [this,Py] at oin;cases oin
   have only:∀y,(a7 G x k).testBit y=true->y≠o->bd R y=0:=λy h1 h2=>cJ y h1 h2 (λz=>tn (z ▸ h1)) λe=>absurd e n3
   have hsn:(kB G R k R.af).testBit x=true:=by
    have:kB G R k R.af=jg G R k 0 &&& Sd R (1-R.af):=rfl;rw [this,aC,P.g.sb,jf (c:=1-R.af) P.B P.g kS];exact ⟨⟨x0,k3,x2,SW _⟩,x0,x1⟩
   have hin:ft G R k R.af x=2^o:=cH λy=>by
    unfold ft;rw [Qa,aC,bb,<- bs];constructor
    ·rintro ⟨h1,h2⟩;refine Rj λyo=>?_;have h0:=only y h1 yo;rw [Pu,show (eL R).testBit y=false from f5 λq=>(cu P.g).mp q h0,Sj] at h2;unfold kB at h2;exact ((P.g.sb _ _).mp (aC.mp h2).2).1 h0
    ·rintro rfl;refine ⟨oin,?_⟩
     have hns:(kB G R k R.af).testBit y=false:=f5 λq=>by
      unfold kB at q;exact sde (((P.g.sb _ _).mp (aC.mp q).2).2.symm.trans mo.bs)
     rw [Pu,(cu P.g).mpr mo.b0,hns];rfl
   have hpn:Pn G R k o:=⟨⟨x,hsn,by rw [hin];exact bb.mpr rfl,by rw [hin,QB,Nat.mod_self]⟩,(P.g.sb _ _).mpr ⟨mo.b0,mo.bs⟩⟩;have hl:=Ln.resolve_left (not_not_intro hpn);rw [bs] at oin tn;have way:=j4.mp (mo.way n3);rcases Ai P.B kS oin hl with h | h | h | h | h
   ·exact tn h
   ·exact xt h.symm
   ·rw [h] at mo;have:=mo.nt;lia
   ·exact way x h ((cu P.g).mpr x0)
   ·exact way k h ((cu P.g).mpr (by exact rC ‹_›))
  ·have hb:a7 G x k &&& eL R=0:=j4.mpr λy h1 h2=>(cu P.g).mp h2 (cJ y h1 (λz=>oin (z ▸ h1)) (λz=>tn (z ▸ h1)) λe=>absurd e n3);have ha:=(jR P.B P.g c1 kS (oc:=eL R)).mpr ⟨x,x0,x1,x2,hb⟩;refine aq (mo.ck ha ok n2) λs hs ht=>?_;have hx2:=(pG P.B P.g c1 kS (oc:=eL R)).mpr ⟨x0,x1,x2,hb⟩;rw [hs,bb] at hx2;rw [dQ,bb,<- hx2,<- bs] at ht
   exact ht.elim (λz=>xt z.symm) tn) ((t,k,k2,o),(sp,f,rf,rt),(G,R))
end
noncomputable def sV (G:aE):Bool:=cM 4 λi=>match G.br.getD i none with
 | none=>true
 | some (kf,_,rf,_)=>(G.cK.getD kf 0).testBit i && (G.cK.getD rf 0).testBit i && decide (kf / G.aa*G.aa=i / 2*(G.size-G.aa)) && cM G.size λs=>!(G.cK.getD s 0).testBit i || decide (s=kf\/s=rf)
noncomputable def zo (G:aE):Bool:=cM 2 λc=>cM G.size λp=>cM G.size λt=>!decide (c=0/\t=p+G.aa\/c=1/\p=t+G.aa) ||
 cM G.size λx=>(cm G c p).testBit x == decide ((0<t%G.aa/\x+1=t)\/(t%G.aa<G.aa-1/\x=t+1))
theorem C9:sV mI=true:=by decide +kernel
theorem C7:sV kz=true:=by decide +kernel
theorem C8:sV mH=true:=by decide +kernel
theorem HY:zo mI=true:=by decide +kernel
theorem HW:zo kz=true:=by decide +kernel
theorem HX:zo mH=true:=by decide +kernel
section
variable {d s t c k k2 x o sp f wh rf rt oc e i p:Nat} {G:aE} {R R':Rw} {b:List Nat}
theorem oT (B:BG G) {kf kt:Nat} (h:G.br.getD i none=some (kf,kt,rf,rt)):(G.cK.getD kf 0).testBit i=true/\(G.cK.getD rf 0).testBit i=true/\kf / G.aa*G.aa=i / 2*(G.size-G.aa)/\∀s,s<G.size->(G.cK.getD s 0).testBit i=true->s=kf\/s=rf:=by
 have:=aK (tab (f:=sV) C9 C7 C8 B) (BK B (i:=i) (by rw [h];exact λz=>nomatch z));rw [h] at this;have:((G.cK.getD kf 0).testBit i && (G.cK.getD rf 0).testBit i && decide (kf / G.aa*G.aa=i / 2*(G.size-G.aa)) && cM G.size λs=>!(G.cK.getD s 0).testBit i || decide (s=kf\/s=rf))=true:=this;rw [Pe,Pe,Pe] at this;refine ⟨this.1.1.1,this.1.1.2,Pj this.1.2,λs hs z=>?_⟩;have:=aK this.2 hs;rw [z] at this;exact Pj this
theorem Et (B:BG G) (hc:c<2) (hp:p<G.size) (ht:t<G.size) (h:c=0/\t=p+G.aa\/c=1/\p=t+G.aa) (hx:x<G.size):(cm G c p).testBit x=true↔(0<t%G.aa/\x+1=t)\/(t%G.aa<G.aa-1/\x=t+1):=by
 have:=aK (aK (aK (tab (f:=zo) HY HW HX B) hc) hp) ht;rw [Px h] at this;have:=aK this hx;rw [QJ] at this;rw [this,Pl]
structure Go (G:aE) (R:Rw) (k k2 o t sp f wh rf rt:Nat):Prop where
 P:Pos G R k k2
 mo:Mo G R k o t sp f
 m:ew G R o t sp f wh rf rt
 hc:sp=3->∃i,i / 2=R.af/\kA G R i o t rf rt
 L:It G R k o t sp
theorem Go.of (P:Pos G R k k2) (h:iU G R k s):∃o t sp f wh rf rt,s=pk o t sp f/\Go G R k k2 o t sp f wh rf rt:=by
 refine mR (Mo.tr P h) λo t sp f e mo L=>?_;refine o8 (mo.mv P) λrf rt m hc=>?_;exact ⟨o,t,sp,f,_,rf,rt,e,P,mo,m,hc,L⟩
theorem Go.wd (z:Go G R k k2 o t sp f wh rf rt):wh=iX G R t sp:=z.m.hw
theorem Go.ES (z:Go G R k k2 o t sp f wh rf rt):wh=t\/(sp=2/\bd R wh=(1-R.af)*8+1):=by
 have h:=z.m.hw;by_cases e:sp=2
 ·rw [Po e] at h;exact .inr ⟨e,by rw [h];exact (z.P.GV (z.mo.ep e).1).2.2.2.1⟩
 ·rw [Pf e] at h;exact .inl h
theorem Go.tk (z:Go G R k k2 o t sp f wh rf rt):t≠k2:=by
 rintro rfl;have h:=z.P.ke.at_
 have h0:bd R t≠0:=by show R.ae.getD t 0≠0;exact rC ‹_›
 by_cases e:sp=3
 ·exact h0 (z.m.c1 e).2.1
 ·exact z.P.sf ⟨o,z.mo.b0,z.mo.bs,z.mo.hit h0,z.mo.way e⟩
theorem lN {y:Nat} (z:Go G R k k2 o t sp f wh rf rt) (h1:y≠o) (h2:y≠t) (h3:y≠wh) (h4:sp=3->y≠rf/\y≠rt):(bP R o t sp f wh rf rt).getD y 0=bd R y:=by
 rw [dq z.m z.P.g.bl,Pf λq=>(h4 q.1).2 q.2,Pf λq=>(h4 q.1).1 q.2,Pf h2,Pf h1,Pf h3]
theorem Go.off {y:Nat} (z:Go G R k k2 o t sp f wh rf rt) (h0:bd R y≠0) (h1:y≠o) (h2:y≠t) (h3:bd R y≠(1-R.af)*8+1) (h4:sp=3->y≠rf):(bP R o t sp f wh rf rt).getD y 0=bd R y:=
 lN z h1 h2 (λq=>z.ES.elim (λe=>h2 (q.trans e)) λe=>h3 (q ▸ e.2)) λe=>⟨h4 e,λq=>h0 (q ▸ (z.m.c1 e).2.2.1)⟩
theorem qZ (r l i:Nat):(r- (r &&& l)).testBit i=true↔r.testBit i=true/\¬l.testBit i=true:=by
 have h:=kJ r (r &&& l)
 have e1:r &&& (r &&& l)=r &&& l:=by rw [<- SJ,Nat.and_self]
 have e2:r ||| (r &&& l)=r:=cH λi=>by rw [RN,Q7];cases r.testBit i<;>rfl
 rw [e1,e2] at h
 have:r- (r &&& l)=eg r l:=by unfold eg;exact (Nat.eq_sub_of_add_eq h).symm
 rw [this];exact iC
theorem oV:(da G R o t).testBit i=true↔R.ab.testBit i=true/\¬(G.cK.getD o 0).testBit i=true/\¬(G.cK.getD t 0).testBit i=true:=by
 unfold da;rw [qZ,dQ,not_or]
theorem kX (h:R.ab<16):da G R o t<16:=Pm (QC ..) h
theorem Go.Gy (z:Go G R k k2 o t sp f wh rf rt) (h:(da G R o t).testBit i=true):∃kf kt rf' rt',G.br.getD i none=some (kf,kt,rf',rt')/\(bP R o t sp f wh rf rt).getD kf 0=i / 2*8+6/\(bP R o t sp f wh rf rt).getD rf' 0=i / 2*8+4:=by
 refine dH (oV.mp h) λh1 h2 h3=>?_;refine mR (z.P.rt i h1) λkf kt rf' rt' e e1 e2=>?_;have T:=oT z.P.B e;refine ⟨kf,kt,rf',rt',e,?_,?_⟩
 ·rw [<- e1];refine z.off (by exact rC ‹_›) (λq=>h2 (q ▸ T.1)) (λq=>h3 (q ▸ T.1)) (by lia) λe3 q=>?_;have:=(z.m.c1 e3).1;rw [<- q] at this;lia
 ·rw [<- e2];refine z.off (by exact rC ‹_›) (λq=>h2 (q ▸ T.2.1)) (λq=>h3 (q ▸ T.2.1)) (by lia) λe3 q=>?_;have h4:=(z.m.c1 e3).1;refine aq (z.hc e3) λj hj hC=>?_;have T1:=(gz z.P.B hC.1).n.1;have T2:=(gz z.P.B e).n.1
  have:i / 2=j / 2:=by rw [<- q] at h4;lia
  rw [this] at T2;exact h2 ((T2.trans T1.symm) ▸ T.1)
def j5:Prop:=∀(z:Go G R k k2 o t sp f wh rf rt) (D:Done G R o t sp f wh rf rt R'),Pos G R' k2 (tG k o t)
theorem Pos.next:@j5 t k k2 o sp f wh rf rt G R R':=ao (S:=λx:(Nat×Nat×Nat×Nat)×(Nat×Nat×Nat×Nat)×(Nat×aE×Rw×Rw)=>@j5 x.1.1 x.1.2.1 x.1.2.2.1 x.1.2.2.2 x.2.1.1 x.2.1.2.1 x.2.1.2.2.1 x.2.1.2.2.2 x.2.2.1 x.2.2.2.1 x.2.2.2.2.1 x.2.2.2.2.2) (x:=((0,0,0,0),(0,0,0,0),(0,bN,fC,fC))) (by
 refine (?_:∀t k k2 o sp f wh rf rt G R R',@j5 t k k2 o sp f wh rf rt G R R') _ _ _ _ _ _ _ _ _ _ _ _;intro t k k2 o sp f wh rf rt G R R' z D;have P:=z.P;have m:=D.m;have c2:=P.c2
 have hb:∀y,bd R' y=(bP R o t sp f wh rf rt).getD y 0:=λy=>by rw [<- m.ae]
 have hs:=m.af
 have hs1:1-R'.af=R.af:=by rw [hs];exact LZ c2
 have bk:bd R k=R.af*8+6:=P.kg.at_;have bk2:bd R k2=(1-R.af)*8+6:=P.ke.at_;have bo:=z.mo.bs;refine ⟨P.B,m.gd,by rw [hs];exact pT,m.ab ▸ kX P.i8,?_,?_,?_,λi hi=>?_,?_⟩
 ·rw [hs];refine ⟨(hb k2).trans ?_,λs hs=>?_⟩
  ·rw [<- bk2];refine z.off (by exact rC ‹_›) (λq=>?_) (Ne.symm z.tk) (by lia) λe q=>?_
   ·rw [q] at bk2;exact LY bk2 (by decide) bo
   ·have:=(z.m.c1 e).1;rw [<- q] at this;lia
  ·have hs:bd R' s=(1-R.af)*8+6:=hs;rw [hb] at hs;have:=oE P z.m (y:=s) (by exact rC ‹_›) (by exact J9 ‹_› (by rfl));exact P.ke.un s (this.1.trans hs)
 ·rw [hs1];refine ⟨(hb _).trans ?_,λs hs=>?_⟩
  ·unfold tG;split
   ·rename_i q;rw [(lM P z.m).1];unfold gT;rewrite [Pf λe=>?_,q]
    ·exact bk
    ·have:=z.mo.pr e;rw [q] at this;lia
   ·rw [<- bk];refine z.off (by exact rC ‹_›) (λq=>‹¬o=k› q.symm) (λq=>?_) (by lia) λe q=>?_
    ·have:=z.mo.nt;rw [<- q] at this;lia
    ·have:=(z.m.c1 e).1;rw [<- q] at this;lia
  ·have hs:bd R' s=R.af*8+6:=hs;rw [hb,dq z.m P.g.bl] at hs;split at hs
   ·lia
   ·split at hs
    ·exact absurd (Eq.symm ‹_›) kx
    ·split at hs
     ·rename_i q;unfold gT at hs;have:=z.mo.f4;split at hs
      ·lia
      ·unfold tG;rw [Po (P.kg.un o hs)];exact q
     ·split at hs
      ·exact absurd (Eq.symm ‹_›) kx
      ·split at hs
       ·exact absurd (Eq.symm ‹_›) kx
       ·have:=P.kg.un s hs;unfold tG;rw [Pf λq=>‹¬s=o› (this.trans q.symm)];exact this
 ·have:=safe P z.mo (z.wd ▸ z.m) z.hc z.L;rw [<- z.wd,<- m.ae,<- kP m.gd] at this;rw [hs];exact this
 ·rw [m.ab] at hi;refine mR (z.Gy hi) λkf kt rf' rt' e e1 e2=>?_;exact ⟨kf,kt,rf',rt',e,(hb _).trans e1,(hb _).trans e2⟩
 ·rw [m.ep];unfold gg;split
  ·rename_i b1;unfold CN;have h0:=z.P.B.ok.f0;have ho:=z.mo.ho;have ht:=z.mo.ht;by_cases z2:sp=2
   ·subst z2;have:=(pZ P.B c2 ho (z.mo.pt P)).1;rw [Pf (λq=>q.elim (λq=>this.1 q) λq=>this.2 q)];exact .inl rfl
   ·have D2:=z.mo.d2 z2 b1;have wt:=z.ES.resolve_right λq=>z2 q.1
    have fin:∀p:Nat,bd R p=0->p≠t->p≠o->sp=0->(bP R o t sp f wh rf rt).getD p 0=0:=λp h1 h2 h3 h4=>by
     rw [lN z h3 h2 (wt.symm ▸ h2) λe=>by lia];exact h1
    have pt:sp=0->(bP R o t sp f wh rf rt).getD t 0=R.af*8+1:=λe=>by
     rw [(lM P z.m).1];unfold gT;rw [Pf (by lia)];exact mk8 ‹_› ‹_›
    split
    ·split
     ·exact .inl rfl
     ·rename_i hh _;refine .inr ⟨_,rfl,?_⟩;rw [hb,hb,hs1];unfold ic;rw [hs];rcases hh with hh | hh
      ·refine rQ (D2.1 hh) λa1 a2 a3 a4 a5=>?_
       have e:(o+t) / 2=o+G.aa:=by exact OD ‹_›
       rw [e,Pf (by rw [a1];decide)];refine ⟨by exact QV _ _,by lia,fin _ a4 (by lia) (by lia) a2,?_⟩;rw [show o+G.aa+G.aa=t by lia,Po (by rw [a1])];exact ⟨pt a2,a5⟩
      ·refine rQ (D2.2 hh) λa1 a2 a3 a4 a5=>?_
       have e:(o+t) / 2=t+G.aa:=by exact L7 ‹_›
       rw [e,Po (by rw [a1])];refine ⟨by exact QV _ _,by lia,fin _ a4 (by lia) (by lia) a2,?_⟩;rw [Tg,Pf (by rw [a1];decide)];exact ⟨pt a2,a5⟩
    ·exact .inl rfl
  ·exact .inl rfl) ((t,k,k2,o),(sp,f,wh,rf),(rt,G,R,R'))
end
noncomputable def Ag (L:List Nat) (az o t sp pf:Nat):List Nat:=if sp=1 then ((L.set o 0).set t (L.getD o 0)).set t (az*8+2+pf) else (L.set o 0).set t (L.getD o 0)
noncomputable def yU (L:List Nat) (f az o t sp pf:Nat):List Nat:=if sp=2 then (Ag L az o t sp pf).set (o / f*f+t%f) 0 else Ag L az o t sp pf
noncomputable def yT (L:List Nat) (f az o t sp pf:Nat):List Nat:=if sp=3/\o<t then ((yU L f az o t sp pf).set (o / f*f+f-1) 0).set (t-1) (az*8+4) else yU L f az o t sp pf
noncomputable def kE (L:List Nat) (f az o t sp pf:Nat):List Nat:=if sp=3/\t<o then ((yT L f az o t sp pf).set (o / f*f) 0).set (t+1) (az*8+4) else yT L f az o t sp pf
noncomputable def Cy (N:List Nat) (f sz r i:Nat):Bool:=r.testBit i && decide (N.getD (i / 2*(sz-f)+f / 2) 0=i / 2*8+6/\N.getD (if i%2=1 then i / 2*(sz-f) else i / 2*(sz-f)+f-1) 0=i / 2*8+4)
noncomputable def lY (N:List Nat) (f sz r:Nat):Nat->Nat
 | 0=>0
 | i+1=>if Cy N f sz r i=true then lY N f sz r i+2^i else lY N f sz r i
noncomputable def Ae (L N:List Nat) (f az o t:Nat):Int:=if L.getD o 0%8=1/\(t=o+2*f\/o=t+2*f)/\AX N f t (9-8*az)=true then ((t+o) / 2:Nat) else -1
section
variable {d s t c k k2 x o sp f wh rf rt oc e i p:Nat} {G:aE} {R R':Rw} {b:List Nat}
theorem yA:∀r,r<16->r=(((if r.testBit 0=true then 1 else 0)+if r.testBit 1=true then 2 else 0)+if r.testBit 2=true then 4 else 0)+if r.testBit 3=true then 8 else 0:=by decide +kernel
theorem C0 {N:List Nat} {sz r r':Nat} (h16:r'<16) (h:∀i,i<4->Cy N f sz r i=r'.testBit i):lY N f sz r 4=r':=by
 have add:∀i,lY N f sz r (i+1)=lY N f sz r i+if Cy N f sz r i=true then 2^i else 0:=λi=>by
  rw [lY];split<;>rfl
 rw [add,add,add,add,h 0 (by decide),h 1 (by decide),h 2 (by decide),h 3 (by decide),show lY N f sz r 0=0 from rfl,QL];exact (yA r' h16).symm
theorem Ci {l:List Nat} {i v w:Nat}:(l.set i v).set i w=l.set i w:=List.set_set ..
theorem wD:Ag R.ae R.af o t sp f=(R.ae.set o 0).set t (gT R o sp f):=by
 unfold Ag gT;split
 ·rw [Ci,Q0,RA 2]
 ·rfl
def oR:Prop:=∀(z:Go G R k k2 o t sp f wh rf rt),kE R.ae G.aa R.af o t sp f=bP R o t sp f wh rf rt
theorem wC:@oR t k k2 o sp f wh rf rt G R:=ao (S:=λx:(Nat×Nat×Nat×Nat)×(Nat×Nat×Nat×Nat)×(Nat×aE×Rw)=>@oR x.1.1 x.1.2.1 x.1.2.2.1 x.1.2.2.2 x.2.1.1 x.2.1.2.1 x.2.1.2.2.1 x.2.1.2.2.2 x.2.2.1 x.2.2.2.1 x.2.2.2.2) (x:=((0,0,0,0),(0,0,0,0),(0,bN,fC))) (by
 refine (?_:∀t k k2 o sp f wh rf rt G R,@oR t k k2 o sp f wh rf rt G R) _ _ _ _ _ _ _ _ _ _ _;intro t k k2 o sp f wh rf rt G R z;have hl:=z.P.g.bl;have m:=z.m
 have h3:sp=3->yU R.ae G.aa R.af o t sp f=cZ R o t sp f wh:=λe=>by
  unfold yU;rw [Pf (by lia),wD]
  have:bd R wh=0:=by
   have hw:=z.ES.resolve_right λq=>by lia
   rw [hw];exact (m.c1 e).2.1
  unfold cZ;rw [HZ this]
 by_cases e3:sp=3
 ·refine aq (z.hc e3) λi hi hC=>?_;have n:=(gz z.P.B hC.1).n;have row:=(oT z.P.B hC.1).2.2.1;have f0:=z.P.B.ok.f0;unfold kE yT bP;rw [Po e3,h3 e3,row];rcases RJ i with q | q
  ·have q':¬i%2=1:=λe=>by rw [q] at e;exact nomatch e
   simp only [Pf q'] at n;refine uJ n λn1 n2 n3 n4 n5 n6=>?_;have n3:o<t:=n3;rw [Pf λe=>Nat.lt_asymm n3 e.2,Po ⟨e3,n3⟩,n2,<- n6 q,Tg,Nat.add_sub_assoc (Q6 f0)]
  ·simp only [Po q] at n;refine uJ n λn1 n2 n3 n4 n5 n6=>?_;have n4:t<o:=n4;rw [Po ⟨e3,n4⟩,Pf λe=>Nat.lt_asymm n4 e.2,n2,n5 q];rfl
 ·have hp:bP R o t sp f wh rf rt=cZ R o t sp f wh:=Pf e3;unfold kE yT;rw [Pf λq=>e3 q.1,Pf λq=>e3 q.1,hp];unfold yU;rw [wD];by_cases e2:sp=2
  ·subst e2;have hw:=(pZ z.P.B z.P.c2 z.mo.ho (z.mo.pt z.P)).2;rw [Po rfl,<- hw,show (if R.af=0 then t-G.aa else t+G.aa)=wh from (m.hw.trans (Po rfl)).symm];have hwt:=(m.e0 rfl).2.1;unfold cZ;rw [List.set_comm _ _ (Ne.symm hwt),List.set_comm _ _ (Ne.symm m.w2)]
  ·have hw:=z.ES.resolve_right λq=>e2 q.1;rw [Pf e2];unfold cZ
   rw [hw,List.set_comm _ _ (Ne.symm m.ot),Ci]) ((t,k,k2,o),(sp,f,wh,rf),(rt,G,R))
def jN:Prop:=∀(z:Go G R k k2 o t sp f wh rf rt),lY (bP R o t sp f wh rf rt) G.aa G.size R.ab 4=da G R o t
theorem wB:@jN t k k2 o sp f wh rf rt G R:=ao (S:=λx:(Nat×Nat×Nat×Nat)×(Nat×Nat×Nat×Nat)×(Nat×aE×Rw)=>@jN x.1.1 x.1.2.1 x.1.2.2.1 x.1.2.2.2 x.2.1.1 x.2.1.2.1 x.2.1.2.2.1 x.2.1.2.2.2 x.2.2.1 x.2.2.2.1 x.2.2.2.2) (x:=((0,0,0,0),(0,0,0,0),(0,bN,fC))) (by
 refine (?_:∀t k k2 o sp f wh rf rt G R,@jN t k k2 o sp f wh rf rt G R) _ _ _ _ _ _ _ _ _ _ _;intro t k k2 o sp f wh rf rt G R z;refine C0 (kX z.P.i8) λi _=>?_;have f0:=z.P.B.ok.f0
 have sq:∀{kf kt rf' rt':Nat},G.br.getD i none=some (kf,kt,rf',rt')->i / 2*(G.size-G.aa)+G.aa / 2=kf/\(if i%2=1 then i / 2*(G.size-G.aa) else i / 2*(G.size-G.aa)+G.aa-1)=rf':=λe=>by
  have n:=(gz z.P.B e).n;refine ⟨n.1.symm,?_⟩;rw [n.2.1];split
  ·rfl
  ·exact Nat.add_sub_assoc (Q6 f0) _
 unfold Cy;rw [Qa,Pe,Pl];constructor
 ·rintro ⟨h1,h2,h3⟩;refine mR (z.P.rt i h1) λkf kt rf' rt' e e1 e2=>?_;rw [(sq e).1] at h2;rw [(sq e).2] at h3;have T:=(oT z.P.B e).2.2.2;have bo:=z.mo.bs
  have po:(bP R o t sp f wh rf rt).getD o 0=0:=by
   rw [dq z.m z.P.g.bl,Pf (show ¬(sp=3/\o=rt) from λq=>z.mo.b0 ((congrArg (bd R) q.2).trans (z.m.c1 q.1).2.2.1)),Pf (show ¬(sp=3/\o=rf) from λq=>(z.m.c1 q.1).2.2.2.2.2.1 q.2.symm),Pf z.m.ot,Po rfl]
  have pt:=(lM z.P z.m).1
  have ps:gT R o sp f / 8=R.af:=by
   unfold gT;have:=z.m.f4;split
   ·exact Ou ‹_›
   ·exact bo
  refine oV.mpr ⟨h1,λq=>?_,λq=>?_⟩
  ·rcases T o z.mo.ho q with q | q
   ·rw [<- q,po] at h2;exact nomatch h2
   ·rw [<- q,po] at h3;exact nomatch h3
  ·rcases T t z.mo.ht q with q | q
   ·rw [<- q] at e1;have hnt:=z.mo.nt (by rw [e1];exact kx);have c2:=z.P.c2;have:=(z.P.g.k6 (x:=t) (by rw [e1];exact kx)).2.2;exact z.tk (z.P.ke.un t (by show bd R t=_;lia))
   ·rw [<- q] at e2 h3;rw [pt] at h3;have hnt:=z.mo.nt (by rw [e2];exact kx);lia
 ·intro h;refine mR (z.Gy h) λkf kt rf' rt' e e1 e2=>?_;rw [(sq e).1,(sq e).2]
  exact ⟨(oV.mp h).1,e1,e2⟩) ((t,k,k2,o),(sp,f,wh,rf),(rt,G,R))
def oQ:Prop:=∀(z:Go G R k k2 o t sp f wh rf rt) (g:ba G R') (hb:R'.ae=bP R o t sp f wh rf rt),Ae R.ae (bP R o t sp f wh rf rt) G.aa R.af o t=gg G R' R o t
theorem C6:@oQ t k k2 o sp f wh rf rt G R R':=ao (S:=λx:(Nat×Nat×Nat×Nat)×(Nat×Nat×Nat×Nat)×(Nat×aE×Rw×Rw)=>@oQ x.1.1 x.1.2.1 x.1.2.2.1 x.1.2.2.2 x.2.1.1 x.2.1.2.1 x.2.1.2.2.1 x.2.1.2.2.2 x.2.2.1 x.2.2.2.1 x.2.2.2.2.1 x.2.2.2.2.2) (x:=((0,0,0,0),(0,0,0,0),(0,bN,fC,fC))) (by
 refine (?_:∀t k k2 o sp f wh rf rt G R R',@oQ t k k2 o sp f wh rf rt G R R') _ _ _ _ _ _ _ _ _ _ _ _;intro t k k2 o sp f wh rf rt G R R' z g hb;have c2:=z.P.c2;unfold Ae gg CN;by_cases b1:bd R o%8=1
 ·rw [Po b1];by_cases h2:t=o+2*G.aa\/o=t+2*G.aa
  ·rw [Po h2]
   have D:(R.af=0/\t=(o+t) / 2+G.aa\/R.af=1/\(o+t) / 2=t+G.aa)/\(o+t) / 2<G.size:=by
    have s2:sp≠2:=λe=>by
     subst e;have:=(pZ z.P.B c2 z.mo.ho (z.mo.pt z.P)).1;exact h2.elim (λq=>this.1 q) λq=>this.2 q
    have D:=z.mo.d2 s2 b1;have ho:=z.mo.ho;have ht:=z.mo.ht;rcases h2 with h2 | h2
    ·have:=(D.1 h2).1;exact ⟨.inl ⟨this,by lia⟩,by lia⟩
    ·have:=(D.2 h2).1;exact ⟨.inr ⟨this,by exact L7 ‹_›⟩,by lia⟩
   have key:AX (bP R o t sp f wh rf rt) G.aa t (9-8*R.af)=true↔cm G R.af ((o+t) / 2) &&& (K R' 1 &&& Sd R' (1-R.af))≠0:=by
    have bit:∀x,(K R' 1 &&& Sd R' (1-R.af)).testBit x=true↔(bP R o t sp f wh rf rt).getD x 0=9-8*R.af:=λx=>by
     rw [aC,g.kb,g.sb];show (R'.ae.getD x 0≠0/\_)/\(R'.ae.getD x 0≠0/\_)↔_;unfold bd;rw [hb];exact Ot c2
    have bs:=λx (hx:x<G.size)=>Et z.P.B c2 D.2 z.mo.ht (by lia) (x:=x) hx;unfold AX;rw [Pl,gX];constructor
    ·rintro (⟨h1,h3⟩ | ⟨h1,h3⟩)
     ·have h0:1<=t:=by rcases RX t with q | q;(rw [q,Nat.zero_mod] at h1;exact absurd h1 (Qr 0));exact q
      exact ⟨t-1,aC.mpr ⟨(bs _ (Pm (QC ..) z.mo.ht)).mpr (.inl ⟨h1,Rz h0⟩),(bit _).mpr h3⟩⟩
     ·exact ⟨t+1,aC.mpr ⟨(bs _ (vK (Pa QO z.P.B.ok.f0) z.mo.ht h1)).mpr (.inr ⟨h1,rfl⟩),(bit _).mpr h3⟩⟩
    ·rintro ⟨x,hx⟩;refine aD (aC.mp hx) λx1 x2=>?_;have x2:=(bit _).mp x2;have hxs:x<G.size:=rj z.P.B (k:=1) c2 D.2 x1;rcases (bs x hxs).mp x1 with ⟨h1,h3⟩ | ⟨h1,h3⟩
     ·exact .inl ⟨h1,by rw [show t-1=x from Nat.sub_eq_of_eq_add h3.symm];exact x2⟩
     ·exact .inr ⟨h1,by rw [<- h3];exact x2⟩
   by_cases hk:AX (bP R o t sp f wh rf rt) G.aa t (9-8*R.af)=true
   ·rw [Po ⟨b1,h2,hk⟩,Pf (key.mp hk),RA]
   ·rw [Pf λq=>hk q.2.2,Po (PR.mp λq=>hk (key.mpr q))]
  ·rw [Pf h2,Pf λq=>h2 q.2.1]
 ·rw [Pf b1,Pf λq=>b1 q.1]) ((t,k,k2,o),(sp,f,wh,rf),(rt,G,R,R'))
end
section
variable {s c k n sz v m e f i j:Nat} {G:aE} {R:Rw} {p:Nat->Bool} {b:List Nat}
theorem sX (hs:s<sz) (hj:j<sz):m*sz+s=c*sz+j↔m=c/\s=j:=by
 constructor
 ·intro h;have e:=qg hs hj h;subst e;exact ⟨Nat.eq_of_mul_eq_mul_right (Pm (Qc _) hs) (Nat.add_right_cancel h),rfl⟩
 ·rintro ⟨rfl,rfl⟩;rfl
theorem k9 {x y:Bool} {P:Prop} (h1:y=true->x=false) (hP:P↔x=true\/y=true):(x ^^ y)=true↔P:=by
 rw [hP];cases x<;>cases y<;>simp_all
theorem qP (hs:s<sz):∀{n:Nat},n<=sz->((xk sz p b n).testBit (m*sz+s)=true↔s<n/\b.getD s 0=m/\p m=true)
 | 0,_=>by rw [show xk sz p b 0=0 from rfl,Py];exact ⟨λh=>(nomatch h),λh=>absurd h.1 (Qu _)⟩
 | n+1,h=>by
  have ih:=qP hs (n:=n) (Q6 h);rw [sO];split
  ·rename_i hp;rw [Pu];refine k9 (λq=>f5 λq2=>?_) ?_
   ·have:=(sX hs h).mp (bb.mp q);exact absurd (ih.mp q2).1 (by rw [this.2];exact Qr _)
   ·rw [ih,bb,sX hs h];constructor
    ·rintro ⟨h1,h2,h3⟩;rcases Rp.mp h1 with q | q
     ·exact .inl ⟨q,h2,h3⟩
     ·exact .inr ⟨by rw [<- h2,q],q⟩
    ·rintro (⟨h1,h2⟩ | ⟨h1,h2⟩)
     ·exact ⟨Qg h1,h2⟩
     ·exact ⟨by rw [h2];exact PD n,by rw [h2,h1],by rw [h1];exact hp⟩
  ·rename_i hp;rw [ih];constructor
   ·rintro ⟨h1,h2⟩;exact ⟨Qg h1,h2⟩
   ·rintro ⟨h1,h2,h3⟩;refine ⟨?_,h2,h3⟩;rcases Rp.mp h1 with q | q
    ·exact q
    ·rw [<- h2,q] at h3;exact absurd h3 hp
theorem Bb (hb:∀i,b.getD i 0<15) (h:n<=sz) (he:(xk sz p b n).testBit e=true):e<15*sz:=by
 refine aq (sN he) ?_;rintro k h1 rfl;have:=P7 sz (PX (hb k));lia
theorem q8 {r N e:Nat} (hr:r<16) (h:(r <<< N).testBit e=true):N<=e/\e<N+4:=by
 rw [RC,Pe,Pl] at h;have:=dD (n:=4) hr h.2;lia
noncomputable def rP (N f:Nat) (ep:Int):Nat:=if 0<=ep then 2^(N+4+ep.toNat%f) else 0
noncomputable def yS (N f az:Nat):Nat:=if az=1 then 2^(N+4+f) else 0
theorem rO {N:Nat} {ep:Int} (h:(rP N f ep).testBit e=true):0<=ep/\e=N+4+ep.toNat%f:=by
 unfold rP at h;split at h
 ·exact ⟨‹_›,bb.mp h⟩
 ·rw [Py] at h;cases h
theorem rd {N az:Nat} (h:(yS N f az).testBit e=true):az=1/\e=N+4+f:=by
 unfold yS at h;split at h
 ·exact ⟨‹_›,bb.mp h⟩
 ·rw [Py] at h;cases h
theorem lX {az ab:Nat} {ep:Int} (hb:∀i,b.getD i 0<15) (hf:0<f) (hr:ab<16) :
 lsum b f az ab ep=((ab <<< (15*b.length) ^^^ rP (15*b.length) f ep) ^^^ yS (15*b.length) f az) ^^^ xk b.length (λm=>decide (m≠0)) b b.length:=by
 have hm:ep.toNat%f<f:=RF _ hf
 have d1:ab <<< (15*b.length) ^^^ rP (15*b.length) f ep=ab <<< (15*b.length)+rP (15*b.length) f ep:=iq λi h1 h2=>by
  have:=q8 hr h1;have:=(rO h2).2;lia
 have lo:∀i,(ab <<< (15*b.length) ^^^ rP (15*b.length) f ep).testBit i=true->15*b.length<=i/\i<15*b.length+4+f:=λi h=>by
  rw [Pu] at h;by_cases q:(ab <<< (15*b.length)).testBit i=true
  ·have:=q8 hr q;lia
  ·rw [f5 q,Sj] at h;have:=(rO h).2;lia
 have d2:(ab <<< (15*b.length) ^^^ rP (15*b.length) f ep) ^^^ yS (15*b.length) f az=(ab <<< (15*b.length) ^^^ rP (15*b.length) f ep)+yS (15*b.length) f az:=iq λi h1 h2=>by
  have:=lo i h1;have:=(rd h2).2;lia
 have d3:=iq (x:=(ab <<< (15*b.length) ^^^ rP (15*b.length) f ep) ^^^ yS (15*b.length) f az) (y:=xk b.length (λm=>decide (m≠0)) b b.length) λi h1 h2=>by
  have h2:=Bb hb (Pt _) h2;rw [Pu] at h1;by_cases q:(ab <<< (15*b.length) ^^^ rP (15*b.length) f ep).testBit i=true
  ·have:=lo i q;lia
  ·rw [f5 q,Sj] at h1;have:=(rd h1).2;lia
 rw [d3,d2,d1,qO (Pt _)];rfl
theorem qJ (g:ba G R) (hf:0<G.aa) (hr:R.ab<16):kI G R=lsum R.ae G.aa R.af R.ab R.ep:=by
 have hb:∀i,R.ae.getD i 0<15:=λi=>by
  by_cases q:bd R i=0
  ·exact Pm (Qt q) (by decide)
  ·exact (g.mn i q).1
 rw [lX hb hf hr,g.bl];rfl
theorem zS (g:ba G R):zT p R.ae=xk G.size p R.ae G.size:=by
 unfold zT;rw [g.bl,qO (Pt _)]
def jM {b':List Nat} {az ab who' rights':Nat} {ep ep':Int}:Prop:=∀(hl:b'.length=b.length) (hb:∀i,b.getD i 0<15) (hb':∀i,b'.getD i 0<15) (hf:0<f) (hr:ab<16) (hr':rights'<16) (hw:az<2) (hw':who'<2) (h:lsum b f az ab ep=lsum b' f who' rights' ep'),b=b'/\az=who'/\ab=rights'/\(0<=ep↔0<=ep')/\(0<=ep->ep.toNat%f=ep'.toNat%f)
theorem wz {b':List Nat} {az ab who' rights':Nat} {ep ep':Int}:@jM f b b' az ab who' rights' ep ep':=ao (S:=λx:(Nat×List Nat×List Nat×Nat)×(Nat×Nat×Nat×Int)×Int=>@jM x.1.1 x.1.2.1 x.1.2.2.1 x.1.2.2.2 x.2.1.1 x.2.1.2.1 x.2.1.2.2.1 x.2.1.2.2.2 x.2.2) (x:=((0,[],[],0),(0,0,0,0),0)) (by
 refine (?_:∀f b b' az ab who' rights' ep ep',@jM f b b' az ab who' rights' ep ep') _ _ _ _ _ _ _ _ _;intro f b b' az ab who' rights' ep ep' hl hb hb' hf hr hr' hw hw' h;rw [lX hb hf hr,lX hb' hf hr',hl] at h;have hm:ep.toNat%f<f:=RF _ hf;have hm':ep'.toNat%f<f:=RF _ hf
 have T:∀(i:Nat),((((ab <<< (15*b.length)).testBit i ^^ (rP (15*b.length) f ep).testBit i) ^^ (yS (15*b.length) f az).testBit i) ^^ (xk b.length (λm=>decide (m≠0)) b b.length).testBit i) =
  ((((rights' <<< (15*b.length)).testBit i ^^ (rP (15*b.length) f ep').testBit i) ^^ (yS (15*b.length) f who').testBit i) ^^ (xk b.length (λm=>decide (m≠0)) b' b.length).testBit i):=λi=>by
  have:=congrArg (λx=>x.testBit i) h;simp only [Pu] at this;exact this
 have nr:∀{r i:Nat},r<16->¬(15*b.length<=i/\i<15*b.length+4)->(r <<< (15*b.length)).testBit i=false:=λh1 h2=>f5 λq=>h2 (q8 h1 q);have ne:∀{e:Int} {i:Nat},i≠15*b.length+4+e.toNat%f->(rP (15*b.length) f e).testBit i=false:=λh1=>f5 λq=>h1 (rO q).2;have ns:∀{w i:Nat},i≠15*b.length+4+f->(yS (15*b.length) f w).testBit i=false:=λh1=>f5 λq=>h1 (rd q).2;have nx:∀{b1:List Nat} {i:Nat},(∀i,b1.getD i 0<15)->15*b.length<=i->(xk b.length (λm=>decide (m≠0)) b1 b.length).testBit i=false:=λh1 h2=>f5 λq=>absurd (Bb h1 (Pt _) q) (QK.mpr h2);refine ⟨eG hl.symm λs=>?_,?_,?_,?_⟩
 ·rcases PG s b.length with hs | hs
  ·have X:∀m,m<15->((b.getD s 0=m/\m≠0)↔(b'.getD s 0=m/\m≠0)):=λm hm=>by
    have lt:m*b.length+s<15*b.length:=by
     have:=P7 b.length (PX hm);lia
    have:=T (m*b.length+s);rw [nr hr (by lia),nr hr' (by lia),ne (by lia),ne (by lia),ns (by lia),ns (by lia)] at this;simp only [Sj,Rg] at this;have a1:=qP (p:=λm=>decide (m≠0)) (b:=b) (m:=m) hs (Pt _);have a2:=qP (p:=λm=>decide (m≠0)) (b:=b') (m:=m) hs (Pt _);rw [<- this,a1,Pl] at a2;exact ⟨λq=>(a2.mp ⟨hs,q⟩).2,λq=>(a2.mpr ⟨hs,q⟩).2⟩
   have h1:=X _ (hb s);have h2:=X _ (hb' s);by_cases q:b.getD s 0=0
   ·by_cases q':b'.getD s 0=0
    ·rw [q,q']
    ·exact (h2.mpr ⟨rfl,q'⟩).1
   ·exact (h1.mp ⟨rfl,q⟩).1.symm
  ·rw [hM hs,hM (hl ▸ hs)]
 ·have:=T (15*b.length+4+f);rw [nr hr (by lia),nr hr' (by lia),ne (by lia),ne (by lia),nx hb (by lia),nx hb' (by lia)] at this;simp only [Sj,Rg] at this;unfold yS at this;have t1:(2^(15*b.length+4+f)).testBit (15*b.length+4+f)=true:=bb.mpr rfl
  have:az=1↔who'=1:=by
   by_cases q:az=1
   ·rw [Po q,t1] at this;by_cases q':who'=1
    ·exact ⟨λ_=>q',λ_=>q⟩
    ·rw [Pf q',Py] at this;cases this
   ·rw [Pf q,Py] at this;by_cases q':who'=1
    ·rw [Po q',t1] at this;cases this
    ·exact ⟨λz=>absurd z q,λz=>absurd z q'⟩
  lia
 ·have X:∀j,j<4->ab.testBit j=rights'.testBit j:=λj hj=>by
   have:=T (15*b.length+j);rw [ne (by lia),ne (by lia),ns (by lia),ns (by lia),nx hb (by exact PK _ _),nx hb' (by exact PK _ _)] at this;simp only [Rg] at this;rw [RC,RC,Qz,Px (PK _ _)] at this;exact this
  rw [yA _ hr,yA _ hr',X 0 (by decide),X 1 (by decide),X 2 (by decide),X 3 (by decide)]
 ·have X:∀x,x<f->((0<=ep/\ep.toNat%f=x)↔(0<=ep'/\ep'.toNat%f=x)):=λx hx=>by
   have:=T (15*b.length+4+x);rw [nr hr (by lia),nr hr' (by lia),ns (by lia),ns (by lia),nx hb (by lia),nx hb' (by lia)] at this;simp only [Sj,Rg] at this
   have E:∀e:Int,(rP (15*b.length) f e).testBit (15*b.length+4+x)=true↔0<=e/\e.toNat%f=x:=λe=>by
    unfold rP;split
    ·rename_i q;rw [bb];exact ⟨λz=>⟨q,by lia⟩,λz=>by rw [z.2]⟩
    ·rename_i q;rw [Py];exact ⟨λz=>(nomatch z),λz=>absurd z.1 q⟩
   rw [<- E ep,<- E ep',this]
  have h1:=X _ hm;have h2:=X _ hm'
  exact ⟨⟨λq=>(h1.mp ⟨q,rfl⟩).1,λq=>(h2.mpr ⟨q,rfl⟩).1⟩,λq=>(h1.mp ⟨q,rfl⟩).2.symm⟩) ((f,b,b',az),(ab,who',rights',ep),ep')
theorem wq:uo sz b (k+1)=if b.getD k 0≠0 then uo sz b k ^^^ 2^(b.getD k 0*sz+(cl b k).getD (b.getD k 0) 0) else uo sz b k:=rfl
theorem tT:cl b (k+1)=if b.getD k 0≠0 then (cl b k).set (b.getD k 0) ((cl b k).getD (b.getD k 0) 0+1) else cl b k:=rfl
theorem tj (hj:j<sz):∀{k:Nat},k<=sz->(∀i,b.getD i 0<15)->((uo sz b k).testBit (m*sz+j)=true↔m≠0/\j<(cl b k).getD m 0)
 | 0,_,_=>by
  have:(cl b 0).getD m 0=0:=Nat.le_zero.mp nP;rw [this,show uo sz b 0=0 from rfl,Py];exact ⟨λh=>(nomatch h),λh=>absurd h.2 (Qu _)⟩
 | k+1,h,hb=>by
  have ih:=tj hj (k:=k) (Q6 h) hb;rw [wq,tT];split
  ·rename_i h0;have hc:(cl b k).getD (b.getD k 0) 0<sz:=Pm nP h;rw [Pu,cP (by rw [ie];exact hb k)];refine k9 (λq=>f5 λq2=>?_) ?_
   ·refine aD ((sX hj hc).mp (bb.mp q)) λq3 q4=>?_;have:=(ih.mp q2).2;rw [q3,q4] at this;exact Qr _ this
   ·rw [ih,bb,sX hj hc];by_cases q:m=b.getD k 0
    ·rw [Po q,q];exact ⟨λz=>(Rp.mp z.2).elim (λy=>.inl ⟨h0,y⟩) λy=>.inr ⟨rfl,y⟩,λz=>z.elim (λy=>⟨h0,Qg y.2⟩) λy=>⟨h0,by rw [y.2];exact PD _⟩⟩
    ·rw [Pf q];exact ⟨.inl,λz=>z.elim id λy=>absurd y.1 q⟩
  ·exact ih
noncomputable def mT (sz:Nat) (c:Nat->Nat):Nat->Nat
 | 0=>0
 | k+1=>mT sz c k+(2^c (1+k) -1) <<< ((1+k)*sz)
theorem Bs {c:Nat->Nat} (hc:∀m,c m<=sz):∀{k:Nat},mT sz c k<2^((1+k)*sz)
 | 0=>QF _
 | k+1=>by
  have ih:=Bs hc (k:=k);unfold mT;have h1:2^c (1+k)<=2^sz:=QP (by decide) (hc _);rw [QY]
  have e:2^((1+(k+1))*sz)=2^sz*2^((1+k)*sz):=by
   rw [<- Nat.pow_add];congr 1;rw [<- Q0,SS,RA]
  rw [e];have h2:(2^c (1+k) -1)*2^((1+k)*sz)<=(2^sz-1)*2^((1+k)*sz):=P7 _ (Nat.sub_le_sub_right h1 1);have h3:2^((1+k)*sz)<=2^sz*2^((1+k)*sz):=SP _ (QF _);rw [Nat.sub_mul (2^sz),Nat.one_mul] at h2;exact Pa (Nat.add_lt_add_of_lt_of_le ih h2) (Qt (Qk h3))
theorem wy {c:Nat->Nat} (hc:∀m,c m<=sz) (hj:j<sz):∀{k:Nat},(mT sz c k).testBit (m*sz+j)=true↔(1<=m/\m<=k)/\j<c m
 | 0=>by
  rw [show mT sz c 0=0 from rfl,Py];exact ⟨λh=>(nomatch h),λh=>by lia⟩
 | k+1=>by
  have ih:=wy hc hj (k:=k);have hlt:=Bs hc (k:=k);unfold mT;rw [QY,RA,Q4 _ (2^_),Nat.testBit_two_pow_mul_add _ hlt];split
  ·rename_i h;rw [ih]
   have:m<1+k:=by
    rcases PG m (1+k) with q | q
    ·exact q
    ·have:=P7 sz q;lia
   constructor
   ·rintro ⟨⟨h1,h2⟩,h3⟩;exact ⟨⟨h1,by exact QD ‹_›⟩,h3⟩
   ·rintro ⟨⟨h1,h2⟩,h3⟩;exact ⟨⟨h1,by lia⟩,h3⟩
  ·rename_i h
   have hm:1+k<=m:=by
    rcases PG m (1+k) with q | q
    ·have:=P7 sz (show m+1<=1+k from q);rw [SS] at this;lia
    ·exact q
   rw [Sy,Pl];rcases PG (1+k) m with q | q
   ·have h2:=P7 sz (show 1+k+1<=m from q);rw [SS] at h2;have:=hc (1+k);exact ⟨λz=>absurd z (QK.mpr (Pb this (Nat.le_sub_of_add_le (Pb (Qt (RA _ _)) (Pb h2 (PK _ _)))))),λz=>absurd z.1.2 (Nat.not_le.mpr (RA 1 k ▸ q))⟩
   ·have e:m=1+k:=by exact QU ‹_› ‹_›
    subst e;rw [Qz];exact ⟨λz=>⟨⟨by exact PK _ _,by lia⟩,z⟩,λz=>z.2⟩
noncomputable def FX (L:List Nat):Nat:=((List.range 14).map λk=>(2^L.count (1+k) -1) <<< ((1+k)*L.length)).sum
theorem wu {c:Nat->Nat}:∀{k:Nat},((List.range k).map λk=>(2^c (1+k) -1) <<< ((1+k)*sz)).sum=mT sz c k
 | 0=>rfl
 | k+1=>by
  rw [List.range_succ,QG,List.sum_append_nat,wu];rfl
theorem mm (hm:m≠0) (h15:m<15) (hb:∀i,b.getD i 0<15):∀{k:Nat},k<=b.length->(cl b k).getD m 0=(b.take k).count m
 | 0,_=>by rw [List.take_zero];exact Nat.le_zero.mp nP
 | k+1,h=>by
  have ih:=mm hm h15 hb (k:=k) (Q6 h);rw [Sh,List.count_append,<- ih,Pk h]
  have e:b[k]=b.getD k 0:=by rw [Pc,Pk h];rfl
  rw [e];show _=_+[b.getD k 0].count m;rw [List.count_singleton];rw [tT];split
  ·rw [cP (by rw [ie];exact hb k)];split
   ·rename_i q;rw [Po (QJ.mpr q.symm),q]
   ·rename_i q;rw [Pf λz=>q (QJ.mp z).symm];rfl
  ·rename_i q;have q:b.getD k 0=0:=PR.mp q;rw [Pf λz=>hm ((QJ.mp z).symm.trans q)];rfl
theorem Ac (hb:∀i,b.getD i 0<15) (h0:0<b.length):uo b.length b b.length=FX b:=by
 unfold FX;rw [wu (c:=λm=>b.count m)];refine cH λe=>?_;have hj:e%b.length<b.length:=RF _ h0
 have he:e=e / b.length*b.length+e%b.length:=by rw [Q4];exact (QW ..).symm
 rw [he,Qa,tj hj (Pt _) hb,wy (λm=>List.count_le_length) hj];constructor
 ·rintro ⟨h1,h2⟩
  have h15:e / b.length<15:=by
   rcases PG (e / b.length) 15 with q | q
   ·exact q
   ·rw [hM (by rw [ie];exact q)] at h2;exact absurd h2 (Qu _)
  rw [mm h1 h15 hb (Pt _),RQ] at h2;exact ⟨⟨PF h1,PX h15⟩,h2⟩
 ·rintro ⟨⟨h1,h2⟩,h3⟩;rw [mm (P5 h1) (QM h2) hb (Pt _),RQ];exact ⟨P5 h1,h3⟩
end
noncomputable def tO (f s g:Nat):Int:=((g%f:Nat):Int) - ((s%f:Nat):Int)
noncomputable def qw (f s g:Nat):Int:=((g / f:Nat):Int) - ((s / f:Nat):Int)
noncomputable def n0 (f s g:Nat):Nat:=min (tO f s g).natAbs (qw f s g).natAbs
noncomputable def n1 (f s g:Nat):Nat:=max (tO f s g).natAbs (qw f s g).natAbs
noncomputable def jA (f s g:Nat):Int:=(qw f s g).fdiv (n1 f s g)*f+(tO f s g).fdiv (n1 f s g)
noncomputable def A1 (f s g:Nat):Bool:=decide (n1 f s g≠0/\(n0 f s g=0\/n0 f s g=n1 f s g))
noncomputable def zi (G:aE):Bool:=cM G.size λs=>cM G.size λg=>
 (cM 2 λc=>!(cm G c s).testBit g || decide ((tO G.aa s g).natAbs=1/\qw G.aa s g=if c=1 then -1 else 1)) &&
 (!(G.a8.getD s 0).testBit g || decide (n0 G.aa s g=1/\n1 G.aa s g=2)) &&
 (!decide (dirOf G s g<8) || (A1 G.aa s g && decide (dirOf G s g<4↔n0 G.aa s g=0))) &&
 (!A1 G.aa s g || (decide ((s:Int)+n1 G.aa s g*jA G.aa s g=g/\((qw G.aa s g).fdiv (n1 G.aa s g)).natAbs<=25) && cM (n1 G.aa s g) λj=>decide (j=0) ||
  decide (0<=(s:Int)+j*jA G.aa s g/\(s:Int)+j*jA G.aa s g<G.size/\(s:Int)+j*jA G.aa s g≠g) && (a7 G s g).testBit ((s:Int)+j*jA G.aa s g).toNat))
theorem GB:zi mI=true:=by decide +kernel
theorem Gz:zi kz=true:=by decide +kernel
theorem GA:zi mH=true:=by decide +kernel
section
variable {d s g c k:Nat} {H:Hp} {G:aE} {q:V->Hp->Prop} {L:List Nat} {x:Addr}
structure LG (G:aE) (s g:Nat):Prop where
 p:∀c,c<2->(cm G c s).testBit g=true->(tO G.aa s g).natAbs=1/\qw G.aa s g=if c=1 then -1 else 1
 n:(G.a8.getD s 0).testBit g=true->n0 G.aa s g=1/\n1 G.aa s g=2
 l:dirOf G s g<8->A1 G.aa s g=true/\(dirOf G s g<4↔n0 G.aa s g=0)
 e:A1 G.aa s g=true->(s:Int)+n1 G.aa s g*jA G.aa s g=g
 d:A1 G.aa s g=true->((qw G.aa s g).fdiv (n1 G.aa s g)).natAbs<=25
 w:A1 G.aa s g=true->∀j,j<n1 G.aa s g->j≠0->(0<=(s:Int)+j*jA G.aa s g/\(s:Int)+j*jA G.aa s g<G.size/\(s:Int)+j*jA G.aa s g≠g)/\(a7 G s g).testBit ((s:Int)+j*jA G.aa s g).toNat=true
theorem hG {a b:Bool} (h:(!a || b)=true) (k:a=true):b=true:=by rw [k] at h;exact h
def o5:Prop:=∀(B:BG G) (hs:s<G.size) (hg:g<G.size),LG G s g
theorem DN:@o5 s g G:=ao (S:=λx:Nat×Nat×aE=>@o5 x.1 x.2.1 x.2.2) (x:=(0,0,bN)) (by
 refine (?_:∀s g G,@o5 s g G) _ _ _;intro s g G B hs hg;have h:=aK (aK (tab (f:=zi) GB Gz GA B) hs) hg;rw [Pe,Pe,Pe] at h;refine aD h ?_;rintro ⟨⟨h1,h2⟩,h3⟩ h4;refine ⟨λc hc k=>Pj (hG (aK h1 hc) k),λk=>Pj (hG h2 k),λk=>?_,λk=>?_,λk=>?_,λk j hj h0=>?_⟩
 ·have:=hG h3 (Px k);rw [Pe] at this;exact ⟨this.1,Pj this.2⟩
 ·have:=hG h4 k;rw [Pe] at this;exact (Pj this.1).1
 ·have:=hG h4 k;rw [Pe] at this;exact (Pj this.1).2
 ·have:=hG h4 k;rw [Pe] at this;have:=aK this.2 hj;rw [decide_eq_false h0,Bool.false_or,Pe] at this
  exact ⟨Pj this.1,this.2⟩) (s,g,G)
theorem qU {a b:Nat} {ys:List Int} (hp:ys.Perm [(a:Int),(b:Int)]) (hs:ys.Pairwise (·<=·)):ys.map V.int=av [min a b,max a b]:=by
 have hl:=hp.length_eq
 match ys,hl with
 | [u,v],_=>
  have huv:u<=v:=by
   have:=List.pairwise_cons.mp hs;exact this.1 v (PC.mpr rfl)
  have h1:u=a/\v=b\/u=b/\v=a:=by
   have hu:u∈[(a:Int),(b:Int)]:=hp.subset PM;rcases RH.mp hu with z | z
   ·subst z;exact .inl ⟨rfl,List.singleton_inj.mp (List.perm_singleton.mp hp.cons_inv)⟩
   ·have z:=PC.mp z;subst z;exact .inr ⟨rfl,List.singleton_inj.mp (List.perm_singleton.mp (hp.trans (List.Perm.swap ..)).cons_inv)⟩
  show [V.int u,V.int v]=[nv (min a b),nv (max a b)];rcases h1 with ⟨rfl,rfl⟩ | ⟨rfl,rfl⟩
  ·rw [Rm (by exact Qd.mp ‹_›),Nat.max_eq_right (by exact Qd.mp ‹_›)]
  ·rw [Nat.min_eq_right (by exact Qd.mp ‹_›),Nat.max_eq_left (by exact Qd.mp ‹_›)]
theorem uS {i:Int} (h:q (nv i.natAbs) H):bY .abs [.int i] H q:=mC.abs h
theorem Cf {a b:Nat} (h1:H x=some (.list (av [a,b]))) (h:c7 (av [min a b,max a b]) H q):bY .sorted [.ref x] H q:=by
 refine mC.sorted h1 (cV _) λys hp hs=>?_;rw [qU hp (hs (show 2<64 by decide))];exact h
theorem rM {l m:List Nat}:PyData.eqv (.list ((l.map Int.ofNat).map .int)) (.list ((m.map Int.ofNat).map .int))=decide (l=m):=by
 rw [PyData.eqv,PySem.W.ked_eqvAll];exact du ⟨λe=>(List.map_inj_right λa b e=>Su e).mp e,λe=>e ▸ rfl⟩
theorem J8 {y:Addr} {l m:List Nat} (h1:H x=some (.list (av l))) (h2:H y=some (.list (av m))) (h:q (.bool (decide (l=m))) H):bK .eq (.ref x) (.ref y) H q:=
 .mk ⟨.flat (.list h1 (cV _)),.flat (.list h2 (cV _)),by rw [rM];exact h⟩
theorem z8 {a b c:Nat} (h:q (.bool (decide (¬(c=a\/c=b)))) H):bK .notin (nv c) (.tup [nv a,nv b]) H q:=by
 refine .mk (.mk (.tup rfl) ?_);show q (.bool (!((a:Int) == c || ((b:Int) == c || false)))) H
 rw [show (!((a:Int) == c || ((b:Int) == c || false)))=decide (¬(c=a\/c=b)) by
  rw [SK,Qa,P4,Ss,Ru,Ru,Pl];lia]
 exact h
theorem jJ {x:Int} {y:Nat} (h0:y≠0) (h1:y<1073741824) (h:q (.int (x.fdiv y)) H):au .fdiv (.int x) (nv y) H q:=by
 exact eU.int ⟨⟨by exact pz ‹_›,by rw [SD];exact h1⟩,h⟩
theorem yF {a b n:Nat} (ha:a<=n) (hb:b<=n):((a:Int) - (b:Int)).natAbs<=n:=by lia
theorem FW (hs:s<G.size) (hg:g<G.size) (h25:G.size<=25):n1 G.aa s g<=25:=by
 have hs:=Pb (Pw hs) h25;have hg:=Pb (Pw hg) h25;exact Nat.max_le.mpr ⟨yF (Pb (Nat.mod_le ..) hg) (Pb (Nat.mod_le ..) hs),yF (Pb (Sv ..) hg) (Pb (Sv ..) hs)⟩
def xP:Prop:=∀(B:BG G) (hL:H x=some (.list (av L))) (hl:L.length=G.size) (hs:s<G.size) (hg:g<G.size) (h1:1<=L.getD s 0%8) (h5:L.getD s 0%8<=5) (h15:L.getD s 0<15) (h:∀b,((rel G (L.getD s 0 / 8) (L.getD s 0%8) s g=true/\a7 G s g &&& z6 L=0)->b=true)->q (.bool b) H),Call (d+1) 98 [.ref x,nv G.aa,nv s,nv g] H q
theorem Ki:@xP d s g H G q L x:=ao (S:=λx:(Nat×Nat×Nat×Hp)×(aE×(V->Hp->Prop)×List Nat×Addr)=>@xP x.1.1 x.1.2.1 x.1.2.2.1 x.1.2.2.2 x.2.1 x.2.2.1 x.2.2.2.1 x.2.2.2.2) (x:=((0,0,0,λ_=>none),(bN,λ_ _=>True,[],0))) (by
 refine (?_:∀d s g H G q L x,@xP d s g H G q L x) _ _ _ _ _ _ _ _;intro d s g H G q L x B hL hl hs hg h1 h5 h15 h;have f0:G.aa≠0:=P5 (Pa QO B.ok.f0);have T:=DN B hs hg;have n25:=FW hs hg B.ok.iW;refine ar rfl rfl ?_;refine (?_:aO _ _ [_,_,_,_,_,_,_,_,_,_] _ _);refine aU hL (by rw [hl];exact hs) ?_;refine dS (y:=8) (by decide) ?_;refine dS f0 ?_;refine dS f0 ?_;refine c8 ?_;refine (?_:aO _ _ [_,_,_,_,_,_,_,_,_,_] _ _);refine c9 f0 (by have:=B.ok.qu;exact Pm ‹_› (by decide)) ?_;refine c9 f0 (by have:=B.ok.qu;exact Pm ‹_› (by decide)) ?_;refine c8 ?_;refine (?_:aO _ _ [_,_,_,_,_,some (.int (tO G.aa s g)),some (.int (qw G.aa s g)),_,_,_] _ _);refine (?_:bY .abs _ _ _);refine uS ?_;refine (?_:bY .abs _ _ _);refine uS ?_;refine new_ (show 2<=1000000 by decide) λb1 hb1=>?_;refine (?_:bY .sorted _ _ _);refine Cf (a:=(tO G.aa s g).natAbs) (b:=(qw G.aa s g).natAbs) (Hp.ai ..) ?_;refine new_ (show 2<=1000000 by decide) λb2 hb2=>?_;refine aD (Hp.none_of hb2) λhb2 hn2=>?_;have s2:H.Sub ((H.upd b1 (.list [nv (tO G.aa s g).natAbs,nv (qw G.aa s g).natAbs])).upd b2 (.list (av [n0 G.aa s g,n1 G.aa s g]))):=Hp.Sub.trans (Hp.ax hb1) (Hp.ax ((Hp.ay hb2).trans hn2));have e2:((H.upd b1 (.list [nv (tO G.aa s g).natAbs,nv (qw G.aa s g).natAbs])).upd b2 (.list (av [n0 G.aa s g,n1 G.aa s g]))) b2=some (.list (av [n0 G.aa s g,n1 G.aa s g])):=Hp.ai ..;refine (?_:aO _ _ [_,_,_,_,_,_,_,some (.ref b2),_,_] ((H.upd b1 (.list [nv (tO G.aa s g).natAbs,nv (qw G.aa s g).natAbs])).upd b2 (.list (av [n0 G.aa s g,n1 G.aa s g]))) _);generalize (H.upd b1 (.list [nv (tO G.aa s g).natAbs,nv (qw G.aa s g).natAbs])).upd b2 (.list (av [n0 G.aa s g,n1 G.aa s g]))=H2 at s2 e2 ⊢;have fin:∀b H' ρ,H.Sub H'->((rel G (L.getD s 0 / 8) (L.getD s 0%8) s g=true/\a7 G s g &&& z6 L=0)->b=true)->di q (.ret (.bool b)) ρ H':=λb H' ρ s hb=>gr H s (h b hb);generalize di q=K0 at fin ⊢;have hL2:=s2 _ _ hL;refine aR ?_
 have c2:L.getD s 0 / 8<2:=by exact yW ‹_›
 refine ag (λm1=>?_) λm1=>?_
 ·have rp:rel G (L.getD s 0 / 8) (L.getD s 0%8) s g=true->_:=λr=>T.p _ c2 (by rw [m1] at r;exact r);refine (?_:bY .abs _ _ _);refine uS ?_;refine aR ?_;refine ag (λe=>?_) λe=>?_
  ·refine aU hL2 (by rw [hl];exact hs) ?_;refine pv ?_;refine ag (λe3=>?_) λe3=>?_
   ·refine eM ?_;refine tV ?_;refine fin _ _ _ s2 λhr=>Px ((rp hr.1).2.trans (Po (by have e3:8<L.getD s 0:=e3;lia)))
   ·refine tV ?_;refine fin _ _ _ s2 λhr=>Px ((rp hr.1).2.trans (Pf (by have e3:¬8<L.getD s 0:=e3;lia)))
  ·exact fin _ _ _ s2 λhr=>absurd (rp hr.1).1 e
 refine aR ?_;refine ag (λm2=>?_) λm2=>?_
 ·refine new_ (show 2<=1000000 by decide) λb3 hb3=>?_;refine (?_:bK _ _ _ _ _);refine J8 (l:=[n0 G.aa s g,n1 G.aa s g]) (m:=[1,2]) ((Hp.ay (Hp.dJ e2 hb3)).trans e2) (Hp.ai ..) ?_;refine fin _ _ _ (Hp.Sub.trans s2 (Hp.ax hb3)) λhr=>Px ?_;have r:=hr.1;rw [m2] at r;have:=T.n r;rw [this.1,this.2]
 refine aR ?_;have m1:L.getD s 0%8≠1:=m1;have m2:L.getD s 0%8≠2:=m2;refine ag (λm6=>absurd m6 (λz=>by have z:L.getD s 0%8=6:=z;lia)) λ_=>?_
 have k3:L.getD s 0%8=3\/L.getD s 0%8=4\/L.getD s 0%8=5:=by lia
 have rl:rel G (L.getD s 0 / 8) (L.getD s 0%8) s g=true->A1 G.aa s g=true/\(L.getD s 0%8=3->n0 G.aa s g≠0)/\(L.getD s 0%8=4->n0 G.aa s g=0):=λr=>by
  rcases (oA k3).mp r with ⟨a1,a2,a3⟩ | ⟨a1,a3⟩
  ·have:=T.l a2;exact ⟨this.1,λ_ z=>by have:=this.2.mpr z;exact absurd ‹_› (QK.mpr ‹_›),λz=>by lia⟩
  ·have:=T.l (Qq a1 (by decide));exact ⟨this.1,λz=>by lia,λ_=>this.2.mp a1⟩
 have no:∀{ρ},(rel G (L.getD s 0 / 8) (L.getD s 0%8) s g=true->False)->K0 (.ret (.bool false)) ρ H2:=λz=>fin _ _ _ s2 λhr=>(z hr.1).elim
 have last:A1 G.aa s g=true->aO (Call d) (uW 9 I2.body) [some (.ref x),some (nv G.aa),some (nv s),some (nv g),some (nv (L.getD s 0%8)),some (.int (tO G.aa s g)),some (.int (qw G.aa s g)),some (.ref b2),none,none] H2 K0:=λha=>by
  have hn:=(Pj ha).1;refine aU (i:=1) e2 (show 1<2 by decide) ?_;refine (?_:au _ _ (nv (n1 G.aa s g)) _ _);refine jJ hn (by exact Pm ‹_› (by decide)) ?_;refine wc ?_ ?_
  ·have:((qw G.aa s g).fdiv (n1 G.aa s g)).natAbs<=25:=T.d ha;exact Pm this (by decide)
  refine aU (i:=1) e2 (show 1<2 by decide) ?_;refine (?_:au _ _ (nv (n1 G.aa s g)) _ _);refine jJ hn (by exact Pm ‹_› (by decide)) ?_;refine gW ?_;refine (?_:aO _ _ [_,_,_,_,_,_,_,_,some (.int (jA G.aa s g)),_] _ _);refine gW (x:=(s:Int)) ?_;refine (?_:aO _ _ [_,_,_,_,_,_,_,_,_,_] _ _);refine lj (λm ρ' H'=>H'=H2/\∃j,1<=j/\j<=n1 G.aa s g/\m=n1 G.aa s g-j/\ρ'=[some (.ref x),some (nv G.aa),some (nv s),some (nv g),some (nv (L.getD s 0%8)),some (.int (tO G.aa s g)),some (.int (qw G.aa s g)),some (.ref b2),some (.int (jA G.aa s g)),some (.int ((s:Int)+j*jA G.aa s g))]) (n1 G.aa s g-1) ⟨rfl,1,Pt _,PF hn,rfl,by rw [Int.natCast_one,Int.one_mul]⟩ λm ρ' H' K X hI hn' hr hb hX=>?_;obtain ⟨rfl,j,j1,j2,rfl,rfl⟩:=hI;refine qz ?_;refine ag (λe=>?_) λe=>?_
  ·have jn:j≠n1 G.aa s g:=λz=>e (by rw [z];exact T.e ha);have ⟨⟨w1,w2,_⟩,w4⟩:=T.w ha j (by exact P9 ‹_› ‹_›) (by exact P5 ‹_›);refine bI (Q2 w1) λsp hsp=>?_;rw [hsp] at w2 w4 ⊢;have w4:(a7 G s g).testBit sp=true:=w4;refine aU hL2 (by rw [hl];exact Qd.mp ‹_›) ?_;refine ez ?_;refine ag (λe3=>?_) λ_=>?_
   ·refine hr _ _ _ (fin _ _ _ s2 λhz=>?_);exact (j4.mp hz.2 sp w4 (lu.mpr e3)).elim
   ·refine bF ?_;refine gW ?_;refine hn' (n1 G.aa s g- (j+1)) _ _ (by exact Td (P9 ‹_› ‹_›) (PD _)) ⟨rfl,j+1,by exact QV _ _,by exact P9 ‹_› ‹_›,rfl,?_⟩;rewrite [S7,Int.add_mul,Int.natCast_one,Int.one_mul,<- Int.add_assoc,hsp];rfl
  ·refine hX _ _ ?_;exact fin _ _ _ s2 λ_=>rfl
 have last2:A1 G.aa s g=true->aO (Call d) (uW 8 I2.body) [some (.ref x),some (nv G.aa),some (nv s),some (nv g),some (nv (L.getD s 0%8)),some (.int (tO G.aa s g)),some (.int (qw G.aa s g)),some (.ref b2),none,none] H2 K0:=λha=>by
  refine aR ?_;refine (?_:cz _ _ _);refine ag (λe3=>?_) λe3=>?_
  ·refine (?_:aN _ _ _ _);refine aU (i:=0) e2 (show 0<2 by decide) ?_;refine aR ?_;refine (?_:cz _ _ _);refine ag (λe4=>?_) λe4=>?_
   ·refine (?_:cz _ _ _);refine ag (λ_=>?_) λz=>absurd e4 z;exact no λr=>(rl r).2.1 e3 e4
   ·refine (?_:bK _ _ _ _ _);refine aR ?_;refine (?_:cz _ _ _);refine ag (λz=>absurd (e3.symm.trans z) (show ¬3=4 by decide)) λz=>?_;refine (?_:cz _ _ _);refine ag (λy=>absurd y z) λ_=>?_;exact last ha
  ·refine (?_:cz _ _ _);refine ag (λy=>absurd y e3) λ_=>?_;refine (?_:bK _ _ _ _ _);refine aR ?_;refine (?_:cz _ _ _);refine ag (λe4=>?_) λe4=>?_
   ·refine (?_:aN _ _ _ _);refine aU (i:=0) e2 (show 0<2 by decide) ?_;refine (?_:bK _ _ _ _ _);refine pv ?_;refine (?_:cz _ _ _);refine ag (λe5=>?_) λe5=>?_
    ·refine no λr=>?_;have e5:0<n0 G.aa s g:=e5;rw [(rl r).2.2 e4] at e5;exact absurd e5 (Qr 0)
    ·exact last ha
   ·refine (?_:cz _ _ _);refine ag (λy=>absurd y e4) λ_=>?_;exact last ha
 refine aU (i:=1) e2 (show 1<2 by decide) ?_;refine aR ?_;refine ag (λe=>?_) λe=>?_
 ·refine ag (λ_=>?_) λz=>absurd e z;exact no λr=>(Pj (rl r).1).1 e
 ·refine (?_:aN _ _ _ _);refine aU (i:=0) e2 (show 0<2 by decide) ?_;refine aU (i:=1) e2 (show 1<2 by decide) ?_;refine ⟨show 2<=1000 by decide,?_⟩;refine (?_:bK _ (nv (n0 G.aa s g)) (.tup [nv 0,nv (n1 G.aa s g)]) _ _);refine z8 ?_;refine ag (λe3=>?_) λe3=>?_
  ·exact no λr=>e3 (Pj (rl r).1).2
  ·exact last2 (Px ⟨e,PR.mp e3⟩)) ((d,s,g,H),(G,q,L,x))
end
section
variable {d s c k f r o t sp pf az ab rk:Nat} {H:Hp} {q:V->Hp->Prop} {L:List Nat} {x:Addr} {ep:Int}
theorem oS:(Ag L az o t sp pf).length=L.length:=by
 unfold Ag;split
 ·rw [Pq,Pq,Pq]
 ·rw [Pq,Pq]
theorem kU:(yU L f az o t sp pf).length=L.length:=by
 unfold yU;split
 ·rw [Pq,oS]
 ·exact oS
theorem kT:(yT L f az o t sp pf).length=L.length:=by
 unfold yT;split
 ·rw [Pq,Pq,kU]
 ·exact kU
theorem Af:(kE L f az o t sp pf).length=L.length:=by
 unfold kE;split
 ·rw [Pq,Pq,kT]
 ·exact kT
theorem Gb {vs:List V} (h1:H x=some (.list vs)) (h:c7 vs H q):bY .list [.ref x] H q:=mC.list h1 h
theorem Cp (hf:0<f) (ho:o<f*rk):o / f*f+f<=f*rk:=by
 have h2:o / f+1<=rk:=QQ ho;have h3:=RU f h2;rw [Nat.mul_succ,Q4] at h3;exact h3
theorem eW {b:Addr} {l:List Nat} {i n:Nat} {P:Hp->Prop} (h2:i<l.length) (h:P (H.out b (l.set i n))):bT (.ref b) (nv i) (nv n) (H.out b l) P:=
 pR (Hp.ai ..) h2 (by rw [Hp.eE];exact h)
section
variable {Γ:Sg} {ρ:Lc} {Q:Fl->Lc->Hp->Prop}
theorem vJ {s r:S} (ρ1:Lc) (H1:Hp) (h:∀K':Fl->Lc->Hp->Prop,K' .next ρ1 H1->wpS Γ s ρ H K') (hJ:aO Γ r ρ1 H1 Q):aO Γ (.cons s r) ρ H Q:=h (λfl ρ H=>match fl with
 | .next=>aO Γ r ρ H Q
 | .brk=>Q .brk ρ H
 | .ret v=>Q (.ret v) ρ H) hJ
theorem Co {s r:S} (H1:Hp) (h:∀K':Fl->Lc->Hp->Prop,K' .next ρ H1->wpS Γ s ρ H K') (hJ:aO Γ r ρ H1 Q):aO Γ (.cons s r) ρ H Q:=vJ ρ H1 h hJ
theorem rh {s r:S} (P:Lc->Hp->Prop) (h:∀K':Fl->Lc->Hp->Prop,(∀ρ' H',P ρ' H'->K' .next ρ' H')->(∀v ρ' H',Q (.ret v) ρ' H'->K' (.ret v) ρ' H')->(∀ρ' H',Q .brk ρ' H'->K' .brk ρ' H')->wpS Γ s ρ H K') (hJ:∀ρ' H',P ρ' H'->aO Γ r ρ' H' Q):aO Γ (.cons s r) ρ H Q:=h (λfl ρ H=>match fl with
 | .next=>aO Γ r ρ H Q
 | .brk=>Q .brk ρ H
 | .ret v=>Q (.ret v) ρ H) hJ (λ_ _ _ h=>h) λ_ _ h=>h
theorem to_eq {K':Fl->Lc->Hp->Prop} {ρ':Lc} {H' H1:Hp} (j:K' .next ρ H1) (e:ρ'=ρ) (e2:H'=H1):K' .next ρ' H':=by rw [e,e2];exact j
end
def se:Prop:=∀(hL:H x=some (.list (av L))) (hf:0<f) (hf8:f<=25) (hl:L.length=f*rk) (h25:L.length<=25) (hrk:1<=rk) (ho:o<L.length) (ht:t<L.length) (hsp:sp<4) (hpf:pf<4) (hw:az<2) (h:∀b,H b=none->q (mN b (1-az) (lY (kE L f az o t sp pf) f L.length ab 4) (Ae L (kE L f az o t sp pf) f az o t)) (H.out b (kE L f az o t sp pf))),Call (d+2) 103 [mN x az ab ep,nv (pk o t sp pf),nv f] H q
theorem HG:@se d f o t sp pf az ab rk H q L x ep:=ao (S:=λx:(Nat×Nat×Nat×Nat)×(Nat×Nat×Nat×Nat)×(Nat×Hp×(V->Hp->Prop)×List Nat)×(Addr×Int)=>@se x.1.1 x.1.2.1 x.1.2.2.1 x.1.2.2.2 x.2.1.1 x.2.1.2.1 x.2.1.2.2.1 x.2.1.2.2.2 x.2.2.1.1 x.2.2.1.2.1 x.2.2.1.2.2.1 x.2.2.1.2.2.2 x.2.2.2.1 x.2.2.2.2) (x:=((0,0,0,0),(0,0,0,0),(0,λ_=>none,λ_ _=>True,[]),(0,0))) (by
 refine (?_:∀d f o t sp pf az ab rk H q L x ep,@se d f o t sp pf az ab rk H q L x ep) _ _ _ _ _ _ _ _ _ _ _ _ _ _;intro d f o t sp pf az ab rk H q L x ep hL hf hf8 hl h25 hrk ho ht hsp hpf hw h;have f0:f≠0:=P5 hf;have rl:=Cp (PF f0) (hl ▸ ho);refine ar rfl rfl ?_;refine (?_:aO _ _ [_,_,_,_,_,_,_,_,_,_,_,_,_,_,_,_] _ _);refine (?_:tupK _ _ _ _);refine mM rfl ?_;refine (?_:aO _ _ [_,_,_,_,_,_,_,_,_,_,_,_,_,_,_,_] _ _);refine c9 (y:=64) (by decide) (by decide) ?_;refine dS (y:=64) (by decide) ?_;have FK:o<64:=Pa ho (Pb h25 (by decide));have t64:t<64:=Pa ht (Pb h25 (by decide));rw [oF FK t64];refine dS (y:=64) (by decide) ?_;rw [lP t64];refine c9 (y:=16384) (by decide) (by decide) ?_;refine dS (y:=4) (by decide) ?_;rw [lQ FK t64 hsp hpf];refine c9 f0 (by exact Pm ‹_› (by decide)) ?_;have hd:o / f<=o:=Sv ..;refine bR (by exact I1 ‹_› ‹_› (by rfl)) ?_;refine (?_:aO _ _ [_,_,_,_,_,_,_,_,_,_,_,_,_,_,_,_] _ _);refine (?_:bY .list _ _ _);refine Gb hL ?_;refine new_ (by rw [Ph];show _<=1000000;exact Pb ‹_› (by decide)) λb hb=>?_;have hx:x≠b:=Hp.dJ hL hb;have hLo:∀X,(H.out b X) x=some (.list (av L)):=λX=>(Hp.ay hx).trans hL;refine (?_:aO _ _ [_,_,_,_,_,_,_,_,_,_,_,some (.ref b),_,_,_,_] (H.out b L) _);refine (?_:bT _ _ (nv 0) _ _);refine eW ho ?_;refine (?_:aO _ _ [_,_,_,_,_,_,_,_,_,_,_,_,_,_,_,_] _ _);refine aU (hLo _) ho ?_;refine (?_:bT _ _ _ _ _);refine eW (by rw [Pq];exact ht) ?_;refine (?_:aO _ _ [_,_,_,_,_,_,_,_,_,_,_,_,_,_,_,_] _ _);refine Co (H.out b (Ag L az o t sp pf)) (λK' j=>?_) ?_
 ·refine aR ?_;refine ag (λe=>?_) λe=>?_
  ·refine bR (y:=8) (by exact Pa ‹_› (by decide)) ?_;refine p_add ?_;refine c9 (y:=4096) (by decide) (by decide) ?_;refine dS (y:=4) (by decide) ?_;rw [CS FK t64 hpf];refine p_add ?_;refine eW (by rw [Pq,Pq];exact ht) ?_;exact to_eq j rfl (by unfold Ag;rw [Po e])
  ·exact to_eq j rfl (by unfold Ag;rw [Pf e])
 refine Co (H.out b (yU L f az o t sp pf)) (λK' j=>?_) ?_
 ·refine aR ?_;refine ag (λe=>?_) λe=>?_
  ·refine dS f0 ?_;refine p_add ?_;refine eW (n:=0) (by rw [oS];have:=RF t (PF f0);lia) ?_;exact to_eq j rfl (by unfold yU;rw [Po e])
  ·exact to_eq j rfl (by unfold yU;rw [Pf e])
 refine Co (H.out b (yT L f az o t sp pf)) (λK' j=>?_) ?_
 ·refine aR ?_;refine ag (λe=>?_) λe=>?_
  ·refine pv ?_;refine ag (λe3=>?_) λe3=>?_
   ·have e3:o<t:=e3;refine p_add ?_;refine cC (y:=1) (by lia) ?_;refine eW (n:=0) (by rw [kU];lia) ?_;refine (?_:aO _ _ [_,_,_,_,_,_,_,_,_,_,_,_,_,_,_,_] _ _);refine bR (y:=8) (by exact Pa ‹_› (by decide)) ?_;refine p_add ?_;refine cC (y:=1) (by exact Q5 ‹_›) ?_;refine eW (by rw [Pq,kU];exact Pm (QC _ _) ‹_›) ?_;exact to_eq j rfl (by unfold yT;rw [Po ⟨e,e3⟩])
   ·exact to_eq j rfl (by unfold yT;rw [Pf λz=>e3 z.2])
  ·refine (?_:cz _ _ _);refine ag (λz=>absurd z e) λ_=>?_;exact to_eq j rfl (by unfold yT;rw [Pf λz=>e z.1])
 refine Co (H.out b (kE L f az o t sp pf)) (λK' j=>?_) ?_
 ·refine aR ?_;refine ag (λe=>?_) λe=>?_
  ·refine rU ?_;refine (?_:cz _ _ _);refine ag (λe3=>?_) λe3=>?_
   ·have e3:t<o:=e3;refine eW (n:=0) (by rw [kT];lia) ?_;refine (?_:aO _ _ [_,_,_,_,_,_,_,_,_,_,_,_,_,_,_,_] _ _);refine bR (y:=8) (by exact Pa ‹_› (by decide)) ?_;refine p_add ?_;refine p_add ?_;refine eW (i:=t+1) (by rw [Pq,kT];exact Pm ‹_› ‹_›) ?_;exact to_eq j rfl (by unfold kE;rw [Po ⟨e,e3⟩])
   ·exact to_eq j rfl (by unfold kE;rw [Pf λz=>e3 z.2])
  ·refine (?_:cz _ _ _);refine ag (λz=>absurd z e) λ_=>?_;exact to_eq j rfl (by unfold kE;rw [Pf λz=>e z.1])
 have hN:(H.out b (kE L f az o t sp pf)) b=some (.list (av (kE L f az o t sp pf))):=Hp.ai ..;have hNl:(kE L f az o t sp pf).length=L.length:=Af;have hx2:=hLo (kE L f az o t sp pf);generalize hh:H.out b (kE L f az o t sp pf)=H2 at hN hx2 ⊢;have h:=hh ▸ h b hb;generalize kE L f az o t sp pf=N at hN hNl h ⊢;refine (?_:aO _ _ [_,_,_,_,_,_,_,_,_,_,_,_,some (nv 0),_,_,_] _ _);refine rh (λρ' H'=>H'=H2/\∃u v w,ρ'=[some (mN x az ab ep),some (nv (pk o t sp pf)),some (nv f),some (.ref x),some (nv az),some (nv ab),some (.int ep),some (nv o),some (nv t),some (nv sp),some (nv (o / f*f)),some (.ref b),some (nv (lY N f L.length ab 4)),u,v,w]) (λK1 k1 _ _=>?_) λρ' H' hI=>?_
 ·refine (?_:bY .range _ _ _);refine fI (n:=4) (by decide) ?_;refine (?_:fg _ _ _ _ _ _);refine forR (n:=4) (λi ρ' H'=>H'=H2/\∃u v w,ρ'=[some (mN x az ab ep),some (nv (pk o t sp pf)),some (nv f),some (.ref x),some (nv az),some (nv ab),some (.int ep),some (nv o),some (nv t),some (nv sp),some (nv (o / f*f)),some (.ref b),some (nv (lY N f L.length ab i)),u,v,w]) (λi ρ' H' K hi hI hn _ _=>?_) (λρ' H' hI=>k1 _ _ hI) ⟨rfl,_,_,_,rfl⟩;obtain ⟨rfl,u,v,w,rfl⟩:=hI;have i2:i / 2<2:=QQ hi
  have first:i / 2*(L.length-f)+f<=L.length:=by
   have:=P7 (L.length-f) (PX i2);lia
  refine (?_:aO _ _ [_,_,_,_,_,_,_,_,_,_,_,_,_,some (nv i),_,_] _ _);refine c9 (y:=2) (by decide) (by decide) ?_;refine (?_:bY .len _ _ _);refine l6 hx2 ?_;rw [Ph];refine cC (by lia) ?_;refine bR (by exact Pa ‹_› (by decide)) ?_;refine (?_:aO _ _ [_,_,_,_,_,_,_,_,_,_,_,_,_,_,some (nv (i / 2*(L.length-f))),_] _ _);refine vJ (cR [some (mN x az ab ep),some (nv (pk o t sp pf)),some (nv f),some (.ref x),some (nv az),some (nv ab),some (.int ep),some (nv o),some (nv t),some (nv sp),some (nv (o / f*f)),some (.ref b),some (nv (lY N f L.length ab i)),some (nv i),some (nv (i / 2*(L.length-f))),w] 15 (nv (if i%2=1 then i / 2*(L.length-f) else i / 2*(L.length-f)+f-1))) H' (λK' j=>?_) ?_
  ·refine dS (y:=2) (by decide) ?_;refine aR ?_;refine ag (λe=>?_) λe=>?_
   ·exact to_eq j (by rw [Po e]) rfl
   ·refine p_add ?_;refine cC (y:=1) (by lia) ?_;exact to_eq j (by rw [Pf e]) rfl
  refine (?_:aO _ _ [_,_,_,_,_,_,_,_,_,_,_,_,_,_,_,some (nv (if i%2=1 then i / 2*(L.length-f) else i / 2*(L.length-f)+f-1))] _ _)
  have corner:(if i%2=1 then i / 2*(L.length-f) else i / 2*(L.length-f)+f-1)<L.length:=by
   split
   ·exact Pa (Nat.lt_add_of_pos_right hf) first
   ·exact CO hf first
  have rok:Cy N f L.length ab i=(ab.testBit i && decide (N.getD (i / 2*(L.length-f)+f / 2) 0=i / 2*8+6/\N.getD (if i%2=1 then i / 2*(L.length-f) else i / 2*(L.length-f)+f-1) 0=i / 2*8+4)):=rfl;generalize (if i%2=1 then i / 2*(L.length-f) else i / 2*(L.length-f)+f-1)=cr at corner rok ⊢
  have kno:Cy N f L.length ab i=false->lY N f L.length ab (i+1)=lY N f L.length ab i:=λe=>by
   rw [lY,e,Pf Ti]
  have no:∀{ρ'},(∃u v w,ρ'=[some (mN x az ab ep),some (nv (pk o t sp pf)),some (nv f),some (.ref x),some (nv az),some (nv ab),some (.int ep),some (nv o),some (nv t),some (nv sp),some (nv (o / f*f)),some (.ref b),some (nv (lY N f L.length ab i)),u,v,w])->Cy N f L.length ab i=false->K .next ρ' H':=λ⟨u,v,w,e⟩ z=>hn _ _ ⟨rfl,u,v,w,by rw [kno z];exact e⟩;refine cN ?_;refine aS ?_;refine (?_:cz _ _ _);refine dG (λe=>?_) λe=>?_
  ·have e:=j7.mp e;rw [e,Rr] at rok;refine (?_:au _ _ _ _ _);refine c9 (y:=2) (by decide) (by decide) ?_;refine p_add ?_;refine aU hN (by rw [hNl];lia) ?_;refine c9 (y:=2) (by decide) (by decide) ?_;refine bR (y:=8) (by exact Pa ‹_› (by decide)) ?_;refine p_add ?_;refine aR ?_;refine (?_:cz _ _ _);refine ag (λe2=>?_) λe2=>?_
   ·refine (?_:aN _ _ _ _);refine aU hN (by rw [hNl];exact corner) ?_;refine c9 (y:=2) (by decide) (by decide) ?_;refine bR (y:=8) (by exact Pa ‹_› (by decide)) ?_;refine p_add ?_;refine aR ?_;refine (?_:cz _ _ _);refine ag (λe3=>?_) λe3=>?_
    ·refine b8 (by exact Pw (Pa ‹_› (by decide))) ?_;refine bF ?_;refine p_add ?_
     have kyes:lY N f L.length ab (i+1)=lY N f L.length ab i+2^i:=by rw [lY,rok,Px ⟨e2,e3⟩,Po rfl]
     refine hn _ _ ⟨rfl,some (nv i),some (nv (i / 2*(L.length-f))),some (nv cr),?_⟩;rw [kyes];rfl
    ·exact no ⟨_,_,_,rfl⟩ (rok.trans (decide_eq_false λz=>e3 z.2))
   ·refine (?_:cz _ _ _);refine ag (λy=>absurd y e2) λ_=>?_;exact no ⟨_,_,_,rfl⟩ (rok.trans (decide_eq_false λz=>e2 z.1))
  ·refine (?_:cz _ _ _);refine dG (λy=>absurd e y) λ_=>?_;refine no ⟨_,_,_,rfl⟩ (rok.trans ?_);rw [f5 λz=>j7.mpr z e,Sk]
 obtain ⟨rfl,u,v,w,rfl⟩:=hI;refine eM ?_;refine (?_:aO _ _ [_,_,_,_,_,_,some (.int (-1)),_,_,_,_,_,_,_,_,_] _ _);refine vJ (cR [some (mN x az ab ep),some (nv (pk o t sp pf)),some (nv f),some (.ref x),some (nv az),some (nv ab),some (.int (-1)),some (nv o),some (nv t),some (nv sp),some (nv (o / f*f)),some (.ref b),some (nv (lY N f L.length ab 4)),u,v,w] 6 (.int (Ae L N f az o t))) H' (λK' j=>?_) ?_
 ·have no:¬(L.getD o 0%8=1/\(t=o+2*f\/o=t+2*f)/\AX N f t (9-8*az)=true)->K' .next [some (mN x az ab ep),some (nv (pk o t sp pf)),some (nv f),some (.ref x),some (nv az),some (nv ab),some (.int (-1)),some (nv o),some (nv t),some (nv sp),some (nv (o / f*f)),some (.ref b),some (nv (lY N f L.length ab 4)),u,v,w] H':=λz=>to_eq j (by unfold Ae;rw [Pf z];rfl) rfl;refine aU hx2 ho ?_;refine dS (y:=8) (by decide) ?_;refine aR ?_;refine (?_:cz _ _ _);refine ag (λe=>?_) λe=>?_
  ·refine (?_:au _ _ _ _ _);refine c8 ?_;refine (?_:bY .abs _ _ _);refine uS ?_;refine bR (x:=2) (by decide) ?_;refine aR ?_;refine (?_:cz _ _ _);refine ag (λe2=>?_) λe2=>?_
   ·refine (?_:au _ _ _ _ _);refine bR (x:=8) (by decide) ?_;refine cC (x:=9) (n8 hw) ?_;refine He (r:=rk) (m:=9-8*az) hN (PF f0) (hNl.trans hl) (hl ▸ ht) ?_;refine (?_:cz _ _ _);refine dd (λe3=>?_) λe3=>?_
    ·refine p_add ?_;refine c9 (y:=2) (by decide) (by decide) ?_;refine to_eq j ?_ rfl;unfold Ae;rw [Po ⟨e,by lia,e3⟩]
    ·exact no λz=>by rw [e3] at z;exact nomatch z.2.2
   ·refine (?_:cz _ _ _);refine ag (λy=>absurd y e2) λ_=>?_;exact no λz=>e2 (by lia)
  ·refine (?_:cz _ _ _);refine ag (λy=>absurd y e) λ_=>?_;exact no λz=>e z.1
 refine (?_:aO _ _ [_,_,_,_,_,_,some (.int (Ae L N f az o t)),_,_,_,_,_,_,_,_,_] _ _);refine dt ‹_› ?_;refine ⟨show 4<=1000 by decide,?_⟩;refine aj ?_
 exact h) ((d,f,o,t),(sp,pf,az,ab),(rk,H,q,L),(x,ep))
end
section
variable {d s c k f r:Nat} {H:Hp} {a:Ad} {G:aE} {R:Rw} {q:V->Hp->Prop} {L:List Nat} {x:Addr}
theorem FU {y:Addr} {l m:List Nat} (h1:H x=some (.list (av l))) (h2:H y=some (.list (av m))) (h:q (.bool (decide (l≠m))) H):bK .ne (.ref x) (.ref y) H q:=
 .mk ⟨.flat (.list h1 (cV _)),.flat (.list h2 (cV _)),by rw [rM,<- decide_not];exact h⟩
theorem tS {m:Nat}:∀{l:List Nat},(l.map Int.ofNat).count (m:Int)=l.count m
 | []=>rfl
 | y::l=>by
  rw [Qs,List.count_cons,List.count_cons,tS,show (Int.ofNat y == (m:Int))=(y == m) by
   rw [Qa,QJ,QJ];exact ⟨λe=>Su e,λe=>congrArg Int.ofNat e⟩]
theorem DX {l:List Nat} {m:Nat} (h1:H x=some (.list (av l))) (h:q (nv (l.count m)) H):kM (.ref x) (nv m) H q:=EH.mk h1 (cV l) (by rw [tS];exact h)
structure ER (G:aE) (R:Rw) (L:List Nat):Prop where
 g:ba G R
 ok:dO G R
 key:R.key=kI G R
 eb:R.ae=L
theorem ER.m (A:ER G R L) (s:Nat):L.getD s 0<15:=by
 have:=A.eb;subst this;by_cases z:bd R s=0
 ·exact Pm (Qt z) (by decide)
 ·exact (A.g.mn s z).1
theorem ER.len (A:ER G R L):L.length=G.size:=A.eb ▸ A.g.bl
theorem ER.whole (A:ER G R L) (g:cq G):R.key=lsum L G.aa R.af R.ab R.ep:=by
 rw [A.key,qJ A.g (Pa QO g.f0) A.ok.i8,A.eb]
def r9:Prop:=∀(w:W H a G R) (g:cq G) (A:ER G R L) (hL:H x=some (.list (av L))) (h:q (.bool true) H),Call (d+3) 105 [.ref a.p,mN x R.af R.ab R.ep,nv G.aa] H q
theorem HE:@r9 d H a G R q L x:=ao (S:=λx:(Nat×Hp×Ad×aE)×(Rw×(V->Hp->Prop)×List Nat×Addr)=>@r9 x.1.1 x.1.2.1 x.1.2.2.1 x.1.2.2.2 x.2.1 x.2.2.1 x.2.2.2.1 x.2.2.2.2) (x:=((0,λ_=>none,jX,bN),(fC,λ_ _=>True,[],0))) (by
 refine (?_:∀d H a G R q L x,@r9 d H a G R q L x) _ _ _ _ _ _ _ _;intro d H a G R q L x w g A hL h;have hm:=A.m;have hl:=A.len;have h25:L.length<=25:=hl ▸ g.iW;have hf:0<G.aa:=Pa QO g.f0
 have hps:∀p,xk G.size p R.ae G.size=zT p L:=λp=>by rw [<- A.eb];exact (zS A.g).symm
 refine ar rfl rfl ?_;refine (?_:aO _ _ [_,_,_,_,_,_,_,_] _ _);refine (?_:aN _ _ _ _);refine dR (i:=0) rfl ?_;refine (?_:aO _ _ [_,_,_,some (.ref x),_,_,_,_] _ _);refine (?_:bY .len _ _ _);refine l6 hL ?_;rw [Ph];refine (?_:aO _ _ [_,_,_,_,some (nv L.length),_,_,_] _ _);refine (?_:Call _ _ _ _ _);refine BN hL hf (Pb g.qu (by decide)) h25 hm A.ok.i8 ?_;rw [<- A.whole g];refine (?_:aO _ _ [_,_,_,_,_,some (nv R.key),_,_] _ _);refine Co H (λK' j=>?_) ?_
 ·refine aI ‹_› rfl ?_;refine FU w.P.bd hL ?_;refine (?_:cz _ _ _);refine ag (λe=>absurd A.eb e) λ_=>?_;refine aI ‹_› rfl ?_;refine ez ?_;refine ag (λe=>absurd rfl e) λ_=>?_;refine (?_:Call _ _ _ _ _);refine Mp w g A.ok ?_;rw [show cU G R ^^^ xk G.size (λm=>decide (m≠0)) R.ae G.size=R.key from A.key.symm];refine (?_:bK _ _ _ _ _);refine ez ?_;refine (?_:cz _ _ _);refine ag (λe=>absurd rfl e) λ_=>?_;exact j
 have elt:∀{Γ:Sg} {ρ:Lc} {i:Nat} {H1:Hp} {Q:V->Hp->Prop},H1 x=some (.list (av L))->i<L.length->Q (nv (2^(L.getD i 0*L.length+i))) H1->bp Γ (.bin .shl (.bB 1) (.bin .add (.bin .mul (.sub (.loc 1) (.loc 0)) (.loc 2)) (.loc 0))) (some (nv i)::some (.ref x)::some (nv L.length)::ρ) H1 Q:=λ{Γ ρ i H1 Q} h1 hi h2=>by
  refine (?_:aN _ _ _ _);refine aU h1 hi ?_;have:=hm i;refine (?_:au _ _ _ _ _);refine bR (by exact Pa ‹_› (by decide)) ?_;refine (?_:au _ _ _ _ _);refine p_add ?_;refine (?_:au _ _ _ _ _);have:L.getD i 0*L.length<=15*25:=Tc (by exact Pw ‹_›) h25;exact b8 (by lia) h2
 refine rh (λρ' H'=>ρ'=[some (.ref a.p),some (mN x R.af R.ab R.ep),some (nv G.aa),some (.ref x),some (nv L.length),some (nv R.key),none,none]/\H.Sub H') (λK' j _ _=>?_) λρ' H' hI=>?_
 ·refine (?_:Call _ _ _ _ _);refine Lo w A.ok ?_;rw [hps];refine (?_:bY .range _ _ _);refine fI (by exact Pb ‹_› (by decide)) ?_;refine (?_:fD _ _ _ _ _ _);refine qx uf (λs=>decide (L.getD s 0%8=1)) (λs=>2^(L.getD s 0*L.length+s)) (by exact Pb ‹_› (by decide)) (λi hi Q h=>?_) (λi hi _ Q h=>elt hL hi h) ?_
  ·refine (?_:aN _ _ _ _);refine aU hL hi ?_;refine (?_:au _ _ _ _ _);refine dS (y:=8) (by decide) ?_;refine (?_:bK _ _ _ _ _);exact aR h
  ·refine new_ (xq (by exact Pb ‹_› (by decide))) λb hb=>?_;refine (?_:bY .sum _ _ _);refine zt (l:=(((List.range L.length).filter λs=>decide (L.getD s 0%8=1)).map λs=>2^(L.getD s 0*L.length+s))) (AA ..) ?_;refine (?_:bK _ _ _ _ _);refine ez ?_;refine (?_:cz _ _ _);refine ag (λe=>absurd rfl e) λ_=>?_;exact j _ _ ⟨rfl,Hp.ax hb⟩
 refine aD hI ?_;rintro rfl s1;refine rh (λρ' H'=>H.Sub H'/\∃u v,ρ'=[some (.ref a.p),some (mN x R.af R.ab R.ep),some (nv G.aa),some (.ref x),some (nv L.length),some (nv R.key),u,v]) (λK' j _ _=>?_) λρ2 H2 hI=>?_
 ·refine ⟨show 2<=1000 by decide,?_⟩;refine (?_:fg _ _ _ _ _ _);refine GO (vs:=[nv 0,nv 1]) (λ_ ρ' H'=>H.Sub H'/\∃u v,ρ'=[some (.ref a.p),some (mN x R.af R.ab R.ep),some (nv G.aa),some (.ref x),some (nv L.length),some (nv R.key),u,v]) (λi v ρ' H' K hv hI hn _ _=>?_) (λρ' H' hI=>j _ _ hI) ⟨s1,_,_,rfl⟩;obtain ⟨s2,u,u',rfl⟩:=hI
  have hv':∃c,v=nv c:=by
   rcases i with _ | _ | i
   ·exact ⟨0,by cases hv;rfl⟩
   ·exact ⟨1,by cases hv;rfl⟩
   ·cases hv
  refine bI hv' ?_;rintro c rfl;have hL2:=s2 _ _ hL;refine (?_:aO _ _ [_,_,_,_,_,_,some (nv c),_] _ _);refine (?_:bY .range _ _ _);refine fI (by exact Pb ‹_› (by decide)) ?_;refine (?_:fD _ _ _ _ _ _);refine qx uf (λs=>decide (1<L.getD s 0%8/\L.getD s 0 / 8=c)) (λs=>2^(L.getD s 0*L.length+s)) (by exact Pb ‹_› (by decide)) (λi hi Q h=>?_) (λi hi _ Q h=>elt hL2 hi h) ?_
  ·refine (?_:aN _ _ _ _);refine aU hL2 hi ?_;refine (?_:au _ _ _ _ _);refine dS (y:=8) (by decide) ?_;refine (?_:bK _ _ _ _ _);refine pv (y:=1) ?_;refine (?_:cz _ _ _);refine ag (λe=>?_) λe=>?_
   ·refine (?_:aN _ _ _ _);refine aU hL2 hi ?_;refine (?_:au _ _ _ _ _);refine c9 (y:=8) (by decide) (by decide) ?_;refine (?_:bK _ _ _ _ _);refine aR ?_;rw [du (show L.getD i 0 / 8=c↔1<L.getD i 0%8/\L.getD i 0 / 8=c from ⟨λz=>⟨e,z⟩,λz=>z.2⟩)];exact h
   ·rw [du (show (1<L.getD i 0%8/\L.getD i 0 / 8=c)↔1<L.getD i 0%8 from ⟨λz=>z.1,λz=>absurd z e⟩)] at h;exact h
  ·refine new_ (xq (by exact Pb ‹_› (by decide))) λb hb=>?_;have s3:H.Sub (H'.upd b (.list (((List.range L.length).filter λs=>decide (1<L.getD s 0%8/\L.getD s 0 / 8=c)).map λs=>nv (2^(L.getD s 0*L.length+s))))):=Hp.Sub.trans s2 (Hp.ax hb);refine (?_:aO _ _ [_,_,_,_,_,_,_,some (.ref b)] _ _);refine (?_:Call _ _ _ _ _);refine Lm (x:=c) (w.mono s3) A.ok ?_;rw [hps];refine (?_:bY .sum _ _ _);refine zt (l:=(((List.range L.length).filter λs=>decide (1<L.getD s 0%8/\L.getD s 0 / 8=c)).map λs=>2^(L.getD s 0*L.length+s))) (AA ..) ?_;refine (?_:bK _ _ _ _ _);refine ez ?_;refine (?_:cz _ _ _);refine ag (λe=>absurd rfl e) λ_=>?_;exact hn _ _ ⟨s3,_,_,rfl⟩
 obtain ⟨s2,u,v,rfl⟩:=hI;have hL2:=s2 _ _ hL;refine (?_:Call _ _ _ _ _);refine Lk (w.mono s2) A.ok ?_;refine (?_:bY .range _ _ _);refine Bh (a:=1) (b:=15) (by decide) (by decide) ?_;refine (?_:fD _ _ _ _ _ _);refine qx (ri (a:=1) (b:=15)) (λ_=>true) (λk=>(2^L.count (1+k) -1) <<< ((1+k)*L.length)) (by decide) (λi hi Q h=>h) (λi hi _ Q h=>?_) ?_
 ·have hc:L.count (1+i)<=25:=Pb List.count_le_length h25;have hp:2^L.count (1+i)<=2^25:=QP (by decide) hc;refine ⟨gJ hL2,?_⟩;refine (?_:kM _ _ _ _);refine DX hL2 ?_;refine (?_:au _ _ _ _ _);refine b8 (by exact Pb ‹_› (by decide)) ?_;refine (?_:au _ _ _ _ _);refine cC (y:=1) (QF _) ?_;refine (?_:au _ _ _ _ _);have:(1+i)*L.length<=15*25:=Tc (by lia) h25;refine bR (by lia) ?_;refine (?_:au _ _ _ _ _);exact gU (by exact Pb ‹_› (by decide)) (by first | exact Pm (QC _ _) (Pm ‹_› (by decide)) | lia) h
 ·refine new_ (xq (by decide)) λb hb=>?_;refine (?_:bY .sum _ _ _);refine zt (l:=(((List.range 14).filter λ_=>true).map λk=>(2^L.count (1+k) -1) <<< ((1+k)*L.length))) (AA ..) ?_;refine (?_:bK _ _ _ _ _);refine aR ?_
  have e:uo G.size R.ae G.size=(((List.range 14).filter λ_=>true).map λk=>(2^L.count (1+k) -1) <<< ((1+k)*L.length)).sum:=by
   rw [<- hl,A.eb,Ac hm (by rw [hl];exact Pa (Pa QO g.f0) (RZ _ (Pa (by decide) g.r0)))];rfl
  rw [Px e]
  exact gr H (Hp.Sub.trans s2 (Hp.ax hb)) h) ((d,H,a,G),(R,q,L,x))
end
def yN (f rk:Nat) (L:List Nat) (az:Nat) (e:Nat):Prop:=f<=e/\e+f<f*rk/\L.getD e 0=0/\L.getD (if az=0 then e-f else e+f) 0=(1-az)*8+1/\e / f=if az=1 then 2 else rk-3
section
variable {d s c k f r az rk:Nat} {H:Hp} {G:aE} {q:V->Hp->Prop} {L:List Nat} {x:Addr}
def sj:Prop:=∀(hL:H x=some (.list (av L))) (hf:0<f) (hf8:f<=25) (hrk:5<=rk) (hrk8:rk<=25) (hl:L.length=f*rk) (hw:az<2) (h:∀e:Int,(e=-1\/∃n:Nat,e=n/\yN f rk L az n)->q (.int e) H),Call (d+2) 100 [.ref x,nv az,nv f,nv rk] H q
theorem HJ:@sj d f az rk H q L x:=ao (S:=λx:(Nat×Nat×Nat×Nat)×(Hp×(V->Hp->Prop)×List Nat×Addr)=>@sj x.1.1 x.1.2.1 x.1.2.2.1 x.1.2.2.2 x.2.1 x.2.2.1 x.2.2.2.1 x.2.2.2.2) (x:=((0,0,0,0),(λ_=>none,λ_ _=>True,[],0))) (by
 refine (?_:∀d f az rk H q L x,@sj d f az rk H q L x) _ _ _ _ _ _ _ _;intro d f az rk H q L x hL hf hf8 hrk hrk8 hl hw h;refine ar rfl rfl ?_;refine (?_:aO _ _ [_,_,_,_,_,_,_] _ _);refine vJ (cR [some (.ref x),some (nv az),some (nv f),some (nv rk),none,none,none] 4 (.int (if az=1 then -(f:Int) else f))) H (λK' j=>?_) ?_
 ·refine aR ?_;refine ag (λe=>?_) λe=>?_
  ·refine eM ?_;exact to_eq j (by rw [Po e]) rfl
  ·exact to_eq j (by rw [Pf e]) rfl
 refine (?_:aO _ _ [_,_,_,_,some (.int (if az=1 then -(f:Int) else f)),_,_] _ _)
 have m1:(if az=1 then 2 else rk-3)*f+2*f<=f*rk:=by
  have:(if az=1 then 2 else rk-3)+2<=rk:=by split<;>first | exact bL ‹_› (by rfl) | exact Fd ‹_›
  have:=P7 f this;rw [Nat.add_mul,Q4 rk] at this;exact this
 have m2:f<=(if az=1 then 2 else rk-3)*f:=SP f (by split<;>first | decide | exact RI (bl ‹_› (by rfl)))
 have m3:(if az=1 then 2 else rk-3)<=25:=by split<;>first | decide | exact sb ‹_› (by rfl)
 have m4:az=1->(if az=1 then 2 else rk-3)=2:=λe=>Po e;have m5:¬az=1->(if az=1 then 2 else rk-3)=rk-3:=λe=>Pf e;generalize hme:(if az=1 then 2 else rk-3)=me at m1 m2 m3 m4 m5;refine rh (λρ' H'=>H'=H/\∃u v,ρ'=[some (.ref x),some (nv az),some (nv f),some (nv rk),some (.int (if az=1 then -(f:Int) else f)),u,v]) (λK1 k1 kr _=>?_) λρ' H' hI=>?_
 ·refine (?_:bY .range _ _ _);refine fI (Pb hf8 (by decide)) ?_;refine (?_:fg _ _ _ _ _ _);refine forR (n:=f) (λi ρ' H'=>H'=H/\∃u v,ρ'=[some (.ref x),some (nv az),some (nv f),some (nv rk),some (.int (if az=1 then -(f:Int) else f)),u,v]) (λi ρ' H' K hi hI hn hr _=>?_) (λρ' H' hI=>k1 _ _ hI) ⟨rfl,_,_,rfl⟩;obtain ⟨rfl,u,v,rfl⟩:=hI;refine (?_:aO _ _ [_,_,_,_,_,some (nv i),_] _ _);refine vJ (cR [some (.ref x),some (nv az),some (nv f),some (nv rk),some (.int (if az=1 then -(f:Int) else f)),some (nv i),v] 6 (nv (me*f+i))) H' (λK' j=>?_) ?_
  ·refine aR ?_;refine ag (λe=>?_) λe=>?_
   ·refine bR (x:=2) (by decide) ?_;refine p_add ?_;exact to_eq j (by rw [m4 e]) rfl
   ·refine cC (y:=3) (Pb (by decide) hrk) ?_;refine bR (Pm (QC _ _) (Pm hrk8 (by decide))) ?_;refine p_add ?_;exact to_eq j (by rw [m5 e]) rfl
  refine (?_:aO _ _ [_,_,_,_,_,_,some (nv (me*f+i))] _ _);have a1:f<=me*f+i:=Pb m2 (PK _ _)
  have a2:me*f+i+f<L.length:=by rw [hl];exact Pa (by rw [Nat.two_mul,Q0];exact Te (Sr hi f) _) m1
  have a3:me*f+i<L.length:=Pm (PK _ _) a2
  have up:∃n:Nat,((me*f+i:Nat):Int)+(if az=1 then -(f:Int) else f)=n/\n<L.length:=by
   by_cases e:az=1
   ·rw [Po e];exact ⟨me*f+i-f,(Int.natCast_sub a1).symm,Pm (QC _ _) a3⟩
   ·rw [Pf e];exact ⟨me*f+i+f,(S7 _ _).symm,a2⟩
  have dn:((me*f+i:Nat):Int) - (if az=1 then -(f:Int) else f)=((if az=0 then me*f+i-f else me*f+i+f:Nat):Int)/\(if az=0 then me*f+i-f else me*f+i+f)<L.length:=by
   by_cases e:az=1
   ·rw [Po e,Pf (by rw [e];decide)];exact ⟨by rw [Int.sub_neg];exact (S7 _ _).symm,a2⟩
   ·rw [Pf e,Po ((fj az hw).resolve_right e)];exact ⟨(Int.natCast_sub a1).symm,Pm (QC _ _) a3⟩
  refine aq up λun hu hul=>?_;refine aD dn λhd hdl=>?_;have no:K .next [some (.ref x),some (nv az),some (nv f),some (nv rk),some (.int (if az=1 then -(f:Int) else f)),some (nv i),some (nv (me*f+i))] H':=hn _ _ ⟨rfl,_,_,rfl⟩;refine aU hL a3 ?_;refine aR ?_;refine (?_:cz _ _ _);refine ag (λe1=>?_) λe1=>?_
  ·refine (?_:au _ _ _ _ _);refine gW ?_;rw [hu];refine (?_:aN _ (nv un) _ _);refine aU hL hul ?_;refine aR ?_;refine (?_:cz _ _ _);refine ag (λe2=>?_) λe2=>?_
   ·refine (?_:au _ _ _ _ _);refine c8 ?_;rw [hd];refine (?_:aN _ (nv _) _ _);refine aU hL hdl ?_;refine bR (x:=8) (by decide) ?_;refine cC (x:=9) (n8 hw) ?_;refine aR ?_;refine (?_:cz _ _ _);refine ag (λe3=>?_) λe3=>?_
    ·refine c8 ?_;rw [hd];refine (?_:au _ _ _ _ _);refine bR (x:=8) (by decide) ?_;refine p_add ?_;refine He (r:=rk) hL hf hl (hl ▸ hdl) ?_;refine (?_:cz _ _ _);refine dd (λe4=>?_) λe4=>?_
     ·refine hr _ _ _ (kr _ _ _ ?_);refine (?_:di _ _ _ _);refine aj (h _ (.inr ⟨_,rfl,a1,hl ▸ a2,e1,?_,?_⟩))
      ·have e3:L.getD (if az=0 then me*f+i-f else me*f+i+f) 0=9-8*az:=e3;rw [e3];exact n9 hw
      ·rw [RA,Nat.add_mul_div_right _ _ hf,SN hi,QL,hme]
     ·exact no
    ·exact no
   ·refine (?_:cz _ _ _);refine ag (λy=>absurd y e2) λ_=>?_;exact no
  ·refine (?_:cz _ _ _);refine ag (λy=>absurd y e1) λ_=>?_;exact no
 obtain ⟨rfl,u,v,rfl⟩:=hI;refine eM ?_;refine aj ?_
 exact h _ (.inl rfl)) ((d,f,az,rk),(H,q,L,x))
end
structure u7 (G:aE) (L:List Nat) (r az k k2:Nat):Prop where
 len:L.length=G.size
 mn:∀s,L.getD s 0≠0->nA (L.getD s 0)
 kg:Kg L az k
 ke:Kg L (1-az) k2
 sf:¬I5 G L az k2 (z6 L)
 i8:r<16
 rt:∀i,r.testBit i=true->∃kf kt rf rt,G.br.getD i none=some (kf,kt,rf,rt)/\L.getD kf 0=i / 2*8+6/\L.getD rf 0=i / 2*8+4
noncomputable def AK (G:aE) (L:List Nat) (r az k k2:Nat):Bool:=
 decide (L.length=G.size/\r<16/\L.getD k 0=az*8+6/\L.getD k2 0=(1-az)*8+6) && cM G.size (λs=>decide ((L.getD s 0≠0->L.getD s 0<15/\1<=L.getD s 0%8/\L.getD s 0%8<=6)/\(L.getD s 0=az*8+6->s=k)/\(L.getD s 0=(1-az)*8+6->s=k2))) &&
 cM G.size (λx=>!(decide (L.getD x 0≠0/\L.getD x 0 / 8=az) && rel G az (L.getD x 0%8) x k2 && decide (a7 G x k2 &&& z6 L=0))) &&
 cM 4 λi=>!r.testBit i || match G.br.getD i none with
  | none=>false
  | some (kf,_,rf,_)=>decide (L.getD kf 0=i / 2*8+6/\L.getD rf 0=i / 2*8+4)
def mh {G:aE} {L:List Nat} {r az k k2:Nat}:Prop:=∀(h:AK G L r az k k2=true),u7 G L r az k k2
theorem tM {G:aE} {L:List Nat} {r az k k2:Nat}:@mh G L r az k k2:=ao (S:=λx:(aE×List Nat×Nat×Nat)×(Nat×Nat)=>@mh x.1.1 x.1.2.1 x.1.2.2.1 x.1.2.2.2 x.2.1 x.2.2) (x:=((bN,[],0,0),(0,0))) (by
 refine (?_:∀G L r az k k2,@mh G L r az k k2) _ _ _ _ _ _;intro G L r az k k2 h;unfold AK at h;rw [Pe,Pe,Pe] at h;refine aD h ?_;rintro ⟨⟨h1,h2⟩,h3⟩ h4;refine rR (Pj h1) λa1 a2 a3 a4=>?_
 have hs:∀{s},L.getD s 0≠0->s<G.size:=λ{s} hs=>by
  rcases PG s G.size with q | q
  ·exact q
  ·exact absurd (hM (a1 ▸ q)) hs
 have sq:∀{s},L.getD s 0≠0->_:=λ{s} z=>Pj (aK h2 (hs z));refine ⟨a1,λs z=>(sq z).1 z,⟨a3,λs z=>(sq (s:=s) (by exact rC ‹_›)).2.1 z⟩,⟨a4,λs z=>(sq (s:=s) (by exact rC ‹_›)).2.2 z⟩,?_,a2,λi hi=>?_⟩
 ·rintro ⟨x,b1,b2,b3,b4⟩;have:=aK h3 (hs b1);rw [Px (And.intro b1 b2),b3,Px b4] at this;cases this
 ·have:=hG (aK h4 (dD (n:=4) a2 hi)) hi
  cases e:G.br.getD i none with
  | none=>rw [e] at this;cases this
  | some w=>
   obtain ⟨kf,kt,rf,rt⟩:=w;rw [e] at this
   exact ⟨kf,kt,rf,rt,rfl,Pj this⟩) ((G,L,r,az),(k,k2))
noncomputable def kl (f sz rr:Nat):Nat->List Nat
 | 0=>((List.replicate sz 0).set (f / 2) 6).set (sz-f+f / 2) 14
 | i+1=>if rr.testBit i=true then (kl f sz rr i).set (i / 2*(sz-f)+if i%2=1 then 0 else f-1) (i / 2*8+4) else kl f sz rr i
theorem JL:cM 16 (λrr=>AK kz (kl 7 21 rr 4) rr 0 3 17 && AK kz (kl 7 21 rr 4) rr 1 17 3)=true:=by decide +kernel
theorem oU {f sz rr:Nat}:∀{i:Nat},(kl f sz rr i).length=sz
 | 0=>by unfold kl;rw [Pq,Pq,P6]
 | i+1=>by
  unfold kl;split
  ·rw [Pq,oU]
  ·exact oU
noncomputable def AG (f s g:Nat):Bool:=decide (1<n1 f s g)
noncomputable def zj (G:aE):Bool:=cM G.size λs=>(cM G.size λg=>!AG G.aa s g || (!(G.cv.getD s 0).testBit g && !(G.cv.getD g 0).testBit s && decide (s≠g))) && !cM G.size λg=>!AG G.aa s g
theorem GS:zj mI=true:=by decide +kernel
theorem GQ:zj kz=true:=by decide +kernel
theorem GR:zj mH=true:=by decide +kernel
section
variable {d s g c k k2 f r az rk v:Nat} {H:Hp} {G:aE} {q:V->Hp->Prop} {L:List Nat} {x:Addr}
theorem xu (B:BG G) (hs:s<G.size):(∀g,g<G.size->AG G.aa s g=true->(¬(G.cv.getD s 0).testBit g=true/\¬(G.cv.getD g 0).testBit s=true)/\s≠g)/\∃g,g<G.size/\AG G.aa s g=true:=by
 have h:=aK (tab (f:=zj) GS GQ GR B) hs;rw [Pe] at h;refine ⟨λg hg z=>?_,?_⟩
 ·have:=hG (aK h.1 hg) z;rw [Pe,Pe,P4,P4] at this;exact ⟨⟨by rw [this.1.1];exact Ti,by rw [this.1.2];exact Ti⟩,Pj this.2⟩
 ·refine Classical.byContradiction λz=>?_;have h2:=h.2
  rw [show (cM G.size λg=>!AG G.aa s g)=true from Pp.mpr λg hg=>by
   cases e:AG G.aa s g with
   | false=>rfl
   | true=>exact absurd ⟨g,Rf.mp hg,e⟩ z] at h2
  cases h2
def iG:Prop:=∀(B:BG G) (hs:s<G.size) (hg:g<G.size) (hf:AG G.aa s g=true) (hw:az<2),∃k k2,u7 G (((List.replicate G.size 0).set s 6).set g 14) 0 az k k2
theorem ub:@iG s g az G:=ao (S:=λx:Nat×Nat×Nat×aE=>@iG x.1 x.2.1 x.2.2.1 x.2.2.2) (x:=(0,0,0,bN)) (by
 refine (?_:∀s g az G,@iG s g az G) _ _ _ _;intro s g az G B hs hg hf hw;refine aD ((xu B hs).1 g hg hf) ?_;rintro ⟨n1,n2⟩ ne
 have at_:∀y,(((List.replicate G.size 0).set s 6).set g 14).getD y 0=if y=g then 14 else if y=s then 6 else 0:=λy=>by
  have hl:(List.replicate G.size 0).length=G.size:=P6;rw [gs (ls hl) hg,gs hl hs];split
  ·rfl
  ·split
   ·rfl
   ·rw [Pc,Q1];split<;>rfl
 have hgs:(((List.replicate G.size 0).set s 6).set g 14).getD s 0=6:=by rw [at_,Pf ne,Po rfl]
 have hgg:(((List.replicate G.size 0).set s 6).set g 14).getD g 0=14:=by rw [at_,Po rfl]
 have h6:∀y,(((List.replicate G.size 0).set s 6).set g 14).getD y 0=6->y=s:=λy h=>by
  rw [at_] at h;split at h
  ·exact nomatch h
  ·split at h
   ·assumption
   ·exact nomatch h
 have h14:∀y,(((List.replicate G.size 0).set s 6).set g 14).getD y 0=14->y=g:=λy h=>by
  rw [at_] at h;split at h
  ·assumption
  ·split at h<;>exact nomatch h
 have hn:∀y,(((List.replicate G.size 0).set s 6).set g 14).getD y 0≠0->(((List.replicate G.size 0).set s 6).set g 14).getD y 0=6\/(((List.replicate G.size 0).set s 6).set g 14).getD y 0=14:=λy h=>by
  rw [at_] at h ⊢;split
  ·exact .inr rfl
  ·rename_i z;rw [Pf z] at h;split
   ·exact .inl rfl
   ·rename_i z2;rw [Pf z2] at h;exact absurd rfl h
 have len:(((List.replicate G.size 0).set s 6).set g 14).length=G.size:=ls (ls P6)
 have mn:∀y,(((List.replicate G.size 0).set s 6).set g 14).getD y 0≠0->nA ((((List.replicate G.size 0).set s 6).set g 14).getD y 0):=λy h=>by
  rcases hn y h with e | e<;>rw [e]
  ·exact ⟨by decide,by decide,by decide⟩
  ·exact ⟨by decide,by decide,by decide⟩
 have rt:∀i,(0:Nat).testBit i=true->∃kf kt rf rt,G.br.getD i none=some (kf,kt,rf,rt)/\(((List.replicate G.size 0).set s 6).set g 14).getD kf 0=i / 2*8+6/\(((List.replicate G.size 0).set s 6).set g 14).getD rf 0=i / 2*8+4:=λi h=>by rw [Py] at h;cases h
 match az,hw with
 | 0,_=>
  refine ⟨s,g,len,mn,⟨hgs,h6⟩,⟨hgg,h14⟩,?_,by decide,rt⟩;rintro ⟨y,b1,b2,b3,_⟩;rcases hn y b1 with e | e
  ·rw [e,h6 y e] at b3;exact n1 b3
  ·rw [e] at b2;exact nomatch b2
 | 1,_=>
  refine ⟨g,s,len,mn,⟨hgg,h14⟩,⟨hgs,h6⟩,?_,by decide,rt⟩;rintro ⟨y,b1,b2,b3,_⟩;rcases hn y b1 with e | e
  ·rw [e] at b2;exact nomatch b2
  ·rw [e,h14 y e] at b3;exact n2 b3) (s,g,az,G)
theorem fO {x:Int} {y:Nat} (h0:y≠0) (h:∀m,m<y->(m:Int)=x%(y:Int)->q (nv m) H):au .mod (.int x) (nv y) H q:=by
 refine eU.int ?_;refine ⟨by exact pz ‹_›,?_⟩;show q (.int (x.fmod (y:Int))) H;rw [Int.fmod_eq_emod_of_nonneg _ (PI y)];have h1:0<=x%(y:Int):=Int.emod_nonneg _ (by exact pz ‹_›);refine bI (Q2 h1) λm hm=>?_;have h2:x%(y:Int)<y:=Int.emod_lt_of_pos _ (by exact p0 ‹_›);rw [hm] at h2 ⊢;exact h m (by exact Qd.mp ‹_›) hm.symm
end
section
variable {d s g c k k2 f r az rk v:Nat} {H:Hp} {G:aE} {q:V->Hp->Prop} {L:List Nat} {x:Addr}
theorem JF {a b:Nat} (h:q (nv (max a b)) H):bY .max [nv a,nv b] H q:=by
 refine mC.max ?_;show q (.int (max (a:Int) (b:Int))) H;rw [show max (a:Int) (b:Int)=((max a b:Nat):Int) from by first | exact (Int.natCast_max _ _).symm | exact (Int.ofNat_max _ _).symm | exact Int.ofNat_max _ _ | lia];exact h
theorem BY {n:Nat} {y:Addr} (h1:H y=some (.list [.int 0])) (hn:n<=1000) (h:∀a,H a=none->q (.ref a) (H.out a (List.replicate n 0))):au .mul (.ref y) (nv n) H q:=by
 refine ti h1 hn ?_;refine new_ (by rw [P6];show n<=1000000;exact Pb ‹_› (by decide)) λa ha=>?_;rw [show List.replicate n (V.int 0)=av (List.replicate n 0) from by rw [av,SA];rfl];exact h a ha
def si {is:List Int} {sc:Addr}:Prop:=∀(hsc:H sc=some (.list (is.map .int))) (B:BG G) (h:∀b L r,H b=none->(∀az,az<2->∃k k2,u7 G L r az k k2)->q (.tup [.ref b,nv r]) (H.out b L)),Call (d+2) 101 [.ref sc,nv G.aa,nv G.bD,.bool G.gH] H q
theorem HI {is:List Int} {sc:Addr}:@si d H G q is sc:=ao (S:=λx:(Nat×Hp×aE×(V->Hp->Prop))×(List Int×Addr)=>@si x.1.1 x.1.2.1 x.1.2.2.1 x.1.2.2.2 x.2.1 x.2.2) (x:=((0,λ_=>none,bN,λ_ _=>True),([],0))) (by
 refine (?_:∀d H G q is sc,@si d H G q is sc) _ _ _ _ _ _;intro d H G q is sc hsc B h;have g:=B.ok;have h25:=g.iW;have f0:=g.f0;have r0:=g.r0;have qu:=g.qu;have sz:G.aa*G.bD=G.size:=rfl;have fsz:G.aa<=G.size:=RZ _ (by exact Q5 ‹_›)
 have s0:G.size≠0:=by lia
 refine ar rfl rfl ?_;refine (?_:aO _ _ [_,_,_,_,_,_,_,_,_,_,_,_] _ _);refine bR (by exact LF ‹_› ‹_› (by rfl)) ?_;rw [sz];refine (?_:aO _ _ [_,_,_,_,some (nv G.size),_,_,_,_,_,_,_] _ _);refine new_ (show 1<=1000000 by decide) λb1 hb1=>?_;refine (?_:au _ _ _ _ _);refine BY (Hp.ai ..) (by exact Pb ‹_› (by decide)) λb hb=>?_;refine aD (Hp.none_of hb) λhbb hbn=>?_;have fin:∀L' r' ρ',(∀az,az<2->∃k k2,u7 G L' r' az k k2)->di q (.ret (.tup [.ref b,nv r'])) ρ' ((H.upd b1 (.list [.int 0])).out b L'):=λL' r' ρ' z=>gr (H.out b L') (i3 (Hp.ax hb1) L') (h b L' r' hbn z);refine (?_:aO _ _ [_,_,_,_,_,some (.ref b),_,_,_,_,_,_] ((H.upd b1 (.list [.int 0])).out b (List.replicate G.size 0)) _);have esc:((H.upd b1 (.list [.int 0])).out b (List.replicate G.size 0)) sc=_:=Hp.ax (H:=H.upd b1 (.list [.int 0])) (a:=b) (o:=.list (av (List.replicate G.size 0))) hb _ _ (Hp.ax hb1 _ _ hsc);generalize H.upd b1 (.list [.int 0])=H1 at fin esc ⊢;generalize di q=K0 at fin ⊢;refine (?_:Call _ _ _ _ _);refine AQ (k:=1) esc ?_;generalize sat is 1=N;refine (?_:aO _ _ [_,_,_,_,_,_,some (.int N),some (nv 0),_,_,_,_] _ _);refine rh (λρ' H'=>ρ'=[some (.ref sc),some (nv G.aa),some (nv G.bD),some (.bool G.gH),some (nv G.size),some (.ref b),some (.int N),some (nv 0),none,none,none,none]/\H'=H1.out b (List.replicate G.size 0)) (λK' j kr _=>?_) λρ' H' hI=>?_
 ·refine (?_:cz _ _ _);refine dd (λe=>?_) λe=>?_
  ·have e73:G=kz:=by
    rcases B with z | z | z
    ·rw [z] at e;exact nomatch e
    ·exact z
    ·rw [z] at e;exact nomatch e
   refine (?_:au _ _ _ _ _);refine fO (y:=2) (by decide) λm _ _=>?_;refine (?_:bK _ _ _ _ _);refine aR ?_;refine (?_:cz _ _ _);refine ag (λ_=>?_) λ_=>j _ _ ⟨rfl,rfl⟩;refine (?_:aO _ _ [_,_,_,_,_,_,_,_,_,_,_,_] _ _);refine (?_:au _ _ _ _ _);refine c9 (y:=2) (by decide) (by decide) ?_;refine (?_:bT _ _ (nv 6) _ _);refine eW (by rw [P6];lia) ?_;refine (?_:aO _ _ [_,_,_,_,_,_,_,_,_,_,_,_] _ _);refine (?_:au _ _ _ _ _);refine cC fsz ?_;refine (?_:au _ _ _ _ _);refine c9 (y:=2) (by decide) (by decide) ?_;refine (?_:au _ _ _ _ _);refine p_add ?_;refine (?_:bT _ _ (nv 14) _ _);refine eW (by rw [Pq,P6];lia) ?_;refine (?_:aO _ _ [_,_,_,_,_,_,_,_,_,_,_,_] _ _);refine (?_:au _ _ _ _ _);refine jJ (y:=2) (by decide) (by decide) ?_;refine (?_:au _ _ _ _ _);refine fO (y:=16) (by decide) λrr hr _=>?_;refine (?_:aO _ _ [_,_,_,_,_,_,_,some (nv rr),_,_,_,_] (H1.out b (kl G.aa G.size rr 0)) _);refine rh (λρ' H'=>H'=H1.out b (kl G.aa G.size rr 4)/\∃u,ρ'=[some (.ref sc),some (nv G.aa),some (nv G.bD),some (.bool G.gH),some (nv G.size),some (.ref b),some (.int N),some (nv rr),u,none,none,none]) (λK2 j2 _ _=>?_) λρ' H' hI=>?_
   ·refine (?_:bY .range _ _ _);refine fI (n:=4) (by decide) ?_;refine (?_:fg _ _ _ _ _ _);refine forR (n:=4) (λi ρ' H'=>H'=H1.out b (kl G.aa G.size rr i)/\∃u,ρ'=[some (.ref sc),some (nv G.aa),some (nv G.bD),some (.bool G.gH),some (nv G.size),some (.ref b),some (.int N),some (nv rr),u,none,none,none]) (λi ρ' H' K hi hI hn _ _=>?_) (λρ' H' hI=>j2 _ _ hI) ⟨rfl,_,rfl⟩;obtain ⟨rfl,u,rfl⟩:=hI;refine (?_:aO _ _ [_,_,_,_,_,_,_,_,some (nv i),_,_,_] _ _);refine cN ?_;refine aS ?_;refine dG (λe1=>?_) λe1=>?_
    ·have i2:i / 2<2:=QQ hi
     have first:i / 2*(G.size-G.aa)+G.aa<=G.size:=by
      have:=P7 (G.size-G.aa) (PX i2);lia
     have yes:kl G.aa G.size rr (i+1)=(kl G.aa G.size rr i).set (i / 2*(G.size-G.aa)+if i%2=1 then 0 else G.aa-1) (i / 2*8+4):=by rw [kl,Po (j7.mp e1)]
     refine c9 (y:=2) (by decide) (by decide) ?_;refine bR (y:=8) (by exact Pa ‹_› (by decide)) ?_;refine p_add ?_;refine c9 (y:=2) (by decide) (by decide) ?_;refine cC fsz ?_;refine bR (by exact Pa ‹_› (by decide)) ?_;refine dS (y:=2) (by decide) ?_;refine aR ?_;refine ag (λe2=>?_) λe2=>?_
     ·refine p_add ?_;refine eW (i:=i / 2*(G.size-G.aa)+0) (by rw [oU];lia) ?_;exact hn _ _ ⟨by rw [yes,Po e2],_,rfl⟩
     ·refine cC (y:=1) (by exact Pw ‹_›) ?_;refine p_add ?_;refine eW (by rw [oU];lia) ?_;exact hn _ _ ⟨by rw [yes,Pf e2],_,rfl⟩
    ·exact hn _ _ ⟨by rw [kl,Pf λz=>j7.mpr z e1],_,rfl⟩
   obtain ⟨rfl,u,rfl⟩:=hI;refine ⟨show 2<=1000 by decide,?_⟩;refine kr _ _ _ (fin _ _ _ λaz hw=>?_);subst e73;have:=aK JL hr;rw [Pe] at this
   match az,hw with
   | 0,_=>exact ⟨_,_,tM this.1⟩
   | 1,_=>exact ⟨_,_,tM this.2⟩
  ·refine (?_:cz _ _ _);refine dd (λz=>absurd (z.symm.trans e) (by decide)) λ_=>?_;exact j _ _ ⟨rfl,rfl⟩
 refine aD hI ?_;rintro rfl rfl;refine (?_:au _ _ _ _ _);refine fO s0 λhm hm1 _=>?_;refine (?_:aO _ _ [_,_,_,_,_,_,_,_,_,some (nv hm),_,_] _ _);refine (?_:bT _ _ (nv 6) _ _);refine eW (by rw [P6];exact hm1) ?_;refine (?_:aO _ _ [_,_,_,_,_,_,_,_,_,_,_,_] _ _);refine rh (λ_ _=>False) (λK' j kr _=>?_) λρ' H' hI=>hI.elim;refine (?_:bY .range _ _ _);refine fI (by exact Pb ‹_› (by decide)) ?_;refine (?_:fg _ _ _ _ _ _);refine forR (n:=G.size) (λi ρ' H'=>(∀j,j<i->∀m,m<G.size->(m:Int)=(N.fdiv G.size+(j:Int))%(G.size:Int)->¬AG G.aa hm m=true)/\H'=H1.out b ((List.replicate G.size 0).set hm 6)/\∃u v,ρ'=[some (.ref sc),some (nv G.aa),some (nv G.bD),some (.bool G.gH),some (nv G.size),some (.ref b),some (.int N),some (nv 0),none,some (nv hm),u,v]) (λi ρ' H' K hi hI hn hr _=>?_) (λρ' H' hI=>?_) ⟨λj z=>absurd z (Qu _),rfl,_,_,rfl⟩
 ·obtain ⟨hno,rfl,u,v,rfl⟩:=hI;refine (?_:aO _ _ [_,_,_,_,_,_,_,_,_,_,some (nv i),_] _ _);refine (?_:au _ _ _ _ _);refine jJ s0 (by exact Pm ‹_› (by decide)) ?_;refine (?_:au _ _ _ _ _);refine gW ?_;refine (?_:au _ _ _ _ _);refine fO s0 λm hm2 hme=>?_;refine (?_:aO _ _ [_,_,_,_,_,_,_,_,_,_,_,some (nv m)] _ _);refine (?_:au _ _ _ _ _);refine dS (by exact Qo ‹_›) ?_;refine (?_:au _ _ _ _ _);refine dS (by exact Qo ‹_›) ?_;refine (?_:au _ _ _ _ _);refine c8 ?_;refine (?_:bY .abs _ _ _);refine uS ?_;refine (?_:au _ _ _ _ _);refine c9 (by exact Qo ‹_›) (by exact LF ‹_› ‹_› (by rfl)) ?_;refine (?_:au _ _ _ _ _);refine c9 (by exact Qo ‹_›) (by exact LF ‹_› ‹_› (by rfl)) ?_;refine (?_:au _ _ _ _ _);refine c8 ?_;refine (?_:bY .abs _ _ _);refine uS ?_;refine (?_:bY .max _ _ _);refine JF ?_;refine (?_:bK _ _ _ _ _);refine pv (y:=1) ?_;refine (?_:cz _ _ _);refine ag (λe=>?_) λe=>?_
  ·have hf:AG G.aa hm m=true:=by
    refine Px ?_;exact e
   refine (?_:aO _ _ [_,_,_,_,_,_,_,_,_,_,_,_] _ _);refine (?_:bT _ _ (nv 14) _ _);refine eW (by rw [Pq,P6];exact hm2) ?_;refine ⟨show 2<=1000 by decide,?_⟩;refine hr _ _ _ (kr _ _ _ (fin _ _ _ λaz hw=>?_));exact ub B hm1 hm2 hf hw
  ·refine hn _ _ ⟨λj hj m' hm' hme'=>?_,rfl,_,_,rfl⟩;rcases Rp.mp hj with z | z
   ·exact hno j z m' hm' hme'
   ·subst z;have:m'=m:=Su (hme'.trans hme.symm);rw [this];exact λz=>e (Pj z)
 ·exfalso;refine aq ((xu B hm1).2) λm hm2 hf=>?_;have hj0:0<=((m:Int) -N.fdiv G.size)%(G.size:Int):=Int.emod_nonneg _ (by exact pz ‹_›);have hj1:((m:Int) -N.fdiv G.size)%(G.size:Int)<G.size:=Int.emod_lt_of_pos _ (by exact p0 ‹_›);refine bI (Q2 hj0) λjn hjn=>?_;refine hI.1 jn (by lia) m hm2 ?_ hf;rw [show (jn:Int)=((m:Int) -N.fdiv G.size)%(G.size:Int) from hjn.symm,Int.add_emod,Int.emod_emod,<- Int.add_emod,show N.fdiv (G.size:Int)+((m:Int) -N.fdiv G.size)=m by lia]
  exact (Int.emod_eq_of_lt (PI m) (by exact Qd.mpr ‹_›)).symm) ((d,H,G,q),(is,sc))
end
section
variable {d s g c k k2 f r az rk v:Nat} {H:Hp} {G:aE} {q:V->Hp->Prop} {L:List Nat} {x:Addr}
theorem u7.add (D:u7 G L r az k k2) (hs:s<G.size) (h0:L.getD s 0=0) (h15:v<15) (h1:1<=v%8) (h5:v%8<=5) (hh:v / 8=az->¬(rel G az (v%8) s k2=true/\a7 G s k2 &&& z6 (L.set s v)=0)):u7 G (L.set s v) r az k k2:=by
 have at_:∀y,(L.set s v).getD y 0=if y=s then v else L.getD y 0:=λy=>gs D.len hs
 have ne:∀{y},L.getD y 0≠0->(L.set s v).getD y 0=L.getD y 0:=λ{y} h=>by
  rw [at_,Pf (show ¬y=s from λz=>h (z ▸ h0))]
 have un:∀{w y kk},Kg L w kk->(L.set s v).getD y 0=w*8+6->y=kk:=λ{w y kk} K h=>by
  rw [at_] at h;split at h
  ·lia
  ·exact K.un y h
 have kk:∀{w kk},Kg L w kk->Kg (L.set s v) w kk:=λ{w kk} K=>⟨by rw [ne (by rw [K.at_];exact kx)];exact K.at_,λy h=>un K h⟩;refine ⟨ls D.len,λy h=>?_,kk D.kg,kk D.ke,?_,D.i8,λi hi=>?_⟩
 ·rw [at_] at h ⊢;split
  ·exact ⟨h15,h1,SG h5⟩
  ·rename_i z;rw [Pf z] at h;exact D.mn y h
 ·rintro ⟨y,b1,b2,b3,b4⟩;by_cases z:y=s
  ·have:(L.set s v).getD y 0=v:=by rw [at_,Po z]
   rw [this] at b2 b3;rw [z] at b3 b4;exact hh b2 ⟨b3,b4⟩
  ·have:(L.set s v).getD y 0=L.getD y 0:=by rw [at_,Pf z]
   rw [this] at b1 b2 b3;refine D.sf ⟨y,b1,b2,b3,j4.mpr λi h1 h2=>j4.mp b4 i h1 (lu.mpr ?_)⟩;have h2:=lu.mp h2;rw [ne h2];exact h2
 ·refine mR (D.rt i hi) λkf kt rf rt e e1 e2=>?_;exact ⟨kf,kt,rf,rt,e,by rw [ne (by exact rC ‹_›)];exact e1,by rw [ne (by exact rC ‹_›)];exact e2⟩
theorem DL {l:List Nat} {m:Nat} (h1:H x=some (.list (av l))) (hm:m∈l) (hl:l.length<=100) (hy:∀y∈l,y<100) (h:q (nv (l.idxOf m)) H):kL (.ref x) (nv m) H q:=by
 have e:∀{l:List Nat},(l.map Int.ofNat).idxOf (m:Int)=l.idxOf m:=by
  intro l
  induction l with
  | nil=>rfl
  | cons y l ih=>
   rw [Qs,List.idxOf_cons,List.idxOf_cons,ih,show (Int.ofNat y == (m:Int))=(y == m) by
    rw [Qa,QJ,QJ];exact ⟨λe=>Su e,λe=>congrArg Int.ofNat e⟩]
 refine EG.mk h1 (cV l) (Rc.mpr ⟨m,hm,rfl⟩) (by rw [Ph];exact hl) (λy h=>?_) (by rw [e];exact h);refine aq (Rc.mp h) ?_;rintro z hz rfl;have:=hy z hz;exact ⟨PI z,Int.ofNat_lt.mpr this⟩
theorem Kg.idx (K:Kg L c k):c*8+6∈L/\L.idxOf (c*8+6)=k:=by
 have hk:k<L.length:=by
  rcases PG k L.length with q | q
  ·exact q
  ·have:=K.at_;rw [hM q] at this;exact absurd (Eq.symm ‹_›) kx
 have hm:c*8+6∈L:=by
  have:=K.at_;rw [Pc,Pk hk] at this;exact this ▸ Rb hk
 refine ⟨hm,K.un _ ?_⟩;have hi:=List.idxOf_lt_length_of_mem hm;rw [Pc,Pk hi];exact List.getElem_idxOf hi
theorem J0 {a b c:Nat} (h:∀z,q (.bool z) H):bK .inn (nv c) (.tup [nv a,nv b]) H q:=.mk (.mk (.tup rfl) (h _))
theorem Fq {vs:List V} {a b:Nat} (h1:H x=some (.list vs)) (hab:a<=b) (hb:b<=1000) (h:c7 ((vs.take b).drop a) H q):dX (.ref x) (nv a) (nv b) H q:=by
 exact iT.ref h1 (.mid ⟨PI a,Qd.mpr hab,by show (b:Int)<=1000000;exact Rq (Qd.mpr ‹_›) (by decide)⟩ h)
def sg {is:List Int} {sc:Addr}:Prop:=∀(hsc:H sc=some (.list (is.map .int))) (B:BG G) (h:∀b L az r (ep:Int) k k2,H b=none->az<2->u7 G L r az k k2->(ep=-1\/∃n:Nat,ep=n/\yN G.aa G.bD L az n)->q (mN b az r ep) (H.out b L)),Call (d+3) 102 [.ref sc,nv G.aa,nv G.bD,.bool G.dbl,.bool G.gH] H q
theorem HH {is:List Int} {sc:Addr}:@sg d H G q is sc:=ao (S:=λx:(Nat×Hp×aE×(V->Hp->Prop))×(List Int×Addr)=>@sg x.1.1 x.1.2.1 x.1.2.2.1 x.1.2.2.2 x.2.1 x.2.2) (x:=((0,λ_=>none,bN,λ_ _=>True),([],0))) (by
 refine (?_:∀d H G q is sc,@sg d H G q is sc) _ _ _ _ _ _;intro d H G q is sc hsc B h;have g:=B.ok;have h25:=g.iW;have f0:=g.f0;have r0:=g.r0;have qu:=g.qu;have sz:G.aa*G.bD=G.size:=rfl;have s0:G.size≠0:=P5 (Pa (by exact Pw ‹_›) (RZ G.aa (show 0<G.bD by exact Q5 ‹_›)));refine ar rfl rfl ?_;refine (?_:aO _ _ [_,_,_,_,_,_,_,_,_,_,_,_,_,_] _ _);refine (?_:au _ _ _ _ _);refine bR (by exact Pm ‹_› (by decide)) ?_;rw [sz];refine (?_:aO _ _ [_,_,_,_,_,some (nv G.size),_,_,_,_,_,_,_,_] _ _);refine (?_:Call _ _ _ _ _);refine HI hsc B λb L0 r hb hD=>?_;have hsb:sc≠b:=Hp.dJ hsc hb;have esc:∀L,(H.out b L) sc=some (.list (is.map .int)):=λL=>(Hp.ay hsb).trans hsc;refine (?_:tupK _ _ _ _);refine mM rfl ?_;refine (?_:aO _ _ [_,_,_,_,_,_,some (.ref b),some (nv r),_,_,_,_,_,_] _ _);refine (?_:Call _ _ _ _ _);refine AQ (k:=2) (esc _) ?_;refine (?_:au _ _ _ _ _);refine fO (y:=2) (by decide) λaz hw _=>?_;refine (?_:aO _ _ [_,_,_,_,_,_,_,_,some (nv az),_,_,_,_,_] _ _);refine AJ (hD az hw) λk k2 hD=>?_;refine rh (λρ' H'=>∃L H1 u1 u2 u3 u4 u5,H.Sub H1/\H1 b=none/\H'=H1.out b L/\u7 G L r az k k2/\ρ'=[some (.ref sc),some (nv G.aa),some (nv G.bD),some (.bool G.dbl),some (.bool G.gH),some (nv G.size),some (.ref b),some (nv r),some (nv az),u1,u2,u3,u4,u5]) (λK1 k1 kr _=>?_) λρ' H' hI=>?_
 ·refine (?_:dX _ _ _ _ _);refine Fq (a:=3) (b:=7) (esc _) (by decide) (by decide) ?_;refine new_ (by rw [Sp,RT];exact Pb (QC _ _) (Pb (SX _ _) (by decide))) λb3 hb3=>?_;refine aD (Hp.none_of hb3) λhbb hbn=>?_
  have hL:∀i v,(((is.map V.int).take 7).drop 3)[i]?=some v->∃n:Int,v=V.int n:=λi v e=>by
   have:=RM (S9 (PY e));refine aq (Rc.mp this) ?_;rintro n _ rfl;exact ⟨n,rfl⟩
  generalize ((is.map V.int).take 7).drop 3=vs at hL ⊢;have hc:∀L,(H.out b L).upd b3 (.list vs)=(H.upd b3 (.list vs)).out b L:=λL=>Hp.bt _ _ _ (Ne.symm hbb);rw [hc];have s1:H.Sub (H.upd b3 (.list vs)):=Hp.ax hbn;have hb1:(H.upd b3 (.list vs)) b=none:=(Hp.ay (Ne.symm hbb)).trans hb;have e3:∀L,((H.upd b3 (.list vs)).out b L) b3=some (.list vs):=λL=>(Hp.ay hbb).trans (Hp.ai ..);generalize H.upd b3 (.list vs)=H1 at s1 hb1 e3 ⊢;refine (?_:fg _ _ _ _ _ _);refine forL (e3 _) (λ_ ρ' H'=>∃L u1 u2 u3 u4 u5,H'=H1.out b L/\u7 G L r az k k2/\ρ'=[some (.ref sc),some (nv G.aa),some (nv G.bD),some (.bool G.dbl),some (.bool G.gH),some (nv G.size),some (.ref b),some (nv r),some (nv az),u1,u2,u3,u4,u5]) (λi v ρ' H' K hv hI hn hr _=>?_) (λρ' H' hI=>?_) ⟨L0,_,_,_,_,_,rfl,hD,rfl⟩
  ·obtain ⟨L,u1,u2,u3,u4,u5,rfl,D,rfl⟩:=hI;refine bI (hL i v hv) ?_;rintro n rfl;refine ⟨e3 L,?_⟩;have e6:(H1.out b L) b=some (.list (av L)):=Hp.ai ..;refine (?_:aO _ _ [_,_,_,_,_,_,_,_,_,some (.int n),_,_,_,_] _ _);refine (?_:au _ _ _ _ _);refine fO s0 λsq hsq _=>?_;refine (?_:aO _ _ [_,_,_,_,_,_,_,_,_,_,some (nv sq),_,_,_] _ _);refine (?_:au _ _ _ _ _);refine jJ s0 (by exact Pm ‹_› (by decide)) ?_;refine (?_:au _ _ _ _ _);refine fO (y:=10) (by decide) λcd hcd _=>?_;refine (?_:aO _ _ [_,_,_,_,_,_,_,_,_,_,_,some (nv cd),_,_] _ _);refine (?_:au _ _ _ _ _);refine c9 (by exact Qo ‹_›) (by exact Pm ‹_› (by decide)) ?_;refine (?_:au _ _ _ _ _);refine cC (y:=1) (by exact Q5 ‹_›) ?_;refine ⟨show 2<=1000 by decide,?_⟩;refine (?_:bK _ (nv _) (.tup [nv 0,nv (G.bD-1)]) _ _);refine J0 λot=>?_;refine (?_:aO _ _ [_,_,_,_,_,_,_,_,_,_,_,_,some (.bool ot),_] _ _);have no:K .next [some (.ref sc),some (nv G.aa),some (nv G.bD),some (.bool G.dbl),some (.bool G.gH),some (nv G.size),some (.ref b),some (nv r),some (nv az),some (.int n),some (nv sq),some (nv cd),some (.bool ot),u5] (H1.out b L):=hn _ _ ⟨L,_,_,_,_,_,rfl,D,rfl⟩;refine (?_:aN _ _ _ _);refine aU e6 (by rw [D.len];exact hsq) ?_;refine (?_:bK _ _ _ _ _);refine aR ?_;refine (?_:cz _ _ _);refine ag (λh0=>?_) λh0=>?_
   ·have put:aO (Call (d+2)) (.cons (.eP (.loc 6) (.loc 10) (.bin .add (.bin .add (.bin .mul (.bin .fdiv (.loc 11) (.bB 5)) (.bB 8)) (.bin .mod (.loc 11) (.bB 5))) (.bB 1))) (.cons (.bh (.dU (.cons (.cmp .eq (.bin .fdiv (.loc 11) (.bB 5)) (.loc 8)) (.cons (.call 98 (.cons (.loc 6) (.cons (.loc 1) (.cons (.loc 10) (.cons (.index (.loc 6) (.bin .sub (.bB 14) (.bin .mul (.bB 8) (.loc 8)))) .nil))))) .nil))) (.cons (.eP (.loc 6) (.loc 10) (.bB 0)) .nil) .nil) .nil))
     [some (.ref sc),some (nv G.aa),some (nv G.bD),some (.bool G.dbl),some (.bool G.gH),some (nv G.size),some (.ref b),some (nv r),some (nv az),some (.int n),some (nv sq),some (nv cd),some (.bool ot),u5] (H1.out b L) K:=by
     have h0:L.getD sq 0=0:=h0;refine (?_:au _ _ _ _ _);refine c9 (y:=5) (by decide) (by decide) ?_;refine (?_:au _ _ _ _ _);refine bR (y:=8) (by exact dv ‹_› (by rfl)) ?_;refine (?_:au _ _ _ _ _);refine dS (y:=5) (by decide) ?_;refine (?_:au _ _ _ _ _);refine p_add ?_;refine (?_:au _ _ _ _ _);refine p_add (y:=1) ?_;have v15:cd / 5*8+cd%5+1<15:=(by decide:∀c,c<10->c / 5*8+c%5+1<15) cd ‹_›;have v1:1<=(cd / 5*8+cd%5+1)%8:=(by decide:∀c,c<10->1<=(c / 5*8+c%5+1)%8) cd ‹_›;have v5:(cd / 5*8+cd%5+1)%8<=5:=(by decide:∀c,c<10->(c / 5*8+c%5+1)%8<=5) cd ‹_›;have v8:(cd / 5*8+cd%5+1) / 8=cd / 5:=(by decide:∀c,c<10->(c / 5*8+c%5+1) / 8=c / 5) cd ‹_›;generalize cd / 5*8+cd%5+1=v at v15 v1 v5 v8 ⊢;refine (?_:bT _ _ _ _ _);refine eW (by rw [D.len];exact hsq) ?_;refine (?_:aO _ _ [_,_,_,_,_,_,_,_,_,_,_,_,_,_] _ _);refine (?_:au _ _ _ _ _);refine c9 (y:=5) (by decide) (by decide) ?_;refine (?_:bK _ _ _ _ _);refine aR ?_;refine (?_:cz _ _ _);refine ag (λhwho=>?_) λhwho=>?_
     ·have Dl:(L.set sq v).length=G.size:=ls D.len
      have atv:(L.set sq v).getD sq 0=v:=by rw [gs D.len hsq,Po rfl]
      have ke:Kg (L.set sq v) (1-az) k2:=⟨by rw [gs D.len hsq,Pf λz=>by have:=D.ke.at_;rw [z,h0] at this;exact absurd (Eq.symm ‹_›) kx];exact D.ke.at_,λy hy=>by
       rw [gs D.len hsq] at hy;split at hy
       ·lia
       ·exact D.ke.un y hy⟩
      have e7:(H1.out b (L.set sq v)) b=some (.list (av (L.set sq v))):=Hp.ai ..;refine ⟨gJ e7,?_⟩;refine (?_:au _ _ _ _ _);refine bR (x:=8) (by decide) ?_;refine (?_:au _ _ _ _ _);refine cC (x:=14) (by lia) ?_;rw [show 14-8*az=(1-az)*8+6 from OC (by assumption)];refine (?_:kL _ _ _ _);refine DL e7 ke.idx.1 (by rw [Dl];exact Pb ‹_› (by decide)) (λy hy=>?_) ?_
      ·obtain ⟨j,hj,rfl⟩:=List.getElem_of_mem hy;by_cases z:(L.set sq v).getD j 0=0
       ·rw [Pc,Pk hj] at z;have z:(L.set sq v)[j]=0:=z;rw [z];decide
       ·rw [gs D.len hsq] at z
        have e9:(L.set sq v)[j]=(L.set sq v).getD j 0:=by rw [Pc,Pk hj];rfl
        rw [e9,gs D.len hsq];split
        ·exact Pa ‹_› (by decide)
        ·rename_i z2;rw [Pf z2] at z;have:=(D.mn j z).1;exact Pa ‹_› (by decide)
      rw [ke.idx.2]
      have hk2:k2<G.size:=by
       rcases PG k2 G.size with q | q
       ·exact q
       ·have:=ke.at_;rw [hM (Dl.symm ▸ q)] at this;exact absurd (Eq.symm ‹_›) kx
      refine (?_:Call _ _ _ _ _);refine Ki B e7 Dl hsq hk2 (by rw [atv];exact v1) (by rw [atv];exact v5) (by rw [atv];exact v15) λb' hb'=>?_;rw [atv,v8] at hb';refine (?_:cz _ _ _);refine dd (λe=>?_) λe=>?_
      ·refine (?_:aO _ _ [_,_,_,_,_,_,_,_,_,_,_,_,_,_] _ _);refine (?_:bT _ _ (nv 0) _ _);refine eW (by rw [Dl];exact hsq) ?_;refine hn _ _ ⟨L,_,_,_,_,_,?_,D,rfl⟩;rw [Ci,HZ h0]
      ·refine hn _ _ ⟨L.set sq v,_,_,_,_,_,rfl,D.add hsq h0 v15 v1 v5 λ_ z=>?_,rfl⟩;have hwho:cd / 5=az:=hwho;rw [hwho] at hb';rw [hb' z] at e;cases e
     ·refine (?_:cz _ _ _);refine ag (λz=>absurd z hwho) λ_=>?_;exact hn _ _ ⟨L.set sq v,_,_,_,_,_,rfl,D.add hsq h0 v15 v1 v5 λz=>absurd (v8.symm.trans z) hwho,rfl⟩
    refine (?_:au _ _ _ _ _);refine dS (y:=5) (by decide) ?_;refine (?_:bK _ _ _ _ _);refine aR ?_;refine (?_:cz _ _ _);refine ag (λe5=>?_) λe5=>?_
    ·refine (?_:jc _ _ _);refine lR ?_;refine (?_:cz _ _ _);refine dd (λ_=>?_) λ_=>?_
     ·exact put
     ·exact no
    ·refine (?_:jc _ _ _);refine Br ?_;refine (?_:cz _ _ _);refine ag (λ_=>?_) λz=>absurd e5 z;exact put
   ·refine (?_:cz _ _ _);refine ag (λy=>absurd y h0) λ_=>?_;exact no
  ·obtain ⟨L,u1,u2,u3,u4,u5,rfl,D,rfl⟩:=hI;exact ⟨e3 L,k1 _ _ ⟨L,H1,_,_,_,_,_,s1,hb1,rfl,D,rfl⟩⟩
 obtain ⟨L,H1,u1,u2,u3,u4,u5,s1,hb1,rfl,D,rfl⟩:=hI;have e6:(H1.out b L) b=some (.list (av L)):=Hp.ai ..;refine (?_:oO _ _ _);refine eM ?_;refine (?_:aO _ _ [_,_,_,_,_,_,_,_,_,_,_,_,_,some (.int (-1))] _ _);have fin:∀ep:Int,(ep=-1\/∃n:Nat,ep=n/\yN G.aa G.bD L az n)->∀ρ',di q (.ret (mN b az r ep)) ρ' (H1.out b L):=λep he ρ'=>gr (H.out b L) (i3 s1 L) (h b L az r ep k k2 hb hw D he)
 have last:∀ep:Int,(ep=-1\/∃n:Nat,ep=n/\yN G.aa G.bD L az n)->aO (Call (d+2)) (.cons (.ret (.tup (.cons (.loc 6) (.cons (.loc 8) (.cons (.loc 7) (.cons (.loc 13) .nil)))))) .nil) [some (.ref sc),some (nv G.aa),some (nv G.bD),some (.bool G.dbl),some (.bool G.gH),some (nv G.size),some (.ref b),some (nv r),some (nv az),u1,u2,u3,u4,some (.int ep)] (H1.out b L) (di q):=λep he=>by
  refine ⟨show 4<=1000 by decide,?_⟩;exact fin ep he _
 refine (?_:cz _ _ _);refine dd (λe=>?_) λe=>?_
 ·have r5:5<=G.bD:=by
   rcases B with z | z | z
   ·rw [z];decide
   ·rw [z] at e;exact nomatch e
   ·rw [z];decide
  have r25:G.bD<=25:=Pb (SP _ (by exact Pw ‹_›)) h25;refine (?_:Call _ _ _ _ _);refine AQ (k:=2) ((Hp.ay hsb).trans (s1 _ _ hsc)) ?_;refine (?_:au _ _ _ _ _);refine jJ (y:=2) (by decide) (by decide) ?_;refine (?_:au _ _ _ _ _);refine fO (y:=2) (by decide) λm _ _=>?_;refine (?_:bK _ _ _ _ _);refine aR ?_;refine (?_:cz _ _ _);refine ag (λ_=>?_) λ_=>?_
  ·refine (?_:aO _ _ [_,_,_,_,_,_,_,_,_,_,_,_,_,_] _ _);refine (?_:Call _ _ _ _ _);refine HJ e6 (by exact Pw ‹_›) qu r5 r25 D.len hw λep he=>?_;exact last ep he
  ·exact last (-1) (.inl rfl)
 ·refine (?_:cz _ _ _);refine dd (λz=>absurd (z.symm.trans e) (by decide)) λ_=>?_
  exact last (-1) (.inl rfl)) ((d,H,G,q),(is,sc))
end
structure qL (H Hc:Hp) (p dx:Addr) (fs:List (Nat×V)) (ls:List (Addr×Ob)):Prop where
 ip:Hc p=some (.inst 2 dx)
 id:Hc dx=some (.dict fs)
 old:∀x o,x≠dx->H x=some o->Hc x=some o
 new:∀e∈ls,Hc e.1=some e.2/\H e.1=none/\e.1≠dx/\e.1≠p
 IY:ls.Pairwise λa b=>a.1≠b.1
section
variable {d s g c k k2 f r az:Nat} {H Hc:Hp} {G:aE} {q:V->Hp->Prop} {L:List Nat} {x p dx:Addr} {fs:List (Nat×V)} {ls:List (Addr×Ob)}
theorem qL.pd (B:qL H Hc p dx fs ls):p≠dx:=λe=>by
 have:=B.ip;rw [e,B.id] at this;cases this
theorem qL.set (B:qL H Hc p dx fs ls) (fs':List (Nat×V)):qL H (Hc.upd dx (.dict fs')) p dx fs' ls where
 ip:=(Hp.ay B.pd).trans B.ip
 id:=Hp.ai ..
 old:=λx o hx h=>(Hp.ay hx).trans (B.old x o hx h)
 new:=λe he=>⟨(Hp.ay (B.new e he).2.2.1).trans (B.new e he).1,(B.new e he).2⟩
 IY:=B.IY
theorem qL.alloc (B:qL H Hc p dx fs ls) {y:Addr} (hy:Hc y=none) (o:Ob):qL H (Hc.upd y o) p dx fs (ls++ [(y,o)]):=by
 have hd:dx≠y:=Hp.dJ B.id hy;have hp:p≠y:=Hp.dJ B.ip hy
 have hH:H y=none:=by
  cases e:H y with
  | none=>rfl
  | some o'=>have:=B.old y o' (Ne.symm hd) e;rw [hy] at this;cases this
 refine ⟨(Hp.ay hp).trans B.ip,(Hp.ay hd).trans B.id,λx o' hx h=>(Hp.ay (Hp.dJ h hH)).trans (B.old x o' hx h),λe he=>?_,?_⟩
 ·rcases PZ.mp he with z | z
  ·have:=B.new e z;exact ⟨(Hp.ay (Hp.dJ this.1 hy)).trans this.1,this.2⟩
  ·rw [PC.mp z];exact ⟨Hp.ai ..,hH,Ne.symm hd,Ne.symm hp⟩
 ·refine List.pairwise_append.mpr ⟨B.IY,List.pairwise_singleton _ _,λa ha b hb=>?_⟩;rw [PC.mp hb];exact Hp.dJ (B.new a ha).1 hy
theorem gI {v:V} {n:Nat} {P:Hp->Prop} (B:qL H Hc p dx fs ls) (h3:fs.length<=100) (h:∀Hc',qL H Hc' p dx (gu n v fs) ls->P Hc'):bj (.ref p) n v Hc P:=
 pS B.ip B.id h3 (h _ (B.set _))
theorem nS {vs:List V} (B:qL H Hc p dx fs ls) (h0:vs.length<=lim) (h:∀y Hc',qL H Hc' p dx fs (ls++ [(y,.list vs)])->q (.ref y) Hc'):c7 vs Hc q:=new_ h0 λy hy=>h y _ (B.alloc hy _)
theorem qL.at_ (B:qL H Hc p dx fs ls) {i:Nat} {e:Addr×Ob} (h:ls[i]?=some e):Hc e.1=some e.2:=(B.new e (PY h)).1
noncomputable abbrev Kh (gA zA bd kd sd hs:Addr):List (Nat×V):=[(18,.ref gA),(19,.ref zA),(20,.ref bd),(21,.ref kd),(22,.ref sd),(3,nv 0),(2,nv 0),(1,.int (-1)),(23,.int 0),(7,.int 1),(24,nv 0),(25,.ref hs)]
def pA {gA zA gd:Addr}:Prop:=∀{gf:List (Nat×V)} (B:qL H Hc p dx [] []) (hg:H gA=some (.inst 1 gd)) (hgd:H gd=some (.dict gf)) (h6:eZ 6 gf=some (nv s)) (hs:s<=1000) (n1:gA≠dx) (n2:gd≠dx) (h:∀Hc' t1 bd t2 kd sd hs,qL H Hc' p dx (Kh gA zA bd kd sd hs) [(t1,.list [.int 0]),(bd,.list (av (List.replicate s 0))),(t2,.list [.int 0]),(kd,.list (av (List.replicate 7 0))),(sd,.list (av [0,0])),(hs,.list [])]->q .none Hc'),Call (d+1) 1002 [.ref p,.ref gA,.ref zA] Hc q
theorem Ee {gA zA gd:Addr}:@pA d s H Hc q p dx gA zA gd:=ao (S:=λx:(Nat×Nat×Hp×Hp)×((V->Hp->Prop)×Addr×Addr×Addr)×(Addr×Addr)=>@pA x.1.1 x.1.2.1 x.1.2.2.1 x.1.2.2.2 x.2.1.1 x.2.1.2.1 x.2.1.2.2.1 x.2.1.2.2.2 x.2.2.1 x.2.2.2) (x:=((0,0,λ_=>none,λ_=>none),(λ_ _=>True,0,0,0),(0,0))) (by
 refine (?_:∀d s H Hc q p dx gA zA gd,@pA d s H Hc q p dx gA zA gd) _ _ _ _ _ _ _ _ _ _;intro d s H Hc q p dx gA zA gd gf B hg hgd h6 hs n1 n2 h;refine ar rfl rfl ?_;refine (?_:aO _ _ [_,_,_] _ _);refine (?_:bj _ _ _ _ _);refine gI B (by decide) λHc B=>?_;refine (?_:aO _ _ [_,_,_] _ _);refine (?_:bj _ _ _ _ _);refine gI B (show 1<=100 by decide) λHc B=>?_;refine (?_:aO _ _ [_,_,_] _ _);refine nS B (show 1<=1000000 by decide) λt1 Hc B=>?_;refine (?_:dM _ _ _ _);refine at_ (B.old _ _ n1 hg) (B.old _ _ n2 hgd) h6 ?_;refine (?_:au _ _ _ _ _);refine ti (B.at_ (i:=0) rfl) hs ?_;rw [show List.replicate s (V.int 0)=av (List.replicate s 0) from by rw [av,SA];rfl];refine nS B (by rw [Ph,P6];show s<=1000000;exact Pb ‹_› (by decide)) λbd Hc B=>?_;refine (?_:bj _ _ _ _ _);refine gI B (show 2<=100 by decide) λHc B=>?_;refine (?_:aO _ _ [_,_,_] _ _);refine nS B (show 1<=1000000 by decide) λt2 Hc B=>?_;refine (?_:au _ _ (nv 7) _ _);refine ti (B.at_ (i:=2) rfl) (by decide) ?_;refine nS B (show 7<=1000000 by decide) λkd Hc B=>?_;refine (?_:bj _ _ _ _ _);refine gI B (show 3<=100 by decide) λHc B=>?_;refine (?_:aO _ _ [_,_,_] _ _);refine nS B (show 2<=1000000 by decide) λsd Hc B=>?_;refine (?_:bj _ _ _ _ _);refine gI B (show 4<=100 by decide) λHc B=>?_;refine (?_:bj _ _ _ _ _);refine gI B (show 5<=100 by decide) λHc B=>?_;refine (?_:bj _ _ _ _ _);refine gI B (show 6<=100 by decide) λHc B=>?_;refine (?_:oO _ _ _);refine eM ?_;refine (?_:bj _ _ _ _ _);refine gI B (show 7<=100 by decide) λHc B=>?_;refine (?_:bj _ _ _ _ _);refine gI B (show 8<=100 by decide) λHc B=>?_;refine (?_:bj _ _ _ _ _);refine gI B (show 9<=100 by decide) λHc B=>?_;refine (?_:bj _ _ _ _ _);refine gI B (show 10<=100 by decide) λHc B=>?_;refine (?_:aO _ _ [_,_,_] _ _);refine nS B (show 0<=1000000 by decide) λhs Hc B=>?_;refine (?_:bj _ _ _ _ _);refine gI B (show 11<=100 by decide) λHc B=>?_;refine (?_:di _ _ _ _)
 exact fJ (h _ t1 bd t2 kd sd hs B)) ((d,s,H,Hc),(q,p,dx,gA),(zA,gd))
end
section
variable {d s g c k k2 f r az ab:Nat} {H H0 Hc:Hp} {G:aE} {R:Rw} {a:Ad} {q:V->Hp->Prop} {L:List Nat} {x p dx:Addr} {ep:Int} {σ:Nat->Addr}
theorem Ef {z zd:Addr} {v0 v1 v2 v3:V} (h1:H z=some (.inst 0 zd)) (h2:H zd=some (.dict [])) (h:q .none (H.upd zd (.dict [(0,v0),(1,v1),(2,v2),(3,v3)]))):Call (d+1) 1000 [.ref z,v0,v1,v2,v3] H q:=by
 have hz:z≠zd:=λe=>by rw [e,h2] at h1;cases h1
 have st:∀{n:Nat} {v:V} {fs:List (Nat×V)} {P:Hp->Prop},fs.length<=100->P (H.upd zd (.dict (gu n v fs)))->bj (.ref z) n v (H.upd zd (.dict fs)) P:=λh3 h4=>
  pS ((Hp.ay hz).trans h1) (Hp.ai ..) h3 (by rw [Hp.eE];exact h4)
 refine ar rfl rfl ?_;refine (?_:aO _ _ [_,_,_,_,_] _ _);refine (?_:bj _ _ _ _ _);refine pS h1 h2 (by decide) ?_;refine (?_:bj _ _ _ _ _);refine st (show 1<=100 by decide) ?_;refine (?_:bj _ _ _ _ _);refine st (show 2<=100 by decide) ?_;refine (?_:bj _ _ _ _ _);refine st (show 3<=100 by decide) ?_;refine (?_:di _ _ _ _);exact fJ h
theorem sQ {test elt:Lc->Hp->(V->Hp->Prop)->Prop} {ρ:Lc} {Q:List V->Hp->Prop} (I:Nat->List V->Hp->Prop) (hl:∀j acc H,I j acc H->acc.length<=j) {n:Nat} (hn:n<=1000)
 (step:∀j acc H (K:V->Hp->Prop),j<n->I j acc H->(∀y H',I (j+1) (acc++ [y]) H'->K y H')->(∀Q':V->Hp->Prop,Q' (.bool true) H->test (ρ.set 0 (some (nv j))) H Q')/\elt (ρ.set 0 (some (nv j))) H K)
 (fin:∀acc H',I n acc H'->Q acc H'):∀{m j:Nat} {acc:List V} {H:Hp},j+m=n->I j acc H->eA test elt ρ ((List.range' j m).map nv) acc H Q
 | 0,j,acc,H,e,h=>fin acc H (by rw [<- e];exact h)
 | m+1,j,acc,H,e,h=>by
  have st:=step j acc H (λy H'=>acc.length<lim/\eA test elt ρ ((List.range' (j+1) m).map nv) (acc++ [y]) H' Q) (by lia) h λy H' h'=>⟨by have:=hl _ _ _ h;show _<1000000;lia,sQ I hl hn step fin (by lia) h'⟩;exact st.1 _ st.2
theorem DZ {test elt:Lc->Hp->(V->Hp->Prop)->Prop} {ρ:Lc} {Q:List V->Hp->Prop} (I:Nat->List V->Hp->Prop) (hl:∀j acc H,I j acc H->acc.length<=j) {n:Nat} (hn:n<=1000)
 (step:∀j acc H (K:V->Hp->Prop),j<n->I j acc H->(∀y H',I (j+1) (acc++ [y]) H'->K y H')->(∀Q':V->Hp->Prop,Q' (.bool true) H->test (ρ.set 0 (some (nv j))) H Q')/\elt (ρ.set 0 (some (nv j))) H K)
 (h0:I 0 [] H) (fin:∀acc H',I n acc H'->Q acc H'):fD test elt ρ (.fW 0 n 1) H Q:=by
 unfold fD;show eA test elt ρ (aP 0 n 1) [] H Q;rw [uf,List.range_eq_range'];exact sQ I hl hn step fin (QL n) h0
theorem wm {Γ:Sg} {e:E} {ρ:Lc} {n:Nat} {g:Nat->Nat} {Q:V->Hp->Prop} (hn:n<=1000) (he:∀j,j<n->∀Q:V->Hp->Prop,Q (nv (g j)) H->bp Γ e (ρ.set 0 (some (nv j))) H Q)
 (h:∀b,H b=none->Q (.ref b) (H.out b ((List.range n).map g))):fD (λρ H Q=>bp Γ (.bu true) ρ H Q) (λρ H Q=>bp Γ e ρ H Q) ρ (.fW 0 n 1) H λvs H=>c7 vs H Q:=by
 refine qx uf (λ_=>true) g hn (λ_ _ Q h=>h) (λj hj _ Q h=>he j hj Q h) ?_;have hf:(List.range n).filter (λ_=>true)=List.range n:=List.filter_eq_self.mpr λ_ _=>rfl;refine new_ (xq hn) λb hb=>?_;rw [hf,show ((List.range n).map λj=>nv (g j))=av ((List.range n).map g) from by rw [av,RB];rfl];exact h b hb
theorem GW.mono {H':Hp} (w:GW H a G) (s:H.Sub H'):GW H' a G:=⟨s _ _ w.g,s _ _ w.gd,s _ _ w.fm,s _ _ w.rm,s _ _ w.ow,λd r h=>s _ _ (w.mO d r h),s _ _ w.cv,s _ _ w.a8,s _ _ w.fF,λc r h=>s _ _ (w.pn c r h),s _ _ w.gH,s _ _ w.cK⟩
theorem ZW.mono {H':Hp} (w:ZW H a G) (s:H.Sub H'):ZW H' a G:=⟨s _ _ w.z,s _ _ w.zd,s _ _ w.zp,λm h=>s _ _ (w.row m h),s _ _ w.ze,s _ _ w.zr⟩
theorem vV (w:PW H a R):H=H.put a R:=by
 funext y;unfold Hp.put;split
 ·subst_vars;exact w.bd
 ·split
  ·subst_vars;exact w.kd
  ·split
   ·subst_vars;exact w.sd
   ·split
    ·subst_vars;exact w.hs
    ·split
     ·subst_vars;exact w.dx
     ·rfl
def vc:Prop:=∀{Γ:Sg} {v4 v5 v6 v7 v8:Option V} {gA:Addr} {st:V} {r:S} {Q:Fl->Lc->Hp->Prop} (g:cq G) (hc:∀z v0 v1 v2 v3 zd H q,H z=some (.inst 0 zd)->H zd=some (.dict [])->q .none (H.upd zd (.dict [(0,v0),(1,v1),(2,v2),(3,v3)]))->Γ 1000 [.ref z,v0,v1,v2,v3] H q) (h:∀H' z zd zp ze zr,∀row:Nat->Addr,∀ρ',H.Sub H'->H' z=some (.inst 0 zd)->H' zd=some (.dict [(0,.ref zp),(1,.ref ze),(2,.ref zr),(3,nv (yQ G.size G.aa))])->H' zp=some (.list ((List.range 15).map λm=>.ref (row m)))->(∀m,m<15->H' (row m)=some (.list (av (vb G.size m))))->
 H' ze=some (.list (av (Ba G.size G.aa)))->H' zr=some (.list (av (A9 G.size)))->ρ'=[some (.ref gA),some st,some (nv G.aa),some (nv G.size),v4,some (.ref zp),some (nv (15*G.size)),some (.ref z),v8]->aO Γ r ρ' H' Q),aO Γ (.cons (.asg 5 (.comp [none,some 3] (.bi .range (.cons (.bB 15) .nil)) (.bu true) (.comp [none,some 0,some 1] (.bi .range (.cons (.loc 1) .nil)) (.bu true) (.bin .shl (.bB 1) (.bin .add (.bin .mul (.loc 1) (.loc 2)) (.loc 0)))))) (.cons (.asg 6 (.bin .mul (.bB 15) (.loc 3))) (.cons (.asg 7 (.new 0 (.cons (.loc 5) (.cons (.comp [none,some 6] (.bi .range (.cons (.loc 2) .nil)) (.bu true) (.bin .shl (.bB 1) (.bin .add (.bin .add (.loc 1) (.bB 4)) (.loc 0)))) (.cons (.comp [none,some 6] (.bi .range (.cons (.bB 16) .nil)) (.bu true) (.bin .shl (.loc 0) (.loc 1))) (.cons (.bin .shl (.bB 1) (.bin .add (.bin .add (.loc 6) (.bB 4)) (.loc 2))) .nil)))))) r)))
 [some (.ref gA),some st,some (nv G.aa),some (nv G.size),v4,v5,v6,v7,v8] H Q
theorem I6:@vc H G:=ao (S:=λx:Hp×aE=>@vc x.1 x.2) (x:=(λ_=>none,bN)) (by
 refine (?_:∀H G,@vc H G) _ _;intro H G Γ v4 v5 v6 v7 v8 gA st r Q g hc h;have h25:=g.iW;have qu:=g.qu;refine (?_:bY .range _ _ _);refine fI (n:=15) (by decide) ?_;refine (?_:fD _ _ _ _ _ _);refine DZ (n:=15) (λj acc H'=>H.Sub H'/\∃as:List Addr,acc=as.map V.ref/\as.length=j/\∀m,m<j->H' (as.getD m 0)=some (.list (av (vb G.size m)))) (λj acc H' h=>by obtain ⟨_,as,rfl,e,_⟩:=h;rw [Ph,e];exact Pt _) (by decide) (λj acc H' K hj hI hK=>⟨λQ' h=>h,?_⟩) ⟨Hp.Sub.refl H,[],rfl,rfl,λm h=>absurd h (Qu m)⟩ λacc H1 hI=>?_
 ·obtain ⟨s1,as,rfl,hl,hr⟩:=hI;refine (?_:bY .range _ _ _);refine fI (by exact Pb ‹_› (by decide)) ?_;refine (?_:fD _ _ [_,_,_] _ _ _);refine wm (g:=λs=>2^(j*G.size+s)) (by exact Pb ‹_› (by decide)) (λi hi Q h=>?_) λb hb=>?_
  ·refine (?_:au _ _ _ _ _);refine bR (by exact Pa ‹_› (by decide)) ?_;refine (?_:au _ _ _ _ _);refine p_add ?_;refine (?_:au _ _ _ _ _);have:j*G.size<=15*25:=Tc (by exact Pw ‹_›) h25;exact b8 (by lia) h
  ·refine hK _ _ ⟨Hp.Sub.trans s1 (Hp.ax hb),as++ [b],by rw [QG];rfl,by rw [Pg,hl];rfl,λm hm=>?_⟩;rw [Pc];rcases Rp.mp hm with z | z
   ·rw [Rh (by rw [hl];exact z),<- Pc];exact (Hp.ay (Hp.dJ (hr m z) hb)).trans (hr m z)
   ·rw [z,QA (by rw [hl];exact Pt _),hl,SV];exact Hp.ai ..
 obtain ⟨s1,as,rfl,hl,hr⟩:=hI;refine new_ (by rw [Ph,hl];show 15<=1000000;decide) λzp hzp=>?_
 have e1:as.map V.ref=(List.range 15).map λm=>V.ref (as.getD m 0):=by
  refine List.ext_getElem (by rw [Ph,Ph,Ro,hl]) λi h1 h2=>?_;rw [Ph] at h1;rw [List.getElem_map,List.getElem_map,List.getElem_range,Pc,Pk h1];rfl
 rw [e1];have s2:=Hp.Sub.trans s1 (Hp.ax (o:=.list ((List.range 15).map λm=>V.ref (as.getD m 0))) hzp);have hr2:∀m,m<15->(H1.upd zp (.list ((List.range 15).map λm=>V.ref (as.getD m 0)))) (as.getD m 0)=some (.list (av (vb G.size m))):=λm hm=>(Hp.ay (Hp.dJ (hr m hm) hzp)).trans (hr m hm);have hz2:(H1.upd zp (.list ((List.range 15).map λm=>V.ref (as.getD m 0)))) zp=_:=Hp.ai ..;refine (?_:aO _ _ [_,_,_,_,_,some (.ref zp),_,_,_] _ _);generalize H1.upd zp (.list ((List.range 15).map λm=>V.ref (as.getD m 0)))=H2 at s2 hr2 hz2 ⊢;refine (?_:au _ _ _ _ _);refine bR (x:=15) (by decide) ?_;refine (?_:aO _ _ [_,_,_,_,_,_,some (nv (15*G.size)),_,_] _ _);refine (?_:bY .range _ _ _);refine fI (by exact Pb ‹_› (by decide)) ?_;refine (?_:fD _ _ [_,_] _ _ _);refine wm (g:=λf=>2^(15*G.size+4+f)) (by exact Pb ‹_› (by decide)) (λi hi Q h=>?_) λze hze=>?_
 ·refine (?_:au _ _ _ _ _);refine p_add (y:=4) ?_;refine (?_:au _ _ _ _ _);refine p_add ?_;refine (?_:au _ _ _ _ _);exact b8 (by lia) h
 have s3:=Hp.Sub.trans s2 (Hp.ax (o:=.list (av (Ba G.size G.aa))) hze);have u3:=Hp.ax (o:=.list (av (Ba G.size G.aa))) hze;have e3:(H2.upd ze (.list (av (Ba G.size G.aa)))) ze=_:=Hp.ai ..;refine (?_:bY .range _ (H2.upd ze (.list (av (Ba G.size G.aa)))) _);generalize H2.upd ze (.list (av (Ba G.size G.aa)))=H3 at s3 u3 e3 ⊢;refine fI (n:=16) (by decide) ?_;refine (?_:fD _ _ [_,_] _ _ _);refine wm (n:=16) (g:=λr=>r <<< (15*G.size)) (by decide) (λi hi Q h=>?_) λzr hzr=>?_
 ·refine (?_:au _ _ _ _ _);exact gU (by exact Pb (RU _ ‹_›) (by decide)) (by exact Pa ‹_› (by decide)) h
 have s4:=Hp.Sub.trans s3 (Hp.ax (o:=.list (av (A9 G.size))) hzr);have u4:=Hp.ax (o:=.list (av (A9 G.size))) hzr;have e4:(H3.upd zr (.list (av (A9 G.size)))) zr=_:=Hp.ai ..;refine (?_:au _ _ _ (H3.upd zr (.list (av (A9 G.size)))) _);generalize H3.upd zr (.list (av (A9 G.size)))=H4 at s4 u4 e4 ⊢;refine p_add (y:=4) ?_;refine (?_:au _ _ _ _ _);refine p_add ?_;refine (?_:au _ _ _ _ _);refine b8 (by lia) ?_;intro z zd hz hzd hne;have u5:H4.Sub ((H4.upd z (.inst 0 zd)).upd zd (.dict [])):=Hp.Sub.trans (Hp.ax hz) (Hp.ax ((Hp.ay (Ne.symm hne)).trans hzd));refine hc z _ _ _ _ zd _ _ ((Hp.ay hne).trans (Hp.ai ..)) (Hp.ai ..) ⟨rfl,?_⟩
 have u6:H4.Sub (((H4.upd z (.inst 0 zd)).upd zd (.dict [])).upd zd (.dict [(0,.ref zp),(1,.ref ze),(2,.ref zr),(3,nv (yQ G.size G.aa))])):=by
  rw [Hp.eE];exact Hp.Sub.trans (Hp.ax hz) (Hp.ax ((Hp.ay (Ne.symm hne)).trans hzd))
 have t34:=Hp.Sub.trans u4 u6;have t24:=Hp.Sub.trans u3 t34
 exact h _ z zd zp ze zr (λm=>as.getD m 0) _ (Hp.Sub.trans s4 u6) ((Hp.ay hne).trans ((Hp.ay hne).trans (Hp.ai ..))) (Hp.ai ..) (t24 _ _ hz2) (λm hm=>t24 _ _ (hr2 m hm)) (t34 _ _ e3) (u6 _ _ e4) rfl) (H,G)
end
noncomputable def FY (σ:Nat->Addr) (p dx bd kd sd hs z zd zp ze zr:Addr) (row:Nat->Addr):Ad where
 p:=p
 dx:=dx
 bd:=bd
 kd:=kd
 sd:=sd
 hs:=hs
 g:=σ 1
 gd:=σ 0
 fm:=σ 2
 rm:=σ 3
 ow:=σ 4
 mO:=λd=>σ (15+2*d)
 cv:=σ 13
 a8:=σ 6
 fF:=σ 9
 pn:=λc=>σ (7+c)
 gH:=σ 10
 cK:=σ 31
 z:=z
 zd:=zd
 zp:=zp
 row:=row
 ze:=ze
 zr:=zr
noncomputable def bk (L:List Nat) (k:Nat):List Nat:=(List.range L.length).map λs=>if s<k then L.getD s 0 else 0
noncomputable def R0 (sz:Nat):Rw:=⟨List.replicate sz 0,List.replicate 7 0,[0,0],0,0,-1,0,1,0,[]⟩
section
variable {d s g c k k2 f r az ab:Nat} {H H0 Hc:Hp} {G:aE} {R:Rw} {a:Ad} {q:V->Hp->Prop} {L:List Nat} {x p dx:Addr} {ep:Int} {σ:Nat->Addr}
theorem ig:(bk L k).length=L.length:=by unfold bk;rw [Ph,Ro]
theorem mq:(bk L k).getD s 0=if s<k then L.getD s 0 else 0:=by
 rcases PG s L.length with h | h
 ·unfold bk;rw [Pc,P1,QS h];rfl
 ·rw [hM (by rw [ig];exact h),hM h];split<;>rfl
theorem Er:bk L L.length=L:=eG ig λi=>by
 rw [mq];split
 ·rfl
 ·exact (hM (Rx ‹_›)).symm
theorem AV:bk L 0=List.replicate L.length 0:=eG (by rw [ig,P6]) λi=>by
 rw [mq,Pf (Qu i),Pc,Q1];split<;>rfl
theorem Ep (h:k<L.length):(bk L k).set k (L.getD k 0)=bk L (k+1):=eG (by rw [Pq,ig,ig]) λi=>by
 rw [cP (by rw [ig];exact h),mq,mq];by_cases e:i=k
 ·rw [Po e,Po (by lia),e]
 ·rw [Pf e];by_cases e2:i<k
  ·rw [Po e2,Po (by exact QD ‹_›)]
  ·rw [Pf e2,Pf (by lia)]
theorem AW (h0:L.getD k 0=0):bk L k=bk L (k+1):=eG (by rw [ig,ig]) λi=>by
 rw [mq,mq];by_cases e:i=k
 ·rw [e,Pf (Qr k),Po (PD k),h0]
 ·by_cases e2:i<k
  ·rw [Po e2,Po (Qg e2)]
  ·rw [Pf e2,Pf (by lia)]
theorem rep0 {n i:Nat}:(List.replicate n 0).getD i 0=0:=by
 rw [Pc,Q1];split<;>rfl
theorem Au:ba G (R0 G.size):=by
 have b0:∀s,bd (R0 G.size) s=0:=λs=>rep0;have s0:∀c,Sd (R0 G.size) c=0:=λc=>rep0 (n:=2);have k0:∀c,K (R0 G.size) c=0:=λc=>rep0 (n:=7);refine ⟨P6,P6,rfl,λs h=>absurd (b0 s) h,λk s=>?_,λc s=>?_⟩
 ·rw [k0,Py];exact ⟨λe=>(nomatch e),λe=>absurd (b0 s) e.1⟩
 ·rw [s0,Py];exact ⟨λe=>(nomatch e),λe=>absurd (b0 s) e.1⟩
def r7:Prop:=∀(B:BG G) (m:Em H0 σ (uN G) H) (hL:H x=some (.list (av L))) (hl:L.length=G.size) (mn:∀s,L.getD s 0≠0->nA (L.getD s 0)) (hw:az<2) (hr:ab<16) (hep:ep=-1\/(G.aa:Int)<=ep/\ep+G.aa<G.size) (h:∀a H' R,fY H' a G->(∀y o,H y=some o->¬dyn a y/\H' y=some o)->ba G R->R.key=kI G R->R.ae=L->R.af=az->R.ab=ab->R.ep=ep->R.cx=[]->q (.ref a.p) (H'.put a R)),Call (d+4) 106 [.ref (σ 1),mN x az ab ep,nv G.aa] H q
theorem HD:@r7 d az ab H H0 G q L x ep σ:=ao (S:=λx:(Nat×Nat×Nat×Hp)×(Hp×aE×(V->Hp->Prop)×List Nat)×(Addr×Int×(Nat->Addr))=>@r7 x.1.1 x.1.2.1 x.1.2.2.1 x.1.2.2.2 x.2.1.1 x.2.1.2.1 x.2.1.2.2.1 x.2.1.2.2.2 x.2.2.1 x.2.2.2.1 x.2.2.2.2) (x:=((0,0,0,λ_=>none),(λ_=>none,bN,λ_ _=>True,[]),(0,0,λ_=>0))) (by
 refine (?_:∀d az ab H H0 G q L x ep σ,@r7 d az ab H H0 G q L x ep σ) _ _ _ _ _ _ _ _ _ _ _;intro d az ab H H0 G q L x ep σ B m hL hl mn hw hr hep h;have g:=B.ok;have h25:=g.iW;refine ar rfl rfl ?_;refine (?_:aO _ _ [_,_,_,_,_,_,_,_,_] _ _);refine (?_:aN _ _ _ _);refine dR (i:=0) rfl ?_;refine (?_:bY .len _ _ _);refine l6 hL ?_;rw [Ph,hl];refine I6 g (λz v0 v1 v2 v3 zd H q h1 h2 h3=>Ef h1 h2 h3) λH1 z zd zp ze zr row ρ' s1 hz hzd hzp hrow hze hzr e=>?_;subst e;intro p dx hp hdx hne;have u1:H1.Sub ((H1.upd p (.inst 2 dx)).upd dx (.dict [])):=Hp.Sub.trans (Hp.ax hp) (Hp.ax ((Hp.ay (Ne.symm hne)).trans hdx))
 have B0:qL ((H1.upd p (.inst 2 dx)).upd dx (.dict [])) ((H1.upd p (.inst 2 dx)).upd dx (.dict [])) p dx [] []:=
  ⟨(Hp.ay hne).trans (Hp.ai ..),Hp.ai ..,λ_ _ _ h=>h,λe he=>absurd he Qy,List.Pairwise.nil⟩
 have T0:∀bd kd sd hs,GW H (FY σ p dx bd kd sd hs z zd zp ze zr row) G:=λbd kd sd hs=>GG m ⟨rfl,rfl,rfl,rfl,rfl,λ_=>rfl,rfl,rfl,rfl,λ_=>rfl,rfl,rfl⟩ g.IL;have T1:=(T0 0 0 0 0).mono s1;have nd:∀{y o},H1 y=some o->y≠dx:=λh=>Hp.dJ h hdx;refine (?_:Call _ 1002 _ _ _);refine Ee (gd:=σ 0) B0 (u1 _ _ T1.g) (u1 _ _ T1.gd) rfl (by exact Pb ‹_› (by decide)) (nd T1.g) (nd T1.gd) λHc t1 bd t2 kd sd hs Bd=>⟨rfl,?_⟩;have u2:H1.Sub Hc:=λy o e=>Bd.old y o (nd e) (u1 y o e);obtain ⟨a,ha⟩:∃a,a=FY σ p dx bd kd sd hs z zd zp ze zr row:=⟨_,rfl⟩;have hP:=Bd.IY
 have nw:∀{i:Nat} {e:Addr×Ob},[(t1,Ob.list [.int 0]),(bd,.list (av (List.replicate G.size 0))),(t2,.list [.int 0]),(kd,.list (av (List.replicate 7 0))),(sd,.list (av [0,0])),(hs,.list [])][i]?=some e->H1 e.1=none/\e.1≠dx/\e.1≠p:=λhe=>by
  have:=Bd.new _ (PY he);refine ⟨?_,this.2.2⟩
  cases e1:H1 _ with
  | none=>rfl
  | some o=>have:=this.2.1;rw [u1 _ _ e1] at this;cases this
 have nb:=nw (i:=1) rfl;have nk:=nw (i:=3) rfl;have ns:=nw (i:=4) rfl;have nh:=nw (i:=5) rfl
 have df:∀{i j:Nat} {e e':Addr×Ob},i<j->[(t1,Ob.list [.int 0]),(bd,.list (av (List.replicate G.size 0))),(t2,.list [.int 0]),(kd,.list (av (List.replicate 7 0))),(sd,.list (av [0,0])),(hs,.list [])][i]?=some e->[(t1,Ob.list [.int 0]),(bd,.list (av (List.replicate G.size 0))),(t2,.list [.int 0]),(kd,.list (av (List.replicate 7 0))),(sd,.list (av [0,0])),(hs,.list [])][j]?=some e'->e.1≠e'.1:=λhij h1 h2=>by
  refine bI (Pz.mp h1) ?_;rintro a1 rfl;refine bI (Pz.mp h2) ?_;rintro a2 rfl;exact List.pairwise_iff_getElem.mp hP _ _ a1 a2 hij
 have dn:∀{y o},H1 y=some o->¬dyn a y:=λ{y o} e z=>by
  rw [ha] at z
  rcases z with z | z | z | z | z<;>rw [z] at e
  ·exact nomatch nb.1.symm.trans e
  ·exact nomatch nk.1.symm.trans e
  ·exact nomatch ns.1.symm.trans e
  ·exact nomatch nh.1.symm.trans e
  ·exact nomatch hdx.symm.trans e
 have T:GW H1 a G:=ha ▸ (T0 bd kd sd hs).mono s1
 have Z:ZW H1 a G:=by rw [ha];exact ⟨hz,hzd,hzp,hrow,hze,hzr⟩
 have D:N0 a:=by
  have dp:¬dyn a p:=λz=>by
   rw [ha] at z;rcases z with z | z | z | z | z
   ·exact nb.2.2 z.symm
   ·exact nk.2.2 z.symm
   ·exact ns.2.2 z.symm
   ·exact nh.2.2 z.symm
   ·exact hne z
  have dray:∀d,d<8->¬dyn a (a.mO d):=λd hd=>dn (T.mO d _ (by rw [Pk (by rw [g.IL];exact hd)]));have dpn:∀d,d<2->¬dyn a (a.pn d):=λd hd=>dn (T.pn d _ (Pk (show d<2 from hd)));have d1:=df (i:=1) (j:=3) (by decide) rfl rfl;have d2:=df (i:=1) (j:=4) (by decide) rfl rfl;have d3:=df (i:=1) (j:=5) (by decide) rfl rfl;have d5:=df (i:=3) (j:=4) (by decide) rfl rfl;have d6:=df (i:=3) (j:=5) (by decide) rfl rfl;have d8:=df (i:=4) (j:=5) (by decide) rfl rfl
  have ap:a.p=p:=by rw [ha];rfl
  exact ⟨by rw [ha];exact Ne.symm d1,by rw [ha];exact Ne.symm d2,by rw [ha];exact Ne.symm d3,by rw [ha];exact Ne.symm nb.2.1,by rw [ha];exact Ne.symm d5,by rw [ha];exact Ne.symm d6,by rw [ha];exact Ne.symm nk.2.1,by rw [ha];exact Ne.symm d8,by rw [ha];exact Ne.symm ns.2.1,by rw [ha];exact Ne.symm nh.2.1,
   ap.symm ▸ dp,dn T.g,dn T.gd,dn T.fm,dn T.rm,dn T.ow,dray,dn T.cv,dn T.a8,dn T.fF,dpn,dn T.gH,dn T.cK,dn Z.z,dn Z.zd,dn Z.zp,λm hm=>dn (Z.row m hm),dn Z.ze,dn Z.zr⟩
 have S:fY Hc a G:=⟨by rw [ha];exact Bd.ip,T.mono u2,Z.mono u2,D,g.IL⟩
 have PW0:PW Hc a (R0 G.size):=by
  rw [ha];exact ⟨Bd.ip,Bd.id,Bd.at_ (i:=1) rfl,Bd.at_ (i:=3) rfl,Bd.at_ (i:=4) rfl,Bd.at_ (i:=5) rfl⟩
 have ap:a.p=p:=by rw [ha];rfl
 have keep:∀y o,H y=some o->¬dyn a y/\Hc y=some o:=λy o e=>⟨dn (s1 y o e),u2 y o (s1 y o e)⟩;have hxk:=keep x _ hL;have hx:∀R,(Hc.put a R) x=some (.list (av L)):=λR=>(bq hxk.1).trans hxk.2;rw [vV PW0,<- ap];have m0:eI False G 0 0 [] (bk L 0) (-1) (R0 G.size):=⟨Au,λz=>z.elim,rfl,rfl,rfl,by rw [AV,hl];rfl,rfl⟩;generalize R0 G.size=Ra at m0 ⊢;clear PW0 ha ap;refine (?_:aO _ _ [_,_,_,_,_,_,_,_,some (.ref a.p)] _ _);refine rh (λρ' H'=>∃R v4,H'=Hc.put a R/\eI False G 0 0 [] L (-1) R/\ρ'=[some (.ref (σ 1)),some (mN x az ab ep),some (nv G.aa),some (nv G.size),v4,some (.ref zp),some (nv (15*G.size)),some (.ref z),some (.ref a.p)]) (λK1 k1 _ _=>?_) λρ' H' hI=>?_
 ·refine (?_:bY .range _ _ _);refine fI (by exact Pb ‹_› (by decide)) ?_;refine (?_:fg _ _ _ _ _ _);refine forR (n:=G.size) (λi ρ' H'=>∃R v4,H'=Hc.put a R/\eI False G 0 0 [] (bk L i) (-1) R/\ρ'=[some (.ref (σ 1)),some (mN x az ab ep),some (nv G.aa),some (nv G.size),v4,some (.ref zp),some (nv (15*G.size)),some (.ref z),some (.ref a.p)]) (λi ρ' H' K hi hI hn _ _=>?_) (λρ' H' hI=>k1 _ _ ?_) ⟨Ra,_,rfl,m0,rfl⟩
  ·refine fB hI ?_;rintro R v4 rfl m rfl;refine (?_:aO _ _ [_,_,_,_,some (nv i),_,_,_,_] _ _);refine (?_:aN _ _ _ _);refine dR (i:=0) rfl ?_;refine (?_:aN _ _ _ _);refine aU (hx R) (by rw [hl];exact hi) ?_;refine (?_:bK _ _ _ _ _);refine ez ?_;refine (?_:cz _ _ _);refine ag (λe=>?_) λe=>?_
   ·have e:L.getD i 0≠0:=e;refine (?_:aN _ _ _ _);refine dR (i:=0) rfl ?_;refine (?_:aN _ _ _ _);refine aU (hx R) (by rw [hl];exact hi) ?_;refine (?_:Call _ _ _ _ _);refine tm S g m (mn i e) hi (by rw [mq,Pf (Qr i)]) λR' m'=>?_;refine aQ ?_;exact hn _ _ ⟨R',_,rfl,by rw [<- Ep (hl.symm ▸ hi)];exact m',rfl⟩
   ·exact hn _ _ ⟨R,_,rfl,by rw [<- AW (PR.mp e)];exact m,rfl⟩
  ·refine fB hI λR v4 e1 m e2=>?_;exact ⟨R,v4,e1,by rw [<- Er (L:=L),hl];exact m,e2⟩
 refine fB hI ?_;rintro R v4 rfl m rfl;refine (?_:aN _ _ _ _);refine dR (i:=1) rfl ?_;refine (?_:bj _ _ _ _ _);refine lE S ?_;refine (?_:aN _ _ _ _);refine dR (i:=2) rfl ?_;refine (?_:bj _ _ _ _ _);refine iH S ?_;refine (?_:aN _ _ _ _);refine dR (i:=3) rfl ?_;refine (?_:bj _ _ _ _ _);refine lF S ?_;refine (?_:Call _ _ _ _ _);have g1:ba G { R with af:=az,ab:=ab,ep:=ep }:=m.gd.congr rfl rfl rfl;refine Ld (R:={ R with af:=az,ab:=ab,ep:=ep }) S g (g1.ok hw hr hep) ?_;refine aQ ?_;refine (?_:di _ _ _ _)
 exact aj (h a Hc _ S keep (g1.congr rfl rfl rfl) rfl m.ae rfl rfl rfl m.cx)) ((d,az,ab,H),(H0,G,q,L),(x,ep,σ))
end
structure LS where
 L:List Nat
 az:Nat
 r:Nat
 e:Int
noncomputable def EX:LS:=⟨[],0,0,0⟩
noncomputable def jx (f:Nat) (S:LS) (o t sp pf:Nat):LS:=⟨kE S.L f S.az o t sp pf,1-S.az,lY (kE S.L f S.az o t sp pf) f S.L.length S.r 4,Ae S.L (kE S.L f S.az o t sp pf) f S.az o t⟩
abbrev At (G:aE) (S:LS) (hs:List V) (R:Rw):Prop:=eI True G S.az S.r hs S.L S.e R
noncomputable abbrev LS.v (S:LS) (x:Addr):V:=mN x S.az S.r S.e
section
variable {d k k2 o t sp f wh rf rt:Nat} {H Hb:Hp} {G:aE} {R R':Rw} {a:Ad} {q:V->Hp->Prop} {S:LS} {hs:List V} {x st mv:Addr} {ss ms:List V}
theorem AH (z:Go G R k k2 o t sp f wh rf rt) (g:ba G R') (hb:R'.ae=bP R o t sp f wh rf rt):gg G R' R o t=gg G R R o t:=by
 have P:=z.P;have c2:=P.c2;unfold gg;split
 ·rename_i b1;unfold CN;split
  ·rename_i h2
   have s2:sp≠2:=λe=>by
    subst e;have:=(pZ P.B c2 z.mo.ho (z.mo.pt P)).1;exact h2.elim (λq=>this.1 q) λq=>this.2 q
   have wt:=z.ES.resolve_right λq=>s2 q.1;have s3:sp=0:=h2.elim (λe=>((z.mo.d2 s2 b1).1 e).2.1) λe=>((z.mo.d2 s2 b1).2 e).2.1;have t0:bd R t=0:=h2.elim (λe=>((z.mo.d2 s2 b1).1 e).2.2.1) λe=>((z.mo.d2 s2 b1).2 e).2.2.1
   have e:(K R' 1 &&& Sd R' (1-R.af))=(K R 1 &&& Sd R (1-R.af)):=cH λy=>by
    rw [Qa,aC,aC,g.kb,g.sb,P.g.kb,P.g.sb]
    have hy:bd R' y=(bP R o t sp f wh rf rt).getD y 0:=by rw [<- hb]
    rw [hy];constructor
    ·rintro ⟨⟨h1,h3⟩,_,h4⟩;have:=(oE P z.m h1 h4).1;rw [this];exact ⟨⟨h1,h3⟩,h1,h4⟩
    ·rintro ⟨⟨h1,h3⟩,_,h4⟩
     have:(bP R o t sp f wh rf rt).getD y 0=bd R y:=lN z (λq=>by have:=z.mo.bs;rw [<- q] at this;exact ET (h4.symm.trans this)) (λq=>h1 (q ▸ t0)) (λq=>h1 ((q.trans wt) ▸ t0)) λe=>by lia
     rw [this];exact ⟨⟨h1,h3⟩,h1,h4⟩
   rw [e]
  ·rfl
 ·rfl
theorem Pos.congr (P:Pos G R k k2) (g:ba G R') (h1:R'.ae=R.ae) (h2:R'.af=R.af) (h3:R'.ab=R.ab) (h4:R'.ep=R.ep):Pos G R' k k2:=by
 refine ⟨P.B,g,h2 ▸ P.c2,h3 ▸ P.i8,?_,?_,?_,?_,?_⟩
 ·rw [h1,h2];exact P.kg
 ·rw [h1,h2];exact P.ke
 ·rw [kP g,h1,h2,<- kP P.g];exact P.sf
 ·unfold bd;rw [h1,h3];exact P.rt
 ·unfold ic bd;rw [h1,h2,h4];exact P.ep
theorem At.pos (A:At G S hs R) {hs':List V} (A':At G S hs' R') (P:Pos G R k k2):Pos G R' k k2:=
 P.congr A'.gd (A'.ae.trans A.ae.symm) (A'.af.trans A.af.symm) (A'.ab.trans A.ab.symm) (A'.ep.trans A.ep.symm)
theorem At.jx (A:At G S hs R) (z:Go G R k k2 o t sp f wh rf rt) (D:Done G R o t sp f wh rf rt R'):At G (jx G.aa S o t sp f) (hs++ [iN R o t sp f wh]) R':=by
 have m:=D.m
 have eB:kE S.L G.aa S.az o t sp f=bP R o t sp f wh rf rt:=by rw [<- A.ae,<- A.af];exact wC z
 refine ⟨m.gd,m.key,?_,?_,?_,?_,?_⟩
 ·exact m.af.trans (by rw [A.af];rfl)
 ·refine m.ab.trans ?_;show _=lY (kE S.L G.aa S.az o t sp f) G.aa S.L.length S.r 4;rw [eB,<- A.ae,<- A.ab,z.P.g.bl];exact (wB z).symm
 ·rw [m.cx,A.cx]
 ·exact m.ae.trans eB.symm
 ·refine m.ep.trans ?_;show _=Ae S.L (kE S.L G.aa S.az o t sp f) G.aa S.az o t;rw [eB,<- A.ae,<- A.af];exact (C6 z m.gd m.ae).symm
theorem L3 (S0:fY H a G) (A:At G S hs R) (z:Go G R k k2 o t sp f wh rf rt) (hh:hs.length<100)
 (h:∀R',At G (jx G.aa S o t sp f) (hs++ [iN R o t sp f wh]) R'->Pos G R' k2 (tG k o t)->R'.key=ka G R o t sp f wh rf rt->q .none (H.put a R')):Call (d+4) 40 [.ref a.p,nv (pk o t sp f)] (H.put a R) q:=by
 refine K6 S0 z.P.B.ok z.P.ok z.P.g (A.key trivial) z.m (by rw [A.cx];exact hh) (kX z.P.i8) (λe q=>?_) λR' D=>?_
 ·have:=(z.m.c1 e).1;rcases z.ES with w | w
  ·rw [<- q,w,(z.m.c1 e).2.1] at this;exact absurd (Eq.symm ‹_›) kx
  ·lia
 ·exact h R' (A.jx z D) (Pos.next z D) (EL z.m z.P.g z.P.c2 (A.key trivial) D.m (AH z D.m.gd D.m.ae))
theorem tc (B:BG G) (A:At G S hs R) (z:Go G R k k2 o t sp f wh rf rt) (hL:H x=some (.list (av S.L))) (h:∀b,H b=none->q ((jx G.aa S o t sp f).v b) (H.out b (jx G.aa S o t sp f).L)):Call (d+2) 103 [S.v x,nv (pk o t sp f),nv G.aa] H q:=by
 have hl:S.L.length=G.size:=by rw [<- A.ae];exact z.P.g.bl
 have g:=B.ok;exact HG (rk:=G.bD) hL (Pa QO g.f0) g.qu hl (hl ▸ g.iW) (Pb (by decide) g.r0) (hl ▸ z.mo.ho) (hl ▸ z.mo.ht) z.mo.s4 z.mo.f4 (A.af ▸ z.P.c2) h
theorem Ly (S0:fY H a G) (B:BG G) (A:At G S hs R) (P:Pos G R k k2) (hL:(H.put a R) x=some (.list (av S.L))) (h:q (.bool true) (H.put a R)):Call (d+3) 105 [.ref a.p,S.v x,nv G.aa] (H.put a R) q:=by
 have:=HE (d:=d) (q:=q) (L:=S.L) (x:=x) (S0.w R) B.ok ⟨P.g,P.ok,A.key trivial,A.ae⟩ hL h;rw [A.af,A.ab,A.ep] at this;exact this
structure HF (Hb:Hp) (a:Ad) (G:aE) (st mv:Addr):Prop where
 S:fY Hb a G
 s0:Hb st=none
 m0:Hb mv=none
 ne:st≠mv
 ds:¬dyn a st
 dm:¬dyn a mv
noncomputable def FH (Hb:Hp) (a:Ad) (R:Rw) (st:Addr) (ss:List V) (mv:Addr) (ms:List V):Hp:=((Hb.upd st (.list ss)).upd mv (.list ms)).put a R
theorem i9 {b:Addr} {o:Ob} (h:¬dyn a b):(H.put a R).upd b o=(H.upd b o).put a R:=by
 funext y;unfold Hp.put Hp.upd;by_cases e:y=b
 ·subst e;unfold dyn at h;rw [Po rfl,Pf λz=>h (.inl z),Pf λz=>h (.inr (.inl z)),Pf λz=>h (.inr (.inr (.inl z))),Pf λz=>h (.inr (.inr (.inr (.inl z)))),Pf λz=>h (.inr (.inr (.inr (.inr z)))),Po rfl]
 ·rw [Pf e,Pf e]
theorem fY.mono {H':Hp} (S:fY H a G) (s:H.Sub H'):fY H' a G:=⟨s _ _ S.p,S.T.mono s,S.Z.mono s,S.D,S.r8⟩
theorem HF.sub (F:HF Hb a G st mv):Hb.Sub ((Hb.upd st (.list ss)).upd mv (.list ms)):=Hp.Sub.trans (Hp.ax F.s0) (Hp.ax ((Hp.ay (Ne.symm F.ne)).trans F.m0))
theorem HF.uV (F:HF Hb a G st mv) (ss ms:List V):fY ((Hb.upd st (.list ss)).upd mv (.list ms)) a G:=F.S.mono F.sub
theorem HF.get (F:HF Hb a G st mv) {y:Addr} {o:Ob} (h:Hb y=some o) (hd:¬dyn a y):(FH Hb a R st ss mv ms) y=some o:=(bq hd).trans (F.sub _ _ h)
theorem HF.gs (F:HF Hb a G st mv):(FH Hb a R st ss mv ms) st=some (.list ss):=(bq F.ds).trans ((Hp.ay F.ne).trans (Hp.ai ..))
theorem HF.gm (F:HF Hb a G st mv):(FH Hb a R st ss mv ms) mv=some (.list ms):=(bq F.dm).trans (Hp.ai ..)
theorem HF.us (F:HF Hb a G st mv) {ss':List V}:(FH Hb a R st ss mv ms).upd st (.list ss')=FH Hb a R st ss' mv ms:=by
 unfold FH;rw [i9 F.ds,Hp.bt _ _ _ (Ne.symm F.ne),Hp.eE]
theorem HF.um (F:HF Hb a G st mv) {ms':List V}:(FH Hb a R st ss mv ms).upd mv (.list ms')=FH Hb a R st ss mv ms':=by
 unfold FH;rw [i9 F.dm,Hp.eE]
theorem HF.new (F:HF Hb a G st mv) {b:Addr} (h:(FH Hb a R st ss mv ms) b=none) (o:Ob):(FH Hb a R st ss mv ms).upd b o=FH (Hb.upd b o) a R st ss mv ms/\HF (Hb.upd b o) a G st mv/\Hb.Sub (Hb.upd b o)/\¬dyn a b:=by
 have w:=(F.uV ss ms).w R
 have hd:¬dyn a b:=λz=>by
  unfold FH at h;rcases z with rfl | rfl | rfl | rfl | rfl
  ·exact nomatch w.P.bd.symm.trans h
  ·exact nomatch w.P.kd.symm.trans h
  ·exact nomatch w.P.sd.symm.trans h
  ·exact nomatch w.P.hs.symm.trans h
  ·exact nomatch w.P.dx.symm.trans h
 have h1:=(bq hd).symm.trans h;refine aD (Hp.none_of h1) λhm h2=>?_;refine aD (Hp.none_of h2) λhs h3=>?_;refine ⟨?_,⟨F.S.mono (Hp.ax h3),(Hp.ay (Ne.symm hs)).trans F.s0,(Hp.ay (Ne.symm hm)).trans F.m0,F.ne,F.ds,F.dm⟩,Hp.ax h3,hd⟩;unfold FH;rw [i9 hd,Hp.bt _ _ _ (Ne.symm hm),Hp.bt Hb _ _ (Ne.symm hs)]
end
noncomputable abbrev Rec:=LS×Nat×V
noncomputable def kF (c:List Rec):List V:=(c.map λe=>e.2.2).reverse
noncomputable def ff (c:List Rec):List Nat:=(c.map λe=>e.2.1).reverse
noncomputable def jE (c:List Rec) (S:LS):List LS:=(c.map λe=>e.1).reverse++ [S]
inductive Ms (G:aE) (S0:LS) (m:Nat) (h:V) (hs:List V) (S:LS):Prop
 | mk (R:Rw) (k k2 o t sp f wh rf rt:Nat) (A:At G S0 hs R) (z:Go G R k k2 o t sp f wh rf rt) (hm:m=pk o t sp f) (hh:h=iN R o t sp f wh) (hS:S=jx G.aa S0 o t sp f):Ms G S0 m h hs S
def IE (G:aE):List Rec->LS->Prop
 | [],_=>True
 | (S0,m,h)::c,S=>IE G c S0/\Ms G S0 m h (kF c) S
def yJ (Hb:Hp) (a:Ad) (Ls:List LS) (ss:List V):Prop:=ss.length=Ls.length/\∀(i:Nat) (S:LS),Ls[i]?=some S->∃x,ss[i]?=some (S.v x)/\Hb x=some (.list (av S.L))/\¬dyn a x
section
variable {d k k2 o t sp f wh rf rt:Nat} {H Hb:Hp} {G:aE} {R R':Rw} {a:Ad} {q:V->Hp->Prop} {S S':LS} {hs:List V} {x y st mv:Addr} {ss:List V} {ms:List V} {Q:Fl->Lc->Hp->Prop}
theorem yJ.mono {H':Hp} {Ls:List LS} (h:yJ Hb a Ls ss) (s:Hb.Sub H'):yJ H' a Ls ss:=⟨h.1,λi S e=>by refine gK (h.2 i S e) λx h1 h2 h3=>?_;exact ⟨x,h1,s _ _ h2,h3⟩⟩
theorem yJ.snoc {Ls:List LS} (h:yJ Hb a Ls ss) (h2:Hb x=some (.list (av S.L))) (h3:¬dyn a x):yJ Hb a (Ls++ [S]) (ss++ [S.v x]):=by
 refine ⟨by rw [Pg,Pg,h.1];rfl,λi T e=>?_⟩;rcases PG i Ls.length with z | z
 ·rw [Rh z] at e;refine aq (h.2 i T e) λx' h1 h4=>?_;exact ⟨x',by rw [Rh (h.1.symm ▸ z)];exact h1,h4⟩
 ·rw [QA z] at e
  have hi:i-Ls.length=0:=by
   rcases RX (i-Ls.length) with z' | z'
   ·exact z'
   ·rw [Qx (show [S].length<=_ from z')] at e;cases e
  rw [hi] at e;cases e;exact ⟨x,by rw [QA (h.1.symm ▸ z),h.1,hi];rfl,h2,h3⟩
theorem B4 (h1:H x=some (.list (av S.L))) (h2:H y=some (.list (av S'.L))) (h:q (.bool (decide (S.L=S'.L/\S.az=S'.az/\S.r=S'.r/\S.e=S'.e))) H):bK .eq (S.v x) (S'.v y) H q:=by
 refine .mk ⟨.tup (.cons (.list h1 (cV _)) (.cons (.int _) (.cons (.int _) (.cons (.int _) .nil)))),.tup (.cons (.list h2 (cV _)) (.cons (.int _) (.cons (.int _) (.cons (.int _) .nil)))),?_⟩;rw [PyData.eqv,PyData.eqvAll,rM,PyData.eqvAll,eq_int,PyData.eqvAll,eq_int,PyData.eqvAll,eq_int,PyData.eqvAll]
 have e3:(decide (S.L=S'.L) && (decide ((S.az:Int)=S'.az) && (decide ((S.r:Int)=S'.r) && (decide (S.e=S'.e) && true))))=decide (S.L=S'.L/\S.az=S'.az/\S.r=S'.r/\S.e=S'.e):=by
  rw [Qa,Pe,Pe,Pe,Bool.and_true,Pl,Pl,Pl,Pl,Pl,Int.ofNat_inj,Int.ofNat_inj]
 rw [e3];exact h
theorem z7 {l:List Nat} {m:Nat} (h1:H x=some (.list (av l))) (h:q (.bool (decide (¬m∈l))) H):bK .notin (nv m) (.ref x) H q:=by
 refine .mk (.mk (.list h1 (cV _)) ?_)
 rw [show (!(l.map Int.ofNat).any λz=>z == (m:Int))=decide (¬m∈l) by
  rw [Qa,P4,Pl,<- Bool.not_eq_true,List.any_eq_true];refine not_congr ⟨λ⟨z,h1,h2⟩=>?_,λh=>⟨(m:Int),Rc.mpr ⟨m,h,rfl⟩,QJ.mpr rfl⟩⟩;refine aq (Rc.mp h1) ?_;rintro w hw rfl;have:w=m:=Su (QJ.mp h2)
  exact this ▸ hw]
 exact h
theorem AU {b c:Bool} (h:q (.bool (b == c)) H):bK .eq (.bool b) (.bool c) H q:=.mk ⟨.flat (.bool b),.flat (.bool c),by rw [PyData.eqv];exact h⟩
theorem BU {vs ws:List V} (h1:H x=some (.list vs)) (h2:H y=some (.list ws)) (h:c7 (vs++ws) H q):au .add (.ref x) (.ref y) H q:=eU.cat h1 h2 h
theorem Jn {vs:List V} {j:Nat} (h1:H x=some (.list vs)) (hj:j<=1000) (h:c7 (vs.drop j) H q):dX (.ref x) (nv j) .none H q:=iT.ref h1 (.Mj ⟨PI j,by show (j:Int)<=1000000;exact Rq (Qd.mpr ‹_›) (by decide)⟩ h)
theorem Jm {vs:List V} {j:Nat} (h1:H x=some (.list vs)) (hj:j<=1000) (h:c7 (vs.take j) H q):dX (.ref x) .none (nv j) H q:=iT.ref h1 (.to ⟨PI j,by show (j:Int)<=1000000;exact Rq (Qd.mpr ‹_›) (by decide)⟩ h)
theorem HF.c7 (F:HF Hb a G st mv) {vs:List V} (h0:vs.length<=lim) (h:∀b,HF (Hb.upd b (.list vs)) a G st mv->Hb.Sub (Hb.upd b (.list vs))->¬dyn a b->q (.ref b) (FH (Hb.upd b (.list vs)) a R st ss mv ms)):c7 vs (FH Hb a R st ss mv ms) q:=new_ h0 λb hb=>by
 refine rR (F.new hb (.list vs)) λe F' s hd=>?_;rw [e];exact h b F' s hd
theorem HF.tr (F:HF Hb a G st mv) (P:Pos G R k k2) (h:∀ns b,ns.length<=90000->(∀m∈ns,iU G R k m)->HF (Hb.upd b (.list (av ns))) a G st mv->Hb.Sub (Hb.upd b (.list (av ns)))->¬dyn a b->q (.ref b) (FH (Hb.upd b (.list (av ns))) a R st ss mv ms)):Call (d+12) 95 [.ref a.p] (FH Hb a R st ss mv ms) q:=
 Kk ((F.uV ss ms).w R) P.B.ok P.ok P.cv λns hl hP b hb=>by
  refine rR (F.new hb (.list (av ns))) λe F' s hd=>?_;rw [show (FH Hb a R st ss mv ms).out b ns=_ from e];exact h ns b hl hP F' s hd
def Vd (G:aE) (S:LS):Prop:=∃R hs k k2,At G S hs R/\Pos G R k k2
def pH:Prop:=∀(v:Vd G S) (v':Vd G S'),decide (lsum S.L G.aa S.az S.r S.e=lsum S'.L G.aa S'.az S'.r S'.e)=decide (S.L=S'.L/\S.az=S'.az/\S.r=S'.r/\S.e=S'.e)
theorem Vd.key:@pH G S S':=ao (S:=λx:aE×LS×LS=>@pH x.1 x.2.1 x.2.2) (x:=(bN,EX,EX)) (by
 refine (?_:∀G S S',@pH G S S') _ _ _;intro G S S' v v';refine xC v λR hs k k2 A P=>?_;refine xC v' λR' hs' k' k2' A' P'=>?_
 have b15:∀{R:Rw} {S:LS} {hs},At G S hs R->∀i,S.L.getD i 0<15:=λ{R S hs} A i=>by
  rw [<- A.ae];by_cases z:bd R i=0
  ·exact Pm (Qt z) (by decide)
  ·exact (A.gd.mn i z).1
 have hl:S'.L.length=S.L.length:=by rw [<- A.ae,<- A'.ae,P.g.bl,P'.g.bl]
 refine du ⟨λh=>?_,λ⟨h1,h2,h3,h4⟩=>by rw [h1,h2,h3,h4]⟩;have:=wz hl (b15 A) (b15 A') (Pa QO P.B.ok.f0) (A.ab ▸ P.i8) (A'.ab ▸ P'.i8) (A.af ▸ P.c2) (A'.af ▸ P'.c2) h;refine rQ this λh1 h2 h3 h4 h5=>?_;refine ⟨h1,h2,h3,?_⟩;have e1:=P.ep;have e2:=P'.ep;rw [A.ep,A.af] at e1;rw [A'.ep,A'.af] at e2;rcases e1 with e1 | ⟨n,e1,_,_,_,_,r1⟩
 ·rcases e2 with e2 | ⟨n',e2,_⟩
  ·rw [e1,e2]
  ·lia
 ·rcases e2 with e2 | ⟨n',e2,_,_,_,_,r2⟩
  ·lia
  ·have:=h5 (by lia);rw [e1,e2] at this ⊢;have h6:n%G.aa=n'%G.aa:=this
   have h7:n / G.aa=n' / G.aa:=by rw [r1,r2,h2]
   have:n=n':=by rw [<- QW n G.aa,<- QW n' G.aa,h6,h7]
   rw [this]) (G,S,S')
theorem At.lsum (A:At G S hs R) (P:Pos G R k k2):R.key=lsum S.L G.aa S.az S.r S.e:=by
 rw [A.key trivial,qJ P.g (Pa QO P.B.ok.f0) P.i8,A.ae,A.af,A.ab,A.ep]
end
section
variable {k k2:Nat} {H Hb:Hp} {G:aE} {R R':Rw} {a:Ad} {S Sn:LS} {x st mv:Addr} {ss:List V} {mz:List Nat} {Q:Fl->Lc->Hp->Prop} {v0 v2 v3 v4 v9 v10 v11 v12 v14:Option V} {Ls:List LS}
structure Lp (Hb:Hp) (G:aE) (a:Ad) (st mv:Addr) (n:Nat) (Hb':Hp) (R:Rw) (S:LS) (x:Addr):Prop where
 F:HF Hb' a G st mv
 s:Hb.Sub Hb'
 A:∃hs,At G S hs R/\hs.length<=n
 P:∃k k2,Pos G R k k2
 hx:Hb' x=some (.list (av S.L))
 d:¬dyn a x
inductive LD (Hb:Hp) (G:aE) (a:Ad) (st mv:Addr) (ss:List V) (mz:List Nat) (v0 v2 v3 v4 v9 v12 v13 v14:Option V) (n:Nat):Lc->Hp->Prop
 | mk (Hb':Hp) (R':Rw) (S':LS) (x':Addr) (u10 u11:Option V) (h:Lp Hb G a st mv n Hb' R' S' x'):LD Hb G a st mv ss mz v0 v2 v3 v4 v9 v12 v13 v14 n [v0,some (nv G.aa),v2,v3,v4,some (S'.v x'),some (.ref a.p),some (.ref st),some (.ref mv),v9,u10,u11,v12,v13,v14] (FH Hb' a R' st ss mv (av mz))
inductive Mu (Hb':Hp) (G:aE) (a:Ad) (st mv:Addr) (ss:List V) (mz:List Nat) (R:Rw) (k m:Nat) (ρ:Lc):Lc->Hp->Prop
 | mk (Hb1:Hp) (ns:List Nat) (F:HF Hb1 a G st mv) (s:Hb'.Sub Hb1) (hP:∀m∈ns,iU G R k m) (hm:m∈ns):Mu Hb' G a st mv ss mz R k m ρ ρ (FH Hb1 a R st ss mv (av mz))
def rF:Prop:=∀(B:BG G) (F:HF Hb a G st mv) (A0:At G S [] R) (P0:Pos G R k k2) (hx:Hb x=some (.list (av S.L))) (hxd:¬dyn a x) (h3:3<=mz.length) (h4:mz.length<=4) (T:yJ Hb a Ls ss) (hn:Ls[mz.length]?=some Sn) (hV:Vd G Sn) (hQ:∀ρ H',Q (.ret (.bool true)) ρ H'),aO (Call 20) (uW 12 j6.body) [v0,some (nv G.aa),v2,v3,v4,some (S.v x),some (.ref a.p),some (.ref st),some (.ref mv),v9,v10,v11,v12,some (nv (lsum Sn.L G.aa Sn.az Sn.r Sn.e)),v14] (FH Hb a R st ss mv (av mz)) Q
theorem Gd:@rF k k2 Hb G R a S Sn x st mv ss mz Q v0 v2 v3 v4 v9 v10 v11 v12 v14 Ls:=ao (S:=λx:(Nat×Nat×Hp×aE)×(Rw×Ad×LS×LS)×(Addr×Addr×Addr×List V)×(List Nat×(Fl->Lc->Hp->Prop)×Option V×Option V)×(Option V×Option V×Option V×Option V)×(Option V×Option V×Option V×List LS)=>@rF x.1.1 x.1.2.1 x.1.2.2.1 x.1.2.2.2 x.2.1.1 x.2.1.2.1 x.2.1.2.2.1 x.2.1.2.2.2 x.2.2.1.1 x.2.2.1.2.1 x.2.2.1.2.2.1 x.2.2.1.2.2.2 x.2.2.2.1.1 x.2.2.2.1.2.1 x.2.2.2.1.2.2.1 x.2.2.2.1.2.2.2 x.2.2.2.2.1.1 x.2.2.2.2.1.2.1 x.2.2.2.2.1.2.2.1 x.2.2.2.2.1.2.2.2 x.2.2.2.2.2.1 x.2.2.2.2.2.2.1 x.2.2.2.2.2.2.2.1 x.2.2.2.2.2.2.2.2) (x:=((0,0,λ_=>none,bN),(fC,jX,EX,EX),(0,0,0,[]),([],λ_ _ _=>True,none,none),(none,none,none,none),(none,none,none,[]))) (by
 refine (?_:∀k k2 Hb G R a S Sn x st mv ss mz Q v0 v2 v3 v4 v9 v10 v11 v12 v14 Ls,@rF k k2 Hb G R a S Sn x st mv ss mz Q v0 v2 v3 v4 v9 v10 v11 v12 v14 Ls) _ _ _ _ _ _ _ _ _ _ _ _ _ _ _ _ _ _ _ _ _ _ _ _;intro k k2 Hb G R a S Sn x st mv ss mz Q v0 v2 v3 v4 v9 v10 v11 v12 v14 Ls B F A0 P0 hx hxd h3 h4 T hn hV hQ;refine rh (LD Hb G a st mv ss mz v0 v2 v3 v4 v9 v12 (some (nv (lsum Sn.L G.aa Sn.az Sn.r Sn.e))) v14 50) (λK1 k1 kr _=>?_) λρ' H' hI=>?_
 ·refine (?_:aN _ (nv 2) _ _);refine aU F.gm ‹_› ?_;refine (?_:aN _ (nv 1) _ _);refine aU F.gm (by exact Pw ‹_›) ?_;refine (?_:aN _ (nv 0) _ _);refine aU F.gm (by exact Q5 ‹_›) ?_;refine F.c7 (vs:=av [mz.getD 2 0,mz.getD 1 0,mz.getD 0 0]) (show 3<=1000000 by decide) λb1 F1 s1 d1=>?_;refine (?_:dX _ _ _ _ _);refine Jn (j:=3) F1.gm (by decide) ?_;refine F1.c7 (by rw [Sp,Ph];show _<=1000000;exact Pb (QC _ _) (Pb ‹_› (by decide))) λb2 F2 s2 d2=>?_;refine (?_:au _ _ _ _ _);refine BU (vs:=av [mz.getD 2 0,mz.getD 1 0,mz.getD 0 0]) (ws:=(av mz).drop 3) (F2.get (s2 _ _ (Hp.ai ..)) d1) (F2.get (Hp.ai ..) d2) ?_;rw [show av [mz.getD 2 0,mz.getD 1 0,mz.getD 0 0]++ (av mz).drop 3=av ([mz.getD 2 0,mz.getD 1 0,mz.getD 0 0]++mz.drop 3) by rw [av,av,av,QG,List.map_drop]]
  have hl4:([mz.getD 2 0,mz.getD 1 0,mz.getD 0 0]++mz.drop 3).length<=4:=by
   rw [Pg,Sp];show 3+_<=4;rw [Qk h3];exact h4
  generalize [mz.getD 2 0,mz.getD 1 0,mz.getD 0 0]++mz.drop 3=rs at hl4 ⊢;refine F2.c7 (by rw [Ph];show _<=1000000;exact Pb ‹_› (by decide)) λb3 F3 s3 d3=>?_;have sub:=Hp.Sub.trans s1 (Hp.Sub.trans s2 s3);have e3:∀{Hb'},((((Hb.upd b1 (.list (av [mz.getD 2 0,mz.getD 1 0,mz.getD 0 0]))).upd b2 (.list ((av mz).drop 3))).upd b3 (.list (av rs))).Sub Hb')->Hb' b3=some (.list (av rs)):=λs=>s _ _ (Hp.ai ..);refine (?_:fg _ _ _ _ (FH (((Hb.upd b1 (.list (av [mz.getD 2 0,mz.getD 1 0,mz.getD 0 0]))).upd b2 (.list ((av mz).drop 3))).upd b3 (.list (av rs))) a R st ss mv (av mz)) _);have x3:=sub _ _ hx;have T3:=T.mono sub;generalize ((Hb.upd b1 (.list (av [mz.getD 2 0,mz.getD 1 0,mz.getD 0 0]))).upd b2 (.list ((av mz).drop 3))).upd b3 (.list (av rs))=Hc at F3 sub e3 x3 T3 ⊢;refine forL (F3.get (e3 (Hp.Sub.refl _)) d3) (LD Hc G a st mv ss mz v0 v2 v3 v4 v9 v12 (some (nv (lsum Sn.L G.aa Sn.az Sn.r Sn.e))) v14) (λi v ρ' H' K hv hI hn hr _=>?_) (λρ' H' hI=>?_) ⟨Hc,R,S,x,_,_,⟨F3,Hp.Sub.refl _,⟨[],A0,Pt _⟩,⟨k,k2,P0⟩,x3,hxd⟩⟩
  ·obtain ⟨Hb',R',S',x',u10,u11,⟨F',s',⟨hs,A,hhs⟩,⟨k,k2,P⟩,hx',hd'⟩⟩:=hI;refine ⟨F'.get (e3 s') d3,?_⟩;refine aD (ju rfl hv) ?_;rintro hi rfl;refine (?_:aO _ _ [_,_,_,_,_,_,_,_,_,_,_,some (nv (rs.getD i 0)),_,_,_] _ _);generalize rs.getD i 0=m;refine rh (Mu Hb' G a st mv ss mz R' k m [v0,some (nv G.aa),v2,v3,v4,some (S'.v x'),some (.ref a.p),some (.ref st),some (.ref mv),v9,u10,some (nv m),v12,some (nv (lsum Sn.L G.aa Sn.az Sn.r Sn.e)),v14]) (λK2 k2' kr2 _=>?_) λρ1 H1 hJ=>?_
   ·refine (?_:Call _ _ _ _ _);refine F'.tr P λns b hl hP F1 s1 d1=>?_;refine (?_:bK _ _ _ _ _);refine z7 (F1.get (Hp.ai ..) d1) ?_;refine (?_:cz _ _ _);refine ag (λ_=>?_) λe=>?_
    ·exact kr2 _ _ _ (hr _ _ _ (kr _ _ _ (hQ _ _)))
    ·exact k2' _ _ ⟨_,ns,F1,s1,hP,PR.mp e⟩
   obtain ⟨Hb1,ns,F1,s1,hP,hm⟩:=hJ;obtain ⟨o,t,sp,f,wh,rf,rt,rfl,z⟩:=Go.of P (hP _ hm);refine (?_:Call _ _ _ _ _);refine L3 (F1.uV _ _) A z (by have:i<4:=Pa hi hl4;exact I1 ‹_› ‹_› (by rfl)) λR2 A2 P2 _=>?_;refine aQ ?_;refine (?_:aO _ _ [_,_,_,_,_,_,_,_,_,_,_,_,_,_,_] (FH Hb1 a R2 st ss mv (av mz)) _);refine (?_:Call _ _ _ _ _);refine tc B A z (F1.get (s1 _ _ hx') hd') λb hb=>?_;refine rR (F1.new hb (.list (av (jx G.aa S' o t sp f).L))) λeq4 F4 s4 d4=>?_;rw [show (FH Hb1 a R2 st ss mv (av mz)).out b (jx G.aa S' o t sp f).L=_ from eq4];have x4:(Hb1.upd b (.list (av (jx G.aa S' o t sp f).L))) b=some (.list (av (jx G.aa S' o t sp f).L)):=Hp.ai ..;refine (?_:aO _ _ [_,_,_,_,_,some ((jx G.aa S' o t sp f).v b),_,_,_,_,_,_,_,_,_] (FH (Hb1.upd b (.list (av (jx G.aa S' o t sp f).L))) a R2 st ss mv (av mz)) _);generalize Hb1.upd b (.list (av (jx G.aa S' o t sp f).L))=Hb4 at F4 s4 x4 ⊢;generalize jx G.aa S' o t sp f=S4 at A2 x4 ⊢;refine (?_:Call _ _ _ _ _);refine Ly (F4.uV _ _) B A2 P2 (F4.get x4 d4) ?_;refine (?_:jc _ _ _);refine lR ?_;refine (?_:cz _ _ _);refine gx ?_;exact hn _ _ ⟨Hb4,R2,S4,b,_,_,⟨F4,Hp.Sub.trans s' (Hp.Sub.trans s1 s4),⟨_,A2,by rw [Pg];exact RP hhs⟩,⟨_,_,P2⟩,x4,d4⟩⟩
  ·obtain ⟨Hb',R',S',x',u10,u11,⟨F',s',⟨hs,A,hhs⟩,P,hx',hd'⟩⟩:=hI;rw [Ph] at hhs;exact ⟨F'.get (e3 s') d3,k1 _ _ ⟨Hb',R',S',x',_,_,⟨F',Hp.Sub.trans sub s',⟨hs,A,by exact Mt ‹_› ‹_› (by rfl)⟩,P,hx',hd'⟩⟩⟩
 obtain ⟨Hb',R',S',x',u10,u11,⟨F',s',⟨hs,A,hhs⟩,⟨k,k2,P⟩,hx',hd'⟩⟩:=hI;refine gK (T.2 _ _ hn) λy hy1 hy2 hy3=>?_;have w:=(F'.uV ss (av mz)).w R';refine (?_:dM _ _ _ _);refine aI w rfl ?_;refine (?_:bK _ _ _ _ _);refine aR ?_;refine (?_:bY .len _ _ _);refine l6 F'.gm ?_;rw [Ph];refine (?_:aN _ _ _ _);refine iA F'.gs hy1 ?_;refine (?_:bK _ _ _ _ _);refine B4 (F'.get hx' hd') (F'.get (s' _ _ hy2) hy3) ?_;refine (?_:bK _ _ _ _ _);refine AU ?_;rw [A.lsum P,Vd.key ⟨R',hs,k,k2,A,P⟩ hV,beq_self_eq_true]
 exact hQ _ _) ((k,k2,Hb,G),(R,a,S,Sn),(x,st,mv,ss),(mz,Q,v0,v2),(v3,v4,v9,v10),(v11,v12,v14,Ls))
end
section
variable {k k2:Nat} {H Hb:Hp} {G:aE} {R R':Rw} {a:Ad} {S Sn:LS} {x st mv:Addr} {ss:List V} {Q:Fl->Lc->Hp->Prop} {q:V->Hp->Prop} {v0 v2 v3 v4 v5 v9 v10 v11 v12 v13 v14:Option V} {c:List Rec}
theorem Fw {x y:Int} (h1:-1000000<=x/\x<=1000000) (h2:-1000000<=y/\y<=1000000) (h:q (.fW x y (-1)) H):bY .range [.int x,.int y,.int (-1)] H q:=mC.Cq ⟨h1,h2⟩ rfl h
theorem jL:(ff c).length=c.length:=by unfold ff;rw [Q8,Ph]
theorem DM:(kF c).length=c.length:=by unfold kF;rw [Q8,Ph]
theorem vz:(jE c S)[c.length]?=some S:=by
 unfold jE;rw [QA (by rw [Q8,Ph];exact Pt _),Q8,Ph,SV];rfl
theorem Cb {pre c2:List Rec} {e:Rec}:(jE (pre++e::c2) S)[c2.length]?=some e.1:=by
 unfold jE;rw [QG,Qs,List.reverse_append,SH,Pr,Pr,QA (by rw [Q8,Ph];exact Pt _),Q8,Ph,SV];rfl
theorem tI {S2:LS} {m:Nat} {h:V} {c2:List Rec}:kF ((S2,m,h)::c2)=kF c2++ [h]:=by unfold kF;rw [Qs,SH]
inductive Mx (G:aE) (H:Rw->Hp) (S0:Option LS) (ρ:Option V->Lc):Lc->Hp->Prop
 | mk (R':Rw) (S':LS) (u14:Option V) (k k2:Nat) (A:At G S' [] R') (P:Pos G R' k k2) (hs:S0=some S'):Mx G H S0 ρ (ρ u14) (H R')
inductive Mw (G:aE) (H:Rw->Hp) (c:List Rec) (S:LS) (ρ:Option V->Lc) (i:Nat):Lc->Hp->Prop
 | mk (R':Rw) (S':LS) (pre c':List Rec) (u14:Option V) (k k2:Nat) (hc:c=pre++c') (hp:pre.length=i) (C:IE G c' S') (A:At G S' (kF c') R') (P:Pos G R' k k2) (hs:(jE c S)[c'.length]?=some S'):Mw G H c S ρ i (ρ u14) (H R')
def rG:Prop:=∀(B:BG G) (F:HF Hb a G st mv) (A:At G S (kF c) R) (P:Pos G R k k2) (C:IE G c S) (h4:c.length<=4) (T:yJ Hb a (jE c S) ss) (hQ:∀ρ H',Q (.ret (.bool true)) ρ H'),aO (Call 20) (uW 8 j6.body) [v0,some (nv G.aa),v2,v3,v4,v5,some (.ref a.p),some (.ref st),some (.ref mv),v9,v10,v11,v12,v13,v14] (FH Hb a R st ss mv (av (ff c))) Q
theorem Ge:@rG k k2 Hb G R a S st mv ss Q v0 v2 v3 v4 v5 v9 v10 v11 v12 v13 v14 c:=ao (S:=λx:(Nat×Nat×Hp×aE)×(Rw×Ad×LS×Addr)×(Addr×List V×(Fl->Lc->Hp->Prop)×Option V)×(Option V×Option V×Option V×Option V)×(Option V×Option V×Option V×Option V)×(Option V×Option V×List Rec)=>@rG x.1.1 x.1.2.1 x.1.2.2.1 x.1.2.2.2 x.2.1.1 x.2.1.2.1 x.2.1.2.2.1 x.2.1.2.2.2 x.2.2.1.1 x.2.2.1.2.1 x.2.2.1.2.2.1 x.2.2.1.2.2.2 x.2.2.2.1.1 x.2.2.2.1.2.1 x.2.2.2.1.2.2.1 x.2.2.2.1.2.2.2 x.2.2.2.2.1.1 x.2.2.2.2.1.2.1 x.2.2.2.2.1.2.2.1 x.2.2.2.2.1.2.2.2 x.2.2.2.2.2.1 x.2.2.2.2.2.2.1 x.2.2.2.2.2.2.2) (x:=((0,0,λ_=>none,bN),(fC,jX,EX,0),(0,[],λ_ _ _=>True,none),(none,none,none,none),(none,none,none,none),(none,none,[]))) (by
 refine (?_:∀k k2 Hb G R a S st mv ss Q v0 v2 v3 v4 v5 v9 v10 v11 v12 v13 v14 c,@rG k k2 Hb G R a S st mv ss Q v0 v2 v3 v4 v5 v9 v10 v11 v12 v13 v14 c) _ _ _ _ _ _ _ _ _ _ _ _ _ _ _ _ _ _ _ _ _ _ _;intro k k2 Hb G R a S st mv ss Q v0 v2 v3 v4 v5 v9 v10 v11 v12 v13 v14 c B F A P C h4 T hQ;have g:=B.ok;have hf:0<G.aa:=Pa QO g.f0;have hV:Vd G S:=⟨R,_,k,k2,A,P⟩;refine (?_:dM _ _ _ _);refine aI ((F.uV ss (av (ff c))).w R) rfl ?_;rw [A.lsum P];refine (?_:aO _ _ [_,_,_,_,_,_,_,_,_,_,_,_,_,some (nv (lsum S.L G.aa S.az S.r S.e)),_] _ _)
 let Hf:Rw->Hp:=λR=>FH Hb a R st ss mv (av (ff c))
 let rf:Option V->Lc:=λu=>[v0,some (nv G.aa),v2,v3,v4,v5,some (.ref a.p),some (.ref st),some (.ref mv),v9,v10,v11,v12,some (nv (lsum S.L G.aa S.az S.r S.e)),u]
 refine rh (Mx G Hf (jE c S)[0]? rf) (λK1 k1 kr _=>?_) λρ' H' hI=>?_
 ·refine (?_:bY .len _ _ _);refine l6 F.gm ?_;rw [Ph,jL];refine (?_:au _ _ (.int 1) _ _);refine c8 ?_;refine (?_:oO _ _ _);refine eM ?_;refine (?_:oO _ _ _);refine eM ?_;refine (?_:bY .range [.int ((c.length:Int) -1),.int (-1),.int (-1)] _ _);refine Fw (by lia) (by decide) ?_;refine (?_:fg _ _ _ _ _ _);refine DT (n:=c.length) (f:=λk=>c.length-1-k) vN (Mw G Hf c S rf) (λi ρ' H' K hi hI hn _ _=>?_) (λρ' H' hI=>?_) ⟨R,S,[],c,v14,k,k2,rfl,rfl,C,A,P,vz⟩
  ·obtain ⟨R',S',pre,c',u14,k',k2',hc,hp,C',A',P',hs'⟩:=hI
   cases c' with
   | nil=>rw [hc,QX] at hi;exact absurd hp (P5 hi)
   | cons e c2=>
    obtain ⟨S2,m,h⟩:=e;obtain ⟨C2,R2,k3,k4,o,t,sp,f,wh,rf',rt,A2,z,hm,hh,hS⟩:=C';subst hm;subst hh;subst hS
    have hidx:c.length-1-i=c2.length:=by rw [hc,Pg,hp];show i+(c2.length+1) -1-i=c2.length;rw [<- Q0,Tg,Qz]
    refine (?_:aO _ _ [_,_,_,_,_,_,_,_,_,_,_,_,_,_,some (nv (c.length-1-i))] _ _);rw [hidx];refine (?_:Call _ _ _ _ _)
    have eB:kE S2.L G.aa S2.az o t sp f=bP R2 o t sp f wh rf' rt:=by rw [<- A2.ae,<- A2.af];exact wC z
    refine K5 (hs:=kF c2) (F.uV ss (av (ff c))) g z.P.g z.P.c2 (A2.key trivial) z.m (m1:=⟨A'.gd,A'.key,A'.af.trans (by rw [A2.af];rfl),A'.ab,A'.cx.trans tI,A'.ae.trans eB,A'.ep⟩) λR3 m3=>?_;have A3:At G S2 (kF c2) R3:=⟨m3.gd,m3.key,m3.af.trans A2.af,m3.ab.trans A2.ab,m3.cx,m3.ae.trans A2.ae,m3.ep.trans A2.ep⟩;have P3:=A2.pos A3 z.P
    have hst:(jE c S)[c2.length]?=some S2:=by rw [hc];exact Cb
    refine gK (T.2 _ _ hst) λx2 hx1 hx2 hx3=>?_;have w:=(F.uV ss (av (ff c))).w R3
    have hl:S2.L.length<=25:=by rw [<- A3.ae,P3.g.bl];exact g.iW
    refine aQ ?_;refine (?_:aO _ _ [_,_,_,_,_,_,_,_,_,_,_,_,_,_,_] (FH Hb a R3 st ss mv (av (ff c))) _);refine (?_:dM _ _ _ _);refine aI w rfl ?_;refine (?_:aN _ _ _ _);refine iA F.gs hx1 ?_;refine (?_:aN _ _ _ _);refine dR (i:=0) rfl ?_;refine (?_:bK _ _ _ _ _);refine FU w.P.bd (F.get hx2 hx3) ?_;refine (?_:cz _ _ _);refine ag (λe=>absurd A3.ae e) λ_=>?_;refine (?_:dM _ _ _ _);refine aI w rfl ?_;refine (?_:aN _ _ _ _);refine iA F.gs hx1 ?_;refine (?_:Call _ _ _ _ _);refine BN (F.get hx2 hx3) hf (Pb g.qu (by decide)) hl (λs=>?_) (A3.ab ▸ P3.i8) ?_
    ·rw [<- A3.ae];by_cases z:bd R3 s=0
     ·exact Pm (Qt z) (by decide)
     ·exact (P3.g.mn s z).1
    refine (?_:bK _ _ _ _ _);refine ez ?_;refine (?_:cz _ _ _);refine ag (λe=>absurd (A3.lsum P3) e) λ_=>?_;exact hn _ _ ⟨R3,S2,pre++ [(S2,pk o t sp f,iN R2 o t sp f wh)],c2,some (nv c2.length),_,_,by rw [hc,Pr];rfl,by rw [Pg,hp];rfl,C2,A3,P3,hst⟩
  ·obtain ⟨R',S',pre,c',u14,k',k2',hc,hp,C',A',P',hs'⟩:=hI
   have:c'=[]:=by
    have:=congrArg List.length hc;rw [Pg,hp] at this;exact List.eq_nil_of_length_eq_zero (by lia)
   subst this;exact k1 _ _ ⟨R',S',u14,_,_,A',P',hs'⟩
 obtain ⟨R',S',u14,k',k2',A',P',hs'⟩:=hI;refine gK (T.2 _ _ hs') λx2 hx1 hx2 hx3=>?_;refine rh (λρ' H'=>3<=c.length/\H'=FH Hb a R' st ss mv (av (ff c))/\ρ'=[v0,some (nv G.aa),v2,v3,v4,v5,some (.ref a.p),some (.ref st),some (.ref mv),v9,v10,v11,v12,some (nv (lsum S.L G.aa S.az S.r S.e)),u14]) (λK1 k1 kr _=>?_) λρ' H' hI=>?_
 ·refine (?_:bY .len _ _ _);refine l6 F.gm ?_;rw [Ph,jL];refine (?_:bK _ _ (nv 3) _ _);refine rU ?_;refine (?_:cz _ _ _);refine ag (λ_=>?_) λe=>?_
  ·exact kr _ _ _ (hQ _ _)
  ·exact k1 _ _ ⟨Rx e,rfl,rfl⟩
 refine dH hI ?_;rintro h3 rfl rfl;refine (?_:aN _ (nv 0) _ _);refine iA F.gs hx1 ?_
 refine Gd (S:=S') B F A' P' hx2 hx3 (by rw [jL];exact h3) (by rw [jL];exact h4) T (by rw [jL];exact vz) hV hQ) ((k,k2,Hb,G),(R,a,S,st),(mv,ss,Q,v0),(v2,v3,v4,v5),(v9,v10,v11,v12),(v13,v14,c))
end
section
variable {k k2:Nat} {H Hb Hs:Hp} {G:aE} {R R':Rw} {a:Ad} {S Sn:LS} {x st mv sc:Addr} {ss:List V} {Q:Fl->Lc->Hp->Prop} {q:V->Hp->Prop} {v0 v2 v3 v4 v5 v7 v8 v9 v10 v11 v12 v13 v14:Option V} {c:List Rec} {is:List Int}
theorem zv {l:List Nat} (h1:H x=some (.list (av l))) (h:∀ms:List Nat,ms.length=l.length->(∀m∈ms,m∈l)->c7 (av ms) H q):bY .sorted [.ref x] H q:=by
 refine mC.sorted h1 (cV _) λys hp _=>?_
 have hy:∀y∈ys,∃m∈l,y=(m:Int):=λy hy=>by
  refine aq (Rc.mp (hp.subset hy)) λm hm e=>?_;exact ⟨m,hm,e.symm⟩
 have e:ys.map V.int=av (ys.map Int.toNat):=by
  rw [av,RB];refine Qv λy h=>?_;refine aq (hy y h) ?_;rintro m _ rfl;rfl
 rw [e];refine h _ (by rw [Ph,hp.length_eq,Ph]) λm hm=>?_;refine aq (Rc.mp hm) ?_;rintro y h2 rfl;refine aq (hy y h2) ?_;rintro m h3 rfl;exact h3
structure L1 (Hb:Hp) (G:aE) (a:Ad) (st mv:Addr) (n:Nat) (Hb':Hp) (R:Rw) (S:LS) (x:Addr) (ss:List V) (c:List Rec):Prop where
 F:HF Hb' a G st mv
 s:Hb.Sub Hb'
 A:At G S (kF c) R
 P:∃k k2,Pos G R k k2
 C:IE G c S
 l:c.length<=n
 T:yJ Hb' a (jE c S) ss
 hx:Hb' x=some (.list (av S.L))
 d:¬dyn a x
inductive LB (Hb:Hp) (G:aE) (a:Ad) (st mv sc:Addr) (v2 v3 v4 v13 v14:Option V) (n:Nat):Lc->Hp->Prop
 | mk (Hb':Hp) (R':Rw) (S':LS) (x':Addr) (ss':List V) (c:List Rec) (u9 u10 u11 u12:Option V) (h:L1 Hb G a st mv n Hb' R' S' x' ss' c):LB Hb G a st mv sc v2 v3 v4 v13 v14 n [some (.ref sc),some (nv G.aa),v2,v3,v4,some (S'.v x'),some (.ref a.p),some (.ref st),some (.ref mv),u9,u10,u11,u12,v13,v14] (FH Hb' a R' st ss' mv (av (ff c)))
def rH:Prop:=∀(B:BG G) (S0:fY Hs a G) (A0:At G S [] R) (P0:Pos G R k k2) (hx:Hs x=some (.list (av S.L))) (hxd:¬dyn a x) (hsc:Hs sc=some (.list (is.map .int))) (hscd:¬dyn a sc) (hQ:∀ρ H',Q (.ret (.bool true)) ρ H'),aO (Call 20) (uW 5 j6.body) [some (.ref sc),some (nv G.aa),v2,v3,v4,some (S.v x),some (.ref a.p),v7,v8,v9,v10,v11,v12,v13,v14] (Hs.put a R) Q
theorem Gf:@rH k k2 Hs G R a S x sc Q v2 v3 v4 v7 v8 v9 v10 v11 v12 v13 v14 is:=ao (S:=λx:(Nat×Nat×Hp×aE)×(Rw×Ad×LS×Addr)×(Addr×(Fl->Lc->Hp->Prop)×Option V×Option V)×(Option V×Option V×Option V×Option V)×(Option V×Option V×Option V×Option V)×(Option V×List Int)=>@rH x.1.1 x.1.2.1 x.1.2.2.1 x.1.2.2.2 x.2.1.1 x.2.1.2.1 x.2.1.2.2.1 x.2.1.2.2.2 x.2.2.1.1 x.2.2.1.2.1 x.2.2.1.2.2.1 x.2.2.1.2.2.2 x.2.2.2.1.1 x.2.2.2.1.2.1 x.2.2.2.1.2.2.1 x.2.2.2.1.2.2.2 x.2.2.2.2.1.1 x.2.2.2.2.1.2.1 x.2.2.2.2.1.2.2.1 x.2.2.2.2.1.2.2.2 x.2.2.2.2.2.1 x.2.2.2.2.2.2) (x:=((0,0,λ_=>none,bN),(fC,jX,EX,0),(0,λ_ _ _=>True,none,none),(none,none,none,none),(none,none,none,none),(none,[]))) (by
 refine (?_:∀k k2 Hs G R a S x sc Q v2 v3 v4 v7 v8 v9 v10 v11 v12 v13 v14 is,@rH k k2 Hs G R a S x sc Q v2 v3 v4 v7 v8 v9 v10 v11 v12 v13 v14 is) _ _ _ _ _ _ _ _ _ _ _ _ _ _ _ _ _ _ _ _ _ _;intro k k2 Hs G R a S x sc Q v2 v3 v4 v7 v8 v9 v10 v11 v12 v13 v14 is B S0 A0 P0 hx hxd hsc hscd hQ;have g:=B.ok;refine new_ (show 1<=1000000 by decide) λst hst=>?_;refine (?_:aO _ _ [_,_,_,_,_,_,_,some (.ref st),_,_,_,_,_,_,_] _ _);refine new_ (show 0<=1000000 by decide) λmv hmv=>?_;refine (?_:aO _ _ [_,_,_,_,_,_,_,_,some (.ref mv),_,_,_,_,_,_] (((Hs.put a R).upd st (.list [S.v x])).upd mv (.list [])) _)
 have ndy:∀{b:Addr},(Hs.put a R) b=none->¬dyn a b:=λ{b} h z=>by
  have w:=S0.w R;rcases z with rfl | rfl | rfl | rfl | rfl
  ·exact nomatch w.P.bd.symm.trans h
  ·exact nomatch w.P.kd.symm.trans h
  ·exact nomatch w.P.sd.symm.trans h
  ·exact nomatch w.P.hs.symm.trans h
  ·exact nomatch w.P.dx.symm.trans h
 refine aD (Hp.none_of hmv) λhms hmv=>?_;have F:HF Hs a G st mv:=⟨S0,(bq (ndy hst)).symm.trans hst,(bq (ndy hmv)).symm.trans hmv,Ne.symm hms,ndy hst,ndy hmv⟩;rw [i9 F.ds,i9 F.dm];refine (?_:aO _ _ _ (FH Hs a R st [S.v x] mv (av (ff []))) _)
 have T0:yJ Hs a (jE [] S) [S.v x]:=⟨rfl,λi T e=>by
  rcases i with _ | i
  ·cases e;exact ⟨x,rfl,hx,hxd⟩
  ·cases e⟩
 refine rh (LB Hs G a st mv sc v2 v3 v4 v13 v14 4) (λK1 k1 kr _=>?_) λρ' H' hI=>?_
 ·refine (?_:dX _ _ _ _ _);refine Fq (a:=7) (b:=11) (F.get hsc hscd) (by decide) (by decide) ?_
  have hi0:∀v∈((is.map V.int).take 11).drop 7,∃n:Int,v=V.int n:=λv e=>by
   refine aq (Rc.mp (RM (S9 e))) ?_;rintro n _ rfl;exact ⟨n,rfl⟩
  have hl0:(((is.map V.int).take 11).drop 7).length<=4:=by rw [Sp,RT];exact Nat.sub_le_sub_right (SX _ _) 7
  generalize ((is.map V.int).take 11).drop 7=l1 at hi0 hl0 ⊢;refine F.c7 (show l1.length<=1000000 by exact Pb ‹_› (by decide)) λb1 F1 s1 d1=>?_;refine F1.c7 (vs:=[.int 0,.int 0,.int 0]) (show 3<=1000000 by decide) λb2 F2 s2 d2=>?_;refine (?_:au _ _ _ _ _);refine BU (vs:=l1) (ws:=[.int 0,.int 0,.int 0]) (F2.get (s2 _ _ (Hp.ai ..)) d1) (F2.get (Hp.ai ..) d2) ?_;refine F2.c7 (show (l1++ [V.int 0,V.int 0,V.int 0]).length<=1000000 by rw [Pg];show _+3<=_;exact Pb (RL ‹_› _) (by decide)) λb3 F3 s3 d3=>?_;refine (?_:dX _ _ (nv 4) _ _);refine Jm (j:=4) (F3.get (Hp.ai ..) d3) (by decide) ?_
  have hi1:∀v∈(l1++ [V.int 0,V.int 0,V.int 0]).take 4,∃n:Int,v=V.int n:=λv e=>by
   rcases PZ.mp (RM e) with z | z
   ·exact hi0 v z
   ·refine ⟨0,?_⟩;simpa using z
  have hl1:((l1++ [V.int 0,V.int 0,V.int 0]).take 4).length<=4:=by rw [RT];exact SX _ _
  generalize (l1++ [V.int 0,V.int 0,V.int 0]).take 4=l4 at hi1 hl1 ⊢;refine F3.c7 (show l4.length<=1000000 by exact Pb ‹_› (by decide)) λb4 F4 s4 d4=>?_;have sub:=Hp.Sub.trans s1 (Hp.Sub.trans s2 (Hp.Sub.trans s3 s4));refine (?_:fg _ _ _ _ (FH ((((Hs.upd b1 (.list l1)).upd b2 (.list [.int 0,.int 0,.int 0])).upd b3 (.list (l1++ [V.int 0,V.int 0,V.int 0]))).upd b4 (.list l4)) a R st [S.v x] mv (av (ff []))) _);have e4:((((Hs.upd b1 (.list l1)).upd b2 (.list [.int 0,.int 0,.int 0])).upd b3 (.list (l1++ [V.int 0,V.int 0,V.int 0]))).upd b4 (.list l4)) b4=some (.list l4):=Hp.ai ..;generalize (((Hs.upd b1 (.list l1)).upd b2 (.list [.int 0,.int 0,.int 0])).upd b3 (.list (l1++ [V.int 0,V.int 0,V.int 0]))).upd b4 (.list l4)=Hc at F4 sub e4 ⊢;refine forL (F4.get e4 d4) (LB Hc G a st mv sc v2 v3 v4 v13 v14) (λi v ρ' H' K hv hI hn hr hb=>?_) (λρ' H' hI=>?_) ⟨Hc,R,S,x,_,[],_,_,_,_,⟨F4,Hp.Sub.refl _,A0,⟨k,k2,P0⟩,trivial,Pt _,T0.mono sub,sub _ _ hx,hxd⟩⟩
  ·obtain ⟨Hb',R',S',x',ss',c,u9,u10,u11,u12,⟨F',s',A,⟨k,k2,P⟩,C,hl,T,hx',hd'⟩⟩:=hI;refine bI (hi1 v (PY hv)) ?_;rintro n rfl;have hi:i<4:=Pa (Pz.mp hv).1 hl1;refine ⟨F'.get (s' _ _ e4) d4,?_⟩;refine (?_:aO _ _ [_,_,_,_,_,_,_,_,_,some (.int n),_,_,_,_,_] _ _);refine (?_:Call _ _ _ _ _);refine F'.tr P λns b hnl hP F1 s1 d1=>?_;refine (?_:bY .sorted _ _ _);refine zv (F1.get (Hp.ai ..) d1) λms hml hms=>?_;refine F1.c7 (by rw [Ph,hml];show _<=1000000;exact Pb ‹_› (by decide)) λb2 F2 s2 d2=>?_;have em:((Hb'.upd b (.list (av ns))).upd b2 (.list (av ms))) b2=some (.list (av ms)):=Hp.ai ..;have s12:=Hp.Sub.trans s1 s2;refine (?_:aO _ _ [_,_,_,_,_,_,_,_,_,_,some (.ref b2),_,_,_,_] (FH ((Hb'.upd b (.list (av ns))).upd b2 (.list (av ms))) a R' st ss' mv (av (ff c))) _);generalize (Hb'.upd b (.list (av ns))).upd b2 (.list (av ms))=Hb2 at F2 em s12 ⊢;have T2:=T.mono s12;have x2:=s12 _ _ hx';refine rh (λρ1 H1=>ms.length≠0/\H1=FH Hb2 a R' st ss' mv (av (ff c))/\ρ1=[some (.ref sc),some (nv G.aa),v2,v3,v4,some (S'.v x'),some (.ref a.p),some (.ref st),some (.ref mv),some (.int n),some (.ref b2),u11,u12,v13,v14]) (λK2 k2' _ kb=>?_) λρ1 H1 hJ=>?_
   ·refine (?_:bY .len _ _ _);refine l6 (F2.get em d2) ?_;rw [Ph];refine (?_:bK _ _ (nv 0) _ _);refine aR ?_;refine (?_:cz _ _ _);refine ag (λ_=>?_) λe=>?_
    ·exact kb _ _ (hb _ _ (k1 _ _ ⟨Hb2,R',S',x',ss',c,_,_,_,_,⟨F2,Hp.Sub.trans sub (Hp.Sub.trans s' s12),A,⟨k,k2,P⟩,C,by exact Pb ‹_› (Pw ‹_›),T2,x2,hd'⟩⟩))
    ·exact k2' _ _ ⟨e,rfl,rfl⟩
   refine dH hJ ?_;rintro hne rfl rfl;refine (?_:bY .len _ _ _);refine l6 (F2.get em d2) ?_;rw [Ph];refine (?_:au _ _ _ _ _);refine fO hne λm hm _=>?_;refine (?_:aN _ _ _ _);refine aU (F2.get em d2) hm ?_;have hmem:ms.getD m 0∈ns:=hms _ (by rw [Pc,Pk hm];exact Rb hm);obtain ⟨o,t,sp,f,wh,rf,rt,e,z⟩:=Go.of P (hP _ hmem);rw [e];refine (?_:aO _ _ [_,_,_,_,_,_,_,_,_,_,_,some (nv (pk o t sp f)),_,_,_] _ _);refine (?_:Call _ _ _ _ _);refine K4 ((F2.uV _ _).w R') g z.P.g z.P.ok z.m (kX z.P.i8) ?_;refine (?_:aO _ _ [_,_,_,_,_,_,_,_,_,_,_,_,some (nv (ka G R' o t sp f wh rf rt)),_,_] _ _);refine (?_:Call _ _ _ _ _);refine L3 (F2.uV _ _) A z (by rw [DM];exact I1 ‹_› ‹_› (by rfl)) λR2 A2 P2 hka=>?_;refine aQ ?_;refine (?_:aO _ _ [_,_,_,_,_,_,_,_,_,_,_,_,_,_,_] (FH Hb2 a R2 st ss' mv (av (ff c))) _);refine (?_:Call _ _ _ _ _);refine tc B A z (F2.get x2 hd') λb hb5=>?_;refine rR (F2.new hb5 (.list (av (jx G.aa S' o t sp f).L))) λeq4 F5 s5 d5=>?_;rw [show (FH Hb2 a R2 st ss' mv (av (ff c))).out b (jx G.aa S' o t sp f).L=_ from eq4];have x5:(Hb2.upd b (.list (av (jx G.aa S' o t sp f).L))) b=some (.list (av (jx G.aa S' o t sp f).L)):=Hp.ai ..;refine (?_:aO _ _ [_,_,_,_,_,some ((jx G.aa S' o t sp f).v b),_,_,_,_,_,_,_,_,_] (FH (Hb2.upd b (.list (av (jx G.aa S' o t sp f).L))) a R2 st ss' mv (av (ff c))) _);generalize Hb2.upd b (.list (av (jx G.aa S' o t sp f).L))=Hb5 at F5 s5 x5 ⊢;have C5:IE G ((S',pk o t sp f,iN R' o t sp f wh)::c) (jx G.aa S' o t sp f):=⟨C,R',k,k2,o,t,sp,f,wh,rf,rt,A,z,rfl,rfl,rfl⟩
   have T5:yJ Hb5 a (jE ((S',pk o t sp f,iN R' o t sp f wh)::c) (jx G.aa S' o t sp f)) (ss'++ [(jx G.aa S' o t sp f).v b]):=by
    have:=(T2.mono s5).snoc (S:=jx G.aa S' o t sp f) x5 d5;unfold jE at this ⊢;rw [Qs,SH];exact this
   have A5:At G (jx G.aa S' o t sp f) (kF ((S',pk o t sp f,iN R' o t sp f wh)::c)) R2:=by rw [tI];exact A2
   generalize jx G.aa S' o t sp f=S5 at A5 A2 C5 T5 x5 ⊢;refine Co (FH Hb5 a R2 st ss' mv (av (ff c))) (λK' j=>?_) ?_
   ·refine (?_:dM _ _ _ _);refine aI ((F5.uV _ _).w R2) rfl ?_;refine (?_:bK _ _ _ _ _);refine ez ?_;refine (?_:cz _ _ _);refine ag (λe=>absurd hka.symm e) λ_=>?_;refine (?_:Call _ _ _ _ _);refine Ly (F5.uV _ _) B A2 P2 (F5.get x5 d5) ?_;refine (?_:jc _ _ _);refine lR ?_;refine (?_:cz _ _ _);refine gx ?_;exact j
   have ml:(av (ff c)).length<1000000:=by rw [Ph,jL];exact I1 ‹_› ‹_› (by rfl)
   have sl:ss'.length<1000000:=by rw [T.1];unfold jE;rw [Pg,Q8,Ph];show _+1<_;lia
   refine ⟨gJ F5.gm,?_⟩;refine (?_:dB _ _ _ _);refine qF F5.gm ml ?_;refine aQ ?_
   rw [show (FH Hb5 a R2 st ss' mv (av (ff c))).upd mv (.list (av (ff c)++ [nv (pk o t sp f)]))=FH Hb5 a R2 st ss' mv (av (ff ((S',pk o t sp f,iN R' o t sp f wh)::c))) by
    rw [F5.um];unfold ff av;rw [Qs,SH,QG];rfl]
   refine (?_:aO _ _ [_,_,_,_,_,_,_,_,_,_,_,_,_,_,_] (FH Hb5 a R2 st ss' mv (av (ff ((S',pk o t sp f,iN R' o t sp f wh)::c)))) _);refine ⟨gJ F5.gs,?_⟩;refine (?_:dB _ _ _ _);refine qF F5.gs sl ?_;refine aQ ?_;rw [F5.us];exact hn _ _ ⟨Hb5,R2,S5,b,_,_,_,_,_,_,⟨F5,Hp.Sub.trans s' (Hp.Sub.trans s12 s5),A5,⟨_,_,P2⟩,C5,RP hl,T5,x5,d5⟩⟩
  ·obtain ⟨Hb',R',S',x',ss',c,u9,u10,u11,u12,⟨F',s',A,P,C,hl,T,hx',hd'⟩⟩:=hI;exact ⟨F'.get (s' _ _ e4) d4,k1 _ _ ⟨Hb',R',S',x',ss',c,_,_,_,_,⟨F',Hp.Sub.trans sub s',A,P,C,Pb hl hl1,T,hx',hd'⟩⟩⟩
 obtain ⟨Hb',R',S',x',ss',c,u9,u10,u11,u12,⟨F',s',A,⟨k,k2,P⟩,C,hl,T,hx',hd'⟩⟩:=hI
 exact Ge B F' A P C hl T hQ) ((k,k2,Hs,G),(R,a,S,x),(sc,Q,v2,v3),(v4,v7,v8,v9),(v10,v11,v12,v13),(v14,is))
end
section
variable {d k k2 r az:Nat} {H Hb Hs:Hp} {G:aE} {R R':Rw} {a:Ad} {S Sn:LS} {x st mv sc:Addr} {Q:Fl->Lc->Hp->Prop} {q:V->Hp->Prop} {is:List Int} {L:List Nat} {ep:Int}
theorem Em.sub {H0:Hp} {σ:Nat->Addr} {C:Ch} (m:Em H0 σ C H):H0.Sub H:=λy o e=>by
 rw [m.off y λi hi z=>by have:=m.fr i hi;rw [z,e] at this;cases this];exact e
def mJ:Prop:=∀(B:BG G) (D:u7 G L r az k k2) (hw:az<2) (he:ep=-1\/∃n:Nat,ep=n/\yN G.aa G.bD L az n) (g:ba G R) (hb:R.ae=L) (hs:R.af=az) (hr:R.ab=r) (h4:R.ep=ep),Pos G R k k2
theorem u7.pos:@mJ k k2 r az G R L ep:=ao (S:=λx:(Nat×Nat×Nat×Nat)×(aE×Rw×List Nat×Int)=>@mJ x.1.1 x.1.2.1 x.1.2.2.1 x.1.2.2.2 x.2.1 x.2.2.1 x.2.2.2.1 x.2.2.2.2) (x:=((0,0,0,0),(bN,fC,[],0))) (by
 refine (?_:∀k k2 r az G R L ep,@mJ k k2 r az G R L ep) _ _ _ _ _ _ _ _;intro k k2 r az G R L ep B D hw he g hb hs hr h4;subst hb hs hr h4;refine ⟨B,g,hw,D.i8,D.kg,D.ke,?_,D.rt,?_⟩
 ·rw [kP g];exact D.sf
 ·rcases he with h | ⟨n,h,h1,h2,h3,h4,h5⟩
  ·exact .inl h
  ·exact .inr ⟨n,h,h1,h2,h3,h4,h5⟩) ((k,k2,r,az),(G,R,L,ep))
theorem rI (B:BG G) (hrun:i7 code 20 20 [nv G.aa,nv G.bD,.bool G.dbl,.bool G.gH] []=some (.ref 1,uN G)) (hsc:H sc=some (.list (is.map .int))) (hQ:∀ρ H',Q (.ret (.bool true)) ρ H') :
 aO (Call 20) (uW 2 j6.body) [some (.ref sc),some (nv G.aa),some (nv G.bD),some (.bool G.dbl),some (.bool G.gH),none,none,none,none,none,none,none,none,none,none] H Q:=by
 refine (?_:Call _ _ _ _ _);refine HH (d:=17) hsc B λb L az r ep k k2 hb hw D he=>?_;refine (?_:aO _ _ [_,_,_,_,_,some (mN b az r ep),_,_,_,_,_,_,_,_,_] _ _);refine (?_:Call _ 20 _ _ _);refine xK rfl hrun λσ H' m=>?_;have s1:=m.sub;have hbL:H' b=some (.list (av L)):=s1 _ _ (Hp.ai ..);have hsc':H' sc=some (.list (is.map .int)):=s1 _ _ ((Hp.ay (Hp.dJ hsc hb)).trans hsc);refine (?_:Call _ 106 [.ref (σ 1),mN b az r ep,nv G.aa] _ _);refine HD (d:=16) B m hbL D.len D.mn hw D.i8 (he.elim .inl λ⟨n,h,h1,h2,_⟩=>.inr ⟨by rw [h];exact Qd.mpr h1,by rw [h];exact Int.ofNat_lt.mpr h2⟩) λa Hs R S keep g key hbd hsd hrt hep hhs=>?_;have P:=D.pos B hw he g hbd hsd hrt hep;have A:At G ⟨L,az,r,ep⟩ [] R:=⟨g,λ_=>key,hsd,hrt,hhs,hbd,hep⟩;have kb:=keep _ _ hbL;have ks:=keep _ _ hsc';refine (?_:aO _ _ [_,_,_,_,_,_,some (.ref a.p),_,_,_,_,_,_,_,_] _ _);refine Co (Hs.put a R) (λK' j=>?_) ?_
 ·refine (?_:Call _ _ _ _ _);refine Ly (S:=⟨L,az,r,ep⟩) (d:=17) S B A P ((bq kb.1).trans kb.2) ?_;refine (?_:jc _ _ _);refine lR ?_;refine (?_:cz _ _ _);refine gx ?_;exact j
 exact Gf (S:=⟨L,az,r,ep⟩) B S A P kb.2 kb.1 ks.2 ks.1 hQ
theorem Fs {vs:List V} {j:Nat} (hj:j<=1000) (h:c7 (vs.take j) H q):dX (.nG vs) .none (nv j) H q:=iT.nG (.to ⟨PI j,by show (j:Int)<=1000000;exact Rq (Qd.mpr ‹_›) (by decide)⟩ h)
theorem Kj (h:∀b,H b=none->q (.ref b) (H.upd b (.list [.tup [.int 4,.int 5,.bool true,.bool false],.tup [.int 7,.int 3,.bool false,.bool true],.tup [.int 5,.int 5,.bool true,.bool false]]))):Call (d+1) 96 [] H q:=by
 refine ar rfl rfl ?_;refine ⟨show 4<=1000 by decide,show 4<=1000 by decide,show 4<=1000 by decide,?_⟩;refine new_ (show 3<=1000000 by decide) λb hb=>?_;refine (?_:di _ _ _ _);exact aj (h b hb)
theorem Gg (hQ:∀ρ H',Q (.ret (.bool true)) ρ H'):aO (Call 20) j6.body [some (.nG (is.map .int)),none,none,none,none,none,none,none,none,none,none,none,none,none,none] H Q:=by
 refine (?_:dX _ _ (nv 24) _ _);refine Fs (by decide) ?_;refine new_ (by rw [RT];show _<=1000000;lia) λsc hsc=>?_;refine (?_:aO _ _ [some (.ref sc),_,_,_,_,_,_,_,_,_,_,_,_,_,_] _ _);refine (?_:Call _ _ _ _ _);refine Kj (d:=19) λb hb=>?_;refine aD (Hp.none_of hb) λhbs hbn=>?_
 have e1:((H.upd sc (.list ((is.map V.int).take 24))).upd b (.list [.tup [.int 4,.int 5,.bool true,.bool false],.tup [.int 7,.int 3,.bool false,.bool true],.tup [.int 5,.int 5,.bool true,.bool false]])) sc=some (.list ((is.take 24).map .int)):=by
  rw [Hp.ay (Ne.symm hbs),Hp.ai,List.map_take]
 have e2:((H.upd sc (.list ((is.map V.int).take 24))).upd b (.list [.tup [.int 4,.int 5,.bool true,.bool false],.tup [.int 7,.int 3,.bool false,.bool true],.tup [.int 5,.int 5,.bool true,.bool false]])) b=_:=Hp.ai ..;generalize (H.upd sc (.list ((is.map V.int).take 24))).upd b (.list [.tup [.int 4,.int 5,.bool true,.bool false],.tup [.int 7,.int 3,.bool false,.bool true],.tup [.int 5,.int 5,.bool true,.bool false]])=H1 at e1 e2 ⊢;refine (?_:Call _ _ _ H1 _);refine AQ (k:=0) (d:=19) e1 ?_;refine (?_:au _ _ _ _ _);refine fO (y:=3) (by decide) λm hm _=>?_;refine (?_:aN _ _ _ _)
 match m,hm with
 | 0,_=>
  refine iA (i:=0) e2 rfl ?_;refine (?_:tupK _ _ _ _);refine mM rfl ?_;exact rI (G:=mI) (.inl rfl) Fv e1 hQ
 | 1,_=>
  refine iA (i:=1) e2 rfl ?_;refine (?_:tupK _ _ _ _);refine mM rfl ?_;exact rI (G:=kz) (.inr (.inl rfl)) Ft e1 hQ
 | 2,_=>
  refine iA (i:=2) e2 rfl ?_;refine (?_:tupK _ _ _ _);refine mM rfl ?_;exact rI (G:=mH) (.inr (.inr rfl)) Fu e1 hQ
end
end Internal
end
section
open PySem PySem.W PyProof.Rows
namespace Internal
section
variable {prog:Program} {w:World} {A:Around} {E:Value->Shared->Prop} {s:Shared}
theorem we {vs:List Value} {ns:List Int} (hI:IntsAre vs ns) {xs:Array Keyed} (hp:xs.Perm (pairsOf vs)):∃ns',IntsAre (xs.map (·.2)).toList ns'/\ns'.Perm ns:=by
 have hl:(xs.map (·.2)).toList.Perm vs:=by
  have h:=(RK.mp hp).map (·.2);rw [pairsOf_toList,<- Array.toList_map,List.map_snd_zip (Pt _)] at h;exact h
 refine ⟨_,intsAre_map _ λv hv=>hI.all v (hl.mem_iff.mp hv),?_⟩;have:=hl.map numOf;rw [hI.nums] at this;exact this
def oW {a:Addr} {vs:List Value} {ns:List Int} {n:Nat} {P:Fin->Shared->Prop}:Prop:=∀(ho:s.heap.get? a=some (seqObj "list" vs.toArray n)) (hI:IntsAre vs ns) (h2:2<=vs.length) (hl:vs.length<=sizeLine) (h:∀(out:Array Value) (ns':List Int),IntsAre out.toList ns'->ns'.Perm ns->P (.done (.ret .none)) { s with heap:=sortedHeap s.heap a vs out }),wpAny (model prog w) A (Builtin.«list.sort» ⟨[.ref a],[]⟩) P E s
theorem Dm {a:Addr} {vs:List Value} {ns:List Int} {n:Nat} {P:Fin->Shared->Prop}:@oW prog w A E s a vs ns n P:=ao (S:=λx:(Program×World×Around×(Value->Shared->Prop))×(Shared×Addr×List Value×List Int)×(Nat×(Fin->Shared->Prop))=>@oW x.1.1 x.1.2.1 x.1.2.2.1 x.1.2.2.2 x.2.1.1 x.2.1.2.1 x.2.1.2.2.1 x.2.1.2.2.2 x.2.2.1 x.2.2.2) (x:=((default,dW,{},λ_ _=>True),({},0,[],[]),(0,λ_ _=>True))) (by
 refine (?_:∀prog w A E s a vs ns n P,@oW prog w A E s a vs ns n P) _ _ _ _ _ _ _ _ _ _;intro prog w A E s a vs ns n P ho hI h2 hl h;have hsz:vs.toArray.size=vs.length:=Qp ..;have ha:a<s.heap.objs.size:=Heap.lt_size ho;rw [list_sort_plain];refine wpAny_bind (listItems_at ho rfl ?_);refine wpAny_bind (listUpdate_at ho rfl ?_ (by rw [hsz];exact hl) (by show 0<=_;exact Qc _));obtain ⟨e1,ho1⟩:∃e1,(s.heap.update a (Obj.mapSeq λ_=>#[])).get? a=some (seqObj "list" #[] e1):=⟨_,get?_update_seq ho (λ_=>#[])⟩;refine wpAny_bind (seqEpoch_at ho1 rfl ?_);refine wpAny_bind (wpAny_newTuple ?_);refine wpAny_bind (wpAny_newList ?_);refine wpAny_holding ?_
 have ho6:(((s.heap.update a (Obj.mapSeq λ_=>#[])).push (seqObj "tuple" vs.toArray 0)).push (seqObj "list" #[] 0)).get? a=some (seqObj "list" #[] e1):=by
  rw [Heap.get?_push_ne _ _ _ (by rw [size_push',Heap.size_update];exact Qh (Qg ha)),Heap.get?_push_ne _ _ _ (by rw [Heap.size_update];exact Qh ha)];exact ho1
 show wpAny (model prog w) A _ P E { s with heap:=((s.heap.update a (Obj.mapSeq λ_=>#[])).push (seqObj "tuple" vs.toArray 0)).push (seqObj "list" #[] 0) };dsimp only;rw [Pf (by rw [hsz];exact QK.mpr ‹_›),Pf (by rw [hsz];exact QK.mpr ‹_›)]
 have hk:keyKind' vs.toArray=pure oneType':=by
  match vs,h2,hI with
  | v₁::v₂::rest,_,hI=>exact keyKind_ints hI
 rw [hk];refine wpAny_bind (wpAny_pure ?_);refine wpAny_bind (wpAny_mono (rJ (a₀:=pairsOf vs) (st:=SortSt.mk' oneType' (vs.toArray.zip vs.toArray) #[] 7 none) (Q:=λ_ st'=>WB (pairsOf vs) st') hI.intKeys ⟨Array.Perm.refl _,rfl,rfl⟩ rfl λst' h=>h) ?_ λ_ _ e=>e);rintro ⟨⟨⟩,st'⟩ s' ⟨rfl,hB⟩;dsimp only;have hp:=hB.perm;refine wpAny_bind (seqEpoch_at ho6 rfl ?_);refine wpAny_bind (listUpdate_at ho6 rfl ?_ (Qc _) (hsz2:=by rw [Array.size_map,hp.size_eq,pairsOf_size];exact Pb ‹_› (by decide)));rw [hB.failed];simp only [bne_self_eq_false,Bool.false_eq_true,if_false];refine aq (we hI hp) λns' a1 a2=>?_
 exact wpAny_pure (h _ ns' a1 a2)) ((prog,w,A,E),(s,a,vs,ns),(n,P))
theorem wJ {l:Addr} {vs:List Value} {ns:List Int} {Q:Value->Shared->Prop} (hl:s.heap.IsList l vs.toArray) (hI:IntsAre vs ns) (h2:2<=vs.length) (hle:vs.length<=sizeLine)
 (h:∀(out:Array Value) (ns':List Int),IntsAre out.toList ns'->ns'.Perm ns->Q (.ref (s.heap.objs.size+1)) { s with heap:=sortedAll s.heap vs out }):wpAny (model prog w) A (call (.builtin "sorted") [.ref l]) Q E s:=by
 refine Calls.call_function_entry kind_sorted plain_sorted entry_sorted (args_sorted1 _) ?_;unfold Builtin.«sorted»;refine wpAny_bind (m:=checkCount "sorted" 1 1 _) (wpAny_pure ?_);refine wpAny_bind (collect_list hl ?_ hle);refine wpAny_bind (wpAny_newList ?_)
 have hsz:((s.heap.push (seqObj "list" #[] 0)).update s.heap.objs.size (Obj.mapSeq (·++vs.toArray))).objs.size=s.heap.objs.size+1:=by
  rw [Heap.size_update,size_push']
 have hoL:(((s.heap.push (seqObj "list" #[] 0)).update s.heap.objs.size (Obj.mapSeq (·++vs.toArray))).push (seqObj "list" vs.toArray 0)).get? (s.heap.objs.size+1)=some (seqObj "list" vs.toArray 0):=by
  rw [<- hsz];exact Heap.get?_push_size _ rfl
 show wpAny _ _ _ _ _ { s with heap:=((s.heap.push (seqObj "list" #[] 0)).update s.heap.objs.size (Obj.mapSeq (·++vs.toArray))).push (seqObj "list" vs.toArray 0) };rw [hsz];refine wpAny_bind (wpAny_holding (wpAny_call_entry slot_list_sort ⟨_,hoL,rfl⟩ entry_list_sort (Dm hoL hI h2 hle λout ns' a1 a2=>⟨_,rfl,?_⟩) (args_list_sort _)));exact wpAny_pure ⟨_,rfl,h out ns' a1 a2⟩
end
theorem nq:cb:=by
 intro prog w A E s l vs ns Q hl hI hle h
 have hlen:vs.length=ns.length:=by rw [<- hI.nums,Ph]
 by_cases h64:vs.length<64
 ·refine sorted_ints hl hI h64 λout ns' a1 a2 a3=>?_;refine bI (sortedAll_at s.heap vs out) λe he=>?_;exact h _ _ out.toList ns' e (λb o=>sortedAll_old) (Se _) he a1 a2 λ_=>a3
 ·refine wJ hl hI (by lia) (by rw [hlen];exact Pb hle (by decide)) λout ns' a1 a2=>?_;refine bI (sortedAll_at s.heap vs out) λe he=>?_;exact h _ _ out.toList ns' e (λb o=>sortedAll_old) (Se _) he a1 a2 λz=>absurd (hlen ▸ z) h64
end Internal
end
section
open PySem PySem.W PySem.Calls PyProof.Rows
namespace Internal
noncomputable def Bu (sc:Scope):Bool:=sc.kind ==.function && j6.names.all (λn=>sc.names.lookup n == some .local && !(n == ("__debug__":Str)) && !(n == ("__classdict__":Str))) && sc.names.all λy=>!(y.2 ==.cell) && !(y.2 ==.free)
section
variable {prog:Program} {w:World} {K:Frag} {base:Heap} {ca fa:Nat->Addr} {A:Around} {sc:Scope} {name:Str} {fa0:Addr} {cd:Value} {l:Addr} {vs:List Value} {ns:List Int} {m:Str->Option Value} {body:List Stmt} {s:Shared} {E:Value->Shared->Prop}
def iK:Prop:=∀(Z:E1 K base ca fa) (F:Fr base base.objs.size s.heap m) (hm:m "script"=some (.ref l)) (hI:IntsAre vs ns) (hL:base.IsList l vs.toArray) (hlen:ns.length<=1000) (hA:A.handled=none) (hd:A.depth+84<=990) (hu:A.units+400<=9000) (hsc:Bu sc=true) (hb:cB gt attrs sc j6.names body=j6.body),wpAny (model prog w) A (execs body (envOf name sc base.objs.size fa0 cd)) (λf s'=>f=.ret (.bool true)/\(∃m',Fr base base.objs.size s'.heap m')/\jw s s') E s
theorem uq:@iK prog w K base ca fa A sc name fa0 cd l vs ns m body s E:=ao (S:=λx:(Program×World×Frag×Heap)×((Nat->Addr)×(Nat->Addr)×Around×Scope)×(Str×Addr×Value×Addr)×(List Value×List Int×(Str->Option Value)×List Stmt)×(Shared×(Value->Shared->Prop))=>@iK x.1.1 x.1.2.1 x.1.2.2.1 x.1.2.2.2 x.2.1.1 x.2.1.2.1 x.2.1.2.2.1 x.2.1.2.2.2 x.2.2.1.1 x.2.2.1.2.1 x.2.2.1.2.2.1 x.2.2.1.2.2.2 x.2.2.2.1.1 x.2.2.2.1.2.1 x.2.2.2.1.2.2.1 x.2.2.2.1.2.2.2 x.2.2.2.2.1 x.2.2.2.2.2) (x:=((default,dW,[],default),(λ_=>0,λ_=>0,{},default),(default,0,default,0),([],[],λ_=>none,[]),({},λ_ _=>True))) (by
 refine (?_:∀prog w K base ca fa A sc name fa0 cd l vs ns m body s E,@iK prog w K base ca fa A sc name fa0 cd l vs ns m body s E) _ _ _ _ _ _ _ _ _ _ _ _ _ _ _ _ _ _;intro prog w K base ca fa A sc name fa0 cd l vs ns m body s E Z F hm hI hL hlen hA hd hu hsc hb;obtain ⟨o,ho,hc,n,hdt⟩:=hL;unfold Bu at hsc;rw [Pe,Pe] at hsc;refine aD hsc ?_;rintro ⟨k1,k2⟩ k3
 have kn:∀n∈j6.names,sc.names.lookup n=some .local/\(n == ("__debug__":Str))=false/\(n == ("__classdict__":Str))=false:=λn hn=>by
  have:=Pp.mp k2 n hn;rw [Pe,Pe,P4,P4] at this;exact ⟨eq_of_beq this.1.1,this.1.2,this.2⟩
 have nocf:∀n,¬(sc.names.lookup n=some .cell\/sc.names.lookup n=some .free):=λn h=>by
  rcases h with h | h
  ·have:=Pp.mp k3 _ (mem_of_lookup h);simp at this
  ·have:=Pp.mp k3 _ (mem_of_lookup h);simp at this
 let x:Fx:=⟨ca,base,base,envOf name sc base.objs.size fa0 cd,[],j6.names⟩
 have SE:mU x sc j6.names:=by
  refine ⟨⟨rfl,eq_of_beq k1,rfl,rfl,λn e=>e,λn e=>absurd e (nocf n),λn hn=>(kn n hn).2⟩,by decide,λn hn=>.inl (kn n hn).1,λn n' c e=>?_⟩;cases e
 have S:aJ x s.heap [some (.nG (ns.map .int)),none,none,none,none,none,none,none,none,none,none,none,none,none,none] (λ_=>none) (λa=>if a=l then some o else none):=by
  refine ⟨λ_ _ h=>h,⟨m,F,λi v hi=>?_⟩,λa ob h=>(nomatch h),λa o' h=>?_,λn c e=>?_⟩
  ·match i,hi with
   | 0,hi=>
    cases hi;exact ⟨_,.ref l,rfl,.inl ⟨(kn _ (by decide)).1,hm⟩,.nG (Po rfl) hc hdt (by rw [Ph];exact hlen) (cA.oK hI)⟩
   | i+1,hi=>
    exfalso
    have:(List.replicate 14 (none:Option V))[i]?=some (some v):=by
     unfold getL at hi;have hi:((List.replicate 14 (none:Option V))[i]?).join=some v:=hi
     cases q:(List.replicate 14 (none:Option V))[i]? with
     | none=>rw [q] at hi;cases hi
     | some u=>rw [q] at hi;cases hi;rfl
    rw [Q1] at this
    split at this<;>cases this
  ·split at h
   ·cases h
    subst_vars
    exact ⟨F.keep _ _ ho,.inr ho⟩
   ·cases h
  ·cases e
 have hw:=Gg (is:=ns) (H:=λ_=>none) (Q:=λfl _ _=>fl=.ret (.bool true)) λ_ _=>rfl;rw [<- hb] at hw;unfold Call at hw;refine wpAny_mono (sound nq body (runs nq Z 20 A hA hd hu) SE rfl rfl S hw) (λf s' h=>?_) λ_ _ h=>h;obtain ⟨fl,ρ',H',T',hf,_,S',go,hq⟩:=h;subst hq
 cases hf with
 | ret hv=>
  cases hv;obtain ⟨m',F',_⟩:=S'.fr
  exact ⟨rfl,⟨m',F'⟩,go.1,go.2⟩) ((prog,w,K,base),(ca,fa,A,sc),(name,fa0,cd,l),(vs,ns,m,body),(s,E))
end
end Internal
end
section
open PySem PySem.W PyProof.Rows
set_option maxRecDepth 1000000
set_option maxHeartbeats 8000000
namespace InternalH
noncomputable def pg:Program:=PySem.Challenge.pw_nt0467_01
noncomputable def bM (n:Nat):Stmt:=pg.main.body.getD n (.Pass default)
noncomputable def IM (n m:Nat):Stmt:=match bM n with
 | .ClassDef _ _ _ b _ _ _ _ _ _ _=>b.getD m (.Pass default)
 | s=>s
noncomputable abbrev so (s:String):Str:=Str.ofString s
noncomputable abbrev sv (s:String) (t:Nat):Value:=.str (Str.ofString s) t
noncomputable abbrev rf (a:Nat):Value:=.ref a
noncomputable abbrev en (s:String) (t:Nat) (v:Value) (P:Params):DictEntry:=⟨PyData.keyHash P (Str.ofString s),.str (Str.ofString s) t,v⟩
noncomputable def BH (s:Stmt) (q:Str) (g:Addr) (pm cd:Value):Data:=match s with
 | .FunctionDef n ps b _ _ _ sc _ _ _=>.func { name:=n,qualname:=q,params:=ps,body:=.stmts b,scope:=sc,globals:=g,closure:=[],defaults:=.none,kwdefaults:=.none,pyModule:=pm,code:=cd }
 | _=>.plain
noncomputable def Jj:Nat->List Str->List Value
 | _,[]=>[]
 | t,s::r=>.str s t::Jj (t+1) r
noncomputable def d7 (a t u line argc flags:Nat) (s:Stmt) (n q:Str) (g:Addr) (pm:Value) (vars cells:List Str) (more:List Obj):List Obj:=
 ⟨.type "tuple",none,.seq ⟨[]⟩ 0,⟨[]⟩⟩:: ⟨.none,none,.fields ⟨[]⟩,⟨[]⟩⟩:: ⟨.type "tuple",none,.seq ⟨Jj (t+3) vars⟩ 0,⟨[]⟩⟩:: ⟨.type "tuple",none,.seq ⟨Jj (t+3+vars.length) cells⟩ 0,⟨[]⟩⟩ ::
 ⟨.none,none,BH s q 0 .none .none,⟨[]⟩⟩ ::
 ⟨.type "code",none,.fields ⟨[.str n t,.str q (t+1),sv "/claim/cut.py" (t+2),.int line 0,.int argc 0,.int 0 0,.int 0 0,.int flags 0,rf a,.bool true,.int 181 0,rf (a+1),.none,rf (a+2),rf (a+3),rf (a+4),.int u 0,.int line 0,sv "/claim/cut.py" (u+1)]⟩,⟨[]⟩⟩ ::
 ⟨.type "function",none,BH s q g pm (rf (a+5)),⟨[]⟩⟩::more
noncomputable def dF (a t u line fl:Nat) (s:Stmt) (F:Internal.Fn) (g:Addr) (pm:Value) (more:List Obj):List Obj:=d7 a t u line F.np fl s F.BF F.BF g pm F.names [] more
noncomputable abbrev p9:Value:=sv "chess.kinds" 187
noncomputable abbrev lL:Value:=sv "chess.zobrist" 278
noncomputable abbrev kD:Value:=sv "chess.geometry" 416
noncomputable abbrev zX:Value:=sv "chess.bits" 577
noncomputable abbrev lK:Value:=sv "chess.position" 611
noncomputable abbrev jH:Value:=sv "chess.makemove" 717
noncomputable abbrev zW:Value:=sv "chess.lines" 851
noncomputable abbrev uj:Value:=sv "chess.sliders" 893
noncomputable abbrev iB:Value:=sv "chess.attacks" 960
noncomputable abbrev CR:Value:=sv "chess.castling" 1097
noncomputable abbrev p8:Value:=sv "chess.piecemoves" 1149
noncomputable abbrev gE:Value:=sv "chess.pawnmoves" 1190
noncomputable abbrev nz:Value:=sv "chess.evasions" 1328
noncomputable abbrev vY:Value:=sv "chess.legality" 1363
noncomputable abbrev tb:Value:=sv "chess.movegen" 1402
noncomputable abbrev f7:Value:=sv "law_nt0467_01" 1440
noncomputable def rest (P:Params):List Obj:=
 ⟨.type "code",none,.fields ⟨[sv "<module>" 182,sv "<module>" 183,sv "/claim/cut.py" 184,.int 1 0,.int 0 0,.int 0 0,.int 0 0,.int 0 0,rf 11,.bool false,.int 181 0,rf 12,.none,.none,.none,.none,.int 185 0,.int 1 0,sv "/claim/cut.py" 186]⟩,⟨[]⟩⟩ ::
 ⟨.type "frame",none,.plain,⟨[some (rf 13),some (rf 3),some (rf 3),none,some (sv "__main__" 164),none,some (rf 0)]⟩⟩ ::
 dF 15 217 222 16 3 (bM 15) Internal.F0 3 p9 (
 dF 22 225 229 18 3 (bM 16) Internal.F1 3 p9 (
 dF 29 232 236 20 3 (bM 17) Internal.F2 3 p9 (
 dF 36 239 247 22 3 (bM 18) Internal.F3 3 p9 (
 dF 43 250 254 27 3 (bM 19) Internal.F4 3 p9 (
 dF 50 257 261 29 3 (bM 20) Internal.F5 3 p9 (
 dF 57 264 268 31 3 (bM 21) Internal.F6 3 p9 (
 dF 64 271 275 33 3 (bM 22) Internal.F7 3 p9 (
 ⟨.type "tuple",none,.seq ⟨[]⟩ 0,⟨[]⟩⟩ ::
 ⟨.type "builtin_function_or_method",none,.fields ⟨[.builtin "type.__prepare__",.type "type"]⟩,⟨[]⟩⟩ ::
 ⟨.type "dict",none,.dict ⟨[en "__module__" 287 lL P,en "__qualname__" 289 (sv "Zobrist" 288) P,en "__firstlineno__" 291 (.int 38 290) P,en "__init__" 302 (rf 84) P,en "__static_attributes__" 307 (rf 85) P]⟩ 5,⟨[]⟩⟩ ::
 ⟨.type "tuple",none,.seq ⟨[]⟩ 0,⟨[]⟩⟩ ::
 ⟨.none,none,.fields ⟨[.int 40 0,.int 4 0,rf 83]⟩,⟨[]⟩⟩ ::
 ⟨.type "code",none,.fields ⟨[sv "Zobrist" 282,sv "Zobrist" 283,sv "/claim/cut.py" 284,.int 38 0,.int 0 0,.int 0 0,.int 0 0,.int 0 0,rf 74,.bool false,.int 181 0,rf 75,.none,.none,.none,.none,.int 285 0,.int 38 0,sv "/claim/cut.py" 286]⟩,⟨[]⟩⟩ ::
 ⟨.type "frame",none,.plain,⟨[some (rf 76),some (rf 3),some (rf 73),none,some lL,none,some (rf 0)]⟩⟩ ::
 d7 78 292 300 40 5 3 (IM 24 0) "__init__" "Zobrist.__init__" 3 lL ["self","pieces","ep","rights","side"] [] (
 ⟨.type "tuple",none,.seq ⟨[sv "ep" 303,sv "pieces" 304,sv "rights" 305,sv "side" 306]⟩ 0,⟨[]⟩⟩ ::
 ⟨.type "dict",none,.dict ⟨[en "__module__" 287 lL P,en "__firstlineno__" 291 (.int 38 290) P,en "__init__" 302 (rf 84) P,en "__static_attributes__" 307 (rf 85) P,en "__dict__" 309 (rf 88) P,en "__weakref__" 311 (rf 89) P,en "__doc__" 312 (.none) P]⟩ 4,⟨[]⟩⟩ ::
 ⟨.type "type",none,.cls { name:=so "Zobrist",bases:=[.type "object"],mro:=[rf 87,.type "object"],ns:=86,qualname:=so "Zobrist",hasDict:=true,slotNames:=[],subclasses:=[],abstract:=false,collection:=none,hasDel:=false },⟨[none,none,some (sv "Zobrist" 280),some (sv "Zobrist" 288),some (.builtin "object.__new__"),some (.bool true)]⟩⟩ ::
 ⟨.type "getset_descriptor",none,.fields ⟨[sv "__dict__" 308,rf 87,.builtin "function.__dict__",.builtin "function.__dict__#set"]⟩,⟨[]⟩⟩ ::
 ⟨.type "getset_descriptor",none,.fields ⟨[sv "__weakref__" 310,rf 87,.builtin "ExceptionGroup.__weakref__",.none]⟩,⟨[]⟩⟩ ::
 ⟨.type "super",none,.fields ⟨[rf 87,rf 87,rf 87]⟩,⟨[]⟩⟩ ::
 ⟨.type "builtin_function_or_method",none,.fields ⟨[.builtin "object.__init_subclass__",rf 87]⟩,⟨[]⟩⟩ ::
 dF 92 315 321 45 3 (bM 25) Internal.F8 3 lL (
 dF 99 324 332 53 3 (bM 26) Internal.F9 3 lL (
 dF 106 335 343 62 3 (bM 27) Internal.NZ 3 lL (
 dF 113 346 355 71 3 (bM 28) Internal.NY 3 lL (
 dF 120 358 366 80 3 (bM 29) Internal.NX 3 lL (
 ⟨.type "tuple",none,.seq ⟨[.type "Exception"]⟩ 0,⟨[]⟩⟩ ::
 ⟨.type "builtin_function_or_method",none,.fields ⟨[.builtin "type.__prepare__",.type "type"]⟩,⟨[]⟩⟩ ::
 ⟨.type "dict",none,.dict ⟨[en "__module__" 378 (sv "chess.errors" 369) P,en "__qualname__" 380 (sv "ChessError" 379) P,en "__firstlineno__" 382 (.int 90 381) P,en "__init__" 390 (rf 140) P,en "__static_attributes__" 392 (rf 141) P]⟩ 5,⟨[]⟩⟩ ::
 ⟨.type "tuple",none,.seq ⟨[]⟩ 0,⟨[]⟩⟩ ::
 ⟨.none,none,.fields ⟨[.int 92 0,.int 4 0,rf 139]⟩,⟨[]⟩⟩ ::
 ⟨.type "code",none,.fields ⟨[sv "ChessError" 373,sv "ChessError" 374,sv "/claim/cut.py" 375,.int 90 0,.int 0 0,.int 0 0,.int 0 0,.int 0 0,rf 130,.bool false,.int 181 0,rf 131,.none,.none,.none,.none,.int 376 0,.int 90 0,sv "/claim/cut.py" 377]⟩,⟨[]⟩⟩ ::
 ⟨.type "frame",none,.plain,⟨[some (rf 132),some (rf 3),some (rf 129),none,some (sv "chess.errors" 369),none,some (rf 0)]⟩⟩ ::
 d7 134 383 388 92 2 3 (IM 31 0) "__init__" "ChessError.__init__" 3 (sv "chess.errors" 369) ["self","text"] [] (
 ⟨.type "tuple",none,.seq ⟨[sv "text" 391]⟩ 0,⟨[]⟩⟩ ::
 ⟨.type "dict",none,.dict ⟨[en "__module__" 378 (sv "chess.errors" 369) P,en "__firstlineno__" 382 (.int 90 381) P,en "__init__" 390 (rf 140) P,en "__static_attributes__" 392 (rf 141) P,en "__weakref__" 394 (rf 144) P,en "__doc__" 395 (.none) P]⟩ 3,⟨[]⟩⟩ ::
 ⟨.type "type",none,.cls { name:=so "ChessError",bases:=[.type "Exception"],mro:=[rf 143,.type "Exception",.type "BaseException",.type "object"],ns:=142,qualname:=so "ChessError",hasDict:=true,slotNames:=[],subclasses:=[rf 156],abstract:=false,collection:=none,hasDel:=false },⟨[some (rf 127),none,some (sv "ChessError" 371),some (sv "ChessError" 379),some (.builtin "Exception.__new__"),some (.bool true)]⟩⟩ ::
 ⟨.type "getset_descriptor",none,.fields ⟨[sv "__weakref__" 393,rf 143,.builtin "ExceptionGroup.__weakref__",.none]⟩,⟨[]⟩⟩ ::
 ⟨.type "super",none,.fields ⟨[rf 143,rf 143,rf 143]⟩,⟨[]⟩⟩ ::
 ⟨.type "builtin_function_or_method",none,.fields ⟨[.builtin "object.__init_subclass__",rf 143]⟩,⟨[]⟩⟩ ::
 ⟨.type "tuple",none,.seq ⟨[rf 143]⟩ 0,⟨[]⟩⟩ ::
 ⟨.type "builtin_function_or_method",none,.fields ⟨[.builtin "type.__prepare__",.type "type"]⟩,⟨[]⟩⟩ ::
 ⟨.type "dict",none,.dict ⟨[en "__module__" 407 (sv "chess.errors" 369) P,en "__qualname__" 409 (sv "BadMove" 408) P,en "__firstlineno__" 411 (.int 95 410) P,en "__static_attributes__" 412 (rf 154) P]⟩ 4,⟨[]⟩⟩ ::
 ⟨.type "tuple",none,.seq ⟨[]⟩ 0,⟨[]⟩⟩ ::
 ⟨.none,none,.fields ⟨[]⟩,⟨[]⟩⟩ ::
 ⟨.type "code",none,.fields ⟨[sv "BadMove" 402,sv "BadMove" 403,sv "/claim/cut.py" 404,.int 95 0,.int 0 0,.int 0 0,.int 0 0,.int 0 0,rf 150,.bool false,.int 181 0,rf 151,.none,.none,.none,.none,.int 405 0,.int 95 0,sv "/claim/cut.py" 406]⟩,⟨[]⟩⟩ ::
 ⟨.type "frame",none,.plain,⟨[some (rf 152),some (rf 3),some (rf 149),none,some (sv "chess.errors" 369),none,some (rf 0)]⟩⟩ ::
 ⟨.type "tuple",none,.seq ⟨[]⟩ 0,⟨[]⟩⟩ ::
 ⟨.type "dict",none,.dict ⟨[en "__module__" 407 (sv "chess.errors" 369) P,en "__firstlineno__" 411 (.int 95 410) P,en "__static_attributes__" 412 (rf 154) P,en "__doc__" 413 (.none) P]⟩ 2,⟨[]⟩⟩ ::
 ⟨.type "type",none,.cls { name:=so "BadMove",bases:=[rf 143],mro:=[rf 156,rf 143,.type "Exception",.type "BaseException",.type "object"],ns:=155,qualname:=so "BadMove",hasDict:=true,slotNames:=[],subclasses:=[],abstract:=false,collection:=none,hasDel:=false },⟨[some (rf 147),none,some (sv "BadMove" 400),some (sv "BadMove" 408),some (.builtin "Exception.__new__"),some (.bool true)]⟩⟩ ::
 ⟨.type "super",none,.fields ⟨[rf 156,rf 156,rf 156]⟩,⟨[]⟩⟩ ::
 ⟨.type "builtin_function_or_method",none,.fields ⟨[.builtin "object.__init_subclass__",rf 156]⟩,⟨[]⟩⟩ ::
 ⟨.type "tuple",none,.seq ⟨[.int 0 418,.int 1 419,.int 0 420,.int (-1) 422,.int 1 423,.int 1 424,.int (-1) 426,.int (-1) 428]⟩ 0,⟨[]⟩⟩ ::
 ⟨.type "tuple",none,.seq ⟨[.int 1 430,.int 0 431,.int (-1) 433,.int 0 434,.int 1 435,.int (-1) 437,.int (-1) 439,.int 1 440]⟩ 0,⟨[]⟩⟩ ::
 ⟨.type "tuple",none,.seq ⟨[]⟩ 0,⟨[]⟩⟩ ::
 ⟨.type "builtin_function_or_method",none,.fields ⟨[.builtin "type.__prepare__",.type "type"]⟩,⟨[]⟩⟩ ::
 ⟨.type "dict",none,.dict ⟨[en "__module__" 449 kD P,en "__qualname__" 451 (sv "Geometry" 450) P,en "__firstlineno__" 453 (.int 100 452) P,en "__init__" 464 (rf 174) P,en "__static_attributes__" 479 (rf 175) P]⟩ 5,⟨[]⟩⟩ ::
 ⟨.type "tuple",none,.seq ⟨[]⟩ 0,⟨[]⟩⟩ ::
 ⟨.none,none,.fields ⟨[.int 102 0,.int 4 0,rf 173]⟩,⟨[]⟩⟩ ::
 ⟨.type "code",none,.fields ⟨[sv "Geometry" 444,sv "Geometry" 445,sv "/claim/cut.py" 446,.int 100 0,.int 0 0,.int 0 0,.int 0 0,.int 0 0,rf 164,.bool false,.int 181 0,rf 165,.none,.none,.none,.none,.int 447 0,.int 100 0,sv "/claim/cut.py" 448]⟩,⟨[]⟩⟩ ::
 ⟨.type "frame",none,.plain,⟨[some (rf 166),some (rf 3),some (rf 163),none,some kD,none,some (rf 0)]⟩⟩ ::
 d7 168 454 462 102 5 3 (IM 36 0) "__init__" "Geometry.__init__" 3 kD ["self","files","ranks","has_double","has_castling"] [] (
 ⟨.type "tuple",none,.seq ⟨[sv "castles" 465,sv "file_masks" 466,sv "files" 467,sv "full" 468,sv "has_castling" 469,sv "has_double" 470,sv "king" 471,sv "knight" 472,sv "pawn" 473,sv "rank_masks" 474,sv "ranks" 475,sv "rays" 476,sv "rights_lost" 477,sv "size" 478]⟩ 0,⟨[]⟩⟩ ::
 ⟨.type "dict",none,.dict ⟨[en "__module__" 449 kD P,en "__firstlineno__" 453 (.int 100 452) P,en "__init__" 464 (rf 174) P,en "__static_attributes__" 479 (rf 175) P,en "__dict__" 481 (rf 178) P,en "__weakref__" 483 (rf 179) P,en "__doc__" 484 (.none) P]⟩ 4,⟨[]⟩⟩ ::
 ⟨.type "type",none,.cls { name:=so "Geometry",bases:=[.type "object"],mro:=[rf 177,.type "object"],ns:=176,qualname:=so "Geometry",hasDict:=true,slotNames:=[],subclasses:=[],abstract:=false,collection:=none,hasDel:=false },⟨[none,none,some (sv "Geometry" 442),some (sv "Geometry" 450),some (.builtin "object.__new__"),some (.bool true)]⟩⟩ ::
 ⟨.type "getset_descriptor",none,.fields ⟨[sv "__dict__" 480,rf 177,.builtin "function.__dict__",.builtin "function.__dict__#set"]⟩,⟨[]⟩⟩ ::
 ⟨.type "getset_descriptor",none,.fields ⟨[sv "__weakref__" 482,rf 177,.builtin "ExceptionGroup.__weakref__",.none]⟩,⟨[]⟩⟩ ::
 ⟨.type "super",none,.fields ⟨[rf 177,rf 177,rf 177]⟩,⟨[]⟩⟩ ::
 ⟨.type "builtin_function_or_method",none,.fields ⟨[.builtin "object.__init_subclass__",rf 177]⟩,⟨[]⟩⟩ ::
 dF 182 487 491 117 3 (bM 37) Internal.NW 3 kD (
 dF 189 494 502 119 3 (bM 38) Internal.NV 3 kD (
 dF 196 505 511 127 3 (bM 39) Internal.NU 3 kD (
 dF 203 514 525 138 3 (bM 40) Internal.NT 3 kD (
 dF 210 528 533 153 3 (bM 41) Internal.NS 3 kD (
 dF 217 536 550 157 3 (bM 42) Internal.NR 3 kD (
 dF 224 553 563 169 3 (bM 43) Internal.NQ 3 kD (
 dF 231 566 574 186 3 (bM 44) Internal.NP 3 kD (
 dF 238 579 583 197 3 (bM 46) Internal.NO 3 zX (
 dF 245 586 592 199 3 (bM 47) Internal.NN 3 zX (
 dF 252 595 599 212 3 (bM 48) Internal.NM 3 zX (
 dF 259 602 608 214 3 (bM 49) Internal.NL 3 zX (
 ⟨.type "tuple",none,.seq ⟨[]⟩ 0,⟨[]⟩⟩ ::
 ⟨.type "builtin_function_or_method",none,.fields ⟨[.builtin "type.__prepare__",.type "type"]⟩,⟨[]⟩⟩ ::
 ⟨.type "dict",none,.dict ⟨[en "__module__" 620 lK P,en "__qualname__" 622 (sv "Position" 621) P,en "__firstlineno__" 624 (.int 227 623) P,en "__init__" 633 (rf 279) P,en "__static_attributes__" 646 (rf 280) P]⟩ 5,⟨[]⟩⟩ ::
 ⟨.type "tuple",none,.seq ⟨[]⟩ 0,⟨[]⟩⟩ ::
 ⟨.none,none,.fields ⟨[.int 229 0,.int 4 0,rf 278]⟩,⟨[]⟩⟩ ::
 ⟨.type "code",none,.fields ⟨[sv "Position" 615,sv "Position" 616,sv "/claim/cut.py" 617,.int 227 0,.int 0 0,.int 0 0,.int 0 0,.int 0 0,rf 269,.bool false,.int 181 0,rf 270,.none,.none,.none,.none,.int 618 0,.int 227 0,sv "/claim/cut.py" 619]⟩,⟨[]⟩⟩ ::
 ⟨.type "frame",none,.plain,⟨[some (rf 271),some (rf 3),some (rf 268),none,some lK,none,some (rf 0)]⟩⟩ ::
 d7 273 625 631 229 3 3 (IM 51 0) "__init__" "Position.__init__" 3 lK ["self","geo","zob"] [] (
 ⟨.type "tuple",none,.seq ⟨[sv "board" 634,sv "ep" 635,sv "full" 636,sv "geo" 637,sv "half" 638,sv "history" 639,sv "key" 640,sv "kinds" 641,sv "rights" 642,sv "side" 643,sv "sides" 644,sv "zob" 645]⟩ 0,⟨[]⟩⟩ ::
 ⟨.type "dict",none,.dict ⟨[en "__module__" 620 lK P,en "__firstlineno__" 624 (.int 227 623) P,en "__init__" 633 (rf 279) P,en "__static_attributes__" 646 (rf 280) P,en "__dict__" 648 (rf 283) P,en "__weakref__" 650 (rf 284) P,en "__doc__" 651 (.none) P]⟩ 4,⟨[]⟩⟩ ::
 ⟨.type "type",none,.cls { name:=so "Position",bases:=[.type "object"],mro:=[rf 282,.type "object"],ns:=281,qualname:=so "Position",hasDict:=true,slotNames:=[],subclasses:=[],abstract:=false,collection:=none,hasDel:=false },⟨[none,none,some (sv "Position" 613),some (sv "Position" 621),some (.builtin "object.__new__"),some (.bool true)]⟩⟩ ::
 ⟨.type "getset_descriptor",none,.fields ⟨[sv "__dict__" 647,rf 282,.builtin "function.__dict__",.builtin "function.__dict__#set"]⟩,⟨[]⟩⟩ ::
 ⟨.type "getset_descriptor",none,.fields ⟨[sv "__weakref__" 649,rf 282,.builtin "ExceptionGroup.__weakref__",.none]⟩,⟨[]⟩⟩ ::
 ⟨.type "super",none,.fields ⟨[rf 282,rf 282,rf 282]⟩,⟨[]⟩⟩ ::
 ⟨.type "builtin_function_or_method",none,.fields ⟨[.builtin "object.__init_subclass__",rf 282]⟩,⟨[]⟩⟩ ::
 dF 287 654 661 242 3 (bM 52) Internal.NK 3 lK (
 dF 294 664 671 248 3 (bM 53) Internal.NJ 3 lK (
 dF 301 674 683 256 3 (bM 54) Internal.NI 3 lK (
 dF 308 686 690 265 3 (bM 55) Internal.NH 3 lK (
 dF 315 693 699 267 3 (bM 56) Internal.NG 3 lK (
 dF 322 702 707 269 3 (bM 57) Internal.NF 3 lK (
 dF 329 710 714 271 3 (bM 58) Internal.ND 3 lK (
 dF 336 719 726 274 3 (bM 60) Internal.NC 3 jH (
 d7 343 729 735 282 2 3 (bM 61) "taken_square" "taken_square" 3 jH ["pos","move","goal"] [] (
 dF 350 739 747 290 3 (bM 63) Internal.NB 3 jH (
 dF 357 750 760 296 3 (bM 64) Internal.NA 3 jH (
 dF 364 763 770 305 3 (bM 65) Internal.Nz 3 jH (
 dF 371 773 777 308 3 (bM 66) Internal.Ny 3 jH (
 dF 378 780 785 312 3 (bM 67) Internal.Nx 3 jH (
 dF 385 788 793 316 3 (bM 68) Internal.Nw 3 jH (
 dF 392 796 809 320 3 (bM 69) Internal.I3 3 jH (
 dF 399 812 827 352 3 (bM 70) Internal.LK 3 jH (
 dF 406 830 848 377 3 (bM 71) Internal.LJ 3 jH (
 dF 413 853 860 405 3 (bM 73) Internal.Nv 3 zW (
 dF 420 863 870 410 3 (bM 74) Internal.Nu 3 zW (
 dF 427 873 880 415 3 (bM 75) Internal.Nt 3 zW (
 dF 434 883 890 420 3 (bM 76) Internal.Nr 3 zW (
 dF 441 895 905 423 3 (bM 78) Internal.Nq 3 uj (
 dF 448 908 916 438 3 (bM 79) Internal.Np 3 uj (
 dF 455 919 927 443 3 (bM 80) Internal.Nn 3 uj (
 dF 462 930 936 448 3 (bM 81) Internal.Nm 3 uj (
 dF 469 939 946 450 3 (bM 82) Internal.Nl 3 uj (
 dF 476 949 957 458 3 (bM 83) Internal.Nk 3 uj (
 dF 483 962 966 467 3 (bM 85) Internal.Nj 3 iB (
 dF 490 969 973 469 3 (bM 86) Internal.Ni 3 iB (
 dF 497 976 982 471 3 (bM 87) Internal.Nh 3 iB (
 dF 504 985 993 473 3 (bM 88) Internal.Ng 3 iB (
 dF 511 996 1005 478 3 (bM 89) Internal.Nf 3 iB (
 dF 518 1008 1015 487 3 (bM 90) Internal.Nc 3 iB (
 dF 525 1018 1029 490 3 (bM 91) Internal.Nb 3 iB (
 dF 532 1032 1038 500 3 (bM 92) Internal.M9 3 iB (
 dF 539 1041 1045 503 3 (bM 93) Internal.M8 3 iB (
 dF 546 1048 1054 505 3 (bM 94) Internal.M7 3 iB (
 dF 553 1057 1061 508 3 (bM 95) Internal.M6 3 iB (
 dF 560 1064 1071 510 3 (bM 96) Internal.M5 3 iB (
 dF 567 1074 1086 515 3 (bM 97) Internal.M4 3 iB (
 dF 574 1089 1094 528 3 (bM 98) Internal.M3 3 iB (
 dF 581 1113 1118 538 3 (bM 107) Internal.M0 3 CR (
 dF 588 1121 1133 542 3 (bM 108) Internal.MZ 3 CR (
 dF 595 1136 1146 560 3 (bM 109) Internal.MY 3 CR (
 dF 602 1159 1166 570 3 (bM 115) Internal.MX 3 p8 (
 dF 609 1169 1179 573 3 (bM 116) Internal.MW 3 p8 (
 dF 616 1182 1187 578 3 (bM 117) Internal.MV 3 p8 (
 dF 623 1192 1197 585 3 (bM 119) Internal.MU 3 gE (
 dF 630 1200 1205 589 3 (bM 120) Internal.MT 3 gE (
 dF 637 1208 1213 593 3 (bM 121) Internal.MS 3 gE (
 dF 644 1216 1222 597 3 (bM 122) Internal.MR 3 gE (
 dF 651 1225 1232 601 3 (bM 123) Internal.MQ 3 gE (
 dF 658 1235 1246 605 3 (bM 124) Internal.MP 3 gE (
 dF 665 1249 1259 615 3 (bM 125) Internal.MO 3 gE (
 dF 672 1262 1273 627 3 (bM 126) Internal.MN 3 gE (
 dF 679 1276 1287 635 3 (bM 127) Internal.MM 3 gE (
 dF 686 1290 1305 641 3 (bM 128) Internal.ML 3 gE (
 dF 693 1308 1315 654 3 (bM 129) Internal.MK 3 gE (
 dF 700 1318 1325 660 3 (bM 130) Internal.MJ 3 gE (
 dF 707 1330 1335 667 3 (bM 132) Internal.MI 3 nz (
 dF 714 1338 1342 671 3 (bM 133) Internal.MH 3 nz (
 dF 721 1345 1350 675 3 (bM 134) Internal.MG 3 nz (
 dF 728 1353 1360 679 3 (bM 135) Internal.MF 3 nz (
 d7 735 1365 1371 689 2 3 (bM 137) "taken_square" "taken_square" 3 vY ["pos","move","goal"] [] (
 dF 742 1375 1385 697 3 (bM 139) Internal.ME 3 vY (
 dF 749 1388 1399 704 3 (bM 140) Internal.MD 3 vY (
 dF 756 1404 1412 720 3 (bM 142) Internal.MC 3 tb (
 dF 763 1415 1419 734 3 (bM 143) Internal.MB 3 tb (
 dF 770 1422 1430 738 3 (bM 144) Internal.MA 3 tb (
 dF 777 1433 1437 745 3 (bM 145) Internal.Mz 3 tb (
 d7 784 1442 1445 748 0 3 (bM 147) "_law_shapes" "_law_shapes" 3 f7 [] [] (
 dF 791 1448 1453 750 3 (bM 148) Internal.My 3 f7 (
 dF 798 1456 1469 752 3 (bM 149) Internal.I2 3 f7 (
 dF 805 1472 1479 774 3 (bM 150) Internal.LI 3 f7 (
 dF 812 1482 1492 778 3 (bM 151) Internal.ID 3 f7 (
 dF 819 1495 1510 786 3 (bM 152) Internal.Iz 3 f7 (
 dF 826 1513 1530 807 3 (bM 153) Internal.Iy 3 f7 (
 dF 833 1533 1552 823 3 (bM 154) Internal.Iw 3 f7 (
 ⟨.type "tuple",none,.seq ⟨[]⟩ 0,⟨[]⟩⟩ ::
 ⟨.none,none,.fields ⟨[]⟩,⟨[]⟩⟩ ::
 ⟨.none,none,BH (bM 155) "_law_sum" 0 (.none) (.none),⟨[]⟩⟩ ::
 ⟨.type "code",none,.fields ⟨[sv "_law_sum" 1555,sv "_law_sum" 1556,sv "/claim/cut.py" 1557,.int 852 0,.int 2 0,.int 0 0,.int 0 0,.int 3 0,rf 840,.bool true,.int 181 0,rf 841,.none,.none,.none,rf 842,.int 1558 0,.int 852 0,sv "/claim/cut.py" 1559]⟩,⟨[]⟩⟩ ::
 ⟨.type "function",none,BH (bM 155) "_law_sum" 3 f7 (rf 843),⟨[]⟩⟩ ::
 ⟨.type "tuple",none,.seq ⟨[]⟩ 0,⟨[]⟩⟩ ::
 ⟨.none,none,.fields ⟨[]⟩,⟨[]⟩⟩ ::
 ⟨.none,none,BH (bM 156) "_law_agrees" 0 (.none) (.none),⟨[]⟩⟩ ::
 ⟨.type "code",none,.fields ⟨[sv "_law_agrees" 1561,sv "_law_agrees" 1562,sv "/claim/cut.py" 1563,.int 861 0,.int 3 0,.int 0 0,.int 0 0,.int 3 0,rf 845,.bool true,.int 181 0,rf 846,.none,.none,.none,rf 847,.int 1564 0,.int 861 0,sv "/claim/cut.py" 1565]⟩,⟨[]⟩⟩ ::
 ⟨.type "function",none,BH (bM 156) "_law_agrees" 3 f7 (rf 848),⟨[]⟩⟩ ::
 ⟨.type "tuple",none,.seq ⟨[]⟩ 0,⟨[]⟩⟩ ::
 ⟨.none,none,.fields ⟨[]⟩,⟨[]⟩⟩ ::
 ⟨.none,none,BH (bM 157) "_law_position" 0 (.none) (.none),⟨[]⟩⟩ ::
 ⟨.type "code",none,.fields ⟨[sv "_law_position" 1567,sv "_law_position" 1568,sv "/claim/cut.py" 1569,.int 874 0,.int 3 0,.int 0 0,.int 0 0,.int 3 0,rf 850,.bool true,.int 181 0,rf 851,.none,.none,.none,rf 852,.int 1570 0,.int 874 0,sv "/claim/cut.py" 1571]⟩,⟨[]⟩⟩ ::
 ⟨.type "function",none,BH (bM 157) "_law_position" 3 f7 (rf 853),⟨[]⟩⟩ ::
 dF 855 1573 1591 888 3 (bM 158) Internal.j6 3 f7 (
 [])))))))))))))))))))))))))))))))))))))))))))))))))))))))))))))))))))))))))))))))))))))))))))))))))))))))))))))
noncomputable def ents (ts:Addr) (P:Params):List DictEntry:=[
 en "__doc__" 166 (.none) P,
 en "__package__" 167 (.none) P,
 en "__loader__" 168 (.builtin "__main__.__loader__#opaque") P,
 en "__spec__" 169 (.none) P,
 en "__annotations__" 170 (rf 6) P,
 en "__builtins__" 171 (rf 4) P,
 en "__file__" 173 (sv "/claim/cut.py" 172) P,
 en "__cached__" 174 (.none) P,
 en "WHITE" 190 (.int 0 189) P,
 en "BLACK" 192 (.int 1 191) P,
 en "NO_KIND" 194 (.int 0 193) P,
 en "PAWN" 196 (.int 1 195) P,
 en "KNIGHT" 198 (.int 2 197) P,
 en "BISHOP" 200 (.int 3 199) P,
 en "ROOK" 202 (.int 4 201) P,
 en "QUEEN" 204 (.int 5 203) P,
 en "KING" 206 (.int 6 205) P,
 en "EMPTY" 208 (.int 0 207) P,
 en "NORMAL" 210 (.int 0 209) P,
 en "PROMOTION" 212 (.int 1 211) P,
 en "EN_PASSANT" 214 (.int 2 213) P,
 en "CASTLING" 216 (.int 3 215) P,
 en "make_piece" 224 (rf 21) P,
 en "side_of" 231 (rf 28) P,
 en "kind_of" 238 (rf 35) P,
 en "pack_move" 249 (rf 42) P,
 en "move_from" 256 (rf 49) P,
 en "move_to" 263 (rf 56) P,
 en "move_special" 270 (rf 63) P,
 en "move_promo" 277 (rf 70) P,
 en "Zobrist" 314 (rf 87) P,
 en "state_key" 323 (rf 98) P,
 en "full_key" 334 (rf 105) P,
 en "pawn_key" 345 (rf 112) P,
 en "non_pawn_key" 357 (rf 119) P,
 en "material_key" 368 (rf 126) P,
 en "ChessError" 399 (rf 143) P,
 en "BadMove" 415 (rf 156) P,
 en "STEP_FILES" 429 (rf 159) P,
 en "STEP_RANKS" 441 (rf 160) P,
 en "Geometry" 486 (rf 177) P,
 en "is_growing" 493 (rf 188) P,
 en "add_masks" 504 (rf 195) P,
 en "inner_squares" 513 (rf 202) P,
 en "add_rays" 527 (rf 209) P,
 en "add_pawns" 535 (rf 216) P,
 en "add_knights" 552 (rf 223) P,
 en "add_castles" 565 (rf 230) P,
 en "make_geometry" 576 (rf 237) P,
 en "more_than_one" 585 (rf 244) P,
 en "highest" 594 (rf 251) P,
 en "lowest" 601 (rf 258) P,
 en "squares_of" 610 (rf 265) P,
 en "Position" 653 (rf 282) P,
 en "put_piece" 663 (rf 293) P,
 en "take_piece" 673 (rf 300) P,
 en "shift_piece" 685 (rf 307) P,
 en "occupied" 692 (rf 314) P,
 en "pieces" 701 (rf 321) P,
 en "king_square" 709 (rf 328) P,
 en "settle_key" 716 (rf 335) P,
 en "moved_piece" 728 (rf 342) P,
 en "taken_square" 737 (rf ts) P,
 en "taken_square_makemove" 738 (rf 349) P,
 en "rook_step" 749 (rf 356) P,
 en "passed_square" 762 (rf 363) P,
 en "kept_rights" 772 (rf 370) P,
 en "clear_ep_key" 779 (rf 377) P,
 en "set_ep_key" 787 (rf 384) P,
 en "set_rights_key" 795 (rf 391) P,
 en "do_move" 811 (rf 398) P,
 en "undo_move" 829 (rf 405) P,
 en "key_after" 850 (rf 412) P,
 en "direction" 862 (rf 419) P,
 en "between" 872 (rf 426) P,
 en "line" 882 (rf 433) P,
 en "aligned" 892 (rf 440) P,
 en "ray_attacks" 907 (rf 447) P,
 en "rook_attacks" 918 (rf 454) P,
 en "bishop_attacks" 929 (rf 461) P,
 en "queen_attacks" 938 (rf 468) P,
 en "slider_attacks" 948 (rf 475) P,
 en "piece_attacks" 959 (rf 482) P,
 en "straight_sliders" 968 (rf 489) P,
 en "slanting_sliders" 975 (rf 496) P,
 en "pawn_attackers" 984 (rf 503) P,
 en "step_attackers" 995 (rf 510) P,
 en "line_attackers" 1007 (rf 517) P,
 en "attackers_to" 1017 (rf 524) P,
 en "is_attacked" 1031 (rf 531) P,
 en "checkers_of" 1040 (rf 538) P,
 en "checkers" 1047 (rf 545) P,
 en "in_check_of" 1056 (rf 552) P,
 en "in_check" 1063 (rf 559) P,
 en "snipers_of" 1073 (rf 566) P,
 en "blockers" 1088 (rf 573) P,
 en "pinned_pieces" 1096 (rf 580) P,
 en "MAY" 1100 (.int 0 1099) P,
 en "NO_WING" 1102 (.int 1 1101) P,
 en "RIGHT_LOST" 1104 (.int 2 1103) P,
 en "NOT_FREE" 1106 (.int 3 1105) P,
 en "IN_CHECK" 1108 (.int 4 1107) P,
 en "PASSES_ATTACK" 1110 (.int 5 1109) P,
 en "GOAL_ATTACKED" 1112 (.int 6 1111) P,
 en "squares_within" 1120 (rf 587) P,
 en "castle_refusal" 1135 (rf 594) P,
 en "add_castling" 1148 (rf 601) P,
 en "CAPTURES" 1152 (.int 0 1151) P,
 en "QUIETS" 1154 (.int 1 1153) P,
 en "NON_EVASIONS" 1156 (.int 2 1155) P,
 en "EVASIONS" 1158 (.int 3 1157) P,
 en "add_goals" 1168 (rf 608) P,
 en "add_piece_moves" 1181 (rf 615) P,
 en "stage_target" 1189 (rf 622) P,
 en "push_step" 1199 (rf 629) P,
 en "start_mask" 1207 (rf 636) P,
 en "last_mask" 1215 (rf 643) P,
 en "shift_push" 1224 (rf 650) P,
 en "shift_capture" 1234 (rf 657) P,
 en "push_targets" 1248 (rf 664) P,
 en "add_promotions" 1261 (rf 671) P,
 en "add_plain_pushes" 1275 (rf 678) P,
 en "add_push_promotions" 1289 (rf 685) P,
 en "add_pawn_captures" 1307 (rf 692) P,
 en "add_pawn_moves" 1317 (rf 699) P,
 en "add_en_passant" 1327 (rf 706) P,
 en "evasion_targets" 1337 (rf 713) P,
 en "passed_pawn_square" 1344 (rf 720) P,
 en "may_answer_en_passant" 1352 (rf 727) P,
 en "add_evasions" 1362 (rf 734) P,
 en "taken_square_legality" 1374 (rf 741) P,
 en "is_safe_en_passant" 1387 (rf 748) P,
 en "is_legal" 1401 (rf 755) P,
 en "generate" 1414 (rf 762) P,
 en "pseudo_moves" 1421 (rf 769) P,
 en "keep_legal" 1432 (rf 776) P,
 en "legal_moves" 1439 (rf 783) P,
 en "_law_shapes" 1447 (rf 790) P,
 en "_law_at" 1455 (rf 797) P,
 en "_law_hits" 1471 (rf 804) P,
 en "_law_beside" 1481 (rf 811) P,
 en "_law_passed" 1494 (rf 818) P,
 en "_law_kings" 1512 (rf 825) P,
 en "_law_draw" 1532 (rf 832) P,
 en "_law_play" 1554 (rf 839) P,
 en "_law_sum" 1560 (rf 844) P,
 en "_law_agrees" 1566 (rf 849) P,
 en "_law_position" 1572 (rf 854) P,
 en "law" 1593 (rf 861) P]
noncomputable def FO:List Value:=[.int 16 0,.int 0 0,rf 20,.int 18 0,.int 0 0,rf 27,.int 20 0,.int 0 0,rf 34,.int 22 0,.int 0 0,rf 41,.int 27 0,.int 0 0,rf 48,.int 29 0,.int 0 0,rf 55,.int 31 0,.int 0 0,rf 62,.int 33 0,.int 0 0,rf 69,.int 38 0,.int 0 0,rf 76,.int 45 0,.int 0 0,rf 97,.int 53 0,.int 0 0,rf 104,.int 62 0,.int 0 0,rf 111,.int 71 0,.int 0 0,rf 118,.int 80 0,.int 0 0,rf 125,.int 90 0,.int 0 0,rf 132,.int 95 0,.int 0 0,rf 152,.int 100 0,.int 0 0,rf 166,.int 117 0,.int 0 0,rf 187,.int 119 0,.int 0 0,rf 194,.int 127 0,.int 0 0,rf 201,.int 138 0,.int 0 0,rf 208,.int 153 0,.int 0 0,rf 215,.int 157 0,.int 0 0,rf 222,.int 169 0,.int 0 0,rf 229,.int 186 0,.int 0 0,rf 236,.int 197 0,.int 0 0,rf 243,.int 199 0,.int 0 0,rf 250,.int 212 0,.int 0 0,rf 257,.int 214 0,.int 0 0,rf 264,.int 227 0,.int 0 0,rf 271,.int 242 0,.int 0 0,rf 292,.int 248 0,.int 0 0,rf 299,.int 256 0,.int 0 0,rf 306,.int 265 0,.int 0 0,rf 313,.int 267 0,.int 0 0,rf 320,.int 269 0,.int 0 0,rf 327,.int 271 0,.int 0 0,rf 334,.int 274 0,.int 0 0,rf 341,.int 282 0,.int 0 0,rf 348,.int 290 0,.int 0 0,rf 355,.int 296 0,.int 0 0,rf 362,.int 305 0,.int 0 0,rf 369,.int 308 0,.int 0 0,rf 376,.int 312 0,.int 0 0,rf 383,.int 316 0,.int 0 0,rf 390,.int 320 0,.int 0 0,rf 397,.int 352 0,.int 0 0,rf 404,.int 377 0,.int 0 0,rf 411,.int 405 0,.int 0 0,rf 418,.int 410 0,.int 0 0,rf 425,.int 415 0,.int 0 0,rf 432,.int 420 0,.int 0 0,rf 439,.int 423 0,.int 0 0,rf 446,.int 438 0,.int 0 0,rf 453,.int 443 0,.int 0 0,rf 460,.int 448 0,.int 0 0,rf 467,.int 450 0,.int 0 0,rf 474,.int 458 0,.int 0 0,rf 481,.int 467 0,.int 0 0,rf 488,.int 469 0,.int 0 0,rf 495,.int 471 0,.int 0 0,rf 502,.int 473 0,.int 0 0,rf 509,.int 478 0,.int 0 0,rf 516,.int 487 0,.int 0 0,rf 523,.int 490 0,.int 0 0,rf 530,.int 500 0,.int 0 0,rf 537,.int 503 0,.int 0 0,rf 544,.int 505 0,.int 0 0,rf 551,.int 508 0,.int 0 0,rf 558,.int 510 0,.int 0 0,rf 565,.int 515 0,.int 0 0,rf 572,.int 528 0,.int 0 0,rf 579,.int 538 0,.int 0 0,rf 586,.int 542 0,.int 0 0,rf 593,.int 560 0,.int 0 0,rf 600,.int 570 0,.int 0 0,rf 607,.int 573 0,.int 0 0,rf 614,.int 578 0,.int 0 0,rf 621,.int 585 0,.int 0 0,rf 628,.int 589 0,.int 0 0,rf 635,.int 593 0,.int 0 0,rf 642,.int 597 0,.int 0 0,rf 649,.int 601 0,.int 0 0,rf 656,.int 605 0,.int 0 0,rf 663,.int 615 0,.int 0 0,rf 670,.int 627 0,.int 0 0,rf 677,.int 635 0,.int 0 0,rf 684,.int 641 0,.int 0 0,rf 691,.int 654 0,.int 0 0,rf 698,.int 660 0,.int 0 0,rf 705,.int 667 0,.int 0 0,rf 712,.int 671 0,.int 0 0,rf 719,.int 675 0,.int 0 0,rf 726,.int 679 0,.int 0 0,rf 733,.int 689 0,.int 0 0,rf 740,.int 697 0,.int 0 0,rf 747,.int 704 0,.int 0 0,rf 754,.int 720 0,.int 0 0,rf 761,.int 734 0,.int 0 0,rf 768,.int 738 0,.int 0 0,rf 775,.int 745 0,.int 0 0,rf 782,.int 748 0,.int 0 0,rf 789,.int 750 0,.int 0 0,rf 796,.int 752 0,.int 0 0,rf 803,.int 774 0,.int 0 0,rf 810,.int 778 0,.int 0 0,rf 817,.int 786 0,.int 0 0,rf 824,.int 807 0,.int 0 0,rf 831,.int 823 0,.int 0 0,rf 838,.int 852 0,.int 0 0,rf 843,.int 861 0,.int 0 0,rf 848,.int 874 0,.int 0 0,rf 853,.int 888 0,.int 0 0,rf 860]
noncomputable def statics (P:Params):Bool->Obj
 | true=>⟨.none,none,.dict ⟨[en "type.__subclasses__.Exception.0" 396 (.int 143 0) P,en "type.__subclasses__.Exception.n" 397 (.int 1 0) P]⟩ 2,⟨[]⟩⟩
 | false=>boot_o_2 P
noncomputable def dz (P:Params) (st:Bool) (e0:Value) (ts:Addr) (k3 k12 n:Nat):Heap:=
 Heap.mk ⟨boot_o_0 P::boot_o_1 P::statics P st:: ⟨.type "dict",none,.dict ⟨en "__name__" 165 e0 P:: (ents ts P).take (k3-1)⟩ k3,⟨[]⟩⟩ ::
  boot_o_4 P::boot_o_5 P::boot_o_6 P::boot_o_7 P::boot_o_8 P::boot_o_9 P::boot_o_10 P:: ⟨.type "tuple",none,.seq ⟨[]⟩ 0,⟨[]⟩⟩:: ⟨.none,none,.fields ⟨FO.take k12⟩,⟨[]⟩⟩:: (rest P).take (n-13)⟩ {}
noncomputable def mQ:Env:={ scope:=pg.main.scope,locals:=mainNs,globals:=mainNs,cells:=[],code:=.ref 13,frame:=some 14 }
noncomputable def cE:Code:=.body (behindTheImports pg) mQ
noncomputable abbrev p0:Pos:=⟨0,0,0,0⟩
noncomputable abbrev BB:List Frame:=[topFrame p0]
noncomputable def HL (P:Params):Heap:=dz P true f7 741 150 339 862
theorem pre (w:World):(λos=>topGo treeTable pg w 11 (some (.ref 6)) 12 ⟨boot_heap w.params,⟨[]⟩,boot_drawn,boot_toks,os⟩ (topStub pg))=λos=>some (⟨dz w.params false (sv "__main__" 164) 741 9 0 15,⟨[]⟩,{},187,os⟩,⟨denote treeTable cE,cE,p0,BB⟩):=by
 rw [PySem.W.Fast.te15667345088766844465,PySem.W.Fast.te14364793385576792824,PySem.W.Fast.te11892475500146522536];kernel_rfl
theorem OY (w:World):(λos=>segRun treeTable pg w 11 (some (.ref 6)) 1 1 ⟨dz w.params false (sv "__main__" 164) 741 9 0 15,⟨[]⟩,{},187,os⟩ (blockOf (behindTheImports pg) mQ cE p0 BB))=λos=>some (.next,⟨dz w.params false (sv "__main__" 164) 741 9 0 15,⟨[]⟩,{},187,os⟩,cE,p0):=by
 rw [PySem.W.Fast.te14374325043358763698,PySem.W.Fast.te14364793385576792824];kernel_rfl
noncomputable def Fj:List Stmt:=(pg.main.body.drop 0).take 30
theorem Jy (w:World):(λos=>segRun treeTable pg w 11 (some (.ref 6)) 1 774 ⟨dz w.params false (sv "__main__" 164) 741 9 0 15,⟨[]⟩,{},187,os⟩ (piecesOf Fj mQ cE ⟨0,0,0,0⟩ BB))=λos=>some (.next,⟨dz w.params false lL 741 37 42 127,⟨[]⟩,{},369,os⟩,cE,⟨80,0,88,14⟩):=by
 rw [PySem.W.Fast.te14374325043358763698,PySem.W.Fast.te14364793385576792824];kernel_rfl
noncomputable def Fi:List Stmt:=(pg.main.body.drop 30).take 30
theorem Oy (w:World):(λos=>segRun treeTable pg w 11 (some (.ref 6)) 1 1628 ⟨dz w.params false lL 741 37 42 127,⟨[]⟩,{},369,os⟩ (piecesOf Fi mQ cE ⟨80,0,88,14⟩ BB))=λos=>some (.next,⟨dz w.params true jH 741 62 111 336,⟨[]⟩,{},719,os⟩,cE,⟨273,0,273,8⟩):=by
 rw [PySem.W.Fast.te14374325043358763698,PySem.W.Fast.te14364793385576792824];kernel_rfl
noncomputable def Fh:List Stmt:=(pg.main.body.drop 60).take 30
theorem Ox (w:World):(λos=>segRun treeTable pg w 11 (some (.ref 6)) 1 892 ⟨dz w.params true jH 741 62 111 336,⟨[]⟩,{},719,os⟩ (piecesOf Fh mQ cE ⟨273,0,273,8⟩ BB))=λos=>some (.next,⟨dz w.params true iB 349 89 189 518,⟨[]⟩,{},1008,os⟩,cE,⟨478,0,486,15⟩):=by
 rw [PySem.W.Fast.te14374325043358763698,PySem.W.Fast.te14364793385576792824];kernel_rfl
noncomputable def Fg:List Stmt:=(pg.main.body.drop 90).take 25
theorem Ow (w:World):(λos=>segRun treeTable pg w 11 (some (.ref 6)) 1 507 ⟨dz w.params true iB 349 89 189 518,⟨[]⟩,{},1008,os⟩ (piecesOf Fg mQ cE ⟨478,0,486,15⟩ BB))=λos=>some (.next,⟨dz w.params true p8 349 112 225 602,⟨[]⟩,{},1159,os⟩,cE,⟨569,0,569,8⟩):=by
 rw [PySem.W.Fast.te14374325043358763698,PySem.W.Fast.te14364793385576792824];kernel_rfl
noncomputable def Ff:List Stmt:=(pg.main.body.drop 115).take 20
theorem Ov (w:World):(λos=>segRun treeTable pg w 11 (some (.ref 6)) 1 605 ⟨dz w.params true p8 349 112 225 602,⟨[]⟩,{},1159,os⟩ (piecesOf Ff mQ cE ⟨569,0,569,8⟩ BB))=λos=>some (.next,⟨dz w.params true nz 349 130 279 728,⟨[]⟩,{},1353,os⟩,cE,⟨675,0,678,69⟩):=by
 rw [PySem.W.Fast.te14374325043358763698,PySem.W.Fast.te14364793385576792824];kernel_rfl
noncomputable def Fe:List Stmt:=(pg.main.body.drop 135).take 24
theorem Jw (w:World):(λos=>segRun treeTable pg w 11 (some (.ref 6)) 1 706 ⟨dz w.params true nz 349 130 279 728,⟨[]⟩,{},1353,os⟩ (piecesOf Fe mQ cE ⟨675,0,678,69⟩ BB))=λos=>some (.next,⟨HL w.params,⟨[]⟩,{},1594,os⟩,cE,⟨888,0,924,61⟩):=by
 rw [PySem.W.Fast.te14374325043358763698,PySem.W.Fast.te14364793385576792824];kernel_rfl
theorem J7 (w:World):(λos=>topRun treeTable pg w 11 (some (.ref 6)) 2 ⟨HL w.params,⟨[]⟩,{},1594,os⟩ (restOf [] mQ cE ⟨888,0,924,61⟩ BB))=λos=>some ⟨HL w.params,⟨[]⟩,{},1594,os⟩:=by
 rw [PySem.W.Fast.te14082659384304107361,PySem.W.Fast.te14364793385576792824];kernel_rfl
theorem Eo:behindTheImports pg=Fj++ (Fi++ (Fh++ (Fg++ (Ff++ (Fe++ []))))):=by kernel_rfl
theorem run (w:World) (os:OsState):topRun treeTable pg w 11 (some (.ref 6)) (12+(1+(774+(1628+(892+(507+(605+(706+2)))))))) ⟨boot_heap w.params,⟨[]⟩,boot_drawn,boot_toks,os⟩ (topStub pg)=some ⟨HL w.params,⟨[]⟩,{},1594,os⟩:=
 go_top (congrFun (pre w) os) (piece_block (congrFun (OY w) os) ((congrArg (λl=>topRun treeTable pg w 11 (some (.ref 6)) (774+(1628+(892+(507+(605+(706+2)))))) ⟨dz w.params false (sv "__main__" 164) 741 9 0 15,⟨[]⟩,{},187,os⟩ (restOf l mQ cE p0 BB)) Eo).trans
  (piece_app (congrFun (Jy w) os) (piece_app (congrFun (Oy w) os) (piece_app (congrFun (Ox w) os) (piece_app (congrFun (Ow w) os) (piece_app (congrFun (Ov w) os) (piece_app (congrFun (Jw w) os) (congrFun (J7 w) os)))))))))
noncomputable def total:Nat:=12+(1+(774+(1628+(892+(507+(605+(706+2)))))))
noncomputable def vw:Program:={ pg with main:={ pg.main with body:=[bM 158] } }
noncomputable def lo:List Str:=[so "WHITE",so "BLACK",so "NO_KIND",so "PAWN",so "KNIGHT",so "BISHOP",so "ROOK",so "QUEEN",so "KING",so "EMPTY",so "NORMAL",so "PROMOTION",so "EN_PASSANT",so "CASTLING",so "make_piece",so "side_of",so "kind_of",so "pack_move",so "move_from",so "move_to",so "move_special",so "move_promo",so "Zobrist",so "state_key",so "full_key",so "pawn_key",so "non_pawn_key",so "material_key",so "ChessError",so "BadMove",so "STEP_FILES",so "STEP_RANKS",so "Geometry",so "is_growing",so "add_masks",so "inner_squares",so "add_rays",so "add_pawns",so "add_knights",so "add_castles",so "make_geometry",so "more_than_one",so "highest",so "lowest",so "squares_of",so "Position",so "put_piece",so "take_piece",so "shift_piece",so "occupied",so "pieces",so "king_square",so "settle_key",so "moved_piece",so "taken_square",so "taken_square_makemove",so "rook_step",so "passed_square",so "kept_rights",so "clear_ep_key",so "set_ep_key",so "set_rights_key",so "do_move",so "undo_move",so "key_after",so "direction",so "between",so "line",so "aligned",so "ray_attacks",so "rook_attacks",so "bishop_attacks",so "queen_attacks",so "slider_attacks",so "piece_attacks",so "straight_sliders",so "slanting_sliders",so "pawn_attackers",so "step_attackers",so "line_attackers",so "attackers_to",so "is_attacked",so "checkers_of",so "checkers",so "in_check_of",so "in_check",so "snipers_of",so "blockers",so "pinned_pieces",so "MAY",so "NO_WING",so "RIGHT_LOST",so "NOT_FREE",so "IN_CHECK",so "PASSES_ATTACK",so "GOAL_ATTACKED",so "squares_within",so "castle_refusal",so "add_castling",so "CAPTURES",so "QUIETS",so "NON_EVASIONS",so "EVASIONS",so "add_goals",so "add_piece_moves",so "stage_target",so "push_step",so "start_mask",so "last_mask",so "shift_push",so "shift_capture",so "push_targets",so "add_promotions",so "add_plain_pushes",so "add_push_promotions",so "add_pawn_captures",so "add_pawn_moves",so "add_en_passant",so "evasion_targets",so "passed_pawn_square",so "may_answer_en_passant",so "add_evasions",so "taken_square_legality",so "is_safe_en_passant",so "is_legal",so "generate",so "pseudo_moves",so "keep_legal",so "legal_moves",so "_law_shapes",so "_law_at",so "_law_hits",so "_law_beside",so "_law_passed",so "_law_kings",so "_law_draw",so "_law_play",so "_law_sum",so "_law_agrees",so "_law_position"]
noncomputable def CU:Nat->List Obj->Frag
 | _,[]=>[]
 | n,o::r=>(n,o)::CU (n+1) r
noncomputable def KK (P:Params):Frag:=CU 2 (((HL P).objs.toList.drop 2).take 2)++CU 11 ((HL P).objs.toList.drop 11)
noncomputable def adr:List Addr:=2::3:: (List.range 851).map (·+11)
theorem EE (P:Params):adr=(KK P).map (·.1):=by kernel_rfl
noncomputable def HK:Hook:=kHook KK adr EE
noncomputable def xt (s:Shared):Bool:=xlAt vw [] s && recOk (RowW.records (OpenRow.toRowW PySem.Challenge.rw_nt0467_01.row)) s
theorem OH (w:World):(λos=>(staticsOk (importedModules pg.main.body) (boot_heap w.params) (HL w.params) && namesBound pg (HL w.params) && gensDone ⟨HL w.params,⟨[]⟩,{},1594,os⟩ && laidKept (boot_heap w.params) (HL w.params)))=λ_:OsState=>true:=by
 rw [PySem.W.Fast.te5923862056798008813];kernel_rfl
theorem OG (w:World):(λos=>openSeen vw lo (importedModules pg.main.body) xt true ⟨HL w.params,⟨[]⟩,{},1594,os⟩)=λ_:OsState=>openGood vw lo:=by
 rw [PySem.W.Fast.te4187177175401517315];kernel_rfl
theorem OF (w:World):(λos=>HK.obs ⟨HL w.params,⟨[]⟩,{},1594,os⟩)=λ_:OsState=>HK.val w:=by kernel_rfl
theorem left:LeftO pg vw lo xt HK.obs HK.val 10338:=
 LeftO.of_pieces (H₀:=boot_heap) (H₁:=HL) (gs₀:=⟨[]⟩) (gs₁:=⟨[]⟩) (d₀:=boot_drawn) (d₁:={}) (k₀:=boot_toks) (k₁:=1594) (m₀:=11) (ann:=some (.ref 6)) (M:=12+(1+(774+(1628+(892+(507+(605+(706+2))))))))
  (boot_open (by kernel_rfl) (by decide +kernel) (by rw [PySem.W.Fast.te14289696077712309145];intro s;kernel_rfl)) (λw=>by rw [PySem.W.Fast.te8920871248978507458];kernel_rfl) run (by decide +kernel)
  (λw=>funext λos=>looks_pair (congrFun (OH w) os) (looks_pair (congrFun (OG w) os) (congrFun (OF w) os)))
end InternalH
end
section
open PySem PySem.W PyProof.Rows
set_option maxRecDepth 1000000
set_option maxHeartbeats 8000000
namespace InternalH
noncomputable abbrev rl:OpenLaw:=PySem.Challenge.rw_nt0467_01
theorem Oc:namesResolve rl.row.prog=true:=by rw [PySem.W.Fast.te8377067652309620493];kernel_rfl
theorem Oa:noRoadLSs { strict:=!(importedModules rl.row.prog.main.body).all cThrough.contains,foot:=none,bare:=(["vars","dir","locals"]:List Str).filter (readsOut rl.row.prog rl.row.prog.main.body) } rl.row.prog.main.body=true:=by
 rw [PySem.W.Fast.te8326940854005059898];kernel_rfl
theorem N9:namesMeet rl.row.prog rl.row.prog.main.body (λ_ n=>attrL n)=true:=by rw [PySem.W.Fast.te17119622794617984870];kernel_rfl
theorem N8:rl.row.prog.boundNames.all (λn=>!worldNames.contains n)=true:=by rw [PySem.W.Fast.te18344453789297297638];kernel_rfl
theorem N7:looksOpen rl.row.prog=true:=by
 refine look_both (look_both (look_both (look_both (look_both ?_ ?_) Oc) N8) Oa) N9
 ·rw [PySem.W.Fast.te11788848310118352699];kernel_rfl
 ·rw [PySem.W.Fast.te9807087744658564304,PySem.W.Fast.te12862048085361865435];kernel_rfl
theorem N6:OpenRow.wellSaid rl.row=true:=by
 refine look_both (look_both (look_both (look_both (look_both (look_both (look_both (look_both (look_both (look_both (look_both (look_both (look_both (look_both (look_both N7 ?_) ?_) ?_) ?_) ?_) ?_) ?_) ?_) ?_) ?_) ?_) ?_) ?_) ?_) ?_
 all_goals kernel_rfl
theorem N5:rl.bound'.all (λn=>!builtinNamed n || rl.about == [n] || !rl.reads n)=true:=by kernel_rfl
theorem N4:namesMeet rl.prog rl.above (λ_ n=>!rl.own.contains n)=true:=by rw [PySem.W.Fast.te17119622794617984870];kernel_rfl
theorem N3:noRoadLSs { strict:=true,foot:=some rl.bound',writes:=rl.writes,may:=rl.may } rl.footing=true:=by rw [PySem.W.Fast.te8326940854005059898];kernel_rfl
theorem Jb:namesMeet rl.prog rl.footing (λsc n=>(!(["type","isinstance","issubclass","getattr","hasattr"]:List Str).contains n || sc.names.lookup n == some .globalImplicit) &&
 (rl.may !=some n || sc.kind ==.module || sc.names.lookup n == some .globalImplicit))=true:=by rw [PySem.W.Fast.te17119622794617984870];kernel_rfl
theorem Ja:namesMeet rl.prog rl.footing (λsc n=>sc.kind ==.module || sc.names.lookup n !=some .globalExplicit)=true:=by rw [PySem.W.Fast.te17119622794617984870];kernel_rfl
theorem ws:OpenLaw.wellSaid rl=true:=by
 refine look_both (look_both (look_both (look_both (look_both (look_both (look_both (look_both (look_both (look_both (look_both (look_both (look_both (look_both (look_both (look_both (look_both (look_both N6 ?_) ?_) ?_) ?_) ?_) N3) ?_) ?_) ?_) N5) ?_) ?_) Jb) ?_) ?_) ?_) N4) Ja
 ·kernel_rfl
 ·kernel_rfl
 ·rw [PySem.W.Fast.te8179353310426384613];kernel_rfl
 ·kernel_rfl
 ·kernel_rfl
 ·rw [PySem.W.Fast.te9558739934217749035];kernel_rfl
 all_goals kernel_rfl
end InternalH
end
section
open PySem PySem.W PySem.Calls PyProof.Rows
set_option maxRecDepth 1000000
set_option maxHeartbeats 8000000
namespace Internal
theorem GJ (p:Params):gt.all (DQ (InternalH.KK p))=true:=by kernel_rfl
theorem Hd (p:Params):[0,1,2].all (ph (InternalH.KK p))=true:=by kernel_rfl
theorem GU (p:Params):jo.all (λq=>tJ (InternalH.KK p) (fa q.1) q.2)=true:=by kernel_rfl
theorem H8 (p:Params):jo.map (λq=>mf (InternalH.KK p) (fa q.1) q.2)=jo.map (λq=>q.2.body):=by kernel_rfl
theorem wF {α:Type}:∀{l:List (Nat×α)} {n:Nat} {c:α},l.lookup n=some c->(n,c)∈l
 | (k,v)::r,n,c,h=>by
  rw [List.lookup_cons] at h
  cases hb:n == k with
  | true=>rw [hb] at h;cases h;rw [beq_iff_eq.mp hb];exact List.mem_cons_self
  | false=>rw [hb] at h;exact List.mem_cons_of_mem _ (wF h)
theorem JE:∀c:Nat,c<3->c∈[0,1,2]:=by decide
theorem Ca {K:Frag} {base:Heap} (X:K.In base) (hlim:base.NoLimit) (hg:∃mg,base.Ns mainGlobals mg) (hb:∃mb,base.Ns builtinsNs mb/\∀x,x≠("__name__":Str)->mb x=bootBuiltins x)
 (g1:gt.all (DQ K)=true) (c1:[0,1,2].all (ph K)=true) (f1:jo.all (λq=>tJ K (fa q.1) q.2)=true) (b1:jo.map (λq=>mf K (fa q.1) q.2)=jo.map (λq=>q.2.body)):E1 K base ca fa:=by
 have G:∀n g,de n gt=some g->DQ K (n,g)=true:=λn g h=>List.all_eq_true.mp g1 _ (nH h);have C:∀c,c<3->ph K c=true:=λc hc=>List.all_eq_true.mp c1 c (JE c hc);have M:∀k F,code k=some F->(k,F)∈jo:=λk F h=>wF h;have B:∀q∈jo,mf K (fa q.1) q.2=q.2.body:=λq hq=>List.map_inj_left.mp b1 q hq;have FF:∀k F,code k=some F->FnAt K (fa k) F:=λk F h=>xn (List.all_eq_true.mp f1 (k,F) (M k F h)) (B (k,F) (M k F h))
 refine ⟨X,hlim,hg,hb,⟨λc hc n hn=>band (C c hc) λh _=>band (List.all_eq_true.mp h n (List.mem_range.mpr hn)) λh1 h2=>band h2 λh2 h3=>⟨h1,oY h2,oY h3⟩,λc hc=>band (C c hc) λ_ h=>band h λh1 h=>band h λh2 h=>band h λh3 _=>⟨h1,h2,AZ (eq_of_beq h3)⟩⟩,
  λn i h=>band (G n _ h) λ_ h=>yC (eq_of_beq h),λn is h=>band (G n _ h) λ_ h=>?_,λn k h=>band (G n _ h) λ_ h=>band h λh1 h2=>⟨jv (eq_of_beq h1),h2⟩,
  λn c h=>band (G n _ h) λ_ h=>band h λh1 h=>band h λh2 h3=>⟨jv (eq_of_beq h2),h3,of_decide_eq_true h1⟩,λn b h=>band (G n _ h) λ_ h=>band h λh1 h=>band h λh2 h3=>⟨oY h1,eq_of_beq h2,by simpa using h3⟩,
  λn g h=>band (G n _ h) λh _=>(Bool.not_eq_true' _).mp h,FF,λc hc=>band (C c hc) λ_ h=>band h λ_ h=>band h λ_ h=>band h λ_ h=>band h λh1 h=>band h λh2 h3=>⟨h1,jv (eq_of_beq h2),h3⟩⟩
 obtain ⟨a,ha,h⟩:=anyOf h;obtain ⟨o,ho,h⟩:=anyOf h;obtain ⟨l,hl,h⟩:=anyOf h;exact band h λh1 h2=>⟨a,l,jv ha,by rw [ho,qa hl],qV h1,of_decide_eq_true h2⟩
theorem Oh {w:World} {base:Heap} (X:(InternalH.KK w.params).In base) (hlim:base.NoLimit) (hg:∃mg,base.Ns mainGlobals mg) (hb:∃mb,base.Ns builtinsNs mb/\∀x,x≠("__name__":Str)->mb x=bootBuiltins x) :
 E1 (InternalH.KK w.params) base ca fa:=Ca X hlim hg hb (GJ _) (Hd _) (GU _) (H8 _)
end Internal
end
section
open PySem PySem.W PyProof.Rows
set_option maxRecDepth 1000000
set_option maxHeartbeats 8000000
open Internal InternalH in
theorem PySem.Challenge.cw_nt0467_01_holds : PySem.Challenge.rw_nt0467_01.Holds := by
 w_on
 refine holds_law ws λsaid=>?_;refine holds_open (q:=vw) (loose:=InternalH.lo) (Xt:=xt) (XP:=XL vw []) (Yf:=HK.obs) (Ya:=HK.val) (YP:=HK.says) (N:=10338) left HK.of HK.keeps (λs e=>xl_of s (Bool.and_eq_true_iff.mp e).1) XL.keeps (by rfl) (by rfl) (by rfl) (λs e=>recFacts_of (Bool.and_eq_true_iff.mp e).2) (by rfl) said (by decide +kernel) ⟨rfl,rfl,rfl,rfl,rfl,by decide +kernel⟩ ?hw ?hc
 case hw=>w_witness2
 intro w s₀ s₁ mg mb G Y fa o pm cd doc dV kV ho hd hcd hD hmg hg args vals as hpre hlay hrd hwl hlo;have KX:=kIn_of Y;have X:=(Ground.X G).1;have V:=(Ground.X G).2;refine Ground.open G ?_;intro T B D TE TW
 try (refine guard_noD D (by decide +kernel) ?_;clear D)
 obtain ⟨_,_,M⟩:=bmod_of_top T;have TA:=at_of_top T
 try (obtain ⟨_,_,he,B0⟩:=based_of_top T rfl hmg ho hd;have he':cd=_:=he;subst he';clear he)
 clear hmg
 wrow_args hpre hlay hrd hwl hlo
 refine enter_call ?_
 w_top on
 try refine codeAny_mono ?_ (λ_ _ g=>GoodW.toG g)
 have K0:=below_caller (Top.heap T)
 w_call any ho hd hcd hD T F
 clear hd TA
 k_drop
 rename Top _ _ _ _ _ _=>T
 rename Fr _ _ _ _=>F
 rename IntsAre _ _=>hI
 rename Heap.IsList _ _ _=>hL
 rename ¬(_<_)=>hlen
 have Z:=Oh KX T.nolimit ⟨_,T.g⟩ ⟨_,T.b,T.builtins⟩;refine wpAny_mono (uq Z F rfl hI hL (by lia) rfl (Nat.le_of_ble_eq_true (by kernel_rfl)) (Nat.le_of_ble_eq_true (by kernel_rfl)) (by kernel_rfl) (by kernel_rfl)) (λf s' h=>?_) λ_ _ h=>h;obtain ⟨rfl,⟨m',F'⟩,h1,h2⟩:=h;exact goodW_bool F' (h1.trans hg) (λ_=>rfl) (postW_of rfl rfl (by first | simp [same] | kernel_rfl | decide)) h2
end
